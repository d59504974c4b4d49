import PyProof.Rows.All
import Wide.All
import OpenK.AllK
import Wide.FinOn
import HandS.ForMost
import HandS.ForExc
import HandS.Evl
import HandS.IsInst
import HandS.SortInts
import HandS.SortKw
import HandS.RevRange
import HandS.Style
import HandS.Flow
import HandS.Zip
import PySem.Challenge.RW_evenhand_k03_taken_and_given
set_option Elab.async false
set_option linter.all false
set_option maxRecDepth 100000
set_option maxHeartbeats 4000000
/-! Wk: readings as evaluations over a known heap (Sv, EvP, ..), own layer over Evl. -/
namespace Wk
open PySem PySem.Spec PyProof.Rows L2 Evl

/-! ### statements over a known heap -/
def Sv (t : TS) (D : Ends) (s : L2.St) (H : Hp) : Prop := ∀ H1, Ex H H1 → t D s H1
/-- as a def's body wants it -/
theorem Sv.go {t : TS} {D : Ends} {s : L2.St} {H : Hp} (h : Sv t D s H) : t D s H := h H (Ex.refl H)
theorem Sv.mono {t : TS} {D : Ends} {s : L2.St} {H H' : Hp} (h : Sv t D s H) (e : Ex H H') : Sv t D s H' := fun H1 e1 => h H1 (e.trans e1)

class MonoP (P : V → Hp → Prop) : Prop where
  mono : ∀ {x : V} {H H' : Hp}, Ex H H' → P x H → P x H'
def Is (v : V) : V → Hp → Prop := fun x _ => x = v
def IsL (xs : List V) : V → Hp → Prop := fun x H => ∃ p, x = .ref p ∧ H p = some (.lst xs)
def IsU (xs : List V) : V → Hp → Prop := fun x H => ∃ p, x = .ref p ∧ H p = some (.tup xs)
instance {v : V} : MonoP (Is v) := ⟨fun _ h => h⟩
instance {xs : List V} : MonoP (IsL xs) := ⟨fun e ⟨p, a, b⟩ => ⟨p, a, e _ _ b⟩⟩
instance {xs : List V} : MonoP (IsU xs) := ⟨fun e ⟨p, a, b⟩ => ⟨p, a, e _ _ b⟩⟩

def EvP (te : TE) (s : L2.St) (H : Hp) (P : V → Hp → Prop) : Prop := ∀ H1, Ex H H1 → ∀ Q : VK, (∀ v H2, Ex H1 H2 → P v H2 → Q v H2) → te s H1 Q
def EvAP (ta : TA) (s : L2.St) (H : Hp) (P : List V → Hp → Prop) : Prop := ∀ H1, Ex H H1 → ∀ Q : List V → Hp → Prop, (∀ v H2, Ex H1 H2 → P v H2 → Q v H2) → ta s H1 Q

section
variable {K : PySem.W.Frag} {s : L2.St} {H H' : Hp} {ta tb te tx tc : TE} {t u : TT} {x y z v : V} {r : R2} {P R : V → Hp → Prop} {D : Ends} {tu tw tz : TS} {g : TG}

theorem _root_.Evl.Ev.p (h : Ev te s H v) : EvP te s H (Is v) := fun H1 e Q q => h H1 e Q fun H2 e2 => q v H2 e2 rfl
theorem _root_.Evl.EvL.p {xs : List V} (h : EvL te s H xs) : EvP te s H (IsL xs) := fun H1 e Q q => h H1 e Q fun p H2 _ e2 hp => q _ H2 e2 ⟨p, rfl, hp⟩
theorem evU_p {xs : List V} (h : EvU te s H xs) : EvP te s H (IsU xs) := fun H1 e Q q => h H1 e Q fun p H2 _ e2 hp => q _ H2 e2 ⟨p, rfl, hp⟩
theorem EvP.mono (e : Ex H H') (h : EvP te s H P) : EvP te s H' P := fun H1 a Q q => h H1 (e.trans a) Q q
theorem EvP.imp (h : EvP te s H P) (k : ∀ v H1, Ex H H1 → P v H1 → R v H1) : EvP te s H R := fun H1 e Q q => h H1 e Q fun v H2 e2 p => q v H2 e2 (k v H2 (e.trans e2) p)
theorem evp_is (h : EvP te s H (Is v)) : Ev te s H v := fun H1 e Q q => h H1 e Q fun w H2 e2 p => by cases p; exact q H2 e2

/-! arguments -/
theorem ap_nil : EvAP tNil s H (fun vs _ => vs = []) := fun H1 _ _ q => q _ H1 (Ex.refl H1) rfl
theorem ap_cons {tr : TA} {R : List V → Hp → Prop} [MonoP P] (h : EvP te s H P) (hr : EvAP tr s H R) : EvAP (tCons te tr) s H (fun vs H => ∃ v r, vs = v :: r ∧ P v H ∧ R r H) := fun H1 e Q q =>
  h H1 e _ fun v H2 e2 p => hr H2 (e.trans e2) _ fun vs H3 e3 p3 => q _ H3 (e2.trans e3) ⟨v, vs, rfl, MonoP.mono e3 p, p3⟩
theorem ap_one (h : EvP te s H P) : EvAP (tCons te tNil) s H (fun vs H => ∃ v, vs = [v] ∧ P v H) := fun H1 e Q q =>
  h H1 e _ fun v H2 e2 p => q _ H2 e2 ⟨v, rfl, p⟩
theorem ap_two [MonoP P] (h : EvP ta s H P) (h2 : EvP tb s H R) : EvAP (tCons ta (tCons tb tNil)) s H (fun vs H => ∃ v w, vs = [v, w] ∧ P v H ∧ R w H) := fun H1 e Q q =>
  h H1 e _ fun v H2 e2 p => h2 H2 (e.trans e2) _ fun w H3 e3 p3 => q _ H3 (e2.trans e3) ⟨v, w, rfl, MonoP.mono e3 p, p3⟩
theorem ap_three {S : V → Hp → Prop} [MonoP P] [MonoP R] (h : EvP ta s H P) (h2 : EvP tb s H R) (h3 : EvP tc s H S) : EvAP (tCons ta (tCons tb (tCons tc tNil))) s H (fun vs H => ∃ v w x, vs = [v, w, x] ∧ P v H ∧ R w H ∧ S x H) := fun H1 e Q q =>
  h H1 e _ fun v H2 e2 p => h2 H2 (e.trans e2) _ fun w H3 e3 p3 => h3 H3 ((e.trans e2).trans e3) _ fun x H4 e4 p4 => q _ H4 ((e2.trans e3).trans e4) ⟨v, w, x, rfl, MonoP.mono (e3.trans e4) p, MonoP.mono e4 p3, p4⟩

/-! operators, calls of built-ins and of own defs, with described operands -/
theorem ev_opP [MonoP P] (ha : EvP ta s H P) (hb : EvP tb s H R) (hr : ∀ a b H1, Ex H H1 → P a H1 → R b H1 → RV r a b H1 z) : Ev (tOp r ta tb) s H z := fun H1 e Q q =>
  ha H1 e _ fun a H2 e2 p => hb H2 (e.trans e2) _ fun b H3 e3 p3 => hr a b H3 ((e.trans e2).trans e3) (MonoP.mono e3 p) p3 H3 (Ex.refl H3) Q fun H4 e4 => q H4 ((e2.trans e3).trans e4)
theorem ev_cbP {r : List V → Hp → VK → Prop} {ta : TA} {P : List V → Hp → Prop} (h : EvAP ta s H P) (hr : ∀ vs H1, Ex H H1 → P vs H1 → RC r vs H1 z) : Ev (tCB r ta) s H z := fun H1 e Q q =>
  h H1 e _ fun vs H2 e2 p => hr vs H2 (e.trans e2) p H2 (Ex.refl H2) Q fun H3 e3 => q H3 (e2.trans e3)
theorem el_cbP {r : List V → Hp → VK → Prop} {ta : TA} {P : List V → Hp → Prop} {xs : List V} (h : EvAP ta s H P) (hr : ∀ vs H1, Ex H H1 → P vs H1 → RCL r vs H1 xs) : EvL (tCB r ta) s H xs := fun H1 e Q q =>
  h H1 e _ fun vs H2 e2 p => hr vs H2 (e.trans e2) p H2 (Ex.refl H2) Q fun l H3 hl e3 h3 => q l H3 (fresh_back e2 hl) (e2.trans e3) h3
theorem ev_callP {sp : Sp} {E : XK} {ta : TA} {P : List V → Hp → Prop} (h : EvAP ta s H P) (hs : ∀ vs H1, Ex H H1 → P vs H1 → ∀ Q : VK, (∀ H2, Ex H1 H2 → Q z H2) → sp vs H1 Q E) : Ev (tCall sp [] E ta) s H z := fun H1 e Q q =>
  h H1 e _ fun vs H2 e2 p => by
    rw [List.append_nil]
    exact hs vs H2 (e.trans e2) p Q fun H3 e3 => q H3 (e2.trans e3)
theorem el_callP {sp : Sp} {E : XK} {ta : TA} {P : List V → Hp → Prop} {xs : List V} (h : EvAP ta s H P) (hs : ∀ vs H1, Ex H H1 → P vs H1 → ∀ Q : VK, (∀ p H2, H1 p = none → Ex H1 H2 → H2 p = some (.lst xs) → Q (.ref p) H2) → sp vs H1 Q E) : EvL (tCall sp [] E ta) s H xs := fun H1 e Q q =>
  h H1 e _ fun vs H2 e2 p => by
    rw [List.append_nil]
    exact hs vs H2 (e.trans e2) p Q fun l H3 hl e3 h3 => q l H3 (fresh_back e2 hl) (e2.trans e3) h3
theorem evp_callP {sp : Sp} {E : XK} {ta : TA} {P : List V → Hp → Prop} {R : V → Hp → Prop} (h : EvAP ta s H P) (hs : ∀ vs H1, Ex H H1 → P vs H1 → ∀ Q : VK, (∀ v H2, Ex H1 H2 → R v H2 → Q v H2) → sp vs H1 Q E) : EvP (tCall sp [] E ta) s H R := fun H1 e Q q =>
  h H1 e _ fun vs H2 e2 p => by
    rw [List.append_nil]
    exact hs vs H2 (e.trans e2) p Q fun v H3 e3 h3 => q v H3 (e2.trans e3) h3

theorem ev_chain {r r' : R2} {a b : Bool} (ha : Ev ta s H x) (hb : Ev tb s H y) (hr : RV r x y H (.bl a)) (h2 : a = true → Ev tc s H z ∧ RV r' y z H (.bl b)) : Ev (tChain r r' ta tb tc) s H (.bl (a && b)) := fun H1 e Q q =>
  ha H1 e _ fun H2 e2 => hb H2 (e.trans e2) _ fun H3 e3 => hr H3 ((e.trans e2).trans e3) _ fun H4 e4 => ⟨a, rfl, by
    cases a with
    | true =>
      obtain ⟨k1, k2⟩ := h2 rfl
      show tc s H4 fun w' H5 => r' y w' H5 Q
      exact k1 H4 (((e.trans e2).trans e3).trans e4) _ fun H5 e5 => k2 H5 ((((e.trans e2).trans e3).trans e4).trans e5) Q fun H6 e6 => q H6 ((((e2.trans e3).trans e4).trans e5).trans e6)
    | false =>
      show Q (.bl false) H4
      exact q H4 ((e2.trans e3).trans e4)⟩
/-- an int of which something is known -/
def IsI (p : Int → Prop) : V → Hp → Prop := fun x _ => ∃ i, x = .int i ∧ p i
instance {p : Int → Prop} : MonoP (IsI p) := ⟨fun _ h => h⟩
def RVP (r : R2) (x y : V) (H : Hp) (S : V → Hp → Prop) : Prop := ∀ H1, Ex H H1 → ∀ Q : VK, (∀ z H2, Ex H1 H2 → S z H2 → Q z H2) → r x y H1 Q
theorem evp_op {S : V → Hp → Prop} [MonoP P] (ha : EvP ta s H P) (hb : EvP tb s H R) (hr : ∀ a b H1, Ex H H1 → P a H1 → R b H1 → RVP r a b H1 S) : EvP (tOp r ta tb) s H S := fun H1 e Q q =>
  ha H1 e _ fun a H2 e2 p => hb H2 (e.trans e2) _ fun b H3 e3 p3 => hr a b H3 ((e.trans e2).trans e3) (MonoP.mono e3 p) p3 H3 (Ex.refl H3) Q fun z H4 e4 sz => q z H4 ((e2.trans e3).trans e4) sz
theorem evp_int {g : Int → Int → Int} {p q w : Int → Prop} (ha : EvP ta s H (IsI p)) (hb : EvP tb s H (IsI q)) (h : ∀ i j, p i → q j → w (g i j)) : EvP (tOp (rI0 fun i j => .int (g i j)) ta tb) s H (IsI w) :=
  evp_op ha hb fun a b H1 _ ⟨i, ea, pi⟩ ⟨j, eb, pj⟩ H2 _ Q k => ⟨i, j, ea, eb, k _ H2 (Ex.refl H2) ⟨_, rfl, h i j pi pj⟩⟩
theorem evp_intC {C : Int → Int → Prop} {g : Int → Int → Int} {p q w : Int → Prop} (ha : EvP ta s H (IsI p)) (hb : EvP tb s H (IsI q)) (hc : ∀ i j, p i → q j → C i j) (h : ∀ i j, p i → q j → w (g i j)) : EvP (tOp (rI C fun i j => .int (g i j)) ta tb) s H (IsI w) :=
  evp_op ha hb fun a b H1 _ ⟨i, ea, pi⟩ ⟨j, eb, pj⟩ H2 _ Q k => ⟨i, j, ea, eb, hc i j pi pj, k _ H2 (Ex.refl H2) ⟨_, rfl, h i j pi pj⟩⟩
theorem evp_neg {p w : Int → Prop} (ha : EvP ta s H (IsI p)) (h : ∀ i, p i → w (-i)) : EvP (tUn (rU fun i => .int (-i)) ta) s H (IsI w) := fun H1 e Q k =>
  ha H1 e _ fun a H2 e2 ⟨i, ea, pi⟩ => ⟨i, ea, k _ H2 e2 ⟨_, rfl, h i pi⟩⟩
theorem ev_i {i : Int} {p : Int → Prop} (h : Ev te s H (.int i)) (hp : p i) : EvP te s H (IsI p) := fun H1 e Q q => h H1 e Q fun H2 e2 => q _ H2 e2 ⟨i, rfl, hp⟩
theorem evp_ii {p q : Int → Prop} (h : EvP te s H (IsI p)) (k : ∀ i, p i → q i) : EvP te s H (IsI q) := h.imp fun v H1 _ ⟨i, e, pi⟩ => ⟨i, e, k i pi⟩
theorem EvAP.imp {ta : TA} {P R : List V → Hp → Prop} (h : EvAP ta s H P) (k : ∀ v H1, Ex H H1 → P v H1 → R v H1) : EvAP ta s H R := fun H1 e Q q => h H1 e Q fun v H2 e2 p => q v H2 e2 (k v H2 (e.trans e2) p)
/-- a list display of which little is known -/
theorem evp_lst {ta : TA} {P : List V → Prop} (h : EvAP ta s H (fun vs _ => P vs)) (hz : ∀ vs, P vs → vs.length ≤ 100000) : EvP (tLst ta) s H (fun x H2 => ∃ p vs, x = .ref p ∧ H p = none ∧ H2 p = some (.lst vs) ∧ P vs) := fun H1 e Q q =>
  h H1 e _ fun vs H2 e2 pv => ⟨sz_of (hz vs pv), fun p hp => q _ _ (e2.trans (Ex.new hp)) ⟨p, vs, rfl, fresh_back (e.trans e2) hp, upd_same, pv⟩⟩
/-- a test of which it isn't known how it ends -/
theorem w_if2 (h : ∀ H1, Ex H H1 → ∀ Q : Bool → Hp → Prop, (∀ b H2, Ex H1 H2 → Q b H2) → t s H1 Q) (h1 : Sv tu { D with nx := tz D } s H) (h2 : Sv tw { D with nx := tz D } s H) : Sv (tSeq (tIfS t tu tw) tz) D s H := fun H1 e1 =>
  h H1 e1 _ fun b H2 e2 => by
    cases b with
    | true => exact h1 H2 (e1.trans e2)
    | false => exact h2 H2 (e1.trans e2)
/-- a conditional whose test isn't told -/
theorem evp_if2 {S : V → Hp → Prop} (h : ∀ H1, Ex H H1 → ∀ Q : Bool → Hp → Prop, (∀ b H2, Ex H1 H2 → Q b H2) → t s H1 Q) (h1 : EvP ta s H S) (h2 : EvP tb s H S) : EvP (tIf t ta tb) s H S := fun H1 e Q q =>
  h H1 e _ fun b H2 e2 => by
    cases b with
    | true => exact h1 H2 (e.trans e2) Q fun v H3 e3 p => q v H3 (e2.trans e3) p
    | false => exact h2 H2 (e.trans e2) Q fun v H3 e3 p => q v H3 (e2.trans e3) p
/-- a def that hands back its argument, a new list -/
theorem el_through {sp : Sp} {E : XK} {xs : List V} (h : EvL te s H xs) (hs : ∀ p H1, Ex H H1 → H1 p = some (.lst xs) → ∀ Q : VK, (∀ H2, Ex H1 H2 → Q (.ref p) H2) → sp [.ref p] H1 Q E) : EvL (tCall sp [] E (tCons te tNil)) s H xs := fun H1 e Q q =>
  h H1 e _ fun p H2 hp e2 h2 => by
    show sp [V.ref p] H2 Q E
    exact hs p H2 (e.trans e2) h2 Q fun H3 e3 => q p H3 hp (e2.trans e3) (e3 _ _ h2)

/-! ### statements -/
theorem w_asg {i : Nat} (h : Ev te s H v) (k : Sv tz D (s.set i (some v)) H) : Sv (tSeq (tAsg te (gName i)) tz) D s H := fun H1 e1 => q_asg (h.mono e1) fun H2 e2 => k H2 (e1.trans e2)
theorem w_asgP {i : Nat} (h : EvP te s H P) (k : ∀ v H1, Ex H H1 → P v H1 → Sv tz D (s.set i (some v)) H1) : Sv (tSeq (tAsg te (gName i)) tz) D s H := fun H1 e1 =>
  h H1 e1 _ fun v H2 e2 p => k v H2 (e1.trans e2) p H2 (Ex.refl H2)
theorem w_asgL {i : Nat} {xs : List V} (h : EvL te s H xs) (k : ∀ p H1, H p = none → Ex H H1 → H1 p = some (.lst xs) → Sv tz D (s.set i (some (.ref p))) H1) : Sv (tSeq (tAsg te (gName i)) tz) D s H := fun H1 e1 =>
  h H1 e1 _ fun p H2 hp e2 h2 => k p H2 (fresh_back e1 hp) (e1.trans e2) h2 H2 (Ex.refl H2)
theorem w_asgU {i : Nat} {xs : List V} (h : EvU te s H xs) (k : ∀ p H1, H p = none → Ex H H1 → H1 p = some (.tup xs) → Sv tz D (s.set i (some (.ref p))) H1) : Sv (tSeq (tAsg te (gName i)) tz) D s H := fun H1 e1 =>
  h H1 e1 _ fun p H2 hp e2 h2 => k p H2 (fresh_back e1 hp) (e1.trans e2) h2 H2 (Ex.refl H2)
theorem w_if {b : Bool} (h : EvT t s H b) (h1 : b = true → Sv tu { D with nx := tz D } s H) (h2 : b = false → Sv tw { D with nx := tz D } s H) : Sv (tSeq (tIfS t tu tw) tz) D s H := fun H1 e1 =>
  q_if (h.mono e1) (fun hb H2 e2 => h1 hb H2 (e1.trans e2)) (fun hb H2 e2 => h2 hb H2 (e1.trans e2))
theorem w_when {b : Bool} (h : EvT t s H b) (h1 : b = true → Sv tu { D with nx := tz D } s H) (h2 : b = false → Sv tz D s H) : Sv (tSeq (tIfS t tu tNext) tz) D s H := w_if h h1 h2
/-- an if that is never taken -/
theorem w_skip (h : EvT t s H false) (h2 : Sv tz D s H) : Sv (tSeq (tIfS t tu tNext) tz) D s H := w_if h (fun h => nomatch h) fun _ => h2
theorem w_ret (h : Ev te s H v) (k : ∀ H1, Ex H H1 → D.rt v H1) : Sv (tSeq (tRet te) tz) D s H := fun H1 e1 => h H1 e1 _ fun H2 e2 => k H2 (e1.trans e2)
theorem w_retP (h : EvP te s H P) (k : ∀ v H1, Ex H H1 → P v H1 → D.rt v H1) : Sv (tSeq (tRet te) tz) D s H := fun H1 e1 => h H1 e1 _ fun v H2 e2 p => k v H2 (e1.trans e2) p
theorem w_retL {xs : List V} (h : EvL te s H xs) (k : ∀ p H1, H p = none → Ex H H1 → H1 p = some (.lst xs) → D.rt (.ref p) H1) : Sv (tSeq (tRet te) tz) D s H := fun H1 e1 => h H1 e1 _ fun p H2 hp e2 h2 => k p H2 (fresh_back e1 hp) (e1.trans e2) h2
theorem w_nx (k : ∀ H1, Ex H H1 → D.nx s H1) : Sv tNext D s H := k
theorem w_aug {i : Nat} {f : Int → Int → Int} {a b : Int} (hx : s[i]? = some (some (.int a))) (h : Ev te s H (.int b)) (k : Sv tz D (s.set i (some (.int (f a b)))) H) : Sv (tSeq (tAug i te (ipI f)) tz) D s H := fun H1 e1 =>
  q_aug hx (h.mono e1) fun H2 e2 => k H2 (e1.trans e2)
theorem w_drop (h : Ev te s H v) (k : Sv tz D s H) : Sv (tSeq (tDrop te) tz) D s H := fun H1 e1 => q_drop (h.mono e1) fun H2 e2 => k H2 (e1.trans e2)
/-- a call whose value is dropped -/
theorem w_dropP (h : EvP te s H P) (k : Sv tz D s H) : Sv (tSeq (tDrop te) tz) D s H := fun H1 e1 => h H1 e1 _ fun v H2 e2 _ => k H2 (e1.trans e2)
/-- H', which is H with another list at l -/
structure Put (l : Addr) (o : HO) (H H' : Hp) : Prop where
  new : H' l = some o
  old : ∀ a u, a ≠ l → H a = some u → H' a = some u
theorem Put.ex {l : Addr} {o : HO} {H0 H H' : Hp} (p : Put l o H H') (e : Ex H0 H) (h : H0 l = none) : Ex H0 H' := fun a u ha => p.old a u (ne_of_none ha h) (e a u ha)
theorem put_upd {l : Addr} {o : HO} {H H1 : Hp} (e : Ex H H1) : Put l o H (upd H1 l o) := ⟨upd_same, fun a u n h => by rw [upd_ne n]; exact e a u h⟩
theorem w_app {l : Addr} {xs : List V} (hl : H l = some (.lst xs)) (ha : Ev ta s H (.ref l)) (h : Ev te s H v) (hz : xs.length < 100000) (k : ∀ H1, Put l (.lst (xs ++ [v])) H H1 → Sv tz D s H1) :
    Sv (tSeq (tDrop (tBM K "list" rAppend ta (tCons te tNil))) tz) D s H := fun H1 e1 =>
  q_app (e1 l _ hl) (ha.mono e1) (h.mono e1) hz fun H2 e2 => k _ (put_upd (e1.trans e2)) _ (Ex.refl _)
theorem w_appP {l : Addr} {xs : List V} (hl : H l = some (.lst xs)) (ha : Ev ta s H (.ref l)) (h : EvP te s H P) (hz : xs.length < 100000) (k : ∀ v H1, P v H1 → Put l (.lst (xs ++ [v])) H H1 → Sv tz D s H1) [MonoP P] (hm : ∀ v H1 o, P v H1 → P v (upd H1 l o)) :
    Sv (tSeq (tDrop (tBM K "list" rAppend ta (tCons te tNil))) tz) D s H := fun H1 e1 =>
  ha H1 e1 _ fun H2 e2 => ⟨Or.inl ⟨rfl, xs, sq_of (e2 _ _ (e1 _ _ hl))⟩, h H2 (e1.trans e2) _ fun v H3 e3 p => ⟨l, xs, v, rfl, rfl, e3 _ _ (e2 _ _ (e1 _ _ hl)), sz_lt hz, k v _ (hm v H3 _ p) ⟨upd_same, fun a u n ha => by rw [upd_ne n]; exact e3 _ _ (e2 _ _ (e1 _ _ ha))⟩ _ (Ex.refl _)⟩⟩
theorem w_appU {l : Addr} {xs ys : List V} (hl : H l = some (.lst xs)) (ha : Ev ta s H (.ref l)) (h : EvU te s H ys) (hz : xs.length < 100000) (k : ∀ p H1, H p = none → H1 p = some (.tup ys) → Put l (.lst (xs ++ [.ref p])) H H1 → Sv tz D s H1) :
    Sv (tSeq (tDrop (tBM K "list" rAppend ta (tCons te tNil))) tz) D s H := fun H1 e1 =>
  q_appU (e1 l _ hl) (ha.mono e1) (fun H2 e2 Q q => h H2 (e1.trans e2) Q q) hz fun p H2 hp e2 h2 => k p _ (fresh_back e1 hp) (by rw [upd_ne (fun z => by rw [z, e1 l _ hl] at hp; cases hp)]; exact h2) (put_upd (e1.trans e2)) _ (Ex.refl _)
theorem w_setL {l : Addr} {xs : List V} {j : Nat} (hl : H l = some (.lst xs)) (h : Ev te s H v) (ho : Ev ta s H (.ref l)) (hi : Ev tb s H (.int (j : Int))) (hj : j < xs.length) (k : ∀ H1, Put l (.lst (xs.set j v)) H H1 → Sv tz D s H1) :
    Sv (tSeq (tAsg te (gSub ta tb rSetL)) tz) D s H := fun H1 e1 =>
  q_setL (e1 l _ hl) (h.mono e1) (ho.mono e1) (hi.mono e1) hj fun H2 e2 => k _ (put_upd (e1.trans e2)) _ (Ex.refl _)
theorem w_par {i j : Nat} {x y : V} {ta : TA} (h : EvA ta s H [x, y]) (k : Sv tz D ((s.set i (some x)).set j (some y)) H) : Sv (tSeq (tPar i j ta) tz) D s H := fun H1 e1 =>
  h H1 e1 _ fun H2 e2 => ⟨x, y, rfl, k H2 (e1.trans e2)⟩
theorem w_parP {i j : Nat} {ta : TA} {P : List V → Hp → Prop} (h : EvAP ta s H P) (k : ∀ vs H1, Ex H H1 → P vs H1 → ∃ x y, vs = [x, y] ∧ Sv tz D ((s.set i (some x)).set j (some y)) H1) : Sv (tSeq (tPar i j ta) tz) D s H := fun H1 e1 =>
  h H1 e1 _ fun vs H2 e2 p => by
    obtain ⟨x, y, e, q⟩ := k vs H2 (e1.trans e2) p
    exact ⟨x, y, e, q H2 (Ex.refl H2)⟩

/-- if c: x = e, told by the value that x has behind it -/
theorem w_ifAsg {b : Bool} {i : Nat} (h : EvT t s H b) (h1 : b = true → Ev te s H v) (h2 : b = false → s.set i (some v) = s) (k : Sv tz D (s.set i (some v)) H) : Sv (tSeq (tIfS t (tSeq (tAsg te (gName i)) tNext) tNext) tz) D s H :=
  w_when h (fun hb => w_asg (h1 hb) (fun H1 e1 => k H1 e1)) (fun hb => by
    have g := k
    rw [h2 hb] at g
    exact g)

/-! ### loops -/
theorem w_forL {a : Addr} {xs : List V} {tl : TE} {j : Nat} (h : Ev tl s H (.ref a)) (hx : SqL K H a xs) (Pv : Nat → L2.St → Hp → Prop) (h0 : ∀ H1, Ex H H1 → Pv 0 s H1) (hl : ∀ i s' H', i ≤ xs.length → Pv i s' H' → SqL K H' a xs)
    (hs : ∀ i x s' H', xs[i]? = some x → Pv i s' H' → Sv tu { D with nx := Pv (i + 1), ct := Pv (i + 1), bk := tz D } (s'.set j (some x)) H') (hd : ∀ s' H', Pv xs.length s' H' → Sv tz D s' H') : Sv (tSeq (tFor (iList K tl) (gName j) tu) tz) D s H := fun H1 e1 =>
  q_forLn (h.mono e1) (ex_l e1 hx) Pv (fun H2 e2 => h0 H2 (e1.trans e2)) hl (fun i x s' H' hi p => (hs i x s' H' hi p).go) (fun s' H' p => (hd s' H' p).go)
/-- a loop over a new list -/
theorem w_forNL {xs : List V} {tl : TE} {j : Nat} (h : EvL tl s H xs) (Pv : Addr → Nat → L2.St → Hp → Prop) (h0 : ∀ p H1, H p = none → Ex H H1 → H1 p = some (.lst xs) → Pv p 0 s H1) (hl : ∀ p i s' H', i ≤ xs.length → Pv p i s' H' → SqL K H' p xs)
    (hs : ∀ p i x s' H', xs[i]? = some x → Pv p i s' H' → Sv tu { D with nx := Pv p (i + 1), ct := Pv p (i + 1), bk := tz D } (s'.set j (some x)) H') (hd : ∀ p s' H', Pv p xs.length s' H' → Sv tz D s' H') : Sv (tSeq (tFor (iList K tl) (gName j) tu) tz) D s H := fun H1 e1 =>
  q_forNLn (h.mono e1) Pv (fun p H2 hp e2 h2 => h0 p H2 (fresh_back e1 hp) (e1.trans e2) h2) hl (fun p i x s' H' hi q => (hs p i x s' H' hi q).go) (fun p s' H' q => (hd p s' H' q).go)
theorem w_forR1 {ta : TA} {j : Nat} {n : Int} (h : EvA ta s H [.int n]) (hn : 0 ≤ n ∧ n ≤ 100000) (Pv : Nat → L2.St → Hp → Prop) (h0 : ∀ H1, Ex H H1 → Pv 0 s H1)
    (hs : ∀ (i : Nat) s' H', (i : Int) < n → Pv i s' H' → Sv tu { D with nx := Pv (i + 1), ct := Pv (i + 1), bk := tz D } (s'.set j (some (.int (i : Int)))) H') (hd : ∀ s' H', Pv n.toNat s' H' → Sv tz D s' H') : Sv (tSeq (tFor (iRng1 ta) (gName j) tu) tz) D s H := fun H1 e1 =>
  q_forR1 (h.mono e1) hn Pv (fun H2 e2 => h0 H2 (e1.trans e2)) (fun i s' H' hi p => (hs i s' H' hi p).go) (fun s' H' p => (hd s' H' p).go)

/-- for k in reversed(range(n)) -/
theorem w_forRev {te : TE} {j : Nat} {n : Nat} (h : Ev te s H (.int (n : Int))) (hn : n ≤ 100000) (Pv : Nat → L2.St → Hp → Prop) (h0 : ∀ H1, Ex H H1 → Pv 0 s H1)
    (hs : ∀ (i k : Nat) s' H', i + k + 1 = n → Pv i s' H' → Sv tu { D with nx := Pv (i + 1), ct := Pv (i + 1), bk := tz D } (s'.set j (some (.int (k : Int)))) H') (hd : ∀ s' H', Pv n s' H' → Sv tz D s' H') : Sv (tSeq (tFor (iRevR (tRg1 te)) (gName j) tu) tz) D s H := fun H1 e1 =>
  h H1 e1 _ fun H2 e2 => ⟨(n : Int), rfl, by omega, by omega, by omega, by omega, by
    have e0 : ((n : Int) - 0).toNat = n := by omega
    rw [e0]
    refine for_rangeC (D := { D with nx := tz D }) Pv (h0 H2 (e1.trans e2)) (fun i s' H' hi p => ?_) (fun s' H' p => (hd s' H' p).go)
    have hk : (0 : Int) + (n : Int) - 1 + (i : Nat) * (-1) = ((n - 1 - i : Nat) : Int) := by omega
    show tu _ (s'.set j (some (.int ((0 : Int) + (n : Int) - 1 + (i : Nat) * (-1))))) H'
    rw [hk]
    exact (hs i (n - 1 - i) s' H' (by omega) p).go⟩

/-! ### built-ins -/
theorem tyx_mono {x : V} {t : Value} (e : Ex H H') (h : TyX K H x t) : TyX K H' x t := by
  cases h with
  | base b =>
    cases b with
    | non => exact .base .non
    | bl y => exact .base (.bl y)
    | int i => exact .base (.int i)
    | str y => exact .base (.str y)
    | flt y => exact .base (.flt y)
    | lst ea => exact .base (.lst (e _ _ ea))
    | frz ea => exact .base (.frz (e _ _ ea))
    | tup ea => exact .base (.tup (e _ _ ea))
    | dK ea => exact .base (.dK (e _ _ ea))
    | dT ea => exact .base (.dT (e _ _ ea))
    | ins ea cl ha hn htk hm => exact .base (.ins (e _ _ ea) cl ha hn htk hm)
  | byt y => exact .byt y
  | set ea => exact .set (e _ _ ea)
  | kList ea c => exact .kList ea c
  | kTuple ea c => exact .kTuple ea c
  | kDict ea c => exact .kDict ea c
  | fTuple ea => exact .fTuple (e _ _ ea)
  | fDict ea => exact .fDict (e _ _ ea)
theorem ev_isi {x c : V} {t u : Value} {b : Bool} (ha : Ev ta s H x) (hc : Ev tc s H c) (hv : ClsV c u) (ty : TyX K H x t) (hk : PySem.W.kitOne K t u = some b) : Ev (tCB (rIsi K) (tCons ta (tCons tc tNil))) s H (.bl b) :=
  ev_cbP (ap_two ha.p hc.p) fun vs H1 e1 ⟨v, w, ev, pv, pw⟩ H2 e2 Q q => ⟨x, c, t, u, b, by rw [ev, pv, pw], hv, tyx_mono (e1.trans e2) ty, hk, q H2 (Ex.refl H2)⟩
theorem ev_all {bs : List Bool} (h : EvP te s H (IsL (bs.map V.bl))) : Ev (tCB (rAll K) (tCons te tNil)) s H (.bl (bs.all id)) :=
  ev_cbP (ap_one h) fun vs H1 _ ⟨v, ev, p, pv, hp⟩ H2 e2 Q q => ⟨p, bs, by rw [ev, pv], sq_of (e2 _ _ hp), q H2 (Ex.refl H2)⟩
theorem ev_any {bs : List Bool} (h : EvP te s H (IsL (bs.map V.bl))) : Ev (tCB (rAny K) (tCons te tNil)) s H (.bl (bs.any id)) :=
  ev_cbP (ap_one h) fun vs H1 _ ⟨v, ev, p, pv, hp⟩ H2 e2 Q q => ⟨p, bs, by rw [ev, pv], sq_of (e2 _ _ hp), q H2 (Ex.refl H2)⟩
theorem ev_sum {ns : List Int} (h : EvP te s H (IsL (ns.map V.int))) : Ev (tCB (rSum K) (tCons te tNil)) s H (.int ns.sum) :=
  ev_cbP (ap_one h) fun vs H1 _ ⟨v, ev, p, pv, hp⟩ H2 e2 Q q => ⟨p, ns, by rw [ev, pv], sq_of (e2 _ _ hp), q H2 (Ex.refl H2)⟩
/-- the greatest, the least of a list -/
def mx : List Int → Int
  | [] => 0
  | [a] => a
  | a :: b :: r => if mx (b :: r) ≤ a then a else mx (b :: r)
def mn : List Int → Int
  | [] => 0
  | [a] => a
  | a :: b :: r => if a ≤ mn (b :: r) then a else mn (b :: r)
theorem mx_mem : ∀ {l : List Int}, l ≠ [] → mx l ∈ l
  | [], h => absurd rfl h
  | [a], _ => by simp [mx]
  | a :: b :: r, _ => by
    have ih := mx_mem (l := b :: r) (by simp)
    unfold mx
    split
    · exact List.mem_cons_self
    · exact List.mem_cons_of_mem _ ih
theorem mx_ge : ∀ {l : List Int} {x : Int}, x ∈ l → x ≤ mx l
  | [], x, h => by cases h
  | [a], x, h => by
    have : x = a := by simpa using h
    rw [this]; exact Int.le_refl _
  | a :: b :: r, x, h => by
    have ih := fun y => mx_ge (l := b :: r) (x := y)
    unfold mx
    rcases List.mem_cons.mp h with rfl | h
    · split <;> omega
    · have := ih x h
      split <;> omega
theorem mx_eq {l : List Int} {m : Int} (h : m ∈ l) (hm : ∀ y ∈ l, y ≤ m) : m = mx l := by
  have h1 := mx_ge h
  have h2 := hm _ (mx_mem (l := l) (by intro e; rw [e] at h; cases h))
  omega
theorem mn_mem : ∀ {l : List Int}, l ≠ [] → mn l ∈ l
  | [], h => absurd rfl h
  | [a], _ => by simp [mn]
  | a :: b :: r, _ => by
    have ih := mn_mem (l := b :: r) (by simp)
    unfold mn
    split
    · exact List.mem_cons_self
    · exact List.mem_cons_of_mem _ ih
theorem mn_le : ∀ {l : List Int} {x : Int}, x ∈ l → mn l ≤ x
  | [], x, h => by cases h
  | [a], x, h => by
    have : x = a := by simpa using h
    rw [this]; exact Int.le_refl _
  | a :: b :: r, x, h => by
    have ih := fun y => mn_le (l := b :: r) (x := y)
    unfold mn
    rcases List.mem_cons.mp h with rfl | h
    · split <;> omega
    · have := ih x h
      split <;> omega
theorem mn_eq {l : List Int} {m : Int} (h : m ∈ l) (hm : ∀ y ∈ l, m ≤ y) : m = mn l := by
  have h1 := mn_le h
  have h2 := hm _ (mn_mem (l := l) (by intro e; rw [e] at h; cases h))
  omega
theorem ev_max {ns : List Int} (h : EvP te s H (IsL (ns.map V.int))) (hn : ns ≠ []) : Ev (tCB (rMax K) (tCons te tNil)) s H (.int (mx ns)) :=
  ev_cbP (ap_one h) fun vs H1 _ ⟨v, ev, p, pv, hp⟩ H2 e2 Q q => ⟨p, ns, by rw [ev, pv], sq_of (e2 _ _ hp), List.length_pos_iff.mpr hn, fun m hm hle => by
    rw [mx_eq hm hle]
    exact q H2 (Ex.refl H2)⟩
theorem ev_min {ns : List Int} (h : EvP te s H (IsL (ns.map V.int))) (hn : ns ≠ []) : Ev (tCB (rMin K) (tCons te tNil)) s H (.int (mn ns)) :=
  ev_cbP (ap_one h) fun vs H1 _ ⟨v, ev, p, pv, hp⟩ H2 e2 Q q => ⟨p, ns, by rw [ev, pv], sq_of (e2 _ _ hp), List.length_pos_iff.mpr hn, fun m hm hle => by
    rw [mn_eq hm hle]
    exact q H2 (Ex.refl H2)⟩
theorem ev_lenL {xs : List V} (h : EvP te s H (IsL xs)) : Ev (tCB (rLenS K) (tCons te tNil)) s H (.int (xs.length : Int)) :=
  ev_cbP (ap_one h) fun vs H1 _ ⟨v, ev, p, pv, hp⟩ H2 e2 Q q => ⟨p, xs, by rw [ev, pv], .inl (sq_of (e2 _ _ hp)), q H2 (Ex.refl H2)⟩
theorem el_listL {xs : List V} (h : EvP te s H (IsL xs)) : EvL (tCB (rListS K) (tCons te tNil)) s H xs :=
  el_cbP (ap_one h) fun vs H1 _ ⟨v, ev, p, pv, hp⟩ H2 e2 Q q => ⟨p, xs, by rw [ev, pv], .inl (sq_of (e2 _ _ hp)), fun l hl => q l _ hl (Ex.new hl) upd_same⟩

/-- the sorted list -/
def srt (l : List Int) : List Int := l.mergeSort (fun a b => decide (a ≤ b))
theorem srt_perm (l : List Int) : (srt l).Perm l := List.mergeSort_perm l _
theorem srt_le (l : List Int) : (srt l).Pairwise (· ≤ ·) := by
  have h := List.pairwise_mergeSort (le := fun a b : Int => decide (a ≤ b)) (fun a b c h1 h2 => by
    simp only [decide_eq_true_eq] at *
    omega) (fun a b => by
    by_cases h : a ≤ b
    · simp [h]
    · have : b ≤ a := by omega
      simp [this]) l
  exact h.imp fun h => by simpa using h
theorem sorted_unique : ∀ {l l' : List Int}, l.Perm l' → l.Pairwise (· ≤ ·) → l'.Pairwise (· ≤ ·) → l = l'
  | [], l', p, _, _ => (List.nil_perm.mp p).symm
  | a :: l, [], p, _, _ => absurd p (List.not_perm_cons_nil)
  | a :: l, b :: l', p, h, h' => by
    have h1 := List.pairwise_cons.mp h
    have h2 := List.pairwise_cons.mp h'
    have e : a = b := by
      have hb : b ∈ a :: l := p.mem_iff.mpr List.mem_cons_self
      have ha : a ∈ b :: l' := p.mem_iff.mp List.mem_cons_self
      rcases List.mem_cons.mp hb with e | hb
      · exact e.symm
      · rcases List.mem_cons.mp ha with e | ha
        · exact e
        · have := h1.1 b hb
          have := h2.1 a ha
          omega
    subst e
    rw [sorted_unique (List.Perm.cons_inv p) h1.2 h2.2]
theorem srt_eq {l l' : List Int} (p : l'.Perm l) (h : l'.Pairwise (· ≤ ·)) : l' = srt l := sorted_unique (p.trans (srt_perm l).symm) h (srt_le l)
theorem srt_len (l : List Int) : (srt l).length = l.length := (srt_perm l).length_eq
def srtD (l : List Int) : List Int := (srt l).reverse
theorem srtD_perm (l : List Int) : (srtD l).Perm l := (List.reverse_perm _).trans (srt_perm l)
theorem srtD_ge (l : List Int) : (srtD l).Pairwise (· ≥ ·) := List.pairwise_reverse.mpr (srt_le l)
theorem srtD_eq {l l' : List Int} (p : l'.Perm l) (h : l'.Pairwise (· ≥ ·)) : l' = srtD l := by
  have h2 : l'.reverse.Pairwise (· ≤ ·) := List.pairwise_reverse.mpr h
  have e := srt_eq ((List.reverse_perm l').trans p) h2
  rw [← List.reverse_reverse l', e]
  rfl
theorem srtD_len (l : List Int) : (srtD l).length = l.length := (srtD_perm l).length_eq
theorem el_sorted {ns : List Int} (h : EvP te s H (IsL (ns.map V.int))) : EvL (tCB (rSortedI K) (tCons te tNil)) s H ((srt ns).map V.int) :=
  el_cbP (ap_one h) fun vs H1 _ ⟨v, ev, p, pv, hp⟩ H2 e2 Q q => ⟨p, ns, by rw [ev, pv], sq_of (e2 _ _ hp), fun ns' l h1 h2 hl => by
    rw [srt_eq h1 h2]
    exact q l _ hl (Ex.new hl) upd_same⟩
theorem el_sortedRev {ns : List Int} {tk : TA} (h : EvP te s H (IsL (ns.map V.int))) (hk : ∀ s H Q, Q [V.bl true] H → tk s H Q) : EvL (tCKw (rSortedKw K true [.bl true]) (tCons te tNil) tk) s H ((srtD ns).map V.int) := fun H1 e Q q =>
  h H1 e _ fun v H2 e2 ⟨p, pv, hp⟩ => hk _ _ _ ⟨p, ns, by rw [pv], rfl, sq_of hp, fun ns' l h1 h2 hl => by
    rw [srtD_eq h1 (by simpa [OrdB] using h2)]
    exact q l _ (fresh_back e2 hl) (e2.trans (Ex.new hl)) upd_same⟩

/-! ### comprehensions -/
def Cx2 {α : Type} (H : Hp) (l : List α) (f : α → Bool) (w : α → V) (Dl : Addr) (i : Nat) (H' : Hp) : Prop := H Dl = none ∧ Ex H H' ∧ H' Dl = some (.lst (((l.take i).filter f).map w))
theorem cx_turn {α : Type} {l : List α} {f : α → Bool} {w : α → V} {Dl : Addr} {i : Nat} {a : α} {s2 : L2.St} (p : Cx2 H l f w Dl i H') (ha : l[i]? = some a) (hz : l.length ≤ 100000) (ht : EvT t s2 H (f a)) (he : f a = true → Ev te s2 H (w a)) :
    t s2 H' fun b H3 => if b = true then te s2 H3 fun y H4 => ∃ acc, H4 Dl = some (.lst acc) ∧ acc.length < sizeLine ∧ Cx2 H l f w Dl (i + 1) (upd H4 Dl (.lst (acc ++ [y]))) else Cx2 H l f w Dl (i + 1) H3 := by
  obtain ⟨p1, p2, p3⟩ := p
  have hlt : i < l.length := (List.getElem?_eq_some_iff.mp ha).1
  have et : l.take (i + 1) = l.take i ++ [a] := by rw [List.take_add_one, ha]; rfl
  refine ht H' p2 _ fun H3 e3 => ?_
  cases hf : f a with
  | true =>
    show te s2 H3 fun y H4 => ∃ acc, H4 Dl = some (.lst acc) ∧ acc.length < sizeLine ∧ Cx2 H l f w Dl (i + 1) (upd H4 Dl (.lst (acc ++ [y])))
    refine he hf H3 (p2.trans e3) _ fun H4 e4 => ⟨_, e4 Dl _ (e3 Dl _ p3), ?_, p1, Ex.mut ((p2.trans e3).trans e4) p1, ?_⟩
    · have h1 := List.length_filter_le f (l.take i)
      rw [List.length_take] at h1
      refine sz_lt ?_
      rw [List.length_map]
      omega
    · rw [et, List.filter_append, List.map_append, List.filter_cons, if_pos hf]
      exact upd_same
  | false =>
    show Cx2 H l f w Dl (i + 1) H3
    refine ⟨p1, p2.trans e3, ?_⟩
    rw [et, List.filter_append, List.map_append, List.filter_cons, if_neg (by rw [hf]; decide)]
    show H3 Dl = some (.lst (((l.take i).filter f).map w ++ []))
    rw [List.append_nil]
    exact e3 Dl _ p3
/-- [e for x in xs if t], xs at an address -/
theorem el_comp {α : Type} {a : Addr} {tl : TE} {j : Nat} {vs : List Nat} (l : List α) (c : α → V) (f : α → Bool) (w : α → V) (h : Ev tl s H (.ref a)) (hx : SqL K H a (l.map c)) (hz : l.length ≤ 100000) (hw : ∀ x, wipe ((wipe s vs).set j (some x)) vs = wipe s vs)
    (ht : ∀ x ∈ l, EvT t ((wipe s vs).set j (some (c x))) H (f x)) (he : ∀ x ∈ l, f x = true → Ev te ((wipe s vs).set j (some (c x))) H (w x)) :
    EvL (tLc (iList K tl) (gName j) t te vs) s H ((l.filter f).map w) := fun H0 e Q q => h H0 e _ fun H1 e1 => ⟨a, rfl, ⟨_, ex_l (e.trans e1) hx⟩, fun Dl hD =>
  lc_list (xs := l.map c) (Cx2 H1 l f w Dl) ⟨hD, Ex.new hD, by rw [List.take_zero]; exact upd_same⟩ (fun i H' _ p => ex_l ((e.trans e1).trans p.2.1) hx) (fun i x H' hi p => by
    rw [List.getElem?_map] at hi
    cases ha : l[i]? with
    | none => rw [ha] at hi; cases hi
    | some b =>
      rw [ha] at hi
      obtain rfl : c b = x := Option.some.inj hi
      have hm : b ∈ l := List.mem_of_getElem? ha
      exact ⟨hw _, cx_turn p ha hz ((ht b hm).mono (e.trans e1)) (fun hf => (he b hm hf).mono (e.trans e1))⟩)
    (fun H' p => by
      have p3 := p.2.2
      rw [List.length_map, List.take_length] at p3
      exact q Dl H' (fresh_back e1 p.1) (e1.trans p.2.1) p3)⟩
theorem et_yes : EvT tYes s H true := fun H1 _ Q q => q H1 (Ex.refl H1)
theorem filter_yes {α : Type} (l : List α) : l.filter (fun _ => true) = l := by simp
/-- [e for x in xs] -/
theorem el_map {α : Type} {a : Addr} {tl : TE} {j : Nat} {vs : List Nat} (l : List α) (c : α → V) (w : α → V) (h : Ev tl s H (.ref a)) (hx : SqL K H a (l.map c)) (hz : l.length ≤ 100000) (hw : ∀ x, wipe ((wipe s vs).set j (some x)) vs = wipe s vs)
    (he : ∀ x ∈ l, Ev te ((wipe s vs).set j (some (c x))) H (w x)) : EvL (tLc (iList K tl) (gName j) tYes te vs) s H (l.map w) := by
  have h2 := el_comp l c (fun _ => true) w h hx hz hw (fun _ _ => et_yes) (fun x hx _ => he x hx)
  rw [filter_yes] at h2
  exact h2
/-- [e for k in range(n)] -/
theorem el_mapR {ta : TA} {j : Nat} {vs : List Nat} {n : Int} (w : Nat → V) (h : EvA ta s H [.int n]) (hn : 0 ≤ n ∧ n ≤ 40000) (hw : ∀ x, wipe ((wipe s vs).set j (some x)) vs = wipe s vs)
    (he : ∀ (i : Nat), (i : Int) < n → Ev te ((wipe s vs).set j (some (.int (i : Int)))) H (w i)) : EvL (tLc (iRng1 ta) (gName j) tYes te vs) s H ((List.range n.toNat).map w) := by
  have h2 := el_lcR1 (fun _ => true) w h hn hw (fun i H1 _ _ => et_yes) (fun i H1 e hi _ => (he i hi).mono e)
  have e : given n.toNat (fun _ => true) w = (List.range n.toNat).map w := by
    unfold given
    rw [filter_yes]
  rw [e] at h2
  exact h2
/-- [e for x in a new list] -/
theorem el_mapN {α : Type} {tl : TE} {j : Nat} {vs : List Nat} (l : List α) (c : α → V) (w : α → V) (h : EvP tl s H (IsL (l.map c))) (hz : l.length ≤ 100000) (hw : ∀ x, wipe ((wipe s vs).set j (some x)) vs = wipe s vs)
    (he : ∀ x ∈ l, Ev te ((wipe s vs).set j (some (c x))) H (w x)) : EvL (tLc (iList K tl) (gName j) tYes te vs) s H (l.map w) := fun H0 e Q q => h H0 e _ fun v H1 e1 ⟨a, ev, hx⟩ => ⟨a, ev, ⟨_, sq_of hx⟩, fun Dl hD =>
  lc_list (xs := l.map c) (Cx2 H1 l (fun _ => true) w Dl) ⟨hD, Ex.new hD, by rw [List.take_zero]; exact upd_same⟩ (fun i H' _ p => sq_of (p.2.1 _ _ hx)) (fun i x H' hi p => by
    rw [List.getElem?_map] at hi
    cases ha : l[i]? with
    | none => rw [ha] at hi; cases hi
    | some b =>
      rw [ha] at hi
      obtain rfl : c b = x := Option.some.inj hi
      have hm : b ∈ l := List.mem_of_getElem? ha
      exact ⟨hw _, cx_turn p ha hz et_yes (fun _ => (he b hm).mono (e.trans e1))⟩)
    (fun H' p => by
      have p3 := p.2.2
      rw [List.length_map, List.take_length, filter_yes] at p3
      exact q Dl H' (fresh_back e1 p.1) (e1.trans p.2.1) p3)⟩

/-! ### subscripts, slices, == of lists of ints -/
theorem ev_ixL {xs : List V} {i : Int} (ha : EvP ta s H (IsL xs)) (hb : Ev tb s H (.int i)) (hv : atI xs i = some v) : Ev (tOp (rIxL K) ta tb) s H v :=
  ev_opP ha hb.p fun a b H1 _ ⟨p, pa, hp⟩ pb => by
    subst pa; cases pb
    exact rv_ixL (sq_of hp) hv
theorem ev_ixU {xs : List V} {i : Int} (ha : EvP ta s H (IsU xs)) (hb : Ev tb s H (.int i)) (hv : atI xs i = some v) : Ev (tOp (rIxT K) ta tb) s H v :=
  ev_opP ha hb.p fun a b H1 _ ⟨p, pa, hp⟩ pb => by
    subst pa; cases pb
    exact rv_ixT (st_of hp) hv
/-- for x, y in zip(xs, ys) -/
theorem w_forZip {a b : Addr} {xs ys : List V} {j1 j2 : Nat} (ha : Ev ta s H (.ref a)) (hb : Ev tb s H (.ref b)) (hx : SqL K H a xs) (hy : SqL K H b ys) (hl : xs.length = ys.length) (Pv : Nat → L2.St → Hp → Prop) (h0 : ∀ H1, Ex H H1 → Pv 0 s H1) (hq : ∀ i s' H', Pv i s' H' → Ex H H')
    (hs : ∀ i x y s' H', xs[i]? = some x → ys[i]? = some y → Pv i s' H' → Sv tu { D with nx := Pv (i + 1), ct := Pv (i + 1), bk := tz D } ((s'.set j1 (some x)).set j2 (some y)) H') (hd : ∀ s' H', Pv xs.length s' H' → Sv tz D s' H') :
    Sv (tSeq (tFor (iZip K (tCons ta (tCons tb tNil))) (gTup K 2 (gCons (gName j1) (gCons (gName j2) gNil))) tu) tz) D s H := fun H1 e1 =>
  ha H1 e1 _ fun H2 e2 => hb H2 (e1.trans e2) _ fun H3 e3 => ⟨a, b, xs, ys, rfl, ex_l ((e1.trans e2).trans e3) hx, ex_l ((e1.trans e2).trans e3) hy,
    RZ.for_zipL (D := { D with nx := tz D }) hl Pv (h0 H3 ((e1.trans e2).trans e3)) (fun i s' H' p => ⟨ex_l (hq i s' H' p) hx, ex_l (hq i s' H' p) hy⟩) (fun i x y T s' H' h1 h2 p hT =>
      ⟨T, [x, y], rfl, st_of upd_same, rfl, x, [y], rfl, y, [], rfl, rfl, hs i x y s' H' h1 h2 p _ (Ex.new hT)⟩) (fun s' H' p => (hd s' H' p).go)⟩
theorem el_cat {xs ys : List V} (ha : EvP ta s H (IsL xs)) (hb : EvP tb s H (IsL ys)) (hz : xs.length + ys.length ≤ 100000) : EvL (tOp rCat ta tb) s H (xs ++ ys) := fun H1 e Q q =>
  ha H1 e _ fun a H2 e2 ⟨p, pa, hp⟩ => hb H2 (e.trans e2) _ fun b H3 e3 ⟨p2, pb, hp2⟩ => ⟨p, p2, xs, ys, pa, pb, e3 _ _ hp, hp2, sz_of hz, fun l hl => q l _ (fresh_back (e2.trans e3) hl) ((e2.trans e3).trans (Ex.new hl)) upd_same⟩
theorem el_rep {xs : List V} {k : Int} (ha : EvP ta s H (IsL xs)) (hb : Ev tb s H (.int k)) (h0 : 0 ≤ k) (h1 : k ≤ 100000) (hz : xs.length * k.toNat ≤ 100000) : EvL (tOp rRep ta tb) s H (List.replicate k.toNat xs).flatten := fun H1 e Q q =>
  ha H1 e _ fun a H2 e2 ⟨p, pa, hp⟩ => hb H2 (e.trans e2) _ fun H3 e3 => ⟨p, k, xs, pa, rfl, e3 _ _ hp, by omega, by omega, sz_of hz, fun l hl => q l _ (fresh_back (e2.trans e3) hl) ((e2.trans e3).trans (Ex.new hl)) upd_same⟩
/-- xs.index(y), y in the list of ints xs -/
theorem ev_index {ns : List Int} {j : Nat} {m : Int} {p : Addr} (ha : Ev ta s H (.ref p)) (hp : H p = some (.lst (ns.map V.int))) (hb : Ev tb s H (.int m)) (hj : ns[j]? = some m) (hf : ∀ (k : Nat) (z : Int), k < j → ns[k]? = some z → z ≠ m) :
    Ev (tBM K "list" (rIndex K) ta (tCons tb tNil)) s H (.int (j : Int)) := fun H1 e Q q =>
  ha H1 e _ fun H2 e2 => ⟨Or.inl ⟨rfl, _, sq_of ((e.trans e2) _ _ hp)⟩, hb H2 (e.trans e2) _ fun H3 e3 => ⟨p, ns.map V.int, .int m, j, .int m, rfl, rfl, sq_of (((e.trans e2).trans e3) _ _ hp), rfl, by simp [List.all_eq_true, flatV], by rw [List.getElem?_map, hj]; rfl, by simp [eqV], fun k z' hk hz => by
    rw [List.getElem?_map] at hz
    cases h : ns[k]? with
    | none => rw [h] at hz; cases hz
    | some z =>
      rw [h] at hz
      obtain rfl : V.int z = z' := Option.some.inj hz
      simpa [eqV] using hf k z hk h, q H3 (e2.trans e3)⟩⟩

/-! data -/
mutual
theorem dp_mono (e : Ex H H') : ∀ (d : PyData) (v : V), Dp K H v d → Dp K H' v d
  | .none, _, h => by cases h; exact .non
  | .bool b, _, h => by cases h; exact .bl b
  | .int i, _, h => by cases h; exact .int i
  | .str x, _, h => by cases h; exact .str x
  | .list ds, _, h => by
    cases h with
    | lst hs ha => exact .lst (ex_l e hs) (dpa_mono e ds _ ha)
  | .tuple ds, _, h => by
    cases h with
    | tup hs ha => exact .tup (ex_t e hs) (dpa_mono e ds _ ha)
  | .dict _, _, h => by cases h
theorem dpa_mono (e : Ex H H') : ∀ (ds : List PyData) (vs : List V), DpAll K H vs ds → DpAll K H' vs ds
  | [], _, h => by cases h; exact .nil
  | d :: ds, _, h => by
    cases h with
    | cons h1 h2 => exact .cons (dp_mono e d _ h1) (dpa_mono e ds _ h2)
end
def IsD (K : PySem.W.Frag) (d : PyData) : V → Hp → Prop := fun x H => Dp K H x d
instance {d : PyData} : MonoP (IsD K d) := ⟨fun e h => dp_mono e d _ h⟩
theorem ints_dp : ∀ ns : List Int, DpAll K H (ns.map V.int) (ns.map PyData.int)
  | [] => .nil
  | n :: r => .cons (.int n) (ints_dp r)
/-- a list of ints, as data -/
def dI (ns : List Int) : PyData := .list (ns.map PyData.int)
theorem isL_d {ns : List Int} : IsL (ns.map V.int) x H → IsD K (dI ns) x H := fun ⟨p, e, hp⟩ => by
  subst e
  exact .lst (sq_of hp) (ints_dp ns)
theorem evp_d {ns : List Int} (h : EvP te s H (IsL (ns.map V.int))) : EvP te s H (IsD K (dI ns)) := h.imp fun _ _ _ p => isL_d p
theorem dI_lay0 : ∀ ns : List Int, PyData.canLayAll0 (ns.map PyData.int) = true
  | [] => by simp [PyData.canLayAll0]
  | n :: r => by simp [PyData.canLayAll0, PyData.canLay0, dI_lay0 r]
theorem dI_depth : ∀ ns : List Int, PyData.depthAll (ns.map PyData.int) = 0
  | [] => by simp [PyData.depthAll]
  | n :: r => by simp [PyData.depthAll, PyData.depth, dI_depth r]
theorem dI_shaped (ns : List Int) : SeqAt.shaped (dI ns) = true := by
  simp [SeqAt.shaped, dI, PyData.canLay0, PyData.depth, dI_lay0, dI_depth]
theorem dI_eqvAll : ∀ a b : List Int, PyData.eqvAll (a.map PyData.int) (b.map PyData.int) = decide (a = b)
  | [], [] => by simp [PyData.eqvAll]
  | [], y :: b => by simp [PyData.eqvAll]
  | x :: a, [] => by simp [PyData.eqvAll]
  | x :: a, y :: b => by
    show PyData.eqvAll (.int x :: a.map PyData.int) (.int y :: b.map PyData.int) = _
    rw [PyData.eqvAll, dI_eqvAll a b, PyData.eqv]
    by_cases h : x = y <;> simp [h]
theorem dI_eqv (a b : List Int) : PyData.eqv (dI a) (dI b) = decide (a = b) := by
  show PyData.eqv (.list _) (.list _) = _
  rw [PyData.eqv, dI_eqvAll]
theorem ev_eqD {d e : PyData} (ha : EvP ta s H (IsD K d)) (hb : EvP tb s H (IsD K e)) (h1 : SeqAt.shaped d = true) (h2 : SeqAt.shaped e = true) : Ev (tOp (rEqD K) ta tb) s H (.bl (PyData.eqv d e)) :=
  ev_opP ha hb fun a b H1 _ pa pb H2 e2 Q q => ⟨d, e, dp_mono e2 d _ pa, dp_mono e2 e _ pb, h1, h2, q H2 (Ex.refl H2)⟩
theorem ev_neD {d e : PyData} (ha : EvP ta s H (IsD K d)) (hb : EvP tb s H (IsD K e)) (h1 : SeqAt.shaped d = true) (h2 : SeqAt.shaped e = true) : Ev (tOp (rNeD K) ta tb) s H (.bl (!PyData.eqv d e)) :=
  ev_opP ha hb fun a b H1 _ pa pb H2 e2 Q q => ⟨d, e, dp_mono e2 d _ pa, dp_mono e2 e _ pb, h1, h2, q H2 (Ex.refl H2)⟩
theorem ev_eqL {a b : List Int} (ha : EvP ta s H (IsL (a.map V.int))) (hb : EvP tb s H (IsL (b.map V.int))) : Ev (tOp (rEqD K) ta tb) s H (.bl (decide (a = b))) := by
  rw [← dI_eqv]
  exact ev_eqD (evp_d ha) (evp_d hb) (dI_shaped a) (dI_shaped b)
theorem ev_neL {a b : List Int} (ha : EvP ta s H (IsL (a.map V.int))) (hb : EvP tb s H (IsL (b.map V.int))) : Ev (tOp (rNeD K) ta tb) s H (.bl (!decide (a = b))) := by
  rw [← dI_eqv]
  exact ev_neD (evp_d ha) (evp_d hb) (dI_shaped a) (dI_shaped b)

/-! slices, +, reversal -/
theorem el_sliceL {tl th : TO} {xs : List V} {lo hi : Option Int} (h : EvP te s H (IsL xs)) (h1 : EvO tl s H lo) (h2 : EvO th s H hi) : EvL (tSl (rSlL K) te tl th) s H (cutV xs lo hi) := fun H1 e Q q =>
  h H1 e _ fun v H2 e2 ⟨a, ev, hp⟩ => h1 H2 (e.trans e2) _ fun H3 e3 => h2 H3 ((e.trans e2).trans e3) _ fun H4 e4 =>
    ⟨a, xs, ev, sq_of (e4 _ _ (e3 _ _ hp)), fun p hp => q p _ (fresh_back ((e2.trans e3).trans e4) hp) (((e2.trans e3).trans e4).trans (Ex.new hp)) upd_same⟩
theorem el_revL {xs : List V} (h : EvP te s H (IsL xs)) : EvL (tRevL K te) s H xs.reverse := fun H1 e Q q =>
  h H1 e _ fun v H2 e2 ⟨a, ev, hp⟩ => ⟨a, xs, ev, sq_of hp, fun p hp => q p _ (fresh_back e2 hp) (e2.trans (Ex.new hp)) upd_same⟩
theorem cut_to {xs : List V} {k : Nat} : cutV xs none (some (k : Int)) = xs.take k := by
  unfold cutV
  rw [HT.sIx_nat, HT.sIx_none, List.drop_zero, Nat.sub_zero]
  by_cases h : k ≤ xs.length
  · rw [Nat.min_eq_left h]
  · rw [Nat.min_eq_right (by omega), List.take_length, List.take_of_length_le (by omega)]
theorem cut_from {xs : List V} {k : Nat} : cutV xs (some (k : Int)) none = xs.drop k := by
  unfold cutV
  rw [HT.sIx_nat, HT.sIx_none]
  by_cases h : k ≤ xs.length
  · rw [Nat.min_eq_left h, List.take_of_length_le (by rw [List.length_drop]; omega)]
  · rw [Nat.min_eq_right (by omega), List.drop_length, List.drop_of_length_le (by omega), List.take_nil]
theorem ev_var' {i : Nat} {p : Addr} {xs : List V} (h : s[i]? = some (some (.ref p))) (hp : H p = some (.lst xs)) : EvP (tVar i) s H (IsL xs) := fun H1 e _ q => ⟨_, h, q _ H1 (Ex.refl H1) ⟨p, rfl, e _ _ hp⟩⟩
theorem ev_varU {i : Nat} {p : Addr} {xs : List V} (h : s[i]? = some (some (.ref p))) (hp : H p = some (.tup xs)) : EvP (tVar i) s H (IsU xs) := fun H1 e _ q => ⟨_, h, q _ H1 (Ex.refl H1) ⟨p, rfl, e _ _ hp⟩⟩
end
/-! ### defs -/
section
variable {P : Program} {w : World} {K : PySem.W.Frag} {mg : Str → Option Value} {base : Heap}
/-- a def of the text as the top leaves it -/
def Raw (K : PySem.W.Frag) (mg : Str → Option Value) (x : Str) (st : Stmt) (ps : List Str) : Prop := ∃ f fd, Fun K x x st f fd ∧ mg x = some (.ref f) ∧ Binds K fd ps []
/-- a def with its promise -/
def Def (P : Program) (w : World) (K : PySem.W.Frag) (mg : Str → Option Value) (base : Heap) (CX : CXT) (k : Nat) (x : Str) (ps : List Str) (sp : Sp) : Prop :=
  ∃ f fd, FnOk P w K mg base CX k f fd ps sp ∧ mg x = some (.ref f) ∧ PySem.W.keepIn K (.ref f) = true ∧ Binds K fd ps []
theorem Raw.ok {x : Str} {st : Stmt} {ps : List Str} {CX : CXT} {k : Nat} {sp : Sp} (r : Raw K mg x st ps) (h : ∀ f fd, Fun K x x st f fd → FnOk P w K mg base CX k f fd ps sp) : Def P w K mg base CX k x ps sp := by
  obtain ⟨f, fd, F, g, b⟩ := r
  exact ⟨f, fd, h f fd F, g, F.kp, b⟩
end
section
variable {X : Cx} {CX : CXT} {k j : Nat} {x : Str} {ps : List Str} {sp : Sp} {E : XK} {p pos : Pos} {e : Expr} {es : List Expr} {t : TA}
/-- the rule of a call, the def's address hidden -/
theorem pe_def (d : Def X.prog X.w X.K X.mg X.base CX k x ps sp) (hr : Room j X.A) (hk : k ≤ j) (hg : Gl X x) (hx : Passes CX X E) (ha : PA X (e :: es) t) (hdb : (x == ("__debug__" : Str)) = false := by decide)
    (he : starEach (e :: es) X.env = (false, eval e X.env) :: starEach es X.env := by rfl) (hpl : (backTo pos (starEach es X.env)).any (·.1) = false := by rfl) :
    PE X (.Call (.Name x p) (e :: es) [] pos) (tCall sp [] E t) := by
  refine ⟨fun pins s σ H Q I h => ?_⟩
  obtain ⟨f, fd, F, g, kp, b⟩ := d
  exact (pe_call F (hr.mono hk) hg g kp b .nil hx ha hdb he hpl).run pins s σ H Q I h
theorem pe_def0 (d : Def X.prog X.w X.K X.mg X.base CX k x ps sp) (hr : Room j X.A) (hk : k ≤ j) (hg : Gl X x) (hx : Passes CX X E) (hdb : (x == ("__debug__" : Str)) = false := by decide) :
    PE X (.Call (.Name x p) [] [] pos) (tCall sp [] E tNil) := by
  refine ⟨fun pins s σ H Q I h => ?_⟩
  obtain ⟨f, fd, F, g, kp, b⟩ := d
  exact (pe_call0 F (hr.mono hk) hg g kp b .nil hx hdb).run pins s σ H Q I h
end
end Wk

set_option Elab.async false
set_option linter.all false
set_option maxRecDepth 100000
set_option maxHeartbeats 4000000
namespace Ev
open PySem PySem.Spec L2 Evl Wk
def topS (i : Nat) : Stmt := PySem.Challenge.pw_evenhand_k03_taken_and_given.main.body.getD i (.Pass ⟨0, 0, 0, 0⟩)
abbrev s_is_whole : Stmt := topS 6
theorem sc_is_whole : FnScope ["thing"] ["thing"] (defScope s_is_whole) := ⟨rfl, rfl, rfl, by decide +kernel, rfl, by decide +kernel, by decide +kernel⟩
abbrev s_is_share : Stmt := topS 7
theorem sc_is_share : FnScope ["thing"] ["thing"] (defScope s_is_share) := ⟨rfl, rfl, rfl, by decide +kernel, rfl, by decide +kernel, by decide +kernel⟩
abbrev s_check_row : Stmt := topS 8
theorem sc_check_row : FnScope ["row", "share"] ["row"] (defScope s_check_row) := ⟨rfl, rfl, rfl, by decide +kernel, rfl, by decide +kernel, by decide +kernel⟩
abbrev s_running : Stmt := topS 9
theorem sc_running : FnScope ["shares", "found", "total", "share"] ["shares"] (defScope s_running) := ⟨rfl, rfl, rfl, by decide +kernel, rfl, by decide +kernel, by decide +kernel⟩
abbrev s_over : Stmt := topS 10
theorem sc_over : FnScope ["row", "mark", "share"] ["row", "mark"] (defScope s_over) := ⟨rfl, rfl, rfl, by decide +kernel, rfl, by decide +kernel, by decide +kernel⟩
abbrev s_check_amount : Stmt := topS 13
theorem sc_check_amount : FnScope ["amount"] ["amount"] (defScope s_check_amount) := ⟨rfl, rfl, rfl, by decide +kernel, rfl, by decide +kernel, by decide +kernel⟩
abbrev s_level_of : Stmt := topS 14
theorem sc_level_of : FnScope ["row", "amount", "sums", "k"] ["row", "amount"] (defScope s_level_of) := ⟨rfl, rfl, rfl, by decide +kernel, rfl, by decide +kernel, by decide +kernel⟩
abbrev s_lowered : Stmt := topS 15
theorem sc_lowered : FnScope ["row", "amount", "level", "left", "found", "place"] ["row", "amount"] (defScope s_lowered) := ⟨rfl, rfl, rfl, by decide +kernel, rfl, by decide +kernel, by decide +kernel⟩
abbrev s_checked : Stmt := topS 16
theorem sc_checked : FnScope ["row", "share"] ["row"] (defScope s_checked) := ⟨rfl, rfl, rfl, by decide +kernel, rfl, by decide +kernel, by decide +kernel⟩
abbrev s_taken : Stmt := topS 17
theorem sc_taken : FnScope ["row", "amount"] ["row", "amount"] (defScope s_taken) := ⟨rfl, rfl, rfl, by decide +kernel, rfl, by decide +kernel, by decide +kernel⟩
abbrev s_poured : Stmt := topS 18
theorem sc_poured : FnScope ["row", "amount", "share"] ["row", "amount"] (defScope s_poured) := ⟨rfl, rfl, rfl, by decide +kernel, rfl, by decide +kernel, by decide +kernel⟩
abbrev s_law_cell_at : Stmt := topS 20
theorem sc_law_cell_at : FnScope ["_law_script", "_law_k"] ["_law_script", "_law_k"] (defScope s_law_cell_at) := ⟨rfl, rfl, rfl, by decide +kernel, rfl, by decide +kernel, by decide +kernel⟩
abbrev s_law_draw : Stmt := topS 21
theorem sc_law_draw : FnScope ["_law_cell", "_law_k", "_law_many", "_law_primes"] ["_law_cell", "_law_k", "_law_many"] (defScope s_law_draw) := ⟨rfl, rfl, rfl, by decide +kernel, rfl, by decide +kernel, by decide +kernel⟩
abbrev s_law_row : Stmt := topS 22
theorem sc_law_row : FnScope ["_law_script", "_law_most", "_law_row_here", "_law_k", "_law_share"] ["_law_script"] (defScope s_law_row) := ⟨rfl, rfl, rfl, by decide +kernel, rfl, by decide +kernel, by decide +kernel⟩
abbrev s_law_other : Stmt := topS 23
theorem sc_law_other : FnScope ["_law_script", "_law_row_here", "_law_found", "_law_kind", "_law_k", "_law_one", "_law_other_here", "_law_more", "_law_amount"] ["_law_script", "_law_row_here"] (defScope s_law_other) := ⟨rfl, rfl, rfl, by decide +kernel, rfl, by decide +kernel, by decide +kernel⟩
abbrev s_law_numbers : Stmt := topS 24
theorem sc_law_numbers : FnScope ["_law_found", "_law_many", "_law_one"] ["_law_found", "_law_many"] (defScope s_law_numbers) := ⟨rfl, rfl, rfl, by decide +kernel, rfl, by decide +kernel, by decide +kernel⟩
abbrev s_law_lowered : Stmt := topS 25
theorem sc_law_lowered : FnScope ["_law_row_here", "_law_found", "_law_amount", "_law_most", "_law_seen", "_law_share", "_law_left"] ["_law_row_here", "_law_found", "_law_amount"] (defScope s_law_lowered) := ⟨rfl, rfl, rfl, by decide +kernel, rfl, by decide +kernel, by decide +kernel⟩
abbrev s_law_one_less : Stmt := topS 26
theorem sc_law_one_less : FnScope ["_law_row_here", "_law_at"] ["_law_row_here"] (defScope s_law_one_less) := ⟨rfl, rfl, rfl, by decide +kernel, rfl, by decide +kernel, by decide +kernel⟩
abbrev s_law : Stmt := topS 27
theorem sc_law : FnScope ["_law_script", "_law_row_here", "_law_minus", "_law_amounts", "_law_amount", "_law_handed", "_law_found", "_law_part", "_law_now", "_law_k", "_law_share"] ["_law_script"] (defScope s_law) := ⟨rfl, rfl, rfl, by decide +kernel, rfl, by decide +kernel, by decide +kernel⟩
structure Txt (K : PySem.W.Frag) (mg : Str → Option Value) : Prop where
  n_len : mg "len" = none
  n_all : mg "all" = none
  n_any : mg "any" = none
  n_sum : mg "sum" = none
  n_max : mg "max" = none
  n_min : mg "min" = none
  n_sorted : mg "sorted" = none
  n_isinstance : mg "isinstance" = none
  n_range : mg "range" = none
  n_reversed : mg "reversed" = none
  n_zip : mg "zip" = none
  n_list : mg "list" = none
  n_abs : mg "abs" = none
  n_str : mg "str" = none
  n_int : mg "int" = none
  n_set : mg "set" = none
  n_bool : mg "bool" = none
  n_tuple : mg "tuple" = none
  g_GREATEST : ∃ t, mg "GREATEST" = some (.int 1000000 t)
  g_MOST : ∃ t, mg "MOST" = some (.int 1000000000 t)
end Ev

set_option Elab.async false
set_option linter.all false
set_option maxRecDepth 100000
set_option maxHeartbeats 4000000
namespace Ev
open PySem PySem.Spec L2 Evl Wk
/-! ### rows: is_whole, is_share, check_row, running, over -/
local macro_rules | `(tactic| walk_at "ev") => `(tactic| first
  | exact ev_c | exact ev_var rfl | assumption
  | (refine ev_op ?_ ?_ rv_I0 <;> walk_at "ev")
  | (refine ev_un ?_ ru_neg; walk_at "ev"))
def tyns : List String := ["int", "bool", "str", "list", "tuple", "dict", "NoneType"]
def spWhole (K : PySem.W.Frag) : Sp := fun vs H Q _ => ∃ (x : V) (n : String), vs = [x] ∧ TyX K H x (.type n) ∧ n ∈ tyns ∧ RetV (.bl (n == "int")) H Q
section
variable {P : Program} {w : World} {K : PySem.W.Frag} {mg : Str → Option Value} {base : Heap}
theorem def_is_whole (R : Raw K mg "is_whole" s_is_whole ["thing"]) (T : Txt K mg) : Def P w K mg base CX0 1 "is_whole" ["thing"] (spWhole K) := by
  refine R.ok fun f fd F => F.ok sc_is_whole (fun vs H Q E h => ?_) (fun cdv A outer s H vs Q E hr h => ?_)
  · obtain ⟨x, n, rfl, _⟩ := h
    rfl
  · obtain ⟨x, n, rfl, ty, hn, q⟩ := h
    refine ⟨_, (pss_cons (ps_ret (pe_and (pe_callB (r := rIsi K) call_isi (by rfl) T.n_isinstance (by decide +kernel) (pa_cons (pv 0) (pa_cons (pe_bltn (v := .ty "int") (u := .type "int") (by rfl) T.n_int (by decide +kernel) rfl) pa_nil))) (pe_one (pe_not (pe_callB (r := rIsi K) call_isi (by rfl) T.n_isinstance (by decide +kernel) (pa_cons (pv 0) (pa_cons (pe_bltn (v := .ty "bool") (u := .type "bool") (by rfl) T.n_bool (by decide +kernel) rfl) pa_nil)))))))
      pss_nil), ?_⟩
    have k1 : ∃ a b : Bool, PySem.W.kitOne K (.type n) (.type "int") = some a ∧ PySem.W.kitOne K (.type n) (.type "bool") = some b ∧ (a && !b) = (n == "int") := by
      simp only [tyns, List.mem_cons, List.not_mem_nil, or_false] at hn
      rcases hn with rfl | rfl | rfl | rfl | rfl | rfl | rfl
      · exact ⟨true, false, kit_ty (by decide +kernel), kit_ty (by decide +kernel), by decide +kernel⟩
      · exact ⟨true, true, kit_ty (by decide +kernel), kit_ty (by decide +kernel), by decide +kernel⟩
      · exact ⟨false, false, kit_ty (by decide +kernel), kit_ty (by decide +kernel), by decide +kernel⟩
      · exact ⟨false, false, kit_ty (by decide +kernel), kit_ty (by decide +kernel), by decide +kernel⟩
      · exact ⟨false, false, kit_ty (by decide +kernel), kit_ty (by decide +kernel), by decide +kernel⟩
      · exact ⟨false, false, kit_ty (by decide +kernel), kit_ty (by decide +kernel), by decide +kernel⟩
      · exact ⟨false, false, kit_ty (by decide +kernel), kit_ty (by decide +kernel), by decide +kernel⟩
    obtain ⟨a, b, k2, k3, k4⟩ := k1
    refine Sv.go (w_ret (v := .bl (a && !b)) (ev_andV (ev_isi (ev_var rfl) ev_c (.ty _) ty k2) fun _ => ev_notV (ev_isi (ev_var rfl) ev_c (.ty _) ty k3)) fun H1 e1 => ?_)
    rw [k4]
    exact q H1 e1
def isSh (i : Int) : Bool := decide (-1000000 ≤ i) && decide (i ≤ 1000000)
/-- what is_share says of a value -/
def shV : V → Bool
  | .int i => isSh i
  | _ => false
def spShare (K : PySem.W.Frag) : Sp := fun vs H Q _ => ∃ (x : V) (n : String), vs = [x] ∧ TyX K H x (.type n) ∧ n ∈ tyns ∧ ((n == "int") = true → ∃ i, x = .int i) ∧ RetV (.bl ((n == "int") && shV x)) H Q
theorem def_is_share (R : Raw K mg "is_share" s_is_share ["thing"]) (T : Txt K mg) (d_is_whole : Def P w K mg base CX0 1 "is_whole" ["thing"] (spWhole K)) : Def P w K mg base CX0 2 "is_share" ["thing"] (spShare K) := by
  refine R.ok fun f fd F => F.ok sc_is_share (fun vs H Q E h => ?_) (fun cdv A outer s H vs Q E hr h => ?_)
  · obtain ⟨x, n, rfl, _⟩ := h
    rfl
  · obtain ⟨x, n, rfl, ty, hn, hi, q⟩ := h
    refine ⟨_, (pss_cons (ps_ret (pe_and (pe_def d_is_whole hr (by decide) (by rfl) pass0 (pa_cons (pv 0) pa_nil)) (pe_one (pe_chain op_le op_le (pe_un un_neg (pe_glob (v := .int 1000000) rfl T.g_GREATEST.choose_spec ⟨_, rfl⟩)) (pv 0) (pe_glob (v := .int 1000000) rfl T.g_GREATEST.choose_spec ⟨_, rfl⟩)))))
      pss_nil), ?_⟩
    refine Sv.go (w_ret (v := .bl ((n == "int") && shV x)) (ev_andV (ev_call (dvs := []) (ea_cons (ev_var rfl) ea_nil) fun H1 e1 Q q E => ⟨x, n, rfl, tyx_mono e1 ty, hn, q⟩) fun hb => ?_) fun H1 e1 => q H1 e1)
    obtain ⟨i, rfl⟩ := hi hb
    exact ev_chain (ev_un ev_c ru_neg) (ev_var rfl) rv_I0 fun _ => ⟨ev_c, rv_I0⟩
/-- a row of shares -/
def RowOk (ns : List Int) : Prop := ns ≠ [] ∧ (∀ x ∈ ns, isSh x = true) ∧ ns.length ≤ 100000
theorem isSh_iff {i : Int} : isSh i = true ↔ -1000000 ≤ i ∧ i ≤ 1000000 := by simp [isSh]
theorem ints_all {α : Type} {f : α → Bool} {l : List α} (h : ∀ x ∈ l, f x = true) : (l.map f).all id = true := by
  rw [List.all_eq_true]
  intro b hb
  obtain ⟨x, hx, rfl⟩ := List.mem_map.mp hb
  exact h x hx
theorem map_bl {α : Type} (f : α → Bool) (l : List α) : l.map (fun x => V.bl (f x)) = (l.map f).map V.bl := by rw [List.map_map]; rfl
theorem map_int {α : Type} (f : α → Int) (l : List α) : l.map (fun x => V.int (f x)) = (l.map f).map V.int := by rw [List.map_map]; rfl
/-- all([is_share(x) for x in row]) -/
theorem ev_shares {s : L2.St} {H : Hp} {tl : TE} {E : XK} {j : Nat} {a : Addr} (ns : List Int) (h : Ev tl s H (.ref a)) (hx : H a = some (.lst (ns.map V.int))) (hz : ns.length ≤ 100000) (hw : ∀ x, wipe ((wipe s [j]).set j (some x)) [j] = wipe s [j])
    (hj : ∀ x, ((wipe s [j]).set j (some x))[j]? = some (some x)) :
    Ev (tCB (rAll K) (tCons (tLc (iList K tl) (gName j) tYes (tCall (spShare K) [] E (tCons (tVar j) tNil)) [j]) tNil)) s H (.bl ((ns.map isSh).all id)) := by
  have h2 := el_map (K := K) (te := tCall (spShare K) [] E (tCons (tVar j) tNil)) ns V.int (fun x => V.bl (isSh x)) h (sq_of hx) hz hw (fun x _ => ev_call (dvs := []) (ea_cons (ev_var (hj _)) ea_nil) fun H1 e1 Q q E => ⟨.int x, "int", rfl, .base (.int x), by simp [tyns], fun _ => ⟨x, rfl⟩, q⟩)
  rw [map_bl] at h2
  exact ev_all h2.p
def spCheckRow : Sp := fun vs H Q _ => ∃ (a : Addr) (ns : List Int), vs = [.ref a] ∧ H a = some (.lst (ns.map V.int)) ∧ RowOk ns ∧ RetV .non H Q
theorem def_check_row (R : Raw K mg "check_row" s_check_row ["row"]) (T : Txt K mg) (d_is_share : Def P w K mg base CX0 2 "is_share" ["thing"] (spShare K)) : Def P w K mg base CX0 3 "check_row" ["row"] spCheckRow := by
  refine R.ok fun f fd F => F.ok sc_check_row (fun vs H Q E h => ?_) (fun cdv A outer s H vs Q E hr h => ?_)
  · obtain ⟨a, ns, rfl, _⟩ := h
    rfl
  · obtain ⟨a, ns, rfl, ha, ⟨h1, h2, h3⟩, q⟩ := h
    refine ⟨_, (pss_cons (ps_if (PW.pt (pw_or (pt_not (pt_val (pe_callB (r := rIsi K) call_isi (by rfl) T.n_isinstance (by decide +kernel) (pa_cons (pv 0) (pa_cons (pe_bltn (v := .ty "list") (u := .type "list") (by rfl) T.n_list (by decide +kernel) rfl) pa_nil))))) (pw_or (pt_cmpR op_eq (pe_callB (r := rLenS K) call_len_seq (by rfl) T.n_len PySem.boot_len (pa_cons (pv 0) pa_nil)) pe_int (nomark _)) (pw_or1 (pt_not (pt_val (pe_callB (r := rAll K) (cr_all rfl) (by rfl) T.n_all (by decide +kernel) (pa_cons (pe_lc (own := [("share", 1)]) (g := gName 1) rfl sc_check_row.nd (pi_list (pv 0)) (blkOk_by (own := [("share", 1)]) (N := ["row", "share"]) (sc := defScope s_check_row) (by decide +kernel)) (fun _ _ _ _ _ => pg_name (i := 1) sc_check_row.nd rfl (Or.inl rfl)) (fun _ _ _ _ _ => pts_nil) (fun _ _ _ _ _ => (pe_def d_is_share hr (by decide) (by rfl) pass0 (pa_cons (pv 1) pa_nil)))) pa_nil))))))))
        (pss_cons ps_never
          pss_nil)
        pss_nil)
      pss_nil), ?_⟩
    have hl : (V.int (((ns.map V.int).length : Nat) : Int) = V.int 0) = False := by
      simp only [V.int.injEq, List.length_map, eq_iff_iff, iff_false]
      have := List.length_pos_iff.mpr h1
      omega
    refine Sv.go (w_if (b := false) (et_is (et_or (et_not (et_B (ev_isi (b := true) (ev_var rfl) ev_c (.ty _) (.base (.lst ha)) (kit_ty (by decide +kernel))))) fun _ => et_or (et_test (ev_op (ev_lenL (ev_var' rfl ha)) ev_c (rv_eq rfl))) fun _ => et_not (et_B (ev_shares ns (ev_var rfl) ha h3 (fun _ => rfl) (fun _ => rfl)))) ?_) (fun h => nomatch h) fun _ => w_nx fun H1 e1 => q H1 e1)
    rw [ints_all h2]
    simp only [hl]
    rfl
/-- the running sums -/
def runs : Int → List Int → List Int
  | _, [] => []
  | t, x :: r => (t + x) :: runs (t + x) r
theorem runs_len : ∀ (t : Int) (l : List Int), (runs t l).length = l.length
  | _, [] => rfl
  | t, x :: r => by simp [runs, runs_len (t + x) r]
theorem runs_snoc : ∀ (t : Int) (l : List Int) (x : Int), runs t (l ++ [x]) = runs t l ++ [t + l.sum + x]
  | t, [], x => by simp [runs]
  | t, y :: l, x => by
    show (t + y) :: runs (t + y) (l ++ [x]) = (t + y) :: (runs (t + y) l ++ [t + (y :: l).sum + x])
    rw [runs_snoc (t + y) l x, List.sum_cons]
    have e : t + y + l.sum + x = t + (y + l.sum) + x := by omega
    rw [e]
theorem int_at {ns : List Int} {i : Nat} {x : V} (h : (ns.map V.int)[i]? = some x) : ∃ n, ns[i]? = some n ∧ x = .int n := by
  rw [List.getElem?_map] at h
  cases e : ns[i]? with
  | none => rw [e] at h; cases h
  | some n => rw [e] at h; exact ⟨n, rfl, (Option.some.inj h).symm⟩
def spRunning : Sp := fun vs H Q _ => ∃ (a : Addr) (ns : List Int), vs = [.ref a] ∧ H a = some (.lst (ns.map V.int)) ∧ ns.length ≤ 10000 ∧ RetL ((runs 0 ns).map V.int) H Q
theorem def_running (R : Raw K mg "running" s_running ["shares"]) (T : Txt K mg) : Def P w K mg base CX0 1 "running" ["shares"] spRunning := by
  refine R.ok fun f fd F => F.ok sc_running (fun vs H Q E h => ?_) (fun cdv A outer s H vs Q E hr h => ?_)
  · obtain ⟨a, ns, rfl, _⟩ := h
    rfl
  · obtain ⟨a, ns, rfl, ha, hz, q⟩ := h
    refine ⟨_, (pss_cons (ps_set (i := 1) sc_running.nd rfl (Or.inl rfl) (pe_lst pa_nil))
      (pss_cons (ps_set (i := 2) sc_running.nd rfl (Or.inl rfl) pe_int)
      (pss_cons (ps_for PassesOwn.never rfl (pi_list (pv 0)) (pg_name (i := 3) sc_running.nd rfl (Or.inl rfl))
        (pss_cons (ps_aug (i := 2) sc_running.nd rfl (Or.inl rfl) (pv 3) ip_add)
          (pss_cons (ps_expr (pe_bm PySem.F.plainAttrs_list PySem.F.slot_list_append PySem.F.type_list_append mt_append (pv 1) (pa_cons (pv 2) pa_nil)))
          pss_nil)))
      (pss_cons (ps_ret (pv 1))
      pss_nil)))), ?_⟩
    refine Sv.go (w_asgL (el_lst ea_nil (by decide)) fun p H1 np e1 hp => w_asg ev_c (w_forL (ev_var rfl) (sq_of (e1 _ _ ha)) (fun i s' H' => ∃ y, s' = [some (.ref a), some (.ref p), some (.int (ns.take i).sum), y] ∧ Ex H H' ∧ H' p = some (.lst ((runs 0 (ns.take i)).map V.int))) (fun H2 e2 => ⟨none, rfl, e1.trans e2, e2 _ _ hp⟩) (fun i s' H' hi ⟨y, _, ex, _⟩ => sq_of (ex _ _ ha)) ?_ ?_))
    · rintro i x s' H' hi ⟨y, rfl, ex, hp'⟩
      obtain ⟨n, hn, rfl⟩ := int_at hi
      have hlt : i < ns.length := (List.getElem?_eq_some_iff.mp hn).1
      have et : ns.take (i + 1) = ns.take i ++ [n] := by rw [List.take_add_one, hn]; rfl
      refine w_aug rfl (ev_var rfl) (w_app hp' (ev_var rfl) (ev_var rfl) ?_ fun H2 pt => w_nx fun H3 e3 => ⟨some (.int n), ?_, (pt.ex ex np).trans e3, ?_⟩)
      · rw [List.length_map, runs_len, List.length_take]
        omega
      · rw [et, List.sum_append]
        simp
      · rw [et, runs_snoc, List.map_append, e3 _ _ pt.new]
        simp
    · rintro s' H' ⟨y, rfl, ex, hp'⟩
      refine w_ret (ev_var rfl) fun H2 e2 => ?_
      rw [List.length_map, List.take_length] at hp'
      exact q p H2 np (ex.trans e2) (e2 _ _ hp')
/-- what a row has above a mark -/
def overF (ns : List Int) (m : Int) : Int := ((ns.filter fun x => decide (m < x)).map fun x => x - m).sum
def spOver : Sp := fun vs H Q _ => ∃ (a : Addr) (ns : List Int) (m : Int), vs = [.ref a, .int m] ∧ H a = some (.lst (ns.map V.int)) ∧ ns.length ≤ 10000 ∧ RetV (.int (overF ns m)) H Q
theorem def_over (R : Raw K mg "over" s_over ["row", "mark"]) (T : Txt K mg) : Def P w K mg base CX0 1 "over" ["row", "mark"] spOver := by
  refine R.ok fun f fd F => F.ok sc_over (fun vs H Q E h => ?_) (fun cdv A outer s H vs Q E hr h => ?_)
  · obtain ⟨a, ns, m, rfl, _⟩ := h
    rfl
  · obtain ⟨a, ns, m, rfl, ha, hz, q⟩ := h
    refine ⟨_, (pss_cons (ps_ret (pe_callB (r := rSum K) (cr_sum rfl) (by rfl) T.n_sum (by decide +kernel) (pa_cons (pe_lc (own := [("share", 2)]) (g := gName 2) rfl sc_over.nd (pi_list (pv 0)) (blkOk_by (own := [("share", 2)]) (N := ["row", "mark", "share"]) (sc := defScope s_over) (by decide +kernel)) (fun _ _ _ _ _ => pg_name (i := 2) sc_over.nd rfl (Or.inl rfl)) (fun _ _ _ _ _ => pts_one (pt_cmpR op_gt (pv 2) (pv 1) (nomark _))) (fun _ _ _ _ _ => (pe_op op_sub (pv 2) (pv 1)))) pa_nil)))
      pss_nil), ?_⟩
    refine Sv.go (w_ret (ev_sum (ns := (ns.filter fun x => decide (m < x)).map fun x => x - m) (EvL.p ?_)) fun H1 e1 => q H1 e1)
    rw [← map_int]
    exact el_comp ns V.int (fun x => decide (m < x)) (fun x => V.int (x - m)) (ev_var rfl) (sq_of ha) (by omega) (fun _ => rfl) (fun x _ => et_test (ev_op (ev_var rfl) (ev_var rfl) rv_I0)) (fun x _ _ => ev_op (ev_var rfl) (ev_var rfl) rv_I0)
end
end Ev

set_option Elab.async false
set_option linter.all false
set_option maxRecDepth 100000
set_option maxHeartbeats 4000000
namespace Ev
open PySem PySem.Spec L2 Evl Wk
/-! ### levels -/
local macro_rules | `(tactic| walk_at "ev") => `(tactic| first
  | exact ev_c | exact ev_var rfl | assumption
  | (refine ev_op ?_ ?_ rv_I0 <;> walk_at "ev")
  | (refine ev_un ?_ ru_neg; walk_at "ev"))
def levelF (ns : List Int) (m : Int) : Int := mx ((List.range ns.length).map fun k => ((runs 0 (srtD ns)).getD k 0 - m) / ((k : Int) + 1))
/-- from the right: those above L become L, the last so many L + 1 -/
def cutR (L left : Int) : List Int → List Int × Int
  | [] => ([], left)
  | x :: r => if L < x then (if 0 < (cutR L left r).2 then ((L + 1) :: (cutR L left r).1, (cutR L left r).2 - 1) else (L :: (cutR L left r).1, (cutR L left r).2)) else (x :: (cutR L left r).1, (cutR L left r).2)
def lowF (ns : List Int) (m : Int) : List Int := (cutR (levelF ns m) (overF ns (levelF ns m) - m) ns).1
def takeF (ns : List Int) (m : Int) : List Int := if m = 0 then ns else lowF ns m
def negs (ns : List Int) : List Int := ns.map fun x => -x
def pourF (ns : List Int) (m : Int) : List Int := if m = 0 then ns else negs (lowF (negs ns) m)
theorem cutR_len (L left : Int) : ∀ l : List Int, (cutR L left l).1.length = l.length
  | [] => rfl
  | x :: r => by
    have ih := cutR_len L left r
    unfold cutR
    split
    · split <;> simp [ih]
    · simp [ih]
theorem lowF_len (ns : List Int) (m : Int) : (lowF ns m).length = ns.length := cutR_len _ _ _
section
variable {P : Program} {w : World} {K : PySem.W.Frag} {mg : Str → Option Value} {base : Heap}
def spCheckAmount (K : PySem.W.Frag) : Sp := fun vs H Q _ => ∃ m : Int, vs = [.int m] ∧ 0 ≤ m ∧ m ≤ 1000000000 ∧ RetV .non H Q
theorem def_check_amount (R : Raw K mg "check_amount" s_check_amount ["amount"]) (T : Txt K mg) (d_is_whole : Def P w K mg base CX0 1 "is_whole" ["thing"] (spWhole K)) : Def P w K mg base CX0 2 "check_amount" ["amount"] (spCheckAmount K) := by
  refine R.ok fun f fd F => F.ok sc_check_amount (fun vs H Q E h => ?_) (fun cdv A outer s H vs Q E hr h => ?_)
  · obtain ⟨m, rfl, _⟩ := h
    rfl
  · obtain ⟨m, rfl, h1, h2, q⟩ := h
    refine ⟨_, (pss_cons (ps_if (PW.pt (pw_or (pt_not (pt_val (pe_def d_is_whole hr (by decide) (by rfl) pass0 (pa_cons (pv 0) pa_nil)))) (pw_or1 (pt_not (pt_chain op_le op_le pe_int (pv 0) (pe_glob (v := .int 1000000000) rfl T.g_MOST.choose_spec ⟨_, rfl⟩))))))
        (pss_cons ps_never
          pss_nil)
        pss_nil)
      pss_nil), ?_⟩
    refine Sv.go (w_if (b := false) (et_is (et_or (et_not (et_B (ev_call (dvs := []) (z := .bl true) (ea_cons (ev_var rfl) ea_nil) fun H1 e1 Q q E => ⟨.int m, "int", rfl, .base (.int m), by simp [tyns], q⟩))) fun _ => et_not (et_test (ev_chain ev_c (ev_var rfl) rv_I0 fun _ => ⟨ev_c, rv_I0⟩))) ?_) (fun h => nomatch h) fun _ => w_nx fun H1 e1 => q H1 e1)
    simp [h1, h2]
def spLevel : Sp := fun vs H Q _ => ∃ (a : Addr) (ns : List Int) (m : Int), vs = [.ref a, .int m] ∧ H a = some (.lst (ns.map V.int)) ∧ ns ≠ [] ∧ ns.length ≤ 10000 ∧ RetV (.int (levelF ns m)) H Q
theorem def_level_of (R : Raw K mg "level_of" s_level_of ["row", "amount"]) (T : Txt K mg) (d_running : Def P w K mg base CX0 1 "running" ["shares"] spRunning) : Def P w K mg base CX0 2 "level_of" ["row", "amount"] spLevel := by
  refine R.ok fun f fd F => F.ok sc_level_of (fun vs H Q E h => ?_) (fun cdv A outer s H vs Q E hr h => ?_)
  · obtain ⟨a, ns, m, rfl, _⟩ := h
    rfl
  · obtain ⟨a, ns, m, rfl, ha, h1, hz, q⟩ := h
    refine ⟨_, (pss_cons (ps_set (i := 2) sc_level_of.nd rfl (Or.inr rfl) (pe_def d_running hr (by decide) (by rfl) pass0 (pa_cons (pe_callBK (r := rSortedKw K true [.bl true]) (cr_sortedRev (b := true)) (by rfl) T.n_sorted (by decide +kernel) (pa_cons (pv 0) pa_nil) (pk_cons pe_bl pk_nil)) pa_nil)))
      (pss_cons (ps_ret (pe_callB (r := rMax K) (cr_max rfl) (by rfl) T.n_max (by decide +kernel) (pa_cons (pe_lc (own := [("k", 3)]) (g := gName 3) rfl sc_level_of.nd (pi_range1 (by rfl) T.n_range (pa_cons (pe_callB (r := rLenS K) call_len_seq (by rfl) T.n_len PySem.boot_len (pa_cons (pv 2) pa_nil)) pa_nil)) (blkOk_by (own := [("k", 3)]) (N := ["row", "amount", "sums", "k"]) (sc := defScope s_level_of) (by decide +kernel)) (fun _ _ _ _ _ => pg_name (i := 3) sc_level_of.nd rfl (Or.inl rfl)) (fun _ _ _ _ _ => pts_nil) (fun _ _ _ _ _ => (pe_op op_fdiv (pe_op op_sub (pe_ix (r := rIxL K) ix_list (pv 2) (pv 3) (fun _ _ => rfl)) (pv 1)) (pe_op op_add (pv 3) pe_int)))) pa_nil)))
      pss_nil)), ?_⟩
    have hl : (runs 0 (srtD ns)).length = ns.length := by rw [runs_len, srtD_len]
    refine Sv.go (w_asgL (xs := (runs 0 (srtD ns)).map V.int) (el_callP (ap_one (EvL.p (el_sortedRev (ev_var' rfl ha) fun s H Q q => q))) fun vs H1 e1 ⟨v, ev, p, pv, hp⟩ Q q => ⟨p, srtD ns, by rw [ev, pv], hp, by rw [srtD_len]; exact hz, q⟩) fun p H1 np e1 hp => w_ret (ev_max (ns := (List.range ns.length).map fun k => ((runs 0 (srtD ns)).getD k 0 - m) / ((k : Int) + 1)) (EvL.p ?_) ?_) fun H2 e2 => q H2 (e1.trans e2))
    · have e0 : ns.length = ((((runs 0 (srtD ns)).map V.int).length : Nat) : Int).toNat := by
        rw [List.length_map, hl]
        rfl
      rw [← map_int]
      conv => rhs; rw [e0]
      refine el_mapR (fun k => V.int (((runs 0 (srtD ns)).getD k 0 - m) / ((k : Int) + 1))) (ea_cons (ev_lenL (ev_var' rfl hp)) ea_nil) (by rw [List.length_map, hl]; omega) (fun _ => rfl) fun i hi => ?_
      rw [List.length_map, hl] at hi
      have hi2 : i < (runs 0 (srtD ns)).length := by rw [hl]; omega
      refine ev_op (ev_op (ev_ixL (v := .int ((runs 0 (srtD ns)).getD i 0)) (ev_var' rfl hp) (ev_var rfl) (atI_nat ?_)) (ev_var rfl) rv_I0) (ev_op (ev_var rfl) ev_c rv_I0) (rv_I ⟨?_, ?_⟩)
      · rw [List.getElem?_map, List.getD_eq_getElem?_getD, List.getElem?_eq_getElem hi2]
        rfl
      · omega
      · omega
    · intro h
      have := congrArg List.length h
      simp at this
      exact h1 this
def spLowered : Sp := fun vs H Q _ => ∃ (a : Addr) (ns : List Int) (m : Int), vs = [.ref a, .int m] ∧ H a = some (.lst (ns.map V.int)) ∧ ns ≠ [] ∧ ns.length ≤ 10000 ∧ RetL ((lowF ns m).map V.int) H Q
theorem def_lowered (R : Raw K mg "lowered" s_lowered ["row", "amount"]) (T : Txt K mg) (d_level_of : Def P w K mg base CX0 2 "level_of" ["row", "amount"] spLevel) (d_over : Def P w K mg base CX0 1 "over" ["row", "mark"] spOver) : Def P w K mg base CX0 3 "lowered" ["row", "amount"] spLowered := by
  refine R.ok fun f fd F => F.ok sc_lowered (fun vs H Q E h => ?_) (fun cdv A outer s H vs Q E hr h => ?_)
  · obtain ⟨a, ns, m, rfl, _⟩ := h
    rfl
  · obtain ⟨a, ns, m, rfl, ha, h1, hz, q⟩ := h
    refine ⟨_, (pss_cons (ps_set (i := 2) sc_lowered.nd rfl (Or.inl rfl) (pe_def d_level_of hr (by decide) (by rfl) pass0 (pa_cons (pv 0) (pa_cons (pv 1) pa_nil))))
      (pss_cons (ps_set (i := 3) sc_lowered.nd rfl (Or.inl rfl) (pe_op op_sub (pe_def d_over hr (by decide) (by rfl) pass0 (pa_cons (pv 0) (pa_cons (pv 2) pa_nil))) (pv 1)))
      (pss_cons (ps_set (i := 4) sc_lowered.nd rfl (Or.inl rfl) (pe_callTy (r := rListS K) call_list_of (by rfl) T.n_list (by decide +kernel) (pa_cons (pv 0) pa_nil)))
      (pss_cons (ps_for PassesOwn.never rfl (pi_revR (by rfl) T.n_reversed (prg_1 (by rfl) T.n_range (pe_callB (r := rLenS K) call_len_seq (by rfl) T.n_len PySem.boot_len (pa_cons (pv 0) pa_nil)))) (pg_name (i := 5) sc_lowered.nd rfl (Or.inl rfl))
        (pss_cons (ps_if (pt_cmpR op_gt (pe_ix (r := rIxL K) ix_list (pv 0) (pv 5) (fun _ _ => rfl)) (pv 2) (nomark _))
            (pss_cons (ps_asg (pv 2) (pg_sub (pv 4) (pv 5) set_list))
              (pss_cons (ps_if (pt_cmpR op_gt (pv 3) pe_int (nomark _))
                (pss_cons (ps_asg (pe_op op_add (pv 2) pe_int) (pg_sub (pv 4) (pv 5) set_list))
                  (pss_cons (ps_aug (i := 3) sc_lowered.nd rfl (Or.inl rfl) pe_int ip_sub)
                  pss_nil))
                pss_nil)
              pss_nil))
            pss_nil)
          pss_nil))
      (pss_cons (ps_ret (pv 4))
      pss_nil))))), ?_⟩
    refine Sv.go (w_asg (v := .int (levelF ns m)) (ev_call (dvs := []) (ea_cons (ev_var rfl) (ea_cons (ev_var rfl) ea_nil)) fun H1 e1 Q q E => ⟨a, ns, m, rfl, e1 _ _ ha, h1, hz, q⟩)
      (w_asg (v := .int (overF ns (levelF ns m) - m)) (ev_op (ev_call (dvs := []) (z := .int (overF ns (levelF ns m))) (ea_cons (ev_var rfl) (ea_cons (ev_var rfl) ea_nil)) fun H1 e1 Q q E => ⟨a, ns, levelF ns m, rfl, e1 _ _ ha, hz, q⟩) (ev_var rfl) rv_I0)
      (w_asgL (el_listL (ev_var' rfl ha)) fun p H1 np e1 hp => w_forRev (n := ns.length) (by have h := ev_lenL (K := K) (ev_var' (s := [some (.ref a), some (.int m), some (.int (levelF ns m)), some (.int (overF ns (levelF ns m) - m)), some (.ref p), none]) (i := 0) rfl (e1 _ _ ha)); rw [List.length_map] at h; exact h) (by omega)
        (fun i s' H' => ∃ y, s' = [some (.ref a), some (.int m), some (.int (levelF ns m)), some (.int (cutR (levelF ns m) (overF ns (levelF ns m) - m) (ns.drop (ns.length - i))).2), some (.ref p), y] ∧ Ex H H' ∧ H' p = some (.lst ((ns.take (ns.length - i) ++ (cutR (levelF ns m) (overF ns (levelF ns m) - m) (ns.drop (ns.length - i))).1).map V.int)))
        (fun H2 e2 => ⟨none, by rw [Nat.sub_zero, List.drop_length]; rfl, e1.trans e2, by rw [Nat.sub_zero, List.drop_length, List.take_length]; exact (e2 _ _ hp).trans (by simp [cutR])⟩) ?_ ?_)))
    · rintro i k s' H' hik ⟨y, rfl, ex, hp'⟩
      have hk : k < ns.length := by omega
      have e2 : ns.length - i = k + 1 := by omega
      have e3 : ns.length - (i + 1) = k := by omega
      rw [e2] at hp'
      rw [e2, e3]
      have ed : ns.drop k = ns[k] :: ns.drop (k + 1) := List.drop_eq_getElem_cons hk
      have et : ns.take (k + 1) = ns.take k ++ [ns[k]] := by rw [List.take_add_one, List.getElem?_eq_getElem hk]; rfl
      have ec : cutR (levelF ns m) (overF ns (levelF ns m) - m) (ns.drop k) = cutR (levelF ns m) (overF ns (levelF ns m) - m) (ns[k] :: ns.drop (k + 1)) := by rw [ed]
      have hat : atI (ns.map V.int) (k : Int) = some (.int ns[k]) := atI_nat (by rw [List.getElem?_map, List.getElem?_eq_getElem hk]; rfl)
      have hset : ∀ (t : List Int) (v : Int), ((ns.take (k + 1) ++ t).map V.int).set k (.int v) = (ns.take k ++ v :: t).map V.int := fun t v => by
        rw [← List.map_set, et, List.append_assoc, List.set_append_right _ _ (by rw [List.length_take]; omega), List.length_take, Nat.min_eq_left (by omega), Nat.sub_self]
        rfl
      have hlen : k < ((ns.take (k + 1) ++ (cutR (levelF ns m) (overF ns (levelF ns m) - m) (ns.drop (k + 1))).1).map V.int).length := by
        rw [List.length_map, List.length_append, List.length_take]
        omega
      have hne : ∀ {b : Addr} {u : HO}, H b = some u → b ≠ p := fun hb => ne_of_none hb np
      refine w_if (b := decide (levelF ns m < ns[k])) (et_test (ev_op (ev_ixL (ev_var' rfl (ex _ _ ha)) (ev_var rfl) hat) (ev_var rfl) rv_I0)) (fun hb => ?_) (fun hb => ?_)
      · have hb' : levelF ns m < ns[k] := of_decide_eq_true hb
        refine w_setL hp' (ev_var rfl) (ev_var rfl) (ev_var rfl) hlen fun H2 pt => ?_
        rw [hset] at pt
        refine w_if (b := decide (0 < (cutR (levelF ns m) (overF ns (levelF ns m) - m) (ns.drop (k + 1))).2)) (et_test (ev_op (ev_var rfl) ev_c rv_I0)) (fun hc => ?_) (fun hc => ?_)
        · have hc' := of_decide_eq_true hc
          have hlen2 : k < ((ns.take k ++ levelF ns m :: (cutR (levelF ns m) (overF ns (levelF ns m) - m) (ns.drop (k + 1))).1).map V.int).length := by
            rw [List.length_map, List.length_append, List.length_take, List.length_cons]
            omega
          refine w_setL pt.new (ev_op (ev_var rfl) ev_c rv_I0) (ev_var rfl) (ev_var rfl) hlen2 fun H3 pt3 => w_aug rfl ev_c (w_nx fun H4 e4 => Exists.intro (some (.int (k : Int))) ⟨?_, (pt3.ex (pt.ex ex np) np).trans e4, ?_⟩)
          · rw [ec]
            simp only [cutR, if_pos hb', if_pos hc']
            rfl
          · rw [e4 _ _ pt3.new, ec, ← List.map_set, List.set_append_right _ _ (by rw [List.length_take]; omega), List.length_take, Nat.min_eq_left (by omega), Nat.sub_self]
            simp only [cutR, if_pos hb', if_pos hc']
            rfl
        · have hc' : ¬ (0 < (cutR (levelF ns m) (overF ns (levelF ns m) - m) (ns.drop (k + 1))).2) := of_decide_eq_false hc
          refine w_nx fun H4 e4 => Exists.intro (some (.int (k : Int))) ⟨?_, (pt.ex ex np).trans e4, ?_⟩
          · rw [ec]
            simp only [cutR, if_pos hb', if_neg hc']
            rfl
          · rw [e4 _ _ pt.new, ec]
            simp only [cutR, if_pos hb', if_neg hc']
      · have hb' : ¬ (levelF ns m < ns[k]) := of_decide_eq_false hb
        refine w_nx fun H4 e4 => Exists.intro (some (.int (k : Int))) ⟨?_, ex.trans e4, ?_⟩
        · rw [ec]
          simp only [cutR, if_neg hb']
          rfl
        · rw [e4 _ _ hp', ec, et]
          simp only [cutR, if_neg hb', List.append_assoc]
          rfl
    · rintro s' H' ⟨y, rfl, ex, hp'⟩
      rw [Nat.sub_self, List.take_zero, List.drop_zero] at hp'
      exact w_ret (ev_var rfl) fun H2 e2 => q p H2 np (ex.trans e2) (e2 _ _ hp')
def spChecked : Sp := fun vs H Q _ => ∃ (a : Addr) (ns : List Int), vs = [.ref a] ∧ H a = some (.lst (ns.map V.int)) ∧ (∀ x ∈ ns, isSh x = true) ∧ ns.length ≤ 100000 ∧ RetV (.ref a) H Q
theorem def_checked (R : Raw K mg "checked" s_checked ["row"]) (T : Txt K mg) (d_is_share : Def P w K mg base CX0 2 "is_share" ["thing"] (spShare K)) : Def P w K mg base CX0 3 "checked" ["row"] spChecked := by
  refine R.ok fun f fd F => F.ok sc_checked (fun vs H Q E h => ?_) (fun cdv A outer s H vs Q E hr h => ?_)
  · obtain ⟨a, ns, rfl, _⟩ := h
    rfl
  · obtain ⟨a, ns, rfl, ha, h2, h3, q⟩ := h
    refine ⟨_, (pss_cons (ps_if (pt_not (pt_val (pe_callB (r := rAll K) (cr_all rfl) (by rfl) T.n_all (by decide +kernel) (pa_cons (pe_lc (own := [("share", 1)]) (g := gName 1) rfl sc_checked.nd (pi_list (pv 0)) (blkOk_by (own := [("share", 1)]) (N := ["row", "share"]) (sc := defScope s_checked) (by decide +kernel)) (fun _ _ _ _ _ => pg_name (i := 1) sc_checked.nd rfl (Or.inl rfl)) (fun _ _ _ _ _ => pts_nil) (fun _ _ _ _ _ => (pe_def d_is_share hr (by decide) (by rfl) pass0 (pa_cons (pv 1) pa_nil)))) pa_nil))))
        (pss_cons ps_never
          pss_nil)
        pss_nil)
      (pss_cons (ps_ret (pv 0))
      pss_nil)), ?_⟩
    refine Sv.go (w_if (b := false) (et_is (et_not (et_B (ev_shares ns (ev_var rfl) ha h3 (fun _ => rfl) (fun _ => rfl)))) ?_) (fun h => nomatch h) fun _ => w_nx fun H1 e1 => (w_ret (D := { nx := fun _ H' => Q .non H', rt := Q }) (ev_var rfl) fun H2 e2 => q H2 (e1.trans e2)).go)
    rw [ints_all h2]
    rfl
def spTaken (F : List Int → Int → List Int) : Sp := fun vs H Q _ => ∃ (a : Addr) (ns : List Int) (m : Int), vs = [.ref a, .int m] ∧ H a = some (.lst (ns.map V.int)) ∧ RowOk ns ∧ ns.length ≤ 10000 ∧ 0 ≤ m ∧ m ≤ 1000000000 ∧ (∀ x ∈ F ns m, isSh x = true) ∧ RetL ((F ns m).map V.int) H Q
theorem def_taken (R : Raw K mg "taken" s_taken ["row", "amount"]) (T : Txt K mg) (d_check_row : Def P w K mg base CX0 3 "check_row" ["row"] spCheckRow) (d_check_amount : Def P w K mg base CX0 2 "check_amount" ["amount"] (spCheckAmount K)) (d_lowered : Def P w K mg base CX0 3 "lowered" ["row", "amount"] spLowered)
    (d_checked : Def P w K mg base CX0 3 "checked" ["row"] spChecked) : Def P w K mg base CX0 4 "taken" ["row", "amount"] (spTaken takeF) := by
  refine R.ok fun f fd F => F.ok sc_taken (fun vs H Q E h => ?_) (fun cdv A outer s H vs Q E hr h => ?_)
  · obtain ⟨a, ns, m, rfl, _⟩ := h
    rfl
  · obtain ⟨a, ns, m, rfl, ha, hk, hz, h0, h1, h2, q⟩ := h
    refine ⟨_, (pss_cons (ps_expr (pe_def d_check_row hr (by decide) (by rfl) pass0 (pa_cons (pv 0) pa_nil)))
      (pss_cons (ps_expr (pe_def d_check_amount hr (by decide) (by rfl) pass0 (pa_cons (pv 1) pa_nil)))
      (pss_cons (ps_if (pt_cmpR op_eq (pv 1) pe_int (nomark _))
        (pss_cons (ps_ret (pe_callTy (r := rListS K) call_list_of (by rfl) T.n_list (by decide +kernel) (pa_cons (pv 0) pa_nil)))
          pss_nil)
        pss_nil)
      (pss_cons (ps_ret (pe_def d_checked hr (by decide) (by rfl) pass0 (pa_cons (pe_def d_lowered hr (by decide) (by rfl) pass0 (pa_cons (pv 0) (pa_cons (pv 1) pa_nil))) pa_nil)))
      pss_nil)))), ?_⟩
    refine Sv.go (w_drop (ev_call (dvs := []) (z := .non) (ea_cons (ev_var rfl) ea_nil) fun H1 e1 Q q E => ⟨a, ns, rfl, e1 _ _ ha, hk, q⟩)
      (w_drop (ev_call (dvs := []) (z := .non) (ea_cons (ev_var rfl) ea_nil) fun H1 e1 Q q E => ⟨m, rfl, h0, h1, q⟩)
      (w_if (et_test (ev_op (ev_var rfl) ev_c (rv_eq rfl))) (fun hb => ?_) fun hb => w_nx fun H1 e1 => ?_)))
    · have hm : m = 0 := by simpa using hb
      refine w_retL (el_listL (ev_var' rfl ha)) fun p H1 np e1 hp => q p H1 np e1 ?_
      rw [hp]
      simp [takeF, hm]
    · have hm : ¬ m = 0 := by simpa using hb
      have et : takeF ns m = lowF ns m := if_neg hm
      rw [et] at h2 q
      exact (w_retL (tz := tNext) (D := { nx := fun _ H' => Q .non H', rt := Q }) (xs := (lowF ns m).map V.int) (el_through (el_call (dvs := []) (ea_cons (ev_var rfl) (ea_cons (ev_var rfl) ea_nil)) fun H2 e2 Q q E => ⟨a, ns, m, rfl, e2 _ _ (e1 _ _ ha), hk.1, hz, q⟩) fun p H2 e2 hp Q q => ⟨p, lowF ns m, rfl, hp, h2, by rw [lowF_len]; omega, q⟩) fun p H2 np e2 hp => q p H2 (fresh_back e1 np) (e1.trans e2) hp).go
theorem negs_len (ns : List Int) : (negs ns).length = ns.length := List.length_map _
theorem def_poured (R : Raw K mg "poured" s_poured ["row", "amount"]) (T : Txt K mg) (d_check_row : Def P w K mg base CX0 3 "check_row" ["row"] spCheckRow) (d_check_amount : Def P w K mg base CX0 2 "check_amount" ["amount"] (spCheckAmount K)) (d_lowered : Def P w K mg base CX0 3 "lowered" ["row", "amount"] spLowered)
    (d_checked : Def P w K mg base CX0 3 "checked" ["row"] spChecked) : Def P w K mg base CX0 4 "poured" ["row", "amount"] (spTaken pourF) := by
  refine R.ok fun f fd F => F.ok sc_poured (fun vs H Q E h => ?_) (fun cdv A outer s H vs Q E hr h => ?_)
  · obtain ⟨a, ns, m, rfl, _⟩ := h
    rfl
  · obtain ⟨a, ns, m, rfl, ha, hk, hz, h0, h1, h2, q⟩ := h
    refine ⟨_, (pss_cons (ps_expr (pe_def d_check_row hr (by decide) (by rfl) pass0 (pa_cons (pv 0) pa_nil)))
      (pss_cons (ps_expr (pe_def d_check_amount hr (by decide) (by rfl) pass0 (pa_cons (pv 1) pa_nil)))
      (pss_cons (ps_if (pt_cmpR op_eq (pv 1) pe_int (nomark _))
        (pss_cons (ps_ret (pe_callTy (r := rListS K) call_list_of (by rfl) T.n_list (by decide +kernel) (pa_cons (pv 0) pa_nil)))
          pss_nil)
        pss_nil)
      (pss_cons (ps_ret (pe_def d_checked hr (by decide) (by rfl) pass0 (pa_cons (pe_lc (own := [("share", 2)]) (g := gName 2) rfl sc_poured.nd (pi_list (pe_def d_lowered hr (by decide) (by rfl) pass0 (pa_cons (pe_lc (own := [("share", 2)]) (g := gName 2) rfl sc_poured.nd (pi_list (pv 0)) (blkOk_by (own := [("share", 2)]) (N := ["row", "amount", "share"]) (sc := defScope s_poured) (by decide +kernel)) (fun _ _ _ _ _ => pg_name (i := 2) sc_poured.nd rfl (Or.inl rfl)) (fun _ _ _ _ _ => pts_nil) (fun _ _ _ _ _ => (pe_un un_neg (pv 2)))) (pa_cons (pv 1) pa_nil)))) (blkOk_by (own := [("share", 2)]) (N := ["row", "amount", "share"]) (sc := defScope s_poured) (by decide +kernel)) (fun _ _ _ _ _ => pg_name (i := 2) sc_poured.nd rfl (Or.inl rfl)) (fun _ _ _ _ _ => pts_nil) (fun _ _ _ _ _ => (pe_un un_neg (pv 2)))) pa_nil)))
      pss_nil)))), ?_⟩
    refine Sv.go (w_drop (ev_call (dvs := []) (z := .non) (ea_cons (ev_var rfl) ea_nil) fun H1 e1 Q q E => ⟨a, ns, rfl, e1 _ _ ha, hk, q⟩)
      (w_drop (ev_call (dvs := []) (z := .non) (ea_cons (ev_var rfl) ea_nil) fun H1 e1 Q q E => ⟨m, rfl, h0, h1, q⟩)
      (w_if (et_test (ev_op (ev_var rfl) ev_c (rv_eq rfl))) (fun hb => ?_) fun hb => w_nx fun H1 e1 => ?_)))
    · have hm : m = 0 := by simpa using hb
      refine w_retL (el_listL (ev_var' rfl ha)) fun p H1 np e1 hp => q p H1 np e1 ?_
      rw [hp]
      simp [pourF, hm]
    · have hm : ¬ m = 0 := by simpa using hb
      have et : pourF ns m = negs (lowF (negs ns) m) := if_neg hm
      rw [et] at h2 q
      have hn : negs ns ≠ [] := fun h => hk.1 (by have := congrArg List.length h; rw [negs_len] at this; exact List.eq_nil_of_length_eq_zero this)
      have c1 := el_map (K := K) (s := [some (.ref a), some (.int m), none]) (H := H1) (tl := tVar 0) (te := tUn (rU fun i => .int (-i)) (tVar 2)) (j := 2) (vs := [2]) ns V.int (fun x => V.int (-x)) (ev_var rfl) (sq_of (e1 _ _ ha)) (by omega) (fun _ => rfl) (fun x _ => ev_un (ev_var rfl) ru_neg)
      rw [map_int] at c1
      have c2 : EvL (tCall spLowered [] E0 (tCons (tLc (iList K (tVar 0)) (gName 2) tYes (tUn (rU fun i => .int (-i)) (tVar 2)) [2]) (tCons (tVar 1) tNil))) [some (.ref a), some (.int m), none] H1 ((lowF (negs ns) m).map V.int) :=
        el_callP (ap_two c1.p (ev_var rfl).p) fun vs H2 e2 ⟨v, w, ev, ⟨p, pv, hp⟩, pw⟩ Q q => ⟨p, negs ns, m, by rw [ev, pv, pw], hp, hn, by rw [negs_len]; exact hz, q⟩
      have c3 := el_mapN (K := K) (s := [some (.ref a), some (.int m), none]) (H := H1) (te := tUn (rU fun i => .int (-i)) (tVar 2)) (j := 2) (vs := [2]) (lowF (negs ns) m) V.int (fun x => V.int (-x)) c2.p (by rw [lowF_len, negs_len]; omega) (fun _ => rfl) (fun x _ => ev_un (ev_var rfl) ru_neg)
      rw [map_int] at c3
      exact (w_retL (tz := tNext) (D := { nx := fun _ H' => Q .non H', rt := Q }) (xs := (negs (lowF (negs ns) m)).map V.int) (el_through c3 fun p H2 e2 hp Q q => ⟨p, negs (lowF (negs ns) m), rfl, hp, h2, by rw [negs_len, lowF_len, negs_len]; omega, q⟩) fun p H2 np e2 hp => q p H2 (fresh_back e1 np) (e1.trans e2) hp).go
end
end Ev

set_option Elab.async false
set_option linter.all false
set_option maxRecDepth 100000
set_option maxHeartbeats 4000000
namespace Ev
open PySem PySem.Spec L2 Evl Wk
/-! ### what every law draws: cells, numbers, a row -/
def primes : List Int := [1000003, 1000033, 1000037, 1000039, 1000081, 1000099, 1000117, 1000121, 1000133, 1000151, 1000159, 1000171, 1000183, 1000187, 1000193, 1000199]
theorem at_ints {ns : List Int} {i : Int} (h0 : 0 ≤ i) (h1 : i < ns.length) : ∃ n, n ∈ ns ∧ atI (ns.map V.int) i = some (.int n) := by
  have hi : i.toNat < ns.length := by omega
  refine ⟨ns[i.toNat], List.getElem_mem hi, ?_⟩
  have h := atI_nat (xs := ns.map V.int) (j := i.toNat) (v := .int ns[i.toNat]) (by rw [List.getElem?_map, List.getElem?_eq_getElem hi]; rfl)
  rw [Int.toNat_of_nonneg h0] at h
  exact h
section
variable {P : Program} {w : World} {K : PySem.W.Frag} {mg : Str → Option Value} {base : Heap}
def spCell (K : PySem.W.Frag) : Sp := fun vs H Q _ => ∃ (a : Addr) (ns : List Int) (k : Int), vs = [.ref a, .int k] ∧ SqL K H a (ns.map V.int) ∧ 0 ≤ k ∧ ∀ i, RetV (.int i) H Q
theorem def_law_cell_at (R : Raw K mg "_law_cell_at" s_law_cell_at ["_law_script", "_law_k"]) (T : Txt K mg) : Def P w K mg base CX0 1 "_law_cell_at" ["_law_script", "_law_k"] (spCell K) := by
  refine R.ok fun f fd F => F.ok sc_law_cell_at (fun vs H Q E h => ?_) (fun cdv A outer s H vs Q E hr h => ?_)
  · obtain ⟨a, ns, k, rfl, _⟩ := h
    rfl
  · obtain ⟨a, ns, k, rfl, ha, h0, q⟩ := h
    refine ⟨_, (pss_cons (ps_if (pt_cmpR op_lt (pv 1) (pe_callB (r := rLenS K) call_len_seq (by rfl) T.n_len PySem.boot_len (pa_cons (pv 0) pa_nil)) (nomark _))
        (pss_cons (ps_ret (pe_ix (r := rIxL K) ix_list (pv 0) (pv 1) (fun _ _ => rfl)))
          pss_nil)
        pss_nil)
      (pss_cons (ps_ret pe_int)
      pss_nil)), ?_⟩
    refine Sv.go (w_when (et_test (ev_op (ev_var rfl) (ev_len (ev_var rfl) ha) rv_I0)) (fun hb => ?_) fun hb => w_ret ev_c fun H1 e1 => q 0 H1 e1)
    have hk := of_decide_eq_true hb
    rw [List.length_map] at hk
    obtain ⟨n, _, hn⟩ := at_ints h0 hk
    exact w_ret (ev_op (ev_var rfl) (ev_var rfl) (rv_ixL ha hn)) fun H1 e1 => q n H1 e1
def spDraw : Sp := fun vs H Q _ => ∃ c k m : Int, vs = [.int c, .int k, .int m] ∧ 0 < m ∧ ∀ d, 0 ≤ d → d < m → RetV (.int d) H Q
theorem def_law_draw (R : Raw K mg "_law_draw" s_law_draw ["_law_cell", "_law_k", "_law_many"]) (T : Txt K mg) : Def P w K mg base CX0 1 "_law_draw" ["_law_cell", "_law_k", "_law_many"] spDraw := by
  refine R.ok fun f fd F => F.ok sc_law_draw (fun vs H Q E h => ?_) (fun cdv A outer s H vs Q E hr h => ?_)
  · obtain ⟨c, k, m, rfl, _⟩ := h
    rfl
  · obtain ⟨c, k, m, rfl, h0, q⟩ := h
    refine ⟨_, (pss_cons (ps_set (i := 3) sc_law_draw.nd rfl (Or.inl rfl) (pe_tup (pa_cons pe_int (pa_cons pe_int (pa_cons pe_int (pa_cons pe_int (pa_cons pe_int (pa_cons pe_int (pa_cons pe_int (pa_cons pe_int (pa_cons pe_int (pa_cons pe_int (pa_cons pe_int (pa_cons pe_int (pa_cons pe_int (pa_cons pe_int (pa_cons pe_int (pa_cons pe_int pa_nil))))))))))))))))))
      (pss_cons (ps_ret (pe_op op_mod (pe_op op_mod (pe_op op_add (pe_op op_mul (pv 0) pe_int) (pe_op op_mul (pv 1) pe_int)) (pe_ix (r := rIxT K) ix_tup (pv 3) (pe_op op_mod (pv 1) pe_int) (fun _ _ => rfl))) (pv 2)))
      pss_nil)), ?_⟩
    have hp : ∃ n, n ∈ primes ∧ atI (primes.map V.int) (k % 16) = some (.int n) := at_ints (by omega) (by show k % 16 < 16; omega)
    obtain ⟨n, hn, hat⟩ := hp
    have hpos : 0 < n := by
      have h : ∀ x ∈ primes, 0 < x := by decide
      exact h n hn
    refine Sv.go (w_asgU (xs := primes.map V.int) (eu_tup (vs := primes.map V.int) (ea_cons ev_c (ea_cons ev_c (ea_cons ev_c (ea_cons ev_c (ea_cons ev_c (ea_cons ev_c (ea_cons ev_c (ea_cons ev_c (ea_cons ev_c (ea_cons ev_c (ea_cons ev_c (ea_cons ev_c (ea_cons ev_c (ea_cons ev_c (ea_cons ev_c (ea_cons ev_c ea_nil)))))))))))))))) (by decide)) fun p H1 np e1 hp => ?_)
    exact w_ret (ev_op (ev_op (ev_op (ev_op (ev_var rfl) ev_c (rv_I (.inr (by omega)))) (ev_op (ev_var rfl) ev_c (rv_I (.inr (by omega)))) rv_I0) (ev_ixU (ev_varU rfl hp) (ev_op (ev_var rfl) ev_c (rv_I (by omega))) hat) (rv_I hpos)) (ev_var rfl) (rv_I h0))
      fun H2 e2 => q _ (Int.emod_nonneg _ (by omega)) (Int.emod_lt_of_pos _ h0) H2 (e1.trans e2)
/-- a call of _law_draw -/
theorem evp_draw {s : L2.St} {H : Hp} {ta tb tc : TE} {p : Int → Prop} {m : Int} (ha : EvP ta s H (IsI p)) (hb : EvP tb s H (IsI fun _ => True)) (hc : Ev tc s H (.int m)) (hm : 0 < m) : EvP (tCall spDraw [] E0 (tCons ta (tCons tb (tCons tc tNil)))) s H (IsI fun d => 0 ≤ d ∧ d < m) :=
  evp_callP (ap_three ha hb hc.p) fun vs H1 e1 ⟨v, w, x, ev, ⟨c, ec, _⟩, ⟨k, ek, _⟩, ex⟩ Q q => ⟨c, k, m, by rw [ev, ec, ek, ex], hm, fun d h0 h1 H2 e2 => q _ H2 e2 ⟨d, rfl, h0, h1⟩⟩
/-- a call of _law_cell_at -/
theorem evp_cell {s : L2.St} {H : Hp} {ta tb : TE} {a : Addr} {ns : List Int} {k : Int} (ha : Ev ta s H (.ref a)) (hs : SqL K H a (ns.map V.int)) (hb : Ev tb s H (.int k)) (h0 : 0 ≤ k) : EvP (tCall (spCell K) [] E0 (tCons ta (tCons tb tNil))) s H (IsI fun _ => True) :=
  evp_callP (ap_two ha.p hb.p) fun vs H1 e1 ⟨v, w, ev, ea, ew⟩ Q q => ⟨a, ns, k, by rw [ev, ea, ew], ex_l e1 hs, h0, fun i H2 e2 => q _ H2 e2 ⟨i, rfl, trivial⟩⟩
theorem evt_of {s : L2.St} {H : Hp} {te : TE} {b : Bool} (h : Ev te s H (.bl b)) : EvT (tTest te) s H b := et_test h
/-- a == b of ints of which little is known, as a test -/
theorem et2_eq {s : L2.St} {H : Hp} {ta tb : TE} {p q : Int → Prop} (ha : EvP ta s H (IsI p)) (hb : EvP tb s H (IsI q)) : ∀ H1, Ex H H1 → ∀ Q : Bool → Hp → Prop, (∀ b H2, Ex H1 H2 → Q b H2) → tTest (tOp rEq ta tb) s H1 Q := fun H1 e Q k =>
  ha H1 e _ fun a H2 e2 ⟨i, ea, _⟩ => hb H2 (e.trans e2) _ fun b H3 e3 ⟨j, eb, _⟩ => by
    subst ea eb
    exact ⟨rfl, _, rfl, k _ H3 (e2.trans e3)⟩
def Within (B : Int) (l : List Int) : Prop := ∀ x ∈ l, -B ≤ x ∧ x ≤ B
def spRow (K : PySem.W.Frag) : Sp := fun vs H Q _ => ∃ (a : Addr) (ns : List Int), vs = [.ref a] ∧ SqL K H a (ns.map V.int) ∧ ns.length ≤ 63 ∧ ∀ rs : List Int, rs.length = ns.length + 1 → Within 900000 rs → RetL (rs.map V.int) H Q
theorem def_law_row (R : Raw K mg "_law_row" s_law_row ["_law_script"]) (T : Txt K mg) (d_law_cell_at : Def P w K mg base CX0 1 "_law_cell_at" ["_law_script", "_law_k"] (spCell K)) (d_law_draw : Def P w K mg base CX0 1 "_law_draw" ["_law_cell", "_law_k", "_law_many"] spDraw) :
    Def P w K mg base CX0 2 "_law_row" ["_law_script"] (spRow K) := by
  refine R.ok fun f fd F => F.ok sc_law_row (fun vs H Q E h => ?_) (fun cdv A outer s H vs Q E hr h => ?_)
  · obtain ⟨a, ns, rfl, _⟩ := h
    rfl
  · obtain ⟨a, ns, rfl, ha, hz, q⟩ := h
    refine ⟨_, (pss_cons (ps_set (i := 1) sc_law_row.nd rfl (Or.inl rfl) (pe_ix (r := rIxT K) ix_tup (pe_tup (pa_cons pe_int (pa_cons pe_int (pa_cons pe_int (pa_cons pe_int pa_nil))))) (pe_def d_law_draw hr (by decide) (by rfl) pass0 (pa_cons (pe_def d_law_cell_at hr (by decide) (by rfl) pass0 (pa_cons (pv 0) (pa_cons pe_int pa_nil))) (pa_cons pe_int (pa_cons pe_int pa_nil)))) (fun _ _ => rfl)))
      (pss_cons (ps_set (i := 2) sc_law_row.nd rfl (Or.inl rfl) (pe_lst (pa_cons (pe_op op_sub (pe_def d_law_draw hr (by decide) (by rfl) pass0 (pa_cons (pe_def d_law_cell_at hr (by decide) (by rfl) pass0 (pa_cons (pv 0) (pa_cons pe_int pa_nil))) (pa_cons pe_int (pa_cons pe_int pa_nil)))) pe_int) pa_nil)))
      (pss_cons (ps_for PassesOwn.never rfl (pi_range1 (by rfl) T.n_range (pa_cons (pe_callB (r := rLenS K) call_len_seq (by rfl) T.n_len PySem.boot_len (pa_cons (pv 0) pa_nil)) pa_nil)) (pg_name (i := 3) sc_law_row.nd rfl (Or.inl rfl))
        (pss_cons (ps_set (i := 4) sc_law_row.nd rfl (Or.inl rfl) (pe_def d_law_draw hr (by decide) (by rfl) pass0 (pa_cons (pe_ix (r := rIxL K) ix_list (pv 0) (pv 3) (fun _ _ => rfl)) (pa_cons (pe_op op_add (pe_op op_mod (pv 3) pe_int) pe_int) (pa_cons (pe_op op_add (pv 1) pe_int) pa_nil)))))
          (pss_cons (ps_expr (pe_bm PySem.F.plainAttrs_list PySem.F.slot_list_append PySem.F.type_list_append mt_append (pv 2) (pa_cons (pe_ifExp (pt_cmpR op_eq (pe_def d_law_draw hr (by decide) (by rfl) pass0 (pa_cons (pe_ix (r := rIxL K) ix_list (pv 0) (pv 3) (fun _ _ => rfl)) (pa_cons (pe_op op_add (pe_op op_mod (pv 3) pe_int) pe_int) (pa_cons pe_int pa_nil)))) pe_int (nomark _)) (pv 4) (pe_un un_neg (pv 4))) pa_nil)))
          pss_nil)))
      (pss_cons (ps_ret (pv 2))
      pss_nil)))), ?_⟩
    refine Sv.go (w_asgP (P := IsI fun m => 0 < m ∧ m ≤ 900000) (evp_op (evU_p (eu_tup (vs := ([2, 9, 400, 900000] : List Int).map V.int) (ea_cons ev_c (ea_cons ev_c (ea_cons ev_c (ea_cons ev_c ea_nil)))) (by decide))) (evp_draw (evp_cell (ev_var rfl) ha ev_c (by omega)) (ev_i ev_c trivial) ev_c (by omega)) ?_) ?_)
    · intro x y H1 e1 ⟨p, ex, hp⟩ ⟨d, ey, h0, h1⟩ H2 e2 Q k
      obtain ⟨n, hn, hat⟩ := at_ints (ns := [2, 9, 400, 900000]) h0 (by simpa using h1)
      refine ⟨p, _, d, .int n, ex, ey, st_of (e2 _ _ hp), hat, k _ H2 (Ex.refl H2) ⟨n, rfl, ?_⟩⟩
      have hall : ∀ x ∈ ([2, 9, 400, 900000] : List Int), 0 < x ∧ x ≤ 900000 := by decide
      exact hall n hn
    · rintro v H1 e1 ⟨m, rfl, hm0, hm1⟩
      have hL : EvP (tLst (tCons (tOp (rI0 fun i j => .int (i - j)) (tCall spDraw [] E0 (tCons (tCall (spCell K) [] E0 (tCons (tVar 0) (tCons (tC (.int 1)) tNil))) (tCons (tC (.int 7)) (tCons (tC (.int 5)) tNil)))) (tC (.int 2))) tNil)) [some (.ref a), some (.int m), none, none, none] H1 (fun x H2 => ∃ p rs, x = .ref p ∧ H1 p = none ∧ H2 p = some (.lst (rs.map V.int)) ∧ rs.length = 1 ∧ Within 900000 rs) := by
        intro H2 e2 Q k
        refine evp_int (w := fun i => -2 ≤ i ∧ i ≤ 2) (evp_draw (evp_cell (ev_var rfl) (ex_l e1 ha) ev_c (by omega)) (ev_i ev_c trivial) ev_c (by omega)) (ev_i (p := fun i => i = 2) ev_c rfl) (fun i j h1 h2 => ⟨by omega, by omega⟩) H2 e2 _ fun x H3 e3 ⟨i, ex, h1, h2⟩ => ?_
        refine ⟨by show 1 ≤ sizeLine; decide, fun p hp => k _ _ (e3.trans (Ex.new hp)) ⟨p, [i], rfl, fresh_back (e2.trans e3) hp, ?_, rfl, fun y hy => ?_⟩⟩
        · subst ex
          exact upd_same
        · have : y = i := by simpa using hy
          subst this
          exact ⟨by omega, by omega⟩
      refine w_asgP hL fun x H2 e2 ⟨p, rs0, ex, np, hp, hl0, hw0⟩ => ?_
      subst ex
      have ha2 : SqL K H2 a (ns.map V.int) := ex_l (e1.trans e2) ha
      have np0 : H p = none := fresh_back e1 np
      refine w_forR1 (ea_cons (ev_len (ev_var rfl) ha2) ea_nil) (by rw [List.length_map]; omega) (fun i s' H' => ∃ y z rs, s' = [some (.ref a), some (.int m), some (.ref p), y, z] ∧ Ex H H' ∧ H' p = some (.lst (rs.map V.int)) ∧ rs.length = i + 1 ∧ Within 900000 rs) (fun H3 e3 => ⟨none, none, rs0, rfl, (e1.trans e2).trans e3, e3 _ _ hp, hl0, hw0⟩) ?_ ?_
      · rintro i s' H' hi ⟨y, z, rs, rfl, ex, hp', hl, hw⟩
        rw [List.length_map] at hi
        obtain ⟨n, _, hn⟩ := at_ints (ns := ns) (i := (i : Int)) (by omega) (by omega)
        have ha3 : SqL K H' a (ns.map V.int) := ex_l ex ha
        refine w_asgP (P := IsI fun d => 0 ≤ d ∧ d < m + 1) (evp_draw (p := fun _ => True) (ev_i (ev_op (ev_var rfl) (ev_var rfl) (rv_ixL ha3 hn)) trivial) (ev_i (ev_op (ev_op (ev_var rfl) ev_c (rv_I (by omega))) ev_c rv_I0) trivial) (ev_op (ev_var rfl) ev_c rv_I0) (by omega)) ?_
        rintro v H3 e3 ⟨d, rfl, d0, d1⟩
        have ha4 := ex_l e3 ha3
        refine w_appP (P := IsI fun v => -900000 ≤ v ∧ v ≤ 900000) (e3 _ _ hp') (ev_var rfl) (evp_if2 (et2_eq (evp_draw (p := fun _ => True) (ev_i (ev_op (ev_var rfl) (ev_var rfl) (rv_ixL ha4 hn)) trivial) (ev_i (ev_op (ev_op (ev_var rfl) ev_c (rv_I (by omega))) ev_c rv_I0) trivial) ev_c (by omega)) (ev_i (p := fun _ => True) ev_c trivial)) (ev_i (ev_var rfl) ⟨by omega, by omega⟩) (evp_neg (p := fun v => v = d) (ev_i (ev_var rfl) rfl) fun i hi => ⟨by omega, by omega⟩)) (by rw [List.length_map]; omega) ?_ (fun v H o h => h)
        rintro v H4 ⟨x, rfl, x0, x1⟩ pt
        refine w_nx fun H5 e5 => Exists.intro (some (.int (i : Int))) ⟨some (.int d), rs ++ [x], rfl, (pt.ex (ex.trans e3) np0).trans e5, ?_, by rw [List.length_append, hl]; rfl, fun y hy => ?_⟩
        · rw [e5 _ _ pt.new, List.map_append]
          rfl
        · rcases List.mem_append.mp hy with hy | hy
          · exact hw y hy
          · have : y = x := by simpa using hy
            subst this
            exact ⟨x0, x1⟩
      · rintro s' H' ⟨y, z, rs, rfl, ex, hp', hl, hw⟩
        rw [List.length_map] at hl
        exact w_ret (ev_var rfl) fun H2 e2 => q rs (by omega) hw p H2 np0 (ex.trans e2) (e2 _ _ hp')
end
end Ev

set_option Elab.async false
set_option linter.all false
set_option maxRecDepth 100000
set_option maxHeartbeats 4000000
namespace Ev
open PySem PySem.Spec L2 Evl Wk
section
variable {P : Program} {w : World} {K : PySem.W.Frag} {mg : Str → Option Value} {base : Heap}
def spNumbers : Sp := fun vs H Q _ => ∃ (a : Addr) (ns : List Int) (m : Int), vs = [.ref a, .int m] ∧ H a = some (.lst (ns.map V.int)) ∧ ns.length ≤ 10000 ∧ RetV (.bl (decide ((ns.length : Int) = m))) H Q
theorem def_law_numbers (R : Raw K mg "_law_numbers" s_law_numbers ["_law_found", "_law_many"]) (T : Txt K mg) : Def P w K mg base CX0 1 "_law_numbers" ["_law_found", "_law_many"] spNumbers := by
  refine R.ok fun f fd F => F.ok sc_law_numbers (fun vs H Q E h => ?_) (fun cdv A outer s H vs Q E hr h => ?_)
  · obtain ⟨a, ns, m, rfl, _⟩ := h
    rfl
  · obtain ⟨a, ns, m, rfl, ha, hz, q⟩ := h
    refine ⟨_, (pss_cons (ps_if (PW.pt (pw_or (pt_not (pt_val (pe_callB (r := rIsi K) call_isi (by rfl) T.n_isinstance (by decide +kernel) (pa_cons (pv 0) (pa_cons (pe_bltn (v := .ty "list") (u := .type "list") (by rfl) T.n_list (by decide +kernel) rfl) pa_nil))))) (pw_or1 (pt_cmpR op_ne (pe_callB (r := rLenS K) call_len_seq (by rfl) T.n_len PySem.boot_len (pa_cons (pv 0) pa_nil)) (pv 1) (nomark _)))))
        (pss_cons (ps_ret pe_bl)
          pss_nil)
        pss_nil)
      (pss_cons (ps_ret (pe_not (pe_callB (r := rAny K) (cr_any rfl) (by rfl) T.n_any (by decide +kernel) (pa_cons (pe_lc (own := [("_law_one", 2)]) (g := gName 2) rfl sc_law_numbers.nd (pi_list (pv 0)) (blkOk_by (own := [("_law_one", 2)]) (N := ["_law_found", "_law_many", "_law_one"]) (sc := defScope s_law_numbers) (by decide +kernel)) (fun _ _ _ _ _ => pg_name (i := 2) sc_law_numbers.nd rfl (Or.inl rfl)) (fun _ _ _ _ _ => pts_nil) (fun _ _ _ _ _ => (pe_or (pe_callB (r := rIsi K) call_isi (by rfl) T.n_isinstance (by decide +kernel) (pa_cons (pv 2) (pa_cons (pe_bltn (v := .ty "bool") (u := .type "bool") (by rfl) T.n_bool (by decide +kernel) rfl) pa_nil))) (pe_one (pe_not (pe_callB (r := rIsi K) call_isi (by rfl) T.n_isinstance (by decide +kernel) (pa_cons (pv 2) (pa_cons (pe_bltn (v := .ty "int") (u := .type "int") (by rfl) T.n_int (by decide +kernel) rfl) pa_nil)))))))) pa_nil))))
      pss_nil)), ?_⟩
    refine Sv.go (w_when (b := !decide ((ns.length : Int) = m)) (et_is (et_or (et_not (et_B (ev_isi (b := true) (ev_var rfl) ev_c (.ty _) (.base (.lst ha)) (kit_ty (by decide +kernel))))) fun _ => et_test (ev_op (ev_lenL (ev_var' rfl ha)) (ev_var rfl) (rv_ne rfl))) ?_) (fun hb => ?_) fun hb => ?_)
    · rw [List.length_map]
      simp
    · refine w_ret ev_c fun H1 e1 => ?_
      have h2 : decide ((ns.length : Int) = m) = false := by simpa using hb
      rw [h2] at q
      exact q H1 e1
    · have h2 : decide ((ns.length : Int) = m) = true := by simpa using hb
      rw [h2] at q
      refine w_ret (v := .bl true) (ev_is (ev_notV (ev_any (bs := ns.map fun _ => false) (EvL.p ?_))) ?_) q
      · rw [← map_bl]
        refine el_map ns V.int (fun _ => V.bl false) (ev_var rfl) (sq_of ha) (by omega) (fun _ => rfl) fun x _ => ?_
        exact ev_is (ev_orV (ev_isi (b := false) (ev_var rfl) ev_c (.ty _) (.base (.int x)) (kit_ty (by decide +kernel))) fun _ => ev_notV (ev_isi (b := true) (ev_var rfl) ev_c (.ty _) (.base (.int x)) (kit_ty (by decide +kernel)))) rfl
      · have : (ns.map fun _ => false).any id = false := by
          rw [List.any_eq_false]
          intro x hx
          obtain ⟨_, _, rfl⟩ := List.mem_map.mp hx
          simp
        rw [this]
        rfl
end
end Ev

set_option Elab.async false
set_option linter.all false
set_option maxRecDepth 100000
set_option maxHeartbeats 4000000
namespace Ev
open PySem PySem.Spec L2 Evl Wk
/-- what is left is as _law_lowered asks -/
structure LowOk (rs fs : List Int) (m : Int) : Prop where
  len : fs.length = rs.length
  sum : rs.sum - fs.sum = m
  each : ∀ z ∈ rs.zip fs, ¬ z.1 < z.2 ∧ ¬ (z.2 < z.1 ∧ z.2 < mx fs - 1) ∧ ¬ (z.1 < mx fs ∧ z.2 ≠ z.1)
  two : (rs.zip fs).Pairwise fun z y => mx fs ≤ z.1 → z.2 = mx fs → mx fs ≤ y.1 → ¬ y.2 < mx fs
def decF (m : Int) : List Int → List Int
  | [] => []
  | x :: r => if x = m then (x - 1) :: r else x :: decF m r
def oneLess (ns : List Int) : List Int := decF (mx ns) ns
theorem decF_at (m : Int) : ∀ ns : List Int, m ∈ ns → ∃ j : Nat, ns[j]? = some m ∧ (∀ (k : Nat) (z : Int), k < j → ns[k]? = some z → z ≠ m) ∧ decF m ns = ns.take j ++ [m - 1] ++ ns.drop (j + 1)
  | [], h => by cases h
  | x :: r, h => by
    by_cases e : x = m
    · subst e
      exact ⟨0, rfl, fun k z hk => absurd hk (Nat.not_lt_zero _), by simp [decF]⟩
    · have hm : m ∈ r := (List.mem_cons.mp h).resolve_left fun q => e q.symm
      obtain ⟨j, h1, h2, h3⟩ := decF_at m r hm
      refine ⟨j + 1, by simpa using h1, fun k z hk hz => ?_, by simp [decF, e, h3]⟩
      cases k with
      | zero =>
        have : x = z := by simpa using hz
        rw [← this]; exact e
      | succ k => exact h2 k z (by omega) (by simpa using hz)
section
variable {P : Program} {w : World} {K : PySem.W.Frag} {mg : Str → Option Value} {base : Heap}
def spLawLow : Sp := fun vs H Q _ => ∃ (a b : Addr) (rs fs : List Int) (m : Int), vs = [.ref a, .ref b, .int m] ∧ H a = some (.lst (rs.map V.int)) ∧ H b = some (.lst (fs.map V.int)) ∧ rs ≠ [] ∧ rs.length ≤ 10000 ∧ LowOk rs fs m ∧ RetV (.bl true) H Q
theorem def_law_lowered (R : Raw K mg "_law_lowered" s_law_lowered ["_law_row_here", "_law_found", "_law_amount"]) (T : Txt K mg) (d_law_numbers : Def P w K mg base CX0 1 "_law_numbers" ["_law_found", "_law_many"] spNumbers) :
    Def P w K mg base CX0 2 "_law_lowered" ["_law_row_here", "_law_found", "_law_amount"] spLawLow := by
  refine R.ok fun f fd F => F.ok sc_law_lowered (fun vs H Q E h => ?_) (fun cdv A outer s H vs Q E hr h => ?_)
  · obtain ⟨a, b, rs, fs, m, rfl, _⟩ := h
    rfl
  · obtain ⟨a, b, rs, fs, m, rfl, ha, hb, hne, hz, L, q⟩ := h
    refine ⟨_, (pss_cons (ps_if (PW.pt (pw_or (pt_not (pt_val (pe_def d_law_numbers hr (by decide) (by rfl) pass0 (pa_cons (pv 1) (pa_cons (pe_callB (r := rLenS K) call_len_seq (by rfl) T.n_len PySem.boot_len (pa_cons (pv 0) pa_nil)) pa_nil))))) (pw_or1 (pt_cmpR op_ne (pe_op op_sub (pe_callB (r := rSum K) (cr_sum rfl) (by rfl) T.n_sum (by decide +kernel) (pa_cons (pv 0) pa_nil)) (pe_callB (r := rSum K) (cr_sum rfl) (by rfl) T.n_sum (by decide +kernel) (pa_cons (pv 1) pa_nil))) (pv 2) (nomark _)))))
        (pss_cons (ps_ret pe_bl)
          pss_nil)
        pss_nil)
      (pss_cons (ps_par (i := 3) (j := 4) rfl sc_law_lowered.nd rfl rfl (by decide) rfl rfl (pa_cons (pe_callB (r := rMax K) (cr_max rfl) (by rfl) T.n_max (by decide +kernel) (pa_cons (pv 1) pa_nil)) (pa_cons pe_bl pa_nil)) (by rfl))
      (pss_cons (ps_for PassesOwn.never rfl (pi_zip (by rfl) T.n_zip (pa_cons (pv 0) (pa_cons (pv 1) pa_nil))) (pg_tup rfl (pgs_cons (pg_name (i := 5) sc_law_lowered.nd rfl (Or.inl rfl)) (pgs_cons (pg_name (i := 6) sc_law_lowered.nd rfl (Or.inl rfl)) pgs_nil)))
        (pss_cons (ps_if (PW.pt (pw_or (pt_cmpR op_gt (pv 6) (pv 5) (nomark _)) (pw_or1 (PW.pt (pw_and (pt_cmpR op_lt (pv 6) (pv 5) (nomark _)) (pw_and1 (pt_cmpR op_lt (pv 6) (pe_op op_sub (pv 3) pe_int) (nomark _))))))))
            (pss_cons (ps_ret pe_bl)
              pss_nil)
            pss_nil)
          (pss_cons (ps_if (PW.pt (pw_and (pt_cmpR op_ge (pv 5) (pv 3) (nomark _)) (pw_and1 (pt_cmpR op_eq (pv 6) (pv 3) (nomark _)))))
            (pss_cons (ps_set (i := 4) sc_law_lowered.nd rfl (Or.inl rfl) pe_bl)
              pss_nil)
            pss_nil)
          (pss_cons (ps_if (PW.pt (pw_and (pt_cmpR op_ge (pv 5) (pv 3) (nomark _)) (pw_and (pt_cmpR op_lt (pv 6) (pv 3) (nomark _)) (pw_and1 (pt_val (pv 4))))))
            (pss_cons (ps_ret pe_bl)
              pss_nil)
            pss_nil)
          (pss_cons (ps_if (PW.pt (pw_and (pt_cmpR op_lt (pv 5) (pv 3) (nomark _)) (pw_and1 (pt_cmpR op_ne (pv 6) (pv 5) (nomark _)))))
            (pss_cons (ps_ret pe_bl)
              pss_nil)
            pss_nil)
          pss_nil)))))
      (pss_cons (ps_ret pe_bl)
      pss_nil)))), ?_⟩
    have hfz : fs.length ≤ 10000 := by rw [L.len]; exact hz
    have hfn : fs ≠ [] := fun h => hne (List.eq_nil_of_length_eq_zero (by rw [← L.len, h]; rfl))
    refine Sv.go (w_skip (et_is (et_or (et_not (et_B (ev_call (dvs := []) (z := .bl true) (ea_cons (ev_var rfl) (ea_cons (ev_lenL (ev_var' rfl ha)) ea_nil)) fun H1 e1 Q q E => ⟨b, fs, _, rfl, e1 _ _ hb, hfz, ?_⟩))) fun _ => et_test (ev_op (ev_op (ev_sum (ev_var' rfl ha)) (ev_sum (ev_var' rfl hb)) rv_I0) (ev_var rfl) (rv_ne rfl))) ?_)
      (w_par (ea_cons (ev_max (ev_var' rfl hb) hfn) (ea_cons ev_c ea_nil)) (w_forZip (ev_var rfl) (ev_var rfl) (sq_of ha) (sq_of hb) (by rw [List.length_map, List.length_map, L.len])
        (fun i s' H' => ∃ x y, s' = [some (.ref a), some (.ref b), some (.int m), some (.int (mx fs)), some (.bl (((rs.zip fs).take i).any fun z => decide (mx fs ≤ z.1) && decide (z.2 = mx fs))), x, y] ∧ Ex H H') (fun H1 e1 => ⟨none, none, by rw [List.take_zero]; rfl, e1⟩) (fun i s' H' ⟨x, y, _, e⟩ => e) ?_ ?_)))
    · have e : decide ((fs.length : Int) = (((rs.map V.int).length : Nat) : Int)) = true := by
        rw [List.length_map, L.len]
        simp
      rw [e]
      exact q
    · rw [L.sum]
      simp
    · rintro i x y s' H' hx hy ⟨_, _, rfl, ex⟩
      obtain ⟨u, hu, rfl⟩ := int_at hx
      obtain ⟨v, hv, rfl⟩ := int_at hy
      have hzi : (rs.zip fs)[i]? = some (u, v) := by rw [List.getElem?_zip_eq_some]; exact ⟨hu, hv⟩
      have hm : (u, v) ∈ rs.zip fs := List.mem_of_getElem? hzi
      obtain ⟨k1, k2, k3⟩ := L.each _ hm
      have et : (rs.zip fs).take (i + 1) = (rs.zip fs).take i ++ [(u, v)] := by rw [List.take_add_one, hzi]; rfl
      refine w_skip (et_is (et_or (et_test (ev_op (ev_var rfl) (ev_var rfl) rv_I0)) fun _ => et_and (et_test (ev_op (ev_var rfl) (ev_var rfl) rv_I0)) fun _ => et_test (ev_op (ev_var rfl) (ev_op (ev_var rfl) ev_c rv_I0) rv_I0)) ?_) ?_
      · have h1 : decide (u < v) = false := decide_eq_false k1
        have h2 : (decide (v < u) && decide (v < mx fs - 1)) = false := by
          rw [← Bool.decide_and]
          exact decide_eq_false k2
        rw [h1, h2]
        rfl
      have es : (((rs.zip fs).take (i + 1)).any fun z => decide (mx fs ≤ z.1) && decide (z.2 = mx fs)) = ((((rs.zip fs).take i).any fun z => decide (mx fs ≤ z.1) && decide (z.2 = mx fs)) || (decide (mx fs ≤ u) && decide (v = mx fs))) := by
        rw [et, List.any_append]
        simp
      refine w_ifAsg (v := .bl (((rs.zip fs).take (i + 1)).any fun z => decide (mx fs ≤ z.1) && decide (z.2 = mx fs))) (b := decide (mx fs ≤ u) && decide (v = mx fs)) (et_is (et_and (et_test (ev_op (ev_var rfl) (ev_var rfl) rv_I0)) fun _ => et_test (ev_op (ev_var rfl) (ev_var rfl) (rv_eq rfl))) (by simp)) (fun hb => ?_) (fun hb => ?_) ?_
      · rw [es, hb, Bool.or_true]
        exact ev_c
      · rw [es, hb, Bool.or_false]
        rfl
      refine w_skip (et_is (et_and (et_test (ev_op (ev_var rfl) (ev_var rfl) rv_I0)) fun _ => et_and (et_test (ev_op (ev_var rfl) (ev_var rfl) rv_I0)) fun _ => et_B (ev_var rfl)) ?_) (w_skip (et_is (et_and (et_test (ev_op (ev_var rfl) (ev_var rfl) rv_I0)) fun _ => et_test (ev_op (ev_var rfl) (ev_var rfl) (rv_ne rfl))) ?_) (w_nx fun H3 e3 => Exists.intro (some (.int u)) ⟨some (.int v), rfl, ex.trans e3⟩))
      · rw [Bool.eq_false_iff]
        intro hc
        simp only [Bool.and_eq_true, decide_eq_true_eq, List.any_eq_true] at hc
        obtain ⟨h1, h2, z, hz1, h3, h4⟩ := hc
        rw [et] at hz1
        rcases List.mem_append.mp hz1 with hz1 | hz1
        · have hp := L.two
          rw [← List.take_append_drop (i + 1) (rs.zip fs), et] at hp
          have hp2 := (List.pairwise_append.mp (List.pairwise_append.mp hp).1).2.2 z hz1 (u, v) (by simp)
          exact hp2 h3 h4 h1 h2
        · have e : z = (u, v) := by simpa using hz1
          rw [e] at h4
          have : v = mx fs := h4
          omega
      · rw [Bool.eq_false_iff]
        intro hc
        simp only [Bool.and_eq_true, decide_eq_true_eq, Bool.not_eq_true', decide_eq_false_iff_not, V.int.injEq] at hc
        exact k3 hc
    · rintro s' H' ⟨_, _, rfl, ex⟩
      exact w_ret ev_c fun H2 e2 => q H2 (ex.trans e2)
def spOneLess : Sp := fun vs H Q _ => ∃ (a : Addr) (ns : List Int), vs = [.ref a] ∧ H a = some (.lst (ns.map V.int)) ∧ ns ≠ [] ∧ ns.length ≤ 10000 ∧ RetL ((oneLess ns).map V.int) H Q
theorem def_law_one_less (R : Raw K mg "_law_one_less" s_law_one_less ["_law_row_here"]) (T : Txt K mg) : Def P w K mg base CX0 1 "_law_one_less" ["_law_row_here"] spOneLess := by
  refine R.ok fun f fd F => F.ok sc_law_one_less (fun vs H Q E h => ?_) (fun cdv A outer s H vs Q E hr h => ?_)
  · obtain ⟨a, ns, rfl, _⟩ := h
    rfl
  · obtain ⟨a, ns, rfl, ha, hne, hz, q⟩ := h
    refine ⟨_, (pss_cons (ps_set (i := 1) sc_law_one_less.nd rfl (Or.inl rfl) (pe_bm PySem.F.plainAttrs_list PySem.F.slot_list_index PySem.F.type_list_index (r := rIndex K) mt_index (pv 0) (pa_cons (pe_callB (r := rMax K) (cr_max rfl) (by rfl) T.n_max (by decide +kernel) (pa_cons (pv 0) pa_nil)) pa_nil)))
      (pss_cons (ps_ret (pe_op op_cat (pe_op op_cat (pe_slice (r := rSlL K) sl_list (pv 0) po_none (po_some (pv 1))) (pe_lst (pa_cons (pe_op op_sub (pe_ix (r := rIxL K) ix_list (pv 0) (pv 1) (fun _ _ => rfl)) pe_int) pa_nil))) (pe_slice (r := rSlL K) sl_list (pv 0) (po_some (pe_op op_add (pv 1) pe_int)) po_none)))
      pss_nil)), ?_⟩
    obtain ⟨j, h1, h2, h3⟩ := decF_at (mx ns) ns (mx_mem hne)
    have hat : atI (ns.map V.int) (j : Int) = some (.int (mx ns)) := atI_nat (by rw [List.getElem?_map, h1]; rfl)
    have hj : j < ns.length := (List.getElem?_eq_some_iff.mp h1).1
    refine Sv.go (w_asg (ev_index (ev_var rfl) ha (ev_max (ev_var' rfl ha) hne) h1 h2) (w_retL (xs := (oneLess ns).map V.int) ?_ fun p H1 np e1 hp => q p H1 np e1 hp))
    have e0 : (oneLess ns).map V.int = (cutV (ns.map V.int) none (some (j : Int)) ++ [V.int (mx ns - 1)]) ++ cutV (ns.map V.int) (some (((j + 1 : Nat) : Int))) none := by
      rw [cut_to, cut_from]
      show (decF (mx ns) ns).map V.int = _
      rw [h3]
      simp [List.map_append, List.map_take, List.map_drop]
    rw [e0]
    refine el_cat (EvL.p (el_cat (EvL.p (el_sliceL (ev_var' rfl ha) eo_none (eo_some (ev_var rfl)))) (EvL.p (el_lst (vs := [V.int (mx ns - 1)]) (ea_cons (ev_op (ev_ixL (ev_var' rfl ha) (ev_var rfl) hat) ev_c rv_I0) ea_nil) (by show 1 ≤ 100000; decide))) ?_)) (EvL.p (el_sliceL (ev_var' rfl ha) (eo_some (ev_op (ev_var rfl) ev_c rv_I0)) eo_none)) ?_
    · have := cutV_length (ns.map V.int) none (some (j : Int))
      rw [List.length_map] at this
      simp only [List.length_singleton]
      omega
    · have h1 := cutV_length (ns.map V.int) none (some (j : Int))
      have h2 := cutV_length (ns.map V.int) (some (((j + 1 : Nat) : Int))) none
      rw [List.length_map] at h1 h2
      rw [List.length_append, List.length_singleton]
      omega
end
end Ev

set_option Elab.async false
set_option linter.all false
set_option maxRecDepth 100000
set_option maxHeartbeats 4000000
namespace Ev
open Wk
/-! ### the plain law of point 6 -/
def cnt (L : Int) (ns : List Int) : Int := ((ns.filter fun x => decide (L < x)).length : Nat)
theorem cnt_nil (L : Int) : cnt L [] = 0 := rfl
theorem cnt_cons (L x : Int) (r : List Int) : cnt L (x :: r) = (if L < x then 1 else 0) + cnt L r := by
  unfold cnt
  by_cases h : L < x
  · simp [List.filter_cons, h]; omega
  · simp [List.filter_cons, h]
theorem cnt_nn (L : Int) (r : List Int) : 0 ≤ cnt L r := by unfold cnt; omega
theorem over_nil (L : Int) : overF [] L = 0 := rfl
theorem over_cons (L x : Int) (r : List Int) : overF (x :: r) L = (if L < x then x - L else 0) + overF r L := by
  unfold overF
  by_cases h : L < x
  · simp [List.filter_cons, h]
  · simp [List.filter_cons, h]
theorem over_cnt (L : Int) : ∀ r : List Int, cnt L r ≤ overF r L
  | [] => by simp [cnt_nil, over_nil]
  | x :: r => by
    have ih := over_cnt L r
    rw [cnt_cons, over_cons]
    split <;> omega
theorem over_nn (L : Int) (r : List Int) : 0 ≤ overF r L := Int.le_trans (cnt_nn L r) (over_cnt L r)
theorem over_succ (L : Int) : ∀ r : List Int, overF r (L + 1) = overF r L - cnt L r
  | [] => rfl
  | x :: r => by
    have ih := over_succ L r
    rw [cnt_cons, over_cons, over_cons, ih]
    by_cases h : L < x
    · by_cases h2 : L + 1 < x
      · simp only [h, h2, if_true]; omega
      · have : x = L + 1 := by omega
        simp only [h, h2, if_true, if_false]; omega
    · have h2 : ¬ L + 1 < x := by omega
      simp only [h, h2, if_false]; omega
theorem cnt_pos_of_over {L : Int} : ∀ {r : List Int}, 0 < overF r L → 0 < cnt L r
  | [], h => by rw [over_nil] at h; omega
  | x :: r, h => by
    rw [over_cons] at h
    rw [cnt_cons]
    by_cases hx : L < x
    · have := cnt_nn L r
      simp only [hx, if_true]; omega
    · simp only [hx, if_false] at h ⊢
      have := cnt_pos_of_over (L := L) (r := r) (by omega)
      omega
/-! the cut list -/
theorem cutR_snd (L : Int) : ∀ (left : Int) (r : List Int), 0 ≤ left → (cutR L left r).2 = (if cnt L r ≤ left then left - cnt L r else 0)
  | left, [], h => by simp [cutR, cnt_nil, h]
  | left, x :: r, h => by
    have ih := cutR_snd L left r h
    have hn := cnt_nn L r
    rw [cnt_cons]
    unfold cutR
    by_cases hx : L < x
    · simp only [hx, if_true]
      by_cases hc : cnt L r ≤ left
      · simp only [hc, if_true] at ih
        by_cases h2 : 0 < (cutR L left r).2
        · simp only [h2, if_true]
          have h3 : 1 + cnt L r ≤ left := by omega
          simp only [h3, if_true]
          omega
        · simp only [h2, if_false]
          have h3 : ¬ (1 + cnt L r ≤ left) := by omega
          simp only [h3, if_false]
          omega
      · simp only [hc, if_false] at ih
        have h2 : ¬ (0 < (cutR L left r).2) := by omega
        have h3 : ¬ (1 + cnt L r ≤ left) := by omega
        simp only [h2, h3, if_false]
        exact ih
    · simp only [hx, if_false, Int.zero_add]
      exact ih
/-- all above L raised to L + 1 -/
def capF (L : Int) (r : List Int) : List Int := r.map fun x => if L < x then L + 1 else x
theorem cutR_full (L : Int) : ∀ (left : Int) (r : List Int), cnt L r ≤ left → (cutR L left r).1 = capF L r
  | left, [], h => rfl
  | left, x :: r, h => by
    rw [cnt_cons] at h
    have hn := cnt_nn L r
    by_cases hx : L < x
    · simp only [hx, if_true] at h
      have ih := cutR_full L left r (by omega)
      have h2 := cutR_snd L left r (by omega)
      have hc : cnt L r ≤ left := by omega
      simp only [hc, if_true] at h2
      have h3 : 0 < (cutR L left r).2 := by omega
      simp [cutR, hx, h3, ih, capF]
    · simp only [hx, if_false] at h
      have ih := cutR_full L left r (by omega)
      simp [cutR, hx, ih, capF]
theorem cutR_none (L : Int) : ∀ (r : List Int), (cutR L 0 r).1 = r.map fun x => if L < x then L else x
  | [] => rfl
  | x :: r => by
    have ih := cutR_none L r
    have h2 := cutR_snd L 0 r (Int.le_refl _)
    have hn := cnt_nn L r
    have h3 : ¬ (0 < (cutR L 0 r).2) := by
      rw [h2]
      split <;> omega
    by_cases hx : L < x
    · simp [cutR, hx, h3, ih]
    · simp [cutR, hx, ih]
theorem cutR_shift (L : Int) (r : List Int) : (cutR (L + 1) 0 r).1 = (cutR L (cnt L r) r).1 := by
  rw [cutR_none, cutR_full L _ r (Int.le_refl _)]
  unfold capF
  refine List.map_congr_left fun x _ => ?_
  by_cases h1 : L < x
  · by_cases h2 : L + 1 < x
    · simp [h1, h2]
    · have : x = L + 1 := by omega
      simp [this]
  · have h2 : ¬ L + 1 < x := by omega
    simp [h1, h2]
theorem cutR_dec (L : Int) : ∀ (left : Int) (r : List Int), 0 < left → left ≤ cnt L r → decF (L + 1) (cutR L left r).1 = (cutR L (left - 1) r).1
  | left, [], h0, h1 => by rw [cnt_nil] at h1; omega
  | left, x :: r, h0, h1 => by
    rw [cnt_cons] at h1
    have e1 := cutR_snd L left r (by omega)
    have e2 := cutR_snd L (left - 1) r (by omega)
    have hn := cnt_nn L r
    by_cases hx : L < x
    · simp only [hx, if_true] at h1
      by_cases hc : left ≤ cnt L r
      · have ih := cutR_dec L left r h0 hc
        have h2 : ¬ 0 < (cutR L left r).2 := by rw [e1]; split <;> omega
        have h3 : ¬ 0 < (cutR L (left - 1) r).2 := by rw [e2]; split <;> omega
        have hne : ¬ L = L + 1 := by omega
        simp only [cutR, hx, h2, h3, if_true, if_false, decF]
        rw [if_neg hne, ih]
      · have hl : left = cnt L r + 1 := by omega
        have h2 : 0 < (cutR L left r).2 := by rw [e1]; split <;> omega
        have h3 : ¬ 0 < (cutR L (left - 1) r).2 := by rw [e2]; split <;> omega
        have f1 := cutR_full L left r (by omega)
        have f2 := cutR_full L (left - 1) r (by omega)
        simp [cutR, hx, h2, h3, decF, f1, f2]
    · simp only [hx, if_false] at h1
      have ih := cutR_dec L left r h0 (by omega)
      have hne : ¬ x = L + 1 := by omega
      simp [cutR, hx, decF, hne, ih]
/-- each share with what is left of it -/
theorem cutR_zip (L : Int) : ∀ (left : Int) (r : List Int), 0 ≤ left → ∀ z ∈ r.zip (cutR L left r).1, (z.1 ≤ L ∧ z.2 = z.1) ∨ (L < z.1 ∧ (z.2 = L ∨ (z.2 = L + 1 ∧ 0 < left)))
  | left, [], h0, z, hz => by simp [cutR] at hz
  | left, x :: r, h0, z, hz => by
    have ih := cutR_zip L left r h0
    have e1 := cutR_snd L left r h0
    have hn := cnt_nn L r
    by_cases hx : L < x
    · by_cases h2 : 0 < (cutR L left r).2
      · have hl : 0 < left := by
          rw [e1] at h2
          split at h2 <;> omega
        simp only [cutR, hx, h2, if_true, List.zip_cons_cons, List.mem_cons] at hz
        rcases hz with rfl | hz
        · exact .inr ⟨hx, .inr ⟨rfl, hl⟩⟩
        · exact ih z hz
      · simp only [cutR, hx, h2, if_true, if_false, List.zip_cons_cons, List.mem_cons] at hz
        rcases hz with rfl | hz
        · exact .inr ⟨hx, .inl rfl⟩
        · exact ih z hz
    · simp only [cutR, hx, if_false, List.zip_cons_cons, List.mem_cons] at hz
      rcases hz with rfl | hz
      · exact .inl ⟨by show x ≤ L; omega, rfl⟩
      · exact ih z hz
theorem cutR_pair (L : Int) : ∀ (left : Int) (r : List Int), 0 ≤ left → (r.zip (cutR L left r).1).Pairwise fun z y => L < z.1 → z.2 = L + 1 → L < y.1 → y.2 = L + 1
  | left, [], h0 => by simp [cutR]
  | left, x :: r, h0 => by
    have ih := cutR_pair L left r h0
    have e1 := cutR_snd L left r h0
    have hn := cnt_nn L r
    by_cases hx : L < x
    · by_cases h2 : 0 < (cutR L left r).2
      · have hc : cnt L r ≤ left := by
          rw [e1] at h2
          split at h2 <;> omega
        have f1 := cutR_full L left r hc
        simp only [cutR, hx, h2, if_true, List.zip_cons_cons]
        refine List.pairwise_cons.mpr ⟨fun y hy _ _ hy1 => ?_, ih⟩
        rw [f1] at hy
        obtain ⟨i, hi⟩ := List.getElem?_of_mem hy
        rw [List.getElem?_zip_eq_some] at hi
        obtain ⟨i1, i2⟩ := hi
        unfold capF at i2
        rw [List.getElem?_map, i1] at i2
        have i3 : (if L < y.1 then L + 1 else y.1) = y.2 := Option.some.inj i2
        rw [if_pos hy1] at i3
        exact i3.symm
      · simp only [cutR, hx, h2, if_true, if_false, List.zip_cons_cons]
        refine List.pairwise_cons.mpr ⟨fun y hy _ hz => ?_, ih⟩
        exact absurd (show L = L + 1 from hz) (by omega)
    · simp only [cutR, hx, if_false, List.zip_cons_cons]
      exact List.pairwise_cons.mpr ⟨fun y hy hz => absurd hz hx, ih⟩
theorem zip_snd {a b : List Int} (h : a.length = b.length) {y : Int} (hy : y ∈ b) : ∃ x, (x, y) ∈ a.zip b := by
  obtain ⟨i, hi⟩ := List.getElem?_of_mem hy
  have hb := (List.getElem?_eq_some_iff.mp hi).1
  have ha : i < a.length := by omega
  exact ⟨a[i], List.mem_of_getElem? (i := i) (by rw [List.getElem?_zip_eq_some]; exact ⟨List.getElem?_eq_getElem ha, hi⟩)⟩
theorem zip_fst {a b : List Int} (h : a.length = b.length) {x : Int} (hx : x ∈ a) : ∃ y, (x, y) ∈ a.zip b := by
  obtain ⟨i, hi⟩ := List.getElem?_of_mem hx
  have ha := (List.getElem?_eq_some_iff.mp hi).1
  have hb : i < b.length := by omega
  exact ⟨b[i], List.mem_of_getElem? (i := i) (by rw [List.getElem?_zip_eq_some]; exact ⟨hi, List.getElem?_eq_getElem hb⟩)⟩
theorem cnt_ex {L : Int} : ∀ {r : List Int}, 0 < cnt L r → ∃ x ∈ r, L < x
  | [], h => by rw [cnt_nil] at h; omega
  | x :: r, h => by
    by_cases hx : L < x
    · exact ⟨x, List.mem_cons_self, hx⟩
    · rw [cnt_cons, if_neg hx] at h
      obtain ⟨y, hy, h2⟩ := cnt_ex (L := L) (r := r) (by omega)
      exact ⟨y, List.mem_cons_of_mem _ hy, h2⟩
theorem cutR_has (L : Int) : ∀ (left : Int) (r : List Int), 0 < left → 0 < cnt L r → (L + 1) ∈ (cutR L left r).1
  | left, [], h0, h1 => by rw [cnt_nil] at h1; omega
  | left, x :: r, h0, h1 => by
    have e1 := cutR_snd L left r (by omega)
    by_cases hr : 0 < cnt L r
    · have ih := cutR_has L left r h0 hr
      unfold cutR
      split
      · split <;> exact List.mem_cons_of_mem _ ih
      · exact List.mem_cons_of_mem _ ih
    · have hn := cnt_nn L r
      rw [cnt_cons] at h1
      have hx : L < x := by
        by_cases hx : L < x
        · exact hx
        · rw [if_neg hx] at h1; omega
      have h2 : 0 < (cutR L left r).2 := by rw [e1]; split <;> omega
      simp [cutR, hx, h2]
theorem cutR_mx {L left : Int} {r : List Int} (h0 : 0 < left) (h1 : 0 < cnt L r) : mx (cutR L left r).1 = L + 1 := by
  refine (mx_eq (cutR_has L left r h0 h1) fun y hy => ?_).symm
  obtain ⟨x, hx⟩ := zip_snd (a := r) (by rw [cutR_len]) hy
  rcases cutR_zip L left r (by omega) _ hx with ⟨h1, h2⟩ | ⟨h1, h2 | ⟨h2, _⟩⟩ <;> (simp only at h1 h2; omega)
theorem oneLess_cut {L left : Int} {r : List Int} (h0 : 0 < left) (h1 : left ≤ cnt L r) : oneLess (cutR L left r).1 = (cutR L (left - 1) r).1 := by
  unfold oneLess
  rw [cutR_mx h0 (by omega)]
  exact cutR_dec L left r h0 h1
def iterN : Nat → List Int → List Int
  | 0, ns => ns
  | k + 1, ns => oneLess (iterN k ns)
theorem iterN_add (b : Nat) : ∀ (a : Nat) (ns : List Int), iterN a (iterN b ns) = iterN (a + b) ns
  | 0, ns => by simp [iterN]
  | a + 1, ns => by
    rw [show a + 1 + b = (a + b) + 1 by omega]
    simp only [iterN, iterN_add b a ns]
theorem cap_self {L : Int} : ∀ {r : List Int}, overF r L ≤ cnt L r → capF L r = r
  | [], _ => rfl
  | x :: r, h => by
    have h2 := over_cnt L r
    rw [over_cons, cnt_cons] at h
    by_cases hx : L < x
    · simp only [hx, if_true] at h
      have e : x = L + 1 := by omega
      have ih := cap_self (L := L) (r := r) (by omega)
      show (if L < x then L + 1 else x) :: capF L r = x :: r
      rw [ih, if_pos hx, e]
    · simp only [hx, if_false] at h
      have ih := cap_self (L := L) (r := r) (by omega)
      show (if L < x then L + 1 else x) :: capF L r = x :: r
      rw [ih, if_neg hx]
theorem iterN_cut (r : List Int) : ∀ (a : Nat) (L left : Int), 0 ≤ left → left ≤ cnt L r → overF r L - left = (a : Int) → iterN a r = (cutR L left r).1
  | 0, L, left, h0, h1, h2 => by
    have h3 := over_cnt L r
    rw [cutR_full L left r (by omega), cap_self (by omega)]
    rfl
  | a + 1, L, left, h0, h1, h2 => by
    by_cases hl : left < cnt L r
    · have ih := iterN_cut r a L (left + 1) (by omega) (by omega) (by omega)
      show oneLess (iterN a r) = _
      rw [ih, oneLess_cut (by omega) (by omega)]
      have : left + 1 - 1 = left := by omega
      rw [this]
    · have hl2 : left = cnt L r := by omega
      have h4 := over_succ L r
      have h5 : 0 < cnt (L + 1) r := cnt_pos_of_over (by omega)
      have ih := iterN_cut r a (L + 1) 1 (by omega) (by omega) (by omega)
      show oneLess (iterN a r) = _
      rw [ih, oneLess_cut (by omega) (by omega), hl2, ← cutR_shift]
      rfl
/-! the level -/
theorem over_perm {a b : List Int} (p : a.Perm b) (t : Int) : overF a t = overF b t := by
  induction p with
  | nil => rfl
  | cons x _ ih => rw [over_cons, over_cons, ih]
  | swap x y l => rw [over_cons, over_cons, over_cons, over_cons]; omega
  | trans _ _ ih1 ih2 => rw [ih1, ih2]
theorem take_le_over (t : Int) : ∀ (s : List Int) (j : Nat), j ≤ s.length → (s.take j).sum - (j : Int) * t ≤ overF s t
  | s, 0, _ => by
    have := over_nn t s
    simpa using this
  | [], j + 1, h => by simp at h
  | x :: s, j + 1, h => by
    have ih := take_le_over t s j (by simpa using h)
    rw [List.take_succ_cons, List.sum_cons, over_cons]
    have e : ((j + 1 : Nat) : Int) * t = (j : Int) * t + t := by rw [Int.natCast_add, Int.add_mul]; simp
    rw [e]
    split <;> omega
theorem over_zero {t : Int} : ∀ {s : List Int}, (∀ x ∈ s, x ≤ t) → overF s t = 0
  | [], _ => rfl
  | x :: s, h => by
    have h1 := h x List.mem_cons_self
    rw [over_cons, if_neg (by omega), over_zero fun y hy => h y (List.mem_cons_of_mem _ hy)]
    rfl
theorem over_take (t : Int) : ∀ (s : List Int), s.Pairwise (· ≥ ·) → ∃ j, j ≤ s.length ∧ overF s t = (s.take j).sum - (j : Int) * t
  | [], _ => ⟨0, Nat.le_refl _, by simp [over_nil]⟩
  | x :: s, h => by
    have hc := List.pairwise_cons.mp h
    by_cases hx : t < x
    · obtain ⟨j, hj, e⟩ := over_take t s hc.2
      refine ⟨j + 1, by simpa using hj, ?_⟩
      rw [List.take_succ_cons, List.sum_cons, over_cons, if_pos hx, e]
      have e : ((j + 1 : Nat) : Int) * t = (j : Int) * t + t := by rw [Int.natCast_add, Int.add_mul]; simp
      rw [e]
      omega
    · refine ⟨0, Nat.zero_le _, ?_⟩
      rw [over_zero fun y hy => ?_]
      · simp
      · rcases List.mem_cons.mp hy with rfl | hy
        · omega
        · have := hc.1 y hy
          omega
theorem runs_get : ∀ (t : Int) (l : List Int) (k : Nat), k < l.length → (runs t l).getD k 0 = t + (l.take (k + 1)).sum
  | t, [], k, h => by simp at h
  | t, x :: l, 0, h => by simp [runs]
  | t, x :: l, k + 1, h => by
    have ih := runs_get (t + x) l k (by simpa using h)
    show (runs (t + x) l).getD k 0 = _
    rw [ih, List.take_succ_cons, List.sum_cons]
    omega
theorem le_mx {l : List Int} (h : l ≠ []) (t : Int) : t ≤ mx l ↔ ∃ y ∈ l, t ≤ y :=
  ⟨fun h2 => ⟨mx l, mx_mem h, h2⟩, fun ⟨y, hy, h2⟩ => Int.le_trans h2 (mx_ge hy)⟩
theorem level_iff {ns : List Int} (hne : ns ≠ []) {m : Int} (hm : 1 ≤ m) (t : Int) : t ≤ levelF ns m ↔ m ≤ overF ns t := by
  have hl : (srtD ns).length = ns.length := srtD_len ns
  have hpos : 0 < ns.length := List.length_pos_iff.mpr hne
  have hne2 : ((List.range ns.length).map fun k => ((runs 0 (srtD ns)).getD k 0 - m) / ((k : Int) + 1)) ≠ [] := by
    intro h
    have := congrArg List.length h
    simp at this
    exact hne this
  unfold levelF
  rw [le_mx hne2, ← over_perm (srtD_perm ns) t]
  constructor
  · rintro ⟨y, hy, h2⟩
    obtain ⟨k, hk, rfl⟩ := List.mem_map.mp hy
    have hk2 : k < ns.length := List.mem_range.mp hk
    rw [runs_get _ _ _ (by omega), Int.zero_add] at h2
    have h3 := (Int.le_ediv_iff_mul_le (by omega : (0 : Int) < (k : Int) + 1)).mp h2
    have h4 := take_le_over t (srtD ns) (k + 1) (by omega)
    have e : ((k + 1 : Nat) : Int) * t = t * ((k : Int) + 1) := by rw [Int.mul_comm]; simp
    rw [e] at h4
    omega
  · intro h2
    obtain ⟨j, hj, e⟩ := over_take t (srtD ns) (srtD_ge ns)
    cases j with
    | zero =>
      simp at e
      omega
    | succ k =>
      refine ⟨_, List.mem_map.mpr ⟨k, List.mem_range.mpr (by omega), rfl⟩, ?_⟩
      rw [runs_get _ _ _ (by omega), Int.zero_add]
      refine (Int.le_ediv_iff_mul_le (by omega : (0 : Int) < (k : Int) + 1)).mpr ?_
      have e2 : ((k + 1 : Nat) : Int) * t = t * ((k : Int) + 1) := by rw [Int.mul_comm]; simp
      rw [e2] at e
      omega
/-- the level and what is left -/
theorem level_state {ns : List Int} (hne : ns ≠ []) {m : Int} (hm : 1 ≤ m) : m ≤ overF ns (levelF ns m) ∧ overF ns (levelF ns m) - m < cnt (levelF ns m) ns := by
  have h1 := (level_iff hne hm (levelF ns m)).mp (Int.le_refl _)
  have h2 : ¬ m ≤ overF ns (levelF ns m + 1) := fun h => by
    have := (level_iff hne hm _).mpr h
    omega
  rw [over_succ] at h2
  omega
theorem takeF_iter {ns : List Int} (hne : ns ≠ []) (a : Nat) : takeF ns (a : Int) = iterN a ns := by
  unfold takeF
  by_cases h : (a : Int) = 0
  · rw [if_pos h]
    have : a = 0 := by omega
    rw [this]
    rfl
  · rw [if_neg h]
    obtain ⟨h1, h2⟩ := level_state hne (m := (a : Int)) (by omega)
    exact (iterN_cut ns a _ _ (by omega) (by omega) (by omega)).symm
theorem takeF_len (ns : List Int) (m : Int) : (takeF ns m).length = ns.length := by
  unfold takeF
  split
  · rfl
  · exact lowF_len ns m
theorem takeF_ne {ns : List Int} (h : ns ≠ []) (m : Int) : takeF ns m ≠ [] := fun e => h (List.eq_nil_of_length_eq_zero (by rw [← takeF_len ns m, e]; rfl))
theorem takeF_two {ns : List Int} (hne : ns ≠ []) {p m : Int} (h0 : 0 ≤ p) (h1 : p ≤ m) : takeF (takeF ns p) (m - p) = takeF ns m := by
  have hn := takeF_ne hne p
  have e1 : p = ((p.toNat : Nat) : Int) := by omega
  have e2 : m - p = (((m - p).toNat : Nat) : Int) := by omega
  have e3 : m = ((m.toNat : Nat) : Int) := by omega
  have a1 := takeF_iter hne p.toNat
  have a2 := takeF_iter hn (m - p).toNat
  have a3 := takeF_iter hne m.toNat
  rw [← e1] at a1
  rw [← e2] at a2
  rw [← e3] at a3
  rw [a2, a1, a3, iterN_add]
  congr 1
  omega
theorem takeF_succ {ns : List Int} (hne : ns ≠ []) (a : Nat) : takeF ns ((a + 1 : Nat) : Int) = oneLess (takeF ns (a : Int)) := by
  rw [takeF_iter hne, takeF_iter hne]
  rfl
theorem sum_decF (m : Int) : ∀ ns : List Int, m ∈ ns → (decF m ns).sum = ns.sum - 1
  | [], h => by cases h
  | x :: r, h => by
    by_cases e : x = m
    · simp [decF, e]; omega
    · have := sum_decF m r ((List.mem_cons.mp h).resolve_left fun q => e q.symm)
      simp [decF, e, this]; omega
theorem decF_len (m : Int) : ∀ ns : List Int, (decF m ns).length = ns.length
  | [] => rfl
  | x :: r => by
    unfold decF
    split
    · rfl
    · simp [decF_len m r]
theorem iterN_len : ∀ (a : Nat) (ns : List Int), (iterN a ns).length = ns.length
  | 0, _ => rfl
  | a + 1, ns => by
    show (decF _ (iterN a ns)).length = _
    rw [decF_len, iterN_len a ns]
theorem iterN_sum {ns : List Int} (hne : ns ≠ []) : ∀ a : Nat, (iterN a ns).sum = ns.sum - (a : Int)
  | 0 => by simp [iterN]
  | a + 1 => by
    have h : iterN a ns ≠ [] := fun e => hne (List.eq_nil_of_length_eq_zero (by rw [← iterN_len a ns, e]; rfl))
    show (decF (mx (iterN a ns)) (iterN a ns)).sum = _
    rw [sum_decF _ _ (mx_mem h), iterN_sum hne a]
    omega
theorem takeF_sum {ns : List Int} (hne : ns ≠ []) {m : Int} (h0 : 0 ≤ m) : (takeF ns m).sum = ns.sum - m := by
  have e : m = ((m.toNat : Nat) : Int) := by omega
  have a := takeF_iter hne m.toNat
  rw [← e] at a
  rw [a, iterN_sum hne, ← e]
/-- what the law asks of what is left -/
theorem lowOk {ns : List Int} (hne : ns ≠ []) {m : Int} (h0 : 0 ≤ m) : LowOk ns (takeF ns m) m := by
  refine ⟨takeF_len ns m, by rw [takeF_sum hne h0]; omega, ?_, ?_⟩
  · intro z hz
    by_cases hm : m = 0
    · have e : takeF ns m = ns := if_pos hm
      rw [e] at hz ⊢
      obtain ⟨i, hi⟩ := List.getElem?_of_mem hz
      rw [List.getElem?_zip_eq_some] at hi
      have : z.1 = z.2 := Option.some.inj (hi.1.symm.trans hi.2)
      exact ⟨by omega, by omega, by omega⟩
    · have e : takeF ns m = lowF ns m := if_neg hm
      rw [e] at hz ⊢
      obtain ⟨h1, h2⟩ := level_state hne (m := m) (by omega)
      have h3 : 0 < cnt (levelF ns m) ns := by omega
      have hzz := cutR_zip (levelF ns m) (overF ns (levelF ns m) - m) ns (by omega) z hz
      by_cases hl : 0 < overF ns (levelF ns m) - m
      · have hx : mx (lowF ns m) = levelF ns m + 1 := cutR_mx hl h3
        rw [hx]
        rcases hzz with ⟨a, b⟩ | ⟨a, b | ⟨b, _⟩⟩ <;> exact ⟨by omega, by omega, by omega⟩
      · have hl0 : overF ns (levelF ns m) - m = 0 := by omega
        have hx : mx (lowF ns m) = levelF ns m := by
          obtain ⟨x, hx1, hx2⟩ := cnt_ex h3
          have hc : lowF ns m = ns.map fun x => if levelF ns m < x then levelF ns m else x := by
            unfold lowF
            rw [hl0]
            exact cutR_none _ _
          refine (mx_eq ?_ fun y hy => ?_).symm
          · rw [hc]
            exact List.mem_map.mpr ⟨x, hx1, if_pos hx2⟩
          · rw [hc] at hy
            obtain ⟨u, _, rfl⟩ := List.mem_map.mp hy
            split <;> omega
        rw [hx]
        rcases hzz with ⟨a, b⟩ | ⟨a, b | ⟨b, c⟩⟩ <;> exact ⟨by omega, by omega, by omega⟩
  · by_cases hm : m = 0
    · have e : takeF ns m = ns := if_pos hm
      rw [e]
      refine List.Pairwise.imp_of_mem (R := fun _ _ => True) (fun {z y} hz hy _ h1 h2 h3 => ?_) (List.pairwise_of_forall fun _ _ => trivial)
      obtain ⟨i, hi⟩ := List.getElem?_of_mem hy
      rw [List.getElem?_zip_eq_some] at hi
      have : y.1 = y.2 := Option.some.inj (hi.1.symm.trans hi.2)
      omega
    · have e : takeF ns m = lowF ns m := if_neg hm
      rw [e]
      obtain ⟨h1, h2⟩ := level_state hne (m := m) (by omega)
      have h3 : 0 < cnt (levelF ns m) ns := by omega
      have hp := cutR_pair (levelF ns m) (overF ns (levelF ns m) - m) ns (by omega)
      refine List.Pairwise.imp_of_mem (fun {z y} hz hy hzy a b c => ?_) hp
      have hzz := cutR_zip (levelF ns m) (overF ns (levelF ns m) - m) ns (by omega) z hz
      have hyy := cutR_zip (levelF ns m) (overF ns (levelF ns m) - m) ns (by omega) y hy
      by_cases hl : 0 < overF ns (levelF ns m) - m
      · have hx : mx (lowF ns m) = levelF ns m + 1 := cutR_mx hl h3
        rw [hx] at a b c ⊢
        have := hzy (by omega) b (by omega)
        omega
      · have hx : levelF ns m ≤ mx (lowF ns m) → True := fun _ => trivial
        have hge : ∀ w ∈ lowF ns m, w ≤ levelF ns m := fun w hw => by
          obtain ⟨x, hx⟩ := zip_snd (a := ns) (by rw [lowF_len]) hw
          rcases cutR_zip (levelF ns m) (overF ns (levelF ns m) - m) ns (by omega) _ hx with ⟨a, b⟩ | ⟨a, b | ⟨b, _⟩⟩ <;> (simp only at a b; omega)
        have hmx : mx (lowF ns m) ≤ levelF ns m := hge _ (mx_mem (by
          have := takeF_ne hne m
          rw [e] at this
          exact this))
        rcases hyy with ⟨p, q⟩ | ⟨p, q | ⟨q, _⟩⟩ <;> omega
theorem over_big {t B : Int} : ∀ {s : List Int}, (∀ x ∈ s, t + B ≤ x) → 0 ≤ B → B * (s.length : Int) ≤ overF s t
  | [], _, _ => by simp [over_nil]
  | x :: s, h, hB => by
    have h1 := h x List.mem_cons_self
    have ih := over_big (t := t) (B := B) (s := s) (fun y hy => h y (List.mem_cons_of_mem _ hy)) hB
    rw [over_cons, List.length_cons, Int.natCast_add, Int.mul_add]
    split <;> omega
theorem takeF_low {ns : List Int} (hne : ns ≠ []) (hw : ∀ x ∈ ns, -900000 ≤ x ∧ x ≤ 900000) {m : Int} (h0 : 0 ≤ m) (h1 : m ≤ 50000 * (ns.length : Int)) : ∀ x ∈ takeF ns m, -950000 ≤ x ∧ x ≤ 900000 := by
  intro y hy
  by_cases hm : m = 0
  · have e : takeF ns m = ns := if_pos hm
    rw [e] at hy
    have := hw y hy
    omega
  · have e : takeF ns m = lowF ns m := if_neg hm
    rw [e] at hy
    obtain ⟨k1, k2⟩ := level_state hne (m := m) (by omega)
    have hs := over_succ (levelF ns m) ns
    have hL : -950000 ≤ levelF ns m := by
      by_cases h : -950000 ≤ levelF ns m
      · exact h
      · have := over_big (t := levelF ns m + 1) (B := 50000) (s := ns) (fun x hx => by have := hw x hx; omega) (by omega)
        omega
    obtain ⟨x, hx⟩ := zip_snd (a := ns) (by rw [lowF_len]) hy
    have hx1 : x ∈ ns := (List.of_mem_zip hx).1
    have := hw x hx1
    rcases cutR_zip (levelF ns m) (overF ns (levelF ns m) - m) ns (by omega) _ hx with ⟨a, b⟩ | ⟨a, b | ⟨b, _⟩⟩ <;> (simp only at a b; omega)
theorem negs_negs (ns : List Int) : negs (negs ns) = ns := by
  unfold negs
  rw [List.map_map]
  conv => rhs; rw [← List.map_id ns]
  refine List.map_congr_left fun x _ => ?_
  show - -x = x
  omega
theorem pour_take (ns : List Int) (m : Int) : pourF ns m = negs (takeF (negs ns) m) := by
  unfold pourF takeF
  split
  · rw [negs_negs]
  · rfl
end Ev

set_option Elab.async false
set_option linter.all false
set_option maxRecDepth 100000
set_option maxHeartbeats 8000000
namespace Ev
open PySem PySem.Spec L2 Evl Wk
theorem negs_map (ns : List Int) : (negs ns).map V.int = ns.map fun x => V.int (-x) := by
  unfold negs
  rw [List.map_map]
  rfl
theorem rowOk_of {rs : List Int} (hne : rs ≠ []) (hl : rs.length ≤ 10000) (hw : ∀ x ∈ rs, -1000000 ≤ x ∧ x ≤ 1000000) : RowOk rs := ⟨hne, fun x hx => isSh_iff.mpr (hw x hx), by omega⟩
section
variable {P : Program} {w : World} {K : PySem.W.Frag} {mg : Str → Option Value} {base : Heap}
/-- what may be asked of taken, poured -/
structure Ask (F : List Int → Int → List Int) (rs : List Int) (m : Int) : Prop where
  row : RowOk rs
  len : rs.length ≤ 10000
  lo : 0 ≤ m
  hi : m ≤ 1000000000
  out : ∀ x ∈ F rs m, isSh x = true
theorem el_take {s : L2.St} {H : Hp} {te tm : TE} {F : List Int → Int → List Int} {rs : List Int} {m : Int} (h : EvP te s H (IsL (rs.map V.int))) (hm : Ev tm s H (.int m)) (A : Ask F rs m) :
    EvL (tCall (spTaken F) [] E0 (tCons te (tCons tm tNil))) s H ((F rs m).map V.int) :=
  el_callP (ap_two h hm.p) fun vs H1 e1 ⟨v, w, ev, ⟨p, pv, hp⟩, pw⟩ Q q => ⟨p, rs, m, by rw [ev, pv, pw], hp, A.row, A.len, A.lo, A.hi, A.out, q⟩
theorem el_negs {s : L2.St} {H : Hp} {tl : TE} {j : Nat} {ns : List Int} {a : Addr} (h : Ev tl s H (.ref a)) (hx : H a = some (.lst (ns.map V.int))) (hz : ns.length ≤ 10000) (hw : ∀ x, wipe ((wipe s [j]).set j (some x)) [j] = wipe s [j])
    (hj : ∀ x, ((wipe s [j]).set j (some x))[j]? = some (some x)) : EvL (tLc (iList K tl) (gName j) tYes (tUn (rU fun i => .int (-i)) (tVar j)) [j]) s H ((negs ns).map V.int) := by
  rw [negs_map]
  exact el_map ns V.int (fun x => V.int (-x)) h (sq_of hx) (by omega) hw fun x _ => ev_un (ev_var (hj _)) ru_neg
/-- the row of the law, an amount -/
structure Lw (rs : List Int) : Prop where
  ne : rs ≠ []
  len : rs.length ≤ 64
  w : ∀ x ∈ rs, -900000 ≤ x ∧ x ≤ 900000
theorem Lw.neg {rs : List Int} (L : Lw rs) : Lw (negs rs) := by
  refine ⟨fun h => L.ne (List.eq_nil_of_length_eq_zero (by rw [← negs_len rs, h]; rfl)), by rw [negs_len]; exact L.len, fun x hx => ?_⟩
  obtain ⟨y, hy, rfl⟩ := List.mem_map.mp hx
  have := L.w y hy
  omega
theorem Lw.wide {rs : List Int} (L : Lw rs) {m : Int} (h0 : 0 ≤ m) (h1 : m ≤ 50000 * (rs.length : Int)) : ∀ x ∈ takeF rs m, -1000000 ≤ x ∧ x ≤ 1000000 := fun x hx => by
  have := takeF_low L.ne L.w h0 h1 x hx
  omega
theorem Lw.row {rs : List Int} (L : Lw rs) {m : Int} (h0 : 0 ≤ m) (h1 : m ≤ 50000 * (rs.length : Int)) : RowOk (takeF rs m) := rowOk_of (takeF_ne L.ne m) (by rw [takeF_len]; have := L.len; omega) (L.wide h0 h1)
theorem Lw.row0 {rs : List Int} (L : Lw rs) : RowOk rs := rowOk_of L.ne (by have := L.len; omega) fun x hx => by have := L.w x hx; omega
theorem Lw.ask {rs : List Int} (L : Lw rs) {m : Int} (h0 : 0 ≤ m) (h1 : m ≤ 50000 * (rs.length : Int)) : Ask takeF rs m := by
  have hl := L.len
  exact ⟨L.row0, by omega, h0, by omega, fun x hx => isSh_iff.mpr (L.wide h0 h1 x hx)⟩
theorem Lw.askP {rs : List Int} (L : Lw rs) {m : Int} (h0 : 0 ≤ m) (h1 : m ≤ 50000 * (rs.length : Int)) : Ask pourF rs m := by
  have hl := L.len
  refine ⟨L.row0, by omega, h0, by omega, fun x hx => ?_⟩
  rw [pour_take] at hx
  obtain ⟨y, hy, rfl⟩ := List.mem_map.mp hx
  have := L.neg.wide h0 (by rw [negs_len]; exact h1) y hy
  exact isSh_iff.mpr (by omega)
/-- the second part of an amount -/
theorem Lw.ask2 {rs : List Int} (L : Lw rs) {p m : Int} (h0 : 0 ≤ p) (hp : p ≤ m) (h1 : m ≤ 50000 * (rs.length : Int)) : Ask takeF (takeF rs p) (m - p) := by
  have hl := L.len
  refine ⟨L.row h0 (by omega), by rw [takeF_len]; omega, by omega, by omega, fun x hx => ?_⟩
  rw [takeF_two L.ne h0 hp] at hx
  exact isSh_iff.mpr (L.wide (by omega) h1 x hx)
theorem pour_two {rs : List Int} (hne : rs ≠ []) {p m : Int} (h0 : 0 ≤ p) (hp : p ≤ m) : pourF (pourF rs p) (m - p) = pourF rs m := by
  have hn : negs rs ≠ [] := fun h => hne (List.eq_nil_of_length_eq_zero (by rw [← negs_len rs, h]; rfl))
  rw [pour_take (pourF rs p), pour_take rs p, negs_negs, takeF_two hn h0 hp, pour_take]
theorem Lw.ask2P {rs : List Int} (L : Lw rs) {p m : Int} (h0 : 0 ≤ p) (hp : p ≤ m) (h1 : m ≤ 50000 * (rs.length : Int)) : Ask pourF (pourF rs p) (m - p) := by
  have hl := L.len
  have hw : ∀ q : Int, 0 ≤ q → q ≤ 50000 * (rs.length : Int) → ∀ x ∈ pourF rs q, -1000000 ≤ x ∧ x ≤ 1000000 := fun q q0 q1 x hx => by
    rw [pour_take] at hx
    obtain ⟨y, hy, rfl⟩ := List.mem_map.mp hx
    have := L.neg.wide q0 (by rw [negs_len]; exact q1) y hy
    omega
  have hpl : (pourF rs p).length = rs.length := by rw [pour_take, negs_len, takeF_len, negs_len]
  refine ⟨rowOk_of (fun h => L.ne (List.eq_nil_of_length_eq_zero (by rw [← hpl, h]; rfl))) (by rw [hpl]; omega) (hw p h0 (by omega)), by rw [hpl]; omega, by omega, by omega, fun x hx => ?_⟩
  rw [pour_two L.ne h0 hp] at hx
  exact isSh_iff.mpr (hw m (by omega) h1 x hx)
def spLaw (K : PySem.W.Frag) : Sp := fun vs H Q _ => ∃ (a : Addr) (ns : List Int), vs = [.ref a] ∧ SqL K H a (ns.map V.int) ∧ ns.length ≤ 63 ∧ ∀ H', Q (.bl true) H'
theorem ne_self {rs : List Int} : (!decide (rs = rs)) = false := by simp
theorem ne_of_eq {a b : List Int} (h : a = b) : (!decide (a = b)) = false := by simp [h]
theorem ok_law {f : Addr} {fd : FuncData} (F : Fun K "law" "law" s_law f fd) (T : Txt K mg) (d_law_cell_at : Def P w K mg base CX0 1 "_law_cell_at" ["_law_script", "_law_k"] (spCell K)) (d_law_draw : Def P w K mg base CX0 1 "_law_draw" ["_law_cell", "_law_k", "_law_many"] spDraw)
    (d_law_row : Def P w K mg base CX0 2 "_law_row" ["_law_script"] (spRow K)) (d_law_lowered : Def P w K mg base CX0 2 "_law_lowered" ["_law_row_here", "_law_found", "_law_amount"] spLawLow) (d_law_one_less : Def P w K mg base CX0 1 "_law_one_less" ["_law_row_here"] spOneLess)
    (d_taken : Def P w K mg base CX0 4 "taken" ["row", "amount"] (spTaken takeF)) (d_poured : Def P w K mg base CX0 4 "poured" ["row", "amount"] (spTaken pourF)) : FnOk P w K mg base CX0 5 f fd ["_law_script"] (spLaw K) := by
  refine F.ok sc_law (fun vs H Q E h => ?_) (fun cdv A outer s H vs Q E hr h => ?_)
  · obtain ⟨a, ns, rfl, _⟩ := h
    rfl
  · obtain ⟨a, ns, rfl, ha, hz, q⟩ := h
    refine ⟨_, (pss_cons (ps_set (i := 1) sc_law.nd rfl (Or.inl rfl) (pe_def d_law_row hr (by decide) (by rfl) pass0 (pa_cons (pv 0) pa_nil)))
      (pss_cons (ps_setLc (i := 2) (own := [("_law_share", 10)]) (g := gName 10) rfl sc_law.nd rfl rfl (sw_true rfl rfl rfl (by decide +kernel)) (pi_list (pv 1)) (blkOk_by (own := [("_law_share", 10)]) (N := ["_law_script", "_law_row_here", "_law_minus", "_law_amounts", "_law_amount", "_law_handed", "_law_found", "_law_part", "_law_now", "_law_k", "_law_share"]) (sc := defScope s_law) (by decide +kernel)) (fun _ _ _ _ _ => pg_name (i := 10) sc_law.nd rfl (Or.inl rfl)) (fun _ _ _ _ _ => pts_nil) (fun _ _ _ _ _ => (pe_un un_neg (pv 10))))
      (pss_cons (ps_set (i := 3) sc_law.nd rfl (Or.inl rfl) (pe_lst (pa_cons (pe_def d_law_draw hr (by decide) (by rfl) pass0 (pa_cons (pe_def d_law_cell_at hr (by decide) (by rfl) pass0 (pa_cons (pv 0) (pa_cons pe_int pa_nil))) (pa_cons pe_int (pa_cons pe_int pa_nil)))) (pa_cons (pe_def d_law_draw hr (by decide) (by rfl) pass0 (pa_cons (pe_def d_law_cell_at hr (by decide) (by rfl) pass0 (pa_cons (pv 0) (pa_cons pe_int pa_nil))) (pa_cons pe_int (pa_cons pe_int pa_nil)))) (pa_cons (pe_callB (r := rLenS K) call_len_seq (by rfl) T.n_len PySem.boot_len (pa_cons (pv 1) pa_nil)) pa_nil)))))
      (pss_cons (ps_expr (pe_bm PySem.F.plainAttrs_list PySem.F.slot_list_append PySem.F.type_list_append mt_append (pv 3) (pa_cons (pe_def d_law_draw hr (by decide) (by rfl) pass0 (pa_cons (pe_def d_law_cell_at hr (by decide) (by rfl) pass0 (pa_cons (pv 0) (pa_cons pe_int pa_nil))) (pa_cons pe_int (pa_cons (pe_op op_add (pe_op op_mul pe_int (pe_callB (r := rLenS K) call_len_seq (by rfl) T.n_len PySem.boot_len (pa_cons (pv 1) pa_nil))) pe_int) pa_nil)))) pa_nil)))
      (pss_cons (ps_for PassesOwn.never rfl (pi_list (pv 3)) (pg_name (i := 4) sc_law.nd rfl (Or.inl rfl))
        (pss_cons (ps_set (i := 5) sc_law.nd rfl (Or.inl rfl) (pe_callTy (r := rListS K) call_list_of (by rfl) T.n_list (by decide +kernel) (pa_cons (pv 1) pa_nil)))
          (pss_cons (ps_set (i := 6) sc_law.nd rfl (Or.inl rfl) (pe_def d_taken hr (by decide) (by rfl) pass0 (pa_cons (pv 5) (pa_cons (pv 4) pa_nil))))
          (pss_cons (ps_if (PW.pt (pw_or (pt_cmpR (r := rNeD K) (op_neD hr.units) (pv 5) (pv 1) (nomark _)) (pw_or1 (pt_not (pt_val (pe_def d_law_lowered hr (by decide) (by rfl) pass0 (pa_cons (pv 1) (pa_cons (pv 6) (pa_cons (pv 4) pa_nil)))))))))
            (pss_cons (ps_ret pe_bl)
              pss_nil)
            pss_nil)
          (pss_cons (ps_expr (pe_bm PySem.F.plainAttrs_list PySem.F.slot_list_append PySem.F.type_list_append mt_append (pv 6) (pa_cons pe_int pa_nil)))
          (pss_cons (ps_set (i := 6) sc_law.nd rfl (Or.inl rfl) (pe_def d_poured hr (by decide) (by rfl) pass0 (pa_cons (pv 5) (pa_cons (pv 4) pa_nil))))
          (pss_cons (ps_if (PW.pt (pw_or (pt_cmpR (r := rNeD K) (op_neD hr.units) (pv 5) (pv 1) (nomark _)) (pw_or1 (pt_not (pt_val (pe_def d_law_lowered hr (by decide) (by rfl) pass0 (pa_cons (pv 2) (pa_cons (pe_lc (own := [("_law_share", 10)]) (g := gName 10) rfl sc_law.nd (pi_list (pv 6)) (blkOk_by (own := [("_law_share", 10)]) (N := ["_law_script", "_law_row_here", "_law_minus", "_law_amounts", "_law_amount", "_law_handed", "_law_found", "_law_part", "_law_now", "_law_k", "_law_share"]) (sc := defScope s_law) (by decide +kernel)) (fun _ _ _ _ _ => pg_name (i := 10) sc_law.nd rfl (Or.inl rfl)) (fun _ _ _ _ _ => pts_nil) (fun _ _ _ _ _ => (pe_un un_neg (pv 10)))) (pa_cons (pv 4) pa_nil)))))))))
            (pss_cons (ps_ret pe_bl)
              pss_nil)
            pss_nil)
          (pss_cons (ps_expr (pe_bm PySem.F.plainAttrs_list PySem.F.slot_list_append PySem.F.type_list_append mt_append (pv 6) (pa_cons pe_int pa_nil)))
          (pss_cons (ps_if (pt_cmpR (r := rNeD K) (op_neD hr.units) (pv 5) (pv 1) (nomark _))
            (pss_cons (ps_ret pe_bl)
              pss_nil)
            pss_nil)
          (pss_cons (ps_set (i := 7) sc_law.nd rfl (Or.inl rfl) (pe_op op_fdiv (pv 4) pe_int))
          (pss_cons (ps_if (pt_cmpR (r := rNeD K) (op_neD hr.units) (pe_def d_taken hr (by decide) (by rfl) pass0 (pa_cons (pe_def d_taken hr (by decide) (by rfl) pass0 (pa_cons (pv 1) (pa_cons (pv 7) pa_nil))) (pa_cons (pe_op op_sub (pv 4) (pv 7)) pa_nil))) (pe_def d_taken hr (by decide) (by rfl) pass0 (pa_cons (pv 1) (pa_cons (pv 4) pa_nil))) (nomark _))
            (pss_cons (ps_ret pe_bl)
              pss_nil)
            pss_nil)
          (pss_cons (ps_if (pt_cmpR (r := rNeD K) (op_neD hr.units) (pe_def d_poured hr (by decide) (by rfl) pass0 (pa_cons (pe_def d_poured hr (by decide) (by rfl) pass0 (pa_cons (pv 1) (pa_cons (pv 7) pa_nil))) (pa_cons (pe_op op_sub (pv 4) (pv 7)) pa_nil))) (pe_def d_poured hr (by decide) (by rfl) pass0 (pa_cons (pv 1) (pa_cons (pv 4) pa_nil))) (nomark _))
            (pss_cons (ps_ret pe_bl)
              pss_nil)
            pss_nil)
          pss_nil))))))))))))
      (pss_cons (ps_set (i := 8) sc_law.nd rfl (Or.inl rfl) (pe_callTy (r := rListS K) call_list_of (by rfl) T.n_list (by decide +kernel) (pa_cons (pv 1) pa_nil)))
      (pss_cons (ps_for PassesOwn.never rfl (pi_range1 (by rfl) T.n_range (pa_cons (pe_op op_add (pe_ix (r := rIxL K) ix_list (pv 3) pe_int (fun _ _ => rfl)) pe_int) pa_nil)) (pg_name (i := 9) sc_law.nd rfl (Or.inl rfl))
        (pss_cons (ps_if (PW.pt (pw_or (pt_cmpR (r := rNeD K) (op_neD hr.units) (pe_def d_taken hr (by decide) (by rfl) pass0 (pa_cons (pv 1) (pa_cons (pv 9) pa_nil))) (pv 8) (nomark _)) (pw_or1 (pt_cmpR (r := rNeD K) (op_neD hr.units) (pe_def d_poured hr (by decide) (by rfl) pass0 (pa_cons (pv 2) (pa_cons (pv 9) pa_nil))) (pe_lc (own := [("_law_share", 10)]) (g := gName 10) rfl sc_law.nd (pi_list (pv 8)) (blkOk_by (own := [("_law_share", 10)]) (N := ["_law_script", "_law_row_here", "_law_minus", "_law_amounts", "_law_amount", "_law_handed", "_law_found", "_law_part", "_law_now", "_law_k", "_law_share"]) (sc := defScope s_law) (by decide +kernel)) (fun _ _ _ _ _ => pg_name (i := 10) sc_law.nd rfl (Or.inl rfl)) (fun _ _ _ _ _ => pts_nil) (fun _ _ _ _ _ => (pe_un un_neg (pv 10)))) (nomark _)))))
            (pss_cons (ps_ret pe_bl)
              pss_nil)
            pss_nil)
          (pss_cons (ps_set (i := 8) sc_law.nd rfl (Or.inl rfl) (pe_def d_law_one_less hr (by decide) (by rfl) pass0 (pa_cons (pv 8) pa_nil)))
          pss_nil)))
      (pss_cons (ps_ret (pe_and (pe_cmpR (r := rEqD K) (op_eqD hr.units) (pe_def d_taken hr (by decide) (by rfl) pass0 (pa_cons (pv 1) (pa_cons pe_int pa_nil))) (pv 1) (nomark _)) (pe_one (pe_cmpR (r := rEqD K) (op_eqD hr.units) (pe_def d_poured hr (by decide) (by rfl) pass0 (pa_cons (pv 1) (pa_cons pe_int pa_nil))) (pv 1) (nomark _)))))
      pss_nil)))))))), ?_⟩
    -- the row
    refine Sv.go (w_asgP (P := fun x H2 => ∃ p rs, x = .ref p ∧ H2 p = some (.lst (rs.map V.int)) ∧ rs.length = ns.length + 1 ∧ Within 900000 rs) (evp_callP (ap_one (ev_var rfl).p) fun vs H1 e1 ⟨v, ev, pv⟩ Q q => ⟨a, ns, by rw [ev, pv], ex_l e1 ha, hz, fun rs h1 h2 p H2 np e2 hp => q _ H2 e2 ⟨p, rs, rfl, hp, h1, h2⟩⟩) ?_)
    rintro x H1 e1 ⟨pr, rs, rfl, hpr, hl, hw⟩
    have L : Lw rs := ⟨fun h => by rw [h] at hl; simp at hl, by omega, hw⟩
    have hl64 := L.len
    have hpos : 0 < rs.length := List.length_pos_iff.mpr L.ne
    -- minus
    refine w_asgL (el_negs (ev_var rfl) hpr (by omega) (fun _ => rfl) (fun _ => rfl)) fun pm H2 nm e2 hpm => ?_
    have hpr2 := e2 _ _ hpr
    have ha2 := ex_l (e1.trans e2) ha
    have hlen : ∀ {s : L2.St} {H' : Hp}, s[1]? = some (some (.ref pr)) → Ex H2 H' → Ev (tCB (rLenS K) (tCons (tVar 1) tNil)) s H' (.int (rs.length : Int)) := fun h e => by
      have h2 := ev_lenL (K := K) (ev_var' h (e _ _ hpr2))
      rw [List.length_map] at h2
      exact h2
    -- the amounts
    refine w_asgP (P := fun x H3 => ∃ p vs, x = .ref p ∧ H2 p = none ∧ H3 p = some (.lst vs) ∧ ∃ m0 m1 : Int, vs = [.int m0, .int m1, .int (rs.length : Int)] ∧ (0 ≤ m0 ∧ m0 < 4) ∧ (0 ≤ m1 ∧ m1 < 60)) (evp_lst ((ap_three (evp_draw (evp_cell (ev_var rfl) ha2 ev_c (by omega)) (ev_i ev_c trivial) ev_c (by omega)) (evp_draw (evp_cell (ev_var rfl) ha2 ev_c (by omega)) (ev_i ev_c trivial) ev_c (by omega)) (hlen rfl (Ex.refl _)).p).imp fun vs H' _ ⟨v, w, x, ev, ⟨m0, e0, h0⟩, ⟨m1, e1, h1⟩, ex⟩ => ⟨m0, m1, by rw [ev, e0, e1, ex], h0, h1⟩) fun vs ⟨m0, m1, e, _⟩ => by rw [e]; show 3 ≤ 100000; decide) ?_
    rintro x H3 e3 ⟨pa, vs, rfl, na, hpa, m0, m1, rfl, ⟨a0, b0⟩, ⟨a1, b1⟩⟩
    have ha3 := ex_l e3 ha2
    refine w_appP (P := IsI fun d => 0 ≤ d ∧ d < 50000 * (rs.length : Int) + 1) hpa (ev_var rfl) (evp_draw (evp_cell (ev_var rfl) ha3 ev_c (by omega)) (ev_i ev_c trivial) (ev_op (ev_op ev_c (hlen rfl e3) (rv_I (.inl (by omega)))) ev_c rv_I0) (by omega)) (by show 3 < 100000; decide) ?_ (fun v H o h => h)
    rintro v H4 ⟨m3, rfl, a3, b3⟩ pt4
    have ne1 : pr ≠ pa := ne_of_none hpr2 na
    have ne2 : pm ≠ pa := ne_of_none hpm na
    have hpr4 : H4 pr = some (.lst (rs.map V.int)) := pt4.old _ _ ne1 (e3 _ _ hpr2)
    have hpm4 : H4 pm = some (.lst ((negs rs).map V.int)) := pt4.old _ _ ne2 (e3 _ _ hpm)
    have hpa4 : H4 pa = some (.lst (([m0, m1, (rs.length : Int), m3] : List Int).map V.int)) := pt4.new
    have hms : ∀ m ∈ ([m0, m1, (rs.length : Int), m3] : List Int), 0 ≤ m ∧ m ≤ 50000 * (rs.length : Int) := by
      intro m hm
      simp only [List.mem_cons, List.not_mem_nil, or_false] at hm
      rcases hm with rfl | rfl | rfl | rfl <;> omega
    -- the first loop
    refine w_forL (xs := ([m0, m1, (rs.length : Int), m3] : List Int).map V.int) (ev_var rfl) (sq_of hpa4) (fun i s' H' => ∃ x4 x5 x6 x7, s' = [some (.ref a), some (.ref pr), some (.ref pm), some (.ref pa), x4, x5, x6, x7, none, none, none] ∧ Ex H4 H') (fun H5 e5 => ⟨none, none, none, none, rfl, e5⟩) (fun i s' H' _ ⟨_, _, _, _, _, ex⟩ => sq_of (ex _ _ hpa4)) ?_ ?_
    · rintro i x s' H5 hi ⟨x4, x5, x6, x7, rfl, ex⟩
      obtain ⟨m, hm, rfl⟩ := int_at hi
      obtain ⟨h0, h1⟩ := hms m (List.mem_of_getElem? hm)
      have qr := ex _ _ hpr4
      have qm := ex _ _ hpm4
      have hnl : (negs rs).length = rs.length := negs_len rs
      -- handed, found
      refine w_asgL (el_listL (ev_var' rfl qr)) fun ph H6 nh e6 hph => ?_
      have qr6 := e6 _ _ qr
      have qm6 := e6 _ _ qm
      refine w_asgL (el_take (ev_var' rfl hph) (ev_var rfl) (L.ask h0 h1)) fun pf H7 nf e7 hpf => ?_
      have qr7 := e7 _ _ qr6
      have qm7 := e7 _ _ qm6
      have hph7 := e7 _ _ hph
      have nf4 : H4 pf = none := fresh_back (ex.trans e6) nf
      have nf5 : H5 pf = none := fresh_back e6 nf
      have nephf : ph ≠ pf := ne_of_none hph nf
      have ex7 := (ex.trans e6).trans e7
      refine w_skip (et_is (et_or (et_test (ev_neL (ev_var' rfl hph7) (ev_var' rfl qr7))) fun _ => et_not (et_B (ev_call (dvs := []) (z := .bl true) (ea_cons (ev_var rfl) (ea_cons (ev_var rfl) (ea_cons (ev_var rfl) ea_nil))) fun H' e' Q q E => ⟨pr, pf, rs, takeF rs m, m, rfl, e' _ _ qr7, e' _ _ hpf, L.ne, by omega, lowOk L.ne h0, q⟩))) (by rw [ne_self]; rfl)) ?_
      refine w_app hpf (ev_var rfl) ev_c (by rw [List.length_map, takeF_len]; omega) fun H8 pt8 => ?_
      have ex8 : Ex H4 H8 := pt8.ex ex7 nf4
      have qr8 := ex8 _ _ hpr4
      have qm8 := ex8 _ _ hpm4
      have hph8 := pt8.old _ _ nephf hph7
      have nh8 : H5 ph = none := nh
      refine w_asgL (el_take (ev_var' rfl hph8) (ev_var rfl) (L.askP h0 h1)) fun pg H9 ng e9 hpg => ?_
      have ex9 := ex8.trans e9
      have ng4 : H4 pg = none := fresh_back ex8 ng
      have hph9 := e9 _ _ hph8
      have nephg : ph ≠ pg := ne_of_none hph8 ng
      have hgl : (pourF rs m).length = rs.length := by rw [pour_take, negs_len, takeF_len, negs_len]
      refine w_skip (et_is (et_or (et_test (ev_neL (ev_var' rfl hph9) (ev_var' rfl (ex9 _ _ hpr4)))) fun _ => et_not (et_B (b := true) (evp_is (evp_callP (ap_three (ev_var rfl).p (EvL.p (el_negs (ev_var rfl) hpg (by omega) (fun _ => rfl) (fun _ => rfl))) (ev_var rfl).p) fun vs H' e' ⟨v, w, x, ev, pv, ⟨pn, ew, hpn⟩, px⟩ Q q => ⟨pm, pn, negs rs, negs (pourF rs m), m, by rw [ev, pv, ew, px], e' _ _ (ex9 _ _ hpm4), hpn, L.neg.ne, by omega, ?_, fun H2 e2 => q _ H2 e2 rfl⟩)))) (by rw [ne_self]; rfl)) ?_
      · rw [pour_take, negs_negs]
        exact lowOk L.neg.ne h0
      refine w_app hpg (ev_var rfl) ev_c (by rw [List.length_map]; omega) fun H10 pt10 => ?_
      have ex10 : Ex H4 H10 := pt10.ex ex9 ng4
      have qr10 := ex10 _ _ hpr4
      have hph10 := pt10.old _ _ nephg hph9
      refine w_skip (et_is (et_test (ev_neL (ev_var' rfl hph10) (ev_var' rfl qr10))) ne_self) ?_
      -- two parts
      refine w_asg (v := .int (m / 3)) (ev_op (ev_var rfl) ev_c (rv_I ⟨by omega, by omega⟩)) ?_
      have p0 : 0 ≤ m / 3 := by omega
      have p1 : m / 3 ≤ m := by omega
      refine w_skip (et_is (et_test (ev_neL (EvL.p (el_take (EvL.p (el_take (ev_var' rfl qr10) (ev_var rfl) (L.ask p0 (by omega)))) (ev_op (ev_var rfl) (ev_var rfl) rv_I0) (L.ask2 p0 p1 h1))) (EvL.p (el_take (ev_var' rfl qr10) (ev_var rfl) (L.ask h0 h1))))) (ne_of_eq (takeF_two L.ne p0 p1))) ?_
      refine w_skip (et_is (et_test (ev_neL (EvL.p (el_take (EvL.p (el_take (ev_var' rfl qr10) (ev_var rfl) (L.askP p0 (by omega)))) (ev_op (ev_var rfl) (ev_var rfl) rv_I0) (L.ask2P p0 p1 h1))) (EvL.p (el_take (ev_var' rfl qr10) (ev_var rfl) (L.askP h0 h1))))) (ne_of_eq (pour_two L.ne p0 p1))) ?_
      exact w_nx fun H11 e11 => Exists.intro (some (.int m)) ⟨some (.ref ph), some (.ref pg), some (.int (m / 3)), rfl, ex10.trans e11⟩
    · rintro s' H5 ⟨x4, x5, x6, x7, rfl, ex⟩
      have qr := ex _ _ hpr4
      have qm := ex _ _ hpm4
      have qa := ex _ _ hpa4
      -- one by one
      refine w_asgL (el_listL (ev_var' rfl qr)) fun pn H6 nn e6 hpn => ?_
      have ex6 := ex.trans e6
      refine w_forR1 (n := m0 + 2) (ea_cons (ev_op (ev_ixL (v := .int m0) (ev_var' rfl (ex6 _ _ hpa4)) ev_c rfl) ev_c rv_I0) ea_nil) (by omega) (fun i s' H' => ∃ pc x9, s' = [some (.ref a), some (.ref pr), some (.ref pm), some (.ref pa), x4, x5, x6, x7, some (.ref pc), x9, none] ∧ Ex H4 H' ∧ H' pc = some (.lst ((takeF rs (i : Int)).map V.int))) (fun H7 e7 => ⟨pn, none, rfl, ex6.trans e7, ?_⟩) ?_ ?_
      · have e0 : takeF rs ((0 : Nat) : Int) = rs := if_pos rfl
        rw [e0]
        exact e7 _ _ hpn
      · rintro i s' H' hi ⟨pc, x9, rfl, ex', hpc⟩
        have h0 : (0 : Int) ≤ (i : Int) := by omega
        have h1 : (i : Int) ≤ 50000 * (rs.length : Int) := by omega
        have qr' := ex' _ _ hpr4
        have qm' := ex' _ _ hpm4
        have hcl : (takeF rs (i : Int)).length = rs.length := takeF_len _ _
        refine w_skip (et_is (et_or (et_test (ev_neL (EvL.p (el_take (ev_var' rfl qr') (ev_var rfl) (L.ask h0 h1))) (ev_var' rfl hpc))) fun _ => et_test (ev_neL (EvL.p (el_take (ev_var' rfl qm') (ev_var rfl) (L.neg.askP h0 (by rw [negs_len]; exact h1)))) (EvL.p (el_negs (ev_var rfl) hpc (by omega) (fun _ => rfl) (fun _ => rfl))))) ?_) ?_
        · rw [ne_self, ne_of_eq (by rw [pour_take, negs_negs])]
          rfl
        refine w_asgL (xs := (takeF rs ((i + 1 : Nat) : Int)).map V.int) ?_ fun pd H8 nd e8 hpd => w_nx fun H9 e9 => Exists.intro pd ⟨some (.int (i : Int)), rfl, (ex'.trans e8).trans e9, e9 _ _ hpd⟩
        rw [takeF_succ L.ne]
        exact el_callP (ap_one (ev_var' rfl hpc)) fun vs H9 e9 ⟨v, ev, p, pv, hp⟩ Q q => ⟨p, takeF rs (i : Int), by rw [ev, pv], hp, takeF_ne L.ne _, by omega, q⟩
      · rintro s' H' ⟨pc, x9, rfl, ex', hpc⟩
        have qr' := ex' _ _ hpr4
        have h2 : (0 : Int) ≤ 50000 * (rs.length : Int) := by omega
        refine w_ret (v := .bl true) (ev_is (ev_andV (ev_eqL (EvL.p (el_take (ev_var' rfl qr') ev_c (L.ask (Int.le_refl _) h2))) (ev_var' rfl qr')) fun _ => ev_eqL (EvL.p (el_take (ev_var' rfl qr') ev_c (L.askP (Int.le_refl _) h2))) (ev_var' rfl qr')) ?_) fun H2 _ => q H2
        have e0 : takeF rs 0 = rs := if_pos rfl
        have e1 : pourF rs 0 = rs := if_pos rfl
        rw [e0, e1]
        simp
end
end Ev

set_option Elab.async false
set_option linter.all false
set_option maxRecDepth 100000
set_option maxHeartbeats 4000000
namespace Ev
open PySem PySem.Spec L2 Evl Wk
theorem all_mk {l : PySem.W.OpenLaw} {w : World} {K : PySem.W.Frag} {h : Heap} {mg : Str → Option Value} {fa : Addr} (X : K.In h) (G : h.Ns mainGlobals mg) (hfa : mg "law" = some (.ref fa))
    {f0 : Addr} {od0 an0 : Option Addr} {sl0 : Array (Option Value)} {oc0 kV0 dc0 pm0 cd0 ct0 : Value}
    {f1 : Addr} {od1 an1 : Option Addr} {sl1 : Array (Option Value)} {oc1 kV1 dc1 pm1 cd1 ct1 : Value}
    {f2 : Addr} {od2 an2 : Option Addr} {sl2 : Array (Option Value)} {oc2 kV2 dc2 pm2 cd2 ct2 : Value}
    {f3 : Addr} {od3 an3 : Option Addr} {sl3 : Array (Option Value)} {oc3 kV3 dc3 pm3 cd3 ct3 : Value}
    {f4 : Addr} {od4 an4 : Option Addr} {sl4 : Array (Option Value)} {oc4 kV4 dc4 pm4 cd4 ct4 : Value}
    {f5 : Addr} {od5 an5 : Option Addr} {sl5 : Array (Option Value)} {oc5 kV5 dc5 pm5 cd5 ct5 : Value}
    {f6 : Addr} {od6 an6 : Option Addr} {sl6 : Array (Option Value)} {oc6 kV6 dc6 pm6 cd6 ct6 : Value}
    {f7 : Addr} {od7 an7 : Option Addr} {sl7 : Array (Option Value)} {oc7 kV7 dc7 pm7 cd7 ct7 : Value}
    {f8 : Addr} {od8 an8 : Option Addr} {sl8 : Array (Option Value)} {oc8 kV8 dc8 pm8 cd8 ct8 : Value}
    {f9 : Addr} {od9 an9 : Option Addr} {sl9 : Array (Option Value)} {oc9 kV9 dc9 pm9 cd9 ct9 : Value}
    {f10 : Addr} {od10 an10 : Option Addr} {sl10 : Array (Option Value)} {oc10 kV10 dc10 pm10 cd10 ct10 : Value}
    {f11 : Addr} {od11 an11 : Option Addr} {sl11 : Array (Option Value)} {oc11 kV11 dc11 pm11 cd11 ct11 : Value}
    {f12 : Addr} {od12 an12 : Option Addr} {sl12 : Array (Option Value)} {oc12 kV12 dc12 pm12 cd12 ct12 : Value}
    {f13 : Addr} {od13 an13 : Option Addr} {sl13 : Array (Option Value)} {oc13 kV13 dc13 pm13 cd13 ct13 : Value}
    {f14 : Addr} {od14 an14 : Option Addr} {sl14 : Array (Option Value)} {oc14 kV14 dc14 pm14 cd14 ct14 : Value}
    {f15 : Addr} {od15 an15 : Option Addr} {sl15 : Array (Option Value)} {oc15 kV15 dc15 pm15 cd15 ct15 : Value}
    {f16 : Addr} {od16 an16 : Option Addr} {sl16 : Array (Option Value)} {oc16 kV16 dc16 pm16 cd16 ct16 : Value}
    {f17 : Addr} {od17 an17 : Option Addr} {sl17 : Array (Option Value)} {oc17 kV17 dc17 pm17 cd17 ct17 : Value}
    {t_GREATEST : Tok}
    {t_MOST : Tok}
    (a0 : PySem.W.nsIn K mainGlobals "is_whole" = some (some (.ref f0)))
    (l0 : K.lookup f0 = some ⟨oc0, od0, .func (PySem.W.fnOf "is_whole" "is_whole" (defArgs s_is_whole) (defBody s_is_whole) (defScope s_is_whole) .none kV0 dc0 pm0 an0 cd0 ct0), sl0⟩)
    (c0 : PySem.W.codeIn K cd0 "is_whole" = true)
    (k0 : PySem.W.keepIn K (.ref f0) = true)
    (a1 : PySem.W.nsIn K mainGlobals "is_share" = some (some (.ref f1)))
    (l1 : K.lookup f1 = some ⟨oc1, od1, .func (PySem.W.fnOf "is_share" "is_share" (defArgs s_is_share) (defBody s_is_share) (defScope s_is_share) .none kV1 dc1 pm1 an1 cd1 ct1), sl1⟩)
    (c1 : PySem.W.codeIn K cd1 "is_share" = true)
    (k1 : PySem.W.keepIn K (.ref f1) = true)
    (a2 : PySem.W.nsIn K mainGlobals "check_row" = some (some (.ref f2)))
    (l2 : K.lookup f2 = some ⟨oc2, od2, .func (PySem.W.fnOf "check_row" "check_row" (defArgs s_check_row) (defBody s_check_row) (defScope s_check_row) .none kV2 dc2 pm2 an2 cd2 ct2), sl2⟩)
    (c2 : PySem.W.codeIn K cd2 "check_row" = true)
    (k2 : PySem.W.keepIn K (.ref f2) = true)
    (a3 : PySem.W.nsIn K mainGlobals "running" = some (some (.ref f3)))
    (l3 : K.lookup f3 = some ⟨oc3, od3, .func (PySem.W.fnOf "running" "running" (defArgs s_running) (defBody s_running) (defScope s_running) .none kV3 dc3 pm3 an3 cd3 ct3), sl3⟩)
    (c3 : PySem.W.codeIn K cd3 "running" = true)
    (k3 : PySem.W.keepIn K (.ref f3) = true)
    (a4 : PySem.W.nsIn K mainGlobals "over" = some (some (.ref f4)))
    (l4 : K.lookup f4 = some ⟨oc4, od4, .func (PySem.W.fnOf "over" "over" (defArgs s_over) (defBody s_over) (defScope s_over) .none kV4 dc4 pm4 an4 cd4 ct4), sl4⟩)
    (c4 : PySem.W.codeIn K cd4 "over" = true)
    (k4 : PySem.W.keepIn K (.ref f4) = true)
    (a5 : PySem.W.nsIn K mainGlobals "check_amount" = some (some (.ref f5)))
    (l5 : K.lookup f5 = some ⟨oc5, od5, .func (PySem.W.fnOf "check_amount" "check_amount" (defArgs s_check_amount) (defBody s_check_amount) (defScope s_check_amount) .none kV5 dc5 pm5 an5 cd5 ct5), sl5⟩)
    (c5 : PySem.W.codeIn K cd5 "check_amount" = true)
    (k5 : PySem.W.keepIn K (.ref f5) = true)
    (a6 : PySem.W.nsIn K mainGlobals "level_of" = some (some (.ref f6)))
    (l6 : K.lookup f6 = some ⟨oc6, od6, .func (PySem.W.fnOf "level_of" "level_of" (defArgs s_level_of) (defBody s_level_of) (defScope s_level_of) .none kV6 dc6 pm6 an6 cd6 ct6), sl6⟩)
    (c6 : PySem.W.codeIn K cd6 "level_of" = true)
    (k6 : PySem.W.keepIn K (.ref f6) = true)
    (a7 : PySem.W.nsIn K mainGlobals "lowered" = some (some (.ref f7)))
    (l7 : K.lookup f7 = some ⟨oc7, od7, .func (PySem.W.fnOf "lowered" "lowered" (defArgs s_lowered) (defBody s_lowered) (defScope s_lowered) .none kV7 dc7 pm7 an7 cd7 ct7), sl7⟩)
    (c7 : PySem.W.codeIn K cd7 "lowered" = true)
    (k7 : PySem.W.keepIn K (.ref f7) = true)
    (a8 : PySem.W.nsIn K mainGlobals "checked" = some (some (.ref f8)))
    (l8 : K.lookup f8 = some ⟨oc8, od8, .func (PySem.W.fnOf "checked" "checked" (defArgs s_checked) (defBody s_checked) (defScope s_checked) .none kV8 dc8 pm8 an8 cd8 ct8), sl8⟩)
    (c8 : PySem.W.codeIn K cd8 "checked" = true)
    (k8 : PySem.W.keepIn K (.ref f8) = true)
    (a9 : PySem.W.nsIn K mainGlobals "taken" = some (some (.ref f9)))
    (l9 : K.lookup f9 = some ⟨oc9, od9, .func (PySem.W.fnOf "taken" "taken" (defArgs s_taken) (defBody s_taken) (defScope s_taken) .none kV9 dc9 pm9 an9 cd9 ct9), sl9⟩)
    (c9 : PySem.W.codeIn K cd9 "taken" = true)
    (k9 : PySem.W.keepIn K (.ref f9) = true)
    (a10 : PySem.W.nsIn K mainGlobals "poured" = some (some (.ref f10)))
    (l10 : K.lookup f10 = some ⟨oc10, od10, .func (PySem.W.fnOf "poured" "poured" (defArgs s_poured) (defBody s_poured) (defScope s_poured) .none kV10 dc10 pm10 an10 cd10 ct10), sl10⟩)
    (c10 : PySem.W.codeIn K cd10 "poured" = true)
    (k10 : PySem.W.keepIn K (.ref f10) = true)
    (a11 : PySem.W.nsIn K mainGlobals "_law_cell_at" = some (some (.ref f11)))
    (l11 : K.lookup f11 = some ⟨oc11, od11, .func (PySem.W.fnOf "_law_cell_at" "_law_cell_at" (defArgs s_law_cell_at) (defBody s_law_cell_at) (defScope s_law_cell_at) .none kV11 dc11 pm11 an11 cd11 ct11), sl11⟩)
    (c11 : PySem.W.codeIn K cd11 "_law_cell_at" = true)
    (k11 : PySem.W.keepIn K (.ref f11) = true)
    (a12 : PySem.W.nsIn K mainGlobals "_law_draw" = some (some (.ref f12)))
    (l12 : K.lookup f12 = some ⟨oc12, od12, .func (PySem.W.fnOf "_law_draw" "_law_draw" (defArgs s_law_draw) (defBody s_law_draw) (defScope s_law_draw) .none kV12 dc12 pm12 an12 cd12 ct12), sl12⟩)
    (c12 : PySem.W.codeIn K cd12 "_law_draw" = true)
    (k12 : PySem.W.keepIn K (.ref f12) = true)
    (a13 : PySem.W.nsIn K mainGlobals "_law_row" = some (some (.ref f13)))
    (l13 : K.lookup f13 = some ⟨oc13, od13, .func (PySem.W.fnOf "_law_row" "_law_row" (defArgs s_law_row) (defBody s_law_row) (defScope s_law_row) .none kV13 dc13 pm13 an13 cd13 ct13), sl13⟩)
    (c13 : PySem.W.codeIn K cd13 "_law_row" = true)
    (k13 : PySem.W.keepIn K (.ref f13) = true)
    (a14 : PySem.W.nsIn K mainGlobals "_law_numbers" = some (some (.ref f14)))
    (l14 : K.lookup f14 = some ⟨oc14, od14, .func (PySem.W.fnOf "_law_numbers" "_law_numbers" (defArgs s_law_numbers) (defBody s_law_numbers) (defScope s_law_numbers) .none kV14 dc14 pm14 an14 cd14 ct14), sl14⟩)
    (c14 : PySem.W.codeIn K cd14 "_law_numbers" = true)
    (k14 : PySem.W.keepIn K (.ref f14) = true)
    (a15 : PySem.W.nsIn K mainGlobals "_law_lowered" = some (some (.ref f15)))
    (l15 : K.lookup f15 = some ⟨oc15, od15, .func (PySem.W.fnOf "_law_lowered" "_law_lowered" (defArgs s_law_lowered) (defBody s_law_lowered) (defScope s_law_lowered) .none kV15 dc15 pm15 an15 cd15 ct15), sl15⟩)
    (c15 : PySem.W.codeIn K cd15 "_law_lowered" = true)
    (k15 : PySem.W.keepIn K (.ref f15) = true)
    (a16 : PySem.W.nsIn K mainGlobals "_law_one_less" = some (some (.ref f16)))
    (l16 : K.lookup f16 = some ⟨oc16, od16, .func (PySem.W.fnOf "_law_one_less" "_law_one_less" (defArgs s_law_one_less) (defBody s_law_one_less) (defScope s_law_one_less) .none kV16 dc16 pm16 an16 cd16 ct16), sl16⟩)
    (c16 : PySem.W.codeIn K cd16 "_law_one_less" = true)
    (k16 : PySem.W.keepIn K (.ref f16) = true)
    (a17 : PySem.W.nsIn K mainGlobals "law" = some (some (.ref f17)))
    (l17 : K.lookup f17 = some ⟨oc17, od17, .func (PySem.W.fnOf "law" "law" (defArgs s_law) (defBody s_law) (defScope s_law) .none kV17 dc17 pm17 an17 cd17 ct17), sl17⟩)
    (c17 : PySem.W.codeIn K cd17 "law" = true)
    (k17 : PySem.W.keepIn K (.ref f17) = true)
    (z_len : PySem.W.nsIn K mainGlobals "len" = some none)
    (z_all : PySem.W.nsIn K mainGlobals "all" = some none)
    (z_any : PySem.W.nsIn K mainGlobals "any" = some none)
    (z_sum : PySem.W.nsIn K mainGlobals "sum" = some none)
    (z_max : PySem.W.nsIn K mainGlobals "max" = some none)
    (z_min : PySem.W.nsIn K mainGlobals "min" = some none)
    (z_sorted : PySem.W.nsIn K mainGlobals "sorted" = some none)
    (z_isinstance : PySem.W.nsIn K mainGlobals "isinstance" = some none)
    (z_range : PySem.W.nsIn K mainGlobals "range" = some none)
    (z_reversed : PySem.W.nsIn K mainGlobals "reversed" = some none)
    (z_zip : PySem.W.nsIn K mainGlobals "zip" = some none)
    (z_list : PySem.W.nsIn K mainGlobals "list" = some none)
    (z_abs : PySem.W.nsIn K mainGlobals "abs" = some none)
    (z_str : PySem.W.nsIn K mainGlobals "str" = some none)
    (z_int : PySem.W.nsIn K mainGlobals "int" = some none)
    (z_set : PySem.W.nsIn K mainGlobals "set" = some none)
    (z_bool : PySem.W.nsIn K mainGlobals "bool" = some none)
    (z_tuple : PySem.W.nsIn K mainGlobals "tuple" = some none)
    (g_GREATEST : PySem.W.nsIn K mainGlobals "GREATEST" = some (some (.int 1000000 t_GREATEST)))
    (g_MOST : PySem.W.nsIn K mainGlobals "MOST" = some (some (.int 1000000000 t_MOST))) :
    ∃ fd : FuncData, (∀ (s : Shared) (v : Value), BindsTo s fd ⟨[v], []⟩ [("_law_script", v)]) ∧ ∀ base : Heap, K.In base → base.Ns mainGlobals mg → FnOk l.prog w K mg base CX0 5 fa fd ["_law_script"] (spLaw K) := by
  have e := hfa.symm.trans (PySem.W.mg_of X G a17)
  cases e
  have F0 := fun_mk (st := s_is_whole) l0 c0 k0
  have R0 : Raw K mg "is_whole" s_is_whole ["thing"] := ⟨_, _, F0, PySem.W.mg_of X G a0, F0.binds fun _ _ _ _ _ _ us hl => match us, hl with | [_], _ => rfl⟩
  have F1 := fun_mk (st := s_is_share) l1 c1 k1
  have R1 : Raw K mg "is_share" s_is_share ["thing"] := ⟨_, _, F1, PySem.W.mg_of X G a1, F1.binds fun _ _ _ _ _ _ us hl => match us, hl with | [_], _ => rfl⟩
  have F2 := fun_mk (st := s_check_row) l2 c2 k2
  have R2 : Raw K mg "check_row" s_check_row ["row"] := ⟨_, _, F2, PySem.W.mg_of X G a2, F2.binds fun _ _ _ _ _ _ us hl => match us, hl with | [_], _ => rfl⟩
  have F3 := fun_mk (st := s_running) l3 c3 k3
  have R3 : Raw K mg "running" s_running ["shares"] := ⟨_, _, F3, PySem.W.mg_of X G a3, F3.binds fun _ _ _ _ _ _ us hl => match us, hl with | [_], _ => rfl⟩
  have F4 := fun_mk (st := s_over) l4 c4 k4
  have R4 : Raw K mg "over" s_over ["row", "mark"] := ⟨_, _, F4, PySem.W.mg_of X G a4, F4.binds fun _ _ _ _ _ _ us hl => match us, hl with | [_, _], _ => rfl⟩
  have F5 := fun_mk (st := s_check_amount) l5 c5 k5
  have R5 : Raw K mg "check_amount" s_check_amount ["amount"] := ⟨_, _, F5, PySem.W.mg_of X G a5, F5.binds fun _ _ _ _ _ _ us hl => match us, hl with | [_], _ => rfl⟩
  have F6 := fun_mk (st := s_level_of) l6 c6 k6
  have R6 : Raw K mg "level_of" s_level_of ["row", "amount"] := ⟨_, _, F6, PySem.W.mg_of X G a6, F6.binds fun _ _ _ _ _ _ us hl => match us, hl with | [_, _], _ => rfl⟩
  have F7 := fun_mk (st := s_lowered) l7 c7 k7
  have R7 : Raw K mg "lowered" s_lowered ["row", "amount"] := ⟨_, _, F7, PySem.W.mg_of X G a7, F7.binds fun _ _ _ _ _ _ us hl => match us, hl with | [_, _], _ => rfl⟩
  have F8 := fun_mk (st := s_checked) l8 c8 k8
  have R8 : Raw K mg "checked" s_checked ["row"] := ⟨_, _, F8, PySem.W.mg_of X G a8, F8.binds fun _ _ _ _ _ _ us hl => match us, hl with | [_], _ => rfl⟩
  have F9 := fun_mk (st := s_taken) l9 c9 k9
  have R9 : Raw K mg "taken" s_taken ["row", "amount"] := ⟨_, _, F9, PySem.W.mg_of X G a9, F9.binds fun _ _ _ _ _ _ us hl => match us, hl with | [_, _], _ => rfl⟩
  have F10 := fun_mk (st := s_poured) l10 c10 k10
  have R10 : Raw K mg "poured" s_poured ["row", "amount"] := ⟨_, _, F10, PySem.W.mg_of X G a10, F10.binds fun _ _ _ _ _ _ us hl => match us, hl with | [_, _], _ => rfl⟩
  have F11 := fun_mk (st := s_law_cell_at) l11 c11 k11
  have R11 : Raw K mg "_law_cell_at" s_law_cell_at ["_law_script", "_law_k"] := ⟨_, _, F11, PySem.W.mg_of X G a11, F11.binds fun _ _ _ _ _ _ us hl => match us, hl with | [_, _], _ => rfl⟩
  have F12 := fun_mk (st := s_law_draw) l12 c12 k12
  have R12 : Raw K mg "_law_draw" s_law_draw ["_law_cell", "_law_k", "_law_many"] := ⟨_, _, F12, PySem.W.mg_of X G a12, F12.binds fun _ _ _ _ _ _ us hl => match us, hl with | [_, _, _], _ => rfl⟩
  have F13 := fun_mk (st := s_law_row) l13 c13 k13
  have R13 : Raw K mg "_law_row" s_law_row ["_law_script"] := ⟨_, _, F13, PySem.W.mg_of X G a13, F13.binds fun _ _ _ _ _ _ us hl => match us, hl with | [_], _ => rfl⟩
  have F14 := fun_mk (st := s_law_numbers) l14 c14 k14
  have R14 : Raw K mg "_law_numbers" s_law_numbers ["_law_found", "_law_many"] := ⟨_, _, F14, PySem.W.mg_of X G a14, F14.binds fun _ _ _ _ _ _ us hl => match us, hl with | [_, _], _ => rfl⟩
  have F15 := fun_mk (st := s_law_lowered) l15 c15 k15
  have R15 : Raw K mg "_law_lowered" s_law_lowered ["_law_row_here", "_law_found", "_law_amount"] := ⟨_, _, F15, PySem.W.mg_of X G a15, F15.binds fun _ _ _ _ _ _ us hl => match us, hl with | [_, _, _], _ => rfl⟩
  have F16 := fun_mk (st := s_law_one_less) l16 c16 k16
  have R16 : Raw K mg "_law_one_less" s_law_one_less ["_law_row_here"] := ⟨_, _, F16, PySem.W.mg_of X G a16, F16.binds fun _ _ _ _ _ _ us hl => match us, hl with | [_], _ => rfl⟩
  have F17 := fun_mk (st := s_law) l17 c17 k17
  have T : Txt K mg := ⟨PySem.W.mg_none_of X G z_len, PySem.W.mg_none_of X G z_all, PySem.W.mg_none_of X G z_any, PySem.W.mg_none_of X G z_sum, PySem.W.mg_none_of X G z_max, PySem.W.mg_none_of X G z_min, PySem.W.mg_none_of X G z_sorted, PySem.W.mg_none_of X G z_isinstance, PySem.W.mg_none_of X G z_range, PySem.W.mg_none_of X G z_reversed, PySem.W.mg_none_of X G z_zip, PySem.W.mg_none_of X G z_list, PySem.W.mg_none_of X G z_abs, PySem.W.mg_none_of X G z_str, PySem.W.mg_none_of X G z_int, PySem.W.mg_none_of X G z_set, PySem.W.mg_none_of X G z_bool, PySem.W.mg_none_of X G z_tuple, ⟨_, PySem.W.mg_of X G g_GREATEST⟩, ⟨_, PySem.W.mg_of X G g_MOST⟩⟩
  refine ⟨PySem.W.fnOf "law" "law" (defArgs s_law) (defBody s_law) (defScope s_law) .none kV17 dc17 pm17 an17 cd17 ct17, fun s v => .of_eq rfl, fun base _ _ => ?_⟩
  have d_is_whole := def_is_whole (P := l.prog) (w := w) (base := base) R0 T
  have d_is_share := def_is_share (P := l.prog) (w := w) (base := base) R1 T d_is_whole
  have d_check_row := def_check_row (P := l.prog) (w := w) (base := base) R2 T d_is_share
  have d_running := def_running (P := l.prog) (w := w) (base := base) R3 T
  have d_over := def_over (P := l.prog) (w := w) (base := base) R4 T
  have d_check_amount := def_check_amount (P := l.prog) (w := w) (base := base) R5 T d_is_whole
  have d_level_of := def_level_of (P := l.prog) (w := w) (base := base) R6 T d_running
  have d_lowered := def_lowered (P := l.prog) (w := w) (base := base) R7 T d_level_of d_over
  have d_checked := def_checked (P := l.prog) (w := w) (base := base) R8 T d_is_share
  have d_taken := def_taken (P := l.prog) (w := w) (base := base) R9 T d_check_row d_check_amount d_lowered d_checked
  have d_poured := def_poured (P := l.prog) (w := w) (base := base) R10 T d_check_row d_check_amount d_lowered d_checked
  have d_law_cell_at := def_law_cell_at (P := l.prog) (w := w) (base := base) R11 T
  have d_law_draw := def_law_draw (P := l.prog) (w := w) (base := base) R12 T
  have d_law_row := def_law_row (P := l.prog) (w := w) (base := base) R13 T d_law_cell_at d_law_draw
  have d_law_numbers := def_law_numbers (P := l.prog) (w := w) (base := base) R14 T
  have d_law_lowered := def_law_lowered (P := l.prog) (w := w) (base := base) R15 T d_law_numbers
  have d_law_one_less := def_law_one_less (P := l.prog) (w := w) (base := base) R16 T
  exact ok_law F17 T d_law_cell_at d_law_draw d_law_row d_law_lowered d_law_one_less d_taken d_poured
theorem walk {l : PySem.W.OpenLaw} {q : Program} {loose : List Str} {XP : (Str → Option Value) → Heap → Prop} {YP : World → Heap → Prop} {d : DefRec} {K : Params → PySem.W.Frag} (hn : l.most = some 63) (hdf : d.params.defaults = [])
    (hY : ∀ (w : World) (h : Heap), YP w h → (K w.params).In h)
    (F : ∀ (w : World) (mg : Str → Option Value) (fa : Addr) (h : Heap), (K w.params).In h → h.Ns mainGlobals mg → mg d.name = some (.ref fa) →
      ∃ fd : FuncData, (∀ (s : Shared) (u : Value), BindsTo s fd ⟨[u], []⟩ [("_law_script", u)]) ∧ ∀ base : Heap, (K w.params).In base → base.Ns mainGlobals mg → FnOk l.prog w (K w.params) mg base CX0 5 fa fd ["_law_script"] (spLaw (K w.params))) :
    PySem.W.WalkO q loose XP YP l.row.toRowW d [] (fun f vs => PySem.call f vs) :=
  L2.walk_of (n := 63) (k := 5) (x := "_law_script") (CX := fun _ => CX0) (sp := fun w => spLaw (K w.params)) hn (by decide) hdf ⟨rfl, by decide, by decide⟩ hY F (fun _ _ a ns hl _ hS => ⟨a, ns, rfl, hS, hl, fun _ => rfl⟩) fun _ _ _ _ _ z => z
end Ev
open PySem PySem.W PyProof.Rows in
set_option maxRecDepth 100000 in
set_option maxHeartbeats 0 in
theorem PySem.Challenge.cw_evenhand_k03_taken_and_given_holds : PySem.Challenge.rw_evenhand_k03_taken_and_given.Holds := by
  w_on; o_law; k_head; (case hw => w_witness2)
  k_fill
  refine Ev.walk (l := PySem.Challenge.rw_evenhand_k03_taken_and_given) rfl rfl (fun w h Y => PySem.W.kIn_of Y) ?F
  case F =>
    intro w mg fa h KX G hmg
    refine' Ev.all_mk KX G hmg ?a0 ?l0 ?c0 ?k0 ?a1 ?l1 ?c1 ?k1 ?a2 ?l2 ?c2 ?k2 ?a3 ?l3 ?c3 ?k3 ?a4 ?l4 ?c4 ?k4 ?a5 ?l5 ?c5 ?k5 ?a6 ?l6 ?c6 ?k6 ?a7 ?l7 ?c7 ?k7 ?a8 ?l8 ?c8 ?k8 ?a9 ?l9 ?c9 ?k9 ?a10 ?l10 ?c10 ?k10 ?a11 ?l11 ?c11 ?k11 ?a12 ?l12 ?c12 ?k12 ?a13 ?l13 ?c13 ?k13 ?a14 ?l14 ?c14 ?k14 ?a15 ?l15 ?c15 ?k15 ?a16 ?l16 ?c16 ?k16 ?a17 ?l17 ?c17 ?k17 ?z_len ?z_all ?z_any ?z_sum ?z_max ?z_min ?z_sorted ?z_isinstance ?z_range ?z_reversed ?z_zip ?z_list ?z_abs ?z_str ?z_int ?z_set ?z_bool ?z_tuple ?g_GREATEST ?g_MOST
    (case a0 => k_is)
    (case l0 => k_is)
    (case c0 => k_is)
    (case k0 => k_is)
    (case a1 => k_is)
    (case l1 => k_is)
    (case c1 => k_is)
    (case k1 => k_is)
    (case a2 => k_is)
    (case l2 => k_is)
    (case c2 => k_is)
    (case k2 => k_is)
    (case a3 => k_is)
    (case l3 => k_is)
    (case c3 => k_is)
    (case k3 => k_is)
    (case a4 => k_is)
    (case l4 => k_is)
    (case c4 => k_is)
    (case k4 => k_is)
    (case a5 => k_is)
    (case l5 => k_is)
    (case c5 => k_is)
    (case k5 => k_is)
    (case a6 => k_is)
    (case l6 => k_is)
    (case c6 => k_is)
    (case k6 => k_is)
    (case a7 => k_is)
    (case l7 => k_is)
    (case c7 => k_is)
    (case k7 => k_is)
    (case a8 => k_is)
    (case l8 => k_is)
    (case c8 => k_is)
    (case k8 => k_is)
    (case a9 => k_is)
    (case l9 => k_is)
    (case c9 => k_is)
    (case k9 => k_is)
    (case a10 => k_is)
    (case l10 => k_is)
    (case c10 => k_is)
    (case k10 => k_is)
    (case a11 => k_is)
    (case l11 => k_is)
    (case c11 => k_is)
    (case k11 => k_is)
    (case a12 => k_is)
    (case l12 => k_is)
    (case c12 => k_is)
    (case k12 => k_is)
    (case a13 => k_is)
    (case l13 => k_is)
    (case c13 => k_is)
    (case k13 => k_is)
    (case a14 => k_is)
    (case l14 => k_is)
    (case c14 => k_is)
    (case k14 => k_is)
    (case a15 => k_is)
    (case l15 => k_is)
    (case c15 => k_is)
    (case k15 => k_is)
    (case a16 => k_is)
    (case l16 => k_is)
    (case c16 => k_is)
    (case k16 => k_is)
    (case a17 => k_is)
    (case l17 => k_is)
    (case c17 => k_is)
    (case k17 => k_is)
    (case z_len => k_is)
    (case z_all => k_is)
    (case z_any => k_is)
    (case z_sum => k_is)
    (case z_max => k_is)
    (case z_min => k_is)
    (case z_sorted => k_is)
    (case z_isinstance => k_is)
    (case z_range => k_is)
    (case z_reversed => k_is)
    (case z_zip => k_is)
    (case z_list => k_is)
    (case z_abs => k_is)
    (case z_str => k_is)
    (case z_int => k_is)
    (case z_set => k_is)
    (case z_bool => k_is)
    (case z_tuple => k_is)
    (case g_GREATEST => k_is)
    (case g_MOST => k_is)

