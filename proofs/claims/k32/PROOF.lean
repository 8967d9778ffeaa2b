import PyProof.Rows.All
import Wide.All
import OpenK.AllK
import Wide.FinOn
import HandS.ForMost
import HandS.Wide
import HandS.IsInst
import HandS.TupAny
import HandS.TryOnly
import HandS.Style
import HandS.Conv
import HandS.Exc
import HandS.ExcIs
import HandS.ExcOwn
import HandS.ExcInit
import HandS.ExcField
import HandS.ClsMeth
import HandS.WordsExc
import KE.KExcIs
import PyProof.MaxThree
import HandS.SortRule
import HandS.TupLe
import PyProof.DictMoreH
import HandS.DictTup
import HandS.TupLen
import HandS.RevRange
import PySem.Challenge.RW_hostfields_k32_whole_no_plan_does_better
set_option Elab.async false
set_option linter.all false
set_option maxRecDepth 100000
set_option maxHeartbeats 4000000
/-! ## the engine: the readings, one step a lemma; «walk_at "go"» walks as far as it goes -/
namespace Hf
open PySem PySem.Spec PyProof.Rows L2
/-- every tracked object but the one at a is as it was -/
def But (a : Addr) (H H' : Hp) : Prop := ∀ b o, b ≠ a → H b = some o → H' b = some o
theorem But.same {a : Addr} {H H' : Hp} (e : Same H H') : But a H H' := fun b o _ h => e b o h
theorem But.refl (a : Addr) (H : Hp) : But a H H := fun _ _ _ h => h
theorem But.trans {a : Addr} {H H1 H2 : Hp} (x : But a H H1) (y : But a H1 H2) : But a H H2 := fun b o n h => y b o n (x b o n h)
theorem But.upd {a : Addr} {H H1 : Hp} {o : HO} (x : But a H H1) : But a H (upd H1 a o) := fun b u n h => by
  rw [upd_ne n]
  exact x b u n h
theorem But.new {a p : Addr} {H H1 : Hp} {o : HO} (x : But a H H1) (hp : H1 p = none) : But a H (L2.upd H1 p o) := fun b u n h => by
  have h1 := x b u n h
  rw [upd_ne (ne_of_none h1 hp)]
  exact h1
theorem But.to_same {a : Addr} {H H' : Hp} (x : But a H H') (n : H a = none) : Same H H' := fun b o h => x b o (ne_of_none h n) h
theorem Same.new {H : Hp} {p : Addr} {o : HO} (hp : H p = none) : Same H (upd H p o) := fun b u h => by
  rw [upd_ne (ne_of_none h hp)]
  exact h
theorem Same.newT {H0 H : Hp} {p : Addr} {o : HO} (e : Same H0 H) (hp : H p = none) : Same H0 (upd H p o) := e.trans (Same.new hp)
/-- a change at an object that H0 does not know -/
theorem Same.mut {H0 H : Hp} {p : Addr} {o : HO} (e : Same H0 H) (hp : H0 p = none) : Same H0 (upd H p o) := fun b u h => by
  rw [upd_ne (ne_of_none h hp)]
  exact e b u h
theorem Same.but {H0 H H1 : Hp} {p : Addr} (e : Same H0 H) (hp : H0 p = none) (x : But p H H1) : Same H0 H1 := fun b u h => x b u (ne_of_none h hp) (e b u h)
theorem Same.seqT {K : PySem.W.Frag} {H H' : Hp} {a : Addr} {xs : List V} (e : Same H H') (h : SqT K H a xs) : SqT K H' a xs := by
  rcases h with (h | ⟨o, h⟩) | h
  · exact .inl (.inl (e _ _ h))
  · exact .inl (.inr ⟨o, e _ _ h⟩)
  · exact .inr h
theorem But.seq {K : PySem.W.Frag} {H H' : Hp} {a b : Addr} {xs : List V} (e : But a H H') (n : b ≠ a) (h : SqL K H b xs) : SqL K H' b xs := by
  rcases h with (h | ⟨o, h⟩) | h
  · exact .inl (.inl (e _ _ n h))
  · exact .inl (.inr ⟨o, e _ _ n h⟩)
  · exact .inr h
theorem But.seqT {K : PySem.W.Frag} {H H' : Hp} {a b : Addr} {xs : List V} (e : But a H H') (n : b ≠ a) (h : SqT K H b xs) : SqT K H' b xs := by
  rcases h with (h | ⟨o, h⟩) | h
  · exact .inl (.inl (e _ _ n h))
  · exact .inl (.inr ⟨o, e _ _ n h⟩)
  · exact .inr h
/-- a guard: its way is barred where P is at hand -/
def Guard (_ : Prop) : Prop := True
theorem Guard.of {P : Prop} (_ : P) : Guard P := trivial
theorem lk_upd {H : Hp} {a b : Addr} {o u : HO} (n : b ≠ a) (h : H b = some u) : upd H a o b = some u := by
  rw [upd_ne n]
  exact h
theorem lk_new {H : Hp} {a b : Addr} {o u : HO} (n : H a = none) (h : H b = some u) : upd H a o b = some u := by
  rw [upd_ne (ne_of_none h n)]
  exact h
theorem lk_updG {H : Hp} {a b : Addr} {o u : HO} (_ : Guard (H a = none)) (n : b ≠ a) (h : H b = some u) : upd H a o b = some u := lk_upd n h
theorem lk_none {H H' : Hp} {a : Addr} (e : Same H H') (n : H' a = none) : H a = none := e.free n
theorem lkL_new {K : PySem.W.Frag} {H : Hp} {a b : Addr} {o : HO} {xs : List V} (n : H a = none) (h : SqL K H b xs) : SqL K (upd H a o) b xs := (Same.new n).seq h
theorem lkT_new {K : PySem.W.Frag} {H : Hp} {a b : Addr} {o : HO} {xs : List V} (n : H a = none) (h : SqT K H b xs) : SqT K (upd H a o) b xs := Same.seqT (Same.new n) h
theorem lkL_upd {K : PySem.W.Frag} {H : Hp} {a b : Addr} {o : HO} {xs : List V} (n : b ≠ a) (h : SqL K H b xs) : SqL K (upd H a o) b xs := But.seq (But.upd (But.refl a H)) n h
theorem lkT_upd {K : PySem.W.Frag} {H : Hp} {a b : Addr} {o : HO} {xs : List V} (n : b ≠ a) (h : SqT K H b xs) : SqT K (upd H a o) b xs := But.seqT (But.upd (But.refl a H)) n h
theorem lkL_updG {K : PySem.W.Frag} {H : Hp} {a b : Addr} {o : HO} {xs : List V} (_ : Guard (H a = none)) (n : b ≠ a) (h : SqL K H b xs) : SqL K (upd H a o) b xs := lkL_upd n h
theorem lkT_updG {K : PySem.W.Frag} {H : Hp} {a b : Addr} {o : HO} {xs : List V} (_ : Guard (H a = none)) (n : b ≠ a) (h : SqT K H b xs) : SqT K (upd H a o) b xs := lkT_upd n h
theorem ne_new {H : Hp} {a b : Addr} {o : HO} (n : H b = none) (h : H a = some o) : a ≠ b := ne_of_none h n
theorem ne_new' {H : Hp} {a b : Addr} {o : HO} (n : H b = none) (h : H a = some o) : b ≠ a := (ne_of_none h n).symm
theorem ne_at {α : Type} {a b : α} (h : a ≠ b) : b ≠ a := h.symm
/-! ### sizes -/
theorem sz4 {n : Nat} (h : n ≤ 1000000) : n ≤ sizeLine := Nat.le_trans h (by decide)
theorem sz4' {n : Nat} (h : n ≤ 1000000) : n < sizeLine := Nat.lt_of_le_of_lt h (by decide)
/-! ### two operators, wider -/
def CMulA (i j : Int) : Prop := CMul i j ∨ CMulW i j
theorem CMulA.ok {i j : Int} (h : CMulA i j) : IntMulOk i j := h.elim CMul.ok CMulW.ok
theorem op_mulA {X : Cx} : OpR X (binaryOp .Mult) (rI CMulA fun i j => .int (i * j)) := opI fun _ _ _ _ _ _ _ hc q => mul_int q hc.ok
def CDivA (_ j : Int) : Prop := j ≠ 0 ∧ j.natAbs.log2 < 9000
theorem op_fdivA {X : Cx} : OpR X (binaryOp .FloorDiv) (rI CDivA fun i j => .int (i.fdiv j)) := opI fun _ _ _ _ _ _ _ hc q => floordiv_int hc.1 q (.inl (PyProof.noPylong_of_log2 hc.2))
theorem mulL {i j : Int} (h : -(2 ^ 64) < i ∧ i < 2 ^ 64) : CMulA i j := .inl (.inl h)
theorem mulR {i j : Int} (h : -(2 ^ 64) < j ∧ j < 2 ^ 64) : CMulA i j := .inl (.inr h)
theorem log_lt {j : Int} {b : Nat} (h : j.natAbs < 2 ^ b) (h0 : 0 < b) (h9 : b ≤ 9000) : j.natAbs.log2 < 9000 := Nat.lt_of_lt_of_le (PySem.Flt.log2_lt_of h0 h) h9
theorem log_small {j : Int} (h : -(2 ^ 200) < j ∧ j < 2 ^ 200) : j.natAbs.log2 < 9000 := log_lt (b := 200) (by omega) (by decide) (by decide)
theorem mulW {i j : Int} {a b : Nat} (ha : i.natAbs < 2 ^ a) (hb : j.natAbs < 2 ^ b) (h0 : 0 < a) (h1 : 0 < b) (h : a + b ≤ 1000000) : CMulA i j := .inr (wide_mul ha hb h0 h1 h)
theorem divS {i j : Int} (h0 : j ≠ 0) (h : -(2 ^ 200) < j ∧ j < 2 ^ 200) : CDivA i j := ⟨h0, log_small h⟩
/-! ### the steps -/
section
variable {σ σ' : L2.St} {H : Hp} {Q : VK} {x y v : V} {i j : Int} {n : Nat} {nx bk ct : L2.St → Hp → Prop} {rt : VK} {K : PySem.W.Frag} {a p : Addr} {xs : List V}
theorem start_to {N : List Str} {vs : List V} {t : TS} {D : Ends} (e : start N vs = σ) (h : t D σ H) : t D (start N vs) H := by
  rw [e]
  exact h
theorem i_ends {t : TS} {rt : VK} (h : t ⟨fun _ H' => rt .non H', rt, fun _ _ => False, fun _ _ => False⟩ σ H) : t { nx := fun _ H' => rt .non H', rt := rt } σ H := h
theorem i_seq {t u : TS} (h : t ⟨u ⟨nx, rt, bk, ct⟩, rt, bk, ct⟩ σ H) : tSeq t u ⟨nx, rt, bk, ct⟩ σ H := h
theorem i_asg {te : TE} {g : TG} (h : te σ H fun x H1 => g x σ H1 nx) : tAsg te g ⟨nx, rt, bk, ct⟩ σ H := h
theorem i_gname {k : Nat} {Z : L2.St → Hp → Prop} (e : σ.set k (some v) = σ') (q : Z σ' H) : gName k v σ H Z := by
  subst e
  exact q
theorem i_ret {te : TE} (h : te σ H rt) : tRet te ⟨nx, rt, bk, ct⟩ σ H := h
theorem i_retN (h : rt .non H) : tRetN ⟨nx, rt, bk, ct⟩ σ H := h
theorem i_next (h : nx σ H) : tNext ⟨nx, rt, bk, ct⟩ σ H := h
theorem i_brk (h : bk σ H) : tBreak ⟨nx, rt, bk, ct⟩ σ H := h
theorem i_cnt (h : ct σ H) : tCont ⟨nx, rt, bk, ct⟩ σ H := h
theorem i_drop {te : TE} (h : te σ H fun _ H1 => nx σ H1) : tDrop te ⟨nx, rt, bk, ct⟩ σ H := h
theorem i_ifs {c : TT} {t u : TS} (h : c σ H fun b H1 => if b = true then t ⟨nx, rt, bk, ct⟩ σ H1 else u ⟨nx, rt, bk, ct⟩ σ H1) : tIfS c t u ⟨nx, rt, bk, ct⟩ σ H := h
theorem i_var {k : Nat} (h : σ[k]? = some (some v)) (q : Q v H) : tVar k σ H Q := ⟨v, h, q⟩
theorem i_c (q : Q v H) : tC v σ H Q := q
theorem i_op {r : R2} {ta tb : TE} (h : ta σ H fun x H1 => tb σ H1 fun y H2 => r x y H2 Q) : tOp r ta tb σ H Q := h
theorem i_un {r : V → Hp → VK → Prop} {ta : TE} (h : ta σ H fun x H1 => r x H1 Q) : tUn r ta σ H Q := h
theorem i_I0 {g : Int → Int → V} (q : Q (g i j) H) : rI0 g (.int i) (.int j) H Q := ⟨i, j, rfl, rfl, q⟩
theorem i_I {C : Int → Int → Prop} {g : Int → Int → V} (c : C i j) (q : Q (g i j) H) : rI C g (.int i) (.int j) H Q := ⟨i, j, rfl, rfl, c, q⟩
theorem i_pow {m : Int} (c : CPow i j) (e : i ^ j.toNat = m) (q : Q (.int m) H) : rI CPow (fun i j => .int (i ^ j.toNat)) (.int i) (.int j) H Q := ⟨i, j, rfl, rfl, c, by
  show Q (.int (i ^ j.toNat)) H
  rw [e]
  exact q⟩
theorem i_U {g : Int → V} (q : Q (g i) H) : rU g (.int i) H Q := ⟨i, rfl, q⟩
theorem i_eqI (q : Q (.bl (decide (i = j))) H) : rEq (.int i) (.int j) H Q := ⟨rfl, by
  have e : decide (V.int i = V.int j) = decide (i = j) := by
    by_cases h : i = j
    · rw [decide_eq_true h, decide_eq_true (congrArg V.int h)]
    · rw [decide_eq_false h, decide_eq_false fun z => h (V.int.inj z)]
  rw [e]
  exact q⟩
theorem i_neI (q : Q (.bl (!decide (i = j))) H) : rNe (.int i) (.int j) H Q := ⟨rfl, by
  have e : decide (V.int i = V.int j) = decide (i = j) := by
    by_cases h : i = j
    · rw [decide_eq_true h, decide_eq_true (congrArg V.int h)]
    · rw [decide_eq_false h, decide_eq_false fun z => h (V.int.inj z)]
  rw [e]
  exact q⟩
theorem i_eqB {c d : Bool} (q : Q (.bl (c == d)) H) : rEq (.bl c) (.bl d) H Q := ⟨rfl, by
  rw [dec_bl]
  exact q⟩
theorem i_neB {c d : Bool} (q : Q (.bl (!(c == d))) H) : rNe (.bl c) (.bl d) H Q := ⟨rfl, by
  rw [dec_bl]
  exact q⟩
theorem i_eqS {c d : Str} (q : Q (.bl (c == d)) H) : rEq (.str c) (.str d) H Q := ⟨rfl, by
  rw [dec_str]
  exact q⟩
theorem i_neS {c d : Str} (q : Q (.bl (!(c == d))) H) : rNe (.str c) (.str d) H Q := ⟨rfl, by
  rw [dec_str]
  exact q⟩
theorem i_test {te : TE} {P : Bool → Hp → Prop} (h : te σ H fun x H1 => ∃ k, x = .bl k ∧ P k H1) : tTest te σ H P := h
theorem i_B {te : TE} {P : Bool → Hp → Prop} (h : te σ H fun x H1 => ∃ k, x = .bl k ∧ P k H1) : tB te σ H P := h
theorem i_bl {b : Bool} {P : Bool → Prop} (q : P b) : ∃ k, V.bl b = .bl k ∧ P k := ⟨b, rfl, q⟩
theorem i_and {t u : TT} {P : Bool → Hp → Prop} (h : t σ H fun c H1 => if c = true then u σ H1 P else P false H1) : tAnd t u σ H P := h
theorem i_or {t u : TT} {P : Bool → Hp → Prop} (h : t σ H fun c H1 => if c = true then P true H1 else u σ H1 P) : tOr t u σ H P := h
theorem i_not {t : TT} {P : Bool → Hp → Prop} (h : t σ H fun c H1 => P (!c) H1) : tNot t σ H P := h
theorem i_andV {ta tb : TE} (h : ta σ H fun x H1 => ∃ c, x = .bl c ∧ if c = true then tb σ H1 Q else Q (.bl false) H1) : tAndV ta tb σ H Q := h
theorem i_orV {ta tb : TE} (h : ta σ H fun x H1 => ∃ c, x = .bl c ∧ if c = true then Q (.bl true) H1 else tb σ H1 Q) : tOrV ta tb σ H Q := h
theorem i_notV {ta : TE} (h : ta σ H fun x H1 => ∃ c, x = .bl c ∧ Q (.bl (!c)) H1) : tNotV ta σ H Q := h
theorem i_ife {t : TT} {ta tb : TE} (h : t σ H fun c H1 => if c = true then ta σ H1 Q else tb σ H1 Q) : tIf t ta tb σ H Q := h
theorem i_call {sp : Sp} {E : XK} {t : TA} (h : t σ H fun vs H1 => sp vs H1 Q E) : tCall sp [] E t σ H Q := by
  have e : (fun vs H1 => sp (vs ++ []) H1 Q E) = fun vs H1 => sp vs H1 Q E := by
    funext vs H1
    rw [List.append_nil]
  show t σ H (fun vs H1 => sp (vs ++ []) H1 Q E)
  rw [e]
  exact h
theorem i_cb {r : List V → Hp → VK → Prop} {t : TA} (h : t σ H fun vs H1 => r vs H1 Q) : tCB r t σ H Q := h
theorem i_nil {P : List V → Hp → Prop} (q : P [] H) : tNil σ H P := q
theorem i_cons {ta : TE} {tr : TA} {P : List V → Hp → Prop} (h : ta σ H fun x H1 => tr σ H1 fun xs H2 => P (x :: xs) H2) : tCons ta tr σ H P := h
theorem i_tup {t : TA} (h : t σ H fun xs H1 => xs.length ≤ sizeLine ∧ ∀ p, H1 p = none → Q (.ref p) (upd H1 p (.tup xs))) : tTup t σ H Q := h
theorem i_lst {t : TA} (h : t σ H fun xs H1 => xs.length ≤ sizeLine ∧ ∀ p, H1 p = none → Q (.ref p) (upd H1 p (.lst xs))) : tLst t σ H Q := h
theorem i_new {R : Addr → Prop} (hz : xs.length ≤ sizeLine) (q : ∀ p, H p = none → R p) : xs.length ≤ sizeLine ∧ ∀ p, H p = none → R p := ⟨hz, q⟩
theorem i_ixL (h : SqL K H p xs) (e : atI xs i = some v) (q : Q v H) : rIxL K (.ref p) (.int i) H Q := ⟨p, xs, i, v, rfl, rfl, h, e, q⟩
theorem i_ixT (h : SqT K H p xs) (e : atI xs i = some v) (q : Q v H) : rIxT K (.ref p) (.int i) H Q := ⟨p, xs, i, v, rfl, rfl, h, e, q⟩
theorem at_lt {α : Type} {xs : List α} {i : Int} (h0 : 0 ≤ i) (h1 : i < xs.length) : ∃ v, atI xs i = some v ∧ xs[i.toNat]? = some v := by
  have hk : i.toNat < xs.length := by omega
  refine ⟨xs[i.toNat], ?_, List.getElem?_eq_getElem hk⟩
  have e := atI_nat (xs := xs) (j := i.toNat) (v := xs[i.toNat]) (List.getElem?_eq_getElem hk)
  rw [Int.toNat_of_nonneg h0] at e
  exact e
/-- an item at an open place: one of those written -/
theorem i_ix2 {y1 y2 : V} (h : SqL K H p [y1, y2]) (h0 : 0 ≤ i) (h1 : i < 2) (q : ∀ v, v = y1 ∨ v = y2 → Q v H) : rIxL K (.ref p) (.int i) H Q := by
  rcases (by omega : i = 0 ∨ i = 1) with e | e <;> subst e
  · exact ⟨p, _, _, y1, rfl, rfl, h, rfl, q _ (.inl rfl)⟩
  · exact ⟨p, _, _, y2, rfl, rfl, h, rfl, q _ (.inr rfl)⟩
theorem i_ix2I {y1 y2 : Int} (h : SqL K H p [.int y1, .int y2]) (h0 : 0 ≤ i) (h1 : i < 2) (q : ∀ v, v = y1 ∨ v = y2 → Q (.int v) H) : rIxL K (.ref p) (.int i) H Q := by
  rcases (by omega : i = 0 ∨ i = 1) with e | e <;> subst e
  · exact ⟨p, _, _, .int y1, rfl, rfl, h, rfl, q _ (.inl rfl)⟩
  · exact ⟨p, _, _, .int y2, rfl, rfl, h, rfl, q _ (.inr rfl)⟩
theorem i_ix3I {y1 y2 y3 : Int} (h : SqL K H p [.int y1, .int y2, .int y3]) (h0 : 0 ≤ i) (h1 : i < 3) (q : ∀ v, v = y1 ∨ v = y2 ∨ v = y3 → Q (.int v) H) : rIxL K (.ref p) (.int i) H Q := by
  rcases (by omega : i = 0 ∨ i = 1 ∨ i = 2) with e | e | e <;> subst e
  · exact ⟨p, _, _, .int y1, rfl, rfl, h, rfl, q _ (.inl rfl)⟩
  · exact ⟨p, _, _, .int y2, rfl, rfl, h, rfl, q _ (.inr (.inl rfl))⟩
  · exact ⟨p, _, _, .int y3, rfl, rfl, h, rfl, q _ (.inr (.inr rfl))⟩
theorem i_ix4I {y1 y2 y3 y4 : Int} (h : SqL K H p [.int y1, .int y2, .int y3, .int y4]) (h0 : 0 ≤ i) (h1 : i < 4) (q : ∀ v, v = y1 ∨ v = y2 ∨ v = y3 ∨ v = y4 → Q (.int v) H) : rIxL K (.ref p) (.int i) H Q := by
  rcases (by omega : i = 0 ∨ i = 1 ∨ i = 2 ∨ i = 3) with e | e | e | e <;> subst e
  · exact ⟨p, _, _, .int y1, rfl, rfl, h, rfl, q _ (.inl rfl)⟩
  · exact ⟨p, _, _, .int y2, rfl, rfl, h, rfl, q _ (.inr (.inl rfl))⟩
  · exact ⟨p, _, _, .int y3, rfl, rfl, h, rfl, q _ (.inr (.inr (.inl rfl)))⟩
  · exact ⟨p, _, _, .int y4, rfl, rfl, h, rfl, q _ (.inr (.inr (.inr rfl)))⟩
theorem i_ix3R {y1 y2 y3 : Addr} (h : SqL K H p [.ref y1, .ref y2, .ref y3]) (h0 : 0 ≤ i) (h1 : i < 3) (q : ∀ v, v = y1 ∨ v = y2 ∨ v = y3 → Q (.ref v) H) : rIxL K (.ref p) (.int i) H Q := by
  rcases (by omega : i = 0 ∨ i = 1 ∨ i = 2) with e | e | e <;> subst e
  · exact ⟨p, _, _, .ref y1, rfl, rfl, h, rfl, q _ (.inl rfl)⟩
  · exact ⟨p, _, _, .ref y2, rfl, rfl, h, rfl, q _ (.inr (.inl rfl))⟩
  · exact ⟨p, _, _, .ref y3, rfl, rfl, h, rfl, q _ (.inr (.inr rfl))⟩
theorem i_ix4R {y1 y2 y3 y4 : Addr} (h : SqL K H p [.ref y1, .ref y2, .ref y3, .ref y4]) (h0 : 0 ≤ i) (h1 : i < 4) (q : ∀ v, v = y1 ∨ v = y2 ∨ v = y3 ∨ v = y4 → Q (.ref v) H) : rIxL K (.ref p) (.int i) H Q := by
  rcases (by omega : i = 0 ∨ i = 1 ∨ i = 2 ∨ i = 3) with e | e | e | e <;> subst e
  · exact ⟨p, _, _, .ref y1, rfl, rfl, h, rfl, q _ (.inl rfl)⟩
  · exact ⟨p, _, _, .ref y2, rfl, rfl, h, rfl, q _ (.inr (.inl rfl))⟩
  · exact ⟨p, _, _, .ref y3, rfl, rfl, h, rfl, q _ (.inr (.inr (.inl rfl)))⟩
  · exact ⟨p, _, _, .ref y4, rfl, rfl, h, rfl, q _ (.inr (.inr (.inr rfl)))⟩
theorem i_gtup {m : Nat} {t : TGs} {Z : L2.St → Hp → Prop} (h : SqT K H p xs) (e : xs.length = m) (q : t xs σ H Z) : gTup K m t (.ref p) σ H Z := ⟨p, xs, rfl, h, e, q⟩
theorem i_gtupL {m : Nat} {t : TGs} {Z : L2.St → Hp → Prop} (h : SqT K H p xs) (e : xs.length = m) (q : t xs σ H Z) : gTup K m t (.ref p) σ H Z := ⟨p, xs, rfl, h, e, q⟩
theorem i_gcons {t : TG} {u : TGs} {r : List V} {Z : L2.St → Hp → Prop} (h : t v σ H fun σ1 H1 => u r σ1 H1 Z) : gCons t u (v :: r) σ H Z := ⟨v, r, rfl, h⟩
theorem i_gnil {Z : L2.St → Hp → Prop} (h : Z σ H) : gNil [] σ H Z := ⟨rfl, h⟩
theorem i_gsub {to ti : TE} {t : TSet} {Z : L2.St → Hp → Prop} (h : to σ H fun o H1 => ti σ H1 fun i H2 => t o i v H2 fun H3 => Z σ H3) : gSub to ti t v σ H Z := h
theorem i_setL {k : Nat} {Z : Hp → Prop} (h : H p = some (.lst xs)) (e : ixN xs.length i = some k) (q : Z (upd H p (.lst (xs.set k v)))) : rSetL (.ref p) (.int i) v H Z := ⟨p, xs, i, k, rfl, rfl, h, e, q⟩
def par2 (k1 k2 : Nat) (σ : L2.St) (Z : L2.St → Hp → Prop) : List V → Hp → Prop := fun vs H1 => ∃ v w, vs = [v, w] ∧ Z ((σ.set k1 (some v)).set k2 (some w)) H1
theorem i_par {k1 k2 : Nat} {ta : TA} (h : ta σ H (par2 k1 k2 σ nx)) : tPar k1 k2 ta ⟨nx, rt, bk, ct⟩ σ H := h
theorem i_par2 {k1 k2 : Nat} {w : V} {Z : L2.St → Hp → Prop} (e : (σ.set k1 (some v)).set k2 (some w) = σ') (q : Z σ' H) : par2 k1 k2 σ Z [v, w] H := by
  subst e
  exact ⟨v, w, rfl, q⟩
theorem i_aug {k : Nat} {te : TE} {ti : TIp} (h : σ[k]? = some (some x)) (q : te σ H fun y H1 => ti x y H1 fun z H2 => gName k z σ H2 nx) : tAug k te ti ⟨nx, rt, bk, ct⟩ σ H := ⟨x, h, q⟩
theorem i_ip {f : Int → Int → Int} (q : Q (.int (f i j)) H) : ipI f (.int i) (.int j) H Q := ⟨i, j, rfl, rfl, q⟩
theorem i_for {wi : TI} {g : TG} {tb : TS} (h : wi σ H fun J H1 => ∃ W : Nat → Nat → L2.St → Hp → Prop, (∃ m, W 0 m σ H1) ∧ ∀ i m σ H, W i m σ H →
  (J.stop i H ∧ nx σ H) ∨ (J.go i H ∧ ∃ N : L2.St → Hp → Prop, (∀ σ' H', N σ' H' → ∃ m', m' < m ∧ W (i + 1) m' σ' H') ∧ ∀ x H', J.yld i H x H' → g x σ H' fun σ2 H2 => tb ⟨N, rt, nx, N⟩ σ2 H2)) : tFor wi g tb ⟨nx, rt, bk, ct⟩ σ H := h
theorem i_rng1 {ta : TA} {R : It → Hp → Prop} (h : ta σ H fun vs H1 => ∃ j : Int, vs = [.int j] ∧ -(2 ^ 62) ≤ j ∧ j < 2 ^ 62 ∧ R (Itr 0 j.toNat) H1) : iRng1 ta σ H R := h
theorem i_rng1' {R : Int → Prop} (h1 : -(2 ^ 62) ≤ j) (h2 : j < 2 ^ 62) (q : R j) : ∃ j' : Int, [V.int j] = [.int j'] ∧ -(2 ^ 62) ≤ j' ∧ j' < 2 ^ 62 ∧ R j' := ⟨j, rfl, h1, h2, q⟩
theorem i_rng2 {ta : TA} {R : It → Hp → Prop} (h : ta σ H fun vs H1 => ∃ i j : Int, vs = [.int i, .int j] ∧ (-(2 ^ 62) ≤ i ∧ i < 2 ^ 62 ∧ -(2 ^ 62) ≤ j ∧ j < 2 ^ 62) ∧ R (Itr i (j - i).toNat) H1) : iRng2 ta σ H R := h
theorem i_rng2' {R : Int → Int → Prop} (h : -(2 ^ 62) ≤ i ∧ i < 2 ^ 62 ∧ -(2 ^ 62) ≤ j ∧ j < 2 ^ 62) (q : R i j) : ∃ i' j' : Int, [V.int i, V.int j] = [.int i', .int j'] ∧ (-(2 ^ 62) ≤ i' ∧ i' < 2 ^ 62 ∧ -(2 ^ 62) ≤ j' ∧ j' < 2 ^ 62) ∧ R i' j' := ⟨i, j, rfl, h, q⟩
theorem i_ilist {tl : TE} {R : It → Hp → Prop} (h : tl σ H fun x H1 => ∃ a, x = .ref a ∧ (∃ xs, SqL K H1 a xs) ∧ R (Itl K a) H1) : iList K tl σ H R := h
theorem i_ilist' {R : Addr → Prop} (h : SqL K H p xs) (q : R p) : ∃ a, V.ref p = .ref a ∧ (∃ xs, SqL K H a xs) ∧ R a := ⟨p, rfl, ⟨xs, h⟩, q⟩
theorem i_itup {tl : TE} {R : It → Hp → Prop} (h : tl σ H fun x H1 => ∃ a, x = .ref a ∧ (∃ xs, SqT K H1 a xs) ∧ R (Itt K a) H1) : iTup K tl σ H R := h
theorem i_itup' {R : Addr → Prop} (h : SqT K H p xs) (q : R p) : ∃ a, V.ref p = .ref a ∧ (∃ xs, SqT K H a xs) ∧ R a := ⟨p, rfl, ⟨xs, h⟩, q⟩
/-- built-ins by values -/
theorem i_abs {R : Int → Prop} (q : R i) : ∃ i', [V.int i] = [.int i'] ∧ R i' := ⟨i, rfl, q⟩
theorem i_int2 {R : Int → Int → Prop} (q : R i j) : ∃ i' j', [V.int i, V.int j] = [.int i', .int j'] ∧ R i' j' := ⟨i, j, rfl, q⟩

theorem i_int1 {R : Int → Prop} {S : Prop} (q : R i) : (∃ i', [V.int i] = [.int i'] ∧ R i') ∨ S := .inl ⟨i, rfl, q⟩
theorem i_intb {b : Bool} {R : Bool → Prop} {S : Prop} (q : R b) : S ∨ ∃ k, [V.bl b] = [.bl k] ∧ R k := .inr ⟨b, rfl, q⟩
theorem i_lenL {R : List V → Prop} (h : SqL K H p xs) (q : R xs) : ∃ p' ys, [V.ref p] = [.ref p'] ∧ (SqL K H p' ys ∨ SqT K H p' ys) ∧ R ys := ⟨p, xs, rfl, .inl h, q⟩
theorem i_lenT {R : List V → Prop} (h : SqT K H p xs) (q : R xs) : ∃ p' ys, [V.ref p] = [.ref p'] ∧ (SqL K H p' ys ∨ SqT K H p' ys) ∧ R ys := ⟨p, xs, rfl, .inr h, q⟩
theorem i_isi {t : String} {c : String} {b : Bool} (ty : TyX K H x (.type t)) (h : kitB t c = some b) (q : Q (.bl b) H) : rIsi K [x, .ty c] H Q := ⟨x, .ty c, .type t, .type c, b, rfl, .ty c, ty, kit_ty h, q⟩
theorem i_append (h : H p = some (.lst xs)) (hz : xs.length < sizeLine) (q : Q .non (upd H p (.lst (xs ++ [v])))) : rAppend (.ref p) [v] H Q := ⟨p, xs, v, rfl, rfl, h, hz, q⟩
theorem i_appendM {H : Hp} {Q : VK} {p : Addr} {ms : List Int} {z : Int} (h : H p = some (.lst (ms.map V.int))) (hz : ms.length < sizeLine) (q : Q .non (upd H p (.lst ((ms ++ [z]).map V.int)))) : rAppend (.ref p) [.int z] H Q := ⟨p, _, _, rfl, rfl, h, by rw [List.length_map]; exact hz, by rw [List.map_append] at q; exact q⟩
theorem i_bm {T : String} {r : V → List V → Hp → VK → Prop} {to : TE} {t : TA} (h : to σ H fun x H1 => tyV K T x H1 ∧ t σ H1 fun xs H2 => r x xs H2 Q) : tBM K T r to t σ H Q := h
theorem i_bm0 {T : String} {r : V → List V → Hp → VK → Prop} {to : TE} (h : to σ H fun x H1 => tyV K T x H1 ∧ r x [] H1 Q) : tBM0 K T r to σ H Q := h
theorem i_bmL {A : Prop} (h : SqL K H p xs) (q : A) : tyV K "list" (.ref p) H ∧ A := ⟨.inl ⟨rfl, _, h⟩, q⟩
/-! ### ifs -/
theorem ite_d {p A B : Prop} {d : Decidable p} (h1 : p → A) (h2 : ¬ p → B) : if (@decide p d) = true then A else B := by
  by_cases h : p
  · rw [if_pos (decide_eq_true h)]
    exact h1 h
  · rw [if_neg (by rw [decide_eq_false h]; decide)]
    exact h2 h
theorem ite_nd {p A B : Prop} {d : Decidable p} (h1 : ¬ p → A) (h2 : p → B) : if (!(@decide p d)) = true then A else B := by
  by_cases h : p
  · rw [if_neg (by rw [decide_eq_true h]; decide)]
    exact h2 h
  · rw [if_pos (by rw [decide_eq_false h]; decide)]
    exact h1 h
theorem ite_b {b : Bool} {A B : Prop} (h1 : b = true → A) (h2 : b = false → B) : if b = true then A else B := by
  cases b
  · rw [if_neg (by decide)]
    exact h2 rfl
  · rw [if_pos rfl]
    exact h1 rfl
theorem ite_y {b : Bool} {A B : Prop} (e : b = true) (h : A) : if b = true then A else B := by
  rw [if_pos e]
  exact h
theorem ite_n {b : Bool} {A B : Prop} (e : b = false) (h : B) : if b = true then A else B := by
  rw [if_neg (by rw [e]; decide)]
  exact h
/-- both ways at once: what follows is asked of either -/
theorem ite_or {b : Bool} {R : Prop} {P : Bool → Prop} (h1 : b = true → P true → R) (h2 : b = false → P false → R) (hp : P b) : R := by
  cases b
  · exact h2 rfl hp
  · exact h1 rfl hp
end
end Hf
namespace Hf
open PySem PySem.Spec PyProof.Rows L2
theorem set_z {α : Type} {x y : α} {r : List α} : List.set (x :: r) 0 y = y :: r := rfl
theorem set_s {α : Type} {x y : α} {r r' : List α} {k : Nat} (h : List.set r k y = r') : List.set (x :: r) (k + 1) y = x :: r' := by
  rw [List.set_cons_succ, h]
theorem set_par {α : Type} {l l1 l2 : List α} {j k : Nat} {y z : α} (h1 : l.set j y = l1) (h2 : l1.set k z = l2) : (l.set j y).set k z = l2 := by
  rw [h1, h2]
theorem lk_same {H H' : Hp} {a : Addr} {o : HO} (e : Same H H') (h : H a = some o) : H' a = some o := e a o h
theorem lk_but {H H' : Hp} {a b : Addr} {o : HO} (e : But a H H') (n : b ≠ a) (h : H b = some o) : H' b = some o := e b o n h
end Hf

namespace Hf
open PySem PySem.Spec PyProof.Rows L2
/-! ### loops -/
section
variable {σ : L2.St} {H : Hp} {Q : VK} {nx bk ct : L2.St → Hp → Prop} {rt : VK} {K : PySem.W.Frag} {a : Addr} {xs : List V} {g : TG} {tb : TS} {lo : Int} {n : Nat}
theorem forR (Pv : Nat → L2.St → Hp → Prop) (h0 : Pv 0 σ H) (hd : ∀ σ H, Pv n σ H → nx σ H)
    (hs : ∀ (i : Nat) σ H, i < n → Pv i σ H → g (.int (lo + i)) σ H fun σ2 H2 => tb ⟨Pv (i + 1), rt, nx, Pv (i + 1)⟩ σ2 H2) :
    ∃ W : Nat → Nat → L2.St → Hp → Prop, (∃ m, W 0 m σ H) ∧ ∀ i m σ H, W i m σ H →
      ((Itr lo n).stop i H ∧ nx σ H) ∨ ((Itr lo n).go i H ∧ ∃ N : L2.St → Hp → Prop, (∀ σ' H', N σ' H' → ∃ m', m' < m ∧ W (i + 1) m' σ' H') ∧ ∀ x H', (Itr lo n).yld i H x H' → g x σ H' fun σ2 H2 => tb ⟨N, rt, nx, N⟩ σ2 H2) :=
  for_range (D := ⟨nx, rt, fun _ _ => False, fun _ _ => False⟩) Pv h0 hs hd
theorem forL (Pv : Nat → L2.St → Hp → Prop) (h0 : Pv 0 σ H) (hl : ∀ i σ H, i ≤ xs.length → Pv i σ H → SqL K H a xs) (hd : ∀ σ H, Pv xs.length σ H → nx σ H)
    (hs : ∀ i x σ H, xs[i]? = some x → Pv i σ H → g x σ H fun σ2 H2 => tb ⟨Pv (i + 1), rt, nx, Pv (i + 1)⟩ σ2 H2) :
    ∃ W : Nat → Nat → L2.St → Hp → Prop, (∃ m, W 0 m σ H) ∧ ∀ i m σ H, W i m σ H →
      ((Itl K a).stop i H ∧ nx σ H) ∨ ((Itl K a).go i H ∧ ∃ N : L2.St → Hp → Prop, (∀ σ' H', N σ' H' → ∃ m', m' < m ∧ W (i + 1) m' σ' H') ∧ ∀ x H', (Itl K a).yld i H x H' → g x σ H' fun σ2 H2 => tb ⟨N, rt, nx, N⟩ σ2 H2) :=
  for_list (D := ⟨nx, rt, fun _ _ => False, fun _ _ => False⟩) Pv h0 hl hs hd
theorem forT (Pv : Nat → L2.St → Hp → Prop) (h0 : Pv 0 σ H) (hl : ∀ i σ H, i ≤ xs.length → Pv i σ H → SqT K H a xs) (hd : ∀ σ H, Pv xs.length σ H → nx σ H)
    (hs : ∀ i x σ H, xs[i]? = some x → Pv i σ H → g x σ H fun σ2 H2 => tb ⟨Pv (i + 1), rt, nx, Pv (i + 1)⟩ σ2 H2) :
    ∃ W : Nat → Nat → L2.St → Hp → Prop, (∃ m, W 0 m σ H) ∧ ∀ i m σ H, W i m σ H →
      ((Itt K a).stop i H ∧ nx σ H) ∨ ((Itt K a).go i H ∧ ∃ N : L2.St → Hp → Prop, (∀ σ' H', N σ' H' → ∃ m', m' < m ∧ W (i + 1) m' σ' H') ∧ ∀ x H', (Itt K a).yld i H x H' → g x σ H' fun σ2 H2 => tb ⟨N, rt, nx, N⟩ σ2 H2) :=
  for_tup (D := ⟨nx, rt, fun _ _ => False, fun _ _ => False⟩) Pv h0 hl hs hd
/-- while: W by a measure; the test is read by hand, its two ways by turnW and the loop's end -/
theorem whileW {c : TT} (W : Nat → L2.St → Hp → Prop) (m : Nat) (h0 : W m σ H)
    (hs : ∀ m σ H, W m σ H → c σ H fun b H1 => if b = true then ∃ N : L2.St → Hp → Prop, (∀ σ' H', N σ' H' → ∃ m', m' < m ∧ W m' σ' H') ∧ tb ⟨N, rt, nx, N⟩ σ H1 else nx σ H1) : tWhile c tb ⟨nx, rt, bk, ct⟩ σ H :=
  ⟨W, ⟨m, h0⟩, hs⟩
theorem turnW {W : Nat → L2.St → Hp → Prop} {m : Nat} (h : tb ⟨fun σ' H' => ∃ m', m' < m ∧ W m' σ' H', rt, nx, fun σ' H' => ∃ m', m' < m ∧ W m' σ' H'⟩ σ H) :
    ∃ N : L2.St → Hp → Prop, (∀ σ' H', N σ' H' → ∃ m', m' < m ∧ W m' σ' H') ∧ tb ⟨N, rt, nx, N⟩ σ H := ⟨_, fun _ _ h => h, h⟩
end
theorem But.free {a p : Addr} {o : HO} {H H' : Hp} (hn : H' p = none) (e : But a H H') (ha : H' a = some o) : H p = none := by
  cases h : H p with
  | none => rfl
  | some u =>
    by_cases hp : p = a
    · rw [hp, ha] at hn
      cases hn
    · rw [e p u hp h] at hn
      cases hn
theorem Same.free' {p : Addr} {H H' : Hp} (hn : H' p = none) (e : Same H H') : H p = none := e.free hn
theorem But.newT {a p : Addr} {H H1 : Hp} {o : HO} (hp : H1 p = none) (x : But a H H1) : But a H (L2.upd H1 p o) := But.new x hp
theorem But.transT {a : Addr} {H H1 H2 : Hp} (y : But a H1 H2) (x : But a H H1) : But a H H2 := But.trans x y
theorem Same.transT {H H1 H2 : Hp} (y : Same H1 H2) (x : Same H H1) : Same H H2 := x.trans y
theorem Same.newT' {H H1 : Hp} {p : Addr} {o : HO} (hp : H1 p = none) (x : Same H H1) : Same H (upd H1 p o) := Same.newT x hp
theorem But.transS {a : Addr} {H H1 H2 : Hp} (y : Same H1 H2) (x : But a H H1) : But a H H2 := fun b o n h => y b o (x b o n h)
theorem Same.butT {H0 H H1 : Hp} {p : Addr} (x : But p H H1) (hp : H0 p = none) (e : Same H0 H) : Same H0 H1 := Same.but e hp x
/-! ### slices, sums of lists -/
theorem six_nn {n d : Nat} {k : Int} (h : 0 ≤ k) : HT.sIx n d (some k) = min k.toNat n := by
  obtain ⟨m, rfl⟩ := Int.eq_ofNat_of_zero_le h
  exact HT.sIx_nat n d m
theorem cut_to {xs : List V} {k : Int} (h : 0 ≤ k) : cutV xs none (some k) = xs.take k.toNat := by
  unfold cutV
  rw [six_nn h, HT.sIx_none, List.drop_zero, Nat.sub_zero]
  exact List.take_eq_take_iff.mpr (by omega)
theorem cut_from {xs : List V} {k : Int} (h : 0 ≤ k) : cutV xs (some k) none = xs.drop k.toNat := by
  unfold cutV
  rw [six_nn h, HT.sIx_none, List.take_of_length_le (by rw [List.length_drop]; omega)]
  by_cases c : k.toNat ≤ xs.length
  · rw [Nat.min_eq_left c]
  · rw [Nat.min_eq_right (show xs.length ≤ k.toNat by omega), List.drop_length, List.drop_eq_nil_of_le (show xs.length ≤ k.toNat by omega)]
theorem cut_mid {xs : List V} {j k : Int} (h : 0 ≤ j) (h' : 0 ≤ k) : cutV xs (some j) (some k) = (xs.drop j.toNat).take (k.toNat - j.toNat) := by
  unfold cutV
  rw [six_nn h, six_nn h']
  by_cases c : j.toNat ≤ xs.length
  · rw [Nat.min_eq_left c]
    refine List.take_eq_take_iff.mpr ?_
    rw [List.length_drop]
    omega
  · rw [Nat.min_eq_right (show xs.length ≤ j.toNat by omega), List.drop_length, List.drop_eq_nil_of_le (show xs.length ≤ j.toNat by omega), List.take_nil, List.take_nil]
section
variable {H : Hp} {Q : VK} {K : PySem.W.Frag} {p r : Addr} {xs ys : List V} {j k : Int} {lo hi : Option Int} {σ : L2.St}
theorem i_slTo (h : SqL K H p xs) (h0 : 0 ≤ k) (q : ∀ p', H p' = none → Q (.ref p') (upd H p' (.lst (xs.take k.toNat)))) : rSlL K (.ref p) none (some k) H Q := ⟨p, xs, rfl, h, by rw [cut_to h0]; exact q⟩
theorem i_slFrom (h : SqL K H p xs) (h0 : 0 ≤ k) (q : ∀ p', H p' = none → Q (.ref p') (upd H p' (.lst (xs.drop k.toNat)))) : rSlL K (.ref p) (some k) none H Q := ⟨p, xs, rfl, h, by rw [cut_from h0]; exact q⟩
theorem i_slMid (h : SqL K H p xs) (h0 : 0 ≤ j) (h1 : 0 ≤ k) (q : ∀ p', H p' = none → Q (.ref p') (upd H p' (.lst ((xs.drop j.toNat).take (k.toNat - j.toNat))))) : rSlL K (.ref p) (some j) (some k) H Q := ⟨p, xs, rfl, h, by rw [cut_mid h0 h1]; exact q⟩
theorem i_sl {R : V → Option Int → Option Int → Hp → VK → Prop} {te : TE} {tl th : TO} (h : te σ H fun x H1 => tl σ H1 fun l H2 => th σ H2 fun u H3 => R x l u H3 Q) : tSl R te tl th σ H Q := h
theorem i_nopart {P : Option Int → Hp → Prop} (q : P none H) : tNoPart σ H P := q
theorem i_part {te : TE} {P : Option Int → Hp → Prop} (h : te σ H fun x H1 => ∃ i, x = .int i ∧ P (some i) H1) : tPart te σ H P := h
theorem i_exint {i : Int} {R : Int → Prop} (q : R i) : ∃ i', V.int i = .int i' ∧ R i' := ⟨i, rfl, q⟩
theorem i_cat (h1 : H p = some (.lst xs)) (h2 : H r = some (.lst ys)) (hz : xs.length + ys.length ≤ sizeLine) (q : ∀ p', H p' = none → Q (.ref p') (upd H p' (.lst (xs ++ ys)))) : rCat (.ref p) (.ref r) H Q := ⟨p, r, xs, ys, rfl, rfl, h1, h2, hz, q⟩
theorem i_rep (h1 : H p = some (.lst xs)) (h2 : -(2 ^ 63) ≤ k ∧ k < 2 ^ 63) (hz : xs.length * k.toNat ≤ sizeLine) (q : ∀ p', H p' = none → Q (.ref p') (upd H p' (.lst (List.replicate k.toNat xs).flatten))) : rRep (.ref p) (.int k) H Q := ⟨p, k, xs, rfl, rfl, h1, h2.1, h2.2, hz, q⟩
theorem flat1 {α : Type} {x : α} : ∀ n : Nat, (List.replicate n [x]).flatten = List.replicate n x
  | 0 => rfl
  | n + 1 => by
    rw [List.replicate_succ, List.flatten_cons, flat1 n, List.replicate_succ]
    rfl
theorem i_rep1 {x : V} (h1 : H p = some (.lst [x])) (h2 : 0 ≤ k ∧ k ≤ 1000000) (q : ∀ p', H p' = none → Q (.ref p') (upd H p' (.lst (List.replicate k.toNat x)))) : rRep (.ref p) (.int k) H Q :=
  i_rep h1 (by omega) (sz4 (by show 1 * k.toNat ≤ 1000000; omega)) (by rw [flat1]; exact q)
end
/-- an if whose two ways meet: what holds behind it -/
theorem if_join {σ : L2.St} {H : Hp} {nx bk ct : L2.St → Hp → Prop} {rt : VK} {c : TT} {t u : TS} (P : L2.St → Hp → Prop) (h : ∀ nx' : L2.St → Hp → Prop, (∀ σ' H', P σ' H' → nx' σ' H') → tIfS c t u ⟨nx', rt, bk, ct⟩ σ H)
    (cont : ∀ σ' H', P σ' H' → nx σ' H') : tIfS c t u ⟨nx, rt, bk, ct⟩ σ H := h nx cont
/-- any statement, cut behind it -/
theorem st_join {σ : L2.St} {H : Hp} {nx bk ct : L2.St → Hp → Prop} {rt : VK} {t : TS} (P : L2.St → Hp → Prop) (h : ∀ nx' : L2.St → Hp → Prop, (∀ σ' H', P σ' H' → nx' σ' H') → t ⟨nx', rt, bk, ct⟩ σ H)
    (cont : ∀ σ' H', P σ' H' → nx σ' H') : t ⟨nx, rt, bk, ct⟩ σ H := h nx cont
theorem ints_at {ms : List Int} {i : Nat} {x : V} (h : (ms.map V.int)[i]? = some x) : ∃ z, x = .int z ∧ ms[i]? = some z := by
  rw [List.getElem?_map] at h
  cases e : ms[i]? with
  | none =>
    rw [e] at h
    cases h
  | some z =>
    rw [e] at h
    exact ⟨z, (Option.some.inj h).symm, rfl⟩
/-! ### equality of data -/
theorem i_eqT2 {K : PySem.W.Frag} {H : Hp} {Q : VK} {p r : Addr} {a b c d : Int} (h1 : SqT K H p [.int a, .int b]) (h2 : SqT K H r [.int c, .int d]) (q : Q (.bl (a == c && (b == d && true))) H) : rEqD K (.ref p) (.ref r) H Q :=
  ⟨.tuple [.int a, .int b], .tuple [.int c, .int d], .tup h1 (.cons (.int a) (.cons (.int b) .nil)), .tup h2 (.cons (.int c) (.cons (.int d) .nil)), rfl, rfl, by
    have e : PyData.eqv (.tuple [.int a, .int b]) (.tuple [.int c, .int d]) = (a == c && (b == d && true)) := by simp [PyData.eqv, PyData.eqvAll]
    rw [e]
    exact q⟩
/-! ### two objects that change -/
def But2 (a c : Addr) (H H' : Hp) : Prop := ∀ b o, b ≠ a → b ≠ c → H b = some o → H' b = some o
section
variable {a c b p : Addr} {H H' H1 H2 : Hp} {o u : HO} {K : PySem.W.Frag} {xs : List V}
theorem But2.refl (a c : Addr) (H : Hp) : But2 a c H H := fun _ _ _ _ h => h
theorem But2.transT (y : But2 a c H1 H2) (x : But2 a c H H1) : But2 a c H H2 := fun b o n m h => y b o n m (x b o n m h)
theorem But2.transS (y : Same H1 H2) (x : But2 a c H H1) : But2 a c H H2 := fun b o n m h => y b o (x b o n m h)
theorem But2.transL (y : But a H1 H2) (x : But2 a c H H1) : But2 a c H H2 := fun b o n m h => y b o n (x b o n m h)
theorem But2.transR (y : But c H1 H2) (x : But2 a c H H1) : But2 a c H H2 := fun b o n m h => y b o m (x b o n m h)
theorem But2.newT (hp : H1 p = none) (x : But2 a c H H1) : But2 a c H (L2.upd H1 p o) := fun b u n m h => by
  have h1 := x b u n m h
  rw [upd_ne (ne_of_none h1 hp)]
  exact h1
theorem But2.updL (x : But2 a c H H1) : But2 a c H (L2.upd H1 a o) := fun b u n m h => by
  rw [upd_ne n]
  exact x b u n m h
theorem But2.updR (x : But2 a c H H1) : But2 a c H (L2.upd H1 c o) := fun b u n m h => by
  rw [upd_ne m]
  exact x b u n m h
theorem lk_but2 (e : But2 a c H H') (n : b ≠ a) (m : b ≠ c) (h : H b = some o) : H' b = some o := e b o n m h
theorem But2.seq (e : But2 a c H H') (n : b ≠ a) (m : b ≠ c) (h : SqL K H b xs) : SqL K H' b xs := by
  rcases h with (h | ⟨o, h⟩) | h
  · exact .inl (.inl (e _ _ n m h))
  · exact .inl (.inr ⟨o, e _ _ n m h⟩)
  · exact .inr h
theorem But2.seqT (e : But2 a c H H') (n : b ≠ a) (m : b ≠ c) (h : SqT K H b xs) : SqT K H' b xs := by
  rcases h with (h | ⟨o, h⟩) | h
  · exact .inl (.inl (e _ _ n m h))
  · exact .inl (.inr ⟨o, e _ _ n m h⟩)
  · exact .inr h
theorem But2.free (hn : H' p = none) (e : But2 a c H H') (ha : H' a = some o) (hc : H' c = some u) : H p = none := by
  cases h : H p with
  | none => rfl
  | some v =>
    by_cases hp : p = a
    · rw [hp, ha] at hn
      cases hn
    · by_cases hq : p = c
      · rw [hq, hc] at hn
        cases hn
      · rw [e p v hp hq h] at hn
        cases hn
theorem But2.mut (hp : H p = none) (x : But2 a c H H1) : But2 a c H (L2.upd H1 p o) := fun b u n m h => by
  have e : b ≠ p := ne_of_none h hp
  exact lk_upd e (x b u n m h)
theorem But2.butT (y : But p H1 H2) (hp : H p = none) (x : But2 a c H H1) : But2 a c H H2 := fun b u n m h => y b u (ne_of_none h hp) (x b u n m h)
theorem Same.but2T {H0 : Hp} (x : But2 a c H H1) (ha : H0 a = none) (hc : H0 c = none) (e : Same H0 H) : Same H0 H1 := fun b u h => x b u (ne_of_none h ha) (ne_of_none h hc) (e b u h)
end
/-! ### len, by its number -/
def LenA (K : PySem.W.Frag) (H : Hp) (p : Addr) (n : Nat) : Prop := (∃ ys, SqL K H p ys ∧ ys.length = n) ∨ ∃ ys, SqT K H p ys ∧ ys.length = n
def rLenA (K : PySem.W.Frag) : List V → Hp → VK → Prop := fun xs H Q => ∃ p n, xs = [V.ref p] ∧ LenA K H p n ∧ Q (.int n) H
theorem call_lenA {X : Cx} : CallR X (.builtin "len") (rLenA X.K) := by
  intro pins s σ H xs us Q I r h
  obtain ⟨p, n, e, hl, q⟩ := h
  refine call_len_seq pins s σ H xs us Q I r ?_
  rcases hl with ⟨ys, h1, h2⟩ | ⟨ys, h1, h2⟩
  · exact ⟨p, ys, e, .inl h1, by rw [h2]; exact q⟩
  · exact ⟨p, ys, e, .inr h1, by rw [h2]; exact q⟩
section
variable {σ : L2.St} {H : Hp} {Q : VK} {K : PySem.W.Frag} {p r : Addr} {xs ys : List V} {ms ns : List Int} {i j k : Int} {n : Nat}
theorem i_lenA (h : LenA K H p n) (q : Q (.int n) H) : rLenA K [.ref p] H Q := ⟨p, n, rfl, h, q⟩
theorem lenA_map {α : Type} {f : α → V} {zs : List α} (h : SqL K H p (zs.map f)) : LenA K H p zs.length := .inl ⟨_, h, List.length_map _⟩
theorem lenA_L (h : SqL K H p xs) : LenA K H p xs.length := .inl ⟨_, h, rfl⟩
theorem lenA_T (h : SqT K H p xs) : LenA K H p xs.length := .inr ⟨_, h, rfl⟩
theorem i_ixM (h : SqL K H p (ms.map V.int)) (h0 : 0 ≤ i) (h1 : i < ms.length) (q : ∀ z, ms[i.toNat]? = some z → Q (.int z) H) : rIxL K (.ref p) (.int i) H Q := by
  obtain ⟨v, e1, e2⟩ := at_lt (xs := ms.map V.int) h0 (by rw [List.length_map]; exact h1)
  obtain ⟨z, e, e3⟩ := ints_at e2
  subst e
  exact i_ixL h e1 (q z e3)
theorem i_ixG (h : SqL K H p xs) (h0 : 0 ≤ i) (h1 : i < xs.length) (q : ∀ v, xs[i.toNat]? = some v → Q v H) : rIxL K (.ref p) (.int i) H Q := by
  obtain ⟨v, e1, e2⟩ := at_lt h0 h1
  exact i_ixL h e1 (q v e2)
theorem i_sum (h : SqL K H p (ns.map V.int)) (q : Q (.int ns.sum) H) : rSum K [.ref p] H Q := ⟨p, ns, rfl, h, q⟩
theorem i_slToM (h : SqL K H p (ms.map V.int)) (h0 : 0 ≤ k) (q : ∀ p', H p' = none → Q (.ref p') (upd H p' (.lst ((ms.take k.toNat).map V.int)))) : rSlL K (.ref p) none (some k) H Q := i_slTo h h0 (by rw [← List.map_take]; exact q)
theorem i_slFromM (h : SqL K H p (ms.map V.int)) (h0 : 0 ≤ k) (q : ∀ p', H p' = none → Q (.ref p') (upd H p' (.lst ((ms.drop k.toNat).map V.int)))) : rSlL K (.ref p) (some k) none H Q := i_slFrom h h0 (by rw [← List.map_drop]; exact q)
theorem i_slMidM (h : SqL K H p (ms.map V.int)) (h0 : 0 ≤ j) (h1 : 0 ≤ k) (q : ∀ p', H p' = none → Q (.ref p') (upd H p' (.lst (((ms.drop j.toNat).take (k.toNat - j.toNat)).map V.int)))) : rSlL K (.ref p) (some j) (some k) H Q := i_slMid h h0 h1 (by rw [← List.map_drop, ← List.map_take]; exact q)
theorem i_catM (h1 : H p = some (.lst (ms.map V.int))) (h2 : H r = some (.lst (ns.map V.int))) (hz : ms.length + ns.length ≤ 1000000) (q : ∀ p', H p' = none → Q (.ref p') (upd H p' (.lst ((ms ++ ns).map V.int)))) : rCat (.ref p) (.ref r) H Q :=
  i_cat h1 h2 (sz4 (by rw [List.length_map, List.length_map]; exact hz)) (by rw [← List.map_append]; exact q)
theorem i_repM {x : Int} (h1 : H p = some (.lst [.int x])) (h2 : 0 ≤ k ∧ k ≤ 1000000) (q : ∀ p', H p' = none → Q (.ref p') (upd H p' (.lst ((List.replicate k.toNat x).map V.int)))) : rRep (.ref p) (.int k) H Q :=
  i_rep1 h1 h2 (by rw [← List.map_replicate]; exact q)
theorem eqvAll_ints : ∀ ms ns : List Int, PyData.eqvAll (ms.map PyData.int) (ns.map PyData.int) = decide (ms = ns)
  | [], [] => by simp [PyData.eqvAll]
  | [], _ :: _ => by simp [PyData.eqvAll]
  | _ :: _, [] => by simp [PyData.eqvAll]
  | m :: ms, n :: ns => by
    rw [List.map_cons, List.map_cons, PyData.eqvAll, eqvAll_ints ms ns, PyData.eqv]
    by_cases h : m = n
    · subst h
      simp
    · simp [h]
theorem canLay_ints : ∀ ms : List Int, PyData.canLayAll0 (ms.map PyData.int) = true
  | [] => by simp [PyData.canLayAll0]
  | m :: ms => by
    rw [List.map_cons, PyData.canLayAll0, canLay_ints ms]
    simp [PyData.canLay0]
theorem depth_ints : ∀ ms : List Int, PyData.depthAll (ms.map PyData.int) ≤ 1
  | [] => by simp [PyData.depthAll]
  | m :: ms => by
    have := depth_ints ms
    rw [List.map_cons, PyData.depthAll]
    simp [PyData.depth]
    omega
theorem dp_ints : ∀ ms : List Int, DpAll K H (ms.map V.int) (ms.map PyData.int)
  | [] => .nil
  | m :: ms => .cons (.int m) (dp_ints ms)
theorem shaped_ints (ms : List Int) : SeqAt.shaped (.list (ms.map PyData.int)) = true := by
  unfold SeqAt.shaped
  have h1 := canLay_ints ms
  have h2 := depth_ints ms
  simp [PyData.canLay0, PyData.depth, h1]
  omega
theorem i_eqLI (h1 : SqL K H p (ms.map V.int)) (h2 : SqL K H r (ns.map V.int)) (q : Q (.bl (decide (ms = ns))) H) : rEqD K (.ref p) (.ref r) H Q :=
  ⟨_, _, .lst h1 (dp_ints ms), .lst h2 (dp_ints ns), shaped_ints ms, shaped_ints ns, by rw [PyData.eqv, eqvAll_ints]; exact q⟩
theorem i_neLI (h1 : SqL K H p (ms.map V.int)) (h2 : SqL K H r (ns.map V.int)) (q : Q (.bl (!decide (ms = ns))) H) : rNeD K (.ref p) (.ref r) H Q :=
  ⟨_, _, .lst h1 (dp_ints ms), .lst h2 (dp_ints ns), shaped_ints ms, shaped_ints ns, by rw [PyData.eqv, eqvAll_ints]; exact q⟩
theorem i_eqL0 (h1 : SqL K H p (ms.map V.int)) (h2 : SqL K H r []) (q : Q (.bl (decide (ms = []))) H) : rEqD K (.ref p) (.ref r) H Q := i_eqLI (ns := []) h1 h2 q
theorem i_eq00 (h1 : SqL K H p []) (h2 : SqL K H r []) (q : Q (.bl true) H) : rEqD K (.ref p) (.ref r) H Q := i_eqLI (ms := []) (ns := []) h1 h2 (by simpa using q)
theorem i_isn {P : Prop} (q : P) : V.non = V.non ∧ P := ⟨rfl, q⟩
theorem i_tru {P : Prop} (q : P) : True ∧ P := ⟨trivial, q⟩
theorem i_glst {m : Nat} {t : TGs} {Z : L2.St → Hp → Prop} (h : SqL K H p xs) (e : xs.length = m) (q : t xs σ H Z) : gLst K m t (.ref p) σ H Z := ⟨p, xs, rfl, h, e, q⟩
end
/-! ### comprehensions -/
section
variable {σ : L2.St} {H H1 : Hp} {Q : VK} {K : PySem.W.Frag} {D a : Addr} {wi : TI} {g : TG} {tt : TT} {te : TE} {vs : List Nat} {lo : Int} {n : Nat} {xs : List V} {Qd : Hp → Prop}
theorem i_lc (h : wi σ H fun J H1 => ∀ D, H1 D = none → ∃ W : Nat → Nat → Hp → Prop, (∃ m, W 0 m (upd H1 D (.lst []))) ∧ ∀ i m H, W i m H →
  (J.stop i H ∧ Q (.ref D) H) ∨ (J.go i H ∧ ∃ Nx : Hp → Prop, (∀ H', Nx H' → ∃ m', m' < m ∧ W (i + 1) m' H') ∧ ∀ x H', J.yld i H x H' → g x (wipe σ vs) H' fun σ2 H2 => wipe σ2 vs = wipe σ vs ∧ tt σ2 H2 fun b H3 =>
    if b = true then te σ2 H3 fun y H4 => ∃ acc, H4 D = some (.lst acc) ∧ acc.length < sizeLine ∧ Nx (upd H4 D (.lst (acc ++ [y]))) else Nx H3)) : tLc wi g tt te vs σ H Q := h
/-- the turn of a comprehension: what its target, test and element come to; Z is wanted of a kept element, Y where the test says no -/
def LcTurn (g : TG) (tt : TT) (te : TE) (vs : List Nat) (σ : L2.St) (x : V) (H : Hp) (Z : VK) (Y : Hp → Prop) : Prop :=
  g x (wipe σ vs) H fun σ2 H2 => wipe σ2 vs = wipe σ vs ∧ tt σ2 H2 fun b H3 => if b = true then te σ2 H3 Z else Y H3
/-- over a range; P: what holds behind i turns of the list made so far -/
theorem lcR (P : Nat → List V → Hp → Prop) (nD : H1 D = none) (h0 : P 0 [] (upd H1 D (.lst [])))
    (hs : ∀ i acc H (Z : VK) (Y : Hp → Prop), i < n → P i acc H → H D = some (.lst acc) → (∀ y H4, H4 D = some (.lst acc) → acc.length < sizeLine → P (i + 1) (acc ++ [y]) (upd H4 D (.lst (acc ++ [y]))) → Z y H4) →
      (∀ H4, H4 D = some (.lst acc) → P (i + 1) acc H4 → Y H4) → LcTurn g tt te vs σ (.int (lo + i)) H Z Y) (hd : ∀ acc H, P n acc H → H D = some (.lst acc) → Qd H) :
    ∃ W : Nat → Nat → Hp → Prop, (∃ m, W 0 m (upd H1 D (.lst []))) ∧ ∀ i m H, W i m H →
      ((Itr lo n).stop i H ∧ Qd H) ∨ ((Itr lo n).go i H ∧ ∃ Nx : Hp → Prop, (∀ H', Nx H' → ∃ m', m' < m ∧ W (i + 1) m' H') ∧ ∀ x H', (Itr lo n).yld i H x H' → g x (wipe σ vs) H' fun σ2 H2 => wipe σ2 vs = wipe σ vs ∧ tt σ2 H2 fun b H3 =>
        if b = true then te σ2 H3 fun y H4 => ∃ acc, H4 D = some (.lst acc) ∧ acc.length < sizeLine ∧ Nx (upd H4 D (.lst (acc ++ [y]))) else Nx H3) := by
  refine lc_range (fun i H => ∃ acc, P i acc H ∧ H D = some (.lst acc)) ⟨[], h0, upd_same⟩ (fun i H hi hp => ?_) (fun H hp => ?_)
  · obtain ⟨acc, hp, ha⟩ := hp
    exact hs i acc H _ _ hi hp ha (fun y H4 h1 h2 h3 => ⟨acc, h1, h2, _, h3, upd_same⟩) fun H4 h1 h2 => ⟨acc, h2, h1⟩
  · obtain ⟨acc, hp, ha⟩ := hp
    exact hd acc H hp ha
theorem lcL (P : Nat → List V → Hp → Prop) (nD : H1 D = none) (h0 : P 0 [] (upd H1 D (.lst []))) (hl : ∀ i acc H, i ≤ xs.length → P i acc H → H D = some (.lst acc) → SqL K H a xs)
    (hs : ∀ i x acc H (Z : VK) (Y : Hp → Prop), xs[i]? = some x → P i acc H → H D = some (.lst acc) → (∀ y H4, H4 D = some (.lst acc) → acc.length < sizeLine → P (i + 1) (acc ++ [y]) (upd H4 D (.lst (acc ++ [y]))) → Z y H4) →
      (∀ H4, H4 D = some (.lst acc) → P (i + 1) acc H4 → Y H4) → LcTurn g tt te vs σ x H Z Y) (hd : ∀ acc H, P xs.length acc H → H D = some (.lst acc) → Qd H) :
    ∃ W : Nat → Nat → Hp → Prop, (∃ m, W 0 m (upd H1 D (.lst []))) ∧ ∀ i m H, W i m H →
      ((Itl K a).stop i H ∧ Qd H) ∨ ((Itl K a).go i H ∧ ∃ Nx : Hp → Prop, (∀ H', Nx H' → ∃ m', m' < m ∧ W (i + 1) m' H') ∧ ∀ x H', (Itl K a).yld i H x H' → g x (wipe σ vs) H' fun σ2 H2 => wipe σ2 vs = wipe σ vs ∧ tt σ2 H2 fun b H3 =>
        if b = true then te σ2 H3 fun y H4 => ∃ acc, H4 D = some (.lst acc) ∧ acc.length < sizeLine ∧ Nx (upd H4 D (.lst (acc ++ [y]))) else Nx H3) := by
  refine lc_list (xs := xs) (fun i H => ∃ acc, P i acc H ∧ H D = some (.lst acc)) ⟨[], h0, upd_same⟩ (fun i H hi hp => ?_) (fun i x H hi hp => ?_) (fun H hp => ?_)
  · obtain ⟨acc, hp, ha⟩ := hp
    exact hl i acc H hi hp ha
  · obtain ⟨acc, hp, ha⟩ := hp
    exact hs i x acc H _ _ hi hp ha (fun y H4 h1 h2 h3 => ⟨acc, h1, h2, _, h3, upd_same⟩) fun H4 h1 h2 => ⟨acc, h2, h1⟩
  · obtain ⟨acc, hp, ha⟩ := hp
    exact hd acc H hp ha
/-- whole numbers, one for each turn -/
theorem lcR_int (f : Nat → Int) (nD : H1 D = none) (hn : n ≤ 1000000)
    (hs : ∀ i H (Z : VK) (Y : Hp → Prop), i < n → Same H1 H → (∀ H4, Same H H4 → Z (.int (f i)) H4) → LcTurn g tt te vs σ (.int (lo + i)) H Z Y)
    (hd : ∀ H, Same H1 H → H D = some (.lst (((List.range n).map f).map V.int)) → Qd H) :
    ∃ W : Nat → Nat → Hp → Prop, (∃ m, W 0 m (upd H1 D (.lst []))) ∧ ∀ i m H, W i m H →
      ((Itr lo n).stop i H ∧ Qd H) ∨ ((Itr lo n).go i H ∧ ∃ Nx : Hp → Prop, (∀ H', Nx H' → ∃ m', m' < m ∧ W (i + 1) m' H') ∧ ∀ x H', (Itr lo n).yld i H x H' → g x (wipe σ vs) H' fun σ2 H2 => wipe σ2 vs = wipe σ vs ∧ tt σ2 H2 fun b H3 =>
        if b = true then te σ2 H3 fun y H4 => ∃ acc, H4 D = some (.lst acc) ∧ acc.length < sizeLine ∧ Nx (upd H4 D (.lst (acc ++ [y]))) else Nx H3) := by
  refine lcR (fun i acc H => i ≤ n ∧ acc = ((List.range i).map f).map V.int ∧ Same H1 H) nD ⟨Nat.zero_le _, rfl, Same.new nD⟩ ?_ ?_
  · rintro i acc H Z Y hi ⟨_, rfl, hsame⟩ ha hz _
    refine hs i H Z Y hi hsame fun H4 h4 => hz _ H4 (h4 _ _ ha) (sz4' (by simp; omega)) ⟨hi, ?_, Same.mut (hsame.trans h4) nD⟩
    rw [List.range_succ, List.map_append, List.map_append]
    rfl
  · rintro acc H ⟨_, rfl, hsame⟩ ha
    exact hd H hsame ha
theorem lcL_int (f : Nat → Int) (nD : H1 D = none) (hn : xs.length ≤ 1000000) (hx : SqL K H1 a xs)
    (hs : ∀ i x H (Z : VK) (Y : Hp → Prop), xs[i]? = some x → Same H1 H → (∀ H4, Same H H4 → Z (.int (f i)) H4) → LcTurn g tt te vs σ x H Z Y)
    (hd : ∀ H, Same H1 H → H D = some (.lst (((List.range xs.length).map f).map V.int)) → Qd H) :
    ∃ W : Nat → Nat → Hp → Prop, (∃ m, W 0 m (upd H1 D (.lst []))) ∧ ∀ i m H, W i m H →
      ((Itl K a).stop i H ∧ Qd H) ∨ ((Itl K a).go i H ∧ ∃ Nx : Hp → Prop, (∀ H', Nx H' → ∃ m', m' < m ∧ W (i + 1) m' H') ∧ ∀ x H', (Itl K a).yld i H x H' → g x (wipe σ vs) H' fun σ2 H2 => wipe σ2 vs = wipe σ vs ∧ tt σ2 H2 fun b H3 =>
        if b = true then te σ2 H3 fun y H4 => ∃ acc, H4 D = some (.lst acc) ∧ acc.length < sizeLine ∧ Nx (upd H4 D (.lst (acc ++ [y]))) else Nx H3) := by
  refine lcL (xs := xs) (fun i acc H => i ≤ xs.length ∧ acc = ((List.range i).map f).map V.int ∧ Same H1 H) nD ⟨Nat.zero_le _, rfl, Same.new nD⟩ (fun i acc H _ hp _ => hp.2.2.seq hx) ?_ ?_
  · rintro i x acc H Z Y hi ⟨_, rfl, hsame⟩ ha hz _
    have hi' : i < xs.length := (List.getElem?_eq_some_iff.mp hi).1
    refine hs i x H Z Y hi hsame fun H4 h4 => hz _ H4 (h4 _ _ ha) (sz4' (by simp; omega)) ⟨hi', ?_, Same.mut (hsame.trans h4) nD⟩
    rw [List.range_succ, List.map_append, List.map_append]
    rfl
  · rintro acc H ⟨_, rfl, hsame⟩ ha
    exact hd H hsame ha
/-- over a range, kept where b says so -/
theorem lcR_fil (b : Nat → Bool) (f : Nat → Int) (nD : H1 D = none) (hn : n ≤ 1000000)
    (hs : ∀ i H (Z : VK) (Y : Hp → Prop), i < n → Same H1 H → (b i = true → ∀ H4, Same H H4 → Z (.int (f i)) H4) → (b i = false → ∀ H4, Same H H4 → Y H4) → LcTurn g tt te vs σ (.int (lo + i)) H Z Y)
    (hd : ∀ H, Same H1 H → H D = some (.lst ((((List.range n).filter b).map f).map V.int)) → Qd H) :
    ∃ W : Nat → Nat → Hp → Prop, (∃ m, W 0 m (upd H1 D (.lst []))) ∧ ∀ i m H, W i m H →
      ((Itr lo n).stop i H ∧ Qd H) ∨ ((Itr lo n).go i H ∧ ∃ Nx : Hp → Prop, (∀ H', Nx H' → ∃ m', m' < m ∧ W (i + 1) m' H') ∧ ∀ x H', (Itr lo n).yld i H x H' → g x (wipe σ vs) H' fun σ2 H2 => wipe σ2 vs = wipe σ vs ∧ tt σ2 H2 fun b H3 =>
        if b = true then te σ2 H3 fun y H4 => ∃ acc, H4 D = some (.lst acc) ∧ acc.length < sizeLine ∧ Nx (upd H4 D (.lst (acc ++ [y]))) else Nx H3) := by
  refine lcR (fun i acc H => i ≤ n ∧ acc = (((List.range i).filter b).map f).map V.int ∧ Same H1 H) nD ⟨Nat.zero_le _, rfl, Same.new nD⟩ ?_ ?_
  · rintro i acc H Z Y hi ⟨_, rfl, hsame⟩ ha hz hy
    refine hs i H Z Y hi hsame (fun hb H4 h4 => hz _ H4 (h4 _ _ ha) (sz4' ?_) ⟨hi, ?_, Same.mut (hsame.trans h4) nD⟩) (fun hb H4 h4 => hy H4 (h4 _ _ ha) ⟨hi, ?_, hsame.trans h4⟩)
    · have := List.length_filter_le b (List.range i)
      rw [List.length_range] at this
      simp only [List.length_map]
      omega
    · rw [List.range_succ, List.filter_append, List.map_append, List.map_append, List.filter_cons, if_pos hb]
      rfl
    · rw [List.range_succ, List.filter_append, List.map_append, List.map_append, List.filter_cons, if_neg (by rw [hb]; exact Bool.false_ne_true)]
      simp
  · rintro acc H ⟨_, rfl, hsame⟩ ha
    exact hd H hsame ha
/-- over a list, nothing kept -/
theorem lcL_nil (nD : H1 D = none) (hx : SqL K H1 a xs)
    (hs : ∀ (i : Nat) (x : V) H (Z : VK) (Y : Hp → Prop), xs[i]? = some x → Same H1 H → (∀ H4, Same H H4 → Y H4) → LcTurn g tt te vs σ x H Z Y)
    (hd : ∀ H, Same H1 H → H D = some (.lst []) → Qd H) :
    ∃ W : Nat → Nat → Hp → Prop, (∃ m, W 0 m (upd H1 D (.lst []))) ∧ ∀ i m H, W i m H →
      ((Itl K a).stop i H ∧ Qd H) ∨ ((Itl K a).go i H ∧ ∃ Nx : Hp → Prop, (∀ H', Nx H' → ∃ m', m' < m ∧ W (i + 1) m' H') ∧ ∀ x H', (Itl K a).yld i H x H' → g x (wipe σ vs) H' fun σ2 H2 => wipe σ2 vs = wipe σ vs ∧ tt σ2 H2 fun b H3 =>
        if b = true then te σ2 H3 fun y H4 => ∃ acc, H4 D = some (.lst acc) ∧ acc.length < sizeLine ∧ Nx (upd H4 D (.lst (acc ++ [y]))) else Nx H3) := by
  refine lcL (xs := xs) (fun i acc H => acc = [] ∧ Same H1 H) nD ⟨rfl, Same.new nD⟩ (fun i acc H _ hp _ => hp.2.seq hx) ?_ ?_
  · rintro i x acc H Z Y hi ⟨rfl, hsame⟩ ha _ hy
    exact hs i x H Z Y hi hsame fun H4 h4 => hy H4 (h4 _ _ ha) ⟨rfl, hsame.trans h4⟩
  · rintro acc H ⟨rfl, hsame⟩ ha
    exact hd H hsame ha
/-- over a list, a value for each, from the turn's number -/
theorem lcL_v (f : Nat → V) (nD : H1 D = none) (hn : xs.length ≤ 1000000) (hx : SqL K H1 a xs)
    (hs : ∀ (i : Nat) (x : V) H (Z : VK) (Y : Hp → Prop), xs[i]? = some x → Same H1 H → (∀ H4, Same H H4 → Z (f i) H4) → LcTurn g tt te vs σ x H Z Y)
    (hd : ∀ H, Same H1 H → H D = some (.lst ((List.range xs.length).map f)) → Qd H) :
    ∃ W : Nat → Nat → Hp → Prop, (∃ m, W 0 m (upd H1 D (.lst []))) ∧ ∀ i m H, W i m H →
      ((Itl K a).stop i H ∧ Qd H) ∨ ((Itl K a).go i H ∧ ∃ Nx : Hp → Prop, (∀ H', Nx H' → ∃ m', m' < m ∧ W (i + 1) m' H') ∧ ∀ x H', (Itl K a).yld i H x H' → g x (wipe σ vs) H' fun σ2 H2 => wipe σ2 vs = wipe σ vs ∧ tt σ2 H2 fun b H3 =>
        if b = true then te σ2 H3 fun y H4 => ∃ acc, H4 D = some (.lst acc) ∧ acc.length < sizeLine ∧ Nx (upd H4 D (.lst (acc ++ [y]))) else Nx H3) := by
  refine lcL (xs := xs) (fun i acc H => i ≤ xs.length ∧ acc = (List.range i).map f ∧ Same H1 H) nD ⟨Nat.zero_le _, rfl, Same.new nD⟩ (fun i acc H _ hp _ => hp.2.2.seq hx) ?_ ?_
  · rintro i x acc H Z Y hi ⟨_, rfl, hsame⟩ ha hz _
    have hi' : i < xs.length := (List.getElem?_eq_some_iff.mp hi).1
    refine hs i x H Z Y hi hsame fun H4 h4 => hz _ H4 (h4 _ _ ha) (sz4' (by simp; omega)) ⟨hi', ?_, Same.mut (hsame.trans h4) nD⟩
    rw [List.range_succ, List.map_append]
    rfl
  · rintro acc H ⟨_, rfl, hsame⟩ ha
    exact hd H hsame ha
/-- over a list, truths all true -/
theorem lcL_all (nD : H1 D = none) (hn : xs.length ≤ 1000000) (hx : SqL K H1 a xs)
    (hs : ∀ (i : Nat) (x : V) H (Z : VK) (Y : Hp → Prop), xs[i]? = some x → Same H1 H → (∀ H4, Same H H4 → Z (.bl true) H4) → LcTurn g tt te vs σ x H Z Y)
    (hd : ∀ H, Same H1 H → SqL K H D ((List.replicate xs.length true).map V.bl) → Qd H) :
    ∃ W : Nat → Nat → Hp → Prop, (∃ m, W 0 m (upd H1 D (.lst []))) ∧ ∀ i m H, W i m H →
      ((Itl K a).stop i H ∧ Qd H) ∨ ((Itl K a).go i H ∧ ∃ Nx : Hp → Prop, (∀ H', Nx H' → ∃ m', m' < m ∧ W (i + 1) m' H') ∧ ∀ x H', (Itl K a).yld i H x H' → g x (wipe σ vs) H' fun σ2 H2 => wipe σ2 vs = wipe σ vs ∧ tt σ2 H2 fun b H3 =>
        if b = true then te σ2 H3 fun y H4 => ∃ acc, H4 D = some (.lst acc) ∧ acc.length < sizeLine ∧ Nx (upd H4 D (.lst (acc ++ [y]))) else Nx H3) := by
  refine lcL_v (fun _ => .bl true) nD hn hx hs fun H hs' h => hd H hs' (.of ?_)
  rw [h, List.map_const', List.length_range, List.map_replicate]
theorem i_all {H : Hp} {Q : VK} {p : Addr} {m : Nat} (h : SqL K H p ((List.replicate m true).map V.bl)) (q : Q (.bl true) H) : rAll K [.ref p] H Q := by
  refine ⟨p, _, rfl, h, ?_⟩
  have e : (List.replicate m true).all id = true := by
    rw [List.all_eq_true]
    intro x hx
    rw [(List.mem_replicate.mp hx).2]
    rfl
  rw [e]
  exact q
theorem i_min {H : Hp} {Q : VK} {p : Addr} {ns : List Int} (h : SqL K H p (ns.map V.int)) (h0 : 0 < ns.length) (q : ∀ m, m ∈ ns → (∀ y, y ∈ ns → m ≤ y) → Q (.int m) H) : rMin K [.ref p] H Q := ⟨p, ns, rfl, h, h0, q⟩
theorem i_max {H : Hp} {Q : VK} {p : Addr} {ns : List Int} (h : SqL K H p (ns.map V.int)) (h0 : 0 < ns.length) (q : ∀ m, m ∈ ns → (∀ y, y ∈ ns → y ≤ m) → Q (.int m) H) : rMax K [.ref p] H Q := ⟨p, ns, rfl, h, h0, q⟩
theorem i_yes {P : Bool → Hp → Prop} (q : P true H) : tYes σ H P := q
theorem i_wipe {A : Prop} {σ2 : L2.St} (e : wipe σ2 vs = wipe σ vs) (q : A) : wipe σ2 vs = wipe σ vs ∧ A := ⟨e, q⟩
theorem i_turn {x : V} {Z : VK} {Y : Hp → Prop} {σ1 : L2.St} (e : wipe σ vs = σ1) (h : g x σ1 H fun σ2 H2 => wipe σ2 vs = σ1 ∧ tt σ2 H2 fun b H3 => if b = true then te σ2 H3 Z else Y H3) : LcTurn g tt te vs σ x H Z Y := by
  subst e
  exact h
theorem i_wiped {A : Prop} {σ1 σ2 : L2.St} (e : wipe σ2 vs = σ1) (q : A) : wipe σ2 vs = σ1 ∧ A := ⟨e, q⟩
end
theorem ixN_nn {n : Nat} {i : Int} (h0 : 0 ≤ i) (h1 : i < n) : ixN n i = some i.toNat := by
  unfold ixN
  rw [if_pos h0, if_pos h1]
theorem ixN_last {n : Nat} (h : 0 < n) : ixN n (-1) = some (n - 1) := by
  unfold ixN
  rw [if_neg (by decide), if_pos (by omega)]
  congr 1
  omega
theorem i_ixLast {K : PySem.W.Frag} {H : Hp} {p : Addr} {ms : List Int} {Q : VK} (h : SqL K H p (ms.map V.int)) (h1 : 0 < ms.length) (q : ∀ z, ms[ms.length - 1]? = some z → Q (.int z) H) : rIxL K (.ref p) (.int (-1)) H Q := by
  have e : ms[ms.length - 1]? = some ms[ms.length - 1] := List.getElem?_eq_getElem (by omega)
  refine ⟨p, _, -1, .int ms[ms.length - 1], rfl, rfl, h, ?_, q _ e⟩
  unfold atI
  rw [List.length_map, ixN_last h1, Option.bind_some, List.getElem?_map, e]
  rfl
theorem cut_init {xs : List V} : cutV xs none (some (-1)) = xs.dropLast := by
  unfold cutV
  rw [HT.sIx_none, List.drop_zero, Nat.sub_zero]
  have e : HT.sIx xs.length xs.length (some (-1)) = xs.length - 1 := by
    unfold HT.sIx
    simp
    omega
  rw [e, List.dropLast_eq_take]
theorem i_slInitM {K : PySem.W.Frag} {H : Hp} {p : Addr} {ms : List Int} {Q : VK} (h : SqL K H p (ms.map V.int)) (q : ∀ p', H p' = none → Q (.ref p') (upd H p' (.lst (ms.dropLast.map V.int)))) : rSlL K (.ref p) none (some (-1)) H Q := ⟨p, _, rfl, h, by rw [cut_init, ← List.map_dropLast]; exact q⟩
theorem i_setLast {H : Hp} {p : Addr} {ms : List Int} {z : Int} {Z : Hp → Prop} (h : H p = some (.lst (ms.map V.int))) (h1 : 0 < ms.length) (q : Z (upd H p (.lst ((ms.set (ms.length - 1) z).map V.int)))) : rSetL (.ref p) (.int (-1)) (.int z) H Z :=
  ⟨p, _, -1, ms.length - 1, rfl, rfl, h, by rw [List.length_map]; exact ixN_last h1, by rw [← List.map_set]; exact q⟩
theorem i_catM1 {H : Hp} {p r : Addr} {ms : List Int} {y : Int} {Q : VK} (h1 : H p = some (.lst (ms.map V.int))) (h2 : H r = some (.lst [.int y])) (hz : ms.length + 1 ≤ 1000000) (q : ∀ p', H p' = none → Q (.ref p') (upd H p' (.lst ((ms ++ [y]).map V.int)))) : rCat (.ref p) (.ref r) H Q := i_catM (ns := [y]) h1 h2 hz q
theorem fil_last (b : Nat → Bool) : ∀ n, (List.range n).filter b = [] ∨ ∃ k, k < n ∧ b k = true ∧ (∀ j, k < j → j < n → b j = false) ∧ ((List.range n).filter b)[((List.range n).filter b).length - 1]? = some k
  | 0 => .inl rfl
  | n + 1 => by
    rw [List.range_succ, List.filter_append]
    cases e : b n with
    | true =>
      refine .inr ⟨n, by omega, e, fun j h1 h2 => by omega, ?_⟩
      have : List.filter b [n] = [n] := by simp [e]
      rw [this, List.length_append]
      simp
    | false =>
      have : List.filter b [n] = [] := by simp [e]
      rw [this, List.append_nil]
      rcases fil_last b n with h | ⟨k, h1, h2, h3, h4⟩
      · exact .inl h
      · refine .inr ⟨k, by omega, h2, fun j g1 g2 => ?_, h4⟩
        by_cases c : j = n
        · subst c; exact e
        · exact h3 j g1 (by omega)
theorem fil_none {b : Nat → Bool} {n : Nat} (h : (List.range n).filter b = []) {j : Nat} (hj : j < n) : b j = false := by
  have := List.filter_eq_nil_iff.mp h j (List.mem_range.mpr hj)
  simpa using this
theorem i_reverse {H : Hp} {p : Addr} {ms : List Int} {Q : VK} (h : H p = some (.lst (ms.map V.int))) (q : Q .non (upd H p (.lst (ms.reverse.map V.int)))) : rReverse (.ref p) [] H Q := ⟨p, _, rfl, rfl, h, by rw [← List.map_reverse]; exact q⟩
theorem i_ne00 {K : PySem.W.Frag} {H : Hp} {Q : VK} {p r : Addr} (h1 : SqL K H p []) (h2 : SqL K H r []) (q : Q (.bl false) H) : rNeD K (.ref p) (.ref r) H Q := i_neLI (ms := []) (ns := []) h1 h2 (by simpa using q)
theorem i_min2 {K : Prop} {R : Int → Int → Prop} {i j : Int} (q : R i j) : ∃ i' j', [V.int i, V.int j] = [.int i', .int j'] ∧ R i' j' := ⟨i, j, rfl, q⟩
theorem i_setM {H : Hp} {p : Addr} {ms : List Int} {i z : Int} {Z : Hp → Prop} (h : H p = some (.lst (ms.map V.int))) (h0 : 0 ≤ i) (h1 : i < ms.length) (q : Z (upd H p (.lst ((ms.set i.toNat z).map V.int)))) : rSetL (.ref p) (.int i) (.int z) H Z :=
  ⟨p, _, i, i.toNat, rfl, rfl, h, ixN_nn h0 (by rw [List.length_map]; exact h1), by rw [← List.map_set]; exact q⟩
/-! ### the rules that name the written part, K told -/
def rListOf (K : PySem.W.Frag) : List V → Hp → VK → Prop := fun xs H Q => ∃ p ys, xs = [V.ref p] ∧ (SqL K H p ys ∨ SqT K H p ys) ∧ ∀ l, H l = none → Q (.ref l) (upd H l (.lst ys))
def rTupleOf (K : PySem.W.Frag) : List V → Hp → VK → Prop := fun xs H Q => ∃ p ys, xs = [V.ref p] ∧ ((SqL K H p ys ∧ ∀ l, H l = none → Q (.ref l) (upd H l (.tup ys))) ∨ (SqT K H p ys ∧ Q (.ref p) H))
section
variable {X : Cx} (K : PySem.W.Frag) (e : X.K = K)
include e
theorem sl_listK : SlR X (rSlL K) := by subst e; exact sl_list
theorem sl_tupK : SlR X (rSlA K) := by subst e; exact sl_tupA
theorem ix_listK : IxR X (rIxL K) := by subst e; exact ix_list
theorem ix_tupK : IxR X (rIxT K) := by subst e; exact ix_tup
theorem ix_seqK : IxR X (rIx K) := by subst e; exact ix_seq
theorem call_lenK : CallR X (.builtin "len") (rLenA K) := by subst e; exact call_lenA
theorem cr_sumK (hc : X.calm = true) : CallR X (.builtin "sum") (rSum K) := by subst e; exact cr_sum hc
theorem cr_minK (hc : X.calm = true) : CallR X (.builtin "min") (rMin K) := by subst e; exact cr_min hc
theorem cr_maxK (hc : X.calm = true) : CallR X (.builtin "max") (rMax K) := by subst e; exact cr_max hc
theorem cr_anyK (hc : X.calm = true) : CallR X (.builtin "any") (rAny K) := by subst e; exact cr_any hc
theorem cr_allK (hc : X.calm = true) : CallR X (.builtin "all") (rAll K) := by subst e; exact cr_all hc
theorem call_isiK' : CallR X (.builtin "isinstance") (rIsi K) := by subst e; exact call_isi
theorem call_listK : CallR X (.type "list") (rListOf K) := by subst e; exact call_list_of
theorem call_tupleK : CallR X (.type "tuple") (rTupleOf K) := by subst e; exact call_tuple_of
theorem op_eqDK (hu : X.A.units + 64 < cLine) : OpR X (compareOp .Eq) (rEqD K) := by subst e; exact op_eqD hu
theorem op_neDK (hu : X.A.units + 64 < cLine) : OpR X (compareOp .NotEq) (rNeD K) := by subst e; exact op_neD hu
theorem op_ltTK (hu : X.A.units < cLine) : OpR X (compareOp .Lt) (rLtT K) := by subst e; exact op_ltT hu
theorem op_catTK : OpR X (binaryOp .Add) (rCatT K) := by subst e; exact op_catT
theorem op_inK : OpR X (compareOp .In) (rIn K false) := by subst e; exact op_in_seq
theorem op_notInK : OpR X (compareOp .NotIn) (rIn K true) := by subst e; exact op_notIn_seq
theorem pi_listK {tg l : Expr} {tl : TE} (hl : PE X l tl) : PI X tg l (iList K tl) := by subst e; exact pi_list hl
theorem pi_tupK {tg l : Expr} {tl : TE} (hl : PE X l tl) : PI X tg l (iTup K tl) := by subst e; exact pi_tup hl
theorem pg_tupK {es : List Expr} {k : Nat} {t : TGs} {pos : Pos} (n : Nat) (hc : X.calm = true) (h : PGs X es t) (hn : (assignEach es X.env).length = n := by rfl) (hst : (assignEach es X.env).findIdx? (·.1) = none := by rfl) : PG X (.Tuple es k pos) (gTup K n t) := by subst e; exact pg_tup hc h hn hst
theorem pg_lstK {es : List Expr} {k : Nat} {t : TGs} {pos : Pos} (n : Nat) (hc : X.calm = true) (h : PGs X es t) (hn : (assignEach es X.env).length = n := by rfl) (hst : (assignEach es X.env).findIdx? (·.1) = none := by rfl) : PG X (.Tuple es k pos) (gLst K n t) := by subst e; exact pg_lst hc h hn hst
end
section
variable {H : Hp} {Q : VK} {K : PySem.W.Frag} {p : Addr} {xs : List V}
theorem i_listOf (h : SqL K H p xs) (q : ∀ l, H l = none → Q (.ref l) (upd H l (.lst xs))) : rListOf K [.ref p] H Q := ⟨p, xs, rfl, .inl h, q⟩
theorem i_listOfT (h : SqT K H p xs) (q : ∀ l, H l = none → Q (.ref l) (upd H l (.lst xs))) : rListOf K [.ref p] H Q := ⟨p, xs, rfl, .inr h, q⟩
end
theorem wipe_one {σ σ1 : L2.St} {k : Nat} (e : List.set σ k none = σ1) : wipe σ [k] = σ1 := e
theorem wipe_two {σ σ1 σ2 : L2.St} {j k : Nat} (e : List.set σ k none = σ1) (e2 : List.set σ1 j none = σ2) : wipe σ [j, k] = σ2 := by
  show List.set (List.set σ k none) j none = σ2
  rw [e, e2]
theorem wipe_three {σ σ1 σ2 σ3 : L2.St} {i j k : Nat} (e : List.set σ k none = σ1) (e2 : List.set σ1 j none = σ2) (e3 : List.set σ2 i none = σ3) : wipe σ [i, j, k] = σ3 := by
  show List.set (List.set (List.set σ k none) j none) i none = σ3
  rw [e, e2, e3]
/-- the heap is let go of but for what stood at first -/
theorem forget {P : Hp → Prop} {H H1 : Hp} (s : Same H H1) (h : ∀ H', Same H H' → P H') : P H1 := h H1 s
/-- the scope of a comprehension in a comprehension -/
def relS (scope sc : Scope) : Scope := { scope with names := scope.names.map fun (n, k) => if (k == .free && sc.kind == .function && sc.names.lookup n == some .cell) then (n, .cell) else (n, k) }
/-! ### a slot set, by its number -/
theorem set_n0 {α : Type} {y x0 : α} {r : List α} : List.set (x0 :: r) 0 y = y :: r := rfl
theorem set_n1 {α : Type} {y x0 x1 : α} {r : List α} : List.set (x0 :: x1 :: r) 1 y = x0 :: y :: r := rfl
theorem set_n2 {α : Type} {y x0 x1 x2 : α} {r : List α} : List.set (x0 :: x1 :: x2 :: r) 2 y = x0 :: x1 :: y :: r := rfl
theorem set_n3 {α : Type} {y x0 x1 x2 x3 : α} {r : List α} : List.set (x0 :: x1 :: x2 :: x3 :: r) 3 y = x0 :: x1 :: x2 :: y :: r := rfl
theorem set_n4 {α : Type} {y x0 x1 x2 x3 x4 : α} {r : List α} : List.set (x0 :: x1 :: x2 :: x3 :: x4 :: r) 4 y = x0 :: x1 :: x2 :: x3 :: y :: r := rfl
theorem set_n5 {α : Type} {y x0 x1 x2 x3 x4 x5 : α} {r : List α} : List.set (x0 :: x1 :: x2 :: x3 :: x4 :: x5 :: r) 5 y = x0 :: x1 :: x2 :: x3 :: x4 :: y :: r := rfl
theorem set_n6 {α : Type} {y x0 x1 x2 x3 x4 x5 x6 : α} {r : List α} : List.set (x0 :: x1 :: x2 :: x3 :: x4 :: x5 :: x6 :: r) 6 y = x0 :: x1 :: x2 :: x3 :: x4 :: x5 :: y :: r := rfl
theorem set_n7 {α : Type} {y x0 x1 x2 x3 x4 x5 x6 x7 : α} {r : List α} : List.set (x0 :: x1 :: x2 :: x3 :: x4 :: x5 :: x6 :: x7 :: r) 7 y = x0 :: x1 :: x2 :: x3 :: x4 :: x5 :: x6 :: y :: r := rfl
theorem set_n8 {α : Type} {y x0 x1 x2 x3 x4 x5 x6 x7 x8 : α} {r : List α} : List.set (x0 :: x1 :: x2 :: x3 :: x4 :: x5 :: x6 :: x7 :: x8 :: r) 8 y = x0 :: x1 :: x2 :: x3 :: x4 :: x5 :: x6 :: x7 :: y :: r := rfl
theorem set_n9 {α : Type} {y x0 x1 x2 x3 x4 x5 x6 x7 x8 x9 : α} {r : List α} : List.set (x0 :: x1 :: x2 :: x3 :: x4 :: x5 :: x6 :: x7 :: x8 :: x9 :: r) 9 y = x0 :: x1 :: x2 :: x3 :: x4 :: x5 :: x6 :: x7 :: x8 :: y :: r := rfl
theorem set_n10 {α : Type} {y x0 x1 x2 x3 x4 x5 x6 x7 x8 x9 x10 : α} {r : List α} : List.set (x0 :: x1 :: x2 :: x3 :: x4 :: x5 :: x6 :: x7 :: x8 :: x9 :: x10 :: r) 10 y = x0 :: x1 :: x2 :: x3 :: x4 :: x5 :: x6 :: x7 :: x8 :: x9 :: y :: r := rfl
theorem set_n11 {α : Type} {y x0 x1 x2 x3 x4 x5 x6 x7 x8 x9 x10 x11 : α} {r : List α} : List.set (x0 :: x1 :: x2 :: x3 :: x4 :: x5 :: x6 :: x7 :: x8 :: x9 :: x10 :: x11 :: r) 11 y = x0 :: x1 :: x2 :: x3 :: x4 :: x5 :: x6 :: x7 :: x8 :: x9 :: x10 :: y :: r := rfl
theorem set_n12 {α : Type} {y x0 x1 x2 x3 x4 x5 x6 x7 x8 x9 x10 x11 x12 : α} {r : List α} : List.set (x0 :: x1 :: x2 :: x3 :: x4 :: x5 :: x6 :: x7 :: x8 :: x9 :: x10 :: x11 :: x12 :: r) 12 y = x0 :: x1 :: x2 :: x3 :: x4 :: x5 :: x6 :: x7 :: x8 :: x9 :: x10 :: x11 :: y :: r := rfl
theorem set_n13 {α : Type} {y x0 x1 x2 x3 x4 x5 x6 x7 x8 x9 x10 x11 x12 x13 : α} {r : List α} : List.set (x0 :: x1 :: x2 :: x3 :: x4 :: x5 :: x6 :: x7 :: x8 :: x9 :: x10 :: x11 :: x12 :: x13 :: r) 13 y = x0 :: x1 :: x2 :: x3 :: x4 :: x5 :: x6 :: x7 :: x8 :: x9 :: x10 :: x11 :: x12 :: y :: r := rfl
theorem set_n14 {α : Type} {y x0 x1 x2 x3 x4 x5 x6 x7 x8 x9 x10 x11 x12 x13 x14 : α} {r : List α} : List.set (x0 :: x1 :: x2 :: x3 :: x4 :: x5 :: x6 :: x7 :: x8 :: x9 :: x10 :: x11 :: x12 :: x13 :: x14 :: r) 14 y = x0 :: x1 :: x2 :: x3 :: x4 :: x5 :: x6 :: x7 :: x8 :: x9 :: x10 :: x11 :: x12 :: x13 :: y :: r := rfl
theorem set_n15 {α : Type} {y x0 x1 x2 x3 x4 x5 x6 x7 x8 x9 x10 x11 x12 x13 x14 x15 : α} {r : List α} : List.set (x0 :: x1 :: x2 :: x3 :: x4 :: x5 :: x6 :: x7 :: x8 :: x9 :: x10 :: x11 :: x12 :: x13 :: x14 :: x15 :: r) 15 y = x0 :: x1 :: x2 :: x3 :: x4 :: x5 :: x6 :: x7 :: x8 :: x9 :: x10 :: x11 :: x12 :: x13 :: x14 :: y :: r := rfl
theorem set_n16 {α : Type} {y x0 x1 x2 x3 x4 x5 x6 x7 x8 x9 x10 x11 x12 x13 x14 x15 x16 : α} {r : List α} : List.set (x0 :: x1 :: x2 :: x3 :: x4 :: x5 :: x6 :: x7 :: x8 :: x9 :: x10 :: x11 :: x12 :: x13 :: x14 :: x15 :: x16 :: r) 16 y = x0 :: x1 :: x2 :: x3 :: x4 :: x5 :: x6 :: x7 :: x8 :: x9 :: x10 :: x11 :: x12 :: x13 :: x14 :: x15 :: y :: r := rfl
theorem set_n17 {α : Type} {y x0 x1 x2 x3 x4 x5 x6 x7 x8 x9 x10 x11 x12 x13 x14 x15 x16 x17 : α} {r : List α} : List.set (x0 :: x1 :: x2 :: x3 :: x4 :: x5 :: x6 :: x7 :: x8 :: x9 :: x10 :: x11 :: x12 :: x13 :: x14 :: x15 :: x16 :: x17 :: r) 17 y = x0 :: x1 :: x2 :: x3 :: x4 :: x5 :: x6 :: x7 :: x8 :: x9 :: x10 :: x11 :: x12 :: x13 :: x14 :: x15 :: x16 :: y :: r := rfl
theorem set_n18 {α : Type} {y x0 x1 x2 x3 x4 x5 x6 x7 x8 x9 x10 x11 x12 x13 x14 x15 x16 x17 x18 : α} {r : List α} : List.set (x0 :: x1 :: x2 :: x3 :: x4 :: x5 :: x6 :: x7 :: x8 :: x9 :: x10 :: x11 :: x12 :: x13 :: x14 :: x15 :: x16 :: x17 :: x18 :: r) 18 y = x0 :: x1 :: x2 :: x3 :: x4 :: x5 :: x6 :: x7 :: x8 :: x9 :: x10 :: x11 :: x12 :: x13 :: x14 :: x15 :: x16 :: x17 :: y :: r := rfl
theorem set_n19 {α : Type} {y x0 x1 x2 x3 x4 x5 x6 x7 x8 x9 x10 x11 x12 x13 x14 x15 x16 x17 x18 x19 : α} {r : List α} : List.set (x0 :: x1 :: x2 :: x3 :: x4 :: x5 :: x6 :: x7 :: x8 :: x9 :: x10 :: x11 :: x12 :: x13 :: x14 :: x15 :: x16 :: x17 :: x18 :: x19 :: r) 19 y = x0 :: x1 :: x2 :: x3 :: x4 :: x5 :: x6 :: x7 :: x8 :: x9 :: x10 :: x11 :: x12 :: x13 :: x14 :: x15 :: x16 :: x17 :: x18 :: y :: r := rfl
theorem set_n20 {α : Type} {y x0 x1 x2 x3 x4 x5 x6 x7 x8 x9 x10 x11 x12 x13 x14 x15 x16 x17 x18 x19 x20 : α} {r : List α} : List.set (x0 :: x1 :: x2 :: x3 :: x4 :: x5 :: x6 :: x7 :: x8 :: x9 :: x10 :: x11 :: x12 :: x13 :: x14 :: x15 :: x16 :: x17 :: x18 :: x19 :: x20 :: r) 20 y = x0 :: x1 :: x2 :: x3 :: x4 :: x5 :: x6 :: x7 :: x8 :: x9 :: x10 :: x11 :: x12 :: x13 :: x14 :: x15 :: x16 :: x17 :: x18 :: x19 :: y :: r := rfl
theorem set_n21 {α : Type} {y x0 x1 x2 x3 x4 x5 x6 x7 x8 x9 x10 x11 x12 x13 x14 x15 x16 x17 x18 x19 x20 x21 : α} {r : List α} : List.set (x0 :: x1 :: x2 :: x3 :: x4 :: x5 :: x6 :: x7 :: x8 :: x9 :: x10 :: x11 :: x12 :: x13 :: x14 :: x15 :: x16 :: x17 :: x18 :: x19 :: x20 :: x21 :: r) 21 y = x0 :: x1 :: x2 :: x3 :: x4 :: x5 :: x6 :: x7 :: x8 :: x9 :: x10 :: x11 :: x12 :: x13 :: x14 :: x15 :: x16 :: x17 :: x18 :: x19 :: x20 :: y :: r := rfl
theorem set_n22 {α : Type} {y x0 x1 x2 x3 x4 x5 x6 x7 x8 x9 x10 x11 x12 x13 x14 x15 x16 x17 x18 x19 x20 x21 x22 : α} {r : List α} : List.set (x0 :: x1 :: x2 :: x3 :: x4 :: x5 :: x6 :: x7 :: x8 :: x9 :: x10 :: x11 :: x12 :: x13 :: x14 :: x15 :: x16 :: x17 :: x18 :: x19 :: x20 :: x21 :: x22 :: r) 22 y = x0 :: x1 :: x2 :: x3 :: x4 :: x5 :: x6 :: x7 :: x8 :: x9 :: x10 :: x11 :: x12 :: x13 :: x14 :: x15 :: x16 :: x17 :: x18 :: x19 :: x20 :: x21 :: y :: r := rfl
theorem set_n23 {α : Type} {y x0 x1 x2 x3 x4 x5 x6 x7 x8 x9 x10 x11 x12 x13 x14 x15 x16 x17 x18 x19 x20 x21 x22 x23 : α} {r : List α} : List.set (x0 :: x1 :: x2 :: x3 :: x4 :: x5 :: x6 :: x7 :: x8 :: x9 :: x10 :: x11 :: x12 :: x13 :: x14 :: x15 :: x16 :: x17 :: x18 :: x19 :: x20 :: x21 :: x22 :: x23 :: r) 23 y = x0 :: x1 :: x2 :: x3 :: x4 :: x5 :: x6 :: x7 :: x8 :: x9 :: x10 :: x11 :: x12 :: x13 :: x14 :: x15 :: x16 :: x17 :: x18 :: x19 :: x20 :: x21 :: x22 :: y :: r := rfl
theorem set_n24 {α : Type} {y x0 x1 x2 x3 x4 x5 x6 x7 x8 x9 x10 x11 x12 x13 x14 x15 x16 x17 x18 x19 x20 x21 x22 x23 x24 : α} {r : List α} : List.set (x0 :: x1 :: x2 :: x3 :: x4 :: x5 :: x6 :: x7 :: x8 :: x9 :: x10 :: x11 :: x12 :: x13 :: x14 :: x15 :: x16 :: x17 :: x18 :: x19 :: x20 :: x21 :: x22 :: x23 :: x24 :: r) 24 y = x0 :: x1 :: x2 :: x3 :: x4 :: x5 :: x6 :: x7 :: x8 :: x9 :: x10 :: x11 :: x12 :: x13 :: x14 :: x15 :: x16 :: x17 :: x18 :: x19 :: x20 :: x21 :: x22 :: x23 :: y :: r := rfl
theorem set_n25 {α : Type} {y x0 x1 x2 x3 x4 x5 x6 x7 x8 x9 x10 x11 x12 x13 x14 x15 x16 x17 x18 x19 x20 x21 x22 x23 x24 x25 : α} {r : List α} : List.set (x0 :: x1 :: x2 :: x3 :: x4 :: x5 :: x6 :: x7 :: x8 :: x9 :: x10 :: x11 :: x12 :: x13 :: x14 :: x15 :: x16 :: x17 :: x18 :: x19 :: x20 :: x21 :: x22 :: x23 :: x24 :: x25 :: r) 25 y = x0 :: x1 :: x2 :: x3 :: x4 :: x5 :: x6 :: x7 :: x8 :: x9 :: x10 :: x11 :: x12 :: x13 :: x14 :: x15 :: x16 :: x17 :: x18 :: x19 :: x20 :: x21 :: x22 :: x23 :: x24 :: y :: r := rfl
theorem set_n26 {α : Type} {y x0 x1 x2 x3 x4 x5 x6 x7 x8 x9 x10 x11 x12 x13 x14 x15 x16 x17 x18 x19 x20 x21 x22 x23 x24 x25 x26 : α} {r : List α} : List.set (x0 :: x1 :: x2 :: x3 :: x4 :: x5 :: x6 :: x7 :: x8 :: x9 :: x10 :: x11 :: x12 :: x13 :: x14 :: x15 :: x16 :: x17 :: x18 :: x19 :: x20 :: x21 :: x22 :: x23 :: x24 :: x25 :: x26 :: r) 26 y = x0 :: x1 :: x2 :: x3 :: x4 :: x5 :: x6 :: x7 :: x8 :: x9 :: x10 :: x11 :: x12 :: x13 :: x14 :: x15 :: x16 :: x17 :: x18 :: x19 :: x20 :: x21 :: x22 :: x23 :: x24 :: x25 :: y :: r := rfl
theorem set_n27 {α : Type} {y x0 x1 x2 x3 x4 x5 x6 x7 x8 x9 x10 x11 x12 x13 x14 x15 x16 x17 x18 x19 x20 x21 x22 x23 x24 x25 x26 x27 : α} {r : List α} : List.set (x0 :: x1 :: x2 :: x3 :: x4 :: x5 :: x6 :: x7 :: x8 :: x9 :: x10 :: x11 :: x12 :: x13 :: x14 :: x15 :: x16 :: x17 :: x18 :: x19 :: x20 :: x21 :: x22 :: x23 :: x24 :: x25 :: x26 :: x27 :: r) 27 y = x0 :: x1 :: x2 :: x3 :: x4 :: x5 :: x6 :: x7 :: x8 :: x9 :: x10 :: x11 :: x12 :: x13 :: x14 :: x15 :: x16 :: x17 :: x18 :: x19 :: x20 :: x21 :: x22 :: x23 :: x24 :: x25 :: x26 :: y :: r := rfl
theorem set_n28 {α : Type} {y x0 x1 x2 x3 x4 x5 x6 x7 x8 x9 x10 x11 x12 x13 x14 x15 x16 x17 x18 x19 x20 x21 x22 x23 x24 x25 x26 x27 x28 : α} {r : List α} : List.set (x0 :: x1 :: x2 :: x3 :: x4 :: x5 :: x6 :: x7 :: x8 :: x9 :: x10 :: x11 :: x12 :: x13 :: x14 :: x15 :: x16 :: x17 :: x18 :: x19 :: x20 :: x21 :: x22 :: x23 :: x24 :: x25 :: x26 :: x27 :: x28 :: r) 28 y = x0 :: x1 :: x2 :: x3 :: x4 :: x5 :: x6 :: x7 :: x8 :: x9 :: x10 :: x11 :: x12 :: x13 :: x14 :: x15 :: x16 :: x17 :: x18 :: x19 :: x20 :: x21 :: x22 :: x23 :: x24 :: x25 :: x26 :: x27 :: y :: r := rfl
theorem set_n29 {α : Type} {y x0 x1 x2 x3 x4 x5 x6 x7 x8 x9 x10 x11 x12 x13 x14 x15 x16 x17 x18 x19 x20 x21 x22 x23 x24 x25 x26 x27 x28 x29 : α} {r : List α} : List.set (x0 :: x1 :: x2 :: x3 :: x4 :: x5 :: x6 :: x7 :: x8 :: x9 :: x10 :: x11 :: x12 :: x13 :: x14 :: x15 :: x16 :: x17 :: x18 :: x19 :: x20 :: x21 :: x22 :: x23 :: x24 :: x25 :: x26 :: x27 :: x28 :: x29 :: r) 29 y = x0 :: x1 :: x2 :: x3 :: x4 :: x5 :: x6 :: x7 :: x8 :: x9 :: x10 :: x11 :: x12 :: x13 :: x14 :: x15 :: x16 :: x17 :: x18 :: x19 :: x20 :: x21 :: x22 :: x23 :: x24 :: x25 :: x26 :: x27 :: x28 :: y :: r := rfl
end Hf
/-! ## sums of whole numbers -/
namespace Hf
/-- the sum of f 0 .. f (n-1) -/
def sumN : Nat → (Nat → Int) → Int
  | 0, _ => 0
  | n + 1, f => sumN n f + f n
theorem sumN_congr {n : Nat} {f g : Nat → Int} (h : ∀ i, i < n → f i = g i) : sumN n f = sumN n g := by
  induction n with
  | zero => rfl
  | succ n ih => rw [sumN, sumN, ih fun i hi => h i (by omega), h n (by omega)]
theorem sumN_zero (n : Nat) : sumN n (fun _ => 0) = 0 := by
  induction n with
  | zero => rfl
  | succ n ih => rw [sumN, ih]; rfl
theorem sumN_zero' {n : Nat} {f : Nat → Int} (h : ∀ i, i < n → f i = 0) : sumN n f = 0 := by
  rw [sumN_congr h, sumN_zero]
theorem sumN_lin (n : Nat) (x y : Int) (f g : Nat → Int) : sumN n (fun i => x * f i + y * g i) = x * sumN n f + y * sumN n g := by
  induction n with
  | zero => simp [sumN]
  | succ n ih => rw [sumN, sumN, sumN, ih]; grind
theorem sumN_mul (n : Nat) (x : Int) (f : Nat → Int) : sumN n (fun i => x * f i) = x * sumN n f := by
  induction n with
  | zero => simp [sumN]
  | succ n ih => rw [sumN, sumN, ih]; grind
theorem sumN_add (n : Nat) (f g : Nat → Int) : sumN n (fun i => f i + g i) = sumN n f + sumN n g := by
  induction n with
  | zero => simp [sumN]
  | succ n ih => rw [sumN, sumN, sumN, ih]; grind
theorem sumN_sub (n : Nat) (f g : Nat → Int) : sumN n (fun i => f i - g i) = sumN n f - sumN n g := by
  induction n with
  | zero => simp [sumN]
  | succ n ih => rw [sumN, sumN, sumN, ih]; grind
theorem sumN_one {n k : Nat} {f : Nat → Int} (hk : k < n) (h : ∀ i, i < n → i ≠ k → f i = 0) : sumN n f = f k := by
  induction n with
  | zero => omega
  | succ n ih =>
    rw [sumN]
    by_cases c : k = n
    · subst c
      rw [sumN_zero' fun i hi => h i (by omega) (by omega)]
      omega
    · rw [ih (by omega) fun i hi hc => h i (by omega) hc, h n (by omega) (by omega)]
      omega
theorem sumN_two {n k l : Nat} {f : Nat → Int} (hk : k < n) (hl : l < n) (hkl : k ≠ l) (h : ∀ i, i < n → i ≠ k → i ≠ l → f i = 0) : sumN n f = f k + f l := by
  induction n with
  | zero => omega
  | succ n ih =>
    rw [sumN]
    by_cases c : k = n
    · subst c
      rw [sumN_one (k := l) (by omega) fun i hi hc => h i (by omega) (by omega) hc]
      omega
    · by_cases c2 : l = n
      · subst c2
        rw [sumN_one (k := k) (by omega) fun i hi hc => h i (by omega) hc (by omega)]
      · rw [ih (by omega) (by omega) fun i hi hc hd => h i (by omega) hc hd, h n (by omega) (by omega) (by omega)]
        omega
theorem sumN_swap (n m : Nat) (f : Nat → Nat → Int) : sumN n (fun i => sumN m (fun j => f i j)) = sumN m (fun j => sumN n (fun i => f i j)) := by
  induction n with
  | zero => simp [sumN, sumN_zero]
  | succ n ih =>
    rw [sumN, ih, ← sumN_add]
    exact sumN_congr fun j _ => rfl
theorem sumN_nn {n : Nat} {f : Nat → Int} (h : ∀ i, i < n → 0 ≤ f i) : 0 ≤ sumN n f := by
  induction n with
  | zero => exact Int.le_refl _
  | succ n ih =>
    rw [sumN]
    have := ih fun i hi => h i (by omega)
    have := h n (by omega)
    omega
theorem sumN_neg_ex {n : Nat} {f : Nat → Int} (h : sumN n f < 0) : ∃ i, i < n ∧ f i < 0 := by
  by_cases c : ∃ i, i < n ∧ f i < 0
  · exact c
  · have := sumN_nn (n := n) (f := f) fun i hi => by
      by_cases d : f i < 0
      · exact absurd ⟨i, hi, d⟩ c
      · omega
    omega
theorem sumN_le {n : Nat} {f g : Nat → Int} (h : ∀ i, i < n → f i ≤ g i) : sumN n f ≤ sumN n g := by
  induction n with
  | zero => exact Int.le_refl _
  | succ n ih =>
    rw [sumN, sumN]
    have := ih fun i hi => h i (by omega)
    have := h n (by omega)
    omega
theorem sumN_const (n : Nat) (x : Int) : sumN n (fun _ => x) = n * x := by
  induction n with
  | zero => simp [sumN]
  | succ n ih => rw [sumN, ih]; grind
theorem sumN_range (n : Nat) (f : Nat → Int) : ((List.range n).map f).sum = sumN n f := by
  induction n with
  | zero => rfl
  | succ n ih => rw [List.range_succ, List.map_append, List.sum_append, ih]; simp [sumN]
theorem sumN_head (n : Nat) (f : Nat → Int) : sumN (n + 1) f = f 0 + sumN n (fun k => f (k + 1)) := by
  induction n with
  | zero => simp [sumN]
  | succ n ih => rw [sumN, ih, sumN]; omega
theorem sumN_rot1 (n : Nat) (f : Nat → Int) : sumN n (fun k => f ((k + 1) % n)) = sumN n f := by
  cases n with
  | zero => rfl
  | succ n =>
    rw [sumN_head n f, sumN, Nat.mod_self, sumN_congr (g := fun k => f (k + 1)) fun i hi => by rw [Nat.mod_eq_of_lt (by omega)]]
    omega
theorem sumN_rot (n t : Nat) (f : Nat → Int) : sumN n (fun k => f ((k + t) % n)) = sumN n f := by
  induction t generalizing f with
  | zero => exact sumN_congr fun i hi => by rw [Nat.add_zero, Nat.mod_eq_of_lt hi]
  | succ t ih =>
    have e : (fun k => f ((k + (t + 1)) % n)) = fun k => (fun x => f ((x + 1) % n)) ((k + t) % n) := by
      funext k
      show _ = f (((k + t) % n + 1) % n)
      rw [Nat.mod_add_mod, Nat.add_assoc]
    rw [e, ih fun x => f ((x + 1) % n), sumN_rot1]
/-- all turnings of the one against all of the other -/
theorem sumN_turns (n : Nat) (g : Nat → Nat → Int) : sumN n (fun k => sumN n fun j => sumN n fun t => g ((k + t) % n) ((j + t) % n)) = n * sumN n (fun a => sumN n fun b => g a b) := by
  have e1 : (fun k => sumN n fun j => sumN n fun t => g ((k + t) % n) ((j + t) % n)) = fun k => sumN n fun t => sumN n fun b => g ((k + t) % n) b := by
    funext k
    rw [sumN_swap]
    exact sumN_congr fun t _ => sumN_rot n t fun b => g ((k + t) % n) b
  rw [e1, sumN_swap, sumN_congr (g := fun _ => sumN n (fun a => sumN n fun b => g a b)) (fun t _ => sumN_rot n t fun a => sumN n fun b => g a b), sumN_const]
theorem sumN_list {α : Type} (f : α → Int) (x : α) : ∀ ms : List α, (ms.map f).sum = sumN ms.length fun i => f ((ms[i]?).getD x)
  | [] => rfl
  | y :: ms => by
    rw [List.map_cons, List.sum_cons, List.length_cons, sumN_head, sumN_list f x ms]
    rfl
end Hf
/-! ## exceptions: caught, noted and asked behind the suite -/
namespace Hf
open PySem PySem.Spec PyProof.Rows L2
/-- at a: a caught exception of the class cls, its dict d -/
def exHO (a : Addr) (cls : Value) (d : Option Addr) : HO := .ext fun h => ∃ oe vs, h.get? a = some oe ∧ Zc cls d oe ∧ oe.data = .fields vs
theorem exHO_ok {P : Program} {w : World} {H : Hp} {h : Heap} {a : Addr} {cls : Value} {d : Option Addr} {oe : Obj} {vs : Array Value} (e : h.get? a = some oe) (hz : Zc cls d oe) (hd : oe.data = .fields vs) : ObjOk P w H h a (exHO a cls d) :=
  ⟨⟨oe, vs, e, hz, hd⟩, ⟨oe, e⟩, fun _ _ ⟨o, v, x, y, z⟩ k => ⟨o, v, k _ x, y, z⟩⟩
theorem exHO_at {P : Program} {w : World} {H : Hp} {h : Heap} {a : Addr} {cls : Value} {d : Option Addr} (ok : HOk P w H h) (e : H a = some (exHO a cls d)) : ∃ oe vs, h.get? a = some oe ∧ Zc cls d oe ∧ oe.data = .fields vs := by
  have x : ObjOk P w H h a (.ext fun h => ∃ oe vs, h.get? a = some oe ∧ Zc cls d oe ∧ oe.data = .fields vs) := ok a _ e
  exact x.1
/-- a pinned object of ours is taken up -/
theorem track {X : Cx} {pins : List (Addr × Obj)} {σ : L2.St} {H : Hp} {s : Shared} {a : Addr} {oe : Obj} {cls : Value} {d : Option Addr} {vs : Array Value} (I : Inv X ((a, oe) :: pins) σ H s) (hz : Zc cls d oe) (hd : oe.data = .fields vs)
    (n0 : X.s_0.heap.get? a = none) (np : ∀ p ∈ X.pn ++ pins, p.1 ≠ a) : Inv X pins σ (L2.upd H a (exHO a cls d)) s := by
  obtain ⟨ga, na, nL, nF, nc⟩ := I.pin (a, oe) (List.mem_append_right _ List.mem_cons_self)
  dsimp only at ga na nL nF nc
  have ncell : ∀ x c, X.env.cells.lookup x = some c → c ≠ a := fun x c e z => by
    obtain ⟨v, o, ho, hdc⟩ := I.cell x c e
    rw [z, ga] at ho
    cases ho
    exact nc _ hdc
  refine ⟨I.ok, I.os, I.bare, ⟨I.base.keep, I.base.slot, fun b o e n hx => ?_, I.base.there, fun b xs e => ?_, fun b o u e => ?_, fun b ps e => ?_⟩, I.loc, I.cell, ?_, fun x c e => ?_, fun p hp => ?_, fun b o e => ?_, I.len⟩
  · rw [upd_ne (fun z => by rw [z, n0] at e; cases e)]
    exact I.base.free b o e n hx
  · have q := I.base.tups b xs e
    rw [upd_ne (ne_of_none q na)]
    exact q
  · have q := I.base.frzs b o u e
    rw [upd_ne (ne_of_none q na)]
    exact q
  · obtain ⟨m, q⟩ := I.base.tbls b ps e
    exact ⟨m, by rw [upd_ne (ne_of_none q na)]; exact q⟩
  · rw [upd_ne (Ne.symm nL)]
    exact I.free
  · rw [upd_ne (ncell x c e)]
    exact I.freeC x c e
  · obtain ⟨e, n, r⟩ := I.pin p (by
      rcases List.mem_append.mp hp with h | h
      · exact List.mem_append_left _ h
      · exact List.mem_append_right _ (List.mem_cons_of_mem _ h))
    exact ⟨e, by rw [upd_ne (np p hp)]; exact n, r⟩
  · by_cases hb : b = a
    · subst hb
      rw [upd_same] at e
      cases e
      exact exHO_ok ga hz hd
    · rw [upd_ne hb] at e
      refine (I.hok b o e).stay (fun c u _ q => q) (fun c q => ?_) fun c xs q => ?_
      · rw [upd_ne (ne_of_none q na)]
        exact q
      · rw [upd_ne (ne_of_none q na)]
        exact q
/-- what follows the suite -/
def nxAs (i : Nat) (a : Addr) (cls : Value) (d : Option Addr) (nx : L2.St → Hp → Prop) : L2.St → Hp → Prop := fun σ' H' => nx (σ'.set i none) (L2.upd H' a (exHO a cls d))
def rtAs (a : Addr) (cls : Value) (d : Option Addr) (rt : VK) : VK := fun v H' => rt v (L2.upd H' a (exHO a cls d))
/-- what the clause 'except x as n' wishes of an exception of the body -/
def wAsT (K : PySem.W.Frag) (c : Value) (i : Nat) (ts : TS) (Wout : WX) (D : Ends) : WX := fun cls d σ H =>
  ∃ b, PySem.W.exmOne K cls c = some b ∧ (b = true → ∀ a, H a = none → ts { nx := nxAs i a cls d D.nx, rt := rtAs a cls d D.rt, bk := nxAs i a cls d D.bk, ct := nxAs i a cls d D.ct } (σ.set i (some (.ref a))) H) ∧
    (b = false → Wout cls d σ H)
def tTryAs (K : PySem.W.Frag) (c : Value) (i : Nat) (ts : TS) (Wout : WX) (tb : WX → TS) : TS := fun D σ H => tb (wAsT K c i ts Wout D) D σ H
section
variable {X : Cx} {x n : Str} {c : Value} {i : Nat} {body suite : List Stmt} {b₀ : Stmt} {np pos pos' : Pos} {tb : WX → TS} {ts : TS} {Wout : WX}
theorem ps_try_asT (hs : X.stack = X.env :: X.outer) (hf : X.env.frame = some X.env.locals) (hex : X.ex = []) (hN : X.N.Nodup) (hi : X.N[i]? = some n) (hln : X.env.kindOf n = some .local) (hc : Names X x c) (tk : Takes X Wout)
    (hb : ∀ (W : WX) (pn : List (Addr × Obj)) (xe : Value → Shared → Prop), Takes (X.tr pn xe) W → PassesOwn (model X.prog X.w) X.A X.env xe → PSs (X.tr pn xe) body (tb W))
    (hsu : ∀ (a : Addr) (oe : Obj) (pn : List (Addr × Obj)), PSs (X.suite a ((a, oe) :: pn)) (b₀ :: suite) ts) :
    PS X (.Try body [.ExceptHandler (some (.Name x np)) (some n) (b₀ :: suite) pos'] [] [] pos) (tTryAs X.K c i ts Wout tb) := by
  refine ⟨fun pins s σ H D I h => ?_⟩
  have ok := I.ok
  have hfr : X.A.frames = some (X.env :: X.outer) := by rw [ok.frames, hs]
  have hloc : Loc X.env.scope n := .inl hln
  refine wpAny_Try_except ?_
  refine wpAny_mono ((hb (wAsT X.K c i ts Wout D) (X.pn ++ pins) (fun e s₁ => wpAny (model X.prog X.w) X.A (noteFrame e X.env) (fun _ s₂ => wpAny (model X.prog X.w) X.A (setFlight e none) (fun _ s₃ =>
    wpAny (model X.prog X.w) X.A (handleBy e X.env [.ExceptHandler (some (.Name x np)) (some n) (b₀ :: suite) pos']) (SP X pins D) X.xe s₃) X.xe s₂) X.xe s₁) (fun u s' xx => ?_) PassesOwn.looking).run [] s σ H D (I.toTry _) h) (fun f s1 hsp => ?_) (fun e s1 he => he)
  · obtain ⟨a, B, sI, pins', σ', H', cls, d, rfl, J', nb, up, sky, na, os, ag, b, hb1, hyes, hno⟩ := xx
    have J : Inv X pins σ' H' sI := J'.ofTry ok
    have sky' : Sky B (X.env :: X.outer) a (Zc cls d) X.env.locals s'.heap := by rw [← hs]; exact sky
    show wpAny (model X.prog X.w) X.A (noteFrame (.ref a) X.env) _ _ _
    refine Sky.land Zc.steady hfr hf sky' fun h3 fl3 up3 => ?_
    have J3 : Inv X pins σ' H' { s' with heap := h3 } := J.landed nb fl3.1 (up.trans up3) os ag
    obtain ⟨oe3, vs3, he3, hz3, hd3⟩ := fl3.there
    have notFr : ∀ {h : Heap} {o : Obj} {vs : Array Value}, h.FunFrames B (X.env :: X.outer) → h.get? a = some o → o.data = .fields vs → a ∉ frs (X.env :: X.outer) := fun {h o vs} ff e dd hm => by
      obtain ⟨_, o', e', hnf⟩ := ff.mem hm
      rw [e] at e'; cases e'
      exact hnf _ dd
    have nfr := notFr fl3.2.2.1 he3 hd3
    have nL : a ≠ X.env.locals := fun z => nfr (List.mem_filterMap.mpr ⟨X.env, List.mem_cons_self, by rw [hf, z]⟩)
    have nF : a ∉ X.fs := fun hm => by
      obtain ⟨e, he, q⟩ := List.mem_filterMap.mp hm
      exact nfr (List.mem_filterMap.mpr ⟨e, List.mem_cons_of_mem _ he, q⟩)
    have nI : sI.heap.get? a = none := by
      cases q : sI.heap.get? a with
      | none => rfl
      | some o =>
        have z := nb a o q (by rw [hs]; exact nfr)
        rw [fl3.2.1] at z
        cases z
    have n0 : X.s_0.heap.get? a = none := by
      cases q : X.s_0.heap.get? a with
      | none => rfl
      | some o =>
        obtain ⟨o', z⟩ := J.base.there a o q (by rw [hex]; exact List.not_mem_nil)
        rw [nI] at z
        cases z
    have npin : ∀ p ∈ X.pn ++ pins, p.1 ≠ a := fun p hp z => by
      have q := (J.pin p hp).1
      rw [z, nI] at q
      cases q
    have S3 := J3.suite he3 hd3 na nL nF
    refine wpAny_handleBy_cons (codeAny_handlers_test ?_) (by intro q; cases q)
    have LT : PySem.W.Looks (model X.prog X.w) h3 (typeOf (.ref a)) cls := fun A Q E s k q => wpAny_typeOf_ref (k _ _ he3) (by rw [hz3.1]; exact q)
    have LM := PySem.W.exm_one (M := model X.prog X.w) (J3.kIn) LT hb1
    have test : ∀ {Q : Value → Shared → Prop} {E : Value → Shared → Prop}, Q c { s' with heap := h3 } → wpAny (model X.prog X.w) (X.A.mark (some (.ref a))) (eval (.Name x np) X.env) Q E { s' with heap := h3 } := fun {Q E} q => by
      obtain ⟨hg, hdbg, hm | ⟨hm, hv, hnn⟩⟩ := hc
      · exact ld_glob (X := X.suite a ((a, oe3) :: (X.pn ++ pins))) S3 hg hm q hdbg
      · exact ld_blt (X := X.suite a ((a, oe3) :: (X.pn ++ pins))) S3 hg hm hv q hnn hdbg
    refine test (LM.here ?_)
    cases b with
    | true =>
      refine codeAny_handlers_suite_as ?_
      refine HandSPX.lands_againZ fl3 fun h4 fl4 up4 => ?_
      have J4 : Inv X pins σ' H' { s' with heap := h4 } := J.landed nb fl4.1 ((up.trans up3).trans up4) os ag
      obtain ⟨oe4, vs4, he4, hz4, hd4⟩ := fl4.there
      have S4 := J4.suite he4 hd4 na nL nF
      refine store_ok (X := X.suite a ((a, oe4) :: (X.pn ++ pins))) (v := .ref a) S4 hN hi hloc rfl (fun s5 S5 => ?_) (.inr hln)
      refine wpAny_mono ((hsu a oe4 (X.pn ++ pins)).run [] s5 _ H' _ S5 (hyes rfl a na)) (fun f s6 hsp => ?_) (fun _ _ z => False.elim z)
      have end_ : ∀ {σ6 : L2.St} {H6 : Hp} {Q : Shared → Prop}, Inv (X.suite a ((a, oe4) :: (X.pn ++ pins))) [] σ6 H6 s6 → (∀ s7, Inv X pins (σ6.set i none) (L2.upd H6 a (exHO a cls d)) s7 → Q s7) →
          wpAny (model X.prog X.w) X.A (do bindName X.env n .none; unbindBehindTheSuite X.env n pos') (fun _ s7 => Q s7) X.xe s6 := fun {σ6 H6 Q} S6 hq => by
        have S7 : Inv X ((a, oe4) :: pins) σ6 H6 s6 := ⟨ok, S6.os, S6.bare, S6.base, S6.loc, S6.cell, S6.free, S6.freeC, fun p hp => S6.pin p (by
          show p ∈ (a, oe4) :: (X.pn ++ pins) ++ []
          rw [List.append_nil]
          rcases List.mem_append.mp hp with h | h
          · exact List.mem_cons_of_mem _ (List.mem_append_left _ h)
          · rcases List.mem_cons.mp h with h | h
            · rw [h]
              exact List.mem_cons_self
            · exact List.mem_cons_of_mem _ (List.mem_append_right _ h)), S6.hok, S6.len⟩
        exact gone_ok S7 hN hi hln fun s7 J7 => hq s7 (track J7 hz4 hd4 n0 npin)
      cases f with
      | next =>
        obtain ⟨σ6, H6, S6, q6⟩ := hsp
        exact end_ S6 fun s7 J7 => ⟨_, _, J7, q6⟩
      | brk =>
        obtain ⟨σ6, H6, S6, q6⟩ := hsp
        exact end_ S6 fun s7 J7 => ⟨_, _, J7, q6⟩
      | cont =>
        obtain ⟨σ6, H6, S6, q6⟩ := hsp
        exact end_ S6 fun s7 J7 => ⟨_, _, J7, q6⟩
      | ret u =>
        obtain ⟨v6, σ6, H6, S6, r6, q6⟩ := hsp
        exact end_ S6 fun s7 J7 => ⟨_, _, _, J7, r6, q6⟩
    | false =>
      show wpAny _ X.A (handleBy (.ref a) X.env []) _ _ _
      refine wpAny_handleBy_nil ?_
      obtain ⟨k1, k2, k3, oe, vs, T, oT, ts', he, hz, hd, h1, hr⟩ := id fl3
      unfold PySem.passOn
      refine wpAny_bind (wpAny_field he hd h1 ?_)
      rw [if_neg (show ¬ ((Value.ref T == Value.none) = true) from by simp)]
      have fin : wpAny (model X.prog X.w) X.A (setFlight (.ref a) X.env.frame) (fun _ s4 => wpAny (model X.prog X.w) X.A (throw (.ref a) : Sem Flow) (SP X pins D) X.xe s4) X.xe { s' with heap := h3 } := by
        rw [hf]
        refine HandSPX.setFlight_upZ fl3 fun h4 hh4 up4 => wpAny_throw (tk _ _ ?_)
        exact ⟨a, B, sI, pins, σ', H', cls, d, rfl, J, nb, (up.trans up3).trans up4, .inr (.inr (by rw [hs]; exact hh4)), na, os, ag, hno rfl⟩
      first
        | exact wpAny_bind (wpAny_pure (wpAny_bind fin))
        | exact wpAny_bind fin
  · cases f with
    | next =>
      obtain ⟨σ', H', J', q⟩ := hsp
      exact wpAny_execs_nil ⟨σ', H', J'.ofTry ok, q⟩
    | brk =>
      obtain ⟨σ', H', J', q⟩ := hsp
      exact ⟨σ', H', J'.ofTry ok, q⟩
    | cont =>
      obtain ⟨σ', H', J', q⟩ := hsp
      exact ⟨σ', H', J'.ofTry ok, q⟩
    | ret u =>
      obtain ⟨v, σ', H', J', r, q⟩ := hsp
      exact ⟨v, σ', H', J'.ofTry ok, r, q⟩
end
/-! ### isinstance -/
/-- isinstance(x, c): x a tracked exception, or any other thing -/
def rIsX (K : PySem.W.Frag) : List V → Hp → VK → Prop := fun xs H Q =>
  (∃ (a D : Addr) (d : Option Addr) (c : V) (cv : Value) (b : Bool), xs = [.ref a, c] ∧ H a = some (exHO a (.ref D) d) ∧ (∀ dd, d = some dd → ∃ fs, H dd = some (.xd fs)) ∧ ExcC K D ∧ (∀ u, RelV c u → u = cv) ∧ PySem.W.kitOne K (.ref D) cv = some b ∧ Q (.bl b) H) ∨ rIsi K xs H Q
theorem call_isX {X : Cx} : CallR X (.builtin "isinstance") (rIsX X.K) := by
  intro pins s σ H xs us Q I r h
  rcases h with ⟨a, D, d, c, cv, b, rfl, ha, hdd, C, hcv, e, q⟩ | h
  · cases r with
    | cons rx rr =>
      cases rr with
      | cons rt rr =>
        cases rr
        cases rx
        have ec := hcv _ rt
        subst ec
        obtain ⟨oe, vs, hget, hz, hv⟩ := exHO_at I.hok ha
        obtain ⟨od, J⟩ : ∃ od, PySem.W.InstAt s.heap a oe D od := by
          cases d with
          | none =>
            obtain ⟨oc, od, oda, osl⟩ := oe
            obtain ⟨h1, h2⟩ := hz
            dsimp only at h1 h2 hv
            subst h1 h2 hv
            exact ⟨none, hget, rfl, rfl, trivial⟩
          | some dd =>
            obtain ⟨fs, hfs⟩ := hdd dd rfl
            have x : ObjOk X.prog X.w H s.heap dd (.xd fs) := I.hok dd _ hfs
            obtain ⟨mA, ⟨o, es, ep, ho, _⟩, _⟩ := x
            obtain ⟨oc, od, oda, osl⟩ := oe
            obtain ⟨h1, h2⟩ := hz
            dsimp only at h1 h2 hv
            subst h1 h2 hv
            exact ⟨some o, hget, rfl, rfl, ho⟩
        have hcl : (PySem.W.clsIn X.K D).isSome = true := by
          obtain ⟨cd, hc, _⟩ := PySem.W.any_some C.hd
          rw [hc]
          rfl
        exact PySem.W.kia_one (PySem.W.kitx_exc hcl C.hg C.hk C.hs C.ha C.hn C.ht C.hm) I.kIn J e (fun z => nomatch z) fun tk => ⟨.bl b, H, I.kept (t' := tk) fun _ _ z => z, rfl, q⟩
  · exact call_isi pins s σ H xs us Q I r h
theorem call_isXK {X : Cx} (K : PySem.W.Frag) (e : X.K = K) : CallR X (.builtin "isinstance") (rIsX K) := by subst e; exact call_isX
section
variable {σ σ' : L2.St} {H : Hp} {Q : VK} {nx bk ct : L2.St → Hp → Prop} {rt : VK} {K : PySem.W.Frag} {a D C : Addr} {d : Option Addr} {cls c : Value} {b : Bool} {i : Nat}
theorem i_isXR (h : H a = some (exHO a (.ref D) none)) (e : ExcC K D) (k : PySem.W.kitOne K (.ref D) (.ref C) = some b) (q : Q (.bl b) H) : rIsX K [.ref a, .ref C] H Q :=
  .inl ⟨a, D, none, .ref C, .ref C, b, rfl, h, fun _ z => (nomatch z), e, fun _ z => z, k, q⟩
theorem i_isXT {T : String} (h : H a = some (exHO a (.ref D) none)) (e : ExcC K D) (k : PySem.W.kitOne K (.ref D) (.type T) = some b) (q : Q (.bl b) H) : rIsX K [.ref a, .ty T] H Q :=
  .inl ⟨a, D, none, .ty T, .type T, b, rfl, h, fun _ z => (nomatch z), e, fun _ z => z, k, q⟩
theorem i_isXRd {dd : Addr} {fs : List (Str × V)} (h : H a = some (exHO a (.ref D) (some dd))) (hd : H dd = some (.xd fs)) (e : ExcC K D) (k : PySem.W.kitOne K (.ref D) (.ref C) = some b) (q : Q (.bl b) H) : rIsX K [.ref a, .ref C] H Q :=
  .inl ⟨a, D, some dd, .ref C, .ref C, b, rfl, h, fun x z => by cases z; exact ⟨fs, hd⟩, e, fun _ z => z, k, q⟩
theorem i_isXTd {T : String} {dd : Addr} {fs : List (Str × V)} (h : H a = some (exHO a (.ref D) (some dd))) (hd : H dd = some (.xd fs)) (e : ExcC K D) (k : PySem.W.kitOne K (.ref D) (.type T) = some b) (q : Q (.bl b) H) : rIsX K [.ref a, .ty T] H Q :=
  .inl ⟨a, D, some dd, .ty T, .type T, b, rfl, h, fun x z => by cases z; exact ⟨fs, hd⟩, e, fun _ z => z, k, q⟩
theorem i_isXi {t : String} {x : V} {c : String} (ty : TyX K H x (.type t)) (h : kitB t c = some b) (q : Q (.bl b) H) : rIsX K [x, .ty c] H Q := .inr ⟨x, .ty c, .type t, .type c, b, rfl, .ty c, ty, kit_ty h, q⟩
theorem i_isXo {t : String} {x : V} (ty : TyX K H x (.type t)) (h : PySem.W.kitOne K (.type t) (.ref C) = some b) (q : Q (.bl b) H) : rIsX K [x, .ref C] H Q := .inr ⟨x, .ref C, .type t, .ref C, b, rfl, .own C, ty, h, q⟩
/-! ### the steps -/
theorem i_callS {sp : Sp} {E : L2.St → XK} {t : TA} (h : t σ H fun vs H1 => sp vs H1 Q (E σ)) : tCallS sp E t σ H Q := h
theorem i_try {ts : TS} {Wout : WX} {tb : WX → TS} (h : tb (wAsT K c i ts Wout ⟨nx, rt, bk, ct⟩) ⟨nx, rt, bk, ct⟩ σ H) : tTryAs K c i ts Wout tb ⟨nx, rt, bk, ct⟩ σ H := h
theorem i_caught {τ : Addr → L2.St} {ts : TS} {Wout : WX} (e : PySem.W.exmOne K cls c = some true) (s : ∀ a, List.set σ i (some (V.ref a)) = τ a) (h : ∀ a, H a = none → ts ⟨nxAs i a cls d nx, rtAs a cls d rt, nxAs i a cls d bk, nxAs i a cls d ct⟩ (τ a) H) : wAsT K c i ts Wout ⟨nx, rt, bk, ct⟩ cls d σ H :=
  ⟨true, e, fun _ a na => by
    show ts _ (List.set σ i (some (V.ref a))) H
    rw [s a]
    exact h a na, fun z => nomatch z⟩
theorem i_nxAs (s : List.set σ i none = σ') (q : nx σ' (L2.upd H a (exHO a cls d))) : nxAs i a cls d nx σ H := by
  subst s
  exact q
theorem i_rtAs {v : V} (q : rt v (L2.upd H a (exHO a cls d))) : rtAs a cls d rt v H := q
theorem i_isnR (q : Q (.bl false) H) : V.non = V.non ∧ Q (.bl (decide (V.ref a = V.non))) H := ⟨rfl, by
  rw [decide_eq_false (fun z => by cases z)]
  exact q⟩
theorem i_isnN (q : Q (.bl true) H) : V.non = V.non ∧ Q (.bl (decide (V.non = V.non))) H := ⟨rfl, by
  rw [decide_eq_true rfl]
  exact q⟩
end
/-! ### what is known of the classes -/
structure ClsT (K : PySem.W.Frag) (C : Addr) : Prop where
  ic : PySem.W.isClsIn K C = true
  ty : PySem.W.typeIn K (.ref C) = some (.type "type")
section
variable {K : PySem.W.Frag} {C D : Addr} {b : Bool}
theorem kit_clsT (c : ClsT K C) {t : Value} (h : PySem.W.subIn K t (.ref C) = some b) : PySem.W.kitCls K t (.ref C) = some b := by
  have h2 : (PySem.W.clsIn K C).isSome = true := c.ic
  show (if ((PySem.W.clsIn K C).isSome && PySem.W.typeIn K (.ref C) == some (.type "type")) = true then PySem.W.subIn K t (.ref C) else none) = some b
  rw [if_pos (by rw [h2, c.ty]; rfl)]
  exact h
theorem kit_t (c : ClsT K C) (h : PySem.W.subIn K (.ref D) (.ref C) = some true) : PySem.W.kitOne K (.ref D) (.ref C) = some true := by
  unfold PySem.W.kitOne
  split
  · rfl
  · exact kit_clsT c h
theorem kit_f (c : ClsT K C) (hs : PySem.W.subIn K (.ref D) (.ref D) = some true) (h : PySem.W.subIn K (.ref D) (.ref C) = some false) : PySem.W.kitOne K (.ref D) (.ref C) = some false := by
  unfold PySem.W.kitOne
  split
  · rename_i z
    have e : D = C := Value.ref.inj (beq_iff_eq.mp z)
    subst e
    rw [hs] at h
    cases h
  · exact kit_clsT c h
theorem kit_o (c : ClsT K C) {t : String} (h : PySem.W.subIn K (.type t) (.ref C) = some b) : PySem.W.kitOne K (.type t) (.ref C) = some b := by
  unfold PySem.W.kitOne
  rw [if_neg (by rw [beq_iff_eq]; exact fun z => nomatch z)]
  exact kit_clsT c h
theorem kit_v {T : String} (h : PySem.W.subIn K (.ref D) (.type T) = some b) (hm : PySem.W.kitMeta T = true) : PySem.W.kitOne K (.ref D) (.type T) = some b := by
  unfold PySem.W.kitOne
  rw [if_neg (by rw [beq_iff_eq]; exact fun z => nomatch z)]
  show (if PySem.W.kitMeta T = true then PySem.W.subIn K (.ref D) (.type T) else none) = some b
  rw [if_pos hm]
  exact h
theorem exm_t (c : ClsT K C) (hb : PySem.W.subIn K (.ref C) (.type "BaseException") = some true) (h : PySem.W.subIn K (.ref D) (.ref C) = some b) : PySem.W.exmOne K (.ref D) (.ref C) = some b := by
  show (if (PySem.W.subIn K (.ref C) (.type "BaseException") == some true) = true then PySem.W.kitCls K (.ref D) (.ref C) else none) = some b
  rw [if_pos (by rw [hb]; rfl)]
  exact kit_clsT c h
end
/-! ### counts of flat things -/
def rCntV (K : PySem.W.Frag) : V → List V → Hp → VK → Prop := fun x xs H Q => ∃ (p : Addr) (ys : List V) (y : V), x = .ref p ∧ xs = [y] ∧ SqL K H p ys ∧ flatV y = true ∧ ys.all flatV = true ∧ Q (.int (ys.countP fun z => eqV z y : Nat)) H
theorem cnt_flat {u : Value} {y : V} (ry : RelV y u) (fy : flatV y = true) : ∀ {ys : List V} {us : List Value}, Vals ys us → ys.all flatV = true → us.countP (eqU y) = ys.countP fun z => eqV z y
  | [], [], .nil, _ => rfl
  | z :: r, _ :: _, .cons rz t, f => by
    have f1 : flatV z = true := (List.all_eq_true.mp f) z List.mem_cons_self
    have f2 : r.all flatV = true := List.all_eq_true.mpr fun q hq => (List.all_eq_true.mp f) q (List.mem_cons_of_mem _ hq)
    rw [List.countP_cons, List.countP_cons, cnt_flat ry fy t f2, eqU_of rz f1]
theorem mt_lcountV {X : Cx} : MtR X "list.count" (rCntV X.K) := by
  intro pins s σ H x xs v us Q I rx rxs h
  obtain ⟨p, ys, y, rfl, rfl, hs, fy, fys, q⟩ := h
  cases rx
  obtain ⟨u, rfl, ru⟩ := rxs.one
  obtain ⟨its, rv, ⟨⟨cls, dd, data, sl⟩, n, ho, hc, hdn, hd⟩, hlen⟩ := I.list hs
  simp only at hc hd
  subst hc hd
  refine call_meets PySem.F.slot_list_count ⟨_, ho, rfl⟩ PySem.F.entry_list_count (PySem.F.args_list_count_2 _ _)
    (SeqAt.list_countAt p its.toArray n dd sl u (eqU y)) ⟨ho, fun u' hu' => mem_eqAt ru fy rv fys u' (by simpa using hu'), ?_⟩
  have ec : its.toArray.toList.countP (eqU y) = ys.countP fun z => eqV z y := cnt_flat ru fy rv fys
  refine ⟨.int _, H, I.tok _, ⟨s.toks, ?_⟩, q⟩
  show Value.int ((its.toArray.toList.countP (eqU y) : Nat) : Int) s.toks = Value.int _ s.toks
  rw [ec]
theorem mt_lcountVK {X : Cx} (K : PySem.W.Frag) (e : X.K = K) : MtR X "list.count" (rCntV K) := by subst e; exact mt_lcountV
theorem mt_indexK {X : Cx} (K : PySem.W.Frag) (e : X.K = K) : MtR X "list.index" (rIndex K) := by subst e; exact mt_index
theorem i_cntV {K : PySem.W.Frag} {H : Hp} {Q : VK} {p : Addr} {ys : List V} {y : V} {n : Nat} (h : SqL K H p ys) (f : flatV y = true) (g : ys.all flatV = true) (e : (ys.countP fun z => eqV z y) = n) (q : Q (.int (n : Nat)) H) : rCntV K (.ref p) [y] H Q :=
  ⟨p, ys, y, rfl, rfl, h, f, g, by rw [e]; exact q⟩
/-- the first place at which y stands -/
def firstAt (y : V) : List V → Nat → Option Nat
  | [], _ => none
  | z :: r, k => if eqV z y = true then some k else firstAt y r (k + 1)
theorem firstAt_is {y : V} : ∀ {ys : List V} {k j : Nat}, firstAt y ys k = some j → k ≤ j ∧ (∃ z, ys[j - k]? = some z ∧ eqV z y = true) ∧ ∀ (m : Nat) (z' : V), m < j - k → ys[m]? = some z' → eqV z' y = false
  | [], _, _, h => nomatch h
  | z :: r, k, j, h => by
    unfold firstAt at h
    split at h
    · rename_i c
      cases h
      rw [Nat.sub_self]
      exact ⟨Nat.le_refl _, ⟨z, rfl, c⟩, fun m z' hm => absurd hm (Nat.not_lt_zero _)⟩
    · rename_i c
      obtain ⟨h1, ⟨w, h2, h3⟩, h4⟩ := firstAt_is h
      refine ⟨by omega, ⟨w, ?_, h3⟩, fun m z' hm hz => ?_⟩
      · rw [show j - k = (j - (k + 1)) + 1 by omega, List.getElem?_cons_succ]
        exact h2
      · cases m with
        | zero =>
          rw [List.getElem?_cons_zero] at hz
          cases hz
          exact Bool.eq_false_iff.mpr c
        | succ m =>
          rw [List.getElem?_cons_succ] at hz
          exact h4 m z' (by omega) hz
theorem i_index {K : PySem.W.Frag} {H : Hp} {Q : VK} {p : Addr} {ys : List V} {y : V} {j : Nat} (h : SqL K H p ys) (f : flatV y = true) (g : ys.all flatV = true) (e : firstAt y ys 0 = some j) (q : Q (.int (j : Nat)) H) : rIndex K (.ref p) [y] H Q := by
  obtain ⟨_, ⟨z, h2, h3⟩, h4⟩ := firstAt_is e
  exact ⟨p, ys, y, j, z, rfl, rfl, h, f, g, h2, h3, h4, q⟩
/-! ### comprehensions over zip, kept where the second says so -/
def pickB : List V → List Bool → List V
  | x :: xs, c :: bs => if c = true then x :: pickB xs bs else pickB xs bs
  | _, _ => []
theorem pickB_more : ∀ {xs : List V} {bs : List Bool} {i : Nat} {x : V} {c : Bool}, xs[i]? = some x → bs[i]? = some c → pickB (xs.take (i + 1)) (bs.take (i + 1)) = pickB (xs.take i) (bs.take i) ++ (if c = true then [x] else [])
  | [], _, _, _, _, h, _ => by simp at h
  | _ :: _, [], _, _, _, _, h => by simp at h
  | y :: xs, d :: bs, 0, x, c, h1, h2 => by
    simp at h1 h2
    subst h1 h2
    simp [pickB]
  | y :: xs, d :: bs, i + 1, x, c, h1, h2 => by
    rw [List.getElem?_cons_succ] at h1 h2
    have ih := pickB_more h1 h2
    simp only [List.take_succ_cons, pickB]
    cases d
    · simp only [Bool.false_eq_true, if_false]
      exact ih
    · simp only [if_true, List.cons_append]
      rw [ih]
theorem pickB_len : ∀ (xs : List V) (bs : List Bool), (pickB xs bs).length ≤ xs.length
  | [], _ => by simp [pickB]
  | _ :: _, [] => by simp [pickB]
  | y :: xs, d :: bs => by
    have := pickB_len xs bs
    unfold pickB
    split
    · simp
      omega
    · simp
      omega
section
variable {σ : L2.St} {H H1 : Hp} {Q : VK} {K : PySem.W.Frag} {D a b : Addr} {wi : TI} {g : TG} {tt : TT} {te : TE} {vs : List Nat} {xs ys : List V} {Qd : Hp → Prop}
theorem lcZ_pick (bs : List Bool) (hb : ys = bs.map V.bl) (nD : H1 D = none) (hn : xs.length ≤ 1000) (hl : xs.length = bs.length) (hx : SqL K H1 a xs) (hy : SqL K H1 b ys)
    (hs : ∀ (i : Nat) (x : V) (c : Bool) (T : Addr) H (Z : VK) (Y : Hp → Prop), xs[i]? = some x → bs[i]? = some c → Same H1 H → H T = none → (c = true → ∀ H4, Same H H4 → Z x H4) → (c = false → ∀ H4, Same H H4 → Y H4) → LcTurn g tt te vs σ (.ref T) (L2.upd H T (.tup [x, .bl c])) Z Y)
    (hd : ∀ H, Same H1 H → H D = some (.lst (pickB xs bs)) → Qd H) :
    ∃ W : Nat → Nat → Hp → Prop, (∃ m, W 0 m (L2.upd H1 D (.lst []))) ∧ ∀ i m H, W i m H →
      ((Itz K a b).stop i H ∧ Qd H) ∨ ((Itz K a b).go i H ∧ ∃ Nx : Hp → Prop, (∀ H', Nx H' → ∃ m', m' < m ∧ W (i + 1) m' H') ∧ ∀ x H', (Itz K a b).yld i H x H' → g x (wipe σ vs) H' fun σ2 H2 => wipe σ2 vs = wipe σ vs ∧ tt σ2 H2 fun b H3 =>
        if b = true then te σ2 H3 fun y H4 => ∃ acc, H4 D = some (.lst acc) ∧ acc.length < sizeLine ∧ Nx (L2.upd H4 D (.lst (acc ++ [y]))) else Nx H3) := by
  subst hb
  let P : Nat → Hp → Prop := fun i H => Same H1 H ∧ H D = some (.lst (pickB (xs.take i) (bs.take i)))
  refine ⟨fun i m H => m = xs.length - i ∧ i ≤ xs.length ∧ P i H, ⟨xs.length, by simp, Nat.zero_le _, Same.new nD, by rw [List.take_zero, List.take_zero]; exact L2.upd_same⟩, ?_⟩
  rintro i m H ⟨rfl, hi, hsame, hD⟩
  by_cases hlt : i < xs.length
  · have hx' : xs[i]? = some xs[i] := List.getElem?_eq_getElem hlt
    have hlt2 : i < bs.length := by omega
    have hy' : bs[i]? = some bs[i] := List.getElem?_eq_getElem hlt2
    have qx : SqL K H a xs := hsame.seq hx
    have qy : SqL K H b (bs.map V.bl) := hsame.seq hy
    have hy'' : (bs.map V.bl)[i]? = some (V.bl bs[i]) := by rw [List.getElem?_map, hy']; rfl
    have hz : (pickB (xs.take i) (bs.take i)).length < sizeLine := sz4' (by
      have := pickB_len (xs.take i) (bs.take i)
      rw [List.length_take] at this
      omega)
    refine .inr ⟨⟨xs, _, _, _, qx, qy, hx', hy''⟩, P (i + 1), fun H' p' => ⟨xs.length - (i + 1), by omega, rfl, hlt, p'⟩, fun v H' y => ?_⟩
    obtain ⟨T, x', y', rfl, hT, rfl, f1, f2⟩ := y
    have e1 := (f1 xs qx).symm.trans hx'
    have e2 := (f2 _ qy).symm.trans hy''
    cases e1
    cases e2
    refine hs i xs[i] bs[i] T H _ _ hx' hy' hsame hT (fun hc H4 h4 => ⟨_, h4 _ _ hD, hz, Same.mut (hsame.trans h4) nD, ?_⟩) (fun hc H4 h4 => ⟨hsame.trans h4, ?_⟩)
    · rw [L2.upd_same, pickB_more hx' hy', if_pos hc]
    · rw [h4 _ _ hD, pickB_more hx' hy', if_neg (by rw [hc]; exact Bool.false_ne_true), List.append_nil]
  · have e : i = xs.length := by omega
    subst e
    refine .inl ⟨⟨xs, _, hsame.seq hx, hsame.seq hy, Or.inl (Nat.le_refl _)⟩, hd H hsame ?_⟩
    rw [hD, List.take_length, hl, List.take_length]
theorem i_izip {ta : TA} {R : It → Hp → Prop} (h : ta σ H fun vs H1 => ∃ a b xs ys, vs = [.ref a, .ref b] ∧ SqL K H1 a xs ∧ SqL K H1 b ys ∧ R (Itz K a b) H1) : iZip K ta σ H R := h
theorem i_izip' {R : Addr → Addr → Prop} (h1 : SqL K H a xs) (h2 : SqL K H b ys) (q : R a b) : ∃ a' b' xs ys, [V.ref a, V.ref b] = [.ref a', .ref b'] ∧ SqL K H a' xs ∧ SqL K H b' ys ∧ R a' b' := ⟨a, b, xs, ys, rfl, h1, h2, q⟩
end
theorem pi_zipK {X : Cx} (K : PySem.W.Frag) (eK : X.K = K) {e e2 : Expr} {ta : TA} {p pos tpos : Pos} {elts : List Expr} {kk : Nat} (hg : Gl X "zip") (hm : X.mg "zip" = none) (ha : PA X [e, e2] ta)
    (hs : starEach [e, e2] X.env = (false, eval e X.env) :: starEach [e2] X.env := by rfl) (hpl : (backTo pos (starEach [e2] X.env)).any (·.1) = false := by rfl) :
    PI X (.Tuple elts kk tpos) (.Call (.Name "zip" p) [e, e2] [] pos) (iZip K ta) := by subst eK; exact pi_zip hg hm ha hs hpl
/-! ### lists of one text -/
theorem shaped_str1 {x : Str} (hx : PyData.strOk x = true) : SeqAt.shaped (.list [PyData.str x]) = true := by
  unfold SeqAt.shaped
  simp [PyData.canLay0, PyData.canLayAll0, PyData.depth, PyData.depthAll, hx]
theorem eqv_str1 (x : Str) : PyData.eqv (.list [PyData.str x]) (.list [PyData.str x]) = true := by simp [PyData.eqv, PyData.eqvAll]
theorem i_neS1 {K : PySem.W.Frag} {H : Hp} {Q : VK} {p r : Addr} {x : Str} (h1 : SqL K H p [.str x]) (h2 : SqL K H r [.str x]) (hx : PyData.strOk x = true) (q : Q (.bl false) H) : rNeD K (.ref p) (.ref r) H Q :=
  ⟨_, _, .lst h1 (.cons (.str x) .nil), .lst h2 (.cons (.str x) .nil), shaped_str1 hx, shaped_str1 hx, by rw [eqv_str1]; exact q⟩
theorem i_neT2 {K : PySem.W.Frag} {H : Hp} {Q : VK} {p r : Addr} {a b c d : Int} (h1 : SqT K H p [.int a, .int b]) (h2 : SqT K H r [.int c, .int d]) (q : Q (.bl (!(a == c && (b == d && true)))) H) : rNeD K (.ref p) (.ref r) H Q :=
  ⟨.tuple [.int a, .int b], .tuple [.int c, .int d], .tup h1 (.cons (.int a) (.cons (.int b) .nil)), .tup h2 (.cons (.int c) (.cons (.int d) .nil)), rfl, rfl, by
    have e : PyData.eqv (.tuple [.int a, .int b]) (.tuple [.int c, .int d]) = (a == c && (b == d && true)) := by simp [PyData.eqv, PyData.eqvAll]
    rw [e]
    exact q⟩
end Hf
/-! ## instances, their fields; dicts whose keys are tuples of ints -/
namespace Hf
open PySem PySem.Spec PyProof.Rows L2
section
variable {σ σ' : L2.St} {H : Hp} {Q : VK} {x y v : V} {i j k : Int} {nx bk ct : L2.St → Hp → Prop} {rt : VK} {K : PySem.W.Frag} {a C dx p d : Addr} {fs : List (Str × V)} {f m : Str} {sp : Sp} {E : XK} {kvs : List (List Key × V)} {r : Option V}
def FldR (K : PySem.W.Frag) (f : Str) (x : V) (H : Hp) (Q : VK) : Prop := ∃ a C dx fs v, x = V.ref a ∧ H a = some (.ins C dx fs) ∧ Cls K C ∧ NoAttr K C f ∧ fs.lookup f = some v ∧ Q v H
theorem i_fld {ta : TE} (h : ta σ H fun x H1 => FldR K f x H1 Q) : tFld K ta f σ H Q := h
theorem i_fldR (h : H a = some (.ins C dx fs)) (c : Cls K C) (n : NoAttr K C f) (l : fs.lookup f = some v) (q : Q v H) : FldR K f (.ref a) H Q := ⟨a, C, dx, fs, v, rfl, h, c, n, l, q⟩
def SetR (K : PySem.W.Frag) (f : Str) (y x : V) (H : Hp) (Z : Hp → Prop) : Prop := ∃ a C dx fs, x = V.ref a ∧ H a = some (.ins C dx fs) ∧ Cls K C ∧ NoAttr K C f ∧ fs.length < 1000 ∧ Z (upd H a (.ins C dx (putF f y fs)))
theorem i_sfld {ta tv : TE} (h : tv σ H fun y H1 => ta σ H1 fun x H2 => SetR K f y x H2 (nx σ)) : sFld K ta tv f ⟨nx, rt, bk, ct⟩ σ H := h
theorem i_setR {Z : Hp → Prop} (h : H a = some (.ins C dx fs)) (c : Cls K C) (n : NoAttr K C f) (l : fs.length < 1000) (q : Z (upd H a (.ins C dx (putF f y fs)))) : SetR K f y (.ref a) H Z := ⟨a, C, dx, fs, rfl, h, c, n, l, q⟩
def MethR (C : Addr) (m : Str) (x : V) (H : Hp) (R : Prop) : Prop := ∃ a dx fs, x = V.ref a ∧ H a = some (.ins C dx fs) ∧ fs.lookup m = none ∧ R
theorem i_meth {ta : TE} {t : TA} (h : ta σ H fun x H1 => MethR C m x H1 (t σ H1 fun vs H2 => sp (x :: vs) H2 Q E)) : tMeth C m sp [] E ta t σ H Q := by
  have e : ∀ x : V, (fun vs H2 => sp (x :: (vs ++ [])) H2 Q E) = fun vs H2 => sp (x :: vs) H2 Q E := fun x => by
    funext vs H2
    rw [List.append_nil]
  show ta σ H (fun x H1 => ∃ a dx fs, x = .ref a ∧ H1 a = some (.ins C dx fs) ∧ fs.lookup m = none ∧ t σ H1 fun vs H2 => sp (x :: (vs ++ [])) H2 Q E)
  simp only [e]
  exact h
theorem i_methR {R : Prop} (h : H a = some (.ins C dx fs)) (l : fs.lookup m = none) (q : R) : MethR C m (.ref a) H R := ⟨a, dx, fs, rfl, h, l, q⟩
theorem i_make0 (h : ∀ x dx, H x = none → H dx = none → dx ≠ x → sp [.ref x] (upd (upd H dx (.own x)) x (.ins C dx [])) (fun v H2 => v = .non ∧ Q (.ref x) H2) E) : tMake C sp [] E tNil σ H Q := h
/-! ### dicts by tuples -/
def DgR (y x : V) (H : Hp) (R : Option V → Prop) : Prop := ∃ a o, x = V.ref a ∧ DGet H a y o ∧ R o
theorem i_dnotin {td ty : TE} (h : ty σ H fun y H1 => td σ H1 fun x H2 => DgR y x H2 fun o => Q (.bl (!o.isSome)) H2) : tDNotIn ty td σ H Q := h
theorem i_din {td ty : TE} (h : ty σ H fun y H1 => td σ H1 fun x H2 => DgR y x H2 fun o => Q (.bl o.isSome) H2) : tDIn ty td σ H Q := h
theorem i_dg3 {R : Option V → Prop} (h : H a = some (.dT kvs)) (e : H p = some (.tup [.int i, .int j, .int k])) (q : R (valV kvs [.inl i, .inl j, .inl k])) : DgR (.ref p) (.ref a) H R := ⟨a, _, rfl, DGet.t (k := [.inl i, .inl j, .inl k]) h e, q⟩
theorem i_dg2 {R : Option V → Prop} (h : H a = some (.dT kvs)) (e : H p = some (.tup [.int i, .int j])) (q : R (valV kvs [.inl i, .inl j])) : DgR (.ref p) (.ref a) H R := ⟨a, _, rfl, DGet.t (k := [.inl i, .inl j]) h e, q⟩
def DvR (x y : V) (H : Hp) (Q : VK) : Prop := ∃ a v, x = V.ref a ∧ DGet H a y (some v) ∧ Q v H
theorem i_dget {td ty : TE} (h : td σ H fun x H1 => ty σ H1 fun y H2 => DvR x y H2 Q) : tDGet td ty σ H Q := h
theorem i_dv3 (h : H a = some (.dT kvs)) (e : H p = some (.tup [.int i, .int j, .int k])) (l : valV kvs [.inl i, .inl j, .inl k] = some v) (q : Q v H) : DvR (.ref a) (.ref p) H Q := ⟨a, v, rfl, l ▸ DGet.t (k := [.inl i, .inl j, .inl k]) h e, q⟩
theorem i_dv2 (h : H a = some (.dT kvs)) (e : H p = some (.tup [.int i, .int j])) (l : valV kvs [.inl i, .inl j] = some v) (q : Q v H) : DvR (.ref a) (.ref p) H Q := ⟨a, v, rfl, l ▸ DGet.t (k := [.inl i, .inl j]) h e, q⟩
def DpR (v x y : V) (H : Hp) (Z : Hp → Prop) : Prop := ∃ a H4, x = V.ref a ∧ DPut H a y v H4 ∧ Z H4
theorem i_dput {td ty tv : TE} (h : tv σ H fun v H1 => td σ H1 fun x H2 => ty σ H2 fun y H3 => DpR v x y H3 (nx σ)) : sDPut td ty tv ⟨nx, rt, bk, ct⟩ σ H := h
theorem i_dp3 {Z : Hp → Prop} (h : H a = some (.dT kvs)) (e : H p = some (.tup [.int i, .int j, .int k])) (hz : kvs.length ≤ 1000000) (q : Z (upd H a (.dT (putK kvs [.inl i, .inl j, .inl k] v)))) : DpR v (.ref a) (.ref p) H Z := ⟨a, _, rfl, DPut.t (k := [.inl i, .inl j, .inl k]) h e (sz4' hz), q⟩
theorem i_dp2 {Z : Hp → Prop} (h : H a = some (.dT kvs)) (e : H p = some (.tup [.int i, .int j])) (hz : kvs.length ≤ 1000000) (q : Z (upd H a (.dT (putK kvs [.inl i, .inl j] v)))) : DpR v (.ref a) (.ref p) H Z := ⟨a, _, rfl, DPut.t (k := [.inl i, .inl j]) h e (sz4' hz), q⟩
theorem i_dnewT (h : ∀ p, H p = none → Q (.ref p) (upd H p (.dT []))) : tDNewT σ H Q := h
/-! ### list(range(..)) -/
theorem i_lstRg {te : L2.St → Hp → (Int → Int → Hp → Prop) → Prop} (h : te σ H fun a b H1 => RgOk a b ∧ ∀ q, H1 q = none → Q (.ref q) (upd H1 q (.lst (rgV a b)))) : tLstRg te σ H Q := h
theorem i_rg1 {ta : TE} {R : Int → Int → Hp → Prop} (h : ta σ H fun x H1 => ∃ n, x = .int n ∧ R 0 n H1) : tRg1 ta σ H R := h
theorem i_rg2 {ta tb : TE} {R : Int → Int → Hp → Prop} (h : ta σ H fun x H1 => tb σ H1 fun y H2 => ∃ i j, x = .int i ∧ y = .int j ∧ R i j H2) : tRg2 ta tb σ H R := h
theorem i_rg2' {R : Int → Int → Prop} (q : R i j) : ∃ i' j', V.int i = .int i' ∧ V.int j = .int j' ∧ R i' j' := ⟨i, j, rfl, rfl, q⟩
theorem i_rg1' {R : Int → Prop} (q : R i) : ∃ i', V.int i = .int i' ∧ R i' := ⟨i, rfl, q⟩
theorem i_rgok {R : Addr → Prop} (h0 : 0 ≤ i) (h1 : j ≤ 16777216) (h2 : i ≤ 16777216) (h3 : 0 ≤ j) (q : ∀ q, H q = none → R q) : RgOk i j ∧ ∀ q, H q = none → R q := ⟨.of_le h0 h1 h2 h3, q⟩
end
theorem rg_ints (a b : Int) : rgV a b = ((List.range (b - a).toNat).map fun i : Nat => a + (i : Int)).map V.int := by
  unfold rgV
  rw [List.map_map]
  rfl
theorem But.mut {a : Addr} {H H1 : Hp} {D : Addr} {o : HO} (hp : H D = none) (x : But a H H1) : But a H (L2.upd H1 D o) := fun b u n h => by
  rw [upd_ne (ne_of_none h hp)]
  exact x b u n h
theorem But.mutS {a : Addr} {H H1 H2 : Hp} {D : Addr} (y : But D H1 H2) (hp : H D = none) (x : But a H H1) : But a H H2 := fun b u n h => y b u (ne_of_none h hp) (x b u n h)
end Hf
/-! ## Dat -/
namespace Hf
open PySem PySem.Spec PyProof.Rows L2
/-! ### nested data, each list and tuple tracked -/
mutual
inductive Dq (H : Hp) : V → PyData → Prop
  | non : Dq H .non .none
  | bl (b : Bool) : Dq H (.bl b) (.bool b)
  | int (i : Int) : Dq H (.int i) (.int i)
  | str (x : Str) : Dq H (.str x) (.str x)
  | lst {a : Addr} {xs : List V} {ds : List PyData} : H a = some (.lst xs) → DqAll H xs ds → Dq H (.ref a) (.list ds)
  | tup {a : Addr} {xs : List V} {ds : List PyData} : H a = some (.tup xs) → DqAll H xs ds → Dq H (.ref a) (.tuple ds)
inductive DqAll (H : Hp) : List V → List PyData → Prop
  | nil : DqAll H [] []
  | cons {v : V} {vs : List V} {d : PyData} {ds : List PyData} : Dq H v d → DqAll H vs ds → DqAll H (v :: vs) (d :: ds)
end
mutual
theorem Dq.same {H H' : Hp} (s : Same H H') : ∀ {v : V} {d : PyData}, Dq H v d → Dq H' v d
  | _, _, .non => .non
  | _, _, .bl b => .bl b
  | _, _, .int i => .int i
  | _, _, .str x => .str x
  | _, _, .lst h q => .lst (s _ _ h) (DqAll.same s q)
  | _, _, .tup h q => .tup (s _ _ h) (DqAll.same s q)
theorem DqAll.same {H H' : Hp} (s : Same H H') : ∀ {vs : List V} {ds : List PyData}, DqAll H vs ds → DqAll H' vs ds
  | _, _, .nil => .nil
  | _, _, .cons h q => .cons (Dq.same s h) (DqAll.same s q)
end
mutual
theorem Dq.dp {K : PySem.W.Frag} {H : Hp} : ∀ {v : V} {d : PyData}, Dq H v d → Dp K H v d
  | _, _, .non => .non
  | _, _, .bl b => .bl b
  | _, _, .int i => .int i
  | _, _, .str x => .str x
  | _, _, .lst h q => .lst (SqL.of h) (DqAll.dp q)
  | _, _, .tup h q => .tup (SqT.of h) (DqAll.dp q)
theorem DqAll.dp {K : PySem.W.Frag} {H : Hp} : ∀ {vs : List V} {ds : List PyData}, DqAll H vs ds → DpAll K H vs ds
  | _, _, .nil => .nil
  | _, _, .cons h q => .cons (Dq.dp h) (DqAll.dp q)
end
mutual
theorem Dq.eqv {H : Hp} : ∀ {v : V} {d : PyData}, Dq H v d → PyData.eqv d d = true
  | _, _, .non => by simp [PyData.eqv]
  | _, _, .bl b => by simp [PyData.eqv]
  | _, _, .int i => by simp [PyData.eqv]
  | _, _, .str x => by simp [PyData.eqv]
  | _, _, .lst _ q => by rw [PyData.eqv]; exact DqAll.eqv q
  | _, _, .tup _ q => by rw [PyData.eqv]; exact DqAll.eqv q
theorem DqAll.eqv {H : Hp} : ∀ {vs : List V} {ds : List PyData}, DqAll H vs ds → PyData.eqvAll ds ds = true
  | _, _, .nil => by simp [PyData.eqvAll]
  | _, _, .cons h q => by rw [PyData.eqvAll, Dq.eqv h, DqAll.eqv q]; rfl
end
section
variable {H : Hp} {v : V} {vs : List V} {ds : List PyData} {i : Int} {x : Str}
theorem Dq.list_inv (h : Dq H v (.list ds)) : ∃ a xs, v = .ref a ∧ H a = some (.lst xs) ∧ DqAll H xs ds := by
  cases h with
  | lst h q => exact ⟨_, _, rfl, h, q⟩
theorem Dq.tuple_inv (h : Dq H v (.tuple ds)) : ∃ a xs, v = .ref a ∧ H a = some (.tup xs) ∧ DqAll H xs ds := by
  cases h with
  | tup h q => exact ⟨_, _, rfl, h, q⟩
theorem Dq.int_inv (h : Dq H v (.int i)) : v = .int i := by
  cases h
  rfl
theorem Dq.str_inv (h : Dq H v (.str x)) : v = .str x := by
  cases h
  rfl
theorem DqAll.len : ∀ {vs : List V} {ds : List PyData}, DqAll H vs ds → vs.length = ds.length
  | _, _, .nil => rfl
  | _, _, .cons _ q => by rw [List.length_cons, List.length_cons, DqAll.len q]
theorem DqAll.get : ∀ {vs : List V} {ds : List PyData}, DqAll H vs ds → ∀ {k : Nat} {d : PyData}, ds[k]? = some d → ∃ w, vs[k]? = some w ∧ Dq H w d
  | _, _, .nil, k, d, h => by simp at h
  | _, _, .cons h _, 0, d, e => by
    rw [List.getElem?_cons_zero] at e
    cases e
    exact ⟨_, rfl, h⟩
  | _, _, .cons _ q, k + 1, d, e => by
    rw [List.getElem?_cons_succ] at e
    obtain ⟨w, h1, h2⟩ := DqAll.get q e
    exact ⟨w, by rw [List.getElem?_cons_succ]; exact h1, h2⟩
theorem DqAll.get' : ∀ {vs : List V} {ds : List PyData}, DqAll H vs ds → ∀ {k : Nat} {w : V}, vs[k]? = some w → ∃ d, ds[k]? = some d ∧ Dq H w d
  | _, _, .nil, k, d, h => by simp at h
  | _, _, .cons h _, 0, d, e => by
    rw [List.getElem?_cons_zero] at e
    cases e
    exact ⟨_, rfl, h⟩
  | _, _, .cons _ q, k + 1, d, e => by
    rw [List.getElem?_cons_succ] at e
    obtain ⟨w, h1, h2⟩ := DqAll.get' q e
    exact ⟨w, by rw [List.getElem?_cons_succ]; exact h1, h2⟩
theorem dq_ints : ∀ ms : List Int, DqAll H (ms.map V.int) (ms.map PyData.int)
  | [] => .nil
  | m :: ms => .cons (.int m) (dq_ints ms)
theorem DqAll.ints : ∀ {vs : List V} {ms : List Int}, DqAll H vs (ms.map PyData.int) → vs = ms.map V.int
  | _, [], h => by cases h; rfl
  | _, m :: ms, h => by
    cases h with
    | cons h q =>
      rw [Dq.int_inv h, DqAll.ints q]
      rfl
theorem DqAll.snoc : ∀ {vs : List V} {ds : List PyData} {w : V} {d : PyData}, DqAll H vs ds → Dq H w d → DqAll H (vs ++ [w]) (ds ++ [d])
  | _, _, _, _, .nil, h => .cons h .nil
  | _, _, _, _, .cons h q, g => .cons h (DqAll.snoc q g)
end
/-- == of nested data -/
theorem i_eqDq {K : PySem.W.Frag} {H : Hp} {Q : VK} {v w : V} {d e : PyData} (h1 : Dq H v d) (h2 : Dq H w e) (s1 : SeqAt.shaped d = true) (s2 : SeqAt.shaped e = true) (q : Q (.bl (PyData.eqv d e)) H) : rEqD K v w H Q := ⟨d, e, h1.dp, h2.dp, s1, s2, q⟩
theorem i_neDq {K : PySem.W.Frag} {H : Hp} {Q : VK} {v w : V} {d : PyData} (h1 : Dq H v d) (h2 : Dq H w d) (s1 : SeqAt.shaped d = true) (q : Q (.bl false) H) : rNeD K v w H Q := ⟨d, d, h1.dp, h2.dp, s1, s1, by
  rw [h1.eqv]
  exact q⟩

/-! ### a heap without some of its objects -/
def hid (S : List Addr) (H : Hp) : Hp := fun b => if b ∈ S then none else H b
section
variable {S : List Addr} {H H' : Hp} {a b : Addr} {o : HO}
theorem hid_in (h : a ∈ S) : hid S H a = none := if_pos h
theorem hid_out (h : a ∉ S) : hid S H a = H a := if_neg h
theorem hid_same : Same (hid S H) H := fun b o h => by
  by_cases c : b ∈ S
  · rw [hid_in c] at h
    cases h
  · rw [hid_out c] at h
    exact h
theorem hid_mono (s : Same H H') : Same (hid S H) (hid S H') := fun b o h => by
  by_cases c : b ∈ S
  · rw [hid_in c] at h
    cases h
  · rw [hid_out c] at h ⊢
    exact s b o h
theorem hid_but (ha : a ∈ S) (s : But a H H') : Same (hid S H) (hid S H') := fun b o h => by
  by_cases c : b ∈ S
  · rw [hid_in c] at h
    cases h
  · rw [hid_out c] at h ⊢
    exact s b o (fun e => c (e ▸ ha)) h
theorem hid_upd (ha : a ∈ S) : Same (hid S H) (hid S (upd H a o)) := hid_but ha (But.upd (But.refl _ _))
theorem hid_lk (h : a ∉ S) (e : H a = some o) : hid S H a = some o := by
  rw [hid_out h]
  exact e
theorem not_in2 {a b c : Addr} (h1 : a ≠ b) (h2 : a ≠ c) : a ∉ [b, c] := by
  intro h
  rcases List.mem_cons.mp h with g | g
  · exact h1 g
  · exact h2 (List.mem_singleton.mp g)
theorem not_in1 {a b : Addr} (h1 : a ≠ b) : a ∉ [b] := fun h => h1 (List.mem_singleton.mp h)
end
theorem rng_map {α β : Type} (f : Nat → β) (g : α → β) (m : List α) (h : ∀ (i : Nat) (x : α), m[i]? = some x → f i = g x) : (List.range m.length).map f = m.map g := by
  apply List.ext_getElem?
  intro i
  rw [List.getElem?_map, List.getElem?_map]
  by_cases c : i < m.length
  · rw [List.getElem?_range c, List.getElem?_eq_getElem c]
    show some (f i) = some (g m[i])
    rw [h i _ (List.getElem?_eq_getElem c)]
  · rw [List.getElem?_eq_none (by rw [List.length_range]; omega), List.getElem?_eq_none (by omega)]
    rfl
theorem take_snoc {α : Type} {m : List α} {i : Nat} {x : α} (h : m[i]? = some x) : m.take (i + 1) = m.take i ++ [x] := by
  rw [List.take_add_one, h]
  rfl
theorem same_hid1 {G H : Hp} {a : Addr} (s : Same G H) (h1 : G a = none) : Same G (hid [a] H) := fun b o e => by
  rw [hid_out (not_in1 (ne_of_none e h1))]
  exact s b o e
theorem same_hid2 {G H : Hp} {a c : Addr} (s : Same G H) (h1 : G a = none) (h2 : G c = none) : Same G (hid [a, c] H) := fun b o e => by
  rw [hid_out (not_in2 (ne_of_none e h1) (ne_of_none e h2))]
  exact s b o e
theorem But.mutD {a : Addr} {H H1 : Hp} {D : Addr} {o : HO} (hp : H D = none) (x : But a H H1) : But a H (L2.upd H1 D o) := fun b u n h => by
  rw [upd_ne (ne_of_none h hp)]
  exact x b u n h
theorem But.mutSD {a : Addr} {H H1 H2 : Hp} {D : Addr} (y : But D H1 H2) (hp : H D = none) (x : But a H H1) : But a H H2 := fun b u n h => y b u (ne_of_none h hp) (x b u n h)
theorem DqAll.reverse {H : Hp} : ∀ {vs : List V} {ds : List PyData}, DqAll H vs ds → DqAll H vs.reverse ds.reverse
  | _, _, .nil => .nil
  | _, _, .cons h q => by
    rw [List.reverse_cons, List.reverse_cons]
    exact DqAll.snoc (DqAll.reverse q) h
theorem i_reverseV {H : Hp} {p : Addr} {xs : List V} {Q : VK} (h : H p = some (.lst xs)) (q : Q .non (upd H p (.lst xs.reverse))) : rReverse (.ref p) [] H Q := ⟨p, _, rfl, rfl, h, q⟩
theorem i_revV {K : PySem.W.Frag} {xs : List V} {p : Addr} {H : Hp} {R : Addr → List V → Prop} (h : SqL K H p xs) (q : R p xs) : ∃ a xs, V.ref p = .ref a ∧ SqL K H a xs ∧ R a xs := ⟨p, _, rfl, h, q⟩
theorem i_neL2 {K : PySem.W.Frag} {H : Hp} {Q : VK} {p r : Addr} {ms : List Int} {x y : Int} (h1 : SqL K H p (ms.map V.int)) (h2 : SqL K H r [.int x, .int y]) (q : Q (.bl (!decide (ms = [x, y]))) H) : rNeD K (.ref p) (.ref r) H Q := i_neLI (ns := [x, y]) h1 h2 q
theorem pe_revLK {X : L2.Cx} (K : PySem.W.Frag) (eK : X.K = K) {e : Expr} {te : TE} {k : Nat} {p1 p2 p3 pos : Pos} (he : PE X e te) : PE X (.Subscript e (.Slice none none (some (.UnaryOp .USub (.Constant (.int 1) k p1) p2)) p3) pos) (tRevL K te) := by
  subst eK
  exact pe_revL he
theorem i_rev {K : PySem.W.Frag} {te : TE} {σ : L2.St} {H : Hp} {Q : VK} (h : te σ H fun x H1 => ∃ a xs, x = .ref a ∧ SqL K H1 a xs ∧ ∀ p, H1 p = none → Q (.ref p) (upd H1 p (.lst xs.reverse))) : tRevL K te σ H Q := h
theorem i_rev' {K : PySem.W.Frag} {ms : List Int} {p : Addr} {H : Hp} {R : Addr → List V → Prop} (h : SqL K H p (ms.map V.int)) (q : R p (ms.map V.int)) : ∃ a xs, V.ref p = .ref a ∧ SqL K H a xs ∧ R a xs := ⟨p, _, rfl, h, q⟩
theorem DqAll.take {H : Hp} : ∀ (n : Nat) {vs : List V} {ds : List PyData}, DqAll H vs ds → DqAll H (vs.take n) (ds.take n)
  | 0, _, _, _ => .nil
  | _ + 1, _, _, .nil => .nil
  | n + 1, _, _, .cons h q => .cons h (DqAll.take n q)
theorem DqAll.drop {H : Hp} : ∀ (n : Nat) {vs : List V} {ds : List PyData}, DqAll H vs ds → DqAll H (vs.drop n) (ds.drop n)
  | 0, _, _, q => q
  | _ + 1, _, _, .nil => .nil
  | n + 1, _, _, .cons _ q => DqAll.drop n q
end Hf
/-! ## Mixes -/
namespace Hf
open PySem PySem.Spec PyProof.Rows L2
/-! ### mixes -/
def planD (p : List Int) : PyData := .list (p.map PyData.int)
def partD (pw : List Int × Int) : PyData := .tuple [planD pw.1, .int pw.2]
def mixD (m : List (List Int × Int)) : PyData := .list (m.map partD)
/-- a plan of so many hosts and fields -/
def PlanC (h : Int) (n : Nat) (p : List Int) : Prop := p.length = n ∧ p.sum = h ∧ ∀ x ∈ p, 0 ≤ x
structure MixOk (h : Int) (n : Nat) (m : List (List Int × Int)) : Prop where
  ne : 1 ≤ m.length ∧ m.length ≤ 100
  fl : 1 ≤ n ∧ n ≤ 8
  ho : 0 ≤ h ∧ h ≤ 40
  pl : ∀ pw ∈ m, PlanC h n pw.1 ∧ 1 ≤ pw.2
section
variable {H : Hp} {v : V} {m : List (List Int × Int)} {xs : List V}
/-- a part: its tuple, its plan's list -/
theorem part_inv {pw : List Int × Int} (h : Dq H v (partD pw)) : ∃ t p, v = .ref t ∧ H t = some (.tup [.ref p, .int pw.2]) ∧ H p = some (.lst (pw.1.map V.int)) := by
  obtain ⟨t, xs, rfl, h1, h2⟩ := h.tuple_inv
  cases h2 with
  | cons a b =>
    cases b with
    | cons c d =>
      cases d
      obtain ⟨p, ys, rfl, h3, h4⟩ := Dq.list_inv a
      obtain rfl := Dq.int_inv c
      obtain rfl := DqAll.ints h4
      exact ⟨t, p, rfl, h1, h3⟩
theorem mix_inv (h : Dq H v (mixD m)) : ∃ a xs, v = .ref a ∧ H a = some (.lst xs) ∧ xs.length = m.length ∧ ∀ (k : Nat) (w : V), xs[k]? = some w → ∃ pw t p, m[k]? = some pw ∧ w = .ref t ∧ H t = some (.tup [.ref p, .int pw.2]) ∧ H p = some (.lst (pw.1.map V.int)) := by
  obtain ⟨a, xs, rfl, h1, h2⟩ := h.list_inv
  refine ⟨a, xs, rfl, h1, by rw [h2.len, List.length_map], fun k w hw => ?_⟩
  obtain ⟨d, e, q⟩ := h2.get' hw
  rw [List.getElem?_map] at e
  cases g : m[k]? with
  | none => rw [g] at e; cases e
  | some pw =>
    rw [g] at e
    cases e
    obtain ⟨t, p, e1, e2, e3⟩ := part_inv q
    exact ⟨pw, t, p, rfl, e1, e2, e3⟩
end
theorem shaped_mix (m : List (List Int × Int)) : SeqAt.shaped (mixD m) = true := by
  have h1 : ∀ m : List (List Int × Int), PyData.canLayAll0 (m.map partD) = true := by
    intro m
    induction m with
    | nil => simp [PyData.canLayAll0]
    | cons pw m ih =>
      rw [List.map_cons, PyData.canLayAll0, ih]
      simp [partD, planD, PyData.canLay0, PyData.canLayAll0, canLay_ints]
  have h2 : ∀ m : List (List Int × Int), PyData.depthAll (m.map partD) ≤ 3 := by
    intro m
    induction m with
    | nil => simp [PyData.depthAll]
    | cons pw m ih =>
      have := depth_ints pw.1
      rw [List.map_cons, PyData.depthAll]
      simp [partD, planD, PyData.depth, PyData.depthAll]
      omega
  unfold SeqAt.shaped
  have a := h1 m
  have b := h2 m
  simp [mixD, PyData.canLay0, PyData.depth, a]
  omega

theorem dq_mix {G H : Hp} {a : Addr} {xs : List V} {m : List (List Int × Int)} (q : DqAll G xs (m.map partD)) (h : H a = some (.lst xs)) (s : Same G H) : Dq H (.ref a) (mixD m) := .lst h (DqAll.same s q)
theorem part_mk {H : Hp} {t p : Addr} {ms : List Int} {w : Int} (h1 : H t = some (.tup [.ref p, .int w])) (h2 : H p = some (.lst (ms.map V.int))) : Dq H (.ref t) (partD (ms, w)) := .tup h1 (.cons (.lst h2 (dq_ints ms)) (.cons (.int w) .nil))
/-- a part of a mix, by its place -/
theorem part_at {G : Hp} {xs : List V} {m : List (List Int × Int)} (q : DqAll G xs (m.map partD)) {k : Nat} {w : V} (hw : xs[k]? = some w) : ∃ pw t p, m[k]? = some pw ∧ w = .ref t ∧ G t = some (.tup [.ref p, .int pw.2]) ∧ G p = some (.lst (pw.1.map V.int)) := by
  obtain ⟨d, e, q⟩ := q.get' hw
  rw [List.getElem?_map] at e
  cases g : m[k]? with
  | none => rw [g] at e; cases e
  | some pw =>
    rw [g] at e
    cases e
    obtain ⟨t, p, e1, e2, e3⟩ := part_inv q
    exact ⟨pw, t, p, rfl, e1, e2, e3⟩
def whole (m : List (List Int × Int)) : Int := (m.map Prod.snd).sum
def due : List (List Int × Int) → Int → List Int
  | [], _ => []
  | pw :: r, k => if k < pw.2 then pw.1 else due r (k - pw.2)
theorem whole_cons {pw : List Int × Int} {r : List (List Int × Int)} : whole (pw :: r) = pw.2 + whole r := by
  unfold whole
  rw [List.map_cons, List.sum_cons]
theorem whole_app {m r : List (List Int × Int)} : whole (m ++ r) = whole m + whole r := by
  unfold whole
  rw [List.map_append, List.sum_append]
theorem drop_get {α : Type} {m : List α} {i : Nat} {x : α} (h : m[i]? = some x) : m.drop i = x :: m.drop (i + 1) := by
  obtain ⟨hi, rfl⟩ := List.getElem?_eq_some_iff.mp h
  exact List.drop_eq_getElem_cons hi
theorem MixOk.len (h n) {m} (k : MixOk h n m) : 1 ≤ m.length := k.ne.1
theorem MixOk.whole_pos {h n m} (k : MixOk h n m) : (m.length : Int) ≤ whole m := by
  have : ∀ r : List (List Int × Int), (∀ pw ∈ r, 1 ≤ pw.2) → (r.length : Int) ≤ whole r := by
    intro r
    induction r with
    | nil => intro _; exact Int.le_refl _
    | cons pw r ih =>
      intro g
      have := ih fun x hx => g x (List.mem_cons_of_mem _ hx)
      have := g pw (List.mem_cons_self)
      rw [whole_cons, List.length_cons]
      omega
  exact this m fun pw hp => (k.pl pw hp).2
/-- weights of a drawn mix -/
def WtOk (m : List (List Int × Int)) : Prop := m.length ≤ 20 ∧ ∀ pw ∈ m, pw.2 ≤ 10000000000000000000000000000
theorem WtOk.le {m} (k : WtOk m) : whole m ≤ 200000000000000000000000000000 := by
  have : ∀ r : List (List Int × Int), (∀ pw ∈ r, pw.2 ≤ 10000000000000000000000000000) → whole r ≤ 10000000000000000000000000000 * (r.length : Int) := by
    intro r
    induction r with
    | nil => intro _; exact Int.le_refl _
    | cons pw r ih =>
      intro g
      have := ih fun x hx => g x (List.mem_cons_of_mem _ hx)
      have := g pw (List.mem_cons_self)
      rw [whole_cons, List.length_cons]
      omega
  have h1 := this m k.2
  have h2 := k.1
  omega
theorem whole_nn : ∀ r : List (List Int × Int), (∀ pw ∈ r, 1 ≤ pw.2) → 0 ≤ whole r := by
  intro r
  induction r with
  | nil => intro _; exact Int.le_refl _
  | cons pw r ih =>
    intro g
    have := ih fun x hx => g x (List.mem_cons_of_mem _ hx)
    have := g pw (List.mem_cons_self)
    rw [whole_cons]
    omega
theorem MixOk.at {h : Int} {n : Nat} {m : List (List Int × Int)} {i : Nat} {pw : List Int × Int} (k : MixOk h n m) (e : m[i]? = some pw) : 0 ≤ whole (m.take i) ∧ 1 ≤ pw.2 ∧ whole (m.take (i + 1)) = whole (m.take i) + pw.2 ∧ whole (m.take i) + pw.2 ≤ whole m := by
  have h1 := whole_nn (m.take i) fun x hx => (k.pl x (List.mem_of_mem_take hx)).2
  have h2 := whole_nn (m.drop (i + 1)) fun x hx => (k.pl x (List.mem_of_mem_drop hx)).2
  have h3 : whole m = whole (m.take i) + whole (m.drop i) := by rw [← whole_app, List.take_append_drop]
  rw [drop_get e, whole_cons] at h3
  have h4 := (k.pl pw (List.mem_of_getElem? e)).2
  refine ⟨h1, h4, ?_, by omega⟩
  rw [take_snoc e, whole_app]
  simp [whole]
theorem MixOk.reverse {h : Int} {n : Nat} {m : List (List Int × Int)} (k : MixOk h n m) : MixOk h n m.reverse := ⟨by rw [List.length_reverse]; exact k.ne, k.fl, k.ho, fun pw hp => k.pl pw (List.mem_reverse.mp hp)⟩
theorem whole_reverse (m : List (List Int × Int)) : whole m.reverse = whole m := by
  induction m with
  | nil => rfl
  | cons pw m ih =>
    rw [List.reverse_cons, whole_app, whole_cons, ih]
    simp [whole]
    omega
theorem due_last : ∀ (m : List (List Int × Int)) {p : List Int} {w z : Int}, (∀ pw ∈ m, 1 ≤ pw.2) → whole m ≤ z → z < whole m + w → due (m ++ [(p, w)]) z = p
  | [], p, w, z, _, h1, h2 => by
    simp [whole] at h1 h2
    show due [(p, w)] z = p
    rw [due, if_pos h2]
  | pw :: m, p, w, z, h0, h1, h2 => by
    rw [whole_cons] at h1 h2
    have := whole_nn m fun x hx => h0 x (List.mem_cons_of_mem _ hx)
    show due (pw :: (m ++ [(p, w)])) z = p
    rw [due, if_neg (by omega)]
    exact due_last m (fun x hx => h0 x (List.mem_cons_of_mem _ hx)) (by omega) (by omega)
theorem DqAll.revm {H : Hp} {vs : List V} {m : List (List Int × Int)} (q : DqAll H vs (m.map partD)) : DqAll H vs.reverse (m.reverse.map partD) := by
  rw [List.map_reverse]
  exact q.reverse
theorem dq_two {H : Hp} {a t1 t2 p1 p2 : Addr} {w1 w2 x1 y1 x2 y2 : Int} (h : H a = some (.lst [.ref t1, .ref t2])) (h1 : H t1 = some (.tup [.ref p1, .int w1])) (h2 : H t2 = some (.tup [.ref p2, .int w2])) (h3 : H p1 = some (.lst [.int x1, .int y1])) (h4 : H p2 = some (.lst [.int x2, .int y2])) : Dq H (.ref a) (mixD [([x1, y1], w1), ([x2, y2], w2)]) :=
  .lst h (.cons (part_mk h1 h3) (.cons (part_mk h2 h4) .nil))
theorem MixOk.snoc {h : Int} {n : Nat} {m : List (List Int × Int)} {p : List Int} {w : Int} (k : MixOk h n m) (hp : PlanC h n p) (hw : 1 ≤ w) (hl : m.length ≤ 50) : MixOk h n (m ++ [(p, w)]) := ⟨by simp; omega, k.fl, k.ho, fun pw hpw => by
  rcases List.mem_append.mp hpw with g | g
  · exact k.pl pw g
  · rw [List.mem_singleton.mp g]
    exact ⟨hp, hw⟩⟩
theorem due_len {k : Nat} : ∀ (m : List (List Int × Int)) (z : Int), (∀ pw ∈ m, pw.1.length ≤ k) → (due m z).length ≤ k
  | [], _, _ => Nat.zero_le _
  | pw :: m, z, h => by
    rw [due]
    split
    · exact h pw (List.mem_cons_self)
    · exact due_len m _ fun x hx => h x (List.mem_cons_of_mem _ hx)
theorem MixOk.due_len {h : Int} {n : Nat} {m : List (List Int × Int)} (k : MixOk h n m) (z : Int) : (due m z).length ≤ 8 := Hf.due_len m z fun pw hp => by
  have := (k.pl pw hp).1.1
  have := k.fl.2
  omega
end Hf
/-! ## what is new -/
namespace Hf
open PySem PySem.Spec PyProof.Rows L2
/-! ### what is new -/
/-- what stands in G does not stand in H -/
def Newly (H G : Hp) : Prop := ∀ b o, H b = some o → G b = none
/-- what stands in H' and not in H, but for S -/
def fr (S : List Addr) (H H' : Hp) : Hp := fun b => if b ∈ S then none else match H b with
  | none => H' b
  | some _ => none
section
variable {S : List Addr} {H H' H1 H2 G : Hp} {a p : Addr} {o u : HO}
theorem fr_same : Same (fr S H H') H' := fun b o h => by
  unfold fr at h
  split at h
  · cases h
  · split at h
    · exact h
    · cases h
theorem fr_newly : Newly H (fr S H H') := fun b o h => by
  unfold fr
  split
  · rfl
  · rw [h]
theorem fr_in (h : a ∈ S) : fr S H H' a = none := if_pos h
theorem fr_lk (n : a ∉ S) (h : H a = none) (e : H' a = some o) : fr S H H' a = some o := by
  unfold fr
  rw [if_neg n, h]
  exact e
theorem fr_lk0 (h : H a = none) (e : H' a = some o) : fr [] H H' a = some o := fr_lk (by simp) h e
theorem fr_lk1 (n : a ≠ p) (h : H a = none) (e : H' a = some o) : fr [p] H H' a = some o := fr_lk (not_in1 n) h e
theorem fr_lk2 {q : Addr} (n : a ≠ p) (m : a ≠ q) (h : H a = none) (e : H' a = some o) : fr [p, q] H H' a = some o := fr_lk (not_in2 n m) h e
theorem fr_mono (s : Same H1 H2) : Same (fr S H H1) (fr S H H2) := fun b o h => by
  unfold fr at h ⊢
  split
  · next c => rw [if_pos c] at h; cases h
  · next c =>
    rw [if_neg c] at h
    split
    · next c2 => rw [c2] at h; exact s _ _ h
    · next c2 => rw [c2] at h; cases h
theorem fr_sub : Same (fr S H H') (fr [] H H') := fun b o h => by
  unfold fr at h ⊢
  split at h
  · cases h
  · rw [if_neg (by simp)]
    exact h
theorem fr_but (ha : a ∈ S) (s : But a H1 H2) : Same (fr S H H1) (fr S H H2) := fun b o h => by
  unfold fr at h ⊢
  split
  · next c => rw [if_pos c] at h; cases h
  · next c =>
    rw [if_neg c] at h
    split
    · next c2 => rw [c2] at h; exact s _ _ (fun e => c (e ▸ ha)) h
    · next c2 => rw [c2] at h; cases h
theorem fr_butK (ha : H a = some o) (s : But a H1 H2) : Same (fr S H H1) (fr S H H2) := fun b u h => by
  unfold fr at h ⊢
  split
  · next c => rw [if_pos c] at h; cases h
  · next c =>
    rw [if_neg c] at h
    split
    · next c2 => rw [c2] at h; exact s _ _ (fun e => by rw [e, ha] at c2; cases c2) h
    · next c2 => rw [c2] at h; cases h
theorem fr_upd (ha : a ∈ S) : Same (fr S H H1) (fr S H (upd H1 a o)) := fr_but ha (But.upd (But.refl _ _))
/-- all of G is new, and in H' -/
theorem Newly.same (n : Newly H G) (s : Same G H') : Same G (fr [] H H') := fun b o h => by
  refine fr_lk0 ?_ (s _ _ h)
  cases e : H b with
  | none => rfl
  | some u => rw [n b u e] at h; cases h
theorem Newly.same1 (n : Newly H G) (s : Same G H') (hp : G p = none) : Same G (fr [p] H H') := fun b o h => by
  refine fr_lk1 (ne_of_none h hp) ?_ (s _ _ h)
  cases e : H b with
  | none => rfl
  | some u => rw [n b u e] at h; cases h
theorem Newly.same2 {q : Addr} (n : Newly H G) (s : Same G H') (hp : G p = none) (hq : G q = none) : Same G (fr [p, q] H H') := fun b o h => by
  refine fr_lk2 (ne_of_none h hp) (ne_of_none h hq) ?_ (s _ _ h)
  cases e : H b with
  | none => rfl
  | some u => rw [n b u e] at h; cases h
theorem Newly.free (n : Newly H G) (h : H p = some o) : G p = none := n p o h
theorem Newly.back (n : Newly H1 G) (s : Same H H1) : Newly H G := fun b o h => n b o (s b o h)
theorem Newly.backB (n : Newly H1 G) (s : But a H H1) (h : G a = none) : Newly H G := fun b o e => by
  by_cases c : b = a
  · rw [c]; exact h
  · exact n b o (s b o c e)
end
/-! ### the purse of draws: where it stands and how often it was drawn from -/
def Left (n m : Int) : Prop := m = 1 ∨ (m = 0 ∧ 0 ≤ n ∧ n < 2147483629)
def Pk (a : Addr) (m : Int) (H : Hp) (c0 : Int) : Prop := ∃ n c, H a = some (.lst [.int n, .int m, .int c]) ∧ Left n m ∧ 0 ≤ c ∧ c ≤ c0
section
variable {a b p : Addr} {m c0 c1 : Int} {H H' H1 G : Hp} {o : HO}
theorem Pk.mono (h : Pk a m H c0) (e : c0 ≤ c1) : Pk a m H c1 := by
  obtain ⟨n, c, h1, h2, h3, h4⟩ := h
  exact ⟨n, c, h1, h2, h3, by omega⟩
theorem Pk.cast (h : Pk a m H c0) (e : c0 = c1) : Pk a m H c1 := e ▸ h
theorem Pk.same (h : Pk a m H c0) (s : Same H H') : Pk a m H' c0 := by
  obtain ⟨n, c, h1, h2, h3⟩ := h
  exact ⟨n, c, s _ _ h1, h2, h3⟩
theorem Pk.new (h : Pk a m H c0) (hp : H p = none) : Pk a m (upd H p o) c0 := h.same (Same.new hp)
theorem Pk.upd (h : Pk a m H c0) (hp : p ≠ a) : Pk a m (upd H p o) c0 := by
  obtain ⟨n, c, h1, h2, h3⟩ := h
  exact ⟨n, c, by rw [upd_ne hp.symm]; exact h1, h2, h3⟩
theorem Pk.but (h : Pk a m H c0) (s : But p H H') (hp : p ≠ a) : Pk a m H' c0 := by
  obtain ⟨n, c, h1, h2, h3⟩ := h
  exact ⟨n, c, s _ _ hp.symm h1, h2, h3⟩
theorem Pk.newT (hp : H p = none) (h : Pk a m H c0) : Pk a m (L2.upd H p o) c0 := h.new hp
theorem Pk.sameT (s : Same H H') (h : Pk a m H c0) : Pk a m H' c0 := h.same s
theorem Pk.ne (n : H p = none) (h : Pk a m H c0) : p ≠ a := by
  obtain ⟨_, _, h1, _⟩ := h
  exact (ne_of_none h1 n).symm
theorem Pk.neo (n : G a = none) (h : G p = some o) : p ≠ a := ne_of_none h n
theorem Pk.some (h : Pk a m H c0) : ∃ o, H a = some o := by
  obtain ⟨_, _, h1, _⟩ := h
  exact ⟨_, h1⟩
theorem Pk.free (hn : H' p = none) (e : But a H H') (h : Pk a m H' c0) : H p = none := by
  obtain ⟨_, _, h1, _⟩ := h
  exact But.free hn e h1
theorem Newly.pk (n : Newly H G) (h : Pk a m H c0) : G a = none := by
  obtain ⟨_, _, h1, _⟩ := h
  exact n.free h1
theorem fr_butP {S : List Addr} {H2 : Hp} (h : Pk a m H c0) (s : But a H1 H2) : Same (fr S H H1) (fr S H H2) := by
  obtain ⟨_, _, h1, _⟩ := h
  exact fr_butK h1 s
theorem Newly.backP (n : Newly H1 G) (s : But a H H1) (h : Pk a m H1 c0) : Newly H G := n.backB s (n.pk h)
theorem pk_new {n z : Int} {p : Addr} (h : Left n z) : Pk p z (L2.upd H p (.lst [.int n, .int z, .int 0])) 0 := ⟨n, 0, upd_same, h, Int.le_refl _, Int.le_refl _⟩
end
/-! ### comprehensions that draw -/
section
variable {σ : L2.St} {H H1 : Hp} {Q : VK} {K : PySem.W.Frag} {D a l : Addr} {wi : TI} {g : TG} {tt : TT} {te : TE} {vs : List Nat} {lo : Int} {n : Nat} {xs : List V} {Qd : Hp → Prop}
theorem inc_snoc {c0 inc : Int} {i : Nat} : c0 + inc * (i : Int) + inc = c0 + inc * ((i + 1 : Nat) : Int) := by
  rw [show ((i + 1 : Nat) : Int) = (i : Int) + 1 from rfl, Int.mul_add, Int.mul_one]
  omega
theorem lcR_pk {m c0 : Int} (Pz : Int → Prop) (inc : Int) (hp : Pk a m H1 c0) (nD : H1 D = none) (hn : n ≤ 1000000)
    (hs : ∀ (i : Nat) H (Z : VK) (Y : Hp → Prop), i < n → Pk a m H (c0 + inc * (i : Int)) → But a H1 H → (∀ z H4, Pz z → Pk a m H4 (c0 + inc * (i : Int) + inc) → But a H H4 → Z (.int z) H4) → LcTurn g tt te vs σ (.int (lo + i)) H Z Y)
    (hd : ∀ (ms : List Int) H, ms.length = n → (∀ z ∈ ms, Pz z) → H D = some (.lst (ms.map V.int)) → Pk a m H (c0 + inc * (n : Int)) → But a H1 H → Qd H) :
    ∃ W : Nat → Nat → Hp → Prop, (∃ m, W 0 m (upd H1 D (.lst []))) ∧ ∀ i m H, W i m H →
      ((Itr lo n).stop i H ∧ Qd H) ∨ ((Itr lo n).go i H ∧ ∃ Nx : Hp → Prop, (∀ H', Nx H' → ∃ m', m' < m ∧ W (i + 1) m' H') ∧ ∀ x H', (Itr lo n).yld i H x H' → g x (wipe σ vs) H' fun σ2 H2 => wipe σ2 vs = wipe σ vs ∧ tt σ2 H2 fun b H3 =>
        if b = true then te σ2 H3 fun y H4 => ∃ acc, H4 D = some (.lst acc) ∧ acc.length < sizeLine ∧ Nx (upd H4 D (.lst (acc ++ [y]))) else Nx H3) := by
  have hDa : D ≠ a := hp.ne nD
  refine lcR (fun i acc H => ∃ ms : List Int, acc = ms.map V.int ∧ ms.length = i ∧ (∀ z ∈ ms, Pz z) ∧ Pk a m H (c0 + inc * (i : Int)) ∧ But a H1 H) nD ⟨[], rfl, rfl, nofun, (hp.new nD).cast (by simp), But.newT nD (But.refl _ _)⟩ ?_ ?_
  · rintro i acc H Z Y hi ⟨ms, rfl, h1, h2, h3, h4⟩ hD hz _
    refine hs i H Z Y hi h3 h4 fun z H4 k1 k2 k3 => hz _ _ (k3 _ _ hDa hD) (sz4' (by rw [List.length_map]; omega)) ⟨ms ++ [z], by rw [List.map_append]; rfl, by rw [List.length_append, h1]; rfl, ?_, (k2.upd hDa).cast inc_snoc, ?_⟩
    · intro x hx
      rcases List.mem_append.mp hx with e | e
      · exact h2 x e
      · rw [List.mem_singleton.mp e]; exact k1
    · intro b o hb e
      have := k3 _ _ hb (h4 _ _ hb e)
      rw [upd_ne (ne_of_none e nD)]
      exact this
  · rintro acc H ⟨ms, rfl, h1, h2, h3, h4⟩ hD
    exact hd ms H h1 h2 hD h3 h4
theorem lcR_dq {α : Type} {m c0 : Int} (F : α → PyData) (Pz : α → Prop) (inc : Int) (hp : Pk a m H1 c0) (nD : H1 D = none) (hn : n ≤ 1000000)
    (hs : ∀ (i : Nat) H (Z : VK) (Y : Hp → Prop), i < n → Pk a m H (c0 + inc * (i : Int)) → But a H1 H → (∀ x v G H4, Pz x → Dq G v (F x) → Newly H G → Same G H4 → Pk a m H4 (c0 + inc * (i : Int) + inc) → But a H H4 → Z v H4) → LcTurn g tt te vs σ (.int (lo + i)) H Z Y)
    (hd : ∀ (xs : List α) G H, xs.length = n → (∀ x ∈ xs, Pz x) → Dq G (.ref D) (.list (xs.map F)) → Newly H1 G → Same G H → Pk a m H (c0 + inc * (n : Int)) → But a H1 H → Qd H) :
    ∃ W : Nat → Nat → Hp → Prop, (∃ m, W 0 m (upd H1 D (.lst []))) ∧ ∀ i m H, W i m H →
      ((Itr lo n).stop i H ∧ Qd H) ∨ ((Itr lo n).go i H ∧ ∃ Nx : Hp → Prop, (∀ H', Nx H' → ∃ m', m' < m ∧ W (i + 1) m' H') ∧ ∀ x H', (Itr lo n).yld i H x H' → g x (wipe σ vs) H' fun σ2 H2 => wipe σ2 vs = wipe σ vs ∧ tt σ2 H2 fun b H3 =>
        if b = true then te σ2 H3 fun y H4 => ∃ acc, H4 D = some (.lst acc) ∧ acc.length < sizeLine ∧ Nx (upd H4 D (.lst (acc ++ [y]))) else Nx H3) := by
  have hDa : D ≠ a := hp.ne nD
  refine lcR (fun i acc H => ∃ xs : List α, DqAll (fr [D] H1 H) acc (xs.map F) ∧ xs.length = i ∧ (∀ x ∈ xs, Pz x) ∧ Pk a m H (c0 + inc * (i : Int)) ∧ But a H1 H) nD ⟨[], .nil, rfl, nofun, (hp.new nD).cast (by simp), But.newT nD (But.refl _ _)⟩ ?_ ?_
  · rintro i acc H Z Y hi ⟨xs, h0, h1, h2, h3, h4⟩ hD hz _
    refine hs i H Z Y hi h3 h4 fun x v G H4 k1 k2 k3 k4 k5 k6 => ?_
    have gD : G D = none := k3.free hD
    refine hz _ _ (k6 _ _ hDa hD) (sz4' (by rw [h0.len, List.length_map]; omega)) ⟨xs ++ [x], ?_, by rw [List.length_append, h1]; rfl, ?_, (k5.upd hDa).cast inc_snoc, ?_⟩
    · rw [List.map_append]
      exact DqAll.snoc ((h0.same (fr_butP hp k6)).same (fr_upd (by simp))) (k2.same (Newly.same1 (k3.backP h4 h3) (Same.mut k4 gD) gD))
    · intro y hy
      rcases List.mem_append.mp hy with e | e
      · exact h2 y e
      · rw [List.mem_singleton.mp e]; exact k1
    · intro b o hb e
      have := k6 _ _ hb (h4 _ _ hb e)
      rw [upd_ne (ne_of_none e nD)]
      exact this
  · rintro acc H ⟨xs, h0, h1, h2, h3, h4⟩ hD
    exact hd xs (fr [] H1 H) H h1 h2 (.lst (fr_lk0 nD hD) (h0.same fr_sub)) fr_newly fr_same h3 h4
/-- new data for each item of a list, nothing changed -/
theorem lcL_new (f : Nat → PyData) (nD : H1 D = none) (hn : xs.length ≤ 1000000) (hx : SqL K H1 l xs)
    (hs : ∀ (i : Nat) (x : V) H (Z : VK) (Y : Hp → Prop), xs[i]? = some x → Same H1 H → (∀ v G H4, Dq G v (f i) → Newly H G → Same G H4 → Same H H4 → Z v H4) → LcTurn g tt te vs σ x H Z Y)
    (hd : ∀ G H, Dq G (.ref D) (.list ((List.range xs.length).map f)) → Newly H1 G → Same G H → Same H1 H → Qd H) :
    ∃ W : Nat → Nat → Hp → Prop, (∃ m, W 0 m (upd H1 D (.lst []))) ∧ ∀ i m H, W i m H →
      ((Itl K l).stop i H ∧ Qd H) ∨ ((Itl K l).go i H ∧ ∃ Nx : Hp → Prop, (∀ H', Nx H' → ∃ m', m' < m ∧ W (i + 1) m' H') ∧ ∀ x H', (Itl K l).yld i H x H' → g x (wipe σ vs) H' fun σ2 H2 => wipe σ2 vs = wipe σ vs ∧ tt σ2 H2 fun b H3 =>
        if b = true then te σ2 H3 fun y H4 => ∃ acc, H4 D = some (.lst acc) ∧ acc.length < sizeLine ∧ Nx (upd H4 D (.lst (acc ++ [y]))) else Nx H3) := by
  refine lcL (xs := xs) (fun i acc H => DqAll (fr [D] H1 H) acc ((List.range i).map f) ∧ acc.length = i ∧ Same H1 H) nD ⟨.nil, rfl, Same.new nD⟩ (fun i acc H _ q _ => q.2.2.seq hx) ?_ ?_
  · rintro i x acc H Z Y hi ⟨h0, h1, h2⟩ hD hz _
    have hi' : i < xs.length := (List.getElem?_eq_some_iff.mp hi).1
    refine hs i x H Z Y hi h2 fun v G H4 k2 k3 k4 k6 => ?_
    have gD : G D = none := k3.free hD
    refine hz _ _ (k6 _ _ hD) (sz4' (by omega)) ⟨?_, by rw [List.length_append, h1]; rfl, Same.mut (h2.trans k6) nD⟩
    rw [List.range_succ, List.map_append]
    exact DqAll.snoc ((h0.same (fr_mono k6)).same (fr_upd (by simp))) (k2.same (Newly.same1 (k3.back h2) (Same.mut k4 gD) gD))
  · rintro acc H ⟨h0, h1, h2⟩ hD
    exact hd (fr [] H1 H) H (.lst (fr_lk0 nD hD) (h0.same fr_sub)) fr_newly fr_same h2
theorem lcT (P : Nat → List V → Hp → Prop) (nD : H1 D = none) (h0 : P 0 [] (upd H1 D (.lst []))) (hl : ∀ i acc H, i ≤ xs.length → P i acc H → H D = some (.lst acc) → SqT K H l xs)
    (hs : ∀ i x acc H (Z : VK) (Y : Hp → Prop), xs[i]? = some x → P i acc H → H D = some (.lst acc) → (∀ y H4, H4 D = some (.lst acc) → acc.length < sizeLine → P (i + 1) (acc ++ [y]) (upd H4 D (.lst (acc ++ [y]))) → Z y H4) →
      (∀ H4, H4 D = some (.lst acc) → P (i + 1) acc H4 → Y H4) → LcTurn g tt te vs σ x H Z Y) (hd : ∀ acc H, P xs.length acc H → H D = some (.lst acc) → Qd H) :
    ∃ W : Nat → Nat → Hp → Prop, (∃ m, W 0 m (upd H1 D (.lst []))) ∧ ∀ i m H, W i m H →
      ((Itt K l).stop i H ∧ Qd H) ∨ ((Itt K l).go i H ∧ ∃ Nx : Hp → Prop, (∀ H', Nx H' → ∃ m', m' < m ∧ W (i + 1) m' H') ∧ ∀ x H', (Itt K l).yld i H x H' → g x (wipe σ vs) H' fun σ2 H2 => wipe σ2 vs = wipe σ vs ∧ tt σ2 H2 fun b H3 =>
        if b = true then te σ2 H3 fun y H4 => ∃ acc, H4 D = some (.lst acc) ∧ acc.length < sizeLine ∧ Nx (upd H4 D (.lst (acc ++ [y]))) else Nx H3) := by
  refine lc_tup (xs := xs) (fun i H => ∃ acc, P i acc H ∧ H D = some (.lst acc)) ⟨[], h0, upd_same⟩ (fun i H hi hp => ?_) (fun i x H hi hp => ?_) (fun H hp => ?_)
  · obtain ⟨acc, hp, ha⟩ := hp
    exact hl i acc H hi hp ha
  · obtain ⟨acc, hp, ha⟩ := hp
    exact hs i x acc H _ _ hi hp ha (fun y H4 h1 h2 h3 => ⟨acc, h1, h2, _, h3, upd_same⟩) fun H4 h1 h2 => ⟨acc, h2, h1⟩
  · obtain ⟨acc, hp, ha⟩ := hp
    exact hd acc H hp ha
theorem lcT_new (f : Nat → PyData) (nD : H1 D = none) (hn : xs.length ≤ 1000000) (hx : SqT K H1 l xs)
    (hs : ∀ (i : Nat) (x : V) H (Z : VK) (Y : Hp → Prop), xs[i]? = some x → Same H1 H → (∀ v G H4, Dq G v (f i) → Newly H G → Same G H4 → Same H H4 → Z v H4) → LcTurn g tt te vs σ x H Z Y)
    (hd : ∀ G H, Dq G (.ref D) (.list ((List.range xs.length).map f)) → Newly H1 G → Same G H → Same H1 H → Qd H) :
    ∃ W : Nat → Nat → Hp → Prop, (∃ m, W 0 m (upd H1 D (.lst []))) ∧ ∀ i m H, W i m H →
      ((Itt K l).stop i H ∧ Qd H) ∨ ((Itt K l).go i H ∧ ∃ Nx : Hp → Prop, (∀ H', Nx H' → ∃ m', m' < m ∧ W (i + 1) m' H') ∧ ∀ x H', (Itt K l).yld i H x H' → g x (wipe σ vs) H' fun σ2 H2 => wipe σ2 vs = wipe σ vs ∧ tt σ2 H2 fun b H3 =>
        if b = true then te σ2 H3 fun y H4 => ∃ acc, H4 D = some (.lst acc) ∧ acc.length < sizeLine ∧ Nx (upd H4 D (.lst (acc ++ [y]))) else Nx H3) := by
  refine lcT (xs := xs) (fun i acc H => DqAll (fr [D] H1 H) acc ((List.range i).map f) ∧ acc.length = i ∧ Same H1 H) nD ⟨.nil, rfl, Same.new nD⟩ (fun i acc H _ q _ => Same.seqT q.2.2 hx) ?_ ?_
  · rintro i x acc H Z Y hi ⟨h0, h1, h2⟩ hD hz _
    have hi' : i < xs.length := (List.getElem?_eq_some_iff.mp hi).1
    refine hs i x H Z Y hi h2 fun v G H4 k2 k3 k4 k6 => ?_
    have gD : G D = none := k3.free hD
    refine hz _ _ (k6 _ _ hD) (sz4' (by omega)) ⟨?_, by rw [List.length_append, h1]; rfl, Same.mut (h2.trans k6) nD⟩
    rw [List.range_succ, List.map_append]
    exact DqAll.snoc ((h0.same (fr_mono k6)).same (fr_upd (by simp))) (k2.same (Newly.same1 (k3.back h2) (Same.mut k4 gD) gD))
  · rintro acc H ⟨h0, h1, h2⟩ hD
    exact hd (fr [] H1 H) H (.lst (fr_lk0 nD hD) (h0.same fr_sub)) fr_newly fr_same h2
theorem lcR_new (f : Nat → PyData) (nD : H1 D = none) (hn : n ≤ 1000000)
    (hs : ∀ (i : Nat) H (Z : VK) (Y : Hp → Prop), i < n → Same H1 H → (∀ v G H4, Dq G v (f i) → Newly H G → Same G H4 → Same H H4 → Z v H4) → LcTurn g tt te vs σ (.int (lo + i)) H Z Y)
    (hd : ∀ G H, Dq G (.ref D) (.list ((List.range n).map f)) → Newly H1 G → Same G H → Same H1 H → Qd H) :
    ∃ W : Nat → Nat → Hp → Prop, (∃ m, W 0 m (upd H1 D (.lst []))) ∧ ∀ i m H, W i m H →
      ((Itr lo n).stop i H ∧ Qd H) ∨ ((Itr lo n).go i H ∧ ∃ Nx : Hp → Prop, (∀ H', Nx H' → ∃ m', m' < m ∧ W (i + 1) m' H') ∧ ∀ x H', (Itr lo n).yld i H x H' → g x (wipe σ vs) H' fun σ2 H2 => wipe σ2 vs = wipe σ vs ∧ tt σ2 H2 fun b H3 =>
        if b = true then te σ2 H3 fun y H4 => ∃ acc, H4 D = some (.lst acc) ∧ acc.length < sizeLine ∧ Nx (upd H4 D (.lst (acc ++ [y]))) else Nx H3) := by
  refine lcR (fun i acc H => DqAll (fr [D] H1 H) acc ((List.range i).map f) ∧ acc.length = i ∧ Same H1 H) nD ⟨.nil, rfl, Same.new nD⟩ ?_ ?_
  · rintro i acc H Z Y hi ⟨h0, h1, h2⟩ hD hz _
    refine hs i H Z Y hi h2 fun v G H4 k2 k3 k4 k6 => ?_
    have gD : G D = none := k3.free hD
    refine hz _ _ (k6 _ _ hD) (sz4' (by omega)) ⟨?_, by rw [List.length_append, h1]; rfl, Same.mut (h2.trans k6) nD⟩
    rw [List.range_succ, List.map_append]
    exact DqAll.snoc ((h0.same (fr_mono k6)).same (fr_upd (by simp))) (k2.same (Newly.same1 (k3.back h2) (Same.mut k4 gD) gD))
  · rintro acc H ⟨h0, h1, h2⟩ hD
    exact hd (fr [] H1 H) H (.lst (fr_lk0 nD hD) (h0.same fr_sub)) fr_newly fr_same h2
/-! ### tuple of a list -/
theorem i_tupOfL {p : Addr} (h : SqL K H p xs) (q : ∀ l, H l = none → Q (.ref l) (upd H l (.tup xs))) : rTupleOf K [.ref p] H Q := ⟨p, xs, rfl, .inl ⟨h, q⟩⟩
end
/-! ### how deep data are -/
mutual
def dep : PyData → Nat
  | .list xs => depA xs + 1
  | .tuple xs => depA xs + 1
  | _ => 0
def depA : List PyData → Nat
  | [] => 0
  | d :: ds => max (dep d) (depA ds)
end
/-! how wide -/
mutual
def wid : PyData → Nat
  | .list xs => max xs.length (widA xs)
  | .tuple xs => max xs.length (widA xs)
  | _ => 0
def widA : List PyData → Nat
  | [] => 0
  | d :: ds => max (wid d) (widA ds)
end
theorem widA_mem : ∀ {ds : List PyData} {d : PyData}, d ∈ ds → wid d ≤ widA ds
  | e :: ds, d, h => by
    rw [widA]
    rcases List.mem_cons.mp h with z | z
    · rw [z]; omega
    · have := widA_mem z
      omega
theorem widA_le {k : Nat} : ∀ {ds : List PyData}, (∀ d ∈ ds, wid d ≤ k) → widA ds ≤ k
  | [], _ => Nat.zero_le _
  | e :: ds, h => by
    rw [widA]
    have := h e List.mem_cons_self
    have := widA_le fun d hd => h d (List.mem_cons_of_mem _ hd)
    omega
theorem depA_mem : ∀ {ds : List PyData} {d : PyData}, d ∈ ds → dep d ≤ depA ds
  | e :: ds, d, h => by
    rw [depA]
    rcases List.mem_cons.mp h with z | z
    · rw [z]; omega
    · have := depA_mem z
      omega
theorem depA_le {k : Nat} : ∀ {ds : List PyData}, (∀ d ∈ ds, dep d ≤ k) → depA ds ≤ k
  | [], _ => Nat.zero_le _
  | e :: ds, h => by
    rw [depA]
    have := h e List.mem_cons_self
    have := depA_le fun d hd => h d (List.mem_cons_of_mem _ hd)
    omega
/-- no object at all -/
def noH : Hp := fun _ => none
theorem noH_newly {H : Hp} : Newly H noH := fun _ _ _ => rfl
theorem noH_same {H : Hp} : Same noH H := fun _ _ h => by cases h
theorem rng_get {α : Type} {x : α} (ds : List α) : (List.range ds.length).map (fun i => (ds[i]?).getD x) = ds := by
  apply List.ext_getElem?
  intro i
  rw [List.getElem?_map]
  by_cases c : i < ds.length
  · rw [List.getElem?_range c, List.getElem?_eq_getElem c]
    show some ((ds[i]?).getD x) = _
    rw [List.getElem?_eq_getElem c]
    rfl
  · rw [List.getElem?_eq_none (by rw [List.length_range]; omega), List.getElem?_eq_none (by omega)]
    rfl
/-- int of a truth that is known -/
theorem i_intY {b : Bool} {R : Bool → Prop} {S : Prop} (e : b = true) (q : R true) : S ∨ ∃ k, [V.bl b] = [.bl k] ∧ R k := by
  subst e
  exact .inr ⟨true, rfl, q⟩
theorem i_intN {b : Bool} {R : Bool → Prop} {S : Prop} (e : b = false) (q : R false) : S ∨ ∃ k, [V.bl b] = [.bl k] ∧ R k := by
  subst e
  exact .inr ⟨false, rfl, q⟩
/-! ### data that compare -/
mutual
theorem depth_dep : ∀ {d : PyData}, d.canLay0 = true → d.depth = dep d
  | .none, _ => by simp [PyData.depth, dep]
  | .bool _, _ => by simp [PyData.depth, dep]
  | .int _, _ => by simp [PyData.depth, dep]
  | .str _, _ => by simp [PyData.depth, dep]
  | .list xs, h => by
    have := depthA_dep (ds := xs) (by simpa [PyData.canLay0] using h)
    simp [PyData.depth, dep, this]
  | .tuple xs, h => by
    have := depthA_dep (ds := xs) (by simpa [PyData.canLay0] using h)
    simp [PyData.depth, dep, this]
  | .dict _, h => by simp [PyData.canLay0] at h
theorem depthA_dep : ∀ {ds : List PyData}, PyData.canLayAll0 ds = true → PyData.depthAll ds = depA ds
  | [], _ => by simp [PyData.depthAll, depA]
  | d :: ds, h => by
    rw [PyData.canLayAll0, Bool.and_eq_true] at h
    rw [PyData.depthAll, depA, depth_dep h.1, depthA_dep h.2]
end
theorem shaped_of {d : PyData} (h : d.canLay0 = true) (h2 : dep d ≤ 64) : SeqAt.shaped d = true := by
  unfold SeqAt.shaped
  rw [h, depth_dep h, Bool.true_and, decide_eq_true h2]
theorem lay_all : ∀ {ds : List PyData}, (∀ d ∈ ds, d.canLay0 = true) → PyData.canLayAll0 ds = true
  | [], _ => by simp [PyData.canLayAll0]
  | d :: ds, h => by
    rw [PyData.canLayAll0, h d List.mem_cons_self, lay_all fun e he => h e (List.mem_cons_of_mem _ he)]
    rfl
theorem lay_mem : ∀ {ds : List PyData} {d : PyData}, PyData.canLayAll0 ds = true → d ∈ ds → d.canLay0 = true
  | e :: ds, d, h, hd => by
    rw [PyData.canLayAll0, Bool.and_eq_true] at h
    rcases List.mem_cons.mp hd with z | z
    · rw [z]; exact h.1
    · exact lay_mem h.2 z
theorem lay_plan (r : List Int) : (planD r).canLay0 = true := by simp [planD, PyData.canLay0, canLay_ints]
theorem dep_ints (r : List Int) : depA (r.map PyData.int) = 0 := by
  have := depA_le (k := 0) (ds := r.map PyData.int) fun d hd => by
    obtain ⟨x, _, rfl⟩ := List.mem_map.mp hd
    simp [dep]
  omega
theorem wid_ints (r : List Int) : widA (r.map PyData.int) = 0 := by
  have := widA_le (k := 0) (ds := r.map PyData.int) fun d hd => by
    obtain ⟨x, _, rfl⟩ := List.mem_map.mp hd
    simp [wid]
  omega
theorem dep_plan (r : List Int) : dep (planD r) = 1 := by simp [planD, dep, dep_ints]
theorem wid_plan (r : List Int) : wid (planD r) = r.length := by simp [planD, wid, wid_ints]
theorem dep_rows (rs : List (List Int)) : dep (.list (rs.map planD)) ≤ 2 := by
  have := depA_le (k := 1) (ds := rs.map planD) fun d hd => by
    obtain ⟨x, _, rfl⟩ := List.mem_map.mp hd
    rw [dep_plan]
    omega
  rw [dep]
  omega
theorem wid_rows {k : Nat} (rs : List (List Int)) (h : rs.length ≤ k) (h2 : ∀ r ∈ rs, r.length ≤ k) : wid (.list (rs.map planD)) ≤ k := by
  have := widA_le (k := k) (ds := rs.map planD) fun d hd => by
    obtain ⟨x, hx, rfl⟩ := List.mem_map.mp hd
    rw [wid_plan]
    exact h2 x hx
  rw [wid, List.length_map]
  omega
theorem lay_rows (rs : List (List Int)) : PyData.canLay0 (.list (rs.map planD)) = true := by
  rw [PyData.canLay0]
  exact lay_all fun d hd => by
    obtain ⟨x, _, rfl⟩ := List.mem_map.mp hd
    exact lay_plan x
/-- what is in G, new to H, is apart from what H has -/
theorem Newly.sep {H G G1 : Hp} {p : Addr} {o : HO} (n : Newly H G) (s : Same G1 H) (h : G p = some o) : G1 p = none := by
  cases e : G1 p with
  | none => rfl
  | some u =>
    have := n p u (s _ _ e)
    rw [this] at h
    cases h
theorem Same.updB {G H : Hp} {P : Addr} {o : HO} (s : Same G H) : Same (upd G P o) (upd H P o) := fun b u h => by
  by_cases c : b = P
  · rw [c, upd_same] at h ⊢
    exact h
  · rw [upd_ne c] at h ⊢
    exact s _ _ h
end Hf
/-! ## battles -/
namespace Hf
open PySem PySem.Spec PyProof.Rows L2
inductive Fld where
  | more (w t : Int)
  | lead (w l : Int)
  | tab (rows : List (List Int))
instance : Inhabited Fld := ⟨.more 1 0⟩
def fldD : Fld → PyData
  | .more w t => .tuple [.str (PySem.Str.ofString "more"), .int w, .int t]
  | .lead w l => .tuple [.str (PySem.Str.ofString "lead"), .int w, .int l]
  | .tab rows => .tuple [.str (PySem.Str.ofString "table"), .list (rows.map planD)]
def batD (f s : Int) (fs : List Fld) : PyData := .tuple [.int f, .int s, .list (fs.map fldD)]
def Sm (x : Int) : Prop := -(2 ^ 110) < x ∧ x < 2 ^ 110
def FldOk (f s : Int) : Fld → Prop
  | .more w t => 1 ≤ w ∧ 0 - w ≤ t ∧ t ≤ w
  | .lead w _ => 1 ≤ w
  | .tab rows => (rows.length : Int) = f + 1 ∧ ∀ r ∈ rows, (r.length : Int) = s + 1
/-- its numbers are not great -/
def FldSm : Fld → Prop
  | .more w t => Sm w ∧ Sm t
  | .lead w l => Sm w ∧ Sm l
  | .tab rows => ∀ r ∈ rows, ∀ x ∈ r, Sm x
structure BatOk (f s : Int) (fs : List Fld) : Prop where
  hf : 0 ≤ f ∧ f ≤ 10
  hs : 0 ≤ s ∧ s ≤ 10
  ne : 1 ≤ fs.length ∧ fs.length ≤ 5
  ok : ∀ x ∈ fs, FldOk f s x
def paidV : Fld → Int → Int → Int
  | .more w t, x, y => if x = y then t else if x > y then w else 0 - w
  | .lead w l, x, y => if x ≥ y + l then w else 0 - w
  | .tab rows, x, y => (((rows[x.toNat]?).getD [])[y.toNat]?).getD 0
section
variable {H : Hp} {v : V}
theorem fld_more {w t : Int} (h : Dq H v (fldD (.more w t))) : ∃ a, v = .ref a ∧ H a = some (.tup [.str (PySem.Str.ofString "more"), .int w, .int t]) := by
  obtain ⟨a, xs, rfl, h1, h2⟩ := Dq.tuple_inv h
  cases h2 with
  | cons a b =>
    cases b with
    | cons c d =>
      cases d with
      | cons e f =>
        cases f
        obtain rfl := Dq.str_inv a
        obtain rfl := Dq.int_inv c
        obtain rfl := Dq.int_inv e
        exact ⟨_, rfl, h1⟩
theorem fld_lead {w t : Int} (h : Dq H v (fldD (.lead w t))) : ∃ a, v = .ref a ∧ H a = some (.tup [.str (PySem.Str.ofString "lead"), .int w, .int t]) := by
  obtain ⟨a, xs, rfl, h1, h2⟩ := Dq.tuple_inv h
  cases h2 with
  | cons a b =>
    cases b with
    | cons c d =>
      cases d with
      | cons e f =>
        cases f
        obtain rfl := Dq.str_inv a
        obtain rfl := Dq.int_inv c
        obtain rfl := Dq.int_inv e
        exact ⟨_, rfl, h1⟩
theorem fld_tab {rows : List (List Int)} (h : Dq H v (fldD (.tab rows))) : ∃ a p xs, v = .ref a ∧ H a = some (.tup [.str (PySem.Str.ofString "table"), .ref p]) ∧ H p = some (.lst xs) ∧ DqAll H xs (rows.map planD) := by
  obtain ⟨a, xs, rfl, h1, h2⟩ := Dq.tuple_inv h
  cases h2 with
  | cons a b =>
    cases b with
    | cons c d =>
      cases d
      obtain rfl := Dq.str_inv a
      obtain ⟨p, ys, rfl, h3, h4⟩ := Dq.list_inv c
      exact ⟨_, p, ys, rfl, h1, h3, h4⟩
theorem row_at {xs : List V} {rows : List (List Int)} (q : DqAll H xs (rows.map planD)) {k : Nat} {w : V} (hw : xs[k]? = some w) : ∃ r p, rows[k]? = some r ∧ w = .ref p ∧ H p = some (.lst (r.map V.int)) := by
  obtain ⟨d, e, q⟩ := q.get' hw
  rw [List.getElem?_map] at e
  cases g : rows[k]? with
  | none => rw [g] at e; cases e
  | some r =>
    rw [g] at e
    cases e
    obtain ⟨p, ys, rfl, h3, h4⟩ := Dq.list_inv q
    obtain rfl := DqAll.ints h4
    exact ⟨r, p, rfl, rfl, h3⟩
theorem bat_inv {f s : Int} {fs : List Fld} (h : Dq H v (batD f s fs)) : ∃ a p xs, v = .ref a ∧ H a = some (.tup [.int f, .int s, .ref p]) ∧ H p = some (.lst xs) ∧ DqAll H xs (fs.map fldD) := by
  obtain ⟨a, xs, rfl, h1, h2⟩ := Dq.tuple_inv h
  cases h2 with
  | cons a b =>
    cases b with
    | cons c d =>
      cases d with
      | cons e f =>
        cases f
        obtain rfl := Dq.int_inv a
        obtain rfl := Dq.int_inv c
        obtain ⟨p, ys, rfl, h3, h4⟩ := Dq.list_inv e
        exact ⟨_, p, ys, rfl, h1, h3, h4⟩
theorem fld_at {xs : List V} {fs : List Fld} (q : DqAll H xs (fs.map fldD)) {k : Nat} {w : V} (hw : xs[k]? = some w) : ∃ f, fs[k]? = some f ∧ Dq H w (fldD f) := by
  obtain ⟨d, e, q⟩ := q.get' hw
  rw [List.getElem?_map] at e
  cases g : fs[k]? with
  | none => rw [g] at e; cases e
  | some r =>
    rw [g] at e
    cases e
    exact ⟨r, rfl, q⟩
theorem more_mk {a : Addr} {w t : Int} (h : H a = some (.tup [.str (PySem.Str.ofString "more"), .int w, .int t])) : Dq H (.ref a) (fldD (.more w t)) := .tup h (.cons (.str _) (.cons (.int _) (.cons (.int _) .nil)))
theorem lead_mk {a : Addr} {w t : Int} (h : H a = some (.tup [.str (PySem.Str.ofString "lead"), .int w, .int t])) : Dq H (.ref a) (fldD (.lead w t)) := .tup h (.cons (.str _) (.cons (.int _) (.cons (.int _) .nil)))
theorem tab_mk {a p : Addr} {xs : List V} {rows : List (List Int)} (h : H a = some (.tup [.str (PySem.Str.ofString "table"), .ref p])) (h1 : H p = some (.lst xs)) (h2 : DqAll H xs (rows.map planD)) : Dq H (.ref a) (fldD (.tab rows)) := .tup h (.cons (.str _) (.cons (.lst h1 h2) .nil))
theorem tab_mk' {a : Addr} {v : V} {rows : List (List Int)} (h : H a = some (.tup [.str (PySem.Str.ofString "table"), v])) (h1 : Dq H v (.list (rows.map planD))) : Dq H (.ref a) (fldD (.tab rows)) := .tup h (.cons (.str _) (.cons h1 .nil))
theorem bat_mk' {a : Addr} {v : V} {f s : Int} {fs : List Fld} (h : H a = some (.tup [.int f, .int s, v])) (h1 : Dq H v (.list (fs.map fldD))) : Dq H (.ref a) (batD f s fs) := .tup h (.cons (.int _) (.cons (.int _) (.cons h1 .nil)))
theorem bat_mk {a p : Addr} {xs : List V} {f s : Int} {fs : List Fld} (h : H a = some (.tup [.int f, .int s, .ref p])) (h1 : H p = some (.lst xs)) (h2 : DqAll H xs (fs.map fldD)) : Dq H (.ref a) (batD f s fs) := .tup h (.cons (.int _) (.cons (.int _) (.cons (.lst h1 h2) .nil)))
theorem row_mk {p : Addr} {r : List Int} (h : H p = some (.lst (r.map V.int))) : Dq H (.ref p) (planD r) := .lst h (dq_ints r)
end
theorem BatOk.at {f s : Int} {fs : List Fld} (k : BatOk f s fs) {i : Nat} {x : Fld} (e : fs[i]? = some x) : FldOk f s x := k.ok x (List.mem_of_getElem? e)
theorem DqAll.rep {H : Hp} {v : V} {d : PyData} (h : Dq H v d) : ∀ n : Nat, DqAll H (List.replicate n v) (List.replicate n d)
  | 0 => .nil
  | n + 1 => .cons h (DqAll.rep h n)
theorem lay_fld (fl : Fld) : (fldD fl).canLay0 = true := by
  cases fl with
  | more w t => simp [fldD, PyData.canLay0, PyData.canLayAll0]; decide +kernel
  | lead w t => simp [fldD, PyData.canLay0, PyData.canLayAll0]; decide +kernel
  | tab rows =>
    simp [fldD, PyData.canLay0, PyData.canLayAll0, lay_rows]
    exact ⟨by decide +kernel, by have := lay_rows rows; rwa [PyData.canLay0] at this⟩
theorem lay_bat (f s : Int) (fs : List Fld) : (batD f s fs).canLay0 = true := by
  have : PyData.canLay0 (.list (fs.map fldD)) = true := by
    rw [PyData.canLay0]
    exact lay_all fun d hd => by
      obtain ⟨x, _, rfl⟩ := List.mem_map.mp hd
      exact lay_fld x
  rw [PyData.canLay0] at this
  simp [batD, PyData.canLay0, PyData.canLayAll0, this]
theorem dep_fld (fl : Fld) : dep (fldD fl) ≤ 3 := by
  cases fl with
  | more w t => simp [fldD, dep, depA]
  | lead w t => simp [fldD, dep, depA]
  | tab rows =>
    have := dep_rows rows
    simp only [fldD, dep, depA] at this ⊢
    omega
theorem dep_bat (f s : Int) (fs : List Fld) : dep (batD f s fs) ≤ 5 := by
  have := depA_le (k := 3) (ds := fs.map fldD) fun d hd => by
    obtain ⟨x, _, rfl⟩ := List.mem_map.mp hd
    exact dep_fld x
  simp only [batD, dep, depA] at this ⊢
  omega
theorem wid_fld {f s : Int} {fl : Fld} (hf : f ≤ 10) (hs : s ≤ 10) (k : FldOk f s fl) : wid (fldD fl) ≤ 20 := by
  cases fl with
  | more w t => rw [fldD]; simp [wid, widA]
  | lead w t => rw [fldD]; simp [wid, widA]
  | tab rows =>
    obtain ⟨h1, h2⟩ := k
    have := wid_rows (k := 20) rows (by omega) (fun r hr => by have := h2 r hr; omega)
    simp only [fldD, wid, widA, List.length_cons, List.length_nil] at this ⊢
    omega
theorem wid_bat {f s : Int} {fs : List Fld} (hf : f ≤ 10) (hs : s ≤ 10) (hl : fs.length ≤ 20) (k : ∀ x ∈ fs, FldOk f s x) : wid (batD f s fs) ≤ 20 := by
  have := widA_le (k := 20) (ds := fs.map fldD) fun d hd => by
    obtain ⟨x, hx, rfl⟩ := List.mem_map.mp hd
    exact wid_fld hf hs (k x hx)
  simp only [batD, wid, widA, List.length_cons, List.length_nil, List.length_map] at this ⊢
  omega
theorem shaped_bat (f s : Int) (fs : List Fld) : SeqAt.shaped (batD f s fs) = true := shaped_of (lay_bat f s fs) (Nat.le_trans (dep_bat f s fs) (by decide))
/-- a row changed through its address, whichever rows it is -/
theorem rows_set {G : Hp} {xs : List V} {rs : List (List Int)} {P : Addr} {r r' : List Int} (q : DqAll G xs (rs.map planD)) (hP : G P = some (.lst (r.map V.int))) (hl : r'.length = r.length) :
    ∃ rs' : List (List Int), DqAll (upd G P (.lst (r'.map V.int))) xs (rs'.map planD) ∧ rs'.length = rs.length ∧ ∀ L, (∀ z ∈ rs, z.length = L) → ∀ z ∈ rs', z.length = L := by
  induction rs generalizing xs with
  | nil =>
    cases q
    exact ⟨[], .nil, rfl, fun _ _ => nofun⟩
  | cons r0 rs ih =>
    cases q with
    | cons h q =>
      obtain ⟨rs', g1, g2, g3⟩ := ih q
      obtain ⟨p, ys, rfl, h3, h4⟩ := Dq.list_inv h
      obtain rfl := DqAll.ints h4
      by_cases c : p = P
      · subst c
        refine ⟨r' :: rs', .cons (row_mk upd_same) g1, by rw [List.length_cons, g2, List.length_cons], fun L hL z hz => ?_⟩
        rcases List.mem_cons.mp hz with e | e
        · rw [h3] at hP
          have e2 := congrArg List.length (HO.lst.inj (Option.some.inj hP))
          rw [List.length_map, List.length_map] at e2
          rw [e, hl, ← e2]
          exact hL r0 List.mem_cons_self
        · exact g3 L (fun z hz => hL z (List.mem_cons_of_mem _ hz)) z e
      · refine ⟨r0 :: rs', .cons (row_mk (lk_upd c h3)) g1, by rw [List.length_cons, g2, List.length_cons], fun L hL z hz => ?_⟩
        rcases List.mem_cons.mp hz with e | e
        · rw [e]; exact hL r0 List.mem_cons_self
        · exact g3 L (fun z hz => hL z (List.mem_cons_of_mem _ hz)) z e
/-! ### what is won -/
def fldAt (fs : List Fld) (k : Int) : Fld := (fs[k.toNat]?).getD default
def nAt (ms : List Int) (k : Int) : Int := (ms[k.toNat]?).getD 0
def gainV (fs : List Fld) (ms ns : List Int) : Int := ((List.range fs.length).map fun i : Nat => paidV (fldAt fs i) (nAt ms i) (nAt ns i)).sum
def RiseP (fl : Fld) (f s : Int) : Prop := ∀ x y : Int, 0 ≤ x → x ≤ f → 0 ≤ y → y ≤ s → (x < f → paidV fl x y ≤ paidV fl (x + 1) y) ∧ (y < s → paidV fl x (y + 1) ≤ paidV fl x y)
def RiseA (fs : List Fld) (f s : Int) : Prop := ∀ x ∈ fs, RiseP x f s
def PlainF : Fld → Prop
  | .tab _ => False
  | _ => True
theorem rise_plain {f s : Int} {fl : Fld} (k : FldOk f s fl) (h : PlainF fl) : RiseP fl f s := by
  intro x y _ _ _ _
  cases fl with
  | more w t =>
    obtain ⟨h1, h2, h3⟩ := k
    refine ⟨fun _ => ?_, fun _ => ?_⟩
    · show (if x = y then t else if x > y then w else 0 - w) ≤ (if x + 1 = y then t else if x + 1 > y then w else 0 - w)
      split <;> split <;> (try split) <;> (try split) <;> omega
    · show (if x = y + 1 then t else if x > y + 1 then w else 0 - w) ≤ (if x = y then t else if x > y then w else 0 - w)
      split <;> split <;> (try split) <;> (try split) <;> omega
  | lead w l =>
    have h1 : 1 ≤ w := k
    refine ⟨fun _ => ?_, fun _ => ?_⟩
    · show (if x ≥ y + l then w else 0 - w) ≤ (if x + 1 ≥ y + l then w else 0 - w)
      split <;> split <;> omega
    · show (if x ≥ y + 1 + l then w else 0 - w) ≤ (if x ≥ y + l then w else 0 - w)
      split <;> split <;> omega
  | tab _ => exact h.elim
theorem rise_pw {fl : Fld} {f s y : Int} (h : RiseP fl f s) (hy : 0 ≤ y ∧ y ≤ s) : ∀ n : Nat, (n : Int) ≤ f + 1 → ((List.range n).map fun i : Nat => paidV fl i y).Pairwise fun a b => a ≤ b := by
  have mono : ∀ d i : Nat, ((i + d : Nat) : Int) ≤ f → paidV fl i y ≤ paidV fl ((i + d : Nat) : Int) y := by
    intro d
    induction d with
    | zero => intro i _; exact Int.le_refl _
    | succ d ih =>
      intro i hi
      have h1 := ih i (by omega)
      have h2 := (h ((i + d : Nat) : Int) y (by omega) (by omega) hy.1 hy.2).1 (by omega)
      have e : ((i + (d + 1) : Nat) : Int) = ((i + d : Nat) : Int) + 1 := rfl
      rw [e]
      omega
  intro n hn
  rw [List.pairwise_map]
  refine List.Pairwise.imp_of_mem ?_ (List.pairwise_lt_range (n := n))
  intro a b ha hb hab
  have := mono (b - a) a (by have := List.mem_range.mp hb; omega)
  rw [show a + (b - a) = b by omega] at this
  exact this
def EvenP (fs : List Fld) (f s : Int) : Prop := f = s ∧ ∀ fl ∈ fs, ∀ x y : Int, 0 ≤ x → x ≤ f → 0 ≤ y → y ≤ x → paidV fl x y = 0 - paidV fl y x
/-! ### the sides exchanged -/
def exF (s : Int) : Fld → Fld
  | .more w t => .more w (0 - t)
  | .lead w l => .lead w (1 - l)
  | .tab rows => .tab ((List.range (s + 1).toNat).map fun y => rows.map fun r => 0 - (r[y]?).getD 0)
theorem exF_ok {f s : Int} {fl : Fld} (hf : 0 ≤ f) (hs : 0 ≤ s) (k : FldOk f s fl) : FldOk s f (exF s fl) := by
  cases fl with
  | more w t =>
    obtain ⟨h1, h2, h3⟩ := k
    exact ⟨h1, by omega, by omega⟩
  | lead w l => exact k
  | tab rows =>
    obtain ⟨h1, h2⟩ := k
    refine ⟨?_, ?_⟩
    · rw [List.length_map, List.length_range]
      omega
    · intro r hr
      obtain ⟨y, _, rfl⟩ := List.mem_map.mp hr
      rw [List.length_map]
      exact h1
theorem ex_ok {f s : Int} {fs : List Fld} (k : BatOk f s fs) : BatOk s f (fs.map (exF s)) := ⟨k.hs, k.hf, by rw [List.length_map]; exact k.ne, fun x hx => by
  obtain ⟨y, hy, rfl⟩ := List.mem_map.mp hx
  exact exF_ok k.hf.1 k.hs.1 (k.ok y hy)⟩
theorem ex_paid {f s : Int} {fl : Fld} (k : FldOk f s fl) {x y : Int} (hx : 0 ≤ x ∧ x ≤ f) (hy : 0 ≤ y ∧ y ≤ s) : paidV (exF s fl) y x = 0 - paidV fl x y := by
  cases fl with
  | more w t =>
    show (if y = x then 0 - t else if y > x then w else 0 - w) = 0 - (if x = y then t else if x > y then w else 0 - w)
    split <;> split <;> (try split) <;> (try split) <;> omega
  | lead w l =>
    show (if y ≥ x + (1 - l) then w else 0 - w) = 0 - (if x ≥ y + l then w else 0 - w)
    split <;> split <;> omega
  | tab rows =>
    obtain ⟨h1, h2⟩ := k
    show (((((List.range (s + 1).toNat).map fun y => rows.map fun r => 0 - (r[y]?).getD 0)[y.toNat]?).getD [])[x.toNat]?).getD 0 = 0 - ((((rows[x.toNat]?).getD [])[y.toNat]?).getD 0)
    rw [List.getElem?_map, List.getElem?_range (by omega)]
    show (((rows.map fun r => 0 - (r[y.toNat]?).getD 0)[x.toNat]?).getD 0) = _
    rw [List.getElem?_map]
    have hx' : x.toNat < rows.length := by omega
    rw [List.getElem?_eq_getElem hx']
    rfl
theorem ex_rise1 {f s : Int} {fl : Fld} (k : FldOk f s fl) (h : RiseP fl f s) : RiseP (exF s fl) s f := by
  intro y x h1 h2 h3 h4
  obtain ⟨g1, g2⟩ := h x y h3 h4 h1 h2
  refine ⟨fun c => ?_, fun c => ?_⟩
  · rw [ex_paid k ⟨h3, h4⟩ ⟨h1, h2⟩, ex_paid k ⟨h3, h4⟩ (y := y + 1) (by omega)]
    have := g2 c
    omega
  · rw [ex_paid k ⟨h3, h4⟩ ⟨h1, h2⟩, ex_paid k (x := x + 1) (by omega) ⟨h1, h2⟩]
    have := g1 c
    omega
theorem ex_rise2 {f s : Int} {fl : Fld} (k : FldOk f s fl) (h : RiseP (exF s fl) s f) : RiseP fl f s := by
  intro x y h1 h2 h3 h4
  obtain ⟨g1, g2⟩ := h y x h3 h4 h1 h2
  refine ⟨fun c => ?_, fun c => ?_⟩
  · have := g2 c
    rw [ex_paid k ⟨h1, h2⟩ ⟨h3, h4⟩, ex_paid k (x := x + 1) (by omega) ⟨h3, h4⟩] at this
    omega
  · have := g1 c
    rw [ex_paid k ⟨h1, h2⟩ ⟨h3, h4⟩, ex_paid k ⟨h1, h2⟩ (y := y + 1) (by omega)] at this
    omega
theorem ex_rise {f s : Int} {fs : List Fld} (k : BatOk f s fs) : RiseA (fs.map (exF s)) s f ↔ RiseA fs f s := by
  refine ⟨fun h x hx => ex_rise2 (k.ok x hx) (h _ (List.mem_map_of_mem hx)), fun h x hx => ?_⟩
  obtain ⟨y, hy, rfl⟩ := List.mem_map.mp hx
  exact ex_rise1 (k.ok y hy) (h y hy)
theorem ex_even {f s : Int} {fs : List Fld} (k : BatOk f s fs) : EvenP (fs.map (exF s)) s f ↔ EvenP fs f s := by
  refine ⟨fun h => ⟨h.1.symm, fun fl hfl x y h1 h2 h3 h4 => ?_⟩, fun h => ⟨h.1.symm, fun fl hfl x y h1 h2 h3 h4 => ?_⟩⟩
  · have := h.2 _ (List.mem_map_of_mem hfl) x y h1 (by have := h.1; omega) h3 h4
    have e := h.1
    rw [ex_paid (k.ok fl hfl) (x := y) (by omega) (by omega), ex_paid (k.ok fl hfl) (x := x) (by omega) (by omega)] at this
    omega
  · obtain ⟨fl', hf', rfl⟩ := List.mem_map.mp hfl
    have e := h.1
    have := h.2 _ hf' x y h1 (by omega) h3 h4
    rw [ex_paid (k.ok fl' hf') (x := y) (by omega) (by omega), ex_paid (k.ok fl' hf') (x := x) (by omega) (by omega)]
    omega
theorem sum_neg : ∀ (n : Nat) (g h : Nat → Int), (∀ i, i < n → h i = 0 - g i) → ((List.range n).map h).sum = 0 - ((List.range n).map g).sum := by
  intro n
  induction n with
  | zero => intro g h _; rfl
  | succ n ih =>
    intro g h e
    rw [List.range_succ, List.map_append, List.map_append, List.sum_append, List.sum_append, ih g h fun i hi => e i (by omega)]
    simp only [List.map_cons, List.map_nil, List.sum_cons, List.sum_nil]
    have := e n (by omega)
    omega
theorem plan_le {h : Int} {n : Nat} {p : List Int} (k : PlanC h n p) (i : Int) : 0 ≤ nAt p i ∧ nAt p i ≤ h := by
  have key : ∀ q : List Int, (∀ x ∈ q, 0 ≤ x) → 0 ≤ q.sum ∧ ∀ x ∈ q, x ≤ q.sum := by
    intro q
    induction q with
    | nil => intro _; exact ⟨Int.le_refl _, nofun⟩
    | cons x q ih =>
      intro g
      obtain ⟨e1, e2⟩ := ih fun z hz => g z (List.mem_cons_of_mem _ hz)
      have := g x (List.mem_cons_self)
      rw [List.sum_cons]
      refine ⟨by omega, fun z hz => ?_⟩
      rcases List.mem_cons.mp hz with e | e
      · omega
      · have := e2 z e
        omega
  obtain ⟨k1, k2, k3⟩ := k
  obtain ⟨e1, e2⟩ := key p k3
  unfold nAt
  cases g : p[i.toNat]? with
  | none => exact ⟨Int.le_refl _, by show 0 ≤ h; omega⟩
  | some z =>
    have hz := List.mem_of_getElem? g
    exact ⟨k3 z hz, by have := e2 z hz; show z ≤ h; omega⟩
theorem fldAt_ex {s : Int} {fs : List Fld} {i : Int} (hi : i.toNat < fs.length) : fldAt (fs.map (exF s)) i = exF s (fldAt fs i) := by
  unfold fldAt
  rw [List.getElem?_map, List.getElem?_eq_getElem hi]
  rfl
theorem fldAt_ok {f s : Int} {fs : List Fld} (k : BatOk f s fs) {i : Int} (hi : i.toNat < fs.length) : FldOk f s (fldAt fs i) := by
  unfold fldAt
  rw [List.getElem?_eq_getElem hi]
  exact k.ok _ (List.getElem_mem _)
theorem ex_gain {f s : Int} {fs : List Fld} (k : BatOk f s fs) {ms ns : List Int} (h1 : PlanC f fs.length ms) (h2 : PlanC s fs.length ns) : gainV (fs.map (exF s)) ns ms = 0 - gainV fs ms ns := by
  unfold gainV
  rw [List.length_map]
  refine sum_neg _ _ _ fun i hi => ?_
  have e : fldAt (fs.map (exF s)) i = exF s (fldAt fs i) := by
    unfold fldAt
    rw [List.getElem?_map, List.getElem?_eq_getElem (show (i : Int).toNat < fs.length by omega)]
    rfl
  have hk : FldOk f s (fldAt fs i) := by
    unfold fldAt
    rw [List.getElem?_eq_getElem (show (i : Int).toNat < fs.length by omega)]
    exact k.ok _ (List.getElem_mem _)
  rw [e]
  exact ex_paid hk (plan_le h1 i) (plan_le h2 i)
/-! ### min of three -/
def rMin3 : List V → Hp → VK → Prop := fun xs H Q => ∃ i j k, xs = [.int i, .int j, .int k] ∧ Q (.int (if j < i then (if k < j then k else j) else (if k < i then k else i))) H
theorem call_min3I {X : Cx} (hc : X.calm = true) : CallR X (.builtin "min") rMin3 := by
  intro pins s σ H xs us Q I r h
  obtain ⟨i, j, k, rfl, q⟩ := h
  cases r with
  | cons r1 r =>
    cases r with
    | cons r2 r =>
      cases r with
      | cons r3 r =>
        cases r
        obtain ⟨t1, rfl⟩ := r1
        obtain ⟨t2, rfl⟩ := r2
        obtain ⟨t3, rfl⟩ := r3
        refine min_three_ints (I.ok.hd hc) fun h' tk kk => ⟨_, H, I.kept kk, ?_, q⟩
        split <;> split <;> exact ⟨_, rfl⟩
theorem i_min3 {i j k : Int} {H : Hp} {Q : VK} (q : Q (.int (if j < i then (if k < j then k else j) else (if k < i then k else i))) H) : rMin3 [.int i, .int j, .int k] H Q := ⟨i, j, k, rfl, q⟩
end Hf
/-! ## data whose lists are known by their places: marks -/
namespace Hf
open PySem PySem.Spec PyProof.Rows L2
def mkS : Str := PySem.Str.ofString "mark"
mutual
inductive Ow (H : Hp) : V → PyData → List Addr → Prop
  | non : Ow H .non .none []
  | bl (b : Bool) : Ow H (.bl b) (.bool b) []
  | int (i : Int) : Ow H (.int i) (.int i) []
  | str (x : Str) : Ow H (.str x) (.str x) []
  | lst {a : Addr} {xs : List V} {ds : List PyData} {S : List Addr} : H a = some (.lst xs) → OwAll H xs ds S → Ow H (.ref a) (.list ds) (a :: S)
  | tup {a : Addr} {xs : List V} {ds : List PyData} {S : List Addr} : H a = some (.tup xs) → OwAll H xs ds S → Ow H (.ref a) (.tuple ds) S
inductive OwAll (H : Hp) : List V → List PyData → List Addr → Prop
  | nil : OwAll H [] [] []
  | cons {v : V} {vs : List V} {d : PyData} {ds : List PyData} {S S' : List Addr} : Ow H v d S → OwAll H vs ds S' → OwAll H (v :: vs) (d :: ds) (S ++ S')
end
/-! every list with one thing more -/
mutual
def mk : PyData → PyData
  | .list ds => .list (mkA ds ++ [.str mkS])
  | .tuple ds => .tuple (mkA ds)
  | d => d
def mkA : List PyData → List PyData
  | [] => []
  | d :: ds => mk d :: mkA ds
end
/-! no text "mark" within -/
mutual
def noM : PyData → Bool
  | .list ds => noMA ds
  | .tuple ds => noMA ds
  | .str x => !(x == mkS)
  | _ => true
def noMA : List PyData → Bool
  | [] => true
  | d :: ds => noM d && noMA ds
end
section
variable {H H' : Hp} {v : V} {vs ws : List V} {d : PyData} {ds es : List PyData} {S S' T : List Addr}
mutual
theorem Ow.dq : ∀ {v : V} {d : PyData} {S : List Addr}, Ow H v d S → Dq H v d
  | _, _, _, .non => .non
  | _, _, _, .bl b => .bl b
  | _, _, _, .int i => .int i
  | _, _, _, .str x => .str x
  | _, _, _, .lst h q => .lst h (OwAll.dq q)
  | _, _, _, .tup h q => .tup h (OwAll.dq q)
theorem OwAll.dq : ∀ {vs : List V} {ds : List PyData} {S : List Addr}, OwAll H vs ds S → DqAll H vs ds
  | _, _, _, .nil => .nil
  | _, _, _, .cons h q => .cons (Ow.dq h) (OwAll.dq q)
end
/-- what is kept at all places but those of T -/
def Kp (T : List Addr) (H H' : Hp) : Prop := ∀ b o, b ∉ T → H b = some o → H' b = some o
theorem Kp.refl : Kp T H H := fun _ _ _ h => h
theorem Kp.same (s : Same H H') : Kp T H H' := fun b o _ h => s b o h
theorem Kp.trans {H2 : Hp} (x : Kp T H H') (y : Kp T H' H2) : Kp T H H2 := fun b o n h => y b o n (x b o n h)
theorem Kp.sub (x : Kp S H H') (h : ∀ b, b ∈ S → b ∈ T) : Kp T H H' := fun b o n e => x b o (fun z => n (h b z)) e
theorem Kp.upd {a : Addr} {o : HO} (ha : a ∈ T) (x : Kp T H H') : Kp T H (L2.upd H' a o) := fun b u n h => by
  rw [upd_ne (fun e => n (by rw [e]; exact ha))]
  exact x b u n h
mutual
/-- lists are not tuples: what changes the lists of T alone keeps the data whose lists are apart -/
theorem Ow.kp (hT : ∀ b xs, b ∈ T → H b ≠ some (.tup xs)) (k : Kp T H H') : ∀ {v : V} {d : PyData} {S : List Addr}, Ow H v d S → (∀ b, b ∈ S → b ∉ T) → Ow H' v d S
  | _, _, _, .non, _ => .non
  | _, _, _, .bl b, _ => .bl b
  | _, _, _, .int i, _ => .int i
  | _, _, _, .str x, _ => .str x
  | _, _, _, .lst h q, n => .lst (k _ _ (n _ List.mem_cons_self) h) (OwAll.kp hT k q fun b hb => n b (List.mem_cons_of_mem _ hb))
  | _, _, _, .tup h q, n => .tup (k _ _ (fun z => hT _ _ z h) h) (OwAll.kp hT k q n)
theorem OwAll.kp (hT : ∀ b xs, b ∈ T → H b ≠ some (.tup xs)) (k : Kp T H H') : ∀ {vs : List V} {ds : List PyData} {S : List Addr}, OwAll H vs ds S → (∀ b, b ∈ S → b ∉ T) → OwAll H' vs ds S
  | _, _, _, .nil, _ => .nil
  | _, _, _, .cons h q, n => .cons (Ow.kp hT k h fun b hb => n b (List.mem_append.mpr (.inl hb))) (OwAll.kp hT k q fun b hb => n b (List.mem_append.mpr (.inr hb)))
end
mutual
theorem Ow.lists : ∀ {v : V} {d : PyData} {S : List Addr}, Ow H v d S → ∀ b, b ∈ S → ∃ xs, H b = some (.lst xs)
  | _, _, _, .lst h q, b, hb => by
    rcases List.mem_cons.mp hb with e | e
    · subst e; exact ⟨_, h⟩
    · exact OwAll.lists q b e
  | _, _, _, .tup _ q, b, hb => OwAll.lists q b hb
theorem OwAll.lists : ∀ {vs : List V} {ds : List PyData} {S : List Addr}, OwAll H vs ds S → ∀ b, b ∈ S → ∃ xs, H b = some (.lst xs)
  | _, _, _, .cons h q, b, hb => by
    rcases List.mem_append.mp hb with e | e
    · exact Ow.lists h b e
    · exact OwAll.lists q b e
end
mutual
theorem Ow.same (s : Same H H') : ∀ {v : V} {d : PyData} {S : List Addr}, Ow H v d S → Ow H' v d S
  | _, _, _, .non => .non
  | _, _, _, .bl b => .bl b
  | _, _, _, .int i => .int i
  | _, _, _, .str x => .str x
  | _, _, _, .lst h q => .lst (s _ _ h) (OwAll.same s q)
  | _, _, _, .tup h q => .tup (s _ _ h) (OwAll.same s q)
theorem OwAll.same (s : Same H H') : ∀ {vs : List V} {ds : List PyData} {S : List Addr}, OwAll H vs ds S → OwAll H' vs ds S
  | _, _, _, .nil => .nil
  | _, _, _, .cons h q => .cons (Ow.same s h) (OwAll.same s q)
end
theorem OwAll.snoc : ∀ {vs : List V} {ds : List PyData} {S S' : List Addr} {w : V} {d : PyData}, OwAll H vs ds S → Ow H w d S' → OwAll H (vs ++ [w]) (ds ++ [d]) (S ++ S')
  | _, _, _, S', _, _, .nil, h => by
    have := OwAll.cons h .nil
    rw [List.append_nil] at this
    exact this
  | _, _, _, _, _, _, .cons h q, g => by
    rw [List.append_assoc]
    exact .cons h (OwAll.snoc q g)
theorem OwAll.len : ∀ {vs : List V} {ds : List PyData} {S : List Addr}, OwAll H vs ds S → vs.length = ds.length
  | _, _, _, .nil => rfl
  | _, _, _, .cons _ q => by rw [List.length_cons, List.length_cons, OwAll.len q]
/-- cut at a place -/
theorem OwAll.cut : ∀ {vs : List V} {ds : List PyData} {S : List Addr}, OwAll H vs ds S → ∀ {k : Nat} {w : V}, vs[k]? = some w →
    ∃ S1 S2 S3 d, ds[k]? = some d ∧ S = S1 ++ (S2 ++ S3) ∧ OwAll H (vs.take k) (ds.take k) S1 ∧ Ow H w d S2 ∧ OwAll H (vs.drop (k + 1)) (ds.drop (k + 1)) S3
  | _, _, _, .nil, k, w, h => by simp at h
  | _, _, _, .cons (S := S) (S' := S') (d := d) h q, 0, w, e => by
    rw [List.getElem?_cons_zero] at e
    cases e
    exact ⟨[], S, S', d, rfl, rfl, .nil, h, q⟩
  | _, _, _, .cons (S := S) (S' := S') h q, k + 1, w, e => by
    rw [List.getElem?_cons_succ] at e
    obtain ⟨S1, S2, S3, d, h1, h2, h3, h4, h5⟩ := OwAll.cut q e
    exact ⟨S ++ S1, S2, S3, d, by rw [List.getElem?_cons_succ]; exact h1, by rw [h2, List.append_assoc], .cons h h3, h4, h5⟩
theorem mkA_map : ∀ ds : List PyData, mkA ds = ds.map mk
  | [] => rfl
  | d :: ds => by rw [mkA, List.map_cons, mkA_map ds]
theorem noMA_mem : ∀ {ds : List PyData} {d : PyData}, noMA ds = true → d ∈ ds → noM d = true
  | e :: ds, d, h, hd => by
    rw [noMA, Bool.and_eq_true] at h
    rcases List.mem_cons.mp hd with z | z
    · rw [z]; exact h.1
    · exact noMA_mem h.2 z
/-- how many marks stand among data -/
def cntM (ds : List PyData) : Nat := (ds.filter fun d => match d with | .str x => x == mkS | _ => false).length
theorem cntM_mk : ∀ {ds : List PyData}, noMA ds = true → cntM (mkA ds) = 0
  | [], _ => rfl
  | d :: ds, h => by
    rw [noMA, Bool.and_eq_true] at h
    have ih := cntM_mk h.2
    unfold cntM at ih ⊢
    rw [mkA, List.filter_cons]
    have : (match mk d with | .str x => x == mkS | _ => false) = false := by
      have h1 := h.1
      cases d <;> simp [mk] <;> simp [noM] at h1
      exact h1
    rw [this]
    exact ih
end
/-! ### isinstance by two classes -/
theorem call_isiTK {X : Cx} (K : PySem.W.Frag) (e : X.K = K) : CallR X (.builtin "isinstance") (rIsiT K) := by subst e; exact call_isiT
theorem kit_two {K : PySem.W.Frag} {t c1 c2 : String} {b1 b2 : Bool} (h1 : kitB t c1 = some b1) (h2 : kitB t c2 = some b2) : PySem.W.kitAny K (.type t) [.type c1, .type c2] = some (b1 || b2) := by
  refine kitAny_cons (kit_ty h1) (fun e => ?_) (fun e => by rw [e]; rfl)
  rw [e, Bool.false_or]
  refine kitAny_cons (kit_ty h2) (fun e => ?_) (fun e => e)
  rw [e]
  rfl
theorem i_isiT2 {K : PySem.W.Frag} {H : Hp} {Q : VK} {x : V} {tp : Addr} {t c1 c2 : String} {b1 b2 : Bool} (hT : H tp = some (.tup [.ty c1, .ty c2])) (ty : TyX K H x (.type t)) (h1 : kitB t c1 = some b1) (h2 : kitB t c2 = some b2) (q : Q (.bl (b1 || b2)) H) : rIsiT K [x, .ref tp] H Q :=
  ⟨x, tp, _, _, _, _, rfl, hT, .cons (.ty _) (.cons (.ty _) .nil), ty, kit_two h1 h2, q⟩
/-! ### how often a text stands among data -/
def isS (y : Str) : PyData → Bool
  | .str z => z == y
  | _ => false
def rCntS (K : PySem.W.Frag) : V → List V → Hp → VK → Prop := fun x xs H Q => ∃ (p : Addr) (ys : List V) (y : Str) (ds : List PyData), x = .ref p ∧ xs = [.str y] ∧ SqL K H p ys ∧ DpAll K H ys ds ∧ PyData.canLayAll0 ds = true ∧ PyData.strOk y = true ∧ Q (.int (ds.countP (isS y) : Nat)) H
theorem one_cntS {X : Cx} {pins : List (Addr × Obj)} {s : Shared} {σ : L2.St} {H : Hp} (I : Inv X pins σ H s) {A : Around} (hu : A.units < cLine) {y : Str} {t : Tok} (hy : PyData.strOk y = true) {v : V} {d : PyData} {u : Value} (hd : Dp X.K H v d) (r : RelV v u) (hl : d.canLay0 = true) :
    SeqAt.EqAt A s u (.str y t) (eqU (.str y) u) ∧ eqU (.str y) u = isS y d := by
  have e : eqU (.str y) u = isS y d ∧ PyData.eqv d (.str y) = isS y d := by
    cases hd with
    | non => cases r; exact ⟨rfl, by simp [PyData.eqv, isS]⟩
    | bl b => cases r; exact ⟨rfl, by simp [PyData.eqv, isS]⟩
    | int i => obtain ⟨t, rfl⟩ := r; exact ⟨rfl, by simp [PyData.eqv, isS]⟩
    | str x => obtain ⟨t, rfl⟩ := r; exact ⟨rfl, by simp [PyData.eqv, isS]⟩
    | lst h q => cases r; exact ⟨rfl, by simp [PyData.eqv, isS]⟩
    | tup h q => cases r; exact ⟨rfl, by simp [PyData.eqv, isS]⟩
  obtain ⟨as, r1⟩ := Dp.reads I d v u hd r
  obtain ⟨bs, r2⟩ := Dp.reads I (.str y) (.str y) (.str y t) (.str y) ⟨t, rfl⟩
  refine ⟨?_, e.1⟩
  rw [e.1, ← e.2]
  exact SeqAt.eqAt_reads d (.str y) A s u (.str y t) as bs r1 r2 hl (by simpa [PyData.canLay0] using hy) (by simp [PyData.depth]; omega)
theorem all_cntS {X : Cx} {pins : List (Addr × Obj)} {s : Shared} {σ : L2.St} {H : Hp} (I : Inv X pins σ H s) {A : Around} (hu : A.units < cLine) {y : Str} {t : Tok} (hy : PyData.strOk y = true) : ∀ {ys : List V} {ds : List PyData} {us : List Value}, DpAll X.K H ys ds → Vals ys us → PyData.canLayAll0 ds = true →
    (∀ u ∈ us, SeqAt.EqAt A s u (.str y t) (eqU (.str y) u)) ∧ us.countP (eqU (.str y)) = ds.countP (isS y)
  | [], [], [], .nil, .nil, _ => ⟨nofun, rfl⟩
  | v :: ys, d :: ds, u :: us, .cons h q, .cons r rs, hl => by
    rw [PyData.canLayAll0, Bool.and_eq_true] at hl
    obtain ⟨h1, h2⟩ := one_cntS I hu (t := t) hy h r hl.1
    obtain ⟨h3, h4⟩ := all_cntS I hu (t := t) hy q rs hl.2
    refine ⟨fun u' hu' => ?_, by rw [List.countP_cons, List.countP_cons, h4, h2]⟩
    rcases List.mem_cons.mp hu' with e | e
    · rw [e]; exact h1
    · exact h3 u' e
theorem mt_lcountS {X : Cx} (hu : X.A.units + 64 < cLine) : MtR X "list.count" (rCntS X.K) := by
  intro pins s σ H x xs v us Q I rx rxs h
  obtain ⟨p, ys, y, ds, rfl, rfl, hs, hd', hl', hy, q⟩ := h
  cases rx
  obtain ⟨u, rfl, ru⟩ := rxs.one
  obtain ⟨t, rfl⟩ := ru
  obtain ⟨its, rv, ⟨⟨cls, dd, data, sl⟩, n, ho, hc, hdn, hd⟩, hlen⟩ := I.list hs
  simp only at hc hd
  subst hc hd
  obtain ⟨c1, c2⟩ := all_cntS (A := X.A.in1) I (by show X.A.units + 1 < cLine; omega) (t := t) hy hd' rv hl'
  refine call_meets PySem.F.slot_list_count ⟨_, ho, rfl⟩ PySem.F.entry_list_count (PySem.F.args_list_count_2 _ _)
    (SeqAt.list_countAt p its.toArray n dd sl (.str y t) (eqU (.str y))) ⟨ho, fun u' hu' => c1 u' (by simpa using hu'), ?_⟩
  refine ⟨.int _, H, I.tok _, ⟨s.toks, ?_⟩, q⟩
  show Value.int ((its.toArray.toList.countP (eqU (.str y)) : Nat) : Int) s.toks = Value.int _ s.toks
  rw [show its.toArray.toList = its from rfl, c2]
theorem mt_lcountSK {X : Cx} (K : PySem.W.Frag) (e : X.K = K) (hu : X.A.units + 64 < cLine) : MtR X "list.count" (rCntS K) := by subst e; exact mt_lcountS hu
theorem i_cntS {K : PySem.W.Frag} {H : Hp} {Q : VK} {p : Addr} {y : Str} {ds : List PyData} {n : Nat} (h : Dq H (.ref p) (.list ds)) (hl : PyData.canLayAll0 ds = true) (hy : PyData.strOk y = true) (e : ds.countP (isS y) = n) (q : Q (.int (n : Nat)) H) : rCntS K (.ref p) [.str y] H Q := by
  obtain ⟨a, xs, e1, h1, h2⟩ := h.list_inv
  cases e1
  subst e
  exact ⟨_, xs, y, ds, rfl, rfl, .of h1, h2.dp, hl, hy, q⟩
/-! ### walking what is a list or a tuple -/
def iSeq (K : PySem.W.Frag) (tl : TE) : TI := fun σ H R => tl σ H fun x H1 => ∃ a, x = .ref a ∧ (((∃ xs, SqL K H1 a xs) ∧ R (Itl K a) H1) ∨ ((∃ xs, SqT K H1 a xs) ∧ R (Itt K a) H1))
theorem pi_seq {X : Cx} {tg l : Expr} {tl : TE} (hl : PE X l tl) : PI X tg l (iSeq X.K tl) := by
  refine ⟨fun pins s σ H R I h => ?_⟩
  refine thn (hl.run pins s σ H _ I h) fun v s1 ⟨x, H1, I1, r1, q1⟩ => ?_
  obtain ⟨a, e, q1⟩ := q1
  subst e
  cases r1
  rcases q1 with ⟨⟨xs, hq⟩, q⟩ | ⟨⟨xs, hq⟩, q⟩
  · obtain ⟨its, rv, p, hz⟩ := I1.list hq
    refine wpAny_pyIter_list p.isList ?_
    refine ⟨s1.heap.objs.size, [s1.heap.objs.size], _, _, H1, rfl, I1.kept (t' := s1.toks) fun b o e => Heap.get?_push_of_some _ e, turn_list a _, ⟨_, Heap.get?_push_size _ rfl, rfl, rfl⟩, fun b hb => ?_, q⟩
    have e : b = s1.heap.objs.size := by simpa using hb
    subst e
    exact I1.fpOk (Nat.le_refl _) (I1.hok.fresh (Nat.le_refl _))
  · obtain ⟨its, rv, p, hz⟩ := I1.tuple hq
    refine wpAny_pyIter_tuple (show s1.heap.IsTuple a its.toArray from p) ?_
    refine ⟨s1.heap.objs.size, [s1.heap.objs.size], _, _, H1, rfl, I1.kept (t' := s1.toks) fun b o e => Heap.get?_push_of_some _ e, turn_tuple a _, ⟨_, Heap.get?_push_size _ rfl, rfl, rfl⟩, fun b hb => ?_, q⟩
    have e : b = s1.heap.objs.size := by simpa using hb
    subst e
    exact I1.fpOk (Nat.le_refl _) (I1.hok.fresh (Nat.le_refl _))
theorem pi_seqK {X : Cx} (K : PySem.W.Frag) (e : X.K = K) {tg l : Expr} {tl : TE} (hl : PE X l tl) : PI X tg l (iSeq K tl) := by subst e; exact pi_seq hl
theorem i_iseq {K : PySem.W.Frag} {tl : TE} {σ : L2.St} {H : Hp} {R : It → Hp → Prop} (h : tl σ H fun x H1 => ∃ a, x = .ref a ∧ (((∃ xs, SqL K H1 a xs) ∧ R (Itl K a) H1) ∨ ((∃ xs, SqT K H1 a xs) ∧ R (Itt K a) H1))) : iSeq K tl σ H R := h
theorem i_iseqL {K : PySem.W.Frag} {H : Hp} {p : Addr} {xs : List V} {A : Addr → Prop} {B : Addr → Prop} (h : SqL K H p xs) (q : A p) : ∃ a, V.ref p = .ref a ∧ (((∃ xs, SqL K H a xs) ∧ A a) ∨ ((∃ xs, SqT K H a xs) ∧ B a)) := ⟨p, rfl, .inl ⟨⟨xs, h⟩, q⟩⟩
theorem i_iseqT {K : PySem.W.Frag} {H : Hp} {p : Addr} {xs : List V} {A : Addr → Prop} {B : Addr → Prop} (h : SqT K H p xs) (q : B p) : ∃ a, V.ref p = .ref a ∧ (((∃ xs, SqL K H a xs) ∧ A a) ∨ ((∃ xs, SqT K H a xs) ∧ B a)) := ⟨p, rfl, .inr ⟨⟨xs, h⟩, q⟩⟩
/-! ### the marks, put and looked for -/
theorem OwAll.drop_cons {H : Hp} {xs : List V} {ds : List PyData} {S : List Addr} {i : Nat} {x : V} (h : OwAll H (xs.drop i) (ds.drop i) S) (e : xs[i]? = some x) :
    ∃ d S1 S2, ds[i]? = some d ∧ S = S1 ++ S2 ∧ Ow H x d S1 ∧ OwAll H (xs.drop (i + 1)) (ds.drop (i + 1)) S2 := by
  rw [drop_get e] at h
  cases hd : ds.drop i with
  | nil => rw [hd] at h; cases h
  | cons d r =>
    rw [hd] at h
    have hi : ds[i]? = some d := by
      have := List.getElem?_drop (xs := ds) (i := i) (j := 0)
      rw [hd] at this
      simpa using this.symm
    rw [drop_get hi] at hd
    cases hd
    cases h with
    | cons a b => exact ⟨_, _, _, hi, rfl, a, b⟩
theorem cnt_mk {ds : List PyData} (h : noMA ds = true) : (mkA ds ++ [PyData.str mkS]).countP (isS mkS) = 1 := by
  have e : (mkA ds).countP (isS mkS) = 0 := by
    rw [List.countP_eq_zero]
    intro d hd
    rw [mkA_map] at hd
    obtain ⟨d', hd', rfl⟩ := List.mem_map.mp hd
    have := noMA_mem h hd'
    cases d' <;> simp [mk, isS]
    simp [noM] at this
    exact this
  rw [List.countP_append, e]
  simp [isS, mkS]
mutual
theorem lay_mk : ∀ {d : PyData}, d.canLay0 = true → (mk d).canLay0 = true
  | .none, h => by simpa [mk] using h
  | .bool _, h => by simpa [mk] using h
  | .int _, h => by simpa [mk] using h
  | .str _, h => by simpa [mk] using h
  | .list ds, h => by
    rw [PyData.canLay0] at h
    rw [mk, PyData.canLay0]
    refine lay_all fun d hd => ?_
    rcases List.mem_append.mp hd with e | e
    · exact lay_mkA h d e
    · rw [List.mem_singleton.mp e, PyData.canLay0]; decide +kernel
  | .tuple ds, h => by
    rw [PyData.canLay0] at h
    rw [mk, PyData.canLay0]
    exact lay_all fun d hd => lay_mkA h d hd
  | .dict _, h => by simp [PyData.canLay0] at h
theorem lay_mkA : ∀ {ds : List PyData}, PyData.canLayAll0 ds = true → ∀ d ∈ mkA ds, d.canLay0 = true
  | [], _, _, hd => by cases hd
  | e :: ds, h, d, hd => by
    rw [PyData.canLayAll0, Bool.and_eq_true] at h
    rw [mkA] at hd
    rcases List.mem_cons.mp hd with z | z
    · rw [z]; exact lay_mk h.1
    · exact lay_mkA h.2 d z
end
/-! ### comprehensions of owned things -/
/-- owned, all of it new to H -/
structure OwN (H H' : Hp) (v : V) (d : PyData) (S : List Addr) : Prop where
  ow : Ow H' v d S
  nd : S.Nodup
  nw : ∀ b, b ∈ S → H b = none
theorem OwN.same {H H' H2 : Hp} {v : V} {d : PyData} {S : List Addr} (h : OwN H H' v d S) (s : Same H' H2) : OwN H H2 v d S := ⟨h.ow.same s, h.nd, h.nw⟩
theorem OwN.back {H0 H H' : Hp} {v : V} {d : PyData} {S : List Addr} (h : OwN H H' v d S) (s : Same H0 H) : OwN H0 H' v d S := ⟨h.ow, h.nd, fun b hb => s.free (h.nw b hb)⟩
theorem OwN.dq {H H' : Hp} {v : V} {d : PyData} {S : List Addr} (h : OwN H H' v d S) : Dq H' v d := h.ow.dq
section
variable {σ : L2.St} {H H1 : Hp} {Q : VK} {K : PySem.W.Frag} {D a l : Addr} {wi : TI} {g : TG} {tt : TT} {te : TE} {vs : List Nat} {lo : Int} {n : Nat} {xs : List V} {Qd : Hp → Prop}
theorem lcL_own (f : Nat → PyData) (nD : H1 D = none) (hn : xs.length ≤ 1000000) (hx : SqL K H1 l xs)
    (hs : ∀ (i : Nat) (x : V) H (Z : VK) (Y : Hp → Prop), xs[i]? = some x → Same H1 H → (∀ v S H4, OwN H H4 v (f i) S → Same H H4 → Z v H4) → LcTurn g tt te vs σ x H Z Y)
    (hd : ∀ S H, OwN H1 H (.ref D) (.list ((List.range xs.length).map f)) S → Same H1 H → Qd H) :
    ∃ W : Nat → Nat → Hp → Prop, (∃ m, W 0 m (upd H1 D (.lst []))) ∧ ∀ i m H, W i m H →
      ((Itl K l).stop i H ∧ Qd H) ∨ ((Itl K l).go i H ∧ ∃ Nx : Hp → Prop, (∀ H', Nx H' → ∃ m', m' < m ∧ W (i + 1) m' H') ∧ ∀ x H', (Itl K l).yld i H x H' → g x (wipe σ vs) H' fun σ2 H2 => wipe σ2 vs = wipe σ vs ∧ tt σ2 H2 fun b H3 =>
        if b = true then te σ2 H3 fun y H4 => ∃ acc, H4 D = some (.lst acc) ∧ acc.length < sizeLine ∧ Nx (upd H4 D (.lst (acc ++ [y]))) else Nx H3) := by
  refine lcL (xs := xs) (fun i acc H => acc.length = i ∧ Same H1 H ∧ ∃ S, OwAll H acc ((List.range i).map f) S ∧ S.Nodup ∧ D ∉ S ∧ ∀ b, b ∈ S → H1 b = none) nD ⟨rfl, Same.new nD, [], .nil, List.nodup_nil, by simp, nofun⟩ (fun i acc H _ q _ => q.2.1.seq hx) ?_ ?_
  · rintro i x acc H Z Y hi ⟨h1, h2, S, h3, h4, h5, h6⟩ hD hz _
    have hi' : i < xs.length := (List.getElem?_eq_some_iff.mp hi).1
    refine hs i x H Z Y hi h2 fun v S' H4 k1 k2 => ?_
    have hDS : D ∉ S' := fun z => by
      have := k1.nw D z
      rw [hD] at this
      cases this
    have kp : Kp [D] H4 (upd H4 D (.lst (acc ++ [v]))) := Kp.upd (by simp) Kp.refl
    have ht : ∀ b ys, b ∈ [D] → H4 b ≠ some (.tup ys) := fun b ys hb e => by
      rw [List.mem_singleton.mp hb, k2 _ _ hD] at e
      cases e
    have hd1 : ∀ b, b ∈ S → b ∉ [D] := fun b hb hb' => h5 (by rw [← List.mem_singleton.mp hb']; exact hb)
    have hd2 : ∀ b, b ∈ S' → b ∉ [D] := fun b hb hb' => hDS (by rw [← List.mem_singleton.mp hb']; exact hb)
    refine hz _ _ (k2 _ _ hD) (sz4' (by omega)) ⟨by rw [List.length_append, h1]; rfl, Same.mut (h2.trans k2) nD, S ++ S', ?_, ?_, ?_, ?_⟩
    · rw [List.range_succ, List.map_append]
      exact OwAll.snoc (OwAll.kp ht kp (h3.same k2) hd1) (Ow.kp ht kp k1.ow hd2)
    · rw [List.nodup_append]
      refine ⟨h4, k1.nd, fun b hb c hc e => ?_⟩
      subst e
      obtain ⟨ys, e'⟩ := h3.lists b hb
      rw [k1.nw b hc] at e'
      cases e'
    · intro z
      rcases List.mem_append.mp z with z | z
      · exact h5 z
      · exact hDS z
    · intro b hb
      rcases List.mem_append.mp hb with z | z
      · exact h6 b z
      · exact h2.free (k1.nw b z)
  · rintro acc H ⟨h1, h2, S, h3, h4, h5, h6⟩ hD
    exact hd (D :: S) H ⟨.lst hD h3, List.nodup_cons.mpr ⟨h5, h4⟩, fun b hb => by
      rcases List.mem_cons.mp hb with z | z
      · rw [z]; exact nD
      · exact h6 b z⟩ h2
end
/-- a tuple of two owned things -/
theorem OwN.pair {H H1 H2 : Hp} {v w : V} {d e : PyData} {S T : List Addr} {q : Addr} (h1 : OwN H H1 v d S) (h2 : OwN H1 H2 w e T) (s0 : Same H H1) (s : Same H1 H2) (hq : H2 q = none) : OwN H (upd H2 q (.tup [v, w])) (.ref q) (.tuple [d, e]) (S ++ T) := by
  have sn : Same H2 (upd H2 q (.tup [v, w])) := Same.new hq
  refine ⟨?_, ?_, ?_⟩
  · have := Ow.tup upd_same (OwAll.cons ((h1.ow.same s).same sn) (OwAll.cons (h2.ow.same sn) .nil))
    rw [List.append_nil] at this
    exact this
  · rw [List.nodup_append]
    refine ⟨h1.nd, h2.nd, fun b hb c hc e => ?_⟩
    subst e
    obtain ⟨ys, e'⟩ := h1.ow.lists b hb
    rw [h2.nw b hc] at e'
    cases e'
  · intro b hb
    rcases List.mem_append.mp hb with z | z
    · exact h1.nw b z
    · exact s0.free (h2.nw b z)
theorem own_ints {H : Hp} : ∀ ms : List Int, OwAll H (ms.map V.int) (ms.map PyData.int) []
  | [] => .nil
  | m :: ms => .cons (S := []) (S' := []) (.int m) (own_ints ms)
theorem BatOk.reverse {f s : Int} {fs : List Fld} (k : BatOk f s fs) : BatOk f s fs.reverse := ⟨k.hf, k.hs, by rw [List.length_reverse]; exact k.ne, fun x hx => k.ok x (List.mem_reverse.mp hx)⟩
theorem ow_self {H : Hp} {a : Addr} {ds : List PyData} {S : List Addr} (h : Ow H (.ref a) (.list ds) S) : a ∈ S := by
  cases h with
  | lst _ _ => exact List.mem_cons_self
end Hf
/-! ## sorted(d), d a dict with pairs of whole numbers as keys -/
namespace Hf
open PySem PySem.Spec PyProof.Rows L2
/-- the pair that stands at a place -/
def pairAt (H : Hp) : V → Int × Int
  | .ref b => match H b with
    | some (.tup [.int i, .int j]) => (i, j)
    | _ => (0, 0)
  | _ => (0, 0)
theorem pairAt_of {H : Hp} {b : Addr} {i j : Int} (h : H b = some (.tup [.int i, .int j])) : pairAt H (.ref b) = (i, j) := by
  show (match H b with | some (.tup [.int i, .int j]) => (i, j) | _ => (0, 0)) = _
  rw [h]
/-- a key as a pair -/
def keyP : List Key → Int × Int
  | [.inl i, .inl j] => (i, j)
  | _ => (0, 0)
def rSortedDT : List V → Hp → VK → Prop := fun vs H Q => ∃ (d : Addr) (kvs : List (List Key × V)), vs = [V.ref d] ∧ H d = some (.dT kvs) ∧ (∀ kv ∈ kvs, ∃ i j : Int, kv.1 = [.inl i, .inl j]) ∧
  ∀ (ys : List V) (p : Addr), (∀ y ∈ ys, ∃ b, y = .ref b ∧ H b = some (.tup [.int (pairAt H y).1, .int (pairAt H y).2])) → (ys.map (pairAt H)).Perm (kvs.map fun kv => keyP kv.1) → (ys.map (pairAt H)).Pairwise (fun a b => SrtO.lexB b a = false) → H p = none → Q (.ref p) (upd H p (.lst ys))
theorem isKeys_at {H : Hp} : ∀ {kvs : List (List Key × V)} {bs : List Addr}, IsKeys H kvs bs → (∀ kv ∈ kvs, ∃ i j : Int, kv.1 = [.inl i, .inl j]) →
    (∀ b ∈ bs, H b = some (.tup [.int (pairAt H (.ref b)).1, .int (pairAt H (.ref b)).2])) ∧ (bs.map fun b => pairAt H (.ref b)) = kvs.map fun kv => keyP kv.1
  | _, _, .nil, _ => ⟨nofun, rfl⟩
  | kv :: kvs, b :: bs, .cons h t, hk => by
    obtain ⟨i, j, e⟩ := hk kv List.mem_cons_self
    obtain ⟨h1, h2⟩ := isKeys_at t fun kv hkv => hk kv (List.mem_cons_of_mem _ hkv)
    rw [e] at h
    have h' : H b = some (.tup [.int i, .int j]) := h
    have e2 := pairAt_of h'
    refine ⟨fun b' hb' => ?_, by rw [List.map_cons, List.map_cons, h2, e2, e]; rfl⟩
    rcases List.mem_cons.mp hb' with z | z
    · rw [z, e2]; exact h'
    · exact h1 b' z
theorem cr_sortedDT {X : Cx} (hc : X.calm = true) : CallR X (.builtin "sorted") rSortedDT := by
  intro pins s σ H vs us Q I r h
  obtain ⟨d, kvs, rfl, hd, hk, q⟩ := h
  obtain ⟨u, rfl, ru⟩ := r.one
  cases ru
  obtain ⟨z, hs, ks, pr, o, es, ep, ho, hx, hdt, he, hn⟩ := (show ObjOk X.prog X.w H s.heap d (.dT kvs) from I.hok d _ hd)
  have l1 : es.size = ks.length := size_of_entries he
  have l2 : kvs.length = ks.length := Paired.length pr
  obtain ⟨kb1, kb2⟩ := isKeys_at (isKeys_of pr) hk
  refine Calls.call_function_entry PyProof.Rows.kind_sorted PyProof.Rows.plain_sorted PyProof.Rows.entry_sorted (PyProof.Rows.args_sorted1 _) ?_
  unfold Builtin.«sorted»
  refine wpAny_bind (m := checkCount "sorted" 1 1 _) (wpAny_pure ?_)
  refine wpAny_bind (PySem.W.kdu_collect (A := X.A.in1) (kdl_raw hs hx hdt) (I.ok.hd hc) ho (by omega) fun h' tk acc kp it => ?_)
  have ea : acc.toList = ks.map fun x => Value.ref x.2.1 := by
    have hl : acc.toList.length = ks.length := by rw [Array.length_toList, it.1]; exact l1
    apply List.ext_getElem?
    intro j
    rw [List.getElem?_map]
    cases hj : acc.toList[j]? with
    | none =>
      have h1 := List.getElem?_eq_none_iff.mp hj
      rw [List.getElem?_eq_none (by omega)]
      all_goals rfl
    | some v =>
      obtain ⟨en, hen, hv⟩ := it.2 j v (by rw [← Array.getElem?_toList]; exact hj)
      have qe := entry_at he j
      rw [hen] at qe
      cases hb : ks[j]? with
      | none =>
        rw [hb] at qe
        exact nomatch (show some en = none from qe)
      | some b =>
        rw [hb] at qe
        have e2 : en = entryOfKey (tupleKind (mixKind X.prog X.w)) b := Option.some.inj qe
        rw [hv, e2]
        all_goals rfl
  have eb : acc.toList = (ks.map fun x => x.2.1).map Value.ref := by rw [ea, List.map_map]; all_goals rfl
  have hz : acc.toList.length ≤ sizeLine := by rw [ea, List.length_map]; omega
  have I1 : Inv X pins σ H { s with heap := h', toks := tk } := I.kept kp
  have ip : ∀ v ∈ acc.toList, ∃ b, v = Value.ref b ∧ Srt.IsPair h' v (pairAt H (backV v)).1 (pairAt H (backV v)).2 := fun v hv => by
    rw [eb] at hv
    obtain ⟨b, hb, rfl⟩ := List.mem_map.mp hv
    have ht := kb1 b hb
    obtain ⟨_, its2, r2, o2, ho2, hc2, n2, hd2⟩ := I1.hok _ _ ht
    obtain ⟨u1, u2, rfl, ri, rj⟩ := vals2 r2
    obtain ⟨t1, rfl⟩ := ri
    obtain ⟨t2, rfl⟩ := rj
    exact ⟨b, rfl, b, o2, t1, t2, n2, rfl, ho2, hc2, hd2⟩
  refine wpAny_bind (wpAny_newList ?_ hz)
  have hoL : (h'.push (seqObj "list" acc.toList.toArray 0)).get? h'.objs.size = some (seqObj "list" acc.toList.toArray 0) := Heap.get?_push_size _ rfl
  show wpAny _ _ _ _ _ { s with heap := h'.push (seqObj "list" acc.toList.toArray 0), toks := tk }
  refine wpAny_bind (wpAny_holding (wpAny_call_entry PyProof.Rows.slot_list_sort ⟨_, hoL, rfl⟩ PyProof.Rows.entry_list_sort
    (SrtO.list_sort_ord (s := { s with heap := h'.push (seqObj "list" acc.toList.toArray 0), toks := tk }) (SrtO.swo_lex fun u => pairAt H (backV u)) hoL hz (fun h2 => ?_) fun out g1 g2 => ⟨_, rfl, ?_⟩) (PyProof.Rows.args_list_sort _)))
  · refine SrtO.pairs_sortableO (by omega) (fun v hv => ?_) fun o e => ?_
    · obtain ⟨b, _, hp⟩ := ip v hv
      exact hp.keeps fun b o e _ => Heap.get?_push_of_some _ e
    · have e' : some o = some (seqObj "list" acc.toList.toArray 0) := e.symm.trans hoL
      cases e'
      intro c
      exact absurd (Value.type.inj c) (by decide)
  · obtain ⟨e', he'⟩ := PyProof.Rows.sortedHeap_at (vs := acc.toList) (out := out.toArray) hoL
    have h3 : ∀ u ∈ out, ∃ a, u = Value.ref a := fun u hu => by
      obtain ⟨b, e, _⟩ := ip u (g2.perm.mem_iff.mp hu)
      exact ⟨b, e⟩
    have hlen : (out.map backV).length ≤ sizeLine := by rw [List.length_map, g2.perm.length_eq]; exact hz
    refine wpAny_pure ⟨_, rfl, .ref h'.objs.size, upd H h'.objs.size (.lst (out.map backV)), I1.laid (t' := tk) (fun b u e => ?_) (Nat.le_refl _)
      (show ObjOk X.prog X.w _ _ _ (.lst (out.map backV)) from ⟨hlen, out, e', vals_back h3, he'⟩), rfl, q (out.map backV) _ (fun y hy => ?_) ?_ ?_ (I1.hok.fresh (Nat.le_refl _))⟩
    · have hb : b < h'.objs.size := Heap.lt_size e
      rw [PyProof.Rows.sortedHeap_old (Nat.ne_of_lt hb) (by rw [size_push']; exact Nat.lt_succ_of_lt hb)]
      exact Heap.get?_push_of_some _ e
    · obtain ⟨v, hv, rfl⟩ := List.mem_map.mp hy
      have hv' := g2.perm.mem_iff.mp hv
      rw [eb] at hv'
      obtain ⟨b, hb, rfl⟩ := List.mem_map.mp hv'
      exact ⟨b, rfl, kb1 b hb⟩
    · have h1 : ((out.map backV).map (pairAt H)).Perm ((acc.toList.map backV).map (pairAt H)) := (g2.perm.map _).map _
      have h2 : (acc.toList.map backV).map (pairAt H) = kvs.map fun kv => keyP kv.1 := by
        rw [eb, ← kb2, List.map_map, List.map_map, List.map_map, List.map_map]
        rfl
      rw [h2] at h1
      exact h1
    · rw [List.pairwise_map, List.pairwise_map]
      exact g1
theorem i_sortedDT {H : Hp} {Q : VK} {d : Addr} {kvs : List (List Key × V)} (h : H d = some (.dT kvs)) (hk : ∀ kv ∈ kvs, ∃ i j : Int, kv.1 = [.inl i, .inl j])
    (q : ∀ (ys : List V) (p : Addr), (∀ y ∈ ys, ∃ b, y = .ref b ∧ H b = some (.tup [.int (pairAt H y).1, .int (pairAt H y).2])) → (ys.map (pairAt H)).Perm (kvs.map fun kv => keyP kv.1) → (ys.map (pairAt H)).Pairwise (fun a b => SrtO.lexB b a = false) → H p = none → Q (.ref p) (upd H p (.lst ys))) : rSortedDT [.ref d] H Q :=
  ⟨d, kvs, rfl, h, hk, q⟩
end Hf
/-! ## streams: flows by what is left and sent -/
namespace Hf
open PySem PySem.Spec PyProof.Rows L2
abbrev Fl := Int × Int × Int
abbrev k2 (i j : Int) : List Key := [.inl i, .inl j]
theorem k2_inj {i j a b : Int} (h : k2 i j = k2 a b) : i = a ∧ j = b := by
  have h1 := List.cons.inj h
  have h2 := List.cons.inj h1.2
  exact ⟨Sum.inl.inj h1.1, Sum.inl.inj h2.1⟩
def addF (f : Int → Int → Int) (i j w : Int) : Int → Int → Int := fun a b => if a = i ∧ b = j then f a b + w else f a b
/-- a dict that holds flows -/
structure FlD (kvs : List (List Key × V)) (f : Int → Int → Int) : Prop where
  nn : ∀ i j, 0 ≤ f i j
  ks : ∀ kv ∈ kvs, ∃ i j, kv = (k2 i j, V.int (f i j)) ∧ f i j ≠ 0
  nd : (kvs.map (·.1)).Nodup
  vl : ∀ i j, valV kvs (k2 i j) = if f i j = 0 then none else some (.int (f i j))
theorem FlD.nil : FlD [] (fun _ _ => 0) := ⟨fun _ _ => Int.le_refl _, nofun, List.nodup_nil, fun _ _ => by rw [if_pos rfl]; rfl⟩
theorem FlD.get {kvs : List (List Key × V)} {f : Int → Int → Int} (h : FlD kvs f) (i j : Int) : (valV kvs (k2 i j)).getD (.int 0) = .int (f i j) := by
  rw [h.vl]
  split
  · next e => rw [e]; rfl
  · rfl
theorem putK_keys {κ : Type} [DecidableEq κ] {kvs : List (κ × V)} {k : κ} {v : V} : (putK kvs k v).map (·.1) = if (kvs.any fun kv => decide (kv.1 = k)) = true then kvs.map (·.1) else kvs.map (·.1) ++ [k] := by
  unfold putK
  split
  · rw [List.map_map]
    apply List.map_congr_left
    intro kv _
    show (if kv.1 = k then (kv.1, v) else kv).1 = kv.1
    split <;> rfl
  · rw [List.map_append]
    rfl
theorem FlD.add {kvs : List (List Key × V)} {f : Int → Int → Int} (h : FlD kvs f) {i j w : Int} (hw : 1 ≤ w) : FlD (putK kvs (k2 i j) (.int (f i j + w))) (addF f i j w) := by
  have hnn := h.nn
  refine ⟨fun a b => ?_, fun kv hkv => ?_, ?_, fun a b => ?_⟩
  · unfold addF
    have := hnn a b
    split <;> omega
  · unfold putK at hkv
    split at hkv
    · obtain ⟨kv', h1, h2⟩ := List.mem_map.mp hkv
      obtain ⟨a, b, e1, e2⟩ := h.ks kv' h1
      rw [e1] at h2
      simp only at h2
      by_cases c : k2 a b = k2 i j
      · rw [if_pos c] at h2
        obtain ⟨rfl, rfl⟩ := k2_inj c
        refine ⟨a, b, ?_, ?_⟩
        · rw [← h2]
          unfold addF
          rw [if_pos ⟨rfl, rfl⟩]
        · unfold addF
          rw [if_pos ⟨rfl, rfl⟩]
          have := hnn a b
          omega
      · rw [if_neg c] at h2
        have : ¬ (a = i ∧ b = j) := fun ⟨x, y⟩ => c (by rw [x, y])
        refine ⟨a, b, ?_, ?_⟩
        · rw [← h2]
          unfold addF
          rw [if_neg this]
        · unfold addF
          rw [if_neg this]
          exact e2
    · next hany =>
      rcases List.mem_append.mp hkv with z | z
      · obtain ⟨a, b, e1, e2⟩ := h.ks kv z
        have : ¬ (a = i ∧ b = j) := fun ⟨x, y⟩ => hany (by
          rw [List.any_eq_true]
          exact ⟨kv, z, decide_eq_true (by rw [e1, x, y])⟩)
        refine ⟨a, b, ?_, ?_⟩
        · rw [e1]
          unfold addF
          rw [if_neg this]
        · unfold addF
          rw [if_neg this]
          exact e2
      · rw [List.mem_singleton.mp z]
        refine ⟨i, j, ?_, ?_⟩
        · unfold addF
          rw [if_pos ⟨rfl, rfl⟩]
        · unfold addF
          rw [if_pos ⟨rfl, rfl⟩]
          have := hnn i j
          omega
  · rw [putK_keys]
    split
    · exact h.nd
    · next hany =>
      rw [List.nodup_append]
      refine ⟨h.nd, by simp, fun a ha b hb e => hany ?_⟩
      rw [List.mem_singleton.mp hb] at e
      obtain ⟨kv, h1, h2⟩ := List.mem_map.mp ha
      rw [List.any_eq_true]
      exact ⟨kv, h1, decide_eq_true (by rw [h2, e])⟩
  · rw [valV_put]
    by_cases c : k2 a b = k2 i j
    · rw [if_pos c]
      obtain ⟨rfl, rfl⟩ := k2_inj c
      have e : addF f a b w a b = f a b + w := if_pos ⟨rfl, rfl⟩
      have := hnn a b
      rw [e, if_neg (by omega)]
    · rw [if_neg c, h.vl]
      have e : addF f i j w a b = f a b := if_neg fun ⟨x, y⟩ => c (by rw [x, y])
      rw [e]
theorem FlD.len {kvs : List (List Key × V)} {f : Int → Int → Int} {i j w : Int} : (putK kvs (k2 i j) (.int (f i j + w))).length ≤ kvs.length + 1 := by
  unfold putK
  split
  · rw [List.length_map]; omega
  · rw [List.length_append]; exact Nat.le_refl _
/-! ### rows of a stream -/
def lt2 (a b : Fl) : Prop := a.1 < b.1 ∨ (a.1 = b.1 ∧ a.2.1 < b.2.1)
structure RowF (f : Int → Int → Int) (L : List Fl) : Prop where
  st : L.Pairwise lt2
  mem : ∀ e, e ∈ L ↔ e.2.2 = f e.1 e.2.1 ∧ f e.1 e.2.1 ≠ 0
theorem RowF.uniq {f : Int → Int → Int} {L M : List Fl} (h1 : RowF f L) (h2 : RowF f M) : L = M := by
  have key : ∀ {L M : List Fl}, L.Pairwise lt2 → M.Pairwise lt2 → (∀ e, e ∈ L ↔ e ∈ M) → L = M := by
    intro L
    induction L with
    | nil =>
      intro M _ _ h
      cases M with
      | nil => rfl
      | cons y M => exact absurd ((h y).mpr List.mem_cons_self) (by simp)
    | cons x L ih =>
      intro M hL hM h
      cases M with
      | nil => exact absurd ((h x).mp List.mem_cons_self) (by simp)
      | cons y M =>
        rw [List.pairwise_cons] at hL hM
        have irr : ∀ a : Fl, ¬ lt2 a a := fun a h => by unfold lt2 at h; omega
        have asy : ∀ a b : Fl, lt2 a b → lt2 b a → False := fun a b h1 h2 => by unfold lt2 at h1 h2; omega
        have exy : x = y := by
          rcases List.mem_cons.mp ((h x).mp List.mem_cons_self) with e | e
          · exact e
          · rcases List.mem_cons.mp ((h y).mpr List.mem_cons_self) with e' | e'
            · exact e'.symm
            · exact (asy _ _ (hL.1 y e') (hM.1 x e)).elim
        subst exy
        congr 1
        refine ih hL.2 hM.2 fun e => ⟨fun he => ?_, fun he => ?_⟩
        · rcases List.mem_cons.mp ((h e).mp (List.mem_cons_of_mem _ he)) with z | z
          · rw [z] at he
            exact (irr x (hL.1 x he)).elim
          · exact z
        · rcases List.mem_cons.mp ((h e).mpr (List.mem_cons_of_mem _ he)) with z | z
          · rw [z] at he
            exact (irr x (hM.1 x he)).elim
          · exact z
  exact key h1.st h2.st fun e => by rw [h1.mem, h2.mem]
/-- the row that sorted keys of a dict of flows make -/
theorem FlD.row {kvs : List (List Key × V)} {f : Int → Int → Int} (h : FlD kvs f) {ps : List (Int × Int)} (hp : ps.Perm (kvs.map fun kv => keyP kv.1)) (hs : ps.Pairwise fun a b => SrtO.lexB b a = false) : RowF f (ps.map fun p => (p.1, p.2, f p.1 p.2)) := by
  have hnd : (kvs.map fun kv => keyP kv.1).Nodup := by
    have : kvs.map (fun kv => keyP kv.1) = (kvs.map (·.1)).map keyP := by rw [List.map_map]; rfl
    rw [this]
    rw [List.Nodup, List.pairwise_map]
    refine List.Pairwise.imp_of_mem (R := fun a b => a ≠ b) (fun {a b} ha hb hne e => hne ?_) h.nd
    obtain ⟨kv, h1, rfl⟩ := List.mem_map.mp ha
    obtain ⟨kw, h2, rfl⟩ := List.mem_map.mp hb
    obtain ⟨i, j, e1, _⟩ := h.ks kv h1
    obtain ⟨i', j', e2, _⟩ := h.ks kw h2
    rw [e1, e2] at e ⊢
    have e' : (i, j) = (i', j') := e
    cases e'
    rfl
  have hpn : ps.Nodup := hp.nodup_iff.mpr hnd
  refine ⟨?_, fun e => ⟨fun he => ?_, fun ⟨he, hz⟩ => ?_⟩⟩
  · rw [List.pairwise_map]
    refine List.Pairwise.imp₂ (R := fun a b => SrtO.lexB b a = false) (S := fun a b => a ≠ b) (fun a b h1 h2 => ?_) hs hpn
    have h1' := SrtO.lexB_no.mp h1
    unfold lt2
    obtain ⟨a1, a2⟩ := a
    obtain ⟨b1, b2⟩ := b
    have : ¬ (a1 = b1 ∧ a2 = b2) := fun ⟨x, y⟩ => h2 (by rw [x, y])
    simp only at h1' ⊢
    omega
  · obtain ⟨p, hpm, rfl⟩ := List.mem_map.mp he
    obtain ⟨kv, h1, h2⟩ := List.mem_map.mp (hp.mem_iff.mp hpm)
    obtain ⟨i, j, e1, e2⟩ := h.ks kv h1
    rw [e1] at h2
    have h2' : (i, j) = p := h2
    subst h2'
    exact ⟨rfl, e2⟩
  · obtain ⟨l, s, w⟩ := e
    simp only at he hz
    have hv := h.vl l s
    rw [if_neg hz] at hv
    have hm : ∃ kv ∈ kvs, kv.1 = k2 l s := by
      unfold valV at hv
      cases hf : kvs.find? (fun kv => decide (kv.1 = k2 l s)) with
      | none => rw [hf] at hv; cases hv
      | some kv => exact ⟨kv, List.mem_of_find?_eq_some hf, by have := List.find?_some hf; simpa using this⟩
    obtain ⟨kv, h1, h2⟩ := hm
    have : (l, s) ∈ ps := hp.mem_iff.mpr (List.mem_map.mpr ⟨kv, h1, by rw [h2]; rfl⟩)
    exact List.mem_map.mpr ⟨(l, s), this, by rw [he]⟩
/-! ### the flows of a mix -/
def keyAt (p : List Int) (k : Nat) : Int × Int := ((p.drop k).sum, (p[k]?).getD 0)
def flowF : List (List Int × Int) → Nat → Int → Int → Int
  | [], _, _, _ => 0
  | pw :: m, k, l, s => (if keyAt pw.1 k = (l, s) then pw.2 else 0) + flowF m k l s
theorem flowF_snoc (k : Nat) (pw : List Int × Int) : ∀ m, flowF (m ++ [pw]) k = addF (flowF m k) (keyAt pw.1 k).1 (keyAt pw.1 k).2 pw.2
  | [] => by
    funext l s
    show (if keyAt pw.1 k = (l, s) then pw.2 else 0) + 0 = _
    unfold addF flowF
    by_cases c : keyAt pw.1 k = (l, s)
    · rw [if_pos c, if_pos ⟨by rw [c], by rw [c]⟩]; omega
    · rw [if_neg c, if_neg (fun ⟨x, y⟩ => c (Prod.ext x.symm y.symm))]; omega
  | q :: m => by
    funext l s
    have ih := congrFun (congrFun (flowF_snoc k pw m) l) s
    show (if keyAt q.1 k = (l, s) then q.2 else 0) + flowF (m ++ [pw]) k l s = _
    rw [ih]
    unfold addF
    have e : flowF (q :: m) k l s = (if keyAt q.1 k = (l, s) then q.2 else 0) + flowF m k l s := rfl
    rw [e]
    by_cases c : l = (keyAt pw.1 k).1 ∧ s = (keyAt pw.1 k).2
    · rw [if_pos c, if_pos c]; omega
    · rw [if_neg c, if_neg c]
theorem flowF_nil (k : Nat) : flowF [] k = fun _ _ => 0 := rfl
def flD (e : Fl) : PyData := .tuple [.int e.1, .int e.2.1, .int e.2.2]
def rowD (L : List Fl) : PyData := .list (L.map flD)
def strD (Ls : List (List Fl)) : PyData := .list (Ls.map rowD)
/-- the stream of a mix of plans on n fields -/
structure StrOf (m : List (List Int × Int)) (n : Nat) (Ls : List (List Fl)) : Prop where
  len : Ls.length = n
  row : ∀ (k : Nat) L, Ls[k]? = some L → RowF (flowF m k) L
theorem StrOf.uniq {m : List (List Int × Int)} {n : Nat} {Ls Ms : List (List Fl)} (h1 : StrOf m n Ls) (h2 : StrOf m n Ms) : Ls = Ms := by
  apply List.ext_getElem?
  intro k
  by_cases c : k < n
  · have e1 : Ls[k]? = some (Ls[k]'(by rw [h1.len]; exact c)) := List.getElem?_eq_getElem _
    have e2 : Ms[k]? = some (Ms[k]'(by rw [h2.len]; exact c)) := List.getElem?_eq_getElem _
    rw [e1, e2, (h1.row k _ e1).uniq (h2.row k _ e2)]
  · rw [List.getElem?_eq_none (by rw [h1.len]; omega), List.getElem?_eq_none (by rw [h2.len]; omega)]
/-! ### get with something else -/
section
variable {σ : L2.St} {H : Hp} {Q : VK} {a p : Addr} {kvs : List (List Key × V)} {i j : Int} {z : V}
def DgxR (x y z : V) (H : Hp) (Q : VK) : Prop := ∃ a o, x = V.ref a ∧ DGet H a y o ∧ Q (o.getD z) H
theorem i_dget2 {td ty tx : TE} (h : td σ H fun x H1 => ∃ a, x = .ref a ∧ IsD H1 a ∧ ty σ H1 fun y H2 => tx σ H2 fun z H3 => ∃ o, DGet H3 a y o ∧ Q (o.getD z) H3) : tDGet2 td ty tx σ H Q := h
theorem i_isD {A : Addr → Prop} (h : H a = some (.dT kvs)) (q : A a) : ∃ a', V.ref a = .ref a' ∧ IsD H a' ∧ A a' := ⟨a, rfl, .inr ⟨kvs, .inl h⟩, q⟩
theorem i_dgo2 {R : Option V → Prop} (h : H a = some (.dT kvs)) (e : H p = some (.tup [.int i, .int j])) (q : R (valV kvs (k2 i j))) : ∃ o, DGet H a (.ref p) o ∧ R o := ⟨_, DGet.t (k := k2 i j) h e, q⟩
theorem FlD.pairs {f : Int → Int → Int} (h : FlD kvs f) : ∀ kv ∈ kvs, ∃ i j : Int, kv.1 = [.inl i, .inl j] := fun kv hkv => by
  obtain ⟨i, j, e, _⟩ := h.ks kv hkv
  exact ⟨i, j, by rw [e]⟩
end
theorem mix_len {h : Int} {n : Nat} {m : List (List Int × Int)} (k : MixOk h n m) {pw : List Int × Int} (hp : pw ∈ m) : pw.1.length = n := (k.pl pw hp).1.1
/-! ### papers -/
def papD (Ls : List (List Fl)) (tb : List (List Int)) : PyData := .tuple [strD Ls, .list (tb.map planD)]
theorem fl_own {H : Hp} {v : V} {e : Fl} (h : Dq H v (flD e)) : Ow H v (flD e) [] := by
  obtain ⟨a, xs, rfl, h1, h2⟩ := h.tuple_inv
  cases h2 with
  | cons a b =>
    cases b with
    | cons c d =>
      cases d with
      | cons e f =>
        cases f
        obtain rfl := Dq.int_inv a
        obtain rfl := Dq.int_inv c
        obtain rfl := Dq.int_inv e
        exact .tup h1 (own_ints [_, _, _])
theorem row_own {H : Hp} : ∀ {xs : List V} {L : List Fl}, DqAll H xs (L.map flD) → OwAll H xs (L.map flD) []
  | _, [], h => by cases h; exact .nil
  | _, e :: L, h => by
    cases h with
    | cons a b => exact .cons (S := []) (S' := []) (fl_own a) (row_own b)
theorem strow_at {G : Hp} {xs : List V} {Ls : List (List Fl)} (q : DqAll G xs (Ls.map rowD)) {k : Nat} {w : V} (hw : xs[k]? = some w) : ∃ L p ys, Ls[k]? = some L ∧ w = .ref p ∧ G p = some (.lst ys) ∧ DqAll G ys (L.map flD) := by
  obtain ⟨d, e, q⟩ := q.get' hw
  rw [List.getElem?_map] at e
  cases g : Ls[k]? with
  | none => rw [g] at e; cases e
  | some L =>
    rw [g] at e
    cases e
    obtain ⟨p, ys, rfl, h1, h2⟩ := q.list_inv
    exact ⟨L, p, ys, rfl, rfl, h1, h2⟩
theorem pap_inv {H : Hp} {v : V} {Ls : List (List Fl)} {tb : List (List Int)} (h : Dq H v (papD Ls tb)) : ∃ a p q xs ys, v = .ref a ∧ H a = some (.tup [.ref p, .ref q]) ∧ H p = some (.lst xs) ∧ DqAll H xs (Ls.map rowD) ∧ H q = some (.lst ys) ∧ DqAll H ys (tb.map planD) := by
  obtain ⟨a, xs, rfl, h1, h2⟩ := Dq.tuple_inv h
  cases h2 with
  | cons a b =>
    cases b with
    | cons c d =>
      cases d
      obtain ⟨p, xs, rfl, e1, e2⟩ := Dq.list_inv a
      obtain ⟨q, ys, rfl, e3, e4⟩ := Dq.list_inv c
      exact ⟨_, p, q, xs, ys, rfl, h1, e1, e2, e3, e4⟩
/-- a paper that is not too great -/
structure PapOk (Ls : List (List Fl)) (tb : List (List Int)) : Prop where
  l1 : Ls.length ≤ 10
  l2 : ∀ L ∈ Ls, L.length ≤ 200
  t1 : tb.length ≤ 10
  t2 : ∀ r ∈ tb, r.length ≤ 20 ∧ ∀ x ∈ r, x.natAbs < 2 ^ 120
def tbBy (b : Int) (tb : List (List Int)) : List (List Int) := tb.map fun r => r.map fun x => x * b
theorem lay_row (L : List Fl) : (rowD L).canLay0 = true := by
  rw [rowD, PyData.canLay0]
  exact lay_all fun d hd => by
    obtain ⟨e, _, rfl⟩ := List.mem_map.mp hd
    simp [flD, PyData.canLay0, PyData.canLayAll0]
theorem lay_str (Ls : List (List Fl)) : (strD Ls).canLay0 = true := by
  rw [strD, PyData.canLay0]
  exact lay_all fun d hd => by
    obtain ⟨L, _, rfl⟩ := List.mem_map.mp hd
    exact lay_row L
theorem dep_row (L : List Fl) : dep (rowD L) ≤ 2 := by
  have := depA_le (k := 1) (ds := L.map flD) fun d hd => by
    obtain ⟨e, _, rfl⟩ := List.mem_map.mp hd
    simp [flD, dep, depA]
  rw [rowD, dep]
  omega
theorem dep_str (Ls : List (List Fl)) : dep (strD Ls) ≤ 3 := by
  have := depA_le (k := 2) (ds := Ls.map rowD) fun d hd => by
    obtain ⟨L, _, rfl⟩ := List.mem_map.mp hd
    exact dep_row L
  rw [strD, dep]
  omega
theorem wid_row {k : Nat} (L : List Fl) (h : L.length ≤ k) (h3 : 3 ≤ k) : wid (rowD L) ≤ k := by
  have := widA_le (k := k) (ds := L.map flD) fun d hd => by
    obtain ⟨e, _, rfl⟩ := List.mem_map.mp hd
    simp only [flD, wid, widA, List.length_cons, List.length_nil]
    omega
  rw [rowD, wid, List.length_map]
  omega
theorem wid_str {k : Nat} (Ls : List (List Fl)) (h : Ls.length ≤ k) (h2 : ∀ L ∈ Ls, L.length ≤ k) (h3 : 3 ≤ k) : wid (strD Ls) ≤ k := by
  have := widA_le (k := k) (ds := Ls.map rowD) fun d hd => by
    obtain ⟨L, hL, rfl⟩ := List.mem_map.mp hd
    exact wid_row L (h2 L hL) h3
  rw [strD, wid, List.length_map]
  omega
theorem noMA_all : ∀ {ds : List PyData}, (∀ d ∈ ds, noM d = true) → noMA ds = true
  | [], _ => rfl
  | d :: ds, h => by
    rw [noMA, h d List.mem_cons_self, noMA_all fun e he => h e (List.mem_cons_of_mem _ he)]
    rfl
theorem noM_ints (r : List Int) : noMA (r.map PyData.int) = true := noMA_all fun d hd => by
  obtain ⟨x, _, rfl⟩ := List.mem_map.mp hd
  rfl
theorem noM_str (Ls : List (List Fl)) : noM (strD Ls) = true := noMA_all fun d hd => by
  obtain ⟨L, _, rfl⟩ := List.mem_map.mp hd
  exact noMA_all fun d hd => by
    obtain ⟨e, _, rfl⟩ := List.mem_map.mp hd
    rfl
theorem noM_rows (rs : List (List Int)) : noM (.list (rs.map planD)) = true := noMA_all fun d hd => by
  obtain ⟨r, _, rfl⟩ := List.mem_map.mp hd
  exact noM_ints r
theorem pap_facts {Ls : List (List Fl)} {tb : List (List Int)} (k : PapOk Ls tb) : (papD Ls tb).canLay0 = true ∧ noM (papD Ls tb) = true ∧ (dep (papD Ls tb) < 12 ∧ 1 ≤ dep (papD Ls tb) ∧ wid (papD Ls tb) ≤ 1000) ∧ SeqAt.shaped (papD Ls tb) = true := by
  have h1 : (papD Ls tb).canLay0 = true := by
    rw [papD, PyData.canLay0]
    exact lay_all fun d hd => by
      simp only [List.mem_cons, List.not_mem_nil, or_false] at hd
      rcases hd with e | e
      · rw [e]; exact lay_str Ls
      · rw [e]; exact lay_rows tb
  have h2 : noM (papD Ls tb) = true := noMA_all fun d hd => by
    simp only [List.mem_cons, List.not_mem_nil, or_false] at hd
    rcases hd with e | e
    · rw [e]; exact noM_str Ls
    · rw [e]; exact noM_rows tb
  have d1 := dep_str Ls
  have d2 := dep_rows tb
  have w1 := wid_str (k := 200) Ls (by have := k.l1; omega) k.l2 (by omega)
  have w2 := wid_rows (k := 200) tb (by have := k.t1; omega) (fun r hr => by have := (k.t2 r hr).1; omega)
  have h3 : dep (papD Ls tb) < 12 ∧ 1 ≤ dep (papD Ls tb) ∧ wid (papD Ls tb) ≤ 1000 := by
    simp only [papD, dep, depA, wid, widA, List.length_cons, List.length_nil] at d1 d2 w1 w2 ⊢
    omega
  exact ⟨h1, h2, h3, shaped_of h1 (by omega)⟩
theorem tbBy_shape {b : Int} {Ls : List (List Fl)} {tb : List (List Int)} (k : PapOk Ls tb) : (papD Ls (tbBy b tb)).canLay0 = true ∧ noM (papD Ls (tbBy b tb)) = true ∧ (dep (papD Ls (tbBy b tb)) < 12 ∧ 1 ≤ dep (papD Ls (tbBy b tb)) ∧ wid (papD Ls (tbBy b tb)) ≤ 1000) ∧ SeqAt.shaped (papD Ls (tbBy b tb)) = true := by
  have h1 : (papD Ls (tbBy b tb)).canLay0 = true := by
    rw [papD, PyData.canLay0]
    exact lay_all fun d hd => by
      simp only [List.mem_cons, List.not_mem_nil, or_false] at hd
      rcases hd with e | e
      · rw [e]; exact lay_str Ls
      · rw [e]; exact lay_rows _
  have h2 : noM (papD Ls (tbBy b tb)) = true := noMA_all fun d hd => by
    simp only [List.mem_cons, List.not_mem_nil, or_false] at hd
    rcases hd with e | e
    · rw [e]; exact noM_str Ls
    · rw [e]; exact noM_rows _
  have d1 := dep_str Ls
  have d2 := dep_rows (tbBy b tb)
  have w1 := wid_str (k := 200) Ls (by have := k.l1; omega) k.l2 (by omega)
  have w2 := wid_rows (k := 200) (tbBy b tb) (by rw [tbBy, List.length_map]; have := k.t1; omega) (fun r hr => by
    obtain ⟨r2, h2, rfl⟩ := List.mem_map.mp hr
    rw [List.length_map]
    have := (k.t2 r2 h2).1
    omega)
  have h3 : dep (papD Ls (tbBy b tb)) < 12 ∧ 1 ≤ dep (papD Ls (tbBy b tb)) ∧ wid (papD Ls (tbBy b tb)) ≤ 1000 := by
    simp only [papD, dep, depA, wid, widA, List.length_cons, List.length_nil] at d1 d2 w1 w2 ⊢
    omega
  exact ⟨h1, h2, h3, shaped_of h1 (by omega)⟩
theorem Ow.pk {a : Addr} {m c : Int} {H H' : Hp} {v : V} {d : PyData} {S : List Addr} (p : Pk a m H c) (s : But a H H') (h : Ow H v d S) (n : ∀ b, b ∈ S → b ≠ a) : Ow H' v d S := by
  have lt : ∀ b ys, b ∈ [a] → H b ≠ some (.tup ys) := fun b ys hb e => by
    obtain ⟨_, _, e', _⟩ := p
    rw [List.mem_singleton.mp hb, e'] at e
    cases e
  exact Ow.kp lt (fun b o hb h => s _ _ (fun e => hb (by simp [e])) h) h fun b hb hb' => n b hb (List.mem_singleton.mp hb')
theorem ow_pap {H : Hp} {v : V} {Ls : List (List Fl)} {tb : List (List Int)} {S : List Addr} (h : Ow H v (papD Ls tb) S) : ∃ a p q ys Sa Sb, v = .ref a ∧ H a = some (.tup [.ref p, .ref q]) ∧ S = Sa ++ q :: Sb ∧ Ow H (.ref p) (strD Ls) Sa ∧ H q = some (.lst ys) ∧ OwAll H ys (tb.map planD) Sb := by
  unfold papD at h
  cases h with
  | tup h1 h2 =>
    cases h2 with
    | cons a b =>
      cases b with
      | cons c d =>
        cases d
        cases c with
        | lst h3 h4 =>
          obtain ⟨p, xs, rfl, _, _⟩ := a.dq.list_inv
          exact ⟨_, p, _, _, _, _, rfl, h1, by rw [List.append_nil], a, h3, h4⟩
/-- a paper whose table was turned about through its address -/
theorem pap_turn {H : Hp} {a p q : Addr} {ys : List V} {Ls : List (List Fl)} {tb : List (List Int)} {Sa Sb : List Addr} (h1 : H a = some (.tup [.ref p, .ref q])) (h2 : Ow H (.ref p) (strD Ls) Sa) (h3 : H q = some (.lst ys)) (h4 : OwAll H ys (tb.map planD) Sb) (nd : (Sa ++ q :: Sb).Nodup) : Dq (upd H q (.lst ys.reverse)) (.ref a) (papD Ls tb.reverse) := by
  have lt : ∀ b ys, b ∈ [q] → H b ≠ some (.tup ys) := fun b ys hb e => by
    rw [List.mem_singleton.mp hb, h3] at e
    cases e
  have kp : Kp [q] H (upd H q (.lst ys.reverse)) := Kp.upd (by simp) Kp.refl
  rw [List.nodup_append] at nd
  obtain ⟨_, n2, n3⟩ := nd
  rw [List.nodup_cons] at n2
  have haq : a ≠ q := fun e => by
    rw [e, h3] at h1
    cases h1
  refine .tup (lk_upd haq h1) (.cons (Ow.kp lt kp h2 fun b hb hb' => n3 b hb q List.mem_cons_self (List.mem_singleton.mp hb')).dq (.cons (.lst upd_same ?_) .nil))
  rw [List.map_reverse]
  exact (OwAll.kp lt kp h4 fun b hb hb' => n2.1 (by rw [← List.mem_singleton.mp hb']; exact hb)).dq.reverse
theorem PapOk.reverse {Ls : List (List Fl)} {tb : List (List Int)} (k : PapOk Ls tb) : PapOk Ls tb.reverse := ⟨k.l1, k.l2, by rw [List.length_reverse]; exact k.t1, fun r hr => k.t2 r (List.mem_reverse.mp hr)⟩
theorem tbBy_neg (tb : List (List Int)) : tbBy (-1) tb = tb.map fun r => r.map fun x => 0 - x := by
  unfold tbBy
  refine List.map_congr_left fun r _ => List.map_congr_left fun x _ => by omega
theorem tbBy_one (tb : List (List Int)) : tbBy 1 tb = tb := by
  unfold tbBy
  have : ∀ r : List Int, (r.map fun x => x * 1) = r := fun r => by simp
  simp
end Hf
/-! ## isinstance of a caught exception by a tuple of classes -/
namespace Hf
open PySem PySem.Spec PyProof.Rows L2
def rIsXT (K : PySem.W.Frag) : List V → Hp → VK → Prop := fun xs H Q =>
  (∃ (a D : Addr) (d : Option Addr) (tp : Addr) (cs : List V) (us : List Value) (b : Bool), xs = [.ref a, .ref tp] ∧ H a = some (exHO a (.ref D) d) ∧ (∀ dd, d = some dd → ∃ fs, H dd = some (.xd fs)) ∧ ExcC K D ∧ H tp = some (.tup cs) ∧ Paired ClsV cs us ∧ PySem.W.kitAny K (.ref D) us = some b ∧ Q (.bl b) H) ∨ rIsiT K xs H Q
theorem call_isXT {X : Cx} : CallR X (.builtin "isinstance") (rIsXT X.K) := by
  intro pins s σ H xs us Q I r h
  rcases h with ⟨a, D, d, tp, cs, ws, b, rfl, ha, hdd, C, hT, hcs, e, q⟩ | h
  · cases r with
    | cons rx rr =>
      cases rr with
      | cons rt rr =>
        cases rr
        cases rx
        cases rt
        obtain ⟨oe, vs, hget, hz, hv⟩ := exHO_at I.hok ha
        obtain ⟨od, J⟩ : ∃ od, PySem.W.InstAt s.heap a oe D od := by
          cases d with
          | none =>
            obtain ⟨oc, od, oda, osl⟩ := oe
            obtain ⟨h1, h2⟩ := hz
            dsimp only at h1 h2 hv
            subst h1 h2 hv
            exact ⟨none, hget, rfl, rfl, trivial⟩
          | some dd =>
            obtain ⟨fs, hfs⟩ := hdd dd rfl
            have x : ObjOk X.prog X.w H s.heap dd (.xd fs) := I.hok dd _ hfs
            obtain ⟨mA, ⟨o, es, ep, ho, _⟩, _⟩ := x
            obtain ⟨oc, od, oda, osl⟩ := oe
            obtain ⟨h1, h2⟩ := hz
            dsimp only at h1 h2 hv
            subst h1 h2 hv
            exact ⟨some o, hget, rfl, rfl, ho⟩
        have hcl : (PySem.W.clsIn X.K D).isSome = true := by
          obtain ⟨cd, hc, _⟩ := PySem.W.any_some C.hd
          rw [hc]
          rfl
        obtain ⟨_, its, rv, o, h1, h2, n, h3⟩ := (show ObjOk X.prog X.w H s.heap tp (.tup cs) from I.hok tp _ hT)
        have e3 := ClsV.all hcs rv
        subst e3
        obtain ⟨oc, od', dt, sl⟩ := o
        simp only at h2 h3
        subst h2 h3
        exact PySem.W.kia_tup (PySem.W.kitx_exc hcl C.hg C.hk C.hs C.ha C.hn C.ht C.hm) I.kIn J h1 e (fun z => nomatch z) fun tk => ⟨.bl b, H, I.tok tk, rfl, q⟩
  · exact call_isiT pins s σ H xs us Q I r h
theorem call_isXTK {X : Cx} (K : PySem.W.Frag) (e : X.K = K) : CallR X (.builtin "isinstance") (rIsXT K) := by subst e; exact call_isXT
/-- none of these classes -/
def KitN (K : PySem.W.Frag) (D : Addr) (cs : List V) : Prop := ∃ us, Paired ClsV cs us ∧ PySem.W.kitAny K (.ref D) us = some false
theorem KitN.nil {K : PySem.W.Frag} {D : Addr} : KitN K D [] := ⟨[], .nil, rfl⟩
theorem KitN.no {K : PySem.W.Frag} {D C : Addr} {cs : List V} (h : PySem.W.kitOne K (.ref D) (.ref C) = some false) (t : KitN K D cs) : KitN K D (.ref C :: cs) := by
  obtain ⟨us, h1, h2⟩ := t
  exact ⟨.ref C :: us, .cons (.own C) h1, kitAny_cons h (fun _ => h2) (fun z => nomatch z)⟩
/-- one of these classes -/
def KitY (K : PySem.W.Frag) (D : Addr) (cs : List V) : Prop := ∃ us, Paired ClsV cs us ∧ PySem.W.kitAny K (.ref D) us = some true
def KitR (cs : List V) : Prop := ∃ us, Paired ClsV cs us
theorem KitR.nil : KitR [] := ⟨[], .nil⟩
theorem KitR.cons {C : Addr} {cs : List V} (t : KitR cs) : KitR (.ref C :: cs) := by
  obtain ⟨us, h⟩ := t
  exact ⟨.ref C :: us, .cons (.own C) h⟩
theorem KitY.here {K : PySem.W.Frag} {D C : Addr} {cs : List V} (h : PySem.W.kitOne K (.ref D) (.ref C) = some true) (t : KitR cs) : KitY K D (.ref C :: cs) := by
  obtain ⟨us, h1⟩ := t
  exact ⟨.ref C :: us, .cons (.own C) h1, by unfold PySem.W.kitAny; rw [h]⟩
theorem KitY.there {K : PySem.W.Frag} {D C : Addr} {cs : List V} (h : PySem.W.kitOne K (.ref D) (.ref C) = some false) (t : KitY K D cs) : KitY K D (.ref C :: cs) := by
  obtain ⟨us, h1, h2⟩ := t
  exact ⟨.ref C :: us, .cons (.own C) h1, kitAny_cons h (fun _ => h2) (fun z => nomatch z)⟩
section
variable {K : PySem.W.Frag} {H : Hp} {Q : VK} {a D tp dd : Addr} {cs : List V}
theorem i_isXY (h : H a = some (exHO a (.ref D) none)) (hT : H tp = some (.tup cs)) (e : ExcC K D) (k : KitY K D cs) (q : Q (.bl true) H) : rIsXT K [.ref a, .ref tp] H Q := by
  obtain ⟨us, h1, h2⟩ := k
  exact .inl ⟨a, D, none, tp, cs, us, true, rfl, h, fun _ z => (nomatch z), e, hT, h1, h2, q⟩
theorem i_isXN (h : H a = some (exHO a (.ref D) none)) (hT : H tp = some (.tup cs)) (e : ExcC K D) (k : KitN K D cs) (q : Q (.bl false) H) : rIsXT K [.ref a, .ref tp] H Q := by
  obtain ⟨us, h1, h2⟩ := k
  exact .inl ⟨a, D, none, tp, cs, us, false, rfl, h, fun _ z => (nomatch z), e, hT, h1, h2, q⟩
theorem i_isXNd {fs : List (Str × V)} (h : H a = some (exHO a (.ref D) (some dd))) (hd : H dd = some (.xd fs)) (hT : H tp = some (.tup cs)) (e : ExcC K D) (k : KitN K D cs) (q : Q (.bl false) H) : rIsXT K [.ref a, .ref tp] H Q := by
  obtain ⟨us, h1, h2⟩ := k
  exact .inl ⟨a, D, some dd, tp, cs, us, false, rfl, h, fun x z => by cases z; exact ⟨fs, hd⟩, e, hT, h1, h2, q⟩
theorem i_isXT2 {x : V} {t c1 c2 : String} {b1 b2 : Bool} (hT : H tp = some (.tup [.ty c1, .ty c2])) (ty : TyX K H x (.type t)) (h1 : kitB t c1 = some b1) (h2 : kitB t c2 = some b2) (q : Q (.bl (b1 || b2)) H) : rIsXT K [x, .ref tp] H Q := .inr (i_isiT2 hT ty h1 h2 q)
end
end Hf
/-! ## exceptions with an __init__ of their own, which calls that of a base of the program -/
namespace Hf
open PySem PySem.Spec PyProof.Rows L2
/-- Base.__init__(self, ..), Base a class of the program without one of its own -/
theorem pe_hinit {X : L2.Cx} {B : Addr} {mc : Value} {x : Str} {e : Expr} {es : List Expr} {ta : TA} {p1 p2 pos : Pos} {pl : Sem Bool} (r : ClX.CRead X.K B mc) (k : PySem.W.findCls X.K (.ref B) mc "__init__" = some (.val (.builtin "ValueError.__init__"))) (hg : Gl X x) (hm : X.mg x = some (.ref B)) (ha : PA X (e :: es) ta)
    (hd : (x == ("__debug__" : Str)) = false := by decide)
    (hc : eval (.Call (.Attribute (.Name x p1) "__init__" p2) (e :: es) [] pos) X.env = (do
      let ov ← eval (.Name x p1) X.env
      standAt p2.atName
      let (f, first) ← holding [ov] (getMethod ov "__init__" pl)
      callWith pos f first (backTo pos (starEach (e :: es) X.env)) (backToKw pos (keywordEach [] X.env))) := by rfl)
    (he : starEach (e :: es) X.env = (false, eval e X.env) :: starEach es X.env := by rfl) (hpl : (backTo pos (starEach es X.env)).any (·.1) = false := by rfl) :
    PE X (.Call (.Attribute (.Name x p1) "__init__" p2) (e :: es) [] pos) (tVeI X.K ta) := by
  refine ⟨fun pins s σ H Q I h => ?_⟩
  refine PySem.W.methodCall_KW (ld_glob I hg hm ?_ hd) hc
  refine PySem.W.method_cls I.kIn r.ga (PySem.W.cls_value I.kIn r.rd k (by decide +kernel) ?_)
  show wpAny _ _ (callWith pos (Value.builtin "ValueError.__init__") [] (backTo pos (starEach (e :: es) X.env)) []) _ _ _
  refine PyProof.Rows.callWith_method1 (thn (ha.run pos pins _ σ H _ (I.tok _) h) fun us s1 ⟨vs, H1, I1, r1, a, C, ws, ev, hl, T, ea, q⟩ => ?_) he hpl
  subst ev
  cases r1 with
  | @cons _ u0 _ ur ra rw' =>
    obtain rfl : u0 = Value.ref a := ra
    have hlen : ur.length ≤ sizeLine := by
      rw [← Paired.length rw', sizeLine_eq]
      omega
    exact oinit_ok T I1 ea hlen fun s' J => ⟨.non, H1, J, rfl, q⟩
section
variable {σ : L2.St} {H : Hp} {Q : VK} {K : PySem.W.Frag} {a C : Addr} {ws vs dvs : List V} {ta : TA} {to te : TE} {f : Str} {y : V} {nx bk ct : L2.St → Hp → Prop} {rt : VK}
def VeR (K : PySem.W.Frag) (vs : List V) (H : Hp) (Q : VK) : Prop := ∃ (a C : Addr) (ws : List V), vs = .ref a :: ws ∧ ws.length ≤ 1000 ∧ OexC K C ∧ H a = some (exo a C none) ∧ Q .non H
theorem i_vei (h : ta σ H fun vs H1 => VeR K vs H1 Q) : tVeI K ta σ H Q := h
theorem i_ver (h : H a = some (exo a C none)) (T : OexC K C) (hl : ws.length ≤ 1000) (q : Q .non H) : VeR K (.ref a :: ws) H Q := ⟨a, C, ws, rfl, hl, T, h, q⟩
def OsR (K : PySem.W.Frag) (f : Str) (y x : V) (H : Hp) (Z : Hp → Prop) : Prop := ∃ a C : Addr, x = V.ref a ∧ OexC K C ∧ PySem.W.findIn K (.ref C) f = some none ∧
  ((H a = some (exo a C none) ∧ ∀ dx, H dx = none → dx ≠ a → Z (upd (upd H dx (exd dx [(f, y)])) a (exo a C (some dx)))) ∨
    ∃ (dx : Addr) (fs : List (Str × V)), H a = some (exo a C (some dx)) ∧ H dx = some (exd dx fs) ∧ fs.length ≤ 900 ∧ Z (upd H dx (exd dx ((f, y) :: fs))))
theorem i_ost (h : te σ H fun y H1 => to σ H1 fun x H2 => OsR K f y x H2 (nx σ)) : tOst K f to te ⟨nx, rt, bk, ct⟩ σ H := h
theorem i_osr {Z : Hp → Prop} (h : H a = some (exo a C none)) (T : OexC K C) (n : PySem.W.findIn K (.ref C) f = some none) (q : ∀ dx, H dx = none → dx ≠ a → Z (upd (upd H dx (exd dx [(f, y)])) a (exo a C (some dx)))) : OsR K f y (.ref a) H Z := ⟨a, C, rfl, T, n, .inl ⟨h, q⟩⟩
end
end Hf
/-! ### raise C(y), C's __init__ noting one field -/
namespace Hf
open PySem PySem.Spec PyProof.Rows L2
section
variable {σ : L2.St} {H : Hp} {Q : VK} {K : PySem.W.Frag} {C : Addr} {f : Str} {y : V} {sp : Sp}
/-- what such an __init__ promises -/
def IniSp (sp : Sp) (C : Addr) (f : Str) (y : V) : Prop := ∀ (a : Addr) (H : Hp) (Q : VK) (E : XK), H a = some (exo a C none) → (∀ dx, H dx = none → dx ≠ a → Q .non (upd (upd H dx (exd dx [(f, y)])) a (exo a C (some dx)))) → sp [.ref a, y] H Q E
theorem i_mko {dvs : List V} {ta : TA} {Z : XK} (h : ta σ H fun vs H1 => vs.length ≤ 1000 ∧ ∀ a, H1 a = none → sp (.ref a :: (vs ++ dvs)) (upd H1 a (exo a C none))
  (fun v H2 => v = .non ∧ ∃ (d : Addr) (fs : List (Str × V)), H2 a = some (exo a C (some d)) ∧ H2 d = some (exd d fs) ∧ H1 d = none ∧ Z (.ref C) (some d) (upd (del H2 a) d (.xd fs))) (fun _ _ _ => False)) : tMkO C sp dvs ta σ H Z := h
theorem i_mko1 {Z : XK} (s : IniSp sp C f y) (q : ∀ d H', H d = none → H' d = some (.xd [(f, y)]) → Same H H' → Z (.ref C) (some d) H') : ([y] : List V).length ≤ 1000 ∧ ∀ a, H a = none → sp (.ref a :: ([y] ++ [])) (upd H a (exo a C none))
  (fun v H2 => v = .non ∧ ∃ (d : Addr) (fs : List (Str × V)), H2 a = some (exo a C (some d)) ∧ H2 d = some (exd d fs) ∧ H d = none ∧ Z (.ref C) (some d) (upd (del H2 a) d (.xd fs))) (fun _ _ _ => False) := by
  refine ⟨by rw [List.length_singleton]; decide, fun a ha => s a _ _ _ upd_same fun dx h1 h2 => ⟨rfl, dx, [(f, y)], upd_same, ?_, ?_, ?_⟩⟩
  · rw [upd_ne h2, upd_same]
  · rw [upd_ne h2] at h1
    exact h1
  · rw [upd_ne h2] at h1
    refine q dx _ h1 upd_same fun b o e => ?_
    have n1 : b ≠ a := ne_of_none e ha
    have n2 : b ≠ dx := ne_of_none e h1
    rw [upd_ne n2, del_ne n1, upd_ne n1, upd_ne n2, upd_ne n1]
    exact e
/-! ### caught.field behind the suite -/
def tXfH (K : PySem.W.Frag) (f : Str) (te : TE) : TE := fun σ H Q => te σ H fun x H1 => ∃ (a C dd : Addr) (fs : List (Str × V)) (v : V), x = .ref a ∧ H1 a = some (exHO a (.ref C) (some dd)) ∧ H1 dd = some (.xd fs) ∧ ExcC K C ∧ PySem.W.findIn K (.ref C) f = some none ∧ fs.lookup f = some v ∧ Q v H1
theorem pe_xfH {X : Cx} (K : PySem.W.Frag) (eK : X.K = K) {e : Expr} {te : TE} {pos : Pos} {n : Str} (he : PE X e te) (hb : attributeBase e n X.env (eval e X.env) = eval e X.env := by rfl) : PE X (.Attribute e n pos) (tXfH K n te) := by
  subst eK
  refine ⟨fun pins s σ H Q I h => ?_⟩
  refine attr_of hb (thn (he.run pins s σ H _ I h) fun u s1 hh => ?_)
  obtain ⟨x, H1, I1, rx, a, C, dd, fs, v, ex, ha, hdd, T, hno, l, q⟩ := hh
  subst ex
  obtain rfl : u = Value.ref a := rx
  obtain ⟨oe, vs, hget, hz, hd⟩ := exHO_at I1.hok ha
  have hx : ObjOk X.prog X.w H1 s1.heap dd (.xd fs) := I1.hok dd _ hdd
  obtain ⟨mA, hns, hr⟩ := hx
  obtain ⟨od, ho, hl⟩ := lookIn_ns hns
  obtain ⟨u, hu, ru⟩ := RelO.some_of (v := v) (o := mA n) (by rw [← l]; exact hr n)
  have J : PySem.W.InstAt s1.heap a oe C (some od) := ⟨hget, hz.1, by unfold PySem.W.notCls; rw [hd] <;> rfl, by rw [hz.2]; exact ho⟩
  exact HandSPX.exc_get I1.kIn J T.hg T.hk T.hs (PySem.W.findObj_own T.hd hno rfl (by rw [hl, hu])) (handed_of ru) ⟨v, H1, I1.tok _, ru, q⟩
def XfR (K : PySem.W.Frag) (f : Str) (x : V) (H1 : Hp) (Q : VK) : Prop := ∃ (a C dd : Addr) (fs : List (Str × V)) (v : V), x = .ref a ∧ H1 a = some (exHO a (.ref C) (some dd)) ∧ H1 dd = some (.xd fs) ∧ ExcC K C ∧ PySem.W.findIn K (.ref C) f = some none ∧ fs.lookup f = some v ∧ Q v H1
theorem i_xfH {te : TE} (h : te σ H fun x H1 => XfR K f x H1 Q) : tXfH K f te σ H Q := h
theorem i_xfR {a dd : Addr} {v : V} (h : H a = some (exHO a (.ref C) (some dd))) (h1 : H dd = some (.xd [(f, v)])) (T : ExcC K C) (n : PySem.W.findIn K (.ref C) f = some none) (q : Q v H) : XfR K f (.ref a) H Q :=
  ⟨a, C, dd, _, v, rfl, h, h1, T, n, by simp [List.lookup], q⟩
end
end Hf
/-! ## what is looked at: any data -/
namespace Hf
open PySem PySem.Spec PyProof.Rows L2
def isNumD : PyData → Bool
  | .int _ => true
  | _ => false
def isLstD : PyData → Bool
  | .list _ => true
  | _ => false
def isTupD : PyData → Bool
  | .tuple _ => true
  | _ => false
def areNumsD (n : Int) : PyData → Bool
  | .list ds => decide ((ds.length : Int) = n) && ds.all isNumD
  | _ => false
def isRuleD : List PyData → Bool
  | [.int a, .int _] => decide (1 ≤ a)
  | _ => false
def isMoreD : List PyData → Bool
  | [.int a, .int b] => decide (1 ≤ a) && (decide (0 - a ≤ b) && decide (b ≤ a))
  | _ => false
def isRowsD (f s : Int) : List PyData → Bool
  | [.list rs] => decide ((rs.length : Int) = f + 1) && rs.all (areNumsD (s + 1))
  | _ => false
/-- a field of the first word w and what stands behind it -/
def isFieldD (f s : Int) (w : Str) (ds : List PyData) : Bool :=
  if w = PySem.Str.ofString "more" then isMoreD ds else if w = PySem.Str.ofString "lead" then isRuleD ds else if w = PySem.Str.ofString "table" then isRowsD f s ds else false
def isFldT (f s : Int) : PyData → Bool
  | .tuple (.str w :: r) => isFieldD f s w r
  | _ => false
/-- which field is the first that is none -/
def badB (f s : Int) (ds : List PyData) : Option Int :=
  if f < 0 ∨ s < 0 ∨ 10 < f ∨ 10 < s ∨ ds.length < 1 ∨ 5 < ds.length then some (-1) else Option.map Int.ofNat (ds.findIdx? fun d => !isFldT f s d)
/-- what may stand in the place of a field -/
def FldIn (d : PyData) : Prop := ∃ w r, d = .tuple (.str w :: r) ∧ wid (.tuple r) ≤ 1000
def batT (f s : Int) (ds : List PyData) : PyData := .tuple [.int f, .int s, .list ds]
theorem all_num : ∀ ms : List Int, (ms.map PyData.int).all isNumD = true
  | [] => rfl
  | m :: ms => by
    rw [List.map_cons, List.all_cons, all_num ms]
    rfl
theorem nums_plan (ms : List Int) (n : Int) : areNumsD n (planD ms) = decide ((ms.length : Int) = n) := by
  rw [planD, areNumsD, List.length_map, all_num, Bool.and_true]
theorem str_ne1 : ¬ (PySem.Str.ofString "lead" = PySem.Str.ofString "more") := by decide +kernel
theorem str_ne2 : ¬ (PySem.Str.ofString "table" = PySem.Str.ofString "more") := by decide +kernel
theorem str_ne3 : ¬ (PySem.Str.ofString "table" = PySem.Str.ofString "lead") := by decide +kernel
theorem fld_ok {f s : Int} {fl : Fld} : isFldT f s (fldD fl) = true ↔ FldOk f s fl := by
  cases fl with
  | more w t => simp [fldD, isFldT, isFieldD, isMoreD, FldOk]
  | lead w t => simp [fldD, isFldT, isFieldD, isRuleD, FldOk, str_ne1]
  | tab rows =>
    simp only [fldD, isFldT, isFieldD, isRowsD, FldOk, if_neg str_ne2, if_neg str_ne3, if_true, List.length_map, Bool.and_eq_true, decide_eq_true_eq, List.all_map, List.all_eq_true, Function.comp, nums_plan]
theorem fld_in {f s : Int} {fl : Fld} (hf : f ≤ 10) (hs : s ≤ 10) (k : FldOk f s fl) : FldIn (fldD fl) := by
  have w := wid_fld hf hs k
  cases fl with
  | more w t => exact ⟨_, _, rfl, by simp [wid, widA]⟩
  | lead w t => exact ⟨_, _, rfl, by simp [wid, widA]⟩
  | tab rows =>
    refine ⟨_, _, rfl, ?_⟩
    simp only [fldD, wid, widA, List.length_cons, List.length_nil] at w ⊢
    omega
theorem bad_none {f s : Int} {ds : List PyData} : badB f s ds = none ↔ (0 ≤ f ∧ f ≤ 10) ∧ (0 ≤ s ∧ s ≤ 10) ∧ (1 ≤ ds.length ∧ ds.length ≤ 5) ∧ ∀ d ∈ ds, isFldT f s d = true := by
  unfold badB
  split
  · simp
    omega
  · rename_i c
    rw [Option.map_eq_none_iff, List.findIdx?_eq_none_iff]
    refine ⟨fun h => ⟨by omega, by omega, by omega, fun d hd => ?_⟩, fun h d hd => ?_⟩
    · simpa using h d hd
    · simpa using h.2.2.2 d hd
theorem bad_ok {f s : Int} {fs : List Fld} : badB f s (fs.map fldD) = none ↔ BatOk f s fs := by
  rw [bad_none]
  constructor
  · rintro ⟨h1, h2, h3, h4⟩
    refine ⟨h1, h2, by rw [List.length_map] at h3; exact h3, fun x hx => fld_ok.mp (h4 _ (List.mem_map_of_mem hx))⟩
  · intro h
    refine ⟨h.hf, h.hs, by rw [List.length_map]; exact h.ne, fun d hd => ?_⟩
    obtain ⟨x, hx, rfl⟩ := List.mem_map.mp hd
    exact fld_ok.mpr (h.ok x hx)
theorem bat_in {f s : Int} {fs : List Fld} (h : BatOk f s fs) : ∀ d ∈ fs.map fldD, FldIn d := fun d hd => by
  obtain ⟨x, hx, rfl⟩ := List.mem_map.mp hd
  exact fld_in h.hf.2 h.hs.2 (h.ok x hx)
theorem bad_at {f s : Int} {ds : List PyData} (h : 0 ≤ f ∧ f ≤ 10 ∧ 0 ≤ s ∧ s ≤ 10 ∧ 1 ≤ ds.length ∧ ds.length ≤ 5) {k : Nat} {d : PyData} (hd : ds[k]? = some d) (h1 : isFldT f s d = false) (h2 : ∀ (j : Nat) e, j < k → ds[j]? = some e → isFldT f s e = true) : badB f s ds = some (k : Int) := by
  unfold badB
  rw [if_neg (by omega)]
  have hk := (List.getElem?_eq_some_iff.mp hd).1
  have : ds.findIdx? (fun d => !isFldT f s d) = some k := by
    rw [List.findIdx?_eq_some_iff_getElem]
    refine ⟨hk, ?_, fun j hj => ?_⟩
    · rw [(List.getElem?_eq_some_iff.mp hd).2, h1]
      rfl
    · rw [h2 j _ hj (List.getElem?_eq_getElem (by omega))]
      simp
  rw [this]
  rfl
section
variable {H : Hp} {v : V}
theorem Dq.tup_inv {ds : List PyData} (h : Dq H v (.tuple ds)) : ∃ a xs, v = .ref a ∧ H a = some (.tup xs) ∧ DqAll H xs ds := Dq.tuple_inv h
theorem batT_inv {f s : Int} {ds : List PyData} (h : Dq H v (batT f s ds)) : ∃ a p xs, v = .ref a ∧ H a = some (.tup [.int f, .int s, .ref p]) ∧ H p = some (.lst xs) ∧ DqAll H xs ds := by
  obtain ⟨a, xs, rfl, h1, h2⟩ := Dq.tuple_inv h
  cases h2 with
  | cons a b =>
    cases b with
    | cons c d =>
      cases d with
      | cons e f =>
        cases f
        obtain rfl := Dq.int_inv a
        obtain rfl := Dq.int_inv c
        obtain ⟨p, ys, rfl, h3, h4⟩ := Dq.list_inv e
        exact ⟨_, p, ys, rfl, h1, h3, h4⟩
theorem batT_mk {a p : Addr} {xs : List V} {f s : Int} {ds : List PyData} (h : H a = some (.tup [.int f, .int s, .ref p])) (h1 : H p = some (.lst xs)) (h2 : DqAll H xs ds) : Dq H (.ref a) (batT f s ds) := .tup h (.cons (.int _) (.cons (.int _) (.cons (.lst h1 h2) .nil)))
theorem fldT_inv {w : Str} {r : List PyData} (h : Dq H v (.tuple (.str w :: r))) : ∃ a xs, v = .ref a ∧ H a = some (.tup (.str w :: xs)) ∧ DqAll H xs r := by
  obtain ⟨a, xs, rfl, h1, h2⟩ := Dq.tuple_inv h
  cases h2 with
  | cons a b =>
    obtain rfl := Dq.str_inv a
    exact ⟨_, _, rfl, h1, b⟩
end
theorem atI_0 {x : V} {xs : List V} : atI (x :: xs) 0 = some x := atI_nat (j := 0) rfl
theorem atI_1 {x y : V} {xs : List V} : atI (x :: y :: xs) 1 = some y := atI_nat (j := 1) rfl
theorem atI_2 {x y z : V} {xs : List V} : atI (x :: y :: z :: xs) 2 = some z := atI_nat (j := 2) rfl
theorem i_ix3S {K : PySem.W.Frag} {H : Hp} {Q : VK} {p : Addr} {i : Int} {y1 y2 y3 : Str} (h : SqL K H p [.str y1, .str y2, .str y3]) (h0 : 0 ≤ i) (h1 : i < 3) (q : ∀ v, v = y1 ∨ v = y2 ∨ v = y3 → Q (.str v) H) : rIxL K (.ref p) (.int i) H Q := by
  obtain rfl | rfl | rfl : i = 0 ∨ i = 1 ∨ i = 2 := by omega
  · exact i_ixL h atI_0 (q _ (.inl rfl))
  · exact i_ixL h atI_1 (q _ (.inr (.inl rfl)))
  · exact i_ixL h atI_2 (q _ (.inr (.inr rfl)))
theorem bnot {b : Bool} (h : (!b) = true) : b = false := by simpa using h
theorem bnot' {b : Bool} (h : (!b) = false) : b = true := by simpa using h
theorem num_inv {d : PyData} (h : isNumD d = true) : ∃ x, d = .int x := by
  cases d <;> simp [isNumD] at h ⊢
theorem rule_inv {ds : List PyData} (h : isRuleD ds = true) : ∃ x y, ds = [.int x, .int y] ∧ 1 ≤ x := by
  unfold isRuleD at h
  split at h
  · exact ⟨_, _, rfl, of_decide_eq_true h⟩
  · cases h
theorem rule_short1 {d : PyData} : isRuleD [d] = false := by simp [isRuleD]
theorem rule_long {a b c : PyData} {ds : List PyData} : isRuleD (a :: b :: c :: ds) = false := by simp [isRuleD]
theorem rule_no1 {a b : PyData} (h : isNumD a = false) : isRuleD [a, b] = false := by
  cases a <;> simp [isRuleD, isNumD] at h ⊢
theorem rule_no2 {a b : PyData} (h : isNumD b = false) : isRuleD [a, b] = false := by
  cases b <;> simp [isRuleD, isNumD] at h ⊢
theorem more_rule {ds : List PyData} (h : isRuleD ds = false) : isMoreD ds = false := by
  unfold isMoreD
  split
  · rw [isRuleD] at h
    rw [h]
    rfl
  · rfl
theorem more_yes {x y : Int} (h : 1 ≤ x) (h2 : 0 - x ≤ y) : isMoreD [.int x, .int y] = decide (y ≤ x) := by
  rw [isMoreD, decide_eq_true h, decide_eq_true h2, Bool.true_and, Bool.true_and]
theorem more_no {x y : Int} (h2 : ¬ 0 - x ≤ y) : isMoreD [.int x, .int y] = false := by
  rw [isMoreD, decide_eq_false h2, Bool.false_and, Bool.and_false]
theorem rows_long {f s : Int} {a b : PyData} {ds : List PyData} : isRowsD f s (a :: b :: ds) = false := by simp [isRowsD]
theorem rows_one {f s : Int} {d : PyData} (h : isLstD d = false) : isRowsD f s [d] = false := by
  cases d <;> simp [isRowsD, isLstD] at h ⊢
theorem rows_no {f s : Int} {ds : List PyData} (h : ¬ (ds.length : Int) = f + 1) : isRowsD f s [.list ds] = false := by
  rw [isRowsD, decide_eq_false h, Bool.false_and]
theorem rows_yes {f s : Int} {ds : List PyData} (h : (ds.length : Int) = f + 1) : isRowsD f s [.list ds] = ds.all (areNumsD (s + 1)) := by
  rw [isRowsD, decide_eq_true h, Bool.true_and]
theorem dq_two_ints {H : Hp} {xs : List V} {x y : Int} (h : DqAll H xs [.int x, .int y]) : xs = [.int x, .int y] := DqAll.ints (ms := [x, y]) h
/-! ### how many are kept: none, or some -/
section
variable {σ : L2.St} {H H1 : Hp} {Q : VK} {K : PySem.W.Frag} {D l : Addr} {g : TG} {tt : TT} {te : TE} {vs : List Nat} {xs : List V} {Qd : Hp → Prop}
theorem lcL_fl (b : Nat → Bool) (nD : H1 D = none) (hn : xs.length ≤ 1000000) (hx : SqL K H1 l xs)
    (hs : ∀ (i : Nat) (x : V) H (Z : VK) (Y : Hp → Prop), xs[i]? = some x → Same H1 H → (∀ v H4, b i = true → Same H H4 → Z v H4) → (∀ H4, b i = false → Same H H4 → Y H4) → LcTurn g tt te vs σ x H Z Y)
    (hd : ∀ acc H, H D = some (.lst acc) → Same H1 H → ((acc.length : Int) = 0 ↔ ∀ i, i < xs.length → b i = false) → acc.length ≤ xs.length → Qd H) :
    ∃ W : Nat → Nat → Hp → Prop, (∃ m, W 0 m (upd H1 D (.lst []))) ∧ ∀ i m H, W i m H →
      ((Itl K l).stop i H ∧ Qd H) ∨ ((Itl K l).go i H ∧ ∃ Nx : Hp → Prop, (∀ H', Nx H' → ∃ m', m' < m ∧ W (i + 1) m' H') ∧ ∀ x H', (Itl K l).yld i H x H' → g x (wipe σ vs) H' fun σ2 H2 => wipe σ2 vs = wipe σ vs ∧ tt σ2 H2 fun b H3 =>
        if b = true then te σ2 H3 fun y H4 => ∃ acc, H4 D = some (.lst acc) ∧ acc.length < sizeLine ∧ Nx (upd H4 D (.lst (acc ++ [y]))) else Nx H3) := by
  refine lcL (xs := xs) (fun i acc H => Same H1 H ∧ acc.length ≤ i ∧ (acc = [] ↔ ∀ j, j < i → b j = false)) nD ⟨Same.new nD, Nat.le_refl _, by simp⟩ (fun i acc H _ q _ => q.1.seq hx) ?_ ?_
  · rintro i x acc H Z Y hi ⟨r1, r2, r3⟩ hD hz hy
    have hi' : i < xs.length := (List.getElem?_eq_some_iff.mp hi).1
    refine hs i x H Z Y hi r1 (fun v H4 e s => hz _ _ (s _ _ hD) (sz4' (by omega)) ⟨Same.mut (r1.trans s) nD, by rw [List.length_append]; show _ + 1 ≤ _; omega, ⟨fun q => by simp at q, fun q => ?_⟩⟩) (fun H4 e s => hy _ (s _ _ hD) ⟨r1.trans s, by omega, ?_⟩)
    · rw [q i (by omega)] at e
      cases e
    · rw [r3]
      refine ⟨fun q j hj => ?_, fun q j hj => q j (by omega)⟩
      by_cases c : j = i
      · rw [c]; exact e
      · exact q j (by omega)
  · rintro acc H ⟨r1, r2, r3⟩ hD
    refine hd acc H hD r1 ?_ r2
    rw [← r3, ← List.length_eq_zero_iff]
    omega
end
theorem all_at {α : Type} {p : α → Bool} {xs : List α} : xs.all p = true ↔ ∀ (i : Nat) (x : α), xs[i]? = some x → p x = true := by
  rw [List.all_eq_true]
  refine ⟨fun h i x e => h x (List.mem_of_getElem? e), fun h x hx => ?_⟩
  obtain ⟨i, hi, rfl⟩ := List.mem_iff_getElem.mp hx
  exact h i _ (List.getElem?_eq_getElem hi)
/-- the end of `len([.. if not p]) == 0` -/
theorem len0_all {p : PyData → Bool} {ds : List PyData} {n : Nat} {m : Nat} (e : n = ds.length) (h : (m : Int) = 0 ↔ ∀ i, i < n → (!((ds[i]?).map p).getD true) = false) : decide ((m : Int) = 0) = ds.all p := by
  subst e
  rw [Bool.eq_iff_iff, decide_eq_true_iff, h, all_at]
  refine ⟨fun q i x e => ?_, fun q i hi => ?_⟩
  · have := q i (List.getElem?_eq_some_iff.mp e).1
    rw [e] at this
    simpa using this
  · rw [List.getElem?_eq_getElem hi]
    simp [q i _ (List.getElem?_eq_getElem hi)]
end Hf
/-! ### what may be copied and bent: words with numbers, tables of rows -/
namespace Hf
open PySem PySem.Spec PyProof.Rows L2
def CpOk (d : PyData) : Prop := (∃ (w : Str) (ms : List Int), d = .tuple (.str w :: ms.map PyData.int) ∧ ¬ w = PySem.Str.ofString "table" ∧ PyData.strOk w = true ∧ ms.length ≤ 4) ∨ (∃ rows : List (List Int), d = fldD (.tab rows) ∧ rows.length ≤ 20 ∧ ∀ r ∈ rows, r.length ≤ 20)
theorem cp_word {w : Str} (ms : List Int) (h : ¬ w = PySem.Str.ofString "table") (s : PyData.strOk w = true) (l : ms.length ≤ 4) : CpOk (.tuple (.str w :: ms.map PyData.int)) := .inl ⟨w, ms, rfl, h, s, l⟩
theorem cp_tab {rows : List (List Int)} (h : rows.length ≤ 20) (h2 : ∀ r ∈ rows, r.length ≤ 20) : CpOk (fldD (.tab rows)) := .inr ⟨rows, rfl, h, h2⟩
theorem cp_fld {f s : Int} {fl : Fld} (hf : f ≤ 10) (hs : s ≤ 10) (k : FldOk f s fl) : CpOk (fldD fl) := by
  cases fl with
  | more w t => exact cp_word [w, t] (by decide +kernel) (by decide +kernel) (by simp)
  | lead w t => exact cp_word [w, t] (by decide +kernel) (by decide +kernel) (by simp)
  | tab rows =>
    obtain ⟨h1, h2⟩ := k
    exact cp_tab (by omega) fun r hr => by have := h2 r hr; omega
theorem word_less {f s : Int} {w0 : Str} (hw : w0 = PySem.Str.ofString "more" ∨ w0 = PySem.Str.ofString "lead") {z : Int} {r : List PyData} (hz : z < 1) : isFieldD f s w0 (.int z :: r) = false := by
  rcases hw with rfl | rfl
  · rw [isFieldD, if_pos rfl]
    unfold isMoreD
    split
    · rename_i e; cases e
      rw [decide_eq_false (by omega)]
      rfl
    · rfl
  · rw [isFieldD, if_neg str_ne1, if_pos rfl]
    unfold isRuleD
    split
    · rename_i e; cases e
      exact decide_eq_false (by omega)
    · rfl
theorem word_len {f s : Int} {w0 : Str} (hw : w0 = PySem.Str.ofString "more" ∨ w0 = PySem.Str.ofString "lead") {ds : List PyData} (hl : ds.length ≠ 2) : isFieldD f s w0 ds = false := by
  rcases hw with rfl | rfl
  · rw [isFieldD, if_pos rfl]
    unfold isMoreD
    split
    · exact absurd rfl hl
    · rfl
  · rw [isFieldD, if_neg str_ne1, if_pos rfl]
    unfold isRuleD
    split
    · exact absurd rfl hl
    · rfl
theorem fld_no {f s : Int} {fl : Fld} (h : ¬ FldOk f s fl) : isFldT f s (fldD fl) = false := by
  cases e : isFldT f s (fldD fl) with
  | false => rfl
  | true => exact absurd (fld_ok.mp e) h
theorem CpOk.fin {d : PyData} (h : CpOk d) : FldIn d := by
  rcases h with ⟨w, ms, rfl, _, _, h⟩ | ⟨rows, rfl, h1, h2⟩
  · refine ⟨w, _, rfl, ?_⟩
    rw [wid, wid_ints, List.length_map]
    omega
  · have := wid_rows (k := 20) rows h1 h2
    refine ⟨_, _, rfl, ?_⟩
    simp only [wid, widA, List.length_cons, List.length_nil, List.length_map] at this ⊢
    omega
theorem CpOk.lay {d : PyData} (h : CpOk d) : d.canLay0 = true := by
  rcases h with ⟨w, ms, rfl, _, s, _⟩ | ⟨rows, rfl, _, _⟩
  · simp [PyData.canLay0, PyData.canLayAll0, s, canLay_ints]
  · exact lay_fld _
theorem CpOk.dep {d : PyData} (h : CpOk d) : dep d ≤ 3 := by
  rcases h with ⟨w, ms, rfl, _, _, _⟩ | ⟨rows, rfl, _, _⟩
  · simp [Hf.dep, depA, dep_ints]
  · exact dep_fld _
theorem shaped_batT {f s : Int} {ds : List PyData} (h : ∀ d ∈ ds, CpOk d) : SeqAt.shaped (batT f s ds) = true := by
  have l : PyData.canLayAll0 ds = true := lay_all fun d hd => (h d hd).lay
  have e : depA ds ≤ 3 := depA_le fun d hd => (h d hd).dep
  refine shaped_of (by simp [batT, PyData.canLay0, PyData.canLayAll0, l]) ?_
  simp only [batT, Hf.dep, depA]
  omega
end Hf
namespace Hf
open PySem PySem.Spec PyProof.Rows L2
theorem i_nin {K : PySem.W.Frag} {H : Hp} {Q : VK} {p : Addr} {x : V} {xs : List V} {b : Bool} (h : SqL K H p xs) (f : flatV x = true) (g : xs.all flatV = true) (e : inV x xs = b) (q : Q (.bl (!b)) H) : rIn K true x (.ref p) H Q := ⟨p, xs, rfl, .inl h, f, g, by rw [e]; exact q⟩
theorem i_ninT {K : PySem.W.Frag} {H : Hp} {Q : VK} {p : Addr} {x : V} {xs : List V} {b : Bool} (h : SqT K H p xs) (f : flatV x = true) (g : xs.all flatV = true) (e : inV x xs = b) (q : Q (.bl (!b)) H) : rIn K true x (.ref p) H Q := ⟨p, xs, rfl, .inr h, f, g, by rw [e]; exact q⟩
theorem i_neDe {K : PySem.W.Frag} {H : Hp} {Q : VK} {v w : V} {d e : PyData} (h1 : Dq H v d) (h2 : Dq H w e) (s1 : SeqAt.shaped d = true) (s2 : SeqAt.shaped e = true) (q : Q (.bl (!PyData.eqv d e)) H) : rNeD K v w H Q := ⟨d, e, h1.dp, h2.dp, s1, s2, q⟩
end Hf
/-! ## owned things, more of them -/
namespace Hf
open PySem PySem.Spec PyProof.Rows L2
section
variable {σ : L2.St} {H H1 : Hp} {Q : VK} {K : PySem.W.Frag} {D a l : Addr} {wi : TI} {g : TG} {tt : TT} {te : TE} {vs : List Nat} {lo : Int} {n : Nat} {xs : List V} {Qd : Hp → Prop}
theorem lcR_own (f : Nat → PyData) (nD : H1 D = none) (hn : n ≤ 1000000)
    (hs : ∀ (i : Nat) H (Z : VK) (Y : Hp → Prop), i < n → Same H1 H → (∀ v S H4, OwN H H4 v (f i) S → Same H H4 → Z v H4) → LcTurn g tt te vs σ (.int (lo + i)) H Z Y)
    (hd : ∀ S H, OwN H1 H (.ref D) (.list ((List.range n).map f)) S → Same H1 H → Qd H) :
    ∃ W : Nat → Nat → Hp → Prop, (∃ m, W 0 m (upd H1 D (.lst []))) ∧ ∀ i m H, W i m H →
      ((Itr lo n).stop i H ∧ Qd H) ∨ ((Itr lo n).go i H ∧ ∃ Nx : Hp → Prop, (∀ H', Nx H' → ∃ m', m' < m ∧ W (i + 1) m' H') ∧ ∀ x H', (Itr lo n).yld i H x H' → g x (wipe σ vs) H' fun σ2 H2 => wipe σ2 vs = wipe σ vs ∧ tt σ2 H2 fun b H3 =>
        if b = true then te σ2 H3 fun y H4 => ∃ acc, H4 D = some (.lst acc) ∧ acc.length < sizeLine ∧ Nx (upd H4 D (.lst (acc ++ [y]))) else Nx H3) := by
  refine lcR (fun i acc H => acc.length = i ∧ Same H1 H ∧ ∃ S, OwAll H acc ((List.range i).map f) S ∧ S.Nodup ∧ D ∉ S ∧ ∀ b, b ∈ S → H1 b = none) nD ⟨rfl, Same.new nD, [], .nil, List.nodup_nil, by simp, nofun⟩ ?_ ?_
  · rintro i acc H Z Y hi ⟨h1, h2, S, h3, h4, h5, h6⟩ hD hz _
    refine hs i H Z Y hi h2 fun v S' H4 k1 k2 => ?_
    have hDS : D ∉ S' := fun z => by
      have := k1.nw D z
      rw [hD] at this
      cases this
    have kp : Kp [D] H4 (upd H4 D (.lst (acc ++ [v]))) := Kp.upd (by simp) Kp.refl
    have ht : ∀ b ys, b ∈ [D] → H4 b ≠ some (.tup ys) := fun b ys hb e => by
      rw [List.mem_singleton.mp hb, k2 _ _ hD] at e
      cases e
    have hd1 : ∀ b, b ∈ S → b ∉ [D] := fun b hb hb' => h5 (by rw [← List.mem_singleton.mp hb']; exact hb)
    have hd2 : ∀ b, b ∈ S' → b ∉ [D] := fun b hb hb' => hDS (by rw [← List.mem_singleton.mp hb']; exact hb)
    refine hz _ _ (k2 _ _ hD) (sz4' (by omega)) ⟨by rw [List.length_append, h1]; rfl, Same.mut (h2.trans k2) nD, S ++ S', ?_, ?_, ?_, ?_⟩
    · rw [List.range_succ, List.map_append]
      exact OwAll.snoc (OwAll.kp ht kp (h3.same k2) hd1) (Ow.kp ht kp k1.ow hd2)
    · rw [List.nodup_append]
      refine ⟨h4, k1.nd, fun b hb c hc e => ?_⟩
      subst e
      obtain ⟨ys, e'⟩ := h3.lists b hb
      rw [k1.nw b hc] at e'
      cases e'
    · intro z
      rcases List.mem_append.mp z with z | z
      · exact h5 z
      · exact hDS z
    · intro b hb
      rcases List.mem_append.mp hb with z | z
      · exact h6 b z
      · exact h2.free (k1.nw b z)
  · rintro acc H ⟨h1, h2, S, h3, h4, h5, h6⟩ hD
    exact hd (D :: S) H ⟨.lst hD h3, List.nodup_cons.mpr ⟨h5, h4⟩, fun b hb => by
      rcases List.mem_cons.mp hb with z | z
      · rw [z]; exact nD
      · exact h6 b z⟩ h2
theorem lcT_own (f : Nat → PyData) (nD : H1 D = none) (hn : xs.length ≤ 1000000) (hx : SqT K H1 l xs)
    (hs : ∀ (i : Nat) (x : V) H (Z : VK) (Y : Hp → Prop), xs[i]? = some x → Same H1 H → (∀ v S H4, OwN H H4 v (f i) S → Same H H4 → Z v H4) → LcTurn g tt te vs σ x H Z Y)
    (hd : ∀ S H, OwN H1 H (.ref D) (.list ((List.range xs.length).map f)) S → Same H1 H → Qd H) :
    ∃ W : Nat → Nat → Hp → Prop, (∃ m, W 0 m (upd H1 D (.lst []))) ∧ ∀ i m H, W i m H →
      ((Itt K l).stop i H ∧ Qd H) ∨ ((Itt K l).go i H ∧ ∃ Nx : Hp → Prop, (∀ H', Nx H' → ∃ m', m' < m ∧ W (i + 1) m' H') ∧ ∀ x H', (Itt K l).yld i H x H' → g x (wipe σ vs) H' fun σ2 H2 => wipe σ2 vs = wipe σ vs ∧ tt σ2 H2 fun b H3 =>
        if b = true then te σ2 H3 fun y H4 => ∃ acc, H4 D = some (.lst acc) ∧ acc.length < sizeLine ∧ Nx (upd H4 D (.lst (acc ++ [y]))) else Nx H3) := by
  refine lcT (xs := xs) (fun i acc H => acc.length = i ∧ Same H1 H ∧ ∃ S, OwAll H acc ((List.range i).map f) S ∧ S.Nodup ∧ D ∉ S ∧ ∀ b, b ∈ S → H1 b = none) nD ⟨rfl, Same.new nD, [], .nil, List.nodup_nil, by simp, nofun⟩ (fun i acc H _ q _ => Same.seqT q.2.1 hx) ?_ ?_
  · rintro i x acc H Z Y hi ⟨h1, h2, S, h3, h4, h5, h6⟩ hD hz _
    have hi' : i < xs.length := (List.getElem?_eq_some_iff.mp hi).1
    refine hs i x H Z Y hi h2 fun v S' H4 k1 k2 => ?_
    have hDS : D ∉ S' := fun z => by
      have := k1.nw D z
      rw [hD] at this
      cases this
    have kp : Kp [D] H4 (upd H4 D (.lst (acc ++ [v]))) := Kp.upd (by simp) Kp.refl
    have ht : ∀ b ys, b ∈ [D] → H4 b ≠ some (.tup ys) := fun b ys hb e => by
      rw [List.mem_singleton.mp hb, k2 _ _ hD] at e
      cases e
    have hd1 : ∀ b, b ∈ S → b ∉ [D] := fun b hb hb' => h5 (by rw [← List.mem_singleton.mp hb']; exact hb)
    have hd2 : ∀ b, b ∈ S' → b ∉ [D] := fun b hb hb' => hDS (by rw [← List.mem_singleton.mp hb']; exact hb)
    refine hz _ _ (k2 _ _ hD) (sz4' (by omega)) ⟨by rw [List.length_append, h1]; rfl, Same.mut (h2.trans k2) nD, S ++ S', ?_, ?_, ?_, ?_⟩
    · rw [List.range_succ, List.map_append]
      exact OwAll.snoc (OwAll.kp ht kp (h3.same k2) hd1) (Ow.kp ht kp k1.ow hd2)
    · rw [List.nodup_append]
      refine ⟨h4, k1.nd, fun b hb c hc e => ?_⟩
      subst e
      obtain ⟨ys, e'⟩ := h3.lists b hb
      rw [k1.nw b hc] at e'
      cases e'
    · intro z
      rcases List.mem_append.mp z with z | z
      · exact h5 z
      · exact hDS z
    · intro b hb
      rcases List.mem_append.mp hb with z | z
      · exact h6 b z
      · exact h2.free (k1.nw b z)
  · rintro acc H ⟨h1, h2, S, h3, h4, h5, h6⟩ hD
    exact hd (D :: S) H ⟨.lst hD h3, List.nodup_cons.mpr ⟨h5, h4⟩, fun b hb => by
      rcases List.mem_cons.mp hb with z | z
      · rw [z]; exact nD
      · exact h6 b z⟩ h2
end
/-- a tuple of flat things and a last owned one -/
theorem OwN.bat {H H1 : Hp} {v : V} {f s : Int} {d : PyData} {S : List Addr} {q : Addr} (h : OwN H H1 v d S) (hq : H1 q = none) : OwN H (upd H1 q (.tup [.int f, .int s, v])) (.ref q) (.tuple [.int f, .int s, d]) S := by
  refine ⟨?_, h.nd, h.nw⟩
  have := Ow.tup (H := upd H1 q (.tup [.int f, .int s, v])) (a := q) upd_same (OwAll.cons (S := []) (.int f) (OwAll.cons (S := []) (.int s) (OwAll.cons (h.ow.same (Same.new hq)) .nil)))
  rw [List.append_nil] at this
  exact this
theorem OwN.tab {H H1 : Hp} {v : V} {w : Str} {d : PyData} {S : List Addr} {q : Addr} (h : OwN H H1 v d S) (hq : H1 q = none) : OwN H (upd H1 q (.tup [.str w, v])) (.ref q) (.tuple [.str w, d]) S := by
  refine ⟨?_, h.nd, h.nw⟩
  have := Ow.tup (H := upd H1 q (.tup [.str w, v])) (a := q) upd_same (OwAll.cons (S := []) (.str w) (OwAll.cons (h.ow.same (Same.new hq)) .nil))
  rw [List.append_nil] at this
  exact this
theorem own_word {H H1 : Hp} {w : Str} {a b : Int} {q : Addr} : OwN H (upd H1 q (.tup [.str w, .int a, .int b])) (.ref q) (.tuple [.str w, .int a, .int b]) [] :=
  ⟨Ow.tup upd_same (OwAll.cons (S := []) (.str w) (OwAll.cons (S := []) (.int a) (OwAll.cons (S := []) (.int b) .nil))), List.nodup_nil, nofun⟩
theorem own_list {H : Hp} {D : Addr} {H1 : Hp} {r : List Int} (hD : H1 D = some (.lst (r.map V.int))) (n : H D = none) : OwN H H1 (.ref D) (planD r) [D] :=
  ⟨.lst hD (own_ints _), by simp, fun b hb => by rw [List.mem_singleton.mp hb]; exact n⟩
theorem DqAll.append {H : Hp} : ∀ {vs ws : List V} {ds es : List PyData}, DqAll H vs ds → DqAll H ws es → DqAll H (vs ++ ws) (ds ++ es)
  | _, _, _, _, .nil, h => h
  | _, _, _, _, .cons h q, g => .cons h (DqAll.append q g)
theorem DqAll.rep6 {H : Hp} {vs : List V} {ds : List PyData} (h : DqAll H vs ds) : ∀ n : Nat, DqAll H (List.replicate n vs).flatten (List.replicate n ds).flatten
  | 0 => .nil
  | n + 1 => by
    rw [List.replicate_succ, List.replicate_succ, List.flatten_cons, List.flatten_cons]
    exact h.append (DqAll.rep6 h n)
theorem flat_len {α : Type} {xs : List α} : ∀ n : Nat, (List.replicate n xs).flatten.length = n * xs.length
  | 0 => by simp
  | n + 1 => by
    rw [List.replicate_succ, List.flatten_cons, List.length_append, flat_len n, Nat.succ_mul]
    omega
theorem flat_mem {α : Type} {xs : List α} {x : α} {n : Nat} (h : x ∈ (List.replicate n xs).flatten) : x ∈ xs := by
  obtain ⟨l, h1, h2⟩ := List.mem_flatten.mp h
  rw [(List.mem_replicate.mp h1).2] at h2
  exact h2
theorem ne_hid {a b : Addr} {H : Hp} {o : HO} (h : hid [a] H b = some o) : b ≠ a := fun e => by
  rw [e, hid_in (by simp)] at h
  cases h
theorem DqAll.set {H : Hp} : ∀ {vs : List V} {ds : List PyData} {w : V} {d : PyData}, DqAll H vs ds → Dq H w d → ∀ n : Nat, DqAll H (vs.set n w) (ds.set n d)
  | _, _, _, _, .nil, _, _ => .nil
  | _, _, _, _, .cons _ q, g, 0 => .cons g q
  | _, _, _, _, .cons h q, g, n + 1 => .cons h (DqAll.set q g n)
theorem same_hidS {G H : Hp} {S : List Addr} (s : Same G H) (h : ∀ b, b ∈ S → G b = none) : Same G (hid S H) := fun b o e => by
  have n : b ∉ S := fun z => by rw [h b z] at e; cases e
  rw [hid_out n]
  exact s b o e
/-- more is hidden: what is new -/
theorem hid_more {H H1 : Hp} {R : Addr} {S : List Addr} (s : Same H H1) (n : H R = none) : Same (hid S H) (hid (R :: S) H1) := fun b o h => by
  by_cases c : b ∈ S
  · rw [hid_in c] at h
    cases h
  · rw [hid_out c] at h
    have : b ∉ R :: S := fun z => by
      rcases List.mem_cons.mp z with e | e
      · rw [e, n] at h; cases h
      · exact c e
    rw [hid_out this]
    exact s b o h
theorem hid_less {H : Hp} {S T : List Addr} (h : ∀ b, b ∈ T → b ∈ S) : Same (hid S H) (hid T H) := fun b o e => by
  by_cases c : b ∈ S
  · rw [hid_in c] at e
    cases e
  · rw [hid_out c] at e
    rw [hid_out fun z => c (h b z)]
    exact e
theorem noMA_every : ∀ {ds : List PyData}, (∀ d ∈ ds, noM d = true) → noMA ds = true
  | [], _ => by simp [noMA]
  | d :: ds, h => by
    rw [noMA, h d List.mem_cons_self, noMA_every fun e he => h e (List.mem_cons_of_mem _ he)]
    rfl
theorem noM_int (r : List Int) : noMA (r.map PyData.int) = true := noMA_every fun d hd => by
  obtain ⟨x, _, rfl⟩ := List.mem_map.mp hd
  simp [noM]
theorem noM_fld (fl : Fld) : noM (fldD fl) = true := by
  cases fl with
  | more w t => simp [fldD, noM, noMA, mkS]; decide +kernel
  | lead w t => simp [fldD, noM, noMA, mkS]; decide +kernel
  | tab rows =>
    have : noMA (rows.map planD) = true := noMA_every fun d hd => by
      obtain ⟨x, _, rfl⟩ := List.mem_map.mp hd
      exact noM_int x
    simp [fldD, noM, noMA, mkS, this]
    decide +kernel
theorem bat_facts {f s : Int} {fs : List Fld} (k : BatOk f s fs) : (batD f s fs).canLay0 = true ∧ noM (batD f s fs) = true ∧ (dep (batD f s fs) < 12 ∧ 1 ≤ dep (batD f s fs) ∧ wid (batD f s fs) ≤ 1000) := by
  have h2 : noM (batD f s fs) = true := by
    have : noMA (fs.map fldD) = true := noMA_every fun d hd => by
      obtain ⟨x, _, rfl⟩ := List.mem_map.mp hd
      exact noM_fld x
    simp [batD, noM, noMA, this]
  have h3 := dep_bat f s fs
  have h4 := wid_bat k.hf.2 k.hs.2 (by have := k.ne; omega) k.ok
  refine ⟨lay_bat f s fs, h2, by omega, ?_, by omega⟩
  simp only [batD, dep]
  omega
theorem Dq.word {H : Hp} {t : Addr} {w : Str} {k : Int} (h : H t = some (.tup [.str w, .int k])) : Dq H (.ref t) (.tuple [.str w, .int k]) := .tup h (.cons (.str w) (.cons (.int k) .nil))
theorem Dq.word0 {H : Hp} {t : Addr} {w : Str} (h : H t = some (.tup [.str w, .non])) : Dq H (.ref t) (.tuple [.str w, .none]) := .tup h (.cons (.str w) (.cons .non .nil))
theorem shaped_word0 {w : Str} (h : PyData.strOk w = true) : SeqAt.shaped (.tuple [.str w, .none]) = true := by
  refine shaped_of (by simp [PyData.canLay0, PyData.canLayAll0, h]) ?_
  simp [dep, depA]
theorem shaped_word {w : Str} {k : Int} (h : PyData.strOk w = true) : SeqAt.shaped (.tuple [.str w, .int k]) = true := by
  refine shaped_of (by simp [PyData.canLay0, PyData.canLayAll0, h]) ?_
  simp [dep, depA]
theorem OwN.tupOf {H H1 : Hp} {D t : Addr} {xs : List V} {ds : List PyData} {S : List Addr} (h : OwN H H1 (.ref D) (.list ds) S) (hD : H1 D = some (.lst xs)) (ht : H1 t = none) : ∃ S', OwN H (upd H1 t (.tup xs)) (.ref t) (.tuple ds) S' := by
  obtain ⟨o, nd, nw⟩ := h
  cases o with
  | @lst _ ys _ S' h1 h2 =>
    rw [h1] at hD
    cases hD
    exact ⟨S', .tup upd_same (h2.same (Same.new ht)), (List.nodup_cons.mp nd).2, fun b hb => nw b (List.mem_cons_of_mem _ hb)⟩
mutual
theorem Ow.hid {H : Hp} {T : List Addr} (ht : ∀ b xs, b ∈ T → H b ≠ some (.tup xs)) : ∀ {v : V} {d : PyData} {S : List Addr}, Ow H v d S → (∀ b, b ∈ S → b ∉ T) → Dq (hid T H) v d
  | _, _, _, .non, _ => .non
  | _, _, _, .bl b, _ => .bl b
  | _, _, _, .int i, _ => .int i
  | _, _, _, .str x, _ => .str x
  | _, _, _, .lst h q, n => .lst (hid_lk (n _ List.mem_cons_self) h) (OwAll.hid ht q fun b hb => n b (List.mem_cons_of_mem _ hb))
  | _, _, _, .tup h q, n => .tup (hid_lk (fun z => ht _ _ z h) h) (OwAll.hid ht q n)
theorem OwAll.hid {H : Hp} {T : List Addr} (ht : ∀ b xs, b ∈ T → H b ≠ some (.tup xs)) : ∀ {vs : List V} {ds : List PyData} {S : List Addr}, OwAll H vs ds S → (∀ b, b ∈ S → b ∉ T) → DqAll (hid T H) vs ds
  | _, _, _, .nil, _ => .nil
  | _, _, _, .cons h q, n => .cons (Ow.hid ht h fun b hb => n b (List.mem_append.mpr (.inl hb))) (OwAll.hid ht q fun b hb => n b (List.mem_append.mpr (.inr hb)))
end
theorem ow_bat {H : Hp} {w : V} {f s : Int} {ds : List PyData} {S : List Addr} (h : Ow H w (batT f s ds) S) : ∃ hA hq zs S', w = .ref hA ∧ H hA = some (.tup [.int f, .int s, .ref hq]) ∧ H hq = some (.lst zs) ∧ OwAll H zs ds S' ∧ S = hq :: S' := by
  cases h with
  | tup h q =>
    cases q with
    | cons a b =>
      cases a
      cases b with
      | cons a b =>
        cases a
        cases b with
        | cons a b =>
          cases b
          cases a with
          | lst h1 h2 =>
            exact ⟨_, _, _, _, rfl, h, h1, h2, by simp⟩
/-- an owned battle beside a purse -/
theorem own_beside {H0 H : Hp} {w : V} {f s : Int} {ds : List PyData} {S : List Addr} {pL : Addr} {m c : Int} (h : OwN H0 H w (batT f s ds) S) (pk : Pk pL m H0 c) (sm : Same H0 H) :
    ∃ hA hq zs, w = .ref hA ∧ H hA = some (.tup [.int f, .int s, .ref hq]) ∧ H hq = some (.lst zs) ∧ DqAll (hid [hq, pL] H) zs ds ∧ hA ≠ pL ∧ hq ≠ pL ∧ H0 hq = none := by
  obtain ⟨hA, hq, zs, S', rfl, h1, h2, h3, rfl⟩ := ow_bat h.ow
  obtain ⟨n, c', e, _⟩ := pk.same sm
  have hn := h.nw hq List.mem_cons_self
  have n1 : hA ≠ pL := fun z => by rw [z, e] at h1; cases h1
  have n2 : hq ≠ pL := pk.ne hn
  have nd := (List.nodup_cons.mp h.nd).1
  refine ⟨hA, hq, zs, rfl, h1, h2, OwAll.hid (fun b xs hb z => ?_) h3 (fun b hb hb' => ?_), n1, n2, hn⟩
  · rcases List.mem_cons.mp hb with g | g
    · rw [g, h2] at z; cases z
    · rw [List.mem_singleton.mp g, e] at z; cases z
  · rcases List.mem_cons.mp hb' with g | g
    · exact nd (g ▸ hb)
    · have := h.nw b (List.mem_cons_of_mem _ hb)
      rw [List.mem_singleton.mp g] at this
      obtain ⟨_, _, e', _⟩ := pk
      rw [e'] at this
      cases this
/-! ### times so much -/
def byF (b : Int) : Fld → Fld
  | .more w t => .more (w * b) (t * b)
  | .lead w l => .lead (w * b) l
  | .tab rows => .tab (rows.map fun r => r.map fun x => x * b)
theorem byF_ok {f s b : Int} {fl : Fld} (hb : 1 ≤ b) (k : FldOk f s fl) : FldOk f s (byF b fl) := by
  have hb0 : 0 ≤ b := by omega
  cases fl with
  | more w t =>
    obtain ⟨h1, h2, h3⟩ := k
    refine ⟨?_, ?_, ?_⟩
    · have := Int.mul_le_mul h1 hb (by omega) (by omega)
      omega
    · have := Int.mul_le_mul_of_nonneg_right h2 hb0
      rw [Int.sub_mul, Int.zero_mul] at this
      exact this
    · exact Int.mul_le_mul_of_nonneg_right h3 hb0
  | lead w l =>
    have h1 : 1 ≤ w := k
    show 1 ≤ w * b
    have := Int.mul_le_mul h1 hb (by omega) (by omega)
    omega
  | tab rows =>
    obtain ⟨h1, h2⟩ := k
    refine ⟨by rw [List.length_map]; exact h1, fun r hr => ?_⟩
    obtain ⟨r', hr', rfl⟩ := List.mem_map.mp hr
    rw [List.length_map]
    exact h2 r' hr'
theorem by_ok {f s b : Int} {fs : List Fld} (hb : 1 ≤ b) (k : BatOk f s fs) : BatOk f s (fs.map (byF b)) := ⟨k.hf, k.hs, by rw [List.length_map]; exact k.ne, fun x hx => by
  obtain ⟨y, hy, rfl⟩ := List.mem_map.mp hx
  exact byF_ok hb (k.ok y hy)⟩
theorem ex_ex {f s : Int} {fl : Fld} (hf : 0 ≤ f) (hs : 0 ≤ s) (k : FldOk f s fl) : exF f (exF s fl) = fl := by
  cases fl with
  | more w t => simp [exF]
  | lead w l => simp [exF]; omega
  | tab rows =>
    obtain ⟨h1, h2⟩ := k
    simp only [exF, Fld.tab.injEq]
    apply List.ext_getElem?
    intro x
    rw [List.getElem?_map]
    by_cases c : x < rows.length
    · rw [List.getElem?_range (by omega), List.getElem?_eq_getElem c]
      simp only [Option.map_some, Option.some.injEq]
      apply List.ext_getElem?
      intro y
      rw [List.getElem?_map, List.getElem?_map]
      have hr := h2 _ (List.getElem_mem c)
      by_cases c2 : y < (rows[x]).length
      · rw [List.getElem?_range (by omega)]
        simp [c, c2]
      · rw [List.getElem?_eq_none (by rw [List.length_range]; omega), List.getElem?_eq_none (by omega)]
        rfl
    · rw [List.getElem?_eq_none (by rw [List.length_range]; omega), List.getElem?_eq_none (by omega)]
      rfl
theorem ex_ex_all {f s : Int} {fs : List Fld} (k : BatOk f s fs) : (fs.map (exF s)).map (exF f) = fs := by
  rw [List.map_map]
  have : ∀ x ∈ fs, (exF f ∘ exF s) x = x := fun x hx => ex_ex k.hf.1 k.hs.1 (k.ok x hx)
  rw [List.map_congr_left this]
  exact List.map_id' fs
theorem planD_inj {r r' : List Int} (h : planD r = planD r') : r = r' := by
  have h2 := PyData.list.inj h
  induction r generalizing r' with
  | nil => cases r' <;> simp_all
  | cons x r ih =>
    cases r' with
    | nil => simp at h2
    | cons y r' =>
      simp at h2
      rw [h2.1, ih (by simp [planD, h2.2]) h2.2]
theorem map_inj {α β : Type} {f : α → β} (h : ∀ a b, f a = f b → a = b) : ∀ {xs ys : List α}, xs.map f = ys.map f → xs = ys
  | [], [], _ => rfl
  | [], _ :: _, e => by simp at e
  | _ :: _, [], e => by simp at e
  | x :: xs, y :: ys, e => by
    rw [List.map_cons, List.map_cons, List.cons.injEq] at e
    rw [h _ _ e.1, map_inj h e.2]
theorem fldD_inj {a b : Fld} (h : fldD a = fldD b) : a = b := by
  cases a <;> cases b <;> simp [fldD] at h ⊢
  · exact h
  · have := h.1; revert this; decide +kernel
  · have := h.1; revert this; decide +kernel
  · exact h
  · exact map_inj (fun a b e => planD_inj e) h
theorem good_flds {f s : Int} {ds : List PyData} (h : badB f s ds = none) : ∃ fs : List Fld, ds = fs.map fldD ∧ BatOk f s fs := by
  have key : ∀ ds : List PyData, (∀ d ∈ ds, isFldT f s d = true) → ∃ fs : List Fld, ds = fs.map fldD := by
    intro ds
    induction ds with
    | nil => exact fun _ => ⟨[], rfl⟩
    | cons d ds ih =>
      intro h
      obtain ⟨fs, rfl⟩ := ih fun e he => h e (List.mem_cons_of_mem _ he)
      have h1 := h d List.mem_cons_self
      suffices z : ∃ fl, d = fldD fl by
        obtain ⟨fl, rfl⟩ := z
        exact ⟨fl :: fs, rfl⟩
      unfold isFldT at h1
      split at h1
      · rename_i w r
        unfold isFieldD at h1
        split at h1
        · rename_i c
          subst c
          unfold isMoreD at h1
          split at h1
          · exact ⟨.more _ _, rfl⟩
          · cases h1
        · split at h1
          · rename_i c
            subst c
            unfold isRuleD at h1
            split at h1
            · exact ⟨.lead _ _, rfl⟩
            · cases h1
          · split at h1
            · rename_i c
              subst c
              unfold isRowsD at h1
              split at h1
              · rename_i rs
                rw [Bool.and_eq_true] at h1
                have h2 := List.all_eq_true.mp h1.2
                suffices z : ∃ rows : List (List Int), rs = rows.map planD by
                  obtain ⟨rows, rfl⟩ := z
                  exact ⟨.tab rows, rfl⟩
                clear h1 h
                induction rs with
                | nil => exact ⟨[], rfl⟩
                | cons d rs ih2 =>
                  obtain ⟨rows, rfl⟩ := ih2 fun e he => h2 e (List.mem_cons_of_mem _ he)
                  have h3 := h2 d List.mem_cons_self
                  unfold areNumsD at h3
                  split at h3
                  · rename_i xs
                    rw [Bool.and_eq_true] at h3
                    suffices z : ∃ r : List Int, xs = r.map PyData.int by
                      obtain ⟨r, rfl⟩ := z
                      exact ⟨r :: rows, rfl⟩
                    have h4 := List.all_eq_true.mp h3.2
                    clear h3 h2 ih2
                    induction xs with
                    | nil => exact ⟨[], rfl⟩
                    | cons x xs ih3 =>
                      obtain ⟨r, rfl⟩ := ih3 fun e he => h4 e (List.mem_cons_of_mem _ he)
                      have h5 := h4 x List.mem_cons_self
                      unfold isNumD at h5
                      split at h5
                      · rename_i z
                        exact ⟨z :: r, rfl⟩
                      · cases h5
                  · cases h3
              · cases h1
            · cases h1
      · cases h1
  obtain ⟨fs, rfl⟩ := key ds (bad_none.mp h).2.2.2
  exact ⟨fs, rfl, bad_ok.mp h⟩
end Hf
namespace Hf
instance {x : Int} : Decidable (Sm x) := by unfold Sm; infer_instance
theorem sm_abs {x : Int} (h : Sm x) : x.natAbs < 2 ^ 120 := by
  obtain ⟨h1, h2⟩ := h
  omega
end Hf
/-! ## odd things -/
namespace Hf
open PySem PySem.Spec PyProof.Rows L2
section
variable {K : PySem.W.Frag} {H : Hp} {Q : VK} {p r : Addr} {x : V} {xs ys : List V}
theorem i_slT1 (h : SqT K H p (x :: xs)) (q : ∀ p', H p' = none → Q (.ref p') (upd H p' (.tup xs))) : rSlA K (.ref p) (some 1) none H Q :=
  ⟨p, _, rfl, h, fun c => absurd c.1 (by rw [show (1 : Int) = ((1 : Nat) : Int) from rfl, HT.sIx_nat, List.length_cons]; omega), fun _ p' n => by rw [cut_from (by decide)]; exact q p' n⟩
theorem i_catTg (h1 : H p = some (.tup xs)) (h2 : SqT K H r ys) (n : xs ≠ []) (hz : xs.length + ys.length ≤ 1000) (q : ∀ t H', H' t = some (.tup (xs ++ ys)) → Same H H' → Q (.ref t) H') : rCatT K (.ref p) (.ref r) H Q :=
  ⟨p, r, xs, ys, rfl, rfl, SqT.of h1, h2, n, sz4 (by omega), fun e => q p H (by rw [e, List.append_nil]; exact h1) (Same.refl _), fun _ t nt => q t _ upd_same (Same.new nt)⟩
end
theorem i_ix4S {K : PySem.W.Frag} {H : Hp} {Q : VK} {p : Addr} {i : Int} {y1 y2 y3 y4 : Str} (h : SqL K H p [.str y1, .str y2, .str y3, .str y4]) (h0 : 0 ≤ i) (h1 : i < 4) (q : ∀ v, v = y1 ∨ v = y2 ∨ v = y3 ∨ v = y4 → Q (.str v) H) : rIxL K (.ref p) (.int i) H Q := by
  obtain rfl | rfl | rfl | rfl : i = 0 ∨ i = 1 ∨ i = 2 ∨ i = 3 := by omega
  · exact i_ixL h atI_0 (q _ (.inl rfl))
  · exact i_ixL h atI_1 (q _ (.inr (.inl rfl)))
  · exact i_ixL h atI_2 (q _ (.inr (.inr (.inl rfl))))
  · exact i_ixL h (atI_nat (j := 3) rfl) (q _ (.inr (.inr (.inr rfl))))
theorem Pk.neT {a t : Addr} {m c : Int} {H : Hp} {xs : List V} (h : Pk a m H c) (e : H t = Option.some (.tup xs)) : t ≠ a := fun z => by
  obtain ⟨_, _, h1, _⟩ := h
  rw [z, h1] at e
  cases e
/-- what stands in the place of a field -/
def Fb (k : Nat) (w : Str) (r : List PyData) : Prop := PyData.strOk w = true ∧ PyData.canLayAll0 r = true ∧ depA r ≤ 3 ∧ r.length ≤ k ∧ widA r ≤ k
def FbD (k : Nat) (d : PyData) : Prop := ∃ w r, d = .tuple (.str w :: r) ∧ Fb k w r
theorem Fb.mono {k l : Nat} {w : Str} {r : List PyData} (h : Fb k w r) (e : k ≤ l) : Fb l w r := ⟨h.1, h.2.1, h.2.2.1, by have := h.2.2.2.1; omega, by have := h.2.2.2.2; omega⟩
theorem FbD.mono {k l : Nat} {d : PyData} (h : FbD k d) (e : k ≤ l) : FbD l d := by
  obtain ⟨w, r, rfl, h⟩ := h
  exact ⟨w, r, rfl, h.mono e⟩
theorem FbD.fin {k : Nat} {d : PyData} (h : FbD k d) (e : k ≤ 1000) : FldIn d := by
  obtain ⟨w, r, rfl, h⟩ := h
  refine ⟨w, r, rfl, ?_⟩
  have h1 := h.2.2.2.1
  have h2 := h.2.2.2.2
  rw [wid]
  omega
theorem FbD.lay {k : Nat} {d : PyData} (h : FbD k d) : d.canLay0 = true := by
  obtain ⟨w, r, rfl, h⟩ := h
  simp [PyData.canLay0, PyData.canLayAll0, h.1, h.2.1]
theorem FbD.dep {k : Nat} {d : PyData} (h : FbD k d) : dep d ≤ 4 := by
  obtain ⟨w, r, rfl, h⟩ := h
  have := h.2.2.1
  simp only [Hf.dep, depA]
  omega
theorem FbD.wid {k : Nat} {d : PyData} (h : FbD k d) : wid d ≤ k + 1 := by
  obtain ⟨w, r, rfl, h⟩ := h
  have h1 := h.2.2.2.1
  have h2 := h.2.2.2.2
  simp only [Hf.wid, widA, List.length_cons]
  omega
theorem fb_fld {f s : Int} {fl : Fld} (hf : f ≤ 10) (hs : s ≤ 10) (k : FldOk f s fl) : FbD 20 (fldD fl) := by
  have l := lay_fld fl
  have d := dep_fld fl
  have w := wid_fld hf hs k
  cases fl with
  | more a b =>
    refine ⟨_, _, rfl, ?_⟩
    simp [Fb, PyData.canLayAll0, PyData.canLay0, depA, Hf.dep, widA, Hf.wid]
    decide +kernel
  | lead a b =>
    refine ⟨_, _, rfl, ?_⟩
    simp [Fb, PyData.canLayAll0, PyData.canLay0, depA, Hf.dep, widA, Hf.wid]
    decide +kernel
  | tab rows =>
    refine ⟨_, _, rfl, ?_⟩
    simp only [fldD, PyData.canLay0, PyData.canLayAll0, Hf.dep, depA, Hf.wid, widA, List.length_cons, List.length_nil, Bool.and_eq_true, Bool.and_true] at l d w
    exact ⟨l.1, by simp [PyData.canLayAll0, PyData.canLay0, l.2], by simp only [depA, Hf.dep]; omega, by simp, by simp only [widA, Hf.wid]; omega⟩
theorem fb_fld1 {f s : Int} {fl : Fld} (hf : f ≤ 10) (hs : s ≤ 10) (k : FldOk f s fl) : ∃ w r, fldD fl = .tuple (.str w :: r) ∧ Fb 20 w r ∧ 1 ≤ r.length := by
  obtain ⟨w, r, e, h⟩ := fb_fld hf hs k
  refine ⟨w, r, e, h, ?_⟩
  cases fl <;> (rw [fldD] at e; cases e; simp)
def badR : PyData → Bool
  | .list es => decide (es.length = 0)
  | _ => true
theorem badR_inv {d : PyData} (h : badR d = false) : ∃ es, d = .list es ∧ 1 ≤ es.length := by
  cases d with
  | list es =>
    refine ⟨es, rfl, ?_⟩
    have := of_decide_eq_false h
    omega
  | _ => cases h
/-- what a row may be -/
def RwOk (k : Nat) (d : PyData) : Prop := d.canLay0 = true ∧ dep d ≤ 2 ∧ wid d ≤ k
theorem fb_rows {k : Nat} {rs : List PyData} (h : ∀ d ∈ rs, RwOk k d) (l : rs.length ≤ k) (hk : 1 ≤ k) : Fb k (PySem.Str.ofString "table") [.list rs] := by
  have h1 : PyData.canLayAll0 rs = true := lay_all fun d hd => (h d hd).1
  have h2 : depA rs ≤ 2 := depA_le fun d hd => (h d hd).2.1
  have h3 : widA rs ≤ k := widA_le fun d hd => (h d hd).2.2
  refine ⟨by decide +kernel, by simp [PyData.canLayAll0, PyData.canLay0, h1], by simp only [depA, dep]; omega, by simp; omega, by simp only [widA, wid]; omega⟩
theorem rows_ok {k : Nat} {w : Str} {rs r : List PyData} (h : Fb k w (.list rs :: r)) : (∀ d ∈ rs, RwOk k d) ∧ rs.length ≤ k := by
  obtain ⟨_, h1, h2, h3, h4⟩ := h
  simp only [PyData.canLayAll0, PyData.canLay0, Bool.and_eq_true, depA, dep, widA, wid] at h1 h2 h4
  refine ⟨fun d hd => ⟨lay_mem h1.1 hd, by have := depA_mem hd; omega, by have := widA_mem hd; omega⟩, by omega⟩
theorem rw_list {k : Nat} {es : List PyData} (h1 : ∀ e ∈ es, e.canLay0 = true ∧ dep e ≤ 1 ∧ wid e ≤ k) (l : es.length ≤ k) : RwOk k (.list es) :=
  ⟨by rw [PyData.canLay0]; exact lay_all fun d hd => (h1 d hd).1, by rw [dep]; have := depA_le fun d hd => (h1 d hd).2.1; omega, by rw [wid]; have := widA_le fun d hd => (h1 d hd).2.2; omega⟩
theorem rw_inv {k : Nat} {es : List PyData} (h : RwOk k (.list es)) : (∀ e ∈ es, e.canLay0 = true ∧ dep e ≤ 1 ∧ wid e ≤ k) ∧ es.length ≤ k := by
  obtain ⟨h1, h2, h3⟩ := h
  rw [PyData.canLay0] at h1
  rw [dep] at h2
  rw [wid] at h3
  exact ⟨fun e he => ⟨lay_mem h1 he, by have := depA_mem he; omega, by have := widA_mem he; omega⟩, by omega⟩
theorem RwOk.mono {k l : Nat} {d : PyData} (h : RwOk k d) (e : k ≤ l) : RwOk l d := ⟨h.1, h.2.1, Nat.le_trans h.2.2 e⟩
theorem rw_tup {k : Nat} {es : List PyData} (h : RwOk k (.list es)) : RwOk k (.tuple es) := h
end Hf
theorem gcd_step {x y : Int} (hx : 0 ≤ x) (hy : 0 < y) : Int.gcd y (x % y) = Int.gcd x y := by
  obtain ⟨m, rfl⟩ := Int.eq_ofNat_of_zero_le hx
  obtain ⟨n, rfl⟩ := Int.eq_ofNat_of_zero_le (Int.le_of_lt hy)
  show Nat.gcd _ _ = Nat.gcd _ _
  have e : ((m : Int) % (n : Int)) = ((m % n : Nat) : Int) := rfl
  rw [e]
  show Nat.gcd n (m % n) = Nat.gcd m n
  rw [Nat.gcd_comm n (m % n), ← Nat.gcd_rec n m, Nat.gcd_comm]
theorem gcd_zero {x : Int} (hx : 0 ≤ x) : (Int.gcd x 0 : Int) = x := by
  rw [Int.gcd_zero]
  omega
theorem abs_if {x : Int} : (if x < 0 then -x else x) = (x.natAbs : Int) := by
  split <;> omega
theorem gcd_abs {x y : Int} : Int.gcd (x.natAbs : Int) (y.natAbs : Int) = Int.gcd x y := rfl
/-- the divisor with the bottom's sign -/
def sgcd (x y : Int) : Int := if y < 0 then 0 - (Int.gcd x y : Int) else (Int.gcd x y : Int)
theorem gcd_pos {x y : Int} (h : y ≠ 0) : 0 < Int.gcd x y := Nat.pos_of_ne_zero fun z => h (Int.gcd_eq_zero_iff.mp z).2
theorem sgcd_ne {x y : Int} (h : y ≠ 0) : sgcd x y ≠ 0 := by
  have := gcd_pos (x := x) h
  unfold sgcd
  split <;> omega
theorem gcd_le {x y : Int} (h : y ≠ 0) : Int.gcd x y ≤ y.natAbs := Nat.le_of_dvd (by omega) (Int.gcd_dvd_natAbs_right x y)
theorem sgcd_le {x y : Int} (h : y ≠ 0) : (sgcd x y).natAbs ≤ y.natAbs := by
  have := gcd_le (x := x) h
  unfold sgcd
  split <;> omega
theorem fdiv_abs_le {x g : Int} (hg : g ≠ 0) (hd : g ∣ x) : (x.fdiv g).natAbs ≤ x.natAbs := by
  obtain ⟨k, rfl⟩ := hd
  rw [Int.mul_fdiv_cancel_left _ hg, Int.natAbs_mul]
  exact Nat.le_mul_of_pos_left _ (by omega)
theorem sgcd_dvd_left (x y : Int) : sgcd x y ∣ x := by
  unfold sgcd
  split
  · rw [Int.zero_sub]
    exact Int.neg_dvd.mpr (Int.gcd_dvd_left x y)
  · exact Int.gcd_dvd_left x y
theorem sgcd_dvd_right (x y : Int) : sgcd x y ∣ y := by
  unfold sgcd
  split
  · rw [Int.zero_sub]
    exact Int.neg_dvd.mpr (Int.gcd_dvd_right x y)
  · exact Int.gcd_dvd_right x y
def ltop (x y : Int) : Int := x.fdiv (sgcd x y)
def lbot (x y : Int) : Int := y.fdiv (sgcd x y)
theorem ltop_le {x y : Int} (h : y ≠ 0) : (ltop x y).natAbs ≤ x.natAbs := fdiv_abs_le (sgcd_ne h) (sgcd_dvd_left x y)
theorem lbot_le {x y : Int} (h : y ≠ 0) : (lbot x y).natAbs ≤ y.natAbs := fdiv_abs_le (sgcd_ne h) (sgcd_dvd_right x y)
theorem lbot_pos {x y : Int} (h : y ≠ 0) : 0 < lbot x y := by
  unfold lbot
  have h1 := sgcd_dvd_right x y
  have hg := gcd_pos (x := x) h
  have h0 := sgcd_ne (x := x) h
  obtain ⟨k, hk⟩ := h1
  have e : y.fdiv (sgcd x y) = k := by
    conv => lhs; lhs; rw [hk]
    exact Int.mul_fdiv_cancel_left _ h0
  rw [e]
  rcases Int.lt_trichotomy y 0 with hy | hy | hy
  · have hs : sgcd x y < 0 := by
      unfold sgcd
      rw [if_pos hy]
      omega
    rcases Int.lt_trichotomy k 0 with z | z | z
    · have := Int.mul_pos_of_neg_of_neg hs z
      omega
    · rw [z, Int.mul_zero] at hk
      omega
    · exact z
  · exact absurd hy h
  · have hs : 0 < sgcd x y := by
      unfold sgcd
      rw [if_neg (by omega)]
      omega
    rcases Int.lt_trichotomy k 0 with z | z | z
    · have := Int.mul_neg_of_pos_of_neg hs z
      omega
    · rw [z, Int.mul_zero] at hk
      omega
    · exact z
/-! ## mixes among any data -/
namespace Hf
open PySem PySem.Spec PyProof.Rows L2
def isNumsD : PyData → Bool
  | .list ns => ns.all isNumD
  | _ => false
def isWtD : PyData → Bool
  | .int w => decide (1 ≤ w)
  | _ => false
def isPartD : PyData → Bool
  | .tuple [d, e] => isNumsD d && isWtD e
  | _ => false
theorem sum_nn0 : ∀ {ps : List Int}, (∀ x ∈ ps, 0 ≤ x) → 0 ≤ ps.sum
  | [], _ => by simp
  | x :: ps, h => by
    have := sum_nn0 fun y hy => h y (List.mem_cons_of_mem _ hy)
    have := h x (by simp)
    rw [List.sum_cons]
    omega
theorem nums_of : ∀ {ns : List PyData}, ns.all isNumD = true → ∃ p : List Int, ns = p.map PyData.int
  | [], _ => ⟨[], rfl⟩
  | d :: ns, h => by
    rw [List.all_cons, Bool.and_eq_true] at h
    obtain ⟨x, rfl⟩ := num_inv h.1
    obtain ⟨p, rfl⟩ := nums_of h.2
    exact ⟨x :: p, rfl⟩
theorem isPart_mk {pw : List Int × Int} (h : 1 ≤ pw.2) : isPartD (partD pw) = true := by
  show ((pw.1.map PyData.int).all isNumD && decide (1 ≤ pw.2)) = true
  rw [all_num, decide_eq_true h]
  rfl
theorem nums_inv {d : PyData} (h : isNumsD d = true) : ∃ p : List Int, d = planD p := by
  cases d with
  | list ns =>
    obtain ⟨p, rfl⟩ := nums_of h
    exact ⟨p, rfl⟩
  | _ => cases h
theorem wt_inv {d : PyData} (h : isWtD d = true) : ∃ w : Int, d = .int w ∧ 1 ≤ w := by
  cases d with
  | int w => exact ⟨w, rfl, of_decide_eq_true h⟩
  | _ => cases h
theorem part_of {d : PyData} (h : isPartD d = true) : ∃ pw : List Int × Int, d = partD pw ∧ 1 ≤ pw.2 := by
  unfold isPartD at h
  split at h
  · rw [Bool.and_eq_true] at h
    obtain ⟨p, rfl⟩ := nums_inv h.1
    obtain ⟨w, rfl, h2⟩ := wt_inv h.2
    exact ⟨(p, w), rfl, h2⟩
  · cases h
theorem parts_of : ∀ {ds : List PyData}, (∀ d ∈ ds, isPartD d = true) → ∃ m : List (List Int × Int), ds = m.map partD ∧ ∀ pw ∈ m, 1 ≤ pw.2
  | [], _ => ⟨[], rfl, by simp⟩
  | d :: ds, h => by
    obtain ⟨pw, rfl, h1⟩ := part_of (h d (by simp))
    obtain ⟨m, rfl, h2⟩ := parts_of fun e he => h e (List.mem_cons_of_mem _ he)
    refine ⟨pw :: m, rfl, fun x hx => ?_⟩
    rcases List.mem_cons.mp hx with rfl | g
    · exact h1
    · exact h2 x g
/-- a mix of plans of h hosts and n fields, of any length -/
structure MixG (h : Int) (n : Nat) (m : List (List Int × Int)) : Prop where
  ne : 1 ≤ m.length
  fl : 1 ≤ n ∧ n ≤ 8
  ho : 0 ≤ h ∧ h ≤ 40
  pl : ∀ pw ∈ m, PlanC h n pw.1 ∧ 1 ≤ pw.2
def IsMix (d : PyData) : Prop := ∃ h n m, d = mixD m ∧ MixG h n m
noncomputable def isMixB (d : PyData) : Bool := @decide (IsMix d) (Classical.propDecidable _)
/-- a mix of plans of h hosts and n fields -/
def IsMixOf (h : Int) (n : Nat) (d : PyData) : Prop := ∃ m, d = mixD m ∧ MixG h n m
theorem isMix_iff {d : PyData} : isMixB d = true ↔ IsMix d := @decide_eq_true_iff _ (Classical.propDecidable _)
theorem isMix_no {d : PyData} : isMixB d = false ↔ ¬ IsMix d := @decide_eq_false_iff_not _ (Classical.propDecidable _)
noncomputable def isPlanB (h : Int) (n : Nat) (p : List Int) : Bool := @decide (PlanC h n p) (Classical.propDecidable _)
theorem isPlan_iff {h : Int} {n : Nat} {p : List Int} : isPlanB h n p = true ↔ PlanC h n p := @decide_eq_true_iff _ (Classical.propDecidable _)
theorem isPlan_eq {h : Int} {n : Nat} {p : List Int} {b : Bool} (e : b = true ↔ PlanC h n p) : b = isPlanB h n p := by
  rw [Bool.eq_iff_iff, e, isPlan_iff]
theorem partD_inj {a b : List Int × Int} (h : partD a = partD b) : a = b := by
  simp only [partD] at h
  injection h with h
  injection h with h1 h2
  injection h2 with h2 _
  injection h2 with h2
  exact Prod.ext (planD_inj h1) h2
theorem mixD_inj {a b : List (List Int × Int)} (h : mixD a = mixD b) : a = b := by
  simp only [mixD] at h
  injection h with h
  exact (List.map_inj_right fun x y e => partD_inj e).mp h
theorem mix_nolist {d : PyData} (h : isLstD d = false) : isMixB d = false := isMix_no.mpr fun ⟨_, _, m, e, _⟩ => by
  rw [e] at h
  cases h
theorem mix_nil : isMixB (.list []) = false := isMix_no.mpr fun ⟨_, _, m, e, k⟩ => by
  have : mixD m = mixD [] := e.symm
  rw [mixD_inj this] at k
  have := k.ne
  simp at this
theorem mix_nopart {ds : List PyData} {k : Nat} {d : PyData} (e : ds[k]? = some d) (h : isPartD d = false) : isMixB (.list ds) = false := isMix_no.mpr fun ⟨_, _, m, e1, g⟩ => by
  injection e1 with e1
  rw [e1, List.getElem?_map] at e
  cases c : m[k]? with
  | none => rw [c] at e; cases e
  | some pw =>
    rw [c] at e
    cases e
    rw [isPart_mk (g.pl pw (List.mem_of_getElem? c)).2] at h
    cases h
theorem MixG.inj {h h' : Int} {n n' : Nat} {m : List (List Int × Int)} (a : MixG h n m) (b : MixG h' n' m) : h = h' ∧ n = n' := by
  obtain ⟨pw, hp⟩ : ∃ pw, pw ∈ m := List.exists_mem_of_length_pos a.ne
  have h1 := (a.pl pw hp).1
  have h2 := (b.pl pw hp).1
  exact ⟨h1.2.1.symm.trans h2.2.1, h1.1.symm.trans h2.1⟩
/-- of true parts: by the first one -/
theorem mix_first {m : List (List Int × Int)} {pw : List Int × Int} (e : m[0]? = some pw) : IsMix (mixD m) ↔ MixG pw.1.sum pw.1.length m := by
  refine ⟨fun ⟨h, n, m', e1, g⟩ => ?_, fun g => ⟨_, _, m, rfl, g⟩⟩
  obtain rfl := mixD_inj e1
  have h1 := (g.pl pw (List.mem_of_getElem? e)).1
  rw [h1.2.1, h1.1]
  exact g
theorem MixOk.g {h : Int} {n : Nat} {m : List (List Int × Int)} (k : MixOk h n m) : MixG h n m := ⟨k.ne.1, k.fl, k.ho, k.pl⟩
theorem MixOk.is {h : Int} {n : Nat} {m : List (List Int × Int)} (k : MixOk h n m) : IsMix (mixD m) := ⟨h, n, m, rfl, k.g⟩
theorem widA_ints : ∀ p : List Int, widA (p.map PyData.int) = 0
  | [] => by simp [widA]
  | x :: p => by
    rw [List.map_cons, widA, widA_ints p]
    simp [wid]
theorem wid_part (pw : List Int × Int) : wid (partD pw) = max 2 pw.1.length := by
  simp [partD, planD, wid, widA, widA_ints]
theorem wid_mix {k : Nat} : ∀ {m : List (List Int × Int)}, m.length ≤ k → 2 ≤ k → (∀ pw ∈ m, pw.1.length ≤ k) → wid (mixD m) ≤ k := by
  intro m h1 h2 h3
  have : widA (m.map partD) ≤ k := widA_le fun d hd => by
    obtain ⟨pw, hp, rfl⟩ := List.mem_map.mp hd
    rw [wid_part]
    have := h3 pw hp
    omega
  rw [mixD, wid, List.length_map]
  omega
theorem MixOk.wid {h : Int} {n : Nat} {m : List (List Int × Int)} (k : MixOk h n m) : wid (mixD m) ≤ 1000 := by
  have h1 := k.ne
  have h2 := k.fl
  exact wid_mix (by omega) (by omega) fun pw hp => by
    have := (k.pl pw hp).1.1
    omega
theorem wid_mem {ds : List PyData} {d : PyData} {k : Nat} (h : wid (.list ds) ≤ k) (hd : d ∈ ds) : wid d ≤ k := by
  have := widA_mem hd
  rw [Hf.wid] at h
  omega
end Hf
namespace Hf
open PySem PySem.Spec PyProof.Rows L2
/-! ### what mixes win against one another -/
def tot1 (fs : List Fld) (p : List Int) (w : Int) (m : List (List Int × Int)) : Int := (m.map fun q => w * q.2 * gainV fs p q.1).sum
def mixTot (fs : List Fld) (m1 m2 : List (List Int × Int)) : Int := (m1.map fun p => tot1 fs p.1 p.2 m2).sum
theorem tot1_snoc {fs : List Fld} {p : List Int} {w : Int} {m : List (List Int × Int)} {i : Nat} {q : List Int × Int} (e : m[i]? = some q) : tot1 fs p w (m.take (i + 1)) = tot1 fs p w (m.take i) + w * q.2 * gainV fs p q.1 := by
  unfold tot1
  rw [take_snoc e, List.map_append, List.sum_append]
  simp
theorem mixTot_snoc {fs : List Fld} {m1 m2 : List (List Int × Int)} {i : Nat} {p : List Int × Int} (e : m1[i]? = some p) : mixTot fs (m1.take (i + 1)) m2 = mixTot fs (m1.take i) m2 + tot1 fs p.1 p.2 m2 := by
  unfold mixTot
  rw [take_snoc e, List.map_append, List.sum_append]
  simp
end Hf
namespace Hf
open PySem PySem.Spec PyProof.Rows L2
theorem sum_abs {B : Nat} : ∀ {l : List Int}, (∀ x ∈ l, x.natAbs ≤ B) → l.sum.natAbs ≤ l.length * B
  | [], _ => by simp
  | x :: l, h => by
    have h1 := sum_abs fun y hy => h y (List.mem_cons_of_mem _ hy)
    have h2 := h x (by simp)
    have h3 := Int.natAbs_add_le x l.sum
    rw [List.sum_cons, List.length_cons, Nat.add_mul]
    omega
theorem paid_sm {fl : Fld} (h : FldSm fl) (x y : Int) : (paidV fl x y).natAbs ≤ 2 ^ 110 := by
  cases fl with
  | more w t =>
    have h1 := h.1
    have h2 := h.2
    unfold Sm at h1 h2
    show (if x = y then t else if x > y then w else 0 - w).natAbs ≤ _
    split
    · omega
    · split <;> omega
  | lead w t =>
    have h1 := h.1
    unfold Sm at h1
    show (if x ≥ y + t then w else 0 - w).natAbs ≤ _
    split <;> omega
  | tab rows =>
    show ((((rows[x.toNat]?).getD [])[y.toNat]?).getD 0).natAbs ≤ _
    cases e1 : rows[x.toNat]? with
    | none => simp
    | some r =>
      show ((r[y.toNat]?).getD 0).natAbs ≤ _
      cases e2 : r[y.toNat]? with
      | none => simp
      | some z =>
        have h1 := h r (List.mem_of_getElem? e1) z (List.mem_of_getElem? e2)
        unfold Sm at h1
        show z.natAbs ≤ _
        omega
theorem gain_sm {fs : List Fld} (h : ∀ x ∈ fs, FldSm x) (hl : fs.length ≤ 5) (ms ns : List Int) : (gainV fs ms ns).natAbs < 2 ^ 120 := by
  have := sum_abs (B := 2 ^ 110) (l := (List.range fs.length).map fun i : Nat => paidV (fldAt fs i) (nAt ms i) (nAt ns i)) fun x hx => by
    obtain ⟨i, hi, rfl⟩ := List.mem_map.mp hx
    have hi := List.mem_range.mp hi
    refine paid_sm (h _ ?_) _ _
    unfold fldAt
    rw [show (Int.toNat (i : Int)) = i by omega, List.getElem?_eq_getElem hi]
    exact List.getElem_mem hi
  rw [List.length_map, List.length_range] at this
  unfold gainV
  have : fs.length * 2 ^ 110 ≤ 5 * 2 ^ 110 := Nat.mul_le_mul_right _ hl
  omega
/-- weights, how many, and fields that are not great -/
def WtSm (m : List (List Int × Int)) : Prop := m.length ≤ 50 ∧ ∀ pw ∈ m, 0 ≤ pw.2 ∧ pw.2 ≤ 10000000000000000000000000000
theorem WtSm.abs {m : List (List Int × Int)} (h : WtSm m) {pw : List Int × Int} (hp : pw ∈ m) : pw.2.natAbs ≤ 2 ^ 100 := by
  have := h.2 pw hp
  omega
theorem WtSm.whole {m : List (List Int × Int)} (h : WtSm m) : (whole m).natAbs < 2 ^ 110 := by
  have := sum_abs (B := 2 ^ 100) (l := m.map Prod.snd) fun x hx => by
    obtain ⟨i, hi, rfl⟩ := List.mem_map.mp hx
    exact h.abs hi
  rw [List.length_map] at this
  have h2 : m.length * 2 ^ 100 ≤ 50 * 2 ^ 100 := Nat.mul_le_mul_right _ h.1
  unfold Hf.whole
  omega
theorem abs3 {a b c : Int} (h1 : a.natAbs ≤ 2 ^ 100) (h2 : b.natAbs ≤ 2 ^ 100) (h3 : c.natAbs ≤ 2 ^ 120) : (a * b * c).natAbs ≤ 2 ^ 320 := by
  rw [Int.natAbs_mul, Int.natAbs_mul]
  calc a.natAbs * b.natAbs * c.natAbs ≤ 2 ^ 100 * 2 ^ 100 * 2 ^ 120 := Nat.mul_le_mul (Nat.mul_le_mul h1 h2) h3
    _ = 2 ^ 320 := by decide +kernel
theorem tot1_sm {fs : List Fld} (h : ∀ x ∈ fs, FldSm x) (hl : fs.length ≤ 5) {p : List Int} {w : Int} (hw : w.natAbs ≤ 2 ^ 100) {m : List (List Int × Int)} (hm : WtSm m) : (tot1 fs p w m).natAbs ≤ 2 ^ 330 := by
  have := sum_abs (B := 2 ^ 320) (l := m.map fun q => w * q.2 * gainV fs p q.1) fun x hx => by
    obtain ⟨q, hq, rfl⟩ := List.mem_map.mp hx
    exact abs3 hw (hm.abs hq) (Nat.le_of_lt (gain_sm h hl _ _))
  rw [List.length_map] at this
  have h2 : m.length * 2 ^ 320 ≤ 50 * 2 ^ 320 := Nat.mul_le_mul_right _ hm.1
  unfold tot1
  have h3 : 50 * 2 ^ 320 ≤ 2 ^ 330 := by decide +kernel
  omega
theorem mixTot_sm {fs : List Fld} (h : ∀ x ∈ fs, FldSm x) (hl : fs.length ≤ 5) {m1 m2 : List (List Int × Int)} (h1 : WtSm m1) (h2 : WtSm m2) : (mixTot fs m1 m2).natAbs < 2 ^ 400 := by
  have := sum_abs (B := 2 ^ 330) (l := m1.map fun p => tot1 fs p.1 p.2 m2) fun x hx => by
    obtain ⟨q, hq, rfl⟩ := List.mem_map.mp hx
    exact tot1_sm h hl (h1.abs hq) h2
  rw [List.length_map] at this
  have h2 : m1.length * 2 ^ 330 ≤ 50 * 2 ^ 330 := Nat.mul_le_mul_right _ h1.1
  unfold mixTot
  have h3 : 50 * 2 ^ 330 < 2 ^ 400 := by decide +kernel
  omega
theorem whole2_sm {m1 m2 : List (List Int × Int)} (h1 : WtSm m1) (h2 : WtSm m2) : (whole m1 * whole m2).natAbs < 2 ^ 400 := by
  rw [Int.natAbs_mul]
  have a := h1.whole
  have b := h2.whole
  calc (whole m1).natAbs * (whole m2).natAbs ≤ 2 ^ 110 * 2 ^ 110 := Nat.mul_le_mul (Nat.le_of_lt a) (Nat.le_of_lt b)
    _ < 2 ^ 400 := by decide +kernel
theorem mul_pp {a b : Int} (h1 : a.natAbs ≤ 2 ^ 100) (h2 : b.natAbs ≤ 2 ^ 100) : CMulA a b := mulW (a := 101) (b := 101) (by omega) (by omega) (by decide) (by decide) (by decide)
theorem mul_ppg {a b c : Int} (h1 : a.natAbs ≤ 2 ^ 100) (h2 : b.natAbs ≤ 2 ^ 100) (h3 : c.natAbs < 2 ^ 120) : CMulA (a * b) c := mulW (a := 201) (b := 120) (by
  rw [Int.natAbs_mul]
  calc a.natAbs * b.natAbs ≤ 2 ^ 100 * 2 ^ 100 := Nat.mul_le_mul h1 h2
    _ < 2 ^ 201 := by decide +kernel) h3 (by decide) (by decide) (by decide)
theorem mul_ww {a b : Int} (h1 : a.natAbs < 2 ^ 110) (h2 : b.natAbs < 2 ^ 110) : CMulA a b := mulW h1 h2 (by decide) (by decide) (by decide)
end Hf
namespace Hf
theorem whole_ge {h : Int} {n : Nat} {m : List (List Int × Int)} (k : MixG h n m) : 1 ≤ whole m := by
  have h1 : ∀ r : List (List Int × Int), (∀ pw ∈ r, 1 ≤ pw.2) → (r.length : Int) ≤ whole r := by
    intro r
    induction r with
    | nil => intro _; exact Int.le_refl _
    | cons pw r ih =>
      intro g
      have := ih fun x hx => g x (List.mem_cons_of_mem _ hx)
      have := g pw (List.mem_cons_self)
      rw [whole_cons, List.length_cons]
      omega
  have := h1 m fun pw hp => (k.pl pw hp).2
  have := k.ne
  omega
end Hf
namespace Hf
open PySem PySem.Spec PyProof.Rows L2
theorem wt_sm {m : List (List Int × Int)} (h : WtOk m) (k : ∀ pw ∈ m, 1 ≤ pw.2) : WtSm m := ⟨by have := h.1; omega, fun pw hp => ⟨by have := k pw hp; omega, h.2 pw hp⟩⟩
theorem MixOk.sm {h : Int} {n : Nat} {m : List (List Int × Int)} (k : MixOk h n m) (w : WtOk m) : WtSm m := wt_sm w fun pw hp => (k.pl pw hp).2
end Hf
namespace Hf
open PySem PySem.Spec PyProof.Rows L2
/-- the parts of a mix lie beside its list -/
theorem parts_hid {H : Hp} {a : Addr} {xs : List V} {m : List (List Int × Int)} (h : H a = some (.lst xs)) (q : DqAll H xs (m.map partD)) (ne : 1 ≤ m.length) : DqAll (hid [a] H) xs (m.map partD) := by
  have key : ∀ {ys : List V} {r : List (List Int × Int)}, DqAll H ys (r.map partD) → DqAll (hid [a] H) ys (r.map partD) := by
    intro ys r
    induction r generalizing ys with
    | nil => intro q; cases q; exact .nil
    | cons pw r ih =>
      intro q
      cases q with
      | cons q1 q2 =>
        obtain ⟨t, p, rfl, e1, e2⟩ := part_inv q1
        have ht : t ≠ a := fun e => by rw [e, h] at e1; cases e1
        have hp : p ≠ a := fun e => by
          rw [e, h] at e2
          cases e2
          cases m with
          | nil => simp at ne
          | cons pv m =>
            cases hx : pw.1 with
            | nil => rw [hx] at q; cases q
            | cons x u =>
              rw [hx, List.map_cons] at q
              cases q with
              | cons q3 _ =>
                obtain ⟨_, _, c, _⟩ := part_inv q3
                cases c
        exact .cons (part_mk (hid_lk (not_in1 ht) e1) (hid_lk (not_in1 hp) e2)) (ih q2)
  exact key q
end Hf
namespace Hf
open PySem PySem.Spec PyProof.Rows L2
theorem lay_part (pw : List Int × Int) : (partD pw).canLay0 = true := by
  rw [partD]
  simp [PyData.canLay0, PyData.canLayAll0, lay_plan]
theorem lay_mix (m : List (List Int × Int)) : (mixD m).canLay0 = true := by
  rw [mixD, PyData.canLay0]
  exact lay_all fun d hd => by
    obtain ⟨pw, _, rfl⟩ := List.mem_map.mp hd
    exact lay_part pw
theorem dep_mix (m : List (List Int × Int)) : dep (mixD m) ≤ 3 := by
  have : depA (m.map partD) ≤ 2 := depA_le fun d hd => by
    obtain ⟨pw, _, rfl⟩ := List.mem_map.mp hd
    simp [partD, dep, depA, dep_plan]
  rw [mixD, dep]
  omega
theorem shaped_kept (f s : Int) (fs : List Fld) (m1 m2 : List (List Int × Int)) : SeqAt.shaped (.list [batD f s fs, mixD m1, mixD m2]) = true := by
  have h1 := dep_bat f s fs
  have h2 := dep_mix m1
  have h3 := dep_mix m2
  refine shaped_of ?_ ?_
  · simp [PyData.canLay0, PyData.canLayAll0, lay_bat, lay_mix]
  · simp only [dep, depA]
    omega
end Hf
namespace Hf
open PySem PySem.Spec PyProof.Rows L2
theorem MixG.snoc {h : Int} {n : Nat} {m : List (List Int × Int)} {p : List Int} {w : Int} (k : MixG h n m) (hp : PlanC h n p) (hw : 1 ≤ w) : MixG h n (m ++ [(p, w)]) := ⟨by simp, k.fl, k.ho, fun pw hpw => by
  rcases List.mem_append.mp hpw with g | g
  · exact k.pl pw g
  · rw [List.mem_singleton.mp g]
    exact ⟨hp, hw⟩⟩
theorem MixG.cons {h : Int} {n : Nat} {m : List (List Int × Int)} {p : List Int} {w : Int} (k : MixG h n m) (hp : PlanC h n p) (hw : 1 ≤ w) : MixG h n ((p, w) :: m) := ⟨by simp, k.fl, k.ho, fun pw hpw => by
  rcases List.mem_cons.mp hpw with g | g
  · rw [g]
    exact ⟨hp, hw⟩
  · exact k.pl pw g⟩
theorem WtSm.snoc {m : List (List Int × Int)} {p : List Int} {w : Int} (k : WtSm m) (hl : m.length ≤ 40) (hw : 0 ≤ w ∧ w ≤ 10) : WtSm (m ++ [(p, w)]) := ⟨by simp; omega, fun pw hp => by
  rcases List.mem_append.mp hp with g | g
  · exact k.2 pw g
  · rw [List.mem_singleton.mp g]
    exact ⟨hw.1, by show w ≤ _; omega⟩⟩
theorem WtSm.cons {m : List (List Int × Int)} {p : List Int} {w : Int} (k : WtSm m) (hl : m.length ≤ 40) (hw : 0 ≤ w ∧ w ≤ 10) : WtSm ((p, w) :: m) := ⟨by simp; omega, fun pw hp => by
  rcases List.mem_cons.mp hp with g | g
  · rw [g]
    exact ⟨hw.1, by show w ≤ _; omega⟩
  · exact k.2 pw g⟩
theorem MixG.wid {h : Int} {n : Nat} {m : List (List Int × Int)} (k : MixG h n m) (hl : m.length ≤ 1000) : wid (mixD m) ≤ 1000 := wid_mix hl (by omega) fun pw hp => by
  have := (k.pl pw hp).1.1
  have := k.fl
  omega
end Hf
namespace Hf
open PySem PySem.Spec PyProof.Rows L2
/-- the last item -/
theorem atI_end {α : Type} {xs : List α} {x : α} (h : xs[xs.length - 1]? = some x) : atI xs (-1) = some x := by
  have hl : 1 ≤ xs.length := by
    have := (List.getElem?_eq_some_iff.mp h).1
    omega
  have e : ixN xs.length (-1) = some (xs.length - 1) := by
    unfold ixN
    rw [if_neg (by omega), if_pos (by omega)]
    congr 1
    omega
  unfold atI
  rw [e]
  exact h
end Hf
/-! ## comprehensions over enumerate(list) -/
namespace Hf
open PySem PySem.Spec PyProof.Rows L2
section
variable {σ : L2.St} {H H1 : Hp} {Q : VK} {K : PySem.W.Frag} {D a : Addr} {wi : TI} {g : TG} {tt : TT} {te : TE} {vs : List Nat} {xs : List V} {Qd : Hp → Prop}
theorem lcE_int (f : Nat → Int) (nD : H1 D = none) (hn : xs.length ≤ 1000) (hx : SqL K H1 a xs)
    (hs : ∀ (i : Nat) (x : V) (T : Addr) H (Z : VK) (Y : Hp → Prop), xs[i]? = some x → Same H1 H → H T = none → (∀ H4, Same H H4 → Z (.int (f i)) H4) → LcTurn g tt te vs σ (.ref T) (L2.upd H T (.tup [.int (i : Nat), x])) Z Y)
    (hd : ∀ H, Same H1 H → H D = some (.lst (((List.range xs.length).map f).map V.int)) → Qd H) :
    ∃ W : Nat → Nat → Hp → Prop, (∃ m, W 0 m (L2.upd H1 D (.lst []))) ∧ ∀ i m H, W i m H →
      ((Ite K a).stop i H ∧ Qd H) ∨ ((Ite K a).go i H ∧ ∃ Nx : Hp → Prop, (∀ H', Nx H' → ∃ m', m' < m ∧ W (i + 1) m' H') ∧ ∀ x H', (Ite K a).yld i H x H' → g x (wipe σ vs) H' fun σ2 H2 => wipe σ2 vs = wipe σ vs ∧ tt σ2 H2 fun b H3 =>
        if b = true then te σ2 H3 fun y H4 => ∃ acc, H4 D = some (.lst acc) ∧ acc.length < sizeLine ∧ Nx (L2.upd H4 D (.lst (acc ++ [y]))) else Nx H3) := by
  let P : Nat → Hp → Prop := fun i H => Same H1 H ∧ H D = some (.lst (((List.range i).map f).map V.int))
  refine ⟨fun i m H => m = xs.length - i ∧ i ≤ xs.length ∧ P i H, ⟨xs.length, by simp, Nat.zero_le _, Same.new nD, L2.upd_same⟩, ?_⟩
  rintro i m H ⟨rfl, hi, hsame, hD⟩
  by_cases hlt : i < xs.length
  · have hx' : xs[i]? = some xs[i] := List.getElem?_eq_getElem hlt
    have qx : SqL K H a xs := hsame.seq hx
    have hz : ((((List.range i).map f).map V.int)).length < sizeLine := sz4' (by simp; omega)
    refine .inr ⟨⟨xs, _, qx, hx'⟩, P (i + 1), fun H' p' => ⟨xs.length - (i + 1), by omega, rfl, hlt, p'⟩, fun v H' y => ?_⟩
    obtain ⟨T, x', rfl, hT, rfl, f1⟩ := y
    have e1 := (f1 xs qx).symm.trans hx'
    cases e1
    refine hs i xs[i] T H _ _ hx' hsame hT fun H4 h4 => ⟨_, h4 _ _ hD, hz, Same.mut (hsame.trans h4) nD, ?_⟩
    rw [L2.upd_same, List.range_succ, List.map_append, List.map_append]
    rfl
  · have e : i = xs.length := by omega
    subst e
    exact .inl ⟨⟨xs, hsame.seq hx, Nat.le_refl _⟩, hd H hsame hD⟩
theorem forE {g : TG} {tb : TS} {nx : L2.St → Hp → Prop} {rt : VK} (Pv : Nat → L2.St → Hp → Prop) (h0 : Pv 0 σ H) (hl : ∀ i σ H, i ≤ xs.length → Pv i σ H → SqL K H a xs) (hd : ∀ σ H, Pv xs.length σ H → nx σ H)
    (hs : ∀ (i : Nat) x (T : Addr) σ H, xs[i]? = some x → Pv i σ H → H T = none → g (.ref T) σ (L2.upd H T (.tup [.int (i : Nat), x])) fun σ2 H2 => tb ⟨Pv (i + 1), rt, nx, Pv (i + 1)⟩ σ2 H2) :
    ∃ W : Nat → Nat → L2.St → Hp → Prop, (∃ m, W 0 m σ H) ∧ ∀ i m σ H, W i m σ H →
      ((Ite K a).stop i H ∧ nx σ H) ∨ ((Ite K a).go i H ∧ ∃ N : L2.St → Hp → Prop, (∀ σ' H', N σ' H' → ∃ m', m' < m ∧ W (i + 1) m' σ' H') ∧ ∀ x H', (Ite K a).yld i H x H' → g x σ H' fun σ2 H2 => tb ⟨N, rt, nx, N⟩ σ2 H2) := by
  refine ⟨fun i m σ H => m = xs.length - i ∧ i ≤ xs.length ∧ Pv i σ H, ⟨xs.length, by simp, Nat.zero_le _, h0⟩, ?_⟩
  rintro i m σ H ⟨rfl, hi, hp⟩
  have qx := hl i σ H hi hp
  by_cases hlt : i < xs.length
  · have hx' : xs[i]? = some xs[i] := List.getElem?_eq_getElem hlt
    refine .inr ⟨⟨xs, _, qx, hx'⟩, Pv (i + 1), fun σ' H' p' => ⟨xs.length - (i + 1), by omega, rfl, hlt, p'⟩, fun v H' y => ?_⟩
    obtain ⟨T, x', rfl, hT, rfl, f1⟩ := y
    have e1 := (f1 xs qx).symm.trans hx'
    cases e1
    exact hs i xs[i] T σ H hx' hp hT
  · have e : i = xs.length := by omega
    subst e
    exact .inl ⟨⟨xs, qx, Nat.le_refl _⟩, hd σ H hp⟩
theorem i_ienum {ta : TA} {R : It → Hp → Prop} (h : ta σ H fun vs H1 => ∃ a xs, vs = [.ref a] ∧ SqL K H1 a xs ∧ R (Ite K a) H1) : iEnum K ta σ H R := h
theorem i_ienum' {R : Addr → Prop} (h1 : SqL K H a xs) (q : R a) : ∃ a' xs, [V.ref a] = [.ref a'] ∧ SqL K H a' xs ∧ R a' := ⟨a, xs, rfl, h1, q⟩
end
theorem _root_.L2.Same.but {G H1 H2 : Hp} {a : Addr} (s : Same G H1) (e : But a H1 H2) (n : G a = none) : Same G H2 := fun b o h => e b o (fun c => by rw [c, n] at h; cases h) (s b o h)
theorem Newly.back' {H G : Hp} {p : Addr} {o : HO} (n : Newly H G) (h : G p = some o) : H p = none := by
  cases e : H p with
  | none => rfl
  | some u =>
    rw [n p u e] at h
    cases h
theorem i_revR {K : PySem.W.Frag} {te : TE} {σ : L2.St} {H : Hp} {Q : VK} (h : te σ H fun x H1 => ∃ a xs, x = .ref a ∧ SqL K H1 a xs ∧ ∀ p, H1 p = none → Q (.ref p) (L2.upd H1 p (.lst xs.reverse))) : tRevL K te σ H Q := h
theorem i_revR' {K : PySem.W.Frag} {xs : List V} {p : Addr} {H : Hp} {Q : VK} (h : SqL K H p xs) (q : ∀ p, H p = none → Q (.ref p) (L2.upd H p (.lst xs.reverse))) : ∃ a xs, V.ref p = .ref a ∧ SqL K H a xs ∧ ∀ p, H p = none → Q (.ref p) (L2.upd H p (.lst xs.reverse)) := ⟨p, xs, rfl, h, q⟩
theorem pi_enumK {X : Cx} (K : PySem.W.Frag) (eK : X.K = K) {e : Expr} {ta : TA} {p pos tpos : Pos} {elts : List Expr} {kk : Nat} (hg : Gl X "enumerate") (hm : X.mg "enumerate" = none) (ha : PA X [e] ta) (hs : starEach [e] X.env = [(false, eval e X.env)] := by rfl) :
    PI X (.Tuple elts kk tpos) (.Call (.Name "enumerate" p) [e] [] pos) (iEnum K ta) := by
  subst eK
  exact pi_enum hg hm ha hs
end Hf
/-! ## dicts whose keys are ints, their values ints -/
namespace Hf
open PySem PySem.Spec PyProof.Rows L2
def keqI (ks ls : List (Key × V)) : Bool := ks.length == ls.length && ks.all fun p => decide (valV ls p.1 = some p.2)
def IntVals (ks : List (Key × V)) : Prop := ∀ p ∈ ks, ∃ i : Int, p.2 = .int i
theorem IntVals.val {ks : List (Key × V)} (h : IntVals ks) {k : Key} {v : V} (e : valV ks k = some v) : ∃ i : Int, v = .int i := by
  unfold valV at e
  cases c : ks.find? (fun kv => decide (kv.1 = k)) with
  | none => rw [c] at e; cases e
  | some p =>
    rw [c] at e
    cases e
    exact h p (List.mem_of_find?_eq_some c)
theorem hits_int {A : Around} {s : Shared} {ls : List (Key × V)} {vb : List (Key × Value)} (rb : KV ls vb) (hl : IntVals ls) {ks : List (Key × V)} {va : List (Key × Value)} (ra : KV ks va) :
    IntVals ks → PySem.W.KeqHits A s vb va (ks.all fun p => decide (valV ls p.1 = some p.2)) := by
  unfold KV at ra
  induction ra with
  | nil => intro _; exact .nil
  | @cons p q ps qs h t ih =>
    intro hp
    obtain ⟨h1, h2⟩ := h
    obtain ⟨k, v⟩ := q
    have h1' : p.1 = k := h1
    subst h1'
    have ih' := ih fun p' hm => hp p' (List.mem_cons_of_mem _ hm)
    rw [List.all_cons]
    have rr := rb.val p.1
    cases c : valV ls p.1 with
    | none =>
      rw [c] at rr
      cases d : valueAt vb p.1 with
      | none =>
        rw [decide_eq_false (by nofun), Bool.false_and]
        exact .miss d
      | some y => rw [d] at rr; cases rr
    | some w =>
      rw [c] at rr
      obtain ⟨y, hy, ry⟩ := rr.some_of
      obtain ⟨i, hi⟩ := hp p List.mem_cons_self
      obtain ⟨j, rfl⟩ := hl.val c
      rw [hi] at h2
      obtain ⟨t1, rfl⟩ := h2
      obtain ⟨t2, rfl⟩ := ry
      have e : decide (some (V.int j) = some p.2) = (i == j) := by
        rw [hi, Bool.eq_iff_iff, decide_eq_true_iff, beq_iff_eq]
        exact ⟨fun z => by injection z with z; injection z with z; exact z.symm, fun z => by rw [z]⟩
      rw [e]
      exact .hit hy (SeqAt.EqAt.int_int i t1 j t2) ih'
section
variable {X : Cx}
def rEqDI : R2 := fun x y H Q => ∃ a b ks ls, x = .ref a ∧ y = .ref b ∧ H a = some (.dK ks) ∧ H b = some (.dK ls) ∧ IntVals ks ∧ IntVals ls ∧ Q (.bl (keqI ks ls)) H
def rNeDI : R2 := fun x y H Q => ∃ a b ks ls, x = .ref a ∧ y = .ref b ∧ H a = some (.dK ks) ∧ H b = some (.dK ls) ∧ IntVals ks ∧ IntVals ls ∧ Q (.bl (!keqI ks ls)) H
theorem op_eqDI (hu : X.A.units < cLine) : OpR X (compareOp .Eq) rEqDI := by
  intro pins s σ H x y v u Q I rx ry h
  obtain ⟨a, b, ks, ls, rfl, rfl, ea, eb, n1, n2, q⟩ := h
  obtain rfl : v = Value.ref a := rx
  obtain rfl : u = Value.ref b := ry
  obtain ⟨_, ya, va, ra, da⟩ := (show ObjOk X.prog X.w H s.heap a (.dK ks) from I.hok a _ ea)
  obtain ⟨_, yb, vb, rb, db⟩ := (show ObjOk X.prog X.w H s.heap b (.dK ls) from I.hok b _ eb)
  refine PySem.W.keq_eq (knd := mixKind X.prog X.w) ya yb da db hu (fun _ => hits_int rb n2 ra n1) (fin_bl I q ?_)
  rw [keqI, ra.length, rb.length]
theorem op_neDI (hu : X.A.units < cLine) : OpR X (compareOp .NotEq) rNeDI := by
  intro pins s σ H x y v u Q I rx ry h
  obtain ⟨a, b, ks, ls, rfl, rfl, ea, eb, n1, n2, q⟩ := h
  obtain rfl : v = Value.ref a := rx
  obtain rfl : u = Value.ref b := ry
  obtain ⟨_, ya, va, ra, da⟩ := (show ObjOk X.prog X.w H s.heap a (.dK ks) from I.hok a _ ea)
  obtain ⟨_, yb, vb, rb, db⟩ := (show ObjOk X.prog X.w H s.heap b (.dK ls) from I.hok b _ eb)
  refine PySem.W.keq_ne (knd := mixKind X.prog X.w) ya yb da db hu (fun _ => hits_int rb n2 ra n1) (fin_bl I q ?_)
  rw [keqI, ra.length, rb.length]
end
section
variable {σ : L2.St} {H : Hp} {Q : VK} {K : PySem.W.Frag} {a b p : Addr} {ks ls : List (Key × V)} {i : Int} {v : V} {nx bk ct : L2.St → Hp → Prop} {rt : VK}
theorem i_eqDI (h1 : H a = some (.dK ks)) (h2 : H b = some (.dK ls)) (n1 : IntVals ks) (n2 : IntVals ls) (q : Q (.bl (keqI ks ls)) H) : rEqDI (.ref a) (.ref b) H Q := ⟨a, b, ks, ls, rfl, rfl, h1, h2, n1, n2, q⟩
theorem i_neDI (h1 : H a = some (.dK ks)) (h2 : H b = some (.dK ls)) (n1 : IntVals ks) (n2 : IntVals ls) (q : Q (.bl (!keqI ks ls)) H) : rNeDI (.ref a) (.ref b) H Q := ⟨a, b, ks, ls, rfl, rfl, h1, h2, n1, n2, q⟩
theorem i_dnewK (h : ∀ p, H p = none → Q (.ref p) (L2.upd H p (.dK []))) : tDNewK σ H Q := h
theorem i_isDK {A : Addr → Prop} (h : H a = some (.dK ks)) (q : A a) : ∃ a', V.ref a = .ref a' ∧ IsD H a' ∧ A a' := ⟨a, rfl, .inl ⟨ks, .inl h⟩, q⟩
theorem i_dgoK {R : Option V → Prop} (h : H a = some (.dK ks)) (q : R (valV ks (.inl i))) : ∃ o, DGet H a (.int i) o ∧ R o := ⟨_, DGet.k (k := .inl i) h, q⟩
theorem i_dpK {Z : Hp → Prop} (h : H a = some (.dK ks)) (hz : ks.length ≤ 1000000) (q : Z (L2.upd H a (.dK (putK ks (.inl i) v)))) : DpR v (.ref a) (.int i) H Z := ⟨a, _, rfl, DPut.k (k := .inl i) h (sz4' hz), q⟩
theorem i_lstDK (h : H a = some (.dK ks)) (q : ∀ l, H l = none → Q (.ref l) (L2.upd H l (.lst (ks.map fun kv => kV kv.1)))) : rListD [.ref a] H Q := ⟨a, ks, rfl, h, q⟩
end
/-! ### what such a dict stands for: sums by ints -/
def addI (f : Int → Int) (i w : Int) : Int → Int := fun a => if a = i then f a + w else f a
structure FlI (kvs : List (Key × V)) (f : Int → Int) : Prop where
  pos : ∀ i, 0 ≤ f i
  ks : ∀ kv ∈ kvs, ∃ i : Int, kv = (.inl i, .int (f i)) ∧ f i ≠ 0
  nd : (kvs.map (·.1)).Nodup
  vl : ∀ i, valV kvs (.inl i) = if f i = 0 then none else some (.int (f i))
theorem FlI.nil : FlI [] (fun _ => 0) := ⟨fun _ => Int.le_refl _, nofun, List.nodup_nil, fun _ => by rw [if_pos rfl]; rfl⟩
theorem FlI.get {kvs : List (Key × V)} {f : Int → Int} (h : FlI kvs f) (i : Int) : (valV kvs (.inl i)).getD (.int 0) = .int (f i) := by
  rw [h.vl]
  split
  · rename_i e
    rw [e]
    rfl
  · rfl
theorem FlI.ints {kvs : List (Key × V)} {f : Int → Int} (h : FlI kvs f) : IntVals kvs := fun p hp => by
  obtain ⟨i, rfl, _⟩ := h.ks p hp
  exact ⟨_, rfl⟩
theorem FlI.add {kvs : List (Key × V)} {f : Int → Int} (h : FlI kvs f) {i w : Int} (hw : 1 ≤ w) : FlI (putK kvs (.inl i) (.int (f i + w))) (addI f i w) := by
  have hnn := h.pos
  have e0 : addI f i w i = f i + w := if_pos rfl
  have e1 : ∀ a, a ≠ i → addI f i w a = f a := fun a ha => if_neg ha
  refine ⟨fun a => ?_, fun kv hkv => ?_, ?_, fun a => ?_⟩
  · by_cases c : a = i
    · rw [c, e0]
      have := hnn i
      omega
    · rw [e1 a c]
      exact hnn a
  · unfold putK at hkv
    split at hkv
    · obtain ⟨kv', h1, h2⟩ := List.mem_map.mp hkv
      obtain ⟨a, e2, e3⟩ := h.ks kv' h1
      rw [e2] at h2
      simp only at h2
      by_cases c : a = i
      · subst c
        rw [if_pos rfl] at h2
        refine ⟨a, by rw [← h2, e0], ?_⟩
        rw [e0]
        have := hnn a
        omega
      · rw [if_neg (fun z => c (by injection z))] at h2
        exact ⟨a, by rw [← h2, e1 a c], by rw [e1 a c]; exact e3⟩
    · next hany =>
      rcases List.mem_append.mp hkv with z | z
      · obtain ⟨a, e2, e3⟩ := h.ks kv z
        have c : a ≠ i := fun x => hany (by
          rw [List.any_eq_true]
          exact ⟨kv, z, decide_eq_true (by rw [e2, x])⟩)
        exact ⟨a, by rw [e2, e1 a c], by rw [e1 a c]; exact e3⟩
      · rw [List.mem_singleton.mp z]
        refine ⟨i, by rw [e0], ?_⟩
        rw [e0]
        have := hnn i
        omega
  · rw [putK_keys]
    split
    · exact h.nd
    · next hany =>
      rw [List.nodup_append]
      refine ⟨h.nd, by simp, fun a ha b hb e => hany ?_⟩
      rw [List.mem_singleton.mp hb] at e
      obtain ⟨kv, h1, h2⟩ := List.mem_map.mp ha
      rw [List.any_eq_true]
      exact ⟨kv, h1, decide_eq_true (by rw [h2, e])⟩
  · rw [valV_put]
    by_cases c : a = i
    · subst c
      have := hnn a
      rw [if_pos rfl, e0, if_neg (by omega)]
    · rw [if_neg (fun z => c (by injection z)), h.vl, e1 a c]
theorem putI_len {kvs : List (Key × V)} {k : Key} {v : V} : (putK kvs k v).length ≤ kvs.length + 1 := by
  unfold putK
  split
  · rw [List.length_map]; omega
  · rw [List.length_append]; exact Nat.le_refl _
theorem nodup_le {α : Type} [DecidableEq α] : ∀ {xs ys : List α}, xs.Nodup → (∀ x ∈ xs, x ∈ ys) → xs.length ≤ ys.length
  | [], _, _, _ => Nat.zero_le _
  | x :: xs, ys, nd, h => by
    have h1 := h x List.mem_cons_self
    rw [List.nodup_cons] at nd
    have := nodup_le (ys := ys.erase x) nd.2 fun y hy => (List.mem_erase_of_ne (fun e => nd.1 (by rw [← e]; exact hy))).mpr (h y (List.mem_cons_of_mem _ hy))
    rw [List.length_erase_of_mem h1] at this
    have h2 : 0 < ys.length := List.length_pos_of_mem h1
    rw [List.length_cons]
    omega
theorem nodup_back {α : Type} [DecidableEq α] {xs ys : List α} (nd : xs.Nodup) (h : ∀ x ∈ xs, x ∈ ys) (hl : ys.length ≤ xs.length) : ∀ y ∈ ys, y ∈ xs := fun y hy => by
  by_cases c : y ∈ xs
  · exact c
  · have := nodup_le (xs := y :: xs) (List.nodup_cons.mpr ⟨c, nd⟩) fun x hx => by
      rcases List.mem_cons.mp hx with rfl | z
      · exact hy
      · exact h x z
    rw [List.length_cons] at this
    omega
theorem FlI.mem {kvs : List (Key × V)} {f : Int → Int} (h : FlI kvs f) {k : Key} : k ∈ kvs.map (·.1) ↔ ∃ i : Int, k = .inl i ∧ f i ≠ 0 := by
  constructor
  · intro z
    obtain ⟨kv, h1, h2⟩ := List.mem_map.mp z
    obtain ⟨i, e, c⟩ := h.ks kv h1
    exact ⟨i, by rw [← h2, e], c⟩
  · rintro ⟨i, rfl, c⟩
    have := h.vl i
    rw [if_neg c] at this
    unfold valV at this
    cases d : kvs.find? (fun kv => decide (kv.1 = .inl i)) with
    | none => rw [d] at this; cases this
    | some p =>
      have h1 := List.mem_of_find?_eq_some d
      have h2 := List.find?_some d
      exact List.mem_map.mpr ⟨p, h1, of_decide_eq_true h2⟩
theorem keqI_iff {ks ls : List (Key × V)} {f g : Int → Int} (h1 : FlI ks f) (h2 : FlI ls g) : keqI ks ls = true ↔ ∀ i, f i = g i := by
  unfold keqI
  rw [Bool.and_eq_true, beq_iff_eq, List.all_eq_true]
  constructor
  · rintro ⟨hl, ha⟩ i
    have key : ∀ i, f i ≠ 0 → g i = f i := fun i c => by
      obtain ⟨kv, m1, m2⟩ := List.mem_map.mp (h1.mem.mpr ⟨i, rfl, c⟩)
      obtain ⟨j, e, _⟩ := h1.ks kv m1
      have := of_decide_eq_true (ha kv m1)
      rw [e] at m2 this
      injection m2 with m2
      subst m2
      rw [h2.vl] at this
      split at this
      · cases this
      · injection this with this
        injection this
    by_cases c : f i = 0
    · by_cases d : g i = 0
      · rw [c, d]
      · have sub : ∀ k ∈ ks.map (·.1), k ∈ ls.map (·.1) := fun k hk => by
          obtain ⟨j, rfl, cj⟩ := h1.mem.mp hk
          exact h2.mem.mpr ⟨j, rfl, by rw [key j cj]; exact cj⟩
        have := nodup_back h1.nd sub (by rw [List.length_map, List.length_map]; omega) _ (h2.mem.mpr ⟨i, rfl, d⟩)
        obtain ⟨j, e, cj⟩ := h1.mem.mp this
        injection e with e
        subst e
        exact absurd c cj
    · exact (key i c).symm
  · intro e
    have s1 : ∀ k ∈ ks.map (·.1), k ∈ ls.map (·.1) := fun k hk => by
      obtain ⟨j, rfl, cj⟩ := h1.mem.mp hk
      exact h2.mem.mpr ⟨j, rfl, by rw [← e]; exact cj⟩
    have s2 : ∀ k ∈ ls.map (·.1), k ∈ ks.map (·.1) := fun k hk => by
      obtain ⟨j, rfl, cj⟩ := h2.mem.mp hk
      exact h1.mem.mpr ⟨j, rfl, by rw [e]; exact cj⟩
    have l1 := nodup_le h1.nd s1
    have l2 := nodup_le h2.nd s2
    rw [List.length_map, List.length_map] at l1 l2
    refine ⟨by omega, fun p hp => ?_⟩
    obtain ⟨i, rfl, c⟩ := h1.ks p hp
    rw [decide_eq_true_iff, h2.vl, ← e, if_neg c]
theorem nodup_of_map {α β : Type} {f : α → β} : ∀ {xs : List α}, (xs.map f).Nodup → xs.Nodup
  | [], _ => List.nodup_nil
  | x :: xs, h => by
    rw [List.map_cons, List.nodup_cons] at h
    exact List.nodup_cons.mpr ⟨fun m => h.1 (List.mem_map_of_mem m), nodup_of_map h.2⟩
theorem FlI.keys {kvs : List (Key × V)} {f : Int → Int} (h : FlI kvs f) : ∃ ns : List Int, (kvs.map fun kv => kV kv.1) = ns.map V.int ∧ ns.length = kvs.length ∧ ns.Nodup ∧ ∀ i, i ∈ ns ↔ f i ≠ 0 := by
  have key : ∀ {kvs : List (Key × V)}, (∀ kv ∈ kvs, ∃ i : Int, kv.1 = .inl i) → ∃ ns : List Int, kvs.map (·.1) = ns.map Sum.inl := by
    intro kvs
    induction kvs with
    | nil => intro _; exact ⟨[], rfl⟩
    | cons kv kvs ih =>
      intro h
      obtain ⟨i, e⟩ := h kv List.mem_cons_self
      obtain ⟨ns, e2⟩ := ih fun x hx => h x (List.mem_cons_of_mem _ hx)
      exact ⟨i :: ns, by rw [List.map_cons, e, e2]; rfl⟩
  obtain ⟨ns, e⟩ := key fun kv hkv => by
    obtain ⟨i, rfl, _⟩ := h.ks kv hkv
    exact ⟨i, rfl⟩
  have hn := h.nd
  rw [e] at hn
  refine ⟨ns, ?_, ?_, ?_, fun i => ?_⟩
  · have : (kvs.map fun kv => kV kv.1) = (kvs.map (·.1)).map kV := by rw [List.map_map]; rfl
    rw [this, e, List.map_map]
    rfl
  · have := congrArg List.length e
    rw [List.length_map, List.length_map] at this
    exact this.symm
  · exact nodup_of_map hn
  · have := h.mem (k := .inl i)
    rw [e] at this
    constructor
    · intro m
      obtain ⟨j, e1, e2⟩ := this.mp (List.mem_map_of_mem m)
      injection e1 with e1
      rw [e1]
      exact e2
    · intro c
      obtain ⟨j, m, e1⟩ := List.mem_map.mp (this.mpr ⟨i, rfl, c⟩)
      injection e1 with e1
      rw [← e1]
      exact m
end Hf
namespace Hf
open PySem PySem.Spec PyProof.Rows L2
theorem op_leTK {X : Cx} (K : PySem.W.Frag) (eK : X.K = K) (hu : X.A.units < cLine) : OpR X (compareOp .LtE) (rLeT K) := by
  subst eK
  exact op_leT hu
/-- (a, b) <= (c, d) -/
theorem i_leT2 {K : PySem.W.Frag} {H : Hp} {Q : VK} {p q : Addr} {a b c d : Int} (h1 : SqT K H p [.int a, .int b]) (h2 : SqT K H q [.int c, .int d]) (k : Q (.bl (decide (a < c ∨ (a = c ∧ b ≤ d)))) H) : rLeT K (.ref p) (.ref q) H Q := by
  refine ⟨p, q, [a, b], [c, d], rfl, rfl, h1, h2, ?_⟩
  have e : Ob.lexAt (fun j => decide ([a, b].getD j 0 = [c, d].getD j 0)) (fun j => decide ([a, b].getD j 0 ≤ [c, d].getD j 0)) (decide ([a, b].length ≤ [c, d].length)) 0 (min [a, b].length [c, d].length) = decide (a < c ∨ (a = c ∧ b ≤ d)) := by
    show (if decide (a = c) = true then (if decide (b = d) = true then decide (2 ≤ 2) else decide (b ≤ d)) else decide (a ≤ c)) = _
    by_cases e1 : a = c
    · rw [if_pos (decide_eq_true e1)]
      by_cases e2 : b = d
      · rw [if_pos (decide_eq_true e2), Bool.eq_iff_iff]
        simp
        omega
      · rw [if_neg (by simp [e2]), Bool.eq_iff_iff]
        simp
        omega
    · rw [if_neg (by simp [e1]), Bool.eq_iff_iff]
      simp
      omega
  rw [e]
  exact k
end Hf
namespace Hf
open PySem PySem.Spec PyProof.Rows L2
/-- (a, b) >= (c, d) -/
def rGe2 (K : PySem.W.Frag) : R2 := fun x y H Q => ∃ (p q : Addr) (a b c d : Int), x = .ref p ∧ y = .ref q ∧ SqT K H p [.int a, .int b] ∧ SqT K H q [.int c, .int d] ∧ Q (.bl (decide (c < a ∨ (c = a ∧ d ≤ b)))) H
theorem op_geTK {X : Cx} (K : PySem.W.Frag) (eK : X.K = K) (hu : X.A.units < cLine) : OpR X (compareOp .GtE) (rGe2 K) := by
  subst eK
  intro pins s σ H x y v u Q I rx ry h
  obtain ⟨p, q, a, b, c, d, rfl, rfl, hp, hq, k⟩ := h
  cases rx
  cases ry
  obtain ⟨its, r1, w1, _⟩ := I.tuple hp
  obtain ⟨jts, r2, w2, _⟩ := I.tuple hq
  obtain ⟨v1, v2, rfl, ⟨t1, rfl⟩, ⟨t2, rfl⟩⟩ := vals2 r1
  obtain ⟨v3, v4, rfl, ⟨t3, rfl⟩, ⟨t4, rfl⟩⟩ := vals2 r2
  have two : ∀ {j : Nat}, j < (#[Value.int a t1, Value.int b t2] : Array Value).size → j = 0 ∨ j = 1 := fun h => by
    have : _ < 2 := h
    omega
  have main := Ob.RcOp.tuples_ge (A := X.A) (s := s) (e := fun j => if j = 0 then a == c else b == d) (r := fun j => if j = 0 then decide (c ≤ a) else decide (d ≤ b)) w1 w2 hu
    (fun j h1 h2 => by rcases two h1 with rfl | rfl <;> exact SeqAt.EqAt.int_int _ _ _ _)
    (fun j h1 h2 _ => by rcases two h1 with rfl | rfl <;> exact Ob.RcOp.ge_int _ _ _ _)
  have val : Ob.lexAt (fun j => if j = 0 then a == c else b == d) (fun j => if j = 0 then decide (c ≤ a) else decide (d ≤ b)) (decide (2 ≥ 2)) 0 2 = decide (c < a ∨ (c = a ∧ d ≤ b)) := by
    show (if (a == c) = true then (if (b == d) = true then decide (2 ≥ 2) else decide (d ≤ b)) else decide (c ≤ a)) = _
    by_cases e1 : a = c
    · rw [if_pos (beq_iff_eq.mpr e1)]
      by_cases e2 : b = d
      · rw [if_pos (beq_iff_eq.mpr e2), Bool.eq_iff_iff]
        simp
        omega
      · rw [if_neg (fun z => e2 (beq_iff_eq.mp z)), Bool.eq_iff_iff]
        simp
        omega
    · rw [if_neg (fun z => e1 (beq_iff_eq.mp z)), Bool.eq_iff_iff]
      simp
      omega
  have fin : EP X pins σ Q (.bool (decide (c < a ∨ (c = a ∧ d ≤ b)))) s := ⟨.bl _, H, I, rfl, k⟩
  rw [← val] at fin
  exact main X.prog X.w X.xe (EP X pins σ Q) fin
theorem i_geT2 {K : PySem.W.Frag} {H : Hp} {Q : VK} {p q : Addr} {a b c d : Int} (h1 : SqT K H p [.int a, .int b]) (h2 : SqT K H q [.int c, .int d]) (k : Q (.bl (decide (c < a ∨ (c = a ∧ d ≤ b)))) H) : rGe2 K (.ref p) (.ref q) H Q := ⟨p, q, a, b, c, d, rfl, rfl, h1, h2, k⟩
end Hf
/-! ## streams among any data -/
namespace Hf
open PySem PySem.Spec PyProof.Rows L2
def isFlD : PyData → Bool
  | .tuple [a, b, c] => isNumD a && (isNumD b && isNumD c)
  | _ => false
/-- one of a row's tuples, of at most h hosts -/
def FlOk (h : Int) (e : Fl) : Prop := 0 ≤ e.2.1 ∧ e.2.1 ≤ e.1 ∧ e.1 ≤ h ∧ 1 ≤ e.2.2
instance (h : Int) (e : Fl) : Decidable (FlOk h e) := by unfold FlOk; infer_instance
theorem fl_of {d : PyData} (h : isFlD d = true) : ∃ e : Fl, d = flD e := by
  unfold isFlD at h
  split at h
  · rw [Bool.and_eq_true, Bool.and_eq_true] at h
    obtain ⟨x, rfl⟩ := num_inv h.1
    obtain ⟨y, rfl⟩ := num_inv h.2.1
    obtain ⟨z, rfl⟩ := num_inv h.2.2
    exact ⟨(x, y, z), rfl⟩
  · cases h
/-- a row of at most h hosts -/
structure RowG (h : Int) (L : List Fl) : Prop where
  ne : 1 ≤ L.length
  ok : ∀ e ∈ L, FlOk h e
  up : ∀ (k : Nat) (a b : Fl), L[k]? = some a → L[k + 1]? = some b → lt2 a b
def IsRow (h : Int) (d : PyData) : Prop := ∃ L, d = rowD L ∧ RowG h L
noncomputable def isRowB (h : Int) (d : PyData) : Bool := @decide (IsRow h d) (Classical.propDecidable _)
theorem isRow_iff {h : Int} {d : PyData} : isRowB h d = true ↔ IsRow h d := @decide_eq_true_iff _ (Classical.propDecidable _)
theorem isRow_no {h : Int} {d : PyData} : isRowB h d = false ↔ ¬ IsRow h d := @decide_eq_false_iff_not _ (Classical.propDecidable _)
theorem flD_inj {a b : Fl} (h : flD a = flD b) : a = b := by
  obtain ⟨a1, a2, a3⟩ := a
  obtain ⟨b1, b2, b3⟩ := b
  simp [flD] at h
  simp [h]
theorem rowD_inj {L M : List Fl} (h : rowD L = rowD M) : L = M := by
  simp only [rowD] at h
  injection h with h
  exact (List.map_inj_right fun x y e => flD_inj e).mp h
theorem row_nolist {h : Int} {d : PyData} (e : isLstD d = false) : isRowB h d = false := isRow_no.mpr fun ⟨L, e1, _⟩ => by
  rw [e1] at e
  cases e
theorem row_nil {h : Int} : isRowB h (.list []) = false := isRow_no.mpr fun ⟨L, e, k⟩ => by
  have : rowD L = rowD [] := e.symm
  rw [rowD_inj this] at k
  have := k.ne
  simp at this
theorem row_nofl {h : Int} {ds : List PyData} {k : Nat} {d : PyData} (e : ds[k]? = some d) (c : ∀ x : Fl, d = flD x → ¬ FlOk h x) : isRowB h (.list ds) = false := isRow_no.mpr fun ⟨L, e1, g⟩ => by
  injection e1 with e1
  rw [e1, List.getElem?_map] at e
  cases q : L[k]? with
  | none => rw [q] at e; cases e
  | some x =>
    rw [q] at e
    cases e
    exact c x rfl (g.ok x (List.mem_of_getElem? q))
theorem fls_of {h : Int} : ∀ {ds : List PyData}, (∀ d ∈ ds, ∃ e, d = flD e ∧ FlOk h e) → ∃ L : List Fl, ds = L.map flD ∧ ∀ e ∈ L, FlOk h e
  | [], _ => ⟨[], rfl, by simp⟩
  | d :: ds, g => by
    obtain ⟨e, rfl, h1⟩ := g d (by simp)
    obtain ⟨L, rfl, h2⟩ := fls_of fun x hx => g x (List.mem_cons_of_mem _ hx)
    refine ⟨e :: L, rfl, fun x hx => ?_⟩
    rcases List.mem_cons.mp hx with rfl | z
    · exact h1
    · exact h2 x z
theorem DqAll.three {H : Hp} {vs : List V} {ds : List PyData} (q : DqAll H vs ds) (hl : vs.length = 3) : ∃ v1 v2 v3 d1 d2 d3, vs = [v1, v2, v3] ∧ ds = [d1, d2, d3] ∧ Dq H v1 d1 ∧ Dq H v2 d2 ∧ Dq H v3 d3 := by
  cases q with
  | nil => simp at hl
  | cons a q =>
    cases q with
    | nil => simp at hl
    | cons b q =>
      cases q with
      | nil => simp at hl
      | cons c q =>
        cases q with
        | nil => exact ⟨_, _, _, _, _, _, rfl, rfl, a, b, c⟩
        | cons d q => simp at hl
theorem fl_at {H : Hp} {xs : List V} {L : List Fl} (q : DqAll H xs (L.map flD)) {k : Nat} {e : Fl} (h : L[k]? = some e) : ∃ t, xs[k]? = some (.ref t) ∧ H t = some (.tup [.int e.1, .int e.2.1, .int e.2.2]) := by
  obtain ⟨w, h1, h2⟩ := q.get (d := flD e) (by rw [List.getElem?_map, h]; rfl)
  obtain ⟨t, ys, rfl, h3, h4⟩ := h2.tuple_inv
  obtain ⟨v1, v2, v3, d1, d2, d3, rfl, e2, u1, u2, u3⟩ := DqAll.three h4 (by rw [h4.len]; rfl)
  injection e2 with e3 e2
  injection e2 with e4 e2
  injection e2 with e5 e2
  subst e3 e4 e5
  rw [u1.int_inv, u2.int_inv, u3.int_inv] at h3
  exact ⟨t, h1, h3⟩
theorem row_iff {h : Int} {L : List Fl} : IsRow h (rowD L) ↔ RowG h L := ⟨fun ⟨M, e, g⟩ => by rw [rowD_inj e]; exact g, fun g => ⟨L, rfl, g⟩⟩
section
variable {σ : L2.St} {H H1 : Hp} {Q : VK} {K : PySem.W.Frag} {D l : Addr} {g : TG} {tt : TT} {te : TE} {vs : List Nat} {xs : List V} {Qd : Hp → Prop}
/-- [.. for x in (a tuple) if ..]: how many -/
theorem lcT_fl (b : Nat → Bool) (nD : H1 D = none) (hn : xs.length ≤ 1000000) (hx : SqT K H1 l xs)
    (hs : ∀ (i : Nat) (x : V) H (Z : VK) (Y : Hp → Prop), xs[i]? = some x → Same H1 H → (∀ v H4, b i = true → Same H H4 → Z v H4) → (∀ H4, b i = false → Same H H4 → Y H4) → LcTurn g tt te vs σ x H Z Y)
    (hd : ∀ acc H, H D = some (.lst acc) → Same H1 H → ((acc.length : Int) = 0 ↔ ∀ i, i < xs.length → b i = false) → acc.length ≤ xs.length → Qd H) :
    ∃ W : Nat → Nat → Hp → Prop, (∃ m, W 0 m (L2.upd H1 D (.lst []))) ∧ ∀ i m H, W i m H →
      ((Itt K l).stop i H ∧ Qd H) ∨ ((Itt K l).go i H ∧ ∃ Nx : Hp → Prop, (∀ H', Nx H' → ∃ m', m' < m ∧ W (i + 1) m' H') ∧ ∀ x H', (Itt K l).yld i H x H' → g x (wipe σ vs) H' fun σ2 H2 => wipe σ2 vs = wipe σ vs ∧ tt σ2 H2 fun b H3 =>
        if b = true then te σ2 H3 fun y H4 => ∃ acc, H4 D = some (.lst acc) ∧ acc.length < sizeLine ∧ Nx (L2.upd H4 D (.lst (acc ++ [y]))) else Nx H3) := by
  refine lcT (xs := xs) (fun i acc H => Same H1 H ∧ acc.length ≤ i ∧ (acc = [] ↔ ∀ j, j < i → b j = false)) nD ⟨Same.new nD, Nat.le_refl _, by simp⟩ (fun i acc H _ q _ => Same.seqT q.1 hx) ?_ ?_
  · rintro i x acc H Z Y hi ⟨r1, r2, r3⟩ hD hz hy
    have hi' : i < xs.length := (List.getElem?_eq_some_iff.mp hi).1
    refine hs i x H Z Y hi r1 (fun v H4 e s => hz _ _ (s _ _ hD) (sz4' (by omega)) ⟨Same.mut (r1.trans s) nD, by rw [List.length_append]; show _ + 1 ≤ _; omega, ⟨fun q => by simp at q, fun q => ?_⟩⟩) (fun H4 e s => hy _ (s _ _ hD) ⟨r1.trans s, by omega, ?_⟩)
    · rw [q i (by omega)] at e
      cases e
    · rw [r3]
      refine ⟨fun q j hj => ?_, fun q j hj => q j (by omega)⟩
      by_cases c : j = i
      · rw [c]; exact e
      · exact q j (by omega)
  · rintro acc H ⟨r1, r2, r3⟩ hD
    refine hd acc H hD r1 ?_ r2
    rw [← r3, ← List.length_eq_zero_iff]
    omega
variable {lo : Int} {n : Nat}
/-- [.. for k in range(..) if ..]: how many -/
theorem lcR_fl (b : Nat → Bool) (nD : H1 D = none) (hn : n ≤ 1000000)
    (hs : ∀ (i : Nat) H (Z : VK) (Y : Hp → Prop), i < n → Same H1 H → (∀ v H4, b i = true → Same H H4 → Z v H4) → (∀ H4, b i = false → Same H H4 → Y H4) → LcTurn g tt te vs σ (.int (lo + i)) H Z Y)
    (hd : ∀ acc H, H D = some (.lst acc) → Same H1 H → ((acc.length : Int) = 0 ↔ ∀ i, i < n → b i = false) → acc.length ≤ n → Qd H) :
    ∃ W : Nat → Nat → Hp → Prop, (∃ m, W 0 m (L2.upd H1 D (.lst []))) ∧ ∀ i m H, W i m H →
      ((Itr lo n).stop i H ∧ Qd H) ∨ ((Itr lo n).go i H ∧ ∃ Nx : Hp → Prop, (∀ H', Nx H' → ∃ m', m' < m ∧ W (i + 1) m' H') ∧ ∀ x H', (Itr lo n).yld i H x H' → g x (wipe σ vs) H' fun σ2 H2 => wipe σ2 vs = wipe σ vs ∧ tt σ2 H2 fun b H3 =>
        if b = true then te σ2 H3 fun y H4 => ∃ acc, H4 D = some (.lst acc) ∧ acc.length < sizeLine ∧ Nx (L2.upd H4 D (.lst (acc ++ [y]))) else Nx H3) := by
  refine lcR (fun i acc H => Same H1 H ∧ acc.length ≤ i ∧ (acc = [] ↔ ∀ j, j < i → b j = false)) nD ⟨Same.new nD, Nat.le_refl _, by simp⟩ ?_ ?_
  · rintro i acc H Z Y hi ⟨r1, r2, r3⟩ hD hz hy
    refine hs i H Z Y hi r1 (fun v H4 e s => hz _ _ (s _ _ hD) (sz4' (by omega)) ⟨Same.mut (r1.trans s) nD, by rw [List.length_append]; show _ + 1 ≤ _; omega, ⟨fun q => by simp at q, fun q => ?_⟩⟩) (fun H4 e s => hy _ (s _ _ hD) ⟨r1.trans s, by omega, ?_⟩)
    · rw [q i (by omega)] at e
      cases e
    · rw [r3]
      refine ⟨fun q j hj => ?_, fun q j hj => q j (by omega)⟩
      by_cases c : j = i
      · rw [c]; exact e
      · exact q j (by omega)
  · rintro acc H ⟨r1, r2, r3⟩ hD
    refine hd acc H hD r1 ?_ r2
    rw [← r3, ← List.length_eq_zero_iff]
    omega
end
theorem i_slA2 {K : PySem.W.Frag} {H : Hp} {Q : VK} {p : Addr} {x y z : V} (h : SqT K H p [x, y, z]) (q : ∀ p', H p' = none → Q (.ref p') (L2.upd H p' (.tup [x, y]))) : rSlA K (.ref p) none (some 2) H Q :=
  ⟨p, [x, y, z], rfl, h, fun c => absurd c.2 (by show ¬ HT.sIx 3 3 (some 2) = 3; decide), fun _ => q⟩
/-- whether the row does not rise behind place i -/
noncomputable def noUp (L : List Fl) (i : Nat) : Bool := @decide (¬ ∀ a b, L[i]? = some a → L[i + 1]? = some b → lt2 a b) (Classical.propDecidable _)
theorem noUp_no {L : List Fl} {i : Nat} : noUp L i = false ↔ ∀ a b, L[i]? = some a → L[i + 1]? = some b → lt2 a b := by
  have := @decide_eq_false_iff_not _ (Classical.propDecidable (¬ ∀ a b, L[i]? = some a → L[i + 1]? = some b → lt2 a b))
  rw [Classical.not_not] at this
  exact this
theorem noUp_at {L : List Fl} {i : Nat} {a b : Fl} (h1 : L[i]? = some a) (h2 : L[i + 1]? = some b) : noUp L i = decide (b.1 < a.1 ∨ (b.1 = a.1 ∧ b.2.1 ≤ a.2.1)) := by
  cases c : noUp L i with
  | false =>
    have := noUp_no.mp c a b h1 h2
    unfold lt2 at this
    symm
    rw [decide_eq_false_iff_not]
    omega
  | true =>
    symm
    rw [decide_eq_true_iff]
    have : ¬ (noUp L i = false) := by rw [c]; nofun
    rw [noUp_no] at this
    have n : ¬ lt2 a b := fun z => this fun a' b' e1 e2 => by
      rw [h1] at e1
      rw [h2] at e2
      cases e1
      cases e2
      exact z
    unfold lt2 at n
    omega
/-! ### sums by hosts -/
def sumF (key : Fl → Int) (L : List Fl) (f : Int → Int) : Int → Int := L.foldl (fun f e => addI f (key e) e.2.2) f
def zF : Int → Int := fun _ => 0
/-- what comes, what goes on, by how many hosts are left -/
def tkF (L : List Fl) : Int → Int := sumF (fun e => e.1) L zF
def gnF (L : List Fl) : Int → Int := sumF (fun e => e.1 - e.2.1) L zF
theorem sumF_snoc {key : Fl → Int} {L : List Fl} {i : Nat} {e : Fl} {f : Int → Int} (h : L[i]? = some e) : sumF key (L.take (i + 1)) f = addI (sumF key (L.take i) f) (key e) e.2.2 := by
  unfold sumF
  rw [take_snoc h, List.foldl_append]
  rfl
theorem tkF_snoc {L : List Fl} {i : Nat} {e : Fl} (h : L[i]? = some e) : tkF (L.take (i + 1)) = addI (tkF (L.take i)) e.1 e.2.2 := sumF_snoc h
theorem gnF_snoc {L : List Fl} {i : Nat} {e : Fl} (h : L[i]? = some e) : gnF (L.take (i + 1)) = addI (gnF (L.take i)) (e.1 - e.2.1) e.2.2 := sumF_snoc h
theorem sumF_ne {key : Fl → Int} : ∀ {L : List Fl} {f : Int → Int}, (∀ e ∈ L, 1 ≤ e.2.2) → (∀ i, 0 ≤ f i) → (∀ i, 0 ≤ sumF key L f i) ∧ ∀ i, sumF key L f i ≠ 0 ↔ (f i ≠ 0 ∨ ∃ e ∈ L, key e = i)
  | [], f, _, h0 => ⟨h0, fun i => by simp [sumF]⟩
  | e :: L, f, h1, h0 => by
    have p := h1 e List.mem_cons_self
    have g0 : ∀ i, 0 ≤ addI f (key e) e.2.2 i := fun i => by
      unfold addI
      have := h0 i
      split <;> omega
    obtain ⟨a, b⟩ := sumF_ne (L := L) (f := addI f (key e) e.2.2) (fun x hx => h1 x (List.mem_cons_of_mem _ hx)) g0
    refine ⟨a, fun i => ?_⟩
    show sumF key L (addI f (key e) e.2.2) i ≠ 0 ↔ _
    rw [b]
    unfold addI
    by_cases c : i = key e
    · rw [if_pos c]
      have := h0 i
      exact ⟨fun _ => .inr ⟨e, List.mem_cons_self, c.symm⟩, fun _ => .inl (by omega)⟩
    · rw [if_neg c]
      constructor
      · rintro (z | ⟨x, hx, e'⟩)
        · exact .inl z
        · exact .inr ⟨x, List.mem_cons_of_mem _ hx, e'⟩
      · rintro (z | ⟨x, hx, e'⟩)
        · exact .inl z
        · rcases List.mem_cons.mp hx with rfl | m
          · exact absurd e'.symm c
          · exact .inr ⟨x, m, e'⟩
theorem tkF_ne {L : List Fl} (h : ∀ e ∈ L, 1 ≤ e.2.2) (i : Int) : tkF L i ≠ 0 ↔ ∃ e ∈ L, e.1 = i := by
  have q := (sumF_ne (key := fun e => e.1) (f := zF) h (fun _ => Int.le_refl 0)).2 i
  show sumF (fun e => e.1) L zF i ≠ 0 ↔ _
  rw [q]
  exact ⟨fun z => z.elim (fun c => absurd rfl c) id, .inr⟩
theorem gnF_ne {L : List Fl} (h : ∀ e ∈ L, 1 ≤ e.2.2) (i : Int) : gnF L i ≠ 0 ↔ ∃ e ∈ L, e.1 - e.2.1 = i := by
  have q := (sumF_ne (key := fun e => e.1 - e.2.1) (f := zF) h (fun _ => Int.le_refl 0)).2 i
  show sumF (fun e => e.1 - e.2.1) L zF i ≠ 0 ↔ _
  rw [q]
  exact ⟨fun z => z.elim (fun c => absurd rfl c) id, .inr⟩
theorem one_int {ns : List Int} {x : Int} (nd : ns.Nodup) : ns = [x] ↔ ∀ i, i ∈ ns ↔ i = x := by
  constructor
  · rintro rfl i
    simp
  · intro h
    cases ns with
    | nil => exact absurd ((h x).mpr rfl) (by simp)
    | cons y r =>
      have e := (h y).mp List.mem_cons_self
      subst e
      cases r with
      | nil => rfl
      | cons z r =>
        have e := (h z).mp (by simp)
        subst e
        rw [List.nodup_cons] at nd
        exact absurd List.mem_cons_self nd.1
theorem RowG.fl {h : Int} {L : List Fl} (k : RowG h L) : ∀ e ∈ L, 1 ≤ e.2.2 := fun e he => (k.ok e he).2.2.2
/-- the keys of what comes are just h -/
theorem keys_one {L : List Fl} {ks : List (Key × V)} {f : Int → Int} {key : Fl → Int} {x : Int} (h : FlI ks f) (hf : ∀ i, f i ≠ 0 ↔ ∃ e ∈ L, key e = i) (ne : 1 ≤ L.length) {ns : List Int} (nd : ns.Nodup) (hn : ∀ i, i ∈ ns ↔ f i ≠ 0) : ns = [x] ↔ ∀ e ∈ L, key e = x := by
  rw [one_int nd]
  constructor
  · intro g e he
    exact (g (key e)).mp ((hn _).mpr ((hf _).mpr ⟨e, he, rfl⟩))
  · intro g i
    rw [hn, hf]
    constructor
    · rintro ⟨e, he, rfl⟩
      exact g e he
    · rintro rfl
      obtain ⟨e, he⟩ := List.exists_mem_of_length_pos ne
      exact ⟨e, he, g e he⟩
/-- the first rows of a stream -/
structure PreG (h : Int) (Ls : List (List Fl)) : Prop where
  rows : ∀ L ∈ Ls, RowG h L
  first : ∀ L, Ls[0]? = some L → ∀ e ∈ L, e.1 = h
  link : ∀ (k : Nat) (A B : List Fl), Ls[k]? = some A → Ls[k + 1]? = some B → ∀ x, tkF B x = gnF A x
/-- a stream of h hosts and n fields -/
structure StrG (h n : Int) (Ls : List (List Fl)) : Prop where
  ne : (Ls.length : Int) = n ∧ n ≠ 0
  pre : PreG h Ls
  last : ∀ L, Ls[Ls.length - 1]? = some L → ∀ e ∈ L, e.1 - e.2.1 = 0
def IsStr (h n : Int) (d : PyData) : Prop := ∃ Ls, d = strD Ls ∧ StrG h n Ls
noncomputable def isStrB (h n : Int) (d : PyData) : Bool := @decide (IsStr h n d) (Classical.propDecidable _)
theorem isStr_iff {h n : Int} {d : PyData} : isStrB h n d = true ↔ IsStr h n d := @decide_eq_true_iff _ (Classical.propDecidable _)
theorem isStr_no {h n : Int} {d : PyData} : isStrB h n d = false ↔ ¬ IsStr h n d := @decide_eq_false_iff_not _ (Classical.propDecidable _)
theorem strD_inj {L M : List (List Fl)} (h : strD L = strD M) : L = M := by
  simp only [strD] at h
  injection h with h
  exact (List.map_inj_right fun x y e => rowD_inj e).mp h
theorem str_nolist {h n : Int} {d : PyData} (e : isLstD d = false) : isStrB h n d = false := isStr_no.mpr fun ⟨L, e1, _⟩ => by
  rw [e1] at e
  cases e
theorem str_len {h n : Int} {ds : List PyData} (c : ¬ ((ds.length : Int) = n ∧ n ≠ 0)) : isStrB h n (.list ds) = false := isStr_no.mpr fun ⟨L, e1, g⟩ => by
  injection e1 with e1
  rw [e1, List.length_map] at c
  exact c g.ne
theorem str_at {Ls : List (List Fl)} {ds : List PyData} (e : PyData.list ds = strD Ls) {k : Nat} {d : PyData} (h : ds[k]? = some d) : ∃ L, Ls[k]? = some L ∧ d = rowD L := by
  injection e with e
  rw [e, List.getElem?_map] at h
  cases q : Ls[k]? with
  | none => rw [q] at h; cases h
  | some L =>
    rw [q] at h
    cases h
    exact ⟨L, rfl, rfl⟩
theorem str_norow {h n : Int} {ds : List PyData} {k : Nat} {d : PyData} (e : ds[k]? = some d) (c : ¬ IsRow h d) : isStrB h n (.list ds) = false := isStr_no.mpr fun ⟨Ls, e1, g⟩ => by
  obtain ⟨L, h1, rfl⟩ := str_at e1 e
  exact c ⟨L, rfl, g.pre.rows L (List.mem_of_getElem? h1)⟩
theorem str_nofirst {h n : Int} {ds : List PyData} {L : List Fl} (e : ds[0]? = some (rowD L)) (c : ¬ ∀ e ∈ L, e.1 = h) : isStrB h n (.list ds) = false := isStr_no.mpr fun ⟨Ls, e1, g⟩ => by
  obtain ⟨M, h1, h2⟩ := str_at e1 e
  rw [rowD_inj h2] at c
  exact c (g.pre.first M h1)
theorem str_nolink {h n : Int} {ds : List PyData} {k : Nat} {A B : List Fl} (e : ds[k]? = some (rowD A)) (e' : ds[k + 1]? = some (rowD B)) (c : ¬ ∀ x, tkF B x = gnF A x) : isStrB h n (.list ds) = false := isStr_no.mpr fun ⟨Ls, e1, g⟩ => by
  obtain ⟨M, h1, h2⟩ := str_at e1 e
  obtain ⟨M', h3, h4⟩ := str_at e1 e'
  rw [rowD_inj h2, rowD_inj h4] at c
  exact c (g.pre.link k M M' h1 h3)
theorem PreG.nil {h : Int} : PreG h [] := ⟨nofun, nofun, nofun⟩
theorem PreG.snoc {h : Int} {Ms : List (List Fl)} {L : List Fl} (k : PreG h Ms) (r : RowG h L) (c1 : Ms = [] → ∀ e ∈ L, e.1 = h) (c2 : ∀ M, Ms[Ms.length - 1]? = some M → 1 ≤ Ms.length → ∀ x, tkF L x = gnF M x) : PreG h (Ms ++ [L]) := by
  refine ⟨fun M hM => ?_, fun M hM => ?_, fun j A B hA hB => ?_⟩
  · rcases List.mem_append.mp hM with z | z
    · exact k.rows M z
    · rw [List.mem_singleton.mp z]
      exact r
  · cases Ms with
    | nil =>
      cases hM
      exact c1 rfl
    | cons A Ms => exact k.first M hM
  · by_cases e : j + 1 < Ms.length
    · rw [List.getElem?_append_left (by omega)] at hA
      rw [List.getElem?_append_left e] at hB
      exact k.link j A B hA hB
    · have hj : j + 1 = Ms.length := by
        have := (List.getElem?_eq_some_iff.mp hB).1
        rw [List.length_append] at this
        simp at this
        omega
      rw [List.getElem?_append_left (by omega)] at hA
      rw [List.getElem?_append_right (by omega), hj, Nat.sub_self] at hB
      cases hB
      exact c2 A (by rw [← hj]; exact hA) (by omega)
/-- what the last row leaves behind -/
def ComeOk (H : Hp) (cv : V) (Ms : List (List Fl)) : Prop := (Ms = [] ∧ cv = .non) ∨ ∃ M cg ks, Ms[Ms.length - 1]? = some M ∧ 1 ≤ Ms.length ∧ cv = .ref cg ∧ H cg = some (.dK ks) ∧ FlI ks (gnF M) ∧ ks.length ≤ 1000
theorem ComeOk.same {H H' : Hp} {cv : V} {Ms : List (List Fl)} (h : ComeOk H cv Ms) (s : Same H H') : ComeOk H' cv Ms := by
  rcases h with h | ⟨M, cg, ks, h1, h2, h3, h4, h5, h6⟩
  · exact .inl h
  · exact .inr ⟨M, cg, ks, h1, h2, h3, s _ _ h4, h5, h6⟩
/-- a stream of any hosts (at most forty) and fields (at most eight) -/
def AnyStr (d : PyData) : Prop := ∃ h Ls, d = strD Ls ∧ StrG h (Ls.length : Int) Ls ∧ h ≤ 40 ∧ Ls.length ≤ 8
theorem anystr_no {d : PyData} (e : isLstD d = false) : ¬ AnyStr d := fun ⟨_, L, e1, _⟩ => by
  rw [e1] at e
  cases e
theorem RowG.mono {h h' : Int} {L : List Fl} (k : RowG h L) (e : h ≤ h') : RowG h' L := ⟨k.ne, fun x hx => by
  obtain ⟨a, b, c, d⟩ := k.ok x hx
  exact ⟨a, b, by omega, d⟩, k.up⟩
theorem anystr_nil : ¬ AnyStr (.list []) := fun ⟨_, L, e, g, _⟩ => by
  have : strD L = strD [] := e.symm
  rw [strD_inj this] at g
  have := g.ne.2
  simp at this
theorem anystr_row {ds : List PyData} {d : PyData} (z : AnyStr (.list ds)) (e : ds[0]? = some d) : IsRow 40 d := by
  obtain ⟨h, Ls, e1, g, h1, _⟩ := z
  obtain ⟨L, e2, rfl⟩ := str_at e1 e
  exact ⟨L, rfl, (g.pre.rows L (List.mem_of_getElem? e2)).mono h1⟩
theorem anystr_len {ds : List PyData} (z : AnyStr (.list ds)) : ds.length ≤ 8 := by
  obtain ⟨h, Ls, e1, g, _, h2⟩ := z
  injection e1 with e1
  rw [e1, List.length_map]
  exact h2
theorem anystr_iff {ds : List PyData} {L : List Fl} {e : Fl} (h1 : ds[0]? = some (rowD L)) (h2 : L[0]? = some e) (h3 : RowG 40 L) (h4 : ds.length ≤ 8) : AnyStr (.list ds) ↔ IsStr e.1 (ds.length : Int) (.list ds) := by
  constructor
  · rintro ⟨h, Ls, e1, g, _, _⟩
    obtain ⟨M, e2, e3⟩ := str_at e1 h1
    have he := g.pre.first M e2 e (by rw [← rowD_inj e3]; exact List.mem_of_getElem? h2)
    refine ⟨Ls, e1, ?_⟩
    rw [he]
    have e4 := e1
    injection e4 with e4
    rw [e4, List.length_map]
    exact g
  · rintro ⟨Ls, e1, g⟩
    have e4 := e1
    injection e4 with e4
    rw [e4, List.length_map] at g h4
    exact ⟨e.1, Ls, e1, g, (h3.ok e (List.mem_of_getElem? h2)).2.2.1, h4⟩
def lenD : PyData → Int
  | .list ds => ds.length
  | _ => 0
section
variable {σ : L2.St} {H H1 : Hp} {Q : VK} {K : PySem.W.Frag} {D l : Addr} {g : TG} {tt : TT} {te : TE} {vs : List Nat} {xs : List V} {Qd : Hp → Prop}
/-- truths, one for each item of a tuple -/
theorem lcT_bl (f : Nat → Bool) (nD : H1 D = none) (hn : xs.length ≤ 1000000) (hx : SqT K H1 l xs)
    (hs : ∀ (i : Nat) (x : V) H (Z : VK) (Y : Hp → Prop), xs[i]? = some x → Same H1 H → (∀ H4, Same H H4 → Z (.bl (f i)) H4) → LcTurn g tt te vs σ x H Z Y)
    (hd : ∀ H, Same H1 H → H D = some (.lst (((List.range xs.length).map f).map V.bl)) → Qd H) :
    ∃ W : Nat → Nat → Hp → Prop, (∃ m, W 0 m (L2.upd H1 D (.lst []))) ∧ ∀ i m H, W i m H →
      ((Itt K l).stop i H ∧ Qd H) ∨ ((Itt K l).go i H ∧ ∃ Nx : Hp → Prop, (∀ H', Nx H' → ∃ m', m' < m ∧ W (i + 1) m' H') ∧ ∀ x H', (Itt K l).yld i H x H' → g x (wipe σ vs) H' fun σ2 H2 => wipe σ2 vs = wipe σ vs ∧ tt σ2 H2 fun b H3 =>
        if b = true then te σ2 H3 fun y H4 => ∃ acc, H4 D = some (.lst acc) ∧ acc.length < sizeLine ∧ Nx (L2.upd H4 D (.lst (acc ++ [y]))) else Nx H3) := by
  refine lcT (xs := xs) (fun i acc H => i ≤ xs.length ∧ acc = ((List.range i).map f).map V.bl ∧ Same H1 H) nD ⟨Nat.zero_le _, rfl, Same.new nD⟩ (fun i acc H _ q _ => Same.seqT q.2.2 hx) ?_ ?_
  · rintro i x acc H Z Y hi ⟨_, rfl, hsame⟩ ha hz _
    have hi' : i < xs.length := (List.getElem?_eq_some_iff.mp hi).1
    refine hs i x H Z Y hi hsame fun H4 h4 => hz _ H4 (h4 _ _ ha) (sz4' (by simp; omega)) ⟨hi', ?_, Same.mut (hsame.trans h4) nD⟩
    rw [List.range_succ, List.map_append, List.map_append]
    rfl
  · rintro acc H ⟨_, rfl, hsame⟩ ha
    exact hd H hsame ha
/-- truths, one for each item of a list -/
theorem lcL_bl (f : Nat → Bool) (nD : H1 D = none) (hn : xs.length ≤ 1000000) (hx : SqL K H1 l xs)
    (hs : ∀ (i : Nat) (x : V) H (Z : VK) (Y : Hp → Prop), xs[i]? = some x → Same H1 H → (∀ H4, Same H H4 → Z (.bl (f i)) H4) → LcTurn g tt te vs σ x H Z Y)
    (hd : ∀ H, Same H1 H → H D = some (.lst (((List.range xs.length).map f).map V.bl)) → Qd H) :
    ∃ W : Nat → Nat → Hp → Prop, (∃ m, W 0 m (L2.upd H1 D (.lst []))) ∧ ∀ i m H, W i m H →
      ((Itl K l).stop i H ∧ Qd H) ∨ ((Itl K l).go i H ∧ ∃ Nx : Hp → Prop, (∀ H', Nx H' → ∃ m', m' < m ∧ W (i + 1) m' H') ∧ ∀ x H', (Itl K l).yld i H x H' → g x (wipe σ vs) H' fun σ2 H2 => wipe σ2 vs = wipe σ vs ∧ tt σ2 H2 fun b H3 =>
        if b = true then te σ2 H3 fun y H4 => ∃ acc, H4 D = some (.lst acc) ∧ acc.length < sizeLine ∧ Nx (L2.upd H4 D (.lst (acc ++ [y]))) else Nx H3) := by
  refine lcL (xs := xs) (fun i acc H => i ≤ xs.length ∧ acc = ((List.range i).map f).map V.bl ∧ Same H1 H) nD ⟨Nat.zero_le _, rfl, Same.new nD⟩ (fun i acc H _ q _ => q.2.2.seq hx) ?_ ?_
  · rintro i x acc H Z Y hi ⟨_, rfl, hsame⟩ ha hz _
    have hi' : i < xs.length := (List.getElem?_eq_some_iff.mp hi).1
    refine hs i x H Z Y hi hsame fun H4 h4 => hz _ H4 (h4 _ _ ha) (sz4' (by simp; omega)) ⟨hi', ?_, Same.mut (hsame.trans h4) nD⟩
    rw [List.range_succ, List.map_append, List.map_append]
    rfl
  · rintro acc H ⟨_, rfl, hsame⟩ ha
    exact hd H hsame ha
theorem inV_false : ∀ bs : List Bool, L2.inV (.bl false) (bs.map V.bl) = decide (false ∈ bs)
  | [] => rfl
  | b :: bs => by
    have ih := inV_false bs
    rw [Bool.eq_iff_iff, decide_eq_true_iff]
    cases b with
    | false => simp [L2.inV, L2.eqV]
    | true =>
      have e : L2.inV (.bl false) ((true :: bs).map V.bl) = L2.inV (.bl false) (bs.map V.bl) := by simp [L2.inV, L2.eqV]
      rw [e, ih, decide_eq_true_iff]
      simp
theorem flat_bls : ∀ bs : List Bool, (bs.map V.bl).all flatV = true
  | [] => rfl
  | b :: bs => by
    rw [List.map_cons, List.all_cons, flat_bls bs]
    rfl
/-- False in a list of truths -/
theorem i_inF {p : Addr} {bs : List Bool} (h : SqL K H p (bs.map V.bl)) (q : Q (.bl (decide (false ∈ bs))) H) : rIn K false (.bl false) (.ref p) H Q := ⟨p, bs.map V.bl, rfl, .inl h, rfl, flat_bls bs, by rw [inV_false]; exact q⟩
end
theorem eqv_nil : ∀ ds : List PyData, PyData.eqv (.list ds) (.list []) = decide (ds = [])
  | [] => by simp [PyData.eqv, PyData.eqvAll]
  | d :: ds => by simp [PyData.eqv, PyData.eqvAll]
theorem shaped_nil : SeqAt.shaped (.list []) = true := shaped_of (by simp [PyData.canLay0, PyData.canLayAll0]) (by simp [dep, depA])
end Hf
/-! ## the stream of a mix is a stream -/
namespace Hf
open PySem PySem.Spec PyProof.Rows L2
theorem sumF_sum {key : Fl → Int} : ∀ {L : List Fl} {f : Int → Int} (x : Int), sumF key L f x = f x + (L.map fun e => if key e = x then e.2.2 else 0).sum
  | [], f, x => by simp [sumF]
  | e :: L, f, x => by
    show sumF key L (addI f (key e) e.2.2) x = _
    rw [sumF_sum x, List.map_cons, List.sum_cons]
    unfold addI
    by_cases c : x = key e
    · rw [if_pos c, if_pos c.symm]
      omega
    · rw [if_neg c, if_neg (fun z => c z.symm)]
      omega
theorem sum_zero {α : Type} {c : α → Int} {P : List α} (h : ∀ p ∈ P, c p = 0) : (P.map c).sum = 0 := by
  induction P with
  | nil => rfl
  | cons p P ih =>
    rw [List.map_cons, List.sum_cons, h p List.mem_cons_self, ih fun q hq => h q (List.mem_cons_of_mem _ hq)]
    rfl
theorem sum_single {α : Type} [DecidableEq α] {c : α → Int} {q : α} : ∀ {P : List α}, P.Nodup → q ∈ P → (P.map fun p => if q = p then c p else 0).sum = c q
  | [], _, h => by simp at h
  | p :: P, nd, h => by
    rw [List.nodup_cons] at nd
    rw [List.map_cons, List.sum_cons]
    by_cases e : q = p
    · subst e
      rw [if_pos rfl, sum_zero fun p hp => if_neg fun z => nd.1 (by rw [z]; exact hp)]
      omega
    · rw [if_neg e, sum_single nd.2 ((List.mem_cons.mp h).resolve_left e)]
      omega
theorem sum_add {α : Type} {a b : α → Int} : ∀ {P : List α}, (P.map fun p => a p + b p).sum = (P.map a).sum + (P.map b).sum
  | [] => rfl
  | p :: P => by
    rw [List.map_cons, List.map_cons, List.map_cons, List.sum_cons, List.sum_cons, List.sum_cons, sum_add]
    omega
/-- flows, gathered by what hangs on their places alone -/
theorem flow_sum {k : Nat} {kp : Int × Int → Int} {x : Int} {P : List (Int × Int)} (nd : P.Nodup) : ∀ {m : List (List Int × Int)}, (∀ pw ∈ m, keyAt pw.1 k ∈ P) →
    (P.map fun p => if kp p = x then flowF m k p.1 p.2 else 0).sum = (m.map fun pw => if kp (keyAt pw.1 k) = x then pw.2 else 0).sum
  | [], _ => by
    rw [sum_zero fun p _ => by show (if kp p = x then (0 : Int) else 0) = 0; split <;> rfl]
    rfl
  | pw :: m, h => by
    have ih := flow_sum (kp := kp) (x := x) nd (m := m) fun q hq => h q (List.mem_cons_of_mem _ hq)
    have s := sum_single (c := fun p => if kp p = x then pw.2 else 0) nd (h pw List.mem_cons_self)
    rw [List.map_cons, List.sum_cons, ← ih, ← s, ← sum_add]
    congr 1
    apply List.map_congr_left
    intro p _
    have e : flowF (pw :: m) k p.1 p.2 = (if keyAt pw.1 k = p then pw.2 else 0) + flowF m k p.1 p.2 := rfl
    show (if kp p = x then flowF (pw :: m) k p.1 p.2 else 0) = (if keyAt pw.1 k = p then (if kp p = x then pw.2 else 0) else 0) + (if kp p = x then flowF m k p.1 p.2 else 0)
    rw [e]
    by_cases c1 : kp p = x
    · rw [if_pos c1, if_pos c1, if_pos c1]
    · rw [if_neg c1, if_neg c1, if_neg c1]
      split <;> rfl
theorem flowF_nn {k : Nat} : ∀ {m : List (List Int × Int)}, (∀ pw ∈ m, 1 ≤ pw.2) → ∀ l s, 0 ≤ flowF m k l s
  | [], _, _, _ => Int.le_refl _
  | pw :: m, h, l, s => by
    have := flowF_nn (k := k) (m := m) (fun q hq => h q (List.mem_cons_of_mem _ hq)) l s
    have := h pw List.mem_cons_self
    show 0 ≤ (if keyAt pw.1 k = (l, s) then pw.2 else 0) + flowF m k l s
    split <;> omega
theorem flowF_ne {k : Nat} : ∀ {m : List (List Int × Int)}, (∀ pw ∈ m, 1 ≤ pw.2) → ∀ l s, flowF m k l s ≠ 0 ↔ ∃ pw ∈ m, keyAt pw.1 k = (l, s)
  | [], _, l, s => by simp [flowF]
  | pw :: m, h, l, s => by
    have h1 := flowF_nn (k := k) (m := m) (fun q hq => h q (List.mem_cons_of_mem _ hq)) l s
    have h2 := h pw List.mem_cons_self
    have ih := flowF_ne (k := k) (m := m) (fun q hq => h q (List.mem_cons_of_mem _ hq)) l s
    show (if keyAt pw.1 k = (l, s) then pw.2 else 0) + flowF m k l s ≠ 0 ↔ _
    by_cases c : keyAt pw.1 k = (l, s)
    · rw [if_pos c]
      exact ⟨fun _ => ⟨pw, List.mem_cons_self, c⟩, fun _ => by omega⟩
    · rw [if_neg c, Int.zero_add, ih]
      constructor
      · rintro ⟨q, hq, e⟩
        exact ⟨q, List.mem_cons_of_mem _ hq, e⟩
      · rintro ⟨q, hq, e⟩
        rcases List.mem_cons.mp hq with rfl | z
        · exact absurd e c
        · exact ⟨q, z, e⟩
theorem lt2_irr {a b : Fl} (h : lt2 a b) : (a.1, a.2.1) ≠ (b.1, b.2.1) := fun e => by
  injection e with e1 e2
  unfold lt2 at h
  omega
theorem row_nodup {L : List Fl} (h : L.Pairwise lt2) : (L.map fun e => (e.1, e.2.1)).Nodup := by
  unfold List.Nodup
  rw [List.pairwise_map]
  exact h.imp fun h => lt2_irr h
theorem row_gather {m : List (List Int × Int)} {k : Nat} {L : List Fl} (hw : ∀ pw ∈ m, 1 ≤ pw.2) (r : RowF (flowF m k) L) (kp : Int × Int → Int) (x : Int) :
    sumF (fun e => kp (e.1, e.2.1)) L zF x = (m.map fun pw => if kp (keyAt pw.1 k) = x then pw.2 else 0).sum := by
  rw [← flow_sum (kp := kp) (x := x) (row_nodup r.st) (m := m) (fun pw hp => ?_), sumF_sum, List.map_map]
  · show 0 + _ = _
    rw [Int.zero_add]
    congr 1
    apply List.map_congr_left
    intro e he
    show (if kp (e.1, e.2.1) = x then e.2.2 else 0) = if kp (e.1, e.2.1) = x then flowF m k e.1 e.2.1 else 0
    rw [((r.mem e).mp he).1]
  · have ne := (flowF_ne (k := k) hw (keyAt pw.1 k).1 (keyAt pw.1 k).2).mpr ⟨pw, hp, rfl⟩
    exact List.mem_map.mpr ⟨((keyAt pw.1 k).1, (keyAt pw.1 k).2, flowF m k (keyAt pw.1 k).1 (keyAt pw.1 k).2), (r.mem _).mpr ⟨rfl, ne⟩, rfl⟩
theorem sum_nn1 : ∀ {p : List Int}, (∀ x ∈ p, 0 ≤ x) → 0 ≤ p.sum
  | [], _ => by simp
  | x :: p, h => by
    have := sum_nn1 fun y hy => h y (List.mem_cons_of_mem _ hy)
    have := h x (by simp)
    rw [List.sum_cons]
    omega
theorem drop_sum {p : List Int} {k : Nat} (hk : k < p.length) : (p.drop k).sum = (p[k]?).getD 0 + (p.drop (k + 1)).sum := by
  rw [List.drop_eq_getElem_cons hk, List.sum_cons, List.getElem?_eq_getElem hk]
  rfl
theorem drop_le : ∀ {p : List Int} {k : Nat}, (∀ x ∈ p, 0 ≤ x) → (p.drop k).sum ≤ p.sum
  | [], k, _ => by simp
  | x :: p, 0, _ => Int.le_refl _
  | x :: p, k + 1, h => by
    have := drop_le (p := p) (k := k) fun y hy => h y (List.mem_cons_of_mem _ hy)
    have := h x (by simp)
    rw [List.drop_succ_cons, List.sum_cons]
    omega
theorem key_next {p : List Int} {k : Nat} (hk : k < p.length) : (keyAt p k).1 - (keyAt p k).2 = (keyAt p (k + 1)).1 := by
  unfold keyAt
  rw [drop_sum hk]
  show (p[k]?).getD 0 + (p.drop (k + 1)).sum - (p[k]?).getD 0 = (p.drop (k + 1)).sum
  omega
theorem StrOf.g {h : Int} {n : Nat} {m : List (List Int × Int)} {Ls : List (List Fl)} (r : StrOf m n Ls) (g : MixG h n m) : StrG h (n : Int) Ls := by
  have hw : ∀ pw ∈ m, 1 ≤ pw.2 := fun pw hp => (g.pl pw hp).2
  have src : ∀ {k : Nat} {L : List Fl} {e : Fl}, Ls[k]? = some L → e ∈ L → ∃ pw ∈ m, keyAt pw.1 k = (e.1, e.2.1) := fun hL he => by
    have := (((r.row _ _ hL).mem _).mp he).2
    exact (flowF_ne hw _ _).mp this
  have rows : ∀ L ∈ Ls, RowG h L := fun L hL => by
    obtain ⟨k, hk, rfl⟩ := List.mem_iff_getElem.mp hL
    have e1 : Ls[k]? = some Ls[k] := List.getElem?_eq_getElem hk
    have rr := r.row k _ e1
    have hkn : k < n := by rw [← r.len]; exact hk
    refine ⟨?_, fun e he => ?_, fun j a b h1 h2 => ?_⟩
    · obtain ⟨pw, hp⟩ : ∃ pw, pw ∈ m := List.exists_mem_of_length_pos g.ne
      have ne := (flowF_ne (k := k) hw (keyAt pw.1 k).1 (keyAt pw.1 k).2).mpr ⟨pw, hp, rfl⟩
      exact List.length_pos_of_mem ((rr.mem ((keyAt pw.1 k).1, (keyAt pw.1 k).2, flowF m k (keyAt pw.1 k).1 (keyAt pw.1 k).2)).mpr ⟨rfl, ne⟩)
    · obtain ⟨pw, hp, e2⟩ := src e1 he
      obtain ⟨⟨p1, p2, p3⟩, _⟩ := g.pl pw hp
      have hk' : k < pw.1.length := by omega
      have a1 : e.1 = (pw.1.drop k).sum := (congrArg Prod.fst e2).symm
      have a2 : e.2.1 = (pw.1[k]?).getD 0 := (congrArg Prod.snd e2).symm
      have a3 := drop_sum hk'
      have a4 : 0 ≤ (pw.1.drop (k + 1)).sum := sum_nn1 fun x hx => p3 x (List.mem_of_mem_drop hx)
      have a5 := drop_le (k := k) p3
      have a6 : 0 ≤ (pw.1[k]?).getD 0 := by
        rw [List.getElem?_eq_getElem hk']
        exact p3 _ (List.getElem_mem hk')
      have a7 := (rr.mem e).mp he
      have a8 := flowF_nn (k := k) hw e.1 e.2.1
      refine ⟨by omega, by omega, by omega, ?_⟩
      rw [a7.1]
      have := a7.2
      omega
    · obtain ⟨i1, x1⟩ := List.getElem?_eq_some_iff.mp h1
      obtain ⟨i2, x2⟩ := List.getElem?_eq_some_iff.mp h2
      have := List.pairwise_iff_getElem.mp rr.st j (j + 1) i1 i2 (by omega)
      rw [x1, x2] at this
      exact this
  have fl := g.fl
  refine ⟨⟨by rw [r.len], by omega⟩, ⟨rows, fun L hL e he => ?_, fun k A B hA hB x => ?_⟩, fun L hL e he => ?_⟩
  · obtain ⟨pw, hp, e2⟩ := src hL he
    have a1 : e.1 = (pw.1.drop 0).sum := (congrArg Prod.fst e2).symm
    rw [a1, List.drop_zero]
    exact (g.pl pw hp).1.2.1
  · have hk : k + 1 < Ls.length := (List.getElem?_eq_some_iff.mp hB).1
    have t1 := row_gather hw (r.row _ _ hB) (fun p => p.1) x
    have t2 := row_gather hw (r.row _ _ hA) (fun p => p.1 - p.2) x
    show sumF (fun e => e.1) B zF x = sumF (fun e => e.1 - e.2.1) A zF x
    rw [t1, t2]
    congr 1
    apply List.map_congr_left
    intro pw hp
    have := (g.pl pw hp).1.1
    have e := key_next (p := pw.1) (k := k) (by rw [r.len] at hk; omega)
    show (if (keyAt pw.1 (k + 1)).1 = x then pw.2 else 0) = if (keyAt pw.1 k).1 - (keyAt pw.1 k).2 = x then pw.2 else 0
    rw [e]
  · obtain ⟨pw, hp, e2⟩ := src hL he
    have hl := (g.pl pw hp).1.1
    have a1 : e.1 = (keyAt pw.1 (Ls.length - 1)).1 := (congrArg Prod.fst e2).symm
    have a2 : e.2.1 = (keyAt pw.1 (Ls.length - 1)).2 := (congrArg Prod.snd e2).symm
    have rl := r.len
    rw [a1, a2, key_next (by omega)]
    show (pw.1.drop (Ls.length - 1 + 1)).sum = 0
    rw [List.drop_of_length_le (by omega)]
    rfl
theorem StrOf.any {h : Int} {n : Nat} {m : List (List Int × Int)} {Ls : List (List Fl)} (r : StrOf m n Ls) (g : MixG h n m) : AnyStr (strD Ls) := ⟨h, Ls, rfl, by rw [r.len]; exact r.g g, g.ho.2, by rw [r.len]; exact g.fl.2⟩
/-! ### a list that is made by append, its things new and owned -/
def AccN (H1 H : Hp) (D : Addr) (acc : List V) (ds : List PyData) : Prop := Same H1 H ∧ H D = some (.lst acc) ∧ ∃ S, OwAll H acc ds S ∧ S.Nodup ∧ D ∉ S ∧ ∀ b, b ∈ S → H1 b = none
theorem AccN.nil {H1 H : Hp} {D : Addr} (s : Same H1 H) (h : H D = some (.lst [])) : AccN H1 H D [] [] := ⟨s, h, [], .nil, List.nodup_nil, by simp, nofun⟩
theorem AccN.push {H1 H H4 : Hp} {D : Addr} {acc : List V} {ds : List PyData} {v : V} {d : PyData} {S' : List Addr} (nD : H1 D = none) (h : AccN H1 H D acc ds) (k1 : OwN H H4 v d S') (k2 : Same H H4) : AccN H1 (L2.upd H4 D (.lst (acc ++ [v]))) D (acc ++ [v]) (ds ++ [d]) := by
  obtain ⟨h2, hD, S, h3, h4, h5, h6⟩ := h
  have hDS : D ∉ S' := fun z => by
    have := k1.nw D z
    rw [hD] at this
    cases this
  have kp : Kp [D] H4 (upd H4 D (.lst (acc ++ [v]))) := Kp.upd (by simp) Kp.refl
  have ht : ∀ b ys, b ∈ [D] → H4 b ≠ some (.tup ys) := fun b ys hb e => by
    rw [List.mem_singleton.mp hb, k2 _ _ hD] at e
    cases e
  have hd1 : ∀ b, b ∈ S → b ∉ [D] := fun b hb hb' => h5 (by rw [← List.mem_singleton.mp hb']; exact hb)
  have hd2 : ∀ b, b ∈ S' → b ∉ [D] := fun b hb hb' => hDS (by rw [← List.mem_singleton.mp hb']; exact hb)
  refine ⟨Same.mut (h2.trans k2) nD, upd_same, S ++ S', OwAll.snoc (OwAll.kp ht kp (h3.same k2) hd1) (Ow.kp ht kp k1.ow hd2), ?_, ?_, ?_⟩
  · rw [List.nodup_append]
    refine ⟨h4, k1.nd, fun b hb c hc e => ?_⟩
    subst e
    obtain ⟨ys, e'⟩ := h3.lists b hb
    rw [k1.nw b hc] at e'
    cases e'
  · intro z
    rcases List.mem_append.mp z with z | z
    · exact h5 z
    · exact hDS z
  · intro b hb
    rcases List.mem_append.mp hb with z | z
    · exact h6 b z
    · exact h2.free (k1.nw b z)
theorem AccN.own {H1 H : Hp} {D : Addr} {acc : List V} {ds : List PyData} (nD : H1 D = none) (h : AccN H1 H D acc ds) : ∃ S, OwN H1 H (.ref D) (.list ds) S := by
  obtain ⟨h2, hD, S, h3, h4, h5, h6⟩ := h
  exact ⟨D :: S, .lst hD h3, List.nodup_cons.mpr ⟨h5, h4⟩, fun b hb => by
    rcases List.mem_cons.mp hb with z | z
    · rw [z]; exact nD
    · exact h6 b z⟩
theorem AccN.len {H1 H : Hp} {D : Addr} {acc : List V} {ds : List PyData} (h : AccN H1 H D acc ds) : acc.length = ds.length := by
  obtain ⟨_, _, S, h3, _⟩ := h
  exact h3.dq.len
/-- a row that is new -/
theorem row_new {H1 H G : Hp} {D : Addr} {L : List Fl} (q : Dq G (.ref D) (rowD L)) (n : Newly H1 G) (s : Same G H) : OwN H1 H (.ref D) (rowD L) [D] := by
  obtain ⟨a, xs, e, h1, h2⟩ := q.list_inv
  cases e
  exact ⟨.lst (s _ _ h1) (row_own (h2.same s)), by simp, fun b hb => by rw [List.mem_singleton.mp hb]; exact n.back' h1⟩
/-- each plan sends a host more to field f -/
def moreE (f : Int) (k : Nat) (e : Fl) : Fl := (e.1 + (if (k : Int) ≤ f then 1 else 0), e.2.1 + (if (k : Int) = f then 1 else 0), e.2.2)
def moreF (f : Int) (Ls : List (List Fl)) : List (List Fl) := Ls.zipIdx.map fun q => q.1.map (moreE f q.2)
theorem moreF_len {f : Int} {Ls : List (List Fl)} : (moreF f Ls).length = Ls.length := by simp [moreF]
theorem moreF_at {f : Int} {Ls : List (List Fl)} {k : Nat} : (moreF f Ls)[k]? = (Ls[k]?).map fun L => L.map (moreE f k) := by
  unfold moreF
  rw [List.getElem?_map, List.getElem?_zipIdx]
  cases Ls[k]? <;> simp
theorem moreF_take {f : Int} {Ls : List (List Fl)} {i : Nat} {L : List Fl} (h : Ls[i]? = some L) : (moreF f Ls).take (i + 1) = (moreF f Ls).take i ++ [L.map (moreE f i)] := take_snoc (by rw [moreF_at, h]; rfl)
/-! ### a row by the law's own look: no bound for hosts -/
def IsRowA (d : PyData) : Prop := ∃ h, IsRow h d
noncomputable def isRowAB (d : PyData) : Bool := @decide (IsRowA d) (Classical.propDecidable _)
theorem isRowA_iff {d : PyData} : isRowAB d = true ↔ IsRowA d := @decide_eq_true_iff _ (Classical.propDecidable _)
theorem isRowA_no {d : PyData} : isRowAB d = false ↔ ¬ IsRowA d := @decide_eq_false_iff_not _ (Classical.propDecidable _)
theorem rowA_nolist {d : PyData} (e : isLstD d = false) : isRowAB d = false := isRowA_no.mpr fun ⟨h, z⟩ => by
  have := row_nolist (h := h) e
  rw [isRow_no] at this
  exact this z
theorem rowA_nil : isRowAB (.list []) = false := isRowA_no.mpr fun ⟨h, z⟩ => isRow_no.mp (row_nil (h := h)) z
def FlOkA (e : Fl) : Prop := 0 ≤ e.2.1 ∧ e.2.1 ≤ e.1 ∧ 1 ≤ e.2.2
theorem rowA_nofl {ds : List PyData} {k : Nat} {d : PyData} (e : ds[k]? = some d) (c : ∀ x : Fl, d = flD x → ¬ FlOkA x) : isRowAB (.list ds) = false := isRowA_no.mpr fun ⟨h, z⟩ =>
  isRow_no.mp (row_nofl (h := h) e fun x ex ok => c x ex ⟨ok.1, ok.2.1, ok.2.2.2⟩) z
theorem flsA_of : ∀ {ds : List PyData}, (∀ d ∈ ds, ∃ e, d = flD e ∧ FlOkA e) → ∃ L : List Fl, ds = L.map flD ∧ ∀ e ∈ L, FlOkA e
  | [], _ => ⟨[], rfl, by simp⟩
  | d :: ds, g => by
    obtain ⟨e, rfl, h1⟩ := g d (by simp)
    obtain ⟨L, rfl, h2⟩ := flsA_of fun x hx => g x (List.mem_cons_of_mem _ hx)
    refine ⟨e :: L, rfl, fun x hx => ?_⟩
    rcases List.mem_cons.mp hx with rfl | z
    · exact h1
    · exact h2 x z
theorem big_host : ∀ L : List Fl, ∃ h : Int, ∀ e ∈ L, e.1 ≤ h
  | [] => ⟨0, by simp⟩
  | e :: L => by
    obtain ⟨h, g⟩ := big_host L
    refine ⟨max e.1 h, fun x hx => ?_⟩
    rcases List.mem_cons.mp hx with rfl | z
    · omega
    · have := g x z
      omega
theorem rowA_iff {L : List Fl} (ok : ∀ e ∈ L, FlOkA e) (ne : 1 ≤ L.length) : IsRowA (rowD L) ↔ ∀ (k : Nat) (a b : Fl), L[k]? = some a → L[k + 1]? = some b → lt2 a b := by
  constructor
  · rintro ⟨h, z⟩
    exact (row_iff.mp z).up
  · intro up
    obtain ⟨h, g⟩ := big_host L
    exact ⟨h, row_iff.mpr ⟨ne, fun e he => ⟨(ok e he).1, (ok e he).2.1, g e he, (ok e he).2.2⟩, up⟩⟩
theorem rowA_ok {L : List Fl} (h : IsRowA (rowD L)) : 1 ≤ L.length ∧ ∀ e ∈ L, FlOkA e := by
  obtain ⟨h, z⟩ := h
  have g := row_iff.mp z
  exact ⟨g.ne, fun e he => ⟨(g.ok e he).1, (g.ok e he).2.1, (g.ok e he).2.2.2⟩⟩
theorem rowA_g {L : List Fl} {h : Int} (z : IsRowA (rowD L)) (b : ∀ e ∈ L, e.1 ≤ h) : RowG h L := by
  obtain ⟨h', z⟩ := z
  have g := row_iff.mp z
  exact ⟨g.ne, fun e he => ⟨(g.ok e he).1, (g.ok e he).2.1, b e he, (g.ok e he).2.2.2⟩, g.up⟩
theorem anystr_law {Ls : List (List Fl)} {L0 : List Fl} {e0 : Fl} (rows : ∀ L ∈ Ls, IsRowA (rowD L)) (h0 : Ls[0]? = some L0) (h1 : L0[0]? = some e0) (hl : Ls.length ≤ 8) :
    AnyStr (strD Ls) ↔ e0.1 ≤ 40 ∧ (∀ e ∈ L0, e.1 = e0.1) ∧ (∀ (k : Nat) (A B : List Fl), Ls[k]? = some A → Ls[k + 1]? = some B → ∀ x, tkF B x = gnF A x) ∧ ∀ L, Ls[Ls.length - 1]? = some L → ∀ e ∈ L, e.1 = e.2.1 := by
  constructor
  · rintro ⟨h, Ms, e, g, g1, _⟩
    obtain rfl := strD_inj e
    have f := g.pre.first L0 h0
    have fe := f e0 (List.mem_of_getElem? h1)
    refine ⟨by omega, fun x hx => by rw [f x hx, fe], g.pre.link, fun L hL x hx => ?_⟩
    have := g.last L hL x hx
    omega
  · rintro ⟨a1, a2, a3, a4⟩
    have bound : ∀ (k : Nat) (L : List Fl), Ls[k]? = some L → ∀ e ∈ L, e.1 ≤ e0.1 := by
      intro k
      induction k with
      | zero =>
        intro L hL e he
        rw [h0] at hL
        cases hL
        rw [a2 e he]
        exact Int.le_refl _
      | succ k ih =>
        intro B hB e he
        have hk := (List.getElem?_eq_some_iff.mp hB).1
        have hA : Ls[k]? = some (Ls[k]'(by omega)) := List.getElem?_eq_getElem _
        have rA := rowA_ok (rows _ (List.mem_of_getElem? hA))
        have rB := rowA_ok (rows _ (List.mem_of_getElem? hB))
        have t : tkF B e.1 ≠ 0 := (tkF_ne (fun e he => (rB.2 e he).2.2) e.1).mpr ⟨e, he, rfl⟩
        rw [a3 k _ _ hA hB] at t
        obtain ⟨x, hx, ex⟩ := (gnF_ne (fun e he => (rA.2 e he).2.2) e.1).mp t
        have := ih _ hA x hx
        have := (rA.2 x hx).1
        omega
    have ne : 1 ≤ Ls.length := by
      have := (List.getElem?_eq_some_iff.mp h0).1
      omega
    refine ⟨e0.1, Ls, rfl, ⟨⟨rfl, by omega⟩, ⟨fun L hL => ?_, fun L hL e he => ?_, a3⟩, fun L hL e he => ?_⟩, a1, hl⟩
    · obtain ⟨k, hk, rfl⟩ := List.mem_iff_getElem.mp hL
      exact rowA_g (rows _ hL) (bound k _ (List.getElem?_eq_getElem hk))
    · rw [h0] at hL
      cases hL
      exact a2 e he
    · have := a4 L hL e he
      omega
theorem strA_norow {ds : List PyData} {k : Nat} {d : PyData} (e : ds[k]? = some d) (c : ¬ IsRowA d) : ¬ AnyStr (.list ds) := fun ⟨h, Ls, e1, g, _⟩ => by
  obtain ⟨L, h1, rfl⟩ := str_at e1 e
  exact c ⟨h, L, rfl, g.pre.rows L (List.mem_of_getElem? h1)⟩
theorem rowsA_of : ∀ {ds : List PyData}, (∀ d ∈ ds, IsRowA d) → ∃ Ls : List (List Fl), ds = Ls.map rowD ∧ ∀ L ∈ Ls, IsRowA (rowD L)
  | [], _ => ⟨[], rfl, by simp⟩
  | d :: ds, g => by
    obtain ⟨h, L, rfl, z⟩ := g d (by simp)
    obtain ⟨Ls, rfl, h2⟩ := rowsA_of fun x hx => g x (List.mem_cons_of_mem _ hx)
    refine ⟨L :: Ls, rfl, fun x hx => ?_⟩
    rcases List.mem_cons.mp hx with rfl | y
    · exact ⟨h, x, rfl, z⟩
    · exact h2 x y
section
variable {σ : L2.St} {H H1 : Hp} {Q : VK} {K : PySem.W.Frag} {D l : Addr} {g : TG} {tt : TT} {te : TE} {vs : List Nat} {xs : List V} {Qd : Hp → Prop}
/-- [x for x in xs if ..]: the things themselves -/
theorem lcL_keep {ds : List PyData} (b : Nat → Bool) (nD : H1 D = none) (hn : xs.length ≤ 1000000) (hx : SqL K H1 l xs) (q : DqAll H1 xs ds)
    (hs : ∀ (i : Nat) (x : V) H (Z : VK) (Y : Hp → Prop), xs[i]? = some x → Same H1 H → (b i = true → ∀ H4, Same H H4 → Z x H4) → (b i = false → ∀ H4, Same H H4 → Y H4) → LcTurn g tt te vs σ x H Z Y)
    (hd : ∀ acc es H, H D = some (.lst acc) → Same H1 H → DqAll H1 acc es → (∀ e ∈ es, e ∈ ds) → (es = [] ↔ ∀ i, i < xs.length → b i = false) → Qd H) :
    ∃ W : Nat → Nat → Hp → Prop, (∃ m, W 0 m (L2.upd H1 D (.lst []))) ∧ ∀ i m H, W i m H →
      ((Itl K l).stop i H ∧ Qd H) ∨ ((Itl K l).go i H ∧ ∃ Nx : Hp → Prop, (∀ H', Nx H' → ∃ m', m' < m ∧ W (i + 1) m' H') ∧ ∀ x H', (Itl K l).yld i H x H' → g x (wipe σ vs) H' fun σ2 H2 => wipe σ2 vs = wipe σ vs ∧ tt σ2 H2 fun b H3 =>
        if b = true then te σ2 H3 fun y H4 => ∃ acc, H4 D = some (.lst acc) ∧ acc.length < sizeLine ∧ Nx (L2.upd H4 D (.lst (acc ++ [y]))) else Nx H3) := by
  refine lcL (xs := xs) (fun i acc H => Same H1 H ∧ acc.length ≤ i ∧ ∃ es, DqAll H1 acc es ∧ (∀ e ∈ es, e ∈ ds) ∧ (es = [] ↔ ∀ j, j < i → b j = false)) nD ⟨Same.new nD, Nat.le_refl _, [], .nil, by simp, by simp⟩ (fun i acc H _ q _ => q.1.seq hx) ?_ ?_
  · rintro i x acc H Z Y hi ⟨r1, r2, es, r3, r4, r5⟩ hD hz hy
    have hi' : i < xs.length := (List.getElem?_eq_some_iff.mp hi).1
    obtain ⟨d, e1, e2⟩ := q.get' hi
    refine hs i x H Z Y hi r1 (fun e H4 s => hz _ _ (s _ _ hD) (sz4' (by omega)) ⟨Same.mut (r1.trans s) nD, by rw [List.length_append]; show _ + 1 ≤ _; omega, es ++ [d], DqAll.snoc r3 e2, fun y hy => ?_, ⟨fun c => by simp at c, fun c => ?_⟩⟩) (fun e H4 s => hy _ (s _ _ hD) ⟨r1.trans s, by omega, es, r3, r4, ?_⟩)
    · rcases List.mem_append.mp hy with z | z
      · exact r4 y z
      · rw [List.mem_singleton.mp z]
        exact List.mem_of_getElem? e1
    · rw [c i (by omega)] at e
      cases e
    · rw [r5]
      refine ⟨fun c j hj => ?_, fun c j hj => c j (by omega)⟩
      by_cases e' : j = i
      · rw [e']; exact e
      · exact c j (by omega)
  · rintro acc H ⟨r1, r2, es, r3, r4, r5⟩ hD
    exact hd acc es H hD r1 r3 r4 r5
end
theorem shaped_fls {es : List PyData} {L : List Fl} (h : ∀ e ∈ es, e ∈ L.map flD) : SeqAt.shaped (.list es) = true := by
  refine shaped_of ?_ ?_
  · rw [PyData.canLay0]
    exact lay_all fun d hd => by
      obtain ⟨e, _, rfl⟩ := List.mem_map.mp (h d hd)
      simp [flD, PyData.canLay0, PyData.canLayAll0]
  · have : depA es ≤ 1 := depA_le fun d hd => by
      obtain ⟨e, _, rfl⟩ := List.mem_map.mp (h d hd)
      simp [flD, dep, depA]
    rw [dep]
    omega
theorem eqv_nil' (ds : List PyData) : (!PyData.eqv (.list ds) (.list [])) = !decide (ds = []) := by rw [eqv_nil]
theorem shaped_mem {ds : List PyData} {d : PyData} (h : SeqAt.shaped (.list ds) = true) (hd : d ∈ ds) : SeqAt.shaped d = true := by
  unfold SeqAt.shaped at h
  rw [Bool.and_eq_true, decide_eq_true_eq] at h
  obtain ⟨h1, h2⟩ := h
  have l1 : PyData.canLayAll0 ds = true := by simpa [PyData.canLay0] using h1
  have l2 := lay_mem l1 hd
  rw [depth_dep h1] at h2
  have := depA_mem hd
  rw [dep] at h2
  exact shaped_of l2 (by omega)
/-! ### None is of no class -/
theorem sub_none {K : PySem.W.Frag} (C : Addr) : PySem.W.subIn K (.type "NoneType") (.ref C) = some false := by
  show (fastBuiltinMro "NoneType").map (fun l => l.contains (Value.ref C)) = some false
  have e : fastBuiltinMro "NoneType" = some [.type "NoneType", .type "object"] := by decide +kernel
  rw [e]
  rfl
theorem i_isXnone {K : PySem.W.Frag} {H : Hp} {Q : VK} {C : Addr} (c : ClsT K C) (ty : TyX K H .non (.type "NoneType")) (q : Q (.bl false) H) : rIsX K [.non, .ref C] H Q := i_isXo ty (kit_o c (sub_none C)) q
def grown (f : Nat) (m : List (List Int × Int)) : List (List Int × Int) := m.map fun pw => (pw.1.take f ++ [(pw.1[f]?).getD 0 + 1] ++ pw.1.drop (f + 1), pw.2)
theorem sum_set : ∀ {p : List Int} {i : Nat} {z : Int}, i < p.length → (p.set i z).sum = p.sum - (p[i]?).getD 0 + z
  | [], i, z, h => by simp at h
  | x :: p, 0, z, _ => by
    rw [List.set_cons_zero, List.sum_cons, List.sum_cons, List.getElem?_cons_zero]
    show z + p.sum = x + p.sum - x + z
    omega
  | x :: p, i + 1, z, h => by
    have ih := sum_set (p := p) (i := i) (z := z) (by simpa using h)
    rw [List.set_cons_succ, List.sum_cons, List.sum_cons, ih, List.getElem?_cons_succ]
    omega
theorem grown_set {p : List Int} {f : Nat} {z : Int} (h : f < p.length) : p.take f ++ [z] ++ p.drop (f + 1) = p.set f z := by
  rw [List.set_eq_take_append_cons_drop, if_pos h, List.append_assoc]
  rfl
theorem grown_key {p : List Int} {f k : Nat} (hf : f < p.length) (hk : k < p.length) : keyAt (p.take f ++ [(p[f]?).getD 0 + 1] ++ p.drop (f + 1)) k = ((keyAt p k).1 + (if (k : Int) ≤ (f : Nat) then 1 else 0), (keyAt p k).2 + (if (k : Int) = (f : Nat) then 1 else 0)) := by
  rw [grown_set hf]
  unfold keyAt
  refine Prod.ext ?_ ?_
  · show ((p.set f _).drop k).sum = (p.drop k).sum + _
    by_cases c : k ≤ f
    · have e : (p.set f ((p[f]?).getD 0 + 1)).drop k = (p.drop k).set (f - k) ((p[f]?).getD 0 + 1) := by
        rw [List.drop_set, if_neg (by omega)]
      rw [e, sum_set (by rw [List.length_drop]; omega), if_pos (by omega), List.getElem?_drop, show k + (f - k) = f by omega]
      omega
    · rw [List.drop_set, if_pos (by omega), if_neg (by omega)]
      omega
  · show ((p.set f _)[k]?).getD 0 = (p[k]?).getD 0 + _
    by_cases c : k = f
    · subst c
      rw [List.getElem?_set_self hk, if_pos rfl]
      rfl
    · rw [List.getElem?_set_ne (Ne.symm c), if_neg (by omega)]
      omega
theorem flow_grown {f k n : Nat} (hf : f < n) (hk : k < n) : ∀ {m : List (List Int × Int)}, (∀ pw ∈ m, pw.1.length = n) → ∀ l s, flowF (grown f m) k l s = flowF m k (l - (if (k : Int) ≤ (f : Nat) then 1 else 0)) (s - (if (k : Int) = (f : Nat) then 1 else 0))
  | [], _, _, _ => rfl
  | pw :: m, h, l, s => by
    have ih := flow_grown hf hk (m := m) (fun q hq => h q (List.mem_cons_of_mem _ hq)) l s
    have hl := h pw List.mem_cons_self
    show (if keyAt (pw.1.take f ++ [(pw.1[f]?).getD 0 + 1] ++ pw.1.drop (f + 1)) k = (l, s) then pw.2 else 0) + flowF (grown f m) k l s = (if keyAt pw.1 k = (_, _) then pw.2 else 0) + flowF m k _ _
    rw [ih, grown_key (by omega) (by omega)]
    congr 1
    generalize (if (k : Int) ≤ (f : Nat) then (1 : Int) else 0) = a
    generalize (if (k : Int) = (f : Nat) then (1 : Int) else 0) = b
    by_cases c : keyAt pw.1 k = (l - a, s - b)
    · rw [if_pos c, if_pos (by rw [c]; refine Prod.ext ?_ ?_ <;> (show _ - _ + _ = _; omega))]
    · rw [if_neg c, if_neg (fun z => c (by
        have z1 : (keyAt pw.1 k).1 + a = l := congrArg Prod.fst z
        have z2 : (keyAt pw.1 k).2 + b = s := congrArg Prod.snd z
        refine Prod.ext ?_ ?_
        · show (keyAt pw.1 k).1 = l - a
          omega
        · show (keyAt pw.1 k).2 = s - b
          omega))]
theorem StrOf.more {m : List (List Int × Int)} {n f : Nat} {Ls : List (List Fl)} (r : StrOf m n Ls) (hf : f < n) (hm : ∀ pw ∈ m, pw.1.length = n) : StrOf (grown f m) n (moreF (f : Nat) Ls) := by
  refine ⟨by rw [moreF_len, r.len], fun k L' hL' => ?_⟩
  rw [moreF_at] at hL'
  cases e : Ls[k]? with
  | none => rw [e] at hL'; cases hL'
  | some L =>
    rw [e] at hL'
    cases hL'
    have rr := r.row k L e
    have hk : k < n := by rw [← r.len]; exact (List.getElem?_eq_some_iff.mp e).1
    have fl := flow_grown hf hk hm
    unfold moreE
    generalize ha : (if (k : Int) ≤ (f : Nat) then (1 : Int) else 0) = a at *
    generalize hb : (if (k : Int) = (f : Nat) then (1 : Int) else 0) = b at *
    refine ⟨?_, fun e' => ?_⟩
    · rw [List.pairwise_map]
      refine rr.st.imp fun {x y} h => ?_
      unfold lt2 at h ⊢
      show x.1 + a < y.1 + a ∨ (x.1 + a = y.1 + a ∧ x.2.1 + b < y.2.1 + b)
      omega
    · rw [fl]
      constructor
      · intro h
        obtain ⟨x, hx, rfl⟩ := List.mem_map.mp h
        have := (rr.mem x).mp hx
        show x.2.2 = flowF m k (x.1 + a - a) (x.2.1 + b - b) ∧ flowF m k (x.1 + a - a) (x.2.1 + b - b) ≠ 0
        rw [show x.1 + a - a = x.1 by omega, show x.2.1 + b - b = x.2.1 by omega]
        exact this
      · intro h
        refine List.mem_map.mpr ⟨(e'.1 - a, e'.2.1 - b, e'.2.2), (rr.mem _).mpr h, ?_⟩
        refine Prod.ext ?_ (Prod.ext ?_ rfl)
        · show e'.1 - a + a = e'.1
          omega
        · show e'.2.1 - b + b = e'.2.1
          omega
theorem MixOk.grown {h : Int} {n f : Nat} {m : List (List Int × Int)} (k : MixOk h n m) (hf : f < n) (hh : h ≤ 39) : MixOk (h + 1) n (grown f m) := by
  refine ⟨by rw [Hf.grown, List.length_map]; exact k.ne, k.fl, by have := k.ho; omega, fun pw hp => ?_⟩
  obtain ⟨q, hq, rfl⟩ := List.mem_map.mp hp
  obtain ⟨⟨h1, h2, h3⟩, h4⟩ := k.pl q hq
  refine ⟨⟨?_, ?_, fun x hx => ?_⟩, h4⟩
  · show (q.1.take f ++ [(q.1[f]?).getD 0 + 1] ++ q.1.drop (f + 1)).length = n
    rw [grown_set (by omega), List.length_set]
    exact h1
  · show (q.1.take f ++ [(q.1[f]?).getD 0 + 1] ++ q.1.drop (f + 1)).sum = h + 1
    rw [grown_set (by omega), sum_set (by omega)]
    omega
  · have hx : x ∈ q.1.take f ++ [(q.1[f]?).getD 0 + 1] ++ q.1.drop (f + 1) := hx
    rw [grown_set (by omega)] at hx
    rcases List.mem_or_eq_of_mem_set hx with z | z
    · exact h3 x z
    · have : 0 ≤ (q.1[f]?).getD 0 := by
        rw [List.getElem?_eq_getElem (by omega)]
        exact h3 _ (List.getElem_mem (by omega))
      omega
/-- the stream that the law holds beside -/
theorem any_lit : AnyStr (strD [[(2, 0, 3), (2, 1, 1)], [(1, 1, 1), (2, 2, 3)]]) := by
  have rows : ∀ (a b c d : Int × Int × Int), FlOk 2 a → FlOk 2 b → lt2 a b → RowG 2 [a, b] := fun a b _ _ h1 h2 h3 => ⟨by simp, fun e he => by
    simp only [List.mem_cons, List.not_mem_nil, or_false] at he
    rcases he with rfl | rfl <;> assumption, fun k x y e1 e2 => by
    have hk : k + 1 < 2 := (List.getElem?_eq_some_iff.mp e2).1
    obtain rfl : k = 0 := by omega
    cases e1
    cases e2
    exact h3⟩
  refine ⟨2, _, rfl, ⟨⟨rfl, by decide⟩, ⟨fun L hL => ?_, fun L hL e he => ?_, fun k A B hA hB x => ?_⟩, fun L hL e he => ?_⟩, by decide, by decide⟩
  · simp only [List.mem_cons, List.not_mem_nil, or_false] at hL
    rcases hL with rfl | rfl
    · exact rows _ _ (0, 0, 0) (0, 0, 0) (by unfold FlOk; decide) (by unfold FlOk; decide) (by unfold lt2; decide)
    · exact rows _ _ (0, 0, 0) (0, 0, 0) (by unfold FlOk; decide) (by unfold FlOk; decide) (by unfold lt2; decide)
  · cases hL
    simp only [List.mem_cons, List.not_mem_nil, or_false] at he
    rcases he with rfl | rfl <;> rfl
  · have hk : k + 1 < 2 := (List.getElem?_eq_some_iff.mp hB).1
    obtain rfl : k = 0 := by omega
    cases hA
    cases hB
    show addI (addI zF 1 1) 2 3 x = addI (addI zF (2 - 0) 3) (2 - 1) 1 x
    unfold addI zF
    by_cases c1 : x = 1
    · subst c1; decide
    · by_cases c2 : x = 2
      · subst c2; decide
      · simp [c1, c2]
  · cases hL
    simp only [List.mem_cons, List.not_mem_nil, or_false] at he
    rcases he with rfl | rfl <;> rfl
end Hf
/-! ## a list of lists that are one's own, the things in them anyone's -/
namespace Hf
open PySem PySem.Spec PyProof.Rows L2
structure FlatR (S : List Addr) (H : Hp) (D : Addr) (rs : List Addr) (dss : List (List PyData)) : Prop where
  hD : H D = some (.lst (rs.map V.ref))
  nd : (D :: rs).Nodup
  out : ∀ r, r ∈ D :: rs → r ∉ S
  len : rs.length = dss.length
  row : ∀ (k : Nat) r ds, rs[k]? = some r → dss[k]? = some ds → ∃ ys, H r = some (.lst ys) ∧ DqAll (hid (S ++ D :: rs) H) ys ds
section
variable {S : List Addr} {H H' : Hp} {D a p r : Addr} {rs : List Addr} {dss : List (List PyData)} {o : HO}
theorem FlatR.empty {H1 : Hp} (nD : H1 D = none) (hS : ∀ b, b ∈ S → ∃ o, H1 b = some o) (h : H D = some (.lst [])) : FlatR S H D [] [] := by
  refine ⟨h, by simp, fun r hr hs => ?_, rfl, fun k r ds e _ => by simp at e⟩
  obtain ⟨o, e⟩ := hS r hs
  rw [List.mem_singleton.mp hr, nD] at e
  cases e
theorem FlatR.same (h : FlatR S H D rs dss) (s : Same H H') : FlatR S H' D rs dss := ⟨s _ _ h.hD, h.nd, h.out, h.len, fun k r ds e1 e2 => by
  obtain ⟨ys, q1, q2⟩ := h.row k r ds e1 e2
  exact ⟨ys, s _ _ q1, q2.same (hid_mono s)⟩⟩
theorem FlatR.but (h : FlatR S H D rs dss) (ha : a ∈ S) (s : But a H H') : FlatR S H' D rs dss := ⟨s _ _ (fun e => h.out D (by simp) (by rw [e]; exact ha)) h.hD, h.nd, h.out, h.len, fun k r ds e1 e2 => by
  obtain ⟨ys, q1, q2⟩ := h.row k r ds e1 e2
  refine ⟨ys, s _ _ (fun e => h.out r (List.mem_cons_of_mem _ (List.mem_of_getElem? e1)) (by rw [e]; exact ha)) q1, q2.same (hid_but (List.mem_append_left _ ha) s)⟩⟩
theorem FlatR.at (h : FlatR S H D rs dss) {k : Nat} {ds : List PyData} (e : dss[k]? = some ds) : ∃ r ys, rs[k]? = some r ∧ H r = some (.lst ys) ∧ DqAll (hid (S ++ D :: rs) H) ys ds := by
  have hk := (List.getElem?_eq_some_iff.mp e).1
  have e1 : rs[k]? = some (rs[k]'(by rw [h.len]; exact hk)) := List.getElem?_eq_getElem _
  obtain ⟨ys, q1, q2⟩ := h.row k _ ds e1 e
  exact ⟨_, ys, e1, q1, q2⟩
theorem nodup_at {α : Type} {xs : List α} (h : xs.Nodup) {i j : Nat} {x : α} (h1 : xs[i]? = some x) (h2 : xs[j]? = some x) : i = j := by
  obtain ⟨a1, b1⟩ := List.getElem?_eq_some_iff.mp h1
  obtain ⟨a2, b2⟩ := List.getElem?_eq_some_iff.mp h2
  rcases Nat.lt_trichotomy i j with c | c | c
  · exact absurd (b1.trans b2.symm) (List.pairwise_iff_getElem.mp h i j a1 a2 c)
  · exact c
  · exact absurd (b2.trans b1.symm) (List.pairwise_iff_getElem.mp h j i a2 a1 c)
theorem FlatR.has (h : FlatR S H D rs dss) : ∀ b, b ∈ D :: rs → ∃ o, H b = some o := fun b hb => by
  rcases List.mem_cons.mp hb with z | z
  · exact ⟨_, by rw [z]; exact h.hD⟩
  · obtain ⟨k, hk, e⟩ := List.mem_iff_getElem.mp z
    obtain ⟨ys, q1, _⟩ := h.row k b _ (by rw [List.getElem?_eq_getElem hk, e]) (List.getElem?_eq_getElem (by rw [← h.len]; exact hk))
    exact ⟨_, q1⟩
/-- one of the lists written anew -/
theorem FlatR.put (h : FlatR S H D rs dss) {k : Nat} (e : rs[k]? = some r) {ys : List V} {ds : List PyData} (q : DqAll (hid (S ++ D :: rs) H) ys ds) : FlatR S (L2.upd H r (.lst ys)) D rs (dss.set k ds) := by
  have hr := List.mem_of_getElem? e
  have nDr : D ≠ r := fun c => by
    have := h.nd
    rw [List.nodup_cons] at this
    exact this.1 (by rw [c]; exact hr)
  have mono : Same (hid (S ++ D :: rs) H) (hid (S ++ D :: rs) (L2.upd H r (.lst ys))) := hid_upd (List.mem_append_right _ (List.mem_cons_of_mem _ hr))
  refine ⟨lk_upd nDr h.hD, h.nd, h.out, by rw [List.length_set]; exact h.len, fun j r' ds' e1 e2 => ?_⟩
  by_cases c : j = k
  · subst c
    rw [e] at e1
    cases e1
    have hk : j < dss.length := by rw [← h.len]; exact (List.getElem?_eq_some_iff.mp e).1
    rw [List.getElem?_set_self hk] at e2
    cases e2
    exact ⟨ys, upd_same, q.same mono⟩
  · rw [List.getElem?_set_ne (Ne.symm c)] at e2
    obtain ⟨zs, q1, q2⟩ := h.row j r' ds' e1 e2
    have nd := h.nd
    rw [List.nodup_cons] at nd
    refine ⟨zs, lk_upd (fun z => c (nodup_at nd.2 e1 (by rw [z]; exact e))) q1, q2.same mono⟩
theorem FlatR.dqsD (h : FlatR S H D rs dss) : DqAll (hid (S ++ [D]) H) (rs.map V.ref) (dss.map PyData.list) := by
  have nd := h.nd
  rw [List.nodup_cons] at nd
  have key : ∀ (n : Nat), n ≤ rs.length → DqAll (hid (S ++ [D]) H) ((rs.take n).map V.ref) ((dss.take n).map PyData.list) := by
    intro n
    induction n with
    | zero => intro _; exact .nil
    | succ n ih =>
      intro hn
      have e1 : rs[n]? = some (rs[n]'(by omega)) := List.getElem?_eq_getElem _
      have e2 : dss[n]? = some (dss[n]'(by rw [← h.len]; omega)) := List.getElem?_eq_getElem _
      obtain ⟨ys, q1, q2⟩ := h.row n _ _ e1 e2
      rw [take_snoc e1, take_snoc e2, List.map_append, List.map_append]
      refine DqAll.snoc (ih (by omega)) (.lst (hid_lk (fun c => ?_) q1) (q2.same (hid_less fun b hb => ?_)))
      · rcases List.mem_append.mp c with z | z
        · exact h.out _ (List.mem_cons_of_mem _ (List.getElem_mem _)) z
        · exact nd.1 (by rw [← List.mem_singleton.mp z]; exact List.getElem_mem _)
      · rcases List.mem_append.mp hb with z | z
        · exact List.mem_append_left _ z
        · exact List.mem_append_right _ (by rw [List.mem_singleton.mp z]; simp)
  have := key rs.length (Nat.le_refl _)
  rw [List.take_length, h.len, List.take_length] at this
  exact this
theorem FlatR.dqs (h : FlatR S H D rs dss) : DqAll (hid S H) (rs.map V.ref) (dss.map PyData.list) := h.dqsD.same (hid_less fun b hb => List.mem_append_left _ hb)
theorem FlatR.dq (h : FlatR S H D rs dss) : Dq (hid S H) (.ref D) (.list (dss.map PyData.list)) := .lst (hid_lk (h.out D (by simp)) h.hD) h.dqs
/-- one list more -/
theorem FlatR.push (h : FlatR S H D rs dss) {H1 : Hp} (s : Same H H1) (nr : H r = none) (hS : ∀ b, b ∈ S → ∃ o, H b = some o) {ys : List V} {ds : List PyData} (e : H1 r = some (.lst ys)) (q : DqAll (hid (S ++ D :: rs) H) ys ds) : FlatR S (L2.upd H1 D (.lst (rs.map V.ref ++ [.ref r]))) D (rs ++ [r]) (dss ++ [ds]) := by
  have nrD : r ≠ D := fun c => by rw [c, h.hD] at nr; cases nr
  have nrs : r ∉ rs := fun c => by
    obtain ⟨k, hk, e⟩ := List.mem_iff_getElem.mp c
    have e1 : rs[k]? = some r := by rw [List.getElem?_eq_getElem hk, e]
    have e2 : dss[k]? = some (dss[k]'(by rw [← h.len]; exact hk)) := List.getElem?_eq_getElem _
    obtain ⟨zs, q1, _⟩ := h.row k r _ e1 e2
    rw [nr] at q1
    cases q1
  have nrS : r ∉ S := fun c => by
    obtain ⟨o, e⟩ := hS r c
    rw [nr] at e
    cases e
  have sm : Same (hid (S ++ D :: rs) H) (hid (S ++ D :: (rs ++ [r])) (L2.upd H1 D (.lst (rs.map V.ref ++ [.ref r])))) := by
    refine Same.trans (H1 := hid (S ++ D :: (rs ++ [r])) H) (fun b o hb => ?_) ((hid_mono s).trans (hid_upd (by simp)))
    have n1 : b ∉ S ++ D :: rs := fun c => by rw [hid_in c] at hb; cases hb
    rw [hid_out n1] at hb
    have n2 : b ≠ r := fun c => by rw [c, nr] at hb; cases hb
    rw [hid_out fun c => ?_]
    · exact hb
    · rcases List.mem_append.mp c with z | z
      · exact n1 (List.mem_append_left _ z)
      · rcases List.mem_cons.mp z with z | z
        · exact n1 (List.mem_append_right _ (by rw [z]; simp))
        · rcases List.mem_append.mp z with z | z
          · exact n1 (List.mem_append_right _ (List.mem_cons_of_mem _ z))
          · exact n2 (List.mem_singleton.mp z)
  have nd := h.nd
  refine ⟨by rw [List.map_append]; exact upd_same, ?_, fun b hb => ?_, by simp [h.len], fun k r' ds' e1 e2 => ?_⟩
  · rw [List.nodup_cons] at nd ⊢
    refine ⟨fun c => ?_, ?_⟩
    · rcases List.mem_append.mp c with z | z
      · exact nd.1 z
      · exact nrD (List.mem_singleton.mp z).symm
    · rw [List.nodup_append]
      exact ⟨nd.2, by simp, fun x hx y hy c => nrs (by rw [← List.mem_singleton.mp hy, ← c]; exact hx)⟩
  · rcases List.mem_cons.mp hb with z | z
    · exact h.out b (by rw [z]; simp)
    · rcases List.mem_append.mp z with z | z
      · exact h.out b (List.mem_cons_of_mem _ z)
      · rw [List.mem_singleton.mp z]
        exact nrS
  · by_cases c : k < rs.length
    · rw [List.getElem?_append_left c] at e1
      rw [List.getElem?_append_left (by rw [← h.len]; exact c)] at e2
      obtain ⟨zs, q1, q2⟩ := h.row k r' ds' e1 e2
      rw [List.nodup_cons] at nd
      exact ⟨zs, lk_upd (fun z => nd.1 (by rw [← z]; exact List.mem_of_getElem? e1)) (s _ _ q1), q2.same sm⟩
    · rw [List.getElem?_append_right (by omega)] at e1
      rw [List.getElem?_append_right (by rw [← h.len]; omega)] at e2
      have hk : k - rs.length = 0 := by
        have := (List.getElem?_eq_some_iff.mp e1).1
        simp at this
        omega
      rw [hk] at e1
      rw [← h.len, hk] at e2
      cases e1
      cases e2
      exact ⟨ys, lk_upd nrD e, q.same sm⟩
end
/-! ### how deep and how long -/
def ItD (e : PyData) : Prop := e.canLay0 = true ∧ dep e ≤ 3 ∧ wid e ≤ 3
def EsD (es : List PyData) : Prop := (∀ e ∈ es, ItD e) ∧ es.length ≤ 200
def LnD (d : PyData) : Prop := d.canLay0 = true ∧ dep d ≤ 4 ∧ wid d ≤ 900
theorem ItD.fl (e : Fl) : ItD (flD e) := by simp [ItD, flD, PyData.canLay0, PyData.canLayAll0, dep, depA, Hf.wid, widA]
theorem ItD.ln {e : PyData} (h : ItD e) : LnD e := ⟨h.1, by have := h.2.1; omega, by have := h.2.2; omega⟩
theorem EsD.ln {es : List PyData} (h : EsD es) : LnD (.list es) := by
  have h1 : depA es ≤ 3 := depA_le fun d hd => (h.1 d hd).2.1
  have h2 : widA es ≤ 3 := widA_le fun d hd => (h.1 d hd).2.2
  have h3 := h.2
  refine ⟨?_, ?_, ?_⟩
  · rw [PyData.canLay0]
    exact lay_all fun d hd => (h.1 d hd).1
  · rw [dep]
    omega
  · rw [Hf.wid]
    omega
theorem EsD.tup {es : List PyData} (h : EsD es) : LnD (.tuple es) := by
  have h1 : depA es ≤ 3 := depA_le fun d hd => (h.1 d hd).2.1
  have h2 : widA es ≤ 3 := widA_le fun d hd => (h.1 d hd).2.2
  have h3 := h.2
  refine ⟨?_, ?_, ?_⟩
  · rw [PyData.canLay0]
    exact lay_all fun d hd => (h.1 d hd).1
  · rw [dep]
    omega
  · rw [Hf.wid]
    omega
theorem EsD.fls {L : List Fl} (h : L.length ≤ 100) : EsD (L.map flD) := ⟨fun e he => by
  obtain ⟨x, _, rfl⟩ := List.mem_map.mp he
  exact ItD.fl x, by rw [List.length_map]; omega⟩
theorem EsD.set {es : List PyData} {e : PyData} {k : Nat} (h : EsD es) (he : ItD e) : EsD (es.set k e) := ⟨fun x hx => by
  rcases List.mem_or_eq_of_mem_set hx with z | z
  · exact h.1 x z
  · rw [z]; exact he, by rw [List.length_set]; exact h.2⟩
theorem LnD.fin {ds : List PyData} (h : ∀ d ∈ ds, LnD d) (hl : ds.length ≤ 900) : SeqAt.shaped (.list ds) = true ∧ Hf.wid (.list ds) ≤ 1000 := by
  have h1 : depA ds ≤ 4 := depA_le fun d hd => (h d hd).2.1
  have h2 : widA ds ≤ 900 := widA_le fun d hd => (h d hd).2.2
  refine ⟨shaped_of ?_ ?_, ?_⟩
  · rw [PyData.canLay0]
    exact lay_all fun d hd => (h d hd).1
  · rw [dep]
    omega
  · rw [Hf.wid]
    omega
theorem LnD.sets {ds : List PyData} {d : PyData} {k : Nat} (h : ∀ d ∈ ds, LnD d) (hd : LnD d) : ∀ x ∈ ds.set k d, LnD x := fun x hx => by
  rcases List.mem_or_eq_of_mem_set hx with z | z
  · exact h x z
  · rw [z]; exact hd
theorem i_popAt {H : Hp} {Q : VK} {l : Addr} {xs : List V} {i : Int} {y : V} (h : H l = some (.lst xs)) (hl : xs.length ≤ 1000000) (h0 : 0 ≤ i) (hy : xs[i.toNat]? = some y) (q : Q y (L2.upd H l (.lst (xs.eraseIdx i.toNat)))) : rPopAt (.ref l) [.int i] H Q := by
  have hi := (List.getElem?_eq_some_iff.mp hy).1
  have e : ixN xs.length i = some i.toNat := by
    unfold ixN
    rw [if_pos h0, if_pos (by omega)]
  exact ⟨l, xs, i, _, y, rfl, rfl, h, by omega, by omega, (ixN_seq e).1, hy, q⟩
theorem DqAll.erase {H : Hp} {vs : List V} {ds : List PyData} (q : DqAll H vs ds) (k : Nat) : DqAll H (vs.eraseIdx k) (ds.eraseIdx k) := by
  rw [List.eraseIdx_eq_take_drop_succ, List.eraseIdx_eq_take_drop_succ]
  exact DqAll.append (q.take k) (q.drop (k + 1))
theorem ixN_in {n : Nat} {i : Int} (h0 : 0 ≤ i) (h1 : i < n) : ixN n i = some i.toNat := by
  unfold ixN
  rw [if_pos h0, if_pos h1]
end Hf
/-! ## lists of dicts of flows -/
namespace Hf
open PySem PySem.Spec PyProof.Rows L2
/-- a list of dicts that hold flows; all of it new to H0 -/
structure DsR (H0 H : Hp) (F : Addr) (rs : List Addr) (n : Nat) (fs : Nat → Int → Int → Int) (N : Nat → Nat) : Prop where
  hF : H F = some (.lst (rs.map V.ref))
  len : rs.length = n
  nd : (F :: rs).Nodup
  nw : ∀ b, b ∈ F :: rs → H0 b = none
  row : ∀ (k : Nat) r, rs[k]? = some r → ∃ kvs, H r = some (.dT kvs) ∧ FlD kvs (fs k) ∧ kvs.length ≤ N k
section
variable {H0 H H' : Hp} {F r : Addr} {rs : List Addr} {n : Nat} {N : Nat → Nat} {fs : Nat → Int → Int → Int}
theorem DsR.same (h : DsR H0 H F rs n fs N) (s : Same H H') : DsR H0 H' F rs n fs N := ⟨s _ _ h.hF, h.len, h.nd, h.nw, fun k r e => by
  obtain ⟨kvs, q1, q2⟩ := h.row k r e
  exact ⟨kvs, s _ _ q1, q2⟩⟩
theorem DsR.back {G : Hp} (h : DsR H0 H F rs n fs N) (s : Same G H0) : DsR G H F rs n fs N := ⟨h.hF, h.len, h.nd, fun b hb => s.free (h.nw b hb), h.row⟩
theorem DsR.at (h : DsR H0 H F rs n fs N) {k : Nat} (hk : k < n) : ∃ r kvs, rs[k]? = some r ∧ (rs.map V.ref)[k]? = some (.ref r) ∧ H r = some (.dT kvs) ∧ FlD kvs (fs k) ∧ kvs.length ≤ N k ∧ H0 r = none ∧ r ≠ F := by
  have e : rs[k]? = some (rs[k]'(by rw [h.len]; exact hk)) := List.getElem?_eq_getElem _
  obtain ⟨kvs, q1, q2, q3⟩ := h.row k _ e
  have nd := h.nd
  rw [List.nodup_cons] at nd
  exact ⟨_, kvs, e, by rw [List.getElem?_map, e]; rfl, q1, q2, q3, h.nw _ (List.mem_cons_of_mem _ (List.getElem_mem _)), fun c => nd.1 (by rw [← c]; exact List.getElem_mem _)⟩
theorem DsR.cast {gs : Nat → Int → Int → Int} {M : Nat → Nat} (h : DsR H0 H F rs n fs N) (e : ∀ k, k < n → fs k = gs k ∧ N k ≤ M k) : DsR H0 H F rs n gs M := ⟨h.hF, h.len, h.nd, h.nw, fun k r z => by
  obtain ⟨kvs, q1, q2, q3⟩ := h.row k r z
  have hk := (List.getElem?_eq_some_iff.mp z).1
  rw [h.len] at hk
  exact ⟨kvs, q1, by rw [← (e k hk).1]; exact q2, Nat.le_trans q3 (e k hk).2⟩⟩
/-- one of the dicts written anew -/
theorem DsR.put (h : DsR H0 H F rs n fs N) {k : Nat} (e : rs[k]? = some r) {kvs : List (List Key × V)} {f : Int → Int → Int} (q : FlD kvs f) {M : Nat} (l : kvs.length ≤ M) : DsR H0 (L2.upd H r (.dT kvs)) F rs n (fun j => if j = k then f else fs j) (fun j => if j = k then M else N j) := by
  have hr := List.mem_of_getElem? e
  have nd := h.nd
  rw [List.nodup_cons] at nd
  refine ⟨lk_upd (fun c => nd.1 (by rw [c]; exact hr)) h.hF, h.len, h.nd, h.nw, fun j r' e1 => ?_⟩
  by_cases c : j = k
  · subst c
    rw [e] at e1
    cases e1
    rw [if_pos rfl, if_pos rfl]
    exact ⟨kvs, upd_same, q, l⟩
  · obtain ⟨kws, q1, q2, q3⟩ := h.row j r' e1
    rw [if_neg c, if_neg c]
    exact ⟨kws, lk_upd (fun z => c (nodup_at nd.2 e1 (by rw [z]; exact e))) q1, q2, q3⟩
end
section
variable {σ : L2.St} {H H1 : Hp} {Q : VK} {K : PySem.W.Frag} {D l : Addr} {g : TG} {tt : TT} {te : TE} {vs : List Nat} {xs : List V} {Qd : Hp → Prop}
/-- [{} for x in xs] -/
theorem lcL_ds (nD : H1 D = none) (hn : xs.length ≤ 1000000) (hx : SqL K H1 l xs)
    (hs : ∀ (i : Nat) (x : V) H (Z : VK) (Y : Hp → Prop), xs[i]? = some x → Same H1 H → (∀ r, H r = none → Z (.ref r) (L2.upd H r (.dT []))) → LcTurn g tt te vs σ x H Z Y)
    (hd : ∀ rs H, DsR H1 H D rs xs.length (fun _ _ _ => 0) (fun _ => 0) → Same H1 H → Qd H) :
    ∃ W : Nat → Nat → Hp → Prop, (∃ m, W 0 m (L2.upd H1 D (.lst []))) ∧ ∀ i m H, W i m H →
      ((Itl K l).stop i H ∧ Qd H) ∨ ((Itl K l).go i H ∧ ∃ Nx : Hp → Prop, (∀ H', Nx H' → ∃ m', m' < m ∧ W (i + 1) m' H') ∧ ∀ x H', (Itl K l).yld i H x H' → g x (wipe σ vs) H' fun σ2 H2 => wipe σ2 vs = wipe σ vs ∧ tt σ2 H2 fun b H3 =>
        if b = true then te σ2 H3 fun y H4 => ∃ acc, H4 D = some (.lst acc) ∧ acc.length < sizeLine ∧ Nx (L2.upd H4 D (.lst (acc ++ [y]))) else Nx H3) := by
  refine lcL (xs := xs) (fun i acc H => Same H1 H ∧ ∃ rs : List Addr, acc = rs.map V.ref ∧ rs.length = i ∧ (D :: rs).Nodup ∧ (∀ b, b ∈ rs → H1 b = none) ∧ ∀ b, b ∈ rs → H b = some (.dT [])) nD ⟨Same.new nD, [], rfl, rfl, by simp, nofun, nofun⟩ (fun i acc H _ q _ => q.1.seq hx) ?_ ?_
  · rintro i x acc H Z Y hi ⟨h1, rs, rfl, h3, h4, h5, h6⟩ hD hz _
    have hi' : i < xs.length := (List.getElem?_eq_some_iff.mp hi).1
    refine hs i x H Z Y hi h1 fun r nr => ?_
    have rD : D ≠ r := ne_of_none hD nr
    have rrs : r ∉ rs := fun c => by
      have := h6 r c
      rw [nr] at this
      cases this
    rw [List.nodup_cons] at h4
    refine hz _ _ (lk_new nr hD) (sz4' (by rw [List.length_map]; omega)) ⟨Same.mut (h1.trans (Same.new nr)) nD, rs ++ [r], by rw [List.map_append]; rfl, by rw [List.length_append, h3]; rfl, ?_, ?_, ?_⟩
    · rw [List.nodup_cons, List.nodup_append]
      refine ⟨fun c => ?_, h4.2, by simp, fun a ha b hb e => rrs (by rw [← List.mem_singleton.mp hb, ← e]; exact ha)⟩
      rcases List.mem_append.mp c with z | z
      · exact h4.1 z
      · exact rD (List.mem_singleton.mp z)
    · intro b hb
      rcases List.mem_append.mp hb with z | z
      · exact h5 b z
      · rw [List.mem_singleton.mp z]; exact h1.free nr
    · intro b hb
      rcases List.mem_append.mp hb with z | z
      · exact lk_upd (fun c => h4.1 (by rw [← c]; exact z)) (lk_upd (fun c => rrs (by rw [← c]; exact z)) (h6 b z))
      · rw [List.mem_singleton.mp z]
        exact lk_upd (Ne.symm rD) upd_same
  · rintro acc H ⟨h1, rs, rfl, h3, h4, h5, h6⟩ hD
    exact hd rs H ⟨hD, h3, h4, fun b hb => by
      rcases List.mem_cons.mp hb with z | z
      · rw [z]; exact nD
      · exact h5 b z, fun k r e => ⟨[], h6 r (List.mem_of_getElem? e), .nil, Nat.le_refl _⟩⟩ h1
/-- owned things, each with what is to be known of it -/
theorem lcL_ownP (P : Nat → PyData → Prop) (nD : H1 D = none) (hn : xs.length ≤ 1000000) (hx : SqL K H1 l xs)
    (hs : ∀ (i : Nat) (x : V) H (Z : VK) (Y : Hp → Prop), xs[i]? = some x → Same H1 H → (∀ v d S H4, P i d → OwN H H4 v d S → Same H H4 → Z v H4) → LcTurn g tt te vs σ x H Z Y)
    (hd : ∀ ds S H, ds.length = xs.length → (∀ i d, ds[i]? = some d → P i d) → OwN H1 H (.ref D) (.list ds) S → Same H1 H → Qd H) :
    ∃ W : Nat → Nat → Hp → Prop, (∃ m, W 0 m (L2.upd H1 D (.lst []))) ∧ ∀ i m H, W i m H →
      ((Itl K l).stop i H ∧ Qd H) ∨ ((Itl K l).go i H ∧ ∃ Nx : Hp → Prop, (∀ H', Nx H' → ∃ m', m' < m ∧ W (i + 1) m' H') ∧ ∀ x H', (Itl K l).yld i H x H' → g x (wipe σ vs) H' fun σ2 H2 => wipe σ2 vs = wipe σ vs ∧ tt σ2 H2 fun b H3 =>
        if b = true then te σ2 H3 fun y H4 => ∃ acc, H4 D = some (.lst acc) ∧ acc.length < sizeLine ∧ Nx (L2.upd H4 D (.lst (acc ++ [y]))) else Nx H3) := by
  refine lcL (xs := xs) (fun i acc H => acc.length = i ∧ Same H1 H ∧ ∃ ds S, ds.length = i ∧ (∀ j d, ds[j]? = some d → P j d) ∧ OwAll H acc ds S ∧ S.Nodup ∧ D ∉ S ∧ ∀ b, b ∈ S → H1 b = none) nD ⟨rfl, Same.new nD, [], [], rfl, by simp, .nil, List.nodup_nil, by simp, nofun⟩ (fun i acc H _ q _ => q.2.1.seq hx) ?_ ?_
  · rintro i x acc H Z Y hi ⟨h1, h2, ds, S, l1, l2, h3, h4, h5, h6⟩ hD hz _
    have hi' : i < xs.length := (List.getElem?_eq_some_iff.mp hi).1
    refine hs i x H Z Y hi h2 fun v d S' H4 kd k1 k2 => ?_
    have hDS : D ∉ S' := fun z => by
      have := k1.nw D z
      rw [hD] at this
      cases this
    have kp : Kp [D] H4 (L2.upd H4 D (.lst (acc ++ [v]))) := Kp.upd (by simp) Kp.refl
    have ht : ∀ b ys, b ∈ [D] → H4 b ≠ some (.tup ys) := fun b ys hb e => by
      rw [List.mem_singleton.mp hb, k2 _ _ hD] at e
      cases e
    have hd1 : ∀ b, b ∈ S → b ∉ [D] := fun b hb hb' => h5 (by rw [← List.mem_singleton.mp hb']; exact hb)
    have hd2 : ∀ b, b ∈ S' → b ∉ [D] := fun b hb hb' => hDS (by rw [← List.mem_singleton.mp hb']; exact hb)
    refine hz _ _ (k2 _ _ hD) (sz4' (by omega)) ⟨by rw [List.length_append, h1]; rfl, Same.mut (h2.trans k2) nD, ds ++ [d], S ++ S', by rw [List.length_append, l1]; rfl, ?_, ?_, ?_, ?_, ?_⟩
    · intro j e he
      by_cases c : j < ds.length
      · rw [List.getElem?_append_left c] at he
        exact l2 j e he
      · rw [List.getElem?_append_right (by omega)] at he
        have : j - ds.length = 0 := by
          have := (List.getElem?_eq_some_iff.mp he).1
          simp at this
          omega
        rw [this] at he
        cases he
        rw [show j = i by omega]
        exact kd
    · exact OwAll.snoc (OwAll.kp ht kp (h3.same k2) hd1) (Ow.kp ht kp k1.ow hd2)
    · rw [List.nodup_append]
      refine ⟨h4, k1.nd, fun b hb c hc e => ?_⟩
      subst e
      obtain ⟨ys, e'⟩ := h3.lists b hb
      rw [k1.nw b hc] at e'
      cases e'
    · intro z
      rcases List.mem_append.mp z with z | z
      · exact h5 z
      · exact hDS z
    · intro b hb
      rcases List.mem_append.mp hb with z | z
      · exact h6 b z
      · exact h2.free (k1.nw b z)
  · rintro acc H ⟨h1, h2, ds, S, l1, l2, h3, h4, h5, h6⟩ hD
    exact hd ds (D :: S) H l1 l2 ⟨.lst hD h3, List.nodup_cons.mpr ⟨h5, h4⟩, fun b hb => by
      rcases List.mem_cons.mp hb with z | z
      · rw [z]; exact nD
      · exact h6 b z⟩ h2
end
theorem pick_all {α : Type} {F : α → PyData} {R : Nat → α → Prop} : ∀ {ds : List PyData}, (∀ i d, ds[i]? = some d → ∃ x, d = F x ∧ R i x) → ∃ xs : List α, ds = xs.map F ∧ ∀ i x, xs[i]? = some x → R i x
  | [], _ => ⟨[], rfl, by simp⟩
  | d :: ds, h => by
    obtain ⟨x, e, r⟩ := h 0 d rfl
    obtain ⟨xs, e2, r2⟩ := pick_all (R := fun i => R (i + 1)) (ds := ds) fun i d hd => h (i + 1) d hd
    refine ⟨x :: xs, by rw [e, e2]; rfl, fun i y hy => ?_⟩
    cases i with
    | zero => cases hy; exact r
    | succ i => exact r2 i y hy
theorem own_fl {H H1 : Hp} {a b c : Int} {q : Addr} : OwN H (L2.upd H1 q (.tup [.int a, .int b, .int c])) (.ref q) (flD (a, b, c)) [] := ⟨.tup upd_same (own_ints [a, b, c]), List.nodup_nil, nofun⟩
end Hf
/-! ## streams: how long their rows are; told streams as lists of own lists; mixes with plans turned about -/
namespace Hf
open PySem PySem.Spec PyProof.Rows L2
theorem nodup_sub {α : Type} [DecidableEq α] : ∀ {l m : List α}, l.Nodup → (∀ x ∈ l, x ∈ m) → l.length ≤ m.length
  | [], _, _, _ => Nat.zero_le _
  | x :: l, m, nd, h => by
    have hx := h x List.mem_cons_self
    have nd' := List.nodup_cons.mp nd
    have := nodup_sub (l := l) (m := m.erase x) nd'.2 fun y hy => by
      have : y ≠ x := fun e => nd'.1 (e ▸ hy)
      exact (List.mem_erase_of_ne this).mpr (h y (List.mem_cons_of_mem _ hy))
    have e := List.length_erase_of_mem hx
    have p := List.length_pos_of_mem hx
    rw [List.length_cons]
    omega
theorem RowF.len {m : List (List Int × Int)} {k : Nat} {L : List Fl} (r : RowF (flowF m k) L) (hw : ∀ pw ∈ m, 1 ≤ pw.2) : L.length ≤ m.length := by
  have nd := row_nodup r.st
  have := nodup_sub nd (m := m.map fun pw => keyAt pw.1 k) fun x hx => by
    obtain ⟨e, he, rfl⟩ := List.mem_map.mp hx
    obtain ⟨pw, h1, h2⟩ := (flowF_ne hw e.1 e.2.1).mp ((r.mem e).mp he).2
    exact List.mem_map.mpr ⟨pw, h1, h2⟩
  rwa [List.length_map, List.length_map] at this
theorem StrOf.rows {h : Int} {n : Nat} {m : List (List Int × Int)} {Ls : List (List Fl)} (r : StrOf m n Ls) (g : MixG h n m) : ∀ L ∈ Ls, L.length ≤ m.length := fun L hL => by
  obtain ⟨k, hk, rfl⟩ := List.mem_iff_getElem.mp hL
  exact (r.row k _ (List.getElem?_eq_getElem hk)).len fun pw hp => (g.pl pw hp).2
theorem StrOf.facts {h : Int} {n : Nat} {m : List (List Int × Int)} {Ls : List (List Fl)} (r : StrOf m n Ls) (g : MixG h n m) (hl : m.length ≤ 900) :
    SeqAt.shaped (strD Ls) = true ∧ wid (strD Ls) ≤ 1000 ∧ (∀ L ∈ Ls, L.length ≤ 900) ∧ 1 ≤ Ls.length ∧ Ls.length ≤ 8 := by
  have hn := g.fl
  have hr := r.rows g
  have e := r.len
  exact ⟨shaped_of (lay_str Ls) (by have := dep_str Ls; omega), wid_str (k := 1000) Ls (by omega) (fun L hL => by have := hr L hL; omega) (by decide), fun L hL => by have := hr L hL; omega, by omega, by omega⟩
/-! told streams: a list of own lists -/
theorem rows_flat {H : Hp} : ∀ {ys : List V} {Ls : List (List Fl)} {S : List Addr}, OwAll H ys (Ls.map rowD) S → S.Nodup → ∃ rs : List Addr, ys = rs.map V.ref ∧ rs.length = Ls.length ∧ rs.Nodup ∧ (∀ r ∈ rs, r ∈ S) ∧
    ∀ (k : Nat) (r : Addr) (L : List Fl), rs[k]? = some r → Ls[k]? = some L → ∃ zs, H r = some (.lst zs) ∧ DqAll H zs (L.map flD)
  | _, [], _, h, _ => by
    cases h
    exact ⟨[], rfl, rfl, List.nodup_nil, nofun, fun k r L e => by simp at e⟩
  | _, L :: Ls, _, h, nd => by
    cases h with
    | @cons v vs d ds S1 S2 h1 h2 =>
      obtain ⟨n1, n2, n3⟩ := List.nodup_append.mp nd
      obtain ⟨rs, rfl, q1, q2, q3, q4⟩ := rows_flat h2 n2
      obtain ⟨a, zs, rfl, e1, e2⟩ := h1.dq.list_inv
      have ha : a ∈ S1 := ow_self h1
      refine ⟨a :: rs, rfl, by simp [q1], List.nodup_cons.mpr ⟨fun hb => n3 a ha a (q3 a hb) rfl, q2⟩, fun r hr => ?_, fun k r M e3 e4 => ?_⟩
      · rcases List.mem_cons.mp hr with rfl | z
        · exact List.mem_append_left _ ha
        · exact List.mem_append_right _ (q3 r z)
      · cases k with
        | zero =>
          simp at e3 e4
          subst e3 e4
          exact ⟨zs, e1, e2⟩
        | succ k => exact q4 k r M (by simpa using e3) (by simpa using e4)
theorem OwN.flat {H0 H : Hp} {v : V} {Ls : List (List Fl)} {S : List Addr} (o : OwN H0 H v (strD Ls) S) : ∃ D rs, v = .ref D ∧ FlatR [] H D rs (Ls.map fun L => L.map flD) ∧ (∀ b ∈ D :: rs, H0 b = none) ∧ rs.length = Ls.length := by
  have ow := o.ow
  have nd := o.nd
  cases ow with
  | @lst a xs ds S' h q =>
    obtain ⟨n1, n2⟩ := List.nodup_cons.mp nd
    obtain ⟨rs, rfl, q1, q2, q3, q4⟩ := rows_flat q n2
    have lists : ∀ b xs, b ∈ [] ++ a :: rs → H b ≠ some (.tup xs) := fun b xs hb e => by
      rcases List.mem_cons.mp hb with z | z
      · rw [z, h] at e; cases e
      · obtain ⟨k, hk, rfl⟩ := List.mem_iff_getElem.mp z
        obtain ⟨zs, e1, _⟩ := q4 k _ _ (List.getElem?_eq_getElem hk) (List.getElem?_eq_getElem (by omega))
        rw [e1] at e; cases e
    refine ⟨a, rs, rfl, ⟨h, List.nodup_cons.mpr ⟨fun z => n1 (q3 a z), q2⟩, fun r _ => by simp, by rw [List.length_map, q1], fun k r es e1 e2 => ?_⟩, fun b hb => ?_, q1⟩
    · rw [List.getElem?_map] at e2
      cases e3 : Ls[k]? with
      | none => rw [e3] at e2; cases e2
      | some L =>
        rw [e3] at e2
        cases e2
        obtain ⟨zs, e4, e5⟩ := q4 k r L e1 e3
        exact ⟨zs, e4, (row_own e5).hid lists nofun⟩
    · rcases List.mem_cons.mp hb with z | z
      · rw [z]; exact o.nw a (by simp)
      · exact o.nw b (List.mem_cons_of_mem _ (q3 b z))
/-! mixes with plans turned about and weights doubled -/
def turnM (m : List (List Int × Int)) : List (List Int × Int) := m.map fun pw => (pw.1.reverse, 2 * pw.2)
theorem MixG.turn {h : Int} {n : Nat} {m : List (List Int × Int)} (g : MixG h n m) : MixG h n (turnM m) := ⟨by rw [turnM, List.length_map]; exact g.ne, g.fl, g.ho, fun pw hp => by
  obtain ⟨q, hq, rfl⟩ := List.mem_map.mp hp
  have := g.pl q hq
  refine ⟨⟨by rw [List.length_reverse]; exact this.1.1, by rw [List.sum_reverse]; exact this.1.2.1, fun x hx => this.1.2.2 x (List.mem_reverse.mp hx)⟩, by omega⟩⟩
/-! what the law looks at: one size for all -/
def sizeD (pw : List Int × Int) : PyData := .tuple [.int pw.1.length, .int pw.1.sum]
theorem eqv_size (a b : List Int × Int) : PyData.eqv (sizeD a) (sizeD b) = decide (a.1.length = b.1.length ∧ a.1.sum = b.1.sum) := by
  by_cases c1 : a.1.length = b.1.length
  · by_cases c2 : a.1.sum = b.1.sum
    · simp [sizeD, PyData.eqv, PyData.eqvAll, c1, c2]
    · simp [sizeD, PyData.eqv, PyData.eqvAll, c1, c2]
  · simp [sizeD, PyData.eqv, PyData.eqvAll, c1]
    intro z
    omega
theorem eqv_sizes (b : List Int × Int) : ∀ m : List (List Int × Int), PyData.eqvAll (m.map sizeD) (List.replicate m.length (sizeD b)) = decide (∀ pw ∈ m, pw.1.length = b.1.length ∧ pw.1.sum = b.1.sum)
  | [] => by simp [PyData.eqvAll]
  | a :: m => by
    rw [List.length_cons, List.replicate_succ, List.map_cons, PyData.eqvAll, eqv_sizes b m, eqv_size]
    by_cases c : a.1.length = b.1.length ∧ a.1.sum = b.1.sum <;> simp [c]
theorem shaped_sizes (ds : List PyData) (h : ∀ d ∈ ds, ∃ b, d = sizeD b) : SeqAt.shaped (.list ds) = true := by
  refine shaped_of (by
    rw [PyData.canLay0]
    refine lay_all fun d hd => ?_
    obtain ⟨b, rfl⟩ := h d hd
    simp [sizeD, PyData.canLay0, PyData.canLayAll0]) ?_
  rw [dep]
  have := depA_le (k := 1) (ds := ds) fun d hd => by
    obtain ⟨b, rfl⟩ := h d hd
    simp [sizeD, dep, depA]
  omega
def LawPart (pw : List Int × Int) : Prop := 1 ≤ pw.2 ∧ 1 ≤ pw.1.length ∧ pw.1.length ≤ 8 ∧ pw.1.sum ≤ 40 ∧ ∀ x ∈ pw.1, 0 ≤ x
theorem mix_law {m : List (List Int × Int)} {b : List Int × Int} (h0 : m[0]? = some b) (h : ∀ pw ∈ m, LawPart pw) : IsMix (mixD m) ↔ ∀ pw ∈ m, pw.1.length = b.1.length ∧ pw.1.sum = b.1.sum := by
  rw [mix_first h0]
  have hb := h b (List.mem_of_getElem? h0)
  constructor
  · intro g pw hp
    exact ⟨(g.pl pw hp).1.1, (g.pl pw hp).1.2.1⟩
  · intro e
    refine ⟨?_, ⟨hb.2.1, hb.2.2.1⟩, ?_, fun pw hp => ⟨⟨(e pw hp).1, (e pw hp).2, (h pw hp).2.2.2.2⟩, (h pw hp).1⟩⟩
    · exact (List.getElem?_eq_some_iff.mp h0).1
    · exact ⟨sum_nn0 hb.2.2.2.2, hb.2.2.2.1⟩
theorem mix_lawpart {m : List (List Int × Int)} (h : IsMix (mixD m)) {pw : List Int × Int} (hp : pw ∈ m) : LawPart pw := by
  obtain ⟨h, n, m', e, g⟩ := h
  obtain rfl := mixD_inj e
  have := g.pl pw hp
  have h1 := g.fl
  have h2 := g.ho
  refine ⟨this.2, by rw [this.1.1]; omega, by rw [this.1.1]; omega, by rw [this.1.2.1]; omega, this.1.2.2⟩
/-! a told stream, its first rows with 7 behind -/
def r7 (L : List Fl) : List PyData := L.map flD ++ [.int 7]
def part7 (Ls : List (List Fl)) (k : Nat) : List (List PyData) := (Ls.take k).map r7 ++ (Ls.drop k).map fun L => L.map flD
theorem part7_0 (Ls : List (List Fl)) : part7 Ls 0 = Ls.map fun L => L.map flD := by simp [part7]
theorem part7_at {Ls : List (List Fl)} {k : Nat} {L : List Fl} (h : Ls[k]? = some L) : (part7 Ls k)[k]? = some (L.map flD) := by
  have hk := (List.getElem?_eq_some_iff.mp h).1
  rw [part7, List.getElem?_append_right (by rw [List.length_map, List.length_take]; omega), List.length_map, List.length_take, show k - min k Ls.length = 0 by omega, List.getElem?_map, List.getElem?_drop, Nat.add_zero, h]
  rfl
theorem part7_set {Ls : List (List Fl)} {k : Nat} {L : List Fl} (h : Ls[k]? = some L) : (part7 Ls k).set k (L.map flD ++ [.int 7]) = part7 Ls (k + 1) := by
  have hk := (List.getElem?_eq_some_iff.mp h).1
  rw [part7, part7, List.set_append_right _ _ (by rw [List.length_map, List.length_take]; omega), List.length_map, List.length_take, show k - min k Ls.length = 0 by omega, drop_get h, take_snoc h, List.map_append, List.map_cons, List.set_cons_zero, List.append_assoc]
  rfl
theorem part7_drop {Ls : List (List Fl)} {k : Nat} (hk : k ≤ Ls.length) : ((part7 Ls k).map PyData.list).drop k = (Ls.drop k).map rowD := by
  rw [part7, List.map_append, List.drop_append_of_le_length (by simp; omega), List.drop_eq_nil_of_le (by simp; omega), List.nil_append, List.map_map]
  rfl
def row7 (L : List Fl) : PyData := .list (r7 L)
theorem part7_take {Ls : List (List Fl)} {k : Nat} (hk : k < Ls.length) : ((part7 Ls (k + 1)).map PyData.list).take k = (Ls.take k).map row7 := by
  rw [part7, List.map_append, List.take_append_of_le_length (by simp; omega), List.map_map, ← List.map_take, List.take_take, show min k (k + 1) = k by omega]
  rfl
theorem shaped_row7 (Ls : List (List Fl)) : SeqAt.shaped (.list (Ls.map row7)) = true := by
  have h : ∀ d ∈ Ls.map row7, d.canLay0 = true ∧ dep d ≤ 3 := fun d hd => by
    obtain ⟨L, _, rfl⟩ := List.mem_map.mp hd
    have h2 : ∀ e ∈ r7 L, e.canLay0 = true ∧ dep e ≤ 2 := fun e he => by
      rcases List.mem_append.mp he with z | z
      · obtain ⟨f, _, rfl⟩ := List.mem_map.mp z
        simp [flD, PyData.canLay0, PyData.canLayAll0, dep, depA]
      · rw [List.mem_singleton.mp z]
        simp [PyData.canLay0, dep]
    refine ⟨by rw [row7, PyData.canLay0]; exact lay_all fun e he => (h2 e he).1, ?_⟩
    rw [row7, dep]
    have := depA_le fun e he => (h2 e he).2
    omega
  refine shaped_of (by rw [PyData.canLay0]; exact lay_all fun d hd => (h d hd).1) ?_
  rw [dep]
  have := depA_le fun d hd => (h d hd).2
  omega
theorem shaped_rows (Ls : List (List Fl)) : SeqAt.shaped (.list (Ls.map rowD)) = true := shaped_of (lay_str Ls) (by have := dep_str Ls; rw [strD] at this; omega)
/-! a mix, its first parts turned about -/
def partT (m : List (List Int × Int)) (k : Nat) : List (List Int × Int) := (turnM m).take k ++ m.drop k
theorem partT_0 (m : List (List Int × Int)) : partT m 0 = m := by simp [partT]
theorem partT_len {m : List (List Int × Int)} : partT m m.length = turnM m := by
  rw [partT, List.drop_length, List.append_nil, List.take_of_length_le (by rw [turnM, List.length_map]; exact Nat.le_refl _)]
theorem partT_at {m : List (List Int × Int)} {k : Nat} {pw : List Int × Int} (h : m[k]? = some pw) : (partT m k)[k]? = some pw := by
  have hk := (List.getElem?_eq_some_iff.mp h).1
  rw [partT, List.getElem?_append_right (by rw [turnM, List.length_take, List.length_map]; omega), turnM, List.length_take, List.length_map, show k - min k m.length = 0 by omega, List.getElem?_drop, Nat.add_zero, h]
theorem partT_set {m : List (List Int × Int)} {k : Nat} {pw : List Int × Int} (h : m[k]? = some pw) : (partT m k).set k (pw.1.reverse, 2 * pw.2) = partT m (k + 1) := by
  have hk := (List.getElem?_eq_some_iff.mp h).1
  have ht : (turnM m)[k]? = some (pw.1.reverse, 2 * pw.2) := by rw [turnM, List.getElem?_map, h]; rfl
  rw [partT, partT, List.set_append_right _ _ (by rw [turnM, List.length_take, List.length_map]; omega), turnM, List.length_take, List.length_map, show k - min k m.length = 0 by omega, drop_get h, List.set_cons_zero, ← turnM, take_snoc ht, List.append_assoc]
  rfl
theorem i_pop {H : Hp} {Q : VK} {l : Addr} {xs : List V} {y : V} (h : H l = some (.lst xs)) (hy : xs[xs.length - 1]? = some y) (q : Q y (L2.upd H l (.lst xs.dropLast))) : rPop (.ref l) [] H Q := ⟨l, xs, y, rfl, rfl, h, hy, q⟩
theorem kp1 {H H' : Hp} {D : Addr} (s : But D H H') : Kp [D] H H' := fun b o hb h => s b o (fun e => hb (by rw [e]; simp)) h
theorem OwN.but {H0 H H' : Hp} {v : V} {d : PyData} {S : List Addr} {D : Addr} {xs : List V} {o : HO} (w : OwN H0 H v d S) (s : But D H H') (h : H D = some (.lst xs)) (h0 : H0 D = some o) : Dq H' v d := by
  refine (Ow.kp (T := [D]) (fun b ys hb e => ?_) (kp1 s) w.ow fun b hb hc => ?_).dq
  · rw [List.mem_singleton.mp hb, h] at e
    cases e
  · have := w.nw b hb
    rw [List.mem_singleton.mp hc, h0] at this
    cases this
theorem OwN.mixD {H0 H : Hp} {D : Addr} {m : List (List Int × Int)} {S : List Addr} {zs : List V} (w : OwN H0 H (.ref D) (Hf.mixD m) S) (h : H D = some (.lst zs)) : DqAll (hid [D] H) zs (m.map partD) := by
  have ow := w.ow
  have nd := w.nd
  cases ow with
  | @lst _ ys _ S' e q =>
    rw [h] at e
    cases e
    refine q.hid (fun b xs hb e => ?_) fun b hb hc => ?_
    · rw [List.mem_singleton.mp hb, h] at e
      cases e
    · rw [List.mem_singleton.mp hc] at hb
      exact (List.nodup_cons.mp nd).1 hb
end Hf
/-! ## dicts by pairs of ints: pop(k), d[k] -= x, the keys that begin with a number; l[i] += x -/
namespace Hf
open PySem PySem.Spec PyProof.Rows L2
def rPopT1 : V → List V → Hp → VK → Prop := fun x xs H Q => ∃ (a : Addr) (kvs : List (List L2.Key × V)) (k : List L2.Key) (b : Addr) (v : V), x = .ref a ∧ xs = [.ref b] ∧ H a = some (.dT kvs) ∧ H b = some (.tup (k.map kV)) ∧ valV kvs k = some v ∧ Q v (L2.upd H a (.dT (dropK kvs k)))
theorem mt_popT1 {X : Cx} (hu : X.A.units + 1 < cLine) : MtR X "dict.pop" rPopT1 := by
  intro pins s σ H x xs v us Q I rx rxs h
  obtain ⟨a, kvs, k, b, v0, rfl, rfl, ha, hb, ev, q1⟩ := h
  cases rx
  obtain ⟨u1, rfl, r1⟩ := vals1 rxs
  cases r1
  obtain ⟨z, hd, xs', rel, dd⟩ := dt_of I.hok ha
  have hz : xs'.length ≤ sizeLine := by rw [← Paired.length rel]; exact z
  have r := rel.val k
  rw [ev] at r
  cases hp : atKey xs' k with
  | none =>
    rw [hp] at r
    exact (show False from r).elim
  | some p =>
    rw [hp] at r
    have rv : RelV v0 p.2 := r
    refine call_pop_heap (knd := tupleKind (mixKind X.prog X.w)) (k := k) (.inl rfl) (PySem.F.args_dict_pop_2 _ _) (tupleKind_room_in1 hu) (key_of I.hok hb) hd dd hp (fun h' dd' hs => ?_) hz
    obtain ⟨o, es, ep, hq, h2, h3, h4, _, h5⟩ := dd'
    have I2 : Inv X pins σ (L2.upd H a (.dT (dropK kvs k))) { s with heap := h', toks := s.toks + (tupleKind (mixKind X.prog X.w)).draws k } :=
      d_write I (by rw [ha]; exact True.intro) hs ⟨o, hq⟩ ⟨Nat.le_trans (dropK_le kvs k) z, hd, _, (L2.DX.KT_drop k rel).keeps (fun c ys ec => (by rw [L2.upd_ne (ne_of ec ha (fun z => nomatch z))]; exact ec)), o, es, ep, hq, h2, h3, h4, h5⟩
    exact ⟨v0, _, I2, rv, q1⟩
theorem i_bmD {K : PySem.W.Frag} {H : Hp} {p : Addr} {kvs : List (List L2.Key × V)} {A : Prop} (h : H p = some (.dT kvs)) (q : A) : tyV K "dict" (.ref p) H ∧ A := ⟨.inr (.inr (.inl ⟨rfl, .inr ⟨_, h⟩⟩)), q⟩
theorem i_popT1 {H : Hp} {Q : VK} {a b : Addr} {kvs : List (List L2.Key × V)} {i j : Int} {v : V} (ha : H a = some (.dT kvs)) (hb : H b = some (.tup [.int i, .int j])) (hv : valV kvs (k2 i j) = some v) (q : Q v (L2.upd H a (.dT (dropK kvs (k2 i j))))) : rPopT1 (.ref a) [.ref b] H Q := ⟨a, kvs, k2 i j, b, v, rfl, rfl, ha, hb, hv, q⟩
theorem i_daug {td ty tv : TE} {rd : V → V → Hp → VK → Prop} {nx bk ct : L2.St → Hp → Prop} {rt : VK} {σ : L2.St} {H : Hp} (h : td σ H fun x H1 => ty σ H1 fun y H2 => ∃ a v, x = .ref a ∧ DGet H2 a y (some v) ∧ tv σ H2 fun y2 H3 => rd v y2 H3 fun z H4 => ∃ H5, DPut H4 a y z H5 ∧ nx σ H5) : sDAug td ty tv rd ⟨nx, rt, bk, ct⟩ σ H := h
theorem i_dg2' {H : Hp} {a p : Addr} {kvs : List (List L2.Key × V)} {i j : Int} {v : V} {R : Addr → V → Prop} (h : H a = some (.dT kvs)) (e : H p = some (.tup [.int i, .int j])) (hv : valV kvs (k2 i j) = some v) (q : R a v) : ∃ a' v', V.ref a = .ref a' ∧ DGet H a' (.ref p) (some v') ∧ R a' v' := ⟨a, v, rfl, by
  have := DGet.t (k := k2 i j) h e
  rw [hv] at this
  exact this, q⟩
theorem i_dpa {H : Hp} {a p : Addr} {kvs : List (List L2.Key × V)} {i j : Int} {v : V} {Z : Hp → Prop} (h : H a = some (.dT kvs)) (e : H p = some (.tup [.int i, .int j])) (hz : kvs.length ≤ 1000000) (q : Z (L2.upd H a (.dT (putK kvs (k2 i j) v)))) : ∃ H5, DPut H a (.ref p) v H5 ∧ Z H5 := ⟨_, DPut.t (k := k2 i j) h e (sz4' hz), q⟩
theorem i_lenDT {H : Hp} {Q : VK} {a : Addr} {kvs : List (List L2.Key × V)} (h : H a = some (.dT kvs)) (q : Q (.int ((kvs.length : Nat) : Int)) H) : rLenT [.ref a] H Q := ⟨a, kvs, rfl, h, q⟩
theorem i_rSub {i j : Int} {H : Hp} {Q : VK} (q : Q (.int (i - j)) H) : rSub (.int i) (.int j) H Q := ⟨i, j, rfl, rfl, q⟩
theorem i_rAdd {i j : Int} {H : Hp} {Q : VK} (q : Q (.int (i + j)) H) : rAdd (.int i) (.int j) H Q := ⟨i, j, rfl, rfl, q⟩
/-! l[i] += x -/
theorem get_list {X : Cx} : PGet X (rIxL X.K) := by
  intro pins s σ H x y v u Q I rx ry h
  obtain ⟨p, xs, i, z, rfl, rfl, hq, he, q⟩ := h
  cases rx
  obtain ⟨t, rfl⟩ := ry
  obtain ⟨its, r, pl, hz⟩ := I.list hq
  obtain ⟨j, h1, h2, h3, h4, h5⟩ := atI_get he
  obtain ⟨w, ew, rw'⟩ := r.get h2
  have hl := r.length
  have hn := line63
  have fin : EP X pins σ Q w s := ⟨z, H, I, rw', q⟩
  by_cases h0 : 0 ≤ i
  · have hj : i.toNat = j := by
      rw [seqIndex_of h0 h5] at h1
      exact Option.some.inj h1
    exact wpAny_getItem_list pl.isList h0 (by omega) (by rw [hj]; simpa using ew) fin
  · have hj : (i + (its.toArray.size : Int)).toNat = j := by
      rw [seqIndex_neg (by omega) h4] at h1
      rw [List.size_toArray, ← hl]
      exact Option.some.inj h1
    exact wpAny_getItem_list_neg pl.isList (by omega) (by rw [List.size_toArray] <;> omega) (by omega) (by rw [hj]; simpa using ew) fin
theorem get_listK {X : Cx} (K : PySem.W.Frag) (e : X.K = K) : PGet X (rIxL K) := by subst e; exact get_list
theorem i_augS {to ti te : TE} {tget : V → V → Hp → VK → Prop} {tip : TIp} {tset : TSet} {nx bk ct : L2.St → Hp → Prop} {rt : VK} {σ : L2.St} {H : Hp} (h : to σ H fun o H1 => ti σ H1 fun i H2 => tget o i H2 fun x H3 => te σ H3 fun y H4 => tip x y H4 fun z H5 => tset o i z H5 fun H6 => nx σ H6) : tAugS to ti te tget tip tset ⟨nx, rt, bk, ct⟩ σ H := h
/-! the keys that begin with l -/
def keysAt (kvs : List (List L2.Key × V)) (l : Int) : List Int := ((kvs.map fun kv => keyP kv.1).filter fun p => decide (p.1 = l)).map Prod.snd
theorem i_lockKeys {td : TE} {g : TG} {tt : TT} {te : TE} {vs : List Nat} {σ : L2.St} {H : Hp} {Q : VK} {d : Addr} {kvs : List (List L2.Key × V)} (l : Int) (hd : H d = some (.dT kvs)) (hl : kvs.length ≤ 1000000) (hk : ∀ kv ∈ kvs, ∃ i j : Int, kv.1 = k2 i j)
    (ht : ∀ H' R, R (.ref d) H' → td σ H' R)
    (hs : ∀ (a b : Int) (q : Addr) (H' : Hp) (Z : VK) (Y : Hp → Prop), H' q = some (.tup [.int a, .int b]) → (a = l → Z (.int b) H') → (a ≠ l → Y H') → LcTurn g tt te vs σ (.ref q) H' Z Y)
    (hq : ∀ p H', H p = none → Same H H' → H' p = some (.lst ((keysAt kvs l).map V.int)) → Q (.ref p) H') : tLockE (tLc (iKeys td) g tt te vs) σ H Q := by
  refine ⟨d, .dT kvs, hd, trivial, fun od => ?_⟩
  refine i_lc (ht _ _ ⟨d, od, rfl, .inr ⟨kvs, L2.upd_same, ?_⟩⟩)
  intro D nD
  have nDd : D ≠ d := fun e => by rw [e, L2.upd_same] at nD; cases nD
  have nD' : H D = none := by rwa [L2.upd_ne nDd] at nD
  let acc : Nat → List V := fun i => (keysAt (kvs.take i) l).map V.int
  have accl : ∀ i, (acc i).length ≤ kvs.length := fun i => by
    show ((keysAt (kvs.take i) l).map V.int).length ≤ _
    rw [List.length_map, keysAt, List.length_map]
    refine Nat.le_trans (List.length_filter_le _ _) ?_
    rw [List.length_map, List.length_take]
    omega
  let P : Nat → Hp → Prop := fun i H' => H' = L2.upd (L2.upd H d (.frz od (.dT kvs))) D (.lst (acc i))
  refine ⟨fun i m H' => m = kvs.length - i ∧ i ≤ kvs.length ∧ P i H', ⟨kvs.length, by simp, Nat.zero_le _, rfl⟩, ?_⟩
  rintro i m H' ⟨rfl, hi, rfl⟩
  have hfz : (L2.upd (L2.upd H d (.frz od (.dT kvs))) D (.lst (acc i))) d = some (.frz od (.dT kvs)) := by rw [L2.upd_ne (fun e => nDd e.symm)]; exact L2.upd_same
  by_cases hlt : i < kvs.length
  · refine .inr ⟨⟨hfz, hlt⟩, P (i + 1), fun H' p' => ⟨kvs.length - (i + 1), by omega, rfl, hlt, p'⟩, fun x H' y => ?_⟩
    obtain ⟨rfl, k, v, q, e1, rfl, e2⟩ := y
    obtain ⟨a, b, ek⟩ := hk (k, v) (List.mem_of_getElem? e1)
    have ek' : k = k2 a b := ek
    subst ek'
    have et : kvs.take (i + 1) = kvs.take i ++ [(k2 a b, v)] := take_snoc e1
    refine hs a b q _ _ _ e2 (fun c => ?_) fun c => ?_
    · refine ⟨acc i, L2.upd_same, Nat.lt_of_le_of_lt (accl i) (sz4' hl), ?_⟩
      have ea : acc (i + 1) = acc i ++ [V.int b] := by
        show (keysAt (kvs.take (i + 1)) l).map V.int = (keysAt (kvs.take i) l).map V.int ++ [V.int b]
        have e9 : ([(k2 a b, v)].map fun kv : List L2.Key × V => keyP kv.1) = [(a, b)] := rfl
        rw [et, keysAt, keysAt, List.map_append, e9, List.filter_append, List.filter_cons_of_pos (by simp [c]), List.map_append, List.map_append]
        rfl
      show L2.upd (L2.upd (L2.upd H d (.frz od (.dT kvs))) D (.lst (acc i))) D (.lst (acc i ++ [V.int b])) = L2.upd (L2.upd H d (.frz od (.dT kvs))) D (.lst (acc (i + 1)))
      rw [ea]
      funext z
      by_cases cz : z = D
      · rw [cz, L2.upd_same, L2.upd_same]
      · rw [L2.upd_ne cz, L2.upd_ne cz, L2.upd_ne cz]
    · have ea : acc (i + 1) = acc i := by
        show (keysAt (kvs.take (i + 1)) l).map V.int = (keysAt (kvs.take i) l).map V.int
        have e9 : ([(k2 a b, v)].map fun kv : List L2.Key × V => keyP kv.1) = [(a, b)] := rfl
        rw [et, keysAt, keysAt, List.map_append, e9, List.filter_append, List.filter_cons_of_neg (by simp [c]), List.filter_nil, List.append_nil]
      show _ = L2.upd (L2.upd H d (.frz od (.dT kvs))) D (.lst (acc (i + 1)))
      rw [ea]
  · have e : i = kvs.length := by omega
    subst e
    refine .inl ⟨⟨hfz, Nat.le_refl _⟩, hfz, hq D _ nD' (fun b o h => ?_) ?_⟩
    · by_cases c : b = d
      · rw [c, L2.upd_same]
        rw [c, hd] at h
        exact h
      · have cD : b ≠ D := fun e => by rw [e, nD'] at h; cases h
        rw [L2.upd_ne c, L2.upd_ne cD, L2.upd_ne c]
        exact h
    · rw [L2.upd_ne nDd, L2.upd_same]
      show some (HO.lst ((keysAt (kvs.take kvs.length) l).map V.int)) = _
      rw [List.take_length]
/-! flows set anew -/
def setF (f : Int → Int → Int) (i j z : Int) : Int → Int → Int := fun a b => if a = i ∧ b = j then z else f a b
theorem FlD.set {kvs : List (List Key × V)} {f : Int → Int → Int} (h : FlD kvs f) {i j z : Int} (hz : 1 ≤ z) : FlD (putK kvs (k2 i j) (.int z)) (setF f i j z) := by
  have hnn := h.nn
  refine ⟨fun a b => ?_, fun kv hkv => ?_, ?_, fun a b => ?_⟩
  · unfold setF
    have := hnn a b
    split <;> omega
  · unfold putK at hkv
    split at hkv
    · obtain ⟨kv', h1, h2⟩ := List.mem_map.mp hkv
      obtain ⟨a, b, e1, e2⟩ := h.ks kv' h1
      rw [e1] at h2
      simp only at h2
      by_cases c : k2 a b = k2 i j
      · rw [if_pos c] at h2
        obtain ⟨rfl, rfl⟩ := k2_inj c
        refine ⟨a, b, ?_, ?_⟩
        · rw [← h2]
          unfold setF
          rw [if_pos ⟨rfl, rfl⟩]
        · unfold setF
          rw [if_pos ⟨rfl, rfl⟩]
          omega
      · rw [if_neg c] at h2
        have : ¬ (a = i ∧ b = j) := fun ⟨x, y⟩ => c (by rw [x, y])
        refine ⟨a, b, ?_, ?_⟩
        · rw [← h2]
          unfold setF
          rw [if_neg this]
        · unfold setF
          rw [if_neg this]
          exact e2
    · next hany =>
      rcases List.mem_append.mp hkv with z' | z'
      · obtain ⟨a, b, e1, e2⟩ := h.ks kv z'
        have : ¬ (a = i ∧ b = j) := fun ⟨x, y⟩ => hany (by
          rw [List.any_eq_true]
          exact ⟨kv, z', decide_eq_true (by rw [e1, x, y])⟩)
        refine ⟨a, b, ?_, ?_⟩
        · rw [e1]
          unfold setF
          rw [if_neg this]
        · unfold setF
          rw [if_neg this]
          exact e2
      · rw [List.mem_singleton.mp z']
        refine ⟨i, j, ?_, ?_⟩
        · unfold setF
          rw [if_pos ⟨rfl, rfl⟩]
        · unfold setF
          rw [if_pos ⟨rfl, rfl⟩]
          omega
  · rw [putK_keys]
    split
    · exact h.nd
    · next hany =>
      rw [List.nodup_append]
      refine ⟨h.nd, by simp, fun a ha b hb e => hany ?_⟩
      rw [List.mem_singleton.mp hb] at e
      obtain ⟨kv, h1, h2⟩ := List.mem_map.mp ha
      rw [List.any_eq_true]
      exact ⟨kv, h1, decide_eq_true (by rw [h2, e])⟩
  · rw [valV_put]
    by_cases c : k2 a b = k2 i j
    · rw [if_pos c]
      obtain ⟨rfl, rfl⟩ := k2_inj c
      have e : setF f a b z a b = z := if_pos ⟨rfl, rfl⟩
      rw [e, if_neg (by omega)]
    · rw [if_neg c, h.vl]
      have e : setF f i j z a b = f a b := if_neg fun ⟨x, y⟩ => c (by rw [x, y])
      rw [e]
theorem valV_drop {κ : Type} [DecidableEq κ] (k j : κ) : ∀ kvs : List (κ × V), valV (dropK kvs k) j = if j = k then none else valV kvs j
  | [] => by simp [dropK, valV_nil]
  | p :: r => by
    have ih := valV_drop k j r
    by_cases c : p.1 = k
    · have e : dropK (p :: r) k = dropK r k := List.filter_cons_of_neg (by simp [c])
      rw [e, ih]
      by_cases c2 : j = k
      · rw [if_pos c2, if_pos c2]
      · rw [if_neg c2, if_neg c2, valV_neg (fun e => c2 (by rw [← e, c]))]
    · have e : dropK (p :: r) k = p :: dropK r k := List.filter_cons_of_pos (by simp [c])
      rw [e]
      by_cases c2 : p.1 = j
      · rw [valV_pos c2, valV_pos c2, if_neg (fun e => c (by rw [c2, e]))]
      · rw [valV_neg c2, valV_neg c2, ih]
theorem dropK_put {κ : Type} [DecidableEq κ] (kvs : List (κ × V)) (k : κ) (v : V) : dropK (putK kvs k v) k = dropK kvs k := by
  unfold putK dropK
  split
  · induction kvs with
    | nil => rfl
    | cons p r ih =>
      rename_i h
      by_cases c : p.1 = k
      · rw [List.map_cons, if_pos c, List.filter_cons_of_neg (by simp [c]), List.filter_cons_of_neg (by simp [c])]
        by_cases h2 : (r.any fun kv => decide (kv.1 = k)) = true
        · exact ih h2
        · have : ∀ kv ∈ r, ¬ kv.1 = k := fun kv hkv e => h2 (List.any_eq_true.mpr ⟨kv, hkv, decide_eq_true e⟩)
          rw [show r.map (fun kv => if kv.1 = k then (kv.1, v) else kv) = r.map id from List.map_congr_left fun kv hkv => if_neg (this kv hkv), List.map_id]
      · rw [List.map_cons, if_neg c, List.filter_cons_of_pos (by simp [c]), List.filter_cons_of_pos (by simp [c])]
        rw [List.any_cons, decide_eq_false c, Bool.false_or] at h
        rw [ih h]
  · rw [List.filter_append]
    simp
theorem FlD.drop {kvs : List (List Key × V)} {f : Int → Int → Int} (h : FlD kvs f) {i j : Int} {v : V} : FlD (dropK (putK kvs (k2 i j) v) (k2 i j)) (setF f i j 0) := by
  rw [dropK_put]
  refine ⟨fun a b => ?_, fun kv hkv => ?_, (List.filter_sublist.map _).nodup h.nd, fun a b => ?_⟩
  · unfold setF
    have := h.nn a b
    split <;> omega
  · obtain ⟨h1, h2⟩ := List.mem_filter.mp hkv
    obtain ⟨a, b, e1, e2⟩ := h.ks kv h1
    have ne : ¬ (a = i ∧ b = j) := fun ⟨x, y⟩ => by
      have := of_decide_eq_true h2
      rw [e1, x, y] at this
      exact this rfl
    exact ⟨a, b, by rw [e1]; unfold setF; rw [if_neg ne], by unfold setF; rw [if_neg ne]; exact e2⟩
  · rw [valV_drop]
    by_cases c : k2 a b = k2 i j
    · obtain ⟨rfl, rfl⟩ := k2_inj c
      have e : setF f a b 0 a b = 0 := if_pos ⟨rfl, rfl⟩
      rw [if_pos c, e, if_pos rfl]
    · have e : setF f i j 0 a b = f a b := if_neg fun ⟨x, y⟩ => c (by rw [x, y])
      rw [if_neg c, e, h.vl]
theorem FlD.keysAt {kvs : List (List Key × V)} {f : Int → Int → Int} (h : FlD kvs f) (l s : Int) : s ∈ keysAt kvs l ↔ f l s ≠ 0 := by
  unfold Hf.keysAt
  constructor
  · intro hs
    obtain ⟨p, hp, rfl⟩ := List.mem_map.mp hs
    obtain ⟨h1, h2⟩ := List.mem_filter.mp hp
    obtain ⟨kv, h3, rfl⟩ := List.mem_map.mp h1
    obtain ⟨a, b, e1, e2⟩ := h.ks kv h3
    have e3 : keyP kv.1 = (a, b) := by rw [e1]; rfl
    rw [e3] at h2 ⊢
    have : a = l := of_decide_eq_true h2
    rw [← this]
    exact e2
  · intro hf
    have hv := h.vl l s
    rw [if_neg hf] at hv
    have hm : k2 l s ∈ kvs.map (·.1) := by
      unfold valV at hv
      cases e : kvs.find? (fun kv => decide (kv.1 = k2 l s)) with
      | none => rw [e] at hv; cases hv
      | some p =>
        have h1 := List.mem_of_find?_eq_some e
        have h2 := List.find?_some e
        exact List.mem_map.mpr ⟨p, h1, of_decide_eq_true h2⟩
    obtain ⟨kv, h1, h2⟩ := List.mem_map.mp hm
    refine List.mem_map.mpr ⟨(l, s), List.mem_filter.mpr ⟨List.mem_map.mpr ⟨kv, h1, by rw [h2]; rfl⟩, decide_eq_true rfl⟩, rfl⟩
theorem putK_len {κ : Type} [DecidableEq κ] {kvs : List (κ × V)} {k : κ} {v : V} : (putK kvs k v).length ≤ kvs.length + 1 := by
  unfold putK
  split
  · rw [List.length_map]; omega
  · rw [List.length_append]; exact Nat.le_refl _
theorem putK_same {κ : Type} [DecidableEq κ] {kvs : List (κ × V)} {k : κ} {v u : V} (h : valV kvs k = some u) : (putK kvs k v).length = kvs.length := by
  unfold putK
  rw [valV_any, h]
  simp
theorem dropK_len {κ : Type} [DecidableEq κ] {kvs : List (κ × V)} {k : κ} : (dropK kvs k).length ≤ kvs.length := List.length_filter_le _ _
theorem DsR.push {H0 H : Hp} {F r : Addr} {rs : List Addr} {n : Nat} {fs : Nat → Int → Int → Int} {N : Nat → Nat} (h : DsR H0 H F rs n fs N) {kvs : List (List Key × V)} (e : H r = some (.dT kvs)) (q : FlD kvs (fs n)) (l : kvs.length ≤ N n) (nr : H0 r = none) (nF : r ≠ F) (nrs : r ∉ rs) : DsR H0 (L2.upd H F (.lst (rs.map V.ref ++ [.ref r]))) F (rs ++ [r]) (n + 1) fs N := by
  have nd := h.nd
  rw [List.nodup_cons] at nd
  refine ⟨by rw [List.map_append]; exact L2.upd_same, by rw [List.length_append, h.len]; rfl, List.nodup_cons.mpr ⟨fun hc => ?_, ?_⟩, fun b hb => ?_, fun k r' e1 => ?_⟩
  · rcases List.mem_append.mp hc with z | z
    · exact nd.1 z
    · exact nF (List.mem_singleton.mp z).symm
  · rw [List.nodup_append]
    exact ⟨nd.2, by simp, fun a ha b hb e => nrs (by rw [List.mem_singleton.mp hb] at e; rw [← e]; exact ha)⟩
  · rcases List.mem_cons.mp hb with rfl | z
    · exact h.nw _ (by simp)
    · rcases List.mem_append.mp z with z | z
      · exact h.nw _ (List.mem_cons_of_mem _ z)
      · rw [List.mem_singleton.mp z]; exact nr
  · by_cases c : k < rs.length
    · rw [List.getElem?_append_left c] at e1
      obtain ⟨kws, q1, q2, q3⟩ := h.row k r' e1
      exact ⟨kws, lk_upd (fun z => nd.1 (by rw [← z]; exact List.mem_of_getElem? e1)) q1, q2, q3⟩
    · rw [List.getElem?_append_right (by omega)] at e1
      have : k - rs.length = 0 := by
        have := (List.getElem?_eq_some_iff.mp e1).1
        simp at this
        omega
      rw [this] at e1
      cases e1
      have hk : k = n := by have := h.len; omega
      rw [hk]
      exact ⟨kvs, lk_upd nF e, q, l⟩
theorem AccN.dict {H1 H : Hp} {D r : Addr} {acc : List V} {ds : List PyData} {kvs kws : List (List Key × V)} (h : AccN H1 H D acc ds) (e : H r = some (.dT kvs)) (nr : H1 r = none) : AccN H1 (L2.upd H r (.dT kws)) D acc ds := by
  obtain ⟨s, hD, S, o, nd, nD, nw⟩ := h
  refine ⟨Same.mut s nr, lk_upd (fun c => by rw [c, e] at hD; cases hD) hD, S, ?_, nd, nD, nw⟩
  refine OwAll.kp (T := [r]) (fun b xs hb z => ?_) (Kp.upd (by simp) Kp.refl) o fun b hb hc => ?_
  · rw [List.mem_singleton.mp hb, e] at z
    cases z
  · obtain ⟨xs, z⟩ := o.lists b hb
    rw [List.mem_singleton.mp hc, e] at z
    cases z
theorem AccN.same {H1 H H' : Hp} {D : Addr} {acc : List V} {ds : List PyData} (h : AccN H1 H D acc ds) (s : Same H H') : AccN H1 H' D acc ds := by
  obtain ⟨s0, hD, S, o, nd, nD, nw⟩ := h
  exact ⟨s0.trans s, s _ _ hD, S, o.same s, nd, nD, nw⟩
theorem DsR.other {H0 H : Hp} {F M : Addr} {rs : List Addr} {n : Nat} {fs : Nat → Int → Int → Int} {N : Nat → Nat} {zs : List V} {o : HO} (h : DsR H0 H F rs n fs N) (e : H M = some (.lst zs)) (n1 : M ≠ F) : DsR H0 (L2.upd H M o) F rs n fs N := ⟨lk_upd (fun c => n1 c.symm) h.hF, h.len, h.nd, h.nw, fun k r z => by
  obtain ⟨kvs, q1, q2⟩ := h.row k r z
  exact ⟨kvs, lk_upd (fun c => by rw [c, e] at q1; cases q1) q1, q2⟩⟩
theorem nsum_le {B : Nat} : ∀ {l : List Nat}, (∀ x ∈ l, x ≤ B) → l.sum ≤ l.length * B
  | [], _ => Nat.zero_le _
  | x :: l, h => by
    have := nsum_le (l := l) fun y hy => h y (List.mem_cons_of_mem _ hy)
    have := h x List.mem_cons_self
    rw [List.sum_cons, List.length_cons, Nat.succ_mul]
    omega
theorem own_part {H : Hp} {T b : Addr} {p : List Int} {w : Int} (h1 : H T = some (.tup [.ref b, .int w])) (h2 : H b = some (.lst (p.map V.int))) : Ow H (.ref T) (partD (p, w)) [b] := by
  have := Ow.tup h1 (OwAll.cons (Ow.lst h2 (own_ints p)) (OwAll.cons (Ow.int w) OwAll.nil))
  exact this
theorem DsR.putB {H0 H G : Hp} {F r : Addr} {rs : List Addr} {n : Nat} {fs : Nat → Int → Int → Int} {N : Nat → Nat} (h : DsR H0 H F rs n fs N) {k : Nat} (e : rs[k]? = some r) (s : But r H G) {kvs : List (List Key × V)} {f : Int → Int → Int} (q : FlD kvs f) {M : Nat} (l : kvs.length ≤ M) : DsR H0 (L2.upd G r (.dT kvs)) F rs n (fun j => if j = k then f else fs j) (fun j => if j = k then M else N j) := by
  have hr := List.mem_of_getElem? e
  have nd := h.nd
  rw [List.nodup_cons] at nd
  have hFr : F ≠ r := fun c => nd.1 (by rw [c]; exact hr)
  refine ⟨lk_upd hFr (s _ _ hFr h.hF), h.len, h.nd, h.nw, fun j r' e1 => ?_⟩
  by_cases c : j = k
  · subst c
    rw [e] at e1
    cases e1
    rw [if_pos rfl, if_pos rfl]
    exact ⟨kvs, upd_same, q, l⟩
  · obtain ⟨kws, q1, q2, q3⟩ := h.row j r' e1
    rw [if_neg c, if_neg c]
    have hne : r' ≠ r := fun z => c (nodup_at nd.2 e1 (by rw [z]; exact e))
    exact ⟨kws, lk_upd hne (s _ _ hne q1), q2, q3⟩
theorem AccN.dictB {H1 H G : Hp} {D r : Addr} {acc : List V} {ds : List PyData} {kvs : List (List Key × V)} {o : HO} (h : AccN H1 H D acc ds) (e : H r = some (.dT kvs)) (nr : H1 r = none) (s : But r H G) : AccN H1 (L2.upd G r o) D acc ds := by
  obtain ⟨s0, hD, S, ow, nd, nD, nw⟩ := h
  have Dr : D ≠ r := fun c => by rw [c, e] at hD; cases hD
  refine ⟨fun b u z => ?_, lk_upd Dr (s _ _ Dr hD), S, ?_, nd, nD, nw⟩
  · have br : b ≠ r := fun c => by rw [c, nr] at z; cases z
    exact lk_upd br (s _ _ br (s0 _ _ z))
  · refine OwAll.kp (T := [r]) (fun b xs hb z => ?_) (fun b u hb z => ?_) ow fun b hb hc => ?_
    · rw [List.mem_singleton.mp hb, e] at z
      cases z
    · have br : b ≠ r := fun c => hb (by rw [c]; simp)
      exact lk_upd br (s _ _ br z)
    · obtain ⟨xs, z⟩ := ow.lists b hb
      rw [List.mem_singleton.mp hc, e] at z
      cases z
end Hf
/-! ## papers judged: plainly -/
namespace Hf
open PySem PySem.Spec PyProof.Rows L2
def tabD (tb : List (List Int)) : PyData := .list (tb.map planD)
def sideS (sd : Bool) : Str := if sd = true then PySem.Str.ofString "second" else PySem.Str.ofString "first"
def ownS (f s : Int) (sd : Bool) : Int := if sd = true then s else f
def othS (f s : Int) (sd : Bool) : Int := if sd = true then f else s
/-- what is won on a field, the side's own count ahead -/
def payS (fl : Fld) (sd : Bool) (x y : Int) : Int := if sd = true then paidV fl y x else paidV fl x y
/-- what a stream's row wins against a count of the other side's, times its flows -/
def dueV (fl : Fld) (sd : Bool) (L : List Fl) (y : Int) : Int := (L.map fun e => e.2.2 * payS fl sd e.2.1 y).sum
def dueRow (fs : List Fld) (sd : Bool) (Ls : List (List Fl)) (w : Nat) (k : Nat) : List Int := (List.range w).map fun y : Nat => dueV (fldAt fs k) sd ((Ls[k]?).getD []) y
def duesV (fs : List Fld) (sd : Bool) (Ls : List (List Fl)) (w : Nat) : List (List Int) := (List.range fs.length).map (dueRow fs sd Ls w)
def t2 (tb : List (List Int)) (k y : Nat) : Int := (((tb[k]?).getD [])[y]?).getD 0
structure Rect (tb : List (List Int)) (n w : Nat) : Prop where
  len : tb.length = n
  rows : ∀ r ∈ tb, r.length = w
theorem Rect.at {tb : List (List Int)} {n w k : Nat} (h : Rect tb n w) (hk : k < n) : ∃ r, tb[k]? = some r ∧ r.length = w := by
  have hk' : k < tb.length := by rw [h.len]; exact hk
  exact ⟨tb[k], List.getElem?_eq_getElem hk', h.rows _ (List.getElem_mem hk')⟩
theorem Rect.get {tb : List (List Int)} {n w k y : Nat} (h : Rect tb n w) (hk : k < n) (hy : y < w) : ∃ r, tb[k]? = some r ∧ r[y]? = some (t2 tb k y) := by
  obtain ⟨r, e1, e2⟩ := h.at hk
  refine ⟨r, e1, ?_⟩
  unfold t2
  rw [e1, Option.getD_some, List.getElem?_eq_getElem (by omega)]
  rfl
theorem dueRow_len {fs : List Fld} {sd : Bool} {Ls : List (List Fl)} {w k : Nat} : (dueRow fs sd Ls w k).length = w := by
  unfold dueRow
  rw [List.length_map, List.length_range]
theorem dues_rect {fs : List Fld} {sd : Bool} {Ls : List (List Fl)} {w : Nat} : Rect (duesV fs sd Ls w) fs.length w := ⟨by unfold duesV; rw [List.length_map, List.length_range], fun r hr => by
  unfold duesV at hr
  obtain ⟨k, _, rfl⟩ := List.mem_map.mp hr
  exact dueRow_len⟩
theorem dues_t2 {fs : List Fld} {sd : Bool} {Ls : List (List Fl)} {w k y : Nat} (hk : k < fs.length) (hy : y < w) : t2 (duesV fs sd Ls w) k y = dueV (fldAt fs k) sd ((Ls[k]?).getD []) y := by
  unfold t2 duesV
  rw [List.getElem?_map, List.getElem?_range hk, Option.map_some, Option.getD_some]
  unfold dueRow
  rw [List.getElem?_map, List.getElem?_range hy, Option.map_some, Option.getD_some]
/-- what comes of each count that is sent to a field -/
def goV (due tb : List (List Int)) (k l : Nat) : List Int := if k + 1 = due.length then [t2 due k l] else (List.range (l + 1)).map fun s => t2 due k s + t2 tb (k + 1) (l - s)
theorem goV_len {due tb : List (List Int)} {k l : Nat} : 1 ≤ (goV due tb k l).length := by
  unfold goV
  split
  · simp
  · rw [List.length_map, List.length_range]; omega
theorem goV_len2 {due tb : List (List Int)} {k l : Nat} : (goV due tb k l).length ≤ l + 1 := by
  unfold goV
  split
  · simp
  · rw [List.length_map, List.length_range]; omega
theorem goV_mem {due tb : List (List Int)} {k l : Nat} {x : Int} : x ∈ goV due tb k l ↔ (k + 1 = due.length ∧ x = t2 due k l) ∨ (k + 1 ≠ due.length ∧ ∃ s, s ≤ l ∧ x = t2 due k s + t2 tb (k + 1) (l - s)) := by
  unfold goV
  split
  · next c => simp [c]
  · next c =>
    rw [List.mem_map]
    constructor
    · rintro ⟨s, h, rfl⟩
      exact .inr ⟨c, s, by rw [List.mem_range] at h; omega, rfl⟩
    · rintro (⟨h, _⟩ | ⟨_, s, h, rfl⟩)
      · exact absurd h c
      · exact ⟨s, List.mem_range.mpr (by omega), rfl⟩
/-- a table's number does not bound what comes -/
def badAt (due tb : List (List Int)) (sd : Bool) (k l : Nat) : Prop := ∃ x ∈ goV due tb k l, if sd = true then t2 tb k l < x else x < t2 tb k l
/-- the first place of n times w that is bad -/
def FB (B : Nat → Nat → Prop) (n w : Nat) : Option (Nat × Nat) → Prop
  | none => ∀ k l, k < n → l < w → ¬ B k l
  | some (a, b) => a < n ∧ b < w ∧ B a b ∧ ∀ k l, l < w → (k < a ∨ (k = a ∧ l < b)) → ¬ B k l
theorem FB.uniq {B : Nat → Nat → Prop} {n w : Nat} : ∀ {r t : Option (Nat × Nat)}, FB B n w r → FB B n w t → r = t
  | none, none, _, _ => rfl
  | none, some (a, b), h, ⟨h1, h2, h3, _⟩ => absurd h3 (h a b h1 h2)
  | some (a, b), none, ⟨h1, h2, h3, _⟩, h => absurd h3 (h a b h1 h2)
  | some (a, b), some (c, d), ⟨h1, h2, h3, h4⟩, ⟨g1, g2, g3, g4⟩ => by
    by_cases e1 : a < c
    · exact absurd h3 (g4 a b h2 (.inl e1))
    · by_cases e2 : c < a
      · exact absurd g3 (h4 c d g2 (.inl e2))
      · obtain rfl : a = c := by omega
        by_cases e3 : b < d
        · exact absurd h3 (g4 a b h2 (.inr ⟨rfl, e3⟩))
        · by_cases e4 : d < b
          · exact absurd g3 (h4 a d g2 (.inr ⟨rfl, e4⟩))
          · obtain rfl : b = d := by omega
            rfl
/-- a table of n rows of numbers for so many hosts -/
def isTabB (n h : Int) : PyData → Bool
  | .list ds => decide ((ds.length : Int) = n) && ds.all (areNumsD (h + 1))
  | _ => false
theorem numsL_of {n : Int} {d : PyData} (h : areNumsD n d = true) : ∃ ms : List Int, d = planD ms ∧ (ms.length : Int) = n := by
  cases d with
  | list ds =>
    rw [areNumsD, Bool.and_eq_true, decide_eq_true_eq] at h
    obtain ⟨h1, h2⟩ := h
    have : ∃ ms : List Int, ds = ms.map PyData.int := by
      clear h1
      induction ds with
      | nil => exact ⟨[], rfl⟩
      | cons d ds ih =>
        rw [List.all_cons, Bool.and_eq_true] at h2
        obtain ⟨x, rfl⟩ := num_inv h2.1
        obtain ⟨ms, rfl⟩ := ih h2.2
        exact ⟨x :: ms, rfl⟩
    obtain ⟨ms, rfl⟩ := this
    exact ⟨ms, rfl, by rw [List.length_map] at h1; exact h1⟩
  | _ => simp [areNumsD] at h
def IsTab (n h : Int) (d : PyData) : Prop := ∃ tb, d = tabD tb ∧ (tb.length : Int) = n ∧ ∀ r ∈ tb, (r.length : Int) = h + 1
theorem isTab_iff {n h : Int} {d : PyData} : isTabB n h d = true ↔ IsTab n h d := by
  constructor
  · intro e
    cases d with
    | list ds =>
      rw [isTabB, Bool.and_eq_true, decide_eq_true_eq] at e
      obtain ⟨e1, e2⟩ := e
      have : ∃ tb : List (List Int), ds = tb.map planD ∧ ∀ r ∈ tb, (r.length : Int) = h + 1 := by
        clear e1
        induction ds with
        | nil => exact ⟨[], rfl, nofun⟩
        | cons d ds ih =>
          rw [List.all_cons, Bool.and_eq_true] at e2
          obtain ⟨ms, rfl, l⟩ := numsL_of e2.1
          obtain ⟨tb, rfl, q⟩ := ih e2.2
          refine ⟨ms :: tb, rfl, fun r hr => ?_⟩
          rcases List.mem_cons.mp hr with z | z
          · rw [z]; exact l
          · exact q r z
      obtain ⟨tb, rfl, q⟩ := this
      exact ⟨tb, rfl, by rw [List.length_map] at e1; exact e1, q⟩
    | _ => simp [isTabB] at e
  · rintro ⟨tb, rfl, e1, e2⟩
    rw [tabD, isTabB, Bool.and_eq_true, decide_eq_true_eq, List.length_map]
    refine ⟨e1, ?_⟩
    rw [List.all_map, List.all_eq_true]
    intro r hr
    show areNumsD (h + 1) (planD r) = true
    rw [nums_plan, decide_eq_true (e2 r hr)]
theorem isTab_no {n h : Int} {d : PyData} : isTabB n h d = false ↔ ¬ IsTab n h d := by
  rw [← isTab_iff, Bool.not_eq_true]
theorem tabD_inj {a b : List (List Int)} (h : tabD a = tabD b) : a = b := by
  simp only [tabD] at h
  injection h with h
  refine (List.map_inj_right fun x y e => ?_).mp h
  simp only [planD] at e
  injection e with e
  exact (List.map_inj_right fun i j q => by injection q).mp e
/-- a stream's whole -/
def wholeF (Ls : List (List Fl)) : Int := (((Ls[0]?).getD []).map fun e => e.2.2).sum
/-- what a table shows falls short of the worth -/
def ShortW (sd : Bool) (top bot w t : Int) : Prop := if sd = true then top * w < t * bot else t * bot < top * w
def wordD (x : String) : PyData := .tuple [.str (PySem.Str.ofString x)]
def numD (k l : Nat) : PyData := .tuple [.str (PySem.Str.ofString "number"), .int k, .int l]
/-- what judged tells -/
inductive JudR (f s : Int) (fs : List Fld) (sd : Bool) (top bot : Int) (d r : PyData) : Prop
  | paper (h : ∀ a b, d ≠ .tuple [a, b]) (e : r = wordD "paper")
  | stream (a b : PyData) (h : d = .tuple [a, b]) (c : ¬ IsStr (ownS f s sd) fs.length a) (e : r = wordD "stream")
  | table (a b : PyData) (h : d = .tuple [a, b]) (c : IsStr (ownS f s sd) fs.length a) (c2 : ¬ IsTab fs.length (othS f s sd) b) (e : r = wordD "table")
  | num (Ls : List (List Fl)) (tb : List (List Int)) (k l : Nat) (h : d = .tuple [strD Ls, tabD tb]) (g : StrG (ownS f s sd) fs.length Ls) (t : Rect tb fs.length (othS f s sd + 1).toNat) (w : FB (badAt (duesV fs sd Ls (othS f s sd + 1).toNat) tb sd) fs.length (othS f s sd + 1).toNat (some (k, l))) (e : r = numD k l)
  | worth (Ls : List (List Fl)) (tb : List (List Int)) (h : d = .tuple [strD Ls, tabD tb]) (g : StrG (ownS f s sd) fs.length Ls) (t : Rect tb fs.length (othS f s sd + 1).toNat) (w : FB (badAt (duesV fs sd Ls (othS f s sd + 1).toNat) tb sd) fs.length (othS f s sd + 1).toNat none) (c : ShortW sd top bot (wholeF Ls) (t2 tb 0 (othS f s sd).toNat)) (e : r = wordD "worth")
  | good (Ls : List (List Fl)) (tb : List (List Int)) (h : d = .tuple [strD Ls, tabD tb]) (g : StrG (ownS f s sd) fs.length Ls) (t : Rect tb fs.length (othS f s sd + 1).toNat) (w : FB (badAt (duesV fs sd Ls (othS f s sd + 1).toNat) tb sd) fs.length (othS f s sd + 1).toNat none) (c : ¬ ShortW sd top bot (wholeF Ls) (t2 tb 0 (othS f s sd).toNat)) (e : r = .none)
theorem tab_rect {n : Nat} {h : Int} {d : PyData} (k : IsTab n h d) : ∃ tb, d = tabD tb ∧ Rect tb n (h + 1).toNat := by
  obtain ⟨tb, rfl, e1, e2⟩ := k
  exact ⟨tb, rfl, by omega, fun r hr => by have := e2 r hr; omega⟩
theorem rect_tab {n : Nat} {h : Int} {tb : List (List Int)} (h0 : 0 ≤ h) (k : Rect tb n (h + 1).toNat) : IsTab n h (tabD tb) := ⟨tb, rfl, by rw [k.len], fun r hr => by have := k.rows r hr; omega⟩
theorem pair_inj {a b c d : PyData} (h : PyData.tuple [a, b] = .tuple [c, d]) : a = c ∧ b = d := by
  injection h with h
  injection h with h1 h2
  injection h2 with h2
  exact ⟨h1, h2⟩
theorem JudR.uniq {f s : Int} {fs : List Fld} {sd : Bool} {top bot : Int} {d r t : PyData} (h0 : 0 ≤ othS f s sd) (x : JudR f s fs sd top bot d r) (y : JudR f s fs sd top bot d t) : r = t := by
  have ps : ∀ {Ls Ms : List (List Fl)} {tb tc : List (List Int)}, PyData.tuple [strD Ls, tabD tb] = .tuple [strD Ms, tabD tc] → Ls = Ms ∧ tb = tc := fun h => ⟨strD_inj (pair_inj h).1, tabD_inj (pair_inj h).2⟩
  cases x with
  | paper h e =>
    cases y with
    | paper h' e' => rw [e, e']
    | stream a b h' | table a b h' => exact absurd h' (h a b)
    | num Ls tb _ _ h' | worth Ls tb h' | good Ls tb h' => exact absurd h' (h _ _)
  | stream a b h c e =>
    cases y with
    | paper h' => exact absurd h (h' a b)
    | stream a' b' h' c' e' => rw [e, e']
    | table a' b' h' c' => exact absurd (by rw [(pair_inj (h.symm.trans h')).1]; exact c') c
    | num Ls tb _ _ h' g | worth Ls tb h' g | good Ls tb h' g => exact absurd ⟨Ls, (pair_inj (h.symm.trans h')).1, g⟩ c
  | table a b h c c2 e =>
    cases y with
    | paper h' => exact absurd h (h' a b)
    | stream a' b' h' c' => exact absurd (by rw [← (pair_inj (h.symm.trans h')).1]; exact c) c'
    | table a' b' h' c' c2' e' => rw [e, e']
    | num Ls tb _ _ h' g t' | worth Ls tb h' g t' | good Ls tb h' g t' => exact absurd (by rw [(pair_inj (h.symm.trans h')).2]; exact rect_tab h0 t') c2
  | num Ls tb k l h g t' w e =>
    cases y with
    | paper h' => exact absurd h (h' _ _)
    | stream a' b' h' c' => exact absurd ⟨Ls, (pair_inj (h'.symm.trans h)).1, g⟩ c'
    | table a' b' h' c' c2' => exact absurd (by rw [(pair_inj (h'.symm.trans h)).2]; exact rect_tab h0 t') c2'
    | num Ms tc k' l' h' g' t'' w' e' =>
      obtain ⟨rfl, rfl⟩ := ps (h.symm.trans h')
      have := w.uniq w'
      cases this
      rw [e, e']
    | worth Ms tc h' g' t'' w' | good Ms tc h' g' t'' w' =>
      obtain ⟨rfl, rfl⟩ := ps (h.symm.trans h')
      have := w.uniq w'
      cases this
  | worth Ls tb h g t' w c e =>
    cases y with
    | paper h' => exact absurd h (h' _ _)
    | stream a' b' h' c' => exact absurd ⟨Ls, (pair_inj (h'.symm.trans h)).1, g⟩ c'
    | table a' b' h' c' c2' => exact absurd (by rw [(pair_inj (h'.symm.trans h)).2]; exact rect_tab h0 t') c2'
    | num Ms tc k' l' h' g' t'' w' =>
      obtain ⟨rfl, rfl⟩ := ps (h.symm.trans h')
      have := w.uniq w'
      cases this
    | worth Ms tc h' g' t'' w' c' e' => rw [e, e']
    | good Ms tc h' g' t'' w' c' =>
      obtain ⟨rfl, rfl⟩ := ps (h.symm.trans h')
      exact absurd c c'
  | good Ls tb h g t' w c e =>
    cases y with
    | paper h' => exact absurd h (h' _ _)
    | stream a' b' h' c' => exact absurd ⟨Ls, (pair_inj (h'.symm.trans h)).1, g⟩ c'
    | table a' b' h' c' c2' => exact absurd (by rw [(pair_inj (h'.symm.trans h)).2]; exact rect_tab h0 t') c2'
    | num Ms tc k' l' h' g' t'' w' =>
      obtain ⟨rfl, rfl⟩ := ps (h.symm.trans h')
      have := w.uniq w'
      cases this
    | worth Ms tc h' g' t'' w' c' =>
      obtain ⟨rfl, rfl⟩ := ps (h.symm.trans h')
      exact absurd c' c
    | good Ms tc h' g' t'' w' c' e' => rw [e, e']
/-! ### how great numbers are -/
def Wd (b : Nat) (x : Int) : Prop := x.natAbs < 2 ^ b
theorem Wd.mono {a b : Nat} {x : Int} (h : Wd a x) (e : a ≤ b) : Wd b x := Nat.lt_of_lt_of_le h (Nat.pow_le_pow_right (by decide) e)
theorem Wd.cmul {a b : Nat} {x y : Int} (hx : Wd a x) (hy : Wd b y) (h0 : 0 < a) (h1 : 0 < b) (h : a + b ≤ 1000000) : CMulA x y := mulW hx hy h0 h1 h
theorem Wd.mul {a b : Nat} {x y : Int} (hx : Wd a x) (hy : Wd b y) : Wd (a + b) (x * y) := by
  unfold Wd at *
  rw [Int.natAbs_mul, Nat.pow_add]
  by_cases c : y.natAbs = 0
  · rw [c, Nat.mul_zero]
    exact Nat.mul_pos (Nat.two_pow_pos a) (Nat.two_pow_pos b)
  · exact Nat.mul_lt_mul_of_lt_of_le hx (Nat.le_of_lt hy) (Nat.two_pow_pos b)
theorem Wd.add {a : Nat} {x y : Int} (hx : Wd a x) (hy : Wd a y) : Wd (a + 1) (x + y) := by
  unfold Wd at *
  have := Int.natAbs_add_le x y
  rw [Nat.pow_succ]
  omega
theorem Wd.neg {a : Nat} {x : Int} (hx : Wd a x) : Wd a (0 - x) := by
  unfold Wd at *
  rw [Int.zero_sub, Int.natAbs_neg]
  exact hx
theorem wd_sum {a k : Nat} {l : List Int} (h : ∀ x ∈ l, Wd a x) (hl : l.length ≤ 2 ^ k) : Wd (a + k) l.sum := by
  have key : ∀ l : List Int, (∀ x ∈ l, Wd a x) → l.sum.natAbs + l.length ≤ l.length * 2 ^ a := by
    intro l
    induction l with
    | nil => intro _; simp
    | cons x l ih =>
      intro h
      have h1 : x.natAbs < 2 ^ a := h x List.mem_cons_self
      have h2 := ih fun y hy => h y (List.mem_cons_of_mem _ hy)
      have h3 := Int.natAbs_add_le x l.sum
      rw [List.sum_cons, List.length_cons, Nat.succ_mul]
      omega
  have h1 := key l h
  unfold Wd
  rw [Nat.pow_add]
  have h2 : l.length * 2 ^ a ≤ 2 ^ k * 2 ^ a := Nat.mul_le_mul_right _ hl
  rw [Nat.mul_comm (2 ^ k)] at h2
  cases l with
  | nil =>
    simp only [List.sum_nil, Int.natAbs_zero]
    exact Nat.mul_pos (Nat.two_pow_pos a) (Nat.two_pow_pos k)
  | cons x l =>
    rw [List.length_cons] at h1 h2
    omega
theorem wd_log {k : Nat} {x : Int} (h : x.natAbs.log2 < k) : Wd k x := by
  unfold Wd
  by_cases c : x.natAbs = 0
  · rw [c]; exact Nat.two_pow_pos k
  · exact (Nat.log2_lt c).mp h
theorem shA_mem : ∀ {ds : List PyData} {d : PyData}, PyData.showableAll ds = true → d ∈ ds → d.showable = true
  | [], _, _, h => by simp at h
  | e :: ds, d, h, hd => by
    rw [PyData.showableAll, Bool.and_eq_true] at h
    rcases List.mem_cons.mp hd with z | z
    · rw [z]; exact h.1
    · exact shA_mem h.2 z
theorem sh_int {x : Int} (h : (PyData.int x).showable = true) : Wd 1920 x := by
  rw [PyData.showable] at h
  exact wd_log (of_decide_eq_true h)
theorem sh_flows {Ls : List (List Fl)} (h : (strD Ls).showable = true) : ∀ L ∈ Ls, ∀ e ∈ L, Wd 1920 e.2.2 := by
  intro L hL e he
  rw [strD, PyData.showable] at h
  have h1 := shA_mem h (List.mem_map_of_mem hL)
  rw [rowD, PyData.showable] at h1
  have h2 := shA_mem h1 (List.mem_map_of_mem he)
  rw [flD, PyData.showable] at h2
  exact sh_int (shA_mem h2 (by simp))
theorem sh_table {tb : List (List Int)} (h : (tabD tb).showable = true) : ∀ r ∈ tb, ∀ x ∈ r, Wd 1920 x := by
  intro r hr x hx
  rw [tabD, PyData.showable] at h
  have h1 := shA_mem h (List.mem_map_of_mem hr)
  rw [planD, PyData.showable] at h1
  exact sh_int (shA_mem h1 (List.mem_map_of_mem hx))
theorem sh_pair {a b : PyData} (h : (PyData.tuple [a, b]).showable = true) : a.showable = true ∧ b.showable = true := by
  rw [PyData.showable] at h
  exact ⟨shA_mem h (by simp), shA_mem h (by simp)⟩
/-- what is won on the fields is not too great -/
def PayWd (fs : List Fld) (f s : Int) : Prop := ∀ fl ∈ fs, ∀ x y : Int, 0 ≤ x → x ≤ f → 0 ≤ y → y ≤ s → Wd 8000 (paidV fl x y)
theorem pay_wd {fs : List Fld} {f s : Int} (h : ∀ x ∈ fs, FldSm x) : PayWd fs f s := by
  intro fl hf x y _ _ _ _
  have sm : ∀ {z : Int}, Sm z → Wd 110 z := fun {z} hz => by
    unfold Sm at hz
    unfold Wd
    omega
  have k := h fl hf
  refine Wd.mono (a := 110) ?_ (by decide)
  cases fl with
  | more w t =>
    show Wd 110 (if x = y then t else if x > y then w else 0 - w)
    split
    · exact sm k.2
    · split
      · exact sm k.1
      · exact (sm k.1).neg
  | lead w t =>
    show Wd 110 (if x ≥ y + t then w else 0 - w)
    split
    · exact sm k.1
    · exact (sm k.1).neg
  | tab rows =>
    show Wd 110 ((((rows[x.toNat]?).getD [])[y.toNat]?).getD 0)
    cases e : rows[x.toNat]? with
    | none => simp [Wd]
    | some r =>
      cases e2 : r[y.toNat]? with
      | none => simp [e2, Wd]
      | some z =>
        simp only [Option.getD_some, e2]
        exact sm (k r (List.mem_of_getElem? e) z (List.mem_of_getElem? e2))
/-- a stream's shape, as dues wants it -/
def StrS (h : Int) (n : Nat) (Ls : List (List Fl)) : Prop := Ls.length = n ∧ ∀ L ∈ Ls, L.length ≤ 1000 ∧ ∀ e ∈ L, 0 ≤ e.2.1 ∧ e.2.1 ≤ h ∧ Wd 1920 e.2.2
theorem StrG.s {h : Int} {n : Nat} {Ls : List (List Fl)} (g : StrG h n Ls) (w : wid (strD Ls) ≤ 1000) (b : (strD Ls).showable = true) : StrS h n Ls := by
  refine ⟨by have := g.ne.1; omega, fun L hL => ⟨?_, fun e he => ?_⟩⟩
  · rw [strD, wid] at w
    have h1 := widA_mem (List.mem_map_of_mem (f := rowD) hL)
    rw [rowD, wid, List.length_map] at h1
    omega
  · have k := (g.pre.rows L hL).ok e he
    exact ⟨k.1, by have := k.2.1; have := k.2.2.1; omega, sh_flows b L hL e he⟩
theorem str_inv {H : Hp} {v : V} {Ls : List (List Fl)} (h : Dq H v (strD Ls)) : ∃ a xs, v = .ref a ∧ H a = some (.lst xs) ∧ DqAll H xs (Ls.map rowD) := by
  obtain ⟨a, xs, rfl, h1, h2⟩ := h.list_inv
  exact ⟨a, xs, rfl, h1, h2⟩
theorem tab_inv {H : Hp} {v : V} {tb : List (List Int)} (h : Dq H v (tabD tb)) : ∃ a xs, v = .ref a ∧ H a = some (.lst xs) ∧ DqAll H xs (tb.map planD) := by
  obtain ⟨a, xs, rfl, h1, h2⟩ := h.list_inv
  exact ⟨a, xs, rfl, h1, h2⟩
theorem tab_at {H : Hp} {xs : List V} {tb : List (List Int)} {n w k : Nat} (q : DqAll H xs (tb.map planD)) (r : Rect tb n w) (hk : k < n) : ∃ p ms, xs[k]? = some (.ref p) ∧ H p = some (.lst (List.map V.int ms)) ∧ List.length ms = w ∧ ∀ y, y < w → ms[y]? = some (t2 tb k y) := by
  have hl : xs.length = tb.length := by rw [q.len, List.length_map]
  have hk' : k < xs.length := by rw [hl, r.len]; exact hk
  obtain ⟨ms, p, e1, e2, e3⟩ := row_at q (List.getElem?_eq_getElem hk')
  refine ⟨p, ms, by rw [List.getElem?_eq_getElem hk', e2], e3, r.rows _ (List.mem_of_getElem? e1), fun y hy => ?_⟩
  obtain ⟨r', f1, f2⟩ := r.get hk hy
  rw [e1] at f1
  cases f1
  exact f2
theorem DqAll.two {H : Hp} {xs : List V} {a b : PyData} (q : DqAll H xs [a, b]) : ∃ x y, xs = [x, y] ∧ Dq H x a ∧ Dq H y b := by
  cases q with
  | cons h q =>
    cases q with
    | cons h2 q => cases q; exact ⟨_, _, rfl, h, h2⟩
theorem inV2 {w a b : Str} (h1 : ¬ w = a) (h2 : ¬ w = b) : L2.inV (.str w) [.str a, .str b] = false := by
  have h1' : ¬ a = w := fun e => h1 e.symm
  have h2' : ¬ b = w := fun e => h2 e.symm
  simp [L2.inV, L2.eqV, h1', h2']
end Hf
/-! ## best tables, and what they show -/
namespace Hf
open PySem PySem.Spec PyProof.Rows L2
def BestAt (due tb : List (List Int)) (sd : Bool) (k l : Nat) : Prop := t2 tb k l ∈ goV due tb k l ∧ ∀ x ∈ goV due tb k l, if sd = true then x ≤ t2 tb k l else t2 tb k l ≤ x
structure BestT (due tb : List (List Int)) (sd : Bool) (n w : Nat) : Prop where
  rect : Rect tb n w
  best : ∀ k l, k < n → l < w → BestAt due tb sd k l
theorem BestAt.ok {due tb : List (List Int)} {sd : Bool} {k l : Nat} (h : BestAt due tb sd k l) : ¬ badAt due tb sd k l := fun ⟨x, hx, c⟩ => by
  have := h.2 x hx
  cases sd with
  | false =>
    have c' : x < t2 tb k l := c
    have t' : t2 tb k l ≤ x := this
    omega
  | true =>
    have c' : t2 tb k l < x := c
    have t' : x ≤ t2 tb k l := this
    omega
theorem BestT.fb {due tb : List (List Int)} {sd : Bool} {n w : Nat} (h : BestT due tb sd n w) : FB (badAt due tb sd) n w none := fun k l hk hl => (h.best k l hk hl).ok
theorem goV_congr {due tb tc : List (List Int)} {k l : Nat} (h : ∀ y, t2 tc (k + 1) y = t2 tb (k + 1) y) : goV due tc k l = goV due tb k l := by
  unfold goV
  split
  · rfl
  · exact List.map_congr_left fun s _ => by rw [h]
theorem t2_set {tb : List (List Int)} {k : Nat} {r : List Int} {j : Nat} {z : Int} (e : tb[k]? = some r) (hj : j < r.length) (k' l : Nat) : t2 (tb.set k (r.set j z)) k' l = if k' = k ∧ l = j then z else t2 tb k' l := by
  have hk : k < tb.length := (List.getElem?_eq_some_iff.mp e).1
  unfold t2
  by_cases c : k' = k
  · subst c
    rw [List.getElem?_set_self hk, Option.getD_some, e, Option.getD_some]
    by_cases c2 : l = j
    · subst c2
      rw [List.getElem?_set_self hj, if_pos ⟨rfl, rfl⟩]
      rfl
    · rw [List.getElem?_set_ne (Ne.symm c2), if_neg (fun z => c2 z.2)]
  · rw [List.getElem?_set_ne (Ne.symm c), if_neg (fun z => c z.1)]
theorem Rect.set {tb : List (List Int)} {n w k : Nat} {r' : List Int} (h : Rect tb n w) (hr : r'.length = w) : Rect (tb.set k r') n w := ⟨by rw [List.length_set]; exact h.len, fun q hq => by
  rcases List.mem_or_eq_of_mem_set hq with z | z
  · exact h.rows q z
  · rw [z]; exact hr⟩
/-- a number put at (k, j): what stood best beneath it and beside it stays -/
theorem BestAt.set {due tb : List (List Int)} {sd : Bool} {k j k' l : Nat} {r : List Int} {z : Int} (e : tb[k]? = some r) (hj : j < r.length) (h : BestAt due tb sd k' l) (c1 : ¬ (k' = k ∧ l = j)) (c2 : k' + 1 ≠ k) : BestAt due (tb.set k (r.set j z)) sd k' l := by
  have g : goV due (tb.set k (r.set j z)) k' l = goV due tb k' l := goV_congr fun y => by rw [t2_set e hj, if_neg (fun q => c2 q.1)]
  unfold BestAt
  rw [g, t2_set e hj, if_neg c1]
  exact h
theorem BestAt.new {due tb : List (List Int)} {sd : Bool} {k j : Nat} {r : List Int} {z : Int} (e : tb[k]? = some r) (hj : j < r.length) (h : z ∈ goV due tb k j) (h2 : ∀ x ∈ goV due tb k j, if sd = true then x ≤ z else z ≤ x) : BestAt due (tb.set k (r.set j z)) sd k j := by
  have g : goV due (tb.set k (r.set j z)) k j = goV due tb k j := goV_congr fun y => by rw [t2_set e hj, if_neg (fun q => by omega)]
  unfold BestAt
  rw [g, t2_set e hj, if_pos ⟨rfl, rfl⟩]
  exact ⟨h, h2⟩
/-- numbers of a best table are not much greater than the dues -/
theorem BestT.wd {due tb : List (List Int)} {sd : Bool} {n w b : Nat} (h : BestT due tb sd n w) (hd : Rect due n w) (q : ∀ k y, k < n → y < w → Wd b (t2 due k y)) : ∀ k l, k < n → l < w → Wd (b + n) (t2 tb k l) := by
  have key : ∀ j k l, k + j + 1 = n → l < w → Wd (b + j) (t2 tb k l) := by
    intro j
    induction j with
    | zero =>
      intro k l hk hl
      have := (h.best k l (by omega) hl).1
      rw [goV_mem] at this
      rcases this with ⟨_, e⟩ | ⟨c, _⟩
      · rw [e]; exact q k l (by omega) hl
      · rw [hd.len] at c; omega
    | succ j ih =>
      intro k l hk hl
      have := (h.best k l (by omega) hl).1
      rw [goV_mem] at this
      rcases this with ⟨c, _⟩ | ⟨_, s, hs, e⟩
      · rw [hd.len] at c; omega
      · rw [e]
        exact (Wd.add (a := b + j) ((q k s (by omega) (by omega)).mono (by omega)) (ih (k + 1) (l - s) (by omega) (by omega)) : Wd (b + j + 1) _)
  intro k l hk hl
  exact (key (n - k - 1) k l (by omega) hl).mono (by omega)
/-! ### every plan's way through a table that bounds -/
/-- what a stream wins against a plan of the other side, times its whole -/
def wayV (due : List (List Int)) (q : List Int) (k : Nat) : Nat → Int
  | 0 => 0
  | j + 1 => t2 due k ((q[k]?).getD 0).toNat + wayV due q (k + 1) j
theorem FB.way {due tb : List (List Int)} {sd : Bool} {n : Nat} {h : Int} (fb : FB (badAt due tb sd) n (h + 1).toNat none) (hd : due.length = n) {q : List Int} (hq : PlanC h n q) (h0 : 0 ≤ h) (hn : 1 ≤ n) :
    if sd = true then wayV due q 0 n ≤ t2 tb 0 h.toNat else t2 tb 0 h.toNat ≤ wayV due q 0 n := by
  obtain ⟨q1, q2, q3⟩ := hq
  have nn : ∀ k, 0 ≤ (q.drop k).sum := fun k => sum_nn1 fun x hx => q3 x (List.mem_of_mem_drop hx)
  have le : ∀ k, (q.drop k).sum ≤ h := by
    intro k
    induction k with
    | zero => rw [List.drop_zero]; omega
    | succ k ih =>
      by_cases c : k < q.length
      · have := drop_sum c
        have : 0 ≤ (q[k]?).getD 0 := by rw [List.getElem?_eq_getElem c]; exact q3 _ (List.getElem_mem c)
        omega
      · rw [List.drop_eq_nil_of_le (by omega)]; simp; exact h0
  have key : ∀ j k, k + j + 1 = n → (if sd = true then wayV due q k (j + 1) ≤ t2 tb k (q.drop k).sum.toNat else t2 tb k (q.drop k).sum.toNat ≤ wayV due q k (j + 1)) := by
    intro j
    induction j with
    | zero =>
      intro k hk
      have hk' : k < q.length := by omega
      have e := drop_sum hk'
      have nil : q.drop (k + 1) = [] := List.drop_eq_nil_of_le (by omega)
      rw [nil] at e
      have lk := le k
      have nk := nn k
      have nb := fb k (q.drop k).sum.toNat (by omega) (by omega)
      have e1 : ((q[k]?).getD 0).toNat = (q.drop k).sum.toNat := by rw [e]; simp
      have m : t2 due k (q.drop k).sum.toNat ∈ goV due tb k (q.drop k).sum.toNat := goV_mem.mpr (.inl ⟨by omega, rfl⟩)
      rw [wayV, wayV, e1]
      cases sd with
      | false =>
        show t2 tb k _ ≤ _
        by_cases c : t2 due k (q.drop k).sum.toNat < t2 tb k (q.drop k).sum.toNat
        · exact absurd ⟨_, m, c⟩ nb
        · omega
      | true =>
        show _ ≤ t2 tb k _
        by_cases c : t2 tb k (q.drop k).sum.toNat < t2 due k (q.drop k).sum.toNat
        · exact absurd ⟨_, m, c⟩ nb
        · omega
    | succ j ih =>
      intro k hk
      have hk' : k < q.length := by omega
      have e := drop_sum hk'
      have lk := le k
      have nk := nn k
      have nk1 := nn (k + 1)
      have p0 : 0 ≤ (q[k]?).getD 0 := by rw [List.getElem?_eq_getElem hk']; exact q3 _ (List.getElem_mem hk')
      have nb := fb k (q.drop k).sum.toNat (by omega) (by omega)
      have i1 := ih (k + 1) (by omega)
      have e2 : (q.drop k).sum.toNat - ((q[k]?).getD 0).toNat = (q.drop (k + 1)).sum.toNat := by omega
      have m : t2 due k ((q[k]?).getD 0).toNat + t2 tb (k + 1) (q.drop (k + 1)).sum.toNat ∈ goV due tb k (q.drop k).sum.toNat := goV_mem.mpr (.inr ⟨by omega, ((q[k]?).getD 0).toNat, by omega, by rw [e2]⟩)
      rw [wayV]
      cases sd with
      | false =>
        have i1' : t2 tb (k + 1) _ ≤ _ := i1
        show t2 tb k _ ≤ _
        by_cases c : t2 due k ((q[k]?).getD 0).toNat + t2 tb (k + 1) (q.drop (k + 1)).sum.toNat < t2 tb k (q.drop k).sum.toNat
        · exact absurd ⟨_, m, c⟩ nb
        · omega
      | true =>
        have i1' : _ ≤ t2 tb (k + 1) _ := i1
        show _ ≤ t2 tb k _
        by_cases c : t2 tb k (q.drop k).sum.toNat < t2 due k ((q[k]?).getD 0).toNat + t2 tb (k + 1) (q.drop (k + 1)).sum.toNat
        · exact absurd ⟨_, m, c⟩ nb
        · omega
  have := key (n - 1) 0 (by omega)
  rw [List.drop_zero, q2, show n - 1 + 1 = n by omega] at this
  exact this
/-! ### flows, weighed -/
theorem flow_weigh {k : Nat} {g : Int × Int → Int} {P : List (Int × Int)} (nd : P.Nodup) : ∀ {m : List (List Int × Int)}, (∀ pw ∈ m, keyAt pw.1 k ∈ P) →
    (P.map fun p => flowF m k p.1 p.2 * g p).sum = (m.map fun pw => pw.2 * g (keyAt pw.1 k)).sum
  | [], _ => by
    rw [sum_zero fun p _ => by show (0 : Int) * g p = 0; rw [Int.zero_mul]]
    rfl
  | pw :: m, h => by
    have ih := flow_weigh (g := g) nd (m := m) fun q hq => h q (List.mem_cons_of_mem _ hq)
    have s := sum_single (c := fun p => pw.2 * g p) nd (h pw List.mem_cons_self)
    rw [List.map_cons, List.sum_cons, ← ih, ← s, ← sum_add]
    congr 1
    apply List.map_congr_left
    intro p _
    have e : flowF (pw :: m) k p.1 p.2 = (if keyAt pw.1 k = p then pw.2 else 0) + flowF m k p.1 p.2 := rfl
    show flowF (pw :: m) k p.1 p.2 * g p = (if keyAt pw.1 k = p then pw.2 * g p else 0) + flowF m k p.1 p.2 * g p
    rw [e, Int.add_mul]
    split
    · rfl
    · rw [Int.zero_mul]
theorem row_weigh {m : List (List Int × Int)} {k : Nat} {L : List Fl} (hw : ∀ pw ∈ m, 1 ≤ pw.2) (r : RowF (flowF m k) L) (g : Int × Int → Int) :
    (L.map fun e => e.2.2 * g (e.1, e.2.1)).sum = (m.map fun pw => pw.2 * g (keyAt pw.1 k)).sum := by
  rw [← flow_weigh (row_nodup r.st) (m := m) (fun pw hp => ?_), List.map_map]
  · congr 1
    apply List.map_congr_left
    intro e he
    show e.2.2 * g (e.1, e.2.1) = flowF m k e.1 e.2.1 * g (e.1, e.2.1)
    rw [((r.mem e).mp he).1]
  · have ne := (flowF_ne (k := k) hw (keyAt pw.1 k).1 (keyAt pw.1 k).2).mpr ⟨pw, hp, rfl⟩
    exact List.mem_map.mpr ⟨((keyAt pw.1 k).1, (keyAt pw.1 k).2, flowF m k (keyAt pw.1 k).1 (keyAt pw.1 k).2), (r.mem _).mpr ⟨rfl, ne⟩, rfl⟩
theorem due_weigh {m : List (List Int × Int)} {n k : Nat} {Ls : List (List Fl)} {fl : Fld} {sd : Bool} {y : Int} (hw : ∀ pw ∈ m, 1 ≤ pw.2) (r : StrOf m n Ls) (hk : k < n) :
    dueV fl sd ((Ls[k]?).getD []) y = (m.map fun pw => pw.2 * payS fl sd ((pw.1[k]?).getD 0) y).sum := by
  have hk' : k < Ls.length := by rw [r.len]; exact hk
  rw [List.getElem?_eq_getElem hk', Option.getD_some]
  exact row_weigh hw (r.row k _ (List.getElem?_eq_getElem hk')) fun p => payS fl sd p.2 y
theorem whole_weigh {m : List (List Int × Int)} {n : Nat} {Ls : List (List Fl)} (hw : ∀ pw ∈ m, 1 ≤ pw.2) (r : StrOf m n Ls) (hn : 1 ≤ n) : wholeF Ls = whole m := by
  have h0 : 0 < Ls.length := by rw [r.len]; exact hn
  unfold wholeF whole
  rw [List.getElem?_eq_getElem h0, Option.getD_some]
  have := row_weigh hw (r.row 0 _ (List.getElem?_eq_getElem h0)) fun _ => 1
  simp only [Int.mul_one] at this
  exact this
/-- what a mix wins against a plan of the other side -/
def mixWay (fs : List Fld) (sd : Bool) (m : List (List Int × Int)) (q : List Int) : Int := (m.map fun pw => pw.2 * if sd = true then gainV fs q pw.1 else gainV fs pw.1 q).sum
theorem sum_mul_sum {α : Type} (m : List α) (w : α → Int) (g : α → Nat → Int) (n : Nat) : (m.map fun x => w x * ((List.range n).map (g x)).sum).sum = ((List.range n).map fun i => (m.map fun x => w x * g x i).sum).sum := by
  induction m with
  | nil => simp [sum_zero]
  | cons x m ih =>
    rw [List.map_cons, List.sum_cons, ih]
    have e : (fun i => ((x :: m).map fun x => w x * g x i).sum) = fun i => w x * g x i + (m.map fun x => w x * g x i).sum := by
      funext i
      rw [List.map_cons, List.sum_cons]
    rw [e, sum_add]
    congr 1
    generalize List.range n = l
    induction l with
    | nil => simp
    | cons i l ih2 => rw [List.map_cons, List.sum_cons, List.map_cons, List.sum_cons, Int.mul_add, ih2]
theorem wayV_sum {due : List (List Int)} {q : List Int} : ∀ (j k : Nat), wayV due q k j = ((List.range j).map fun i => t2 due (k + i) ((q[k + i]?).getD 0).toNat).sum
  | 0, k => rfl
  | j + 1, k => by
    rw [wayV, wayV_sum j (k + 1), List.range_succ_eq_map, List.map_cons, List.sum_cons, List.map_map]
    congr 2
    apply List.map_congr_left
    intro i _
    show _ = t2 due (k + (i + 1)) ((q[k + (i + 1)]?).getD 0).toNat
    rw [show k + (i + 1) = k + 1 + i by omega]
/-- the way of a plan through a stream's dues is what the mix wins -/
theorem way_mix {f s : Int} {fs : List Fld} {sd : Bool} {m : List (List Int × Int)} {Ls : List (List Fl)} {q : List Int} (hw : ∀ pw ∈ m, 1 ≤ pw.2) (r : StrOf m fs.length Ls) (hq : PlanC (othS f s sd) fs.length q) :
    wayV (duesV fs sd Ls (othS f s sd + 1).toNat) q 0 fs.length = mixWay fs sd m q := by
  rw [wayV_sum]
  have hle : ∀ k, k < fs.length → 0 ≤ (q[k]?).getD 0 ∧ (q[k]?).getD 0 ≤ othS f s sd := fun k hk => by
    have := plan_le hq (k : Int)
    unfold nAt at this
    rwa [show ((k : Int)).toNat = k from rfl] at this
  have e : ((List.range fs.length).map fun i => t2 (duesV fs sd Ls (othS f s sd + 1).toNat) (0 + i) ((q[0 + i]?).getD 0).toNat) = (List.range fs.length).map fun i : Nat => (m.map fun pw => pw.2 * payS (fldAt fs i) sd ((pw.1[i]?).getD 0) ((q[i]?).getD 0)).sum := by
    apply List.map_congr_left
    intro i hi
    have hi := List.mem_range.mp hi
    have hb := hle i hi
    rw [Nat.zero_add, dues_t2 hi (by omega), Int.toNat_of_nonneg hb.1, due_weigh hw r hi]
  rw [e, ← sum_mul_sum m (fun pw => pw.2) (fun pw i => payS (fldAt fs i) sd ((pw.1[i]?).getD 0) ((q[i]?).getD 0)) fs.length]
  unfold mixWay
  congr 1
  apply List.map_congr_left
  intro pw _
  congr 1
  cases sd <;> rfl
theorem mul_sumL {α : Type} (x : Int) (g : α → Int) : ∀ b : List α, x * (b.map g).sum = (b.map fun y => x * g y).sum
  | [] => by simp
  | y :: b => by rw [List.map_cons, List.sum_cons, List.map_cons, List.sum_cons, Int.mul_add, mul_sumL x g b]
/-- what the one shows is no more than what the other shows -/
theorem duality {f s : Int} {fs : List Fld} {m1 m2 : List (List Int × Int)} {L1 L2 : List (List Fl)} {t1 t2' : List (List Int)} (k : BatOk f s fs) (g1 : MixG f fs.length m1) (g2 : MixG s fs.length m2) (r1 : StrOf m1 fs.length L1) (r2 : StrOf m2 fs.length L2)
    (b1 : FB (badAt (duesV fs false L1 (s + 1).toNat) t1 false) fs.length (s + 1).toNat none) (b2 : FB (badAt (duesV fs true L2 (f + 1).toNat) t2' true) fs.length (f + 1).toNat none) :
    t2 t1 0 s.toNat * wholeF L2 ≤ t2 t2' 0 f.toNat * wholeF L1 := by
  have w1 : ∀ pw ∈ m1, 1 ≤ pw.2 := fun pw hp => (g1.pl pw hp).2
  have w2 : ∀ pw ∈ m2, 1 ≤ pw.2 := fun pw hp => (g2.pl pw hp).2
  rw [whole_weigh w1 r1 k.ne.1, whole_weigh w2 r2 k.ne.1]
  have a1 : ∀ pw ∈ m2, t2 t1 0 s.toNat ≤ mixWay fs false m1 pw.1 := fun pw hp => by
    have := FB.way b1 dues_rect.len (g2.pl pw hp).1 k.hs.1 k.ne.1
    have e := way_mix (f := f) (s := s) (sd := false) w1 r1 (g2.pl pw hp).1
    have e' : wayV (duesV fs false L1 (s + 1).toNat) pw.1 0 fs.length = mixWay fs false m1 pw.1 := e
    rw [e'] at this
    exact this
  have a2 : ∀ pw ∈ m1, mixWay fs true m2 pw.1 ≤ t2 t2' 0 f.toNat := fun pw hp => by
    have := FB.way b2 dues_rect.len (g1.pl pw hp).1 k.hf.1 k.ne.1
    have e := way_mix (f := f) (s := s) (sd := true) w2 r2 (g1.pl pw hp).1
    have e' : wayV (duesV fs true L2 (f + 1).toNat) pw.1 0 fs.length = mixWay fs true m2 pw.1 := e
    rw [e'] at this
    exact this
  have c1 : t2 t1 0 s.toNat * whole m2 ≤ (m2.map fun pw => pw.2 * mixWay fs false m1 pw.1).sum := by
    have : ∀ m : List (List Int × Int), (∀ pw ∈ m, 1 ≤ pw.2 ∧ t2 t1 0 s.toNat ≤ mixWay fs false m1 pw.1) → t2 t1 0 s.toNat * whole m ≤ (m.map fun pw => pw.2 * mixWay fs false m1 pw.1).sum := by
      intro m
      induction m with
      | nil => intro _; simp [whole]
      | cons pw m ih =>
        intro h
        have h1 := h pw List.mem_cons_self
        have h2 := ih fun x hx => h x (List.mem_cons_of_mem _ hx)
        rw [whole_cons, Int.mul_add, List.map_cons, List.sum_cons]
        have := Int.mul_le_mul_of_nonneg_left h1.2 (show 0 ≤ pw.2 by omega)
        rw [Int.mul_comm (t2 t1 0 s.toNat) pw.2]
        omega
    exact this m2 fun pw hp => ⟨w2 pw hp, a1 pw hp⟩
  have c2 : (m1.map fun pw => pw.2 * mixWay fs true m2 pw.1).sum ≤ t2 t2' 0 f.toNat * whole m1 := by
    have : ∀ m : List (List Int × Int), (∀ pw ∈ m, 1 ≤ pw.2 ∧ mixWay fs true m2 pw.1 ≤ t2 t2' 0 f.toNat) → (m.map fun pw => pw.2 * mixWay fs true m2 pw.1).sum ≤ t2 t2' 0 f.toNat * whole m := by
      intro m
      induction m with
      | nil => intro _; simp [whole]
      | cons pw m ih =>
        intro h
        have h1 := h pw List.mem_cons_self
        have h2 := ih fun x hx => h x (List.mem_cons_of_mem _ hx)
        rw [whole_cons, Int.mul_add, List.map_cons, List.sum_cons]
        have := Int.mul_le_mul_of_nonneg_left h1.2 (show 0 ≤ pw.2 by omega)
        rw [Int.mul_comm (t2 t2' 0 f.toNat) pw.2]
        omega
    exact this m1 fun pw hp => ⟨w1 pw hp, a2 pw hp⟩
  have sw : (m2.map fun pw => pw.2 * mixWay fs false m1 pw.1).sum = (m1.map fun pw => pw.2 * mixWay fs true m2 pw.1).sum := by
    have gen : ∀ (a b : List (List Int × Int)), (a.map fun x => x.2 * (b.map fun y => y.2 * gainV fs y.1 x.1).sum).sum = (b.map fun y => y.2 * (a.map fun x => x.2 * gainV fs y.1 x.1).sum).sum := by
      intro a b
      induction a with
      | nil => simp [sum_zero]
      | cons x a ih =>
        rw [List.map_cons, List.sum_cons, ih]
        have e : (fun y : List Int × Int => y.2 * ((x :: a).map fun x => x.2 * gainV fs y.1 x.1).sum) = fun y => x.2 * (y.2 * gainV fs y.1 x.1) + y.2 * (a.map fun x => x.2 * gainV fs y.1 x.1).sum := by
          funext y
          rw [List.map_cons, List.sum_cons, Int.mul_add]
          congr 1
          rw [← Int.mul_assoc, ← Int.mul_assoc, Int.mul_comm y.2 x.2]
        rw [e, sum_add, mul_sumL]
    exact gen m2 m1
  omega
end Hf
/-! ## papers' shapes; fractions held against one another -/
namespace Hf
open PySem PySem.Spec PyProof.Rows L2
theorem shA2 : ∀ {ds : List PyData}, (∀ d ∈ ds, d.showable = true) → PyData.showableAll ds = true
  | [], _ => by simp [PyData.showableAll]
  | d :: ds, h => by rw [PyData.showableAll, h d List.mem_cons_self, shA2 fun e he => h e (List.mem_cons_of_mem _ he)]; rfl
theorem sh_of_wd {x : Int} {b : Nat} (h : Wd b x) (hb : b ≤ 1900) : (PyData.int x).showable = true := by
  rw [PyData.showable]
  refine decide_eq_true ?_
  by_cases c : x.natAbs = 0
  · rw [c]; decide
  · exact Nat.lt_of_lt_of_le ((Nat.log2_lt c).mpr h) (by omega)
theorem lay_pap (Ls : List (List Fl)) (tb : List (List Int)) : (papD Ls tb).canLay0 = true := by
  rw [papD, PyData.canLay0]
  refine lay_all fun d hd => ?_
  simp only [List.mem_cons, List.not_mem_nil, or_false] at hd
  rcases hd with rfl | rfl
  · exact lay_str Ls
  · exact lay_rows tb
theorem dep_pap (Ls : List (List Fl)) (tb : List (List Int)) : dep (papD Ls tb) ≤ 4 := by
  have h1 := dep_str Ls
  have h2 := dep_rows tb
  simp only [papD, dep, depA] at h1 h2 ⊢
  omega
theorem wid_pap {Ls : List (List Fl)} {tb : List (List Int)} {k : Nat} (h1 : wid (strD Ls) ≤ k) (h2 : tb.length ≤ k) (h3 : ∀ r ∈ tb, r.length ≤ k) (h4 : 2 ≤ k) : wid (papD Ls tb) ≤ k := by
  have h5 := wid_rows tb h2 h3
  simp only [papD, wid, widA, List.length_cons, List.length_nil] at h1 h5 ⊢
  omega
theorem show_pap {Ls : List (List Fl)} {tb : List (List Int)} (h1 : ∀ L ∈ Ls, ∀ e ∈ L, Wd 1900 e.1 ∧ Wd 1900 e.2.1 ∧ Wd 1900 e.2.2) (h2 : ∀ r ∈ tb, ∀ x ∈ r, Wd 1900 x) : (papD Ls tb).showable = true := by
  rw [papD, PyData.showable]
  refine shA2 fun d hd => ?_
  simp only [List.mem_cons, List.not_mem_nil, or_false] at hd
  rcases hd with rfl | rfl
  · rw [strD, PyData.showable]
    refine shA2 fun d hd => ?_
    obtain ⟨L, hL, rfl⟩ := List.mem_map.mp hd
    rw [rowD, PyData.showable]
    refine shA2 fun d hd => ?_
    obtain ⟨e, he, rfl⟩ := List.mem_map.mp hd
    obtain ⟨a, b, c⟩ := h1 L hL e he
    rw [flD, PyData.showable]
    refine shA2 fun d hd => ?_
    simp only [List.mem_cons, List.not_mem_nil, or_false] at hd
    rcases hd with rfl | rfl | rfl
    · exact sh_of_wd a (by decide)
    · exact sh_of_wd b (by decide)
    · exact sh_of_wd c (by decide)
  · rw [PyData.showable]
    refine shA2 fun d hd => ?_
    obtain ⟨r, hr, rfl⟩ := List.mem_map.mp hd
    rw [planD, PyData.showable]
    refine shA2 fun d hd => ?_
    obtain ⟨x, hx, rfl⟩ := List.mem_map.mp hd
    exact sh_of_wd (h2 r hr x hx) (by decide)
theorem flowF_le {k : Nat} : ∀ {m : List (List Int × Int)}, (∀ pw ∈ m, 1 ≤ pw.2) → ∀ l s, flowF m k l s ≤ whole m
  | [], _, _, _ => Int.le_refl _
  | pw :: m, h, l, s => by
    have h1 := flowF_le (k := k) (m := m) (fun q hq => h q (List.mem_cons_of_mem _ hq)) l s
    have h2 := h pw List.mem_cons_self
    rw [whole_cons]
    show (if keyAt pw.1 k = (l, s) then pw.2 else 0) + flowF m k l s ≤ pw.2 + whole m
    split <;> omega
theorem wd_small {x : Int} (h0 : 0 ≤ x) {b : Nat} (h : x < 2 ^ b) : Wd b x := by
  unfold Wd
  have : ((2 ^ b : Nat) : Int) = (2 : Int) ^ b := by norm_cast
  omega
/-- a stream of a mix that is not too great -/
structure SideOk2 (h : Int) (n : Nat) (mx : List (List Int × Int)) (Ls : List (List Fl)) : Prop where
  str : StrOf mx n Ls
  mix : MixG h n mx
  len : mx.length ≤ 5
  few : ∀ pw ∈ mx, pw.2 ≤ 100000000000000000000
theorem SideOk2.pos {h : Int} {n : Nat} {mx : List (List Int × Int)} {Ls : List (List Fl)} (k : SideOk2 h n mx Ls) : ∀ pw ∈ mx, 1 ≤ pw.2 := fun pw hp => (k.mix.pl pw hp).2
theorem SideOk2.whole {h : Int} {n : Nat} {mx : List (List Int × Int)} {Ls : List (List Fl)} (k : SideOk2 h n mx Ls) : 1 ≤ whole mx ∧ whole mx ≤ 500000000000000000000 := by
  have key : ∀ m : List (List Int × Int), (∀ pw ∈ m, 1 ≤ pw.2 ∧ pw.2 ≤ 100000000000000000000) → (m.length : Int) ≤ Hf.whole m ∧ Hf.whole m ≤ m.length * 100000000000000000000 := by
    intro m
    induction m with
    | nil => intro _; simp [Hf.whole]
    | cons pw m ih =>
      intro h
      have h1 := h pw List.mem_cons_self
      have h2 := ih fun x hx => h x (List.mem_cons_of_mem _ hx)
      rw [whole_cons, List.length_cons]
      omega
  have := key mx fun pw hp => ⟨k.pos pw hp, k.few pw hp⟩
  have := k.mix.ne
  have := k.len
  omega
theorem SideOk2.flow {h : Int} {n : Nat} {mx : List (List Int × Int)} {Ls : List (List Fl)} (k : SideOk2 h n mx Ls) : ∀ L ∈ Ls, L.length ≤ 5 ∧ ∀ e ∈ L, 0 ≤ e.2.1 ∧ e.2.1 ≤ e.1 ∧ e.1 ≤ h ∧ 1 ≤ e.2.2 ∧ e.2.2 ≤ 500000000000000000000 := by
  intro L hL
  have g := k.str.g k.mix
  refine ⟨by have := k.str.rows k.mix L hL; have := k.len; omega, fun e he => ?_⟩
  have o := (g.pre.rows L hL).ok e he
  obtain ⟨j, hj⟩ := List.mem_iff_getElem?.mp hL
  have m := (k.str.row j L hj).mem e
  have fe := (m.mp he).1
  have le := flowF_le (k := j) k.pos e.1 e.2.1
  have w := k.whole
  exact ⟨o.1, o.2.1, o.2.2.1, o.2.2.2, by omega⟩
theorem SideOk2.wds {h : Int} {n : Nat} {mx : List (List Int × Int)} {Ls : List (List Fl)} (k : SideOk2 h n mx Ls) : ∀ L ∈ Ls, ∀ e ∈ L, Wd 80 e.1 ∧ Wd 80 e.2.1 ∧ Wd 80 e.2.2 := fun L hL e he => by
  have o := (k.flow L hL).2 e he
  have hh := k.mix.ho
  refine ⟨?_, ?_, ?_⟩ <;> (unfold Wd; omega)
theorem SideOk2.s {h : Int} {n : Nat} {mx : List (List Int × Int)} {Ls : List (List Fl)} (k : SideOk2 h n mx Ls) : StrS h n Ls := ⟨k.str.len, fun L hL => by
  have o := k.flow L hL
  refine ⟨by omega, fun e he => ?_⟩
  have := o.2 e he
  exact ⟨by omega, by omega, (k.wds L hL e he).2.2.mono (by decide)⟩⟩
theorem SideOk2.wid {h : Int} {n : Nat} {mx : List (List Int × Int)} {Ls : List (List Fl)} (k : SideOk2 h n mx Ls) : wid (strD Ls) ≤ 20 := by
  have := k.str.len
  have := k.mix.fl
  exact wid_str Ls (by omega) (fun L hL => by have := (k.flow L hL).1; omega) (by decide)
/-- what is won on small fields -/
theorem pay_small {fs : List Fld} {f s : Int} (h : ∀ x ∈ fs, FldSm x) : ∀ fl ∈ fs, ∀ x y : Int, Wd 110 (paidV fl x y) := by
  intro fl hf x y
  have sm : ∀ {z : Int}, Sm z → Wd 110 z := fun {z} hz => by
    unfold Sm at hz
    unfold Wd
    omega
  have k := h fl hf
  cases fl with
  | more w t =>
    show Wd 110 (if x = y then t else if x > y then w else 0 - w)
    split
    · exact sm k.2
    · split
      · exact sm k.1
      · exact (sm k.1).neg
  | lead w t =>
    show Wd 110 (if x ≥ y + t then w else 0 - w)
    split
    · exact sm k.1
    · exact (sm k.1).neg
  | tab rows =>
    show Wd 110 ((((rows[x.toNat]?).getD [])[y.toNat]?).getD 0)
    cases e : rows[x.toNat]? with
    | none => simp [Wd]
    | some r =>
      cases e2 : r[y.toNat]? with
      | none => simp [e2, Wd]
      | some z =>
        simp only [Option.getD_some, e2]
        exact sm (k r (List.mem_of_getElem? e) z (List.mem_of_getElem? e2))
theorem SideOk2.due {h : Int} {mx : List (List Int × Int)} {Ls : List (List Fl)} {fs : List Fld} (k : SideOk2 h fs.length mx Ls) (hs : ∀ x ∈ fs, FldSm x) (sd : Bool) (w : Nat) : ∀ j y, j < fs.length → y < w → Wd 193 (t2 (duesV fs sd Ls w) j y) := by
  intro j y hj hy
  rw [dues_t2 hj hy]
  have hj' : j < Ls.length := by rw [k.str.len]; exact hj
  rw [List.getElem?_eq_getElem hj', Option.getD_some]
  have hL := List.getElem_mem hj'
  have o := k.flow _ hL
  have e : fldAt fs j = fs[j] := by
    unfold fldAt
    rw [show ((j : Int)).toNat = j from rfl, List.getElem?_eq_getElem hj]
    rfl
  have hw := pay_small (f := 0) (s := 0) hs fs[j] (List.getElem_mem hj)
  unfold dueV
  refine wd_sum (a := 190) (k := 3) (fun x hx => ?_) (by rw [List.length_map]; omega)
  obtain ⟨z, hz, rfl⟩ := List.mem_map.mp hx
  have w1 := (k.wds _ hL z hz).2.2
  refine (w1.mul (b := 110) ?_).mono (by decide)
  unfold payS
  rw [e]
  split
  · exact hw _ _
  · exact hw _ _
/-! ### fractions in lowest terms -/
theorem low_ratJ {x y : Int} (h : y ≠ 0) : ltop x y = (Rat.divInt x y).num ∧ lbot x y = ((Rat.divInt x y).den : Int) := by
  have g0 := sgcd_ne (x := x) h
  obtain ⟨p, hp⟩ := sgcd_dvd_left x y
  obtain ⟨q, hq⟩ := sgcd_dvd_right x y
  have ep : ltop x y = p := by
    unfold ltop
    conv => lhs; lhs; rw [hp]
    exact Int.mul_fdiv_cancel_left _ g0
  have eq : lbot x y = q := by
    unfold lbot
    conv => lhs; lhs; rw [hq]
    exact Int.mul_fdiv_cancel_left _ g0
  have q0 : 0 < q := by
    rw [← eq]
    exact lbot_pos h
  have e2 : (sgcd x y).natAbs = Int.gcd x y := by
    unfold sgcd
    split <;> omega
  have hgp := gcd_pos (x := x) h
  generalize sgcd x y = g at hp hq g0 e2
  have hg : Int.gcd p q = 1 := by
    have e1 : Int.gcd x y = g.natAbs * Int.gcd p q := by
      rw [hp, hq]
      exact Int.gcd_mul_left ..
    rw [e2] at e1
    exact Nat.eq_of_mul_eq_mul_left hgp (by rw [← e1, Nat.mul_one])
  have hc : p.natAbs.Coprime q.toNat := by
    have : q.toNat = q.natAbs := by omega
    rw [this]
    exact hg
  have e3 : Rat.divInt x y = Rat.divInt p q := by
    rw [Rat.divInt_eq_divInt_iff h (by omega), hp, hq]
    rw [Int.mul_right_comm, Int.mul_comm (g * q) p, ← Int.mul_assoc]
  have e4 : (⟨p, q.toNat, by omega, hc⟩ : Rat) = Rat.divInt p q := by
    rw [Rat.mk_eq_divInt, Int.toNat_of_nonneg (by omega)]
  rw [ep, eq, e3, ← e4]
  exact ⟨rfl, by show q = ((q.toNat : Nat) : Int); omega⟩
theorem low_parts {x y : Int} (h : 0 < y) : ∃ g : Int, 0 < g ∧ ltop x y * g = x ∧ lbot x y * g = y := by
  have g0 := sgcd_ne (x := x) (y := y) (by omega)
  have gp : 0 < sgcd x y := by
    unfold sgcd at g0 ⊢
    rw [if_neg (by omega)] at g0 ⊢
    omega
  refine ⟨sgcd x y, gp, ?_, ?_⟩
  · obtain ⟨p, hp⟩ := sgcd_dvd_left x y
    have ep : ltop x y = p := by
      unfold ltop
      conv => lhs; lhs; rw [hp]
      exact Int.mul_fdiv_cancel_left _ g0
    rw [ep, Int.mul_comm]
    exact hp.symm
  · obtain ⟨p, hp⟩ := sgcd_dvd_right x y
    have ep : lbot x y = p := by
      unfold lbot
      conv => lhs; lhs; rw [hp]
      exact Int.mul_fdiv_cancel_left _ g0
    rw [ep, Int.mul_comm]
    exact hp.symm
theorem low_cross {x y : Int} (h : 0 < y) : x * lbot x y = ltop x y * y := by
  obtain ⟨g, g0, g1, g2⟩ := low_parts (x := x) h
  generalize ltop x y = a at *
  generalize lbot x y = b at *
  rw [← g1, ← g2]
  grind
theorem low_lt {x y u v : Int} (h : 0 < y) (hv : 0 < v) : (x * lbot u v < ltop u v * y ↔ x * v < u * y) ∧ (ltop u v * y < x * lbot u v ↔ u * y < x * v) := by
  obtain ⟨g, g0, g1, g2⟩ := low_parts (x := u) hv
  generalize ltop u v = a at *
  generalize lbot u v = b at *
  rw [← g1, ← g2]
  have e1 : x * (b * g) = g * (x * b) := by grind
  have e2 : a * g * y = g * (a * y) := by grind
  rw [e1, e2]
  exact ⟨(Int.mul_lt_mul_left g0).symm, (Int.mul_lt_mul_left g0).symm⟩
theorem low_lt2 {x y u v : Int} (h : 0 < y) (hv : 0 < v) : ltop x y * lbot u v > ltop u v * lbot x y ↔ x * v > u * y := by
  obtain ⟨g, g0, g1, g2⟩ := low_parts (x := u) hv
  obtain ⟨k, k0, k1, k2⟩ := low_parts (x := x) h
  generalize ltop u v = a at *
  generalize lbot u v = b at *
  generalize ltop x y = c at *
  generalize lbot x y = d at *
  rw [← g1, ← g2, ← k1, ← k2]
  have e1 : c * k * (b * g) = (g * k) * (c * b) := by grind
  have e2 : a * g * (d * k) = (g * k) * (a * d) := by grind
  rw [e1, e2]
  exact (Int.mul_lt_mul_left (Int.mul_pos g0 k0)).symm
theorem low_eq {x y u v : Int} (h : 0 < y) (hv : 0 < v) : (ltop x y = ltop u v ∧ lbot x y = lbot u v) ↔ x * v = u * y := by
  constructor
  · rintro ⟨e1, e2⟩
    obtain ⟨g, g0, g1, g2⟩ := low_parts (x := u) hv
    obtain ⟨k, k0, k1, k2⟩ := low_parts (x := x) h
    rw [e1] at k1
    rw [e2] at k2
    generalize ltop u v = a at *
    generalize lbot u v = b at *
    rw [← g1, ← g2, ← k1, ← k2]
    grind
  · intro e
    obtain ⟨a, b⟩ := low_ratJ (x := x) (y := y) (by omega)
    obtain ⟨c, d⟩ := low_ratJ (x := u) (y := v) (by omega)
    have : Rat.divInt x y = Rat.divInt u v := (Rat.divInt_eq_divInt_iff (by omega) (by omega)).mpr e
    rw [a, b, c, d, this]
    exact ⟨rfl, rfl⟩
end Hf
/-! ## own lists of own lists of ints; reversed ranges -/
namespace Hf
open PySem PySem.Spec PyProof.Rows L2
structure Own2 (H : Hp) (T : Addr) (qs : List Addr) (tb : List (List Int)) : Prop where
  top : H T = some (.lst (qs.map V.ref))
  len : qs.length = tb.length
  row : ∀ (k : Nat) (q : Addr) (r : List Int), qs[k]? = some q → tb[k]? = some r → H q = some (.lst (r.map V.int))
  nd : qs.Nodup
  off : T ∉ qs
section
variable {H H' : Hp} {T : Addr} {qs : List Addr} {tb : List (List Int)}
theorem Own2.same (h : Own2 H T qs tb) (s : Same H H') : Own2 H' T qs tb := ⟨s _ _ h.top, h.len, fun k q r a b => s _ _ (h.row k q r a b), h.nd, h.off⟩
theorem Own2.dqA (h : Own2 H T qs tb) : DqAll H (qs.map V.ref) (tb.map planD) := by
  have key : ∀ (qs : List Addr) (tb : List (List Int)), qs.length = tb.length → (∀ (k : Nat) (q : Addr) (r : List Int), qs[k]? = some q → tb[k]? = some r → H q = some (.lst (r.map V.int))) → DqAll H (qs.map V.ref) (tb.map planD) := by
    intro qs
    induction qs with
    | nil =>
      intro tb h1 _
      cases tb with
      | nil => exact .nil
      | cons r tb => simp at h1
    | cons q qs ih =>
      intro tb h1 h2
      cases tb with
      | nil => simp at h1
      | cons r tb =>
        rw [List.map_cons, List.map_cons]
        refine .cons (row_mk (h2 0 q r rfl rfl)) (ih tb (by simpa using h1) fun k q' r' a b => h2 (k + 1) q' r' (by simpa using a) (by simpa using b))
  exact key qs tb h.len h.row
theorem Own2.dq (h : Own2 H T qs tb) : Dq H (.ref T) (tabD tb) := .lst h.top h.dqA
theorem Own2.lst (h : Own2 H T qs tb) : ∀ q ∈ qs, ∃ o, H q = some o := fun q hq => by
  obtain ⟨k, hk⟩ := List.mem_iff_getElem?.mp hq
  have hk' : k < tb.length := by rw [← h.len]; exact (List.getElem?_eq_some_iff.mp hk).1
  exact ⟨_, h.row k q _ hk (List.getElem?_eq_getElem hk')⟩
theorem Own2.set (h : Own2 H T qs tb) {k : Nat} {q : Addr} (e : qs[k]? = some q) (r' : List Int) : Own2 (upd H q (.lst (r'.map V.int))) T qs (tb.set k r') := by
  have hq : q ∈ qs := List.mem_of_getElem? e
  have hk : k < tb.length := by rw [← h.len]; exact (List.getElem?_eq_some_iff.mp e).1
  have hT : T ≠ q := fun z => h.off (by rw [z]; exact hq)
  refine ⟨by rw [upd_ne hT]; exact h.top, by rw [List.length_set]; exact h.len, fun j p r a b => ?_, h.nd, h.off⟩
  by_cases c : j = k
  · subst c
    rw [e] at a
    cases a
    rw [List.getElem?_set_self hk] at b
    cases b
    exact upd_same
  · rw [List.getElem?_set_ne (Ne.symm c)] at b
    have hp : p ≠ q := fun z => by
      subst z
      exact c (nodup_at h.nd a e)
    rw [upd_ne hp]
    exact h.row j p r a b
/-- what else changes -/
theorem Own2.but {p : Addr} (h : Own2 H T qs tb) (s : But p H H') (n : T ≠ p) (m : p ∉ qs) : Own2 H' T qs tb := ⟨s _ _ n h.top, h.len, fun k q r a b => s _ _ (fun z => m (by rw [← z]; exact List.mem_of_getElem? a)) (h.row k q r a b), h.nd, h.off⟩
end
section
variable {σ : L2.St} {H H1 : Hp} {Q : VK} {K : PySem.W.Frag} {D l : Addr} {g : TG} {tt : TT} {te : TE} {vs : List Nat} {xs : List V} {Qd : Hp → Prop} {lo : Int} {n : Nat}
theorem two_snoc {H H4 : Hp} {qs : List Addr} {q : Addr} {f : Nat → List Int} {i : Nat} {D : Addr} (hl : qs.length = i) (k : ∀ (k : Nat) (q : Addr), qs[k]? = some q → H q = some (.lst ((f k).map V.int))) (nd : qs.Nodup) (off : D ∉ qs) (nq : H q = none)
    (hD : H D = some (.lst (qs.map V.ref))) (hq : H4 q = some (.lst ((f i).map V.int))) (s : Same H H4) :
    (∀ (k : Nat) (p : Addr), (qs ++ [q])[k]? = some p → (upd H4 D (.lst (qs.map V.ref ++ [V.ref q]))) p = some (.lst ((f k).map V.int))) ∧ (qs ++ [q]).Nodup ∧ D ∉ qs ++ [q] := by
  have qD : q ≠ D := ne_new' nq hD
  have qn : q ∉ qs := fun z => by
    obtain ⟨j, hj⟩ := List.mem_iff_getElem?.mp z
    rw [k j q hj] at nq
    cases nq
  refine ⟨fun j p e => ?_, ?_, ?_⟩
  · by_cases c : j < qs.length
    · rw [List.getElem?_append_left c] at e
      have pD : p ≠ D := fun z => off (by rw [← z]; exact List.mem_of_getElem? e)
      rw [upd_ne pD]
      exact s _ _ (k j p e)
    · rw [List.getElem?_append_right (by omega)] at e
      have : j - qs.length = 0 := by
        have := (List.getElem?_eq_some_iff.mp e).1
        simp at this
        omega
      rw [this] at e
      cases e
      rw [show j = i by omega, upd_ne qD]
      exact hq
  · rw [List.nodup_append]
    exact ⟨nd, by simp, fun a ha b hb e => by rw [List.mem_singleton.mp hb] at e; exact qn (by rw [← e]; exact ha)⟩
  · intro z
    rcases List.mem_append.mp z with z | z
    · exact off z
    · exact qD (List.mem_singleton.mp z).symm
theorem own2_of {H : Hp} {qs : List Addr} {f : Nat → List Int} {n : Nat} {D : Addr} (hD : H D = some (.lst (qs.map V.ref))) (hl : qs.length = n) (k : ∀ (k : Nat) (q : Addr), qs[k]? = some q → H q = some (.lst ((f k).map V.int))) (nd : qs.Nodup) (off : D ∉ qs) : Own2 H D qs ((List.range n).map f) := by
  refine ⟨hD, by rw [List.length_map, List.length_range]; exact hl, fun j q r a b => ?_, nd, off⟩
  have hj : j < n := by rw [← hl]; exact (List.getElem?_eq_some_iff.mp a).1
  rw [List.getElem?_map, List.getElem?_range hj] at b
  cases b
  exact k j q a
theorem lcL_2d (f : Nat → List Int) (nD : H1 D = none) (hn : xs.length ≤ 1000000) (hx : SqL K H1 l xs)
    (hs : ∀ (i : Nat) (x : V) H (Z : VK) (Y : Hp → Prop), xs[i]? = some x → Same H1 H → (∀ q H4, H4 q = some (.lst ((f i).map V.int)) → H q = none → Same H H4 → Z (.ref q) H4) → LcTurn g tt te vs σ x H Z Y)
    (hd : ∀ qs H, Own2 H D qs ((List.range xs.length).map f) → (∀ q ∈ qs, H1 q = none) → Same H1 H → Qd H) :
    ∃ W : Nat → Nat → Hp → Prop, (∃ m, W 0 m (upd H1 D (.lst []))) ∧ ∀ i m H, W i m H →
      ((Itl K l).stop i H ∧ Qd H) ∨ ((Itl K l).go i H ∧ ∃ Nx : Hp → Prop, (∀ H', Nx H' → ∃ m', m' < m ∧ W (i + 1) m' H') ∧ ∀ x H', (Itl K l).yld i H x H' → g x (wipe σ vs) H' fun σ2 H2 => wipe σ2 vs = wipe σ vs ∧ tt σ2 H2 fun b H3 =>
        if b = true then te σ2 H3 fun y H4 => ∃ acc, H4 D = some (.lst acc) ∧ acc.length < sizeLine ∧ Nx (upd H4 D (.lst (acc ++ [y]))) else Nx H3) := by
  refine lcL (xs := xs) (fun i acc H => ∃ qs : List Addr, acc = qs.map V.ref ∧ qs.length = i ∧ (∀ (k : Nat) (q : Addr), qs[k]? = some q → H q = some (.lst ((f k).map V.int))) ∧ qs.Nodup ∧ D ∉ qs ∧ (∀ q ∈ qs, H1 q = none) ∧ Same H1 H) nD ⟨[], rfl, rfl, by simp, List.nodup_nil, by simp, nofun, Same.new nD⟩ (fun i acc H _ q _ => by obtain ⟨_, _, _, _, _, _, _, s⟩ := q; exact s.seq hx) ?_ ?_
  · rintro i x acc H Z Y hi ⟨qs, rfl, h1, h2, h3, h4, h5, h6⟩ hD hz _
    have hi' : i < xs.length := (List.getElem?_eq_some_iff.mp hi).1
    refine hs i x H Z Y hi h6 fun q H4 k1 k2 k3 => ?_
    obtain ⟨t1, t2, t3⟩ := two_snoc h1 h2 h3 h4 k2 hD k1 k3
    refine hz _ _ (k3 _ _ hD) (sz4' (by rw [List.length_map]; omega)) ⟨qs ++ [q], by rw [List.map_append]; rfl, by rw [List.length_append, h1]; rfl, t1, t2, t3, fun p hp => ?_, Same.mut (h6.trans k3) nD⟩
    rcases List.mem_append.mp hp with z | z
    · exact h5 p z
    · rw [List.mem_singleton.mp z]; exact h6.free k2
  · rintro acc H ⟨qs, rfl, h1, h2, h3, h4, h5, h6⟩ hD
    exact hd qs H (own2_of hD h1 h2 h3 h4) h5 h6
theorem lcR_2d (f : Nat → List Int) (nD : H1 D = none) (hn : n ≤ 1000000)
    (hs : ∀ (i : Nat) H (Z : VK) (Y : Hp → Prop), i < n → Same H1 H → (∀ q H4, H4 q = some (.lst ((f i).map V.int)) → H q = none → Same H H4 → Z (.ref q) H4) → LcTurn g tt te vs σ (.int (lo + i)) H Z Y)
    (hd : ∀ qs H, Own2 H D qs ((List.range n).map f) → (∀ q ∈ qs, H1 q = none) → Same H1 H → Qd H) :
    ∃ W : Nat → Nat → Hp → Prop, (∃ m, W 0 m (upd H1 D (.lst []))) ∧ ∀ i m H, W i m H →
      ((Itr lo n).stop i H ∧ Qd H) ∨ ((Itr lo n).go i H ∧ ∃ Nx : Hp → Prop, (∀ H', Nx H' → ∃ m', m' < m ∧ W (i + 1) m' H') ∧ ∀ x H', (Itr lo n).yld i H x H' → g x (wipe σ vs) H' fun σ2 H2 => wipe σ2 vs = wipe σ vs ∧ tt σ2 H2 fun b H3 =>
        if b = true then te σ2 H3 fun y H4 => ∃ acc, H4 D = some (.lst acc) ∧ acc.length < sizeLine ∧ Nx (upd H4 D (.lst (acc ++ [y]))) else Nx H3) := by
  refine lcR (fun i acc H => ∃ qs : List Addr, acc = qs.map V.ref ∧ qs.length = i ∧ (∀ (k : Nat) (q : Addr), qs[k]? = some q → H q = some (.lst ((f k).map V.int))) ∧ qs.Nodup ∧ D ∉ qs ∧ (∀ q ∈ qs, H1 q = none) ∧ Same H1 H) nD ⟨[], rfl, rfl, by simp, List.nodup_nil, by simp, nofun, Same.new nD⟩ ?_ ?_
  · rintro i acc H Z Y hi ⟨qs, rfl, h1, h2, h3, h4, h5, h6⟩ hD hz _
    refine hs i H Z Y hi h6 fun q H4 k1 k2 k3 => ?_
    obtain ⟨t1, t2, t3⟩ := two_snoc h1 h2 h3 h4 k2 hD k1 k3
    refine hz _ _ (k3 _ _ hD) (sz4' (by rw [List.length_map]; omega)) ⟨qs ++ [q], by rw [List.map_append]; rfl, by rw [List.length_append, h1]; rfl, t1, t2, t3, fun p hp => ?_, Same.mut (h6.trans k3) nD⟩
    rcases List.mem_append.mp hp with z | z
    · exact h5 p z
    · rw [List.mem_singleton.mp z]; exact h6.free k2
  · rintro acc H ⟨qs, rfl, h1, h2, h3, h4, h5, h6⟩ hD
    exact hd qs H (own2_of hD h1 h2 h3 h4) h5 h6
end
/-! ### for over a reversed range -/
section
variable {σ : L2.St} {H : Hp} {Q : VK} {nx bk ct : L2.St → Hp → Prop} {rt : VK} {g : TG} {tb : TS} {lo c : Int} {n : Nat}
theorem forC (Pv : Nat → L2.St → Hp → Prop) (h0 : Pv 0 σ H) (hd : ∀ σ H, Pv n σ H → nx σ H)
    (hs : ∀ (i : Nat) σ H, i < n → Pv i σ H → g (.int (lo + (i : Nat) * c)) σ H fun σ2 H2 => tb ⟨Pv (i + 1), rt, nx, Pv (i + 1)⟩ σ2 H2) :
    ∃ W : Nat → Nat → L2.St → Hp → Prop, (∃ m, W 0 m σ H) ∧ ∀ i m σ H, W i m σ H →
      ((Itc lo c n).stop i H ∧ nx σ H) ∨ ((Itc lo c n).go i H ∧ ∃ N : L2.St → Hp → Prop, (∀ σ' H', N σ' H' → ∃ m', m' < m ∧ W (i + 1) m' σ' H') ∧ ∀ x H', (Itc lo c n).yld i H x H' → g x σ H' fun σ2 H2 => tb ⟨N, rt, nx, N⟩ σ2 H2) :=
  for_rangeC (D := ⟨nx, rt, fun _ _ => False, fun _ _ => False⟩) Pv h0 hs hd
theorem i_revRg {tr : L2.St → Hp → (Int → Int → Hp → Prop) → Prop} {R : It → Hp → Prop} (h : tr σ H fun a b H1 => -(2 ^ 62) ≤ a ∧ a < 2 ^ 62 ∧ -(2 ^ 62) ≤ b ∧ b < 2 ^ 62 ∧ R (Itc (a + (((b - a).toNat : Nat) : Int) - 1) (-1) (b - a).toNat) H1) : iRevR tr σ H R := h
theorem i_revRg' {i j : Int} {A : Prop} (h0 : -(2 ^ 62) ≤ i) (h1 : i < 2 ^ 62) (h2 : -(2 ^ 62) ≤ j) (h3 : j < 2 ^ 62) (q : A) : -(2 ^ 62) ≤ i ∧ i < 2 ^ 62 ∧ -(2 ^ 62) ≤ j ∧ j < 2 ^ 62 ∧ A := ⟨h0, h1, h2, h3, q⟩
end
theorem Own2.hid {H : Hp} {T : Addr} {qs : List Addr} {tb : List (List Int)} {X : List Addr} (h : Own2 H T qs tb) (n : T ∉ X) (m : ∀ q ∈ qs, q ∉ X) : Own2 (hid X H) T qs tb := ⟨hid_lk n h.top, h.len, fun k q r a b => hid_lk (m q (List.mem_of_getElem? a)) (h.row k q r a b), h.nd, h.off⟩
theorem hid_ext {H H1 : Hp} {S X : List Addr} (s : Same H H1) (h : ∀ b ∈ X, b ∈ S ∨ H b = none) : Same (hid S H) (hid X H1) := fun b o e => by
  by_cases c : b ∈ S
  · rw [hid_in c] at e
    cases e
  · rw [hid_out c] at e
    have n : b ∉ X := fun z => by
      rcases h b z with z | z
      · exact c z
      · rw [z] at e; cases e
    exact hid_lk n (s b o e)
theorem Pk.ne' {a r : Addr} {m c0 : Int} {H : Hp} (h : Hf.Pk a m H c0) (n : H r = none) : r ≠ a := Hf.Pk.ne n h
theorem hid_new {H : Hp} {X : List Addr} {p : Addr} {o : HO} (n : H p = none) : Same (hid X H) (hid X (L2.upd H p o)) := hid_mono (Same.new n)
theorem hid_mut {S : List Addr} {G H : Hp} {q : Addr} {o : HO} (s : Same G (hid S H)) (n : G q = none) : Same G (hid S (L2.upd H q o)) := fun b u e => by
  have h := s b u e
  have bq : b ≠ q := ne_of_none e n
  by_cases c : b ∈ S
  · rw [hid_in c] at h
    cases h
  · rw [hid_out c] at h
    exact hid_lk c (lk_upd bq h)
end Hf
/-! ## all plans, in their order; the plan by which a best table's first number comes -/
namespace Hf
open PySem PySem.Spec PyProof.Rows L2
/-- all plans of h hosts on m + 1 fields -/
def allP : Nat → Nat → List (List Int)
  | h, 0 => [[(h : Int)]]
  | h, m + 1 => (List.range (h + 1)).flatMap fun s => (allP (h - s) m).map fun r => (s : Int) :: r
theorem allP_mem : ∀ {m h : Nat} {q : List Int}, q ∈ allP h m ↔ PlanC (h : Int) (m + 1) q
  | 0, h, q => by
    rw [allP, List.mem_singleton]
    constructor
    · rintro rfl
      exact ⟨rfl, by simp, fun x hx => by rw [List.mem_singleton.mp hx]; omega⟩
    · rintro ⟨h1, h2, h3⟩
      match q, h1 with
      | [x], _ =>
        simp at h2
        rw [h2]
  | m + 1, h, q => by
    rw [allP, List.mem_flatMap]
    constructor
    · rintro ⟨s, hs, hq⟩
      obtain ⟨r, hr, rfl⟩ := List.mem_map.mp hq
      have hs := List.mem_range.mp hs
      obtain ⟨h1, h2, h3⟩ := (allP_mem (m := m)).mp hr
      refine ⟨by rw [List.length_cons, h1], by rw [List.sum_cons, h2]; omega, fun x hx => ?_⟩
      rcases List.mem_cons.mp hx with e | e
      · rw [e]; omega
      · exact h3 x e
    · rintro ⟨h1, h2, h3⟩
      match q, h1 with
      | x :: r, h1 =>
        have x0 := h3 x List.mem_cons_self
        have r0 := sum_nn1 fun y hy => h3 y (List.mem_cons_of_mem _ hy)
        rw [List.sum_cons] at h2
        refine ⟨x.toNat, List.mem_range.mpr (by omega), List.mem_map.mpr ⟨r, (allP_mem (m := m)).mpr ⟨by simpa using h1, by omega, fun y hy => h3 y (List.mem_cons_of_mem _ hy)⟩, ?_⟩⟩
        rw [Int.toNat_of_nonneg x0]
theorem flat_le {α : Type} {f : Nat → List α} {k : Nat} : ∀ n : Nat, (∀ i, i < n → (f i).length ≤ k) → ((List.range n).flatMap f).length ≤ n * k
  | 0, _ => by simp
  | n + 1, h => by
    rw [List.range_succ, List.flatMap_append, List.length_append, Nat.succ_mul]
    have := flat_le n fun i hi => h i (by omega)
    have := h n (by omega)
    simp only [List.flatMap_cons, List.flatMap_nil, List.append_nil]
    omega
theorem allP_len : ∀ {m h k : Nat}, h ≤ k → (allP h m).length ≤ (k + 1) ^ m
  | 0, _, _, _ => by simp [allP]
  | m + 1, h, k, hk => by
    rw [allP]
    have := flat_le (f := fun s => (allP (h - s) m).map fun r => (s : Int) :: r) (k := (k + 1) ^ m) (h + 1) fun i hi => by
      rw [List.length_map]
      exact allP_len (by omega)
    refine Nat.le_trans this ?_
    rw [Nat.pow_succ, Nat.mul_comm ((k + 1) ^ m)]
    exact Nat.mul_le_mul_right _ (by omega)
theorem allP_ne {m h : Nat} : 1 ≤ (allP h m).length := by
  have : (List.replicate m (0 : Int) ++ [(h : Int)]) ∈ allP h m := allP_mem.mpr ⟨by simp, by simp, fun x hx => by
    rcases List.mem_append.mp hx with e | e
    · rw [List.eq_of_mem_replicate e]; omega
    · rw [List.mem_singleton.mp e]; omega⟩
  exact List.length_pos_of_mem this
/-! ### a plan by which the first number comes -/
theorem BestT.attain {due tb : List (List Int)} {sd : Bool} {n : Nat} {h : Int} (bt : BestT due tb sd n (h + 1).toNat) (hd : due.length = n) (h0 : 0 ≤ h) (hn : 1 ≤ n) : ∃ q, PlanC h n q ∧ wayV due q 0 n = t2 tb 0 h.toNat := by
  have key : ∀ j k l, k + j + 1 = n → l ≤ h.toNat → ∃ q : List Int, q.length = j + 1 ∧ q.sum = (l : Int) ∧ (∀ x ∈ q, 0 ≤ x) ∧ ∀ p : List Int, p.length = k → wayV due (p ++ q) k (j + 1) = t2 tb k l := by
    intro j
    induction j with
    | zero =>
      intro k l hk hl
      have b := (bt.best k l (by omega) (by omega)).1
      rw [goV_mem] at b
      rcases b with ⟨_, e⟩ | ⟨c, _⟩
      · refine ⟨[(l : Int)], rfl, by simp, fun x hx => by rw [List.mem_singleton.mp hx]; omega, fun p hp => ?_⟩
        rw [wayV, wayV, List.getElem?_append_right (by omega), hp, Nat.sub_self, e]
        simp
      · omega
    | succ j ih =>
      intro k l hk hl
      have b := (bt.best k l (by omega) (by omega)).1
      rw [goV_mem] at b
      rcases b with ⟨c, _⟩ | ⟨_, s, hs, e⟩
      · omega
      · obtain ⟨q, q1, q2, q3, q4⟩ := ih (k + 1) (l - s) (by omega) (by omega)
        refine ⟨(s : Int) :: q, by rw [List.length_cons, q1], by rw [List.sum_cons, q2]; omega, fun x hx => ?_, fun p hp => ?_⟩
        · rcases List.mem_cons.mp hx with e | e
          · rw [e]; omega
          · exact q3 x e
        · rw [wayV, List.getElem?_append_right (by omega), hp, Nat.sub_self, e]
          have := q4 (p ++ [(s : Int)]) (by rw [List.length_append, hp]; rfl)
          rw [List.append_assoc] at this
          rw [show p ++ (s : Int) :: q = p ++ ([(s : Int)] ++ q) from rfl, this]
          simp
  obtain ⟨q, q1, q2, q3, q4⟩ := key (n - 1) 0 h.toNat (by omega) (Nat.le_refl _)
  refine ⟨q, ⟨by omega, by rw [q2]; omega, q3⟩, ?_⟩
  have := q4 [] rfl
  rw [List.nil_append, show n - 1 + 1 = n by omega] at this
  exact this
end Hf
/-! ## comprehensions over lists that draw -/
namespace Hf
open PySem PySem.Spec PyProof.Rows L2
section
variable {σ : L2.St} {H H1 : Hp} {Q : VK} {K : PySem.W.Frag} {D a l : Addr} {g : TG} {tt : TT} {te : TE} {vs : List Nat} {xs : List V} {Qd : Hp → Prop}
theorem lcL_pk {m c0 : Int} (Pz : Int → Prop) (inc : Int) (hp : Pk a m H1 c0) (nD : H1 D = none) (hn : xs.length ≤ 1000000) (hx : SqL K H1 l xs) (la : l ≠ a)
    (hs : ∀ (i : Nat) (x : V) H (Z : VK) (Y : Hp → Prop), xs[i]? = some x → Pk a m H (c0 + inc * (i : Int)) → But a H1 H → (∀ z H4, Pz z → Pk a m H4 (c0 + inc * (i : Int) + inc) → But a H H4 → Z (.int z) H4) → LcTurn g tt te vs σ x H Z Y)
    (hd : ∀ (ms : List Int) H, ms.length = xs.length → (∀ z ∈ ms, Pz z) → H D = some (.lst (ms.map V.int)) → Pk a m H (c0 + inc * (xs.length : Int)) → But a H1 H → Qd H) :
    ∃ W : Nat → Nat → Hp → Prop, (∃ m, W 0 m (upd H1 D (.lst []))) ∧ ∀ i m H, W i m H →
      ((Itl K l).stop i H ∧ Qd H) ∨ ((Itl K l).go i H ∧ ∃ Nx : Hp → Prop, (∀ H', Nx H' → ∃ m', m' < m ∧ W (i + 1) m' H') ∧ ∀ x H', (Itl K l).yld i H x H' → g x (wipe σ vs) H' fun σ2 H2 => wipe σ2 vs = wipe σ vs ∧ tt σ2 H2 fun b H3 =>
        if b = true then te σ2 H3 fun y H4 => ∃ acc, H4 D = some (.lst acc) ∧ acc.length < sizeLine ∧ Nx (upd H4 D (.lst (acc ++ [y]))) else Nx H3) := by
  have hDa : D ≠ a := hp.ne nD
  refine lcL (xs := xs) (fun i acc H => ∃ ms : List Int, acc = ms.map V.int ∧ ms.length = i ∧ (∀ z ∈ ms, Pz z) ∧ Pk a m H (c0 + inc * (i : Int)) ∧ But a H1 H) nD ⟨[], rfl, rfl, nofun, (hp.new nD).cast (by simp), But.newT nD (But.refl _ _)⟩ (fun i acc H _ q _ => by obtain ⟨_, _, _, _, _, b⟩ := q; exact But.seq b la hx) ?_ ?_
  · rintro i x acc H Z Y hi ⟨ms, rfl, h1, h2, h3, h4⟩ hD hz _
    have hi' : i < xs.length := (List.getElem?_eq_some_iff.mp hi).1
    refine hs i x H Z Y hi h3 h4 fun z H4 k1 k2 k3 => hz _ _ (k3 _ _ hDa hD) (sz4' (by rw [List.length_map]; omega)) ⟨ms ++ [z], by rw [List.map_append]; rfl, by rw [List.length_append, h1]; rfl, ?_, (k2.upd hDa).cast inc_snoc, ?_⟩
    · intro x hx
      rcases List.mem_append.mp hx with e | e
      · exact h2 x e
      · rw [List.mem_singleton.mp e]; exact k1
    · intro b o hb e
      have := k3 _ _ hb (h4 _ _ hb e)
      rw [upd_ne (ne_of_none e nD)]
      exact this
  · rintro acc H ⟨ms, rfl, h1, h2, h3, h4⟩ hD
    exact hd ms H h1 h2 hD h3 h4
theorem lcL_dk {α : Type} {m c0 : Int} (F : α → PyData) (Pz : α → Prop) (inc : Int) (hp : Pk a m H1 c0) (nD : H1 D = none) (hn : xs.length ≤ 1000000) (hx : SqL K H1 l xs) (la : l ≠ a)
    (hs : ∀ (i : Nat) (x : V) H (Z : VK) (Y : Hp → Prop), xs[i]? = some x → Pk a m H (c0 + inc * (i : Int)) → But a H1 H → (∀ x v G H4, Pz x → Dq G v (F x) → Newly H G → Same G H4 → Pk a m H4 (c0 + inc * (i : Int) + inc) → But a H H4 → Z v H4) → LcTurn g tt te vs σ x H Z Y)
    (hd : ∀ (ys : List α) G H, ys.length = xs.length → (∀ x ∈ ys, Pz x) → Dq G (.ref D) (.list (ys.map F)) → Newly H1 G → Same G H → Pk a m H (c0 + inc * (xs.length : Int)) → But a H1 H → Qd H) :
    ∃ W : Nat → Nat → Hp → Prop, (∃ m, W 0 m (upd H1 D (.lst []))) ∧ ∀ i m H, W i m H →
      ((Itl K l).stop i H ∧ Qd H) ∨ ((Itl K l).go i H ∧ ∃ Nx : Hp → Prop, (∀ H', Nx H' → ∃ m', m' < m ∧ W (i + 1) m' H') ∧ ∀ x H', (Itl K l).yld i H x H' → g x (wipe σ vs) H' fun σ2 H2 => wipe σ2 vs = wipe σ vs ∧ tt σ2 H2 fun b H3 =>
        if b = true then te σ2 H3 fun y H4 => ∃ acc, H4 D = some (.lst acc) ∧ acc.length < sizeLine ∧ Nx (upd H4 D (.lst (acc ++ [y]))) else Nx H3) := by
  have hDa : D ≠ a := hp.ne nD
  refine lcL (xs := xs) (fun i acc H => ∃ ys : List α, DqAll (fr [D] H1 H) acc (ys.map F) ∧ ys.length = i ∧ (∀ x ∈ ys, Pz x) ∧ Pk a m H (c0 + inc * (i : Int)) ∧ But a H1 H) nD ⟨[], .nil, rfl, nofun, (hp.new nD).cast (by simp), But.newT nD (But.refl _ _)⟩ (fun i acc H _ q _ => by obtain ⟨_, _, _, _, _, b⟩ := q; exact But.seq b la hx) ?_ ?_
  · rintro i x acc H Z Y hi ⟨ys, h0, h1, h2, h3, h4⟩ hD hz _
    have hi' : i < xs.length := (List.getElem?_eq_some_iff.mp hi).1
    refine hs i x H Z Y hi h3 h4 fun x v G H4 k1 k2 k3 k4 k5 k6 => ?_
    have gD : G D = none := k3.free hD
    refine hz _ _ (k6 _ _ hDa hD) (sz4' (by rw [h0.len, List.length_map]; omega)) ⟨ys ++ [x], ?_, by rw [List.length_append, h1]; rfl, ?_, (k5.upd hDa).cast inc_snoc, ?_⟩
    · rw [List.map_append]
      exact DqAll.snoc ((h0.same (fr_butP hp k6)).same (fr_upd (by simp))) (k2.same (Newly.same1 (k3.backP h4 h3) (Same.mut k4 gD) gD))
    · intro y hy
      rcases List.mem_append.mp hy with e | e
      · exact h2 y e
      · rw [List.mem_singleton.mp e]; exact k1
    · intro b o hb e
      have := k6 _ _ hb (h4 _ _ hb e)
      rw [upd_ne (ne_of_none e nD)]
      exact this
  · rintro acc H ⟨ys, h0, h1, h2, h3, h4⟩ hD
    exact hd ys (fr [] H1 H) H h1 h2 (.lst (fr_lk0 nD hD) (h0.same fr_sub)) fr_newly fr_same h3 h4
end
end Hf
namespace K32
open PySem PySem.Spec PyProof.Rows L2 Hf
local macro_rules | `(tactic| walk_at "g_ne") => `(tactic| first | (with_reducible assumption) | (apply Hf.ne_at; (with_reducible assumption)) | ((with_reducible refine' Hf.ne_new ?n9 ?h9); (case n9 => (with_reducible assumption)); (case h9 => walk_at "g_lk")) | ((with_reducible refine' Hf.ne_new' ?n9 ?h9); (case n9 => (with_reducible assumption)); (case h9 => walk_at "g_lk")) | fail "g_ne")
local macro_rules | `(tactic| walk_at "g_lk") => `(tactic| first | (with_reducible assumption) | (with_reducible exact L2.upd_same) | ((with_reducible refine' Hf.lk_new ?n9 ?h9); (case n9 => (with_reducible assumption)); (case h9 => walk_at "g_lk")) | ((with_reducible refine' Hf.lk_updG ?g9 ?n9 ?h9); (case g9 => ((fail_if_success ((apply Hf.Guard.of); (with_reducible assumption))); exact trivial)); (case n9 => walk_at "g_ne"); (case h9 => walk_at "g_lk")) | ((with_reducible refine' Hf.lk_same ?n9 ?h9); (case n9 => (with_reducible assumption)); (case h9 => walk_at "g_lk")) | ((with_reducible refine' Hf.lk_but ?m9 ?n9 ?h9); (case m9 => (with_reducible assumption)); (case n9 => walk_at "g_ne"); (case h9 => walk_at "g_lk")) | ((with_reducible refine' Hf.lk_but2 ?m9 ?n9 ?n8 ?h9); (case m9 => (with_reducible assumption)); (case n9 => walk_at "g_ne"); (case n8 => walk_at "g_ne"); (case h9 => walk_at "g_lk")) | fail "g_lk")
local macro_rules | `(tactic| walk_at "g_sq") => `(tactic| first | (with_reducible assumption) | (with_reducible exact L2.SqL.of L2.upd_same) | (with_reducible exact L2.SqT.of L2.upd_same) | (with_reducible exact L2.SqL.of (by with_reducible assumption)) | (with_reducible exact L2.SqT.of (by with_reducible assumption)) | ((with_reducible refine' Hf.lkL_new ?n9 ?h9); (case n9 => (with_reducible assumption)); (case h9 => walk_at "g_sq")) | ((with_reducible refine' Hf.lkT_new ?n9 ?h9); (case n9 => (with_reducible assumption)); (case h9 => walk_at "g_sq")) | ((with_reducible refine' Hf.lkL_updG ?g9 ?n9 ?h9); (case g9 => ((fail_if_success ((apply Hf.Guard.of); (with_reducible assumption))); exact trivial)); (case n9 => walk_at "g_ne"); (case h9 => walk_at "g_sq")) | ((with_reducible refine' Hf.lkT_updG ?g9 ?n9 ?h9); (case g9 => ((fail_if_success ((apply Hf.Guard.of); (with_reducible assumption))); exact trivial)); (case n9 => walk_at "g_ne"); (case h9 => walk_at "g_sq")) | ((with_reducible refine' L2.Same.seq ?n9 ?h9); (case n9 => (with_reducible assumption)); (case h9 => walk_at "g_sq")) | ((with_reducible refine' Hf.Same.seqT ?n9 ?h9); (case n9 => (with_reducible assumption)); (case h9 => walk_at "g_sq")) | ((with_reducible refine' Hf.But.seq ?m9 ?n9 ?h9); (case m9 => (with_reducible assumption)); (case n9 => walk_at "g_ne"); (case h9 => walk_at "g_sq")) | ((with_reducible refine' Hf.But.seqT ?m9 ?n9 ?h9); (case m9 => (with_reducible assumption)); (case n9 => walk_at "g_ne"); (case h9 => walk_at "g_sq")) | ((with_reducible refine' Hf.But2.seq ?m9 ?n9 ?n8 ?h9); (case m9 => (with_reducible assumption)); (case n9 => walk_at "g_ne"); (case n8 => walk_at "g_ne"); (case h9 => walk_at "g_sq")) | ((with_reducible refine' Hf.But2.seqT ?m9 ?n9 ?n8 ?h9); (case m9 => (with_reducible assumption)); (case n9 => walk_at "g_ne"); (case n8 => walk_at "g_ne"); (case h9 => walk_at "g_sq")) | fail "g_sq")
local macro_rules | `(tactic| walk_at "g_but") => `(tactic| first | (with_reducible exact Hf.But.refl _ _) | (with_reducible assumption) | (with_reducible refine Hf.But.newT (by with_reducible assumption) ?_; walk_at "g_but") | (with_reducible refine Hf.But.upd ?_; walk_at "g_but") | (with_reducible refine Hf.But.transT (by with_reducible assumption) ?_; walk_at "g_but") | (with_reducible refine Hf.But.transS (by with_reducible assumption) ?_; walk_at "g_but") | fail "g_but")
local macro_rules | `(tactic| walk_at "g_but2") => `(tactic| first | (with_reducible exact Hf.But2.refl _ _ _) | (with_reducible assumption) | (with_reducible refine Hf.But2.newT (by with_reducible assumption) ?_; walk_at "g_but2") | (with_reducible refine Hf.But2.updL ?_; walk_at "g_but2") | (with_reducible refine Hf.But2.updR ?_; walk_at "g_but2") | (with_reducible refine Hf.But2.transT (by with_reducible assumption) ?_; walk_at "g_but2") | (with_reducible refine Hf.But2.transS (by with_reducible assumption) ?_; walk_at "g_but2") | (with_reducible refine Hf.But2.transL (by with_reducible assumption) ?_; walk_at "g_but2") | (with_reducible refine Hf.But2.transR (by with_reducible assumption) ?_; walk_at "g_but2") | (with_reducible refine Hf.But2.mut (by with_reducible assumption) ?_; walk_at "g_but2") | (with_reducible refine Hf.But2.butT (by with_reducible assumption) (by with_reducible assumption) ?_; walk_at "g_but2") | fail "g_but2")
local macro_rules | `(tactic| walk_at "g_same") => `(tactic| first | (with_reducible exact L2.Same.refl _) | (with_reducible assumption) | (with_reducible refine Hf.Same.newT' (by with_reducible assumption) ?_; walk_at "g_same") | (with_reducible refine Hf.Same.mut ?_ (by walk_at "g_free"); walk_at "g_same") | (with_reducible refine Hf.Same.butT (by with_reducible assumption) (by walk_at "g_free") ?_; walk_at "g_same") | (with_reducible refine Hf.Same.but2T (by with_reducible assumption) (by walk_at "g_free") (by walk_at "g_free") ?_; walk_at "g_same") | (with_reducible refine Hf.Same.transT (by with_reducible assumption) ?_; walk_at "g_same") | fail "g_same")
local macro_rules | `(tactic| walk_at "g_free") => `(tactic| first | (with_reducible assumption) | ((with_reducible refine' Hf.Same.free' (by with_reducible assumption) ?h7); (case h7 => walk_at "g_same")) | ((with_reducible refine' Hf.But.free (by with_reducible assumption) ?h7 ?h8); (case h7 => walk_at "g_but"); (case h8 => walk_at "g_lk")) | ((with_reducible refine' Hf.But2.free (by with_reducible assumption) ?h7 ?h8 ?h6); (case h7 => walk_at "g_but2"); (case h8 => walk_at "g_lk"); (case h6 => walk_at "g_lk")) | fail "g_free")
local macro_rules | `(tactic| walk_at "g_set") => `(tactic| first | (with_reducible exact Hf.set_n0) | (with_reducible exact Hf.set_n1) | (with_reducible exact Hf.set_n2) | (with_reducible exact Hf.set_n3) | (with_reducible exact Hf.set_n4) | (with_reducible exact Hf.set_n5) | (with_reducible exact Hf.set_n6) | (with_reducible exact Hf.set_n7) | (with_reducible exact Hf.set_n8) | (with_reducible exact Hf.set_n9) | (with_reducible exact Hf.set_n10) | (with_reducible exact Hf.set_n11) | (with_reducible exact Hf.set_n12) | (with_reducible exact Hf.set_n13) | (with_reducible exact Hf.set_n14) | (with_reducible exact Hf.set_n15) | (with_reducible exact Hf.set_n16) | (with_reducible exact Hf.set_n17) | (with_reducible exact Hf.set_n18) | (with_reducible exact Hf.set_n19) | (with_reducible exact Hf.set_n20) | (with_reducible exact Hf.set_n21) | (with_reducible exact Hf.set_n22) | (with_reducible exact Hf.set_n23) | (with_reducible exact Hf.set_n24) | (with_reducible exact Hf.set_n25) | (with_reducible exact Hf.set_n26) | (with_reducible exact Hf.set_n27) | (with_reducible exact Hf.set_n28) | (with_reducible exact Hf.set_n29) | fail "g_set")
local macro_rules | `(tactic| walk_at "g_sz") => `(tactic| first | exact Hf.sz4 (by decide) | exact Hf.sz4' (by decide) | (refine Hf.sz4 ?_; simp; done) | (refine Hf.sz4 ?_; simp; omega) | (refine Hf.sz4 ?_; simp only [List.length_cons, List.length_nil, List.length_take, List.length_drop, List.length_map, List.length_append, List.length_replicate]; omega) | (refine Hf.sz4' ?_; simp; omega) | (refine Hf.sz4' ?_; omega) | (refine Hf.sz4 ?_; omega) | fail "g_sz")
local macro_rules | `(tactic| walk_at "g_at") => `(tactic| first | rfl | assumption | fail "g_at")
local macro_rules | `(tactic| walk_at "g_c") => `(tactic| first | assumption | omega | decide | (refine Hf.mulL ?_; omega) | (refine Hf.mulR ?_; omega) | (refine Hf.divS ?_ ?_ <;> omega) | (refine Hf.mulL ?_; split <;> omega) | (refine ⟨?_, ?_, ?_⟩ <;> first | omega | decide) | (refine ⟨?_, ?_⟩ <;> first | assumption | omega) | fail "g_c")
local macro_rules | `(tactic| walk_at "g_ixn") => `(tactic| first | (show L2.ixN _ _ = some 0; rfl) | (show L2.ixN _ _ = some 1; rfl) | (show L2.ixN _ _ = some 2; rfl) | (show L2.ixN _ _ = some 3; rfl) | (show L2.ixN _ _ = some 4; rfl) | (show L2.ixN _ _ = some 5; rfl) | (show L2.ixN _ _ = some 6; rfl) | (show L2.ixN _ _ = some 7; rfl) | assumption | fail "g_ixn")
local macro_rules | `(tactic| walk_at "g_pow") => `(tactic| first | (show (10 : Int) ^ (9 : Int).toNat = 1000000000; rfl) | (show (10 : Int) ^ (18 : Int).toNat = 1000000000000000000; rfl) | (show (10 : Int) ^ (20 : Int).toNat = 100000000000000000000; rfl) | (show (10 : Int) ^ (29 : Int).toNat = 100000000000000000000000000000; rfl) | (show (10 : Int) ^ (26 : Int).toNat = 100000000000000000000000000; rfl) | (show (10 : Int) ^ (10 : Int).toNat = 10000000000; rfl) | (show (10 : Int) ^ (19 : Int).toNat = 10000000000000000000; rfl) | (show (10 : Int) ^ (27 : Int).toNat = 1000000000000000000000000000; rfl) | (show (10 : Int) ^ (28 : Int).toNat = 10000000000000000000000000000; rfl) | (show (10 : Int) ^ (25 : Int).toNat = 10000000000000000000000000; rfl) | (show (10 : Int) ^ (30 : Int).toNat = 1000000000000000000000000000000; rfl) | (show (10 : Int) ^ (2 : Int).toNat = 100; rfl) | (show (10 : Int) ^ (3 : Int).toNat = 1000; rfl) | (show (_ : Int) ^ (3 : Int).toNat = _; rfl) | fail "g_pow")
local macro_rules | `(tactic| walk_at "g_ty") => `(tactic| first | exact .base .non | exact .base (.bl _) | exact .base (.int _) | exact .base (.str _) | exact .base (.lst (by walk_at "g_lk")) | exact .base (.tup (by walk_at "g_lk")) | exact .base (.dK (by walk_at "g_lk")) | exact .base (.dT (by walk_at "g_lk")) | fail "g_ty")
local macro_rules | `(tactic| walk_at "g_pre") => `(tactic| first | (with_reducible assumption) | walk_at "g_lk" | walk_at "g_sq" | walk_at "g_but" | walk_at "g_but2" | walk_at "g_same" | walk_at "g_free" | omega | (refine ⟨?_, ?_⟩ <;> omega) | exact .inl (by omega) | exact .inr (by omega) | (with_reducible assumption) | fail "g_pre")
local macro_rules | `(tactic| walk_at "g_call") => `(tactic| fail "g_call: no rule")
local macro_rules | `(tactic| walk_at "g_val") => `(tactic| first
  | (with_reducible refine' Hf.i_I0 ?_)
  | ((with_reducible refine' Hf.i_pow ?k1 ?k2 ?_); (case k1 => walk_at "g_c"); (case k2 => walk_at "g_pow"))
  | ((with_reducible refine' Hf.i_I ?k1 ?_); (case k1 => walk_at "g_c"))
  | (with_reducible refine' Hf.i_U ?_)
  | (with_reducible refine' Hf.i_eqI ?_)
  | (with_reducible refine' Hf.i_neI ?_)
  | (with_reducible refine' Hf.i_eqB ?_)
  | (with_reducible refine' Hf.i_neB ?_)
  | (with_reducible refine' Hf.i_eqS ?_)
  | (with_reducible refine' Hf.i_neS ?_)
  | ((with_reducible refine' Hf.i_ixL ?k1 ?k2 ?_); (case k1 => walk_at "g_sq"); (case k2 => walk_at "g_at"))
  | ((with_reducible refine' Hf.i_ixT ?k1 ?k2 ?_); (case k1 => walk_at "g_sq"); (case k2 => walk_at "g_at"))
  | ((with_reducible refine' Hf.i_ix2I ?k1 ?k2 ?k3 ?_); (case k1 => walk_at "g_sq"); (case k2 => omega); (case k3 => omega); intro _ _)
  | ((with_reducible refine' Hf.i_ix3I ?k1 ?k2 ?k3 ?_); (case k1 => walk_at "g_sq"); (case k2 => omega); (case k3 => omega); intro _ _)
  | ((with_reducible refine' Hf.i_ix4I ?k1 ?k2 ?k3 ?_); (case k1 => walk_at "g_sq"); (case k2 => omega); (case k3 => omega); intro _ _)
  | ((with_reducible refine' Hf.i_ix3R ?k1 ?k2 ?k3 ?_); (case k1 => walk_at "g_sq"); (case k2 => omega); (case k3 => omega); intro _ _)
  | ((with_reducible refine' Hf.i_ix4R ?k1 ?k2 ?k3 ?_); (case k1 => walk_at "g_sq"); (case k2 => omega); (case k3 => omega); intro _ _)
  | (with_reducible refine' Hf.i_abs ?_)
  | (with_reducible refine' Hf.i_int2 ?_)
  | (with_reducible refine' Hf.i_int1 ?_)
  | (with_reducible refine' Hf.i_intb ?_)
  | ((with_reducible refine' Hf.i_isi ?k1 ?k2 ?_); (case k1 => walk_at "g_ty"); (case k2 => first | (show L2.kitB _ _ = some true; decide +kernel) | (show L2.kitB _ _ = some false; decide +kernel)))
  | ((with_reducible refine' Hf.i_lenL ?k1 ?_); (case k1 => walk_at "g_sq"))
  | ((with_reducible refine' Hf.i_lenT ?k1 ?_); (case k1 => walk_at "g_sq"))
  | ((with_reducible refine' Hf.i_appendM ?k1 ?k2 ?_); (case k1 => walk_at "g_lk"); (case k2 => walk_at "g_sz"))
  | ((with_reducible refine' Hf.i_append ?k1 ?k2 ?_); (case k1 => walk_at "g_lk"); (case k2 => walk_at "g_sz"))
  | ((with_reducible refine' Hf.i_bmL ?k1 ?_); (case k1 => walk_at "g_sq"))
  | ((with_reducible refine' Hf.i_setLast ?k1 ?k2 ?_); (case k1 => walk_at "g_lk"); (case k2 => first | omega | (simp; done) | (simp; omega)))
  | ((with_reducible refine' Hf.i_setM ?k1 ?k2 ?k3 ?_); (case k1 => walk_at "g_lk"); (case k2 => omega); (case k3 => first | omega | (simp; done) | (simp; omega)))
  | ((with_reducible refine' Hf.i_setL ?k1 ?k2 ?_); (case k1 => walk_at "g_lk"); (case k2 => walk_at "g_ixn"); (try dsimp only [List.set_cons_zero, List.set_cons_succ])) | fail "g_val")
local macro_rules | `(tactic| walk_at "g_val2") => `(tactic| first
  | ((with_reducible refine' Hf.i_slInitM ?k1 ?_); (case k1 => walk_at "g_sq"); intro _ _)
  | ((with_reducible refine' Hf.i_ixLast ?k1 ?k2 ?_); (case k1 => walk_at "g_sq"); (case k2 => first | omega | (simp; done) | (simp; omega)); intro _ _)
  | ((with_reducible refine' Hf.i_slToM ?k1 ?k2 ?_); (case k1 => walk_at "g_sq"); (case k2 => omega); intro _ _)
  | ((with_reducible refine' Hf.i_slFromM ?k1 ?k2 ?_); (case k1 => walk_at "g_sq"); (case k2 => omega); intro _ _)
  | ((with_reducible refine' Hf.i_slMidM ?k1 ?k2 ?k3 ?_); (case k1 => walk_at "g_sq"); (case k2 => omega); (case k3 => omega); intro _ _)
  | ((with_reducible refine' Hf.i_slTo ?k1 ?k2 ?_); (case k1 => walk_at "g_sq"); (case k2 => omega); intro _ _)
  | ((with_reducible refine' Hf.i_slFrom ?k1 ?k2 ?_); (case k1 => walk_at "g_sq"); (case k2 => omega); intro _ _)
  | ((with_reducible refine' Hf.i_slMid ?k1 ?k2 ?k3 ?_); (case k1 => walk_at "g_sq"); (case k2 => omega); (case k3 => omega); intro _ _)
  | ((with_reducible refine' Hf.i_eqT2 ?k1 ?k2 ?_); (case k1 => walk_at "g_sq"); (case k2 => walk_at "g_sq"))
  | (with_reducible refine' Hf.i_sl ?_)
  | ((with_reducible refine' Hf.i_lenA ?k1 ?_); (case k1 => first | exact Hf.lenA_map (by walk_at "g_sq") | exact Hf.lenA_L (by walk_at "g_sq") | exact Hf.lenA_T (by walk_at "g_sq")))
  | ((with_reducible refine' Hf.i_ixM ?k1 ?k2 ?k3 ?_); (case k1 => walk_at "g_sq"); (case k2 => omega); (case k3 => first | omega | (simp; omega)); intro _ _)
  | ((with_reducible refine' Hf.i_listOf ?k1 ?_); (case k1 => walk_at "g_sq"); intro _ _)
  | ((with_reducible refine' Hf.i_listOfT ?k1 ?_); (case k1 => walk_at "g_sq"); intro _ _)
  | ((with_reducible refine' Hf.i_sum ?k1 ?_); (case k1 => walk_at "g_sq"))
  | ((with_reducible refine' Hf.i_all ?k1 ?_); (case k1 => walk_at "g_sq"))
  | ((with_reducible refine' Hf.i_min ?k1 ?k2 ?_); (case k1 => walk_at "g_sq"); (case k2 => omega); intro _ _ _)
  | ((with_reducible refine' Hf.i_max ?k1 ?k2 ?_); (case k1 => walk_at "g_sq"); (case k2 => omega); intro _ _ _)
  | ((with_reducible refine' Hf.i_eqLI ?k1 ?k2 ?_); (case k1 => walk_at "g_sq"); (case k2 => walk_at "g_sq"))
  | ((with_reducible refine' Hf.i_neLI ?k1 ?k2 ?_); (case k1 => walk_at "g_sq"); (case k2 => walk_at "g_sq"))
  | ((with_reducible refine' Hf.i_eqL0 ?k1 ?k2 ?_); (case k1 => walk_at "g_sq"); (case k2 => walk_at "g_sq"))
  | ((with_reducible refine' Hf.i_eq00 ?k1 ?k2 ?_); (case k1 => walk_at "g_sq"); (case k2 => walk_at "g_sq"))
  | ((with_reducible refine' Hf.i_ne00 ?k1 ?k2 ?_); (case k1 => walk_at "g_sq"); (case k2 => walk_at "g_sq"))
  | ((with_reducible refine' Hf.i_reverse ?k1 ?_); (case k1 => walk_at "g_lk"))
  | ((with_reducible refine' Hf.i_glst ?k1 ?k2 ?_); (case k1 => walk_at "g_sq"); (case k2 => rfl))
  | (with_reducible refine' Hf.i_lc ?_)
  | ((with_reducible refine' Hf.i_turn ?k1 ?_); (case k1 => first | ((show L2.wipe _ [_] = _); (apply Hf.wipe_one); walk_at "g_set") | ((show L2.wipe _ [_, _] = _); (apply Hf.wipe_two); walk_at "g_set"; walk_at "g_set") | ((show L2.wipe _ [_, _, _] = _); (apply Hf.wipe_three); walk_at "g_set"; walk_at "g_set"; walk_at "g_set")))
  | ((with_reducible refine' Hf.i_wiped ?k1 ?_); (case k1 => rfl))
  | (with_reducible refine' Hf.i_yes ?_)
  | (with_reducible refine' Hf.i_nopart ?_)
  | (with_reducible refine' Hf.i_part ?_)
  | (with_reducible refine' Hf.i_exint ?_)
  | ((with_reducible refine' Hf.i_catM ?k1 ?k2 ?k3 ?_); (case k1 => walk_at "g_lk"); (case k2 => walk_at "g_lk"); (case k3 => (simp; omega)); intro _ _)
  | ((with_reducible refine' Hf.i_catM1 ?k1 ?k2 ?k3 ?_); (case k1 => walk_at "g_lk"); (case k2 => walk_at "g_lk"); (case k3 => first | omega | (simp; omega)); intro _ _)
  | ((with_reducible refine' Hf.i_cat ?k1 ?k2 ?k3 ?_); (case k1 => walk_at "g_lk"); (case k2 => walk_at "g_lk"); (case k3 => walk_at "g_sz"); intro _ _)
  | ((with_reducible refine' Hf.i_repM ?k1 ?k2 ?_); (case k1 => walk_at "g_lk"); (case k2 => omega); intro _ _)
  | ((with_reducible refine' Hf.i_rep1 ?k1 ?k2 ?_); (case k1 => walk_at "g_lk"); (case k2 => omega); intro _ _) | fail "g_val2")
local macro_rules | `(tactic| walk_at "g1") => `(tactic| first
  | ((with_reducible refine' Hf.i_var ?k1 ?_); (case k1 => rfl))
  | (with_reducible refine' Hf.i_c ?_)
  | (with_reducible refine' Hf.i_op ?_)
  | (with_reducible refine' Hf.i_cons ?_)
  | (with_reducible refine' Hf.i_nil ?_)
  | (with_reducible refine' Hf.i_seq ?_)
  | (with_reducible refine' Hf.i_asg ?_)
  | ((with_reducible refine' Hf.i_gname ?k1 ?_); (case k1 => walk_at "g_set"))
  | (with_reducible refine' Hf.i_ret ?_)
  | (with_reducible refine' Hf.i_next ?_)
  | (with_reducible refine' Hf.i_ifs ?_)
  | ((with_reducible refine' Hf.ite_y ?k1 ?_); (case k1 => rfl))
  | ((with_reducible refine' Hf.ite_n ?k1 ?_); (case k1 => rfl))
  | (with_reducible refine' Hf.i_test ?_)
  | (with_reducible refine' Hf.i_B ?_)
  | (with_reducible refine' Hf.i_bl ?_)
  | (with_reducible refine' Hf.i_call ?_)
  | (with_reducible refine' Hf.i_cb ?_)
  | (with_reducible refine' Hf.i_tup ?_)
  | (with_reducible refine' Hf.i_lst ?_)
  | ((with_reducible refine' Hf.i_new ?k1 ?_); (case k1 => walk_at "g_sz"); intro _ _)
  | (with_reducible refine' Hf.i_un ?_)
  | (with_reducible refine' Hf.i_and ?_)
  | (with_reducible refine' Hf.i_or ?_)
  | (with_reducible refine' Hf.i_not ?_)
  | (with_reducible refine' Hf.i_andV ?_)
  | (with_reducible refine' Hf.i_orV ?_)
  | (with_reducible refine' Hf.i_notV ?_)
  | (with_reducible refine' Hf.i_ife ?_)
  | (with_reducible refine' Hf.i_drop ?_)
  | (with_reducible refine' Hf.i_par ?_)
  | ((with_reducible refine' Hf.i_par2 ?k1 ?_); (case k1 => (apply Hf.set_par; walk_at "g_set"; walk_at "g_set")))
  | ((with_reducible refine' Hf.i_aug ?k1 ?_); (case k1 => rfl))
  | (with_reducible refine' Hf.i_ip ?_)
  | (with_reducible refine' Hf.i_bm ?_)
  | (with_reducible refine' Hf.i_bm0 ?_)
  | ((with_reducible refine' Hf.i_gtup ?k1 ?k2 ?_); (case k1 => walk_at "g_sq"); (case k2 => rfl))
  | (with_reducible refine' Hf.i_gcons ?_)
  | (with_reducible refine' Hf.i_gnil ?_)
  | (with_reducible refine' Hf.i_gsub ?_)
  | (with_reducible refine' Hf.i_for ?_)
  | (with_reducible refine' Hf.i_rng1 ?_)
  | ((with_reducible refine' Hf.i_rng1' ?k1 ?k2 ?_); (case k1 => omega); (case k2 => omega))
  | (with_reducible refine' Hf.i_rng2 ?_)
  | ((with_reducible refine' Hf.i_rng2' ?k1 ?_); (case k1 => omega))
  | (with_reducible refine' Hf.i_ilist ?_)
  | ((with_reducible refine' Hf.i_ilist' ?k1 ?_); (case k1 => walk_at "g_sq"))
  | (with_reducible refine' Hf.i_itup ?_)
  | ((with_reducible refine' Hf.i_itup' ?k1 ?_); (case k1 => walk_at "g_sq"))
  | (with_reducible refine' Hf.i_retN ?_)
  | (with_reducible refine' Hf.i_brk ?_)
  | (with_reducible refine' Hf.i_cnt ?_)
  | walk_at "g_val"
  | walk_at "g_val2"
  | walk_at "g_call"
  | (with_reducible refine' Hf.i_isn ?_)
  | (with_reducible refine' Hf.i_tru ?_)
  | dsimp only | fail "g1")
local macro_rules | `(tactic| walk_at "go") => `(tactic| repeat walk_at "g1")
local macro_rules | `(tactic| walk_at "goI") => `(tactic| repeat ((fail_if_success (with_reducible refine' Hf.i_ifs ?_)); walk_at "g1"))
local macro_rules | `(tactic| walk_at "goF") => `(tactic| repeat ((fail_if_success (with_reducible refine' Hf.i_for ?_)); walk_at "g1"))
local macro_rules | `(tactic| walk_at "g_kit") => `(tactic| fail "g_kit")
local macro_rules | `(tactic| walk_at "g_exc") => `(tactic| fail "g_exc")
local macro_rules | `(tactic| walk_at "g_exm") => `(tactic| fail "g_exm")
local macro_rules | `(tactic| walk_at "g_kitB") => `(tactic| first | (show L2.kitB _ _ = some true; decide +kernel) | (show L2.kitB _ _ = some false; decide +kernel))
local macro_rules | `(tactic| walk_at "g_val2") => `(tactic| first
  | ((with_reducible refine' Hf.i_isXi ?k1 ?k2 ?_); (case k1 => walk_at "g_ty"); (case k2 => walk_at "g_kitB"))
  | ((with_reducible refine' Hf.i_isXo ?k1 ?k2 ?_); (case k1 => walk_at "g_ty"); (case k2 => walk_at "g_kit"))
  | ((with_reducible refine' Hf.i_isXR ?k1 ?k2 ?k3 ?_); (case k1 => walk_at "g_lk"); (case k2 => walk_at "g_exc"); (case k3 => walk_at "g_kit"))
  | ((with_reducible refine' Hf.i_isXT ?k1 ?k2 ?k3 ?_); (case k1 => walk_at "g_lk"); (case k2 => walk_at "g_exc"); (case k3 => walk_at "g_kit"))
  | ((with_reducible refine' Hf.i_isXRd ?k1 ?k4 ?k2 ?k3 ?_); (case k1 => walk_at "g_lk"); (case k4 => walk_at "g_lk"); (case k2 => walk_at "g_exc"); (case k3 => walk_at "g_kit"))
  | ((with_reducible refine' Hf.i_isXTd ?k1 ?k4 ?k2 ?k3 ?_); (case k1 => walk_at "g_lk"); (case k4 => walk_at "g_lk"); (case k2 => walk_at "g_exc"); (case k3 => walk_at "g_kit"))
  | (with_reducible refine' Hf.i_callS ?_)
  | (with_reducible refine' Hf.i_try ?_)
  | ((with_reducible refine' Hf.i_caught ?k1 ?k2 ?_); (case k1 => walk_at "g_exm"); (case k2 => (intro _; walk_at "g_set")); intro _ _)
  | ((with_reducible refine' Hf.i_nxAs ?k1 ?_); (case k1 => walk_at "g_set"))
  | (with_reducible refine' Hf.i_rtAs ?_)
  | (with_reducible refine' Hf.i_izip ?_)
  | ((with_reducible refine' Hf.i_neT2 ?k1 ?k2 ?_); (case k1 => walk_at "g_sq"); (case k2 => walk_at "g_sq"))
  | ((with_reducible refine' Hf.i_neS1 ?k1 ?k2 ?k3 ?_); (case k1 => walk_at "g_sq"); (case k2 => walk_at "g_sq"); (case k3 => decide +kernel))
  | ((with_reducible refine' Hf.i_izip' ?k1 ?k2 ?_); (case k1 => walk_at "g_sq"); (case k2 => walk_at "g_sq"))
  | (with_reducible refine' Hf.i_isnR ?_)
  | (with_reducible refine' Hf.i_isnN ?_)
  | ((with_reducible refine' Hf.i_cntV ?k1 ?k2 ?k3 ?k4 ?_); (case k1 => walk_at "g_sq"); (case k2 => rfl); (case k3 => rfl); (case k4 => rfl))
  | ((with_reducible refine' Hf.i_index ?k1 ?k2 ?k3 ?k4 ?_); (case k1 => walk_at "g_sq"); (case k2 => rfl); (case k3 => rfl); (case k4 => rfl)) | fail "g_val2x")
local macro_rules | `(tactic| walk_at "g_no") => `(tactic| first | contradiction | omega | (simp_all; done) | fail "g_no")
local macro_rules | `(tactic| walk_at "g_but") => `(tactic| first | (with_reducible exact Hf.But.refl _ _) | (with_reducible assumption) | (with_reducible refine Hf.But.newT (by with_reducible assumption) ?_; walk_at "g_but") | (with_reducible refine Hf.But.upd ?_; walk_at "g_but") | (with_reducible refine Hf.But.transT (by with_reducible assumption) ?_; walk_at "g_but") | (with_reducible refine Hf.But.transS (by with_reducible assumption) ?_; walk_at "g_but") | (with_reducible refine Hf.But.mut (by with_reducible assumption) ?_; walk_at "g_but") | (with_reducible refine Hf.But.mutS (by with_reducible assumption) (by with_reducible assumption) ?_; walk_at "g_but") | fail "g_but")
local macro_rules | `(tactic| walk_at "g_cls") => `(tactic| fail "g_cls")
local macro_rules | `(tactic| walk_at "g_val2") => `(tactic| first
  | (with_reducible refine' Hf.i_fld ?_)
  | ((with_reducible refine' Hf.i_fldR ?k1 ?k2 ?k3 ?k4 ?_); (case k1 => walk_at "g_lk"); (case k2 => walk_at "g_cls"); (case k3 => walk_at "g_cls"); (case k4 => first | rfl | decide +kernel))
  | (with_reducible refine' Hf.i_sfld ?_)
  | ((with_reducible refine' Hf.i_setR ?k1 ?k2 ?k3 ?k4 ?_); (case k1 => walk_at "g_lk"); (case k2 => walk_at "g_cls"); (case k3 => walk_at "g_cls"); (case k4 => decide))
  | (with_reducible refine' Hf.i_meth ?_)
  | ((with_reducible refine' Hf.i_methR ?k1 ?k4 ?_); (case k1 => walk_at "g_lk"); (case k4 => first | rfl | decide +kernel))
  | ((with_reducible refine' Hf.i_make0 ?_); intro _ _ _ _ _)
  | (with_reducible refine' Hf.i_dnotin ?_)
  | (with_reducible refine' Hf.i_din ?_)
  | ((with_reducible refine' Hf.i_dg3 ?k1 ?k2 ?_); (case k1 => walk_at "g_lk"); (case k2 => walk_at "g_lk"))
  | ((with_reducible refine' Hf.i_dg2 ?k1 ?k2 ?_); (case k1 => walk_at "g_lk"); (case k2 => walk_at "g_lk"))
  | (with_reducible refine' Hf.i_dget ?_)
  | ((with_reducible refine' Hf.i_dv3 ?k1 ?k2 ?k3 ?_); (case k1 => walk_at "g_lk"); (case k2 => walk_at "g_lk"); (case k3 => assumption))
  | ((with_reducible refine' Hf.i_dv2 ?k1 ?k2 ?k3 ?_); (case k1 => walk_at "g_lk"); (case k2 => walk_at "g_lk"); (case k3 => assumption))
  | (with_reducible refine' Hf.i_dput ?_)
  | ((with_reducible refine' Hf.i_dp3 ?k1 ?k2 ?k3 ?_); (case k1 => walk_at "g_lk"); (case k2 => walk_at "g_lk"); (case k3 => omega))
  | ((with_reducible refine' Hf.i_dp2 ?k1 ?k2 ?k3 ?_); (case k1 => walk_at "g_lk"); (case k2 => walk_at "g_lk"); (case k3 => omega))
  | ((with_reducible refine' Hf.i_dnewT ?_); intro _ _)
  | (with_reducible refine' Hf.i_lstRg ?_)
  | (with_reducible refine' Hf.i_rg1 ?_)
  | (with_reducible refine' Hf.i_rg2 ?_)
  | (with_reducible refine' Hf.i_rg2' ?_)
  | (with_reducible refine' Hf.i_rg1' ?_)
  | ((with_reducible refine' Hf.i_rgok ?k1 ?k2 ?k3 ?k4 ?_); (case k1 => omega); (case k2 => omega); (case k3 => omega); (case k4 => omega); intro _ _) | fail "g_val2o")
local macro_rules | `(tactic| walk_at "g_but") => `(tactic| first | (with_reducible exact Hf.But.refl _ _) | (with_reducible assumption) | (with_reducible refine Hf.But.newT (by with_reducible assumption) ?_; walk_at "g_but") | (with_reducible refine Hf.But.upd ?_; walk_at "g_but") | (with_reducible refine Hf.But.mutD (by with_reducible assumption) ?_; walk_at "g_but") | (with_reducible refine Hf.But.mutSD (by with_reducible assumption) (by walk_at "g_free") ?_; walk_at "g_but") | (with_reducible refine Hf.But.transT (by with_reducible assumption) ?_; walk_at "g_but") | (with_reducible refine Hf.But.transS (by with_reducible assumption) ?_; walk_at "g_but") | fail "g_but")
local macro_rules | `(tactic| walk_at "g_dq") => `(tactic| first | (with_reducible assumption) | ((with_reducible refine' Hf.Dq.same ?s9 ?d9); (case d9 => (with_reducible assumption)); (case s9 => walk_at "g_same")) | ((with_reducible refine' Hf.dq_mix ?q9 ?h9 ?s9); (case q9 => (with_reducible assumption)); (case h9 => walk_at "g_lk"); (case s9 => walk_at "g_same")) | ((with_reducible refine' Hf.Dq.same (Hf.hid_mono ?s9) ?d9); (case d9 => (with_reducible assumption)); (case s9 => walk_at "g_same")) | ((with_reducible refine' Hf.dq_two ?h5 ?h6 ?h7 ?h8 ?h9); (case h5 => walk_at "g_lk"); (case h6 => walk_at "g_lk"); (case h7 => walk_at "g_lk"); (case h8 => walk_at "g_lk"); (case h9 => walk_at "g_lk")) | fail "g_dq")
local macro_rules | `(tactic| walk_at "g_pre") => `(tactic| walk_at "g_dq")
local macro_rules | `(tactic| walk_at "g_val2") => `(tactic| first
  | ((with_reducible refine' Hf.i_neDq ?k1 ?k2 ?k3 ?_); (case k1 => walk_at "g_dq"); (case k2 => walk_at "g_dq"); (case k3 => first | exact Hf.shaped_mix _))
  | ((with_reducible refine' Hf.i_neL2 ?k1 ?k2 ?_); (case k1 => walk_at "g_sq"); (case k2 => walk_at "g_sq"))
  | ((with_reducible refine' Hf.i_reverseV ?k1 ?_); (case k1 => walk_at "g_lk"))
  | (with_reducible refine' Hf.i_rev ?_)
  | ((with_reducible refine' Hf.i_revV ?k1 ?_); (case k1 => walk_at "g_sq"); intro _ _)
  | fail "g_val2d")
local macro_rules | `(tactic| walk_at "goO") => `(tactic| repeat (first | walk_at "g1" | (with_reducible refine' Hf.ite_y (decide_eq_true (by omega)) ?_) | (with_reducible refine' Hf.ite_n (decide_eq_false (by omega)) ?_)))
local macro_rules | `(tactic| walk_at "g_val2") => `(tactic| first
  | (with_reducible refine' Hf.i_min2 ?_)
  | (with_reducible refine' Hf.i_min3 ?_)
  | fail "g_val2b")
local macro_rules | `(tactic| walk_at "g_free") => `(tactic| first | (with_reducible assumption) | ((with_reducible refine' Hf.Newly.free ?n7 ?h7); (case n7 => (with_reducible assumption)); (case h7 => walk_at "g_lk")) | ((with_reducible refine' Hf.Same.free' (by with_reducible assumption) ?h7); (case h7 => walk_at "g_same")) | ((with_reducible refine' Hf.But.free (by with_reducible assumption) ?h7 ?h8); (case h7 => walk_at "g_but"); (case h8 => walk_at "g_lk")) | fail "g_free")
local macro_rules | `(tactic| walk_at "g_pk") => `(tactic| first | (with_reducible assumption) | ((with_reducible refine' Hf.Pk.newT ?n9 ?h9); (case n9 => (with_reducible assumption)); (case h9 => walk_at "g_pk")) | ((with_reducible refine' Hf.Pk.sameT ?n9 ?h9); (case n9 => (with_reducible assumption)); (case h9 => walk_at "g_pk")) | fail "g_pk")
local macro_rules | `(tactic| walk_at "g_pre") => `(tactic| walk_at "g_pk")
local macro_rules | `(tactic| walk_at "g_free") => `(tactic| first | ((with_reducible refine' Hf.Pk.free (by with_reducible assumption) ?h7 ?h8); (case h8 => walk_at "g_pk"); (case h7 => walk_at "g_but")) | fail "macp")
local macro_rules | `(tactic| walk_at "g_free") => `(tactic| first | ((with_reducible refine' Hf.Newly.pk ?n7 ?h7); (case n7 => (with_reducible assumption)); (case h7 => walk_at "g_pk")) | fail "macp")
local macro_rules | `(tactic| walk_at "g_ne") => `(tactic| first | ((with_reducible refine' Hf.Pk.ne ?n9 ?h9); (case n9 => (with_reducible assumption)); (case h9 => walk_at "g_pk")) | fail "macp")
local macro_rules | `(tactic| walk_at "g_ne") => `(tactic| first | ((with_reducible refine' Hf.Pk.neo ?n9 ?h9); (case n9 => (with_reducible assumption)); (case h9 => (with_reducible assumption))) | fail "macp")
local macro_rules | `(tactic| walk_at "g_val2") => `(tactic| first | ((with_reducible refine' Hf.i_tupOfL ?k1 ?_); (case k1 => walk_at "g_sq"); intro _ _) | fail "macp")
local macro_rules | `(tactic| walk_at "g_val") => `(tactic| first | ((with_reducible refine' Hf.i_intY ?k1 ?_); (case k1 => exact decide_eq_true (by omega))) | ((with_reducible refine' Hf.i_intN ?k1 ?_); (case k1 => exact decide_eq_false (by omega))) | fail "g_valp")
local macro_rules | `(tactic| walk_at "g_val2") => `(tactic| first | ((with_reducible refine' Hf.i_neDq ?k1 ?k2 ?k3 ?_); (case k1 => walk_at "g_dq"); (case k2 => walk_at "g_dq"); (case k3 => first | exact Hf.shaped_bat _ _ _ | exact Hf.shaped_mix _ | assumption)) | fail "macp")
local macro_rules | `(tactic| walk_at "g_kb") => `(tactic| first | (show L2.kitB _ _ = some true; decide +kernel) | (show L2.kitB _ _ = some false; decide +kernel) | fail "g_kb")
local macro_rules | `(tactic| walk_at "g_val2") => `(tactic| first
  | ((with_reducible refine' Hf.i_isiT2 ?k1 ?k2 ?k3 ?k4 ?_); (case k1 => walk_at "g_lk"); (case k2 => walk_at "g_ty"); (case k3 => walk_at "g_kb"); (case k4 => walk_at "g_kb"))
  | (with_reducible refine' Hf.i_iseq ?_)
  | ((with_reducible refine' Hf.i_iseqL ?k1 ?_); (case k1 => walk_at "g_sq"))
  | ((with_reducible refine' Hf.i_iseqT ?k1 ?_); (case k1 => walk_at "g_sq"))
  | ((with_reducible refine' Hf.i_cntS ?k1 ?k2 ?k3 ?k4 ?_); (case k1 => walk_at "g_dq"); (case k2 => assumption); (case k3 => decide +kernel); (case k4 => assumption))
  | fail "g_val2w")
local macro_rules | `(tactic| walk_at "g_ow") => `(tactic| first | (with_reducible assumption) | ((with_reducible refine' Hf.Ow.same ?s9 ?d9); (case d9 => (with_reducible assumption)); (case s9 => walk_at "g_same")) | fail "g_ow")
local macro_rules | `(tactic| walk_at "g_pre") => `(tactic| walk_at "g_ow")
local macro_rules | `(tactic| walk_at "g_val2") => `(tactic| first
  | (with_reducible refine' Hf.i_dget2 ?_)
  | ((with_reducible refine' Hf.i_isD ?k1 ?_); (case k1 => walk_at "g_lk"))
  | ((with_reducible refine' Hf.i_dgo2 ?k1 ?k2 ?_); (case k1 => walk_at "g_lk"); (case k2 => walk_at "g_lk"); (try rw [Hf.FlD.get (by assumption)]))
  | ((with_reducible refine' Hf.i_sortedDT ?k1 ?k2 ?_); (case k1 => walk_at "g_lk"); (case k2 => assumption); intro _ _ _ _ _ _)
  | fail "g_val2z")
local macro_rules | `(tactic| walk_at "g_kitN") => `(tactic| first | (with_reducible exact Hf.KitN.nil) | ((with_reducible refine' Hf.KitN.no ?k8 ?k9); (case k8 => walk_at "g_kit"); (case k9 => walk_at "g_kitN")) | fail "g_kitN")
local macro_rules | `(tactic| walk_at "g_kitR") => `(tactic| first | (with_reducible exact Hf.KitR.nil) | ((with_reducible refine' Hf.KitR.cons ?k9); (case k9 => walk_at "g_kitR")) | fail "g_kitR")
local macro_rules | `(tactic| walk_at "g_kitY") => `(tactic| first | ((with_reducible refine' Hf.KitY.here ?k8 ?k9); (case k8 => walk_at "g_kit"); (case k9 => walk_at "g_kitR")) | ((with_reducible refine' Hf.KitY.there ?k8 ?k9); (case k8 => walk_at "g_kit"); (case k9 => walk_at "g_kitY")) | fail "g_kitY")
local macro_rules | `(tactic| walk_at "g_val2") => `(tactic| first
  | ((with_reducible refine' Hf.i_isXN ?k1 ?k2 ?k3 ?k4 ?_); (case k1 => walk_at "g_lk"); (case k2 => walk_at "g_lk"); (case k3 => walk_at "g_exc"); (case k4 => walk_at "g_kitN"))
  | ((with_reducible refine' Hf.i_isXY ?k1 ?k2 ?k3 ?k4 ?_); (case k1 => walk_at "g_lk"); (case k2 => walk_at "g_lk"); (case k3 => walk_at "g_exc"); (case k4 => walk_at "g_kitY"))
  | ((with_reducible refine' Hf.i_isXNd ?k1 ?k5 ?k2 ?k3 ?k4 ?_); (case k1 => walk_at "g_lk"); (case k5 => walk_at "g_lk"); (case k2 => walk_at "g_lk"); (case k3 => walk_at "g_exc"); (case k4 => walk_at "g_kitN"))
  | ((with_reducible refine' Hf.i_isXT2 ?k1 ?k2 ?k3 ?k4 ?_); (case k1 => walk_at "g_lk"); (case k2 => walk_at "g_ty"); (case k3 => walk_at "g_kb"); (case k4 => walk_at "g_kb"))
  | fail "g_val2e")
local macro_rules | `(tactic| walk_at "g_oex") => `(tactic| fail "g_oex")
local macro_rules | `(tactic| walk_at "g_nof") => `(tactic| fail "g_nof")
local macro_rules | `(tactic| walk_at "g_val2") => `(tactic| first
  | (with_reducible refine' Hf.i_vei ?_)
  | ((with_reducible refine' Hf.i_ver ?k1 ?k2 ?k3 ?_); (case k1 => walk_at "g_lk"); (case k2 => walk_at "g_oex"); (case k3 => decide))
  | (with_reducible refine' Hf.i_ost ?_)
  | ((with_reducible refine' Hf.i_osr ?k1 ?k2 ?k3 ?_); (case k1 => walk_at "g_lk"); (case k2 => walk_at "g_oex"); (case k3 => walk_at "g_nof"); intro _ _ _)
  | (with_reducible refine' Hf.i_mko ?_)
  | (with_reducible refine' Hf.i_xfH ?_)
  | ((with_reducible refine' Hf.i_xfR ?k1 ?k2 ?k3 ?k4 ?_); (case k1 => walk_at "g_lk"); (case k2 => walk_at "g_lk"); (case k3 => walk_at "g_exc"); (case k4 => walk_at "g_nof"))
  | fail "g_val2i")
local macro_rules | `(tactic| walk_at "g_at") => `(tactic| first | (with_reducible exact Hf.atI_0) | (with_reducible exact Hf.atI_1) | (with_reducible exact Hf.atI_2) | fail "g_at2")
local macro_rules | `(tactic| walk_at "g_val2") => `(tactic| first | ((with_reducible refine' Hf.i_ix3S ?k1 ?k2 ?k3 ?_); (case k1 => walk_at "g_sq"); (case k2 => omega); (case k3 => omega); intro _ _) | fail "ix3s")
local macro_rules | `(tactic| walk_at "g_val2") => `(tactic| first | ((with_reducible refine' Hf.i_nin ?k1 ?k2 ?k3 ?k4 ?_); (case k1 => walk_at "g_sq"); (case k2 => first | rfl | assumption); (case k3 => first | rfl | assumption); (case k4 => first | assumption | (show L2.inV _ _ = true; decide +kernel) | (show L2.inV _ _ = false; decide +kernel))) | ((with_reducible refine' Hf.i_ninT ?k1 ?k2 ?k3 ?k4 ?_); (case k1 => walk_at "g_sq"); (case k2 => first | rfl | assumption); (case k3 => first | rfl | assumption); (case k4 => first | assumption | (show L2.inV _ _ = true; decide +kernel) | (show L2.inV _ _ = false; decide +kernel))) | fail "nin")
local macro_rules | `(tactic| walk_at "g_val2") => `(tactic| first
  | ((with_reducible refine' Hf.i_slT1 ?k1 ?_); (case k1 => walk_at "g_sq"); intro _ _)
  | ((with_reducible refine' Hf.i_catTg ?k1 ?k2 ?k3 ?k4 ?_); (case k1 => walk_at "g_lk"); (case k2 => walk_at "g_sq"); (case k3 => simp); (case k4 => first | (simp; done) | (simp; omega)); intro _ _ _ _)
  | ((with_reducible refine' Hf.i_ix4S ?k1 ?k2 ?k3 ?_); (case k1 => walk_at "g_sq"); (case k2 => omega); (case k3 => omega); intro _ _)
  | fail "g_val2q")
local macro_rules | `(tactic| walk_at "g_val2") => `(tactic| first
  | (with_reducible refine' Hf.i_ienum ?_)
  | ((with_reducible refine' Hf.i_ienum' ?k1 ?_); (case k1 => walk_at "g_sq"))
  | (with_reducible refine' Hf.i_revR ?_)
  | ((with_reducible refine' Hf.i_revR' ?k1 ?_); (case k1 => walk_at "g_sq"); intro _ _) | fail "macn")
local macro_rules | `(tactic| walk_at "g_clt") => `(tactic| fail "g_clt")
local macro_rules | `(tactic| walk_at "g_val2") => `(tactic| first
  | (with_reducible refine' Hf.i_dget2 ?_)
  | ((with_reducible refine' Hf.i_isDK ?k1 ?_); (case k1 => walk_at "g_lk"))
  | ((with_reducible refine' Hf.i_dgoK ?k1 ?_); (case k1 => walk_at "g_lk"); (try rw [Hf.FlI.get (by assumption)]))
  | ((with_reducible refine' Hf.i_dpK ?k1 ?k2 ?_); (case k1 => walk_at "g_lk"); (case k2 => omega))
  | ((with_reducible refine' Hf.i_dnewK ?_); intro _ _)
  | ((with_reducible refine' Hf.i_lstDK ?k1 ?_); (case k1 => walk_at "g_lk"); intro _ _)
  | ((with_reducible refine' Hf.i_eqDI ?k1 ?k2 ?k3 ?k4 ?_); (case k1 => walk_at "g_lk"); (case k2 => walk_at "g_lk"); (case k3 => exact Hf.FlI.ints (by assumption)); (case k4 => exact Hf.FlI.ints (by assumption)))
  | ((with_reducible refine' Hf.i_neDI ?k1 ?k2 ?k3 ?k4 ?_); (case k1 => walk_at "g_lk"); (case k2 => walk_at "g_lk"); (case k3 => exact Hf.FlI.ints (by assumption)); (case k4 => exact Hf.FlI.ints (by assumption)))
  | ((with_reducible refine' Hf.i_leT2 ?k1 ?k2 ?_); (case k1 => walk_at "g_sq"); (case k2 => walk_at "g_sq"))
  | ((with_reducible refine' Hf.i_geT2 ?k1 ?k2 ?_); (case k1 => walk_at "g_sq"); (case k2 => walk_at "g_sq"))
  | ((with_reducible refine' Hf.i_inF ?k1 ?_); (case k1 => walk_at "g_sq"))
  | ((with_reducible refine' Hf.i_isXnone ?k1 ?k2 ?_); (case k1 => walk_at "g_clt"); (case k2 => walk_at "g_ty"))
  | ((with_reducible refine' Hf.i_slA2 ?k1 ?_); (case k1 => walk_at "g_sq"); intro _ _)
  | fail "g_val2k")
local macro_rules | `(tactic| walk_at "g_val2") => `(tactic| first
  | (with_reducible refine' Hf.i_isB ?_)
  | (with_reducible refine' Hf.i_notB ?_)
  | fail "g_val2j")
local macro_rules | `(tactic| walk_at "goS") => `(tactic| repeat ((fail_if_success (with_reducible refine' Hf.i_seq ?_)); walk_at "g1"))
local macro_rules | `(tactic| walk_at "g_val2") => `(tactic| first
  | (with_reducible refine' Hf.i_daug ?_)
  | ((with_reducible refine' Hf.i_dg2' ?k1 ?k2 ?k3 ?_); (case k1 => walk_at "g_lk"); (case k2 => walk_at "g_lk"); (case k3 => assumption))
  | ((with_reducible refine' Hf.i_dpa ?k1 ?k2 ?k3 ?_); (case k1 => walk_at "g_lk"); (case k2 => walk_at "g_lk"); (case k3 => omega))
  | (with_reducible refine' Hf.i_rSub ?_)
  | (with_reducible refine' Hf.i_rAdd ?_)
  | (with_reducible refine' Hf.i_augS ?_)
  | ((with_reducible refine' Hf.i_lenDT ?k1 ?_); (case k1 => walk_at "g_lk"))
  | ((with_reducible refine' Hf.i_bmD ?k1 ?_); (case k1 => walk_at "g_lk"))
  | ((with_reducible refine' Hf.i_popT1 ?k1 ?k2 ?k3 ?_); (case k1 => walk_at "g_lk"); (case k2 => walk_at "g_lk"); (case k3 => assumption))
  | fail "g_val2l")
local macro_rules | `(tactic| walk_at "g_val2") => `(tactic| first
  | ((with_reducible refine' Hf.i_cntL ?k1 ?k2 ?k3 ?_); (case k1 => walk_at "g_lk"); (case k2 => walk_at "g_lk"); (case k3 => assumption))
  | ((with_reducible refine' Hf.i_inL ?k1 ?k2 ?k3 ?_); (case k1 => walk_at "g_lk"); (case k2 => walk_at "g_lk"); (case k3 => assumption))
  | fail "cntL")
local macro_rules | `(tactic| walk_at "g_val2") => `(tactic| first
  | (with_reducible refine' Hf.i_revRg ?_)
  | ((with_reducible refine' Hf.i_revRg' ?k1 ?k2 ?k3 ?k4 ?_); (case k1 => omega); (case k2 => omega); (case k3 => omega); (case k4 => omega))
  | fail "g_val2rv")

section
variable {P : Program} {w : World} {K : PySem.W.Frag} {mg : Str → Option Value} {base : Heap}
def topS (i : Nat) : Stmt := PySem.Challenge.pw_hostfields_k32_whole_no_plan_does_better.main.body.getD i (.Pass ⟨0, 0, 0, 0⟩)
abbrev s_NoBattle_init : Stmt := inClass (topS 2) 0
abbrev s_is_number : Stmt := topS 8
abbrev s_are_numbers : Stmt := topS 9
abbrev s_is_rule : Stmt := topS 10
abbrev s_is_field : Stmt := topS 11
abbrev s_look_battle : Stmt := topS 12
abbrev s_paid : Stmt := topS 13
abbrev s_is_plan : Stmt := topS 14
abbrev s_won : Stmt := topS 15
abbrev s_gain : Stmt := topS 16
abbrev s_is_row : Stmt := topS 18
abbrev s_is_stream : Stmt := topS 19
abbrev s_must_be_side : Stmt := topS 22
abbrev s_dues : Stmt := topS 23
abbrev s_goings_on : Stmt := topS 24
abbrev s_is_table : Stmt := topS 25
abbrev s_wrong_number : Stmt := topS 26
abbrev s_judged : Stmt := topS 27
abbrev s_l_mix : Stmt := topS 29
abbrev s_l_cell_at : Stmt := topS 30
abbrev s_l_left : Stmt := topS 31
abbrev s_l_draw : Stmt := topS 32
abbrev s_l_some : Stmt := topS 33
abbrev s_l_rule : Stmt := topS 34
abbrev s_l_battle : Stmt := topS 35
abbrev s_l_paid : Stmt := topS 37
abbrev s_l_plan : Stmt := topS 38
abbrev s_l_flows : Stmt := topS 39
abbrev s_l_lowest : Stmt := topS 40
abbrev s_l_dues : Stmt := topS 41
abbrev s_l_comes : Stmt := topS 42
abbrev s_l_table : Stmt := topS 43
abbrev s_l_all_plans : Stmt := topS 44
abbrev s_l_brought : Stmt := topS 45
abbrev s_l_tables : Stmt := topS 46
abbrev s_law : Stmt := topS 47
theorem sc_NoBattle_init : FnScope ["self", "field"] ["self", "field"] (defScope s_NoBattle_init) := ⟨rfl, rfl, rfl, by decide +kernel, rfl, by decide +kernel, by decide +kernel⟩
theorem sc_is_number : FnScope ["thing"] ["thing"] (defScope s_is_number) := ⟨rfl, rfl, rfl, by decide +kernel, rfl, by decide +kernel, by decide +kernel⟩
theorem sc_are_numbers : FnScope ["thing", "many", "number"] ["thing", "many"] (defScope s_are_numbers) := ⟨rfl, rfl, rfl, by decide +kernel, rfl, by decide +kernel, by decide +kernel⟩
theorem sc_is_rule : FnScope ["field"] ["field"] (defScope s_is_rule) := ⟨rfl, rfl, rfl, by decide +kernel, rfl, by decide +kernel, by decide +kernel⟩
theorem sc_is_field : FnScope ["field", "first", "second", "row"] ["field", "first", "second"] (defScope s_is_field) := ⟨rfl, rfl, rfl, by decide +kernel, rfl, by decide +kernel, by decide +kernel⟩
theorem sc_look_battle : FnScope ["battle", "first", "second", "fields", "k"] ["battle"] (defScope s_look_battle) := ⟨rfl, rfl, rfl, by decide +kernel, rfl, by decide +kernel, by decide +kernel⟩
theorem sc_paid : FnScope ["field", "x", "y"] ["field", "x", "y"] (defScope s_paid) := ⟨rfl, rfl, rfl, by decide +kernel, rfl, by decide +kernel, by decide +kernel⟩
theorem sc_is_plan : FnScope ["hosts", "many", "plan"] ["hosts", "many", "plan"] (defScope s_is_plan) := ⟨rfl, rfl, rfl, by decide +kernel, rfl, by decide +kernel, by decide +kernel⟩
theorem sc_won : FnScope ["battle", "one", "other", "k"] ["battle", "one", "other"] (defScope s_won) := ⟨rfl, rfl, rfl, by decide +kernel, rfl, by decide +kernel, by decide +kernel⟩
theorem sc_gain : FnScope ["battle", "one", "other", "many"] ["battle", "one", "other"] (defScope s_gain) := ⟨rfl, rfl, rfl, by decide +kernel, rfl, by decide +kernel, by decide +kernel⟩
theorem sc_is_row : FnScope ["row", "hosts", "part", "left", "sent", "flow", "k", "one"] ["row", "hosts"] (defScope s_is_row) := ⟨rfl, rfl, rfl, by decide +kernel, rfl, by decide +kernel, by decide +kernel⟩
theorem sc_is_stream : FnScope ["hosts", "fields", "stream", "come", "row", "taken", "gone", "left", "sent", "flow"] ["hosts", "fields", "stream"] (defScope s_is_stream) := ⟨rfl, rfl, rfl, by decide +kernel, rfl, by decide +kernel, by decide +kernel⟩
theorem sc_must_be_side : FnScope ["side"] ["side"] (defScope s_must_be_side) := ⟨rfl, rfl, rfl, by decide +kernel, rfl, by decide +kernel, by decide +kernel⟩
theorem sc_dues : FnScope ["battle", "side", "stream", "first", "second", "fields", "found", "k", "some", "y", "x", "left", "sent", "flow"] ["battle", "side", "stream"] (defScope s_dues) := ⟨rfl, rfl, rfl, by decide +kernel, rfl, by decide +kernel, by decide +kernel⟩
theorem sc_goings_on : FnScope ["due", "table", "k", "left", "sent"] ["due", "table", "k", "left"] (defScope s_goings_on) := ⟨rfl, rfl, rfl, by decide +kernel, rfl, by decide +kernel, by decide +kernel⟩
theorem sc_is_table : FnScope ["table", "fields", "hosts", "row"] ["table", "fields", "hosts"] (defScope s_is_table) := ⟨rfl, rfl, rfl, by decide +kernel, rfl, by decide +kernel, by decide +kernel⟩
theorem sc_wrong_number : FnScope ["due", "table", "side", "k", "left", "some"] ["due", "table", "side"] (defScope s_wrong_number) := ⟨rfl, rfl, rfl, by decide +kernel, rfl, by decide +kernel, by decide +kernel⟩
theorem sc_judged : FnScope ["battle", "side", "worth", "paper", "stream", "table", "own", "other", "wrong", "due", "shown", "left", "sent", "flow"] ["battle", "side", "worth", "paper"] (defScope s_judged) := ⟨rfl, rfl, rfl, by decide +kernel, rfl, by decide +kernel, by decide +kernel⟩
theorem sc_l_mix : FnScope ["_law_number", "_law_k", "_law_mixed"] ["_law_number", "_law_k"] (defScope s_l_mix) := ⟨rfl, rfl, rfl, by decide +kernel, rfl, by decide +kernel, by decide +kernel⟩
theorem sc_l_cell_at : FnScope ["_law_script", "_law_k"] ["_law_script", "_law_k"] (defScope s_l_cell_at) := ⟨rfl, rfl, rfl, by decide +kernel, rfl, by decide +kernel, by decide +kernel⟩
theorem sc_l_left : FnScope ["_law_script", "_law_k", "_law_cell"] ["_law_script", "_law_k"] (defScope s_l_left) := ⟨rfl, rfl, rfl, by decide +kernel, rfl, by decide +kernel, by decide +kernel⟩
theorem sc_l_draw : FnScope ["_law_left_here", "_law_base", "_law_mixed", "_law_digit"] ["_law_left_here", "_law_base"] (defScope s_l_draw) := ⟨rfl, rfl, rfl, by decide +kernel, rfl, by decide +kernel, by decide +kernel⟩
theorem sc_l_some : FnScope ["_law_left_here", "_law_far"] ["_law_left_here"] (defScope s_l_some) := ⟨rfl, rfl, rfl, by decide +kernel, rfl, by decide +kernel, by decide +kernel⟩
theorem sc_l_rule : FnScope ["_law_left_here", "_law_first", "_law_second", "_law_kind", "_law_worth", "_law_x", "_law_y"] ["_law_left_here", "_law_first", "_law_second"] (defScope s_l_rule) := ⟨rfl, rfl, rfl, by decide +kernel, rfl, by decide +kernel, by decide +kernel⟩
theorem sc_l_battle : FnScope ["_law_left_here", "_law_most", "_law_fields", "_law_first", "_law_second", "_law_k"] ["_law_left_here", "_law_most", "_law_fields"] (defScope s_l_battle) := ⟨rfl, rfl, rfl, by decide +kernel, rfl, by decide +kernel, by decide +kernel⟩
theorem sc_l_paid : FnScope ["_law_field", "_law_x", "_law_y"] ["_law_field", "_law_x", "_law_y"] (defScope s_l_paid) := ⟨rfl, rfl, rfl, by decide +kernel, rfl, by decide +kernel, by decide +kernel⟩
theorem sc_l_plan : FnScope ["_law_left_here", "_law_hosts", "_law_many", "_law_plan_here", "_law_rest", "_law_k", "_law_at"] ["_law_left_here", "_law_hosts", "_law_many"] (defScope s_l_plan) := ⟨rfl, rfl, rfl, by decide +kernel, rfl, by decide +kernel, by decide +kernel⟩
theorem sc_l_flows : FnScope ["_law_mix_here", "_law_flows_here", "_law_plan_here", "_law_weight", "_law_k", "_law_spot", "_law_place", "_law_flow", "_law_rest", "_law_sent"] ["_law_mix_here"] (defScope s_l_flows) := ⟨rfl, rfl, rfl, by decide +kernel, rfl, by decide +kernel, by decide +kernel⟩
theorem sc_l_lowest : FnScope ["_law_top", "_law_bottom", "_law_one", "_law_other"] ["_law_top", "_law_bottom"] (defScope s_l_lowest) := ⟨rfl, rfl, rfl, by decide +kernel, rfl, by decide +kernel, by decide +kernel⟩
theorem sc_l_dues : FnScope ["_law_battle_here", "_law_side", "_law_stream", "_law_found", "_law_k", "_law_some_here", "_law_count", "_law_total", "_law_rest", "_law_sent", "_law_flow", "_law_x", "_law_y"] ["_law_battle_here", "_law_side", "_law_stream"] (defScope s_l_dues) := ⟨rfl, rfl, rfl, by decide +kernel, rfl, by decide +kernel, by decide +kernel⟩
theorem sc_l_comes : FnScope ["_law_owed", "_law_table_here", "_law_k", "_law_rest", "_law_sent"] ["_law_owed", "_law_table_here", "_law_k", "_law_rest"] (defScope s_l_comes) := ⟨rfl, rfl, rfl, by decide +kernel, rfl, by decide +kernel, by decide +kernel⟩
theorem sc_l_table : FnScope ["_law_battle_here", "_law_side", "_law_stream", "_law_owed", "_law_table_here", "_law_k", "_law_rest", "_law_some_here", "_law_row"] ["_law_battle_here", "_law_side", "_law_stream"] (defScope s_l_table) := ⟨rfl, rfl, rfl, by decide +kernel, rfl, by decide +kernel, by decide +kernel⟩
theorem sc_l_all_plans : FnScope ["_law_hosts", "_law_many", "_law_found", "_law_sent", "_law_rest"] ["_law_hosts", "_law_many"] (defScope s_l_all_plans) := ⟨rfl, rfl, rfl, by decide +kernel, rfl, by decide +kernel, by decide +kernel⟩
theorem sc_l_brought : FnScope ["_law_battle_here", "_law_side", "_law_mix_here", "_law_found", "_law_plan_here", "_law_total", "_law_one", "_law_weight", "_law_x", "_law_y"] ["_law_battle_here", "_law_side", "_law_mix_here"] (defScope s_l_brought) := ⟨rfl, rfl, rfl, by decide +kernel, rfl, by decide +kernel, by decide +kernel⟩
theorem sc_l_tables : FnScope ["_law_left_here", "_law_battle_here", "_law_side", "_law_stream", "_law_table_here", "_law_loose", "_law_drawn", "_law_tight", "_law_k", "_law_row", "_law_number"] ["_law_left_here", "_law_battle_here", "_law_side", "_law_stream"] (defScope s_l_tables) := ⟨rfl, rfl, rfl, by decide +kernel, rfl, by decide +kernel, by decide +kernel⟩
theorem sc_law : FnScope ["_law_script", "_law_cell", "_law_left_here", "_law_battle_here", "_law_side", "_law_mix_here", "_law_k", "_law_plan_here", "_law_stream", "_law_whole", "_law_best", "_law_tables_here", "_law_word", "_law_table_here", "_law_more", "_law_worth", "_law_weight"] ["_law_script"] (defScope s_law) := ⟨rfl, rfl, rfl, by decide +kernel, rfl, by decide +kernel, by decide +kernel⟩
structure Txt (K : PySem.W.Frag) (mg : Str → Option Value) where
  a_NoBattle_init : Addr
  d_NoBattle_init : FuncData
  F_NoBattle_init : Fun K "__init__" "NoBattle.__init__" s_NoBattle_init a_NoBattle_init d_NoBattle_init
  b_NoBattle_init : Binds K d_NoBattle_init ["self", "field"] []
  a_is_number : Addr
  d_is_number : FuncData
  F_is_number : Fun K "is_number" "is_number" s_is_number a_is_number d_is_number
  g_is_number : mg "is_number" = some (.ref a_is_number)
  b_is_number : Binds K d_is_number ["thing"] []
  a_are_numbers : Addr
  d_are_numbers : FuncData
  F_are_numbers : Fun K "are_numbers" "are_numbers" s_are_numbers a_are_numbers d_are_numbers
  g_are_numbers : mg "are_numbers" = some (.ref a_are_numbers)
  b_are_numbers : Binds K d_are_numbers ["thing", "many"] []
  a_is_rule : Addr
  d_is_rule : FuncData
  F_is_rule : Fun K "is_rule" "is_rule" s_is_rule a_is_rule d_is_rule
  g_is_rule : mg "is_rule" = some (.ref a_is_rule)
  b_is_rule : Binds K d_is_rule ["field"] []
  a_is_field : Addr
  d_is_field : FuncData
  F_is_field : Fun K "is_field" "is_field" s_is_field a_is_field d_is_field
  g_is_field : mg "is_field" = some (.ref a_is_field)
  b_is_field : Binds K d_is_field ["field", "first", "second"] []
  a_look_battle : Addr
  d_look_battle : FuncData
  F_look_battle : Fun K "look_battle" "look_battle" s_look_battle a_look_battle d_look_battle
  g_look_battle : mg "look_battle" = some (.ref a_look_battle)
  b_look_battle : Binds K d_look_battle ["battle"] []
  a_paid : Addr
  d_paid : FuncData
  F_paid : Fun K "paid" "paid" s_paid a_paid d_paid
  g_paid : mg "paid" = some (.ref a_paid)
  b_paid : Binds K d_paid ["field", "x", "y"] []
  a_is_plan : Addr
  d_is_plan : FuncData
  F_is_plan : Fun K "is_plan" "is_plan" s_is_plan a_is_plan d_is_plan
  g_is_plan : mg "is_plan" = some (.ref a_is_plan)
  b_is_plan : Binds K d_is_plan ["hosts", "many", "plan"] []
  a_won : Addr
  d_won : FuncData
  F_won : Fun K "won" "won" s_won a_won d_won
  g_won : mg "won" = some (.ref a_won)
  b_won : Binds K d_won ["battle", "one", "other"] []
  a_gain : Addr
  d_gain : FuncData
  F_gain : Fun K "gain" "gain" s_gain a_gain d_gain
  g_gain : mg "gain" = some (.ref a_gain)
  b_gain : Binds K d_gain ["battle", "one", "other"] []
  a_is_row : Addr
  d_is_row : FuncData
  F_is_row : Fun K "is_row" "is_row" s_is_row a_is_row d_is_row
  g_is_row : mg "is_row" = some (.ref a_is_row)
  b_is_row : Binds K d_is_row ["row", "hosts"] []
  a_is_stream : Addr
  d_is_stream : FuncData
  F_is_stream : Fun K "is_stream" "is_stream" s_is_stream a_is_stream d_is_stream
  g_is_stream : mg "is_stream" = some (.ref a_is_stream)
  b_is_stream : Binds K d_is_stream ["hosts", "fields", "stream"] []
  a_must_be_side : Addr
  d_must_be_side : FuncData
  F_must_be_side : Fun K "must_be_side" "must_be_side" s_must_be_side a_must_be_side d_must_be_side
  g_must_be_side : mg "must_be_side" = some (.ref a_must_be_side)
  b_must_be_side : Binds K d_must_be_side ["side"] []
  a_dues : Addr
  d_dues : FuncData
  F_dues : Fun K "dues" "dues" s_dues a_dues d_dues
  g_dues : mg "dues" = some (.ref a_dues)
  b_dues : Binds K d_dues ["battle", "side", "stream"] []
  a_goings_on : Addr
  d_goings_on : FuncData
  F_goings_on : Fun K "goings_on" "goings_on" s_goings_on a_goings_on d_goings_on
  g_goings_on : mg "goings_on" = some (.ref a_goings_on)
  b_goings_on : Binds K d_goings_on ["due", "table", "k", "left"] []
  a_is_table : Addr
  d_is_table : FuncData
  F_is_table : Fun K "is_table" "is_table" s_is_table a_is_table d_is_table
  g_is_table : mg "is_table" = some (.ref a_is_table)
  b_is_table : Binds K d_is_table ["table", "fields", "hosts"] []
  a_wrong_number : Addr
  d_wrong_number : FuncData
  F_wrong_number : Fun K "wrong_number" "wrong_number" s_wrong_number a_wrong_number d_wrong_number
  g_wrong_number : mg "wrong_number" = some (.ref a_wrong_number)
  b_wrong_number : Binds K d_wrong_number ["due", "table", "side"] []
  a_judged : Addr
  d_judged : FuncData
  F_judged : Fun K "judged" "judged" s_judged a_judged d_judged
  g_judged : mg "judged" = some (.ref a_judged)
  b_judged : Binds K d_judged ["battle", "side", "worth", "paper"] []
  a_l_mix : Addr
  d_l_mix : FuncData
  F_l_mix : Fun K "_law_mix" "_law_mix" s_l_mix a_l_mix d_l_mix
  g_l_mix : mg "_law_mix" = some (.ref a_l_mix)
  b_l_mix : Binds K d_l_mix ["_law_number", "_law_k"] []
  a_l_cell_at : Addr
  d_l_cell_at : FuncData
  F_l_cell_at : Fun K "_law_cell_at" "_law_cell_at" s_l_cell_at a_l_cell_at d_l_cell_at
  g_l_cell_at : mg "_law_cell_at" = some (.ref a_l_cell_at)
  b_l_cell_at : Binds K d_l_cell_at ["_law_script", "_law_k"] []
  a_l_left : Addr
  d_l_left : FuncData
  F_l_left : Fun K "_law_left" "_law_left" s_l_left a_l_left d_l_left
  g_l_left : mg "_law_left" = some (.ref a_l_left)
  b_l_left : Binds K d_l_left ["_law_script", "_law_k"] []
  a_l_draw : Addr
  d_l_draw : FuncData
  F_l_draw : Fun K "_law_draw" "_law_draw" s_l_draw a_l_draw d_l_draw
  g_l_draw : mg "_law_draw" = some (.ref a_l_draw)
  b_l_draw : Binds K d_l_draw ["_law_left_here", "_law_base"] []
  a_l_some : Addr
  d_l_some : FuncData
  F_l_some : Fun K "_law_some" "_law_some" s_l_some a_l_some d_l_some
  g_l_some : mg "_law_some" = some (.ref a_l_some)
  b_l_some : Binds K d_l_some ["_law_left_here"] []
  a_l_rule : Addr
  d_l_rule : FuncData
  F_l_rule : Fun K "_law_rule" "_law_rule" s_l_rule a_l_rule d_l_rule
  g_l_rule : mg "_law_rule" = some (.ref a_l_rule)
  b_l_rule : Binds K d_l_rule ["_law_left_here", "_law_first", "_law_second"] []
  a_l_battle : Addr
  d_l_battle : FuncData
  F_l_battle : Fun K "_law_battle" "_law_battle" s_l_battle a_l_battle d_l_battle
  g_l_battle : mg "_law_battle" = some (.ref a_l_battle)
  b_l_battle : Binds K d_l_battle ["_law_left_here", "_law_most", "_law_fields"] []
  a_l_paid : Addr
  d_l_paid : FuncData
  F_l_paid : Fun K "_law_paid" "_law_paid" s_l_paid a_l_paid d_l_paid
  g_l_paid : mg "_law_paid" = some (.ref a_l_paid)
  b_l_paid : Binds K d_l_paid ["_law_field", "_law_x", "_law_y"] []
  a_l_plan : Addr
  d_l_plan : FuncData
  F_l_plan : Fun K "_law_plan" "_law_plan" s_l_plan a_l_plan d_l_plan
  g_l_plan : mg "_law_plan" = some (.ref a_l_plan)
  b_l_plan : Binds K d_l_plan ["_law_left_here", "_law_hosts", "_law_many"] []
  a_l_flows : Addr
  d_l_flows : FuncData
  F_l_flows : Fun K "_law_flows" "_law_flows" s_l_flows a_l_flows d_l_flows
  g_l_flows : mg "_law_flows" = some (.ref a_l_flows)
  b_l_flows : Binds K d_l_flows ["_law_mix_here"] []
  a_l_lowest : Addr
  d_l_lowest : FuncData
  F_l_lowest : Fun K "_law_lowest" "_law_lowest" s_l_lowest a_l_lowest d_l_lowest
  g_l_lowest : mg "_law_lowest" = some (.ref a_l_lowest)
  b_l_lowest : Binds K d_l_lowest ["_law_top", "_law_bottom"] []
  a_l_dues : Addr
  d_l_dues : FuncData
  F_l_dues : Fun K "_law_dues" "_law_dues" s_l_dues a_l_dues d_l_dues
  g_l_dues : mg "_law_dues" = some (.ref a_l_dues)
  b_l_dues : Binds K d_l_dues ["_law_battle_here", "_law_side", "_law_stream"] []
  a_l_comes : Addr
  d_l_comes : FuncData
  F_l_comes : Fun K "_law_comes" "_law_comes" s_l_comes a_l_comes d_l_comes
  g_l_comes : mg "_law_comes" = some (.ref a_l_comes)
  b_l_comes : Binds K d_l_comes ["_law_owed", "_law_table_here", "_law_k", "_law_rest"] []
  a_l_table : Addr
  d_l_table : FuncData
  F_l_table : Fun K "_law_table" "_law_table" s_l_table a_l_table d_l_table
  g_l_table : mg "_law_table" = some (.ref a_l_table)
  b_l_table : Binds K d_l_table ["_law_battle_here", "_law_side", "_law_stream"] []
  a_l_all_plans : Addr
  d_l_all_plans : FuncData
  F_l_all_plans : Fun K "_law_all_plans" "_law_all_plans" s_l_all_plans a_l_all_plans d_l_all_plans
  g_l_all_plans : mg "_law_all_plans" = some (.ref a_l_all_plans)
  b_l_all_plans : Binds K d_l_all_plans ["_law_hosts", "_law_many"] []
  a_l_brought : Addr
  d_l_brought : FuncData
  F_l_brought : Fun K "_law_brought" "_law_brought" s_l_brought a_l_brought d_l_brought
  g_l_brought : mg "_law_brought" = some (.ref a_l_brought)
  b_l_brought : Binds K d_l_brought ["_law_battle_here", "_law_side", "_law_mix_here"] []
  a_l_tables : Addr
  d_l_tables : FuncData
  F_l_tables : Fun K "_law_tables" "_law_tables" s_l_tables a_l_tables d_l_tables
  g_l_tables : mg "_law_tables" = some (.ref a_l_tables)
  b_l_tables : Binds K d_l_tables ["_law_left_here", "_law_battle_here", "_law_side", "_law_stream"] []
  a_law : Addr
  d_law : FuncData
  F_law : Fun K "law" "law" s_law a_law d_law
  g_law : mg "law" = some (.ref a_law)
  b_law : Binds K d_law ["_law_script"] []
  z_bool : mg "bool" = none
  z_int : mg "int" = none
  z_isinstance : mg "isinstance" = none
  z_len : mg "len" = none
  z_list : mg "list" = none
  z_max : mg "max" = none
  z_min : mg "min" = none
  z_range : mg "range" = none
  z_reversed : mg "reversed" = none
  z_sorted : mg "sorted" = none
  z_sum : mg "sum" = none
  z_tuple : mg "tuple" = none
  t_MOST_HOSTS : Tok
  c_MOST_HOSTS : mg "MOST_HOSTS" = some (.int 10 t_MOST_HOSTS)
  t_MOST_FIELDS : Tok
  c_MOST_FIELDS : mg "MOST_FIELDS" = some (.int 5 t_MOST_FIELDS)
  e_SIDES : Addr
  c_SIDES : mg "SIDES" = some (.ref e_SIDES)
  q_SIDES : ∃ (o : Obj) (its : Array Value) (n : Nat), K.lookup e_SIDES = some o ∧ o.cls = .type "list" ∧ o.dict = none ∧ o.data = .seq its n ∧ its.size ≤ sizeLine ∧ Vals [.str (PySem.Str.ofString "first"), .str (PySem.Str.ofString "second")] its.toList
  e_HostError : Addr
  g_HostError : mg "HostError" = some (.ref e_HostError)
  i_HostError : PySem.W.isClsIn K e_HostError = true
  t_HostError : PySem.W.typeIn K (.ref e_HostError) = some (.type "type")
  y_HostError : PySem.W.subIn K (.ref e_HostError) (.type "BaseException") = some true
  e_NoBattle : Addr
  g_NoBattle : mg "NoBattle" = some (.ref e_NoBattle)
  i_NoBattle : PySem.W.isClsIn K e_NoBattle = true
  t_NoBattle : PySem.W.typeIn K (.ref e_NoBattle) = some (.type "type")
  y_NoBattle : PySem.W.subIn K (.ref e_NoBattle) (.type "BaseException") = some true
  e_NoPlan : Addr
  g_NoPlan : mg "NoPlan" = some (.ref e_NoPlan)
  i_NoPlan : PySem.W.isClsIn K e_NoPlan = true
  t_NoPlan : PySem.W.typeIn K (.ref e_NoPlan) = some (.type "type")
  y_NoPlan : PySem.W.subIn K (.ref e_NoPlan) (.type "BaseException") = some true
  e_NoSide : Addr
  g_NoSide : mg "NoSide" = some (.ref e_NoSide)
  i_NoSide : PySem.W.isClsIn K e_NoSide = true
  t_NoSide : PySem.W.typeIn K (.ref e_NoSide) = some (.type "type")
  y_NoSide : PySem.W.subIn K (.ref e_NoSide) (.type "BaseException") = some true
  x_NoPlan : PySem.W.excIn K e_NoPlan [.type "ValueError", .type "Exception", .type "BaseException", .type "object"] "ValueError.__new__" = true
  k_NoPlan : PySem.W.keepIn K (.ref e_NoPlan) = true
  hg_NoPlan : PySem.W.findIn K (.ref e_NoPlan) "__getattribute__" = some (some (.builtin "BaseException.__getattribute__"))
  hk_NoPlan : PySem.W.findIn K (.ref e_NoPlan) "__getattr__" = some none
  hd_NoPlan : PySem.W.hasDictIn K e_NoPlan = true
  ha_NoPlan : PySem.W.findIn K (.ref e_NoPlan) "__class__" = some (some (.builtin "object.__class__"))
  hm_NoPlan : PySem.W.mroIn K e_NoPlan (.type "object") = some true
  v_NoPlan : PySem.W.subIn K (.ref e_NoPlan) (.type "ValueError") = some true
  s_NoPlan_HostError : PySem.W.subIn K (.ref e_NoPlan) (.ref e_HostError) = some true
  s_NoPlan_NoBattle : PySem.W.subIn K (.ref e_NoPlan) (.ref e_NoBattle) = some false
  s_NoPlan_NoPlan : PySem.W.subIn K (.ref e_NoPlan) (.ref e_NoPlan) = some true
  s_NoPlan_NoSide : PySem.W.subIn K (.ref e_NoPlan) (.ref e_NoSide) = some false
  x_NoSide : PySem.W.excIn K e_NoSide [.type "ValueError", .type "Exception", .type "BaseException", .type "object"] "ValueError.__new__" = true
  k_NoSide : PySem.W.keepIn K (.ref e_NoSide) = true
  hg_NoSide : PySem.W.findIn K (.ref e_NoSide) "__getattribute__" = some (some (.builtin "BaseException.__getattribute__"))
  hk_NoSide : PySem.W.findIn K (.ref e_NoSide) "__getattr__" = some none
  hd_NoSide : PySem.W.hasDictIn K e_NoSide = true
  ha_NoSide : PySem.W.findIn K (.ref e_NoSide) "__class__" = some (some (.builtin "object.__class__"))
  hm_NoSide : PySem.W.mroIn K e_NoSide (.type "object") = some true
  v_NoSide : PySem.W.subIn K (.ref e_NoSide) (.type "ValueError") = some true
  s_NoSide_HostError : PySem.W.subIn K (.ref e_NoSide) (.ref e_HostError) = some true
  s_NoSide_NoBattle : PySem.W.subIn K (.ref e_NoSide) (.ref e_NoBattle) = some false
  s_NoSide_NoPlan : PySem.W.subIn K (.ref e_NoSide) (.ref e_NoPlan) = some false
  s_NoSide_NoSide : PySem.W.subIn K (.ref e_NoSide) (.ref e_NoSide) = some true
  oc_NoBattle : ∃ nm q N bs bm sn sub ab col dd k0 k1 k2 k3 k5, K.lookup e_NoBattle = some (excClassObj nm q e_NoBattle N bs bm true sn sub ab col dd k0 k1 k2 k3 k5 "ValueError.__new__") ∧ PySem.HandSPX.refsVE bm = true
  sa_NoBattle : PySem.W.findIn K (.ref e_NoBattle) "__setattr__" = some (some (.builtin "object.__setattr__"))
  ic_NoBattle : PySem.W.findIn K (.ref e_NoBattle) "__init__" = some (some (.ref a_NoBattle_init))
  ti_NoBattle : PySem.W.typeIn K (.ref a_NoBattle_init) = some (.type "function")
  no_NoBattle_field : PySem.W.findIn K (.ref e_NoBattle) "field" = some none
  rd_HostError : PySem.W.readsIn K e_HostError (.type "type") = true
  ga_HostError : PySem.W.specialIn K (.ref e_HostError) "__getattribute__" = some (some (.builtin "type.__getattribute__"))
  fc_HostError : PySem.W.findCls K (.ref e_HostError) (.type "type") "__init__" = some (.val (.builtin "ValueError.__init__"))
  k_NoBattle : PySem.W.keepIn K (.ref e_NoBattle) = true
  hg_NoBattle : PySem.W.findIn K (.ref e_NoBattle) "__getattribute__" = some (some (.builtin "BaseException.__getattribute__"))
  hk_NoBattle : PySem.W.findIn K (.ref e_NoBattle) "__getattr__" = some none
  hd_NoBattle : PySem.W.hasDictIn K e_NoBattle = true
  ha_NoBattle : PySem.W.findIn K (.ref e_NoBattle) "__class__" = some (some (.builtin "object.__class__"))
  hm_NoBattle : PySem.W.mroIn K e_NoBattle (.type "object") = some true
  v_NoBattle : PySem.W.subIn K (.ref e_NoBattle) (.type "ValueError") = some true
  s_NoBattle_HostError : PySem.W.subIn K (.ref e_NoBattle) (.ref e_HostError) = some true
  s_NoBattle_NoBattle : PySem.W.subIn K (.ref e_NoBattle) (.ref e_NoBattle) = some true
  s_NoBattle_NoPlan : PySem.W.subIn K (.ref e_NoBattle) (.ref e_NoPlan) = some false
  s_NoBattle_NoSide : PySem.W.subIn K (.ref e_NoBattle) (.ref e_NoSide) = some false
  ho_n : PySem.W.specialIn K (.builtin "object.__class__") "__get__" = some (some (.builtin "getset_descriptor.__get__"))
  ho_t : PySem.W.takesIn K (.builtin "object.__class__") = some true
theorem Txt.Q_SIDES {K : PySem.W.Frag} {mg : Str → Option Value} (T : Txt K mg) (H : Hp) : SqL K H T.e_SIDES [.str (PySem.Str.ofString "first"), .str (PySem.Str.ofString "second")] := .inr T.q_SIDES
local macro_rules | `(tactic| walk_at "g_sq") => `(tactic| first | (with_reducible exact Txt.Q_SIDES _ _))
section
variable {K : PySem.W.Frag} {mg : Str → Option Value} (T : Txt K mg)
include T
theorem Txt.O_NoBattle : OexC K T.e_NoBattle := ⟨T.oc_NoBattle, T.sa_NoBattle, T.y_NoBattle, T.t_NoBattle, T.k_NoBattle⟩
theorem cl_HostError : ClsT K T.e_HostError := ⟨T.i_HostError, T.t_HostError⟩
theorem cl_NoBattle : ClsT K T.e_NoBattle := ⟨T.i_NoBattle, T.t_NoBattle⟩
theorem cl_NoPlan : ClsT K T.e_NoPlan := ⟨T.i_NoPlan, T.t_NoPlan⟩
theorem cl_NoSide : ClsT K T.e_NoSide := ⟨T.i_NoSide, T.t_NoSide⟩
theorem exc_NoPlan : L2.ExcC K T.e_NoPlan := ⟨T.hg_NoPlan, T.hk_NoPlan, T.y_NoPlan, T.hd_NoPlan, T.ha_NoPlan, T.ho_n, T.ho_t, T.hm_NoPlan⟩
theorem kit_NoPlan_ValueError : PySem.W.kitOne K (.ref T.e_NoPlan) (.type "ValueError") = some true := kit_v T.v_NoPlan (by decide +kernel)
theorem kit_NoPlan_HostError : PySem.W.kitOne K (.ref T.e_NoPlan) (.ref T.e_HostError) = some true := kit_t (cl_HostError T) T.s_NoPlan_HostError
theorem exm_NoPlan_HostError : PySem.W.exmOne K (.ref T.e_NoPlan) (.ref T.e_HostError) = some true := exm_t (cl_HostError T) T.y_HostError T.s_NoPlan_HostError
theorem kit_NoPlan_NoBattle : PySem.W.kitOne K (.ref T.e_NoPlan) (.ref T.e_NoBattle) = some false := kit_f (cl_NoBattle T) T.s_NoPlan_NoPlan T.s_NoPlan_NoBattle
theorem kit_NoPlan_NoPlan : PySem.W.kitOne K (.ref T.e_NoPlan) (.ref T.e_NoPlan) = some true := kit_t (cl_NoPlan T) T.s_NoPlan_NoPlan
theorem exm_NoPlan_NoPlan : PySem.W.exmOne K (.ref T.e_NoPlan) (.ref T.e_NoPlan) = some true := exm_t (cl_NoPlan T) T.y_NoPlan T.s_NoPlan_NoPlan
theorem kit_NoPlan_NoSide : PySem.W.kitOne K (.ref T.e_NoPlan) (.ref T.e_NoSide) = some false := kit_f (cl_NoSide T) T.s_NoPlan_NoPlan T.s_NoPlan_NoSide
theorem exc_NoSide : L2.ExcC K T.e_NoSide := ⟨T.hg_NoSide, T.hk_NoSide, T.y_NoSide, T.hd_NoSide, T.ha_NoSide, T.ho_n, T.ho_t, T.hm_NoSide⟩
theorem kit_NoSide_ValueError : PySem.W.kitOne K (.ref T.e_NoSide) (.type "ValueError") = some true := kit_v T.v_NoSide (by decide +kernel)
theorem kit_NoSide_HostError : PySem.W.kitOne K (.ref T.e_NoSide) (.ref T.e_HostError) = some true := kit_t (cl_HostError T) T.s_NoSide_HostError
theorem exm_NoSide_HostError : PySem.W.exmOne K (.ref T.e_NoSide) (.ref T.e_HostError) = some true := exm_t (cl_HostError T) T.y_HostError T.s_NoSide_HostError
theorem kit_NoSide_NoBattle : PySem.W.kitOne K (.ref T.e_NoSide) (.ref T.e_NoBattle) = some false := kit_f (cl_NoBattle T) T.s_NoSide_NoSide T.s_NoSide_NoBattle
theorem kit_NoSide_NoPlan : PySem.W.kitOne K (.ref T.e_NoSide) (.ref T.e_NoPlan) = some false := kit_f (cl_NoPlan T) T.s_NoSide_NoSide T.s_NoSide_NoPlan
theorem kit_NoSide_NoSide : PySem.W.kitOne K (.ref T.e_NoSide) (.ref T.e_NoSide) = some true := kit_t (cl_NoSide T) T.s_NoSide_NoSide
theorem exm_NoSide_NoSide : PySem.W.exmOne K (.ref T.e_NoSide) (.ref T.e_NoSide) = some true := exm_t (cl_NoSide T) T.y_NoSide T.s_NoSide_NoSide
theorem exc_NoBattle : L2.ExcC K T.e_NoBattle := ⟨T.hg_NoBattle, T.hk_NoBattle, T.y_NoBattle, T.hd_NoBattle, T.ha_NoBattle, T.ho_n, T.ho_t, T.hm_NoBattle⟩
theorem kit_NoBattle_ValueError : PySem.W.kitOne K (.ref T.e_NoBattle) (.type "ValueError") = some true := kit_v T.v_NoBattle (by decide +kernel)
theorem kit_NoBattle_HostError : PySem.W.kitOne K (.ref T.e_NoBattle) (.ref T.e_HostError) = some true := kit_t (cl_HostError T) T.s_NoBattle_HostError
theorem exm_NoBattle_HostError : PySem.W.exmOne K (.ref T.e_NoBattle) (.ref T.e_HostError) = some true := exm_t (cl_HostError T) T.y_HostError T.s_NoBattle_HostError
theorem kit_NoBattle_NoBattle : PySem.W.kitOne K (.ref T.e_NoBattle) (.ref T.e_NoBattle) = some true := kit_t (cl_NoBattle T) T.s_NoBattle_NoBattle
theorem exm_NoBattle_NoBattle : PySem.W.exmOne K (.ref T.e_NoBattle) (.ref T.e_NoBattle) = some true := exm_t (cl_NoBattle T) T.y_NoBattle T.s_NoBattle_NoBattle
theorem kit_NoBattle_NoPlan : PySem.W.kitOne K (.ref T.e_NoBattle) (.ref T.e_NoPlan) = some false := kit_f (cl_NoPlan T) T.s_NoBattle_NoBattle T.s_NoBattle_NoPlan
theorem kit_NoBattle_NoSide : PySem.W.kitOne K (.ref T.e_NoBattle) (.ref T.e_NoSide) = some false := kit_f (cl_NoSide T) T.s_NoBattle_NoBattle T.s_NoBattle_NoSide
end
local macro_rules | `(tactic| walk_at "g_oex") => `(tactic| first | (with_reducible exact Txt.O_NoBattle _))
local macro_rules | `(tactic| walk_at "g_nof") => `(tactic| first | (with_reducible exact Txt.no_NoBattle_field _))
local macro_rules | `(tactic| walk_at "g_kit") => `(tactic| first | (with_reducible exact kit_NoPlan_ValueError _) | (with_reducible exact kit_NoPlan_HostError _) | (with_reducible exact kit_NoPlan_NoBattle _) | (with_reducible exact kit_NoPlan_NoPlan _) | (with_reducible exact kit_NoPlan_NoSide _) | (with_reducible exact kit_NoSide_ValueError _) | (with_reducible exact kit_NoSide_HostError _) | (with_reducible exact kit_NoSide_NoBattle _) | (with_reducible exact kit_NoSide_NoPlan _) | (with_reducible exact kit_NoSide_NoSide _) | (with_reducible exact kit_NoBattle_ValueError _) | (with_reducible exact kit_NoBattle_HostError _) | (with_reducible exact kit_NoBattle_NoBattle _) | (with_reducible exact kit_NoBattle_NoPlan _) | (with_reducible exact kit_NoBattle_NoSide _))
local macro_rules | `(tactic| walk_at "g_exc") => `(tactic| first | (with_reducible exact exc_NoPlan _) | (with_reducible exact exc_NoSide _) | (with_reducible exact exc_NoBattle _))
local macro_rules | `(tactic| walk_at "g_exm") => `(tactic| first | (with_reducible exact exm_NoPlan_HostError _) | (with_reducible exact exm_NoPlan_NoPlan _) | (with_reducible exact exm_NoSide_HostError _) | (with_reducible exact exm_NoSide_NoSide _) | (with_reducible exact exm_NoBattle_HostError _) | (with_reducible exact exm_NoBattle_NoBattle _))
local macro_rules | `(tactic| walk_at "g_clt") => `(tactic| first | (with_reducible exact cl_HostError _) | (with_reducible exact cl_NoBattle _) | (with_reducible exact cl_NoPlan _) | (with_reducible exact cl_NoSide _))
def sp_l_mix (K : PySem.W.Frag) : Sp := fun vs H Q E => ∃ (n c : Int), vs = [.int n, .int c] ∧ (0 ≤ n ∧ n < 2147483629) ∧ (0 ≤ c ∧ c ≤ 1000000) ∧ ∀ (r : Int), (0 ≤ r ∧ r < 2147483587) → Q (.int r) H
theorem use_l_mix {K : PySem.W.Frag} {H : Hp} {Q : VK} {E : XK} {n c : Int} (p0 : 0 ≤ n ∧ n < 2147483629) (p1 : 0 ≤ c ∧ c ≤ 1000000) (k : ∀ (r : Int), (0 ≤ r ∧ r < 2147483587) → Q (.int r) H) : sp_l_mix K [.int n, .int c] H Q E := ⟨n, c, rfl, p0, p1, k⟩
theorem len_l_mix {K : PySem.W.Frag} (vs : List V) (H : Hp) (Q : VK) (E : XK) (h : sp_l_mix K vs H Q E) : vs.length = ["_law_number", "_law_k"].length := by
  obtain ⟨_, _, rfl, _⟩ := h
  rfl
local macro_rules | `(tactic| walk_at "g_call") => `(tactic| ((with_reducible refine' use_l_mix ?c0 ?c1 ?_); (case c0 => walk_at "g_pre"); (case c1 => walk_at "g_pre"); intros))
theorem ok_l_mix (T : Txt K mg) : FnOk P w K mg base CX0 1 T.a_l_mix T.d_l_mix ["_law_number", "_law_k"] (sp_l_mix K) := by
  refine T.F_l_mix.ok sc_l_mix len_l_mix (fun cdv A outer s H vs Q E hr h => ?_)
  refine ⟨_, (pss_cons (ps_set (i := 2) sc_l_mix.nd rfl (Or.inl rfl) (pe_op op_mod (pe_op op_mulA (pe_op op_add (pe_op op_add (pe_op op_mulA (pv 0) (pv 0)) (pe_op op_mulA (pv 1) (pv 0))) (pe_op op_mulA (pe_op op_mulA pe_int (pv 1)) (pv 1))) pe_int) pe_int))
      (pss_one (ps_ret (pe_op op_mod (pe_op op_mulA (pv 2) (pv 2)) pe_int)))), ?_⟩
  try dsimp only [L2.cxOf, L2.Cx.nox, L2.Cx.wish, List.map_cons, List.map_nil]
  obtain ⟨n, c, rfl, p0, p1, k⟩ := h
  refine start_to (σ := [some _, some _, none]) rfl ?_
  walk_at "go"
  refine k _ ?_
  omega
def sp_l_cell_at (K : PySem.W.Frag) : Sp := fun vs H Q E => ∃ (a : Addr) (z : Int), vs = [.ref a, .int 0] ∧ (H a = some (.lst [.int z])) ∧ Q (.int z) H
theorem use_l_cell_at {K : PySem.W.Frag} {H : Hp} {Q : VK} {E : XK} {a : Addr} {z : Int} (p0 : H a = some (.lst [.int z])) (k : Q (.int z) H) : sp_l_cell_at K [.ref a, .int 0] H Q E := ⟨a, z, rfl, p0, k⟩
theorem len_l_cell_at {K : PySem.W.Frag} (vs : List V) (H : Hp) (Q : VK) (E : XK) (h : sp_l_cell_at K vs H Q E) : vs.length = ["_law_script", "_law_k"].length := by
  obtain ⟨_, _, rfl, _⟩ := h
  rfl
local macro_rules | `(tactic| walk_at "g_call") => `(tactic| ((with_reducible refine' use_l_cell_at ?c0 ?_); (case c0 => walk_at "g_pre"); intros))
theorem ok_l_cell_at (T : Txt K mg) : FnOk P w K mg base CX0 1 T.a_l_cell_at T.d_l_cell_at ["_law_script", "_law_k"] (sp_l_cell_at K) := by
  refine T.F_l_cell_at.ok sc_l_cell_at len_l_cell_at (fun cdv A outer s H vs Q E hr h => ?_)
  refine ⟨_, (pss_cons (ps_if (pt_cmpR op_lt (pv 1) (pe_callB (call_lenK K rfl) (by rfl) T.z_len (by decide +kernel) (pa_cons (pv 0) pa_nil)) (nomark _)) (pss_one (ps_ret (pe_ix (ix_listK K rfl) (pv 0) (pv 1) (fun _ _ => rfl)))) pss_nil)
      (pss_one (ps_ret pe_int))), ?_⟩
  try dsimp only [L2.cxOf, L2.Cx.nox, L2.Cx.wish, List.map_cons, List.map_nil]
  obtain ⟨a, z, rfl, p0, k⟩ := h
  refine start_to (σ := [some _, some _]) rfl ?_
  walk_at "go"
  exact k
def sp_l_left (K : PySem.W.Frag) : Sp := fun vs H Q E => ∃ (a : Addr) (z : Int), vs = [.ref a, .int 0] ∧ (H a = some (.lst [.int z])) ∧ ∀ (m : Int) (p : Addr) (H' : Hp), (Pk p m H' 0) → (Same H H') → (H p = none) → Q (.ref p) H'
theorem use_l_left {K : PySem.W.Frag} {H : Hp} {Q : VK} {E : XK} {a : Addr} {z : Int} (p0 : H a = some (.lst [.int z])) (k : ∀ (m : Int) (p : Addr) (H' : Hp), (Pk p m H' 0) → (Same H H') → (H p = none) → Q (.ref p) H') : sp_l_left K [.ref a, .int 0] H Q E := ⟨a, z, rfl, p0, k⟩
theorem len_l_left {K : PySem.W.Frag} (vs : List V) (H : Hp) (Q : VK) (E : XK) (h : sp_l_left K vs H Q E) : vs.length = ["_law_script", "_law_k"].length := by
  obtain ⟨_, _, rfl, _⟩ := h
  rfl
local macro_rules | `(tactic| walk_at "g_call") => `(tactic| ((with_reducible refine' use_l_left ?c0 ?_); (case c0 => walk_at "g_pre"); intros))
theorem ok_l_left (T : Txt K mg) : FnOk P w K mg base CX0 2 T.a_l_left T.d_l_left ["_law_script", "_law_k"] (sp_l_left K) := by
  have G_l_cell_at := ok_l_cell_at (P := P) (w := w) (base := base) T
  refine T.F_l_left.ok sc_l_left len_l_left (fun cdv A outer s H vs Q E hr h => ?_)
  refine ⟨_, (pss_cons (ps_set (i := 2) sc_l_left.nd rfl (Or.inl rfl) (pe_call G_l_cell_at (hr.mono (by first | decide | omega)) (by rfl) T.g_l_cell_at T.F_l_cell_at.kp T.b_l_cell_at .nil pass0 (pa_cons (pv 0) (pa_cons (pv 1) pa_nil))))
      (pss_cons (ps_if (pt_cmpR op_lt (pv 2) (pe_op op_pow pe_int pe_int) (nomark _)) (pss_one (ps_ret (pe_lst (pa_cons (pe_op op_mod (pv 2) pe_int) (pa_cons pe_int (pa_cons pe_int pa_nil)))))) pss_nil)
      (pss_one (ps_ret (pe_lst (pa_cons (pe_op op_sub (pv 2) (pe_op op_pow pe_int pe_int)) (pa_cons pe_int (pa_cons pe_int pa_nil)))))))), ?_⟩
  try dsimp only [L2.cxOf, L2.Cx.nox, L2.Cx.wish, List.map_cons, List.map_nil]
  obtain ⟨a, z, rfl, p0, k⟩ := h
  refine start_to (σ := [some _, some _, none]) rfl ?_
  walk_at "go"
  refine ite_d (fun c1 => ?_) (fun c1 => ?_)
  · walk_at "go"
    exact k _ _ _ (pk_new (.inr ⟨rfl, by omega⟩)) (by walk_at "g_same") (by assumption)
  · walk_at "go"
    exact k _ _ _ (pk_new (.inl rfl)) (by walk_at "g_same") (by assumption)
def sp_l_draw (K : PySem.W.Frag) : Sp := fun vs H Q E => ∃ (a : Addr) (m c b : Int), vs = [.ref a, .int b] ∧ (Pk a m H c) ∧ (c ≤ 100000) ∧ (0 < b ∧ b < 2 ^ 200) ∧ ∀ (d : Int) (H' : Hp), (0 ≤ d ∧ d < b) → (Pk a m H' (c + 4)) → (But a H H') → Q (.int d) H'
theorem use_l_draw {K : PySem.W.Frag} {H : Hp} {Q : VK} {E : XK} {a : Addr} {m c b : Int} (p0 : Pk a m H c) (p1 : c ≤ 100000) (p2 : 0 < b ∧ b < 2 ^ 200) (k : ∀ (d : Int) (H' : Hp), (0 ≤ d ∧ d < b) → (Pk a m H' (c + 4)) → (But a H H') → Q (.int d) H') : sp_l_draw K [.ref a, .int b] H Q E := ⟨a, m, c, b, rfl, p0, p1, p2, k⟩
theorem len_l_draw {K : PySem.W.Frag} (vs : List V) (H : Hp) (Q : VK) (E : XK) (h : sp_l_draw K vs H Q E) : vs.length = ["_law_left_here", "_law_base"].length := by
  obtain ⟨_, _, _, _, rfl, _⟩ := h
  rfl
local macro_rules | `(tactic| walk_at "g_call") => `(tactic| ((with_reducible refine' use_l_draw ?c0 ?c1 ?c2 ?_); (case c0 => walk_at "g_pre"); (case c1 => walk_at "g_pre"); (case c2 => walk_at "g_pre"); intros))
theorem ok_l_draw (T : Txt K mg) : FnOk P w K mg base CX0 2 T.a_l_draw T.d_l_draw ["_law_left_here", "_law_base"] (sp_l_draw K) := by
  have G_l_mix := ok_l_mix (P := P) (w := w) (base := base) T
  refine T.F_l_draw.ok sc_l_draw len_l_draw (fun cdv A outer s H vs Q E hr h => ?_)
  refine ⟨_, (pss_cons (ps_asg (pe_op op_add (pe_ix (ix_listK K rfl) (pv 0) pe_int (fun _ _ => rfl)) pe_int) (pg_sub (pv 0) pe_int set_list))
      (pss_cons (ps_if (pt_cmpR op_eq (pe_ix (ix_listK K rfl) (pv 0) pe_int (fun _ _ => rfl)) pe_int (nomark _)) (pss_cons (ps_set (i := 2) sc_l_draw.nd rfl (Or.inl rfl) (pe_call G_l_mix (hr.mono (by first | decide | omega)) (by rfl) T.g_l_mix T.F_l_mix.kp T.b_l_mix .nil pass0 (pa_cons (pe_ix (ix_listK K rfl) (pv 0) pe_int (fun _ _ => rfl)) (pa_cons (pe_ix (ix_listK K rfl) (pv 0) pe_int (fun _ _ => rfl)) pa_nil))))
      (pss_cons (ps_if (pt_cmpR op_gt (pv 1) (pe_op op_pow pe_int pe_int) (nomark _)) (pss_one (ps_ret (pe_op op_mod (pe_op op_mulA (pv 2) (pe_op op_add (pe_op op_pow (pe_call G_l_mix (hr.mono (by first | decide | omega)) (by rfl) T.g_l_mix T.F_l_mix.kp T.b_l_mix .nil pass0 (pa_cons (pe_ix (ix_listK K rfl) (pv 0) pe_int (fun _ _ => rfl)) (pa_cons (pe_op op_add (pe_ix (ix_listK K rfl) (pv 0) pe_int (fun _ _ => rfl)) pe_int) pa_nil))) pe_int) pe_int)) (pv 1)))) pss_nil)
      (pss_one (ps_ret (pe_op op_mod (pe_op op_mod (pe_op op_mulA (pv 2) (pe_op op_add (pv 2) pe_int)) pe_int) (pv 1)))))) pss_nil)
      (pss_cons (ps_set (i := 3) sc_l_draw.nd rfl (Or.inl rfl) (pe_op op_mod (pe_ix (ix_listK K rfl) (pv 0) pe_int (fun _ _ => rfl)) (pv 1)))
      (pss_cons (ps_asg (pe_op op_fdivA (pe_ix (ix_listK K rfl) (pv 0) pe_int (fun _ _ => rfl)) (pv 1)) (pg_sub (pv 0) pe_int set_list))
      (pss_one (ps_ret (pv 3))))))), ?_⟩
  try dsimp only [L2.cxOf, L2.Cx.nox, L2.Cx.wish, List.map_cons, List.map_nil]
  obtain ⟨a, m, c0, b, rfl, ⟨n, c, p0, p1, p2, p4⟩, p5, p3, k⟩ := h
  refine start_to (σ := [some _, some _, none, none]) rfl ?_
  walk_at "go"
  refine ite_d (fun c1 => ?_) (fun c1 => ?_)
  · rcases p1 with z | ⟨z, hn⟩
    · omega
    walk_at "go"
    rename_i x1 y1
    refine ite_d (fun c2 => ?_) (fun c2 => ?_)
    · walk_at "go"
      exact k _ _ ⟨Int.emod_nonneg _ (by omega), Int.emod_lt_of_pos _ (by omega)⟩ ⟨_, _, upd_same, .inr ⟨c1, hn⟩, by omega, by omega⟩ (by walk_at "g_but")
    · walk_at "go"
      exact k _ _ ⟨Int.emod_nonneg _ (by omega), Int.emod_lt_of_pos _ (by omega)⟩ ⟨_, _, upd_same, .inr ⟨c1, hn⟩, by omega, by omega⟩ (by walk_at "g_but")
  · rcases p1 with z | ⟨z, hn⟩
    · walk_at "go"
      exact k _ _ ⟨Int.emod_nonneg _ (by omega), Int.emod_lt_of_pos _ (by omega)⟩ ⟨_, _, upd_same, .inl z, by omega, by omega⟩ (by walk_at "g_but")
    · omega

def sp_l_some (K : PySem.W.Frag) : Sp := fun vs H Q E => ∃ (a : Addr) (m c : Int), vs = [.ref a] ∧ (Pk a m H c) ∧ (c ≤ 90000) ∧ ∀ (d : Int) (H' : Hp), (Sm d) → (Pk a m H' (c + 8)) → (But a H H') → Q (.int d) H'
theorem use_l_some {K : PySem.W.Frag} {H : Hp} {Q : VK} {E : XK} {a : Addr} {m c : Int} (p0 : Pk a m H c) (p1 : c ≤ 90000) (k : ∀ (d : Int) (H' : Hp), (Sm d) → (Pk a m H' (c + 8)) → (But a H H') → Q (.int d) H') : sp_l_some K [.ref a] H Q E := ⟨a, m, c, rfl, p0, p1, k⟩
theorem len_l_some {K : PySem.W.Frag} (vs : List V) (H : Hp) (Q : VK) (E : XK) (h : sp_l_some K vs H Q E) : vs.length = ["_law_left_here"].length := by
  obtain ⟨_, _, _, rfl, _⟩ := h
  rfl
local macro_rules | `(tactic| walk_at "g_call") => `(tactic| ((with_reducible refine' use_l_some ?c0 ?c1 ?_); (case c0 => walk_at "g_pre"); (case c1 => walk_at "g_pre"); intros))
theorem ok_l_some (T : Txt K mg) : FnOk P w K mg base CX0 3 T.a_l_some T.d_l_some ["_law_left_here"] (sp_l_some K) := by
  have G_l_draw := ok_l_draw (P := P) (w := w) (base := base) T
  refine T.F_l_some.ok sc_l_some len_l_some (fun cdv A outer s H vs Q E hr h => ?_)
  refine ⟨_, (pss_cons (ps_set (i := 1) sc_l_some.nd rfl (Or.inl rfl) (pe_ix (ix_listK K rfl) (pe_lst (pa_cons pe_int (pa_cons pe_int (pa_cons (pe_op op_pow pe_int pe_int) pa_nil)))) (pe_call G_l_draw (hr.mono (by first | decide | omega)) (by rfl) T.g_l_draw T.F_l_draw.kp T.b_l_draw .nil pass0 (pa_cons (pv 0) (pa_cons pe_int pa_nil))) (fun _ _ => rfl)))
      (pss_one (ps_ret (pe_op op_sub (pe_call G_l_draw (hr.mono (by first | decide | omega)) (by rfl) T.g_l_draw T.F_l_draw.kp T.b_l_draw .nil pass0 (pa_cons (pv 0) (pa_cons (pe_op op_add (pe_op op_mulA pe_int (pv 1)) pe_int) pa_nil))) (pv 1))))), ?_⟩
  try dsimp only [L2.cxOf, L2.Cx.nox, L2.Cx.wish, List.map_cons, List.map_nil]
  obtain ⟨a, m, c, rfl, p0, p1, k⟩ := h
  refine start_to (σ := [some _, none]) rfl ?_
  walk_at "go"
  rename_i r nr d1 H1 e1 e2 e3 v hv d2 H2 e4 e5 e6
  exact k _ _ ⟨by omega, by omega⟩ (e5.mono (by omega)) (by walk_at "g_but")
def sp_l_rule (K : PySem.W.Frag) : Sp := fun vs H Q E => ∃ (a : Addr) (m c f s : Int), vs = [.ref a, .int f, .int s] ∧ (Pk a m H c) ∧ (c ≤ 80000) ∧ (0 ≤ f ∧ f ≤ 10 ∧ 0 ≤ s ∧ s ≤ 10) ∧ ∀ (v : V) (fl : Fld) (G : Hp) (H' : Hp), (Dq G v (fldD fl)) → (FldOk f s fl ∧ FldSm fl) → (Newly H G) → (Same G H') → (Pk a m H' (c + 1500)) → (But a H H') → Q (v) H'
theorem use_l_rule {K : PySem.W.Frag} {H : Hp} {Q : VK} {E : XK} {a : Addr} {m c f s : Int} (p0 : Pk a m H c) (p1 : c ≤ 80000) (p2 : 0 ≤ f ∧ f ≤ 10 ∧ 0 ≤ s ∧ s ≤ 10) (k : ∀ (v : V) (fl : Fld) (G : Hp) (H' : Hp), (Dq G v (fldD fl)) → (FldOk f s fl ∧ FldSm fl) → (Newly H G) → (Same G H') → (Pk a m H' (c + 1500)) → (But a H H') → Q (v) H') : sp_l_rule K [.ref a, .int f, .int s] H Q E := ⟨a, m, c, f, s, rfl, p0, p1, p2, k⟩
theorem len_l_rule {K : PySem.W.Frag} (vs : List V) (H : Hp) (Q : VK) (E : XK) (h : sp_l_rule K vs H Q E) : vs.length = ["_law_left_here", "_law_first", "_law_second"].length := by
  obtain ⟨_, _, _, _, _, rfl, _⟩ := h
  rfl
local macro_rules | `(tactic| walk_at "g_call") => `(tactic| ((with_reducible refine' use_l_rule ?c0 ?c1 ?c2 ?_); (case c0 => walk_at "g_pre"); (case c1 => walk_at "g_pre"); (case c2 => walk_at "g_pre"); intros))
theorem ok_l_rule (T : Txt K mg) : FnOk P w K mg base CX0 4 T.a_l_rule T.d_l_rule ["_law_left_here", "_law_first", "_law_second"] (sp_l_rule K) := by
  have G_l_draw := ok_l_draw (P := P) (w := w) (base := base) T
  have G_l_some := ok_l_some (P := P) (w := w) (base := base) T
  refine T.F_l_rule.ok sc_l_rule len_l_rule (fun cdv A outer s H vs Q E hr h => ?_)
  refine ⟨_, (pss_cons (ps_set (i := 3) sc_l_rule.nd rfl (Or.inl rfl) (pe_call G_l_draw (hr.mono (by first | decide | omega)) (by rfl) T.g_l_draw T.F_l_draw.kp T.b_l_draw .nil pass0 (pa_cons (pv 0) (pa_cons pe_int pa_nil))))
      (pss_cons (ps_set (i := 4) sc_l_rule.nd rfl (Or.inl rfl) (pe_op op_add pe_int (pe_call G_l_draw (hr.mono (by first | decide | omega)) (by rfl) T.g_l_draw T.F_l_draw.kp T.b_l_draw .nil pass0 (pa_cons (pv 0) (pa_cons (pe_ix (ix_listK K rfl) (pe_lst (pa_cons pe_int (pa_cons pe_int (pa_cons (pe_op op_pow pe_int pe_int) pa_nil)))) (pe_call G_l_draw (hr.mono (by first | decide | omega)) (by rfl) T.g_l_draw T.F_l_draw.kp T.b_l_draw .nil pass0 (pa_cons (pv 0) (pa_cons pe_int pa_nil))) (fun _ _ => rfl)) pa_nil)))))
      (pss_cons (ps_if (pt_cmpR op_lt (pv 3) pe_int (nomark _)) (pss_one (ps_ret (pe_tup (pa_cons pe_str (pa_cons (pv 4) (pa_cons (pe_op op_sub (pe_call G_l_draw (hr.mono (by first | decide | omega)) (by rfl) T.g_l_draw T.F_l_draw.kp T.b_l_draw .nil pass0 (pa_cons (pv 0) (pa_cons (pe_op op_add (pe_op op_mulA pe_int (pv 4)) pe_int) pa_nil))) (pv 4)) pa_nil)))))) pss_nil)
      (pss_cons (ps_if (pt_cmpR op_eq (pv 3) pe_int (nomark _)) (pss_one (ps_ret (pe_tup (pa_cons pe_str (pa_cons (pv 4) (pa_cons (pe_op op_sub (pe_call G_l_draw (hr.mono (by first | decide | omega)) (by rfl) T.g_l_draw T.F_l_draw.kp T.b_l_draw .nil pass0 (pa_cons (pv 0) (pa_cons (pe_ix (ix_listK K rfl) (pe_lst (pa_cons pe_int (pa_cons pe_int pa_nil))) (pe_call G_l_draw (hr.mono (by first | decide | omega)) (by rfl) T.g_l_draw T.F_l_draw.kp T.b_l_draw .nil pass0 (pa_cons (pv 0) (pa_cons pe_int pa_nil))) (fun _ _ => rfl)) pa_nil))) pe_int) pa_nil)))))) pss_nil)
      (pss_cons (ps_if (pt_cmpR op_eq (pv 3) pe_int (nomark _)) (pss_one (ps_ret (pe_tup (pa_cons pe_str (pa_cons (pe_lc (own := [("_law_x", 5)]) rfl sc_l_rule.nd (pi_range1 rfl T.z_range (pa_cons (pe_op op_add (pv 1) pe_int) pa_nil)) (blkOk_by (own := [("_law_x", 5)]) (N := ["_law_left_here", "_law_first", "_law_second", "_law_kind", "_law_worth", "_law_x", "_law_y"]) (sc := defScope s_l_rule) (by decide +kernel)) (fun _ _ _ _ _ => (pg_name (i := 5) sc_l_rule.nd rfl (Or.inl rfl))) (fun _ _ _ _ _ => pts_nil) (fun _ _ _ _ _ => (pe_lc (own := [("_law_y", 6)]) rfl sc_l_rule.nd (pi_range1 rfl T.z_range (pa_cons (pe_op op_add (pv 2) pe_int) pa_nil)) (blkOk_by (own := [("_law_y", 6)]) (N := ["_law_left_here", "_law_first", "_law_second", "_law_kind", "_law_worth", "_law_x", "_law_y"]) (sc := (Hf.relS { kind := PySem.ScopeKind.function, names := [ (PySem.Str.ofString ".0", PySem.NameKind.local), (PySem.Str.ofString "_law_x", PySem.NameKind.local), (PySem.Str.ofString "range", PySem.NameKind.globalImplicit), (PySem.Str.ofString "_law_left_here", PySem.NameKind.free), (PySem.Str.ofString "_law_second", PySem.NameKind.free)], isGenerator := false, isCoroutine := false, more := [] : PySem.Scope } (defScope s_l_rule))) (by decide +kernel)) (fun _ _ _ _ _ => (pg_name (i := 6) sc_l_rule.nd rfl (Or.inl rfl))) (fun _ _ _ _ _ => pts_nil) (fun _ _ _ _ _ => (pe_op op_sub (pe_call G_l_draw (hr.mono (by first | decide | omega)) (by rfl) T.g_l_draw T.F_l_draw.kp T.b_l_draw .nil pass0 (pa_cons (pv 0) (pa_cons pe_int pa_nil))) pe_int))))) pa_nil))))) pss_nil)
      (pss_one (ps_ret (pe_tup (pa_cons pe_str (pa_cons (pe_lc (own := [("_law_x", 5)]) rfl sc_l_rule.nd (pi_range1 rfl T.z_range (pa_cons (pe_op op_add (pv 1) pe_int) pa_nil)) (blkOk_by (own := [("_law_x", 5)]) (N := ["_law_left_here", "_law_first", "_law_second", "_law_kind", "_law_worth", "_law_x", "_law_y"]) (sc := defScope s_l_rule) (by decide +kernel)) (fun _ _ _ _ _ => (pg_name (i := 5) sc_l_rule.nd rfl (Or.inl rfl))) (fun _ _ _ _ _ => pts_nil) (fun _ _ _ _ _ => (pe_lc (own := [("_law_y", 6)]) rfl sc_l_rule.nd (pi_range1 rfl T.z_range (pa_cons (pe_op op_add (pv 2) pe_int) pa_nil)) (blkOk_by (own := [("_law_y", 6)]) (N := ["_law_left_here", "_law_first", "_law_second", "_law_kind", "_law_worth", "_law_x", "_law_y"]) (sc := (Hf.relS { kind := PySem.ScopeKind.function, names := [ (PySem.Str.ofString ".0", PySem.NameKind.local), (PySem.Str.ofString "_law_x", PySem.NameKind.local), (PySem.Str.ofString "range", PySem.NameKind.globalImplicit), (PySem.Str.ofString "_law_left_here", PySem.NameKind.free), (PySem.Str.ofString "_law_second", PySem.NameKind.free)], isGenerator := false, isCoroutine := false, more := [] : PySem.Scope } (defScope s_l_rule))) (by decide +kernel)) (fun _ _ _ _ _ => (pg_name (i := 6) sc_l_rule.nd rfl (Or.inl rfl))) (fun _ _ _ _ _ => pts_nil) (fun _ _ _ _ _ => (pe_call G_l_some (hr.mono (by first | decide | omega)) (by rfl) T.g_l_some T.F_l_some.kp T.b_l_some .nil pass0 (pa_cons (pv 0) pa_nil)))))) pa_nil)))))))))), ?_⟩
  try dsimp only [L2.cxOf, L2.Cx.nox, L2.Cx.wish, List.map_cons, List.map_nil]
  obtain ⟨a, m, c, f, s, rfl, p0, p1, p2, k⟩ := h
  refine start_to (σ := [some _, some _, some _, none, none, none, none]) rfl ?_
  walk_at "go"
  rename_i d1 H1 e1 e2 e3 r nr d2 H2 e4 e5 e6 v hv w0 H3 e7 e8 e9
  generalize hw : 1 + w0 = w
  have hw1 : 1 ≤ w ∧ w ≤ 10000000000000000000000000000 := by omega
  have b3 : But a H H3 := by walk_at "g_but"
  have p3 : Pk a m H3 (c + 12) := e8.mono (by omega)
  clear e2 e3 e5 e6 e8 e9 nr e7 hv hw
  refine ite_d (fun c1 => ?_) (fun c1 => ?_)
  · walk_at "go"
    rename_i d3 H4 u1 u2 u3 q nq
    have hq : H q = none := by walk_at "g_free"
    exact k _ (.more w (d3 - w)) (fr [] H (upd H4 q _)) _ (more_mk (fr_lk0 hq upd_same)) ⟨⟨by omega, by omega, by omega⟩, ⟨by omega, by omega⟩, ⟨by omega, by omega⟩⟩ fr_newly fr_same (Pk.mono (by walk_at "g_pk") (by omega)) (by walk_at "g_but")
  walk_at "go"
  refine ite_d (fun c2 => ?_) (fun c2 => ?_)
  · walk_at "go"
    rename_i r nr d3 H4 u1 u2 u3 v2 hv2 d4 H5 u4 u5 u6 q nq
    have hq : H q = none := by walk_at "g_free"
    exact k _ (.lead w (d4 - 2)) (fr [] H (upd H5 q _)) _ (lead_mk (fr_lk0 hq upd_same)) ⟨show 1 ≤ w by omega, ⟨by omega, by omega⟩, ⟨by omega, by omega⟩⟩ fr_newly fr_same (Pk.mono (by walk_at "g_pk") (by omega)) (by walk_at "g_but")
  walk_at "go"
  refine ite_d (fun c3 => ?_) (fun c3 => ?_)
  · walk_at "go"
    intro D nD
    refine lcR_dq planD (fun r => (r.length : Int) = s + 1 ∧ ∀ x ∈ r, Sm x) 44 (by walk_at "g_pk") nD (by omega) ?_ ?_
    · intro i H4 Z Y hi hp hb hz
      walk_at "go"
      intro D2 nD2
      refine lcR_pk Sm 4 (by walk_at "g_pk") nD2 (by omega) ?_ ?_
      · intro j H5 Z2 Y2 hj hp2 hb2 hz2
        walk_at "go"
        rename_i d5 H6 u1 u2 u3
        exact hz2 _ _ ⟨by omega, by omega⟩ u2 u3
      · intro ms H5 h1 h2 h3 h4 h5
        walk_at "go"
        exact hz ms (.ref D2) (fr [] H4 H5) H5 ⟨by omega, h2⟩ (row_mk (fr_lk0 nD2 h3)) fr_newly fr_same (h4.mono (by omega)) h5
    · intro rs G H4 h1 h2 h3 h4 h5 h6 h7
      walk_at "go"
      rename_i q nq
      have hq : H q = none := by walk_at "g_free"
      have nG : Newly H G := h4.backP b3 p3
      exact k _ (.tab rs) (fr [] H (upd H4 q _)) _ (tab_mk' (fr_lk0 hq upd_same) (h3.same (nG.same (by walk_at "g_same")))) ⟨⟨by omega, fun r hr => (h2 r hr).1⟩, fun r hr => (h2 r hr).2⟩ fr_newly fr_same (Pk.mono (by walk_at "g_pk") (by omega)) (by walk_at "g_but")
  · walk_at "go"
    intro D nD
    refine lcR_dq planD (fun r => (r.length : Int) = s + 1 ∧ ∀ x ∈ r, Sm x) 88 (by walk_at "g_pk") nD (by omega) ?_ ?_
    · intro i H4 Z Y hi hp hb hz
      walk_at "go"
      intro D2 nD2
      refine lcR_pk Sm 8 (by walk_at "g_pk") nD2 (by omega) ?_ ?_
      · intro j H5 Z2 Y2 hj hp2 hb2 hz2
        walk_at "go"
        rename_i d5 H6 u1 u2 u3
        exact hz2 _ _ u1 u2 u3
      · intro ms H5 h1 h2 h3 h4 h5
        walk_at "go"
        exact hz ms (.ref D2) (fr [] H4 H5) H5 ⟨by omega, h2⟩ (row_mk (fr_lk0 nD2 h3)) fr_newly fr_same (h4.mono (by omega)) h5
    · intro rs G H4 h1 h2 h3 h4 h5 h6 h7
      walk_at "go"
      rename_i q nq
      have hq : H q = none := by walk_at "g_free"
      have nG : Newly H G := h4.backP b3 p3
      exact k _ (.tab rs) (fr [] H (upd H4 q _)) _ (tab_mk' (fr_lk0 hq upd_same) (h3.same (nG.same (by walk_at "g_same")))) ⟨⟨by omega, fun r hr => (h2 r hr).1⟩, fun r hr => (h2 r hr).2⟩ fr_newly fr_same (Pk.mono (by walk_at "g_pk") (by omega)) (by walk_at "g_but")
def sp_l_battle (K : PySem.W.Frag) : Sp := fun vs H Q E => ∃ (a : Addr) (m c u y : Int), vs = [.ref a, .int u, .int y] ∧ (Pk a m H c) ∧ (c ≤ 70000) ∧ (0 ≤ u ∧ u ≤ 10 ∧ 1 ≤ y ∧ y ≤ 5) ∧ ∀ (v : V) (f s : Int) (fs : List Fld) (G : Hp) (H' : Hp), (Dq G v (batD f s fs)) → (BatOk f s fs) → (f ≤ u ∧ s ≤ u ∧ fs.length ≤ y) → (∀ x ∈ fs, FldSm x) → (Newly H G) → (Same G H') → (Pk a m H' (c + 8000)) → (But a H H') → Q (v) H'
theorem use_l_battle {K : PySem.W.Frag} {H : Hp} {Q : VK} {E : XK} {a : Addr} {m c u y : Int} (p0 : Pk a m H c) (p1 : c ≤ 70000) (p2 : 0 ≤ u ∧ u ≤ 10 ∧ 1 ≤ y ∧ y ≤ 5) (k : ∀ (v : V) (f s : Int) (fs : List Fld) (G : Hp) (H' : Hp), (Dq G v (batD f s fs)) → (BatOk f s fs) → (f ≤ u ∧ s ≤ u ∧ fs.length ≤ y) → (∀ x ∈ fs, FldSm x) → (Newly H G) → (Same G H') → (Pk a m H' (c + 8000)) → (But a H H') → Q (v) H') : sp_l_battle K [.ref a, .int u, .int y] H Q E := ⟨a, m, c, u, y, rfl, p0, p1, p2, k⟩
theorem len_l_battle {K : PySem.W.Frag} (vs : List V) (H : Hp) (Q : VK) (E : XK) (h : sp_l_battle K vs H Q E) : vs.length = ["_law_left_here", "_law_most", "_law_fields"].length := by
  obtain ⟨_, _, _, _, _, rfl, _⟩ := h
  rfl
local macro_rules | `(tactic| walk_at "g_call") => `(tactic| ((with_reducible refine' use_l_battle ?c0 ?c1 ?c2 ?_); (case c0 => walk_at "g_pre"); (case c1 => walk_at "g_pre"); (case c2 => walk_at "g_pre"); intros))
theorem ok_l_battle (T : Txt K mg) : FnOk P w K mg base CX0 5 T.a_l_battle T.d_l_battle ["_law_left_here", "_law_most", "_law_fields"] (sp_l_battle K) := by
  have G_l_draw := ok_l_draw (P := P) (w := w) (base := base) T
  have G_l_rule := ok_l_rule (P := P) (w := w) (base := base) T
  refine T.F_l_battle.ok sc_l_battle len_l_battle (fun cdv A outer s H vs Q E hr h => ?_)
  refine ⟨_, (pss_cons (ps_set (i := 3) sc_l_battle.nd rfl (Or.inr rfl) (pe_call G_l_draw (hr.mono (by first | decide | omega)) (by rfl) T.g_l_draw T.F_l_draw.kp T.b_l_draw .nil pass0 (pa_cons (pv 0) (pa_cons (pe_op op_add (pv 1) pe_int) pa_nil))))
      (pss_cons (ps_set (i := 4) sc_l_battle.nd rfl (Or.inr rfl) (pe_call G_l_draw (hr.mono (by first | decide | omega)) (by rfl) T.g_l_draw T.F_l_draw.kp T.b_l_draw .nil pass0 (pa_cons (pv 0) (pa_cons (pe_op op_add (pv 1) pe_int) pa_nil))))
      (pss_one (ps_ret (pe_tup (pa_cons (pv 3) (pa_cons (pv 4) (pa_cons (pe_lc (own := [("_law_k", 5)]) rfl sc_l_battle.nd (pi_range1 rfl T.z_range (pa_cons (pe_op op_add pe_int (pe_call G_l_draw (hr.mono (by first | decide | omega)) (by rfl) T.g_l_draw T.F_l_draw.kp T.b_l_draw .nil pass0 (pa_cons (pv 0) (pa_cons (pv 2) pa_nil)))) pa_nil)) (blkOk_by (own := [("_law_k", 5)]) (N := ["_law_left_here", "_law_most", "_law_fields", "_law_first", "_law_second", "_law_k"]) (sc := defScope s_l_battle) (by decide +kernel)) (fun _ _ _ _ _ => (pg_name (i := 5) sc_l_battle.nd rfl (Or.inl rfl))) (fun _ _ _ _ _ => pts_nil) (fun _ _ _ _ _ => (pe_call G_l_rule (hr.mono (by first | decide | omega)) (by rfl) T.g_l_rule T.F_l_rule.kp T.b_l_rule .nil pass0 (pa_cons (pv 0) (pa_cons (pv 3) (pa_cons (pv 4) pa_nil)))))) pa_nil)))))))), ?_⟩
  try dsimp only [L2.cxOf, L2.Cx.nox, L2.Cx.wish, List.map_cons, List.map_nil]
  obtain ⟨a, m, c, u, y, rfl, p0, p1, p2, k⟩ := h
  refine start_to (σ := [some _, some _, some _, none, none, none]) rfl ?_
  walk_at "go"
  rename_i f H1 e1 e2 e3 s H2 e4 e5 e6 t H3 e7 e8 e9
  have b3 : But a H H3 := by walk_at "g_but"
  intro D nD
  refine lcR_dq fldD (fun x => FldOk f s x ∧ FldSm x) 1500 e8 nD (by omega) ?_ ?_
  · intro i H4 Z Y hi hp hb hz
    have hb0 : 0 ≤ f ∧ f ≤ 10 ∧ 0 ≤ s ∧ s ≤ 10 := by omega
    clear e2 e3 e5 e6 e8 e9
    walk_at "go"
    rename_i v fl G H5 u1 u2 u3 u4 u5 u6
    exact hz fl v G H5 u2 u1 u3 u4 u5 u6
  · intro fs G H4 h1 h2 h3 h4 h5 h6 h7
    have nG : Newly H G := h4.backP b3 e8
    clear e2 e3 e5 e6 e9
    walk_at "go"
    rename_i q nq
    have hq : H q = none := Pk.free nq (But.trans b3 h7) h6
    exact k _ f s fs (fr [] H (upd H4 q _)) _ (bat_mk' (fr_lk0 hq upd_same) (h3.same (nG.same (by walk_at "g_same")))) ⟨by omega, by omega, by omega, fun x hx => (h2 x hx).1⟩ (by omega) (fun x hx => (h2 x hx).2) fr_newly fr_same (Pk.mono (by walk_at "g_pk") (by omega)) (by walk_at "g_but")

theorem plan_turn {h : Int} {n : Nat} {qs : List Int} (k : PlanC h n qs) (d : Nat) : PlanC h n (qs.drop d ++ qs.take d) := by
  have hs : (qs.take d).sum + (qs.drop d).sum = qs.sum := by rw [← List.sum_append, List.take_append_drop]
  have hl : (qs.take d).length + (qs.drop d).length = qs.length := by rw [← List.length_append, List.take_append_drop]
  refine ⟨by rw [List.length_append]; have := k.1; omega, by rw [List.sum_append]; have := k.2.1; omega, fun x hx => ?_⟩
  rcases List.mem_append.mp hx with z | z
  · exact k.2.2 x (List.mem_of_mem_drop z)
  · exact k.2.2 x (List.mem_of_mem_take z)
def sp_l_plan (K : PySem.W.Frag) : Sp := fun vs H Q E => ∃ (a : Addr) (m c h f : Int), vs = [.ref a, .int h, .int f] ∧ (Pk a m H c) ∧ (c ≤ 90000) ∧ (0 ≤ h ∧ h ≤ 40 ∧ 1 ≤ f ∧ f ≤ 8) ∧ ∀ (b : Addr) (ps : List Int) (H' : Hp), (H' b = some (.lst (ps.map V.int))) → (Pk a m H' (c + 100)) → (But a H H') → (H b = none) → (PlanC h f.toNat ps) → Q (.ref b) H'
theorem use_l_plan {K : PySem.W.Frag} {H : Hp} {Q : VK} {E : XK} {a : Addr} {m c h f : Int} (p0 : Pk a m H c) (p1 : c ≤ 90000) (p2 : 0 ≤ h ∧ h ≤ 40 ∧ 1 ≤ f ∧ f ≤ 8) (k : ∀ (b : Addr) (ps : List Int) (H' : Hp), (H' b = some (.lst (ps.map V.int))) → (Pk a m H' (c + 100)) → (But a H H') → (H b = none) → (PlanC h f.toNat ps) → Q (.ref b) H') : sp_l_plan K [.ref a, .int h, .int f] H Q E := ⟨a, m, c, h, f, rfl, p0, p1, p2, k⟩
theorem len_l_plan {K : PySem.W.Frag} (vs : List V) (H : Hp) (Q : VK) (E : XK) (h : sp_l_plan K vs H Q E) : vs.length = ["_law_left_here", "_law_hosts", "_law_many"].length := by
  obtain ⟨_, _, _, _, _, rfl, _⟩ := h
  rfl
local macro_rules | `(tactic| walk_at "g_call") => `(tactic| ((with_reducible refine' use_l_plan ?c0 ?c1 ?c2 ?_); (case c0 => walk_at "g_pre"); (case c1 => walk_at "g_pre"); (case c2 => walk_at "g_pre"); intros))
theorem ok_l_plan (T : Txt K mg) : FnOk P w K mg base CX0 3 T.a_l_plan T.d_l_plan ["_law_left_here", "_law_hosts", "_law_many"] (sp_l_plan K) := by
  have G_l_draw := ok_l_draw (P := P) (w := w) (base := base) T
  refine T.F_l_plan.ok sc_l_plan len_l_plan (fun cdv A outer s H vs Q E hr h => ?_)
  refine ⟨_, (pss_cons (ps_set (i := 3) sc_l_plan.nd rfl (Or.inl rfl) (pe_lst pa_nil))
      (pss_cons (ps_set (i := 4) sc_l_plan.nd rfl (Or.inl rfl) (pv 1))
      (pss_cons (ps_for PassesOwn.never rfl (pi_range1 rfl T.z_range (pa_cons (pe_op op_sub (pv 2) pe_int) pa_nil)) (pg_name (i := 5) sc_l_plan.nd rfl (Or.inl rfl)) (pss_cons (ps_expr (pe_bm PySem.F.plainAttrs_list PySem.F.slot_list_append PySem.F.type_list_append mt_append (pv 3) (pa_cons (pe_call G_l_draw (hr.mono (by first | decide | omega)) (by rfl) T.g_l_draw T.F_l_draw.kp T.b_l_draw .nil pass0 (pa_cons (pv 0) (pa_cons (pe_op op_add (pv 4) pe_int) pa_nil))) pa_nil)))
      (pss_one (ps_set (i := 4) sc_l_plan.nd rfl (Or.inl rfl) (pe_op op_sub (pv 4) (pe_ix (ix_listK K rfl) (pv 3) (pe_un un_neg pe_int) (fun _ _ => rfl)))))))
      (pss_cons (ps_expr (pe_bm PySem.F.plainAttrs_list PySem.F.slot_list_append PySem.F.type_list_append mt_append (pv 3) (pa_cons (pv 4) pa_nil)))
      (pss_cons (ps_set (i := 6) sc_l_plan.nd rfl (Or.inl rfl) (pe_call G_l_draw (hr.mono (by first | decide | omega)) (by rfl) T.g_l_draw T.F_l_draw.kp T.b_l_draw .nil pass0 (pa_cons (pv 0) (pa_cons (pv 2) pa_nil))))
      (pss_one (ps_ret (pe_op op_cat (pe_slice (sl_listK K rfl) (pv 3) (po_some (pv 6)) po_none) (pe_slice (sl_listK K rfl) (pv 3) po_none (po_some (pv 6))))))))))), ?_⟩
  try dsimp only [L2.cxOf, L2.Cx.nox, L2.Cx.wish, List.map_cons, List.map_nil]
  obtain ⟨a, m, c, h, f, rfl, p0, p1, p2, k⟩ := h
  refine start_to (σ := [some _, some _, some _, none, none, none, none]) rfl ?_
  walk_at "go"
  rename_i b nb
  have hb : b ≠ a := by walk_at "g_ne"
  refine forR (fun i σ H1 => ∃ (ps : List Int) (left : Int) (y1 : Option V), σ = [some (.ref a), some (.int h), some (.int f), some (.ref b), some (.int left), y1, none] ∧ H1 b = some (.lst (ps.map V.int)) ∧ Pk a m H1 (c + 4 * (i : Int)) ∧ But a H H1 ∧ (0 ≤ left ∧ left ≤ 40) ∧ ps.length = i ∧ (∀ x ∈ ps, 0 ≤ x) ∧ ps.sum + left = h) ⟨[], h, _, rfl, upd_same, (p0.new nb).mono (by omega), by walk_at "g_but", by omega, rfl, nofun, by simp⟩ ?_ ?_
  · rintro σ1 H1 ⟨ps, left, y1, rfl, h1, h2, h3, h4, h5, h6, h7⟩
    walk_at "go"
    have pk2 : Pk a m (upd H1 b (.lst ((ps ++ [left]).map V.int))) _ := h2.upd hb
    have hb2 : upd H1 b (.lst ((ps ++ [left]).map V.int)) b = some (.lst ((ps ++ [left]).map V.int)) := upd_same
    have b2 : But a H (upd H1 b (.lst ((ps ++ [left]).map V.int))) := But.mutD nb h3
    have pl : PlanC h f.toNat (ps ++ [left]) := ⟨by rw [List.length_append, h5]; simp; omega, by rw [List.sum_append, List.sum_cons, List.sum_nil]; omega, fun x hx => by
      rcases List.mem_append.mp hx with z | z
      · exact h6 x z
      · rw [List.mem_singleton.mp z]; omega⟩
    have pll : (ps ++ [left]).length ≤ 1000 := by rw [pl.1]; omega
    have hf : 0 < f ∧ f < 2 ^ 200 := by omega
    generalize upd H1 b (.lst ((ps ++ [left]).map V.int)) = H2 at *
    generalize ps ++ [left] = qs at *
    clear h1 h2 h3
    walk_at "go"
    rename_i d H3 e1 e2 e3 q1 n1 q2 n2 q3 n3
    exact k _ _ _ upd_same (Pk.mono (by walk_at "g_pk") (by omega)) (((((b2.trans e3).new n1).new n2).new n3)) (Pk.free (a := a) n3 (((b2.trans e3).new n1).new n2) (by walk_at "g_pk")) (plan_turn pl d.toNat)
  · rintro i σ1 H1 hi ⟨ps, left, y1, rfl, h1, h2, h3, h4, h5, h6, h7⟩
    walk_at "go"
    rename_i d H2 e1 e2 e3 z hz
    obtain rfl : z = d := by
      rw [show (ps ++ [d]).length - 1 = ps.length by simp] at hz
      simpa using hz.symm
    refine ⟨ps ++ [z], left - z, _, rfl, upd_same, (e2.upd hb).mono (by omega), But.mutD nb (h3.trans e3), by omega, by simp [h5], fun x hx => ?_, by rw [List.sum_append, List.sum_cons, List.sum_nil]; omega⟩
    rcases List.mem_append.mp hx with g | g
    · exact h6 x g
    · rw [List.mem_singleton.mp g]; omega

def sp_NoBattle_init (K : PySem.W.Frag) (C : Addr) : Sp := fun vs H Q E => ∃ (x : Addr) (y : V), vs = [.ref x, y] ∧ (H x = some (exo x C none)) ∧ ∀ (dx : Addr), (H dx = none) → (dx ≠ x) → Q (.non) (upd (upd H dx (exd dx [(("field" : Str), y)])) x (exo x C (some dx)))
theorem use_NoBattle_init {K : PySem.W.Frag} {C : Addr} {H : Hp} {Q : VK} {E : XK} {x : Addr} {y : V} (p0 : H x = some (exo x C none)) (k : ∀ (dx : Addr), (H dx = none) → (dx ≠ x) → Q (.non) (upd (upd H dx (exd dx [(("field" : Str), y)])) x (exo x C (some dx)))) : sp_NoBattle_init K C [.ref x, y] H Q E := ⟨x, y, rfl, p0, k⟩
theorem len_NoBattle_init {K : PySem.W.Frag} {C : Addr} (vs : List V) (H : Hp) (Q : VK) (E : XK) (h : sp_NoBattle_init K C vs H Q E) : vs.length = ["self", "field"].length := by
  obtain ⟨_, _, rfl, _⟩ := h
  rfl
theorem ok_NoBattle_init (T : Txt K mg) : FnOk P w K mg base CX0 1 T.a_NoBattle_init T.d_NoBattle_init ["self", "field"] (sp_NoBattle_init K (T.e_NoBattle)) := by
  refine T.F_NoBattle_init.ok sc_NoBattle_init len_NoBattle_init (fun cdv A outer s H vs Q E hr h => ?_)
  refine ⟨_, (pss_cons (ps_expr (pe_hinit ⟨T.rd_HostError, T.ga_HostError⟩ T.fc_HostError rfl T.g_HostError (pa_cons (pv 0) (pa_cons pe_str pa_nil))))
      (pss_one (ps_ost (pv 0) (pv 1)))), ?_⟩
  try dsimp only [L2.cxOf, L2.Cx.nox, L2.Cx.wish, List.map_cons, List.map_nil]
  obtain ⟨x, y, rfl, p0, k⟩ := h
  refine start_to (σ := [some _, some _]) rfl ?_
  walk_at "go"
  exact k _ (by assumption) (by assumption)
local macro_rules | `(tactic| walk_at "g_val2") => `(tactic| first | ((with_reducible refine' Hf.i_mko1 ?s9 ?_); (case s9 => exact fun _ _ _ _ h q => use_NoBattle_init h q); intro _ _ _ _ _) | fail "mko1")
def sp_is_number (K : PySem.W.Frag) : Sp := fun vs H Q E => ∃ (v : V) (d : PyData), vs = [v] ∧ (Dq H v d) ∧ Q (.bl (isNumD d)) H
theorem use_is_number {K : PySem.W.Frag} {H : Hp} {Q : VK} {E : XK} {v : V} {d : PyData} (p0 : Dq H v d) (k : Q (.bl (isNumD d)) H) : sp_is_number K [v] H Q E := ⟨v, d, rfl, p0, k⟩
theorem len_is_number {K : PySem.W.Frag} (vs : List V) (H : Hp) (Q : VK) (E : XK) (h : sp_is_number K vs H Q E) : vs.length = ["thing"].length := by
  obtain ⟨_, _, rfl, _⟩ := h
  rfl
local macro_rules | `(tactic| walk_at "g_call") => `(tactic| ((with_reducible refine' use_is_number ?c0 ?_); (case c0 => walk_at "g_pre"); intros))
theorem use_is_number_i {K : PySem.W.Frag} {x : Int} {H : Hp} {Q : VK} {E : XK} (k : Q (.bl true) H) : sp_is_number K [.int x] H Q E := use_is_number (.int x) k
local macro_rules | `(tactic| walk_at "g_call") => `(tactic| (with_reducible refine' use_is_number_i ?_))
theorem ok_is_number (T : Txt K mg) : FnOk P w K mg base CX0 1 T.a_is_number T.d_is_number ["thing"] (sp_is_number K) := by
  refine T.F_is_number.ok sc_is_number len_is_number (fun cdv A outer s H vs Q E hr h => ?_)
  refine ⟨_, (pss_one (ps_ret (pe_and (pe_callB (call_isXK K rfl) (by rfl) T.z_isinstance (by decide +kernel) (pa_cons (pv 0) (pa_cons (pe_bltn (v := .ty "int") rfl T.z_int (by decide +kernel) rfl) pa_nil))) (pe_one (pe_not (pe_callB (call_isXK K rfl) (by rfl) T.z_isinstance (by decide +kernel) (pa_cons (pv 0) (pa_cons (pe_bltn (v := .ty "bool") rfl T.z_bool (by decide +kernel) rfl) pa_nil)))))))), ?_⟩
  try dsimp only [L2.cxOf, L2.Cx.nox, L2.Cx.wish, List.map_cons, List.map_nil]
  obtain ⟨v, d, rfl, p0, k⟩ := h
  refine start_to (σ := [some _]) rfl ?_
  cases p0 <;> (walk_at "go"; exact k)
def sp_are_numbers (K : PySem.W.Frag) : Sp := fun vs H Q E => ∃ (v : V) (d : PyData) (n : Int), vs = [v, .int n] ∧ (Dq H v d) ∧ (wid d ≤ 1000) ∧ ∀ (H' : Hp), (Same H H') → Q (.bl (areNumsD n d)) H'
theorem use_are_numbers {K : PySem.W.Frag} {H : Hp} {Q : VK} {E : XK} {v : V} {d : PyData} {n : Int} (p0 : Dq H v d) (p1 : wid d ≤ 1000) (k : ∀ (H' : Hp), (Same H H') → Q (.bl (areNumsD n d)) H') : sp_are_numbers K [v, .int n] H Q E := ⟨v, d, n, rfl, p0, p1, k⟩
theorem len_are_numbers {K : PySem.W.Frag} (vs : List V) (H : Hp) (Q : VK) (E : XK) (h : sp_are_numbers K vs H Q E) : vs.length = ["thing", "many"].length := by
  obtain ⟨_, _, _, rfl, _⟩ := h
  rfl
local macro_rules | `(tactic| walk_at "g_call") => `(tactic| ((with_reducible refine' use_are_numbers ?c0 ?c1 ?_); (case c0 => walk_at "g_pre"); (case c1 => walk_at "g_pre"); intros))
theorem ok_are_numbers (T : Txt K mg) : FnOk P w K mg base CX0 2 T.a_are_numbers T.d_are_numbers ["thing", "many"] (sp_are_numbers K) := by
  have G_is_number := ok_is_number (P := P) (w := w) (base := base) T
  refine T.F_are_numbers.ok sc_are_numbers len_are_numbers (fun cdv A outer s H vs Q E hr h => ?_)
  refine ⟨_, (pss_cons (ps_if (PW.pt (pw_or (pt_not (pt_val (pe_callB (call_isXK K rfl) (by rfl) T.z_isinstance (by decide +kernel) (pa_cons (pv 0) (pa_cons (pe_bltn (v := .ty "list") rfl T.z_list (by decide +kernel) rfl) pa_nil))))) (pw_or1 (pt_cmpR op_ne (pe_callB (call_lenK K rfl) (by rfl) T.z_len (by decide +kernel) (pa_cons (pv 0) pa_nil)) (pv 1) (nomark _))))) (pss_one (ps_ret pe_bl)) pss_nil)
      (pss_one (ps_ret (pe_cmpR op_eq (pe_callB (call_lenK K rfl) (by rfl) T.z_len (by decide +kernel) (pa_cons (pe_lc (own := [("number", 2)]) rfl sc_are_numbers.nd (pi_listK K rfl (pv 0)) (blkOk_by (own := [("number", 2)]) (N := ["thing", "many", "number"]) (sc := defScope s_are_numbers) (by decide +kernel)) (fun _ _ _ _ _ => (pg_name (i := 2) sc_are_numbers.nd rfl (Or.inl rfl))) (fun _ _ _ _ _ => (pts_one (pt_not (pt_val (pe_call G_is_number (hr.mono (by first | decide | omega)) (by rfl) T.g_is_number T.F_is_number.kp T.b_is_number .nil pass0 (pa_cons (pv 2) pa_nil)))))) (fun _ _ _ _ _ => (pv 2))) pa_nil)) pe_int (nomark _))))), ?_⟩
  try dsimp only [L2.cxOf, L2.Cx.nox, L2.Cx.wish, List.map_cons, List.map_nil]
  obtain ⟨v, d, n, rfl, p0, p1, k⟩ := h
  refine start_to (σ := [some _, some _, none]) rfl ?_
  cases p0 with
  | @lst a xs ds h q =>
    have hl := q.len
    rw [wid] at p1
    walk_at "go"
    refine ite_nd (fun c => ?_) (fun c => ?_)
    · have e : areNumsD n (.list ds) = false := by rw [areNumsD, decide_eq_false (by omega)]; rfl
      rw [e] at k
      walk_at "go"
      exact k _ (Same.refl _)
    · walk_at "go"
      intro D nD
      refine lcL_fl (xs := xs) (fun i => !((ds[i]?).map isNumD).getD true) nD (by omega) (SqL.of h) ?_ ?_
      · intro i x H2 Z Y hx hs hz hy
        obtain ⟨d, e1, e2⟩ := q.get' hx
        have e2' := e2.same hs
        walk_at "go"
        refine ite_b (fun e => ?_) (fun e => ?_)
        · walk_at "go"
          exact hz _ _ (by rw [e1]; exact e) (by walk_at "g_same")
        · exact hy _ (by rw [e1]; exact e) (by walk_at "g_same")
      · intro acc H2 hD hs hc ha
        walk_at "go"
        rw [len0_all hl hc]
        have e : areNumsD n (.list ds) = ds.all isNumD := by rw [areNumsD, decide_eq_true (by omega)]; rfl
        rw [e] at k
        exact k _ (by walk_at "g_same")
  | non => walk_at "go"; exact k _ (Same.refl _)
  | bl b => walk_at "go"; exact k _ (Same.refl _)
  | int i => walk_at "go"; exact k _ (Same.refl _)
  | str x => walk_at "go"; exact k _ (Same.refl _)
  | tup h q => walk_at "go"; exact k _ (Same.refl _)

def sp_is_rule (K : PySem.W.Frag) : Sp := fun vs H Q E => ∃ (a : Addr) (w : Str) (xs : List V) (ds : List PyData), vs = [.ref a] ∧ (H a = some (.tup (.str w :: xs))) ∧ (DqAll H xs ds) ∧ Q (.bl (isRuleD ds)) H
theorem use_is_rule {K : PySem.W.Frag} {H : Hp} {Q : VK} {E : XK} {a : Addr} {w : Str} {xs : List V} {ds : List PyData} (p0 : H a = some (.tup (.str w :: xs))) (p1 : DqAll H xs ds) (k : Q (.bl (isRuleD ds)) H) : sp_is_rule K [.ref a] H Q E := ⟨a, w, xs, ds, rfl, p0, p1, k⟩
theorem len_is_rule {K : PySem.W.Frag} (vs : List V) (H : Hp) (Q : VK) (E : XK) (h : sp_is_rule K vs H Q E) : vs.length = ["field"].length := by
  obtain ⟨_, _, _, _, rfl, _⟩ := h
  rfl
local macro_rules | `(tactic| walk_at "g_call") => `(tactic| ((with_reducible refine' use_is_rule ?c0 ?c1 ?_); (case c0 => walk_at "g_pre"); (case c1 => walk_at "g_pre"); intros))
theorem ok_is_rule (T : Txt K mg) : FnOk P w K mg base CX0 2 T.a_is_rule T.d_is_rule ["field"] (sp_is_rule K) := by
  have G_is_number := ok_is_number (P := P) (w := w) (base := base) T
  refine T.F_is_rule.ok sc_is_rule len_is_rule (fun cdv A outer s H vs Q E hr h => ?_)
  refine ⟨_, (pss_one (ps_ret (pe_and (pe_cmpR op_eq (pe_callB (call_lenK K rfl) (by rfl) T.z_len (by decide +kernel) (pa_cons (pv 0) pa_nil)) pe_int (nomark _)) (pe_and (pe_call G_is_number (hr.mono (by first | decide | omega)) (by rfl) T.g_is_number T.F_is_number.kp T.b_is_number .nil pass0 (pa_cons (pe_ix (ix_tupK K rfl) (pv 0) pe_int (fun _ _ => rfl)) pa_nil)) (pe_and (pe_call G_is_number (hr.mono (by first | decide | omega)) (by rfl) T.g_is_number T.F_is_number.kp T.b_is_number .nil pass0 (pa_cons (pe_ix (ix_tupK K rfl) (pv 0) pe_int (fun _ _ => rfl)) pa_nil)) (pe_one (pe_cmpR op_ge (pe_ix (ix_tupK K rfl) (pv 0) pe_int (fun _ _ => rfl)) pe_int (nomark _)))))))), ?_⟩
  try dsimp only [L2.cxOf, L2.Cx.nox, L2.Cx.wish, List.map_cons, List.map_nil]
  obtain ⟨a, w, xs, ds, rfl, p0, p1, k⟩ := h
  refine start_to (σ := [some _]) rfl ?_
  cases p1 with
  | nil => walk_at "goO"; exact k
  | cons h1 q1 =>
    cases q1 with
    | nil =>
      walk_at "goO"
      rw [rule_short1] at k
      exact k
    | cons h2 q2 =>
      cases q2 with
      | nil =>
        walk_at "goO"
        refine ite_b (fun c1 => ?_) (fun c1 => ?_)
        · obtain ⟨x, rfl⟩ := num_inv c1
          obtain rfl := h1.int_inv
          walk_at "go"
          refine ite_b (fun c2 => ?_) (fun c2 => ?_)
          · obtain ⟨y, rfl⟩ := num_inv c2
            obtain rfl := h2.int_inv
            walk_at "go"
            exact k
          · rw [rule_no2 c2] at k
            exact k
        · rw [rule_no1 c1] at k
          exact k
      | cons h3 q3 =>
        walk_at "goO"
        rw [rule_long] at k
        exact k
def sp_is_field (K : PySem.W.Frag) : Sp := fun vs H Q E => ∃ (a : Addr) (w : Str) (xs : List V) (ds : List PyData) (f s : Int), vs = [.ref a, .int f, .int s] ∧ (H a = some (.tup (.str w :: xs))) ∧ (DqAll H xs ds) ∧ (wid (.tuple ds) ≤ 1000) ∧ (0 ≤ f ∧ f ≤ 10 ∧ 0 ≤ s ∧ s ≤ 10) ∧ ∀ (H' : Hp), (Same H H') → Q (.bl (isFieldD f s w ds)) H'
theorem use_is_field {K : PySem.W.Frag} {H : Hp} {Q : VK} {E : XK} {a : Addr} {w : Str} {xs : List V} {ds : List PyData} {f s : Int} (p0 : H a = some (.tup (.str w :: xs))) (p1 : DqAll H xs ds) (p2 : wid (.tuple ds) ≤ 1000) (p3 : 0 ≤ f ∧ f ≤ 10 ∧ 0 ≤ s ∧ s ≤ 10) (k : ∀ (H' : Hp), (Same H H') → Q (.bl (isFieldD f s w ds)) H') : sp_is_field K [.ref a, .int f, .int s] H Q E := ⟨a, w, xs, ds, f, s, rfl, p0, p1, p2, p3, k⟩
theorem len_is_field {K : PySem.W.Frag} (vs : List V) (H : Hp) (Q : VK) (E : XK) (h : sp_is_field K vs H Q E) : vs.length = ["field", "first", "second"].length := by
  obtain ⟨_, _, _, _, _, _, rfl, _⟩ := h
  rfl
local macro_rules | `(tactic| walk_at "g_call") => `(tactic| ((with_reducible refine' use_is_field ?c0 ?c1 ?c2 ?c3 ?_); (case c0 => walk_at "g_pre"); (case c1 => walk_at "g_pre"); (case c2 => walk_at "g_pre"); (case c3 => walk_at "g_pre"); intros))
theorem ok_is_field (T : Txt K mg) : FnOk P w K mg base CX0 3 T.a_is_field T.d_is_field ["field", "first", "second"] (sp_is_field K) := by
  have G_is_rule := ok_is_rule (P := P) (w := w) (base := base) T
  have G_are_numbers := ok_are_numbers (P := P) (w := w) (base := base) T
  refine T.F_is_field.ok sc_is_field len_is_field (fun cdv A outer s H vs Q E hr h => ?_)
  refine ⟨_, (pss_cons (ps_if (pt_cmpR op_eq (pe_callB (call_lenK K rfl) (by rfl) T.z_len (by decide +kernel) (pa_cons (pv 0) pa_nil)) pe_int (nomark _)) (pss_one (ps_ret pe_bl)) pss_nil)
      (pss_cons (ps_if (pt_cmpR op_eq (pe_ix (ix_tupK K rfl) (pv 0) pe_int (fun _ _ => rfl)) pe_str (nomark _)) (pss_one (ps_ret (pe_and (pe_call G_is_rule (hr.mono (by first | decide | omega)) (by rfl) T.g_is_rule T.F_is_rule.kp T.b_is_rule .nil pass0 (pa_cons (pv 0) pa_nil)) (pe_and (pe_cmpR op_le (pe_op op_sub pe_int (pe_ix (ix_tupK K rfl) (pv 0) pe_int (fun _ _ => rfl))) (pe_ix (ix_tupK K rfl) (pv 0) pe_int (fun _ _ => rfl)) (nomark _)) (pe_one (pe_cmpR op_le (pe_ix (ix_tupK K rfl) (pv 0) pe_int (fun _ _ => rfl)) (pe_ix (ix_tupK K rfl) (pv 0) pe_int (fun _ _ => rfl)) (nomark _))))))) pss_nil)
      (pss_cons (ps_if (pt_cmpR op_eq (pe_ix (ix_tupK K rfl) (pv 0) pe_int (fun _ _ => rfl)) pe_str (nomark _)) (pss_one (ps_ret (pe_call G_is_rule (hr.mono (by first | decide | omega)) (by rfl) T.g_is_rule T.F_is_rule.kp T.b_is_rule .nil pass0 (pa_cons (pv 0) pa_nil)))) pss_nil)
      (pss_cons (ps_if (PW.pt (pw_or (pt_cmpR op_ne (pe_ix (ix_tupK K rfl) (pv 0) pe_int (fun _ _ => rfl)) pe_str (nomark _)) (pw_or (pt_cmpR op_ne (pe_callB (call_lenK K rfl) (by rfl) T.z_len (by decide +kernel) (pa_cons (pv 0) pa_nil)) pe_int (nomark _)) (pw_or (pt_not (pt_val (pe_callB (call_isXK K rfl) (by rfl) T.z_isinstance (by decide +kernel) (pa_cons (pe_ix (ix_tupK K rfl) (pv 0) pe_int (fun _ _ => rfl)) (pa_cons (pe_bltn (v := .ty "list") rfl T.z_list (by decide +kernel) rfl) pa_nil))))) (pw_or1 (pt_cmpR op_ne (pe_callB (call_lenK K rfl) (by rfl) T.z_len (by decide +kernel) (pa_cons (pe_ix (ix_tupK K rfl) (pv 0) pe_int (fun _ _ => rfl)) pa_nil)) (pe_op op_add (pv 1) pe_int) (nomark _))))))) (pss_one (ps_ret pe_bl)) pss_nil)
      (pss_one (ps_ret (pe_cmpR op_eq (pe_callB (call_lenK K rfl) (by rfl) T.z_len (by decide +kernel) (pa_cons (pe_lc (own := [("row", 3)]) rfl sc_is_field.nd (pi_listK K rfl (pe_ix (ix_tupK K rfl) (pv 0) pe_int (fun _ _ => rfl))) (blkOk_by (own := [("row", 3)]) (N := ["field", "first", "second", "row"]) (sc := defScope s_is_field) (by decide +kernel)) (fun _ _ _ _ _ => (pg_name (i := 3) sc_is_field.nd rfl (Or.inl rfl))) (fun _ _ _ _ _ => (pts_one (pt_not (pt_val (pe_call G_are_numbers (hr.mono (by first | decide | omega)) (by rfl) T.g_are_numbers T.F_are_numbers.kp T.b_are_numbers .nil pass0 (pa_cons (pv 3) (pa_cons (pe_op op_add (pv 2) pe_int) pa_nil))))))) (fun _ _ _ _ _ => (pv 3))) pa_nil)) pe_int (nomark _)))))))), ?_⟩
  try dsimp only [L2.cxOf, L2.Cx.nox, L2.Cx.wish, List.map_cons, List.map_nil]
  obtain ⟨a, w, xs, ds, f, s, rfl, p0, p1, p2, p3, k⟩ := h
  refine start_to (σ := [some _, some _, some _, none]) rfl ?_
  have hl := p1.len
  rw [wid] at p2
  walk_at "goO"
  by_cases c1 : w = PySem.Str.ofString "more"
  · have e : isFieldD f s w ds = isMoreD ds := if_pos c1
    rw [e] at k
    refine ite_y (by simp [c1]) ?_
    walk_at "go"
    refine ite_b (fun c => ?_) (fun c => ?_)
    · obtain ⟨x, y, rfl, hx⟩ := rule_inv c
      obtain rfl := dq_two_ints p1
      walk_at "go"
      refine ite_d (fun c2 => ?_) (fun c2 => ?_)
      · walk_at "go"
        rw [more_yes hx c2] at k
        exact k _ (Same.refl _)
      · rw [more_no c2] at k
        exact k _ (Same.refl _)
    · rw [more_rule c] at k
      exact k _ (Same.refl _)
  · refine ite_n (by simp [c1]) ?_
    walk_at "go"
    by_cases c2 : w = PySem.Str.ofString "lead"
    · have e : isFieldD f s w ds = isRuleD ds := by rw [isFieldD, if_neg c1, if_pos c2]
      rw [e] at k
      refine ite_y (by simp [c2]) ?_
      walk_at "go"
      exact k _ (Same.refl _)
    · refine ite_n (by simp [c2]) ?_
      walk_at "go"
      by_cases c3 : w = PySem.Str.ofString "table"
      · have e : isFieldD f s w ds = isRowsD f s ds := by rw [isFieldD, if_neg c1, if_neg c2, if_pos c3]
        rw [e] at k
        refine ite_n (by simp [c3]) ?_
        walk_at "go"
        cases p1 with
        | nil =>
          walk_at "goO"
          exact k _ (Same.refl _)
        | cons h1 q1 =>
          cases q1 with
          | cons h2 q2 =>
            rw [rows_long] at k
            refine ite_y (by simp; try omega) ?_
            walk_at "goO"
            exact k _ (Same.refl _)
          | nil =>
            walk_at "goO"
            cases h1 with
            | @lst p rs ds h4 q4 =>
              have hl4 := q4.len
              walk_at "go"
              refine ite_nd (fun c => ?_) (fun c => ?_)
              · rw [rows_no (by omega)] at k
                walk_at "go"
                exact k _ (Same.refl _)
              · have p5 : ∀ d ∈ ds, wid d ≤ 1000 := fun d hd => by
                  have := widA_mem hd
                  simp only [widA, wid] at p2
                  omega
                walk_at "go"
                intro D nD
                refine lcL_fl (xs := rs) (fun i => !((ds[i]?).map (areNumsD (s + 1))).getD true) nD (by omega) (SqL.of h4) ?_ ?_
                · intro i x H2 Z Y hx hs hz hy
                  obtain ⟨d, e1, e2⟩ := q4.get' hx
                  have e2' := e2.same hs
                  have e3 := p5 d (List.mem_of_getElem? e1)
                  walk_at "go"
                  refine ite_b (fun e => ?_) (fun e => ?_)
                  · walk_at "go"
                    exact hz _ _ (by rw [e1]; exact e) (by walk_at "g_same")
                  · exact hy _ (by rw [e1]; exact e) (by walk_at "g_same")
                · intro acc H2 hD hs hc ha
                  walk_at "go"
                  rw [len0_all hl4 hc]
                  rw [rows_yes (by omega)] at k
                  exact k _ (by walk_at "g_same")
            | non => walk_at "go"; rw [rows_one (by rfl)] at k; exact k _ (Same.refl _)
            | bl b => walk_at "go"; rw [rows_one (by rfl)] at k; exact k _ (Same.refl _)
            | int i => walk_at "go"; rw [rows_one (by rfl)] at k; exact k _ (Same.refl _)
            | str x => walk_at "go"; rw [rows_one (by rfl)] at k; exact k _ (Same.refl _)
            | tup h q => walk_at "go"; rw [rows_one (by rfl)] at k; exact k _ (Same.refl _)
      · have e : isFieldD f s w ds = false := by rw [isFieldD, if_neg c1, if_neg c2, if_neg c3]
        rw [e] at k
        refine ite_y (by simp [c3]) ?_
        walk_at "go"
        exact k _ (Same.refl _)
def sp_look_battle (K : PySem.W.Frag) (e_NoBattle : Addr) : Sp := fun vs H Q E => ∃ (v : V) (f s : Int) (ds : List PyData), vs = [v] ∧ (Dq H v (batT f s ds)) ∧ ((∀ d ∈ ds, FldIn d)) ∧ (ds.length ≤ 1000) ∧ ((badB f s ds = none) → ∀ (H' : Hp), (Same H H') → Q (.non) H') ∧ (¬ (badB f s ds = none) → ∀ k d H', badB f s ds = some k → H d = none → H' d = some (.xd [(("field" : Str), .int k)]) → Same H H' → E (.ref e_NoBattle) (some d) H')
theorem use_look_battle {K : PySem.W.Frag} {e_NoBattle : Addr} {H : Hp} {Q : VK} {E : XK} {v : V} {f s : Int} {ds : List PyData} (p0 : Dq H v (batT f s ds)) (p1 : (∀ d ∈ ds, FldIn d)) (p2 : ds.length ≤ 1000) (k : (badB f s ds = none) → ∀ (H' : Hp), (Same H H') → Q (.non) H') (kx : ¬ (badB f s ds = none) → ∀ k d H', badB f s ds = some k → H d = none → H' d = some (.xd [(("field" : Str), .int k)]) → Same H H' → E (.ref e_NoBattle) (some d) H') : sp_look_battle K e_NoBattle [v] H Q E := ⟨v, f, s, ds, rfl, p0, p1, p2, k, kx⟩
theorem len_look_battle {K : PySem.W.Frag} {e_NoBattle : Addr} (vs : List V) (H : Hp) (Q : VK) (E : XK) (h : sp_look_battle K e_NoBattle vs H Q E) : vs.length = ["battle"].length := by
  obtain ⟨_, _, _, _, rfl, _⟩ := h
  rfl
local macro_rules | `(tactic| walk_at "g_call") => `(tactic| ((with_reducible refine' use_look_battle ?c0 ?c1 ?c2 ?kk ?kx); (case c0 => walk_at "g_pre"); (case c1 => walk_at "g_pre"); (case c2 => walk_at "g_pre"); first | ((case kx => (intro _; exfalso; walk_at "g_no")); intros) | ((case kk => (intro _; exfalso; walk_at "g_no")); intros) | skip))
theorem ok_look_battle (T : Txt K mg) : FnOk P w K mg base (L2.CX P w) 4 T.a_look_battle T.d_look_battle ["battle"] (sp_look_battle K T.e_NoBattle) := by
  have G_NoBattle_init := ok_NoBattle_init (P := P) (w := w) (base := base) T
  have G_is_field := ok_is_field (P := P) (w := w) (base := base) T
  refine T.F_look_battle.okX sc_look_battle len_look_battle (fun cdv A outer s H vs Q E hr h => ?_)
  refine ⟨_, (pss_cons (ps_asg (pv 0) (pg_tupK K rfl 3 rfl (pgs_cons (pg_name (i := 1) sc_look_battle.nd rfl (Or.inl rfl)) (pgs_cons (pg_name (i := 2) sc_look_battle.nd rfl (Or.inl rfl)) (pgs_cons (pg_name (i := 3) sc_look_battle.nd rfl (Or.inl rfl)) pgs_nil)))))
      (pss_cons (ps_if (PW.pt (pw_or (pt_cmpR op_lt (pe_callB (call_min2 rfl) (by rfl) T.z_min (by decide +kernel) (pa_cons (pv 1) (pa_cons (pv 2) pa_nil))) pe_int (nomark _)) (pw_or (pt_cmpR op_gt (pe_callB (call_max2 rfl) (by rfl) T.z_max (by decide +kernel) (pa_cons (pv 1) (pa_cons (pv 2) pa_nil))) (pe_glob (v := .int 10) rfl T.c_MOST_HOSTS ⟨_, rfl⟩) (nomark _)) (pw_or (pt_cmpR op_lt (pe_callB (call_lenK K rfl) (by rfl) T.z_len (by decide +kernel) (pa_cons (pv 3) pa_nil)) pe_int (nomark _)) (pw_or1 (pt_cmpR op_gt (pe_callB (call_lenK K rfl) (by rfl) T.z_len (by decide +kernel) (pa_cons (pv 3) pa_nil)) (pe_glob (v := .int 5) rfl T.c_MOST_FIELDS ⟨_, rfl⟩) (nomark _))))))) (pss_one (ps_raise rfl (takes_of rfl rfl rfl rfl) (pmk_oex (Txt.O_NoBattle T) T.ic_NoBattle T.ti_NoBattle G_NoBattle_init (hr.mono (by first | decide | omega)) T.b_NoBattle_init .nil pass0 rfl T.g_NoBattle (pa_cons (pe_un un_neg pe_int) pa_nil)))) pss_nil)
      (pss_one (ps_for (passes_of rfl) rfl (pi_range1 rfl T.z_range (pa_cons (pe_callB (call_lenK K rfl) (by rfl) T.z_len (by decide +kernel) (pa_cons (pv 3) pa_nil)) pa_nil)) (pg_name (i := 4) sc_look_battle.nd rfl (Or.inl rfl)) (pss_one (ps_if (pt_not (pt_val (pe_call G_is_field (hr.mono (by first | decide | omega)) (by rfl) T.g_is_field T.F_is_field.kp T.b_is_field .nil pass0 (pa_cons (pe_ix (ix_listK K rfl) (pv 3) (pv 4) (fun _ _ => rfl)) (pa_cons (pv 1) (pa_cons (pv 2) pa_nil)))))) (pss_one (ps_raise rfl (takes_of rfl rfl rfl rfl) (pmk_oex (Txt.O_NoBattle T) T.ic_NoBattle T.ti_NoBattle G_NoBattle_init (hr.mono (by first | decide | omega)) T.b_NoBattle_init .nil pass0 rfl T.g_NoBattle (pa_cons (pv 4) pa_nil)))) pss_nil)))))), ?_⟩
  try dsimp only [L2.cxOf, L2.Cx.nox, L2.Cx.wish, List.map_cons, List.map_nil]
  obtain ⟨v, f, s, ds, rfl, p0, p1, p2, k, kx⟩ := h
  obtain ⟨a, p, xs, rfl, h1, h2, h3⟩ := batT_inv p0
  have hl := h3.len
  refine start_to (σ := [some _, none, none, none, none]) rfl ?_
  walk_at "go"
  by_cases sz : f < 0 ∨ s < 0 ∨ 10 < f ∨ 10 < s ∨ ds.length < 1 ∨ 5 < ds.length
  · have e : badB f s ds = some (-1) := if_pos sz
    have fin : ∀ d H', H d = none → H' d = some (.xd [(("field" : Str), .int (-1))]) → Same H H' → E (.ref T.e_NoBattle) (some d) H' := fun d H' => kx (by rw [e]; simp) (-1) d H' e
    refine ite_d (fun c1 => ?_) (fun c1 => ?_)
    · walk_at "go"
      exact fin _ _ (by assumption) (by assumption) (by assumption)
    walk_at "go"
    refine ite_d (fun c2 => ?_) (fun c2 => ?_)
    · walk_at "go"
      exact fin _ _ (by assumption) (by assumption) (by assumption)
    walk_at "go"
    refine ite_d (fun c3 => ?_) (fun c3 => ?_)
    · walk_at "go"
      exact fin _ _ (by assumption) (by assumption) (by assumption)
    walk_at "go"
    refine ite_d (fun c4 => ?_) (fun c4 => ?_)
    · walk_at "go"
      exact fin _ _ (by assumption) (by assumption) (by assumption)
    · exfalso
      omega
  · have sz2 : 0 ≤ f ∧ f ≤ 10 ∧ 0 ≤ s ∧ s ≤ 10 ∧ 1 ≤ ds.length ∧ ds.length ≤ 5 := by omega
    have sz3 : 0 ≤ f ∧ f ≤ 10 ∧ 0 ≤ s ∧ s ≤ 10 := by omega
    walk_at "goO"
    refine forR (fun i σ H1 => ∃ y1, σ = [some (.ref a), some (.int f), some (.int s), some (.ref p), y1] ∧ Same H H1 ∧ ∀ (j : Nat) e, j < i → ds[j]? = some e → isFldT f s e = true) ⟨_, rfl, by walk_at "g_same", by omega⟩ ?_ ?_
    · rintro σ1 H1 ⟨y1, rfl, g1, g2⟩
      walk_at "goO"
      refine k (bad_none.mpr ⟨by omega, by omega, by omega, fun d hd => ?_⟩) _ (by walk_at "g_same")
      obtain ⟨j, hj, rfl⟩ := List.mem_iff_getElem.mp hd
      exact g2 j _ (by omega) (List.getElem?_eq_getElem hj)
    · rintro i σ1 H1 hi ⟨y1, rfl, g1, g2⟩
      obtain ⟨w, hat, hw⟩ := at_lt (xs := xs) (i := 0 + (i : Int)) (by omega) (by omega)
      obtain ⟨d, e1, e2⟩ := h3.get' hw
      obtain ⟨wd, r, rfl, hr⟩ := p1 d (List.mem_of_getElem? e1)
      obtain ⟨b, ys, rfl, h4, h5⟩ := fldT_inv (e2.same g1)
      have i1 : (0 + (i : Int)).toNat = i := by omega
      rw [i1] at e1
      have h2' := g1 _ _ h2
      walk_at "goO"
      rename_i H2 g3
      refine ite_b (fun c => ?_) (fun c => ?_)
      · have c' : isFieldD f s wd r = false := by simpa using c
        have hb := bad_at sz2 e1 c' g2
        walk_at "goO"
        rename_i dd H3 n1 n2 n3
        refine kx (by rw [hb]; simp) _ dd H3 hb (Same.free (g1.trans g3) n1) ?_ ((g1.trans g3).trans n3)
        rw [n2, Int.zero_add]
      · have c' : isFieldD f s wd r = true := by simpa using c
        walk_at "goO"
        refine ⟨_, rfl, by walk_at "g_same", fun j e hj he => ?_⟩
        by_cases cj : j = i
        · subst cj
          rw [e1] at he
          obtain rfl := Option.some.inj he
          exact c'
        · exact g2 j e (by omega) he
theorem use_look_battle_ok {K : PySem.W.Frag} {e_NoBattle : Addr} {v : V} {f s : Int} {fs : List Fld} {H : Hp} {Q : VK} {E : XK} (p0 : Dq H v (batD f s fs)) (p1 : BatOk f s fs) (k : ∀ H' : Hp, Same H H' → Q .non H') : sp_look_battle K e_NoBattle [v] H Q E :=
  use_look_battle (ds := fs.map fldD) p0 (bat_in p1) (by rw [List.length_map]; exact Nat.le_trans p1.ne.2 (by decide)) (fun _ => k) fun c => absurd (bad_ok.mpr p1) c
local macro_rules | `(tactic| walk_at "g_call") => `(tactic| ((with_reducible refine' use_look_battle_ok ?c0 ?c1 ?_); (case c0 => walk_at "g_pre"); (case c1 => walk_at "g_pre"); intros))

def sp_is_row (K : PySem.W.Frag) : Sp := fun vs H Q E => ∃ (v : V) (d : PyData) (h : Int), vs = [v, .int h] ∧ (Dq H v d) ∧ (wid d ≤ 1000) ∧ ∀ (H' : Hp), (Same H H') → Q (.bl (isRowB h d)) H'
theorem use_is_row {K : PySem.W.Frag} {H : Hp} {Q : VK} {E : XK} {v : V} {d : PyData} {h : Int} (p0 : Dq H v d) (p1 : wid d ≤ 1000) (k : ∀ (H' : Hp), (Same H H') → Q (.bl (isRowB h d)) H') : sp_is_row K [v, .int h] H Q E := ⟨v, d, h, rfl, p0, p1, k⟩
theorem len_is_row {K : PySem.W.Frag} (vs : List V) (H : Hp) (Q : VK) (E : XK) (h : sp_is_row K vs H Q E) : vs.length = ["row", "hosts"].length := by
  obtain ⟨_, _, _, rfl, _⟩ := h
  rfl
local macro_rules | `(tactic| walk_at "g_call") => `(tactic| ((with_reducible refine' use_is_row ?c0 ?c1 ?_); (case c0 => walk_at "g_pre"); (case c1 => walk_at "g_pre"); intros))
theorem ok_is_row (T : Txt K mg) : FnOk P w K mg base CX0 2 T.a_is_row T.d_is_row ["row", "hosts"] (sp_is_row K) := by
  have G_is_number := ok_is_number (P := P) (w := w) (base := base) T
  refine T.F_is_row.ok sc_is_row len_is_row (fun cdv A outer s H vs Q E hr h => ?_)
  refine ⟨_, (pss_cons (ps_if (PW.pt (pw_or (pt_not (pt_val (pe_callB (call_isXK K rfl) (by rfl) T.z_isinstance (by decide +kernel) (pa_cons (pv 0) (pa_cons (pe_bltn (v := .ty "list") rfl T.z_list (by decide +kernel) rfl) pa_nil))))) (pw_or1 (pt_cmpR op_eq (pe_callB (call_lenK K rfl) (by rfl) T.z_len (by decide +kernel) (pa_cons (pv 0) pa_nil)) pe_int (nomark _))))) (pss_one (ps_ret pe_bl)) pss_nil)
      (pss_cons (ps_for PassesOwn.never rfl (pi_listK K rfl (pv 0)) (pg_name (i := 2) sc_is_row.nd rfl (Or.inl rfl)) (pss_cons (ps_if (PW.pt (pw_or (pt_not (pt_val (pe_callB (call_isXK K rfl) (by rfl) T.z_isinstance (by decide +kernel) (pa_cons (pv 2) (pa_cons (pe_bltn (v := .ty "tuple") rfl T.z_tuple (by decide +kernel) rfl) pa_nil))))) (pw_or (pt_cmpR op_ne (pe_callB (call_lenK K rfl) (by rfl) T.z_len (by decide +kernel) (pa_cons (pv 2) pa_nil)) pe_int (nomark _)) (pw_or1 (pt_cmpR op_gt (pe_callB (call_lenK K rfl) (by rfl) T.z_len (by decide +kernel) (pa_cons (pe_lc (own := [("one", 7)]) rfl sc_is_row.nd (pi_tupK K rfl (pv 2)) (blkOk_by (own := [("one", 7)]) (N := ["row", "hosts", "part", "left", "sent", "flow", "k", "one"]) (sc := defScope s_is_row) (by decide +kernel)) (fun _ _ _ _ _ => (pg_name (i := 7) sc_is_row.nd rfl (Or.inl rfl))) (fun _ _ _ _ _ => (pts_one (pt_not (pt_val (pe_call G_is_number (hr.mono (by first | decide | omega)) (by rfl) T.g_is_number T.F_is_number.kp T.b_is_number .nil pass0 (pa_cons (pv 7) pa_nil)))))) (fun _ _ _ _ _ => (pv 7))) pa_nil)) pe_int (nomark _)))))) (pss_one (ps_ret pe_bl)) pss_nil)
      (pss_cons (ps_asg (pv 2) (pg_tupK K rfl 3 rfl (pgs_cons (pg_name (i := 3) sc_is_row.nd rfl (Or.inl rfl)) (pgs_cons (pg_name (i := 4) sc_is_row.nd rfl (Or.inl rfl)) (pgs_cons (pg_name (i := 5) sc_is_row.nd rfl (Or.inl rfl)) pgs_nil)))))
      (pss_one (ps_if (PW.pt (pw_or (pt_cmpR op_lt (pv 4) pe_int (nomark _)) (pw_or (pt_cmpR op_gt (pv 4) (pv 3) (nomark _)) (pw_or (pt_cmpR op_gt (pv 3) (pv 1) (nomark _)) (pw_or1 (pt_cmpR op_lt (pv 5) pe_int (nomark _))))))) (pss_one (ps_ret pe_bl)) pss_nil)))))
      (pss_one (ps_ret (pe_cmpR op_eq (pe_callB (call_lenK K rfl) (by rfl) T.z_len (by decide +kernel) (pa_cons (pe_lc (own := [("k", 6)]) rfl sc_is_row.nd (pi_range2 (by rfl) T.z_range (pa_cons pe_int (pa_cons (pe_callB (call_lenK K rfl) (by rfl) T.z_len (by decide +kernel) (pa_cons (pv 0) pa_nil)) pa_nil))) (blkOk_by (own := [("k", 6)]) (N := ["row", "hosts", "part", "left", "sent", "flow", "k", "one"]) (sc := defScope s_is_row) (by decide +kernel)) (fun _ _ _ _ _ => (pg_name (i := 6) sc_is_row.nd rfl (Or.inl rfl))) (fun _ _ _ _ _ => (pts_one (pt_cmpR (op_leTK K rfl hr.units0) (pe_slice (sl_tupK K rfl) (pe_ix (ix_listK K rfl) (pv 0) (pv 6) (fun _ _ => rfl)) po_none (po_some pe_int)) (pe_slice (sl_tupK K rfl) (pe_ix (ix_listK K rfl) (pv 0) (pe_op op_sub (pv 6) pe_int) (fun _ _ => rfl)) po_none (po_some pe_int)) (nomark _)))) (fun _ _ _ _ _ => (pv 6))) pa_nil)) pe_int (nomark _)))))), ?_⟩
  try dsimp only [L2.cxOf, L2.Cx.nox, L2.Cx.wish, List.map_cons, List.map_nil]
  obtain ⟨v, d, h, rfl, p0, p1, k⟩ := h
  refine start_to (σ := [some _, some _, none, none, none, none, none, none]) rfl ?_
  cases p0 with
  | @lst a xs ds hA q =>
    have hl := q.len
    have p2 : ds.length ≤ 1000 := by rw [wid] at p1; omega
    walk_at "go"
    by_cases c0 : ds = []
    · subst c0
      refine ite_y (by simpa using hl) ?_
      walk_at "go"
      rw [row_nil] at k
      exact k _ (Same.refl _)
    have c1 : 1 ≤ ds.length := by
      cases ds with
      | nil => exact absurd rfl c0
      | cons d ds => simp
    refine ite_n (decide_eq_false (by omega)) ?_
    walk_at "go"
    refine forL (xs := xs) (fun i σ H1 => ∃ y1 y2 y3 y4, σ = [some (.ref a), some (.int h), y1, y2, y3, y4, none, none] ∧ Same H H1 ∧ ∀ (j : Nat) e, j < i → ds[j]? = some e → ∃ x, e = flD x ∧ FlOk h x) ⟨_, _, _, _, rfl, Same.refl _, by omega⟩ ?_ ?_ ?_
    · rintro i σ H1 _ ⟨y1, y2, y3, y4, rfl, g1, _⟩
      exact SqL.of (g1 _ _ hA)
    · rintro σ H1 ⟨y1, y2, y3, y4, rfl, g1, g2⟩
      obtain ⟨L, rfl, hw⟩ := fls_of (ds := ds) fun d hd => by
        obtain ⟨j, hj, rfl⟩ := List.mem_iff_getElem.mp hd
        exact g2 j _ (by omega) (List.getElem?_eq_getElem hj)
      rw [List.length_map] at c1 p2 hl
      have hA' := g1 _ _ hA
      have q1 := q.same g1
      have k' : ∀ H', Same H H' → Q (.bl (isRowB h (rowD L))) H' := k
      clear g2 q p1 k hA
      walk_at "goO"
      intro D nD
      refine lcR_fl (noUp L) nD (by omega) ?_ ?_
      · intro i H2 Z Y hi hs hz hy
        obtain ⟨e0, z0⟩ : ∃ e0, L[i]? = some e0 := ⟨L[i]'(by omega), List.getElem?_eq_getElem _⟩
        obtain ⟨e1, z1⟩ : ∃ e1, L[i + 1]? = some e1 := ⟨L[i + 1]'(by omega), List.getElem?_eq_getElem _⟩
        obtain ⟨t0, w0, w1⟩ := fl_at q1 z0
        obtain ⟨t1, w2, w3⟩ := fl_at q1 z1
        have hA2 := hs _ _ hA'
        have w1' := hs _ _ w1
        have w3' := hs _ _ w3
        have a0 : atI xs (1 + (i : Int) - 1) = some (.ref t0) := by
          rw [show 1 + (i : Int) - 1 = i by omega]
          exact atI_nat w0
        have a1 : atI xs (1 + (i : Int)) = some (.ref t1) := by
          rw [show 1 + (i : Int) = ((i + 1 : Nat) : Int) by omega]
          exact atI_nat w2
        have cN := noUp_at z0 z1
        walk_at "goO"
        refine ite_d (fun c => ?_) (fun c => ?_)
        · rw [decide_eq_true c] at cN
          walk_at "goO"
          exact hz _ _ cN (by walk_at "g_same")
        · rw [decide_eq_false c] at cN
          exact hy _ cN (by walk_at "g_same")
      · intro acc H2 hD hs hc ha
        walk_at "goO"
        have := k' H2 (g1.trans hs)
        have e : decide ((acc.length : Int) = 0) = isRowB h (rowD L) := by
          rw [Bool.eq_iff_iff, decide_eq_true_iff, isRow_iff, row_iff, hc]
          constructor
          · intro z
            exact ⟨c1, hw, fun k a b e1 e2 => by
              have hk := (List.getElem?_eq_some_iff.mp e2).1
              exact noUp_no.mp (z k (by omega)) a b e1 e2⟩
          · intro z i hi
            exact noUp_no.mpr fun a b e1 e2 => z.up i a b e1 e2
        rw [e]
        exact this
    · rintro i x σ H1 hx ⟨y1, y2, y3, y4, rfl, g1, g2⟩
      obtain ⟨e, e1, e2⟩ := q.get' hx
      have e3 := e2.same g1
      have no : ∀ H', Same H1 H' → (∀ x : Fl, e = flD x → ¬ FlOk h x) → Q (.bl false) H' := fun H' s1 z => by
        have := k H' (g1.trans s1)
        rw [row_nofl e1 z] at this
        exact this
      have yes : ∀ (H' : Hp) (z1 z2 z3 : Option V), Same H1 H' → (∃ x, e = flD x ∧ FlOk h x) → ∃ y1 y2 y3 y4, ([some (.ref a), some (.int h), some x, z1, z2, z3, none, none] : L2.St) = [some (.ref a), some (.int h), y1, y2, y3, y4, none, none] ∧ Same H H' ∧ ∀ (j : Nat) e, j < i + 1 → ds[j]? = some e → ∃ x, e = flD x ∧ FlOk h x := fun H' z1 z2 z3 s1 z => ⟨_, _, _, _, rfl, g1.trans s1, fun j e' hj he => by
        by_cases c : j = i
        · subst c
          rw [e1] at he
          cases he
          exact z
        · exact g2 j e' (by omega) he⟩
      clear e2 k p1 q g2
      cases e3 with
      | non => walk_at "goO"; exact no _ (Same.refl _) nofun
      | bl b => walk_at "goO"; exact no _ (Same.refl _) nofun
      | int z => walk_at "goO"; exact no _ (Same.refl _) nofun
      | str z => walk_at "goO"; exact no _ (Same.refl _) nofun
      | lst h' q' => walk_at "goO"; exact no _ (Same.refl _) nofun
      | @tup t ys es h' q' =>
        have hy := q'.len
        walk_at "goO"
        refine ite_nd (fun c2 => ?_) (fun c2 => ?_)
        · walk_at "goO"
          refine no _ (Same.refl _) fun x e => ?_
          injection e with e
          rw [e] at hy
          exact absurd hy (by simp; omega)
        · obtain ⟨v1, v2, v3, d1, d2, d3, rfl, rfl, u1, u2, u3⟩ := DqAll.three q' (by omega)
          walk_at "goO"
          intro D nD
          refine lcT_fl (xs := [v1, v2, v3]) (fun i => !(([d1, d2, d3][i]?).map isNumD).getD true) nD (by simp) (SqT.of h') ?_ ?_
          · intro i x H2 Z Y hx hs hz hy
            obtain ⟨d, w1, w2⟩ := q'.get' hx
            have w3 := w2.same hs
            walk_at "goO"
            refine ite_b (fun e => ?_) (fun e => ?_)
            · walk_at "goO"
              exact hz _ _ (by rw [w1]; exact e) (by walk_at "g_same")
            · exact hy _ (by rw [w1]; exact e) (by walk_at "g_same")
          intro acc H2 hD hs hc ha
          walk_at "goO"
          by_cases num : isNumD d1 = true ∧ isNumD d2 = true ∧ isNumD d3 = true
          · obtain ⟨m1, m2, m3⟩ := num
            obtain ⟨x1, rfl⟩ := num_inv m1
            obtain ⟨x2, rfl⟩ := num_inv m2
            obtain ⟨x3, rfl⟩ := num_inv m3
            obtain rfl := u1.int_inv
            obtain rfl := u2.int_inv
            obtain rfl := u3.int_inv
            have hc0 : (acc.length : Int) = 0 := hc.mpr fun i hi => by
              rcases (by simp at hi; omega : i = 0 ∨ i = 1 ∨ i = 2) with rfl | rfl | rfl <;> rfl
            refine ite_n (decide_eq_false (by omega)) ?_
            have h2' := hs _ _ h'
            have f1 : ∀ x : Fl, PyData.tuple [.int x1, .int x2, .int x3] = flD x → x = (x1, x2, x3) := fun x e => (flD_inj (a := (x1, x2, x3)) e).symm
            walk_at "goO"
            refine ite_d (fun c3 => ?_) (fun c3 => ?_)
            · walk_at "goO"
              exact no _ hs fun x e z => by rw [f1 x e] at z; have := z.1; simp at this; omega
            walk_at "goO"
            refine ite_d (fun c4 => ?_) (fun c4 => ?_)
            · walk_at "goO"
              exact no _ hs fun x e z => by rw [f1 x e] at z; have := z.2.1; simp at this; omega
            walk_at "goO"
            refine ite_d (fun c5 => ?_) (fun c5 => ?_)
            · walk_at "goO"
              exact no _ hs fun x e z => by rw [f1 x e] at z; have := z.2.2.1; simp at this; omega
            walk_at "goO"
            refine ite_d (fun c6 => ?_) (fun c6 => ?_)
            · walk_at "goO"
              exact no _ hs fun x e z => by rw [f1 x e] at z; have := z.2.2.2; simp at this; omega
            walk_at "goO"
            exact yes _ _ _ _ hs ⟨(x1, x2, x3), rfl, by unfold FlOk; simp; omega⟩
          · have hc0 : ¬ (acc.length : Int) = 0 := fun z => num (by
              have g := hc.mp z
              have g0 := g 0 (by simp)
              have g1 := g 1 (by simp)
              have g2 := g 2 (by simp)
              simp at g0 g1 g2
              exact ⟨g0, g1, g2⟩)
            refine ite_y (decide_eq_true (by omega)) ?_
            walk_at "goO"
            refine no _ hs fun x e => ?_
            injection e with e
            injection e with e1' e
            injection e with e2' e
            injection e with e3' e
            rw [e1', e2', e3'] at num
            exact absurd ⟨rfl, rfl, rfl⟩ num
  | non => walk_at "go"; rw [row_nolist rfl] at k; exact k _ (Same.refl _)
  | bl b => walk_at "go"; rw [row_nolist rfl] at k; exact k _ (Same.refl _)
  | int i => walk_at "go"; rw [row_nolist rfl] at k; exact k _ (Same.refl _)
  | str x => walk_at "go"; rw [row_nolist rfl] at k; exact k _ (Same.refl _)
  | tup h q => walk_at "go"; rw [row_nolist rfl] at k; exact k _ (Same.refl _)
def sp_is_stream (K : PySem.W.Frag) : Sp := fun vs H Q E => ∃ (v : V) (d : PyData) (h n : Int), vs = [.int h, .int n, v] ∧ (Dq H v d) ∧ (wid d ≤ 1000) ∧ ∀ (H' : Hp), (Same H H') → Q (.bl (isStrB h n d)) H'
theorem use_is_stream {K : PySem.W.Frag} {H : Hp} {Q : VK} {E : XK} {v : V} {d : PyData} {h n : Int} (p0 : Dq H v d) (p1 : wid d ≤ 1000) (k : ∀ (H' : Hp), (Same H H') → Q (.bl (isStrB h n d)) H') : sp_is_stream K [.int h, .int n, v] H Q E := ⟨v, d, h, n, rfl, p0, p1, k⟩
theorem len_is_stream {K : PySem.W.Frag} (vs : List V) (H : Hp) (Q : VK) (E : XK) (h : sp_is_stream K vs H Q E) : vs.length = ["hosts", "fields", "stream"].length := by
  obtain ⟨_, _, _, _, rfl, _⟩ := h
  rfl
local macro_rules | `(tactic| walk_at "g_call") => `(tactic| ((with_reducible refine' use_is_stream ?c0 ?c1 ?_); (case c0 => walk_at "g_pre"); (case c1 => walk_at "g_pre"); intros))
theorem ok_is_stream (T : Txt K mg) : FnOk P w K mg base CX0 3 T.a_is_stream T.d_is_stream ["hosts", "fields", "stream"] (sp_is_stream K) := by
  have G_is_row := ok_is_row (P := P) (w := w) (base := base) T
  refine T.F_is_stream.ok sc_is_stream len_is_stream (fun cdv A outer s H vs Q E hr h => ?_)
  refine ⟨_, (pss_cons (ps_if (PW.pt (pw_or (pt_not (pt_val (pe_callB (call_isXK K rfl) (by rfl) T.z_isinstance (by decide +kernel) (pa_cons (pv 2) (pa_cons (pe_bltn (v := .ty "list") rfl T.z_list (by decide +kernel) rfl) pa_nil))))) (pw_or (pt_cmpR op_ne (pe_callB (call_lenK K rfl) (by rfl) T.z_len (by decide +kernel) (pa_cons (pv 2) pa_nil)) (pv 1) (nomark _)) (pw_or1 (pt_cmpR op_eq (pv 1) pe_int (nomark _)))))) (pss_one (ps_ret pe_bl)) pss_nil)
      (pss_cons (ps_set (i := 3) sc_is_stream.nd rfl (Or.inl rfl) pe_non)
      (pss_cons (ps_for PassesOwn.never rfl (pi_listK K rfl (pv 2)) (pg_name (i := 4) sc_is_stream.nd rfl (Or.inl rfl)) (pss_cons (ps_if (pt_not (pt_val (pe_call G_is_row (hr.mono (by first | decide | omega)) (by rfl) T.g_is_row T.F_is_row.kp T.b_is_row .nil pass0 (pa_cons (pv 4) (pa_cons (pv 0) pa_nil))))) (pss_one (ps_ret pe_bl)) pss_nil)
      (pss_cons (ps_set (i := 5) sc_is_stream.nd rfl (Or.inl rfl) pe_dnewK)
      (pss_cons (ps_set (i := 6) sc_is_stream.nd rfl (Or.inl rfl) pe_dnewK)
      (pss_cons (ps_for PassesOwn.never rfl (pi_listK K rfl (pv 4)) (pg_tupK K rfl 3 rfl (pgs_cons (pg_name (i := 7) sc_is_stream.nd rfl (Or.inl rfl)) (pgs_cons (pg_name (i := 8) sc_is_stream.nd rfl (Or.inl rfl)) (pgs_cons (pg_name (i := 9) sc_is_stream.nd rfl (Or.inl rfl)) pgs_nil)))) (pss_cons (ps_dput (hu_of hr) (pv 5) (pv 7) (pe_op op_add (pe_dget2 (hu_of hr) (pv 5) (pv 7) pe_int ⟨rfl, rfl, rfl, rfl⟩) (pv 9)) rfl)
      (pss_one (ps_dput (hu_of hr) (pv 6) (pe_op op_sub (pv 7) (pv 8)) (pe_op op_add (pe_dget2 (hu_of hr) (pv 6) (pe_op op_sub (pv 7) (pv 8)) pe_int ⟨rfl, rfl, rfl, rfl⟩) (pv 9)) rfl))))
      (pss_cons (ps_if (PW.pt (pw_or (PW.pt (pw_and (pt_cmpR op_isN (pv 3) pe_non (nomark _)) (pw_and1 (pt_cmpR (op_neDK K rfl hr.units) (pe_callTy (call_list_dK rfl) (by rfl) T.z_list (by decide +kernel) (pa_cons (pv 5) pa_nil)) (pe_lst (pa_cons (pv 0) pa_nil)) (nomark _))))) (pw_or1 (PW.pt (pw_and (pt_cmpR op_notN (pv 3) pe_non (nomark _)) (pw_and1 (pt_cmpR (op_neDI hr.units0) (pv 5) (pv 3) (nomark _)))))))) (pss_one (ps_ret pe_bl)) pss_nil)
      (pss_one (ps_set (i := 3) sc_is_stream.nd rfl (Or.inl rfl) (pv 6)))))))))
      (pss_one (ps_ret (pe_cmpR (op_eqDK K rfl hr.units) (pe_callTy (call_list_dK rfl) (by rfl) T.z_list (by decide +kernel) (pa_cons (pv 3) pa_nil)) (pe_lst (pa_cons pe_int pa_nil)) (nomark _))))))), ?_⟩
  try dsimp only [L2.cxOf, L2.Cx.nox, L2.Cx.wish, List.map_cons, List.map_nil]
  obtain ⟨v, d, h, n, rfl, p0, p1, k⟩ := h
  refine start_to (σ := [some _, some _, some _, none, none, none, none, none, none, none]) rfl ?_
  cases p0 with
  | @lst a xs ds hA q =>
    have hl := q.len
    have p2 : ds.length ≤ 1000 := by rw [wid] at p1; omega
    walk_at "go"
    refine ite_nd (fun c => ?_) (fun c => ?_)
    · walk_at "go"
      rw [str_len (by omega)] at k
      exact k _ (Same.refl _)
    walk_at "go"
    refine ite_d (fun c0 => ?_) (fun c0 => ?_)
    · walk_at "go"
      rw [str_len (by omega)] at k
      exact k _ (Same.refl _)
    walk_at "go"
    refine forL (xs := xs) (fun i σ H1 => ∃ (Ms : List (List Fl)) (cv : V) (y4 y5 y6 y7 y8 y9 : Option V), σ = [some (.int h), some (.int n), some (.ref a), some cv, y4, y5, y6, y7, y8, y9] ∧ Same H H1 ∧ ds.take i = Ms.map rowD ∧ PreG h Ms ∧ ComeOk H1 cv Ms) ⟨[], .non, _, _, _, _, _, _, rfl, Same.refl _, rfl, PreG.nil, .inl ⟨rfl, rfl⟩⟩ ?_ ?_ ?_
    · rintro i σ H1 _ ⟨Ms, cv, y4, y5, y6, y7, y8, y9, rfl, g1, _⟩
      exact SqL.of (g1 _ _ hA)
    · rintro σ H1 ⟨Ms, cv, y4, y5, y6, y7, y8, y9, rfl, g1, g2, g3, g4⟩
      rw [hl, List.take_length] at g2
      subst g2
      rw [List.length_map] at hl p2
      rcases g4 with ⟨rfl, _⟩ | ⟨M, cg, ks, h1, h2, rfl, h4, h5, h6⟩
      · exact absurd c (by have : xs.length = 0 := hl; omega)
      obtain ⟨ns, n1, n2, n3, n4⟩ := h5.keys
      have rM := g3.rows M (List.mem_of_getElem? h1)
      have hns : ns.length ≤ 1000 := by omega
      walk_at "goO"
      rw [n1]
      walk_at "goO"
      rename_i l nl p np
      refine i_eqLI (ms := ns) (ns := [0]) (SqL.of (by walk_at "g_lk")) (SqL.of upd_same) ?_
      have e : decide (ns = [0]) = isStrB h n (.list (Ms.map rowD)) := by
        rw [Bool.eq_iff_iff, decide_eq_true_iff, isStr_iff, keys_one h5 (gnF_ne rM.fl) rM.ne n3 n4]
        constructor
        · intro z
          exact ⟨Ms, rfl, ⟨by omega, c0⟩, g3, fun L hL => by
            rw [h1] at hL
            cases hL
            exact z⟩
        · rintro ⟨Ls, e, g⟩
          have : strD Ms = strD Ls := e
          rw [strD_inj this] at h1
          exact g.last M h1
      rw [e]
      exact k _ (by walk_at "g_same")
    · rintro i x σ H1 hx ⟨Ms, cv, y4, y5, y6, y7, y8, y9, rfl, g1, g2, g3, g4⟩
      obtain ⟨e, e1, e2⟩ := q.get' hx
      have e3 := e2.same g1
      have e4 : wid e ≤ 1000 := wid_mem p1 (List.mem_of_getElem? e1)
      have hi := (List.getElem?_eq_some_iff.mp e1).1
      have no : ∀ H', Same H1 H' → isStrB h n (.list ds) = false → Q (.bl false) H' := fun H' s1 z => by
        have := k H' (g1.trans s1)
        rw [z] at this
        exact this
      clear e2 k p1 q
      walk_at "goO"
      rename_i H2 s2
      refine ite_b (fun c1 => ?_) (fun c1 => ?_)
      · walk_at "goO"
        exact no _ s2 (str_norow e1 (isRow_no.mp (bnot c1)))
      obtain ⟨L, rfl, rG⟩ := isRow_iff.mp (bnot' c1)
      obtain ⟨b, ys, rfl, hb, qb⟩ := (e3.same s2).list_inv
      have hyl : ys.length = L.length := by rw [qb.len, List.length_map]
      have hyl2 : ys.length ≤ 1000 := by
        rw [rowD, wid, List.length_map] at e4
        omega
      have g4' := g4.same s2
      walk_at "goO"
      rename_i t nt g ng
      have ngt : g ≠ t := fun e => by
        rw [e, upd_same] at ng
        cases ng
      have nt0 : H2 t = none := nt
      have ng0 : H2 g = none := by walk_at "g_free"
      refine forL (xs := ys) (fun j σ H3 => ∃ (ks1 ks2 : List (Key × V)) (y7 y8 y9 : Option V), σ = [some (.int h), some (.int n), some (.ref a), some cv, some (.ref b), some (.ref t), some (.ref g), y7, y8, y9] ∧ Same H2 H3 ∧ H3 t = some (.dK ks1) ∧ H3 g = some (.dK ks2) ∧ FlI ks1 (tkF (L.take j)) ∧ FlI ks2 (gnF (L.take j)) ∧ ks1.length ≤ j ∧ ks2.length ≤ j) ⟨[], [], _, _, _, rfl, by walk_at "g_same", by walk_at "g_lk", upd_same, FlI.nil, FlI.nil, Nat.le_refl _, Nat.le_refl _⟩ ?_ ?_ ?_
      · rintro j σ H3 _ ⟨ks1, ks2, y7, y8, y9, rfl, s3, _⟩
        exact SqL.of (s3 _ _ hb)
      · rintro σ H3 ⟨ks1, ks2, y7, y8, y9, rfl, s3, f1, f2, f3, f4, f5, f6⟩
        rw [hyl, List.take_length] at f3 f4
        have g5 := g4'.same s3
        rcases g5 with ⟨rfl, rfl⟩ | ⟨M, cg, ks, z1, z2, rfl, z4, z5, z6⟩
        · obtain ⟨ns, n1, n2, n3, n4⟩ := f3.keys
          have kk : ns = [h] ↔ ∀ e ∈ L, e.1 = h := keys_one f3 (tkF_ne rG.fl) rG.ne n3 n4
          have i0 : i = 0 := by
            have : (ds.take i).length = 0 := by rw [g2]; rfl
            rw [List.length_take] at this
            omega
          walk_at "goO"
          rw [n1]
          rename_i l nl p np
          refine i_neLI (ms := ns) (ns := [h]) (SqL.of (by walk_at "g_lk")) (SqL.of upd_same) ?_
          walk_at "goO"
          refine ite_nd (fun c2 => ?_) (fun c2 => ?_)
          · walk_at "goO"
            rw [i0] at e1
            exact no _ (by walk_at "g_same") (str_nofirst e1 fun z => c2 (kk.mpr z))
          · walk_at "goO"
            refine ⟨[L], .ref g, _, _, _, _, _, _, rfl, by walk_at "g_same", ?_, PreG.nil.snoc rG (fun _ => kk.mp c2) nofun, .inr ⟨L, g, ks2, rfl, Nat.le_refl _, rfl, by walk_at "g_lk", f4, by omega⟩⟩
            rw [take_snoc e1, g2]
            rfl
        · have kk := keqI_iff f3 z5
          have li : Ms.length = i := by
            have := congrArg List.length g2
            rw [List.length_take, List.length_map] at this
            omega
          walk_at "goO"
          refine ite_b (fun c2 => ?_) (fun c2 => ?_)
          · walk_at "goO"
            refine no _ (by walk_at "g_same") (str_nolink (k := Ms.length - 1) (A := M) (B := L) ?_ ?_ fun z => ?_)
            · have : (ds.take i)[Ms.length - 1]? = some (rowD M) := by rw [g2, List.getElem?_map, z1]; rfl
              rw [List.getElem?_take_of_lt (by omega)] at this
              exact this
            · rw [show Ms.length - 1 + 1 = i by omega]
              exact e1
            · have := kk.mpr z
              rw [bnot c2] at this
              cases this
          · have z := kk.mp (bnot' c2)
            walk_at "goO"
            refine ⟨Ms ++ [L], .ref g, _, _, _, _, _, _, rfl, by walk_at "g_same", ?_, g3.snoc rG (fun c => by rw [c] at z2; simp at z2) (fun M' h1 _ => by
              rw [z1] at h1
              cases h1
              exact z), .inr ⟨L, g, ks2, by simp, by simp, rfl, by walk_at "g_lk", f4, by omega⟩⟩
            rw [take_snoc e1, g2, List.map_append]
            rfl
      · rintro j x σ H3 hx2 ⟨ks1, ks2, y7, y8, y9, rfl, s3, f1, f2, f3, f4, f5, f6⟩
        have hj : j < ys.length := (List.getElem?_eq_some_iff.mp hx2).1
        obtain ⟨e5, z1⟩ : ∃ e, L[j]? = some e := ⟨L[j]'(by omega), List.getElem?_eq_getElem _⟩
        obtain ⟨t1, w0, w1⟩ := fl_at qb z1
        rw [hx2] at w0
        cases w0
        have w1' := s3 _ _ w1
        have pos := rG.fl e5 (List.mem_of_getElem? z1)
        walk_at "goO"
        have l1 := putI_len (kvs := ks1) (k := .inl e5.1) (v := .int (tkF (L.take j) e5.1 + e5.2.2))
        have l2 := putI_len (kvs := ks2) (k := .inl (e5.1 - e5.2.1)) (v := .int (gnF (L.take j) (e5.1 - e5.2.1) + e5.2.2))
        refine ⟨_, _, _, _, _, rfl, Same.mut (Same.mut s3 nt0) ng0, lk_upd (Ne.symm ngt) upd_same, upd_same, ?_, ?_, by omega, by omega⟩
        · rw [tkF_snoc z1]
          exact f3.add pos
        · rw [gnF_snoc z1]
          exact f4.add pos
  | non => walk_at "go"; rw [str_nolist rfl] at k; exact k _ (Same.refl _)
  | bl b => walk_at "go"; rw [str_nolist rfl] at k; exact k _ (Same.refl _)
  | int i => walk_at "go"; rw [str_nolist rfl] at k; exact k _ (Same.refl _)
  | str x => walk_at "go"; rw [str_nolist rfl] at k; exact k _ (Same.refl _)
  | tup h q => walk_at "go"; rw [str_nolist rfl] at k; exact k _ (Same.refl _)

def sp_is_plan (K : PySem.W.Frag) : Sp := fun vs H Q E => ∃ (h : Int) (n : Nat) (a : Addr) (ms : List Int), vs = [.int h, .int n, .ref a] ∧ (H a = some (.lst (ms.map V.int))) ∧ (ms.length ≤ 1000) ∧ (1 ≤ n) ∧ ∀ (H' : Hp), (Same H H') → Q (.bl (isPlanB h n ms)) H'
theorem use_is_plan {K : PySem.W.Frag} {H : Hp} {Q : VK} {E : XK} {h : Int} {n : Nat} {a : Addr} {ms : List Int} (p0 : H a = some (.lst (ms.map V.int))) (p1 : ms.length ≤ 1000) (p2 : 1 ≤ n) (k : ∀ (H' : Hp), (Same H H') → Q (.bl (isPlanB h n ms)) H') : sp_is_plan K [.int h, .int n, .ref a] H Q E := ⟨h, n, a, ms, rfl, p0, p1, p2, k⟩
theorem len_is_plan {K : PySem.W.Frag} (vs : List V) (H : Hp) (Q : VK) (E : XK) (h : sp_is_plan K vs H Q E) : vs.length = ["hosts", "many", "plan"].length := by
  obtain ⟨_, _, _, _, rfl, _⟩ := h
  rfl
local macro_rules | `(tactic| walk_at "g_call") => `(tactic| ((with_reducible refine' use_is_plan ?c0 ?c1 ?c2 ?_); (case c0 => walk_at "g_pre"); (case c1 => walk_at "g_pre"); (case c2 => walk_at "g_pre"); intros))
theorem ok_is_plan (T : Txt K mg) : FnOk P w K mg base CX0 3 T.a_is_plan T.d_is_plan ["hosts", "many", "plan"] (sp_is_plan K) := by
  have G_are_numbers := ok_are_numbers (P := P) (w := w) (base := base) T
  refine T.F_is_plan.ok sc_is_plan len_is_plan (fun cdv A outer s H vs Q E hr h => ?_)
  refine ⟨_, (pss_one (ps_ret (pe_and (pe_call G_are_numbers (hr.mono (by first | decide | omega)) (by rfl) T.g_are_numbers T.F_are_numbers.kp T.b_are_numbers .nil pass0 (pa_cons (pv 2) (pa_cons (pv 1) pa_nil))) (pe_and (pe_cmpR op_ge (pe_callB (cr_minK K rfl rfl) (by rfl) T.z_min (by decide +kernel) (pa_cons (pv 2) pa_nil)) pe_int (nomark _)) (pe_one (pe_cmpR op_eq (pe_callB (cr_sumK K rfl rfl) (by rfl) T.z_sum (by decide +kernel) (pa_cons (pv 2) pa_nil)) (pv 0) (nomark _))))))), ?_⟩
  try dsimp only [L2.cxOf, L2.Cx.nox, L2.Cx.wish, List.map_cons, List.map_nil]
  obtain ⟨h, n, a, ms, rfl, p0, p1, p2, k⟩ := h
  refine start_to (σ := [some _, some _, some _]) rfl ?_
  have d0 : Dq H (.ref a) (planD ms) := .lst p0 (dq_ints ms)
  have w0 : wid (planD ms) ≤ 1000 := by rw [wid_plan]; omega
  have no : ∀ H', Same H H' → ¬ PlanC h n ms → Q (.bl false) H' := fun H' s1 c => by
    have := k H' s1
    rw [← isPlan_eq (b := false) ⟨nofun, fun q => absurd q c⟩] at this
    exact this
  walk_at "go"
  rename_i H1 s1
  rw [nums_plan]
  by_cases c : (ms.length : Int) = n
  · have e1 : 1 ≤ ms.length := by omega
    refine ite_y (decide_eq_true c) ?_
    walk_at "go"
    rename_i z hz1 hz2
    refine ite_d (fun c2 => ?_) (fun c2 => ?_)
    · walk_at "go"
      by_cases c3 : ms.sum = h
      · rw [decide_eq_true c3]
        have := k H1 s1
        rw [← isPlan_eq (b := true) ⟨fun _ => ⟨by omega, c3, fun x hx => by have := hz2 x hx; omega⟩, fun _ => rfl⟩] at this
        exact this
      · rw [decide_eq_false c3]
        exact no _ s1 fun q => c3 q.2.1
    · exact no _ s1 fun q => c2 (q.2.2 z hz1)
  · refine ite_n (decide_eq_false c) ?_
    exact no _ s1 fun q => c (by rw [q.1])

def sp_paid (K : PySem.W.Frag) : Sp := fun vs H Q E => ∃ (v : V) (fl : Fld) (f s x y : Int), vs = [v, .int x, .int y] ∧ (Dq H v (fldD fl)) ∧ (FldOk f s fl) ∧ (0 ≤ x ∧ x ≤ f ∧ 0 ≤ y ∧ y ≤ s) ∧ Q (.int (paidV fl x y)) H
theorem use_paid {K : PySem.W.Frag} {H : Hp} {Q : VK} {E : XK} {v : V} {fl : Fld} {f s x y : Int} (p0 : Dq H v (fldD fl)) (p1 : FldOk f s fl) (p2 : 0 ≤ x ∧ x ≤ f ∧ 0 ≤ y ∧ y ≤ s) (k : Q (.int (paidV fl x y)) H) : sp_paid K [v, .int x, .int y] H Q E := ⟨v, fl, f, s, x, y, rfl, p0, p1, p2, k⟩
theorem len_paid {K : PySem.W.Frag} (vs : List V) (H : Hp) (Q : VK) (E : XK) (h : sp_paid K vs H Q E) : vs.length = ["field", "x", "y"].length := by
  obtain ⟨_, _, _, _, _, _, rfl, _⟩ := h
  rfl
local macro_rules | `(tactic| walk_at "g_call") => `(tactic| ((with_reducible refine' use_paid ?c0 ?c1 ?c2 ?_); (case c0 => walk_at "g_pre"); (case c1 => walk_at "g_pre"); (case c2 => walk_at "g_pre"); intros))
theorem ok_paid (T : Txt K mg) : FnOk P w K mg base CX0 1 T.a_paid T.d_paid ["field", "x", "y"] (sp_paid K) := by
  refine T.F_paid.ok sc_paid len_paid (fun cdv A outer s H vs Q E hr h => ?_)
  refine ⟨_, (pss_cons (ps_if (pt_cmpR op_eq (pe_ix (ix_tupK K rfl) (pv 0) pe_int (fun _ _ => rfl)) pe_str (nomark _)) (pss_one (ps_ret (pe_ix (ix_listK K rfl) (pe_ix (ix_listK K rfl) (pe_ix (ix_tupK K rfl) (pv 0) pe_int (fun _ _ => rfl)) (pv 1) (fun _ _ => rfl)) (pv 2) (fun _ _ => rfl)))) pss_nil)
      (pss_cons (ps_if (pt_cmpR op_eq (pe_ix (ix_tupK K rfl) (pv 0) pe_int (fun _ _ => rfl)) pe_str (nomark _)) (pss_one (ps_ret (pe_ifExp (pt_cmpR op_ge (pv 1) (pe_op op_add (pv 2) (pe_ix (ix_tupK K rfl) (pv 0) pe_int (fun _ _ => rfl))) (nomark _)) (pe_ix (ix_tupK K rfl) (pv 0) pe_int (fun _ _ => rfl)) (pe_op op_sub pe_int (pe_ix (ix_tupK K rfl) (pv 0) pe_int (fun _ _ => rfl)))))) pss_nil)
      (pss_cons (ps_if (pt_cmpR op_eq (pv 1) (pv 2) (nomark _)) (pss_one (ps_ret (pe_ix (ix_tupK K rfl) (pv 0) pe_int (fun _ _ => rfl)))) pss_nil)
      (pss_one (ps_ret (pe_ifExp (pt_cmpR op_gt (pv 1) (pv 2) (nomark _)) (pe_ix (ix_tupK K rfl) (pv 0) pe_int (fun _ _ => rfl)) (pe_op op_sub pe_int (pe_ix (ix_tupK K rfl) (pv 0) pe_int (fun _ _ => rfl))))))))), ?_⟩
  try dsimp only [L2.cxOf, L2.Cx.nox, L2.Cx.wish, List.map_cons, List.map_nil]
  obtain ⟨v, fl, f, s, x, y, rfl, p0, p1, p2, k⟩ := h
  refine start_to (σ := [some _, some _, some _]) rfl ?_
  cases fl with
  | more w t =>
    obtain ⟨a, rfl, h1⟩ := fld_more p0
    walk_at "go"
    have k' : Q (.int (if x = y then t else if x > y then w else 0 - w)) H := k
    refine ite_d (fun c1 => ?_) (fun c1 => ?_)
    · rw [if_pos c1] at k'
      walk_at "go"
      exact k'
    · rw [if_neg c1] at k'
      walk_at "go"
      refine ite_d (fun c2 => ?_) (fun c2 => ?_)
      · rw [if_pos c2] at k'
        walk_at "go"
        exact k'
      · rw [if_neg c2] at k'
        walk_at "go"
        exact k'
  | lead w l =>
    obtain ⟨a, rfl, h1⟩ := fld_lead p0
    walk_at "go"
    have k' : Q (.int (if x ≥ y + l then w else 0 - w)) H := k
    refine ite_d (fun c2 => ?_) (fun c2 => ?_)
    · rw [if_pos c2] at k'
      walk_at "go"
      exact k'
    · rw [if_neg c2] at k'
      walk_at "go"
      exact k'
  | tab rows =>
    obtain ⟨a, p, xs, rfl, h1, h2, h3⟩ := fld_tab p0
    obtain ⟨g1, g2⟩ := p1
    have hl : xs.length = rows.length := by rw [h3.len, List.length_map]
    obtain ⟨w, hat, hw⟩ := at_lt (xs := xs) (i := x) (by omega) (by omega)
    obtain ⟨r, q, e1, rfl, e2⟩ := row_at h3 hw
    have hr := g2 r (List.mem_of_getElem? e1)
    walk_at "go"
    rename_i z hz
    have k' : Q (.int ((((rows[x.toNat]?).getD [])[y.toNat]?).getD 0)) H := k
    rw [e1] at k'
    have k2 : Q (.int ((r[y.toNat]?).getD 0)) H := k'
    rw [hz] at k2
    exact k2

def sp_won (K : PySem.W.Frag) : Sp := fun vs H Q E => ∃ (v : V) (f s : Int) (fs : List Fld) (q r : Addr) (ms ns : List Int), vs = [v, .ref q, .ref r] ∧ (Dq H v (batD f s fs)) ∧ (BatOk f s fs) ∧ (H q = some (.lst (ms.map V.int))) ∧ (H r = some (.lst (ns.map V.int))) ∧ (PlanC f fs.length ms) ∧ (PlanC s fs.length ns) ∧ ∀ (H' : Hp), (Same H H') → Q (.int (gainV fs ms ns)) H'
theorem use_won {K : PySem.W.Frag} {H : Hp} {Q : VK} {E : XK} {v : V} {f s : Int} {fs : List Fld} {q r : Addr} {ms ns : List Int} (p0 : Dq H v (batD f s fs)) (p1 : BatOk f s fs) (p2 : H q = some (.lst (ms.map V.int))) (p3 : H r = some (.lst (ns.map V.int))) (p4 : PlanC f fs.length ms) (p5 : PlanC s fs.length ns) (k : ∀ (H' : Hp), (Same H H') → Q (.int (gainV fs ms ns)) H') : sp_won K [v, .ref q, .ref r] H Q E := ⟨v, f, s, fs, q, r, ms, ns, rfl, p0, p1, p2, p3, p4, p5, k⟩
theorem len_won {K : PySem.W.Frag} (vs : List V) (H : Hp) (Q : VK) (E : XK) (h : sp_won K vs H Q E) : vs.length = ["battle", "one", "other"].length := by
  obtain ⟨_, _, _, _, _, _, _, _, rfl, _⟩ := h
  rfl
local macro_rules | `(tactic| walk_at "g_call") => `(tactic| ((with_reducible refine' use_won ?c0 ?c1 ?c2 ?c3 ?c4 ?c5 ?_); (case c0 => walk_at "g_pre"); (case c1 => walk_at "g_pre"); (case c2 => walk_at "g_pre"); (case c3 => walk_at "g_pre"); (case c4 => walk_at "g_pre"); (case c5 => walk_at "g_pre"); intros))
theorem ok_won (T : Txt K mg) : FnOk P w K mg base CX0 2 T.a_won T.d_won ["battle", "one", "other"] (sp_won K) := by
  have G_paid := ok_paid (P := P) (w := w) (base := base) T
  refine T.F_won.ok sc_won len_won (fun cdv A outer s H vs Q E hr h => ?_)
  refine ⟨_, (pss_one (ps_ret (pe_callB (cr_sumK K rfl rfl) (by rfl) T.z_sum (by decide +kernel) (pa_cons (pe_lc (own := [("k", 3)]) rfl sc_won.nd (pi_range1 rfl T.z_range (pa_cons (pe_callB (call_lenK K rfl) (by rfl) T.z_len (by decide +kernel) (pa_cons (pe_ix (ix_tupK K rfl) (pv 0) pe_int (fun _ _ => rfl)) pa_nil)) pa_nil)) (blkOk_by (own := [("k", 3)]) (N := ["battle", "one", "other", "k"]) (sc := defScope s_won) (by decide +kernel)) (fun _ _ _ _ _ => (pg_name (i := 3) sc_won.nd rfl (Or.inl rfl))) (fun _ _ _ _ _ => pts_nil) (fun _ _ _ _ _ => (pe_call G_paid (hr.mono (by first | decide | omega)) (by rfl) T.g_paid T.F_paid.kp T.b_paid .nil pass0 (pa_cons (pe_ix (ix_listK K rfl) (pe_ix (ix_tupK K rfl) (pv 0) pe_int (fun _ _ => rfl)) (pv 3) (fun _ _ => rfl)) (pa_cons (pe_ix (ix_listK K rfl) (pv 1) (pv 3) (fun _ _ => rfl)) (pa_cons (pe_ix (ix_listK K rfl) (pv 2) (pv 3) (fun _ _ => rfl)) pa_nil)))))) pa_nil)))), ?_⟩
  try dsimp only [L2.cxOf, L2.Cx.nox, L2.Cx.wish, List.map_cons, List.map_nil]
  obtain ⟨v, f, s, fs, q, r, ms, ns, rfl, p0, p1, p2, p3, p4, p5, k⟩ := h
  obtain ⟨a, p, xs, rfl, h1, h2, h3⟩ := bat_inv p0
  have hl : xs.length = fs.length := by rw [h3.len, List.length_map]
  have b1 := p4.1
  have b2 := p5.1
  have b3 := p1.ne
  refine start_to (σ := [some _, some _, some _, none]) rfl ?_
  walk_at "goO"
  intro D nD
  refine lcR_int (fun i => paidV (fldAt fs i) (nAt ms i) (nAt ns i)) nD (by omega) ?_ ?_
  · intro i H2 Z Y hi hs2 hz
    obtain ⟨w, hat, hw⟩ := at_lt (xs := xs) (i := 0 + (i : Int)) (by omega) (by omega)
    obtain ⟨fl, e1, e2⟩ := fld_at h3 hw
    have b4 := p1.at e1
    have h1' := hs2 _ _ h1
    have h2' := hs2 _ _ h2
    have p2' := hs2 _ _ p2
    have p3' := hs2 _ _ p3
    have z1 := plan_le p4 i
    have z2 := plan_le p5 i
    have e3 : fldAt fs i = fl := by
      unfold fldAt
      rw [show ((i : Int)).toNat = (0 + (i : Int)).toNat by omega, e1]
      rfl
    rw [e3] at hz
    clear h1 h2 p2 p3
    walk_at "goO"
    rename_i m1 hm1 m2 hm2
    have e4 : nAt ms i = m1 := by
      unfold nAt
      rw [show ((i : Int)).toNat = (0 + (i : Int)).toNat by omega, hm1]
      rfl
    have e5 : nAt ns i = m2 := by
      unfold nAt
      rw [show ((i : Int)).toNat = (0 + (i : Int)).toNat by omega, hm2]
      rfl
    rw [e4] at z1 hz
    rw [e5] at z2 hz
    have b6 : 0 ≤ m1 ∧ m1 ≤ f ∧ 0 ≤ m2 ∧ m2 ≤ s := by omega
    walk_at "goO"
    exact hz _ (Same.refl _)
  · intro H2 hs2 hD
    rw [show Int.toNat (xs.length : Int) = fs.length by omega] at hD
    walk_at "go"
    exact k _ hs2

def sp_gain (K : PySem.W.Frag) (e_NoBattle : Addr) (e_NoPlan : Addr) : Sp := fun vs H Q E => ∃ (v : V) (f s : Int) (fs : List Fld) (q r : Addr) (ms ns : List Int), vs = [v, .ref q, .ref r] ∧ (Dq H v (batD f s fs)) ∧ (BatOk f s fs) ∧ (H q = some (.lst (ms.map V.int))) ∧ (H r = some (.lst (ns.map V.int))) ∧ (PlanC f fs.length ms) ∧ (PlanC s fs.length ns) ∧ ∀ (H' : Hp), (Same H H') → Q (.int (gainV fs ms ns)) H'
theorem use_gain {K : PySem.W.Frag} {e_NoBattle : Addr} {e_NoPlan : Addr} {H : Hp} {Q : VK} {E : XK} {v : V} {f s : Int} {fs : List Fld} {q r : Addr} {ms ns : List Int} (p0 : Dq H v (batD f s fs)) (p1 : BatOk f s fs) (p2 : H q = some (.lst (ms.map V.int))) (p3 : H r = some (.lst (ns.map V.int))) (p4 : PlanC f fs.length ms) (p5 : PlanC s fs.length ns) (k : ∀ (H' : Hp), (Same H H') → Q (.int (gainV fs ms ns)) H') : sp_gain K e_NoBattle e_NoPlan [v, .ref q, .ref r] H Q E := ⟨v, f, s, fs, q, r, ms, ns, rfl, p0, p1, p2, p3, p4, p5, k⟩
theorem len_gain {K : PySem.W.Frag} {e_NoBattle : Addr} {e_NoPlan : Addr} (vs : List V) (H : Hp) (Q : VK) (E : XK) (h : sp_gain K e_NoBattle e_NoPlan vs H Q E) : vs.length = ["battle", "one", "other"].length := by
  obtain ⟨_, _, _, _, _, _, _, _, rfl, _⟩ := h
  rfl
local macro_rules | `(tactic| walk_at "g_call") => `(tactic| ((with_reducible refine' use_gain ?c0 ?c1 ?c2 ?c3 ?c4 ?c5 ?_); (case c0 => walk_at "g_pre"); (case c1 => walk_at "g_pre"); (case c2 => walk_at "g_pre"); (case c3 => walk_at "g_pre"); (case c4 => walk_at "g_pre"); (case c5 => walk_at "g_pre"); intros))
theorem ok_gain (T : Txt K mg) : FnOk P w K mg base (L2.CX P w) 5 T.a_gain T.d_gain ["battle", "one", "other"] (sp_gain K T.e_NoBattle T.e_NoPlan) := by
  have G_look_battle := ok_look_battle (P := P) (w := w) (base := base) T
  have G_won := ok_won (P := P) (w := w) (base := base) T
  have G_is_plan := ok_is_plan (P := P) (w := w) (base := base) T
  refine T.F_gain.okX sc_gain len_gain (fun cdv A outer s H vs Q E hr h => ?_)
  refine ⟨_, (pss_cons (ps_expr (pe_callS G_look_battle (hr.mono (by first | decide | omega)) (by rfl) T.g_look_battle T.F_look_battle.kp T.b_look_battle (fun σ => passAt (takes_of rfl rfl rfl rfl) σ) (pa_cons (pv 0) pa_nil)))
      (pss_cons (ps_set (i := 3) sc_gain.nd rfl (Or.inl rfl) (pe_callB (call_lenK K rfl) (by rfl) T.z_len (by decide +kernel) (pa_cons (pe_ix (ix_tupK K rfl) (pv 0) pe_int (fun _ _ => rfl)) pa_nil)))
      (pss_cons (ps_if (PW.pt (pw_or (pt_not (pt_val (pe_call G_is_plan (hr.mono (by first | decide | omega)) (by rfl) T.g_is_plan T.F_is_plan.kp T.b_is_plan .nil pass0 (pa_cons (pe_ix (ix_tupK K rfl) (pv 0) pe_int (fun _ _ => rfl)) (pa_cons (pv 3) (pa_cons (pv 1) pa_nil)))))) (pw_or1 (pt_not (pt_val (pe_call G_is_plan (hr.mono (by first | decide | omega)) (by rfl) T.g_is_plan T.F_is_plan.kp T.b_is_plan .nil pass0 (pa_cons (pe_ix (ix_tupK K rfl) (pv 0) pe_int (fun _ _ => rfl)) (pa_cons (pv 3) (pa_cons (pv 2) pa_nil))))))))) (pss_one (ps_raise rfl (takes_of rfl rfl rfl rfl) (pmk_own PySem.F.excBase_ValueError T.x_NoPlan T.g_NoPlan T.k_NoPlan (raises_own T.y_NoPlan T.t_NoPlan) rfl))) pss_nil)
      (pss_one (ps_ret (pe_call G_won (hr.mono (by first | decide | omega)) (by rfl) T.g_won T.F_won.kp T.b_won .nil pass0 (pa_cons (pv 0) (pa_cons (pv 1) (pa_cons (pv 2) pa_nil))))))))), ?_⟩
  try dsimp only [L2.cxOf, L2.Cx.nox, L2.Cx.wish, List.map_cons, List.map_nil]
  obtain ⟨v, f, s, fs, q, r, ms, ns, rfl, p0, p1, p2, p3, p4, p5, k⟩ := h
  refine start_to (σ := [some _, some _, some _, none]) rfl ?_
  have b1 := p4
  have b2 := p5
  have b3 := p1.ne
  have l1 : ms.length ≤ 1000 := by rw [p4.1]; omega
  have l2 : ns.length ≤ 1000 := by rw [p5.1]; omega
  walk_at "go"
  rename_i H1 g1
  have p0' := p0.same g1
  obtain ⟨a, p, xs, rfl, h1, h2, h3⟩ := bat_inv p0'
  have hl : xs.length = fs.length := by rw [h3.len, List.length_map]
  have nx : 1 ≤ xs.length := by omega
  walk_at "go"
  rename_i H2 s2
  have g3 : isPlanB f xs.length ms = true := isPlan_iff.mpr (by rw [hl]; exact p4)
  rw [g3]
  walk_at "go"
  rename_i H3 s3
  have g4 : isPlanB s xs.length ns = true := isPlan_iff.mpr (by rw [hl]; exact p5)
  rw [g4]
  walk_at "go"
  exact k _ (by walk_at "g_same")

def sp_dues (K : PySem.W.Frag) : Sp := fun vs H Q E => ∃ (v : V) (f s : Int) (fs : List Fld) (sd : Bool) (w : V) (Ls : List (List Fl)), vs = [v, .str (sideS sd), w] ∧ (Dq H v (batD f s fs)) ∧ (BatOk f s fs) ∧ (PayWd fs f s) ∧ (Dq H w (strD Ls)) ∧ (StrS (ownS f s sd) fs.length Ls) ∧ ∀ (u : V) (H' : Hp), (Dq H' u (tabD (duesV fs sd Ls (othS f s sd + 1).toNat))) → (Same H H') → Q (u) H'
theorem use_dues {K : PySem.W.Frag} {H : Hp} {Q : VK} {E : XK} {v : V} {f s : Int} {fs : List Fld} {sd : Bool} {w : V} {Ls : List (List Fl)} (p0 : Dq H v (batD f s fs)) (p1 : BatOk f s fs) (p2 : PayWd fs f s) (p3 : Dq H w (strD Ls)) (p4 : StrS (ownS f s sd) fs.length Ls) (k : ∀ (u : V) (H' : Hp), (Dq H' u (tabD (duesV fs sd Ls (othS f s sd + 1).toNat))) → (Same H H') → Q (u) H') : sp_dues K [v, .str (sideS sd), w] H Q E := ⟨v, f, s, fs, sd, w, Ls, rfl, p0, p1, p2, p3, p4, k⟩
theorem len_dues {K : PySem.W.Frag} (vs : List V) (H : Hp) (Q : VK) (E : XK) (h : sp_dues K vs H Q E) : vs.length = ["battle", "side", "stream"].length := by
  obtain ⟨_, _, _, _, _, _, _, rfl, _⟩ := h
  rfl
local macro_rules | `(tactic| walk_at "g_call") => `(tactic| ((with_reducible refine' use_dues ?c0 ?c1 ?c2 ?c3 ?c4 ?_); (case c0 => walk_at "g_pre"); (case c1 => walk_at "g_pre"); (case c2 => walk_at "g_pre"); (case c3 => walk_at "g_pre"); (case c4 => walk_at "g_pre"); intros))
theorem ok_dues (T : Txt K mg) : FnOk P w K mg base CX0 2 T.a_dues T.d_dues ["battle", "side", "stream"] (sp_dues K) := by
  have G_paid := ok_paid (P := P) (w := w) (base := base) T
  refine T.F_dues.ok sc_dues len_dues (fun cdv A outer s H vs Q E hr h => ?_)
  refine ⟨_, (pss_cons (ps_asg (pv 0) (pg_tupK K rfl 3 rfl (pgs_cons (pg_name (i := 3) sc_dues.nd rfl (Or.inl rfl)) (pgs_cons (pg_name (i := 4) sc_dues.nd rfl (Or.inl rfl)) (pgs_cons (pg_name (i := 5) sc_dues.nd rfl (Or.inr rfl)) pgs_nil)))))
      (pss_cons (ps_set (i := 6) sc_dues.nd rfl (Or.inl rfl) (pe_lst pa_nil))
      (pss_cons (ps_for PassesOwn.never rfl (pi_range1 rfl T.z_range (pa_cons (pe_callB (call_lenK K rfl) (by rfl) T.z_len (by decide +kernel) (pa_cons (pv 5) pa_nil)) pa_nil)) (pg_name (i := 7) sc_dues.nd rfl (Or.inr rfl)) (pss_cons (ps_set (i := 8) sc_dues.nd rfl (Or.inl rfl) (pe_lst pa_nil))
      (pss_cons (ps_if (pt_cmpR op_eq (pv 1) pe_str (nomark _)) (pss_one (ps_for PassesOwn.never rfl (pi_range1 rfl T.z_range (pa_cons (pe_op op_add (pv 4) pe_int) pa_nil)) (pg_name (i := 9) sc_dues.nd rfl (Or.inr rfl)) (pss_one (ps_expr (pe_bm PySem.F.plainAttrs_list PySem.F.slot_list_append PySem.F.type_list_append mt_append (pv 8) (pa_cons (pe_callB (cr_sumK K rfl rfl) (by rfl) T.z_sum (by decide +kernel) (pa_cons (pe_lc (own := [("left", 11), ("sent", 12), ("flow", 13)]) rfl sc_dues.nd (pi_listK K rfl (pe_ix (ix_listK K rfl) (pv 2) (pv 7) (fun _ _ => rfl))) (blkOk_by (own := [("left", 11), ("sent", 12), ("flow", 13)]) (N := ["battle", "side", "stream", "first", "second", "fields", "found", "k", "some", "y", "x", "left", "sent", "flow"]) (sc := defScope s_dues) (by decide +kernel)) (fun _ _ _ _ _ => (pg_tupK K rfl 3 rfl (pgs_cons (pg_name (i := 11) sc_dues.nd rfl (Or.inl rfl)) (pgs_cons (pg_name (i := 12) sc_dues.nd rfl (Or.inl rfl)) (pgs_cons (pg_name (i := 13) sc_dues.nd rfl (Or.inl rfl)) pgs_nil))))) (fun _ _ _ _ _ => pts_nil) (fun _ _ _ _ _ => (pe_op op_mulA (pv 13) (pe_call G_paid (hr.mono (by first | decide | omega)) (by rfl) T.g_paid T.F_paid.kp T.b_paid .nil pass0 (pa_cons (pe_ix (ix_listK K rfl) (pv 5) (pv 7) (fun _ _ => rfl)) (pa_cons (pv 12) (pa_cons (pv 9) pa_nil))))))) pa_nil)) pa_nil)))))) (pss_one (ps_for PassesOwn.never rfl (pi_range1 rfl T.z_range (pa_cons (pe_op op_add (pv 3) pe_int) pa_nil)) (pg_name (i := 10) sc_dues.nd rfl (Or.inr rfl)) (pss_one (ps_expr (pe_bm PySem.F.plainAttrs_list PySem.F.slot_list_append PySem.F.type_list_append mt_append (pv 8) (pa_cons (pe_callB (cr_sumK K rfl rfl) (by rfl) T.z_sum (by decide +kernel) (pa_cons (pe_lc (own := [("left", 11), ("sent", 12), ("flow", 13)]) rfl sc_dues.nd (pi_listK K rfl (pe_ix (ix_listK K rfl) (pv 2) (pv 7) (fun _ _ => rfl))) (blkOk_by (own := [("left", 11), ("sent", 12), ("flow", 13)]) (N := ["battle", "side", "stream", "first", "second", "fields", "found", "k", "some", "y", "x", "left", "sent", "flow"]) (sc := defScope s_dues) (by decide +kernel)) (fun _ _ _ _ _ => (pg_tupK K rfl 3 rfl (pgs_cons (pg_name (i := 11) sc_dues.nd rfl (Or.inl rfl)) (pgs_cons (pg_name (i := 12) sc_dues.nd rfl (Or.inl rfl)) (pgs_cons (pg_name (i := 13) sc_dues.nd rfl (Or.inl rfl)) pgs_nil))))) (fun _ _ _ _ _ => pts_nil) (fun _ _ _ _ _ => (pe_op op_mulA (pv 13) (pe_call G_paid (hr.mono (by first | decide | omega)) (by rfl) T.g_paid T.F_paid.kp T.b_paid .nil pass0 (pa_cons (pe_ix (ix_listK K rfl) (pv 5) (pv 7) (fun _ _ => rfl)) (pa_cons (pv 10) (pa_cons (pv 12) pa_nil))))))) pa_nil)) pa_nil)))))))
      (pss_one (ps_expr (pe_bm PySem.F.plainAttrs_list PySem.F.slot_list_append PySem.F.type_list_append mt_append (pv 6) (pa_cons (pv 8) pa_nil)))))))
      (pss_one (ps_ret (pv 6)))))), ?_⟩
  try dsimp only [L2.cxOf, L2.Cx.nox, L2.Cx.wish, List.map_cons, List.map_nil]
  obtain ⟨v, f, s, fs, sd, w, Ls, rfl, p0, p1, p2, p3, p4, k⟩ := h
  refine start_to (σ := [some _, some _, some _, none, none, none, none, none, none, none, none, none, none, none]) rfl ?_
  obtain ⟨a, p, xs, rfl, h1, h2, h3⟩ := bat_inv p0
  obtain ⟨b, ws, rfl, g1, g2⟩ := str_inv p3
  have hl : xs.length = fs.length := by rw [h3.len, List.length_map]
  have gl : ws.length = fs.length := by rw [g2.len, List.length_map, p4.1]
  have hn := p1.ne
  have hf := p1.hf
  have hs := p1.hs
  cases sd with
  | false =>
    have ho : othS f s false = s := rfl
    have hw' : ownS f s false = f := rfl
    rw [hw'] at p4
    walk_at "go"
    rename_i F nF
    refine forR (fun i σ H1 => ∃ (ys : List V) (y7 y8 y9 y10 y11 y12 y13 : Option V), σ = [some (.ref a), some (.str (sideS false)), some (.ref b), some (.int f), some (.int s), some (.ref p), some (.ref F), y7, y8, y9, y10, y11, y12, y13] ∧ H1 F = some (.lst ys) ∧ DqAll (hid [F] H1) ys (((List.range i).map (dueRow fs false Ls (s + 1).toNat)).map planD) ∧ Same H H1) ⟨[], _, _, _, _, _, _, _, rfl, upd_same, .nil, by walk_at "g_same"⟩ ?_ ?_
    · rintro σ1 H1 ⟨ys, y7, y8, y9, y10, y11, y12, y13, rfl, q1, q2, q3⟩
      walk_at "go"
      refine k _ _ ?_ q3
      rw [show ((xs.length : Int)).toNat = fs.length by omega] at q2
      exact .lst q1 (q2.same hid_same)
    · rintro i σ1 H1 hi ⟨ys, y7, y8, y9, y10, y11, y12, y13, rfl, q1, q2, q3⟩
      have hi' : i < fs.length := by omega
      have hyl : ys.length = i := by rw [q2.len, List.length_map, List.length_map, List.length_range]
      obtain ⟨x, hat, hx⟩ := at_lt (xs := xs) (i := 0 + (i : Int)) (by omega) (by omega)
      obtain ⟨w, hat2, hw⟩ := at_lt (xs := ws) (i := 0 + (i : Int)) (by omega) (by omega)
      rw [show (0 + (i : Int)).toNat = i by omega] at hx hw
      obtain ⟨fl, e1, e2⟩ := fld_at h3 hx
      obtain ⟨L, r, zs, m1, rfl, m3, m4⟩ := strow_at g2 hw
      have fo := p1.at e1
      have fw := p2 fl (List.mem_of_getElem? e1)
      obtain ⟨ll, le⟩ := p4.2 L (List.mem_of_getElem? m1)
      have zl : zs.length = L.length := by rw [m4.len, List.length_map]
      have h2' := q3 _ _ h2
      have g1' := q3 _ _ g1
      have m3' := q3 _ _ m3
      have m4' := m4.same q3
      have e2' := e2.same q3
      clear h1 h2 h3 g1 g2 m3 m4 e2 p0 p3 k
      walk_at "go"
      rename_i R nR
      refine forR (fun j σ H2 => ∃ (y9 y10 y11 y12 y13 : Option V), σ = [some (.ref a), some (.str (sideS false)), some (.ref b), some (.int f), some (.int s), some (.ref p), some (.ref F), some (.int (0 + (i : Int))), some (.ref R), y9, y10, y11, y12, y13] ∧ H2 R = some (.lst (((List.range j).map fun y : Nat => dueV fl false L y).map V.int)) ∧ Same H1 H2) ⟨_, _, _, _, _, rfl, upd_same, by walk_at "g_same"⟩ ?_ ?_
      · rintro σ2 H2 ⟨y9, y10, y11, y12, y13, rfl, r1, r2⟩
        have q1' := r2 _ _ q1
        walk_at "go"
        have nRF : R ≠ F := ne_new' nR q1
        refine ⟨ys ++ [.ref R], _, _, _, _, _, _, _, rfl, upd_same, ?_, by walk_at "g_same"⟩
        rw [List.range_succ, List.map_append, List.map_append]
        refine DqAll.snoc ((q2.same (hid_mono r2)).same (hid_upd (by simp))) ?_
        have e0 : dueRow fs false Ls (s + 1).toNat i = (List.range (s + 1).toNat).map fun y : Nat => dueV fl false L y := by
          unfold dueRow fldAt
          rw [show ((i : Int)).toNat = i by omega, e1, m1]
          rfl
        rw [e0]
        exact (row_mk (hid_lk (by simp [nRF]) r1)).same (hid_upd (by simp))
      · rintro j σ2 H2 hj ⟨y9, y10, y11, y12, y13, rfl, r1, r2⟩
        have h2'' := r2 _ _ h2'
        have g1'' := r2 _ _ g1'
        have m3'' := r2 _ _ m3'
        walk_at "go"
        intro D nD
        refine lcL_int (xs := zs) (fun t => ((L[t]?).map fun e => e.2.2 * paidV fl e.2.1 (0 + (j : Int))).getD 0) nD (by omega) (SqL.of m3'') ?_ ?_
        · intro t x2 H3 Z Y hx2 s3 hz
          have ht : t < L.length := by rw [← zl]; exact (List.getElem?_eq_some_iff.mp hx2).1
          obtain ⟨e, he⟩ : ∃ e, L[t]? = some e := ⟨L[t], List.getElem?_eq_getElem ht⟩
          obtain ⟨tt, f1, f2⟩ := fl_at m4' he
          rw [hx2] at f1
          cases f1
          obtain ⟨k1, k2, k3⟩ := le e (List.mem_of_getElem? he)
          have b1 : 0 ≤ e.2.1 ∧ e.2.1 ≤ f ∧ 0 ≤ 0 + (j : Int) ∧ 0 + (j : Int) ≤ s := by omega
          have cm : CMulA e.2.2 (paidV fl e.2.1 (0 + (j : Int))) := (k3.cmul (fw e.2.1 (0 + (j : Int)) b1.1 b1.2.1 b1.2.2.1 b1.2.2.2) (by decide) (by decide) (by decide))
          have f3 := s3 _ _ (r2 _ _ f2)
          have h2z := s3 _ _ h2''
          have e2z := (e2'.same r2).same s3
          clear f2 h2'' g1'' m3'' m3' m4' h2' g1' e2' q2 q1 q3 r1
          walk_at "go"
          have := hz H3 (Same.refl _)
          rw [he] at this
          exact this
        · intro H3 s3 hD
          have zz : (List.range zs.length).map (fun t => ((L[t]?).map fun e => e.2.2 * paidV fl e.2.1 (0 + (j : Int))).getD 0) = L.map fun e => e.2.2 * paidV fl e.2.1 (0 + (j : Int)) := by
            rw [zl]
            exact rng_map _ _ L fun t e he => by rw [he]; rfl
          rw [zz] at hD
          walk_at "go"
          refine ⟨_, _, _, _, _, rfl, ?_, by walk_at "g_same"⟩
          rw [List.range_succ, List.map_append, List.map_append, ← List.map_append]
          have ez : (L.map fun e => e.2.2 * paidV fl e.2.1 (0 + (j : Int))).sum = dueV fl false L (j : Int) := by
            unfold dueV payS
            rw [show (0 : Int) + (j : Int) = j by omega]
            rfl
          rw [ez]
          exact upd_same
  | true =>
    have ho : othS f s true = f := rfl
    have hw' : ownS f s true = s := rfl
    rw [hw'] at p4
    walk_at "go"
    rename_i F nF
    refine forR (fun i σ H1 => ∃ (ys : List V) (y7 y8 y9 y10 y11 y12 y13 : Option V), σ = [some (.ref a), some (.str (sideS true)), some (.ref b), some (.int f), some (.int s), some (.ref p), some (.ref F), y7, y8, y9, y10, y11, y12, y13] ∧ H1 F = some (.lst ys) ∧ DqAll (hid [F] H1) ys (((List.range i).map (dueRow fs true Ls (f + 1).toNat)).map planD) ∧ Same H H1) ⟨[], _, _, _, _, _, _, _, rfl, upd_same, .nil, by walk_at "g_same"⟩ ?_ ?_
    · rintro σ1 H1 ⟨ys, y7, y8, y9, y10, y11, y12, y13, rfl, q1, q2, q3⟩
      walk_at "go"
      refine k _ _ ?_ q3
      rw [show ((xs.length : Int)).toNat = fs.length by omega] at q2
      exact .lst q1 (q2.same hid_same)
    · rintro i σ1 H1 hi ⟨ys, y7, y8, y9, y10, y11, y12, y13, rfl, q1, q2, q3⟩
      have hi' : i < fs.length := by omega
      have hyl : ys.length = i := by rw [q2.len, List.length_map, List.length_map, List.length_range]
      obtain ⟨x, hat, hx⟩ := at_lt (xs := xs) (i := 0 + (i : Int)) (by omega) (by omega)
      obtain ⟨w, hat2, hw⟩ := at_lt (xs := ws) (i := 0 + (i : Int)) (by omega) (by omega)
      rw [show (0 + (i : Int)).toNat = i by omega] at hx hw
      obtain ⟨fl, e1, e2⟩ := fld_at h3 hx
      obtain ⟨L, r, zs, m1, rfl, m3, m4⟩ := strow_at g2 hw
      have fo := p1.at e1
      have fw := p2 fl (List.mem_of_getElem? e1)
      obtain ⟨ll, le⟩ := p4.2 L (List.mem_of_getElem? m1)
      have zl : zs.length = L.length := by rw [m4.len, List.length_map]
      have h2' := q3 _ _ h2
      have g1' := q3 _ _ g1
      have m3' := q3 _ _ m3
      have m4' := m4.same q3
      have e2' := e2.same q3
      clear h1 h2 h3 g1 g2 m3 m4 e2 p0 p3 k
      walk_at "go"
      rename_i R nR
      refine forR (fun j σ H2 => ∃ (y9 y10 y11 y12 y13 : Option V), σ = [some (.ref a), some (.str (sideS true)), some (.ref b), some (.int f), some (.int s), some (.ref p), some (.ref F), some (.int (0 + (i : Int))), some (.ref R), y9, y10, y11, y12, y13] ∧ H2 R = some (.lst (((List.range j).map fun y : Nat => dueV fl true L y).map V.int)) ∧ Same H1 H2) ⟨_, _, _, _, _, rfl, upd_same, by walk_at "g_same"⟩ ?_ ?_
      · rintro σ2 H2 ⟨y9, y10, y11, y12, y13, rfl, r1, r2⟩
        have q1' := r2 _ _ q1
        walk_at "go"
        have nRF : R ≠ F := ne_new' nR q1
        refine ⟨ys ++ [.ref R], _, _, _, _, _, _, _, rfl, upd_same, ?_, by walk_at "g_same"⟩
        rw [List.range_succ, List.map_append, List.map_append]
        refine DqAll.snoc ((q2.same (hid_mono r2)).same (hid_upd (by simp))) ?_
        have e0 : dueRow fs true Ls (f + 1).toNat i = (List.range (f + 1).toNat).map fun y : Nat => dueV fl true L y := by
          unfold dueRow fldAt
          rw [show ((i : Int)).toNat = i by omega, e1, m1]
          rfl
        rw [e0]
        exact (row_mk (hid_lk (by simp [nRF]) r1)).same (hid_upd (by simp))
      · rintro j σ2 H2 hj ⟨y9, y10, y11, y12, y13, rfl, r1, r2⟩
        have h2'' := r2 _ _ h2'
        have g1'' := r2 _ _ g1'
        have m3'' := r2 _ _ m3'
        walk_at "go"
        intro D nD
        refine lcL_int (xs := zs) (fun t => ((L[t]?).map fun e => e.2.2 * paidV fl (0 + (j : Int)) e.2.1).getD 0) nD (by omega) (SqL.of m3'') ?_ ?_
        · intro t x2 H3 Z Y hx2 s3 hz
          have ht : t < L.length := by rw [← zl]; exact (List.getElem?_eq_some_iff.mp hx2).1
          obtain ⟨e, he⟩ : ∃ e, L[t]? = some e := ⟨L[t], List.getElem?_eq_getElem ht⟩
          obtain ⟨tt, f1, f2⟩ := fl_at m4' he
          rw [hx2] at f1
          cases f1
          obtain ⟨k1, k2, k3⟩ := le e (List.mem_of_getElem? he)
          have b1 : 0 ≤ 0 + (j : Int) ∧ 0 + (j : Int) ≤ f ∧ 0 ≤ e.2.1 ∧ e.2.1 ≤ s := by omega
          have cm : CMulA e.2.2 (paidV fl (0 + (j : Int)) e.2.1) := (k3.cmul (fw (0 + (j : Int)) e.2.1 b1.1 b1.2.1 b1.2.2.1 b1.2.2.2) (by decide) (by decide) (by decide))
          have f3 := s3 _ _ (r2 _ _ f2)
          have h2z := s3 _ _ h2''
          have e2z := (e2'.same r2).same s3
          clear f2 h2'' g1'' m3'' m3' m4' h2' g1' e2' q2 q1 q3 r1
          walk_at "go"
          have := hz H3 (Same.refl _)
          rw [he] at this
          exact this
        · intro H3 s3 hD
          have zz : (List.range zs.length).map (fun t => ((L[t]?).map fun e => e.2.2 * paidV fl (0 + (j : Int)) e.2.1).getD 0) = L.map fun e => e.2.2 * paidV fl (0 + (j : Int)) e.2.1 := by
            rw [zl]
            exact rng_map _ _ L fun t e he => by rw [he]; rfl
          rw [zz] at hD
          walk_at "go"
          refine ⟨_, _, _, _, _, rfl, ?_, by walk_at "g_same"⟩
          rw [List.range_succ, List.map_append, List.map_append, ← List.map_append]
          have ez : (L.map fun e => e.2.2 * paidV fl (0 + (j : Int)) e.2.1).sum = dueV fl true L (j : Int) := by
            unfold dueV payS
            rw [show (0 : Int) + (j : Int) = j by omega]
            rfl
          rw [ez]
          exact upd_same
def sp_goings_on (K : PySem.W.Frag) : Sp := fun vs H Q E => ∃ (v w : V) (due tb : List (List Int)) (n m : Nat) (i l : Int), vs = [v, w, .int i, .int l] ∧ (Dq H v (tabD due)) ∧ (Dq H w (tabD tb)) ∧ (Rect due n m) ∧ (Rect tb n m) ∧ (n ≤ 1000 ∧ m ≤ 1000) ∧ (0 ≤ i ∧ i < n ∧ 0 ≤ l ∧ l < m) ∧ ∀ (q : Addr) (H' : Hp), (H' q = some (.lst ((goV due tb i.toNat l.toNat).map V.int))) → (H q = none) → (Same H H') → Q (.ref q) H'
theorem use_goings_on {K : PySem.W.Frag} {H : Hp} {Q : VK} {E : XK} {v w : V} {due tb : List (List Int)} {n m : Nat} {i l : Int} (p0 : Dq H v (tabD due)) (p1 : Dq H w (tabD tb)) (p2 : Rect due n m) (p3 : Rect tb n m) (p4 : n ≤ 1000 ∧ m ≤ 1000) (p5 : 0 ≤ i ∧ i < n ∧ 0 ≤ l ∧ l < m) (k : ∀ (q : Addr) (H' : Hp), (H' q = some (.lst ((goV due tb i.toNat l.toNat).map V.int))) → (H q = none) → (Same H H') → Q (.ref q) H') : sp_goings_on K [v, w, .int i, .int l] H Q E := ⟨v, w, due, tb, n, m, i, l, rfl, p0, p1, p2, p3, p4, p5, k⟩
theorem len_goings_on {K : PySem.W.Frag} (vs : List V) (H : Hp) (Q : VK) (E : XK) (h : sp_goings_on K vs H Q E) : vs.length = ["due", "table", "k", "left"].length := by
  obtain ⟨_, _, _, _, _, _, _, _, rfl, _⟩ := h
  rfl
local macro_rules | `(tactic| walk_at "g_call") => `(tactic| ((with_reducible refine' use_goings_on ?c0 ?c1 ?c2 ?c3 ?c4 ?c5 ?_); (case c0 => walk_at "g_pre"); (case c1 => walk_at "g_pre"); (case c2 => walk_at "g_pre"); (case c3 => walk_at "g_pre"); (case c4 => walk_at "g_pre"); (case c5 => walk_at "g_pre"); intros))
theorem ok_goings_on (T : Txt K mg) : FnOk P w K mg base CX0 1 T.a_goings_on T.d_goings_on ["due", "table", "k", "left"] (sp_goings_on K) := by
  refine T.F_goings_on.ok sc_goings_on len_goings_on (fun cdv A outer s H vs Q E hr h => ?_)
  refine ⟨_, (pss_cons (ps_if (pt_cmpR op_eq (pv 2) (pe_op op_sub (pe_callB (call_lenK K rfl) (by rfl) T.z_len (by decide +kernel) (pa_cons (pv 0) pa_nil)) pe_int) (nomark _)) (pss_one (ps_ret (pe_lst (pa_cons (pe_ix (ix_listK K rfl) (pe_ix (ix_listK K rfl) (pv 0) (pv 2) (fun _ _ => rfl)) (pv 3) (fun _ _ => rfl)) pa_nil)))) pss_nil)
      (pss_one (ps_ret (pe_lc (own := [("sent", 4)]) rfl sc_goings_on.nd (pi_range1 rfl T.z_range (pa_cons (pe_op op_add (pv 3) pe_int) pa_nil)) (blkOk_by (own := [("sent", 4)]) (N := ["due", "table", "k", "left", "sent"]) (sc := defScope s_goings_on) (by decide +kernel)) (fun _ _ _ _ _ => (pg_name (i := 4) sc_goings_on.nd rfl (Or.inl rfl))) (fun _ _ _ _ _ => pts_nil) (fun _ _ _ _ _ => (pe_op op_add (pe_ix (ix_listK K rfl) (pe_ix (ix_listK K rfl) (pv 0) (pv 2) (fun _ _ => rfl)) (pv 4) (fun _ _ => rfl)) (pe_ix (ix_listK K rfl) (pe_ix (ix_listK K rfl) (pv 1) (pe_op op_add (pv 2) pe_int) (fun _ _ => rfl)) (pe_op op_sub (pv 3) (pv 4)) (fun _ _ => rfl)))))))), ?_⟩
  try dsimp only [L2.cxOf, L2.Cx.nox, L2.Cx.wish, List.map_cons, List.map_nil]
  obtain ⟨v, w, due, tb, n, m, i, l, rfl, p0, p1, p2, p3, p4, p5, k⟩ := h
  refine start_to (σ := [some _, some _, some _, some _, none]) rfl ?_
  obtain ⟨a, xs, rfl, h1, h2⟩ := tab_inv p0
  obtain ⟨b, ys, rfl, g1, g2⟩ := tab_inv p1
  have hl : xs.length = n := by rw [h2.len, List.length_map, p2.len]
  have gl : ys.length = n := by rw [g2.len, List.length_map, p3.len]
  obtain ⟨r, ms, e1, e2, e3, e4⟩ := tab_at (k := i.toNat) h2 p2 (by omega)
  have hat : atI xs i = some (.ref r) := by
    obtain ⟨x, z1, z2⟩ := at_lt (xs := xs) (i := i) (by omega) (by omega)
    rw [e1] at z2
    cases z2
    exact z1
  walk_at "go"
  refine ite_d (fun c1 => ?_) (fun c1 => ?_)
  · have ez := e4 l.toNat (by omega)
    walk_at "go"
    rename_i z hz q nq
    refine k q _ ?_ nq (Same.new nq)
    rw [ez] at hz
    cases hz
    unfold goV
    rw [if_pos (by rw [p2.len]; omega)]
    exact upd_same
  · obtain ⟨r2, ks, f1, f2, f3, f4⟩ := tab_at (k := i.toNat + 1) g2 p3 (by omega)
    have hat2 : atI ys (i + 1) = some (.ref r2) := by
      obtain ⟨x, z1, z2⟩ := at_lt (xs := ys) (i := i + 1) (by omega) (by omega)
      rw [show (i + 1).toNat = i.toNat + 1 by omega, f1] at z2
      cases z2
      exact z1
    walk_at "go"
    intro D nD
    refine lcR_int (fun t => t2 due i.toNat t + t2 tb (i.toNat + 1) (l.toNat - t)) nD (by omega) ?_ ?_
    · intro t H3 Z Y ht s3 hz
      have h1' := s3 _ _ h1
      have g1' := s3 _ _ g1
      have e2' := s3 _ _ e2
      have f2' := s3 _ _ f2
      have ea := e4 t (by omega)
      have eb := f4 (l.toNat - t) (by omega)
      walk_at "go"
      rename_i z hz1 z2 hz2
      rw [show (0 + (t : Int)).toNat = t by omega, ea] at hz1
      rw [show (l - (0 + (t : Int))).toNat = l.toNat - t by omega, eb] at hz2
      cases hz1
      cases hz2
      exact hz H3 (Same.refl _)
    · intro H3 s3 hD
      walk_at "go"
      refine k D _ ?_ nD s3
      unfold goV
      rw [if_neg (by rw [p2.len]; omega)]
      rw [show (l + 1).toNat = l.toNat + 1 by omega] at hD
      exact hD
def sp_is_table (K : PySem.W.Frag) : Sp := fun vs H Q E => ∃ (v : V) (d : PyData) (n h : Int), vs = [v, .int n, .int h] ∧ (Dq H v d) ∧ (wid d ≤ 1000) ∧ ∀ (H' : Hp), (Same H H') → Q (.bl (isTabB n h d)) H'
theorem use_is_table {K : PySem.W.Frag} {H : Hp} {Q : VK} {E : XK} {v : V} {d : PyData} {n h : Int} (p0 : Dq H v d) (p1 : wid d ≤ 1000) (k : ∀ (H' : Hp), (Same H H') → Q (.bl (isTabB n h d)) H') : sp_is_table K [v, .int n, .int h] H Q E := ⟨v, d, n, h, rfl, p0, p1, k⟩
theorem len_is_table {K : PySem.W.Frag} (vs : List V) (H : Hp) (Q : VK) (E : XK) (h : sp_is_table K vs H Q E) : vs.length = ["table", "fields", "hosts"].length := by
  obtain ⟨_, _, _, _, rfl, _⟩ := h
  rfl
local macro_rules | `(tactic| walk_at "g_call") => `(tactic| ((with_reducible refine' use_is_table ?c0 ?c1 ?_); (case c0 => walk_at "g_pre"); (case c1 => walk_at "g_pre"); intros))
theorem ok_is_table (T : Txt K mg) : FnOk P w K mg base CX0 3 T.a_is_table T.d_is_table ["table", "fields", "hosts"] (sp_is_table K) := by
  have G_are_numbers := ok_are_numbers (P := P) (w := w) (base := base) T
  refine T.F_is_table.ok sc_is_table len_is_table (fun cdv A outer s H vs Q E hr h => ?_)
  refine ⟨_, (pss_cons (ps_if (PW.pt (pw_or (pt_not (pt_val (pe_callB (call_isXK K rfl) (by rfl) T.z_isinstance (by decide +kernel) (pa_cons (pv 0) (pa_cons (pe_bltn (v := .ty "list") rfl T.z_list (by decide +kernel) rfl) pa_nil))))) (pw_or1 (pt_cmpR op_ne (pe_callB (call_lenK K rfl) (by rfl) T.z_len (by decide +kernel) (pa_cons (pv 0) pa_nil)) (pv 1) (nomark _))))) (pss_one (ps_ret pe_bl)) pss_nil)
      (pss_one (ps_ret (pe_cmpR op_eq (pe_callB (call_lenK K rfl) (by rfl) T.z_len (by decide +kernel) (pa_cons (pe_lc (own := [("row", 3)]) rfl sc_is_table.nd (pi_listK K rfl (pv 0)) (blkOk_by (own := [("row", 3)]) (N := ["table", "fields", "hosts", "row"]) (sc := defScope s_is_table) (by decide +kernel)) (fun _ _ _ _ _ => (pg_name (i := 3) sc_is_table.nd rfl (Or.inl rfl))) (fun _ _ _ _ _ => (pts_one (pt_not (pt_val (pe_call G_are_numbers (hr.mono (by first | decide | omega)) (by rfl) T.g_are_numbers T.F_are_numbers.kp T.b_are_numbers .nil pass0 (pa_cons (pv 3) (pa_cons (pe_op op_add (pv 2) pe_int) pa_nil))))))) (fun _ _ _ _ _ => (pv 3))) pa_nil)) pe_int (nomark _))))), ?_⟩
  try dsimp only [L2.cxOf, L2.Cx.nox, L2.Cx.wish, List.map_cons, List.map_nil]
  obtain ⟨v, d, n, h, rfl, p0, p1, k⟩ := h
  refine start_to (σ := [some _, some _, some _, none]) rfl ?_
  cases p0 with
  | @lst a xs ds hh q =>
    have hl := q.len
    have pw := p1
    rw [wid] at p1
    walk_at "go"
    refine ite_nd (fun c => ?_) (fun c => ?_)
    · have e : isTabB n h (.list ds) = false := by rw [isTabB, decide_eq_false (by omega)]; rfl
      rw [e] at k
      walk_at "go"
      exact k _ (Same.refl _)
    · walk_at "go"
      intro D nD
      refine lcL_fl (xs := xs) (fun i => !((ds[i]?).map (areNumsD (h + 1))).getD true) nD (by omega) (SqL.of hh) ?_ ?_
      · intro i x H2 Z Y hx hs hz hy
        obtain ⟨d, e1, e2⟩ := q.get' hx
        have e2' := e2.same hs
        have hw : wid d ≤ 1000 := by
          have := widA_mem (List.mem_of_getElem? e1)
          omega
        walk_at "go"
        rename_i H3 s3
        refine ite_b (fun e => ?_) (fun e => ?_)
        · walk_at "go"
          exact hz _ _ (by rw [e1]; exact e) (by walk_at "g_same")
        · exact hy _ (by rw [e1]; exact e) (by walk_at "g_same")
      · intro acc H2 hD hs hc ha
        walk_at "go"
        rw [len0_all hl hc]
        have e : isTabB n h (.list ds) = ds.all (areNumsD (h + 1)) := by rw [isTabB, decide_eq_true (by omega)]; rfl
        rw [e] at k
        exact k _ (by walk_at "g_same")
  | non => walk_at "go"; exact k _ (Same.refl _)
  | bl b => walk_at "go"; exact k _ (Same.refl _)
  | int i => walk_at "go"; exact k _ (Same.refl _)
  | str x => walk_at "go"; exact k _ (Same.refl _)
  | tup h q => walk_at "go"; exact k _ (Same.refl _)
def WrV (H : Hp) (u : V) : Option (Nat × Nat) → Prop
  | none => u = .non
  | some (k, l) => ∃ p, u = .ref p ∧ H p = some (.tup [.int k, .int l])
def sp_wrong_number (K : PySem.W.Frag) : Sp := fun vs H Q E => ∃ (v w : V) (due tb : List (List Int)) (sd : Bool) (n m : Nat), vs = [v, w, .str (sideS sd)] ∧ (Dq H v (tabD due)) ∧ (Dq H w (tabD tb)) ∧ (Rect due n m) ∧ (Rect tb n m) ∧ (n ≤ 1000 ∧ m ≤ 1000) ∧ ∀ (r : Option (Nat × Nat)) (u : V) (H' : Hp), (FB (badAt due tb sd) n m r) → (WrV H' u r) → (Same H H') → Q (u) H'
theorem use_wrong_number {K : PySem.W.Frag} {H : Hp} {Q : VK} {E : XK} {v w : V} {due tb : List (List Int)} {sd : Bool} {n m : Nat} (p0 : Dq H v (tabD due)) (p1 : Dq H w (tabD tb)) (p2 : Rect due n m) (p3 : Rect tb n m) (p4 : n ≤ 1000 ∧ m ≤ 1000) (k : ∀ (r : Option (Nat × Nat)) (u : V) (H' : Hp), (FB (badAt due tb sd) n m r) → (WrV H' u r) → (Same H H') → Q (u) H') : sp_wrong_number K [v, w, .str (sideS sd)] H Q E := ⟨v, w, due, tb, sd, n, m, rfl, p0, p1, p2, p3, p4, k⟩
theorem len_wrong_number {K : PySem.W.Frag} (vs : List V) (H : Hp) (Q : VK) (E : XK) (h : sp_wrong_number K vs H Q E) : vs.length = ["due", "table", "side"].length := by
  obtain ⟨_, _, _, _, _, _, _, rfl, _⟩ := h
  rfl
local macro_rules | `(tactic| walk_at "g_call") => `(tactic| ((with_reducible refine' use_wrong_number ?c0 ?c1 ?c2 ?c3 ?c4 ?_); (case c0 => walk_at "g_pre"); (case c1 => walk_at "g_pre"); (case c2 => walk_at "g_pre"); (case c3 => walk_at "g_pre"); (case c4 => walk_at "g_pre"); intros))
theorem ok_wrong_number (T : Txt K mg) : FnOk P w K mg base CX0 2 T.a_wrong_number T.d_wrong_number ["due", "table", "side"] (sp_wrong_number K) := by
  have G_goings_on := ok_goings_on (P := P) (w := w) (base := base) T
  refine T.F_wrong_number.ok sc_wrong_number len_wrong_number (fun cdv A outer s H vs Q E hr h => ?_)
  refine ⟨_, (pss_cons (ps_for PassesOwn.never rfl (pi_range1 rfl T.z_range (pa_cons (pe_callB (call_lenK K rfl) (by rfl) T.z_len (by decide +kernel) (pa_cons (pv 1) pa_nil)) pa_nil)) (pg_name (i := 3) sc_wrong_number.nd rfl (Or.inl rfl)) (pss_one (ps_for PassesOwn.never rfl (pi_range1 rfl T.z_range (pa_cons (pe_callB (call_lenK K rfl) (by rfl) T.z_len (by decide +kernel) (pa_cons (pe_ix (ix_listK K rfl) (pv 1) (pv 3) (fun _ _ => rfl)) pa_nil)) pa_nil)) (pg_name (i := 4) sc_wrong_number.nd rfl (Or.inl rfl)) (pss_cons (ps_set (i := 5) sc_wrong_number.nd rfl (Or.inl rfl) (pe_call G_goings_on (hr.mono (by first | decide | omega)) (by rfl) T.g_goings_on T.F_goings_on.kp T.b_goings_on .nil pass0 (pa_cons (pv 0) (pa_cons (pv 1) (pa_cons (pv 3) (pa_cons (pv 4) pa_nil))))))
      (pss_one (ps_if (PW.pt (pw_or (PW.pt (pw_and (pt_cmpR op_eq (pv 2) pe_str (nomark _)) (pw_and1 (pt_cmpR op_gt (pe_ix (ix_listK K rfl) (pe_ix (ix_listK K rfl) (pv 1) (pv 3) (fun _ _ => rfl)) (pv 4) (fun _ _ => rfl)) (pe_callB (cr_minK K rfl rfl) (by rfl) T.z_min (by decide +kernel) (pa_cons (pv 5) pa_nil)) (nomark _))))) (pw_or1 (PW.pt (pw_and (pt_cmpR op_eq (pv 2) pe_str (nomark _)) (pw_and1 (pt_cmpR op_lt (pe_ix (ix_listK K rfl) (pe_ix (ix_listK K rfl) (pv 1) (pv 3) (fun _ _ => rfl)) (pv 4) (fun _ _ => rfl)) (pe_callB (cr_maxK K rfl rfl) (by rfl) T.z_max (by decide +kernel) (pa_cons (pv 5) pa_nil)) (nomark _)))))))) (pss_one (ps_ret (pe_tup (pa_cons (pv 3) (pa_cons (pv 4) pa_nil))))) pss_nil))))))
      (pss_one (ps_ret pe_non))), ?_⟩
  try dsimp only [L2.cxOf, L2.Cx.nox, L2.Cx.wish, List.map_cons, List.map_nil]
  obtain ⟨v, w, due, tb, sd, n, m, rfl, p0, p1, p2, p3, p4, k⟩ := h
  refine start_to (σ := [some _, some _, some _, none, none, none]) rfl ?_
  obtain ⟨b, ys, rfl, g1, g2⟩ := tab_inv p1
  have gl : ys.length = n := by rw [g2.len, List.length_map, p3.len]
  walk_at "go"
  refine forR (fun i σ H1 => ∃ (y3 y4 y5 : Option V), σ = [some v, some (.ref b), some (.str (sideS sd)), y3, y4, y5] ∧ (∀ k l, k < i → l < m → ¬ badAt due tb sd k l) ∧ Same H H1) ⟨_, _, _, rfl, fun k l h => absurd h (by omega), Same.refl _⟩ ?_ ?_
  · rintro σ1 H1 ⟨y3, y4, y5, rfl, q1, q2⟩
    walk_at "go"
    exact k none _ _ (fun k l hk hl => q1 k l (by omega) hl) rfl q2
  · rintro i σ1 H1 hi ⟨y3, y4, y5, rfl, q1, q2⟩
    have hi' : i < n := by omega
    obtain ⟨r, ms, e1, e2, e3, e4⟩ := tab_at (k := i) g2 p3 hi'
    have hat : atI ys (0 + (i : Int)) = some (.ref r) := by
      obtain ⟨x, z1, z2⟩ := at_lt (xs := ys) (i := 0 + (i : Int)) (by omega) (by omega)
      rw [show (0 + (i : Int)).toNat = i by omega, e1] at z2
      cases z2
      exact z1
    have g1' := q2 _ _ g1
    have e2' := q2 _ _ e2
    walk_at "go"
    refine forR (fun j σ H2 => ∃ (y4 y5 : Option V), σ = [some v, some (.ref b), some (.str (sideS sd)), some (.int (0 + (i : Int))), y4, y5] ∧ (∀ l, l < j → ¬ badAt due tb sd i l) ∧ Same H H2) ⟨_, _, rfl, fun l h => absurd h (by omega), q2⟩ ?_ ?_
    · rintro σ2 H2 ⟨y4, y5, rfl, r1, r2⟩
      walk_at "go"
      refine ⟨_, _, _, rfl, fun k l hk hl => ?_, r2⟩
      by_cases c : k = i
      · subst c
        exact r1 l (by omega)
      · exact q1 k l (by omega) hl
    · rintro j σ2 H2 hj ⟨y4, y5, rfl, r1, r2⟩
      have hj' : j < m := by omega
      have g1'' := r2 _ _ g1
      have e2'' := r2 _ _ e2
      have p0' := p0.same r2
      have p1' := p1.same r2
      have ez := e4 j hj'
      clear g1' e2' g1 e2 p0 p1
      walk_at "go"
      rename_i q H3 c1 c2 c3
      rw [show (0 + (i : Int)).toNat = i by omega, show (0 + (j : Int)).toNat = j by omega] at c1
      have gl1 := goV_len (due := due) (tb := tb) (k := i) (l := j)
      have out : badAt due tb sd i j → FB (badAt due tb sd) n m (some (i, j)) := fun hb => ⟨hi', hj', hb, fun k l hl hc => by
        rcases hc with hc | ⟨rfl, hc⟩
        · exact q1 k l (by omega) hl
        · exact r1 l hc⟩
      have on : ¬ badAt due tb sd i j → ∀ l, l < j + 1 → ¬ badAt due tb sd i l := fun hb l hl => by
        by_cases c : l = j
        · rw [c]; exact hb
        · exact r1 l (by omega)
      cases sd with
      | false =>
        walk_at "go"
        rename_i z hz z2 h21 h22
        rw [show (0 + (j : Int)).toNat = j by omega, ez] at hz
        cases hz
        refine ite_d (fun c => ?_) (fun c => ?_)
        · walk_at "go"
          rename_i p np
          exact k (some (i, j)) _ _ (out ⟨z2, h21, c⟩) ⟨p, rfl, by rw [show (0 + (i : Int)) = i by omega, show (0 + (j : Int)) = j by omega]; exact upd_same⟩ (by walk_at "g_same")
        · walk_at "go"
          exact ⟨_, _, rfl, on (fun ⟨x, hx, hc⟩ => by have := h22 x hx; have hc' : x < t2 tb i j := hc; omega), by walk_at "g_same"⟩
      | true =>
        walk_at "go"
        rename_i z hz z2 h21 h22
        rw [show (0 + (j : Int)).toNat = j by omega, ez] at hz
        cases hz
        refine ite_d (fun c => ?_) (fun c => ?_)
        · walk_at "go"
          rename_i p np
          exact k (some (i, j)) _ _ (out ⟨z2, h21, c⟩) ⟨p, rfl, by rw [show (0 + (i : Int)) = i by omega, show (0 + (j : Int)) = j by omega]; exact upd_same⟩ (by walk_at "g_same")
        · walk_at "go"
          exact ⟨_, _, rfl, on (fun ⟨x, hx, hc⟩ => by have := h22 x hx; have hc' : t2 tb i j < x := hc; omega), by walk_at "g_same"⟩
def SideOk (w : Str) : Prop := w = PySem.Str.ofString "first" ∨ w = PySem.Str.ofString "second"
theorem side_ok (sd : Bool) : SideOk (sideS sd) := by
  cases sd
  · exact .inl rfl
  · exact .inr rfl
theorem SideOk.sd {w : Str} (h : SideOk w) : ∃ sd, w = sideS sd := by
  rcases h with h | h
  · exact ⟨false, h⟩
  · exact ⟨true, h⟩
theorem sideS_inj {a b : Bool} (h : sideS a = sideS b) : a = b := by
  revert h
  cases a <;> cases b <;> decide +kernel
def sp_must_be_side (K : PySem.W.Frag) (e_NoSide : Addr) : Sp := fun vs H Q E => ∃ (w : Str), vs = [.str w] ∧ ((SideOk w) → Q (.non) H) ∧ (¬ (SideOk w) → ∀ H', Same H H' → E (.ref e_NoSide) none H')
theorem use_must_be_side {K : PySem.W.Frag} {e_NoSide : Addr} {H : Hp} {Q : VK} {E : XK} {w : Str}  (k : (SideOk w) → Q (.non) H) (kx : ¬ (SideOk w) → ∀ H', Same H H' → E (.ref e_NoSide) none H') : sp_must_be_side K e_NoSide [.str w] H Q E := ⟨w, rfl, k, kx⟩
theorem len_must_be_side {K : PySem.W.Frag} {e_NoSide : Addr} (vs : List V) (H : Hp) (Q : VK) (E : XK) (h : sp_must_be_side K e_NoSide vs H Q E) : vs.length = ["side"].length := by
  obtain ⟨_, rfl, _⟩ := h
  rfl
local macro_rules | `(tactic| walk_at "g_call") => `(tactic| ((with_reducible refine' use_must_be_side ?kk ?kx); first | ((case kx => (intro _; exfalso; walk_at "g_no")); intros) | ((case kk => (intro _; exfalso; walk_at "g_no")); intros) | skip))
theorem ok_must_be_side (T : Txt K mg) : FnOk P w K mg base (L2.CX P w) 1 T.a_must_be_side T.d_must_be_side ["side"] (sp_must_be_side K T.e_NoSide) := by
  refine T.F_must_be_side.okX sc_must_be_side len_must_be_side (fun cdv A outer s H vs Q E hr h => ?_)
  refine ⟨_, (pss_one (ps_if (pt_cmpR (op_notInK K rfl) (pv 0) (pe_glob (v := .ref T.e_SIDES) rfl T.c_SIDES rfl) (by rfl)) (pss_one (ps_raise rfl (takes_of rfl rfl rfl rfl) (pmk_own PySem.F.excBase_ValueError T.x_NoSide T.g_NoSide T.k_NoSide (raises_own T.y_NoSide T.t_NoSide) rfl))) pss_nil)), ?_⟩
  try dsimp only [L2.cxOf, L2.Cx.nox, L2.Cx.wish, List.map_cons, List.map_nil]
  obtain ⟨w, rfl, k, kx⟩ := h
  refine start_to (σ := [some _]) rfl ?_
  by_cases good : SideOk w
  · have k' := k good
    rcases good with rfl | rfl
    · walk_at "go"
      exact k'
    · walk_at "go"
      exact k'
  · have no : L2.inV (.str w) [.str (PySem.Str.ofString "first"), .str (PySem.Str.ofString "second")] = false := inV2 (fun h => good (.inl h)) (fun h => good (.inr h))
    walk_at "go"
    exact kx good _ (by walk_at "g_same")
structure JPre (H : Hp) (f s : Int) (ds : List PyData) (wv pv : V) (top bot : Int) (d : PyData) : Prop where
  pw : ∀ fs, ds = fs.map fldD → PayWd fs f s
  wt : ∃ t, wv = .ref t ∧ H t = some (.tup [.int top, .int bot])
  wd : Wd 9000 top ∧ Wd 9000 bot
  pd : Dq H pv d
  ww : wid d ≤ 1000
  sh : d.showable = true
def JudA (f s : Int) (ds : List PyData) (w : Str) (top bot : Int) (d r : PyData) : Prop := ∀ fs sd, ds = fs.map fldD → w = sideS sd → JudR f s fs sd top bot d r
theorem JudA.mk {f s : Int} {fs : List Fld} {sd : Bool} {top bot : Int} {d r : PyData} (h : JudR f s fs sd top bot d r) : JudA f s (fs.map fldD) (sideS sd) top bot d r := fun gs td e1 e2 => by
  have e3 := sideS_inj e2
  have e4 : fs = gs := (List.map_inj_right fun x y e => fldD_inj e).mp e1
  rw [← e3, ← e4]
  exact h
theorem dq_word {H : Hp} {p : Addr} {x : String} (h : H p = some (.tup [.str (PySem.Str.ofString x)])) : Dq H (.ref p) (wordD x) := .tup h (.cons (.str _) .nil)
def sp_judged (K : PySem.W.Frag) (e_NoBattle : Addr) (e_NoSide : Addr) : Sp := fun vs H Q E => ∃ (v : V) (f s : Int) (ds : List PyData) (w : Str) (wv pv : V) (top bot : Int) (d : PyData), vs = [v, .str w, wv, pv] ∧ (Dq H v (batT f s ds)) ∧ ((∀ d ∈ ds, FldIn d)) ∧ (ds.length ≤ 1000) ∧ ((SideOk w → JPre H f s ds wv pv top bot d)) ∧ ((badB f s ds = none ∧ SideOk w) → ∀ (r : PyData) (u : V) (H' : Hp), (JudA f s ds w top bot d r) → (Dq H' u r) → (Same H H') → Q (u) H') ∧ (¬ (badB f s ds = none ∧ SideOk w) → (∀ k d H', badB f s ds = some k → H d = none → H' d = some (.xd [(("field" : Str), .int k)]) → Same H H' → E (.ref e_NoBattle) (some d) H') ∧ (badB f s ds = none → ¬ SideOk w → ∀ H', Same H H' → E (.ref e_NoSide) none H'))
theorem use_judged {K : PySem.W.Frag} {e_NoBattle : Addr} {e_NoSide : Addr} {H : Hp} {Q : VK} {E : XK} {v : V} {f s : Int} {ds : List PyData} {w : Str} {wv pv : V} {top bot : Int} {d : PyData} (p0 : Dq H v (batT f s ds)) (p1 : (∀ d ∈ ds, FldIn d)) (p2 : ds.length ≤ 1000) (p3 : (SideOk w → JPre H f s ds wv pv top bot d)) (k : (badB f s ds = none ∧ SideOk w) → ∀ (r : PyData) (u : V) (H' : Hp), (JudA f s ds w top bot d r) → (Dq H' u r) → (Same H H') → Q (u) H') (kx : ¬ (badB f s ds = none ∧ SideOk w) → (∀ k d H', badB f s ds = some k → H d = none → H' d = some (.xd [(("field" : Str), .int k)]) → Same H H' → E (.ref e_NoBattle) (some d) H') ∧ (badB f s ds = none → ¬ SideOk w → ∀ H', Same H H' → E (.ref e_NoSide) none H')) : sp_judged K e_NoBattle e_NoSide [v, .str w, wv, pv] H Q E := ⟨v, f, s, ds, w, wv, pv, top, bot, d, rfl, p0, p1, p2, p3, k, kx⟩
theorem len_judged {K : PySem.W.Frag} {e_NoBattle : Addr} {e_NoSide : Addr} (vs : List V) (H : Hp) (Q : VK) (E : XK) (h : sp_judged K e_NoBattle e_NoSide vs H Q E) : vs.length = ["battle", "side", "worth", "paper"].length := by
  obtain ⟨_, _, _, _, _, _, _, _, _, _, rfl, _⟩ := h
  rfl
local macro_rules | `(tactic| walk_at "g_call") => `(tactic| ((with_reducible refine' use_judged ?c0 ?c1 ?c2 ?c3 ?kk ?kx); (case c0 => walk_at "g_pre"); (case c1 => walk_at "g_pre"); (case c2 => walk_at "g_pre"); (case c3 => walk_at "g_pre"); first | ((case kx => (intro _; exfalso; walk_at "g_no")); intros) | ((case kk => (intro _; exfalso; walk_at "g_no")); intros) | skip))
theorem ok_judged (T : Txt K mg) : FnOk P w K mg base (L2.CX P w) 5 T.a_judged T.d_judged ["battle", "side", "worth", "paper"] (sp_judged K T.e_NoBattle T.e_NoSide) := by
  have G_look_battle := ok_look_battle (P := P) (w := w) (base := base) T
  have G_must_be_side := ok_must_be_side (P := P) (w := w) (base := base) T
  have G_wrong_number := ok_wrong_number (P := P) (w := w) (base := base) T
  have G_is_stream := ok_is_stream (P := P) (w := w) (base := base) T
  have G_is_table := ok_is_table (P := P) (w := w) (base := base) T
  have G_dues := ok_dues (P := P) (w := w) (base := base) T
  refine T.F_judged.okX sc_judged len_judged (fun cdv A outer s H vs Q E hr h => ?_)
  refine ⟨_, (pss_cons (ps_expr (pe_callS G_look_battle (hr.mono (by first | decide | omega)) (by rfl) T.g_look_battle T.F_look_battle.kp T.b_look_battle (fun σ => passAt (takes_of rfl rfl rfl rfl) σ) (pa_cons (pv 0) pa_nil)))
      (pss_cons (ps_expr (pe_callS G_must_be_side (hr.mono (by first | decide | omega)) (by rfl) T.g_must_be_side T.F_must_be_side.kp T.b_must_be_side (fun σ => passAt (takes_of rfl rfl rfl rfl) σ) (pa_cons (pv 1) pa_nil)))
      (pss_cons (ps_if (PW.pt (pw_or (pt_not (pt_val (pe_callB (call_isXK K rfl) (by rfl) T.z_isinstance (by decide +kernel) (pa_cons (pv 3) (pa_cons (pe_bltn (v := .ty "tuple") rfl T.z_tuple (by decide +kernel) rfl) pa_nil))))) (pw_or1 (pt_cmpR op_ne (pe_callB (call_lenK K rfl) (by rfl) T.z_len (by decide +kernel) (pa_cons (pv 3) pa_nil)) pe_int (nomark _))))) (pss_one (ps_ret (pe_tup (pa_cons pe_str pa_nil)))) pss_nil)
      (pss_cons (ps_asg (pv 3) (pg_tupK K rfl 2 rfl (pgs_cons (pg_name (i := 4) sc_judged.nd rfl (Or.inl rfl)) (pgs_cons (pg_name (i := 5) sc_judged.nd rfl (Or.inl rfl)) pgs_nil))))
      (pss_cons (ps_par (i := 6) (j := 7) rfl sc_judged.nd rfl rfl (by decide) rfl rfl (pa_cons (pe_ix (ix_tupK K rfl) (pv 0) pe_int (fun _ _ => rfl)) (pa_cons (pe_ix (ix_tupK K rfl) (pv 0) pe_int (fun _ _ => rfl)) pa_nil)) (by rfl))
      (pss_cons (ps_if (pt_cmpR op_eq (pv 1) pe_str (nomark _)) (pss_one (ps_par (i := 6) (j := 7) rfl sc_judged.nd rfl rfl (by decide) rfl rfl (pa_cons (pv 7) (pa_cons (pv 6) pa_nil)) (by rfl))) pss_nil)
      (pss_cons (ps_if (pt_not (pt_val (pe_call G_is_stream (hr.mono (by first | decide | omega)) (by rfl) T.g_is_stream T.F_is_stream.kp T.b_is_stream .nil pass0 (pa_cons (pv 6) (pa_cons (pe_callB (call_lenK K rfl) (by rfl) T.z_len (by decide +kernel) (pa_cons (pe_ix (ix_tupK K rfl) (pv 0) pe_int (fun _ _ => rfl)) pa_nil)) (pa_cons (pv 4) pa_nil)))))) (pss_one (ps_ret (pe_tup (pa_cons pe_str pa_nil)))) pss_nil)
      (pss_cons (ps_if (pt_not (pt_val (pe_call G_is_table (hr.mono (by first | decide | omega)) (by rfl) T.g_is_table T.F_is_table.kp T.b_is_table .nil pass0 (pa_cons (pv 5) (pa_cons (pe_callB (call_lenK K rfl) (by rfl) T.z_len (by decide +kernel) (pa_cons (pe_ix (ix_tupK K rfl) (pv 0) pe_int (fun _ _ => rfl)) pa_nil)) (pa_cons (pv 7) pa_nil)))))) (pss_one (ps_ret (pe_tup (pa_cons pe_str pa_nil)))) pss_nil)
      (pss_cons (ps_set (i := 8) sc_judged.nd rfl (Or.inl rfl) (pe_call G_wrong_number (hr.mono (by first | decide | omega)) (by rfl) T.g_wrong_number T.F_wrong_number.kp T.b_wrong_number .nil pass0 (pa_cons (pe_call G_dues (hr.mono (by first | decide | omega)) (by rfl) T.g_dues T.F_dues.kp T.b_dues .nil pass0 (pa_cons (pv 0) (pa_cons (pv 1) (pa_cons (pv 4) pa_nil)))) (pa_cons (pv 5) (pa_cons (pv 1) pa_nil)))))
      (pss_cons (ps_if (pt_cmpR op_notN (pv 8) pe_non (nomark _)) (pss_one (ps_ret (pe_tup (pa_cons pe_str (pa_cons (pe_ix (ix_tupK K rfl) (pv 8) pe_int (fun _ _ => rfl)) (pa_cons (pe_ix (ix_tupK K rfl) (pv 8) pe_int (fun _ _ => rfl)) pa_nil)))))) pss_nil)
      (pss_cons (ps_set (i := 9) sc_judged.nd rfl (Or.inl rfl) (pe_op op_mulA (pe_ix (ix_tupK K rfl) (pv 2) pe_int (fun _ _ => rfl)) (pe_callB (cr_sumK K rfl rfl) (by rfl) T.z_sum (by decide +kernel) (pa_cons (pe_lc (own := [("left", 11), ("sent", 12), ("flow", 13)]) rfl sc_judged.nd (pi_listK K rfl (pe_ix (ix_listK K rfl) (pv 4) pe_int (fun _ _ => rfl))) (blkOk_by (own := [("left", 11), ("sent", 12), ("flow", 13)]) (N := ["battle", "side", "worth", "paper", "stream", "table", "own", "other", "wrong", "due", "shown", "left", "sent", "flow"]) (sc := defScope s_judged) (by decide +kernel)) (fun _ _ _ _ _ => (pg_tupK K rfl 3 rfl (pgs_cons (pg_name (i := 11) sc_judged.nd rfl (Or.inl rfl)) (pgs_cons (pg_name (i := 12) sc_judged.nd rfl (Or.inl rfl)) (pgs_cons (pg_name (i := 13) sc_judged.nd rfl (Or.inl rfl)) pgs_nil))))) (fun _ _ _ _ _ => pts_nil) (fun _ _ _ _ _ => (pv 13))) pa_nil))))
      (pss_cons (ps_set (i := 10) sc_judged.nd rfl (Or.inl rfl) (pe_op op_mulA (pe_ix (ix_listK K rfl) (pe_ix (ix_listK K rfl) (pv 5) pe_int (fun _ _ => rfl)) (pv 7) (fun _ _ => rfl)) (pe_ix (ix_tupK K rfl) (pv 2) pe_int (fun _ _ => rfl))))
      (pss_cons (ps_if (PW.pt (pw_or (PW.pt (pw_and (pt_cmpR op_eq (pv 1) pe_str (nomark _)) (pw_and1 (pt_cmpR op_lt (pv 10) (pv 9) (nomark _))))) (pw_or1 (PW.pt (pw_and (pt_cmpR op_eq (pv 1) pe_str (nomark _)) (pw_and1 (pt_cmpR op_gt (pv 10) (pv 9) (nomark _)))))))) (pss_one (ps_ret (pe_tup (pa_cons pe_str pa_nil)))) pss_nil)
      (pss_one (ps_ret pe_non))))))))))))))), ?_⟩
  try dsimp only [L2.cxOf, L2.Cx.nox, L2.Cx.wish, List.map_cons, List.map_nil]
  obtain ⟨v, f, s, ds, w, wv, pv, top, bot, d, rfl, p0, p1, p2, p3, k, kx⟩ := h
  refine start_to (σ := [some _, some _, some _, some _, none, none, none, none, none, none, none, none, none, none]) rfl ?_
  by_cases good : badB f s ds = none ∧ SideOk w
  · have k' := k good
    clear k kx
    obtain ⟨good, so⟩ := good
    obtain ⟨pw, ⟨t, rfl, t0⟩, ⟨wt, wb⟩, pd, ww, sh⟩ := p3 so
    obtain ⟨fs, rfl, ok⟩ := good_flds good
    have pw := pw fs rfl
    have p0' : Dq H v (batD f s fs) := p0
    clear p3
    refine i_seq ?_
    walk_at "goS"
    rename_i H1 s1
    obtain ⟨a, p, xs, rfl, h1, h2, h3⟩ := bat_inv (p0'.same s1)
    have hl : (xs.length : Int) = fs.length := by rw [h3.len, List.length_map]
    have hn := ok.ne
    have hf := ok.hf
    have hs := ok.hs
    have t1 := s1 _ _ t0
    have pd1 := pd.same s1
    refine i_seq ?_
    walk_at "goS"
    clear pd t0
    have nopair : ∀ {H' : Hp} {q : Addr}, (∀ a b, d ≠ .tuple [a, b]) → H' q = some (.tup [.str (PySem.Str.ofString "paper")]) → Same H H' → Q (.ref q) H' := fun e hq hs => k' _ _ _ (fun fs sd _ _ => .paper e rfl) (dq_word hq) hs
    cases pd1 with
    | non => walk_at "go"; exact nopair nofun upd_same (by walk_at "g_same")
    | bl b => walk_at "go"; exact nopair nofun upd_same (by walk_at "g_same")
    | int i => walk_at "go"; exact nopair nofun upd_same (by walk_at "g_same")
    | str x => walk_at "go"; exact nopair nofun upd_same (by walk_at "g_same")
    | lst h q => walk_at "go"; exact nopair nofun upd_same (by walk_at "g_same")
    | @tup a9 vs es h q =>
    have vl := q.len
    by_cases c2 : es.length = 2
    · obtain ⟨da, db, rfl⟩ : ∃ a b, es = [a, b] := by
        match es, c2 with
        | [a, b], _ => exact ⟨a, b, rfl⟩
      obtain ⟨x, y, rfl, pa, pb⟩ := q.two
      obtain ⟨sha, shb⟩ := sh_pair sh
      have wa : wid da ≤ 1000 := by
        have := widA_mem (ds := [da, db]) (d := da) (by simp)
        rw [wid] at ww
        omega
      have wbb : wid db ≤ 1000 := by
        have := widA_mem (ds := [da, db]) (d := db) (by simp)
        rw [wid] at ww
        omega
      clear nopair
      obtain ⟨sd, rfl⟩ := so.sd
      rcases sd with _ | _
      · walk_at "go"
        rename_i H2 s2
        have x1 : ownS f s false = f := rfl
        have x2 : othS f s false = s := rfl
        cases ea : isStrB f fs.length da with
        | false =>
          rw [hl, ea]
          walk_at "go"
          rename_i q nq
          exact k' _ _ _ (JudA.mk (.stream _ _ rfl (isStr_no.mp ea) rfl)) (dq_word upd_same) (by walk_at "g_same")
        | true =>
        rw [hl, ea]
        have ga := pa.same s2
        have gb := pb.same s2
        have t2' := s2 _ _ t1
        have bt := p0'.same (s1.trans s2)
        have h1' := s2 _ _ h1
        have h2' := s2 _ _ h2
        have s12 := s1.trans s2
        clear pa pb t1 h1 h2 p0' s2 s1
        walk_at "go"
        rename_i H3 s3
        cases eb : isTabB fs.length s db with
        | false =>
          rw [hl, eb]
          walk_at "go"
          rename_i q nq
          exact k' _ _ _ (JudA.mk (.table _ _ rfl (isStr_iff.mp ea) (isTab_no.mp eb) rfl)) (dq_word upd_same) (by walk_at "g_same")
        | true =>
        rw [hl, eb]
        obtain ⟨Ls, rfl, gs⟩ := isStr_iff.mp ea
        obtain ⟨tb, rfl, gt⟩ := tab_rect (isTab_iff.mp eb)
        have ss := gs.s wa sha
        have ss2 : StrS (ownS f s false) fs.length Ls := ss
        have ga' := ga.same s3
        have gb' := gb.same s3
        have t3 := s3 _ _ t2'
        have bt' := bt.same s3
        have s123 := s12.trans s3
        have fl := sh_flows sha
        have ft := sh_table shb
        clear ga gb t2' bt h1' h2' s12 s3 ea eb
        walk_at "go"
        rename_i due H4 d1 s4
        have gb2 := gb'.same s4
        have d2 : Dq H4 due (tabD (duesV fs false Ls (s + 1).toNat)) := d1
        clear d1
        have rd := dues_rect (fs := fs) (sd := false) (Ls := Ls) (w := (s + 1).toNat)
        have nm : fs.length ≤ 1000 ∧ (s + 1).toNat ≤ 1000 := by omega
        walk_at "go"
        rename_i r wv H5 w1 w2 s5
        have s45 := s4.trans s5
        cases r with
        | some kl =>
          obtain ⟨kk, ll⟩ := kl
          obtain ⟨p9, rfl, w3⟩ := w2
          walk_at "go"
          rename_i q nq
          exact k' _ _ _ (JudA.mk (.num Ls tb kk ll rfl gs gt w1 rfl)) (.tup upd_same (.cons (.str _) (.cons (.int _) (.cons (.int _) .nil)))) (by walk_at "g_same")
        | none =>
        obtain rfl := w2
        have ga4 := ga'.same s45
        have gb4 := gb'.same s45
        have t4 := s45 _ _ t3
        obtain ⟨b1, zs, rfl, g1, g2⟩ := str_inv ga4
        obtain ⟨b2, ys, rfl, g3, g4⟩ := tab_inv gb4
        have zl : zs.length = fs.length := by rw [g2.len, List.length_map, ss.1]
        obtain ⟨x0, hx0⟩ : ∃ x, zs[0]? = some x := ⟨zs[0]'(by omega), List.getElem?_eq_getElem _⟩
        obtain ⟨L, r9, zz, m1, rfl, m3, m4⟩ := strow_at g2 hx0
        have hat : atI zs 0 = some (.ref r9) := atI_nat hx0
        obtain ⟨r8, ms, n1, n2, n3, n4⟩ := tab_at (k := 0) g4 gt (by omega)
        have hat2 : atI ys 0 = some (.ref r8) := atI_nat n1
        have zl2 : zz.length = L.length := by rw [m4.len, List.length_map]
        have ll := (ss.2 L (List.mem_of_getElem? m1)).1
        have s1235 := s123.trans s45
        have hwf : wholeF Ls = (L.map fun e => e.2.2).sum := by
          unfold wholeF
          rw [m1]
          rfl
        have cm : CMulA top (L.map fun e => e.2.2).sum := wt.cmul (wd_sum (a := 1920) (k := 10) (fun x hx => by
          obtain ⟨e, he, rfl⟩ := List.mem_map.mp hx
          exact fl L (List.mem_of_getElem? m1) e he) (by rw [List.length_map]; omega)) (by decide) (by decide) (by decide)
        have ez := n4 s.toNat (by omega)
        have cm2 : CMulA (t2 tb 0 s.toNat) bot := by
          obtain ⟨r', f1, f2⟩ := gt.get (k := 0) (y := s.toNat) (by omega) (by omega)
          exact (ft r' (List.mem_of_getElem? f1) _ (List.mem_of_getElem? f2)).cmul wb (by decide) (by decide) (by decide)
        clear ga' gb' ga4 gb4 t3 bt' d2 gb2 rd s4 s5 s45 s123
        walk_at "go"
        intro D nD
        refine lcL_int (xs := zz) (fun t => ((L[t]?).map fun e => e.2.2).getD 0) nD (by omega) (SqL.of m3) ?_ ?_
        · intro t x9 H6 Z Y hx9 s6 hz
          have ht : t < L.length := by rw [← zl2]; exact (List.getElem?_eq_some_iff.mp hx9).1
          obtain ⟨e, he⟩ : ∃ e, L[t]? = some e := ⟨L[t], List.getElem?_eq_getElem ht⟩
          obtain ⟨tt, f1, f2⟩ := fl_at m4 he
          rw [hx9] at f1
          cases f1
          have f3 := s6 _ _ f2
          walk_at "go"
          have := hz H6 (Same.refl _)
          rw [he] at this
          exact this
        · intro H6 s6 hD
          rw [zl2, rng_map _ (fun e : Fl => e.2.2) L (fun t e he => by rw [he]; rfl)] at hD
          have t5 := s6 _ _ t4
          have g5 := s6 _ _ g3
          have n5 := s6 _ _ n2
          have s99 := s1235.trans s6
          clear g1 g2 g3 m3 m4 n2 t4
          walk_at "goO"
          rename_i z hz
          rw [ez] at hz
          cases hz
          walk_at "goO"
          refine ite_d (fun c => ?_) (fun c => ?_)
          · walk_at "go"
            rename_i q nq
            exact k' _ _ _ (JudA.mk (.worth Ls tb rfl gs gt w1 (by show t2 tb 0 s.toNat * bot < top * wholeF Ls; rw [hwf]; exact c) rfl)) (dq_word upd_same) (by walk_at "g_same")
          · walk_at "go"
            exact k' _ _ _ (JudA.mk (.good Ls tb rfl gs gt w1 (fun q => c (by rw [← hwf]; exact q)) rfl)) .non s99
      · walk_at "go"
        rename_i H2 s2
        have x1 : ownS f s true = s := rfl
        have x2 : othS f s true = f := rfl
        cases ea : isStrB s fs.length da with
        | false =>
          rw [hl, ea]
          walk_at "go"
          rename_i q nq
          exact k' _ _ _ (JudA.mk (.stream _ _ rfl (isStr_no.mp ea) rfl)) (dq_word upd_same) (by walk_at "g_same")
        | true =>
        rw [hl, ea]
        have ga := pa.same s2
        have gb := pb.same s2
        have t2' := s2 _ _ t1
        have bt := p0'.same (s1.trans s2)
        have h1' := s2 _ _ h1
        have h2' := s2 _ _ h2
        have s12 := s1.trans s2
        clear pa pb t1 h1 h2 p0' s2 s1
        walk_at "go"
        rename_i H3 s3
        cases eb : isTabB fs.length f db with
        | false =>
          rw [hl, eb]
          walk_at "go"
          rename_i q nq
          exact k' _ _ _ (JudA.mk (.table _ _ rfl (isStr_iff.mp ea) (isTab_no.mp eb) rfl)) (dq_word upd_same) (by walk_at "g_same")
        | true =>
        rw [hl, eb]
        obtain ⟨Ls, rfl, gs⟩ := isStr_iff.mp ea
        obtain ⟨tb, rfl, gt⟩ := tab_rect (isTab_iff.mp eb)
        have ss := gs.s wa sha
        have ss2 : StrS (ownS f s true) fs.length Ls := ss
        have ga' := ga.same s3
        have gb' := gb.same s3
        have t3 := s3 _ _ t2'
        have bt' := bt.same s3
        have s123 := s12.trans s3
        have fl := sh_flows sha
        have ft := sh_table shb
        clear ga gb t2' bt h1' h2' s12 s3 ea eb
        walk_at "go"
        rename_i due H4 d1 s4
        have gb2 := gb'.same s4
        have d2 : Dq H4 due (tabD (duesV fs true Ls (f + 1).toNat)) := d1
        clear d1
        have rd := dues_rect (fs := fs) (sd := true) (Ls := Ls) (w := (f + 1).toNat)
        have nm : fs.length ≤ 1000 ∧ (f + 1).toNat ≤ 1000 := by omega
        walk_at "go"
        rename_i r wv H5 w1 w2 s5
        have s45 := s4.trans s5
        cases r with
        | some kl =>
          obtain ⟨kk, ll⟩ := kl
          obtain ⟨p9, rfl, w3⟩ := w2
          walk_at "go"
          rename_i q nq
          exact k' _ _ _ (JudA.mk (.num Ls tb kk ll rfl gs gt w1 rfl)) (.tup upd_same (.cons (.str _) (.cons (.int _) (.cons (.int _) .nil)))) (by walk_at "g_same")
        | none =>
        obtain rfl := w2
        have ga4 := ga'.same s45
        have gb4 := gb'.same s45
        have t4 := s45 _ _ t3
        obtain ⟨b1, zs, rfl, g1, g2⟩ := str_inv ga4
        obtain ⟨b2, ys, rfl, g3, g4⟩ := tab_inv gb4
        have zl : zs.length = fs.length := by rw [g2.len, List.length_map, ss.1]
        obtain ⟨x0, hx0⟩ : ∃ x, zs[0]? = some x := ⟨zs[0]'(by omega), List.getElem?_eq_getElem _⟩
        obtain ⟨L, r9, zz, m1, rfl, m3, m4⟩ := strow_at g2 hx0
        have hat : atI zs 0 = some (.ref r9) := atI_nat hx0
        obtain ⟨r8, ms, n1, n2, n3, n4⟩ := tab_at (k := 0) g4 gt (by omega)
        have hat2 : atI ys 0 = some (.ref r8) := atI_nat n1
        have zl2 : zz.length = L.length := by rw [m4.len, List.length_map]
        have ll := (ss.2 L (List.mem_of_getElem? m1)).1
        have s1235 := s123.trans s45
        have hwf : wholeF Ls = (L.map fun e => e.2.2).sum := by
          unfold wholeF
          rw [m1]
          rfl
        have cm : CMulA top (L.map fun e => e.2.2).sum := wt.cmul (wd_sum (a := 1920) (k := 10) (fun x hx => by
          obtain ⟨e, he, rfl⟩ := List.mem_map.mp hx
          exact fl L (List.mem_of_getElem? m1) e he) (by rw [List.length_map]; omega)) (by decide) (by decide) (by decide)
        have ez := n4 f.toNat (by omega)
        have cm2 : CMulA (t2 tb 0 f.toNat) bot := by
          obtain ⟨r', f1, f2⟩ := gt.get (k := 0) (y := f.toNat) (by omega) (by omega)
          exact (ft r' (List.mem_of_getElem? f1) _ (List.mem_of_getElem? f2)).cmul wb (by decide) (by decide) (by decide)
        clear ga' gb' ga4 gb4 t3 bt' d2 gb2 rd s4 s5 s45 s123
        walk_at "go"
        intro D nD
        refine lcL_int (xs := zz) (fun t => ((L[t]?).map fun e => e.2.2).getD 0) nD (by omega) (SqL.of m3) ?_ ?_
        · intro t x9 H6 Z Y hx9 s6 hz
          have ht : t < L.length := by rw [← zl2]; exact (List.getElem?_eq_some_iff.mp hx9).1
          obtain ⟨e, he⟩ : ∃ e, L[t]? = some e := ⟨L[t], List.getElem?_eq_getElem ht⟩
          obtain ⟨tt, f1, f2⟩ := fl_at m4 he
          rw [hx9] at f1
          cases f1
          have f3 := s6 _ _ f2
          walk_at "go"
          have := hz H6 (Same.refl _)
          rw [he] at this
          exact this
        · intro H6 s6 hD
          rw [zl2, rng_map _ (fun e : Fl => e.2.2) L (fun t e he => by rw [he]; rfl)] at hD
          have t5 := s6 _ _ t4
          have g5 := s6 _ _ g3
          have n5 := s6 _ _ n2
          have s99 := s1235.trans s6
          clear g1 g2 g3 m3 m4 n2 t4
          walk_at "goO"
          rename_i z hz
          rw [ez] at hz
          cases hz
          walk_at "goO"
          refine ite_d (fun c => ?_) (fun c => ?_)
          · walk_at "go"
            rename_i q nq
            exact k' _ _ _ (JudA.mk (.worth Ls tb rfl gs gt w1 (by show top * wholeF Ls < t2 tb 0 f.toNat * bot; rw [hwf]; exact c) rfl)) (dq_word upd_same) (by walk_at "g_same")
          · walk_at "go"
            exact k' _ _ _ (JudA.mk (.good Ls tb rfl gs gt w1 (fun q => c (by rw [← hwf]; exact q)) rfl)) .non s99
    · walk_at "go"
      refine ite_y (by simp; omega) ?_
      walk_at "go"
      exact nopair (fun a b e => c2 (by injection e with e; rw [e]; rfl)) upd_same (by walk_at "g_same")
  · by_cases g1 : badB f s ds = none
    · have g2 : ¬ SideOk w := fun z => good ⟨g1, z⟩
      walk_at "go"
      exact (kx good).2 g1 g2 _ (by walk_at "g_same")
    · walk_at "go"
      exact (kx good).1 _ _ _ (by assumption) (by assumption) (by assumption) (by assumption)

def sp_l_paid (K : PySem.W.Frag) : Sp := fun vs H Q E => ∃ (v : V) (fl : Fld) (f s x y : Int), vs = [v, .int x, .int y] ∧ (Dq H v (fldD fl)) ∧ (FldOk f s fl) ∧ (0 ≤ x ∧ x ≤ f ∧ 0 ≤ y ∧ y ≤ s) ∧ ∀ (H' : Hp), (Same H H') → Q (.int (paidV fl x y)) H'
theorem use_l_paid {K : PySem.W.Frag} {H : Hp} {Q : VK} {E : XK} {v : V} {fl : Fld} {f s x y : Int} (p0 : Dq H v (fldD fl)) (p1 : FldOk f s fl) (p2 : 0 ≤ x ∧ x ≤ f ∧ 0 ≤ y ∧ y ≤ s) (k : ∀ (H' : Hp), (Same H H') → Q (.int (paidV fl x y)) H') : sp_l_paid K [v, .int x, .int y] H Q E := ⟨v, fl, f, s, x, y, rfl, p0, p1, p2, k⟩
theorem len_l_paid {K : PySem.W.Frag} (vs : List V) (H : Hp) (Q : VK) (E : XK) (h : sp_l_paid K vs H Q E) : vs.length = ["_law_field", "_law_x", "_law_y"].length := by
  obtain ⟨_, _, _, _, _, _, rfl, _⟩ := h
  rfl
local macro_rules | `(tactic| walk_at "g_call") => `(tactic| ((with_reducible refine' use_l_paid ?c0 ?c1 ?c2 ?_); (case c0 => walk_at "g_pre"); (case c1 => walk_at "g_pre"); (case c2 => walk_at "g_pre"); intros))
theorem ok_l_paid (T : Txt K mg) : FnOk P w K mg base CX0 1 T.a_l_paid T.d_l_paid ["_law_field", "_law_x", "_law_y"] (sp_l_paid K) := by
  refine T.F_l_paid.ok sc_l_paid len_l_paid (fun cdv A outer s H vs Q E hr h => ?_)
  refine ⟨_, (pss_cons (ps_if (pt_cmpR op_eq (pe_ix (ix_tupK K rfl) (pv 0) pe_int (fun _ _ => rfl)) pe_str (nomark _)) (pss_one (ps_ret (pe_ix (ix_listK K rfl) (pe_ix (ix_listK K rfl) (pe_ix (ix_tupK K rfl) (pv 0) pe_int (fun _ _ => rfl)) (pv 1) (fun _ _ => rfl)) (pv 2) (fun _ _ => rfl)))) pss_nil)
      (pss_cons (ps_if (pt_cmpR op_eq (pe_ix (ix_tupK K rfl) (pv 0) pe_int (fun _ _ => rfl)) pe_str (nomark _)) (pss_one (ps_ret (pe_ix (ix_listK K rfl) (pe_lst (pa_cons (pe_op op_sub pe_int (pe_ix (ix_tupK K rfl) (pv 0) pe_int (fun _ _ => rfl))) (pa_cons (pe_ix (ix_tupK K rfl) (pv 0) pe_int (fun _ _ => rfl)) pa_nil))) (pe_callTy call_int1 (by rfl) T.z_int (by decide +kernel) (pa_cons (pe_cmpR op_ge (pe_op op_sub (pv 1) (pv 2)) (pe_ix (ix_tupK K rfl) (pv 0) pe_int (fun _ _ => rfl)) (nomark _)) pa_nil)) (fun _ _ => rfl)))) pss_nil)
      (pss_one (ps_ret (pe_ix (ix_listK K rfl) (pe_lst (pa_cons (pe_op op_sub pe_int (pe_ix (ix_tupK K rfl) (pv 0) pe_int (fun _ _ => rfl))) (pa_cons (pe_ix (ix_tupK K rfl) (pv 0) pe_int (fun _ _ => rfl)) (pa_cons (pe_ix (ix_tupK K rfl) (pv 0) pe_int (fun _ _ => rfl)) pa_nil)))) (pe_op op_add (pe_callTy call_int1 (by rfl) T.z_int (by decide +kernel) (pa_cons (pe_cmpR op_ge (pv 1) (pv 2) (nomark _)) pa_nil)) (pe_callTy call_int1 (by rfl) T.z_int (by decide +kernel) (pa_cons (pe_cmpR op_gt (pv 1) (pv 2) (nomark _)) pa_nil))) (fun _ _ => rfl)))))), ?_⟩
  try dsimp only [L2.cxOf, L2.Cx.nox, L2.Cx.wish, List.map_cons, List.map_nil]
  obtain ⟨v, fl, f, s, x, y, rfl, p0, p1, p2, k⟩ := h
  refine start_to (σ := [some _, some _, some _]) rfl ?_
  cases fl with
  | more w t =>
    obtain ⟨a, rfl, h1⟩ := fld_more p0
    have k' : ∀ H', Same H H' → Q (.int (if x = y then t else if x > y then w else 0 - w)) H' := k
    rcases (by omega : x < y ∨ x = y ∨ x > y) with c | c | c
    · rw [if_neg (by omega), if_neg (by omega)] at k'
      walk_at "go"
      exact k' _ (by walk_at "g_same")
    · rw [if_pos (by omega)] at k'
      walk_at "go"
      exact k' _ (by walk_at "g_same")
    · rw [if_neg (by omega), if_pos (by omega)] at k'
      walk_at "go"
      exact k' _ (by walk_at "g_same")
  | lead w l =>
    obtain ⟨a, rfl, h1⟩ := fld_lead p0
    have k' : ∀ H', Same H H' → Q (.int (if x ≥ y + l then w else 0 - w)) H' := k
    rcases (by omega : x - y ≥ l ∨ ¬ (x - y ≥ l)) with c | c
    · rw [if_pos (by omega)] at k'
      walk_at "go"
      exact k' _ (by walk_at "g_same")
    · rw [if_neg (by omega)] at k'
      walk_at "go"
      exact k' _ (by walk_at "g_same")
  | tab rows =>
    obtain ⟨a, p, xs, rfl, h1, h2, h3⟩ := fld_tab p0
    obtain ⟨g1, g2⟩ := p1
    have hl : xs.length = rows.length := by rw [h3.len, List.length_map]
    obtain ⟨w, hat, hw⟩ := at_lt (xs := xs) (i := x) (by omega) (by omega)
    obtain ⟨r, q, e1, rfl, e2⟩ := row_at h3 hw
    have hr := g2 r (List.mem_of_getElem? e1)
    walk_at "go"
    rename_i z hz
    have k' : Q (.int ((((rows[x.toNat]?).getD [])[y.toNat]?).getD 0)) H := k _ (Same.refl _)
    rw [e1] at k'
    have k2 : Q (.int ((r[y.toNat]?).getD 0)) H := k'
    rw [hz] at k2
    exact k2

def sideI (sd : Bool) : Int := if sd = true then 1 else 0
theorem take_sum {α : Type} (g : α → Int) {L : List α} {t : Nat} {e : α} (h : L[t]? = some e) : ((L.take (t + 1)).map g).sum = ((L.take t).map g).sum + g e := by
  obtain ⟨h1, h2⟩ := List.getElem?_eq_some_iff.mp h
  rw [List.take_succ, List.map_append, List.sum_append, h]
  simp
def sp_l_dues (K : PySem.W.Frag) : Sp := fun vs H Q E => ∃ (v : V) (f s : Int) (fs : List Fld) (sd : Bool) (w : V) (Ls : List (List Fl)), vs = [v, .int (sideI sd), w] ∧ (Dq H v (batD f s fs)) ∧ (BatOk f s fs) ∧ (PayWd fs f s) ∧ (Dq H w (strD Ls)) ∧ (StrS (ownS f s sd) fs.length Ls) ∧ ∀ (u : V) (H' : Hp), (Dq H' u (tabD (duesV fs sd Ls (othS f s sd + 1).toNat))) → (Same H H') → Q (u) H'
theorem use_l_dues {K : PySem.W.Frag} {H : Hp} {Q : VK} {E : XK} {v : V} {f s : Int} {fs : List Fld} {sd : Bool} {w : V} {Ls : List (List Fl)} (p0 : Dq H v (batD f s fs)) (p1 : BatOk f s fs) (p2 : PayWd fs f s) (p3 : Dq H w (strD Ls)) (p4 : StrS (ownS f s sd) fs.length Ls) (k : ∀ (u : V) (H' : Hp), (Dq H' u (tabD (duesV fs sd Ls (othS f s sd + 1).toNat))) → (Same H H') → Q (u) H') : sp_l_dues K [v, .int (sideI sd), w] H Q E := ⟨v, f, s, fs, sd, w, Ls, rfl, p0, p1, p2, p3, p4, k⟩
theorem len_l_dues {K : PySem.W.Frag} (vs : List V) (H : Hp) (Q : VK) (E : XK) (h : sp_l_dues K vs H Q E) : vs.length = ["_law_battle_here", "_law_side", "_law_stream"].length := by
  obtain ⟨_, _, _, _, _, _, _, rfl, _⟩ := h
  rfl
local macro_rules | `(tactic| walk_at "g_call") => `(tactic| ((with_reducible refine' use_l_dues ?c0 ?c1 ?c2 ?c3 ?c4 ?_); (case c0 => walk_at "g_pre"); (case c1 => walk_at "g_pre"); (case c2 => walk_at "g_pre"); (case c3 => walk_at "g_pre"); (case c4 => walk_at "g_pre"); intros))
theorem ok_l_dues (T : Txt K mg) : FnOk P w K mg base CX0 2 T.a_l_dues T.d_l_dues ["_law_battle_here", "_law_side", "_law_stream"] (sp_l_dues K) := by
  have G_l_paid := ok_l_paid (P := P) (w := w) (base := base) T
  refine T.F_l_dues.ok sc_l_dues len_l_dues (fun cdv A outer s H vs Q E hr h => ?_)
  refine ⟨_, (pss_cons (ps_set (i := 3) sc_l_dues.nd rfl (Or.inl rfl) (pe_lst pa_nil))
      (pss_cons (ps_for PassesOwn.never rfl (pi_range1 rfl T.z_range (pa_cons (pe_callB (call_lenK K rfl) (by rfl) T.z_len (by decide +kernel) (pa_cons (pe_ix (ix_tupK K rfl) (pv 0) pe_int (fun _ _ => rfl)) pa_nil)) pa_nil)) (pg_name (i := 4) sc_l_dues.nd rfl (Or.inl rfl)) (pss_cons (ps_set (i := 5) sc_l_dues.nd rfl (Or.inl rfl) (pe_lst pa_nil))
      (pss_cons (ps_for PassesOwn.never rfl (pi_range1 rfl T.z_range (pa_cons (pe_op op_add (pe_ix (ix_listK K rfl) (pe_lst (pa_cons (pe_ix (ix_tupK K rfl) (pv 0) pe_int (fun _ _ => rfl)) (pa_cons (pe_ix (ix_tupK K rfl) (pv 0) pe_int (fun _ _ => rfl)) pa_nil))) (pv 1) (fun _ _ => rfl)) pe_int) pa_nil)) (pg_name (i := 6) sc_l_dues.nd rfl (Or.inl rfl)) (pss_cons (ps_set (i := 7) sc_l_dues.nd rfl (Or.inl rfl) pe_int)
      (pss_cons (ps_for PassesOwn.never rfl (pi_listK K rfl (pe_ix (ix_listK K rfl) (pv 2) (pv 4) (fun _ _ => rfl))) (pg_tupK K rfl 3 rfl (pgs_cons (pg_name (i := 8) sc_l_dues.nd rfl (Or.inl rfl)) (pgs_cons (pg_name (i := 9) sc_l_dues.nd rfl (Or.inl rfl)) (pgs_cons (pg_name (i := 10) sc_l_dues.nd rfl (Or.inl rfl)) pgs_nil)))) (pss_cons (ps_asg (pe_ix (ix_listK K rfl) (pe_lst (pa_cons (pe_tup (pa_cons (pv 9) (pa_cons (pv 6) pa_nil))) (pa_cons (pe_tup (pa_cons (pv 6) (pa_cons (pv 9) pa_nil))) pa_nil))) (pv 1) (fun _ _ => rfl)) (pg_tupK K rfl 2 rfl (pgs_cons (pg_name (i := 11) sc_l_dues.nd rfl (Or.inl rfl)) (pgs_cons (pg_name (i := 12) sc_l_dues.nd rfl (Or.inl rfl)) pgs_nil))))
      (pss_one (ps_set (i := 7) sc_l_dues.nd rfl (Or.inl rfl) (pe_op op_add (pv 7) (pe_op op_mulA (pv 10) (pe_call G_l_paid (hr.mono (by first | decide | omega)) (by rfl) T.g_l_paid T.F_l_paid.kp T.b_l_paid .nil pass0 (pa_cons (pe_ix (ix_listK K rfl) (pe_ix (ix_tupK K rfl) (pv 0) pe_int (fun _ _ => rfl)) (pv 4) (fun _ _ => rfl)) (pa_cons (pv 11) (pa_cons (pv 12) pa_nil))))))))))
      (pss_one (ps_expr (pe_bm PySem.F.plainAttrs_list PySem.F.slot_list_append PySem.F.type_list_append mt_append (pv 5) (pa_cons (pv 7) pa_nil)))))))
      (pss_one (ps_expr (pe_bm PySem.F.plainAttrs_list PySem.F.slot_list_append PySem.F.type_list_append mt_append (pv 3) (pa_cons (pv 5) pa_nil)))))))
      (pss_one (ps_ret (pv 3))))), ?_⟩
  try dsimp only [L2.cxOf, L2.Cx.nox, L2.Cx.wish, List.map_cons, List.map_nil]
  obtain ⟨v, f, s, fs, sd, w, Ls, rfl, p0, p1, p2, p3, p4, k⟩ := h
  refine start_to (σ := [some _, some _, some _, none, none, none, none, none, none, none, none, none, none]) rfl ?_
  obtain ⟨a, p, xs, rfl, h1, h2, h3⟩ := bat_inv p0
  obtain ⟨b, ws, rfl, g1, g2⟩ := str_inv p3
  have hl : xs.length = fs.length := by rw [h3.len, List.length_map]
  have gl : ws.length = fs.length := by rw [g2.len, List.length_map, p4.1]
  have hn := p1.ne
  have hf := p1.hf
  have hs := p1.hs
  rcases sd with _ | _
  · have hw' : ownS f s false = f := rfl
    rw [hw'] at p4
    walk_at "go"
    rename_i F nF
    refine forR (fun i σ H1 => ∃ (ys : List V) (y4 y5 y6 y7 y8 y9 y10 y11 y12 : Option V), σ = [some (.ref a), some (.int (sideI false)), some (.ref b), some (.ref F), y4, y5, y6, y7, y8, y9, y10, y11, y12] ∧ H1 F = some (.lst ys) ∧ DqAll (hid [F] H1) ys (((List.range i).map (dueRow fs false Ls (s + 1).toNat)).map planD) ∧ Same H H1) ⟨[], _, _, _, _, _, _, _, _, _, rfl, upd_same, .nil, by walk_at "g_same"⟩ ?_ ?_
    · rintro σ1 H1 ⟨ys, y4, y5, y6, y7, y8, y9, y10, y11, y12, rfl, q1, q2, q3⟩
      walk_at "go"
      refine k _ _ ?_ q3
      rw [show ((xs.length : Int)).toNat = fs.length by omega] at q2
      exact .lst q1 (q2.same hid_same)
    · rintro i σ1 H1 hi ⟨ys, y4, y5, y6, y7, y8, y9, y10, y11, y12, rfl, q1, q2, q3⟩
      have hi' : i < fs.length := by omega
      have hyl : ys.length = i := by rw [q2.len, List.length_map, List.length_map, List.length_range]
      obtain ⟨x, hat, hx⟩ := at_lt (xs := xs) (i := 0 + (i : Int)) (by omega) (by omega)
      obtain ⟨w, hat2, hw⟩ := at_lt (xs := ws) (i := 0 + (i : Int)) (by omega) (by omega)
      rw [show (0 + (i : Int)).toNat = i by omega] at hx hw
      obtain ⟨fl, e1, e2⟩ := fld_at h3 hx
      obtain ⟨L, r, zs, m1, rfl, m3, m4⟩ := strow_at g2 hw
      have fo := p1.at e1
      have fw := p2 fl (List.mem_of_getElem? e1)
      obtain ⟨ll, le⟩ := p4.2 L (List.mem_of_getElem? m1)
      have zl : zs.length = L.length := by rw [m4.len, List.length_map]
      have h1' := q3 _ _ h1
      have h2' := q3 _ _ h2
      have g1' := q3 _ _ g1
      have m3' := q3 _ _ m3
      have m4' := m4.same q3
      have e2' := e2.same q3
      clear h1 h2 h3 g1 g2 m3 m4 e2 p0 p3 k
      walk_at "go"
      rename_i R nR B nB
      have rR : L2.upd (L2.upd H1 R (.lst [])) B (.lst [.int s, .int f]) R = some (.lst []) := by walk_at "g_lk"
      have sR : Same H1 (L2.upd (L2.upd H1 R (.lst [])) B (.lst [.int s, .int f])) := by walk_at "g_same"
      refine forR (fun j σ H2 => ∃ (y6 y7 y8 y9 y10 y11 y12 : Option V), σ = [some (.ref a), some (.int (sideI false)), some (.ref b), some (.ref F), some (.int (0 + (i : Int))), some (.ref R), y6, y7, y8, y9, y10, y11, y12] ∧ H2 R = some (.lst (((List.range j).map fun y : Nat => dueV fl false L y).map V.int)) ∧ Same H1 H2) ⟨_, _, _, _, _, _, _, rfl, rR, sR⟩ ?_ ?_
      · rintro σ2 H2 ⟨y6, y7, y8, y9, y10, y11, y12, rfl, r1, r2⟩
        have q1' := r2 _ _ q1
        walk_at "go"
        have nRF : R ≠ F := ne_new' nR q1
        refine ⟨ys ++ [.ref R], _, _, _, _, _, _, _, _, _, rfl, upd_same, ?_, by walk_at "g_same"⟩
        rw [List.range_succ, List.map_append, List.map_append]
        refine DqAll.snoc ((q2.same (hid_mono r2)).same (hid_upd (by simp))) ?_
        have e0 : dueRow fs false Ls (s + 1).toNat i = (List.range (s + 1).toNat).map fun y : Nat => dueV fl false L y := by
          unfold dueRow fldAt
          rw [show ((i : Int)).toNat = i by omega, e1, m1]
          rfl
        rw [e0]
        exact (row_mk (hid_lk (by simp [nRF]) r1)).same (hid_upd (by simp))
      · rintro j σ2 H2 hj ⟨y6, y7, y8, y9, y10, y11, y12, rfl, r1, r2⟩
        have hj' : 0 ≤ 0 + (j : Int) ∧ 0 + (j : Int) ≤ s := by
          have : j < (s + 1).toNat := hj
          omega
        have h1'' := r2 _ _ h1'
        have h2'' := r2 _ _ h2'
        have g1'' := r2 _ _ g1'
        have m3'' := r2 _ _ m3'
        walk_at "go"
        refine forL (xs := zs) (fun t σ H3 => ∃ (y8 y9 y10 y11 y12 : Option V), σ = [some (.ref a), some (.int (sideI false)), some (.ref b), some (.ref F), some (.int (0 + (i : Int))), some (.ref R), some (.int (0 + (j : Int))), some (.int (((L.take t).map fun e => e.2.2 * paidV fl e.2.1 (0 + (j : Int))).sum)), y8, y9, y10, y11, y12] ∧ Same H2 H3) ⟨_, _, _, _, _, rfl, Same.refl _⟩ ?_ ?_ ?_
        · rintro t σ3 H3 _ ⟨y8, y9, y10, y11, y12, rfl, s3⟩
          exact SqL.of (s3 _ _ m3'')
        · rintro σ3 H3 ⟨y8, y9, y10, y11, y12, rfl, s3⟩
          have r1' := s3 _ _ r1
          have jl : j ≤ 12 := by omega
          walk_at "go"
          refine ⟨_, _, _, _, _, _, _, rfl, ?_, by walk_at "g_same"⟩
          have ez : ((L.take zs.length).map fun e => e.2.2 * paidV fl e.2.1 (0 + (j : Int))).sum = dueV fl false L (j : Int) := by
            unfold dueV payS
            rw [zl, List.take_length, show (0 : Int) + (j : Int) = j by omega]
            rfl
          have e9 : (List.range (j + 1)).map (fun y : Nat => dueV fl false L y) = (List.range j).map (fun y : Nat => dueV fl false L y) ++ [dueV fl false L (j : Int)] := by
            rw [List.range_succ, List.map_append]
            rfl
          rw [e9, ez]
          exact upd_same
        · rintro t x2 σ3 H3 hx2 ⟨y8, y9, y10, y11, y12, rfl, s3⟩
          have ht : t < L.length := by rw [← zl]; exact (List.getElem?_eq_some_iff.mp hx2).1
          obtain ⟨e, he⟩ : ∃ e, L[t]? = some e := ⟨L[t], List.getElem?_eq_getElem ht⟩
          obtain ⟨tt, f1, f2⟩ := fl_at m4' he
          rw [hx2] at f1
          cases f1
          obtain ⟨k1, k2, k3⟩ := le e (List.mem_of_getElem? he)
          have b1 : 0 ≤ e.2.1 ∧ e.2.1 ≤ f ∧ 0 ≤ 0 + (j : Int) ∧ 0 + (j : Int) ≤ s := by omega
          have cm : CMulA e.2.2 (paidV fl e.2.1 (0 + (j : Int))) := (k3.cmul (fw e.2.1 (0 + (j : Int)) b1.1 b1.2.1 b1.2.2.1 b1.2.2.2) (by decide) (by decide) (by decide))
          have f3 := s3 _ _ (r2 _ _ f2)
          have h1z := s3 _ _ h1''
          have h2z := s3 _ _ h2''
          have e2z := (e2'.same r2).same s3
          rw [take_sum (fun e : Fl => e.2.2 * paidV fl e.2.1 (0 + (j : Int))) he]
          clear f2 h1'' h2'' g1'' m3'' m3' m4' h1' h2' g1' e2' q2 q1 q3 r1 sR rR
          walk_at "go"
          exact ⟨_, _, _, _, _, rfl, by walk_at "g_same"⟩
  · have hw' : ownS f s true = s := rfl
    rw [hw'] at p4
    walk_at "go"
    rename_i F nF
    refine forR (fun i σ H1 => ∃ (ys : List V) (y4 y5 y6 y7 y8 y9 y10 y11 y12 : Option V), σ = [some (.ref a), some (.int (sideI true)), some (.ref b), some (.ref F), y4, y5, y6, y7, y8, y9, y10, y11, y12] ∧ H1 F = some (.lst ys) ∧ DqAll (hid [F] H1) ys (((List.range i).map (dueRow fs true Ls (f + 1).toNat)).map planD) ∧ Same H H1) ⟨[], _, _, _, _, _, _, _, _, _, rfl, upd_same, .nil, by walk_at "g_same"⟩ ?_ ?_
    · rintro σ1 H1 ⟨ys, y4, y5, y6, y7, y8, y9, y10, y11, y12, rfl, q1, q2, q3⟩
      walk_at "go"
      refine k _ _ ?_ q3
      rw [show ((xs.length : Int)).toNat = fs.length by omega] at q2
      exact .lst q1 (q2.same hid_same)
    · rintro i σ1 H1 hi ⟨ys, y4, y5, y6, y7, y8, y9, y10, y11, y12, rfl, q1, q2, q3⟩
      have hi' : i < fs.length := by omega
      have hyl : ys.length = i := by rw [q2.len, List.length_map, List.length_map, List.length_range]
      obtain ⟨x, hat, hx⟩ := at_lt (xs := xs) (i := 0 + (i : Int)) (by omega) (by omega)
      obtain ⟨w, hat2, hw⟩ := at_lt (xs := ws) (i := 0 + (i : Int)) (by omega) (by omega)
      rw [show (0 + (i : Int)).toNat = i by omega] at hx hw
      obtain ⟨fl, e1, e2⟩ := fld_at h3 hx
      obtain ⟨L, r, zs, m1, rfl, m3, m4⟩ := strow_at g2 hw
      have fo := p1.at e1
      have fw := p2 fl (List.mem_of_getElem? e1)
      obtain ⟨ll, le⟩ := p4.2 L (List.mem_of_getElem? m1)
      have zl : zs.length = L.length := by rw [m4.len, List.length_map]
      have h1' := q3 _ _ h1
      have h2' := q3 _ _ h2
      have g1' := q3 _ _ g1
      have m3' := q3 _ _ m3
      have m4' := m4.same q3
      have e2' := e2.same q3
      clear h1 h2 h3 g1 g2 m3 m4 e2 p0 p3 k
      walk_at "go"
      rename_i R nR B nB
      have rR : L2.upd (L2.upd H1 R (.lst [])) B (.lst [.int s, .int f]) R = some (.lst []) := by walk_at "g_lk"
      have sR : Same H1 (L2.upd (L2.upd H1 R (.lst [])) B (.lst [.int s, .int f])) := by walk_at "g_same"
      refine forR (fun j σ H2 => ∃ (y6 y7 y8 y9 y10 y11 y12 : Option V), σ = [some (.ref a), some (.int (sideI true)), some (.ref b), some (.ref F), some (.int (0 + (i : Int))), some (.ref R), y6, y7, y8, y9, y10, y11, y12] ∧ H2 R = some (.lst (((List.range j).map fun y : Nat => dueV fl true L y).map V.int)) ∧ Same H1 H2) ⟨_, _, _, _, _, _, _, rfl, rR, sR⟩ ?_ ?_
      · rintro σ2 H2 ⟨y6, y7, y8, y9, y10, y11, y12, rfl, r1, r2⟩
        have q1' := r2 _ _ q1
        walk_at "go"
        have nRF : R ≠ F := ne_new' nR q1
        refine ⟨ys ++ [.ref R], _, _, _, _, _, _, _, _, _, rfl, upd_same, ?_, by walk_at "g_same"⟩
        rw [List.range_succ, List.map_append, List.map_append]
        refine DqAll.snoc ((q2.same (hid_mono r2)).same (hid_upd (by simp))) ?_
        have e0 : dueRow fs true Ls (f + 1).toNat i = (List.range (f + 1).toNat).map fun y : Nat => dueV fl true L y := by
          unfold dueRow fldAt
          rw [show ((i : Int)).toNat = i by omega, e1, m1]
          rfl
        rw [e0]
        exact (row_mk (hid_lk (by simp [nRF]) r1)).same (hid_upd (by simp))
      · rintro j σ2 H2 hj ⟨y6, y7, y8, y9, y10, y11, y12, rfl, r1, r2⟩
        have hj' : 0 ≤ 0 + (j : Int) ∧ 0 + (j : Int) ≤ f := by
          have : j < (f + 1).toNat := hj
          omega
        have h1'' := r2 _ _ h1'
        have h2'' := r2 _ _ h2'
        have g1'' := r2 _ _ g1'
        have m3'' := r2 _ _ m3'
        walk_at "go"
        refine forL (xs := zs) (fun t σ H3 => ∃ (y8 y9 y10 y11 y12 : Option V), σ = [some (.ref a), some (.int (sideI true)), some (.ref b), some (.ref F), some (.int (0 + (i : Int))), some (.ref R), some (.int (0 + (j : Int))), some (.int (((L.take t).map fun e => e.2.2 * paidV fl (0 + (j : Int)) e.2.1).sum)), y8, y9, y10, y11, y12] ∧ Same H2 H3) ⟨_, _, _, _, _, rfl, Same.refl _⟩ ?_ ?_ ?_
        · rintro t σ3 H3 _ ⟨y8, y9, y10, y11, y12, rfl, s3⟩
          exact SqL.of (s3 _ _ m3'')
        · rintro σ3 H3 ⟨y8, y9, y10, y11, y12, rfl, s3⟩
          have r1' := s3 _ _ r1
          have jl : j ≤ 12 := by omega
          walk_at "go"
          refine ⟨_, _, _, _, _, _, _, rfl, ?_, by walk_at "g_same"⟩
          have ez : ((L.take zs.length).map fun e => e.2.2 * paidV fl (0 + (j : Int)) e.2.1).sum = dueV fl true L (j : Int) := by
            unfold dueV payS
            rw [zl, List.take_length, show (0 : Int) + (j : Int) = j by omega]
            rfl
          have e9 : (List.range (j + 1)).map (fun y : Nat => dueV fl true L y) = (List.range j).map (fun y : Nat => dueV fl true L y) ++ [dueV fl true L (j : Int)] := by
            rw [List.range_succ, List.map_append]
            rfl
          rw [e9, ez]
          exact upd_same
        · rintro t x2 σ3 H3 hx2 ⟨y8, y9, y10, y11, y12, rfl, s3⟩
          have ht : t < L.length := by rw [← zl]; exact (List.getElem?_eq_some_iff.mp hx2).1
          obtain ⟨e, he⟩ : ∃ e, L[t]? = some e := ⟨L[t], List.getElem?_eq_getElem ht⟩
          obtain ⟨tt, f1, f2⟩ := fl_at m4' he
          rw [hx2] at f1
          cases f1
          obtain ⟨k1, k2, k3⟩ := le e (List.mem_of_getElem? he)
          have b1 : 0 ≤ 0 + (j : Int) ∧ 0 + (j : Int) ≤ f ∧ 0 ≤ e.2.1 ∧ e.2.1 ≤ s := by omega
          have cm : CMulA e.2.2 (paidV fl (0 + (j : Int)) e.2.1) := (k3.cmul (fw (0 + (j : Int)) e.2.1 b1.1 b1.2.1 b1.2.2.1 b1.2.2.2) (by decide) (by decide) (by decide))
          have f3 := s3 _ _ (r2 _ _ f2)
          have h1z := s3 _ _ h1''
          have h2z := s3 _ _ h2''
          have e2z := (e2'.same r2).same s3
          rw [take_sum (fun e : Fl => e.2.2 * paidV fl (0 + (j : Int)) e.2.1) he]
          clear f2 h1'' h2'' g1'' m3'' m3' m4' h1' h2' g1' e2' q2 q1 q3 r1 sR rR
          walk_at "go"
          exact ⟨_, _, _, _, _, rfl, by walk_at "g_same"⟩
def sp_l_comes (K : PySem.W.Frag) : Sp := fun vs H Q E => ∃ (v w : V) (due tb : List (List Int)) (n m : Nat) (i l : Int), vs = [v, w, .int i, .int l] ∧ (Dq H v (tabD due)) ∧ (Dq H w (tabD tb)) ∧ (Rect due n m) ∧ (Rect tb n m) ∧ (n ≤ 1000 ∧ m ≤ 1000) ∧ (0 ≤ i ∧ i < n ∧ 0 ≤ l ∧ l < m) ∧ ∀ (q : Addr) (H' : Hp), (H' q = some (.lst ((goV due tb i.toNat l.toNat).map V.int))) → (H q = none) → (Same H H') → Q (.ref q) H'
theorem use_l_comes {K : PySem.W.Frag} {H : Hp} {Q : VK} {E : XK} {v w : V} {due tb : List (List Int)} {n m : Nat} {i l : Int} (p0 : Dq H v (tabD due)) (p1 : Dq H w (tabD tb)) (p2 : Rect due n m) (p3 : Rect tb n m) (p4 : n ≤ 1000 ∧ m ≤ 1000) (p5 : 0 ≤ i ∧ i < n ∧ 0 ≤ l ∧ l < m) (k : ∀ (q : Addr) (H' : Hp), (H' q = some (.lst ((goV due tb i.toNat l.toNat).map V.int))) → (H q = none) → (Same H H') → Q (.ref q) H') : sp_l_comes K [v, w, .int i, .int l] H Q E := ⟨v, w, due, tb, n, m, i, l, rfl, p0, p1, p2, p3, p4, p5, k⟩
theorem len_l_comes {K : PySem.W.Frag} (vs : List V) (H : Hp) (Q : VK) (E : XK) (h : sp_l_comes K vs H Q E) : vs.length = ["_law_owed", "_law_table_here", "_law_k", "_law_rest"].length := by
  obtain ⟨_, _, _, _, _, _, _, _, rfl, _⟩ := h
  rfl
local macro_rules | `(tactic| walk_at "g_call") => `(tactic| ((with_reducible refine' use_l_comes ?c0 ?c1 ?c2 ?c3 ?c4 ?c5 ?_); (case c0 => walk_at "g_pre"); (case c1 => walk_at "g_pre"); (case c2 => walk_at "g_pre"); (case c3 => walk_at "g_pre"); (case c4 => walk_at "g_pre"); (case c5 => walk_at "g_pre"); intros))
theorem ok_l_comes (T : Txt K mg) : FnOk P w K mg base CX0 1 T.a_l_comes T.d_l_comes ["_law_owed", "_law_table_here", "_law_k", "_law_rest"] (sp_l_comes K) := by
  refine T.F_l_comes.ok sc_l_comes len_l_comes (fun cdv A outer s H vs Q E hr h => ?_)
  refine ⟨_, (pss_cons (ps_if (pt_cmpR op_eq (pv 2) (pe_op op_sub (pe_callB (call_lenK K rfl) (by rfl) T.z_len (by decide +kernel) (pa_cons (pv 0) pa_nil)) pe_int) (nomark _)) (pss_one (ps_ret (pe_lst (pa_cons (pe_ix (ix_listK K rfl) (pe_ix (ix_listK K rfl) (pv 0) (pv 2) (fun _ _ => rfl)) (pv 3) (fun _ _ => rfl)) pa_nil)))) pss_nil)
      (pss_one (ps_ret (pe_lc (own := [("_law_sent", 4)]) rfl sc_l_comes.nd (pi_range1 rfl T.z_range (pa_cons (pe_op op_add (pv 3) pe_int) pa_nil)) (blkOk_by (own := [("_law_sent", 4)]) (N := ["_law_owed", "_law_table_here", "_law_k", "_law_rest", "_law_sent"]) (sc := defScope s_l_comes) (by decide +kernel)) (fun _ _ _ _ _ => (pg_name (i := 4) sc_l_comes.nd rfl (Or.inl rfl))) (fun _ _ _ _ _ => pts_nil) (fun _ _ _ _ _ => (pe_op op_add (pe_ix (ix_listK K rfl) (pe_ix (ix_listK K rfl) (pv 0) (pv 2) (fun _ _ => rfl)) (pv 4) (fun _ _ => rfl)) (pe_ix (ix_listK K rfl) (pe_ix (ix_listK K rfl) (pv 1) (pe_op op_add (pv 2) pe_int) (fun _ _ => rfl)) (pe_op op_sub (pv 3) (pv 4)) (fun _ _ => rfl)))))))), ?_⟩
  try dsimp only [L2.cxOf, L2.Cx.nox, L2.Cx.wish, List.map_cons, List.map_nil]
  obtain ⟨v, w, due, tb, n, m, i, l, rfl, p0, p1, p2, p3, p4, p5, k⟩ := h
  refine start_to (σ := [some _, some _, some _, some _, none]) rfl ?_
  obtain ⟨a, xs, rfl, h1, h2⟩ := tab_inv p0
  obtain ⟨b, ys, rfl, g1, g2⟩ := tab_inv p1
  have hl : xs.length = n := by rw [h2.len, List.length_map, p2.len]
  have gl : ys.length = n := by rw [g2.len, List.length_map, p3.len]
  obtain ⟨r, ms, e1, e2, e3, e4⟩ := tab_at (k := i.toNat) h2 p2 (by omega)
  have hat : atI xs i = some (.ref r) := by
    obtain ⟨x, z1, z2⟩ := at_lt (xs := xs) (i := i) (by omega) (by omega)
    rw [e1] at z2
    cases z2
    exact z1
  walk_at "go"
  refine ite_d (fun c1 => ?_) (fun c1 => ?_)
  · have ez := e4 l.toNat (by omega)
    walk_at "go"
    rename_i z hz q nq
    refine k q _ ?_ nq (Same.new nq)
    rw [ez] at hz
    cases hz
    unfold goV
    rw [if_pos (by rw [p2.len]; omega)]
    exact upd_same
  · obtain ⟨r2, ks, f1, f2, f3, f4⟩ := tab_at (k := i.toNat + 1) g2 p3 (by omega)
    have hat2 : atI ys (i + 1) = some (.ref r2) := by
      obtain ⟨x, z1, z2⟩ := at_lt (xs := ys) (i := i + 1) (by omega) (by omega)
      rw [show (i + 1).toNat = i.toNat + 1 by omega, f1] at z2
      cases z2
      exact z1
    walk_at "go"
    intro D nD
    refine lcR_int (fun t => t2 due i.toNat t + t2 tb (i.toNat + 1) (l.toNat - t)) nD (by omega) ?_ ?_
    · intro t H3 Z Y ht s3 hz
      have h1' := s3 _ _ h1
      have g1' := s3 _ _ g1
      have e2' := s3 _ _ e2
      have f2' := s3 _ _ f2
      have ea := e4 t (by omega)
      have eb := f4 (l.toNat - t) (by omega)
      walk_at "go"
      rename_i z hz1 z2 hz2
      rw [show (0 + (t : Int)).toNat = t by omega, ea] at hz1
      rw [show (l - (0 + (t : Int))).toNat = l.toNat - t by omega, eb] at hz2
      cases hz1
      cases hz2
      exact hz H3 (Same.refl _)
    · intro H3 s3 hD
      walk_at "go"
      refine k D _ ?_ nD s3
      unfold goV
      rw [if_neg (by rw [p2.len]; omega)]
      rw [show (l + 1).toNat = l.toNat + 1 by omega] at hD
      exact hD
def sp_l_table (K : PySem.W.Frag) : Sp := fun vs H Q E => ∃ (v : V) (f s : Int) (fs : List Fld) (sd : Bool) (w : V) (Ls : List (List Fl)), vs = [v, .int (sideI sd), w] ∧ (Dq H v (batD f s fs)) ∧ (BatOk f s fs) ∧ (PayWd fs f s) ∧ (Dq H w (strD Ls)) ∧ (StrS (ownS f s sd) fs.length Ls) ∧ ∀ (T : Addr) (qs : List Addr) (tb : List (List Int)) (H' : Hp), (Own2 H' T qs tb) → (BestT (duesV fs sd Ls (othS f s sd + 1).toNat) tb sd fs.length (othS f s sd + 1).toNat) → ((∀ q ∈ qs, H q = none)) → (H T = none) → (Same H H') → Q (.ref T) H'
theorem use_l_table {K : PySem.W.Frag} {H : Hp} {Q : VK} {E : XK} {v : V} {f s : Int} {fs : List Fld} {sd : Bool} {w : V} {Ls : List (List Fl)} (p0 : Dq H v (batD f s fs)) (p1 : BatOk f s fs) (p2 : PayWd fs f s) (p3 : Dq H w (strD Ls)) (p4 : StrS (ownS f s sd) fs.length Ls) (k : ∀ (T : Addr) (qs : List Addr) (tb : List (List Int)) (H' : Hp), (Own2 H' T qs tb) → (BestT (duesV fs sd Ls (othS f s sd + 1).toNat) tb sd fs.length (othS f s sd + 1).toNat) → ((∀ q ∈ qs, H q = none)) → (H T = none) → (Same H H') → Q (.ref T) H') : sp_l_table K [v, .int (sideI sd), w] H Q E := ⟨v, f, s, fs, sd, w, Ls, rfl, p0, p1, p2, p3, p4, k⟩
theorem len_l_table {K : PySem.W.Frag} (vs : List V) (H : Hp) (Q : VK) (E : XK) (h : sp_l_table K vs H Q E) : vs.length = ["_law_battle_here", "_law_side", "_law_stream"].length := by
  obtain ⟨_, _, _, _, _, _, _, rfl, _⟩ := h
  rfl
local macro_rules | `(tactic| walk_at "g_call") => `(tactic| ((with_reducible refine' use_l_table ?c0 ?c1 ?c2 ?c3 ?c4 ?_); (case c0 => walk_at "g_pre"); (case c1 => walk_at "g_pre"); (case c2 => walk_at "g_pre"); (case c3 => walk_at "g_pre"); (case c4 => walk_at "g_pre"); intros))
theorem ok_l_table (T : Txt K mg) : FnOk P w K mg base CX0 3 T.a_l_table T.d_l_table ["_law_battle_here", "_law_side", "_law_stream"] (sp_l_table K) := by
  have G_l_dues := ok_l_dues (P := P) (w := w) (base := base) T
  have G_l_comes := ok_l_comes (P := P) (w := w) (base := base) T
  refine T.F_l_table.ok sc_l_table len_l_table (fun cdv A outer s H vs Q E hr h => ?_)
  refine ⟨_, (pss_cons (ps_set (i := 3) sc_l_table.nd rfl (Or.inl rfl) (pe_call G_l_dues (hr.mono (by first | decide | omega)) (by rfl) T.g_l_dues T.F_l_dues.kp T.b_l_dues .nil pass0 (pa_cons (pv 0) (pa_cons (pv 1) (pa_cons (pv 2) pa_nil)))))
      (pss_cons (ps_setLc (i := 4) (own := [("_law_row", 8)]) rfl sc_l_table.nd rfl rfl (sw_true rfl rfl rfl (by decide +kernel)) (pi_listK K rfl (pv 3)) (blkOk_by (own := [("_law_row", 8)]) (N := ["_law_battle_here", "_law_side", "_law_stream", "_law_owed", "_law_table_here", "_law_k", "_law_rest", "_law_some_here", "_law_row"]) (sc := defScope s_l_table) (by decide +kernel)) (fun _ _ _ _ _ => (pg_name (i := 8) sc_l_table.nd rfl (Or.inl rfl))) (fun _ _ _ _ _ => pts_nil) (fun _ _ _ _ _ => (pe_op op_rep (pe_lst (pa_cons pe_int pa_nil)) (pe_callB (call_lenK K rfl) (by rfl) T.z_len (by decide +kernel) (pa_cons (pv 8) pa_nil)))))
      (pss_cons (ps_for PassesOwn.never rfl (pi_revR (by rfl) T.z_reversed (prg_1 (by rfl) T.z_range (pe_callB (call_lenK K rfl) (by rfl) T.z_len (by decide +kernel) (pa_cons (pv 3) pa_nil)))) (pg_name (i := 5) sc_l_table.nd rfl (Or.inl rfl)) (pss_one (ps_for PassesOwn.never rfl (pi_range1 rfl T.z_range (pa_cons (pe_callB (call_lenK K rfl) (by rfl) T.z_len (by decide +kernel) (pa_cons (pe_ix (ix_listK K rfl) (pv 3) (pv 5) (fun _ _ => rfl)) pa_nil)) pa_nil)) (pg_name (i := 6) sc_l_table.nd rfl (Or.inl rfl)) (pss_cons (ps_set (i := 7) sc_l_table.nd rfl (Or.inl rfl) (pe_call G_l_comes (hr.mono (by first | decide | omega)) (by rfl) T.g_l_comes T.F_l_comes.kp T.b_l_comes .nil pass0 (pa_cons (pv 3) (pa_cons (pv 4) (pa_cons (pv 5) (pa_cons (pv 6) pa_nil))))))
      (pss_one (ps_asg (pe_ix (ix_listK K rfl) (pe_lst (pa_cons (pe_callB (cr_minK K rfl rfl) (by rfl) T.z_min (by decide +kernel) (pa_cons (pv 7) pa_nil)) (pa_cons (pe_callB (cr_maxK K rfl rfl) (by rfl) T.z_max (by decide +kernel) (pa_cons (pv 7) pa_nil)) pa_nil))) (pv 1) (fun _ _ => rfl)) (pg_sub (pe_ix (ix_listK K rfl) (pv 4) (pv 5) (fun _ _ => rfl)) (pv 6) set_list)))))))
      (pss_one (ps_ret (pv 4)))))), ?_⟩
  try dsimp only [L2.cxOf, L2.Cx.nox, L2.Cx.wish, List.map_cons, List.map_nil]
  obtain ⟨v, f, s, fs, sd, w, Ls, rfl, p0, p1, p2, p3, p4, k⟩ := h
  refine start_to (σ := [some _, some _, some _, none, none, none, none, none, none]) rfl ?_
  have hn := p1.ne
  have hf := p1.hf
  have hs := p1.hs
  have rd := dues_rect (fs := fs) (sd := sd) (Ls := Ls) (w := (othS f s sd + 1).toNat)
  have hm : (othS f s sd + 1).toNat ≤ 11 := by
    cases sd
    · show (s + 1).toNat ≤ 11
      omega
    · show (f + 1).toNat ≤ 11
      omega
  generalize hmm : (othS f s sd + 1).toNat = m at rd k hm
  generalize hD : duesV fs sd Ls m = D at rd k
  walk_at "go"
  rename_i u H1 d1 s1
  rw [hmm, hD] at d1
  obtain ⟨a, xs, rfl, h1, h2⟩ := tab_inv d1
  have hl : xs.length = fs.length := by rw [h2.len, List.length_map, rd.len]
  have row : ∀ i, i < fs.length → ∃ p ms, xs[i]? = some (.ref p) ∧ H1 p = some (.lst (List.map V.int ms)) ∧ ms.length = m := fun i hi => by
    obtain ⟨p, ms, e1, e2, e3, _⟩ := tab_at h2 rd hi
    exact ⟨p, ms, e1, e2, e3⟩
  walk_at "go"
  intro T nT
  refine lcL_2d (xs := xs) (fun _ => List.replicate m (0 : Int)) nT (by omega) (SqL.of h1) ?_ ?_
  · intro i x H2 Z Y hx s2 hz
    have hi : i < fs.length := by rw [← hl]; exact (List.getElem?_eq_some_iff.mp hx).1
    obtain ⟨p, ms, e1, e2, e3⟩ := row i hi
    rw [hx] at e1
    cases e1
    have e2' := s2 _ _ e2
    have h0 : (ms.length : Int) = m := by omega
    walk_at "go"
    rename_i q1 n1 q2 n2
    exact hz q2 _ (by rw [e3]; exact upd_same) ((Same.new n1).free n2) (by walk_at "g_same")
  · intro qs H2 own nw s2
    have own0 : Own2 H2 T qs ((List.range fs.length).map fun _ => List.replicate m (0 : Int)) := by rw [← hl]; exact own
    have h1' := s2 _ _ h1
    walk_at "go"
    have n1 : ((xs.length : Int) - 0).toNat = fs.length := by omega
    refine forC (fun i σ H3 => ∃ (tb : List (List Int)) (y5 y6 y7 y8 : Option V), σ = [some v, some (.int (sideI sd)), some w, some (.ref a), some (.ref T), y5, y6, y7, y8] ∧ Own2 H3 T qs tb ∧ Rect tb fs.length m ∧ (∀ k l, fs.length ≤ k + i → k < fs.length → l < m → BestAt D tb sd k l) ∧ Same H1 H3) ⟨_, _, _, _, _, rfl, own0, ⟨by rw [List.length_map, List.length_range], fun r hr => by
      obtain ⟨_, _, rfl⟩ := List.mem_map.mp hr
      rw [List.length_replicate]⟩, fun k l h1 h2 => by omega, s2⟩ ?_ ?_
    · rintro σ3 H3 ⟨tb, y5, y6, y7, y8, rfl, o1, o2, o3, o4⟩
      walk_at "go"
      exact k T qs tb _ o1 ⟨o2, fun kk l hk hl => o3 kk l (by omega) hk hl⟩ (fun q hq => s1.free (nw q hq)) (s1.free nT) (s1.trans o4)
    · rintro i σ3 H3 hi ⟨tb, y5, y6, y7, y8, rfl, o1, o2, o3, o4⟩
      have hi' : i < fs.length := by omega
      rw [show (0 : Int) + ((((xs.length : Int) - 0).toNat : Nat) : Int) - 1 + ((i : Nat) : Int) * -1 = ((fs.length - 1 - i : Nat) : Int) by omega]
      generalize hkk : fs.length - 1 - i = kk
      have hk1 : kk < fs.length := by omega
      obtain ⟨p, ms, e1, e2, e3⟩ := row kk hk1
      have hat : atI xs (kk : Int) = some (.ref p) := atI_nat e1
      have h1'' := o4 _ _ h1
      have e2' := o4 _ _ e2
      walk_at "go"
      refine forR (fun j σ H4 => ∃ (tb : List (List Int)) (y6 y7 y8 : Option V), σ = [some v, some (.int (sideI sd)), some w, some (.ref a), some (.ref T), some (.int (kk : Int)), y6, y7, y8] ∧ Own2 H4 T qs tb ∧ Rect tb fs.length m ∧ (∀ k l, kk < k → k < fs.length → l < m → BestAt D tb sd k l) ∧ (∀ l, l < j → BestAt D tb sd kk l) ∧ Same H1 H4) ⟨tb, _, _, _, rfl, o1, o2, fun k l h1 h2 h3 => o3 k l (by omega) h2 h3, fun l h => absurd h (by omega), o4⟩ ?_ ?_
      · rintro σ4 H4 ⟨tc, y6, y7, y8, rfl, r1, r2, r3, r4, r5⟩
        walk_at "go"
        refine ⟨tc, _, _, _, _, rfl, r1, r2, fun k l h1 h2 h3 => ?_, r5⟩
        by_cases c : k = kk
        · subst c
          exact r4 l (by omega)
        · exact r3 k l (by omega) h2 h3
      · rintro j σ4 H4 hj ⟨tc, y6, y7, y8, rfl, r1, r2, r3, r4, r5⟩
        have hj' : j < m := by omega
        have d1' := d1.same r5
        have dT := r1.dq
        have nm : fs.length ≤ 1000 ∧ m ≤ 1000 := by omega
        clear o1 o2 o3 o4 h1'' e2' h1' own own0
        walk_at "go"
        rename_i q H5 c1 c2 c3
        rw [show ((kk : Int)).toNat = kk by omega, show (0 + (j : Int)).toNat = j by omega] at c1
        have gl1 := goV_len (due := D) (tb := tc) (k := kk) (l := j)
        have gl2 := goV_len2 (due := D) (tb := tc) (k := kk) (l := j)
        have o5 := r1.same c3
        obtain ⟨q', f1⟩ : ∃ q', qs[kk]? = some q' := ⟨qs[kk]'(by rw [r1.len, r2.len]; exact hk1), List.getElem?_eq_getElem _⟩
        obtain ⟨r', f2, f3⟩ := r2.at hk1
        have f4 := o5.row kk q' r' f1 f2
        have f5 := o5.top
        have hat2 : atI (qs.map V.ref) (kk : Int) = some (.ref q') := atI_nat (by rw [List.getElem?_map, f1]; rfl)
        clear d1' dT r1
        rcases sd with _ | _
        · walk_at "go"
          rename_i z1 h11 h12 z2 h21 h22 B nB
          have o7 := o5.same (Same.new (o := .lst [.int z1, .int z2]) nB)
          have o6 := o7.set f1 (r'.set (0 + (j : Int)).toNat z1)
          have ej : (0 + (j : Int)).toNat = j := by omega
          rw [ej] at o6 ⊢
          refine ⟨_, _, _, _, rfl, o6, r2.set (by rw [List.length_set]; exact f3), fun k l h1 h2 h3 => (r3 k l h1 h2 h3).set f2 (by omega) (fun c => by omega) (by omega), fun l hl => ?_, ?_⟩
          · by_cases c : l = j
            · subst c
              exact BestAt.new f2 (by omega) h11 h12
            · exact (r4 l (by omega)).set f2 (by omega) (fun z => c z.2) (by omega)
          · exact Same.mut (Same.mut (r5.trans c3) (by walk_at "g_free")) (nw q' (List.mem_of_getElem? f1))
        · walk_at "go"
          rename_i z1 h11 h12 z2 h21 h22 B nB
          have o7 := o5.same (Same.new (o := .lst [.int z1, .int z2]) nB)
          have o6 := o7.set f1 (r'.set (0 + (j : Int)).toNat z2)
          have ej : (0 + (j : Int)).toNat = j := by omega
          rw [ej] at o6 ⊢
          refine ⟨_, _, _, _, rfl, o6, r2.set (by rw [List.length_set]; exact f3), fun k l h1 h2 h3 => (r3 k l h1 h2 h3).set f2 (by omega) (fun c => by omega) (by omega), fun l hl => ?_, ?_⟩
          · by_cases c : l = j
            · subst c
              exact BestAt.new f2 (by omega) h21 h22
            · exact (r4 l (by omega)).set f2 (by omega) (fun z => c z.2) (by omega)
          · exact Same.mut (Same.mut (r5.trans c3) (by walk_at "g_free")) (nw q' (List.mem_of_getElem? f1))
theorem gcd_mod {x y : Int} (h : 0 < y) : Int.gcd y (x % y) = Int.gcd x y := by
  rw [Int.emod_def, Int.gcd_comm x y]
  exact Int.gcd_sub_mul_left_right y x (x / y)
def sp_l_lowest (K : PySem.W.Frag) : Sp := fun vs H Q E => ∃ (x y : Int), vs = [.int x, .int y] ∧ (0 < y) ∧ (x.natAbs < 2 ^ 400 ∧ y.natAbs < 2 ^ 400) ∧ ∀ (p : Addr), (H p = none) → Q (.ref p) (upd H p (.tup [.int (ltop x y), .int (lbot x y)]))
theorem use_l_lowest {K : PySem.W.Frag} {H : Hp} {Q : VK} {E : XK} {x y : Int} (p0 : 0 < y) (p1 : x.natAbs < 2 ^ 400 ∧ y.natAbs < 2 ^ 400) (k : ∀ (p : Addr), (H p = none) → Q (.ref p) (upd H p (.tup [.int (ltop x y), .int (lbot x y)]))) : sp_l_lowest K [.int x, .int y] H Q E := ⟨x, y, rfl, p0, p1, k⟩
theorem len_l_lowest {K : PySem.W.Frag} (vs : List V) (H : Hp) (Q : VK) (E : XK) (h : sp_l_lowest K vs H Q E) : vs.length = ["_law_top", "_law_bottom"].length := by
  obtain ⟨_, _, rfl, _⟩ := h
  rfl
local macro_rules | `(tactic| walk_at "g_call") => `(tactic| ((with_reducible refine' use_l_lowest ?c0 ?c1 ?_); (case c0 => walk_at "g_pre"); (case c1 => walk_at "g_pre"); intros))
theorem ok_l_lowest (T : Txt K mg) : FnOk P w K mg base CX0 1 T.a_l_lowest T.d_l_lowest ["_law_top", "_law_bottom"] (sp_l_lowest K) := by
  refine T.F_l_lowest.ok sc_l_lowest len_l_lowest (fun cdv A outer s H vs Q E hr h => ?_)
  refine ⟨_, (pss_cons (ps_set (i := 2) sc_l_lowest.nd rfl (Or.inl rfl) (pv 1))
      (pss_cons (ps_set (i := 3) sc_l_lowest.nd rfl (Or.inl rfl) (pe_op op_mod (pv 0) (pv 1)))
      (pss_cons (ps_while PassesOwn.never (pt_cmpR op_gt (pv 3) pe_int (nomark _)) (pss_one (ps_par (i := 2) (j := 3) rfl sc_l_lowest.nd rfl rfl (by decide) rfl rfl (pa_cons (pv 3) (pa_cons (pe_op op_mod (pv 2) (pv 3)) pa_nil)) (by rfl))))
      (pss_one (ps_ret (pe_tup (pa_cons (pe_op op_fdivA (pv 0) (pv 2)) (pa_cons (pe_op op_fdivA (pv 1) (pv 2)) pa_nil)))))))), ?_⟩
  try dsimp only [L2.cxOf, L2.Cx.nox, L2.Cx.wish, List.map_cons, List.map_nil]
  obtain ⟨x, y, rfl, p0, ⟨p1, p2⟩, k⟩ := h
  refine start_to (σ := [some _, some _, none, none]) rfl ?_
  walk_at "go"
  refine whileW (fun m σ H' => ∃ u v : Int, σ = [some (.int x), some (.int y), some (.int u), some (.int v)] ∧ 0 ≤ u ∧ 0 ≤ v ∧ Int.gcd u v = Int.gcd x y ∧ m = v.toNat ∧ H' = H) _ ⟨_, _, rfl, by omega, Int.emod_nonneg _ (by omega), gcd_mod p0, rfl, rfl⟩ ?_
  rintro m σ1 H1 ⟨u, v, rfl, hu, hv, hg, rfl, rfl⟩
  walk_at "go"
  refine ite_d (fun c1 => turnW ?_) (fun c1 => ?_)
  · walk_at "go"
    refine ⟨(u % v).toNat, ?_, _, _, rfl, hv, Int.emod_nonneg _ (by omega), (gcd_step hu c1).trans hg, rfl, rfl⟩
    have := Int.emod_lt_of_pos u c1
    omega
  · obtain rfl : v = 0 := by omega
    have eu : u = (Int.gcd x y : Int) := by
      rw [← hg]
      exact (gcd_zero hu).symm
    have hne := sgcd_ne (x := x) (y := y) (by omega)
    have hle := sgcd_le (x := x) (y := y) (by omega)
    have hl : (sgcd x y).natAbs.log2 < 9000 := log_lt (b := 400) (by omega) (by decide) (by decide)
    have es : u = sgcd x y := by
      unfold sgcd
      rw [if_neg (by omega)]
      exact eu
    subst es
    walk_at "go"
    exact k _ (by assumption)
def sp_l_flows (K : PySem.W.Frag) : Sp := fun vs H Q E => ∃ (v : V) (m : List (List Int × Int)) (h : Int) (n : Nat), vs = [v] ∧ (Dq H v (mixD m)) ∧ (MixG h n m) ∧ (m.length ≤ 1000) ∧ ∀ (w : V) (S : List Addr) (Ls : List (List Fl)) (H' : Hp), (OwN H H' w (strD Ls) S) → (StrOf m n Ls) → (Same H H') → Q (w) H'
theorem use_l_flows {K : PySem.W.Frag} {H : Hp} {Q : VK} {E : XK} {v : V} {m : List (List Int × Int)} {h : Int} {n : Nat} (p0 : Dq H v (mixD m)) (p1 : MixG h n m) (p2 : m.length ≤ 1000) (k : ∀ (w : V) (S : List Addr) (Ls : List (List Fl)) (H' : Hp), (OwN H H' w (strD Ls) S) → (StrOf m n Ls) → (Same H H') → Q (w) H') : sp_l_flows K [v] H Q E := ⟨v, m, h, n, rfl, p0, p1, p2, k⟩
theorem len_l_flows {K : PySem.W.Frag} (vs : List V) (H : Hp) (Q : VK) (E : XK) (h : sp_l_flows K vs H Q E) : vs.length = ["_law_mix_here"].length := by
  obtain ⟨_, _, _, _, rfl, _⟩ := h
  rfl
local macro_rules | `(tactic| walk_at "g_call") => `(tactic| ((with_reducible refine' use_l_flows ?c0 ?c1 ?c2 ?_); (case c0 => walk_at "g_pre"); (case c1 => walk_at "g_pre"); (case c2 => walk_at "g_pre"); intros))
theorem ok_l_flows (T : Txt K mg) : FnOk P w K mg base CX0 1 T.a_l_flows T.d_l_flows ["_law_mix_here"] (sp_l_flows K) := by
  refine T.F_l_flows.ok sc_l_flows len_l_flows (fun cdv A outer s H vs Q E hr h => ?_)
  refine ⟨_, (pss_cons (ps_setLc (i := 1) (own := [("_law_place", 6)]) rfl sc_l_flows.nd rfl rfl (sw_true rfl rfl rfl (by decide +kernel)) (pi_listK K rfl (pe_ix (ix_tupK K rfl) (pe_ix (ix_listK K rfl) (pv 0) pe_int (fun _ _ => rfl)) pe_int (fun _ _ => rfl))) (blkOk_by (own := [("_law_place", 6)]) (N := ["_law_mix_here", "_law_flows_here", "_law_plan_here", "_law_weight", "_law_k", "_law_spot", "_law_place", "_law_flow", "_law_rest", "_law_sent"]) (sc := defScope s_l_flows) (by decide +kernel)) (fun _ _ _ _ _ => (pg_name (i := 6) sc_l_flows.nd rfl (Or.inl rfl))) (fun _ _ _ _ _ => pts_nil) (fun _ _ _ _ _ => pe_dnewT))
      (pss_cons (ps_for PassesOwn.never rfl (pi_listK K rfl (pv 0)) (pg_tupK K rfl 2 rfl (pgs_cons (pg_name (i := 2) sc_l_flows.nd rfl (Or.inl rfl)) (pgs_cons (pg_name (i := 3) sc_l_flows.nd rfl (Or.inl rfl)) pgs_nil))) (pss_one (ps_for PassesOwn.never rfl (pi_range1 rfl T.z_range (pa_cons (pe_callB (call_lenK K rfl) (by rfl) T.z_len (by decide +kernel) (pa_cons (pv 2) pa_nil)) pa_nil)) (pg_name (i := 4) sc_l_flows.nd rfl (Or.inl rfl)) (pss_cons (ps_set (i := 5) sc_l_flows.nd rfl (Or.inl rfl) (pe_tup (pa_cons (pe_callB (cr_sumK K rfl rfl) (by rfl) T.z_sum (by decide +kernel) (pa_cons (pe_slice (sl_listK K rfl) (pv 2) (po_some (pv 4)) po_none) pa_nil)) (pa_cons (pe_ix (ix_listK K rfl) (pv 2) (pv 4) (fun _ _ => rfl)) pa_nil))))
      (pss_one (ps_dput (hu_of hr) (pe_ix (ix_listK K rfl) (pv 1) (pv 4) (fun _ _ => rfl)) (pv 5) (pe_op op_add (pe_dget2 (hu_of hr) (pe_ix (ix_listK K rfl) (pv 1) (pv 4) (fun _ _ => rfl)) (pv 5) pe_int ⟨rfl, rfl, rfl, rfl⟩) (pv 3)) rfl))))))
      (pss_one (ps_ret (pe_lc (own := [("_law_flow", 7)]) rfl sc_l_flows.nd (pi_listK K rfl (pv 1)) (blkOk_by (own := [("_law_flow", 7)]) (N := ["_law_mix_here", "_law_flows_here", "_law_plan_here", "_law_weight", "_law_k", "_law_spot", "_law_place", "_law_flow", "_law_rest", "_law_sent"]) (sc := defScope s_l_flows) (by decide +kernel)) (fun _ _ _ _ _ => (pg_name (i := 7) sc_l_flows.nd rfl (Or.inr rfl))) (fun _ _ _ _ _ => pts_nil) (fun _ _ _ _ _ => (pe_lc (own := [("_law_rest", 8), ("_law_sent", 9)]) rfl sc_l_flows.nd (pi_listK K rfl (pe_callB (cr_sortedDT rfl) (by rfl) T.z_sorted (by decide +kernel) (pa_cons (pv 7) pa_nil))) (blkOk_by (own := [("_law_rest", 8), ("_law_sent", 9)]) (N := ["_law_mix_here", "_law_flows_here", "_law_plan_here", "_law_weight", "_law_k", "_law_spot", "_law_place", "_law_flow", "_law_rest", "_law_sent"]) (sc := (Hf.relS { kind := PySem.ScopeKind.function, names := [ (PySem.Str.ofString ".0", PySem.NameKind.local), (PySem.Str.ofString "_law_flow", PySem.NameKind.cell), (PySem.Str.ofString "sorted", PySem.NameKind.globalImplicit)], isGenerator := false, isCoroutine := false, more := [] : PySem.Scope } (defScope s_l_flows))) (by decide +kernel)) (fun _ _ _ _ _ => (pg_tupK K rfl 2 rfl (pgs_cons (pg_name (i := 8) sc_l_flows.nd rfl (Or.inl rfl)) (pgs_cons (pg_name (i := 9) sc_l_flows.nd rfl (Or.inl rfl)) pgs_nil)))) (fun _ _ _ _ _ => pts_nil) (fun _ _ _ _ _ => (pe_tup (pa_cons (pv 8) (pa_cons (pv 9) (pa_cons (pe_dget (hu_of hr) (pv 7) (pe_tup (pa_cons (pv 8) (pa_cons (pv 9) pa_nil))) (fun _ _ => rfl)) pa_nil)))))))))))), ?_⟩
  try dsimp only [L2.cxOf, L2.Cx.nox, L2.Cx.wish, List.map_cons, List.map_nil]
  obtain ⟨v, m, h, n, rfl, p0, ok, hml, k⟩ := h
  refine start_to (σ := [some _, none, none, none, none, none, none, none, none, none]) rfl ?_
  obtain ⟨a, xs, rfl, q1, q2, q3⟩ := mix_inv p0
  have hm := ok.ne
  obtain ⟨x0, hx0⟩ : ∃ x, xs[0]? = some x := ⟨xs[0]'(by omega), List.getElem?_eq_getElem _⟩
  obtain ⟨pw, t, p, e1, rfl, e2, e3⟩ := q3 0 x0 hx0
  have hat : atI xs 0 = some (.ref t) := atI_nat hx0
  have hn := (ok.pl pw (List.mem_of_getElem? e1)).1.1
  have hn8 := ok.fl
  walk_at "goO"
  intro D nD
  refine lcL_ds nD (by rw [List.length_map]; omega) (SqL.of e3) ?_ ?_
  · intro i x H2 Z Y hx hs hz
    walk_at "go"
    exact hz _ (by assumption)
  intro rs H1 hr s1
  rw [List.length_map, hn] at hr
  have q1' := s1 _ _ q1
  have sH := s1
  have hw := ok.pl
  clear s1 nD hat e2 e3 hx0 p0
  walk_at "go"
  refine forL (xs := xs) (fun j σ H2 => ∃ (y2 y3 y4 y5 y6 y7 y8 y9 : Option V), σ = [some (.ref a), some (.ref D), y2, y3, y4, y5, y6, y7, y8, y9] ∧ DsR H H2 D rs n (fun k => flowF (m.take j) k) (fun _ => j) ∧ Same H H2) ⟨_, _, _, _, _, _, _, _, rfl, hr.cast (fun k _ => ⟨rfl, Nat.le_refl _⟩), sH⟩ ?_ ?_ ?_
  · rintro j σ H2 _ ⟨y2, y3, y4, y5, y6, y7, y8, y9, rfl, g1, g2⟩
    exact SqL.of (g2 _ _ q1)
  · rintro σ H2 ⟨y2, y3, y4, y5, y6, y7, y8, y9, rfl, g1, g2⟩
    rw [q2, List.take_length] at g1
    have g3 := g1.hF
    walk_at "go"
    intro D2 nD2
    refine lcL_ownP (xs := rs.map V.ref) (fun k d => ∃ L, d = rowD L ∧ RowF (flowF m k) L) nD2 (by rw [List.length_map, g1.len]; omega) (SqL.of g3) ?_ ?_
    · intro i x H3 Z Y hx hs hz
      have hin : i < n := by
        have := (List.getElem?_eq_some_iff.mp hx).1
        rw [List.length_map, g1.len] at this
        exact this
      obtain ⟨r, kvs, v1, v2, v3, v4, v5, v6, v7⟩ := g1.at hin
      rw [hx] at v2
      cases v2
      have v3' := hs _ _ v3
      have hps := v4.pairs
      walk_at "go"
      rename_i zs p4 z1 z2 z3 z4
      intro D3 nD3
      have r0 := v4.row z2 z3
      generalize hL : (zs.map (pairAt H3)).map (fun p => (p.1, p.2, flowF m i p.1 p.2)) = L at r0
      have hzl : zs.length = L.length := by rw [← hL, List.length_map, List.length_map]
      have hzk : zs.length ≤ 1000 := by
        have := z2.length_eq
        rw [List.length_map, List.length_map] at this
        omega
      have v3p := lk_new z4 (o := .lst zs) v3'
      refine lcL_own (xs := zs) (fun j => flD ((L[j]?).getD (0, 0, 0))) nD3 (by omega) (SqL.of upd_same) ?_ ?_
      · intro j y H4 Z' Y' hy hs' hz'
        obtain ⟨b, rfl, hb⟩ := z1 y (List.mem_of_getElem? hy)
        have eL : L[j]? = some ((pairAt H3 (.ref b)).1, (pairAt H3 (.ref b)).2, flowF m i (pairAt H3 (.ref b)).1 (pairAt H3 (.ref b)).2) := by
          rw [← hL, List.getElem?_map, List.getElem?_map, hy]
          rfl
        have hb' := hs' _ _ (lk_new z4 hb)
        have g1' := hs' _ _ v3p
        have hmem := (r0.mem _).mp (List.mem_of_getElem? eL)
        generalize hpa : pairAt H3 (.ref b) = pp at hb' eL hmem
        obtain ⟨l, s'⟩ := pp
        have hv : valV kvs [.inl l, .inl s'] = some (.int (flowF m i l s')) := by
          have := v4.vl l s'
          rw [if_neg hmem.2] at this
          exact this
        clear hs' hs
        walk_at "go"
        rename_i q nq
        refine hz' (.ref q) [] _ ?_ (by walk_at "g_same")
        rw [eL]
        exact own_fl
      · intro S2 H4 w1 w4
        rw [hzl, rng_map _ flD L (fun i x e => by rw [e]; rfl)] at w1
        exact hz (.ref D3) (rowD L) S2 H4 ⟨L, rfl, r0⟩ (w1.back (Same.new z4)) ((Same.new z4).trans w4)
    · intro ds S H3 w1 w2 w3 w4
      rw [List.length_map, g1.len] at w1
      obtain ⟨Ls, rfl, w5⟩ := pick_all w2
      rw [List.length_map] at w1
      walk_at "go"
      exact k _ S Ls _ (w3.back g2) ⟨w1, w5⟩ (g2.trans w4)
  · rintro j x σ H2 hx ⟨y2, y3, y4, y5, y6, y7, y8, y9, rfl, g1, g2⟩
    obtain ⟨pw', t', p', f1, rfl, f2, f3⟩ := q3 j x hx
    have f2' := g2 _ _ f2
    have f3' := g2 _ _ f3
    have hn' := (ok.pl pw' (List.mem_of_getElem? f1)).1.1
    have hw' := (ok.pl pw' (List.mem_of_getElem? f1)).2
    have hj := (List.getElem?_eq_some_iff.mp hx).1
    clear f2 hw hr q1'
    walk_at "go"
    refine forR (fun i σ H3 => ∃ (y4 y5 y6 y7 y8 y9 : Option V), σ = [some (.ref a), some (.ref D), some (.ref p'), some (.int pw'.2), y4, y5, y6, y7, y8, y9] ∧ DsR H H3 D rs n (fun k => if k < i then flowF (m.take (j + 1)) k else flowF (m.take j) k) (fun k => if k < i then j + 1 else j) ∧ Same H H3) ⟨_, _, _, _, _, _, rfl, (g1.cast (fun k _ => ⟨by rw [if_neg (by omega)], by rw [if_neg (by omega)]; exact Nat.le_refl _⟩)), g2⟩ ?_ ?_
    · rintro σ1 H3 ⟨z4, z5, z6, z7, z8, z9, rfl, u1, u2⟩
      exact ⟨_, _, _, _, _, _, _, _, rfl, u1.cast (fun k hk => ⟨by rw [if_pos (by omega)], by split <;> omega⟩), u2⟩
    · rintro i σ1 H3 hi ⟨z4, z5, z6, z7, z8, z9, rfl, u1, u2⟩
      have hin : i < n := by omega
      obtain ⟨r, kvs, v1, v2, v3, v4, v5, v6, v7⟩ := u1.at hin
      rw [if_neg (Nat.lt_irrefl i)] at v4 v5
      have hF := u1.hF
      have hat : atI (rs.map V.ref) (i : Int) = some (.ref r) := atI_nat v2
      have f3'' := u2 _ _ f3
      have hrl : (rs.map V.ref).length ≤ 1000 := by rw [List.length_map, u1.len]; omega
      clear f3' f2' g1 g2
      rw [Int.zero_add]
      walk_at "go"
      rename_i p1' n1 z1 hz1 p2' n2
      rw [Int.toNat_natCast] at hz1 n2 ⊢
      have hk : keyAt pw'.1 i = ((pw'.1.drop i).sum, z1) := by
        unfold keyAt
        rw [hz1]
        rfl
      have ad := v4.add (i := (pw'.1.drop i).sum) (j := z1) hw'
      refine ⟨_, _, _, _, _, _, rfl, (((u1.same (Same.new n1)).same (Same.new n2)).put v1 ad (M := j + 1) (Nat.le_trans FlD.len (by omega))).cast fun k hk' => ?_, Same.mut ((u2.trans (Same.new n1)).trans (Same.new n2)) v6⟩
      by_cases c2 : k = i
      · subst c2
        rw [if_pos rfl, if_pos rfl, if_pos (by omega), if_pos (by omega), take_snoc f1, flowF_snoc, hk]
        exact ⟨rfl, Nat.le_refl _⟩
      · rw [if_neg c2, if_neg c2]
        by_cases c3 : k < i
        · rw [if_pos c3, if_pos c3, if_pos (by omega), if_pos (by omega)]
          exact ⟨rfl, Nat.le_refl _⟩
        · rw [if_neg c3, if_neg c3, if_neg (by omega), if_neg (by omega)]
          exact ⟨rfl, Nat.le_refl _⟩


def sp_l_all_plans (K : PySem.W.Frag) (n : Nat) : Sp := fun vs H Q E => ∃ (h f : Int), vs = [.int h, .int f] ∧ (0 ≤ h ∧ h ≤ 10) ∧ (1 ≤ f ∧ f < n ∧ f ≤ 5) ∧ ∀ (v : V) (H' : Hp), (Dq H' v (.list ((allP h.toNat (f.toNat - 1)).map planD))) → (Same H H') → Q (v) H'
theorem use_l_all_plans {K : PySem.W.Frag} {n : Nat} {H : Hp} {Q : VK} {E : XK} {h f : Int} (p0 : 0 ≤ h ∧ h ≤ 10) (p1 : 1 ≤ f ∧ f < n ∧ f ≤ 5) (k : ∀ (v : V) (H' : Hp), (Dq H' v (.list ((allP h.toNat (f.toNat - 1)).map planD))) → (Same H H') → Q (v) H') : sp_l_all_plans K n [.int h, .int f] H Q E := ⟨h, f, rfl, p0, p1, k⟩
theorem len_l_all_plans {K : PySem.W.Frag} {n : Nat} (vs : List V) (H : Hp) (Q : VK) (E : XK) (h : sp_l_all_plans K n vs H Q E) : vs.length = ["_law_hosts", "_law_many"].length := by
  obtain ⟨_, _, rfl, _⟩ := h
  rfl
local macro_rules | `(tactic| walk_at "g_call") => `(tactic| ((with_reducible refine' use_l_all_plans ?c0 ?c1 ?_); (case c0 => walk_at "g_pre"); (case c1 => walk_at "g_pre"); intros))
theorem okn_l_all_plans (T : Txt K mg) (n : Nat) : FnOk P w K mg base CX0 n T.a_l_all_plans T.d_l_all_plans ["_law_hosts", "_law_many"] (sp_l_all_plans K n) := by
  induction n with
  | zero => exact ⟨len_l_all_plans, fun A outer s H args us vs Q E hr he hb hv h => by
      obtain ⟨h, f, _, _, z, _⟩ := h
      omega⟩
  | succ n ih =>
  have G_l_all_plans := ih
  refine T.F_l_all_plans.ok sc_l_all_plans len_l_all_plans (fun cdv A outer s H vs Q E hr h => ?_)
  refine ⟨_, (pss_cons (ps_if (pt_cmpR op_eq (pv 1) pe_int (nomark _)) (pss_one (ps_ret (pe_lst (pa_cons (pe_lst (pa_cons (pv 0) pa_nil)) pa_nil)))) pss_nil)
      (pss_cons (ps_set (i := 2) sc_l_all_plans.nd rfl (Or.inl rfl) (pe_lst pa_nil))
      (pss_cons (ps_for PassesOwn.never rfl (pi_range1 rfl T.z_range (pa_cons (pe_op op_add (pv 0) pe_int) pa_nil)) (pg_name (i := 3) sc_l_all_plans.nd rfl (Or.inr rfl)) (pss_one (ps_set (i := 2) sc_l_all_plans.nd rfl (Or.inl rfl) (pe_op op_cat (pv 2) (pe_lc (own := [("_law_rest", 4)]) rfl sc_l_all_plans.nd (pi_listK K rfl (pe_call G_l_all_plans (hr.mono (by first | decide | omega)) (by rfl) T.g_l_all_plans T.F_l_all_plans.kp T.b_l_all_plans .nil pass0 (pa_cons (pe_op op_sub (pv 0) (pv 3)) (pa_cons (pe_op op_sub (pv 1) pe_int) pa_nil)))) (blkOk_by (own := [("_law_rest", 4)]) (N := ["_law_hosts", "_law_many", "_law_found", "_law_sent", "_law_rest"]) (sc := defScope s_l_all_plans) (by decide +kernel)) (fun _ _ _ _ _ => (pg_name (i := 4) sc_l_all_plans.nd rfl (Or.inl rfl))) (fun _ _ _ _ _ => pts_nil) (fun _ _ _ _ _ => (pe_op op_cat (pe_lst (pa_cons (pv 3) pa_nil)) (pv 4))))))))
      (pss_one (ps_ret (pv 2)))))), ?_⟩
  try dsimp only [L2.cxOf, L2.Cx.nox, L2.Cx.wish, List.map_cons, List.map_nil]
  obtain ⟨h, f, rfl, p0, p1, k⟩ := h
  refine start_to (σ := [some _, some _, none, none, none]) rfl ?_
  walk_at "go"
  refine ite_d (fun c1 => ?_) (fun c1 => ?_)
  · subst c1
    walk_at "go"
    rename_i q nq r nr
    refine k (.ref r) _ ?_ (by walk_at "g_same")
    rw [show (1 : Int).toNat - 1 = 0 from rfl, allP]
    exact .lst upd_same (.cons (.lst (lk_new nr upd_same) (.cons (by rw [show ((h.toNat : Nat) : Int) = h by omega]; exact .int h) .nil)) .nil)
  · obtain ⟨m, hm⟩ : ∃ m, f.toNat - 1 = m + 1 := ⟨f.toNat - 2, by omega⟩
    rw [hm, allP] at k
    have lens : ∀ j, (allP j m).length ≤ 15000 ∨ 10 < j := fun j => by
      by_cases c : j ≤ 10
      · have := allP_len (m := m) c
        have l2 : (10 + 1) ^ m ≤ 11 ^ 3 := Nat.pow_le_pow_right (by decide) (by omega)
        have : (11 : Nat) ^ 3 = 1331 := by decide
        omega
      · omega
    walk_at "go"
    rename_i R nR
    refine forR (fun i σ H1 => ∃ (R : Addr) (ys : List V) (y3 y4 : Option V), σ = [some (.int h), some (.int f), some (.ref R), y3, y4] ∧ H1 R = some (.lst ys) ∧ DqAll H1 ys (((List.range i).flatMap fun s => (allP (h.toNat - s) m).map fun r => (s : Int) :: r).map planD) ∧ Same H H1) ⟨R, [], _, _, rfl, upd_same, .nil, by walk_at "g_same"⟩ ?_ ?_
    · rintro σ1 H1 ⟨R, ys, y3, y4, rfl, q1, q2, q3⟩
      walk_at "go"
      refine k (.ref R) _ ?_ q3
      rw [show (h + 1).toNat = h.toNat + 1 by omega] at q2
      exact .lst q1 q2
    · rintro i σ1 H1 hi ⟨R, ys, y3, y4, rfl, q1, q2, q3⟩
      have hi2 : i ≤ h.toNat := by omega
      have b1 : 0 ≤ h - (0 + (i : Int)) ∧ h - (0 + (i : Int)) ≤ 10 := by omega
      have b2 : 1 ≤ f - 1 ∧ f - 1 < (n : Int) ∧ f - 1 ≤ 5 := by omega
      have yl : ys.length ≤ 150000 := by
        rw [q2.len, List.length_map]
        have := flat_le (f := fun s => (allP (h.toNat - s) m).map fun r => (s : Int) :: r) (k := 15000) i fun j hj => by
          rw [List.length_map]
          have := lens (h.toNat - j)
          omega
        have : i * 15000 ≤ 10 * 15000 := Nat.mul_le_mul_right _ (by omega)
        omega
      walk_at "go"
      rename_i v H2 d1 s2
      rw [show (h - (0 + (i : Int))).toNat = h.toNat - i by omega, show (f - 1).toNat - 1 = m by omega] at d1
      obtain ⟨a, xs, rfl, e1, e2⟩ := d1.list_inv
      have xl : xs.length = (allP (h.toNat - i) m).length := by rw [e2.len, List.length_map]
      have xb : xs.length ≤ 15000 := by
        have := lens (h.toNat - i)
        omega
      walk_at "go"
      intro D nD
      refine lcL_new (xs := xs) (fun j => planD ((i : Int) :: ((allP (h.toNat - i) m)[j]?).getD [])) nD (by omega) (SqL.of e1) ?_ ?_
      · intro j x H3 Z Y hx s3 hz
        obtain ⟨r, p, f1, rfl, f2⟩ := row_at e2 hx
        have f3 := s3 _ _ f2
        have rl : r.length ≤ 5 := by
          have := (allP_mem.mp (List.mem_of_getElem? f1)).1
          omega
        walk_at "go"
        rename_i q1 n1 q2 n2
        refine hz (.ref q2) (fr [] H3 (upd (upd H3 q1 _) q2 _)) _ ?_ fr_newly fr_same (by walk_at "g_same")
        rw [f1]
        refine row_mk (fr_lk0 ((Same.new n1).free n2) ?_)
        rw [show (0 : Int) + (i : Int) = i by omega]
        exact upd_same
      · intro G H3 g1 g2 g3 g4
        obtain ⟨_, zs, e, g5, g6⟩ := g1.list_inv
        cases e
        have g7 := g3 _ _ g5
        have q1' := (s2.trans g4) _ _ q1
        have zl : zs.length ≤ 15000 := by rw [g6.len, List.length_map, List.length_range]; omega
        walk_at "go"
        rename_i R2 nR2
        refine ⟨R2, ys ++ zs, _, _, rfl, upd_same, ?_, by walk_at "g_same"⟩
        rw [List.range_succ, List.flatMap_append, List.map_append]
        refine DqAll.append (q2.same ((s2.trans g4).trans (Same.new nR2))) ?_
        have e0 : (List.range xs.length).map (fun j => planD ((i : Int) :: ((allP (h.toNat - i) m)[j]?).getD [])) = ([i].flatMap fun s => (allP (h.toNat - s) m).map fun r => (s : Int) :: r).map planD := by
          rw [xl, rng_map _ (fun r => planD ((i : Int) :: r)) (allP (h.toNat - i) m) (fun j r e => by rw [e]; rfl)]
          simp only [List.flatMap_cons, List.flatMap_nil, List.append_nil, List.map_map]
          rfl
        rw [← e0]
        exact (g6.same g3).same (Same.new nR2)
theorem ok_l_all_plans (T : Txt K mg) : FnOk P w K mg base CX0 6 T.a_l_all_plans T.d_l_all_plans ["_law_hosts", "_law_many"] (sp_l_all_plans K 6) := okn_l_all_plans T 6

theorem gain_wd {fs : List Fld} (h : ∀ x ∈ fs, FldSm x) (hn : fs.length ≤ 5) (ms ns : List Int) : Wd 113 (gainV fs ms ns) := by
  unfold gainV
  refine wd_sum (a := 110) (k := 3) (fun x hx => ?_) (by rw [List.length_map, List.length_range]; omega)
  obtain ⟨i, hi, rfl⟩ := List.mem_map.mp hx
  have hi := List.mem_range.mp hi
  have e : fldAt fs i = fs[i] := by
    unfold fldAt
    rw [show ((i : Int)).toNat = i from rfl, List.getElem?_eq_getElem hi]
    rfl
  rw [e]
  exact pay_small (f := 0) (s := 0) h _ (List.getElem_mem hi) _ _
def sp_l_brought (K : PySem.W.Frag) : Sp := fun vs H Q E => ∃ (v : V) (f s : Int) (fs : List Fld) (sd : Bool) (w : V) (mx : List (List Int × Int)), vs = [v, .int (sideI sd), w] ∧ (Dq H v (batD f s fs)) ∧ (BatOk f s fs) ∧ ((∀ x ∈ fs, FldSm x)) ∧ (Dq H w (mixD mx)) ∧ (MixG (ownS f s sd) fs.length mx) ∧ (mx.length ≤ 5 ∧ (∀ pw ∈ mx, pw.2 ≤ 100000000000000000000)) ∧ ∀ (z : Int) (H' : Hp), ((∃ q, PlanC (othS f s sd) fs.length q ∧ z = mixWay fs sd mx q)) → ((∀ q, PlanC (othS f s sd) fs.length q → if sd = true then mixWay fs sd mx q ≤ z else z ≤ mixWay fs sd mx q)) → (Same H H') → Q (.int z) H'
theorem use_l_brought {K : PySem.W.Frag} {H : Hp} {Q : VK} {E : XK} {v : V} {f s : Int} {fs : List Fld} {sd : Bool} {w : V} {mx : List (List Int × Int)} (p0 : Dq H v (batD f s fs)) (p1 : BatOk f s fs) (p2 : (∀ x ∈ fs, FldSm x)) (p3 : Dq H w (mixD mx)) (p4 : MixG (ownS f s sd) fs.length mx) (p5 : mx.length ≤ 5 ∧ (∀ pw ∈ mx, pw.2 ≤ 100000000000000000000)) (k : ∀ (z : Int) (H' : Hp), ((∃ q, PlanC (othS f s sd) fs.length q ∧ z = mixWay fs sd mx q)) → ((∀ q, PlanC (othS f s sd) fs.length q → if sd = true then mixWay fs sd mx q ≤ z else z ≤ mixWay fs sd mx q)) → (Same H H') → Q (.int z) H') : sp_l_brought K [v, .int (sideI sd), w] H Q E := ⟨v, f, s, fs, sd, w, mx, rfl, p0, p1, p2, p3, p4, p5, k⟩
theorem len_l_brought {K : PySem.W.Frag} (vs : List V) (H : Hp) (Q : VK) (E : XK) (h : sp_l_brought K vs H Q E) : vs.length = ["_law_battle_here", "_law_side", "_law_mix_here"].length := by
  obtain ⟨_, _, _, _, _, _, _, rfl, _⟩ := h
  rfl
local macro_rules | `(tactic| walk_at "g_call") => `(tactic| ((with_reducible refine' use_l_brought ?c0 ?c1 ?c2 ?c3 ?c4 ?c5 ?_); (case c0 => walk_at "g_pre"); (case c1 => walk_at "g_pre"); (case c2 => walk_at "g_pre"); (case c3 => walk_at "g_pre"); (case c4 => walk_at "g_pre"); (case c5 => walk_at "g_pre"); intros))
theorem ok_l_brought (T : Txt K mg) : FnOk P w K mg base CX0 7 T.a_l_brought T.d_l_brought ["_law_battle_here", "_law_side", "_law_mix_here"] (sp_l_brought K) := by
  have G_l_all_plans := ok_l_all_plans (P := P) (w := w) (base := base) T
  have G_gain := ok_gain (P := P) (w := w) (base := base) T
  refine T.F_l_brought.ok sc_l_brought len_l_brought (fun cdv A outer s H vs Q E hr h => ?_)
  refine ⟨_, (pss_cons (ps_set (i := 3) sc_l_brought.nd rfl (Or.inl rfl) (pe_lst pa_nil))
      (pss_cons (ps_for PassesOwn.never rfl (pi_listK K rfl (pe_call G_l_all_plans (hr.mono (by first | decide | omega)) (by rfl) T.g_l_all_plans T.F_l_all_plans.kp T.b_l_all_plans .nil pass0 (pa_cons (pe_ix (ix_tupK K rfl) (pv 0) (pe_op op_sub pe_int (pv 1)) (fun _ _ => rfl)) (pa_cons (pe_callB (call_lenK K rfl) (by rfl) T.z_len (by decide +kernel) (pa_cons (pe_ix (ix_tupK K rfl) (pv 0) pe_int (fun _ _ => rfl)) pa_nil)) pa_nil)))) (pg_name (i := 4) sc_l_brought.nd rfl (Or.inl rfl)) (pss_cons (ps_set (i := 5) sc_l_brought.nd rfl (Or.inl rfl) pe_int)
      (pss_cons (ps_for PassesOwn.never rfl (pi_listK K rfl (pv 2)) (pg_tupK K rfl 2 rfl (pgs_cons (pg_name (i := 6) sc_l_brought.nd rfl (Or.inl rfl)) (pgs_cons (pg_name (i := 7) sc_l_brought.nd rfl (Or.inl rfl)) pgs_nil))) (pss_cons (ps_asg (pe_ix (ix_listK K rfl) (pe_lst (pa_cons (pe_tup (pa_cons (pv 6) (pa_cons (pv 4) pa_nil))) (pa_cons (pe_tup (pa_cons (pv 4) (pa_cons (pv 6) pa_nil))) pa_nil))) (pv 1) (fun _ _ => rfl)) (pg_tupK K rfl 2 rfl (pgs_cons (pg_name (i := 8) sc_l_brought.nd rfl (Or.inl rfl)) (pgs_cons (pg_name (i := 9) sc_l_brought.nd rfl (Or.inl rfl)) pgs_nil))))
      (pss_one (ps_set (i := 5) sc_l_brought.nd rfl (Or.inl rfl) (pe_op op_add (pv 5) (pe_op op_mulA (pv 7) (pe_call G_gain (hr.mono (by first | decide | omega)) (by rfl) T.g_gain T.F_gain.kp T.b_gain .nil passL (pa_cons (pv 0) (pa_cons (pv 8) (pa_cons (pv 9) pa_nil))))))))))
      (pss_one (ps_expr (pe_bm PySem.F.plainAttrs_list PySem.F.slot_list_append PySem.F.type_list_append mt_append (pv 3) (pa_cons (pv 5) pa_nil)))))))
      (pss_one (ps_ret (pe_ix (ix_listK K rfl) (pe_lst (pa_cons (pe_callB (cr_minK K rfl rfl) (by rfl) T.z_min (by decide +kernel) (pa_cons (pv 3) pa_nil)) (pa_cons (pe_callB (cr_maxK K rfl rfl) (by rfl) T.z_max (by decide +kernel) (pa_cons (pv 3) pa_nil)) pa_nil))) (pv 1) (fun _ _ => rfl)))))), ?_⟩
  try dsimp only [L2.cxOf, L2.Cx.nox, L2.Cx.wish, List.map_cons, List.map_nil]
  obtain ⟨v, f, s, fs, sd, w, mx, rfl, p0, p1, p2, p3, p4, ⟨p5, p6⟩, k⟩ := h
  refine start_to (σ := [some _, some _, some _, none, none, none, none, none, none, none]) rfl ?_
  obtain ⟨bA, bp, xs, rfl, h1, h2, h3⟩ := bat_inv p0
  have hl : (xs.length : Int) = fs.length := by rw [h3.len, List.length_map]
  have hn := p1.ne
  have hf := p1.hf
  have hs := p1.hs
  rcases sd with _ | _
  · have ex : ownS f s false = f := rfl
    have ey : othS f s false = s := rfl
    rw [ex] at p4
    rw [ey] at k
    have hat : atI [V.int f, V.int s, V.ref bp] (1 - sideI false) = some (.int s) := rfl
    walk_at "go"
    rename_i R nR vp H1 d1 s1
    rw [hl, show ((fs.length : Int)).toNat - 1 = fs.length - 1 by omega] at d1
    generalize hP : allP s.toNat (fs.length - 1) = Ps at d1
    have mem : ∀ q ∈ Ps, PlanC s fs.length q := fun q hq => by
      rw [← hP] at hq
      have := allP_mem.mp hq
      rw [show fs.length - 1 + 1 = fs.length by omega, show ((s.toNat : Nat) : Int) = s by omega] at this
      exact this
    have memr : ∀ q, PlanC s fs.length q → q ∈ Ps := fun q hq => by
      rw [← hP]
      refine allP_mem.mpr ?_
      rw [show fs.length - 1 + 1 = fs.length by omega, show ((s.toNat : Nat) : Int) = s by omega]
      exact hq
    have ne : 1 ≤ Ps.length := by
      rw [← hP]
      exact allP_ne
    have lb : Ps.length ≤ 20000 := by
      rw [← hP]
      have := allP_len (m := fs.length - 1) (h := s.toNat) (k := 10) (by omega)
      have l2 : (10 + 1) ^ (fs.length - 1) ≤ 11 ^ 4 := Nat.pow_le_pow_right (by decide) (by omega)
      have : (11 : Nat) ^ 4 = 14641 := by decide
      omega
    obtain ⟨ap, xp, rfl, u1, u2⟩ := d1.list_inv
    have xpl : xp.length = Ps.length := by rw [u2.len, List.length_map]
    have hR := s1 _ _ (show L2.upd H R (.lst []) R = some (.lst []) from upd_same)
    have apR : ap ≠ R := fun z => by
      rw [z, hR] at u1
      cases u1
      rw [List.length_nil] at xpl
      omega
    have dmX : Dq (hid [R] H1) w (mixD mx) := p3.same (same_hidS ((Same.new nR).trans s1) fun b hb => by rw [List.mem_singleton.mp hb]; exact nR)
    have dbX : Dq (hid [R] H1) (.ref bA) (batD f s fs) := p0.same (same_hidS ((Same.new nR).trans s1) fun b hb => by rw [List.mem_singleton.mp hb]; exact nR)
    clear p0 p3 h1 h2 h3 hat d1
    walk_at "go"
    refine forL (xs := xp) (fun i σ H2 => ∃ (y4 y5 y6 y7 y8 y9 : Option V), σ = [some (.ref bA), some (.int (sideI false)), some w, some (.ref R), y4, y5, y6, y7, y8, y9] ∧ H2 R = some (.lst (((Ps.take i).map (mixWay fs false mx)).map V.int)) ∧ But R H1 H2) ⟨_, _, _, _, _, _, rfl, hR, But.refl _ _⟩ ?_ ?_ ?_
    · rintro i σ2 H2 _ ⟨y4, y5, y6, y7, y8, y9, rfl, r1, r2⟩
      exact SqL.of (r2 _ _ apR u1)
    · rintro σ2 H2 ⟨y4, y5, y6, y7, y8, y9, rfl, r1, r2⟩
      rw [xpl, List.take_length] at r1
      have l1 : 1 ≤ (Ps.map (mixWay fs false mx)).length := by rw [List.length_map]; exact ne
      walk_at "go"
      rename_i z1 h11 h12 z2 h21 h22 B nB
      obtain ⟨q, hq, eq⟩ := List.mem_map.mp h11
      refine k z1 _ ⟨q, mem q hq, eq.symm⟩ (fun q hq => h12 _ (List.mem_map_of_mem (memr q hq))) ?_
      exact Same.butT r2 nR ((Same.new nR).trans s1) |>.trans (Same.new nB)
    · rintro i x σ2 H2 hx ⟨y4, y5, y6, y7, y8, y9, rfl, r1, r2⟩
      obtain ⟨q, qp, e0, rfl, e2⟩ := row_at u2 hx
      have pq := mem q (List.mem_of_getElem? e0)
      have qR : qp ≠ R := fun z => by
        rw [z, hR] at e2
        have := congrArg List.length (HO.lst.inj (Option.some.inj e2))
        rw [List.length_map, pq.1] at this
        simp at this
        omega
      have q2 := r2 _ _ qR e2
      have il : i ≤ 20000 := by
        have := (List.getElem?_eq_some_iff.mp hx).1
        omega
      have dm2 := (dmX.same (hid_but (by simp) r2)).same hid_same
      have db2 := (dbX.same (hid_but (by simp) r2)).same hid_same
      obtain ⟨am, xm, rfl, m1, m2, m3⟩ := mix_inv dm2
      clear dmX dbX u1 u2 e2
      walk_at "go"
      refine forL (xs := xm) (fun t σ H3 => ∃ (y6 y7 y8 y9 : Option V), σ = [some (.ref bA), some (.int (sideI false)), some (.ref am), some (.ref R), some (.ref qp), some (.int (((mx.take t).map (fun pw : List Int × Int => pw.2 * gainV fs pw.1 q)).sum)), y6, y7, y8, y9] ∧ Same H2 H3) ⟨_, _, _, _, rfl, Same.refl _⟩ ?_ ?_ ?_
      · rintro t σ3 H3 _ ⟨y6, y7, y8, y9, rfl, s3⟩
        exact SqL.of (s3 _ _ m1)
      · rintro σ3 H3 ⟨y6, y7, y8, y9, rfl, s3⟩
        have r3 := s3 _ _ r1
        walk_at "go"
        refine ⟨_, _, _, _, _, _, rfl, ?_, But.upd (But.transS s3 r2)⟩
        rw [m2, List.take_length]
        have e9 : (Ps.take (i + 1)).map (mixWay fs false mx) = (Ps.take i).map (mixWay fs false mx) ++ [(mx.map (fun pw : List Int × Int => pw.2 * gainV fs pw.1 q)).sum] := by
          rw [List.take_succ, e0, List.map_append]
          rfl
        rw [e9]
        exact upd_same
      · rintro t x3 σ3 H3 hx3 ⟨y6, y7, y8, y9, rfl, s3⟩
        obtain ⟨pw, tt, pp, e1, rfl, e4, e5⟩ := m3 t x3 hx3
        have pl1 := (p4.pl pw (List.mem_of_getElem? e1)).1
        have w1 := p6 pw (List.mem_of_getElem? e1)
        have w0 := (p4.pl pw (List.mem_of_getElem? e1)).2
        have cm : CMulA pw.2 (gainV fs pw.1 q) := Wd.cmul (a := 80) (by unfold Wd; omega) (gain_wd p2 hn.2 _ _) (by decide) (by decide) (by decide)
        have e4' := s3 _ _ e4
        have e5' := s3 _ _ e5
        have q3 := s3 _ _ q2
        have db3 := db2.same s3
        rw [take_sum (fun pw : List Int × Int => pw.2 * gainV fs pw.1 q) e1]
        clear m1 m3 e4 e5 q2 dm2 db2 r1
        walk_at "go"
        exact ⟨_, _, _, _, rfl, by walk_at "g_same"⟩
  · have ex : ownS f s true = s := rfl
    have ey : othS f s true = f := rfl
    rw [ex] at p4
    rw [ey] at k
    have hat : atI [V.int f, V.int s, V.ref bp] (1 - sideI true) = some (.int f) := rfl
    walk_at "go"
    rename_i R nR vp H1 d1 s1
    rw [hl, show ((fs.length : Int)).toNat - 1 = fs.length - 1 by omega] at d1
    generalize hP : allP f.toNat (fs.length - 1) = Ps at d1
    have mem : ∀ q ∈ Ps, PlanC f fs.length q := fun q hq => by
      rw [← hP] at hq
      have := allP_mem.mp hq
      rw [show fs.length - 1 + 1 = fs.length by omega, show ((f.toNat : Nat) : Int) = f by omega] at this
      exact this
    have memr : ∀ q, PlanC f fs.length q → q ∈ Ps := fun q hq => by
      rw [← hP]
      refine allP_mem.mpr ?_
      rw [show fs.length - 1 + 1 = fs.length by omega, show ((f.toNat : Nat) : Int) = f by omega]
      exact hq
    have ne : 1 ≤ Ps.length := by
      rw [← hP]
      exact allP_ne
    have lb : Ps.length ≤ 20000 := by
      rw [← hP]
      have := allP_len (m := fs.length - 1) (h := f.toNat) (k := 10) (by omega)
      have l2 : (10 + 1) ^ (fs.length - 1) ≤ 11 ^ 4 := Nat.pow_le_pow_right (by decide) (by omega)
      have : (11 : Nat) ^ 4 = 14641 := by decide
      omega
    obtain ⟨ap, xp, rfl, u1, u2⟩ := d1.list_inv
    have xpl : xp.length = Ps.length := by rw [u2.len, List.length_map]
    have hR := s1 _ _ (show L2.upd H R (.lst []) R = some (.lst []) from upd_same)
    have apR : ap ≠ R := fun z => by
      rw [z, hR] at u1
      cases u1
      rw [List.length_nil] at xpl
      omega
    have dmX : Dq (hid [R] H1) w (mixD mx) := p3.same (same_hidS ((Same.new nR).trans s1) fun b hb => by rw [List.mem_singleton.mp hb]; exact nR)
    have dbX : Dq (hid [R] H1) (.ref bA) (batD f s fs) := p0.same (same_hidS ((Same.new nR).trans s1) fun b hb => by rw [List.mem_singleton.mp hb]; exact nR)
    clear p0 p3 h1 h2 h3 hat d1
    walk_at "go"
    refine forL (xs := xp) (fun i σ H2 => ∃ (y4 y5 y6 y7 y8 y9 : Option V), σ = [some (.ref bA), some (.int (sideI true)), some w, some (.ref R), y4, y5, y6, y7, y8, y9] ∧ H2 R = some (.lst (((Ps.take i).map (mixWay fs true mx)).map V.int)) ∧ But R H1 H2) ⟨_, _, _, _, _, _, rfl, hR, But.refl _ _⟩ ?_ ?_ ?_
    · rintro i σ2 H2 _ ⟨y4, y5, y6, y7, y8, y9, rfl, r1, r2⟩
      exact SqL.of (r2 _ _ apR u1)
    · rintro σ2 H2 ⟨y4, y5, y6, y7, y8, y9, rfl, r1, r2⟩
      rw [xpl, List.take_length] at r1
      have l1 : 1 ≤ (Ps.map (mixWay fs true mx)).length := by rw [List.length_map]; exact ne
      walk_at "go"
      rename_i z1 h11 h12 z2 h21 h22 B nB
      obtain ⟨q, hq, eq⟩ := List.mem_map.mp h21
      refine k z2 _ ⟨q, mem q hq, eq.symm⟩ (fun q hq => h22 _ (List.mem_map_of_mem (memr q hq))) ?_
      exact Same.butT r2 nR ((Same.new nR).trans s1) |>.trans (Same.new nB)
    · rintro i x σ2 H2 hx ⟨y4, y5, y6, y7, y8, y9, rfl, r1, r2⟩
      obtain ⟨q, qp, e0, rfl, e2⟩ := row_at u2 hx
      have pq := mem q (List.mem_of_getElem? e0)
      have qR : qp ≠ R := fun z => by
        rw [z, hR] at e2
        have := congrArg List.length (HO.lst.inj (Option.some.inj e2))
        rw [List.length_map, pq.1] at this
        simp at this
        omega
      have q2 := r2 _ _ qR e2
      have il : i ≤ 20000 := by
        have := (List.getElem?_eq_some_iff.mp hx).1
        omega
      have dm2 := (dmX.same (hid_but (by simp) r2)).same hid_same
      have db2 := (dbX.same (hid_but (by simp) r2)).same hid_same
      obtain ⟨am, xm, rfl, m1, m2, m3⟩ := mix_inv dm2
      clear dmX dbX u1 u2 e2
      walk_at "go"
      refine forL (xs := xm) (fun t σ H3 => ∃ (y6 y7 y8 y9 : Option V), σ = [some (.ref bA), some (.int (sideI true)), some (.ref am), some (.ref R), some (.ref qp), some (.int (((mx.take t).map (fun pw : List Int × Int => pw.2 * gainV fs q pw.1)).sum)), y6, y7, y8, y9] ∧ Same H2 H3) ⟨_, _, _, _, rfl, Same.refl _⟩ ?_ ?_ ?_
      · rintro t σ3 H3 _ ⟨y6, y7, y8, y9, rfl, s3⟩
        exact SqL.of (s3 _ _ m1)
      · rintro σ3 H3 ⟨y6, y7, y8, y9, rfl, s3⟩
        have r3 := s3 _ _ r1
        walk_at "go"
        refine ⟨_, _, _, _, _, _, rfl, ?_, But.upd (But.transS s3 r2)⟩
        rw [m2, List.take_length]
        have e9 : (Ps.take (i + 1)).map (mixWay fs true mx) = (Ps.take i).map (mixWay fs true mx) ++ [(mx.map (fun pw : List Int × Int => pw.2 * gainV fs q pw.1)).sum] := by
          rw [List.take_succ, e0, List.map_append]
          rfl
        rw [e9]
        exact upd_same
      · rintro t x3 σ3 H3 hx3 ⟨y6, y7, y8, y9, rfl, s3⟩
        obtain ⟨pw, tt, pp, e1, rfl, e4, e5⟩ := m3 t x3 hx3
        have pl1 := (p4.pl pw (List.mem_of_getElem? e1)).1
        have w1 := p6 pw (List.mem_of_getElem? e1)
        have w0 := (p4.pl pw (List.mem_of_getElem? e1)).2
        have cm : CMulA pw.2 (gainV fs q pw.1) := Wd.cmul (a := 80) (by unfold Wd; omega) (gain_wd p2 hn.2 _ _) (by decide) (by decide) (by decide)
        have e4' := s3 _ _ e4
        have e5' := s3 _ _ e5
        have q3 := s3 _ _ q2
        have db3 := db2.same s3
        rw [take_sum (fun pw : List Int × Int => pw.2 * gainV fs q pw.1) e1]
        clear m1 m3 e4 e5 q2 dm2 db2 r1
        walk_at "go"
        exact ⟨_, _, _, _, rfl, by walk_at "g_same"⟩
def TbOk (H : Hp) (v : V) (n w : Nat) : Prop := ∃ tb, Dq H v (tabD tb) ∧ Rect tb n w ∧ ∀ r ∈ tb, ∀ x ∈ r, Wd 220 x
theorem TbOk.same {H H' : Hp} {v : V} {n w : Nat} (h : TbOk H v n w) (s : Same H H') : TbOk H' v n w := by
  obtain ⟨tb, a, b⟩ := h
  exact ⟨tb, a.same s, b⟩
def sp_l_tables (K : PySem.W.Frag) : Sp := fun vs H Q E => ∃ (a : Addr) (m c : Int) (v : V) (f s : Int) (fs : List Fld) (sd : Bool) (w : V) (Ls : List (List Fl)), vs = [.ref a, v, .int (sideI sd), w] ∧ (Pk a m H c) ∧ (c ≤ 60000) ∧ (Dq (hid [a] H) v (batD f s fs)) ∧ (BatOk f s fs) ∧ (PayWd fs f s) ∧ (Dq (hid [a] H) w (strD Ls)) ∧ (StrS (ownS f s sd) fs.length Ls) ∧ ((∀ tb, BestT (duesV fs sd Ls (othS f s sd + 1).toNat) tb sd fs.length (othS f s sd + 1).toNat → ∀ r ∈ tb, ∀ x ∈ r, Wd 200 x)) ∧ ∀ (L : Addr) (T0 v1 v2 v3 : V) (tb : List (List Int)) (H' : Hp), (H' L = some (.lst [T0, v1, v2, v3])) → (L ≠ a) → (Dq (hid [a] H') T0 (tabD tb)) → (BestT (duesV fs sd Ls (othS f s sd + 1).toNat) tb sd fs.length (othS f s sd + 1).toNat) → (TbOk (hid [a] H') v1 fs.length (othS f s sd + 1).toNat) → (TbOk (hid [a] H') v2 fs.length (othS f s sd + 1).toNat) → (TbOk (hid [a] H') v3 fs.length (othS f s sd + 1).toNat) → (Pk a m H' (c + 1000)) → (But a H H') → Q (.ref L) H'
theorem use_l_tables {K : PySem.W.Frag} {H : Hp} {Q : VK} {E : XK} {a : Addr} {m c : Int} {v : V} {f s : Int} {fs : List Fld} {sd : Bool} {w : V} {Ls : List (List Fl)} (p0 : Pk a m H c) (p1 : c ≤ 60000) (p2 : Dq (hid [a] H) v (batD f s fs)) (p3 : BatOk f s fs) (p4 : PayWd fs f s) (p5 : Dq (hid [a] H) w (strD Ls)) (p6 : StrS (ownS f s sd) fs.length Ls) (p7 : (∀ tb, BestT (duesV fs sd Ls (othS f s sd + 1).toNat) tb sd fs.length (othS f s sd + 1).toNat → ∀ r ∈ tb, ∀ x ∈ r, Wd 200 x)) (k : ∀ (L : Addr) (T0 v1 v2 v3 : V) (tb : List (List Int)) (H' : Hp), (H' L = some (.lst [T0, v1, v2, v3])) → (L ≠ a) → (Dq (hid [a] H') T0 (tabD tb)) → (BestT (duesV fs sd Ls (othS f s sd + 1).toNat) tb sd fs.length (othS f s sd + 1).toNat) → (TbOk (hid [a] H') v1 fs.length (othS f s sd + 1).toNat) → (TbOk (hid [a] H') v2 fs.length (othS f s sd + 1).toNat) → (TbOk (hid [a] H') v3 fs.length (othS f s sd + 1).toNat) → (Pk a m H' (c + 1000)) → (But a H H') → Q (.ref L) H') : sp_l_tables K [.ref a, v, .int (sideI sd), w] H Q E := ⟨a, m, c, v, f, s, fs, sd, w, Ls, rfl, p0, p1, p2, p3, p4, p5, p6, p7, k⟩
theorem len_l_tables {K : PySem.W.Frag} (vs : List V) (H : Hp) (Q : VK) (E : XK) (h : sp_l_tables K vs H Q E) : vs.length = ["_law_left_here", "_law_battle_here", "_law_side", "_law_stream"].length := by
  obtain ⟨_, _, _, _, _, _, _, _, _, _, rfl, _⟩ := h
  rfl
local macro_rules | `(tactic| walk_at "g_call") => `(tactic| ((with_reducible refine' use_l_tables ?c0 ?c1 ?c2 ?c3 ?c4 ?c5 ?c6 ?c7 ?_); (case c0 => walk_at "g_pre"); (case c1 => walk_at "g_pre"); (case c2 => walk_at "g_pre"); (case c3 => walk_at "g_pre"); (case c4 => walk_at "g_pre"); (case c5 => walk_at "g_pre"); (case c6 => walk_at "g_pre"); (case c7 => walk_at "g_pre"); intros))
theorem ok_l_tables (T : Txt K mg) : FnOk P w K mg base CX0 4 T.a_l_tables T.d_l_tables ["_law_left_here", "_law_battle_here", "_law_side", "_law_stream"] (sp_l_tables K) := by
  have G_l_table := ok_l_table (P := P) (w := w) (base := base) T
  have G_l_draw := ok_l_draw (P := P) (w := w) (base := base) T
  refine T.F_l_tables.ok sc_l_tables len_l_tables (fun cdv A outer s H vs Q E hr h => ?_)
  refine ⟨_, (pss_cons (ps_set (i := 4) sc_l_tables.nd rfl (Or.inl rfl) (pe_call G_l_table (hr.mono (by first | decide | omega)) (by rfl) T.g_l_table T.F_l_table.kp T.b_l_table .nil pass0 (pa_cons (pv 1) (pa_cons (pv 2) (pa_cons (pv 3) pa_nil)))))
      (pss_cons (ps_setLc (i := 5) (own := [("_law_row", 9)]) rfl sc_l_tables.nd rfl rfl (sw_true rfl rfl rfl (by decide +kernel)) (pi_listK K rfl (pv 4)) (blkOk_by (own := [("_law_row", 9)]) (N := ["_law_left_here", "_law_battle_here", "_law_side", "_law_stream", "_law_table_here", "_law_loose", "_law_drawn", "_law_tight", "_law_k", "_law_row", "_law_number"]) (sc := defScope s_l_tables) (by decide +kernel)) (fun _ _ _ _ _ => (pg_name (i := 9) sc_l_tables.nd rfl (Or.inl rfl))) (fun _ _ _ _ _ => pts_nil) (fun _ _ _ _ _ => (pe_lc (own := [("_law_number", 10)]) rfl sc_l_tables.nd (pi_listK K rfl (pv 9)) (blkOk_by (own := [("_law_number", 10)]) (N := ["_law_left_here", "_law_battle_here", "_law_side", "_law_stream", "_law_table_here", "_law_loose", "_law_drawn", "_law_tight", "_law_k", "_law_row", "_law_number"]) (sc := (Hf.relS { kind := PySem.ScopeKind.function, names := [ (PySem.Str.ofString ".0", PySem.NameKind.local), (PySem.Str.ofString "_law_row", PySem.NameKind.local), (PySem.Str.ofString "_law_left_here", PySem.NameKind.free), (PySem.Str.ofString "_law_side", PySem.NameKind.free)], isGenerator := false, isCoroutine := false, more := [] : PySem.Scope } (defScope s_l_tables))) (by decide +kernel)) (fun _ _ _ _ _ => (pg_name (i := 10) sc_l_tables.nd rfl (Or.inl rfl))) (fun _ _ _ _ _ => pts_nil) (fun _ _ _ _ _ => (pe_op op_sub (pv 10) (pe_op op_mulA (pe_ix (ix_listK K rfl) (pe_lst (pa_cons pe_int (pa_cons (pe_un un_neg pe_int) pa_nil))) (pv 2) (fun _ _ => rfl)) (pe_call G_l_draw (hr.mono (by first | decide | omega)) (by rfl) T.g_l_draw T.F_l_draw.kp T.b_l_draw .nil pass0 (pa_cons (pv 0) (pa_cons pe_int pa_nil)))))))))
      (pss_cons (ps_setLc (i := 6) (own := [("_law_row", 9)]) rfl sc_l_tables.nd rfl rfl (sw_true rfl rfl rfl (by decide +kernel)) (pi_listK K rfl (pv 4)) (blkOk_by (own := [("_law_row", 9)]) (N := ["_law_left_here", "_law_battle_here", "_law_side", "_law_stream", "_law_table_here", "_law_loose", "_law_drawn", "_law_tight", "_law_k", "_law_row", "_law_number"]) (sc := defScope s_l_tables) (by decide +kernel)) (fun _ _ _ _ _ => (pg_name (i := 9) sc_l_tables.nd rfl (Or.inl rfl))) (fun _ _ _ _ _ => pts_nil) (fun _ _ _ _ _ => (pe_lc (own := [("_law_number", 10)]) rfl sc_l_tables.nd (pi_listK K rfl (pv 9)) (blkOk_by (own := [("_law_number", 10)]) (N := ["_law_left_here", "_law_battle_here", "_law_side", "_law_stream", "_law_table_here", "_law_loose", "_law_drawn", "_law_tight", "_law_k", "_law_row", "_law_number"]) (sc := (Hf.relS { kind := PySem.ScopeKind.function, names := [ (PySem.Str.ofString ".0", PySem.NameKind.local), (PySem.Str.ofString "_law_row", PySem.NameKind.local), (PySem.Str.ofString "_law_left_here", PySem.NameKind.free)], isGenerator := false, isCoroutine := false, more := [] : PySem.Scope } (defScope s_l_tables))) (by decide +kernel)) (fun _ _ _ _ _ => (pg_name (i := 10) sc_l_tables.nd rfl (Or.inl rfl))) (fun _ _ _ _ _ => pts_nil) (fun _ _ _ _ _ => (pe_op op_sub (pe_call G_l_draw (hr.mono (by first | decide | omega)) (by rfl) T.g_l_draw T.F_l_draw.kp T.b_l_draw .nil pass0 (pa_cons (pv 0) (pa_cons pe_int pa_nil))) pe_int)))))
      (pss_cons (ps_setLc (i := 7) (own := [("_law_row", 9)]) rfl sc_l_tables.nd rfl rfl (sw_true rfl rfl rfl (by decide +kernel)) (pi_listK K rfl (pv 4)) (blkOk_by (own := [("_law_row", 9)]) (N := ["_law_left_here", "_law_battle_here", "_law_side", "_law_stream", "_law_table_here", "_law_loose", "_law_drawn", "_law_tight", "_law_k", "_law_row", "_law_number"]) (sc := defScope s_l_tables) (by decide +kernel)) (fun _ _ _ _ _ => (pg_name (i := 9) sc_l_tables.nd rfl (Or.inl rfl))) (fun _ _ _ _ _ => pts_nil) (fun _ _ _ _ _ => (pe_callTy (call_listK K rfl) (by rfl) T.z_list (by decide +kernel) (pa_cons (pv 9) pa_nil))))
      (pss_cons (ps_set (i := 8) sc_l_tables.nd rfl (Or.inl rfl) (pe_call G_l_draw (hr.mono (by first | decide | omega)) (by rfl) T.g_l_draw T.F_l_draw.kp T.b_l_draw .nil pass0 (pa_cons (pv 0) (pa_cons (pe_callB (call_lenK K rfl) (by rfl) T.z_len (by decide +kernel) (pa_cons (pv 7) pa_nil)) pa_nil))))
      (pss_cons (ps_augS (pe_ix (ix_listK K rfl) (pv 7) (pv 8) (fun _ _ => rfl)) (pe_call G_l_draw (hr.mono (by first | decide | omega)) (by rfl) T.g_l_draw T.F_l_draw.kp T.b_l_draw .nil pass0 (pa_cons (pv 0) (pa_cons (pe_callB (call_lenK K rfl) (by rfl) T.z_len (by decide +kernel) (pa_cons (pe_ix (ix_listK K rfl) (pv 7) (pv 8) (fun _ _ => rfl)) pa_nil)) pa_nil))) (get_listK K rfl) (pe_ix (ix_listK K rfl) (pe_lst (pa_cons pe_int (pa_cons (pe_un un_neg pe_int) pa_nil))) (pv 2) (fun _ _ => rfl)) ip_add set_list)
      (pss_one (ps_ret (pe_lst (pa_cons (pv 4) (pa_cons (pv 5) (pa_cons (pv 6) (pa_cons (pv 7) pa_nil))))))))))))), ?_⟩
  try dsimp only [L2.cxOf, L2.Cx.nox, L2.Cx.wish, List.map_cons, List.map_nil]
  obtain ⟨a, m, c, v, f, s, fs, sd, w, Ls, rfl, p0, p1, p2, p3, p4, p5, p6, p7, k⟩ := h
  refine start_to (σ := [some _, some _, some _, some _, none, none, none, none, none, none, none]) rfl ?_
  have dB := p2.same hid_same
  have dW := p5.same hid_same
  have hI : 0 ≤ sideI sd ∧ sideI sd < 2 := by cases sd <;> decide
  have hn := p3.ne
  have hwd : 1 ≤ (othS f s sd + 1).toNat ∧ (othS f s sd + 1).toNat ≤ 11 := by
    have h1 := p3.hf
    have h2 := p3.hs
    cases sd
    · show 1 ≤ (s + 1).toNat ∧ (s + 1).toNat ≤ 11
      omega
    · show 1 ≤ (f + 1).toNat ∧ (f + 1).toNat ≤ 11
      omega
  refine i_seq ?_
  walk_at "goS"
  rename_i T qs tb H1 g1 g2 g3 g4 g5
  have bw := p7 tb g2
  have rt := g2.rect
  generalize hm : (othS f s sd + 1).toNat = wd at *
  have Ta : T ≠ a := Pk.ne (m := m) g4 p0
  have qa : ∀ q ∈ qs, q ≠ a := fun q hq => Pk.ne (m := m) (g3 q hq) p0
  have own : Own2 (hid [a] H1) T qs tb := g1.hid (by simp [Ta]) (fun q hq => by simp [qa q hq])
  have ql : qs.length = fs.length := by rw [g1.len, rt.len]
  have rowq : ∀ {i : Nat} {x : V}, (qs.map V.ref)[i]? = some x → ∃ (q : Addr) (r : List Int), x = .ref q ∧ q ∈ qs ∧ H1 q = some (.lst (r.map V.int)) ∧ r.length = wd ∧ ∀ z ∈ r, Wd 200 z := fun {i x} hx => by
    rw [List.getElem?_map] at hx
    obtain ⟨q, e1, rfl⟩ := Option.map_eq_some_iff.mp hx
    have hi : i < tb.length := by rw [← g1.len]; exact (List.getElem?_eq_some_iff.mp e1).1
    have e2 : tb[i]? = some tb[i] := List.getElem?_eq_getElem hi
    exact ⟨q, tb[i], rfl, List.mem_of_getElem? e1, g1.row i q _ e1 e2, rt.rows _ (List.getElem_mem hi), bw _ (List.getElem_mem hi)⟩
  have k1 : Pk a m H1 c := p0.same g5
  have T1 := g1.top
  clear dB dW
  refine i_seq ?_
  walk_at "goS"
  intro D nD
  refine lcL_dk (α := List Int) planD (fun r => r.length = wd ∧ ∀ x ∈ r, Wd 220 x) 48 k1 nD (by rw [List.length_map]; omega) (SqL.of T1) Ta ?_ ?_
  · intro i x H2 Z Y hx hp hb hz
    obtain ⟨q, r, rfl, hq, e1, e2, e3⟩ := rowq hx
    have e1' := hb q _ (qa q hq) e1
    have i5 : i < 5 := by
      have := (List.getElem?_eq_some_iff.mp hx).1
      rw [List.length_map] at this
      omega
    walk_at "go"
    intro D2 nD2
    refine lcL_pk (fun z => Wd 220 z) 4 hp nD2 (by rw [List.length_map]; omega) (SqL.of e1') (qa q hq) ?_ ?_
    · intro j y H3 Z2 Y2 hy hp3 hb3 hz3
      obtain ⟨z, rfl, e4⟩ := ints_at hy
      have wz := e3 z (List.mem_of_getElem? e4)
      have j11 : j < 11 := by
        have := (List.getElem?_eq_some_iff.mp e4).1
        omega
      walk_at "go"
      rename_i b1 nb1 sg hsg d0 H4 u1 u2 u3
      refine hz3 _ _ ?_ u2 (by walk_at "g_but")
      unfold Wd at wz ⊢
      rcases hsg with rfl | rfl <;> omega
    · intro ms H3 h1 h2 h3 h4 h5
      rw [List.length_map] at h1 h4
      walk_at "go"
      exact hz ms (.ref D2) (fr [] H2 H3) H3 ⟨by omega, h2⟩ (row_mk (fr_lk0 nD2 h3)) fr_newly fr_same (h4.mono (by omega)) h5
  · intro ys G H2 h1 h2 h3 h4 h5 h6 h7
    rw [List.length_map] at h1 h6
    have t1 : TbOk (hid [a] H2) (.ref D) fs.length wd := ⟨ys, h3.same (same_hid1 h5 (h4.pk k1)), ⟨by omega, fun r hr => (h2 r hr).1⟩, fun r hr => (h2 r hr).2⟩
    have T2 := h7 T _ Ta T1
    have k2 : Pk a m H2 (c + 300) := h6.mono (by omega)
    clear h3 h4 h5 h6 nD
    walk_at "goS"
    refine i_seq ?_
    walk_at "goS"
    intro D' nD'
    refine lcL_dk (α := List Int) planD (fun r => r.length = wd ∧ ∀ x ∈ r, Wd 220 x) 48 k2 nD' (by rw [List.length_map]; omega) (SqL.of T2) Ta ?_ ?_
    · intro i x H3 Z Y hx hp hb hz
      obtain ⟨q, r, rfl, hq, e1, e2, e3⟩ := rowq hx
      have e1' := hb q _ (qa q hq) (h7 q _ (qa q hq) e1)
      have i5 : i < 5 := by
        have := (List.getElem?_eq_some_iff.mp hx).1
        rw [List.length_map] at this
        omega
      walk_at "go"
      intro D2 nD2
      refine lcL_pk (fun z => Wd 220 z) 4 hp nD2 (by rw [List.length_map]; omega) (SqL.of e1') (qa q hq) ?_ ?_
      · intro j y H4 Z2 Y2 hy hp3 hb3 hz3
        obtain ⟨z, rfl, e4⟩ := ints_at hy
        have j11 : j < 11 := by
          have := (List.getElem?_eq_some_iff.mp e4).1
          omega
        walk_at "go"
        rename_i d0 H5 u1 u2 u3
        refine hz3 _ _ ?_ u2 u3
        unfold Wd
        omega
      · intro ms H4 h1 h2 h3 h4 h5
        rw [List.length_map] at h1 h4
        walk_at "go"
        exact hz ms (.ref D2) (fr [] H3 H4) H4 ⟨by omega, h2⟩ (row_mk (fr_lk0 nD2 h3)) fr_newly fr_same (h4.mono (by omega)) h5
    · intro zs G' H3 j1 j2 j3 j4 j5 j6 j7
      rw [List.length_map] at j1 j6
      have t2' : TbOk (hid [a] H3) (.ref D') fs.length wd := ⟨zs, j3.same (same_hid1 j5 (j4.pk k2)), ⟨by omega, fun r hr => (j2 r hr).1⟩, fun r hr => (j2 r hr).2⟩
      have t1' := t1.same (hid_but (a := a) (by simp) j7)
      have T3 := j7 T _ Ta T2
      have k3 : Pk a m H3 (c + 600) := j6.mono (by omega)
      have b13 : But a H1 H3 := But.trans h7 j7
      clear j3 j4 j5 j6 nD' t1 T2 k2
      walk_at "goS"
      refine i_seq ?_
      walk_at "goS"
      intro D4 nD4
      refine lcL_2d (xs := qs.map V.ref) (fun i => (tb[i]?).getD []) nD4 (by rw [List.length_map]; omega) (SqL.of T3) ?_ ?_
      · intro i x H4 Z Y hx s4 hz
        obtain ⟨q, r, rfl, hq, e1, e2, e3⟩ := rowq hx
        have e1' := s4 _ _ (b13 q _ (qa q hq) e1)
        have er : (tb[i]?).getD [] = r := by
          rw [List.getElem?_map] at hx
          obtain ⟨q', e5, e6⟩ := Option.map_eq_some_iff.mp hx
          cases e6
          have hi : i < tb.length := by rw [← g1.len]; exact (List.getElem?_eq_some_iff.mp e5).1
          have e7 := g1.row i q _ e5 (List.getElem?_eq_getElem hi)
          rw [e1] at e7
          have e8 := HO.lst.inj (Option.some.inj e7)
          have inj : ∀ {a b : List Int}, a.map V.int = b.map V.int → a = b := fun h => (List.map_inj_right fun x y e => by injection e).mp h
          rw [List.getElem?_eq_getElem hi]
          exact (inj e8).symm
        rw [er] at hz
        walk_at "go"
        rename_i l nl
        exact hz l _ upd_same nl (by walk_at "g_same")
      · intro qs4 H4 own4 nw4 s4
        rw [List.length_map, ql] at own4
        have etb : (List.range fs.length).map (fun i => (tb[i]?).getD []) = tb := by
          rw [← rt.len]
          exact rng_get tb
        rw [etb] at own4
        have k4 : Pk a m H4 (c + 600) := k3.same s4
        have s3 := (hid_mono (S := [a]) s4)
        have d03 := (own.same (hid_but (a := a) (by simp) b13)).dq
        have nq0 : ∀ q ∈ qs4, H q = none := fun q hq => Pk.free (nw4 q hq) (But.trans (But.same g5) b13) k3
        have nq3 : ∀ q ∈ qs4, hid [a] H3 q = none := fun q hq => by
          have := nw4 q hq
          unfold hid
          split
          · rfl
          · exact this
        have D4a : D4 ≠ a := k3.ne' nD4
        have q4a : ∀ q ∈ qs4, q ≠ a := fun q hq => k3.ne' (nw4 q hq)
        have b14 : But a H1 H4 := But.transS s4 b13
        have b04 : But a H H4 := But.trans (But.same g5) b14
        have l4 : (qs4.map V.ref).length = fs.length := by rw [List.length_map, own4.len, rt.len]
        have top4 := own4.top
        clear own T1 T3 k1 k3 b13 h7 j7 nD4 s4 nw4 rowq
        walk_at "goS"
        have hb4 : 0 < (qs4.length : Int) ∧ (qs4.length : Int) < 2 ^ 200 := by
          rw [List.length_map] at l4
          omega
        have aq4 : a ∉ qs4 := fun z => q4a a z rfl
        refine i_seq ?_
        walk_at "goS"
        rename_i kk H5 u1 u2 u3
        have own5 := own4.but u3 D4a aq4
        have l4' : qs4.length = fs.length := by rw [List.length_map] at l4; exact l4
        obtain ⟨q', f1⟩ : ∃ q', qs4[kk.toNat]? = some q' := ⟨qs4[kk.toNat]'(by omega), List.getElem?_eq_getElem _⟩
        obtain ⟨r', f2, f3⟩ := rt.at (k := kk.toNat) (by omega)
        have f4 := own5.row kk.toNat q' r' f1 f2
        have f5 := own5.top
        have fq : q' ∈ qs4 := List.mem_of_getElem? f1
        have hat : atI (qs4.map V.ref) kk = some (.ref q') := by
          obtain ⟨x, z1, z2⟩ := at_lt (xs := qs4.map V.ref) (i := kk) (by omega) (by omega)
          rw [List.getElem?_map, f1] at z2
          cases z2
          exact z1
        have s35 := s3.trans (hid_but (a := a) (by simp) u3)
        have b05 : But a H H5 := But.trans b04 u3
        have hr : 0 < (r'.length : Int) ∧ (r'.length : Int) < 2 ^ 200 := by omega
        have q'a := q4a q' fq
        clear b04 b14 top4 u3 own4 k4 s3
        refine i_seq ?_
        walk_at "go"
        rename_i jj H6 v1 v2 v3 z0 hz0 B nB sg hsg L nL
        have s36 : Same (hid [a] H3) (hid [a] (upd H6 B (.lst [.int 1, .int (-1)]))) := (s35.trans (hid_but (a := a) (by simp) v3)).trans (hid_new nB)
        have sF := (hid_mut (o := .lst ((r'.set jj.toNat (z0 + sg)).map V.int)) s36 (nq3 q' fq)).trans (hid_new (p := L) (o := .lst [.ref T, .ref D, .ref D', .ref D4]) nL)
        have own6 := ((own5.but v3 D4a aq4).same (Same.new (o := .lst [.int 1, .int (-1)]) nB)).set f1 (r'.set jj.toNat (z0 + sg))
        have own7 := own6.same (Same.new (o := .lst [.ref T, .ref D, .ref D', .ref D4]) nL)
        have La : L ≠ a := Pk.ne (m := m) nL ((v2.new nB).upd q'a)
        refine k L (.ref T) (.ref D) (.ref D') (.ref D4) tb _ upd_same La (d03.same sF) g2 (t1'.same sF) (t2'.same sF) ⟨tb.set kk.toNat (r'.set jj.toNat (z0 + sg)), (own7.hid (by simp [D4a]) (fun q hq => by simp [q4a q hq])).dq, rt.set (by rw [List.length_set]; exact f3), fun r hr x hx => ?_⟩ (((((v2.new nB).upd q'a).new nL)).mono (by omega)) ?_
        · rcases List.mem_or_eq_of_mem_set hr with z | z
          · exact (bw r z x hx).mono (by decide)
          · rw [z] at hx
            rcases List.mem_or_eq_of_mem_set hx with y | y
            · exact (bw r' (List.mem_of_getElem? f2) x y).mono (by decide)
            · rw [y]
              have wz := bw r' (List.mem_of_getElem? f2) z0 (List.mem_of_getElem? hz0)
              unfold Wd at wz ⊢
              rcases hsg with rfl | rfl <;> omega
        · have q0 := nq0 q' fq
          exact But.newT nL (But.mut q0 (But.newT nB (But.trans b05 v3)))
/-- what a side's paper is -/
structure PapG (f s : Int) (fs : List Fld) (sd : Bool) (mx : List (List Int × Int)) (Ls : List (List Fl)) (tb : List (List Int)) : Prop where
  sok : SideOk2 (ownS f s sd) fs.length mx Ls
  best : BestT (duesV fs sd Ls (othS f s sd + 1).toNat) tb sd fs.length (othS f s sd + 1).toNat
def shT (f s : Int) (sd : Bool) (Ls : List (List Fl)) (tb : List (List Int)) : Int := ltop (t2 tb 0 (othS f s sd).toNat) (wholeF Ls)
def shB (f s : Int) (sd : Bool) (Ls : List (List Fl)) (tb : List (List Int)) : Int := lbot (t2 tb 0 (othS f s sd).toNat) (wholeF Ls)
theorem PapG.whole {f s : Int} {fs : List Fld} {sd : Bool} {mx : List (List Int × Int)} {Ls : List (List Fl)} {tb : List (List Int)} (g : PapG f s fs sd mx Ls tb) : 1 ≤ wholeF Ls ∧ wholeF Ls ≤ 500000000000000000000 := by
  rw [whole_weigh g.sok.pos g.sok.str g.sok.mix.fl.1]
  exact g.sok.whole
theorem PapG.wdt {f s : Int} {fs : List Fld} {sd : Bool} {mx : List (List Int × Int)} {Ls : List (List Fl)} {tb : List (List Int)} (g : PapG f s fs sd mx Ls tb) (h : ∀ x ∈ fs, FldSm x) (k : BatOk f s fs) : ∀ r ∈ tb, ∀ x ∈ r, Wd 200 x := by
  intro r hr x hx
  obtain ⟨i, hi⟩ := List.mem_iff_getElem?.mp hr
  obtain ⟨j, hj⟩ := List.mem_iff_getElem?.mp hx
  have hi' : i < fs.length := by rw [← g.best.rect.len]; exact (List.getElem?_eq_some_iff.mp hi).1
  have hj' : j < (othS f s sd + 1).toNat := by rw [← g.best.rect.rows r hr]; exact (List.getElem?_eq_some_iff.mp hj).1
  obtain ⟨r', e1, e2⟩ := g.best.rect.get hi' hj'
  rw [hi] at e1
  cases e1
  rw [hj] at e2
  cases e2
  have := k.ne
  exact (g.best.wd dues_rect (g.sok.due h sd _) i j hi' hj').mono (by omega)
theorem PapG.oth {f s : Int} {fs : List Fld} (sd : Bool) (k : BatOk f s fs) : 0 ≤ othS f s sd ∧ othS f s sd ≤ 10 ∧ 0 ≤ ownS f s sd ∧ ownS f s sd ≤ 10 := by
  have h1 := k.hf
  have h2 := k.hs
  cases sd
  · exact ⟨h2.1, h2.2, h1.1, h1.2⟩
  · exact ⟨h1.1, h1.2, h2.1, h2.2⟩
theorem PapG.wd0 {f s : Int} {fs : List Fld} {sd : Bool} {mx : List (List Int × Int)} {Ls : List (List Fl)} {tb : List (List Int)} (g : PapG f s fs sd mx Ls tb) (h : ∀ x ∈ fs, FldSm x) (k : BatOk f s fs) : Wd 200 (t2 tb 0 (othS f s sd).toNat) := by
  have o := PapG.oth sd k
  have := k.ne
  obtain ⟨r, e1, e2⟩ := g.best.rect.get (k := 0) (y := (othS f s sd).toNat) (by omega) (by omega)
  exact g.wdt h k r (List.mem_of_getElem? e1) _ (List.mem_of_getElem? e2)
theorem PapG.shape {f s : Int} {fs : List Fld} {sd : Bool} {mx : List (List Int × Int)} {Ls : List (List Fl)} {tb : List (List Int)} (g : PapG f s fs sd mx Ls tb) (h : ∀ x ∈ fs, FldSm x) (k : BatOk f s fs) : (papD Ls tb).canLay0 = true ∧ dep (papD Ls tb) ≤ 4 ∧ wid (papD Ls tb) ≤ 20 ∧ (papD Ls tb).showable = true := by
  have o := PapG.oth sd k
  have hn := k.ne
  refine ⟨lay_pap Ls tb, dep_pap Ls tb, wid_pap g.sok.wid (by rw [g.best.rect.len]; omega) (fun r hr => by rw [g.best.rect.rows r hr]; omega) (by decide), show_pap (fun L hL e he => ?_) (fun r hr x hx => (g.wdt h k r hr x hx).mono (by decide))⟩
  obtain ⟨a, b, c⟩ := g.sok.wds L hL e he
  exact ⟨a.mono (by decide), b.mono (by decide), c.mono (by decide)⟩
/-- what judged tells of it -/
theorem PapG.jud {f s : Int} {fs : List Fld} {sd : Bool} {mx : List (List Int × Int)} {Ls : List (List Fl)} {tb : List (List Int)} (g : PapG f s fs sd mx Ls tb) (k : BatOk f s fs) {top bot : Int} {r : PyData} (j : JudR f s fs sd top bot (papD Ls tb) r) :
    (ShortW sd top bot (wholeF Ls) (t2 tb 0 (othS f s sd).toNat) → r = wordD "worth") ∧ (¬ ShortW sd top bot (wholeF Ls) (t2 tb 0 (othS f s sd).toNat) → r = .none) := by
  have o := PapG.oth sd k
  have gs := g.sok.str.g g.sok.mix
  exact ⟨fun c => j.uniq o.1 (.worth Ls tb rfl gs g.best.rect g.best.fb c rfl), fun c => j.uniq o.1 (.good Ls tb rfl gs g.best.rect g.best.fb c rfl)⟩
theorem use_judged_ok {K : PySem.W.Frag} {e_NoBattle e_NoSide : Addr} {H : Hp} {Q : VK} {E : XK} {v : V} {f s : Int} {fs : List Fld} {sd : Bool} {t : Addr} {pv : V} {top bot : Int} {d : PyData} (p0 : Dq H v (batD f s fs)) (p1 : BatOk f s fs) (p2 : PayWd fs f s) (p3 : H t = some (.tup [.int top, .int bot])) (p4 : Wd 9000 top ∧ Wd 9000 bot) (p5 : Dq H pv d) (p6 : wid d ≤ 1000 ∧ d.showable = true)
    (k : ∀ (r : PyData) (u : V) (H' : Hp), JudR f s fs sd top bot d r → Dq H' u r → Same H H' → Q u H') : sp_judged K e_NoBattle e_NoSide [v, .str (sideS sd), .ref t, pv] H Q E := by
  have ok := bad_ok.mpr p1
  have hn := p1.ne
  refine use_judged (f := f) (s := s) (ds := fs.map fldD) (w := sideS sd) (wv := .ref t) (pv := pv) (top := top) (bot := bot) (d := d) p0 (bat_in p1) (by rw [List.length_map]; omega) (fun _ => ⟨fun gs e => ?_, ⟨t, rfl, p3⟩, p4, p5, p6.1, p6.2⟩) (fun _ r u H' a b c => k r u H' (a fs sd rfl rfl) b c) (fun z => absurd ⟨ok, side_ok sd⟩ z)
  rw [← (List.map_inj_right fun x y e => fldD_inj e).mp e]
  exact p2

theorem pap_shape {h : Int} {n : Nat} {mx : List (List Int × Int)} {Ls : List (List Fl)} {tb : List (List Int)} {w : Nat} (k : SideOk2 h n mx Ls) (hw : w ≤ 11) (r : Rect tb n w) (b : ∀ r ∈ tb, ∀ x ∈ r, Wd 220 x) : wid (papD Ls tb) ≤ 1000 ∧ (papD Ls tb).showable = true := by
  have hn := k.mix.fl
  refine ⟨Nat.le_trans (wid_pap (k := 20) k.wid (by rw [r.len]; omega) (fun r' hr => by rw [r.rows r' hr]; omega) (by decide)) (by decide), show_pap (fun L hL e he => ?_) (fun r' hr x hx => (b r' hr x hx).mono (by decide))⟩
  obtain ⟨a, b, c⟩ := k.wds L hL e he
  exact ⟨a.mono (by decide), b.mono (by decide), c.mono (by decide)⟩
/-- what a table that bounds shows is no more (less) than the best that a plan brings -/
theorem fb_best {f s : Int} {fs : List Fld} {sd : Bool} {mx : List (List Int × Int)} {Ls : List (List Fl)} {tb : List (List Int)} {z : Int} (k : BatOk f s fs) (g : SideOk2 (ownS f s sd) fs.length mx Ls) (fb : FB (badAt (duesV fs sd Ls (othS f s sd + 1).toNat) tb sd) fs.length (othS f s sd + 1).toNat none)
    (hz : ∃ q, PlanC (othS f s sd) fs.length q ∧ z = mixWay fs sd mx q) : if sd = true then z ≤ t2 tb 0 (othS f s sd).toNat else t2 tb 0 (othS f s sd).toNat ≤ z := by
  obtain ⟨q, hq, rfl⟩ := hz
  have o := PapG.oth sd k
  have w := FB.way fb dues_rect.len hq o.1 k.ne.1
  have e := way_mix (f := f) (s := s) (sd := sd) g.pos g.str hq
  rw [e] at w
  exact w
theorem best_eq {f s : Int} {fs : List Fld} {sd : Bool} {mx : List (List Int × Int)} {Ls : List (List Fl)} {tb : List (List Int)} {z : Int} (k : BatOk f s fs) (g : PapG f s fs sd mx Ls tb)
    (h1 : ∃ q, PlanC (othS f s sd) fs.length q ∧ z = mixWay fs sd mx q) (h2 : ∀ q, PlanC (othS f s sd) fs.length q → if sd = true then mixWay fs sd mx q ≤ z else z ≤ mixWay fs sd mx q) : t2 tb 0 (othS f s sd).toNat = z := by
  have a := fb_best k g.sok g.best.fb h1
  have o := PapG.oth sd k
  obtain ⟨q, hq, e⟩ := g.best.attain dues_rect.len o.1 k.ne.1
  rw [way_mix g.sok.pos g.sok.str hq] at e
  have b := h2 q hq
  rw [e] at b
  cases sd with
  | false =>
    have a' : t2 tb 0 (othS f s false).toNat ≤ z := a
    have b' : z ≤ t2 tb 0 (othS f s false).toNat := b
    omega
  | true =>
    have a' : z ≤ t2 tb 0 (othS f s true).toNat := a
    have b' : t2 tb 0 (othS f s true).toNat ≤ z := b
    omega
theorem low_wd {b : Nat} {x y : Int} (h : 0 < y) (hx : Wd b x) (hy : Wd b y) : Wd b (ltop x y) ∧ Wd b (lbot x y) :=
  ⟨Nat.lt_of_le_of_lt (ltop_le (by omega)) hx, Nat.lt_of_le_of_lt (lbot_le (by omega)) hy⟩
/-- where judged tells nothing -/
theorem no_better {f s : Int} {fs : List Fld} {sd : Bool} {mx : List (List Int × Int)} {Ls : List (List Fl)} {tb : List (List Int)} {z more W : Int} {r : PyData} (k : BatOk f s fs) (g : SideOk2 (ownS f s sd) fs.length mx Ls) (hW : W = wholeF Ls) (w0 : 0 < W)
    (h1 : ∃ q, PlanC (othS f s sd) fs.length q ∧ z = mixWay fs sd mx q) (j : JudR f s fs sd (ltop (z + more) W) (lbot (z + more) W) (papD Ls tb) r) : (r = .none ∧ (if sd = true then 0 ≤ more else more ≤ 0)) ∨ ∃ ds, r = .tuple ds := by
  have pi : ∀ {a b : PyData}, PyData.tuple [a, b] = papD Ls tb → a = strD Ls ∧ b = tabD tb := fun h => pair_inj h
  cases j with
  | paper h e => exact .inr ⟨_, e⟩
  | stream a b h c e => exact .inr ⟨_, e⟩
  | table a b h c c2 e => exact .inr ⟨_, e⟩
  | num Ls' tb' kk l h g' t w e => exact .inr ⟨_, e⟩
  | worth Ls' tb' h g' t w c e => exact .inr ⟨_, e⟩
  | good Ls' tb' h g' t w c e =>
    refine .inl ⟨e, ?_⟩
    obtain ⟨e1, e2⟩ := pi h.symm
    have e1 := strD_inj e1
    have e2 := tabD_inj e2
    subst e1
    subst e2
    have a := fb_best k g w h1
    have w1 : 0 < wholeF Ls' := by omega
    have l := low_lt (x := t2 tb' 0 (othS f s sd).toNat) (y := wholeF Ls') (u := z + more) (v := W) w1 w0
    rw [hW] at l c
    cases sd with
    | false =>
      have a' : t2 tb' 0 (othS f s false).toNat ≤ z := a
      have c' : ¬ t2 tb' 0 (othS f s false).toNat * lbot (z + more) (wholeF Ls') < ltop (z + more) (wholeF Ls') * wholeF Ls' := c
      rw [l.1] at c'
      have c2 : (z + more) * wholeF Ls' ≤ t2 tb' 0 (othS f s false).toNat * wholeF Ls' := by omega
      have c3 := Int.le_of_mul_le_mul_right c2 w1
      show more ≤ 0
      omega
    | true =>
      have a' : z ≤ t2 tb' 0 (othS f s true).toNat := a
      have c' : ¬ ltop (z + more) (wholeF Ls') * wholeF Ls' < t2 tb' 0 (othS f s true).toNat * lbot (z + more) (wholeF Ls') := c
      rw [l.2] at c'
      have c2 : t2 tb' 0 (othS f s true).toNat * wholeF Ls' ≤ (z + more) * wholeF Ls' := by omega
      have c3 := Int.le_of_mul_le_mul_right c2 w1
      show 0 ≤ more
      omega
def sp_law (K : PySem.W.Frag) : Sp := fun vs H Q E => ∃ (a : Addr) (ns : List Int), vs = [.ref a] ∧ (SqL K H a (ns.map V.int)) ∧ (ns.length ≤ 63) ∧ ∀ (H' : Hp), Q (.bl true) H'
theorem use_law {K : PySem.W.Frag} {H : Hp} {Q : VK} {E : XK} {a : Addr} {ns : List Int} (p0 : SqL K H a (ns.map V.int)) (p1 : ns.length ≤ 63) (k : ∀ (H' : Hp), Q (.bl true) H') : sp_law K [.ref a] H Q E := ⟨a, ns, rfl, p0, p1, k⟩
theorem len_law {K : PySem.W.Frag} (vs : List V) (H : Hp) (Q : VK) (E : XK) (h : sp_law K vs H Q E) : vs.length = ["_law_script"].length := by
  obtain ⟨_, _, rfl, _⟩ := h
  rfl
local macro_rules | `(tactic| walk_at "g_call") => `(tactic| ((with_reducible refine' use_law ?c0 ?c1 ?_); (case c0 => walk_at "g_pre"); (case c1 => walk_at "g_pre"); intros))
theorem ok_law (T : Txt K mg) : FnOk P w K mg base CX0 8 T.a_law T.d_law ["_law_script"] (sp_law K) := by
  have G_l_left := ok_l_left (P := P) (w := w) (base := base) T
  have G_l_battle := ok_l_battle (P := P) (w := w) (base := base) T
  have G_l_draw := ok_l_draw (P := P) (w := w) (base := base) T
  have G_l_flows := ok_l_flows (P := P) (w := w) (base := base) T
  have G_l_brought := ok_l_brought (P := P) (w := w) (base := base) T
  have G_l_tables := ok_l_tables (P := P) (w := w) (base := base) T
  have G_l_plan := ok_l_plan (P := P) (w := w) (base := base) T
  have G_judged := ok_judged (P := P) (w := w) (base := base) T
  have G_l_lowest := ok_l_lowest (P := P) (w := w) (base := base) T
  refine T.F_law.ok sc_law len_law (fun cdv A outer s H vs Q E hr h => ?_)
  refine ⟨_, (pss_cons (ps_for PassesOwn.never rfl (pi_listK K rfl (pe_op op_cat (pe_lst (pa_cons pe_int pa_nil)) (pe_slice (sl_listK K rfl) (pv 0) po_none (po_some pe_int)))) (pg_name (i := 1) sc_law.nd rfl (Or.inl rfl)) (pss_cons (ps_set (i := 2) sc_law.nd rfl (Or.inl rfl) (pe_call G_l_left (hr.mono (by first | decide | omega)) (by rfl) T.g_l_left T.F_l_left.kp T.b_l_left .nil pass0 (pa_cons (pe_lst (pa_cons (pv 1) pa_nil)) (pa_cons pe_int pa_nil))))
      (pss_cons (ps_set (i := 3) sc_law.nd rfl (Or.inl rfl) (pe_call G_l_battle (hr.mono (by first | decide | omega)) (by rfl) T.g_l_battle T.F_l_battle.kp T.b_l_battle .nil pass0 (pa_cons (pv 2) (pa_cons pe_int (pa_cons pe_int pa_nil)))))
      (pss_cons (ps_set (i := 4) sc_law.nd rfl (Or.inl rfl) (pe_call G_l_draw (hr.mono (by first | decide | omega)) (by rfl) T.g_l_draw T.F_l_draw.kp T.b_l_draw .nil pass0 (pa_cons (pv 2) (pa_cons pe_int pa_nil))))
      (pss_cons (ps_set (i := 5) sc_law.nd rfl (Or.inl rfl) (pe_lst pa_nil))
      (pss_cons (ps_for PassesOwn.never rfl (pi_range1 rfl T.z_range (pa_cons (pe_op op_add pe_int (pe_call G_l_draw (hr.mono (by first | decide | omega)) (by rfl) T.g_l_draw T.F_l_draw.kp T.b_l_draw .nil pass0 (pa_cons (pv 2) (pa_cons pe_int pa_nil)))) pa_nil)) (pg_name (i := 6) sc_law.nd rfl (Or.inl rfl)) (pss_cons (ps_set (i := 7) sc_law.nd rfl (Or.inl rfl) (pe_call G_l_plan (hr.mono (by first | decide | omega)) (by rfl) T.g_l_plan T.F_l_plan.kp T.b_l_plan .nil pass0 (pa_cons (pv 2) (pa_cons (pe_ix (ix_tupK K rfl) (pv 3) (pv 4) (fun _ _ => rfl)) (pa_cons (pe_callB (call_lenK K rfl) (by rfl) T.z_len (by decide +kernel) (pa_cons (pe_ix (ix_tupK K rfl) (pv 3) pe_int (fun _ _ => rfl)) pa_nil)) pa_nil)))))
      (pss_one (ps_expr (pe_bm PySem.F.plainAttrs_list PySem.F.slot_list_append PySem.F.type_list_append mt_append (pv 5) (pa_cons (pe_tup (pa_cons (pv 7) (pa_cons (pe_op op_add pe_int (pe_call G_l_draw (hr.mono (by first | decide | omega)) (by rfl) T.g_l_draw T.F_l_draw.kp T.b_l_draw .nil pass0 (pa_cons (pv 2) (pa_cons (pe_ix (ix_listK K rfl) (pe_lst (pa_cons pe_int (pa_cons pe_int (pa_cons (pe_op op_pow pe_int pe_int) pa_nil)))) (pe_call G_l_draw (hr.mono (by first | decide | omega)) (by rfl) T.g_l_draw T.F_l_draw.kp T.b_l_draw .nil pass0 (pa_cons (pv 2) (pa_cons pe_int pa_nil))) (fun _ _ => rfl)) pa_nil)))) pa_nil))) pa_nil))))))
      (pss_cons (ps_set (i := 8) sc_law.nd rfl (Or.inl rfl) (pe_call G_l_flows (hr.mono (by first | decide | omega)) (by rfl) T.g_l_flows T.F_l_flows.kp T.b_l_flows .nil pass0 (pa_cons (pv 5) pa_nil)))
      (pss_cons (ps_set (i := 9) sc_law.nd rfl (Or.inl rfl) (pe_callB (cr_sumK K rfl rfl) (by rfl) T.z_sum (by decide +kernel) (pa_cons (pe_lc (own := [("_law_plan_here", 7), ("_law_weight", 16)]) rfl sc_law.nd (pi_listK K rfl (pv 5)) (blkOk_by (own := [("_law_plan_here", 7), ("_law_weight", 16)]) (N := ["_law_script", "_law_cell", "_law_left_here", "_law_battle_here", "_law_side", "_law_mix_here", "_law_k", "_law_plan_here", "_law_stream", "_law_whole", "_law_best", "_law_tables_here", "_law_word", "_law_table_here", "_law_more", "_law_worth", "_law_weight"]) (sc := defScope s_law) (by decide +kernel)) (fun _ _ _ _ _ => (pg_tupK K rfl 2 rfl (pgs_cons (pg_name (i := 7) sc_law.nd rfl (Or.inl rfl)) (pgs_cons (pg_name (i := 16) sc_law.nd rfl (Or.inl rfl)) pgs_nil)))) (fun _ _ _ _ _ => pts_nil) (fun _ _ _ _ _ => (pv 16))) pa_nil)))
      (pss_cons (ps_set (i := 10) sc_law.nd rfl (Or.inl rfl) (pe_call G_l_brought (hr.mono (by first | decide | omega)) (by rfl) T.g_l_brought T.F_l_brought.kp T.b_l_brought .nil pass0 (pa_cons (pv 3) (pa_cons (pv 4) (pa_cons (pv 5) pa_nil)))))
      (pss_cons (ps_set (i := 11) sc_law.nd rfl (Or.inl rfl) (pe_call G_l_tables (hr.mono (by first | decide | omega)) (by rfl) T.g_l_tables T.F_l_tables.kp T.b_l_tables .nil pass0 (pa_cons (pv 2) (pa_cons (pv 3) (pa_cons (pv 4) (pa_cons (pv 8) pa_nil))))))
      (pss_cons (ps_set (i := 12) sc_law.nd rfl (Or.inl rfl) (pe_ix (ix_listK K rfl) (pe_lst (pa_cons pe_str (pa_cons pe_str pa_nil))) (pv 4) (fun _ _ => rfl)))
      (pss_cons (ps_if (pt_cmpR op_notN (pe_call G_judged (hr.mono (by first | decide | omega)) (by rfl) T.g_judged T.F_judged.kp T.b_judged .nil passL (pa_cons (pv 3) (pa_cons (pv 12) (pa_cons (pe_call G_l_lowest (hr.mono (by first | decide | omega)) (by rfl) T.g_l_lowest T.F_l_lowest.kp T.b_l_lowest .nil pass0 (pa_cons (pv 10) (pa_cons (pv 9) pa_nil))) (pa_cons (pe_tup (pa_cons (pv 8) (pa_cons (pe_ix (ix_listK K rfl) (pv 11) pe_int (fun _ _ => rfl)) pa_nil))) pa_nil))))) pe_non (nomark _)) (pss_one (ps_ret pe_bl)) pss_nil)
      (pss_one (ps_for PassesOwn.never rfl (pi_listK K rfl (pv 11)) (pg_name (i := 13) sc_law.nd rfl (Or.inl rfl)) (pss_one (ps_for PassesOwn.never rfl (pi_listK K rfl (pe_lst (pa_cons pe_int (pa_cons pe_int (pa_cons (pe_un un_neg pe_int) (pa_cons (pe_op op_sub (pe_ix (ix_listK K rfl) (pe_ix (ix_listK K rfl) (pv 13) pe_int (fun _ _ => rfl)) (pe_un un_neg pe_int) (fun _ _ => rfl)) (pv 10)) (pa_cons (pe_op op_sub (pe_call G_l_draw (hr.mono (by first | decide | omega)) (by rfl) T.g_l_draw T.F_l_draw.kp T.b_l_draw .nil pass0 (pa_cons (pv 2) (pa_cons pe_int pa_nil))) pe_int) pa_nil))))))) (pg_name (i := 14) sc_law.nd rfl (Or.inl rfl)) (pss_cons (ps_set (i := 15) sc_law.nd rfl (Or.inl rfl) (pe_call G_l_lowest (hr.mono (by first | decide | omega)) (by rfl) T.g_l_lowest T.F_l_lowest.kp T.b_l_lowest .nil pass0 (pa_cons (pe_op op_add (pv 10) (pv 14)) (pa_cons (pv 9) pa_nil))))
      (pss_one (ps_if (PW.pt (pw_and (pt_cmpR op_isN (pe_call G_judged (hr.mono (by first | decide | omega)) (by rfl) T.g_judged T.F_judged.kp T.b_judged .nil passL (pa_cons (pv 3) (pa_cons (pv 12) (pa_cons (pv 15) (pa_cons (pe_tup (pa_cons (pv 8) (pa_cons (pv 13) pa_nil))) pa_nil))))) pe_non (nomark _)) (pw_and1 (pt_cmpR op_lt (pe_ix (ix_listK K rfl) (pe_lst (pa_cons (pe_op op_sub pe_int (pv 14)) (pa_cons (pv 14) pa_nil))) (pv 4) (fun _ _ => rfl)) pe_int (nomark _))))) (pss_one (ps_ret pe_bl)) pss_nil)))))))))))))))))))
      (pss_one (ps_ret pe_bl))), ?_⟩
  try dsimp only [L2.cxOf, L2.Cx.nox, L2.Cx.wish, List.map_cons, List.map_nil]
  obtain ⟨a, ns, rfl, p0, p1, k⟩ := h
  refine start_to (σ := [some _, none, none, none, none, none, none, none, none, none, none, none, none, none, none, none, none]) rfl ?_
  walk_at "go"
  rename_i p1 hp1 p2 hp2 p3 hp3
  obtain ⟨ms, hms⟩ : ∃ ms : List Int, [V.int 0] ++ List.map V.int (List.take (Int.toNat 30) ns) = ms.map V.int := ⟨0 :: ns.take 30, rfl⟩
  rw [hms]
  refine forL (xs := ms.map V.int) (fun i σ H1 => ∃ y1 y2 y3 y4 y5 y6 y7 y8 y9 y10 y11 y12 y13 y14 y15 y16 : Option V, σ = [some (.ref a), y1, y2, y3, y4, y5, y6, y7, y8, y9, y10, y11, y12, y13, y14, y15, y16] ∧ H1 p3 = some (.lst (ms.map V.int))) ⟨_, _, _, _, _, _, _, _, _, _, _, _, _, _, _, _, rfl, upd_same⟩ ?_ ?_ ?_
  · rintro i σ H1 _ ⟨y1, y2, y3, y4, y5, y6, y7, y8, y9, y10, y11, y12, y13, y14, y15, y16, rfl, h⟩
    exact SqL.of h
  · rintro σ H1 ⟨y1, y2, y3, y4, y5, y6, y7, y8, y9, y10, y11, y12, y13, y14, y15, y16, rfl, h⟩
    walk_at "go"
    exact k _
  · rintro i x σ H1 hx ⟨y1, y2, y3, y4, y5, y6, y7, y8, y9, y10, y11, y12, y13, y14, y15, y16, rfl, h⟩
    obtain ⟨z, rfl, _⟩ := ints_at hx
    clear hp1 hp2 hp3 p0 p1 hms hx
    walk_at "goF"
    rename_i q1 n1 m pL H2 a1 a2 a3 v f s fs G H3 b1 b2 b3 b4 b5 b6 b7 b8 d1 H4 e1 e2 e3 M nM
    have hp3 : p3 ≠ pL := ne_of_none (lk_new n1 h) a3
    have j3 : H3 p3 = some (.lst (ms.map V.int)) := by walk_at "g_lk"
    have j4 := e3 p3 _ hp3 j3
    have dB3 : Dq (hid [pL] H3) v (batD f s fs) := b1.same (same_hid1 b6 (b5.pk a1))
    obtain ⟨bA, bp, xs, rfl, h1, h2, h3⟩ := bat_inv dB3
    have hl : (xs.length : Int) = fs.length := by rw [h3.len, List.length_map]
    have en : (xs.length : Int).toNat = fs.length := by omega
    have hfs := b2.ne
    have dB4 := dB3.same (hid_but (a := pL) (by simp) e3)
    have t1 := hid_but (a := pL) (S := [pL]) (by simp) e3 _ _ h1
    have t2h := hid_but (a := pL) (S := [pL]) (by simp) e3 _ _ h2
    have pM : M ≠ pL := by walk_at "g_ne"
    have p3M : p3 ≠ M := ne_of_none j4 nM
    have pw : PayWd fs f s := pay_wd b4
    obtain ⟨sd, hsd⟩ : ∃ sd : Bool, d1 = sideI sd := by
      rcases (by omega : d1 = 0 ∨ d1 = 1) with rfl | rfl
      · exact ⟨false, rfl⟩
      · exact ⟨true, rfl⟩
    subst hsd
    have oo := PapG.oth sd b2
    have hat : atI [V.int f, V.int s, V.ref bp] (sideI sd) = some (.int (ownS f s sd)) := by cases sd <;> rfl
    have k4 : Pk pL m H4 8010 := e2.mono (by omega)
    clear a1 a2 a3 b1 b5 b6 b7 b8 n1 h1 h2 h3 j3 h e2 e3 dB3
    walk_at "go"
    rename_i dd H5 c1 c2 c3
    have hM5 : H5 M = some (.lst []) := c3 M _ pM upd_same
    have s45 : Same (hid [pL] H4) (hid [pL, M] H5) := (hid_ext (S := [pL]) (X := [pL, M]) (Same.new (o := .lst []) nM) fun b hb => by
      simp only [List.mem_cons, List.not_mem_nil, or_false] at hb ⊢
      rcases hb with z | z
      · exact .inl z
      · rw [z]; exact .inr nM).trans (hid_but (by simp) c3)
    have j5 := c3 p3 _ hp3 (lk_new nM j4)
    have k5 : Pk pL m H5 8014 := c2.mono (by omega)
    clear c2 c3 nM j4 k4
    refine forR (fun i σ H => ∃ (mx : List (List Int × Int)) (ys : List V) (y6 y7 : Option V), σ = [some (.ref a), some (.int z), some (.ref pL), some (.ref bA), some (.int (sideI sd)), some (.ref M), y6, y7, y8, y9, y10, y11, y12, y13, y14, y15, y16] ∧ H M = some (.lst ys) ∧ DqAll (hid [pL, M] H) ys (mx.map partD) ∧ Pk pL m H (8014 + 120 * (i : Int)) ∧ mx.length = i ∧ (∀ pw ∈ mx, PlanC (ownS f s sd) fs.length pw.1 ∧ 1 ≤ pw.2 ∧ pw.2 ≤ 100000000000000000000) ∧ Same (hid [pL, M] H5) (hid [pL, M] H) ∧ H p3 = some (.lst (ms.map V.int))) ⟨[], [], _, _, rfl, hM5, .nil, k5.mono (by omega), rfl, nofun, Same.refl _, j5⟩ ?_ ?_
    · rintro σ H6 ⟨mx, ys, y6, y7, rfl, g1, g2, g3, g4, g5, g6, g7⟩
      clear hM5 k5 j5
      have less : Same (hid [pL, M] H6) (hid [pL] H6) := hid_less (by simp)
      have dM : Dq (hid [pL] H6) (.ref M) (mixD mx) := .lst (hid_lk (by simp [pM]) g1) (g2.same less)
      have dB6 := dB4.same (s45.trans (g6.trans less))
      have mg : MixG (ownS f s sd) fs.length mx := ⟨by omega, ⟨by omega, by omega⟩, ⟨by omega, by omega⟩, fun pw hp => ⟨(g5 pw hp).1, (g5 pw hp).2.1⟩⟩
      have m5 : mx.length ≤ 5 ∧ (∀ pw ∈ mx, pw.2 ≤ 100000000000000000000) := ⟨by omega, fun pw hp => (g5 pw hp).2.2⟩
      have ml : mx.length ≤ 1000 := by omega
      have dMr := dM.same hid_same
      have k6 : Pk pL m H6 9000 := g3.mono (by omega)
      clear t1 t2h dB4 s45 g1 g2 g3 g6 less
      refine i_seq ?_
      walk_at "goS"
      rename_i w S Ls H7 o1 o2 o3
      have sok : SideOk2 (ownS f s sd) fs.length mx Ls := ⟨o2, mg, m5.1, m5.2⟩
      have dw : Dq (hid [pL] H7) w (strD Ls) := o1.ow.hid (fun b xs hb e => by
        obtain ⟨_, _, z, _⟩ := k6.same o3
        rw [List.mem_singleton.mp hb, z] at e
        cases e) (fun b hb hb' => by
        obtain ⟨_, z⟩ := k6.some
        have := o1.nw b hb
        rw [List.mem_singleton.mp hb', z] at this
        cases this)
      have dM7 := dM.same (hid_mono o3)
      have dB7 := dB6.same (hid_mono o3)
      have k7 := k6.same o3
      have j7 := o3 _ _ g7
      obtain ⟨am, xm, eM, m1, m2, m3⟩ := mix_inv (dM7.same hid_same)
      cases eM
      clear o1 o2 o3 dM dB6 k6 g7 dMr
      refine i_seq ?_
      walk_at "goS"
      intro D nD
      refine lcL_int (xs := xm) (fun t => ((mx[t]?).map Prod.snd).getD 0) nD (by omega) (SqL.of m1) ?_ ?_
      · intro t x9 H8 Z Y hx9 s8 hz
        obtain ⟨pw, tt, pp, r1, rfl, r4, r5⟩ := m3 t x9 hx9
        have r4' := s8 _ _ r4
        walk_at "go"
        have := hz H8 (Same.refl _)
        rw [r1] at this
        exact this
      · intro H8 s8 hD
        rw [m2, rng_map _ Prod.snd mx (fun i x e => by rw [e]; rfl)] at hD
        have dw8 := dw.same (hid_mono s8)
        have dM8 := dM7.same (hid_mono s8)
        have dB8 := dB7.same (hid_mono s8)
        have k8 := k7.same s8
        have j8 := s8 _ _ j7
        have dMr := dM8.same hid_same
        have dBr := dB8.same hid_same
        clear m1 m3 dw dM7 dB7 k7 j7 s8 nD
        walk_at "goS"
        rw [show (mx.map Prod.snd).sum = wholeF Ls from (whole_weigh sok.pos sok.str mg.fl.1).symm]
        have hW := sok.whole
        rw [← whole_weigh sok.pos sok.str mg.fl.1] at hW
        refine i_seq ?_
        walk_at "goS"
        rename_i best H9 u1 u2 s9
        have dw9 := dw8.same (hid_mono s9)
        have dB9 := dB8.same (hid_mono s9)
        have k9 := k8.same s9
        have j9 := s9 _ _ j8
        have ss := sok.s
        have wdt : ∀ tb, BestT (duesV fs sd Ls (othS f s sd + 1).toNat) tb sd fs.length (othS f s sd + 1).toNat → ∀ r ∈ tb, ∀ x ∈ r, Wd 200 x := fun tb bt => PapG.wdt ⟨sok, bt⟩ b4 b2
        clear dw8 dM8 dB8 k8 j8 dMr dBr hD s9
        refine i_seq ?_
        walk_at "goS"
        rename_i L T0 v1 v2 v3 tb H10 x1 x2 x3 x4 x5 x6 x7 x8 x9
        have pg : PapG f s fs sd mx Ls tb := ⟨sok, x4⟩
        have tz := best_eq b2 pg u1 u2
        have bw : Wd 200 best := by rw [← tz]; exact pg.wd0 b4 b2
        have Ww : Wd 200 (wholeF Ls) := by
          unfold Wd
          omega
        have W0 : 0 < wholeF Ls := by omega
        have dw10 := dw9.same (hid_but (a := pL) (by simp) x9)
        have dB10 := dB9.same (hid_but (a := pL) (by simp) x9)
        have j10 := x9 p3 _ hp3 j9
        have hw0 : atI [V.str (PySem.Str.ofString "first"), V.str (PySem.Str.ofString "second")] (sideI sd) = some (.str (sideS sd)) := by cases sd <;> rfl
        have wb : best.natAbs < 2 ^ 400 ∧ (wholeF Ls).natAbs < 2 ^ 400 := ⟨Wd.mono (a := 200) (b := 400) bw (by decide), Wd.mono (a := 200) (b := 400) Ww (by decide)⟩
        have k10 : Pk pL m H10 10000 := x8.mono (by omega)
        have hw11 : (othS f s sd + 1).toNat ≤ 11 := by omega
        have all : ∀ (i : Nat) (x : V), [T0, v1, v2, v3][i]? = some x → TbOk (hid [pL] H10) x fs.length (othS f s sd + 1).toNat := fun i x hx => by
          match i, hx with
          | 0, hx => cases hx; exact ⟨tb, x3, x4.rect, fun r hr x hx => (wdt tb x4 r hr x hx).mono (by decide)⟩
          | 1, hx => cases hx; exact x5
          | 2, hx => cases hx; exact x6
          | 3, hx => cases hx; exact x7
          | i + 4, hx => simp at hx
        have dT0 := x3.same hid_same
        clear dw9 dB9 k9 j9 x3 x5 x6 x7 x8 x9
        refine i_seq ?_
        walk_at "goS"
        refine i_seq ?_
        walk_at "goS"
        rename_i fw nfw wt nwt pt npt
        have sX : Same H10 (L2.upd (L2.upd (L2.upd H10 fw (.lst [.str (PySem.Str.ofString "first"), .str (PySem.Str.ofString "second")])) wt (.tup [.int (ltop best (wholeF Ls)), .int (lbot best (wholeF Ls))])) pt (.tup [w, T0])) := by walk_at "g_same"
        obtain ⟨lw1, lw2⟩ := low_wd W0 bw Ww
        refine use_judged_ok ((dB10.same hid_same).same sX) b2 pw (lk_new npt upd_same) ⟨lw1.mono (by decide), lw2.mono (by decide)⟩ (.tup upd_same (.cons ((dw10.same hid_same).same sX) (.cons (dT0.same sX) .nil))) (pap_shape sok hw11 x4.rect fun r hr x hx => (wdt tb x4 r hr x hx).mono (by decide)) fun r u H11 jr du s11 => ?_
        obtain rfl := (pg.jud b2 jr).2 (by
          have e := low_cross (x := best) W0
          rw [tz]
          unfold ShortW
          rw [e]
          cases sd <;> simp)
        cases du
        have s1011 := sX.trans s11
        have sH := hid_mono (S := [pL]) s1011
        have k11 := k10.same s1011
        have j11 := s1011 _ _ j10
        have L11 := s1011 _ _ x1
        have dB11 := dB10.same sH
        have dw11 := dw10.same sH
        clear dw10 dB10 dT0 nfw nwt npt s11 sX k10 j10 x1 jr
        walk_at "goS"
        walk_at "go"
        refine forL (xs := [T0, v1, v2, v3]) (fun i σ H => ∃ (y13 y14 y15 : Option V), σ = [some (.ref a), some (.int z), some (.ref pL), some (.ref bA), some (.int (sideI sd)), some (.ref M), y6, y7, some w, some (.int (wholeF Ls)), some (.int best), some (.ref L), some (.str (sideS sd)), y13, y14, y15, y16] ∧ Pk pL m H (10000 + 10 * (i : Int)) ∧ Same (hid [pL] H11) (hid [pL] H) ∧ H p3 = some (.lst (ms.map V.int)) ∧ H L = some (.lst [T0, v1, v2, v3])) ⟨_, _, _, rfl, k11.mono (by omega), Same.refl _, j11, L11⟩ ?_ ?_ ?_
        · rintro i σ H12 _ ⟨y13, y14, y15, rfl, r1, r2, r3, r4⟩
          exact SqL.of r4
        · rintro σ H12 ⟨y13, y14, y15, rfl, r1, r2, r3, r4⟩
          walk_at "go"
          exact ⟨_, _, _, _, _, _, _, _, _, _, _, _, _, _, _, _, rfl, r3⟩
        · rintro i x σ H12 hx ⟨y13, y14, y15, rfl, r1, r2, r3, r4⟩
          have i4 : i < 4 := (List.getElem?_eq_some_iff.mp hx).1
          obtain ⟨tb', d1, rt, wt'⟩ := all i x hx
          have d2 := (d1.same (sH.trans r2))
          obtain ⟨qT, ysT, rfl, v1', v2'⟩ := tab_inv (d2.same hid_same)
          obtain ⟨r0, m0, f1, f2, f3, f4⟩ := tab_at (k := 0) v2' rt (by omega)
          have hat0 : atI ysT 0 = some (.ref r0) := atI_nat f1
          have m0l : 0 < m0.length := by omega
          have qTp : qT ≠ pL := by
            obtain ⟨_, _, e, g1, _⟩ := tab_inv d2
            cases e
            exact ne_hid g1
          clear all
          walk_at "goF"
          walk_at "go"
          rename_i lz hlz d9 H13 w1 w2 w3 N nN
          have z220 : Wd 220 lz := by
            obtain ⟨r', g1, g2⟩ := rt.get (k := 0) (y := m0.length - 1) (by omega) (by omega)
            rw [f4 _ (by omega)] at hlz
            cases hlz
            exact wt' r' (List.mem_of_getElem? g1) _ (List.mem_of_getElem? g2)
          have Np : N ≠ pL := w2.ne' nN
          have sN : Same (hid [pL] H12) (hid [pL] (L2.upd H13 N (.lst [.int 0, .int 1, .int (-1), .int (lz - best), .int (d9 - 20)]))) := (hid_but (by simp) w3).trans (hid_new nN)
          have s1114 := r2.trans sN
          have dB14 := (dB11.same s1114).same hid_same
          have dw14 := (dw11.same s1114).same hid_same
          have dT14 := (d2.same sN).same hid_same
          have j14 : L2.upd H13 N (.lst [.int 0, .int 1, .int (-1), .int (lz - best), .int (d9 - 20)]) p3 = some (.lst (ms.map V.int)) := lk_new nN (w3 p3 _ hp3 r3)
          have L14 : L2.upd H13 N (.lst [.int 0, .int 1, .int (-1), .int (lz - best), .int (d9 - 20)]) L = some (.lst [T0, v1, v2, v3]) := lk_new nN (w3 L _ x2 r4)
          have N14 : L2.upd H13 N (.lst [.int 0, .int 1, .int (-1), .int (lz - best), .int (d9 - 20)]) N = some (.lst ([(0 : Int), 1, -1, lz - best, d9 - 20].map V.int)) := upd_same
          have k14 : Pk pL m (L2.upd H13 N (.lst [.int 0, .int 1, .int (-1), .int (lz - best), .int (d9 - 20)])) (10000 + 10 * ((i + 1 : Nat) : Int)) := (w2.new nN).mono (by omega)
          have psh := pap_shape sok hw11 rt wt'
          have mo : ∀ x ∈ [(0 : Int), 1, -1, lz - best, d9 - 20], Wd 222 x := fun x hx => by
            unfold Wd at z220 bw ⊢
            simp only [List.mem_cons, List.not_mem_nil, or_false] at hx
            rcases hx with rfl | rfl | rfl | rfl | rfl <;> omega
          generalize L2.upd H13 N (.lst [.int 0, .int 1, .int (-1), .int (lz - best), .int (d9 - 20)]) = H14 at *
          generalize [(0 : Int), 1, -1, lz - best, d9 - 20] = mores at *
          clear sN d1 d2 v1' v2' f1 f2 r1 r2 r3 r4 w1 w2 w3 nN hlz dB11 dw11 k11 j11 L11 hx
          refine forL (xs := mores.map V.int) (fun t σ H => ∃ (y14 y15 : Option V), σ = [some (.ref a), some (.int z), some (.ref pL), some (.ref bA), some (.int (sideI sd)), some (.ref M), y6, y7, some w, some (.int (wholeF Ls)), some (.int best), some (.ref L), some (.str (sideS sd)), some (.ref qT), y14, y15, y16] ∧ Same H14 H) ⟨_, _, rfl, Same.refl _⟩ ?_ ?_ ?_
          · rintro t σ H15 _ ⟨y14, y15, rfl, s15⟩
            exact SqL.of (s15 _ _ N14)
          · rintro σ H15 ⟨y14, y15, rfl, s15⟩
            exact ⟨_, _, _, rfl, k14.same s15, s1114.trans (hid_mono s15), s15 _ _ j14, s15 _ _ L14⟩
          · rintro t x σ H15 hx ⟨y14, y15, rfl, s15⟩
            obtain ⟨more, rfl, e9⟩ := ints_at hx
            have wm := mo more (List.mem_of_getElem? e9)
            have wbm : Wd 230 (best + more) := by
              unfold Wd at bw wm ⊢
              omega
            have wb2 : (best + more).natAbs < 2 ^ 400 ∧ (wholeF Ls).natAbs < 2 ^ 400 := ⟨Wd.mono (a := 230) (b := 400) wbm (by decide), wb.2⟩
            obtain ⟨l1, l2⟩ := low_wd W0 wbm (Ww.mono (by decide))
            have hatm : atI [V.int (0 - more), V.int more] (sideI sd) = some (.int (if sd = true then more else 0 - more)) := by cases sd <;> rfl
            walk_at "goS"
            refine i_seq ?_
            walk_at "goS"
            rename_i pw' npw wt nwt
            have sX : Same H15 (L2.upd (L2.upd H15 pw' (.tup [.int (ltop (best + more) (wholeF Ls)), .int (lbot (best + more) (wholeF Ls))])) wt (.tup [w, .ref qT])) := by walk_at "g_same"
            have sX4 := s15.trans sX
            refine use_judged_ok (dB14.same sX4) b2 pw (lk_new nwt upd_same) ⟨l1.mono (by decide), l2.mono (by decide)⟩ (.tup upd_same (.cons (dw14.same sX4) (.cons (dT14.same sX4) .nil))) psh fun r u H16 jr du s16 => ?_
            have s1416 := sX4.trans s16
            rcases no_better b2 sok rfl W0 u1 jr with ⟨rfl, c9⟩ | ⟨ds, rfl⟩
            · cases du
              walk_at "go"
              refine ite_n (decide_eq_false (by cases sd <;> simp at c9 ⊢ <;> omega)) ?_
              walk_at "go"
              exact ⟨_, _, rfl, by walk_at "g_same"⟩
            · obtain ⟨ua, uxs, rfl, _, _⟩ := du.tuple_inv
              walk_at "go"
              exact ⟨_, _, rfl, s1416⟩
    · rintro i σ H6 hi ⟨mx, ys, y6, y7, rfl, g1, g2, g3, g4, g5, g6, g7⟩
      have tb6 : H6 bA = some (.tup [.int f, .int s, .ref bp]) := hid_same _ _ (g6 _ _ (s45 _ _ t1))
      have tp6 : H6 bp = some (.lst xs) := hid_same _ _ (g6 _ _ (s45 _ _ t2h))
      have i3 : i < 3 := by omega
      have yl : ys.length ≤ 10 := by rw [g2.len, List.length_map]; omega
      clear hM5 k5 j5 t1 t2h dB4
      walk_at "go"
      rename_i B ps H7 u1 u2 u3 u4 u5 R nR d2 H8 u6 u7 u8 w hw d3 H9 u9 u10 u11 T nT
      have hwt : 1 ≤ 1 + d3 ∧ 1 + d3 ≤ 100000000000000000000 := by
        rcases hw with z | z | z <;> omega
      rw [en] at u5
      have B1 : B ≠ pL := g3.ne' u4
      have B2 : B ≠ M := ne_new' u4 g1
      have b69 : But pL H6 H9 := by walk_at "g_but"
      have M9 := b69 M _ pM g1
      have B9 : H9 B = some (.lst (ps.map V.int)) := u11 B _ B1 (u8 B _ B1 (lk_new nR u1))
      have T1 : T ≠ pL := u10.ne' nT
      have T2 : T ≠ M := ne_new' nT M9
      have sX : Same (hid [pL, M] H6) (hid [pL, M] (upd (upd H9 T (.tup [.ref B, .int (1 + d3)])) M (.lst (ys ++ [.ref T])))) := ((hid_but (by simp) b69).trans (hid_new nT)).trans (hid_upd (by simp))
      refine ⟨mx ++ [(ps, 1 + d3)], ys ++ [.ref T], _, _, rfl, upd_same, ?_, ((u10.new nT).upd pM).mono (by omega), by rw [List.length_append, g4]; rfl, fun pw hp => ?_, g6.trans sX, lk_upd p3M (lk_new nT (b69 p3 _ hp3 g7))⟩
      · rw [List.map_append]
        refine DqAll.snoc (g2.same sX) (part_mk (hid_lk (by simp [T1, T2]) (lk_upd T2 upd_same)) (hid_lk (by simp [B1, B2]) (lk_upd B2 (lk_new nT B9))))
      · rcases List.mem_append.mp hp with g | g
        · exact g5 pw g
        · rw [List.mem_singleton.mp g]
          exact ⟨u5, hwt⟩
end
theorem mk_txt {K : PySem.W.Frag} {h : Heap} {mg : Str → Option Value} {f_NoBattle_init : Addr} {o_NoBattle_init n_NoBattle_init : Option Addr} {w_NoBattle_init : Array (Option Value)} {q1_NoBattle_init q2_NoBattle_init q3_NoBattle_init q4_NoBattle_init q5_NoBattle_init q6_NoBattle_init : Value} {f_is_number : Addr} {o_is_number n_is_number : Option Addr} {w_is_number : Array (Option Value)} {q1_is_number q2_is_number q3_is_number q4_is_number q5_is_number q6_is_number : Value} {f_are_numbers : Addr} {o_are_numbers n_are_numbers : Option Addr} {w_are_numbers : Array (Option Value)} {q1_are_numbers q2_are_numbers q3_are_numbers q4_are_numbers q5_are_numbers q6_are_numbers : Value} {f_is_rule : Addr} {o_is_rule n_is_rule : Option Addr} {w_is_rule : Array (Option Value)} {q1_is_rule q2_is_rule q3_is_rule q4_is_rule q5_is_rule q6_is_rule : Value} {f_is_field : Addr} {o_is_field n_is_field : Option Addr} {w_is_field : Array (Option Value)} {q1_is_field q2_is_field q3_is_field q4_is_field q5_is_field q6_is_field : Value} {f_look_battle : Addr} {o_look_battle n_look_battle : Option Addr} {w_look_battle : Array (Option Value)} {q1_look_battle q2_look_battle q3_look_battle q4_look_battle q5_look_battle q6_look_battle : Value} {f_paid : Addr} {o_paid n_paid : Option Addr} {w_paid : Array (Option Value)} {q1_paid q2_paid q3_paid q4_paid q5_paid q6_paid : Value} {f_is_plan : Addr} {o_is_plan n_is_plan : Option Addr} {w_is_plan : Array (Option Value)} {q1_is_plan q2_is_plan q3_is_plan q4_is_plan q5_is_plan q6_is_plan : Value} {f_won : Addr} {o_won n_won : Option Addr} {w_won : Array (Option Value)} {q1_won q2_won q3_won q4_won q5_won q6_won : Value} {f_gain : Addr} {o_gain n_gain : Option Addr} {w_gain : Array (Option Value)} {q1_gain q2_gain q3_gain q4_gain q5_gain q6_gain : Value} {f_is_row : Addr} {o_is_row n_is_row : Option Addr} {w_is_row : Array (Option Value)} {q1_is_row q2_is_row q3_is_row q4_is_row q5_is_row q6_is_row : Value} {f_is_stream : Addr} {o_is_stream n_is_stream : Option Addr} {w_is_stream : Array (Option Value)} {q1_is_stream q2_is_stream q3_is_stream q4_is_stream q5_is_stream q6_is_stream : Value} {f_must_be_side : Addr} {o_must_be_side n_must_be_side : Option Addr} {w_must_be_side : Array (Option Value)} {q1_must_be_side q2_must_be_side q3_must_be_side q4_must_be_side q5_must_be_side q6_must_be_side : Value} {f_dues : Addr} {o_dues n_dues : Option Addr} {w_dues : Array (Option Value)} {q1_dues q2_dues q3_dues q4_dues q5_dues q6_dues : Value} {f_goings_on : Addr} {o_goings_on n_goings_on : Option Addr} {w_goings_on : Array (Option Value)} {q1_goings_on q2_goings_on q3_goings_on q4_goings_on q5_goings_on q6_goings_on : Value} {f_is_table : Addr} {o_is_table n_is_table : Option Addr} {w_is_table : Array (Option Value)} {q1_is_table q2_is_table q3_is_table q4_is_table q5_is_table q6_is_table : Value} {f_wrong_number : Addr} {o_wrong_number n_wrong_number : Option Addr} {w_wrong_number : Array (Option Value)} {q1_wrong_number q2_wrong_number q3_wrong_number q4_wrong_number q5_wrong_number q6_wrong_number : Value} {f_judged : Addr} {o_judged n_judged : Option Addr} {w_judged : Array (Option Value)} {q1_judged q2_judged q3_judged q4_judged q5_judged q6_judged : Value} {f_l_mix : Addr} {o_l_mix n_l_mix : Option Addr} {w_l_mix : Array (Option Value)} {q1_l_mix q2_l_mix q3_l_mix q4_l_mix q5_l_mix q6_l_mix : Value} {f_l_cell_at : Addr} {o_l_cell_at n_l_cell_at : Option Addr} {w_l_cell_at : Array (Option Value)} {q1_l_cell_at q2_l_cell_at q3_l_cell_at q4_l_cell_at q5_l_cell_at q6_l_cell_at : Value} {f_l_left : Addr} {o_l_left n_l_left : Option Addr} {w_l_left : Array (Option Value)} {q1_l_left q2_l_left q3_l_left q4_l_left q5_l_left q6_l_left : Value} {f_l_draw : Addr} {o_l_draw n_l_draw : Option Addr} {w_l_draw : Array (Option Value)} {q1_l_draw q2_l_draw q3_l_draw q4_l_draw q5_l_draw q6_l_draw : Value} {f_l_some : Addr} {o_l_some n_l_some : Option Addr} {w_l_some : Array (Option Value)} {q1_l_some q2_l_some q3_l_some q4_l_some q5_l_some q6_l_some : Value} {f_l_rule : Addr} {o_l_rule n_l_rule : Option Addr} {w_l_rule : Array (Option Value)} {q1_l_rule q2_l_rule q3_l_rule q4_l_rule q5_l_rule q6_l_rule : Value} {f_l_battle : Addr} {o_l_battle n_l_battle : Option Addr} {w_l_battle : Array (Option Value)} {q1_l_battle q2_l_battle q3_l_battle q4_l_battle q5_l_battle q6_l_battle : Value} {f_l_paid : Addr} {o_l_paid n_l_paid : Option Addr} {w_l_paid : Array (Option Value)} {q1_l_paid q2_l_paid q3_l_paid q4_l_paid q5_l_paid q6_l_paid : Value} {f_l_plan : Addr} {o_l_plan n_l_plan : Option Addr} {w_l_plan : Array (Option Value)} {q1_l_plan q2_l_plan q3_l_plan q4_l_plan q5_l_plan q6_l_plan : Value} {f_l_flows : Addr} {o_l_flows n_l_flows : Option Addr} {w_l_flows : Array (Option Value)} {q1_l_flows q2_l_flows q3_l_flows q4_l_flows q5_l_flows q6_l_flows : Value} {f_l_lowest : Addr} {o_l_lowest n_l_lowest : Option Addr} {w_l_lowest : Array (Option Value)} {q1_l_lowest q2_l_lowest q3_l_lowest q4_l_lowest q5_l_lowest q6_l_lowest : Value} {f_l_dues : Addr} {o_l_dues n_l_dues : Option Addr} {w_l_dues : Array (Option Value)} {q1_l_dues q2_l_dues q3_l_dues q4_l_dues q5_l_dues q6_l_dues : Value} {f_l_comes : Addr} {o_l_comes n_l_comes : Option Addr} {w_l_comes : Array (Option Value)} {q1_l_comes q2_l_comes q3_l_comes q4_l_comes q5_l_comes q6_l_comes : Value} {f_l_table : Addr} {o_l_table n_l_table : Option Addr} {w_l_table : Array (Option Value)} {q1_l_table q2_l_table q3_l_table q4_l_table q5_l_table q6_l_table : Value} {f_l_all_plans : Addr} {o_l_all_plans n_l_all_plans : Option Addr} {w_l_all_plans : Array (Option Value)} {q1_l_all_plans q2_l_all_plans q3_l_all_plans q4_l_all_plans q5_l_all_plans q6_l_all_plans : Value} {f_l_brought : Addr} {o_l_brought n_l_brought : Option Addr} {w_l_brought : Array (Option Value)} {q1_l_brought q2_l_brought q3_l_brought q4_l_brought q5_l_brought q6_l_brought : Value} {f_l_tables : Addr} {o_l_tables n_l_tables : Option Addr} {w_l_tables : Array (Option Value)} {q1_l_tables q2_l_tables q3_l_tables q4_l_tables q5_l_tables q6_l_tables : Value} {f_law : Addr} {o_law n_law : Option Addr} {w_law : Array (Option Value)} {q1_law q2_law q3_law q4_law q5_law q6_law : Value} {t_MOST_HOSTS : Tok} {t_MOST_FIELDS : Tok} {e_SIDES : Addr} {j0_SIDES : Nat} {j1_SIDES : Array (Option Value)} {tk0_SIDES : Tok} {tk1_SIDES : Tok} {e_HostError : Addr} {e_NoBattle : Addr} {e_NoPlan : Addr} {e_NoSide : Addr} {xn_NoBattle xq_NoBattle : Str} {xN_NoBattle : Addr} {xb_NoBattle : List Value} {xs_NoBattle : List Str} {xu_NoBattle : List Value} {xa_NoBattle : Bool} {xc_NoBattle : Option Bool} {xd_NoBattle : Option Addr} {x0_NoBattle x1_NoBattle x2_NoBattle x3_NoBattle x5_NoBattle : Option Value} (X : K.In h) (G : h.Ns mainGlobals mg)
    (h_HostError : PySem.W.nsIn K mainGlobals "HostError" = some (some (.ref e_HostError)))
    (h_NoBattle : PySem.W.nsIn K mainGlobals "NoBattle" = some (some (.ref e_NoBattle)))
    (h_NoPlan : PySem.W.nsIn K mainGlobals "NoPlan" = some (some (.ref e_NoPlan)))
    (h_NoSide : PySem.W.nsIn K mainGlobals "NoSide" = some (some (.ref e_NoSide)))
    (ic_NoBattle : PySem.W.findIn K (.ref e_NoBattle) "__init__" = some (some (.ref f_NoBattle_init)))
    (l_NoBattle_init : K.lookup f_NoBattle_init = some ⟨q1_NoBattle_init, o_NoBattle_init, .func (PySem.W.fnOf "__init__" "NoBattle.__init__" (defArgs s_NoBattle_init) (defBody s_NoBattle_init) (defScope s_NoBattle_init) .none q2_NoBattle_init q3_NoBattle_init q4_NoBattle_init n_NoBattle_init q5_NoBattle_init q6_NoBattle_init), w_NoBattle_init⟩)
    (c_NoBattle_init : PySem.W.codeIn K q5_NoBattle_init "NoBattle.__init__" = true)
    (k_NoBattle_init : PySem.W.keepIn K (.ref f_NoBattle_init) = true)
    (a_is_number : PySem.W.nsIn K mainGlobals "is_number" = some (some (.ref f_is_number)))
    (l_is_number : K.lookup f_is_number = some ⟨q1_is_number, o_is_number, .func (PySem.W.fnOf "is_number" "is_number" (defArgs s_is_number) (defBody s_is_number) (defScope s_is_number) .none q2_is_number q3_is_number q4_is_number n_is_number q5_is_number q6_is_number), w_is_number⟩)
    (c_is_number : PySem.W.codeIn K q5_is_number "is_number" = true)
    (k_is_number : PySem.W.keepIn K (.ref f_is_number) = true)
    (a_are_numbers : PySem.W.nsIn K mainGlobals "are_numbers" = some (some (.ref f_are_numbers)))
    (l_are_numbers : K.lookup f_are_numbers = some ⟨q1_are_numbers, o_are_numbers, .func (PySem.W.fnOf "are_numbers" "are_numbers" (defArgs s_are_numbers) (defBody s_are_numbers) (defScope s_are_numbers) .none q2_are_numbers q3_are_numbers q4_are_numbers n_are_numbers q5_are_numbers q6_are_numbers), w_are_numbers⟩)
    (c_are_numbers : PySem.W.codeIn K q5_are_numbers "are_numbers" = true)
    (k_are_numbers : PySem.W.keepIn K (.ref f_are_numbers) = true)
    (a_is_rule : PySem.W.nsIn K mainGlobals "is_rule" = some (some (.ref f_is_rule)))
    (l_is_rule : K.lookup f_is_rule = some ⟨q1_is_rule, o_is_rule, .func (PySem.W.fnOf "is_rule" "is_rule" (defArgs s_is_rule) (defBody s_is_rule) (defScope s_is_rule) .none q2_is_rule q3_is_rule q4_is_rule n_is_rule q5_is_rule q6_is_rule), w_is_rule⟩)
    (c_is_rule : PySem.W.codeIn K q5_is_rule "is_rule" = true)
    (k_is_rule : PySem.W.keepIn K (.ref f_is_rule) = true)
    (a_is_field : PySem.W.nsIn K mainGlobals "is_field" = some (some (.ref f_is_field)))
    (l_is_field : K.lookup f_is_field = some ⟨q1_is_field, o_is_field, .func (PySem.W.fnOf "is_field" "is_field" (defArgs s_is_field) (defBody s_is_field) (defScope s_is_field) .none q2_is_field q3_is_field q4_is_field n_is_field q5_is_field q6_is_field), w_is_field⟩)
    (c_is_field : PySem.W.codeIn K q5_is_field "is_field" = true)
    (k_is_field : PySem.W.keepIn K (.ref f_is_field) = true)
    (a_look_battle : PySem.W.nsIn K mainGlobals "look_battle" = some (some (.ref f_look_battle)))
    (l_look_battle : K.lookup f_look_battle = some ⟨q1_look_battle, o_look_battle, .func (PySem.W.fnOf "look_battle" "look_battle" (defArgs s_look_battle) (defBody s_look_battle) (defScope s_look_battle) .none q2_look_battle q3_look_battle q4_look_battle n_look_battle q5_look_battle q6_look_battle), w_look_battle⟩)
    (c_look_battle : PySem.W.codeIn K q5_look_battle "look_battle" = true)
    (k_look_battle : PySem.W.keepIn K (.ref f_look_battle) = true)
    (a_paid : PySem.W.nsIn K mainGlobals "paid" = some (some (.ref f_paid)))
    (l_paid : K.lookup f_paid = some ⟨q1_paid, o_paid, .func (PySem.W.fnOf "paid" "paid" (defArgs s_paid) (defBody s_paid) (defScope s_paid) .none q2_paid q3_paid q4_paid n_paid q5_paid q6_paid), w_paid⟩)
    (c_paid : PySem.W.codeIn K q5_paid "paid" = true)
    (k_paid : PySem.W.keepIn K (.ref f_paid) = true)
    (a_is_plan : PySem.W.nsIn K mainGlobals "is_plan" = some (some (.ref f_is_plan)))
    (l_is_plan : K.lookup f_is_plan = some ⟨q1_is_plan, o_is_plan, .func (PySem.W.fnOf "is_plan" "is_plan" (defArgs s_is_plan) (defBody s_is_plan) (defScope s_is_plan) .none q2_is_plan q3_is_plan q4_is_plan n_is_plan q5_is_plan q6_is_plan), w_is_plan⟩)
    (c_is_plan : PySem.W.codeIn K q5_is_plan "is_plan" = true)
    (k_is_plan : PySem.W.keepIn K (.ref f_is_plan) = true)
    (a_won : PySem.W.nsIn K mainGlobals "won" = some (some (.ref f_won)))
    (l_won : K.lookup f_won = some ⟨q1_won, o_won, .func (PySem.W.fnOf "won" "won" (defArgs s_won) (defBody s_won) (defScope s_won) .none q2_won q3_won q4_won n_won q5_won q6_won), w_won⟩)
    (c_won : PySem.W.codeIn K q5_won "won" = true)
    (k_won : PySem.W.keepIn K (.ref f_won) = true)
    (a_gain : PySem.W.nsIn K mainGlobals "gain" = some (some (.ref f_gain)))
    (l_gain : K.lookup f_gain = some ⟨q1_gain, o_gain, .func (PySem.W.fnOf "gain" "gain" (defArgs s_gain) (defBody s_gain) (defScope s_gain) .none q2_gain q3_gain q4_gain n_gain q5_gain q6_gain), w_gain⟩)
    (c_gain : PySem.W.codeIn K q5_gain "gain" = true)
    (k_gain : PySem.W.keepIn K (.ref f_gain) = true)
    (a_is_row : PySem.W.nsIn K mainGlobals "is_row" = some (some (.ref f_is_row)))
    (l_is_row : K.lookup f_is_row = some ⟨q1_is_row, o_is_row, .func (PySem.W.fnOf "is_row" "is_row" (defArgs s_is_row) (defBody s_is_row) (defScope s_is_row) .none q2_is_row q3_is_row q4_is_row n_is_row q5_is_row q6_is_row), w_is_row⟩)
    (c_is_row : PySem.W.codeIn K q5_is_row "is_row" = true)
    (k_is_row : PySem.W.keepIn K (.ref f_is_row) = true)
    (a_is_stream : PySem.W.nsIn K mainGlobals "is_stream" = some (some (.ref f_is_stream)))
    (l_is_stream : K.lookup f_is_stream = some ⟨q1_is_stream, o_is_stream, .func (PySem.W.fnOf "is_stream" "is_stream" (defArgs s_is_stream) (defBody s_is_stream) (defScope s_is_stream) .none q2_is_stream q3_is_stream q4_is_stream n_is_stream q5_is_stream q6_is_stream), w_is_stream⟩)
    (c_is_stream : PySem.W.codeIn K q5_is_stream "is_stream" = true)
    (k_is_stream : PySem.W.keepIn K (.ref f_is_stream) = true)
    (a_must_be_side : PySem.W.nsIn K mainGlobals "must_be_side" = some (some (.ref f_must_be_side)))
    (l_must_be_side : K.lookup f_must_be_side = some ⟨q1_must_be_side, o_must_be_side, .func (PySem.W.fnOf "must_be_side" "must_be_side" (defArgs s_must_be_side) (defBody s_must_be_side) (defScope s_must_be_side) .none q2_must_be_side q3_must_be_side q4_must_be_side n_must_be_side q5_must_be_side q6_must_be_side), w_must_be_side⟩)
    (c_must_be_side : PySem.W.codeIn K q5_must_be_side "must_be_side" = true)
    (k_must_be_side : PySem.W.keepIn K (.ref f_must_be_side) = true)
    (a_dues : PySem.W.nsIn K mainGlobals "dues" = some (some (.ref f_dues)))
    (l_dues : K.lookup f_dues = some ⟨q1_dues, o_dues, .func (PySem.W.fnOf "dues" "dues" (defArgs s_dues) (defBody s_dues) (defScope s_dues) .none q2_dues q3_dues q4_dues n_dues q5_dues q6_dues), w_dues⟩)
    (c_dues : PySem.W.codeIn K q5_dues "dues" = true)
    (k_dues : PySem.W.keepIn K (.ref f_dues) = true)
    (a_goings_on : PySem.W.nsIn K mainGlobals "goings_on" = some (some (.ref f_goings_on)))
    (l_goings_on : K.lookup f_goings_on = some ⟨q1_goings_on, o_goings_on, .func (PySem.W.fnOf "goings_on" "goings_on" (defArgs s_goings_on) (defBody s_goings_on) (defScope s_goings_on) .none q2_goings_on q3_goings_on q4_goings_on n_goings_on q5_goings_on q6_goings_on), w_goings_on⟩)
    (c_goings_on : PySem.W.codeIn K q5_goings_on "goings_on" = true)
    (k_goings_on : PySem.W.keepIn K (.ref f_goings_on) = true)
    (a_is_table : PySem.W.nsIn K mainGlobals "is_table" = some (some (.ref f_is_table)))
    (l_is_table : K.lookup f_is_table = some ⟨q1_is_table, o_is_table, .func (PySem.W.fnOf "is_table" "is_table" (defArgs s_is_table) (defBody s_is_table) (defScope s_is_table) .none q2_is_table q3_is_table q4_is_table n_is_table q5_is_table q6_is_table), w_is_table⟩)
    (c_is_table : PySem.W.codeIn K q5_is_table "is_table" = true)
    (k_is_table : PySem.W.keepIn K (.ref f_is_table) = true)
    (a_wrong_number : PySem.W.nsIn K mainGlobals "wrong_number" = some (some (.ref f_wrong_number)))
    (l_wrong_number : K.lookup f_wrong_number = some ⟨q1_wrong_number, o_wrong_number, .func (PySem.W.fnOf "wrong_number" "wrong_number" (defArgs s_wrong_number) (defBody s_wrong_number) (defScope s_wrong_number) .none q2_wrong_number q3_wrong_number q4_wrong_number n_wrong_number q5_wrong_number q6_wrong_number), w_wrong_number⟩)
    (c_wrong_number : PySem.W.codeIn K q5_wrong_number "wrong_number" = true)
    (k_wrong_number : PySem.W.keepIn K (.ref f_wrong_number) = true)
    (a_judged : PySem.W.nsIn K mainGlobals "judged" = some (some (.ref f_judged)))
    (l_judged : K.lookup f_judged = some ⟨q1_judged, o_judged, .func (PySem.W.fnOf "judged" "judged" (defArgs s_judged) (defBody s_judged) (defScope s_judged) .none q2_judged q3_judged q4_judged n_judged q5_judged q6_judged), w_judged⟩)
    (c_judged : PySem.W.codeIn K q5_judged "judged" = true)
    (k_judged : PySem.W.keepIn K (.ref f_judged) = true)
    (a_l_mix : PySem.W.nsIn K mainGlobals "_law_mix" = some (some (.ref f_l_mix)))
    (l_l_mix : K.lookup f_l_mix = some ⟨q1_l_mix, o_l_mix, .func (PySem.W.fnOf "_law_mix" "_law_mix" (defArgs s_l_mix) (defBody s_l_mix) (defScope s_l_mix) .none q2_l_mix q3_l_mix q4_l_mix n_l_mix q5_l_mix q6_l_mix), w_l_mix⟩)
    (c_l_mix : PySem.W.codeIn K q5_l_mix "_law_mix" = true)
    (k_l_mix : PySem.W.keepIn K (.ref f_l_mix) = true)
    (a_l_cell_at : PySem.W.nsIn K mainGlobals "_law_cell_at" = some (some (.ref f_l_cell_at)))
    (l_l_cell_at : K.lookup f_l_cell_at = some ⟨q1_l_cell_at, o_l_cell_at, .func (PySem.W.fnOf "_law_cell_at" "_law_cell_at" (defArgs s_l_cell_at) (defBody s_l_cell_at) (defScope s_l_cell_at) .none q2_l_cell_at q3_l_cell_at q4_l_cell_at n_l_cell_at q5_l_cell_at q6_l_cell_at), w_l_cell_at⟩)
    (c_l_cell_at : PySem.W.codeIn K q5_l_cell_at "_law_cell_at" = true)
    (k_l_cell_at : PySem.W.keepIn K (.ref f_l_cell_at) = true)
    (a_l_left : PySem.W.nsIn K mainGlobals "_law_left" = some (some (.ref f_l_left)))
    (l_l_left : K.lookup f_l_left = some ⟨q1_l_left, o_l_left, .func (PySem.W.fnOf "_law_left" "_law_left" (defArgs s_l_left) (defBody s_l_left) (defScope s_l_left) .none q2_l_left q3_l_left q4_l_left n_l_left q5_l_left q6_l_left), w_l_left⟩)
    (c_l_left : PySem.W.codeIn K q5_l_left "_law_left" = true)
    (k_l_left : PySem.W.keepIn K (.ref f_l_left) = true)
    (a_l_draw : PySem.W.nsIn K mainGlobals "_law_draw" = some (some (.ref f_l_draw)))
    (l_l_draw : K.lookup f_l_draw = some ⟨q1_l_draw, o_l_draw, .func (PySem.W.fnOf "_law_draw" "_law_draw" (defArgs s_l_draw) (defBody s_l_draw) (defScope s_l_draw) .none q2_l_draw q3_l_draw q4_l_draw n_l_draw q5_l_draw q6_l_draw), w_l_draw⟩)
    (c_l_draw : PySem.W.codeIn K q5_l_draw "_law_draw" = true)
    (k_l_draw : PySem.W.keepIn K (.ref f_l_draw) = true)
    (a_l_some : PySem.W.nsIn K mainGlobals "_law_some" = some (some (.ref f_l_some)))
    (l_l_some : K.lookup f_l_some = some ⟨q1_l_some, o_l_some, .func (PySem.W.fnOf "_law_some" "_law_some" (defArgs s_l_some) (defBody s_l_some) (defScope s_l_some) .none q2_l_some q3_l_some q4_l_some n_l_some q5_l_some q6_l_some), w_l_some⟩)
    (c_l_some : PySem.W.codeIn K q5_l_some "_law_some" = true)
    (k_l_some : PySem.W.keepIn K (.ref f_l_some) = true)
    (a_l_rule : PySem.W.nsIn K mainGlobals "_law_rule" = some (some (.ref f_l_rule)))
    (l_l_rule : K.lookup f_l_rule = some ⟨q1_l_rule, o_l_rule, .func (PySem.W.fnOf "_law_rule" "_law_rule" (defArgs s_l_rule) (defBody s_l_rule) (defScope s_l_rule) .none q2_l_rule q3_l_rule q4_l_rule n_l_rule q5_l_rule q6_l_rule), w_l_rule⟩)
    (c_l_rule : PySem.W.codeIn K q5_l_rule "_law_rule" = true)
    (k_l_rule : PySem.W.keepIn K (.ref f_l_rule) = true)
    (a_l_battle : PySem.W.nsIn K mainGlobals "_law_battle" = some (some (.ref f_l_battle)))
    (l_l_battle : K.lookup f_l_battle = some ⟨q1_l_battle, o_l_battle, .func (PySem.W.fnOf "_law_battle" "_law_battle" (defArgs s_l_battle) (defBody s_l_battle) (defScope s_l_battle) .none q2_l_battle q3_l_battle q4_l_battle n_l_battle q5_l_battle q6_l_battle), w_l_battle⟩)
    (c_l_battle : PySem.W.codeIn K q5_l_battle "_law_battle" = true)
    (k_l_battle : PySem.W.keepIn K (.ref f_l_battle) = true)
    (a_l_paid : PySem.W.nsIn K mainGlobals "_law_paid" = some (some (.ref f_l_paid)))
    (l_l_paid : K.lookup f_l_paid = some ⟨q1_l_paid, o_l_paid, .func (PySem.W.fnOf "_law_paid" "_law_paid" (defArgs s_l_paid) (defBody s_l_paid) (defScope s_l_paid) .none q2_l_paid q3_l_paid q4_l_paid n_l_paid q5_l_paid q6_l_paid), w_l_paid⟩)
    (c_l_paid : PySem.W.codeIn K q5_l_paid "_law_paid" = true)
    (k_l_paid : PySem.W.keepIn K (.ref f_l_paid) = true)
    (a_l_plan : PySem.W.nsIn K mainGlobals "_law_plan" = some (some (.ref f_l_plan)))
    (l_l_plan : K.lookup f_l_plan = some ⟨q1_l_plan, o_l_plan, .func (PySem.W.fnOf "_law_plan" "_law_plan" (defArgs s_l_plan) (defBody s_l_plan) (defScope s_l_plan) .none q2_l_plan q3_l_plan q4_l_plan n_l_plan q5_l_plan q6_l_plan), w_l_plan⟩)
    (c_l_plan : PySem.W.codeIn K q5_l_plan "_law_plan" = true)
    (k_l_plan : PySem.W.keepIn K (.ref f_l_plan) = true)
    (a_l_flows : PySem.W.nsIn K mainGlobals "_law_flows" = some (some (.ref f_l_flows)))
    (l_l_flows : K.lookup f_l_flows = some ⟨q1_l_flows, o_l_flows, .func (PySem.W.fnOf "_law_flows" "_law_flows" (defArgs s_l_flows) (defBody s_l_flows) (defScope s_l_flows) .none q2_l_flows q3_l_flows q4_l_flows n_l_flows q5_l_flows q6_l_flows), w_l_flows⟩)
    (c_l_flows : PySem.W.codeIn K q5_l_flows "_law_flows" = true)
    (k_l_flows : PySem.W.keepIn K (.ref f_l_flows) = true)
    (a_l_lowest : PySem.W.nsIn K mainGlobals "_law_lowest" = some (some (.ref f_l_lowest)))
    (l_l_lowest : K.lookup f_l_lowest = some ⟨q1_l_lowest, o_l_lowest, .func (PySem.W.fnOf "_law_lowest" "_law_lowest" (defArgs s_l_lowest) (defBody s_l_lowest) (defScope s_l_lowest) .none q2_l_lowest q3_l_lowest q4_l_lowest n_l_lowest q5_l_lowest q6_l_lowest), w_l_lowest⟩)
    (c_l_lowest : PySem.W.codeIn K q5_l_lowest "_law_lowest" = true)
    (k_l_lowest : PySem.W.keepIn K (.ref f_l_lowest) = true)
    (a_l_dues : PySem.W.nsIn K mainGlobals "_law_dues" = some (some (.ref f_l_dues)))
    (l_l_dues : K.lookup f_l_dues = some ⟨q1_l_dues, o_l_dues, .func (PySem.W.fnOf "_law_dues" "_law_dues" (defArgs s_l_dues) (defBody s_l_dues) (defScope s_l_dues) .none q2_l_dues q3_l_dues q4_l_dues n_l_dues q5_l_dues q6_l_dues), w_l_dues⟩)
    (c_l_dues : PySem.W.codeIn K q5_l_dues "_law_dues" = true)
    (k_l_dues : PySem.W.keepIn K (.ref f_l_dues) = true)
    (a_l_comes : PySem.W.nsIn K mainGlobals "_law_comes" = some (some (.ref f_l_comes)))
    (l_l_comes : K.lookup f_l_comes = some ⟨q1_l_comes, o_l_comes, .func (PySem.W.fnOf "_law_comes" "_law_comes" (defArgs s_l_comes) (defBody s_l_comes) (defScope s_l_comes) .none q2_l_comes q3_l_comes q4_l_comes n_l_comes q5_l_comes q6_l_comes), w_l_comes⟩)
    (c_l_comes : PySem.W.codeIn K q5_l_comes "_law_comes" = true)
    (k_l_comes : PySem.W.keepIn K (.ref f_l_comes) = true)
    (a_l_table : PySem.W.nsIn K mainGlobals "_law_table" = some (some (.ref f_l_table)))
    (l_l_table : K.lookup f_l_table = some ⟨q1_l_table, o_l_table, .func (PySem.W.fnOf "_law_table" "_law_table" (defArgs s_l_table) (defBody s_l_table) (defScope s_l_table) .none q2_l_table q3_l_table q4_l_table n_l_table q5_l_table q6_l_table), w_l_table⟩)
    (c_l_table : PySem.W.codeIn K q5_l_table "_law_table" = true)
    (k_l_table : PySem.W.keepIn K (.ref f_l_table) = true)
    (a_l_all_plans : PySem.W.nsIn K mainGlobals "_law_all_plans" = some (some (.ref f_l_all_plans)))
    (l_l_all_plans : K.lookup f_l_all_plans = some ⟨q1_l_all_plans, o_l_all_plans, .func (PySem.W.fnOf "_law_all_plans" "_law_all_plans" (defArgs s_l_all_plans) (defBody s_l_all_plans) (defScope s_l_all_plans) .none q2_l_all_plans q3_l_all_plans q4_l_all_plans n_l_all_plans q5_l_all_plans q6_l_all_plans), w_l_all_plans⟩)
    (c_l_all_plans : PySem.W.codeIn K q5_l_all_plans "_law_all_plans" = true)
    (k_l_all_plans : PySem.W.keepIn K (.ref f_l_all_plans) = true)
    (a_l_brought : PySem.W.nsIn K mainGlobals "_law_brought" = some (some (.ref f_l_brought)))
    (l_l_brought : K.lookup f_l_brought = some ⟨q1_l_brought, o_l_brought, .func (PySem.W.fnOf "_law_brought" "_law_brought" (defArgs s_l_brought) (defBody s_l_brought) (defScope s_l_brought) .none q2_l_brought q3_l_brought q4_l_brought n_l_brought q5_l_brought q6_l_brought), w_l_brought⟩)
    (c_l_brought : PySem.W.codeIn K q5_l_brought "_law_brought" = true)
    (k_l_brought : PySem.W.keepIn K (.ref f_l_brought) = true)
    (a_l_tables : PySem.W.nsIn K mainGlobals "_law_tables" = some (some (.ref f_l_tables)))
    (l_l_tables : K.lookup f_l_tables = some ⟨q1_l_tables, o_l_tables, .func (PySem.W.fnOf "_law_tables" "_law_tables" (defArgs s_l_tables) (defBody s_l_tables) (defScope s_l_tables) .none q2_l_tables q3_l_tables q4_l_tables n_l_tables q5_l_tables q6_l_tables), w_l_tables⟩)
    (c_l_tables : PySem.W.codeIn K q5_l_tables "_law_tables" = true)
    (k_l_tables : PySem.W.keepIn K (.ref f_l_tables) = true)
    (a_law : PySem.W.nsIn K mainGlobals "law" = some (some (.ref f_law)))
    (l_law : K.lookup f_law = some ⟨q1_law, o_law, .func (PySem.W.fnOf "law" "law" (defArgs s_law) (defBody s_law) (defScope s_law) .none q2_law q3_law q4_law n_law q5_law q6_law), w_law⟩)
    (c_law : PySem.W.codeIn K q5_law "law" = true)
    (k_law : PySem.W.keepIn K (.ref f_law) = true)
    (z_bool : PySem.W.nsIn K mainGlobals "bool" = some none)
    (z_int : PySem.W.nsIn K mainGlobals "int" = some none)
    (z_isinstance : PySem.W.nsIn K mainGlobals "isinstance" = some none)
    (z_len : PySem.W.nsIn K mainGlobals "len" = some none)
    (z_list : PySem.W.nsIn K mainGlobals "list" = some none)
    (z_max : PySem.W.nsIn K mainGlobals "max" = some none)
    (z_min : PySem.W.nsIn K mainGlobals "min" = some none)
    (z_range : PySem.W.nsIn K mainGlobals "range" = some none)
    (z_reversed : PySem.W.nsIn K mainGlobals "reversed" = some none)
    (z_sorted : PySem.W.nsIn K mainGlobals "sorted" = some none)
    (z_sum : PySem.W.nsIn K mainGlobals "sum" = some none)
    (z_tuple : PySem.W.nsIn K mainGlobals "tuple" = some none)
    (h_MOST_HOSTS : PySem.W.nsIn K mainGlobals "MOST_HOSTS" = some (some (.int 10 t_MOST_HOSTS)))
    (h_MOST_FIELDS : PySem.W.nsIn K mainGlobals "MOST_FIELDS" = some (some (.int 5 t_MOST_FIELDS)))
    (h_SIDES : PySem.W.nsIn K mainGlobals "SIDES" = some (some (.ref e_SIDES)))
    (lq_SIDES : K.lookup e_SIDES = some ⟨.type "list", none, .seq #[.str (PySem.Str.ofString "first") tk0_SIDES, .str (PySem.Str.ofString "second") tk1_SIDES] j0_SIDES, j1_SIDES⟩)
    (i_HostError : PySem.W.isClsIn K e_HostError = true)
    (t_HostError : PySem.W.typeIn K (.ref e_HostError) = some (.type "type"))
    (y_HostError : PySem.W.subIn K (.ref e_HostError) (.type "BaseException") = some true)
    (i_NoBattle : PySem.W.isClsIn K e_NoBattle = true)
    (t_NoBattle : PySem.W.typeIn K (.ref e_NoBattle) = some (.type "type"))
    (y_NoBattle : PySem.W.subIn K (.ref e_NoBattle) (.type "BaseException") = some true)
    (i_NoPlan : PySem.W.isClsIn K e_NoPlan = true)
    (t_NoPlan : PySem.W.typeIn K (.ref e_NoPlan) = some (.type "type"))
    (y_NoPlan : PySem.W.subIn K (.ref e_NoPlan) (.type "BaseException") = some true)
    (i_NoSide : PySem.W.isClsIn K e_NoSide = true)
    (t_NoSide : PySem.W.typeIn K (.ref e_NoSide) = some (.type "type"))
    (y_NoSide : PySem.W.subIn K (.ref e_NoSide) (.type "BaseException") = some true)
    (x_NoPlan : PySem.W.excIn K e_NoPlan [.type "ValueError", .type "Exception", .type "BaseException", .type "object"] "ValueError.__new__" = true)
    (k_NoPlan : PySem.W.keepIn K (.ref e_NoPlan) = true)
    (hg_NoPlan : PySem.W.findIn K (.ref e_NoPlan) "__getattribute__" = some (some (.builtin "BaseException.__getattribute__")))
    (hk_NoPlan : PySem.W.findIn K (.ref e_NoPlan) "__getattr__" = some none)
    (hd_NoPlan : PySem.W.hasDictIn K e_NoPlan = true)
    (ha_NoPlan : PySem.W.findIn K (.ref e_NoPlan) "__class__" = some (some (.builtin "object.__class__")))
    (hm_NoPlan : PySem.W.mroIn K e_NoPlan (.type "object") = some true)
    (v_NoPlan : PySem.W.subIn K (.ref e_NoPlan) (.type "ValueError") = some true)
    (s_NoPlan_HostError : PySem.W.subIn K (.ref e_NoPlan) (.ref e_HostError) = some true)
    (s_NoPlan_NoBattle : PySem.W.subIn K (.ref e_NoPlan) (.ref e_NoBattle) = some false)
    (s_NoPlan_NoPlan : PySem.W.subIn K (.ref e_NoPlan) (.ref e_NoPlan) = some true)
    (s_NoPlan_NoSide : PySem.W.subIn K (.ref e_NoPlan) (.ref e_NoSide) = some false)
    (x_NoSide : PySem.W.excIn K e_NoSide [.type "ValueError", .type "Exception", .type "BaseException", .type "object"] "ValueError.__new__" = true)
    (k_NoSide : PySem.W.keepIn K (.ref e_NoSide) = true)
    (hg_NoSide : PySem.W.findIn K (.ref e_NoSide) "__getattribute__" = some (some (.builtin "BaseException.__getattribute__")))
    (hk_NoSide : PySem.W.findIn K (.ref e_NoSide) "__getattr__" = some none)
    (hd_NoSide : PySem.W.hasDictIn K e_NoSide = true)
    (ha_NoSide : PySem.W.findIn K (.ref e_NoSide) "__class__" = some (some (.builtin "object.__class__")))
    (hm_NoSide : PySem.W.mroIn K e_NoSide (.type "object") = some true)
    (v_NoSide : PySem.W.subIn K (.ref e_NoSide) (.type "ValueError") = some true)
    (s_NoSide_HostError : PySem.W.subIn K (.ref e_NoSide) (.ref e_HostError) = some true)
    (s_NoSide_NoBattle : PySem.W.subIn K (.ref e_NoSide) (.ref e_NoBattle) = some false)
    (s_NoSide_NoPlan : PySem.W.subIn K (.ref e_NoSide) (.ref e_NoPlan) = some false)
    (s_NoSide_NoSide : PySem.W.subIn K (.ref e_NoSide) (.ref e_NoSide) = some true)
    (oc_NoBattle : K.lookup e_NoBattle = some (excClassObj xn_NoBattle xq_NoBattle e_NoBattle xN_NoBattle xb_NoBattle (.ref e_HostError :: [.type "ValueError", .type "Exception", .type "BaseException", .type "object"]) true xs_NoBattle xu_NoBattle xa_NoBattle xc_NoBattle xd_NoBattle x0_NoBattle x1_NoBattle x2_NoBattle x3_NoBattle x5_NoBattle "ValueError.__new__"))
    (sa_NoBattle : PySem.W.findIn K (.ref e_NoBattle) "__setattr__" = some (some (.builtin "object.__setattr__")))
    (ti_NoBattle : PySem.W.typeIn K (.ref f_NoBattle_init) = some (.type "function"))
    (no_NoBattle_field : PySem.W.findIn K (.ref e_NoBattle) "field" = some none)
    (rd_HostError : PySem.W.readsIn K e_HostError (.type "type") = true)
    (ga_HostError : PySem.W.specialIn K (.ref e_HostError) "__getattribute__" = some (some (.builtin "type.__getattribute__")))
    (fc_HostError : PySem.W.findCls K (.ref e_HostError) (.type "type") "__init__" = some (.val (.builtin "ValueError.__init__")))
    (k_NoBattle : PySem.W.keepIn K (.ref e_NoBattle) = true)
    (hg_NoBattle : PySem.W.findIn K (.ref e_NoBattle) "__getattribute__" = some (some (.builtin "BaseException.__getattribute__")))
    (hk_NoBattle : PySem.W.findIn K (.ref e_NoBattle) "__getattr__" = some none)
    (hd_NoBattle : PySem.W.hasDictIn K e_NoBattle = true)
    (ha_NoBattle : PySem.W.findIn K (.ref e_NoBattle) "__class__" = some (some (.builtin "object.__class__")))
    (hm_NoBattle : PySem.W.mroIn K e_NoBattle (.type "object") = some true)
    (v_NoBattle : PySem.W.subIn K (.ref e_NoBattle) (.type "ValueError") = some true)
    (s_NoBattle_HostError : PySem.W.subIn K (.ref e_NoBattle) (.ref e_HostError) = some true)
    (s_NoBattle_NoBattle : PySem.W.subIn K (.ref e_NoBattle) (.ref e_NoBattle) = some true)
    (s_NoBattle_NoPlan : PySem.W.subIn K (.ref e_NoBattle) (.ref e_NoPlan) = some false)
    (s_NoBattle_NoSide : PySem.W.subIn K (.ref e_NoBattle) (.ref e_NoSide) = some false)
    (ho_n : PySem.W.specialIn K (.builtin "object.__class__") "__get__" = some (some (.builtin "getset_descriptor.__get__")))
    (ho_t : PySem.W.takesIn K (.builtin "object.__class__") = some true) : ∃ T : Txt K mg, T.a_law = f_law ∧ ∀ (s : Shared) (v : Value), BindsTo s T.d_law ⟨[v], []⟩ [("_law_script", v)] :=
  ⟨{ a_NoBattle_init := f_NoBattle_init,
      d_NoBattle_init := _,
      F_NoBattle_init := fun_mk (st := s_NoBattle_init) l_NoBattle_init c_NoBattle_init k_NoBattle_init,
      b_NoBattle_init := (fun_mk (st := s_NoBattle_init) l_NoBattle_init c_NoBattle_init k_NoBattle_init).binds fun _ _ _ _ _ _ us hl => match us, hl with | [_, _], _ => rfl,
      a_is_number := f_is_number,
      d_is_number := _,
      F_is_number := fun_mk (st := s_is_number) l_is_number c_is_number k_is_number,
      g_is_number := PySem.W.mg_of X G a_is_number,
      b_is_number := (fun_mk (st := s_is_number) l_is_number c_is_number k_is_number).binds fun _ _ _ _ _ _ us hl => match us, hl with | [_], _ => rfl,
      a_are_numbers := f_are_numbers,
      d_are_numbers := _,
      F_are_numbers := fun_mk (st := s_are_numbers) l_are_numbers c_are_numbers k_are_numbers,
      g_are_numbers := PySem.W.mg_of X G a_are_numbers,
      b_are_numbers := (fun_mk (st := s_are_numbers) l_are_numbers c_are_numbers k_are_numbers).binds fun _ _ _ _ _ _ us hl => match us, hl with | [_, _], _ => rfl,
      a_is_rule := f_is_rule,
      d_is_rule := _,
      F_is_rule := fun_mk (st := s_is_rule) l_is_rule c_is_rule k_is_rule,
      g_is_rule := PySem.W.mg_of X G a_is_rule,
      b_is_rule := (fun_mk (st := s_is_rule) l_is_rule c_is_rule k_is_rule).binds fun _ _ _ _ _ _ us hl => match us, hl with | [_], _ => rfl,
      a_is_field := f_is_field,
      d_is_field := _,
      F_is_field := fun_mk (st := s_is_field) l_is_field c_is_field k_is_field,
      g_is_field := PySem.W.mg_of X G a_is_field,
      b_is_field := (fun_mk (st := s_is_field) l_is_field c_is_field k_is_field).binds fun _ _ _ _ _ _ us hl => match us, hl with | [_, _, _], _ => rfl,
      a_look_battle := f_look_battle,
      d_look_battle := _,
      F_look_battle := fun_mk (st := s_look_battle) l_look_battle c_look_battle k_look_battle,
      g_look_battle := PySem.W.mg_of X G a_look_battle,
      b_look_battle := (fun_mk (st := s_look_battle) l_look_battle c_look_battle k_look_battle).binds fun _ _ _ _ _ _ us hl => match us, hl with | [_], _ => rfl,
      a_paid := f_paid,
      d_paid := _,
      F_paid := fun_mk (st := s_paid) l_paid c_paid k_paid,
      g_paid := PySem.W.mg_of X G a_paid,
      b_paid := (fun_mk (st := s_paid) l_paid c_paid k_paid).binds fun _ _ _ _ _ _ us hl => match us, hl with | [_, _, _], _ => rfl,
      a_is_plan := f_is_plan,
      d_is_plan := _,
      F_is_plan := fun_mk (st := s_is_plan) l_is_plan c_is_plan k_is_plan,
      g_is_plan := PySem.W.mg_of X G a_is_plan,
      b_is_plan := (fun_mk (st := s_is_plan) l_is_plan c_is_plan k_is_plan).binds fun _ _ _ _ _ _ us hl => match us, hl with | [_, _, _], _ => rfl,
      a_won := f_won,
      d_won := _,
      F_won := fun_mk (st := s_won) l_won c_won k_won,
      g_won := PySem.W.mg_of X G a_won,
      b_won := (fun_mk (st := s_won) l_won c_won k_won).binds fun _ _ _ _ _ _ us hl => match us, hl with | [_, _, _], _ => rfl,
      a_gain := f_gain,
      d_gain := _,
      F_gain := fun_mk (st := s_gain) l_gain c_gain k_gain,
      g_gain := PySem.W.mg_of X G a_gain,
      b_gain := (fun_mk (st := s_gain) l_gain c_gain k_gain).binds fun _ _ _ _ _ _ us hl => match us, hl with | [_, _, _], _ => rfl,
      a_is_row := f_is_row,
      d_is_row := _,
      F_is_row := fun_mk (st := s_is_row) l_is_row c_is_row k_is_row,
      g_is_row := PySem.W.mg_of X G a_is_row,
      b_is_row := (fun_mk (st := s_is_row) l_is_row c_is_row k_is_row).binds fun _ _ _ _ _ _ us hl => match us, hl with | [_, _], _ => rfl,
      a_is_stream := f_is_stream,
      d_is_stream := _,
      F_is_stream := fun_mk (st := s_is_stream) l_is_stream c_is_stream k_is_stream,
      g_is_stream := PySem.W.mg_of X G a_is_stream,
      b_is_stream := (fun_mk (st := s_is_stream) l_is_stream c_is_stream k_is_stream).binds fun _ _ _ _ _ _ us hl => match us, hl with | [_, _, _], _ => rfl,
      a_must_be_side := f_must_be_side,
      d_must_be_side := _,
      F_must_be_side := fun_mk (st := s_must_be_side) l_must_be_side c_must_be_side k_must_be_side,
      g_must_be_side := PySem.W.mg_of X G a_must_be_side,
      b_must_be_side := (fun_mk (st := s_must_be_side) l_must_be_side c_must_be_side k_must_be_side).binds fun _ _ _ _ _ _ us hl => match us, hl with | [_], _ => rfl,
      a_dues := f_dues,
      d_dues := _,
      F_dues := fun_mk (st := s_dues) l_dues c_dues k_dues,
      g_dues := PySem.W.mg_of X G a_dues,
      b_dues := (fun_mk (st := s_dues) l_dues c_dues k_dues).binds fun _ _ _ _ _ _ us hl => match us, hl with | [_, _, _], _ => rfl,
      a_goings_on := f_goings_on,
      d_goings_on := _,
      F_goings_on := fun_mk (st := s_goings_on) l_goings_on c_goings_on k_goings_on,
      g_goings_on := PySem.W.mg_of X G a_goings_on,
      b_goings_on := (fun_mk (st := s_goings_on) l_goings_on c_goings_on k_goings_on).binds fun _ _ _ _ _ _ us hl => match us, hl with | [_, _, _, _], _ => rfl,
      a_is_table := f_is_table,
      d_is_table := _,
      F_is_table := fun_mk (st := s_is_table) l_is_table c_is_table k_is_table,
      g_is_table := PySem.W.mg_of X G a_is_table,
      b_is_table := (fun_mk (st := s_is_table) l_is_table c_is_table k_is_table).binds fun _ _ _ _ _ _ us hl => match us, hl with | [_, _, _], _ => rfl,
      a_wrong_number := f_wrong_number,
      d_wrong_number := _,
      F_wrong_number := fun_mk (st := s_wrong_number) l_wrong_number c_wrong_number k_wrong_number,
      g_wrong_number := PySem.W.mg_of X G a_wrong_number,
      b_wrong_number := (fun_mk (st := s_wrong_number) l_wrong_number c_wrong_number k_wrong_number).binds fun _ _ _ _ _ _ us hl => match us, hl with | [_, _, _], _ => rfl,
      a_judged := f_judged,
      d_judged := _,
      F_judged := fun_mk (st := s_judged) l_judged c_judged k_judged,
      g_judged := PySem.W.mg_of X G a_judged,
      b_judged := (fun_mk (st := s_judged) l_judged c_judged k_judged).binds fun _ _ _ _ _ _ us hl => match us, hl with | [_, _, _, _], _ => rfl,
      a_l_mix := f_l_mix,
      d_l_mix := _,
      F_l_mix := fun_mk (st := s_l_mix) l_l_mix c_l_mix k_l_mix,
      g_l_mix := PySem.W.mg_of X G a_l_mix,
      b_l_mix := (fun_mk (st := s_l_mix) l_l_mix c_l_mix k_l_mix).binds fun _ _ _ _ _ _ us hl => match us, hl with | [_, _], _ => rfl,
      a_l_cell_at := f_l_cell_at,
      d_l_cell_at := _,
      F_l_cell_at := fun_mk (st := s_l_cell_at) l_l_cell_at c_l_cell_at k_l_cell_at,
      g_l_cell_at := PySem.W.mg_of X G a_l_cell_at,
      b_l_cell_at := (fun_mk (st := s_l_cell_at) l_l_cell_at c_l_cell_at k_l_cell_at).binds fun _ _ _ _ _ _ us hl => match us, hl with | [_, _], _ => rfl,
      a_l_left := f_l_left,
      d_l_left := _,
      F_l_left := fun_mk (st := s_l_left) l_l_left c_l_left k_l_left,
      g_l_left := PySem.W.mg_of X G a_l_left,
      b_l_left := (fun_mk (st := s_l_left) l_l_left c_l_left k_l_left).binds fun _ _ _ _ _ _ us hl => match us, hl with | [_, _], _ => rfl,
      a_l_draw := f_l_draw,
      d_l_draw := _,
      F_l_draw := fun_mk (st := s_l_draw) l_l_draw c_l_draw k_l_draw,
      g_l_draw := PySem.W.mg_of X G a_l_draw,
      b_l_draw := (fun_mk (st := s_l_draw) l_l_draw c_l_draw k_l_draw).binds fun _ _ _ _ _ _ us hl => match us, hl with | [_, _], _ => rfl,
      a_l_some := f_l_some,
      d_l_some := _,
      F_l_some := fun_mk (st := s_l_some) l_l_some c_l_some k_l_some,
      g_l_some := PySem.W.mg_of X G a_l_some,
      b_l_some := (fun_mk (st := s_l_some) l_l_some c_l_some k_l_some).binds fun _ _ _ _ _ _ us hl => match us, hl with | [_], _ => rfl,
      a_l_rule := f_l_rule,
      d_l_rule := _,
      F_l_rule := fun_mk (st := s_l_rule) l_l_rule c_l_rule k_l_rule,
      g_l_rule := PySem.W.mg_of X G a_l_rule,
      b_l_rule := (fun_mk (st := s_l_rule) l_l_rule c_l_rule k_l_rule).binds fun _ _ _ _ _ _ us hl => match us, hl with | [_, _, _], _ => rfl,
      a_l_battle := f_l_battle,
      d_l_battle := _,
      F_l_battle := fun_mk (st := s_l_battle) l_l_battle c_l_battle k_l_battle,
      g_l_battle := PySem.W.mg_of X G a_l_battle,
      b_l_battle := (fun_mk (st := s_l_battle) l_l_battle c_l_battle k_l_battle).binds fun _ _ _ _ _ _ us hl => match us, hl with | [_, _, _], _ => rfl,
      a_l_paid := f_l_paid,
      d_l_paid := _,
      F_l_paid := fun_mk (st := s_l_paid) l_l_paid c_l_paid k_l_paid,
      g_l_paid := PySem.W.mg_of X G a_l_paid,
      b_l_paid := (fun_mk (st := s_l_paid) l_l_paid c_l_paid k_l_paid).binds fun _ _ _ _ _ _ us hl => match us, hl with | [_, _, _], _ => rfl,
      a_l_plan := f_l_plan,
      d_l_plan := _,
      F_l_plan := fun_mk (st := s_l_plan) l_l_plan c_l_plan k_l_plan,
      g_l_plan := PySem.W.mg_of X G a_l_plan,
      b_l_plan := (fun_mk (st := s_l_plan) l_l_plan c_l_plan k_l_plan).binds fun _ _ _ _ _ _ us hl => match us, hl with | [_, _, _], _ => rfl,
      a_l_flows := f_l_flows,
      d_l_flows := _,
      F_l_flows := fun_mk (st := s_l_flows) l_l_flows c_l_flows k_l_flows,
      g_l_flows := PySem.W.mg_of X G a_l_flows,
      b_l_flows := (fun_mk (st := s_l_flows) l_l_flows c_l_flows k_l_flows).binds fun _ _ _ _ _ _ us hl => match us, hl with | [_], _ => rfl,
      a_l_lowest := f_l_lowest,
      d_l_lowest := _,
      F_l_lowest := fun_mk (st := s_l_lowest) l_l_lowest c_l_lowest k_l_lowest,
      g_l_lowest := PySem.W.mg_of X G a_l_lowest,
      b_l_lowest := (fun_mk (st := s_l_lowest) l_l_lowest c_l_lowest k_l_lowest).binds fun _ _ _ _ _ _ us hl => match us, hl with | [_, _], _ => rfl,
      a_l_dues := f_l_dues,
      d_l_dues := _,
      F_l_dues := fun_mk (st := s_l_dues) l_l_dues c_l_dues k_l_dues,
      g_l_dues := PySem.W.mg_of X G a_l_dues,
      b_l_dues := (fun_mk (st := s_l_dues) l_l_dues c_l_dues k_l_dues).binds fun _ _ _ _ _ _ us hl => match us, hl with | [_, _, _], _ => rfl,
      a_l_comes := f_l_comes,
      d_l_comes := _,
      F_l_comes := fun_mk (st := s_l_comes) l_l_comes c_l_comes k_l_comes,
      g_l_comes := PySem.W.mg_of X G a_l_comes,
      b_l_comes := (fun_mk (st := s_l_comes) l_l_comes c_l_comes k_l_comes).binds fun _ _ _ _ _ _ us hl => match us, hl with | [_, _, _, _], _ => rfl,
      a_l_table := f_l_table,
      d_l_table := _,
      F_l_table := fun_mk (st := s_l_table) l_l_table c_l_table k_l_table,
      g_l_table := PySem.W.mg_of X G a_l_table,
      b_l_table := (fun_mk (st := s_l_table) l_l_table c_l_table k_l_table).binds fun _ _ _ _ _ _ us hl => match us, hl with | [_, _, _], _ => rfl,
      a_l_all_plans := f_l_all_plans,
      d_l_all_plans := _,
      F_l_all_plans := fun_mk (st := s_l_all_plans) l_l_all_plans c_l_all_plans k_l_all_plans,
      g_l_all_plans := PySem.W.mg_of X G a_l_all_plans,
      b_l_all_plans := (fun_mk (st := s_l_all_plans) l_l_all_plans c_l_all_plans k_l_all_plans).binds fun _ _ _ _ _ _ us hl => match us, hl with | [_, _], _ => rfl,
      a_l_brought := f_l_brought,
      d_l_brought := _,
      F_l_brought := fun_mk (st := s_l_brought) l_l_brought c_l_brought k_l_brought,
      g_l_brought := PySem.W.mg_of X G a_l_brought,
      b_l_brought := (fun_mk (st := s_l_brought) l_l_brought c_l_brought k_l_brought).binds fun _ _ _ _ _ _ us hl => match us, hl with | [_, _, _], _ => rfl,
      a_l_tables := f_l_tables,
      d_l_tables := _,
      F_l_tables := fun_mk (st := s_l_tables) l_l_tables c_l_tables k_l_tables,
      g_l_tables := PySem.W.mg_of X G a_l_tables,
      b_l_tables := (fun_mk (st := s_l_tables) l_l_tables c_l_tables k_l_tables).binds fun _ _ _ _ _ _ us hl => match us, hl with | [_, _, _, _], _ => rfl,
      a_law := f_law,
      d_law := _,
      F_law := fun_mk (st := s_law) l_law c_law k_law,
      g_law := PySem.W.mg_of X G a_law,
      b_law := (fun_mk (st := s_law) l_law c_law k_law).binds fun _ _ _ _ _ _ us hl => match us, hl with | [_], _ => rfl,
      z_bool := PySem.W.mg_none_of X G z_bool,
      z_int := PySem.W.mg_none_of X G z_int,
      z_isinstance := PySem.W.mg_none_of X G z_isinstance,
      z_len := PySem.W.mg_none_of X G z_len,
      z_list := PySem.W.mg_none_of X G z_list,
      z_max := PySem.W.mg_none_of X G z_max,
      z_min := PySem.W.mg_none_of X G z_min,
      z_range := PySem.W.mg_none_of X G z_range,
      z_reversed := PySem.W.mg_none_of X G z_reversed,
      z_sorted := PySem.W.mg_none_of X G z_sorted,
      z_sum := PySem.W.mg_none_of X G z_sum,
      z_tuple := PySem.W.mg_none_of X G z_tuple,
      t_MOST_HOSTS := t_MOST_HOSTS,
      c_MOST_HOSTS := PySem.W.mg_of X G h_MOST_HOSTS,
      t_MOST_FIELDS := t_MOST_FIELDS,
      c_MOST_FIELDS := PySem.W.mg_of X G h_MOST_FIELDS,
      e_SIDES := e_SIDES,
      c_SIDES := PySem.W.mg_of X G h_SIDES,
      q_SIDES := ⟨_, _, _, lq_SIDES, rfl, rfl, rfl, (show 2 ≤ sizeLine by decide), .cons ⟨_, rfl⟩ (.cons ⟨_, rfl⟩ (.nil))⟩,
      e_HostError := e_HostError,
      g_HostError := PySem.W.mg_of X G h_HostError,
      i_HostError := i_HostError,
      t_HostError := t_HostError,
      y_HostError := y_HostError,
      e_NoBattle := e_NoBattle,
      g_NoBattle := PySem.W.mg_of X G h_NoBattle,
      i_NoBattle := i_NoBattle,
      t_NoBattle := t_NoBattle,
      y_NoBattle := y_NoBattle,
      e_NoPlan := e_NoPlan,
      g_NoPlan := PySem.W.mg_of X G h_NoPlan,
      i_NoPlan := i_NoPlan,
      t_NoPlan := t_NoPlan,
      y_NoPlan := y_NoPlan,
      e_NoSide := e_NoSide,
      g_NoSide := PySem.W.mg_of X G h_NoSide,
      i_NoSide := i_NoSide,
      t_NoSide := t_NoSide,
      y_NoSide := y_NoSide,
      x_NoPlan := x_NoPlan,
      k_NoPlan := k_NoPlan,
      hg_NoPlan := hg_NoPlan,
      hk_NoPlan := hk_NoPlan,
      hd_NoPlan := hd_NoPlan,
      ha_NoPlan := ha_NoPlan,
      hm_NoPlan := hm_NoPlan,
      v_NoPlan := v_NoPlan,
      s_NoPlan_HostError := s_NoPlan_HostError,
      s_NoPlan_NoBattle := s_NoPlan_NoBattle,
      s_NoPlan_NoPlan := s_NoPlan_NoPlan,
      s_NoPlan_NoSide := s_NoPlan_NoSide,
      x_NoSide := x_NoSide,
      k_NoSide := k_NoSide,
      hg_NoSide := hg_NoSide,
      hk_NoSide := hk_NoSide,
      hd_NoSide := hd_NoSide,
      ha_NoSide := ha_NoSide,
      hm_NoSide := hm_NoSide,
      v_NoSide := v_NoSide,
      s_NoSide_HostError := s_NoSide_HostError,
      s_NoSide_NoBattle := s_NoSide_NoBattle,
      s_NoSide_NoPlan := s_NoSide_NoPlan,
      s_NoSide_NoSide := s_NoSide_NoSide,
      oc_NoBattle := ⟨xn_NoBattle, xq_NoBattle, xN_NoBattle, xb_NoBattle, _, xs_NoBattle, xu_NoBattle, xa_NoBattle, xc_NoBattle, xd_NoBattle, x0_NoBattle, x1_NoBattle, x2_NoBattle, x3_NoBattle, x5_NoBattle, oc_NoBattle, (show PySem.HandSPX.refsVE [.type "ValueError", .type "Exception", .type "BaseException", .type "object"] = true by decide +kernel)⟩,
      sa_NoBattle := sa_NoBattle,
      ic_NoBattle := ic_NoBattle,
      ti_NoBattle := ti_NoBattle,
      no_NoBattle_field := no_NoBattle_field,
      rd_HostError := rd_HostError,
      ga_HostError := ga_HostError,
      fc_HostError := fc_HostError,
      k_NoBattle := k_NoBattle,
      hg_NoBattle := hg_NoBattle,
      hk_NoBattle := hk_NoBattle,
      hd_NoBattle := hd_NoBattle,
      ha_NoBattle := ha_NoBattle,
      hm_NoBattle := hm_NoBattle,
      v_NoBattle := v_NoBattle,
      s_NoBattle_HostError := s_NoBattle_HostError,
      s_NoBattle_NoBattle := s_NoBattle_NoBattle,
      s_NoBattle_NoPlan := s_NoBattle_NoPlan,
      s_NoBattle_NoSide := s_NoBattle_NoSide,
      ho_n := ho_n,
      ho_t := ho_t }, rfl, fun _ _ => .of_eq rfl⟩
theorem all_mk {P : Program} {w : World} {K : PySem.W.Frag} {h : Heap} {mg : Str → Option Value} {fa : Addr} {f_NoBattle_init : Addr} {o_NoBattle_init n_NoBattle_init : Option Addr} {w_NoBattle_init : Array (Option Value)} {q1_NoBattle_init q2_NoBattle_init q3_NoBattle_init q4_NoBattle_init q5_NoBattle_init q6_NoBattle_init : Value} {f_is_number : Addr} {o_is_number n_is_number : Option Addr} {w_is_number : Array (Option Value)} {q1_is_number q2_is_number q3_is_number q4_is_number q5_is_number q6_is_number : Value} {f_are_numbers : Addr} {o_are_numbers n_are_numbers : Option Addr} {w_are_numbers : Array (Option Value)} {q1_are_numbers q2_are_numbers q3_are_numbers q4_are_numbers q5_are_numbers q6_are_numbers : Value} {f_is_rule : Addr} {o_is_rule n_is_rule : Option Addr} {w_is_rule : Array (Option Value)} {q1_is_rule q2_is_rule q3_is_rule q4_is_rule q5_is_rule q6_is_rule : Value} {f_is_field : Addr} {o_is_field n_is_field : Option Addr} {w_is_field : Array (Option Value)} {q1_is_field q2_is_field q3_is_field q4_is_field q5_is_field q6_is_field : Value} {f_look_battle : Addr} {o_look_battle n_look_battle : Option Addr} {w_look_battle : Array (Option Value)} {q1_look_battle q2_look_battle q3_look_battle q4_look_battle q5_look_battle q6_look_battle : Value} {f_paid : Addr} {o_paid n_paid : Option Addr} {w_paid : Array (Option Value)} {q1_paid q2_paid q3_paid q4_paid q5_paid q6_paid : Value} {f_is_plan : Addr} {o_is_plan n_is_plan : Option Addr} {w_is_plan : Array (Option Value)} {q1_is_plan q2_is_plan q3_is_plan q4_is_plan q5_is_plan q6_is_plan : Value} {f_won : Addr} {o_won n_won : Option Addr} {w_won : Array (Option Value)} {q1_won q2_won q3_won q4_won q5_won q6_won : Value} {f_gain : Addr} {o_gain n_gain : Option Addr} {w_gain : Array (Option Value)} {q1_gain q2_gain q3_gain q4_gain q5_gain q6_gain : Value} {f_is_row : Addr} {o_is_row n_is_row : Option Addr} {w_is_row : Array (Option Value)} {q1_is_row q2_is_row q3_is_row q4_is_row q5_is_row q6_is_row : Value} {f_is_stream : Addr} {o_is_stream n_is_stream : Option Addr} {w_is_stream : Array (Option Value)} {q1_is_stream q2_is_stream q3_is_stream q4_is_stream q5_is_stream q6_is_stream : Value} {f_must_be_side : Addr} {o_must_be_side n_must_be_side : Option Addr} {w_must_be_side : Array (Option Value)} {q1_must_be_side q2_must_be_side q3_must_be_side q4_must_be_side q5_must_be_side q6_must_be_side : Value} {f_dues : Addr} {o_dues n_dues : Option Addr} {w_dues : Array (Option Value)} {q1_dues q2_dues q3_dues q4_dues q5_dues q6_dues : Value} {f_goings_on : Addr} {o_goings_on n_goings_on : Option Addr} {w_goings_on : Array (Option Value)} {q1_goings_on q2_goings_on q3_goings_on q4_goings_on q5_goings_on q6_goings_on : Value} {f_is_table : Addr} {o_is_table n_is_table : Option Addr} {w_is_table : Array (Option Value)} {q1_is_table q2_is_table q3_is_table q4_is_table q5_is_table q6_is_table : Value} {f_wrong_number : Addr} {o_wrong_number n_wrong_number : Option Addr} {w_wrong_number : Array (Option Value)} {q1_wrong_number q2_wrong_number q3_wrong_number q4_wrong_number q5_wrong_number q6_wrong_number : Value} {f_judged : Addr} {o_judged n_judged : Option Addr} {w_judged : Array (Option Value)} {q1_judged q2_judged q3_judged q4_judged q5_judged q6_judged : Value} {f_l_mix : Addr} {o_l_mix n_l_mix : Option Addr} {w_l_mix : Array (Option Value)} {q1_l_mix q2_l_mix q3_l_mix q4_l_mix q5_l_mix q6_l_mix : Value} {f_l_cell_at : Addr} {o_l_cell_at n_l_cell_at : Option Addr} {w_l_cell_at : Array (Option Value)} {q1_l_cell_at q2_l_cell_at q3_l_cell_at q4_l_cell_at q5_l_cell_at q6_l_cell_at : Value} {f_l_left : Addr} {o_l_left n_l_left : Option Addr} {w_l_left : Array (Option Value)} {q1_l_left q2_l_left q3_l_left q4_l_left q5_l_left q6_l_left : Value} {f_l_draw : Addr} {o_l_draw n_l_draw : Option Addr} {w_l_draw : Array (Option Value)} {q1_l_draw q2_l_draw q3_l_draw q4_l_draw q5_l_draw q6_l_draw : Value} {f_l_some : Addr} {o_l_some n_l_some : Option Addr} {w_l_some : Array (Option Value)} {q1_l_some q2_l_some q3_l_some q4_l_some q5_l_some q6_l_some : Value} {f_l_rule : Addr} {o_l_rule n_l_rule : Option Addr} {w_l_rule : Array (Option Value)} {q1_l_rule q2_l_rule q3_l_rule q4_l_rule q5_l_rule q6_l_rule : Value} {f_l_battle : Addr} {o_l_battle n_l_battle : Option Addr} {w_l_battle : Array (Option Value)} {q1_l_battle q2_l_battle q3_l_battle q4_l_battle q5_l_battle q6_l_battle : Value} {f_l_paid : Addr} {o_l_paid n_l_paid : Option Addr} {w_l_paid : Array (Option Value)} {q1_l_paid q2_l_paid q3_l_paid q4_l_paid q5_l_paid q6_l_paid : Value} {f_l_plan : Addr} {o_l_plan n_l_plan : Option Addr} {w_l_plan : Array (Option Value)} {q1_l_plan q2_l_plan q3_l_plan q4_l_plan q5_l_plan q6_l_plan : Value} {f_l_flows : Addr} {o_l_flows n_l_flows : Option Addr} {w_l_flows : Array (Option Value)} {q1_l_flows q2_l_flows q3_l_flows q4_l_flows q5_l_flows q6_l_flows : Value} {f_l_lowest : Addr} {o_l_lowest n_l_lowest : Option Addr} {w_l_lowest : Array (Option Value)} {q1_l_lowest q2_l_lowest q3_l_lowest q4_l_lowest q5_l_lowest q6_l_lowest : Value} {f_l_dues : Addr} {o_l_dues n_l_dues : Option Addr} {w_l_dues : Array (Option Value)} {q1_l_dues q2_l_dues q3_l_dues q4_l_dues q5_l_dues q6_l_dues : Value} {f_l_comes : Addr} {o_l_comes n_l_comes : Option Addr} {w_l_comes : Array (Option Value)} {q1_l_comes q2_l_comes q3_l_comes q4_l_comes q5_l_comes q6_l_comes : Value} {f_l_table : Addr} {o_l_table n_l_table : Option Addr} {w_l_table : Array (Option Value)} {q1_l_table q2_l_table q3_l_table q4_l_table q5_l_table q6_l_table : Value} {f_l_all_plans : Addr} {o_l_all_plans n_l_all_plans : Option Addr} {w_l_all_plans : Array (Option Value)} {q1_l_all_plans q2_l_all_plans q3_l_all_plans q4_l_all_plans q5_l_all_plans q6_l_all_plans : Value} {f_l_brought : Addr} {o_l_brought n_l_brought : Option Addr} {w_l_brought : Array (Option Value)} {q1_l_brought q2_l_brought q3_l_brought q4_l_brought q5_l_brought q6_l_brought : Value} {f_l_tables : Addr} {o_l_tables n_l_tables : Option Addr} {w_l_tables : Array (Option Value)} {q1_l_tables q2_l_tables q3_l_tables q4_l_tables q5_l_tables q6_l_tables : Value} {f_law : Addr} {o_law n_law : Option Addr} {w_law : Array (Option Value)} {q1_law q2_law q3_law q4_law q5_law q6_law : Value} {t_MOST_HOSTS : Tok} {t_MOST_FIELDS : Tok} {e_SIDES : Addr} {j0_SIDES : Nat} {j1_SIDES : Array (Option Value)} {tk0_SIDES : Tok} {tk1_SIDES : Tok} {e_HostError : Addr} {e_NoBattle : Addr} {e_NoPlan : Addr} {e_NoSide : Addr} {xn_NoBattle xq_NoBattle : Str} {xN_NoBattle : Addr} {xb_NoBattle : List Value} {xs_NoBattle : List Str} {xu_NoBattle : List Value} {xa_NoBattle : Bool} {xc_NoBattle : Option Bool} {xd_NoBattle : Option Addr} {x0_NoBattle x1_NoBattle x2_NoBattle x3_NoBattle x5_NoBattle : Option Value} (X : K.In h) (G : h.Ns mainGlobals mg) (hfa : mg "law" = some (.ref fa))
    (h_HostError : PySem.W.nsIn K mainGlobals "HostError" = some (some (.ref e_HostError)))
    (h_NoBattle : PySem.W.nsIn K mainGlobals "NoBattle" = some (some (.ref e_NoBattle)))
    (h_NoPlan : PySem.W.nsIn K mainGlobals "NoPlan" = some (some (.ref e_NoPlan)))
    (h_NoSide : PySem.W.nsIn K mainGlobals "NoSide" = some (some (.ref e_NoSide)))
    (ic_NoBattle : PySem.W.findIn K (.ref e_NoBattle) "__init__" = some (some (.ref f_NoBattle_init)))
    (l_NoBattle_init : K.lookup f_NoBattle_init = some ⟨q1_NoBattle_init, o_NoBattle_init, .func (PySem.W.fnOf "__init__" "NoBattle.__init__" (defArgs s_NoBattle_init) (defBody s_NoBattle_init) (defScope s_NoBattle_init) .none q2_NoBattle_init q3_NoBattle_init q4_NoBattle_init n_NoBattle_init q5_NoBattle_init q6_NoBattle_init), w_NoBattle_init⟩)
    (c_NoBattle_init : PySem.W.codeIn K q5_NoBattle_init "NoBattle.__init__" = true)
    (k_NoBattle_init : PySem.W.keepIn K (.ref f_NoBattle_init) = true)
    (a_is_number : PySem.W.nsIn K mainGlobals "is_number" = some (some (.ref f_is_number)))
    (l_is_number : K.lookup f_is_number = some ⟨q1_is_number, o_is_number, .func (PySem.W.fnOf "is_number" "is_number" (defArgs s_is_number) (defBody s_is_number) (defScope s_is_number) .none q2_is_number q3_is_number q4_is_number n_is_number q5_is_number q6_is_number), w_is_number⟩)
    (c_is_number : PySem.W.codeIn K q5_is_number "is_number" = true)
    (k_is_number : PySem.W.keepIn K (.ref f_is_number) = true)
    (a_are_numbers : PySem.W.nsIn K mainGlobals "are_numbers" = some (some (.ref f_are_numbers)))
    (l_are_numbers : K.lookup f_are_numbers = some ⟨q1_are_numbers, o_are_numbers, .func (PySem.W.fnOf "are_numbers" "are_numbers" (defArgs s_are_numbers) (defBody s_are_numbers) (defScope s_are_numbers) .none q2_are_numbers q3_are_numbers q4_are_numbers n_are_numbers q5_are_numbers q6_are_numbers), w_are_numbers⟩)
    (c_are_numbers : PySem.W.codeIn K q5_are_numbers "are_numbers" = true)
    (k_are_numbers : PySem.W.keepIn K (.ref f_are_numbers) = true)
    (a_is_rule : PySem.W.nsIn K mainGlobals "is_rule" = some (some (.ref f_is_rule)))
    (l_is_rule : K.lookup f_is_rule = some ⟨q1_is_rule, o_is_rule, .func (PySem.W.fnOf "is_rule" "is_rule" (defArgs s_is_rule) (defBody s_is_rule) (defScope s_is_rule) .none q2_is_rule q3_is_rule q4_is_rule n_is_rule q5_is_rule q6_is_rule), w_is_rule⟩)
    (c_is_rule : PySem.W.codeIn K q5_is_rule "is_rule" = true)
    (k_is_rule : PySem.W.keepIn K (.ref f_is_rule) = true)
    (a_is_field : PySem.W.nsIn K mainGlobals "is_field" = some (some (.ref f_is_field)))
    (l_is_field : K.lookup f_is_field = some ⟨q1_is_field, o_is_field, .func (PySem.W.fnOf "is_field" "is_field" (defArgs s_is_field) (defBody s_is_field) (defScope s_is_field) .none q2_is_field q3_is_field q4_is_field n_is_field q5_is_field q6_is_field), w_is_field⟩)
    (c_is_field : PySem.W.codeIn K q5_is_field "is_field" = true)
    (k_is_field : PySem.W.keepIn K (.ref f_is_field) = true)
    (a_look_battle : PySem.W.nsIn K mainGlobals "look_battle" = some (some (.ref f_look_battle)))
    (l_look_battle : K.lookup f_look_battle = some ⟨q1_look_battle, o_look_battle, .func (PySem.W.fnOf "look_battle" "look_battle" (defArgs s_look_battle) (defBody s_look_battle) (defScope s_look_battle) .none q2_look_battle q3_look_battle q4_look_battle n_look_battle q5_look_battle q6_look_battle), w_look_battle⟩)
    (c_look_battle : PySem.W.codeIn K q5_look_battle "look_battle" = true)
    (k_look_battle : PySem.W.keepIn K (.ref f_look_battle) = true)
    (a_paid : PySem.W.nsIn K mainGlobals "paid" = some (some (.ref f_paid)))
    (l_paid : K.lookup f_paid = some ⟨q1_paid, o_paid, .func (PySem.W.fnOf "paid" "paid" (defArgs s_paid) (defBody s_paid) (defScope s_paid) .none q2_paid q3_paid q4_paid n_paid q5_paid q6_paid), w_paid⟩)
    (c_paid : PySem.W.codeIn K q5_paid "paid" = true)
    (k_paid : PySem.W.keepIn K (.ref f_paid) = true)
    (a_is_plan : PySem.W.nsIn K mainGlobals "is_plan" = some (some (.ref f_is_plan)))
    (l_is_plan : K.lookup f_is_plan = some ⟨q1_is_plan, o_is_plan, .func (PySem.W.fnOf "is_plan" "is_plan" (defArgs s_is_plan) (defBody s_is_plan) (defScope s_is_plan) .none q2_is_plan q3_is_plan q4_is_plan n_is_plan q5_is_plan q6_is_plan), w_is_plan⟩)
    (c_is_plan : PySem.W.codeIn K q5_is_plan "is_plan" = true)
    (k_is_plan : PySem.W.keepIn K (.ref f_is_plan) = true)
    (a_won : PySem.W.nsIn K mainGlobals "won" = some (some (.ref f_won)))
    (l_won : K.lookup f_won = some ⟨q1_won, o_won, .func (PySem.W.fnOf "won" "won" (defArgs s_won) (defBody s_won) (defScope s_won) .none q2_won q3_won q4_won n_won q5_won q6_won), w_won⟩)
    (c_won : PySem.W.codeIn K q5_won "won" = true)
    (k_won : PySem.W.keepIn K (.ref f_won) = true)
    (a_gain : PySem.W.nsIn K mainGlobals "gain" = some (some (.ref f_gain)))
    (l_gain : K.lookup f_gain = some ⟨q1_gain, o_gain, .func (PySem.W.fnOf "gain" "gain" (defArgs s_gain) (defBody s_gain) (defScope s_gain) .none q2_gain q3_gain q4_gain n_gain q5_gain q6_gain), w_gain⟩)
    (c_gain : PySem.W.codeIn K q5_gain "gain" = true)
    (k_gain : PySem.W.keepIn K (.ref f_gain) = true)
    (a_is_row : PySem.W.nsIn K mainGlobals "is_row" = some (some (.ref f_is_row)))
    (l_is_row : K.lookup f_is_row = some ⟨q1_is_row, o_is_row, .func (PySem.W.fnOf "is_row" "is_row" (defArgs s_is_row) (defBody s_is_row) (defScope s_is_row) .none q2_is_row q3_is_row q4_is_row n_is_row q5_is_row q6_is_row), w_is_row⟩)
    (c_is_row : PySem.W.codeIn K q5_is_row "is_row" = true)
    (k_is_row : PySem.W.keepIn K (.ref f_is_row) = true)
    (a_is_stream : PySem.W.nsIn K mainGlobals "is_stream" = some (some (.ref f_is_stream)))
    (l_is_stream : K.lookup f_is_stream = some ⟨q1_is_stream, o_is_stream, .func (PySem.W.fnOf "is_stream" "is_stream" (defArgs s_is_stream) (defBody s_is_stream) (defScope s_is_stream) .none q2_is_stream q3_is_stream q4_is_stream n_is_stream q5_is_stream q6_is_stream), w_is_stream⟩)
    (c_is_stream : PySem.W.codeIn K q5_is_stream "is_stream" = true)
    (k_is_stream : PySem.W.keepIn K (.ref f_is_stream) = true)
    (a_must_be_side : PySem.W.nsIn K mainGlobals "must_be_side" = some (some (.ref f_must_be_side)))
    (l_must_be_side : K.lookup f_must_be_side = some ⟨q1_must_be_side, o_must_be_side, .func (PySem.W.fnOf "must_be_side" "must_be_side" (defArgs s_must_be_side) (defBody s_must_be_side) (defScope s_must_be_side) .none q2_must_be_side q3_must_be_side q4_must_be_side n_must_be_side q5_must_be_side q6_must_be_side), w_must_be_side⟩)
    (c_must_be_side : PySem.W.codeIn K q5_must_be_side "must_be_side" = true)
    (k_must_be_side : PySem.W.keepIn K (.ref f_must_be_side) = true)
    (a_dues : PySem.W.nsIn K mainGlobals "dues" = some (some (.ref f_dues)))
    (l_dues : K.lookup f_dues = some ⟨q1_dues, o_dues, .func (PySem.W.fnOf "dues" "dues" (defArgs s_dues) (defBody s_dues) (defScope s_dues) .none q2_dues q3_dues q4_dues n_dues q5_dues q6_dues), w_dues⟩)
    (c_dues : PySem.W.codeIn K q5_dues "dues" = true)
    (k_dues : PySem.W.keepIn K (.ref f_dues) = true)
    (a_goings_on : PySem.W.nsIn K mainGlobals "goings_on" = some (some (.ref f_goings_on)))
    (l_goings_on : K.lookup f_goings_on = some ⟨q1_goings_on, o_goings_on, .func (PySem.W.fnOf "goings_on" "goings_on" (defArgs s_goings_on) (defBody s_goings_on) (defScope s_goings_on) .none q2_goings_on q3_goings_on q4_goings_on n_goings_on q5_goings_on q6_goings_on), w_goings_on⟩)
    (c_goings_on : PySem.W.codeIn K q5_goings_on "goings_on" = true)
    (k_goings_on : PySem.W.keepIn K (.ref f_goings_on) = true)
    (a_is_table : PySem.W.nsIn K mainGlobals "is_table" = some (some (.ref f_is_table)))
    (l_is_table : K.lookup f_is_table = some ⟨q1_is_table, o_is_table, .func (PySem.W.fnOf "is_table" "is_table" (defArgs s_is_table) (defBody s_is_table) (defScope s_is_table) .none q2_is_table q3_is_table q4_is_table n_is_table q5_is_table q6_is_table), w_is_table⟩)
    (c_is_table : PySem.W.codeIn K q5_is_table "is_table" = true)
    (k_is_table : PySem.W.keepIn K (.ref f_is_table) = true)
    (a_wrong_number : PySem.W.nsIn K mainGlobals "wrong_number" = some (some (.ref f_wrong_number)))
    (l_wrong_number : K.lookup f_wrong_number = some ⟨q1_wrong_number, o_wrong_number, .func (PySem.W.fnOf "wrong_number" "wrong_number" (defArgs s_wrong_number) (defBody s_wrong_number) (defScope s_wrong_number) .none q2_wrong_number q3_wrong_number q4_wrong_number n_wrong_number q5_wrong_number q6_wrong_number), w_wrong_number⟩)
    (c_wrong_number : PySem.W.codeIn K q5_wrong_number "wrong_number" = true)
    (k_wrong_number : PySem.W.keepIn K (.ref f_wrong_number) = true)
    (a_judged : PySem.W.nsIn K mainGlobals "judged" = some (some (.ref f_judged)))
    (l_judged : K.lookup f_judged = some ⟨q1_judged, o_judged, .func (PySem.W.fnOf "judged" "judged" (defArgs s_judged) (defBody s_judged) (defScope s_judged) .none q2_judged q3_judged q4_judged n_judged q5_judged q6_judged), w_judged⟩)
    (c_judged : PySem.W.codeIn K q5_judged "judged" = true)
    (k_judged : PySem.W.keepIn K (.ref f_judged) = true)
    (a_l_mix : PySem.W.nsIn K mainGlobals "_law_mix" = some (some (.ref f_l_mix)))
    (l_l_mix : K.lookup f_l_mix = some ⟨q1_l_mix, o_l_mix, .func (PySem.W.fnOf "_law_mix" "_law_mix" (defArgs s_l_mix) (defBody s_l_mix) (defScope s_l_mix) .none q2_l_mix q3_l_mix q4_l_mix n_l_mix q5_l_mix q6_l_mix), w_l_mix⟩)
    (c_l_mix : PySem.W.codeIn K q5_l_mix "_law_mix" = true)
    (k_l_mix : PySem.W.keepIn K (.ref f_l_mix) = true)
    (a_l_cell_at : PySem.W.nsIn K mainGlobals "_law_cell_at" = some (some (.ref f_l_cell_at)))
    (l_l_cell_at : K.lookup f_l_cell_at = some ⟨q1_l_cell_at, o_l_cell_at, .func (PySem.W.fnOf "_law_cell_at" "_law_cell_at" (defArgs s_l_cell_at) (defBody s_l_cell_at) (defScope s_l_cell_at) .none q2_l_cell_at q3_l_cell_at q4_l_cell_at n_l_cell_at q5_l_cell_at q6_l_cell_at), w_l_cell_at⟩)
    (c_l_cell_at : PySem.W.codeIn K q5_l_cell_at "_law_cell_at" = true)
    (k_l_cell_at : PySem.W.keepIn K (.ref f_l_cell_at) = true)
    (a_l_left : PySem.W.nsIn K mainGlobals "_law_left" = some (some (.ref f_l_left)))
    (l_l_left : K.lookup f_l_left = some ⟨q1_l_left, o_l_left, .func (PySem.W.fnOf "_law_left" "_law_left" (defArgs s_l_left) (defBody s_l_left) (defScope s_l_left) .none q2_l_left q3_l_left q4_l_left n_l_left q5_l_left q6_l_left), w_l_left⟩)
    (c_l_left : PySem.W.codeIn K q5_l_left "_law_left" = true)
    (k_l_left : PySem.W.keepIn K (.ref f_l_left) = true)
    (a_l_draw : PySem.W.nsIn K mainGlobals "_law_draw" = some (some (.ref f_l_draw)))
    (l_l_draw : K.lookup f_l_draw = some ⟨q1_l_draw, o_l_draw, .func (PySem.W.fnOf "_law_draw" "_law_draw" (defArgs s_l_draw) (defBody s_l_draw) (defScope s_l_draw) .none q2_l_draw q3_l_draw q4_l_draw n_l_draw q5_l_draw q6_l_draw), w_l_draw⟩)
    (c_l_draw : PySem.W.codeIn K q5_l_draw "_law_draw" = true)
    (k_l_draw : PySem.W.keepIn K (.ref f_l_draw) = true)
    (a_l_some : PySem.W.nsIn K mainGlobals "_law_some" = some (some (.ref f_l_some)))
    (l_l_some : K.lookup f_l_some = some ⟨q1_l_some, o_l_some, .func (PySem.W.fnOf "_law_some" "_law_some" (defArgs s_l_some) (defBody s_l_some) (defScope s_l_some) .none q2_l_some q3_l_some q4_l_some n_l_some q5_l_some q6_l_some), w_l_some⟩)
    (c_l_some : PySem.W.codeIn K q5_l_some "_law_some" = true)
    (k_l_some : PySem.W.keepIn K (.ref f_l_some) = true)
    (a_l_rule : PySem.W.nsIn K mainGlobals "_law_rule" = some (some (.ref f_l_rule)))
    (l_l_rule : K.lookup f_l_rule = some ⟨q1_l_rule, o_l_rule, .func (PySem.W.fnOf "_law_rule" "_law_rule" (defArgs s_l_rule) (defBody s_l_rule) (defScope s_l_rule) .none q2_l_rule q3_l_rule q4_l_rule n_l_rule q5_l_rule q6_l_rule), w_l_rule⟩)
    (c_l_rule : PySem.W.codeIn K q5_l_rule "_law_rule" = true)
    (k_l_rule : PySem.W.keepIn K (.ref f_l_rule) = true)
    (a_l_battle : PySem.W.nsIn K mainGlobals "_law_battle" = some (some (.ref f_l_battle)))
    (l_l_battle : K.lookup f_l_battle = some ⟨q1_l_battle, o_l_battle, .func (PySem.W.fnOf "_law_battle" "_law_battle" (defArgs s_l_battle) (defBody s_l_battle) (defScope s_l_battle) .none q2_l_battle q3_l_battle q4_l_battle n_l_battle q5_l_battle q6_l_battle), w_l_battle⟩)
    (c_l_battle : PySem.W.codeIn K q5_l_battle "_law_battle" = true)
    (k_l_battle : PySem.W.keepIn K (.ref f_l_battle) = true)
    (a_l_paid : PySem.W.nsIn K mainGlobals "_law_paid" = some (some (.ref f_l_paid)))
    (l_l_paid : K.lookup f_l_paid = some ⟨q1_l_paid, o_l_paid, .func (PySem.W.fnOf "_law_paid" "_law_paid" (defArgs s_l_paid) (defBody s_l_paid) (defScope s_l_paid) .none q2_l_paid q3_l_paid q4_l_paid n_l_paid q5_l_paid q6_l_paid), w_l_paid⟩)
    (c_l_paid : PySem.W.codeIn K q5_l_paid "_law_paid" = true)
    (k_l_paid : PySem.W.keepIn K (.ref f_l_paid) = true)
    (a_l_plan : PySem.W.nsIn K mainGlobals "_law_plan" = some (some (.ref f_l_plan)))
    (l_l_plan : K.lookup f_l_plan = some ⟨q1_l_plan, o_l_plan, .func (PySem.W.fnOf "_law_plan" "_law_plan" (defArgs s_l_plan) (defBody s_l_plan) (defScope s_l_plan) .none q2_l_plan q3_l_plan q4_l_plan n_l_plan q5_l_plan q6_l_plan), w_l_plan⟩)
    (c_l_plan : PySem.W.codeIn K q5_l_plan "_law_plan" = true)
    (k_l_plan : PySem.W.keepIn K (.ref f_l_plan) = true)
    (a_l_flows : PySem.W.nsIn K mainGlobals "_law_flows" = some (some (.ref f_l_flows)))
    (l_l_flows : K.lookup f_l_flows = some ⟨q1_l_flows, o_l_flows, .func (PySem.W.fnOf "_law_flows" "_law_flows" (defArgs s_l_flows) (defBody s_l_flows) (defScope s_l_flows) .none q2_l_flows q3_l_flows q4_l_flows n_l_flows q5_l_flows q6_l_flows), w_l_flows⟩)
    (c_l_flows : PySem.W.codeIn K q5_l_flows "_law_flows" = true)
    (k_l_flows : PySem.W.keepIn K (.ref f_l_flows) = true)
    (a_l_lowest : PySem.W.nsIn K mainGlobals "_law_lowest" = some (some (.ref f_l_lowest)))
    (l_l_lowest : K.lookup f_l_lowest = some ⟨q1_l_lowest, o_l_lowest, .func (PySem.W.fnOf "_law_lowest" "_law_lowest" (defArgs s_l_lowest) (defBody s_l_lowest) (defScope s_l_lowest) .none q2_l_lowest q3_l_lowest q4_l_lowest n_l_lowest q5_l_lowest q6_l_lowest), w_l_lowest⟩)
    (c_l_lowest : PySem.W.codeIn K q5_l_lowest "_law_lowest" = true)
    (k_l_lowest : PySem.W.keepIn K (.ref f_l_lowest) = true)
    (a_l_dues : PySem.W.nsIn K mainGlobals "_law_dues" = some (some (.ref f_l_dues)))
    (l_l_dues : K.lookup f_l_dues = some ⟨q1_l_dues, o_l_dues, .func (PySem.W.fnOf "_law_dues" "_law_dues" (defArgs s_l_dues) (defBody s_l_dues) (defScope s_l_dues) .none q2_l_dues q3_l_dues q4_l_dues n_l_dues q5_l_dues q6_l_dues), w_l_dues⟩)
    (c_l_dues : PySem.W.codeIn K q5_l_dues "_law_dues" = true)
    (k_l_dues : PySem.W.keepIn K (.ref f_l_dues) = true)
    (a_l_comes : PySem.W.nsIn K mainGlobals "_law_comes" = some (some (.ref f_l_comes)))
    (l_l_comes : K.lookup f_l_comes = some ⟨q1_l_comes, o_l_comes, .func (PySem.W.fnOf "_law_comes" "_law_comes" (defArgs s_l_comes) (defBody s_l_comes) (defScope s_l_comes) .none q2_l_comes q3_l_comes q4_l_comes n_l_comes q5_l_comes q6_l_comes), w_l_comes⟩)
    (c_l_comes : PySem.W.codeIn K q5_l_comes "_law_comes" = true)
    (k_l_comes : PySem.W.keepIn K (.ref f_l_comes) = true)
    (a_l_table : PySem.W.nsIn K mainGlobals "_law_table" = some (some (.ref f_l_table)))
    (l_l_table : K.lookup f_l_table = some ⟨q1_l_table, o_l_table, .func (PySem.W.fnOf "_law_table" "_law_table" (defArgs s_l_table) (defBody s_l_table) (defScope s_l_table) .none q2_l_table q3_l_table q4_l_table n_l_table q5_l_table q6_l_table), w_l_table⟩)
    (c_l_table : PySem.W.codeIn K q5_l_table "_law_table" = true)
    (k_l_table : PySem.W.keepIn K (.ref f_l_table) = true)
    (a_l_all_plans : PySem.W.nsIn K mainGlobals "_law_all_plans" = some (some (.ref f_l_all_plans)))
    (l_l_all_plans : K.lookup f_l_all_plans = some ⟨q1_l_all_plans, o_l_all_plans, .func (PySem.W.fnOf "_law_all_plans" "_law_all_plans" (defArgs s_l_all_plans) (defBody s_l_all_plans) (defScope s_l_all_plans) .none q2_l_all_plans q3_l_all_plans q4_l_all_plans n_l_all_plans q5_l_all_plans q6_l_all_plans), w_l_all_plans⟩)
    (c_l_all_plans : PySem.W.codeIn K q5_l_all_plans "_law_all_plans" = true)
    (k_l_all_plans : PySem.W.keepIn K (.ref f_l_all_plans) = true)
    (a_l_brought : PySem.W.nsIn K mainGlobals "_law_brought" = some (some (.ref f_l_brought)))
    (l_l_brought : K.lookup f_l_brought = some ⟨q1_l_brought, o_l_brought, .func (PySem.W.fnOf "_law_brought" "_law_brought" (defArgs s_l_brought) (defBody s_l_brought) (defScope s_l_brought) .none q2_l_brought q3_l_brought q4_l_brought n_l_brought q5_l_brought q6_l_brought), w_l_brought⟩)
    (c_l_brought : PySem.W.codeIn K q5_l_brought "_law_brought" = true)
    (k_l_brought : PySem.W.keepIn K (.ref f_l_brought) = true)
    (a_l_tables : PySem.W.nsIn K mainGlobals "_law_tables" = some (some (.ref f_l_tables)))
    (l_l_tables : K.lookup f_l_tables = some ⟨q1_l_tables, o_l_tables, .func (PySem.W.fnOf "_law_tables" "_law_tables" (defArgs s_l_tables) (defBody s_l_tables) (defScope s_l_tables) .none q2_l_tables q3_l_tables q4_l_tables n_l_tables q5_l_tables q6_l_tables), w_l_tables⟩)
    (c_l_tables : PySem.W.codeIn K q5_l_tables "_law_tables" = true)
    (k_l_tables : PySem.W.keepIn K (.ref f_l_tables) = true)
    (a_law : PySem.W.nsIn K mainGlobals "law" = some (some (.ref f_law)))
    (l_law : K.lookup f_law = some ⟨q1_law, o_law, .func (PySem.W.fnOf "law" "law" (defArgs s_law) (defBody s_law) (defScope s_law) .none q2_law q3_law q4_law n_law q5_law q6_law), w_law⟩)
    (c_law : PySem.W.codeIn K q5_law "law" = true)
    (k_law : PySem.W.keepIn K (.ref f_law) = true)
    (z_bool : PySem.W.nsIn K mainGlobals "bool" = some none)
    (z_int : PySem.W.nsIn K mainGlobals "int" = some none)
    (z_isinstance : PySem.W.nsIn K mainGlobals "isinstance" = some none)
    (z_len : PySem.W.nsIn K mainGlobals "len" = some none)
    (z_list : PySem.W.nsIn K mainGlobals "list" = some none)
    (z_max : PySem.W.nsIn K mainGlobals "max" = some none)
    (z_min : PySem.W.nsIn K mainGlobals "min" = some none)
    (z_range : PySem.W.nsIn K mainGlobals "range" = some none)
    (z_reversed : PySem.W.nsIn K mainGlobals "reversed" = some none)
    (z_sorted : PySem.W.nsIn K mainGlobals "sorted" = some none)
    (z_sum : PySem.W.nsIn K mainGlobals "sum" = some none)
    (z_tuple : PySem.W.nsIn K mainGlobals "tuple" = some none)
    (h_MOST_HOSTS : PySem.W.nsIn K mainGlobals "MOST_HOSTS" = some (some (.int 10 t_MOST_HOSTS)))
    (h_MOST_FIELDS : PySem.W.nsIn K mainGlobals "MOST_FIELDS" = some (some (.int 5 t_MOST_FIELDS)))
    (h_SIDES : PySem.W.nsIn K mainGlobals "SIDES" = some (some (.ref e_SIDES)))
    (lq_SIDES : K.lookup e_SIDES = some ⟨.type "list", none, .seq #[.str (PySem.Str.ofString "first") tk0_SIDES, .str (PySem.Str.ofString "second") tk1_SIDES] j0_SIDES, j1_SIDES⟩)
    (i_HostError : PySem.W.isClsIn K e_HostError = true)
    (t_HostError : PySem.W.typeIn K (.ref e_HostError) = some (.type "type"))
    (y_HostError : PySem.W.subIn K (.ref e_HostError) (.type "BaseException") = some true)
    (i_NoBattle : PySem.W.isClsIn K e_NoBattle = true)
    (t_NoBattle : PySem.W.typeIn K (.ref e_NoBattle) = some (.type "type"))
    (y_NoBattle : PySem.W.subIn K (.ref e_NoBattle) (.type "BaseException") = some true)
    (i_NoPlan : PySem.W.isClsIn K e_NoPlan = true)
    (t_NoPlan : PySem.W.typeIn K (.ref e_NoPlan) = some (.type "type"))
    (y_NoPlan : PySem.W.subIn K (.ref e_NoPlan) (.type "BaseException") = some true)
    (i_NoSide : PySem.W.isClsIn K e_NoSide = true)
    (t_NoSide : PySem.W.typeIn K (.ref e_NoSide) = some (.type "type"))
    (y_NoSide : PySem.W.subIn K (.ref e_NoSide) (.type "BaseException") = some true)
    (x_NoPlan : PySem.W.excIn K e_NoPlan [.type "ValueError", .type "Exception", .type "BaseException", .type "object"] "ValueError.__new__" = true)
    (k_NoPlan : PySem.W.keepIn K (.ref e_NoPlan) = true)
    (hg_NoPlan : PySem.W.findIn K (.ref e_NoPlan) "__getattribute__" = some (some (.builtin "BaseException.__getattribute__")))
    (hk_NoPlan : PySem.W.findIn K (.ref e_NoPlan) "__getattr__" = some none)
    (hd_NoPlan : PySem.W.hasDictIn K e_NoPlan = true)
    (ha_NoPlan : PySem.W.findIn K (.ref e_NoPlan) "__class__" = some (some (.builtin "object.__class__")))
    (hm_NoPlan : PySem.W.mroIn K e_NoPlan (.type "object") = some true)
    (v_NoPlan : PySem.W.subIn K (.ref e_NoPlan) (.type "ValueError") = some true)
    (s_NoPlan_HostError : PySem.W.subIn K (.ref e_NoPlan) (.ref e_HostError) = some true)
    (s_NoPlan_NoBattle : PySem.W.subIn K (.ref e_NoPlan) (.ref e_NoBattle) = some false)
    (s_NoPlan_NoPlan : PySem.W.subIn K (.ref e_NoPlan) (.ref e_NoPlan) = some true)
    (s_NoPlan_NoSide : PySem.W.subIn K (.ref e_NoPlan) (.ref e_NoSide) = some false)
    (x_NoSide : PySem.W.excIn K e_NoSide [.type "ValueError", .type "Exception", .type "BaseException", .type "object"] "ValueError.__new__" = true)
    (k_NoSide : PySem.W.keepIn K (.ref e_NoSide) = true)
    (hg_NoSide : PySem.W.findIn K (.ref e_NoSide) "__getattribute__" = some (some (.builtin "BaseException.__getattribute__")))
    (hk_NoSide : PySem.W.findIn K (.ref e_NoSide) "__getattr__" = some none)
    (hd_NoSide : PySem.W.hasDictIn K e_NoSide = true)
    (ha_NoSide : PySem.W.findIn K (.ref e_NoSide) "__class__" = some (some (.builtin "object.__class__")))
    (hm_NoSide : PySem.W.mroIn K e_NoSide (.type "object") = some true)
    (v_NoSide : PySem.W.subIn K (.ref e_NoSide) (.type "ValueError") = some true)
    (s_NoSide_HostError : PySem.W.subIn K (.ref e_NoSide) (.ref e_HostError) = some true)
    (s_NoSide_NoBattle : PySem.W.subIn K (.ref e_NoSide) (.ref e_NoBattle) = some false)
    (s_NoSide_NoPlan : PySem.W.subIn K (.ref e_NoSide) (.ref e_NoPlan) = some false)
    (s_NoSide_NoSide : PySem.W.subIn K (.ref e_NoSide) (.ref e_NoSide) = some true)
    (oc_NoBattle : K.lookup e_NoBattle = some (excClassObj xn_NoBattle xq_NoBattle e_NoBattle xN_NoBattle xb_NoBattle (.ref e_HostError :: [.type "ValueError", .type "Exception", .type "BaseException", .type "object"]) true xs_NoBattle xu_NoBattle xa_NoBattle xc_NoBattle xd_NoBattle x0_NoBattle x1_NoBattle x2_NoBattle x3_NoBattle x5_NoBattle "ValueError.__new__"))
    (sa_NoBattle : PySem.W.findIn K (.ref e_NoBattle) "__setattr__" = some (some (.builtin "object.__setattr__")))
    (ti_NoBattle : PySem.W.typeIn K (.ref f_NoBattle_init) = some (.type "function"))
    (no_NoBattle_field : PySem.W.findIn K (.ref e_NoBattle) "field" = some none)
    (rd_HostError : PySem.W.readsIn K e_HostError (.type "type") = true)
    (ga_HostError : PySem.W.specialIn K (.ref e_HostError) "__getattribute__" = some (some (.builtin "type.__getattribute__")))
    (fc_HostError : PySem.W.findCls K (.ref e_HostError) (.type "type") "__init__" = some (.val (.builtin "ValueError.__init__")))
    (k_NoBattle : PySem.W.keepIn K (.ref e_NoBattle) = true)
    (hg_NoBattle : PySem.W.findIn K (.ref e_NoBattle) "__getattribute__" = some (some (.builtin "BaseException.__getattribute__")))
    (hk_NoBattle : PySem.W.findIn K (.ref e_NoBattle) "__getattr__" = some none)
    (hd_NoBattle : PySem.W.hasDictIn K e_NoBattle = true)
    (ha_NoBattle : PySem.W.findIn K (.ref e_NoBattle) "__class__" = some (some (.builtin "object.__class__")))
    (hm_NoBattle : PySem.W.mroIn K e_NoBattle (.type "object") = some true)
    (v_NoBattle : PySem.W.subIn K (.ref e_NoBattle) (.type "ValueError") = some true)
    (s_NoBattle_HostError : PySem.W.subIn K (.ref e_NoBattle) (.ref e_HostError) = some true)
    (s_NoBattle_NoBattle : PySem.W.subIn K (.ref e_NoBattle) (.ref e_NoBattle) = some true)
    (s_NoBattle_NoPlan : PySem.W.subIn K (.ref e_NoBattle) (.ref e_NoPlan) = some false)
    (s_NoBattle_NoSide : PySem.W.subIn K (.ref e_NoBattle) (.ref e_NoSide) = some false)
    (ho_n : PySem.W.specialIn K (.builtin "object.__class__") "__get__" = some (some (.builtin "getset_descriptor.__get__")))
    (ho_t : PySem.W.takesIn K (.builtin "object.__class__") = some true) : ∃ fd : FuncData, (∀ (s : Shared) (v : Value), BindsTo s fd ⟨[v], []⟩ [("_law_script", v)]) ∧ ∀ base : Heap, K.In base → base.Ns mainGlobals mg → FnOk P w K mg base CX0 8 fa fd ["_law_script"] (sp_law K) := by
  obtain ⟨T, e1, e2⟩ := mk_txt X G h_HostError h_NoBattle h_NoPlan h_NoSide ic_NoBattle l_NoBattle_init c_NoBattle_init k_NoBattle_init a_is_number l_is_number c_is_number k_is_number a_are_numbers l_are_numbers c_are_numbers k_are_numbers a_is_rule l_is_rule c_is_rule k_is_rule a_is_field l_is_field c_is_field k_is_field a_look_battle l_look_battle c_look_battle k_look_battle a_paid l_paid c_paid k_paid a_is_plan l_is_plan c_is_plan k_is_plan a_won l_won c_won k_won a_gain l_gain c_gain k_gain a_is_row l_is_row c_is_row k_is_row a_is_stream l_is_stream c_is_stream k_is_stream a_must_be_side l_must_be_side c_must_be_side k_must_be_side a_dues l_dues c_dues k_dues a_goings_on l_goings_on c_goings_on k_goings_on a_is_table l_is_table c_is_table k_is_table a_wrong_number l_wrong_number c_wrong_number k_wrong_number a_judged l_judged c_judged k_judged a_l_mix l_l_mix c_l_mix k_l_mix a_l_cell_at l_l_cell_at c_l_cell_at k_l_cell_at a_l_left l_l_left c_l_left k_l_left a_l_draw l_l_draw c_l_draw k_l_draw a_l_some l_l_some c_l_some k_l_some a_l_rule l_l_rule c_l_rule k_l_rule a_l_battle l_l_battle c_l_battle k_l_battle a_l_paid l_l_paid c_l_paid k_l_paid a_l_plan l_l_plan c_l_plan k_l_plan a_l_flows l_l_flows c_l_flows k_l_flows a_l_lowest l_l_lowest c_l_lowest k_l_lowest a_l_dues l_l_dues c_l_dues k_l_dues a_l_comes l_l_comes c_l_comes k_l_comes a_l_table l_l_table c_l_table k_l_table a_l_all_plans l_l_all_plans c_l_all_plans k_l_all_plans a_l_brought l_l_brought c_l_brought k_l_brought a_l_tables l_l_tables c_l_tables k_l_tables a_law l_law c_law k_law z_bool z_int z_isinstance z_len z_list z_max z_min z_range z_reversed z_sorted z_sum z_tuple h_MOST_HOSTS h_MOST_FIELDS h_SIDES lq_SIDES i_HostError t_HostError y_HostError i_NoBattle t_NoBattle y_NoBattle i_NoPlan t_NoPlan y_NoPlan i_NoSide t_NoSide y_NoSide x_NoPlan k_NoPlan hg_NoPlan hk_NoPlan hd_NoPlan ha_NoPlan hm_NoPlan v_NoPlan s_NoPlan_HostError s_NoPlan_NoBattle s_NoPlan_NoPlan s_NoPlan_NoSide x_NoSide k_NoSide hg_NoSide hk_NoSide hd_NoSide ha_NoSide hm_NoSide v_NoSide s_NoSide_HostError s_NoSide_NoBattle s_NoSide_NoPlan s_NoSide_NoSide oc_NoBattle sa_NoBattle ti_NoBattle no_NoBattle_field rd_HostError ga_HostError fc_HostError k_NoBattle hg_NoBattle hk_NoBattle hd_NoBattle ha_NoBattle hm_NoBattle v_NoBattle s_NoBattle_HostError s_NoBattle_NoBattle s_NoBattle_NoPlan s_NoBattle_NoSide ho_n ho_t
  have e := hfa.symm.trans (PySem.W.mg_of X G a_law)
  cases e
  exact ⟨T.d_law, e2, fun base _ _ => e1 ▸ ok_law T⟩
end K32
open PySem PySem.W PyProof.Rows
set_option maxHeartbeats 0 in
theorem PySem.Challenge.cw_hostfields_k32_whole_no_plan_does_better_holds : PySem.Challenge.rw_hostfields_k32_whole_no_plan_does_better.Holds := by
  w_on; o_law; k_head; (case hw => w_witness2)
  k_fill
  refine L2.walk_of (l := PySem.Challenge.rw_hostfields_k32_whole_no_plan_does_better) (n := 63) (k := 8) (x := "_law_script") (CX := fun _ => L2.CX0) (sp := fun w => K32.sp_law _) rfl (by decide) rfl ⟨rfl, by decide, by decide⟩ (fun w h Y => PySem.W.kIn_of Y) ?F (fun _ _ a ns hl _ hS => ⟨a, ns, rfl, hS, hl, fun _ => rfl⟩) (fun _ _ _ _ _ h => h)
  case F =>
    intro w mg fa h KX G hmg
    refine' K32.all_mk KX G hmg ?h_HostError ?h_NoBattle ?h_NoPlan ?h_NoSide ?ic_NoBattle ?l_NoBattle_init ?c_NoBattle_init ?k_NoBattle_init ?a_is_number ?l_is_number ?c_is_number ?k_is_number ?a_are_numbers ?l_are_numbers ?c_are_numbers ?k_are_numbers ?a_is_rule ?l_is_rule ?c_is_rule ?k_is_rule ?a_is_field ?l_is_field ?c_is_field ?k_is_field ?a_look_battle ?l_look_battle ?c_look_battle ?k_look_battle ?a_paid ?l_paid ?c_paid ?k_paid ?a_is_plan ?l_is_plan ?c_is_plan ?k_is_plan ?a_won ?l_won ?c_won ?k_won ?a_gain ?l_gain ?c_gain ?k_gain ?a_is_row ?l_is_row ?c_is_row ?k_is_row ?a_is_stream ?l_is_stream ?c_is_stream ?k_is_stream ?a_must_be_side ?l_must_be_side ?c_must_be_side ?k_must_be_side ?a_dues ?l_dues ?c_dues ?k_dues ?a_goings_on ?l_goings_on ?c_goings_on ?k_goings_on ?a_is_table ?l_is_table ?c_is_table ?k_is_table ?a_wrong_number ?l_wrong_number ?c_wrong_number ?k_wrong_number ?a_judged ?l_judged ?c_judged ?k_judged ?a_l_mix ?l_l_mix ?c_l_mix ?k_l_mix ?a_l_cell_at ?l_l_cell_at ?c_l_cell_at ?k_l_cell_at ?a_l_left ?l_l_left ?c_l_left ?k_l_left ?a_l_draw ?l_l_draw ?c_l_draw ?k_l_draw ?a_l_some ?l_l_some ?c_l_some ?k_l_some ?a_l_rule ?l_l_rule ?c_l_rule ?k_l_rule ?a_l_battle ?l_l_battle ?c_l_battle ?k_l_battle ?a_l_paid ?l_l_paid ?c_l_paid ?k_l_paid ?a_l_plan ?l_l_plan ?c_l_plan ?k_l_plan ?a_l_flows ?l_l_flows ?c_l_flows ?k_l_flows ?a_l_lowest ?l_l_lowest ?c_l_lowest ?k_l_lowest ?a_l_dues ?l_l_dues ?c_l_dues ?k_l_dues ?a_l_comes ?l_l_comes ?c_l_comes ?k_l_comes ?a_l_table ?l_l_table ?c_l_table ?k_l_table ?a_l_all_plans ?l_l_all_plans ?c_l_all_plans ?k_l_all_plans ?a_l_brought ?l_l_brought ?c_l_brought ?k_l_brought ?a_l_tables ?l_l_tables ?c_l_tables ?k_l_tables ?a_law ?l_law ?c_law ?k_law ?z_bool ?z_int ?z_isinstance ?z_len ?z_list ?z_max ?z_min ?z_range ?z_reversed ?z_sorted ?z_sum ?z_tuple ?h_MOST_HOSTS ?h_MOST_FIELDS ?h_SIDES ?lq_SIDES ?i_HostError ?t_HostError ?y_HostError ?i_NoBattle ?t_NoBattle ?y_NoBattle ?i_NoPlan ?t_NoPlan ?y_NoPlan ?i_NoSide ?t_NoSide ?y_NoSide ?x_NoPlan ?k_NoPlan ?hg_NoPlan ?hk_NoPlan ?hd_NoPlan ?ha_NoPlan ?hm_NoPlan ?v_NoPlan ?s_NoPlan_HostError ?s_NoPlan_NoBattle ?s_NoPlan_NoPlan ?s_NoPlan_NoSide ?x_NoSide ?k_NoSide ?hg_NoSide ?hk_NoSide ?hd_NoSide ?ha_NoSide ?hm_NoSide ?v_NoSide ?s_NoSide_HostError ?s_NoSide_NoBattle ?s_NoSide_NoPlan ?s_NoSide_NoSide ?oc_NoBattle ?sa_NoBattle ?ti_NoBattle ?no_NoBattle_field ?rd_HostError ?ga_HostError ?fc_HostError ?k_NoBattle ?hg_NoBattle ?hk_NoBattle ?hd_NoBattle ?ha_NoBattle ?hm_NoBattle ?v_NoBattle ?s_NoBattle_HostError ?s_NoBattle_NoBattle ?s_NoBattle_NoPlan ?s_NoBattle_NoSide ?ho_n ?ho_t
    (case h_HostError => k_is); (case h_NoBattle => k_is); (case h_NoPlan => k_is); (case h_NoSide => k_is); (case ic_NoBattle => k_is); (case l_NoBattle_init => k_is); (case c_NoBattle_init => k_is); (case k_NoBattle_init => k_is); (case a_is_number => k_is); (case l_is_number => k_is); (case c_is_number => k_is); (case k_is_number => k_is); (case a_are_numbers => k_is); (case l_are_numbers => k_is); (case c_are_numbers => k_is); (case k_are_numbers => k_is); (case a_is_rule => k_is); (case l_is_rule => k_is); (case c_is_rule => k_is); (case k_is_rule => k_is); (case a_is_field => k_is); (case l_is_field => k_is); (case c_is_field => k_is); (case k_is_field => k_is); (case a_look_battle => k_is); (case l_look_battle => k_is); (case c_look_battle => k_is); (case k_look_battle => k_is); (case a_paid => k_is); (case l_paid => k_is); (case c_paid => k_is); (case k_paid => k_is); (case a_is_plan => k_is); (case l_is_plan => k_is); (case c_is_plan => k_is); (case k_is_plan => k_is); (case a_won => k_is); (case l_won => k_is); (case c_won => k_is); (case k_won => k_is); (case a_gain => k_is); (case l_gain => k_is); (case c_gain => k_is); (case k_gain => k_is); (case a_is_row => k_is); (case l_is_row => k_is); (case c_is_row => k_is); (case k_is_row => k_is); (case a_is_stream => k_is); (case l_is_stream => k_is); (case c_is_stream => k_is); (case k_is_stream => k_is); (case a_must_be_side => k_is); (case l_must_be_side => k_is); (case c_must_be_side => k_is); (case k_must_be_side => k_is); (case a_dues => k_is); (case l_dues => k_is); (case c_dues => k_is); (case k_dues => k_is); (case a_goings_on => k_is); (case l_goings_on => k_is); (case c_goings_on => k_is); (case k_goings_on => k_is); (case a_is_table => k_is); (case l_is_table => k_is); (case c_is_table => k_is); (case k_is_table => k_is); (case a_wrong_number => k_is); (case l_wrong_number => k_is); (case c_wrong_number => k_is); (case k_wrong_number => k_is); (case a_judged => k_is); (case l_judged => k_is); (case c_judged => k_is); (case k_judged => k_is); (case a_l_mix => k_is); (case l_l_mix => k_is); (case c_l_mix => k_is); (case k_l_mix => k_is); (case a_l_cell_at => k_is); (case l_l_cell_at => k_is); (case c_l_cell_at => k_is); (case k_l_cell_at => k_is); (case a_l_left => k_is); (case l_l_left => k_is); (case c_l_left => k_is); (case k_l_left => k_is); (case a_l_draw => k_is); (case l_l_draw => k_is); (case c_l_draw => k_is); (case k_l_draw => k_is); (case a_l_some => k_is); (case l_l_some => k_is); (case c_l_some => k_is); (case k_l_some => k_is); (case a_l_rule => k_is); (case l_l_rule => k_is); (case c_l_rule => k_is); (case k_l_rule => k_is); (case a_l_battle => k_is); (case l_l_battle => k_is); (case c_l_battle => k_is); (case k_l_battle => k_is); (case a_l_paid => k_is); (case l_l_paid => k_is); (case c_l_paid => k_is); (case k_l_paid => k_is); (case a_l_plan => k_is); (case l_l_plan => k_is); (case c_l_plan => k_is); (case k_l_plan => k_is); (case a_l_flows => k_is); (case l_l_flows => k_is); (case c_l_flows => k_is); (case k_l_flows => k_is); (case a_l_lowest => k_is); (case l_l_lowest => k_is); (case c_l_lowest => k_is); (case k_l_lowest => k_is); (case a_l_dues => k_is); (case l_l_dues => k_is); (case c_l_dues => k_is); (case k_l_dues => k_is); (case a_l_comes => k_is); (case l_l_comes => k_is); (case c_l_comes => k_is); (case k_l_comes => k_is); (case a_l_table => k_is); (case l_l_table => k_is); (case c_l_table => k_is); (case k_l_table => k_is); (case a_l_all_plans => k_is); (case l_l_all_plans => k_is); (case c_l_all_plans => k_is); (case k_l_all_plans => k_is); (case a_l_brought => k_is); (case l_l_brought => k_is); (case c_l_brought => k_is); (case k_l_brought => k_is); (case a_l_tables => k_is); (case l_l_tables => k_is); (case c_l_tables => k_is); (case k_l_tables => k_is); (case a_law => k_is); (case l_law => k_is); (case c_law => k_is); (case k_law => k_is); (case z_bool => k_is); (case z_int => k_is); (case z_isinstance => k_is); (case z_len => k_is); (case z_list => k_is); (case z_max => k_is); (case z_min => k_is); (case z_range => k_is); (case z_reversed => k_is); (case z_sorted => k_is); (case z_sum => k_is); (case z_tuple => k_is); (case h_MOST_HOSTS => k_is); (case h_MOST_FIELDS => k_is); (case h_SIDES => k_is); (case lq_SIDES => k_is); (case i_HostError => k_is); (case t_HostError => k_is); (case y_HostError => k_is); (case i_NoBattle => k_is); (case t_NoBattle => k_is); (case y_NoBattle => k_is); (case i_NoPlan => k_is); (case t_NoPlan => k_is); (case y_NoPlan => k_is); (case i_NoSide => k_is); (case t_NoSide => k_is); (case y_NoSide => k_is); (case x_NoPlan => k_exc); (case k_NoPlan => k_is); (case hg_NoPlan => k_is); (case hk_NoPlan => k_is); (case hd_NoPlan => k_is); (case ha_NoPlan => k_is); (case hm_NoPlan => k_is); (case v_NoPlan => k_is); (case s_NoPlan_HostError => k_is); (case s_NoPlan_NoBattle => k_is); (case s_NoPlan_NoPlan => k_is); (case s_NoPlan_NoSide => k_is); (case x_NoSide => k_exc); (case k_NoSide => k_is); (case hg_NoSide => k_is); (case hk_NoSide => k_is); (case hd_NoSide => k_is); (case ha_NoSide => k_is); (case hm_NoSide => k_is); (case v_NoSide => k_is); (case s_NoSide_HostError => k_is); (case s_NoSide_NoBattle => k_is); (case s_NoSide_NoPlan => k_is); (case s_NoSide_NoSide => k_is); (case oc_NoBattle => k_is); (case sa_NoBattle => k_is); (case ti_NoBattle => k_is); (case no_NoBattle_field => k_is); (case rd_HostError => k_is); (case ga_HostError => k_is); (case fc_HostError => k_is); (case k_NoBattle => k_is); (case hg_NoBattle => k_is); (case hk_NoBattle => k_is); (case hd_NoBattle => k_is); (case ha_NoBattle => k_is); (case hm_NoBattle => k_is); (case v_NoBattle => k_is); (case s_NoBattle_HostError => k_is); (case s_NoBattle_NoBattle => k_is); (case s_NoBattle_NoPlan => k_is); (case s_NoBattle_NoSide => k_is); (case ho_n => k_is); (case ho_t => k_is)


