import PyProof.Rows.All
import Wide.All
import OpenK.AllK
import Wide.FinOn
import HandS.ForMost
import HandS.Wide
import HandS.IsInst
import HandS.TupAny
import HandS.TryOnly
import HandS.Style
import HandS.Conv
import HandS.SortKw
import HandS.Exc
import HandS.ExcIs
import HandS.ExcOwn
import HandS.ExcInit
import HandS.ExcField
import HandS.ClsMeth
import HandS.WordsExc
import KE.KExcIs
import PyProof.MaxThree
import HandS.SortRule
import HandS.TupLe
import PyProof.DictMoreH
import HandS.DictTup
import HandS.TupLen
import HandS.RevRange
import HandS.TupSets
import HandS.More
import PySem.Challenge.RW_hostfields_k43_tables_by_counts
set_option Elab.async false
set_option linter.all false
set_option maxRecDepth 100000
set_option maxHeartbeats 4000000
/-! ## the engine: the readings, one step a lemma; «walk_at "go"» walks as far as it goes -/
namespace Hf
open PySem PySem.Spec PyProof.Rows L2
/-- every tracked object but the one at a is as it was -/
def But (a : Addr) (H H' : Hp) : Prop := ∀ b o, b ≠ a → H b = some o → H' b = some o
theorem But.same {a : Addr} {H H' : Hp} (e : Same H H') : But a H H' := fun b o _ h => e b o h
theorem But.refl (a : Addr) (H : Hp) : But a H H := fun _ _ _ h => h
theorem But.trans {a : Addr} {H H1 H2 : Hp} (x : But a H H1) (y : But a H1 H2) : But a H H2 := fun b o n h => y b o n (x b o n h)
theorem But.upd {a : Addr} {H H1 : Hp} {o : HO} (x : But a H H1) : But a H (upd H1 a o) := fun b u n h => by
  rw [upd_ne n]
  exact x b u n h
theorem But.new {a p : Addr} {H H1 : Hp} {o : HO} (x : But a H H1) (hp : H1 p = none) : But a H (L2.upd H1 p o) := fun b u n h => by
  have h1 := x b u n h
  rw [upd_ne (ne_of_none h1 hp)]
  exact h1
theorem But.to_same {a : Addr} {H H' : Hp} (x : But a H H') (n : H a = none) : Same H H' := fun b o h => x b o (ne_of_none h n) h
theorem Same.new {H : Hp} {p : Addr} {o : HO} (hp : H p = none) : Same H (upd H p o) := fun b u h => by
  rw [upd_ne (ne_of_none h hp)]
  exact h
theorem Same.newT {H0 H : Hp} {p : Addr} {o : HO} (e : Same H0 H) (hp : H p = none) : Same H0 (upd H p o) := e.trans (Same.new hp)
/-- a change at an object that H0 does not know -/
theorem Same.mut {H0 H : Hp} {p : Addr} {o : HO} (e : Same H0 H) (hp : H0 p = none) : Same H0 (upd H p o) := fun b u h => by
  rw [upd_ne (ne_of_none h hp)]
  exact e b u h
theorem Same.but {H0 H H1 : Hp} {p : Addr} (e : Same H0 H) (hp : H0 p = none) (x : But p H H1) : Same H0 H1 := fun b u h => x b u (ne_of_none h hp) (e b u h)
theorem Same.seqT {K : PySem.W.Frag} {H H' : Hp} {a : Addr} {xs : List V} (e : Same H H') (h : SqT K H a xs) : SqT K H' a xs := by
  rcases h with (h | ⟨o, h⟩) | h
  · exact .inl (.inl (e _ _ h))
  · exact .inl (.inr ⟨o, e _ _ h⟩)
  · exact .inr h
theorem But.seq {K : PySem.W.Frag} {H H' : Hp} {a b : Addr} {xs : List V} (e : But a H H') (n : b ≠ a) (h : SqL K H b xs) : SqL K H' b xs := by
  rcases h with (h | ⟨o, h⟩) | h
  · exact .inl (.inl (e _ _ n h))
  · exact .inl (.inr ⟨o, e _ _ n h⟩)
  · exact .inr h
theorem But.seqT {K : PySem.W.Frag} {H H' : Hp} {a b : Addr} {xs : List V} (e : But a H H') (n : b ≠ a) (h : SqT K H b xs) : SqT K H' b xs := by
  rcases h with (h | ⟨o, h⟩) | h
  · exact .inl (.inl (e _ _ n h))
  · exact .inl (.inr ⟨o, e _ _ n h⟩)
  · exact .inr h
/-- a guard: its way is barred where P is at hand -/
def Guard (_ : Prop) : Prop := True
theorem Guard.of {P : Prop} (_ : P) : Guard P := trivial
theorem lk_upd {H : Hp} {a b : Addr} {o u : HO} (n : b ≠ a) (h : H b = some u) : upd H a o b = some u := by
  rw [upd_ne n]
  exact h
theorem lk_new {H : Hp} {a b : Addr} {o u : HO} (n : H a = none) (h : H b = some u) : upd H a o b = some u := by
  rw [upd_ne (ne_of_none h n)]
  exact h
theorem lk_updG {H : Hp} {a b : Addr} {o u : HO} (_ : Guard (H a = none)) (n : b ≠ a) (h : H b = some u) : upd H a o b = some u := lk_upd n h
theorem lk_none {H H' : Hp} {a : Addr} (e : Same H H') (n : H' a = none) : H a = none := e.free n
theorem lkL_new {K : PySem.W.Frag} {H : Hp} {a b : Addr} {o : HO} {xs : List V} (n : H a = none) (h : SqL K H b xs) : SqL K (upd H a o) b xs := (Same.new n).seq h
theorem lkT_new {K : PySem.W.Frag} {H : Hp} {a b : Addr} {o : HO} {xs : List V} (n : H a = none) (h : SqT K H b xs) : SqT K (upd H a o) b xs := Same.seqT (Same.new n) h
theorem lkL_upd {K : PySem.W.Frag} {H : Hp} {a b : Addr} {o : HO} {xs : List V} (n : b ≠ a) (h : SqL K H b xs) : SqL K (upd H a o) b xs := But.seq (But.upd (But.refl a H)) n h
theorem lkT_upd {K : PySem.W.Frag} {H : Hp} {a b : Addr} {o : HO} {xs : List V} (n : b ≠ a) (h : SqT K H b xs) : SqT K (upd H a o) b xs := But.seqT (But.upd (But.refl a H)) n h
theorem lkL_updG {K : PySem.W.Frag} {H : Hp} {a b : Addr} {o : HO} {xs : List V} (_ : Guard (H a = none)) (n : b ≠ a) (h : SqL K H b xs) : SqL K (upd H a o) b xs := lkL_upd n h
theorem lkT_updG {K : PySem.W.Frag} {H : Hp} {a b : Addr} {o : HO} {xs : List V} (_ : Guard (H a = none)) (n : b ≠ a) (h : SqT K H b xs) : SqT K (upd H a o) b xs := lkT_upd n h
theorem ne_new {H : Hp} {a b : Addr} {o : HO} (n : H b = none) (h : H a = some o) : a ≠ b := ne_of_none h n
theorem ne_new' {H : Hp} {a b : Addr} {o : HO} (n : H b = none) (h : H a = some o) : b ≠ a := (ne_of_none h n).symm
theorem ne_at {α : Type} {a b : α} (h : a ≠ b) : b ≠ a := h.symm
/-! ### sizes -/
theorem sz4 {n : Nat} (h : n ≤ 1000000) : n ≤ sizeLine := Nat.le_trans h (by decide)
theorem sz4' {n : Nat} (h : n ≤ 1000000) : n < sizeLine := Nat.lt_of_le_of_lt h (by decide)
/-! ### two operators, wider -/
def CMulA (i j : Int) : Prop := CMul i j ∨ CMulW i j
theorem CMulA.ok {i j : Int} (h : CMulA i j) : IntMulOk i j := h.elim CMul.ok CMulW.ok
theorem op_mulA {X : Cx} : OpR X (binaryOp .Mult) (rI CMulA fun i j => .int (i * j)) := opI fun _ _ _ _ _ _ _ hc q => mul_int q hc.ok
def CDivA (_ j : Int) : Prop := j ≠ 0 ∧ j.natAbs.log2 < 9000
theorem op_fdivA {X : Cx} : OpR X (binaryOp .FloorDiv) (rI CDivA fun i j => .int (i.fdiv j)) := opI fun _ _ _ _ _ _ _ hc q => floordiv_int hc.1 q (.inl (PyProof.noPylong_of_log2 hc.2))
theorem mulL {i j : Int} (h : -(2 ^ 64) < i ∧ i < 2 ^ 64) : CMulA i j := .inl (.inl h)
theorem mulR {i j : Int} (h : -(2 ^ 64) < j ∧ j < 2 ^ 64) : CMulA i j := .inl (.inr h)
theorem log_lt {j : Int} {b : Nat} (h : j.natAbs < 2 ^ b) (h0 : 0 < b) (h9 : b ≤ 9000) : j.natAbs.log2 < 9000 := Nat.lt_of_lt_of_le (PySem.Flt.log2_lt_of h0 h) h9
theorem log_small {j : Int} (h : -(2 ^ 200) < j ∧ j < 2 ^ 200) : j.natAbs.log2 < 9000 := log_lt (b := 200) (by omega) (by decide) (by decide)
theorem mulW {i j : Int} {a b : Nat} (ha : i.natAbs < 2 ^ a) (hb : j.natAbs < 2 ^ b) (h0 : 0 < a) (h1 : 0 < b) (h : a + b ≤ 1000000) : CMulA i j := .inr (wide_mul ha hb h0 h1 h)
theorem divS {i j : Int} (h0 : j ≠ 0) (h : -(2 ^ 200) < j ∧ j < 2 ^ 200) : CDivA i j := ⟨h0, log_small h⟩
/-! ### the steps -/
section
variable {σ σ' : L2.St} {H : Hp} {Q : VK} {x y v : V} {i j : Int} {n : Nat} {nx bk ct : L2.St → Hp → Prop} {rt : VK} {K : PySem.W.Frag} {a p : Addr} {xs : List V}
theorem start_to {N : List Str} {vs : List V} {t : TS} {D : Ends} (e : start N vs = σ) (h : t D σ H) : t D (start N vs) H := by
  rw [e]
  exact h
theorem i_ends {t : TS} {rt : VK} (h : t ⟨fun _ H' => rt .non H', rt, fun _ _ => False, fun _ _ => False⟩ σ H) : t { nx := fun _ H' => rt .non H', rt := rt } σ H := h
theorem i_seq {t u : TS} (h : t ⟨u ⟨nx, rt, bk, ct⟩, rt, bk, ct⟩ σ H) : tSeq t u ⟨nx, rt, bk, ct⟩ σ H := h
theorem i_asg {te : TE} {g : TG} (h : te σ H fun x H1 => g x σ H1 nx) : tAsg te g ⟨nx, rt, bk, ct⟩ σ H := h
theorem i_gname {k : Nat} {Z : L2.St → Hp → Prop} (e : σ.set k (some v) = σ') (q : Z σ' H) : gName k v σ H Z := by
  subst e
  exact q
theorem i_ret {te : TE} (h : te σ H rt) : tRet te ⟨nx, rt, bk, ct⟩ σ H := h
theorem i_retN (h : rt .non H) : tRetN ⟨nx, rt, bk, ct⟩ σ H := h
theorem i_next (h : nx σ H) : tNext ⟨nx, rt, bk, ct⟩ σ H := h
theorem i_brk (h : bk σ H) : tBreak ⟨nx, rt, bk, ct⟩ σ H := h
theorem i_cnt (h : ct σ H) : tCont ⟨nx, rt, bk, ct⟩ σ H := h
theorem i_drop {te : TE} (h : te σ H fun _ H1 => nx σ H1) : tDrop te ⟨nx, rt, bk, ct⟩ σ H := h
theorem i_ifs {c : TT} {t u : TS} (h : c σ H fun b H1 => if b = true then t ⟨nx, rt, bk, ct⟩ σ H1 else u ⟨nx, rt, bk, ct⟩ σ H1) : tIfS c t u ⟨nx, rt, bk, ct⟩ σ H := h
theorem i_var {k : Nat} (h : σ[k]? = some (some v)) (q : Q v H) : tVar k σ H Q := ⟨v, h, q⟩
theorem i_c (q : Q v H) : tC v σ H Q := q
theorem i_op {r : R2} {ta tb : TE} (h : ta σ H fun x H1 => tb σ H1 fun y H2 => r x y H2 Q) : tOp r ta tb σ H Q := h
theorem i_un {r : V → Hp → VK → Prop} {ta : TE} (h : ta σ H fun x H1 => r x H1 Q) : tUn r ta σ H Q := h
theorem i_I0 {g : Int → Int → V} (q : Q (g i j) H) : rI0 g (.int i) (.int j) H Q := ⟨i, j, rfl, rfl, q⟩
theorem i_I {C : Int → Int → Prop} {g : Int → Int → V} (c : C i j) (q : Q (g i j) H) : rI C g (.int i) (.int j) H Q := ⟨i, j, rfl, rfl, c, q⟩
theorem i_pow {m : Int} (c : CPow i j) (e : i ^ j.toNat = m) (q : Q (.int m) H) : rI CPow (fun i j => .int (i ^ j.toNat)) (.int i) (.int j) H Q := ⟨i, j, rfl, rfl, c, by
  show Q (.int (i ^ j.toNat)) H
  rw [e]
  exact q⟩
theorem i_U {g : Int → V} (q : Q (g i) H) : rU g (.int i) H Q := ⟨i, rfl, q⟩
theorem i_eqI (q : Q (.bl (decide (i = j))) H) : rEq (.int i) (.int j) H Q := ⟨rfl, by
  have e : decide (V.int i = V.int j) = decide (i = j) := by
    by_cases h : i = j
    · rw [decide_eq_true h, decide_eq_true (congrArg V.int h)]
    · rw [decide_eq_false h, decide_eq_false fun z => h (V.int.inj z)]
  rw [e]
  exact q⟩
theorem i_neI (q : Q (.bl (!decide (i = j))) H) : rNe (.int i) (.int j) H Q := ⟨rfl, by
  have e : decide (V.int i = V.int j) = decide (i = j) := by
    by_cases h : i = j
    · rw [decide_eq_true h, decide_eq_true (congrArg V.int h)]
    · rw [decide_eq_false h, decide_eq_false fun z => h (V.int.inj z)]
  rw [e]
  exact q⟩
theorem i_eqB {c d : Bool} (q : Q (.bl (c == d)) H) : rEq (.bl c) (.bl d) H Q := ⟨rfl, by
  rw [dec_bl]
  exact q⟩
theorem i_neB {c d : Bool} (q : Q (.bl (!(c == d))) H) : rNe (.bl c) (.bl d) H Q := ⟨rfl, by
  rw [dec_bl]
  exact q⟩
theorem i_eqS {c d : Str} (q : Q (.bl (c == d)) H) : rEq (.str c) (.str d) H Q := ⟨rfl, by
  rw [dec_str]
  exact q⟩
theorem i_neS {c d : Str} (q : Q (.bl (!(c == d))) H) : rNe (.str c) (.str d) H Q := ⟨rfl, by
  rw [dec_str]
  exact q⟩
theorem i_test {te : TE} {P : Bool → Hp → Prop} (h : te σ H fun x H1 => ∃ k, x = .bl k ∧ P k H1) : tTest te σ H P := h
theorem i_B {te : TE} {P : Bool → Hp → Prop} (h : te σ H fun x H1 => ∃ k, x = .bl k ∧ P k H1) : tB te σ H P := h
theorem i_bl {b : Bool} {P : Bool → Prop} (q : P b) : ∃ k, V.bl b = .bl k ∧ P k := ⟨b, rfl, q⟩
theorem i_and {t u : TT} {P : Bool → Hp → Prop} (h : t σ H fun c H1 => if c = true then u σ H1 P else P false H1) : tAnd t u σ H P := h
theorem i_or {t u : TT} {P : Bool → Hp → Prop} (h : t σ H fun c H1 => if c = true then P true H1 else u σ H1 P) : tOr t u σ H P := h
theorem i_not {t : TT} {P : Bool → Hp → Prop} (h : t σ H fun c H1 => P (!c) H1) : tNot t σ H P := h
theorem i_andV {ta tb : TE} (h : ta σ H fun x H1 => ∃ c, x = .bl c ∧ if c = true then tb σ H1 Q else Q (.bl false) H1) : tAndV ta tb σ H Q := h
theorem i_orV {ta tb : TE} (h : ta σ H fun x H1 => ∃ c, x = .bl c ∧ if c = true then Q (.bl true) H1 else tb σ H1 Q) : tOrV ta tb σ H Q := h
theorem i_notV {ta : TE} (h : ta σ H fun x H1 => ∃ c, x = .bl c ∧ Q (.bl (!c)) H1) : tNotV ta σ H Q := h
theorem i_ife {t : TT} {ta tb : TE} (h : t σ H fun c H1 => if c = true then ta σ H1 Q else tb σ H1 Q) : tIf t ta tb σ H Q := h
theorem i_call {sp : Sp} {E : XK} {t : TA} (h : t σ H fun vs H1 => sp vs H1 Q E) : tCall sp [] E t σ H Q := by
  have e : (fun vs H1 => sp (vs ++ []) H1 Q E) = fun vs H1 => sp vs H1 Q E := by
    funext vs H1
    rw [List.append_nil]
  show t σ H (fun vs H1 => sp (vs ++ []) H1 Q E)
  rw [e]
  exact h
theorem i_cb {r : List V → Hp → VK → Prop} {t : TA} (h : t σ H fun vs H1 => r vs H1 Q) : tCB r t σ H Q := h
theorem i_nil {P : List V → Hp → Prop} (q : P [] H) : tNil σ H P := q
theorem i_cons {ta : TE} {tr : TA} {P : List V → Hp → Prop} (h : ta σ H fun x H1 => tr σ H1 fun xs H2 => P (x :: xs) H2) : tCons ta tr σ H P := h
theorem i_tup {t : TA} (h : t σ H fun xs H1 => xs.length ≤ sizeLine ∧ ∀ p, H1 p = none → Q (.ref p) (upd H1 p (.tup xs))) : tTup t σ H Q := h
theorem i_lst {t : TA} (h : t σ H fun xs H1 => xs.length ≤ sizeLine ∧ ∀ p, H1 p = none → Q (.ref p) (upd H1 p (.lst xs))) : tLst t σ H Q := h
theorem i_new {R : Addr → Prop} (hz : xs.length ≤ sizeLine) (q : ∀ p, H p = none → R p) : xs.length ≤ sizeLine ∧ ∀ p, H p = none → R p := ⟨hz, q⟩
theorem i_ixL (h : SqL K H p xs) (e : atI xs i = some v) (q : Q v H) : rIxL K (.ref p) (.int i) H Q := ⟨p, xs, i, v, rfl, rfl, h, e, q⟩
theorem i_ixT (h : SqT K H p xs) (e : atI xs i = some v) (q : Q v H) : rIxT K (.ref p) (.int i) H Q := ⟨p, xs, i, v, rfl, rfl, h, e, q⟩
theorem at_lt {α : Type} {xs : List α} {i : Int} (h0 : 0 ≤ i) (h1 : i < xs.length) : ∃ v, atI xs i = some v ∧ xs[i.toNat]? = some v := by
  have hk : i.toNat < xs.length := by omega
  refine ⟨xs[i.toNat], ?_, List.getElem?_eq_getElem hk⟩
  have e := atI_nat (xs := xs) (j := i.toNat) (v := xs[i.toNat]) (List.getElem?_eq_getElem hk)
  rw [Int.toNat_of_nonneg h0] at e
  exact e
/-- an item at an open place: one of those written -/
theorem i_ix2 {y1 y2 : V} (h : SqL K H p [y1, y2]) (h0 : 0 ≤ i) (h1 : i < 2) (q : ∀ v, v = y1 ∨ v = y2 → Q v H) : rIxL K (.ref p) (.int i) H Q := by
  rcases (by omega : i = 0 ∨ i = 1) with e | e <;> subst e
  · exact ⟨p, _, _, y1, rfl, rfl, h, rfl, q _ (.inl rfl)⟩
  · exact ⟨p, _, _, y2, rfl, rfl, h, rfl, q _ (.inr rfl)⟩
theorem i_ix2I {y1 y2 : Int} (h : SqL K H p [.int y1, .int y2]) (h0 : 0 ≤ i) (h1 : i < 2) (q : ∀ v, v = y1 ∨ v = y2 → Q (.int v) H) : rIxL K (.ref p) (.int i) H Q := by
  rcases (by omega : i = 0 ∨ i = 1) with e | e <;> subst e
  · exact ⟨p, _, _, .int y1, rfl, rfl, h, rfl, q _ (.inl rfl)⟩
  · exact ⟨p, _, _, .int y2, rfl, rfl, h, rfl, q _ (.inr rfl)⟩
theorem i_ix3I {y1 y2 y3 : Int} (h : SqL K H p [.int y1, .int y2, .int y3]) (h0 : 0 ≤ i) (h1 : i < 3) (q : ∀ v, v = y1 ∨ v = y2 ∨ v = y3 → Q (.int v) H) : rIxL K (.ref p) (.int i) H Q := by
  rcases (by omega : i = 0 ∨ i = 1 ∨ i = 2) with e | e | e <;> subst e
  · exact ⟨p, _, _, .int y1, rfl, rfl, h, rfl, q _ (.inl rfl)⟩
  · exact ⟨p, _, _, .int y2, rfl, rfl, h, rfl, q _ (.inr (.inl rfl))⟩
  · exact ⟨p, _, _, .int y3, rfl, rfl, h, rfl, q _ (.inr (.inr rfl))⟩
theorem i_ix4I {y1 y2 y3 y4 : Int} (h : SqL K H p [.int y1, .int y2, .int y3, .int y4]) (h0 : 0 ≤ i) (h1 : i < 4) (q : ∀ v, v = y1 ∨ v = y2 ∨ v = y3 ∨ v = y4 → Q (.int v) H) : rIxL K (.ref p) (.int i) H Q := by
  rcases (by omega : i = 0 ∨ i = 1 ∨ i = 2 ∨ i = 3) with e | e | e | e <;> subst e
  · exact ⟨p, _, _, .int y1, rfl, rfl, h, rfl, q _ (.inl rfl)⟩
  · exact ⟨p, _, _, .int y2, rfl, rfl, h, rfl, q _ (.inr (.inl rfl))⟩
  · exact ⟨p, _, _, .int y3, rfl, rfl, h, rfl, q _ (.inr (.inr (.inl rfl)))⟩
  · exact ⟨p, _, _, .int y4, rfl, rfl, h, rfl, q _ (.inr (.inr (.inr rfl)))⟩
theorem i_ix3R {y1 y2 y3 : Addr} (h : SqL K H p [.ref y1, .ref y2, .ref y3]) (h0 : 0 ≤ i) (h1 : i < 3) (q : ∀ v, v = y1 ∨ v = y2 ∨ v = y3 → Q (.ref v) H) : rIxL K (.ref p) (.int i) H Q := by
  rcases (by omega : i = 0 ∨ i = 1 ∨ i = 2) with e | e | e <;> subst e
  · exact ⟨p, _, _, .ref y1, rfl, rfl, h, rfl, q _ (.inl rfl)⟩
  · exact ⟨p, _, _, .ref y2, rfl, rfl, h, rfl, q _ (.inr (.inl rfl))⟩
  · exact ⟨p, _, _, .ref y3, rfl, rfl, h, rfl, q _ (.inr (.inr rfl))⟩
theorem i_ix4R {y1 y2 y3 y4 : Addr} (h : SqL K H p [.ref y1, .ref y2, .ref y3, .ref y4]) (h0 : 0 ≤ i) (h1 : i < 4) (q : ∀ v, v = y1 ∨ v = y2 ∨ v = y3 ∨ v = y4 → Q (.ref v) H) : rIxL K (.ref p) (.int i) H Q := by
  rcases (by omega : i = 0 ∨ i = 1 ∨ i = 2 ∨ i = 3) with e | e | e | e <;> subst e
  · exact ⟨p, _, _, .ref y1, rfl, rfl, h, rfl, q _ (.inl rfl)⟩
  · exact ⟨p, _, _, .ref y2, rfl, rfl, h, rfl, q _ (.inr (.inl rfl))⟩
  · exact ⟨p, _, _, .ref y3, rfl, rfl, h, rfl, q _ (.inr (.inr (.inl rfl)))⟩
  · exact ⟨p, _, _, .ref y4, rfl, rfl, h, rfl, q _ (.inr (.inr (.inr rfl)))⟩
theorem i_gtup {m : Nat} {t : TGs} {Z : L2.St → Hp → Prop} (h : SqT K H p xs) (e : xs.length = m) (q : t xs σ H Z) : gTup K m t (.ref p) σ H Z := ⟨p, xs, rfl, h, e, q⟩
theorem i_gtupL {m : Nat} {t : TGs} {Z : L2.St → Hp → Prop} (h : SqT K H p xs) (e : xs.length = m) (q : t xs σ H Z) : gTup K m t (.ref p) σ H Z := ⟨p, xs, rfl, h, e, q⟩
theorem i_gcons {t : TG} {u : TGs} {r : List V} {Z : L2.St → Hp → Prop} (h : t v σ H fun σ1 H1 => u r σ1 H1 Z) : gCons t u (v :: r) σ H Z := ⟨v, r, rfl, h⟩
theorem i_gnil {Z : L2.St → Hp → Prop} (h : Z σ H) : gNil [] σ H Z := ⟨rfl, h⟩
theorem i_gsub {to ti : TE} {t : TSet} {Z : L2.St → Hp → Prop} (h : to σ H fun o H1 => ti σ H1 fun i H2 => t o i v H2 fun H3 => Z σ H3) : gSub to ti t v σ H Z := h
theorem i_setL {k : Nat} {Z : Hp → Prop} (h : H p = some (.lst xs)) (e : ixN xs.length i = some k) (q : Z (upd H p (.lst (xs.set k v)))) : rSetL (.ref p) (.int i) v H Z := ⟨p, xs, i, k, rfl, rfl, h, e, q⟩
def par2 (k1 k2 : Nat) (σ : L2.St) (Z : L2.St → Hp → Prop) : List V → Hp → Prop := fun vs H1 => ∃ v w, vs = [v, w] ∧ Z ((σ.set k1 (some v)).set k2 (some w)) H1
theorem i_par {k1 k2 : Nat} {ta : TA} (h : ta σ H (par2 k1 k2 σ nx)) : tPar k1 k2 ta ⟨nx, rt, bk, ct⟩ σ H := h
theorem i_par2 {k1 k2 : Nat} {w : V} {Z : L2.St → Hp → Prop} (e : (σ.set k1 (some v)).set k2 (some w) = σ') (q : Z σ' H) : par2 k1 k2 σ Z [v, w] H := by
  subst e
  exact ⟨v, w, rfl, q⟩
theorem i_aug {k : Nat} {te : TE} {ti : TIp} (h : σ[k]? = some (some x)) (q : te σ H fun y H1 => ti x y H1 fun z H2 => gName k z σ H2 nx) : tAug k te ti ⟨nx, rt, bk, ct⟩ σ H := ⟨x, h, q⟩
theorem i_ip {f : Int → Int → Int} (q : Q (.int (f i j)) H) : ipI f (.int i) (.int j) H Q := ⟨i, j, rfl, rfl, q⟩
theorem i_for {wi : TI} {g : TG} {tb : TS} (h : wi σ H fun J H1 => ∃ W : Nat → Nat → L2.St → Hp → Prop, (∃ m, W 0 m σ H1) ∧ ∀ i m σ H, W i m σ H →
  (J.stop i H ∧ nx σ H) ∨ (J.go i H ∧ ∃ N : L2.St → Hp → Prop, (∀ σ' H', N σ' H' → ∃ m', m' < m ∧ W (i + 1) m' σ' H') ∧ ∀ x H', J.yld i H x H' → g x σ H' fun σ2 H2 => tb ⟨N, rt, nx, N⟩ σ2 H2)) : tFor wi g tb ⟨nx, rt, bk, ct⟩ σ H := h
theorem i_rng1 {ta : TA} {R : It → Hp → Prop} (h : ta σ H fun vs H1 => ∃ j : Int, vs = [.int j] ∧ -(2 ^ 62) ≤ j ∧ j < 2 ^ 62 ∧ R (Itr 0 j.toNat) H1) : iRng1 ta σ H R := h
theorem i_rng1' {R : Int → Prop} (h1 : -(2 ^ 62) ≤ j) (h2 : j < 2 ^ 62) (q : R j) : ∃ j' : Int, [V.int j] = [.int j'] ∧ -(2 ^ 62) ≤ j' ∧ j' < 2 ^ 62 ∧ R j' := ⟨j, rfl, h1, h2, q⟩
theorem i_rng2 {ta : TA} {R : It → Hp → Prop} (h : ta σ H fun vs H1 => ∃ i j : Int, vs = [.int i, .int j] ∧ (-(2 ^ 62) ≤ i ∧ i < 2 ^ 62 ∧ -(2 ^ 62) ≤ j ∧ j < 2 ^ 62) ∧ R (Itr i (j - i).toNat) H1) : iRng2 ta σ H R := h
theorem i_rng2' {R : Int → Int → Prop} (h : -(2 ^ 62) ≤ i ∧ i < 2 ^ 62 ∧ -(2 ^ 62) ≤ j ∧ j < 2 ^ 62) (q : R i j) : ∃ i' j' : Int, [V.int i, V.int j] = [.int i', .int j'] ∧ (-(2 ^ 62) ≤ i' ∧ i' < 2 ^ 62 ∧ -(2 ^ 62) ≤ j' ∧ j' < 2 ^ 62) ∧ R i' j' := ⟨i, j, rfl, h, q⟩
theorem i_ilist {tl : TE} {R : It → Hp → Prop} (h : tl σ H fun x H1 => ∃ a, x = .ref a ∧ (∃ xs, SqL K H1 a xs) ∧ R (Itl K a) H1) : iList K tl σ H R := h
theorem i_ilist' {R : Addr → Prop} (h : SqL K H p xs) (q : R p) : ∃ a, V.ref p = .ref a ∧ (∃ xs, SqL K H a xs) ∧ R a := ⟨p, rfl, ⟨xs, h⟩, q⟩
theorem i_itup {tl : TE} {R : It → Hp → Prop} (h : tl σ H fun x H1 => ∃ a, x = .ref a ∧ (∃ xs, SqT K H1 a xs) ∧ R (Itt K a) H1) : iTup K tl σ H R := h
theorem i_itup' {R : Addr → Prop} (h : SqT K H p xs) (q : R p) : ∃ a, V.ref p = .ref a ∧ (∃ xs, SqT K H a xs) ∧ R a := ⟨p, rfl, ⟨xs, h⟩, q⟩
/-- built-ins by values -/
theorem i_abs {R : Int → Prop} (q : R i) : ∃ i', [V.int i] = [.int i'] ∧ R i' := ⟨i, rfl, q⟩
theorem i_int2 {R : Int → Int → Prop} (q : R i j) : ∃ i' j', [V.int i, V.int j] = [.int i', .int j'] ∧ R i' j' := ⟨i, j, rfl, q⟩

theorem i_int1 {R : Int → Prop} {S : Prop} (q : R i) : (∃ i', [V.int i] = [.int i'] ∧ R i') ∨ S := .inl ⟨i, rfl, q⟩
theorem i_intb {b : Bool} {R : Bool → Prop} {S : Prop} (q : R b) : S ∨ ∃ k, [V.bl b] = [.bl k] ∧ R k := .inr ⟨b, rfl, q⟩
theorem i_lenL {R : List V → Prop} (h : SqL K H p xs) (q : R xs) : ∃ p' ys, [V.ref p] = [.ref p'] ∧ (SqL K H p' ys ∨ SqT K H p' ys) ∧ R ys := ⟨p, xs, rfl, .inl h, q⟩
theorem i_lenT {R : List V → Prop} (h : SqT K H p xs) (q : R xs) : ∃ p' ys, [V.ref p] = [.ref p'] ∧ (SqL K H p' ys ∨ SqT K H p' ys) ∧ R ys := ⟨p, xs, rfl, .inr h, q⟩
theorem i_isi {t : String} {c : String} {b : Bool} (ty : TyX K H x (.type t)) (h : kitB t c = some b) (q : Q (.bl b) H) : rIsi K [x, .ty c] H Q := ⟨x, .ty c, .type t, .type c, b, rfl, .ty c, ty, kit_ty h, q⟩
theorem i_append (h : H p = some (.lst xs)) (hz : xs.length < sizeLine) (q : Q .non (upd H p (.lst (xs ++ [v])))) : rAppend (.ref p) [v] H Q := ⟨p, xs, v, rfl, rfl, h, hz, q⟩
theorem i_appendM {H : Hp} {Q : VK} {p : Addr} {ms : List Int} {z : Int} (h : H p = some (.lst (ms.map V.int))) (hz : ms.length < sizeLine) (q : Q .non (upd H p (.lst ((ms ++ [z]).map V.int)))) : rAppend (.ref p) [.int z] H Q := ⟨p, _, _, rfl, rfl, h, by rw [List.length_map]; exact hz, by rw [List.map_append] at q; exact q⟩
theorem i_bm {T : String} {r : V → List V → Hp → VK → Prop} {to : TE} {t : TA} (h : to σ H fun x H1 => tyV K T x H1 ∧ t σ H1 fun xs H2 => r x xs H2 Q) : tBM K T r to t σ H Q := h
theorem i_bm0 {T : String} {r : V → List V → Hp → VK → Prop} {to : TE} (h : to σ H fun x H1 => tyV K T x H1 ∧ r x [] H1 Q) : tBM0 K T r to σ H Q := h
theorem i_bmL {A : Prop} (h : SqL K H p xs) (q : A) : tyV K "list" (.ref p) H ∧ A := ⟨.inl ⟨rfl, _, h⟩, q⟩
/-! ### ifs -/
theorem ite_d {p A B : Prop} {d : Decidable p} (h1 : p → A) (h2 : ¬ p → B) : if (@decide p d) = true then A else B := by
  by_cases h : p
  · rw [if_pos (decide_eq_true h)]
    exact h1 h
  · rw [if_neg (by rw [decide_eq_false h]; decide)]
    exact h2 h
theorem ite_nd {p A B : Prop} {d : Decidable p} (h1 : ¬ p → A) (h2 : p → B) : if (!(@decide p d)) = true then A else B := by
  by_cases h : p
  · rw [if_neg (by rw [decide_eq_true h]; decide)]
    exact h2 h
  · rw [if_pos (by rw [decide_eq_false h]; decide)]
    exact h1 h
theorem ite_b {b : Bool} {A B : Prop} (h1 : b = true → A) (h2 : b = false → B) : if b = true then A else B := by
  cases b
  · rw [if_neg (by decide)]
    exact h2 rfl
  · rw [if_pos rfl]
    exact h1 rfl
theorem ite_y {b : Bool} {A B : Prop} (e : b = true) (h : A) : if b = true then A else B := by
  rw [if_pos e]
  exact h
theorem ite_n {b : Bool} {A B : Prop} (e : b = false) (h : B) : if b = true then A else B := by
  rw [if_neg (by rw [e]; decide)]
  exact h
/-- both ways at once: what follows is asked of either -/
theorem ite_or {b : Bool} {R : Prop} {P : Bool → Prop} (h1 : b = true → P true → R) (h2 : b = false → P false → R) (hp : P b) : R := by
  cases b
  · exact h2 rfl hp
  · exact h1 rfl hp
end
end Hf
namespace Hf
open PySem PySem.Spec PyProof.Rows L2
theorem set_z {α : Type} {x y : α} {r : List α} : List.set (x :: r) 0 y = y :: r := rfl
theorem set_s {α : Type} {x y : α} {r r' : List α} {k : Nat} (h : List.set r k y = r') : List.set (x :: r) (k + 1) y = x :: r' := by
  rw [List.set_cons_succ, h]
theorem set_par {α : Type} {l l1 l2 : List α} {j k : Nat} {y z : α} (h1 : l.set j y = l1) (h2 : l1.set k z = l2) : (l.set j y).set k z = l2 := by
  rw [h1, h2]
theorem lk_same {H H' : Hp} {a : Addr} {o : HO} (e : Same H H') (h : H a = some o) : H' a = some o := e a o h
theorem lk_but {H H' : Hp} {a b : Addr} {o : HO} (e : But a H H') (n : b ≠ a) (h : H b = some o) : H' b = some o := e b o n h
end Hf

namespace Hf
open PySem PySem.Spec PyProof.Rows L2
/-! ### loops -/
section
variable {σ : L2.St} {H : Hp} {Q : VK} {nx bk ct : L2.St → Hp → Prop} {rt : VK} {K : PySem.W.Frag} {a : Addr} {xs : List V} {g : TG} {tb : TS} {lo : Int} {n : Nat}
theorem forR (Pv : Nat → L2.St → Hp → Prop) (h0 : Pv 0 σ H) (hd : ∀ σ H, Pv n σ H → nx σ H)
    (hs : ∀ (i : Nat) σ H, i < n → Pv i σ H → g (.int (lo + i)) σ H fun σ2 H2 => tb ⟨Pv (i + 1), rt, nx, Pv (i + 1)⟩ σ2 H2) :
    ∃ W : Nat → Nat → L2.St → Hp → Prop, (∃ m, W 0 m σ H) ∧ ∀ i m σ H, W i m σ H →
      ((Itr lo n).stop i H ∧ nx σ H) ∨ ((Itr lo n).go i H ∧ ∃ N : L2.St → Hp → Prop, (∀ σ' H', N σ' H' → ∃ m', m' < m ∧ W (i + 1) m' σ' H') ∧ ∀ x H', (Itr lo n).yld i H x H' → g x σ H' fun σ2 H2 => tb ⟨N, rt, nx, N⟩ σ2 H2) :=
  for_range (D := ⟨nx, rt, fun _ _ => False, fun _ _ => False⟩) Pv h0 hs hd
theorem forL (Pv : Nat → L2.St → Hp → Prop) (h0 : Pv 0 σ H) (hl : ∀ i σ H, i ≤ xs.length → Pv i σ H → SqL K H a xs) (hd : ∀ σ H, Pv xs.length σ H → nx σ H)
    (hs : ∀ i x σ H, xs[i]? = some x → Pv i σ H → g x σ H fun σ2 H2 => tb ⟨Pv (i + 1), rt, nx, Pv (i + 1)⟩ σ2 H2) :
    ∃ W : Nat → Nat → L2.St → Hp → Prop, (∃ m, W 0 m σ H) ∧ ∀ i m σ H, W i m σ H →
      ((Itl K a).stop i H ∧ nx σ H) ∨ ((Itl K a).go i H ∧ ∃ N : L2.St → Hp → Prop, (∀ σ' H', N σ' H' → ∃ m', m' < m ∧ W (i + 1) m' σ' H') ∧ ∀ x H', (Itl K a).yld i H x H' → g x σ H' fun σ2 H2 => tb ⟨N, rt, nx, N⟩ σ2 H2) :=
  for_list (D := ⟨nx, rt, fun _ _ => False, fun _ _ => False⟩) Pv h0 hl hs hd
theorem forT (Pv : Nat → L2.St → Hp → Prop) (h0 : Pv 0 σ H) (hl : ∀ i σ H, i ≤ xs.length → Pv i σ H → SqT K H a xs) (hd : ∀ σ H, Pv xs.length σ H → nx σ H)
    (hs : ∀ i x σ H, xs[i]? = some x → Pv i σ H → g x σ H fun σ2 H2 => tb ⟨Pv (i + 1), rt, nx, Pv (i + 1)⟩ σ2 H2) :
    ∃ W : Nat → Nat → L2.St → Hp → Prop, (∃ m, W 0 m σ H) ∧ ∀ i m σ H, W i m σ H →
      ((Itt K a).stop i H ∧ nx σ H) ∨ ((Itt K a).go i H ∧ ∃ N : L2.St → Hp → Prop, (∀ σ' H', N σ' H' → ∃ m', m' < m ∧ W (i + 1) m' σ' H') ∧ ∀ x H', (Itt K a).yld i H x H' → g x σ H' fun σ2 H2 => tb ⟨N, rt, nx, N⟩ σ2 H2) :=
  for_tup (D := ⟨nx, rt, fun _ _ => False, fun _ _ => False⟩) Pv h0 hl hs hd
/-- while: W by a measure; the test is read by hand, its two ways by turnW and the loop's end -/
theorem whileW {c : TT} (W : Nat → L2.St → Hp → Prop) (m : Nat) (h0 : W m σ H)
    (hs : ∀ m σ H, W m σ H → c σ H fun b H1 => if b = true then ∃ N : L2.St → Hp → Prop, (∀ σ' H', N σ' H' → ∃ m', m' < m ∧ W m' σ' H') ∧ tb ⟨N, rt, nx, N⟩ σ H1 else nx σ H1) : tWhile c tb ⟨nx, rt, bk, ct⟩ σ H :=
  ⟨W, ⟨m, h0⟩, hs⟩
theorem turnW {W : Nat → L2.St → Hp → Prop} {m : Nat} (h : tb ⟨fun σ' H' => ∃ m', m' < m ∧ W m' σ' H', rt, nx, fun σ' H' => ∃ m', m' < m ∧ W m' σ' H'⟩ σ H) :
    ∃ N : L2.St → Hp → Prop, (∀ σ' H', N σ' H' → ∃ m', m' < m ∧ W m' σ' H') ∧ tb ⟨N, rt, nx, N⟩ σ H := ⟨_, fun _ _ h => h, h⟩
end
theorem But.free {a p : Addr} {o : HO} {H H' : Hp} (hn : H' p = none) (e : But a H H') (ha : H' a = some o) : H p = none := by
  cases h : H p with
  | none => rfl
  | some u =>
    by_cases hp : p = a
    · rw [hp, ha] at hn
      cases hn
    · rw [e p u hp h] at hn
      cases hn
theorem Same.free' {p : Addr} {H H' : Hp} (hn : H' p = none) (e : Same H H') : H p = none := e.free hn
theorem But.newT {a p : Addr} {H H1 : Hp} {o : HO} (hp : H1 p = none) (x : But a H H1) : But a H (L2.upd H1 p o) := But.new x hp
theorem But.transT {a : Addr} {H H1 H2 : Hp} (y : But a H1 H2) (x : But a H H1) : But a H H2 := But.trans x y
theorem Same.transT {H H1 H2 : Hp} (y : Same H1 H2) (x : Same H H1) : Same H H2 := x.trans y
theorem Same.newT' {H H1 : Hp} {p : Addr} {o : HO} (hp : H1 p = none) (x : Same H H1) : Same H (upd H1 p o) := Same.newT x hp
theorem But.transS {a : Addr} {H H1 H2 : Hp} (y : Same H1 H2) (x : But a H H1) : But a H H2 := fun b o n h => y b o (x b o n h)
theorem Same.butT {H0 H H1 : Hp} {p : Addr} (x : But p H H1) (hp : H0 p = none) (e : Same H0 H) : Same H0 H1 := Same.but e hp x
/-! ### slices, sums of lists -/
theorem six_nn {n d : Nat} {k : Int} (h : 0 ≤ k) : HT.sIx n d (some k) = min k.toNat n := by
  obtain ⟨m, rfl⟩ := Int.eq_ofNat_of_zero_le h
  exact HT.sIx_nat n d m
theorem cut_to {xs : List V} {k : Int} (h : 0 ≤ k) : cutV xs none (some k) = xs.take k.toNat := by
  unfold cutV
  rw [six_nn h, HT.sIx_none, List.drop_zero, Nat.sub_zero]
  exact List.take_eq_take_iff.mpr (by omega)
theorem cut_from {xs : List V} {k : Int} (h : 0 ≤ k) : cutV xs (some k) none = xs.drop k.toNat := by
  unfold cutV
  rw [six_nn h, HT.sIx_none, List.take_of_length_le (by rw [List.length_drop]; omega)]
  by_cases c : k.toNat ≤ xs.length
  · rw [Nat.min_eq_left c]
  · rw [Nat.min_eq_right (show xs.length ≤ k.toNat by omega), List.drop_length, List.drop_eq_nil_of_le (show xs.length ≤ k.toNat by omega)]
theorem cut_mid {xs : List V} {j k : Int} (h : 0 ≤ j) (h' : 0 ≤ k) : cutV xs (some j) (some k) = (xs.drop j.toNat).take (k.toNat - j.toNat) := by
  unfold cutV
  rw [six_nn h, six_nn h']
  by_cases c : j.toNat ≤ xs.length
  · rw [Nat.min_eq_left c]
    refine List.take_eq_take_iff.mpr ?_
    rw [List.length_drop]
    omega
  · rw [Nat.min_eq_right (show xs.length ≤ j.toNat by omega), List.drop_length, List.drop_eq_nil_of_le (show xs.length ≤ j.toNat by omega), List.take_nil, List.take_nil]
section
variable {H : Hp} {Q : VK} {K : PySem.W.Frag} {p r : Addr} {xs ys : List V} {j k : Int} {lo hi : Option Int} {σ : L2.St}
theorem i_slTo (h : SqL K H p xs) (h0 : 0 ≤ k) (q : ∀ p', H p' = none → Q (.ref p') (upd H p' (.lst (xs.take k.toNat)))) : rSlL K (.ref p) none (some k) H Q := ⟨p, xs, rfl, h, by rw [cut_to h0]; exact q⟩
theorem i_slFrom (h : SqL K H p xs) (h0 : 0 ≤ k) (q : ∀ p', H p' = none → Q (.ref p') (upd H p' (.lst (xs.drop k.toNat)))) : rSlL K (.ref p) (some k) none H Q := ⟨p, xs, rfl, h, by rw [cut_from h0]; exact q⟩
theorem i_slMid (h : SqL K H p xs) (h0 : 0 ≤ j) (h1 : 0 ≤ k) (q : ∀ p', H p' = none → Q (.ref p') (upd H p' (.lst ((xs.drop j.toNat).take (k.toNat - j.toNat))))) : rSlL K (.ref p) (some j) (some k) H Q := ⟨p, xs, rfl, h, by rw [cut_mid h0 h1]; exact q⟩
theorem i_sl {R : V → Option Int → Option Int → Hp → VK → Prop} {te : TE} {tl th : TO} (h : te σ H fun x H1 => tl σ H1 fun l H2 => th σ H2 fun u H3 => R x l u H3 Q) : tSl R te tl th σ H Q := h
theorem i_nopart {P : Option Int → Hp → Prop} (q : P none H) : tNoPart σ H P := q
theorem i_part {te : TE} {P : Option Int → Hp → Prop} (h : te σ H fun x H1 => ∃ i, x = .int i ∧ P (some i) H1) : tPart te σ H P := h
theorem i_exint {i : Int} {R : Int → Prop} (q : R i) : ∃ i', V.int i = .int i' ∧ R i' := ⟨i, rfl, q⟩
theorem i_cat (h1 : H p = some (.lst xs)) (h2 : H r = some (.lst ys)) (hz : xs.length + ys.length ≤ sizeLine) (q : ∀ p', H p' = none → Q (.ref p') (upd H p' (.lst (xs ++ ys)))) : rCat (.ref p) (.ref r) H Q := ⟨p, r, xs, ys, rfl, rfl, h1, h2, hz, q⟩
theorem i_rep (h1 : H p = some (.lst xs)) (h2 : -(2 ^ 63) ≤ k ∧ k < 2 ^ 63) (hz : xs.length * k.toNat ≤ sizeLine) (q : ∀ p', H p' = none → Q (.ref p') (upd H p' (.lst (List.replicate k.toNat xs).flatten))) : rRep (.ref p) (.int k) H Q := ⟨p, k, xs, rfl, rfl, h1, h2.1, h2.2, hz, q⟩
theorem flat1 {α : Type} {x : α} : ∀ n : Nat, (List.replicate n [x]).flatten = List.replicate n x
  | 0 => rfl
  | n + 1 => by
    rw [List.replicate_succ, List.flatten_cons, flat1 n, List.replicate_succ]
    rfl
theorem i_rep1 {x : V} (h1 : H p = some (.lst [x])) (h2 : 0 ≤ k ∧ k ≤ 1000000) (q : ∀ p', H p' = none → Q (.ref p') (upd H p' (.lst (List.replicate k.toNat x)))) : rRep (.ref p) (.int k) H Q :=
  i_rep h1 (by omega) (sz4 (by show 1 * k.toNat ≤ 1000000; omega)) (by rw [flat1]; exact q)
end
/-- an if whose two ways meet: what holds behind it -/
theorem if_join {σ : L2.St} {H : Hp} {nx bk ct : L2.St → Hp → Prop} {rt : VK} {c : TT} {t u : TS} (P : L2.St → Hp → Prop) (h : ∀ nx' : L2.St → Hp → Prop, (∀ σ' H', P σ' H' → nx' σ' H') → tIfS c t u ⟨nx', rt, bk, ct⟩ σ H)
    (cont : ∀ σ' H', P σ' H' → nx σ' H') : tIfS c t u ⟨nx, rt, bk, ct⟩ σ H := h nx cont
/-- any statement, cut behind it -/
theorem st_join {σ : L2.St} {H : Hp} {nx bk ct : L2.St → Hp → Prop} {rt : VK} {t : TS} (P : L2.St → Hp → Prop) (h : ∀ nx' : L2.St → Hp → Prop, (∀ σ' H', P σ' H' → nx' σ' H') → t ⟨nx', rt, bk, ct⟩ σ H)
    (cont : ∀ σ' H', P σ' H' → nx σ' H') : t ⟨nx, rt, bk, ct⟩ σ H := h nx cont
theorem ints_at {ms : List Int} {i : Nat} {x : V} (h : (ms.map V.int)[i]? = some x) : ∃ z, x = .int z ∧ ms[i]? = some z := by
  rw [List.getElem?_map] at h
  cases e : ms[i]? with
  | none =>
    rw [e] at h
    cases h
  | some z =>
    rw [e] at h
    exact ⟨z, (Option.some.inj h).symm, rfl⟩
/-! ### equality of data -/
theorem i_eqT2 {K : PySem.W.Frag} {H : Hp} {Q : VK} {p r : Addr} {a b c d : Int} (h1 : SqT K H p [.int a, .int b]) (h2 : SqT K H r [.int c, .int d]) (q : Q (.bl (a == c && (b == d && true))) H) : rEqD K (.ref p) (.ref r) H Q :=
  ⟨.tuple [.int a, .int b], .tuple [.int c, .int d], .tup h1 (.cons (.int a) (.cons (.int b) .nil)), .tup h2 (.cons (.int c) (.cons (.int d) .nil)), rfl, rfl, by
    have e : PyData.eqv (.tuple [.int a, .int b]) (.tuple [.int c, .int d]) = (a == c && (b == d && true)) := by simp [PyData.eqv, PyData.eqvAll]
    rw [e]
    exact q⟩
/-! ### two objects that change -/
def But2 (a c : Addr) (H H' : Hp) : Prop := ∀ b o, b ≠ a → b ≠ c → H b = some o → H' b = some o
section
variable {a c b p : Addr} {H H' H1 H2 : Hp} {o u : HO} {K : PySem.W.Frag} {xs : List V}
theorem But2.refl (a c : Addr) (H : Hp) : But2 a c H H := fun _ _ _ _ h => h
theorem But2.transT (y : But2 a c H1 H2) (x : But2 a c H H1) : But2 a c H H2 := fun b o n m h => y b o n m (x b o n m h)
theorem But2.transS (y : Same H1 H2) (x : But2 a c H H1) : But2 a c H H2 := fun b o n m h => y b o (x b o n m h)
theorem But2.transL (y : But a H1 H2) (x : But2 a c H H1) : But2 a c H H2 := fun b o n m h => y b o n (x b o n m h)
theorem But2.transR (y : But c H1 H2) (x : But2 a c H H1) : But2 a c H H2 := fun b o n m h => y b o m (x b o n m h)
theorem But2.newT (hp : H1 p = none) (x : But2 a c H H1) : But2 a c H (L2.upd H1 p o) := fun b u n m h => by
  have h1 := x b u n m h
  rw [upd_ne (ne_of_none h1 hp)]
  exact h1
theorem But2.updL (x : But2 a c H H1) : But2 a c H (L2.upd H1 a o) := fun b u n m h => by
  rw [upd_ne n]
  exact x b u n m h
theorem But2.updR (x : But2 a c H H1) : But2 a c H (L2.upd H1 c o) := fun b u n m h => by
  rw [upd_ne m]
  exact x b u n m h
theorem lk_but2 (e : But2 a c H H') (n : b ≠ a) (m : b ≠ c) (h : H b = some o) : H' b = some o := e b o n m h
theorem But2.seq (e : But2 a c H H') (n : b ≠ a) (m : b ≠ c) (h : SqL K H b xs) : SqL K H' b xs := by
  rcases h with (h | ⟨o, h⟩) | h
  · exact .inl (.inl (e _ _ n m h))
  · exact .inl (.inr ⟨o, e _ _ n m h⟩)
  · exact .inr h
theorem But2.seqT (e : But2 a c H H') (n : b ≠ a) (m : b ≠ c) (h : SqT K H b xs) : SqT K H' b xs := by
  rcases h with (h | ⟨o, h⟩) | h
  · exact .inl (.inl (e _ _ n m h))
  · exact .inl (.inr ⟨o, e _ _ n m h⟩)
  · exact .inr h
theorem But2.free (hn : H' p = none) (e : But2 a c H H') (ha : H' a = some o) (hc : H' c = some u) : H p = none := by
  cases h : H p with
  | none => rfl
  | some v =>
    by_cases hp : p = a
    · rw [hp, ha] at hn
      cases hn
    · by_cases hq : p = c
      · rw [hq, hc] at hn
        cases hn
      · rw [e p v hp hq h] at hn
        cases hn
theorem But2.mut (hp : H p = none) (x : But2 a c H H1) : But2 a c H (L2.upd H1 p o) := fun b u n m h => by
  have e : b ≠ p := ne_of_none h hp
  exact lk_upd e (x b u n m h)
theorem But2.butT (y : But p H1 H2) (hp : H p = none) (x : But2 a c H H1) : But2 a c H H2 := fun b u n m h => y b u (ne_of_none h hp) (x b u n m h)
theorem Same.but2T {H0 : Hp} (x : But2 a c H H1) (ha : H0 a = none) (hc : H0 c = none) (e : Same H0 H) : Same H0 H1 := fun b u h => x b u (ne_of_none h ha) (ne_of_none h hc) (e b u h)
end
/-! ### len, by its number -/
def LenA (K : PySem.W.Frag) (H : Hp) (p : Addr) (n : Nat) : Prop := (∃ ys, SqL K H p ys ∧ ys.length = n) ∨ ∃ ys, SqT K H p ys ∧ ys.length = n
def rLenA (K : PySem.W.Frag) : List V → Hp → VK → Prop := fun xs H Q => ∃ p n, xs = [V.ref p] ∧ LenA K H p n ∧ Q (.int n) H
theorem call_lenA {X : Cx} : CallR X (.builtin "len") (rLenA X.K) := by
  intro pins s σ H xs us Q I r h
  obtain ⟨p, n, e, hl, q⟩ := h
  refine call_len_seq pins s σ H xs us Q I r ?_
  rcases hl with ⟨ys, h1, h2⟩ | ⟨ys, h1, h2⟩
  · exact ⟨p, ys, e, .inl h1, by rw [h2]; exact q⟩
  · exact ⟨p, ys, e, .inr h1, by rw [h2]; exact q⟩
section
variable {σ : L2.St} {H : Hp} {Q : VK} {K : PySem.W.Frag} {p r : Addr} {xs ys : List V} {ms ns : List Int} {i j k : Int} {n : Nat}
theorem i_lenA (h : LenA K H p n) (q : Q (.int n) H) : rLenA K [.ref p] H Q := ⟨p, n, rfl, h, q⟩
theorem lenA_map {α : Type} {f : α → V} {zs : List α} (h : SqL K H p (zs.map f)) : LenA K H p zs.length := .inl ⟨_, h, List.length_map _⟩
theorem lenA_L (h : SqL K H p xs) : LenA K H p xs.length := .inl ⟨_, h, rfl⟩
theorem lenA_T (h : SqT K H p xs) : LenA K H p xs.length := .inr ⟨_, h, rfl⟩
theorem i_ixM (h : SqL K H p (ms.map V.int)) (h0 : 0 ≤ i) (h1 : i < ms.length) (q : ∀ z, ms[i.toNat]? = some z → Q (.int z) H) : rIxL K (.ref p) (.int i) H Q := by
  obtain ⟨v, e1, e2⟩ := at_lt (xs := ms.map V.int) h0 (by rw [List.length_map]; exact h1)
  obtain ⟨z, e, e3⟩ := ints_at e2
  subst e
  exact i_ixL h e1 (q z e3)
theorem i_ixG (h : SqL K H p xs) (h0 : 0 ≤ i) (h1 : i < xs.length) (q : ∀ v, xs[i.toNat]? = some v → Q v H) : rIxL K (.ref p) (.int i) H Q := by
  obtain ⟨v, e1, e2⟩ := at_lt h0 h1
  exact i_ixL h e1 (q v e2)
theorem i_sum (h : SqL K H p (ns.map V.int)) (q : Q (.int ns.sum) H) : rSum K [.ref p] H Q := ⟨p, ns, rfl, h, q⟩
theorem i_slToM (h : SqL K H p (ms.map V.int)) (h0 : 0 ≤ k) (q : ∀ p', H p' = none → Q (.ref p') (upd H p' (.lst ((ms.take k.toNat).map V.int)))) : rSlL K (.ref p) none (some k) H Q := i_slTo h h0 (by rw [← List.map_take]; exact q)
theorem i_slFromM (h : SqL K H p (ms.map V.int)) (h0 : 0 ≤ k) (q : ∀ p', H p' = none → Q (.ref p') (upd H p' (.lst ((ms.drop k.toNat).map V.int)))) : rSlL K (.ref p) (some k) none H Q := i_slFrom h h0 (by rw [← List.map_drop]; exact q)
theorem i_slMidM (h : SqL K H p (ms.map V.int)) (h0 : 0 ≤ j) (h1 : 0 ≤ k) (q : ∀ p', H p' = none → Q (.ref p') (upd H p' (.lst (((ms.drop j.toNat).take (k.toNat - j.toNat)).map V.int)))) : rSlL K (.ref p) (some j) (some k) H Q := i_slMid h h0 h1 (by rw [← List.map_drop, ← List.map_take]; exact q)
theorem i_catM (h1 : H p = some (.lst (ms.map V.int))) (h2 : H r = some (.lst (ns.map V.int))) (hz : ms.length + ns.length ≤ 1000000) (q : ∀ p', H p' = none → Q (.ref p') (upd H p' (.lst ((ms ++ ns).map V.int)))) : rCat (.ref p) (.ref r) H Q :=
  i_cat h1 h2 (sz4 (by rw [List.length_map, List.length_map]; exact hz)) (by rw [← List.map_append]; exact q)
theorem i_repM {x : Int} (h1 : H p = some (.lst [.int x])) (h2 : 0 ≤ k ∧ k ≤ 1000000) (q : ∀ p', H p' = none → Q (.ref p') (upd H p' (.lst ((List.replicate k.toNat x).map V.int)))) : rRep (.ref p) (.int k) H Q :=
  i_rep1 h1 h2 (by rw [← List.map_replicate]; exact q)
theorem eqvAll_ints : ∀ ms ns : List Int, PyData.eqvAll (ms.map PyData.int) (ns.map PyData.int) = decide (ms = ns)
  | [], [] => by simp [PyData.eqvAll]
  | [], _ :: _ => by simp [PyData.eqvAll]
  | _ :: _, [] => by simp [PyData.eqvAll]
  | m :: ms, n :: ns => by
    rw [List.map_cons, List.map_cons, PyData.eqvAll, eqvAll_ints ms ns, PyData.eqv]
    by_cases h : m = n
    · subst h
      simp
    · simp [h]
theorem canLay_ints : ∀ ms : List Int, PyData.canLayAll0 (ms.map PyData.int) = true
  | [] => by simp [PyData.canLayAll0]
  | m :: ms => by
    rw [List.map_cons, PyData.canLayAll0, canLay_ints ms]
    simp [PyData.canLay0]
theorem depth_ints : ∀ ms : List Int, PyData.depthAll (ms.map PyData.int) ≤ 1
  | [] => by simp [PyData.depthAll]
  | m :: ms => by
    have := depth_ints ms
    rw [List.map_cons, PyData.depthAll]
    simp [PyData.depth]
    omega
theorem dp_ints : ∀ ms : List Int, DpAll K H (ms.map V.int) (ms.map PyData.int)
  | [] => .nil
  | m :: ms => .cons (.int m) (dp_ints ms)
theorem shaped_ints (ms : List Int) : SeqAt.shaped (.list (ms.map PyData.int)) = true := by
  unfold SeqAt.shaped
  have h1 := canLay_ints ms
  have h2 := depth_ints ms
  simp [PyData.canLay0, PyData.depth, h1]
  omega
theorem i_eqLI (h1 : SqL K H p (ms.map V.int)) (h2 : SqL K H r (ns.map V.int)) (q : Q (.bl (decide (ms = ns))) H) : rEqD K (.ref p) (.ref r) H Q :=
  ⟨_, _, .lst h1 (dp_ints ms), .lst h2 (dp_ints ns), shaped_ints ms, shaped_ints ns, by rw [PyData.eqv, eqvAll_ints]; exact q⟩
theorem i_neLI (h1 : SqL K H p (ms.map V.int)) (h2 : SqL K H r (ns.map V.int)) (q : Q (.bl (!decide (ms = ns))) H) : rNeD K (.ref p) (.ref r) H Q :=
  ⟨_, _, .lst h1 (dp_ints ms), .lst h2 (dp_ints ns), shaped_ints ms, shaped_ints ns, by rw [PyData.eqv, eqvAll_ints]; exact q⟩
theorem i_eqL0 (h1 : SqL K H p (ms.map V.int)) (h2 : SqL K H r []) (q : Q (.bl (decide (ms = []))) H) : rEqD K (.ref p) (.ref r) H Q := i_eqLI (ns := []) h1 h2 q
theorem i_eq00 (h1 : SqL K H p []) (h2 : SqL K H r []) (q : Q (.bl true) H) : rEqD K (.ref p) (.ref r) H Q := i_eqLI (ms := []) (ns := []) h1 h2 (by simpa using q)
theorem i_isn {P : Prop} (q : P) : V.non = V.non ∧ P := ⟨rfl, q⟩
theorem i_tru {P : Prop} (q : P) : True ∧ P := ⟨trivial, q⟩
theorem i_glst {m : Nat} {t : TGs} {Z : L2.St → Hp → Prop} (h : SqL K H p xs) (e : xs.length = m) (q : t xs σ H Z) : gLst K m t (.ref p) σ H Z := ⟨p, xs, rfl, h, e, q⟩
end
/-! ### comprehensions -/
section
variable {σ : L2.St} {H H1 : Hp} {Q : VK} {K : PySem.W.Frag} {D a : Addr} {wi : TI} {g : TG} {tt : TT} {te : TE} {vs : List Nat} {lo : Int} {n : Nat} {xs : List V} {Qd : Hp → Prop}
theorem i_lc (h : wi σ H fun J H1 => ∀ D, H1 D = none → ∃ W : Nat → Nat → Hp → Prop, (∃ m, W 0 m (upd H1 D (.lst []))) ∧ ∀ i m H, W i m H →
  (J.stop i H ∧ Q (.ref D) H) ∨ (J.go i H ∧ ∃ Nx : Hp → Prop, (∀ H', Nx H' → ∃ m', m' < m ∧ W (i + 1) m' H') ∧ ∀ x H', J.yld i H x H' → g x (wipe σ vs) H' fun σ2 H2 => wipe σ2 vs = wipe σ vs ∧ tt σ2 H2 fun b H3 =>
    if b = true then te σ2 H3 fun y H4 => ∃ acc, H4 D = some (.lst acc) ∧ acc.length < sizeLine ∧ Nx (upd H4 D (.lst (acc ++ [y]))) else Nx H3)) : tLc wi g tt te vs σ H Q := h
/-- the turn of a comprehension: what its target, test and element come to; Z is wanted of a kept element, Y where the test says no -/
def LcTurn (g : TG) (tt : TT) (te : TE) (vs : List Nat) (σ : L2.St) (x : V) (H : Hp) (Z : VK) (Y : Hp → Prop) : Prop :=
  g x (wipe σ vs) H fun σ2 H2 => wipe σ2 vs = wipe σ vs ∧ tt σ2 H2 fun b H3 => if b = true then te σ2 H3 Z else Y H3
/-- over a range; P: what holds behind i turns of the list made so far -/
theorem lcR (P : Nat → List V → Hp → Prop) (nD : H1 D = none) (h0 : P 0 [] (upd H1 D (.lst [])))
    (hs : ∀ i acc H (Z : VK) (Y : Hp → Prop), i < n → P i acc H → H D = some (.lst acc) → (∀ y H4, H4 D = some (.lst acc) → acc.length < sizeLine → P (i + 1) (acc ++ [y]) (upd H4 D (.lst (acc ++ [y]))) → Z y H4) →
      (∀ H4, H4 D = some (.lst acc) → P (i + 1) acc H4 → Y H4) → LcTurn g tt te vs σ (.int (lo + i)) H Z Y) (hd : ∀ acc H, P n acc H → H D = some (.lst acc) → Qd H) :
    ∃ W : Nat → Nat → Hp → Prop, (∃ m, W 0 m (upd H1 D (.lst []))) ∧ ∀ i m H, W i m H →
      ((Itr lo n).stop i H ∧ Qd H) ∨ ((Itr lo n).go i H ∧ ∃ Nx : Hp → Prop, (∀ H', Nx H' → ∃ m', m' < m ∧ W (i + 1) m' H') ∧ ∀ x H', (Itr lo n).yld i H x H' → g x (wipe σ vs) H' fun σ2 H2 => wipe σ2 vs = wipe σ vs ∧ tt σ2 H2 fun b H3 =>
        if b = true then te σ2 H3 fun y H4 => ∃ acc, H4 D = some (.lst acc) ∧ acc.length < sizeLine ∧ Nx (upd H4 D (.lst (acc ++ [y]))) else Nx H3) := by
  refine lc_range (fun i H => ∃ acc, P i acc H ∧ H D = some (.lst acc)) ⟨[], h0, upd_same⟩ (fun i H hi hp => ?_) (fun H hp => ?_)
  · obtain ⟨acc, hp, ha⟩ := hp
    exact hs i acc H _ _ hi hp ha (fun y H4 h1 h2 h3 => ⟨acc, h1, h2, _, h3, upd_same⟩) fun H4 h1 h2 => ⟨acc, h2, h1⟩
  · obtain ⟨acc, hp, ha⟩ := hp
    exact hd acc H hp ha
theorem lcL (P : Nat → List V → Hp → Prop) (nD : H1 D = none) (h0 : P 0 [] (upd H1 D (.lst []))) (hl : ∀ i acc H, i ≤ xs.length → P i acc H → H D = some (.lst acc) → SqL K H a xs)
    (hs : ∀ i x acc H (Z : VK) (Y : Hp → Prop), xs[i]? = some x → P i acc H → H D = some (.lst acc) → (∀ y H4, H4 D = some (.lst acc) → acc.length < sizeLine → P (i + 1) (acc ++ [y]) (upd H4 D (.lst (acc ++ [y]))) → Z y H4) →
      (∀ H4, H4 D = some (.lst acc) → P (i + 1) acc H4 → Y H4) → LcTurn g tt te vs σ x H Z Y) (hd : ∀ acc H, P xs.length acc H → H D = some (.lst acc) → Qd H) :
    ∃ W : Nat → Nat → Hp → Prop, (∃ m, W 0 m (upd H1 D (.lst []))) ∧ ∀ i m H, W i m H →
      ((Itl K a).stop i H ∧ Qd H) ∨ ((Itl K a).go i H ∧ ∃ Nx : Hp → Prop, (∀ H', Nx H' → ∃ m', m' < m ∧ W (i + 1) m' H') ∧ ∀ x H', (Itl K a).yld i H x H' → g x (wipe σ vs) H' fun σ2 H2 => wipe σ2 vs = wipe σ vs ∧ tt σ2 H2 fun b H3 =>
        if b = true then te σ2 H3 fun y H4 => ∃ acc, H4 D = some (.lst acc) ∧ acc.length < sizeLine ∧ Nx (upd H4 D (.lst (acc ++ [y]))) else Nx H3) := by
  refine lc_list (xs := xs) (fun i H => ∃ acc, P i acc H ∧ H D = some (.lst acc)) ⟨[], h0, upd_same⟩ (fun i H hi hp => ?_) (fun i x H hi hp => ?_) (fun H hp => ?_)
  · obtain ⟨acc, hp, ha⟩ := hp
    exact hl i acc H hi hp ha
  · obtain ⟨acc, hp, ha⟩ := hp
    exact hs i x acc H _ _ hi hp ha (fun y H4 h1 h2 h3 => ⟨acc, h1, h2, _, h3, upd_same⟩) fun H4 h1 h2 => ⟨acc, h2, h1⟩
  · obtain ⟨acc, hp, ha⟩ := hp
    exact hd acc H hp ha
/-- whole numbers, one for each turn -/
theorem lcR_int (f : Nat → Int) (nD : H1 D = none) (hn : n ≤ 1000000)
    (hs : ∀ i H (Z : VK) (Y : Hp → Prop), i < n → Same H1 H → (∀ H4, Same H H4 → Z (.int (f i)) H4) → LcTurn g tt te vs σ (.int (lo + i)) H Z Y)
    (hd : ∀ H, Same H1 H → H D = some (.lst (((List.range n).map f).map V.int)) → Qd H) :
    ∃ W : Nat → Nat → Hp → Prop, (∃ m, W 0 m (upd H1 D (.lst []))) ∧ ∀ i m H, W i m H →
      ((Itr lo n).stop i H ∧ Qd H) ∨ ((Itr lo n).go i H ∧ ∃ Nx : Hp → Prop, (∀ H', Nx H' → ∃ m', m' < m ∧ W (i + 1) m' H') ∧ ∀ x H', (Itr lo n).yld i H x H' → g x (wipe σ vs) H' fun σ2 H2 => wipe σ2 vs = wipe σ vs ∧ tt σ2 H2 fun b H3 =>
        if b = true then te σ2 H3 fun y H4 => ∃ acc, H4 D = some (.lst acc) ∧ acc.length < sizeLine ∧ Nx (upd H4 D (.lst (acc ++ [y]))) else Nx H3) := by
  refine lcR (fun i acc H => i ≤ n ∧ acc = ((List.range i).map f).map V.int ∧ Same H1 H) nD ⟨Nat.zero_le _, rfl, Same.new nD⟩ ?_ ?_
  · rintro i acc H Z Y hi ⟨_, rfl, hsame⟩ ha hz _
    refine hs i H Z Y hi hsame fun H4 h4 => hz _ H4 (h4 _ _ ha) (sz4' (by simp; omega)) ⟨hi, ?_, Same.mut (hsame.trans h4) nD⟩
    rw [List.range_succ, List.map_append, List.map_append]
    rfl
  · rintro acc H ⟨_, rfl, hsame⟩ ha
    exact hd H hsame ha
theorem lcL_int (f : Nat → Int) (nD : H1 D = none) (hn : xs.length ≤ 1000000) (hx : SqL K H1 a xs)
    (hs : ∀ i x H (Z : VK) (Y : Hp → Prop), xs[i]? = some x → Same H1 H → (∀ H4, Same H H4 → Z (.int (f i)) H4) → LcTurn g tt te vs σ x H Z Y)
    (hd : ∀ H, Same H1 H → H D = some (.lst (((List.range xs.length).map f).map V.int)) → Qd H) :
    ∃ W : Nat → Nat → Hp → Prop, (∃ m, W 0 m (upd H1 D (.lst []))) ∧ ∀ i m H, W i m H →
      ((Itl K a).stop i H ∧ Qd H) ∨ ((Itl K a).go i H ∧ ∃ Nx : Hp → Prop, (∀ H', Nx H' → ∃ m', m' < m ∧ W (i + 1) m' H') ∧ ∀ x H', (Itl K a).yld i H x H' → g x (wipe σ vs) H' fun σ2 H2 => wipe σ2 vs = wipe σ vs ∧ tt σ2 H2 fun b H3 =>
        if b = true then te σ2 H3 fun y H4 => ∃ acc, H4 D = some (.lst acc) ∧ acc.length < sizeLine ∧ Nx (upd H4 D (.lst (acc ++ [y]))) else Nx H3) := by
  refine lcL (xs := xs) (fun i acc H => i ≤ xs.length ∧ acc = ((List.range i).map f).map V.int ∧ Same H1 H) nD ⟨Nat.zero_le _, rfl, Same.new nD⟩ (fun i acc H _ hp _ => hp.2.2.seq hx) ?_ ?_
  · rintro i x acc H Z Y hi ⟨_, rfl, hsame⟩ ha hz _
    have hi' : i < xs.length := (List.getElem?_eq_some_iff.mp hi).1
    refine hs i x H Z Y hi hsame fun H4 h4 => hz _ H4 (h4 _ _ ha) (sz4' (by simp; omega)) ⟨hi', ?_, Same.mut (hsame.trans h4) nD⟩
    rw [List.range_succ, List.map_append, List.map_append]
    rfl
  · rintro acc H ⟨_, rfl, hsame⟩ ha
    exact hd H hsame ha
/-- over a range, kept where b says so -/
theorem lcR_fil (b : Nat → Bool) (f : Nat → Int) (nD : H1 D = none) (hn : n ≤ 1000000)
    (hs : ∀ i H (Z : VK) (Y : Hp → Prop), i < n → Same H1 H → (b i = true → ∀ H4, Same H H4 → Z (.int (f i)) H4) → (b i = false → ∀ H4, Same H H4 → Y H4) → LcTurn g tt te vs σ (.int (lo + i)) H Z Y)
    (hd : ∀ H, Same H1 H → H D = some (.lst ((((List.range n).filter b).map f).map V.int)) → Qd H) :
    ∃ W : Nat → Nat → Hp → Prop, (∃ m, W 0 m (upd H1 D (.lst []))) ∧ ∀ i m H, W i m H →
      ((Itr lo n).stop i H ∧ Qd H) ∨ ((Itr lo n).go i H ∧ ∃ Nx : Hp → Prop, (∀ H', Nx H' → ∃ m', m' < m ∧ W (i + 1) m' H') ∧ ∀ x H', (Itr lo n).yld i H x H' → g x (wipe σ vs) H' fun σ2 H2 => wipe σ2 vs = wipe σ vs ∧ tt σ2 H2 fun b H3 =>
        if b = true then te σ2 H3 fun y H4 => ∃ acc, H4 D = some (.lst acc) ∧ acc.length < sizeLine ∧ Nx (upd H4 D (.lst (acc ++ [y]))) else Nx H3) := by
  refine lcR (fun i acc H => i ≤ n ∧ acc = (((List.range i).filter b).map f).map V.int ∧ Same H1 H) nD ⟨Nat.zero_le _, rfl, Same.new nD⟩ ?_ ?_
  · rintro i acc H Z Y hi ⟨_, rfl, hsame⟩ ha hz hy
    refine hs i H Z Y hi hsame (fun hb H4 h4 => hz _ H4 (h4 _ _ ha) (sz4' ?_) ⟨hi, ?_, Same.mut (hsame.trans h4) nD⟩) (fun hb H4 h4 => hy H4 (h4 _ _ ha) ⟨hi, ?_, hsame.trans h4⟩)
    · have := List.length_filter_le b (List.range i)
      rw [List.length_range] at this
      simp only [List.length_map]
      omega
    · rw [List.range_succ, List.filter_append, List.map_append, List.map_append, List.filter_cons, if_pos hb]
      rfl
    · rw [List.range_succ, List.filter_append, List.map_append, List.map_append, List.filter_cons, if_neg (by rw [hb]; exact Bool.false_ne_true)]
      simp
  · rintro acc H ⟨_, rfl, hsame⟩ ha
    exact hd H hsame ha
/-- over a list, nothing kept -/
theorem lcL_nil (nD : H1 D = none) (hx : SqL K H1 a xs)
    (hs : ∀ (i : Nat) (x : V) H (Z : VK) (Y : Hp → Prop), xs[i]? = some x → Same H1 H → (∀ H4, Same H H4 → Y H4) → LcTurn g tt te vs σ x H Z Y)
    (hd : ∀ H, Same H1 H → H D = some (.lst []) → Qd H) :
    ∃ W : Nat → Nat → Hp → Prop, (∃ m, W 0 m (upd H1 D (.lst []))) ∧ ∀ i m H, W i m H →
      ((Itl K a).stop i H ∧ Qd H) ∨ ((Itl K a).go i H ∧ ∃ Nx : Hp → Prop, (∀ H', Nx H' → ∃ m', m' < m ∧ W (i + 1) m' H') ∧ ∀ x H', (Itl K a).yld i H x H' → g x (wipe σ vs) H' fun σ2 H2 => wipe σ2 vs = wipe σ vs ∧ tt σ2 H2 fun b H3 =>
        if b = true then te σ2 H3 fun y H4 => ∃ acc, H4 D = some (.lst acc) ∧ acc.length < sizeLine ∧ Nx (upd H4 D (.lst (acc ++ [y]))) else Nx H3) := by
  refine lcL (xs := xs) (fun i acc H => acc = [] ∧ Same H1 H) nD ⟨rfl, Same.new nD⟩ (fun i acc H _ hp _ => hp.2.seq hx) ?_ ?_
  · rintro i x acc H Z Y hi ⟨rfl, hsame⟩ ha _ hy
    exact hs i x H Z Y hi hsame fun H4 h4 => hy H4 (h4 _ _ ha) ⟨rfl, hsame.trans h4⟩
  · rintro acc H ⟨rfl, hsame⟩ ha
    exact hd H hsame ha
/-- over a list, a value for each, from the turn's number -/
theorem lcL_v (f : Nat → V) (nD : H1 D = none) (hn : xs.length ≤ 1000000) (hx : SqL K H1 a xs)
    (hs : ∀ (i : Nat) (x : V) H (Z : VK) (Y : Hp → Prop), xs[i]? = some x → Same H1 H → (∀ H4, Same H H4 → Z (f i) H4) → LcTurn g tt te vs σ x H Z Y)
    (hd : ∀ H, Same H1 H → H D = some (.lst ((List.range xs.length).map f)) → Qd H) :
    ∃ W : Nat → Nat → Hp → Prop, (∃ m, W 0 m (upd H1 D (.lst []))) ∧ ∀ i m H, W i m H →
      ((Itl K a).stop i H ∧ Qd H) ∨ ((Itl K a).go i H ∧ ∃ Nx : Hp → Prop, (∀ H', Nx H' → ∃ m', m' < m ∧ W (i + 1) m' H') ∧ ∀ x H', (Itl K a).yld i H x H' → g x (wipe σ vs) H' fun σ2 H2 => wipe σ2 vs = wipe σ vs ∧ tt σ2 H2 fun b H3 =>
        if b = true then te σ2 H3 fun y H4 => ∃ acc, H4 D = some (.lst acc) ∧ acc.length < sizeLine ∧ Nx (upd H4 D (.lst (acc ++ [y]))) else Nx H3) := by
  refine lcL (xs := xs) (fun i acc H => i ≤ xs.length ∧ acc = (List.range i).map f ∧ Same H1 H) nD ⟨Nat.zero_le _, rfl, Same.new nD⟩ (fun i acc H _ hp _ => hp.2.2.seq hx) ?_ ?_
  · rintro i x acc H Z Y hi ⟨_, rfl, hsame⟩ ha hz _
    have hi' : i < xs.length := (List.getElem?_eq_some_iff.mp hi).1
    refine hs i x H Z Y hi hsame fun H4 h4 => hz _ H4 (h4 _ _ ha) (sz4' (by simp; omega)) ⟨hi', ?_, Same.mut (hsame.trans h4) nD⟩
    rw [List.range_succ, List.map_append]
    rfl
  · rintro acc H ⟨_, rfl, hsame⟩ ha
    exact hd H hsame ha
/-- over a list, truths all true -/
theorem lcL_all (nD : H1 D = none) (hn : xs.length ≤ 1000000) (hx : SqL K H1 a xs)
    (hs : ∀ (i : Nat) (x : V) H (Z : VK) (Y : Hp → Prop), xs[i]? = some x → Same H1 H → (∀ H4, Same H H4 → Z (.bl true) H4) → LcTurn g tt te vs σ x H Z Y)
    (hd : ∀ H, Same H1 H → SqL K H D ((List.replicate xs.length true).map V.bl) → Qd H) :
    ∃ W : Nat → Nat → Hp → Prop, (∃ m, W 0 m (upd H1 D (.lst []))) ∧ ∀ i m H, W i m H →
      ((Itl K a).stop i H ∧ Qd H) ∨ ((Itl K a).go i H ∧ ∃ Nx : Hp → Prop, (∀ H', Nx H' → ∃ m', m' < m ∧ W (i + 1) m' H') ∧ ∀ x H', (Itl K a).yld i H x H' → g x (wipe σ vs) H' fun σ2 H2 => wipe σ2 vs = wipe σ vs ∧ tt σ2 H2 fun b H3 =>
        if b = true then te σ2 H3 fun y H4 => ∃ acc, H4 D = some (.lst acc) ∧ acc.length < sizeLine ∧ Nx (upd H4 D (.lst (acc ++ [y]))) else Nx H3) := by
  refine lcL_v (fun _ => .bl true) nD hn hx hs fun H hs' h => hd H hs' (.of ?_)
  rw [h, List.map_const', List.length_range, List.map_replicate]
theorem i_all {H : Hp} {Q : VK} {p : Addr} {m : Nat} (h : SqL K H p ((List.replicate m true).map V.bl)) (q : Q (.bl true) H) : rAll K [.ref p] H Q := by
  refine ⟨p, _, rfl, h, ?_⟩
  have e : (List.replicate m true).all id = true := by
    rw [List.all_eq_true]
    intro x hx
    rw [(List.mem_replicate.mp hx).2]
    rfl
  rw [e]
  exact q
theorem i_min {H : Hp} {Q : VK} {p : Addr} {ns : List Int} (h : SqL K H p (ns.map V.int)) (h0 : 0 < ns.length) (q : ∀ m, m ∈ ns → (∀ y, y ∈ ns → m ≤ y) → Q (.int m) H) : rMin K [.ref p] H Q := ⟨p, ns, rfl, h, h0, q⟩
theorem i_max {H : Hp} {Q : VK} {p : Addr} {ns : List Int} (h : SqL K H p (ns.map V.int)) (h0 : 0 < ns.length) (q : ∀ m, m ∈ ns → (∀ y, y ∈ ns → y ≤ m) → Q (.int m) H) : rMax K [.ref p] H Q := ⟨p, ns, rfl, h, h0, q⟩
theorem i_yes {P : Bool → Hp → Prop} (q : P true H) : tYes σ H P := q
theorem i_wipe {A : Prop} {σ2 : L2.St} (e : wipe σ2 vs = wipe σ vs) (q : A) : wipe σ2 vs = wipe σ vs ∧ A := ⟨e, q⟩
theorem i_turn {x : V} {Z : VK} {Y : Hp → Prop} {σ1 : L2.St} (e : wipe σ vs = σ1) (h : g x σ1 H fun σ2 H2 => wipe σ2 vs = σ1 ∧ tt σ2 H2 fun b H3 => if b = true then te σ2 H3 Z else Y H3) : LcTurn g tt te vs σ x H Z Y := by
  subst e
  exact h
theorem i_wiped {A : Prop} {σ1 σ2 : L2.St} (e : wipe σ2 vs = σ1) (q : A) : wipe σ2 vs = σ1 ∧ A := ⟨e, q⟩
end
theorem ixN_nn {n : Nat} {i : Int} (h0 : 0 ≤ i) (h1 : i < n) : ixN n i = some i.toNat := by
  unfold ixN
  rw [if_pos h0, if_pos h1]
theorem ixN_last {n : Nat} (h : 0 < n) : ixN n (-1) = some (n - 1) := by
  unfold ixN
  rw [if_neg (by decide), if_pos (by omega)]
  congr 1
  omega
theorem i_ixLast {K : PySem.W.Frag} {H : Hp} {p : Addr} {ms : List Int} {Q : VK} (h : SqL K H p (ms.map V.int)) (h1 : 0 < ms.length) (q : ∀ z, ms[ms.length - 1]? = some z → Q (.int z) H) : rIxL K (.ref p) (.int (-1)) H Q := by
  have e : ms[ms.length - 1]? = some ms[ms.length - 1] := List.getElem?_eq_getElem (by omega)
  refine ⟨p, _, -1, .int ms[ms.length - 1], rfl, rfl, h, ?_, q _ e⟩
  unfold atI
  rw [List.length_map, ixN_last h1, Option.bind_some, List.getElem?_map, e]
  rfl
theorem cut_init {xs : List V} : cutV xs none (some (-1)) = xs.dropLast := by
  unfold cutV
  rw [HT.sIx_none, List.drop_zero, Nat.sub_zero]
  have e : HT.sIx xs.length xs.length (some (-1)) = xs.length - 1 := by
    unfold HT.sIx
    simp
    omega
  rw [e, List.dropLast_eq_take]
theorem i_slInitM {K : PySem.W.Frag} {H : Hp} {p : Addr} {ms : List Int} {Q : VK} (h : SqL K H p (ms.map V.int)) (q : ∀ p', H p' = none → Q (.ref p') (upd H p' (.lst (ms.dropLast.map V.int)))) : rSlL K (.ref p) none (some (-1)) H Q := ⟨p, _, rfl, h, by rw [cut_init, ← List.map_dropLast]; exact q⟩
theorem i_setLast {H : Hp} {p : Addr} {ms : List Int} {z : Int} {Z : Hp → Prop} (h : H p = some (.lst (ms.map V.int))) (h1 : 0 < ms.length) (q : Z (upd H p (.lst ((ms.set (ms.length - 1) z).map V.int)))) : rSetL (.ref p) (.int (-1)) (.int z) H Z :=
  ⟨p, _, -1, ms.length - 1, rfl, rfl, h, by rw [List.length_map]; exact ixN_last h1, by rw [← List.map_set]; exact q⟩
theorem i_catM1 {H : Hp} {p r : Addr} {ms : List Int} {y : Int} {Q : VK} (h1 : H p = some (.lst (ms.map V.int))) (h2 : H r = some (.lst [.int y])) (hz : ms.length + 1 ≤ 1000000) (q : ∀ p', H p' = none → Q (.ref p') (upd H p' (.lst ((ms ++ [y]).map V.int)))) : rCat (.ref p) (.ref r) H Q := i_catM (ns := [y]) h1 h2 hz q
theorem fil_last (b : Nat → Bool) : ∀ n, (List.range n).filter b = [] ∨ ∃ k, k < n ∧ b k = true ∧ (∀ j, k < j → j < n → b j = false) ∧ ((List.range n).filter b)[((List.range n).filter b).length - 1]? = some k
  | 0 => .inl rfl
  | n + 1 => by
    rw [List.range_succ, List.filter_append]
    cases e : b n with
    | true =>
      refine .inr ⟨n, by omega, e, fun j h1 h2 => by omega, ?_⟩
      have : List.filter b [n] = [n] := by simp [e]
      rw [this, List.length_append]
      simp
    | false =>
      have : List.filter b [n] = [] := by simp [e]
      rw [this, List.append_nil]
      rcases fil_last b n with h | ⟨k, h1, h2, h3, h4⟩
      · exact .inl h
      · refine .inr ⟨k, by omega, h2, fun j g1 g2 => ?_, h4⟩
        by_cases c : j = n
        · subst c; exact e
        · exact h3 j g1 (by omega)
theorem fil_none {b : Nat → Bool} {n : Nat} (h : (List.range n).filter b = []) {j : Nat} (hj : j < n) : b j = false := by
  have := List.filter_eq_nil_iff.mp h j (List.mem_range.mpr hj)
  simpa using this
theorem i_reverse {H : Hp} {p : Addr} {ms : List Int} {Q : VK} (h : H p = some (.lst (ms.map V.int))) (q : Q .non (upd H p (.lst (ms.reverse.map V.int)))) : rReverse (.ref p) [] H Q := ⟨p, _, rfl, rfl, h, by rw [← List.map_reverse]; exact q⟩
theorem i_ne00 {K : PySem.W.Frag} {H : Hp} {Q : VK} {p r : Addr} (h1 : SqL K H p []) (h2 : SqL K H r []) (q : Q (.bl false) H) : rNeD K (.ref p) (.ref r) H Q := i_neLI (ms := []) (ns := []) h1 h2 (by simpa using q)
theorem i_min2 {K : Prop} {R : Int → Int → Prop} {i j : Int} (q : R i j) : ∃ i' j', [V.int i, V.int j] = [.int i', .int j'] ∧ R i' j' := ⟨i, j, rfl, q⟩
theorem i_setM {H : Hp} {p : Addr} {ms : List Int} {i z : Int} {Z : Hp → Prop} (h : H p = some (.lst (ms.map V.int))) (h0 : 0 ≤ i) (h1 : i < ms.length) (q : Z (upd H p (.lst ((ms.set i.toNat z).map V.int)))) : rSetL (.ref p) (.int i) (.int z) H Z :=
  ⟨p, _, i, i.toNat, rfl, rfl, h, ixN_nn h0 (by rw [List.length_map]; exact h1), by rw [← List.map_set]; exact q⟩
/-! ### the rules that name the written part, K told -/
def rListOf (K : PySem.W.Frag) : List V → Hp → VK → Prop := fun xs H Q => ∃ p ys, xs = [V.ref p] ∧ (SqL K H p ys ∨ SqT K H p ys) ∧ ∀ l, H l = none → Q (.ref l) (upd H l (.lst ys))
def rTupleOf (K : PySem.W.Frag) : List V → Hp → VK → Prop := fun xs H Q => ∃ p ys, xs = [V.ref p] ∧ ((SqL K H p ys ∧ ∀ l, H l = none → Q (.ref l) (upd H l (.tup ys))) ∨ (SqT K H p ys ∧ Q (.ref p) H))
section
variable {X : Cx} (K : PySem.W.Frag) (e : X.K = K)
include e
theorem sl_listK : SlR X (rSlL K) := by subst e; exact sl_list
theorem sl_tupK : SlR X (rSlA K) := by subst e; exact sl_tupA
theorem ix_listK : IxR X (rIxL K) := by subst e; exact ix_list
theorem ix_tupK : IxR X (rIxT K) := by subst e; exact ix_tup
theorem ix_seqK : IxR X (rIx K) := by subst e; exact ix_seq
theorem call_lenK : CallR X (.builtin "len") (rLenA K) := by subst e; exact call_lenA
theorem cr_sumK (hc : X.calm = true) : CallR X (.builtin "sum") (rSum K) := by subst e; exact cr_sum hc
theorem cr_minK (hc : X.calm = true) : CallR X (.builtin "min") (rMin K) := by subst e; exact cr_min hc
theorem cr_maxK (hc : X.calm = true) : CallR X (.builtin "max") (rMax K) := by subst e; exact cr_max hc
theorem cr_anyK (hc : X.calm = true) : CallR X (.builtin "any") (rAny K) := by subst e; exact cr_any hc
theorem cr_allK (hc : X.calm = true) : CallR X (.builtin "all") (rAll K) := by subst e; exact cr_all hc
theorem call_isiK' : CallR X (.builtin "isinstance") (rIsi K) := by subst e; exact call_isi
theorem call_listK : CallR X (.type "list") (rListOf K) := by subst e; exact call_list_of
theorem call_tupleK : CallR X (.type "tuple") (rTupleOf K) := by subst e; exact call_tuple_of
theorem op_eqDK (hu : X.A.units + 64 < cLine) : OpR X (compareOp .Eq) (rEqD K) := by subst e; exact op_eqD hu
theorem op_neDK (hu : X.A.units + 64 < cLine) : OpR X (compareOp .NotEq) (rNeD K) := by subst e; exact op_neD hu
theorem op_ltTK (hu : X.A.units < cLine) : OpR X (compareOp .Lt) (rLtT K) := by subst e; exact op_ltT hu
theorem op_catTK : OpR X (binaryOp .Add) (rCatT K) := by subst e; exact op_catT
theorem op_inK : OpR X (compareOp .In) (rIn K false) := by subst e; exact op_in_seq
theorem op_notInK : OpR X (compareOp .NotIn) (rIn K true) := by subst e; exact op_notIn_seq
theorem pi_listK {tg l : Expr} {tl : TE} (hl : PE X l tl) : PI X tg l (iList K tl) := by subst e; exact pi_list hl
theorem pi_tupK {tg l : Expr} {tl : TE} (hl : PE X l tl) : PI X tg l (iTup K tl) := by subst e; exact pi_tup hl
theorem pg_tupK {es : List Expr} {k : Nat} {t : TGs} {pos : Pos} (n : Nat) (hc : X.calm = true) (h : PGs X es t) (hn : (assignEach es X.env).length = n := by rfl) (hst : (assignEach es X.env).findIdx? (·.1) = none := by rfl) : PG X (.Tuple es k pos) (gTup K n t) := by subst e; exact pg_tup hc h hn hst
theorem pg_lstK {es : List Expr} {k : Nat} {t : TGs} {pos : Pos} (n : Nat) (hc : X.calm = true) (h : PGs X es t) (hn : (assignEach es X.env).length = n := by rfl) (hst : (assignEach es X.env).findIdx? (·.1) = none := by rfl) : PG X (.Tuple es k pos) (gLst K n t) := by subst e; exact pg_lst hc h hn hst
end
section
variable {H : Hp} {Q : VK} {K : PySem.W.Frag} {p : Addr} {xs : List V}
theorem i_listOf (h : SqL K H p xs) (q : ∀ l, H l = none → Q (.ref l) (upd H l (.lst xs))) : rListOf K [.ref p] H Q := ⟨p, xs, rfl, .inl h, q⟩
theorem i_listOfT (h : SqT K H p xs) (q : ∀ l, H l = none → Q (.ref l) (upd H l (.lst xs))) : rListOf K [.ref p] H Q := ⟨p, xs, rfl, .inr h, q⟩
end
theorem wipe_one {σ σ1 : L2.St} {k : Nat} (e : List.set σ k none = σ1) : wipe σ [k] = σ1 := e
theorem wipe_two {σ σ1 σ2 : L2.St} {j k : Nat} (e : List.set σ k none = σ1) (e2 : List.set σ1 j none = σ2) : wipe σ [j, k] = σ2 := by
  show List.set (List.set σ k none) j none = σ2
  rw [e, e2]
theorem wipe_three {σ σ1 σ2 σ3 : L2.St} {i j k : Nat} (e : List.set σ k none = σ1) (e2 : List.set σ1 j none = σ2) (e3 : List.set σ2 i none = σ3) : wipe σ [i, j, k] = σ3 := by
  show List.set (List.set (List.set σ k none) j none) i none = σ3
  rw [e, e2, e3]
/-- the heap is let go of but for what stood at first -/
theorem forget {P : Hp → Prop} {H H1 : Hp} (s : Same H H1) (h : ∀ H', Same H H' → P H') : P H1 := h H1 s
/-- the scope of a comprehension in a comprehension -/
def relS (scope sc : Scope) : Scope := { scope with names := scope.names.map fun (n, k) => if (k == .free && sc.kind == .function && sc.names.lookup n == some .cell) then (n, .cell) else (n, k) }
/-! ### a slot set, by its number -/
theorem set_n0 {α : Type} {y x0 : α} {r : List α} : List.set (x0 :: r) 0 y = y :: r := rfl
theorem set_n1 {α : Type} {y x0 x1 : α} {r : List α} : List.set (x0 :: x1 :: r) 1 y = x0 :: y :: r := rfl
theorem set_n2 {α : Type} {y x0 x1 x2 : α} {r : List α} : List.set (x0 :: x1 :: x2 :: r) 2 y = x0 :: x1 :: y :: r := rfl
theorem set_n3 {α : Type} {y x0 x1 x2 x3 : α} {r : List α} : List.set (x0 :: x1 :: x2 :: x3 :: r) 3 y = x0 :: x1 :: x2 :: y :: r := rfl
theorem set_n4 {α : Type} {y x0 x1 x2 x3 x4 : α} {r : List α} : List.set (x0 :: x1 :: x2 :: x3 :: x4 :: r) 4 y = x0 :: x1 :: x2 :: x3 :: y :: r := rfl
theorem set_n5 {α : Type} {y x0 x1 x2 x3 x4 x5 : α} {r : List α} : List.set (x0 :: x1 :: x2 :: x3 :: x4 :: x5 :: r) 5 y = x0 :: x1 :: x2 :: x3 :: x4 :: y :: r := rfl
theorem set_n6 {α : Type} {y x0 x1 x2 x3 x4 x5 x6 : α} {r : List α} : List.set (x0 :: x1 :: x2 :: x3 :: x4 :: x5 :: x6 :: r) 6 y = x0 :: x1 :: x2 :: x3 :: x4 :: x5 :: y :: r := rfl
theorem set_n7 {α : Type} {y x0 x1 x2 x3 x4 x5 x6 x7 : α} {r : List α} : List.set (x0 :: x1 :: x2 :: x3 :: x4 :: x5 :: x6 :: x7 :: r) 7 y = x0 :: x1 :: x2 :: x3 :: x4 :: x5 :: x6 :: y :: r := rfl
theorem set_n8 {α : Type} {y x0 x1 x2 x3 x4 x5 x6 x7 x8 : α} {r : List α} : List.set (x0 :: x1 :: x2 :: x3 :: x4 :: x5 :: x6 :: x7 :: x8 :: r) 8 y = x0 :: x1 :: x2 :: x3 :: x4 :: x5 :: x6 :: x7 :: y :: r := rfl
theorem set_n9 {α : Type} {y x0 x1 x2 x3 x4 x5 x6 x7 x8 x9 : α} {r : List α} : List.set (x0 :: x1 :: x2 :: x3 :: x4 :: x5 :: x6 :: x7 :: x8 :: x9 :: r) 9 y = x0 :: x1 :: x2 :: x3 :: x4 :: x5 :: x6 :: x7 :: x8 :: y :: r := rfl
theorem set_n10 {α : Type} {y x0 x1 x2 x3 x4 x5 x6 x7 x8 x9 x10 : α} {r : List α} : List.set (x0 :: x1 :: x2 :: x3 :: x4 :: x5 :: x6 :: x7 :: x8 :: x9 :: x10 :: r) 10 y = x0 :: x1 :: x2 :: x3 :: x4 :: x5 :: x6 :: x7 :: x8 :: x9 :: y :: r := rfl
theorem set_n11 {α : Type} {y x0 x1 x2 x3 x4 x5 x6 x7 x8 x9 x10 x11 : α} {r : List α} : List.set (x0 :: x1 :: x2 :: x3 :: x4 :: x5 :: x6 :: x7 :: x8 :: x9 :: x10 :: x11 :: r) 11 y = x0 :: x1 :: x2 :: x3 :: x4 :: x5 :: x6 :: x7 :: x8 :: x9 :: x10 :: y :: r := rfl
theorem set_n12 {α : Type} {y x0 x1 x2 x3 x4 x5 x6 x7 x8 x9 x10 x11 x12 : α} {r : List α} : List.set (x0 :: x1 :: x2 :: x3 :: x4 :: x5 :: x6 :: x7 :: x8 :: x9 :: x10 :: x11 :: x12 :: r) 12 y = x0 :: x1 :: x2 :: x3 :: x4 :: x5 :: x6 :: x7 :: x8 :: x9 :: x10 :: x11 :: y :: r := rfl
theorem set_n13 {α : Type} {y x0 x1 x2 x3 x4 x5 x6 x7 x8 x9 x10 x11 x12 x13 : α} {r : List α} : List.set (x0 :: x1 :: x2 :: x3 :: x4 :: x5 :: x6 :: x7 :: x8 :: x9 :: x10 :: x11 :: x12 :: x13 :: r) 13 y = x0 :: x1 :: x2 :: x3 :: x4 :: x5 :: x6 :: x7 :: x8 :: x9 :: x10 :: x11 :: x12 :: y :: r := rfl
theorem set_n14 {α : Type} {y x0 x1 x2 x3 x4 x5 x6 x7 x8 x9 x10 x11 x12 x13 x14 : α} {r : List α} : List.set (x0 :: x1 :: x2 :: x3 :: x4 :: x5 :: x6 :: x7 :: x8 :: x9 :: x10 :: x11 :: x12 :: x13 :: x14 :: r) 14 y = x0 :: x1 :: x2 :: x3 :: x4 :: x5 :: x6 :: x7 :: x8 :: x9 :: x10 :: x11 :: x12 :: x13 :: y :: r := rfl
theorem set_n15 {α : Type} {y x0 x1 x2 x3 x4 x5 x6 x7 x8 x9 x10 x11 x12 x13 x14 x15 : α} {r : List α} : List.set (x0 :: x1 :: x2 :: x3 :: x4 :: x5 :: x6 :: x7 :: x8 :: x9 :: x10 :: x11 :: x12 :: x13 :: x14 :: x15 :: r) 15 y = x0 :: x1 :: x2 :: x3 :: x4 :: x5 :: x6 :: x7 :: x8 :: x9 :: x10 :: x11 :: x12 :: x13 :: x14 :: y :: r := rfl
theorem set_n16 {α : Type} {y x0 x1 x2 x3 x4 x5 x6 x7 x8 x9 x10 x11 x12 x13 x14 x15 x16 : α} {r : List α} : List.set (x0 :: x1 :: x2 :: x3 :: x4 :: x5 :: x6 :: x7 :: x8 :: x9 :: x10 :: x11 :: x12 :: x13 :: x14 :: x15 :: x16 :: r) 16 y = x0 :: x1 :: x2 :: x3 :: x4 :: x5 :: x6 :: x7 :: x8 :: x9 :: x10 :: x11 :: x12 :: x13 :: x14 :: x15 :: y :: r := rfl
theorem set_n17 {α : Type} {y x0 x1 x2 x3 x4 x5 x6 x7 x8 x9 x10 x11 x12 x13 x14 x15 x16 x17 : α} {r : List α} : List.set (x0 :: x1 :: x2 :: x3 :: x4 :: x5 :: x6 :: x7 :: x8 :: x9 :: x10 :: x11 :: x12 :: x13 :: x14 :: x15 :: x16 :: x17 :: r) 17 y = x0 :: x1 :: x2 :: x3 :: x4 :: x5 :: x6 :: x7 :: x8 :: x9 :: x10 :: x11 :: x12 :: x13 :: x14 :: x15 :: x16 :: y :: r := rfl
theorem set_n18 {α : Type} {y x0 x1 x2 x3 x4 x5 x6 x7 x8 x9 x10 x11 x12 x13 x14 x15 x16 x17 x18 : α} {r : List α} : List.set (x0 :: x1 :: x2 :: x3 :: x4 :: x5 :: x6 :: x7 :: x8 :: x9 :: x10 :: x11 :: x12 :: x13 :: x14 :: x15 :: x16 :: x17 :: x18 :: r) 18 y = x0 :: x1 :: x2 :: x3 :: x4 :: x5 :: x6 :: x7 :: x8 :: x9 :: x10 :: x11 :: x12 :: x13 :: x14 :: x15 :: x16 :: x17 :: y :: r := rfl
theorem set_n19 {α : Type} {y x0 x1 x2 x3 x4 x5 x6 x7 x8 x9 x10 x11 x12 x13 x14 x15 x16 x17 x18 x19 : α} {r : List α} : List.set (x0 :: x1 :: x2 :: x3 :: x4 :: x5 :: x6 :: x7 :: x8 :: x9 :: x10 :: x11 :: x12 :: x13 :: x14 :: x15 :: x16 :: x17 :: x18 :: x19 :: r) 19 y = x0 :: x1 :: x2 :: x3 :: x4 :: x5 :: x6 :: x7 :: x8 :: x9 :: x10 :: x11 :: x12 :: x13 :: x14 :: x15 :: x16 :: x17 :: x18 :: y :: r := rfl
theorem set_n20 {α : Type} {y x0 x1 x2 x3 x4 x5 x6 x7 x8 x9 x10 x11 x12 x13 x14 x15 x16 x17 x18 x19 x20 : α} {r : List α} : List.set (x0 :: x1 :: x2 :: x3 :: x4 :: x5 :: x6 :: x7 :: x8 :: x9 :: x10 :: x11 :: x12 :: x13 :: x14 :: x15 :: x16 :: x17 :: x18 :: x19 :: x20 :: r) 20 y = x0 :: x1 :: x2 :: x3 :: x4 :: x5 :: x6 :: x7 :: x8 :: x9 :: x10 :: x11 :: x12 :: x13 :: x14 :: x15 :: x16 :: x17 :: x18 :: x19 :: y :: r := rfl
theorem set_n21 {α : Type} {y x0 x1 x2 x3 x4 x5 x6 x7 x8 x9 x10 x11 x12 x13 x14 x15 x16 x17 x18 x19 x20 x21 : α} {r : List α} : List.set (x0 :: x1 :: x2 :: x3 :: x4 :: x5 :: x6 :: x7 :: x8 :: x9 :: x10 :: x11 :: x12 :: x13 :: x14 :: x15 :: x16 :: x17 :: x18 :: x19 :: x20 :: x21 :: r) 21 y = x0 :: x1 :: x2 :: x3 :: x4 :: x5 :: x6 :: x7 :: x8 :: x9 :: x10 :: x11 :: x12 :: x13 :: x14 :: x15 :: x16 :: x17 :: x18 :: x19 :: x20 :: y :: r := rfl
theorem set_n22 {α : Type} {y x0 x1 x2 x3 x4 x5 x6 x7 x8 x9 x10 x11 x12 x13 x14 x15 x16 x17 x18 x19 x20 x21 x22 : α} {r : List α} : List.set (x0 :: x1 :: x2 :: x3 :: x4 :: x5 :: x6 :: x7 :: x8 :: x9 :: x10 :: x11 :: x12 :: x13 :: x14 :: x15 :: x16 :: x17 :: x18 :: x19 :: x20 :: x21 :: x22 :: r) 22 y = x0 :: x1 :: x2 :: x3 :: x4 :: x5 :: x6 :: x7 :: x8 :: x9 :: x10 :: x11 :: x12 :: x13 :: x14 :: x15 :: x16 :: x17 :: x18 :: x19 :: x20 :: x21 :: y :: r := rfl
theorem set_n23 {α : Type} {y x0 x1 x2 x3 x4 x5 x6 x7 x8 x9 x10 x11 x12 x13 x14 x15 x16 x17 x18 x19 x20 x21 x22 x23 : α} {r : List α} : List.set (x0 :: x1 :: x2 :: x3 :: x4 :: x5 :: x6 :: x7 :: x8 :: x9 :: x10 :: x11 :: x12 :: x13 :: x14 :: x15 :: x16 :: x17 :: x18 :: x19 :: x20 :: x21 :: x22 :: x23 :: r) 23 y = x0 :: x1 :: x2 :: x3 :: x4 :: x5 :: x6 :: x7 :: x8 :: x9 :: x10 :: x11 :: x12 :: x13 :: x14 :: x15 :: x16 :: x17 :: x18 :: x19 :: x20 :: x21 :: x22 :: y :: r := rfl
theorem set_n24 {α : Type} {y x0 x1 x2 x3 x4 x5 x6 x7 x8 x9 x10 x11 x12 x13 x14 x15 x16 x17 x18 x19 x20 x21 x22 x23 x24 : α} {r : List α} : List.set (x0 :: x1 :: x2 :: x3 :: x4 :: x5 :: x6 :: x7 :: x8 :: x9 :: x10 :: x11 :: x12 :: x13 :: x14 :: x15 :: x16 :: x17 :: x18 :: x19 :: x20 :: x21 :: x22 :: x23 :: x24 :: r) 24 y = x0 :: x1 :: x2 :: x3 :: x4 :: x5 :: x6 :: x7 :: x8 :: x9 :: x10 :: x11 :: x12 :: x13 :: x14 :: x15 :: x16 :: x17 :: x18 :: x19 :: x20 :: x21 :: x22 :: x23 :: y :: r := rfl
theorem set_n25 {α : Type} {y x0 x1 x2 x3 x4 x5 x6 x7 x8 x9 x10 x11 x12 x13 x14 x15 x16 x17 x18 x19 x20 x21 x22 x23 x24 x25 : α} {r : List α} : List.set (x0 :: x1 :: x2 :: x3 :: x4 :: x5 :: x6 :: x7 :: x8 :: x9 :: x10 :: x11 :: x12 :: x13 :: x14 :: x15 :: x16 :: x17 :: x18 :: x19 :: x20 :: x21 :: x22 :: x23 :: x24 :: x25 :: r) 25 y = x0 :: x1 :: x2 :: x3 :: x4 :: x5 :: x6 :: x7 :: x8 :: x9 :: x10 :: x11 :: x12 :: x13 :: x14 :: x15 :: x16 :: x17 :: x18 :: x19 :: x20 :: x21 :: x22 :: x23 :: x24 :: y :: r := rfl
theorem set_n26 {α : Type} {y x0 x1 x2 x3 x4 x5 x6 x7 x8 x9 x10 x11 x12 x13 x14 x15 x16 x17 x18 x19 x20 x21 x22 x23 x24 x25 x26 : α} {r : List α} : List.set (x0 :: x1 :: x2 :: x3 :: x4 :: x5 :: x6 :: x7 :: x8 :: x9 :: x10 :: x11 :: x12 :: x13 :: x14 :: x15 :: x16 :: x17 :: x18 :: x19 :: x20 :: x21 :: x22 :: x23 :: x24 :: x25 :: x26 :: r) 26 y = x0 :: x1 :: x2 :: x3 :: x4 :: x5 :: x6 :: x7 :: x8 :: x9 :: x10 :: x11 :: x12 :: x13 :: x14 :: x15 :: x16 :: x17 :: x18 :: x19 :: x20 :: x21 :: x22 :: x23 :: x24 :: x25 :: y :: r := rfl
theorem set_n27 {α : Type} {y x0 x1 x2 x3 x4 x5 x6 x7 x8 x9 x10 x11 x12 x13 x14 x15 x16 x17 x18 x19 x20 x21 x22 x23 x24 x25 x26 x27 : α} {r : List α} : List.set (x0 :: x1 :: x2 :: x3 :: x4 :: x5 :: x6 :: x7 :: x8 :: x9 :: x10 :: x11 :: x12 :: x13 :: x14 :: x15 :: x16 :: x17 :: x18 :: x19 :: x20 :: x21 :: x22 :: x23 :: x24 :: x25 :: x26 :: x27 :: r) 27 y = x0 :: x1 :: x2 :: x3 :: x4 :: x5 :: x6 :: x7 :: x8 :: x9 :: x10 :: x11 :: x12 :: x13 :: x14 :: x15 :: x16 :: x17 :: x18 :: x19 :: x20 :: x21 :: x22 :: x23 :: x24 :: x25 :: x26 :: y :: r := rfl
theorem set_n28 {α : Type} {y x0 x1 x2 x3 x4 x5 x6 x7 x8 x9 x10 x11 x12 x13 x14 x15 x16 x17 x18 x19 x20 x21 x22 x23 x24 x25 x26 x27 x28 : α} {r : List α} : List.set (x0 :: x1 :: x2 :: x3 :: x4 :: x5 :: x6 :: x7 :: x8 :: x9 :: x10 :: x11 :: x12 :: x13 :: x14 :: x15 :: x16 :: x17 :: x18 :: x19 :: x20 :: x21 :: x22 :: x23 :: x24 :: x25 :: x26 :: x27 :: x28 :: r) 28 y = x0 :: x1 :: x2 :: x3 :: x4 :: x5 :: x6 :: x7 :: x8 :: x9 :: x10 :: x11 :: x12 :: x13 :: x14 :: x15 :: x16 :: x17 :: x18 :: x19 :: x20 :: x21 :: x22 :: x23 :: x24 :: x25 :: x26 :: x27 :: y :: r := rfl
theorem set_n29 {α : Type} {y x0 x1 x2 x3 x4 x5 x6 x7 x8 x9 x10 x11 x12 x13 x14 x15 x16 x17 x18 x19 x20 x21 x22 x23 x24 x25 x26 x27 x28 x29 : α} {r : List α} : List.set (x0 :: x1 :: x2 :: x3 :: x4 :: x5 :: x6 :: x7 :: x8 :: x9 :: x10 :: x11 :: x12 :: x13 :: x14 :: x15 :: x16 :: x17 :: x18 :: x19 :: x20 :: x21 :: x22 :: x23 :: x24 :: x25 :: x26 :: x27 :: x28 :: x29 :: r) 29 y = x0 :: x1 :: x2 :: x3 :: x4 :: x5 :: x6 :: x7 :: x8 :: x9 :: x10 :: x11 :: x12 :: x13 :: x14 :: x15 :: x16 :: x17 :: x18 :: x19 :: x20 :: x21 :: x22 :: x23 :: x24 :: x25 :: x26 :: x27 :: x28 :: y :: r := rfl
end Hf
/-! ## sums of whole numbers -/
namespace Hf
/-- the sum of f 0 .. f (n-1) -/
def sumN : Nat → (Nat → Int) → Int
  | 0, _ => 0
  | n + 1, f => sumN n f + f n
theorem sumN_congr {n : Nat} {f g : Nat → Int} (h : ∀ i, i < n → f i = g i) : sumN n f = sumN n g := by
  induction n with
  | zero => rfl
  | succ n ih => rw [sumN, sumN, ih fun i hi => h i (by omega), h n (by omega)]
theorem sumN_zero (n : Nat) : sumN n (fun _ => 0) = 0 := by
  induction n with
  | zero => rfl
  | succ n ih => rw [sumN, ih]; rfl
theorem sumN_zero' {n : Nat} {f : Nat → Int} (h : ∀ i, i < n → f i = 0) : sumN n f = 0 := by
  rw [sumN_congr h, sumN_zero]
theorem sumN_lin (n : Nat) (x y : Int) (f g : Nat → Int) : sumN n (fun i => x * f i + y * g i) = x * sumN n f + y * sumN n g := by
  induction n with
  | zero => simp [sumN]
  | succ n ih => rw [sumN, sumN, sumN, ih]; grind
theorem sumN_mul (n : Nat) (x : Int) (f : Nat → Int) : sumN n (fun i => x * f i) = x * sumN n f := by
  induction n with
  | zero => simp [sumN]
  | succ n ih => rw [sumN, sumN, ih]; grind
theorem sumN_add (n : Nat) (f g : Nat → Int) : sumN n (fun i => f i + g i) = sumN n f + sumN n g := by
  induction n with
  | zero => simp [sumN]
  | succ n ih => rw [sumN, sumN, sumN, ih]; grind
theorem sumN_sub (n : Nat) (f g : Nat → Int) : sumN n (fun i => f i - g i) = sumN n f - sumN n g := by
  induction n with
  | zero => simp [sumN]
  | succ n ih => rw [sumN, sumN, sumN, ih]; grind
theorem sumN_one {n k : Nat} {f : Nat → Int} (hk : k < n) (h : ∀ i, i < n → i ≠ k → f i = 0) : sumN n f = f k := by
  induction n with
  | zero => omega
  | succ n ih =>
    rw [sumN]
    by_cases c : k = n
    · subst c
      rw [sumN_zero' fun i hi => h i (by omega) (by omega)]
      omega
    · rw [ih (by omega) fun i hi hc => h i (by omega) hc, h n (by omega) (by omega)]
      omega
theorem sumN_two {n k l : Nat} {f : Nat → Int} (hk : k < n) (hl : l < n) (hkl : k ≠ l) (h : ∀ i, i < n → i ≠ k → i ≠ l → f i = 0) : sumN n f = f k + f l := by
  induction n with
  | zero => omega
  | succ n ih =>
    rw [sumN]
    by_cases c : k = n
    · subst c
      rw [sumN_one (k := l) (by omega) fun i hi hc => h i (by omega) (by omega) hc]
      omega
    · by_cases c2 : l = n
      · subst c2
        rw [sumN_one (k := k) (by omega) fun i hi hc => h i (by omega) hc (by omega)]
      · rw [ih (by omega) (by omega) fun i hi hc hd => h i (by omega) hc hd, h n (by omega) (by omega) (by omega)]
        omega
theorem sumN_swap (n m : Nat) (f : Nat → Nat → Int) : sumN n (fun i => sumN m (fun j => f i j)) = sumN m (fun j => sumN n (fun i => f i j)) := by
  induction n with
  | zero => simp [sumN, sumN_zero]
  | succ n ih =>
    rw [sumN, ih, ← sumN_add]
    exact sumN_congr fun j _ => rfl
theorem sumN_nn {n : Nat} {f : Nat → Int} (h : ∀ i, i < n → 0 ≤ f i) : 0 ≤ sumN n f := by
  induction n with
  | zero => exact Int.le_refl _
  | succ n ih =>
    rw [sumN]
    have := ih fun i hi => h i (by omega)
    have := h n (by omega)
    omega
theorem sumN_neg_ex {n : Nat} {f : Nat → Int} (h : sumN n f < 0) : ∃ i, i < n ∧ f i < 0 := by
  by_cases c : ∃ i, i < n ∧ f i < 0
  · exact c
  · have := sumN_nn (n := n) (f := f) fun i hi => by
      by_cases d : f i < 0
      · exact absurd ⟨i, hi, d⟩ c
      · omega
    omega
theorem sumN_le {n : Nat} {f g : Nat → Int} (h : ∀ i, i < n → f i ≤ g i) : sumN n f ≤ sumN n g := by
  induction n with
  | zero => exact Int.le_refl _
  | succ n ih =>
    rw [sumN, sumN]
    have := ih fun i hi => h i (by omega)
    have := h n (by omega)
    omega
theorem sumN_const (n : Nat) (x : Int) : sumN n (fun _ => x) = n * x := by
  induction n with
  | zero => simp [sumN]
  | succ n ih => rw [sumN, ih]; grind
theorem sumN_range (n : Nat) (f : Nat → Int) : ((List.range n).map f).sum = sumN n f := by
  induction n with
  | zero => rfl
  | succ n ih => rw [List.range_succ, List.map_append, List.sum_append, ih]; simp [sumN]
theorem sumN_head (n : Nat) (f : Nat → Int) : sumN (n + 1) f = f 0 + sumN n (fun k => f (k + 1)) := by
  induction n with
  | zero => simp [sumN]
  | succ n ih => rw [sumN, ih, sumN]; omega
theorem sumN_rot1 (n : Nat) (f : Nat → Int) : sumN n (fun k => f ((k + 1) % n)) = sumN n f := by
  cases n with
  | zero => rfl
  | succ n =>
    rw [sumN_head n f, sumN, Nat.mod_self, sumN_congr (g := fun k => f (k + 1)) fun i hi => by rw [Nat.mod_eq_of_lt (by omega)]]
    omega
theorem sumN_rot (n t : Nat) (f : Nat → Int) : sumN n (fun k => f ((k + t) % n)) = sumN n f := by
  induction t generalizing f with
  | zero => exact sumN_congr fun i hi => by rw [Nat.add_zero, Nat.mod_eq_of_lt hi]
  | succ t ih =>
    have e : (fun k => f ((k + (t + 1)) % n)) = fun k => (fun x => f ((x + 1) % n)) ((k + t) % n) := by
      funext k
      show _ = f (((k + t) % n + 1) % n)
      rw [Nat.mod_add_mod, Nat.add_assoc]
    rw [e, ih fun x => f ((x + 1) % n), sumN_rot1]
/-- all turnings of the one against all of the other -/
theorem sumN_turns (n : Nat) (g : Nat → Nat → Int) : sumN n (fun k => sumN n fun j => sumN n fun t => g ((k + t) % n) ((j + t) % n)) = n * sumN n (fun a => sumN n fun b => g a b) := by
  have e1 : (fun k => sumN n fun j => sumN n fun t => g ((k + t) % n) ((j + t) % n)) = fun k => sumN n fun t => sumN n fun b => g ((k + t) % n) b := by
    funext k
    rw [sumN_swap]
    exact sumN_congr fun t _ => sumN_rot n t fun b => g ((k + t) % n) b
  rw [e1, sumN_swap, sumN_congr (g := fun _ => sumN n (fun a => sumN n fun b => g a b)) (fun t _ => sumN_rot n t fun a => sumN n fun b => g a b), sumN_const]
theorem sumN_list {α : Type} (f : α → Int) (x : α) : ∀ ms : List α, (ms.map f).sum = sumN ms.length fun i => f ((ms[i]?).getD x)
  | [] => rfl
  | y :: ms => by
    rw [List.map_cons, List.sum_cons, List.length_cons, sumN_head, sumN_list f x ms]
    rfl
end Hf
/-! ## exceptions: caught, noted and asked behind the suite -/
namespace Hf
open PySem PySem.Spec PyProof.Rows L2
/-- at a: a caught exception of the class cls, its dict d -/
def exHO (a : Addr) (cls : Value) (d : Option Addr) : HO := .ext fun h => ∃ oe vs, h.get? a = some oe ∧ Zc cls d oe ∧ oe.data = .fields vs
theorem exHO_ok {P : Program} {w : World} {H : Hp} {h : Heap} {a : Addr} {cls : Value} {d : Option Addr} {oe : Obj} {vs : Array Value} (e : h.get? a = some oe) (hz : Zc cls d oe) (hd : oe.data = .fields vs) : ObjOk P w H h a (exHO a cls d) :=
  ⟨⟨oe, vs, e, hz, hd⟩, ⟨oe, e⟩, fun _ _ ⟨o, v, x, y, z⟩ k => ⟨o, v, k _ x, y, z⟩⟩
theorem exHO_at {P : Program} {w : World} {H : Hp} {h : Heap} {a : Addr} {cls : Value} {d : Option Addr} (ok : HOk P w H h) (e : H a = some (exHO a cls d)) : ∃ oe vs, h.get? a = some oe ∧ Zc cls d oe ∧ oe.data = .fields vs := by
  have x : ObjOk P w H h a (.ext fun h => ∃ oe vs, h.get? a = some oe ∧ Zc cls d oe ∧ oe.data = .fields vs) := ok a _ e
  exact x.1
/-- a pinned object of ours is taken up -/
theorem track {X : Cx} {pins : List (Addr × Obj)} {σ : L2.St} {H : Hp} {s : Shared} {a : Addr} {oe : Obj} {cls : Value} {d : Option Addr} {vs : Array Value} (I : Inv X ((a, oe) :: pins) σ H s) (hz : Zc cls d oe) (hd : oe.data = .fields vs)
    (n0 : X.s_0.heap.get? a = none) (np : ∀ p ∈ X.pn ++ pins, p.1 ≠ a) : Inv X pins σ (L2.upd H a (exHO a cls d)) s := by
  obtain ⟨ga, na, nL, nF, nc⟩ := I.pin (a, oe) (List.mem_append_right _ List.mem_cons_self)
  dsimp only at ga na nL nF nc
  have ncell : ∀ x c, X.env.cells.lookup x = some c → c ≠ a := fun x c e z => by
    obtain ⟨v, o, ho, hdc⟩ := I.cell x c e
    rw [z, ga] at ho
    cases ho
    exact nc _ hdc
  refine ⟨I.ok, I.os, I.bare, ⟨I.base.keep, I.base.slot, fun b o e n hx => ?_, I.base.there, fun b xs e => ?_, fun b o u e => ?_, fun b ps e => ?_⟩, I.loc, I.cell, ?_, fun x c e => ?_, fun p hp => ?_, fun b o e => ?_, I.len⟩
  · rw [upd_ne (fun z => by rw [z, n0] at e; cases e)]
    exact I.base.free b o e n hx
  · have q := I.base.tups b xs e
    rw [upd_ne (ne_of_none q na)]
    exact q
  · have q := I.base.frzs b o u e
    rw [upd_ne (ne_of_none q na)]
    exact q
  · obtain ⟨m, q⟩ := I.base.tbls b ps e
    exact ⟨m, by rw [upd_ne (ne_of_none q na)]; exact q⟩
  · rw [upd_ne (Ne.symm nL)]
    exact I.free
  · rw [upd_ne (ncell x c e)]
    exact I.freeC x c e
  · obtain ⟨e, n, r⟩ := I.pin p (by
      rcases List.mem_append.mp hp with h | h
      · exact List.mem_append_left _ h
      · exact List.mem_append_right _ (List.mem_cons_of_mem _ h))
    exact ⟨e, by rw [upd_ne (np p hp)]; exact n, r⟩
  · by_cases hb : b = a
    · subst hb
      rw [upd_same] at e
      cases e
      exact exHO_ok ga hz hd
    · rw [upd_ne hb] at e
      refine (I.hok b o e).stay (fun c u _ q => q) (fun c q => ?_) fun c xs q => ?_
      · rw [upd_ne (ne_of_none q na)]
        exact q
      · rw [upd_ne (ne_of_none q na)]
        exact q
/-- what follows the suite -/
def nxAs (i : Nat) (a : Addr) (cls : Value) (d : Option Addr) (nx : L2.St → Hp → Prop) : L2.St → Hp → Prop := fun σ' H' => nx (σ'.set i none) (L2.upd H' a (exHO a cls d))
def rtAs (a : Addr) (cls : Value) (d : Option Addr) (rt : VK) : VK := fun v H' => rt v (L2.upd H' a (exHO a cls d))
/-- what the clause 'except x as n' wishes of an exception of the body -/
def wAsT (K : PySem.W.Frag) (c : Value) (i : Nat) (ts : TS) (Wout : WX) (D : Ends) : WX := fun cls d σ H =>
  ∃ b, PySem.W.exmOne K cls c = some b ∧ (b = true → ∀ a, H a = none → ts { nx := nxAs i a cls d D.nx, rt := rtAs a cls d D.rt, bk := nxAs i a cls d D.bk, ct := nxAs i a cls d D.ct } (σ.set i (some (.ref a))) H) ∧
    (b = false → Wout cls d σ H)
def tTryAs (K : PySem.W.Frag) (c : Value) (i : Nat) (ts : TS) (Wout : WX) (tb : WX → TS) : TS := fun D σ H => tb (wAsT K c i ts Wout D) D σ H
section
variable {X : Cx} {x n : Str} {c : Value} {i : Nat} {body suite : List Stmt} {b₀ : Stmt} {np pos pos' : Pos} {tb : WX → TS} {ts : TS} {Wout : WX}
theorem ps_try_asT (hs : X.stack = X.env :: X.outer) (hf : X.env.frame = some X.env.locals) (hex : X.ex = []) (hN : X.N.Nodup) (hi : X.N[i]? = some n) (hln : X.env.kindOf n = some .local) (hc : Names X x c) (tk : Takes X Wout)
    (hb : ∀ (W : WX) (pn : List (Addr × Obj)) (xe : Value → Shared → Prop), Takes (X.tr pn xe) W → PassesOwn (model X.prog X.w) X.A X.env xe → PSs (X.tr pn xe) body (tb W))
    (hsu : ∀ (a : Addr) (oe : Obj) (pn : List (Addr × Obj)), PSs (X.suite a ((a, oe) :: pn)) (b₀ :: suite) ts) :
    PS X (.Try body [.ExceptHandler (some (.Name x np)) (some n) (b₀ :: suite) pos'] [] [] pos) (tTryAs X.K c i ts Wout tb) := by
  refine ⟨fun pins s σ H D I h => ?_⟩
  have ok := I.ok
  have hfr : X.A.frames = some (X.env :: X.outer) := by rw [ok.frames, hs]
  have hloc : Loc X.env.scope n := .inl hln
  refine wpAny_Try_except ?_
  refine wpAny_mono ((hb (wAsT X.K c i ts Wout D) (X.pn ++ pins) (fun e s₁ => wpAny (model X.prog X.w) X.A (noteFrame e X.env) (fun _ s₂ => wpAny (model X.prog X.w) X.A (setFlight e none) (fun _ s₃ =>
    wpAny (model X.prog X.w) X.A (handleBy e X.env [.ExceptHandler (some (.Name x np)) (some n) (b₀ :: suite) pos']) (SP X pins D) X.xe s₃) X.xe s₂) X.xe s₁) (fun u s' xx => ?_) PassesOwn.looking).run [] s σ H D (I.toTry _) h) (fun f s1 hsp => ?_) (fun e s1 he => he)
  · obtain ⟨a, B, sI, pins', σ', H', cls, d, rfl, J', nb, up, sky, na, os, ag, b, hb1, hyes, hno⟩ := xx
    have J : Inv X pins σ' H' sI := J'.ofTry ok
    have sky' : Sky B (X.env :: X.outer) a (Zc cls d) X.env.locals s'.heap := by rw [← hs]; exact sky
    show wpAny (model X.prog X.w) X.A (noteFrame (.ref a) X.env) _ _ _
    refine Sky.land Zc.steady hfr hf sky' fun h3 fl3 up3 => ?_
    have J3 : Inv X pins σ' H' { s' with heap := h3 } := J.landed nb fl3.1 (up.trans up3) os ag
    obtain ⟨oe3, vs3, he3, hz3, hd3⟩ := fl3.there
    have notFr : ∀ {h : Heap} {o : Obj} {vs : Array Value}, h.FunFrames B (X.env :: X.outer) → h.get? a = some o → o.data = .fields vs → a ∉ frs (X.env :: X.outer) := fun {h o vs} ff e dd hm => by
      obtain ⟨_, o', e', hnf⟩ := ff.mem hm
      rw [e] at e'; cases e'
      exact hnf _ dd
    have nfr := notFr fl3.2.2.1 he3 hd3
    have nL : a ≠ X.env.locals := fun z => nfr (List.mem_filterMap.mpr ⟨X.env, List.mem_cons_self, by rw [hf, z]⟩)
    have nF : a ∉ X.fs := fun hm => by
      obtain ⟨e, he, q⟩ := List.mem_filterMap.mp hm
      exact nfr (List.mem_filterMap.mpr ⟨e, List.mem_cons_of_mem _ he, q⟩)
    have nI : sI.heap.get? a = none := by
      cases q : sI.heap.get? a with
      | none => rfl
      | some o =>
        have z := nb a o q (by rw [hs]; exact nfr)
        rw [fl3.2.1] at z
        cases z
    have n0 : X.s_0.heap.get? a = none := by
      cases q : X.s_0.heap.get? a with
      | none => rfl
      | some o =>
        obtain ⟨o', z⟩ := J.base.there a o q (by rw [hex]; exact List.not_mem_nil)
        rw [nI] at z
        cases z
    have npin : ∀ p ∈ X.pn ++ pins, p.1 ≠ a := fun p hp z => by
      have q := (J.pin p hp).1
      rw [z, nI] at q
      cases q
    have S3 := J3.suite he3 hd3 na nL nF
    refine wpAny_handleBy_cons (codeAny_handlers_test ?_) (by intro q; cases q)
    have LT : PySem.W.Looks (model X.prog X.w) h3 (typeOf (.ref a)) cls := fun A Q E s k q => wpAny_typeOf_ref (k _ _ he3) (by rw [hz3.1]; exact q)
    have LM := PySem.W.exm_one (M := model X.prog X.w) (J3.kIn) LT hb1
    have test : ∀ {Q : Value → Shared → Prop} {E : Value → Shared → Prop}, Q c { s' with heap := h3 } → wpAny (model X.prog X.w) (X.A.mark (some (.ref a))) (eval (.Name x np) X.env) Q E { s' with heap := h3 } := fun {Q E} q => by
      obtain ⟨hg, hdbg, hm | ⟨hm, hv, hnn⟩⟩ := hc
      · exact ld_glob (X := X.suite a ((a, oe3) :: (X.pn ++ pins))) S3 hg hm q hdbg
      · exact ld_blt (X := X.suite a ((a, oe3) :: (X.pn ++ pins))) S3 hg hm hv q hnn hdbg
    refine test (LM.here ?_)
    cases b with
    | true =>
      refine codeAny_handlers_suite_as ?_
      refine HandSPX.lands_againZ fl3 fun h4 fl4 up4 => ?_
      have J4 : Inv X pins σ' H' { s' with heap := h4 } := J.landed nb fl4.1 ((up.trans up3).trans up4) os ag
      obtain ⟨oe4, vs4, he4, hz4, hd4⟩ := fl4.there
      have S4 := J4.suite he4 hd4 na nL nF
      refine store_ok (X := X.suite a ((a, oe4) :: (X.pn ++ pins))) (v := .ref a) S4 hN hi hloc rfl (fun s5 S5 => ?_) (.inr hln)
      refine wpAny_mono ((hsu a oe4 (X.pn ++ pins)).run [] s5 _ H' _ S5 (hyes rfl a na)) (fun f s6 hsp => ?_) (fun _ _ z => False.elim z)
      have end_ : ∀ {σ6 : L2.St} {H6 : Hp} {Q : Shared → Prop}, Inv (X.suite a ((a, oe4) :: (X.pn ++ pins))) [] σ6 H6 s6 → (∀ s7, Inv X pins (σ6.set i none) (L2.upd H6 a (exHO a cls d)) s7 → Q s7) →
          wpAny (model X.prog X.w) X.A (do bindName X.env n .none; unbindBehindTheSuite X.env n pos') (fun _ s7 => Q s7) X.xe s6 := fun {σ6 H6 Q} S6 hq => by
        have S7 : Inv X ((a, oe4) :: pins) σ6 H6 s6 := ⟨ok, S6.os, S6.bare, S6.base, S6.loc, S6.cell, S6.free, S6.freeC, fun p hp => S6.pin p (by
          show p ∈ (a, oe4) :: (X.pn ++ pins) ++ []
          rw [List.append_nil]
          rcases List.mem_append.mp hp with h | h
          · exact List.mem_cons_of_mem _ (List.mem_append_left _ h)
          · rcases List.mem_cons.mp h with h | h
            · rw [h]
              exact List.mem_cons_self
            · exact List.mem_cons_of_mem _ (List.mem_append_right _ h)), S6.hok, S6.len⟩
        exact gone_ok S7 hN hi hln fun s7 J7 => hq s7 (track J7 hz4 hd4 n0 npin)
      cases f with
      | next =>
        obtain ⟨σ6, H6, S6, q6⟩ := hsp
        exact end_ S6 fun s7 J7 => ⟨_, _, J7, q6⟩
      | brk =>
        obtain ⟨σ6, H6, S6, q6⟩ := hsp
        exact end_ S6 fun s7 J7 => ⟨_, _, J7, q6⟩
      | cont =>
        obtain ⟨σ6, H6, S6, q6⟩ := hsp
        exact end_ S6 fun s7 J7 => ⟨_, _, J7, q6⟩
      | ret u =>
        obtain ⟨v6, σ6, H6, S6, r6, q6⟩ := hsp
        exact end_ S6 fun s7 J7 => ⟨_, _, _, J7, r6, q6⟩
    | false =>
      show wpAny _ X.A (handleBy (.ref a) X.env []) _ _ _
      refine wpAny_handleBy_nil ?_
      obtain ⟨k1, k2, k3, oe, vs, T, oT, ts', he, hz, hd, h1, hr⟩ := id fl3
      unfold PySem.passOn
      refine wpAny_bind (wpAny_field he hd h1 ?_)
      rw [if_neg (show ¬ ((Value.ref T == Value.none) = true) from by simp)]
      have fin : wpAny (model X.prog X.w) X.A (setFlight (.ref a) X.env.frame) (fun _ s4 => wpAny (model X.prog X.w) X.A (throw (.ref a) : Sem Flow) (SP X pins D) X.xe s4) X.xe { s' with heap := h3 } := by
        rw [hf]
        refine HandSPX.setFlight_upZ fl3 fun h4 hh4 up4 => wpAny_throw (tk _ _ ?_)
        exact ⟨a, B, sI, pins, σ', H', cls, d, rfl, J, nb, (up.trans up3).trans up4, .inr (.inr (by rw [hs]; exact hh4)), na, os, ag, hno rfl⟩
      first
        | exact wpAny_bind (wpAny_pure (wpAny_bind fin))
        | exact wpAny_bind fin
  · cases f with
    | next =>
      obtain ⟨σ', H', J', q⟩ := hsp
      exact wpAny_execs_nil ⟨σ', H', J'.ofTry ok, q⟩
    | brk =>
      obtain ⟨σ', H', J', q⟩ := hsp
      exact ⟨σ', H', J'.ofTry ok, q⟩
    | cont =>
      obtain ⟨σ', H', J', q⟩ := hsp
      exact ⟨σ', H', J'.ofTry ok, q⟩
    | ret u =>
      obtain ⟨v, σ', H', J', r, q⟩ := hsp
      exact ⟨v, σ', H', J'.ofTry ok, r, q⟩
end
/-! ### isinstance -/
/-- isinstance(x, c): x a tracked exception, or any other thing -/
def rIsX (K : PySem.W.Frag) : List V → Hp → VK → Prop := fun xs H Q =>
  (∃ (a D : Addr) (d : Option Addr) (c : V) (cv : Value) (b : Bool), xs = [.ref a, c] ∧ H a = some (exHO a (.ref D) d) ∧ (∀ dd, d = some dd → ∃ fs, H dd = some (.xd fs)) ∧ ExcC K D ∧ (∀ u, RelV c u → u = cv) ∧ PySem.W.kitOne K (.ref D) cv = some b ∧ Q (.bl b) H) ∨ rIsi K xs H Q
theorem call_isX {X : Cx} : CallR X (.builtin "isinstance") (rIsX X.K) := by
  intro pins s σ H xs us Q I r h
  rcases h with ⟨a, D, d, c, cv, b, rfl, ha, hdd, C, hcv, e, q⟩ | h
  · cases r with
    | cons rx rr =>
      cases rr with
      | cons rt rr =>
        cases rr
        cases rx
        have ec := hcv _ rt
        subst ec
        obtain ⟨oe, vs, hget, hz, hv⟩ := exHO_at I.hok ha
        obtain ⟨od, J⟩ : ∃ od, PySem.W.InstAt s.heap a oe D od := by
          cases d with
          | none =>
            obtain ⟨oc, od, oda, osl⟩ := oe
            obtain ⟨h1, h2⟩ := hz
            dsimp only at h1 h2 hv
            subst h1 h2 hv
            exact ⟨none, hget, rfl, rfl, trivial⟩
          | some dd =>
            obtain ⟨fs, hfs⟩ := hdd dd rfl
            have x : ObjOk X.prog X.w H s.heap dd (.xd fs) := I.hok dd _ hfs
            obtain ⟨mA, ⟨o, es, ep, ho, _⟩, _⟩ := x
            obtain ⟨oc, od, oda, osl⟩ := oe
            obtain ⟨h1, h2⟩ := hz
            dsimp only at h1 h2 hv
            subst h1 h2 hv
            exact ⟨some o, hget, rfl, rfl, ho⟩
        have hcl : (PySem.W.clsIn X.K D).isSome = true := by
          obtain ⟨cd, hc, _⟩ := PySem.W.any_some C.hd
          rw [hc]
          rfl
        exact PySem.W.kia_one (PySem.W.kitx_exc hcl C.hg C.hk C.hs C.ha C.hn C.ht C.hm) I.kIn J e (fun z => nomatch z) fun tk => ⟨.bl b, H, I.kept (t' := tk) fun _ _ z => z, rfl, q⟩
  · exact call_isi pins s σ H xs us Q I r h
theorem call_isXK {X : Cx} (K : PySem.W.Frag) (e : X.K = K) : CallR X (.builtin "isinstance") (rIsX K) := by subst e; exact call_isX
section
variable {σ σ' : L2.St} {H : Hp} {Q : VK} {nx bk ct : L2.St → Hp → Prop} {rt : VK} {K : PySem.W.Frag} {a D C : Addr} {d : Option Addr} {cls c : Value} {b : Bool} {i : Nat}
theorem i_isXR (h : H a = some (exHO a (.ref D) none)) (e : ExcC K D) (k : PySem.W.kitOne K (.ref D) (.ref C) = some b) (q : Q (.bl b) H) : rIsX K [.ref a, .ref C] H Q :=
  .inl ⟨a, D, none, .ref C, .ref C, b, rfl, h, fun _ z => (nomatch z), e, fun _ z => z, k, q⟩
theorem i_isXT {T : String} (h : H a = some (exHO a (.ref D) none)) (e : ExcC K D) (k : PySem.W.kitOne K (.ref D) (.type T) = some b) (q : Q (.bl b) H) : rIsX K [.ref a, .ty T] H Q :=
  .inl ⟨a, D, none, .ty T, .type T, b, rfl, h, fun _ z => (nomatch z), e, fun _ z => z, k, q⟩
theorem i_isXRd {dd : Addr} {fs : List (Str × V)} (h : H a = some (exHO a (.ref D) (some dd))) (hd : H dd = some (.xd fs)) (e : ExcC K D) (k : PySem.W.kitOne K (.ref D) (.ref C) = some b) (q : Q (.bl b) H) : rIsX K [.ref a, .ref C] H Q :=
  .inl ⟨a, D, some dd, .ref C, .ref C, b, rfl, h, fun x z => by cases z; exact ⟨fs, hd⟩, e, fun _ z => z, k, q⟩
theorem i_isXTd {T : String} {dd : Addr} {fs : List (Str × V)} (h : H a = some (exHO a (.ref D) (some dd))) (hd : H dd = some (.xd fs)) (e : ExcC K D) (k : PySem.W.kitOne K (.ref D) (.type T) = some b) (q : Q (.bl b) H) : rIsX K [.ref a, .ty T] H Q :=
  .inl ⟨a, D, some dd, .ty T, .type T, b, rfl, h, fun x z => by cases z; exact ⟨fs, hd⟩, e, fun _ z => z, k, q⟩
theorem i_isXi {t : String} {x : V} {c : String} (ty : TyX K H x (.type t)) (h : kitB t c = some b) (q : Q (.bl b) H) : rIsX K [x, .ty c] H Q := .inr ⟨x, .ty c, .type t, .type c, b, rfl, .ty c, ty, kit_ty h, q⟩
theorem i_isXo {t : String} {x : V} (ty : TyX K H x (.type t)) (h : PySem.W.kitOne K (.type t) (.ref C) = some b) (q : Q (.bl b) H) : rIsX K [x, .ref C] H Q := .inr ⟨x, .ref C, .type t, .ref C, b, rfl, .own C, ty, h, q⟩
/-! ### the steps -/
theorem i_callS {sp : Sp} {E : L2.St → XK} {t : TA} (h : t σ H fun vs H1 => sp vs H1 Q (E σ)) : tCallS sp E t σ H Q := h
theorem i_try {ts : TS} {Wout : WX} {tb : WX → TS} (h : tb (wAsT K c i ts Wout ⟨nx, rt, bk, ct⟩) ⟨nx, rt, bk, ct⟩ σ H) : tTryAs K c i ts Wout tb ⟨nx, rt, bk, ct⟩ σ H := h
theorem i_caught {τ : Addr → L2.St} {ts : TS} {Wout : WX} (e : PySem.W.exmOne K cls c = some true) (s : ∀ a, List.set σ i (some (V.ref a)) = τ a) (h : ∀ a, H a = none → ts ⟨nxAs i a cls d nx, rtAs a cls d rt, nxAs i a cls d bk, nxAs i a cls d ct⟩ (τ a) H) : wAsT K c i ts Wout ⟨nx, rt, bk, ct⟩ cls d σ H :=
  ⟨true, e, fun _ a na => by
    show ts _ (List.set σ i (some (V.ref a))) H
    rw [s a]
    exact h a na, fun z => nomatch z⟩
theorem i_nxAs (s : List.set σ i none = σ') (q : nx σ' (L2.upd H a (exHO a cls d))) : nxAs i a cls d nx σ H := by
  subst s
  exact q
theorem i_rtAs {v : V} (q : rt v (L2.upd H a (exHO a cls d))) : rtAs a cls d rt v H := q
theorem i_isnR (q : Q (.bl false) H) : V.non = V.non ∧ Q (.bl (decide (V.ref a = V.non))) H := ⟨rfl, by
  rw [decide_eq_false (fun z => by cases z)]
  exact q⟩
theorem i_isnN (q : Q (.bl true) H) : V.non = V.non ∧ Q (.bl (decide (V.non = V.non))) H := ⟨rfl, by
  rw [decide_eq_true rfl]
  exact q⟩
end
/-! ### what is known of the classes -/
structure ClsT (K : PySem.W.Frag) (C : Addr) : Prop where
  ic : PySem.W.isClsIn K C = true
  ty : PySem.W.typeIn K (.ref C) = some (.type "type")
section
variable {K : PySem.W.Frag} {C D : Addr} {b : Bool}
theorem kit_clsT (c : ClsT K C) {t : Value} (h : PySem.W.subIn K t (.ref C) = some b) : PySem.W.kitCls K t (.ref C) = some b := by
  have h2 : (PySem.W.clsIn K C).isSome = true := c.ic
  show (if ((PySem.W.clsIn K C).isSome && PySem.W.typeIn K (.ref C) == some (.type "type")) = true then PySem.W.subIn K t (.ref C) else none) = some b
  rw [if_pos (by rw [h2, c.ty]; rfl)]
  exact h
theorem kit_t (c : ClsT K C) (h : PySem.W.subIn K (.ref D) (.ref C) = some true) : PySem.W.kitOne K (.ref D) (.ref C) = some true := by
  unfold PySem.W.kitOne
  split
  · rfl
  · exact kit_clsT c h
theorem kit_f (c : ClsT K C) (hs : PySem.W.subIn K (.ref D) (.ref D) = some true) (h : PySem.W.subIn K (.ref D) (.ref C) = some false) : PySem.W.kitOne K (.ref D) (.ref C) = some false := by
  unfold PySem.W.kitOne
  split
  · rename_i z
    have e : D = C := Value.ref.inj (beq_iff_eq.mp z)
    subst e
    rw [hs] at h
    cases h
  · exact kit_clsT c h
theorem kit_o (c : ClsT K C) {t : String} (h : PySem.W.subIn K (.type t) (.ref C) = some b) : PySem.W.kitOne K (.type t) (.ref C) = some b := by
  unfold PySem.W.kitOne
  rw [if_neg (by rw [beq_iff_eq]; exact fun z => nomatch z)]
  exact kit_clsT c h
theorem kit_v {T : String} (h : PySem.W.subIn K (.ref D) (.type T) = some b) (hm : PySem.W.kitMeta T = true) : PySem.W.kitOne K (.ref D) (.type T) = some b := by
  unfold PySem.W.kitOne
  rw [if_neg (by rw [beq_iff_eq]; exact fun z => nomatch z)]
  show (if PySem.W.kitMeta T = true then PySem.W.subIn K (.ref D) (.type T) else none) = some b
  rw [if_pos hm]
  exact h
theorem exm_t (c : ClsT K C) (hb : PySem.W.subIn K (.ref C) (.type "BaseException") = some true) (h : PySem.W.subIn K (.ref D) (.ref C) = some b) : PySem.W.exmOne K (.ref D) (.ref C) = some b := by
  show (if (PySem.W.subIn K (.ref C) (.type "BaseException") == some true) = true then PySem.W.kitCls K (.ref D) (.ref C) else none) = some b
  rw [if_pos (by rw [hb]; rfl)]
  exact kit_clsT c h
end
/-! ### counts of flat things -/
def rCntV (K : PySem.W.Frag) : V → List V → Hp → VK → Prop := fun x xs H Q => ∃ (p : Addr) (ys : List V) (y : V), x = .ref p ∧ xs = [y] ∧ SqL K H p ys ∧ flatV y = true ∧ ys.all flatV = true ∧ Q (.int (ys.countP fun z => eqV z y : Nat)) H
theorem cnt_flat {u : Value} {y : V} (ry : RelV y u) (fy : flatV y = true) : ∀ {ys : List V} {us : List Value}, Vals ys us → ys.all flatV = true → us.countP (eqU y) = ys.countP fun z => eqV z y
  | [], [], .nil, _ => rfl
  | z :: r, _ :: _, .cons rz t, f => by
    have f1 : flatV z = true := (List.all_eq_true.mp f) z List.mem_cons_self
    have f2 : r.all flatV = true := List.all_eq_true.mpr fun q hq => (List.all_eq_true.mp f) q (List.mem_cons_of_mem _ hq)
    rw [List.countP_cons, List.countP_cons, cnt_flat ry fy t f2, eqU_of rz f1]
theorem mt_lcountV {X : Cx} : MtR X "list.count" (rCntV X.K) := by
  intro pins s σ H x xs v us Q I rx rxs h
  obtain ⟨p, ys, y, rfl, rfl, hs, fy, fys, q⟩ := h
  cases rx
  obtain ⟨u, rfl, ru⟩ := rxs.one
  obtain ⟨its, rv, ⟨⟨cls, dd, data, sl⟩, n, ho, hc, hdn, hd⟩, hlen⟩ := I.list hs
  simp only at hc hd
  subst hc hd
  refine call_meets PySem.F.slot_list_count ⟨_, ho, rfl⟩ PySem.F.entry_list_count (PySem.F.args_list_count_2 _ _)
    (SeqAt.list_countAt p its.toArray n dd sl u (eqU y)) ⟨ho, fun u' hu' => mem_eqAt ru fy rv fys u' (by simpa using hu'), ?_⟩
  have ec : its.toArray.toList.countP (eqU y) = ys.countP fun z => eqV z y := cnt_flat ru fy rv fys
  refine ⟨.int _, H, I.tok _, ⟨s.toks, ?_⟩, q⟩
  show Value.int ((its.toArray.toList.countP (eqU y) : Nat) : Int) s.toks = Value.int _ s.toks
  rw [ec]
theorem mt_lcountVK {X : Cx} (K : PySem.W.Frag) (e : X.K = K) : MtR X "list.count" (rCntV K) := by subst e; exact mt_lcountV
theorem mt_indexK {X : Cx} (K : PySem.W.Frag) (e : X.K = K) : MtR X "list.index" (rIndex K) := by subst e; exact mt_index
theorem i_cntV {K : PySem.W.Frag} {H : Hp} {Q : VK} {p : Addr} {ys : List V} {y : V} {n : Nat} (h : SqL K H p ys) (f : flatV y = true) (g : ys.all flatV = true) (e : (ys.countP fun z => eqV z y) = n) (q : Q (.int (n : Nat)) H) : rCntV K (.ref p) [y] H Q :=
  ⟨p, ys, y, rfl, rfl, h, f, g, by rw [e]; exact q⟩
/-- the first place at which y stands -/
def firstAt (y : V) : List V → Nat → Option Nat
  | [], _ => none
  | z :: r, k => if eqV z y = true then some k else firstAt y r (k + 1)
theorem firstAt_is {y : V} : ∀ {ys : List V} {k j : Nat}, firstAt y ys k = some j → k ≤ j ∧ (∃ z, ys[j - k]? = some z ∧ eqV z y = true) ∧ ∀ (m : Nat) (z' : V), m < j - k → ys[m]? = some z' → eqV z' y = false
  | [], _, _, h => nomatch h
  | z :: r, k, j, h => by
    unfold firstAt at h
    split at h
    · rename_i c
      cases h
      rw [Nat.sub_self]
      exact ⟨Nat.le_refl _, ⟨z, rfl, c⟩, fun m z' hm => absurd hm (Nat.not_lt_zero _)⟩
    · rename_i c
      obtain ⟨h1, ⟨w, h2, h3⟩, h4⟩ := firstAt_is h
      refine ⟨by omega, ⟨w, ?_, h3⟩, fun m z' hm hz => ?_⟩
      · rw [show j - k = (j - (k + 1)) + 1 by omega, List.getElem?_cons_succ]
        exact h2
      · cases m with
        | zero =>
          rw [List.getElem?_cons_zero] at hz
          cases hz
          exact Bool.eq_false_iff.mpr c
        | succ m =>
          rw [List.getElem?_cons_succ] at hz
          exact h4 m z' (by omega) hz
theorem i_index {K : PySem.W.Frag} {H : Hp} {Q : VK} {p : Addr} {ys : List V} {y : V} {j : Nat} (h : SqL K H p ys) (f : flatV y = true) (g : ys.all flatV = true) (e : firstAt y ys 0 = some j) (q : Q (.int (j : Nat)) H) : rIndex K (.ref p) [y] H Q := by
  obtain ⟨_, ⟨z, h2, h3⟩, h4⟩ := firstAt_is e
  exact ⟨p, ys, y, j, z, rfl, rfl, h, f, g, h2, h3, h4, q⟩
/-! ### comprehensions over zip, kept where the second says so -/
def pickB : List V → List Bool → List V
  | x :: xs, c :: bs => if c = true then x :: pickB xs bs else pickB xs bs
  | _, _ => []
theorem pickB_more : ∀ {xs : List V} {bs : List Bool} {i : Nat} {x : V} {c : Bool}, xs[i]? = some x → bs[i]? = some c → pickB (xs.take (i + 1)) (bs.take (i + 1)) = pickB (xs.take i) (bs.take i) ++ (if c = true then [x] else [])
  | [], _, _, _, _, h, _ => by simp at h
  | _ :: _, [], _, _, _, _, h => by simp at h
  | y :: xs, d :: bs, 0, x, c, h1, h2 => by
    simp at h1 h2
    subst h1 h2
    simp [pickB]
  | y :: xs, d :: bs, i + 1, x, c, h1, h2 => by
    rw [List.getElem?_cons_succ] at h1 h2
    have ih := pickB_more h1 h2
    simp only [List.take_succ_cons, pickB]
    cases d
    · simp only [Bool.false_eq_true, if_false]
      exact ih
    · simp only [if_true, List.cons_append]
      rw [ih]
theorem pickB_len : ∀ (xs : List V) (bs : List Bool), (pickB xs bs).length ≤ xs.length
  | [], _ => by simp [pickB]
  | _ :: _, [] => by simp [pickB]
  | y :: xs, d :: bs => by
    have := pickB_len xs bs
    unfold pickB
    split
    · simp
      omega
    · simp
      omega
section
variable {σ : L2.St} {H H1 : Hp} {Q : VK} {K : PySem.W.Frag} {D a b : Addr} {wi : TI} {g : TG} {tt : TT} {te : TE} {vs : List Nat} {xs ys : List V} {Qd : Hp → Prop}
theorem lcZ_pick (bs : List Bool) (hb : ys = bs.map V.bl) (nD : H1 D = none) (hn : xs.length ≤ 1000) (hl : xs.length = bs.length) (hx : SqL K H1 a xs) (hy : SqL K H1 b ys)
    (hs : ∀ (i : Nat) (x : V) (c : Bool) (T : Addr) H (Z : VK) (Y : Hp → Prop), xs[i]? = some x → bs[i]? = some c → Same H1 H → H T = none → (c = true → ∀ H4, Same H H4 → Z x H4) → (c = false → ∀ H4, Same H H4 → Y H4) → LcTurn g tt te vs σ (.ref T) (L2.upd H T (.tup [x, .bl c])) Z Y)
    (hd : ∀ H, Same H1 H → H D = some (.lst (pickB xs bs)) → Qd H) :
    ∃ W : Nat → Nat → Hp → Prop, (∃ m, W 0 m (L2.upd H1 D (.lst []))) ∧ ∀ i m H, W i m H →
      ((Itz K a b).stop i H ∧ Qd H) ∨ ((Itz K a b).go i H ∧ ∃ Nx : Hp → Prop, (∀ H', Nx H' → ∃ m', m' < m ∧ W (i + 1) m' H') ∧ ∀ x H', (Itz K a b).yld i H x H' → g x (wipe σ vs) H' fun σ2 H2 => wipe σ2 vs = wipe σ vs ∧ tt σ2 H2 fun b H3 =>
        if b = true then te σ2 H3 fun y H4 => ∃ acc, H4 D = some (.lst acc) ∧ acc.length < sizeLine ∧ Nx (L2.upd H4 D (.lst (acc ++ [y]))) else Nx H3) := by
  subst hb
  let P : Nat → Hp → Prop := fun i H => Same H1 H ∧ H D = some (.lst (pickB (xs.take i) (bs.take i)))
  refine ⟨fun i m H => m = xs.length - i ∧ i ≤ xs.length ∧ P i H, ⟨xs.length, by simp, Nat.zero_le _, Same.new nD, by rw [List.take_zero, List.take_zero]; exact L2.upd_same⟩, ?_⟩
  rintro i m H ⟨rfl, hi, hsame, hD⟩
  by_cases hlt : i < xs.length
  · have hx' : xs[i]? = some xs[i] := List.getElem?_eq_getElem hlt
    have hlt2 : i < bs.length := by omega
    have hy' : bs[i]? = some bs[i] := List.getElem?_eq_getElem hlt2
    have qx : SqL K H a xs := hsame.seq hx
    have qy : SqL K H b (bs.map V.bl) := hsame.seq hy
    have hy'' : (bs.map V.bl)[i]? = some (V.bl bs[i]) := by rw [List.getElem?_map, hy']; rfl
    have hz : (pickB (xs.take i) (bs.take i)).length < sizeLine := sz4' (by
      have := pickB_len (xs.take i) (bs.take i)
      rw [List.length_take] at this
      omega)
    refine .inr ⟨⟨xs, _, _, _, qx, qy, hx', hy''⟩, P (i + 1), fun H' p' => ⟨xs.length - (i + 1), by omega, rfl, hlt, p'⟩, fun v H' y => ?_⟩
    obtain ⟨T, x', y', rfl, hT, rfl, f1, f2⟩ := y
    have e1 := (f1 xs qx).symm.trans hx'
    have e2 := (f2 _ qy).symm.trans hy''
    cases e1
    cases e2
    refine hs i xs[i] bs[i] T H _ _ hx' hy' hsame hT (fun hc H4 h4 => ⟨_, h4 _ _ hD, hz, Same.mut (hsame.trans h4) nD, ?_⟩) (fun hc H4 h4 => ⟨hsame.trans h4, ?_⟩)
    · rw [L2.upd_same, pickB_more hx' hy', if_pos hc]
    · rw [h4 _ _ hD, pickB_more hx' hy', if_neg (by rw [hc]; exact Bool.false_ne_true), List.append_nil]
  · have e : i = xs.length := by omega
    subst e
    refine .inl ⟨⟨xs, _, hsame.seq hx, hsame.seq hy, Or.inl (Nat.le_refl _)⟩, hd H hsame ?_⟩
    rw [hD, List.take_length, hl, List.take_length]
theorem i_izip {ta : TA} {R : It → Hp → Prop} (h : ta σ H fun vs H1 => ∃ a b xs ys, vs = [.ref a, .ref b] ∧ SqL K H1 a xs ∧ SqL K H1 b ys ∧ R (Itz K a b) H1) : iZip K ta σ H R := h
theorem i_izip' {R : Addr → Addr → Prop} (h1 : SqL K H a xs) (h2 : SqL K H b ys) (q : R a b) : ∃ a' b' xs ys, [V.ref a, V.ref b] = [.ref a', .ref b'] ∧ SqL K H a' xs ∧ SqL K H b' ys ∧ R a' b' := ⟨a, b, xs, ys, rfl, h1, h2, q⟩
end
theorem pi_zipK {X : Cx} (K : PySem.W.Frag) (eK : X.K = K) {e e2 : Expr} {ta : TA} {p pos tpos : Pos} {elts : List Expr} {kk : Nat} (hg : Gl X "zip") (hm : X.mg "zip" = none) (ha : PA X [e, e2] ta)
    (hs : starEach [e, e2] X.env = (false, eval e X.env) :: starEach [e2] X.env := by rfl) (hpl : (backTo pos (starEach [e2] X.env)).any (·.1) = false := by rfl) :
    PI X (.Tuple elts kk tpos) (.Call (.Name "zip" p) [e, e2] [] pos) (iZip K ta) := by subst eK; exact pi_zip hg hm ha hs hpl
/-! ### lists of one text -/
theorem shaped_str1 {x : Str} (hx : PyData.strOk x = true) : SeqAt.shaped (.list [PyData.str x]) = true := by
  unfold SeqAt.shaped
  simp [PyData.canLay0, PyData.canLayAll0, PyData.depth, PyData.depthAll, hx]
theorem eqv_str1 (x : Str) : PyData.eqv (.list [PyData.str x]) (.list [PyData.str x]) = true := by simp [PyData.eqv, PyData.eqvAll]
theorem i_neS1 {K : PySem.W.Frag} {H : Hp} {Q : VK} {p r : Addr} {x : Str} (h1 : SqL K H p [.str x]) (h2 : SqL K H r [.str x]) (hx : PyData.strOk x = true) (q : Q (.bl false) H) : rNeD K (.ref p) (.ref r) H Q :=
  ⟨_, _, .lst h1 (.cons (.str x) .nil), .lst h2 (.cons (.str x) .nil), shaped_str1 hx, shaped_str1 hx, by rw [eqv_str1]; exact q⟩
theorem i_neT2 {K : PySem.W.Frag} {H : Hp} {Q : VK} {p r : Addr} {a b c d : Int} (h1 : SqT K H p [.int a, .int b]) (h2 : SqT K H r [.int c, .int d]) (q : Q (.bl (!(a == c && (b == d && true)))) H) : rNeD K (.ref p) (.ref r) H Q :=
  ⟨.tuple [.int a, .int b], .tuple [.int c, .int d], .tup h1 (.cons (.int a) (.cons (.int b) .nil)), .tup h2 (.cons (.int c) (.cons (.int d) .nil)), rfl, rfl, by
    have e : PyData.eqv (.tuple [.int a, .int b]) (.tuple [.int c, .int d]) = (a == c && (b == d && true)) := by simp [PyData.eqv, PyData.eqvAll]
    rw [e]
    exact q⟩
end Hf
/-! ## instances, their fields; dicts whose keys are tuples of ints -/
namespace Hf
open PySem PySem.Spec PyProof.Rows L2
section
variable {σ σ' : L2.St} {H : Hp} {Q : VK} {x y v : V} {i j k : Int} {nx bk ct : L2.St → Hp → Prop} {rt : VK} {K : PySem.W.Frag} {a C dx p d : Addr} {fs : List (Str × V)} {f m : Str} {sp : Sp} {E : XK} {kvs : List (List Key × V)} {r : Option V}
def FldR (K : PySem.W.Frag) (f : Str) (x : V) (H : Hp) (Q : VK) : Prop := ∃ a C dx fs v, x = V.ref a ∧ H a = some (.ins C dx fs) ∧ Cls K C ∧ NoAttr K C f ∧ fs.lookup f = some v ∧ Q v H
theorem i_fld {ta : TE} (h : ta σ H fun x H1 => FldR K f x H1 Q) : tFld K ta f σ H Q := h
theorem i_fldR (h : H a = some (.ins C dx fs)) (c : Cls K C) (n : NoAttr K C f) (l : fs.lookup f = some v) (q : Q v H) : FldR K f (.ref a) H Q := ⟨a, C, dx, fs, v, rfl, h, c, n, l, q⟩
def SetR (K : PySem.W.Frag) (f : Str) (y x : V) (H : Hp) (Z : Hp → Prop) : Prop := ∃ a C dx fs, x = V.ref a ∧ H a = some (.ins C dx fs) ∧ Cls K C ∧ NoAttr K C f ∧ fs.length < 1000 ∧ Z (upd H a (.ins C dx (putF f y fs)))
theorem i_sfld {ta tv : TE} (h : tv σ H fun y H1 => ta σ H1 fun x H2 => SetR K f y x H2 (nx σ)) : sFld K ta tv f ⟨nx, rt, bk, ct⟩ σ H := h
theorem i_setR {Z : Hp → Prop} (h : H a = some (.ins C dx fs)) (c : Cls K C) (n : NoAttr K C f) (l : fs.length < 1000) (q : Z (upd H a (.ins C dx (putF f y fs)))) : SetR K f y (.ref a) H Z := ⟨a, C, dx, fs, rfl, h, c, n, l, q⟩
def MethR (C : Addr) (m : Str) (x : V) (H : Hp) (R : Prop) : Prop := ∃ a dx fs, x = V.ref a ∧ H a = some (.ins C dx fs) ∧ fs.lookup m = none ∧ R
theorem i_meth {ta : TE} {t : TA} (h : ta σ H fun x H1 => MethR C m x H1 (t σ H1 fun vs H2 => sp (x :: vs) H2 Q E)) : tMeth C m sp [] E ta t σ H Q := by
  have e : ∀ x : V, (fun vs H2 => sp (x :: (vs ++ [])) H2 Q E) = fun vs H2 => sp (x :: vs) H2 Q E := fun x => by
    funext vs H2
    rw [List.append_nil]
  show ta σ H (fun x H1 => ∃ a dx fs, x = .ref a ∧ H1 a = some (.ins C dx fs) ∧ fs.lookup m = none ∧ t σ H1 fun vs H2 => sp (x :: (vs ++ [])) H2 Q E)
  simp only [e]
  exact h
theorem i_methR {R : Prop} (h : H a = some (.ins C dx fs)) (l : fs.lookup m = none) (q : R) : MethR C m (.ref a) H R := ⟨a, dx, fs, rfl, h, l, q⟩
theorem i_make0 (h : ∀ x dx, H x = none → H dx = none → dx ≠ x → sp [.ref x] (upd (upd H dx (.own x)) x (.ins C dx [])) (fun v H2 => v = .non ∧ Q (.ref x) H2) E) : tMake C sp [] E tNil σ H Q := h
/-! ### dicts by tuples -/
def DgR (y x : V) (H : Hp) (R : Option V → Prop) : Prop := ∃ a o, x = V.ref a ∧ DGet H a y o ∧ R o
theorem i_dnotin {td ty : TE} (h : ty σ H fun y H1 => td σ H1 fun x H2 => DgR y x H2 fun o => Q (.bl (!o.isSome)) H2) : tDNotIn ty td σ H Q := h
theorem i_din {td ty : TE} (h : ty σ H fun y H1 => td σ H1 fun x H2 => DgR y x H2 fun o => Q (.bl o.isSome) H2) : tDIn ty td σ H Q := h
theorem i_dg3 {R : Option V → Prop} (h : H a = some (.dT kvs)) (e : H p = some (.tup [.int i, .int j, .int k])) (q : R (valV kvs [.inl i, .inl j, .inl k])) : DgR (.ref p) (.ref a) H R := ⟨a, _, rfl, DGet.t (k := [.inl i, .inl j, .inl k]) h e, q⟩
theorem i_dg2 {R : Option V → Prop} (h : H a = some (.dT kvs)) (e : H p = some (.tup [.int i, .int j])) (q : R (valV kvs [.inl i, .inl j])) : DgR (.ref p) (.ref a) H R := ⟨a, _, rfl, DGet.t (k := [.inl i, .inl j]) h e, q⟩
def DvR (x y : V) (H : Hp) (Q : VK) : Prop := ∃ a v, x = V.ref a ∧ DGet H a y (some v) ∧ Q v H
theorem i_dget {td ty : TE} (h : td σ H fun x H1 => ty σ H1 fun y H2 => DvR x y H2 Q) : tDGet td ty σ H Q := h
theorem i_dv3 (h : H a = some (.dT kvs)) (e : H p = some (.tup [.int i, .int j, .int k])) (l : valV kvs [.inl i, .inl j, .inl k] = some v) (q : Q v H) : DvR (.ref a) (.ref p) H Q := ⟨a, v, rfl, l ▸ DGet.t (k := [.inl i, .inl j, .inl k]) h e, q⟩
theorem i_dv2 (h : H a = some (.dT kvs)) (e : H p = some (.tup [.int i, .int j])) (l : valV kvs [.inl i, .inl j] = some v) (q : Q v H) : DvR (.ref a) (.ref p) H Q := ⟨a, v, rfl, l ▸ DGet.t (k := [.inl i, .inl j]) h e, q⟩
def DpR (v x y : V) (H : Hp) (Z : Hp → Prop) : Prop := ∃ a H4, x = V.ref a ∧ DPut H a y v H4 ∧ Z H4
theorem i_dput {td ty tv : TE} (h : tv σ H fun v H1 => td σ H1 fun x H2 => ty σ H2 fun y H3 => DpR v x y H3 (nx σ)) : sDPut td ty tv ⟨nx, rt, bk, ct⟩ σ H := h
theorem i_dp3 {Z : Hp → Prop} (h : H a = some (.dT kvs)) (e : H p = some (.tup [.int i, .int j, .int k])) (hz : kvs.length ≤ 1000000) (q : Z (upd H a (.dT (putK kvs [.inl i, .inl j, .inl k] v)))) : DpR v (.ref a) (.ref p) H Z := ⟨a, _, rfl, DPut.t (k := [.inl i, .inl j, .inl k]) h e (sz4' hz), q⟩
theorem i_dp2 {Z : Hp → Prop} (h : H a = some (.dT kvs)) (e : H p = some (.tup [.int i, .int j])) (hz : kvs.length ≤ 1000000) (q : Z (upd H a (.dT (putK kvs [.inl i, .inl j] v)))) : DpR v (.ref a) (.ref p) H Z := ⟨a, _, rfl, DPut.t (k := [.inl i, .inl j]) h e (sz4' hz), q⟩
theorem i_dnewT (h : ∀ p, H p = none → Q (.ref p) (upd H p (.dT []))) : tDNewT σ H Q := h
/-! ### list(range(..)) -/
theorem i_lstRg {te : L2.St → Hp → (Int → Int → Hp → Prop) → Prop} (h : te σ H fun a b H1 => RgOk a b ∧ ∀ q, H1 q = none → Q (.ref q) (upd H1 q (.lst (rgV a b)))) : tLstRg te σ H Q := h
theorem i_rg1 {ta : TE} {R : Int → Int → Hp → Prop} (h : ta σ H fun x H1 => ∃ n, x = .int n ∧ R 0 n H1) : tRg1 ta σ H R := h
theorem i_rg2 {ta tb : TE} {R : Int → Int → Hp → Prop} (h : ta σ H fun x H1 => tb σ H1 fun y H2 => ∃ i j, x = .int i ∧ y = .int j ∧ R i j H2) : tRg2 ta tb σ H R := h
theorem i_rg2' {R : Int → Int → Prop} (q : R i j) : ∃ i' j', V.int i = .int i' ∧ V.int j = .int j' ∧ R i' j' := ⟨i, j, rfl, rfl, q⟩
theorem i_rg1' {R : Int → Prop} (q : R i) : ∃ i', V.int i = .int i' ∧ R i' := ⟨i, rfl, q⟩
theorem i_rgok {R : Addr → Prop} (h0 : 0 ≤ i) (h1 : j ≤ 16777216) (h2 : i ≤ 16777216) (h3 : 0 ≤ j) (q : ∀ q, H q = none → R q) : RgOk i j ∧ ∀ q, H q = none → R q := ⟨.of_le h0 h1 h2 h3, q⟩
end
theorem rg_ints (a b : Int) : rgV a b = ((List.range (b - a).toNat).map fun i : Nat => a + (i : Int)).map V.int := by
  unfold rgV
  rw [List.map_map]
  rfl
theorem But.mut {a : Addr} {H H1 : Hp} {D : Addr} {o : HO} (hp : H D = none) (x : But a H H1) : But a H (L2.upd H1 D o) := fun b u n h => by
  rw [upd_ne (ne_of_none h hp)]
  exact x b u n h
theorem But.mutS {a : Addr} {H H1 H2 : Hp} {D : Addr} (y : But D H1 H2) (hp : H D = none) (x : But a H H1) : But a H H2 := fun b u n h => y b u (ne_of_none h hp) (x b u n h)
end Hf
/-! ## sorted(.., reverse=True) of what falls; clear, extend -/
namespace Hf
open PySem PySem.Spec PyProof.Rows L2
theorem cr_sortedRevK {X : Cx} (K : PySem.W.Frag) (e : X.K = K) {b : Bool} : CallRK X (.builtin "sorted") [Str.ofString "reverse"] (rSortedKw K b [.bl b]) := by subst e; exact cr_sortedRev
section
variable {σ : L2.St} {H : Hp} {Q : VK} {K : PySem.W.Frag} {p r : Addr} {ns ms : List Int} {xs zs : List V}
theorem i_ckw {R : List V → List V → Hp → VK → Prop} {t tk : TA} (h : t σ H fun vs H1 => tk σ H1 fun zs H2 => R vs zs H2 Q) : tCKw R t tk σ H Q := h
theorem i_sortedRev (h : SqL K H p (ns.map V.int)) (hd : ns.Pairwise fun a b => b ≤ a) (q : ∀ p', H p' = none → Q (.ref p') (L2.upd H p' (.lst (ns.map V.int)))) : rSortedKw K true [.bl true] [.ref p] [.bl true] H Q :=
  ⟨p, ns, rfl, rfl, h, fun ns' p' hp ho hn => by
    have e : ns' = ns := List.Perm.eq_of_pairwise (le := fun a b : Int => b ≤ a) (fun a b _ _ h1 h2 => by
      have h1' : b ≤ a := h1
      have h2' : a ≤ b := h2
      omega) ho hd hp
    rw [e]
    exact q p' hn⟩
theorem i_clear (h : H p = some (.lst xs)) (q : Q .non (L2.upd H p (.lst []))) : rClear (.ref p) [] H Q := ⟨p, xs, rfl, rfl, h, q⟩
theorem i_extendN (h : H p = some (.lst [])) (h2 : H r = some (.lst zs)) (hz : zs.length ≤ 1000000) (q : Q .non (L2.upd H p (.lst zs))) : rExtend (.ref p) [.ref r] H Q := ⟨p, r, [], zs, rfl, rfl, h, h2, by rw [List.length_nil, Nat.zero_add]; exact sz4 hz, by rw [List.nil_append]; exact q⟩
end
/-- the heap is let go of but for what stood at first, and two things -/
theorem forget2 {P : Hp → Prop} {H H1 : Hp} {l f : Addr} {o u : HO} (s : Same H H1) (h1 : H1 l = some o) (h2 : H1 f = some u) (h : ∀ H', Same H H' → H' l = some o → H' f = some u → P H') : P H1 := h H1 s h1 h2
end Hf
/-! ## Dat -/
namespace Hf
open PySem PySem.Spec PyProof.Rows L2
/-! ### nested data, each list and tuple tracked -/
mutual
inductive Dq (H : Hp) : V → PyData → Prop
  | non : Dq H .non .none
  | bl (b : Bool) : Dq H (.bl b) (.bool b)
  | int (i : Int) : Dq H (.int i) (.int i)
  | str (x : Str) : Dq H (.str x) (.str x)
  | lst {a : Addr} {xs : List V} {ds : List PyData} : H a = some (.lst xs) → DqAll H xs ds → Dq H (.ref a) (.list ds)
  | tup {a : Addr} {xs : List V} {ds : List PyData} : H a = some (.tup xs) → DqAll H xs ds → Dq H (.ref a) (.tuple ds)
inductive DqAll (H : Hp) : List V → List PyData → Prop
  | nil : DqAll H [] []
  | cons {v : V} {vs : List V} {d : PyData} {ds : List PyData} : Dq H v d → DqAll H vs ds → DqAll H (v :: vs) (d :: ds)
end
mutual
theorem Dq.same {H H' : Hp} (s : Same H H') : ∀ {v : V} {d : PyData}, Dq H v d → Dq H' v d
  | _, _, .non => .non
  | _, _, .bl b => .bl b
  | _, _, .int i => .int i
  | _, _, .str x => .str x
  | _, _, .lst h q => .lst (s _ _ h) (DqAll.same s q)
  | _, _, .tup h q => .tup (s _ _ h) (DqAll.same s q)
theorem DqAll.same {H H' : Hp} (s : Same H H') : ∀ {vs : List V} {ds : List PyData}, DqAll H vs ds → DqAll H' vs ds
  | _, _, .nil => .nil
  | _, _, .cons h q => .cons (Dq.same s h) (DqAll.same s q)
end
mutual
theorem Dq.dp {K : PySem.W.Frag} {H : Hp} : ∀ {v : V} {d : PyData}, Dq H v d → Dp K H v d
  | _, _, .non => .non
  | _, _, .bl b => .bl b
  | _, _, .int i => .int i
  | _, _, .str x => .str x
  | _, _, .lst h q => .lst (SqL.of h) (DqAll.dp q)
  | _, _, .tup h q => .tup (SqT.of h) (DqAll.dp q)
theorem DqAll.dp {K : PySem.W.Frag} {H : Hp} : ∀ {vs : List V} {ds : List PyData}, DqAll H vs ds → DpAll K H vs ds
  | _, _, .nil => .nil
  | _, _, .cons h q => .cons (Dq.dp h) (DqAll.dp q)
end
mutual
theorem Dq.eqv {H : Hp} : ∀ {v : V} {d : PyData}, Dq H v d → PyData.eqv d d = true
  | _, _, .non => by simp [PyData.eqv]
  | _, _, .bl b => by simp [PyData.eqv]
  | _, _, .int i => by simp [PyData.eqv]
  | _, _, .str x => by simp [PyData.eqv]
  | _, _, .lst _ q => by rw [PyData.eqv]; exact DqAll.eqv q
  | _, _, .tup _ q => by rw [PyData.eqv]; exact DqAll.eqv q
theorem DqAll.eqv {H : Hp} : ∀ {vs : List V} {ds : List PyData}, DqAll H vs ds → PyData.eqvAll ds ds = true
  | _, _, .nil => by simp [PyData.eqvAll]
  | _, _, .cons h q => by rw [PyData.eqvAll, Dq.eqv h, DqAll.eqv q]; rfl
end
section
variable {H : Hp} {v : V} {vs : List V} {ds : List PyData} {i : Int} {x : Str}
theorem Dq.list_inv (h : Dq H v (.list ds)) : ∃ a xs, v = .ref a ∧ H a = some (.lst xs) ∧ DqAll H xs ds := by
  cases h with
  | lst h q => exact ⟨_, _, rfl, h, q⟩
theorem Dq.tuple_inv (h : Dq H v (.tuple ds)) : ∃ a xs, v = .ref a ∧ H a = some (.tup xs) ∧ DqAll H xs ds := by
  cases h with
  | tup h q => exact ⟨_, _, rfl, h, q⟩
theorem Dq.int_inv (h : Dq H v (.int i)) : v = .int i := by
  cases h
  rfl
theorem Dq.str_inv (h : Dq H v (.str x)) : v = .str x := by
  cases h
  rfl
theorem DqAll.len : ∀ {vs : List V} {ds : List PyData}, DqAll H vs ds → vs.length = ds.length
  | _, _, .nil => rfl
  | _, _, .cons _ q => by rw [List.length_cons, List.length_cons, DqAll.len q]
theorem DqAll.get : ∀ {vs : List V} {ds : List PyData}, DqAll H vs ds → ∀ {k : Nat} {d : PyData}, ds[k]? = some d → ∃ w, vs[k]? = some w ∧ Dq H w d
  | _, _, .nil, k, d, h => by simp at h
  | _, _, .cons h _, 0, d, e => by
    rw [List.getElem?_cons_zero] at e
    cases e
    exact ⟨_, rfl, h⟩
  | _, _, .cons _ q, k + 1, d, e => by
    rw [List.getElem?_cons_succ] at e
    obtain ⟨w, h1, h2⟩ := DqAll.get q e
    exact ⟨w, by rw [List.getElem?_cons_succ]; exact h1, h2⟩
theorem DqAll.get' : ∀ {vs : List V} {ds : List PyData}, DqAll H vs ds → ∀ {k : Nat} {w : V}, vs[k]? = some w → ∃ d, ds[k]? = some d ∧ Dq H w d
  | _, _, .nil, k, d, h => by simp at h
  | _, _, .cons h _, 0, d, e => by
    rw [List.getElem?_cons_zero] at e
    cases e
    exact ⟨_, rfl, h⟩
  | _, _, .cons _ q, k + 1, d, e => by
    rw [List.getElem?_cons_succ] at e
    obtain ⟨w, h1, h2⟩ := DqAll.get' q e
    exact ⟨w, by rw [List.getElem?_cons_succ]; exact h1, h2⟩
theorem dq_ints : ∀ ms : List Int, DqAll H (ms.map V.int) (ms.map PyData.int)
  | [] => .nil
  | m :: ms => .cons (.int m) (dq_ints ms)
theorem DqAll.ints : ∀ {vs : List V} {ms : List Int}, DqAll H vs (ms.map PyData.int) → vs = ms.map V.int
  | _, [], h => by cases h; rfl
  | _, m :: ms, h => by
    cases h with
    | cons h q =>
      rw [Dq.int_inv h, DqAll.ints q]
      rfl
theorem DqAll.snoc : ∀ {vs : List V} {ds : List PyData} {w : V} {d : PyData}, DqAll H vs ds → Dq H w d → DqAll H (vs ++ [w]) (ds ++ [d])
  | _, _, _, _, .nil, h => .cons h .nil
  | _, _, _, _, .cons h q, g => .cons h (DqAll.snoc q g)
end
/-- == of nested data -/
theorem i_eqDq {K : PySem.W.Frag} {H : Hp} {Q : VK} {v w : V} {d e : PyData} (h1 : Dq H v d) (h2 : Dq H w e) (s1 : SeqAt.shaped d = true) (s2 : SeqAt.shaped e = true) (q : Q (.bl (PyData.eqv d e)) H) : rEqD K v w H Q := ⟨d, e, h1.dp, h2.dp, s1, s2, q⟩
theorem i_neDq {K : PySem.W.Frag} {H : Hp} {Q : VK} {v w : V} {d : PyData} (h1 : Dq H v d) (h2 : Dq H w d) (s1 : SeqAt.shaped d = true) (q : Q (.bl false) H) : rNeD K v w H Q := ⟨d, d, h1.dp, h2.dp, s1, s1, by
  rw [h1.eqv]
  exact q⟩

/-! ### a heap without some of its objects -/
def hid (S : List Addr) (H : Hp) : Hp := fun b => if b ∈ S then none else H b
section
variable {S : List Addr} {H H' : Hp} {a b : Addr} {o : HO}
theorem hid_in (h : a ∈ S) : hid S H a = none := if_pos h
theorem hid_out (h : a ∉ S) : hid S H a = H a := if_neg h
theorem hid_same : Same (hid S H) H := fun b o h => by
  by_cases c : b ∈ S
  · rw [hid_in c] at h
    cases h
  · rw [hid_out c] at h
    exact h
theorem hid_mono (s : Same H H') : Same (hid S H) (hid S H') := fun b o h => by
  by_cases c : b ∈ S
  · rw [hid_in c] at h
    cases h
  · rw [hid_out c] at h ⊢
    exact s b o h
theorem hid_but (ha : a ∈ S) (s : But a H H') : Same (hid S H) (hid S H') := fun b o h => by
  by_cases c : b ∈ S
  · rw [hid_in c] at h
    cases h
  · rw [hid_out c] at h ⊢
    exact s b o (fun e => c (e ▸ ha)) h
theorem hid_upd (ha : a ∈ S) : Same (hid S H) (hid S (upd H a o)) := hid_but ha (But.upd (But.refl _ _))
theorem hid_lk (h : a ∉ S) (e : H a = some o) : hid S H a = some o := by
  rw [hid_out h]
  exact e
theorem not_in2 {a b c : Addr} (h1 : a ≠ b) (h2 : a ≠ c) : a ∉ [b, c] := by
  intro h
  rcases List.mem_cons.mp h with g | g
  · exact h1 g
  · exact h2 (List.mem_singleton.mp g)
theorem not_in1 {a b : Addr} (h1 : a ≠ b) : a ∉ [b] := fun h => h1 (List.mem_singleton.mp h)
end
theorem rng_map {α β : Type} (f : Nat → β) (g : α → β) (m : List α) (h : ∀ (i : Nat) (x : α), m[i]? = some x → f i = g x) : (List.range m.length).map f = m.map g := by
  apply List.ext_getElem?
  intro i
  rw [List.getElem?_map, List.getElem?_map]
  by_cases c : i < m.length
  · rw [List.getElem?_range c, List.getElem?_eq_getElem c]
    show some (f i) = some (g m[i])
    rw [h i _ (List.getElem?_eq_getElem c)]
  · rw [List.getElem?_eq_none (by rw [List.length_range]; omega), List.getElem?_eq_none (by omega)]
    rfl
theorem take_snoc {α : Type} {m : List α} {i : Nat} {x : α} (h : m[i]? = some x) : m.take (i + 1) = m.take i ++ [x] := by
  rw [List.take_add_one, h]
  rfl
theorem same_hid1 {G H : Hp} {a : Addr} (s : Same G H) (h1 : G a = none) : Same G (hid [a] H) := fun b o e => by
  rw [hid_out (not_in1 (ne_of_none e h1))]
  exact s b o e
theorem same_hid2 {G H : Hp} {a c : Addr} (s : Same G H) (h1 : G a = none) (h2 : G c = none) : Same G (hid [a, c] H) := fun b o e => by
  rw [hid_out (not_in2 (ne_of_none e h1) (ne_of_none e h2))]
  exact s b o e
theorem But.mutD {a : Addr} {H H1 : Hp} {D : Addr} {o : HO} (hp : H D = none) (x : But a H H1) : But a H (L2.upd H1 D o) := fun b u n h => by
  rw [upd_ne (ne_of_none h hp)]
  exact x b u n h
theorem But.mutSD {a : Addr} {H H1 H2 : Hp} {D : Addr} (y : But D H1 H2) (hp : H D = none) (x : But a H H1) : But a H H2 := fun b u n h => y b u (ne_of_none h hp) (x b u n h)
theorem DqAll.reverse {H : Hp} : ∀ {vs : List V} {ds : List PyData}, DqAll H vs ds → DqAll H vs.reverse ds.reverse
  | _, _, .nil => .nil
  | _, _, .cons h q => by
    rw [List.reverse_cons, List.reverse_cons]
    exact DqAll.snoc (DqAll.reverse q) h
theorem i_reverseV {H : Hp} {p : Addr} {xs : List V} {Q : VK} (h : H p = some (.lst xs)) (q : Q .non (upd H p (.lst xs.reverse))) : rReverse (.ref p) [] H Q := ⟨p, _, rfl, rfl, h, q⟩
theorem i_revV {K : PySem.W.Frag} {xs : List V} {p : Addr} {H : Hp} {R : Addr → List V → Prop} (h : SqL K H p xs) (q : R p xs) : ∃ a xs, V.ref p = .ref a ∧ SqL K H a xs ∧ R a xs := ⟨p, _, rfl, h, q⟩
theorem i_neL2 {K : PySem.W.Frag} {H : Hp} {Q : VK} {p r : Addr} {ms : List Int} {x y : Int} (h1 : SqL K H p (ms.map V.int)) (h2 : SqL K H r [.int x, .int y]) (q : Q (.bl (!decide (ms = [x, y]))) H) : rNeD K (.ref p) (.ref r) H Q := i_neLI (ns := [x, y]) h1 h2 q
theorem pe_revLK {X : L2.Cx} (K : PySem.W.Frag) (eK : X.K = K) {e : Expr} {te : TE} {k : Nat} {p1 p2 p3 pos : Pos} (he : PE X e te) : PE X (.Subscript e (.Slice none none (some (.UnaryOp .USub (.Constant (.int 1) k p1) p2)) p3) pos) (tRevL K te) := by
  subst eK
  exact pe_revL he
theorem i_rev {K : PySem.W.Frag} {te : TE} {σ : L2.St} {H : Hp} {Q : VK} (h : te σ H fun x H1 => ∃ a xs, x = .ref a ∧ SqL K H1 a xs ∧ ∀ p, H1 p = none → Q (.ref p) (upd H1 p (.lst xs.reverse))) : tRevL K te σ H Q := h
theorem i_rev' {K : PySem.W.Frag} {ms : List Int} {p : Addr} {H : Hp} {R : Addr → List V → Prop} (h : SqL K H p (ms.map V.int)) (q : R p (ms.map V.int)) : ∃ a xs, V.ref p = .ref a ∧ SqL K H a xs ∧ R a xs := ⟨p, _, rfl, h, q⟩
theorem DqAll.take {H : Hp} : ∀ (n : Nat) {vs : List V} {ds : List PyData}, DqAll H vs ds → DqAll H (vs.take n) (ds.take n)
  | 0, _, _, _ => .nil
  | _ + 1, _, _, .nil => .nil
  | n + 1, _, _, .cons h q => .cons h (DqAll.take n q)
theorem DqAll.drop {H : Hp} : ∀ (n : Nat) {vs : List V} {ds : List PyData}, DqAll H vs ds → DqAll H (vs.drop n) (ds.drop n)
  | 0, _, _, q => q
  | _ + 1, _, _, .nil => .nil
  | n + 1, _, _, .cons _ q => DqAll.drop n q
end Hf
/-! ## Mixes -/
namespace Hf
open PySem PySem.Spec PyProof.Rows L2
/-! ### mixes -/
def planD (p : List Int) : PyData := .list (p.map PyData.int)
def partD (pw : List Int × Int) : PyData := .tuple [planD pw.1, .int pw.2]
def mixD (m : List (List Int × Int)) : PyData := .list (m.map partD)
/-- a plan of so many hosts and fields -/
def PlanC (h : Int) (n : Nat) (p : List Int) : Prop := p.length = n ∧ p.sum = h ∧ ∀ x ∈ p, 0 ≤ x
structure MixOk (h : Int) (n : Nat) (m : List (List Int × Int)) : Prop where
  ne : 1 ≤ m.length ∧ m.length ≤ 100
  fl : 1 ≤ n ∧ n ≤ 8
  ho : 0 ≤ h ∧ h ≤ 40
  pl : ∀ pw ∈ m, PlanC h n pw.1 ∧ 1 ≤ pw.2
section
variable {H : Hp} {v : V} {m : List (List Int × Int)} {xs : List V}
/-- a part: its tuple, its plan's list -/
theorem part_inv {pw : List Int × Int} (h : Dq H v (partD pw)) : ∃ t p, v = .ref t ∧ H t = some (.tup [.ref p, .int pw.2]) ∧ H p = some (.lst (pw.1.map V.int)) := by
  obtain ⟨t, xs, rfl, h1, h2⟩ := h.tuple_inv
  cases h2 with
  | cons a b =>
    cases b with
    | cons c d =>
      cases d
      obtain ⟨p, ys, rfl, h3, h4⟩ := Dq.list_inv a
      obtain rfl := Dq.int_inv c
      obtain rfl := DqAll.ints h4
      exact ⟨t, p, rfl, h1, h3⟩
theorem mix_inv (h : Dq H v (mixD m)) : ∃ a xs, v = .ref a ∧ H a = some (.lst xs) ∧ xs.length = m.length ∧ ∀ (k : Nat) (w : V), xs[k]? = some w → ∃ pw t p, m[k]? = some pw ∧ w = .ref t ∧ H t = some (.tup [.ref p, .int pw.2]) ∧ H p = some (.lst (pw.1.map V.int)) := by
  obtain ⟨a, xs, rfl, h1, h2⟩ := h.list_inv
  refine ⟨a, xs, rfl, h1, by rw [h2.len, List.length_map], fun k w hw => ?_⟩
  obtain ⟨d, e, q⟩ := h2.get' hw
  rw [List.getElem?_map] at e
  cases g : m[k]? with
  | none => rw [g] at e; cases e
  | some pw =>
    rw [g] at e
    cases e
    obtain ⟨t, p, e1, e2, e3⟩ := part_inv q
    exact ⟨pw, t, p, rfl, e1, e2, e3⟩
end
theorem shaped_mix (m : List (List Int × Int)) : SeqAt.shaped (mixD m) = true := by
  have h1 : ∀ m : List (List Int × Int), PyData.canLayAll0 (m.map partD) = true := by
    intro m
    induction m with
    | nil => simp [PyData.canLayAll0]
    | cons pw m ih =>
      rw [List.map_cons, PyData.canLayAll0, ih]
      simp [partD, planD, PyData.canLay0, PyData.canLayAll0, canLay_ints]
  have h2 : ∀ m : List (List Int × Int), PyData.depthAll (m.map partD) ≤ 3 := by
    intro m
    induction m with
    | nil => simp [PyData.depthAll]
    | cons pw m ih =>
      have := depth_ints pw.1
      rw [List.map_cons, PyData.depthAll]
      simp [partD, planD, PyData.depth, PyData.depthAll]
      omega
  unfold SeqAt.shaped
  have a := h1 m
  have b := h2 m
  simp [mixD, PyData.canLay0, PyData.depth, a]
  omega

theorem dq_mix {G H : Hp} {a : Addr} {xs : List V} {m : List (List Int × Int)} (q : DqAll G xs (m.map partD)) (h : H a = some (.lst xs)) (s : Same G H) : Dq H (.ref a) (mixD m) := .lst h (DqAll.same s q)
theorem part_mk {H : Hp} {t p : Addr} {ms : List Int} {w : Int} (h1 : H t = some (.tup [.ref p, .int w])) (h2 : H p = some (.lst (ms.map V.int))) : Dq H (.ref t) (partD (ms, w)) := .tup h1 (.cons (.lst h2 (dq_ints ms)) (.cons (.int w) .nil))
/-- a part of a mix, by its place -/
theorem part_at {G : Hp} {xs : List V} {m : List (List Int × Int)} (q : DqAll G xs (m.map partD)) {k : Nat} {w : V} (hw : xs[k]? = some w) : ∃ pw t p, m[k]? = some pw ∧ w = .ref t ∧ G t = some (.tup [.ref p, .int pw.2]) ∧ G p = some (.lst (pw.1.map V.int)) := by
  obtain ⟨d, e, q⟩ := q.get' hw
  rw [List.getElem?_map] at e
  cases g : m[k]? with
  | none => rw [g] at e; cases e
  | some pw =>
    rw [g] at e
    cases e
    obtain ⟨t, p, e1, e2, e3⟩ := part_inv q
    exact ⟨pw, t, p, rfl, e1, e2, e3⟩
def whole (m : List (List Int × Int)) : Int := (m.map Prod.snd).sum
def due : List (List Int × Int) → Int → List Int
  | [], _ => []
  | pw :: r, k => if k < pw.2 then pw.1 else due r (k - pw.2)
theorem whole_cons {pw : List Int × Int} {r : List (List Int × Int)} : whole (pw :: r) = pw.2 + whole r := by
  unfold whole
  rw [List.map_cons, List.sum_cons]
theorem whole_app {m r : List (List Int × Int)} : whole (m ++ r) = whole m + whole r := by
  unfold whole
  rw [List.map_append, List.sum_append]
theorem drop_get {α : Type} {m : List α} {i : Nat} {x : α} (h : m[i]? = some x) : m.drop i = x :: m.drop (i + 1) := by
  obtain ⟨hi, rfl⟩ := List.getElem?_eq_some_iff.mp h
  exact List.drop_eq_getElem_cons hi
theorem MixOk.len (h n) {m} (k : MixOk h n m) : 1 ≤ m.length := k.ne.1
theorem MixOk.whole_pos {h n m} (k : MixOk h n m) : (m.length : Int) ≤ whole m := by
  have : ∀ r : List (List Int × Int), (∀ pw ∈ r, 1 ≤ pw.2) → (r.length : Int) ≤ whole r := by
    intro r
    induction r with
    | nil => intro _; exact Int.le_refl _
    | cons pw r ih =>
      intro g
      have := ih fun x hx => g x (List.mem_cons_of_mem _ hx)
      have := g pw (List.mem_cons_self)
      rw [whole_cons, List.length_cons]
      omega
  exact this m fun pw hp => (k.pl pw hp).2
/-- weights of a drawn mix -/
def WtOk (m : List (List Int × Int)) : Prop := m.length ≤ 20 ∧ ∀ pw ∈ m, pw.2 ≤ 10000000000000000000000000000
theorem WtOk.le {m} (k : WtOk m) : whole m ≤ 200000000000000000000000000000 := by
  have : ∀ r : List (List Int × Int), (∀ pw ∈ r, pw.2 ≤ 10000000000000000000000000000) → whole r ≤ 10000000000000000000000000000 * (r.length : Int) := by
    intro r
    induction r with
    | nil => intro _; exact Int.le_refl _
    | cons pw r ih =>
      intro g
      have := ih fun x hx => g x (List.mem_cons_of_mem _ hx)
      have := g pw (List.mem_cons_self)
      rw [whole_cons, List.length_cons]
      omega
  have h1 := this m k.2
  have h2 := k.1
  omega
theorem whole_nn : ∀ r : List (List Int × Int), (∀ pw ∈ r, 1 ≤ pw.2) → 0 ≤ whole r := by
  intro r
  induction r with
  | nil => intro _; exact Int.le_refl _
  | cons pw r ih =>
    intro g
    have := ih fun x hx => g x (List.mem_cons_of_mem _ hx)
    have := g pw (List.mem_cons_self)
    rw [whole_cons]
    omega
theorem MixOk.at {h : Int} {n : Nat} {m : List (List Int × Int)} {i : Nat} {pw : List Int × Int} (k : MixOk h n m) (e : m[i]? = some pw) : 0 ≤ whole (m.take i) ∧ 1 ≤ pw.2 ∧ whole (m.take (i + 1)) = whole (m.take i) + pw.2 ∧ whole (m.take i) + pw.2 ≤ whole m := by
  have h1 := whole_nn (m.take i) fun x hx => (k.pl x (List.mem_of_mem_take hx)).2
  have h2 := whole_nn (m.drop (i + 1)) fun x hx => (k.pl x (List.mem_of_mem_drop hx)).2
  have h3 : whole m = whole (m.take i) + whole (m.drop i) := by rw [← whole_app, List.take_append_drop]
  rw [drop_get e, whole_cons] at h3
  have h4 := (k.pl pw (List.mem_of_getElem? e)).2
  refine ⟨h1, h4, ?_, by omega⟩
  rw [take_snoc e, whole_app]
  simp [whole]
theorem MixOk.reverse {h : Int} {n : Nat} {m : List (List Int × Int)} (k : MixOk h n m) : MixOk h n m.reverse := ⟨by rw [List.length_reverse]; exact k.ne, k.fl, k.ho, fun pw hp => k.pl pw (List.mem_reverse.mp hp)⟩
theorem whole_reverse (m : List (List Int × Int)) : whole m.reverse = whole m := by
  induction m with
  | nil => rfl
  | cons pw m ih =>
    rw [List.reverse_cons, whole_app, whole_cons, ih]
    simp [whole]
    omega
theorem due_last : ∀ (m : List (List Int × Int)) {p : List Int} {w z : Int}, (∀ pw ∈ m, 1 ≤ pw.2) → whole m ≤ z → z < whole m + w → due (m ++ [(p, w)]) z = p
  | [], p, w, z, _, h1, h2 => by
    simp [whole] at h1 h2
    show due [(p, w)] z = p
    rw [due, if_pos h2]
  | pw :: m, p, w, z, h0, h1, h2 => by
    rw [whole_cons] at h1 h2
    have := whole_nn m fun x hx => h0 x (List.mem_cons_of_mem _ hx)
    show due (pw :: (m ++ [(p, w)])) z = p
    rw [due, if_neg (by omega)]
    exact due_last m (fun x hx => h0 x (List.mem_cons_of_mem _ hx)) (by omega) (by omega)
theorem DqAll.revm {H : Hp} {vs : List V} {m : List (List Int × Int)} (q : DqAll H vs (m.map partD)) : DqAll H vs.reverse (m.reverse.map partD) := by
  rw [List.map_reverse]
  exact q.reverse
theorem dq_two {H : Hp} {a t1 t2 p1 p2 : Addr} {w1 w2 x1 y1 x2 y2 : Int} (h : H a = some (.lst [.ref t1, .ref t2])) (h1 : H t1 = some (.tup [.ref p1, .int w1])) (h2 : H t2 = some (.tup [.ref p2, .int w2])) (h3 : H p1 = some (.lst [.int x1, .int y1])) (h4 : H p2 = some (.lst [.int x2, .int y2])) : Dq H (.ref a) (mixD [([x1, y1], w1), ([x2, y2], w2)]) :=
  .lst h (.cons (part_mk h1 h3) (.cons (part_mk h2 h4) .nil))
theorem MixOk.snoc {h : Int} {n : Nat} {m : List (List Int × Int)} {p : List Int} {w : Int} (k : MixOk h n m) (hp : PlanC h n p) (hw : 1 ≤ w) (hl : m.length ≤ 50) : MixOk h n (m ++ [(p, w)]) := ⟨by simp; omega, k.fl, k.ho, fun pw hpw => by
  rcases List.mem_append.mp hpw with g | g
  · exact k.pl pw g
  · rw [List.mem_singleton.mp g]
    exact ⟨hp, hw⟩⟩
theorem due_len {k : Nat} : ∀ (m : List (List Int × Int)) (z : Int), (∀ pw ∈ m, pw.1.length ≤ k) → (due m z).length ≤ k
  | [], _, _ => Nat.zero_le _
  | pw :: m, z, h => by
    rw [due]
    split
    · exact h pw (List.mem_cons_self)
    · exact due_len m _ fun x hx => h x (List.mem_cons_of_mem _ hx)
theorem MixOk.due_len {h : Int} {n : Nat} {m : List (List Int × Int)} (k : MixOk h n m) (z : Int) : (due m z).length ≤ 8 := Hf.due_len m z fun pw hp => by
  have := (k.pl pw hp).1.1
  have := k.fl.2
  omega
end Hf
/-! ## what is new -/
namespace Hf
open PySem PySem.Spec PyProof.Rows L2
/-! ### what is new -/
/-- what stands in G does not stand in H -/
def Newly (H G : Hp) : Prop := ∀ b o, H b = some o → G b = none
/-- what stands in H' and not in H, but for S -/
def fr (S : List Addr) (H H' : Hp) : Hp := fun b => if b ∈ S then none else match H b with
  | none => H' b
  | some _ => none
section
variable {S : List Addr} {H H' H1 H2 G : Hp} {a p : Addr} {o u : HO}
theorem fr_same : Same (fr S H H') H' := fun b o h => by
  unfold fr at h
  split at h
  · cases h
  · split at h
    · exact h
    · cases h
theorem fr_newly : Newly H (fr S H H') := fun b o h => by
  unfold fr
  split
  · rfl
  · rw [h]
theorem fr_in (h : a ∈ S) : fr S H H' a = none := if_pos h
theorem fr_lk (n : a ∉ S) (h : H a = none) (e : H' a = some o) : fr S H H' a = some o := by
  unfold fr
  rw [if_neg n, h]
  exact e
theorem fr_lk0 (h : H a = none) (e : H' a = some o) : fr [] H H' a = some o := fr_lk (by simp) h e
theorem fr_lk1 (n : a ≠ p) (h : H a = none) (e : H' a = some o) : fr [p] H H' a = some o := fr_lk (not_in1 n) h e
theorem fr_lk2 {q : Addr} (n : a ≠ p) (m : a ≠ q) (h : H a = none) (e : H' a = some o) : fr [p, q] H H' a = some o := fr_lk (not_in2 n m) h e
theorem fr_mono (s : Same H1 H2) : Same (fr S H H1) (fr S H H2) := fun b o h => by
  unfold fr at h ⊢
  split
  · next c => rw [if_pos c] at h; cases h
  · next c =>
    rw [if_neg c] at h
    split
    · next c2 => rw [c2] at h; exact s _ _ h
    · next c2 => rw [c2] at h; cases h
theorem fr_sub : Same (fr S H H') (fr [] H H') := fun b o h => by
  unfold fr at h ⊢
  split at h
  · cases h
  · rw [if_neg (by simp)]
    exact h
theorem fr_but (ha : a ∈ S) (s : But a H1 H2) : Same (fr S H H1) (fr S H H2) := fun b o h => by
  unfold fr at h ⊢
  split
  · next c => rw [if_pos c] at h; cases h
  · next c =>
    rw [if_neg c] at h
    split
    · next c2 => rw [c2] at h; exact s _ _ (fun e => c (e ▸ ha)) h
    · next c2 => rw [c2] at h; cases h
theorem fr_butK (ha : H a = some o) (s : But a H1 H2) : Same (fr S H H1) (fr S H H2) := fun b u h => by
  unfold fr at h ⊢
  split
  · next c => rw [if_pos c] at h; cases h
  · next c =>
    rw [if_neg c] at h
    split
    · next c2 => rw [c2] at h; exact s _ _ (fun e => by rw [e, ha] at c2; cases c2) h
    · next c2 => rw [c2] at h; cases h
theorem fr_upd (ha : a ∈ S) : Same (fr S H H1) (fr S H (upd H1 a o)) := fr_but ha (But.upd (But.refl _ _))
/-- all of G is new, and in H' -/
theorem Newly.same (n : Newly H G) (s : Same G H') : Same G (fr [] H H') := fun b o h => by
  refine fr_lk0 ?_ (s _ _ h)
  cases e : H b with
  | none => rfl
  | some u => rw [n b u e] at h; cases h
theorem Newly.same1 (n : Newly H G) (s : Same G H') (hp : G p = none) : Same G (fr [p] H H') := fun b o h => by
  refine fr_lk1 (ne_of_none h hp) ?_ (s _ _ h)
  cases e : H b with
  | none => rfl
  | some u => rw [n b u e] at h; cases h
theorem Newly.same2 {q : Addr} (n : Newly H G) (s : Same G H') (hp : G p = none) (hq : G q = none) : Same G (fr [p, q] H H') := fun b o h => by
  refine fr_lk2 (ne_of_none h hp) (ne_of_none h hq) ?_ (s _ _ h)
  cases e : H b with
  | none => rfl
  | some u => rw [n b u e] at h; cases h
theorem Newly.free (n : Newly H G) (h : H p = some o) : G p = none := n p o h
theorem Newly.back (n : Newly H1 G) (s : Same H H1) : Newly H G := fun b o h => n b o (s b o h)
theorem Newly.backB (n : Newly H1 G) (s : But a H H1) (h : G a = none) : Newly H G := fun b o e => by
  by_cases c : b = a
  · rw [c]; exact h
  · exact n b o (s b o c e)
end
/-! ### the purse of draws: where it stands and how often it was drawn from -/
def Left (n m : Int) : Prop := m = 1 ∨ (m = 0 ∧ 0 ≤ n ∧ n < 2147483629)
def Pk (a : Addr) (m : Int) (H : Hp) (c0 : Int) : Prop := ∃ n c, H a = some (.lst [.int n, .int m, .int c]) ∧ Left n m ∧ 0 ≤ c ∧ c ≤ c0
section
variable {a b p : Addr} {m c0 c1 : Int} {H H' H1 G : Hp} {o : HO}
theorem Pk.mono (h : Pk a m H c0) (e : c0 ≤ c1) : Pk a m H c1 := by
  obtain ⟨n, c, h1, h2, h3, h4⟩ := h
  exact ⟨n, c, h1, h2, h3, by omega⟩
theorem Pk.cast (h : Pk a m H c0) (e : c0 = c1) : Pk a m H c1 := e ▸ h
theorem Pk.same (h : Pk a m H c0) (s : Same H H') : Pk a m H' c0 := by
  obtain ⟨n, c, h1, h2, h3⟩ := h
  exact ⟨n, c, s _ _ h1, h2, h3⟩
theorem Pk.new (h : Pk a m H c0) (hp : H p = none) : Pk a m (upd H p o) c0 := h.same (Same.new hp)
theorem Pk.upd (h : Pk a m H c0) (hp : p ≠ a) : Pk a m (upd H p o) c0 := by
  obtain ⟨n, c, h1, h2, h3⟩ := h
  exact ⟨n, c, by rw [upd_ne hp.symm]; exact h1, h2, h3⟩
theorem Pk.but (h : Pk a m H c0) (s : But p H H') (hp : p ≠ a) : Pk a m H' c0 := by
  obtain ⟨n, c, h1, h2, h3⟩ := h
  exact ⟨n, c, s _ _ hp.symm h1, h2, h3⟩
theorem Pk.newT (hp : H p = none) (h : Pk a m H c0) : Pk a m (L2.upd H p o) c0 := h.new hp
theorem Pk.sameT (s : Same H H') (h : Pk a m H c0) : Pk a m H' c0 := h.same s
theorem Pk.ne (n : H p = none) (h : Pk a m H c0) : p ≠ a := by
  obtain ⟨_, _, h1, _⟩ := h
  exact (ne_of_none h1 n).symm
theorem Pk.neo (n : G a = none) (h : G p = some o) : p ≠ a := ne_of_none h n
theorem Pk.some (h : Pk a m H c0) : ∃ o, H a = some o := by
  obtain ⟨_, _, h1, _⟩ := h
  exact ⟨_, h1⟩
theorem Pk.free (hn : H' p = none) (e : But a H H') (h : Pk a m H' c0) : H p = none := by
  obtain ⟨_, _, h1, _⟩ := h
  exact But.free hn e h1
theorem Newly.pk (n : Newly H G) (h : Pk a m H c0) : G a = none := by
  obtain ⟨_, _, h1, _⟩ := h
  exact n.free h1
theorem fr_butP {S : List Addr} {H2 : Hp} (h : Pk a m H c0) (s : But a H1 H2) : Same (fr S H H1) (fr S H H2) := by
  obtain ⟨_, _, h1, _⟩ := h
  exact fr_butK h1 s
theorem Newly.backP (n : Newly H1 G) (s : But a H H1) (h : Pk a m H1 c0) : Newly H G := n.backB s (n.pk h)
theorem pk_new {n z : Int} {p : Addr} (h : Left n z) : Pk p z (L2.upd H p (.lst [.int n, .int z, .int 0])) 0 := ⟨n, 0, upd_same, h, Int.le_refl _, Int.le_refl _⟩
end
/-! ### comprehensions that draw -/
section
variable {σ : L2.St} {H H1 : Hp} {Q : VK} {K : PySem.W.Frag} {D a l : Addr} {wi : TI} {g : TG} {tt : TT} {te : TE} {vs : List Nat} {lo : Int} {n : Nat} {xs : List V} {Qd : Hp → Prop}
theorem inc_snoc {c0 inc : Int} {i : Nat} : c0 + inc * (i : Int) + inc = c0 + inc * ((i + 1 : Nat) : Int) := by
  rw [show ((i + 1 : Nat) : Int) = (i : Int) + 1 from rfl, Int.mul_add, Int.mul_one]
  omega
theorem lcR_pk {m c0 : Int} (Pz : Int → Prop) (inc : Int) (hp : Pk a m H1 c0) (nD : H1 D = none) (hn : n ≤ 1000000)
    (hs : ∀ (i : Nat) H (Z : VK) (Y : Hp → Prop), i < n → Pk a m H (c0 + inc * (i : Int)) → But a H1 H → (∀ z H4, Pz z → Pk a m H4 (c0 + inc * (i : Int) + inc) → But a H H4 → Z (.int z) H4) → LcTurn g tt te vs σ (.int (lo + i)) H Z Y)
    (hd : ∀ (ms : List Int) H, ms.length = n → (∀ z ∈ ms, Pz z) → H D = some (.lst (ms.map V.int)) → Pk a m H (c0 + inc * (n : Int)) → But a H1 H → Qd H) :
    ∃ W : Nat → Nat → Hp → Prop, (∃ m, W 0 m (upd H1 D (.lst []))) ∧ ∀ i m H, W i m H →
      ((Itr lo n).stop i H ∧ Qd H) ∨ ((Itr lo n).go i H ∧ ∃ Nx : Hp → Prop, (∀ H', Nx H' → ∃ m', m' < m ∧ W (i + 1) m' H') ∧ ∀ x H', (Itr lo n).yld i H x H' → g x (wipe σ vs) H' fun σ2 H2 => wipe σ2 vs = wipe σ vs ∧ tt σ2 H2 fun b H3 =>
        if b = true then te σ2 H3 fun y H4 => ∃ acc, H4 D = some (.lst acc) ∧ acc.length < sizeLine ∧ Nx (upd H4 D (.lst (acc ++ [y]))) else Nx H3) := by
  have hDa : D ≠ a := hp.ne nD
  refine lcR (fun i acc H => ∃ ms : List Int, acc = ms.map V.int ∧ ms.length = i ∧ (∀ z ∈ ms, Pz z) ∧ Pk a m H (c0 + inc * (i : Int)) ∧ But a H1 H) nD ⟨[], rfl, rfl, nofun, (hp.new nD).cast (by simp), But.newT nD (But.refl _ _)⟩ ?_ ?_
  · rintro i acc H Z Y hi ⟨ms, rfl, h1, h2, h3, h4⟩ hD hz _
    refine hs i H Z Y hi h3 h4 fun z H4 k1 k2 k3 => hz _ _ (k3 _ _ hDa hD) (sz4' (by rw [List.length_map]; omega)) ⟨ms ++ [z], by rw [List.map_append]; rfl, by rw [List.length_append, h1]; rfl, ?_, (k2.upd hDa).cast inc_snoc, ?_⟩
    · intro x hx
      rcases List.mem_append.mp hx with e | e
      · exact h2 x e
      · rw [List.mem_singleton.mp e]; exact k1
    · intro b o hb e
      have := k3 _ _ hb (h4 _ _ hb e)
      rw [upd_ne (ne_of_none e nD)]
      exact this
  · rintro acc H ⟨ms, rfl, h1, h2, h3, h4⟩ hD
    exact hd ms H h1 h2 hD h3 h4
theorem lcR_dq {α : Type} {m c0 : Int} (F : α → PyData) (Pz : α → Prop) (inc : Int) (hp : Pk a m H1 c0) (nD : H1 D = none) (hn : n ≤ 1000000)
    (hs : ∀ (i : Nat) H (Z : VK) (Y : Hp → Prop), i < n → Pk a m H (c0 + inc * (i : Int)) → But a H1 H → (∀ x v G H4, Pz x → Dq G v (F x) → Newly H G → Same G H4 → Pk a m H4 (c0 + inc * (i : Int) + inc) → But a H H4 → Z v H4) → LcTurn g tt te vs σ (.int (lo + i)) H Z Y)
    (hd : ∀ (xs : List α) G H, xs.length = n → (∀ x ∈ xs, Pz x) → Dq G (.ref D) (.list (xs.map F)) → Newly H1 G → Same G H → Pk a m H (c0 + inc * (n : Int)) → But a H1 H → Qd H) :
    ∃ W : Nat → Nat → Hp → Prop, (∃ m, W 0 m (upd H1 D (.lst []))) ∧ ∀ i m H, W i m H →
      ((Itr lo n).stop i H ∧ Qd H) ∨ ((Itr lo n).go i H ∧ ∃ Nx : Hp → Prop, (∀ H', Nx H' → ∃ m', m' < m ∧ W (i + 1) m' H') ∧ ∀ x H', (Itr lo n).yld i H x H' → g x (wipe σ vs) H' fun σ2 H2 => wipe σ2 vs = wipe σ vs ∧ tt σ2 H2 fun b H3 =>
        if b = true then te σ2 H3 fun y H4 => ∃ acc, H4 D = some (.lst acc) ∧ acc.length < sizeLine ∧ Nx (upd H4 D (.lst (acc ++ [y]))) else Nx H3) := by
  have hDa : D ≠ a := hp.ne nD
  refine lcR (fun i acc H => ∃ xs : List α, DqAll (fr [D] H1 H) acc (xs.map F) ∧ xs.length = i ∧ (∀ x ∈ xs, Pz x) ∧ Pk a m H (c0 + inc * (i : Int)) ∧ But a H1 H) nD ⟨[], .nil, rfl, nofun, (hp.new nD).cast (by simp), But.newT nD (But.refl _ _)⟩ ?_ ?_
  · rintro i acc H Z Y hi ⟨xs, h0, h1, h2, h3, h4⟩ hD hz _
    refine hs i H Z Y hi h3 h4 fun x v G H4 k1 k2 k3 k4 k5 k6 => ?_
    have gD : G D = none := k3.free hD
    refine hz _ _ (k6 _ _ hDa hD) (sz4' (by rw [h0.len, List.length_map]; omega)) ⟨xs ++ [x], ?_, by rw [List.length_append, h1]; rfl, ?_, (k5.upd hDa).cast inc_snoc, ?_⟩
    · rw [List.map_append]
      exact DqAll.snoc ((h0.same (fr_butP hp k6)).same (fr_upd (by simp))) (k2.same (Newly.same1 (k3.backP h4 h3) (Same.mut k4 gD) gD))
    · intro y hy
      rcases List.mem_append.mp hy with e | e
      · exact h2 y e
      · rw [List.mem_singleton.mp e]; exact k1
    · intro b o hb e
      have := k6 _ _ hb (h4 _ _ hb e)
      rw [upd_ne (ne_of_none e nD)]
      exact this
  · rintro acc H ⟨xs, h0, h1, h2, h3, h4⟩ hD
    exact hd xs (fr [] H1 H) H h1 h2 (.lst (fr_lk0 nD hD) (h0.same fr_sub)) fr_newly fr_same h3 h4
/-- new data for each item of a list, nothing changed -/
theorem lcL_new (f : Nat → PyData) (nD : H1 D = none) (hn : xs.length ≤ 1000000) (hx : SqL K H1 l xs)
    (hs : ∀ (i : Nat) (x : V) H (Z : VK) (Y : Hp → Prop), xs[i]? = some x → Same H1 H → (∀ v G H4, Dq G v (f i) → Newly H G → Same G H4 → Same H H4 → Z v H4) → LcTurn g tt te vs σ x H Z Y)
    (hd : ∀ G H, Dq G (.ref D) (.list ((List.range xs.length).map f)) → Newly H1 G → Same G H → Same H1 H → Qd H) :
    ∃ W : Nat → Nat → Hp → Prop, (∃ m, W 0 m (upd H1 D (.lst []))) ∧ ∀ i m H, W i m H →
      ((Itl K l).stop i H ∧ Qd H) ∨ ((Itl K l).go i H ∧ ∃ Nx : Hp → Prop, (∀ H', Nx H' → ∃ m', m' < m ∧ W (i + 1) m' H') ∧ ∀ x H', (Itl K l).yld i H x H' → g x (wipe σ vs) H' fun σ2 H2 => wipe σ2 vs = wipe σ vs ∧ tt σ2 H2 fun b H3 =>
        if b = true then te σ2 H3 fun y H4 => ∃ acc, H4 D = some (.lst acc) ∧ acc.length < sizeLine ∧ Nx (upd H4 D (.lst (acc ++ [y]))) else Nx H3) := by
  refine lcL (xs := xs) (fun i acc H => DqAll (fr [D] H1 H) acc ((List.range i).map f) ∧ acc.length = i ∧ Same H1 H) nD ⟨.nil, rfl, Same.new nD⟩ (fun i acc H _ q _ => q.2.2.seq hx) ?_ ?_
  · rintro i x acc H Z Y hi ⟨h0, h1, h2⟩ hD hz _
    have hi' : i < xs.length := (List.getElem?_eq_some_iff.mp hi).1
    refine hs i x H Z Y hi h2 fun v G H4 k2 k3 k4 k6 => ?_
    have gD : G D = none := k3.free hD
    refine hz _ _ (k6 _ _ hD) (sz4' (by omega)) ⟨?_, by rw [List.length_append, h1]; rfl, Same.mut (h2.trans k6) nD⟩
    rw [List.range_succ, List.map_append]
    exact DqAll.snoc ((h0.same (fr_mono k6)).same (fr_upd (by simp))) (k2.same (Newly.same1 (k3.back h2) (Same.mut k4 gD) gD))
  · rintro acc H ⟨h0, h1, h2⟩ hD
    exact hd (fr [] H1 H) H (.lst (fr_lk0 nD hD) (h0.same fr_sub)) fr_newly fr_same h2
theorem lcT (P : Nat → List V → Hp → Prop) (nD : H1 D = none) (h0 : P 0 [] (upd H1 D (.lst []))) (hl : ∀ i acc H, i ≤ xs.length → P i acc H → H D = some (.lst acc) → SqT K H l xs)
    (hs : ∀ i x acc H (Z : VK) (Y : Hp → Prop), xs[i]? = some x → P i acc H → H D = some (.lst acc) → (∀ y H4, H4 D = some (.lst acc) → acc.length < sizeLine → P (i + 1) (acc ++ [y]) (upd H4 D (.lst (acc ++ [y]))) → Z y H4) →
      (∀ H4, H4 D = some (.lst acc) → P (i + 1) acc H4 → Y H4) → LcTurn g tt te vs σ x H Z Y) (hd : ∀ acc H, P xs.length acc H → H D = some (.lst acc) → Qd H) :
    ∃ W : Nat → Nat → Hp → Prop, (∃ m, W 0 m (upd H1 D (.lst []))) ∧ ∀ i m H, W i m H →
      ((Itt K l).stop i H ∧ Qd H) ∨ ((Itt K l).go i H ∧ ∃ Nx : Hp → Prop, (∀ H', Nx H' → ∃ m', m' < m ∧ W (i + 1) m' H') ∧ ∀ x H', (Itt K l).yld i H x H' → g x (wipe σ vs) H' fun σ2 H2 => wipe σ2 vs = wipe σ vs ∧ tt σ2 H2 fun b H3 =>
        if b = true then te σ2 H3 fun y H4 => ∃ acc, H4 D = some (.lst acc) ∧ acc.length < sizeLine ∧ Nx (upd H4 D (.lst (acc ++ [y]))) else Nx H3) := by
  refine lc_tup (xs := xs) (fun i H => ∃ acc, P i acc H ∧ H D = some (.lst acc)) ⟨[], h0, upd_same⟩ (fun i H hi hp => ?_) (fun i x H hi hp => ?_) (fun H hp => ?_)
  · obtain ⟨acc, hp, ha⟩ := hp
    exact hl i acc H hi hp ha
  · obtain ⟨acc, hp, ha⟩ := hp
    exact hs i x acc H _ _ hi hp ha (fun y H4 h1 h2 h3 => ⟨acc, h1, h2, _, h3, upd_same⟩) fun H4 h1 h2 => ⟨acc, h2, h1⟩
  · obtain ⟨acc, hp, ha⟩ := hp
    exact hd acc H hp ha
theorem lcT_new (f : Nat → PyData) (nD : H1 D = none) (hn : xs.length ≤ 1000000) (hx : SqT K H1 l xs)
    (hs : ∀ (i : Nat) (x : V) H (Z : VK) (Y : Hp → Prop), xs[i]? = some x → Same H1 H → (∀ v G H4, Dq G v (f i) → Newly H G → Same G H4 → Same H H4 → Z v H4) → LcTurn g tt te vs σ x H Z Y)
    (hd : ∀ G H, Dq G (.ref D) (.list ((List.range xs.length).map f)) → Newly H1 G → Same G H → Same H1 H → Qd H) :
    ∃ W : Nat → Nat → Hp → Prop, (∃ m, W 0 m (upd H1 D (.lst []))) ∧ ∀ i m H, W i m H →
      ((Itt K l).stop i H ∧ Qd H) ∨ ((Itt K l).go i H ∧ ∃ Nx : Hp → Prop, (∀ H', Nx H' → ∃ m', m' < m ∧ W (i + 1) m' H') ∧ ∀ x H', (Itt K l).yld i H x H' → g x (wipe σ vs) H' fun σ2 H2 => wipe σ2 vs = wipe σ vs ∧ tt σ2 H2 fun b H3 =>
        if b = true then te σ2 H3 fun y H4 => ∃ acc, H4 D = some (.lst acc) ∧ acc.length < sizeLine ∧ Nx (upd H4 D (.lst (acc ++ [y]))) else Nx H3) := by
  refine lcT (xs := xs) (fun i acc H => DqAll (fr [D] H1 H) acc ((List.range i).map f) ∧ acc.length = i ∧ Same H1 H) nD ⟨.nil, rfl, Same.new nD⟩ (fun i acc H _ q _ => Same.seqT q.2.2 hx) ?_ ?_
  · rintro i x acc H Z Y hi ⟨h0, h1, h2⟩ hD hz _
    have hi' : i < xs.length := (List.getElem?_eq_some_iff.mp hi).1
    refine hs i x H Z Y hi h2 fun v G H4 k2 k3 k4 k6 => ?_
    have gD : G D = none := k3.free hD
    refine hz _ _ (k6 _ _ hD) (sz4' (by omega)) ⟨?_, by rw [List.length_append, h1]; rfl, Same.mut (h2.trans k6) nD⟩
    rw [List.range_succ, List.map_append]
    exact DqAll.snoc ((h0.same (fr_mono k6)).same (fr_upd (by simp))) (k2.same (Newly.same1 (k3.back h2) (Same.mut k4 gD) gD))
  · rintro acc H ⟨h0, h1, h2⟩ hD
    exact hd (fr [] H1 H) H (.lst (fr_lk0 nD hD) (h0.same fr_sub)) fr_newly fr_same h2
theorem lcR_new (f : Nat → PyData) (nD : H1 D = none) (hn : n ≤ 1000000)
    (hs : ∀ (i : Nat) H (Z : VK) (Y : Hp → Prop), i < n → Same H1 H → (∀ v G H4, Dq G v (f i) → Newly H G → Same G H4 → Same H H4 → Z v H4) → LcTurn g tt te vs σ (.int (lo + i)) H Z Y)
    (hd : ∀ G H, Dq G (.ref D) (.list ((List.range n).map f)) → Newly H1 G → Same G H → Same H1 H → Qd H) :
    ∃ W : Nat → Nat → Hp → Prop, (∃ m, W 0 m (upd H1 D (.lst []))) ∧ ∀ i m H, W i m H →
      ((Itr lo n).stop i H ∧ Qd H) ∨ ((Itr lo n).go i H ∧ ∃ Nx : Hp → Prop, (∀ H', Nx H' → ∃ m', m' < m ∧ W (i + 1) m' H') ∧ ∀ x H', (Itr lo n).yld i H x H' → g x (wipe σ vs) H' fun σ2 H2 => wipe σ2 vs = wipe σ vs ∧ tt σ2 H2 fun b H3 =>
        if b = true then te σ2 H3 fun y H4 => ∃ acc, H4 D = some (.lst acc) ∧ acc.length < sizeLine ∧ Nx (upd H4 D (.lst (acc ++ [y]))) else Nx H3) := by
  refine lcR (fun i acc H => DqAll (fr [D] H1 H) acc ((List.range i).map f) ∧ acc.length = i ∧ Same H1 H) nD ⟨.nil, rfl, Same.new nD⟩ ?_ ?_
  · rintro i acc H Z Y hi ⟨h0, h1, h2⟩ hD hz _
    refine hs i H Z Y hi h2 fun v G H4 k2 k3 k4 k6 => ?_
    have gD : G D = none := k3.free hD
    refine hz _ _ (k6 _ _ hD) (sz4' (by omega)) ⟨?_, by rw [List.length_append, h1]; rfl, Same.mut (h2.trans k6) nD⟩
    rw [List.range_succ, List.map_append]
    exact DqAll.snoc ((h0.same (fr_mono k6)).same (fr_upd (by simp))) (k2.same (Newly.same1 (k3.back h2) (Same.mut k4 gD) gD))
  · rintro acc H ⟨h0, h1, h2⟩ hD
    exact hd (fr [] H1 H) H (.lst (fr_lk0 nD hD) (h0.same fr_sub)) fr_newly fr_same h2
/-! ### tuple of a list -/
theorem i_tupOfL {p : Addr} (h : SqL K H p xs) (q : ∀ l, H l = none → Q (.ref l) (upd H l (.tup xs))) : rTupleOf K [.ref p] H Q := ⟨p, xs, rfl, .inl ⟨h, q⟩⟩
end
/-! ### how deep data are -/
mutual
def dep : PyData → Nat
  | .list xs => depA xs + 1
  | .tuple xs => depA xs + 1
  | _ => 0
def depA : List PyData → Nat
  | [] => 0
  | d :: ds => max (dep d) (depA ds)
end
/-! how wide -/
mutual
def wid : PyData → Nat
  | .list xs => max xs.length (widA xs)
  | .tuple xs => max xs.length (widA xs)
  | _ => 0
def widA : List PyData → Nat
  | [] => 0
  | d :: ds => max (wid d) (widA ds)
end
theorem widA_mem : ∀ {ds : List PyData} {d : PyData}, d ∈ ds → wid d ≤ widA ds
  | e :: ds, d, h => by
    rw [widA]
    rcases List.mem_cons.mp h with z | z
    · rw [z]; omega
    · have := widA_mem z
      omega
theorem widA_le {k : Nat} : ∀ {ds : List PyData}, (∀ d ∈ ds, wid d ≤ k) → widA ds ≤ k
  | [], _ => Nat.zero_le _
  | e :: ds, h => by
    rw [widA]
    have := h e List.mem_cons_self
    have := widA_le fun d hd => h d (List.mem_cons_of_mem _ hd)
    omega
theorem depA_mem : ∀ {ds : List PyData} {d : PyData}, d ∈ ds → dep d ≤ depA ds
  | e :: ds, d, h => by
    rw [depA]
    rcases List.mem_cons.mp h with z | z
    · rw [z]; omega
    · have := depA_mem z
      omega
theorem depA_le {k : Nat} : ∀ {ds : List PyData}, (∀ d ∈ ds, dep d ≤ k) → depA ds ≤ k
  | [], _ => Nat.zero_le _
  | e :: ds, h => by
    rw [depA]
    have := h e List.mem_cons_self
    have := depA_le fun d hd => h d (List.mem_cons_of_mem _ hd)
    omega
/-- no object at all -/
def noH : Hp := fun _ => none
theorem noH_newly {H : Hp} : Newly H noH := fun _ _ _ => rfl
theorem noH_same {H : Hp} : Same noH H := fun _ _ h => by cases h
theorem rng_get {α : Type} {x : α} (ds : List α) : (List.range ds.length).map (fun i => (ds[i]?).getD x) = ds := by
  apply List.ext_getElem?
  intro i
  rw [List.getElem?_map]
  by_cases c : i < ds.length
  · rw [List.getElem?_range c, List.getElem?_eq_getElem c]
    show some ((ds[i]?).getD x) = _
    rw [List.getElem?_eq_getElem c]
    rfl
  · rw [List.getElem?_eq_none (by rw [List.length_range]; omega), List.getElem?_eq_none (by omega)]
    rfl
/-- int of a truth that is known -/
theorem i_intY {b : Bool} {R : Bool → Prop} {S : Prop} (e : b = true) (q : R true) : S ∨ ∃ k, [V.bl b] = [.bl k] ∧ R k := by
  subst e
  exact .inr ⟨true, rfl, q⟩
theorem i_intN {b : Bool} {R : Bool → Prop} {S : Prop} (e : b = false) (q : R false) : S ∨ ∃ k, [V.bl b] = [.bl k] ∧ R k := by
  subst e
  exact .inr ⟨false, rfl, q⟩
/-! ### data that compare -/
mutual
theorem depth_dep : ∀ {d : PyData}, d.canLay0 = true → d.depth = dep d
  | .none, _ => by simp [PyData.depth, dep]
  | .bool _, _ => by simp [PyData.depth, dep]
  | .int _, _ => by simp [PyData.depth, dep]
  | .str _, _ => by simp [PyData.depth, dep]
  | .list xs, h => by
    have := depthA_dep (ds := xs) (by simpa [PyData.canLay0] using h)
    simp [PyData.depth, dep, this]
  | .tuple xs, h => by
    have := depthA_dep (ds := xs) (by simpa [PyData.canLay0] using h)
    simp [PyData.depth, dep, this]
  | .dict _, h => by simp [PyData.canLay0] at h
theorem depthA_dep : ∀ {ds : List PyData}, PyData.canLayAll0 ds = true → PyData.depthAll ds = depA ds
  | [], _ => by simp [PyData.depthAll, depA]
  | d :: ds, h => by
    rw [PyData.canLayAll0, Bool.and_eq_true] at h
    rw [PyData.depthAll, depA, depth_dep h.1, depthA_dep h.2]
end
theorem shaped_of {d : PyData} (h : d.canLay0 = true) (h2 : dep d ≤ 64) : SeqAt.shaped d = true := by
  unfold SeqAt.shaped
  rw [h, depth_dep h, Bool.true_and, decide_eq_true h2]
theorem lay_all : ∀ {ds : List PyData}, (∀ d ∈ ds, d.canLay0 = true) → PyData.canLayAll0 ds = true
  | [], _ => by simp [PyData.canLayAll0]
  | d :: ds, h => by
    rw [PyData.canLayAll0, h d List.mem_cons_self, lay_all fun e he => h e (List.mem_cons_of_mem _ he)]
    rfl
theorem lay_mem : ∀ {ds : List PyData} {d : PyData}, PyData.canLayAll0 ds = true → d ∈ ds → d.canLay0 = true
  | e :: ds, d, h, hd => by
    rw [PyData.canLayAll0, Bool.and_eq_true] at h
    rcases List.mem_cons.mp hd with z | z
    · rw [z]; exact h.1
    · exact lay_mem h.2 z
theorem lay_plan (r : List Int) : (planD r).canLay0 = true := by simp [planD, PyData.canLay0, canLay_ints]
theorem dep_ints (r : List Int) : depA (r.map PyData.int) = 0 := by
  have := depA_le (k := 0) (ds := r.map PyData.int) fun d hd => by
    obtain ⟨x, _, rfl⟩ := List.mem_map.mp hd
    simp [dep]
  omega
theorem wid_ints (r : List Int) : widA (r.map PyData.int) = 0 := by
  have := widA_le (k := 0) (ds := r.map PyData.int) fun d hd => by
    obtain ⟨x, _, rfl⟩ := List.mem_map.mp hd
    simp [wid]
  omega
theorem dep_plan (r : List Int) : dep (planD r) = 1 := by simp [planD, dep, dep_ints]
theorem wid_plan (r : List Int) : wid (planD r) = r.length := by simp [planD, wid, wid_ints]
theorem dep_rows (rs : List (List Int)) : dep (.list (rs.map planD)) ≤ 2 := by
  have := depA_le (k := 1) (ds := rs.map planD) fun d hd => by
    obtain ⟨x, _, rfl⟩ := List.mem_map.mp hd
    rw [dep_plan]
    omega
  rw [dep]
  omega
theorem wid_rows {k : Nat} (rs : List (List Int)) (h : rs.length ≤ k) (h2 : ∀ r ∈ rs, r.length ≤ k) : wid (.list (rs.map planD)) ≤ k := by
  have := widA_le (k := k) (ds := rs.map planD) fun d hd => by
    obtain ⟨x, hx, rfl⟩ := List.mem_map.mp hd
    rw [wid_plan]
    exact h2 x hx
  rw [wid, List.length_map]
  omega
theorem lay_rows (rs : List (List Int)) : PyData.canLay0 (.list (rs.map planD)) = true := by
  rw [PyData.canLay0]
  exact lay_all fun d hd => by
    obtain ⟨x, _, rfl⟩ := List.mem_map.mp hd
    exact lay_plan x
/-- what is in G, new to H, is apart from what H has -/
theorem Newly.sep {H G G1 : Hp} {p : Addr} {o : HO} (n : Newly H G) (s : Same G1 H) (h : G p = some o) : G1 p = none := by
  cases e : G1 p with
  | none => rfl
  | some u =>
    have := n p u (s _ _ e)
    rw [this] at h
    cases h
theorem Same.updB {G H : Hp} {P : Addr} {o : HO} (s : Same G H) : Same (upd G P o) (upd H P o) := fun b u h => by
  by_cases c : b = P
  · rw [c, upd_same] at h ⊢
    exact h
  · rw [upd_ne c] at h ⊢
    exact s _ _ h
end Hf
/-! ## battles -/
namespace Hf
open PySem PySem.Spec PyProof.Rows L2
inductive Fld where
  | more (w t : Int)
  | lead (w l : Int)
  | tab (rows : List (List Int))
instance : Inhabited Fld := ⟨.more 1 0⟩
def fldD : Fld → PyData
  | .more w t => .tuple [.str (PySem.Str.ofString "more"), .int w, .int t]
  | .lead w l => .tuple [.str (PySem.Str.ofString "lead"), .int w, .int l]
  | .tab rows => .tuple [.str (PySem.Str.ofString "table"), .list (rows.map planD)]
def batD (f s : Int) (fs : List Fld) : PyData := .tuple [.int f, .int s, .list (fs.map fldD)]
def Sm (x : Int) : Prop := -(2 ^ 110) < x ∧ x < 2 ^ 110
def FldOk (f s : Int) : Fld → Prop
  | .more w t => 1 ≤ w ∧ 0 - w ≤ t ∧ t ≤ w
  | .lead w _ => 1 ≤ w
  | .tab rows => (rows.length : Int) = f + 1 ∧ ∀ r ∈ rows, (r.length : Int) = s + 1
/-- its numbers are not great -/
def FldSm : Fld → Prop
  | .more w t => Sm w ∧ Sm t
  | .lead w l => Sm w ∧ Sm l
  | .tab rows => ∀ r ∈ rows, ∀ x ∈ r, Sm x
structure BatOk (f s : Int) (fs : List Fld) : Prop where
  hf : 0 ≤ f ∧ f ≤ 10
  hs : 0 ≤ s ∧ s ≤ 10
  ne : 1 ≤ fs.length ∧ fs.length ≤ 5
  ok : ∀ x ∈ fs, FldOk f s x
def paidV : Fld → Int → Int → Int
  | .more w t, x, y => if x = y then t else if x > y then w else 0 - w
  | .lead w l, x, y => if x ≥ y + l then w else 0 - w
  | .tab rows, x, y => (((rows[x.toNat]?).getD [])[y.toNat]?).getD 0
section
variable {H : Hp} {v : V}
theorem fld_more {w t : Int} (h : Dq H v (fldD (.more w t))) : ∃ a, v = .ref a ∧ H a = some (.tup [.str (PySem.Str.ofString "more"), .int w, .int t]) := by
  obtain ⟨a, xs, rfl, h1, h2⟩ := Dq.tuple_inv h
  cases h2 with
  | cons a b =>
    cases b with
    | cons c d =>
      cases d with
      | cons e f =>
        cases f
        obtain rfl := Dq.str_inv a
        obtain rfl := Dq.int_inv c
        obtain rfl := Dq.int_inv e
        exact ⟨_, rfl, h1⟩
theorem fld_lead {w t : Int} (h : Dq H v (fldD (.lead w t))) : ∃ a, v = .ref a ∧ H a = some (.tup [.str (PySem.Str.ofString "lead"), .int w, .int t]) := by
  obtain ⟨a, xs, rfl, h1, h2⟩ := Dq.tuple_inv h
  cases h2 with
  | cons a b =>
    cases b with
    | cons c d =>
      cases d with
      | cons e f =>
        cases f
        obtain rfl := Dq.str_inv a
        obtain rfl := Dq.int_inv c
        obtain rfl := Dq.int_inv e
        exact ⟨_, rfl, h1⟩
theorem fld_tab {rows : List (List Int)} (h : Dq H v (fldD (.tab rows))) : ∃ a p xs, v = .ref a ∧ H a = some (.tup [.str (PySem.Str.ofString "table"), .ref p]) ∧ H p = some (.lst xs) ∧ DqAll H xs (rows.map planD) := by
  obtain ⟨a, xs, rfl, h1, h2⟩ := Dq.tuple_inv h
  cases h2 with
  | cons a b =>
    cases b with
    | cons c d =>
      cases d
      obtain rfl := Dq.str_inv a
      obtain ⟨p, ys, rfl, h3, h4⟩ := Dq.list_inv c
      exact ⟨_, p, ys, rfl, h1, h3, h4⟩
theorem row_at {xs : List V} {rows : List (List Int)} (q : DqAll H xs (rows.map planD)) {k : Nat} {w : V} (hw : xs[k]? = some w) : ∃ r p, rows[k]? = some r ∧ w = .ref p ∧ H p = some (.lst (r.map V.int)) := by
  obtain ⟨d, e, q⟩ := q.get' hw
  rw [List.getElem?_map] at e
  cases g : rows[k]? with
  | none => rw [g] at e; cases e
  | some r =>
    rw [g] at e
    cases e
    obtain ⟨p, ys, rfl, h3, h4⟩ := Dq.list_inv q
    obtain rfl := DqAll.ints h4
    exact ⟨r, p, rfl, rfl, h3⟩
theorem bat_inv {f s : Int} {fs : List Fld} (h : Dq H v (batD f s fs)) : ∃ a p xs, v = .ref a ∧ H a = some (.tup [.int f, .int s, .ref p]) ∧ H p = some (.lst xs) ∧ DqAll H xs (fs.map fldD) := by
  obtain ⟨a, xs, rfl, h1, h2⟩ := Dq.tuple_inv h
  cases h2 with
  | cons a b =>
    cases b with
    | cons c d =>
      cases d with
      | cons e f =>
        cases f
        obtain rfl := Dq.int_inv a
        obtain rfl := Dq.int_inv c
        obtain ⟨p, ys, rfl, h3, h4⟩ := Dq.list_inv e
        exact ⟨_, p, ys, rfl, h1, h3, h4⟩
theorem fld_at {xs : List V} {fs : List Fld} (q : DqAll H xs (fs.map fldD)) {k : Nat} {w : V} (hw : xs[k]? = some w) : ∃ f, fs[k]? = some f ∧ Dq H w (fldD f) := by
  obtain ⟨d, e, q⟩ := q.get' hw
  rw [List.getElem?_map] at e
  cases g : fs[k]? with
  | none => rw [g] at e; cases e
  | some r =>
    rw [g] at e
    cases e
    exact ⟨r, rfl, q⟩
theorem more_mk {a : Addr} {w t : Int} (h : H a = some (.tup [.str (PySem.Str.ofString "more"), .int w, .int t])) : Dq H (.ref a) (fldD (.more w t)) := .tup h (.cons (.str _) (.cons (.int _) (.cons (.int _) .nil)))
theorem lead_mk {a : Addr} {w t : Int} (h : H a = some (.tup [.str (PySem.Str.ofString "lead"), .int w, .int t])) : Dq H (.ref a) (fldD (.lead w t)) := .tup h (.cons (.str _) (.cons (.int _) (.cons (.int _) .nil)))
theorem tab_mk {a p : Addr} {xs : List V} {rows : List (List Int)} (h : H a = some (.tup [.str (PySem.Str.ofString "table"), .ref p])) (h1 : H p = some (.lst xs)) (h2 : DqAll H xs (rows.map planD)) : Dq H (.ref a) (fldD (.tab rows)) := .tup h (.cons (.str _) (.cons (.lst h1 h2) .nil))
theorem tab_mk' {a : Addr} {v : V} {rows : List (List Int)} (h : H a = some (.tup [.str (PySem.Str.ofString "table"), v])) (h1 : Dq H v (.list (rows.map planD))) : Dq H (.ref a) (fldD (.tab rows)) := .tup h (.cons (.str _) (.cons h1 .nil))
theorem bat_mk' {a : Addr} {v : V} {f s : Int} {fs : List Fld} (h : H a = some (.tup [.int f, .int s, v])) (h1 : Dq H v (.list (fs.map fldD))) : Dq H (.ref a) (batD f s fs) := .tup h (.cons (.int _) (.cons (.int _) (.cons h1 .nil)))
theorem bat_mk {a p : Addr} {xs : List V} {f s : Int} {fs : List Fld} (h : H a = some (.tup [.int f, .int s, .ref p])) (h1 : H p = some (.lst xs)) (h2 : DqAll H xs (fs.map fldD)) : Dq H (.ref a) (batD f s fs) := .tup h (.cons (.int _) (.cons (.int _) (.cons (.lst h1 h2) .nil)))
theorem row_mk {p : Addr} {r : List Int} (h : H p = some (.lst (r.map V.int))) : Dq H (.ref p) (planD r) := .lst h (dq_ints r)
end
theorem BatOk.at {f s : Int} {fs : List Fld} (k : BatOk f s fs) {i : Nat} {x : Fld} (e : fs[i]? = some x) : FldOk f s x := k.ok x (List.mem_of_getElem? e)
theorem DqAll.rep {H : Hp} {v : V} {d : PyData} (h : Dq H v d) : ∀ n : Nat, DqAll H (List.replicate n v) (List.replicate n d)
  | 0 => .nil
  | n + 1 => .cons h (DqAll.rep h n)
theorem lay_fld (fl : Fld) : (fldD fl).canLay0 = true := by
  cases fl with
  | more w t => simp [fldD, PyData.canLay0, PyData.canLayAll0]; decide +kernel
  | lead w t => simp [fldD, PyData.canLay0, PyData.canLayAll0]; decide +kernel
  | tab rows =>
    simp [fldD, PyData.canLay0, PyData.canLayAll0, lay_rows]
    exact ⟨by decide +kernel, by have := lay_rows rows; rwa [PyData.canLay0] at this⟩
theorem lay_bat (f s : Int) (fs : List Fld) : (batD f s fs).canLay0 = true := by
  have : PyData.canLay0 (.list (fs.map fldD)) = true := by
    rw [PyData.canLay0]
    exact lay_all fun d hd => by
      obtain ⟨x, _, rfl⟩ := List.mem_map.mp hd
      exact lay_fld x
  rw [PyData.canLay0] at this
  simp [batD, PyData.canLay0, PyData.canLayAll0, this]
theorem dep_fld (fl : Fld) : dep (fldD fl) ≤ 3 := by
  cases fl with
  | more w t => simp [fldD, dep, depA]
  | lead w t => simp [fldD, dep, depA]
  | tab rows =>
    have := dep_rows rows
    simp only [fldD, dep, depA] at this ⊢
    omega
theorem dep_bat (f s : Int) (fs : List Fld) : dep (batD f s fs) ≤ 5 := by
  have := depA_le (k := 3) (ds := fs.map fldD) fun d hd => by
    obtain ⟨x, _, rfl⟩ := List.mem_map.mp hd
    exact dep_fld x
  simp only [batD, dep, depA] at this ⊢
  omega
theorem wid_fld {f s : Int} {fl : Fld} (hf : f ≤ 10) (hs : s ≤ 10) (k : FldOk f s fl) : wid (fldD fl) ≤ 20 := by
  cases fl with
  | more w t => rw [fldD]; simp [wid, widA]
  | lead w t => rw [fldD]; simp [wid, widA]
  | tab rows =>
    obtain ⟨h1, h2⟩ := k
    have := wid_rows (k := 20) rows (by omega) (fun r hr => by have := h2 r hr; omega)
    simp only [fldD, wid, widA, List.length_cons, List.length_nil] at this ⊢
    omega
theorem wid_bat {f s : Int} {fs : List Fld} (hf : f ≤ 10) (hs : s ≤ 10) (hl : fs.length ≤ 20) (k : ∀ x ∈ fs, FldOk f s x) : wid (batD f s fs) ≤ 20 := by
  have := widA_le (k := 20) (ds := fs.map fldD) fun d hd => by
    obtain ⟨x, hx, rfl⟩ := List.mem_map.mp hd
    exact wid_fld hf hs (k x hx)
  simp only [batD, wid, widA, List.length_cons, List.length_nil, List.length_map] at this ⊢
  omega
theorem shaped_bat (f s : Int) (fs : List Fld) : SeqAt.shaped (batD f s fs) = true := shaped_of (lay_bat f s fs) (Nat.le_trans (dep_bat f s fs) (by decide))
/-- a row changed through its address, whichever rows it is -/
theorem rows_set {G : Hp} {xs : List V} {rs : List (List Int)} {P : Addr} {r r' : List Int} (q : DqAll G xs (rs.map planD)) (hP : G P = some (.lst (r.map V.int))) (hl : r'.length = r.length) :
    ∃ rs' : List (List Int), DqAll (upd G P (.lst (r'.map V.int))) xs (rs'.map planD) ∧ rs'.length = rs.length ∧ ∀ L, (∀ z ∈ rs, z.length = L) → ∀ z ∈ rs', z.length = L := by
  induction rs generalizing xs with
  | nil =>
    cases q
    exact ⟨[], .nil, rfl, fun _ _ => nofun⟩
  | cons r0 rs ih =>
    cases q with
    | cons h q =>
      obtain ⟨rs', g1, g2, g3⟩ := ih q
      obtain ⟨p, ys, rfl, h3, h4⟩ := Dq.list_inv h
      obtain rfl := DqAll.ints h4
      by_cases c : p = P
      · subst c
        refine ⟨r' :: rs', .cons (row_mk upd_same) g1, by rw [List.length_cons, g2, List.length_cons], fun L hL z hz => ?_⟩
        rcases List.mem_cons.mp hz with e | e
        · rw [h3] at hP
          have e2 := congrArg List.length (HO.lst.inj (Option.some.inj hP))
          rw [List.length_map, List.length_map] at e2
          rw [e, hl, ← e2]
          exact hL r0 List.mem_cons_self
        · exact g3 L (fun z hz => hL z (List.mem_cons_of_mem _ hz)) z e
      · refine ⟨r0 :: rs', .cons (row_mk (lk_upd c h3)) g1, by rw [List.length_cons, g2, List.length_cons], fun L hL z hz => ?_⟩
        rcases List.mem_cons.mp hz with e | e
        · rw [e]; exact hL r0 List.mem_cons_self
        · exact g3 L (fun z hz => hL z (List.mem_cons_of_mem _ hz)) z e
/-! ### what is won -/
def fldAt (fs : List Fld) (k : Int) : Fld := (fs[k.toNat]?).getD default
def nAt (ms : List Int) (k : Int) : Int := (ms[k.toNat]?).getD 0
def gainV (fs : List Fld) (ms ns : List Int) : Int := ((List.range fs.length).map fun i : Nat => paidV (fldAt fs i) (nAt ms i) (nAt ns i)).sum
def RiseP (fl : Fld) (f s : Int) : Prop := ∀ x y : Int, 0 ≤ x → x ≤ f → 0 ≤ y → y ≤ s → (x < f → paidV fl x y ≤ paidV fl (x + 1) y) ∧ (y < s → paidV fl x (y + 1) ≤ paidV fl x y)
def RiseA (fs : List Fld) (f s : Int) : Prop := ∀ x ∈ fs, RiseP x f s
def PlainF : Fld → Prop
  | .tab _ => False
  | _ => True
theorem rise_plain {f s : Int} {fl : Fld} (k : FldOk f s fl) (h : PlainF fl) : RiseP fl f s := by
  intro x y _ _ _ _
  cases fl with
  | more w t =>
    obtain ⟨h1, h2, h3⟩ := k
    refine ⟨fun _ => ?_, fun _ => ?_⟩
    · show (if x = y then t else if x > y then w else 0 - w) ≤ (if x + 1 = y then t else if x + 1 > y then w else 0 - w)
      split <;> split <;> (try split) <;> (try split) <;> omega
    · show (if x = y + 1 then t else if x > y + 1 then w else 0 - w) ≤ (if x = y then t else if x > y then w else 0 - w)
      split <;> split <;> (try split) <;> (try split) <;> omega
  | lead w l =>
    have h1 : 1 ≤ w := k
    refine ⟨fun _ => ?_, fun _ => ?_⟩
    · show (if x ≥ y + l then w else 0 - w) ≤ (if x + 1 ≥ y + l then w else 0 - w)
      split <;> split <;> omega
    · show (if x ≥ y + 1 + l then w else 0 - w) ≤ (if x ≥ y + l then w else 0 - w)
      split <;> split <;> omega
  | tab _ => exact h.elim
theorem rise_pw {fl : Fld} {f s y : Int} (h : RiseP fl f s) (hy : 0 ≤ y ∧ y ≤ s) : ∀ n : Nat, (n : Int) ≤ f + 1 → ((List.range n).map fun i : Nat => paidV fl i y).Pairwise fun a b => a ≤ b := by
  have mono : ∀ d i : Nat, ((i + d : Nat) : Int) ≤ f → paidV fl i y ≤ paidV fl ((i + d : Nat) : Int) y := by
    intro d
    induction d with
    | zero => intro i _; exact Int.le_refl _
    | succ d ih =>
      intro i hi
      have h1 := ih i (by omega)
      have h2 := (h ((i + d : Nat) : Int) y (by omega) (by omega) hy.1 hy.2).1 (by omega)
      have e : ((i + (d + 1) : Nat) : Int) = ((i + d : Nat) : Int) + 1 := rfl
      rw [e]
      omega
  intro n hn
  rw [List.pairwise_map]
  refine List.Pairwise.imp_of_mem ?_ (List.pairwise_lt_range (n := n))
  intro a b ha hb hab
  have := mono (b - a) a (by have := List.mem_range.mp hb; omega)
  rw [show a + (b - a) = b by omega] at this
  exact this
def EvenP (fs : List Fld) (f s : Int) : Prop := f = s ∧ ∀ fl ∈ fs, ∀ x y : Int, 0 ≤ x → x ≤ f → 0 ≤ y → y ≤ x → paidV fl x y = 0 - paidV fl y x
/-! ### the sides exchanged -/
def exF (s : Int) : Fld → Fld
  | .more w t => .more w (0 - t)
  | .lead w l => .lead w (1 - l)
  | .tab rows => .tab ((List.range (s + 1).toNat).map fun y => rows.map fun r => 0 - (r[y]?).getD 0)
theorem exF_ok {f s : Int} {fl : Fld} (hf : 0 ≤ f) (hs : 0 ≤ s) (k : FldOk f s fl) : FldOk s f (exF s fl) := by
  cases fl with
  | more w t =>
    obtain ⟨h1, h2, h3⟩ := k
    exact ⟨h1, by omega, by omega⟩
  | lead w l => exact k
  | tab rows =>
    obtain ⟨h1, h2⟩ := k
    refine ⟨?_, ?_⟩
    · rw [List.length_map, List.length_range]
      omega
    · intro r hr
      obtain ⟨y, _, rfl⟩ := List.mem_map.mp hr
      rw [List.length_map]
      exact h1
theorem ex_ok {f s : Int} {fs : List Fld} (k : BatOk f s fs) : BatOk s f (fs.map (exF s)) := ⟨k.hs, k.hf, by rw [List.length_map]; exact k.ne, fun x hx => by
  obtain ⟨y, hy, rfl⟩ := List.mem_map.mp hx
  exact exF_ok k.hf.1 k.hs.1 (k.ok y hy)⟩
theorem ex_paid {f s : Int} {fl : Fld} (k : FldOk f s fl) {x y : Int} (hx : 0 ≤ x ∧ x ≤ f) (hy : 0 ≤ y ∧ y ≤ s) : paidV (exF s fl) y x = 0 - paidV fl x y := by
  cases fl with
  | more w t =>
    show (if y = x then 0 - t else if y > x then w else 0 - w) = 0 - (if x = y then t else if x > y then w else 0 - w)
    split <;> split <;> (try split) <;> (try split) <;> omega
  | lead w l =>
    show (if y ≥ x + (1 - l) then w else 0 - w) = 0 - (if x ≥ y + l then w else 0 - w)
    split <;> split <;> omega
  | tab rows =>
    obtain ⟨h1, h2⟩ := k
    show (((((List.range (s + 1).toNat).map fun y => rows.map fun r => 0 - (r[y]?).getD 0)[y.toNat]?).getD [])[x.toNat]?).getD 0 = 0 - ((((rows[x.toNat]?).getD [])[y.toNat]?).getD 0)
    rw [List.getElem?_map, List.getElem?_range (by omega)]
    show (((rows.map fun r => 0 - (r[y.toNat]?).getD 0)[x.toNat]?).getD 0) = _
    rw [List.getElem?_map]
    have hx' : x.toNat < rows.length := by omega
    rw [List.getElem?_eq_getElem hx']
    rfl
theorem ex_rise1 {f s : Int} {fl : Fld} (k : FldOk f s fl) (h : RiseP fl f s) : RiseP (exF s fl) s f := by
  intro y x h1 h2 h3 h4
  obtain ⟨g1, g2⟩ := h x y h3 h4 h1 h2
  refine ⟨fun c => ?_, fun c => ?_⟩
  · rw [ex_paid k ⟨h3, h4⟩ ⟨h1, h2⟩, ex_paid k ⟨h3, h4⟩ (y := y + 1) (by omega)]
    have := g2 c
    omega
  · rw [ex_paid k ⟨h3, h4⟩ ⟨h1, h2⟩, ex_paid k (x := x + 1) (by omega) ⟨h1, h2⟩]
    have := g1 c
    omega
theorem ex_rise2 {f s : Int} {fl : Fld} (k : FldOk f s fl) (h : RiseP (exF s fl) s f) : RiseP fl f s := by
  intro x y h1 h2 h3 h4
  obtain ⟨g1, g2⟩ := h y x h3 h4 h1 h2
  refine ⟨fun c => ?_, fun c => ?_⟩
  · have := g2 c
    rw [ex_paid k ⟨h1, h2⟩ ⟨h3, h4⟩, ex_paid k (x := x + 1) (by omega) ⟨h3, h4⟩] at this
    omega
  · have := g1 c
    rw [ex_paid k ⟨h1, h2⟩ ⟨h3, h4⟩, ex_paid k ⟨h1, h2⟩ (y := y + 1) (by omega)] at this
    omega
theorem ex_rise {f s : Int} {fs : List Fld} (k : BatOk f s fs) : RiseA (fs.map (exF s)) s f ↔ RiseA fs f s := by
  refine ⟨fun h x hx => ex_rise2 (k.ok x hx) (h _ (List.mem_map_of_mem hx)), fun h x hx => ?_⟩
  obtain ⟨y, hy, rfl⟩ := List.mem_map.mp hx
  exact ex_rise1 (k.ok y hy) (h y hy)
theorem ex_even {f s : Int} {fs : List Fld} (k : BatOk f s fs) : EvenP (fs.map (exF s)) s f ↔ EvenP fs f s := by
  refine ⟨fun h => ⟨h.1.symm, fun fl hfl x y h1 h2 h3 h4 => ?_⟩, fun h => ⟨h.1.symm, fun fl hfl x y h1 h2 h3 h4 => ?_⟩⟩
  · have := h.2 _ (List.mem_map_of_mem hfl) x y h1 (by have := h.1; omega) h3 h4
    have e := h.1
    rw [ex_paid (k.ok fl hfl) (x := y) (by omega) (by omega), ex_paid (k.ok fl hfl) (x := x) (by omega) (by omega)] at this
    omega
  · obtain ⟨fl', hf', rfl⟩ := List.mem_map.mp hfl
    have e := h.1
    have := h.2 _ hf' x y h1 (by omega) h3 h4
    rw [ex_paid (k.ok fl' hf') (x := y) (by omega) (by omega), ex_paid (k.ok fl' hf') (x := x) (by omega) (by omega)]
    omega
theorem sum_neg : ∀ (n : Nat) (g h : Nat → Int), (∀ i, i < n → h i = 0 - g i) → ((List.range n).map h).sum = 0 - ((List.range n).map g).sum := by
  intro n
  induction n with
  | zero => intro g h _; rfl
  | succ n ih =>
    intro g h e
    rw [List.range_succ, List.map_append, List.map_append, List.sum_append, List.sum_append, ih g h fun i hi => e i (by omega)]
    simp only [List.map_cons, List.map_nil, List.sum_cons, List.sum_nil]
    have := e n (by omega)
    omega
theorem plan_le {h : Int} {n : Nat} {p : List Int} (k : PlanC h n p) (i : Int) : 0 ≤ nAt p i ∧ nAt p i ≤ h := by
  have key : ∀ q : List Int, (∀ x ∈ q, 0 ≤ x) → 0 ≤ q.sum ∧ ∀ x ∈ q, x ≤ q.sum := by
    intro q
    induction q with
    | nil => intro _; exact ⟨Int.le_refl _, nofun⟩
    | cons x q ih =>
      intro g
      obtain ⟨e1, e2⟩ := ih fun z hz => g z (List.mem_cons_of_mem _ hz)
      have := g x (List.mem_cons_self)
      rw [List.sum_cons]
      refine ⟨by omega, fun z hz => ?_⟩
      rcases List.mem_cons.mp hz with e | e
      · omega
      · have := e2 z e
        omega
  obtain ⟨k1, k2, k3⟩ := k
  obtain ⟨e1, e2⟩ := key p k3
  unfold nAt
  cases g : p[i.toNat]? with
  | none => exact ⟨Int.le_refl _, by show 0 ≤ h; omega⟩
  | some z =>
    have hz := List.mem_of_getElem? g
    exact ⟨k3 z hz, by have := e2 z hz; show z ≤ h; omega⟩
theorem fldAt_ex {s : Int} {fs : List Fld} {i : Int} (hi : i.toNat < fs.length) : fldAt (fs.map (exF s)) i = exF s (fldAt fs i) := by
  unfold fldAt
  rw [List.getElem?_map, List.getElem?_eq_getElem hi]
  rfl
theorem fldAt_ok {f s : Int} {fs : List Fld} (k : BatOk f s fs) {i : Int} (hi : i.toNat < fs.length) : FldOk f s (fldAt fs i) := by
  unfold fldAt
  rw [List.getElem?_eq_getElem hi]
  exact k.ok _ (List.getElem_mem _)
theorem ex_gain {f s : Int} {fs : List Fld} (k : BatOk f s fs) {ms ns : List Int} (h1 : PlanC f fs.length ms) (h2 : PlanC s fs.length ns) : gainV (fs.map (exF s)) ns ms = 0 - gainV fs ms ns := by
  unfold gainV
  rw [List.length_map]
  refine sum_neg _ _ _ fun i hi => ?_
  have e : fldAt (fs.map (exF s)) i = exF s (fldAt fs i) := by
    unfold fldAt
    rw [List.getElem?_map, List.getElem?_eq_getElem (show (i : Int).toNat < fs.length by omega)]
    rfl
  have hk : FldOk f s (fldAt fs i) := by
    unfold fldAt
    rw [List.getElem?_eq_getElem (show (i : Int).toNat < fs.length by omega)]
    exact k.ok _ (List.getElem_mem _)
  rw [e]
  exact ex_paid hk (plan_le h1 i) (plan_le h2 i)
/-! ### min of three -/
def rMin3 : List V → Hp → VK → Prop := fun xs H Q => ∃ i j k, xs = [.int i, .int j, .int k] ∧ Q (.int (if j < i then (if k < j then k else j) else (if k < i then k else i))) H
theorem call_min3I {X : Cx} (hc : X.calm = true) : CallR X (.builtin "min") rMin3 := by
  intro pins s σ H xs us Q I r h
  obtain ⟨i, j, k, rfl, q⟩ := h
  cases r with
  | cons r1 r =>
    cases r with
    | cons r2 r =>
      cases r with
      | cons r3 r =>
        cases r
        obtain ⟨t1, rfl⟩ := r1
        obtain ⟨t2, rfl⟩ := r2
        obtain ⟨t3, rfl⟩ := r3
        refine min_three_ints (I.ok.hd hc) fun h' tk kk => ⟨_, H, I.kept kk, ?_, q⟩
        split <;> split <;> exact ⟨_, rfl⟩
theorem i_min3 {i j k : Int} {H : Hp} {Q : VK} (q : Q (.int (if j < i then (if k < j then k else j) else (if k < i then k else i))) H) : rMin3 [.int i, .int j, .int k] H Q := ⟨i, j, k, rfl, q⟩
end Hf
/-! ## data whose lists are known by their places: marks -/
namespace Hf
open PySem PySem.Spec PyProof.Rows L2
def mkS : Str := PySem.Str.ofString "mark"
mutual
inductive Ow (H : Hp) : V → PyData → List Addr → Prop
  | non : Ow H .non .none []
  | bl (b : Bool) : Ow H (.bl b) (.bool b) []
  | int (i : Int) : Ow H (.int i) (.int i) []
  | str (x : Str) : Ow H (.str x) (.str x) []
  | lst {a : Addr} {xs : List V} {ds : List PyData} {S : List Addr} : H a = some (.lst xs) → OwAll H xs ds S → Ow H (.ref a) (.list ds) (a :: S)
  | tup {a : Addr} {xs : List V} {ds : List PyData} {S : List Addr} : H a = some (.tup xs) → OwAll H xs ds S → Ow H (.ref a) (.tuple ds) S
inductive OwAll (H : Hp) : List V → List PyData → List Addr → Prop
  | nil : OwAll H [] [] []
  | cons {v : V} {vs : List V} {d : PyData} {ds : List PyData} {S S' : List Addr} : Ow H v d S → OwAll H vs ds S' → OwAll H (v :: vs) (d :: ds) (S ++ S')
end
/-! every list with one thing more -/
mutual
def mk : PyData → PyData
  | .list ds => .list (mkA ds ++ [.str mkS])
  | .tuple ds => .tuple (mkA ds)
  | d => d
def mkA : List PyData → List PyData
  | [] => []
  | d :: ds => mk d :: mkA ds
end
/-! no text "mark" within -/
mutual
def noM : PyData → Bool
  | .list ds => noMA ds
  | .tuple ds => noMA ds
  | .str x => !(x == mkS)
  | _ => true
def noMA : List PyData → Bool
  | [] => true
  | d :: ds => noM d && noMA ds
end
section
variable {H H' : Hp} {v : V} {vs ws : List V} {d : PyData} {ds es : List PyData} {S S' T : List Addr}
mutual
theorem Ow.dq : ∀ {v : V} {d : PyData} {S : List Addr}, Ow H v d S → Dq H v d
  | _, _, _, .non => .non
  | _, _, _, .bl b => .bl b
  | _, _, _, .int i => .int i
  | _, _, _, .str x => .str x
  | _, _, _, .lst h q => .lst h (OwAll.dq q)
  | _, _, _, .tup h q => .tup h (OwAll.dq q)
theorem OwAll.dq : ∀ {vs : List V} {ds : List PyData} {S : List Addr}, OwAll H vs ds S → DqAll H vs ds
  | _, _, _, .nil => .nil
  | _, _, _, .cons h q => .cons (Ow.dq h) (OwAll.dq q)
end
/-- what is kept at all places but those of T -/
def Kp (T : List Addr) (H H' : Hp) : Prop := ∀ b o, b ∉ T → H b = some o → H' b = some o
theorem Kp.refl : Kp T H H := fun _ _ _ h => h
theorem Kp.same (s : Same H H') : Kp T H H' := fun b o _ h => s b o h
theorem Kp.trans {H2 : Hp} (x : Kp T H H') (y : Kp T H' H2) : Kp T H H2 := fun b o n h => y b o n (x b o n h)
theorem Kp.sub (x : Kp S H H') (h : ∀ b, b ∈ S → b ∈ T) : Kp T H H' := fun b o n e => x b o (fun z => n (h b z)) e
theorem Kp.upd {a : Addr} {o : HO} (ha : a ∈ T) (x : Kp T H H') : Kp T H (L2.upd H' a o) := fun b u n h => by
  rw [upd_ne (fun e => n (by rw [e]; exact ha))]
  exact x b u n h
mutual
/-- lists are not tuples: what changes the lists of T alone keeps the data whose lists are apart -/
theorem Ow.kp (hT : ∀ b xs, b ∈ T → H b ≠ some (.tup xs)) (k : Kp T H H') : ∀ {v : V} {d : PyData} {S : List Addr}, Ow H v d S → (∀ b, b ∈ S → b ∉ T) → Ow H' v d S
  | _, _, _, .non, _ => .non
  | _, _, _, .bl b, _ => .bl b
  | _, _, _, .int i, _ => .int i
  | _, _, _, .str x, _ => .str x
  | _, _, _, .lst h q, n => .lst (k _ _ (n _ List.mem_cons_self) h) (OwAll.kp hT k q fun b hb => n b (List.mem_cons_of_mem _ hb))
  | _, _, _, .tup h q, n => .tup (k _ _ (fun z => hT _ _ z h) h) (OwAll.kp hT k q n)
theorem OwAll.kp (hT : ∀ b xs, b ∈ T → H b ≠ some (.tup xs)) (k : Kp T H H') : ∀ {vs : List V} {ds : List PyData} {S : List Addr}, OwAll H vs ds S → (∀ b, b ∈ S → b ∉ T) → OwAll H' vs ds S
  | _, _, _, .nil, _ => .nil
  | _, _, _, .cons h q, n => .cons (Ow.kp hT k h fun b hb => n b (List.mem_append.mpr (.inl hb))) (OwAll.kp hT k q fun b hb => n b (List.mem_append.mpr (.inr hb)))
end
mutual
theorem Ow.lists : ∀ {v : V} {d : PyData} {S : List Addr}, Ow H v d S → ∀ b, b ∈ S → ∃ xs, H b = some (.lst xs)
  | _, _, _, .lst h q, b, hb => by
    rcases List.mem_cons.mp hb with e | e
    · subst e; exact ⟨_, h⟩
    · exact OwAll.lists q b e
  | _, _, _, .tup _ q, b, hb => OwAll.lists q b hb
theorem OwAll.lists : ∀ {vs : List V} {ds : List PyData} {S : List Addr}, OwAll H vs ds S → ∀ b, b ∈ S → ∃ xs, H b = some (.lst xs)
  | _, _, _, .cons h q, b, hb => by
    rcases List.mem_append.mp hb with e | e
    · exact Ow.lists h b e
    · exact OwAll.lists q b e
end
mutual
theorem Ow.same (s : Same H H') : ∀ {v : V} {d : PyData} {S : List Addr}, Ow H v d S → Ow H' v d S
  | _, _, _, .non => .non
  | _, _, _, .bl b => .bl b
  | _, _, _, .int i => .int i
  | _, _, _, .str x => .str x
  | _, _, _, .lst h q => .lst (s _ _ h) (OwAll.same s q)
  | _, _, _, .tup h q => .tup (s _ _ h) (OwAll.same s q)
theorem OwAll.same (s : Same H H') : ∀ {vs : List V} {ds : List PyData} {S : List Addr}, OwAll H vs ds S → OwAll H' vs ds S
  | _, _, _, .nil => .nil
  | _, _, _, .cons h q => .cons (Ow.same s h) (OwAll.same s q)
end
theorem OwAll.snoc : ∀ {vs : List V} {ds : List PyData} {S S' : List Addr} {w : V} {d : PyData}, OwAll H vs ds S → Ow H w d S' → OwAll H (vs ++ [w]) (ds ++ [d]) (S ++ S')
  | _, _, _, S', _, _, .nil, h => by
    have := OwAll.cons h .nil
    rw [List.append_nil] at this
    exact this
  | _, _, _, _, _, _, .cons h q, g => by
    rw [List.append_assoc]
    exact .cons h (OwAll.snoc q g)
theorem OwAll.len : ∀ {vs : List V} {ds : List PyData} {S : List Addr}, OwAll H vs ds S → vs.length = ds.length
  | _, _, _, .nil => rfl
  | _, _, _, .cons _ q => by rw [List.length_cons, List.length_cons, OwAll.len q]
/-- cut at a place -/
theorem OwAll.cut : ∀ {vs : List V} {ds : List PyData} {S : List Addr}, OwAll H vs ds S → ∀ {k : Nat} {w : V}, vs[k]? = some w →
    ∃ S1 S2 S3 d, ds[k]? = some d ∧ S = S1 ++ (S2 ++ S3) ∧ OwAll H (vs.take k) (ds.take k) S1 ∧ Ow H w d S2 ∧ OwAll H (vs.drop (k + 1)) (ds.drop (k + 1)) S3
  | _, _, _, .nil, k, w, h => by simp at h
  | _, _, _, .cons (S := S) (S' := S') (d := d) h q, 0, w, e => by
    rw [List.getElem?_cons_zero] at e
    cases e
    exact ⟨[], S, S', d, rfl, rfl, .nil, h, q⟩
  | _, _, _, .cons (S := S) (S' := S') h q, k + 1, w, e => by
    rw [List.getElem?_cons_succ] at e
    obtain ⟨S1, S2, S3, d, h1, h2, h3, h4, h5⟩ := OwAll.cut q e
    exact ⟨S ++ S1, S2, S3, d, by rw [List.getElem?_cons_succ]; exact h1, by rw [h2, List.append_assoc], .cons h h3, h4, h5⟩
theorem mkA_map : ∀ ds : List PyData, mkA ds = ds.map mk
  | [] => rfl
  | d :: ds => by rw [mkA, List.map_cons, mkA_map ds]
theorem noMA_mem : ∀ {ds : List PyData} {d : PyData}, noMA ds = true → d ∈ ds → noM d = true
  | e :: ds, d, h, hd => by
    rw [noMA, Bool.and_eq_true] at h
    rcases List.mem_cons.mp hd with z | z
    · rw [z]; exact h.1
    · exact noMA_mem h.2 z
/-- how many marks stand among data -/
def cntM (ds : List PyData) : Nat := (ds.filter fun d => match d with | .str x => x == mkS | _ => false).length
theorem cntM_mk : ∀ {ds : List PyData}, noMA ds = true → cntM (mkA ds) = 0
  | [], _ => rfl
  | d :: ds, h => by
    rw [noMA, Bool.and_eq_true] at h
    have ih := cntM_mk h.2
    unfold cntM at ih ⊢
    rw [mkA, List.filter_cons]
    have : (match mk d with | .str x => x == mkS | _ => false) = false := by
      have h1 := h.1
      cases d <;> simp [mk] <;> simp [noM] at h1
      exact h1
    rw [this]
    exact ih
end
/-! ### isinstance by two classes -/
theorem call_isiTK {X : Cx} (K : PySem.W.Frag) (e : X.K = K) : CallR X (.builtin "isinstance") (rIsiT K) := by subst e; exact call_isiT
theorem kit_two {K : PySem.W.Frag} {t c1 c2 : String} {b1 b2 : Bool} (h1 : kitB t c1 = some b1) (h2 : kitB t c2 = some b2) : PySem.W.kitAny K (.type t) [.type c1, .type c2] = some (b1 || b2) := by
  refine kitAny_cons (kit_ty h1) (fun e => ?_) (fun e => by rw [e]; rfl)
  rw [e, Bool.false_or]
  refine kitAny_cons (kit_ty h2) (fun e => ?_) (fun e => e)
  rw [e]
  rfl
theorem i_isiT2 {K : PySem.W.Frag} {H : Hp} {Q : VK} {x : V} {tp : Addr} {t c1 c2 : String} {b1 b2 : Bool} (hT : H tp = some (.tup [.ty c1, .ty c2])) (ty : TyX K H x (.type t)) (h1 : kitB t c1 = some b1) (h2 : kitB t c2 = some b2) (q : Q (.bl (b1 || b2)) H) : rIsiT K [x, .ref tp] H Q :=
  ⟨x, tp, _, _, _, _, rfl, hT, .cons (.ty _) (.cons (.ty _) .nil), ty, kit_two h1 h2, q⟩
/-! ### how often a text stands among data -/
def isS (y : Str) : PyData → Bool
  | .str z => z == y
  | _ => false
def rCntS (K : PySem.W.Frag) : V → List V → Hp → VK → Prop := fun x xs H Q => ∃ (p : Addr) (ys : List V) (y : Str) (ds : List PyData), x = .ref p ∧ xs = [.str y] ∧ SqL K H p ys ∧ DpAll K H ys ds ∧ PyData.canLayAll0 ds = true ∧ PyData.strOk y = true ∧ Q (.int (ds.countP (isS y) : Nat)) H
theorem one_cntS {X : Cx} {pins : List (Addr × Obj)} {s : Shared} {σ : L2.St} {H : Hp} (I : Inv X pins σ H s) {A : Around} (hu : A.units < cLine) {y : Str} {t : Tok} (hy : PyData.strOk y = true) {v : V} {d : PyData} {u : Value} (hd : Dp X.K H v d) (r : RelV v u) (hl : d.canLay0 = true) :
    SeqAt.EqAt A s u (.str y t) (eqU (.str y) u) ∧ eqU (.str y) u = isS y d := by
  have e : eqU (.str y) u = isS y d ∧ PyData.eqv d (.str y) = isS y d := by
    cases hd with
    | non => cases r; exact ⟨rfl, by simp [PyData.eqv, isS]⟩
    | bl b => cases r; exact ⟨rfl, by simp [PyData.eqv, isS]⟩
    | int i => obtain ⟨t, rfl⟩ := r; exact ⟨rfl, by simp [PyData.eqv, isS]⟩
    | str x => obtain ⟨t, rfl⟩ := r; exact ⟨rfl, by simp [PyData.eqv, isS]⟩
    | lst h q => cases r; exact ⟨rfl, by simp [PyData.eqv, isS]⟩
    | tup h q => cases r; exact ⟨rfl, by simp [PyData.eqv, isS]⟩
  obtain ⟨as, r1⟩ := Dp.reads I d v u hd r
  obtain ⟨bs, r2⟩ := Dp.reads I (.str y) (.str y) (.str y t) (.str y) ⟨t, rfl⟩
  refine ⟨?_, e.1⟩
  rw [e.1, ← e.2]
  exact SeqAt.eqAt_reads d (.str y) A s u (.str y t) as bs r1 r2 hl (by simpa [PyData.canLay0] using hy) (by simp [PyData.depth]; omega)
theorem all_cntS {X : Cx} {pins : List (Addr × Obj)} {s : Shared} {σ : L2.St} {H : Hp} (I : Inv X pins σ H s) {A : Around} (hu : A.units < cLine) {y : Str} {t : Tok} (hy : PyData.strOk y = true) : ∀ {ys : List V} {ds : List PyData} {us : List Value}, DpAll X.K H ys ds → Vals ys us → PyData.canLayAll0 ds = true →
    (∀ u ∈ us, SeqAt.EqAt A s u (.str y t) (eqU (.str y) u)) ∧ us.countP (eqU (.str y)) = ds.countP (isS y)
  | [], [], [], .nil, .nil, _ => ⟨nofun, rfl⟩
  | v :: ys, d :: ds, u :: us, .cons h q, .cons r rs, hl => by
    rw [PyData.canLayAll0, Bool.and_eq_true] at hl
    obtain ⟨h1, h2⟩ := one_cntS I hu (t := t) hy h r hl.1
    obtain ⟨h3, h4⟩ := all_cntS I hu (t := t) hy q rs hl.2
    refine ⟨fun u' hu' => ?_, by rw [List.countP_cons, List.countP_cons, h4, h2]⟩
    rcases List.mem_cons.mp hu' with e | e
    · rw [e]; exact h1
    · exact h3 u' e
theorem mt_lcountS {X : Cx} (hu : X.A.units + 64 < cLine) : MtR X "list.count" (rCntS X.K) := by
  intro pins s σ H x xs v us Q I rx rxs h
  obtain ⟨p, ys, y, ds, rfl, rfl, hs, hd', hl', hy, q⟩ := h
  cases rx
  obtain ⟨u, rfl, ru⟩ := rxs.one
  obtain ⟨t, rfl⟩ := ru
  obtain ⟨its, rv, ⟨⟨cls, dd, data, sl⟩, n, ho, hc, hdn, hd⟩, hlen⟩ := I.list hs
  simp only at hc hd
  subst hc hd
  obtain ⟨c1, c2⟩ := all_cntS (A := X.A.in1) I (by show X.A.units + 1 < cLine; omega) (t := t) hy hd' rv hl'
  refine call_meets PySem.F.slot_list_count ⟨_, ho, rfl⟩ PySem.F.entry_list_count (PySem.F.args_list_count_2 _ _)
    (SeqAt.list_countAt p its.toArray n dd sl (.str y t) (eqU (.str y))) ⟨ho, fun u' hu' => c1 u' (by simpa using hu'), ?_⟩
  refine ⟨.int _, H, I.tok _, ⟨s.toks, ?_⟩, q⟩
  show Value.int ((its.toArray.toList.countP (eqU (.str y)) : Nat) : Int) s.toks = Value.int _ s.toks
  rw [show its.toArray.toList = its from rfl, c2]
theorem mt_lcountSK {X : Cx} (K : PySem.W.Frag) (e : X.K = K) (hu : X.A.units + 64 < cLine) : MtR X "list.count" (rCntS K) := by subst e; exact mt_lcountS hu
theorem i_cntS {K : PySem.W.Frag} {H : Hp} {Q : VK} {p : Addr} {y : Str} {ds : List PyData} {n : Nat} (h : Dq H (.ref p) (.list ds)) (hl : PyData.canLayAll0 ds = true) (hy : PyData.strOk y = true) (e : ds.countP (isS y) = n) (q : Q (.int (n : Nat)) H) : rCntS K (.ref p) [.str y] H Q := by
  obtain ⟨a, xs, e1, h1, h2⟩ := h.list_inv
  cases e1
  subst e
  exact ⟨_, xs, y, ds, rfl, rfl, .of h1, h2.dp, hl, hy, q⟩
/-! ### walking what is a list or a tuple -/
def iSeq (K : PySem.W.Frag) (tl : TE) : TI := fun σ H R => tl σ H fun x H1 => ∃ a, x = .ref a ∧ (((∃ xs, SqL K H1 a xs) ∧ R (Itl K a) H1) ∨ ((∃ xs, SqT K H1 a xs) ∧ R (Itt K a) H1))
theorem pi_seq {X : Cx} {tg l : Expr} {tl : TE} (hl : PE X l tl) : PI X tg l (iSeq X.K tl) := by
  refine ⟨fun pins s σ H R I h => ?_⟩
  refine thn (hl.run pins s σ H _ I h) fun v s1 ⟨x, H1, I1, r1, q1⟩ => ?_
  obtain ⟨a, e, q1⟩ := q1
  subst e
  cases r1
  rcases q1 with ⟨⟨xs, hq⟩, q⟩ | ⟨⟨xs, hq⟩, q⟩
  · obtain ⟨its, rv, p, hz⟩ := I1.list hq
    refine wpAny_pyIter_list p.isList ?_
    refine ⟨s1.heap.objs.size, [s1.heap.objs.size], _, _, H1, rfl, I1.kept (t' := s1.toks) fun b o e => Heap.get?_push_of_some _ e, turn_list a _, ⟨_, Heap.get?_push_size _ rfl, rfl, rfl⟩, fun b hb => ?_, q⟩
    have e : b = s1.heap.objs.size := by simpa using hb
    subst e
    exact I1.fpOk (Nat.le_refl _) (I1.hok.fresh (Nat.le_refl _))
  · obtain ⟨its, rv, p, hz⟩ := I1.tuple hq
    refine wpAny_pyIter_tuple (show s1.heap.IsTuple a its.toArray from p) ?_
    refine ⟨s1.heap.objs.size, [s1.heap.objs.size], _, _, H1, rfl, I1.kept (t' := s1.toks) fun b o e => Heap.get?_push_of_some _ e, turn_tuple a _, ⟨_, Heap.get?_push_size _ rfl, rfl, rfl⟩, fun b hb => ?_, q⟩
    have e : b = s1.heap.objs.size := by simpa using hb
    subst e
    exact I1.fpOk (Nat.le_refl _) (I1.hok.fresh (Nat.le_refl _))
theorem pi_seqK {X : Cx} (K : PySem.W.Frag) (e : X.K = K) {tg l : Expr} {tl : TE} (hl : PE X l tl) : PI X tg l (iSeq K tl) := by subst e; exact pi_seq hl
theorem i_iseq {K : PySem.W.Frag} {tl : TE} {σ : L2.St} {H : Hp} {R : It → Hp → Prop} (h : tl σ H fun x H1 => ∃ a, x = .ref a ∧ (((∃ xs, SqL K H1 a xs) ∧ R (Itl K a) H1) ∨ ((∃ xs, SqT K H1 a xs) ∧ R (Itt K a) H1))) : iSeq K tl σ H R := h
theorem i_iseqL {K : PySem.W.Frag} {H : Hp} {p : Addr} {xs : List V} {A : Addr → Prop} {B : Addr → Prop} (h : SqL K H p xs) (q : A p) : ∃ a, V.ref p = .ref a ∧ (((∃ xs, SqL K H a xs) ∧ A a) ∨ ((∃ xs, SqT K H a xs) ∧ B a)) := ⟨p, rfl, .inl ⟨⟨xs, h⟩, q⟩⟩
theorem i_iseqT {K : PySem.W.Frag} {H : Hp} {p : Addr} {xs : List V} {A : Addr → Prop} {B : Addr → Prop} (h : SqT K H p xs) (q : B p) : ∃ a, V.ref p = .ref a ∧ (((∃ xs, SqL K H a xs) ∧ A a) ∨ ((∃ xs, SqT K H a xs) ∧ B a)) := ⟨p, rfl, .inr ⟨⟨xs, h⟩, q⟩⟩
/-! ### the marks, put and looked for -/
theorem OwAll.drop_cons {H : Hp} {xs : List V} {ds : List PyData} {S : List Addr} {i : Nat} {x : V} (h : OwAll H (xs.drop i) (ds.drop i) S) (e : xs[i]? = some x) :
    ∃ d S1 S2, ds[i]? = some d ∧ S = S1 ++ S2 ∧ Ow H x d S1 ∧ OwAll H (xs.drop (i + 1)) (ds.drop (i + 1)) S2 := by
  rw [drop_get e] at h
  cases hd : ds.drop i with
  | nil => rw [hd] at h; cases h
  | cons d r =>
    rw [hd] at h
    have hi : ds[i]? = some d := by
      have := List.getElem?_drop (xs := ds) (i := i) (j := 0)
      rw [hd] at this
      simpa using this.symm
    rw [drop_get hi] at hd
    cases hd
    cases h with
    | cons a b => exact ⟨_, _, _, hi, rfl, a, b⟩
theorem cnt_mk {ds : List PyData} (h : noMA ds = true) : (mkA ds ++ [PyData.str mkS]).countP (isS mkS) = 1 := by
  have e : (mkA ds).countP (isS mkS) = 0 := by
    rw [List.countP_eq_zero]
    intro d hd
    rw [mkA_map] at hd
    obtain ⟨d', hd', rfl⟩ := List.mem_map.mp hd
    have := noMA_mem h hd'
    cases d' <;> simp [mk, isS]
    simp [noM] at this
    exact this
  rw [List.countP_append, e]
  simp [isS, mkS]
mutual
theorem lay_mk : ∀ {d : PyData}, d.canLay0 = true → (mk d).canLay0 = true
  | .none, h => by simpa [mk] using h
  | .bool _, h => by simpa [mk] using h
  | .int _, h => by simpa [mk] using h
  | .str _, h => by simpa [mk] using h
  | .list ds, h => by
    rw [PyData.canLay0] at h
    rw [mk, PyData.canLay0]
    refine lay_all fun d hd => ?_
    rcases List.mem_append.mp hd with e | e
    · exact lay_mkA h d e
    · rw [List.mem_singleton.mp e, PyData.canLay0]; decide +kernel
  | .tuple ds, h => by
    rw [PyData.canLay0] at h
    rw [mk, PyData.canLay0]
    exact lay_all fun d hd => lay_mkA h d hd
  | .dict _, h => by simp [PyData.canLay0] at h
theorem lay_mkA : ∀ {ds : List PyData}, PyData.canLayAll0 ds = true → ∀ d ∈ mkA ds, d.canLay0 = true
  | [], _, _, hd => by cases hd
  | e :: ds, h, d, hd => by
    rw [PyData.canLayAll0, Bool.and_eq_true] at h
    rw [mkA] at hd
    rcases List.mem_cons.mp hd with z | z
    · rw [z]; exact lay_mk h.1
    · exact lay_mkA h.2 d z
end
/-! ### comprehensions of owned things -/
/-- owned, all of it new to H -/
structure OwN (H H' : Hp) (v : V) (d : PyData) (S : List Addr) : Prop where
  ow : Ow H' v d S
  nd : S.Nodup
  nw : ∀ b, b ∈ S → H b = none
theorem OwN.same {H H' H2 : Hp} {v : V} {d : PyData} {S : List Addr} (h : OwN H H' v d S) (s : Same H' H2) : OwN H H2 v d S := ⟨h.ow.same s, h.nd, h.nw⟩
theorem OwN.back {H0 H H' : Hp} {v : V} {d : PyData} {S : List Addr} (h : OwN H H' v d S) (s : Same H0 H) : OwN H0 H' v d S := ⟨h.ow, h.nd, fun b hb => s.free (h.nw b hb)⟩
theorem OwN.dq {H H' : Hp} {v : V} {d : PyData} {S : List Addr} (h : OwN H H' v d S) : Dq H' v d := h.ow.dq
section
variable {σ : L2.St} {H H1 : Hp} {Q : VK} {K : PySem.W.Frag} {D a l : Addr} {wi : TI} {g : TG} {tt : TT} {te : TE} {vs : List Nat} {lo : Int} {n : Nat} {xs : List V} {Qd : Hp → Prop}
theorem lcL_own (f : Nat → PyData) (nD : H1 D = none) (hn : xs.length ≤ 1000000) (hx : SqL K H1 l xs)
    (hs : ∀ (i : Nat) (x : V) H (Z : VK) (Y : Hp → Prop), xs[i]? = some x → Same H1 H → (∀ v S H4, OwN H H4 v (f i) S → Same H H4 → Z v H4) → LcTurn g tt te vs σ x H Z Y)
    (hd : ∀ S H, OwN H1 H (.ref D) (.list ((List.range xs.length).map f)) S → Same H1 H → Qd H) :
    ∃ W : Nat → Nat → Hp → Prop, (∃ m, W 0 m (upd H1 D (.lst []))) ∧ ∀ i m H, W i m H →
      ((Itl K l).stop i H ∧ Qd H) ∨ ((Itl K l).go i H ∧ ∃ Nx : Hp → Prop, (∀ H', Nx H' → ∃ m', m' < m ∧ W (i + 1) m' H') ∧ ∀ x H', (Itl K l).yld i H x H' → g x (wipe σ vs) H' fun σ2 H2 => wipe σ2 vs = wipe σ vs ∧ tt σ2 H2 fun b H3 =>
        if b = true then te σ2 H3 fun y H4 => ∃ acc, H4 D = some (.lst acc) ∧ acc.length < sizeLine ∧ Nx (upd H4 D (.lst (acc ++ [y]))) else Nx H3) := by
  refine lcL (xs := xs) (fun i acc H => acc.length = i ∧ Same H1 H ∧ ∃ S, OwAll H acc ((List.range i).map f) S ∧ S.Nodup ∧ D ∉ S ∧ ∀ b, b ∈ S → H1 b = none) nD ⟨rfl, Same.new nD, [], .nil, List.nodup_nil, by simp, nofun⟩ (fun i acc H _ q _ => q.2.1.seq hx) ?_ ?_
  · rintro i x acc H Z Y hi ⟨h1, h2, S, h3, h4, h5, h6⟩ hD hz _
    have hi' : i < xs.length := (List.getElem?_eq_some_iff.mp hi).1
    refine hs i x H Z Y hi h2 fun v S' H4 k1 k2 => ?_
    have hDS : D ∉ S' := fun z => by
      have := k1.nw D z
      rw [hD] at this
      cases this
    have kp : Kp [D] H4 (upd H4 D (.lst (acc ++ [v]))) := Kp.upd (by simp) Kp.refl
    have ht : ∀ b ys, b ∈ [D] → H4 b ≠ some (.tup ys) := fun b ys hb e => by
      rw [List.mem_singleton.mp hb, k2 _ _ hD] at e
      cases e
    have hd1 : ∀ b, b ∈ S → b ∉ [D] := fun b hb hb' => h5 (by rw [← List.mem_singleton.mp hb']; exact hb)
    have hd2 : ∀ b, b ∈ S' → b ∉ [D] := fun b hb hb' => hDS (by rw [← List.mem_singleton.mp hb']; exact hb)
    refine hz _ _ (k2 _ _ hD) (sz4' (by omega)) ⟨by rw [List.length_append, h1]; rfl, Same.mut (h2.trans k2) nD, S ++ S', ?_, ?_, ?_, ?_⟩
    · rw [List.range_succ, List.map_append]
      exact OwAll.snoc (OwAll.kp ht kp (h3.same k2) hd1) (Ow.kp ht kp k1.ow hd2)
    · rw [List.nodup_append]
      refine ⟨h4, k1.nd, fun b hb c hc e => ?_⟩
      subst e
      obtain ⟨ys, e'⟩ := h3.lists b hb
      rw [k1.nw b hc] at e'
      cases e'
    · intro z
      rcases List.mem_append.mp z with z | z
      · exact h5 z
      · exact hDS z
    · intro b hb
      rcases List.mem_append.mp hb with z | z
      · exact h6 b z
      · exact h2.free (k1.nw b z)
  · rintro acc H ⟨h1, h2, S, h3, h4, h5, h6⟩ hD
    exact hd (D :: S) H ⟨.lst hD h3, List.nodup_cons.mpr ⟨h5, h4⟩, fun b hb => by
      rcases List.mem_cons.mp hb with z | z
      · rw [z]; exact nD
      · exact h6 b z⟩ h2
end
/-- a tuple of two owned things -/
theorem OwN.pair {H H1 H2 : Hp} {v w : V} {d e : PyData} {S T : List Addr} {q : Addr} (h1 : OwN H H1 v d S) (h2 : OwN H1 H2 w e T) (s0 : Same H H1) (s : Same H1 H2) (hq : H2 q = none) : OwN H (upd H2 q (.tup [v, w])) (.ref q) (.tuple [d, e]) (S ++ T) := by
  have sn : Same H2 (upd H2 q (.tup [v, w])) := Same.new hq
  refine ⟨?_, ?_, ?_⟩
  · have := Ow.tup upd_same (OwAll.cons ((h1.ow.same s).same sn) (OwAll.cons (h2.ow.same sn) .nil))
    rw [List.append_nil] at this
    exact this
  · rw [List.nodup_append]
    refine ⟨h1.nd, h2.nd, fun b hb c hc e => ?_⟩
    subst e
    obtain ⟨ys, e'⟩ := h1.ow.lists b hb
    rw [h2.nw b hc] at e'
    cases e'
  · intro b hb
    rcases List.mem_append.mp hb with z | z
    · exact h1.nw b z
    · exact s0.free (h2.nw b z)
theorem own_ints {H : Hp} : ∀ ms : List Int, OwAll H (ms.map V.int) (ms.map PyData.int) []
  | [] => .nil
  | m :: ms => .cons (S := []) (S' := []) (.int m) (own_ints ms)
theorem BatOk.reverse {f s : Int} {fs : List Fld} (k : BatOk f s fs) : BatOk f s fs.reverse := ⟨k.hf, k.hs, by rw [List.length_reverse]; exact k.ne, fun x hx => k.ok x (List.mem_reverse.mp hx)⟩
theorem ow_self {H : Hp} {a : Addr} {ds : List PyData} {S : List Addr} (h : Ow H (.ref a) (.list ds) S) : a ∈ S := by
  cases h with
  | lst _ _ => exact List.mem_cons_self
end Hf
/-! ## sorted(d), d a dict with pairs of whole numbers as keys -/
namespace Hf
open PySem PySem.Spec PyProof.Rows L2
/-- the pair that stands at a place -/
def pairAt (H : Hp) : V → Int × Int
  | .ref b => match H b with
    | some (.tup [.int i, .int j]) => (i, j)
    | _ => (0, 0)
  | _ => (0, 0)
theorem pairAt_of {H : Hp} {b : Addr} {i j : Int} (h : H b = some (.tup [.int i, .int j])) : pairAt H (.ref b) = (i, j) := by
  show (match H b with | some (.tup [.int i, .int j]) => (i, j) | _ => (0, 0)) = _
  rw [h]
/-- a key as a pair -/
def keyP : List Key → Int × Int
  | [.inl i, .inl j] => (i, j)
  | _ => (0, 0)
def rSortedDT : List V → Hp → VK → Prop := fun vs H Q => ∃ (d : Addr) (kvs : List (List Key × V)), vs = [V.ref d] ∧ H d = some (.dT kvs) ∧ (∀ kv ∈ kvs, ∃ i j : Int, kv.1 = [.inl i, .inl j]) ∧
  ∀ (ys : List V) (p : Addr), (∀ y ∈ ys, ∃ b, y = .ref b ∧ H b = some (.tup [.int (pairAt H y).1, .int (pairAt H y).2])) → (ys.map (pairAt H)).Perm (kvs.map fun kv => keyP kv.1) → (ys.map (pairAt H)).Pairwise (fun a b => SrtO.lexB b a = false) → H p = none → Q (.ref p) (upd H p (.lst ys))
theorem isKeys_at {H : Hp} : ∀ {kvs : List (List Key × V)} {bs : List Addr}, IsKeys H kvs bs → (∀ kv ∈ kvs, ∃ i j : Int, kv.1 = [.inl i, .inl j]) →
    (∀ b ∈ bs, H b = some (.tup [.int (pairAt H (.ref b)).1, .int (pairAt H (.ref b)).2])) ∧ (bs.map fun b => pairAt H (.ref b)) = kvs.map fun kv => keyP kv.1
  | _, _, .nil, _ => ⟨nofun, rfl⟩
  | kv :: kvs, b :: bs, .cons h t, hk => by
    obtain ⟨i, j, e⟩ := hk kv List.mem_cons_self
    obtain ⟨h1, h2⟩ := isKeys_at t fun kv hkv => hk kv (List.mem_cons_of_mem _ hkv)
    rw [e] at h
    have h' : H b = some (.tup [.int i, .int j]) := h
    have e2 := pairAt_of h'
    refine ⟨fun b' hb' => ?_, by rw [List.map_cons, List.map_cons, h2, e2, e]; rfl⟩
    rcases List.mem_cons.mp hb' with z | z
    · rw [z, e2]; exact h'
    · exact h1 b' z
theorem cr_sortedDT {X : Cx} (hc : X.calm = true) : CallR X (.builtin "sorted") rSortedDT := by
  intro pins s σ H vs us Q I r h
  obtain ⟨d, kvs, rfl, hd, hk, q⟩ := h
  obtain ⟨u, rfl, ru⟩ := r.one
  cases ru
  obtain ⟨z, hs, ks, pr, o, es, ep, ho, hx, hdt, he, hn⟩ := (show ObjOk X.prog X.w H s.heap d (.dT kvs) from I.hok d _ hd)
  have l1 : es.size = ks.length := size_of_entries he
  have l2 : kvs.length = ks.length := Paired.length pr
  obtain ⟨kb1, kb2⟩ := isKeys_at (isKeys_of pr) hk
  refine Calls.call_function_entry PyProof.Rows.kind_sorted PyProof.Rows.plain_sorted PyProof.Rows.entry_sorted (PyProof.Rows.args_sorted1 _) ?_
  unfold Builtin.«sorted»
  refine wpAny_bind (m := checkCount "sorted" 1 1 _) (wpAny_pure ?_)
  refine wpAny_bind (PySem.W.kdu_collect (A := X.A.in1) (kdl_raw hs hx hdt) (I.ok.hd hc) ho (by omega) fun h' tk acc kp it => ?_)
  have ea : acc.toList = ks.map fun x => Value.ref x.2.1 := by
    have hl : acc.toList.length = ks.length := by rw [Array.length_toList, it.1]; exact l1
    apply List.ext_getElem?
    intro j
    rw [List.getElem?_map]
    cases hj : acc.toList[j]? with
    | none =>
      have h1 := List.getElem?_eq_none_iff.mp hj
      rw [List.getElem?_eq_none (by omega)]
      all_goals rfl
    | some v =>
      obtain ⟨en, hen, hv⟩ := it.2 j v (by rw [← Array.getElem?_toList]; exact hj)
      have qe := entry_at he j
      rw [hen] at qe
      cases hb : ks[j]? with
      | none =>
        rw [hb] at qe
        exact nomatch (show some en = none from qe)
      | some b =>
        rw [hb] at qe
        have e2 : en = entryOfKey (tupleKind (mixKind X.prog X.w)) b := Option.some.inj qe
        rw [hv, e2]
        all_goals rfl
  have eb : acc.toList = (ks.map fun x => x.2.1).map Value.ref := by rw [ea, List.map_map]; all_goals rfl
  have hz : acc.toList.length ≤ sizeLine := by rw [ea, List.length_map]; omega
  have I1 : Inv X pins σ H { s with heap := h', toks := tk } := I.kept kp
  have ip : ∀ v ∈ acc.toList, ∃ b, v = Value.ref b ∧ Srt.IsPair h' v (pairAt H (backV v)).1 (pairAt H (backV v)).2 := fun v hv => by
    rw [eb] at hv
    obtain ⟨b, hb, rfl⟩ := List.mem_map.mp hv
    have ht := kb1 b hb
    obtain ⟨_, its2, r2, o2, ho2, hc2, n2, hd2⟩ := I1.hok _ _ ht
    obtain ⟨u1, u2, rfl, ri, rj⟩ := vals2 r2
    obtain ⟨t1, rfl⟩ := ri
    obtain ⟨t2, rfl⟩ := rj
    exact ⟨b, rfl, b, o2, t1, t2, n2, rfl, ho2, hc2, hd2⟩
  refine wpAny_bind (wpAny_newList ?_ hz)
  have hoL : (h'.push (seqObj "list" acc.toList.toArray 0)).get? h'.objs.size = some (seqObj "list" acc.toList.toArray 0) := Heap.get?_push_size _ rfl
  show wpAny _ _ _ _ _ { s with heap := h'.push (seqObj "list" acc.toList.toArray 0), toks := tk }
  refine wpAny_bind (wpAny_holding (wpAny_call_entry PyProof.Rows.slot_list_sort ⟨_, hoL, rfl⟩ PyProof.Rows.entry_list_sort
    (SrtO.list_sort_ord (s := { s with heap := h'.push (seqObj "list" acc.toList.toArray 0), toks := tk }) (SrtO.swo_lex fun u => pairAt H (backV u)) hoL hz (fun h2 => ?_) fun out g1 g2 => ⟨_, rfl, ?_⟩) (PyProof.Rows.args_list_sort _)))
  · refine SrtO.pairs_sortableO (by omega) (fun v hv => ?_) fun o e => ?_
    · obtain ⟨b, _, hp⟩ := ip v hv
      exact hp.keeps fun b o e _ => Heap.get?_push_of_some _ e
    · have e' : some o = some (seqObj "list" acc.toList.toArray 0) := e.symm.trans hoL
      cases e'
      intro c
      exact absurd (Value.type.inj c) (by decide)
  · obtain ⟨e', he'⟩ := PyProof.Rows.sortedHeap_at (vs := acc.toList) (out := out.toArray) hoL
    have h3 : ∀ u ∈ out, ∃ a, u = Value.ref a := fun u hu => by
      obtain ⟨b, e, _⟩ := ip u (g2.perm.mem_iff.mp hu)
      exact ⟨b, e⟩
    have hlen : (out.map backV).length ≤ sizeLine := by rw [List.length_map, g2.perm.length_eq]; exact hz
    refine wpAny_pure ⟨_, rfl, .ref h'.objs.size, upd H h'.objs.size (.lst (out.map backV)), I1.laid (t' := tk) (fun b u e => ?_) (Nat.le_refl _)
      (show ObjOk X.prog X.w _ _ _ (.lst (out.map backV)) from ⟨hlen, out, e', vals_back h3, he'⟩), rfl, q (out.map backV) _ (fun y hy => ?_) ?_ ?_ (I1.hok.fresh (Nat.le_refl _))⟩
    · have hb : b < h'.objs.size := Heap.lt_size e
      rw [PyProof.Rows.sortedHeap_old (Nat.ne_of_lt hb) (by rw [size_push']; exact Nat.lt_succ_of_lt hb)]
      exact Heap.get?_push_of_some _ e
    · obtain ⟨v, hv, rfl⟩ := List.mem_map.mp hy
      have hv' := g2.perm.mem_iff.mp hv
      rw [eb] at hv'
      obtain ⟨b, hb, rfl⟩ := List.mem_map.mp hv'
      exact ⟨b, rfl, kb1 b hb⟩
    · have h1 : ((out.map backV).map (pairAt H)).Perm ((acc.toList.map backV).map (pairAt H)) := (g2.perm.map _).map _
      have h2 : (acc.toList.map backV).map (pairAt H) = kvs.map fun kv => keyP kv.1 := by
        rw [eb, ← kb2, List.map_map, List.map_map, List.map_map, List.map_map]
        rfl
      rw [h2] at h1
      exact h1
    · rw [List.pairwise_map, List.pairwise_map]
      exact g1
theorem i_sortedDT {H : Hp} {Q : VK} {d : Addr} {kvs : List (List Key × V)} (h : H d = some (.dT kvs)) (hk : ∀ kv ∈ kvs, ∃ i j : Int, kv.1 = [.inl i, .inl j])
    (q : ∀ (ys : List V) (p : Addr), (∀ y ∈ ys, ∃ b, y = .ref b ∧ H b = some (.tup [.int (pairAt H y).1, .int (pairAt H y).2])) → (ys.map (pairAt H)).Perm (kvs.map fun kv => keyP kv.1) → (ys.map (pairAt H)).Pairwise (fun a b => SrtO.lexB b a = false) → H p = none → Q (.ref p) (upd H p (.lst ys))) : rSortedDT [.ref d] H Q :=
  ⟨d, kvs, rfl, h, hk, q⟩
end Hf
/-! ## streams: flows by what is left and sent -/
namespace Hf
open PySem PySem.Spec PyProof.Rows L2
abbrev Fl := Int × Int × Int
abbrev k2 (i j : Int) : List Key := [.inl i, .inl j]
theorem k2_inj {i j a b : Int} (h : k2 i j = k2 a b) : i = a ∧ j = b := by
  have h1 := List.cons.inj h
  have h2 := List.cons.inj h1.2
  exact ⟨Sum.inl.inj h1.1, Sum.inl.inj h2.1⟩
def addF (f : Int → Int → Int) (i j w : Int) : Int → Int → Int := fun a b => if a = i ∧ b = j then f a b + w else f a b
/-- a dict that holds flows -/
structure FlD (kvs : List (List Key × V)) (f : Int → Int → Int) : Prop where
  nn : ∀ i j, 0 ≤ f i j
  ks : ∀ kv ∈ kvs, ∃ i j, kv = (k2 i j, V.int (f i j)) ∧ f i j ≠ 0
  nd : (kvs.map (·.1)).Nodup
  vl : ∀ i j, valV kvs (k2 i j) = if f i j = 0 then none else some (.int (f i j))
theorem FlD.nil : FlD [] (fun _ _ => 0) := ⟨fun _ _ => Int.le_refl _, nofun, List.nodup_nil, fun _ _ => by rw [if_pos rfl]; rfl⟩
theorem FlD.get {kvs : List (List Key × V)} {f : Int → Int → Int} (h : FlD kvs f) (i j : Int) : (valV kvs (k2 i j)).getD (.int 0) = .int (f i j) := by
  rw [h.vl]
  split
  · next e => rw [e]; rfl
  · rfl
theorem putK_keys {κ : Type} [DecidableEq κ] {kvs : List (κ × V)} {k : κ} {v : V} : (putK kvs k v).map (·.1) = if (kvs.any fun kv => decide (kv.1 = k)) = true then kvs.map (·.1) else kvs.map (·.1) ++ [k] := by
  unfold putK
  split
  · rw [List.map_map]
    apply List.map_congr_left
    intro kv _
    show (if kv.1 = k then (kv.1, v) else kv).1 = kv.1
    split <;> rfl
  · rw [List.map_append]
    rfl
theorem FlD.add {kvs : List (List Key × V)} {f : Int → Int → Int} (h : FlD kvs f) {i j w : Int} (hw : 1 ≤ w) : FlD (putK kvs (k2 i j) (.int (f i j + w))) (addF f i j w) := by
  have hnn := h.nn
  refine ⟨fun a b => ?_, fun kv hkv => ?_, ?_, fun a b => ?_⟩
  · unfold addF
    have := hnn a b
    split <;> omega
  · unfold putK at hkv
    split at hkv
    · obtain ⟨kv', h1, h2⟩ := List.mem_map.mp hkv
      obtain ⟨a, b, e1, e2⟩ := h.ks kv' h1
      rw [e1] at h2
      simp only at h2
      by_cases c : k2 a b = k2 i j
      · rw [if_pos c] at h2
        obtain ⟨rfl, rfl⟩ := k2_inj c
        refine ⟨a, b, ?_, ?_⟩
        · rw [← h2]
          unfold addF
          rw [if_pos ⟨rfl, rfl⟩]
        · unfold addF
          rw [if_pos ⟨rfl, rfl⟩]
          have := hnn a b
          omega
      · rw [if_neg c] at h2
        have : ¬ (a = i ∧ b = j) := fun ⟨x, y⟩ => c (by rw [x, y])
        refine ⟨a, b, ?_, ?_⟩
        · rw [← h2]
          unfold addF
          rw [if_neg this]
        · unfold addF
          rw [if_neg this]
          exact e2
    · next hany =>
      rcases List.mem_append.mp hkv with z | z
      · obtain ⟨a, b, e1, e2⟩ := h.ks kv z
        have : ¬ (a = i ∧ b = j) := fun ⟨x, y⟩ => hany (by
          rw [List.any_eq_true]
          exact ⟨kv, z, decide_eq_true (by rw [e1, x, y])⟩)
        refine ⟨a, b, ?_, ?_⟩
        · rw [e1]
          unfold addF
          rw [if_neg this]
        · unfold addF
          rw [if_neg this]
          exact e2
      · rw [List.mem_singleton.mp z]
        refine ⟨i, j, ?_, ?_⟩
        · unfold addF
          rw [if_pos ⟨rfl, rfl⟩]
        · unfold addF
          rw [if_pos ⟨rfl, rfl⟩]
          have := hnn i j
          omega
  · rw [putK_keys]
    split
    · exact h.nd
    · next hany =>
      rw [List.nodup_append]
      refine ⟨h.nd, by simp, fun a ha b hb e => hany ?_⟩
      rw [List.mem_singleton.mp hb] at e
      obtain ⟨kv, h1, h2⟩ := List.mem_map.mp ha
      rw [List.any_eq_true]
      exact ⟨kv, h1, decide_eq_true (by rw [h2, e])⟩
  · rw [valV_put]
    by_cases c : k2 a b = k2 i j
    · rw [if_pos c]
      obtain ⟨rfl, rfl⟩ := k2_inj c
      have e : addF f a b w a b = f a b + w := if_pos ⟨rfl, rfl⟩
      have := hnn a b
      rw [e, if_neg (by omega)]
    · rw [if_neg c, h.vl]
      have e : addF f i j w a b = f a b := if_neg fun ⟨x, y⟩ => c (by rw [x, y])
      rw [e]
theorem FlD.len {kvs : List (List Key × V)} {f : Int → Int → Int} {i j w : Int} : (putK kvs (k2 i j) (.int (f i j + w))).length ≤ kvs.length + 1 := by
  unfold putK
  split
  · rw [List.length_map]; omega
  · rw [List.length_append]; exact Nat.le_refl _
/-! ### rows of a stream -/
def lt2 (a b : Fl) : Prop := a.1 < b.1 ∨ (a.1 = b.1 ∧ a.2.1 < b.2.1)
structure RowF (f : Int → Int → Int) (L : List Fl) : Prop where
  st : L.Pairwise lt2
  mem : ∀ e, e ∈ L ↔ e.2.2 = f e.1 e.2.1 ∧ f e.1 e.2.1 ≠ 0
theorem RowF.uniq {f : Int → Int → Int} {L M : List Fl} (h1 : RowF f L) (h2 : RowF f M) : L = M := by
  have key : ∀ {L M : List Fl}, L.Pairwise lt2 → M.Pairwise lt2 → (∀ e, e ∈ L ↔ e ∈ M) → L = M := by
    intro L
    induction L with
    | nil =>
      intro M _ _ h
      cases M with
      | nil => rfl
      | cons y M => exact absurd ((h y).mpr List.mem_cons_self) (by simp)
    | cons x L ih =>
      intro M hL hM h
      cases M with
      | nil => exact absurd ((h x).mp List.mem_cons_self) (by simp)
      | cons y M =>
        rw [List.pairwise_cons] at hL hM
        have irr : ∀ a : Fl, ¬ lt2 a a := fun a h => by unfold lt2 at h; omega
        have asy : ∀ a b : Fl, lt2 a b → lt2 b a → False := fun a b h1 h2 => by unfold lt2 at h1 h2; omega
        have exy : x = y := by
          rcases List.mem_cons.mp ((h x).mp List.mem_cons_self) with e | e
          · exact e
          · rcases List.mem_cons.mp ((h y).mpr List.mem_cons_self) with e' | e'
            · exact e'.symm
            · exact (asy _ _ (hL.1 y e') (hM.1 x e)).elim
        subst exy
        congr 1
        refine ih hL.2 hM.2 fun e => ⟨fun he => ?_, fun he => ?_⟩
        · rcases List.mem_cons.mp ((h e).mp (List.mem_cons_of_mem _ he)) with z | z
          · rw [z] at he
            exact (irr x (hL.1 x he)).elim
          · exact z
        · rcases List.mem_cons.mp ((h e).mpr (List.mem_cons_of_mem _ he)) with z | z
          · rw [z] at he
            exact (irr x (hM.1 x he)).elim
          · exact z
  exact key h1.st h2.st fun e => by rw [h1.mem, h2.mem]
/-- the row that sorted keys of a dict of flows make -/
theorem FlD.row {kvs : List (List Key × V)} {f : Int → Int → Int} (h : FlD kvs f) {ps : List (Int × Int)} (hp : ps.Perm (kvs.map fun kv => keyP kv.1)) (hs : ps.Pairwise fun a b => SrtO.lexB b a = false) : RowF f (ps.map fun p => (p.1, p.2, f p.1 p.2)) := by
  have hnd : (kvs.map fun kv => keyP kv.1).Nodup := by
    have : kvs.map (fun kv => keyP kv.1) = (kvs.map (·.1)).map keyP := by rw [List.map_map]; rfl
    rw [this]
    rw [List.Nodup, List.pairwise_map]
    refine List.Pairwise.imp_of_mem (R := fun a b => a ≠ b) (fun {a b} ha hb hne e => hne ?_) h.nd
    obtain ⟨kv, h1, rfl⟩ := List.mem_map.mp ha
    obtain ⟨kw, h2, rfl⟩ := List.mem_map.mp hb
    obtain ⟨i, j, e1, _⟩ := h.ks kv h1
    obtain ⟨i', j', e2, _⟩ := h.ks kw h2
    rw [e1, e2] at e ⊢
    have e' : (i, j) = (i', j') := e
    cases e'
    rfl
  have hpn : ps.Nodup := hp.nodup_iff.mpr hnd
  refine ⟨?_, fun e => ⟨fun he => ?_, fun ⟨he, hz⟩ => ?_⟩⟩
  · rw [List.pairwise_map]
    refine List.Pairwise.imp₂ (R := fun a b => SrtO.lexB b a = false) (S := fun a b => a ≠ b) (fun a b h1 h2 => ?_) hs hpn
    have h1' := SrtO.lexB_no.mp h1
    unfold lt2
    obtain ⟨a1, a2⟩ := a
    obtain ⟨b1, b2⟩ := b
    have : ¬ (a1 = b1 ∧ a2 = b2) := fun ⟨x, y⟩ => h2 (by rw [x, y])
    simp only at h1' ⊢
    omega
  · obtain ⟨p, hpm, rfl⟩ := List.mem_map.mp he
    obtain ⟨kv, h1, h2⟩ := List.mem_map.mp (hp.mem_iff.mp hpm)
    obtain ⟨i, j, e1, e2⟩ := h.ks kv h1
    rw [e1] at h2
    have h2' : (i, j) = p := h2
    subst h2'
    exact ⟨rfl, e2⟩
  · obtain ⟨l, s, w⟩ := e
    simp only at he hz
    have hv := h.vl l s
    rw [if_neg hz] at hv
    have hm : ∃ kv ∈ kvs, kv.1 = k2 l s := by
      unfold valV at hv
      cases hf : kvs.find? (fun kv => decide (kv.1 = k2 l s)) with
      | none => rw [hf] at hv; cases hv
      | some kv => exact ⟨kv, List.mem_of_find?_eq_some hf, by have := List.find?_some hf; simpa using this⟩
    obtain ⟨kv, h1, h2⟩ := hm
    have : (l, s) ∈ ps := hp.mem_iff.mpr (List.mem_map.mpr ⟨kv, h1, by rw [h2]; rfl⟩)
    exact List.mem_map.mpr ⟨(l, s), this, by rw [he]⟩
/-! ### the flows of a mix -/
def keyAt (p : List Int) (k : Nat) : Int × Int := ((p.drop k).sum, (p[k]?).getD 0)
def flowF : List (List Int × Int) → Nat → Int → Int → Int
  | [], _, _, _ => 0
  | pw :: m, k, l, s => (if keyAt pw.1 k = (l, s) then pw.2 else 0) + flowF m k l s
theorem flowF_snoc (k : Nat) (pw : List Int × Int) : ∀ m, flowF (m ++ [pw]) k = addF (flowF m k) (keyAt pw.1 k).1 (keyAt pw.1 k).2 pw.2
  | [] => by
    funext l s
    show (if keyAt pw.1 k = (l, s) then pw.2 else 0) + 0 = _
    unfold addF flowF
    by_cases c : keyAt pw.1 k = (l, s)
    · rw [if_pos c, if_pos ⟨by rw [c], by rw [c]⟩]; omega
    · rw [if_neg c, if_neg (fun ⟨x, y⟩ => c (Prod.ext x.symm y.symm))]; omega
  | q :: m => by
    funext l s
    have ih := congrFun (congrFun (flowF_snoc k pw m) l) s
    show (if keyAt q.1 k = (l, s) then q.2 else 0) + flowF (m ++ [pw]) k l s = _
    rw [ih]
    unfold addF
    have e : flowF (q :: m) k l s = (if keyAt q.1 k = (l, s) then q.2 else 0) + flowF m k l s := rfl
    rw [e]
    by_cases c : l = (keyAt pw.1 k).1 ∧ s = (keyAt pw.1 k).2
    · rw [if_pos c, if_pos c]; omega
    · rw [if_neg c, if_neg c]
theorem flowF_nil (k : Nat) : flowF [] k = fun _ _ => 0 := rfl
def flD (e : Fl) : PyData := .tuple [.int e.1, .int e.2.1, .int e.2.2]
def rowD (L : List Fl) : PyData := .list (L.map flD)
def strD (Ls : List (List Fl)) : PyData := .list (Ls.map rowD)
/-- the stream of a mix of plans on n fields -/
structure StrOf (m : List (List Int × Int)) (n : Nat) (Ls : List (List Fl)) : Prop where
  len : Ls.length = n
  row : ∀ (k : Nat) L, Ls[k]? = some L → RowF (flowF m k) L
theorem StrOf.uniq {m : List (List Int × Int)} {n : Nat} {Ls Ms : List (List Fl)} (h1 : StrOf m n Ls) (h2 : StrOf m n Ms) : Ls = Ms := by
  apply List.ext_getElem?
  intro k
  by_cases c : k < n
  · have e1 : Ls[k]? = some (Ls[k]'(by rw [h1.len]; exact c)) := List.getElem?_eq_getElem _
    have e2 : Ms[k]? = some (Ms[k]'(by rw [h2.len]; exact c)) := List.getElem?_eq_getElem _
    rw [e1, e2, (h1.row k _ e1).uniq (h2.row k _ e2)]
  · rw [List.getElem?_eq_none (by rw [h1.len]; omega), List.getElem?_eq_none (by rw [h2.len]; omega)]
/-! ### get with something else -/
section
variable {σ : L2.St} {H : Hp} {Q : VK} {a p : Addr} {kvs : List (List Key × V)} {i j : Int} {z : V}
def DgxR (x y z : V) (H : Hp) (Q : VK) : Prop := ∃ a o, x = V.ref a ∧ DGet H a y o ∧ Q (o.getD z) H
theorem i_dget2 {td ty tx : TE} (h : td σ H fun x H1 => ∃ a, x = .ref a ∧ IsD H1 a ∧ ty σ H1 fun y H2 => tx σ H2 fun z H3 => ∃ o, DGet H3 a y o ∧ Q (o.getD z) H3) : tDGet2 td ty tx σ H Q := h
theorem i_isD {A : Addr → Prop} (h : H a = some (.dT kvs)) (q : A a) : ∃ a', V.ref a = .ref a' ∧ IsD H a' ∧ A a' := ⟨a, rfl, .inr ⟨kvs, .inl h⟩, q⟩
theorem i_dgo2 {R : Option V → Prop} (h : H a = some (.dT kvs)) (e : H p = some (.tup [.int i, .int j])) (q : R (valV kvs (k2 i j))) : ∃ o, DGet H a (.ref p) o ∧ R o := ⟨_, DGet.t (k := k2 i j) h e, q⟩
theorem FlD.pairs {f : Int → Int → Int} (h : FlD kvs f) : ∀ kv ∈ kvs, ∃ i j : Int, kv.1 = [.inl i, .inl j] := fun kv hkv => by
  obtain ⟨i, j, e, _⟩ := h.ks kv hkv
  exact ⟨i, j, by rw [e]⟩
end
theorem mix_len {h : Int} {n : Nat} {m : List (List Int × Int)} (k : MixOk h n m) {pw : List Int × Int} (hp : pw ∈ m) : pw.1.length = n := (k.pl pw hp).1.1
/-! ### papers -/
def papD (Ls : List (List Fl)) (tb : List (List Int)) : PyData := .tuple [strD Ls, .list (tb.map planD)]
theorem fl_own {H : Hp} {v : V} {e : Fl} (h : Dq H v (flD e)) : Ow H v (flD e) [] := by
  obtain ⟨a, xs, rfl, h1, h2⟩ := h.tuple_inv
  cases h2 with
  | cons a b =>
    cases b with
    | cons c d =>
      cases d with
      | cons e f =>
        cases f
        obtain rfl := Dq.int_inv a
        obtain rfl := Dq.int_inv c
        obtain rfl := Dq.int_inv e
        exact .tup h1 (own_ints [_, _, _])
theorem row_own {H : Hp} : ∀ {xs : List V} {L : List Fl}, DqAll H xs (L.map flD) → OwAll H xs (L.map flD) []
  | _, [], h => by cases h; exact .nil
  | _, e :: L, h => by
    cases h with
    | cons a b => exact .cons (S := []) (S' := []) (fl_own a) (row_own b)
theorem strow_at {G : Hp} {xs : List V} {Ls : List (List Fl)} (q : DqAll G xs (Ls.map rowD)) {k : Nat} {w : V} (hw : xs[k]? = some w) : ∃ L p ys, Ls[k]? = some L ∧ w = .ref p ∧ G p = some (.lst ys) ∧ DqAll G ys (L.map flD) := by
  obtain ⟨d, e, q⟩ := q.get' hw
  rw [List.getElem?_map] at e
  cases g : Ls[k]? with
  | none => rw [g] at e; cases e
  | some L =>
    rw [g] at e
    cases e
    obtain ⟨p, ys, rfl, h1, h2⟩ := q.list_inv
    exact ⟨L, p, ys, rfl, rfl, h1, h2⟩
theorem pap_inv {H : Hp} {v : V} {Ls : List (List Fl)} {tb : List (List Int)} (h : Dq H v (papD Ls tb)) : ∃ a p q xs ys, v = .ref a ∧ H a = some (.tup [.ref p, .ref q]) ∧ H p = some (.lst xs) ∧ DqAll H xs (Ls.map rowD) ∧ H q = some (.lst ys) ∧ DqAll H ys (tb.map planD) := by
  obtain ⟨a, xs, rfl, h1, h2⟩ := Dq.tuple_inv h
  cases h2 with
  | cons a b =>
    cases b with
    | cons c d =>
      cases d
      obtain ⟨p, xs, rfl, e1, e2⟩ := Dq.list_inv a
      obtain ⟨q, ys, rfl, e3, e4⟩ := Dq.list_inv c
      exact ⟨_, p, q, xs, ys, rfl, h1, e1, e2, e3, e4⟩
/-- a paper that is not too great -/
structure PapOk (Ls : List (List Fl)) (tb : List (List Int)) : Prop where
  l1 : Ls.length ≤ 10
  l2 : ∀ L ∈ Ls, L.length ≤ 200
  t1 : tb.length ≤ 10
  t2 : ∀ r ∈ tb, r.length ≤ 20 ∧ ∀ x ∈ r, x.natAbs < 2 ^ 120
def tbBy (b : Int) (tb : List (List Int)) : List (List Int) := tb.map fun r => r.map fun x => x * b
theorem lay_row (L : List Fl) : (rowD L).canLay0 = true := by
  rw [rowD, PyData.canLay0]
  exact lay_all fun d hd => by
    obtain ⟨e, _, rfl⟩ := List.mem_map.mp hd
    simp [flD, PyData.canLay0, PyData.canLayAll0]
theorem lay_str (Ls : List (List Fl)) : (strD Ls).canLay0 = true := by
  rw [strD, PyData.canLay0]
  exact lay_all fun d hd => by
    obtain ⟨L, _, rfl⟩ := List.mem_map.mp hd
    exact lay_row L
theorem dep_row (L : List Fl) : dep (rowD L) ≤ 2 := by
  have := depA_le (k := 1) (ds := L.map flD) fun d hd => by
    obtain ⟨e, _, rfl⟩ := List.mem_map.mp hd
    simp [flD, dep, depA]
  rw [rowD, dep]
  omega
theorem dep_str (Ls : List (List Fl)) : dep (strD Ls) ≤ 3 := by
  have := depA_le (k := 2) (ds := Ls.map rowD) fun d hd => by
    obtain ⟨L, _, rfl⟩ := List.mem_map.mp hd
    exact dep_row L
  rw [strD, dep]
  omega
theorem wid_row {k : Nat} (L : List Fl) (h : L.length ≤ k) (h3 : 3 ≤ k) : wid (rowD L) ≤ k := by
  have := widA_le (k := k) (ds := L.map flD) fun d hd => by
    obtain ⟨e, _, rfl⟩ := List.mem_map.mp hd
    simp only [flD, wid, widA, List.length_cons, List.length_nil]
    omega
  rw [rowD, wid, List.length_map]
  omega
theorem wid_str {k : Nat} (Ls : List (List Fl)) (h : Ls.length ≤ k) (h2 : ∀ L ∈ Ls, L.length ≤ k) (h3 : 3 ≤ k) : wid (strD Ls) ≤ k := by
  have := widA_le (k := k) (ds := Ls.map rowD) fun d hd => by
    obtain ⟨L, hL, rfl⟩ := List.mem_map.mp hd
    exact wid_row L (h2 L hL) h3
  rw [strD, wid, List.length_map]
  omega
theorem noMA_all : ∀ {ds : List PyData}, (∀ d ∈ ds, noM d = true) → noMA ds = true
  | [], _ => rfl
  | d :: ds, h => by
    rw [noMA, h d List.mem_cons_self, noMA_all fun e he => h e (List.mem_cons_of_mem _ he)]
    rfl
theorem noM_ints (r : List Int) : noMA (r.map PyData.int) = true := noMA_all fun d hd => by
  obtain ⟨x, _, rfl⟩ := List.mem_map.mp hd
  rfl
theorem noM_str (Ls : List (List Fl)) : noM (strD Ls) = true := noMA_all fun d hd => by
  obtain ⟨L, _, rfl⟩ := List.mem_map.mp hd
  exact noMA_all fun d hd => by
    obtain ⟨e, _, rfl⟩ := List.mem_map.mp hd
    rfl
theorem noM_rows (rs : List (List Int)) : noM (.list (rs.map planD)) = true := noMA_all fun d hd => by
  obtain ⟨r, _, rfl⟩ := List.mem_map.mp hd
  exact noM_ints r
theorem pap_facts {Ls : List (List Fl)} {tb : List (List Int)} (k : PapOk Ls tb) : (papD Ls tb).canLay0 = true ∧ noM (papD Ls tb) = true ∧ (dep (papD Ls tb) < 12 ∧ 1 ≤ dep (papD Ls tb) ∧ wid (papD Ls tb) ≤ 1000) ∧ SeqAt.shaped (papD Ls tb) = true := by
  have h1 : (papD Ls tb).canLay0 = true := by
    rw [papD, PyData.canLay0]
    exact lay_all fun d hd => by
      simp only [List.mem_cons, List.not_mem_nil, or_false] at hd
      rcases hd with e | e
      · rw [e]; exact lay_str Ls
      · rw [e]; exact lay_rows tb
  have h2 : noM (papD Ls tb) = true := noMA_all fun d hd => by
    simp only [List.mem_cons, List.not_mem_nil, or_false] at hd
    rcases hd with e | e
    · rw [e]; exact noM_str Ls
    · rw [e]; exact noM_rows tb
  have d1 := dep_str Ls
  have d2 := dep_rows tb
  have w1 := wid_str (k := 200) Ls (by have := k.l1; omega) k.l2 (by omega)
  have w2 := wid_rows (k := 200) tb (by have := k.t1; omega) (fun r hr => by have := (k.t2 r hr).1; omega)
  have h3 : dep (papD Ls tb) < 12 ∧ 1 ≤ dep (papD Ls tb) ∧ wid (papD Ls tb) ≤ 1000 := by
    simp only [papD, dep, depA, wid, widA, List.length_cons, List.length_nil] at d1 d2 w1 w2 ⊢
    omega
  exact ⟨h1, h2, h3, shaped_of h1 (by omega)⟩
theorem tbBy_shape {b : Int} {Ls : List (List Fl)} {tb : List (List Int)} (k : PapOk Ls tb) : (papD Ls (tbBy b tb)).canLay0 = true ∧ noM (papD Ls (tbBy b tb)) = true ∧ (dep (papD Ls (tbBy b tb)) < 12 ∧ 1 ≤ dep (papD Ls (tbBy b tb)) ∧ wid (papD Ls (tbBy b tb)) ≤ 1000) ∧ SeqAt.shaped (papD Ls (tbBy b tb)) = true := by
  have h1 : (papD Ls (tbBy b tb)).canLay0 = true := by
    rw [papD, PyData.canLay0]
    exact lay_all fun d hd => by
      simp only [List.mem_cons, List.not_mem_nil, or_false] at hd
      rcases hd with e | e
      · rw [e]; exact lay_str Ls
      · rw [e]; exact lay_rows _
  have h2 : noM (papD Ls (tbBy b tb)) = true := noMA_all fun d hd => by
    simp only [List.mem_cons, List.not_mem_nil, or_false] at hd
    rcases hd with e | e
    · rw [e]; exact noM_str Ls
    · rw [e]; exact noM_rows _
  have d1 := dep_str Ls
  have d2 := dep_rows (tbBy b tb)
  have w1 := wid_str (k := 200) Ls (by have := k.l1; omega) k.l2 (by omega)
  have w2 := wid_rows (k := 200) (tbBy b tb) (by rw [tbBy, List.length_map]; have := k.t1; omega) (fun r hr => by
    obtain ⟨r2, h2, rfl⟩ := List.mem_map.mp hr
    rw [List.length_map]
    have := (k.t2 r2 h2).1
    omega)
  have h3 : dep (papD Ls (tbBy b tb)) < 12 ∧ 1 ≤ dep (papD Ls (tbBy b tb)) ∧ wid (papD Ls (tbBy b tb)) ≤ 1000 := by
    simp only [papD, dep, depA, wid, widA, List.length_cons, List.length_nil] at d1 d2 w1 w2 ⊢
    omega
  exact ⟨h1, h2, h3, shaped_of h1 (by omega)⟩
theorem Ow.pk {a : Addr} {m c : Int} {H H' : Hp} {v : V} {d : PyData} {S : List Addr} (p : Pk a m H c) (s : But a H H') (h : Ow H v d S) (n : ∀ b, b ∈ S → b ≠ a) : Ow H' v d S := by
  have lt : ∀ b ys, b ∈ [a] → H b ≠ some (.tup ys) := fun b ys hb e => by
    obtain ⟨_, _, e', _⟩ := p
    rw [List.mem_singleton.mp hb, e'] at e
    cases e
  exact Ow.kp lt (fun b o hb h => s _ _ (fun e => hb (by simp [e])) h) h fun b hb hb' => n b hb (List.mem_singleton.mp hb')
theorem ow_pap {H : Hp} {v : V} {Ls : List (List Fl)} {tb : List (List Int)} {S : List Addr} (h : Ow H v (papD Ls tb) S) : ∃ a p q ys Sa Sb, v = .ref a ∧ H a = some (.tup [.ref p, .ref q]) ∧ S = Sa ++ q :: Sb ∧ Ow H (.ref p) (strD Ls) Sa ∧ H q = some (.lst ys) ∧ OwAll H ys (tb.map planD) Sb := by
  unfold papD at h
  cases h with
  | tup h1 h2 =>
    cases h2 with
    | cons a b =>
      cases b with
      | cons c d =>
        cases d
        cases c with
        | lst h3 h4 =>
          obtain ⟨p, xs, rfl, _, _⟩ := a.dq.list_inv
          exact ⟨_, p, _, _, _, _, rfl, h1, by rw [List.append_nil], a, h3, h4⟩
/-- a paper whose table was turned about through its address -/
theorem pap_turn {H : Hp} {a p q : Addr} {ys : List V} {Ls : List (List Fl)} {tb : List (List Int)} {Sa Sb : List Addr} (h1 : H a = some (.tup [.ref p, .ref q])) (h2 : Ow H (.ref p) (strD Ls) Sa) (h3 : H q = some (.lst ys)) (h4 : OwAll H ys (tb.map planD) Sb) (nd : (Sa ++ q :: Sb).Nodup) : Dq (upd H q (.lst ys.reverse)) (.ref a) (papD Ls tb.reverse) := by
  have lt : ∀ b ys, b ∈ [q] → H b ≠ some (.tup ys) := fun b ys hb e => by
    rw [List.mem_singleton.mp hb, h3] at e
    cases e
  have kp : Kp [q] H (upd H q (.lst ys.reverse)) := Kp.upd (by simp) Kp.refl
  rw [List.nodup_append] at nd
  obtain ⟨_, n2, n3⟩ := nd
  rw [List.nodup_cons] at n2
  have haq : a ≠ q := fun e => by
    rw [e, h3] at h1
    cases h1
  refine .tup (lk_upd haq h1) (.cons (Ow.kp lt kp h2 fun b hb hb' => n3 b hb q List.mem_cons_self (List.mem_singleton.mp hb')).dq (.cons (.lst upd_same ?_) .nil))
  rw [List.map_reverse]
  exact (OwAll.kp lt kp h4 fun b hb hb' => n2.1 (by rw [← List.mem_singleton.mp hb']; exact hb)).dq.reverse
theorem PapOk.reverse {Ls : List (List Fl)} {tb : List (List Int)} (k : PapOk Ls tb) : PapOk Ls tb.reverse := ⟨k.l1, k.l2, by rw [List.length_reverse]; exact k.t1, fun r hr => k.t2 r (List.mem_reverse.mp hr)⟩
theorem tbBy_neg (tb : List (List Int)) : tbBy (-1) tb = tb.map fun r => r.map fun x => 0 - x := by
  unfold tbBy
  refine List.map_congr_left fun r _ => List.map_congr_left fun x _ => by omega
theorem tbBy_one (tb : List (List Int)) : tbBy 1 tb = tb := by
  unfold tbBy
  have : ∀ r : List Int, (r.map fun x => x * 1) = r := fun r => by simp
  simp
end Hf
/-! ## isinstance of a caught exception by a tuple of classes -/
namespace Hf
open PySem PySem.Spec PyProof.Rows L2
def rIsXT (K : PySem.W.Frag) : List V → Hp → VK → Prop := fun xs H Q =>
  (∃ (a D : Addr) (d : Option Addr) (tp : Addr) (cs : List V) (us : List Value) (b : Bool), xs = [.ref a, .ref tp] ∧ H a = some (exHO a (.ref D) d) ∧ (∀ dd, d = some dd → ∃ fs, H dd = some (.xd fs)) ∧ ExcC K D ∧ H tp = some (.tup cs) ∧ Paired ClsV cs us ∧ PySem.W.kitAny K (.ref D) us = some b ∧ Q (.bl b) H) ∨ rIsiT K xs H Q
theorem call_isXT {X : Cx} : CallR X (.builtin "isinstance") (rIsXT X.K) := by
  intro pins s σ H xs us Q I r h
  rcases h with ⟨a, D, d, tp, cs, ws, b, rfl, ha, hdd, C, hT, hcs, e, q⟩ | h
  · cases r with
    | cons rx rr =>
      cases rr with
      | cons rt rr =>
        cases rr
        cases rx
        cases rt
        obtain ⟨oe, vs, hget, hz, hv⟩ := exHO_at I.hok ha
        obtain ⟨od, J⟩ : ∃ od, PySem.W.InstAt s.heap a oe D od := by
          cases d with
          | none =>
            obtain ⟨oc, od, oda, osl⟩ := oe
            obtain ⟨h1, h2⟩ := hz
            dsimp only at h1 h2 hv
            subst h1 h2 hv
            exact ⟨none, hget, rfl, rfl, trivial⟩
          | some dd =>
            obtain ⟨fs, hfs⟩ := hdd dd rfl
            have x : ObjOk X.prog X.w H s.heap dd (.xd fs) := I.hok dd _ hfs
            obtain ⟨mA, ⟨o, es, ep, ho, _⟩, _⟩ := x
            obtain ⟨oc, od, oda, osl⟩ := oe
            obtain ⟨h1, h2⟩ := hz
            dsimp only at h1 h2 hv
            subst h1 h2 hv
            exact ⟨some o, hget, rfl, rfl, ho⟩
        have hcl : (PySem.W.clsIn X.K D).isSome = true := by
          obtain ⟨cd, hc, _⟩ := PySem.W.any_some C.hd
          rw [hc]
          rfl
        obtain ⟨_, its, rv, o, h1, h2, n, h3⟩ := (show ObjOk X.prog X.w H s.heap tp (.tup cs) from I.hok tp _ hT)
        have e3 := ClsV.all hcs rv
        subst e3
        obtain ⟨oc, od', dt, sl⟩ := o
        simp only at h2 h3
        subst h2 h3
        exact PySem.W.kia_tup (PySem.W.kitx_exc hcl C.hg C.hk C.hs C.ha C.hn C.ht C.hm) I.kIn J h1 e (fun z => nomatch z) fun tk => ⟨.bl b, H, I.tok tk, rfl, q⟩
  · exact call_isiT pins s σ H xs us Q I r h
theorem call_isXTK {X : Cx} (K : PySem.W.Frag) (e : X.K = K) : CallR X (.builtin "isinstance") (rIsXT K) := by subst e; exact call_isXT
/-- none of these classes -/
def KitN (K : PySem.W.Frag) (D : Addr) (cs : List V) : Prop := ∃ us, Paired ClsV cs us ∧ PySem.W.kitAny K (.ref D) us = some false
theorem KitN.nil {K : PySem.W.Frag} {D : Addr} : KitN K D [] := ⟨[], .nil, rfl⟩
theorem KitN.no {K : PySem.W.Frag} {D C : Addr} {cs : List V} (h : PySem.W.kitOne K (.ref D) (.ref C) = some false) (t : KitN K D cs) : KitN K D (.ref C :: cs) := by
  obtain ⟨us, h1, h2⟩ := t
  exact ⟨.ref C :: us, .cons (.own C) h1, kitAny_cons h (fun _ => h2) (fun z => nomatch z)⟩
/-- one of these classes -/
def KitY (K : PySem.W.Frag) (D : Addr) (cs : List V) : Prop := ∃ us, Paired ClsV cs us ∧ PySem.W.kitAny K (.ref D) us = some true
def KitR (cs : List V) : Prop := ∃ us, Paired ClsV cs us
theorem KitR.nil : KitR [] := ⟨[], .nil⟩
theorem KitR.cons {C : Addr} {cs : List V} (t : KitR cs) : KitR (.ref C :: cs) := by
  obtain ⟨us, h⟩ := t
  exact ⟨.ref C :: us, .cons (.own C) h⟩
theorem KitY.here {K : PySem.W.Frag} {D C : Addr} {cs : List V} (h : PySem.W.kitOne K (.ref D) (.ref C) = some true) (t : KitR cs) : KitY K D (.ref C :: cs) := by
  obtain ⟨us, h1⟩ := t
  exact ⟨.ref C :: us, .cons (.own C) h1, by unfold PySem.W.kitAny; rw [h]⟩
theorem KitY.there {K : PySem.W.Frag} {D C : Addr} {cs : List V} (h : PySem.W.kitOne K (.ref D) (.ref C) = some false) (t : KitY K D cs) : KitY K D (.ref C :: cs) := by
  obtain ⟨us, h1, h2⟩ := t
  exact ⟨.ref C :: us, .cons (.own C) h1, kitAny_cons h (fun _ => h2) (fun z => nomatch z)⟩
section
variable {K : PySem.W.Frag} {H : Hp} {Q : VK} {a D tp dd : Addr} {cs : List V}
theorem i_isXY (h : H a = some (exHO a (.ref D) none)) (hT : H tp = some (.tup cs)) (e : ExcC K D) (k : KitY K D cs) (q : Q (.bl true) H) : rIsXT K [.ref a, .ref tp] H Q := by
  obtain ⟨us, h1, h2⟩ := k
  exact .inl ⟨a, D, none, tp, cs, us, true, rfl, h, fun _ z => (nomatch z), e, hT, h1, h2, q⟩
theorem i_isXN (h : H a = some (exHO a (.ref D) none)) (hT : H tp = some (.tup cs)) (e : ExcC K D) (k : KitN K D cs) (q : Q (.bl false) H) : rIsXT K [.ref a, .ref tp] H Q := by
  obtain ⟨us, h1, h2⟩ := k
  exact .inl ⟨a, D, none, tp, cs, us, false, rfl, h, fun _ z => (nomatch z), e, hT, h1, h2, q⟩
theorem i_isXNd {fs : List (Str × V)} (h : H a = some (exHO a (.ref D) (some dd))) (hd : H dd = some (.xd fs)) (hT : H tp = some (.tup cs)) (e : ExcC K D) (k : KitN K D cs) (q : Q (.bl false) H) : rIsXT K [.ref a, .ref tp] H Q := by
  obtain ⟨us, h1, h2⟩ := k
  exact .inl ⟨a, D, some dd, tp, cs, us, false, rfl, h, fun x z => by cases z; exact ⟨fs, hd⟩, e, hT, h1, h2, q⟩
theorem i_isXT2 {x : V} {t c1 c2 : String} {b1 b2 : Bool} (hT : H tp = some (.tup [.ty c1, .ty c2])) (ty : TyX K H x (.type t)) (h1 : kitB t c1 = some b1) (h2 : kitB t c2 = some b2) (q : Q (.bl (b1 || b2)) H) : rIsXT K [x, .ref tp] H Q := .inr (i_isiT2 hT ty h1 h2 q)
end
end Hf
/-! ## exceptions with an __init__ of their own, which calls that of a base of the program -/
namespace Hf
open PySem PySem.Spec PyProof.Rows L2
/-- Base.__init__(self, ..), Base a class of the program without one of its own -/
theorem pe_hinit {X : L2.Cx} {B : Addr} {mc : Value} {x : Str} {e : Expr} {es : List Expr} {ta : TA} {p1 p2 pos : Pos} {pl : Sem Bool} (r : ClX.CRead X.K B mc) (k : PySem.W.findCls X.K (.ref B) mc "__init__" = some (.val (.builtin "ValueError.__init__"))) (hg : Gl X x) (hm : X.mg x = some (.ref B)) (ha : PA X (e :: es) ta)
    (hd : (x == ("__debug__" : Str)) = false := by decide)
    (hc : eval (.Call (.Attribute (.Name x p1) "__init__" p2) (e :: es) [] pos) X.env = (do
      let ov ← eval (.Name x p1) X.env
      standAt p2.atName
      let (f, first) ← holding [ov] (getMethod ov "__init__" pl)
      callWith pos f first (backTo pos (starEach (e :: es) X.env)) (backToKw pos (keywordEach [] X.env))) := by rfl)
    (he : starEach (e :: es) X.env = (false, eval e X.env) :: starEach es X.env := by rfl) (hpl : (backTo pos (starEach es X.env)).any (·.1) = false := by rfl) :
    PE X (.Call (.Attribute (.Name x p1) "__init__" p2) (e :: es) [] pos) (tVeI X.K ta) := by
  refine ⟨fun pins s σ H Q I h => ?_⟩
  refine PySem.W.methodCall_KW (ld_glob I hg hm ?_ hd) hc
  refine PySem.W.method_cls I.kIn r.ga (PySem.W.cls_value I.kIn r.rd k (by decide +kernel) ?_)
  show wpAny _ _ (callWith pos (Value.builtin "ValueError.__init__") [] (backTo pos (starEach (e :: es) X.env)) []) _ _ _
  refine PyProof.Rows.callWith_method1 (thn (ha.run pos pins _ σ H _ (I.tok _) h) fun us s1 ⟨vs, H1, I1, r1, a, C, ws, ev, hl, T, ea, q⟩ => ?_) he hpl
  subst ev
  cases r1 with
  | @cons _ u0 _ ur ra rw' =>
    obtain rfl : u0 = Value.ref a := ra
    have hlen : ur.length ≤ sizeLine := by
      rw [← Paired.length rw', sizeLine_eq]
      omega
    exact oinit_ok T I1 ea hlen fun s' J => ⟨.non, H1, J, rfl, q⟩
section
variable {σ : L2.St} {H : Hp} {Q : VK} {K : PySem.W.Frag} {a C : Addr} {ws vs dvs : List V} {ta : TA} {to te : TE} {f : Str} {y : V} {nx bk ct : L2.St → Hp → Prop} {rt : VK}
def VeR (K : PySem.W.Frag) (vs : List V) (H : Hp) (Q : VK) : Prop := ∃ (a C : Addr) (ws : List V), vs = .ref a :: ws ∧ ws.length ≤ 1000 ∧ OexC K C ∧ H a = some (exo a C none) ∧ Q .non H
theorem i_vei (h : ta σ H fun vs H1 => VeR K vs H1 Q) : tVeI K ta σ H Q := h
theorem i_ver (h : H a = some (exo a C none)) (T : OexC K C) (hl : ws.length ≤ 1000) (q : Q .non H) : VeR K (.ref a :: ws) H Q := ⟨a, C, ws, rfl, hl, T, h, q⟩
def OsR (K : PySem.W.Frag) (f : Str) (y x : V) (H : Hp) (Z : Hp → Prop) : Prop := ∃ a C : Addr, x = V.ref a ∧ OexC K C ∧ PySem.W.findIn K (.ref C) f = some none ∧
  ((H a = some (exo a C none) ∧ ∀ dx, H dx = none → dx ≠ a → Z (upd (upd H dx (exd dx [(f, y)])) a (exo a C (some dx)))) ∨
    ∃ (dx : Addr) (fs : List (Str × V)), H a = some (exo a C (some dx)) ∧ H dx = some (exd dx fs) ∧ fs.length ≤ 900 ∧ Z (upd H dx (exd dx ((f, y) :: fs))))
theorem i_ost (h : te σ H fun y H1 => to σ H1 fun x H2 => OsR K f y x H2 (nx σ)) : tOst K f to te ⟨nx, rt, bk, ct⟩ σ H := h
theorem i_osr {Z : Hp → Prop} (h : H a = some (exo a C none)) (T : OexC K C) (n : PySem.W.findIn K (.ref C) f = some none) (q : ∀ dx, H dx = none → dx ≠ a → Z (upd (upd H dx (exd dx [(f, y)])) a (exo a C (some dx)))) : OsR K f y (.ref a) H Z := ⟨a, C, rfl, T, n, .inl ⟨h, q⟩⟩
end
end Hf
/-! ### raise C(y), C's __init__ noting one field -/
namespace Hf
open PySem PySem.Spec PyProof.Rows L2
section
variable {σ : L2.St} {H : Hp} {Q : VK} {K : PySem.W.Frag} {C : Addr} {f : Str} {y : V} {sp : Sp}
/-- what such an __init__ promises -/
def IniSp (sp : Sp) (C : Addr) (f : Str) (y : V) : Prop := ∀ (a : Addr) (H : Hp) (Q : VK) (E : XK), H a = some (exo a C none) → (∀ dx, H dx = none → dx ≠ a → Q .non (upd (upd H dx (exd dx [(f, y)])) a (exo a C (some dx)))) → sp [.ref a, y] H Q E
theorem i_mko {dvs : List V} {ta : TA} {Z : XK} (h : ta σ H fun vs H1 => vs.length ≤ 1000 ∧ ∀ a, H1 a = none → sp (.ref a :: (vs ++ dvs)) (upd H1 a (exo a C none))
  (fun v H2 => v = .non ∧ ∃ (d : Addr) (fs : List (Str × V)), H2 a = some (exo a C (some d)) ∧ H2 d = some (exd d fs) ∧ H1 d = none ∧ Z (.ref C) (some d) (upd (del H2 a) d (.xd fs))) (fun _ _ _ => False)) : tMkO C sp dvs ta σ H Z := h
theorem i_mko1 {Z : XK} (s : IniSp sp C f y) (q : ∀ d H', H d = none → H' d = some (.xd [(f, y)]) → Same H H' → Z (.ref C) (some d) H') : ([y] : List V).length ≤ 1000 ∧ ∀ a, H a = none → sp (.ref a :: ([y] ++ [])) (upd H a (exo a C none))
  (fun v H2 => v = .non ∧ ∃ (d : Addr) (fs : List (Str × V)), H2 a = some (exo a C (some d)) ∧ H2 d = some (exd d fs) ∧ H d = none ∧ Z (.ref C) (some d) (upd (del H2 a) d (.xd fs))) (fun _ _ _ => False) := by
  refine ⟨by rw [List.length_singleton]; decide, fun a ha => s a _ _ _ upd_same fun dx h1 h2 => ⟨rfl, dx, [(f, y)], upd_same, ?_, ?_, ?_⟩⟩
  · rw [upd_ne h2, upd_same]
  · rw [upd_ne h2] at h1
    exact h1
  · rw [upd_ne h2] at h1
    refine q dx _ h1 upd_same fun b o e => ?_
    have n1 : b ≠ a := ne_of_none e ha
    have n2 : b ≠ dx := ne_of_none e h1
    rw [upd_ne n2, del_ne n1, upd_ne n1, upd_ne n2, upd_ne n1]
    exact e
/-! ### caught.field behind the suite -/
def tXfH (K : PySem.W.Frag) (f : Str) (te : TE) : TE := fun σ H Q => te σ H fun x H1 => ∃ (a C dd : Addr) (fs : List (Str × V)) (v : V), x = .ref a ∧ H1 a = some (exHO a (.ref C) (some dd)) ∧ H1 dd = some (.xd fs) ∧ ExcC K C ∧ PySem.W.findIn K (.ref C) f = some none ∧ fs.lookup f = some v ∧ Q v H1
theorem pe_xfH {X : Cx} (K : PySem.W.Frag) (eK : X.K = K) {e : Expr} {te : TE} {pos : Pos} {n : Str} (he : PE X e te) (hb : attributeBase e n X.env (eval e X.env) = eval e X.env := by rfl) : PE X (.Attribute e n pos) (tXfH K n te) := by
  subst eK
  refine ⟨fun pins s σ H Q I h => ?_⟩
  refine attr_of hb (thn (he.run pins s σ H _ I h) fun u s1 hh => ?_)
  obtain ⟨x, H1, I1, rx, a, C, dd, fs, v, ex, ha, hdd, T, hno, l, q⟩ := hh
  subst ex
  obtain rfl : u = Value.ref a := rx
  obtain ⟨oe, vs, hget, hz, hd⟩ := exHO_at I1.hok ha
  have hx : ObjOk X.prog X.w H1 s1.heap dd (.xd fs) := I1.hok dd _ hdd
  obtain ⟨mA, hns, hr⟩ := hx
  obtain ⟨od, ho, hl⟩ := lookIn_ns hns
  obtain ⟨u, hu, ru⟩ := RelO.some_of (v := v) (o := mA n) (by rw [← l]; exact hr n)
  have J : PySem.W.InstAt s1.heap a oe C (some od) := ⟨hget, hz.1, by unfold PySem.W.notCls; rw [hd] <;> rfl, by rw [hz.2]; exact ho⟩
  exact HandSPX.exc_get I1.kIn J T.hg T.hk T.hs (PySem.W.findObj_own T.hd hno rfl (by rw [hl, hu])) (handed_of ru) ⟨v, H1, I1.tok _, ru, q⟩
def XfR (K : PySem.W.Frag) (f : Str) (x : V) (H1 : Hp) (Q : VK) : Prop := ∃ (a C dd : Addr) (fs : List (Str × V)) (v : V), x = .ref a ∧ H1 a = some (exHO a (.ref C) (some dd)) ∧ H1 dd = some (.xd fs) ∧ ExcC K C ∧ PySem.W.findIn K (.ref C) f = some none ∧ fs.lookup f = some v ∧ Q v H1
theorem i_xfH {te : TE} (h : te σ H fun x H1 => XfR K f x H1 Q) : tXfH K f te σ H Q := h
theorem i_xfR {a dd : Addr} {v : V} (h : H a = some (exHO a (.ref C) (some dd))) (h1 : H dd = some (.xd [(f, v)])) (T : ExcC K C) (n : PySem.W.findIn K (.ref C) f = some none) (q : Q v H) : XfR K f (.ref a) H Q :=
  ⟨a, C, dd, _, v, rfl, h, h1, T, n, by simp [List.lookup], q⟩
end
end Hf
/-! ## what is looked at: any data -/
namespace Hf
open PySem PySem.Spec PyProof.Rows L2
def isNumD : PyData → Bool
  | .int _ => true
  | _ => false
def isLstD : PyData → Bool
  | .list _ => true
  | _ => false
def isTupD : PyData → Bool
  | .tuple _ => true
  | _ => false
def areNumsD (n : Int) : PyData → Bool
  | .list ds => decide ((ds.length : Int) = n) && ds.all isNumD
  | _ => false
def isRuleD : List PyData → Bool
  | [.int a, .int _] => decide (1 ≤ a)
  | _ => false
def isMoreD : List PyData → Bool
  | [.int a, .int b] => decide (1 ≤ a) && (decide (0 - a ≤ b) && decide (b ≤ a))
  | _ => false
def isRowsD (f s : Int) : List PyData → Bool
  | [.list rs] => decide ((rs.length : Int) = f + 1) && rs.all (areNumsD (s + 1))
  | _ => false
/-- a field of the first word w and what stands behind it -/
def isFieldD (f s : Int) (w : Str) (ds : List PyData) : Bool :=
  if w = PySem.Str.ofString "more" then isMoreD ds else if w = PySem.Str.ofString "lead" then isRuleD ds else if w = PySem.Str.ofString "table" then isRowsD f s ds else false
def isFldT (f s : Int) : PyData → Bool
  | .tuple (.str w :: r) => isFieldD f s w r
  | _ => false
/-- which field is the first that is none -/
def badB (f s : Int) (ds : List PyData) : Option Int :=
  if f < 0 ∨ s < 0 ∨ 10 < f ∨ 10 < s ∨ ds.length < 1 ∨ 5 < ds.length then some (-1) else Option.map Int.ofNat (ds.findIdx? fun d => !isFldT f s d)
/-- what may stand in the place of a field -/
def FldIn (d : PyData) : Prop := ∃ w r, d = .tuple (.str w :: r) ∧ wid (.tuple r) ≤ 1000
def batT (f s : Int) (ds : List PyData) : PyData := .tuple [.int f, .int s, .list ds]
theorem all_num : ∀ ms : List Int, (ms.map PyData.int).all isNumD = true
  | [] => rfl
  | m :: ms => by
    rw [List.map_cons, List.all_cons, all_num ms]
    rfl
theorem nums_plan (ms : List Int) (n : Int) : areNumsD n (planD ms) = decide ((ms.length : Int) = n) := by
  rw [planD, areNumsD, List.length_map, all_num, Bool.and_true]
theorem str_ne1 : ¬ (PySem.Str.ofString "lead" = PySem.Str.ofString "more") := by decide +kernel
theorem str_ne2 : ¬ (PySem.Str.ofString "table" = PySem.Str.ofString "more") := by decide +kernel
theorem str_ne3 : ¬ (PySem.Str.ofString "table" = PySem.Str.ofString "lead") := by decide +kernel
theorem fld_ok {f s : Int} {fl : Fld} : isFldT f s (fldD fl) = true ↔ FldOk f s fl := by
  cases fl with
  | more w t => simp [fldD, isFldT, isFieldD, isMoreD, FldOk]
  | lead w t => simp [fldD, isFldT, isFieldD, isRuleD, FldOk, str_ne1]
  | tab rows =>
    simp only [fldD, isFldT, isFieldD, isRowsD, FldOk, if_neg str_ne2, if_neg str_ne3, if_true, List.length_map, Bool.and_eq_true, decide_eq_true_eq, List.all_map, List.all_eq_true, Function.comp, nums_plan]
theorem fld_in {f s : Int} {fl : Fld} (hf : f ≤ 10) (hs : s ≤ 10) (k : FldOk f s fl) : FldIn (fldD fl) := by
  have w := wid_fld hf hs k
  cases fl with
  | more w t => exact ⟨_, _, rfl, by simp [wid, widA]⟩
  | lead w t => exact ⟨_, _, rfl, by simp [wid, widA]⟩
  | tab rows =>
    refine ⟨_, _, rfl, ?_⟩
    simp only [fldD, wid, widA, List.length_cons, List.length_nil] at w ⊢
    omega
theorem bad_none {f s : Int} {ds : List PyData} : badB f s ds = none ↔ (0 ≤ f ∧ f ≤ 10) ∧ (0 ≤ s ∧ s ≤ 10) ∧ (1 ≤ ds.length ∧ ds.length ≤ 5) ∧ ∀ d ∈ ds, isFldT f s d = true := by
  unfold badB
  split
  · simp
    omega
  · rename_i c
    rw [Option.map_eq_none_iff, List.findIdx?_eq_none_iff]
    refine ⟨fun h => ⟨by omega, by omega, by omega, fun d hd => ?_⟩, fun h d hd => ?_⟩
    · simpa using h d hd
    · simpa using h.2.2.2 d hd
theorem bad_ok {f s : Int} {fs : List Fld} : badB f s (fs.map fldD) = none ↔ BatOk f s fs := by
  rw [bad_none]
  constructor
  · rintro ⟨h1, h2, h3, h4⟩
    refine ⟨h1, h2, by rw [List.length_map] at h3; exact h3, fun x hx => fld_ok.mp (h4 _ (List.mem_map_of_mem hx))⟩
  · intro h
    refine ⟨h.hf, h.hs, by rw [List.length_map]; exact h.ne, fun d hd => ?_⟩
    obtain ⟨x, hx, rfl⟩ := List.mem_map.mp hd
    exact fld_ok.mpr (h.ok x hx)
theorem bat_in {f s : Int} {fs : List Fld} (h : BatOk f s fs) : ∀ d ∈ fs.map fldD, FldIn d := fun d hd => by
  obtain ⟨x, hx, rfl⟩ := List.mem_map.mp hd
  exact fld_in h.hf.2 h.hs.2 (h.ok x hx)
theorem bad_at {f s : Int} {ds : List PyData} (h : 0 ≤ f ∧ f ≤ 10 ∧ 0 ≤ s ∧ s ≤ 10 ∧ 1 ≤ ds.length ∧ ds.length ≤ 5) {k : Nat} {d : PyData} (hd : ds[k]? = some d) (h1 : isFldT f s d = false) (h2 : ∀ (j : Nat) e, j < k → ds[j]? = some e → isFldT f s e = true) : badB f s ds = some (k : Int) := by
  unfold badB
  rw [if_neg (by omega)]
  have hk := (List.getElem?_eq_some_iff.mp hd).1
  have : ds.findIdx? (fun d => !isFldT f s d) = some k := by
    rw [List.findIdx?_eq_some_iff_getElem]
    refine ⟨hk, ?_, fun j hj => ?_⟩
    · rw [(List.getElem?_eq_some_iff.mp hd).2, h1]
      rfl
    · rw [h2 j _ hj (List.getElem?_eq_getElem (by omega))]
      simp
  rw [this]
  rfl
section
variable {H : Hp} {v : V}
theorem Dq.tup_inv {ds : List PyData} (h : Dq H v (.tuple ds)) : ∃ a xs, v = .ref a ∧ H a = some (.tup xs) ∧ DqAll H xs ds := Dq.tuple_inv h
theorem batT_inv {f s : Int} {ds : List PyData} (h : Dq H v (batT f s ds)) : ∃ a p xs, v = .ref a ∧ H a = some (.tup [.int f, .int s, .ref p]) ∧ H p = some (.lst xs) ∧ DqAll H xs ds := by
  obtain ⟨a, xs, rfl, h1, h2⟩ := Dq.tuple_inv h
  cases h2 with
  | cons a b =>
    cases b with
    | cons c d =>
      cases d with
      | cons e f =>
        cases f
        obtain rfl := Dq.int_inv a
        obtain rfl := Dq.int_inv c
        obtain ⟨p, ys, rfl, h3, h4⟩ := Dq.list_inv e
        exact ⟨_, p, ys, rfl, h1, h3, h4⟩
theorem batT_mk {a p : Addr} {xs : List V} {f s : Int} {ds : List PyData} (h : H a = some (.tup [.int f, .int s, .ref p])) (h1 : H p = some (.lst xs)) (h2 : DqAll H xs ds) : Dq H (.ref a) (batT f s ds) := .tup h (.cons (.int _) (.cons (.int _) (.cons (.lst h1 h2) .nil)))
theorem fldT_inv {w : Str} {r : List PyData} (h : Dq H v (.tuple (.str w :: r))) : ∃ a xs, v = .ref a ∧ H a = some (.tup (.str w :: xs)) ∧ DqAll H xs r := by
  obtain ⟨a, xs, rfl, h1, h2⟩ := Dq.tuple_inv h
  cases h2 with
  | cons a b =>
    obtain rfl := Dq.str_inv a
    exact ⟨_, _, rfl, h1, b⟩
end
theorem atI_0 {x : V} {xs : List V} : atI (x :: xs) 0 = some x := atI_nat (j := 0) rfl
theorem atI_1 {x y : V} {xs : List V} : atI (x :: y :: xs) 1 = some y := atI_nat (j := 1) rfl
theorem atI_2 {x y z : V} {xs : List V} : atI (x :: y :: z :: xs) 2 = some z := atI_nat (j := 2) rfl
theorem i_ix3S {K : PySem.W.Frag} {H : Hp} {Q : VK} {p : Addr} {i : Int} {y1 y2 y3 : Str} (h : SqL K H p [.str y1, .str y2, .str y3]) (h0 : 0 ≤ i) (h1 : i < 3) (q : ∀ v, v = y1 ∨ v = y2 ∨ v = y3 → Q (.str v) H) : rIxL K (.ref p) (.int i) H Q := by
  obtain rfl | rfl | rfl : i = 0 ∨ i = 1 ∨ i = 2 := by omega
  · exact i_ixL h atI_0 (q _ (.inl rfl))
  · exact i_ixL h atI_1 (q _ (.inr (.inl rfl)))
  · exact i_ixL h atI_2 (q _ (.inr (.inr rfl)))
theorem bnot {b : Bool} (h : (!b) = true) : b = false := by simpa using h
theorem bnot' {b : Bool} (h : (!b) = false) : b = true := by simpa using h
theorem num_inv {d : PyData} (h : isNumD d = true) : ∃ x, d = .int x := by
  cases d <;> simp [isNumD] at h ⊢
theorem rule_inv {ds : List PyData} (h : isRuleD ds = true) : ∃ x y, ds = [.int x, .int y] ∧ 1 ≤ x := by
  unfold isRuleD at h
  split at h
  · exact ⟨_, _, rfl, of_decide_eq_true h⟩
  · cases h
theorem rule_short1 {d : PyData} : isRuleD [d] = false := by simp [isRuleD]
theorem rule_long {a b c : PyData} {ds : List PyData} : isRuleD (a :: b :: c :: ds) = false := by simp [isRuleD]
theorem rule_no1 {a b : PyData} (h : isNumD a = false) : isRuleD [a, b] = false := by
  cases a <;> simp [isRuleD, isNumD] at h ⊢
theorem rule_no2 {a b : PyData} (h : isNumD b = false) : isRuleD [a, b] = false := by
  cases b <;> simp [isRuleD, isNumD] at h ⊢
theorem more_rule {ds : List PyData} (h : isRuleD ds = false) : isMoreD ds = false := by
  unfold isMoreD
  split
  · rw [isRuleD] at h
    rw [h]
    rfl
  · rfl
theorem more_yes {x y : Int} (h : 1 ≤ x) (h2 : 0 - x ≤ y) : isMoreD [.int x, .int y] = decide (y ≤ x) := by
  rw [isMoreD, decide_eq_true h, decide_eq_true h2, Bool.true_and, Bool.true_and]
theorem more_no {x y : Int} (h2 : ¬ 0 - x ≤ y) : isMoreD [.int x, .int y] = false := by
  rw [isMoreD, decide_eq_false h2, Bool.false_and, Bool.and_false]
theorem rows_long {f s : Int} {a b : PyData} {ds : List PyData} : isRowsD f s (a :: b :: ds) = false := by simp [isRowsD]
theorem rows_one {f s : Int} {d : PyData} (h : isLstD d = false) : isRowsD f s [d] = false := by
  cases d <;> simp [isRowsD, isLstD] at h ⊢
theorem rows_no {f s : Int} {ds : List PyData} (h : ¬ (ds.length : Int) = f + 1) : isRowsD f s [.list ds] = false := by
  rw [isRowsD, decide_eq_false h, Bool.false_and]
theorem rows_yes {f s : Int} {ds : List PyData} (h : (ds.length : Int) = f + 1) : isRowsD f s [.list ds] = ds.all (areNumsD (s + 1)) := by
  rw [isRowsD, decide_eq_true h, Bool.true_and]
theorem dq_two_ints {H : Hp} {xs : List V} {x y : Int} (h : DqAll H xs [.int x, .int y]) : xs = [.int x, .int y] := DqAll.ints (ms := [x, y]) h
/-! ### how many are kept: none, or some -/
section
variable {σ : L2.St} {H H1 : Hp} {Q : VK} {K : PySem.W.Frag} {D l : Addr} {g : TG} {tt : TT} {te : TE} {vs : List Nat} {xs : List V} {Qd : Hp → Prop}
theorem lcL_fl (b : Nat → Bool) (nD : H1 D = none) (hn : xs.length ≤ 1000000) (hx : SqL K H1 l xs)
    (hs : ∀ (i : Nat) (x : V) H (Z : VK) (Y : Hp → Prop), xs[i]? = some x → Same H1 H → (∀ v H4, b i = true → Same H H4 → Z v H4) → (∀ H4, b i = false → Same H H4 → Y H4) → LcTurn g tt te vs σ x H Z Y)
    (hd : ∀ acc H, H D = some (.lst acc) → Same H1 H → ((acc.length : Int) = 0 ↔ ∀ i, i < xs.length → b i = false) → acc.length ≤ xs.length → Qd H) :
    ∃ W : Nat → Nat → Hp → Prop, (∃ m, W 0 m (upd H1 D (.lst []))) ∧ ∀ i m H, W i m H →
      ((Itl K l).stop i H ∧ Qd H) ∨ ((Itl K l).go i H ∧ ∃ Nx : Hp → Prop, (∀ H', Nx H' → ∃ m', m' < m ∧ W (i + 1) m' H') ∧ ∀ x H', (Itl K l).yld i H x H' → g x (wipe σ vs) H' fun σ2 H2 => wipe σ2 vs = wipe σ vs ∧ tt σ2 H2 fun b H3 =>
        if b = true then te σ2 H3 fun y H4 => ∃ acc, H4 D = some (.lst acc) ∧ acc.length < sizeLine ∧ Nx (upd H4 D (.lst (acc ++ [y]))) else Nx H3) := by
  refine lcL (xs := xs) (fun i acc H => Same H1 H ∧ acc.length ≤ i ∧ (acc = [] ↔ ∀ j, j < i → b j = false)) nD ⟨Same.new nD, Nat.le_refl _, by simp⟩ (fun i acc H _ q _ => q.1.seq hx) ?_ ?_
  · rintro i x acc H Z Y hi ⟨r1, r2, r3⟩ hD hz hy
    have hi' : i < xs.length := (List.getElem?_eq_some_iff.mp hi).1
    refine hs i x H Z Y hi r1 (fun v H4 e s => hz _ _ (s _ _ hD) (sz4' (by omega)) ⟨Same.mut (r1.trans s) nD, by rw [List.length_append]; show _ + 1 ≤ _; omega, ⟨fun q => by simp at q, fun q => ?_⟩⟩) (fun H4 e s => hy _ (s _ _ hD) ⟨r1.trans s, by omega, ?_⟩)
    · rw [q i (by omega)] at e
      cases e
    · rw [r3]
      refine ⟨fun q j hj => ?_, fun q j hj => q j (by omega)⟩
      by_cases c : j = i
      · rw [c]; exact e
      · exact q j (by omega)
  · rintro acc H ⟨r1, r2, r3⟩ hD
    refine hd acc H hD r1 ?_ r2
    rw [← r3, ← List.length_eq_zero_iff]
    omega
end
theorem all_at {α : Type} {p : α → Bool} {xs : List α} : xs.all p = true ↔ ∀ (i : Nat) (x : α), xs[i]? = some x → p x = true := by
  rw [List.all_eq_true]
  refine ⟨fun h i x e => h x (List.mem_of_getElem? e), fun h x hx => ?_⟩
  obtain ⟨i, hi, rfl⟩ := List.mem_iff_getElem.mp hx
  exact h i _ (List.getElem?_eq_getElem hi)
/-- the end of `len([.. if not p]) == 0` -/
theorem len0_all {p : PyData → Bool} {ds : List PyData} {n : Nat} {m : Nat} (e : n = ds.length) (h : (m : Int) = 0 ↔ ∀ i, i < n → (!((ds[i]?).map p).getD true) = false) : decide ((m : Int) = 0) = ds.all p := by
  subst e
  rw [Bool.eq_iff_iff, decide_eq_true_iff, h, all_at]
  refine ⟨fun q i x e => ?_, fun q i hi => ?_⟩
  · have := q i (List.getElem?_eq_some_iff.mp e).1
    rw [e] at this
    simpa using this
  · rw [List.getElem?_eq_getElem hi]
    simp [q i _ (List.getElem?_eq_getElem hi)]
end Hf
/-! ### what may be copied and bent: words with numbers, tables of rows -/
namespace Hf
open PySem PySem.Spec PyProof.Rows L2
def CpOk (d : PyData) : Prop := (∃ (w : Str) (ms : List Int), d = .tuple (.str w :: ms.map PyData.int) ∧ ¬ w = PySem.Str.ofString "table" ∧ PyData.strOk w = true ∧ ms.length ≤ 4) ∨ (∃ rows : List (List Int), d = fldD (.tab rows) ∧ rows.length ≤ 20 ∧ ∀ r ∈ rows, r.length ≤ 20)
theorem cp_word {w : Str} (ms : List Int) (h : ¬ w = PySem.Str.ofString "table") (s : PyData.strOk w = true) (l : ms.length ≤ 4) : CpOk (.tuple (.str w :: ms.map PyData.int)) := .inl ⟨w, ms, rfl, h, s, l⟩
theorem cp_tab {rows : List (List Int)} (h : rows.length ≤ 20) (h2 : ∀ r ∈ rows, r.length ≤ 20) : CpOk (fldD (.tab rows)) := .inr ⟨rows, rfl, h, h2⟩
theorem cp_fld {f s : Int} {fl : Fld} (hf : f ≤ 10) (hs : s ≤ 10) (k : FldOk f s fl) : CpOk (fldD fl) := by
  cases fl with
  | more w t => exact cp_word [w, t] (by decide +kernel) (by decide +kernel) (by simp)
  | lead w t => exact cp_word [w, t] (by decide +kernel) (by decide +kernel) (by simp)
  | tab rows =>
    obtain ⟨h1, h2⟩ := k
    exact cp_tab (by omega) fun r hr => by have := h2 r hr; omega
theorem word_less {f s : Int} {w0 : Str} (hw : w0 = PySem.Str.ofString "more" ∨ w0 = PySem.Str.ofString "lead") {z : Int} {r : List PyData} (hz : z < 1) : isFieldD f s w0 (.int z :: r) = false := by
  rcases hw with rfl | rfl
  · rw [isFieldD, if_pos rfl]
    unfold isMoreD
    split
    · rename_i e; cases e
      rw [decide_eq_false (by omega)]
      rfl
    · rfl
  · rw [isFieldD, if_neg str_ne1, if_pos rfl]
    unfold isRuleD
    split
    · rename_i e; cases e
      exact decide_eq_false (by omega)
    · rfl
theorem word_len {f s : Int} {w0 : Str} (hw : w0 = PySem.Str.ofString "more" ∨ w0 = PySem.Str.ofString "lead") {ds : List PyData} (hl : ds.length ≠ 2) : isFieldD f s w0 ds = false := by
  rcases hw with rfl | rfl
  · rw [isFieldD, if_pos rfl]
    unfold isMoreD
    split
    · exact absurd rfl hl
    · rfl
  · rw [isFieldD, if_neg str_ne1, if_pos rfl]
    unfold isRuleD
    split
    · exact absurd rfl hl
    · rfl
theorem fld_no {f s : Int} {fl : Fld} (h : ¬ FldOk f s fl) : isFldT f s (fldD fl) = false := by
  cases e : isFldT f s (fldD fl) with
  | false => rfl
  | true => exact absurd (fld_ok.mp e) h
theorem CpOk.fin {d : PyData} (h : CpOk d) : FldIn d := by
  rcases h with ⟨w, ms, rfl, _, _, h⟩ | ⟨rows, rfl, h1, h2⟩
  · refine ⟨w, _, rfl, ?_⟩
    rw [wid, wid_ints, List.length_map]
    omega
  · have := wid_rows (k := 20) rows h1 h2
    refine ⟨_, _, rfl, ?_⟩
    simp only [wid, widA, List.length_cons, List.length_nil, List.length_map] at this ⊢
    omega
theorem CpOk.lay {d : PyData} (h : CpOk d) : d.canLay0 = true := by
  rcases h with ⟨w, ms, rfl, _, s, _⟩ | ⟨rows, rfl, _, _⟩
  · simp [PyData.canLay0, PyData.canLayAll0, s, canLay_ints]
  · exact lay_fld _
theorem CpOk.dep {d : PyData} (h : CpOk d) : dep d ≤ 3 := by
  rcases h with ⟨w, ms, rfl, _, _, _⟩ | ⟨rows, rfl, _, _⟩
  · simp [Hf.dep, depA, dep_ints]
  · exact dep_fld _
theorem shaped_batT {f s : Int} {ds : List PyData} (h : ∀ d ∈ ds, CpOk d) : SeqAt.shaped (batT f s ds) = true := by
  have l : PyData.canLayAll0 ds = true := lay_all fun d hd => (h d hd).lay
  have e : depA ds ≤ 3 := depA_le fun d hd => (h d hd).dep
  refine shaped_of (by simp [batT, PyData.canLay0, PyData.canLayAll0, l]) ?_
  simp only [batT, Hf.dep, depA]
  omega
end Hf
namespace Hf
open PySem PySem.Spec PyProof.Rows L2
theorem i_nin {K : PySem.W.Frag} {H : Hp} {Q : VK} {p : Addr} {x : V} {xs : List V} {b : Bool} (h : SqL K H p xs) (f : flatV x = true) (g : xs.all flatV = true) (e : inV x xs = b) (q : Q (.bl (!b)) H) : rIn K true x (.ref p) H Q := ⟨p, xs, rfl, .inl h, f, g, by rw [e]; exact q⟩
theorem i_ninT {K : PySem.W.Frag} {H : Hp} {Q : VK} {p : Addr} {x : V} {xs : List V} {b : Bool} (h : SqT K H p xs) (f : flatV x = true) (g : xs.all flatV = true) (e : inV x xs = b) (q : Q (.bl (!b)) H) : rIn K true x (.ref p) H Q := ⟨p, xs, rfl, .inr h, f, g, by rw [e]; exact q⟩
theorem i_neDe {K : PySem.W.Frag} {H : Hp} {Q : VK} {v w : V} {d e : PyData} (h1 : Dq H v d) (h2 : Dq H w e) (s1 : SeqAt.shaped d = true) (s2 : SeqAt.shaped e = true) (q : Q (.bl (!PyData.eqv d e)) H) : rNeD K v w H Q := ⟨d, e, h1.dp, h2.dp, s1, s2, q⟩
end Hf
/-! ## owned things, more of them -/
namespace Hf
open PySem PySem.Spec PyProof.Rows L2
section
variable {σ : L2.St} {H H1 : Hp} {Q : VK} {K : PySem.W.Frag} {D a l : Addr} {wi : TI} {g : TG} {tt : TT} {te : TE} {vs : List Nat} {lo : Int} {n : Nat} {xs : List V} {Qd : Hp → Prop}
theorem lcR_own (f : Nat → PyData) (nD : H1 D = none) (hn : n ≤ 1000000)
    (hs : ∀ (i : Nat) H (Z : VK) (Y : Hp → Prop), i < n → Same H1 H → (∀ v S H4, OwN H H4 v (f i) S → Same H H4 → Z v H4) → LcTurn g tt te vs σ (.int (lo + i)) H Z Y)
    (hd : ∀ S H, OwN H1 H (.ref D) (.list ((List.range n).map f)) S → Same H1 H → Qd H) :
    ∃ W : Nat → Nat → Hp → Prop, (∃ m, W 0 m (upd H1 D (.lst []))) ∧ ∀ i m H, W i m H →
      ((Itr lo n).stop i H ∧ Qd H) ∨ ((Itr lo n).go i H ∧ ∃ Nx : Hp → Prop, (∀ H', Nx H' → ∃ m', m' < m ∧ W (i + 1) m' H') ∧ ∀ x H', (Itr lo n).yld i H x H' → g x (wipe σ vs) H' fun σ2 H2 => wipe σ2 vs = wipe σ vs ∧ tt σ2 H2 fun b H3 =>
        if b = true then te σ2 H3 fun y H4 => ∃ acc, H4 D = some (.lst acc) ∧ acc.length < sizeLine ∧ Nx (upd H4 D (.lst (acc ++ [y]))) else Nx H3) := by
  refine lcR (fun i acc H => acc.length = i ∧ Same H1 H ∧ ∃ S, OwAll H acc ((List.range i).map f) S ∧ S.Nodup ∧ D ∉ S ∧ ∀ b, b ∈ S → H1 b = none) nD ⟨rfl, Same.new nD, [], .nil, List.nodup_nil, by simp, nofun⟩ ?_ ?_
  · rintro i acc H Z Y hi ⟨h1, h2, S, h3, h4, h5, h6⟩ hD hz _
    refine hs i H Z Y hi h2 fun v S' H4 k1 k2 => ?_
    have hDS : D ∉ S' := fun z => by
      have := k1.nw D z
      rw [hD] at this
      cases this
    have kp : Kp [D] H4 (upd H4 D (.lst (acc ++ [v]))) := Kp.upd (by simp) Kp.refl
    have ht : ∀ b ys, b ∈ [D] → H4 b ≠ some (.tup ys) := fun b ys hb e => by
      rw [List.mem_singleton.mp hb, k2 _ _ hD] at e
      cases e
    have hd1 : ∀ b, b ∈ S → b ∉ [D] := fun b hb hb' => h5 (by rw [← List.mem_singleton.mp hb']; exact hb)
    have hd2 : ∀ b, b ∈ S' → b ∉ [D] := fun b hb hb' => hDS (by rw [← List.mem_singleton.mp hb']; exact hb)
    refine hz _ _ (k2 _ _ hD) (sz4' (by omega)) ⟨by rw [List.length_append, h1]; rfl, Same.mut (h2.trans k2) nD, S ++ S', ?_, ?_, ?_, ?_⟩
    · rw [List.range_succ, List.map_append]
      exact OwAll.snoc (OwAll.kp ht kp (h3.same k2) hd1) (Ow.kp ht kp k1.ow hd2)
    · rw [List.nodup_append]
      refine ⟨h4, k1.nd, fun b hb c hc e => ?_⟩
      subst e
      obtain ⟨ys, e'⟩ := h3.lists b hb
      rw [k1.nw b hc] at e'
      cases e'
    · intro z
      rcases List.mem_append.mp z with z | z
      · exact h5 z
      · exact hDS z
    · intro b hb
      rcases List.mem_append.mp hb with z | z
      · exact h6 b z
      · exact h2.free (k1.nw b z)
  · rintro acc H ⟨h1, h2, S, h3, h4, h5, h6⟩ hD
    exact hd (D :: S) H ⟨.lst hD h3, List.nodup_cons.mpr ⟨h5, h4⟩, fun b hb => by
      rcases List.mem_cons.mp hb with z | z
      · rw [z]; exact nD
      · exact h6 b z⟩ h2
theorem lcT_own (f : Nat → PyData) (nD : H1 D = none) (hn : xs.length ≤ 1000000) (hx : SqT K H1 l xs)
    (hs : ∀ (i : Nat) (x : V) H (Z : VK) (Y : Hp → Prop), xs[i]? = some x → Same H1 H → (∀ v S H4, OwN H H4 v (f i) S → Same H H4 → Z v H4) → LcTurn g tt te vs σ x H Z Y)
    (hd : ∀ S H, OwN H1 H (.ref D) (.list ((List.range xs.length).map f)) S → Same H1 H → Qd H) :
    ∃ W : Nat → Nat → Hp → Prop, (∃ m, W 0 m (upd H1 D (.lst []))) ∧ ∀ i m H, W i m H →
      ((Itt K l).stop i H ∧ Qd H) ∨ ((Itt K l).go i H ∧ ∃ Nx : Hp → Prop, (∀ H', Nx H' → ∃ m', m' < m ∧ W (i + 1) m' H') ∧ ∀ x H', (Itt K l).yld i H x H' → g x (wipe σ vs) H' fun σ2 H2 => wipe σ2 vs = wipe σ vs ∧ tt σ2 H2 fun b H3 =>
        if b = true then te σ2 H3 fun y H4 => ∃ acc, H4 D = some (.lst acc) ∧ acc.length < sizeLine ∧ Nx (upd H4 D (.lst (acc ++ [y]))) else Nx H3) := by
  refine lcT (xs := xs) (fun i acc H => acc.length = i ∧ Same H1 H ∧ ∃ S, OwAll H acc ((List.range i).map f) S ∧ S.Nodup ∧ D ∉ S ∧ ∀ b, b ∈ S → H1 b = none) nD ⟨rfl, Same.new nD, [], .nil, List.nodup_nil, by simp, nofun⟩ (fun i acc H _ q _ => Same.seqT q.2.1 hx) ?_ ?_
  · rintro i x acc H Z Y hi ⟨h1, h2, S, h3, h4, h5, h6⟩ hD hz _
    have hi' : i < xs.length := (List.getElem?_eq_some_iff.mp hi).1
    refine hs i x H Z Y hi h2 fun v S' H4 k1 k2 => ?_
    have hDS : D ∉ S' := fun z => by
      have := k1.nw D z
      rw [hD] at this
      cases this
    have kp : Kp [D] H4 (upd H4 D (.lst (acc ++ [v]))) := Kp.upd (by simp) Kp.refl
    have ht : ∀ b ys, b ∈ [D] → H4 b ≠ some (.tup ys) := fun b ys hb e => by
      rw [List.mem_singleton.mp hb, k2 _ _ hD] at e
      cases e
    have hd1 : ∀ b, b ∈ S → b ∉ [D] := fun b hb hb' => h5 (by rw [← List.mem_singleton.mp hb']; exact hb)
    have hd2 : ∀ b, b ∈ S' → b ∉ [D] := fun b hb hb' => hDS (by rw [← List.mem_singleton.mp hb']; exact hb)
    refine hz _ _ (k2 _ _ hD) (sz4' (by omega)) ⟨by rw [List.length_append, h1]; rfl, Same.mut (h2.trans k2) nD, S ++ S', ?_, ?_, ?_, ?_⟩
    · rw [List.range_succ, List.map_append]
      exact OwAll.snoc (OwAll.kp ht kp (h3.same k2) hd1) (Ow.kp ht kp k1.ow hd2)
    · rw [List.nodup_append]
      refine ⟨h4, k1.nd, fun b hb c hc e => ?_⟩
      subst e
      obtain ⟨ys, e'⟩ := h3.lists b hb
      rw [k1.nw b hc] at e'
      cases e'
    · intro z
      rcases List.mem_append.mp z with z | z
      · exact h5 z
      · exact hDS z
    · intro b hb
      rcases List.mem_append.mp hb with z | z
      · exact h6 b z
      · exact h2.free (k1.nw b z)
  · rintro acc H ⟨h1, h2, S, h3, h4, h5, h6⟩ hD
    exact hd (D :: S) H ⟨.lst hD h3, List.nodup_cons.mpr ⟨h5, h4⟩, fun b hb => by
      rcases List.mem_cons.mp hb with z | z
      · rw [z]; exact nD
      · exact h6 b z⟩ h2
end
/-- a tuple of flat things and a last owned one -/
theorem OwN.bat {H H1 : Hp} {v : V} {f s : Int} {d : PyData} {S : List Addr} {q : Addr} (h : OwN H H1 v d S) (hq : H1 q = none) : OwN H (upd H1 q (.tup [.int f, .int s, v])) (.ref q) (.tuple [.int f, .int s, d]) S := by
  refine ⟨?_, h.nd, h.nw⟩
  have := Ow.tup (H := upd H1 q (.tup [.int f, .int s, v])) (a := q) upd_same (OwAll.cons (S := []) (.int f) (OwAll.cons (S := []) (.int s) (OwAll.cons (h.ow.same (Same.new hq)) .nil)))
  rw [List.append_nil] at this
  exact this
theorem OwN.tab {H H1 : Hp} {v : V} {w : Str} {d : PyData} {S : List Addr} {q : Addr} (h : OwN H H1 v d S) (hq : H1 q = none) : OwN H (upd H1 q (.tup [.str w, v])) (.ref q) (.tuple [.str w, d]) S := by
  refine ⟨?_, h.nd, h.nw⟩
  have := Ow.tup (H := upd H1 q (.tup [.str w, v])) (a := q) upd_same (OwAll.cons (S := []) (.str w) (OwAll.cons (h.ow.same (Same.new hq)) .nil))
  rw [List.append_nil] at this
  exact this
theorem own_word {H H1 : Hp} {w : Str} {a b : Int} {q : Addr} : OwN H (upd H1 q (.tup [.str w, .int a, .int b])) (.ref q) (.tuple [.str w, .int a, .int b]) [] :=
  ⟨Ow.tup upd_same (OwAll.cons (S := []) (.str w) (OwAll.cons (S := []) (.int a) (OwAll.cons (S := []) (.int b) .nil))), List.nodup_nil, nofun⟩
theorem own_list {H : Hp} {D : Addr} {H1 : Hp} {r : List Int} (hD : H1 D = some (.lst (r.map V.int))) (n : H D = none) : OwN H H1 (.ref D) (planD r) [D] :=
  ⟨.lst hD (own_ints _), by simp, fun b hb => by rw [List.mem_singleton.mp hb]; exact n⟩
theorem DqAll.append {H : Hp} : ∀ {vs ws : List V} {ds es : List PyData}, DqAll H vs ds → DqAll H ws es → DqAll H (vs ++ ws) (ds ++ es)
  | _, _, _, _, .nil, h => h
  | _, _, _, _, .cons h q, g => .cons h (DqAll.append q g)
theorem DqAll.rep6 {H : Hp} {vs : List V} {ds : List PyData} (h : DqAll H vs ds) : ∀ n : Nat, DqAll H (List.replicate n vs).flatten (List.replicate n ds).flatten
  | 0 => .nil
  | n + 1 => by
    rw [List.replicate_succ, List.replicate_succ, List.flatten_cons, List.flatten_cons]
    exact h.append (DqAll.rep6 h n)
theorem flat_len {α : Type} {xs : List α} : ∀ n : Nat, (List.replicate n xs).flatten.length = n * xs.length
  | 0 => by simp
  | n + 1 => by
    rw [List.replicate_succ, List.flatten_cons, List.length_append, flat_len n, Nat.succ_mul]
    omega
theorem flat_mem {α : Type} {xs : List α} {x : α} {n : Nat} (h : x ∈ (List.replicate n xs).flatten) : x ∈ xs := by
  obtain ⟨l, h1, h2⟩ := List.mem_flatten.mp h
  rw [(List.mem_replicate.mp h1).2] at h2
  exact h2
theorem ne_hid {a b : Addr} {H : Hp} {o : HO} (h : hid [a] H b = some o) : b ≠ a := fun e => by
  rw [e, hid_in (by simp)] at h
  cases h
theorem DqAll.set {H : Hp} : ∀ {vs : List V} {ds : List PyData} {w : V} {d : PyData}, DqAll H vs ds → Dq H w d → ∀ n : Nat, DqAll H (vs.set n w) (ds.set n d)
  | _, _, _, _, .nil, _, _ => .nil
  | _, _, _, _, .cons _ q, g, 0 => .cons g q
  | _, _, _, _, .cons h q, g, n + 1 => .cons h (DqAll.set q g n)
theorem same_hidS {G H : Hp} {S : List Addr} (s : Same G H) (h : ∀ b, b ∈ S → G b = none) : Same G (hid S H) := fun b o e => by
  have n : b ∉ S := fun z => by rw [h b z] at e; cases e
  rw [hid_out n]
  exact s b o e
/-- more is hidden: what is new -/
theorem hid_more {H H1 : Hp} {R : Addr} {S : List Addr} (s : Same H H1) (n : H R = none) : Same (hid S H) (hid (R :: S) H1) := fun b o h => by
  by_cases c : b ∈ S
  · rw [hid_in c] at h
    cases h
  · rw [hid_out c] at h
    have : b ∉ R :: S := fun z => by
      rcases List.mem_cons.mp z with e | e
      · rw [e, n] at h; cases h
      · exact c e
    rw [hid_out this]
    exact s b o h
theorem hid_less {H : Hp} {S T : List Addr} (h : ∀ b, b ∈ T → b ∈ S) : Same (hid S H) (hid T H) := fun b o e => by
  by_cases c : b ∈ S
  · rw [hid_in c] at e
    cases e
  · rw [hid_out c] at e
    rw [hid_out fun z => c (h b z)]
    exact e
theorem noMA_every : ∀ {ds : List PyData}, (∀ d ∈ ds, noM d = true) → noMA ds = true
  | [], _ => by simp [noMA]
  | d :: ds, h => by
    rw [noMA, h d List.mem_cons_self, noMA_every fun e he => h e (List.mem_cons_of_mem _ he)]
    rfl
theorem noM_int (r : List Int) : noMA (r.map PyData.int) = true := noMA_every fun d hd => by
  obtain ⟨x, _, rfl⟩ := List.mem_map.mp hd
  simp [noM]
theorem noM_fld (fl : Fld) : noM (fldD fl) = true := by
  cases fl with
  | more w t => simp [fldD, noM, noMA, mkS]; decide +kernel
  | lead w t => simp [fldD, noM, noMA, mkS]; decide +kernel
  | tab rows =>
    have : noMA (rows.map planD) = true := noMA_every fun d hd => by
      obtain ⟨x, _, rfl⟩ := List.mem_map.mp hd
      exact noM_int x
    simp [fldD, noM, noMA, mkS, this]
    decide +kernel
theorem bat_facts {f s : Int} {fs : List Fld} (k : BatOk f s fs) : (batD f s fs).canLay0 = true ∧ noM (batD f s fs) = true ∧ (dep (batD f s fs) < 12 ∧ 1 ≤ dep (batD f s fs) ∧ wid (batD f s fs) ≤ 1000) := by
  have h2 : noM (batD f s fs) = true := by
    have : noMA (fs.map fldD) = true := noMA_every fun d hd => by
      obtain ⟨x, _, rfl⟩ := List.mem_map.mp hd
      exact noM_fld x
    simp [batD, noM, noMA, this]
  have h3 := dep_bat f s fs
  have h4 := wid_bat k.hf.2 k.hs.2 (by have := k.ne; omega) k.ok
  refine ⟨lay_bat f s fs, h2, by omega, ?_, by omega⟩
  simp only [batD, dep]
  omega
theorem Dq.word {H : Hp} {t : Addr} {w : Str} {k : Int} (h : H t = some (.tup [.str w, .int k])) : Dq H (.ref t) (.tuple [.str w, .int k]) := .tup h (.cons (.str w) (.cons (.int k) .nil))
theorem Dq.word0 {H : Hp} {t : Addr} {w : Str} (h : H t = some (.tup [.str w, .non])) : Dq H (.ref t) (.tuple [.str w, .none]) := .tup h (.cons (.str w) (.cons .non .nil))
theorem shaped_word0 {w : Str} (h : PyData.strOk w = true) : SeqAt.shaped (.tuple [.str w, .none]) = true := by
  refine shaped_of (by simp [PyData.canLay0, PyData.canLayAll0, h]) ?_
  simp [dep, depA]
theorem shaped_word {w : Str} {k : Int} (h : PyData.strOk w = true) : SeqAt.shaped (.tuple [.str w, .int k]) = true := by
  refine shaped_of (by simp [PyData.canLay0, PyData.canLayAll0, h]) ?_
  simp [dep, depA]
theorem OwN.tupOf {H H1 : Hp} {D t : Addr} {xs : List V} {ds : List PyData} {S : List Addr} (h : OwN H H1 (.ref D) (.list ds) S) (hD : H1 D = some (.lst xs)) (ht : H1 t = none) : ∃ S', OwN H (upd H1 t (.tup xs)) (.ref t) (.tuple ds) S' := by
  obtain ⟨o, nd, nw⟩ := h
  cases o with
  | @lst _ ys _ S' h1 h2 =>
    rw [h1] at hD
    cases hD
    exact ⟨S', .tup upd_same (h2.same (Same.new ht)), (List.nodup_cons.mp nd).2, fun b hb => nw b (List.mem_cons_of_mem _ hb)⟩
mutual
theorem Ow.hid {H : Hp} {T : List Addr} (ht : ∀ b xs, b ∈ T → H b ≠ some (.tup xs)) : ∀ {v : V} {d : PyData} {S : List Addr}, Ow H v d S → (∀ b, b ∈ S → b ∉ T) → Dq (hid T H) v d
  | _, _, _, .non, _ => .non
  | _, _, _, .bl b, _ => .bl b
  | _, _, _, .int i, _ => .int i
  | _, _, _, .str x, _ => .str x
  | _, _, _, .lst h q, n => .lst (hid_lk (n _ List.mem_cons_self) h) (OwAll.hid ht q fun b hb => n b (List.mem_cons_of_mem _ hb))
  | _, _, _, .tup h q, n => .tup (hid_lk (fun z => ht _ _ z h) h) (OwAll.hid ht q n)
theorem OwAll.hid {H : Hp} {T : List Addr} (ht : ∀ b xs, b ∈ T → H b ≠ some (.tup xs)) : ∀ {vs : List V} {ds : List PyData} {S : List Addr}, OwAll H vs ds S → (∀ b, b ∈ S → b ∉ T) → DqAll (hid T H) vs ds
  | _, _, _, .nil, _ => .nil
  | _, _, _, .cons h q, n => .cons (Ow.hid ht h fun b hb => n b (List.mem_append.mpr (.inl hb))) (OwAll.hid ht q fun b hb => n b (List.mem_append.mpr (.inr hb)))
end
theorem ow_bat {H : Hp} {w : V} {f s : Int} {ds : List PyData} {S : List Addr} (h : Ow H w (batT f s ds) S) : ∃ hA hq zs S', w = .ref hA ∧ H hA = some (.tup [.int f, .int s, .ref hq]) ∧ H hq = some (.lst zs) ∧ OwAll H zs ds S' ∧ S = hq :: S' := by
  cases h with
  | tup h q =>
    cases q with
    | cons a b =>
      cases a
      cases b with
      | cons a b =>
        cases a
        cases b with
        | cons a b =>
          cases b
          cases a with
          | lst h1 h2 =>
            exact ⟨_, _, _, _, rfl, h, h1, h2, by simp⟩
/-- an owned battle beside a purse -/
theorem own_beside {H0 H : Hp} {w : V} {f s : Int} {ds : List PyData} {S : List Addr} {pL : Addr} {m c : Int} (h : OwN H0 H w (batT f s ds) S) (pk : Pk pL m H0 c) (sm : Same H0 H) :
    ∃ hA hq zs, w = .ref hA ∧ H hA = some (.tup [.int f, .int s, .ref hq]) ∧ H hq = some (.lst zs) ∧ DqAll (hid [hq, pL] H) zs ds ∧ hA ≠ pL ∧ hq ≠ pL ∧ H0 hq = none := by
  obtain ⟨hA, hq, zs, S', rfl, h1, h2, h3, rfl⟩ := ow_bat h.ow
  obtain ⟨n, c', e, _⟩ := pk.same sm
  have hn := h.nw hq List.mem_cons_self
  have n1 : hA ≠ pL := fun z => by rw [z, e] at h1; cases h1
  have n2 : hq ≠ pL := pk.ne hn
  have nd := (List.nodup_cons.mp h.nd).1
  refine ⟨hA, hq, zs, rfl, h1, h2, OwAll.hid (fun b xs hb z => ?_) h3 (fun b hb hb' => ?_), n1, n2, hn⟩
  · rcases List.mem_cons.mp hb with g | g
    · rw [g, h2] at z; cases z
    · rw [List.mem_singleton.mp g, e] at z; cases z
  · rcases List.mem_cons.mp hb' with g | g
    · exact nd (g ▸ hb)
    · have := h.nw b (List.mem_cons_of_mem _ hb)
      rw [List.mem_singleton.mp g] at this
      obtain ⟨_, _, e', _⟩ := pk
      rw [e'] at this
      cases this
/-! ### times so much -/
def byF (b : Int) : Fld → Fld
  | .more w t => .more (w * b) (t * b)
  | .lead w l => .lead (w * b) l
  | .tab rows => .tab (rows.map fun r => r.map fun x => x * b)
theorem byF_ok {f s b : Int} {fl : Fld} (hb : 1 ≤ b) (k : FldOk f s fl) : FldOk f s (byF b fl) := by
  have hb0 : 0 ≤ b := by omega
  cases fl with
  | more w t =>
    obtain ⟨h1, h2, h3⟩ := k
    refine ⟨?_, ?_, ?_⟩
    · have := Int.mul_le_mul h1 hb (by omega) (by omega)
      omega
    · have := Int.mul_le_mul_of_nonneg_right h2 hb0
      rw [Int.sub_mul, Int.zero_mul] at this
      exact this
    · exact Int.mul_le_mul_of_nonneg_right h3 hb0
  | lead w l =>
    have h1 : 1 ≤ w := k
    show 1 ≤ w * b
    have := Int.mul_le_mul h1 hb (by omega) (by omega)
    omega
  | tab rows =>
    obtain ⟨h1, h2⟩ := k
    refine ⟨by rw [List.length_map]; exact h1, fun r hr => ?_⟩
    obtain ⟨r', hr', rfl⟩ := List.mem_map.mp hr
    rw [List.length_map]
    exact h2 r' hr'
theorem by_ok {f s b : Int} {fs : List Fld} (hb : 1 ≤ b) (k : BatOk f s fs) : BatOk f s (fs.map (byF b)) := ⟨k.hf, k.hs, by rw [List.length_map]; exact k.ne, fun x hx => by
  obtain ⟨y, hy, rfl⟩ := List.mem_map.mp hx
  exact byF_ok hb (k.ok y hy)⟩
theorem ex_ex {f s : Int} {fl : Fld} (hf : 0 ≤ f) (hs : 0 ≤ s) (k : FldOk f s fl) : exF f (exF s fl) = fl := by
  cases fl with
  | more w t => simp [exF]
  | lead w l => simp [exF]; omega
  | tab rows =>
    obtain ⟨h1, h2⟩ := k
    simp only [exF, Fld.tab.injEq]
    apply List.ext_getElem?
    intro x
    rw [List.getElem?_map]
    by_cases c : x < rows.length
    · rw [List.getElem?_range (by omega), List.getElem?_eq_getElem c]
      simp only [Option.map_some, Option.some.injEq]
      apply List.ext_getElem?
      intro y
      rw [List.getElem?_map, List.getElem?_map]
      have hr := h2 _ (List.getElem_mem c)
      by_cases c2 : y < (rows[x]).length
      · rw [List.getElem?_range (by omega)]
        simp [c, c2]
      · rw [List.getElem?_eq_none (by rw [List.length_range]; omega), List.getElem?_eq_none (by omega)]
        rfl
    · rw [List.getElem?_eq_none (by rw [List.length_range]; omega), List.getElem?_eq_none (by omega)]
      rfl
theorem ex_ex_all {f s : Int} {fs : List Fld} (k : BatOk f s fs) : (fs.map (exF s)).map (exF f) = fs := by
  rw [List.map_map]
  have : ∀ x ∈ fs, (exF f ∘ exF s) x = x := fun x hx => ex_ex k.hf.1 k.hs.1 (k.ok x hx)
  rw [List.map_congr_left this]
  exact List.map_id' fs
theorem planD_inj {r r' : List Int} (h : planD r = planD r') : r = r' := by
  have h2 := PyData.list.inj h
  induction r generalizing r' with
  | nil => cases r' <;> simp_all
  | cons x r ih =>
    cases r' with
    | nil => simp at h2
    | cons y r' =>
      simp at h2
      rw [h2.1, ih (by simp [planD, h2.2]) h2.2]
theorem map_inj {α β : Type} {f : α → β} (h : ∀ a b, f a = f b → a = b) : ∀ {xs ys : List α}, xs.map f = ys.map f → xs = ys
  | [], [], _ => rfl
  | [], _ :: _, e => by simp at e
  | _ :: _, [], e => by simp at e
  | x :: xs, y :: ys, e => by
    rw [List.map_cons, List.map_cons, List.cons.injEq] at e
    rw [h _ _ e.1, map_inj h e.2]
theorem fldD_inj {a b : Fld} (h : fldD a = fldD b) : a = b := by
  cases a <;> cases b <;> simp [fldD] at h ⊢
  · exact h
  · have := h.1; revert this; decide +kernel
  · have := h.1; revert this; decide +kernel
  · exact h
  · exact map_inj (fun a b e => planD_inj e) h
theorem good_flds {f s : Int} {ds : List PyData} (h : badB f s ds = none) : ∃ fs : List Fld, ds = fs.map fldD ∧ BatOk f s fs := by
  have key : ∀ ds : List PyData, (∀ d ∈ ds, isFldT f s d = true) → ∃ fs : List Fld, ds = fs.map fldD := by
    intro ds
    induction ds with
    | nil => exact fun _ => ⟨[], rfl⟩
    | cons d ds ih =>
      intro h
      obtain ⟨fs, rfl⟩ := ih fun e he => h e (List.mem_cons_of_mem _ he)
      have h1 := h d List.mem_cons_self
      suffices z : ∃ fl, d = fldD fl by
        obtain ⟨fl, rfl⟩ := z
        exact ⟨fl :: fs, rfl⟩
      unfold isFldT at h1
      split at h1
      · rename_i w r
        unfold isFieldD at h1
        split at h1
        · rename_i c
          subst c
          unfold isMoreD at h1
          split at h1
          · exact ⟨.more _ _, rfl⟩
          · cases h1
        · split at h1
          · rename_i c
            subst c
            unfold isRuleD at h1
            split at h1
            · exact ⟨.lead _ _, rfl⟩
            · cases h1
          · split at h1
            · rename_i c
              subst c
              unfold isRowsD at h1
              split at h1
              · rename_i rs
                rw [Bool.and_eq_true] at h1
                have h2 := List.all_eq_true.mp h1.2
                suffices z : ∃ rows : List (List Int), rs = rows.map planD by
                  obtain ⟨rows, rfl⟩ := z
                  exact ⟨.tab rows, rfl⟩
                clear h1 h
                induction rs with
                | nil => exact ⟨[], rfl⟩
                | cons d rs ih2 =>
                  obtain ⟨rows, rfl⟩ := ih2 fun e he => h2 e (List.mem_cons_of_mem _ he)
                  have h3 := h2 d List.mem_cons_self
                  unfold areNumsD at h3
                  split at h3
                  · rename_i xs
                    rw [Bool.and_eq_true] at h3
                    suffices z : ∃ r : List Int, xs = r.map PyData.int by
                      obtain ⟨r, rfl⟩ := z
                      exact ⟨r :: rows, rfl⟩
                    have h4 := List.all_eq_true.mp h3.2
                    clear h3 h2 ih2
                    induction xs with
                    | nil => exact ⟨[], rfl⟩
                    | cons x xs ih3 =>
                      obtain ⟨r, rfl⟩ := ih3 fun e he => h4 e (List.mem_cons_of_mem _ he)
                      have h5 := h4 x List.mem_cons_self
                      unfold isNumD at h5
                      split at h5
                      · rename_i z
                        exact ⟨z :: r, rfl⟩
                      · cases h5
                  · cases h3
              · cases h1
            · cases h1
      · cases h1
  obtain ⟨fs, rfl⟩ := key ds (bad_none.mp h).2.2.2
  exact ⟨fs, rfl, bad_ok.mp h⟩
end Hf
namespace Hf
instance {x : Int} : Decidable (Sm x) := by unfold Sm; infer_instance
theorem sm_abs {x : Int} (h : Sm x) : x.natAbs < 2 ^ 120 := by
  obtain ⟨h1, h2⟩ := h
  omega
end Hf
/-! ## odd things -/
namespace Hf
open PySem PySem.Spec PyProof.Rows L2
section
variable {K : PySem.W.Frag} {H : Hp} {Q : VK} {p r : Addr} {x : V} {xs ys : List V}
theorem i_slT1 (h : SqT K H p (x :: xs)) (q : ∀ p', H p' = none → Q (.ref p') (upd H p' (.tup xs))) : rSlA K (.ref p) (some 1) none H Q :=
  ⟨p, _, rfl, h, fun c => absurd c.1 (by rw [show (1 : Int) = ((1 : Nat) : Int) from rfl, HT.sIx_nat, List.length_cons]; omega), fun _ p' n => by rw [cut_from (by decide)]; exact q p' n⟩
theorem i_catTg (h1 : H p = some (.tup xs)) (h2 : SqT K H r ys) (n : xs ≠ []) (hz : xs.length + ys.length ≤ 1000) (q : ∀ t H', H' t = some (.tup (xs ++ ys)) → Same H H' → Q (.ref t) H') : rCatT K (.ref p) (.ref r) H Q :=
  ⟨p, r, xs, ys, rfl, rfl, SqT.of h1, h2, n, sz4 (by omega), fun e => q p H (by rw [e, List.append_nil]; exact h1) (Same.refl _), fun _ t nt => q t _ upd_same (Same.new nt)⟩
end
theorem i_ix4S {K : PySem.W.Frag} {H : Hp} {Q : VK} {p : Addr} {i : Int} {y1 y2 y3 y4 : Str} (h : SqL K H p [.str y1, .str y2, .str y3, .str y4]) (h0 : 0 ≤ i) (h1 : i < 4) (q : ∀ v, v = y1 ∨ v = y2 ∨ v = y3 ∨ v = y4 → Q (.str v) H) : rIxL K (.ref p) (.int i) H Q := by
  obtain rfl | rfl | rfl | rfl : i = 0 ∨ i = 1 ∨ i = 2 ∨ i = 3 := by omega
  · exact i_ixL h atI_0 (q _ (.inl rfl))
  · exact i_ixL h atI_1 (q _ (.inr (.inl rfl)))
  · exact i_ixL h atI_2 (q _ (.inr (.inr (.inl rfl))))
  · exact i_ixL h (atI_nat (j := 3) rfl) (q _ (.inr (.inr (.inr rfl))))
theorem Pk.neT {a t : Addr} {m c : Int} {H : Hp} {xs : List V} (h : Pk a m H c) (e : H t = Option.some (.tup xs)) : t ≠ a := fun z => by
  obtain ⟨_, _, h1, _⟩ := h
  rw [z, h1] at e
  cases e
/-- what stands in the place of a field -/
def Fb (k : Nat) (w : Str) (r : List PyData) : Prop := PyData.strOk w = true ∧ PyData.canLayAll0 r = true ∧ depA r ≤ 3 ∧ r.length ≤ k ∧ widA r ≤ k
def FbD (k : Nat) (d : PyData) : Prop := ∃ w r, d = .tuple (.str w :: r) ∧ Fb k w r
theorem Fb.mono {k l : Nat} {w : Str} {r : List PyData} (h : Fb k w r) (e : k ≤ l) : Fb l w r := ⟨h.1, h.2.1, h.2.2.1, by have := h.2.2.2.1; omega, by have := h.2.2.2.2; omega⟩
theorem FbD.mono {k l : Nat} {d : PyData} (h : FbD k d) (e : k ≤ l) : FbD l d := by
  obtain ⟨w, r, rfl, h⟩ := h
  exact ⟨w, r, rfl, h.mono e⟩
theorem FbD.fin {k : Nat} {d : PyData} (h : FbD k d) (e : k ≤ 1000) : FldIn d := by
  obtain ⟨w, r, rfl, h⟩ := h
  refine ⟨w, r, rfl, ?_⟩
  have h1 := h.2.2.2.1
  have h2 := h.2.2.2.2
  rw [wid]
  omega
theorem FbD.lay {k : Nat} {d : PyData} (h : FbD k d) : d.canLay0 = true := by
  obtain ⟨w, r, rfl, h⟩ := h
  simp [PyData.canLay0, PyData.canLayAll0, h.1, h.2.1]
theorem FbD.dep {k : Nat} {d : PyData} (h : FbD k d) : dep d ≤ 4 := by
  obtain ⟨w, r, rfl, h⟩ := h
  have := h.2.2.1
  simp only [Hf.dep, depA]
  omega
theorem FbD.wid {k : Nat} {d : PyData} (h : FbD k d) : wid d ≤ k + 1 := by
  obtain ⟨w, r, rfl, h⟩ := h
  have h1 := h.2.2.2.1
  have h2 := h.2.2.2.2
  simp only [Hf.wid, widA, List.length_cons]
  omega
theorem fb_fld {f s : Int} {fl : Fld} (hf : f ≤ 10) (hs : s ≤ 10) (k : FldOk f s fl) : FbD 20 (fldD fl) := by
  have l := lay_fld fl
  have d := dep_fld fl
  have w := wid_fld hf hs k
  cases fl with
  | more a b =>
    refine ⟨_, _, rfl, ?_⟩
    simp [Fb, PyData.canLayAll0, PyData.canLay0, depA, Hf.dep, widA, Hf.wid]
    decide +kernel
  | lead a b =>
    refine ⟨_, _, rfl, ?_⟩
    simp [Fb, PyData.canLayAll0, PyData.canLay0, depA, Hf.dep, widA, Hf.wid]
    decide +kernel
  | tab rows =>
    refine ⟨_, _, rfl, ?_⟩
    simp only [fldD, PyData.canLay0, PyData.canLayAll0, Hf.dep, depA, Hf.wid, widA, List.length_cons, List.length_nil, Bool.and_eq_true, Bool.and_true] at l d w
    exact ⟨l.1, by simp [PyData.canLayAll0, PyData.canLay0, l.2], by simp only [depA, Hf.dep]; omega, by simp, by simp only [widA, Hf.wid]; omega⟩
theorem fb_fld1 {f s : Int} {fl : Fld} (hf : f ≤ 10) (hs : s ≤ 10) (k : FldOk f s fl) : ∃ w r, fldD fl = .tuple (.str w :: r) ∧ Fb 20 w r ∧ 1 ≤ r.length := by
  obtain ⟨w, r, e, h⟩ := fb_fld hf hs k
  refine ⟨w, r, e, h, ?_⟩
  cases fl <;> (rw [fldD] at e; cases e; simp)
def badR : PyData → Bool
  | .list es => decide (es.length = 0)
  | _ => true
theorem badR_inv {d : PyData} (h : badR d = false) : ∃ es, d = .list es ∧ 1 ≤ es.length := by
  cases d with
  | list es =>
    refine ⟨es, rfl, ?_⟩
    have := of_decide_eq_false h
    omega
  | _ => cases h
/-- what a row may be -/
def RwOk (k : Nat) (d : PyData) : Prop := d.canLay0 = true ∧ dep d ≤ 2 ∧ wid d ≤ k
theorem fb_rows {k : Nat} {rs : List PyData} (h : ∀ d ∈ rs, RwOk k d) (l : rs.length ≤ k) (hk : 1 ≤ k) : Fb k (PySem.Str.ofString "table") [.list rs] := by
  have h1 : PyData.canLayAll0 rs = true := lay_all fun d hd => (h d hd).1
  have h2 : depA rs ≤ 2 := depA_le fun d hd => (h d hd).2.1
  have h3 : widA rs ≤ k := widA_le fun d hd => (h d hd).2.2
  refine ⟨by decide +kernel, by simp [PyData.canLayAll0, PyData.canLay0, h1], by simp only [depA, dep]; omega, by simp; omega, by simp only [widA, wid]; omega⟩
theorem rows_ok {k : Nat} {w : Str} {rs r : List PyData} (h : Fb k w (.list rs :: r)) : (∀ d ∈ rs, RwOk k d) ∧ rs.length ≤ k := by
  obtain ⟨_, h1, h2, h3, h4⟩ := h
  simp only [PyData.canLayAll0, PyData.canLay0, Bool.and_eq_true, depA, dep, widA, wid] at h1 h2 h4
  refine ⟨fun d hd => ⟨lay_mem h1.1 hd, by have := depA_mem hd; omega, by have := widA_mem hd; omega⟩, by omega⟩
theorem rw_list {k : Nat} {es : List PyData} (h1 : ∀ e ∈ es, e.canLay0 = true ∧ dep e ≤ 1 ∧ wid e ≤ k) (l : es.length ≤ k) : RwOk k (.list es) :=
  ⟨by rw [PyData.canLay0]; exact lay_all fun d hd => (h1 d hd).1, by rw [dep]; have := depA_le fun d hd => (h1 d hd).2.1; omega, by rw [wid]; have := widA_le fun d hd => (h1 d hd).2.2; omega⟩
theorem rw_inv {k : Nat} {es : List PyData} (h : RwOk k (.list es)) : (∀ e ∈ es, e.canLay0 = true ∧ dep e ≤ 1 ∧ wid e ≤ k) ∧ es.length ≤ k := by
  obtain ⟨h1, h2, h3⟩ := h
  rw [PyData.canLay0] at h1
  rw [dep] at h2
  rw [wid] at h3
  exact ⟨fun e he => ⟨lay_mem h1 he, by have := depA_mem he; omega, by have := widA_mem he; omega⟩, by omega⟩
theorem RwOk.mono {k l : Nat} {d : PyData} (h : RwOk k d) (e : k ≤ l) : RwOk l d := ⟨h.1, h.2.1, Nat.le_trans h.2.2 e⟩
theorem rw_tup {k : Nat} {es : List PyData} (h : RwOk k (.list es)) : RwOk k (.tuple es) := h
end Hf
theorem gcd_step {x y : Int} (hx : 0 ≤ x) (hy : 0 < y) : Int.gcd y (x % y) = Int.gcd x y := by
  obtain ⟨m, rfl⟩ := Int.eq_ofNat_of_zero_le hx
  obtain ⟨n, rfl⟩ := Int.eq_ofNat_of_zero_le (Int.le_of_lt hy)
  show Nat.gcd _ _ = Nat.gcd _ _
  have e : ((m : Int) % (n : Int)) = ((m % n : Nat) : Int) := rfl
  rw [e]
  show Nat.gcd n (m % n) = Nat.gcd m n
  rw [Nat.gcd_comm n (m % n), ← Nat.gcd_rec n m, Nat.gcd_comm]
theorem gcd_zero {x : Int} (hx : 0 ≤ x) : (Int.gcd x 0 : Int) = x := by
  rw [Int.gcd_zero]
  omega
theorem abs_if {x : Int} : (if x < 0 then -x else x) = (x.natAbs : Int) := by
  split <;> omega
theorem gcd_abs {x y : Int} : Int.gcd (x.natAbs : Int) (y.natAbs : Int) = Int.gcd x y := rfl
/-- the divisor with the bottom's sign -/
def sgcd (x y : Int) : Int := if y < 0 then 0 - (Int.gcd x y : Int) else (Int.gcd x y : Int)
theorem gcd_pos {x y : Int} (h : y ≠ 0) : 0 < Int.gcd x y := Nat.pos_of_ne_zero fun z => h (Int.gcd_eq_zero_iff.mp z).2
theorem sgcd_ne {x y : Int} (h : y ≠ 0) : sgcd x y ≠ 0 := by
  have := gcd_pos (x := x) h
  unfold sgcd
  split <;> omega
theorem gcd_le {x y : Int} (h : y ≠ 0) : Int.gcd x y ≤ y.natAbs := Nat.le_of_dvd (by omega) (Int.gcd_dvd_natAbs_right x y)
theorem sgcd_le {x y : Int} (h : y ≠ 0) : (sgcd x y).natAbs ≤ y.natAbs := by
  have := gcd_le (x := x) h
  unfold sgcd
  split <;> omega
theorem fdiv_abs_le {x g : Int} (hg : g ≠ 0) (hd : g ∣ x) : (x.fdiv g).natAbs ≤ x.natAbs := by
  obtain ⟨k, rfl⟩ := hd
  rw [Int.mul_fdiv_cancel_left _ hg, Int.natAbs_mul]
  exact Nat.le_mul_of_pos_left _ (by omega)
theorem sgcd_dvd_left (x y : Int) : sgcd x y ∣ x := by
  unfold sgcd
  split
  · rw [Int.zero_sub]
    exact Int.neg_dvd.mpr (Int.gcd_dvd_left x y)
  · exact Int.gcd_dvd_left x y
theorem sgcd_dvd_right (x y : Int) : sgcd x y ∣ y := by
  unfold sgcd
  split
  · rw [Int.zero_sub]
    exact Int.neg_dvd.mpr (Int.gcd_dvd_right x y)
  · exact Int.gcd_dvd_right x y
def ltop (x y : Int) : Int := x.fdiv (sgcd x y)
def lbot (x y : Int) : Int := y.fdiv (sgcd x y)
theorem ltop_le {x y : Int} (h : y ≠ 0) : (ltop x y).natAbs ≤ x.natAbs := fdiv_abs_le (sgcd_ne h) (sgcd_dvd_left x y)
theorem lbot_le {x y : Int} (h : y ≠ 0) : (lbot x y).natAbs ≤ y.natAbs := fdiv_abs_le (sgcd_ne h) (sgcd_dvd_right x y)
theorem lbot_pos {x y : Int} (h : y ≠ 0) : 0 < lbot x y := by
  unfold lbot
  have h1 := sgcd_dvd_right x y
  have hg := gcd_pos (x := x) h
  have h0 := sgcd_ne (x := x) h
  obtain ⟨k, hk⟩ := h1
  have e : y.fdiv (sgcd x y) = k := by
    conv => lhs; lhs; rw [hk]
    exact Int.mul_fdiv_cancel_left _ h0
  rw [e]
  rcases Int.lt_trichotomy y 0 with hy | hy | hy
  · have hs : sgcd x y < 0 := by
      unfold sgcd
      rw [if_pos hy]
      omega
    rcases Int.lt_trichotomy k 0 with z | z | z
    · have := Int.mul_pos_of_neg_of_neg hs z
      omega
    · rw [z, Int.mul_zero] at hk
      omega
    · exact z
  · exact absurd hy h
  · have hs : 0 < sgcd x y := by
      unfold sgcd
      rw [if_neg (by omega)]
      omega
    rcases Int.lt_trichotomy k 0 with z | z | z
    · have := Int.mul_neg_of_pos_of_neg hs z
      omega
    · rw [z, Int.mul_zero] at hk
      omega
    · exact z
/-! ## mixes among any data -/
namespace Hf
open PySem PySem.Spec PyProof.Rows L2
def isNumsD : PyData → Bool
  | .list ns => ns.all isNumD
  | _ => false
def isWtD : PyData → Bool
  | .int w => decide (1 ≤ w)
  | _ => false
def isPartD : PyData → Bool
  | .tuple [d, e] => isNumsD d && isWtD e
  | _ => false
theorem sum_nn0 : ∀ {ps : List Int}, (∀ x ∈ ps, 0 ≤ x) → 0 ≤ ps.sum
  | [], _ => by simp
  | x :: ps, h => by
    have := sum_nn0 fun y hy => h y (List.mem_cons_of_mem _ hy)
    have := h x (by simp)
    rw [List.sum_cons]
    omega
theorem nums_of : ∀ {ns : List PyData}, ns.all isNumD = true → ∃ p : List Int, ns = p.map PyData.int
  | [], _ => ⟨[], rfl⟩
  | d :: ns, h => by
    rw [List.all_cons, Bool.and_eq_true] at h
    obtain ⟨x, rfl⟩ := num_inv h.1
    obtain ⟨p, rfl⟩ := nums_of h.2
    exact ⟨x :: p, rfl⟩
theorem isPart_mk {pw : List Int × Int} (h : 1 ≤ pw.2) : isPartD (partD pw) = true := by
  show ((pw.1.map PyData.int).all isNumD && decide (1 ≤ pw.2)) = true
  rw [all_num, decide_eq_true h]
  rfl
theorem nums_inv {d : PyData} (h : isNumsD d = true) : ∃ p : List Int, d = planD p := by
  cases d with
  | list ns =>
    obtain ⟨p, rfl⟩ := nums_of h
    exact ⟨p, rfl⟩
  | _ => cases h
theorem wt_inv {d : PyData} (h : isWtD d = true) : ∃ w : Int, d = .int w ∧ 1 ≤ w := by
  cases d with
  | int w => exact ⟨w, rfl, of_decide_eq_true h⟩
  | _ => cases h
theorem part_of {d : PyData} (h : isPartD d = true) : ∃ pw : List Int × Int, d = partD pw ∧ 1 ≤ pw.2 := by
  unfold isPartD at h
  split at h
  · rw [Bool.and_eq_true] at h
    obtain ⟨p, rfl⟩ := nums_inv h.1
    obtain ⟨w, rfl, h2⟩ := wt_inv h.2
    exact ⟨(p, w), rfl, h2⟩
  · cases h
theorem parts_of : ∀ {ds : List PyData}, (∀ d ∈ ds, isPartD d = true) → ∃ m : List (List Int × Int), ds = m.map partD ∧ ∀ pw ∈ m, 1 ≤ pw.2
  | [], _ => ⟨[], rfl, by simp⟩
  | d :: ds, h => by
    obtain ⟨pw, rfl, h1⟩ := part_of (h d (by simp))
    obtain ⟨m, rfl, h2⟩ := parts_of fun e he => h e (List.mem_cons_of_mem _ he)
    refine ⟨pw :: m, rfl, fun x hx => ?_⟩
    rcases List.mem_cons.mp hx with rfl | g
    · exact h1
    · exact h2 x g
/-- a mix of plans of h hosts and n fields, of any length -/
structure MixG (h : Int) (n : Nat) (m : List (List Int × Int)) : Prop where
  ne : 1 ≤ m.length
  fl : 1 ≤ n ∧ n ≤ 8
  ho : 0 ≤ h ∧ h ≤ 40
  pl : ∀ pw ∈ m, PlanC h n pw.1 ∧ 1 ≤ pw.2
def IsMix (d : PyData) : Prop := ∃ h n m, d = mixD m ∧ MixG h n m
noncomputable def isMixB (d : PyData) : Bool := @decide (IsMix d) (Classical.propDecidable _)
/-- a mix of plans of h hosts and n fields -/
def IsMixOf (h : Int) (n : Nat) (d : PyData) : Prop := ∃ m, d = mixD m ∧ MixG h n m
theorem isMix_iff {d : PyData} : isMixB d = true ↔ IsMix d := @decide_eq_true_iff _ (Classical.propDecidable _)
theorem isMix_no {d : PyData} : isMixB d = false ↔ ¬ IsMix d := @decide_eq_false_iff_not _ (Classical.propDecidable _)
noncomputable def isPlanB (h : Int) (n : Nat) (p : List Int) : Bool := @decide (PlanC h n p) (Classical.propDecidable _)
theorem isPlan_iff {h : Int} {n : Nat} {p : List Int} : isPlanB h n p = true ↔ PlanC h n p := @decide_eq_true_iff _ (Classical.propDecidable _)
theorem isPlan_eq {h : Int} {n : Nat} {p : List Int} {b : Bool} (e : b = true ↔ PlanC h n p) : b = isPlanB h n p := by
  rw [Bool.eq_iff_iff, e, isPlan_iff]
theorem partD_inj {a b : List Int × Int} (h : partD a = partD b) : a = b := by
  simp only [partD] at h
  injection h with h
  injection h with h1 h2
  injection h2 with h2 _
  injection h2 with h2
  exact Prod.ext (planD_inj h1) h2
theorem mixD_inj {a b : List (List Int × Int)} (h : mixD a = mixD b) : a = b := by
  simp only [mixD] at h
  injection h with h
  exact (List.map_inj_right fun x y e => partD_inj e).mp h
theorem mix_nolist {d : PyData} (h : isLstD d = false) : isMixB d = false := isMix_no.mpr fun ⟨_, _, m, e, _⟩ => by
  rw [e] at h
  cases h
theorem mix_nil : isMixB (.list []) = false := isMix_no.mpr fun ⟨_, _, m, e, k⟩ => by
  have : mixD m = mixD [] := e.symm
  rw [mixD_inj this] at k
  have := k.ne
  simp at this
theorem mix_nopart {ds : List PyData} {k : Nat} {d : PyData} (e : ds[k]? = some d) (h : isPartD d = false) : isMixB (.list ds) = false := isMix_no.mpr fun ⟨_, _, m, e1, g⟩ => by
  injection e1 with e1
  rw [e1, List.getElem?_map] at e
  cases c : m[k]? with
  | none => rw [c] at e; cases e
  | some pw =>
    rw [c] at e
    cases e
    rw [isPart_mk (g.pl pw (List.mem_of_getElem? c)).2] at h
    cases h
theorem MixG.inj {h h' : Int} {n n' : Nat} {m : List (List Int × Int)} (a : MixG h n m) (b : MixG h' n' m) : h = h' ∧ n = n' := by
  obtain ⟨pw, hp⟩ : ∃ pw, pw ∈ m := List.exists_mem_of_length_pos a.ne
  have h1 := (a.pl pw hp).1
  have h2 := (b.pl pw hp).1
  exact ⟨h1.2.1.symm.trans h2.2.1, h1.1.symm.trans h2.1⟩
/-- of true parts: by the first one -/
theorem mix_first {m : List (List Int × Int)} {pw : List Int × Int} (e : m[0]? = some pw) : IsMix (mixD m) ↔ MixG pw.1.sum pw.1.length m := by
  refine ⟨fun ⟨h, n, m', e1, g⟩ => ?_, fun g => ⟨_, _, m, rfl, g⟩⟩
  obtain rfl := mixD_inj e1
  have h1 := (g.pl pw (List.mem_of_getElem? e)).1
  rw [h1.2.1, h1.1]
  exact g
theorem MixOk.g {h : Int} {n : Nat} {m : List (List Int × Int)} (k : MixOk h n m) : MixG h n m := ⟨k.ne.1, k.fl, k.ho, k.pl⟩
theorem MixOk.is {h : Int} {n : Nat} {m : List (List Int × Int)} (k : MixOk h n m) : IsMix (mixD m) := ⟨h, n, m, rfl, k.g⟩
theorem widA_ints : ∀ p : List Int, widA (p.map PyData.int) = 0
  | [] => by simp [widA]
  | x :: p => by
    rw [List.map_cons, widA, widA_ints p]
    simp [wid]
theorem wid_part (pw : List Int × Int) : wid (partD pw) = max 2 pw.1.length := by
  simp [partD, planD, wid, widA, widA_ints]
theorem wid_mix {k : Nat} : ∀ {m : List (List Int × Int)}, m.length ≤ k → 2 ≤ k → (∀ pw ∈ m, pw.1.length ≤ k) → wid (mixD m) ≤ k := by
  intro m h1 h2 h3
  have : widA (m.map partD) ≤ k := widA_le fun d hd => by
    obtain ⟨pw, hp, rfl⟩ := List.mem_map.mp hd
    rw [wid_part]
    have := h3 pw hp
    omega
  rw [mixD, wid, List.length_map]
  omega
theorem MixOk.wid {h : Int} {n : Nat} {m : List (List Int × Int)} (k : MixOk h n m) : wid (mixD m) ≤ 1000 := by
  have h1 := k.ne
  have h2 := k.fl
  exact wid_mix (by omega) (by omega) fun pw hp => by
    have := (k.pl pw hp).1.1
    omega
theorem wid_mem {ds : List PyData} {d : PyData} {k : Nat} (h : wid (.list ds) ≤ k) (hd : d ∈ ds) : wid d ≤ k := by
  have := widA_mem hd
  rw [Hf.wid] at h
  omega
end Hf
namespace Hf
open PySem PySem.Spec PyProof.Rows L2
/-! ### what mixes win against one another -/
def tot1 (fs : List Fld) (p : List Int) (w : Int) (m : List (List Int × Int)) : Int := (m.map fun q => w * q.2 * gainV fs p q.1).sum
def mixTot (fs : List Fld) (m1 m2 : List (List Int × Int)) : Int := (m1.map fun p => tot1 fs p.1 p.2 m2).sum
theorem tot1_snoc {fs : List Fld} {p : List Int} {w : Int} {m : List (List Int × Int)} {i : Nat} {q : List Int × Int} (e : m[i]? = some q) : tot1 fs p w (m.take (i + 1)) = tot1 fs p w (m.take i) + w * q.2 * gainV fs p q.1 := by
  unfold tot1
  rw [take_snoc e, List.map_append, List.sum_append]
  simp
theorem mixTot_snoc {fs : List Fld} {m1 m2 : List (List Int × Int)} {i : Nat} {p : List Int × Int} (e : m1[i]? = some p) : mixTot fs (m1.take (i + 1)) m2 = mixTot fs (m1.take i) m2 + tot1 fs p.1 p.2 m2 := by
  unfold mixTot
  rw [take_snoc e, List.map_append, List.sum_append]
  simp
end Hf
namespace Hf
open PySem PySem.Spec PyProof.Rows L2
theorem sum_abs {B : Nat} : ∀ {l : List Int}, (∀ x ∈ l, x.natAbs ≤ B) → l.sum.natAbs ≤ l.length * B
  | [], _ => by simp
  | x :: l, h => by
    have h1 := sum_abs fun y hy => h y (List.mem_cons_of_mem _ hy)
    have h2 := h x (by simp)
    have h3 := Int.natAbs_add_le x l.sum
    rw [List.sum_cons, List.length_cons, Nat.add_mul]
    omega
theorem paid_sm {fl : Fld} (h : FldSm fl) (x y : Int) : (paidV fl x y).natAbs ≤ 2 ^ 110 := by
  cases fl with
  | more w t =>
    have h1 := h.1
    have h2 := h.2
    unfold Sm at h1 h2
    show (if x = y then t else if x > y then w else 0 - w).natAbs ≤ _
    split
    · omega
    · split <;> omega
  | lead w t =>
    have h1 := h.1
    unfold Sm at h1
    show (if x ≥ y + t then w else 0 - w).natAbs ≤ _
    split <;> omega
  | tab rows =>
    show ((((rows[x.toNat]?).getD [])[y.toNat]?).getD 0).natAbs ≤ _
    cases e1 : rows[x.toNat]? with
    | none => simp
    | some r =>
      show ((r[y.toNat]?).getD 0).natAbs ≤ _
      cases e2 : r[y.toNat]? with
      | none => simp
      | some z =>
        have h1 := h r (List.mem_of_getElem? e1) z (List.mem_of_getElem? e2)
        unfold Sm at h1
        show z.natAbs ≤ _
        omega
theorem gain_sm {fs : List Fld} (h : ∀ x ∈ fs, FldSm x) (hl : fs.length ≤ 5) (ms ns : List Int) : (gainV fs ms ns).natAbs < 2 ^ 120 := by
  have := sum_abs (B := 2 ^ 110) (l := (List.range fs.length).map fun i : Nat => paidV (fldAt fs i) (nAt ms i) (nAt ns i)) fun x hx => by
    obtain ⟨i, hi, rfl⟩ := List.mem_map.mp hx
    have hi := List.mem_range.mp hi
    refine paid_sm (h _ ?_) _ _
    unfold fldAt
    rw [show (Int.toNat (i : Int)) = i by omega, List.getElem?_eq_getElem hi]
    exact List.getElem_mem hi
  rw [List.length_map, List.length_range] at this
  unfold gainV
  have : fs.length * 2 ^ 110 ≤ 5 * 2 ^ 110 := Nat.mul_le_mul_right _ hl
  omega
/-- weights, how many, and fields that are not great -/
def WtSm (m : List (List Int × Int)) : Prop := m.length ≤ 50 ∧ ∀ pw ∈ m, 0 ≤ pw.2 ∧ pw.2 ≤ 10000000000000000000000000000
theorem WtSm.abs {m : List (List Int × Int)} (h : WtSm m) {pw : List Int × Int} (hp : pw ∈ m) : pw.2.natAbs ≤ 2 ^ 100 := by
  have := h.2 pw hp
  omega
theorem WtSm.whole {m : List (List Int × Int)} (h : WtSm m) : (whole m).natAbs < 2 ^ 110 := by
  have := sum_abs (B := 2 ^ 100) (l := m.map Prod.snd) fun x hx => by
    obtain ⟨i, hi, rfl⟩ := List.mem_map.mp hx
    exact h.abs hi
  rw [List.length_map] at this
  have h2 : m.length * 2 ^ 100 ≤ 50 * 2 ^ 100 := Nat.mul_le_mul_right _ h.1
  unfold Hf.whole
  omega
theorem abs3 {a b c : Int} (h1 : a.natAbs ≤ 2 ^ 100) (h2 : b.natAbs ≤ 2 ^ 100) (h3 : c.natAbs ≤ 2 ^ 120) : (a * b * c).natAbs ≤ 2 ^ 320 := by
  rw [Int.natAbs_mul, Int.natAbs_mul]
  calc a.natAbs * b.natAbs * c.natAbs ≤ 2 ^ 100 * 2 ^ 100 * 2 ^ 120 := Nat.mul_le_mul (Nat.mul_le_mul h1 h2) h3
    _ = 2 ^ 320 := by decide +kernel
theorem tot1_sm {fs : List Fld} (h : ∀ x ∈ fs, FldSm x) (hl : fs.length ≤ 5) {p : List Int} {w : Int} (hw : w.natAbs ≤ 2 ^ 100) {m : List (List Int × Int)} (hm : WtSm m) : (tot1 fs p w m).natAbs ≤ 2 ^ 330 := by
  have := sum_abs (B := 2 ^ 320) (l := m.map fun q => w * q.2 * gainV fs p q.1) fun x hx => by
    obtain ⟨q, hq, rfl⟩ := List.mem_map.mp hx
    exact abs3 hw (hm.abs hq) (Nat.le_of_lt (gain_sm h hl _ _))
  rw [List.length_map] at this
  have h2 : m.length * 2 ^ 320 ≤ 50 * 2 ^ 320 := Nat.mul_le_mul_right _ hm.1
  unfold tot1
  have h3 : 50 * 2 ^ 320 ≤ 2 ^ 330 := by decide +kernel
  omega
theorem mixTot_sm {fs : List Fld} (h : ∀ x ∈ fs, FldSm x) (hl : fs.length ≤ 5) {m1 m2 : List (List Int × Int)} (h1 : WtSm m1) (h2 : WtSm m2) : (mixTot fs m1 m2).natAbs < 2 ^ 400 := by
  have := sum_abs (B := 2 ^ 330) (l := m1.map fun p => tot1 fs p.1 p.2 m2) fun x hx => by
    obtain ⟨q, hq, rfl⟩ := List.mem_map.mp hx
    exact tot1_sm h hl (h1.abs hq) h2
  rw [List.length_map] at this
  have h2 : m1.length * 2 ^ 330 ≤ 50 * 2 ^ 330 := Nat.mul_le_mul_right _ h1.1
  unfold mixTot
  have h3 : 50 * 2 ^ 330 < 2 ^ 400 := by decide +kernel
  omega
theorem whole2_sm {m1 m2 : List (List Int × Int)} (h1 : WtSm m1) (h2 : WtSm m2) : (whole m1 * whole m2).natAbs < 2 ^ 400 := by
  rw [Int.natAbs_mul]
  have a := h1.whole
  have b := h2.whole
  calc (whole m1).natAbs * (whole m2).natAbs ≤ 2 ^ 110 * 2 ^ 110 := Nat.mul_le_mul (Nat.le_of_lt a) (Nat.le_of_lt b)
    _ < 2 ^ 400 := by decide +kernel
theorem mul_pp {a b : Int} (h1 : a.natAbs ≤ 2 ^ 100) (h2 : b.natAbs ≤ 2 ^ 100) : CMulA a b := mulW (a := 101) (b := 101) (by omega) (by omega) (by decide) (by decide) (by decide)
theorem mul_ppg {a b c : Int} (h1 : a.natAbs ≤ 2 ^ 100) (h2 : b.natAbs ≤ 2 ^ 100) (h3 : c.natAbs < 2 ^ 120) : CMulA (a * b) c := mulW (a := 201) (b := 120) (by
  rw [Int.natAbs_mul]
  calc a.natAbs * b.natAbs ≤ 2 ^ 100 * 2 ^ 100 := Nat.mul_le_mul h1 h2
    _ < 2 ^ 201 := by decide +kernel) h3 (by decide) (by decide) (by decide)
theorem mul_ww {a b : Int} (h1 : a.natAbs < 2 ^ 110) (h2 : b.natAbs < 2 ^ 110) : CMulA a b := mulW h1 h2 (by decide) (by decide) (by decide)
end Hf
namespace Hf
theorem whole_ge {h : Int} {n : Nat} {m : List (List Int × Int)} (k : MixG h n m) : 1 ≤ whole m := by
  have h1 : ∀ r : List (List Int × Int), (∀ pw ∈ r, 1 ≤ pw.2) → (r.length : Int) ≤ whole r := by
    intro r
    induction r with
    | nil => intro _; exact Int.le_refl _
    | cons pw r ih =>
      intro g
      have := ih fun x hx => g x (List.mem_cons_of_mem _ hx)
      have := g pw (List.mem_cons_self)
      rw [whole_cons, List.length_cons]
      omega
  have := h1 m fun pw hp => (k.pl pw hp).2
  have := k.ne
  omega
end Hf
namespace Hf
open PySem PySem.Spec PyProof.Rows L2
theorem wt_sm {m : List (List Int × Int)} (h : WtOk m) (k : ∀ pw ∈ m, 1 ≤ pw.2) : WtSm m := ⟨by have := h.1; omega, fun pw hp => ⟨by have := k pw hp; omega, h.2 pw hp⟩⟩
theorem MixOk.sm {h : Int} {n : Nat} {m : List (List Int × Int)} (k : MixOk h n m) (w : WtOk m) : WtSm m := wt_sm w fun pw hp => (k.pl pw hp).2
end Hf
namespace Hf
open PySem PySem.Spec PyProof.Rows L2
/-- the parts of a mix lie beside its list -/
theorem parts_hid {H : Hp} {a : Addr} {xs : List V} {m : List (List Int × Int)} (h : H a = some (.lst xs)) (q : DqAll H xs (m.map partD)) (ne : 1 ≤ m.length) : DqAll (hid [a] H) xs (m.map partD) := by
  have key : ∀ {ys : List V} {r : List (List Int × Int)}, DqAll H ys (r.map partD) → DqAll (hid [a] H) ys (r.map partD) := by
    intro ys r
    induction r generalizing ys with
    | nil => intro q; cases q; exact .nil
    | cons pw r ih =>
      intro q
      cases q with
      | cons q1 q2 =>
        obtain ⟨t, p, rfl, e1, e2⟩ := part_inv q1
        have ht : t ≠ a := fun e => by rw [e, h] at e1; cases e1
        have hp : p ≠ a := fun e => by
          rw [e, h] at e2
          cases e2
          cases m with
          | nil => simp at ne
          | cons pv m =>
            cases hx : pw.1 with
            | nil => rw [hx] at q; cases q
            | cons x u =>
              rw [hx, List.map_cons] at q
              cases q with
              | cons q3 _ =>
                obtain ⟨_, _, c, _⟩ := part_inv q3
                cases c
        exact .cons (part_mk (hid_lk (not_in1 ht) e1) (hid_lk (not_in1 hp) e2)) (ih q2)
  exact key q
end Hf
namespace Hf
open PySem PySem.Spec PyProof.Rows L2
theorem lay_part (pw : List Int × Int) : (partD pw).canLay0 = true := by
  rw [partD]
  simp [PyData.canLay0, PyData.canLayAll0, lay_plan]
theorem lay_mix (m : List (List Int × Int)) : (mixD m).canLay0 = true := by
  rw [mixD, PyData.canLay0]
  exact lay_all fun d hd => by
    obtain ⟨pw, _, rfl⟩ := List.mem_map.mp hd
    exact lay_part pw
theorem dep_mix (m : List (List Int × Int)) : dep (mixD m) ≤ 3 := by
  have : depA (m.map partD) ≤ 2 := depA_le fun d hd => by
    obtain ⟨pw, _, rfl⟩ := List.mem_map.mp hd
    simp [partD, dep, depA, dep_plan]
  rw [mixD, dep]
  omega
theorem shaped_kept (f s : Int) (fs : List Fld) (m1 m2 : List (List Int × Int)) : SeqAt.shaped (.list [batD f s fs, mixD m1, mixD m2]) = true := by
  have h1 := dep_bat f s fs
  have h2 := dep_mix m1
  have h3 := dep_mix m2
  refine shaped_of ?_ ?_
  · simp [PyData.canLay0, PyData.canLayAll0, lay_bat, lay_mix]
  · simp only [dep, depA]
    omega
end Hf
namespace Hf
open PySem PySem.Spec PyProof.Rows L2
theorem MixG.snoc {h : Int} {n : Nat} {m : List (List Int × Int)} {p : List Int} {w : Int} (k : MixG h n m) (hp : PlanC h n p) (hw : 1 ≤ w) : MixG h n (m ++ [(p, w)]) := ⟨by simp, k.fl, k.ho, fun pw hpw => by
  rcases List.mem_append.mp hpw with g | g
  · exact k.pl pw g
  · rw [List.mem_singleton.mp g]
    exact ⟨hp, hw⟩⟩
theorem MixG.cons {h : Int} {n : Nat} {m : List (List Int × Int)} {p : List Int} {w : Int} (k : MixG h n m) (hp : PlanC h n p) (hw : 1 ≤ w) : MixG h n ((p, w) :: m) := ⟨by simp, k.fl, k.ho, fun pw hpw => by
  rcases List.mem_cons.mp hpw with g | g
  · rw [g]
    exact ⟨hp, hw⟩
  · exact k.pl pw g⟩
theorem WtSm.snoc {m : List (List Int × Int)} {p : List Int} {w : Int} (k : WtSm m) (hl : m.length ≤ 40) (hw : 0 ≤ w ∧ w ≤ 10) : WtSm (m ++ [(p, w)]) := ⟨by simp; omega, fun pw hp => by
  rcases List.mem_append.mp hp with g | g
  · exact k.2 pw g
  · rw [List.mem_singleton.mp g]
    exact ⟨hw.1, by show w ≤ _; omega⟩⟩
theorem WtSm.cons {m : List (List Int × Int)} {p : List Int} {w : Int} (k : WtSm m) (hl : m.length ≤ 40) (hw : 0 ≤ w ∧ w ≤ 10) : WtSm ((p, w) :: m) := ⟨by simp; omega, fun pw hp => by
  rcases List.mem_cons.mp hp with g | g
  · rw [g]
    exact ⟨hw.1, by show w ≤ _; omega⟩
  · exact k.2 pw g⟩
theorem MixG.wid {h : Int} {n : Nat} {m : List (List Int × Int)} (k : MixG h n m) (hl : m.length ≤ 1000) : wid (mixD m) ≤ 1000 := wid_mix hl (by omega) fun pw hp => by
  have := (k.pl pw hp).1.1
  have := k.fl
  omega
end Hf
namespace Hf
open PySem PySem.Spec PyProof.Rows L2
/-- the last item -/
theorem atI_end {α : Type} {xs : List α} {x : α} (h : xs[xs.length - 1]? = some x) : atI xs (-1) = some x := by
  have hl : 1 ≤ xs.length := by
    have := (List.getElem?_eq_some_iff.mp h).1
    omega
  have e : ixN xs.length (-1) = some (xs.length - 1) := by
    unfold ixN
    rw [if_neg (by omega), if_pos (by omega)]
    congr 1
    omega
  unfold atI
  rw [e]
  exact h
end Hf
/-! ## comprehensions over enumerate(list) -/
namespace Hf
open PySem PySem.Spec PyProof.Rows L2
section
variable {σ : L2.St} {H H1 : Hp} {Q : VK} {K : PySem.W.Frag} {D a : Addr} {wi : TI} {g : TG} {tt : TT} {te : TE} {vs : List Nat} {xs : List V} {Qd : Hp → Prop}
theorem lcE_int (f : Nat → Int) (nD : H1 D = none) (hn : xs.length ≤ 1000) (hx : SqL K H1 a xs)
    (hs : ∀ (i : Nat) (x : V) (T : Addr) H (Z : VK) (Y : Hp → Prop), xs[i]? = some x → Same H1 H → H T = none → (∀ H4, Same H H4 → Z (.int (f i)) H4) → LcTurn g tt te vs σ (.ref T) (L2.upd H T (.tup [.int (i : Nat), x])) Z Y)
    (hd : ∀ H, Same H1 H → H D = some (.lst (((List.range xs.length).map f).map V.int)) → Qd H) :
    ∃ W : Nat → Nat → Hp → Prop, (∃ m, W 0 m (L2.upd H1 D (.lst []))) ∧ ∀ i m H, W i m H →
      ((Ite K a).stop i H ∧ Qd H) ∨ ((Ite K a).go i H ∧ ∃ Nx : Hp → Prop, (∀ H', Nx H' → ∃ m', m' < m ∧ W (i + 1) m' H') ∧ ∀ x H', (Ite K a).yld i H x H' → g x (wipe σ vs) H' fun σ2 H2 => wipe σ2 vs = wipe σ vs ∧ tt σ2 H2 fun b H3 =>
        if b = true then te σ2 H3 fun y H4 => ∃ acc, H4 D = some (.lst acc) ∧ acc.length < sizeLine ∧ Nx (L2.upd H4 D (.lst (acc ++ [y]))) else Nx H3) := by
  let P : Nat → Hp → Prop := fun i H => Same H1 H ∧ H D = some (.lst (((List.range i).map f).map V.int))
  refine ⟨fun i m H => m = xs.length - i ∧ i ≤ xs.length ∧ P i H, ⟨xs.length, by simp, Nat.zero_le _, Same.new nD, L2.upd_same⟩, ?_⟩
  rintro i m H ⟨rfl, hi, hsame, hD⟩
  by_cases hlt : i < xs.length
  · have hx' : xs[i]? = some xs[i] := List.getElem?_eq_getElem hlt
    have qx : SqL K H a xs := hsame.seq hx
    have hz : ((((List.range i).map f).map V.int)).length < sizeLine := sz4' (by simp; omega)
    refine .inr ⟨⟨xs, _, qx, hx'⟩, P (i + 1), fun H' p' => ⟨xs.length - (i + 1), by omega, rfl, hlt, p'⟩, fun v H' y => ?_⟩
    obtain ⟨T, x', rfl, hT, rfl, f1⟩ := y
    have e1 := (f1 xs qx).symm.trans hx'
    cases e1
    refine hs i xs[i] T H _ _ hx' hsame hT fun H4 h4 => ⟨_, h4 _ _ hD, hz, Same.mut (hsame.trans h4) nD, ?_⟩
    rw [L2.upd_same, List.range_succ, List.map_append, List.map_append]
    rfl
  · have e : i = xs.length := by omega
    subst e
    exact .inl ⟨⟨xs, hsame.seq hx, Nat.le_refl _⟩, hd H hsame hD⟩
theorem forE {g : TG} {tb : TS} {nx : L2.St → Hp → Prop} {rt : VK} (Pv : Nat → L2.St → Hp → Prop) (h0 : Pv 0 σ H) (hl : ∀ i σ H, i ≤ xs.length → Pv i σ H → SqL K H a xs) (hd : ∀ σ H, Pv xs.length σ H → nx σ H)
    (hs : ∀ (i : Nat) x (T : Addr) σ H, xs[i]? = some x → Pv i σ H → H T = none → g (.ref T) σ (L2.upd H T (.tup [.int (i : Nat), x])) fun σ2 H2 => tb ⟨Pv (i + 1), rt, nx, Pv (i + 1)⟩ σ2 H2) :
    ∃ W : Nat → Nat → L2.St → Hp → Prop, (∃ m, W 0 m σ H) ∧ ∀ i m σ H, W i m σ H →
      ((Ite K a).stop i H ∧ nx σ H) ∨ ((Ite K a).go i H ∧ ∃ N : L2.St → Hp → Prop, (∀ σ' H', N σ' H' → ∃ m', m' < m ∧ W (i + 1) m' σ' H') ∧ ∀ x H', (Ite K a).yld i H x H' → g x σ H' fun σ2 H2 => tb ⟨N, rt, nx, N⟩ σ2 H2) := by
  refine ⟨fun i m σ H => m = xs.length - i ∧ i ≤ xs.length ∧ Pv i σ H, ⟨xs.length, by simp, Nat.zero_le _, h0⟩, ?_⟩
  rintro i m σ H ⟨rfl, hi, hp⟩
  have qx := hl i σ H hi hp
  by_cases hlt : i < xs.length
  · have hx' : xs[i]? = some xs[i] := List.getElem?_eq_getElem hlt
    refine .inr ⟨⟨xs, _, qx, hx'⟩, Pv (i + 1), fun σ' H' p' => ⟨xs.length - (i + 1), by omega, rfl, hlt, p'⟩, fun v H' y => ?_⟩
    obtain ⟨T, x', rfl, hT, rfl, f1⟩ := y
    have e1 := (f1 xs qx).symm.trans hx'
    cases e1
    exact hs i xs[i] T σ H hx' hp hT
  · have e : i = xs.length := by omega
    subst e
    exact .inl ⟨⟨xs, qx, Nat.le_refl _⟩, hd σ H hp⟩
theorem i_ienum {ta : TA} {R : It → Hp → Prop} (h : ta σ H fun vs H1 => ∃ a xs, vs = [.ref a] ∧ SqL K H1 a xs ∧ R (Ite K a) H1) : iEnum K ta σ H R := h
theorem i_ienum' {R : Addr → Prop} (h1 : SqL K H a xs) (q : R a) : ∃ a' xs, [V.ref a] = [.ref a'] ∧ SqL K H a' xs ∧ R a' := ⟨a, xs, rfl, h1, q⟩
end
theorem _root_.L2.Same.but {G H1 H2 : Hp} {a : Addr} (s : Same G H1) (e : But a H1 H2) (n : G a = none) : Same G H2 := fun b o h => e b o (fun c => by rw [c, n] at h; cases h) (s b o h)
theorem Newly.back' {H G : Hp} {p : Addr} {o : HO} (n : Newly H G) (h : G p = some o) : H p = none := by
  cases e : H p with
  | none => rfl
  | some u =>
    rw [n p u e] at h
    cases h
theorem i_revR {K : PySem.W.Frag} {te : TE} {σ : L2.St} {H : Hp} {Q : VK} (h : te σ H fun x H1 => ∃ a xs, x = .ref a ∧ SqL K H1 a xs ∧ ∀ p, H1 p = none → Q (.ref p) (L2.upd H1 p (.lst xs.reverse))) : tRevL K te σ H Q := h
theorem i_revR' {K : PySem.W.Frag} {xs : List V} {p : Addr} {H : Hp} {Q : VK} (h : SqL K H p xs) (q : ∀ p, H p = none → Q (.ref p) (L2.upd H p (.lst xs.reverse))) : ∃ a xs, V.ref p = .ref a ∧ SqL K H a xs ∧ ∀ p, H p = none → Q (.ref p) (L2.upd H p (.lst xs.reverse)) := ⟨p, xs, rfl, h, q⟩
theorem pi_enumK {X : Cx} (K : PySem.W.Frag) (eK : X.K = K) {e : Expr} {ta : TA} {p pos tpos : Pos} {elts : List Expr} {kk : Nat} (hg : Gl X "enumerate") (hm : X.mg "enumerate" = none) (ha : PA X [e] ta) (hs : starEach [e] X.env = [(false, eval e X.env)] := by rfl) :
    PI X (.Tuple elts kk tpos) (.Call (.Name "enumerate" p) [e] [] pos) (iEnum K ta) := by
  subst eK
  exact pi_enum hg hm ha hs
end Hf
/-! ## dicts whose keys are ints, their values ints -/
namespace Hf
open PySem PySem.Spec PyProof.Rows L2
def keqI (ks ls : List (Key × V)) : Bool := ks.length == ls.length && ks.all fun p => decide (valV ls p.1 = some p.2)
def IntVals (ks : List (Key × V)) : Prop := ∀ p ∈ ks, ∃ i : Int, p.2 = .int i
theorem IntVals.val {ks : List (Key × V)} (h : IntVals ks) {k : Key} {v : V} (e : valV ks k = some v) : ∃ i : Int, v = .int i := by
  unfold valV at e
  cases c : ks.find? (fun kv => decide (kv.1 = k)) with
  | none => rw [c] at e; cases e
  | some p =>
    rw [c] at e
    cases e
    exact h p (List.mem_of_find?_eq_some c)
theorem hits_int {A : Around} {s : Shared} {ls : List (Key × V)} {vb : List (Key × Value)} (rb : KV ls vb) (hl : IntVals ls) {ks : List (Key × V)} {va : List (Key × Value)} (ra : KV ks va) :
    IntVals ks → PySem.W.KeqHits A s vb va (ks.all fun p => decide (valV ls p.1 = some p.2)) := by
  unfold KV at ra
  induction ra with
  | nil => intro _; exact .nil
  | @cons p q ps qs h t ih =>
    intro hp
    obtain ⟨h1, h2⟩ := h
    obtain ⟨k, v⟩ := q
    have h1' : p.1 = k := h1
    subst h1'
    have ih' := ih fun p' hm => hp p' (List.mem_cons_of_mem _ hm)
    rw [List.all_cons]
    have rr := rb.val p.1
    cases c : valV ls p.1 with
    | none =>
      rw [c] at rr
      cases d : valueAt vb p.1 with
      | none =>
        rw [decide_eq_false (by nofun), Bool.false_and]
        exact .miss d
      | some y => rw [d] at rr; cases rr
    | some w =>
      rw [c] at rr
      obtain ⟨y, hy, ry⟩ := rr.some_of
      obtain ⟨i, hi⟩ := hp p List.mem_cons_self
      obtain ⟨j, rfl⟩ := hl.val c
      rw [hi] at h2
      obtain ⟨t1, rfl⟩ := h2
      obtain ⟨t2, rfl⟩ := ry
      have e : decide (some (V.int j) = some p.2) = (i == j) := by
        rw [hi, Bool.eq_iff_iff, decide_eq_true_iff, beq_iff_eq]
        exact ⟨fun z => by injection z with z; injection z with z; exact z.symm, fun z => by rw [z]⟩
      rw [e]
      exact .hit hy (SeqAt.EqAt.int_int i t1 j t2) ih'
section
variable {X : Cx}
def rEqDI : R2 := fun x y H Q => ∃ a b ks ls, x = .ref a ∧ y = .ref b ∧ H a = some (.dK ks) ∧ H b = some (.dK ls) ∧ IntVals ks ∧ IntVals ls ∧ Q (.bl (keqI ks ls)) H
def rNeDI : R2 := fun x y H Q => ∃ a b ks ls, x = .ref a ∧ y = .ref b ∧ H a = some (.dK ks) ∧ H b = some (.dK ls) ∧ IntVals ks ∧ IntVals ls ∧ Q (.bl (!keqI ks ls)) H
theorem op_eqDI (hu : X.A.units < cLine) : OpR X (compareOp .Eq) rEqDI := by
  intro pins s σ H x y v u Q I rx ry h
  obtain ⟨a, b, ks, ls, rfl, rfl, ea, eb, n1, n2, q⟩ := h
  obtain rfl : v = Value.ref a := rx
  obtain rfl : u = Value.ref b := ry
  obtain ⟨_, ya, va, ra, da⟩ := (show ObjOk X.prog X.w H s.heap a (.dK ks) from I.hok a _ ea)
  obtain ⟨_, yb, vb, rb, db⟩ := (show ObjOk X.prog X.w H s.heap b (.dK ls) from I.hok b _ eb)
  refine PySem.W.keq_eq (knd := mixKind X.prog X.w) ya yb da db hu (fun _ => hits_int rb n2 ra n1) (fin_bl I q ?_)
  rw [keqI, ra.length, rb.length]
theorem op_neDI (hu : X.A.units < cLine) : OpR X (compareOp .NotEq) rNeDI := by
  intro pins s σ H x y v u Q I rx ry h
  obtain ⟨a, b, ks, ls, rfl, rfl, ea, eb, n1, n2, q⟩ := h
  obtain rfl : v = Value.ref a := rx
  obtain rfl : u = Value.ref b := ry
  obtain ⟨_, ya, va, ra, da⟩ := (show ObjOk X.prog X.w H s.heap a (.dK ks) from I.hok a _ ea)
  obtain ⟨_, yb, vb, rb, db⟩ := (show ObjOk X.prog X.w H s.heap b (.dK ls) from I.hok b _ eb)
  refine PySem.W.keq_ne (knd := mixKind X.prog X.w) ya yb da db hu (fun _ => hits_int rb n2 ra n1) (fin_bl I q ?_)
  rw [keqI, ra.length, rb.length]
end
section
variable {σ : L2.St} {H : Hp} {Q : VK} {K : PySem.W.Frag} {a b p : Addr} {ks ls : List (Key × V)} {i : Int} {v : V} {nx bk ct : L2.St → Hp → Prop} {rt : VK}
theorem i_eqDI (h1 : H a = some (.dK ks)) (h2 : H b = some (.dK ls)) (n1 : IntVals ks) (n2 : IntVals ls) (q : Q (.bl (keqI ks ls)) H) : rEqDI (.ref a) (.ref b) H Q := ⟨a, b, ks, ls, rfl, rfl, h1, h2, n1, n2, q⟩
theorem i_neDI (h1 : H a = some (.dK ks)) (h2 : H b = some (.dK ls)) (n1 : IntVals ks) (n2 : IntVals ls) (q : Q (.bl (!keqI ks ls)) H) : rNeDI (.ref a) (.ref b) H Q := ⟨a, b, ks, ls, rfl, rfl, h1, h2, n1, n2, q⟩
theorem i_dnewK (h : ∀ p, H p = none → Q (.ref p) (L2.upd H p (.dK []))) : tDNewK σ H Q := h
theorem i_isDK {A : Addr → Prop} (h : H a = some (.dK ks)) (q : A a) : ∃ a', V.ref a = .ref a' ∧ IsD H a' ∧ A a' := ⟨a, rfl, .inl ⟨ks, .inl h⟩, q⟩
theorem i_dgoK {R : Option V → Prop} (h : H a = some (.dK ks)) (q : R (valV ks (.inl i))) : ∃ o, DGet H a (.int i) o ∧ R o := ⟨_, DGet.k (k := .inl i) h, q⟩
theorem i_dpK {Z : Hp → Prop} (h : H a = some (.dK ks)) (hz : ks.length ≤ 1000000) (q : Z (L2.upd H a (.dK (putK ks (.inl i) v)))) : DpR v (.ref a) (.int i) H Z := ⟨a, _, rfl, DPut.k (k := .inl i) h (sz4' hz), q⟩
theorem i_lstDK (h : H a = some (.dK ks)) (q : ∀ l, H l = none → Q (.ref l) (L2.upd H l (.lst (ks.map fun kv => kV kv.1)))) : rListD [.ref a] H Q := ⟨a, ks, rfl, h, q⟩
end
/-! ### what such a dict stands for: sums by ints -/
def addI (f : Int → Int) (i w : Int) : Int → Int := fun a => if a = i then f a + w else f a
structure FlI (kvs : List (Key × V)) (f : Int → Int) : Prop where
  pos : ∀ i, 0 ≤ f i
  ks : ∀ kv ∈ kvs, ∃ i : Int, kv = (.inl i, .int (f i)) ∧ f i ≠ 0
  nd : (kvs.map (·.1)).Nodup
  vl : ∀ i, valV kvs (.inl i) = if f i = 0 then none else some (.int (f i))
theorem FlI.nil : FlI [] (fun _ => 0) := ⟨fun _ => Int.le_refl _, nofun, List.nodup_nil, fun _ => by rw [if_pos rfl]; rfl⟩
theorem FlI.get {kvs : List (Key × V)} {f : Int → Int} (h : FlI kvs f) (i : Int) : (valV kvs (.inl i)).getD (.int 0) = .int (f i) := by
  rw [h.vl]
  split
  · rename_i e
    rw [e]
    rfl
  · rfl
theorem FlI.ints {kvs : List (Key × V)} {f : Int → Int} (h : FlI kvs f) : IntVals kvs := fun p hp => by
  obtain ⟨i, rfl, _⟩ := h.ks p hp
  exact ⟨_, rfl⟩
theorem FlI.add {kvs : List (Key × V)} {f : Int → Int} (h : FlI kvs f) {i w : Int} (hw : 1 ≤ w) : FlI (putK kvs (.inl i) (.int (f i + w))) (addI f i w) := by
  have hnn := h.pos
  have e0 : addI f i w i = f i + w := if_pos rfl
  have e1 : ∀ a, a ≠ i → addI f i w a = f a := fun a ha => if_neg ha
  refine ⟨fun a => ?_, fun kv hkv => ?_, ?_, fun a => ?_⟩
  · by_cases c : a = i
    · rw [c, e0]
      have := hnn i
      omega
    · rw [e1 a c]
      exact hnn a
  · unfold putK at hkv
    split at hkv
    · obtain ⟨kv', h1, h2⟩ := List.mem_map.mp hkv
      obtain ⟨a, e2, e3⟩ := h.ks kv' h1
      rw [e2] at h2
      simp only at h2
      by_cases c : a = i
      · subst c
        rw [if_pos rfl] at h2
        refine ⟨a, by rw [← h2, e0], ?_⟩
        rw [e0]
        have := hnn a
        omega
      · rw [if_neg (fun z => c (by injection z))] at h2
        exact ⟨a, by rw [← h2, e1 a c], by rw [e1 a c]; exact e3⟩
    · next hany =>
      rcases List.mem_append.mp hkv with z | z
      · obtain ⟨a, e2, e3⟩ := h.ks kv z
        have c : a ≠ i := fun x => hany (by
          rw [List.any_eq_true]
          exact ⟨kv, z, decide_eq_true (by rw [e2, x])⟩)
        exact ⟨a, by rw [e2, e1 a c], by rw [e1 a c]; exact e3⟩
      · rw [List.mem_singleton.mp z]
        refine ⟨i, by rw [e0], ?_⟩
        rw [e0]
        have := hnn i
        omega
  · rw [putK_keys]
    split
    · exact h.nd
    · next hany =>
      rw [List.nodup_append]
      refine ⟨h.nd, by simp, fun a ha b hb e => hany ?_⟩
      rw [List.mem_singleton.mp hb] at e
      obtain ⟨kv, h1, h2⟩ := List.mem_map.mp ha
      rw [List.any_eq_true]
      exact ⟨kv, h1, decide_eq_true (by rw [h2, e])⟩
  · rw [valV_put]
    by_cases c : a = i
    · subst c
      have := hnn a
      rw [if_pos rfl, e0, if_neg (by omega)]
    · rw [if_neg (fun z => c (by injection z)), h.vl, e1 a c]
theorem putI_len {kvs : List (Key × V)} {k : Key} {v : V} : (putK kvs k v).length ≤ kvs.length + 1 := by
  unfold putK
  split
  · rw [List.length_map]; omega
  · rw [List.length_append]; exact Nat.le_refl _
theorem nodup_le {α : Type} [DecidableEq α] : ∀ {xs ys : List α}, xs.Nodup → (∀ x ∈ xs, x ∈ ys) → xs.length ≤ ys.length
  | [], _, _, _ => Nat.zero_le _
  | x :: xs, ys, nd, h => by
    have h1 := h x List.mem_cons_self
    rw [List.nodup_cons] at nd
    have := nodup_le (ys := ys.erase x) nd.2 fun y hy => (List.mem_erase_of_ne (fun e => nd.1 (by rw [← e]; exact hy))).mpr (h y (List.mem_cons_of_mem _ hy))
    rw [List.length_erase_of_mem h1] at this
    have h2 : 0 < ys.length := List.length_pos_of_mem h1
    rw [List.length_cons]
    omega
theorem nodup_back {α : Type} [DecidableEq α] {xs ys : List α} (nd : xs.Nodup) (h : ∀ x ∈ xs, x ∈ ys) (hl : ys.length ≤ xs.length) : ∀ y ∈ ys, y ∈ xs := fun y hy => by
  by_cases c : y ∈ xs
  · exact c
  · have := nodup_le (xs := y :: xs) (List.nodup_cons.mpr ⟨c, nd⟩) fun x hx => by
      rcases List.mem_cons.mp hx with rfl | z
      · exact hy
      · exact h x z
    rw [List.length_cons] at this
    omega
theorem FlI.mem {kvs : List (Key × V)} {f : Int → Int} (h : FlI kvs f) {k : Key} : k ∈ kvs.map (·.1) ↔ ∃ i : Int, k = .inl i ∧ f i ≠ 0 := by
  constructor
  · intro z
    obtain ⟨kv, h1, h2⟩ := List.mem_map.mp z
    obtain ⟨i, e, c⟩ := h.ks kv h1
    exact ⟨i, by rw [← h2, e], c⟩
  · rintro ⟨i, rfl, c⟩
    have := h.vl i
    rw [if_neg c] at this
    unfold valV at this
    cases d : kvs.find? (fun kv => decide (kv.1 = .inl i)) with
    | none => rw [d] at this; cases this
    | some p =>
      have h1 := List.mem_of_find?_eq_some d
      have h2 := List.find?_some d
      exact List.mem_map.mpr ⟨p, h1, of_decide_eq_true h2⟩
theorem keqI_iff {ks ls : List (Key × V)} {f g : Int → Int} (h1 : FlI ks f) (h2 : FlI ls g) : keqI ks ls = true ↔ ∀ i, f i = g i := by
  unfold keqI
  rw [Bool.and_eq_true, beq_iff_eq, List.all_eq_true]
  constructor
  · rintro ⟨hl, ha⟩ i
    have key : ∀ i, f i ≠ 0 → g i = f i := fun i c => by
      obtain ⟨kv, m1, m2⟩ := List.mem_map.mp (h1.mem.mpr ⟨i, rfl, c⟩)
      obtain ⟨j, e, _⟩ := h1.ks kv m1
      have := of_decide_eq_true (ha kv m1)
      rw [e] at m2 this
      injection m2 with m2
      subst m2
      rw [h2.vl] at this
      split at this
      · cases this
      · injection this with this
        injection this
    by_cases c : f i = 0
    · by_cases d : g i = 0
      · rw [c, d]
      · have sub : ∀ k ∈ ks.map (·.1), k ∈ ls.map (·.1) := fun k hk => by
          obtain ⟨j, rfl, cj⟩ := h1.mem.mp hk
          exact h2.mem.mpr ⟨j, rfl, by rw [key j cj]; exact cj⟩
        have := nodup_back h1.nd sub (by rw [List.length_map, List.length_map]; omega) _ (h2.mem.mpr ⟨i, rfl, d⟩)
        obtain ⟨j, e, cj⟩ := h1.mem.mp this
        injection e with e
        subst e
        exact absurd c cj
    · exact (key i c).symm
  · intro e
    have s1 : ∀ k ∈ ks.map (·.1), k ∈ ls.map (·.1) := fun k hk => by
      obtain ⟨j, rfl, cj⟩ := h1.mem.mp hk
      exact h2.mem.mpr ⟨j, rfl, by rw [← e]; exact cj⟩
    have s2 : ∀ k ∈ ls.map (·.1), k ∈ ks.map (·.1) := fun k hk => by
      obtain ⟨j, rfl, cj⟩ := h2.mem.mp hk
      exact h1.mem.mpr ⟨j, rfl, by rw [e]; exact cj⟩
    have l1 := nodup_le h1.nd s1
    have l2 := nodup_le h2.nd s2
    rw [List.length_map, List.length_map] at l1 l2
    refine ⟨by omega, fun p hp => ?_⟩
    obtain ⟨i, rfl, c⟩ := h1.ks p hp
    rw [decide_eq_true_iff, h2.vl, ← e, if_neg c]
theorem nodup_of_map {α β : Type} {f : α → β} : ∀ {xs : List α}, (xs.map f).Nodup → xs.Nodup
  | [], _ => List.nodup_nil
  | x :: xs, h => by
    rw [List.map_cons, List.nodup_cons] at h
    exact List.nodup_cons.mpr ⟨fun m => h.1 (List.mem_map_of_mem m), nodup_of_map h.2⟩
theorem FlI.keys {kvs : List (Key × V)} {f : Int → Int} (h : FlI kvs f) : ∃ ns : List Int, (kvs.map fun kv => kV kv.1) = ns.map V.int ∧ ns.length = kvs.length ∧ ns.Nodup ∧ ∀ i, i ∈ ns ↔ f i ≠ 0 := by
  have key : ∀ {kvs : List (Key × V)}, (∀ kv ∈ kvs, ∃ i : Int, kv.1 = .inl i) → ∃ ns : List Int, kvs.map (·.1) = ns.map Sum.inl := by
    intro kvs
    induction kvs with
    | nil => intro _; exact ⟨[], rfl⟩
    | cons kv kvs ih =>
      intro h
      obtain ⟨i, e⟩ := h kv List.mem_cons_self
      obtain ⟨ns, e2⟩ := ih fun x hx => h x (List.mem_cons_of_mem _ hx)
      exact ⟨i :: ns, by rw [List.map_cons, e, e2]; rfl⟩
  obtain ⟨ns, e⟩ := key fun kv hkv => by
    obtain ⟨i, rfl, _⟩ := h.ks kv hkv
    exact ⟨i, rfl⟩
  have hn := h.nd
  rw [e] at hn
  refine ⟨ns, ?_, ?_, ?_, fun i => ?_⟩
  · have : (kvs.map fun kv => kV kv.1) = (kvs.map (·.1)).map kV := by rw [List.map_map]; rfl
    rw [this, e, List.map_map]
    rfl
  · have := congrArg List.length e
    rw [List.length_map, List.length_map] at this
    exact this.symm
  · exact nodup_of_map hn
  · have := h.mem (k := .inl i)
    rw [e] at this
    constructor
    · intro m
      obtain ⟨j, e1, e2⟩ := this.mp (List.mem_map_of_mem m)
      injection e1 with e1
      rw [e1]
      exact e2
    · intro c
      obtain ⟨j, m, e1⟩ := List.mem_map.mp (this.mpr ⟨i, rfl, c⟩)
      injection e1 with e1
      rw [← e1]
      exact m
end Hf
namespace Hf
open PySem PySem.Spec PyProof.Rows L2
theorem op_leTK {X : Cx} (K : PySem.W.Frag) (eK : X.K = K) (hu : X.A.units < cLine) : OpR X (compareOp .LtE) (rLeT K) := by
  subst eK
  exact op_leT hu
/-- (a, b) <= (c, d) -/
theorem i_leT2 {K : PySem.W.Frag} {H : Hp} {Q : VK} {p q : Addr} {a b c d : Int} (h1 : SqT K H p [.int a, .int b]) (h2 : SqT K H q [.int c, .int d]) (k : Q (.bl (decide (a < c ∨ (a = c ∧ b ≤ d)))) H) : rLeT K (.ref p) (.ref q) H Q := by
  refine ⟨p, q, [a, b], [c, d], rfl, rfl, h1, h2, ?_⟩
  have e : Ob.lexAt (fun j => decide ([a, b].getD j 0 = [c, d].getD j 0)) (fun j => decide ([a, b].getD j 0 ≤ [c, d].getD j 0)) (decide ([a, b].length ≤ [c, d].length)) 0 (min [a, b].length [c, d].length) = decide (a < c ∨ (a = c ∧ b ≤ d)) := by
    show (if decide (a = c) = true then (if decide (b = d) = true then decide (2 ≤ 2) else decide (b ≤ d)) else decide (a ≤ c)) = _
    by_cases e1 : a = c
    · rw [if_pos (decide_eq_true e1)]
      by_cases e2 : b = d
      · rw [if_pos (decide_eq_true e2), Bool.eq_iff_iff]
        simp
        omega
      · rw [if_neg (by simp [e2]), Bool.eq_iff_iff]
        simp
        omega
    · rw [if_neg (by simp [e1]), Bool.eq_iff_iff]
      simp
      omega
  rw [e]
  exact k
end Hf
namespace Hf
open PySem PySem.Spec PyProof.Rows L2
/-- (a, b) >= (c, d) -/
def rGe2 (K : PySem.W.Frag) : R2 := fun x y H Q => ∃ (p q : Addr) (a b c d : Int), x = .ref p ∧ y = .ref q ∧ SqT K H p [.int a, .int b] ∧ SqT K H q [.int c, .int d] ∧ Q (.bl (decide (c < a ∨ (c = a ∧ d ≤ b)))) H
theorem op_geTK {X : Cx} (K : PySem.W.Frag) (eK : X.K = K) (hu : X.A.units < cLine) : OpR X (compareOp .GtE) (rGe2 K) := by
  subst eK
  intro pins s σ H x y v u Q I rx ry h
  obtain ⟨p, q, a, b, c, d, rfl, rfl, hp, hq, k⟩ := h
  cases rx
  cases ry
  obtain ⟨its, r1, w1, _⟩ := I.tuple hp
  obtain ⟨jts, r2, w2, _⟩ := I.tuple hq
  obtain ⟨v1, v2, rfl, ⟨t1, rfl⟩, ⟨t2, rfl⟩⟩ := vals2 r1
  obtain ⟨v3, v4, rfl, ⟨t3, rfl⟩, ⟨t4, rfl⟩⟩ := vals2 r2
  have two : ∀ {j : Nat}, j < (#[Value.int a t1, Value.int b t2] : Array Value).size → j = 0 ∨ j = 1 := fun h => by
    have : _ < 2 := h
    omega
  have main := Ob.RcOp.tuples_ge (A := X.A) (s := s) (e := fun j => if j = 0 then a == c else b == d) (r := fun j => if j = 0 then decide (c ≤ a) else decide (d ≤ b)) w1 w2 hu
    (fun j h1 h2 => by rcases two h1 with rfl | rfl <;> exact SeqAt.EqAt.int_int _ _ _ _)
    (fun j h1 h2 _ => by rcases two h1 with rfl | rfl <;> exact Ob.RcOp.ge_int _ _ _ _)
  have val : Ob.lexAt (fun j => if j = 0 then a == c else b == d) (fun j => if j = 0 then decide (c ≤ a) else decide (d ≤ b)) (decide (2 ≥ 2)) 0 2 = decide (c < a ∨ (c = a ∧ d ≤ b)) := by
    show (if (a == c) = true then (if (b == d) = true then decide (2 ≥ 2) else decide (d ≤ b)) else decide (c ≤ a)) = _
    by_cases e1 : a = c
    · rw [if_pos (beq_iff_eq.mpr e1)]
      by_cases e2 : b = d
      · rw [if_pos (beq_iff_eq.mpr e2), Bool.eq_iff_iff]
        simp
        omega
      · rw [if_neg (fun z => e2 (beq_iff_eq.mp z)), Bool.eq_iff_iff]
        simp
        omega
    · rw [if_neg (fun z => e1 (beq_iff_eq.mp z)), Bool.eq_iff_iff]
      simp
      omega
  have fin : EP X pins σ Q (.bool (decide (c < a ∨ (c = a ∧ d ≤ b)))) s := ⟨.bl _, H, I, rfl, k⟩
  rw [← val] at fin
  exact main X.prog X.w X.xe (EP X pins σ Q) fin
theorem i_geT2 {K : PySem.W.Frag} {H : Hp} {Q : VK} {p q : Addr} {a b c d : Int} (h1 : SqT K H p [.int a, .int b]) (h2 : SqT K H q [.int c, .int d]) (k : Q (.bl (decide (c < a ∨ (c = a ∧ d ≤ b)))) H) : rGe2 K (.ref p) (.ref q) H Q := ⟨p, q, a, b, c, d, rfl, rfl, h1, h2, k⟩
end Hf
/-! ## streams among any data -/
namespace Hf
open PySem PySem.Spec PyProof.Rows L2
def isFlD : PyData → Bool
  | .tuple [a, b, c] => isNumD a && (isNumD b && isNumD c)
  | _ => false
/-- one of a row's tuples, of at most h hosts -/
def FlOk (h : Int) (e : Fl) : Prop := 0 ≤ e.2.1 ∧ e.2.1 ≤ e.1 ∧ e.1 ≤ h ∧ 1 ≤ e.2.2
instance (h : Int) (e : Fl) : Decidable (FlOk h e) := by unfold FlOk; infer_instance
theorem fl_of {d : PyData} (h : isFlD d = true) : ∃ e : Fl, d = flD e := by
  unfold isFlD at h
  split at h
  · rw [Bool.and_eq_true, Bool.and_eq_true] at h
    obtain ⟨x, rfl⟩ := num_inv h.1
    obtain ⟨y, rfl⟩ := num_inv h.2.1
    obtain ⟨z, rfl⟩ := num_inv h.2.2
    exact ⟨(x, y, z), rfl⟩
  · cases h
/-- a row of at most h hosts -/
structure RowG (h : Int) (L : List Fl) : Prop where
  ne : 1 ≤ L.length
  ok : ∀ e ∈ L, FlOk h e
  up : ∀ (k : Nat) (a b : Fl), L[k]? = some a → L[k + 1]? = some b → lt2 a b
def IsRow (h : Int) (d : PyData) : Prop := ∃ L, d = rowD L ∧ RowG h L
noncomputable def isRowB (h : Int) (d : PyData) : Bool := @decide (IsRow h d) (Classical.propDecidable _)
theorem isRow_iff {h : Int} {d : PyData} : isRowB h d = true ↔ IsRow h d := @decide_eq_true_iff _ (Classical.propDecidable _)
theorem isRow_no {h : Int} {d : PyData} : isRowB h d = false ↔ ¬ IsRow h d := @decide_eq_false_iff_not _ (Classical.propDecidable _)
theorem flD_inj {a b : Fl} (h : flD a = flD b) : a = b := by
  obtain ⟨a1, a2, a3⟩ := a
  obtain ⟨b1, b2, b3⟩ := b
  simp [flD] at h
  simp [h]
theorem rowD_inj {L M : List Fl} (h : rowD L = rowD M) : L = M := by
  simp only [rowD] at h
  injection h with h
  exact (List.map_inj_right fun x y e => flD_inj e).mp h
theorem row_nolist {h : Int} {d : PyData} (e : isLstD d = false) : isRowB h d = false := isRow_no.mpr fun ⟨L, e1, _⟩ => by
  rw [e1] at e
  cases e
theorem row_nil {h : Int} : isRowB h (.list []) = false := isRow_no.mpr fun ⟨L, e, k⟩ => by
  have : rowD L = rowD [] := e.symm
  rw [rowD_inj this] at k
  have := k.ne
  simp at this
theorem row_nofl {h : Int} {ds : List PyData} {k : Nat} {d : PyData} (e : ds[k]? = some d) (c : ∀ x : Fl, d = flD x → ¬ FlOk h x) : isRowB h (.list ds) = false := isRow_no.mpr fun ⟨L, e1, g⟩ => by
  injection e1 with e1
  rw [e1, List.getElem?_map] at e
  cases q : L[k]? with
  | none => rw [q] at e; cases e
  | some x =>
    rw [q] at e
    cases e
    exact c x rfl (g.ok x (List.mem_of_getElem? q))
theorem fls_of {h : Int} : ∀ {ds : List PyData}, (∀ d ∈ ds, ∃ e, d = flD e ∧ FlOk h e) → ∃ L : List Fl, ds = L.map flD ∧ ∀ e ∈ L, FlOk h e
  | [], _ => ⟨[], rfl, by simp⟩
  | d :: ds, g => by
    obtain ⟨e, rfl, h1⟩ := g d (by simp)
    obtain ⟨L, rfl, h2⟩ := fls_of fun x hx => g x (List.mem_cons_of_mem _ hx)
    refine ⟨e :: L, rfl, fun x hx => ?_⟩
    rcases List.mem_cons.mp hx with rfl | z
    · exact h1
    · exact h2 x z
theorem DqAll.three {H : Hp} {vs : List V} {ds : List PyData} (q : DqAll H vs ds) (hl : vs.length = 3) : ∃ v1 v2 v3 d1 d2 d3, vs = [v1, v2, v3] ∧ ds = [d1, d2, d3] ∧ Dq H v1 d1 ∧ Dq H v2 d2 ∧ Dq H v3 d3 := by
  cases q with
  | nil => simp at hl
  | cons a q =>
    cases q with
    | nil => simp at hl
    | cons b q =>
      cases q with
      | nil => simp at hl
      | cons c q =>
        cases q with
        | nil => exact ⟨_, _, _, _, _, _, rfl, rfl, a, b, c⟩
        | cons d q => simp at hl
theorem fl_at {H : Hp} {xs : List V} {L : List Fl} (q : DqAll H xs (L.map flD)) {k : Nat} {e : Fl} (h : L[k]? = some e) : ∃ t, xs[k]? = some (.ref t) ∧ H t = some (.tup [.int e.1, .int e.2.1, .int e.2.2]) := by
  obtain ⟨w, h1, h2⟩ := q.get (d := flD e) (by rw [List.getElem?_map, h]; rfl)
  obtain ⟨t, ys, rfl, h3, h4⟩ := h2.tuple_inv
  obtain ⟨v1, v2, v3, d1, d2, d3, rfl, e2, u1, u2, u3⟩ := DqAll.three h4 (by rw [h4.len]; rfl)
  injection e2 with e3 e2
  injection e2 with e4 e2
  injection e2 with e5 e2
  subst e3 e4 e5
  rw [u1.int_inv, u2.int_inv, u3.int_inv] at h3
  exact ⟨t, h1, h3⟩
theorem row_iff {h : Int} {L : List Fl} : IsRow h (rowD L) ↔ RowG h L := ⟨fun ⟨M, e, g⟩ => by rw [rowD_inj e]; exact g, fun g => ⟨L, rfl, g⟩⟩
section
variable {σ : L2.St} {H H1 : Hp} {Q : VK} {K : PySem.W.Frag} {D l : Addr} {g : TG} {tt : TT} {te : TE} {vs : List Nat} {xs : List V} {Qd : Hp → Prop}
/-- [.. for x in (a tuple) if ..]: how many -/
theorem lcT_fl (b : Nat → Bool) (nD : H1 D = none) (hn : xs.length ≤ 1000000) (hx : SqT K H1 l xs)
    (hs : ∀ (i : Nat) (x : V) H (Z : VK) (Y : Hp → Prop), xs[i]? = some x → Same H1 H → (∀ v H4, b i = true → Same H H4 → Z v H4) → (∀ H4, b i = false → Same H H4 → Y H4) → LcTurn g tt te vs σ x H Z Y)
    (hd : ∀ acc H, H D = some (.lst acc) → Same H1 H → ((acc.length : Int) = 0 ↔ ∀ i, i < xs.length → b i = false) → acc.length ≤ xs.length → Qd H) :
    ∃ W : Nat → Nat → Hp → Prop, (∃ m, W 0 m (L2.upd H1 D (.lst []))) ∧ ∀ i m H, W i m H →
      ((Itt K l).stop i H ∧ Qd H) ∨ ((Itt K l).go i H ∧ ∃ Nx : Hp → Prop, (∀ H', Nx H' → ∃ m', m' < m ∧ W (i + 1) m' H') ∧ ∀ x H', (Itt K l).yld i H x H' → g x (wipe σ vs) H' fun σ2 H2 => wipe σ2 vs = wipe σ vs ∧ tt σ2 H2 fun b H3 =>
        if b = true then te σ2 H3 fun y H4 => ∃ acc, H4 D = some (.lst acc) ∧ acc.length < sizeLine ∧ Nx (L2.upd H4 D (.lst (acc ++ [y]))) else Nx H3) := by
  refine lcT (xs := xs) (fun i acc H => Same H1 H ∧ acc.length ≤ i ∧ (acc = [] ↔ ∀ j, j < i → b j = false)) nD ⟨Same.new nD, Nat.le_refl _, by simp⟩ (fun i acc H _ q _ => Same.seqT q.1 hx) ?_ ?_
  · rintro i x acc H Z Y hi ⟨r1, r2, r3⟩ hD hz hy
    have hi' : i < xs.length := (List.getElem?_eq_some_iff.mp hi).1
    refine hs i x H Z Y hi r1 (fun v H4 e s => hz _ _ (s _ _ hD) (sz4' (by omega)) ⟨Same.mut (r1.trans s) nD, by rw [List.length_append]; show _ + 1 ≤ _; omega, ⟨fun q => by simp at q, fun q => ?_⟩⟩) (fun H4 e s => hy _ (s _ _ hD) ⟨r1.trans s, by omega, ?_⟩)
    · rw [q i (by omega)] at e
      cases e
    · rw [r3]
      refine ⟨fun q j hj => ?_, fun q j hj => q j (by omega)⟩
      by_cases c : j = i
      · rw [c]; exact e
      · exact q j (by omega)
  · rintro acc H ⟨r1, r2, r3⟩ hD
    refine hd acc H hD r1 ?_ r2
    rw [← r3, ← List.length_eq_zero_iff]
    omega
variable {lo : Int} {n : Nat}
/-- [.. for k in range(..) if ..]: how many -/
theorem lcR_fl (b : Nat → Bool) (nD : H1 D = none) (hn : n ≤ 1000000)
    (hs : ∀ (i : Nat) H (Z : VK) (Y : Hp → Prop), i < n → Same H1 H → (∀ v H4, b i = true → Same H H4 → Z v H4) → (∀ H4, b i = false → Same H H4 → Y H4) → LcTurn g tt te vs σ (.int (lo + i)) H Z Y)
    (hd : ∀ acc H, H D = some (.lst acc) → Same H1 H → ((acc.length : Int) = 0 ↔ ∀ i, i < n → b i = false) → acc.length ≤ n → Qd H) :
    ∃ W : Nat → Nat → Hp → Prop, (∃ m, W 0 m (L2.upd H1 D (.lst []))) ∧ ∀ i m H, W i m H →
      ((Itr lo n).stop i H ∧ Qd H) ∨ ((Itr lo n).go i H ∧ ∃ Nx : Hp → Prop, (∀ H', Nx H' → ∃ m', m' < m ∧ W (i + 1) m' H') ∧ ∀ x H', (Itr lo n).yld i H x H' → g x (wipe σ vs) H' fun σ2 H2 => wipe σ2 vs = wipe σ vs ∧ tt σ2 H2 fun b H3 =>
        if b = true then te σ2 H3 fun y H4 => ∃ acc, H4 D = some (.lst acc) ∧ acc.length < sizeLine ∧ Nx (L2.upd H4 D (.lst (acc ++ [y]))) else Nx H3) := by
  refine lcR (fun i acc H => Same H1 H ∧ acc.length ≤ i ∧ (acc = [] ↔ ∀ j, j < i → b j = false)) nD ⟨Same.new nD, Nat.le_refl _, by simp⟩ ?_ ?_
  · rintro i acc H Z Y hi ⟨r1, r2, r3⟩ hD hz hy
    refine hs i H Z Y hi r1 (fun v H4 e s => hz _ _ (s _ _ hD) (sz4' (by omega)) ⟨Same.mut (r1.trans s) nD, by rw [List.length_append]; show _ + 1 ≤ _; omega, ⟨fun q => by simp at q, fun q => ?_⟩⟩) (fun H4 e s => hy _ (s _ _ hD) ⟨r1.trans s, by omega, ?_⟩)
    · rw [q i (by omega)] at e
      cases e
    · rw [r3]
      refine ⟨fun q j hj => ?_, fun q j hj => q j (by omega)⟩
      by_cases c : j = i
      · rw [c]; exact e
      · exact q j (by omega)
  · rintro acc H ⟨r1, r2, r3⟩ hD
    refine hd acc H hD r1 ?_ r2
    rw [← r3, ← List.length_eq_zero_iff]
    omega
end
theorem i_slA2 {K : PySem.W.Frag} {H : Hp} {Q : VK} {p : Addr} {x y z : V} (h : SqT K H p [x, y, z]) (q : ∀ p', H p' = none → Q (.ref p') (L2.upd H p' (.tup [x, y]))) : rSlA K (.ref p) none (some 2) H Q :=
  ⟨p, [x, y, z], rfl, h, fun c => absurd c.2 (by show ¬ HT.sIx 3 3 (some 2) = 3; decide), fun _ => q⟩
/-- whether the row does not rise behind place i -/
noncomputable def noUp (L : List Fl) (i : Nat) : Bool := @decide (¬ ∀ a b, L[i]? = some a → L[i + 1]? = some b → lt2 a b) (Classical.propDecidable _)
theorem noUp_no {L : List Fl} {i : Nat} : noUp L i = false ↔ ∀ a b, L[i]? = some a → L[i + 1]? = some b → lt2 a b := by
  have := @decide_eq_false_iff_not _ (Classical.propDecidable (¬ ∀ a b, L[i]? = some a → L[i + 1]? = some b → lt2 a b))
  rw [Classical.not_not] at this
  exact this
theorem noUp_at {L : List Fl} {i : Nat} {a b : Fl} (h1 : L[i]? = some a) (h2 : L[i + 1]? = some b) : noUp L i = decide (b.1 < a.1 ∨ (b.1 = a.1 ∧ b.2.1 ≤ a.2.1)) := by
  cases c : noUp L i with
  | false =>
    have := noUp_no.mp c a b h1 h2
    unfold lt2 at this
    symm
    rw [decide_eq_false_iff_not]
    omega
  | true =>
    symm
    rw [decide_eq_true_iff]
    have : ¬ (noUp L i = false) := by rw [c]; nofun
    rw [noUp_no] at this
    have n : ¬ lt2 a b := fun z => this fun a' b' e1 e2 => by
      rw [h1] at e1
      rw [h2] at e2
      cases e1
      cases e2
      exact z
    unfold lt2 at n
    omega
/-! ### sums by hosts -/
def sumF (key : Fl → Int) (L : List Fl) (f : Int → Int) : Int → Int := L.foldl (fun f e => addI f (key e) e.2.2) f
def zF : Int → Int := fun _ => 0
/-- what comes, what goes on, by how many hosts are left -/
def tkF (L : List Fl) : Int → Int := sumF (fun e => e.1) L zF
def gnF (L : List Fl) : Int → Int := sumF (fun e => e.1 - e.2.1) L zF
theorem sumF_snoc {key : Fl → Int} {L : List Fl} {i : Nat} {e : Fl} {f : Int → Int} (h : L[i]? = some e) : sumF key (L.take (i + 1)) f = addI (sumF key (L.take i) f) (key e) e.2.2 := by
  unfold sumF
  rw [take_snoc h, List.foldl_append]
  rfl
theorem tkF_snoc {L : List Fl} {i : Nat} {e : Fl} (h : L[i]? = some e) : tkF (L.take (i + 1)) = addI (tkF (L.take i)) e.1 e.2.2 := sumF_snoc h
theorem gnF_snoc {L : List Fl} {i : Nat} {e : Fl} (h : L[i]? = some e) : gnF (L.take (i + 1)) = addI (gnF (L.take i)) (e.1 - e.2.1) e.2.2 := sumF_snoc h
theorem sumF_ne {key : Fl → Int} : ∀ {L : List Fl} {f : Int → Int}, (∀ e ∈ L, 1 ≤ e.2.2) → (∀ i, 0 ≤ f i) → (∀ i, 0 ≤ sumF key L f i) ∧ ∀ i, sumF key L f i ≠ 0 ↔ (f i ≠ 0 ∨ ∃ e ∈ L, key e = i)
  | [], f, _, h0 => ⟨h0, fun i => by simp [sumF]⟩
  | e :: L, f, h1, h0 => by
    have p := h1 e List.mem_cons_self
    have g0 : ∀ i, 0 ≤ addI f (key e) e.2.2 i := fun i => by
      unfold addI
      have := h0 i
      split <;> omega
    obtain ⟨a, b⟩ := sumF_ne (L := L) (f := addI f (key e) e.2.2) (fun x hx => h1 x (List.mem_cons_of_mem _ hx)) g0
    refine ⟨a, fun i => ?_⟩
    show sumF key L (addI f (key e) e.2.2) i ≠ 0 ↔ _
    rw [b]
    unfold addI
    by_cases c : i = key e
    · rw [if_pos c]
      have := h0 i
      exact ⟨fun _ => .inr ⟨e, List.mem_cons_self, c.symm⟩, fun _ => .inl (by omega)⟩
    · rw [if_neg c]
      constructor
      · rintro (z | ⟨x, hx, e'⟩)
        · exact .inl z
        · exact .inr ⟨x, List.mem_cons_of_mem _ hx, e'⟩
      · rintro (z | ⟨x, hx, e'⟩)
        · exact .inl z
        · rcases List.mem_cons.mp hx with rfl | m
          · exact absurd e'.symm c
          · exact .inr ⟨x, m, e'⟩
theorem tkF_ne {L : List Fl} (h : ∀ e ∈ L, 1 ≤ e.2.2) (i : Int) : tkF L i ≠ 0 ↔ ∃ e ∈ L, e.1 = i := by
  have q := (sumF_ne (key := fun e => e.1) (f := zF) h (fun _ => Int.le_refl 0)).2 i
  show sumF (fun e => e.1) L zF i ≠ 0 ↔ _
  rw [q]
  exact ⟨fun z => z.elim (fun c => absurd rfl c) id, .inr⟩
theorem gnF_ne {L : List Fl} (h : ∀ e ∈ L, 1 ≤ e.2.2) (i : Int) : gnF L i ≠ 0 ↔ ∃ e ∈ L, e.1 - e.2.1 = i := by
  have q := (sumF_ne (key := fun e => e.1 - e.2.1) (f := zF) h (fun _ => Int.le_refl 0)).2 i
  show sumF (fun e => e.1 - e.2.1) L zF i ≠ 0 ↔ _
  rw [q]
  exact ⟨fun z => z.elim (fun c => absurd rfl c) id, .inr⟩
theorem one_int {ns : List Int} {x : Int} (nd : ns.Nodup) : ns = [x] ↔ ∀ i, i ∈ ns ↔ i = x := by
  constructor
  · rintro rfl i
    simp
  · intro h
    cases ns with
    | nil => exact absurd ((h x).mpr rfl) (by simp)
    | cons y r =>
      have e := (h y).mp List.mem_cons_self
      subst e
      cases r with
      | nil => rfl
      | cons z r =>
        have e := (h z).mp (by simp)
        subst e
        rw [List.nodup_cons] at nd
        exact absurd List.mem_cons_self nd.1
theorem RowG.fl {h : Int} {L : List Fl} (k : RowG h L) : ∀ e ∈ L, 1 ≤ e.2.2 := fun e he => (k.ok e he).2.2.2
/-- the keys of what comes are just h -/
theorem keys_one {L : List Fl} {ks : List (Key × V)} {f : Int → Int} {key : Fl → Int} {x : Int} (h : FlI ks f) (hf : ∀ i, f i ≠ 0 ↔ ∃ e ∈ L, key e = i) (ne : 1 ≤ L.length) {ns : List Int} (nd : ns.Nodup) (hn : ∀ i, i ∈ ns ↔ f i ≠ 0) : ns = [x] ↔ ∀ e ∈ L, key e = x := by
  rw [one_int nd]
  constructor
  · intro g e he
    exact (g (key e)).mp ((hn _).mpr ((hf _).mpr ⟨e, he, rfl⟩))
  · intro g i
    rw [hn, hf]
    constructor
    · rintro ⟨e, he, rfl⟩
      exact g e he
    · rintro rfl
      obtain ⟨e, he⟩ := List.exists_mem_of_length_pos ne
      exact ⟨e, he, g e he⟩
/-- the first rows of a stream -/
structure PreG (h : Int) (Ls : List (List Fl)) : Prop where
  rows : ∀ L ∈ Ls, RowG h L
  first : ∀ L, Ls[0]? = some L → ∀ e ∈ L, e.1 = h
  link : ∀ (k : Nat) (A B : List Fl), Ls[k]? = some A → Ls[k + 1]? = some B → ∀ x, tkF B x = gnF A x
/-- a stream of h hosts and n fields -/
structure StrG (h n : Int) (Ls : List (List Fl)) : Prop where
  ne : (Ls.length : Int) = n ∧ n ≠ 0
  pre : PreG h Ls
  last : ∀ L, Ls[Ls.length - 1]? = some L → ∀ e ∈ L, e.1 - e.2.1 = 0
def IsStr (h n : Int) (d : PyData) : Prop := ∃ Ls, d = strD Ls ∧ StrG h n Ls
noncomputable def isStrB (h n : Int) (d : PyData) : Bool := @decide (IsStr h n d) (Classical.propDecidable _)
theorem isStr_iff {h n : Int} {d : PyData} : isStrB h n d = true ↔ IsStr h n d := @decide_eq_true_iff _ (Classical.propDecidable _)
theorem isStr_no {h n : Int} {d : PyData} : isStrB h n d = false ↔ ¬ IsStr h n d := @decide_eq_false_iff_not _ (Classical.propDecidable _)
theorem strD_inj {L M : List (List Fl)} (h : strD L = strD M) : L = M := by
  simp only [strD] at h
  injection h with h
  exact (List.map_inj_right fun x y e => rowD_inj e).mp h
theorem str_nolist {h n : Int} {d : PyData} (e : isLstD d = false) : isStrB h n d = false := isStr_no.mpr fun ⟨L, e1, _⟩ => by
  rw [e1] at e
  cases e
theorem str_len {h n : Int} {ds : List PyData} (c : ¬ ((ds.length : Int) = n ∧ n ≠ 0)) : isStrB h n (.list ds) = false := isStr_no.mpr fun ⟨L, e1, g⟩ => by
  injection e1 with e1
  rw [e1, List.length_map] at c
  exact c g.ne
theorem str_at {Ls : List (List Fl)} {ds : List PyData} (e : PyData.list ds = strD Ls) {k : Nat} {d : PyData} (h : ds[k]? = some d) : ∃ L, Ls[k]? = some L ∧ d = rowD L := by
  injection e with e
  rw [e, List.getElem?_map] at h
  cases q : Ls[k]? with
  | none => rw [q] at h; cases h
  | some L =>
    rw [q] at h
    cases h
    exact ⟨L, rfl, rfl⟩
theorem str_norow {h n : Int} {ds : List PyData} {k : Nat} {d : PyData} (e : ds[k]? = some d) (c : ¬ IsRow h d) : isStrB h n (.list ds) = false := isStr_no.mpr fun ⟨Ls, e1, g⟩ => by
  obtain ⟨L, h1, rfl⟩ := str_at e1 e
  exact c ⟨L, rfl, g.pre.rows L (List.mem_of_getElem? h1)⟩
theorem str_nofirst {h n : Int} {ds : List PyData} {L : List Fl} (e : ds[0]? = some (rowD L)) (c : ¬ ∀ e ∈ L, e.1 = h) : isStrB h n (.list ds) = false := isStr_no.mpr fun ⟨Ls, e1, g⟩ => by
  obtain ⟨M, h1, h2⟩ := str_at e1 e
  rw [rowD_inj h2] at c
  exact c (g.pre.first M h1)
theorem str_nolink {h n : Int} {ds : List PyData} {k : Nat} {A B : List Fl} (e : ds[k]? = some (rowD A)) (e' : ds[k + 1]? = some (rowD B)) (c : ¬ ∀ x, tkF B x = gnF A x) : isStrB h n (.list ds) = false := isStr_no.mpr fun ⟨Ls, e1, g⟩ => by
  obtain ⟨M, h1, h2⟩ := str_at e1 e
  obtain ⟨M', h3, h4⟩ := str_at e1 e'
  rw [rowD_inj h2, rowD_inj h4] at c
  exact c (g.pre.link k M M' h1 h3)
theorem PreG.nil {h : Int} : PreG h [] := ⟨nofun, nofun, nofun⟩
theorem PreG.snoc {h : Int} {Ms : List (List Fl)} {L : List Fl} (k : PreG h Ms) (r : RowG h L) (c1 : Ms = [] → ∀ e ∈ L, e.1 = h) (c2 : ∀ M, Ms[Ms.length - 1]? = some M → 1 ≤ Ms.length → ∀ x, tkF L x = gnF M x) : PreG h (Ms ++ [L]) := by
  refine ⟨fun M hM => ?_, fun M hM => ?_, fun j A B hA hB => ?_⟩
  · rcases List.mem_append.mp hM with z | z
    · exact k.rows M z
    · rw [List.mem_singleton.mp z]
      exact r
  · cases Ms with
    | nil =>
      cases hM
      exact c1 rfl
    | cons A Ms => exact k.first M hM
  · by_cases e : j + 1 < Ms.length
    · rw [List.getElem?_append_left (by omega)] at hA
      rw [List.getElem?_append_left e] at hB
      exact k.link j A B hA hB
    · have hj : j + 1 = Ms.length := by
        have := (List.getElem?_eq_some_iff.mp hB).1
        rw [List.length_append] at this
        simp at this
        omega
      rw [List.getElem?_append_left (by omega)] at hA
      rw [List.getElem?_append_right (by omega), hj, Nat.sub_self] at hB
      cases hB
      exact c2 A (by rw [← hj]; exact hA) (by omega)
/-- what the last row leaves behind -/
def ComeOk (H : Hp) (cv : V) (Ms : List (List Fl)) : Prop := (Ms = [] ∧ cv = .non) ∨ ∃ M cg ks, Ms[Ms.length - 1]? = some M ∧ 1 ≤ Ms.length ∧ cv = .ref cg ∧ H cg = some (.dK ks) ∧ FlI ks (gnF M) ∧ ks.length ≤ 1000
theorem ComeOk.same {H H' : Hp} {cv : V} {Ms : List (List Fl)} (h : ComeOk H cv Ms) (s : Same H H') : ComeOk H' cv Ms := by
  rcases h with h | ⟨M, cg, ks, h1, h2, h3, h4, h5, h6⟩
  · exact .inl h
  · exact .inr ⟨M, cg, ks, h1, h2, h3, s _ _ h4, h5, h6⟩
/-- a stream of any hosts (at most forty) and fields (at most eight) -/
def AnyStr (d : PyData) : Prop := ∃ h Ls, d = strD Ls ∧ StrG h (Ls.length : Int) Ls ∧ h ≤ 40 ∧ Ls.length ≤ 8
theorem anystr_no {d : PyData} (e : isLstD d = false) : ¬ AnyStr d := fun ⟨_, L, e1, _⟩ => by
  rw [e1] at e
  cases e
theorem RowG.mono {h h' : Int} {L : List Fl} (k : RowG h L) (e : h ≤ h') : RowG h' L := ⟨k.ne, fun x hx => by
  obtain ⟨a, b, c, d⟩ := k.ok x hx
  exact ⟨a, b, by omega, d⟩, k.up⟩
theorem anystr_nil : ¬ AnyStr (.list []) := fun ⟨_, L, e, g, _⟩ => by
  have : strD L = strD [] := e.symm
  rw [strD_inj this] at g
  have := g.ne.2
  simp at this
theorem anystr_row {ds : List PyData} {d : PyData} (z : AnyStr (.list ds)) (e : ds[0]? = some d) : IsRow 40 d := by
  obtain ⟨h, Ls, e1, g, h1, _⟩ := z
  obtain ⟨L, e2, rfl⟩ := str_at e1 e
  exact ⟨L, rfl, (g.pre.rows L (List.mem_of_getElem? e2)).mono h1⟩
theorem anystr_len {ds : List PyData} (z : AnyStr (.list ds)) : ds.length ≤ 8 := by
  obtain ⟨h, Ls, e1, g, _, h2⟩ := z
  injection e1 with e1
  rw [e1, List.length_map]
  exact h2
theorem anystr_iff {ds : List PyData} {L : List Fl} {e : Fl} (h1 : ds[0]? = some (rowD L)) (h2 : L[0]? = some e) (h3 : RowG 40 L) (h4 : ds.length ≤ 8) : AnyStr (.list ds) ↔ IsStr e.1 (ds.length : Int) (.list ds) := by
  constructor
  · rintro ⟨h, Ls, e1, g, _, _⟩
    obtain ⟨M, e2, e3⟩ := str_at e1 h1
    have he := g.pre.first M e2 e (by rw [← rowD_inj e3]; exact List.mem_of_getElem? h2)
    refine ⟨Ls, e1, ?_⟩
    rw [he]
    have e4 := e1
    injection e4 with e4
    rw [e4, List.length_map]
    exact g
  · rintro ⟨Ls, e1, g⟩
    have e4 := e1
    injection e4 with e4
    rw [e4, List.length_map] at g h4
    exact ⟨e.1, Ls, e1, g, (h3.ok e (List.mem_of_getElem? h2)).2.2.1, h4⟩
def lenD : PyData → Int
  | .list ds => ds.length
  | _ => 0
section
variable {σ : L2.St} {H H1 : Hp} {Q : VK} {K : PySem.W.Frag} {D l : Addr} {g : TG} {tt : TT} {te : TE} {vs : List Nat} {xs : List V} {Qd : Hp → Prop}
/-- truths, one for each item of a tuple -/
theorem lcT_bl (f : Nat → Bool) (nD : H1 D = none) (hn : xs.length ≤ 1000000) (hx : SqT K H1 l xs)
    (hs : ∀ (i : Nat) (x : V) H (Z : VK) (Y : Hp → Prop), xs[i]? = some x → Same H1 H → (∀ H4, Same H H4 → Z (.bl (f i)) H4) → LcTurn g tt te vs σ x H Z Y)
    (hd : ∀ H, Same H1 H → H D = some (.lst (((List.range xs.length).map f).map V.bl)) → Qd H) :
    ∃ W : Nat → Nat → Hp → Prop, (∃ m, W 0 m (L2.upd H1 D (.lst []))) ∧ ∀ i m H, W i m H →
      ((Itt K l).stop i H ∧ Qd H) ∨ ((Itt K l).go i H ∧ ∃ Nx : Hp → Prop, (∀ H', Nx H' → ∃ m', m' < m ∧ W (i + 1) m' H') ∧ ∀ x H', (Itt K l).yld i H x H' → g x (wipe σ vs) H' fun σ2 H2 => wipe σ2 vs = wipe σ vs ∧ tt σ2 H2 fun b H3 =>
        if b = true then te σ2 H3 fun y H4 => ∃ acc, H4 D = some (.lst acc) ∧ acc.length < sizeLine ∧ Nx (L2.upd H4 D (.lst (acc ++ [y]))) else Nx H3) := by
  refine lcT (xs := xs) (fun i acc H => i ≤ xs.length ∧ acc = ((List.range i).map f).map V.bl ∧ Same H1 H) nD ⟨Nat.zero_le _, rfl, Same.new nD⟩ (fun i acc H _ q _ => Same.seqT q.2.2 hx) ?_ ?_
  · rintro i x acc H Z Y hi ⟨_, rfl, hsame⟩ ha hz _
    have hi' : i < xs.length := (List.getElem?_eq_some_iff.mp hi).1
    refine hs i x H Z Y hi hsame fun H4 h4 => hz _ H4 (h4 _ _ ha) (sz4' (by simp; omega)) ⟨hi', ?_, Same.mut (hsame.trans h4) nD⟩
    rw [List.range_succ, List.map_append, List.map_append]
    rfl
  · rintro acc H ⟨_, rfl, hsame⟩ ha
    exact hd H hsame ha
/-- truths, one for each item of a list -/
theorem lcL_bl (f : Nat → Bool) (nD : H1 D = none) (hn : xs.length ≤ 1000000) (hx : SqL K H1 l xs)
    (hs : ∀ (i : Nat) (x : V) H (Z : VK) (Y : Hp → Prop), xs[i]? = some x → Same H1 H → (∀ H4, Same H H4 → Z (.bl (f i)) H4) → LcTurn g tt te vs σ x H Z Y)
    (hd : ∀ H, Same H1 H → H D = some (.lst (((List.range xs.length).map f).map V.bl)) → Qd H) :
    ∃ W : Nat → Nat → Hp → Prop, (∃ m, W 0 m (L2.upd H1 D (.lst []))) ∧ ∀ i m H, W i m H →
      ((Itl K l).stop i H ∧ Qd H) ∨ ((Itl K l).go i H ∧ ∃ Nx : Hp → Prop, (∀ H', Nx H' → ∃ m', m' < m ∧ W (i + 1) m' H') ∧ ∀ x H', (Itl K l).yld i H x H' → g x (wipe σ vs) H' fun σ2 H2 => wipe σ2 vs = wipe σ vs ∧ tt σ2 H2 fun b H3 =>
        if b = true then te σ2 H3 fun y H4 => ∃ acc, H4 D = some (.lst acc) ∧ acc.length < sizeLine ∧ Nx (L2.upd H4 D (.lst (acc ++ [y]))) else Nx H3) := by
  refine lcL (xs := xs) (fun i acc H => i ≤ xs.length ∧ acc = ((List.range i).map f).map V.bl ∧ Same H1 H) nD ⟨Nat.zero_le _, rfl, Same.new nD⟩ (fun i acc H _ q _ => q.2.2.seq hx) ?_ ?_
  · rintro i x acc H Z Y hi ⟨_, rfl, hsame⟩ ha hz _
    have hi' : i < xs.length := (List.getElem?_eq_some_iff.mp hi).1
    refine hs i x H Z Y hi hsame fun H4 h4 => hz _ H4 (h4 _ _ ha) (sz4' (by simp; omega)) ⟨hi', ?_, Same.mut (hsame.trans h4) nD⟩
    rw [List.range_succ, List.map_append, List.map_append]
    rfl
  · rintro acc H ⟨_, rfl, hsame⟩ ha
    exact hd H hsame ha
theorem inV_false : ∀ bs : List Bool, L2.inV (.bl false) (bs.map V.bl) = decide (false ∈ bs)
  | [] => rfl
  | b :: bs => by
    have ih := inV_false bs
    rw [Bool.eq_iff_iff, decide_eq_true_iff]
    cases b with
    | false => simp [L2.inV, L2.eqV]
    | true =>
      have e : L2.inV (.bl false) ((true :: bs).map V.bl) = L2.inV (.bl false) (bs.map V.bl) := by simp [L2.inV, L2.eqV]
      rw [e, ih, decide_eq_true_iff]
      simp
theorem flat_bls : ∀ bs : List Bool, (bs.map V.bl).all flatV = true
  | [] => rfl
  | b :: bs => by
    rw [List.map_cons, List.all_cons, flat_bls bs]
    rfl
/-- False in a list of truths -/
theorem i_inF {p : Addr} {bs : List Bool} (h : SqL K H p (bs.map V.bl)) (q : Q (.bl (decide (false ∈ bs))) H) : rIn K false (.bl false) (.ref p) H Q := ⟨p, bs.map V.bl, rfl, .inl h, rfl, flat_bls bs, by rw [inV_false]; exact q⟩
end
theorem eqv_nil : ∀ ds : List PyData, PyData.eqv (.list ds) (.list []) = decide (ds = [])
  | [] => by simp [PyData.eqv, PyData.eqvAll]
  | d :: ds => by simp [PyData.eqv, PyData.eqvAll]
theorem shaped_nil : SeqAt.shaped (.list []) = true := shaped_of (by simp [PyData.canLay0, PyData.canLayAll0]) (by simp [dep, depA])
end Hf
/-! ## the stream of a mix is a stream -/
namespace Hf
open PySem PySem.Spec PyProof.Rows L2
theorem sumF_sum {key : Fl → Int} : ∀ {L : List Fl} {f : Int → Int} (x : Int), sumF key L f x = f x + (L.map fun e => if key e = x then e.2.2 else 0).sum
  | [], f, x => by simp [sumF]
  | e :: L, f, x => by
    show sumF key L (addI f (key e) e.2.2) x = _
    rw [sumF_sum x, List.map_cons, List.sum_cons]
    unfold addI
    by_cases c : x = key e
    · rw [if_pos c, if_pos c.symm]
      omega
    · rw [if_neg c, if_neg (fun z => c z.symm)]
      omega
theorem sum_zero {α : Type} {c : α → Int} {P : List α} (h : ∀ p ∈ P, c p = 0) : (P.map c).sum = 0 := by
  induction P with
  | nil => rfl
  | cons p P ih =>
    rw [List.map_cons, List.sum_cons, h p List.mem_cons_self, ih fun q hq => h q (List.mem_cons_of_mem _ hq)]
    rfl
theorem sum_single {α : Type} [DecidableEq α] {c : α → Int} {q : α} : ∀ {P : List α}, P.Nodup → q ∈ P → (P.map fun p => if q = p then c p else 0).sum = c q
  | [], _, h => by simp at h
  | p :: P, nd, h => by
    rw [List.nodup_cons] at nd
    rw [List.map_cons, List.sum_cons]
    by_cases e : q = p
    · subst e
      rw [if_pos rfl, sum_zero fun p hp => if_neg fun z => nd.1 (by rw [z]; exact hp)]
      omega
    · rw [if_neg e, sum_single nd.2 ((List.mem_cons.mp h).resolve_left e)]
      omega
theorem sum_add {α : Type} {a b : α → Int} : ∀ {P : List α}, (P.map fun p => a p + b p).sum = (P.map a).sum + (P.map b).sum
  | [] => rfl
  | p :: P => by
    rw [List.map_cons, List.map_cons, List.map_cons, List.sum_cons, List.sum_cons, List.sum_cons, sum_add]
    omega
/-- flows, gathered by what hangs on their places alone -/
theorem flow_sum {k : Nat} {kp : Int × Int → Int} {x : Int} {P : List (Int × Int)} (nd : P.Nodup) : ∀ {m : List (List Int × Int)}, (∀ pw ∈ m, keyAt pw.1 k ∈ P) →
    (P.map fun p => if kp p = x then flowF m k p.1 p.2 else 0).sum = (m.map fun pw => if kp (keyAt pw.1 k) = x then pw.2 else 0).sum
  | [], _ => by
    rw [sum_zero fun p _ => by show (if kp p = x then (0 : Int) else 0) = 0; split <;> rfl]
    rfl
  | pw :: m, h => by
    have ih := flow_sum (kp := kp) (x := x) nd (m := m) fun q hq => h q (List.mem_cons_of_mem _ hq)
    have s := sum_single (c := fun p => if kp p = x then pw.2 else 0) nd (h pw List.mem_cons_self)
    rw [List.map_cons, List.sum_cons, ← ih, ← s, ← sum_add]
    congr 1
    apply List.map_congr_left
    intro p _
    have e : flowF (pw :: m) k p.1 p.2 = (if keyAt pw.1 k = p then pw.2 else 0) + flowF m k p.1 p.2 := rfl
    show (if kp p = x then flowF (pw :: m) k p.1 p.2 else 0) = (if keyAt pw.1 k = p then (if kp p = x then pw.2 else 0) else 0) + (if kp p = x then flowF m k p.1 p.2 else 0)
    rw [e]
    by_cases c1 : kp p = x
    · rw [if_pos c1, if_pos c1, if_pos c1]
    · rw [if_neg c1, if_neg c1, if_neg c1]
      split <;> rfl
theorem flowF_nn {k : Nat} : ∀ {m : List (List Int × Int)}, (∀ pw ∈ m, 1 ≤ pw.2) → ∀ l s, 0 ≤ flowF m k l s
  | [], _, _, _ => Int.le_refl _
  | pw :: m, h, l, s => by
    have := flowF_nn (k := k) (m := m) (fun q hq => h q (List.mem_cons_of_mem _ hq)) l s
    have := h pw List.mem_cons_self
    show 0 ≤ (if keyAt pw.1 k = (l, s) then pw.2 else 0) + flowF m k l s
    split <;> omega
theorem flowF_ne {k : Nat} : ∀ {m : List (List Int × Int)}, (∀ pw ∈ m, 1 ≤ pw.2) → ∀ l s, flowF m k l s ≠ 0 ↔ ∃ pw ∈ m, keyAt pw.1 k = (l, s)
  | [], _, l, s => by simp [flowF]
  | pw :: m, h, l, s => by
    have h1 := flowF_nn (k := k) (m := m) (fun q hq => h q (List.mem_cons_of_mem _ hq)) l s
    have h2 := h pw List.mem_cons_self
    have ih := flowF_ne (k := k) (m := m) (fun q hq => h q (List.mem_cons_of_mem _ hq)) l s
    show (if keyAt pw.1 k = (l, s) then pw.2 else 0) + flowF m k l s ≠ 0 ↔ _
    by_cases c : keyAt pw.1 k = (l, s)
    · rw [if_pos c]
      exact ⟨fun _ => ⟨pw, List.mem_cons_self, c⟩, fun _ => by omega⟩
    · rw [if_neg c, Int.zero_add, ih]
      constructor
      · rintro ⟨q, hq, e⟩
        exact ⟨q, List.mem_cons_of_mem _ hq, e⟩
      · rintro ⟨q, hq, e⟩
        rcases List.mem_cons.mp hq with rfl | z
        · exact absurd e c
        · exact ⟨q, z, e⟩
theorem lt2_irr {a b : Fl} (h : lt2 a b) : (a.1, a.2.1) ≠ (b.1, b.2.1) := fun e => by
  injection e with e1 e2
  unfold lt2 at h
  omega
theorem row_nodup {L : List Fl} (h : L.Pairwise lt2) : (L.map fun e => (e.1, e.2.1)).Nodup := by
  unfold List.Nodup
  rw [List.pairwise_map]
  exact h.imp fun h => lt2_irr h
theorem row_gather {m : List (List Int × Int)} {k : Nat} {L : List Fl} (hw : ∀ pw ∈ m, 1 ≤ pw.2) (r : RowF (flowF m k) L) (kp : Int × Int → Int) (x : Int) :
    sumF (fun e => kp (e.1, e.2.1)) L zF x = (m.map fun pw => if kp (keyAt pw.1 k) = x then pw.2 else 0).sum := by
  rw [← flow_sum (kp := kp) (x := x) (row_nodup r.st) (m := m) (fun pw hp => ?_), sumF_sum, List.map_map]
  · show 0 + _ = _
    rw [Int.zero_add]
    congr 1
    apply List.map_congr_left
    intro e he
    show (if kp (e.1, e.2.1) = x then e.2.2 else 0) = if kp (e.1, e.2.1) = x then flowF m k e.1 e.2.1 else 0
    rw [((r.mem e).mp he).1]
  · have ne := (flowF_ne (k := k) hw (keyAt pw.1 k).1 (keyAt pw.1 k).2).mpr ⟨pw, hp, rfl⟩
    exact List.mem_map.mpr ⟨((keyAt pw.1 k).1, (keyAt pw.1 k).2, flowF m k (keyAt pw.1 k).1 (keyAt pw.1 k).2), (r.mem _).mpr ⟨rfl, ne⟩, rfl⟩
theorem sum_nn1 : ∀ {p : List Int}, (∀ x ∈ p, 0 ≤ x) → 0 ≤ p.sum
  | [], _ => by simp
  | x :: p, h => by
    have := sum_nn1 fun y hy => h y (List.mem_cons_of_mem _ hy)
    have := h x (by simp)
    rw [List.sum_cons]
    omega
theorem drop_sum {p : List Int} {k : Nat} (hk : k < p.length) : (p.drop k).sum = (p[k]?).getD 0 + (p.drop (k + 1)).sum := by
  rw [List.drop_eq_getElem_cons hk, List.sum_cons, List.getElem?_eq_getElem hk]
  rfl
theorem drop_le : ∀ {p : List Int} {k : Nat}, (∀ x ∈ p, 0 ≤ x) → (p.drop k).sum ≤ p.sum
  | [], k, _ => by simp
  | x :: p, 0, _ => Int.le_refl _
  | x :: p, k + 1, h => by
    have := drop_le (p := p) (k := k) fun y hy => h y (List.mem_cons_of_mem _ hy)
    have := h x (by simp)
    rw [List.drop_succ_cons, List.sum_cons]
    omega
theorem key_next {p : List Int} {k : Nat} (hk : k < p.length) : (keyAt p k).1 - (keyAt p k).2 = (keyAt p (k + 1)).1 := by
  unfold keyAt
  rw [drop_sum hk]
  show (p[k]?).getD 0 + (p.drop (k + 1)).sum - (p[k]?).getD 0 = (p.drop (k + 1)).sum
  omega
theorem StrOf.g {h : Int} {n : Nat} {m : List (List Int × Int)} {Ls : List (List Fl)} (r : StrOf m n Ls) (g : MixG h n m) : StrG h (n : Int) Ls := by
  have hw : ∀ pw ∈ m, 1 ≤ pw.2 := fun pw hp => (g.pl pw hp).2
  have src : ∀ {k : Nat} {L : List Fl} {e : Fl}, Ls[k]? = some L → e ∈ L → ∃ pw ∈ m, keyAt pw.1 k = (e.1, e.2.1) := fun hL he => by
    have := (((r.row _ _ hL).mem _).mp he).2
    exact (flowF_ne hw _ _).mp this
  have rows : ∀ L ∈ Ls, RowG h L := fun L hL => by
    obtain ⟨k, hk, rfl⟩ := List.mem_iff_getElem.mp hL
    have e1 : Ls[k]? = some Ls[k] := List.getElem?_eq_getElem hk
    have rr := r.row k _ e1
    have hkn : k < n := by rw [← r.len]; exact hk
    refine ⟨?_, fun e he => ?_, fun j a b h1 h2 => ?_⟩
    · obtain ⟨pw, hp⟩ : ∃ pw, pw ∈ m := List.exists_mem_of_length_pos g.ne
      have ne := (flowF_ne (k := k) hw (keyAt pw.1 k).1 (keyAt pw.1 k).2).mpr ⟨pw, hp, rfl⟩
      exact List.length_pos_of_mem ((rr.mem ((keyAt pw.1 k).1, (keyAt pw.1 k).2, flowF m k (keyAt pw.1 k).1 (keyAt pw.1 k).2)).mpr ⟨rfl, ne⟩)
    · obtain ⟨pw, hp, e2⟩ := src e1 he
      obtain ⟨⟨p1, p2, p3⟩, _⟩ := g.pl pw hp
      have hk' : k < pw.1.length := by omega
      have a1 : e.1 = (pw.1.drop k).sum := (congrArg Prod.fst e2).symm
      have a2 : e.2.1 = (pw.1[k]?).getD 0 := (congrArg Prod.snd e2).symm
      have a3 := drop_sum hk'
      have a4 : 0 ≤ (pw.1.drop (k + 1)).sum := sum_nn1 fun x hx => p3 x (List.mem_of_mem_drop hx)
      have a5 := drop_le (k := k) p3
      have a6 : 0 ≤ (pw.1[k]?).getD 0 := by
        rw [List.getElem?_eq_getElem hk']
        exact p3 _ (List.getElem_mem hk')
      have a7 := (rr.mem e).mp he
      have a8 := flowF_nn (k := k) hw e.1 e.2.1
      refine ⟨by omega, by omega, by omega, ?_⟩
      rw [a7.1]
      have := a7.2
      omega
    · obtain ⟨i1, x1⟩ := List.getElem?_eq_some_iff.mp h1
      obtain ⟨i2, x2⟩ := List.getElem?_eq_some_iff.mp h2
      have := List.pairwise_iff_getElem.mp rr.st j (j + 1) i1 i2 (by omega)
      rw [x1, x2] at this
      exact this
  have fl := g.fl
  refine ⟨⟨by rw [r.len], by omega⟩, ⟨rows, fun L hL e he => ?_, fun k A B hA hB x => ?_⟩, fun L hL e he => ?_⟩
  · obtain ⟨pw, hp, e2⟩ := src hL he
    have a1 : e.1 = (pw.1.drop 0).sum := (congrArg Prod.fst e2).symm
    rw [a1, List.drop_zero]
    exact (g.pl pw hp).1.2.1
  · have hk : k + 1 < Ls.length := (List.getElem?_eq_some_iff.mp hB).1
    have t1 := row_gather hw (r.row _ _ hB) (fun p => p.1) x
    have t2 := row_gather hw (r.row _ _ hA) (fun p => p.1 - p.2) x
    show sumF (fun e => e.1) B zF x = sumF (fun e => e.1 - e.2.1) A zF x
    rw [t1, t2]
    congr 1
    apply List.map_congr_left
    intro pw hp
    have := (g.pl pw hp).1.1
    have e := key_next (p := pw.1) (k := k) (by rw [r.len] at hk; omega)
    show (if (keyAt pw.1 (k + 1)).1 = x then pw.2 else 0) = if (keyAt pw.1 k).1 - (keyAt pw.1 k).2 = x then pw.2 else 0
    rw [e]
  · obtain ⟨pw, hp, e2⟩ := src hL he
    have hl := (g.pl pw hp).1.1
    have a1 : e.1 = (keyAt pw.1 (Ls.length - 1)).1 := (congrArg Prod.fst e2).symm
    have a2 : e.2.1 = (keyAt pw.1 (Ls.length - 1)).2 := (congrArg Prod.snd e2).symm
    have rl := r.len
    rw [a1, a2, key_next (by omega)]
    show (pw.1.drop (Ls.length - 1 + 1)).sum = 0
    rw [List.drop_of_length_le (by omega)]
    rfl
theorem StrOf.any {h : Int} {n : Nat} {m : List (List Int × Int)} {Ls : List (List Fl)} (r : StrOf m n Ls) (g : MixG h n m) : AnyStr (strD Ls) := ⟨h, Ls, rfl, by rw [r.len]; exact r.g g, g.ho.2, by rw [r.len]; exact g.fl.2⟩
/-! ### a list that is made by append, its things new and owned -/
def AccN (H1 H : Hp) (D : Addr) (acc : List V) (ds : List PyData) : Prop := Same H1 H ∧ H D = some (.lst acc) ∧ ∃ S, OwAll H acc ds S ∧ S.Nodup ∧ D ∉ S ∧ ∀ b, b ∈ S → H1 b = none
theorem AccN.nil {H1 H : Hp} {D : Addr} (s : Same H1 H) (h : H D = some (.lst [])) : AccN H1 H D [] [] := ⟨s, h, [], .nil, List.nodup_nil, by simp, nofun⟩
theorem AccN.push {H1 H H4 : Hp} {D : Addr} {acc : List V} {ds : List PyData} {v : V} {d : PyData} {S' : List Addr} (nD : H1 D = none) (h : AccN H1 H D acc ds) (k1 : OwN H H4 v d S') (k2 : Same H H4) : AccN H1 (L2.upd H4 D (.lst (acc ++ [v]))) D (acc ++ [v]) (ds ++ [d]) := by
  obtain ⟨h2, hD, S, h3, h4, h5, h6⟩ := h
  have hDS : D ∉ S' := fun z => by
    have := k1.nw D z
    rw [hD] at this
    cases this
  have kp : Kp [D] H4 (upd H4 D (.lst (acc ++ [v]))) := Kp.upd (by simp) Kp.refl
  have ht : ∀ b ys, b ∈ [D] → H4 b ≠ some (.tup ys) := fun b ys hb e => by
    rw [List.mem_singleton.mp hb, k2 _ _ hD] at e
    cases e
  have hd1 : ∀ b, b ∈ S → b ∉ [D] := fun b hb hb' => h5 (by rw [← List.mem_singleton.mp hb']; exact hb)
  have hd2 : ∀ b, b ∈ S' → b ∉ [D] := fun b hb hb' => hDS (by rw [← List.mem_singleton.mp hb']; exact hb)
  refine ⟨Same.mut (h2.trans k2) nD, upd_same, S ++ S', OwAll.snoc (OwAll.kp ht kp (h3.same k2) hd1) (Ow.kp ht kp k1.ow hd2), ?_, ?_, ?_⟩
  · rw [List.nodup_append]
    refine ⟨h4, k1.nd, fun b hb c hc e => ?_⟩
    subst e
    obtain ⟨ys, e'⟩ := h3.lists b hb
    rw [k1.nw b hc] at e'
    cases e'
  · intro z
    rcases List.mem_append.mp z with z | z
    · exact h5 z
    · exact hDS z
  · intro b hb
    rcases List.mem_append.mp hb with z | z
    · exact h6 b z
    · exact h2.free (k1.nw b z)
theorem AccN.own {H1 H : Hp} {D : Addr} {acc : List V} {ds : List PyData} (nD : H1 D = none) (h : AccN H1 H D acc ds) : ∃ S, OwN H1 H (.ref D) (.list ds) S := by
  obtain ⟨h2, hD, S, h3, h4, h5, h6⟩ := h
  exact ⟨D :: S, .lst hD h3, List.nodup_cons.mpr ⟨h5, h4⟩, fun b hb => by
    rcases List.mem_cons.mp hb with z | z
    · rw [z]; exact nD
    · exact h6 b z⟩
theorem AccN.len {H1 H : Hp} {D : Addr} {acc : List V} {ds : List PyData} (h : AccN H1 H D acc ds) : acc.length = ds.length := by
  obtain ⟨_, _, S, h3, _⟩ := h
  exact h3.dq.len
/-- a row that is new -/
theorem row_new {H1 H G : Hp} {D : Addr} {L : List Fl} (q : Dq G (.ref D) (rowD L)) (n : Newly H1 G) (s : Same G H) : OwN H1 H (.ref D) (rowD L) [D] := by
  obtain ⟨a, xs, e, h1, h2⟩ := q.list_inv
  cases e
  exact ⟨.lst (s _ _ h1) (row_own (h2.same s)), by simp, fun b hb => by rw [List.mem_singleton.mp hb]; exact n.back' h1⟩
/-- each plan sends a host more to field f -/
def moreE (f : Int) (k : Nat) (e : Fl) : Fl := (e.1 + (if (k : Int) ≤ f then 1 else 0), e.2.1 + (if (k : Int) = f then 1 else 0), e.2.2)
def moreF (f : Int) (Ls : List (List Fl)) : List (List Fl) := Ls.zipIdx.map fun q => q.1.map (moreE f q.2)
theorem moreF_len {f : Int} {Ls : List (List Fl)} : (moreF f Ls).length = Ls.length := by simp [moreF]
theorem moreF_at {f : Int} {Ls : List (List Fl)} {k : Nat} : (moreF f Ls)[k]? = (Ls[k]?).map fun L => L.map (moreE f k) := by
  unfold moreF
  rw [List.getElem?_map, List.getElem?_zipIdx]
  cases Ls[k]? <;> simp
theorem moreF_take {f : Int} {Ls : List (List Fl)} {i : Nat} {L : List Fl} (h : Ls[i]? = some L) : (moreF f Ls).take (i + 1) = (moreF f Ls).take i ++ [L.map (moreE f i)] := take_snoc (by rw [moreF_at, h]; rfl)
/-! ### a row by the law's own look: no bound for hosts -/
def IsRowA (d : PyData) : Prop := ∃ h, IsRow h d
noncomputable def isRowAB (d : PyData) : Bool := @decide (IsRowA d) (Classical.propDecidable _)
theorem isRowA_iff {d : PyData} : isRowAB d = true ↔ IsRowA d := @decide_eq_true_iff _ (Classical.propDecidable _)
theorem isRowA_no {d : PyData} : isRowAB d = false ↔ ¬ IsRowA d := @decide_eq_false_iff_not _ (Classical.propDecidable _)
theorem rowA_nolist {d : PyData} (e : isLstD d = false) : isRowAB d = false := isRowA_no.mpr fun ⟨h, z⟩ => by
  have := row_nolist (h := h) e
  rw [isRow_no] at this
  exact this z
theorem rowA_nil : isRowAB (.list []) = false := isRowA_no.mpr fun ⟨h, z⟩ => isRow_no.mp (row_nil (h := h)) z
def FlOkA (e : Fl) : Prop := 0 ≤ e.2.1 ∧ e.2.1 ≤ e.1 ∧ 1 ≤ e.2.2
theorem rowA_nofl {ds : List PyData} {k : Nat} {d : PyData} (e : ds[k]? = some d) (c : ∀ x : Fl, d = flD x → ¬ FlOkA x) : isRowAB (.list ds) = false := isRowA_no.mpr fun ⟨h, z⟩ =>
  isRow_no.mp (row_nofl (h := h) e fun x ex ok => c x ex ⟨ok.1, ok.2.1, ok.2.2.2⟩) z
theorem flsA_of : ∀ {ds : List PyData}, (∀ d ∈ ds, ∃ e, d = flD e ∧ FlOkA e) → ∃ L : List Fl, ds = L.map flD ∧ ∀ e ∈ L, FlOkA e
  | [], _ => ⟨[], rfl, by simp⟩
  | d :: ds, g => by
    obtain ⟨e, rfl, h1⟩ := g d (by simp)
    obtain ⟨L, rfl, h2⟩ := flsA_of fun x hx => g x (List.mem_cons_of_mem _ hx)
    refine ⟨e :: L, rfl, fun x hx => ?_⟩
    rcases List.mem_cons.mp hx with rfl | z
    · exact h1
    · exact h2 x z
theorem big_host : ∀ L : List Fl, ∃ h : Int, ∀ e ∈ L, e.1 ≤ h
  | [] => ⟨0, by simp⟩
  | e :: L => by
    obtain ⟨h, g⟩ := big_host L
    refine ⟨max e.1 h, fun x hx => ?_⟩
    rcases List.mem_cons.mp hx with rfl | z
    · omega
    · have := g x z
      omega
theorem rowA_iff {L : List Fl} (ok : ∀ e ∈ L, FlOkA e) (ne : 1 ≤ L.length) : IsRowA (rowD L) ↔ ∀ (k : Nat) (a b : Fl), L[k]? = some a → L[k + 1]? = some b → lt2 a b := by
  constructor
  · rintro ⟨h, z⟩
    exact (row_iff.mp z).up
  · intro up
    obtain ⟨h, g⟩ := big_host L
    exact ⟨h, row_iff.mpr ⟨ne, fun e he => ⟨(ok e he).1, (ok e he).2.1, g e he, (ok e he).2.2⟩, up⟩⟩
theorem rowA_ok {L : List Fl} (h : IsRowA (rowD L)) : 1 ≤ L.length ∧ ∀ e ∈ L, FlOkA e := by
  obtain ⟨h, z⟩ := h
  have g := row_iff.mp z
  exact ⟨g.ne, fun e he => ⟨(g.ok e he).1, (g.ok e he).2.1, (g.ok e he).2.2.2⟩⟩
theorem rowA_g {L : List Fl} {h : Int} (z : IsRowA (rowD L)) (b : ∀ e ∈ L, e.1 ≤ h) : RowG h L := by
  obtain ⟨h', z⟩ := z
  have g := row_iff.mp z
  exact ⟨g.ne, fun e he => ⟨(g.ok e he).1, (g.ok e he).2.1, b e he, (g.ok e he).2.2.2⟩, g.up⟩
theorem anystr_law {Ls : List (List Fl)} {L0 : List Fl} {e0 : Fl} (rows : ∀ L ∈ Ls, IsRowA (rowD L)) (h0 : Ls[0]? = some L0) (h1 : L0[0]? = some e0) (hl : Ls.length ≤ 8) :
    AnyStr (strD Ls) ↔ e0.1 ≤ 40 ∧ (∀ e ∈ L0, e.1 = e0.1) ∧ (∀ (k : Nat) (A B : List Fl), Ls[k]? = some A → Ls[k + 1]? = some B → ∀ x, tkF B x = gnF A x) ∧ ∀ L, Ls[Ls.length - 1]? = some L → ∀ e ∈ L, e.1 = e.2.1 := by
  constructor
  · rintro ⟨h, Ms, e, g, g1, _⟩
    obtain rfl := strD_inj e
    have f := g.pre.first L0 h0
    have fe := f e0 (List.mem_of_getElem? h1)
    refine ⟨by omega, fun x hx => by rw [f x hx, fe], g.pre.link, fun L hL x hx => ?_⟩
    have := g.last L hL x hx
    omega
  · rintro ⟨a1, a2, a3, a4⟩
    have bound : ∀ (k : Nat) (L : List Fl), Ls[k]? = some L → ∀ e ∈ L, e.1 ≤ e0.1 := by
      intro k
      induction k with
      | zero =>
        intro L hL e he
        rw [h0] at hL
        cases hL
        rw [a2 e he]
        exact Int.le_refl _
      | succ k ih =>
        intro B hB e he
        have hk := (List.getElem?_eq_some_iff.mp hB).1
        have hA : Ls[k]? = some (Ls[k]'(by omega)) := List.getElem?_eq_getElem _
        have rA := rowA_ok (rows _ (List.mem_of_getElem? hA))
        have rB := rowA_ok (rows _ (List.mem_of_getElem? hB))
        have t : tkF B e.1 ≠ 0 := (tkF_ne (fun e he => (rB.2 e he).2.2) e.1).mpr ⟨e, he, rfl⟩
        rw [a3 k _ _ hA hB] at t
        obtain ⟨x, hx, ex⟩ := (gnF_ne (fun e he => (rA.2 e he).2.2) e.1).mp t
        have := ih _ hA x hx
        have := (rA.2 x hx).1
        omega
    have ne : 1 ≤ Ls.length := by
      have := (List.getElem?_eq_some_iff.mp h0).1
      omega
    refine ⟨e0.1, Ls, rfl, ⟨⟨rfl, by omega⟩, ⟨fun L hL => ?_, fun L hL e he => ?_, a3⟩, fun L hL e he => ?_⟩, a1, hl⟩
    · obtain ⟨k, hk, rfl⟩ := List.mem_iff_getElem.mp hL
      exact rowA_g (rows _ hL) (bound k _ (List.getElem?_eq_getElem hk))
    · rw [h0] at hL
      cases hL
      exact a2 e he
    · have := a4 L hL e he
      omega
theorem strA_norow {ds : List PyData} {k : Nat} {d : PyData} (e : ds[k]? = some d) (c : ¬ IsRowA d) : ¬ AnyStr (.list ds) := fun ⟨h, Ls, e1, g, _⟩ => by
  obtain ⟨L, h1, rfl⟩ := str_at e1 e
  exact c ⟨h, L, rfl, g.pre.rows L (List.mem_of_getElem? h1)⟩
theorem rowsA_of : ∀ {ds : List PyData}, (∀ d ∈ ds, IsRowA d) → ∃ Ls : List (List Fl), ds = Ls.map rowD ∧ ∀ L ∈ Ls, IsRowA (rowD L)
  | [], _ => ⟨[], rfl, by simp⟩
  | d :: ds, g => by
    obtain ⟨h, L, rfl, z⟩ := g d (by simp)
    obtain ⟨Ls, rfl, h2⟩ := rowsA_of fun x hx => g x (List.mem_cons_of_mem _ hx)
    refine ⟨L :: Ls, rfl, fun x hx => ?_⟩
    rcases List.mem_cons.mp hx with rfl | y
    · exact ⟨h, x, rfl, z⟩
    · exact h2 x y
section
variable {σ : L2.St} {H H1 : Hp} {Q : VK} {K : PySem.W.Frag} {D l : Addr} {g : TG} {tt : TT} {te : TE} {vs : List Nat} {xs : List V} {Qd : Hp → Prop}
/-- [x for x in xs if ..]: the things themselves -/
theorem lcL_keep {ds : List PyData} (b : Nat → Bool) (nD : H1 D = none) (hn : xs.length ≤ 1000000) (hx : SqL K H1 l xs) (q : DqAll H1 xs ds)
    (hs : ∀ (i : Nat) (x : V) H (Z : VK) (Y : Hp → Prop), xs[i]? = some x → Same H1 H → (b i = true → ∀ H4, Same H H4 → Z x H4) → (b i = false → ∀ H4, Same H H4 → Y H4) → LcTurn g tt te vs σ x H Z Y)
    (hd : ∀ acc es H, H D = some (.lst acc) → Same H1 H → DqAll H1 acc es → (∀ e ∈ es, e ∈ ds) → (es = [] ↔ ∀ i, i < xs.length → b i = false) → Qd H) :
    ∃ W : Nat → Nat → Hp → Prop, (∃ m, W 0 m (L2.upd H1 D (.lst []))) ∧ ∀ i m H, W i m H →
      ((Itl K l).stop i H ∧ Qd H) ∨ ((Itl K l).go i H ∧ ∃ Nx : Hp → Prop, (∀ H', Nx H' → ∃ m', m' < m ∧ W (i + 1) m' H') ∧ ∀ x H', (Itl K l).yld i H x H' → g x (wipe σ vs) H' fun σ2 H2 => wipe σ2 vs = wipe σ vs ∧ tt σ2 H2 fun b H3 =>
        if b = true then te σ2 H3 fun y H4 => ∃ acc, H4 D = some (.lst acc) ∧ acc.length < sizeLine ∧ Nx (L2.upd H4 D (.lst (acc ++ [y]))) else Nx H3) := by
  refine lcL (xs := xs) (fun i acc H => Same H1 H ∧ acc.length ≤ i ∧ ∃ es, DqAll H1 acc es ∧ (∀ e ∈ es, e ∈ ds) ∧ (es = [] ↔ ∀ j, j < i → b j = false)) nD ⟨Same.new nD, Nat.le_refl _, [], .nil, by simp, by simp⟩ (fun i acc H _ q _ => q.1.seq hx) ?_ ?_
  · rintro i x acc H Z Y hi ⟨r1, r2, es, r3, r4, r5⟩ hD hz hy
    have hi' : i < xs.length := (List.getElem?_eq_some_iff.mp hi).1
    obtain ⟨d, e1, e2⟩ := q.get' hi
    refine hs i x H Z Y hi r1 (fun e H4 s => hz _ _ (s _ _ hD) (sz4' (by omega)) ⟨Same.mut (r1.trans s) nD, by rw [List.length_append]; show _ + 1 ≤ _; omega, es ++ [d], DqAll.snoc r3 e2, fun y hy => ?_, ⟨fun c => by simp at c, fun c => ?_⟩⟩) (fun e H4 s => hy _ (s _ _ hD) ⟨r1.trans s, by omega, es, r3, r4, ?_⟩)
    · rcases List.mem_append.mp hy with z | z
      · exact r4 y z
      · rw [List.mem_singleton.mp z]
        exact List.mem_of_getElem? e1
    · rw [c i (by omega)] at e
      cases e
    · rw [r5]
      refine ⟨fun c j hj => ?_, fun c j hj => c j (by omega)⟩
      by_cases e' : j = i
      · rw [e']; exact e
      · exact c j (by omega)
  · rintro acc H ⟨r1, r2, es, r3, r4, r5⟩ hD
    exact hd acc es H hD r1 r3 r4 r5
end
theorem shaped_fls {es : List PyData} {L : List Fl} (h : ∀ e ∈ es, e ∈ L.map flD) : SeqAt.shaped (.list es) = true := by
  refine shaped_of ?_ ?_
  · rw [PyData.canLay0]
    exact lay_all fun d hd => by
      obtain ⟨e, _, rfl⟩ := List.mem_map.mp (h d hd)
      simp [flD, PyData.canLay0, PyData.canLayAll0]
  · have : depA es ≤ 1 := depA_le fun d hd => by
      obtain ⟨e, _, rfl⟩ := List.mem_map.mp (h d hd)
      simp [flD, dep, depA]
    rw [dep]
    omega
theorem eqv_nil' (ds : List PyData) : (!PyData.eqv (.list ds) (.list [])) = !decide (ds = []) := by rw [eqv_nil]
theorem shaped_mem {ds : List PyData} {d : PyData} (h : SeqAt.shaped (.list ds) = true) (hd : d ∈ ds) : SeqAt.shaped d = true := by
  unfold SeqAt.shaped at h
  rw [Bool.and_eq_true, decide_eq_true_eq] at h
  obtain ⟨h1, h2⟩ := h
  have l1 : PyData.canLayAll0 ds = true := by simpa [PyData.canLay0] using h1
  have l2 := lay_mem l1 hd
  rw [depth_dep h1] at h2
  have := depA_mem hd
  rw [dep] at h2
  exact shaped_of l2 (by omega)
/-! ### None is of no class -/
theorem sub_none {K : PySem.W.Frag} (C : Addr) : PySem.W.subIn K (.type "NoneType") (.ref C) = some false := by
  show (fastBuiltinMro "NoneType").map (fun l => l.contains (Value.ref C)) = some false
  have e : fastBuiltinMro "NoneType" = some [.type "NoneType", .type "object"] := by decide +kernel
  rw [e]
  rfl
theorem i_isXnone {K : PySem.W.Frag} {H : Hp} {Q : VK} {C : Addr} (c : ClsT K C) (ty : TyX K H .non (.type "NoneType")) (q : Q (.bl false) H) : rIsX K [.non, .ref C] H Q := i_isXo ty (kit_o c (sub_none C)) q
def grown (f : Nat) (m : List (List Int × Int)) : List (List Int × Int) := m.map fun pw => (pw.1.take f ++ [(pw.1[f]?).getD 0 + 1] ++ pw.1.drop (f + 1), pw.2)
theorem sum_set : ∀ {p : List Int} {i : Nat} {z : Int}, i < p.length → (p.set i z).sum = p.sum - (p[i]?).getD 0 + z
  | [], i, z, h => by simp at h
  | x :: p, 0, z, _ => by
    rw [List.set_cons_zero, List.sum_cons, List.sum_cons, List.getElem?_cons_zero]
    show z + p.sum = x + p.sum - x + z
    omega
  | x :: p, i + 1, z, h => by
    have ih := sum_set (p := p) (i := i) (z := z) (by simpa using h)
    rw [List.set_cons_succ, List.sum_cons, List.sum_cons, ih, List.getElem?_cons_succ]
    omega
theorem grown_set {p : List Int} {f : Nat} {z : Int} (h : f < p.length) : p.take f ++ [z] ++ p.drop (f + 1) = p.set f z := by
  rw [List.set_eq_take_append_cons_drop, if_pos h, List.append_assoc]
  rfl
theorem grown_key {p : List Int} {f k : Nat} (hf : f < p.length) (hk : k < p.length) : keyAt (p.take f ++ [(p[f]?).getD 0 + 1] ++ p.drop (f + 1)) k = ((keyAt p k).1 + (if (k : Int) ≤ (f : Nat) then 1 else 0), (keyAt p k).2 + (if (k : Int) = (f : Nat) then 1 else 0)) := by
  rw [grown_set hf]
  unfold keyAt
  refine Prod.ext ?_ ?_
  · show ((p.set f _).drop k).sum = (p.drop k).sum + _
    by_cases c : k ≤ f
    · have e : (p.set f ((p[f]?).getD 0 + 1)).drop k = (p.drop k).set (f - k) ((p[f]?).getD 0 + 1) := by
        rw [List.drop_set, if_neg (by omega)]
      rw [e, sum_set (by rw [List.length_drop]; omega), if_pos (by omega), List.getElem?_drop, show k + (f - k) = f by omega]
      omega
    · rw [List.drop_set, if_pos (by omega), if_neg (by omega)]
      omega
  · show ((p.set f _)[k]?).getD 0 = (p[k]?).getD 0 + _
    by_cases c : k = f
    · subst c
      rw [List.getElem?_set_self hk, if_pos rfl]
      rfl
    · rw [List.getElem?_set_ne (Ne.symm c), if_neg (by omega)]
      omega
theorem flow_grown {f k n : Nat} (hf : f < n) (hk : k < n) : ∀ {m : List (List Int × Int)}, (∀ pw ∈ m, pw.1.length = n) → ∀ l s, flowF (grown f m) k l s = flowF m k (l - (if (k : Int) ≤ (f : Nat) then 1 else 0)) (s - (if (k : Int) = (f : Nat) then 1 else 0))
  | [], _, _, _ => rfl
  | pw :: m, h, l, s => by
    have ih := flow_grown hf hk (m := m) (fun q hq => h q (List.mem_cons_of_mem _ hq)) l s
    have hl := h pw List.mem_cons_self
    show (if keyAt (pw.1.take f ++ [(pw.1[f]?).getD 0 + 1] ++ pw.1.drop (f + 1)) k = (l, s) then pw.2 else 0) + flowF (grown f m) k l s = (if keyAt pw.1 k = (_, _) then pw.2 else 0) + flowF m k _ _
    rw [ih, grown_key (by omega) (by omega)]
    congr 1
    generalize (if (k : Int) ≤ (f : Nat) then (1 : Int) else 0) = a
    generalize (if (k : Int) = (f : Nat) then (1 : Int) else 0) = b
    by_cases c : keyAt pw.1 k = (l - a, s - b)
    · rw [if_pos c, if_pos (by rw [c]; refine Prod.ext ?_ ?_ <;> (show _ - _ + _ = _; omega))]
    · rw [if_neg c, if_neg (fun z => c (by
        have z1 : (keyAt pw.1 k).1 + a = l := congrArg Prod.fst z
        have z2 : (keyAt pw.1 k).2 + b = s := congrArg Prod.snd z
        refine Prod.ext ?_ ?_
        · show (keyAt pw.1 k).1 = l - a
          omega
        · show (keyAt pw.1 k).2 = s - b
          omega))]
theorem StrOf.more {m : List (List Int × Int)} {n f : Nat} {Ls : List (List Fl)} (r : StrOf m n Ls) (hf : f < n) (hm : ∀ pw ∈ m, pw.1.length = n) : StrOf (grown f m) n (moreF (f : Nat) Ls) := by
  refine ⟨by rw [moreF_len, r.len], fun k L' hL' => ?_⟩
  rw [moreF_at] at hL'
  cases e : Ls[k]? with
  | none => rw [e] at hL'; cases hL'
  | some L =>
    rw [e] at hL'
    cases hL'
    have rr := r.row k L e
    have hk : k < n := by rw [← r.len]; exact (List.getElem?_eq_some_iff.mp e).1
    have fl := flow_grown hf hk hm
    unfold moreE
    generalize ha : (if (k : Int) ≤ (f : Nat) then (1 : Int) else 0) = a at *
    generalize hb : (if (k : Int) = (f : Nat) then (1 : Int) else 0) = b at *
    refine ⟨?_, fun e' => ?_⟩
    · rw [List.pairwise_map]
      refine rr.st.imp fun {x y} h => ?_
      unfold lt2 at h ⊢
      show x.1 + a < y.1 + a ∨ (x.1 + a = y.1 + a ∧ x.2.1 + b < y.2.1 + b)
      omega
    · rw [fl]
      constructor
      · intro h
        obtain ⟨x, hx, rfl⟩ := List.mem_map.mp h
        have := (rr.mem x).mp hx
        show x.2.2 = flowF m k (x.1 + a - a) (x.2.1 + b - b) ∧ flowF m k (x.1 + a - a) (x.2.1 + b - b) ≠ 0
        rw [show x.1 + a - a = x.1 by omega, show x.2.1 + b - b = x.2.1 by omega]
        exact this
      · intro h
        refine List.mem_map.mpr ⟨(e'.1 - a, e'.2.1 - b, e'.2.2), (rr.mem _).mpr h, ?_⟩
        refine Prod.ext ?_ (Prod.ext ?_ rfl)
        · show e'.1 - a + a = e'.1
          omega
        · show e'.2.1 - b + b = e'.2.1
          omega
theorem MixOk.grown {h : Int} {n f : Nat} {m : List (List Int × Int)} (k : MixOk h n m) (hf : f < n) (hh : h ≤ 39) : MixOk (h + 1) n (grown f m) := by
  refine ⟨by rw [Hf.grown, List.length_map]; exact k.ne, k.fl, by have := k.ho; omega, fun pw hp => ?_⟩
  obtain ⟨q, hq, rfl⟩ := List.mem_map.mp hp
  obtain ⟨⟨h1, h2, h3⟩, h4⟩ := k.pl q hq
  refine ⟨⟨?_, ?_, fun x hx => ?_⟩, h4⟩
  · show (q.1.take f ++ [(q.1[f]?).getD 0 + 1] ++ q.1.drop (f + 1)).length = n
    rw [grown_set (by omega), List.length_set]
    exact h1
  · show (q.1.take f ++ [(q.1[f]?).getD 0 + 1] ++ q.1.drop (f + 1)).sum = h + 1
    rw [grown_set (by omega), sum_set (by omega)]
    omega
  · have hx : x ∈ q.1.take f ++ [(q.1[f]?).getD 0 + 1] ++ q.1.drop (f + 1) := hx
    rw [grown_set (by omega)] at hx
    rcases List.mem_or_eq_of_mem_set hx with z | z
    · exact h3 x z
    · have : 0 ≤ (q.1[f]?).getD 0 := by
        rw [List.getElem?_eq_getElem (by omega)]
        exact h3 _ (List.getElem_mem (by omega))
      omega
/-- the stream that the law holds beside -/
theorem any_lit : AnyStr (strD [[(2, 0, 3), (2, 1, 1)], [(1, 1, 1), (2, 2, 3)]]) := by
  have rows : ∀ (a b c d : Int × Int × Int), FlOk 2 a → FlOk 2 b → lt2 a b → RowG 2 [a, b] := fun a b _ _ h1 h2 h3 => ⟨by simp, fun e he => by
    simp only [List.mem_cons, List.not_mem_nil, or_false] at he
    rcases he with rfl | rfl <;> assumption, fun k x y e1 e2 => by
    have hk : k + 1 < 2 := (List.getElem?_eq_some_iff.mp e2).1
    obtain rfl : k = 0 := by omega
    cases e1
    cases e2
    exact h3⟩
  refine ⟨2, _, rfl, ⟨⟨rfl, by decide⟩, ⟨fun L hL => ?_, fun L hL e he => ?_, fun k A B hA hB x => ?_⟩, fun L hL e he => ?_⟩, by decide, by decide⟩
  · simp only [List.mem_cons, List.not_mem_nil, or_false] at hL
    rcases hL with rfl | rfl
    · exact rows _ _ (0, 0, 0) (0, 0, 0) (by unfold FlOk; decide) (by unfold FlOk; decide) (by unfold lt2; decide)
    · exact rows _ _ (0, 0, 0) (0, 0, 0) (by unfold FlOk; decide) (by unfold FlOk; decide) (by unfold lt2; decide)
  · cases hL
    simp only [List.mem_cons, List.not_mem_nil, or_false] at he
    rcases he with rfl | rfl <;> rfl
  · have hk : k + 1 < 2 := (List.getElem?_eq_some_iff.mp hB).1
    obtain rfl : k = 0 := by omega
    cases hA
    cases hB
    show addI (addI zF 1 1) 2 3 x = addI (addI zF (2 - 0) 3) (2 - 1) 1 x
    unfold addI zF
    by_cases c1 : x = 1
    · subst c1; decide
    · by_cases c2 : x = 2
      · subst c2; decide
      · simp [c1, c2]
  · cases hL
    simp only [List.mem_cons, List.not_mem_nil, or_false] at he
    rcases he with rfl | rfl <;> rfl
end Hf
/-! ## a list of lists that are one's own, the things in them anyone's -/
namespace Hf
open PySem PySem.Spec PyProof.Rows L2
structure FlatR (S : List Addr) (H : Hp) (D : Addr) (rs : List Addr) (dss : List (List PyData)) : Prop where
  hD : H D = some (.lst (rs.map V.ref))
  nd : (D :: rs).Nodup
  out : ∀ r, r ∈ D :: rs → r ∉ S
  len : rs.length = dss.length
  row : ∀ (k : Nat) r ds, rs[k]? = some r → dss[k]? = some ds → ∃ ys, H r = some (.lst ys) ∧ DqAll (hid (S ++ D :: rs) H) ys ds
section
variable {S : List Addr} {H H' : Hp} {D a p r : Addr} {rs : List Addr} {dss : List (List PyData)} {o : HO}
theorem FlatR.empty {H1 : Hp} (nD : H1 D = none) (hS : ∀ b, b ∈ S → ∃ o, H1 b = some o) (h : H D = some (.lst [])) : FlatR S H D [] [] := by
  refine ⟨h, by simp, fun r hr hs => ?_, rfl, fun k r ds e _ => by simp at e⟩
  obtain ⟨o, e⟩ := hS r hs
  rw [List.mem_singleton.mp hr, nD] at e
  cases e
theorem FlatR.same (h : FlatR S H D rs dss) (s : Same H H') : FlatR S H' D rs dss := ⟨s _ _ h.hD, h.nd, h.out, h.len, fun k r ds e1 e2 => by
  obtain ⟨ys, q1, q2⟩ := h.row k r ds e1 e2
  exact ⟨ys, s _ _ q1, q2.same (hid_mono s)⟩⟩
theorem FlatR.but (h : FlatR S H D rs dss) (ha : a ∈ S) (s : But a H H') : FlatR S H' D rs dss := ⟨s _ _ (fun e => h.out D (by simp) (by rw [e]; exact ha)) h.hD, h.nd, h.out, h.len, fun k r ds e1 e2 => by
  obtain ⟨ys, q1, q2⟩ := h.row k r ds e1 e2
  refine ⟨ys, s _ _ (fun e => h.out r (List.mem_cons_of_mem _ (List.mem_of_getElem? e1)) (by rw [e]; exact ha)) q1, q2.same (hid_but (List.mem_append_left _ ha) s)⟩⟩
theorem FlatR.at (h : FlatR S H D rs dss) {k : Nat} {ds : List PyData} (e : dss[k]? = some ds) : ∃ r ys, rs[k]? = some r ∧ H r = some (.lst ys) ∧ DqAll (hid (S ++ D :: rs) H) ys ds := by
  have hk := (List.getElem?_eq_some_iff.mp e).1
  have e1 : rs[k]? = some (rs[k]'(by rw [h.len]; exact hk)) := List.getElem?_eq_getElem _
  obtain ⟨ys, q1, q2⟩ := h.row k _ ds e1 e
  exact ⟨_, ys, e1, q1, q2⟩
theorem nodup_at {α : Type} {xs : List α} (h : xs.Nodup) {i j : Nat} {x : α} (h1 : xs[i]? = some x) (h2 : xs[j]? = some x) : i = j := by
  obtain ⟨a1, b1⟩ := List.getElem?_eq_some_iff.mp h1
  obtain ⟨a2, b2⟩ := List.getElem?_eq_some_iff.mp h2
  rcases Nat.lt_trichotomy i j with c | c | c
  · exact absurd (b1.trans b2.symm) (List.pairwise_iff_getElem.mp h i j a1 a2 c)
  · exact c
  · exact absurd (b2.trans b1.symm) (List.pairwise_iff_getElem.mp h j i a2 a1 c)
theorem FlatR.has (h : FlatR S H D rs dss) : ∀ b, b ∈ D :: rs → ∃ o, H b = some o := fun b hb => by
  rcases List.mem_cons.mp hb with z | z
  · exact ⟨_, by rw [z]; exact h.hD⟩
  · obtain ⟨k, hk, e⟩ := List.mem_iff_getElem.mp z
    obtain ⟨ys, q1, _⟩ := h.row k b _ (by rw [List.getElem?_eq_getElem hk, e]) (List.getElem?_eq_getElem (by rw [← h.len]; exact hk))
    exact ⟨_, q1⟩
/-- one of the lists written anew -/
theorem FlatR.put (h : FlatR S H D rs dss) {k : Nat} (e : rs[k]? = some r) {ys : List V} {ds : List PyData} (q : DqAll (hid (S ++ D :: rs) H) ys ds) : FlatR S (L2.upd H r (.lst ys)) D rs (dss.set k ds) := by
  have hr := List.mem_of_getElem? e
  have nDr : D ≠ r := fun c => by
    have := h.nd
    rw [List.nodup_cons] at this
    exact this.1 (by rw [c]; exact hr)
  have mono : Same (hid (S ++ D :: rs) H) (hid (S ++ D :: rs) (L2.upd H r (.lst ys))) := hid_upd (List.mem_append_right _ (List.mem_cons_of_mem _ hr))
  refine ⟨lk_upd nDr h.hD, h.nd, h.out, by rw [List.length_set]; exact h.len, fun j r' ds' e1 e2 => ?_⟩
  by_cases c : j = k
  · subst c
    rw [e] at e1
    cases e1
    have hk : j < dss.length := by rw [← h.len]; exact (List.getElem?_eq_some_iff.mp e).1
    rw [List.getElem?_set_self hk] at e2
    cases e2
    exact ⟨ys, upd_same, q.same mono⟩
  · rw [List.getElem?_set_ne (Ne.symm c)] at e2
    obtain ⟨zs, q1, q2⟩ := h.row j r' ds' e1 e2
    have nd := h.nd
    rw [List.nodup_cons] at nd
    refine ⟨zs, lk_upd (fun z => c (nodup_at nd.2 e1 (by rw [z]; exact e))) q1, q2.same mono⟩
theorem FlatR.dqsD (h : FlatR S H D rs dss) : DqAll (hid (S ++ [D]) H) (rs.map V.ref) (dss.map PyData.list) := by
  have nd := h.nd
  rw [List.nodup_cons] at nd
  have key : ∀ (n : Nat), n ≤ rs.length → DqAll (hid (S ++ [D]) H) ((rs.take n).map V.ref) ((dss.take n).map PyData.list) := by
    intro n
    induction n with
    | zero => intro _; exact .nil
    | succ n ih =>
      intro hn
      have e1 : rs[n]? = some (rs[n]'(by omega)) := List.getElem?_eq_getElem _
      have e2 : dss[n]? = some (dss[n]'(by rw [← h.len]; omega)) := List.getElem?_eq_getElem _
      obtain ⟨ys, q1, q2⟩ := h.row n _ _ e1 e2
      rw [take_snoc e1, take_snoc e2, List.map_append, List.map_append]
      refine DqAll.snoc (ih (by omega)) (.lst (hid_lk (fun c => ?_) q1) (q2.same (hid_less fun b hb => ?_)))
      · rcases List.mem_append.mp c with z | z
        · exact h.out _ (List.mem_cons_of_mem _ (List.getElem_mem _)) z
        · exact nd.1 (by rw [← List.mem_singleton.mp z]; exact List.getElem_mem _)
      · rcases List.mem_append.mp hb with z | z
        · exact List.mem_append_left _ z
        · exact List.mem_append_right _ (by rw [List.mem_singleton.mp z]; simp)
  have := key rs.length (Nat.le_refl _)
  rw [List.take_length, h.len, List.take_length] at this
  exact this
theorem FlatR.dqs (h : FlatR S H D rs dss) : DqAll (hid S H) (rs.map V.ref) (dss.map PyData.list) := h.dqsD.same (hid_less fun b hb => List.mem_append_left _ hb)
theorem FlatR.dq (h : FlatR S H D rs dss) : Dq (hid S H) (.ref D) (.list (dss.map PyData.list)) := .lst (hid_lk (h.out D (by simp)) h.hD) h.dqs
/-- one list more -/
theorem FlatR.push (h : FlatR S H D rs dss) {H1 : Hp} (s : Same H H1) (nr : H r = none) (hS : ∀ b, b ∈ S → ∃ o, H b = some o) {ys : List V} {ds : List PyData} (e : H1 r = some (.lst ys)) (q : DqAll (hid (S ++ D :: rs) H) ys ds) : FlatR S (L2.upd H1 D (.lst (rs.map V.ref ++ [.ref r]))) D (rs ++ [r]) (dss ++ [ds]) := by
  have nrD : r ≠ D := fun c => by rw [c, h.hD] at nr; cases nr
  have nrs : r ∉ rs := fun c => by
    obtain ⟨k, hk, e⟩ := List.mem_iff_getElem.mp c
    have e1 : rs[k]? = some r := by rw [List.getElem?_eq_getElem hk, e]
    have e2 : dss[k]? = some (dss[k]'(by rw [← h.len]; exact hk)) := List.getElem?_eq_getElem _
    obtain ⟨zs, q1, _⟩ := h.row k r _ e1 e2
    rw [nr] at q1
    cases q1
  have nrS : r ∉ S := fun c => by
    obtain ⟨o, e⟩ := hS r c
    rw [nr] at e
    cases e
  have sm : Same (hid (S ++ D :: rs) H) (hid (S ++ D :: (rs ++ [r])) (L2.upd H1 D (.lst (rs.map V.ref ++ [.ref r])))) := by
    refine Same.trans (H1 := hid (S ++ D :: (rs ++ [r])) H) (fun b o hb => ?_) ((hid_mono s).trans (hid_upd (by simp)))
    have n1 : b ∉ S ++ D :: rs := fun c => by rw [hid_in c] at hb; cases hb
    rw [hid_out n1] at hb
    have n2 : b ≠ r := fun c => by rw [c, nr] at hb; cases hb
    rw [hid_out fun c => ?_]
    · exact hb
    · rcases List.mem_append.mp c with z | z
      · exact n1 (List.mem_append_left _ z)
      · rcases List.mem_cons.mp z with z | z
        · exact n1 (List.mem_append_right _ (by rw [z]; simp))
        · rcases List.mem_append.mp z with z | z
          · exact n1 (List.mem_append_right _ (List.mem_cons_of_mem _ z))
          · exact n2 (List.mem_singleton.mp z)
  have nd := h.nd
  refine ⟨by rw [List.map_append]; exact upd_same, ?_, fun b hb => ?_, by simp [h.len], fun k r' ds' e1 e2 => ?_⟩
  · rw [List.nodup_cons] at nd ⊢
    refine ⟨fun c => ?_, ?_⟩
    · rcases List.mem_append.mp c with z | z
      · exact nd.1 z
      · exact nrD (List.mem_singleton.mp z).symm
    · rw [List.nodup_append]
      exact ⟨nd.2, by simp, fun x hx y hy c => nrs (by rw [← List.mem_singleton.mp hy, ← c]; exact hx)⟩
  · rcases List.mem_cons.mp hb with z | z
    · exact h.out b (by rw [z]; simp)
    · rcases List.mem_append.mp z with z | z
      · exact h.out b (List.mem_cons_of_mem _ z)
      · rw [List.mem_singleton.mp z]
        exact nrS
  · by_cases c : k < rs.length
    · rw [List.getElem?_append_left c] at e1
      rw [List.getElem?_append_left (by rw [← h.len]; exact c)] at e2
      obtain ⟨zs, q1, q2⟩ := h.row k r' ds' e1 e2
      rw [List.nodup_cons] at nd
      exact ⟨zs, lk_upd (fun z => nd.1 (by rw [← z]; exact List.mem_of_getElem? e1)) (s _ _ q1), q2.same sm⟩
    · rw [List.getElem?_append_right (by omega)] at e1
      rw [List.getElem?_append_right (by rw [← h.len]; omega)] at e2
      have hk : k - rs.length = 0 := by
        have := (List.getElem?_eq_some_iff.mp e1).1
        simp at this
        omega
      rw [hk] at e1
      rw [← h.len, hk] at e2
      cases e1
      cases e2
      exact ⟨ys, lk_upd nrD e, q.same sm⟩
end
/-! ### how deep and how long -/
def ItD (e : PyData) : Prop := e.canLay0 = true ∧ dep e ≤ 3 ∧ wid e ≤ 3
def EsD (es : List PyData) : Prop := (∀ e ∈ es, ItD e) ∧ es.length ≤ 200
def LnD (d : PyData) : Prop := d.canLay0 = true ∧ dep d ≤ 4 ∧ wid d ≤ 900
theorem ItD.fl (e : Fl) : ItD (flD e) := by simp [ItD, flD, PyData.canLay0, PyData.canLayAll0, dep, depA, Hf.wid, widA]
theorem ItD.ln {e : PyData} (h : ItD e) : LnD e := ⟨h.1, by have := h.2.1; omega, by have := h.2.2; omega⟩
theorem EsD.ln {es : List PyData} (h : EsD es) : LnD (.list es) := by
  have h1 : depA es ≤ 3 := depA_le fun d hd => (h.1 d hd).2.1
  have h2 : widA es ≤ 3 := widA_le fun d hd => (h.1 d hd).2.2
  have h3 := h.2
  refine ⟨?_, ?_, ?_⟩
  · rw [PyData.canLay0]
    exact lay_all fun d hd => (h.1 d hd).1
  · rw [dep]
    omega
  · rw [Hf.wid]
    omega
theorem EsD.tup {es : List PyData} (h : EsD es) : LnD (.tuple es) := by
  have h1 : depA es ≤ 3 := depA_le fun d hd => (h.1 d hd).2.1
  have h2 : widA es ≤ 3 := widA_le fun d hd => (h.1 d hd).2.2
  have h3 := h.2
  refine ⟨?_, ?_, ?_⟩
  · rw [PyData.canLay0]
    exact lay_all fun d hd => (h.1 d hd).1
  · rw [dep]
    omega
  · rw [Hf.wid]
    omega
theorem EsD.fls {L : List Fl} (h : L.length ≤ 100) : EsD (L.map flD) := ⟨fun e he => by
  obtain ⟨x, _, rfl⟩ := List.mem_map.mp he
  exact ItD.fl x, by rw [List.length_map]; omega⟩
theorem EsD.set {es : List PyData} {e : PyData} {k : Nat} (h : EsD es) (he : ItD e) : EsD (es.set k e) := ⟨fun x hx => by
  rcases List.mem_or_eq_of_mem_set hx with z | z
  · exact h.1 x z
  · rw [z]; exact he, by rw [List.length_set]; exact h.2⟩
theorem LnD.fin {ds : List PyData} (h : ∀ d ∈ ds, LnD d) (hl : ds.length ≤ 900) : SeqAt.shaped (.list ds) = true ∧ Hf.wid (.list ds) ≤ 1000 := by
  have h1 : depA ds ≤ 4 := depA_le fun d hd => (h d hd).2.1
  have h2 : widA ds ≤ 900 := widA_le fun d hd => (h d hd).2.2
  refine ⟨shaped_of ?_ ?_, ?_⟩
  · rw [PyData.canLay0]
    exact lay_all fun d hd => (h d hd).1
  · rw [dep]
    omega
  · rw [Hf.wid]
    omega
theorem LnD.sets {ds : List PyData} {d : PyData} {k : Nat} (h : ∀ d ∈ ds, LnD d) (hd : LnD d) : ∀ x ∈ ds.set k d, LnD x := fun x hx => by
  rcases List.mem_or_eq_of_mem_set hx with z | z
  · exact h x z
  · rw [z]; exact hd
theorem i_popAt {H : Hp} {Q : VK} {l : Addr} {xs : List V} {i : Int} {y : V} (h : H l = some (.lst xs)) (hl : xs.length ≤ 1000000) (h0 : 0 ≤ i) (hy : xs[i.toNat]? = some y) (q : Q y (L2.upd H l (.lst (xs.eraseIdx i.toNat)))) : rPopAt (.ref l) [.int i] H Q := by
  have hi := (List.getElem?_eq_some_iff.mp hy).1
  have e : ixN xs.length i = some i.toNat := by
    unfold ixN
    rw [if_pos h0, if_pos (by omega)]
  exact ⟨l, xs, i, _, y, rfl, rfl, h, by omega, by omega, (ixN_seq e).1, hy, q⟩
theorem DqAll.erase {H : Hp} {vs : List V} {ds : List PyData} (q : DqAll H vs ds) (k : Nat) : DqAll H (vs.eraseIdx k) (ds.eraseIdx k) := by
  rw [List.eraseIdx_eq_take_drop_succ, List.eraseIdx_eq_take_drop_succ]
  exact DqAll.append (q.take k) (q.drop (k + 1))
theorem ixN_in {n : Nat} {i : Int} (h0 : 0 ≤ i) (h1 : i < n) : ixN n i = some i.toNat := by
  unfold ixN
  rw [if_pos h0, if_pos h1]
end Hf
/-! ## lists of dicts of flows -/
namespace Hf
open PySem PySem.Spec PyProof.Rows L2
/-- a list of dicts that hold flows; all of it new to H0 -/
structure DsR (H0 H : Hp) (F : Addr) (rs : List Addr) (n : Nat) (fs : Nat → Int → Int → Int) (N : Nat → Nat) : Prop where
  hF : H F = some (.lst (rs.map V.ref))
  len : rs.length = n
  nd : (F :: rs).Nodup
  nw : ∀ b, b ∈ F :: rs → H0 b = none
  row : ∀ (k : Nat) r, rs[k]? = some r → ∃ kvs, H r = some (.dT kvs) ∧ FlD kvs (fs k) ∧ kvs.length ≤ N k
section
variable {H0 H H' : Hp} {F r : Addr} {rs : List Addr} {n : Nat} {N : Nat → Nat} {fs : Nat → Int → Int → Int}
theorem DsR.same (h : DsR H0 H F rs n fs N) (s : Same H H') : DsR H0 H' F rs n fs N := ⟨s _ _ h.hF, h.len, h.nd, h.nw, fun k r e => by
  obtain ⟨kvs, q1, q2⟩ := h.row k r e
  exact ⟨kvs, s _ _ q1, q2⟩⟩
theorem DsR.back {G : Hp} (h : DsR H0 H F rs n fs N) (s : Same G H0) : DsR G H F rs n fs N := ⟨h.hF, h.len, h.nd, fun b hb => s.free (h.nw b hb), h.row⟩
theorem DsR.at (h : DsR H0 H F rs n fs N) {k : Nat} (hk : k < n) : ∃ r kvs, rs[k]? = some r ∧ (rs.map V.ref)[k]? = some (.ref r) ∧ H r = some (.dT kvs) ∧ FlD kvs (fs k) ∧ kvs.length ≤ N k ∧ H0 r = none ∧ r ≠ F := by
  have e : rs[k]? = some (rs[k]'(by rw [h.len]; exact hk)) := List.getElem?_eq_getElem _
  obtain ⟨kvs, q1, q2, q3⟩ := h.row k _ e
  have nd := h.nd
  rw [List.nodup_cons] at nd
  exact ⟨_, kvs, e, by rw [List.getElem?_map, e]; rfl, q1, q2, q3, h.nw _ (List.mem_cons_of_mem _ (List.getElem_mem _)), fun c => nd.1 (by rw [← c]; exact List.getElem_mem _)⟩
theorem DsR.cast {gs : Nat → Int → Int → Int} {M : Nat → Nat} (h : DsR H0 H F rs n fs N) (e : ∀ k, k < n → fs k = gs k ∧ N k ≤ M k) : DsR H0 H F rs n gs M := ⟨h.hF, h.len, h.nd, h.nw, fun k r z => by
  obtain ⟨kvs, q1, q2, q3⟩ := h.row k r z
  have hk := (List.getElem?_eq_some_iff.mp z).1
  rw [h.len] at hk
  exact ⟨kvs, q1, by rw [← (e k hk).1]; exact q2, Nat.le_trans q3 (e k hk).2⟩⟩
/-- one of the dicts written anew -/
theorem DsR.put (h : DsR H0 H F rs n fs N) {k : Nat} (e : rs[k]? = some r) {kvs : List (List Key × V)} {f : Int → Int → Int} (q : FlD kvs f) {M : Nat} (l : kvs.length ≤ M) : DsR H0 (L2.upd H r (.dT kvs)) F rs n (fun j => if j = k then f else fs j) (fun j => if j = k then M else N j) := by
  have hr := List.mem_of_getElem? e
  have nd := h.nd
  rw [List.nodup_cons] at nd
  refine ⟨lk_upd (fun c => nd.1 (by rw [c]; exact hr)) h.hF, h.len, h.nd, h.nw, fun j r' e1 => ?_⟩
  by_cases c : j = k
  · subst c
    rw [e] at e1
    cases e1
    rw [if_pos rfl, if_pos rfl]
    exact ⟨kvs, upd_same, q, l⟩
  · obtain ⟨kws, q1, q2, q3⟩ := h.row j r' e1
    rw [if_neg c, if_neg c]
    exact ⟨kws, lk_upd (fun z => c (nodup_at nd.2 e1 (by rw [z]; exact e))) q1, q2, q3⟩
end
section
variable {σ : L2.St} {H H1 : Hp} {Q : VK} {K : PySem.W.Frag} {D l : Addr} {g : TG} {tt : TT} {te : TE} {vs : List Nat} {xs : List V} {Qd : Hp → Prop}
/-- [{} for x in xs] -/
theorem lcL_ds (nD : H1 D = none) (hn : xs.length ≤ 1000000) (hx : SqL K H1 l xs)
    (hs : ∀ (i : Nat) (x : V) H (Z : VK) (Y : Hp → Prop), xs[i]? = some x → Same H1 H → (∀ r, H r = none → Z (.ref r) (L2.upd H r (.dT []))) → LcTurn g tt te vs σ x H Z Y)
    (hd : ∀ rs H, DsR H1 H D rs xs.length (fun _ _ _ => 0) (fun _ => 0) → Same H1 H → Qd H) :
    ∃ W : Nat → Nat → Hp → Prop, (∃ m, W 0 m (L2.upd H1 D (.lst []))) ∧ ∀ i m H, W i m H →
      ((Itl K l).stop i H ∧ Qd H) ∨ ((Itl K l).go i H ∧ ∃ Nx : Hp → Prop, (∀ H', Nx H' → ∃ m', m' < m ∧ W (i + 1) m' H') ∧ ∀ x H', (Itl K l).yld i H x H' → g x (wipe σ vs) H' fun σ2 H2 => wipe σ2 vs = wipe σ vs ∧ tt σ2 H2 fun b H3 =>
        if b = true then te σ2 H3 fun y H4 => ∃ acc, H4 D = some (.lst acc) ∧ acc.length < sizeLine ∧ Nx (L2.upd H4 D (.lst (acc ++ [y]))) else Nx H3) := by
  refine lcL (xs := xs) (fun i acc H => Same H1 H ∧ ∃ rs : List Addr, acc = rs.map V.ref ∧ rs.length = i ∧ (D :: rs).Nodup ∧ (∀ b, b ∈ rs → H1 b = none) ∧ ∀ b, b ∈ rs → H b = some (.dT [])) nD ⟨Same.new nD, [], rfl, rfl, by simp, nofun, nofun⟩ (fun i acc H _ q _ => q.1.seq hx) ?_ ?_
  · rintro i x acc H Z Y hi ⟨h1, rs, rfl, h3, h4, h5, h6⟩ hD hz _
    have hi' : i < xs.length := (List.getElem?_eq_some_iff.mp hi).1
    refine hs i x H Z Y hi h1 fun r nr => ?_
    have rD : D ≠ r := ne_of_none hD nr
    have rrs : r ∉ rs := fun c => by
      have := h6 r c
      rw [nr] at this
      cases this
    rw [List.nodup_cons] at h4
    refine hz _ _ (lk_new nr hD) (sz4' (by rw [List.length_map]; omega)) ⟨Same.mut (h1.trans (Same.new nr)) nD, rs ++ [r], by rw [List.map_append]; rfl, by rw [List.length_append, h3]; rfl, ?_, ?_, ?_⟩
    · rw [List.nodup_cons, List.nodup_append]
      refine ⟨fun c => ?_, h4.2, by simp, fun a ha b hb e => rrs (by rw [← List.mem_singleton.mp hb, ← e]; exact ha)⟩
      rcases List.mem_append.mp c with z | z
      · exact h4.1 z
      · exact rD (List.mem_singleton.mp z)
    · intro b hb
      rcases List.mem_append.mp hb with z | z
      · exact h5 b z
      · rw [List.mem_singleton.mp z]; exact h1.free nr
    · intro b hb
      rcases List.mem_append.mp hb with z | z
      · exact lk_upd (fun c => h4.1 (by rw [← c]; exact z)) (lk_upd (fun c => rrs (by rw [← c]; exact z)) (h6 b z))
      · rw [List.mem_singleton.mp z]
        exact lk_upd (Ne.symm rD) upd_same
  · rintro acc H ⟨h1, rs, rfl, h3, h4, h5, h6⟩ hD
    exact hd rs H ⟨hD, h3, h4, fun b hb => by
      rcases List.mem_cons.mp hb with z | z
      · rw [z]; exact nD
      · exact h5 b z, fun k r e => ⟨[], h6 r (List.mem_of_getElem? e), .nil, Nat.le_refl _⟩⟩ h1
/-- owned things, each with what is to be known of it -/
theorem lcL_ownP (P : Nat → PyData → Prop) (nD : H1 D = none) (hn : xs.length ≤ 1000000) (hx : SqL K H1 l xs)
    (hs : ∀ (i : Nat) (x : V) H (Z : VK) (Y : Hp → Prop), xs[i]? = some x → Same H1 H → (∀ v d S H4, P i d → OwN H H4 v d S → Same H H4 → Z v H4) → LcTurn g tt te vs σ x H Z Y)
    (hd : ∀ ds S H, ds.length = xs.length → (∀ i d, ds[i]? = some d → P i d) → OwN H1 H (.ref D) (.list ds) S → Same H1 H → Qd H) :
    ∃ W : Nat → Nat → Hp → Prop, (∃ m, W 0 m (L2.upd H1 D (.lst []))) ∧ ∀ i m H, W i m H →
      ((Itl K l).stop i H ∧ Qd H) ∨ ((Itl K l).go i H ∧ ∃ Nx : Hp → Prop, (∀ H', Nx H' → ∃ m', m' < m ∧ W (i + 1) m' H') ∧ ∀ x H', (Itl K l).yld i H x H' → g x (wipe σ vs) H' fun σ2 H2 => wipe σ2 vs = wipe σ vs ∧ tt σ2 H2 fun b H3 =>
        if b = true then te σ2 H3 fun y H4 => ∃ acc, H4 D = some (.lst acc) ∧ acc.length < sizeLine ∧ Nx (L2.upd H4 D (.lst (acc ++ [y]))) else Nx H3) := by
  refine lcL (xs := xs) (fun i acc H => acc.length = i ∧ Same H1 H ∧ ∃ ds S, ds.length = i ∧ (∀ j d, ds[j]? = some d → P j d) ∧ OwAll H acc ds S ∧ S.Nodup ∧ D ∉ S ∧ ∀ b, b ∈ S → H1 b = none) nD ⟨rfl, Same.new nD, [], [], rfl, by simp, .nil, List.nodup_nil, by simp, nofun⟩ (fun i acc H _ q _ => q.2.1.seq hx) ?_ ?_
  · rintro i x acc H Z Y hi ⟨h1, h2, ds, S, l1, l2, h3, h4, h5, h6⟩ hD hz _
    have hi' : i < xs.length := (List.getElem?_eq_some_iff.mp hi).1
    refine hs i x H Z Y hi h2 fun v d S' H4 kd k1 k2 => ?_
    have hDS : D ∉ S' := fun z => by
      have := k1.nw D z
      rw [hD] at this
      cases this
    have kp : Kp [D] H4 (L2.upd H4 D (.lst (acc ++ [v]))) := Kp.upd (by simp) Kp.refl
    have ht : ∀ b ys, b ∈ [D] → H4 b ≠ some (.tup ys) := fun b ys hb e => by
      rw [List.mem_singleton.mp hb, k2 _ _ hD] at e
      cases e
    have hd1 : ∀ b, b ∈ S → b ∉ [D] := fun b hb hb' => h5 (by rw [← List.mem_singleton.mp hb']; exact hb)
    have hd2 : ∀ b, b ∈ S' → b ∉ [D] := fun b hb hb' => hDS (by rw [← List.mem_singleton.mp hb']; exact hb)
    refine hz _ _ (k2 _ _ hD) (sz4' (by omega)) ⟨by rw [List.length_append, h1]; rfl, Same.mut (h2.trans k2) nD, ds ++ [d], S ++ S', by rw [List.length_append, l1]; rfl, ?_, ?_, ?_, ?_, ?_⟩
    · intro j e he
      by_cases c : j < ds.length
      · rw [List.getElem?_append_left c] at he
        exact l2 j e he
      · rw [List.getElem?_append_right (by omega)] at he
        have : j - ds.length = 0 := by
          have := (List.getElem?_eq_some_iff.mp he).1
          simp at this
          omega
        rw [this] at he
        cases he
        rw [show j = i by omega]
        exact kd
    · exact OwAll.snoc (OwAll.kp ht kp (h3.same k2) hd1) (Ow.kp ht kp k1.ow hd2)
    · rw [List.nodup_append]
      refine ⟨h4, k1.nd, fun b hb c hc e => ?_⟩
      subst e
      obtain ⟨ys, e'⟩ := h3.lists b hb
      rw [k1.nw b hc] at e'
      cases e'
    · intro z
      rcases List.mem_append.mp z with z | z
      · exact h5 z
      · exact hDS z
    · intro b hb
      rcases List.mem_append.mp hb with z | z
      · exact h6 b z
      · exact h2.free (k1.nw b z)
  · rintro acc H ⟨h1, h2, ds, S, l1, l2, h3, h4, h5, h6⟩ hD
    exact hd ds (D :: S) H l1 l2 ⟨.lst hD h3, List.nodup_cons.mpr ⟨h5, h4⟩, fun b hb => by
      rcases List.mem_cons.mp hb with z | z
      · rw [z]; exact nD
      · exact h6 b z⟩ h2
end
theorem pick_all {α : Type} {F : α → PyData} {R : Nat → α → Prop} : ∀ {ds : List PyData}, (∀ i d, ds[i]? = some d → ∃ x, d = F x ∧ R i x) → ∃ xs : List α, ds = xs.map F ∧ ∀ i x, xs[i]? = some x → R i x
  | [], _ => ⟨[], rfl, by simp⟩
  | d :: ds, h => by
    obtain ⟨x, e, r⟩ := h 0 d rfl
    obtain ⟨xs, e2, r2⟩ := pick_all (R := fun i => R (i + 1)) (ds := ds) fun i d hd => h (i + 1) d hd
    refine ⟨x :: xs, by rw [e, e2]; rfl, fun i y hy => ?_⟩
    cases i with
    | zero => cases hy; exact r
    | succ i => exact r2 i y hy
theorem own_fl {H H1 : Hp} {a b c : Int} {q : Addr} : OwN H (L2.upd H1 q (.tup [.int a, .int b, .int c])) (.ref q) (flD (a, b, c)) [] := ⟨.tup upd_same (own_ints [a, b, c]), List.nodup_nil, nofun⟩
end Hf
/-! ## streams: how long their rows are; told streams as lists of own lists; mixes with plans turned about -/
namespace Hf
open PySem PySem.Spec PyProof.Rows L2
theorem nodup_sub {α : Type} [DecidableEq α] : ∀ {l m : List α}, l.Nodup → (∀ x ∈ l, x ∈ m) → l.length ≤ m.length
  | [], _, _, _ => Nat.zero_le _
  | x :: l, m, nd, h => by
    have hx := h x List.mem_cons_self
    have nd' := List.nodup_cons.mp nd
    have := nodup_sub (l := l) (m := m.erase x) nd'.2 fun y hy => by
      have : y ≠ x := fun e => nd'.1 (e ▸ hy)
      exact (List.mem_erase_of_ne this).mpr (h y (List.mem_cons_of_mem _ hy))
    have e := List.length_erase_of_mem hx
    have p := List.length_pos_of_mem hx
    rw [List.length_cons]
    omega
theorem RowF.len {m : List (List Int × Int)} {k : Nat} {L : List Fl} (r : RowF (flowF m k) L) (hw : ∀ pw ∈ m, 1 ≤ pw.2) : L.length ≤ m.length := by
  have nd := row_nodup r.st
  have := nodup_sub nd (m := m.map fun pw => keyAt pw.1 k) fun x hx => by
    obtain ⟨e, he, rfl⟩ := List.mem_map.mp hx
    obtain ⟨pw, h1, h2⟩ := (flowF_ne hw e.1 e.2.1).mp ((r.mem e).mp he).2
    exact List.mem_map.mpr ⟨pw, h1, h2⟩
  rwa [List.length_map, List.length_map] at this
theorem StrOf.rows {h : Int} {n : Nat} {m : List (List Int × Int)} {Ls : List (List Fl)} (r : StrOf m n Ls) (g : MixG h n m) : ∀ L ∈ Ls, L.length ≤ m.length := fun L hL => by
  obtain ⟨k, hk, rfl⟩ := List.mem_iff_getElem.mp hL
  exact (r.row k _ (List.getElem?_eq_getElem hk)).len fun pw hp => (g.pl pw hp).2
theorem StrOf.facts {h : Int} {n : Nat} {m : List (List Int × Int)} {Ls : List (List Fl)} (r : StrOf m n Ls) (g : MixG h n m) (hl : m.length ≤ 900) :
    SeqAt.shaped (strD Ls) = true ∧ wid (strD Ls) ≤ 1000 ∧ (∀ L ∈ Ls, L.length ≤ 900) ∧ 1 ≤ Ls.length ∧ Ls.length ≤ 8 := by
  have hn := g.fl
  have hr := r.rows g
  have e := r.len
  exact ⟨shaped_of (lay_str Ls) (by have := dep_str Ls; omega), wid_str (k := 1000) Ls (by omega) (fun L hL => by have := hr L hL; omega) (by decide), fun L hL => by have := hr L hL; omega, by omega, by omega⟩
/-! told streams: a list of own lists -/
theorem rows_flat {H : Hp} : ∀ {ys : List V} {Ls : List (List Fl)} {S : List Addr}, OwAll H ys (Ls.map rowD) S → S.Nodup → ∃ rs : List Addr, ys = rs.map V.ref ∧ rs.length = Ls.length ∧ rs.Nodup ∧ (∀ r ∈ rs, r ∈ S) ∧
    ∀ (k : Nat) (r : Addr) (L : List Fl), rs[k]? = some r → Ls[k]? = some L → ∃ zs, H r = some (.lst zs) ∧ DqAll H zs (L.map flD)
  | _, [], _, h, _ => by
    cases h
    exact ⟨[], rfl, rfl, List.nodup_nil, nofun, fun k r L e => by simp at e⟩
  | _, L :: Ls, _, h, nd => by
    cases h with
    | @cons v vs d ds S1 S2 h1 h2 =>
      obtain ⟨n1, n2, n3⟩ := List.nodup_append.mp nd
      obtain ⟨rs, rfl, q1, q2, q3, q4⟩ := rows_flat h2 n2
      obtain ⟨a, zs, rfl, e1, e2⟩ := h1.dq.list_inv
      have ha : a ∈ S1 := ow_self h1
      refine ⟨a :: rs, rfl, by simp [q1], List.nodup_cons.mpr ⟨fun hb => n3 a ha a (q3 a hb) rfl, q2⟩, fun r hr => ?_, fun k r M e3 e4 => ?_⟩
      · rcases List.mem_cons.mp hr with rfl | z
        · exact List.mem_append_left _ ha
        · exact List.mem_append_right _ (q3 r z)
      · cases k with
        | zero =>
          simp at e3 e4
          subst e3 e4
          exact ⟨zs, e1, e2⟩
        | succ k => exact q4 k r M (by simpa using e3) (by simpa using e4)
theorem OwN.flat {H0 H : Hp} {v : V} {Ls : List (List Fl)} {S : List Addr} (o : OwN H0 H v (strD Ls) S) : ∃ D rs, v = .ref D ∧ FlatR [] H D rs (Ls.map fun L => L.map flD) ∧ (∀ b ∈ D :: rs, H0 b = none) ∧ rs.length = Ls.length := by
  have ow := o.ow
  have nd := o.nd
  cases ow with
  | @lst a xs ds S' h q =>
    obtain ⟨n1, n2⟩ := List.nodup_cons.mp nd
    obtain ⟨rs, rfl, q1, q2, q3, q4⟩ := rows_flat q n2
    have lists : ∀ b xs, b ∈ [] ++ a :: rs → H b ≠ some (.tup xs) := fun b xs hb e => by
      rcases List.mem_cons.mp hb with z | z
      · rw [z, h] at e; cases e
      · obtain ⟨k, hk, rfl⟩ := List.mem_iff_getElem.mp z
        obtain ⟨zs, e1, _⟩ := q4 k _ _ (List.getElem?_eq_getElem hk) (List.getElem?_eq_getElem (by omega))
        rw [e1] at e; cases e
    refine ⟨a, rs, rfl, ⟨h, List.nodup_cons.mpr ⟨fun z => n1 (q3 a z), q2⟩, fun r _ => by simp, by rw [List.length_map, q1], fun k r es e1 e2 => ?_⟩, fun b hb => ?_, q1⟩
    · rw [List.getElem?_map] at e2
      cases e3 : Ls[k]? with
      | none => rw [e3] at e2; cases e2
      | some L =>
        rw [e3] at e2
        cases e2
        obtain ⟨zs, e4, e5⟩ := q4 k r L e1 e3
        exact ⟨zs, e4, (row_own e5).hid lists nofun⟩
    · rcases List.mem_cons.mp hb with z | z
      · rw [z]; exact o.nw a (by simp)
      · exact o.nw b (List.mem_cons_of_mem _ (q3 b z))
/-! mixes with plans turned about and weights doubled -/
def turnM (m : List (List Int × Int)) : List (List Int × Int) := m.map fun pw => (pw.1.reverse, 2 * pw.2)
theorem MixG.turn {h : Int} {n : Nat} {m : List (List Int × Int)} (g : MixG h n m) : MixG h n (turnM m) := ⟨by rw [turnM, List.length_map]; exact g.ne, g.fl, g.ho, fun pw hp => by
  obtain ⟨q, hq, rfl⟩ := List.mem_map.mp hp
  have := g.pl q hq
  refine ⟨⟨by rw [List.length_reverse]; exact this.1.1, by rw [List.sum_reverse]; exact this.1.2.1, fun x hx => this.1.2.2 x (List.mem_reverse.mp hx)⟩, by omega⟩⟩
/-! what the law looks at: one size for all -/
def sizeD (pw : List Int × Int) : PyData := .tuple [.int pw.1.length, .int pw.1.sum]
theorem eqv_size (a b : List Int × Int) : PyData.eqv (sizeD a) (sizeD b) = decide (a.1.length = b.1.length ∧ a.1.sum = b.1.sum) := by
  by_cases c1 : a.1.length = b.1.length
  · by_cases c2 : a.1.sum = b.1.sum
    · simp [sizeD, PyData.eqv, PyData.eqvAll, c1, c2]
    · simp [sizeD, PyData.eqv, PyData.eqvAll, c1, c2]
  · simp [sizeD, PyData.eqv, PyData.eqvAll, c1]
    intro z
    omega
theorem eqv_sizes (b : List Int × Int) : ∀ m : List (List Int × Int), PyData.eqvAll (m.map sizeD) (List.replicate m.length (sizeD b)) = decide (∀ pw ∈ m, pw.1.length = b.1.length ∧ pw.1.sum = b.1.sum)
  | [] => by simp [PyData.eqvAll]
  | a :: m => by
    rw [List.length_cons, List.replicate_succ, List.map_cons, PyData.eqvAll, eqv_sizes b m, eqv_size]
    by_cases c : a.1.length = b.1.length ∧ a.1.sum = b.1.sum <;> simp [c]
theorem shaped_sizes (ds : List PyData) (h : ∀ d ∈ ds, ∃ b, d = sizeD b) : SeqAt.shaped (.list ds) = true := by
  refine shaped_of (by
    rw [PyData.canLay0]
    refine lay_all fun d hd => ?_
    obtain ⟨b, rfl⟩ := h d hd
    simp [sizeD, PyData.canLay0, PyData.canLayAll0]) ?_
  rw [dep]
  have := depA_le (k := 1) (ds := ds) fun d hd => by
    obtain ⟨b, rfl⟩ := h d hd
    simp [sizeD, dep, depA]
  omega
def LawPart (pw : List Int × Int) : Prop := 1 ≤ pw.2 ∧ 1 ≤ pw.1.length ∧ pw.1.length ≤ 8 ∧ pw.1.sum ≤ 40 ∧ ∀ x ∈ pw.1, 0 ≤ x
theorem mix_law {m : List (List Int × Int)} {b : List Int × Int} (h0 : m[0]? = some b) (h : ∀ pw ∈ m, LawPart pw) : IsMix (mixD m) ↔ ∀ pw ∈ m, pw.1.length = b.1.length ∧ pw.1.sum = b.1.sum := by
  rw [mix_first h0]
  have hb := h b (List.mem_of_getElem? h0)
  constructor
  · intro g pw hp
    exact ⟨(g.pl pw hp).1.1, (g.pl pw hp).1.2.1⟩
  · intro e
    refine ⟨?_, ⟨hb.2.1, hb.2.2.1⟩, ?_, fun pw hp => ⟨⟨(e pw hp).1, (e pw hp).2, (h pw hp).2.2.2.2⟩, (h pw hp).1⟩⟩
    · exact (List.getElem?_eq_some_iff.mp h0).1
    · exact ⟨sum_nn0 hb.2.2.2.2, hb.2.2.2.1⟩
theorem mix_lawpart {m : List (List Int × Int)} (h : IsMix (mixD m)) {pw : List Int × Int} (hp : pw ∈ m) : LawPart pw := by
  obtain ⟨h, n, m', e, g⟩ := h
  obtain rfl := mixD_inj e
  have := g.pl pw hp
  have h1 := g.fl
  have h2 := g.ho
  refine ⟨this.2, by rw [this.1.1]; omega, by rw [this.1.1]; omega, by rw [this.1.2.1]; omega, this.1.2.2⟩
/-! a told stream, its first rows with 7 behind -/
def r7 (L : List Fl) : List PyData := L.map flD ++ [.int 7]
def part7 (Ls : List (List Fl)) (k : Nat) : List (List PyData) := (Ls.take k).map r7 ++ (Ls.drop k).map fun L => L.map flD
theorem part7_0 (Ls : List (List Fl)) : part7 Ls 0 = Ls.map fun L => L.map flD := by simp [part7]
theorem part7_at {Ls : List (List Fl)} {k : Nat} {L : List Fl} (h : Ls[k]? = some L) : (part7 Ls k)[k]? = some (L.map flD) := by
  have hk := (List.getElem?_eq_some_iff.mp h).1
  rw [part7, List.getElem?_append_right (by rw [List.length_map, List.length_take]; omega), List.length_map, List.length_take, show k - min k Ls.length = 0 by omega, List.getElem?_map, List.getElem?_drop, Nat.add_zero, h]
  rfl
theorem part7_set {Ls : List (List Fl)} {k : Nat} {L : List Fl} (h : Ls[k]? = some L) : (part7 Ls k).set k (L.map flD ++ [.int 7]) = part7 Ls (k + 1) := by
  have hk := (List.getElem?_eq_some_iff.mp h).1
  rw [part7, part7, List.set_append_right _ _ (by rw [List.length_map, List.length_take]; omega), List.length_map, List.length_take, show k - min k Ls.length = 0 by omega, drop_get h, take_snoc h, List.map_append, List.map_cons, List.set_cons_zero, List.append_assoc]
  rfl
theorem part7_drop {Ls : List (List Fl)} {k : Nat} (hk : k ≤ Ls.length) : ((part7 Ls k).map PyData.list).drop k = (Ls.drop k).map rowD := by
  rw [part7, List.map_append, List.drop_append_of_le_length (by simp; omega), List.drop_eq_nil_of_le (by simp; omega), List.nil_append, List.map_map]
  rfl
def row7 (L : List Fl) : PyData := .list (r7 L)
theorem part7_take {Ls : List (List Fl)} {k : Nat} (hk : k < Ls.length) : ((part7 Ls (k + 1)).map PyData.list).take k = (Ls.take k).map row7 := by
  rw [part7, List.map_append, List.take_append_of_le_length (by simp; omega), List.map_map, ← List.map_take, List.take_take, show min k (k + 1) = k by omega]
  rfl
theorem shaped_row7 (Ls : List (List Fl)) : SeqAt.shaped (.list (Ls.map row7)) = true := by
  have h : ∀ d ∈ Ls.map row7, d.canLay0 = true ∧ dep d ≤ 3 := fun d hd => by
    obtain ⟨L, _, rfl⟩ := List.mem_map.mp hd
    have h2 : ∀ e ∈ r7 L, e.canLay0 = true ∧ dep e ≤ 2 := fun e he => by
      rcases List.mem_append.mp he with z | z
      · obtain ⟨f, _, rfl⟩ := List.mem_map.mp z
        simp [flD, PyData.canLay0, PyData.canLayAll0, dep, depA]
      · rw [List.mem_singleton.mp z]
        simp [PyData.canLay0, dep]
    refine ⟨by rw [row7, PyData.canLay0]; exact lay_all fun e he => (h2 e he).1, ?_⟩
    rw [row7, dep]
    have := depA_le fun e he => (h2 e he).2
    omega
  refine shaped_of (by rw [PyData.canLay0]; exact lay_all fun d hd => (h d hd).1) ?_
  rw [dep]
  have := depA_le fun d hd => (h d hd).2
  omega
theorem shaped_rows (Ls : List (List Fl)) : SeqAt.shaped (.list (Ls.map rowD)) = true := shaped_of (lay_str Ls) (by have := dep_str Ls; rw [strD] at this; omega)
/-! a mix, its first parts turned about -/
def partT (m : List (List Int × Int)) (k : Nat) : List (List Int × Int) := (turnM m).take k ++ m.drop k
theorem partT_0 (m : List (List Int × Int)) : partT m 0 = m := by simp [partT]
theorem partT_len {m : List (List Int × Int)} : partT m m.length = turnM m := by
  rw [partT, List.drop_length, List.append_nil, List.take_of_length_le (by rw [turnM, List.length_map]; exact Nat.le_refl _)]
theorem partT_at {m : List (List Int × Int)} {k : Nat} {pw : List Int × Int} (h : m[k]? = some pw) : (partT m k)[k]? = some pw := by
  have hk := (List.getElem?_eq_some_iff.mp h).1
  rw [partT, List.getElem?_append_right (by rw [turnM, List.length_take, List.length_map]; omega), turnM, List.length_take, List.length_map, show k - min k m.length = 0 by omega, List.getElem?_drop, Nat.add_zero, h]
theorem partT_set {m : List (List Int × Int)} {k : Nat} {pw : List Int × Int} (h : m[k]? = some pw) : (partT m k).set k (pw.1.reverse, 2 * pw.2) = partT m (k + 1) := by
  have hk := (List.getElem?_eq_some_iff.mp h).1
  have ht : (turnM m)[k]? = some (pw.1.reverse, 2 * pw.2) := by rw [turnM, List.getElem?_map, h]; rfl
  rw [partT, partT, List.set_append_right _ _ (by rw [turnM, List.length_take, List.length_map]; omega), turnM, List.length_take, List.length_map, show k - min k m.length = 0 by omega, drop_get h, List.set_cons_zero, ← turnM, take_snoc ht, List.append_assoc]
  rfl
theorem i_pop {H : Hp} {Q : VK} {l : Addr} {xs : List V} {y : V} (h : H l = some (.lst xs)) (hy : xs[xs.length - 1]? = some y) (q : Q y (L2.upd H l (.lst xs.dropLast))) : rPop (.ref l) [] H Q := ⟨l, xs, y, rfl, rfl, h, hy, q⟩
theorem kp1 {H H' : Hp} {D : Addr} (s : But D H H') : Kp [D] H H' := fun b o hb h => s b o (fun e => hb (by rw [e]; simp)) h
theorem OwN.but {H0 H H' : Hp} {v : V} {d : PyData} {S : List Addr} {D : Addr} {xs : List V} {o : HO} (w : OwN H0 H v d S) (s : But D H H') (h : H D = some (.lst xs)) (h0 : H0 D = some o) : Dq H' v d := by
  refine (Ow.kp (T := [D]) (fun b ys hb e => ?_) (kp1 s) w.ow fun b hb hc => ?_).dq
  · rw [List.mem_singleton.mp hb, h] at e
    cases e
  · have := w.nw b hb
    rw [List.mem_singleton.mp hc, h0] at this
    cases this
theorem OwN.mixD {H0 H : Hp} {D : Addr} {m : List (List Int × Int)} {S : List Addr} {zs : List V} (w : OwN H0 H (.ref D) (Hf.mixD m) S) (h : H D = some (.lst zs)) : DqAll (hid [D] H) zs (m.map partD) := by
  have ow := w.ow
  have nd := w.nd
  cases ow with
  | @lst _ ys _ S' e q =>
    rw [h] at e
    cases e
    refine q.hid (fun b xs hb e => ?_) fun b hb hc => ?_
    · rw [List.mem_singleton.mp hb, h] at e
      cases e
    · rw [List.mem_singleton.mp hc] at hb
      exact (List.nodup_cons.mp nd).1 hb
end Hf
/-! ## x is True, x is not True (of truths) -/
namespace Hf
open PySem PySem.Spec PyProof.Rows L2
def rIsB : R2 := fun x y H Q => ∃ b c, x = .bl b ∧ y = .bl c ∧ Q (.bl (b == c)) H
def rNotB : R2 := fun x y H Q => ∃ b c, x = .bl b ∧ y = .bl c ∧ Q (.bl (!(b == c))) H
theorem op_isB {X : Cx} : OpR X (compareOp .Is) rIsB := by
  intro pins s σ H x y v u Q I rx ry h
  obtain ⟨b, c, rfl, rfl, q⟩ := h
  cases rx
  cases ry
  refine wpAny_is_plain rfl (fin_bl I q ?_)
  cases b <;> cases c <;> rfl
theorem op_notB {X : Cx} : OpR X (compareOp .IsNot) rNotB := by
  intro pins s σ H x y v u Q I rx ry h
  obtain ⟨b, c, rfl, rfl, q⟩ := h
  cases rx
  cases ry
  refine wpAny_isNot_plain rfl (fin_bl I q ?_)
  cases b <;> cases c <;> rfl
theorem i_isB {b c : Bool} {H : Hp} {Q : VK} (q : Q (.bl (b == c)) H) : rIsB (.bl b) (.bl c) H Q := ⟨b, c, rfl, rfl, q⟩
theorem i_notB {b c : Bool} {H : Hp} {Q : VK} (q : Q (.bl (!(b == c))) H) : rNotB (.bl b) (.bl c) H Q := ⟨b, c, rfl, rfl, q⟩
end Hf
/-! ## dicts by pairs of ints: pop(k), d[k] -= x, the keys that begin with a number; l[i] += x -/
namespace Hf
open PySem PySem.Spec PyProof.Rows L2
def rPopT1 : V → List V → Hp → VK → Prop := fun x xs H Q => ∃ (a : Addr) (kvs : List (List L2.Key × V)) (k : List L2.Key) (b : Addr) (v : V), x = .ref a ∧ xs = [.ref b] ∧ H a = some (.dT kvs) ∧ H b = some (.tup (k.map kV)) ∧ valV kvs k = some v ∧ Q v (L2.upd H a (.dT (dropK kvs k)))
theorem mt_popT1 {X : Cx} (hu : X.A.units + 1 < cLine) : MtR X "dict.pop" rPopT1 := by
  intro pins s σ H x xs v us Q I rx rxs h
  obtain ⟨a, kvs, k, b, v0, rfl, rfl, ha, hb, ev, q1⟩ := h
  cases rx
  obtain ⟨u1, rfl, r1⟩ := vals1 rxs
  cases r1
  obtain ⟨z, hd, xs', rel, dd⟩ := dt_of I.hok ha
  have hz : xs'.length ≤ sizeLine := by rw [← Paired.length rel]; exact z
  have r := rel.val k
  rw [ev] at r
  cases hp : atKey xs' k with
  | none =>
    rw [hp] at r
    exact (show False from r).elim
  | some p =>
    rw [hp] at r
    have rv : RelV v0 p.2 := r
    refine call_pop_heap (knd := tupleKind (mixKind X.prog X.w)) (k := k) (.inl rfl) (PySem.F.args_dict_pop_2 _ _) (tupleKind_room_in1 hu) (key_of I.hok hb) hd dd hp (fun h' dd' hs => ?_) hz
    obtain ⟨o, es, ep, hq, h2, h3, h4, _, h5⟩ := dd'
    have I2 : Inv X pins σ (L2.upd H a (.dT (dropK kvs k))) { s with heap := h', toks := s.toks + (tupleKind (mixKind X.prog X.w)).draws k } :=
      d_write I (by rw [ha]; exact True.intro) hs ⟨o, hq⟩ ⟨Nat.le_trans (dropK_le kvs k) z, hd, _, (L2.DX.KT_drop k rel).keeps (fun c ys ec => (by rw [L2.upd_ne (ne_of ec ha (fun z => nomatch z))]; exact ec)), o, es, ep, hq, h2, h3, h4, h5⟩
    exact ⟨v0, _, I2, rv, q1⟩
theorem i_bmD {K : PySem.W.Frag} {H : Hp} {p : Addr} {kvs : List (List L2.Key × V)} {A : Prop} (h : H p = some (.dT kvs)) (q : A) : tyV K "dict" (.ref p) H ∧ A := ⟨.inr (.inr (.inl ⟨rfl, .inr ⟨_, h⟩⟩)), q⟩
theorem i_popT1 {H : Hp} {Q : VK} {a b : Addr} {kvs : List (List L2.Key × V)} {i j : Int} {v : V} (ha : H a = some (.dT kvs)) (hb : H b = some (.tup [.int i, .int j])) (hv : valV kvs (k2 i j) = some v) (q : Q v (L2.upd H a (.dT (dropK kvs (k2 i j))))) : rPopT1 (.ref a) [.ref b] H Q := ⟨a, kvs, k2 i j, b, v, rfl, rfl, ha, hb, hv, q⟩
theorem i_daug {td ty tv : TE} {rd : V → V → Hp → VK → Prop} {nx bk ct : L2.St → Hp → Prop} {rt : VK} {σ : L2.St} {H : Hp} (h : td σ H fun x H1 => ty σ H1 fun y H2 => ∃ a v, x = .ref a ∧ DGet H2 a y (some v) ∧ tv σ H2 fun y2 H3 => rd v y2 H3 fun z H4 => ∃ H5, DPut H4 a y z H5 ∧ nx σ H5) : sDAug td ty tv rd ⟨nx, rt, bk, ct⟩ σ H := h
theorem i_dg2' {H : Hp} {a p : Addr} {kvs : List (List L2.Key × V)} {i j : Int} {v : V} {R : Addr → V → Prop} (h : H a = some (.dT kvs)) (e : H p = some (.tup [.int i, .int j])) (hv : valV kvs (k2 i j) = some v) (q : R a v) : ∃ a' v', V.ref a = .ref a' ∧ DGet H a' (.ref p) (some v') ∧ R a' v' := ⟨a, v, rfl, by
  have := DGet.t (k := k2 i j) h e
  rw [hv] at this
  exact this, q⟩
theorem i_dpa {H : Hp} {a p : Addr} {kvs : List (List L2.Key × V)} {i j : Int} {v : V} {Z : Hp → Prop} (h : H a = some (.dT kvs)) (e : H p = some (.tup [.int i, .int j])) (hz : kvs.length ≤ 1000000) (q : Z (L2.upd H a (.dT (putK kvs (k2 i j) v)))) : ∃ H5, DPut H a (.ref p) v H5 ∧ Z H5 := ⟨_, DPut.t (k := k2 i j) h e (sz4' hz), q⟩
theorem i_lenDT {H : Hp} {Q : VK} {a : Addr} {kvs : List (List L2.Key × V)} (h : H a = some (.dT kvs)) (q : Q (.int ((kvs.length : Nat) : Int)) H) : rLenT [.ref a] H Q := ⟨a, kvs, rfl, h, q⟩
theorem i_rSub {i j : Int} {H : Hp} {Q : VK} (q : Q (.int (i - j)) H) : rSub (.int i) (.int j) H Q := ⟨i, j, rfl, rfl, q⟩
theorem i_rAdd {i j : Int} {H : Hp} {Q : VK} (q : Q (.int (i + j)) H) : rAdd (.int i) (.int j) H Q := ⟨i, j, rfl, rfl, q⟩
/-! l[i] += x -/
theorem get_list {X : Cx} : PGet X (rIxL X.K) := by
  intro pins s σ H x y v u Q I rx ry h
  obtain ⟨p, xs, i, z, rfl, rfl, hq, he, q⟩ := h
  cases rx
  obtain ⟨t, rfl⟩ := ry
  obtain ⟨its, r, pl, hz⟩ := I.list hq
  obtain ⟨j, h1, h2, h3, h4, h5⟩ := atI_get he
  obtain ⟨w, ew, rw'⟩ := r.get h2
  have hl := r.length
  have hn := line63
  have fin : EP X pins σ Q w s := ⟨z, H, I, rw', q⟩
  by_cases h0 : 0 ≤ i
  · have hj : i.toNat = j := by
      rw [seqIndex_of h0 h5] at h1
      exact Option.some.inj h1
    exact wpAny_getItem_list pl.isList h0 (by omega) (by rw [hj]; simpa using ew) fin
  · have hj : (i + (its.toArray.size : Int)).toNat = j := by
      rw [seqIndex_neg (by omega) h4] at h1
      rw [List.size_toArray, ← hl]
      exact Option.some.inj h1
    exact wpAny_getItem_list_neg pl.isList (by omega) (by rw [List.size_toArray] <;> omega) (by omega) (by rw [hj]; simpa using ew) fin
theorem get_listK {X : Cx} (K : PySem.W.Frag) (e : X.K = K) : PGet X (rIxL K) := by subst e; exact get_list
theorem i_augS {to ti te : TE} {tget : V → V → Hp → VK → Prop} {tip : TIp} {tset : TSet} {nx bk ct : L2.St → Hp → Prop} {rt : VK} {σ : L2.St} {H : Hp} (h : to σ H fun o H1 => ti σ H1 fun i H2 => tget o i H2 fun x H3 => te σ H3 fun y H4 => tip x y H4 fun z H5 => tset o i z H5 fun H6 => nx σ H6) : tAugS to ti te tget tip tset ⟨nx, rt, bk, ct⟩ σ H := h
/-! the keys that begin with l -/
def keysAt (kvs : List (List L2.Key × V)) (l : Int) : List Int := ((kvs.map fun kv => keyP kv.1).filter fun p => decide (p.1 = l)).map Prod.snd
theorem i_lockKeys {td : TE} {g : TG} {tt : TT} {te : TE} {vs : List Nat} {σ : L2.St} {H : Hp} {Q : VK} {d : Addr} {kvs : List (List L2.Key × V)} (l : Int) (hd : H d = some (.dT kvs)) (hl : kvs.length ≤ 1000000) (hk : ∀ kv ∈ kvs, ∃ i j : Int, kv.1 = k2 i j)
    (ht : ∀ H' R, R (.ref d) H' → td σ H' R)
    (hs : ∀ (a b : Int) (q : Addr) (H' : Hp) (Z : VK) (Y : Hp → Prop), H' q = some (.tup [.int a, .int b]) → (a = l → Z (.int b) H') → (a ≠ l → Y H') → LcTurn g tt te vs σ (.ref q) H' Z Y)
    (hq : ∀ p H', H p = none → Same H H' → H' p = some (.lst ((keysAt kvs l).map V.int)) → Q (.ref p) H') : tLockE (tLc (iKeys td) g tt te vs) σ H Q := by
  refine ⟨d, .dT kvs, hd, trivial, fun od => ?_⟩
  refine i_lc (ht _ _ ⟨d, od, rfl, .inr ⟨kvs, L2.upd_same, ?_⟩⟩)
  intro D nD
  have nDd : D ≠ d := fun e => by rw [e, L2.upd_same] at nD; cases nD
  have nD' : H D = none := by rwa [L2.upd_ne nDd] at nD
  let acc : Nat → List V := fun i => (keysAt (kvs.take i) l).map V.int
  have accl : ∀ i, (acc i).length ≤ kvs.length := fun i => by
    show ((keysAt (kvs.take i) l).map V.int).length ≤ _
    rw [List.length_map, keysAt, List.length_map]
    refine Nat.le_trans (List.length_filter_le _ _) ?_
    rw [List.length_map, List.length_take]
    omega
  let P : Nat → Hp → Prop := fun i H' => H' = L2.upd (L2.upd H d (.frz od (.dT kvs))) D (.lst (acc i))
  refine ⟨fun i m H' => m = kvs.length - i ∧ i ≤ kvs.length ∧ P i H', ⟨kvs.length, by simp, Nat.zero_le _, rfl⟩, ?_⟩
  rintro i m H' ⟨rfl, hi, rfl⟩
  have hfz : (L2.upd (L2.upd H d (.frz od (.dT kvs))) D (.lst (acc i))) d = some (.frz od (.dT kvs)) := by rw [L2.upd_ne (fun e => nDd e.symm)]; exact L2.upd_same
  by_cases hlt : i < kvs.length
  · refine .inr ⟨⟨hfz, hlt⟩, P (i + 1), fun H' p' => ⟨kvs.length - (i + 1), by omega, rfl, hlt, p'⟩, fun x H' y => ?_⟩
    obtain ⟨rfl, k, v, q, e1, rfl, e2⟩ := y
    obtain ⟨a, b, ek⟩ := hk (k, v) (List.mem_of_getElem? e1)
    have ek' : k = k2 a b := ek
    subst ek'
    have et : kvs.take (i + 1) = kvs.take i ++ [(k2 a b, v)] := take_snoc e1
    refine hs a b q _ _ _ e2 (fun c => ?_) fun c => ?_
    · refine ⟨acc i, L2.upd_same, Nat.lt_of_le_of_lt (accl i) (sz4' hl), ?_⟩
      have ea : acc (i + 1) = acc i ++ [V.int b] := by
        show (keysAt (kvs.take (i + 1)) l).map V.int = (keysAt (kvs.take i) l).map V.int ++ [V.int b]
        have e9 : ([(k2 a b, v)].map fun kv : List L2.Key × V => keyP kv.1) = [(a, b)] := rfl
        rw [et, keysAt, keysAt, List.map_append, e9, List.filter_append, List.filter_cons_of_pos (by simp [c]), List.map_append, List.map_append]
        rfl
      show L2.upd (L2.upd (L2.upd H d (.frz od (.dT kvs))) D (.lst (acc i))) D (.lst (acc i ++ [V.int b])) = L2.upd (L2.upd H d (.frz od (.dT kvs))) D (.lst (acc (i + 1)))
      rw [ea]
      funext z
      by_cases cz : z = D
      · rw [cz, L2.upd_same, L2.upd_same]
      · rw [L2.upd_ne cz, L2.upd_ne cz, L2.upd_ne cz]
    · have ea : acc (i + 1) = acc i := by
        show (keysAt (kvs.take (i + 1)) l).map V.int = (keysAt (kvs.take i) l).map V.int
        have e9 : ([(k2 a b, v)].map fun kv : List L2.Key × V => keyP kv.1) = [(a, b)] := rfl
        rw [et, keysAt, keysAt, List.map_append, e9, List.filter_append, List.filter_cons_of_neg (by simp [c]), List.filter_nil, List.append_nil]
      show _ = L2.upd (L2.upd H d (.frz od (.dT kvs))) D (.lst (acc (i + 1)))
      rw [ea]
  · have e : i = kvs.length := by omega
    subst e
    refine .inl ⟨⟨hfz, Nat.le_refl _⟩, hfz, hq D _ nD' (fun b o h => ?_) ?_⟩
    · by_cases c : b = d
      · rw [c, L2.upd_same]
        rw [c, hd] at h
        exact h
      · have cD : b ≠ D := fun e => by rw [e, nD'] at h; cases h
        rw [L2.upd_ne c, L2.upd_ne cD, L2.upd_ne c]
        exact h
    · rw [L2.upd_ne nDd, L2.upd_same]
      show some (HO.lst ((keysAt (kvs.take kvs.length) l).map V.int)) = _
      rw [List.take_length]
/-! flows set anew -/
def setF (f : Int → Int → Int) (i j z : Int) : Int → Int → Int := fun a b => if a = i ∧ b = j then z else f a b
theorem FlD.set {kvs : List (List Key × V)} {f : Int → Int → Int} (h : FlD kvs f) {i j z : Int} (hz : 1 ≤ z) : FlD (putK kvs (k2 i j) (.int z)) (setF f i j z) := by
  have hnn := h.nn
  refine ⟨fun a b => ?_, fun kv hkv => ?_, ?_, fun a b => ?_⟩
  · unfold setF
    have := hnn a b
    split <;> omega
  · unfold putK at hkv
    split at hkv
    · obtain ⟨kv', h1, h2⟩ := List.mem_map.mp hkv
      obtain ⟨a, b, e1, e2⟩ := h.ks kv' h1
      rw [e1] at h2
      simp only at h2
      by_cases c : k2 a b = k2 i j
      · rw [if_pos c] at h2
        obtain ⟨rfl, rfl⟩ := k2_inj c
        refine ⟨a, b, ?_, ?_⟩
        · rw [← h2]
          unfold setF
          rw [if_pos ⟨rfl, rfl⟩]
        · unfold setF
          rw [if_pos ⟨rfl, rfl⟩]
          omega
      · rw [if_neg c] at h2
        have : ¬ (a = i ∧ b = j) := fun ⟨x, y⟩ => c (by rw [x, y])
        refine ⟨a, b, ?_, ?_⟩
        · rw [← h2]
          unfold setF
          rw [if_neg this]
        · unfold setF
          rw [if_neg this]
          exact e2
    · next hany =>
      rcases List.mem_append.mp hkv with z' | z'
      · obtain ⟨a, b, e1, e2⟩ := h.ks kv z'
        have : ¬ (a = i ∧ b = j) := fun ⟨x, y⟩ => hany (by
          rw [List.any_eq_true]
          exact ⟨kv, z', decide_eq_true (by rw [e1, x, y])⟩)
        refine ⟨a, b, ?_, ?_⟩
        · rw [e1]
          unfold setF
          rw [if_neg this]
        · unfold setF
          rw [if_neg this]
          exact e2
      · rw [List.mem_singleton.mp z']
        refine ⟨i, j, ?_, ?_⟩
        · unfold setF
          rw [if_pos ⟨rfl, rfl⟩]
        · unfold setF
          rw [if_pos ⟨rfl, rfl⟩]
          omega
  · rw [putK_keys]
    split
    · exact h.nd
    · next hany =>
      rw [List.nodup_append]
      refine ⟨h.nd, by simp, fun a ha b hb e => hany ?_⟩
      rw [List.mem_singleton.mp hb] at e
      obtain ⟨kv, h1, h2⟩ := List.mem_map.mp ha
      rw [List.any_eq_true]
      exact ⟨kv, h1, decide_eq_true (by rw [h2, e])⟩
  · rw [valV_put]
    by_cases c : k2 a b = k2 i j
    · rw [if_pos c]
      obtain ⟨rfl, rfl⟩ := k2_inj c
      have e : setF f a b z a b = z := if_pos ⟨rfl, rfl⟩
      rw [e, if_neg (by omega)]
    · rw [if_neg c, h.vl]
      have e : setF f i j z a b = f a b := if_neg fun ⟨x, y⟩ => c (by rw [x, y])
      rw [e]
theorem valV_drop {κ : Type} [DecidableEq κ] (k j : κ) : ∀ kvs : List (κ × V), valV (dropK kvs k) j = if j = k then none else valV kvs j
  | [] => by simp [dropK, valV_nil]
  | p :: r => by
    have ih := valV_drop k j r
    by_cases c : p.1 = k
    · have e : dropK (p :: r) k = dropK r k := List.filter_cons_of_neg (by simp [c])
      rw [e, ih]
      by_cases c2 : j = k
      · rw [if_pos c2, if_pos c2]
      · rw [if_neg c2, if_neg c2, valV_neg (fun e => c2 (by rw [← e, c]))]
    · have e : dropK (p :: r) k = p :: dropK r k := List.filter_cons_of_pos (by simp [c])
      rw [e]
      by_cases c2 : p.1 = j
      · rw [valV_pos c2, valV_pos c2, if_neg (fun e => c (by rw [c2, e]))]
      · rw [valV_neg c2, valV_neg c2, ih]
theorem dropK_put {κ : Type} [DecidableEq κ] (kvs : List (κ × V)) (k : κ) (v : V) : dropK (putK kvs k v) k = dropK kvs k := by
  unfold putK dropK
  split
  · induction kvs with
    | nil => rfl
    | cons p r ih =>
      rename_i h
      by_cases c : p.1 = k
      · rw [List.map_cons, if_pos c, List.filter_cons_of_neg (by simp [c]), List.filter_cons_of_neg (by simp [c])]
        by_cases h2 : (r.any fun kv => decide (kv.1 = k)) = true
        · exact ih h2
        · have : ∀ kv ∈ r, ¬ kv.1 = k := fun kv hkv e => h2 (List.any_eq_true.mpr ⟨kv, hkv, decide_eq_true e⟩)
          rw [show r.map (fun kv => if kv.1 = k then (kv.1, v) else kv) = r.map id from List.map_congr_left fun kv hkv => if_neg (this kv hkv), List.map_id]
      · rw [List.map_cons, if_neg c, List.filter_cons_of_pos (by simp [c]), List.filter_cons_of_pos (by simp [c])]
        rw [List.any_cons, decide_eq_false c, Bool.false_or] at h
        rw [ih h]
  · rw [List.filter_append]
    simp
theorem FlD.drop {kvs : List (List Key × V)} {f : Int → Int → Int} (h : FlD kvs f) {i j : Int} {v : V} : FlD (dropK (putK kvs (k2 i j) v) (k2 i j)) (setF f i j 0) := by
  rw [dropK_put]
  refine ⟨fun a b => ?_, fun kv hkv => ?_, (List.filter_sublist.map _).nodup h.nd, fun a b => ?_⟩
  · unfold setF
    have := h.nn a b
    split <;> omega
  · obtain ⟨h1, h2⟩ := List.mem_filter.mp hkv
    obtain ⟨a, b, e1, e2⟩ := h.ks kv h1
    have ne : ¬ (a = i ∧ b = j) := fun ⟨x, y⟩ => by
      have := of_decide_eq_true h2
      rw [e1, x, y] at this
      exact this rfl
    exact ⟨a, b, by rw [e1]; unfold setF; rw [if_neg ne], by unfold setF; rw [if_neg ne]; exact e2⟩
  · rw [valV_drop]
    by_cases c : k2 a b = k2 i j
    · obtain ⟨rfl, rfl⟩ := k2_inj c
      have e : setF f a b 0 a b = 0 := if_pos ⟨rfl, rfl⟩
      rw [if_pos c, e, if_pos rfl]
    · have e : setF f i j 0 a b = f a b := if_neg fun ⟨x, y⟩ => c (by rw [x, y])
      rw [if_neg c, e, h.vl]
theorem FlD.keysAt {kvs : List (List Key × V)} {f : Int → Int → Int} (h : FlD kvs f) (l s : Int) : s ∈ keysAt kvs l ↔ f l s ≠ 0 := by
  unfold Hf.keysAt
  constructor
  · intro hs
    obtain ⟨p, hp, rfl⟩ := List.mem_map.mp hs
    obtain ⟨h1, h2⟩ := List.mem_filter.mp hp
    obtain ⟨kv, h3, rfl⟩ := List.mem_map.mp h1
    obtain ⟨a, b, e1, e2⟩ := h.ks kv h3
    have e3 : keyP kv.1 = (a, b) := by rw [e1]; rfl
    rw [e3] at h2 ⊢
    have : a = l := of_decide_eq_true h2
    rw [← this]
    exact e2
  · intro hf
    have hv := h.vl l s
    rw [if_neg hf] at hv
    have hm : k2 l s ∈ kvs.map (·.1) := by
      unfold valV at hv
      cases e : kvs.find? (fun kv => decide (kv.1 = k2 l s)) with
      | none => rw [e] at hv; cases hv
      | some p =>
        have h1 := List.mem_of_find?_eq_some e
        have h2 := List.find?_some e
        exact List.mem_map.mpr ⟨p, h1, of_decide_eq_true h2⟩
    obtain ⟨kv, h1, h2⟩ := List.mem_map.mp hm
    refine List.mem_map.mpr ⟨(l, s), List.mem_filter.mpr ⟨List.mem_map.mpr ⟨kv, h1, by rw [h2]; rfl⟩, decide_eq_true rfl⟩, rfl⟩
theorem putK_len {κ : Type} [DecidableEq κ] {kvs : List (κ × V)} {k : κ} {v : V} : (putK kvs k v).length ≤ kvs.length + 1 := by
  unfold putK
  split
  · rw [List.length_map]; omega
  · rw [List.length_append]; exact Nat.le_refl _
theorem putK_same {κ : Type} [DecidableEq κ] {kvs : List (κ × V)} {k : κ} {v u : V} (h : valV kvs k = some u) : (putK kvs k v).length = kvs.length := by
  unfold putK
  rw [valV_any, h]
  simp
theorem dropK_len {κ : Type} [DecidableEq κ] {kvs : List (κ × V)} {k : κ} : (dropK kvs k).length ≤ kvs.length := List.length_filter_le _ _
theorem DsR.push {H0 H : Hp} {F r : Addr} {rs : List Addr} {n : Nat} {fs : Nat → Int → Int → Int} {N : Nat → Nat} (h : DsR H0 H F rs n fs N) {kvs : List (List Key × V)} (e : H r = some (.dT kvs)) (q : FlD kvs (fs n)) (l : kvs.length ≤ N n) (nr : H0 r = none) (nF : r ≠ F) (nrs : r ∉ rs) : DsR H0 (L2.upd H F (.lst (rs.map V.ref ++ [.ref r]))) F (rs ++ [r]) (n + 1) fs N := by
  have nd := h.nd
  rw [List.nodup_cons] at nd
  refine ⟨by rw [List.map_append]; exact L2.upd_same, by rw [List.length_append, h.len]; rfl, List.nodup_cons.mpr ⟨fun hc => ?_, ?_⟩, fun b hb => ?_, fun k r' e1 => ?_⟩
  · rcases List.mem_append.mp hc with z | z
    · exact nd.1 z
    · exact nF (List.mem_singleton.mp z).symm
  · rw [List.nodup_append]
    exact ⟨nd.2, by simp, fun a ha b hb e => nrs (by rw [List.mem_singleton.mp hb] at e; rw [← e]; exact ha)⟩
  · rcases List.mem_cons.mp hb with rfl | z
    · exact h.nw _ (by simp)
    · rcases List.mem_append.mp z with z | z
      · exact h.nw _ (List.mem_cons_of_mem _ z)
      · rw [List.mem_singleton.mp z]; exact nr
  · by_cases c : k < rs.length
    · rw [List.getElem?_append_left c] at e1
      obtain ⟨kws, q1, q2, q3⟩ := h.row k r' e1
      exact ⟨kws, lk_upd (fun z => nd.1 (by rw [← z]; exact List.mem_of_getElem? e1)) q1, q2, q3⟩
    · rw [List.getElem?_append_right (by omega)] at e1
      have : k - rs.length = 0 := by
        have := (List.getElem?_eq_some_iff.mp e1).1
        simp at this
        omega
      rw [this] at e1
      cases e1
      have hk : k = n := by have := h.len; omega
      rw [hk]
      exact ⟨kvs, lk_upd nF e, q, l⟩
theorem AccN.dict {H1 H : Hp} {D r : Addr} {acc : List V} {ds : List PyData} {kvs kws : List (List Key × V)} (h : AccN H1 H D acc ds) (e : H r = some (.dT kvs)) (nr : H1 r = none) : AccN H1 (L2.upd H r (.dT kws)) D acc ds := by
  obtain ⟨s, hD, S, o, nd, nD, nw⟩ := h
  refine ⟨Same.mut s nr, lk_upd (fun c => by rw [c, e] at hD; cases hD) hD, S, ?_, nd, nD, nw⟩
  refine OwAll.kp (T := [r]) (fun b xs hb z => ?_) (Kp.upd (by simp) Kp.refl) o fun b hb hc => ?_
  · rw [List.mem_singleton.mp hb, e] at z
    cases z
  · obtain ⟨xs, z⟩ := o.lists b hb
    rw [List.mem_singleton.mp hc, e] at z
    cases z
theorem AccN.same {H1 H H' : Hp} {D : Addr} {acc : List V} {ds : List PyData} (h : AccN H1 H D acc ds) (s : Same H H') : AccN H1 H' D acc ds := by
  obtain ⟨s0, hD, S, o, nd, nD, nw⟩ := h
  exact ⟨s0.trans s, s _ _ hD, S, o.same s, nd, nD, nw⟩
theorem DsR.other {H0 H : Hp} {F M : Addr} {rs : List Addr} {n : Nat} {fs : Nat → Int → Int → Int} {N : Nat → Nat} {zs : List V} {o : HO} (h : DsR H0 H F rs n fs N) (e : H M = some (.lst zs)) (n1 : M ≠ F) : DsR H0 (L2.upd H M o) F rs n fs N := ⟨lk_upd (fun c => n1 c.symm) h.hF, h.len, h.nd, h.nw, fun k r z => by
  obtain ⟨kvs, q1, q2⟩ := h.row k r z
  exact ⟨kvs, lk_upd (fun c => by rw [c, e] at q1; cases q1) q1, q2⟩⟩
theorem nsum_le {B : Nat} : ∀ {l : List Nat}, (∀ x ∈ l, x ≤ B) → l.sum ≤ l.length * B
  | [], _ => Nat.zero_le _
  | x :: l, h => by
    have := nsum_le (l := l) fun y hy => h y (List.mem_cons_of_mem _ hy)
    have := h x List.mem_cons_self
    rw [List.sum_cons, List.length_cons, Nat.succ_mul]
    omega
theorem own_part {H : Hp} {T b : Addr} {p : List Int} {w : Int} (h1 : H T = some (.tup [.ref b, .int w])) (h2 : H b = some (.lst (p.map V.int))) : Ow H (.ref T) (partD (p, w)) [b] := by
  have := Ow.tup h1 (OwAll.cons (Ow.lst h2 (own_ints p)) (OwAll.cons (Ow.int w) OwAll.nil))
  exact this
theorem DsR.putB {H0 H G : Hp} {F r : Addr} {rs : List Addr} {n : Nat} {fs : Nat → Int → Int → Int} {N : Nat → Nat} (h : DsR H0 H F rs n fs N) {k : Nat} (e : rs[k]? = some r) (s : But r H G) {kvs : List (List Key × V)} {f : Int → Int → Int} (q : FlD kvs f) {M : Nat} (l : kvs.length ≤ M) : DsR H0 (L2.upd G r (.dT kvs)) F rs n (fun j => if j = k then f else fs j) (fun j => if j = k then M else N j) := by
  have hr := List.mem_of_getElem? e
  have nd := h.nd
  rw [List.nodup_cons] at nd
  have hFr : F ≠ r := fun c => nd.1 (by rw [c]; exact hr)
  refine ⟨lk_upd hFr (s _ _ hFr h.hF), h.len, h.nd, h.nw, fun j r' e1 => ?_⟩
  by_cases c : j = k
  · subst c
    rw [e] at e1
    cases e1
    rw [if_pos rfl, if_pos rfl]
    exact ⟨kvs, upd_same, q, l⟩
  · obtain ⟨kws, q1, q2, q3⟩ := h.row j r' e1
    rw [if_neg c, if_neg c]
    have hne : r' ≠ r := fun z => c (nodup_at nd.2 e1 (by rw [z]; exact e))
    exact ⟨kws, lk_upd hne (s _ _ hne q1), q2, q3⟩
theorem AccN.dictB {H1 H G : Hp} {D r : Addr} {acc : List V} {ds : List PyData} {kvs : List (List Key × V)} {o : HO} (h : AccN H1 H D acc ds) (e : H r = some (.dT kvs)) (nr : H1 r = none) (s : But r H G) : AccN H1 (L2.upd G r o) D acc ds := by
  obtain ⟨s0, hD, S, ow, nd, nD, nw⟩ := h
  have Dr : D ≠ r := fun c => by rw [c, e] at hD; cases hD
  refine ⟨fun b u z => ?_, lk_upd Dr (s _ _ Dr hD), S, ?_, nd, nD, nw⟩
  · have br : b ≠ r := fun c => by rw [c, nr] at z; cases z
    exact lk_upd br (s _ _ br (s0 _ _ z))
  · refine OwAll.kp (T := [r]) (fun b xs hb z => ?_) (fun b u hb z => ?_) ow fun b hb hc => ?_
    · rw [List.mem_singleton.mp hb, e] at z
      cases z
    · have br : b ≠ r := fun c => hb (by rw [c]; simp)
      exact lk_upd br (s _ _ br z)
    · obtain ⟨xs, z⟩ := ow.lists b hb
      rw [List.mem_singleton.mp hc, e] at z
      cases z
end Hf
/-! ## flows taken apart: the first way through, again and again (no program in sight) -/
namespace Hf
open PySem PySem.Spec PyProof.Rows L2
abbrev FF := Nat → Int → Int → Int
def sumR (N : Nat) (g : Nat → Int) : Int := ((List.range N).map g).sum
theorem sumR_succ {N : Nat} {g : Nat → Int} : sumR (N + 1) g = sumR N g + g N := by
  unfold sumR
  rw [List.range_succ, List.map_append, List.sum_append]
  simp
theorem sumR_nn {g : Nat → Int} : ∀ {N : Nat}, (∀ i, i < N → 0 ≤ g i) → 0 ≤ sumR N g
  | 0, _ => by simp [sumR]
  | N + 1, h => by
    have := sumR_nn (N := N) fun i hi => h i (by omega)
    have := h N (by omega)
    rw [sumR_succ]
    omega
theorem sumR_ge {g : Nat → Int} : ∀ {N : Nat}, (∀ i, i < N → 0 ≤ g i) → ∀ j, j < N → g j ≤ sumR N g
  | 0, _, j, hj => by omega
  | N + 1, h, j, hj => by
    have h0 := sumR_nn (N := N) fun i hi => h i (by omega)
    have h1 := h N (by omega)
    rw [sumR_succ]
    by_cases c : j = N
    · subst c; omega
    · have := sumR_ge (N := N) (fun i hi => h i (by omega)) j (by omega)
      omega
theorem sumR_pos {g : Nat → Int} : ∀ {N : Nat}, sumR N g ≠ 0 → ∃ i, i < N ∧ g i ≠ 0
  | 0, h => absurd rfl h
  | N + 1, h => by
    rw [sumR_succ] at h
    by_cases c : g N = 0
    · obtain ⟨i, h1, h2⟩ := sumR_pos (N := N) (g := g) (by omega)
      exact ⟨i, by omega, h2⟩
    · exact ⟨N, by omega, c⟩
theorem sumR_zero {g : Nat → Int} {N : Nat} (h : ∀ i, i < N → g i = 0) : sumR N g = 0 := by
  by_cases c : sumR N g = 0
  · exact c
  · obtain ⟨i, h1, h2⟩ := sumR_pos c
    exact absurd (h i h1) h2
theorem sumR_sub {a b : Nat → Int} : ∀ {N : Nat}, sumR N (fun i => a i - b i) = sumR N a - sumR N b
  | 0 => rfl
  | N + 1 => by rw [sumR_succ, sumR_succ, sumR_succ, sumR_sub]; omega
theorem sumR_congr {a b : Nat → Int} : ∀ {N : Nat}, (∀ i, i < N → a i = b i) → sumR N a = sumR N b
  | 0, _ => rfl
  | N + 1, h => by rw [sumR_succ, sumR_succ, sumR_congr fun i hi => h i (by omega), h N (by omega)]
theorem sumR_one {w : Int} {j : Nat} : ∀ {N : Nat}, sumR N (fun i => if i = j then w else 0) = if j < N then w else 0
  | 0 => rfl
  | N + 1 => by
    rw [sumR_succ, sumR_one]
    by_cases c : N = j
    · subst c; simp
    · by_cases c2 : j < N
      · rw [if_pos c2, if_neg c, if_pos (by omega)]; omega
      · rw [if_neg c2, if_neg c, if_neg (by omega)]; omega
/-- with x left: how much comes, by what is sent; how much goes on with x left -/
def inF (h : Int) (f : Int → Int → Int) (x : Int) : Int := sumR (h.toNat + 1) fun s => f x (s : Int)
def outF (h : Int) (f : Int → Int → Int) (x : Int) : Int := sumR (h.toNat + 1) fun l => f (l : Int) ((l : Int) - x)
structure Bal (h : Int) (n : Nat) (F : FF) : Prop where
  nn : ∀ k l s, k < n → 0 ≤ F k l s
  ok : ∀ k l s, k < n → F k l s ≠ 0 → 0 ≤ s ∧ s ≤ l ∧ l ≤ h
  fst : ∀ l s, F 0 l s ≠ 0 → l = h
  lnk : ∀ k, k + 1 < n → ∀ x, inF h (F (k + 1)) x = outF h (F k) x
  lst : ∀ l s, F (n - 1) l s ≠ 0 → s = l
/-- what is left ahead of field k -/
def lft (h : Int) (p : List Int) (k : Nat) : Int := h - (p.take k).sum
structure Way (F : FF) (h : Int) (n : Nat) (p : List Int) (w : Int) : Prop where
  len : p.length = n
  st : ∀ (k : Nat) s, p[k]? = some s → F k (lft h p k) s ≠ 0 ∧ ∀ t, F k (lft h p k) t ≠ 0 → s ≤ t
  lw : ∀ (k : Nat) s, p[k]? = some s → w ≤ F k (lft h p k) s
  lx : ∃ (k : Nat) (s : Int), p[k]? = some s ∧ w = F k (lft h p k) s
theorem take_same {p q : List Int} {k : Nat} (h : ∀ j, j < k → p[j]? = q[j]?) : p.take k = q.take k := by
  apply List.ext_getElem?
  intro j
  rw [List.getElem?_take, List.getElem?_take]
  by_cases c : j < k
  · rw [if_pos c, if_pos c, h j c]
  · rw [if_neg c, if_neg c]
theorem Way.uniq {F : FF} {h : Int} {n : Nat} {p q : List Int} {v w : Int} (a : Way F h n p v) (b : Way F h n q w) : p = q ∧ v = w := by
  have e : ∀ (k j : Nat), j < k → p[j]? = q[j]? := by
    intro k
    induction k with
    | zero => intro j hj; omega
    | succ k ih =>
      intro j hj
      by_cases c : j < k
      · exact ih j c
      obtain rfl : j = k := by omega
      have el : lft h p j = lft h q j := by unfold lft; rw [take_same ih]
      by_cases c2 : j < n
      · have h1 : p[j]? = some (p[j]'(by rw [a.len]; exact c2)) := List.getElem?_eq_getElem _
        have h2 : q[j]? = some (q[j]'(by rw [b.len]; exact c2)) := List.getElem?_eq_getElem _
        have s1 := a.st j _ h1
        have s2 := b.st j _ h2
        rw [el] at s1
        have l1 := s1.2 _ s2.1
        have l2 := s2.2 _ s1.1
        rw [h1, h2]
        congr 1
        omega
      · rw [List.getElem?_eq_none (by rw [a.len]; omega), List.getElem?_eq_none (by rw [b.len]; omega)]
  obtain rfl : p = q := List.ext_getElem? fun j => e (j + 1) j (by omega)
  obtain ⟨k1, s1, x1, y1⟩ := a.lx
  obtain ⟨k2, s2, x2, y2⟩ := b.lx
  have := a.lw _ _ x2
  have := b.lw _ _ x1
  exact ⟨rfl, by omega⟩
def subF (F : FF) (p : List Int) (w : Int) : FF := fun k l s => F k l s - (if keyAt p k = (l, s) then w else 0)
inductive Apart (h : Int) (n : Nat) : FF → List (List Int × Int) → Prop
  | done {F : FF} : (∀ l s, F 0 l s = 0) → Apart h n F []
  | step {F : FF} {p : List Int} {w : Int} {m : List (List Int × Int)} : Way F h n p w → Apart h n (subF F p w) m → Apart h n F ((p, w) :: m)
theorem way_some {F : FF} {h : Int} {n : Nat} {p : List Int} {w : Int} (hn : 1 ≤ n) (a : Way F h n p w) : ∃ s, F 0 h s ≠ 0 := by
  have h1 : p[0]? = some (p[0]'(by rw [a.len]; exact hn)) := List.getElem?_eq_getElem _
  have := (a.st 0 _ h1).1
  rw [show lft h p 0 = h by simp [lft]] at this
  exact ⟨_, this⟩
theorem Apart.uniq {h : Int} {n : Nat} (hn : 1 ≤ n) {F : FF} {m m' : List (List Int × Int)} (a : Apart h n F m) (b : Apart h n F m') : m = m' := by
  induction a generalizing m' with
  | done z =>
    cases b with
    | done => rfl
    | step w _ =>
      obtain ⟨s, hs⟩ := way_some hn w
      exact absurd (z h s) hs
  | step w _ ih =>
    cases b with
    | done z =>
      obtain ⟨s, hs⟩ := way_some hn w
      exact absurd (z h s) hs
    | step w' b' =>
      obtain ⟨rfl, rfl⟩ := w.uniq w'
      rw [ih b']
/-! what a way is -/
theorem lft_succ {h : Int} {p : List Int} {k : Nat} {s : Int} (e : p[k]? = some s) : lft h p (k + 1) = lft h p k - s := by
  unfold lft
  rw [take_snoc e, List.sum_append]
  simp
  omega
section
variable {F : FF} {h : Int} {n : Nat} {p : List Int} {w : Int}
theorem Way.plan (hn : 1 ≤ n) (b : Bal h n F) (a : Way F h n p w) : PlanC h n p ∧ 1 ≤ w := by
  have hst : ∀ (k : Nat) s, p[k]? = some s → 0 ≤ s ∧ s ≤ lft h p k ∧ lft h p k ≤ h := fun k s e => b.ok k _ _ (by have := (List.getElem?_eq_some_iff.mp e).1; rw [a.len] at this; exact this) (a.st k s e).1
  refine ⟨⟨a.len, ?_, fun x hx => ?_⟩, ?_⟩
  · have e : p[n - 1]? = some (p[n - 1]'(by rw [a.len]; omega)) := List.getElem?_eq_getElem _
    have := b.lst _ _ (a.st _ _ e).1
    have e2 := lft_succ (h := h) e
    rw [show n - 1 + 1 = n by omega, this] at e2
    have e3 : lft h p n = h - p.sum := by unfold lft; rw [← a.len, List.take_length]
    omega
  · obtain ⟨k, hk, rfl⟩ := List.mem_iff_getElem.mp hx
    exact (hst k _ (List.getElem?_eq_getElem hk)).1
  · obtain ⟨k, s, e, rfl⟩ := a.lx
    have := (a.st k s e).1
    have := b.nn k (lft h p k) s (by have := (List.getElem?_eq_some_iff.mp e).1; rw [a.len] at this; exact this)
    omega
theorem lft_key (hp : p.sum = h) {k : Nat} {s : Int} (e : p[k]? = some s) : keyAt p k = (lft h p k, s) := by
  unfold keyAt lft
  rw [e]
  have : (p.take k).sum + (p.drop k).sum = p.sum := by rw [← List.sum_append, List.take_append_drop]
  simp
  omega
theorem Way.le (b : Bal h n F) (hp : p.sum = h) (a : Way F h n p w) {k : Nat} (hk : k < n) {l s : Int} (e : keyAt p k = (l, s)) : w ≤ F k l s ∧ F k l s ≠ 0 := by
  have e1 : p[k]? = some (p[k]'(by rw [a.len]; exact hk)) := List.getElem?_eq_getElem _
  have e2 := lft_key hp e1
  rw [e] at e2
  cases e2
  exact ⟨a.lw _ _ e1, (a.st _ _ e1).1⟩
theorem in_sub (hh : 0 ≤ h) {f : Int → Int → Int} {a c x : Int} (hc : 0 ≤ c ∧ c ≤ h) : inF h (fun l s => f l s - (if (a, c) = (l, s) then w else 0)) x = inF h f x - (if a = x then w else 0) := by
  unfold inF
  rw [sumR_sub (a := fun s : Nat => f x (s : Int)) (b := fun s : Nat => if (a, c) = (x, (s : Int)) then w else 0)]
  congr 1
  by_cases e : a = x
  · rw [if_pos e, sumR_congr (b := fun i => if i = c.toNat then w else 0) fun i _ => ?_, sumR_one, if_pos (by omega)]
    by_cases z : i = c.toNat
    · rw [if_pos z, if_pos (by rw [e, z]; congr 1; omega)]
    · rw [if_neg z, if_neg fun q => z (by injection q; omega)]
  · rw [if_neg e]
    exact sumR_zero fun i _ => if_neg fun q => e (by injection q)
theorem out_sub (hh : 0 ≤ h) {f : Int → Int → Int} {a c x : Int} (ha : 0 ≤ a ∧ a ≤ h) : outF h (fun l s => f l s - (if (a, c) = (l, s) then w else 0)) x = outF h f x - (if a - c = x then w else 0) := by
  unfold outF
  rw [sumR_sub (a := fun l : Nat => f (l : Int) ((l : Int) - x)) (b := fun l : Nat => if (a, c) = ((l : Int), (l : Int) - x) then w else 0)]
  congr 1
  by_cases e : a - c = x
  · rw [if_pos e, sumR_congr (b := fun i => if i = a.toNat then w else 0) fun i _ => ?_, sumR_one, if_pos (by omega)]
    by_cases z : i = a.toNat
    · rw [if_pos z, if_pos (by rw [z]; congr 1 <;> omega)]
    · rw [if_neg z, if_neg fun q => z (by injection q; omega)]
  · rw [if_neg e]
    exact sumR_zero fun i _ => if_neg fun q => e (by injection q; omega)
theorem Way.sub_ne (b : Bal h n F) (hp : p.sum = h) (a : Way F h n p w) {k : Nat} (hk : k < n) {l s : Int} (e : subF F p w k l s ≠ 0) : F k l s ≠ 0 := by
  unfold subF at e
  by_cases c : keyAt p k = (l, s)
  · exact (a.le b hp hk c).2
  · rw [if_neg c] at e
    omega
theorem Way.bal (hh : 0 ≤ h) (hn : 1 ≤ n) (b : Bal h n F) (a : Way F h n p w) : Bal h n (subF F p w) := by
  obtain ⟨⟨p1, p2, p3⟩, p4⟩ := a.plan hn b
  have kb : ∀ k, k < n → (0 ≤ (keyAt p k).1 ∧ (keyAt p k).1 ≤ h) ∧ 0 ≤ (keyAt p k).2 ∧ (keyAt p k).2 ≤ h := fun k hk => by
    have e1 : p[k]? = some (p[k]'(by omega)) := List.getElem?_eq_getElem _
    have e2 := lft_key p2 e1
    have := b.ok k _ _ hk (a.st k _ e1).1
    rw [e2]
    exact ⟨⟨by show 0 ≤ lft h p k; omega, by show lft h p k ≤ h; omega⟩, by show 0 ≤ p[k]'_; omega, by show p[k]'_ ≤ h; omega⟩
  refine ⟨fun k l s hk => ?_, fun k l s hk e => b.ok k l s hk (a.sub_ne b p2 hk e), fun l s e => b.fst l s (a.sub_ne b p2 (by omega) e), fun k hk x => ?_, fun l s e => b.lst l s (a.sub_ne b p2 (by omega) e)⟩
  · unfold subF
    by_cases c : keyAt p k = (l, s)
    · rw [if_pos c]
      have := (a.le b p2 hk c).1
      omega
    · rw [if_neg c]
      have := b.nn k l s hk
      omega
  · have e1 : inF h (subF F p w (k + 1)) x = inF h (F (k + 1)) x - (if (keyAt p (k + 1)).1 = x then w else 0) := in_sub hh (kb (k + 1) hk).2
    have e2 : outF h (subF F p w k) x = outF h (F k) x - (if (keyAt p k).1 - (keyAt p k).2 = x then w else 0) := out_sub hh (kb k (by omega)).1
    rw [e1, e2, b.lnk k hk x, key_next (by omega)]
theorem Bal.none (hh : 0 ≤ h) (b : Bal h n F) (z : ∀ l s, F 0 l s = 0) : ∀ k, k < n → ∀ l s, F k l s = 0 := by
  intro k
  induction k with
  | zero => intro _; exact z
  | succ k ih =>
    intro hk l s
    have z1 : inF h (F (k + 1)) l = 0 := by
      rw [b.lnk k hk l]
      exact sumR_zero fun i _ => ih (by omega) _ _
    by_cases c : F (k + 1) l s = 0
    · exact c
    · have o := b.ok (k + 1) l s hk c
      have := sumR_ge (g := fun i : Nat => F (k + 1) l (i : Int)) (N := h.toNat + 1) (fun i _ => b.nn (k + 1) l i hk) s.toNat (by omega)
      have e : ((s.toNat : Nat) : Int) = s := by omega
      simp only [e] at this
      have n0 := b.nn (k + 1) l s hk
      unfold inF at z1
      omega
/-- more comes, so more goes on -/
theorem Bal.next (hh : 0 ≤ h) (b : Bal h n F) {k : Nat} (hk : k + 1 < n) {l s : Int} (e : F k l s ≠ 0) : ∃ t, F (k + 1) (l - s) t ≠ 0 := by
  have o := b.ok k l s (by omega) e
  have h1 := sumR_ge (g := fun i : Nat => F k (i : Int) ((i : Int) - (l - s))) (N := h.toNat + 1) (fun i _ => b.nn k _ _ (by omega)) l.toNat (by omega)
  have e1 : ((l.toNat : Nat) : Int) = l := by omega
  simp only [e1] at h1
  rw [show l - (l - s) = s by omega] at h1
  have n0 := b.nn k l s (by omega)
  have h2 : inF h (F (k + 1)) (l - s) ≠ 0 := by
    rw [b.lnk k hk (l - s)]
    unfold outF
    omega
  obtain ⟨i, _, hi⟩ := sumR_pos h2
  exact ⟨_, hi⟩
end
theorem Apart.plans {h : Int} {n : Nat} (hh : 0 ≤ h) (hn : 1 ≤ n) {F : FF} {m : List (List Int × Int)} (a : Apart h n F m) (b : Bal h n F) : ∀ pw ∈ m, PlanC h n pw.1 ∧ 1 ≤ pw.2 := by
  induction a with
  | done _ => nofun
  | step w _ ih =>
    intro pw hp
    rcases List.mem_cons.mp hp with rfl | z
    · exact w.plan hn b
    · exact ih (w.bal hh hn b) pw z
theorem Apart.flows {h : Int} {n : Nat} (hh : 0 ≤ h) (hn : 1 ≤ n) {F : FF} {m : List (List Int × Int)} (a : Apart h n F m) (b : Bal h n F) : ∀ k, k < n → ∀ l s, flowF m k l s = F k l s := by
  induction a with
  | done z => exact fun k hk l s => (b.none hh z k hk l s).symm
  | @step F p v m w _ ih =>
    intro k hk l s
    have := ih (w.bal hh hn b) k hk l s
    show (if keyAt p k = (l, s) then v else 0) + flowF m k l s = F k l s
    rw [this]
    unfold subF
    omega
theorem Apart.has {h : Int} {n : Nat} (hh : 0 ≤ h) (hn : 1 ≤ n) {F : FF} {m : List (List Int × Int)} (a : Apart h n F m) (b : Bal h n F) : ∀ pw ∈ m, ∀ k, k < n → ∀ l s, keyAt pw.1 k = (l, s) → F k l s ≠ 0 := by
  induction a with
  | done _ => nofun
  | step w _ ih =>
    intro pw hp k hk l s e
    have pl := w.plan hn b
    rcases List.mem_cons.mp hp with rfl | z
    · exact (w.le b pl.1.2.1 hk e).2
    · exact w.sub_ne b pl.1.2.1 hk (ih (w.bal hh hn b) pw z k hk l s e)
theorem Way.used {F : FF} {h : Int} {n : Nat} {p : List Int} {w : Int} (hn : 1 ≤ n) (b : Bal h n F) (a : Way F h n p w) : ∃ k, k < n ∧ F k (keyAt p k).1 (keyAt p k).2 ≠ 0 ∧ subF F p w k (keyAt p k).1 (keyAt p k).2 = 0 := by
  have pl := a.plan hn b
  obtain ⟨k, s, e, rfl⟩ := a.lx
  have hk : k < n := by have := (List.getElem?_eq_some_iff.mp e).1; rw [a.len] at this; exact this
  have ek := lft_key pl.1.2.1 e
  refine ⟨k, hk, ?_, ?_⟩
  · rw [ek]
    exact (a.st k s e).1
  · unfold subF
    rw [ek, if_pos rfl]
    show F k (lft h p k) s - F k (lft h p k) s = 0
    omega
theorem Apart.unlike {h : Int} {n : Nat} (hh : 0 ≤ h) (hn : 1 ≤ n) {F : FF} {m : List (List Int × Int)} (a : Apart h n F m) (b : Bal h n F) : (m.map Prod.fst).Nodup := by
  induction a with
  | done _ => exact List.nodup_nil
  | step w a ih =>
    have b' := w.bal hh hn b
    refine List.nodup_cons.mpr ⟨fun hc => ?_, ih b'⟩
    obtain ⟨pw, hp, e⟩ := List.mem_map.mp hc
    obtain ⟨k, hk, _, z⟩ := w.used hn b
    exact a.has hh hn b' pw hp k hk _ _ (by rw [e]) z
/-- how many of some places have flow -/
def cntF (F : FF) (P : List (Nat × Int × Int)) : Nat := P.countP fun x => decide (F x.1 x.2.1 x.2.2 ≠ 0)
theorem countP_lt {α : Type} {p q : α → Bool} : ∀ {P : List α}, (∀ x ∈ P, q x = true → p x = true) → (∃ x ∈ P, p x = true ∧ q x = false) → P.countP q < P.countP p
  | [], _, ⟨x, hx, _⟩ => by cases hx
  | y :: P, h, ⟨x, hx, h1, h2⟩ => by
    have hle : P.countP q ≤ P.countP p := List.countP_mono_left fun z hz => h z (List.mem_cons_of_mem _ hz)
    rw [List.countP_cons, List.countP_cons]
    rcases List.mem_cons.mp hx with rfl | z
    · rw [h1, h2]
      simp
      omega
    · have := countP_lt (P := P) (fun z hz => h z (List.mem_cons_of_mem _ hz)) ⟨x, z, h1, h2⟩
      have hy := h y List.mem_cons_self
      by_cases c : q y = true
      · rw [if_pos c, if_pos (hy c)]; omega
      · rw [if_neg c]; split <;> omega
theorem Way.less {F : FF} {h : Int} {n : Nat} {p : List Int} {w : Int} (hn : 1 ≤ n) (b : Bal h n F) (a : Way F h n p w) {P : List (Nat × Int × Int)} (hk : ∀ x ∈ P, x.1 < n) (hP : ∀ k, k < n → ∀ l s, F k l s ≠ 0 → (k, l, s) ∈ P) : cntF (subF F p w) P < cntF F P := by
  have pl := a.plan hn b
  obtain ⟨k, hk', h1, h2⟩ := a.used hn b
  refine countP_lt (fun x hx e => decide_eq_true (a.sub_ne b pl.1.2.1 (hk x hx) (of_decide_eq_true e))) ⟨_, hP k hk' _ _ h1, decide_eq_true h1, decide_eq_false fun z => z h2⟩
theorem Apart.few {h : Int} {n : Nat} (hh : 0 ≤ h) (hn : 1 ≤ n) {F : FF} {m : List (List Int × Int)} (a : Apart h n F m) (b : Bal h n F) {P : List (Nat × Int × Int)} (hk : ∀ x ∈ P, x.1 < n) (hP : ∀ k, k < n → ∀ l s, F k l s ≠ 0 → (k, l, s) ∈ P) : m.length ≤ cntF F P := by
  induction a with
  | done _ => exact Nat.zero_le _
  | step w a ih =>
    have pl := w.plan hn b
    have := w.less hn b hk hP
    have := ih (w.bal hh hn b) fun k hk l s e => hP k hk l s (w.sub_ne b pl.1.2.1 hk e)
    rw [List.length_cons]
    omega
/-! the flows of a stream -/
def rowV (L : List Fl) : Int → Int → Int := fun l s => (L.map fun e => if (e.1, e.2.1) = (l, s) then e.2.2 else 0).sum
def strF (Ls : List (List Fl)) : FF := fun k => rowV ((Ls[k]?).getD [])
theorem rowV_snoc {L : List Fl} {e : Fl} (l s : Int) : rowV (L ++ [e]) l s = rowV L l s + if (e.1, e.2.1) = (l, s) then e.2.2 else 0 := by
  unfold rowV
  rw [List.map_append, List.sum_append]
  simp
theorem rowV_ne {L : List Fl} (h : ∀ e ∈ L, 1 ≤ e.2.2) (l s : Int) : 0 ≤ rowV L l s ∧ (rowV L l s ≠ 0 ↔ ∃ e ∈ L, (e.1, e.2.1) = (l, s)) := by
  induction L with
  | nil => exact ⟨Int.le_refl _, fun z => absurd rfl z, fun ⟨_, h, _⟩ => by cases h⟩
  | cons e L ih =>
    have ih := ih fun x hx => h x (List.mem_cons_of_mem _ hx)
    have h1 := h e List.mem_cons_self
    have er : rowV (e :: L) l s = (if (e.1, e.2.1) = (l, s) then e.2.2 else 0) + rowV L l s := by unfold rowV; rw [List.map_cons, List.sum_cons]
    rw [er]
    by_cases c : (e.1, e.2.1) = (l, s)
    · rw [if_pos c]
      exact ⟨by omega, fun _ => ⟨e, List.mem_cons_self, c⟩, fun _ => by omega⟩
    · rw [if_neg c]
      refine ⟨by omega, fun z => ?_, fun ⟨x, hx, q⟩ => ?_⟩
      · obtain ⟨x, hx, q⟩ := ih.2.mp (by omega)
        exact ⟨x, List.mem_cons_of_mem _ hx, q⟩
      · rcases List.mem_cons.mp hx with rfl | z
        · exact absurd q c
        · have := ih.2.mpr ⟨x, z, q⟩
          omega
theorem lt2_ne {a b : Fl} (h : lt2 a b) : (a.1, a.2.1) ≠ (b.1, b.2.1) := lt2_irr h
theorem rowV_at {L : List Fl} (st : L.Pairwise lt2) {e : Fl} (he : e ∈ L) : rowV L e.1 e.2.1 = e.2.2 := by
  induction L with
  | nil => cases he
  | cons x L ih =>
    obtain ⟨h1, h2⟩ := List.pairwise_cons.mp st
    have er : rowV (x :: L) e.1 e.2.1 = (if (x.1, x.2.1) = (e.1, e.2.1) then x.2.2 else 0) + rowV L e.1 e.2.1 := by unfold rowV; rw [List.map_cons, List.sum_cons]
    rw [er]
    rcases List.mem_cons.mp he with rfl | z
    · rw [if_pos rfl]
      have : rowV L e.1 e.2.1 = 0 := by
        unfold rowV
        exact sum_zero fun y hy => if_neg fun q => lt2_ne (h1 y hy) q.symm
      omega
    · rw [if_neg (lt2_ne (h1 e z)), ih h2 z]
      omega
theorem rowV_row {L : List Fl} (st : L.Pairwise lt2) (h : ∀ e ∈ L, 1 ≤ e.2.2) : RowF (rowV L) L := ⟨st, fun e => by
  constructor
  · intro he
    have := rowV_at st he
    have := h e he
    exact ⟨by omega, by omega⟩
  · rintro ⟨h1, h2⟩
    obtain ⟨x, hx, q⟩ := (rowV_ne h e.1 e.2.1).2.mp h2
    have := rowV_at st hx
    injection q with q1 q2
    rw [q1, q2, ← h1] at this
    rwa [show e = x from Prod.ext q1.symm (Prod.ext q2.symm this)]⟩
theorem rowV_in {h : Int} {L : List Fl} (ok : ∀ e ∈ L, 0 ≤ e.2.1 ∧ e.2.1 ≤ e.1 ∧ e.1 ≤ h) (x : Int) : inF h (rowV L) x = (L.map fun e => if e.1 = x then e.2.2 else 0).sum := by
  induction L with
  | nil => exact sumR_zero fun _ _ => rfl
  | cons e L ih =>
    have ih := ih fun y hy => ok y (List.mem_cons_of_mem _ hy)
    have h1 := ok e List.mem_cons_self
    rw [List.map_cons, List.sum_cons, ← ih]
    have s1 := in_sub (w := e.2.2) (f := rowV (e :: L)) (h := h) (a := e.1) (c := e.2.1) (x := x) (by omega) (by omega)
    have s2 : inF h (fun l s => rowV (e :: L) l s - (if (e.1, e.2.1) = (l, s) then e.2.2 else 0)) x = inF h (rowV L) x := by
      unfold inF
      refine sumR_congr fun i _ => ?_
      show (List.map (fun e' : Fl => if (e'.1, e'.2.1) = (x, (i : Int)) then e'.2.2 else 0) (e :: L)).sum - _ = _
      rw [List.map_cons, List.sum_cons]
      unfold rowV
      omega
    omega
theorem rowV_out {h : Int} {L : List Fl} (ok : ∀ e ∈ L, 0 ≤ e.2.1 ∧ e.2.1 ≤ e.1 ∧ e.1 ≤ h) (x : Int) : outF h (rowV L) x = (L.map fun e => if e.1 - e.2.1 = x then e.2.2 else 0).sum := by
  induction L with
  | nil => exact sumR_zero fun _ _ => rfl
  | cons e L ih =>
    have ih := ih fun y hy => ok y (List.mem_cons_of_mem _ hy)
    have h1 := ok e List.mem_cons_self
    rw [List.map_cons, List.sum_cons, ← ih]
    have s1 := out_sub (w := e.2.2) (f := rowV (e :: L)) (h := h) (a := e.1) (c := e.2.1) (x := x) (by omega) (by omega)
    have s2 : outF h (fun l s => rowV (e :: L) l s - (if (e.1, e.2.1) = (l, s) then e.2.2 else 0)) x = outF h (rowV L) x := by
      unfold outF
      refine sumR_congr fun i _ => ?_
      show (List.map (fun e' : Fl => if (e'.1, e'.2.1) = ((i : Int), (i : Int) - x) then e'.2.2 else 0) (e :: L)).sum - _ = _
      rw [List.map_cons, List.sum_cons]
      unfold rowV
      omega
    omega
theorem lt2_trans {a b c : Fl} (h1 : lt2 a b) (h2 : lt2 b c) : lt2 a c := by
  unfold lt2 at *
  omega
theorem pair_next : ∀ {L : List Fl}, (∀ (k : Nat) (a b : Fl), L[k]? = some a → L[k + 1]? = some b → lt2 a b) → L.Pairwise lt2
  | [], _ => List.Pairwise.nil
  | [_], _ => List.pairwise_singleton _ _
  | x :: y :: L, h => by
    have ih := pair_next (L := y :: L) fun k a b e1 e2 => h (k + 1) a b e1 e2
    have hxy := h 0 x y rfl rfl
    refine List.pairwise_cons.mpr ⟨fun z hz => ?_, ih⟩
    rcases List.mem_cons.mp hz with rfl | hz
    · exact hxy
    · exact lt2_trans hxy ((List.pairwise_cons.mp ih).1 z hz)
theorem RowG.st {h : Int} {L : List Fl} (g : RowG h L) : L.Pairwise lt2 := pair_next g.up
theorem RowG.okh {h : Int} {L : List Fl} (g : RowG h L) : ∀ e ∈ L, 0 ≤ e.2.1 ∧ e.2.1 ≤ e.1 ∧ e.1 ≤ h := fun e he => ⟨(g.ok e he).1, (g.ok e he).2.1, (g.ok e he).2.2.1⟩
theorem StrG.bal {h : Int} {n : Nat} {Ls : List (List Fl)} (g : StrG h (n : Int) Ls) : Bal h n (strF Ls) ∧ 1 ≤ n ∧ 0 ≤ h := by
  have ln : Ls.length = n := by have := g.ne.1; omega
  have hn : 1 ≤ n := by have := g.ne.2; omega
  have row : ∀ k, k < n → ∃ L, Ls[k]? = some L ∧ strF Ls k = rowV L ∧ RowG h L := fun k hk => by
    have e : Ls[k]? = some (Ls[k]'(by omega)) := List.getElem?_eq_getElem _
    exact ⟨_, e, by unfold strF; rw [e]; rfl, g.pre.rows _ (List.mem_of_getElem? e)⟩
  refine ⟨⟨fun k l s hk => ?_, fun k l s hk e => ?_, fun l s e => ?_, fun k hk x => ?_, fun l s e => ?_⟩, hn, ?_⟩
  · obtain ⟨L, e1, e2, r⟩ := row k hk
    rw [e2]
    exact (rowV_ne r.fl l s).1
  · obtain ⟨L, e1, e2, r⟩ := row k hk
    rw [e2] at e
    obtain ⟨x, hx, q⟩ := (rowV_ne r.fl l s).2.mp e
    injection q with q1 q2
    have := r.okh x hx
    omega
  · obtain ⟨L, e1, e2, r⟩ := row 0 hn
    rw [e2] at e
    obtain ⟨x, hx, q⟩ := (rowV_ne r.fl l s).2.mp e
    injection q with q1 q2
    rw [← q1]
    exact g.pre.first L e1 x hx
  · obtain ⟨A, a1, a2, ra⟩ := row k (by omega)
    obtain ⟨B, b1, b2, rb⟩ := row (k + 1) hk
    rw [a2, b2, rowV_in rb.okh, rowV_out ra.okh]
    have := g.pre.link k A B a1 b1 x
    unfold tkF gnF at this
    rw [sumF_sum, sumF_sum] at this
    have z : zF x = 0 := rfl
    omega
  · obtain ⟨L, e1, e2, r⟩ := row (n - 1) (by omega)
    rw [e2] at e
    obtain ⟨x, hx, q⟩ := (rowV_ne r.fl l s).2.mp e
    injection q with q1 q2
    have := g.last L (by rw [ln]; exact e1) x hx
    omega
  · obtain ⟨L, e1, e2, r⟩ := row 0 hn
    have hl := r.ne
    have := r.okh _ (List.getElem_mem (l := L) (n := 0) (by omega))
    omega
/-- where a stream has flow -/
def placesF (Ls : List (List Fl)) : List (Nat × Int × Int) := (Ls.zipIdx.map fun q => q.1.map fun e => (q.2, e.1, e.2.1)).flatten
theorem placesF_len (Ls : List (List Fl)) : (placesF Ls).length = (Ls.map List.length).sum := by
  unfold placesF
  rw [List.length_flatten, List.map_map]
  have : ∀ (k : Nat) (Ls : List (List Fl)), ((Ls.zipIdx k).map (List.length ∘ fun q => q.1.map fun e : Fl => (q.2, e.1, e.2.1))) = Ls.map List.length := by
    intro k Ls
    induction Ls generalizing k with
    | nil => rfl
    | cons L Ls ih => simp [List.zipIdx_cons, ih (k + 1)]
  rw [this 0 Ls]
theorem places_mem {Ls : List (List Fl)} {k : Nat} {l s : Int} : (k, l, s) ∈ placesF Ls ↔ ∃ L, Ls[k]? = some L ∧ ∃ e ∈ L, (e.1, e.2.1) = (l, s) := by
  unfold placesF
  rw [List.mem_flatten]
  constructor
  · rintro ⟨x, hx, hk⟩
    obtain ⟨q, hq, rfl⟩ := List.mem_map.mp hx
    obtain ⟨e, he, q2⟩ := List.mem_map.mp hk
    have := List.mem_zipIdx_iff_getElem?.mp hq
    injection q2 with a1 a2
    injection a2 with a2 a3
    exact ⟨q.1, by rw [← a1]; exact this, e, he, by rw [a2, a3]⟩
  · rintro ⟨L, h1, e, he, q⟩
    injection q with q1 q2
    exact ⟨_, List.mem_map.mpr ⟨(L, k), List.mem_zipIdx_iff_getElem?.mpr h1, rfl⟩, List.mem_map.mpr ⟨e, he, by rw [q1, q2]⟩⟩
/-- what a stream taken apart is -/
theorem Apart.str {h : Int} {n : Nat} {Ls : List (List Fl)} (g : StrG h (n : Int) Ls) (hh : h ≤ 40) (hn8 : n ≤ 8) {m : List (List Int × Int)} (a : Apart h n (strF Ls) m) : MixG h n m ∧ StrOf m n Ls ∧ (m.map Prod.fst).Nodup ∧ m.length ≤ (Ls.map List.length).sum := by
  obtain ⟨b, hn, h0⟩ := g.bal
  have ln : Ls.length = n := by have := g.ne.1; omega
  have fl := a.flows h0 hn b
  have row : ∀ (k : Nat) L, Ls[k]? = some L → k < n ∧ strF Ls k = rowV L ∧ RowG h L := fun k L e => ⟨by have := (List.getElem?_eq_some_iff.mp e).1; omega, by unfold strF; rw [e]; rfl, g.pre.rows _ (List.mem_of_getElem? e)⟩
  have so : StrOf m n Ls := ⟨ln, fun k L e => by
    obtain ⟨hk, e2, r⟩ := row k L e
    have : flowF m k = rowV L := by
      funext l s
      rw [fl k hk l s, e2]
    rw [this]
    exact rowV_row r.st r.fl⟩
  refine ⟨⟨?_, ⟨hn, hn8⟩, ⟨h0, hh⟩, a.plans h0 hn b⟩, so, a.unlike h0 hn b, ?_⟩
  · cases m with
    | nil =>
      obtain ⟨L, e⟩ : ∃ L, Ls[0]? = some L := ⟨Ls[0]'(by omega), List.getElem?_eq_getElem _⟩
      obtain ⟨hk, e2, r⟩ := row 0 L e
      have hl := r.ne
      have hm := List.getElem_mem (l := L) (n := 0) (by omega)
      have := (so.row 0 L e).mem (L[0]'(by omega))
      have := (this.mp hm).2
      exact absurd rfl this
    | cons _ _ => simp
  · have := a.few h0 hn b (P := placesF Ls) (fun x hx => by
      obtain ⟨L, e, _⟩ := places_mem.mp (show (x.1, x.2.1, x.2.2) ∈ _ from hx)
      exact (row _ L e).1) (fun k hk l s e => by
      have e1 : Ls[k]? = some (Ls[k]'(by omega)) := List.getElem?_eq_getElem _
      obtain ⟨_, e2, r⟩ := row k _ e1
      rw [e2] at e
      exact places_mem.mpr ⟨_, e1, (rowV_ne r.fl l s).2.mp e⟩)
    have l2 : cntF (strF Ls) (placesF Ls) ≤ (placesF Ls).length := List.countP_le_length
    rw [placesF_len] at l2
    omega
theorem rowV_set {L : List Fl} {j : Nat} {e : Fl} (st : L.Pairwise lt2) (h : L[j]? = some e) : setF (rowV (L.take j)) e.1 e.2.1 e.2.2 = rowV (L.take (j + 1)) := by
  have hz : rowV (L.take j) e.1 e.2.1 = 0 := by
    unfold rowV
    refine sum_zero fun x hx => if_neg fun q => ?_
    obtain ⟨i, hi, rfl⟩ := List.mem_iff_getElem.mp hx
    rw [List.length_take] at hi
    obtain ⟨hj, rfl⟩ := List.getElem?_eq_some_iff.mp h
    rw [List.getElem_take] at q
    exact lt2_ne (List.pairwise_iff_getElem.mp st i j (by omega) hj (by omega)) q
  rw [take_snoc h]
  funext l s
  rw [rowV_snoc]
  unfold setF
  by_cases c : l = e.1 ∧ s = e.2.1
  · rw [if_pos c, if_pos (by rw [c.1, c.2]), c.1, c.2, hz]
    omega
  · rw [if_neg c, if_neg fun q => c (by injection q with q1 q2; exact ⟨q1.symm, q2.symm⟩)]
    omega
theorem subF_set {F : FF} {p : List Int} {w : Int} {k : Nat} {l s : Int} (e : keyAt p k = (l, s)) : setF (F k) l s (F k l s - w) = subF F p w k := by
  funext a b
  unfold setF subF
  rw [e]
  by_cases c : a = l ∧ b = s
  · rw [if_pos c, if_pos (by rw [c.1, c.2]), c.1, c.2]
  · rw [if_neg c, if_neg fun q => c (by injection q with q1 q2; exact ⟨q1.symm, q2.symm⟩)]
    omega
theorem FlD.empty0 {f : Int → Int → Int} (h : FlD [] f) (l s : Int) : f l s = 0 := by
  have := h.vl l s
  by_cases c : f l s = 0
  · exact c
  · rw [if_neg c] at this
    cases this
/-! shares -/
def shRow (h : Int) (L : List Fl) : List Int := (List.range (h.toNat + 1)).map fun c : Nat => (L.map fun e => if e.2.1 = (c : Int) then e.2.2 else 0).sum
def shD (h : Int) (Ls : List (List Fl)) : PyData := .list ((Ls.map (shRow h)).map planD)
theorem shRow_len {h : Int} {L : List Fl} : (shRow h L).length = h.toNat + 1 := by rw [shRow, List.length_map, List.length_range]
theorem shRow_nil {h : Int} (hh : 0 ≤ h) : shRow h [] = List.replicate (h + 1).toNat 0 := by
  rw [show (h + 1).toNat = h.toNat + 1 by omega]
  apply List.ext_getElem
  · rw [shRow_len, List.length_replicate]
  · intro i h1 h2
    simp [shRow]
theorem shRow_set {h : Int} {L : List Fl} {j : Nat} {e : Fl} {z : Int} (he : L[j]? = some e) (h0 : 0 ≤ e.2.1) (hz : (shRow h (L.take j))[e.2.1.toNat]? = some z) : (shRow h (L.take j)).set e.2.1.toNat (z + e.2.2) = shRow h (L.take (j + 1)) := by
  rw [take_snoc he]
  apply List.ext_getElem
  · rw [List.length_set, shRow_len, shRow_len]
  · intro i h1 h2
    have hi : i < h.toNat + 1 := by rwa [shRow_len] at h2
    rw [List.getElem_set]
    have eR : (shRow h (L.take j ++ [e]))[i] = ((L.take j).map fun e => if e.2.1 = (i : Int) then e.2.2 else 0).sum + (if e.2.1 = (i : Int) then e.2.2 else 0) := by
      simp [shRow, List.sum_append]
    have eL : (shRow h (L.take j))[i]'(by rw [shRow_len]; exact hi) = ((L.take j).map fun e => if e.2.1 = (i : Int) then e.2.2 else 0).sum := by simp [shRow]
    rw [eR]
    by_cases c : e.2.1.toNat = i
    · rw [if_pos c, if_pos (by omega), ← eL]
      have := (List.getElem?_eq_some_iff.mp hz).2
      subst c
      rw [this]
    · rw [if_neg c, if_neg (by omega), eL]
      omega
end Hf
/-! ## how often a list of ints stands among such lists -/
namespace Hf
open PySem PySem.Spec PyProof.Rows L2
def isL (ns : List Int) : Option HO → Bool
  | some (.lst xs) => decide (xs = ns.map V.int)
  | _ => false
theorem ints_inj : ∀ {ms ns : List Int}, ms.map V.int = ns.map V.int → ms = ns
  | [], [], _ => rfl
  | [], _ :: _, h => by cases h
  | _ :: _, [], h => by cases h
  | m :: ms, n :: ns, h => by
    rw [List.map_cons, List.map_cons] at h
    injection h with h1 h2
    injection h1 with h1
    rw [h1, ints_inj h2]
theorem isL_ints (ms ns : List Int) : isL ns (some (.lst (ms.map V.int))) = decide (ms = ns) := by
  unfold isL
  rw [Bool.eq_iff_iff, decide_eq_true_iff, decide_eq_true_iff]
  exact ⟨ints_inj, fun h => by rw [h]⟩
def rCntL (K : PySem.W.Frag) : V → List V → Hp → VK → Prop := fun x xs H Q => ∃ (p b : Addr) (rs : List Addr) (ns : List Int), x = .ref p ∧ xs = [.ref b] ∧ SqL K H p (rs.map V.ref) ∧ H b = some (.lst (ns.map V.int)) ∧
  (∀ r ∈ rs, ∃ ms : List Int, H r = some (.lst (ms.map V.int))) ∧ Q (.int (rs.countP fun r => isL ns (H r) : Nat)) H
def fL (ns : List Int) (H : Hp) : Value → Bool
  | .ref a => isL ns (H a)
  | _ => false
theorem all_cntL {X : Cx} {pins : List (Addr × Obj)} {s : Shared} {σ : L2.St} {H : Hp} (I : Inv X pins σ H s) {A : Around} (hu : A.units + 60 < cLine) {b : Addr} {ns : List Int} (hb : H b = some (.lst (ns.map V.int))) : ∀ {rs : List Addr} {us : List Value}, (∀ r ∈ rs, ∃ ms : List Int, H r = some (.lst (ms.map V.int))) → Vals (rs.map V.ref) us →
    (∀ u ∈ us, SeqAt.EqAt A s u (.ref b) (fL ns H u)) ∧ us.countP (fL ns H) = rs.countP fun r => isL ns (H r)
  | [], [], _, .nil => ⟨nofun, rfl⟩
  | r :: rs, u :: us, hr, .cons ru rus => by
    obtain ⟨ms, hm⟩ := hr r List.mem_cons_self
    cases ru
    obtain ⟨h3, h4⟩ := all_cntL I hu hb (fun x hx => hr x (List.mem_cons_of_mem _ hx)) rus
    have e1 : fL ns H (.ref r) = decide (ms = ns) := by
      show isL ns (H r) = _
      rw [hm, isL_ints]
    have e2 : PyData.eqv (planD ms) (planD ns) = decide (ms = ns) := by rw [planD, planD, PyData.eqv, eqvAll_ints]
    obtain ⟨as, r1⟩ := Dp.reads I (planD ms) (.ref r) (.ref r) (.lst (.of hm) (dp_ints ms)) rfl
    obtain ⟨bs, r2⟩ := Dp.reads I (planD ns) (.ref b) (.ref b) (.lst (.of hb) (dp_ints ns)) rfl
    have d1 := depth_ints ms
    refine ⟨fun u' hu' => ?_, by rw [List.countP_cons, List.countP_cons, h4]; rfl⟩
    rcases List.mem_cons.mp hu' with e | e
    · rw [e, e1, ← e2]
      exact SeqAt.eqAt_reads (planD ms) (planD ns) A s (.ref r) (.ref b) as bs r1 r2 (lay_plan ms) (lay_plan ns) (by rw [planD, PyData.depth]; omega)
    · exact h3 u' e
theorem mt_lcountL {X : Cx} (hu : X.A.units + 64 < cLine) : MtR X "list.count" (rCntL X.K) := by
  intro pins s σ H x xs v us Q I rx rxs h
  obtain ⟨p, b, rs, ns, rfl, rfl, hs, hb, hr, q⟩ := h
  cases rx
  obtain ⟨u, rfl, ru⟩ := rxs.one
  cases ru
  obtain ⟨its, rv, ⟨⟨cls, dd, data, sl⟩, n, ho, hc, hdn, hd⟩, hlen⟩ := I.list hs
  simp only at hc hd
  subst hc hd
  obtain ⟨c1, c2⟩ := all_cntL (A := X.A.in1) I (by show X.A.units + 1 + 60 < cLine; omega) hb hr rv
  refine call_meets PySem.F.slot_list_count ⟨_, ho, rfl⟩ PySem.F.entry_list_count (PySem.F.args_list_count_2 _ _)
    (SeqAt.list_countAt p its.toArray n dd sl (.ref b) (fL ns H)) ⟨ho, fun u' hu' => c1 u' (by simpa using hu'), ?_⟩
  refine ⟨.int _, H, I.tok _, ⟨s.toks, ?_⟩, q⟩
  show Value.int ((its.toArray.toList.countP (fL ns H) : Nat) : Int) s.toks = Value.int _ s.toks
  rw [show its.toArray.toList = its from rfl, c2]
theorem mt_lcountLK {X : Cx} (K : PySem.W.Frag) (e : X.K = K) (hu : X.A.units + 64 < cLine) : MtR X "list.count" (rCntL K) := by subst e; exact mt_lcountL hu
theorem ints_all {H : Hp} {ns : List Int} : ∀ {rs : List Addr} {mss : List (List Int)}, DqAll H (rs.map V.ref) (mss.map planD) → (∀ r ∈ rs, ∃ ms : List Int, H r = some (.lst (ms.map V.int))) ∧ rs.countP (fun r => isL ns (H r)) = mss.countP fun ms => decide (ms = ns) := by
  intro rs
  induction rs with
  | nil =>
    intro mss q
    cases mss with
    | nil => exact ⟨nofun, rfl⟩
    | cons _ _ => cases q
  | cons r rs ih =>
    intro mss q
    cases mss with
    | nil => cases q
    | cons ms mss =>
      cases q with
      | cons q1 q2 =>
        obtain ⟨i1, i2⟩ := ih q2
        obtain ⟨a, xs, e1, e2, e3⟩ := q1.list_inv
        cases e1
        obtain rfl := e3.ints
        refine ⟨fun x hx => ?_, ?_⟩
        · rcases List.mem_cons.mp hx with rfl | z
          · exact ⟨ms, e2⟩
          · exact i1 x z
        · rw [List.countP_cons, List.countP_cons, i2, e2, isL_ints]
theorem i_cntL {K : PySem.W.Frag} {H : Hp} {Q : VK} {p b : Addr} {rs : List Addr} {mss : List (List Int)} {ns : List Int} (h : H p = some (.lst (rs.map V.ref))) (hb : H b = some (.lst (ns.map V.int))) (hr : DqAll H (rs.map V.ref) (mss.map planD)) (q : Q (.int ((mss.countP fun ms => decide (ms = ns) : Nat) : Int)) H) : rCntL K (.ref p) [.ref b] H Q := by
  obtain ⟨k1, k2⟩ := ints_all (ns := ns) hr
  exact ⟨p, b, rs, ns, rfl, rfl, .of h, hb, k1, by rw [k2]; exact q⟩
/-! a list of ints in a list of such -/
theorem any_cnt {α : Type} (p : α → Bool) (l : List α) : l.any p = decide (0 < l.countP p) := by
  rw [Bool.eq_iff_iff, List.any_eq_true, decide_eq_true_iff, List.countP_pos_iff]
def rInL (K : PySem.W.Frag) : R2 := fun x y H Q => ∃ (p b : Addr) (rs : List Addr) (ns : List Int), y = .ref p ∧ x = .ref b ∧ SqL K H p (rs.map V.ref) ∧ H b = some (.lst (ns.map V.int)) ∧
  (∀ r ∈ rs, ∃ ms : List Int, H r = some (.lst (ms.map V.int))) ∧ Q (.bl (decide (0 < rs.countP fun r => isL ns (H r)))) H
theorem op_inL {X : Cx} (hu : X.A.units + 64 < cLine) : OpR X (compareOp .In) (rInL X.K) := by
  intro pins s σ H x y v u Q I rx ry h
  obtain ⟨p, b, rs, ns, rfl, rfl, hs, hb, hr, q⟩ := h
  cases ry
  cases rx
  obtain ⟨its, r, pl, hz⟩ := I.list hs
  obtain ⟨c1, c2⟩ := all_cntL (A := X.A.in1) I (by show X.A.units + 1 + 60 < cLine; omega) hb hr r
  refine SeqAt.in_listAt (fL ns H) pl.isList (fun w hw => c1 w (by simpa using hw)) ⟨.bl _, H, I, rfl, ?_⟩
  rw [show its.toArray.any (fL ns H) = its.any (fL ns H) by simp, any_cnt, c2]
  exact q
theorem op_inLK {X : Cx} (K : PySem.W.Frag) (e : X.K = K) (hu : X.A.units + 64 < cLine) : OpR X (compareOp .In) (rInL K) := by subst e; exact op_inL hu
theorem i_inL {K : PySem.W.Frag} {H : Hp} {Q : VK} {p b : Addr} {rs : List Addr} {mss : List (List Int)} {ns : List Int} (h : H p = some (.lst (rs.map V.ref))) (hb : H b = some (.lst (ns.map V.int))) (hr : DqAll H (rs.map V.ref) (mss.map planD)) (q : Q (.bl (decide (ns ∈ mss))) H) : rInL K (.ref b) (.ref p) H Q := by
  obtain ⟨k1, k2⟩ := ints_all (ns := ns) hr
  refine ⟨p, b, rs, ns, rfl, rfl, .of h, hb, k1, ?_⟩
  have e : decide (0 < mss.countP fun ms => decide (ms = ns)) = decide (ns ∈ mss) := by
    rw [Bool.eq_iff_iff, decide_eq_true_iff, decide_eq_true_iff, List.countP_pos_iff]
    constructor
    · rintro ⟨a, ha, hb⟩
      rw [decide_eq_true_iff] at hb
      rw [← hb]
      exact ha
    · intro ha
      exact ⟨ns, ha, decide_eq_true rfl⟩
  rw [k2, e]
  exact q
/-! how often a mix is played so -/
theorem due_count (P : List Int → Bool) : ∀ {m : List (List Int × Int)}, (∀ pw ∈ m, 1 ≤ pw.2) → (((List.range (whole m).toNat).countP fun i : Nat => P (due m i) : Nat) : Int) = (m.map fun pw => if P pw.1 = true then pw.2 else 0).sum
  | [], _ => by simp [whole]
  | pw :: m, h => by
    have hw := h pw List.mem_cons_self
    have ih := due_count P (m := m) fun x hx => h x (List.mem_cons_of_mem _ hx)
    have wn := whole_nn m fun x hx => h x (List.mem_cons_of_mem _ hx)
    rw [whole_cons, show (pw.2 + whole m).toNat = pw.2.toNat + (whole m).toNat by omega, List.range_add, List.countP_append, List.countP_map, List.map_cons, List.sum_cons, ← ih]
    have e1 : (List.range pw.2.toNat).countP (fun i : Nat => P (due (pw :: m) i)) = if P pw.1 = true then pw.2.toNat else 0 := by
      have : ∀ i ∈ List.range pw.2.toNat, P (due (pw :: m) (i : Int)) = P pw.1 := fun i hi => by
        have := List.mem_range.mp hi
        rw [due, if_pos (by omega)]
      rw [List.countP_congr (q := fun _ => P pw.1) (fun x hx => by rw [this x hx])]
      by_cases c : P pw.1 = true
      · rw [if_pos c, List.countP_eq_length.mpr fun x _ => c, List.length_range]
      · rw [if_neg c, List.countP_eq_zero.mpr fun x _ => c]
    have e2 : ((fun i : Nat => P (due (pw :: m) (i : Int))) ∘ fun x : Nat => pw.2.toNat + x) = fun i : Nat => P (due m (i : Int)) := by
      funext i
      show P (due (pw :: m) ((pw.2.toNat + i : Nat) : Int)) = _
      rw [due, if_neg (by omega), show ((pw.2.toNat + i : Nat) : Int) - pw.2 = (i : Int) by omega]
    rw [e1, e2]
    split <;> omega
theorem due_mem : ∀ {m : List (List Int × Int)} {z : Int}, 0 ≤ z → z < whole m → ∃ pw ∈ m, due m z = pw.1
  | [], z, h0, h => by simp [whole] at h; omega
  | pw :: m, z, h0, h => by
    rw [whole_cons] at h
    rw [due]
    split
    · exact ⟨pw, List.mem_cons_self, rfl⟩
    · obtain ⟨q, hq, e⟩ := due_mem (m := m) (z := z - pw.2) (by omega) (by omega)
      exact ⟨q, List.mem_cons_of_mem _ hq, e⟩
/-- what comes to each count by a mix -/
def shMix (h : Int) (m : List (List Int × Int)) (k : Nat) : List Int := (List.range (h.toNat + 1)).map fun c : Nat => (m.map fun pw => if (pw.1[k]?).getD 0 = (c : Int) then pw.2 else 0).sum
theorem StrOf.shares {h : Int} {n : Nat} {m : List (List Int × Int)} {Ls : List (List Fl)} (r : StrOf m n Ls) (g : MixG h n m) : Ls.map (shRow h) = (List.range n).map (shMix h m) := by
  apply List.ext_getElem
  · rw [List.length_map, List.length_map, List.length_range, r.len]
  · intro i h1 h2
    have hi : i < Ls.length := by rwa [List.length_map] at h1
    rw [List.getElem_map, List.getElem_map, List.getElem_range]
    unfold shRow shMix
    refine List.map_congr_left fun c _ => ?_
    have rg := row_gather (fun pw hp => (g.pl pw hp).2) (r.row i _ (List.getElem?_eq_getElem hi)) (fun p => p.2) (c : Int)
    rw [sumF_sum] at rg
    have z : zF (c : Int) = 0 := rfl
    rw [z, Int.zero_add] at rg
    exact rg
section
variable {σ : L2.St} {H H1 : Hp} {Q : VK} {K : PySem.W.Frag} {D l : Addr} {g : TG} {tt : TT} {te : TE} {vs : List Nat} {xs : List V} {Qd : Hp → Prop}
/-- [.. for x in xs if ..]: whole numbers, kept where b says so -/
theorem lcL_fil (b : Nat → Bool) (f : Nat → Int) (nD : H1 D = none) (hn : xs.length ≤ 1000000) (hx : SqL K H1 l xs)
    (hs : ∀ (i : Nat) (x : V) H (Z : VK) (Y : Hp → Prop), xs[i]? = some x → Same H1 H → (b i = true → ∀ H4, Same H H4 → Z (.int (f i)) H4) → (b i = false → ∀ H4, Same H H4 → Y H4) → LcTurn g tt te vs σ x H Z Y)
    (hd : ∀ H, Same H1 H → H D = some (.lst ((((List.range xs.length).filter b).map f).map V.int)) → Qd H) :
    ∃ W : Nat → Nat → Hp → Prop, (∃ m, W 0 m (L2.upd H1 D (.lst []))) ∧ ∀ i m H, W i m H →
      ((Itl K l).stop i H ∧ Qd H) ∨ ((Itl K l).go i H ∧ ∃ Nx : Hp → Prop, (∀ H', Nx H' → ∃ m', m' < m ∧ W (i + 1) m' H') ∧ ∀ x H', (Itl K l).yld i H x H' → g x (wipe σ vs) H' fun σ2 H2 => wipe σ2 vs = wipe σ vs ∧ tt σ2 H2 fun b H3 =>
        if b = true then te σ2 H3 fun y H4 => ∃ acc, H4 D = some (.lst acc) ∧ acc.length < sizeLine ∧ Nx (L2.upd H4 D (.lst (acc ++ [y]))) else Nx H3) := by
  refine lcL (xs := xs) (fun i acc H => i ≤ xs.length ∧ acc = (((List.range i).filter b).map f).map V.int ∧ Same H1 H) nD ⟨Nat.zero_le _, rfl, Same.new nD⟩ (fun i acc H _ q _ => q.2.2.seq hx) ?_ ?_
  · rintro i x acc H Z Y hi ⟨_, rfl, hsame⟩ ha hz hy
    have hi' := (List.getElem?_eq_some_iff.mp hi).1
    refine hs i x H Z Y hi hsame (fun hb H4 h4 => hz _ H4 (h4 _ _ ha) (sz4' ?_) ⟨hi', ?_, Same.mut (hsame.trans h4) nD⟩) (fun hb H4 h4 => hy H4 (h4 _ _ ha) ⟨hi', ?_, hsame.trans h4⟩)
    · have := List.length_filter_le b (List.range i)
      rw [List.length_range] at this
      simp only [List.length_map]
      omega
    · rw [List.range_succ, List.filter_append, List.map_append, List.map_append, List.filter_cons, if_pos hb]
      rfl
    · rw [List.range_succ, List.filter_append, List.map_append, List.map_append, List.filter_cons, if_neg (by rw [hb]; exact Bool.false_ne_true)]
      simp
  · rintro acc H ⟨_, rfl, hsame⟩ ha
    exact hd H hsame ha
/-- .. whatever is kept: how many -/
theorem lcL_cnt (b : Nat → Bool) (nD : H1 D = none) (hn : xs.length ≤ 1000000) (hx : SqL K H1 l xs)
    (hs : ∀ (i : Nat) (x : V) H (Z : VK) (Y : Hp → Prop), xs[i]? = some x → Same H1 H → (b i = true → ∀ v H4, Same H H4 → Z v H4) → (b i = false → ∀ H4, Same H H4 → Y H4) → LcTurn g tt te vs σ x H Z Y)
    (hd : ∀ acc H, Same H1 H → H D = some (.lst acc) → acc.length = (List.range xs.length).countP b → Qd H) :
    ∃ W : Nat → Nat → Hp → Prop, (∃ m, W 0 m (L2.upd H1 D (.lst []))) ∧ ∀ i m H, W i m H →
      ((Itl K l).stop i H ∧ Qd H) ∨ ((Itl K l).go i H ∧ ∃ Nx : Hp → Prop, (∀ H', Nx H' → ∃ m', m' < m ∧ W (i + 1) m' H') ∧ ∀ x H', (Itl K l).yld i H x H' → g x (wipe σ vs) H' fun σ2 H2 => wipe σ2 vs = wipe σ vs ∧ tt σ2 H2 fun b H3 =>
        if b = true then te σ2 H3 fun y H4 => ∃ acc, H4 D = some (.lst acc) ∧ acc.length < sizeLine ∧ Nx (L2.upd H4 D (.lst (acc ++ [y]))) else Nx H3) := by
  refine lcL (xs := xs) (fun i acc H => i ≤ xs.length ∧ acc.length = (List.range i).countP b ∧ Same H1 H) nD ⟨Nat.zero_le _, rfl, Same.new nD⟩ (fun i acc H _ q _ => q.2.2.seq hx) ?_ ?_
  · rintro i x acc H Z Y hi ⟨_, hl, hsame⟩ ha hz hy
    have hi' := (List.getElem?_eq_some_iff.mp hi).1
    have hle : (List.range i).countP b ≤ i := by
      have := List.countP_le_length (p := b) (l := List.range i)
      rwa [List.length_range] at this
    refine hs i x H Z Y hi hsame (fun hb v H4 h4 => hz _ H4 (h4 _ _ ha) (sz4' (by omega)) ⟨hi', ?_, Same.mut (hsame.trans h4) nD⟩) (fun hb H4 h4 => hy H4 (h4 _ _ ha) ⟨hi', ?_, hsame.trans h4⟩)
    · rw [List.range_succ, List.countP_append, List.length_append, hl, List.countP_singleton, if_pos hb]
      rfl
    · rw [List.range_succ, List.countP_append, hl, List.countP_singleton, if_neg (by rw [hb]; exact Bool.false_ne_true), Nat.add_zero]
  · rintro acc H ⟨_, hl, hsame⟩ ha
    exact hd acc H hsame ha hl
end
theorem range_count {α : Type} (p : α → Bool) (b : Nat → Bool) : ∀ (l : List α), (∀ (i : Nat) (x : α), l[i]? = some x → b i = p x) → (List.range l.length).countP b = l.countP p := by
  intro l
  induction l generalizing b with
  | nil => intro _; rfl
  | cons x l ih =>
    intro h
    rw [List.length_cons, List.range_succ_eq_map, List.countP_cons, List.countP_map, List.countP_cons, ih (b ∘ Nat.succ) fun i y e => h (i + 1) y (by simpa using e), h 0 x rfl]
theorem range_fil {α : Type} (p : α → Bool) (v : α → Int) (b : Nat → Bool) (f : Nat → Int) : ∀ (l : List α), (∀ (i : Nat) (x : α), l[i]? = some x → b i = p x ∧ f i = v x) → (((List.range l.length).filter b).map f).sum = (l.map fun x => if p x = true then v x else 0).sum := by
  intro l
  induction l generalizing b f with
  | nil => intro _; rfl
  | cons x l ih =>
    intro h
    obtain ⟨h1, h2⟩ := h 0 x rfl
    have ih' := ih (b ∘ Nat.succ) (f ∘ Nat.succ) fun i y e => h (i + 1) y (by simpa using e)
    rw [List.length_cons, List.range_succ_eq_map, List.map_cons, List.sum_cons, ← ih', List.filter_cons, h1]
    have e3 : (((List.range l.length).map Nat.succ).filter b).map f = ((List.range l.length).filter (b ∘ Nat.succ)).map (f ∘ Nat.succ) := by
      rw [List.filter_map, List.map_map]
    by_cases c : p x = true
    · rw [if_pos c, if_pos c, List.map_cons, List.sum_cons, e3, h2]
    · rw [if_neg c, if_neg c, e3]
      omega
end Hf
/-! ## sorted and sets of pairs; sorted of a dict whose keys are ints -/
namespace Hf
open PySem PySem.Spec PyProof.Rows L2
section
variable {X : Cx}
def rSortedDK : List V → Hp → VK → Prop := fun xs H Q => ∃ (a : Addr) (kvs : List (Key × V)) (ks : List Int), xs = [V.ref a] ∧ Rd H a (.dK kvs) ∧ kvs.map (·.1) = ks.map Sum.inl ∧ ks.length < 64 ∧
    ∀ (ys : List Int) (p : Addr), ys.Perm ks → ys.Pairwise (· ≤ ·) → H p = none → Q (.ref p) (L2.upd H p (.lst (ys.map V.int)))
theorem cr_sortedDK (hc : X.calm = true) : CallR X (.builtin "sorted") rSortedDK := call_sortedDI hc
theorem cr_sortedPOK (K : PySem.W.Frag) (e : X.K = K) : CallR X (.builtin "sorted") (rSortedPO K) := by
  subst e
  exact cr_sortedPO
/-- len(set(xs)), xs a list of tuples of ints -/
def tLenSetT (K : PySem.W.Frag) (ta : TE) : TE := fun σ H Q => ta σ H fun x H1 => ∃ (l : Addr) (ks : List (Addr × List Int)), x = V.ref l ∧ SqL K H1 l (ks.map fun p => V.ref p.1) ∧ (∀ p ∈ ks, SqT K H1 p.1 (p.2.map V.int)) ∧ ks.length < 64 ∧
  ∀ L : List (List Int), L.Nodup → (∀ q ∈ L, q ∈ ks.map (·.2)) → (∀ q ∈ ks.map (·.2), q ∈ L) → Q (.int (L.length : Nat)) H1
theorem pe_lenSetTK (K : PySem.W.Frag) (eK : X.K = K) {a : Expr} {ta : TE} {p p2 q pos : Pos} (hc : X.calm = true) (hu : X.A.units + 64 < cLine) (hg : Gl X "len") (hm : X.mg "len" = none) (hg2 : Gl X "set") (hm2 : X.mg "set" = none) (ha : PE X a ta)
    (na : starEach [a] X.env = (false, eval a X.env) :: starEach [] X.env := by rfl) : PE X (.Call (.Name "len" p) [.Call (.Name "set" p2) [a] [] q] [] pos) (tLenSetT K ta) := by
  subst eK
  refine ⟨fun pins s σ H Q I h => ?_⟩
  refine Call_ (ld_blt I hg hm PySem.boot_len ?_)
  refine PyProof.Rows.callWith_builtin1 (PyProof.Rows.args_cons ?_ rfl) rfl rfl
  refine Call_ (ld_blt I hg2 hm2 PyProof.Rows.boot_set ?_)
  refine PyProof.Rows.callWith_type1 (PyProof.Rows.args_cons (thn (ha.run pins s σ H _ I h) fun v s1 ⟨x, H1, I1, r1, q1⟩ => PyProof.Rows.args_nil ?_) na) na rfl
  obtain ⟨l, ks, rfl, hq, ht, hf, q2⟩ := q1
  cases r1
  obtain ⟨its, rv, pl, hz⟩ := I1.list hq
  refine call_set_tups (P := X.prog) (w := X.w) ks (I1.ok.hd hc) pl.isList (by simpa using refs_of_vals rv) (fun b hb => I1.isT (ht b hb)) hf (by omega) fun h' tk L es ep t R g k => ?_
  refine PyProof.Rows.args_nil ?_
  obtain ⟨o, ho, hex, hd⟩ := R.ob
  have hn := SetTR.size (s := { s1 with heap := h', toks := tk }) R
  have few := R.few
  have I2 : Inv X pins σ H1 { s1 with heap := h', toks := tk } := I1.kept k
  refine call_len_set ho hex hd (SetTR.fits (s := { s1 with heap := h', toks := tk }) R) (by rw [hn]; omega) ⟨.int ((L.map (·.2)).length : Nat), H1, I2.tok _, ⟨_, by rw [hn, List.length_map]⟩, q2 (L.map (·.2)) R.nd (fun q hq => ?_) fun q hq => ?_⟩
  · obtain ⟨b, hb, rfl⟩ := List.mem_map.mp hq
    exact List.mem_map.mpr ⟨b, List.mem_of_mem_take (g.sub b hb), rfl⟩
  · obtain ⟨b, hb, rfl⟩ := List.mem_map.mp hq
    exact g.all b (by rw [List.take_length]; exact hb)
end
section
variable {σ : L2.St} {H : Hp} {Q : VK} {K : PySem.W.Frag} {p r : Addr} {xs : List V} {ms : List Int} {x : Int} {R : V → Prop}
theorem i_lenSetT {ta : TE} (h : ta σ H fun x H1 => ∃ (l : Addr) (ks : List (Addr × List Int)), x = V.ref l ∧ SqL K H1 l (ks.map fun p => V.ref p.1) ∧ (∀ p ∈ ks, SqT K H1 p.1 (p.2.map V.int)) ∧ ks.length < 64 ∧
  ∀ L : List (List Int), L.Nodup → (∀ q ∈ L, q ∈ ks.map (·.2)) → (∀ q ∈ ks.map (·.2), q ∈ L) → Q (.int (L.length : Nat)) H1) : tLenSetT K ta σ H Q := h
theorem i_sortedPO {k : V → Int × Int} (h : SqL K H p xs) (hx : ∀ x ∈ xs, ∃ t, x = V.ref t ∧ H t = some (.tup [.int (k x).1, .int (k x).2]))
    (q : ∀ ys p, SrtO.Srtd (ltP k) ys → SrtO.Stb (ltP k) ys xs → H p = none → Q (.ref p) (L2.upd H p (.lst ys))) : rSortedPO K [.ref p] H Q := ⟨p, xs, k, rfl, h, hx, q⟩
theorem i_sortedDK {a : Addr} {kvs : List (Key × V)} {f : Int → Int} (h : H a = some (.dK kvs)) (hf : FlI kvs f) (hl : kvs.length < 64)
    (q : ∀ (ns : List Int) (p : Addr), ns.Nodup → (∀ i, i ∈ ns ↔ f i ≠ 0) → H p = none → Q (.ref p) (L2.upd H p (.lst (ns.map V.int)))) : rSortedDK [.ref a] H Q := by
  have e : ∃ ks : List Int, kvs.map (·.1) = ks.map Sum.inl := by
    have := hf.ks
    clear hf h hl
    induction kvs with
    | nil => exact ⟨[], rfl⟩
    | cons kv kvs ih =>
      obtain ⟨ks, e⟩ := ih fun x hx => this x (List.mem_cons_of_mem _ hx)
      obtain ⟨i, e1, _⟩ := this kv List.mem_cons_self
      exact ⟨i :: ks, by rw [List.map_cons, e, e1]; rfl⟩
  obtain ⟨ks, e⟩ := e
  have nd : ks.Nodup := by
    have := hf.nd
    rw [e] at this
    exact nodup_of_map this
  have len : ks.length = kvs.length := by
    have := congrArg List.length e
    rw [List.length_map, List.length_map] at this
    exact this.symm
  refine ⟨a, kvs, ks, rfl, .inl h, e, by omega, fun ys p hp _ hn => q ys p (hp.nodup_iff.mpr nd) (fun i => ?_) hn⟩
  rw [hp.mem_iff]
  have h1 := hf.mem (k := .inl i)
  rw [e] at h1
  constructor
  · intro hi
    obtain ⟨j, hj, hn⟩ := h1.mp (List.mem_map_of_mem hi)
    cases hj
    exact hn
  · intro hi
    obtain ⟨j, hj, ej⟩ := List.mem_map.mp (h1.mpr ⟨i, rfl, hi⟩)
    cases ej
    exact hj
theorem i_neL1 (h1 : SqL K H p (ms.map V.int)) (h2 : SqL K H r [.int x]) (q : Q (.bl (!decide (ms = [x]))) H) : rNeD K (.ref p) (.ref r) H Q := i_neLI (ns := [x]) h1 h2 q
theorem i_eqL1 (h1 : SqL K H p (ms.map V.int)) (h2 : SqL K H r [.int x]) (q : Q (.bl (decide (ms = [x]))) H) : rEqD K (.ref p) (.ref r) H Q := i_eqLI (ns := [x]) h1 h2 q
end
end Hf
/-! ## papers judged: plainly -/
namespace Hf
open PySem PySem.Spec PyProof.Rows L2
def tabD (tb : List (List Int)) : PyData := .list (tb.map planD)
def sideS (sd : Bool) : Str := if sd = true then PySem.Str.ofString "second" else PySem.Str.ofString "first"
def ownS (f s : Int) (sd : Bool) : Int := if sd = true then s else f
def othS (f s : Int) (sd : Bool) : Int := if sd = true then f else s
/-- what is won on a field, the side's own count ahead -/
def payS (fl : Fld) (sd : Bool) (x y : Int) : Int := if sd = true then paidV fl y x else paidV fl x y
/-- what a stream's row wins against a count of the other side's, times its flows -/
def dueV (fl : Fld) (sd : Bool) (L : List Fl) (y : Int) : Int := (L.map fun e => e.2.2 * payS fl sd e.2.1 y).sum
def dueRow (fs : List Fld) (sd : Bool) (Ls : List (List Fl)) (w : Nat) (k : Nat) : List Int := (List.range w).map fun y : Nat => dueV (fldAt fs k) sd ((Ls[k]?).getD []) y
def duesV (fs : List Fld) (sd : Bool) (Ls : List (List Fl)) (w : Nat) : List (List Int) := (List.range fs.length).map (dueRow fs sd Ls w)
def t2 (tb : List (List Int)) (k y : Nat) : Int := (((tb[k]?).getD [])[y]?).getD 0
structure Rect (tb : List (List Int)) (n w : Nat) : Prop where
  len : tb.length = n
  rows : ∀ r ∈ tb, r.length = w
theorem Rect.at {tb : List (List Int)} {n w k : Nat} (h : Rect tb n w) (hk : k < n) : ∃ r, tb[k]? = some r ∧ r.length = w := by
  have hk' : k < tb.length := by rw [h.len]; exact hk
  exact ⟨tb[k], List.getElem?_eq_getElem hk', h.rows _ (List.getElem_mem hk')⟩
theorem Rect.get {tb : List (List Int)} {n w k y : Nat} (h : Rect tb n w) (hk : k < n) (hy : y < w) : ∃ r, tb[k]? = some r ∧ r[y]? = some (t2 tb k y) := by
  obtain ⟨r, e1, e2⟩ := h.at hk
  refine ⟨r, e1, ?_⟩
  unfold t2
  rw [e1, Option.getD_some, List.getElem?_eq_getElem (by omega)]
  rfl
theorem dueRow_len {fs : List Fld} {sd : Bool} {Ls : List (List Fl)} {w k : Nat} : (dueRow fs sd Ls w k).length = w := by
  unfold dueRow
  rw [List.length_map, List.length_range]
theorem dues_rect {fs : List Fld} {sd : Bool} {Ls : List (List Fl)} {w : Nat} : Rect (duesV fs sd Ls w) fs.length w := ⟨by unfold duesV; rw [List.length_map, List.length_range], fun r hr => by
  unfold duesV at hr
  obtain ⟨k, _, rfl⟩ := List.mem_map.mp hr
  exact dueRow_len⟩
theorem dues_t2 {fs : List Fld} {sd : Bool} {Ls : List (List Fl)} {w k y : Nat} (hk : k < fs.length) (hy : y < w) : t2 (duesV fs sd Ls w) k y = dueV (fldAt fs k) sd ((Ls[k]?).getD []) y := by
  unfold t2 duesV
  rw [List.getElem?_map, List.getElem?_range hk, Option.map_some, Option.getD_some]
  unfold dueRow
  rw [List.getElem?_map, List.getElem?_range hy, Option.map_some, Option.getD_some]
/-- what comes of each count that is sent to a field -/
def goV (due tb : List (List Int)) (k l : Nat) : List Int := if k + 1 = due.length then [t2 due k l] else (List.range (l + 1)).map fun s => t2 due k s + t2 tb (k + 1) (l - s)
theorem goV_len {due tb : List (List Int)} {k l : Nat} : 1 ≤ (goV due tb k l).length := by
  unfold goV
  split
  · simp
  · rw [List.length_map, List.length_range]; omega
theorem goV_len2 {due tb : List (List Int)} {k l : Nat} : (goV due tb k l).length ≤ l + 1 := by
  unfold goV
  split
  · simp
  · rw [List.length_map, List.length_range]; omega
theorem goV_mem {due tb : List (List Int)} {k l : Nat} {x : Int} : x ∈ goV due tb k l ↔ (k + 1 = due.length ∧ x = t2 due k l) ∨ (k + 1 ≠ due.length ∧ ∃ s, s ≤ l ∧ x = t2 due k s + t2 tb (k + 1) (l - s)) := by
  unfold goV
  split
  · next c => simp [c]
  · next c =>
    rw [List.mem_map]
    constructor
    · rintro ⟨s, h, rfl⟩
      exact .inr ⟨c, s, by rw [List.mem_range] at h; omega, rfl⟩
    · rintro (⟨h, _⟩ | ⟨_, s, h, rfl⟩)
      · exact absurd h c
      · exact ⟨s, List.mem_range.mpr (by omega), rfl⟩
/-- a table's number does not bound what comes -/
def badAt (due tb : List (List Int)) (sd : Bool) (k l : Nat) : Prop := ∃ x ∈ goV due tb k l, if sd = true then t2 tb k l < x else x < t2 tb k l
/-- the first place of n times w that is bad -/
def FB (B : Nat → Nat → Prop) (n w : Nat) : Option (Nat × Nat) → Prop
  | none => ∀ k l, k < n → l < w → ¬ B k l
  | some (a, b) => a < n ∧ b < w ∧ B a b ∧ ∀ k l, l < w → (k < a ∨ (k = a ∧ l < b)) → ¬ B k l
theorem FB.uniq {B : Nat → Nat → Prop} {n w : Nat} : ∀ {r t : Option (Nat × Nat)}, FB B n w r → FB B n w t → r = t
  | none, none, _, _ => rfl
  | none, some (a, b), h, ⟨h1, h2, h3, _⟩ => absurd h3 (h a b h1 h2)
  | some (a, b), none, ⟨h1, h2, h3, _⟩, h => absurd h3 (h a b h1 h2)
  | some (a, b), some (c, d), ⟨h1, h2, h3, h4⟩, ⟨g1, g2, g3, g4⟩ => by
    by_cases e1 : a < c
    · exact absurd h3 (g4 a b h2 (.inl e1))
    · by_cases e2 : c < a
      · exact absurd g3 (h4 c d g2 (.inl e2))
      · obtain rfl : a = c := by omega
        by_cases e3 : b < d
        · exact absurd h3 (g4 a b h2 (.inr ⟨rfl, e3⟩))
        · by_cases e4 : d < b
          · exact absurd g3 (h4 a d g2 (.inr ⟨rfl, e4⟩))
          · obtain rfl : b = d := by omega
            rfl
/-- a table of n rows of numbers for so many hosts -/
def isTabB (n h : Int) : PyData → Bool
  | .list ds => decide ((ds.length : Int) = n) && ds.all (areNumsD (h + 1))
  | _ => false
theorem numsL_of {n : Int} {d : PyData} (h : areNumsD n d = true) : ∃ ms : List Int, d = planD ms ∧ (ms.length : Int) = n := by
  cases d with
  | list ds =>
    rw [areNumsD, Bool.and_eq_true, decide_eq_true_eq] at h
    obtain ⟨h1, h2⟩ := h
    have : ∃ ms : List Int, ds = ms.map PyData.int := by
      clear h1
      induction ds with
      | nil => exact ⟨[], rfl⟩
      | cons d ds ih =>
        rw [List.all_cons, Bool.and_eq_true] at h2
        obtain ⟨x, rfl⟩ := num_inv h2.1
        obtain ⟨ms, rfl⟩ := ih h2.2
        exact ⟨x :: ms, rfl⟩
    obtain ⟨ms, rfl⟩ := this
    exact ⟨ms, rfl, by rw [List.length_map] at h1; exact h1⟩
  | _ => simp [areNumsD] at h
def IsTab (n h : Int) (d : PyData) : Prop := ∃ tb, d = tabD tb ∧ (tb.length : Int) = n ∧ ∀ r ∈ tb, (r.length : Int) = h + 1
theorem isTab_iff {n h : Int} {d : PyData} : isTabB n h d = true ↔ IsTab n h d := by
  constructor
  · intro e
    cases d with
    | list ds =>
      rw [isTabB, Bool.and_eq_true, decide_eq_true_eq] at e
      obtain ⟨e1, e2⟩ := e
      have : ∃ tb : List (List Int), ds = tb.map planD ∧ ∀ r ∈ tb, (r.length : Int) = h + 1 := by
        clear e1
        induction ds with
        | nil => exact ⟨[], rfl, nofun⟩
        | cons d ds ih =>
          rw [List.all_cons, Bool.and_eq_true] at e2
          obtain ⟨ms, rfl, l⟩ := numsL_of e2.1
          obtain ⟨tb, rfl, q⟩ := ih e2.2
          refine ⟨ms :: tb, rfl, fun r hr => ?_⟩
          rcases List.mem_cons.mp hr with z | z
          · rw [z]; exact l
          · exact q r z
      obtain ⟨tb, rfl, q⟩ := this
      exact ⟨tb, rfl, by rw [List.length_map] at e1; exact e1, q⟩
    | _ => simp [isTabB] at e
  · rintro ⟨tb, rfl, e1, e2⟩
    rw [tabD, isTabB, Bool.and_eq_true, decide_eq_true_eq, List.length_map]
    refine ⟨e1, ?_⟩
    rw [List.all_map, List.all_eq_true]
    intro r hr
    show areNumsD (h + 1) (planD r) = true
    rw [nums_plan, decide_eq_true (e2 r hr)]
theorem isTab_no {n h : Int} {d : PyData} : isTabB n h d = false ↔ ¬ IsTab n h d := by
  rw [← isTab_iff, Bool.not_eq_true]
theorem tabD_inj {a b : List (List Int)} (h : tabD a = tabD b) : a = b := by
  simp only [tabD] at h
  injection h with h
  refine (List.map_inj_right fun x y e => ?_).mp h
  simp only [planD] at e
  injection e with e
  exact (List.map_inj_right fun i j q => by injection q).mp e
/-- a stream's whole -/
def wholeF (Ls : List (List Fl)) : Int := (((Ls[0]?).getD []).map fun e => e.2.2).sum
/-- what a table shows falls short of the worth -/
def ShortW (sd : Bool) (top bot w t : Int) : Prop := if sd = true then top * w < t * bot else t * bot < top * w
def wordD (x : String) : PyData := .tuple [.str (PySem.Str.ofString x)]
def numD (k l : Nat) : PyData := .tuple [.str (PySem.Str.ofString "number"), .int k, .int l]
/-- what judged tells -/
inductive JudR (f s : Int) (fs : List Fld) (sd : Bool) (top bot : Int) (d r : PyData) : Prop
  | paper (h : ∀ a b, d ≠ .tuple [a, b]) (e : r = wordD "paper")
  | stream (a b : PyData) (h : d = .tuple [a, b]) (c : ¬ IsStr (ownS f s sd) fs.length a) (e : r = wordD "stream")
  | table (a b : PyData) (h : d = .tuple [a, b]) (c : IsStr (ownS f s sd) fs.length a) (c2 : ¬ IsTab fs.length (othS f s sd) b) (e : r = wordD "table")
  | num (Ls : List (List Fl)) (tb : List (List Int)) (k l : Nat) (h : d = .tuple [strD Ls, tabD tb]) (g : StrG (ownS f s sd) fs.length Ls) (t : Rect tb fs.length (othS f s sd + 1).toNat) (w : FB (badAt (duesV fs sd Ls (othS f s sd + 1).toNat) tb sd) fs.length (othS f s sd + 1).toNat (some (k, l))) (e : r = numD k l)
  | worth (Ls : List (List Fl)) (tb : List (List Int)) (h : d = .tuple [strD Ls, tabD tb]) (g : StrG (ownS f s sd) fs.length Ls) (t : Rect tb fs.length (othS f s sd + 1).toNat) (w : FB (badAt (duesV fs sd Ls (othS f s sd + 1).toNat) tb sd) fs.length (othS f s sd + 1).toNat none) (c : ShortW sd top bot (wholeF Ls) (t2 tb 0 (othS f s sd).toNat)) (e : r = wordD "worth")
  | good (Ls : List (List Fl)) (tb : List (List Int)) (h : d = .tuple [strD Ls, tabD tb]) (g : StrG (ownS f s sd) fs.length Ls) (t : Rect tb fs.length (othS f s sd + 1).toNat) (w : FB (badAt (duesV fs sd Ls (othS f s sd + 1).toNat) tb sd) fs.length (othS f s sd + 1).toNat none) (c : ¬ ShortW sd top bot (wholeF Ls) (t2 tb 0 (othS f s sd).toNat)) (e : r = .none)
theorem tab_rect {n : Nat} {h : Int} {d : PyData} (k : IsTab n h d) : ∃ tb, d = tabD tb ∧ Rect tb n (h + 1).toNat := by
  obtain ⟨tb, rfl, e1, e2⟩ := k
  exact ⟨tb, rfl, by omega, fun r hr => by have := e2 r hr; omega⟩
theorem rect_tab {n : Nat} {h : Int} {tb : List (List Int)} (h0 : 0 ≤ h) (k : Rect tb n (h + 1).toNat) : IsTab n h (tabD tb) := ⟨tb, rfl, by rw [k.len], fun r hr => by have := k.rows r hr; omega⟩
theorem pair_inj {a b c d : PyData} (h : PyData.tuple [a, b] = .tuple [c, d]) : a = c ∧ b = d := by
  injection h with h
  injection h with h1 h2
  injection h2 with h2
  exact ⟨h1, h2⟩
theorem JudR.uniq {f s : Int} {fs : List Fld} {sd : Bool} {top bot : Int} {d r t : PyData} (h0 : 0 ≤ othS f s sd) (x : JudR f s fs sd top bot d r) (y : JudR f s fs sd top bot d t) : r = t := by
  have ps : ∀ {Ls Ms : List (List Fl)} {tb tc : List (List Int)}, PyData.tuple [strD Ls, tabD tb] = .tuple [strD Ms, tabD tc] → Ls = Ms ∧ tb = tc := fun h => ⟨strD_inj (pair_inj h).1, tabD_inj (pair_inj h).2⟩
  cases x with
  | paper h e =>
    cases y with
    | paper h' e' => rw [e, e']
    | stream a b h' | table a b h' => exact absurd h' (h a b)
    | num Ls tb _ _ h' | worth Ls tb h' | good Ls tb h' => exact absurd h' (h _ _)
  | stream a b h c e =>
    cases y with
    | paper h' => exact absurd h (h' a b)
    | stream a' b' h' c' e' => rw [e, e']
    | table a' b' h' c' => exact absurd (by rw [(pair_inj (h.symm.trans h')).1]; exact c') c
    | num Ls tb _ _ h' g | worth Ls tb h' g | good Ls tb h' g => exact absurd ⟨Ls, (pair_inj (h.symm.trans h')).1, g⟩ c
  | table a b h c c2 e =>
    cases y with
    | paper h' => exact absurd h (h' a b)
    | stream a' b' h' c' => exact absurd (by rw [← (pair_inj (h.symm.trans h')).1]; exact c) c'
    | table a' b' h' c' c2' e' => rw [e, e']
    | num Ls tb _ _ h' g t' | worth Ls tb h' g t' | good Ls tb h' g t' => exact absurd (by rw [(pair_inj (h.symm.trans h')).2]; exact rect_tab h0 t') c2
  | num Ls tb k l h g t' w e =>
    cases y with
    | paper h' => exact absurd h (h' _ _)
    | stream a' b' h' c' => exact absurd ⟨Ls, (pair_inj (h'.symm.trans h)).1, g⟩ c'
    | table a' b' h' c' c2' => exact absurd (by rw [(pair_inj (h'.symm.trans h)).2]; exact rect_tab h0 t') c2'
    | num Ms tc k' l' h' g' t'' w' e' =>
      obtain ⟨rfl, rfl⟩ := ps (h.symm.trans h')
      have := w.uniq w'
      cases this
      rw [e, e']
    | worth Ms tc h' g' t'' w' | good Ms tc h' g' t'' w' =>
      obtain ⟨rfl, rfl⟩ := ps (h.symm.trans h')
      have := w.uniq w'
      cases this
  | worth Ls tb h g t' w c e =>
    cases y with
    | paper h' => exact absurd h (h' _ _)
    | stream a' b' h' c' => exact absurd ⟨Ls, (pair_inj (h'.symm.trans h)).1, g⟩ c'
    | table a' b' h' c' c2' => exact absurd (by rw [(pair_inj (h'.symm.trans h)).2]; exact rect_tab h0 t') c2'
    | num Ms tc k' l' h' g' t'' w' =>
      obtain ⟨rfl, rfl⟩ := ps (h.symm.trans h')
      have := w.uniq w'
      cases this
    | worth Ms tc h' g' t'' w' c' e' => rw [e, e']
    | good Ms tc h' g' t'' w' c' =>
      obtain ⟨rfl, rfl⟩ := ps (h.symm.trans h')
      exact absurd c c'
  | good Ls tb h g t' w c e =>
    cases y with
    | paper h' => exact absurd h (h' _ _)
    | stream a' b' h' c' => exact absurd ⟨Ls, (pair_inj (h'.symm.trans h)).1, g⟩ c'
    | table a' b' h' c' c2' => exact absurd (by rw [(pair_inj (h'.symm.trans h)).2]; exact rect_tab h0 t') c2'
    | num Ms tc k' l' h' g' t'' w' =>
      obtain ⟨rfl, rfl⟩ := ps (h.symm.trans h')
      have := w.uniq w'
      cases this
    | worth Ms tc h' g' t'' w' c' =>
      obtain ⟨rfl, rfl⟩ := ps (h.symm.trans h')
      exact absurd c' c
    | good Ms tc h' g' t'' w' c' e' => rw [e, e']
/-! ### how great numbers are -/
def Wd (b : Nat) (x : Int) : Prop := x.natAbs < 2 ^ b
theorem Wd.mono {a b : Nat} {x : Int} (h : Wd a x) (e : a ≤ b) : Wd b x := Nat.lt_of_lt_of_le h (Nat.pow_le_pow_right (by decide) e)
theorem Wd.cmul {a b : Nat} {x y : Int} (hx : Wd a x) (hy : Wd b y) (h0 : 0 < a) (h1 : 0 < b) (h : a + b ≤ 1000000) : CMulA x y := mulW hx hy h0 h1 h
theorem Wd.mul {a b : Nat} {x y : Int} (hx : Wd a x) (hy : Wd b y) : Wd (a + b) (x * y) := by
  unfold Wd at *
  rw [Int.natAbs_mul, Nat.pow_add]
  by_cases c : y.natAbs = 0
  · rw [c, Nat.mul_zero]
    exact Nat.mul_pos (Nat.two_pow_pos a) (Nat.two_pow_pos b)
  · exact Nat.mul_lt_mul_of_lt_of_le hx (Nat.le_of_lt hy) (Nat.two_pow_pos b)
theorem Wd.add {a : Nat} {x y : Int} (hx : Wd a x) (hy : Wd a y) : Wd (a + 1) (x + y) := by
  unfold Wd at *
  have := Int.natAbs_add_le x y
  rw [Nat.pow_succ]
  omega
theorem Wd.neg {a : Nat} {x : Int} (hx : Wd a x) : Wd a (0 - x) := by
  unfold Wd at *
  rw [Int.zero_sub, Int.natAbs_neg]
  exact hx
theorem wd_sum {a k : Nat} {l : List Int} (h : ∀ x ∈ l, Wd a x) (hl : l.length ≤ 2 ^ k) : Wd (a + k) l.sum := by
  have key : ∀ l : List Int, (∀ x ∈ l, Wd a x) → l.sum.natAbs + l.length ≤ l.length * 2 ^ a := by
    intro l
    induction l with
    | nil => intro _; simp
    | cons x l ih =>
      intro h
      have h1 : x.natAbs < 2 ^ a := h x List.mem_cons_self
      have h2 := ih fun y hy => h y (List.mem_cons_of_mem _ hy)
      have h3 := Int.natAbs_add_le x l.sum
      rw [List.sum_cons, List.length_cons, Nat.succ_mul]
      omega
  have h1 := key l h
  unfold Wd
  rw [Nat.pow_add]
  have h2 : l.length * 2 ^ a ≤ 2 ^ k * 2 ^ a := Nat.mul_le_mul_right _ hl
  rw [Nat.mul_comm (2 ^ k)] at h2
  cases l with
  | nil =>
    simp only [List.sum_nil, Int.natAbs_zero]
    exact Nat.mul_pos (Nat.two_pow_pos a) (Nat.two_pow_pos k)
  | cons x l =>
    rw [List.length_cons] at h1 h2
    omega
theorem wd_log {k : Nat} {x : Int} (h : x.natAbs.log2 < k) : Wd k x := by
  unfold Wd
  by_cases c : x.natAbs = 0
  · rw [c]; exact Nat.two_pow_pos k
  · exact (Nat.log2_lt c).mp h
theorem shA_mem : ∀ {ds : List PyData} {d : PyData}, PyData.showableAll ds = true → d ∈ ds → d.showable = true
  | [], _, _, h => by simp at h
  | e :: ds, d, h, hd => by
    rw [PyData.showableAll, Bool.and_eq_true] at h
    rcases List.mem_cons.mp hd with z | z
    · rw [z]; exact h.1
    · exact shA_mem h.2 z
theorem sh_int {x : Int} (h : (PyData.int x).showable = true) : Wd 1920 x := by
  rw [PyData.showable] at h
  exact wd_log (of_decide_eq_true h)
theorem sh_flows {Ls : List (List Fl)} (h : (strD Ls).showable = true) : ∀ L ∈ Ls, ∀ e ∈ L, Wd 1920 e.2.2 := by
  intro L hL e he
  rw [strD, PyData.showable] at h
  have h1 := shA_mem h (List.mem_map_of_mem hL)
  rw [rowD, PyData.showable] at h1
  have h2 := shA_mem h1 (List.mem_map_of_mem he)
  rw [flD, PyData.showable] at h2
  exact sh_int (shA_mem h2 (by simp))
theorem sh_table {tb : List (List Int)} (h : (tabD tb).showable = true) : ∀ r ∈ tb, ∀ x ∈ r, Wd 1920 x := by
  intro r hr x hx
  rw [tabD, PyData.showable] at h
  have h1 := shA_mem h (List.mem_map_of_mem hr)
  rw [planD, PyData.showable] at h1
  exact sh_int (shA_mem h1 (List.mem_map_of_mem hx))
theorem sh_pair {a b : PyData} (h : (PyData.tuple [a, b]).showable = true) : a.showable = true ∧ b.showable = true := by
  rw [PyData.showable] at h
  exact ⟨shA_mem h (by simp), shA_mem h (by simp)⟩
/-- what is won on the fields is not too great -/
def PayWd (fs : List Fld) (f s : Int) : Prop := ∀ fl ∈ fs, ∀ x y : Int, 0 ≤ x → x ≤ f → 0 ≤ y → y ≤ s → Wd 8000 (paidV fl x y)
theorem pay_wd {fs : List Fld} {f s : Int} (h : ∀ x ∈ fs, FldSm x) : PayWd fs f s := by
  intro fl hf x y _ _ _ _
  have sm : ∀ {z : Int}, Sm z → Wd 110 z := fun {z} hz => by
    unfold Sm at hz
    unfold Wd
    omega
  have k := h fl hf
  refine Wd.mono (a := 110) ?_ (by decide)
  cases fl with
  | more w t =>
    show Wd 110 (if x = y then t else if x > y then w else 0 - w)
    split
    · exact sm k.2
    · split
      · exact sm k.1
      · exact (sm k.1).neg
  | lead w t =>
    show Wd 110 (if x ≥ y + t then w else 0 - w)
    split
    · exact sm k.1
    · exact (sm k.1).neg
  | tab rows =>
    show Wd 110 ((((rows[x.toNat]?).getD [])[y.toNat]?).getD 0)
    cases e : rows[x.toNat]? with
    | none => simp [Wd]
    | some r =>
      cases e2 : r[y.toNat]? with
      | none => simp [e2, Wd]
      | some z =>
        simp only [Option.getD_some, e2]
        exact sm (k r (List.mem_of_getElem? e) z (List.mem_of_getElem? e2))
/-- a stream's shape, as dues wants it -/
def StrS (h : Int) (n : Nat) (Ls : List (List Fl)) : Prop := Ls.length = n ∧ ∀ L ∈ Ls, L.length ≤ 1000 ∧ ∀ e ∈ L, 0 ≤ e.2.1 ∧ e.2.1 ≤ h ∧ Wd 1920 e.2.2
theorem StrG.s {h : Int} {n : Nat} {Ls : List (List Fl)} (g : StrG h n Ls) (w : wid (strD Ls) ≤ 1000) (b : (strD Ls).showable = true) : StrS h n Ls := by
  refine ⟨by have := g.ne.1; omega, fun L hL => ⟨?_, fun e he => ?_⟩⟩
  · rw [strD, wid] at w
    have h1 := widA_mem (List.mem_map_of_mem (f := rowD) hL)
    rw [rowD, wid, List.length_map] at h1
    omega
  · have k := (g.pre.rows L hL).ok e he
    exact ⟨k.1, by have := k.2.1; have := k.2.2.1; omega, sh_flows b L hL e he⟩
theorem str_inv {H : Hp} {v : V} {Ls : List (List Fl)} (h : Dq H v (strD Ls)) : ∃ a xs, v = .ref a ∧ H a = some (.lst xs) ∧ DqAll H xs (Ls.map rowD) := by
  obtain ⟨a, xs, rfl, h1, h2⟩ := h.list_inv
  exact ⟨a, xs, rfl, h1, h2⟩
theorem tab_inv {H : Hp} {v : V} {tb : List (List Int)} (h : Dq H v (tabD tb)) : ∃ a xs, v = .ref a ∧ H a = some (.lst xs) ∧ DqAll H xs (tb.map planD) := by
  obtain ⟨a, xs, rfl, h1, h2⟩ := h.list_inv
  exact ⟨a, xs, rfl, h1, h2⟩
theorem tab_at {H : Hp} {xs : List V} {tb : List (List Int)} {n w k : Nat} (q : DqAll H xs (tb.map planD)) (r : Rect tb n w) (hk : k < n) : ∃ p ms, xs[k]? = some (.ref p) ∧ H p = some (.lst (List.map V.int ms)) ∧ List.length ms = w ∧ ∀ y, y < w → ms[y]? = some (t2 tb k y) := by
  have hl : xs.length = tb.length := by rw [q.len, List.length_map]
  have hk' : k < xs.length := by rw [hl, r.len]; exact hk
  obtain ⟨ms, p, e1, e2, e3⟩ := row_at q (List.getElem?_eq_getElem hk')
  refine ⟨p, ms, by rw [List.getElem?_eq_getElem hk', e2], e3, r.rows _ (List.mem_of_getElem? e1), fun y hy => ?_⟩
  obtain ⟨r', f1, f2⟩ := r.get hk hy
  rw [e1] at f1
  cases f1
  exact f2
theorem DqAll.two {H : Hp} {xs : List V} {a b : PyData} (q : DqAll H xs [a, b]) : ∃ x y, xs = [x, y] ∧ Dq H x a ∧ Dq H y b := by
  cases q with
  | cons h q =>
    cases q with
    | cons h2 q => cases q; exact ⟨_, _, rfl, h, h2⟩
theorem inV2 {w a b : Str} (h1 : ¬ w = a) (h2 : ¬ w = b) : L2.inV (.str w) [.str a, .str b] = false := by
  have h1' : ¬ a = w := fun e => h1 e.symm
  have h2' : ¬ b = w := fun e => h2 e.symm
  simp [L2.inV, L2.eqV, h1', h2']
end Hf
/-! ## own lists of own lists of ints; reversed ranges -/
namespace Hf
open PySem PySem.Spec PyProof.Rows L2
structure Own2 (H : Hp) (T : Addr) (qs : List Addr) (tb : List (List Int)) : Prop where
  top : H T = some (.lst (qs.map V.ref))
  len : qs.length = tb.length
  row : ∀ (k : Nat) (q : Addr) (r : List Int), qs[k]? = some q → tb[k]? = some r → H q = some (.lst (r.map V.int))
  nd : qs.Nodup
  off : T ∉ qs
section
variable {H H' : Hp} {T : Addr} {qs : List Addr} {tb : List (List Int)}
theorem Own2.same (h : Own2 H T qs tb) (s : Same H H') : Own2 H' T qs tb := ⟨s _ _ h.top, h.len, fun k q r a b => s _ _ (h.row k q r a b), h.nd, h.off⟩
theorem Own2.dqA (h : Own2 H T qs tb) : DqAll H (qs.map V.ref) (tb.map planD) := by
  have key : ∀ (qs : List Addr) (tb : List (List Int)), qs.length = tb.length → (∀ (k : Nat) (q : Addr) (r : List Int), qs[k]? = some q → tb[k]? = some r → H q = some (.lst (r.map V.int))) → DqAll H (qs.map V.ref) (tb.map planD) := by
    intro qs
    induction qs with
    | nil =>
      intro tb h1 _
      cases tb with
      | nil => exact .nil
      | cons r tb => simp at h1
    | cons q qs ih =>
      intro tb h1 h2
      cases tb with
      | nil => simp at h1
      | cons r tb =>
        rw [List.map_cons, List.map_cons]
        refine .cons (row_mk (h2 0 q r rfl rfl)) (ih tb (by simpa using h1) fun k q' r' a b => h2 (k + 1) q' r' (by simpa using a) (by simpa using b))
  exact key qs tb h.len h.row
theorem Own2.dq (h : Own2 H T qs tb) : Dq H (.ref T) (tabD tb) := .lst h.top h.dqA
theorem Own2.lst (h : Own2 H T qs tb) : ∀ q ∈ qs, ∃ o, H q = some o := fun q hq => by
  obtain ⟨k, hk⟩ := List.mem_iff_getElem?.mp hq
  have hk' : k < tb.length := by rw [← h.len]; exact (List.getElem?_eq_some_iff.mp hk).1
  exact ⟨_, h.row k q _ hk (List.getElem?_eq_getElem hk')⟩
theorem Own2.set (h : Own2 H T qs tb) {k : Nat} {q : Addr} (e : qs[k]? = some q) (r' : List Int) : Own2 (upd H q (.lst (r'.map V.int))) T qs (tb.set k r') := by
  have hq : q ∈ qs := List.mem_of_getElem? e
  have hk : k < tb.length := by rw [← h.len]; exact (List.getElem?_eq_some_iff.mp e).1
  have hT : T ≠ q := fun z => h.off (by rw [z]; exact hq)
  refine ⟨by rw [upd_ne hT]; exact h.top, by rw [List.length_set]; exact h.len, fun j p r a b => ?_, h.nd, h.off⟩
  by_cases c : j = k
  · subst c
    rw [e] at a
    cases a
    rw [List.getElem?_set_self hk] at b
    cases b
    exact upd_same
  · rw [List.getElem?_set_ne (Ne.symm c)] at b
    have hp : p ≠ q := fun z => by
      subst z
      exact c (nodup_at h.nd a e)
    rw [upd_ne hp]
    exact h.row j p r a b
/-- what else changes -/
theorem Own2.but {p : Addr} (h : Own2 H T qs tb) (s : But p H H') (n : T ≠ p) (m : p ∉ qs) : Own2 H' T qs tb := ⟨s _ _ n h.top, h.len, fun k q r a b => s _ _ (fun z => m (by rw [← z]; exact List.mem_of_getElem? a)) (h.row k q r a b), h.nd, h.off⟩
end
section
variable {σ : L2.St} {H H1 : Hp} {Q : VK} {K : PySem.W.Frag} {D l : Addr} {g : TG} {tt : TT} {te : TE} {vs : List Nat} {xs : List V} {Qd : Hp → Prop} {lo : Int} {n : Nat}
theorem two_snoc {H H4 : Hp} {qs : List Addr} {q : Addr} {f : Nat → List Int} {i : Nat} {D : Addr} (hl : qs.length = i) (k : ∀ (k : Nat) (q : Addr), qs[k]? = some q → H q = some (.lst ((f k).map V.int))) (nd : qs.Nodup) (off : D ∉ qs) (nq : H q = none)
    (hD : H D = some (.lst (qs.map V.ref))) (hq : H4 q = some (.lst ((f i).map V.int))) (s : Same H H4) :
    (∀ (k : Nat) (p : Addr), (qs ++ [q])[k]? = some p → (upd H4 D (.lst (qs.map V.ref ++ [V.ref q]))) p = some (.lst ((f k).map V.int))) ∧ (qs ++ [q]).Nodup ∧ D ∉ qs ++ [q] := by
  have qD : q ≠ D := ne_new' nq hD
  have qn : q ∉ qs := fun z => by
    obtain ⟨j, hj⟩ := List.mem_iff_getElem?.mp z
    rw [k j q hj] at nq
    cases nq
  refine ⟨fun j p e => ?_, ?_, ?_⟩
  · by_cases c : j < qs.length
    · rw [List.getElem?_append_left c] at e
      have pD : p ≠ D := fun z => off (by rw [← z]; exact List.mem_of_getElem? e)
      rw [upd_ne pD]
      exact s _ _ (k j p e)
    · rw [List.getElem?_append_right (by omega)] at e
      have : j - qs.length = 0 := by
        have := (List.getElem?_eq_some_iff.mp e).1
        simp at this
        omega
      rw [this] at e
      cases e
      rw [show j = i by omega, upd_ne qD]
      exact hq
  · rw [List.nodup_append]
    exact ⟨nd, by simp, fun a ha b hb e => by rw [List.mem_singleton.mp hb] at e; exact qn (by rw [← e]; exact ha)⟩
  · intro z
    rcases List.mem_append.mp z with z | z
    · exact off z
    · exact qD (List.mem_singleton.mp z).symm
theorem own2_of {H : Hp} {qs : List Addr} {f : Nat → List Int} {n : Nat} {D : Addr} (hD : H D = some (.lst (qs.map V.ref))) (hl : qs.length = n) (k : ∀ (k : Nat) (q : Addr), qs[k]? = some q → H q = some (.lst ((f k).map V.int))) (nd : qs.Nodup) (off : D ∉ qs) : Own2 H D qs ((List.range n).map f) := by
  refine ⟨hD, by rw [List.length_map, List.length_range]; exact hl, fun j q r a b => ?_, nd, off⟩
  have hj : j < n := by rw [← hl]; exact (List.getElem?_eq_some_iff.mp a).1
  rw [List.getElem?_map, List.getElem?_range hj] at b
  cases b
  exact k j q a
theorem lcL_2d (f : Nat → List Int) (nD : H1 D = none) (hn : xs.length ≤ 1000000) (hx : SqL K H1 l xs)
    (hs : ∀ (i : Nat) (x : V) H (Z : VK) (Y : Hp → Prop), xs[i]? = some x → Same H1 H → (∀ q H4, H4 q = some (.lst ((f i).map V.int)) → H q = none → Same H H4 → Z (.ref q) H4) → LcTurn g tt te vs σ x H Z Y)
    (hd : ∀ qs H, Own2 H D qs ((List.range xs.length).map f) → (∀ q ∈ qs, H1 q = none) → Same H1 H → Qd H) :
    ∃ W : Nat → Nat → Hp → Prop, (∃ m, W 0 m (upd H1 D (.lst []))) ∧ ∀ i m H, W i m H →
      ((Itl K l).stop i H ∧ Qd H) ∨ ((Itl K l).go i H ∧ ∃ Nx : Hp → Prop, (∀ H', Nx H' → ∃ m', m' < m ∧ W (i + 1) m' H') ∧ ∀ x H', (Itl K l).yld i H x H' → g x (wipe σ vs) H' fun σ2 H2 => wipe σ2 vs = wipe σ vs ∧ tt σ2 H2 fun b H3 =>
        if b = true then te σ2 H3 fun y H4 => ∃ acc, H4 D = some (.lst acc) ∧ acc.length < sizeLine ∧ Nx (upd H4 D (.lst (acc ++ [y]))) else Nx H3) := by
  refine lcL (xs := xs) (fun i acc H => ∃ qs : List Addr, acc = qs.map V.ref ∧ qs.length = i ∧ (∀ (k : Nat) (q : Addr), qs[k]? = some q → H q = some (.lst ((f k).map V.int))) ∧ qs.Nodup ∧ D ∉ qs ∧ (∀ q ∈ qs, H1 q = none) ∧ Same H1 H) nD ⟨[], rfl, rfl, by simp, List.nodup_nil, by simp, nofun, Same.new nD⟩ (fun i acc H _ q _ => by obtain ⟨_, _, _, _, _, _, _, s⟩ := q; exact s.seq hx) ?_ ?_
  · rintro i x acc H Z Y hi ⟨qs, rfl, h1, h2, h3, h4, h5, h6⟩ hD hz _
    have hi' : i < xs.length := (List.getElem?_eq_some_iff.mp hi).1
    refine hs i x H Z Y hi h6 fun q H4 k1 k2 k3 => ?_
    obtain ⟨t1, t2, t3⟩ := two_snoc h1 h2 h3 h4 k2 hD k1 k3
    refine hz _ _ (k3 _ _ hD) (sz4' (by rw [List.length_map]; omega)) ⟨qs ++ [q], by rw [List.map_append]; rfl, by rw [List.length_append, h1]; rfl, t1, t2, t3, fun p hp => ?_, Same.mut (h6.trans k3) nD⟩
    rcases List.mem_append.mp hp with z | z
    · exact h5 p z
    · rw [List.mem_singleton.mp z]; exact h6.free k2
  · rintro acc H ⟨qs, rfl, h1, h2, h3, h4, h5, h6⟩ hD
    exact hd qs H (own2_of hD h1 h2 h3 h4) h5 h6
theorem lcR_2d (f : Nat → List Int) (nD : H1 D = none) (hn : n ≤ 1000000)
    (hs : ∀ (i : Nat) H (Z : VK) (Y : Hp → Prop), i < n → Same H1 H → (∀ q H4, H4 q = some (.lst ((f i).map V.int)) → H q = none → Same H H4 → Z (.ref q) H4) → LcTurn g tt te vs σ (.int (lo + i)) H Z Y)
    (hd : ∀ qs H, Own2 H D qs ((List.range n).map f) → (∀ q ∈ qs, H1 q = none) → Same H1 H → Qd H) :
    ∃ W : Nat → Nat → Hp → Prop, (∃ m, W 0 m (upd H1 D (.lst []))) ∧ ∀ i m H, W i m H →
      ((Itr lo n).stop i H ∧ Qd H) ∨ ((Itr lo n).go i H ∧ ∃ Nx : Hp → Prop, (∀ H', Nx H' → ∃ m', m' < m ∧ W (i + 1) m' H') ∧ ∀ x H', (Itr lo n).yld i H x H' → g x (wipe σ vs) H' fun σ2 H2 => wipe σ2 vs = wipe σ vs ∧ tt σ2 H2 fun b H3 =>
        if b = true then te σ2 H3 fun y H4 => ∃ acc, H4 D = some (.lst acc) ∧ acc.length < sizeLine ∧ Nx (upd H4 D (.lst (acc ++ [y]))) else Nx H3) := by
  refine lcR (fun i acc H => ∃ qs : List Addr, acc = qs.map V.ref ∧ qs.length = i ∧ (∀ (k : Nat) (q : Addr), qs[k]? = some q → H q = some (.lst ((f k).map V.int))) ∧ qs.Nodup ∧ D ∉ qs ∧ (∀ q ∈ qs, H1 q = none) ∧ Same H1 H) nD ⟨[], rfl, rfl, by simp, List.nodup_nil, by simp, nofun, Same.new nD⟩ ?_ ?_
  · rintro i acc H Z Y hi ⟨qs, rfl, h1, h2, h3, h4, h5, h6⟩ hD hz _
    refine hs i H Z Y hi h6 fun q H4 k1 k2 k3 => ?_
    obtain ⟨t1, t2, t3⟩ := two_snoc h1 h2 h3 h4 k2 hD k1 k3
    refine hz _ _ (k3 _ _ hD) (sz4' (by rw [List.length_map]; omega)) ⟨qs ++ [q], by rw [List.map_append]; rfl, by rw [List.length_append, h1]; rfl, t1, t2, t3, fun p hp => ?_, Same.mut (h6.trans k3) nD⟩
    rcases List.mem_append.mp hp with z | z
    · exact h5 p z
    · rw [List.mem_singleton.mp z]; exact h6.free k2
  · rintro acc H ⟨qs, rfl, h1, h2, h3, h4, h5, h6⟩ hD
    exact hd qs H (own2_of hD h1 h2 h3 h4) h5 h6
end
/-! ### for over a reversed range -/
section
variable {σ : L2.St} {H : Hp} {Q : VK} {nx bk ct : L2.St → Hp → Prop} {rt : VK} {g : TG} {tb : TS} {lo c : Int} {n : Nat}
theorem forC (Pv : Nat → L2.St → Hp → Prop) (h0 : Pv 0 σ H) (hd : ∀ σ H, Pv n σ H → nx σ H)
    (hs : ∀ (i : Nat) σ H, i < n → Pv i σ H → g (.int (lo + (i : Nat) * c)) σ H fun σ2 H2 => tb ⟨Pv (i + 1), rt, nx, Pv (i + 1)⟩ σ2 H2) :
    ∃ W : Nat → Nat → L2.St → Hp → Prop, (∃ m, W 0 m σ H) ∧ ∀ i m σ H, W i m σ H →
      ((Itc lo c n).stop i H ∧ nx σ H) ∨ ((Itc lo c n).go i H ∧ ∃ N : L2.St → Hp → Prop, (∀ σ' H', N σ' H' → ∃ m', m' < m ∧ W (i + 1) m' σ' H') ∧ ∀ x H', (Itc lo c n).yld i H x H' → g x σ H' fun σ2 H2 => tb ⟨N, rt, nx, N⟩ σ2 H2) :=
  for_rangeC (D := ⟨nx, rt, fun _ _ => False, fun _ _ => False⟩) Pv h0 hs hd
theorem i_revRg {tr : L2.St → Hp → (Int → Int → Hp → Prop) → Prop} {R : It → Hp → Prop} (h : tr σ H fun a b H1 => -(2 ^ 62) ≤ a ∧ a < 2 ^ 62 ∧ -(2 ^ 62) ≤ b ∧ b < 2 ^ 62 ∧ R (Itc (a + (((b - a).toNat : Nat) : Int) - 1) (-1) (b - a).toNat) H1) : iRevR tr σ H R := h
theorem i_revRg' {i j : Int} {A : Prop} (h0 : -(2 ^ 62) ≤ i) (h1 : i < 2 ^ 62) (h2 : -(2 ^ 62) ≤ j) (h3 : j < 2 ^ 62) (q : A) : -(2 ^ 62) ≤ i ∧ i < 2 ^ 62 ∧ -(2 ^ 62) ≤ j ∧ j < 2 ^ 62 ∧ A := ⟨h0, h1, h2, h3, q⟩
end
theorem Own2.hid {H : Hp} {T : Addr} {qs : List Addr} {tb : List (List Int)} {X : List Addr} (h : Own2 H T qs tb) (n : T ∉ X) (m : ∀ q ∈ qs, q ∉ X) : Own2 (hid X H) T qs tb := ⟨hid_lk n h.top, h.len, fun k q r a b => hid_lk (m q (List.mem_of_getElem? a)) (h.row k q r a b), h.nd, h.off⟩
theorem hid_ext {H H1 : Hp} {S X : List Addr} (s : Same H H1) (h : ∀ b ∈ X, b ∈ S ∨ H b = none) : Same (hid S H) (hid X H1) := fun b o e => by
  by_cases c : b ∈ S
  · rw [hid_in c] at e
    cases e
  · rw [hid_out c] at e
    have n : b ∉ X := fun z => by
      rcases h b z with z | z
      · exact c z
      · rw [z] at e; cases e
    exact hid_lk n (s b o e)
theorem Pk.ne' {a r : Addr} {m c0 : Int} {H : Hp} (h : Hf.Pk a m H c0) (n : H r = none) : r ≠ a := Hf.Pk.ne n h
theorem hid_new {H : Hp} {X : List Addr} {p : Addr} {o : HO} (n : H p = none) : Same (hid X H) (hid X (L2.upd H p o)) := hid_mono (Same.new n)
theorem hid_mut {S : List Addr} {G H : Hp} {q : Addr} {o : HO} (s : Same G (hid S H)) (n : G q = none) : Same G (hid S (L2.upd H q o)) := fun b u e => by
  have h := s b u e
  have bq : b ≠ q := ne_of_none e n
  by_cases c : b ∈ S
  · rw [hid_in c] at h
    cases h
  · rw [hid_out c] at h
    exact hid_lk c (lk_upd bq h)
end Hf
/-! ## a purse of cells: two places -/
namespace Hf
open PySem PySem.Spec PyProof.Rows L2
def Pc (p c : Addr) (H : Hp) (z0 : Int) : Prop := ∃ (ns : List Int) (z : Int), H p = some (.lst [.ref c, .int z]) ∧ H c = some (.lst (ns.map V.int)) ∧ p ≠ c ∧ (1 ≤ ns.length ∧ ns.length ≤ 63) ∧ 0 ≤ z ∧ z ≤ z0
section
variable {p c r b : Addr} {z0 z1 : Int} {H H' H1 G : Hp} {o : HO}
theorem Pc.mono (h : Pc p c H z0) (e : z0 ≤ z1) : Pc p c H z1 := by
  obtain ⟨ns, z, h1, h2, h3, h4, h5, h6⟩ := h
  exact ⟨ns, z, h1, h2, h3, h4, h5, by omega⟩
theorem Pc.cast (h : Pc p c H z0) (e : z0 = z1) : Pc p c H z1 := e ▸ h
theorem Pc.same (h : Pc p c H z0) (s : Same H H') : Pc p c H' z0 := by
  obtain ⟨ns, z, h1, h2, h3⟩ := h
  exact ⟨ns, z, s _ _ h1, s _ _ h2, h3⟩
theorem Pc.new (h : Pc p c H z0) (hp : H r = none) : Pc p c (L2.upd H r o) z0 := h.same (Same.new hp)
theorem Pc.upd (h : Pc p c H z0) (n1 : r ≠ p) (n2 : r ≠ c) : Pc p c (L2.upd H r o) z0 := by
  obtain ⟨ns, z, h1, h2, h3⟩ := h
  exact ⟨ns, z, by rw [upd_ne n1.symm]; exact h1, by rw [upd_ne n2.symm]; exact h2, h3⟩
theorem Pc.but (h : Pc p c H z0) (s : But r H H') (n1 : r ≠ p) (n2 : r ≠ c) : Pc p c H' z0 := by
  obtain ⟨ns, z, h1, h2, h3⟩ := h
  exact ⟨ns, z, s _ _ n1.symm h1, s _ _ n2.symm h2, h3⟩
theorem Pc.newT (hp : H r = none) (h : Pc p c H z0) : Pc p c (L2.upd H r o) z0 := h.new hp
theorem Pc.sameT (s : Same H H') (h : Pc p c H z0) : Pc p c H' z0 := h.same s
theorem Pc.ne1 (h : Pc p c H z0) (n : H r = none) : r ≠ p := by
  obtain ⟨_, _, h1, h2, _⟩ := h
  exact (ne_of_none h1 n).symm
theorem Pc.ne2 (h : Pc p c H z0) (n : H r = none) : r ≠ c := by
  obtain ⟨_, _, h1, h2, _⟩ := h
  exact (ne_of_none h2 n).symm
theorem Pc.ne1' (n : H r = none) (h : Pc p c H z0) : r ≠ p := h.ne1 n
theorem Pc.ne2' (n : H r = none) (h : Pc p c H z0) : r ≠ c := h.ne2 n
theorem Pc.free (hn : H' r = none) (e : But2 p c H H') (h : Pc p c H' z0) : H r = none := by
  obtain ⟨_, _, h1, h2, _⟩ := h
  exact But2.free hn e h1 h2
theorem Newly.pc1 (n : Newly H G) (h : Pc p c H z0) : G p = none := by
  obtain ⟨_, _, h1, h2, _⟩ := h
  exact n.free h1
theorem Newly.pc2 (n : Newly H G) (h : Pc p c H z0) : G c = none := by
  obtain ⟨_, _, h1, h2, _⟩ := h
  exact n.free h2
theorem fr_butC {S : List Addr} {H2 : Hp} (h : Pc p c H z0) (s : But2 p c H1 H2) : Same (fr S H H1) (fr S H H2) := by
  obtain ⟨_, _, h1, h2, _⟩ := h
  intro b u e
  unfold fr at e ⊢
  by_cases cb : b ∈ S
  · rw [if_pos cb] at e
    cases e
  · rw [if_neg cb] at e ⊢
    cases hb : H b with
    | some w => rw [hb] at e; cases e
    | none =>
      rw [hb] at e
      exact s b u (ne_of_none h1 hb).symm (ne_of_none h2 hb).symm e
theorem Newly.backC (n : Newly H1 G) (s : But2 p c H H1) (h : Pc p c H1 z0) : Newly H G := fun b o e => by
  by_cases c1 : b = p
  · rw [c1]; exact n.pc1 h
  · by_cases c2 : b = c
    · rw [c2]; exact n.pc2 h
    · exact n b o (s b o c1 c2 e)
theorem hid_but2 {H2 : Hp} (s : But2 p c H1 H2) : Same (hid [p, c] H1) (hid [p, c] H2) := fun b u e => by
  by_cases cb : b ∈ [p, c]
  · rw [hid_in cb] at e
    cases e
  · rw [hid_out cb] at e ⊢
    rw [List.mem_cons, List.mem_singleton, not_or] at cb
    exact s b u cb.1 cb.2 e
end
section
variable {σ : L2.St} {H H1 : Hp} {Q : VK} {K : PySem.W.Frag} {D p c l : Addr} {wi : TI} {g : TG} {tt : TT} {te : TE} {vs : List Nat} {lo : Int} {n : Nat} {xs : List V} {Qd : Hp → Prop}
theorem lcR_pc {c0 : Int} (Pz : Int → Prop) (inc : Int) (hp : Pc p c H1 c0) (nD : H1 D = none) (hn : n ≤ 1000000)
    (hs : ∀ (i : Nat) H (Z : VK) (Y : Hp → Prop), i < n → Pc p c H (c0 + inc * (i : Int)) → But2 p c H1 H → (∀ z H4, Pz z → Pc p c H4 (c0 + inc * (i : Int) + inc) → But2 p c H H4 → Z (.int z) H4) → LcTurn g tt te vs σ (.int (lo + i)) H Z Y)
    (hd : ∀ (ms : List Int) H, ms.length = n → (∀ z ∈ ms, Pz z) → H D = some (.lst (ms.map V.int)) → Pc p c H (c0 + inc * (n : Int)) → But2 p c H1 H → Qd H) :
    ∃ W : Nat → Nat → Hp → Prop, (∃ m, W 0 m (upd H1 D (.lst []))) ∧ ∀ i m H, W i m H →
      ((Itr lo n).stop i H ∧ Qd H) ∨ ((Itr lo n).go i H ∧ ∃ Nx : Hp → Prop, (∀ H', Nx H' → ∃ m', m' < m ∧ W (i + 1) m' H') ∧ ∀ x H', (Itr lo n).yld i H x H' → g x (wipe σ vs) H' fun σ2 H2 => wipe σ2 vs = wipe σ vs ∧ tt σ2 H2 fun b H3 =>
        if b = true then te σ2 H3 fun y H4 => ∃ acc, H4 D = some (.lst acc) ∧ acc.length < sizeLine ∧ Nx (upd H4 D (.lst (acc ++ [y]))) else Nx H3) := by
  have hDp : D ≠ p := hp.ne1 nD
  have hDc : D ≠ c := hp.ne2 nD
  refine lcR (fun i acc H => ∃ ms : List Int, acc = ms.map V.int ∧ ms.length = i ∧ (∀ z ∈ ms, Pz z) ∧ Pc p c H (c0 + inc * (i : Int)) ∧ But2 p c H1 H) nD ⟨[], rfl, rfl, nofun, (hp.new nD).cast (by simp), But2.newT nD (But2.refl _ _ _)⟩ ?_ ?_
  · rintro i acc H Z Y hi ⟨ms, rfl, h1, h2, h3, h4⟩ hD hz _
    refine hs i H Z Y hi h3 h4 fun z H4 k1 k2 k3 => hz _ _ (k3 _ _ hDp hDc hD) (sz4' (by rw [List.length_map]; omega)) ⟨ms ++ [z], by rw [List.map_append]; rfl, by rw [List.length_append, h1]; rfl, ?_, (k2.upd hDp hDc).cast inc_snoc, ?_⟩
    · intro x hx
      rcases List.mem_append.mp hx with e | e
      · exact h2 x e
      · rw [List.mem_singleton.mp e]; exact k1
    · intro b o hb hb2 e
      have := k3 _ _ hb hb2 (h4 _ _ hb hb2 e)
      rw [upd_ne (ne_of_none e nD)]
      exact this
  · rintro acc H ⟨ms, rfl, h1, h2, h3, h4⟩ hD
    exact hd ms H h1 h2 hD h3 h4
theorem lcR_dc {α : Type} {c0 : Int} (F : α → PyData) (Pz : α → Prop) (inc : Int) (hp : Pc p c H1 c0) (nD : H1 D = none) (hn : n ≤ 1000000)
    (hs : ∀ (i : Nat) H (Z : VK) (Y : Hp → Prop), i < n → Pc p c H (c0 + inc * (i : Int)) → But2 p c H1 H → (∀ x v G H4, Pz x → Dq G v (F x) → Newly H G → Same G H4 → Pc p c H4 (c0 + inc * (i : Int) + inc) → But2 p c H H4 → Z v H4) → LcTurn g tt te vs σ (.int (lo + i)) H Z Y)
    (hd : ∀ (xs : List α) G H, xs.length = n → (∀ x ∈ xs, Pz x) → Dq G (.ref D) (.list (xs.map F)) → Newly H1 G → Same G H → Pc p c H (c0 + inc * (n : Int)) → But2 p c H1 H → Qd H) :
    ∃ W : Nat → Nat → Hp → Prop, (∃ m, W 0 m (upd H1 D (.lst []))) ∧ ∀ i m H, W i m H →
      ((Itr lo n).stop i H ∧ Qd H) ∨ ((Itr lo n).go i H ∧ ∃ Nx : Hp → Prop, (∀ H', Nx H' → ∃ m', m' < m ∧ W (i + 1) m' H') ∧ ∀ x H', (Itr lo n).yld i H x H' → g x (wipe σ vs) H' fun σ2 H2 => wipe σ2 vs = wipe σ vs ∧ tt σ2 H2 fun b H3 =>
        if b = true then te σ2 H3 fun y H4 => ∃ acc, H4 D = some (.lst acc) ∧ acc.length < sizeLine ∧ Nx (upd H4 D (.lst (acc ++ [y]))) else Nx H3) := by
  have hDp : D ≠ p := hp.ne1 nD
  have hDc : D ≠ c := hp.ne2 nD
  refine lcR (fun i acc H => ∃ xs : List α, DqAll (fr [D] H1 H) acc (xs.map F) ∧ xs.length = i ∧ (∀ x ∈ xs, Pz x) ∧ Pc p c H (c0 + inc * (i : Int)) ∧ But2 p c H1 H) nD ⟨[], .nil, rfl, nofun, (hp.new nD).cast (by simp), But2.newT nD (But2.refl _ _ _)⟩ ?_ ?_
  · rintro i acc H Z Y hi ⟨xs, h0, h1, h2, h3, h4⟩ hD hz _
    refine hs i H Z Y hi h3 h4 fun x v G H4 k1 k2 k3 k4 k5 k6 => ?_
    have gD : G D = none := k3.free hD
    refine hz _ _ (k6 _ _ hDp hDc hD) (sz4' (by rw [h0.len, List.length_map]; omega)) ⟨xs ++ [x], ?_, by rw [List.length_append, h1]; rfl, ?_, (k5.upd hDp hDc).cast inc_snoc, ?_⟩
    · rw [List.map_append]
      exact DqAll.snoc ((h0.same (fr_butC hp k6)).same (fr_upd (by simp))) (k2.same (Newly.same1 (k3.backC h4 h3) (Same.mut k4 gD) gD))
    · intro y hy
      rcases List.mem_append.mp hy with e | e
      · exact h2 y e
      · rw [List.mem_singleton.mp e]; exact k1
    · intro b o hb hb2 e
      have := k6 _ _ hb hb2 (h4 _ _ hb hb2 e)
      rw [upd_ne (ne_of_none e nD)]
      exact this
  · rintro acc H ⟨xs, h0, h1, h2, h3, h4⟩ hD
    exact hd xs (fr [] H1 H) H h1 h2 (.lst (fr_lk0 nD hD) (h0.same fr_sub)) fr_newly fr_same h3 h4
end
end Hf
namespace K43
open PySem PySem.Spec PyProof.Rows L2 Hf
local macro_rules | `(tactic| walk_at "g_ne") => `(tactic| first | (with_reducible assumption) | (apply Hf.ne_at; (with_reducible assumption)) | ((with_reducible refine' Hf.ne_new ?n9 ?h9); (case n9 => (with_reducible assumption)); (case h9 => walk_at "g_lk")) | ((with_reducible refine' Hf.ne_new' ?n9 ?h9); (case n9 => (with_reducible assumption)); (case h9 => walk_at "g_lk")) | fail "g_ne")
local macro_rules | `(tactic| walk_at "g_lk") => `(tactic| first | (with_reducible assumption) | (with_reducible exact L2.upd_same) | ((with_reducible refine' Hf.lk_new ?n9 ?h9); (case n9 => (with_reducible assumption)); (case h9 => walk_at "g_lk")) | ((with_reducible refine' Hf.lk_updG ?g9 ?n9 ?h9); (case g9 => ((fail_if_success ((apply Hf.Guard.of); (with_reducible assumption))); exact trivial)); (case n9 => walk_at "g_ne"); (case h9 => walk_at "g_lk")) | ((with_reducible refine' Hf.lk_same ?n9 ?h9); (case n9 => (with_reducible assumption)); (case h9 => walk_at "g_lk")) | ((with_reducible refine' Hf.lk_but ?m9 ?n9 ?h9); (case m9 => (with_reducible assumption)); (case n9 => walk_at "g_ne"); (case h9 => walk_at "g_lk")) | ((with_reducible refine' Hf.lk_but2 ?m9 ?n9 ?n8 ?h9); (case m9 => (with_reducible assumption)); (case n9 => walk_at "g_ne"); (case n8 => walk_at "g_ne"); (case h9 => walk_at "g_lk")) | fail "g_lk")
local macro_rules | `(tactic| walk_at "g_sq") => `(tactic| first | (with_reducible assumption) | (with_reducible exact L2.SqL.of L2.upd_same) | (with_reducible exact L2.SqT.of L2.upd_same) | (with_reducible exact L2.SqL.of (by with_reducible assumption)) | (with_reducible exact L2.SqT.of (by with_reducible assumption)) | ((with_reducible refine' Hf.lkL_new ?n9 ?h9); (case n9 => (with_reducible assumption)); (case h9 => walk_at "g_sq")) | ((with_reducible refine' Hf.lkT_new ?n9 ?h9); (case n9 => (with_reducible assumption)); (case h9 => walk_at "g_sq")) | ((with_reducible refine' Hf.lkL_updG ?g9 ?n9 ?h9); (case g9 => ((fail_if_success ((apply Hf.Guard.of); (with_reducible assumption))); exact trivial)); (case n9 => walk_at "g_ne"); (case h9 => walk_at "g_sq")) | ((with_reducible refine' Hf.lkT_updG ?g9 ?n9 ?h9); (case g9 => ((fail_if_success ((apply Hf.Guard.of); (with_reducible assumption))); exact trivial)); (case n9 => walk_at "g_ne"); (case h9 => walk_at "g_sq")) | ((with_reducible refine' L2.Same.seq ?n9 ?h9); (case n9 => (with_reducible assumption)); (case h9 => walk_at "g_sq")) | ((with_reducible refine' Hf.Same.seqT ?n9 ?h9); (case n9 => (with_reducible assumption)); (case h9 => walk_at "g_sq")) | ((with_reducible refine' Hf.But.seq ?m9 ?n9 ?h9); (case m9 => (with_reducible assumption)); (case n9 => walk_at "g_ne"); (case h9 => walk_at "g_sq")) | ((with_reducible refine' Hf.But.seqT ?m9 ?n9 ?h9); (case m9 => (with_reducible assumption)); (case n9 => walk_at "g_ne"); (case h9 => walk_at "g_sq")) | ((with_reducible refine' Hf.But2.seq ?m9 ?n9 ?n8 ?h9); (case m9 => (with_reducible assumption)); (case n9 => walk_at "g_ne"); (case n8 => walk_at "g_ne"); (case h9 => walk_at "g_sq")) | ((with_reducible refine' Hf.But2.seqT ?m9 ?n9 ?n8 ?h9); (case m9 => (with_reducible assumption)); (case n9 => walk_at "g_ne"); (case n8 => walk_at "g_ne"); (case h9 => walk_at "g_sq")) | fail "g_sq")
local macro_rules | `(tactic| walk_at "g_but") => `(tactic| first | (with_reducible exact Hf.But.refl _ _) | (with_reducible assumption) | (with_reducible refine Hf.But.newT (by with_reducible assumption) ?_; walk_at "g_but") | (with_reducible refine Hf.But.upd ?_; walk_at "g_but") | (with_reducible refine Hf.But.transT (by with_reducible assumption) ?_; walk_at "g_but") | (with_reducible refine Hf.But.transS (by with_reducible assumption) ?_; walk_at "g_but") | fail "g_but")
local macro_rules | `(tactic| walk_at "g_but2") => `(tactic| first | (with_reducible exact Hf.But2.refl _ _ _) | (with_reducible assumption) | (with_reducible refine Hf.But2.newT (by with_reducible assumption) ?_; walk_at "g_but2") | (with_reducible refine Hf.But2.updL ?_; walk_at "g_but2") | (with_reducible refine Hf.But2.updR ?_; walk_at "g_but2") | (with_reducible refine Hf.But2.transT (by with_reducible assumption) ?_; walk_at "g_but2") | (with_reducible refine Hf.But2.transS (by with_reducible assumption) ?_; walk_at "g_but2") | (with_reducible refine Hf.But2.transL (by with_reducible assumption) ?_; walk_at "g_but2") | (with_reducible refine Hf.But2.transR (by with_reducible assumption) ?_; walk_at "g_but2") | (with_reducible refine Hf.But2.mut (by with_reducible assumption) ?_; walk_at "g_but2") | (with_reducible refine Hf.But2.butT (by with_reducible assumption) (by with_reducible assumption) ?_; walk_at "g_but2") | fail "g_but2")
local macro_rules | `(tactic| walk_at "g_same") => `(tactic| first | (with_reducible exact L2.Same.refl _) | (with_reducible assumption) | (with_reducible refine Hf.Same.newT' (by with_reducible assumption) ?_; walk_at "g_same") | (with_reducible refine Hf.Same.mut ?_ (by walk_at "g_free"); walk_at "g_same") | (with_reducible refine Hf.Same.butT (by with_reducible assumption) (by walk_at "g_free") ?_; walk_at "g_same") | (with_reducible refine Hf.Same.but2T (by with_reducible assumption) (by walk_at "g_free") (by walk_at "g_free") ?_; walk_at "g_same") | (with_reducible refine Hf.Same.transT (by with_reducible assumption) ?_; walk_at "g_same") | fail "g_same")
local macro_rules | `(tactic| walk_at "g_free") => `(tactic| first | (with_reducible assumption) | ((with_reducible refine' Hf.Same.free' (by with_reducible assumption) ?h7); (case h7 => walk_at "g_same")) | ((with_reducible refine' Hf.But.free (by with_reducible assumption) ?h7 ?h8); (case h7 => walk_at "g_but"); (case h8 => walk_at "g_lk")) | ((with_reducible refine' Hf.But2.free (by with_reducible assumption) ?h7 ?h8 ?h6); (case h7 => walk_at "g_but2"); (case h8 => walk_at "g_lk"); (case h6 => walk_at "g_lk")) | fail "g_free")
local macro_rules | `(tactic| walk_at "g_set") => `(tactic| first | (with_reducible exact Hf.set_n0) | (with_reducible exact Hf.set_n1) | (with_reducible exact Hf.set_n2) | (with_reducible exact Hf.set_n3) | (with_reducible exact Hf.set_n4) | (with_reducible exact Hf.set_n5) | (with_reducible exact Hf.set_n6) | (with_reducible exact Hf.set_n7) | (with_reducible exact Hf.set_n8) | (with_reducible exact Hf.set_n9) | (with_reducible exact Hf.set_n10) | (with_reducible exact Hf.set_n11) | (with_reducible exact Hf.set_n12) | (with_reducible exact Hf.set_n13) | (with_reducible exact Hf.set_n14) | (with_reducible exact Hf.set_n15) | (with_reducible exact Hf.set_n16) | (with_reducible exact Hf.set_n17) | (with_reducible exact Hf.set_n18) | (with_reducible exact Hf.set_n19) | (with_reducible exact Hf.set_n20) | (with_reducible exact Hf.set_n21) | (with_reducible exact Hf.set_n22) | (with_reducible exact Hf.set_n23) | (with_reducible exact Hf.set_n24) | (with_reducible exact Hf.set_n25) | (with_reducible exact Hf.set_n26) | (with_reducible exact Hf.set_n27) | (with_reducible exact Hf.set_n28) | (with_reducible exact Hf.set_n29) | fail "g_set")
local macro_rules | `(tactic| walk_at "g_sz") => `(tactic| first | exact Hf.sz4 (by decide) | exact Hf.sz4' (by decide) | (refine Hf.sz4 ?_; simp; done) | (refine Hf.sz4 ?_; simp; omega) | (refine Hf.sz4 ?_; simp only [List.length_cons, List.length_nil, List.length_take, List.length_drop, List.length_map, List.length_append, List.length_replicate]; omega) | (refine Hf.sz4' ?_; simp; omega) | (refine Hf.sz4' ?_; omega) | (refine Hf.sz4 ?_; omega) | fail "g_sz")
local macro_rules | `(tactic| walk_at "g_at") => `(tactic| first | rfl | assumption | fail "g_at")
local macro_rules | `(tactic| walk_at "g_c") => `(tactic| first | assumption | omega | decide | (refine Hf.mulL ?_; omega) | (refine Hf.mulR ?_; omega) | (refine Hf.divS ?_ ?_ <;> omega) | (refine Hf.mulL ?_; split <;> omega) | (refine ⟨?_, ?_, ?_⟩ <;> first | omega | decide) | (refine ⟨?_, ?_⟩ <;> first | assumption | omega) | fail "g_c")
local macro_rules | `(tactic| walk_at "g_ixn") => `(tactic| first | (show L2.ixN _ _ = some 0; rfl) | (show L2.ixN _ _ = some 1; rfl) | (show L2.ixN _ _ = some 2; rfl) | (show L2.ixN _ _ = some 3; rfl) | (show L2.ixN _ _ = some 4; rfl) | (show L2.ixN _ _ = some 5; rfl) | (show L2.ixN _ _ = some 6; rfl) | (show L2.ixN _ _ = some 7; rfl) | assumption | fail "g_ixn")
local macro_rules | `(tactic| walk_at "g_pow") => `(tactic| first | (show (10 : Int) ^ (9 : Int).toNat = 1000000000; rfl) | (show (10 : Int) ^ (18 : Int).toNat = 1000000000000000000; rfl) | (show (10 : Int) ^ (20 : Int).toNat = 100000000000000000000; rfl) | (show (10 : Int) ^ (29 : Int).toNat = 100000000000000000000000000000; rfl) | (show (10 : Int) ^ (26 : Int).toNat = 100000000000000000000000000; rfl) | (show (10 : Int) ^ (10 : Int).toNat = 10000000000; rfl) | (show (10 : Int) ^ (19 : Int).toNat = 10000000000000000000; rfl) | (show (10 : Int) ^ (27 : Int).toNat = 1000000000000000000000000000; rfl) | (show (10 : Int) ^ (28 : Int).toNat = 10000000000000000000000000000; rfl) | (show (10 : Int) ^ (25 : Int).toNat = 10000000000000000000000000; rfl) | (show (10 : Int) ^ (30 : Int).toNat = 1000000000000000000000000000000; rfl) | (show (10 : Int) ^ (2 : Int).toNat = 100; rfl) | (show (10 : Int) ^ (3 : Int).toNat = 1000; rfl) | (show (_ : Int) ^ (3 : Int).toNat = _; rfl) | fail "g_pow")
local macro_rules | `(tactic| walk_at "g_ty") => `(tactic| first | exact .base .non | exact .base (.bl _) | exact .base (.int _) | exact .base (.str _) | exact .base (.lst (by walk_at "g_lk")) | exact .base (.tup (by walk_at "g_lk")) | exact .base (.dK (by walk_at "g_lk")) | exact .base (.dT (by walk_at "g_lk")) | fail "g_ty")
local macro_rules | `(tactic| walk_at "g_pre") => `(tactic| first | (with_reducible assumption) | walk_at "g_lk" | walk_at "g_sq" | walk_at "g_but" | walk_at "g_but2" | walk_at "g_same" | walk_at "g_free" | omega | (refine ⟨?_, ?_⟩ <;> omega) | exact .inl (by omega) | exact .inr (by omega) | (with_reducible assumption) | fail "g_pre")
local macro_rules | `(tactic| walk_at "g_call") => `(tactic| fail "g_call: no rule")
local macro_rules | `(tactic| walk_at "g_val") => `(tactic| first
  | (with_reducible refine' Hf.i_I0 ?_)
  | ((with_reducible refine' Hf.i_pow ?k1 ?k2 ?_); (case k1 => walk_at "g_c"); (case k2 => walk_at "g_pow"))
  | ((with_reducible refine' Hf.i_I ?k1 ?_); (case k1 => walk_at "g_c"))
  | (with_reducible refine' Hf.i_U ?_)
  | (with_reducible refine' Hf.i_eqI ?_)
  | (with_reducible refine' Hf.i_neI ?_)
  | (with_reducible refine' Hf.i_eqB ?_)
  | (with_reducible refine' Hf.i_neB ?_)
  | (with_reducible refine' Hf.i_eqS ?_)
  | (with_reducible refine' Hf.i_neS ?_)
  | ((with_reducible refine' Hf.i_ixL ?k1 ?k2 ?_); (case k1 => walk_at "g_sq"); (case k2 => walk_at "g_at"))
  | ((with_reducible refine' Hf.i_ixT ?k1 ?k2 ?_); (case k1 => walk_at "g_sq"); (case k2 => walk_at "g_at"))
  | ((with_reducible refine' Hf.i_ix2I ?k1 ?k2 ?k3 ?_); (case k1 => walk_at "g_sq"); (case k2 => omega); (case k3 => omega); intro _ _)
  | ((with_reducible refine' Hf.i_ix3I ?k1 ?k2 ?k3 ?_); (case k1 => walk_at "g_sq"); (case k2 => omega); (case k3 => omega); intro _ _)
  | ((with_reducible refine' Hf.i_ix4I ?k1 ?k2 ?k3 ?_); (case k1 => walk_at "g_sq"); (case k2 => omega); (case k3 => omega); intro _ _)
  | ((with_reducible refine' Hf.i_ix3R ?k1 ?k2 ?k3 ?_); (case k1 => walk_at "g_sq"); (case k2 => omega); (case k3 => omega); intro _ _)
  | ((with_reducible refine' Hf.i_ix4R ?k1 ?k2 ?k3 ?_); (case k1 => walk_at "g_sq"); (case k2 => omega); (case k3 => omega); intro _ _)
  | (with_reducible refine' Hf.i_abs ?_)
  | (with_reducible refine' Hf.i_int2 ?_)
  | (with_reducible refine' Hf.i_int1 ?_)
  | (with_reducible refine' Hf.i_intb ?_)
  | ((with_reducible refine' Hf.i_isi ?k1 ?k2 ?_); (case k1 => walk_at "g_ty"); (case k2 => first | (show L2.kitB _ _ = some true; decide +kernel) | (show L2.kitB _ _ = some false; decide +kernel)))
  | ((with_reducible refine' Hf.i_lenL ?k1 ?_); (case k1 => walk_at "g_sq"))
  | ((with_reducible refine' Hf.i_lenT ?k1 ?_); (case k1 => walk_at "g_sq"))
  | ((with_reducible refine' Hf.i_appendM ?k1 ?k2 ?_); (case k1 => walk_at "g_lk"); (case k2 => walk_at "g_sz"))
  | ((with_reducible refine' Hf.i_append ?k1 ?k2 ?_); (case k1 => walk_at "g_lk"); (case k2 => walk_at "g_sz"))
  | ((with_reducible refine' Hf.i_bmL ?k1 ?_); (case k1 => walk_at "g_sq"))
  | ((with_reducible refine' Hf.i_setLast ?k1 ?k2 ?_); (case k1 => walk_at "g_lk"); (case k2 => first | omega | (simp; done) | (simp; omega)))
  | ((with_reducible refine' Hf.i_setM ?k1 ?k2 ?k3 ?_); (case k1 => walk_at "g_lk"); (case k2 => omega); (case k3 => first | omega | (simp; done) | (simp; omega)))
  | ((with_reducible refine' Hf.i_setL ?k1 ?k2 ?_); (case k1 => walk_at "g_lk"); (case k2 => walk_at "g_ixn"); (try dsimp only [List.set_cons_zero, List.set_cons_succ])) | fail "g_val")
local macro_rules | `(tactic| walk_at "g_val2") => `(tactic| first
  | ((with_reducible refine' Hf.i_slInitM ?k1 ?_); (case k1 => walk_at "g_sq"); intro _ _)
  | ((with_reducible refine' Hf.i_ixLast ?k1 ?k2 ?_); (case k1 => walk_at "g_sq"); (case k2 => first | omega | (simp; done) | (simp; omega)); intro _ _)
  | ((with_reducible refine' Hf.i_slToM ?k1 ?k2 ?_); (case k1 => walk_at "g_sq"); (case k2 => omega); intro _ _)
  | ((with_reducible refine' Hf.i_slFromM ?k1 ?k2 ?_); (case k1 => walk_at "g_sq"); (case k2 => omega); intro _ _)
  | ((with_reducible refine' Hf.i_slMidM ?k1 ?k2 ?k3 ?_); (case k1 => walk_at "g_sq"); (case k2 => omega); (case k3 => omega); intro _ _)
  | ((with_reducible refine' Hf.i_slTo ?k1 ?k2 ?_); (case k1 => walk_at "g_sq"); (case k2 => omega); intro _ _)
  | ((with_reducible refine' Hf.i_slFrom ?k1 ?k2 ?_); (case k1 => walk_at "g_sq"); (case k2 => omega); intro _ _)
  | ((with_reducible refine' Hf.i_slMid ?k1 ?k2 ?k3 ?_); (case k1 => walk_at "g_sq"); (case k2 => omega); (case k3 => omega); intro _ _)
  | ((with_reducible refine' Hf.i_eqT2 ?k1 ?k2 ?_); (case k1 => walk_at "g_sq"); (case k2 => walk_at "g_sq"))
  | (with_reducible refine' Hf.i_sl ?_)
  | ((with_reducible refine' Hf.i_lenA ?k1 ?_); (case k1 => first | exact Hf.lenA_map (by walk_at "g_sq") | exact Hf.lenA_L (by walk_at "g_sq") | exact Hf.lenA_T (by walk_at "g_sq")))
  | ((with_reducible refine' Hf.i_ixM ?k1 ?k2 ?k3 ?_); (case k1 => walk_at "g_sq"); (case k2 => omega); (case k3 => first | omega | (simp; omega)); intro _ _)
  | ((with_reducible refine' Hf.i_listOf ?k1 ?_); (case k1 => walk_at "g_sq"); intro _ _)
  | ((with_reducible refine' Hf.i_listOfT ?k1 ?_); (case k1 => walk_at "g_sq"); intro _ _)
  | ((with_reducible refine' Hf.i_sum ?k1 ?_); (case k1 => walk_at "g_sq"))
  | ((with_reducible refine' Hf.i_all ?k1 ?_); (case k1 => walk_at "g_sq"))
  | ((with_reducible refine' Hf.i_min ?k1 ?k2 ?_); (case k1 => walk_at "g_sq"); (case k2 => omega); intro _ _ _)
  | ((with_reducible refine' Hf.i_max ?k1 ?k2 ?_); (case k1 => walk_at "g_sq"); (case k2 => omega); intro _ _ _)
  | ((with_reducible refine' Hf.i_eqLI ?k1 ?k2 ?_); (case k1 => walk_at "g_sq"); (case k2 => walk_at "g_sq"))
  | ((with_reducible refine' Hf.i_neLI ?k1 ?k2 ?_); (case k1 => walk_at "g_sq"); (case k2 => walk_at "g_sq"))
  | ((with_reducible refine' Hf.i_eqL0 ?k1 ?k2 ?_); (case k1 => walk_at "g_sq"); (case k2 => walk_at "g_sq"))
  | ((with_reducible refine' Hf.i_eq00 ?k1 ?k2 ?_); (case k1 => walk_at "g_sq"); (case k2 => walk_at "g_sq"))
  | ((with_reducible refine' Hf.i_ne00 ?k1 ?k2 ?_); (case k1 => walk_at "g_sq"); (case k2 => walk_at "g_sq"))
  | ((with_reducible refine' Hf.i_reverse ?k1 ?_); (case k1 => walk_at "g_lk"))
  | ((with_reducible refine' Hf.i_glst ?k1 ?k2 ?_); (case k1 => walk_at "g_sq"); (case k2 => rfl))
  | (with_reducible refine' Hf.i_lc ?_)
  | ((with_reducible refine' Hf.i_turn ?k1 ?_); (case k1 => first | ((show L2.wipe _ [_] = _); (apply Hf.wipe_one); walk_at "g_set") | ((show L2.wipe _ [_, _] = _); (apply Hf.wipe_two); walk_at "g_set"; walk_at "g_set") | ((show L2.wipe _ [_, _, _] = _); (apply Hf.wipe_three); walk_at "g_set"; walk_at "g_set"; walk_at "g_set")))
  | ((with_reducible refine' Hf.i_wiped ?k1 ?_); (case k1 => rfl))
  | (with_reducible refine' Hf.i_yes ?_)
  | (with_reducible refine' Hf.i_nopart ?_)
  | (with_reducible refine' Hf.i_part ?_)
  | (with_reducible refine' Hf.i_exint ?_)
  | ((with_reducible refine' Hf.i_catM ?k1 ?k2 ?k3 ?_); (case k1 => walk_at "g_lk"); (case k2 => walk_at "g_lk"); (case k3 => (simp; omega)); intro _ _)
  | ((with_reducible refine' Hf.i_catM1 ?k1 ?k2 ?k3 ?_); (case k1 => walk_at "g_lk"); (case k2 => walk_at "g_lk"); (case k3 => first | omega | (simp; omega)); intro _ _)
  | ((with_reducible refine' Hf.i_cat ?k1 ?k2 ?k3 ?_); (case k1 => walk_at "g_lk"); (case k2 => walk_at "g_lk"); (case k3 => walk_at "g_sz"); intro _ _)
  | ((with_reducible refine' Hf.i_repM ?k1 ?k2 ?_); (case k1 => walk_at "g_lk"); (case k2 => omega); intro _ _)
  | ((with_reducible refine' Hf.i_rep1 ?k1 ?k2 ?_); (case k1 => walk_at "g_lk"); (case k2 => omega); intro _ _) | fail "g_val2")
local macro_rules | `(tactic| walk_at "g1") => `(tactic| first
  | ((with_reducible refine' Hf.i_var ?k1 ?_); (case k1 => rfl))
  | (with_reducible refine' Hf.i_c ?_)
  | (with_reducible refine' Hf.i_op ?_)
  | (with_reducible refine' Hf.i_cons ?_)
  | (with_reducible refine' Hf.i_nil ?_)
  | (with_reducible refine' Hf.i_seq ?_)
  | (with_reducible refine' Hf.i_asg ?_)
  | ((with_reducible refine' Hf.i_gname ?k1 ?_); (case k1 => walk_at "g_set"))
  | (with_reducible refine' Hf.i_ret ?_)
  | (with_reducible refine' Hf.i_next ?_)
  | (with_reducible refine' Hf.i_ifs ?_)
  | ((with_reducible refine' Hf.ite_y ?k1 ?_); (case k1 => rfl))
  | ((with_reducible refine' Hf.ite_n ?k1 ?_); (case k1 => rfl))
  | (with_reducible refine' Hf.i_test ?_)
  | (with_reducible refine' Hf.i_B ?_)
  | (with_reducible refine' Hf.i_bl ?_)
  | (with_reducible refine' Hf.i_call ?_)
  | (with_reducible refine' Hf.i_cb ?_)
  | (with_reducible refine' Hf.i_tup ?_)
  | (with_reducible refine' Hf.i_lst ?_)
  | ((with_reducible refine' Hf.i_new ?k1 ?_); (case k1 => walk_at "g_sz"); intro _ _)
  | (with_reducible refine' Hf.i_un ?_)
  | (with_reducible refine' Hf.i_and ?_)
  | (with_reducible refine' Hf.i_or ?_)
  | (with_reducible refine' Hf.i_not ?_)
  | (with_reducible refine' Hf.i_andV ?_)
  | (with_reducible refine' Hf.i_orV ?_)
  | (with_reducible refine' Hf.i_notV ?_)
  | (with_reducible refine' Hf.i_ife ?_)
  | (with_reducible refine' Hf.i_drop ?_)
  | (with_reducible refine' Hf.i_par ?_)
  | ((with_reducible refine' Hf.i_par2 ?k1 ?_); (case k1 => (apply Hf.set_par; walk_at "g_set"; walk_at "g_set")))
  | ((with_reducible refine' Hf.i_aug ?k1 ?_); (case k1 => rfl))
  | (with_reducible refine' Hf.i_ip ?_)
  | (with_reducible refine' Hf.i_bm ?_)
  | (with_reducible refine' Hf.i_bm0 ?_)
  | ((with_reducible refine' Hf.i_gtup ?k1 ?k2 ?_); (case k1 => walk_at "g_sq"); (case k2 => rfl))
  | (with_reducible refine' Hf.i_gcons ?_)
  | (with_reducible refine' Hf.i_gnil ?_)
  | (with_reducible refine' Hf.i_gsub ?_)
  | (with_reducible refine' Hf.i_for ?_)
  | (with_reducible refine' Hf.i_rng1 ?_)
  | ((with_reducible refine' Hf.i_rng1' ?k1 ?k2 ?_); (case k1 => omega); (case k2 => omega))
  | (with_reducible refine' Hf.i_rng2 ?_)
  | ((with_reducible refine' Hf.i_rng2' ?k1 ?_); (case k1 => omega))
  | (with_reducible refine' Hf.i_ilist ?_)
  | ((with_reducible refine' Hf.i_ilist' ?k1 ?_); (case k1 => walk_at "g_sq"))
  | (with_reducible refine' Hf.i_itup ?_)
  | ((with_reducible refine' Hf.i_itup' ?k1 ?_); (case k1 => walk_at "g_sq"))
  | (with_reducible refine' Hf.i_retN ?_)
  | (with_reducible refine' Hf.i_brk ?_)
  | (with_reducible refine' Hf.i_cnt ?_)
  | walk_at "g_val"
  | walk_at "g_val2"
  | walk_at "g_call"
  | (with_reducible refine' Hf.i_isn ?_)
  | (with_reducible refine' Hf.i_tru ?_)
  | dsimp only | fail "g1")
local macro_rules | `(tactic| walk_at "go") => `(tactic| repeat walk_at "g1")
local macro_rules | `(tactic| walk_at "goI") => `(tactic| repeat ((fail_if_success (with_reducible refine' Hf.i_ifs ?_)); walk_at "g1"))
local macro_rules | `(tactic| walk_at "goF") => `(tactic| repeat ((fail_if_success (with_reducible refine' Hf.i_for ?_)); walk_at "g1"))
local macro_rules | `(tactic| walk_at "g_kit") => `(tactic| fail "g_kit")
local macro_rules | `(tactic| walk_at "g_exc") => `(tactic| fail "g_exc")
local macro_rules | `(tactic| walk_at "g_exm") => `(tactic| fail "g_exm")
local macro_rules | `(tactic| walk_at "g_kitB") => `(tactic| first | (show L2.kitB _ _ = some true; decide +kernel) | (show L2.kitB _ _ = some false; decide +kernel))
local macro_rules | `(tactic| walk_at "g_val2") => `(tactic| first
  | ((with_reducible refine' Hf.i_isXi ?k1 ?k2 ?_); (case k1 => walk_at "g_ty"); (case k2 => walk_at "g_kitB"))
  | ((with_reducible refine' Hf.i_isXo ?k1 ?k2 ?_); (case k1 => walk_at "g_ty"); (case k2 => walk_at "g_kit"))
  | ((with_reducible refine' Hf.i_isXR ?k1 ?k2 ?k3 ?_); (case k1 => walk_at "g_lk"); (case k2 => walk_at "g_exc"); (case k3 => walk_at "g_kit"))
  | ((with_reducible refine' Hf.i_isXT ?k1 ?k2 ?k3 ?_); (case k1 => walk_at "g_lk"); (case k2 => walk_at "g_exc"); (case k3 => walk_at "g_kit"))
  | ((with_reducible refine' Hf.i_isXRd ?k1 ?k4 ?k2 ?k3 ?_); (case k1 => walk_at "g_lk"); (case k4 => walk_at "g_lk"); (case k2 => walk_at "g_exc"); (case k3 => walk_at "g_kit"))
  | ((with_reducible refine' Hf.i_isXTd ?k1 ?k4 ?k2 ?k3 ?_); (case k1 => walk_at "g_lk"); (case k4 => walk_at "g_lk"); (case k2 => walk_at "g_exc"); (case k3 => walk_at "g_kit"))
  | (with_reducible refine' Hf.i_callS ?_)
  | (with_reducible refine' Hf.i_try ?_)
  | ((with_reducible refine' Hf.i_caught ?k1 ?k2 ?_); (case k1 => walk_at "g_exm"); (case k2 => (intro _; walk_at "g_set")); intro _ _)
  | ((with_reducible refine' Hf.i_nxAs ?k1 ?_); (case k1 => walk_at "g_set"))
  | (with_reducible refine' Hf.i_rtAs ?_)
  | (with_reducible refine' Hf.i_izip ?_)
  | ((with_reducible refine' Hf.i_neT2 ?k1 ?k2 ?_); (case k1 => walk_at "g_sq"); (case k2 => walk_at "g_sq"))
  | ((with_reducible refine' Hf.i_neS1 ?k1 ?k2 ?k3 ?_); (case k1 => walk_at "g_sq"); (case k2 => walk_at "g_sq"); (case k3 => decide +kernel))
  | ((with_reducible refine' Hf.i_izip' ?k1 ?k2 ?_); (case k1 => walk_at "g_sq"); (case k2 => walk_at "g_sq"))
  | (with_reducible refine' Hf.i_isnR ?_)
  | (with_reducible refine' Hf.i_isnN ?_)
  | ((with_reducible refine' Hf.i_cntV ?k1 ?k2 ?k3 ?k4 ?_); (case k1 => walk_at "g_sq"); (case k2 => rfl); (case k3 => rfl); (case k4 => rfl))
  | ((with_reducible refine' Hf.i_index ?k1 ?k2 ?k3 ?k4 ?_); (case k1 => walk_at "g_sq"); (case k2 => rfl); (case k3 => rfl); (case k4 => rfl)) | fail "g_val2x")
local macro_rules | `(tactic| walk_at "g_no") => `(tactic| first | contradiction | omega | (simp_all; done) | fail "g_no")
local macro_rules | `(tactic| walk_at "g_but") => `(tactic| first | (with_reducible exact Hf.But.refl _ _) | (with_reducible assumption) | (with_reducible refine Hf.But.newT (by with_reducible assumption) ?_; walk_at "g_but") | (with_reducible refine Hf.But.upd ?_; walk_at "g_but") | (with_reducible refine Hf.But.transT (by with_reducible assumption) ?_; walk_at "g_but") | (with_reducible refine Hf.But.transS (by with_reducible assumption) ?_; walk_at "g_but") | (with_reducible refine Hf.But.mut (by with_reducible assumption) ?_; walk_at "g_but") | (with_reducible refine Hf.But.mutS (by with_reducible assumption) (by with_reducible assumption) ?_; walk_at "g_but") | fail "g_but")
local macro_rules | `(tactic| walk_at "g_cls") => `(tactic| fail "g_cls")
local macro_rules | `(tactic| walk_at "g_val2") => `(tactic| first
  | (with_reducible refine' Hf.i_fld ?_)
  | ((with_reducible refine' Hf.i_fldR ?k1 ?k2 ?k3 ?k4 ?_); (case k1 => walk_at "g_lk"); (case k2 => walk_at "g_cls"); (case k3 => walk_at "g_cls"); (case k4 => first | rfl | decide +kernel))
  | (with_reducible refine' Hf.i_sfld ?_)
  | ((with_reducible refine' Hf.i_setR ?k1 ?k2 ?k3 ?k4 ?_); (case k1 => walk_at "g_lk"); (case k2 => walk_at "g_cls"); (case k3 => walk_at "g_cls"); (case k4 => decide))
  | (with_reducible refine' Hf.i_meth ?_)
  | ((with_reducible refine' Hf.i_methR ?k1 ?k4 ?_); (case k1 => walk_at "g_lk"); (case k4 => first | rfl | decide +kernel))
  | ((with_reducible refine' Hf.i_make0 ?_); intro _ _ _ _ _)
  | (with_reducible refine' Hf.i_dnotin ?_)
  | (with_reducible refine' Hf.i_din ?_)
  | ((with_reducible refine' Hf.i_dg3 ?k1 ?k2 ?_); (case k1 => walk_at "g_lk"); (case k2 => walk_at "g_lk"))
  | ((with_reducible refine' Hf.i_dg2 ?k1 ?k2 ?_); (case k1 => walk_at "g_lk"); (case k2 => walk_at "g_lk"))
  | (with_reducible refine' Hf.i_dget ?_)
  | ((with_reducible refine' Hf.i_dv3 ?k1 ?k2 ?k3 ?_); (case k1 => walk_at "g_lk"); (case k2 => walk_at "g_lk"); (case k3 => assumption))
  | ((with_reducible refine' Hf.i_dv2 ?k1 ?k2 ?k3 ?_); (case k1 => walk_at "g_lk"); (case k2 => walk_at "g_lk"); (case k3 => assumption))
  | (with_reducible refine' Hf.i_dput ?_)
  | ((with_reducible refine' Hf.i_dp3 ?k1 ?k2 ?k3 ?_); (case k1 => walk_at "g_lk"); (case k2 => walk_at "g_lk"); (case k3 => omega))
  | ((with_reducible refine' Hf.i_dp2 ?k1 ?k2 ?k3 ?_); (case k1 => walk_at "g_lk"); (case k2 => walk_at "g_lk"); (case k3 => omega))
  | ((with_reducible refine' Hf.i_dnewT ?_); intro _ _)
  | (with_reducible refine' Hf.i_lstRg ?_)
  | (with_reducible refine' Hf.i_rg1 ?_)
  | (with_reducible refine' Hf.i_rg2 ?_)
  | (with_reducible refine' Hf.i_rg2' ?_)
  | (with_reducible refine' Hf.i_rg1' ?_)
  | ((with_reducible refine' Hf.i_rgok ?k1 ?k2 ?k3 ?k4 ?_); (case k1 => omega); (case k2 => omega); (case k3 => omega); (case k4 => omega); intro _ _) | fail "g_val2o")
local macro_rules | `(tactic| walk_at "g_val2") => `(tactic| first
  | (with_reducible refine' Hf.i_ckw ?_)
  | ((with_reducible refine' Hf.i_sortedRev ?k1 ?k2 ?_); (case k1 => walk_at "g_sq"); (case k2 => assumption); intro _ _)
  | ((with_reducible refine' Hf.i_clear ?k1 ?_); (case k1 => walk_at "g_lk"))
  | ((with_reducible refine' Hf.i_extendN ?k1 ?k2 ?k3 ?_); (case k1 => walk_at "g_lk"); (case k2 => walk_at "g_lk"); (case k3 => first | omega | (simp; omega))) | fail "g_val2s")
local macro_rules | `(tactic| walk_at "g_but") => `(tactic| first | (with_reducible exact Hf.But.refl _ _) | (with_reducible assumption) | (with_reducible refine Hf.But.newT (by with_reducible assumption) ?_; walk_at "g_but") | (with_reducible refine Hf.But.upd ?_; walk_at "g_but") | (with_reducible refine Hf.But.mutD (by with_reducible assumption) ?_; walk_at "g_but") | (with_reducible refine Hf.But.mutSD (by with_reducible assumption) (by walk_at "g_free") ?_; walk_at "g_but") | (with_reducible refine Hf.But.transT (by with_reducible assumption) ?_; walk_at "g_but") | (with_reducible refine Hf.But.transS (by with_reducible assumption) ?_; walk_at "g_but") | fail "g_but")
local macro_rules | `(tactic| walk_at "g_dq") => `(tactic| first | (with_reducible assumption) | ((with_reducible refine' Hf.Dq.same ?s9 ?d9); (case d9 => (with_reducible assumption)); (case s9 => walk_at "g_same")) | ((with_reducible refine' Hf.dq_mix ?q9 ?h9 ?s9); (case q9 => (with_reducible assumption)); (case h9 => walk_at "g_lk"); (case s9 => walk_at "g_same")) | ((with_reducible refine' Hf.Dq.same (Hf.hid_mono ?s9) ?d9); (case d9 => (with_reducible assumption)); (case s9 => walk_at "g_same")) | ((with_reducible refine' Hf.dq_two ?h5 ?h6 ?h7 ?h8 ?h9); (case h5 => walk_at "g_lk"); (case h6 => walk_at "g_lk"); (case h7 => walk_at "g_lk"); (case h8 => walk_at "g_lk"); (case h9 => walk_at "g_lk")) | fail "g_dq")
local macro_rules | `(tactic| walk_at "g_pre") => `(tactic| walk_at "g_dq")
local macro_rules | `(tactic| walk_at "g_val2") => `(tactic| first
  | ((with_reducible refine' Hf.i_neDq ?k1 ?k2 ?k3 ?_); (case k1 => walk_at "g_dq"); (case k2 => walk_at "g_dq"); (case k3 => first | exact Hf.shaped_mix _))
  | ((with_reducible refine' Hf.i_neL2 ?k1 ?k2 ?_); (case k1 => walk_at "g_sq"); (case k2 => walk_at "g_sq"))
  | ((with_reducible refine' Hf.i_reverseV ?k1 ?_); (case k1 => walk_at "g_lk"))
  | (with_reducible refine' Hf.i_rev ?_)
  | ((with_reducible refine' Hf.i_revV ?k1 ?_); (case k1 => walk_at "g_sq"); intro _ _)
  | fail "g_val2d")
local macro_rules | `(tactic| walk_at "goO") => `(tactic| repeat (first | walk_at "g1" | (with_reducible refine' Hf.ite_y (decide_eq_true (by omega)) ?_) | (with_reducible refine' Hf.ite_n (decide_eq_false (by omega)) ?_)))
local macro_rules | `(tactic| walk_at "g_val2") => `(tactic| first
  | (with_reducible refine' Hf.i_min2 ?_)
  | (with_reducible refine' Hf.i_min3 ?_)
  | fail "g_val2b")
local macro_rules | `(tactic| walk_at "g_free") => `(tactic| first | (with_reducible assumption) | ((with_reducible refine' Hf.Newly.free ?n7 ?h7); (case n7 => (with_reducible assumption)); (case h7 => walk_at "g_lk")) | ((with_reducible refine' Hf.Same.free' (by with_reducible assumption) ?h7); (case h7 => walk_at "g_same")) | ((with_reducible refine' Hf.But.free (by with_reducible assumption) ?h7 ?h8); (case h7 => walk_at "g_but"); (case h8 => walk_at "g_lk")) | fail "g_free")
local macro_rules | `(tactic| walk_at "g_pk") => `(tactic| first | (with_reducible assumption) | ((with_reducible refine' Hf.Pk.newT ?n9 ?h9); (case n9 => (with_reducible assumption)); (case h9 => walk_at "g_pk")) | ((with_reducible refine' Hf.Pk.sameT ?n9 ?h9); (case n9 => (with_reducible assumption)); (case h9 => walk_at "g_pk")) | fail "g_pk")
local macro_rules | `(tactic| walk_at "g_pre") => `(tactic| walk_at "g_pk")
local macro_rules | `(tactic| walk_at "g_free") => `(tactic| first | ((with_reducible refine' Hf.Pk.free (by with_reducible assumption) ?h7 ?h8); (case h8 => walk_at "g_pk"); (case h7 => walk_at "g_but")) | fail "macp")
local macro_rules | `(tactic| walk_at "g_free") => `(tactic| first | ((with_reducible refine' Hf.Newly.pk ?n7 ?h7); (case n7 => (with_reducible assumption)); (case h7 => walk_at "g_pk")) | fail "macp")
local macro_rules | `(tactic| walk_at "g_ne") => `(tactic| first | ((with_reducible refine' Hf.Pk.ne ?n9 ?h9); (case n9 => (with_reducible assumption)); (case h9 => walk_at "g_pk")) | fail "macp")
local macro_rules | `(tactic| walk_at "g_ne") => `(tactic| first | ((with_reducible refine' Hf.Pk.neo ?n9 ?h9); (case n9 => (with_reducible assumption)); (case h9 => (with_reducible assumption))) | fail "macp")
local macro_rules | `(tactic| walk_at "g_val2") => `(tactic| first | ((with_reducible refine' Hf.i_tupOfL ?k1 ?_); (case k1 => walk_at "g_sq"); intro _ _) | fail "macp")
local macro_rules | `(tactic| walk_at "g_val") => `(tactic| first | ((with_reducible refine' Hf.i_intY ?k1 ?_); (case k1 => exact decide_eq_true (by omega))) | ((with_reducible refine' Hf.i_intN ?k1 ?_); (case k1 => exact decide_eq_false (by omega))) | fail "g_valp")
local macro_rules | `(tactic| walk_at "g_val2") => `(tactic| first | ((with_reducible refine' Hf.i_neDq ?k1 ?k2 ?k3 ?_); (case k1 => walk_at "g_dq"); (case k2 => walk_at "g_dq"); (case k3 => first | exact Hf.shaped_bat _ _ _ | exact Hf.shaped_mix _ | assumption)) | fail "macp")
local macro_rules | `(tactic| walk_at "g_kb") => `(tactic| first | (show L2.kitB _ _ = some true; decide +kernel) | (show L2.kitB _ _ = some false; decide +kernel) | fail "g_kb")
local macro_rules | `(tactic| walk_at "g_val2") => `(tactic| first
  | ((with_reducible refine' Hf.i_isiT2 ?k1 ?k2 ?k3 ?k4 ?_); (case k1 => walk_at "g_lk"); (case k2 => walk_at "g_ty"); (case k3 => walk_at "g_kb"); (case k4 => walk_at "g_kb"))
  | (with_reducible refine' Hf.i_iseq ?_)
  | ((with_reducible refine' Hf.i_iseqL ?k1 ?_); (case k1 => walk_at "g_sq"))
  | ((with_reducible refine' Hf.i_iseqT ?k1 ?_); (case k1 => walk_at "g_sq"))
  | ((with_reducible refine' Hf.i_cntS ?k1 ?k2 ?k3 ?k4 ?_); (case k1 => walk_at "g_dq"); (case k2 => assumption); (case k3 => decide +kernel); (case k4 => assumption))
  | fail "g_val2w")
local macro_rules | `(tactic| walk_at "g_ow") => `(tactic| first | (with_reducible assumption) | ((with_reducible refine' Hf.Ow.same ?s9 ?d9); (case d9 => (with_reducible assumption)); (case s9 => walk_at "g_same")) | fail "g_ow")
local macro_rules | `(tactic| walk_at "g_pre") => `(tactic| walk_at "g_ow")
local macro_rules | `(tactic| walk_at "g_val2") => `(tactic| first
  | (with_reducible refine' Hf.i_dget2 ?_)
  | ((with_reducible refine' Hf.i_isD ?k1 ?_); (case k1 => walk_at "g_lk"))
  | ((with_reducible refine' Hf.i_dgo2 ?k1 ?k2 ?_); (case k1 => walk_at "g_lk"); (case k2 => walk_at "g_lk"); (try rw [Hf.FlD.get (by assumption)]))
  | ((with_reducible refine' Hf.i_sortedDT ?k1 ?k2 ?_); (case k1 => walk_at "g_lk"); (case k2 => assumption); intro _ _ _ _ _ _)
  | fail "g_val2z")
local macro_rules | `(tactic| walk_at "g_kitN") => `(tactic| first | (with_reducible exact Hf.KitN.nil) | ((with_reducible refine' Hf.KitN.no ?k8 ?k9); (case k8 => walk_at "g_kit"); (case k9 => walk_at "g_kitN")) | fail "g_kitN")
local macro_rules | `(tactic| walk_at "g_kitR") => `(tactic| first | (with_reducible exact Hf.KitR.nil) | ((with_reducible refine' Hf.KitR.cons ?k9); (case k9 => walk_at "g_kitR")) | fail "g_kitR")
local macro_rules | `(tactic| walk_at "g_kitY") => `(tactic| first | ((with_reducible refine' Hf.KitY.here ?k8 ?k9); (case k8 => walk_at "g_kit"); (case k9 => walk_at "g_kitR")) | ((with_reducible refine' Hf.KitY.there ?k8 ?k9); (case k8 => walk_at "g_kit"); (case k9 => walk_at "g_kitY")) | fail "g_kitY")
local macro_rules | `(tactic| walk_at "g_val2") => `(tactic| first
  | ((with_reducible refine' Hf.i_isXN ?k1 ?k2 ?k3 ?k4 ?_); (case k1 => walk_at "g_lk"); (case k2 => walk_at "g_lk"); (case k3 => walk_at "g_exc"); (case k4 => walk_at "g_kitN"))
  | ((with_reducible refine' Hf.i_isXY ?k1 ?k2 ?k3 ?k4 ?_); (case k1 => walk_at "g_lk"); (case k2 => walk_at "g_lk"); (case k3 => walk_at "g_exc"); (case k4 => walk_at "g_kitY"))
  | ((with_reducible refine' Hf.i_isXNd ?k1 ?k5 ?k2 ?k3 ?k4 ?_); (case k1 => walk_at "g_lk"); (case k5 => walk_at "g_lk"); (case k2 => walk_at "g_lk"); (case k3 => walk_at "g_exc"); (case k4 => walk_at "g_kitN"))
  | ((with_reducible refine' Hf.i_isXT2 ?k1 ?k2 ?k3 ?k4 ?_); (case k1 => walk_at "g_lk"); (case k2 => walk_at "g_ty"); (case k3 => walk_at "g_kb"); (case k4 => walk_at "g_kb"))
  | fail "g_val2e")
local macro_rules | `(tactic| walk_at "g_oex") => `(tactic| fail "g_oex")
local macro_rules | `(tactic| walk_at "g_nof") => `(tactic| fail "g_nof")
local macro_rules | `(tactic| walk_at "g_val2") => `(tactic| first
  | (with_reducible refine' Hf.i_vei ?_)
  | ((with_reducible refine' Hf.i_ver ?k1 ?k2 ?k3 ?_); (case k1 => walk_at "g_lk"); (case k2 => walk_at "g_oex"); (case k3 => decide))
  | (with_reducible refine' Hf.i_ost ?_)
  | ((with_reducible refine' Hf.i_osr ?k1 ?k2 ?k3 ?_); (case k1 => walk_at "g_lk"); (case k2 => walk_at "g_oex"); (case k3 => walk_at "g_nof"); intro _ _ _)
  | (with_reducible refine' Hf.i_mko ?_)
  | (with_reducible refine' Hf.i_xfH ?_)
  | ((with_reducible refine' Hf.i_xfR ?k1 ?k2 ?k3 ?k4 ?_); (case k1 => walk_at "g_lk"); (case k2 => walk_at "g_lk"); (case k3 => walk_at "g_exc"); (case k4 => walk_at "g_nof"))
  | fail "g_val2i")
local macro_rules | `(tactic| walk_at "g_at") => `(tactic| first | (with_reducible exact Hf.atI_0) | (with_reducible exact Hf.atI_1) | (with_reducible exact Hf.atI_2) | fail "g_at2")
local macro_rules | `(tactic| walk_at "g_val2") => `(tactic| first | ((with_reducible refine' Hf.i_ix3S ?k1 ?k2 ?k3 ?_); (case k1 => walk_at "g_sq"); (case k2 => omega); (case k3 => omega); intro _ _) | fail "ix3s")
local macro_rules | `(tactic| walk_at "g_val2") => `(tactic| first | ((with_reducible refine' Hf.i_nin ?k1 ?k2 ?k3 ?k4 ?_); (case k1 => walk_at "g_sq"); (case k2 => first | rfl | assumption); (case k3 => first | rfl | assumption); (case k4 => first | assumption | (show L2.inV _ _ = true; decide +kernel) | (show L2.inV _ _ = false; decide +kernel))) | ((with_reducible refine' Hf.i_ninT ?k1 ?k2 ?k3 ?k4 ?_); (case k1 => walk_at "g_sq"); (case k2 => first | rfl | assumption); (case k3 => first | rfl | assumption); (case k4 => first | assumption | (show L2.inV _ _ = true; decide +kernel) | (show L2.inV _ _ = false; decide +kernel))) | fail "nin")
local macro_rules | `(tactic| walk_at "g_val2") => `(tactic| first
  | ((with_reducible refine' Hf.i_slT1 ?k1 ?_); (case k1 => walk_at "g_sq"); intro _ _)
  | ((with_reducible refine' Hf.i_catTg ?k1 ?k2 ?k3 ?k4 ?_); (case k1 => walk_at "g_lk"); (case k2 => walk_at "g_sq"); (case k3 => simp); (case k4 => first | (simp; done) | (simp; omega)); intro _ _ _ _)
  | ((with_reducible refine' Hf.i_ix4S ?k1 ?k2 ?k3 ?_); (case k1 => walk_at "g_sq"); (case k2 => omega); (case k3 => omega); intro _ _)
  | fail "g_val2q")
local macro_rules | `(tactic| walk_at "g_val2") => `(tactic| first
  | (with_reducible refine' Hf.i_ienum ?_)
  | ((with_reducible refine' Hf.i_ienum' ?k1 ?_); (case k1 => walk_at "g_sq"))
  | (with_reducible refine' Hf.i_revR ?_)
  | ((with_reducible refine' Hf.i_revR' ?k1 ?_); (case k1 => walk_at "g_sq"); intro _ _) | fail "macn")
local macro_rules | `(tactic| walk_at "g_clt") => `(tactic| fail "g_clt")
local macro_rules | `(tactic| walk_at "g_val2") => `(tactic| first
  | (with_reducible refine' Hf.i_dget2 ?_)
  | ((with_reducible refine' Hf.i_isDK ?k1 ?_); (case k1 => walk_at "g_lk"))
  | ((with_reducible refine' Hf.i_dgoK ?k1 ?_); (case k1 => walk_at "g_lk"); (try rw [Hf.FlI.get (by assumption)]))
  | ((with_reducible refine' Hf.i_dpK ?k1 ?k2 ?_); (case k1 => walk_at "g_lk"); (case k2 => omega))
  | ((with_reducible refine' Hf.i_dnewK ?_); intro _ _)
  | ((with_reducible refine' Hf.i_lstDK ?k1 ?_); (case k1 => walk_at "g_lk"); intro _ _)
  | ((with_reducible refine' Hf.i_eqDI ?k1 ?k2 ?k3 ?k4 ?_); (case k1 => walk_at "g_lk"); (case k2 => walk_at "g_lk"); (case k3 => exact Hf.FlI.ints (by assumption)); (case k4 => exact Hf.FlI.ints (by assumption)))
  | ((with_reducible refine' Hf.i_neDI ?k1 ?k2 ?k3 ?k4 ?_); (case k1 => walk_at "g_lk"); (case k2 => walk_at "g_lk"); (case k3 => exact Hf.FlI.ints (by assumption)); (case k4 => exact Hf.FlI.ints (by assumption)))
  | ((with_reducible refine' Hf.i_leT2 ?k1 ?k2 ?_); (case k1 => walk_at "g_sq"); (case k2 => walk_at "g_sq"))
  | ((with_reducible refine' Hf.i_geT2 ?k1 ?k2 ?_); (case k1 => walk_at "g_sq"); (case k2 => walk_at "g_sq"))
  | ((with_reducible refine' Hf.i_inF ?k1 ?_); (case k1 => walk_at "g_sq"))
  | ((with_reducible refine' Hf.i_isXnone ?k1 ?k2 ?_); (case k1 => walk_at "g_clt"); (case k2 => walk_at "g_ty"))
  | ((with_reducible refine' Hf.i_slA2 ?k1 ?_); (case k1 => walk_at "g_sq"); intro _ _)
  | fail "g_val2k")
local macro_rules | `(tactic| walk_at "g_val2") => `(tactic| first
  | (with_reducible refine' Hf.i_isB ?_)
  | (with_reducible refine' Hf.i_notB ?_)
  | fail "g_val2j")
local macro_rules | `(tactic| walk_at "goS") => `(tactic| repeat ((fail_if_success (with_reducible refine' Hf.i_seq ?_)); walk_at "g1"))
local macro_rules | `(tactic| walk_at "g_val2") => `(tactic| first
  | (with_reducible refine' Hf.i_daug ?_)
  | ((with_reducible refine' Hf.i_dg2' ?k1 ?k2 ?k3 ?_); (case k1 => walk_at "g_lk"); (case k2 => walk_at "g_lk"); (case k3 => assumption))
  | ((with_reducible refine' Hf.i_dpa ?k1 ?k2 ?k3 ?_); (case k1 => walk_at "g_lk"); (case k2 => walk_at "g_lk"); (case k3 => omega))
  | (with_reducible refine' Hf.i_rSub ?_)
  | (with_reducible refine' Hf.i_rAdd ?_)
  | (with_reducible refine' Hf.i_augS ?_)
  | ((with_reducible refine' Hf.i_lenDT ?k1 ?_); (case k1 => walk_at "g_lk"))
  | ((with_reducible refine' Hf.i_bmD ?k1 ?_); (case k1 => walk_at "g_lk"))
  | ((with_reducible refine' Hf.i_popT1 ?k1 ?k2 ?k3 ?_); (case k1 => walk_at "g_lk"); (case k2 => walk_at "g_lk"); (case k3 => assumption))
  | fail "g_val2l")
local macro_rules | `(tactic| walk_at "g_val2") => `(tactic| first
  | ((with_reducible refine' Hf.i_cntL ?k1 ?k2 ?k3 ?_); (case k1 => walk_at "g_lk"); (case k2 => walk_at "g_lk"); (case k3 => assumption))
  | ((with_reducible refine' Hf.i_inL ?k1 ?k2 ?k3 ?_); (case k1 => walk_at "g_lk"); (case k2 => walk_at "g_lk"); (case k3 => assumption))
  | fail "cntL")
local macro_rules | `(tactic| walk_at "g_val2") => `(tactic| first
  | (with_reducible refine' Hf.i_lenSetT ?_)
  | ((with_reducible refine' Hf.i_sortedDK ?k1 ?k2 ?k3 ?_); (case k1 => walk_at "g_lk"); (case k2 => assumption); (case k3 => omega); intro _ _ _ _ _)
  | fail "g_val2r")
local macro_rules | `(tactic| walk_at "g_val2") => `(tactic| first
  | (with_reducible refine' Hf.i_revRg ?_)
  | ((with_reducible refine' Hf.i_revRg' ?k1 ?k2 ?k3 ?k4 ?_); (case k1 => omega); (case k2 => omega); (case k3 => omega); (case k4 => omega))
  | fail "g_val2rv")
local macro_rules | `(tactic| walk_at "g_pc") => `(tactic| first | (with_reducible assumption) | ((with_reducible refine' Hf.Pc.newT ?n9 ?h9); (case n9 => (with_reducible assumption)); (case h9 => walk_at "g_pc")) | ((with_reducible refine' Hf.Pc.sameT ?n9 ?h9); (case n9 => (with_reducible assumption)); (case h9 => walk_at "g_pc")) | fail "g_pc")
local macro_rules | `(tactic| walk_at "g_pre") => `(tactic| walk_at "g_pc")
local macro_rules | `(tactic| walk_at "g_free") => `(tactic| first | ((with_reducible refine' Hf.Pc.free (by with_reducible assumption) ?h7 ?h8); (case h8 => walk_at "g_pc"); (case h7 => walk_at "g_but2")) | fail "macc")
local macro_rules | `(tactic| walk_at "g_free") => `(tactic| first | ((with_reducible refine' Hf.Newly.pc1 ?n7 ?h7); (case n7 => (with_reducible assumption)); (case h7 => walk_at "g_pc")) | ((with_reducible refine' Hf.Newly.pc2 ?n7 ?h7); (case n7 => (with_reducible assumption)); (case h7 => walk_at "g_pc")) | fail "macc")
local macro_rules | `(tactic| walk_at "g_ne") => `(tactic| first | ((with_reducible refine' Hf.Pc.ne1' ?n9 ?h9); (case n9 => (with_reducible assumption)); (case h9 => walk_at "g_pc")) | ((with_reducible refine' Hf.Pc.ne2' ?n9 ?h9); (case n9 => (with_reducible assumption)); (case h9 => walk_at "g_pc")) | fail "macc")

/-! ### lists of lists of whole numbers -/
def RowsX (H : Hp) (xs : List V) (f : Nat → List Int) : Prop := xs.Nodup ∧ ∀ (j : Nat) (v : V), xs[j]? = some v → ∃ r, v = .ref r ∧ H r = some (.lst ((f j).map V.int))
def Off (xs : List V) (H H' : Hp) : Prop := ∀ b o, V.ref b ∉ xs → H b = some o → H' b = some o
theorem RowsX.same {H H' : Hp} {xs : List V} {f : Nat → List Int} (s : Same H H') (h : RowsX H xs f) : RowsX H' xs f := ⟨h.1, fun j v hv => by
  obtain ⟨r, e, q⟩ := h.2 j v hv
  exact ⟨r, e, s _ _ q⟩⟩
theorem RowsX.at_mem {H : Hp} {xs : List V} {f : Nat → List Int} (h : RowsX H xs f) {v : V} (hv : v ∈ xs) : ∃ r j, v = .ref r ∧ xs[j]? = some v ∧ H r = some (.lst ((f j).map V.int)) := by
  obtain ⟨j, hj⟩ := List.mem_iff_getElem?.mp hv
  obtain ⟨r, e, q⟩ := h.2 j v hj
  exact ⟨r, j, e, hj, q⟩
theorem RowsX.there {H : Hp} {xs : List V} {f : Nat → List Int} (h : RowsX H xs f) {r : Addr} (hv : V.ref r ∈ xs) : ∃ o, H r = some o := by
  obtain ⟨r', j, e, _, q⟩ := h.at_mem hv
  cases e
  exact ⟨_, q⟩
theorem RowsX.nil {H : Hp} {f : Nat → List Int} : RowsX H [] f := ⟨List.nodup_nil, fun j v h => by simp at h⟩
theorem RowsX.add {H H' : Hp} {xs : List V} {f : Nat → List Int} {p : Addr} (h : RowsX H xs f) (hp : H p = none) (s : Same H H') (hH : H' p = some (.lst ((f xs.length).map V.int))) : RowsX H' (xs ++ [.ref p]) f := by
  have np : V.ref p ∉ xs := fun m => by
    obtain ⟨o, q⟩ := h.there m
    rw [hp] at q
    cases q
  refine ⟨List.nodup_append.mpr ⟨h.1, by simp, fun a ha b hb => by
    rw [List.mem_singleton.mp hb]
    exact fun e => np (e ▸ ha)⟩, fun j v hv => ?_⟩
  by_cases c : j < xs.length
  · rw [List.getElem?_append_left c] at hv
    obtain ⟨r, e, q⟩ := h.2 j v hv
    exact ⟨r, e, s _ _ q⟩
  · have e : j = xs.length := by
      have := (List.getElem?_eq_some_iff.mp hv).1
      simp at this
      omega
    subst e
    rw [List.getElem?_append_right (Nat.le_refl _), Nat.sub_self] at hv
    simp at hv
    exact ⟨p, hv.symm, hH⟩
theorem nodup_at {xs : List V} (h : xs.Nodup) {i j : Nat} {v : V} (hi : xs[i]? = some v) (hj : xs[j]? = some v) : i = j := by
  obtain ⟨a1, b1⟩ := List.getElem?_eq_some_iff.mp hi
  obtain ⟨a2, b2⟩ := List.getElem?_eq_some_iff.mp hj
  have h' := List.pairwise_iff_getElem.mp h
  rcases Nat.lt_trichotomy i j with c | c | c
  · exact absurd (b1.trans b2.symm) (h' i j a1 a2 c)
  · exact c
  · exact absurd (b2.trans b1.symm) (h' j i a2 a1 c)
theorem RowsX.put {H : Hp} {xs : List V} {f : Nat → List Int} {i : Nat} {r : Addr} {ys : List Int} (h : RowsX H xs f) (hx : xs[i]? = some (.ref r)) : RowsX (L2.upd H r (.lst (ys.map V.int))) xs (fun j => if j = i then ys else f j) := by
  refine ⟨h.1, fun j v hv => ?_⟩
  obtain ⟨r', e, q⟩ := h.2 j v hv
  by_cases c : j = i
  · subst c
    rw [hx] at hv
    cases hv
    cases e
    exact ⟨r, rfl, by rw [L2.upd_same]; simp⟩
  · refine ⟨r', e, ?_⟩
    have n : r' ≠ r := fun z => by
      subst e
      subst z
      exact c (nodup_at h.1 hv hx)
    rw [L2.upd_ne n]
    simp [c]
    exact q
theorem RowsX.congr {H : Hp} {xs : List V} {f g : Nat → List Int} (h : RowsX H xs f) (e : ∀ j, j < xs.length → f j = g j) : RowsX H xs g := ⟨h.1, fun j v hv => by
  obtain ⟨r, e1, q⟩ := h.2 j v hv
  exact ⟨r, e1, by rw [← e j (List.getElem?_eq_some_iff.mp hv).1]; exact q⟩⟩
theorem Off.refl {xs : List V} {H : Hp} : Off xs H H := fun _ _ _ h => h
theorem Off.trans {xs : List V} {H H1 H2 : Hp} (a : Off xs H H1) (b : Off xs H1 H2) : Off xs H H2 := fun r o n h => b r o n (a r o n h)
theorem Off.of {xs : List V} {H H' : Hp} (s : Same H H') : Off xs H H' := fun r o _ h => s r o h
theorem Off.put {xs : List V} {H H1 : Hp} {r : Addr} {o : HO} (a : Off xs H H1) (hr : V.ref r ∈ xs) : Off xs H (L2.upd H1 r o) := fun b u n h => by
  rw [L2.upd_ne (fun z => n (by rw [z]; exact hr))]
  exact a b u n h
theorem Same.off {H0 H H' : Hp} {xs : List V} (s : Same H0 H) (n : ∀ r, V.ref r ∈ xs → H0 r = none) (o : Off xs H H') : Same H0 H' := fun b u h => o b u (fun m => by
  rw [n b m] at h
  cases h) (s b u h)
theorem dp_rows {K : PySem.W.Frag} {H : Hp} : ∀ (xs : List V) (f : Nat → List Int), (∀ (j : Nat) (v : V), xs[j]? = some v → ∃ r, v = .ref r ∧ H r = some (.lst ((f j).map V.int))) → DpAll K H xs ((List.range xs.length).map fun j => .list ((f j).map PyData.int))
  | [], f, _ => .nil
  | v :: xs, f, h => by
    rw [List.length_cons, List.range_succ_eq_map, List.map_cons, List.map_map]
    obtain ⟨r, rfl, q⟩ := h 0 v rfl
    exact .cons (.lst (SqL.of q) (dp_ints _)) (dp_rows xs (fun j => f (j + 1)) fun j w hw => h (j + 1) w (by simpa using hw))
theorem eqvAll_rows : ∀ l : List (List Int), PyData.eqvAll (l.map fun y => .list (y.map PyData.int)) (l.map fun y => .list (y.map PyData.int)) = true
  | [] => by simp [PyData.eqvAll]
  | y :: l => by
    rw [List.map_cons, PyData.eqvAll, eqvAll_rows l, PyData.eqv, eqvAll_ints]
    simp
theorem shaped_rows : ∀ l : List (List Int), SeqAt.shaped (.list (l.map fun y => .list (y.map PyData.int))) = true := by
  have h1 : ∀ l : List (List Int), PyData.canLayAll0 (l.map fun y => .list (y.map PyData.int)) = true := by
    intro l
    induction l with
    | nil => simp [PyData.canLayAll0]
    | cons y l ih =>
      rw [List.map_cons, PyData.canLayAll0, ih]
      simp [PyData.canLay0, canLay_ints]
  have h2 : ∀ l : List (List Int), PyData.depthAll (l.map fun y => .list (y.map PyData.int)) ≤ 2 := by
    intro l
    induction l with
    | nil => simp [PyData.depthAll]
    | cons y l ih =>
      have := depth_ints y
      rw [List.map_cons, PyData.depthAll]
      simp [PyData.depth]
      omega
  intro l
  unfold SeqAt.shaped
  have a := h1 l
  have b := h2 l
  simp [PyData.canLay0, PyData.depth, a]
  omega
theorem i_neRows {K : PySem.W.Frag} {H : Hp} {Q : VK} {p r : Addr} {xs ys : List V} {f : Nat → List Int} (h1 : SqL K H p xs) (h2 : SqL K H r ys) (r1 : RowsX H xs f) (r2 : RowsX H ys f) (e : xs.length = ys.length) (q : Q (.bl false) H) : rNeD K (.ref p) (.ref r) H Q := by
  have d1 := dp_rows (K := K) xs f r1.2
  have d2 := dp_rows (K := K) ys f r2.2
  rw [← e] at d2
  have e1 : ((List.range xs.length).map fun j => PyData.list ((f j).map PyData.int)) = ((List.range xs.length).map f).map fun y => .list (y.map PyData.int) := by rw [List.map_map]; rfl
  rw [e1] at d1 d2
  exact ⟨_, _, .lst h1 d1, .lst h2 d2, shaped_rows _, shaped_rows _, by rw [PyData.eqv, eqvAll_rows]; exact q⟩
theorem RowsX.upd {H : Hp} {xs : List V} {f : Nat → List Int} {D : Addr} {o : HO} (h : RowsX H xs f) (n : ∀ r, V.ref r ∈ xs → r ≠ D) : RowsX (L2.upd H D o) xs f := ⟨h.1, fun j v hv => by
  obtain ⟨r, e, q⟩ := h.2 j v hv
  refine ⟨r, e, ?_⟩
  rw [L2.upd_ne (n r (by rw [← e]; exact List.mem_of_getElem? hv))]
  exact q⟩
theorem RowsX.off {H H' : Hp} {xs zs : List V} {f : Nat → List Int} (h : RowsX H xs f) (o : Off zs H H') (n : ∀ r, V.ref r ∈ xs → V.ref r ∉ zs) : RowsX H' xs f := ⟨h.1, fun j v hv => by
  obtain ⟨r, e, q⟩ := h.2 j v hv
  exact ⟨r, e, o r _ (n r (by rw [← e]; exact List.mem_of_getElem? hv)) q⟩⟩
/-! ### sums -/
def sumF (f : Nat → Nat) : Nat → Nat
  | 0 => 0
  | n + 1 => sumF f n + f n
theorem sumF_congr {f g : Nat → Nat} : ∀ n, (∀ i, i < n → f i = g i) → sumF f n = sumF g n
  | 0, _ => rfl
  | n + 1, h => by
    show sumF f n + f n = sumF g n + g n
    rw [sumF_congr n fun i hi => h i (Nat.lt_succ_of_lt hi), h n (Nat.lt_succ_self n)]
theorem sumF_add (f g : Nat → Nat) : ∀ n, sumF (fun i => f i + g i) n = sumF f n + sumF g n
  | 0 => rfl
  | n + 1 => by
    show sumF (fun i => f i + g i) n + (f n + g n) = sumF f n + f n + (sumF g n + g n)
    rw [sumF_add f g n]
    omega
theorem sumF_zero : ∀ n, sumF (fun _ => 0) n = 0
  | 0 => rfl
  | n + 1 => by
    show sumF (fun _ => 0) n + 0 = 0
    rw [sumF_zero n]
theorem sumF_swap (h : Nat → Nat → Nat) (m : Nat) : ∀ n, sumF (fun i => sumF (fun j => h i j) m) n = sumF (fun j => sumF (fun i => h i j) n) m
  | 0 => by
    show 0 = sumF (fun _ => 0) m
    rw [sumF_zero]
  | n + 1 => by
    show sumF (fun i => sumF (fun j => h i j) m) n + sumF (fun j => h n j) m = sumF (fun j => sumF (fun i => h i j) n + h n j) m
    rw [sumF_add, sumF_swap h m n]
theorem sumF_shift (f : Nat → Nat) : ∀ n, sumF f (n + 1) = f 0 + sumF (fun i => f (i + 1)) n
  | 0 => by
    show 0 + f 0 = f 0 + 0
    omega
  | n + 1 => by
    show sumF f (n + 1) + f (n + 1) = f 0 + (sumF (fun i => f (i + 1)) n + f (n + 1))
    rw [sumF_shift f n]
    omega
theorem sumF_cut (f : Nat → Nat) (t : Nat) : ∀ m, sumF (fun i => if i + 1 ≤ t then f i else 0) m = sumF f (min t m)
  | 0 => by rw [Nat.min_zero]; rfl
  | m + 1 => by
    show sumF (fun i => if i + 1 ≤ t then f i else 0) m + (if m + 1 ≤ t then f m else 0) = _
    rw [sumF_cut f t m]
    by_cases c : m + 1 ≤ t
    · rw [if_pos c, Nat.min_eq_right (by omega), Nat.min_eq_right c]
      rfl
    · rw [if_neg c, Nat.min_eq_left (by omega), Nat.min_eq_left (by omega)]
      rfl
theorem sumF_list (f : Nat → Nat) : ∀ n, ((List.range n).map fun i => (f i : Int)).sum = (sumF f n : Nat)
  | 0 => rfl
  | n + 1 => by
    rw [List.range_succ, List.map_append, List.sum_append, sumF_list f n]
    show (sumF f n : Int) + ([(f n : Int)]).sum = ((sumF f n + f n : Nat) : Int)
    simp
/-! ### lists that never rise -/
def fallN : Nat → Nat → Nat → Nat
  | 0, t, _ => if t = 0 then 1 else 0
  | s + 1, t, m => if t = 0 then 1 else sumF (fun i => fallN s (t - (i + 1)) (i + 1)) (min t m)
def exStep (f : Nat → Nat → Nat) (p : Nat) : Nat → Nat → Nat
  | 0, t => f 0 t
  | m + 1, t => f (m + 1) t + if p ≤ t then exStep f p m (t - p) else 0
/-- into so many parts just, each at most p -/
def exN : Nat → Nat → Nat → Nat
  | 0 => fun m t => if m = 0 ∧ t = 0 then 1 else 0
  | p + 1 => exStep (exN p) (p + 1)
theorem ex_zero : ∀ p t, exN p 0 t = if t = 0 then 1 else 0
  | 0, t => by
    show (if 0 = 0 ∧ t = 0 then 1 else 0) = _
    simp
  | p + 1, t => ex_zero p t
theorem ex_succ (p m t : Nat) : exN (p + 1) (m + 1) t = exN p (m + 1) t + if p + 1 ≤ t then exN (p + 1) m (t - (p + 1)) else 0 := rfl
theorem ex_less {p m t : Nat} (h : t < p + 1) : exN (p + 1) m t = exN p m t := by
  cases m with
  | zero => rfl
  | succ m => rw [ex_succ, if_neg (by omega), Nat.add_zero]
theorem ex_sum (m t : Nat) : ∀ p, exN p (m + 1) t = sumF (fun i => if i + 1 ≤ t then exN (i + 1) m (t - (i + 1)) else 0) p
  | 0 => by
    show (if m + 1 = 0 ∧ t = 0 then 1 else 0) = 0
    simp
  | p + 1 => by
    rw [ex_succ, ex_sum m t p]
    rfl
theorem falls_eq : ∀ s t m, sumF (fun j => exN m j t) (s + 1) = fallN s t m
  | 0, t, m => by
    show 0 + exN m 0 t = _
    rw [ex_zero, Nat.zero_add]
    rfl
  | s + 1, t, m => by
    rw [sumF_shift, ex_zero, sumF_congr (s + 1) (fun j _ => ex_sum j t m), sumF_swap]
    rw [sumF_congr m (g := fun i => if i + 1 ≤ t then fallN s (t - (i + 1)) (i + 1) else 0) fun i _ => ?_]
    · rw [sumF_cut]
      show _ = if t = 0 then 1 else _
      by_cases c : t = 0
      · subst c
        rw [Nat.zero_min]
        rfl
      · rw [if_neg c, if_neg c, Nat.zero_add]
    · by_cases c : i + 1 ≤ t
      · rw [if_pos c, ← falls_eq s]
        exact sumF_congr _ fun j _ => if_pos c
      · rw [if_neg c]
        rw [sumF_congr (s + 1) (g := fun _ => 0) fun j _ => if_neg c]
        exact sumF_zero _
/-! ### what is known -/
theorem nodup_le : ∀ (n : Nat) (l : List Nat), l.Nodup → (∀ x ∈ l, x < n) → l.length ≤ n
  | 0, [], _, _ => Nat.le_refl _
  | 0, x :: l, _, h => absurd (h x List.mem_cons_self) (Nat.not_lt_zero _)
  | n + 1, l, hl, h => by
    have h1 := nodup_le n (l.erase n) (hl.erase n) fun x hx => by
      have a := (hl.mem_erase_iff).mp hx
      have := h x a.2
      omega
    rw [List.length_erase] at h1
    split at h1 <;> omega
def codeK : List Key → Nat
  | [.inl t, .inl s, .inl m] => (t.toNat * 9 + s.toNat) * 41 + m.toNat
  | _ => 0
def Good (kvs : List (List Key × V)) : Prop := (kvs.map fun p => codeK p.1).Nodup ∧ ∀ p ∈ kvs, ∃ t s m : Nat, t ≤ 40 ∧ s ≤ 8 ∧ m ≤ 40 ∧ p.1 = [.inl (t : Int), .inl (s : Int), .inl (m : Int)] ∧ p.2 = .int (fallN s t m : Nat)
theorem Good.nil : Good [] := ⟨List.nodup_nil, fun p h => absurd h List.not_mem_nil⟩
theorem Good.len {kvs : List (List Key × V)} (h : Good kvs) : kvs.length ≤ 15129 := by
  have := nodup_le 15129 _ h.1 fun x hx => by
    obtain ⟨p, hp, rfl⟩ := List.mem_map.mp hx
    obtain ⟨t, s, m, h1, h2, h3, e, _⟩ := h.2 p hp
    rw [e]
    show (((t : Int)).toNat * 9 + ((s : Int)).toNat) * 41 + ((m : Int)).toNat < 15129
    omega
  rw [List.length_map] at this
  exact this
theorem Good.val {kvs : List (List Key × V)} (h : Good kvs) {t s m : Int} {v : V} (e : valV kvs [.inl t, .inl s, .inl m] = some v) : v = .int (fallN s.toNat t.toNat m.toNat : Nat) := by
  unfold valV at e
  cases q : kvs.find? fun kv => decide (kv.1 = [.inl t, .inl s, .inl m]) with
  | none => rw [q] at e; cases e
  | some p =>
    rw [q] at e
    have h1 := List.mem_of_find?_eq_some q
    have h2 := List.find?_some q
    simp at h2
    obtain ⟨t', s', m', _, _, _, e1, e2⟩ := h.2 p h1
    rw [h2] at e1
    cases e1
    have e3 : v = p.2 := (Option.some.inj e).symm
    rw [e3, e2]
    rfl
theorem code_inj {t s m t' s' m' : Nat} (h1 : t ≤ 40) (h2 : s ≤ 8) (h3 : m ≤ 40) (h4 : t' ≤ 40) (h5 : s' ≤ 8) (h6 : m' ≤ 40) (e : codeK [.inl (t : Int), .inl (s : Int), .inl (m : Int)] = codeK [.inl (t' : Int), .inl (s' : Int), .inl (m' : Int)]) : t = t' ∧ s = s' ∧ m = m' := by
  have e' : (t * 9 + s) * 41 + m = (t' * 9 + s') * 41 + m' := e
  omega
theorem Good.put {kvs : List (List Key × V)} (h : Good kvs) {t s m : Int} (h1 : 0 ≤ t ∧ t ≤ 40) (h2 : 0 ≤ s ∧ s ≤ 8) (h3 : 0 ≤ m ∧ m ≤ 40) : Good (putK kvs [.inl t, .inl s, .inl m] (.int (fallN s.toNat t.toNat m.toNat : Nat))) := by
  unfold putK
  split
  · refine ⟨?_, fun p hp => ?_⟩
    · have e : ((kvs.map fun kv => if kv.1 = [.inl t, .inl s, .inl m] then (kv.1, V.int (fallN s.toNat t.toNat m.toNat : Nat)) else kv).map fun p => codeK p.1) = kvs.map fun p => codeK p.1 := by
        rw [List.map_map]
        refine List.map_congr_left fun p _ => ?_
        show codeK (if p.1 = _ then (p.1, _) else p).1 = codeK p.1
        split <;> rfl
      rw [e]
      exact h.1
    · obtain ⟨q, hq, rfl⟩ := List.mem_map.mp hp
      obtain ⟨t', s', m', g1, g2, g3, e1, e2⟩ := h.2 q hq
      split
      · rename_i c
        refine ⟨t', s', m', g1, g2, g3, e1, ?_⟩
        rw [c] at e1
        cases e1
        rfl
      · exact ⟨t', s', m', g1, g2, g3, e1, e2⟩
  · rename_i c
    obtain ⟨t0, rfl⟩ := Int.eq_ofNat_of_zero_le h1.1
    obtain ⟨s0, rfl⟩ := Int.eq_ofNat_of_zero_le h2.1
    obtain ⟨m0, rfl⟩ := Int.eq_ofNat_of_zero_le h3.1
    refine ⟨?_, fun p hp => ?_⟩
    · rw [List.map_append]
      refine List.nodup_append.mpr ⟨h.1, by simp, fun a ha b hb e => ?_⟩
      obtain ⟨p, hp, rfl⟩ := List.mem_map.mp ha
      rw [List.map_cons, List.map_nil, List.mem_singleton] at hb
      obtain ⟨t', s', m', g1, g2, g3, e1, e2⟩ := h.2 p hp
      rw [hb, e1] at e
      obtain ⟨q1, q2, q3⟩ := code_inj g1 g2 g3 (by omega) (by omega) (by omega) e
      refine c (List.any_eq_true.mpr ⟨p, hp, decide_eq_true ?_⟩)
      rw [e1, q1, q2, q3]
    · rcases List.mem_append.mp hp with g | g
      · exact h.2 p g
      · rw [List.mem_singleton.mp g]
        exact ⟨t0, s0, m0, by omega, by omega, by omega, rfl, rfl⟩
theorem fall_rec {s t m : Nat} (hs : s ≠ 0) (ht : t ≠ 0) : fallN s t m = sumF (fun i => fallN (s - 1) (t - (i + 1)) (i + 1)) (min t m) := by
  obtain ⟨s', rfl⟩ : ∃ s', s = s' + 1 := ⟨s - 1, by omega⟩
  show (if t = 0 then 1 else _) = _
  rw [if_neg ht]
  rfl
theorem fall_base {s t m : Nat} (h : s = 0 ∨ t = 0) : fallN s t m = if t = 0 then 1 else 0 := by
  cases s with
  | zero => rfl
  | succ s =>
    have ht : t = 0 := by omega
    subst ht
    rfl
def SizeOk (x y : Int) : Prop := 0 ≤ x ∧ x ≤ 40 ∧ 1 ≤ y ∧ y ≤ 8
def PlanOk (ps : List Int) : Prop := (1 ≤ ps.length ∧ ps.length ≤ 8) ∧ (∀ x ∈ ps, 0 ≤ x) ∧ ps.sum ≤ 40
theorem sum_nn {ps : List Int} (h : ∀ x ∈ ps, 0 ≤ x) : 0 ≤ ps.sum := by
  induction ps with
  | nil => simp
  | cons y r ih =>
    have h1 := h y List.mem_cons_self
    have h2 := ih fun x hx => h x (List.mem_cons_of_mem _ hx)
    rw [List.sum_cons]
    omega
/-! ### the numbers of counts -/
def preC (rest : Nat) (left : Int) : Nat → Int
  | 0 => 0
  | j + 1 => preC rest left j + (fallN rest (left - j).toNat j : Nat)
def rkC : List Int → Int
  | [] => 0
  | c :: r => preC r.length ((c :: r).sum) c.toNat + rkC r
theorem preC_mono {rest : Nat} {left : Int} {i : Nat} : ∀ d, preC rest left i ≤ preC rest left (i + d)
  | 0 => Int.le_refl _
  | d + 1 => by
    have := preC_mono (rest := rest) (left := left) (i := i) d
    show _ ≤ preC rest left (i + d) + _
    omega
theorem preC_le {rest : Nat} {left : Int} {i j : Nat} (h : i ≤ j) : preC rest left i ≤ preC rest left j := by
  have := preC_mono (rest := rest) (left := left) (i := i) (j - i)
  rwa [Nat.add_sub_cancel' h] at this
theorem preC_nn {rest : Nat} {left : Int} {i : Nat} : 0 ≤ preC rest left i := preC_le (i := 0) (Nat.zero_le i)
theorem preC_sum (rest left : Nat) : ∀ n, preC rest left n = (sumF (fun j => fallN rest (left - j) j) n : Nat)
  | 0 => rfl
  | n + 1 => by
    show preC rest left n + _ = ((sumF _ n + fallN rest (left - n) n : Nat) : Int)
    rw [preC_sum rest left n, show ((left : Int) - (n : Int)).toNat = left - n by omega]
    omega
theorem fall_none {rest t : Nat} (h : t ≠ 0) : fallN rest t 0 = 0 := by
  cases rest with
  | zero =>
    show (if t = 0 then 1 else 0) = 0
    rw [if_neg h]
  | succ r =>
    show (if t = 0 then 1 else sumF _ (min t 0)) = 0
    rw [if_neg h, Nat.min_zero]
    rfl
theorem preC_full (rest left mo : Nat) : preC rest left (min left mo + 1) = (fallN (rest + 1) left mo : Nat) := by
  rw [preC_sum]
  congr 1
  rw [sumF_shift]
  by_cases c : left = 0
  · subst c
    rw [Nat.zero_min]
    show fallN rest 0 0 + 0 = if 0 = 0 then 1 else _
    rw [fall_base (.inr rfl)]
    rfl
  · rw [Nat.sub_zero, fall_none c, Nat.zero_add]
    show _ = if left = 0 then 1 else _
    rw [if_neg c]
def Falls (cs : List Int) : Prop := ∀ (k : Nat) (a b : Int), cs[k]? = some a → cs[k + 1]? = some b → b ≤ a
def CountsOk (cs : List Int) : Prop := PlanOk cs ∧ Falls cs
theorem falls_dec {cs : List Int} : Falls cs ↔ (List.range (cs.length - 1)).filter (fun i => decide (cs.getD (i + 1) 0 > cs.getD i 0)) = [] := by
  constructor
  · intro h
    refine List.filter_eq_nil_iff.mpr fun i hi => ?_
    have hi' := List.mem_range.mp hi
    have h1 : cs[i]? = some cs[i] := List.getElem?_eq_getElem (by omega)
    have h2 : cs[i + 1]? = some cs[i + 1] := List.getElem?_eq_getElem (by omega)
    have := h i _ _ h1 h2
    simp [List.getD, h1, h2]
    omega
  · intro h k a b h1 h2
    have hk : k + 1 < cs.length := (List.getElem?_eq_some_iff.mp h2).1
    have := List.filter_eq_nil_iff.mp h k (List.mem_range.mpr (by omega))
    simp [List.getD, h1, h2] at this
    exact this
theorem rkC_drop {cs : List Int} {k : Nat} {x : Int} (h : cs[k]? = some x) : rkC (cs.drop k) = preC (cs.length - 1 - k) ((cs.drop k).sum) x.toNat + rkC (cs.drop (k + 1)) ∧ (cs.drop k).sum = x + (cs.drop (k + 1)).sum := by
  have hk := (List.getElem?_eq_some_iff.mp h).1
  have e : cs.drop k = x :: cs.drop (k + 1) := by
    rw [List.drop_eq_getElem_cons hk]
    congr 1
    exact (List.getElem?_eq_some_iff.mp h).2
  rw [e]
  refine ⟨?_, by rw [List.sum_cons]⟩
  show preC (cs.drop (k + 1)).length _ _ + _ = _
  rw [List.length_drop, show cs.length - (k + 1) = cs.length - 1 - k by omega]
theorem drop_nn {cs : List Int} (h : ∀ x ∈ cs, 0 ≤ x) (k : Nat) : ∀ x ∈ cs.drop k, 0 ≤ x := fun x hx => h x (List.mem_of_mem_drop hx)
theorem drop_le {cs : List Int} (h : ∀ x ∈ cs, 0 ≤ x) : ∀ k, (cs.drop k).sum ≤ cs.sum
  | 0 => by rw [List.drop_zero]; exact Int.le_refl _
  | k + 1 => by
    have ih := drop_le h k
    cases e : cs[k]? with
    | none =>
      have : cs.length ≤ k := List.getElem?_eq_none_iff.mp e
      rw [List.drop_eq_nil_of_le (show cs.length ≤ k + 1 by omega)]
      rw [List.drop_eq_nil_of_le this] at ih
      exact ih
    | some x =>
      have := (rkC_drop e).2
      have := h x (List.mem_of_getElem? e)
      omega
/-- on the way to the counts of a number -/
structure CPre (h : Int) (f : Nat) (n : Int) (ps : List Int) (left num mo : Int) : Prop where
  nl : 0 ≤ left
  lh : left ≤ h
  nm : 0 ≤ mo
  mh : mo ≤ h
  nn : 0 ≤ num
  lt : num < (fallN (f - ps.length) left.toNat mo.toNat : Nat)
  sm : ps.sum + left = h
  pos : ∀ x ∈ ps, 0 ≤ x
  ge : ∀ x ∈ ps, mo ≤ x
  fa : ps.Pairwise fun a b => b ≤ a
  rk : ∀ r : List Int, r.length + ps.length = f → r.sum = left → rkC (ps ++ r) = n - num + rkC r
theorem rkC_one (c : Int) (r : List Int) : rkC (c :: r) = preC r.length ((c :: r).sum) c.toNat + rkC r := rfl
theorem cpre_start {h n : Int} {f : Nat} (h0 : 0 ≤ h) (h1 : 0 ≤ n) (h2 : n < (fallN f h.toNat h.toNat : Nat)) : CPre h f n [] h n h :=
  ⟨h0, Int.le_refl _, h0, Int.le_refl _, h1, h2, by simp, nofun, nofun, List.Pairwise.nil, fun r _ _ => by simp⟩
theorem cpre_more {h n left num mo : Int} {f s : Nat} {ps : List Int} (p : CPre h f n ps left num mo) (hl : ps.length < f) (hs : (s : Int) ≤ left ∧ (s : Int) ≤ mo) (h1 : preC (f - 1 - ps.length) left s + (fallN (f - 1 - ps.length) (left - s).toNat s : Nat) ≤ num) : (s : Int) + 1 ≤ left ∧ (s : Int) + 1 ≤ mo := by
  have e1 : preC (f - 1 - ps.length) left (s + 1) ≤ num := h1
  have e2 := p.lt
  have e3 := preC_full (f - 1 - ps.length) left.toNat mo.toNat
  rw [show f - 1 - ps.length + 1 = f - ps.length by omega, Int.toNat_of_nonneg p.nl] at e3
  by_cases c : min left.toNat mo.toNat ≤ s
  · have := preC_le (rest := f - 1 - ps.length) (left := left) (show min left.toNat mo.toNat + 1 ≤ s + 1 by omega)
    omega
  · omega
theorem cpre_next {h n left num mo : Int} {f s : Nat} {ps : List Int} (p : CPre h f n ps left num mo) (hl : ps.length < f) (hs : (s : Int) ≤ left ∧ (s : Int) ≤ mo) (h0 : preC (f - 1 - ps.length) left s ≤ num) (h1 : num - preC (f - 1 - ps.length) left s < (fallN (f - 1 - ps.length) (left - s).toNat s : Nat)) : CPre h f n (ps ++ [(s : Int)]) (left - s) (num - preC (f - 1 - ps.length) left s) s where
  nl := by omega
  lh := by have := p.lh; omega
  nm := by omega
  mh := by have := p.mh; omega
  nn := by omega
  lt := by
    rw [List.length_append, List.length_singleton, show f - (ps.length + 1) = f - 1 - ps.length by omega, Int.toNat_natCast]
    exact h1
  sm := by
    have := p.sm
    rw [List.sum_append, List.sum_cons, List.sum_nil]
    omega
  pos := fun x hx => by
    rcases List.mem_append.mp hx with g | g
    · exact p.pos x g
    · rw [List.mem_singleton.mp g]; omega
  ge := fun x hx => by
    rcases List.mem_append.mp hx with g | g
    · have := p.ge x g
      omega
    · rw [List.mem_singleton.mp g]; omega
  fa := List.pairwise_append.mpr ⟨p.fa, List.pairwise_singleton _ _, fun a ha b hb => by
    rw [List.mem_singleton.mp hb]
    have := p.ge a ha
    omega⟩
  rk := fun r hr hs2 => by
    rw [List.length_append, List.length_singleton] at hr
    have e := p.rk ((s : Int) :: r) (by simp; omega) (by rw [List.sum_cons]; omega)
    rw [List.append_assoc]
    show rkC (ps ++ (s : Int) :: r) = _
    rw [e, rkC_one, List.sum_cons, hs2, show r.length = f - 1 - ps.length by omega, show (s : Int) + (left - s) = left by omega, Int.toNat_natCast]
    omega
theorem cpre_end {h n left num mo : Int} {f : Nat} {ps : List Int} (p : CPre h f n ps left num mo) (hl : ps.length = f) : left = 0 ∧ rkC ps = n := by
  have h1 := p.lt
  have h2 := p.nn
  rw [hl, Nat.sub_self] at h1
  have e : fallN 0 left.toNat mo.toNat = if left.toNat = 0 then 1 else 0 := rfl
  rw [e] at h1
  have h3 := p.nl
  have hl0 : left = 0 := by
    by_cases c : left.toNat = 0
    · omega
    · rw [if_neg c] at h1
      omega
  refine ⟨hl0, ?_⟩
  have h4 : num = 0 := by
    subst hl0
    have : num < 1 := h1
    omega
  have := p.rk [] (by simp; omega) (by simp [hl0])
  rw [List.append_nil] at this
  rw [this, h4]
  show n - 0 + 0 = n
  omega
theorem falls_of {ps : List Int} (h : ps.Pairwise fun a b => b ≤ a) : Falls ps := fun k a b h1 h2 => by
  obtain ⟨k1, e1⟩ := List.getElem?_eq_some_iff.mp h1
  obtain ⟨k2, e2⟩ := List.getElem?_eq_some_iff.mp h2
  have := List.pairwise_iff_getElem.mp h k (k + 1) k1 k2 (by omega)
  rw [e1, e2] at this
  exact this
/-! ### halves -/
theorem ceil_facts {left r : Int} (hr : 0 < r) : left ≤ (left + r - 1).fdiv r * r ∧ (left + r - 1).fdiv r * r ≤ left + r - 1 := by
  rw [Int.fdiv_eq_ediv_of_nonneg _ (Int.le_of_lt hr)]
  have h1 := Int.mul_ediv_add_emod (left + r - 1) r
  have h2 := Int.emod_nonneg (left + r - 1) (show r ≠ 0 by omega)
  have h3 := Int.emod_lt_of_pos (left + r - 1) hr
  rw [Int.mul_comm] at h1
  omega
theorem mul_lt {a b r : Int} (hr : 0 < r) (h : a + 1 ≤ b) : a * r + r ≤ b * r := by
  have := Int.mul_le_mul_of_nonneg_right h (Int.le_of_lt hr)
  rw [Int.add_mul, Int.one_mul] at this
  exact this
theorem ceil_le {left r m : Int} (hr : 0 < r) (h : left ≤ m * r) : (left + r - 1).fdiv r ≤ m := by
  have h1 := (ceil_facts (left := left) hr).2
  by_cases c : (left + r - 1).fdiv r ≤ m
  · exact c
  · have := mul_lt hr (show m + 1 ≤ (left + r - 1).fdiv r by omega)
    omega
theorem le_mul {left r : Int} (hr : 0 < r) (h : 0 ≤ left) : left ≤ left * r := by
  have := Int.mul_le_mul_of_nonneg_left (show (1 : Int) ≤ r by omega) h
  rwa [Int.mul_one] at this
theorem ceil_nn {left r : Int} (hr : 0 < r) (h : 0 ≤ left) : 0 ≤ (left + r - 1).fdiv r := by
  rw [Int.fdiv_eq_ediv_of_nonneg _ (Int.le_of_lt hr)]
  exact Int.ediv_nonneg (by omega) (Int.le_of_lt hr)
theorem share_next {left r c : Int} (hr : 0 < r) (h : (left + r - 1).fdiv r ≤ c) : left - c ≤ c * (r - 1) := by
  have h1 := (ceil_facts (left := left) hr).1
  have h2 := Int.mul_le_mul_of_nonneg_right h (Int.le_of_lt hr)
  rw [Int.mul_sub, Int.mul_one]
  omega
/-! ### lists that rise -/
theorem not_falls {cs : List Int} {k : Nat} {a b : Int} (h1 : cs[k]? = some a) (h2 : cs[k + 1]? = some b) (h : a < b) : ¬ CountsOk cs := fun z => by
  have := z.2 k a b h1 h2
  omega
/-! ### bounds -/
theorem sumF_le {f : Nat → Nat} {B : Nat} : ∀ n, (∀ i, i < n → f i ≤ B) → sumF f n ≤ n * B
  | 0, _ => Nat.zero_le _
  | n + 1, h => by
    have h1 := sumF_le n fun i hi => h i (Nat.lt_succ_of_lt hi)
    have h2 := h n (Nat.lt_succ_self n)
    show sumF f n + f n ≤ _
    rw [Nat.succ_mul]
    omega
theorem fall_le : ∀ s t m, fallN s t m ≤ (t + 1) ^ s
  | 0, t, m => by
    show (if t = 0 then 1 else 0) ≤ 1
    split <;> omega
  | s + 1, t, m => by
    show (if t = 0 then 1 else sumF _ (min t m)) ≤ _
    by_cases c : t = 0
    · subst c
      rw [if_pos rfl, Nat.zero_add, Nat.one_pow]
      exact Nat.le_refl _
    · rw [if_neg c]
      have h1 := sumF_le (f := fun i => fallN s (t - (i + 1)) (i + 1)) (B := (t + 1) ^ s) (min t m) fun i _ => Nat.le_trans (fall_le s _ _) (Nat.pow_le_pow_left (by omega) s)
      have h2 : min t m * (t + 1) ^ s ≤ (t + 1) * (t + 1) ^ s := Nat.mul_le_mul_right _ (by omega)
      rw [Nat.pow_succ, Nat.mul_comm ((t + 1) ^ s)]
      exact Nat.le_trans h1 h2
theorem sumF_ge {f : Nat → Nat} {i : Nat} : ∀ n, i < n → f i ≤ sumF f n
  | n + 1, h => by
    show _ ≤ sumF f n + f n
    by_cases c : i = n
    · subst c
      omega
    · have := sumF_ge (f := f) n (show i < n by omega)
      omega
theorem fall_pos {s t : Nat} (hs : 1 ≤ s) : 1 ≤ fallN s t t := by
  obtain ⟨s', rfl⟩ : ∃ s', s = s' + 1 := ⟨s - 1, by omega⟩
  show 1 ≤ if t = 0 then 1 else sumF _ (min t t)
  by_cases c : t = 0
  · rw [if_pos c]
    exact Nat.le_refl _
  · rw [if_neg c, Nat.min_self]
    have h := sumF_ge (f := fun i => fallN s' (t - (i + 1)) (i + 1)) (i := t - 1) t (by omega)
    rw [show t - (t - 1 + 1) = 0 by omega, fall_base (.inr rfl), if_pos rfl] at h
    exact h
theorem fall_bound {s t : Nat} (h1 : 1 ≤ s) (h2 : s ≤ 8) (h3 : t ≤ 40) : 0 < ((fallN s t t : Nat) : Int) ∧ ((fallN s t t : Nat) : Int) < 2 ^ 200 := by
  have a := fall_pos (t := t) h1
  have b := fall_le s t t
  have c : (t + 1) ^ s ≤ 41 ^ 8 := Nat.le_trans (Nat.pow_le_pow_left (show t + 1 ≤ 41 by omega) s) (Nat.pow_le_pow_right (by decide) h2)
  have d : (41 : Nat) ^ 8 = 7984925229121 := rfl
  omega
/-! ### a number tells its counts -/
theorem falls_le {cs : List Int} (h : Falls cs) {k : Nat} {a : Int} (h1 : cs[k]? = some a) : ∀ (d : Nat) (b : Int), cs[k + d]? = some b → b ≤ a
  | 0, b, h2 => by
    rw [Nat.add_zero, h1] at h2
    cases h2
    exact Int.le_refl _
  | d + 1, b, h2 => by
    have hk := (List.getElem?_eq_some_iff.mp h2).1
    have h3 : cs[k + d]? = some cs[k + d] := List.getElem?_eq_getElem (by omega)
    have := falls_le h h1 d _ h3
    have := h (k + d) _ _ h3 h2
    omega
theorem falls_pair {cs : List Int} (h : Falls cs) : cs.Pairwise fun a b => b ≤ a := List.pairwise_iff_getElem.mpr fun i j hi hj hij => by
  have h1 : cs[i]? = some cs[i] := List.getElem?_eq_getElem hi
  have h2 : cs[i + (j - i)]? = some cs[j] := by
    rw [show i + (j - i) = j by omega]
    exact List.getElem?_eq_getElem hj
  exact falls_le h h1 _ _ h2
theorem rkC_lt : ∀ {cs : List Int} {m : Int}, (cs.Pairwise fun a b => b ≤ a) → (∀ x ∈ cs, 0 ≤ x) → (∀ x ∈ cs, x ≤ m) → 0 ≤ m → rkC cs < (fallN cs.length cs.sum.toNat m.toNat : Nat)
  | [], m, _, _, _, _ => by
    show (0 : Int) < ((fallN 0 0 m.toNat : Nat) : Int)
    rw [fall_base (.inl rfl), if_pos rfl]
    decide
  | c :: r, m, h1, h2, h3, h4 => by
    have p1 := List.pairwise_cons.mp h1
    have c0 := h2 c List.mem_cons_self
    have cm := h3 c List.mem_cons_self
    have r0 : ∀ x ∈ r, 0 ≤ x := fun x hx => h2 x (List.mem_cons_of_mem _ hx)
    have rs := sum_nn r0
    have ih := rkC_lt p1.2 r0 (fun x hx => p1.1 x hx) c0
    rw [rkC_one, List.length_cons, List.sum_cons]
    have e := preC_full r.length (c + r.sum).toNat m.toNat
    rw [Int.toNat_of_nonneg (by omega)] at e
    have f := preC_le (rest := r.length) (left := c + r.sum) (show c.toNat + 1 ≤ min (c + r.sum).toNat m.toNat + 1 by omega)
    have g : preC r.length (c + r.sum) (c.toNat + 1) = preC r.length (c + r.sum) c.toNat + (fallN r.length (c + r.sum - c.toNat).toNat c.toNat : Nat) := rfl
    rw [show (c + r.sum - (c.toNat : Int)).toNat = r.sum.toNat by omega] at g
    omega
theorem rkC_nn : ∀ cs : List Int, 0 ≤ rkC cs
  | [] => Int.le_refl _
  | c :: r => by
    have := rkC_nn r
    have := preC_nn (rest := r.length) (left := (c :: r).sum) (i := c.toNat)
    rw [rkC_one]
    omega
theorem rkC_step {x y : Int} {r s : List Int} (hr : (x :: r).Pairwise fun a b => b ≤ a) (r0 : ∀ z ∈ x :: r, 0 ≤ z) (hl : r.length = s.length) (hs : (x :: r).sum = (y :: s).sum) (h : x < y) : rkC (x :: r) < rkC (y :: s) := by
  have p1 := List.pairwise_cons.mp hr
  have x0 := r0 x List.mem_cons_self
  have h1 := rkC_lt p1.2 (fun z hz => r0 z (List.mem_cons_of_mem _ hz)) (fun z hz => p1.1 z hz) x0
  have h2 := rkC_nn s
  have h3 := preC_le (rest := r.length) (left := (x :: r).sum) (show x.toNat + 1 ≤ y.toNat by omega)
  have g : preC r.length (x :: r).sum (x.toNat + 1) = preC r.length (x :: r).sum x.toNat + (fallN r.length ((x :: r).sum - x.toNat).toNat x.toNat : Nat) := rfl
  rw [show ((x :: r).sum - (x.toNat : Int)).toNat = r.sum.toNat by rw [List.sum_cons]; omega] at g
  rw [rkC_one, rkC_one, ← hl, ← hs]
  omega
theorem rkC_inj : ∀ {p q : List Int}, (p.Pairwise fun a b => b ≤ a) → (q.Pairwise fun a b => b ≤ a) → (∀ z ∈ p, 0 ≤ z) → (∀ z ∈ q, 0 ≤ z) → p.length = q.length → p.sum = q.sum → rkC p = rkC q → p = q
  | [], [], _, _, _, _, _, _, _ => rfl
  | [], _ :: _, _, _, _, _, h, _, _ => by simp at h
  | _ :: _, [], _, _, _, _, h, _, _ => by simp at h
  | x :: r, y :: s, h1, h2, h3, h4, h5, h6, h7 => by
    have hl : r.length = s.length := by simpa using h5
    rcases Int.lt_trichotomy x y with c | c | c
    · have := rkC_step h1 h3 hl h6 c
      omega
    · subst c
      have hs : r.sum = s.sum := by
        rw [List.sum_cons, List.sum_cons] at h6
        omega
      rw [rkC_one, rkC_one, h6, hl] at h7
      rw [rkC_inj (List.pairwise_cons.mp h1).2 (List.pairwise_cons.mp h2).2 (fun z hz => h3 z (List.mem_cons_of_mem _ hz)) (fun z hz => h4 z (List.mem_cons_of_mem _ hz)) hl hs (by omega)]
    · have := rkC_step h2 h4 hl.symm h6.symm c
      omega
theorem mem_le_sumC : ∀ {ps : List Int} {x : Int}, (∀ y ∈ ps, 0 ≤ y) → x ∈ ps → x ≤ ps.sum
  | [], x, _, h => by simp at h
  | y :: r, x, h0, h => by
    have h1 := sum_nn (ps := r) fun z hz => h0 z (List.mem_cons_of_mem _ hz)
    have h2 := h0 y List.mem_cons_self
    rw [List.sum_cons]
    rcases List.mem_cons.mp h with e | e
    · omega
    · have := mem_le_sumC (fun z hz => h0 z (List.mem_cons_of_mem _ hz)) e
      omega
theorem counts_lt {cs : List Int} (h : CountsOk cs) : rkC cs < (fallN cs.length cs.sum.toNat cs.sum.toNat : Nat) := rkC_lt (falls_pair h.2) h.1.2.1 (fun x hx => mem_le_sumC h.1.2.1 hx) (sum_nn h.1.2.1)
/-! ### all counts, gone through -/
def allC : Nat → Nat → Nat → List (List Int)
  | 0, h, _ => if h = 0 then [[]] else []
  | n + 1, h, m => (List.range (min h m + 1)).flatMap fun c => (allC n (h - c) c).map fun r => (c : Int) :: r
theorem allC_facts : ∀ n h m, ((allC n h m).length : Int) = (fallN n h m : Nat) ∧ ∀ (i : Nat) (ps : List Int), (allC n h m)[i]? = some ps → rkC ps = i ∧ ps.length = n ∧ ps.sum = h ∧ (∀ x ∈ ps, 0 ≤ x ∧ x ≤ m) ∧ ps.Pairwise fun a b => b ≤ a
  | 0, h, m => by
    unfold allC
    have e : fallN 0 h m = if h = 0 then 1 else 0 := rfl
    rw [e]
    by_cases c : h = 0
    · rw [if_pos c, if_pos c]
      refine ⟨rfl, fun i ps hp => ?_⟩
      match i, hp with
      | 0, hp =>
        simp at hp
        subst hp
        exact ⟨rfl, rfl, by simp [c], nofun, List.Pairwise.nil⟩
    · rw [if_neg c, if_neg c]
      exact ⟨rfl, fun i ps hp => by simp at hp⟩
  | n + 1, h, m => by
    have key : ∀ k, k ≤ min h m + 1 → (((List.range k).flatMap fun c => (allC n (h - c) c).map fun r => (c : Int) :: r).length : Int) = preC n h k ∧ ∀ (i : Nat) (ps : List Int), ((List.range k).flatMap fun c => (allC n (h - c) c).map fun r => (c : Int) :: r)[i]? = some ps → rkC ps = i ∧ ps.length = n + 1 ∧ ps.sum = h ∧ (∀ x ∈ ps, 0 ≤ x ∧ x ≤ m) ∧ ps.Pairwise fun a b => b ≤ a := by
      intro k
      induction k with
      | zero => exact fun _ => ⟨rfl, fun i ps hp => by simp at hp⟩
      | succ k ih =>
        intro hk
        obtain ⟨i1, i2⟩ := ih (by omega)
        obtain ⟨b1, b2⟩ := allC_facts n (h - k) k
        rw [List.range_succ, List.flatMap_append, List.flatMap_cons, List.flatMap_nil, List.append_nil]
        have e : ((h : Int) - (k : Int)).toNat = h - k := by omega
        refine ⟨?_, fun i ps hp => ?_⟩
        · rw [List.length_append, List.length_map]
          show _ = preC n h k + _
          rw [e]
          omega
        · rw [List.getElem?_append] at hp
          split at hp
          · exact i2 i ps hp
          · rename_i c
            rw [List.getElem?_map] at hp
            obtain ⟨r, e1, rfl⟩ := Option.map_eq_some_iff.mp hp
            obtain ⟨r1, r2, r3, r4, r5⟩ := b2 _ r e1
            refine ⟨?_, by simp [r2], by rw [List.sum_cons]; omega, fun x hx => ?_, List.pairwise_cons.mpr ⟨fun x hx => (r4 x hx).2, r5⟩⟩
            · show preC r.length (((k : Int) :: r).sum) (k : Int).toNat + rkC r = _
              rw [r1, r2, List.sum_cons, r3, Int.toNat_natCast, show (k : Int) + ((h - k : Nat) : Int) = h by omega]
              omega
            · rcases List.mem_cons.mp hx with z | z
              · rw [z]; omega
              · have := r4 x z
                omega
    obtain ⟨k1, k2⟩ := key (min h m + 1) (Nat.le_refl _)
    have e := preC_full n h m
    unfold allC
    exact ⟨by omega, k2⟩
theorem allC_len {n h m : Nat} : (allC n h m).length = fallN n h m := by
  have := (allC_facts n h m).1
  omega
theorem allC_at {n h i : Nat} {cs : List Int} (l : cs.length = n) (s : cs.sum = h) (p : ∀ c ∈ cs, 0 ≤ c) (f : Falls cs) (r : rkC cs = i) : (allC n h h)[i]? = some cs := by
  have a := rkC_lt (falls_pair f) p (fun x hx => mem_le_sumC p hx) (by omega)
  rw [r, l, s, Int.toNat_natCast] at a
  have b := allC_len (n := n) (h := h) (m := h)
  have hi : i < (allC n h h).length := by omega
  obtain ⟨r1, r2, r3, r4, r5⟩ := (allC_facts n h h).2 i _ (List.getElem?_eq_getElem hi)
  rw [List.getElem?_eq_getElem hi]
  congr 1
  exact rkC_inj r5 (falls_pair f) (fun z hz => (r4 z hz).1) p (by omega) (by omega) (by omega)
theorem allC_small {n h m : Nat} (hn : n ≤ 5) (hh : h ≤ 10) : (allC n h m).length ≤ 161051 := by
  rw [allC_len]
  have a := fall_le n h m
  have b : (h + 1) ^ n ≤ 11 ^ n := Nat.pow_le_pow_left (by omega) n
  have c : 11 ^ n ≤ 11 ^ 5 := Nat.pow_le_pow_right (by decide) hn
  have d : (11 : Nat) ^ 5 = 161051 := by decide
  omega
theorem allC_mem {n h m : Nat} {ps : List Int} (hp : ps ∈ allC n h m) : ps.length = n ∧ ps.sum = h ∧ ∀ x ∈ ps, 0 ≤ x ∧ x ≤ m := by
  obtain ⟨i, hi⟩ := List.mem_iff_getElem?.mp hp
  obtain ⟨_, b, c, d, _⟩ := (allC_facts n h m).2 i ps hi
  exact ⟨b, c, d⟩
section
variable {P : Program} {w : World} {K : PySem.W.Frag} {mg : Str → Option Value} {base : Heap}
def topS (i : Nat) : Stmt := PySem.Challenge.pw_hostfields_k43_tables_by_counts.main.body.getD i (.Pass ⟨0, 0, 0, 0⟩)
abbrev s_NoBattle_init : Stmt := inClass (topS 2) 0
abbrev s_is_number : Stmt := topS 8
abbrev s_are_numbers : Stmt := topS 9
abbrev s_is_rule : Stmt := topS 10
abbrev s_is_field : Stmt := topS 11
abbrev s_look_battle : Stmt := topS 12
abbrev s_paid : Stmt := topS 13
abbrev s_must_be_sizes : Stmt := topS 17
abbrev s_Fallings_init : Stmt := inClass (topS 18) 0
abbrev s_Fallings_many : Stmt := inClass (topS 18) 1
abbrev s_counts_many : Stmt := topS 19
abbrev s_counts_of : Stmt := topS 20
abbrev s_is_alike : Stmt := topS 22
abbrev s_must_be_alike : Stmt := topS 23
abbrev s_met : Stmt := topS 24
abbrev s_all_counts : Stmt := topS 25
abbrev s_table_by_counts : Stmt := topS 26
abbrev s_counts_table : Stmt := topS 27
abbrev s_l_purse : Stmt := topS 29
abbrev s_l_draw : Stmt := topS 30
abbrev s_l_whole : Stmt := topS 31
abbrev s_l_numbers : Stmt := topS 32
abbrev s_l_field : Stmt := topS 33
abbrev s_l_copy : Stmt := topS 34
abbrev s_l_pay : Stmt := topS 35
abbrev s_l_all : Stmt := topS 36
abbrev s_l_pairs : Stmt := topS 37
abbrev s_l_won : Stmt := topS 38
abbrev s_l_due : Stmt := topS 39
abbrev s_l_right : Stmt := topS 40
abbrev s_law : Stmt := topS 41
theorem sc_NoBattle_init : FnScope ["self", "field"] ["self", "field"] (defScope s_NoBattle_init) := ⟨rfl, rfl, rfl, by decide +kernel, rfl, by decide +kernel, by decide +kernel⟩
theorem sc_is_number : FnScope ["thing"] ["thing"] (defScope s_is_number) := ⟨rfl, rfl, rfl, by decide +kernel, rfl, by decide +kernel, by decide +kernel⟩
theorem sc_are_numbers : FnScope ["thing", "many", "number"] ["thing", "many"] (defScope s_are_numbers) := ⟨rfl, rfl, rfl, by decide +kernel, rfl, by decide +kernel, by decide +kernel⟩
theorem sc_is_rule : FnScope ["field"] ["field"] (defScope s_is_rule) := ⟨rfl, rfl, rfl, by decide +kernel, rfl, by decide +kernel, by decide +kernel⟩
theorem sc_is_field : FnScope ["field", "first", "second", "row"] ["field", "first", "second"] (defScope s_is_field) := ⟨rfl, rfl, rfl, by decide +kernel, rfl, by decide +kernel, by decide +kernel⟩
theorem sc_look_battle : FnScope ["battle", "first", "second", "fields", "k"] ["battle"] (defScope s_look_battle) := ⟨rfl, rfl, rfl, by decide +kernel, rfl, by decide +kernel, by decide +kernel⟩
theorem sc_paid : FnScope ["field", "x", "y"] ["field", "x", "y"] (defScope s_paid) := ⟨rfl, rfl, rfl, by decide +kernel, rfl, by decide +kernel, by decide +kernel⟩
theorem sc_must_be_sizes : FnScope ["hosts", "fields"] ["hosts", "fields"] (defScope s_must_be_sizes) := ⟨rfl, rfl, rfl, by decide +kernel, rfl, by decide +kernel, by decide +kernel⟩
theorem sc_Fallings_init : FnScope ["self"] ["self"] (defScope s_Fallings_init) := ⟨rfl, rfl, rfl, by decide +kernel, rfl, by decide +kernel, by decide +kernel⟩
theorem sc_Fallings_many : FnScope ["self", "total", "size", "most", "begins", "one"] ["self", "total", "size", "most"] (defScope s_Fallings_many) := ⟨rfl, rfl, rfl, by decide +kernel, rfl, by decide +kernel, by decide +kernel⟩
theorem sc_counts_many : FnScope ["hosts", "fields"] ["hosts", "fields"] (defScope s_counts_many) := ⟨rfl, rfl, rfl, by decide +kernel, rfl, by decide +kernel, by decide +kernel⟩
theorem sc_counts_of : FnScope ["hosts", "fields", "number", "fallings", "found", "left", "k", "sent"] ["hosts", "fields", "number"] (defScope s_counts_of) := ⟨rfl, rfl, rfl, by decide +kernel, rfl, by decide +kernel, by decide +kernel⟩
theorem sc_is_alike : FnScope ["battle", "field"] ["battle"] (defScope s_is_alike) := ⟨rfl, rfl, rfl, by decide +kernel, rfl, by decide +kernel, by decide +kernel⟩
theorem sc_must_be_alike : FnScope ["battle"] ["battle"] (defScope s_must_be_alike) := ⟨rfl, rfl, rfl, by decide +kernel, rfl, by decide +kernel, by decide +kernel⟩
theorem sc_met : FnScope ["field", "one", "other", "x", "y"] ["field", "one", "other"] (defScope s_met) := ⟨rfl, rfl, rfl, by decide +kernel, rfl, by decide +kernel, by decide +kernel⟩
theorem sc_all_counts : FnScope ["hosts", "many", "number"] ["hosts", "many"] (defScope s_all_counts) := ⟨rfl, rfl, rfl, by decide +kernel, rfl, by decide +kernel, by decide +kernel⟩
theorem sc_table_by_counts : FnScope ["battle", "first", "second", "fields", "others", "one", "other"] ["battle"] (defScope s_table_by_counts) := ⟨rfl, rfl, rfl, by decide +kernel, rfl, by decide +kernel, by decide +kernel⟩
theorem sc_counts_table : FnScope ["battle"] ["battle"] (defScope s_counts_table) := ⟨rfl, rfl, rfl, by decide +kernel, rfl, by decide +kernel, by decide +kernel⟩
theorem sc_l_purse : FnScope ["_law_script", "_law_cells"] ["_law_script"] (defScope s_l_purse) := ⟨rfl, rfl, rfl, by decide +kernel, rfl, by decide +kernel, by decide +kernel⟩
theorem sc_l_draw : FnScope ["_law_purse_here", "_law_out_of", "_law_cells", "_law_turn", "_law_at", "_law_cell", "_law_number", "_law_other"] ["_law_purse_here", "_law_out_of"] (defScope s_l_draw) := ⟨rfl, rfl, rfl, by decide +kernel, rfl, by decide +kernel, by decide +kernel⟩
theorem sc_l_whole : FnScope ["_law_found"] ["_law_found"] (defScope s_l_whole) := ⟨rfl, rfl, rfl, by decide +kernel, rfl, by decide +kernel, by decide +kernel⟩
theorem sc_l_numbers : FnScope ["_law_found", "_law_due_here", "_law_number"] ["_law_found", "_law_due_here"] (defScope s_l_numbers) := ⟨rfl, rfl, rfl, by decide +kernel, rfl, by decide +kernel, by decide +kernel⟩
theorem sc_l_field : FnScope ["_law_purse_here", "_law_first", "_law_second", "_law_kind", "_law_worth", "_law_tie", "_law_near", "_law_rows", "_law_top", "_law_x", "_law_y"] ["_law_purse_here", "_law_first", "_law_second"] (defScope s_l_field) := ⟨rfl, rfl, rfl, by decide +kernel, rfl, by decide +kernel, by decide +kernel⟩
theorem sc_l_copy : FnScope ["_law_field_here", "_law_row"] ["_law_field_here"] (defScope s_l_copy) := ⟨rfl, rfl, rfl, by decide +kernel, rfl, by decide +kernel, by decide +kernel⟩
theorem sc_l_pay : FnScope ["_law_field_here", "_law_x", "_law_y"] ["_law_field_here", "_law_x", "_law_y"] (defScope s_l_pay) := ⟨rfl, rfl, rfl, by decide +kernel, rfl, by decide +kernel, by decide +kernel⟩
theorem sc_l_all : FnScope ["_law_hosts", "_law_fields", "_law_most", "_law_found", "_law_one", "_law_rest"] ["_law_hosts", "_law_fields", "_law_most"] (defScope s_l_all) := ⟨rfl, rfl, rfl, by decide +kernel, rfl, by decide +kernel, by decide +kernel⟩
theorem sc_l_pairs : FnScope ["_law_one", "_law_found", "_law_x", "_law_place"] ["_law_one"] (defScope s_l_pairs) := ⟨rfl, rfl, rfl, by decide +kernel, rfl, by decide +kernel, by decide +kernel⟩
theorem sc_l_won : FnScope ["_law_field_here", "_law_pairs_here", "_law_other", "_law_place", "_law_x"] ["_law_field_here", "_law_pairs_here", "_law_other"] (defScope s_l_won) := ⟨rfl, rfl, rfl, by decide +kernel, rfl, by decide +kernel, by decide +kernel⟩
theorem sc_l_due : FnScope ["_law_first", "_law_second", "_law_field_here", "_law_many", "_law_others", "_law_due_here", "_law_one", "_law_pairs_here", "_law_other"] ["_law_first", "_law_second", "_law_field_here", "_law_many"] (defScope s_l_due) := ⟨rfl, rfl, rfl, by decide +kernel, rfl, by decide +kernel, by decide +kernel⟩
theorem sc_l_right : FnScope ["_law_found", "_law_due_here", "_law_k"] ["_law_found", "_law_due_here"] (defScope s_l_right) := ⟨rfl, rfl, rfl, by decide +kernel, rfl, by decide +kernel, by decide +kernel⟩
theorem sc_law : FnScope ["_law_script", "_law_purse_here", "_law_first", "_law_second", "_law_field_here", "_law_many", "_law_handed", "_law_due_here", "_law_again", "_law_found", "_law_kept", "_law_k", "_law_row"] ["_law_script"] (defScope s_law) := ⟨rfl, rfl, rfl, by decide +kernel, rfl, by decide +kernel, by decide +kernel⟩
structure Txt (K : PySem.W.Frag) (mg : Str → Option Value) where
  a_NoBattle_init : Addr
  d_NoBattle_init : FuncData
  F_NoBattle_init : Fun K "__init__" "NoBattle.__init__" s_NoBattle_init a_NoBattle_init d_NoBattle_init
  b_NoBattle_init : Binds K d_NoBattle_init ["self", "field"] []
  a_is_number : Addr
  d_is_number : FuncData
  F_is_number : Fun K "is_number" "is_number" s_is_number a_is_number d_is_number
  g_is_number : mg "is_number" = some (.ref a_is_number)
  b_is_number : Binds K d_is_number ["thing"] []
  a_are_numbers : Addr
  d_are_numbers : FuncData
  F_are_numbers : Fun K "are_numbers" "are_numbers" s_are_numbers a_are_numbers d_are_numbers
  g_are_numbers : mg "are_numbers" = some (.ref a_are_numbers)
  b_are_numbers : Binds K d_are_numbers ["thing", "many"] []
  a_is_rule : Addr
  d_is_rule : FuncData
  F_is_rule : Fun K "is_rule" "is_rule" s_is_rule a_is_rule d_is_rule
  g_is_rule : mg "is_rule" = some (.ref a_is_rule)
  b_is_rule : Binds K d_is_rule ["field"] []
  a_is_field : Addr
  d_is_field : FuncData
  F_is_field : Fun K "is_field" "is_field" s_is_field a_is_field d_is_field
  g_is_field : mg "is_field" = some (.ref a_is_field)
  b_is_field : Binds K d_is_field ["field", "first", "second"] []
  a_look_battle : Addr
  d_look_battle : FuncData
  F_look_battle : Fun K "look_battle" "look_battle" s_look_battle a_look_battle d_look_battle
  g_look_battle : mg "look_battle" = some (.ref a_look_battle)
  b_look_battle : Binds K d_look_battle ["battle"] []
  a_paid : Addr
  d_paid : FuncData
  F_paid : Fun K "paid" "paid" s_paid a_paid d_paid
  g_paid : mg "paid" = some (.ref a_paid)
  b_paid : Binds K d_paid ["field", "x", "y"] []
  a_must_be_sizes : Addr
  d_must_be_sizes : FuncData
  F_must_be_sizes : Fun K "must_be_sizes" "must_be_sizes" s_must_be_sizes a_must_be_sizes d_must_be_sizes
  g_must_be_sizes : mg "must_be_sizes" = some (.ref a_must_be_sizes)
  b_must_be_sizes : Binds K d_must_be_sizes ["hosts", "fields"] []
  a_Fallings_init : Addr
  d_Fallings_init : FuncData
  F_Fallings_init : Fun K "__init__" "Fallings.__init__" s_Fallings_init a_Fallings_init d_Fallings_init
  b_Fallings_init : Binds K d_Fallings_init ["self"] []
  a_Fallings_many : Addr
  d_Fallings_many : FuncData
  F_Fallings_many : Fun K "many" "Fallings.many" s_Fallings_many a_Fallings_many d_Fallings_many
  b_Fallings_many : Binds K d_Fallings_many ["self", "total", "size", "most"] []
  a_counts_many : Addr
  d_counts_many : FuncData
  F_counts_many : Fun K "counts_many" "counts_many" s_counts_many a_counts_many d_counts_many
  g_counts_many : mg "counts_many" = some (.ref a_counts_many)
  b_counts_many : Binds K d_counts_many ["hosts", "fields"] []
  a_counts_of : Addr
  d_counts_of : FuncData
  F_counts_of : Fun K "counts_of" "counts_of" s_counts_of a_counts_of d_counts_of
  g_counts_of : mg "counts_of" = some (.ref a_counts_of)
  b_counts_of : Binds K d_counts_of ["hosts", "fields", "number"] []
  a_is_alike : Addr
  d_is_alike : FuncData
  F_is_alike : Fun K "is_alike" "is_alike" s_is_alike a_is_alike d_is_alike
  g_is_alike : mg "is_alike" = some (.ref a_is_alike)
  b_is_alike : Binds K d_is_alike ["battle"] []
  a_must_be_alike : Addr
  d_must_be_alike : FuncData
  F_must_be_alike : Fun K "must_be_alike" "must_be_alike" s_must_be_alike a_must_be_alike d_must_be_alike
  g_must_be_alike : mg "must_be_alike" = some (.ref a_must_be_alike)
  b_must_be_alike : Binds K d_must_be_alike ["battle"] []
  a_met : Addr
  d_met : FuncData
  F_met : Fun K "met" "met" s_met a_met d_met
  g_met : mg "met" = some (.ref a_met)
  b_met : Binds K d_met ["field", "one", "other"] []
  a_all_counts : Addr
  d_all_counts : FuncData
  F_all_counts : Fun K "all_counts" "all_counts" s_all_counts a_all_counts d_all_counts
  g_all_counts : mg "all_counts" = some (.ref a_all_counts)
  b_all_counts : Binds K d_all_counts ["hosts", "many"] []
  a_table_by_counts : Addr
  d_table_by_counts : FuncData
  F_table_by_counts : Fun K "table_by_counts" "table_by_counts" s_table_by_counts a_table_by_counts d_table_by_counts
  g_table_by_counts : mg "table_by_counts" = some (.ref a_table_by_counts)
  b_table_by_counts : Binds K d_table_by_counts ["battle"] []
  a_counts_table : Addr
  d_counts_table : FuncData
  F_counts_table : Fun K "counts_table" "counts_table" s_counts_table a_counts_table d_counts_table
  g_counts_table : mg "counts_table" = some (.ref a_counts_table)
  b_counts_table : Binds K d_counts_table ["battle"] []
  a_l_purse : Addr
  d_l_purse : FuncData
  F_l_purse : Fun K "_law_purse" "_law_purse" s_l_purse a_l_purse d_l_purse
  g_l_purse : mg "_law_purse" = some (.ref a_l_purse)
  b_l_purse : Binds K d_l_purse ["_law_script"] []
  a_l_draw : Addr
  d_l_draw : FuncData
  F_l_draw : Fun K "_law_draw" "_law_draw" s_l_draw a_l_draw d_l_draw
  g_l_draw : mg "_law_draw" = some (.ref a_l_draw)
  b_l_draw : Binds K d_l_draw ["_law_purse_here", "_law_out_of"] []
  a_l_whole : Addr
  d_l_whole : FuncData
  F_l_whole : Fun K "_law_whole" "_law_whole" s_l_whole a_l_whole d_l_whole
  g_l_whole : mg "_law_whole" = some (.ref a_l_whole)
  b_l_whole : Binds K d_l_whole ["_law_found"] []
  a_l_numbers : Addr
  d_l_numbers : FuncData
  F_l_numbers : Fun K "_law_numbers" "_law_numbers" s_l_numbers a_l_numbers d_l_numbers
  g_l_numbers : mg "_law_numbers" = some (.ref a_l_numbers)
  b_l_numbers : Binds K d_l_numbers ["_law_found", "_law_due_here"] []
  a_l_field : Addr
  d_l_field : FuncData
  F_l_field : Fun K "_law_field" "_law_field" s_l_field a_l_field d_l_field
  g_l_field : mg "_law_field" = some (.ref a_l_field)
  b_l_field : Binds K d_l_field ["_law_purse_here", "_law_first", "_law_second"] []
  a_l_copy : Addr
  d_l_copy : FuncData
  F_l_copy : Fun K "_law_copy" "_law_copy" s_l_copy a_l_copy d_l_copy
  g_l_copy : mg "_law_copy" = some (.ref a_l_copy)
  b_l_copy : Binds K d_l_copy ["_law_field_here"] []
  a_l_pay : Addr
  d_l_pay : FuncData
  F_l_pay : Fun K "_law_pay" "_law_pay" s_l_pay a_l_pay d_l_pay
  g_l_pay : mg "_law_pay" = some (.ref a_l_pay)
  b_l_pay : Binds K d_l_pay ["_law_field_here", "_law_x", "_law_y"] []
  a_l_all : Addr
  d_l_all : FuncData
  F_l_all : Fun K "_law_all" "_law_all" s_l_all a_l_all d_l_all
  g_l_all : mg "_law_all" = some (.ref a_l_all)
  b_l_all : Binds K d_l_all ["_law_hosts", "_law_fields", "_law_most"] []
  a_l_pairs : Addr
  d_l_pairs : FuncData
  F_l_pairs : Fun K "_law_pairs" "_law_pairs" s_l_pairs a_l_pairs d_l_pairs
  g_l_pairs : mg "_law_pairs" = some (.ref a_l_pairs)
  b_l_pairs : Binds K d_l_pairs ["_law_one"] []
  a_l_won : Addr
  d_l_won : FuncData
  F_l_won : Fun K "_law_won" "_law_won" s_l_won a_l_won d_l_won
  g_l_won : mg "_law_won" = some (.ref a_l_won)
  b_l_won : Binds K d_l_won ["_law_field_here", "_law_pairs_here", "_law_other"] []
  a_l_due : Addr
  d_l_due : FuncData
  F_l_due : Fun K "_law_due" "_law_due" s_l_due a_l_due d_l_due
  g_l_due : mg "_law_due" = some (.ref a_l_due)
  b_l_due : Binds K d_l_due ["_law_first", "_law_second", "_law_field_here", "_law_many"] []
  a_l_right : Addr
  d_l_right : FuncData
  F_l_right : Fun K "_law_right" "_law_right" s_l_right a_l_right d_l_right
  g_l_right : mg "_law_right" = some (.ref a_l_right)
  b_l_right : Binds K d_l_right ["_law_found", "_law_due_here"] []
  a_law : Addr
  d_law : FuncData
  F_law : Fun K "law" "law" s_law a_law d_law
  g_law : mg "law" = some (.ref a_law)
  b_law : Binds K d_law ["_law_script"] []
  e_Fallings : Addr
  g_Fallings : mg "Fallings" = some (.ref e_Fallings)
  pg_Fallings : PySem.W.plainGet K e_Fallings Str.empty = true
  ph_Fallings : PySem.W.hasDictIn K e_Fallings = true
  po_Fallings : PySem.W.plainOver K e_Fallings = true
  ps_Fallings : PySem.W.findIn K (.ref e_Fallings) "__setattr__" = some (some (.builtin "object.__setattr__"))
  pm_Fallings : PySem.W.makesIn K e_Fallings = true
  pk_Fallings : PySem.W.keepIn K (.ref e_Fallings) = true
  pf_Fallings_init : PySem.W.findIn K (.ref e_Fallings) "__init__" = some (some (.ref a_Fallings_init))
  pn_Fallings_init : PySem.W.isFn K (.ref a_Fallings_init) = true
  pp_Fallings_init : PySem.W.keepIn K (.ref a_Fallings_init) = true
  pf_Fallings_many : PySem.W.findIn K (.ref e_Fallings) "many" = some (some (.ref a_Fallings_many))
  pn_Fallings_many : PySem.W.isFn K (.ref a_Fallings_many) = true
  pp_Fallings_many : PySem.W.keepIn K (.ref a_Fallings_many) = true
  pa_Fallings_known : PySem.W.findIn K (.ref e_Fallings) "known" = some none
  z_bool : mg "bool" = none
  z_int : mg "int" = none
  z_isinstance : mg "isinstance" = none
  z_len : mg "len" = none
  z_list : mg "list" = none
  z_max : mg "max" = none
  z_min : mg "min" = none
  z_range : mg "range" = none
  z_sum : mg "sum" = none
  t_MOST_HOSTS_fields : Tok
  c_MOST_HOSTS_fields : mg "MOST_HOSTS_fields" = some (.int 10 t_MOST_HOSTS_fields)
  t_MOST_FIELDS_fields : Tok
  c_MOST_FIELDS_fields : mg "MOST_FIELDS_fields" = some (.int 5 t_MOST_FIELDS_fields)
  t_MOST_HOSTS_plans : Tok
  c_MOST_HOSTS_plans : mg "MOST_HOSTS_plans" = some (.int 40 t_MOST_HOSTS_plans)
  t_MOST_FIELDS_plans : Tok
  c_MOST_FIELDS_plans : mg "MOST_FIELDS_plans" = some (.int 8 t_MOST_FIELDS_plans)
  e_HostError : Addr
  g_HostError : mg "HostError" = some (.ref e_HostError)
  i_HostError : PySem.W.isClsIn K e_HostError = true
  t_HostError : PySem.W.typeIn K (.ref e_HostError) = some (.type "type")
  y_HostError : PySem.W.subIn K (.ref e_HostError) (.type "BaseException") = some true
  e_NoBattle : Addr
  g_NoBattle : mg "NoBattle" = some (.ref e_NoBattle)
  i_NoBattle : PySem.W.isClsIn K e_NoBattle = true
  t_NoBattle : PySem.W.typeIn K (.ref e_NoBattle) = some (.type "type")
  y_NoBattle : PySem.W.subIn K (.ref e_NoBattle) (.type "BaseException") = some true
  e_NoPlan : Addr
  g_NoPlan : mg "NoPlan" = some (.ref e_NoPlan)
  i_NoPlan : PySem.W.isClsIn K e_NoPlan = true
  t_NoPlan : PySem.W.typeIn K (.ref e_NoPlan) = some (.type "type")
  y_NoPlan : PySem.W.subIn K (.ref e_NoPlan) (.type "BaseException") = some true
  x_NoPlan : PySem.W.excIn K e_NoPlan [.type "ValueError", .type "Exception", .type "BaseException", .type "object"] "ValueError.__new__" = true
  k_NoPlan : PySem.W.keepIn K (.ref e_NoPlan) = true
  hg_NoPlan : PySem.W.findIn K (.ref e_NoPlan) "__getattribute__" = some (some (.builtin "BaseException.__getattribute__"))
  hk_NoPlan : PySem.W.findIn K (.ref e_NoPlan) "__getattr__" = some none
  hd_NoPlan : PySem.W.hasDictIn K e_NoPlan = true
  ha_NoPlan : PySem.W.findIn K (.ref e_NoPlan) "__class__" = some (some (.builtin "object.__class__"))
  hm_NoPlan : PySem.W.mroIn K e_NoPlan (.type "object") = some true
  v_NoPlan : PySem.W.subIn K (.ref e_NoPlan) (.type "ValueError") = some true
  s_NoPlan_HostError : PySem.W.subIn K (.ref e_NoPlan) (.ref e_HostError) = some true
  s_NoPlan_NoBattle : PySem.W.subIn K (.ref e_NoPlan) (.ref e_NoBattle) = some false
  s_NoPlan_NoPlan : PySem.W.subIn K (.ref e_NoPlan) (.ref e_NoPlan) = some true
  oc_NoBattle : ∃ nm q N bs bm sn sub ab col dd k0 k1 k2 k3 k5, K.lookup e_NoBattle = some (excClassObj nm q e_NoBattle N bs bm true sn sub ab col dd k0 k1 k2 k3 k5 "ValueError.__new__") ∧ PySem.HandSPX.refsVE bm = true
  sa_NoBattle : PySem.W.findIn K (.ref e_NoBattle) "__setattr__" = some (some (.builtin "object.__setattr__"))
  ic_NoBattle : PySem.W.findIn K (.ref e_NoBattle) "__init__" = some (some (.ref a_NoBattle_init))
  ti_NoBattle : PySem.W.typeIn K (.ref a_NoBattle_init) = some (.type "function")
  no_NoBattle_field : PySem.W.findIn K (.ref e_NoBattle) "field" = some none
  rd_HostError : PySem.W.readsIn K e_HostError (.type "type") = true
  ga_HostError : PySem.W.specialIn K (.ref e_HostError) "__getattribute__" = some (some (.builtin "type.__getattribute__"))
  fc_HostError : PySem.W.findCls K (.ref e_HostError) (.type "type") "__init__" = some (.val (.builtin "ValueError.__init__"))
  k_NoBattle : PySem.W.keepIn K (.ref e_NoBattle) = true
  hg_NoBattle : PySem.W.findIn K (.ref e_NoBattle) "__getattribute__" = some (some (.builtin "BaseException.__getattribute__"))
  hk_NoBattle : PySem.W.findIn K (.ref e_NoBattle) "__getattr__" = some none
  hd_NoBattle : PySem.W.hasDictIn K e_NoBattle = true
  ha_NoBattle : PySem.W.findIn K (.ref e_NoBattle) "__class__" = some (some (.builtin "object.__class__"))
  hm_NoBattle : PySem.W.mroIn K e_NoBattle (.type "object") = some true
  v_NoBattle : PySem.W.subIn K (.ref e_NoBattle) (.type "ValueError") = some true
  s_NoBattle_HostError : PySem.W.subIn K (.ref e_NoBattle) (.ref e_HostError) = some true
  s_NoBattle_NoBattle : PySem.W.subIn K (.ref e_NoBattle) (.ref e_NoBattle) = some true
  s_NoBattle_NoPlan : PySem.W.subIn K (.ref e_NoBattle) (.ref e_NoPlan) = some false
  ho_n : PySem.W.specialIn K (.builtin "object.__class__") "__get__" = some (some (.builtin "getset_descriptor.__get__"))
  ho_t : PySem.W.takesIn K (.builtin "object.__class__") = some true
theorem Txt.C_Fallings {K : PySem.W.Frag} {mg : Str → Option Value} (T : Txt K mg) : Cls K T.e_Fallings := ⟨T.pg_Fallings, T.ph_Fallings, T.po_Fallings, T.ps_Fallings⟩
theorem Txt.M_Fallings {K : PySem.W.Frag} {mg : Str → Option Value} (T : Txt K mg) : Mk K T.e_Fallings T.a_Fallings_init := ⟨T.pm_Fallings, T.pf_Fallings_init, T.pn_Fallings_init, T.pk_Fallings⟩
theorem Txt.m_Fallings_many {K : PySem.W.Frag} {mg : Str → Option Value} (T : Txt K mg) : Meth K T.e_Fallings "many" T.a_Fallings_many := ⟨T.pf_Fallings_many, T.pn_Fallings_many, T.pp_Fallings_many⟩
theorem Txt.N_Fallings_known {K : PySem.W.Frag} {mg : Str → Option Value} (T : Txt K mg) : NoAttr K T.e_Fallings "known" := T.pa_Fallings_known
local macro_rules | `(tactic| walk_at "g_cls") => `(tactic| first | exact Txt.C_Fallings _ | exact Txt.N_Fallings_known _)
section
variable {K : PySem.W.Frag} {mg : Str → Option Value} (T : Txt K mg)
include T
theorem Txt.O_NoBattle : OexC K T.e_NoBattle := ⟨T.oc_NoBattle, T.sa_NoBattle, T.y_NoBattle, T.t_NoBattle, T.k_NoBattle⟩
theorem cl_HostError : ClsT K T.e_HostError := ⟨T.i_HostError, T.t_HostError⟩
theorem cl_NoBattle : ClsT K T.e_NoBattle := ⟨T.i_NoBattle, T.t_NoBattle⟩
theorem cl_NoPlan : ClsT K T.e_NoPlan := ⟨T.i_NoPlan, T.t_NoPlan⟩
theorem exc_NoPlan : L2.ExcC K T.e_NoPlan := ⟨T.hg_NoPlan, T.hk_NoPlan, T.y_NoPlan, T.hd_NoPlan, T.ha_NoPlan, T.ho_n, T.ho_t, T.hm_NoPlan⟩
theorem kit_NoPlan_ValueError : PySem.W.kitOne K (.ref T.e_NoPlan) (.type "ValueError") = some true := kit_v T.v_NoPlan (by decide +kernel)
theorem kit_NoPlan_HostError : PySem.W.kitOne K (.ref T.e_NoPlan) (.ref T.e_HostError) = some true := kit_t (cl_HostError T) T.s_NoPlan_HostError
theorem exm_NoPlan_HostError : PySem.W.exmOne K (.ref T.e_NoPlan) (.ref T.e_HostError) = some true := exm_t (cl_HostError T) T.y_HostError T.s_NoPlan_HostError
theorem kit_NoPlan_NoBattle : PySem.W.kitOne K (.ref T.e_NoPlan) (.ref T.e_NoBattle) = some false := kit_f (cl_NoBattle T) T.s_NoPlan_NoPlan T.s_NoPlan_NoBattle
theorem kit_NoPlan_NoPlan : PySem.W.kitOne K (.ref T.e_NoPlan) (.ref T.e_NoPlan) = some true := kit_t (cl_NoPlan T) T.s_NoPlan_NoPlan
theorem exm_NoPlan_NoPlan : PySem.W.exmOne K (.ref T.e_NoPlan) (.ref T.e_NoPlan) = some true := exm_t (cl_NoPlan T) T.y_NoPlan T.s_NoPlan_NoPlan
theorem exc_NoBattle : L2.ExcC K T.e_NoBattle := ⟨T.hg_NoBattle, T.hk_NoBattle, T.y_NoBattle, T.hd_NoBattle, T.ha_NoBattle, T.ho_n, T.ho_t, T.hm_NoBattle⟩
theorem kit_NoBattle_ValueError : PySem.W.kitOne K (.ref T.e_NoBattle) (.type "ValueError") = some true := kit_v T.v_NoBattle (by decide +kernel)
theorem kit_NoBattle_HostError : PySem.W.kitOne K (.ref T.e_NoBattle) (.ref T.e_HostError) = some true := kit_t (cl_HostError T) T.s_NoBattle_HostError
theorem exm_NoBattle_HostError : PySem.W.exmOne K (.ref T.e_NoBattle) (.ref T.e_HostError) = some true := exm_t (cl_HostError T) T.y_HostError T.s_NoBattle_HostError
theorem kit_NoBattle_NoBattle : PySem.W.kitOne K (.ref T.e_NoBattle) (.ref T.e_NoBattle) = some true := kit_t (cl_NoBattle T) T.s_NoBattle_NoBattle
theorem exm_NoBattle_NoBattle : PySem.W.exmOne K (.ref T.e_NoBattle) (.ref T.e_NoBattle) = some true := exm_t (cl_NoBattle T) T.y_NoBattle T.s_NoBattle_NoBattle
theorem kit_NoBattle_NoPlan : PySem.W.kitOne K (.ref T.e_NoBattle) (.ref T.e_NoPlan) = some false := kit_f (cl_NoPlan T) T.s_NoBattle_NoBattle T.s_NoBattle_NoPlan
end
local macro_rules | `(tactic| walk_at "g_oex") => `(tactic| first | (with_reducible exact Txt.O_NoBattle _))
local macro_rules | `(tactic| walk_at "g_nof") => `(tactic| first | (with_reducible exact Txt.no_NoBattle_field _))
local macro_rules | `(tactic| walk_at "g_kit") => `(tactic| first | (with_reducible exact kit_NoPlan_ValueError _) | (with_reducible exact kit_NoPlan_HostError _) | (with_reducible exact kit_NoPlan_NoBattle _) | (with_reducible exact kit_NoPlan_NoPlan _) | (with_reducible exact kit_NoBattle_ValueError _) | (with_reducible exact kit_NoBattle_HostError _) | (with_reducible exact kit_NoBattle_NoBattle _) | (with_reducible exact kit_NoBattle_NoPlan _))
local macro_rules | `(tactic| walk_at "g_exc") => `(tactic| first | (with_reducible exact exc_NoPlan _) | (with_reducible exact exc_NoBattle _))
local macro_rules | `(tactic| walk_at "g_exm") => `(tactic| first | (with_reducible exact exm_NoPlan_HostError _) | (with_reducible exact exm_NoPlan_NoPlan _) | (with_reducible exact exm_NoBattle_HostError _) | (with_reducible exact exm_NoBattle_NoBattle _))
local macro_rules | `(tactic| walk_at "g_clt") => `(tactic| first | (with_reducible exact cl_HostError _) | (with_reducible exact cl_NoBattle _) | (with_reducible exact cl_NoPlan _))
def sp_l_purse (K : PySem.W.Frag) : Sp := fun vs H Q E => ∃ (a : Addr) (ns : List Int), vs = [.ref a] ∧ (SqL K H a (ns.map V.int)) ∧ ∀ (p c : Addr) (H' : Hp), (Pc p c H' 0) → (Same H H') → (H p = none) → (H c = none) → Q (.ref p) H'
theorem use_l_purse {K : PySem.W.Frag} {H : Hp} {Q : VK} {E : XK} {a : Addr} {ns : List Int} (p0 : SqL K H a (ns.map V.int)) (k : ∀ (p c : Addr) (H' : Hp), (Pc p c H' 0) → (Same H H') → (H p = none) → (H c = none) → Q (.ref p) H') : sp_l_purse K [.ref a] H Q E := ⟨a, ns, rfl, p0, k⟩
theorem len_l_purse {K : PySem.W.Frag} (vs : List V) (H : Hp) (Q : VK) (E : XK) (h : sp_l_purse K vs H Q E) : vs.length = ["_law_script"].length := by
  obtain ⟨_, _, rfl, _⟩ := h
  rfl
local macro_rules | `(tactic| walk_at "g_call") => `(tactic| ((with_reducible refine' use_l_purse ?c0 ?_); (case c0 => walk_at "g_pre"); intros))
theorem ok_l_purse (T : Txt K mg) : FnOk P w K mg base CX0 1 T.a_l_purse T.d_l_purse ["_law_script"] (sp_l_purse K) := by
  refine T.F_l_purse.ok sc_l_purse len_l_purse (fun cdv A outer s H vs Q E hr h => ?_)
  refine ⟨_, (pss_cons (ps_set (i := 1) sc_l_purse.nd rfl (Or.inl rfl) (pe_slice (sl_listK K rfl) (pv 0) po_none (po_some pe_int)))
      (pss_cons (ps_if (pt_cmpR (op_eqDK K rfl hr.units) (pv 1) (pe_lst pa_nil) (nomark _)) (pss_one (ps_set (i := 1) sc_l_purse.nd rfl (Or.inl rfl) (pe_lst (pa_cons pe_int pa_nil)))) pss_nil)
      (pss_one (ps_ret (pe_lst (pa_cons (pv 1) (pa_cons pe_int pa_nil))))))), ?_⟩
  try dsimp only [L2.cxOf, L2.Cx.nox, L2.Cx.wish, List.map_cons, List.map_nil]
  obtain ⟨a, ns, rfl, p0, k⟩ := h
  refine start_to (σ := [some _, none]) rfl ?_
  walk_at "goI"
  rename_i c nc
  refine if_join (fun σ' H' => ∃ (c' : Addr) (ms : List Int), σ' = [some (.ref a), some (.ref c')] ∧ H' c' = some (.lst (ms.map V.int)) ∧ Same H H' ∧ H c' = none ∧ 1 ≤ ms.length ∧ ms.length ≤ 63) (fun nx' hn => ?_) ?_
  · walk_at "go"
    rename_i q nq
    have hq : H q = none := by walk_at "g_free"
    refine ite_d (fun c1 => ?_) (fun c1 => ?_)
    · walk_at "go"
      rename_i r nr
      refine hn _ _ ⟨_, [0], rfl, upd_same, by walk_at "g_same", by walk_at "g_free", by decide, by decide⟩
    · walk_at "go"
      refine hn _ _ ⟨_, _, rfl, by walk_at "g_lk", by walk_at "g_same", nc, ?_, ?_⟩
      · cases h : ns.take (Int.toNat 63) with
        | nil => exact absurd h c1
        | cons x r => simp
      · simp
        omega
  · rintro σ' H' ⟨c', ms, rfl, h1, h2, h3, h4, h5⟩
    walk_at "go"
    rename_i p np
    exact k _ _ _ ⟨ms, 0, upd_same, by walk_at "g_lk", by walk_at "g_ne", ⟨h4, h5⟩, by decide, by decide⟩ (by walk_at "g_same") (by walk_at "g_free") h3
def sp_l_draw (K : PySem.W.Frag) : Sp := fun vs H Q E => ∃ (p c : Addr) (z b : Int), vs = [.ref p, .int b] ∧ (Pc p c H z) ∧ (z ≤ 1000000) ∧ (0 < b ∧ b < 2 ^ 200) ∧ ∀ (d : Int) (H' : Hp), (0 ≤ d ∧ d < b) → (Pc p c H' (z + 1)) → (But2 p c H H') → Q (.int d) H'
theorem use_l_draw {K : PySem.W.Frag} {H : Hp} {Q : VK} {E : XK} {p c : Addr} {z b : Int} (p0 : Pc p c H z) (p1 : z ≤ 1000000) (p2 : 0 < b ∧ b < 2 ^ 200) (k : ∀ (d : Int) (H' : Hp), (0 ≤ d ∧ d < b) → (Pc p c H' (z + 1)) → (But2 p c H H') → Q (.int d) H') : sp_l_draw K [.ref p, .int b] H Q E := ⟨p, c, z, b, rfl, p0, p1, p2, k⟩
theorem len_l_draw {K : PySem.W.Frag} (vs : List V) (H : Hp) (Q : VK) (E : XK) (h : sp_l_draw K vs H Q E) : vs.length = ["_law_purse_here", "_law_out_of"].length := by
  obtain ⟨_, _, _, _, rfl, _⟩ := h
  rfl
local macro_rules | `(tactic| walk_at "g_call") => `(tactic| ((with_reducible refine' use_l_draw ?c0 ?c1 ?c2 ?_); (case c0 => walk_at "g_pre"); (case c1 => walk_at "g_pre"); (case c2 => walk_at "g_pre"); intros))
theorem ok_l_draw (T : Txt K mg) : FnOk P w K mg base CX0 1 T.a_l_draw T.d_l_draw ["_law_purse_here", "_law_out_of"] (sp_l_draw K) := by
  refine T.F_l_draw.ok sc_l_draw len_l_draw (fun cdv A outer s H vs Q E hr h => ?_)
  refine ⟨_, (pss_cons (ps_asg (pv 0) (pg_lstK K rfl 2 rfl (pgs_cons (pg_name (i := 2) sc_l_draw.nd rfl (Or.inl rfl)) (pgs_cons (pg_name (i := 3) sc_l_draw.nd rfl (Or.inl rfl)) pgs_nil))))
      (pss_cons (ps_set (i := 4) sc_l_draw.nd rfl (Or.inl rfl) (pe_op op_mod (pv 3) (pe_callB (call_lenK K rfl) (by rfl) T.z_len (by decide +kernel) (pa_cons (pv 2) pa_nil))))
      (pss_cons (ps_set (i := 5) sc_l_draw.nd rfl (Or.inl rfl) (pe_ix (ix_listK K rfl) (pv 2) (pv 4) (fun _ _ => rfl)))
      (pss_cons (ps_asg (pe_op op_add (pv 3) pe_int) (pg_sub (pv 0) pe_int set_list))
      (pss_cons (ps_if (pt_cmpR op_ge (pv 5) (pe_op op_pow pe_int pe_int) (nomark _)) (pss_cons (ps_asg (pe_op op_fdivA (pv 5) (pv 1)) (pg_sub (pv 2) (pv 4) set_list))
      (pss_one (ps_ret (pe_op op_mod (pv 5) (pv 1))))) pss_nil)
      (pss_cons (ps_set (i := 6) sc_l_draw.nd rfl (Or.inl rfl) (pe_op op_mod (pe_op op_add (pe_op op_add (pe_op op_mulA (pe_op op_mod (pv 5) pe_int) pe_int) (pe_op op_mulA (pe_op op_mulA (pv 3) (pv 3)) pe_int)) pe_int) pe_int))
      (pss_cons (ps_set (i := 6) sc_l_draw.nd rfl (Or.inl rfl) (pe_op op_mod (pe_op op_mulA (pv 6) (pv 6)) pe_int))
      (pss_cons (ps_set (i := 6) sc_l_draw.nd rfl (Or.inl rfl) (pe_op op_mod (pe_op op_mulA (pv 6) (pv 6)) pe_int))
      (pss_cons (ps_if (pt_cmpR op_gt (pv 1) (pe_op op_pow pe_int pe_int) (nomark _)) (pss_cons (ps_set (i := 7) sc_l_draw.nd rfl (Or.inl rfl) (pe_op op_mod (pe_op op_add (pe_op op_add (pe_op op_mulA (pv 6) pe_int) (pe_op op_mulA (pv 3) pe_int)) pe_int) pe_int))
      (pss_one (ps_set (i := 6) sc_l_draw.nd rfl (Or.inl rfl) (pe_op op_mulA (pv 6) (pe_op op_add (pe_op op_pow (pv 7) pe_int) pe_int))))) pss_nil)
      (pss_one (ps_ret (pe_op op_mod (pv 6) (pv 1))))))))))))), ?_⟩
  try dsimp only [L2.cxOf, L2.Cx.nox, L2.Cx.wish, List.map_cons, List.map_nil]
  obtain ⟨p, c, z, b, rfl, ⟨ms, t, p0, p1, p2, p3, p4⟩, p6, p5, k⟩ := h
  refine start_to (σ := [some _, some _, none, none, none, none, none, none]) rfl ?_
  have hl : 0 < (ms.length : Int) := by omega
  have hm0 := Int.emod_nonneg t (show (ms.length : Int) ≠ 0 by omega)
  have hm1 := Int.emod_lt_of_pos t hl
  walk_at "go"
  refine ite_d (fun c1 => ?_) (fun c1 => ?_)
  · walk_at "go"
    exact k _ _ ⟨Int.emod_nonneg _ (by omega), Int.emod_lt_of_pos _ (by omega)⟩ ⟨_, t + 1, by walk_at "g_lk", upd_same, p2, by rw [List.length_set]; exact p3, by omega, by omega⟩ (by walk_at "g_but2")
  · walk_at "go"
    refine ite_d (fun c2 => ?_) (fun c2 => ?_)
    · walk_at "go"
      exact k _ _ ⟨Int.emod_nonneg _ (by omega), Int.emod_lt_of_pos _ (by omega)⟩ ⟨ms, t + 1, upd_same, by walk_at "g_lk", p2, p3, by omega, by omega⟩ (by walk_at "g_but2")
    · walk_at "go"
      exact k _ _ ⟨Int.emod_nonneg _ (by omega), Int.emod_lt_of_pos _ (by omega)⟩ ⟨ms, t + 1, upd_same, by walk_at "g_lk", p2, p3, by omega, by omega⟩ (by walk_at "g_but2")

def sp_Fallings_init (K : PySem.W.Frag) (C : Addr) : Sp := fun vs H Q E => ∃ (x dx : Addr), vs = [.ref x] ∧ (H x = some (.ins C dx [])) ∧ ∀ (d : Addr), (H d = none) → Q (.non) (upd (upd H d (.dT [])) x (.ins C dx [("known", .ref d)]))
theorem use_Fallings_init {K : PySem.W.Frag} {C : Addr} {H : Hp} {Q : VK} {E : XK} {x dx : Addr} (p0 : H x = some (.ins C dx [])) (k : ∀ (d : Addr), (H d = none) → Q (.non) (upd (upd H d (.dT [])) x (.ins C dx [("known", .ref d)]))) : sp_Fallings_init K C [.ref x] H Q E := ⟨x, dx, rfl, p0, k⟩
theorem len_Fallings_init {K : PySem.W.Frag} {C : Addr} (vs : List V) (H : Hp) (Q : VK) (E : XK) (h : sp_Fallings_init K C vs H Q E) : vs.length = ["self"].length := by
  obtain ⟨_, _, rfl, _⟩ := h
  rfl
local macro_rules | `(tactic| walk_at "g_call") => `(tactic| ((with_reducible refine' use_Fallings_init ?c0 ?_); (case c0 => walk_at "g_pre"); intros))
theorem ok_Fallings_init (T : Txt K mg) : FnOk P w K mg base CX0 1 T.a_Fallings_init T.d_Fallings_init ["self"] (sp_Fallings_init K (T.e_Fallings)) := by
  refine T.F_Fallings_init.ok sc_Fallings_init len_Fallings_init (fun cdv A outer s H vs Q E hr h => ?_)
  refine ⟨_, (pss_one (ps_fld (pv 0) pe_dnewT rfl)), ?_⟩
  try dsimp only [L2.cxOf, L2.Cx.nox, L2.Cx.wish, List.map_cons, List.map_nil]
  obtain ⟨x, dx, rfl, p0, k⟩ := h
  refine start_to (σ := [some _]) rfl ?_
  walk_at "go"
  exact k _ (by assumption)
def sp_Fallings_many (K : PySem.W.Frag) (n : Nat) (C : Addr) : Sp := fun vs H Q E => ∃ (x d dx : Addr) (kvs : List (List Key × V)) (t s m : Int), vs = [.ref x, .int t, .int s, .int m] ∧ (H x = some (.ins C dx [("known", .ref d)])) ∧ (H d = some (.dT kvs)) ∧ (Good kvs) ∧ ((0 ≤ t ∧ t ≤ 40) ∧ (0 ≤ m ∧ m ≤ 40) ∧ 0 ≤ s ∧ s < n ∧ s ≤ 8) ∧ ∀ (kvs' : List (List Key × V)) (H' : Hp), (H' d = some (.dT kvs')) → (Good kvs') → (But d H H') → Q (.int (fallN s.toNat t.toNat m.toNat : Nat)) H'
theorem use_Fallings_many {K : PySem.W.Frag} {n : Nat} {C : Addr} {H : Hp} {Q : VK} {E : XK} {x d dx : Addr} {kvs : List (List Key × V)} {t s m : Int} (p0 : H x = some (.ins C dx [("known", .ref d)])) (p1 : H d = some (.dT kvs)) (p2 : Good kvs) (p3 : (0 ≤ t ∧ t ≤ 40) ∧ (0 ≤ m ∧ m ≤ 40) ∧ 0 ≤ s ∧ s < n ∧ s ≤ 8) (k : ∀ (kvs' : List (List Key × V)) (H' : Hp), (H' d = some (.dT kvs')) → (Good kvs') → (But d H H') → Q (.int (fallN s.toNat t.toNat m.toNat : Nat)) H') : sp_Fallings_many K n C [.ref x, .int t, .int s, .int m] H Q E := ⟨x, d, dx, kvs, t, s, m, rfl, p0, p1, p2, p3, k⟩
theorem len_Fallings_many {K : PySem.W.Frag} {n : Nat} {C : Addr} (vs : List V) (H : Hp) (Q : VK) (E : XK) (h : sp_Fallings_many K n C vs H Q E) : vs.length = ["self", "total", "size", "most"].length := by
  obtain ⟨_, _, _, _, _, _, _, rfl, _⟩ := h
  rfl
local macro_rules | `(tactic| walk_at "g_call") => `(tactic| ((with_reducible refine' use_Fallings_many ?c0 ?c1 ?c2 ?c3 ?_); (case c0 => walk_at "g_pre"); (case c1 => walk_at "g_pre"); (case c2 => walk_at "g_pre"); (case c3 => walk_at "g_pre"); intros))
theorem okn_Fallings_many (T : Txt K mg) (n : Nat) : FnOk P w K mg base CX0 n T.a_Fallings_many T.d_Fallings_many ["self", "total", "size", "most"] (sp_Fallings_many K n T.e_Fallings) := by
  induction n with
  | zero => exact ⟨len_Fallings_many, fun A outer s H args us vs Q E hr he hb hv h => by
      obtain ⟨x, d, dx, kvs, t, s, m, _, _, _, _, z, _⟩ := h
      omega⟩
  | succ n ih =>
  have G_Fallings_many := ih
  refine T.F_Fallings_many.ok sc_Fallings_many len_Fallings_many (fun cdv A outer s H vs Q E hr h => ?_)
  refine ⟨_, (pss_cons (ps_if (PW.pt (pw_or (pt_cmpR op_eq (pv 2) pe_int (nomark _)) (pw_or1 (pt_cmpR op_eq (pv 1) pe_int (nomark _))))) (pss_one (ps_ret (pe_callTy call_int1 (by rfl) T.z_int (by decide +kernel) (pa_cons (pe_cmpR op_eq (pv 1) pe_int (nomark _)) pa_nil)))) pss_nil)
      (pss_cons (ps_if (pt_cmp (pc_dnotin (hu_of hr) (pe_tup (pa_cons (pv 1) (pa_cons (pv 2) (pa_cons (pv 3) pa_nil)))) (pe_fld (pv 0) rfl))) (pss_cons (ps_set (i := 4) sc_Fallings_many.nd rfl (Or.inl rfl) (pe_listRg rfl (by rfl) T.z_list (prg_2 (by rfl) T.z_range pe_int (pe_op op_add (pe_callB (call_min2 rfl) (by rfl) T.z_min (by decide +kernel) (pa_cons (pv 1) (pa_cons (pv 3) pa_nil))) pe_int))))
      (pss_one (ps_dput (hu_of hr) (pe_fld (pv 0) rfl) (pe_tup (pa_cons (pv 1) (pa_cons (pv 2) (pa_cons (pv 3) pa_nil)))) (pe_callB (cr_sumK K rfl rfl) (by rfl) T.z_sum (by decide +kernel) (pa_cons (pe_lc (own := [("one", 5)]) rfl sc_Fallings_many.nd (pi_listK K rfl (pv 4)) (blkOk_by (own := [("one", 5)]) (N := ["self", "total", "size", "most", "begins", "one"]) (sc := defScope s_Fallings_many) (by decide +kernel)) (fun _ _ _ _ _ => (pg_name (i := 5) sc_Fallings_many.nd rfl (Or.inl rfl))) (fun _ _ _ _ _ => pts_nil) (fun _ _ _ _ _ => (pe_meth (pv 0) T.C_Fallings T.m_Fallings_many G_Fallings_many (hr.mono (by first | decide | omega)) T.b_Fallings_many .nil pass0 (pa_cons (pe_op op_sub (pv 1) (pv 5)) (pa_cons (pe_op op_sub (pv 2) pe_int) (pa_cons (pv 5) pa_nil)))))) pa_nil)) rfl))) pss_nil)
      (pss_one (ps_ret (pe_dget (hu_of hr) (pe_fld (pv 0) rfl) (pe_tup (pa_cons (pv 1) (pa_cons (pv 2) (pa_cons (pv 3) pa_nil)))) (fun _ _ => rfl)))))), ?_⟩
  try dsimp only [L2.cxOf, L2.Cx.nox, L2.Cx.wish, List.map_cons, List.map_nil]
  obtain ⟨x, d, dx, kvs, t, s, m, rfl, p0, p1, p2, ⟨p3, p4, p5, p6, p7⟩, k⟩ := h
  have hxd : x ≠ d := ne_of p0 p1 (by nofun)
  have hlen := p2.len
  refine start_to (σ := [some _, some _, some _, some _, none, none]) rfl ?_
  have eb : s = 0 ∨ t = 0 → (if decide (t = 0) = true then (1 : Int) else 0) = (fallN s.toNat t.toNat m.toNat : Nat) := fun h => by
    rw [fall_base (by omega)]
    by_cases c : t = 0
    · subst c
      rfl
    · rw [if_neg (by simpa using c), if_neg (by omega)]
      rfl
  walk_at "go"
  refine ite_d (fun c1 => ?_) (fun c1 => ?_)
  · walk_at "go"
    rw [eb (.inl c1)]
    exact k _ _ p1 p2 (But.refl _ _)
  walk_at "go"
  refine ite_d (fun c2 => ?_) (fun c2 => ?_)
  · walk_at "go"
    have e9 := eb (.inr c2)
    rw [decide_eq_true c2] at e9
    rw [e9]
    exact k _ _ p1 p2 (But.refl _ _)
  walk_at "goI"
  refine if_join (fun σ' H' => ∃ (y : Option V) (kvs' : List (List Key × V)), σ' = [some (.ref x), some (.int t), some (.int s), some (.int m), y, none] ∧ H' d = some (.dT kvs') ∧ Good kvs' ∧ valV kvs' [.inl t, .inl s, .inl m] = some (.int (fallN s.toNat t.toNat m.toNat : Nat)) ∧ But d H H') (fun nx' hn => ?_) ?_
  · walk_at "go"
    rename_i q1 nq1
    cases hv : valV kvs [.inl t, .inl s, .inl m] with
    | some v =>
      walk_at "go"
      have hv' := p2.val hv
      exact hn _ _ ⟨_, kvs, rfl, by walk_at "g_lk", p2, by rw [hv, hv'], by walk_at "g_but"⟩
    | none =>
    walk_at "go"
    rename_i b nb
    rw [rg_ints]
    have hxb : b ≠ d := by walk_at "g_ne"
    have n1 : H b = none := by walk_at "g_free"
    have he : ((if m < t then m else t) + 1 - 1).toNat = min t.toNat m.toNat := by split <;> omega
    rw [he]
    intro D nD
    have hDd : d ≠ D := by walk_at "g_ne"
    have hDx : x ≠ D := by walk_at "g_ne"
    have nD' : H D = none := by walk_at "g_free"
    have hbD : b ≠ D := fun z => by
      rw [← z, upd_same] at nD
      cases nD
    refine lcL (xs := ((List.range (min t.toNat m.toNat)).map fun i : Nat => 1 + (i : Int)).map V.int) (fun i acc H' => acc = ((List.range i).map fun i => ((fallN (s.toNat - 1) (t.toNat - (i + 1)) (i + 1) : Nat) : Int)).map V.int ∧ (∃ kvs', H' d = some (.dT kvs') ∧ Good kvs') ∧ H' b = some (.lst (((List.range (min t.toNat m.toNat)).map fun i : Nat => 1 + (i : Int)).map V.int)) ∧ But d H H') nD ⟨rfl, ⟨kvs, by walk_at "g_lk", p2⟩, by walk_at "g_lk", by walk_at "g_but"⟩ (fun i acc H' _ hp _ => SqL.of hp.2.2.1) ?_ ?_
    · clear nb nD nq1 p1
      rintro i v acc H2 Z Y hx ⟨rfl, ⟨kvs', h1, h2⟩, h3, h4⟩ hD hz _
      have hi : i < min t.toNat m.toNat := by
        have := (List.getElem?_eq_some_iff.mp hx).1
        simpa using this
      have hx' : v = .int (1 + (i : Int)) := by
        rw [List.getElem?_map, List.getElem?_map, List.getElem?_range hi] at hx
        exact (Option.some.inj hx).symm
      subst hx'
      have h5 := h4 _ _ hxd p0
      have e1 : (s - 1).toNat = s.toNat - 1 := by omega
      have e2 : (t - (1 + (i : Int))).toNat = t.toNat - (i + 1) := by omega
      have e3 : (1 + (i : Int)).toNat = i + 1 := by omega
      clear hx p0
      walk_at "go"
      rename_i kvs2 H3 a1 a2 a3
      rw [e1, e2, e3]
      have hD3 : H3 D = some (.lst (((List.range i).map fun i => ((fallN (s.toNat - 1) (t.toNat - (i + 1)) (i + 1) : Nat) : Int)).map V.int)) := a3 _ _ hDd.symm hD
      refine hz _ _ hD3 (sz4' (by simp; omega)) ⟨by rw [List.range_succ, List.map_append, List.map_append]; rfl, ⟨kvs2, by walk_at "g_lk", a2⟩, ?_, by walk_at "g_but"⟩
      have := a3 _ _ hxb h3
      walk_at "g_lk"
    · clear nb nD nq1 p1
      rintro acc H2 ⟨rfl, ⟨kvs', h1, h2⟩, h3, h4⟩ hD
      rw [List.length_map, List.length_map, List.length_range] at hD
      have h5 := h4 _ _ hxd p0
      have h6 := h2.len
      walk_at "go"
      rename_i q2 nq2
      rw [sumF_list (fun i => fallN (s.toNat - 1) (t.toNat - (i + 1)) (i + 1)), ← fall_rec (by omega) (by omega)]
      refine hn _ _ ⟨_, _, rfl, upd_same, h2.put p3 ⟨p5, p7⟩ p4, ?_, by walk_at "g_but"⟩
      rw [valV_put, if_pos rfl]
  · rintro σ' H' ⟨y, kvs', rfl, h1, h2, h3, h4⟩
    have h5 := h4 _ _ hxd p0
    walk_at "go"
    exact k _ _ (by walk_at "g_lk") h2 (by walk_at "g_but")
theorem ok_Fallings_many (T : Txt K mg) : FnOk P w K mg base CX0 9 T.a_Fallings_many T.d_Fallings_many ["self", "total", "size", "most"] (sp_Fallings_many K 9 T.e_Fallings) := okn_Fallings_many T 9

def sp_NoBattle_init (K : PySem.W.Frag) (C : Addr) : Sp := fun vs H Q E => ∃ (x : Addr) (y : V), vs = [.ref x, y] ∧ (H x = some (exo x C none)) ∧ ∀ (dx : Addr), (H dx = none) → (dx ≠ x) → Q (.non) (upd (upd H dx (exd dx [(("field" : Str), y)])) x (exo x C (some dx)))
theorem use_NoBattle_init {K : PySem.W.Frag} {C : Addr} {H : Hp} {Q : VK} {E : XK} {x : Addr} {y : V} (p0 : H x = some (exo x C none)) (k : ∀ (dx : Addr), (H dx = none) → (dx ≠ x) → Q (.non) (upd (upd H dx (exd dx [(("field" : Str), y)])) x (exo x C (some dx)))) : sp_NoBattle_init K C [.ref x, y] H Q E := ⟨x, y, rfl, p0, k⟩
theorem len_NoBattle_init {K : PySem.W.Frag} {C : Addr} (vs : List V) (H : Hp) (Q : VK) (E : XK) (h : sp_NoBattle_init K C vs H Q E) : vs.length = ["self", "field"].length := by
  obtain ⟨_, _, rfl, _⟩ := h
  rfl
theorem ok_NoBattle_init (T : Txt K mg) : FnOk P w K mg base CX0 3 T.a_NoBattle_init T.d_NoBattle_init ["self", "field"] (sp_NoBattle_init K (T.e_NoBattle)) := by
  have G_Fallings_init := ok_Fallings_init (P := P) (w := w) (base := base) T
  refine T.F_NoBattle_init.ok sc_NoBattle_init len_NoBattle_init (fun cdv A outer s H vs Q E hr h => ?_)
  refine ⟨_, (pss_cons (ps_expr (pe_hinit ⟨T.rd_HostError, T.ga_HostError⟩ T.fc_HostError rfl T.g_HostError (pa_cons (pv 0) (pa_cons pe_str pa_nil))))
      (pss_one (ps_ost (pv 0) (pv 1)))), ?_⟩
  try dsimp only [L2.cxOf, L2.Cx.nox, L2.Cx.wish, List.map_cons, List.map_nil]
  obtain ⟨x, y, rfl, p0, k⟩ := h
  refine start_to (σ := [some _, some _]) rfl ?_
  walk_at "go"
  exact k _ (by assumption) (by assumption)
local macro_rules | `(tactic| walk_at "g_val2") => `(tactic| first | ((with_reducible refine' Hf.i_mko1 ?s9 ?_); (case s9 => exact fun _ _ _ _ h q => use_NoBattle_init h q); intro _ _ _ _ _) | fail "mko1")
def sp_is_number (K : PySem.W.Frag) : Sp := fun vs H Q E => ∃ (v : V) (d : PyData), vs = [v] ∧ (Dq H v d) ∧ Q (.bl (isNumD d)) H
theorem use_is_number {K : PySem.W.Frag} {H : Hp} {Q : VK} {E : XK} {v : V} {d : PyData} (p0 : Dq H v d) (k : Q (.bl (isNumD d)) H) : sp_is_number K [v] H Q E := ⟨v, d, rfl, p0, k⟩
theorem len_is_number {K : PySem.W.Frag} (vs : List V) (H : Hp) (Q : VK) (E : XK) (h : sp_is_number K vs H Q E) : vs.length = ["thing"].length := by
  obtain ⟨_, _, rfl, _⟩ := h
  rfl
local macro_rules | `(tactic| walk_at "g_call") => `(tactic| ((with_reducible refine' use_is_number ?c0 ?_); (case c0 => walk_at "g_pre"); intros))
theorem use_is_number_i {K : PySem.W.Frag} {x : Int} {H : Hp} {Q : VK} {E : XK} (k : Q (.bl true) H) : sp_is_number K [.int x] H Q E := use_is_number (.int x) k
local macro_rules | `(tactic| walk_at "g_call") => `(tactic| (with_reducible refine' use_is_number_i ?_))
theorem ok_is_number (T : Txt K mg) : FnOk P w K mg base CX0 1 T.a_is_number T.d_is_number ["thing"] (sp_is_number K) := by
  refine T.F_is_number.ok sc_is_number len_is_number (fun cdv A outer s H vs Q E hr h => ?_)
  refine ⟨_, (pss_one (ps_ret (pe_and (pe_callB (call_isXK K rfl) (by rfl) T.z_isinstance (by decide +kernel) (pa_cons (pv 0) (pa_cons (pe_bltn (v := .ty "int") rfl T.z_int (by decide +kernel) rfl) pa_nil))) (pe_one (pe_not (pe_callB (call_isXK K rfl) (by rfl) T.z_isinstance (by decide +kernel) (pa_cons (pv 0) (pa_cons (pe_bltn (v := .ty "bool") rfl T.z_bool (by decide +kernel) rfl) pa_nil)))))))), ?_⟩
  try dsimp only [L2.cxOf, L2.Cx.nox, L2.Cx.wish, List.map_cons, List.map_nil]
  obtain ⟨v, d, rfl, p0, k⟩ := h
  refine start_to (σ := [some _]) rfl ?_
  cases p0 <;> (walk_at "go"; exact k)
def sp_are_numbers (K : PySem.W.Frag) : Sp := fun vs H Q E => ∃ (v : V) (d : PyData) (n : Int), vs = [v, .int n] ∧ (Dq H v d) ∧ (wid d ≤ 1000) ∧ ∀ (H' : Hp), (Same H H') → Q (.bl (areNumsD n d)) H'
theorem use_are_numbers {K : PySem.W.Frag} {H : Hp} {Q : VK} {E : XK} {v : V} {d : PyData} {n : Int} (p0 : Dq H v d) (p1 : wid d ≤ 1000) (k : ∀ (H' : Hp), (Same H H') → Q (.bl (areNumsD n d)) H') : sp_are_numbers K [v, .int n] H Q E := ⟨v, d, n, rfl, p0, p1, k⟩
theorem len_are_numbers {K : PySem.W.Frag} (vs : List V) (H : Hp) (Q : VK) (E : XK) (h : sp_are_numbers K vs H Q E) : vs.length = ["thing", "many"].length := by
  obtain ⟨_, _, _, rfl, _⟩ := h
  rfl
local macro_rules | `(tactic| walk_at "g_call") => `(tactic| ((with_reducible refine' use_are_numbers ?c0 ?c1 ?_); (case c0 => walk_at "g_pre"); (case c1 => walk_at "g_pre"); intros))
theorem ok_are_numbers (T : Txt K mg) : FnOk P w K mg base CX0 2 T.a_are_numbers T.d_are_numbers ["thing", "many"] (sp_are_numbers K) := by
  have G_is_number := ok_is_number (P := P) (w := w) (base := base) T
  refine T.F_are_numbers.ok sc_are_numbers len_are_numbers (fun cdv A outer s H vs Q E hr h => ?_)
  refine ⟨_, (pss_cons (ps_if (PW.pt (pw_or (pt_not (pt_val (pe_callB (call_isXK K rfl) (by rfl) T.z_isinstance (by decide +kernel) (pa_cons (pv 0) (pa_cons (pe_bltn (v := .ty "list") rfl T.z_list (by decide +kernel) rfl) pa_nil))))) (pw_or1 (pt_cmpR op_ne (pe_callB (call_lenK K rfl) (by rfl) T.z_len (by decide +kernel) (pa_cons (pv 0) pa_nil)) (pv 1) (nomark _))))) (pss_one (ps_ret pe_bl)) pss_nil)
      (pss_one (ps_ret (pe_cmpR op_eq (pe_callB (call_lenK K rfl) (by rfl) T.z_len (by decide +kernel) (pa_cons (pe_lc (own := [("number", 2)]) rfl sc_are_numbers.nd (pi_listK K rfl (pv 0)) (blkOk_by (own := [("number", 2)]) (N := ["thing", "many", "number"]) (sc := defScope s_are_numbers) (by decide +kernel)) (fun _ _ _ _ _ => (pg_name (i := 2) sc_are_numbers.nd rfl (Or.inl rfl))) (fun _ _ _ _ _ => (pts_one (pt_not (pt_val (pe_call G_is_number (hr.mono (by first | decide | omega)) (by rfl) T.g_is_number T.F_is_number.kp T.b_is_number .nil pass0 (pa_cons (pv 2) pa_nil)))))) (fun _ _ _ _ _ => (pv 2))) pa_nil)) pe_int (nomark _))))), ?_⟩
  try dsimp only [L2.cxOf, L2.Cx.nox, L2.Cx.wish, List.map_cons, List.map_nil]
  obtain ⟨v, d, n, rfl, p0, p1, k⟩ := h
  refine start_to (σ := [some _, some _, none]) rfl ?_
  cases p0 with
  | @lst a xs ds h q =>
    have hl := q.len
    rw [wid] at p1
    walk_at "go"
    refine ite_nd (fun c => ?_) (fun c => ?_)
    · have e : areNumsD n (.list ds) = false := by rw [areNumsD, decide_eq_false (by omega)]; rfl
      rw [e] at k
      walk_at "go"
      exact k _ (Same.refl _)
    · walk_at "go"
      intro D nD
      refine lcL_fl (xs := xs) (fun i => !((ds[i]?).map isNumD).getD true) nD (by omega) (SqL.of h) ?_ ?_
      · intro i x H2 Z Y hx hs hz hy
        obtain ⟨d, e1, e2⟩ := q.get' hx
        have e2' := e2.same hs
        walk_at "go"
        refine ite_b (fun e => ?_) (fun e => ?_)
        · walk_at "go"
          exact hz _ _ (by rw [e1]; exact e) (by walk_at "g_same")
        · exact hy _ (by rw [e1]; exact e) (by walk_at "g_same")
      · intro acc H2 hD hs hc ha
        walk_at "go"
        rw [len0_all hl hc]
        have e : areNumsD n (.list ds) = ds.all isNumD := by rw [areNumsD, decide_eq_true (by omega)]; rfl
        rw [e] at k
        exact k _ (by walk_at "g_same")
  | non => walk_at "go"; exact k _ (Same.refl _)
  | bl b => walk_at "go"; exact k _ (Same.refl _)
  | int i => walk_at "go"; exact k _ (Same.refl _)
  | str x => walk_at "go"; exact k _ (Same.refl _)
  | tup h q => walk_at "go"; exact k _ (Same.refl _)

def sp_is_rule (K : PySem.W.Frag) : Sp := fun vs H Q E => ∃ (a : Addr) (w : Str) (xs : List V) (ds : List PyData), vs = [.ref a] ∧ (H a = some (.tup (.str w :: xs))) ∧ (DqAll H xs ds) ∧ Q (.bl (isRuleD ds)) H
theorem use_is_rule {K : PySem.W.Frag} {H : Hp} {Q : VK} {E : XK} {a : Addr} {w : Str} {xs : List V} {ds : List PyData} (p0 : H a = some (.tup (.str w :: xs))) (p1 : DqAll H xs ds) (k : Q (.bl (isRuleD ds)) H) : sp_is_rule K [.ref a] H Q E := ⟨a, w, xs, ds, rfl, p0, p1, k⟩
theorem len_is_rule {K : PySem.W.Frag} (vs : List V) (H : Hp) (Q : VK) (E : XK) (h : sp_is_rule K vs H Q E) : vs.length = ["field"].length := by
  obtain ⟨_, _, _, _, rfl, _⟩ := h
  rfl
local macro_rules | `(tactic| walk_at "g_call") => `(tactic| ((with_reducible refine' use_is_rule ?c0 ?c1 ?_); (case c0 => walk_at "g_pre"); (case c1 => walk_at "g_pre"); intros))
theorem ok_is_rule (T : Txt K mg) : FnOk P w K mg base CX0 2 T.a_is_rule T.d_is_rule ["field"] (sp_is_rule K) := by
  have G_is_number := ok_is_number (P := P) (w := w) (base := base) T
  refine T.F_is_rule.ok sc_is_rule len_is_rule (fun cdv A outer s H vs Q E hr h => ?_)
  refine ⟨_, (pss_one (ps_ret (pe_and (pe_cmpR op_eq (pe_callB (call_lenK K rfl) (by rfl) T.z_len (by decide +kernel) (pa_cons (pv 0) pa_nil)) pe_int (nomark _)) (pe_and (pe_call G_is_number (hr.mono (by first | decide | omega)) (by rfl) T.g_is_number T.F_is_number.kp T.b_is_number .nil pass0 (pa_cons (pe_ix (ix_tupK K rfl) (pv 0) pe_int (fun _ _ => rfl)) pa_nil)) (pe_and (pe_call G_is_number (hr.mono (by first | decide | omega)) (by rfl) T.g_is_number T.F_is_number.kp T.b_is_number .nil pass0 (pa_cons (pe_ix (ix_tupK K rfl) (pv 0) pe_int (fun _ _ => rfl)) pa_nil)) (pe_one (pe_cmpR op_ge (pe_ix (ix_tupK K rfl) (pv 0) pe_int (fun _ _ => rfl)) pe_int (nomark _)))))))), ?_⟩
  try dsimp only [L2.cxOf, L2.Cx.nox, L2.Cx.wish, List.map_cons, List.map_nil]
  obtain ⟨a, w, xs, ds, rfl, p0, p1, k⟩ := h
  refine start_to (σ := [some _]) rfl ?_
  cases p1 with
  | nil => walk_at "goO"; exact k
  | cons h1 q1 =>
    cases q1 with
    | nil =>
      walk_at "goO"
      rw [rule_short1] at k
      exact k
    | cons h2 q2 =>
      cases q2 with
      | nil =>
        walk_at "goO"
        refine ite_b (fun c1 => ?_) (fun c1 => ?_)
        · obtain ⟨x, rfl⟩ := num_inv c1
          obtain rfl := h1.int_inv
          walk_at "go"
          refine ite_b (fun c2 => ?_) (fun c2 => ?_)
          · obtain ⟨y, rfl⟩ := num_inv c2
            obtain rfl := h2.int_inv
            walk_at "go"
            exact k
          · rw [rule_no2 c2] at k
            exact k
        · rw [rule_no1 c1] at k
          exact k
      | cons h3 q3 =>
        walk_at "goO"
        rw [rule_long] at k
        exact k
def sp_is_field (K : PySem.W.Frag) : Sp := fun vs H Q E => ∃ (a : Addr) (w : Str) (xs : List V) (ds : List PyData) (f s : Int), vs = [.ref a, .int f, .int s] ∧ (H a = some (.tup (.str w :: xs))) ∧ (DqAll H xs ds) ∧ (wid (.tuple ds) ≤ 1000) ∧ (0 ≤ f ∧ f ≤ 10 ∧ 0 ≤ s ∧ s ≤ 10) ∧ ∀ (H' : Hp), (Same H H') → Q (.bl (isFieldD f s w ds)) H'
theorem use_is_field {K : PySem.W.Frag} {H : Hp} {Q : VK} {E : XK} {a : Addr} {w : Str} {xs : List V} {ds : List PyData} {f s : Int} (p0 : H a = some (.tup (.str w :: xs))) (p1 : DqAll H xs ds) (p2 : wid (.tuple ds) ≤ 1000) (p3 : 0 ≤ f ∧ f ≤ 10 ∧ 0 ≤ s ∧ s ≤ 10) (k : ∀ (H' : Hp), (Same H H') → Q (.bl (isFieldD f s w ds)) H') : sp_is_field K [.ref a, .int f, .int s] H Q E := ⟨a, w, xs, ds, f, s, rfl, p0, p1, p2, p3, k⟩
theorem len_is_field {K : PySem.W.Frag} (vs : List V) (H : Hp) (Q : VK) (E : XK) (h : sp_is_field K vs H Q E) : vs.length = ["field", "first", "second"].length := by
  obtain ⟨_, _, _, _, _, _, rfl, _⟩ := h
  rfl
local macro_rules | `(tactic| walk_at "g_call") => `(tactic| ((with_reducible refine' use_is_field ?c0 ?c1 ?c2 ?c3 ?_); (case c0 => walk_at "g_pre"); (case c1 => walk_at "g_pre"); (case c2 => walk_at "g_pre"); (case c3 => walk_at "g_pre"); intros))
theorem ok_is_field (T : Txt K mg) : FnOk P w K mg base CX0 3 T.a_is_field T.d_is_field ["field", "first", "second"] (sp_is_field K) := by
  have G_is_rule := ok_is_rule (P := P) (w := w) (base := base) T
  have G_are_numbers := ok_are_numbers (P := P) (w := w) (base := base) T
  refine T.F_is_field.ok sc_is_field len_is_field (fun cdv A outer s H vs Q E hr h => ?_)
  refine ⟨_, (pss_cons (ps_if (pt_cmpR op_eq (pe_callB (call_lenK K rfl) (by rfl) T.z_len (by decide +kernel) (pa_cons (pv 0) pa_nil)) pe_int (nomark _)) (pss_one (ps_ret pe_bl)) pss_nil)
      (pss_cons (ps_if (pt_cmpR op_eq (pe_ix (ix_tupK K rfl) (pv 0) pe_int (fun _ _ => rfl)) pe_str (nomark _)) (pss_one (ps_ret (pe_and (pe_call G_is_rule (hr.mono (by first | decide | omega)) (by rfl) T.g_is_rule T.F_is_rule.kp T.b_is_rule .nil pass0 (pa_cons (pv 0) pa_nil)) (pe_and (pe_cmpR op_le (pe_op op_sub pe_int (pe_ix (ix_tupK K rfl) (pv 0) pe_int (fun _ _ => rfl))) (pe_ix (ix_tupK K rfl) (pv 0) pe_int (fun _ _ => rfl)) (nomark _)) (pe_one (pe_cmpR op_le (pe_ix (ix_tupK K rfl) (pv 0) pe_int (fun _ _ => rfl)) (pe_ix (ix_tupK K rfl) (pv 0) pe_int (fun _ _ => rfl)) (nomark _))))))) pss_nil)
      (pss_cons (ps_if (pt_cmpR op_eq (pe_ix (ix_tupK K rfl) (pv 0) pe_int (fun _ _ => rfl)) pe_str (nomark _)) (pss_one (ps_ret (pe_call G_is_rule (hr.mono (by first | decide | omega)) (by rfl) T.g_is_rule T.F_is_rule.kp T.b_is_rule .nil pass0 (pa_cons (pv 0) pa_nil)))) pss_nil)
      (pss_cons (ps_if (PW.pt (pw_or (pt_cmpR op_ne (pe_ix (ix_tupK K rfl) (pv 0) pe_int (fun _ _ => rfl)) pe_str (nomark _)) (pw_or (pt_cmpR op_ne (pe_callB (call_lenK K rfl) (by rfl) T.z_len (by decide +kernel) (pa_cons (pv 0) pa_nil)) pe_int (nomark _)) (pw_or (pt_not (pt_val (pe_callB (call_isXK K rfl) (by rfl) T.z_isinstance (by decide +kernel) (pa_cons (pe_ix (ix_tupK K rfl) (pv 0) pe_int (fun _ _ => rfl)) (pa_cons (pe_bltn (v := .ty "list") rfl T.z_list (by decide +kernel) rfl) pa_nil))))) (pw_or1 (pt_cmpR op_ne (pe_callB (call_lenK K rfl) (by rfl) T.z_len (by decide +kernel) (pa_cons (pe_ix (ix_tupK K rfl) (pv 0) pe_int (fun _ _ => rfl)) pa_nil)) (pe_op op_add (pv 1) pe_int) (nomark _))))))) (pss_one (ps_ret pe_bl)) pss_nil)
      (pss_one (ps_ret (pe_cmpR op_eq (pe_callB (call_lenK K rfl) (by rfl) T.z_len (by decide +kernel) (pa_cons (pe_lc (own := [("row", 3)]) rfl sc_is_field.nd (pi_listK K rfl (pe_ix (ix_tupK K rfl) (pv 0) pe_int (fun _ _ => rfl))) (blkOk_by (own := [("row", 3)]) (N := ["field", "first", "second", "row"]) (sc := defScope s_is_field) (by decide +kernel)) (fun _ _ _ _ _ => (pg_name (i := 3) sc_is_field.nd rfl (Or.inl rfl))) (fun _ _ _ _ _ => (pts_one (pt_not (pt_val (pe_call G_are_numbers (hr.mono (by first | decide | omega)) (by rfl) T.g_are_numbers T.F_are_numbers.kp T.b_are_numbers .nil pass0 (pa_cons (pv 3) (pa_cons (pe_op op_add (pv 2) pe_int) pa_nil))))))) (fun _ _ _ _ _ => (pv 3))) pa_nil)) pe_int (nomark _)))))))), ?_⟩
  try dsimp only [L2.cxOf, L2.Cx.nox, L2.Cx.wish, List.map_cons, List.map_nil]
  obtain ⟨a, w, xs, ds, f, s, rfl, p0, p1, p2, p3, k⟩ := h
  refine start_to (σ := [some _, some _, some _, none]) rfl ?_
  have hl := p1.len
  rw [wid] at p2
  walk_at "goO"
  by_cases c1 : w = PySem.Str.ofString "more"
  · have e : isFieldD f s w ds = isMoreD ds := if_pos c1
    rw [e] at k
    refine ite_y (by simp [c1]) ?_
    walk_at "go"
    refine ite_b (fun c => ?_) (fun c => ?_)
    · obtain ⟨x, y, rfl, hx⟩ := rule_inv c
      obtain rfl := dq_two_ints p1
      walk_at "go"
      refine ite_d (fun c2 => ?_) (fun c2 => ?_)
      · walk_at "go"
        rw [more_yes hx c2] at k
        exact k _ (Same.refl _)
      · rw [more_no c2] at k
        exact k _ (Same.refl _)
    · rw [more_rule c] at k
      exact k _ (Same.refl _)
  · refine ite_n (by simp [c1]) ?_
    walk_at "go"
    by_cases c2 : w = PySem.Str.ofString "lead"
    · have e : isFieldD f s w ds = isRuleD ds := by rw [isFieldD, if_neg c1, if_pos c2]
      rw [e] at k
      refine ite_y (by simp [c2]) ?_
      walk_at "go"
      exact k _ (Same.refl _)
    · refine ite_n (by simp [c2]) ?_
      walk_at "go"
      by_cases c3 : w = PySem.Str.ofString "table"
      · have e : isFieldD f s w ds = isRowsD f s ds := by rw [isFieldD, if_neg c1, if_neg c2, if_pos c3]
        rw [e] at k
        refine ite_n (by simp [c3]) ?_
        walk_at "go"
        cases p1 with
        | nil =>
          walk_at "goO"
          exact k _ (Same.refl _)
        | cons h1 q1 =>
          cases q1 with
          | cons h2 q2 =>
            rw [rows_long] at k
            refine ite_y (by simp; try omega) ?_
            walk_at "goO"
            exact k _ (Same.refl _)
          | nil =>
            walk_at "goO"
            cases h1 with
            | @lst p rs ds h4 q4 =>
              have hl4 := q4.len
              walk_at "go"
              refine ite_nd (fun c => ?_) (fun c => ?_)
              · rw [rows_no (by omega)] at k
                walk_at "go"
                exact k _ (Same.refl _)
              · have p5 : ∀ d ∈ ds, wid d ≤ 1000 := fun d hd => by
                  have := widA_mem hd
                  simp only [widA, wid] at p2
                  omega
                walk_at "go"
                intro D nD
                refine lcL_fl (xs := rs) (fun i => !((ds[i]?).map (areNumsD (s + 1))).getD true) nD (by omega) (SqL.of h4) ?_ ?_
                · intro i x H2 Z Y hx hs hz hy
                  obtain ⟨d, e1, e2⟩ := q4.get' hx
                  have e2' := e2.same hs
                  have e3 := p5 d (List.mem_of_getElem? e1)
                  walk_at "go"
                  refine ite_b (fun e => ?_) (fun e => ?_)
                  · walk_at "go"
                    exact hz _ _ (by rw [e1]; exact e) (by walk_at "g_same")
                  · exact hy _ (by rw [e1]; exact e) (by walk_at "g_same")
                · intro acc H2 hD hs hc ha
                  walk_at "go"
                  rw [len0_all hl4 hc]
                  rw [rows_yes (by omega)] at k
                  exact k _ (by walk_at "g_same")
            | non => walk_at "go"; rw [rows_one (by rfl)] at k; exact k _ (Same.refl _)
            | bl b => walk_at "go"; rw [rows_one (by rfl)] at k; exact k _ (Same.refl _)
            | int i => walk_at "go"; rw [rows_one (by rfl)] at k; exact k _ (Same.refl _)
            | str x => walk_at "go"; rw [rows_one (by rfl)] at k; exact k _ (Same.refl _)
            | tup h q => walk_at "go"; rw [rows_one (by rfl)] at k; exact k _ (Same.refl _)
      · have e : isFieldD f s w ds = false := by rw [isFieldD, if_neg c1, if_neg c2, if_neg c3]
        rw [e] at k
        refine ite_y (by simp [c3]) ?_
        walk_at "go"
        exact k _ (Same.refl _)
def sp_look_battle (K : PySem.W.Frag) (e_NoBattle : Addr) : Sp := fun vs H Q E => ∃ (v : V) (f s : Int) (ds : List PyData), vs = [v] ∧ (Dq H v (batT f s ds)) ∧ ((∀ d ∈ ds, FldIn d)) ∧ (ds.length ≤ 1000) ∧ ((badB f s ds = none) → ∀ (H' : Hp), (Same H H') → Q (.non) H') ∧ (¬ (badB f s ds = none) → ∀ k d H', badB f s ds = some k → H d = none → H' d = some (.xd [(("field" : Str), .int k)]) → Same H H' → E (.ref e_NoBattle) (some d) H')
theorem use_look_battle {K : PySem.W.Frag} {e_NoBattle : Addr} {H : Hp} {Q : VK} {E : XK} {v : V} {f s : Int} {ds : List PyData} (p0 : Dq H v (batT f s ds)) (p1 : (∀ d ∈ ds, FldIn d)) (p2 : ds.length ≤ 1000) (k : (badB f s ds = none) → ∀ (H' : Hp), (Same H H') → Q (.non) H') (kx : ¬ (badB f s ds = none) → ∀ k d H', badB f s ds = some k → H d = none → H' d = some (.xd [(("field" : Str), .int k)]) → Same H H' → E (.ref e_NoBattle) (some d) H') : sp_look_battle K e_NoBattle [v] H Q E := ⟨v, f, s, ds, rfl, p0, p1, p2, k, kx⟩
theorem len_look_battle {K : PySem.W.Frag} {e_NoBattle : Addr} (vs : List V) (H : Hp) (Q : VK) (E : XK) (h : sp_look_battle K e_NoBattle vs H Q E) : vs.length = ["battle"].length := by
  obtain ⟨_, _, _, _, rfl, _⟩ := h
  rfl
local macro_rules | `(tactic| walk_at "g_call") => `(tactic| ((with_reducible refine' use_look_battle ?c0 ?c1 ?c2 ?kk ?kx); (case c0 => walk_at "g_pre"); (case c1 => walk_at "g_pre"); (case c2 => walk_at "g_pre"); first | ((case kx => (intro _; exfalso; walk_at "g_no")); intros) | ((case kk => (intro _; exfalso; walk_at "g_no")); intros) | skip))
theorem ok_look_battle (T : Txt K mg) : FnOk P w K mg base (L2.CX P w) 5 T.a_look_battle T.d_look_battle ["battle"] (sp_look_battle K T.e_NoBattle) := by
  have G_NoBattle_init := ok_NoBattle_init (P := P) (w := w) (base := base) T
  have G_is_field := ok_is_field (P := P) (w := w) (base := base) T
  refine T.F_look_battle.okX sc_look_battle len_look_battle (fun cdv A outer s H vs Q E hr h => ?_)
  refine ⟨_, (pss_cons (ps_asg (pv 0) (pg_tupK K rfl 3 rfl (pgs_cons (pg_name (i := 1) sc_look_battle.nd rfl (Or.inl rfl)) (pgs_cons (pg_name (i := 2) sc_look_battle.nd rfl (Or.inl rfl)) (pgs_cons (pg_name (i := 3) sc_look_battle.nd rfl (Or.inl rfl)) pgs_nil)))))
      (pss_cons (ps_if (PW.pt (pw_or (pt_cmpR op_lt (pe_callB (call_min2 rfl) (by rfl) T.z_min (by decide +kernel) (pa_cons (pv 1) (pa_cons (pv 2) pa_nil))) pe_int (nomark _)) (pw_or (pt_cmpR op_gt (pe_callB (call_max2 rfl) (by rfl) T.z_max (by decide +kernel) (pa_cons (pv 1) (pa_cons (pv 2) pa_nil))) (pe_glob (v := .int 10) rfl T.c_MOST_HOSTS_fields ⟨_, rfl⟩) (nomark _)) (pw_or (pt_cmpR op_lt (pe_callB (call_lenK K rfl) (by rfl) T.z_len (by decide +kernel) (pa_cons (pv 3) pa_nil)) pe_int (nomark _)) (pw_or1 (pt_cmpR op_gt (pe_callB (call_lenK K rfl) (by rfl) T.z_len (by decide +kernel) (pa_cons (pv 3) pa_nil)) (pe_glob (v := .int 5) rfl T.c_MOST_FIELDS_fields ⟨_, rfl⟩) (nomark _))))))) (pss_one (ps_raise rfl (takes_of rfl rfl rfl rfl) (pmk_oex (Txt.O_NoBattle T) T.ic_NoBattle T.ti_NoBattle G_NoBattle_init (hr.mono (by first | decide | omega)) T.b_NoBattle_init .nil pass0 rfl T.g_NoBattle (pa_cons (pe_un un_neg pe_int) pa_nil)))) pss_nil)
      (pss_one (ps_for (passes_of rfl) rfl (pi_range1 rfl T.z_range (pa_cons (pe_callB (call_lenK K rfl) (by rfl) T.z_len (by decide +kernel) (pa_cons (pv 3) pa_nil)) pa_nil)) (pg_name (i := 4) sc_look_battle.nd rfl (Or.inl rfl)) (pss_one (ps_if (pt_not (pt_val (pe_call G_is_field (hr.mono (by first | decide | omega)) (by rfl) T.g_is_field T.F_is_field.kp T.b_is_field .nil pass0 (pa_cons (pe_ix (ix_listK K rfl) (pv 3) (pv 4) (fun _ _ => rfl)) (pa_cons (pv 1) (pa_cons (pv 2) pa_nil)))))) (pss_one (ps_raise rfl (takes_of rfl rfl rfl rfl) (pmk_oex (Txt.O_NoBattle T) T.ic_NoBattle T.ti_NoBattle G_NoBattle_init (hr.mono (by first | decide | omega)) T.b_NoBattle_init .nil pass0 rfl T.g_NoBattle (pa_cons (pv 4) pa_nil)))) pss_nil)))))), ?_⟩
  try dsimp only [L2.cxOf, L2.Cx.nox, L2.Cx.wish, List.map_cons, List.map_nil]
  obtain ⟨v, f, s, ds, rfl, p0, p1, p2, k, kx⟩ := h
  obtain ⟨a, p, xs, rfl, h1, h2, h3⟩ := batT_inv p0
  have hl := h3.len
  refine start_to (σ := [some _, none, none, none, none]) rfl ?_
  walk_at "go"
  by_cases sz : f < 0 ∨ s < 0 ∨ 10 < f ∨ 10 < s ∨ ds.length < 1 ∨ 5 < ds.length
  · have e : badB f s ds = some (-1) := if_pos sz
    have fin : ∀ d H', H d = none → H' d = some (.xd [(("field" : Str), .int (-1))]) → Same H H' → E (.ref T.e_NoBattle) (some d) H' := fun d H' => kx (by rw [e]; simp) (-1) d H' e
    refine ite_d (fun c1 => ?_) (fun c1 => ?_)
    · walk_at "go"
      exact fin _ _ (by assumption) (by assumption) (by assumption)
    walk_at "go"
    refine ite_d (fun c2 => ?_) (fun c2 => ?_)
    · walk_at "go"
      exact fin _ _ (by assumption) (by assumption) (by assumption)
    walk_at "go"
    refine ite_d (fun c3 => ?_) (fun c3 => ?_)
    · walk_at "go"
      exact fin _ _ (by assumption) (by assumption) (by assumption)
    walk_at "go"
    refine ite_d (fun c4 => ?_) (fun c4 => ?_)
    · walk_at "go"
      exact fin _ _ (by assumption) (by assumption) (by assumption)
    · exfalso
      omega
  · have sz2 : 0 ≤ f ∧ f ≤ 10 ∧ 0 ≤ s ∧ s ≤ 10 ∧ 1 ≤ ds.length ∧ ds.length ≤ 5 := by omega
    have sz3 : 0 ≤ f ∧ f ≤ 10 ∧ 0 ≤ s ∧ s ≤ 10 := by omega
    walk_at "goO"
    refine forR (fun i σ H1 => ∃ y1, σ = [some (.ref a), some (.int f), some (.int s), some (.ref p), y1] ∧ Same H H1 ∧ ∀ (j : Nat) e, j < i → ds[j]? = some e → isFldT f s e = true) ⟨_, rfl, by walk_at "g_same", by omega⟩ ?_ ?_
    · rintro σ1 H1 ⟨y1, rfl, g1, g2⟩
      walk_at "goO"
      refine k (bad_none.mpr ⟨by omega, by omega, by omega, fun d hd => ?_⟩) _ (by walk_at "g_same")
      obtain ⟨j, hj, rfl⟩ := List.mem_iff_getElem.mp hd
      exact g2 j _ (by omega) (List.getElem?_eq_getElem hj)
    · rintro i σ1 H1 hi ⟨y1, rfl, g1, g2⟩
      obtain ⟨w, hat, hw⟩ := at_lt (xs := xs) (i := 0 + (i : Int)) (by omega) (by omega)
      obtain ⟨d, e1, e2⟩ := h3.get' hw
      obtain ⟨wd, r, rfl, hr⟩ := p1 d (List.mem_of_getElem? e1)
      obtain ⟨b, ys, rfl, h4, h5⟩ := fldT_inv (e2.same g1)
      have i1 : (0 + (i : Int)).toNat = i := by omega
      rw [i1] at e1
      have h2' := g1 _ _ h2
      walk_at "goO"
      rename_i H2 g3
      refine ite_b (fun c => ?_) (fun c => ?_)
      · have c' : isFieldD f s wd r = false := by simpa using c
        have hb := bad_at sz2 e1 c' g2
        walk_at "goO"
        rename_i dd H3 n1 n2 n3
        refine kx (by rw [hb]; simp) _ dd H3 hb (Same.free (g1.trans g3) n1) ?_ ((g1.trans g3).trans n3)
        rw [n2, Int.zero_add]
      · have c' : isFieldD f s wd r = true := by simpa using c
        walk_at "goO"
        refine ⟨_, rfl, by walk_at "g_same", fun j e hj he => ?_⟩
        by_cases cj : j = i
        · subst cj
          rw [e1] at he
          obtain rfl := Option.some.inj he
          exact c'
        · exact g2 j e (by omega) he
theorem use_look_battle_ok {K : PySem.W.Frag} {e_NoBattle : Addr} {v : V} {f s : Int} {fs : List Fld} {H : Hp} {Q : VK} {E : XK} (p0 : Dq H v (batD f s fs)) (p1 : BatOk f s fs) (k : ∀ H' : Hp, Same H H' → Q .non H') : sp_look_battle K e_NoBattle [v] H Q E :=
  use_look_battle (ds := fs.map fldD) p0 (bat_in p1) (by rw [List.length_map]; exact Nat.le_trans p1.ne.2 (by decide)) (fun _ => k) fun c => absurd (bad_ok.mpr p1) c
local macro_rules | `(tactic| walk_at "g_call") => `(tactic| ((with_reducible refine' use_look_battle_ok ?c0 ?c1 ?_); (case c0 => walk_at "g_pre"); (case c1 => walk_at "g_pre"); intros))

def sp_l_field (K : PySem.W.Frag) : Sp := fun vs H Q E => ∃ (p c : Addr) (z f s : Int), vs = [.ref p, .int f, .int s] ∧ (Pc p c H z) ∧ (z ≤ 900000) ∧ (0 ≤ f ∧ f ≤ 10 ∧ 0 ≤ s ∧ s ≤ 10) ∧ ∀ (v : V) (fl : Fld) (G : Hp) (H' : Hp), (Dq G v (fldD fl)) → (FldOk f s fl ∧ FldSm fl) → (Newly H G) → (Same G H') → (Pc p c H' (z + 200)) → (But2 p c H H') → Q (v) H'
theorem use_l_field {K : PySem.W.Frag} {H : Hp} {Q : VK} {E : XK} {p c : Addr} {z f s : Int} (p0 : Pc p c H z) (p1 : z ≤ 900000) (p2 : 0 ≤ f ∧ f ≤ 10 ∧ 0 ≤ s ∧ s ≤ 10) (k : ∀ (v : V) (fl : Fld) (G : Hp) (H' : Hp), (Dq G v (fldD fl)) → (FldOk f s fl ∧ FldSm fl) → (Newly H G) → (Same G H') → (Pc p c H' (z + 200)) → (But2 p c H H') → Q (v) H') : sp_l_field K [.ref p, .int f, .int s] H Q E := ⟨p, c, z, f, s, rfl, p0, p1, p2, k⟩
theorem len_l_field {K : PySem.W.Frag} (vs : List V) (H : Hp) (Q : VK) (E : XK) (h : sp_l_field K vs H Q E) : vs.length = ["_law_purse_here", "_law_first", "_law_second"].length := by
  obtain ⟨_, _, _, _, _, rfl, _⟩ := h
  rfl
local macro_rules | `(tactic| walk_at "g_call") => `(tactic| ((with_reducible refine' use_l_field ?c0 ?c1 ?c2 ?_); (case c0 => walk_at "g_pre"); (case c1 => walk_at "g_pre"); (case c2 => walk_at "g_pre"); intros))
theorem ok_l_field (T : Txt K mg) : FnOk P w K mg base CX0 2 T.a_l_field T.d_l_field ["_law_purse_here", "_law_first", "_law_second"] (sp_l_field K) := by
  have G_l_draw := ok_l_draw (P := P) (w := w) (base := base) T
  refine T.F_l_field.ok sc_l_field len_l_field (fun cdv A outer s H vs Q E hr h => ?_)
  refine ⟨_, (pss_cons (ps_set (i := 3) sc_l_field.nd rfl (Or.inl rfl) (pe_call G_l_draw (hr.mono (by first | decide | omega)) (by rfl) T.g_l_draw T.F_l_draw.kp T.b_l_draw .nil pass0 (pa_cons (pv 0) (pa_cons pe_int pa_nil))))
      (pss_cons (ps_set (i := 4) sc_l_field.nd rfl (Or.inl rfl) (pe_op op_add pe_int (pe_call G_l_draw (hr.mono (by first | decide | omega)) (by rfl) T.g_l_draw T.F_l_draw.kp T.b_l_draw .nil pass0 (pa_cons (pv 0) (pa_cons (pe_ix (ix_listK K rfl) (pe_lst (pa_cons pe_int (pa_cons (pe_op op_pow pe_int pe_int) pa_nil))) (pe_call G_l_draw (hr.mono (by first | decide | omega)) (by rfl) T.g_l_draw T.F_l_draw.kp T.b_l_draw .nil pass0 (pa_cons (pv 0) (pa_cons pe_int pa_nil))) (fun _ _ => rfl)) pa_nil)))))
      (pss_cons (ps_if (pt_cmpR op_eq (pv 3) pe_int (nomark _)) (pss_cons (ps_set (i := 5) sc_l_field.nd rfl (Or.inl rfl) (pe_ix (ix_listK K rfl) (pe_lst (pa_cons pe_int (pa_cons (pv 4) (pa_cons (pe_op op_sub pe_int (pv 4)) (pa_cons (pe_op op_sub (pe_call G_l_draw (hr.mono (by first | decide | omega)) (by rfl) T.g_l_draw T.F_l_draw.kp T.b_l_draw .nil pass0 (pa_cons (pv 0) (pa_cons (pe_op op_add (pe_op op_mulA pe_int (pv 4)) pe_int) pa_nil))) (pv 4)) pa_nil))))) (pe_call G_l_draw (hr.mono (by first | decide | omega)) (by rfl) T.g_l_draw T.F_l_draw.kp T.b_l_draw .nil pass0 (pa_cons (pv 0) (pa_cons pe_int pa_nil))) (fun _ _ => rfl)))
      (pss_one (ps_ret (pe_tup (pa_cons pe_str (pa_cons (pv 4) (pa_cons (pv 5) pa_nil))))))) pss_nil)
      (pss_cons (ps_if (pt_cmpR op_eq (pv 3) pe_int (nomark _)) (pss_cons (ps_set (i := 6) sc_l_field.nd rfl (Or.inl rfl) (pe_op op_sub (pe_op op_sub (pe_call G_l_draw (hr.mono (by first | decide | omega)) (by rfl) T.g_l_draw T.F_l_draw.kp T.b_l_draw .nil pass0 (pa_cons (pv 0) (pa_cons (pe_op op_add (pe_op op_add (pv 1) (pv 2)) pe_int) pa_nil))) (pv 2)) pe_int))
      (pss_one (ps_ret (pe_tup (pa_cons pe_str (pa_cons (pv 4) (pa_cons (pe_ix (ix_listK K rfl) (pe_lst (pa_cons (pv 6) (pa_cons (pe_op op_sub (pe_call G_l_draw (hr.mono (by first | decide | omega)) (by rfl) T.g_l_draw T.F_l_draw.kp T.b_l_draw .nil pass0 (pa_cons (pv 0) (pa_cons (pe_op op_mulA pe_int (pe_op op_pow pe_int pe_int)) pa_nil))) (pe_op op_pow pe_int pe_int)) pa_nil))) (pe_op op_fdiv (pe_call G_l_draw (hr.mono (by first | decide | omega)) (by rfl) T.g_l_draw T.F_l_draw.kp T.b_l_draw .nil pass0 (pa_cons (pv 0) (pa_cons pe_int pa_nil))) pe_int) (fun _ _ => rfl)) pa_nil))))))) pss_nil)
      (pss_cons (ps_set (i := 7) sc_l_field.nd rfl (Or.inl rfl) (pe_lst pa_nil))
      (pss_cons (ps_set (i := 8) sc_l_field.nd rfl (Or.inr rfl) (pe_ix (ix_listK K rfl) (pe_lst (pa_cons pe_int (pa_cons pe_int (pa_cons (pe_op op_mulA pe_int (pe_op op_pow pe_int pe_int)) pa_nil)))) (pe_call G_l_draw (hr.mono (by first | decide | omega)) (by rfl) T.g_l_draw T.F_l_draw.kp T.b_l_draw .nil pass0 (pa_cons (pv 0) (pa_cons pe_int pa_nil))) (fun _ _ => rfl)))
      (pss_cons (ps_for PassesOwn.never rfl (pi_range1 rfl T.z_range (pa_cons (pe_op op_add (pv 1) pe_int) pa_nil)) (pg_name (i := 9) sc_l_field.nd rfl (Or.inl rfl)) (pss_one (ps_expr (pe_bm PySem.F.plainAttrs_list PySem.F.slot_list_append PySem.F.type_list_append mt_append (pv 7) (pa_cons (pe_lc (own := [("_law_y", 10)]) rfl sc_l_field.nd (pi_range1 rfl T.z_range (pa_cons (pe_op op_add (pv 2) pe_int) pa_nil)) (blkOk_by (own := [("_law_y", 10)]) (N := ["_law_purse_here", "_law_first", "_law_second", "_law_kind", "_law_worth", "_law_tie", "_law_near", "_law_rows", "_law_top", "_law_x", "_law_y"]) (sc := defScope s_l_field) (by decide +kernel)) (fun _ _ _ _ _ => (pg_name (i := 10) sc_l_field.nd rfl (Or.inl rfl))) (fun _ _ _ _ _ => pts_nil) (fun _ _ _ _ _ => (pe_op op_sub (pe_call G_l_draw (hr.mono (by first | decide | omega)) (by rfl) T.g_l_draw T.F_l_draw.kp T.b_l_draw .nil pass0 (pa_cons (pv 0) (pa_cons (pv 8) pa_nil))) (pe_op op_fdiv (pv 8) pe_int)))) pa_nil)))))
      (pss_one (ps_ret (pe_tup (pa_cons pe_str (pa_cons (pv 7) pa_nil)))))))))))), ?_⟩
  try dsimp only [L2.cxOf, L2.Cx.nox, L2.Cx.wish, List.map_cons, List.map_nil]
  obtain ⟨p, c, z, f, s, rfl, p0, p1, p2, k⟩ := h
  refine start_to (σ := [some _, some _, some _, none, none, none, none, none, none, none, none]) rfl ?_
  walk_at "go"
  rename_i d1 H1 e1 e2 e3 r nr d2 H2 e4 e5 e6 v hv w0 H3 e7 e8 e9
  generalize hw : 1 + w0 = w
  have hw1 : 1 ≤ w ∧ w ≤ 100000000000000000000000000000 := by omega
  have b3 : But2 p c H H3 := by walk_at "g_but2"
  have p3 : Pc p c H3 (z + 3) := e8.mono (by omega)
  clear e2 e3 e5 e6 e8 e9 nr e7 hv hw
  refine ite_d (fun c1 => ?_) (fun c1 => ?_)
  · walk_at "go"
    rename_i d3 H4 u1 u2 u3 r nr d4 H5 u4 u5 u6 v hv q nq
    have hq : H q = none := by walk_at "g_free"
    exact k _ (.more w v) (fr [] H (upd H5 q _)) _ (more_mk (fr_lk0 hq upd_same)) ⟨⟨by omega, by omega, by omega⟩, ⟨by omega, by omega⟩, ⟨by omega, by omega⟩⟩ fr_newly fr_same (Pc.mono (by walk_at "g_pc") (by omega)) (by walk_at "g_but2")
  walk_at "go"
  refine ite_d (fun c2 => ?_) (fun c2 => ?_)
  · walk_at "go"
    rename_i d3 H4 u1 u2 u3 d4 H5 u4 u5 u6 r nr d5 H6 u7 u8 u9 v hv q nq
    have hq : H q = none := by walk_at "g_free"
    exact k _ (.lead w v) (fr [] H (upd H6 q _)) _ (lead_mk (fr_lk0 hq upd_same)) ⟨show 1 ≤ w by omega, ⟨by omega, by omega⟩, ⟨by omega, by omega⟩⟩ fr_newly fr_same (Pc.mono (by walk_at "g_pc") (by omega)) (by walk_at "g_but2")
  walk_at "goF"
  rename_i D nD r nr d3 H4 u1 u2 u3 t ht
  have t1 : 0 < t ∧ t ≤ 200000000000000000000000000000 := by omega
  clear ht
  have hD : H D = none := by walk_at "g_free"
  have hDp : D ≠ p := by walk_at "g_ne"
  have hDc : D ≠ c := by walk_at "g_ne"
  have q4 : H4 D = some (.lst []) := by walk_at "g_lk"
  have b4 : But2 p c H H4 := by walk_at "g_but2"
  have p4 : Pc p c H4 (z + 4) := u2.mono (by omega)
  clear u1 u2 u3 nr nD p3 b3
  walk_at "go"
  refine forR (fun i σ H5 => ∃ (ws : List V) (rs : List (List Int)) (y9 y10 : Option V), σ = [some (.ref p), some (.int f), some (.int s), some (.int d1), some (.int w), none, none, some (.ref D), some (.int t), y9, y10] ∧ H5 D = some (.lst ws) ∧ DqAll (fr [D] H H5) ws (rs.map planD) ∧ rs.length = i ∧ (∀ r ∈ rs, (r.length : Int) = s + 1 ∧ ∀ x ∈ r, Sm x) ∧ Pc p c H5 (z + 4 + 11 * (i : Int)) ∧ But2 p c H H5) ⟨[], [], _, _, rfl, q4, .nil, rfl, nofun, p4.mono (by omega), b4⟩ ?_ ?_
  · rintro σ1 H5 ⟨ws, rs, y9, y10, rfl, h1, h2, h3, h4, h5, h6⟩
    walk_at "go"
    rename_i q nq
    have hq : H q = none := by walk_at "g_free"
    exact k _ (.tab rs) (fr [] H (upd H5 q _)) _ (tab_mk (fr_lk0 hq upd_same) (fr_lk0 hD (lk_new nq h1)) ((h2.same fr_sub).same (fr_mono (Same.new nq)))) ⟨⟨by omega, fun r hr => (h4 r hr).1⟩, fun r hr => (h4 r hr).2⟩ fr_newly fr_same (Pc.mono (by walk_at "g_pc") (by omega)) (by walk_at "g_but2")
  · rintro i σ1 H5 hi ⟨ws, rs, y9, y10, rfl, h1, h2, h3, h4, h5, h6⟩
    have hw : ws.length ≤ 20 := by rw [h2.len, List.length_map]; omega
    clear b4 q4 p4
    walk_at "go"
    intro D2 nD2
    have hD2 : H D2 = none := Pc.free nD2 h6 h5
    have n2 : D2 ≠ D := (ne_of_none h1 nD2).symm
    refine lcR_pc Sm 1 h5 nD2 (by omega) ?_ ?_
    · intro j H6 Z Y hj hp hb hz
      walk_at "go"
      rename_i d4 H7 u4 u5 u6
      refine hz _ _ ⟨?_, ?_⟩ u5 u6 <;> omega
    · intro ms H6 g1 g2 g3 g4 g5
      walk_at "go"
      refine ⟨ws ++ [.ref D2], rs ++ [ms], _, _, rfl, upd_same, ?_, by rw [List.length_append, h3]; rfl, ?_, (Pc.upd g4 hDp hDc).mono (by omega), ?_⟩
      · rw [List.map_append]
        exact DqAll.snoc ((h2.same (fr_butC p0 g5)).same (fr_upd (by simp))) (row_mk (fr_lk1 n2 hD2 (lk_upd n2 g3)))
      · intro r hr
        rcases List.mem_append.mp hr with e | e
        · exact h4 r e
        · rw [List.mem_singleton.mp e]
          exact ⟨by omega, g2⟩
      · walk_at "g_but2"

def sp_must_be_sizes (K : PySem.W.Frag) (e_NoPlan : Addr) : Sp := fun vs H Q E => ∃ (x y : Int), vs = [.int x, .int y] ∧ ((SizeOk x y) → Q (.non) H) ∧ (¬ (SizeOk x y) → E (.ref e_NoPlan) none H)
theorem use_must_be_sizes {K : PySem.W.Frag} {e_NoPlan : Addr} {H : Hp} {Q : VK} {E : XK} {x y : Int}  (k : (SizeOk x y) → Q (.non) H) (kx : ¬ (SizeOk x y) → E (.ref e_NoPlan) none H) : sp_must_be_sizes K e_NoPlan [.int x, .int y] H Q E := ⟨x, y, rfl, k, kx⟩
theorem len_must_be_sizes {K : PySem.W.Frag} {e_NoPlan : Addr} (vs : List V) (H : Hp) (Q : VK) (E : XK) (h : sp_must_be_sizes K e_NoPlan vs H Q E) : vs.length = ["hosts", "fields"].length := by
  obtain ⟨_, _, rfl, _⟩ := h
  rfl
local macro_rules | `(tactic| walk_at "g_call") => `(tactic| ((with_reducible refine' use_must_be_sizes ?kk ?kx); first | ((case kx => (intro _; exfalso; walk_at "g_no")); intros) | ((case kk => (intro _; exfalso; walk_at "g_no")); intros) | skip))
theorem ok_must_be_sizes (T : Txt K mg) : FnOk P w K mg base (L2.CX P w) 1 T.a_must_be_sizes T.d_must_be_sizes ["hosts", "fields"] (sp_must_be_sizes K T.e_NoPlan) := by
  refine T.F_must_be_sizes.okX sc_must_be_sizes len_must_be_sizes (fun cdv A outer s H vs Q E hr h => ?_)
  refine ⟨_, (pss_one (ps_if (PW.pt (pw_or (pt_cmpR op_lt (pv 0) pe_int (nomark _)) (pw_or (pt_cmpR op_gt (pv 0) (pe_glob (v := .int 40) rfl T.c_MOST_HOSTS_plans ⟨_, rfl⟩) (nomark _)) (pw_or (pt_cmpR op_lt (pv 1) pe_int (nomark _)) (pw_or1 (pt_cmpR op_gt (pv 1) (pe_glob (v := .int 8) rfl T.c_MOST_FIELDS_plans ⟨_, rfl⟩) (nomark _))))))) (pss_one (ps_raise rfl (takes_of rfl rfl rfl rfl) (pmk_own PySem.F.excBase_ValueError T.x_NoPlan T.g_NoPlan T.k_NoPlan (raises_own T.y_NoPlan T.t_NoPlan) rfl))) pss_nil)), ?_⟩
  try dsimp only [L2.cxOf, L2.Cx.nox, L2.Cx.wish, List.map_cons, List.map_nil]
  obtain ⟨x, y, rfl, k, kx⟩ := h
  unfold SizeOk at k kx
  refine start_to (σ := [some _, some _]) rfl ?_
  walk_at "go"
  refine ite_d (fun c1 => ?_) (fun c1 => ?_)
  · walk_at "go"
    exact kx (by omega)
  walk_at "go"
  refine ite_d (fun c2 => ?_) (fun c2 => ?_)
  · walk_at "go"
    exact kx (by omega)
  walk_at "go"
  refine ite_d (fun c3 => ?_) (fun c3 => ?_)
  · walk_at "go"
    exact kx (by omega)
  walk_at "go"
  refine ite_d (fun c4 => ?_) (fun c4 => ?_)
  · walk_at "go"
    exact kx (by omega)
  walk_at "go"
  exact k (by omega)

def sp_counts_many (K : PySem.W.Frag) (e_NoPlan : Addr) : Sp := fun vs H Q E => ∃ (x y : Int), vs = [.int x, .int y] ∧ ((SizeOk x y) → ∀ (H' : Hp), (Same H H') → Q (.int (fallN y.toNat x.toNat x.toNat : Nat)) H') ∧ (¬ (SizeOk x y) → E (.ref e_NoPlan) none H)
theorem use_counts_many {K : PySem.W.Frag} {e_NoPlan : Addr} {H : Hp} {Q : VK} {E : XK} {x y : Int}  (k : (SizeOk x y) → ∀ (H' : Hp), (Same H H') → Q (.int (fallN y.toNat x.toNat x.toNat : Nat)) H') (kx : ¬ (SizeOk x y) → E (.ref e_NoPlan) none H) : sp_counts_many K e_NoPlan [.int x, .int y] H Q E := ⟨x, y, rfl, k, kx⟩
theorem len_counts_many {K : PySem.W.Frag} {e_NoPlan : Addr} (vs : List V) (H : Hp) (Q : VK) (E : XK) (h : sp_counts_many K e_NoPlan vs H Q E) : vs.length = ["hosts", "fields"].length := by
  obtain ⟨_, _, rfl, _⟩ := h
  rfl
local macro_rules | `(tactic| walk_at "g_call") => `(tactic| ((with_reducible refine' use_counts_many ?kk ?kx); first | ((case kx => (intro _; exfalso; walk_at "g_no")); intros) | ((case kk => (intro _; exfalso; walk_at "g_no")); intros) | skip))
theorem ok_counts_many (T : Txt K mg) : FnOk P w K mg base (L2.CX P w) 10 T.a_counts_many T.d_counts_many ["hosts", "fields"] (sp_counts_many K T.e_NoPlan) := by
  have G_must_be_sizes := ok_must_be_sizes (P := P) (w := w) (base := base) T
  have G_Fallings_many := ok_Fallings_many (P := P) (w := w) (base := base) T
  have G_Fallings_init := ok_Fallings_init (P := P) (w := w) (base := base) T
  refine T.F_counts_many.okX sc_counts_many len_counts_many (fun cdv A outer s H vs Q E hr h => ?_)
  refine ⟨_, (pss_cons (ps_expr (pe_callS G_must_be_sizes (hr.mono (by first | decide | omega)) (by rfl) T.g_must_be_sizes T.F_must_be_sizes.kp T.b_must_be_sizes (fun σ => passAt (takes_of rfl rfl rfl rfl) σ) (pa_cons (pv 0) (pa_cons (pv 1) pa_nil))))
      (pss_one (ps_ret (pe_meth (pe_make0 T.M_Fallings G_Fallings_init (hr.mono (by first | decide | omega)) (by rfl) T.g_Fallings T.b_Fallings_init .nil pass0) T.C_Fallings T.m_Fallings_many G_Fallings_many (hr.mono (by first | decide | omega)) T.b_Fallings_many .nil pass0 (pa_cons (pv 0) (pa_cons (pv 1) (pa_cons (pv 0) pa_nil))))))), ?_⟩
  try dsimp only [L2.cxOf, L2.Cx.nox, L2.Cx.wish, List.map_cons, List.map_nil]
  obtain ⟨x, y, rfl, k, kx⟩ := h
  refine start_to (σ := [some _, some _]) rfl ?_
  by_cases good : SizeOk x y
  rotate_left
  · walk_at "go"
    exact kx good
  have p0 : 0 ≤ x ∧ x ≤ 40 ∧ 1 ≤ y ∧ y ≤ 8 := good
  replace k := k good
  walk_at "go"
  rename_i q dx nq ndx hne d nd
  have hqd : q ≠ d := by walk_at "g_ne"
  have hok : Good [] := Good.nil
  have hdx : dx ≠ d := by walk_at "g_ne"
  have nd0 : H d = none := by walk_at "g_free"
  walk_at "go"
  rename_i kvs2 H2 a1 a2 a3
  exact k _ fun b o hb => a3 b o (ne_of_none hb nd0) (by rw [upd_ne (ne_of_none hb nq), upd_ne (ne_of_none hb nd0), upd_ne (ne_of_none hb nq), upd_ne (ne_of_none hb ndx)]; exact hb)

def sp_counts_of (K : PySem.W.Frag) (e_NoPlan : Addr) : Sp := fun vs H Q E => ∃ (x y n : Int), vs = [.int x, .int y, .int n] ∧ ((SizeOk x y ∧ 0 ≤ n ∧ n < (fallN y.toNat x.toNat x.toNat : Nat)) → ∀ (b : Addr) (cs : List Int) (H' : Hp), (H' b = some (.lst (cs.map V.int))) → (Same H H') → (H b = none) → (cs.length = y.toNat ∧ cs.sum = x ∧ (∀ c ∈ cs, 0 ≤ c)) → (Falls cs) → (rkC cs = n) → Q (.ref b) H') ∧ (¬ (SizeOk x y ∧ 0 ≤ n ∧ n < (fallN y.toNat x.toNat x.toNat : Nat)) → ∀ H', Same H H' → E (.ref e_NoPlan) none H')
theorem use_counts_of {K : PySem.W.Frag} {e_NoPlan : Addr} {H : Hp} {Q : VK} {E : XK} {x y n : Int}  (k : (SizeOk x y ∧ 0 ≤ n ∧ n < (fallN y.toNat x.toNat x.toNat : Nat)) → ∀ (b : Addr) (cs : List Int) (H' : Hp), (H' b = some (.lst (cs.map V.int))) → (Same H H') → (H b = none) → (cs.length = y.toNat ∧ cs.sum = x ∧ (∀ c ∈ cs, 0 ≤ c)) → (Falls cs) → (rkC cs = n) → Q (.ref b) H') (kx : ¬ (SizeOk x y ∧ 0 ≤ n ∧ n < (fallN y.toNat x.toNat x.toNat : Nat)) → ∀ H', Same H H' → E (.ref e_NoPlan) none H') : sp_counts_of K e_NoPlan [.int x, .int y, .int n] H Q E := ⟨x, y, n, rfl, k, kx⟩
theorem len_counts_of {K : PySem.W.Frag} {e_NoPlan : Addr} (vs : List V) (H : Hp) (Q : VK) (E : XK) (h : sp_counts_of K e_NoPlan vs H Q E) : vs.length = ["hosts", "fields", "number"].length := by
  obtain ⟨_, _, _, rfl, _⟩ := h
  rfl
local macro_rules | `(tactic| walk_at "g_call") => `(tactic| ((with_reducible refine' use_counts_of ?kk ?kx); first | ((case kx => (intro _; exfalso; walk_at "g_no")); intros) | ((case kk => (intro _; exfalso; walk_at "g_no")); intros) | skip))
theorem ok_counts_of (T : Txt K mg) : FnOk P w K mg base (L2.CX P w) 10 T.a_counts_of T.d_counts_of ["hosts", "fields", "number"] (sp_counts_of K T.e_NoPlan) := by
  have G_must_be_sizes := ok_must_be_sizes (P := P) (w := w) (base := base) T
  have G_Fallings_init := ok_Fallings_init (P := P) (w := w) (base := base) T
  have G_Fallings_many := ok_Fallings_many (P := P) (w := w) (base := base) T
  refine T.F_counts_of.okX sc_counts_of len_counts_of (fun cdv A outer s H vs Q E hr h => ?_)
  refine ⟨_, (pss_cons (ps_expr (pe_callS G_must_be_sizes (hr.mono (by first | decide | omega)) (by rfl) T.g_must_be_sizes T.F_must_be_sizes.kp T.b_must_be_sizes (fun σ => passAt (takes_of rfl rfl rfl rfl) σ) (pa_cons (pv 0) (pa_cons (pv 1) pa_nil))))
      (pss_cons (ps_set (i := 3) sc_counts_of.nd rfl (Or.inl rfl) (pe_make0 T.M_Fallings G_Fallings_init (hr.mono (by first | decide | omega)) (by rfl) T.g_Fallings T.b_Fallings_init .nil pass0))
      (pss_cons (ps_if (PW.pt (pw_or (pt_cmpR op_lt (pv 2) pe_int (nomark _)) (pw_or1 (pt_cmpR op_ge (pv 2) (pe_meth (pv 3) T.C_Fallings T.m_Fallings_many G_Fallings_many (hr.mono (by first | decide | omega)) T.b_Fallings_many .nil pass0 (pa_cons (pv 0) (pa_cons (pv 1) (pa_cons (pv 0) pa_nil)))) (nomark _))))) (pss_one (ps_raise rfl (takes_of rfl rfl rfl rfl) (pmk_own PySem.F.excBase_ValueError T.x_NoPlan T.g_NoPlan T.k_NoPlan (raises_own T.y_NoPlan T.t_NoPlan) rfl))) pss_nil)
      (pss_cons (ps_set (i := 4) sc_counts_of.nd rfl (Or.inl rfl) (pe_lst pa_nil))
      (pss_cons (ps_set (i := 5) sc_counts_of.nd rfl (Or.inl rfl) (pv 0))
      (pss_cons (ps_for (passes_of rfl) rfl (pi_range1 rfl T.z_range (pa_cons (pv 1) pa_nil)) (pg_name (i := 6) sc_counts_of.nd rfl (Or.inl rfl)) (pss_cons (ps_set (i := 7) sc_counts_of.nd rfl (Or.inl rfl) pe_int)
      (pss_cons (ps_while (passes_of rfl) (pt_cmpR op_ge (pv 2) (pe_meth (pv 3) T.C_Fallings T.m_Fallings_many G_Fallings_many (hr.mono (by first | decide | omega)) T.b_Fallings_many .nil pass0 (pa_cons (pe_op op_sub (pv 5) (pv 7)) (pa_cons (pe_op op_sub (pe_op op_sub (pv 1) pe_int) (pv 6)) (pa_cons (pv 7) pa_nil)))) (nomark _)) (pss_cons (ps_aug (i := 2) sc_counts_of.nd rfl (Or.inl rfl) (pe_meth (pv 3) T.C_Fallings T.m_Fallings_many G_Fallings_many (hr.mono (by first | decide | omega)) T.b_Fallings_many .nil pass0 (pa_cons (pe_op op_sub (pv 5) (pv 7)) (pa_cons (pe_op op_sub (pe_op op_sub (pv 1) pe_int) (pv 6)) (pa_cons (pv 7) pa_nil)))) ip_sub)
      (pss_one (ps_aug (i := 7) sc_counts_of.nd rfl (Or.inl rfl) pe_int ip_add))))
      (pss_cons (ps_expr (pe_bm PySem.F.plainAttrs_list PySem.F.slot_list_append PySem.F.type_list_append mt_append (pv 4) (pa_cons (pv 7) pa_nil)))
      (pss_one (ps_aug (i := 5) sc_counts_of.nd rfl (Or.inl rfl) (pv 7) ip_sub))))))
      (pss_one (ps_ret (pv 4))))))))), ?_⟩
  try dsimp only [L2.cxOf, L2.Cx.nox, L2.Cx.wish, List.map_cons, List.map_nil]
  obtain ⟨x, y, n, rfl, k, kx⟩ := h
  refine start_to (σ := [some _, some _, some _, none, none, none, none, none]) rfl ?_
  by_cases good : SizeOk x y
  rotate_left
  · walk_at "go"
    exact kx (fun z => good z.1) _ (Same.refl _)
  have p0 : 0 ≤ x ∧ x ≤ 40 ∧ 1 ≤ y ∧ y ≤ 8 := good
  walk_at "goI"
  rename_i h0 q dx nq ndx hne d nd
  have hqd : q ≠ d := by walk_at "g_ne"
  have nd1 : H d = none := by walk_at "g_free"
  have s2 : Same H (upd (upd (upd (upd H dx (.own q)) q (.ins T.e_Fallings dx [])) d (.dT [])) q (.ins T.e_Fallings dx [("known", .ref d)])) := fun b o hb => by
    rw [upd_ne (ne_of_none hb nq), upd_ne (ne_of_none hb nd1), upd_ne (ne_of_none hb nq), upd_ne (ne_of_none hb ndx)]
    exact hb
  have f1 : (upd (upd (upd (upd H dx (.own q)) q (.ins T.e_Fallings dx [])) d (.dT [])) q (.ins T.e_Fallings dx [("known", .ref d)])) q = some (.ins T.e_Fallings dx [("known", .ref d)]) := upd_same
  have f2 : (upd (upd (upd (upd H dx (.own q)) q (.ins T.e_Fallings dx [])) d (.dT [])) q (.ins T.e_Fallings dx [("known", .ref d)])) d = some (.dT []) := lk_upd hqd.symm upd_same
  generalize (upd (upd (upd (upd H dx (.own q)) q (.ins T.e_Fallings dx [])) d (.dT [])) q (.ins T.e_Fallings dx [("known", .ref d)])) = H2 at s2 f1 f2 ⊢
  clear nq ndx nd hne
  have hg0 := Good.nil
  walk_at "go"
  refine ite_d (fun c1 => ?_) (fun c1 => ?_)
  · walk_at "go"
    exact kx (fun z => by have := z.2.1; omega) _ s2
  walk_at "go"
  rename_i kvs3 H3 a1 a2 a3
  have a4 := a3 _ _ hqd f1
  have s3 : Same H H3 := Same.but s2 nd1 a3
  clear f1 f2 s2 a3
  refine ite_d (fun c2 => ?_) (fun c2 => ?_)
  · walk_at "go"
    exact kx (fun z => by have := z.2.2; omega) _ s3
  replace k := k ⟨good, by omega, by omega⟩
  walk_at "go"
  rename_i b nb
  have bd : b ≠ d := ne_new' nb a1
  have bq : b ≠ q := ne_new' nb a4
  have nb0 := s3.free nb
  refine forR (fun i σ H4 => ∃ (ps : List Int) (left num mo : Int) (y1 y2 : Option V) (kvs : List (List Key × V)), σ = [some (.int x), some (.int y), some (.int num), some (.ref q), some (.ref b), some (.int left), y1, y2] ∧ H4 b = some (.lst (ps.map V.int)) ∧ H4 q = some (.ins T.e_Fallings dx [("known", .ref d)]) ∧ H4 d = some (.dT kvs) ∧ Good kvs ∧ Same H H4 ∧ ps.length = i ∧ CPre x y.toNat n ps left num mo) ⟨[], x, n, x, _, _, kvs3, rfl, upd_same, by walk_at "g_lk", by walk_at "g_lk", a2, by walk_at "g_same", rfl, cpre_start p0.1 (by omega) (by omega)⟩ ?_ ?_
  · clear a1 a4 s3 nb
    rintro σ1 H4 ⟨ps, left, num, mo, y1, y2, kvs, rfl, e1, e2, e3, e4, e5, e6, e7⟩
    walk_at "go"
    obtain ⟨g1, g2⟩ := cpre_end e7 e6
    exact k _ ps _ e1 e5 nb0 ⟨e6, by have := e7.sm; omega, e7.pos⟩ (falls_of e7.fa) g2
  · clear a1 a4 s3 nb
    rintro i σ1 H4 hi ⟨ps, left, num, mo, y1, y2, kvs, rfl, e1, e2, e3, e4, e5, e6, e7⟩
    have hl : ps.length < y.toNat := by omega
    have eg : (y - 1 - (0 + (i : Int))).toNat = y.toNat - 1 - ps.length := by omega
    have b1 := e7.nl
    have b2 := e7.lh
    have b3 := e7.nm
    have b4 := e7.mh
    have b5 := e7.nn
    walk_at "go"
    refine whileW (fun m σ H5 => ∃ (s : Nat) (kvs : List (List Key × V)), σ = [some (.int x), some (.int y), some (.int (num - preC (y.toNat - 1 - ps.length) left s)), some (.ref q), some (.ref b), some (.int left), some (.int (0 + (i : Int))), some (.int (s : Int))] ∧ H5 b = some (.lst (ps.map V.int)) ∧ H5 q = some (.ins T.e_Fallings dx [("known", .ref d)]) ∧ H5 d = some (.dT kvs) ∧ Good kvs ∧ Same H H5 ∧ ((s : Int) ≤ left ∧ (s : Int) ≤ mo) ∧ preC (y.toNat - 1 - ps.length) left s ≤ num ∧ m = left.toNat - s) (left.toNat - 0) ⟨0, kvs, ?_, e1, e2, e3, e4, e5, ⟨by omega, by omega⟩, b5, rfl⟩ ?_
    · rw [show preC (y.toNat - 1 - ps.length) left 0 = 0 from rfl, Int.sub_zero]
      rfl
    · clear e1 e2 e3 e4 e5 kvs
      rintro m σ2 H5 ⟨s, kvs, rfl, e1, e2, e3, e4, e5, hs, hp, rfl⟩
      obtain ⟨hs1, hs2⟩ := hs
      walk_at "go"
      rename_i kvs6 H6 g1 g2 g3
      have g4 := g3 _ _ hqd e2
      have g5 := g3 _ _ bd e1
      have g6 : Same H H6 := Same.but e5 nd1 g3
      clear e1 e2 e3 e4 e5 g3
      rw [eg, Int.toNat_natCast]
      refine ite_d (fun c1 => ?_) (fun c1 => ?_)
      · have hm := cpre_more e7 hl ⟨hs1, hs2⟩ (by omega)
        refine turnW ?_
        walk_at "go"
        rename_i kvs7 H7 j1 j2 j3
        have j4 := j3 _ _ hqd g4
        have j5 := j3 _ _ bd g5
        have j6 : Same H H7 := Same.but g6 nd1 j3
        rw [eg, Int.toNat_natCast]
        refine ⟨_, ?_, s + 1, kvs7, ?_, j5, j4, j1, j2, j6, ⟨by omega, by omega⟩, ?_, rfl⟩
        · omega
        · rw [Int.sub_sub]
          rfl
        · show preC _ left s + _ ≤ num
          omega
      · walk_at "go"
        have qn := cpre_next e7 hl ⟨hs1, hs2⟩ hp (by omega)
        exact ⟨ps ++ [(s : Int)], _, _, _, _, _, kvs6, rfl, by first | exact upd_same | (rw [List.map_append]; exact upd_same), by walk_at "g_lk", by walk_at "g_lk", g2, Same.mut g6 nb0, by simp; omega, qn⟩

def sp_paid (K : PySem.W.Frag) : Sp := fun vs H Q E => ∃ (v : V) (fl : Fld) (f s x y : Int), vs = [v, .int x, .int y] ∧ (Dq H v (fldD fl)) ∧ (FldOk f s fl) ∧ (0 ≤ x ∧ x ≤ f ∧ 0 ≤ y ∧ y ≤ s) ∧ Q (.int (paidV fl x y)) H
theorem use_paid {K : PySem.W.Frag} {H : Hp} {Q : VK} {E : XK} {v : V} {fl : Fld} {f s x y : Int} (p0 : Dq H v (fldD fl)) (p1 : FldOk f s fl) (p2 : 0 ≤ x ∧ x ≤ f ∧ 0 ≤ y ∧ y ≤ s) (k : Q (.int (paidV fl x y)) H) : sp_paid K [v, .int x, .int y] H Q E := ⟨v, fl, f, s, x, y, rfl, p0, p1, p2, k⟩
theorem len_paid {K : PySem.W.Frag} (vs : List V) (H : Hp) (Q : VK) (E : XK) (h : sp_paid K vs H Q E) : vs.length = ["field", "x", "y"].length := by
  obtain ⟨_, _, _, _, _, _, rfl, _⟩ := h
  rfl
local macro_rules | `(tactic| walk_at "g_call") => `(tactic| ((with_reducible refine' use_paid ?c0 ?c1 ?c2 ?_); (case c0 => walk_at "g_pre"); (case c1 => walk_at "g_pre"); (case c2 => walk_at "g_pre"); intros))
theorem ok_paid (T : Txt K mg) : FnOk P w K mg base CX0 1 T.a_paid T.d_paid ["field", "x", "y"] (sp_paid K) := by
  refine T.F_paid.ok sc_paid len_paid (fun cdv A outer s H vs Q E hr h => ?_)
  refine ⟨_, (pss_cons (ps_if (pt_cmpR op_eq (pe_ix (ix_tupK K rfl) (pv 0) pe_int (fun _ _ => rfl)) pe_str (nomark _)) (pss_one (ps_ret (pe_ix (ix_listK K rfl) (pe_ix (ix_listK K rfl) (pe_ix (ix_tupK K rfl) (pv 0) pe_int (fun _ _ => rfl)) (pv 1) (fun _ _ => rfl)) (pv 2) (fun _ _ => rfl)))) pss_nil)
      (pss_cons (ps_if (pt_cmpR op_eq (pe_ix (ix_tupK K rfl) (pv 0) pe_int (fun _ _ => rfl)) pe_str (nomark _)) (pss_one (ps_ret (pe_ifExp (pt_cmpR op_ge (pv 1) (pe_op op_add (pv 2) (pe_ix (ix_tupK K rfl) (pv 0) pe_int (fun _ _ => rfl))) (nomark _)) (pe_ix (ix_tupK K rfl) (pv 0) pe_int (fun _ _ => rfl)) (pe_op op_sub pe_int (pe_ix (ix_tupK K rfl) (pv 0) pe_int (fun _ _ => rfl)))))) pss_nil)
      (pss_cons (ps_if (pt_cmpR op_eq (pv 1) (pv 2) (nomark _)) (pss_one (ps_ret (pe_ix (ix_tupK K rfl) (pv 0) pe_int (fun _ _ => rfl)))) pss_nil)
      (pss_one (ps_ret (pe_ifExp (pt_cmpR op_gt (pv 1) (pv 2) (nomark _)) (pe_ix (ix_tupK K rfl) (pv 0) pe_int (fun _ _ => rfl)) (pe_op op_sub pe_int (pe_ix (ix_tupK K rfl) (pv 0) pe_int (fun _ _ => rfl))))))))), ?_⟩
  try dsimp only [L2.cxOf, L2.Cx.nox, L2.Cx.wish, List.map_cons, List.map_nil]
  obtain ⟨v, fl, f, s, x, y, rfl, p0, p1, p2, k⟩ := h
  refine start_to (σ := [some _, some _, some _]) rfl ?_
  cases fl with
  | more w t =>
    obtain ⟨a, rfl, h1⟩ := fld_more p0
    walk_at "go"
    have k' : Q (.int (if x = y then t else if x > y then w else 0 - w)) H := k
    refine ite_d (fun c1 => ?_) (fun c1 => ?_)
    · rw [if_pos c1] at k'
      walk_at "go"
      exact k'
    · rw [if_neg c1] at k'
      walk_at "go"
      refine ite_d (fun c2 => ?_) (fun c2 => ?_)
      · rw [if_pos c2] at k'
        walk_at "go"
        exact k'
      · rw [if_neg c2] at k'
        walk_at "go"
        exact k'
  | lead w l =>
    obtain ⟨a, rfl, h1⟩ := fld_lead p0
    walk_at "go"
    have k' : Q (.int (if x ≥ y + l then w else 0 - w)) H := k
    refine ite_d (fun c2 => ?_) (fun c2 => ?_)
    · rw [if_pos c2] at k'
      walk_at "go"
      exact k'
    · rw [if_neg c2] at k'
      walk_at "go"
      exact k'
  | tab rows =>
    obtain ⟨a, p, xs, rfl, h1, h2, h3⟩ := fld_tab p0
    obtain ⟨g1, g2⟩ := p1
    have hl : xs.length = rows.length := by rw [h3.len, List.length_map]
    obtain ⟨w, hat, hw⟩ := at_lt (xs := xs) (i := x) (by omega) (by omega)
    obtain ⟨r, q, e1, rfl, e2⟩ := row_at h3 hw
    have hr := g2 r (List.mem_of_getElem? e1)
    walk_at "go"
    rename_i z hz
    have k' : Q (.int ((((rows[x.toNat]?).getD [])[y.toNat]?).getD 0)) H := k
    rw [e1] at k'
    have k2 : Q (.int ((r[y.toNat]?).getD 0)) H := k'
    rw [hz] at k2
    exact k2

def sp_met (K : PySem.W.Frag) : Sp := fun vs H Q E => ∃ (v : V) (fl : Fld) (f s : Int) (q r : Addr) (ms ns : List Int), vs = [v, .ref q, .ref r] ∧ (Dq H v (fldD fl)) ∧ (FldOk f s fl) ∧ (H q = some (.lst (ms.map V.int))) ∧ (H r = some (.lst (ns.map V.int))) ∧ ((∀ x ∈ ms, 0 ≤ x ∧ x ≤ f)) ∧ ((∀ y ∈ ns, 0 ≤ y ∧ y ≤ s)) ∧ (ms.length ≤ 100 ∧ ns.length ≤ 100) ∧ ∀ (H' : Hp), (Same H H') → Q (.int ((ms.map fun x => (ns.map fun y => paidV fl x y).sum).sum)) H'
theorem use_met {K : PySem.W.Frag} {H : Hp} {Q : VK} {E : XK} {v : V} {fl : Fld} {f s : Int} {q r : Addr} {ms ns : List Int} (p0 : Dq H v (fldD fl)) (p1 : FldOk f s fl) (p2 : H q = some (.lst (ms.map V.int))) (p3 : H r = some (.lst (ns.map V.int))) (p4 : (∀ x ∈ ms, 0 ≤ x ∧ x ≤ f)) (p5 : (∀ y ∈ ns, 0 ≤ y ∧ y ≤ s)) (p6 : ms.length ≤ 100 ∧ ns.length ≤ 100) (k : ∀ (H' : Hp), (Same H H') → Q (.int ((ms.map fun x => (ns.map fun y => paidV fl x y).sum).sum)) H') : sp_met K [v, .ref q, .ref r] H Q E := ⟨v, fl, f, s, q, r, ms, ns, rfl, p0, p1, p2, p3, p4, p5, p6, k⟩
theorem len_met {K : PySem.W.Frag} (vs : List V) (H : Hp) (Q : VK) (E : XK) (h : sp_met K vs H Q E) : vs.length = ["field", "one", "other"].length := by
  obtain ⟨_, _, _, _, _, _, _, _, rfl, _⟩ := h
  rfl
local macro_rules | `(tactic| walk_at "g_call") => `(tactic| ((with_reducible refine' use_met ?c0 ?c1 ?c2 ?c3 ?c4 ?c5 ?c6 ?_); (case c0 => walk_at "g_pre"); (case c1 => walk_at "g_pre"); (case c2 => walk_at "g_pre"); (case c3 => walk_at "g_pre"); (case c4 => walk_at "g_pre"); (case c5 => walk_at "g_pre"); (case c6 => walk_at "g_pre"); intros))
theorem ok_met (T : Txt K mg) : FnOk P w K mg base CX0 2 T.a_met T.d_met ["field", "one", "other"] (sp_met K) := by
  have G_paid := ok_paid (P := P) (w := w) (base := base) T
  refine T.F_met.ok sc_met len_met (fun cdv A outer s H vs Q E hr h => ?_)
  refine ⟨_, (pss_one (ps_ret (pe_callB (cr_sumK K rfl rfl) (by rfl) T.z_sum (by decide +kernel) (pa_cons (pe_lc (own := [("x", 3)]) rfl sc_met.nd (pi_listK K rfl (pv 1)) (blkOk_by (own := [("x", 3)]) (N := ["field", "one", "other", "x", "y"]) (sc := defScope s_met) (by decide +kernel)) (fun _ _ _ _ _ => (pg_name (i := 3) sc_met.nd rfl (Or.inr rfl))) (fun _ _ _ _ _ => pts_nil) (fun _ _ _ _ _ => (pe_callB (cr_sumK K rfl rfl) (by rfl) T.z_sum (by decide +kernel) (pa_cons (pe_lc (own := [("y", 4)]) rfl sc_met.nd (pi_listK K rfl (pv 2)) (blkOk_by (own := [("y", 4)]) (N := ["field", "one", "other", "x", "y"]) (sc := (Hf.relS { kind := PySem.ScopeKind.function, names := [ (PySem.Str.ofString ".0", PySem.NameKind.local), (PySem.Str.ofString "x", PySem.NameKind.cell), (PySem.Str.ofString "sum", PySem.NameKind.globalImplicit), (PySem.Str.ofString "field", PySem.NameKind.free), (PySem.Str.ofString "other", PySem.NameKind.free)], isGenerator := false, isCoroutine := false, more := [] : PySem.Scope } (defScope s_met))) (by decide +kernel)) (fun _ _ _ _ _ => (pg_name (i := 4) sc_met.nd rfl (Or.inl rfl))) (fun _ _ _ _ _ => pts_nil) (fun _ _ _ _ _ => (pe_call G_paid (hr.mono (by first | decide | omega)) (by rfl) T.g_paid T.F_paid.kp T.b_paid .nil pass0 (pa_cons (pv 0) (pa_cons (pv 3) (pa_cons (pv 4) pa_nil)))))) pa_nil)))) pa_nil)))), ?_⟩
  try dsimp only [L2.cxOf, L2.Cx.nox, L2.Cx.wish, List.map_cons, List.map_nil]
  obtain ⟨v, fl, f, s, q, r, ms, ns, rfl, p0, p1, p2, p3, p4, p5, ⟨p6, p7⟩, k⟩ := h
  refine start_to (σ := [some _, some _, some _, none, none]) rfl ?_
  walk_at "go"
  intro D nD
  refine lcL_int (xs := ms.map V.int) (fun i => (ns.map fun y => paidV fl ((ms[i]?).getD 0) y).sum) nD (by rw [List.length_map]; omega) (SqL.of p2) ?_ ?_
  · intro i x H1 Z Y hx s1 hz
    obtain ⟨x, rfl, e1⟩ := ints_at hx
    have b1 := p4 x (List.mem_of_getElem? e1)
    have p3' := s1 _ _ p3
    have p0' := p0.same s1
    walk_at "go"
    intro D2 nD2
    refine lcL_int (xs := ns.map V.int) (fun j => paidV fl x ((ns[j]?).getD 0)) nD2 (by rw [List.length_map]; omega) (SqL.of p3') ?_ ?_
    · intro j y H2 Z2 Y2 hy s2 hz2
      obtain ⟨y, rfl, e2⟩ := ints_at hy
      have b2 := p5 y (List.mem_of_getElem? e2)
      have p0'' := p0'.same s2
      have b3 : 0 ≤ x ∧ x ≤ f ∧ 0 ≤ y ∧ y ≤ s := ⟨b1.1, b1.2, b2.1, b2.2⟩
      walk_at "go"
      have := hz2 H2 (Same.refl _)
      rw [e2] at this
      exact this
    · intro H2 s2 hD2
      rw [List.length_map, rng_map _ (fun y => paidV fl x y) ns (fun i x e => by rw [e]; rfl)] at hD2
      walk_at "go"
      have := hz H2 s2
      rw [e1] at this
      exact this
  · intro H1 s1 hD
    rw [List.length_map, rng_map _ (fun x => (ns.map fun y => paidV fl x y).sum) ms (fun i x e => by rw [e]; rfl)] at hD
    walk_at "go"
    exact k H1 s1

def sp_is_alike (K : PySem.W.Frag) : Sp := fun vs H Q E => ∃ (v : V) (f s : Int) (fl : Fld) (n : Nat), vs = [v] ∧ (Dq H v (batD f s (List.replicate n fl))) ∧ (BatOk f s (List.replicate n fl)) ∧ ∀ (H' : Hp), (Same H H') → Q (.bl true) H'
theorem use_is_alike {K : PySem.W.Frag} {H : Hp} {Q : VK} {E : XK} {v : V} {f s : Int} {fl : Fld} {n : Nat} (p0 : Dq H v (batD f s (List.replicate n fl))) (p1 : BatOk f s (List.replicate n fl)) (k : ∀ (H' : Hp), (Same H H') → Q (.bl true) H') : sp_is_alike K [v] H Q E := ⟨v, f, s, fl, n, rfl, p0, p1, k⟩
theorem len_is_alike {K : PySem.W.Frag} (vs : List V) (H : Hp) (Q : VK) (E : XK) (h : sp_is_alike K vs H Q E) : vs.length = ["battle"].length := by
  obtain ⟨_, _, _, _, _, rfl, _⟩ := h
  rfl
local macro_rules | `(tactic| walk_at "g_call") => `(tactic| ((with_reducible refine' use_is_alike ?c0 ?c1 ?_); (case c0 => walk_at "g_pre"); (case c1 => walk_at "g_pre"); intros))
theorem ok_is_alike (T : Txt K mg) : FnOk P w K mg base CX0 6 T.a_is_alike T.d_is_alike ["battle"] (sp_is_alike K) := by
  have G_look_battle := ok_look_battle (P := P) (w := w) (base := base) T
  refine T.F_is_alike.ok sc_is_alike len_is_alike (fun cdv A outer s H vs Q E hr h => ?_)
  refine ⟨_, (pss_cons (ps_expr (pe_call G_look_battle (hr.mono (by first | decide | omega)) (by rfl) T.g_look_battle T.F_look_battle.kp T.b_look_battle .nil passL (pa_cons (pv 0) pa_nil)))
      (pss_one (ps_ret (pe_cmpR op_eq (pe_callB (call_lenK K rfl) (by rfl) T.z_len (by decide +kernel) (pa_cons (pe_lc (own := [("field", 1)]) rfl sc_is_alike.nd (pi_listK K rfl (pe_ix (ix_tupK K rfl) (pv 0) pe_int (fun _ _ => rfl))) (blkOk_by (own := [("field", 1)]) (N := ["battle", "field"]) (sc := defScope s_is_alike) (by decide +kernel)) (fun _ _ _ _ _ => (pg_name (i := 1) sc_is_alike.nd rfl (Or.inl rfl))) (fun _ _ _ _ _ => (pts_one (pt_cmpR (op_neDK K rfl hr.units) (pv 1) (pe_ix (ix_listK K rfl) (pe_ix (ix_tupK K rfl) (pv 0) pe_int (fun _ _ => rfl)) pe_int (fun _ _ => rfl)) (nomark _)))) (fun _ _ _ _ _ => (pv 1))) pa_nil)) pe_int (nomark _))))), ?_⟩
  try dsimp only [L2.cxOf, L2.Cx.nox, L2.Cx.wish, List.map_cons, List.map_nil]
  obtain ⟨v, f, s, fl, n, rfl, p0, p1, k⟩ := h
  refine start_to (σ := [some _, none]) rfl ?_
  walk_at "go"
  rename_i H1 s1
  obtain ⟨a, p, xs, rfl, h1, h2, h3⟩ := bat_inv (p0.same s1)
  have hl : xs.length = n := by rw [h3.len, List.length_map, List.length_replicate]
  have hn := p1.ne
  rw [List.length_replicate] at hn
  obtain ⟨x0, hx0⟩ : ∃ x, xs[0]? = some x := ⟨xs[0]'(by omega), List.getElem?_eq_getElem _⟩
  have hat : atI xs 0 = some x0 := atI_nat hx0
  have all : ∀ (i : Nat) (x : V), xs[i]? = some x → Dq H1 x (fldD fl) := fun i x hx => by
    obtain ⟨d, g1, g2⟩ := h3.get' hx
    rw [List.getElem?_map] at g1
    obtain ⟨fl', e1, rfl⟩ := Option.map_eq_some_iff.mp g1
    rw [List.eq_of_mem_replicate (List.mem_of_getElem? e1)] at g2
    exact g2
  have d0 := all 0 x0 hx0
  walk_at "go"
  intro D nD
  refine lcL_fl (xs := xs) (fun _ => false) nD (by omega) (SqL.of h2) ?_ ?_
  · intro i x H2 Z Y hx s2 hz hy
    have d1 := (all i x hx).same s2
    have d2 := d0.same s2
    have h1' := s2 _ _ h1
    have h2' := s2 _ _ h2
    walk_at "go"
    refine i_neDq d1 d2 (shaped_of (lay_fld fl) (Nat.le_trans (dep_fld fl) (by decide))) ?_
    walk_at "go"
    exact hy _ rfl (by walk_at "g_same")
  · intro acc H2 hD s2 hc ha
    have e0 : (acc.length : Int) = 0 := hc.mpr fun _ _ => rfl
    walk_at "go"
    rw [decide_eq_true e0]
    exact k _ (s1.trans s2)
def sp_must_be_alike (K : PySem.W.Frag) : Sp := fun vs H Q E => ∃ (v : V) (f s : Int) (fl : Fld) (n : Nat), vs = [v] ∧ (Dq H v (batD f s (List.replicate n fl))) ∧ (BatOk f s (List.replicate n fl)) ∧ ∀ (H' : Hp), (Same H H') → Q (.non) H'
theorem use_must_be_alike {K : PySem.W.Frag} {H : Hp} {Q : VK} {E : XK} {v : V} {f s : Int} {fl : Fld} {n : Nat} (p0 : Dq H v (batD f s (List.replicate n fl))) (p1 : BatOk f s (List.replicate n fl)) (k : ∀ (H' : Hp), (Same H H') → Q (.non) H') : sp_must_be_alike K [v] H Q E := ⟨v, f, s, fl, n, rfl, p0, p1, k⟩
theorem len_must_be_alike {K : PySem.W.Frag} (vs : List V) (H : Hp) (Q : VK) (E : XK) (h : sp_must_be_alike K vs H Q E) : vs.length = ["battle"].length := by
  obtain ⟨_, _, _, _, _, rfl, _⟩ := h
  rfl
local macro_rules | `(tactic| walk_at "g_call") => `(tactic| ((with_reducible refine' use_must_be_alike ?c0 ?c1 ?_); (case c0 => walk_at "g_pre"); (case c1 => walk_at "g_pre"); intros))
theorem ok_must_be_alike (T : Txt K mg) : FnOk P w K mg base CX0 7 T.a_must_be_alike T.d_must_be_alike ["battle"] (sp_must_be_alike K) := by
  have G_is_alike := ok_is_alike (P := P) (w := w) (base := base) T
  refine T.F_must_be_alike.ok sc_must_be_alike len_must_be_alike (fun cdv A outer s H vs Q E hr h => ?_)
  refine ⟨_, (pss_one (ps_if (pt_not (pt_val (pe_call G_is_alike (hr.mono (by first | decide | omega)) (by rfl) T.g_is_alike T.F_is_alike.kp T.b_is_alike .nil pass0 (pa_cons (pv 0) pa_nil)))) (pss_one ps_never) pss_nil)), ?_⟩
  try dsimp only [L2.cxOf, L2.Cx.nox, L2.Cx.wish, List.map_cons, List.map_nil]
  obtain ⟨v, f, s, fl, n, rfl, p0, p1, k⟩ := h
  refine start_to (σ := [some _]) rfl ?_
  walk_at "go"
  exact k _ (by walk_at "g_same")

def sp_l_whole (K : PySem.W.Frag) : Sp := fun vs H Q E => ∃ (x : Int), vs = [.int x] ∧ Q (.bl true) H
theorem use_l_whole {K : PySem.W.Frag} {H : Hp} {Q : VK} {E : XK} {x : Int}  (k : Q (.bl true) H) : sp_l_whole K [.int x] H Q E := ⟨x, rfl, k⟩
theorem len_l_whole {K : PySem.W.Frag} (vs : List V) (H : Hp) (Q : VK) (E : XK) (h : sp_l_whole K vs H Q E) : vs.length = ["_law_found"].length := by
  obtain ⟨_, rfl, _⟩ := h
  rfl
local macro_rules | `(tactic| walk_at "g_call") => `(tactic| ((with_reducible refine' use_l_whole ?_); intros))
theorem ok_l_whole (T : Txt K mg) : FnOk P w K mg base CX0 1 T.a_l_whole T.d_l_whole ["_law_found"] (sp_l_whole K) := by
  refine T.F_l_whole.ok sc_l_whole len_l_whole (fun cdv A outer s H vs Q E hr h => ?_)
  refine ⟨_, (pss_one (ps_ret (pe_and (pe_callB (call_isXK K rfl) (by rfl) T.z_isinstance (by decide +kernel) (pa_cons (pv 0) (pa_cons (pe_bltn (v := .ty "int") rfl T.z_int (by decide +kernel) rfl) pa_nil))) (pe_one (pe_not (pe_callB (call_isXK K rfl) (by rfl) T.z_isinstance (by decide +kernel) (pa_cons (pv 0) (pa_cons (pe_bltn (v := .ty "bool") rfl T.z_bool (by decide +kernel) rfl) pa_nil)))))))), ?_⟩
  try dsimp only [L2.cxOf, L2.Cx.nox, L2.Cx.wish, List.map_cons, List.map_nil]
  obtain ⟨x, rfl, k⟩ := h
  refine start_to (σ := [some _]) rfl ?_
  walk_at "go"
  exact k

def sp_l_pay (K : PySem.W.Frag) : Sp := fun vs H Q E => ∃ (v : V) (fl : Fld) (f s x y : Int), vs = [v, .int x, .int y] ∧ (Dq H v (fldD fl)) ∧ (FldOk f s fl) ∧ (0 ≤ x ∧ x ≤ f ∧ 0 ≤ y ∧ y ≤ s) ∧ ∀ (H' : Hp), (Same H H') → Q (.int (paidV fl x y)) H'
theorem use_l_pay {K : PySem.W.Frag} {H : Hp} {Q : VK} {E : XK} {v : V} {fl : Fld} {f s x y : Int} (p0 : Dq H v (fldD fl)) (p1 : FldOk f s fl) (p2 : 0 ≤ x ∧ x ≤ f ∧ 0 ≤ y ∧ y ≤ s) (k : ∀ (H' : Hp), (Same H H') → Q (.int (paidV fl x y)) H') : sp_l_pay K [v, .int x, .int y] H Q E := ⟨v, fl, f, s, x, y, rfl, p0, p1, p2, k⟩
theorem len_l_pay {K : PySem.W.Frag} (vs : List V) (H : Hp) (Q : VK) (E : XK) (h : sp_l_pay K vs H Q E) : vs.length = ["_law_field_here", "_law_x", "_law_y"].length := by
  obtain ⟨_, _, _, _, _, _, rfl, _⟩ := h
  rfl
local macro_rules | `(tactic| walk_at "g_call") => `(tactic| ((with_reducible refine' use_l_pay ?c0 ?c1 ?c2 ?_); (case c0 => walk_at "g_pre"); (case c1 => walk_at "g_pre"); (case c2 => walk_at "g_pre"); intros))
theorem ok_l_pay (T : Txt K mg) : FnOk P w K mg base CX0 1 T.a_l_pay T.d_l_pay ["_law_field_here", "_law_x", "_law_y"] (sp_l_pay K) := by
  refine T.F_l_pay.ok sc_l_pay len_l_pay (fun cdv A outer s H vs Q E hr h => ?_)
  refine ⟨_, (pss_cons (ps_if (pt_cmpR op_eq (pe_ix (ix_tupK K rfl) (pv 0) pe_int (fun _ _ => rfl)) pe_str (nomark _)) (pss_one (ps_ret (pe_ix (ix_listK K rfl) (pe_ix (ix_listK K rfl) (pe_ix (ix_tupK K rfl) (pv 0) pe_int (fun _ _ => rfl)) (pv 1) (fun _ _ => rfl)) (pv 2) (fun _ _ => rfl)))) pss_nil)
      (pss_cons (ps_if (pt_cmpR op_eq (pe_ix (ix_tupK K rfl) (pv 0) pe_int (fun _ _ => rfl)) pe_str (nomark _)) (pss_one (ps_ret (pe_op op_mulA (pe_ix (ix_tupK K rfl) (pv 0) pe_int (fun _ _ => rfl)) (pe_op op_sub pe_int (pe_op op_mulA pe_int (pe_callTy call_int1 (by rfl) T.z_int (by decide +kernel) (pa_cons (pe_cmpR op_lt (pv 1) (pe_op op_add (pv 2) (pe_ix (ix_tupK K rfl) (pv 0) pe_int (fun _ _ => rfl))) (nomark _)) pa_nil))))))) pss_nil)
      (pss_one (ps_ret (pe_ix (ix_listK K rfl) (pe_lst (pa_cons (pe_ix (ix_tupK K rfl) (pv 0) pe_int (fun _ _ => rfl)) (pa_cons (pe_ix (ix_tupK K rfl) (pv 0) pe_int (fun _ _ => rfl)) (pa_cons (pe_op op_sub pe_int (pe_ix (ix_tupK K rfl) (pv 0) pe_int (fun _ _ => rfl))) pa_nil)))) (pe_op op_add (pe_callTy call_int1 (by rfl) T.z_int (by decide +kernel) (pa_cons (pe_cmpR op_gt (pv 1) (pv 2) (nomark _)) pa_nil)) (pe_op op_mulA pe_int (pe_callTy call_int1 (by rfl) T.z_int (by decide +kernel) (pa_cons (pe_cmpR op_lt (pv 1) (pv 2) (nomark _)) pa_nil)))) (fun _ _ => rfl)))))), ?_⟩
  try dsimp only [L2.cxOf, L2.Cx.nox, L2.Cx.wish, List.map_cons, List.map_nil]
  obtain ⟨v, fl, f, s, x, y, rfl, p0, p1, p2, k⟩ := h
  refine start_to (σ := [some _, some _, some _]) rfl ?_
  cases fl with
  | more w t =>
    obtain ⟨a, rfl, h1⟩ := fld_more p0
    have k' : ∀ H', Same H H' → Q (.int (if x = y then t else if x > y then w else 0 - w)) H' := k
    rcases (by omega : x < y ∨ x = y ∨ x > y) with c | c | c
    · rw [if_neg (by omega), if_neg (by omega)] at k'
      walk_at "go"
      exact k' _ (by walk_at "g_same")
    · rw [if_pos (by omega)] at k'
      walk_at "go"
      exact k' _ (by walk_at "g_same")
    · rw [if_neg (by omega), if_pos (by omega)] at k'
      walk_at "go"
      exact k' _ (by walk_at "g_same")
  | lead w l =>
    obtain ⟨a, rfl, h1⟩ := fld_lead p0
    have k' : ∀ H', Same H H' → Q (.int (if x ≥ y + l then w else 0 - w)) H' := k
    rcases (by omega : x - y ≥ l ∨ ¬ (x - y ≥ l)) with c | c
    · rw [if_pos (by omega)] at k'
      walk_at "go"
      rw [show w * (1 - 2 * if (false : Bool) = true then (1 : Int) else 0) = w by simp]
      exact k' _ (by walk_at "g_same")
    · rw [if_neg (by omega)] at k'
      walk_at "go"
      rw [show w * (1 - 2 * if (true : Bool) = true then (1 : Int) else 0) = 0 - w by simp]
      exact k' _ (by walk_at "g_same")
  | tab rows =>
    obtain ⟨a, p, xs, rfl, h1, h2, h3⟩ := fld_tab p0
    obtain ⟨g1, g2⟩ := p1
    have hl : xs.length = rows.length := by rw [h3.len, List.length_map]
    obtain ⟨w, hat, hw⟩ := at_lt (xs := xs) (i := x) (by omega) (by omega)
    obtain ⟨r, q, e1, rfl, e2⟩ := row_at h3 hw
    have hr := g2 r (List.mem_of_getElem? e1)
    walk_at "go"
    rename_i z hz
    have k' : Q (.int ((((rows[x.toNat]?).getD [])[y.toNat]?).getD 0)) H := k _ (Same.refl _)
    rw [e1] at k'
    have k2 : Q (.int ((r[y.toNat]?).getD 0)) H := k'
    rw [hz] at k2
    exact k2

def sp_all_counts (K : PySem.W.Frag) : Sp := fun vs H Q E => ∃ (h f : Int), vs = [.int h, .int f] ∧ ((0 ≤ h ∧ h ≤ 10) ∧ 1 ≤ f ∧ f ≤ 5) ∧ ∀ (v : V) (H' : Hp), (Dq H' v (tabD (allC f.toNat h.toNat h.toNat))) → (Same H H') → Q (v) H'
theorem use_all_counts {K : PySem.W.Frag} {H : Hp} {Q : VK} {E : XK} {h f : Int} (p0 : (0 ≤ h ∧ h ≤ 10) ∧ 1 ≤ f ∧ f ≤ 5) (k : ∀ (v : V) (H' : Hp), (Dq H' v (tabD (allC f.toNat h.toNat h.toNat))) → (Same H H') → Q (v) H') : sp_all_counts K [.int h, .int f] H Q E := ⟨h, f, rfl, p0, k⟩
theorem len_all_counts {K : PySem.W.Frag} (vs : List V) (H : Hp) (Q : VK) (E : XK) (h : sp_all_counts K vs H Q E) : vs.length = ["hosts", "many"].length := by
  obtain ⟨_, _, rfl, _⟩ := h
  rfl
local macro_rules | `(tactic| walk_at "g_call") => `(tactic| ((with_reducible refine' use_all_counts ?c0 ?_); (case c0 => walk_at "g_pre"); intros))
theorem ok_all_counts (T : Txt K mg) : FnOk P w K mg base CX0 11 T.a_all_counts T.d_all_counts ["hosts", "many"] (sp_all_counts K) := by
  have G_counts_of := ok_counts_of (P := P) (w := w) (base := base) T
  have G_counts_many := ok_counts_many (P := P) (w := w) (base := base) T
  refine T.F_all_counts.ok sc_all_counts len_all_counts (fun cdv A outer s H vs Q E hr h => ?_)
  refine ⟨_, (pss_one (ps_ret (pe_lc (own := [("number", 2)]) rfl sc_all_counts.nd (pi_range1 rfl T.z_range (pa_cons (pe_call G_counts_many (hr.mono (by first | decide | omega)) (by rfl) T.g_counts_many T.F_counts_many.kp T.b_counts_many .nil passL (pa_cons (pv 0) (pa_cons (pv 1) pa_nil))) pa_nil)) (blkOk_by (own := [("number", 2)]) (N := ["hosts", "many", "number"]) (sc := defScope s_all_counts) (by decide +kernel)) (fun _ _ _ _ _ => (pg_name (i := 2) sc_all_counts.nd rfl (Or.inl rfl))) (fun _ _ _ _ _ => pts_nil) (fun _ _ _ _ _ => (pe_call G_counts_of (hr.mono (by first | decide | omega)) (by rfl) T.g_counts_of T.F_counts_of.kp T.b_counts_of .nil passL (pa_cons (pv 0) (pa_cons (pv 1) (pa_cons (pv 2) pa_nil)))))))), ?_⟩
  try dsimp only [L2.cxOf, L2.Cx.nox, L2.Cx.wish, List.map_cons, List.map_nil]
  obtain ⟨h, f, rfl, p0, k⟩ := h
  refine start_to (σ := [some _, some _, none]) rfl ?_
  have so : SizeOk h f := ⟨p0.1.1, by omega, p0.2.1, by omega⟩
  have lc := allC_small (n := f.toNat) (h := h.toNat) (m := h.toNat) (by omega) (by omega)
  have le := allC_len (n := f.toNat) (h := h.toNat) (m := h.toNat)
  walk_at "go"
  rename_i w1 H1 s1
  intro D nD
  refine lcR_new (fun i => planD (((allC f.toNat h.toNat h.toNat)[i]?).getD [])) nD (by omega) ?_ ?_
  · intro i H2 Z Y hi s2 hz
    have good : SizeOk h f ∧ 0 ≤ (0 : Int) + (i : Int) ∧ (0 : Int) + (i : Int) < (fallN f.toNat h.toNat h.toNat : Nat) := ⟨so, by omega, by omega⟩
    walk_at "go"
    rename_i b cs H3 b1 b2 b3 b4 b5 b6
    refine hz (.ref b) (fr [] H2 H3) _ ?_ fr_newly fr_same b2
    rw [allC_at (n := f.toNat) (h := h.toNat) (i := i) b4.1 (by omega) b4.2.2 b5 (by omega)]
    exact row_mk (fr_lk0 b3 b1)
  · intro G H2 g1 g2 g3 g4
    rw [Int.toNat_natCast, ← le, rng_map _ planD _ (fun i x e => by rw [e]; rfl)] at g1
    exact k (.ref D) H2 (g1.same g3) (s1.trans g4)
def tabC (fl : Fld) (n f s : Nat) : List (List Int) := (allC n f f).map fun one => (allC n s s).map fun other => (one.map fun x => (other.map fun y => paidV fl x y).sum).sum
def sp_table_by_counts (K : PySem.W.Frag) : Sp := fun vs H Q E => ∃ (v : V) (f s : Int) (fl : Fld) (n : Nat), vs = [v] ∧ (Dq H v (batD f s (List.replicate n fl))) ∧ (BatOk f s (List.replicate n fl)) ∧ ∀ (T : Addr) (qs : List Addr) (H' : Hp), (Own2 H' T qs (tabC fl n f.toNat s.toNat)) → ((∀ q ∈ T :: qs, H q = none)) → (Same H H') → Q (.ref T) H'
theorem use_table_by_counts {K : PySem.W.Frag} {H : Hp} {Q : VK} {E : XK} {v : V} {f s : Int} {fl : Fld} {n : Nat} (p0 : Dq H v (batD f s (List.replicate n fl))) (p1 : BatOk f s (List.replicate n fl)) (k : ∀ (T : Addr) (qs : List Addr) (H' : Hp), (Own2 H' T qs (tabC fl n f.toNat s.toNat)) → ((∀ q ∈ T :: qs, H q = none)) → (Same H H') → Q (.ref T) H') : sp_table_by_counts K [v] H Q E := ⟨v, f, s, fl, n, rfl, p0, p1, k⟩
theorem len_table_by_counts {K : PySem.W.Frag} (vs : List V) (H : Hp) (Q : VK) (E : XK) (h : sp_table_by_counts K vs H Q E) : vs.length = ["battle"].length := by
  obtain ⟨_, _, _, _, _, rfl, _⟩ := h
  rfl
local macro_rules | `(tactic| walk_at "g_call") => `(tactic| ((with_reducible refine' use_table_by_counts ?c0 ?c1 ?_); (case c0 => walk_at "g_pre"); (case c1 => walk_at "g_pre"); intros))
theorem ok_table_by_counts (T : Txt K mg) : FnOk P w K mg base CX0 12 T.a_table_by_counts T.d_table_by_counts ["battle"] (sp_table_by_counts K) := by
  have G_all_counts := ok_all_counts (P := P) (w := w) (base := base) T
  have G_met := ok_met (P := P) (w := w) (base := base) T
  refine T.F_table_by_counts.ok sc_table_by_counts len_table_by_counts (fun cdv A outer s H vs Q E hr h => ?_)
  refine ⟨_, (pss_cons (ps_asg (pv 0) (pg_tupK K rfl 3 rfl (pgs_cons (pg_name (i := 1) sc_table_by_counts.nd rfl (Or.inl rfl)) (pgs_cons (pg_name (i := 2) sc_table_by_counts.nd rfl (Or.inl rfl)) (pgs_cons (pg_name (i := 3) sc_table_by_counts.nd rfl (Or.inr rfl)) pgs_nil)))))
      (pss_cons (ps_set (i := 4) sc_table_by_counts.nd rfl (Or.inr rfl) (pe_call G_all_counts (hr.mono (by first | decide | omega)) (by rfl) T.g_all_counts T.F_all_counts.kp T.b_all_counts .nil pass0 (pa_cons (pv 2) (pa_cons (pe_callB (call_lenK K rfl) (by rfl) T.z_len (by decide +kernel) (pa_cons (pv 3) pa_nil)) pa_nil))))
      (pss_one (ps_ret (pe_lc (own := [("one", 5)]) rfl sc_table_by_counts.nd (pi_listK K rfl (pe_call G_all_counts (hr.mono (by first | decide | omega)) (by rfl) T.g_all_counts T.F_all_counts.kp T.b_all_counts .nil pass0 (pa_cons (pv 1) (pa_cons (pe_callB (call_lenK K rfl) (by rfl) T.z_len (by decide +kernel) (pa_cons (pv 3) pa_nil)) pa_nil)))) (blkOk_by (own := [("one", 5)]) (N := ["battle", "first", "second", "fields", "others", "one", "other"]) (sc := defScope s_table_by_counts) (by decide +kernel)) (fun _ _ _ _ _ => (pg_name (i := 5) sc_table_by_counts.nd rfl (Or.inr rfl))) (fun _ _ _ _ _ => pts_nil) (fun _ _ _ _ _ => (pe_lc (own := [("other", 6)]) rfl sc_table_by_counts.nd (pi_listK K rfl (pv 4)) (blkOk_by (own := [("other", 6)]) (N := ["battle", "first", "second", "fields", "others", "one", "other"]) (sc := (Hf.relS { kind := PySem.ScopeKind.function, names := [ (PySem.Str.ofString ".0", PySem.NameKind.local), (PySem.Str.ofString "one", PySem.NameKind.cell), (PySem.Str.ofString "fields", PySem.NameKind.free), (PySem.Str.ofString "others", PySem.NameKind.free)], isGenerator := false, isCoroutine := false, more := [] : PySem.Scope } (defScope s_table_by_counts))) (by decide +kernel)) (fun _ _ _ _ _ => (pg_name (i := 6) sc_table_by_counts.nd rfl (Or.inl rfl))) (fun _ _ _ _ _ => pts_nil) (fun _ _ _ _ _ => (pe_call G_met (hr.mono (by first | decide | omega)) (by rfl) T.g_met T.F_met.kp T.b_met .nil pass0 (pa_cons (pe_ix (ix_listK K rfl) (pv 3) pe_int (fun _ _ => rfl)) (pa_cons (pv 5) (pa_cons (pv 6) pa_nil)))))))))))), ?_⟩
  try dsimp only [L2.cxOf, L2.Cx.nox, L2.Cx.wish, List.map_cons, List.map_nil]
  obtain ⟨v, f, s, fl, n, rfl, p0, p1, k⟩ := h
  refine start_to (σ := [some _, none, none, none, none, none, none]) rfl ?_
  obtain ⟨a, p, xs, rfl, h1, h2, h3⟩ := bat_inv p0
  have hl : xs.length = n := by rw [h3.len, List.length_map, List.length_replicate]
  have hn := p1.ne
  rw [List.length_replicate] at hn
  have hf := p1.hf
  have hs := p1.hs
  obtain ⟨x0, hx0⟩ : ∃ x, xs[0]? = some x := ⟨xs[0]'(by omega), List.getElem?_eq_getElem _⟩
  have hat : atI xs 0 = some x0 := atI_nat hx0
  have d0 : Dq H x0 (fldD fl) := by
    obtain ⟨d, g1, g2⟩ := h3.get' hx0
    rw [List.getElem?_map] at g1
    obtain ⟨fl', e1, rfl⟩ := Option.map_eq_some_iff.mp g1
    rw [List.eq_of_mem_replicate (List.mem_of_getElem? e1)] at g2
    exact g2
  have fo : FldOk f s fl := p1.ok fl (List.mem_replicate.mpr ⟨by omega, rfl⟩)
  have c1 : (0 ≤ s ∧ s ≤ 10) ∧ 1 ≤ (xs.length : Int) ∧ (xs.length : Int) ≤ 5 := by omega
  have c2 : (0 ≤ f ∧ f ≤ 10) ∧ 1 ≤ (xs.length : Int) ∧ (xs.length : Int) ≤ 5 := by omega
  have lcs := allC_small (n := n) (h := s.toNat) (m := s.toNat) (by omega) (by omega)
  have lcf := allC_small (n := n) (h := f.toNat) (m := f.toNat) (by omega) (by omega)
  walk_at "go"
  rename_i v1 H1 a1 s1 v2 H2 a2 s2
  rw [hl, Int.toNat_natCast] at a1 a2
  obtain ⟨A1, xs1, rfl, e1, e2⟩ := (a1.same s2).list_inv
  obtain ⟨A2, xs2, rfl, e3, e4⟩ := a2.list_inv
  have l1 : xs1.length = (allC n s.toNat s.toNat).length := by rw [e2.len, List.length_map]
  have l2 : xs2.length = (allC n f.toNat f.toNat).length := by rw [e4.len, List.length_map]
  have s12 := s1.trans s2
  refine ⟨A2, rfl, ⟨_, SqL.of e3⟩, ?_⟩
  intro D nD
  refine lcL_2d (xs := xs2) (fun i => (allC n s.toNat s.toNat).map fun other => ((((allC n f.toNat f.toNat)[i]?).getD []).map fun x => (other.map fun y => paidV fl x y).sum).sum) nD (by omega) (SqL.of e3) ?_ ?_
  · intro i x H3 Z Y hx s3 hz
    obtain ⟨one, q', f1, rfl, f2⟩ := row_at e4 hx
    have f2' := s3 _ _ f2
    have e1' := s3 _ _ e1
    have h2' := (s12.trans s3) _ _ h2
    obtain ⟨m1, m2, m3⟩ := allC_mem (List.mem_of_getElem? f1)
    walk_at "go"
    intro D2 nD2
    refine lcL_int (xs := xs1) (fun j => (one.map fun x => ((((allC n s.toNat s.toNat)[j]?).getD []).map fun y => paidV fl x y).sum).sum) nD2 (by omega) (SqL.of e1') ?_ ?_
    · intro j y H4 Z4 Y4 hy s4 hz4
      obtain ⟨other, q2, g1, rfl, g2⟩ := row_at e2 hy
      obtain ⟨m4, m5, m6⟩ := allC_mem (List.mem_of_getElem? g1)
      have g2' := (s3.trans s4) _ _ g2
      have f2'' := s4 _ _ f2'
      have h2'' := s4 _ _ h2'
      have d0' := d0.same ((s12.trans s3).trans s4)
      have n1 : ∀ x ∈ one, 0 ≤ x ∧ x ≤ f := fun x hx => by have := m3 x hx; omega
      have n2 : ∀ x ∈ other, 0 ≤ x ∧ x ≤ s := fun x hx => by have := m6 x hx; omega
      have ml : one.length ≤ 100 ∧ other.length ≤ 100 := by omega
      walk_at "go"
      rename_i H5 s5
      have := hz4 H5 s5
      rw [g1] at this
      exact this
    · intro H4 s4 hD
      rw [l1, rng_map _ (fun other : List Int => (one.map fun x => (other.map fun y => paidV fl x y).sum).sum) _ (fun j y e => by rw [e]; rfl)] at hD
      refine hz D2 H4 ?_ nD2 s4
      rw [f1]
      exact hD
  · intro qs H3 own nw s3
    rw [l2, rng_map _ (fun one : List Int => (allC n s.toNat s.toNat).map fun other => (one.map fun x => (other.map fun y => paidV fl x y).sum).sum) _ (fun j y e => by rw [e]; rfl)] at own
    refine k D qs H3 own (fun q hq => ?_) (s12.trans s3)
    rcases List.mem_cons.mp hq with z | z
    · rw [z]; exact s12.free nD
    · exact s12.free (nw q z)
def sp_counts_table (K : PySem.W.Frag) : Sp := fun vs H Q E => ∃ (v : V) (f s : Int) (fl : Fld) (n : Nat), vs = [v] ∧ (Dq H v (batD f s (List.replicate n fl))) ∧ (BatOk f s (List.replicate n fl)) ∧ ∀ (T : Addr) (qs : List Addr) (H' : Hp), (Own2 H' T qs (tabC fl n f.toNat s.toNat)) → ((∀ q ∈ T :: qs, H q = none)) → (Same H H') → Q (.ref T) H'
theorem use_counts_table {K : PySem.W.Frag} {H : Hp} {Q : VK} {E : XK} {v : V} {f s : Int} {fl : Fld} {n : Nat} (p0 : Dq H v (batD f s (List.replicate n fl))) (p1 : BatOk f s (List.replicate n fl)) (k : ∀ (T : Addr) (qs : List Addr) (H' : Hp), (Own2 H' T qs (tabC fl n f.toNat s.toNat)) → ((∀ q ∈ T :: qs, H q = none)) → (Same H H') → Q (.ref T) H') : sp_counts_table K [v] H Q E := ⟨v, f, s, fl, n, rfl, p0, p1, k⟩
theorem len_counts_table {K : PySem.W.Frag} (vs : List V) (H : Hp) (Q : VK) (E : XK) (h : sp_counts_table K vs H Q E) : vs.length = ["battle"].length := by
  obtain ⟨_, _, _, _, _, rfl, _⟩ := h
  rfl
local macro_rules | `(tactic| walk_at "g_call") => `(tactic| ((with_reducible refine' use_counts_table ?c0 ?c1 ?_); (case c0 => walk_at "g_pre"); (case c1 => walk_at "g_pre"); intros))
theorem ok_counts_table (T : Txt K mg) : FnOk P w K mg base CX0 13 T.a_counts_table T.d_counts_table ["battle"] (sp_counts_table K) := by
  have G_must_be_alike := ok_must_be_alike (P := P) (w := w) (base := base) T
  have G_table_by_counts := ok_table_by_counts (P := P) (w := w) (base := base) T
  refine T.F_counts_table.ok sc_counts_table len_counts_table (fun cdv A outer s H vs Q E hr h => ?_)
  refine ⟨_, (pss_cons (ps_expr (pe_call G_must_be_alike (hr.mono (by first | decide | omega)) (by rfl) T.g_must_be_alike T.F_must_be_alike.kp T.b_must_be_alike .nil pass0 (pa_cons (pv 0) pa_nil)))
      (pss_one (ps_ret (pe_call G_table_by_counts (hr.mono (by first | decide | omega)) (by rfl) T.g_table_by_counts T.F_table_by_counts.kp T.b_table_by_counts .nil pass0 (pa_cons (pv 0) pa_nil))))), ?_⟩
  try dsimp only [L2.cxOf, L2.Cx.nox, L2.Cx.wish, List.map_cons, List.map_nil]
  obtain ⟨v, f, s, fl, n, rfl, p0, p1, k⟩ := h
  refine start_to (σ := [some _]) rfl ?_
  walk_at "go"
  rename_i H1 s1 T qs H2 o1 o2 o3
  exact k T qs H2 o1 (fun q hq => s1.free (o2 q hq)) (s1.trans o3)
def sp_l_copy (K : PySem.W.Frag) : Sp := fun vs H Q E => ∃ (v : V) (fl : Fld) (f s : Int), vs = [v] ∧ (Dq H v (fldD fl)) ∧ (FldOk f s fl) ∧ (f ≤ 10 ∧ s ≤ 10) ∧ ∀ (w : V) (S : List Addr) (H' : Hp), (OwN H H' w (fldD fl) S) → (Same H H') → Q (w) H'
theorem use_l_copy {K : PySem.W.Frag} {H : Hp} {Q : VK} {E : XK} {v : V} {fl : Fld} {f s : Int} (p0 : Dq H v (fldD fl)) (p1 : FldOk f s fl) (p2 : f ≤ 10 ∧ s ≤ 10) (k : ∀ (w : V) (S : List Addr) (H' : Hp), (OwN H H' w (fldD fl) S) → (Same H H') → Q (w) H') : sp_l_copy K [v] H Q E := ⟨v, fl, f, s, rfl, p0, p1, p2, k⟩
theorem len_l_copy {K : PySem.W.Frag} (vs : List V) (H : Hp) (Q : VK) (E : XK) (h : sp_l_copy K vs H Q E) : vs.length = ["_law_field_here"].length := by
  obtain ⟨_, _, _, _, rfl, _⟩ := h
  rfl
local macro_rules | `(tactic| walk_at "g_call") => `(tactic| ((with_reducible refine' use_l_copy ?c0 ?c1 ?c2 ?_); (case c0 => walk_at "g_pre"); (case c1 => walk_at "g_pre"); (case c2 => walk_at "g_pre"); intros))
theorem ok_l_copy (T : Txt K mg) : FnOk P w K mg base CX0 1 T.a_l_copy T.d_l_copy ["_law_field_here"] (sp_l_copy K) := by
  refine T.F_l_copy.ok sc_l_copy len_l_copy (fun cdv A outer s H vs Q E hr h => ?_)
  refine ⟨_, (pss_cons (ps_if (pt_cmpR op_eq (pe_ix (ix_tupK K rfl) (pv 0) pe_int (fun _ _ => rfl)) pe_str (nomark _)) (pss_one (ps_ret (pe_tup (pa_cons pe_str (pa_cons (pe_lc (own := [("_law_row", 1)]) rfl sc_l_copy.nd (pi_listK K rfl (pe_ix (ix_tupK K rfl) (pv 0) pe_int (fun _ _ => rfl))) (blkOk_by (own := [("_law_row", 1)]) (N := ["_law_field_here", "_law_row"]) (sc := defScope s_l_copy) (by decide +kernel)) (fun _ _ _ _ _ => (pg_name (i := 1) sc_l_copy.nd rfl (Or.inl rfl))) (fun _ _ _ _ _ => pts_nil) (fun _ _ _ _ _ => (pe_callTy (call_listK K rfl) (by rfl) T.z_list (by decide +kernel) (pa_cons (pv 1) pa_nil)))) pa_nil))))) pss_nil)
      (pss_one (ps_ret (pv 0)))), ?_⟩
  try dsimp only [L2.cxOf, L2.Cx.nox, L2.Cx.wish, List.map_cons, List.map_nil]
  obtain ⟨v, fl, f, s, rfl, p0, p1, p2, k⟩ := h
  refine start_to (σ := [some _, none]) rfl ?_
  cases fl with
  | more w t =>
    obtain ⟨a, rfl, h1⟩ := fld_more p0
    walk_at "go"
    exact k _ [] _ ⟨.tup h1 (.cons (.str _) (.cons (.int _) (.cons (.int _) .nil))), List.nodup_nil, nofun⟩ (by walk_at "g_same")
  | lead w l =>
    obtain ⟨a, rfl, h1⟩ := fld_lead p0
    walk_at "go"
    exact k _ [] _ ⟨.tup h1 (.cons (.str _) (.cons (.int _) (.cons (.int _) .nil))), List.nodup_nil, nofun⟩ (by walk_at "g_same")
  | tab rows =>
    obtain ⟨a, p, xs, rfl, h1, h2, h3⟩ := fld_tab p0
    obtain ⟨g1, g2⟩ := p1
    have hl : xs.length = rows.length := by rw [h3.len, List.length_map]
    walk_at "go"
    intro D nD
    refine lcL_own (xs := xs) (fun i => planD ((rows[i]?).getD [])) nD (by omega) (SqL.of h2) ?_ ?_
    · intro i x H2 Z Y hx s2 hz
      obtain ⟨r, q', f1, rfl, f2⟩ := row_at h3 hx
      have f2' := s2 _ _ f2
      have rl := g2 r (List.mem_of_getElem? f1)
      walk_at "go"
      rename_i q nq
      refine hz (.ref q) [q] _ ?_ (Same.new nq)
      rw [f1]
      exact own_list upd_same nq
    · intro S H2 t1 t4
      rw [hl, rng_map _ planD _ (fun i x e => by rw [e]; rfl)] at t1
      walk_at "go"
      rename_i q nq
      exact k _ S _ (OwN.tab t1 nq) (t4.trans (Same.new nq))
theorem take_more9 {α : Type} {l : List α} {i : Nat} {x : α} (h : l[i]? = some x) : l.take (i + 1) = l.take i ++ [x] := by
  rw [List.take_succ, h]
  rfl
theorem flat_pre {α : Type} {f : Nat → List α} {i k : Nat} (h : i ≤ k) : ((List.range i).flatMap f).length ≤ ((List.range k).flatMap f).length := by
  induction k with
  | zero => rw [Nat.le_zero.mp h]; exact Nat.le_refl _
  | succ k ih =>
    rcases Nat.lt_or_ge i (k + 1) with c | c
    · have := ih (by omega)
      rw [List.range_succ, List.flatMap_append, List.length_append]
      omega
    · rw [show i = k + 1 by omega]
      exact Nat.le_refl _
def sp_l_all (K : PySem.W.Frag) (n : Nat) : Sp := fun vs H Q E => ∃ (h f m : Int), vs = [.int h, .int f, .int m] ∧ ((0 ≤ h ∧ h ≤ 10) ∧ 0 ≤ m ∧ m ≤ 10) ∧ (0 ≤ f ∧ f < n ∧ f ≤ 5) ∧ ∀ (v : V) (G H' : Hp), (Dq G v (tabD (allC f.toNat h.toNat m.toNat))) → (Newly H G) → (Same G H') → (Same H H') → Q (v) H'
theorem use_l_all {K : PySem.W.Frag} {n : Nat} {H : Hp} {Q : VK} {E : XK} {h f m : Int} (p0 : (0 ≤ h ∧ h ≤ 10) ∧ 0 ≤ m ∧ m ≤ 10) (p1 : 0 ≤ f ∧ f < n ∧ f ≤ 5) (k : ∀ (v : V) (G H' : Hp), (Dq G v (tabD (allC f.toNat h.toNat m.toNat))) → (Newly H G) → (Same G H') → (Same H H') → Q (v) H') : sp_l_all K n [.int h, .int f, .int m] H Q E := ⟨h, f, m, rfl, p0, p1, k⟩
theorem len_l_all {K : PySem.W.Frag} {n : Nat} (vs : List V) (H : Hp) (Q : VK) (E : XK) (h : sp_l_all K n vs H Q E) : vs.length = ["_law_hosts", "_law_fields", "_law_most"].length := by
  obtain ⟨_, _, _, rfl, _⟩ := h
  rfl
local macro_rules | `(tactic| walk_at "g_call") => `(tactic| ((with_reducible refine' use_l_all ?c0 ?c1 ?_); (case c0 => walk_at "g_pre"); (case c1 => walk_at "g_pre"); intros))
theorem okn_l_all (T : Txt K mg) (n : Nat) : FnOk P w K mg base CX0 n T.a_l_all T.d_l_all ["_law_hosts", "_law_fields", "_law_most"] (sp_l_all K n) := by
  induction n with
  | zero => exact ⟨len_l_all, fun A outer s H args us vs Q E hr he hb hv h => by
      obtain ⟨h, f, m, _, _, z, _⟩ := h
      omega⟩
  | succ n ih =>
  have G_l_all := ih
  refine T.F_l_all.ok sc_l_all len_l_all (fun cdv A outer s H vs Q E hr h => ?_)
  refine ⟨_, (pss_cons (ps_if (pt_cmpR op_eq (pv 1) pe_int (nomark _)) (pss_one (ps_ret (pe_op op_rep (pe_lst (pa_cons (pe_lst pa_nil) pa_nil)) (pe_callTy call_int1 (by rfl) T.z_int (by decide +kernel) (pa_cons (pe_cmpR op_eq (pv 0) pe_int (nomark _)) pa_nil))))) pss_nil)
      (pss_cons (ps_set (i := 3) sc_l_all.nd rfl (Or.inl rfl) (pe_lst pa_nil))
      (pss_cons (ps_for PassesOwn.never rfl (pi_range1 rfl T.z_range (pa_cons (pe_op op_add (pe_callB (call_min2 rfl) (by rfl) T.z_min (by decide +kernel) (pa_cons (pv 0) (pa_cons (pv 2) pa_nil))) pe_int) pa_nil)) (pg_name (i := 4) sc_l_all.nd rfl (Or.inl rfl)) (pss_one (ps_for PassesOwn.never rfl (pi_listK K rfl (pe_call G_l_all (hr.mono (by first | decide | omega)) (by rfl) T.g_l_all T.F_l_all.kp T.b_l_all .nil pass0 (pa_cons (pe_op op_sub (pv 0) (pv 4)) (pa_cons (pe_op op_sub (pv 1) pe_int) (pa_cons (pv 4) pa_nil))))) (pg_name (i := 5) sc_l_all.nd rfl (Or.inl rfl)) (pss_one (ps_expr (pe_bm PySem.F.plainAttrs_list PySem.F.slot_list_append PySem.F.type_list_append mt_append (pv 3) (pa_cons (pe_op op_cat (pe_lst (pa_cons (pv 4) pa_nil)) (pv 5)) pa_nil)))))))
      (pss_one (ps_ret (pv 3)))))), ?_⟩
  try dsimp only [L2.cxOf, L2.Cx.nox, L2.Cx.wish, List.map_cons, List.map_nil]
  obtain ⟨h, f, m, rfl, p0, p1, k⟩ := h
  refine start_to (σ := [some _, some _, some _, none, none, none]) rfl ?_
  walk_at "go"
  refine ite_d (fun c1 => ?_) (fun c1 => ?_)
  · subst c1
    walk_at "go"
    rename_i q1 n1 q2 n2 q3 n3
    have n30 : H q3 = none := by walk_at "g_free"
    have s9 : Same H (upd (upd (upd H q1 (.lst [])) q2 (.lst [.ref q1])) q3 (.lst (List.replicate (if decide (h = 0) = true then (1 : Int) else 0).toNat (.ref q1)))) := by walk_at "g_same"
    refine k _ (fr [] H _) _ (.lst (fr_lk0 n30 upd_same) ?_) fr_newly fr_same s9
    show DqAll _ _ ((if h.toNat = 0 then [[]] else []).map planD)
    by_cases c : h = 0
    · subst c
      show DqAll _ _ [planD []]
      exact .cons (.lst (fr_lk0 n1 (lk_new n3 (lk_new n2 upd_same))) .nil) .nil
    · rw [if_neg (show ¬ h.toNat = 0 by omega), decide_eq_false c]
      exact .nil
  · obtain ⟨n', hn'⟩ : ∃ n', f.toNat = n' + 1 := ⟨f.toNat - 1, by omega⟩
    have big := allC_small (n := n' + 1) (h := h.toNat) (m := m.toNat) (by omega) (by omega)
    rw [hn'] at k
    rw [allC] at k big
    have ec : ((if m < h then m else h) + 1).toNat = min h.toNat m.toNat + 1 := by split <;> omega
    have nR9 : True := trivial
    walk_at "go"
    rename_i R nR
    refine forR (fun i σ H1 => ∃ (ys : List V) (y3 y4 : Option V), σ = [some (.int h), some (.int f), some (.int m), some (.ref R), y3, y4] ∧ H1 R = some (.lst ys) ∧ DqAll (fr [R] H H1) ys (((List.range i).flatMap fun c => (allC n' (h.toNat - c) c).map fun r => (c : Int) :: r).map planD) ∧ Same H H1) ⟨[], _, _, rfl, upd_same, .nil, Same.new nR⟩ ?_ ?_
    · rintro σ1 H1 ⟨ys, y3, y4, rfl, q1, q2, q3⟩
      walk_at "go"
      rw [ec] at q2
      exact k (.ref R) (fr [] H H1) H1 (.lst (fr_lk0 nR q1) (q2.same fr_sub)) fr_newly fr_same q3
    · rintro i σ1 H1 hi ⟨ys, y3, y4, rfl, q1, q2, q3⟩
      have hi2 : i ≤ h.toNat ∧ i ≤ m.toNat := by omega
      have b1 : (0 ≤ h - (0 + (i : Int)) ∧ h - (0 + (i : Int)) ≤ 10) ∧ 0 ≤ 0 + (i : Int) ∧ 0 + (i : Int) ≤ 10 := by omega
      have b2 : 0 ≤ f - 1 ∧ f - 1 < (n : Int) ∧ f - 1 ≤ 5 := by omega
      walk_at "go"
      rename_i v G H2 d1 nw sG s2
      rw [show (h - (0 + (i : Int))).toNat = h.toNat - i by omega, show (f - 1).toNat = n' by omega, show (0 + (i : Int)).toNat = i by omega] at d1
      have GR : G R = none := nw _ _ q1
      obtain ⟨A, xs, rfl, e1, e2⟩ := (d1.same (same_hid1 sG GR)).list_inv
      have xl : xs.length = (allC n' (h.toNat - i) i).length := by rw [e2.len, List.length_map]
      have q1' := s2 _ _ q1
      have q2' := q2.same (fr_mono s2)
      have sH : Same H (hid [R] H2) := same_hid1 (q3.trans s2) nR
      refine ⟨A, rfl, ⟨_, SqL.of (hid_same _ _ e1)⟩, ?_⟩
      refine forL (xs := xs) (fun j σ H3 => ∃ (ys' : List V) (y5 : Option V), σ = [some (.int h), some (.int f), some (.int m), some (.ref R), some (.int (0 + (i : Int))), y5] ∧ H3 R = some (.lst ys') ∧ DqAll (fr [R] H H3) ys' ((((List.range i).flatMap fun c => (allC n' (h.toNat - c) c).map fun r => (c : Int) :: r) ++ ((allC n' (h.toNat - i) i).take j).map fun r => (i : Int) :: r).map planD) ∧ Same (hid [R] H2) (hid [R] H3)) ⟨ys, _, rfl, q1', by rw [List.take_zero, List.map_nil, List.append_nil]; exact q2', Same.refl _⟩ ?_ ?_ ?_
      · rintro j σ H3 _ ⟨ys', y5, rfl, g1, g2, g3⟩
        exact SqL.of (hid_same _ _ (g3 _ _ e1))
      · rintro σ H3 ⟨ys', y5, rfl, g1, g2, g3⟩
        refine ⟨ys', _, _, rfl, g1, ?_, (sH.trans g3).trans hid_same⟩
        rw [xl, List.take_length] at g2
        rw [List.range_succ, List.flatMap_append, List.flatMap_cons, List.flatMap_nil, List.append_nil]
        exact g2
      · rintro j x σ H3 hx ⟨ys', y5, rfl, g1, g2, g3⟩
        obtain ⟨r, p, f1, rfl, f2⟩ := row_at e2 hx
        have f3 := hid_same _ _ (g3 _ _ f2)
        have rl : r.length = n' := (allC_mem (List.mem_of_getElem? f1)).1
        have yl : ys'.length ≤ 161051 := by
          have a1 := flat_pre (f := fun c => (allC n' (h.toNat - c) c).map fun r => (c : Int) :: r) (show i + 1 ≤ min h.toNat m.toNat + 1 by omega)
          rw [List.range_succ, List.flatMap_append, List.flatMap_cons, List.flatMap_nil, List.append_nil, List.length_append, List.length_map] at a1
          rw [g2.len, List.length_map, List.length_append, List.length_map, List.length_take]
          omega
        have sH3 : Same H H3 := (sH.trans g3).trans hid_same
        walk_at "go"
        rename_i q1 n1 q2 n2
        have q2R : q2 ≠ R := by walk_at "g_ne"
        have q20 : H q2 = none := sH3.free ((Same.new n1).free n2)
        refine ⟨ys' ++ [.ref q2], _, rfl, upd_same, ?_, g3.trans ((hid_new n1).trans ((hid_new n2).trans (hid_upd (by simp))))⟩
        rw [take_more9 f1, List.map_append (l₂ := [r]), ← List.append_assoc, List.map_append (f := planD) (l₂ := List.map _ [r])]
        have sN : Same (fr [R] H H3) (fr [R] H (upd (upd (upd H3 q1 (.lst [.int (0 + (i : Int))])) q2 (.lst ([.int (0 + (i : Int))] ++ r.map V.int))) R (.lst (ys' ++ [.ref q2])))) := (fr_mono ((Same.new n1).trans (Same.new n2))).trans (fr_upd (by simp))
        refine DqAll.snoc (g2.same sN) ?_
        refine row_mk (fr_lk1 q2R q20 (lk_upd q2R ?_))
        rw [show (0 : Int) + (i : Int) = i by omega]
        exact upd_same
theorem ok_l_all (T : Txt K mg) : FnOk P w K mg base CX0 6 T.a_l_all T.d_l_all ["_law_hosts", "_law_fields", "_law_most"] (sp_l_all K 6) := okn_l_all T 6
def prD (e : Int × Int) : PyData := .tuple [.int e.1, .int e.2]
theorem flat_n {l : List Int} {n : Nat} : (l.flatMap fun x => (List.range n).map fun (p : Nat) => ((p : Int), x)).length = l.length * n := by
  induction l with
  | nil => simp
  | cons x l ih => rw [List.flatMap_cons, List.length_append, ih, List.length_map, List.length_range, List.length_cons, Nat.succ_mul, Nat.add_comm]
theorem take_more {α : Type} {l : List α} {i : Nat} {x : α} (h : l[i]? = some x) : l.take (i + 1) = l.take i ++ [x] := by
  rw [List.take_succ, h]
  rfl
theorem pr_inv {H : Hp} {v : V} {e : Int × Int} (h : Dq H v (prD e)) : ∃ t, v = .ref t ∧ H t = some (.tup [.int e.1, .int e.2]) := by
  rw [prD] at h
  cases h with
  | tup h q =>
    cases q with
    | cons a b =>
      cases b with
      | cons b c =>
        cases c
        cases a
        cases b
        exact ⟨_, rfl, h⟩
def prsC (ms : List Int) : List (Int × Int) := ms.flatMap fun x => (List.range ms.length).map fun (p : Nat) => ((p : Int), x)
theorem prs_mem {ms : List Int} {e : Int × Int} (h : e ∈ prsC ms) : e.2 ∈ ms ∧ 0 ≤ e.1 ∧ e.1 < ms.length := by
  unfold prsC at h
  obtain ⟨x, hx, h2⟩ := List.mem_flatMap.mp h
  obtain ⟨p, hp, rfl⟩ := List.mem_map.mp h2
  have := List.mem_range.mp hp
  exact ⟨hx, by show (0 : Int) ≤ (p : Int); omega, by show (p : Int) < _; omega⟩
theorem won_sum (fl : Fld) (ns : List Int) {l : List Int} : ((l.flatMap fun x => (List.range ns.length).map fun (p : Nat) => ((p : Int), x)).map fun e => paidV fl e.2 ((ns[e.1.toNat]?).getD 0)).sum = (l.map fun x => (ns.map fun y => paidV fl x y).sum).sum := by
  induction l with
  | nil => rfl
  | cons x l ih =>
    rw [List.flatMap_cons, List.map_append, List.sum_append, ih, List.map_cons, List.sum_cons, List.map_map]
    congr 2
    exact rng_map _ (fun y => paidV fl x y) ns (fun i y e => by
      show paidV fl x ((ns[((i : Int)).toNat]?).getD 0) = _
      rw [Int.toNat_natCast, e]
      rfl)
def sp_l_pairs (K : PySem.W.Frag) : Sp := fun vs H Q E => ∃ (q : Addr) (ms : List Int), vs = [.ref q] ∧ (H q = some (.lst (ms.map V.int))) ∧ (ms.length ≤ 5) ∧ ∀ (v : V) (H' : Hp), (Dq H' v (.list ((prsC ms).map prD))) → (Same H H') → Q (v) H'
theorem use_l_pairs {K : PySem.W.Frag} {H : Hp} {Q : VK} {E : XK} {q : Addr} {ms : List Int} (p0 : H q = some (.lst (ms.map V.int))) (p1 : ms.length ≤ 5) (k : ∀ (v : V) (H' : Hp), (Dq H' v (.list ((prsC ms).map prD))) → (Same H H') → Q (v) H') : sp_l_pairs K [.ref q] H Q E := ⟨q, ms, rfl, p0, p1, k⟩
theorem len_l_pairs {K : PySem.W.Frag} (vs : List V) (H : Hp) (Q : VK) (E : XK) (h : sp_l_pairs K vs H Q E) : vs.length = ["_law_one"].length := by
  obtain ⟨_, _, rfl, _⟩ := h
  rfl
local macro_rules | `(tactic| walk_at "g_call") => `(tactic| ((with_reducible refine' use_l_pairs ?c0 ?c1 ?_); (case c0 => walk_at "g_pre"); (case c1 => walk_at "g_pre"); intros))
theorem ok_l_pairs (T : Txt K mg) : FnOk P w K mg base CX0 1 T.a_l_pairs T.d_l_pairs ["_law_one"] (sp_l_pairs K) := by
  refine T.F_l_pairs.ok sc_l_pairs len_l_pairs (fun cdv A outer s H vs Q E hr h => ?_)
  refine ⟨_, (pss_cons (ps_set (i := 1) sc_l_pairs.nd rfl (Or.inl rfl) (pe_lst pa_nil))
      (pss_cons (ps_for PassesOwn.never rfl (pi_listK K rfl (pv 0)) (pg_name (i := 2) sc_l_pairs.nd rfl (Or.inr rfl)) (pss_one (ps_set (i := 1) sc_l_pairs.nd rfl (Or.inl rfl) (pe_op op_cat (pv 1) (pe_lc (own := [("_law_place", 3)]) rfl sc_l_pairs.nd (pi_range1 rfl T.z_range (pa_cons (pe_callB (call_lenK K rfl) (by rfl) T.z_len (by decide +kernel) (pa_cons (pv 0) pa_nil)) pa_nil)) (blkOk_by (own := [("_law_place", 3)]) (N := ["_law_one", "_law_found", "_law_x", "_law_place"]) (sc := defScope s_l_pairs) (by decide +kernel)) (fun _ _ _ _ _ => (pg_name (i := 3) sc_l_pairs.nd rfl (Or.inl rfl))) (fun _ _ _ _ _ => pts_nil) (fun _ _ _ _ _ => (pe_tup (pa_cons (pv 3) (pa_cons (pv 2) pa_nil)))))))))
      (pss_one (ps_ret (pv 1))))), ?_⟩
  try dsimp only [L2.cxOf, L2.Cx.nox, L2.Cx.wish, List.map_cons, List.map_nil]
  obtain ⟨q, ms, rfl, p0, p1, k⟩ := h
  refine start_to (σ := [some _, none, none, none]) rfl ?_
  walk_at "go"
  rename_i R0 nR0
  refine forL (xs := ms.map V.int) (fun i σ H1 => ∃ (R : Addr) (ys : List V) (y2 y3 : Option V), σ = [some (.ref q), some (.ref R), y2, y3] ∧ H1 R = some (.lst ys) ∧ DqAll H1 ys (((ms.take i).flatMap fun x => (List.range ms.length).map fun (p : Nat) => ((p : Int), x)).map prD) ∧ Same H H1) ⟨R0, [], _, _, rfl, upd_same, .nil, Same.new nR0⟩ ?_ ?_ ?_
  · rintro i σ H1 _ ⟨R, ys, y2, y3, rfl, q1, q2, q3⟩
    exact SqL.of (q3 _ _ p0)
  · rintro σ H1 ⟨R, ys, y2, y3, rfl, q1, q2, q3⟩
    walk_at "go"
    rw [List.length_map, List.take_length] at q2
    exact k (.ref R) H1 (.lst q1 q2) q3
  · rintro i x σ H1 hx ⟨R, ys, y2, y3, rfl, q1, q2, q3⟩
    obtain ⟨x, rfl, hx1⟩ := ints_at hx
    have p0' := q3 _ _ p0
    have hi : i < ms.length := (List.getElem?_eq_some_iff.mp hx1).1
    have yl : ys.length ≤ 25 := by
      rw [q2.len, List.length_map, flat_n, List.length_take]
      have : min i ms.length * ms.length ≤ 5 * 5 := Nat.mul_le_mul (by omega) p1
      omega
    walk_at "go"
    intro D nD
    refine lcR_new (fun p => prD ((p : Int), x)) nD (by omega) ?_ ?_
    · intro p H2 Z Y hp s2 hz
      walk_at "go"
      rename_i t nt
      refine hz (.ref t) (fr [] H2 (upd H2 t (.tup [.int (0 + (p : Int)), .int x]))) _ ?_ fr_newly fr_same (Same.new nt)
      rw [show (0 : Int) + (p : Int) = p by omega]
      exact .tup (fr_lk0 nt upd_same) (.cons (.int _) (.cons (.int _) .nil))
    · intro G H2 g1 g2 g3 g4
      obtain ⟨_, zs, e, g5, g6⟩ := (g1.same g3).list_inv
      cases e
      have zl : zs.length ≤ 5 := by rw [g6.len, List.length_map, List.length_range]; omega
      have q1' := g4 _ _ q1
      walk_at "go"
      rename_i R2 nR2
      refine ⟨R2, ys ++ zs, _, _, rfl, upd_same, ?_, (q3.trans g4).trans (Same.new nR2)⟩
      rw [take_more hx1, List.flatMap_append, List.map_append, List.flatMap_cons, List.flatMap_nil, List.append_nil, List.map_map]
      refine DqAll.append (q2.same (g4.trans (Same.new nR2))) ?_
      rw [show ((ms.length : Int)).toNat = ms.length by omega] at g6
      exact g6.same (Same.new nR2)
def sp_l_won (K : PySem.W.Frag) : Sp := fun vs H Q E => ∃ (v : V) (fl : Fld) (f s : Int) (w : V) (r : Addr) (ms ns : List Int), vs = [v, w, .ref r] ∧ (Dq H v (fldD fl)) ∧ (FldOk f s fl) ∧ (Dq H w (.list ((prsC ms).map prD))) ∧ (H r = some (.lst (ns.map V.int))) ∧ (ms.length ≤ 5 ∧ ns.length = ms.length) ∧ ((∀ x ∈ ms, 0 ≤ x ∧ x ≤ f)) ∧ ((∀ y ∈ ns, 0 ≤ y ∧ y ≤ s)) ∧ ∀ (H' : Hp), (Same H H') → Q (.int ((ms.map fun x => (ns.map fun y => paidV fl x y).sum).sum)) H'
theorem use_l_won {K : PySem.W.Frag} {H : Hp} {Q : VK} {E : XK} {v : V} {fl : Fld} {f s : Int} {w : V} {r : Addr} {ms ns : List Int} (p0 : Dq H v (fldD fl)) (p1 : FldOk f s fl) (p2 : Dq H w (.list ((prsC ms).map prD))) (p3 : H r = some (.lst (ns.map V.int))) (p4 : ms.length ≤ 5 ∧ ns.length = ms.length) (p5 : (∀ x ∈ ms, 0 ≤ x ∧ x ≤ f)) (p6 : (∀ y ∈ ns, 0 ≤ y ∧ y ≤ s)) (k : ∀ (H' : Hp), (Same H H') → Q (.int ((ms.map fun x => (ns.map fun y => paidV fl x y).sum).sum)) H') : sp_l_won K [v, w, .ref r] H Q E := ⟨v, fl, f, s, w, r, ms, ns, rfl, p0, p1, p2, p3, p4, p5, p6, k⟩
theorem len_l_won {K : PySem.W.Frag} (vs : List V) (H : Hp) (Q : VK) (E : XK) (h : sp_l_won K vs H Q E) : vs.length = ["_law_field_here", "_law_pairs_here", "_law_other"].length := by
  obtain ⟨_, _, _, _, _, _, _, _, rfl, _⟩ := h
  rfl
local macro_rules | `(tactic| walk_at "g_call") => `(tactic| ((with_reducible refine' use_l_won ?c0 ?c1 ?c2 ?c3 ?c4 ?c5 ?c6 ?_); (case c0 => walk_at "g_pre"); (case c1 => walk_at "g_pre"); (case c2 => walk_at "g_pre"); (case c3 => walk_at "g_pre"); (case c4 => walk_at "g_pre"); (case c5 => walk_at "g_pre"); (case c6 => walk_at "g_pre"); intros))
theorem ok_l_won (T : Txt K mg) : FnOk P w K mg base CX0 2 T.a_l_won T.d_l_won ["_law_field_here", "_law_pairs_here", "_law_other"] (sp_l_won K) := by
  have G_l_pay := ok_l_pay (P := P) (w := w) (base := base) T
  refine T.F_l_won.ok sc_l_won len_l_won (fun cdv A outer s H vs Q E hr h => ?_)
  refine ⟨_, (pss_one (ps_ret (pe_callB (cr_sumK K rfl rfl) (by rfl) T.z_sum (by decide +kernel) (pa_cons (pe_lc (own := [("_law_place", 3), ("_law_x", 4)]) rfl sc_l_won.nd (pi_listK K rfl (pv 1)) (blkOk_by (own := [("_law_place", 3), ("_law_x", 4)]) (N := ["_law_field_here", "_law_pairs_here", "_law_other", "_law_place", "_law_x"]) (sc := defScope s_l_won) (by decide +kernel)) (fun _ _ _ _ _ => (pg_tupK K rfl 2 rfl (pgs_cons (pg_name (i := 3) sc_l_won.nd rfl (Or.inl rfl)) (pgs_cons (pg_name (i := 4) sc_l_won.nd rfl (Or.inl rfl)) pgs_nil)))) (fun _ _ _ _ _ => pts_nil) (fun _ _ _ _ _ => (pe_call G_l_pay (hr.mono (by first | decide | omega)) (by rfl) T.g_l_pay T.F_l_pay.kp T.b_l_pay .nil pass0 (pa_cons (pv 0) (pa_cons (pv 4) (pa_cons (pe_ix (ix_listK K rfl) (pv 2) (pv 3) (fun _ _ => rfl)) pa_nil)))))) pa_nil)))), ?_⟩
  try dsimp only [L2.cxOf, L2.Cx.nox, L2.Cx.wish, List.map_cons, List.map_nil]
  obtain ⟨v, fl, f, s, w, r, ms, ns, rfl, p0, p1, p2, p3, p4, p5, p6, k⟩ := h
  refine start_to (σ := [some _, some _, some _, none, none]) rfl ?_
  obtain ⟨A, xs, rfl, h1, h2⟩ := p2.list_inv
  have hl : xs.length = (prsC ms).length := by rw [h2.len, List.length_map]
  have pl : (prsC ms).length ≤ 25 := by
    unfold prsC
    rw [flat_n]
    exact Nat.mul_le_mul p4.1 p4.1
  walk_at "go"
  intro D nD
  refine lcL_int (xs := xs) (fun i => (((prsC ms)[i]?).map fun e => paidV fl e.2 ((ns[e.1.toNat]?).getD 0)).getD 0) nD (by omega) (SqL.of h1) ?_ ?_
  · intro i x H2 Z Y hx s2 hz
    obtain ⟨d, g1, g2⟩ := h2.get' hx
    rw [List.getElem?_map] at g1
    obtain ⟨e, e1, rfl⟩ := Option.map_eq_some_iff.mp g1
    obtain ⟨t, rfl, g3⟩ := pr_inv g2
    have g3' := s2 _ _ g3
    have p3' := s2 _ _ p3
    have p0' := p0.same s2
    obtain ⟨m1, m2, m3⟩ := prs_mem (List.mem_of_getElem? e1)
    have b1 := p5 e.2 m1
    obtain ⟨y, hy⟩ : ∃ y, ns[e.1.toNat]? = some y := ⟨ns[e.1.toNat]'(by omega), List.getElem?_eq_getElem _⟩
    have b2 := p6 y (List.mem_of_getElem? hy)
    have b3 : 0 ≤ e.2 ∧ e.2 ≤ f ∧ 0 ≤ y ∧ y ≤ s := ⟨b1.1, b1.2, b2.1, b2.2⟩
    have hb : 0 ≤ e.1 ∧ e.1 < (ns.length : Int) := by omega
    walk_at "go"
    rename_i y9 hy9
    rw [hy] at hy9
    cases hy9
    refine use_l_pay p0' p1 b3 fun H3 s3 => ?_
    have := hz H3 s3
    rw [e1] at this
    have e9 : (Option.map (fun e : Int × Int => paidV fl e.2 ((ns[e.1.toNat]?).getD 0)) (some e)).getD 0 = paidV fl e.2 y := by
      show paidV fl e.2 ((ns[e.1.toNat]?).getD 0) = _
      rw [hy]
      rfl
    rw [e9] at this
    exact this
  · intro H2 s2 hD
    rw [hl, rng_map _ (fun e : Int × Int => paidV fl e.2 ((ns[e.1.toNat]?).getD 0)) _ (fun i e he => by rw [he]; rfl)] at hD
    have sm := won_sum fl ns (l := ms)
    rw [p4.2] at sm
    walk_at "go"
    unfold prsC
    rw [sm]
    exact k _ s2
def sp_l_due (K : PySem.W.Frag) : Sp := fun vs H Q E => ∃ (f s : Int) (v : V) (fl : Fld) (n : Nat), vs = [.int f, .int s, v, .int (n : Nat)] ∧ (Dq H v (fldD fl)) ∧ (FldOk f s fl) ∧ ((0 ≤ f ∧ f ≤ 10) ∧ (0 ≤ s ∧ s ≤ 10) ∧ 1 ≤ n ∧ n ≤ 5) ∧ ∀ (w : V) (G H' : Hp), (Dq G w (tabD (tabC fl n f.toNat s.toNat))) → (Newly H G) → (Same G H') → (Same H H') → Q (w) H'
theorem use_l_due {K : PySem.W.Frag} {H : Hp} {Q : VK} {E : XK} {f s : Int} {v : V} {fl : Fld} {n : Nat} (p0 : Dq H v (fldD fl)) (p1 : FldOk f s fl) (p2 : (0 ≤ f ∧ f ≤ 10) ∧ (0 ≤ s ∧ s ≤ 10) ∧ 1 ≤ n ∧ n ≤ 5) (k : ∀ (w : V) (G H' : Hp), (Dq G w (tabD (tabC fl n f.toNat s.toNat))) → (Newly H G) → (Same G H') → (Same H H') → Q (w) H') : sp_l_due K [.int f, .int s, v, .int (n : Nat)] H Q E := ⟨f, s, v, fl, n, rfl, p0, p1, p2, k⟩
theorem len_l_due {K : PySem.W.Frag} (vs : List V) (H : Hp) (Q : VK) (E : XK) (h : sp_l_due K vs H Q E) : vs.length = ["_law_first", "_law_second", "_law_field_here", "_law_many"].length := by
  obtain ⟨_, _, _, _, _, rfl, _⟩ := h
  rfl
local macro_rules | `(tactic| walk_at "g_call") => `(tactic| ((with_reducible refine' use_l_due ?c0 ?c1 ?c2 ?_); (case c0 => walk_at "g_pre"); (case c1 => walk_at "g_pre"); (case c2 => walk_at "g_pre"); intros))
theorem ok_l_due (T : Txt K mg) : FnOk P w K mg base CX0 7 T.a_l_due T.d_l_due ["_law_first", "_law_second", "_law_field_here", "_law_many"] (sp_l_due K) := by
  have G_l_all := ok_l_all (P := P) (w := w) (base := base) T
  have G_l_pairs := ok_l_pairs (P := P) (w := w) (base := base) T
  have G_l_won := ok_l_won (P := P) (w := w) (base := base) T
  refine T.F_l_due.ok sc_l_due len_l_due (fun cdv A outer s H vs Q E hr h => ?_)
  refine ⟨_, (pss_cons (ps_set (i := 4) sc_l_due.nd rfl (Or.inl rfl) (pe_call G_l_all (hr.mono (by first | decide | omega)) (by rfl) T.g_l_all T.F_l_all.kp T.b_l_all .nil pass0 (pa_cons (pv 1) (pa_cons (pv 3) (pa_cons (pv 1) pa_nil)))))
      (pss_cons (ps_set (i := 5) sc_l_due.nd rfl (Or.inl rfl) (pe_lst pa_nil))
      (pss_cons (ps_for PassesOwn.never rfl (pi_listK K rfl (pe_call G_l_all (hr.mono (by first | decide | omega)) (by rfl) T.g_l_all T.F_l_all.kp T.b_l_all .nil pass0 (pa_cons (pv 0) (pa_cons (pv 3) (pa_cons (pv 0) pa_nil))))) (pg_name (i := 6) sc_l_due.nd rfl (Or.inl rfl)) (pss_cons (ps_set (i := 7) sc_l_due.nd rfl (Or.inr rfl) (pe_call G_l_pairs (hr.mono (by first | decide | omega)) (by rfl) T.g_l_pairs T.F_l_pairs.kp T.b_l_pairs .nil pass0 (pa_cons (pv 6) pa_nil)))
      (pss_one (ps_expr (pe_bm PySem.F.plainAttrs_list PySem.F.slot_list_append PySem.F.type_list_append mt_append (pv 5) (pa_cons (pe_lc (own := [("_law_other", 8)]) rfl sc_l_due.nd (pi_listK K rfl (pv 4)) (blkOk_by (own := [("_law_other", 8)]) (N := ["_law_first", "_law_second", "_law_field_here", "_law_many", "_law_others", "_law_due_here", "_law_one", "_law_pairs_here", "_law_other"]) (sc := defScope s_l_due) (by decide +kernel)) (fun _ _ _ _ _ => (pg_name (i := 8) sc_l_due.nd rfl (Or.inl rfl))) (fun _ _ _ _ _ => pts_nil) (fun _ _ _ _ _ => (pe_call G_l_won (hr.mono (by first | decide | omega)) (by rfl) T.g_l_won T.F_l_won.kp T.b_l_won .nil pass0 (pa_cons (pv 2) (pa_cons (pv 7) (pa_cons (pv 8) pa_nil)))))) pa_nil))))))
      (pss_one (ps_ret (pv 5)))))), ?_⟩
  try dsimp only [L2.cxOf, L2.Cx.nox, L2.Cx.wish, List.map_cons, List.map_nil]
  obtain ⟨f, s, v, fl, n, rfl, p0, p1, p2, k⟩ := h
  refine start_to (σ := [some _, some _, some _, some _, none, none, none, none, none]) rfl ?_
  have lcs := allC_small (n := n) (h := s.toNat) (m := s.toNat) (by omega) (by omega)
  have lcf := allC_small (n := n) (h := f.toNat) (m := f.toNat) (by omega) (by omega)
  walk_at "go"
  rename_i v1 G1 H1 a1 w1 g1 s1 R nR v2 G2 H2 a2 w2 g2 s2
  rw [Int.toNat_natCast] at a1 a2
  have s2' := (Same.new nR).trans s2
  have jR := s2 _ _ (upd_same (H := H1) (a := R) (o := .lst []))
  have nR0 : H R = none := s1.free nR
  have G2R : G2 R = none := w2 _ _ upd_same
  obtain ⟨A1, xs1, rfl, e1, e2⟩ := ((a1.same g1).same (same_hid1 s2' nR)).list_inv
  obtain ⟨A2, xs2, rfl, e3, e4⟩ := (a2.same (same_hid1 g2 G2R)).list_inv
  have l1 : xs1.length = (allC n s.toNat s.toNat).length := by rw [e2.len, List.length_map]
  have l2 : xs2.length = (allC n f.toNat f.toNat).length := by rw [e4.len, List.length_map]
  have s12 := s1.trans s2'
  have sv : Same H (hid [R] H2) := same_hid1 s12 nR0
  have pv := p0.same sv
  refine ⟨A2, rfl, ⟨_, SqL.of (hid_same _ _ e3)⟩, ?_⟩
  refine forL (xs := xs2) (fun i σ H3 => ∃ (ys : List V) (y6 y7 y8 : Option V), σ = [some (.int f), some (.int s), some v, some (.int (n : Nat)), some (.ref A1), some (.ref R), y6, y7, y8] ∧ H3 R = some (.lst ys) ∧ DqAll (fr [R] H H3) ys ((((allC n f.toNat f.toNat).take i).map fun one => (allC n s.toNat s.toNat).map fun other => (one.map fun x => (other.map fun y => paidV fl x y).sum).sum).map planD) ∧ Same (hid [R] H2) (hid [R] H3)) ⟨[], _, _, _, rfl, jR, .nil, Same.refl _⟩ ?_ ?_ ?_
  · rintro i σ H3 _ ⟨ys, y6, y7, y8, rfl, q1, q2, q3⟩
    exact SqL.of (hid_same _ _ (q3 _ _ e3))
  · rintro σ H3 ⟨ys, y6, y7, y8, rfl, q1, q2, q3⟩
    walk_at "go"
    rw [l2, List.take_length] at q2
    exact k (.ref R) (fr [] H H3) H3 (.lst (fr_lk0 nR0 q1) (q2.same fr_sub)) fr_newly fr_same ((sv.trans q3).trans hid_same)
  · rintro i x σ H3 hx ⟨ys, y6, y7, y8, rfl, q1, q2, q3⟩
    obtain ⟨one, q', f1, rfl, f2⟩ := row_at e4 hx
    have f2' := hid_same _ _ (q3 _ _ f2)
    obtain ⟨m1, m2, m3⟩ := allC_mem (List.mem_of_getElem? f1)
    have ol : one.length ≤ 5 := by omega
    have yl : ys.length ≤ 161051 := by
      rw [q2.len, List.length_map, List.length_map, List.length_take]
      omega
    walk_at "goS"
    refine i_seq ?_
    walk_at "goS"
    rename_i w3 H4 c1 c2
    have e1' := c2 _ _ (hid_same _ _ (q3 _ _ e1))
    have q1'' := c2 _ _ q1
    walk_at "go"
    intro D nD
    refine lcL_int (xs := xs1) (fun j => (one.map fun x => ((((allC n s.toNat s.toNat)[j]?).getD []).map fun y => paidV fl x y).sum).sum) nD (by omega) (SqL.of e1') ?_ ?_
    · intro j y H5 Z4 Y4 hy s4 hz4
      obtain ⟨other, q2', g1', rfl, g2'⟩ := row_at e2 hy
      obtain ⟨m4, m5, m6⟩ := allC_mem (List.mem_of_getElem? g1')
      have g2'' := (c2.trans s4) _ _ (hid_same _ _ (q3 _ _ g2'))
      have pv' := ((pv.same q3).same hid_same).same (c2.trans s4)
      have c1' := c1.same s4
      have n1 : ∀ x ∈ one, 0 ≤ x ∧ x ≤ f := fun x hx => by have := m3 x hx; omega
      have n2 : ∀ x ∈ other, 0 ≤ x ∧ x ≤ s := fun x hx => by have := m6 x hx; omega
      have ml : one.length ≤ 5 ∧ other.length = one.length := by omega
      walk_at "go"
      rename_i H6 s6
      have := hz4 H6 s6
      rw [g1'] at this
      exact this
    · intro H5 s5 hD
      rw [l1, rng_map _ (fun other : List Int => (one.map fun x => (other.map fun y => paidV fl x y).sum).sum) _ (fun j y e => by rw [e]; rfl)] at hD
      have s35 := c2.trans s5
      have q1' := s35 _ _ q1
      have DR : D ≠ R := (ne_of_none (c2 _ _ q1) nD).symm
      walk_at "go"
      refine ⟨ys ++ [.ref D], _, _, _, rfl, upd_same, ?_, q3.trans ((hid_mono s35).trans (hid_upd (by simp)))⟩
      rw [take_more f1, List.map_append, List.map_append]
      refine DqAll.snoc (q2.same ((fr_mono s35).trans (fr_upd (by simp)))) (row_mk (fr_lk1 DR ((((sv.trans q3).trans hid_same).trans c2).free nD) (lk_upd DR hD)))
def sp_l_numbers (K : PySem.W.Frag) : Sp := fun vs H Q E => ∃ (a b : Addr) (ms : List Int), vs = [.ref a, .ref b] ∧ (H a = some (.lst (ms.map V.int))) ∧ (SqL K H b (ms.map V.int)) ∧ (ms.length ≤ 200000) ∧ ∀ (H' : Hp), (Same H H') → Q (.bl true) H'
theorem use_l_numbers {K : PySem.W.Frag} {H : Hp} {Q : VK} {E : XK} {a b : Addr} {ms : List Int} (p0 : H a = some (.lst (ms.map V.int))) (p1 : SqL K H b (ms.map V.int)) (p2 : ms.length ≤ 200000) (k : ∀ (H' : Hp), (Same H H') → Q (.bl true) H') : sp_l_numbers K [.ref a, .ref b] H Q E := ⟨a, b, ms, rfl, p0, p1, p2, k⟩
theorem len_l_numbers {K : PySem.W.Frag} (vs : List V) (H : Hp) (Q : VK) (E : XK) (h : sp_l_numbers K vs H Q E) : vs.length = ["_law_found", "_law_due_here"].length := by
  obtain ⟨_, _, _, rfl, _⟩ := h
  rfl
local macro_rules | `(tactic| walk_at "g_call") => `(tactic| ((with_reducible refine' use_l_numbers ?c0 ?c1 ?c2 ?_); (case c0 => walk_at "g_pre"); (case c1 => walk_at "g_pre"); (case c2 => walk_at "g_pre"); intros))
theorem ok_l_numbers (T : Txt K mg) : FnOk P w K mg base CX0 2 T.a_l_numbers T.d_l_numbers ["_law_found", "_law_due_here"] (sp_l_numbers K) := by
  have G_l_whole := ok_l_whole (P := P) (w := w) (base := base) T
  refine T.F_l_numbers.ok sc_l_numbers len_l_numbers (fun cdv A outer s H vs Q E hr h => ?_)
  refine ⟨_, (pss_cons (ps_if (PW.pt (pw_or (pt_not (pt_val (pe_callB (call_isXK K rfl) (by rfl) T.z_isinstance (by decide +kernel) (pa_cons (pv 0) (pa_cons (pe_bltn (v := .ty "list") rfl T.z_list (by decide +kernel) rfl) pa_nil))))) (pw_or1 (pt_cmpR (op_neDK K rfl hr.units) (pv 0) (pv 1) (nomark _))))) (pss_one (ps_ret pe_bl)) pss_nil)
      (pss_one (ps_ret (pe_cmpR (op_eqDK K rfl hr.units) (pe_lc (own := [("_law_number", 2)]) rfl sc_l_numbers.nd (pi_listK K rfl (pv 0)) (blkOk_by (own := [("_law_number", 2)]) (N := ["_law_found", "_law_due_here", "_law_number"]) (sc := defScope s_l_numbers) (by decide +kernel)) (fun _ _ _ _ _ => (pg_name (i := 2) sc_l_numbers.nd rfl (Or.inl rfl))) (fun _ _ _ _ _ => (pts_one (pt_not (pt_val (pe_call G_l_whole (hr.mono (by first | decide | omega)) (by rfl) T.g_l_whole T.F_l_whole.kp T.b_l_whole .nil pass0 (pa_cons (pv 2) pa_nil)))))) (fun _ _ _ _ _ => (pv 2))) (pe_lst pa_nil) (nomark _))))), ?_⟩
  try dsimp only [L2.cxOf, L2.Cx.nox, L2.Cx.wish, List.map_cons, List.map_nil]
  obtain ⟨a, b, ms, rfl, p0, p1, p2, k⟩ := h
  refine start_to (σ := [some _, some _, none]) rfl ?_
  walk_at "go"
  refine ite_n (by simp) ?_
  walk_at "go"
  intro D nD
  refine lcL_nil nD (by walk_at "g_sq") ?_ ?_
  · intro i x H2 Z Y hx hs hy
    obtain ⟨z, rfl, hz⟩ := ints_at hx
    walk_at "go"
    exact hy _ (by walk_at "g_same")
  · intro H2 hs hD
    walk_at "go"
    exact k _ (by walk_at "g_same")
theorem kp_same {X : List Addr} {H H' : Hp} (k : Kp X H H') : Same (hid X H) H' := fun b o e => by
  by_cases c : b ∈ X
  · rw [hid_in c] at e
    cases e
  · rw [hid_out c] at e
    exact k b o c e
def spoilt (r : List Int) : List V := .non :: ((r.drop 1).map V.int ++ [.int 0])
def sp_l_right (K : PySem.W.Frag) : Sp := fun vs H Q E => ∃ (T : Addr) (qs : List Addr) (tb : List (List Int)) (v : V), vs = [.ref T, v] ∧ (Own2 H T qs tb) ∧ (Dq (hid qs H) v (tabD tb)) ∧ (tb.length ≤ 200000 ∧ (∀ r ∈ tb, 1 ≤ r.length ∧ r.length ≤ 200000)) ∧ ∀ (H' : Hp), (Kp qs H H') → ((∀ (k : Nat) (q : Addr) (r : List Int), qs[k]? = some q → tb[k]? = some r → H' q = some (.lst (spoilt r)))) → Q (.bl true) H'
theorem use_l_right {K : PySem.W.Frag} {H : Hp} {Q : VK} {E : XK} {T : Addr} {qs : List Addr} {tb : List (List Int)} {v : V} (p0 : Own2 H T qs tb) (p1 : Dq (hid qs H) v (tabD tb)) (p2 : tb.length ≤ 200000 ∧ (∀ r ∈ tb, 1 ≤ r.length ∧ r.length ≤ 200000)) (k : ∀ (H' : Hp), (Kp qs H H') → ((∀ (k : Nat) (q : Addr) (r : List Int), qs[k]? = some q → tb[k]? = some r → H' q = some (.lst (spoilt r)))) → Q (.bl true) H') : sp_l_right K [.ref T, v] H Q E := ⟨T, qs, tb, v, rfl, p0, p1, p2, k⟩
theorem len_l_right {K : PySem.W.Frag} (vs : List V) (H : Hp) (Q : VK) (E : XK) (h : sp_l_right K vs H Q E) : vs.length = ["_law_found", "_law_due_here"].length := by
  obtain ⟨_, _, _, _, rfl, _⟩ := h
  rfl
local macro_rules | `(tactic| walk_at "g_call") => `(tactic| ((with_reducible refine' use_l_right ?c0 ?c1 ?c2 ?_); (case c0 => walk_at "g_pre"); (case c1 => walk_at "g_pre"); (case c2 => walk_at "g_pre"); intros))
theorem ok_l_right (T : Txt K mg) : FnOk P w K mg base CX0 3 T.a_l_right T.d_l_right ["_law_found", "_law_due_here"] (sp_l_right K) := by
  have G_l_numbers := ok_l_numbers (P := P) (w := w) (base := base) T
  refine T.F_l_right.ok sc_l_right len_l_right (fun cdv A outer s H vs Q E hr h => ?_)
  refine ⟨_, (pss_cons (ps_if (PW.pt (pw_or (pt_not (pt_val (pe_callB (call_isXK K rfl) (by rfl) T.z_isinstance (by decide +kernel) (pa_cons (pv 0) (pa_cons (pe_bltn (v := .ty "list") rfl T.z_list (by decide +kernel) rfl) pa_nil))))) (pw_or1 (pt_cmpR op_ne (pe_callB (call_lenK K rfl) (by rfl) T.z_len (by decide +kernel) (pa_cons (pv 0) pa_nil)) (pe_callB (call_lenK K rfl) (by rfl) T.z_len (by decide +kernel) (pa_cons (pv 1) pa_nil)) (nomark _))))) (pss_one (ps_ret pe_bl)) pss_nil)
      (pss_cons (ps_for PassesOwn.never rfl (pi_range1 rfl T.z_range (pa_cons (pe_callB (call_lenK K rfl) (by rfl) T.z_len (by decide +kernel) (pa_cons (pv 1) pa_nil)) pa_nil)) (pg_name (i := 2) sc_l_right.nd rfl (Or.inl rfl)) (pss_cons (ps_if (pt_not (pt_val (pe_call G_l_numbers (hr.mono (by first | decide | omega)) (by rfl) T.g_l_numbers T.F_l_numbers.kp T.b_l_numbers .nil pass0 (pa_cons (pe_ix (ix_listK K rfl) (pv 0) (pv 2) (fun _ _ => rfl)) (pa_cons (pe_ix (ix_listK K rfl) (pv 1) (pv 2) (fun _ _ => rfl)) pa_nil))))) (pss_one (ps_ret pe_bl)) pss_nil)
      (pss_cons (ps_expr (pe_bm PySem.F.plainAttrs_list PySem.F.slot_list_append PySem.F.type_list_append mt_append (pe_ix (ix_listK K rfl) (pv 0) (pv 2) (fun _ _ => rfl)) (pa_cons pe_int pa_nil)))
      (pss_one (ps_asg pe_non (pg_sub (pe_ix (ix_listK K rfl) (pv 0) (pv 2) (fun _ _ => rfl)) pe_int set_list))))))
      (pss_one (ps_ret pe_bl)))), ?_⟩
  try dsimp only [L2.cxOf, L2.Cx.nox, L2.Cx.wish, List.map_cons, List.map_nil]
  obtain ⟨T, qs, tb, v, rfl, p0, p1, p2, k⟩ := h
  refine start_to (σ := [some _, some _, none]) rfl ?_
  obtain ⟨V0, vs, rfl, h1, h2⟩ := tab_inv p1
  have h1' := hid_same _ _ h1
  have hv : vs.length = tb.length := by rw [h2.len, List.length_map]
  have p0t := p0.top
  have el : qs.length = vs.length := by rw [p0.len, hv]
  walk_at "go"
  refine ite_n (by simp [el]) ?_
  walk_at "go"
  refine forR (fun i σ H3 => ∃ (y2 : Option V), σ = [some (.ref T), some (.ref V0), y2] ∧ Kp qs H H3 ∧ (∀ (k : Nat) (q : Addr) (r : List Int), k < i → qs[k]? = some q → tb[k]? = some r → H3 q = some (.lst (spoilt r))) ∧ (∀ (k : Nat) (q : Addr) (r : List Int), i ≤ k → qs[k]? = some q → tb[k]? = some r → H3 q = some (.lst (r.map V.int)))) ⟨_, rfl, Kp.refl, fun k q r hk => absurd hk (Nat.not_lt_zero k), fun k q r _ a b => p0.row k q r a b⟩ ?_ ?_
  · rintro σ H3 ⟨y2, rfl, g1, g2, g3⟩
    walk_at "go"
    refine k H3 g1 fun kk q r a b => g2 kk q r ?_ a b
    have := (List.getElem?_eq_some_iff.mp b).1
    omega
  · rintro i σ H3 hi ⟨y2, rfl, g1, g2, g3⟩
    have hi' : i < tb.length := by omega
    have sK : Same (hid qs H) H3 := kp_same g1
    have T3 := g1 _ _ p0.off p0t
    obtain ⟨q', f1⟩ : ∃ q', qs[i]? = some q' := ⟨qs[i]'(by rw [p0.len]; omega), List.getElem?_eq_getElem _⟩
    obtain ⟨x0, hx0⟩ : ∃ x, vs[i]? = some x := ⟨vs[i]'(by omega), List.getElem?_eq_getElem _⟩
    obtain ⟨r, p', f2, rfl, f3⟩ := row_at h2 hx0
    have f3' := SqL.of (K := K) (sK _ _ f3)
    have V3 := sK _ _ h1
    have f4 := g3 i q' r (Nat.le_refl _) f1 f2
    have rl := p2.2 r (List.mem_of_getElem? f2)
    have hatq : atI (qs.map V.ref) (0 + (i : Int)) = some (.ref q') := by
      rw [show (0 : Int) + (i : Int) = (i : Int) by omega]
      exact atI_nat (by rw [List.getElem?_map, f1]; rfl)
    have hatv : atI vs (0 + (i : Int)) = some (.ref p') := by
      rw [show (0 : Int) + (i : Int) = (i : Int) by omega]
      exact atI_nat hx0
    have rl2 : r.length ≤ 200000 := rl.2
    refine i_seq ?_
    walk_at "goS"
    rename_i H4 s4
    have f5 := s4 _ _ f4
    have T4 := s4 _ _ T3
    have Tq : T ≠ q' := fun z => p0.off (z ▸ List.mem_of_getElem? f1)
    walk_at "go"
    refine i_setL (k := 0) (xs := (r ++ [0]).map V.int) upd_same (ixN_nn (by omega) (by rw [List.length_map, List.length_append]; simp)) ?_
    have e9 : ((r ++ [0]).map V.int).set 0 .non = spoilt r := by
      cases r with
      | nil => simp at rl
      | cons x r => simp [spoilt]
    rw [e9]
    have q'm := List.mem_of_getElem? f1
    refine ⟨_, rfl, Kp.upd q'm (Kp.upd q'm (g1.trans (Kp.same s4))), fun kk q rr hk a b => ?_, fun kk q rr hk a b => ?_⟩
    · by_cases c : kk = i
      · subst c
        rw [f1] at a
        cases a
        rw [f2] at b
        cases b
        exact upd_same
      · have n9 : q ≠ q' := fun z => c (Hf.nodup_at p0.nd a (by rw [z]; exact f1))
        exact lk_upd n9 (lk_upd n9 (s4 _ _ (g2 kk q rr (by omega) a b)))
    · have n9 : q ≠ q' := fun z => by
        have := Hf.nodup_at p0.nd a (by rw [z]; exact f1)
        omega
      exact lk_upd n9 (lk_upd n9 (s4 _ _ (g3 kk q rr (by omega) a b)))
def spD (r : List Int) : PyData := .list (.none :: ((r.drop 1).map PyData.int ++ [.int 0]))
theorem sp_mk {H : Hp} {q : Addr} {r : List Int} (h : H q = some (.lst (spoilt r))) : Dq H (.ref q) (spD r) := .lst h (.cons .non (DqAll.append (dq_ints _) (.cons (.int 0) .nil)))
theorem sp_shaped (tb : List (List Int)) : SeqAt.shaped (.list (tb.map spD)) = true := by
  have h1 : ∀ r, (spD r).canLay0 = true ∧ dep (spD r) ≤ 2 := fun r => by
    have m : ∀ d ∈ (r.drop 1).map PyData.int ++ [PyData.int 0], ∃ i, d = .int i := fun d hd => by
      rcases List.mem_append.mp hd with z | z
      · obtain ⟨i, _, rfl⟩ := List.mem_map.mp z
        exact ⟨i, rfl⟩
      · exact ⟨0, List.mem_singleton.mp z⟩
    have a : PyData.canLayAll0 ((r.drop 1).map PyData.int ++ [.int 0]) = true := lay_all fun d hd => by
      obtain ⟨i, rfl⟩ := m d hd
      simp [PyData.canLay0]
    have b : depA ((r.drop 1).map PyData.int ++ [.int 0]) ≤ 1 := depA_le fun d hd => by
      obtain ⟨i, rfl⟩ := m d hd
      simp [dep]
    refine ⟨?_, ?_⟩
    · rw [spD, PyData.canLay0, PyData.canLayAll0, a]
      rfl
    · rw [spD, dep, depA]
      simp only [dep]
      omega
  refine shaped_of ?_ ?_
  · rw [PyData.canLay0]
    exact lay_all fun d hd => by
      obtain ⟨r, _, rfl⟩ := List.mem_map.mp hd
      exact (h1 r).1
  · rw [dep]
    have : depA (tb.map spD) ≤ 2 := depA_le fun d hd => by
      obtain ⟨r, _, rfl⟩ := List.mem_map.mp hd
      exact (h1 r).2
    omega
theorem pc_lift {p c : Addr} {z : Int} {G H3 H4 H5 : Hp} (n : Newly H3 G) (s : Same G H4) (k : Pc p c H3 z) (b : But2 p c H4 H5) : Same G H5 := fun x o e => by
  have n1 := n.pc1 k
  have n2 := n.pc2 k
  exact b x o (fun z => by rw [z, n1] at e; cases e) (fun z => by rw [z, n2] at e; cases e) (s x o e)
theorem map_const9 {α : Type} {d : α} (n : Nat) : (List.range n).map (fun _ => d) = List.replicate n d := by
  rw [List.map_const', List.length_range]
theorem dqs_rows {H : Hp} : ∀ {qs : List Addr} {tb : List (List Int)}, qs.length = tb.length → (∀ (k : Nat) (q : Addr) (r : List Int), qs[k]? = some q → tb[k]? = some r → H q = some (.lst (spoilt r))) → DqAll H (qs.map V.ref) (tb.map spD)
  | [], [], _, _ => .nil
  | [], _ :: _, h, _ => by simp at h
  | _ :: _, [], h, _ => by simp at h
  | q :: qs, r :: tb, h, k => .cons (sp_mk (k 0 q r rfl rfl)) (dqs_rows (by simpa using h) fun j q' r' a b => k (j + 1) q' r' (by simpa using a) (by simpa using b))
theorem tab_one : tabC (.more 2 1) 1 (1 : Int).toNat (0 : Int).toNat = [[2]] := by decide +kernel
theorem tabC_len {fl : Fld} {n f s : Nat} (hn : n ≤ 5) (hf : f ≤ 10) (hs : s ≤ 10) (h1 : 1 ≤ n) : (tabC fl n f s).length ≤ 200000 ∧ ∀ r ∈ tabC fl n f s, 1 ≤ r.length ∧ r.length ≤ 200000 := by
  have a := allC_small (n := n) (h := f) (m := f) hn hf
  have b := allC_small (n := n) (h := s) (m := s) hn hs
  have c := fall_pos (s := n) (t := s) h1
  rw [← allC_len] at c
  unfold tabC
  refine ⟨by rw [List.length_map]; omega, fun r hr => ?_⟩
  obtain ⟨o, _, rfl⟩ := List.mem_map.mp hr
  rw [List.length_map]
  omega
def sp_law (K : PySem.W.Frag) : Sp := fun vs H Q E => ∃ (a : Addr) (ns : List Int), vs = [.ref a] ∧ (SqL K H a (ns.map V.int)) ∧ (ns.length ≤ 63) ∧ ∀ (H' : Hp), Q (.bl true) H'
theorem use_law {K : PySem.W.Frag} {H : Hp} {Q : VK} {E : XK} {a : Addr} {ns : List Int} (p0 : SqL K H a (ns.map V.int)) (p1 : ns.length ≤ 63) (k : ∀ (H' : Hp), Q (.bl true) H') : sp_law K [.ref a] H Q E := ⟨a, ns, rfl, p0, p1, k⟩
theorem len_law {K : PySem.W.Frag} (vs : List V) (H : Hp) (Q : VK) (E : XK) (h : sp_law K vs H Q E) : vs.length = ["_law_script"].length := by
  obtain ⟨_, _, rfl, _⟩ := h
  rfl
local macro_rules | `(tactic| walk_at "g_call") => `(tactic| ((with_reducible refine' use_law ?c0 ?c1 ?_); (case c0 => walk_at "g_pre"); (case c1 => walk_at "g_pre"); intros))
theorem ok_law (T : Txt K mg) : FnOk P w K mg base CX0 14 T.a_law T.d_law ["_law_script"] (sp_law K) := by
  have G_l_purse := ok_l_purse (P := P) (w := w) (base := base) T
  have G_l_draw := ok_l_draw (P := P) (w := w) (base := base) T
  have G_l_field := ok_l_field (P := P) (w := w) (base := base) T
  have G_l_due := ok_l_due (P := P) (w := w) (base := base) T
  have G_l_right := ok_l_right (P := P) (w := w) (base := base) T
  have G_counts_table := ok_counts_table (P := P) (w := w) (base := base) T
  have G_l_copy := ok_l_copy (P := P) (w := w) (base := base) T
  refine T.F_law.ok sc_law len_law (fun cdv A outer s H vs Q E hr h => ?_)
  refine ⟨_, (pss_cons (ps_set (i := 1) sc_law.nd rfl (Or.inl rfl) (pe_call G_l_purse (hr.mono (by first | decide | omega)) (by rfl) T.g_l_purse T.F_l_purse.kp T.b_l_purse .nil pass0 (pa_cons (pv 0) pa_nil)))
      (pss_cons (ps_set (i := 2) sc_law.nd rfl (Or.inl rfl) (pe_call G_l_draw (hr.mono (by first | decide | omega)) (by rfl) T.g_l_draw T.F_l_draw.kp T.b_l_draw .nil pass0 (pa_cons (pv 1) (pa_cons pe_int pa_nil))))
      (pss_cons (ps_set (i := 3) sc_law.nd rfl (Or.inl rfl) (pe_call G_l_draw (hr.mono (by first | decide | omega)) (by rfl) T.g_l_draw T.F_l_draw.kp T.b_l_draw .nil pass0 (pa_cons (pv 1) (pa_cons pe_int pa_nil))))
      (pss_cons (ps_set (i := 4) sc_law.nd rfl (Or.inr rfl) (pe_call G_l_field (hr.mono (by first | decide | omega)) (by rfl) T.g_l_field T.F_l_field.kp T.b_l_field .nil pass0 (pa_cons (pv 1) (pa_cons (pv 2) (pa_cons (pv 3) pa_nil)))))
      (pss_cons (ps_set (i := 5) sc_law.nd rfl (Or.inl rfl) (pe_op op_add pe_int (pe_call G_l_draw (hr.mono (by first | decide | omega)) (by rfl) T.g_l_draw T.F_l_draw.kp T.b_l_draw .nil pass0 (pa_cons (pv 1) (pa_cons pe_int pa_nil)))))
      (pss_cons (ps_set (i := 6) sc_law.nd rfl (Or.inl rfl) (pe_tup (pa_cons (pv 2) (pa_cons (pv 3) (pa_cons (pe_lc (own := [("_law_k", 11)]) rfl sc_law.nd (pi_range1 rfl T.z_range (pa_cons (pv 5) pa_nil)) (blkOk_by (own := [("_law_k", 11)]) (N := ["_law_script", "_law_purse_here", "_law_first", "_law_second", "_law_field_here", "_law_many", "_law_handed", "_law_due_here", "_law_again", "_law_found", "_law_kept", "_law_k", "_law_row"]) (sc := defScope s_law) (by decide +kernel)) (fun _ _ _ _ _ => (pg_name (i := 11) sc_law.nd rfl (Or.inl rfl))) (fun _ _ _ _ _ => pts_nil) (fun _ _ _ _ _ => (pe_call G_l_copy (hr.mono (by first | decide | omega)) (by rfl) T.g_l_copy T.F_l_copy.kp T.b_l_copy .nil pass0 (pa_cons (pv 4) pa_nil)))) pa_nil)))))
      (pss_cons (ps_set (i := 7) sc_law.nd rfl (Or.inl rfl) (pe_call G_l_due (hr.mono (by first | decide | omega)) (by rfl) T.g_l_due T.F_l_due.kp T.b_l_due .nil pass0 (pa_cons (pv 2) (pa_cons (pv 3) (pa_cons (pv 4) (pa_cons (pv 5) pa_nil))))))
      (pss_cons (ps_for PassesOwn.never rfl (pi_range1 rfl T.z_range (pa_cons pe_int pa_nil)) (pg_name (i := 8) sc_law.nd rfl (Or.inl rfl)) (pss_cons (ps_set (i := 9) sc_law.nd rfl (Or.inl rfl) (pe_call G_counts_table (hr.mono (by first | decide | omega)) (by rfl) T.g_counts_table T.F_counts_table.kp T.b_counts_table .nil pass0 (pa_cons (pv 6) pa_nil)))
      (pss_cons (ps_if (PW.pt (pw_or (pt_not (pt_val (pe_call G_l_right (hr.mono (by first | decide | omega)) (by rfl) T.g_l_right T.F_l_right.kp T.b_l_right .nil pass0 (pa_cons (pv 9) (pa_cons (pv 7) pa_nil))))) (pw_or1 (pt_cmpR (op_neDK K rfl hr.units) (pv 6) (pe_tup (pa_cons (pv 2) (pa_cons (pv 3) (pa_cons (pe_op op_rep (pe_lst (pa_cons (pv 4) pa_nil)) (pv 5)) pa_nil)))) (nomark _))))) (pss_one (ps_ret pe_bl)) pss_nil)
      (pss_cons (ps_setLc (i := 10) (own := [("_law_row", 12)]) rfl sc_law.nd rfl rfl (sw_true rfl rfl rfl (by decide +kernel)) (pi_listK K rfl (pv 9)) (blkOk_by (own := [("_law_row", 12)]) (N := ["_law_script", "_law_purse_here", "_law_first", "_law_second", "_law_field_here", "_law_many", "_law_handed", "_law_due_here", "_law_again", "_law_found", "_law_kept", "_law_k", "_law_row"]) (sc := defScope s_law) (by decide +kernel)) (fun _ _ _ _ _ => (pg_name (i := 12) sc_law.nd rfl (Or.inl rfl))) (fun _ _ _ _ _ => pts_nil) (fun _ _ _ _ _ => (pe_callTy (call_listK K rfl) (by rfl) T.z_list (by decide +kernel) (pa_cons (pv 12) pa_nil))))
      (pss_one (ps_if (PW.pt (pw_or (pt_not (pt_val (pe_call G_l_right (hr.mono (by first | decide | omega)) (by rfl) T.g_l_right T.F_l_right.kp T.b_l_right .nil pass0 (pa_cons (pe_call G_counts_table (hr.mono (by first | decide | omega)) (by rfl) T.g_counts_table T.F_counts_table.kp T.b_counts_table .nil pass0 (pa_cons (pe_tup (pa_cons pe_int (pa_cons pe_int (pa_cons (pe_lst (pa_cons (pe_tup (pa_cons pe_str (pa_cons pe_int (pa_cons pe_int pa_nil)))) pa_nil)) pa_nil)))) pa_nil)) (pa_cons (pe_lst (pa_cons (pe_lst (pa_cons pe_int pa_nil)) pa_nil)) pa_nil))))) (pw_or1 (pt_cmpR (op_neDK K rfl hr.units) (pv 9) (pv 10) (nomark _))))) (pss_one (ps_ret pe_bl)) pss_nil))))))
      (pss_cons (ps_if (pt_cmpR op_eq (pv 5) pe_int (nomark _)) (pss_one (ps_ret pe_bl)) pss_nil)
      (pss_cons (ps_expr (pe_bm0 PySem.F.plainAttrs_list PySem.F.slot_list_pop PySem.F.type_list_pop mt_pop (pe_ix (ix_tupK K rfl) (pv 6) pe_int (fun _ _ => rfl))))
      (pss_one (ps_ret (pe_call G_l_right (hr.mono (by first | decide | omega)) (by rfl) T.g_l_right T.F_l_right.kp T.b_l_right .nil pass0 (pa_cons (pe_call G_counts_table (hr.mono (by first | decide | omega)) (by rfl) T.g_counts_table T.F_counts_table.kp T.b_counts_table .nil pass0 (pa_cons (pv 6) pa_nil)) (pa_cons (pe_call G_l_due (hr.mono (by first | decide | omega)) (by rfl) T.g_l_due T.F_l_due.kp T.b_l_due .nil pass0 (pa_cons (pv 2) (pa_cons (pv 3) (pa_cons (pv 4) (pa_cons (pe_op op_sub (pv 5) pe_int) pa_nil))))) pa_nil))))))))))))))), ?_⟩
  try dsimp only [L2.cxOf, L2.Cx.nox, L2.Cx.wish, List.map_cons, List.map_nil]
  obtain ⟨a, ns, rfl, p0, pn63, k⟩ := h
  refine start_to (σ := [some _, none, none, none, none, none, none, none, none, none, none, none, none]) rfl ?_
  walk_at "goS"
  refine i_seq ?_
  walk_at "goS"
  refine i_seq ?_
  walk_at "goS"
  refine i_seq ?_
  walk_at "goS"
  refine i_seq ?_
  walk_at "goS"
  refine i_seq ?_
  walk_at "goS"
  rename_i p c H1 a1 a2 a3 a4 f H2 b1 b2 b3 s H3 b4 b5 b6 v fl G H4 c1 c2 c3 c4 c5 c6 d H5 e1 e2 e3
  have dv : Dq H5 v (fldD fl) := c1.same (pc_lift c3 c4 b5 e3)
  clear a1 a2 a3 a4 b2 b3 b5 b6 c1 c3 c4 c5 c6 e2 e3 p0
  obtain ⟨n, hn⟩ : ∃ n : Nat, 1 + d = n := ⟨(1 + d).toNat, by omega⟩
  have hn5 : 1 ≤ n ∧ n ≤ 5 := by omega
  obtain ⟨c21, c22⟩ := c2
  have fs10 : f ≤ 10 ∧ s ≤ 10 := by omega
  rw [hn]
  refine i_seq ?_
  walk_at "goS"
  intro D nD
  refine lcR_own (fun _ => fldD fl) nD (by omega) ?_ ?_
  · intro i H6 Z Y hi s6 hz
    have dv' := dv.same s6
    walk_at "go"
    rename_i w S H7 o1 o2
    exact hz w S H7 o1 o2
  · intro S H6 o1 s6
    obtain ⟨vs, hD, o2⟩ : ∃ vs, H6 D = some (.lst vs) ∧ DqAll (hid [D] H6) vs ((List.range (n : Int).toNat).map fun _ => fldD fl) := by
      have nd := o1.nd
      have ow := o1.ow
      cases ow with
      | lst h q =>
        refine ⟨_, h, q.hid (fun b xs hb e => ?_) (fun b hb hb' => ?_)⟩
        · rw [List.mem_singleton.mp hb, h] at e
          cases e
        · exact (List.nodup_cons.mp nd).1 (List.mem_singleton.mp hb' ▸ hb)
    have dv6 : Dq (hid [D] H6) v (fldD fl) := dv.same (same_hid1 s6 nD)
    clear dv s6 o1 nD
    walk_at "goS"
    rename_i hA nA
    have hAD : hA ≠ D := ne_new' nA hD
    have jA0 : upd H6 hA (.tup [.int f, .int s, .ref D]) hA = some (.tup [.int f, .int s, .ref D]) := upd_same
    have jD0 := lk_new (o := .tup [.int f, .int s, .ref D]) nA hD
    have o20 := o2.same (hid_new (o := .tup [.int f, .int s, .ref D]) nA)
    have dv0 := dv6.same (hid_new (o := .tup [.int f, .int s, .ref D]) nA)
    rw [Int.toNat_natCast, map_const9] at o20
    clear hD o2 dv6 nA
    generalize upd H6 hA (.tup [.int f, .int s, .ref D]) = H7 at *
    have bo : BatOk f s (List.replicate n fl) := ⟨by omega, by omega, by rw [List.length_replicate]; omega, fun x hx => by rw [List.eq_of_mem_replicate hx]; exact c21⟩
    have dB : Dq H7 (.ref hA) (batD f s (List.replicate n fl)) := bat_mk jA0 jD0 (by rw [List.map_replicate]; exact o20.same hid_same)
    have dvr := dv0.same hid_same
    have bb : (0 ≤ f ∧ f ≤ 10) ∧ (0 ≤ s ∧ s ≤ 10) ∧ 1 ≤ n ∧ n ≤ 5 := by omega
    have tl := tabC_len (fl := fl) (n := n) (f := f.toNat) (s := s.toNat) (by omega) (by omega) (by omega) (by omega)
    refine i_seq ?_
    walk_at "goS"
    rename_i w G8 H8 u1' u1n u1s u2
    have u1 := u1'.same u1s
    clear u1' u1n u1s
    have dB8 := dB.same u2
    have dv8 := dvr.same u2
    clear dB dvr
    refine i_seq ?_
    walk_at "goS"
    refine forR (fun i σ H => ∃ (y8 y9 y10 : Option V), σ = [some (.ref a), some (.ref p), some (.int f), some (.int s), some v, some (.int (n : Nat)), some (.ref hA), some w, y8, y9, y10, none, none] ∧ Same H8 H) ⟨_, _, _, rfl, Same.refl _⟩ ?_ ?_
    · rintro σ H9 ⟨y8, y9, y10, rfl, g1⟩
      walk_at "goS"
      refine i_seq ?_
      walk_at "goS"
      refine ite_d (fun cn => ?_) (fun cn => ?_)
      · walk_at "go"
        exact k _
      · obtain ⟨n', rfl⟩ : ∃ n', n = n' + 1 := ⟨n - 1, by omega⟩
        have vl : vs.length = n' + 1 := by rw [o20.len, List.length_replicate]
        obtain ⟨y, hy⟩ : ∃ y, vs[vs.length - 1]? = some y := ⟨vs[vs.length - 1]'(by omega), List.getElem?_eq_getElem _⟩
        have s9 := u2.trans g1
        have jA9 := s9 _ _ jA0
        have jD9 := s9 _ _ jD0
        have o29 : DqAll (hid [D] (upd H9 D (.lst vs.dropLast))) vs.dropLast (List.replicate n' (fldD fl)) := by
          have := (o20.same ((hid_mono s9).trans (hid_upd (a := D) (o := .lst vs.dropLast) (List.mem_singleton.mpr rfl)))).take n'
          have ev : vs.dropLast = vs.take n' := by
            rw [List.dropLast_eq_take, vl]
            rfl
          rw [List.take_replicate, Nat.min_eq_left (by omega)] at this
          rw [ev] at this ⊢
          exact this
        have dv9 := (dv0.same ((hid_mono s9).trans (hid_upd (a := D) (o := .lst vs.dropLast) (List.mem_singleton.mpr rfl)))).same hid_same
        have bo2 : BatOk f s (List.replicate n' fl) := ⟨by omega, by omega, by rw [List.length_replicate]; omega, fun x hx => by rw [List.eq_of_mem_replicate hx]; exact c21⟩
        have dB9 : Dq (upd H9 D (.lst vs.dropLast)) (.ref hA) (batD f s (List.replicate n' fl)) := bat_mk (lk_upd hAD jA9) upd_same (by rw [List.map_replicate]; exact o29.same hid_same)
        have tl2 := tabC_len (fl := fl) (n := n') (f := f.toNat) (s := s.toNat) (by omega) (by omega) (by omega) (by omega)
        have bb2 : (0 ≤ f ∧ f ≤ 10) ∧ (0 ≤ s ∧ s ≤ 10) ∧ 1 ≤ n' ∧ n' ≤ 5 := by omega
        have e1 : ((n' + 1 : Nat) : Int) - 1 = (n' : Nat) := by omega
        walk_at "goS"
        refine i_seq ?_
        walk_at "goS"
        refine i_pop jD9 hy ?_
        walk_at "goS"
        rename_i T qs H10 o1 o2 o3
        rw [e1]
        refine use_l_due (dv9.same o3) c21 bb2 fun w2 G11 H11 x1 x2 x3 x4 => ?_
        have o11 := o1.same x4
        have dU : Dq (hid qs H11) w2 (tabD (tabC fl n' f.toNat s.toNat)) := x1.same (same_hidS x3 fun b hb => by
          obtain ⟨o, e⟩ := o1.lst b hb
          exact x2 _ _ e)
        walk_at "goS"
        exact k _
    · rintro i σ H9 hi ⟨y8, y9, y10, rfl, g1⟩
      have dB9 := dB8.same g1
      have dv9 := dv8.same g1
      have u9 := u1.same g1
      walk_at "goS"
      refine i_seq ?_
      walk_at "goS"
      rename_i T qs H10 o1 o2 o3
      have u10 : Dq (hid qs H10) w (tabD (tabC fl n f.toNat s.toNat)) := u9.same (same_hidS o3 fun b hb => o2 b (List.mem_cons_of_mem _ hb))
      refine i_seq ?_
      walk_at "goS"
      rename_i H11 x1 x2 l1 n1 l2 n2 tp n3
      have sK : Same H9 H11 := (same_hidS o3 fun b hb => o2 b (List.mem_cons_of_mem _ hb)).trans (kp_same x1)
      have T11 := x1 _ _ o1.off o1.top
      have sN : Same H11 (upd (upd (upd H11 l1 (.lst [v])) l2 (.lst (List.replicate ((n : Nat) : Int).toNat v))) tp (.tup [.int f, .int s, .ref l2])) := by walk_at "g_same"
      refine i_neDq (d := batD f s (List.replicate n fl)) (dB9.same (sK.trans sN)) (bat_mk upd_same (lk_new n3 upd_same) (by
        rw [Int.toNat_natCast, List.map_replicate]
        exact DqAll.rep (dv9.same (sK.trans sN)) n)) (shaped_bat _ _ _) ?_
      have T12 := sN _ _ T11
      have x12 : ∀ (k : Nat) (q : Addr) (r : List Int), qs[k]? = some q → (tabC fl n f.toNat s.toNat)[k]? = some r → (upd (upd (upd H11 l1 (.lst [v])) l2 (.lst (List.replicate ((n : Nat) : Int).toNat v))) tp (.tup [.int f, .int s, .ref l2])) q = some (.lst (spoilt r)) := fun k q r a b => sN _ _ (x2 k q r a b)
      have s12 := (g1.trans sK).trans sN
      clear x1 x2 sK T11 sN n1 n2 n3 u10 o3
      generalize upd (upd (upd H11 l1 (.lst [v])) l2 (.lst (List.replicate ((n : Nat) : Int).toNat v))) tp (.tup [.int f, .int s, .ref l2]) = H12 at *
      have ql := o1.len
      clear o1 o2 dB9 dv9 u9
      generalize tabC fl n f.toNat s.toNat = tb at *
      walk_at "goS"
      refine i_seq ?_
      walk_at "goS"
      intro D2 nD2
      refine lcL_new (xs := qs.map V.ref) (fun i => spD ((tb[i]?).getD [])) nD2 (by rw [List.length_map]; omega) (SqL.of T12) ?_ ?_
      · intro i x H13 Z Y hx s13 hz
        rw [List.getElem?_map] at hx
        obtain ⟨q, hq, rfl⟩ := Option.map_eq_some_iff.mp hx
        have hi : i < tb.length := by rw [← ql]; exact (List.getElem?_eq_some_iff.mp hq).1
        have e := s13 _ _ (x12 i q _ hq (List.getElem?_eq_getElem hi))
        walk_at "go"
        rename_i q2 nq2
        refine hz (.ref q2) (fr [] H13 (upd H13 q2 (.lst (spoilt tb[i])))) _ ?_ fr_newly fr_same (Same.new nq2)
        rw [List.getElem?_eq_getElem hi]
        exact sp_mk (fr_lk0 nq2 upd_same)
      · intro G13 H13 w1 w2 w3 w4
        rw [List.length_map, ql, rng_map _ spD _ (fun i x e => by rw [e]; rfl)] at w1
        have dK := w1.same w3
        have dT : Dq H12 (.ref T) (.list (tb.map spD)) := .lst T12 (dqs_rows ql x12)
        have dT13 := dT.same w4
        have s13 := s12.trans w4
        clear w1 w2 w3 x12 T12 dT s12 nD2
        walk_at "goS"
        rename_i m1 k1 m2 k2 m3 k3
        have bo1 : BatOk 1 0 (List.replicate 1 (.more 2 1)) := ⟨by omega, by omega, by simp, fun x hx => by rw [List.eq_of_mem_replicate hx]; exact ⟨by omega, by omega, by omega⟩⟩
        have dB1 : Dq (upd (upd (upd H13 m1 (.tup [.str (PySem.Str.ofString "more"), .int 2, .int 1])) m2 (.lst [.ref m1])) m3 (.tup [.int 1, .int 0, .ref m2])) (.ref m3) (batD 1 0 (List.replicate 1 (.more 2 1))) := bat_mk upd_same (lk_new k3 upd_same) (.cons (more_mk (lk_new k3 (lk_new k2 upd_same))) .nil)
        have sN : Same H13 (upd (upd (upd H13 m1 (.tup [.str (PySem.Str.ofString "more"), .int 2, .int 1])) m2 (.lst [.ref m1])) m3 (.tup [.int 1, .int 0, .ref m2])) := by walk_at "g_same"
        have dTN := dT13.same sN
        have dKN := dK.same sN
        have sNN := s13.trans sN
        clear k1 k2 k3 sN dT13 dK s13
        generalize upd (upd (upd H13 m1 (.tup [.str (PySem.Str.ofString "more"), .int 2, .int 1])) m2 (.lst [.ref m1])) m3 (.tup [.int 1, .int 0, .ref m2]) = H14 at *
        refine use_counts_table dB1 bo1 fun T1 qs1 H15 o1 o2 o3 => ?_
        rw [tab_one] at o1
        walk_at "goS"
        rename_i r1 j1 r2 j2
        have s15 : Same H15 (upd (upd H15 r1 (.lst [.int 2])) r2 (.lst [.ref r1])) := (Same.new j1).trans (Same.new j2)
        have o1' := o1.same s15
        have r1n : r1 ∉ qs1 := fun z => by
          obtain ⟨o, e⟩ := o1.lst r1 z
          rw [e] at j1
          cases j1
        have r2n : r2 ∉ qs1 := fun z => by
          obtain ⟨o, e⟩ := o1.lst r2 z
          rw [lk_new j1 e] at j2
          cases j2
        have dU : Dq (hid qs1 (upd (upd H15 r1 (.lst [.int 2])) r2 (.lst [.ref r1]))) (.ref r2) (tabD [[2]]) := .lst (hid_lk r2n upd_same) (.cons (.lst (hid_lk r1n (lk_new j2 upd_same)) (.cons (.int 2) .nil)) .nil)
        have s16 : Same H14 (hid qs1 (upd (upd H15 r1 (.lst [.int 2])) r2 (.lst [.ref r1]))) := same_hidS (o3.trans s15) fun b hb => o2 b (List.mem_cons_of_mem _ hb)
        clear o1 o2 o3 s15 j1 j2
        generalize upd (upd H15 r1 (.lst [.int 2])) r2 (.lst [.ref r1]) = H16 at *
        refine use_l_right o1' dU ⟨by simp, fun r hr => by rw [List.mem_singleton.mp hr]; simp⟩ fun H17 y1 _ => ?_
        have s17 := s16.trans (kp_same y1)
        have dT17 := dTN.same s17
        have dK17 := dKN.same s17
        walk_at "goS"
        refine i_neDq dT17 dK17 (sp_shaped tb) ?_
        walk_at "goS"
        exact ⟨_, _, _, rfl, sNN.trans s17⟩

end
theorem mk_txt {K : PySem.W.Frag} {h : Heap} {mg : Str → Option Value} {f_NoBattle_init : Addr} {o_NoBattle_init n_NoBattle_init : Option Addr} {w_NoBattle_init : Array (Option Value)} {q1_NoBattle_init q2_NoBattle_init q3_NoBattle_init q4_NoBattle_init q5_NoBattle_init q6_NoBattle_init : Value} {f_is_number : Addr} {o_is_number n_is_number : Option Addr} {w_is_number : Array (Option Value)} {q1_is_number q2_is_number q3_is_number q4_is_number q5_is_number q6_is_number : Value} {f_are_numbers : Addr} {o_are_numbers n_are_numbers : Option Addr} {w_are_numbers : Array (Option Value)} {q1_are_numbers q2_are_numbers q3_are_numbers q4_are_numbers q5_are_numbers q6_are_numbers : Value} {f_is_rule : Addr} {o_is_rule n_is_rule : Option Addr} {w_is_rule : Array (Option Value)} {q1_is_rule q2_is_rule q3_is_rule q4_is_rule q5_is_rule q6_is_rule : Value} {f_is_field : Addr} {o_is_field n_is_field : Option Addr} {w_is_field : Array (Option Value)} {q1_is_field q2_is_field q3_is_field q4_is_field q5_is_field q6_is_field : Value} {f_look_battle : Addr} {o_look_battle n_look_battle : Option Addr} {w_look_battle : Array (Option Value)} {q1_look_battle q2_look_battle q3_look_battle q4_look_battle q5_look_battle q6_look_battle : Value} {f_paid : Addr} {o_paid n_paid : Option Addr} {w_paid : Array (Option Value)} {q1_paid q2_paid q3_paid q4_paid q5_paid q6_paid : Value} {f_must_be_sizes : Addr} {o_must_be_sizes n_must_be_sizes : Option Addr} {w_must_be_sizes : Array (Option Value)} {q1_must_be_sizes q2_must_be_sizes q3_must_be_sizes q4_must_be_sizes q5_must_be_sizes q6_must_be_sizes : Value} {f_Fallings_init : Addr} {o_Fallings_init n_Fallings_init : Option Addr} {w_Fallings_init : Array (Option Value)} {q1_Fallings_init q2_Fallings_init q3_Fallings_init q4_Fallings_init q5_Fallings_init q6_Fallings_init : Value} {f_Fallings_many : Addr} {o_Fallings_many n_Fallings_many : Option Addr} {w_Fallings_many : Array (Option Value)} {q1_Fallings_many q2_Fallings_many q3_Fallings_many q4_Fallings_many q5_Fallings_many q6_Fallings_many : Value} {f_counts_many : Addr} {o_counts_many n_counts_many : Option Addr} {w_counts_many : Array (Option Value)} {q1_counts_many q2_counts_many q3_counts_many q4_counts_many q5_counts_many q6_counts_many : Value} {f_counts_of : Addr} {o_counts_of n_counts_of : Option Addr} {w_counts_of : Array (Option Value)} {q1_counts_of q2_counts_of q3_counts_of q4_counts_of q5_counts_of q6_counts_of : Value} {f_is_alike : Addr} {o_is_alike n_is_alike : Option Addr} {w_is_alike : Array (Option Value)} {q1_is_alike q2_is_alike q3_is_alike q4_is_alike q5_is_alike q6_is_alike : Value} {f_must_be_alike : Addr} {o_must_be_alike n_must_be_alike : Option Addr} {w_must_be_alike : Array (Option Value)} {q1_must_be_alike q2_must_be_alike q3_must_be_alike q4_must_be_alike q5_must_be_alike q6_must_be_alike : Value} {f_met : Addr} {o_met n_met : Option Addr} {w_met : Array (Option Value)} {q1_met q2_met q3_met q4_met q5_met q6_met : Value} {f_all_counts : Addr} {o_all_counts n_all_counts : Option Addr} {w_all_counts : Array (Option Value)} {q1_all_counts q2_all_counts q3_all_counts q4_all_counts q5_all_counts q6_all_counts : Value} {f_table_by_counts : Addr} {o_table_by_counts n_table_by_counts : Option Addr} {w_table_by_counts : Array (Option Value)} {q1_table_by_counts q2_table_by_counts q3_table_by_counts q4_table_by_counts q5_table_by_counts q6_table_by_counts : Value} {f_counts_table : Addr} {o_counts_table n_counts_table : Option Addr} {w_counts_table : Array (Option Value)} {q1_counts_table q2_counts_table q3_counts_table q4_counts_table q5_counts_table q6_counts_table : Value} {f_l_purse : Addr} {o_l_purse n_l_purse : Option Addr} {w_l_purse : Array (Option Value)} {q1_l_purse q2_l_purse q3_l_purse q4_l_purse q5_l_purse q6_l_purse : Value} {f_l_draw : Addr} {o_l_draw n_l_draw : Option Addr} {w_l_draw : Array (Option Value)} {q1_l_draw q2_l_draw q3_l_draw q4_l_draw q5_l_draw q6_l_draw : Value} {f_l_whole : Addr} {o_l_whole n_l_whole : Option Addr} {w_l_whole : Array (Option Value)} {q1_l_whole q2_l_whole q3_l_whole q4_l_whole q5_l_whole q6_l_whole : Value} {f_l_numbers : Addr} {o_l_numbers n_l_numbers : Option Addr} {w_l_numbers : Array (Option Value)} {q1_l_numbers q2_l_numbers q3_l_numbers q4_l_numbers q5_l_numbers q6_l_numbers : Value} {f_l_field : Addr} {o_l_field n_l_field : Option Addr} {w_l_field : Array (Option Value)} {q1_l_field q2_l_field q3_l_field q4_l_field q5_l_field q6_l_field : Value} {f_l_copy : Addr} {o_l_copy n_l_copy : Option Addr} {w_l_copy : Array (Option Value)} {q1_l_copy q2_l_copy q3_l_copy q4_l_copy q5_l_copy q6_l_copy : Value} {f_l_pay : Addr} {o_l_pay n_l_pay : Option Addr} {w_l_pay : Array (Option Value)} {q1_l_pay q2_l_pay q3_l_pay q4_l_pay q5_l_pay q6_l_pay : Value} {f_l_all : Addr} {o_l_all n_l_all : Option Addr} {w_l_all : Array (Option Value)} {q1_l_all q2_l_all q3_l_all q4_l_all q5_l_all q6_l_all : Value} {f_l_pairs : Addr} {o_l_pairs n_l_pairs : Option Addr} {w_l_pairs : Array (Option Value)} {q1_l_pairs q2_l_pairs q3_l_pairs q4_l_pairs q5_l_pairs q6_l_pairs : Value} {f_l_won : Addr} {o_l_won n_l_won : Option Addr} {w_l_won : Array (Option Value)} {q1_l_won q2_l_won q3_l_won q4_l_won q5_l_won q6_l_won : Value} {f_l_due : Addr} {o_l_due n_l_due : Option Addr} {w_l_due : Array (Option Value)} {q1_l_due q2_l_due q3_l_due q4_l_due q5_l_due q6_l_due : Value} {f_l_right : Addr} {o_l_right n_l_right : Option Addr} {w_l_right : Array (Option Value)} {q1_l_right q2_l_right q3_l_right q4_l_right q5_l_right q6_l_right : Value} {f_law : Addr} {o_law n_law : Option Addr} {w_law : Array (Option Value)} {q1_law q2_law q3_law q4_law q5_law q6_law : Value} {e_Fallings : Addr} {t_MOST_HOSTS_fields : Tok} {t_MOST_FIELDS_fields : Tok} {t_MOST_HOSTS_plans : Tok} {t_MOST_FIELDS_plans : Tok} {e_HostError : Addr} {e_NoBattle : Addr} {e_NoPlan : Addr} {xn_NoBattle xq_NoBattle : Str} {xN_NoBattle : Addr} {xb_NoBattle : List Value} {xs_NoBattle : List Str} {xu_NoBattle : List Value} {xa_NoBattle : Bool} {xc_NoBattle : Option Bool} {xd_NoBattle : Option Addr} {x0_NoBattle x1_NoBattle x2_NoBattle x3_NoBattle x5_NoBattle : Option Value} (X : K.In h) (G : h.Ns mainGlobals mg)
    (h_Fallings : PySem.W.nsIn K mainGlobals "Fallings" = some (some (.ref e_Fallings)))
    (h_HostError : PySem.W.nsIn K mainGlobals "HostError" = some (some (.ref e_HostError)))
    (h_NoBattle : PySem.W.nsIn K mainGlobals "NoBattle" = some (some (.ref e_NoBattle)))
    (h_NoPlan : PySem.W.nsIn K mainGlobals "NoPlan" = some (some (.ref e_NoPlan)))
    (pf_Fallings_init : PySem.W.findIn K (.ref e_Fallings) "__init__" = some (some (.ref f_Fallings_init)))
    (pf_Fallings_many : PySem.W.findIn K (.ref e_Fallings) "many" = some (some (.ref f_Fallings_many)))
    (ic_NoBattle : PySem.W.findIn K (.ref e_NoBattle) "__init__" = some (some (.ref f_NoBattle_init)))
    (l_NoBattle_init : K.lookup f_NoBattle_init = some ⟨q1_NoBattle_init, o_NoBattle_init, .func (PySem.W.fnOf "__init__" "NoBattle.__init__" (defArgs s_NoBattle_init) (defBody s_NoBattle_init) (defScope s_NoBattle_init) .none q2_NoBattle_init q3_NoBattle_init q4_NoBattle_init n_NoBattle_init q5_NoBattle_init q6_NoBattle_init), w_NoBattle_init⟩)
    (c_NoBattle_init : PySem.W.codeIn K q5_NoBattle_init "NoBattle.__init__" = true)
    (k_NoBattle_init : PySem.W.keepIn K (.ref f_NoBattle_init) = true)
    (a_is_number : PySem.W.nsIn K mainGlobals "is_number" = some (some (.ref f_is_number)))
    (l_is_number : K.lookup f_is_number = some ⟨q1_is_number, o_is_number, .func (PySem.W.fnOf "is_number" "is_number" (defArgs s_is_number) (defBody s_is_number) (defScope s_is_number) .none q2_is_number q3_is_number q4_is_number n_is_number q5_is_number q6_is_number), w_is_number⟩)
    (c_is_number : PySem.W.codeIn K q5_is_number "is_number" = true)
    (k_is_number : PySem.W.keepIn K (.ref f_is_number) = true)
    (a_are_numbers : PySem.W.nsIn K mainGlobals "are_numbers" = some (some (.ref f_are_numbers)))
    (l_are_numbers : K.lookup f_are_numbers = some ⟨q1_are_numbers, o_are_numbers, .func (PySem.W.fnOf "are_numbers" "are_numbers" (defArgs s_are_numbers) (defBody s_are_numbers) (defScope s_are_numbers) .none q2_are_numbers q3_are_numbers q4_are_numbers n_are_numbers q5_are_numbers q6_are_numbers), w_are_numbers⟩)
    (c_are_numbers : PySem.W.codeIn K q5_are_numbers "are_numbers" = true)
    (k_are_numbers : PySem.W.keepIn K (.ref f_are_numbers) = true)
    (a_is_rule : PySem.W.nsIn K mainGlobals "is_rule" = some (some (.ref f_is_rule)))
    (l_is_rule : K.lookup f_is_rule = some ⟨q1_is_rule, o_is_rule, .func (PySem.W.fnOf "is_rule" "is_rule" (defArgs s_is_rule) (defBody s_is_rule) (defScope s_is_rule) .none q2_is_rule q3_is_rule q4_is_rule n_is_rule q5_is_rule q6_is_rule), w_is_rule⟩)
    (c_is_rule : PySem.W.codeIn K q5_is_rule "is_rule" = true)
    (k_is_rule : PySem.W.keepIn K (.ref f_is_rule) = true)
    (a_is_field : PySem.W.nsIn K mainGlobals "is_field" = some (some (.ref f_is_field)))
    (l_is_field : K.lookup f_is_field = some ⟨q1_is_field, o_is_field, .func (PySem.W.fnOf "is_field" "is_field" (defArgs s_is_field) (defBody s_is_field) (defScope s_is_field) .none q2_is_field q3_is_field q4_is_field n_is_field q5_is_field q6_is_field), w_is_field⟩)
    (c_is_field : PySem.W.codeIn K q5_is_field "is_field" = true)
    (k_is_field : PySem.W.keepIn K (.ref f_is_field) = true)
    (a_look_battle : PySem.W.nsIn K mainGlobals "look_battle" = some (some (.ref f_look_battle)))
    (l_look_battle : K.lookup f_look_battle = some ⟨q1_look_battle, o_look_battle, .func (PySem.W.fnOf "look_battle" "look_battle" (defArgs s_look_battle) (defBody s_look_battle) (defScope s_look_battle) .none q2_look_battle q3_look_battle q4_look_battle n_look_battle q5_look_battle q6_look_battle), w_look_battle⟩)
    (c_look_battle : PySem.W.codeIn K q5_look_battle "look_battle" = true)
    (k_look_battle : PySem.W.keepIn K (.ref f_look_battle) = true)
    (a_paid : PySem.W.nsIn K mainGlobals "paid" = some (some (.ref f_paid)))
    (l_paid : K.lookup f_paid = some ⟨q1_paid, o_paid, .func (PySem.W.fnOf "paid" "paid" (defArgs s_paid) (defBody s_paid) (defScope s_paid) .none q2_paid q3_paid q4_paid n_paid q5_paid q6_paid), w_paid⟩)
    (c_paid : PySem.W.codeIn K q5_paid "paid" = true)
    (k_paid : PySem.W.keepIn K (.ref f_paid) = true)
    (a_must_be_sizes : PySem.W.nsIn K mainGlobals "must_be_sizes" = some (some (.ref f_must_be_sizes)))
    (l_must_be_sizes : K.lookup f_must_be_sizes = some ⟨q1_must_be_sizes, o_must_be_sizes, .func (PySem.W.fnOf "must_be_sizes" "must_be_sizes" (defArgs s_must_be_sizes) (defBody s_must_be_sizes) (defScope s_must_be_sizes) .none q2_must_be_sizes q3_must_be_sizes q4_must_be_sizes n_must_be_sizes q5_must_be_sizes q6_must_be_sizes), w_must_be_sizes⟩)
    (c_must_be_sizes : PySem.W.codeIn K q5_must_be_sizes "must_be_sizes" = true)
    (k_must_be_sizes : PySem.W.keepIn K (.ref f_must_be_sizes) = true)
    (l_Fallings_init : K.lookup f_Fallings_init = some ⟨q1_Fallings_init, o_Fallings_init, .func (PySem.W.fnOf "__init__" "Fallings.__init__" (defArgs s_Fallings_init) (defBody s_Fallings_init) (defScope s_Fallings_init) .none q2_Fallings_init q3_Fallings_init q4_Fallings_init n_Fallings_init q5_Fallings_init q6_Fallings_init), w_Fallings_init⟩)
    (c_Fallings_init : PySem.W.codeIn K q5_Fallings_init "Fallings.__init__" = true)
    (k_Fallings_init : PySem.W.keepIn K (.ref f_Fallings_init) = true)
    (l_Fallings_many : K.lookup f_Fallings_many = some ⟨q1_Fallings_many, o_Fallings_many, .func (PySem.W.fnOf "many" "Fallings.many" (defArgs s_Fallings_many) (defBody s_Fallings_many) (defScope s_Fallings_many) .none q2_Fallings_many q3_Fallings_many q4_Fallings_many n_Fallings_many q5_Fallings_many q6_Fallings_many), w_Fallings_many⟩)
    (c_Fallings_many : PySem.W.codeIn K q5_Fallings_many "Fallings.many" = true)
    (k_Fallings_many : PySem.W.keepIn K (.ref f_Fallings_many) = true)
    (a_counts_many : PySem.W.nsIn K mainGlobals "counts_many" = some (some (.ref f_counts_many)))
    (l_counts_many : K.lookup f_counts_many = some ⟨q1_counts_many, o_counts_many, .func (PySem.W.fnOf "counts_many" "counts_many" (defArgs s_counts_many) (defBody s_counts_many) (defScope s_counts_many) .none q2_counts_many q3_counts_many q4_counts_many n_counts_many q5_counts_many q6_counts_many), w_counts_many⟩)
    (c_counts_many : PySem.W.codeIn K q5_counts_many "counts_many" = true)
    (k_counts_many : PySem.W.keepIn K (.ref f_counts_many) = true)
    (a_counts_of : PySem.W.nsIn K mainGlobals "counts_of" = some (some (.ref f_counts_of)))
    (l_counts_of : K.lookup f_counts_of = some ⟨q1_counts_of, o_counts_of, .func (PySem.W.fnOf "counts_of" "counts_of" (defArgs s_counts_of) (defBody s_counts_of) (defScope s_counts_of) .none q2_counts_of q3_counts_of q4_counts_of n_counts_of q5_counts_of q6_counts_of), w_counts_of⟩)
    (c_counts_of : PySem.W.codeIn K q5_counts_of "counts_of" = true)
    (k_counts_of : PySem.W.keepIn K (.ref f_counts_of) = true)
    (a_is_alike : PySem.W.nsIn K mainGlobals "is_alike" = some (some (.ref f_is_alike)))
    (l_is_alike : K.lookup f_is_alike = some ⟨q1_is_alike, o_is_alike, .func (PySem.W.fnOf "is_alike" "is_alike" (defArgs s_is_alike) (defBody s_is_alike) (defScope s_is_alike) .none q2_is_alike q3_is_alike q4_is_alike n_is_alike q5_is_alike q6_is_alike), w_is_alike⟩)
    (c_is_alike : PySem.W.codeIn K q5_is_alike "is_alike" = true)
    (k_is_alike : PySem.W.keepIn K (.ref f_is_alike) = true)
    (a_must_be_alike : PySem.W.nsIn K mainGlobals "must_be_alike" = some (some (.ref f_must_be_alike)))
    (l_must_be_alike : K.lookup f_must_be_alike = some ⟨q1_must_be_alike, o_must_be_alike, .func (PySem.W.fnOf "must_be_alike" "must_be_alike" (defArgs s_must_be_alike) (defBody s_must_be_alike) (defScope s_must_be_alike) .none q2_must_be_alike q3_must_be_alike q4_must_be_alike n_must_be_alike q5_must_be_alike q6_must_be_alike), w_must_be_alike⟩)
    (c_must_be_alike : PySem.W.codeIn K q5_must_be_alike "must_be_alike" = true)
    (k_must_be_alike : PySem.W.keepIn K (.ref f_must_be_alike) = true)
    (a_met : PySem.W.nsIn K mainGlobals "met" = some (some (.ref f_met)))
    (l_met : K.lookup f_met = some ⟨q1_met, o_met, .func (PySem.W.fnOf "met" "met" (defArgs s_met) (defBody s_met) (defScope s_met) .none q2_met q3_met q4_met n_met q5_met q6_met), w_met⟩)
    (c_met : PySem.W.codeIn K q5_met "met" = true)
    (k_met : PySem.W.keepIn K (.ref f_met) = true)
    (a_all_counts : PySem.W.nsIn K mainGlobals "all_counts" = some (some (.ref f_all_counts)))
    (l_all_counts : K.lookup f_all_counts = some ⟨q1_all_counts, o_all_counts, .func (PySem.W.fnOf "all_counts" "all_counts" (defArgs s_all_counts) (defBody s_all_counts) (defScope s_all_counts) .none q2_all_counts q3_all_counts q4_all_counts n_all_counts q5_all_counts q6_all_counts), w_all_counts⟩)
    (c_all_counts : PySem.W.codeIn K q5_all_counts "all_counts" = true)
    (k_all_counts : PySem.W.keepIn K (.ref f_all_counts) = true)
    (a_table_by_counts : PySem.W.nsIn K mainGlobals "table_by_counts" = some (some (.ref f_table_by_counts)))
    (l_table_by_counts : K.lookup f_table_by_counts = some ⟨q1_table_by_counts, o_table_by_counts, .func (PySem.W.fnOf "table_by_counts" "table_by_counts" (defArgs s_table_by_counts) (defBody s_table_by_counts) (defScope s_table_by_counts) .none q2_table_by_counts q3_table_by_counts q4_table_by_counts n_table_by_counts q5_table_by_counts q6_table_by_counts), w_table_by_counts⟩)
    (c_table_by_counts : PySem.W.codeIn K q5_table_by_counts "table_by_counts" = true)
    (k_table_by_counts : PySem.W.keepIn K (.ref f_table_by_counts) = true)
    (a_counts_table : PySem.W.nsIn K mainGlobals "counts_table" = some (some (.ref f_counts_table)))
    (l_counts_table : K.lookup f_counts_table = some ⟨q1_counts_table, o_counts_table, .func (PySem.W.fnOf "counts_table" "counts_table" (defArgs s_counts_table) (defBody s_counts_table) (defScope s_counts_table) .none q2_counts_table q3_counts_table q4_counts_table n_counts_table q5_counts_table q6_counts_table), w_counts_table⟩)
    (c_counts_table : PySem.W.codeIn K q5_counts_table "counts_table" = true)
    (k_counts_table : PySem.W.keepIn K (.ref f_counts_table) = true)
    (a_l_purse : PySem.W.nsIn K mainGlobals "_law_purse" = some (some (.ref f_l_purse)))
    (l_l_purse : K.lookup f_l_purse = some ⟨q1_l_purse, o_l_purse, .func (PySem.W.fnOf "_law_purse" "_law_purse" (defArgs s_l_purse) (defBody s_l_purse) (defScope s_l_purse) .none q2_l_purse q3_l_purse q4_l_purse n_l_purse q5_l_purse q6_l_purse), w_l_purse⟩)
    (c_l_purse : PySem.W.codeIn K q5_l_purse "_law_purse" = true)
    (k_l_purse : PySem.W.keepIn K (.ref f_l_purse) = true)
    (a_l_draw : PySem.W.nsIn K mainGlobals "_law_draw" = some (some (.ref f_l_draw)))
    (l_l_draw : K.lookup f_l_draw = some ⟨q1_l_draw, o_l_draw, .func (PySem.W.fnOf "_law_draw" "_law_draw" (defArgs s_l_draw) (defBody s_l_draw) (defScope s_l_draw) .none q2_l_draw q3_l_draw q4_l_draw n_l_draw q5_l_draw q6_l_draw), w_l_draw⟩)
    (c_l_draw : PySem.W.codeIn K q5_l_draw "_law_draw" = true)
    (k_l_draw : PySem.W.keepIn K (.ref f_l_draw) = true)
    (a_l_whole : PySem.W.nsIn K mainGlobals "_law_whole" = some (some (.ref f_l_whole)))
    (l_l_whole : K.lookup f_l_whole = some ⟨q1_l_whole, o_l_whole, .func (PySem.W.fnOf "_law_whole" "_law_whole" (defArgs s_l_whole) (defBody s_l_whole) (defScope s_l_whole) .none q2_l_whole q3_l_whole q4_l_whole n_l_whole q5_l_whole q6_l_whole), w_l_whole⟩)
    (c_l_whole : PySem.W.codeIn K q5_l_whole "_law_whole" = true)
    (k_l_whole : PySem.W.keepIn K (.ref f_l_whole) = true)
    (a_l_numbers : PySem.W.nsIn K mainGlobals "_law_numbers" = some (some (.ref f_l_numbers)))
    (l_l_numbers : K.lookup f_l_numbers = some ⟨q1_l_numbers, o_l_numbers, .func (PySem.W.fnOf "_law_numbers" "_law_numbers" (defArgs s_l_numbers) (defBody s_l_numbers) (defScope s_l_numbers) .none q2_l_numbers q3_l_numbers q4_l_numbers n_l_numbers q5_l_numbers q6_l_numbers), w_l_numbers⟩)
    (c_l_numbers : PySem.W.codeIn K q5_l_numbers "_law_numbers" = true)
    (k_l_numbers : PySem.W.keepIn K (.ref f_l_numbers) = true)
    (a_l_field : PySem.W.nsIn K mainGlobals "_law_field" = some (some (.ref f_l_field)))
    (l_l_field : K.lookup f_l_field = some ⟨q1_l_field, o_l_field, .func (PySem.W.fnOf "_law_field" "_law_field" (defArgs s_l_field) (defBody s_l_field) (defScope s_l_field) .none q2_l_field q3_l_field q4_l_field n_l_field q5_l_field q6_l_field), w_l_field⟩)
    (c_l_field : PySem.W.codeIn K q5_l_field "_law_field" = true)
    (k_l_field : PySem.W.keepIn K (.ref f_l_field) = true)
    (a_l_copy : PySem.W.nsIn K mainGlobals "_law_copy" = some (some (.ref f_l_copy)))
    (l_l_copy : K.lookup f_l_copy = some ⟨q1_l_copy, o_l_copy, .func (PySem.W.fnOf "_law_copy" "_law_copy" (defArgs s_l_copy) (defBody s_l_copy) (defScope s_l_copy) .none q2_l_copy q3_l_copy q4_l_copy n_l_copy q5_l_copy q6_l_copy), w_l_copy⟩)
    (c_l_copy : PySem.W.codeIn K q5_l_copy "_law_copy" = true)
    (k_l_copy : PySem.W.keepIn K (.ref f_l_copy) = true)
    (a_l_pay : PySem.W.nsIn K mainGlobals "_law_pay" = some (some (.ref f_l_pay)))
    (l_l_pay : K.lookup f_l_pay = some ⟨q1_l_pay, o_l_pay, .func (PySem.W.fnOf "_law_pay" "_law_pay" (defArgs s_l_pay) (defBody s_l_pay) (defScope s_l_pay) .none q2_l_pay q3_l_pay q4_l_pay n_l_pay q5_l_pay q6_l_pay), w_l_pay⟩)
    (c_l_pay : PySem.W.codeIn K q5_l_pay "_law_pay" = true)
    (k_l_pay : PySem.W.keepIn K (.ref f_l_pay) = true)
    (a_l_all : PySem.W.nsIn K mainGlobals "_law_all" = some (some (.ref f_l_all)))
    (l_l_all : K.lookup f_l_all = some ⟨q1_l_all, o_l_all, .func (PySem.W.fnOf "_law_all" "_law_all" (defArgs s_l_all) (defBody s_l_all) (defScope s_l_all) .none q2_l_all q3_l_all q4_l_all n_l_all q5_l_all q6_l_all), w_l_all⟩)
    (c_l_all : PySem.W.codeIn K q5_l_all "_law_all" = true)
    (k_l_all : PySem.W.keepIn K (.ref f_l_all) = true)
    (a_l_pairs : PySem.W.nsIn K mainGlobals "_law_pairs" = some (some (.ref f_l_pairs)))
    (l_l_pairs : K.lookup f_l_pairs = some ⟨q1_l_pairs, o_l_pairs, .func (PySem.W.fnOf "_law_pairs" "_law_pairs" (defArgs s_l_pairs) (defBody s_l_pairs) (defScope s_l_pairs) .none q2_l_pairs q3_l_pairs q4_l_pairs n_l_pairs q5_l_pairs q6_l_pairs), w_l_pairs⟩)
    (c_l_pairs : PySem.W.codeIn K q5_l_pairs "_law_pairs" = true)
    (k_l_pairs : PySem.W.keepIn K (.ref f_l_pairs) = true)
    (a_l_won : PySem.W.nsIn K mainGlobals "_law_won" = some (some (.ref f_l_won)))
    (l_l_won : K.lookup f_l_won = some ⟨q1_l_won, o_l_won, .func (PySem.W.fnOf "_law_won" "_law_won" (defArgs s_l_won) (defBody s_l_won) (defScope s_l_won) .none q2_l_won q3_l_won q4_l_won n_l_won q5_l_won q6_l_won), w_l_won⟩)
    (c_l_won : PySem.W.codeIn K q5_l_won "_law_won" = true)
    (k_l_won : PySem.W.keepIn K (.ref f_l_won) = true)
    (a_l_due : PySem.W.nsIn K mainGlobals "_law_due" = some (some (.ref f_l_due)))
    (l_l_due : K.lookup f_l_due = some ⟨q1_l_due, o_l_due, .func (PySem.W.fnOf "_law_due" "_law_due" (defArgs s_l_due) (defBody s_l_due) (defScope s_l_due) .none q2_l_due q3_l_due q4_l_due n_l_due q5_l_due q6_l_due), w_l_due⟩)
    (c_l_due : PySem.W.codeIn K q5_l_due "_law_due" = true)
    (k_l_due : PySem.W.keepIn K (.ref f_l_due) = true)
    (a_l_right : PySem.W.nsIn K mainGlobals "_law_right" = some (some (.ref f_l_right)))
    (l_l_right : K.lookup f_l_right = some ⟨q1_l_right, o_l_right, .func (PySem.W.fnOf "_law_right" "_law_right" (defArgs s_l_right) (defBody s_l_right) (defScope s_l_right) .none q2_l_right q3_l_right q4_l_right n_l_right q5_l_right q6_l_right), w_l_right⟩)
    (c_l_right : PySem.W.codeIn K q5_l_right "_law_right" = true)
    (k_l_right : PySem.W.keepIn K (.ref f_l_right) = true)
    (a_law : PySem.W.nsIn K mainGlobals "law" = some (some (.ref f_law)))
    (l_law : K.lookup f_law = some ⟨q1_law, o_law, .func (PySem.W.fnOf "law" "law" (defArgs s_law) (defBody s_law) (defScope s_law) .none q2_law q3_law q4_law n_law q5_law q6_law), w_law⟩)
    (c_law : PySem.W.codeIn K q5_law "law" = true)
    (k_law : PySem.W.keepIn K (.ref f_law) = true)
    (z_bool : PySem.W.nsIn K mainGlobals "bool" = some none)
    (z_int : PySem.W.nsIn K mainGlobals "int" = some none)
    (z_isinstance : PySem.W.nsIn K mainGlobals "isinstance" = some none)
    (z_len : PySem.W.nsIn K mainGlobals "len" = some none)
    (z_list : PySem.W.nsIn K mainGlobals "list" = some none)
    (z_max : PySem.W.nsIn K mainGlobals "max" = some none)
    (z_min : PySem.W.nsIn K mainGlobals "min" = some none)
    (z_range : PySem.W.nsIn K mainGlobals "range" = some none)
    (z_sum : PySem.W.nsIn K mainGlobals "sum" = some none)
    (pg_Fallings : PySem.W.plainGet K e_Fallings Str.empty = true)
    (ph_Fallings : PySem.W.hasDictIn K e_Fallings = true)
    (po_Fallings : PySem.W.plainOver K e_Fallings = true)
    (ps_Fallings : PySem.W.findIn K (.ref e_Fallings) "__setattr__" = some (some (.builtin "object.__setattr__")))
    (pm_Fallings : PySem.W.makesIn K e_Fallings = true)
    (pk_Fallings : PySem.W.keepIn K (.ref e_Fallings) = true)
    (pn_Fallings_init : PySem.W.isFn K (.ref f_Fallings_init) = true)
    (pp_Fallings_init : PySem.W.keepIn K (.ref f_Fallings_init) = true)
    (pn_Fallings_many : PySem.W.isFn K (.ref f_Fallings_many) = true)
    (pp_Fallings_many : PySem.W.keepIn K (.ref f_Fallings_many) = true)
    (pa_Fallings_known : PySem.W.findIn K (.ref e_Fallings) "known" = some none)
    (h_MOST_HOSTS_fields : PySem.W.nsIn K mainGlobals "MOST_HOSTS_fields" = some (some (.int 10 t_MOST_HOSTS_fields)))
    (h_MOST_FIELDS_fields : PySem.W.nsIn K mainGlobals "MOST_FIELDS_fields" = some (some (.int 5 t_MOST_FIELDS_fields)))
    (h_MOST_HOSTS_plans : PySem.W.nsIn K mainGlobals "MOST_HOSTS_plans" = some (some (.int 40 t_MOST_HOSTS_plans)))
    (h_MOST_FIELDS_plans : PySem.W.nsIn K mainGlobals "MOST_FIELDS_plans" = some (some (.int 8 t_MOST_FIELDS_plans)))
    (i_HostError : PySem.W.isClsIn K e_HostError = true)
    (t_HostError : PySem.W.typeIn K (.ref e_HostError) = some (.type "type"))
    (y_HostError : PySem.W.subIn K (.ref e_HostError) (.type "BaseException") = some true)
    (i_NoBattle : PySem.W.isClsIn K e_NoBattle = true)
    (t_NoBattle : PySem.W.typeIn K (.ref e_NoBattle) = some (.type "type"))
    (y_NoBattle : PySem.W.subIn K (.ref e_NoBattle) (.type "BaseException") = some true)
    (i_NoPlan : PySem.W.isClsIn K e_NoPlan = true)
    (t_NoPlan : PySem.W.typeIn K (.ref e_NoPlan) = some (.type "type"))
    (y_NoPlan : PySem.W.subIn K (.ref e_NoPlan) (.type "BaseException") = some true)
    (x_NoPlan : PySem.W.excIn K e_NoPlan [.type "ValueError", .type "Exception", .type "BaseException", .type "object"] "ValueError.__new__" = true)
    (k_NoPlan : PySem.W.keepIn K (.ref e_NoPlan) = true)
    (hg_NoPlan : PySem.W.findIn K (.ref e_NoPlan) "__getattribute__" = some (some (.builtin "BaseException.__getattribute__")))
    (hk_NoPlan : PySem.W.findIn K (.ref e_NoPlan) "__getattr__" = some none)
    (hd_NoPlan : PySem.W.hasDictIn K e_NoPlan = true)
    (ha_NoPlan : PySem.W.findIn K (.ref e_NoPlan) "__class__" = some (some (.builtin "object.__class__")))
    (hm_NoPlan : PySem.W.mroIn K e_NoPlan (.type "object") = some true)
    (v_NoPlan : PySem.W.subIn K (.ref e_NoPlan) (.type "ValueError") = some true)
    (s_NoPlan_HostError : PySem.W.subIn K (.ref e_NoPlan) (.ref e_HostError) = some true)
    (s_NoPlan_NoBattle : PySem.W.subIn K (.ref e_NoPlan) (.ref e_NoBattle) = some false)
    (s_NoPlan_NoPlan : PySem.W.subIn K (.ref e_NoPlan) (.ref e_NoPlan) = some true)
    (oc_NoBattle : K.lookup e_NoBattle = some (excClassObj xn_NoBattle xq_NoBattle e_NoBattle xN_NoBattle xb_NoBattle (.ref e_HostError :: [.type "ValueError", .type "Exception", .type "BaseException", .type "object"]) true xs_NoBattle xu_NoBattle xa_NoBattle xc_NoBattle xd_NoBattle x0_NoBattle x1_NoBattle x2_NoBattle x3_NoBattle x5_NoBattle "ValueError.__new__"))
    (sa_NoBattle : PySem.W.findIn K (.ref e_NoBattle) "__setattr__" = some (some (.builtin "object.__setattr__")))
    (ti_NoBattle : PySem.W.typeIn K (.ref f_NoBattle_init) = some (.type "function"))
    (no_NoBattle_field : PySem.W.findIn K (.ref e_NoBattle) "field" = some none)
    (rd_HostError : PySem.W.readsIn K e_HostError (.type "type") = true)
    (ga_HostError : PySem.W.specialIn K (.ref e_HostError) "__getattribute__" = some (some (.builtin "type.__getattribute__")))
    (fc_HostError : PySem.W.findCls K (.ref e_HostError) (.type "type") "__init__" = some (.val (.builtin "ValueError.__init__")))
    (k_NoBattle : PySem.W.keepIn K (.ref e_NoBattle) = true)
    (hg_NoBattle : PySem.W.findIn K (.ref e_NoBattle) "__getattribute__" = some (some (.builtin "BaseException.__getattribute__")))
    (hk_NoBattle : PySem.W.findIn K (.ref e_NoBattle) "__getattr__" = some none)
    (hd_NoBattle : PySem.W.hasDictIn K e_NoBattle = true)
    (ha_NoBattle : PySem.W.findIn K (.ref e_NoBattle) "__class__" = some (some (.builtin "object.__class__")))
    (hm_NoBattle : PySem.W.mroIn K e_NoBattle (.type "object") = some true)
    (v_NoBattle : PySem.W.subIn K (.ref e_NoBattle) (.type "ValueError") = some true)
    (s_NoBattle_HostError : PySem.W.subIn K (.ref e_NoBattle) (.ref e_HostError) = some true)
    (s_NoBattle_NoBattle : PySem.W.subIn K (.ref e_NoBattle) (.ref e_NoBattle) = some true)
    (s_NoBattle_NoPlan : PySem.W.subIn K (.ref e_NoBattle) (.ref e_NoPlan) = some false)
    (ho_n : PySem.W.specialIn K (.builtin "object.__class__") "__get__" = some (some (.builtin "getset_descriptor.__get__")))
    (ho_t : PySem.W.takesIn K (.builtin "object.__class__") = some true) : ∃ T : Txt K mg, T.a_law = f_law ∧ ∀ (s : Shared) (v : Value), BindsTo s T.d_law ⟨[v], []⟩ [("_law_script", v)] :=
  ⟨{ a_NoBattle_init := f_NoBattle_init,
      d_NoBattle_init := _,
      F_NoBattle_init := fun_mk (st := s_NoBattle_init) l_NoBattle_init c_NoBattle_init k_NoBattle_init,
      b_NoBattle_init := (fun_mk (st := s_NoBattle_init) l_NoBattle_init c_NoBattle_init k_NoBattle_init).binds fun _ _ _ _ _ _ us hl => match us, hl with | [_, _], _ => rfl,
      a_is_number := f_is_number,
      d_is_number := _,
      F_is_number := fun_mk (st := s_is_number) l_is_number c_is_number k_is_number,
      g_is_number := PySem.W.mg_of X G a_is_number,
      b_is_number := (fun_mk (st := s_is_number) l_is_number c_is_number k_is_number).binds fun _ _ _ _ _ _ us hl => match us, hl with | [_], _ => rfl,
      a_are_numbers := f_are_numbers,
      d_are_numbers := _,
      F_are_numbers := fun_mk (st := s_are_numbers) l_are_numbers c_are_numbers k_are_numbers,
      g_are_numbers := PySem.W.mg_of X G a_are_numbers,
      b_are_numbers := (fun_mk (st := s_are_numbers) l_are_numbers c_are_numbers k_are_numbers).binds fun _ _ _ _ _ _ us hl => match us, hl with | [_, _], _ => rfl,
      a_is_rule := f_is_rule,
      d_is_rule := _,
      F_is_rule := fun_mk (st := s_is_rule) l_is_rule c_is_rule k_is_rule,
      g_is_rule := PySem.W.mg_of X G a_is_rule,
      b_is_rule := (fun_mk (st := s_is_rule) l_is_rule c_is_rule k_is_rule).binds fun _ _ _ _ _ _ us hl => match us, hl with | [_], _ => rfl,
      a_is_field := f_is_field,
      d_is_field := _,
      F_is_field := fun_mk (st := s_is_field) l_is_field c_is_field k_is_field,
      g_is_field := PySem.W.mg_of X G a_is_field,
      b_is_field := (fun_mk (st := s_is_field) l_is_field c_is_field k_is_field).binds fun _ _ _ _ _ _ us hl => match us, hl with | [_, _, _], _ => rfl,
      a_look_battle := f_look_battle,
      d_look_battle := _,
      F_look_battle := fun_mk (st := s_look_battle) l_look_battle c_look_battle k_look_battle,
      g_look_battle := PySem.W.mg_of X G a_look_battle,
      b_look_battle := (fun_mk (st := s_look_battle) l_look_battle c_look_battle k_look_battle).binds fun _ _ _ _ _ _ us hl => match us, hl with | [_], _ => rfl,
      a_paid := f_paid,
      d_paid := _,
      F_paid := fun_mk (st := s_paid) l_paid c_paid k_paid,
      g_paid := PySem.W.mg_of X G a_paid,
      b_paid := (fun_mk (st := s_paid) l_paid c_paid k_paid).binds fun _ _ _ _ _ _ us hl => match us, hl with | [_, _, _], _ => rfl,
      a_must_be_sizes := f_must_be_sizes,
      d_must_be_sizes := _,
      F_must_be_sizes := fun_mk (st := s_must_be_sizes) l_must_be_sizes c_must_be_sizes k_must_be_sizes,
      g_must_be_sizes := PySem.W.mg_of X G a_must_be_sizes,
      b_must_be_sizes := (fun_mk (st := s_must_be_sizes) l_must_be_sizes c_must_be_sizes k_must_be_sizes).binds fun _ _ _ _ _ _ us hl => match us, hl with | [_, _], _ => rfl,
      a_Fallings_init := f_Fallings_init,
      d_Fallings_init := _,
      F_Fallings_init := fun_mk (st := s_Fallings_init) l_Fallings_init c_Fallings_init k_Fallings_init,
      b_Fallings_init := (fun_mk (st := s_Fallings_init) l_Fallings_init c_Fallings_init k_Fallings_init).binds fun _ _ _ _ _ _ us hl => match us, hl with | [_], _ => rfl,
      a_Fallings_many := f_Fallings_many,
      d_Fallings_many := _,
      F_Fallings_many := fun_mk (st := s_Fallings_many) l_Fallings_many c_Fallings_many k_Fallings_many,
      b_Fallings_many := (fun_mk (st := s_Fallings_many) l_Fallings_many c_Fallings_many k_Fallings_many).binds fun _ _ _ _ _ _ us hl => match us, hl with | [_, _, _, _], _ => rfl,
      a_counts_many := f_counts_many,
      d_counts_many := _,
      F_counts_many := fun_mk (st := s_counts_many) l_counts_many c_counts_many k_counts_many,
      g_counts_many := PySem.W.mg_of X G a_counts_many,
      b_counts_many := (fun_mk (st := s_counts_many) l_counts_many c_counts_many k_counts_many).binds fun _ _ _ _ _ _ us hl => match us, hl with | [_, _], _ => rfl,
      a_counts_of := f_counts_of,
      d_counts_of := _,
      F_counts_of := fun_mk (st := s_counts_of) l_counts_of c_counts_of k_counts_of,
      g_counts_of := PySem.W.mg_of X G a_counts_of,
      b_counts_of := (fun_mk (st := s_counts_of) l_counts_of c_counts_of k_counts_of).binds fun _ _ _ _ _ _ us hl => match us, hl with | [_, _, _], _ => rfl,
      a_is_alike := f_is_alike,
      d_is_alike := _,
      F_is_alike := fun_mk (st := s_is_alike) l_is_alike c_is_alike k_is_alike,
      g_is_alike := PySem.W.mg_of X G a_is_alike,
      b_is_alike := (fun_mk (st := s_is_alike) l_is_alike c_is_alike k_is_alike).binds fun _ _ _ _ _ _ us hl => match us, hl with | [_], _ => rfl,
      a_must_be_alike := f_must_be_alike,
      d_must_be_alike := _,
      F_must_be_alike := fun_mk (st := s_must_be_alike) l_must_be_alike c_must_be_alike k_must_be_alike,
      g_must_be_alike := PySem.W.mg_of X G a_must_be_alike,
      b_must_be_alike := (fun_mk (st := s_must_be_alike) l_must_be_alike c_must_be_alike k_must_be_alike).binds fun _ _ _ _ _ _ us hl => match us, hl with | [_], _ => rfl,
      a_met := f_met,
      d_met := _,
      F_met := fun_mk (st := s_met) l_met c_met k_met,
      g_met := PySem.W.mg_of X G a_met,
      b_met := (fun_mk (st := s_met) l_met c_met k_met).binds fun _ _ _ _ _ _ us hl => match us, hl with | [_, _, _], _ => rfl,
      a_all_counts := f_all_counts,
      d_all_counts := _,
      F_all_counts := fun_mk (st := s_all_counts) l_all_counts c_all_counts k_all_counts,
      g_all_counts := PySem.W.mg_of X G a_all_counts,
      b_all_counts := (fun_mk (st := s_all_counts) l_all_counts c_all_counts k_all_counts).binds fun _ _ _ _ _ _ us hl => match us, hl with | [_, _], _ => rfl,
      a_table_by_counts := f_table_by_counts,
      d_table_by_counts := _,
      F_table_by_counts := fun_mk (st := s_table_by_counts) l_table_by_counts c_table_by_counts k_table_by_counts,
      g_table_by_counts := PySem.W.mg_of X G a_table_by_counts,
      b_table_by_counts := (fun_mk (st := s_table_by_counts) l_table_by_counts c_table_by_counts k_table_by_counts).binds fun _ _ _ _ _ _ us hl => match us, hl with | [_], _ => rfl,
      a_counts_table := f_counts_table,
      d_counts_table := _,
      F_counts_table := fun_mk (st := s_counts_table) l_counts_table c_counts_table k_counts_table,
      g_counts_table := PySem.W.mg_of X G a_counts_table,
      b_counts_table := (fun_mk (st := s_counts_table) l_counts_table c_counts_table k_counts_table).binds fun _ _ _ _ _ _ us hl => match us, hl with | [_], _ => rfl,
      a_l_purse := f_l_purse,
      d_l_purse := _,
      F_l_purse := fun_mk (st := s_l_purse) l_l_purse c_l_purse k_l_purse,
      g_l_purse := PySem.W.mg_of X G a_l_purse,
      b_l_purse := (fun_mk (st := s_l_purse) l_l_purse c_l_purse k_l_purse).binds fun _ _ _ _ _ _ us hl => match us, hl with | [_], _ => rfl,
      a_l_draw := f_l_draw,
      d_l_draw := _,
      F_l_draw := fun_mk (st := s_l_draw) l_l_draw c_l_draw k_l_draw,
      g_l_draw := PySem.W.mg_of X G a_l_draw,
      b_l_draw := (fun_mk (st := s_l_draw) l_l_draw c_l_draw k_l_draw).binds fun _ _ _ _ _ _ us hl => match us, hl with | [_, _], _ => rfl,
      a_l_whole := f_l_whole,
      d_l_whole := _,
      F_l_whole := fun_mk (st := s_l_whole) l_l_whole c_l_whole k_l_whole,
      g_l_whole := PySem.W.mg_of X G a_l_whole,
      b_l_whole := (fun_mk (st := s_l_whole) l_l_whole c_l_whole k_l_whole).binds fun _ _ _ _ _ _ us hl => match us, hl with | [_], _ => rfl,
      a_l_numbers := f_l_numbers,
      d_l_numbers := _,
      F_l_numbers := fun_mk (st := s_l_numbers) l_l_numbers c_l_numbers k_l_numbers,
      g_l_numbers := PySem.W.mg_of X G a_l_numbers,
      b_l_numbers := (fun_mk (st := s_l_numbers) l_l_numbers c_l_numbers k_l_numbers).binds fun _ _ _ _ _ _ us hl => match us, hl with | [_, _], _ => rfl,
      a_l_field := f_l_field,
      d_l_field := _,
      F_l_field := fun_mk (st := s_l_field) l_l_field c_l_field k_l_field,
      g_l_field := PySem.W.mg_of X G a_l_field,
      b_l_field := (fun_mk (st := s_l_field) l_l_field c_l_field k_l_field).binds fun _ _ _ _ _ _ us hl => match us, hl with | [_, _, _], _ => rfl,
      a_l_copy := f_l_copy,
      d_l_copy := _,
      F_l_copy := fun_mk (st := s_l_copy) l_l_copy c_l_copy k_l_copy,
      g_l_copy := PySem.W.mg_of X G a_l_copy,
      b_l_copy := (fun_mk (st := s_l_copy) l_l_copy c_l_copy k_l_copy).binds fun _ _ _ _ _ _ us hl => match us, hl with | [_], _ => rfl,
      a_l_pay := f_l_pay,
      d_l_pay := _,
      F_l_pay := fun_mk (st := s_l_pay) l_l_pay c_l_pay k_l_pay,
      g_l_pay := PySem.W.mg_of X G a_l_pay,
      b_l_pay := (fun_mk (st := s_l_pay) l_l_pay c_l_pay k_l_pay).binds fun _ _ _ _ _ _ us hl => match us, hl with | [_, _, _], _ => rfl,
      a_l_all := f_l_all,
      d_l_all := _,
      F_l_all := fun_mk (st := s_l_all) l_l_all c_l_all k_l_all,
      g_l_all := PySem.W.mg_of X G a_l_all,
      b_l_all := (fun_mk (st := s_l_all) l_l_all c_l_all k_l_all).binds fun _ _ _ _ _ _ us hl => match us, hl with | [_, _, _], _ => rfl,
      a_l_pairs := f_l_pairs,
      d_l_pairs := _,
      F_l_pairs := fun_mk (st := s_l_pairs) l_l_pairs c_l_pairs k_l_pairs,
      g_l_pairs := PySem.W.mg_of X G a_l_pairs,
      b_l_pairs := (fun_mk (st := s_l_pairs) l_l_pairs c_l_pairs k_l_pairs).binds fun _ _ _ _ _ _ us hl => match us, hl with | [_], _ => rfl,
      a_l_won := f_l_won,
      d_l_won := _,
      F_l_won := fun_mk (st := s_l_won) l_l_won c_l_won k_l_won,
      g_l_won := PySem.W.mg_of X G a_l_won,
      b_l_won := (fun_mk (st := s_l_won) l_l_won c_l_won k_l_won).binds fun _ _ _ _ _ _ us hl => match us, hl with | [_, _, _], _ => rfl,
      a_l_due := f_l_due,
      d_l_due := _,
      F_l_due := fun_mk (st := s_l_due) l_l_due c_l_due k_l_due,
      g_l_due := PySem.W.mg_of X G a_l_due,
      b_l_due := (fun_mk (st := s_l_due) l_l_due c_l_due k_l_due).binds fun _ _ _ _ _ _ us hl => match us, hl with | [_, _, _, _], _ => rfl,
      a_l_right := f_l_right,
      d_l_right := _,
      F_l_right := fun_mk (st := s_l_right) l_l_right c_l_right k_l_right,
      g_l_right := PySem.W.mg_of X G a_l_right,
      b_l_right := (fun_mk (st := s_l_right) l_l_right c_l_right k_l_right).binds fun _ _ _ _ _ _ us hl => match us, hl with | [_, _], _ => rfl,
      a_law := f_law,
      d_law := _,
      F_law := fun_mk (st := s_law) l_law c_law k_law,
      g_law := PySem.W.mg_of X G a_law,
      b_law := (fun_mk (st := s_law) l_law c_law k_law).binds fun _ _ _ _ _ _ us hl => match us, hl with | [_], _ => rfl,
      e_Fallings := e_Fallings,
      g_Fallings := PySem.W.mg_of X G h_Fallings,
      pg_Fallings := pg_Fallings,
      ph_Fallings := ph_Fallings,
      po_Fallings := po_Fallings,
      ps_Fallings := ps_Fallings,
      pm_Fallings := pm_Fallings,
      pk_Fallings := pk_Fallings,
      pf_Fallings_init := pf_Fallings_init,
      pn_Fallings_init := pn_Fallings_init,
      pp_Fallings_init := pp_Fallings_init,
      pf_Fallings_many := pf_Fallings_many,
      pn_Fallings_many := pn_Fallings_many,
      pp_Fallings_many := pp_Fallings_many,
      pa_Fallings_known := pa_Fallings_known,
      z_bool := PySem.W.mg_none_of X G z_bool,
      z_int := PySem.W.mg_none_of X G z_int,
      z_isinstance := PySem.W.mg_none_of X G z_isinstance,
      z_len := PySem.W.mg_none_of X G z_len,
      z_list := PySem.W.mg_none_of X G z_list,
      z_max := PySem.W.mg_none_of X G z_max,
      z_min := PySem.W.mg_none_of X G z_min,
      z_range := PySem.W.mg_none_of X G z_range,
      z_sum := PySem.W.mg_none_of X G z_sum,
      t_MOST_HOSTS_fields := t_MOST_HOSTS_fields,
      c_MOST_HOSTS_fields := PySem.W.mg_of X G h_MOST_HOSTS_fields,
      t_MOST_FIELDS_fields := t_MOST_FIELDS_fields,
      c_MOST_FIELDS_fields := PySem.W.mg_of X G h_MOST_FIELDS_fields,
      t_MOST_HOSTS_plans := t_MOST_HOSTS_plans,
      c_MOST_HOSTS_plans := PySem.W.mg_of X G h_MOST_HOSTS_plans,
      t_MOST_FIELDS_plans := t_MOST_FIELDS_plans,
      c_MOST_FIELDS_plans := PySem.W.mg_of X G h_MOST_FIELDS_plans,
      e_HostError := e_HostError,
      g_HostError := PySem.W.mg_of X G h_HostError,
      i_HostError := i_HostError,
      t_HostError := t_HostError,
      y_HostError := y_HostError,
      e_NoBattle := e_NoBattle,
      g_NoBattle := PySem.W.mg_of X G h_NoBattle,
      i_NoBattle := i_NoBattle,
      t_NoBattle := t_NoBattle,
      y_NoBattle := y_NoBattle,
      e_NoPlan := e_NoPlan,
      g_NoPlan := PySem.W.mg_of X G h_NoPlan,
      i_NoPlan := i_NoPlan,
      t_NoPlan := t_NoPlan,
      y_NoPlan := y_NoPlan,
      x_NoPlan := x_NoPlan,
      k_NoPlan := k_NoPlan,
      hg_NoPlan := hg_NoPlan,
      hk_NoPlan := hk_NoPlan,
      hd_NoPlan := hd_NoPlan,
      ha_NoPlan := ha_NoPlan,
      hm_NoPlan := hm_NoPlan,
      v_NoPlan := v_NoPlan,
      s_NoPlan_HostError := s_NoPlan_HostError,
      s_NoPlan_NoBattle := s_NoPlan_NoBattle,
      s_NoPlan_NoPlan := s_NoPlan_NoPlan,
      oc_NoBattle := ⟨xn_NoBattle, xq_NoBattle, xN_NoBattle, xb_NoBattle, _, xs_NoBattle, xu_NoBattle, xa_NoBattle, xc_NoBattle, xd_NoBattle, x0_NoBattle, x1_NoBattle, x2_NoBattle, x3_NoBattle, x5_NoBattle, oc_NoBattle, (show PySem.HandSPX.refsVE [.type "ValueError", .type "Exception", .type "BaseException", .type "object"] = true by decide +kernel)⟩,
      sa_NoBattle := sa_NoBattle,
      ic_NoBattle := ic_NoBattle,
      ti_NoBattle := ti_NoBattle,
      no_NoBattle_field := no_NoBattle_field,
      rd_HostError := rd_HostError,
      ga_HostError := ga_HostError,
      fc_HostError := fc_HostError,
      k_NoBattle := k_NoBattle,
      hg_NoBattle := hg_NoBattle,
      hk_NoBattle := hk_NoBattle,
      hd_NoBattle := hd_NoBattle,
      ha_NoBattle := ha_NoBattle,
      hm_NoBattle := hm_NoBattle,
      v_NoBattle := v_NoBattle,
      s_NoBattle_HostError := s_NoBattle_HostError,
      s_NoBattle_NoBattle := s_NoBattle_NoBattle,
      s_NoBattle_NoPlan := s_NoBattle_NoPlan,
      ho_n := ho_n,
      ho_t := ho_t }, rfl, fun _ _ => .of_eq rfl⟩
theorem all_mk {P : Program} {w : World} {K : PySem.W.Frag} {h : Heap} {mg : Str → Option Value} {fa : Addr} {f_NoBattle_init : Addr} {o_NoBattle_init n_NoBattle_init : Option Addr} {w_NoBattle_init : Array (Option Value)} {q1_NoBattle_init q2_NoBattle_init q3_NoBattle_init q4_NoBattle_init q5_NoBattle_init q6_NoBattle_init : Value} {f_is_number : Addr} {o_is_number n_is_number : Option Addr} {w_is_number : Array (Option Value)} {q1_is_number q2_is_number q3_is_number q4_is_number q5_is_number q6_is_number : Value} {f_are_numbers : Addr} {o_are_numbers n_are_numbers : Option Addr} {w_are_numbers : Array (Option Value)} {q1_are_numbers q2_are_numbers q3_are_numbers q4_are_numbers q5_are_numbers q6_are_numbers : Value} {f_is_rule : Addr} {o_is_rule n_is_rule : Option Addr} {w_is_rule : Array (Option Value)} {q1_is_rule q2_is_rule q3_is_rule q4_is_rule q5_is_rule q6_is_rule : Value} {f_is_field : Addr} {o_is_field n_is_field : Option Addr} {w_is_field : Array (Option Value)} {q1_is_field q2_is_field q3_is_field q4_is_field q5_is_field q6_is_field : Value} {f_look_battle : Addr} {o_look_battle n_look_battle : Option Addr} {w_look_battle : Array (Option Value)} {q1_look_battle q2_look_battle q3_look_battle q4_look_battle q5_look_battle q6_look_battle : Value} {f_paid : Addr} {o_paid n_paid : Option Addr} {w_paid : Array (Option Value)} {q1_paid q2_paid q3_paid q4_paid q5_paid q6_paid : Value} {f_must_be_sizes : Addr} {o_must_be_sizes n_must_be_sizes : Option Addr} {w_must_be_sizes : Array (Option Value)} {q1_must_be_sizes q2_must_be_sizes q3_must_be_sizes q4_must_be_sizes q5_must_be_sizes q6_must_be_sizes : Value} {f_Fallings_init : Addr} {o_Fallings_init n_Fallings_init : Option Addr} {w_Fallings_init : Array (Option Value)} {q1_Fallings_init q2_Fallings_init q3_Fallings_init q4_Fallings_init q5_Fallings_init q6_Fallings_init : Value} {f_Fallings_many : Addr} {o_Fallings_many n_Fallings_many : Option Addr} {w_Fallings_many : Array (Option Value)} {q1_Fallings_many q2_Fallings_many q3_Fallings_many q4_Fallings_many q5_Fallings_many q6_Fallings_many : Value} {f_counts_many : Addr} {o_counts_many n_counts_many : Option Addr} {w_counts_many : Array (Option Value)} {q1_counts_many q2_counts_many q3_counts_many q4_counts_many q5_counts_many q6_counts_many : Value} {f_counts_of : Addr} {o_counts_of n_counts_of : Option Addr} {w_counts_of : Array (Option Value)} {q1_counts_of q2_counts_of q3_counts_of q4_counts_of q5_counts_of q6_counts_of : Value} {f_is_alike : Addr} {o_is_alike n_is_alike : Option Addr} {w_is_alike : Array (Option Value)} {q1_is_alike q2_is_alike q3_is_alike q4_is_alike q5_is_alike q6_is_alike : Value} {f_must_be_alike : Addr} {o_must_be_alike n_must_be_alike : Option Addr} {w_must_be_alike : Array (Option Value)} {q1_must_be_alike q2_must_be_alike q3_must_be_alike q4_must_be_alike q5_must_be_alike q6_must_be_alike : Value} {f_met : Addr} {o_met n_met : Option Addr} {w_met : Array (Option Value)} {q1_met q2_met q3_met q4_met q5_met q6_met : Value} {f_all_counts : Addr} {o_all_counts n_all_counts : Option Addr} {w_all_counts : Array (Option Value)} {q1_all_counts q2_all_counts q3_all_counts q4_all_counts q5_all_counts q6_all_counts : Value} {f_table_by_counts : Addr} {o_table_by_counts n_table_by_counts : Option Addr} {w_table_by_counts : Array (Option Value)} {q1_table_by_counts q2_table_by_counts q3_table_by_counts q4_table_by_counts q5_table_by_counts q6_table_by_counts : Value} {f_counts_table : Addr} {o_counts_table n_counts_table : Option Addr} {w_counts_table : Array (Option Value)} {q1_counts_table q2_counts_table q3_counts_table q4_counts_table q5_counts_table q6_counts_table : Value} {f_l_purse : Addr} {o_l_purse n_l_purse : Option Addr} {w_l_purse : Array (Option Value)} {q1_l_purse q2_l_purse q3_l_purse q4_l_purse q5_l_purse q6_l_purse : Value} {f_l_draw : Addr} {o_l_draw n_l_draw : Option Addr} {w_l_draw : Array (Option Value)} {q1_l_draw q2_l_draw q3_l_draw q4_l_draw q5_l_draw q6_l_draw : Value} {f_l_whole : Addr} {o_l_whole n_l_whole : Option Addr} {w_l_whole : Array (Option Value)} {q1_l_whole q2_l_whole q3_l_whole q4_l_whole q5_l_whole q6_l_whole : Value} {f_l_numbers : Addr} {o_l_numbers n_l_numbers : Option Addr} {w_l_numbers : Array (Option Value)} {q1_l_numbers q2_l_numbers q3_l_numbers q4_l_numbers q5_l_numbers q6_l_numbers : Value} {f_l_field : Addr} {o_l_field n_l_field : Option Addr} {w_l_field : Array (Option Value)} {q1_l_field q2_l_field q3_l_field q4_l_field q5_l_field q6_l_field : Value} {f_l_copy : Addr} {o_l_copy n_l_copy : Option Addr} {w_l_copy : Array (Option Value)} {q1_l_copy q2_l_copy q3_l_copy q4_l_copy q5_l_copy q6_l_copy : Value} {f_l_pay : Addr} {o_l_pay n_l_pay : Option Addr} {w_l_pay : Array (Option Value)} {q1_l_pay q2_l_pay q3_l_pay q4_l_pay q5_l_pay q6_l_pay : Value} {f_l_all : Addr} {o_l_all n_l_all : Option Addr} {w_l_all : Array (Option Value)} {q1_l_all q2_l_all q3_l_all q4_l_all q5_l_all q6_l_all : Value} {f_l_pairs : Addr} {o_l_pairs n_l_pairs : Option Addr} {w_l_pairs : Array (Option Value)} {q1_l_pairs q2_l_pairs q3_l_pairs q4_l_pairs q5_l_pairs q6_l_pairs : Value} {f_l_won : Addr} {o_l_won n_l_won : Option Addr} {w_l_won : Array (Option Value)} {q1_l_won q2_l_won q3_l_won q4_l_won q5_l_won q6_l_won : Value} {f_l_due : Addr} {o_l_due n_l_due : Option Addr} {w_l_due : Array (Option Value)} {q1_l_due q2_l_due q3_l_due q4_l_due q5_l_due q6_l_due : Value} {f_l_right : Addr} {o_l_right n_l_right : Option Addr} {w_l_right : Array (Option Value)} {q1_l_right q2_l_right q3_l_right q4_l_right q5_l_right q6_l_right : Value} {f_law : Addr} {o_law n_law : Option Addr} {w_law : Array (Option Value)} {q1_law q2_law q3_law q4_law q5_law q6_law : Value} {e_Fallings : Addr} {t_MOST_HOSTS_fields : Tok} {t_MOST_FIELDS_fields : Tok} {t_MOST_HOSTS_plans : Tok} {t_MOST_FIELDS_plans : Tok} {e_HostError : Addr} {e_NoBattle : Addr} {e_NoPlan : Addr} {xn_NoBattle xq_NoBattle : Str} {xN_NoBattle : Addr} {xb_NoBattle : List Value} {xs_NoBattle : List Str} {xu_NoBattle : List Value} {xa_NoBattle : Bool} {xc_NoBattle : Option Bool} {xd_NoBattle : Option Addr} {x0_NoBattle x1_NoBattle x2_NoBattle x3_NoBattle x5_NoBattle : Option Value} (X : K.In h) (G : h.Ns mainGlobals mg) (hfa : mg "law" = some (.ref fa))
    (h_Fallings : PySem.W.nsIn K mainGlobals "Fallings" = some (some (.ref e_Fallings)))
    (h_HostError : PySem.W.nsIn K mainGlobals "HostError" = some (some (.ref e_HostError)))
    (h_NoBattle : PySem.W.nsIn K mainGlobals "NoBattle" = some (some (.ref e_NoBattle)))
    (h_NoPlan : PySem.W.nsIn K mainGlobals "NoPlan" = some (some (.ref e_NoPlan)))
    (pf_Fallings_init : PySem.W.findIn K (.ref e_Fallings) "__init__" = some (some (.ref f_Fallings_init)))
    (pf_Fallings_many : PySem.W.findIn K (.ref e_Fallings) "many" = some (some (.ref f_Fallings_many)))
    (ic_NoBattle : PySem.W.findIn K (.ref e_NoBattle) "__init__" = some (some (.ref f_NoBattle_init)))
    (l_NoBattle_init : K.lookup f_NoBattle_init = some ⟨q1_NoBattle_init, o_NoBattle_init, .func (PySem.W.fnOf "__init__" "NoBattle.__init__" (defArgs s_NoBattle_init) (defBody s_NoBattle_init) (defScope s_NoBattle_init) .none q2_NoBattle_init q3_NoBattle_init q4_NoBattle_init n_NoBattle_init q5_NoBattle_init q6_NoBattle_init), w_NoBattle_init⟩)
    (c_NoBattle_init : PySem.W.codeIn K q5_NoBattle_init "NoBattle.__init__" = true)
    (k_NoBattle_init : PySem.W.keepIn K (.ref f_NoBattle_init) = true)
    (a_is_number : PySem.W.nsIn K mainGlobals "is_number" = some (some (.ref f_is_number)))
    (l_is_number : K.lookup f_is_number = some ⟨q1_is_number, o_is_number, .func (PySem.W.fnOf "is_number" "is_number" (defArgs s_is_number) (defBody s_is_number) (defScope s_is_number) .none q2_is_number q3_is_number q4_is_number n_is_number q5_is_number q6_is_number), w_is_number⟩)
    (c_is_number : PySem.W.codeIn K q5_is_number "is_number" = true)
    (k_is_number : PySem.W.keepIn K (.ref f_is_number) = true)
    (a_are_numbers : PySem.W.nsIn K mainGlobals "are_numbers" = some (some (.ref f_are_numbers)))
    (l_are_numbers : K.lookup f_are_numbers = some ⟨q1_are_numbers, o_are_numbers, .func (PySem.W.fnOf "are_numbers" "are_numbers" (defArgs s_are_numbers) (defBody s_are_numbers) (defScope s_are_numbers) .none q2_are_numbers q3_are_numbers q4_are_numbers n_are_numbers q5_are_numbers q6_are_numbers), w_are_numbers⟩)
    (c_are_numbers : PySem.W.codeIn K q5_are_numbers "are_numbers" = true)
    (k_are_numbers : PySem.W.keepIn K (.ref f_are_numbers) = true)
    (a_is_rule : PySem.W.nsIn K mainGlobals "is_rule" = some (some (.ref f_is_rule)))
    (l_is_rule : K.lookup f_is_rule = some ⟨q1_is_rule, o_is_rule, .func (PySem.W.fnOf "is_rule" "is_rule" (defArgs s_is_rule) (defBody s_is_rule) (defScope s_is_rule) .none q2_is_rule q3_is_rule q4_is_rule n_is_rule q5_is_rule q6_is_rule), w_is_rule⟩)
    (c_is_rule : PySem.W.codeIn K q5_is_rule "is_rule" = true)
    (k_is_rule : PySem.W.keepIn K (.ref f_is_rule) = true)
    (a_is_field : PySem.W.nsIn K mainGlobals "is_field" = some (some (.ref f_is_field)))
    (l_is_field : K.lookup f_is_field = some ⟨q1_is_field, o_is_field, .func (PySem.W.fnOf "is_field" "is_field" (defArgs s_is_field) (defBody s_is_field) (defScope s_is_field) .none q2_is_field q3_is_field q4_is_field n_is_field q5_is_field q6_is_field), w_is_field⟩)
    (c_is_field : PySem.W.codeIn K q5_is_field "is_field" = true)
    (k_is_field : PySem.W.keepIn K (.ref f_is_field) = true)
    (a_look_battle : PySem.W.nsIn K mainGlobals "look_battle" = some (some (.ref f_look_battle)))
    (l_look_battle : K.lookup f_look_battle = some ⟨q1_look_battle, o_look_battle, .func (PySem.W.fnOf "look_battle" "look_battle" (defArgs s_look_battle) (defBody s_look_battle) (defScope s_look_battle) .none q2_look_battle q3_look_battle q4_look_battle n_look_battle q5_look_battle q6_look_battle), w_look_battle⟩)
    (c_look_battle : PySem.W.codeIn K q5_look_battle "look_battle" = true)
    (k_look_battle : PySem.W.keepIn K (.ref f_look_battle) = true)
    (a_paid : PySem.W.nsIn K mainGlobals "paid" = some (some (.ref f_paid)))
    (l_paid : K.lookup f_paid = some ⟨q1_paid, o_paid, .func (PySem.W.fnOf "paid" "paid" (defArgs s_paid) (defBody s_paid) (defScope s_paid) .none q2_paid q3_paid q4_paid n_paid q5_paid q6_paid), w_paid⟩)
    (c_paid : PySem.W.codeIn K q5_paid "paid" = true)
    (k_paid : PySem.W.keepIn K (.ref f_paid) = true)
    (a_must_be_sizes : PySem.W.nsIn K mainGlobals "must_be_sizes" = some (some (.ref f_must_be_sizes)))
    (l_must_be_sizes : K.lookup f_must_be_sizes = some ⟨q1_must_be_sizes, o_must_be_sizes, .func (PySem.W.fnOf "must_be_sizes" "must_be_sizes" (defArgs s_must_be_sizes) (defBody s_must_be_sizes) (defScope s_must_be_sizes) .none q2_must_be_sizes q3_must_be_sizes q4_must_be_sizes n_must_be_sizes q5_must_be_sizes q6_must_be_sizes), w_must_be_sizes⟩)
    (c_must_be_sizes : PySem.W.codeIn K q5_must_be_sizes "must_be_sizes" = true)
    (k_must_be_sizes : PySem.W.keepIn K (.ref f_must_be_sizes) = true)
    (l_Fallings_init : K.lookup f_Fallings_init = some ⟨q1_Fallings_init, o_Fallings_init, .func (PySem.W.fnOf "__init__" "Fallings.__init__" (defArgs s_Fallings_init) (defBody s_Fallings_init) (defScope s_Fallings_init) .none q2_Fallings_init q3_Fallings_init q4_Fallings_init n_Fallings_init q5_Fallings_init q6_Fallings_init), w_Fallings_init⟩)
    (c_Fallings_init : PySem.W.codeIn K q5_Fallings_init "Fallings.__init__" = true)
    (k_Fallings_init : PySem.W.keepIn K (.ref f_Fallings_init) = true)
    (l_Fallings_many : K.lookup f_Fallings_many = some ⟨q1_Fallings_many, o_Fallings_many, .func (PySem.W.fnOf "many" "Fallings.many" (defArgs s_Fallings_many) (defBody s_Fallings_many) (defScope s_Fallings_many) .none q2_Fallings_many q3_Fallings_many q4_Fallings_many n_Fallings_many q5_Fallings_many q6_Fallings_many), w_Fallings_many⟩)
    (c_Fallings_many : PySem.W.codeIn K q5_Fallings_many "Fallings.many" = true)
    (k_Fallings_many : PySem.W.keepIn K (.ref f_Fallings_many) = true)
    (a_counts_many : PySem.W.nsIn K mainGlobals "counts_many" = some (some (.ref f_counts_many)))
    (l_counts_many : K.lookup f_counts_many = some ⟨q1_counts_many, o_counts_many, .func (PySem.W.fnOf "counts_many" "counts_many" (defArgs s_counts_many) (defBody s_counts_many) (defScope s_counts_many) .none q2_counts_many q3_counts_many q4_counts_many n_counts_many q5_counts_many q6_counts_many), w_counts_many⟩)
    (c_counts_many : PySem.W.codeIn K q5_counts_many "counts_many" = true)
    (k_counts_many : PySem.W.keepIn K (.ref f_counts_many) = true)
    (a_counts_of : PySem.W.nsIn K mainGlobals "counts_of" = some (some (.ref f_counts_of)))
    (l_counts_of : K.lookup f_counts_of = some ⟨q1_counts_of, o_counts_of, .func (PySem.W.fnOf "counts_of" "counts_of" (defArgs s_counts_of) (defBody s_counts_of) (defScope s_counts_of) .none q2_counts_of q3_counts_of q4_counts_of n_counts_of q5_counts_of q6_counts_of), w_counts_of⟩)
    (c_counts_of : PySem.W.codeIn K q5_counts_of "counts_of" = true)
    (k_counts_of : PySem.W.keepIn K (.ref f_counts_of) = true)
    (a_is_alike : PySem.W.nsIn K mainGlobals "is_alike" = some (some (.ref f_is_alike)))
    (l_is_alike : K.lookup f_is_alike = some ⟨q1_is_alike, o_is_alike, .func (PySem.W.fnOf "is_alike" "is_alike" (defArgs s_is_alike) (defBody s_is_alike) (defScope s_is_alike) .none q2_is_alike q3_is_alike q4_is_alike n_is_alike q5_is_alike q6_is_alike), w_is_alike⟩)
    (c_is_alike : PySem.W.codeIn K q5_is_alike "is_alike" = true)
    (k_is_alike : PySem.W.keepIn K (.ref f_is_alike) = true)
    (a_must_be_alike : PySem.W.nsIn K mainGlobals "must_be_alike" = some (some (.ref f_must_be_alike)))
    (l_must_be_alike : K.lookup f_must_be_alike = some ⟨q1_must_be_alike, o_must_be_alike, .func (PySem.W.fnOf "must_be_alike" "must_be_alike" (defArgs s_must_be_alike) (defBody s_must_be_alike) (defScope s_must_be_alike) .none q2_must_be_alike q3_must_be_alike q4_must_be_alike n_must_be_alike q5_must_be_alike q6_must_be_alike), w_must_be_alike⟩)
    (c_must_be_alike : PySem.W.codeIn K q5_must_be_alike "must_be_alike" = true)
    (k_must_be_alike : PySem.W.keepIn K (.ref f_must_be_alike) = true)
    (a_met : PySem.W.nsIn K mainGlobals "met" = some (some (.ref f_met)))
    (l_met : K.lookup f_met = some ⟨q1_met, o_met, .func (PySem.W.fnOf "met" "met" (defArgs s_met) (defBody s_met) (defScope s_met) .none q2_met q3_met q4_met n_met q5_met q6_met), w_met⟩)
    (c_met : PySem.W.codeIn K q5_met "met" = true)
    (k_met : PySem.W.keepIn K (.ref f_met) = true)
    (a_all_counts : PySem.W.nsIn K mainGlobals "all_counts" = some (some (.ref f_all_counts)))
    (l_all_counts : K.lookup f_all_counts = some ⟨q1_all_counts, o_all_counts, .func (PySem.W.fnOf "all_counts" "all_counts" (defArgs s_all_counts) (defBody s_all_counts) (defScope s_all_counts) .none q2_all_counts q3_all_counts q4_all_counts n_all_counts q5_all_counts q6_all_counts), w_all_counts⟩)
    (c_all_counts : PySem.W.codeIn K q5_all_counts "all_counts" = true)
    (k_all_counts : PySem.W.keepIn K (.ref f_all_counts) = true)
    (a_table_by_counts : PySem.W.nsIn K mainGlobals "table_by_counts" = some (some (.ref f_table_by_counts)))
    (l_table_by_counts : K.lookup f_table_by_counts = some ⟨q1_table_by_counts, o_table_by_counts, .func (PySem.W.fnOf "table_by_counts" "table_by_counts" (defArgs s_table_by_counts) (defBody s_table_by_counts) (defScope s_table_by_counts) .none q2_table_by_counts q3_table_by_counts q4_table_by_counts n_table_by_counts q5_table_by_counts q6_table_by_counts), w_table_by_counts⟩)
    (c_table_by_counts : PySem.W.codeIn K q5_table_by_counts "table_by_counts" = true)
    (k_table_by_counts : PySem.W.keepIn K (.ref f_table_by_counts) = true)
    (a_counts_table : PySem.W.nsIn K mainGlobals "counts_table" = some (some (.ref f_counts_table)))
    (l_counts_table : K.lookup f_counts_table = some ⟨q1_counts_table, o_counts_table, .func (PySem.W.fnOf "counts_table" "counts_table" (defArgs s_counts_table) (defBody s_counts_table) (defScope s_counts_table) .none q2_counts_table q3_counts_table q4_counts_table n_counts_table q5_counts_table q6_counts_table), w_counts_table⟩)
    (c_counts_table : PySem.W.codeIn K q5_counts_table "counts_table" = true)
    (k_counts_table : PySem.W.keepIn K (.ref f_counts_table) = true)
    (a_l_purse : PySem.W.nsIn K mainGlobals "_law_purse" = some (some (.ref f_l_purse)))
    (l_l_purse : K.lookup f_l_purse = some ⟨q1_l_purse, o_l_purse, .func (PySem.W.fnOf "_law_purse" "_law_purse" (defArgs s_l_purse) (defBody s_l_purse) (defScope s_l_purse) .none q2_l_purse q3_l_purse q4_l_purse n_l_purse q5_l_purse q6_l_purse), w_l_purse⟩)
    (c_l_purse : PySem.W.codeIn K q5_l_purse "_law_purse" = true)
    (k_l_purse : PySem.W.keepIn K (.ref f_l_purse) = true)
    (a_l_draw : PySem.W.nsIn K mainGlobals "_law_draw" = some (some (.ref f_l_draw)))
    (l_l_draw : K.lookup f_l_draw = some ⟨q1_l_draw, o_l_draw, .func (PySem.W.fnOf "_law_draw" "_law_draw" (defArgs s_l_draw) (defBody s_l_draw) (defScope s_l_draw) .none q2_l_draw q3_l_draw q4_l_draw n_l_draw q5_l_draw q6_l_draw), w_l_draw⟩)
    (c_l_draw : PySem.W.codeIn K q5_l_draw "_law_draw" = true)
    (k_l_draw : PySem.W.keepIn K (.ref f_l_draw) = true)
    (a_l_whole : PySem.W.nsIn K mainGlobals "_law_whole" = some (some (.ref f_l_whole)))
    (l_l_whole : K.lookup f_l_whole = some ⟨q1_l_whole, o_l_whole, .func (PySem.W.fnOf "_law_whole" "_law_whole" (defArgs s_l_whole) (defBody s_l_whole) (defScope s_l_whole) .none q2_l_whole q3_l_whole q4_l_whole n_l_whole q5_l_whole q6_l_whole), w_l_whole⟩)
    (c_l_whole : PySem.W.codeIn K q5_l_whole "_law_whole" = true)
    (k_l_whole : PySem.W.keepIn K (.ref f_l_whole) = true)
    (a_l_numbers : PySem.W.nsIn K mainGlobals "_law_numbers" = some (some (.ref f_l_numbers)))
    (l_l_numbers : K.lookup f_l_numbers = some ⟨q1_l_numbers, o_l_numbers, .func (PySem.W.fnOf "_law_numbers" "_law_numbers" (defArgs s_l_numbers) (defBody s_l_numbers) (defScope s_l_numbers) .none q2_l_numbers q3_l_numbers q4_l_numbers n_l_numbers q5_l_numbers q6_l_numbers), w_l_numbers⟩)
    (c_l_numbers : PySem.W.codeIn K q5_l_numbers "_law_numbers" = true)
    (k_l_numbers : PySem.W.keepIn K (.ref f_l_numbers) = true)
    (a_l_field : PySem.W.nsIn K mainGlobals "_law_field" = some (some (.ref f_l_field)))
    (l_l_field : K.lookup f_l_field = some ⟨q1_l_field, o_l_field, .func (PySem.W.fnOf "_law_field" "_law_field" (defArgs s_l_field) (defBody s_l_field) (defScope s_l_field) .none q2_l_field q3_l_field q4_l_field n_l_field q5_l_field q6_l_field), w_l_field⟩)
    (c_l_field : PySem.W.codeIn K q5_l_field "_law_field" = true)
    (k_l_field : PySem.W.keepIn K (.ref f_l_field) = true)
    (a_l_copy : PySem.W.nsIn K mainGlobals "_law_copy" = some (some (.ref f_l_copy)))
    (l_l_copy : K.lookup f_l_copy = some ⟨q1_l_copy, o_l_copy, .func (PySem.W.fnOf "_law_copy" "_law_copy" (defArgs s_l_copy) (defBody s_l_copy) (defScope s_l_copy) .none q2_l_copy q3_l_copy q4_l_copy n_l_copy q5_l_copy q6_l_copy), w_l_copy⟩)
    (c_l_copy : PySem.W.codeIn K q5_l_copy "_law_copy" = true)
    (k_l_copy : PySem.W.keepIn K (.ref f_l_copy) = true)
    (a_l_pay : PySem.W.nsIn K mainGlobals "_law_pay" = some (some (.ref f_l_pay)))
    (l_l_pay : K.lookup f_l_pay = some ⟨q1_l_pay, o_l_pay, .func (PySem.W.fnOf "_law_pay" "_law_pay" (defArgs s_l_pay) (defBody s_l_pay) (defScope s_l_pay) .none q2_l_pay q3_l_pay q4_l_pay n_l_pay q5_l_pay q6_l_pay), w_l_pay⟩)
    (c_l_pay : PySem.W.codeIn K q5_l_pay "_law_pay" = true)
    (k_l_pay : PySem.W.keepIn K (.ref f_l_pay) = true)
    (a_l_all : PySem.W.nsIn K mainGlobals "_law_all" = some (some (.ref f_l_all)))
    (l_l_all : K.lookup f_l_all = some ⟨q1_l_all, o_l_all, .func (PySem.W.fnOf "_law_all" "_law_all" (defArgs s_l_all) (defBody s_l_all) (defScope s_l_all) .none q2_l_all q3_l_all q4_l_all n_l_all q5_l_all q6_l_all), w_l_all⟩)
    (c_l_all : PySem.W.codeIn K q5_l_all "_law_all" = true)
    (k_l_all : PySem.W.keepIn K (.ref f_l_all) = true)
    (a_l_pairs : PySem.W.nsIn K mainGlobals "_law_pairs" = some (some (.ref f_l_pairs)))
    (l_l_pairs : K.lookup f_l_pairs = some ⟨q1_l_pairs, o_l_pairs, .func (PySem.W.fnOf "_law_pairs" "_law_pairs" (defArgs s_l_pairs) (defBody s_l_pairs) (defScope s_l_pairs) .none q2_l_pairs q3_l_pairs q4_l_pairs n_l_pairs q5_l_pairs q6_l_pairs), w_l_pairs⟩)
    (c_l_pairs : PySem.W.codeIn K q5_l_pairs "_law_pairs" = true)
    (k_l_pairs : PySem.W.keepIn K (.ref f_l_pairs) = true)
    (a_l_won : PySem.W.nsIn K mainGlobals "_law_won" = some (some (.ref f_l_won)))
    (l_l_won : K.lookup f_l_won = some ⟨q1_l_won, o_l_won, .func (PySem.W.fnOf "_law_won" "_law_won" (defArgs s_l_won) (defBody s_l_won) (defScope s_l_won) .none q2_l_won q3_l_won q4_l_won n_l_won q5_l_won q6_l_won), w_l_won⟩)
    (c_l_won : PySem.W.codeIn K q5_l_won "_law_won" = true)
    (k_l_won : PySem.W.keepIn K (.ref f_l_won) = true)
    (a_l_due : PySem.W.nsIn K mainGlobals "_law_due" = some (some (.ref f_l_due)))
    (l_l_due : K.lookup f_l_due = some ⟨q1_l_due, o_l_due, .func (PySem.W.fnOf "_law_due" "_law_due" (defArgs s_l_due) (defBody s_l_due) (defScope s_l_due) .none q2_l_due q3_l_due q4_l_due n_l_due q5_l_due q6_l_due), w_l_due⟩)
    (c_l_due : PySem.W.codeIn K q5_l_due "_law_due" = true)
    (k_l_due : PySem.W.keepIn K (.ref f_l_due) = true)
    (a_l_right : PySem.W.nsIn K mainGlobals "_law_right" = some (some (.ref f_l_right)))
    (l_l_right : K.lookup f_l_right = some ⟨q1_l_right, o_l_right, .func (PySem.W.fnOf "_law_right" "_law_right" (defArgs s_l_right) (defBody s_l_right) (defScope s_l_right) .none q2_l_right q3_l_right q4_l_right n_l_right q5_l_right q6_l_right), w_l_right⟩)
    (c_l_right : PySem.W.codeIn K q5_l_right "_law_right" = true)
    (k_l_right : PySem.W.keepIn K (.ref f_l_right) = true)
    (a_law : PySem.W.nsIn K mainGlobals "law" = some (some (.ref f_law)))
    (l_law : K.lookup f_law = some ⟨q1_law, o_law, .func (PySem.W.fnOf "law" "law" (defArgs s_law) (defBody s_law) (defScope s_law) .none q2_law q3_law q4_law n_law q5_law q6_law), w_law⟩)
    (c_law : PySem.W.codeIn K q5_law "law" = true)
    (k_law : PySem.W.keepIn K (.ref f_law) = true)
    (z_bool : PySem.W.nsIn K mainGlobals "bool" = some none)
    (z_int : PySem.W.nsIn K mainGlobals "int" = some none)
    (z_isinstance : PySem.W.nsIn K mainGlobals "isinstance" = some none)
    (z_len : PySem.W.nsIn K mainGlobals "len" = some none)
    (z_list : PySem.W.nsIn K mainGlobals "list" = some none)
    (z_max : PySem.W.nsIn K mainGlobals "max" = some none)
    (z_min : PySem.W.nsIn K mainGlobals "min" = some none)
    (z_range : PySem.W.nsIn K mainGlobals "range" = some none)
    (z_sum : PySem.W.nsIn K mainGlobals "sum" = some none)
    (pg_Fallings : PySem.W.plainGet K e_Fallings Str.empty = true)
    (ph_Fallings : PySem.W.hasDictIn K e_Fallings = true)
    (po_Fallings : PySem.W.plainOver K e_Fallings = true)
    (ps_Fallings : PySem.W.findIn K (.ref e_Fallings) "__setattr__" = some (some (.builtin "object.__setattr__")))
    (pm_Fallings : PySem.W.makesIn K e_Fallings = true)
    (pk_Fallings : PySem.W.keepIn K (.ref e_Fallings) = true)
    (pn_Fallings_init : PySem.W.isFn K (.ref f_Fallings_init) = true)
    (pp_Fallings_init : PySem.W.keepIn K (.ref f_Fallings_init) = true)
    (pn_Fallings_many : PySem.W.isFn K (.ref f_Fallings_many) = true)
    (pp_Fallings_many : PySem.W.keepIn K (.ref f_Fallings_many) = true)
    (pa_Fallings_known : PySem.W.findIn K (.ref e_Fallings) "known" = some none)
    (h_MOST_HOSTS_fields : PySem.W.nsIn K mainGlobals "MOST_HOSTS_fields" = some (some (.int 10 t_MOST_HOSTS_fields)))
    (h_MOST_FIELDS_fields : PySem.W.nsIn K mainGlobals "MOST_FIELDS_fields" = some (some (.int 5 t_MOST_FIELDS_fields)))
    (h_MOST_HOSTS_plans : PySem.W.nsIn K mainGlobals "MOST_HOSTS_plans" = some (some (.int 40 t_MOST_HOSTS_plans)))
    (h_MOST_FIELDS_plans : PySem.W.nsIn K mainGlobals "MOST_FIELDS_plans" = some (some (.int 8 t_MOST_FIELDS_plans)))
    (i_HostError : PySem.W.isClsIn K e_HostError = true)
    (t_HostError : PySem.W.typeIn K (.ref e_HostError) = some (.type "type"))
    (y_HostError : PySem.W.subIn K (.ref e_HostError) (.type "BaseException") = some true)
    (i_NoBattle : PySem.W.isClsIn K e_NoBattle = true)
    (t_NoBattle : PySem.W.typeIn K (.ref e_NoBattle) = some (.type "type"))
    (y_NoBattle : PySem.W.subIn K (.ref e_NoBattle) (.type "BaseException") = some true)
    (i_NoPlan : PySem.W.isClsIn K e_NoPlan = true)
    (t_NoPlan : PySem.W.typeIn K (.ref e_NoPlan) = some (.type "type"))
    (y_NoPlan : PySem.W.subIn K (.ref e_NoPlan) (.type "BaseException") = some true)
    (x_NoPlan : PySem.W.excIn K e_NoPlan [.type "ValueError", .type "Exception", .type "BaseException", .type "object"] "ValueError.__new__" = true)
    (k_NoPlan : PySem.W.keepIn K (.ref e_NoPlan) = true)
    (hg_NoPlan : PySem.W.findIn K (.ref e_NoPlan) "__getattribute__" = some (some (.builtin "BaseException.__getattribute__")))
    (hk_NoPlan : PySem.W.findIn K (.ref e_NoPlan) "__getattr__" = some none)
    (hd_NoPlan : PySem.W.hasDictIn K e_NoPlan = true)
    (ha_NoPlan : PySem.W.findIn K (.ref e_NoPlan) "__class__" = some (some (.builtin "object.__class__")))
    (hm_NoPlan : PySem.W.mroIn K e_NoPlan (.type "object") = some true)
    (v_NoPlan : PySem.W.subIn K (.ref e_NoPlan) (.type "ValueError") = some true)
    (s_NoPlan_HostError : PySem.W.subIn K (.ref e_NoPlan) (.ref e_HostError) = some true)
    (s_NoPlan_NoBattle : PySem.W.subIn K (.ref e_NoPlan) (.ref e_NoBattle) = some false)
    (s_NoPlan_NoPlan : PySem.W.subIn K (.ref e_NoPlan) (.ref e_NoPlan) = some true)
    (oc_NoBattle : K.lookup e_NoBattle = some (excClassObj xn_NoBattle xq_NoBattle e_NoBattle xN_NoBattle xb_NoBattle (.ref e_HostError :: [.type "ValueError", .type "Exception", .type "BaseException", .type "object"]) true xs_NoBattle xu_NoBattle xa_NoBattle xc_NoBattle xd_NoBattle x0_NoBattle x1_NoBattle x2_NoBattle x3_NoBattle x5_NoBattle "ValueError.__new__"))
    (sa_NoBattle : PySem.W.findIn K (.ref e_NoBattle) "__setattr__" = some (some (.builtin "object.__setattr__")))
    (ti_NoBattle : PySem.W.typeIn K (.ref f_NoBattle_init) = some (.type "function"))
    (no_NoBattle_field : PySem.W.findIn K (.ref e_NoBattle) "field" = some none)
    (rd_HostError : PySem.W.readsIn K e_HostError (.type "type") = true)
    (ga_HostError : PySem.W.specialIn K (.ref e_HostError) "__getattribute__" = some (some (.builtin "type.__getattribute__")))
    (fc_HostError : PySem.W.findCls K (.ref e_HostError) (.type "type") "__init__" = some (.val (.builtin "ValueError.__init__")))
    (k_NoBattle : PySem.W.keepIn K (.ref e_NoBattle) = true)
    (hg_NoBattle : PySem.W.findIn K (.ref e_NoBattle) "__getattribute__" = some (some (.builtin "BaseException.__getattribute__")))
    (hk_NoBattle : PySem.W.findIn K (.ref e_NoBattle) "__getattr__" = some none)
    (hd_NoBattle : PySem.W.hasDictIn K e_NoBattle = true)
    (ha_NoBattle : PySem.W.findIn K (.ref e_NoBattle) "__class__" = some (some (.builtin "object.__class__")))
    (hm_NoBattle : PySem.W.mroIn K e_NoBattle (.type "object") = some true)
    (v_NoBattle : PySem.W.subIn K (.ref e_NoBattle) (.type "ValueError") = some true)
    (s_NoBattle_HostError : PySem.W.subIn K (.ref e_NoBattle) (.ref e_HostError) = some true)
    (s_NoBattle_NoBattle : PySem.W.subIn K (.ref e_NoBattle) (.ref e_NoBattle) = some true)
    (s_NoBattle_NoPlan : PySem.W.subIn K (.ref e_NoBattle) (.ref e_NoPlan) = some false)
    (ho_n : PySem.W.specialIn K (.builtin "object.__class__") "__get__" = some (some (.builtin "getset_descriptor.__get__")))
    (ho_t : PySem.W.takesIn K (.builtin "object.__class__") = some true) : ∃ fd : FuncData, (∀ (s : Shared) (v : Value), BindsTo s fd ⟨[v], []⟩ [("_law_script", v)]) ∧ ∀ base : Heap, K.In base → base.Ns mainGlobals mg → FnOk P w K mg base CX0 14 fa fd ["_law_script"] (sp_law K) := by
  obtain ⟨T, e1, e2⟩ := mk_txt X G h_Fallings h_HostError h_NoBattle h_NoPlan pf_Fallings_init pf_Fallings_many ic_NoBattle l_NoBattle_init c_NoBattle_init k_NoBattle_init a_is_number l_is_number c_is_number k_is_number a_are_numbers l_are_numbers c_are_numbers k_are_numbers a_is_rule l_is_rule c_is_rule k_is_rule a_is_field l_is_field c_is_field k_is_field a_look_battle l_look_battle c_look_battle k_look_battle a_paid l_paid c_paid k_paid a_must_be_sizes l_must_be_sizes c_must_be_sizes k_must_be_sizes l_Fallings_init c_Fallings_init k_Fallings_init l_Fallings_many c_Fallings_many k_Fallings_many a_counts_many l_counts_many c_counts_many k_counts_many a_counts_of l_counts_of c_counts_of k_counts_of a_is_alike l_is_alike c_is_alike k_is_alike a_must_be_alike l_must_be_alike c_must_be_alike k_must_be_alike a_met l_met c_met k_met a_all_counts l_all_counts c_all_counts k_all_counts a_table_by_counts l_table_by_counts c_table_by_counts k_table_by_counts a_counts_table l_counts_table c_counts_table k_counts_table a_l_purse l_l_purse c_l_purse k_l_purse a_l_draw l_l_draw c_l_draw k_l_draw a_l_whole l_l_whole c_l_whole k_l_whole a_l_numbers l_l_numbers c_l_numbers k_l_numbers a_l_field l_l_field c_l_field k_l_field a_l_copy l_l_copy c_l_copy k_l_copy a_l_pay l_l_pay c_l_pay k_l_pay a_l_all l_l_all c_l_all k_l_all a_l_pairs l_l_pairs c_l_pairs k_l_pairs a_l_won l_l_won c_l_won k_l_won a_l_due l_l_due c_l_due k_l_due a_l_right l_l_right c_l_right k_l_right a_law l_law c_law k_law z_bool z_int z_isinstance z_len z_list z_max z_min z_range z_sum pg_Fallings ph_Fallings po_Fallings ps_Fallings pm_Fallings pk_Fallings pn_Fallings_init pp_Fallings_init pn_Fallings_many pp_Fallings_many pa_Fallings_known h_MOST_HOSTS_fields h_MOST_FIELDS_fields h_MOST_HOSTS_plans h_MOST_FIELDS_plans i_HostError t_HostError y_HostError i_NoBattle t_NoBattle y_NoBattle i_NoPlan t_NoPlan y_NoPlan x_NoPlan k_NoPlan hg_NoPlan hk_NoPlan hd_NoPlan ha_NoPlan hm_NoPlan v_NoPlan s_NoPlan_HostError s_NoPlan_NoBattle s_NoPlan_NoPlan oc_NoBattle sa_NoBattle ti_NoBattle no_NoBattle_field rd_HostError ga_HostError fc_HostError k_NoBattle hg_NoBattle hk_NoBattle hd_NoBattle ha_NoBattle hm_NoBattle v_NoBattle s_NoBattle_HostError s_NoBattle_NoBattle s_NoBattle_NoPlan ho_n ho_t
  have e := hfa.symm.trans (PySem.W.mg_of X G a_law)
  cases e
  exact ⟨T.d_law, e2, fun base _ _ => e1 ▸ ok_law T⟩
end K43
open PySem PySem.W PyProof.Rows
set_option maxHeartbeats 0 in
theorem PySem.Challenge.cw_hostfields_k43_tables_by_counts_holds : PySem.Challenge.rw_hostfields_k43_tables_by_counts.Holds := by
  w_on; o_law; k_head; (case hw => w_witness2)
  k_fill
  refine L2.walk_of (l := PySem.Challenge.rw_hostfields_k43_tables_by_counts) (n := 63) (k := 14) (x := "_law_script") (CX := fun _ => L2.CX0) (sp := fun w => K43.sp_law _) rfl (by decide) rfl ⟨rfl, by decide, by decide⟩ (fun w h Y => PySem.W.kIn_of Y) ?F (fun _ _ a ns hl _ hS => ⟨a, ns, rfl, hS, hl, fun _ => rfl⟩) (fun _ _ _ _ _ h => h)
  case F =>
    intro w mg fa h KX G hmg
    refine' K43.all_mk KX G hmg ?h_Fallings ?h_HostError ?h_NoBattle ?h_NoPlan ?pf_Fallings_init ?pf_Fallings_many ?ic_NoBattle ?l_NoBattle_init ?c_NoBattle_init ?k_NoBattle_init ?a_is_number ?l_is_number ?c_is_number ?k_is_number ?a_are_numbers ?l_are_numbers ?c_are_numbers ?k_are_numbers ?a_is_rule ?l_is_rule ?c_is_rule ?k_is_rule ?a_is_field ?l_is_field ?c_is_field ?k_is_field ?a_look_battle ?l_look_battle ?c_look_battle ?k_look_battle ?a_paid ?l_paid ?c_paid ?k_paid ?a_must_be_sizes ?l_must_be_sizes ?c_must_be_sizes ?k_must_be_sizes ?l_Fallings_init ?c_Fallings_init ?k_Fallings_init ?l_Fallings_many ?c_Fallings_many ?k_Fallings_many ?a_counts_many ?l_counts_many ?c_counts_many ?k_counts_many ?a_counts_of ?l_counts_of ?c_counts_of ?k_counts_of ?a_is_alike ?l_is_alike ?c_is_alike ?k_is_alike ?a_must_be_alike ?l_must_be_alike ?c_must_be_alike ?k_must_be_alike ?a_met ?l_met ?c_met ?k_met ?a_all_counts ?l_all_counts ?c_all_counts ?k_all_counts ?a_table_by_counts ?l_table_by_counts ?c_table_by_counts ?k_table_by_counts ?a_counts_table ?l_counts_table ?c_counts_table ?k_counts_table ?a_l_purse ?l_l_purse ?c_l_purse ?k_l_purse ?a_l_draw ?l_l_draw ?c_l_draw ?k_l_draw ?a_l_whole ?l_l_whole ?c_l_whole ?k_l_whole ?a_l_numbers ?l_l_numbers ?c_l_numbers ?k_l_numbers ?a_l_field ?l_l_field ?c_l_field ?k_l_field ?a_l_copy ?l_l_copy ?c_l_copy ?k_l_copy ?a_l_pay ?l_l_pay ?c_l_pay ?k_l_pay ?a_l_all ?l_l_all ?c_l_all ?k_l_all ?a_l_pairs ?l_l_pairs ?c_l_pairs ?k_l_pairs ?a_l_won ?l_l_won ?c_l_won ?k_l_won ?a_l_due ?l_l_due ?c_l_due ?k_l_due ?a_l_right ?l_l_right ?c_l_right ?k_l_right ?a_law ?l_law ?c_law ?k_law ?z_bool ?z_int ?z_isinstance ?z_len ?z_list ?z_max ?z_min ?z_range ?z_sum ?pg_Fallings ?ph_Fallings ?po_Fallings ?ps_Fallings ?pm_Fallings ?pk_Fallings ?pn_Fallings_init ?pp_Fallings_init ?pn_Fallings_many ?pp_Fallings_many ?pa_Fallings_known ?h_MOST_HOSTS_fields ?h_MOST_FIELDS_fields ?h_MOST_HOSTS_plans ?h_MOST_FIELDS_plans ?i_HostError ?t_HostError ?y_HostError ?i_NoBattle ?t_NoBattle ?y_NoBattle ?i_NoPlan ?t_NoPlan ?y_NoPlan ?x_NoPlan ?k_NoPlan ?hg_NoPlan ?hk_NoPlan ?hd_NoPlan ?ha_NoPlan ?hm_NoPlan ?v_NoPlan ?s_NoPlan_HostError ?s_NoPlan_NoBattle ?s_NoPlan_NoPlan ?oc_NoBattle ?sa_NoBattle ?ti_NoBattle ?no_NoBattle_field ?rd_HostError ?ga_HostError ?fc_HostError ?k_NoBattle ?hg_NoBattle ?hk_NoBattle ?hd_NoBattle ?ha_NoBattle ?hm_NoBattle ?v_NoBattle ?s_NoBattle_HostError ?s_NoBattle_NoBattle ?s_NoBattle_NoPlan ?ho_n ?ho_t
    (case h_Fallings => k_is); (case h_HostError => k_is); (case h_NoBattle => k_is); (case h_NoPlan => k_is); (case pf_Fallings_init => k_is); (case pf_Fallings_many => k_is); (case ic_NoBattle => k_is); (case l_NoBattle_init => k_is); (case c_NoBattle_init => k_is); (case k_NoBattle_init => k_is); (case a_is_number => k_is); (case l_is_number => k_is); (case c_is_number => k_is); (case k_is_number => k_is); (case a_are_numbers => k_is); (case l_are_numbers => k_is); (case c_are_numbers => k_is); (case k_are_numbers => k_is); (case a_is_rule => k_is); (case l_is_rule => k_is); (case c_is_rule => k_is); (case k_is_rule => k_is); (case a_is_field => k_is); (case l_is_field => k_is); (case c_is_field => k_is); (case k_is_field => k_is); (case a_look_battle => k_is); (case l_look_battle => k_is); (case c_look_battle => k_is); (case k_look_battle => k_is); (case a_paid => k_is); (case l_paid => k_is); (case c_paid => k_is); (case k_paid => k_is); (case a_must_be_sizes => k_is); (case l_must_be_sizes => k_is); (case c_must_be_sizes => k_is); (case k_must_be_sizes => k_is); (case l_Fallings_init => k_is); (case c_Fallings_init => k_is); (case k_Fallings_init => k_is); (case l_Fallings_many => k_is); (case c_Fallings_many => k_is); (case k_Fallings_many => k_is); (case a_counts_many => k_is); (case l_counts_many => k_is); (case c_counts_many => k_is); (case k_counts_many => k_is); (case a_counts_of => k_is); (case l_counts_of => k_is); (case c_counts_of => k_is); (case k_counts_of => k_is); (case a_is_alike => k_is); (case l_is_alike => k_is); (case c_is_alike => k_is); (case k_is_alike => k_is); (case a_must_be_alike => k_is); (case l_must_be_alike => k_is); (case c_must_be_alike => k_is); (case k_must_be_alike => k_is); (case a_met => k_is); (case l_met => k_is); (case c_met => k_is); (case k_met => k_is); (case a_all_counts => k_is); (case l_all_counts => k_is); (case c_all_counts => k_is); (case k_all_counts => k_is); (case a_table_by_counts => k_is); (case l_table_by_counts => k_is); (case c_table_by_counts => k_is); (case k_table_by_counts => k_is); (case a_counts_table => k_is); (case l_counts_table => k_is); (case c_counts_table => k_is); (case k_counts_table => k_is); (case a_l_purse => k_is); (case l_l_purse => k_is); (case c_l_purse => k_is); (case k_l_purse => k_is); (case a_l_draw => k_is); (case l_l_draw => k_is); (case c_l_draw => k_is); (case k_l_draw => k_is); (case a_l_whole => k_is); (case l_l_whole => k_is); (case c_l_whole => k_is); (case k_l_whole => k_is); (case a_l_numbers => k_is); (case l_l_numbers => k_is); (case c_l_numbers => k_is); (case k_l_numbers => k_is); (case a_l_field => k_is); (case l_l_field => k_is); (case c_l_field => k_is); (case k_l_field => k_is); (case a_l_copy => k_is); (case l_l_copy => k_is); (case c_l_copy => k_is); (case k_l_copy => k_is); (case a_l_pay => k_is); (case l_l_pay => k_is); (case c_l_pay => k_is); (case k_l_pay => k_is); (case a_l_all => k_is); (case l_l_all => k_is); (case c_l_all => k_is); (case k_l_all => k_is); (case a_l_pairs => k_is); (case l_l_pairs => k_is); (case c_l_pairs => k_is); (case k_l_pairs => k_is); (case a_l_won => k_is); (case l_l_won => k_is); (case c_l_won => k_is); (case k_l_won => k_is); (case a_l_due => k_is); (case l_l_due => k_is); (case c_l_due => k_is); (case k_l_due => k_is); (case a_l_right => k_is); (case l_l_right => k_is); (case c_l_right => k_is); (case k_l_right => k_is); (case a_law => k_is); (case l_law => k_is); (case c_law => k_is); (case k_law => k_is); (case z_bool => k_is); (case z_int => k_is); (case z_isinstance => k_is); (case z_len => k_is); (case z_list => k_is); (case z_max => k_is); (case z_min => k_is); (case z_range => k_is); (case z_sum => k_is); (case pg_Fallings => k_is); (case ph_Fallings => k_is); (case po_Fallings => k_is); (case ps_Fallings => k_is); (case pm_Fallings => k_is); (case pk_Fallings => k_is); (case pn_Fallings_init => k_is); (case pp_Fallings_init => k_is); (case pn_Fallings_many => k_is); (case pp_Fallings_many => k_is); (case pa_Fallings_known => k_is); (case h_MOST_HOSTS_fields => k_is); (case h_MOST_FIELDS_fields => k_is); (case h_MOST_HOSTS_plans => k_is); (case h_MOST_FIELDS_plans => k_is); (case i_HostError => k_is); (case t_HostError => k_is); (case y_HostError => k_is); (case i_NoBattle => k_is); (case t_NoBattle => k_is); (case y_NoBattle => k_is); (case i_NoPlan => k_is); (case t_NoPlan => k_is); (case y_NoPlan => k_is); (case x_NoPlan => k_exc); (case k_NoPlan => k_is); (case hg_NoPlan => k_is); (case hk_NoPlan => k_is); (case hd_NoPlan => k_is); (case ha_NoPlan => k_is); (case hm_NoPlan => k_is); (case v_NoPlan => k_is); (case s_NoPlan_HostError => k_is); (case s_NoPlan_NoBattle => k_is); (case s_NoPlan_NoPlan => k_is); (case oc_NoBattle => k_is); (case sa_NoBattle => k_is); (case ti_NoBattle => k_is); (case no_NoBattle_field => k_is); (case rd_HostError => k_is); (case ga_HostError => k_is); (case fc_HostError => k_is); (case k_NoBattle => k_is); (case hg_NoBattle => k_is); (case hk_NoBattle => k_is); (case hd_NoBattle => k_is); (case ha_NoBattle => k_is); (case hm_NoBattle => k_is); (case v_NoBattle => k_is); (case s_NoBattle_HostError => k_is); (case s_NoBattle_NoBattle => k_is); (case s_NoBattle_NoPlan => k_is); (case ho_n => k_is); (case ho_t => k_is)

