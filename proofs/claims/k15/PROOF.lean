import PyProof.Rows.All
import Wide.All
import OpenK.AllK
import Wide.FinOn
import HandS.ForMost
import HandS.Wide
import HandS.IsInst
import HandS.TupAny
import HandS.TryOnly
import HandS.Conv
import HandS.SortKw
import HandS.Exc
import HandS.ExcIs
import HandS.ExcOwn
import HandS.WordsExc
import KE.KExcIs
import PySem.Challenge.RW_hostfields_k15_whole_counts_by_numbers
set_option Elab.async false
set_option linter.all false
set_option maxRecDepth 100000
set_option maxHeartbeats 4000000
/-! ## the engine: the readings, one step a lemma; «walk_at "go"» walks as far as it goes -/
namespace Hf
open PySem PySem.Spec PyProof.Rows L2
/-- every tracked object but the one at a is as it was -/
def But (a : Addr) (H H' : Hp) : Prop := ∀ b o, b ≠ a → H b = some o → H' b = some o
theorem But.same {a : Addr} {H H' : Hp} (e : Same H H') : But a H H' := fun b o _ h => e b o h
theorem But.refl (a : Addr) (H : Hp) : But a H H := fun _ _ _ h => h
theorem But.trans {a : Addr} {H H1 H2 : Hp} (x : But a H H1) (y : But a H1 H2) : But a H H2 := fun b o n h => y b o n (x b o n h)
theorem But.upd {a : Addr} {H H1 : Hp} {o : HO} (x : But a H H1) : But a H (upd H1 a o) := fun b u n h => by
  rw [upd_ne n]
  exact x b u n h
theorem But.new {a p : Addr} {H H1 : Hp} {o : HO} (x : But a H H1) (hp : H1 p = none) : But a H (L2.upd H1 p o) := fun b u n h => by
  have h1 := x b u n h
  rw [upd_ne (ne_of_none h1 hp)]
  exact h1
theorem But.to_same {a : Addr} {H H' : Hp} (x : But a H H') (n : H a = none) : Same H H' := fun b o h => x b o (ne_of_none h n) h
theorem Same.new {H : Hp} {p : Addr} {o : HO} (hp : H p = none) : Same H (upd H p o) := fun b u h => by
  rw [upd_ne (ne_of_none h hp)]
  exact h
theorem Same.newT {H0 H : Hp} {p : Addr} {o : HO} (e : Same H0 H) (hp : H p = none) : Same H0 (upd H p o) := e.trans (Same.new hp)
/-- a change at an object that H0 does not know -/
theorem Same.mut {H0 H : Hp} {p : Addr} {o : HO} (e : Same H0 H) (hp : H0 p = none) : Same H0 (upd H p o) := fun b u h => by
  rw [upd_ne (ne_of_none h hp)]
  exact e b u h
theorem Same.but {H0 H H1 : Hp} {p : Addr} (e : Same H0 H) (hp : H0 p = none) (x : But p H H1) : Same H0 H1 := fun b u h => x b u (ne_of_none h hp) (e b u h)
theorem Same.seqT {K : PySem.W.Frag} {H H' : Hp} {a : Addr} {xs : List V} (e : Same H H') (h : SqT K H a xs) : SqT K H' a xs := by
  rcases h with (h | ⟨o, h⟩) | h
  · exact .inl (.inl (e _ _ h))
  · exact .inl (.inr ⟨o, e _ _ h⟩)
  · exact .inr h
theorem But.seq {K : PySem.W.Frag} {H H' : Hp} {a b : Addr} {xs : List V} (e : But a H H') (n : b ≠ a) (h : SqL K H b xs) : SqL K H' b xs := by
  rcases h with (h | ⟨o, h⟩) | h
  · exact .inl (.inl (e _ _ n h))
  · exact .inl (.inr ⟨o, e _ _ n h⟩)
  · exact .inr h
theorem But.seqT {K : PySem.W.Frag} {H H' : Hp} {a b : Addr} {xs : List V} (e : But a H H') (n : b ≠ a) (h : SqT K H b xs) : SqT K H' b xs := by
  rcases h with (h | ⟨o, h⟩) | h
  · exact .inl (.inl (e _ _ n h))
  · exact .inl (.inr ⟨o, e _ _ n h⟩)
  · exact .inr h
/-- a guard: its way is barred where P is at hand -/
def Guard (_ : Prop) : Prop := True
theorem Guard.of {P : Prop} (_ : P) : Guard P := trivial
theorem lk_upd {H : Hp} {a b : Addr} {o u : HO} (n : b ≠ a) (h : H b = some u) : upd H a o b = some u := by
  rw [upd_ne n]
  exact h
theorem lk_new {H : Hp} {a b : Addr} {o u : HO} (n : H a = none) (h : H b = some u) : upd H a o b = some u := by
  rw [upd_ne (ne_of_none h n)]
  exact h
theorem lk_updG {H : Hp} {a b : Addr} {o u : HO} (_ : Guard (H a = none)) (n : b ≠ a) (h : H b = some u) : upd H a o b = some u := lk_upd n h
theorem lk_none {H H' : Hp} {a : Addr} (e : Same H H') (n : H' a = none) : H a = none := e.free n
theorem lkL_new {K : PySem.W.Frag} {H : Hp} {a b : Addr} {o : HO} {xs : List V} (n : H a = none) (h : SqL K H b xs) : SqL K (upd H a o) b xs := (Same.new n).seq h
theorem lkT_new {K : PySem.W.Frag} {H : Hp} {a b : Addr} {o : HO} {xs : List V} (n : H a = none) (h : SqT K H b xs) : SqT K (upd H a o) b xs := Same.seqT (Same.new n) h
theorem lkL_upd {K : PySem.W.Frag} {H : Hp} {a b : Addr} {o : HO} {xs : List V} (n : b ≠ a) (h : SqL K H b xs) : SqL K (upd H a o) b xs := But.seq (But.upd (But.refl a H)) n h
theorem lkT_upd {K : PySem.W.Frag} {H : Hp} {a b : Addr} {o : HO} {xs : List V} (n : b ≠ a) (h : SqT K H b xs) : SqT K (upd H a o) b xs := But.seqT (But.upd (But.refl a H)) n h
theorem lkL_updG {K : PySem.W.Frag} {H : Hp} {a b : Addr} {o : HO} {xs : List V} (_ : Guard (H a = none)) (n : b ≠ a) (h : SqL K H b xs) : SqL K (upd H a o) b xs := lkL_upd n h
theorem lkT_updG {K : PySem.W.Frag} {H : Hp} {a b : Addr} {o : HO} {xs : List V} (_ : Guard (H a = none)) (n : b ≠ a) (h : SqT K H b xs) : SqT K (upd H a o) b xs := lkT_upd n h
theorem ne_new {H : Hp} {a b : Addr} {o : HO} (n : H b = none) (h : H a = some o) : a ≠ b := ne_of_none h n
theorem ne_new' {H : Hp} {a b : Addr} {o : HO} (n : H b = none) (h : H a = some o) : b ≠ a := (ne_of_none h n).symm
theorem ne_at {α : Type} {a b : α} (h : a ≠ b) : b ≠ a := h.symm
/-! ### sizes -/
theorem sz4 {n : Nat} (h : n ≤ 1000000) : n ≤ sizeLine := Nat.le_trans h (by decide)
theorem sz4' {n : Nat} (h : n ≤ 1000000) : n < sizeLine := Nat.lt_of_le_of_lt h (by decide)
/-! ### two operators, wider -/
def CMulA (i j : Int) : Prop := CMul i j ∨ CMulW i j
theorem CMulA.ok {i j : Int} (h : CMulA i j) : IntMulOk i j := h.elim CMul.ok CMulW.ok
theorem op_mulA {X : Cx} : OpR X (binaryOp .Mult) (rI CMulA fun i j => .int (i * j)) := opI fun _ _ _ _ _ _ _ hc q => mul_int q hc.ok
def CDivA (_ j : Int) : Prop := j ≠ 0 ∧ j.natAbs.log2 < 9000
theorem op_fdivA {X : Cx} : OpR X (binaryOp .FloorDiv) (rI CDivA fun i j => .int (i.fdiv j)) := opI fun _ _ _ _ _ _ _ hc q => floordiv_int hc.1 q (.inl (PyProof.noPylong_of_log2 hc.2))
theorem mulL {i j : Int} (h : -(2 ^ 64) < i ∧ i < 2 ^ 64) : CMulA i j := .inl (.inl h)
theorem mulR {i j : Int} (h : -(2 ^ 64) < j ∧ j < 2 ^ 64) : CMulA i j := .inl (.inr h)
theorem log_lt {j : Int} {b : Nat} (h : j.natAbs < 2 ^ b) (h0 : 0 < b) (h9 : b ≤ 9000) : j.natAbs.log2 < 9000 := Nat.lt_of_lt_of_le (PySem.Flt.log2_lt_of h0 h) h9
theorem log_small {j : Int} (h : -(2 ^ 200) < j ∧ j < 2 ^ 200) : j.natAbs.log2 < 9000 := log_lt (b := 200) (by omega) (by decide) (by decide)
theorem mulW {i j : Int} {a b : Nat} (ha : i.natAbs < 2 ^ a) (hb : j.natAbs < 2 ^ b) (h0 : 0 < a) (h1 : 0 < b) (h : a + b ≤ 1000000) : CMulA i j := .inr (wide_mul ha hb h0 h1 h)
theorem divS {i j : Int} (h0 : j ≠ 0) (h : -(2 ^ 200) < j ∧ j < 2 ^ 200) : CDivA i j := ⟨h0, log_small h⟩
/-! ### the steps -/
section
variable {σ σ' : L2.St} {H : Hp} {Q : VK} {x y v : V} {i j : Int} {n : Nat} {nx bk ct : L2.St → Hp → Prop} {rt : VK} {K : PySem.W.Frag} {a p : Addr} {xs : List V}
theorem start_to {N : List Str} {vs : List V} {t : TS} {D : Ends} (e : start N vs = σ) (h : t D σ H) : t D (start N vs) H := by
  rw [e]
  exact h
theorem i_ends {t : TS} {rt : VK} (h : t ⟨fun _ H' => rt .non H', rt, fun _ _ => False, fun _ _ => False⟩ σ H) : t { nx := fun _ H' => rt .non H', rt := rt } σ H := h
theorem i_seq {t u : TS} (h : t ⟨u ⟨nx, rt, bk, ct⟩, rt, bk, ct⟩ σ H) : tSeq t u ⟨nx, rt, bk, ct⟩ σ H := h
theorem i_asg {te : TE} {g : TG} (h : te σ H fun x H1 => g x σ H1 nx) : tAsg te g ⟨nx, rt, bk, ct⟩ σ H := h
theorem i_gname {k : Nat} {Z : L2.St → Hp → Prop} (e : σ.set k (some v) = σ') (q : Z σ' H) : gName k v σ H Z := by
  subst e
  exact q
theorem i_ret {te : TE} (h : te σ H rt) : tRet te ⟨nx, rt, bk, ct⟩ σ H := h
theorem i_retN (h : rt .non H) : tRetN ⟨nx, rt, bk, ct⟩ σ H := h
theorem i_next (h : nx σ H) : tNext ⟨nx, rt, bk, ct⟩ σ H := h
theorem i_brk (h : bk σ H) : tBreak ⟨nx, rt, bk, ct⟩ σ H := h
theorem i_cnt (h : ct σ H) : tCont ⟨nx, rt, bk, ct⟩ σ H := h
theorem i_drop {te : TE} (h : te σ H fun _ H1 => nx σ H1) : tDrop te ⟨nx, rt, bk, ct⟩ σ H := h
theorem i_ifs {c : TT} {t u : TS} (h : c σ H fun b H1 => if b = true then t ⟨nx, rt, bk, ct⟩ σ H1 else u ⟨nx, rt, bk, ct⟩ σ H1) : tIfS c t u ⟨nx, rt, bk, ct⟩ σ H := h
theorem i_var {k : Nat} (h : σ[k]? = some (some v)) (q : Q v H) : tVar k σ H Q := ⟨v, h, q⟩
theorem i_c (q : Q v H) : tC v σ H Q := q
theorem i_op {r : R2} {ta tb : TE} (h : ta σ H fun x H1 => tb σ H1 fun y H2 => r x y H2 Q) : tOp r ta tb σ H Q := h
theorem i_un {r : V → Hp → VK → Prop} {ta : TE} (h : ta σ H fun x H1 => r x H1 Q) : tUn r ta σ H Q := h
theorem i_I0 {g : Int → Int → V} (q : Q (g i j) H) : rI0 g (.int i) (.int j) H Q := ⟨i, j, rfl, rfl, q⟩
theorem i_I {C : Int → Int → Prop} {g : Int → Int → V} (c : C i j) (q : Q (g i j) H) : rI C g (.int i) (.int j) H Q := ⟨i, j, rfl, rfl, c, q⟩
theorem i_pow {m : Int} (c : CPow i j) (e : i ^ j.toNat = m) (q : Q (.int m) H) : rI CPow (fun i j => .int (i ^ j.toNat)) (.int i) (.int j) H Q := ⟨i, j, rfl, rfl, c, by
  show Q (.int (i ^ j.toNat)) H
  rw [e]
  exact q⟩
theorem i_U {g : Int → V} (q : Q (g i) H) : rU g (.int i) H Q := ⟨i, rfl, q⟩
theorem i_eqI (q : Q (.bl (decide (i = j))) H) : rEq (.int i) (.int j) H Q := ⟨rfl, by
  have e : decide (V.int i = V.int j) = decide (i = j) := by
    by_cases h : i = j
    · rw [decide_eq_true h, decide_eq_true (congrArg V.int h)]
    · rw [decide_eq_false h, decide_eq_false fun z => h (V.int.inj z)]
  rw [e]
  exact q⟩
theorem i_neI (q : Q (.bl (!decide (i = j))) H) : rNe (.int i) (.int j) H Q := ⟨rfl, by
  have e : decide (V.int i = V.int j) = decide (i = j) := by
    by_cases h : i = j
    · rw [decide_eq_true h, decide_eq_true (congrArg V.int h)]
    · rw [decide_eq_false h, decide_eq_false fun z => h (V.int.inj z)]
  rw [e]
  exact q⟩
theorem i_eqB {c d : Bool} (q : Q (.bl (c == d)) H) : rEq (.bl c) (.bl d) H Q := ⟨rfl, by
  rw [dec_bl]
  exact q⟩
theorem i_neB {c d : Bool} (q : Q (.bl (!(c == d))) H) : rNe (.bl c) (.bl d) H Q := ⟨rfl, by
  rw [dec_bl]
  exact q⟩
theorem i_eqS {c d : Str} (q : Q (.bl (c == d)) H) : rEq (.str c) (.str d) H Q := ⟨rfl, by
  rw [dec_str]
  exact q⟩
theorem i_neS {c d : Str} (q : Q (.bl (!(c == d))) H) : rNe (.str c) (.str d) H Q := ⟨rfl, by
  rw [dec_str]
  exact q⟩
theorem i_test {te : TE} {P : Bool → Hp → Prop} (h : te σ H fun x H1 => ∃ k, x = .bl k ∧ P k H1) : tTest te σ H P := h
theorem i_B {te : TE} {P : Bool → Hp → Prop} (h : te σ H fun x H1 => ∃ k, x = .bl k ∧ P k H1) : tB te σ H P := h
theorem i_bl {b : Bool} {P : Bool → Prop} (q : P b) : ∃ k, V.bl b = .bl k ∧ P k := ⟨b, rfl, q⟩
theorem i_and {t u : TT} {P : Bool → Hp → Prop} (h : t σ H fun c H1 => if c = true then u σ H1 P else P false H1) : tAnd t u σ H P := h
theorem i_or {t u : TT} {P : Bool → Hp → Prop} (h : t σ H fun c H1 => if c = true then P true H1 else u σ H1 P) : tOr t u σ H P := h
theorem i_not {t : TT} {P : Bool → Hp → Prop} (h : t σ H fun c H1 => P (!c) H1) : tNot t σ H P := h
theorem i_andV {ta tb : TE} (h : ta σ H fun x H1 => ∃ c, x = .bl c ∧ if c = true then tb σ H1 Q else Q (.bl false) H1) : tAndV ta tb σ H Q := h
theorem i_orV {ta tb : TE} (h : ta σ H fun x H1 => ∃ c, x = .bl c ∧ if c = true then Q (.bl true) H1 else tb σ H1 Q) : tOrV ta tb σ H Q := h
theorem i_notV {ta : TE} (h : ta σ H fun x H1 => ∃ c, x = .bl c ∧ Q (.bl (!c)) H1) : tNotV ta σ H Q := h
theorem i_ife {t : TT} {ta tb : TE} (h : t σ H fun c H1 => if c = true then ta σ H1 Q else tb σ H1 Q) : tIf t ta tb σ H Q := h
theorem i_call {sp : Sp} {E : XK} {t : TA} (h : t σ H fun vs H1 => sp vs H1 Q E) : tCall sp [] E t σ H Q := by
  have e : (fun vs H1 => sp (vs ++ []) H1 Q E) = fun vs H1 => sp vs H1 Q E := by
    funext vs H1
    rw [List.append_nil]
  show t σ H (fun vs H1 => sp (vs ++ []) H1 Q E)
  rw [e]
  exact h
theorem i_cb {r : List V → Hp → VK → Prop} {t : TA} (h : t σ H fun vs H1 => r vs H1 Q) : tCB r t σ H Q := h
theorem i_nil {P : List V → Hp → Prop} (q : P [] H) : tNil σ H P := q
theorem i_cons {ta : TE} {tr : TA} {P : List V → Hp → Prop} (h : ta σ H fun x H1 => tr σ H1 fun xs H2 => P (x :: xs) H2) : tCons ta tr σ H P := h
theorem i_tup {t : TA} (h : t σ H fun xs H1 => xs.length ≤ sizeLine ∧ ∀ p, H1 p = none → Q (.ref p) (upd H1 p (.tup xs))) : tTup t σ H Q := h
theorem i_lst {t : TA} (h : t σ H fun xs H1 => xs.length ≤ sizeLine ∧ ∀ p, H1 p = none → Q (.ref p) (upd H1 p (.lst xs))) : tLst t σ H Q := h
theorem i_new {R : Addr → Prop} (hz : xs.length ≤ sizeLine) (q : ∀ p, H p = none → R p) : xs.length ≤ sizeLine ∧ ∀ p, H p = none → R p := ⟨hz, q⟩
theorem i_ixL (h : SqL K H p xs) (e : atI xs i = some v) (q : Q v H) : rIxL K (.ref p) (.int i) H Q := ⟨p, xs, i, v, rfl, rfl, h, e, q⟩
theorem i_ixT (h : SqT K H p xs) (e : atI xs i = some v) (q : Q v H) : rIxT K (.ref p) (.int i) H Q := ⟨p, xs, i, v, rfl, rfl, h, e, q⟩
theorem at_lt {α : Type} {xs : List α} {i : Int} (h0 : 0 ≤ i) (h1 : i < xs.length) : ∃ v, atI xs i = some v ∧ xs[i.toNat]? = some v := by
  have hk : i.toNat < xs.length := by omega
  refine ⟨xs[i.toNat], ?_, List.getElem?_eq_getElem hk⟩
  have e := atI_nat (xs := xs) (j := i.toNat) (v := xs[i.toNat]) (List.getElem?_eq_getElem hk)
  rw [Int.toNat_of_nonneg h0] at e
  exact e
/-- an item at an open place: one of those written -/
theorem i_ix2 {y1 y2 : V} (h : SqL K H p [y1, y2]) (h0 : 0 ≤ i) (h1 : i < 2) (q : ∀ v, v = y1 ∨ v = y2 → Q v H) : rIxL K (.ref p) (.int i) H Q := by
  rcases (by omega : i = 0 ∨ i = 1) with e | e <;> subst e
  · exact ⟨p, _, _, y1, rfl, rfl, h, rfl, q _ (.inl rfl)⟩
  · exact ⟨p, _, _, y2, rfl, rfl, h, rfl, q _ (.inr rfl)⟩
theorem i_ix2I {y1 y2 : Int} (h : SqL K H p [.int y1, .int y2]) (h0 : 0 ≤ i) (h1 : i < 2) (q : ∀ v, v = y1 ∨ v = y2 → Q (.int v) H) : rIxL K (.ref p) (.int i) H Q := by
  rcases (by omega : i = 0 ∨ i = 1) with e | e <;> subst e
  · exact ⟨p, _, _, .int y1, rfl, rfl, h, rfl, q _ (.inl rfl)⟩
  · exact ⟨p, _, _, .int y2, rfl, rfl, h, rfl, q _ (.inr rfl)⟩
theorem i_ix3I {y1 y2 y3 : Int} (h : SqL K H p [.int y1, .int y2, .int y3]) (h0 : 0 ≤ i) (h1 : i < 3) (q : ∀ v, v = y1 ∨ v = y2 ∨ v = y3 → Q (.int v) H) : rIxL K (.ref p) (.int i) H Q := by
  rcases (by omega : i = 0 ∨ i = 1 ∨ i = 2) with e | e | e <;> subst e
  · exact ⟨p, _, _, .int y1, rfl, rfl, h, rfl, q _ (.inl rfl)⟩
  · exact ⟨p, _, _, .int y2, rfl, rfl, h, rfl, q _ (.inr (.inl rfl))⟩
  · exact ⟨p, _, _, .int y3, rfl, rfl, h, rfl, q _ (.inr (.inr rfl))⟩
theorem i_ix4I {y1 y2 y3 y4 : Int} (h : SqL K H p [.int y1, .int y2, .int y3, .int y4]) (h0 : 0 ≤ i) (h1 : i < 4) (q : ∀ v, v = y1 ∨ v = y2 ∨ v = y3 ∨ v = y4 → Q (.int v) H) : rIxL K (.ref p) (.int i) H Q := by
  rcases (by omega : i = 0 ∨ i = 1 ∨ i = 2 ∨ i = 3) with e | e | e | e <;> subst e
  · exact ⟨p, _, _, .int y1, rfl, rfl, h, rfl, q _ (.inl rfl)⟩
  · exact ⟨p, _, _, .int y2, rfl, rfl, h, rfl, q _ (.inr (.inl rfl))⟩
  · exact ⟨p, _, _, .int y3, rfl, rfl, h, rfl, q _ (.inr (.inr (.inl rfl)))⟩
  · exact ⟨p, _, _, .int y4, rfl, rfl, h, rfl, q _ (.inr (.inr (.inr rfl)))⟩
theorem i_ix3R {y1 y2 y3 : Addr} (h : SqL K H p [.ref y1, .ref y2, .ref y3]) (h0 : 0 ≤ i) (h1 : i < 3) (q : ∀ v, v = y1 ∨ v = y2 ∨ v = y3 → Q (.ref v) H) : rIxL K (.ref p) (.int i) H Q := by
  rcases (by omega : i = 0 ∨ i = 1 ∨ i = 2) with e | e | e <;> subst e
  · exact ⟨p, _, _, .ref y1, rfl, rfl, h, rfl, q _ (.inl rfl)⟩
  · exact ⟨p, _, _, .ref y2, rfl, rfl, h, rfl, q _ (.inr (.inl rfl))⟩
  · exact ⟨p, _, _, .ref y3, rfl, rfl, h, rfl, q _ (.inr (.inr rfl))⟩
theorem i_ix4R {y1 y2 y3 y4 : Addr} (h : SqL K H p [.ref y1, .ref y2, .ref y3, .ref y4]) (h0 : 0 ≤ i) (h1 : i < 4) (q : ∀ v, v = y1 ∨ v = y2 ∨ v = y3 ∨ v = y4 → Q (.ref v) H) : rIxL K (.ref p) (.int i) H Q := by
  rcases (by omega : i = 0 ∨ i = 1 ∨ i = 2 ∨ i = 3) with e | e | e | e <;> subst e
  · exact ⟨p, _, _, .ref y1, rfl, rfl, h, rfl, q _ (.inl rfl)⟩
  · exact ⟨p, _, _, .ref y2, rfl, rfl, h, rfl, q _ (.inr (.inl rfl))⟩
  · exact ⟨p, _, _, .ref y3, rfl, rfl, h, rfl, q _ (.inr (.inr (.inl rfl)))⟩
  · exact ⟨p, _, _, .ref y4, rfl, rfl, h, rfl, q _ (.inr (.inr (.inr rfl)))⟩
theorem i_gtup {m : Nat} {t : TGs} {Z : L2.St → Hp → Prop} (h : SqT K H p xs) (e : xs.length = m) (q : t xs σ H Z) : gTup K m t (.ref p) σ H Z := ⟨p, xs, rfl, h, e, q⟩
theorem i_gtupL {m : Nat} {t : TGs} {Z : L2.St → Hp → Prop} (h : SqT K H p xs) (e : xs.length = m) (q : t xs σ H Z) : gTup K m t (.ref p) σ H Z := ⟨p, xs, rfl, h, e, q⟩
theorem i_gcons {t : TG} {u : TGs} {r : List V} {Z : L2.St → Hp → Prop} (h : t v σ H fun σ1 H1 => u r σ1 H1 Z) : gCons t u (v :: r) σ H Z := ⟨v, r, rfl, h⟩
theorem i_gnil {Z : L2.St → Hp → Prop} (h : Z σ H) : gNil [] σ H Z := ⟨rfl, h⟩
theorem i_gsub {to ti : TE} {t : TSet} {Z : L2.St → Hp → Prop} (h : to σ H fun o H1 => ti σ H1 fun i H2 => t o i v H2 fun H3 => Z σ H3) : gSub to ti t v σ H Z := h
theorem i_setL {k : Nat} {Z : Hp → Prop} (h : H p = some (.lst xs)) (e : ixN xs.length i = some k) (q : Z (upd H p (.lst (xs.set k v)))) : rSetL (.ref p) (.int i) v H Z := ⟨p, xs, i, k, rfl, rfl, h, e, q⟩
def par2 (k1 k2 : Nat) (σ : L2.St) (Z : L2.St → Hp → Prop) : List V → Hp → Prop := fun vs H1 => ∃ v w, vs = [v, w] ∧ Z ((σ.set k1 (some v)).set k2 (some w)) H1
theorem i_par {k1 k2 : Nat} {ta : TA} (h : ta σ H (par2 k1 k2 σ nx)) : tPar k1 k2 ta ⟨nx, rt, bk, ct⟩ σ H := h
theorem i_par2 {k1 k2 : Nat} {w : V} {Z : L2.St → Hp → Prop} (e : (σ.set k1 (some v)).set k2 (some w) = σ') (q : Z σ' H) : par2 k1 k2 σ Z [v, w] H := by
  subst e
  exact ⟨v, w, rfl, q⟩
theorem i_aug {k : Nat} {te : TE} {ti : TIp} (h : σ[k]? = some (some x)) (q : te σ H fun y H1 => ti x y H1 fun z H2 => gName k z σ H2 nx) : tAug k te ti ⟨nx, rt, bk, ct⟩ σ H := ⟨x, h, q⟩
theorem i_ip {f : Int → Int → Int} (q : Q (.int (f i j)) H) : ipI f (.int i) (.int j) H Q := ⟨i, j, rfl, rfl, q⟩
theorem i_for {wi : TI} {g : TG} {tb : TS} (h : wi σ H fun J H1 => ∃ W : Nat → Nat → L2.St → Hp → Prop, (∃ m, W 0 m σ H1) ∧ ∀ i m σ H, W i m σ H →
  (J.stop i H ∧ nx σ H) ∨ (J.go i H ∧ ∃ N : L2.St → Hp → Prop, (∀ σ' H', N σ' H' → ∃ m', m' < m ∧ W (i + 1) m' σ' H') ∧ ∀ x H', J.yld i H x H' → g x σ H' fun σ2 H2 => tb ⟨N, rt, nx, N⟩ σ2 H2)) : tFor wi g tb ⟨nx, rt, bk, ct⟩ σ H := h
theorem i_rng1 {ta : TA} {R : It → Hp → Prop} (h : ta σ H fun vs H1 => ∃ j : Int, vs = [.int j] ∧ -(2 ^ 62) ≤ j ∧ j < 2 ^ 62 ∧ R (Itr 0 j.toNat) H1) : iRng1 ta σ H R := h
theorem i_rng1' {R : Int → Prop} (h1 : -(2 ^ 62) ≤ j) (h2 : j < 2 ^ 62) (q : R j) : ∃ j' : Int, [V.int j] = [.int j'] ∧ -(2 ^ 62) ≤ j' ∧ j' < 2 ^ 62 ∧ R j' := ⟨j, rfl, h1, h2, q⟩
theorem i_rng2 {ta : TA} {R : It → Hp → Prop} (h : ta σ H fun vs H1 => ∃ i j : Int, vs = [.int i, .int j] ∧ (-(2 ^ 62) ≤ i ∧ i < 2 ^ 62 ∧ -(2 ^ 62) ≤ j ∧ j < 2 ^ 62) ∧ R (Itr i (j - i).toNat) H1) : iRng2 ta σ H R := h
theorem i_rng2' {R : Int → Int → Prop} (h : -(2 ^ 62) ≤ i ∧ i < 2 ^ 62 ∧ -(2 ^ 62) ≤ j ∧ j < 2 ^ 62) (q : R i j) : ∃ i' j' : Int, [V.int i, V.int j] = [.int i', .int j'] ∧ (-(2 ^ 62) ≤ i' ∧ i' < 2 ^ 62 ∧ -(2 ^ 62) ≤ j' ∧ j' < 2 ^ 62) ∧ R i' j' := ⟨i, j, rfl, h, q⟩
theorem i_ilist {tl : TE} {R : It → Hp → Prop} (h : tl σ H fun x H1 => ∃ a, x = .ref a ∧ (∃ xs, SqL K H1 a xs) ∧ R (Itl K a) H1) : iList K tl σ H R := h
theorem i_ilist' {R : Addr → Prop} (h : SqL K H p xs) (q : R p) : ∃ a, V.ref p = .ref a ∧ (∃ xs, SqL K H a xs) ∧ R a := ⟨p, rfl, ⟨xs, h⟩, q⟩
theorem i_itup {tl : TE} {R : It → Hp → Prop} (h : tl σ H fun x H1 => ∃ a, x = .ref a ∧ (∃ xs, SqT K H1 a xs) ∧ R (Itt K a) H1) : iTup K tl σ H R := h
theorem i_itup' {R : Addr → Prop} (h : SqT K H p xs) (q : R p) : ∃ a, V.ref p = .ref a ∧ (∃ xs, SqT K H a xs) ∧ R a := ⟨p, rfl, ⟨xs, h⟩, q⟩
/-- built-ins by values -/
theorem i_abs {R : Int → Prop} (q : R i) : ∃ i', [V.int i] = [.int i'] ∧ R i' := ⟨i, rfl, q⟩
theorem i_int2 {R : Int → Int → Prop} (q : R i j) : ∃ i' j', [V.int i, V.int j] = [.int i', .int j'] ∧ R i' j' := ⟨i, j, rfl, q⟩

theorem i_int1 {R : Int → Prop} {S : Prop} (q : R i) : (∃ i', [V.int i] = [.int i'] ∧ R i') ∨ S := .inl ⟨i, rfl, q⟩
theorem i_intb {b : Bool} {R : Bool → Prop} {S : Prop} (q : R b) : S ∨ ∃ k, [V.bl b] = [.bl k] ∧ R k := .inr ⟨b, rfl, q⟩
theorem i_lenL {R : List V → Prop} (h : SqL K H p xs) (q : R xs) : ∃ p' ys, [V.ref p] = [.ref p'] ∧ (SqL K H p' ys ∨ SqT K H p' ys) ∧ R ys := ⟨p, xs, rfl, .inl h, q⟩
theorem i_lenT {R : List V → Prop} (h : SqT K H p xs) (q : R xs) : ∃ p' ys, [V.ref p] = [.ref p'] ∧ (SqL K H p' ys ∨ SqT K H p' ys) ∧ R ys := ⟨p, xs, rfl, .inr h, q⟩
theorem i_isi {t : String} {c : String} {b : Bool} (ty : TyX K H x (.type t)) (h : kitB t c = some b) (q : Q (.bl b) H) : rIsi K [x, .ty c] H Q := ⟨x, .ty c, .type t, .type c, b, rfl, .ty c, ty, kit_ty h, q⟩
theorem i_append (h : H p = some (.lst xs)) (hz : xs.length < sizeLine) (q : Q .non (upd H p (.lst (xs ++ [v])))) : rAppend (.ref p) [v] H Q := ⟨p, xs, v, rfl, rfl, h, hz, q⟩
theorem i_appendM {H : Hp} {Q : VK} {p : Addr} {ms : List Int} {z : Int} (h : H p = some (.lst (ms.map V.int))) (hz : ms.length < sizeLine) (q : Q .non (upd H p (.lst ((ms ++ [z]).map V.int)))) : rAppend (.ref p) [.int z] H Q := ⟨p, _, _, rfl, rfl, h, by rw [List.length_map]; exact hz, by rw [List.map_append] at q; exact q⟩
theorem i_bm {T : String} {r : V → List V → Hp → VK → Prop} {to : TE} {t : TA} (h : to σ H fun x H1 => tyV K T x H1 ∧ t σ H1 fun xs H2 => r x xs H2 Q) : tBM K T r to t σ H Q := h
theorem i_bm0 {T : String} {r : V → List V → Hp → VK → Prop} {to : TE} (h : to σ H fun x H1 => tyV K T x H1 ∧ r x [] H1 Q) : tBM0 K T r to σ H Q := h
theorem i_bmL {A : Prop} (h : SqL K H p xs) (q : A) : tyV K "list" (.ref p) H ∧ A := ⟨.inl ⟨rfl, _, h⟩, q⟩
/-! ### ifs -/
theorem ite_d {p A B : Prop} {d : Decidable p} (h1 : p → A) (h2 : ¬ p → B) : if (@decide p d) = true then A else B := by
  by_cases h : p
  · rw [if_pos (decide_eq_true h)]
    exact h1 h
  · rw [if_neg (by rw [decide_eq_false h]; decide)]
    exact h2 h
theorem ite_nd {p A B : Prop} {d : Decidable p} (h1 : ¬ p → A) (h2 : p → B) : if (!(@decide p d)) = true then A else B := by
  by_cases h : p
  · rw [if_neg (by rw [decide_eq_true h]; decide)]
    exact h2 h
  · rw [if_pos (by rw [decide_eq_false h]; decide)]
    exact h1 h
theorem ite_b {b : Bool} {A B : Prop} (h1 : b = true → A) (h2 : b = false → B) : if b = true then A else B := by
  cases b
  · rw [if_neg (by decide)]
    exact h2 rfl
  · rw [if_pos rfl]
    exact h1 rfl
theorem ite_y {b : Bool} {A B : Prop} (e : b = true) (h : A) : if b = true then A else B := by
  rw [if_pos e]
  exact h
theorem ite_n {b : Bool} {A B : Prop} (e : b = false) (h : B) : if b = true then A else B := by
  rw [if_neg (by rw [e]; decide)]
  exact h
/-- both ways at once: what follows is asked of either -/
theorem ite_or {b : Bool} {R : Prop} {P : Bool → Prop} (h1 : b = true → P true → R) (h2 : b = false → P false → R) (hp : P b) : R := by
  cases b
  · exact h2 rfl hp
  · exact h1 rfl hp
end
end Hf
namespace Hf
open PySem PySem.Spec PyProof.Rows L2
theorem set_z {α : Type} {x y : α} {r : List α} : List.set (x :: r) 0 y = y :: r := rfl
theorem set_s {α : Type} {x y : α} {r r' : List α} {k : Nat} (h : List.set r k y = r') : List.set (x :: r) (k + 1) y = x :: r' := by
  rw [List.set_cons_succ, h]
theorem set_par {α : Type} {l l1 l2 : List α} {j k : Nat} {y z : α} (h1 : l.set j y = l1) (h2 : l1.set k z = l2) : (l.set j y).set k z = l2 := by
  rw [h1, h2]
theorem lk_same {H H' : Hp} {a : Addr} {o : HO} (e : Same H H') (h : H a = some o) : H' a = some o := e a o h
theorem lk_but {H H' : Hp} {a b : Addr} {o : HO} (e : But a H H') (n : b ≠ a) (h : H b = some o) : H' b = some o := e b o n h
end Hf

namespace Hf
open PySem PySem.Spec PyProof.Rows L2
/-! ### loops -/
section
variable {σ : L2.St} {H : Hp} {Q : VK} {nx bk ct : L2.St → Hp → Prop} {rt : VK} {K : PySem.W.Frag} {a : Addr} {xs : List V} {g : TG} {tb : TS} {lo : Int} {n : Nat}
theorem forR (Pv : Nat → L2.St → Hp → Prop) (h0 : Pv 0 σ H) (hd : ∀ σ H, Pv n σ H → nx σ H)
    (hs : ∀ (i : Nat) σ H, i < n → Pv i σ H → g (.int (lo + i)) σ H fun σ2 H2 => tb ⟨Pv (i + 1), rt, nx, Pv (i + 1)⟩ σ2 H2) :
    ∃ W : Nat → Nat → L2.St → Hp → Prop, (∃ m, W 0 m σ H) ∧ ∀ i m σ H, W i m σ H →
      ((Itr lo n).stop i H ∧ nx σ H) ∨ ((Itr lo n).go i H ∧ ∃ N : L2.St → Hp → Prop, (∀ σ' H', N σ' H' → ∃ m', m' < m ∧ W (i + 1) m' σ' H') ∧ ∀ x H', (Itr lo n).yld i H x H' → g x σ H' fun σ2 H2 => tb ⟨N, rt, nx, N⟩ σ2 H2) :=
  for_range (D := ⟨nx, rt, fun _ _ => False, fun _ _ => False⟩) Pv h0 hs hd
theorem forL (Pv : Nat → L2.St → Hp → Prop) (h0 : Pv 0 σ H) (hl : ∀ i σ H, i ≤ xs.length → Pv i σ H → SqL K H a xs) (hd : ∀ σ H, Pv xs.length σ H → nx σ H)
    (hs : ∀ i x σ H, xs[i]? = some x → Pv i σ H → g x σ H fun σ2 H2 => tb ⟨Pv (i + 1), rt, nx, Pv (i + 1)⟩ σ2 H2) :
    ∃ W : Nat → Nat → L2.St → Hp → Prop, (∃ m, W 0 m σ H) ∧ ∀ i m σ H, W i m σ H →
      ((Itl K a).stop i H ∧ nx σ H) ∨ ((Itl K a).go i H ∧ ∃ N : L2.St → Hp → Prop, (∀ σ' H', N σ' H' → ∃ m', m' < m ∧ W (i + 1) m' σ' H') ∧ ∀ x H', (Itl K a).yld i H x H' → g x σ H' fun σ2 H2 => tb ⟨N, rt, nx, N⟩ σ2 H2) :=
  for_list (D := ⟨nx, rt, fun _ _ => False, fun _ _ => False⟩) Pv h0 hl hs hd
theorem forT (Pv : Nat → L2.St → Hp → Prop) (h0 : Pv 0 σ H) (hl : ∀ i σ H, i ≤ xs.length → Pv i σ H → SqT K H a xs) (hd : ∀ σ H, Pv xs.length σ H → nx σ H)
    (hs : ∀ i x σ H, xs[i]? = some x → Pv i σ H → g x σ H fun σ2 H2 => tb ⟨Pv (i + 1), rt, nx, Pv (i + 1)⟩ σ2 H2) :
    ∃ W : Nat → Nat → L2.St → Hp → Prop, (∃ m, W 0 m σ H) ∧ ∀ i m σ H, W i m σ H →
      ((Itt K a).stop i H ∧ nx σ H) ∨ ((Itt K a).go i H ∧ ∃ N : L2.St → Hp → Prop, (∀ σ' H', N σ' H' → ∃ m', m' < m ∧ W (i + 1) m' σ' H') ∧ ∀ x H', (Itt K a).yld i H x H' → g x σ H' fun σ2 H2 => tb ⟨N, rt, nx, N⟩ σ2 H2) :=
  for_tup (D := ⟨nx, rt, fun _ _ => False, fun _ _ => False⟩) Pv h0 hl hs hd
/-- while: W by a measure; the test is read by hand, its two ways by turnW and the loop's end -/
theorem whileW {c : TT} (W : Nat → L2.St → Hp → Prop) (m : Nat) (h0 : W m σ H)
    (hs : ∀ m σ H, W m σ H → c σ H fun b H1 => if b = true then ∃ N : L2.St → Hp → Prop, (∀ σ' H', N σ' H' → ∃ m', m' < m ∧ W m' σ' H') ∧ tb ⟨N, rt, nx, N⟩ σ H1 else nx σ H1) : tWhile c tb ⟨nx, rt, bk, ct⟩ σ H :=
  ⟨W, ⟨m, h0⟩, hs⟩
theorem turnW {W : Nat → L2.St → Hp → Prop} {m : Nat} (h : tb ⟨fun σ' H' => ∃ m', m' < m ∧ W m' σ' H', rt, nx, fun σ' H' => ∃ m', m' < m ∧ W m' σ' H'⟩ σ H) :
    ∃ N : L2.St → Hp → Prop, (∀ σ' H', N σ' H' → ∃ m', m' < m ∧ W m' σ' H') ∧ tb ⟨N, rt, nx, N⟩ σ H := ⟨_, fun _ _ h => h, h⟩
end
theorem But.free {a p : Addr} {o : HO} {H H' : Hp} (hn : H' p = none) (e : But a H H') (ha : H' a = some o) : H p = none := by
  cases h : H p with
  | none => rfl
  | some u =>
    by_cases hp : p = a
    · rw [hp, ha] at hn
      cases hn
    · rw [e p u hp h] at hn
      cases hn
theorem Same.free' {p : Addr} {H H' : Hp} (hn : H' p = none) (e : Same H H') : H p = none := e.free hn
theorem But.newT {a p : Addr} {H H1 : Hp} {o : HO} (hp : H1 p = none) (x : But a H H1) : But a H (L2.upd H1 p o) := But.new x hp
theorem But.transT {a : Addr} {H H1 H2 : Hp} (y : But a H1 H2) (x : But a H H1) : But a H H2 := But.trans x y
theorem Same.transT {H H1 H2 : Hp} (y : Same H1 H2) (x : Same H H1) : Same H H2 := x.trans y
theorem Same.newT' {H H1 : Hp} {p : Addr} {o : HO} (hp : H1 p = none) (x : Same H H1) : Same H (upd H1 p o) := Same.newT x hp
theorem But.transS {a : Addr} {H H1 H2 : Hp} (y : Same H1 H2) (x : But a H H1) : But a H H2 := fun b o n h => y b o (x b o n h)
theorem Same.butT {H0 H H1 : Hp} {p : Addr} (x : But p H H1) (hp : H0 p = none) (e : Same H0 H) : Same H0 H1 := Same.but e hp x
/-! ### slices, sums of lists -/
theorem six_nn {n d : Nat} {k : Int} (h : 0 ≤ k) : HT.sIx n d (some k) = min k.toNat n := by
  obtain ⟨m, rfl⟩ := Int.eq_ofNat_of_zero_le h
  exact HT.sIx_nat n d m
theorem cut_to {xs : List V} {k : Int} (h : 0 ≤ k) : cutV xs none (some k) = xs.take k.toNat := by
  unfold cutV
  rw [six_nn h, HT.sIx_none, List.drop_zero, Nat.sub_zero]
  exact List.take_eq_take_iff.mpr (by omega)
theorem cut_from {xs : List V} {k : Int} (h : 0 ≤ k) : cutV xs (some k) none = xs.drop k.toNat := by
  unfold cutV
  rw [six_nn h, HT.sIx_none, List.take_of_length_le (by rw [List.length_drop]; omega)]
  by_cases c : k.toNat ≤ xs.length
  · rw [Nat.min_eq_left c]
  · rw [Nat.min_eq_right (show xs.length ≤ k.toNat by omega), List.drop_length, List.drop_eq_nil_of_le (show xs.length ≤ k.toNat by omega)]
theorem cut_mid {xs : List V} {j k : Int} (h : 0 ≤ j) (h' : 0 ≤ k) : cutV xs (some j) (some k) = (xs.drop j.toNat).take (k.toNat - j.toNat) := by
  unfold cutV
  rw [six_nn h, six_nn h']
  by_cases c : j.toNat ≤ xs.length
  · rw [Nat.min_eq_left c]
    refine List.take_eq_take_iff.mpr ?_
    rw [List.length_drop]
    omega
  · rw [Nat.min_eq_right (show xs.length ≤ j.toNat by omega), List.drop_length, List.drop_eq_nil_of_le (show xs.length ≤ j.toNat by omega), List.take_nil, List.take_nil]
section
variable {H : Hp} {Q : VK} {K : PySem.W.Frag} {p r : Addr} {xs ys : List V} {j k : Int} {lo hi : Option Int} {σ : L2.St}
theorem i_slTo (h : SqL K H p xs) (h0 : 0 ≤ k) (q : ∀ p', H p' = none → Q (.ref p') (upd H p' (.lst (xs.take k.toNat)))) : rSlL K (.ref p) none (some k) H Q := ⟨p, xs, rfl, h, by rw [cut_to h0]; exact q⟩
theorem i_slFrom (h : SqL K H p xs) (h0 : 0 ≤ k) (q : ∀ p', H p' = none → Q (.ref p') (upd H p' (.lst (xs.drop k.toNat)))) : rSlL K (.ref p) (some k) none H Q := ⟨p, xs, rfl, h, by rw [cut_from h0]; exact q⟩
theorem i_slMid (h : SqL K H p xs) (h0 : 0 ≤ j) (h1 : 0 ≤ k) (q : ∀ p', H p' = none → Q (.ref p') (upd H p' (.lst ((xs.drop j.toNat).take (k.toNat - j.toNat))))) : rSlL K (.ref p) (some j) (some k) H Q := ⟨p, xs, rfl, h, by rw [cut_mid h0 h1]; exact q⟩
theorem i_sl {R : V → Option Int → Option Int → Hp → VK → Prop} {te : TE} {tl th : TO} (h : te σ H fun x H1 => tl σ H1 fun l H2 => th σ H2 fun u H3 => R x l u H3 Q) : tSl R te tl th σ H Q := h
theorem i_nopart {P : Option Int → Hp → Prop} (q : P none H) : tNoPart σ H P := q
theorem i_part {te : TE} {P : Option Int → Hp → Prop} (h : te σ H fun x H1 => ∃ i, x = .int i ∧ P (some i) H1) : tPart te σ H P := h
theorem i_exint {i : Int} {R : Int → Prop} (q : R i) : ∃ i', V.int i = .int i' ∧ R i' := ⟨i, rfl, q⟩
theorem i_cat (h1 : H p = some (.lst xs)) (h2 : H r = some (.lst ys)) (hz : xs.length + ys.length ≤ sizeLine) (q : ∀ p', H p' = none → Q (.ref p') (upd H p' (.lst (xs ++ ys)))) : rCat (.ref p) (.ref r) H Q := ⟨p, r, xs, ys, rfl, rfl, h1, h2, hz, q⟩
theorem i_rep (h1 : H p = some (.lst xs)) (h2 : -(2 ^ 63) ≤ k ∧ k < 2 ^ 63) (hz : xs.length * k.toNat ≤ sizeLine) (q : ∀ p', H p' = none → Q (.ref p') (upd H p' (.lst (List.replicate k.toNat xs).flatten))) : rRep (.ref p) (.int k) H Q := ⟨p, k, xs, rfl, rfl, h1, h2.1, h2.2, hz, q⟩
theorem flat1 {α : Type} {x : α} : ∀ n : Nat, (List.replicate n [x]).flatten = List.replicate n x
  | 0 => rfl
  | n + 1 => by
    rw [List.replicate_succ, List.flatten_cons, flat1 n, List.replicate_succ]
    rfl
theorem i_rep1 {x : V} (h1 : H p = some (.lst [x])) (h2 : 0 ≤ k ∧ k ≤ 1000000) (q : ∀ p', H p' = none → Q (.ref p') (upd H p' (.lst (List.replicate k.toNat x)))) : rRep (.ref p) (.int k) H Q :=
  i_rep h1 (by omega) (sz4 (by show 1 * k.toNat ≤ 1000000; omega)) (by rw [flat1]; exact q)
end
/-- an if whose two ways meet: what holds behind it -/
theorem if_join {σ : L2.St} {H : Hp} {nx bk ct : L2.St → Hp → Prop} {rt : VK} {c : TT} {t u : TS} (P : L2.St → Hp → Prop) (h : ∀ nx' : L2.St → Hp → Prop, (∀ σ' H', P σ' H' → nx' σ' H') → tIfS c t u ⟨nx', rt, bk, ct⟩ σ H)
    (cont : ∀ σ' H', P σ' H' → nx σ' H') : tIfS c t u ⟨nx, rt, bk, ct⟩ σ H := h nx cont
/-- any statement, cut behind it -/
theorem st_join {σ : L2.St} {H : Hp} {nx bk ct : L2.St → Hp → Prop} {rt : VK} {t : TS} (P : L2.St → Hp → Prop) (h : ∀ nx' : L2.St → Hp → Prop, (∀ σ' H', P σ' H' → nx' σ' H') → t ⟨nx', rt, bk, ct⟩ σ H)
    (cont : ∀ σ' H', P σ' H' → nx σ' H') : t ⟨nx, rt, bk, ct⟩ σ H := h nx cont
theorem ints_at {ms : List Int} {i : Nat} {x : V} (h : (ms.map V.int)[i]? = some x) : ∃ z, x = .int z ∧ ms[i]? = some z := by
  rw [List.getElem?_map] at h
  cases e : ms[i]? with
  | none =>
    rw [e] at h
    cases h
  | some z =>
    rw [e] at h
    exact ⟨z, (Option.some.inj h).symm, rfl⟩
/-! ### equality of data -/
theorem i_eqT2 {K : PySem.W.Frag} {H : Hp} {Q : VK} {p r : Addr} {a b c d : Int} (h1 : SqT K H p [.int a, .int b]) (h2 : SqT K H r [.int c, .int d]) (q : Q (.bl (a == c && (b == d && true))) H) : rEqD K (.ref p) (.ref r) H Q :=
  ⟨.tuple [.int a, .int b], .tuple [.int c, .int d], .tup h1 (.cons (.int a) (.cons (.int b) .nil)), .tup h2 (.cons (.int c) (.cons (.int d) .nil)), rfl, rfl, by
    have e : PyData.eqv (.tuple [.int a, .int b]) (.tuple [.int c, .int d]) = (a == c && (b == d && true)) := by simp [PyData.eqv, PyData.eqvAll]
    rw [e]
    exact q⟩
/-! ### two objects that change -/
def But2 (a c : Addr) (H H' : Hp) : Prop := ∀ b o, b ≠ a → b ≠ c → H b = some o → H' b = some o
section
variable {a c b p : Addr} {H H' H1 H2 : Hp} {o u : HO} {K : PySem.W.Frag} {xs : List V}
theorem But2.refl (a c : Addr) (H : Hp) : But2 a c H H := fun _ _ _ _ h => h
theorem But2.transT (y : But2 a c H1 H2) (x : But2 a c H H1) : But2 a c H H2 := fun b o n m h => y b o n m (x b o n m h)
theorem But2.transS (y : Same H1 H2) (x : But2 a c H H1) : But2 a c H H2 := fun b o n m h => y b o (x b o n m h)
theorem But2.transL (y : But a H1 H2) (x : But2 a c H H1) : But2 a c H H2 := fun b o n m h => y b o n (x b o n m h)
theorem But2.transR (y : But c H1 H2) (x : But2 a c H H1) : But2 a c H H2 := fun b o n m h => y b o m (x b o n m h)
theorem But2.newT (hp : H1 p = none) (x : But2 a c H H1) : But2 a c H (L2.upd H1 p o) := fun b u n m h => by
  have h1 := x b u n m h
  rw [upd_ne (ne_of_none h1 hp)]
  exact h1
theorem But2.updL (x : But2 a c H H1) : But2 a c H (L2.upd H1 a o) := fun b u n m h => by
  rw [upd_ne n]
  exact x b u n m h
theorem But2.updR (x : But2 a c H H1) : But2 a c H (L2.upd H1 c o) := fun b u n m h => by
  rw [upd_ne m]
  exact x b u n m h
theorem lk_but2 (e : But2 a c H H') (n : b ≠ a) (m : b ≠ c) (h : H b = some o) : H' b = some o := e b o n m h
theorem But2.seq (e : But2 a c H H') (n : b ≠ a) (m : b ≠ c) (h : SqL K H b xs) : SqL K H' b xs := by
  rcases h with (h | ⟨o, h⟩) | h
  · exact .inl (.inl (e _ _ n m h))
  · exact .inl (.inr ⟨o, e _ _ n m h⟩)
  · exact .inr h
theorem But2.seqT (e : But2 a c H H') (n : b ≠ a) (m : b ≠ c) (h : SqT K H b xs) : SqT K H' b xs := by
  rcases h with (h | ⟨o, h⟩) | h
  · exact .inl (.inl (e _ _ n m h))
  · exact .inl (.inr ⟨o, e _ _ n m h⟩)
  · exact .inr h
theorem But2.free (hn : H' p = none) (e : But2 a c H H') (ha : H' a = some o) (hc : H' c = some u) : H p = none := by
  cases h : H p with
  | none => rfl
  | some v =>
    by_cases hp : p = a
    · rw [hp, ha] at hn
      cases hn
    · by_cases hq : p = c
      · rw [hq, hc] at hn
        cases hn
      · rw [e p v hp hq h] at hn
        cases hn
theorem But2.mut (hp : H p = none) (x : But2 a c H H1) : But2 a c H (L2.upd H1 p o) := fun b u n m h => by
  have e : b ≠ p := ne_of_none h hp
  exact lk_upd e (x b u n m h)
theorem But2.butT (y : But p H1 H2) (hp : H p = none) (x : But2 a c H H1) : But2 a c H H2 := fun b u n m h => y b u (ne_of_none h hp) (x b u n m h)
theorem Same.but2T {H0 : Hp} (x : But2 a c H H1) (ha : H0 a = none) (hc : H0 c = none) (e : Same H0 H) : Same H0 H1 := fun b u h => x b u (ne_of_none h ha) (ne_of_none h hc) (e b u h)
end
/-! ### len, by its number -/
def LenA (K : PySem.W.Frag) (H : Hp) (p : Addr) (n : Nat) : Prop := (∃ ys, SqL K H p ys ∧ ys.length = n) ∨ ∃ ys, SqT K H p ys ∧ ys.length = n
def rLenA (K : PySem.W.Frag) : List V → Hp → VK → Prop := fun xs H Q => ∃ p n, xs = [V.ref p] ∧ LenA K H p n ∧ Q (.int n) H
theorem call_lenA {X : Cx} : CallR X (.builtin "len") (rLenA X.K) := by
  intro pins s σ H xs us Q I r h
  obtain ⟨p, n, e, hl, q⟩ := h
  refine call_len_seq pins s σ H xs us Q I r ?_
  rcases hl with ⟨ys, h1, h2⟩ | ⟨ys, h1, h2⟩
  · exact ⟨p, ys, e, .inl h1, by rw [h2]; exact q⟩
  · exact ⟨p, ys, e, .inr h1, by rw [h2]; exact q⟩
section
variable {σ : L2.St} {H : Hp} {Q : VK} {K : PySem.W.Frag} {p r : Addr} {xs ys : List V} {ms ns : List Int} {i j k : Int} {n : Nat}
theorem i_lenA (h : LenA K H p n) (q : Q (.int n) H) : rLenA K [.ref p] H Q := ⟨p, n, rfl, h, q⟩
theorem lenA_map {α : Type} {f : α → V} {zs : List α} (h : SqL K H p (zs.map f)) : LenA K H p zs.length := .inl ⟨_, h, List.length_map _⟩
theorem lenA_L (h : SqL K H p xs) : LenA K H p xs.length := .inl ⟨_, h, rfl⟩
theorem lenA_T (h : SqT K H p xs) : LenA K H p xs.length := .inr ⟨_, h, rfl⟩
theorem i_ixM (h : SqL K H p (ms.map V.int)) (h0 : 0 ≤ i) (h1 : i < ms.length) (q : ∀ z, ms[i.toNat]? = some z → Q (.int z) H) : rIxL K (.ref p) (.int i) H Q := by
  obtain ⟨v, e1, e2⟩ := at_lt (xs := ms.map V.int) h0 (by rw [List.length_map]; exact h1)
  obtain ⟨z, e, e3⟩ := ints_at e2
  subst e
  exact i_ixL h e1 (q z e3)
theorem i_ixG (h : SqL K H p xs) (h0 : 0 ≤ i) (h1 : i < xs.length) (q : ∀ v, xs[i.toNat]? = some v → Q v H) : rIxL K (.ref p) (.int i) H Q := by
  obtain ⟨v, e1, e2⟩ := at_lt h0 h1
  exact i_ixL h e1 (q v e2)
theorem i_sum (h : SqL K H p (ns.map V.int)) (q : Q (.int ns.sum) H) : rSum K [.ref p] H Q := ⟨p, ns, rfl, h, q⟩
theorem i_slToM (h : SqL K H p (ms.map V.int)) (h0 : 0 ≤ k) (q : ∀ p', H p' = none → Q (.ref p') (upd H p' (.lst ((ms.take k.toNat).map V.int)))) : rSlL K (.ref p) none (some k) H Q := i_slTo h h0 (by rw [← List.map_take]; exact q)
theorem i_slFromM (h : SqL K H p (ms.map V.int)) (h0 : 0 ≤ k) (q : ∀ p', H p' = none → Q (.ref p') (upd H p' (.lst ((ms.drop k.toNat).map V.int)))) : rSlL K (.ref p) (some k) none H Q := i_slFrom h h0 (by rw [← List.map_drop]; exact q)
theorem i_slMidM (h : SqL K H p (ms.map V.int)) (h0 : 0 ≤ j) (h1 : 0 ≤ k) (q : ∀ p', H p' = none → Q (.ref p') (upd H p' (.lst (((ms.drop j.toNat).take (k.toNat - j.toNat)).map V.int)))) : rSlL K (.ref p) (some j) (some k) H Q := i_slMid h h0 h1 (by rw [← List.map_drop, ← List.map_take]; exact q)
theorem i_catM (h1 : H p = some (.lst (ms.map V.int))) (h2 : H r = some (.lst (ns.map V.int))) (hz : ms.length + ns.length ≤ 1000000) (q : ∀ p', H p' = none → Q (.ref p') (upd H p' (.lst ((ms ++ ns).map V.int)))) : rCat (.ref p) (.ref r) H Q :=
  i_cat h1 h2 (sz4 (by rw [List.length_map, List.length_map]; exact hz)) (by rw [← List.map_append]; exact q)
theorem i_repM {x : Int} (h1 : H p = some (.lst [.int x])) (h2 : 0 ≤ k ∧ k ≤ 1000000) (q : ∀ p', H p' = none → Q (.ref p') (upd H p' (.lst ((List.replicate k.toNat x).map V.int)))) : rRep (.ref p) (.int k) H Q :=
  i_rep1 h1 h2 (by rw [← List.map_replicate]; exact q)
theorem eqvAll_ints : ∀ ms ns : List Int, PyData.eqvAll (ms.map PyData.int) (ns.map PyData.int) = decide (ms = ns)
  | [], [] => by simp [PyData.eqvAll]
  | [], _ :: _ => by simp [PyData.eqvAll]
  | _ :: _, [] => by simp [PyData.eqvAll]
  | m :: ms, n :: ns => by
    rw [List.map_cons, List.map_cons, PyData.eqvAll, eqvAll_ints ms ns, PyData.eqv]
    by_cases h : m = n
    · subst h
      simp
    · simp [h]
theorem canLay_ints : ∀ ms : List Int, PyData.canLayAll0 (ms.map PyData.int) = true
  | [] => by simp [PyData.canLayAll0]
  | m :: ms => by
    rw [List.map_cons, PyData.canLayAll0, canLay_ints ms]
    simp [PyData.canLay0]
theorem depth_ints : ∀ ms : List Int, PyData.depthAll (ms.map PyData.int) ≤ 1
  | [] => by simp [PyData.depthAll]
  | m :: ms => by
    have := depth_ints ms
    rw [List.map_cons, PyData.depthAll]
    simp [PyData.depth]
    omega
theorem dp_ints : ∀ ms : List Int, DpAll K H (ms.map V.int) (ms.map PyData.int)
  | [] => .nil
  | m :: ms => .cons (.int m) (dp_ints ms)
theorem shaped_ints (ms : List Int) : SeqAt.shaped (.list (ms.map PyData.int)) = true := by
  unfold SeqAt.shaped
  have h1 := canLay_ints ms
  have h2 := depth_ints ms
  simp [PyData.canLay0, PyData.depth, h1]
  omega
theorem i_eqLI (h1 : SqL K H p (ms.map V.int)) (h2 : SqL K H r (ns.map V.int)) (q : Q (.bl (decide (ms = ns))) H) : rEqD K (.ref p) (.ref r) H Q :=
  ⟨_, _, .lst h1 (dp_ints ms), .lst h2 (dp_ints ns), shaped_ints ms, shaped_ints ns, by rw [PyData.eqv, eqvAll_ints]; exact q⟩
theorem i_neLI (h1 : SqL K H p (ms.map V.int)) (h2 : SqL K H r (ns.map V.int)) (q : Q (.bl (!decide (ms = ns))) H) : rNeD K (.ref p) (.ref r) H Q :=
  ⟨_, _, .lst h1 (dp_ints ms), .lst h2 (dp_ints ns), shaped_ints ms, shaped_ints ns, by rw [PyData.eqv, eqvAll_ints]; exact q⟩
theorem i_eqL0 (h1 : SqL K H p (ms.map V.int)) (h2 : SqL K H r []) (q : Q (.bl (decide (ms = []))) H) : rEqD K (.ref p) (.ref r) H Q := i_eqLI (ns := []) h1 h2 q
theorem i_eq00 (h1 : SqL K H p []) (h2 : SqL K H r []) (q : Q (.bl true) H) : rEqD K (.ref p) (.ref r) H Q := i_eqLI (ms := []) (ns := []) h1 h2 (by simpa using q)
theorem i_isn {P : Prop} (q : P) : V.non = V.non ∧ P := ⟨rfl, q⟩
theorem i_tru {P : Prop} (q : P) : True ∧ P := ⟨trivial, q⟩
theorem i_glst {m : Nat} {t : TGs} {Z : L2.St → Hp → Prop} (h : SqL K H p xs) (e : xs.length = m) (q : t xs σ H Z) : gLst K m t (.ref p) σ H Z := ⟨p, xs, rfl, h, e, q⟩
end
/-! ### comprehensions -/
section
variable {σ : L2.St} {H H1 : Hp} {Q : VK} {K : PySem.W.Frag} {D a : Addr} {wi : TI} {g : TG} {tt : TT} {te : TE} {vs : List Nat} {lo : Int} {n : Nat} {xs : List V} {Qd : Hp → Prop}
theorem i_lc (h : wi σ H fun J H1 => ∀ D, H1 D = none → ∃ W : Nat → Nat → Hp → Prop, (∃ m, W 0 m (upd H1 D (.lst []))) ∧ ∀ i m H, W i m H →
  (J.stop i H ∧ Q (.ref D) H) ∨ (J.go i H ∧ ∃ Nx : Hp → Prop, (∀ H', Nx H' → ∃ m', m' < m ∧ W (i + 1) m' H') ∧ ∀ x H', J.yld i H x H' → g x (wipe σ vs) H' fun σ2 H2 => wipe σ2 vs = wipe σ vs ∧ tt σ2 H2 fun b H3 =>
    if b = true then te σ2 H3 fun y H4 => ∃ acc, H4 D = some (.lst acc) ∧ acc.length < sizeLine ∧ Nx (upd H4 D (.lst (acc ++ [y]))) else Nx H3)) : tLc wi g tt te vs σ H Q := h
/-- the turn of a comprehension: what its target, test and element come to; Z is wanted of a kept element, Y where the test says no -/
def LcTurn (g : TG) (tt : TT) (te : TE) (vs : List Nat) (σ : L2.St) (x : V) (H : Hp) (Z : VK) (Y : Hp → Prop) : Prop :=
  g x (wipe σ vs) H fun σ2 H2 => wipe σ2 vs = wipe σ vs ∧ tt σ2 H2 fun b H3 => if b = true then te σ2 H3 Z else Y H3
/-- over a range; P: what holds behind i turns of the list made so far -/
theorem lcR (P : Nat → List V → Hp → Prop) (nD : H1 D = none) (h0 : P 0 [] (upd H1 D (.lst [])))
    (hs : ∀ i acc H (Z : VK) (Y : Hp → Prop), i < n → P i acc H → H D = some (.lst acc) → (∀ y H4, H4 D = some (.lst acc) → acc.length < sizeLine → P (i + 1) (acc ++ [y]) (upd H4 D (.lst (acc ++ [y]))) → Z y H4) →
      (∀ H4, H4 D = some (.lst acc) → P (i + 1) acc H4 → Y H4) → LcTurn g tt te vs σ (.int (lo + i)) H Z Y) (hd : ∀ acc H, P n acc H → H D = some (.lst acc) → Qd H) :
    ∃ W : Nat → Nat → Hp → Prop, (∃ m, W 0 m (upd H1 D (.lst []))) ∧ ∀ i m H, W i m H →
      ((Itr lo n).stop i H ∧ Qd H) ∨ ((Itr lo n).go i H ∧ ∃ Nx : Hp → Prop, (∀ H', Nx H' → ∃ m', m' < m ∧ W (i + 1) m' H') ∧ ∀ x H', (Itr lo n).yld i H x H' → g x (wipe σ vs) H' fun σ2 H2 => wipe σ2 vs = wipe σ vs ∧ tt σ2 H2 fun b H3 =>
        if b = true then te σ2 H3 fun y H4 => ∃ acc, H4 D = some (.lst acc) ∧ acc.length < sizeLine ∧ Nx (upd H4 D (.lst (acc ++ [y]))) else Nx H3) := by
  refine lc_range (fun i H => ∃ acc, P i acc H ∧ H D = some (.lst acc)) ⟨[], h0, upd_same⟩ (fun i H hi hp => ?_) (fun H hp => ?_)
  · obtain ⟨acc, hp, ha⟩ := hp
    exact hs i acc H _ _ hi hp ha (fun y H4 h1 h2 h3 => ⟨acc, h1, h2, _, h3, upd_same⟩) fun H4 h1 h2 => ⟨acc, h2, h1⟩
  · obtain ⟨acc, hp, ha⟩ := hp
    exact hd acc H hp ha
theorem lcL (P : Nat → List V → Hp → Prop) (nD : H1 D = none) (h0 : P 0 [] (upd H1 D (.lst []))) (hl : ∀ i acc H, i ≤ xs.length → P i acc H → H D = some (.lst acc) → SqL K H a xs)
    (hs : ∀ i x acc H (Z : VK) (Y : Hp → Prop), xs[i]? = some x → P i acc H → H D = some (.lst acc) → (∀ y H4, H4 D = some (.lst acc) → acc.length < sizeLine → P (i + 1) (acc ++ [y]) (upd H4 D (.lst (acc ++ [y]))) → Z y H4) →
      (∀ H4, H4 D = some (.lst acc) → P (i + 1) acc H4 → Y H4) → LcTurn g tt te vs σ x H Z Y) (hd : ∀ acc H, P xs.length acc H → H D = some (.lst acc) → Qd H) :
    ∃ W : Nat → Nat → Hp → Prop, (∃ m, W 0 m (upd H1 D (.lst []))) ∧ ∀ i m H, W i m H →
      ((Itl K a).stop i H ∧ Qd H) ∨ ((Itl K a).go i H ∧ ∃ Nx : Hp → Prop, (∀ H', Nx H' → ∃ m', m' < m ∧ W (i + 1) m' H') ∧ ∀ x H', (Itl K a).yld i H x H' → g x (wipe σ vs) H' fun σ2 H2 => wipe σ2 vs = wipe σ vs ∧ tt σ2 H2 fun b H3 =>
        if b = true then te σ2 H3 fun y H4 => ∃ acc, H4 D = some (.lst acc) ∧ acc.length < sizeLine ∧ Nx (upd H4 D (.lst (acc ++ [y]))) else Nx H3) := by
  refine lc_list (xs := xs) (fun i H => ∃ acc, P i acc H ∧ H D = some (.lst acc)) ⟨[], h0, upd_same⟩ (fun i H hi hp => ?_) (fun i x H hi hp => ?_) (fun H hp => ?_)
  · obtain ⟨acc, hp, ha⟩ := hp
    exact hl i acc H hi hp ha
  · obtain ⟨acc, hp, ha⟩ := hp
    exact hs i x acc H _ _ hi hp ha (fun y H4 h1 h2 h3 => ⟨acc, h1, h2, _, h3, upd_same⟩) fun H4 h1 h2 => ⟨acc, h2, h1⟩
  · obtain ⟨acc, hp, ha⟩ := hp
    exact hd acc H hp ha
/-- whole numbers, one for each turn -/
theorem lcR_int (f : Nat → Int) (nD : H1 D = none) (hn : n ≤ 1000000)
    (hs : ∀ i H (Z : VK) (Y : Hp → Prop), i < n → Same H1 H → (∀ H4, Same H H4 → Z (.int (f i)) H4) → LcTurn g tt te vs σ (.int (lo + i)) H Z Y)
    (hd : ∀ H, Same H1 H → H D = some (.lst (((List.range n).map f).map V.int)) → Qd H) :
    ∃ W : Nat → Nat → Hp → Prop, (∃ m, W 0 m (upd H1 D (.lst []))) ∧ ∀ i m H, W i m H →
      ((Itr lo n).stop i H ∧ Qd H) ∨ ((Itr lo n).go i H ∧ ∃ Nx : Hp → Prop, (∀ H', Nx H' → ∃ m', m' < m ∧ W (i + 1) m' H') ∧ ∀ x H', (Itr lo n).yld i H x H' → g x (wipe σ vs) H' fun σ2 H2 => wipe σ2 vs = wipe σ vs ∧ tt σ2 H2 fun b H3 =>
        if b = true then te σ2 H3 fun y H4 => ∃ acc, H4 D = some (.lst acc) ∧ acc.length < sizeLine ∧ Nx (upd H4 D (.lst (acc ++ [y]))) else Nx H3) := by
  refine lcR (fun i acc H => i ≤ n ∧ acc = ((List.range i).map f).map V.int ∧ Same H1 H) nD ⟨Nat.zero_le _, rfl, Same.new nD⟩ ?_ ?_
  · rintro i acc H Z Y hi ⟨_, rfl, hsame⟩ ha hz _
    refine hs i H Z Y hi hsame fun H4 h4 => hz _ H4 (h4 _ _ ha) (sz4' (by simp; omega)) ⟨hi, ?_, Same.mut (hsame.trans h4) nD⟩
    rw [List.range_succ, List.map_append, List.map_append]
    rfl
  · rintro acc H ⟨_, rfl, hsame⟩ ha
    exact hd H hsame ha
theorem lcL_int (f : Nat → Int) (nD : H1 D = none) (hn : xs.length ≤ 1000000) (hx : SqL K H1 a xs)
    (hs : ∀ i x H (Z : VK) (Y : Hp → Prop), xs[i]? = some x → Same H1 H → (∀ H4, Same H H4 → Z (.int (f i)) H4) → LcTurn g tt te vs σ x H Z Y)
    (hd : ∀ H, Same H1 H → H D = some (.lst (((List.range xs.length).map f).map V.int)) → Qd H) :
    ∃ W : Nat → Nat → Hp → Prop, (∃ m, W 0 m (upd H1 D (.lst []))) ∧ ∀ i m H, W i m H →
      ((Itl K a).stop i H ∧ Qd H) ∨ ((Itl K a).go i H ∧ ∃ Nx : Hp → Prop, (∀ H', Nx H' → ∃ m', m' < m ∧ W (i + 1) m' H') ∧ ∀ x H', (Itl K a).yld i H x H' → g x (wipe σ vs) H' fun σ2 H2 => wipe σ2 vs = wipe σ vs ∧ tt σ2 H2 fun b H3 =>
        if b = true then te σ2 H3 fun y H4 => ∃ acc, H4 D = some (.lst acc) ∧ acc.length < sizeLine ∧ Nx (upd H4 D (.lst (acc ++ [y]))) else Nx H3) := by
  refine lcL (xs := xs) (fun i acc H => i ≤ xs.length ∧ acc = ((List.range i).map f).map V.int ∧ Same H1 H) nD ⟨Nat.zero_le _, rfl, Same.new nD⟩ (fun i acc H _ hp _ => hp.2.2.seq hx) ?_ ?_
  · rintro i x acc H Z Y hi ⟨_, rfl, hsame⟩ ha hz _
    have hi' : i < xs.length := (List.getElem?_eq_some_iff.mp hi).1
    refine hs i x H Z Y hi hsame fun H4 h4 => hz _ H4 (h4 _ _ ha) (sz4' (by simp; omega)) ⟨hi', ?_, Same.mut (hsame.trans h4) nD⟩
    rw [List.range_succ, List.map_append, List.map_append]
    rfl
  · rintro acc H ⟨_, rfl, hsame⟩ ha
    exact hd H hsame ha
/-- over a range, kept where b says so -/
theorem lcR_fil (b : Nat → Bool) (f : Nat → Int) (nD : H1 D = none) (hn : n ≤ 1000000)
    (hs : ∀ i H (Z : VK) (Y : Hp → Prop), i < n → Same H1 H → (b i = true → ∀ H4, Same H H4 → Z (.int (f i)) H4) → (b i = false → ∀ H4, Same H H4 → Y H4) → LcTurn g tt te vs σ (.int (lo + i)) H Z Y)
    (hd : ∀ H, Same H1 H → H D = some (.lst ((((List.range n).filter b).map f).map V.int)) → Qd H) :
    ∃ W : Nat → Nat → Hp → Prop, (∃ m, W 0 m (upd H1 D (.lst []))) ∧ ∀ i m H, W i m H →
      ((Itr lo n).stop i H ∧ Qd H) ∨ ((Itr lo n).go i H ∧ ∃ Nx : Hp → Prop, (∀ H', Nx H' → ∃ m', m' < m ∧ W (i + 1) m' H') ∧ ∀ x H', (Itr lo n).yld i H x H' → g x (wipe σ vs) H' fun σ2 H2 => wipe σ2 vs = wipe σ vs ∧ tt σ2 H2 fun b H3 =>
        if b = true then te σ2 H3 fun y H4 => ∃ acc, H4 D = some (.lst acc) ∧ acc.length < sizeLine ∧ Nx (upd H4 D (.lst (acc ++ [y]))) else Nx H3) := by
  refine lcR (fun i acc H => i ≤ n ∧ acc = (((List.range i).filter b).map f).map V.int ∧ Same H1 H) nD ⟨Nat.zero_le _, rfl, Same.new nD⟩ ?_ ?_
  · rintro i acc H Z Y hi ⟨_, rfl, hsame⟩ ha hz hy
    refine hs i H Z Y hi hsame (fun hb H4 h4 => hz _ H4 (h4 _ _ ha) (sz4' ?_) ⟨hi, ?_, Same.mut (hsame.trans h4) nD⟩) (fun hb H4 h4 => hy H4 (h4 _ _ ha) ⟨hi, ?_, hsame.trans h4⟩)
    · have := List.length_filter_le b (List.range i)
      rw [List.length_range] at this
      simp only [List.length_map]
      omega
    · rw [List.range_succ, List.filter_append, List.map_append, List.map_append, List.filter_cons, if_pos hb]
      rfl
    · rw [List.range_succ, List.filter_append, List.map_append, List.map_append, List.filter_cons, if_neg (by rw [hb]; exact Bool.false_ne_true)]
      simp
  · rintro acc H ⟨_, rfl, hsame⟩ ha
    exact hd H hsame ha
/-- over a list, nothing kept -/
theorem lcL_nil (nD : H1 D = none) (hx : SqL K H1 a xs)
    (hs : ∀ (i : Nat) (x : V) H (Z : VK) (Y : Hp → Prop), xs[i]? = some x → Same H1 H → (∀ H4, Same H H4 → Y H4) → LcTurn g tt te vs σ x H Z Y)
    (hd : ∀ H, Same H1 H → H D = some (.lst []) → Qd H) :
    ∃ W : Nat → Nat → Hp → Prop, (∃ m, W 0 m (upd H1 D (.lst []))) ∧ ∀ i m H, W i m H →
      ((Itl K a).stop i H ∧ Qd H) ∨ ((Itl K a).go i H ∧ ∃ Nx : Hp → Prop, (∀ H', Nx H' → ∃ m', m' < m ∧ W (i + 1) m' H') ∧ ∀ x H', (Itl K a).yld i H x H' → g x (wipe σ vs) H' fun σ2 H2 => wipe σ2 vs = wipe σ vs ∧ tt σ2 H2 fun b H3 =>
        if b = true then te σ2 H3 fun y H4 => ∃ acc, H4 D = some (.lst acc) ∧ acc.length < sizeLine ∧ Nx (upd H4 D (.lst (acc ++ [y]))) else Nx H3) := by
  refine lcL (xs := xs) (fun i acc H => acc = [] ∧ Same H1 H) nD ⟨rfl, Same.new nD⟩ (fun i acc H _ hp _ => hp.2.seq hx) ?_ ?_
  · rintro i x acc H Z Y hi ⟨rfl, hsame⟩ ha _ hy
    exact hs i x H Z Y hi hsame fun H4 h4 => hy H4 (h4 _ _ ha) ⟨rfl, hsame.trans h4⟩
  · rintro acc H ⟨rfl, hsame⟩ ha
    exact hd H hsame ha
/-- over a list, a value for each, from the turn's number -/
theorem lcL_v (f : Nat → V) (nD : H1 D = none) (hn : xs.length ≤ 1000000) (hx : SqL K H1 a xs)
    (hs : ∀ (i : Nat) (x : V) H (Z : VK) (Y : Hp → Prop), xs[i]? = some x → Same H1 H → (∀ H4, Same H H4 → Z (f i) H4) → LcTurn g tt te vs σ x H Z Y)
    (hd : ∀ H, Same H1 H → H D = some (.lst ((List.range xs.length).map f)) → Qd H) :
    ∃ W : Nat → Nat → Hp → Prop, (∃ m, W 0 m (upd H1 D (.lst []))) ∧ ∀ i m H, W i m H →
      ((Itl K a).stop i H ∧ Qd H) ∨ ((Itl K a).go i H ∧ ∃ Nx : Hp → Prop, (∀ H', Nx H' → ∃ m', m' < m ∧ W (i + 1) m' H') ∧ ∀ x H', (Itl K a).yld i H x H' → g x (wipe σ vs) H' fun σ2 H2 => wipe σ2 vs = wipe σ vs ∧ tt σ2 H2 fun b H3 =>
        if b = true then te σ2 H3 fun y H4 => ∃ acc, H4 D = some (.lst acc) ∧ acc.length < sizeLine ∧ Nx (upd H4 D (.lst (acc ++ [y]))) else Nx H3) := by
  refine lcL (xs := xs) (fun i acc H => i ≤ xs.length ∧ acc = (List.range i).map f ∧ Same H1 H) nD ⟨Nat.zero_le _, rfl, Same.new nD⟩ (fun i acc H _ hp _ => hp.2.2.seq hx) ?_ ?_
  · rintro i x acc H Z Y hi ⟨_, rfl, hsame⟩ ha hz _
    have hi' : i < xs.length := (List.getElem?_eq_some_iff.mp hi).1
    refine hs i x H Z Y hi hsame fun H4 h4 => hz _ H4 (h4 _ _ ha) (sz4' (by simp; omega)) ⟨hi', ?_, Same.mut (hsame.trans h4) nD⟩
    rw [List.range_succ, List.map_append]
    rfl
  · rintro acc H ⟨_, rfl, hsame⟩ ha
    exact hd H hsame ha
/-- over a list, truths all true -/
theorem lcL_all (nD : H1 D = none) (hn : xs.length ≤ 1000000) (hx : SqL K H1 a xs)
    (hs : ∀ (i : Nat) (x : V) H (Z : VK) (Y : Hp → Prop), xs[i]? = some x → Same H1 H → (∀ H4, Same H H4 → Z (.bl true) H4) → LcTurn g tt te vs σ x H Z Y)
    (hd : ∀ H, Same H1 H → SqL K H D ((List.replicate xs.length true).map V.bl) → Qd H) :
    ∃ W : Nat → Nat → Hp → Prop, (∃ m, W 0 m (upd H1 D (.lst []))) ∧ ∀ i m H, W i m H →
      ((Itl K a).stop i H ∧ Qd H) ∨ ((Itl K a).go i H ∧ ∃ Nx : Hp → Prop, (∀ H', Nx H' → ∃ m', m' < m ∧ W (i + 1) m' H') ∧ ∀ x H', (Itl K a).yld i H x H' → g x (wipe σ vs) H' fun σ2 H2 => wipe σ2 vs = wipe σ vs ∧ tt σ2 H2 fun b H3 =>
        if b = true then te σ2 H3 fun y H4 => ∃ acc, H4 D = some (.lst acc) ∧ acc.length < sizeLine ∧ Nx (upd H4 D (.lst (acc ++ [y]))) else Nx H3) := by
  refine lcL_v (fun _ => .bl true) nD hn hx hs fun H hs' h => hd H hs' (.of ?_)
  rw [h, List.map_const', List.length_range, List.map_replicate]
theorem i_all {H : Hp} {Q : VK} {p : Addr} {m : Nat} (h : SqL K H p ((List.replicate m true).map V.bl)) (q : Q (.bl true) H) : rAll K [.ref p] H Q := by
  refine ⟨p, _, rfl, h, ?_⟩
  have e : (List.replicate m true).all id = true := by
    rw [List.all_eq_true]
    intro x hx
    rw [(List.mem_replicate.mp hx).2]
    rfl
  rw [e]
  exact q
theorem i_min {H : Hp} {Q : VK} {p : Addr} {ns : List Int} (h : SqL K H p (ns.map V.int)) (h0 : 0 < ns.length) (q : ∀ m, m ∈ ns → (∀ y, y ∈ ns → m ≤ y) → Q (.int m) H) : rMin K [.ref p] H Q := ⟨p, ns, rfl, h, h0, q⟩
theorem i_max {H : Hp} {Q : VK} {p : Addr} {ns : List Int} (h : SqL K H p (ns.map V.int)) (h0 : 0 < ns.length) (q : ∀ m, m ∈ ns → (∀ y, y ∈ ns → y ≤ m) → Q (.int m) H) : rMax K [.ref p] H Q := ⟨p, ns, rfl, h, h0, q⟩
theorem i_yes {P : Bool → Hp → Prop} (q : P true H) : tYes σ H P := q
theorem i_wipe {A : Prop} {σ2 : L2.St} (e : wipe σ2 vs = wipe σ vs) (q : A) : wipe σ2 vs = wipe σ vs ∧ A := ⟨e, q⟩
theorem i_turn {x : V} {Z : VK} {Y : Hp → Prop} {σ1 : L2.St} (e : wipe σ vs = σ1) (h : g x σ1 H fun σ2 H2 => wipe σ2 vs = σ1 ∧ tt σ2 H2 fun b H3 => if b = true then te σ2 H3 Z else Y H3) : LcTurn g tt te vs σ x H Z Y := by
  subst e
  exact h
theorem i_wiped {A : Prop} {σ1 σ2 : L2.St} (e : wipe σ2 vs = σ1) (q : A) : wipe σ2 vs = σ1 ∧ A := ⟨e, q⟩
end
theorem ixN_nn {n : Nat} {i : Int} (h0 : 0 ≤ i) (h1 : i < n) : ixN n i = some i.toNat := by
  unfold ixN
  rw [if_pos h0, if_pos h1]
theorem ixN_last {n : Nat} (h : 0 < n) : ixN n (-1) = some (n - 1) := by
  unfold ixN
  rw [if_neg (by decide), if_pos (by omega)]
  congr 1
  omega
theorem i_ixLast {K : PySem.W.Frag} {H : Hp} {p : Addr} {ms : List Int} {Q : VK} (h : SqL K H p (ms.map V.int)) (h1 : 0 < ms.length) (q : ∀ z, ms[ms.length - 1]? = some z → Q (.int z) H) : rIxL K (.ref p) (.int (-1)) H Q := by
  have e : ms[ms.length - 1]? = some ms[ms.length - 1] := List.getElem?_eq_getElem (by omega)
  refine ⟨p, _, -1, .int ms[ms.length - 1], rfl, rfl, h, ?_, q _ e⟩
  unfold atI
  rw [List.length_map, ixN_last h1, Option.bind_some, List.getElem?_map, e]
  rfl
theorem cut_init {xs : List V} : cutV xs none (some (-1)) = xs.dropLast := by
  unfold cutV
  rw [HT.sIx_none, List.drop_zero, Nat.sub_zero]
  have e : HT.sIx xs.length xs.length (some (-1)) = xs.length - 1 := by
    unfold HT.sIx
    simp
    omega
  rw [e, List.dropLast_eq_take]
theorem i_slInitM {K : PySem.W.Frag} {H : Hp} {p : Addr} {ms : List Int} {Q : VK} (h : SqL K H p (ms.map V.int)) (q : ∀ p', H p' = none → Q (.ref p') (upd H p' (.lst (ms.dropLast.map V.int)))) : rSlL K (.ref p) none (some (-1)) H Q := ⟨p, _, rfl, h, by rw [cut_init, ← List.map_dropLast]; exact q⟩
theorem i_setLast {H : Hp} {p : Addr} {ms : List Int} {z : Int} {Z : Hp → Prop} (h : H p = some (.lst (ms.map V.int))) (h1 : 0 < ms.length) (q : Z (upd H p (.lst ((ms.set (ms.length - 1) z).map V.int)))) : rSetL (.ref p) (.int (-1)) (.int z) H Z :=
  ⟨p, _, -1, ms.length - 1, rfl, rfl, h, by rw [List.length_map]; exact ixN_last h1, by rw [← List.map_set]; exact q⟩
theorem i_catM1 {H : Hp} {p r : Addr} {ms : List Int} {y : Int} {Q : VK} (h1 : H p = some (.lst (ms.map V.int))) (h2 : H r = some (.lst [.int y])) (hz : ms.length + 1 ≤ 1000000) (q : ∀ p', H p' = none → Q (.ref p') (upd H p' (.lst ((ms ++ [y]).map V.int)))) : rCat (.ref p) (.ref r) H Q := i_catM (ns := [y]) h1 h2 hz q
theorem fil_last (b : Nat → Bool) : ∀ n, (List.range n).filter b = [] ∨ ∃ k, k < n ∧ b k = true ∧ (∀ j, k < j → j < n → b j = false) ∧ ((List.range n).filter b)[((List.range n).filter b).length - 1]? = some k
  | 0 => .inl rfl
  | n + 1 => by
    rw [List.range_succ, List.filter_append]
    cases e : b n with
    | true =>
      refine .inr ⟨n, by omega, e, fun j h1 h2 => by omega, ?_⟩
      have : List.filter b [n] = [n] := by simp [e]
      rw [this, List.length_append]
      simp
    | false =>
      have : List.filter b [n] = [] := by simp [e]
      rw [this, List.append_nil]
      rcases fil_last b n with h | ⟨k, h1, h2, h3, h4⟩
      · exact .inl h
      · refine .inr ⟨k, by omega, h2, fun j g1 g2 => ?_, h4⟩
        by_cases c : j = n
        · subst c; exact e
        · exact h3 j g1 (by omega)
theorem fil_none {b : Nat → Bool} {n : Nat} (h : (List.range n).filter b = []) {j : Nat} (hj : j < n) : b j = false := by
  have := List.filter_eq_nil_iff.mp h j (List.mem_range.mpr hj)
  simpa using this
theorem i_reverse {H : Hp} {p : Addr} {ms : List Int} {Q : VK} (h : H p = some (.lst (ms.map V.int))) (q : Q .non (upd H p (.lst (ms.reverse.map V.int)))) : rReverse (.ref p) [] H Q := ⟨p, _, rfl, rfl, h, by rw [← List.map_reverse]; exact q⟩
theorem i_ne00 {K : PySem.W.Frag} {H : Hp} {Q : VK} {p r : Addr} (h1 : SqL K H p []) (h2 : SqL K H r []) (q : Q (.bl false) H) : rNeD K (.ref p) (.ref r) H Q := i_neLI (ms := []) (ns := []) h1 h2 (by simpa using q)
theorem i_min2 {K : Prop} {R : Int → Int → Prop} {i j : Int} (q : R i j) : ∃ i' j', [V.int i, V.int j] = [.int i', .int j'] ∧ R i' j' := ⟨i, j, rfl, q⟩
theorem i_setM {H : Hp} {p : Addr} {ms : List Int} {i z : Int} {Z : Hp → Prop} (h : H p = some (.lst (ms.map V.int))) (h0 : 0 ≤ i) (h1 : i < ms.length) (q : Z (upd H p (.lst ((ms.set i.toNat z).map V.int)))) : rSetL (.ref p) (.int i) (.int z) H Z :=
  ⟨p, _, i, i.toNat, rfl, rfl, h, ixN_nn h0 (by rw [List.length_map]; exact h1), by rw [← List.map_set]; exact q⟩
/-! ### the rules that name the written part, K told -/
def rListOf (K : PySem.W.Frag) : List V → Hp → VK → Prop := fun xs H Q => ∃ p ys, xs = [V.ref p] ∧ (SqL K H p ys ∨ SqT K H p ys) ∧ ∀ l, H l = none → Q (.ref l) (upd H l (.lst ys))
def rTupleOf (K : PySem.W.Frag) : List V → Hp → VK → Prop := fun xs H Q => ∃ p ys, xs = [V.ref p] ∧ ((SqL K H p ys ∧ ∀ l, H l = none → Q (.ref l) (upd H l (.tup ys))) ∨ (SqT K H p ys ∧ Q (.ref p) H))
section
variable {X : Cx} (K : PySem.W.Frag) (e : X.K = K)
include e
theorem sl_listK : SlR X (rSlL K) := by subst e; exact sl_list
theorem sl_tupK : SlR X (rSlA K) := by subst e; exact sl_tupA
theorem ix_listK : IxR X (rIxL K) := by subst e; exact ix_list
theorem ix_tupK : IxR X (rIxT K) := by subst e; exact ix_tup
theorem ix_seqK : IxR X (rIx K) := by subst e; exact ix_seq
theorem call_lenK : CallR X (.builtin "len") (rLenA K) := by subst e; exact call_lenA
theorem cr_sumK (hc : X.calm = true) : CallR X (.builtin "sum") (rSum K) := by subst e; exact cr_sum hc
theorem cr_minK (hc : X.calm = true) : CallR X (.builtin "min") (rMin K) := by subst e; exact cr_min hc
theorem cr_maxK (hc : X.calm = true) : CallR X (.builtin "max") (rMax K) := by subst e; exact cr_max hc
theorem cr_anyK (hc : X.calm = true) : CallR X (.builtin "any") (rAny K) := by subst e; exact cr_any hc
theorem cr_allK (hc : X.calm = true) : CallR X (.builtin "all") (rAll K) := by subst e; exact cr_all hc
theorem call_isiK' : CallR X (.builtin "isinstance") (rIsi K) := by subst e; exact call_isi
theorem call_listK : CallR X (.type "list") (rListOf K) := by subst e; exact call_list_of
theorem call_tupleK : CallR X (.type "tuple") (rTupleOf K) := by subst e; exact call_tuple_of
theorem op_eqDK (hu : X.A.units + 64 < cLine) : OpR X (compareOp .Eq) (rEqD K) := by subst e; exact op_eqD hu
theorem op_neDK (hu : X.A.units + 64 < cLine) : OpR X (compareOp .NotEq) (rNeD K) := by subst e; exact op_neD hu
theorem op_ltTK (hu : X.A.units < cLine) : OpR X (compareOp .Lt) (rLtT K) := by subst e; exact op_ltT hu
theorem op_catTK : OpR X (binaryOp .Add) (rCatT K) := by subst e; exact op_catT
theorem op_inK : OpR X (compareOp .In) (rIn K false) := by subst e; exact op_in_seq
theorem op_notInK : OpR X (compareOp .NotIn) (rIn K true) := by subst e; exact op_notIn_seq
theorem pi_listK {tg l : Expr} {tl : TE} (hl : PE X l tl) : PI X tg l (iList K tl) := by subst e; exact pi_list hl
theorem pi_tupK {tg l : Expr} {tl : TE} (hl : PE X l tl) : PI X tg l (iTup K tl) := by subst e; exact pi_tup hl
theorem pg_tupK {es : List Expr} {k : Nat} {t : TGs} {pos : Pos} (n : Nat) (hc : X.calm = true) (h : PGs X es t) (hn : (assignEach es X.env).length = n := by rfl) (hst : (assignEach es X.env).findIdx? (·.1) = none := by rfl) : PG X (.Tuple es k pos) (gTup K n t) := by subst e; exact pg_tup hc h hn hst
theorem pg_lstK {es : List Expr} {k : Nat} {t : TGs} {pos : Pos} (n : Nat) (hc : X.calm = true) (h : PGs X es t) (hn : (assignEach es X.env).length = n := by rfl) (hst : (assignEach es X.env).findIdx? (·.1) = none := by rfl) : PG X (.Tuple es k pos) (gLst K n t) := by subst e; exact pg_lst hc h hn hst
end
section
variable {H : Hp} {Q : VK} {K : PySem.W.Frag} {p : Addr} {xs : List V}
theorem i_listOf (h : SqL K H p xs) (q : ∀ l, H l = none → Q (.ref l) (upd H l (.lst xs))) : rListOf K [.ref p] H Q := ⟨p, xs, rfl, .inl h, q⟩
theorem i_listOfT (h : SqT K H p xs) (q : ∀ l, H l = none → Q (.ref l) (upd H l (.lst xs))) : rListOf K [.ref p] H Q := ⟨p, xs, rfl, .inr h, q⟩
end
theorem wipe_one {σ σ1 : L2.St} {k : Nat} (e : List.set σ k none = σ1) : wipe σ [k] = σ1 := e
theorem wipe_two {σ σ1 σ2 : L2.St} {j k : Nat} (e : List.set σ k none = σ1) (e2 : List.set σ1 j none = σ2) : wipe σ [j, k] = σ2 := by
  show List.set (List.set σ k none) j none = σ2
  rw [e, e2]
theorem wipe_three {σ σ1 σ2 σ3 : L2.St} {i j k : Nat} (e : List.set σ k none = σ1) (e2 : List.set σ1 j none = σ2) (e3 : List.set σ2 i none = σ3) : wipe σ [i, j, k] = σ3 := by
  show List.set (List.set (List.set σ k none) j none) i none = σ3
  rw [e, e2, e3]
/-- the heap is let go of but for what stood at first -/
theorem forget {P : Hp → Prop} {H H1 : Hp} (s : Same H H1) (h : ∀ H', Same H H' → P H') : P H1 := h H1 s
end Hf
/-! ## exceptions: caught, noted and asked behind the suite -/
namespace Hf
open PySem PySem.Spec PyProof.Rows L2
/-- at a: a caught exception of the class cls, its dict d -/
def exHO (a : Addr) (cls : Value) (d : Option Addr) : HO := .ext fun h => ∃ oe vs, h.get? a = some oe ∧ Zc cls d oe ∧ oe.data = .fields vs
theorem exHO_ok {P : Program} {w : World} {H : Hp} {h : Heap} {a : Addr} {cls : Value} {d : Option Addr} {oe : Obj} {vs : Array Value} (e : h.get? a = some oe) (hz : Zc cls d oe) (hd : oe.data = .fields vs) : ObjOk P w H h a (exHO a cls d) :=
  ⟨⟨oe, vs, e, hz, hd⟩, ⟨oe, e⟩, fun _ _ ⟨o, v, x, y, z⟩ k => ⟨o, v, k _ x, y, z⟩⟩
theorem exHO_at {P : Program} {w : World} {H : Hp} {h : Heap} {a : Addr} {cls : Value} {d : Option Addr} (ok : HOk P w H h) (e : H a = some (exHO a cls d)) : ∃ oe vs, h.get? a = some oe ∧ Zc cls d oe ∧ oe.data = .fields vs := by
  have x : ObjOk P w H h a (.ext fun h => ∃ oe vs, h.get? a = some oe ∧ Zc cls d oe ∧ oe.data = .fields vs) := ok a _ e
  exact x.1
/-- a pinned object of ours is taken up -/
theorem track {X : Cx} {pins : List (Addr × Obj)} {σ : L2.St} {H : Hp} {s : Shared} {a : Addr} {oe : Obj} {cls : Value} {d : Option Addr} {vs : Array Value} (I : Inv X ((a, oe) :: pins) σ H s) (hz : Zc cls d oe) (hd : oe.data = .fields vs)
    (n0 : X.s_0.heap.get? a = none) (np : ∀ p ∈ X.pn ++ pins, p.1 ≠ a) : Inv X pins σ (L2.upd H a (exHO a cls d)) s := by
  obtain ⟨ga, na, nL, nF, nc⟩ := I.pin (a, oe) (List.mem_append_right _ List.mem_cons_self)
  dsimp only at ga na nL nF nc
  have ncell : ∀ x c, X.env.cells.lookup x = some c → c ≠ a := fun x c e z => by
    obtain ⟨v, o, ho, hdc⟩ := I.cell x c e
    rw [z, ga] at ho
    cases ho
    exact nc _ hdc
  refine ⟨I.ok, I.os, I.bare, ⟨I.base.keep, I.base.slot, fun b o e n hx => ?_, I.base.there, fun b xs e => ?_, fun b o u e => ?_, fun b ps e => ?_⟩, I.loc, I.cell, ?_, fun x c e => ?_, fun p hp => ?_, fun b o e => ?_, I.len⟩
  · rw [upd_ne (fun z => by rw [z, n0] at e; cases e)]
    exact I.base.free b o e n hx
  · have q := I.base.tups b xs e
    rw [upd_ne (ne_of_none q na)]
    exact q
  · have q := I.base.frzs b o u e
    rw [upd_ne (ne_of_none q na)]
    exact q
  · obtain ⟨m, q⟩ := I.base.tbls b ps e
    exact ⟨m, by rw [upd_ne (ne_of_none q na)]; exact q⟩
  · rw [upd_ne (Ne.symm nL)]
    exact I.free
  · rw [upd_ne (ncell x c e)]
    exact I.freeC x c e
  · obtain ⟨e, n, r⟩ := I.pin p (by
      rcases List.mem_append.mp hp with h | h
      · exact List.mem_append_left _ h
      · exact List.mem_append_right _ (List.mem_cons_of_mem _ h))
    exact ⟨e, by rw [upd_ne (np p hp)]; exact n, r⟩
  · by_cases hb : b = a
    · subst hb
      rw [upd_same] at e
      cases e
      exact exHO_ok ga hz hd
    · rw [upd_ne hb] at e
      refine (I.hok b o e).stay (fun c u _ q => q) (fun c q => ?_) fun c xs q => ?_
      · rw [upd_ne (ne_of_none q na)]
        exact q
      · rw [upd_ne (ne_of_none q na)]
        exact q
/-- what follows the suite -/
def nxAs (i : Nat) (a : Addr) (cls : Value) (d : Option Addr) (nx : L2.St → Hp → Prop) : L2.St → Hp → Prop := fun σ' H' => nx (σ'.set i none) (L2.upd H' a (exHO a cls d))
def rtAs (a : Addr) (cls : Value) (d : Option Addr) (rt : VK) : VK := fun v H' => rt v (L2.upd H' a (exHO a cls d))
/-- what the clause 'except x as n' wishes of an exception of the body -/
def wAsT (K : PySem.W.Frag) (c : Value) (i : Nat) (ts : TS) (Wout : WX) (D : Ends) : WX := fun cls d σ H =>
  ∃ b, PySem.W.exmOne K cls c = some b ∧ (b = true → ∀ a, H a = none → ts { nx := nxAs i a cls d D.nx, rt := rtAs a cls d D.rt, bk := nxAs i a cls d D.bk, ct := nxAs i a cls d D.ct } (σ.set i (some (.ref a))) H) ∧
    (b = false → Wout cls d σ H)
def tTryAs (K : PySem.W.Frag) (c : Value) (i : Nat) (ts : TS) (Wout : WX) (tb : WX → TS) : TS := fun D σ H => tb (wAsT K c i ts Wout D) D σ H
section
variable {X : Cx} {x n : Str} {c : Value} {i : Nat} {body suite : List Stmt} {b₀ : Stmt} {np pos pos' : Pos} {tb : WX → TS} {ts : TS} {Wout : WX}
theorem ps_try_asT (hs : X.stack = X.env :: X.outer) (hf : X.env.frame = some X.env.locals) (hex : X.ex = []) (hN : X.N.Nodup) (hi : X.N[i]? = some n) (hln : X.env.kindOf n = some .local) (hc : Names X x c) (tk : Takes X Wout)
    (hb : ∀ (W : WX) (pn : List (Addr × Obj)) (xe : Value → Shared → Prop), Takes (X.tr pn xe) W → PassesOwn (model X.prog X.w) X.A X.env xe → PSs (X.tr pn xe) body (tb W))
    (hsu : ∀ (a : Addr) (oe : Obj) (pn : List (Addr × Obj)), PSs (X.suite a ((a, oe) :: pn)) (b₀ :: suite) ts) :
    PS X (.Try body [.ExceptHandler (some (.Name x np)) (some n) (b₀ :: suite) pos'] [] [] pos) (tTryAs X.K c i ts Wout tb) := by
  refine ⟨fun pins s σ H D I h => ?_⟩
  have ok := I.ok
  have hfr : X.A.frames = some (X.env :: X.outer) := by rw [ok.frames, hs]
  have hloc : Loc X.env.scope n := .inl hln
  refine wpAny_Try_except ?_
  refine wpAny_mono ((hb (wAsT X.K c i ts Wout D) (X.pn ++ pins) (fun e s₁ => wpAny (model X.prog X.w) X.A (noteFrame e X.env) (fun _ s₂ => wpAny (model X.prog X.w) X.A (setFlight e none) (fun _ s₃ =>
    wpAny (model X.prog X.w) X.A (handleBy e X.env [.ExceptHandler (some (.Name x np)) (some n) (b₀ :: suite) pos']) (SP X pins D) X.xe s₃) X.xe s₂) X.xe s₁) (fun u s' xx => ?_) PassesOwn.looking).run [] s σ H D (I.toTry _) h) (fun f s1 hsp => ?_) (fun e s1 he => he)
  · obtain ⟨a, B, sI, pins', σ', H', cls, d, rfl, J', nb, up, sky, na, os, ag, b, hb1, hyes, hno⟩ := xx
    have J : Inv X pins σ' H' sI := J'.ofTry ok
    have sky' : Sky B (X.env :: X.outer) a (Zc cls d) X.env.locals s'.heap := by rw [← hs]; exact sky
    show wpAny (model X.prog X.w) X.A (noteFrame (.ref a) X.env) _ _ _
    refine Sky.land Zc.steady hfr hf sky' fun h3 fl3 up3 => ?_
    have J3 : Inv X pins σ' H' { s' with heap := h3 } := J.landed nb fl3.1 (up.trans up3) os ag
    obtain ⟨oe3, vs3, he3, hz3, hd3⟩ := fl3.there
    have notFr : ∀ {h : Heap} {o : Obj} {vs : Array Value}, h.FunFrames B (X.env :: X.outer) → h.get? a = some o → o.data = .fields vs → a ∉ frs (X.env :: X.outer) := fun {h o vs} ff e dd hm => by
      obtain ⟨_, o', e', hnf⟩ := ff.mem hm
      rw [e] at e'; cases e'
      exact hnf _ dd
    have nfr := notFr fl3.2.2.1 he3 hd3
    have nL : a ≠ X.env.locals := fun z => nfr (List.mem_filterMap.mpr ⟨X.env, List.mem_cons_self, by rw [hf, z]⟩)
    have nF : a ∉ X.fs := fun hm => by
      obtain ⟨e, he, q⟩ := List.mem_filterMap.mp hm
      exact nfr (List.mem_filterMap.mpr ⟨e, List.mem_cons_of_mem _ he, q⟩)
    have nI : sI.heap.get? a = none := by
      cases q : sI.heap.get? a with
      | none => rfl
      | some o =>
        have z := nb a o q (by rw [hs]; exact nfr)
        rw [fl3.2.1] at z
        cases z
    have n0 : X.s_0.heap.get? a = none := by
      cases q : X.s_0.heap.get? a with
      | none => rfl
      | some o =>
        obtain ⟨o', z⟩ := J.base.there a o q (by rw [hex]; exact List.not_mem_nil)
        rw [nI] at z
        cases z
    have npin : ∀ p ∈ X.pn ++ pins, p.1 ≠ a := fun p hp z => by
      have q := (J.pin p hp).1
      rw [z, nI] at q
      cases q
    have S3 := J3.suite he3 hd3 na nL nF
    refine wpAny_handleBy_cons (codeAny_handlers_test ?_) (by intro q; cases q)
    have LT : PySem.W.Looks (model X.prog X.w) h3 (typeOf (.ref a)) cls := fun A Q E s k q => wpAny_typeOf_ref (k _ _ he3) (by rw [hz3.1]; exact q)
    have LM := PySem.W.exm_one (M := model X.prog X.w) (J3.kIn) LT hb1
    have test : ∀ {Q : Value → Shared → Prop} {E : Value → Shared → Prop}, Q c { s' with heap := h3 } → wpAny (model X.prog X.w) (X.A.mark (some (.ref a))) (eval (.Name x np) X.env) Q E { s' with heap := h3 } := fun {Q E} q => by
      obtain ⟨hg, hdbg, hm | ⟨hm, hv, hnn⟩⟩ := hc
      · exact ld_glob (X := X.suite a ((a, oe3) :: (X.pn ++ pins))) S3 hg hm q hdbg
      · exact ld_blt (X := X.suite a ((a, oe3) :: (X.pn ++ pins))) S3 hg hm hv q hnn hdbg
    refine test (LM.here ?_)
    cases b with
    | true =>
      refine codeAny_handlers_suite_as ?_
      refine HandSPX.lands_againZ fl3 fun h4 fl4 up4 => ?_
      have J4 : Inv X pins σ' H' { s' with heap := h4 } := J.landed nb fl4.1 ((up.trans up3).trans up4) os ag
      obtain ⟨oe4, vs4, he4, hz4, hd4⟩ := fl4.there
      have S4 := J4.suite he4 hd4 na nL nF
      refine store_ok (X := X.suite a ((a, oe4) :: (X.pn ++ pins))) (v := .ref a) S4 hN hi hloc rfl (fun s5 S5 => ?_) (.inr hln)
      refine wpAny_mono ((hsu a oe4 (X.pn ++ pins)).run [] s5 _ H' _ S5 (hyes rfl a na)) (fun f s6 hsp => ?_) (fun _ _ z => False.elim z)
      have end_ : ∀ {σ6 : L2.St} {H6 : Hp} {Q : Shared → Prop}, Inv (X.suite a ((a, oe4) :: (X.pn ++ pins))) [] σ6 H6 s6 → (∀ s7, Inv X pins (σ6.set i none) (L2.upd H6 a (exHO a cls d)) s7 → Q s7) →
          wpAny (model X.prog X.w) X.A (do bindName X.env n .none; unbindBehindTheSuite X.env n pos') (fun _ s7 => Q s7) X.xe s6 := fun {σ6 H6 Q} S6 hq => by
        have S7 : Inv X ((a, oe4) :: pins) σ6 H6 s6 := ⟨ok, S6.os, S6.bare, S6.base, S6.loc, S6.cell, S6.free, S6.freeC, fun p hp => S6.pin p (by
          show p ∈ (a, oe4) :: (X.pn ++ pins) ++ []
          rw [List.append_nil]
          rcases List.mem_append.mp hp with h | h
          · exact List.mem_cons_of_mem _ (List.mem_append_left _ h)
          · rcases List.mem_cons.mp h with h | h
            · rw [h]
              exact List.mem_cons_self
            · exact List.mem_cons_of_mem _ (List.mem_append_right _ h)), S6.hok, S6.len⟩
        exact gone_ok S7 hN hi hln fun s7 J7 => hq s7 (track J7 hz4 hd4 n0 npin)
      cases f with
      | next =>
        obtain ⟨σ6, H6, S6, q6⟩ := hsp
        exact end_ S6 fun s7 J7 => ⟨_, _, J7, q6⟩
      | brk =>
        obtain ⟨σ6, H6, S6, q6⟩ := hsp
        exact end_ S6 fun s7 J7 => ⟨_, _, J7, q6⟩
      | cont =>
        obtain ⟨σ6, H6, S6, q6⟩ := hsp
        exact end_ S6 fun s7 J7 => ⟨_, _, J7, q6⟩
      | ret u =>
        obtain ⟨v6, σ6, H6, S6, r6, q6⟩ := hsp
        exact end_ S6 fun s7 J7 => ⟨_, _, _, J7, r6, q6⟩
    | false =>
      show wpAny _ X.A (handleBy (.ref a) X.env []) _ _ _
      refine wpAny_handleBy_nil ?_
      obtain ⟨k1, k2, k3, oe, vs, T, oT, ts', he, hz, hd, h1, hr⟩ := id fl3
      unfold PySem.passOn
      refine wpAny_bind (wpAny_field he hd h1 ?_)
      rw [if_neg (show ¬ ((Value.ref T == Value.none) = true) from by simp)]
      have fin : wpAny (model X.prog X.w) X.A (setFlight (.ref a) X.env.frame) (fun _ s4 => wpAny (model X.prog X.w) X.A (throw (.ref a) : Sem Flow) (SP X pins D) X.xe s4) X.xe { s' with heap := h3 } := by
        rw [hf]
        refine HandSPX.setFlight_upZ fl3 fun h4 hh4 up4 => wpAny_throw (tk _ _ ?_)
        exact ⟨a, B, sI, pins, σ', H', cls, d, rfl, J, nb, (up.trans up3).trans up4, .inr (.inr (by rw [hs]; exact hh4)), na, os, ag, hno rfl⟩
      first
        | exact wpAny_bind (wpAny_pure (wpAny_bind fin))
        | exact wpAny_bind fin
  · cases f with
    | next =>
      obtain ⟨σ', H', J', q⟩ := hsp
      exact wpAny_execs_nil ⟨σ', H', J'.ofTry ok, q⟩
    | brk =>
      obtain ⟨σ', H', J', q⟩ := hsp
      exact ⟨σ', H', J'.ofTry ok, q⟩
    | cont =>
      obtain ⟨σ', H', J', q⟩ := hsp
      exact ⟨σ', H', J'.ofTry ok, q⟩
    | ret u =>
      obtain ⟨v, σ', H', J', r, q⟩ := hsp
      exact ⟨v, σ', H', J'.ofTry ok, r, q⟩
end
/-! ### isinstance -/
/-- isinstance(x, c): x a tracked exception, or any other thing -/
def rIsX (K : PySem.W.Frag) : List V → Hp → VK → Prop := fun xs H Q =>
  (∃ (a D : Addr) (d : Option Addr) (c : V) (cv : Value) (b : Bool), xs = [.ref a, c] ∧ H a = some (exHO a (.ref D) d) ∧ (∀ dd, d = some dd → ∃ fs, H dd = some (.xd fs)) ∧ ExcC K D ∧ (∀ u, RelV c u → u = cv) ∧ PySem.W.kitOne K (.ref D) cv = some b ∧ Q (.bl b) H) ∨ rIsi K xs H Q
theorem call_isX {X : Cx} : CallR X (.builtin "isinstance") (rIsX X.K) := by
  intro pins s σ H xs us Q I r h
  rcases h with ⟨a, D, d, c, cv, b, rfl, ha, hdd, C, hcv, e, q⟩ | h
  · cases r with
    | cons rx rr =>
      cases rr with
      | cons rt rr =>
        cases rr
        cases rx
        have ec := hcv _ rt
        subst ec
        obtain ⟨oe, vs, hget, hz, hv⟩ := exHO_at I.hok ha
        obtain ⟨od, J⟩ : ∃ od, PySem.W.InstAt s.heap a oe D od := by
          cases d with
          | none =>
            obtain ⟨oc, od, oda, osl⟩ := oe
            obtain ⟨h1, h2⟩ := hz
            dsimp only at h1 h2 hv
            subst h1 h2 hv
            exact ⟨none, hget, rfl, rfl, trivial⟩
          | some dd =>
            obtain ⟨fs, hfs⟩ := hdd dd rfl
            have x : ObjOk X.prog X.w H s.heap dd (.xd fs) := I.hok dd _ hfs
            obtain ⟨mA, ⟨o, es, ep, ho, _⟩, _⟩ := x
            obtain ⟨oc, od, oda, osl⟩ := oe
            obtain ⟨h1, h2⟩ := hz
            dsimp only at h1 h2 hv
            subst h1 h2 hv
            exact ⟨some o, hget, rfl, rfl, ho⟩
        have hcl : (PySem.W.clsIn X.K D).isSome = true := by
          obtain ⟨cd, hc, _⟩ := PySem.W.any_some C.hd
          rw [hc]
          rfl
        exact PySem.W.kia_one (PySem.W.kitx_exc hcl C.hg C.hk C.hs C.ha C.hn C.ht C.hm) I.kIn J e (fun z => nomatch z) fun tk => ⟨.bl b, H, I.kept (t' := tk) fun _ _ z => z, rfl, q⟩
  · exact call_isi pins s σ H xs us Q I r h
theorem call_isXK {X : Cx} (K : PySem.W.Frag) (e : X.K = K) : CallR X (.builtin "isinstance") (rIsX K) := by subst e; exact call_isX
section
variable {σ σ' : L2.St} {H : Hp} {Q : VK} {nx bk ct : L2.St → Hp → Prop} {rt : VK} {K : PySem.W.Frag} {a D C : Addr} {d : Option Addr} {cls c : Value} {b : Bool} {i : Nat}
theorem i_isXR (h : H a = some (exHO a (.ref D) none)) (e : ExcC K D) (k : PySem.W.kitOne K (.ref D) (.ref C) = some b) (q : Q (.bl b) H) : rIsX K [.ref a, .ref C] H Q :=
  .inl ⟨a, D, none, .ref C, .ref C, b, rfl, h, fun _ z => (nomatch z), e, fun _ z => z, k, q⟩
theorem i_isXT {T : String} (h : H a = some (exHO a (.ref D) none)) (e : ExcC K D) (k : PySem.W.kitOne K (.ref D) (.type T) = some b) (q : Q (.bl b) H) : rIsX K [.ref a, .ty T] H Q :=
  .inl ⟨a, D, none, .ty T, .type T, b, rfl, h, fun _ z => (nomatch z), e, fun _ z => z, k, q⟩
theorem i_isXRd {dd : Addr} {fs : List (Str × V)} (h : H a = some (exHO a (.ref D) (some dd))) (hd : H dd = some (.xd fs)) (e : ExcC K D) (k : PySem.W.kitOne K (.ref D) (.ref C) = some b) (q : Q (.bl b) H) : rIsX K [.ref a, .ref C] H Q :=
  .inl ⟨a, D, some dd, .ref C, .ref C, b, rfl, h, fun x z => by cases z; exact ⟨fs, hd⟩, e, fun _ z => z, k, q⟩
theorem i_isXTd {T : String} {dd : Addr} {fs : List (Str × V)} (h : H a = some (exHO a (.ref D) (some dd))) (hd : H dd = some (.xd fs)) (e : ExcC K D) (k : PySem.W.kitOne K (.ref D) (.type T) = some b) (q : Q (.bl b) H) : rIsX K [.ref a, .ty T] H Q :=
  .inl ⟨a, D, some dd, .ty T, .type T, b, rfl, h, fun x z => by cases z; exact ⟨fs, hd⟩, e, fun _ z => z, k, q⟩
theorem i_isXi {t : String} {x : V} {c : String} (ty : TyX K H x (.type t)) (h : kitB t c = some b) (q : Q (.bl b) H) : rIsX K [x, .ty c] H Q := .inr ⟨x, .ty c, .type t, .type c, b, rfl, .ty c, ty, kit_ty h, q⟩
theorem i_isXo {t : String} {x : V} (ty : TyX K H x (.type t)) (h : PySem.W.kitOne K (.type t) (.ref C) = some b) (q : Q (.bl b) H) : rIsX K [x, .ref C] H Q := .inr ⟨x, .ref C, .type t, .ref C, b, rfl, .own C, ty, h, q⟩
/-! ### the steps -/
theorem i_callS {sp : Sp} {E : L2.St → XK} {t : TA} (h : t σ H fun vs H1 => sp vs H1 Q (E σ)) : tCallS sp E t σ H Q := h
theorem i_try {ts : TS} {Wout : WX} {tb : WX → TS} (h : tb (wAsT K c i ts Wout ⟨nx, rt, bk, ct⟩) ⟨nx, rt, bk, ct⟩ σ H) : tTryAs K c i ts Wout tb ⟨nx, rt, bk, ct⟩ σ H := h
theorem i_caught {τ : Addr → L2.St} {ts : TS} {Wout : WX} (e : PySem.W.exmOne K cls c = some true) (s : ∀ a, List.set σ i (some (V.ref a)) = τ a) (h : ∀ a, H a = none → ts ⟨nxAs i a cls d nx, rtAs a cls d rt, nxAs i a cls d bk, nxAs i a cls d ct⟩ (τ a) H) : wAsT K c i ts Wout ⟨nx, rt, bk, ct⟩ cls d σ H :=
  ⟨true, e, fun _ a na => by
    show ts _ (List.set σ i (some (V.ref a))) H
    rw [s a]
    exact h a na, fun z => nomatch z⟩
theorem i_nxAs (s : List.set σ i none = σ') (q : nx σ' (L2.upd H a (exHO a cls d))) : nxAs i a cls d nx σ H := by
  subst s
  exact q
theorem i_rtAs {v : V} (q : rt v (L2.upd H a (exHO a cls d))) : rtAs a cls d rt v H := q
theorem i_isnR (q : Q (.bl false) H) : V.non = V.non ∧ Q (.bl (decide (V.ref a = V.non))) H := ⟨rfl, by
  rw [decide_eq_false (fun z => by cases z)]
  exact q⟩
theorem i_isnN (q : Q (.bl true) H) : V.non = V.non ∧ Q (.bl (decide (V.non = V.non))) H := ⟨rfl, by
  rw [decide_eq_true rfl]
  exact q⟩
end
/-! ### what is known of the classes -/
structure ClsT (K : PySem.W.Frag) (C : Addr) : Prop where
  ic : PySem.W.isClsIn K C = true
  ty : PySem.W.typeIn K (.ref C) = some (.type "type")
section
variable {K : PySem.W.Frag} {C D : Addr} {b : Bool}
theorem kit_clsT (c : ClsT K C) {t : Value} (h : PySem.W.subIn K t (.ref C) = some b) : PySem.W.kitCls K t (.ref C) = some b := by
  have h2 : (PySem.W.clsIn K C).isSome = true := c.ic
  show (if ((PySem.W.clsIn K C).isSome && PySem.W.typeIn K (.ref C) == some (.type "type")) = true then PySem.W.subIn K t (.ref C) else none) = some b
  rw [if_pos (by rw [h2, c.ty]; rfl)]
  exact h
theorem kit_t (c : ClsT K C) (h : PySem.W.subIn K (.ref D) (.ref C) = some true) : PySem.W.kitOne K (.ref D) (.ref C) = some true := by
  unfold PySem.W.kitOne
  split
  · rfl
  · exact kit_clsT c h
theorem kit_f (c : ClsT K C) (hs : PySem.W.subIn K (.ref D) (.ref D) = some true) (h : PySem.W.subIn K (.ref D) (.ref C) = some false) : PySem.W.kitOne K (.ref D) (.ref C) = some false := by
  unfold PySem.W.kitOne
  split
  · rename_i z
    have e : D = C := Value.ref.inj (beq_iff_eq.mp z)
    subst e
    rw [hs] at h
    cases h
  · exact kit_clsT c h
theorem kit_o (c : ClsT K C) {t : String} (h : PySem.W.subIn K (.type t) (.ref C) = some b) : PySem.W.kitOne K (.type t) (.ref C) = some b := by
  unfold PySem.W.kitOne
  rw [if_neg (by rw [beq_iff_eq]; exact fun z => nomatch z)]
  exact kit_clsT c h
theorem kit_v {T : String} (h : PySem.W.subIn K (.ref D) (.type T) = some b) (hm : PySem.W.kitMeta T = true) : PySem.W.kitOne K (.ref D) (.type T) = some b := by
  unfold PySem.W.kitOne
  rw [if_neg (by rw [beq_iff_eq]; exact fun z => nomatch z)]
  show (if PySem.W.kitMeta T = true then PySem.W.subIn K (.ref D) (.type T) else none) = some b
  rw [if_pos hm]
  exact h
theorem exm_t (c : ClsT K C) (hb : PySem.W.subIn K (.ref C) (.type "BaseException") = some true) (h : PySem.W.subIn K (.ref D) (.ref C) = some b) : PySem.W.exmOne K (.ref D) (.ref C) = some b := by
  show (if (PySem.W.subIn K (.ref C) (.type "BaseException") == some true) = true then PySem.W.kitCls K (.ref D) (.ref C) else none) = some b
  rw [if_pos (by rw [hb]; rfl)]
  exact kit_clsT c h
end
/-! ### counts of flat things -/
def rCntV (K : PySem.W.Frag) : V → List V → Hp → VK → Prop := fun x xs H Q => ∃ (p : Addr) (ys : List V) (y : V), x = .ref p ∧ xs = [y] ∧ SqL K H p ys ∧ flatV y = true ∧ ys.all flatV = true ∧ Q (.int (ys.countP fun z => eqV z y : Nat)) H
theorem cnt_flat {u : Value} {y : V} (ry : RelV y u) (fy : flatV y = true) : ∀ {ys : List V} {us : List Value}, Vals ys us → ys.all flatV = true → us.countP (eqU y) = ys.countP fun z => eqV z y
  | [], [], .nil, _ => rfl
  | z :: r, _ :: _, .cons rz t, f => by
    have f1 : flatV z = true := (List.all_eq_true.mp f) z List.mem_cons_self
    have f2 : r.all flatV = true := List.all_eq_true.mpr fun q hq => (List.all_eq_true.mp f) q (List.mem_cons_of_mem _ hq)
    rw [List.countP_cons, List.countP_cons, cnt_flat ry fy t f2, eqU_of rz f1]
theorem mt_lcountV {X : Cx} : MtR X "list.count" (rCntV X.K) := by
  intro pins s σ H x xs v us Q I rx rxs h
  obtain ⟨p, ys, y, rfl, rfl, hs, fy, fys, q⟩ := h
  cases rx
  obtain ⟨u, rfl, ru⟩ := rxs.one
  obtain ⟨its, rv, ⟨⟨cls, dd, data, sl⟩, n, ho, hc, hdn, hd⟩, hlen⟩ := I.list hs
  simp only at hc hd
  subst hc hd
  refine call_meets PySem.F.slot_list_count ⟨_, ho, rfl⟩ PySem.F.entry_list_count (PySem.F.args_list_count_2 _ _)
    (SeqAt.list_countAt p its.toArray n dd sl u (eqU y)) ⟨ho, fun u' hu' => mem_eqAt ru fy rv fys u' (by simpa using hu'), ?_⟩
  have ec : its.toArray.toList.countP (eqU y) = ys.countP fun z => eqV z y := cnt_flat ru fy rv fys
  refine ⟨.int _, H, I.tok _, ⟨s.toks, ?_⟩, q⟩
  show Value.int ((its.toArray.toList.countP (eqU y) : Nat) : Int) s.toks = Value.int _ s.toks
  rw [ec]
theorem mt_lcountVK {X : Cx} (K : PySem.W.Frag) (e : X.K = K) : MtR X "list.count" (rCntV K) := by subst e; exact mt_lcountV
theorem mt_indexK {X : Cx} (K : PySem.W.Frag) (e : X.K = K) : MtR X "list.index" (rIndex K) := by subst e; exact mt_index
theorem i_cntV {K : PySem.W.Frag} {H : Hp} {Q : VK} {p : Addr} {ys : List V} {y : V} {n : Nat} (h : SqL K H p ys) (f : flatV y = true) (g : ys.all flatV = true) (e : (ys.countP fun z => eqV z y) = n) (q : Q (.int (n : Nat)) H) : rCntV K (.ref p) [y] H Q :=
  ⟨p, ys, y, rfl, rfl, h, f, g, by rw [e]; exact q⟩
/-- the first place at which y stands -/
def firstAt (y : V) : List V → Nat → Option Nat
  | [], _ => none
  | z :: r, k => if eqV z y = true then some k else firstAt y r (k + 1)
theorem firstAt_is {y : V} : ∀ {ys : List V} {k j : Nat}, firstAt y ys k = some j → k ≤ j ∧ (∃ z, ys[j - k]? = some z ∧ eqV z y = true) ∧ ∀ (m : Nat) (z' : V), m < j - k → ys[m]? = some z' → eqV z' y = false
  | [], _, _, h => nomatch h
  | z :: r, k, j, h => by
    unfold firstAt at h
    split at h
    · rename_i c
      cases h
      rw [Nat.sub_self]
      exact ⟨Nat.le_refl _, ⟨z, rfl, c⟩, fun m z' hm => absurd hm (Nat.not_lt_zero _)⟩
    · rename_i c
      obtain ⟨h1, ⟨w, h2, h3⟩, h4⟩ := firstAt_is h
      refine ⟨by omega, ⟨w, ?_, h3⟩, fun m z' hm hz => ?_⟩
      · rw [show j - k = (j - (k + 1)) + 1 by omega, List.getElem?_cons_succ]
        exact h2
      · cases m with
        | zero =>
          rw [List.getElem?_cons_zero] at hz
          cases hz
          exact Bool.eq_false_iff.mpr c
        | succ m =>
          rw [List.getElem?_cons_succ] at hz
          exact h4 m z' (by omega) hz
theorem i_index {K : PySem.W.Frag} {H : Hp} {Q : VK} {p : Addr} {ys : List V} {y : V} {j : Nat} (h : SqL K H p ys) (f : flatV y = true) (g : ys.all flatV = true) (e : firstAt y ys 0 = some j) (q : Q (.int (j : Nat)) H) : rIndex K (.ref p) [y] H Q := by
  obtain ⟨_, ⟨z, h2, h3⟩, h4⟩ := firstAt_is e
  exact ⟨p, ys, y, j, z, rfl, rfl, h, f, g, h2, h3, h4, q⟩
/-! ### comprehensions over zip, kept where the second says so -/
def pickB : List V → List Bool → List V
  | x :: xs, c :: bs => if c = true then x :: pickB xs bs else pickB xs bs
  | _, _ => []
theorem pickB_more : ∀ {xs : List V} {bs : List Bool} {i : Nat} {x : V} {c : Bool}, xs[i]? = some x → bs[i]? = some c → pickB (xs.take (i + 1)) (bs.take (i + 1)) = pickB (xs.take i) (bs.take i) ++ (if c = true then [x] else [])
  | [], _, _, _, _, h, _ => by simp at h
  | _ :: _, [], _, _, _, _, h => by simp at h
  | y :: xs, d :: bs, 0, x, c, h1, h2 => by
    simp at h1 h2
    subst h1 h2
    simp [pickB]
  | y :: xs, d :: bs, i + 1, x, c, h1, h2 => by
    rw [List.getElem?_cons_succ] at h1 h2
    have ih := pickB_more h1 h2
    simp only [List.take_succ_cons, pickB]
    cases d
    · simp only [Bool.false_eq_true, if_false]
      exact ih
    · simp only [if_true, List.cons_append]
      rw [ih]
theorem pickB_len : ∀ (xs : List V) (bs : List Bool), (pickB xs bs).length ≤ xs.length
  | [], _ => by simp [pickB]
  | _ :: _, [] => by simp [pickB]
  | y :: xs, d :: bs => by
    have := pickB_len xs bs
    unfold pickB
    split
    · simp
      omega
    · simp
      omega
section
variable {σ : L2.St} {H H1 : Hp} {Q : VK} {K : PySem.W.Frag} {D a b : Addr} {wi : TI} {g : TG} {tt : TT} {te : TE} {vs : List Nat} {xs ys : List V} {Qd : Hp → Prop}
theorem lcZ_pick (bs : List Bool) (hb : ys = bs.map V.bl) (nD : H1 D = none) (hn : xs.length ≤ 1000) (hl : xs.length = bs.length) (hx : SqL K H1 a xs) (hy : SqL K H1 b ys)
    (hs : ∀ (i : Nat) (x : V) (c : Bool) (T : Addr) H (Z : VK) (Y : Hp → Prop), xs[i]? = some x → bs[i]? = some c → Same H1 H → H T = none → (c = true → ∀ H4, Same H H4 → Z x H4) → (c = false → ∀ H4, Same H H4 → Y H4) → LcTurn g tt te vs σ (.ref T) (L2.upd H T (.tup [x, .bl c])) Z Y)
    (hd : ∀ H, Same H1 H → H D = some (.lst (pickB xs bs)) → Qd H) :
    ∃ W : Nat → Nat → Hp → Prop, (∃ m, W 0 m (L2.upd H1 D (.lst []))) ∧ ∀ i m H, W i m H →
      ((Itz K a b).stop i H ∧ Qd H) ∨ ((Itz K a b).go i H ∧ ∃ Nx : Hp → Prop, (∀ H', Nx H' → ∃ m', m' < m ∧ W (i + 1) m' H') ∧ ∀ x H', (Itz K a b).yld i H x H' → g x (wipe σ vs) H' fun σ2 H2 => wipe σ2 vs = wipe σ vs ∧ tt σ2 H2 fun b H3 =>
        if b = true then te σ2 H3 fun y H4 => ∃ acc, H4 D = some (.lst acc) ∧ acc.length < sizeLine ∧ Nx (L2.upd H4 D (.lst (acc ++ [y]))) else Nx H3) := by
  subst hb
  let P : Nat → Hp → Prop := fun i H => Same H1 H ∧ H D = some (.lst (pickB (xs.take i) (bs.take i)))
  refine ⟨fun i m H => m = xs.length - i ∧ i ≤ xs.length ∧ P i H, ⟨xs.length, by simp, Nat.zero_le _, Same.new nD, by rw [List.take_zero, List.take_zero]; exact L2.upd_same⟩, ?_⟩
  rintro i m H ⟨rfl, hi, hsame, hD⟩
  by_cases hlt : i < xs.length
  · have hx' : xs[i]? = some xs[i] := List.getElem?_eq_getElem hlt
    have hlt2 : i < bs.length := by omega
    have hy' : bs[i]? = some bs[i] := List.getElem?_eq_getElem hlt2
    have qx : SqL K H a xs := hsame.seq hx
    have qy : SqL K H b (bs.map V.bl) := hsame.seq hy
    have hy'' : (bs.map V.bl)[i]? = some (V.bl bs[i]) := by rw [List.getElem?_map, hy']; rfl
    have hz : (pickB (xs.take i) (bs.take i)).length < sizeLine := sz4' (by
      have := pickB_len (xs.take i) (bs.take i)
      rw [List.length_take] at this
      omega)
    refine .inr ⟨⟨xs, _, _, _, qx, qy, hx', hy''⟩, P (i + 1), fun H' p' => ⟨xs.length - (i + 1), by omega, rfl, hlt, p'⟩, fun v H' y => ?_⟩
    obtain ⟨T, x', y', rfl, hT, rfl, f1, f2⟩ := y
    have e1 := (f1 xs qx).symm.trans hx'
    have e2 := (f2 _ qy).symm.trans hy''
    cases e1
    cases e2
    refine hs i xs[i] bs[i] T H _ _ hx' hy' hsame hT (fun hc H4 h4 => ⟨_, h4 _ _ hD, hz, Same.mut (hsame.trans h4) nD, ?_⟩) (fun hc H4 h4 => ⟨hsame.trans h4, ?_⟩)
    · rw [L2.upd_same, pickB_more hx' hy', if_pos hc]
    · rw [h4 _ _ hD, pickB_more hx' hy', if_neg (by rw [hc]; exact Bool.false_ne_true), List.append_nil]
  · have e : i = xs.length := by omega
    subst e
    refine .inl ⟨⟨xs, _, hsame.seq hx, hsame.seq hy, Or.inl (Nat.le_refl _)⟩, hd H hsame ?_⟩
    rw [hD, List.take_length, hl, List.take_length]
theorem i_izip {ta : TA} {R : It → Hp → Prop} (h : ta σ H fun vs H1 => ∃ a b xs ys, vs = [.ref a, .ref b] ∧ SqL K H1 a xs ∧ SqL K H1 b ys ∧ R (Itz K a b) H1) : iZip K ta σ H R := h
theorem i_izip' {R : Addr → Addr → Prop} (h1 : SqL K H a xs) (h2 : SqL K H b ys) (q : R a b) : ∃ a' b' xs ys, [V.ref a, V.ref b] = [.ref a', .ref b'] ∧ SqL K H a' xs ∧ SqL K H b' ys ∧ R a' b' := ⟨a, b, xs, ys, rfl, h1, h2, q⟩
end
theorem pi_zipK {X : Cx} (K : PySem.W.Frag) (eK : X.K = K) {e e2 : Expr} {ta : TA} {p pos tpos : Pos} {elts : List Expr} {kk : Nat} (hg : Gl X "zip") (hm : X.mg "zip" = none) (ha : PA X [e, e2] ta)
    (hs : starEach [e, e2] X.env = (false, eval e X.env) :: starEach [e2] X.env := by rfl) (hpl : (backTo pos (starEach [e2] X.env)).any (·.1) = false := by rfl) :
    PI X (.Tuple elts kk tpos) (.Call (.Name "zip" p) [e, e2] [] pos) (iZip K ta) := by subst eK; exact pi_zip hg hm ha hs hpl
/-! ### lists of one text -/
theorem shaped_str1 {x : Str} (hx : PyData.strOk x = true) : SeqAt.shaped (.list [PyData.str x]) = true := by
  unfold SeqAt.shaped
  simp [PyData.canLay0, PyData.canLayAll0, PyData.depth, PyData.depthAll, hx]
theorem eqv_str1 (x : Str) : PyData.eqv (.list [PyData.str x]) (.list [PyData.str x]) = true := by simp [PyData.eqv, PyData.eqvAll]
theorem i_neS1 {K : PySem.W.Frag} {H : Hp} {Q : VK} {p r : Addr} {x : Str} (h1 : SqL K H p [.str x]) (h2 : SqL K H r [.str x]) (hx : PyData.strOk x = true) (q : Q (.bl false) H) : rNeD K (.ref p) (.ref r) H Q :=
  ⟨_, _, .lst h1 (.cons (.str x) .nil), .lst h2 (.cons (.str x) .nil), shaped_str1 hx, shaped_str1 hx, by rw [eqv_str1]; exact q⟩
theorem i_neT2 {K : PySem.W.Frag} {H : Hp} {Q : VK} {p r : Addr} {a b c d : Int} (h1 : SqT K H p [.int a, .int b]) (h2 : SqT K H r [.int c, .int d]) (q : Q (.bl (!(a == c && (b == d && true)))) H) : rNeD K (.ref p) (.ref r) H Q :=
  ⟨.tuple [.int a, .int b], .tuple [.int c, .int d], .tup h1 (.cons (.int a) (.cons (.int b) .nil)), .tup h2 (.cons (.int c) (.cons (.int d) .nil)), rfl, rfl, by
    have e : PyData.eqv (.tuple [.int a, .int b]) (.tuple [.int c, .int d]) = (a == c && (b == d && true)) := by simp [PyData.eqv, PyData.eqvAll]
    rw [e]
    exact q⟩
end Hf
/-! ## instances, their fields; dicts whose keys are tuples of ints -/
namespace Hf
open PySem PySem.Spec PyProof.Rows L2
section
variable {σ σ' : L2.St} {H : Hp} {Q : VK} {x y v : V} {i j k : Int} {nx bk ct : L2.St → Hp → Prop} {rt : VK} {K : PySem.W.Frag} {a C dx p d : Addr} {fs : List (Str × V)} {f m : Str} {sp : Sp} {E : XK} {kvs : List (List Key × V)} {r : Option V}
def FldR (K : PySem.W.Frag) (f : Str) (x : V) (H : Hp) (Q : VK) : Prop := ∃ a C dx fs v, x = V.ref a ∧ H a = some (.ins C dx fs) ∧ Cls K C ∧ NoAttr K C f ∧ fs.lookup f = some v ∧ Q v H
theorem i_fld {ta : TE} (h : ta σ H fun x H1 => FldR K f x H1 Q) : tFld K ta f σ H Q := h
theorem i_fldR (h : H a = some (.ins C dx fs)) (c : Cls K C) (n : NoAttr K C f) (l : fs.lookup f = some v) (q : Q v H) : FldR K f (.ref a) H Q := ⟨a, C, dx, fs, v, rfl, h, c, n, l, q⟩
def SetR (K : PySem.W.Frag) (f : Str) (y x : V) (H : Hp) (Z : Hp → Prop) : Prop := ∃ a C dx fs, x = V.ref a ∧ H a = some (.ins C dx fs) ∧ Cls K C ∧ NoAttr K C f ∧ fs.length < 1000 ∧ Z (upd H a (.ins C dx (putF f y fs)))
theorem i_sfld {ta tv : TE} (h : tv σ H fun y H1 => ta σ H1 fun x H2 => SetR K f y x H2 (nx σ)) : sFld K ta tv f ⟨nx, rt, bk, ct⟩ σ H := h
theorem i_setR {Z : Hp → Prop} (h : H a = some (.ins C dx fs)) (c : Cls K C) (n : NoAttr K C f) (l : fs.length < 1000) (q : Z (upd H a (.ins C dx (putF f y fs)))) : SetR K f y (.ref a) H Z := ⟨a, C, dx, fs, rfl, h, c, n, l, q⟩
def MethR (C : Addr) (m : Str) (x : V) (H : Hp) (R : Prop) : Prop := ∃ a dx fs, x = V.ref a ∧ H a = some (.ins C dx fs) ∧ fs.lookup m = none ∧ R
theorem i_meth {ta : TE} {t : TA} (h : ta σ H fun x H1 => MethR C m x H1 (t σ H1 fun vs H2 => sp (x :: vs) H2 Q E)) : tMeth C m sp [] E ta t σ H Q := by
  have e : ∀ x : V, (fun vs H2 => sp (x :: (vs ++ [])) H2 Q E) = fun vs H2 => sp (x :: vs) H2 Q E := fun x => by
    funext vs H2
    rw [List.append_nil]
  show ta σ H (fun x H1 => ∃ a dx fs, x = .ref a ∧ H1 a = some (.ins C dx fs) ∧ fs.lookup m = none ∧ t σ H1 fun vs H2 => sp (x :: (vs ++ [])) H2 Q E)
  simp only [e]
  exact h
theorem i_methR {R : Prop} (h : H a = some (.ins C dx fs)) (l : fs.lookup m = none) (q : R) : MethR C m (.ref a) H R := ⟨a, dx, fs, rfl, h, l, q⟩
theorem i_make0 (h : ∀ x dx, H x = none → H dx = none → dx ≠ x → sp [.ref x] (upd (upd H dx (.own x)) x (.ins C dx [])) (fun v H2 => v = .non ∧ Q (.ref x) H2) E) : tMake C sp [] E tNil σ H Q := h
/-! ### dicts by tuples -/
def DgR (y x : V) (H : Hp) (R : Option V → Prop) : Prop := ∃ a o, x = V.ref a ∧ DGet H a y o ∧ R o
theorem i_dnotin {td ty : TE} (h : ty σ H fun y H1 => td σ H1 fun x H2 => DgR y x H2 fun o => Q (.bl (!o.isSome)) H2) : tDNotIn ty td σ H Q := h
theorem i_din {td ty : TE} (h : ty σ H fun y H1 => td σ H1 fun x H2 => DgR y x H2 fun o => Q (.bl o.isSome) H2) : tDIn ty td σ H Q := h
theorem i_dg3 {R : Option V → Prop} (h : H a = some (.dT kvs)) (e : H p = some (.tup [.int i, .int j, .int k])) (q : R (valV kvs [.inl i, .inl j, .inl k])) : DgR (.ref p) (.ref a) H R := ⟨a, _, rfl, DGet.t (k := [.inl i, .inl j, .inl k]) h e, q⟩
theorem i_dg2 {R : Option V → Prop} (h : H a = some (.dT kvs)) (e : H p = some (.tup [.int i, .int j])) (q : R (valV kvs [.inl i, .inl j])) : DgR (.ref p) (.ref a) H R := ⟨a, _, rfl, DGet.t (k := [.inl i, .inl j]) h e, q⟩
def DvR (x y : V) (H : Hp) (Q : VK) : Prop := ∃ a v, x = V.ref a ∧ DGet H a y (some v) ∧ Q v H
theorem i_dget {td ty : TE} (h : td σ H fun x H1 => ty σ H1 fun y H2 => DvR x y H2 Q) : tDGet td ty σ H Q := h
theorem i_dv3 (h : H a = some (.dT kvs)) (e : H p = some (.tup [.int i, .int j, .int k])) (l : valV kvs [.inl i, .inl j, .inl k] = some v) (q : Q v H) : DvR (.ref a) (.ref p) H Q := ⟨a, v, rfl, l ▸ DGet.t (k := [.inl i, .inl j, .inl k]) h e, q⟩
theorem i_dv2 (h : H a = some (.dT kvs)) (e : H p = some (.tup [.int i, .int j])) (l : valV kvs [.inl i, .inl j] = some v) (q : Q v H) : DvR (.ref a) (.ref p) H Q := ⟨a, v, rfl, l ▸ DGet.t (k := [.inl i, .inl j]) h e, q⟩
def DpR (v x y : V) (H : Hp) (Z : Hp → Prop) : Prop := ∃ a H4, x = V.ref a ∧ DPut H a y v H4 ∧ Z H4
theorem i_dput {td ty tv : TE} (h : tv σ H fun v H1 => td σ H1 fun x H2 => ty σ H2 fun y H3 => DpR v x y H3 (nx σ)) : sDPut td ty tv ⟨nx, rt, bk, ct⟩ σ H := h
theorem i_dp3 {Z : Hp → Prop} (h : H a = some (.dT kvs)) (e : H p = some (.tup [.int i, .int j, .int k])) (hz : kvs.length ≤ 1000000) (q : Z (upd H a (.dT (putK kvs [.inl i, .inl j, .inl k] v)))) : DpR v (.ref a) (.ref p) H Z := ⟨a, _, rfl, DPut.t (k := [.inl i, .inl j, .inl k]) h e (sz4' hz), q⟩
theorem i_dp2 {Z : Hp → Prop} (h : H a = some (.dT kvs)) (e : H p = some (.tup [.int i, .int j])) (hz : kvs.length ≤ 1000000) (q : Z (upd H a (.dT (putK kvs [.inl i, .inl j] v)))) : DpR v (.ref a) (.ref p) H Z := ⟨a, _, rfl, DPut.t (k := [.inl i, .inl j]) h e (sz4' hz), q⟩
theorem i_dnewT (h : ∀ p, H p = none → Q (.ref p) (upd H p (.dT []))) : tDNewT σ H Q := h
/-! ### list(range(..)) -/
theorem i_lstRg {te : L2.St → Hp → (Int → Int → Hp → Prop) → Prop} (h : te σ H fun a b H1 => RgOk a b ∧ ∀ q, H1 q = none → Q (.ref q) (upd H1 q (.lst (rgV a b)))) : tLstRg te σ H Q := h
theorem i_rg1 {ta : TE} {R : Int → Int → Hp → Prop} (h : ta σ H fun x H1 => ∃ n, x = .int n ∧ R 0 n H1) : tRg1 ta σ H R := h
theorem i_rg2 {ta tb : TE} {R : Int → Int → Hp → Prop} (h : ta σ H fun x H1 => tb σ H1 fun y H2 => ∃ i j, x = .int i ∧ y = .int j ∧ R i j H2) : tRg2 ta tb σ H R := h
theorem i_rg2' {R : Int → Int → Prop} (q : R i j) : ∃ i' j', V.int i = .int i' ∧ V.int j = .int j' ∧ R i' j' := ⟨i, j, rfl, rfl, q⟩
theorem i_rg1' {R : Int → Prop} (q : R i) : ∃ i', V.int i = .int i' ∧ R i' := ⟨i, rfl, q⟩
theorem i_rgok {R : Addr → Prop} (h0 : 0 ≤ i) (h1 : j ≤ 16777216) (h2 : i ≤ 16777216) (h3 : 0 ≤ j) (q : ∀ q, H q = none → R q) : RgOk i j ∧ ∀ q, H q = none → R q := ⟨.of_le h0 h1 h2 h3, q⟩
end
theorem rg_ints (a b : Int) : rgV a b = ((List.range (b - a).toNat).map fun i : Nat => a + (i : Int)).map V.int := by
  unfold rgV
  rw [List.map_map]
  rfl
theorem But.mut {a : Addr} {H H1 : Hp} {D : Addr} {o : HO} (hp : H D = none) (x : But a H H1) : But a H (L2.upd H1 D o) := fun b u n h => by
  rw [upd_ne (ne_of_none h hp)]
  exact x b u n h
theorem But.mutS {a : Addr} {H H1 H2 : Hp} {D : Addr} (y : But D H1 H2) (hp : H D = none) (x : But a H H1) : But a H H2 := fun b u n h => y b u (ne_of_none h hp) (x b u n h)
end Hf
/-! ## sorted(.., reverse=True) of what falls; clear, extend -/
namespace Hf
open PySem PySem.Spec PyProof.Rows L2
theorem cr_sortedRevK {X : Cx} (K : PySem.W.Frag) (e : X.K = K) {b : Bool} : CallRK X (.builtin "sorted") [Str.ofString "reverse"] (rSortedKw K b [.bl b]) := by subst e; exact cr_sortedRev
section
variable {σ : L2.St} {H : Hp} {Q : VK} {K : PySem.W.Frag} {p r : Addr} {ns ms : List Int} {xs zs : List V}
theorem i_ckw {R : List V → List V → Hp → VK → Prop} {t tk : TA} (h : t σ H fun vs H1 => tk σ H1 fun zs H2 => R vs zs H2 Q) : tCKw R t tk σ H Q := h
theorem i_sortedRev (h : SqL K H p (ns.map V.int)) (hd : ns.Pairwise fun a b => b ≤ a) (q : ∀ p', H p' = none → Q (.ref p') (L2.upd H p' (.lst (ns.map V.int)))) : rSortedKw K true [.bl true] [.ref p] [.bl true] H Q :=
  ⟨p, ns, rfl, rfl, h, fun ns' p' hp ho hn => by
    have e : ns' = ns := List.Perm.eq_of_pairwise (le := fun a b : Int => b ≤ a) (fun a b _ _ h1 h2 => by
      have h1' : b ≤ a := h1
      have h2' : a ≤ b := h2
      omega) ho hd hp
    rw [e]
    exact q p' hn⟩
theorem i_clear (h : H p = some (.lst xs)) (q : Q .non (L2.upd H p (.lst []))) : rClear (.ref p) [] H Q := ⟨p, xs, rfl, rfl, h, q⟩
theorem i_extendN (h : H p = some (.lst [])) (h2 : H r = some (.lst zs)) (hz : zs.length ≤ 1000000) (q : Q .non (L2.upd H p (.lst zs))) : rExtend (.ref p) [.ref r] H Q := ⟨p, r, [], zs, rfl, rfl, h, h2, by rw [List.length_nil, Nat.zero_add]; exact sz4 hz, by rw [List.nil_append]; exact q⟩
end
/-- the heap is let go of but for what stood at first, and two things -/
theorem forget2 {P : Hp → Prop} {H H1 : Hp} {l f : Addr} {o u : HO} (s : Same H H1) (h1 : H1 l = some o) (h2 : H1 f = some u) (h : ∀ H', Same H H' → H' l = some o → H' f = some u → P H') : P H1 := h H1 s h1 h2
end Hf
namespace K15
open PySem PySem.Spec PyProof.Rows L2 Hf
local macro_rules | `(tactic| walk_at "g_ne") => `(tactic| first | assumption | (apply Hf.ne_at; assumption) | ((with_reducible refine' Hf.ne_new ?n9 ?h9); (case n9 => assumption); (case h9 => walk_at "g_lk")) | ((with_reducible refine' Hf.ne_new' ?n9 ?h9); (case n9 => assumption); (case h9 => walk_at "g_lk")) | fail "g_ne")
local macro_rules | `(tactic| walk_at "g_lk") => `(tactic| first | (with_reducible assumption) | (with_reducible exact L2.upd_same) | ((with_reducible refine' Hf.lk_new ?n9 ?h9); (case n9 => assumption); (case h9 => walk_at "g_lk")) | ((with_reducible refine' Hf.lk_updG ?g9 ?n9 ?h9); (case g9 => ((fail_if_success ((apply Hf.Guard.of); assumption)); exact trivial)); (case n9 => walk_at "g_ne"); (case h9 => walk_at "g_lk")) | ((with_reducible refine' Hf.lk_same ?n9 ?h9); (case n9 => assumption); (case h9 => walk_at "g_lk")) | ((with_reducible refine' Hf.lk_but ?m9 ?n9 ?h9); (case m9 => assumption); (case n9 => walk_at "g_ne"); (case h9 => walk_at "g_lk")) | ((with_reducible refine' Hf.lk_but2 ?m9 ?n9 ?n8 ?h9); (case m9 => assumption); (case n9 => walk_at "g_ne"); (case n8 => walk_at "g_ne"); (case h9 => walk_at "g_lk")) | fail "g_lk")
local macro_rules | `(tactic| walk_at "g_sq") => `(tactic| first | (with_reducible assumption) | (with_reducible exact L2.SqL.of L2.upd_same) | (with_reducible exact L2.SqT.of L2.upd_same) | (with_reducible exact L2.SqL.of (by assumption)) | (with_reducible exact L2.SqT.of (by assumption)) | ((with_reducible refine' Hf.lkL_new ?n9 ?h9); (case n9 => assumption); (case h9 => walk_at "g_sq")) | ((with_reducible refine' Hf.lkT_new ?n9 ?h9); (case n9 => assumption); (case h9 => walk_at "g_sq")) | ((with_reducible refine' Hf.lkL_updG ?g9 ?n9 ?h9); (case g9 => ((fail_if_success ((apply Hf.Guard.of); assumption)); exact trivial)); (case n9 => walk_at "g_ne"); (case h9 => walk_at "g_sq")) | ((with_reducible refine' Hf.lkT_updG ?g9 ?n9 ?h9); (case g9 => ((fail_if_success ((apply Hf.Guard.of); assumption)); exact trivial)); (case n9 => walk_at "g_ne"); (case h9 => walk_at "g_sq")) | ((with_reducible refine' L2.Same.seq ?n9 ?h9); (case n9 => assumption); (case h9 => walk_at "g_sq")) | ((with_reducible refine' Hf.Same.seqT ?n9 ?h9); (case n9 => assumption); (case h9 => walk_at "g_sq")) | ((with_reducible refine' Hf.But.seq ?m9 ?n9 ?h9); (case m9 => assumption); (case n9 => walk_at "g_ne"); (case h9 => walk_at "g_sq")) | ((with_reducible refine' Hf.But.seqT ?m9 ?n9 ?h9); (case m9 => assumption); (case n9 => walk_at "g_ne"); (case h9 => walk_at "g_sq")) | ((with_reducible refine' Hf.But2.seq ?m9 ?n9 ?n8 ?h9); (case m9 => assumption); (case n9 => walk_at "g_ne"); (case n8 => walk_at "g_ne"); (case h9 => walk_at "g_sq")) | ((with_reducible refine' Hf.But2.seqT ?m9 ?n9 ?n8 ?h9); (case m9 => assumption); (case n9 => walk_at "g_ne"); (case n8 => walk_at "g_ne"); (case h9 => walk_at "g_sq")) | fail "g_sq")
local macro_rules | `(tactic| walk_at "g_but") => `(tactic| first | exact Hf.But.refl _ _ | assumption | (refine Hf.But.newT (by assumption) ?_; walk_at "g_but") | (refine Hf.But.upd ?_; walk_at "g_but") | (refine Hf.But.transT (by assumption) ?_; walk_at "g_but") | (refine Hf.But.transS (by assumption) ?_; walk_at "g_but") | fail "g_but")
local macro_rules | `(tactic| walk_at "g_but2") => `(tactic| first | exact Hf.But2.refl _ _ _ | assumption | (refine Hf.But2.newT (by assumption) ?_; walk_at "g_but2") | (refine Hf.But2.updL ?_; walk_at "g_but2") | (refine Hf.But2.updR ?_; walk_at "g_but2") | (refine Hf.But2.transT (by assumption) ?_; walk_at "g_but2") | (refine Hf.But2.transS (by assumption) ?_; walk_at "g_but2") | (refine Hf.But2.transL (by assumption) ?_; walk_at "g_but2") | (refine Hf.But2.transR (by assumption) ?_; walk_at "g_but2") | (refine Hf.But2.mut (by assumption) ?_; walk_at "g_but2") | (refine Hf.But2.butT (by assumption) (by assumption) ?_; walk_at "g_but2") | fail "g_but2")
local macro_rules | `(tactic| walk_at "g_same") => `(tactic| first | exact L2.Same.refl _ | assumption | (refine Hf.Same.newT' (by assumption) ?_; walk_at "g_same") | (refine Hf.Same.mut ?_ (by walk_at "g_free"); walk_at "g_same") | (refine Hf.Same.butT (by assumption) (by walk_at "g_free") ?_; walk_at "g_same") | (refine Hf.Same.but2T (by assumption) (by walk_at "g_free") (by walk_at "g_free") ?_; walk_at "g_same") | (refine Hf.Same.transT (by assumption) ?_; walk_at "g_same") | fail "g_same")
local macro_rules | `(tactic| walk_at "g_free") => `(tactic| first | assumption | ((refine' Hf.Same.free' (by assumption) ?h7); (case h7 => walk_at "g_same")) | ((refine' Hf.But.free (by assumption) ?h7 ?h8); (case h7 => walk_at "g_but"); (case h8 => walk_at "g_lk")) | ((refine' Hf.But2.free (by assumption) ?h7 ?h8 ?h6); (case h7 => walk_at "g_but2"); (case h8 => walk_at "g_lk"); (case h6 => walk_at "g_lk")) | fail "g_free")
local macro_rules | `(tactic| walk_at "g_set") => `(tactic| first | exact Hf.set_z | exact (Hf.set_s Hf.set_z) | exact (Hf.set_s (Hf.set_s Hf.set_z)) | exact (Hf.set_s (Hf.set_s (Hf.set_s Hf.set_z))) | exact (Hf.set_s (Hf.set_s (Hf.set_s (Hf.set_s Hf.set_z)))) | exact (Hf.set_s (Hf.set_s (Hf.set_s (Hf.set_s (Hf.set_s Hf.set_z))))) | exact (Hf.set_s (Hf.set_s (Hf.set_s (Hf.set_s (Hf.set_s (Hf.set_s Hf.set_z)))))) | exact (Hf.set_s (Hf.set_s (Hf.set_s (Hf.set_s (Hf.set_s (Hf.set_s (Hf.set_s Hf.set_z))))))) | exact (Hf.set_s (Hf.set_s (Hf.set_s (Hf.set_s (Hf.set_s (Hf.set_s (Hf.set_s (Hf.set_s Hf.set_z)))))))) | exact (Hf.set_s (Hf.set_s (Hf.set_s (Hf.set_s (Hf.set_s (Hf.set_s (Hf.set_s (Hf.set_s (Hf.set_s Hf.set_z))))))))) | exact (Hf.set_s (Hf.set_s (Hf.set_s (Hf.set_s (Hf.set_s (Hf.set_s (Hf.set_s (Hf.set_s (Hf.set_s (Hf.set_s Hf.set_z)))))))))) | exact (Hf.set_s (Hf.set_s (Hf.set_s (Hf.set_s (Hf.set_s (Hf.set_s (Hf.set_s (Hf.set_s (Hf.set_s (Hf.set_s (Hf.set_s Hf.set_z))))))))))) | exact (Hf.set_s (Hf.set_s (Hf.set_s (Hf.set_s (Hf.set_s (Hf.set_s (Hf.set_s (Hf.set_s (Hf.set_s (Hf.set_s (Hf.set_s (Hf.set_s Hf.set_z)))))))))))) | exact (Hf.set_s (Hf.set_s (Hf.set_s (Hf.set_s (Hf.set_s (Hf.set_s (Hf.set_s (Hf.set_s (Hf.set_s (Hf.set_s (Hf.set_s (Hf.set_s (Hf.set_s Hf.set_z))))))))))))) | exact (Hf.set_s (Hf.set_s (Hf.set_s (Hf.set_s (Hf.set_s (Hf.set_s (Hf.set_s (Hf.set_s (Hf.set_s (Hf.set_s (Hf.set_s (Hf.set_s (Hf.set_s (Hf.set_s Hf.set_z)))))))))))))) | exact (Hf.set_s (Hf.set_s (Hf.set_s (Hf.set_s (Hf.set_s (Hf.set_s (Hf.set_s (Hf.set_s (Hf.set_s (Hf.set_s (Hf.set_s (Hf.set_s (Hf.set_s (Hf.set_s (Hf.set_s Hf.set_z))))))))))))))) | exact (Hf.set_s (Hf.set_s (Hf.set_s (Hf.set_s (Hf.set_s (Hf.set_s (Hf.set_s (Hf.set_s (Hf.set_s (Hf.set_s (Hf.set_s (Hf.set_s (Hf.set_s (Hf.set_s (Hf.set_s (Hf.set_s Hf.set_z)))))))))))))))) | exact (Hf.set_s (Hf.set_s (Hf.set_s (Hf.set_s (Hf.set_s (Hf.set_s (Hf.set_s (Hf.set_s (Hf.set_s (Hf.set_s (Hf.set_s (Hf.set_s (Hf.set_s (Hf.set_s (Hf.set_s (Hf.set_s (Hf.set_s Hf.set_z))))))))))))))))) | exact (Hf.set_s (Hf.set_s (Hf.set_s (Hf.set_s (Hf.set_s (Hf.set_s (Hf.set_s (Hf.set_s (Hf.set_s (Hf.set_s (Hf.set_s (Hf.set_s (Hf.set_s (Hf.set_s (Hf.set_s (Hf.set_s (Hf.set_s (Hf.set_s Hf.set_z)))))))))))))))))) | exact (Hf.set_s (Hf.set_s (Hf.set_s (Hf.set_s (Hf.set_s (Hf.set_s (Hf.set_s (Hf.set_s (Hf.set_s (Hf.set_s (Hf.set_s (Hf.set_s (Hf.set_s (Hf.set_s (Hf.set_s (Hf.set_s (Hf.set_s (Hf.set_s (Hf.set_s Hf.set_z))))))))))))))))))) | exact (Hf.set_s (Hf.set_s (Hf.set_s (Hf.set_s (Hf.set_s (Hf.set_s (Hf.set_s (Hf.set_s (Hf.set_s (Hf.set_s (Hf.set_s (Hf.set_s (Hf.set_s (Hf.set_s (Hf.set_s (Hf.set_s (Hf.set_s (Hf.set_s (Hf.set_s (Hf.set_s Hf.set_z)))))))))))))))))))) | exact (Hf.set_s (Hf.set_s (Hf.set_s (Hf.set_s (Hf.set_s (Hf.set_s (Hf.set_s (Hf.set_s (Hf.set_s (Hf.set_s (Hf.set_s (Hf.set_s (Hf.set_s (Hf.set_s (Hf.set_s (Hf.set_s (Hf.set_s (Hf.set_s (Hf.set_s (Hf.set_s (Hf.set_s Hf.set_z))))))))))))))))))))) | exact (Hf.set_s (Hf.set_s (Hf.set_s (Hf.set_s (Hf.set_s (Hf.set_s (Hf.set_s (Hf.set_s (Hf.set_s (Hf.set_s (Hf.set_s (Hf.set_s (Hf.set_s (Hf.set_s (Hf.set_s (Hf.set_s (Hf.set_s (Hf.set_s (Hf.set_s (Hf.set_s (Hf.set_s (Hf.set_s Hf.set_z)))))))))))))))))))))) | exact (Hf.set_s (Hf.set_s (Hf.set_s (Hf.set_s (Hf.set_s (Hf.set_s (Hf.set_s (Hf.set_s (Hf.set_s (Hf.set_s (Hf.set_s (Hf.set_s (Hf.set_s (Hf.set_s (Hf.set_s (Hf.set_s (Hf.set_s (Hf.set_s (Hf.set_s (Hf.set_s (Hf.set_s (Hf.set_s (Hf.set_s Hf.set_z))))))))))))))))))))))) | fail "g_set")
local macro_rules | `(tactic| walk_at "g_sz") => `(tactic| first | exact Hf.sz4 (by decide) | exact Hf.sz4' (by decide) | (refine Hf.sz4 ?_; simp; done) | (refine Hf.sz4 ?_; simp; omega) | (refine Hf.sz4 ?_; simp only [List.length_cons, List.length_nil, List.length_take, List.length_drop, List.length_map, List.length_append, List.length_replicate]; omega) | (refine Hf.sz4' ?_; simp; omega) | (refine Hf.sz4' ?_; omega) | (refine Hf.sz4 ?_; omega) | fail "g_sz")
local macro_rules | `(tactic| walk_at "g_at") => `(tactic| first | rfl | assumption | fail "g_at")
local macro_rules | `(tactic| walk_at "g_c") => `(tactic| first | assumption | omega | decide | (refine Hf.mulL ?_; omega) | (refine Hf.mulR ?_; omega) | (refine Hf.divS ?_ ?_ <;> omega) | (refine Hf.mulL ?_; split <;> omega) | (refine ⟨?_, ?_, ?_⟩ <;> first | omega | decide) | (refine ⟨?_, ?_⟩ <;> first | assumption | omega) | fail "g_c")
local macro_rules | `(tactic| walk_at "g_ixn") => `(tactic| first | (show L2.ixN _ _ = some 0; rfl) | (show L2.ixN _ _ = some 1; rfl) | (show L2.ixN _ _ = some 2; rfl) | (show L2.ixN _ _ = some 3; rfl) | (show L2.ixN _ _ = some 4; rfl) | (show L2.ixN _ _ = some 5; rfl) | (show L2.ixN _ _ = some 6; rfl) | (show L2.ixN _ _ = some 7; rfl) | assumption | fail "g_ixn")
local macro_rules | `(tactic| walk_at "g_pow") => `(tactic| first | (show (10 : Int) ^ (9 : Int).toNat = 1000000000; rfl) | (show (10 : Int) ^ (18 : Int).toNat = 1000000000000000000; rfl) | (show (10 : Int) ^ (20 : Int).toNat = 100000000000000000000; rfl) | (show (10 : Int) ^ (29 : Int).toNat = 100000000000000000000000000000; rfl) | (show (10 : Int) ^ (26 : Int).toNat = 100000000000000000000000000; rfl) | (show (10 : Int) ^ (10 : Int).toNat = 10000000000; rfl) | (show (10 : Int) ^ (19 : Int).toNat = 10000000000000000000; rfl) | (show (10 : Int) ^ (27 : Int).toNat = 1000000000000000000000000000; rfl) | (show (10 : Int) ^ (28 : Int).toNat = 10000000000000000000000000000; rfl) | (show (10 : Int) ^ (25 : Int).toNat = 10000000000000000000000000; rfl) | (show (10 : Int) ^ (30 : Int).toNat = 1000000000000000000000000000000; rfl) | (show (10 : Int) ^ (2 : Int).toNat = 100; rfl) | (show (10 : Int) ^ (3 : Int).toNat = 1000; rfl) | (show (_ : Int) ^ (3 : Int).toNat = _; rfl) | fail "g_pow")
local macro_rules | `(tactic| walk_at "g_ty") => `(tactic| first | exact .base .non | exact .base (.bl _) | exact .base (.int _) | exact .base (.str _) | exact .base (.lst (by walk_at "g_lk")) | exact .base (.tup (by walk_at "g_lk")) | exact .base (.dK (by walk_at "g_lk")) | exact .base (.dT (by walk_at "g_lk")) | fail "g_ty")
local macro_rules | `(tactic| walk_at "g_pre") => `(tactic| first | (with_reducible assumption) | walk_at "g_lk" | walk_at "g_sq" | walk_at "g_but" | walk_at "g_but2" | walk_at "g_same" | walk_at "g_free" | omega | (refine ⟨?_, ?_⟩ <;> omega) | exact .inl (by omega) | exact .inr (by omega) | assumption | fail "g_pre")
local macro_rules | `(tactic| walk_at "g_call") => `(tactic| fail "g_call: no rule")
local macro_rules | `(tactic| walk_at "g_val") => `(tactic| first
  | (with_reducible refine' Hf.i_I0 ?_)
  | ((with_reducible refine' Hf.i_pow ?k1 ?k2 ?_); (case k1 => walk_at "g_c"); (case k2 => walk_at "g_pow"))
  | ((with_reducible refine' Hf.i_I ?k1 ?_); (case k1 => walk_at "g_c"))
  | (with_reducible refine' Hf.i_U ?_)
  | (with_reducible refine' Hf.i_eqI ?_)
  | (with_reducible refine' Hf.i_neI ?_)
  | (with_reducible refine' Hf.i_eqB ?_)
  | (with_reducible refine' Hf.i_neB ?_)
  | (with_reducible refine' Hf.i_eqS ?_)
  | (with_reducible refine' Hf.i_neS ?_)
  | ((with_reducible refine' Hf.i_ixL ?k1 ?k2 ?_); (case k1 => walk_at "g_sq"); (case k2 => walk_at "g_at"))
  | ((with_reducible refine' Hf.i_ixT ?k1 ?k2 ?_); (case k1 => walk_at "g_sq"); (case k2 => walk_at "g_at"))
  | ((with_reducible refine' Hf.i_ix2I ?k1 ?k2 ?k3 ?_); (case k1 => walk_at "g_sq"); (case k2 => omega); (case k3 => omega); intro _ _)
  | ((with_reducible refine' Hf.i_ix3I ?k1 ?k2 ?k3 ?_); (case k1 => walk_at "g_sq"); (case k2 => omega); (case k3 => omega); intro _ _)
  | ((with_reducible refine' Hf.i_ix4I ?k1 ?k2 ?k3 ?_); (case k1 => walk_at "g_sq"); (case k2 => omega); (case k3 => omega); intro _ _)
  | ((with_reducible refine' Hf.i_ix3R ?k1 ?k2 ?k3 ?_); (case k1 => walk_at "g_sq"); (case k2 => omega); (case k3 => omega); intro _ _)
  | ((with_reducible refine' Hf.i_ix4R ?k1 ?k2 ?k3 ?_); (case k1 => walk_at "g_sq"); (case k2 => omega); (case k3 => omega); intro _ _)
  | (with_reducible refine' Hf.i_abs ?_)
  | (with_reducible refine' Hf.i_int2 ?_)
  | (with_reducible refine' Hf.i_int1 ?_)
  | (with_reducible refine' Hf.i_intb ?_)
  | ((with_reducible refine' Hf.i_isi ?k1 ?k2 ?_); (case k1 => walk_at "g_ty"); (case k2 => first | (show L2.kitB _ _ = some true; decide +kernel) | (show L2.kitB _ _ = some false; decide +kernel)))
  | ((with_reducible refine' Hf.i_lenL ?k1 ?_); (case k1 => walk_at "g_sq"))
  | ((with_reducible refine' Hf.i_lenT ?k1 ?_); (case k1 => walk_at "g_sq"))
  | ((with_reducible refine' Hf.i_appendM ?k1 ?k2 ?_); (case k1 => walk_at "g_lk"); (case k2 => walk_at "g_sz"))
  | ((with_reducible refine' Hf.i_append ?k1 ?k2 ?_); (case k1 => walk_at "g_lk"); (case k2 => walk_at "g_sz"))
  | ((with_reducible refine' Hf.i_bmL ?k1 ?_); (case k1 => walk_at "g_sq"))
  | ((with_reducible refine' Hf.i_setLast ?k1 ?k2 ?_); (case k1 => walk_at "g_lk"); (case k2 => first | omega | (simp; done) | (simp; omega)))
  | ((with_reducible refine' Hf.i_setM ?k1 ?k2 ?k3 ?_); (case k1 => walk_at "g_lk"); (case k2 => omega); (case k3 => first | omega | (simp; done) | (simp; omega)))
  | ((with_reducible refine' Hf.i_setL ?k1 ?k2 ?_); (case k1 => walk_at "g_lk"); (case k2 => walk_at "g_ixn"); (try dsimp only [List.set_cons_zero, List.set_cons_succ])) | fail "g_val")
local macro_rules | `(tactic| walk_at "g_val2") => `(tactic| first
  | ((with_reducible refine' Hf.i_slInitM ?k1 ?_); (case k1 => walk_at "g_sq"); intro _ _)
  | ((with_reducible refine' Hf.i_ixLast ?k1 ?k2 ?_); (case k1 => walk_at "g_sq"); (case k2 => first | omega | (simp; done) | (simp; omega)); intro _ _)
  | ((with_reducible refine' Hf.i_slToM ?k1 ?k2 ?_); (case k1 => walk_at "g_sq"); (case k2 => omega); intro _ _)
  | ((with_reducible refine' Hf.i_slFromM ?k1 ?k2 ?_); (case k1 => walk_at "g_sq"); (case k2 => omega); intro _ _)
  | ((with_reducible refine' Hf.i_slMidM ?k1 ?k2 ?k3 ?_); (case k1 => walk_at "g_sq"); (case k2 => omega); (case k3 => omega); intro _ _)
  | ((with_reducible refine' Hf.i_slTo ?k1 ?k2 ?_); (case k1 => walk_at "g_sq"); (case k2 => omega); intro _ _)
  | ((with_reducible refine' Hf.i_slFrom ?k1 ?k2 ?_); (case k1 => walk_at "g_sq"); (case k2 => omega); intro _ _)
  | ((with_reducible refine' Hf.i_slMid ?k1 ?k2 ?k3 ?_); (case k1 => walk_at "g_sq"); (case k2 => omega); (case k3 => omega); intro _ _)
  | ((with_reducible refine' Hf.i_eqT2 ?k1 ?k2 ?_); (case k1 => walk_at "g_sq"); (case k2 => walk_at "g_sq"))
  | (with_reducible refine' Hf.i_sl ?_)
  | ((with_reducible refine' Hf.i_lenA ?k1 ?_); (case k1 => first | exact Hf.lenA_map (by walk_at "g_sq") | exact Hf.lenA_L (by walk_at "g_sq") | exact Hf.lenA_T (by walk_at "g_sq")))
  | ((with_reducible refine' Hf.i_ixM ?k1 ?k2 ?k3 ?_); (case k1 => walk_at "g_sq"); (case k2 => omega); (case k3 => first | omega | (simp; omega)); intro _ _)
  | ((with_reducible refine' Hf.i_listOf ?k1 ?_); (case k1 => walk_at "g_sq"); intro _ _)
  | ((with_reducible refine' Hf.i_listOfT ?k1 ?_); (case k1 => walk_at "g_sq"); intro _ _)
  | ((with_reducible refine' Hf.i_sum ?k1 ?_); (case k1 => walk_at "g_sq"))
  | ((with_reducible refine' Hf.i_all ?k1 ?_); (case k1 => walk_at "g_sq"))
  | ((with_reducible refine' Hf.i_min ?k1 ?k2 ?_); (case k1 => walk_at "g_sq"); (case k2 => omega); intro _ _ _)
  | ((with_reducible refine' Hf.i_max ?k1 ?k2 ?_); (case k1 => walk_at "g_sq"); (case k2 => omega); intro _ _ _)
  | ((with_reducible refine' Hf.i_eqLI ?k1 ?k2 ?_); (case k1 => walk_at "g_sq"); (case k2 => walk_at "g_sq"))
  | ((with_reducible refine' Hf.i_neLI ?k1 ?k2 ?_); (case k1 => walk_at "g_sq"); (case k2 => walk_at "g_sq"))
  | ((with_reducible refine' Hf.i_eqL0 ?k1 ?k2 ?_); (case k1 => walk_at "g_sq"); (case k2 => walk_at "g_sq"))
  | ((with_reducible refine' Hf.i_eq00 ?k1 ?k2 ?_); (case k1 => walk_at "g_sq"); (case k2 => walk_at "g_sq"))
  | ((with_reducible refine' Hf.i_ne00 ?k1 ?k2 ?_); (case k1 => walk_at "g_sq"); (case k2 => walk_at "g_sq"))
  | ((with_reducible refine' Hf.i_reverse ?k1 ?_); (case k1 => walk_at "g_lk"))
  | ((with_reducible refine' Hf.i_glst ?k1 ?k2 ?_); (case k1 => walk_at "g_sq"); (case k2 => rfl))
  | (with_reducible refine' Hf.i_lc ?_)
  | ((with_reducible refine' Hf.i_turn ?k1 ?_); (case k1 => first | ((show L2.wipe _ [_] = _); (apply Hf.wipe_one); walk_at "g_set") | ((show L2.wipe _ [_, _] = _); (apply Hf.wipe_two); walk_at "g_set"; walk_at "g_set") | ((show L2.wipe _ [_, _, _] = _); (apply Hf.wipe_three); walk_at "g_set"; walk_at "g_set"; walk_at "g_set")))
  | ((with_reducible refine' Hf.i_wiped ?k1 ?_); (case k1 => rfl))
  | (with_reducible refine' Hf.i_yes ?_)
  | (with_reducible refine' Hf.i_nopart ?_)
  | (with_reducible refine' Hf.i_part ?_)
  | (with_reducible refine' Hf.i_exint ?_)
  | ((with_reducible refine' Hf.i_catM ?k1 ?k2 ?k3 ?_); (case k1 => walk_at "g_lk"); (case k2 => walk_at "g_lk"); (case k3 => (simp; omega)); intro _ _)
  | ((with_reducible refine' Hf.i_catM1 ?k1 ?k2 ?k3 ?_); (case k1 => walk_at "g_lk"); (case k2 => walk_at "g_lk"); (case k3 => first | omega | (simp; omega)); intro _ _)
  | ((with_reducible refine' Hf.i_cat ?k1 ?k2 ?k3 ?_); (case k1 => walk_at "g_lk"); (case k2 => walk_at "g_lk"); (case k3 => walk_at "g_sz"); intro _ _)
  | ((with_reducible refine' Hf.i_repM ?k1 ?k2 ?_); (case k1 => walk_at "g_lk"); (case k2 => omega); intro _ _)
  | ((with_reducible refine' Hf.i_rep1 ?k1 ?k2 ?_); (case k1 => walk_at "g_lk"); (case k2 => omega); intro _ _) | fail "g_val2")
local macro_rules | `(tactic| walk_at "g1") => `(tactic| first
  | ((with_reducible refine' Hf.i_var ?k1 ?_); (case k1 => rfl))
  | (with_reducible refine' Hf.i_c ?_)
  | (with_reducible refine' Hf.i_op ?_)
  | (with_reducible refine' Hf.i_cons ?_)
  | (with_reducible refine' Hf.i_nil ?_)
  | (with_reducible refine' Hf.i_seq ?_)
  | (with_reducible refine' Hf.i_asg ?_)
  | ((with_reducible refine' Hf.i_gname ?k1 ?_); (case k1 => walk_at "g_set"))
  | (with_reducible refine' Hf.i_ret ?_)
  | (with_reducible refine' Hf.i_next ?_)
  | (with_reducible refine' Hf.i_ifs ?_)
  | ((with_reducible refine' Hf.ite_y ?k1 ?_); (case k1 => rfl))
  | ((with_reducible refine' Hf.ite_n ?k1 ?_); (case k1 => rfl))
  | (with_reducible refine' Hf.i_test ?_)
  | (with_reducible refine' Hf.i_B ?_)
  | (with_reducible refine' Hf.i_bl ?_)
  | (with_reducible refine' Hf.i_call ?_)
  | (with_reducible refine' Hf.i_cb ?_)
  | (with_reducible refine' Hf.i_tup ?_)
  | (with_reducible refine' Hf.i_lst ?_)
  | ((with_reducible refine' Hf.i_new ?k1 ?_); (case k1 => walk_at "g_sz"); intro _ _)
  | (with_reducible refine' Hf.i_un ?_)
  | (with_reducible refine' Hf.i_and ?_)
  | (with_reducible refine' Hf.i_or ?_)
  | (with_reducible refine' Hf.i_not ?_)
  | (with_reducible refine' Hf.i_andV ?_)
  | (with_reducible refine' Hf.i_orV ?_)
  | (with_reducible refine' Hf.i_notV ?_)
  | (with_reducible refine' Hf.i_ife ?_)
  | (with_reducible refine' Hf.i_drop ?_)
  | (with_reducible refine' Hf.i_par ?_)
  | ((with_reducible refine' Hf.i_par2 ?k1 ?_); (case k1 => (apply Hf.set_par; walk_at "g_set"; walk_at "g_set")))
  | ((with_reducible refine' Hf.i_aug ?k1 ?_); (case k1 => rfl))
  | (with_reducible refine' Hf.i_ip ?_)
  | (with_reducible refine' Hf.i_bm ?_)
  | (with_reducible refine' Hf.i_bm0 ?_)
  | ((with_reducible refine' Hf.i_gtup ?k1 ?k2 ?_); (case k1 => walk_at "g_sq"); (case k2 => rfl))
  | (with_reducible refine' Hf.i_gcons ?_)
  | (with_reducible refine' Hf.i_gnil ?_)
  | (with_reducible refine' Hf.i_gsub ?_)
  | (with_reducible refine' Hf.i_for ?_)
  | (with_reducible refine' Hf.i_rng1 ?_)
  | ((with_reducible refine' Hf.i_rng1' ?k1 ?k2 ?_); (case k1 => omega); (case k2 => omega))
  | (with_reducible refine' Hf.i_rng2 ?_)
  | ((with_reducible refine' Hf.i_rng2' ?k1 ?_); (case k1 => omega))
  | (with_reducible refine' Hf.i_ilist ?_)
  | ((with_reducible refine' Hf.i_ilist' ?k1 ?_); (case k1 => walk_at "g_sq"))
  | (with_reducible refine' Hf.i_itup ?_)
  | ((with_reducible refine' Hf.i_itup' ?k1 ?_); (case k1 => walk_at "g_sq"))
  | (with_reducible refine' Hf.i_retN ?_)
  | (with_reducible refine' Hf.i_brk ?_)
  | (with_reducible refine' Hf.i_cnt ?_)
  | walk_at "g_val"
  | walk_at "g_val2"
  | walk_at "g_call"
  | (with_reducible refine' Hf.i_isn ?_)
  | (with_reducible refine' Hf.i_tru ?_)
  | dsimp only | fail "g1")
local macro_rules | `(tactic| walk_at "go") => `(tactic| repeat walk_at "g1")
local macro_rules | `(tactic| walk_at "goI") => `(tactic| repeat ((fail_if_success (with_reducible refine' Hf.i_ifs ?_)); walk_at "g1"))
local macro_rules | `(tactic| walk_at "goF") => `(tactic| repeat ((fail_if_success (with_reducible refine' Hf.i_for ?_)); walk_at "g1"))
local macro_rules | `(tactic| walk_at "g_kit") => `(tactic| fail "g_kit")
local macro_rules | `(tactic| walk_at "g_exc") => `(tactic| fail "g_exc")
local macro_rules | `(tactic| walk_at "g_exm") => `(tactic| fail "g_exm")
local macro_rules | `(tactic| walk_at "g_kitB") => `(tactic| first | (show L2.kitB _ _ = some true; decide +kernel) | (show L2.kitB _ _ = some false; decide +kernel))
local macro_rules | `(tactic| walk_at "g_val2") => `(tactic| first
  | ((with_reducible refine' Hf.i_isXi ?k1 ?k2 ?_); (case k1 => walk_at "g_ty"); (case k2 => walk_at "g_kitB"))
  | ((with_reducible refine' Hf.i_isXo ?k1 ?k2 ?_); (case k1 => walk_at "g_ty"); (case k2 => walk_at "g_kit"))
  | ((with_reducible refine' Hf.i_isXR ?k1 ?k2 ?k3 ?_); (case k1 => walk_at "g_lk"); (case k2 => walk_at "g_exc"); (case k3 => walk_at "g_kit"))
  | ((with_reducible refine' Hf.i_isXT ?k1 ?k2 ?k3 ?_); (case k1 => walk_at "g_lk"); (case k2 => walk_at "g_exc"); (case k3 => walk_at "g_kit"))
  | ((with_reducible refine' Hf.i_isXRd ?k1 ?k4 ?k2 ?k3 ?_); (case k1 => walk_at "g_lk"); (case k4 => walk_at "g_lk"); (case k2 => walk_at "g_exc"); (case k3 => walk_at "g_kit"))
  | ((with_reducible refine' Hf.i_isXTd ?k1 ?k4 ?k2 ?k3 ?_); (case k1 => walk_at "g_lk"); (case k4 => walk_at "g_lk"); (case k2 => walk_at "g_exc"); (case k3 => walk_at "g_kit"))
  | (with_reducible refine' Hf.i_callS ?_)
  | (with_reducible refine' Hf.i_try ?_)
  | ((with_reducible refine' Hf.i_caught ?k1 ?k2 ?_); (case k1 => walk_at "g_exm"); (case k2 => (intro _; walk_at "g_set")); intro _ _)
  | ((with_reducible refine' Hf.i_nxAs ?k1 ?_); (case k1 => walk_at "g_set"))
  | (with_reducible refine' Hf.i_rtAs ?_)
  | (with_reducible refine' Hf.i_izip ?_)
  | ((with_reducible refine' Hf.i_neT2 ?k1 ?k2 ?_); (case k1 => walk_at "g_sq"); (case k2 => walk_at "g_sq"))
  | ((with_reducible refine' Hf.i_neS1 ?k1 ?k2 ?k3 ?_); (case k1 => walk_at "g_sq"); (case k2 => walk_at "g_sq"); (case k3 => decide +kernel))
  | ((with_reducible refine' Hf.i_izip' ?k1 ?k2 ?_); (case k1 => walk_at "g_sq"); (case k2 => walk_at "g_sq"))
  | (with_reducible refine' Hf.i_isnR ?_)
  | (with_reducible refine' Hf.i_isnN ?_)
  | ((with_reducible refine' Hf.i_cntV ?k1 ?k2 ?k3 ?k4 ?_); (case k1 => walk_at "g_sq"); (case k2 => rfl); (case k3 => rfl); (case k4 => rfl))
  | ((with_reducible refine' Hf.i_index ?k1 ?k2 ?k3 ?k4 ?_); (case k1 => walk_at "g_sq"); (case k2 => rfl); (case k3 => rfl); (case k4 => rfl)) | fail "g_val2x")
local macro_rules | `(tactic| walk_at "g_no") => `(tactic| first | contradiction | omega | (simp_all; done) | fail "g_no")
local macro_rules | `(tactic| walk_at "g_but") => `(tactic| first | exact Hf.But.refl _ _ | assumption | (refine Hf.But.newT (by assumption) ?_; walk_at "g_but") | (refine Hf.But.upd ?_; walk_at "g_but") | (refine Hf.But.transT (by assumption) ?_; walk_at "g_but") | (refine Hf.But.transS (by assumption) ?_; walk_at "g_but") | (refine Hf.But.mut (by assumption) ?_; walk_at "g_but") | (refine Hf.But.mutS (by assumption) (by assumption) ?_; walk_at "g_but") | fail "g_but")
local macro_rules | `(tactic| walk_at "g_cls") => `(tactic| fail "g_cls")
local macro_rules | `(tactic| walk_at "g_val2") => `(tactic| first
  | (with_reducible refine' Hf.i_fld ?_)
  | ((with_reducible refine' Hf.i_fldR ?k1 ?k2 ?k3 ?k4 ?_); (case k1 => walk_at "g_lk"); (case k2 => walk_at "g_cls"); (case k3 => walk_at "g_cls"); (case k4 => first | rfl | decide +kernel))
  | (with_reducible refine' Hf.i_sfld ?_)
  | ((with_reducible refine' Hf.i_setR ?k1 ?k2 ?k3 ?k4 ?_); (case k1 => walk_at "g_lk"); (case k2 => walk_at "g_cls"); (case k3 => walk_at "g_cls"); (case k4 => decide))
  | (with_reducible refine' Hf.i_meth ?_)
  | ((with_reducible refine' Hf.i_methR ?k1 ?k4 ?_); (case k1 => walk_at "g_lk"); (case k4 => first | rfl | decide +kernel))
  | ((with_reducible refine' Hf.i_make0 ?_); intro _ _ _ _ _)
  | (with_reducible refine' Hf.i_dnotin ?_)
  | (with_reducible refine' Hf.i_din ?_)
  | ((with_reducible refine' Hf.i_dg3 ?k1 ?k2 ?_); (case k1 => walk_at "g_lk"); (case k2 => walk_at "g_lk"))
  | ((with_reducible refine' Hf.i_dg2 ?k1 ?k2 ?_); (case k1 => walk_at "g_lk"); (case k2 => walk_at "g_lk"))
  | (with_reducible refine' Hf.i_dget ?_)
  | ((with_reducible refine' Hf.i_dv3 ?k1 ?k2 ?k3 ?_); (case k1 => walk_at "g_lk"); (case k2 => walk_at "g_lk"); (case k3 => assumption))
  | ((with_reducible refine' Hf.i_dv2 ?k1 ?k2 ?k3 ?_); (case k1 => walk_at "g_lk"); (case k2 => walk_at "g_lk"); (case k3 => assumption))
  | (with_reducible refine' Hf.i_dput ?_)
  | ((with_reducible refine' Hf.i_dp3 ?k1 ?k2 ?k3 ?_); (case k1 => walk_at "g_lk"); (case k2 => walk_at "g_lk"); (case k3 => omega))
  | ((with_reducible refine' Hf.i_dp2 ?k1 ?k2 ?k3 ?_); (case k1 => walk_at "g_lk"); (case k2 => walk_at "g_lk"); (case k3 => omega))
  | ((with_reducible refine' Hf.i_dnewT ?_); intro _ _)
  | (with_reducible refine' Hf.i_lstRg ?_)
  | (with_reducible refine' Hf.i_rg1 ?_)
  | (with_reducible refine' Hf.i_rg2 ?_)
  | (with_reducible refine' Hf.i_rg2' ?_)
  | (with_reducible refine' Hf.i_rg1' ?_)
  | ((with_reducible refine' Hf.i_rgok ?k1 ?k2 ?k3 ?k4 ?_); (case k1 => omega); (case k2 => omega); (case k3 => omega); (case k4 => omega); intro _ _) | fail "g_val2o")
local macro_rules | `(tactic| walk_at "g_val2") => `(tactic| first
  | (with_reducible refine' Hf.i_ckw ?_)
  | ((with_reducible refine' Hf.i_sortedRev ?k1 ?k2 ?_); (case k1 => walk_at "g_sq"); (case k2 => assumption); intro _ _)
  | ((with_reducible refine' Hf.i_clear ?k1 ?_); (case k1 => walk_at "g_lk"))
  | ((with_reducible refine' Hf.i_extendN ?k1 ?k2 ?k3 ?_); (case k1 => walk_at "g_lk"); (case k2 => walk_at "g_lk"); (case k3 => first | omega | (simp; omega))) | fail "g_val2s")

/-! ### lists of lists of whole numbers -/
def RowsX (H : Hp) (xs : List V) (f : Nat → List Int) : Prop := xs.Nodup ∧ ∀ (j : Nat) (v : V), xs[j]? = some v → ∃ r, v = .ref r ∧ H r = some (.lst ((f j).map V.int))
def Off (xs : List V) (H H' : Hp) : Prop := ∀ b o, V.ref b ∉ xs → H b = some o → H' b = some o
theorem RowsX.same {H H' : Hp} {xs : List V} {f : Nat → List Int} (s : Same H H') (h : RowsX H xs f) : RowsX H' xs f := ⟨h.1, fun j v hv => by
  obtain ⟨r, e, q⟩ := h.2 j v hv
  exact ⟨r, e, s _ _ q⟩⟩
theorem RowsX.at_mem {H : Hp} {xs : List V} {f : Nat → List Int} (h : RowsX H xs f) {v : V} (hv : v ∈ xs) : ∃ r j, v = .ref r ∧ xs[j]? = some v ∧ H r = some (.lst ((f j).map V.int)) := by
  obtain ⟨j, hj⟩ := List.mem_iff_getElem?.mp hv
  obtain ⟨r, e, q⟩ := h.2 j v hj
  exact ⟨r, j, e, hj, q⟩
theorem RowsX.there {H : Hp} {xs : List V} {f : Nat → List Int} (h : RowsX H xs f) {r : Addr} (hv : V.ref r ∈ xs) : ∃ o, H r = some o := by
  obtain ⟨r', j, e, _, q⟩ := h.at_mem hv
  cases e
  exact ⟨_, q⟩
theorem RowsX.nil {H : Hp} {f : Nat → List Int} : RowsX H [] f := ⟨List.nodup_nil, fun j v h => by simp at h⟩
theorem RowsX.add {H H' : Hp} {xs : List V} {f : Nat → List Int} {p : Addr} (h : RowsX H xs f) (hp : H p = none) (s : Same H H') (hH : H' p = some (.lst ((f xs.length).map V.int))) : RowsX H' (xs ++ [.ref p]) f := by
  have np : V.ref p ∉ xs := fun m => by
    obtain ⟨o, q⟩ := h.there m
    rw [hp] at q
    cases q
  refine ⟨List.nodup_append.mpr ⟨h.1, by simp, fun a ha b hb => by
    rw [List.mem_singleton.mp hb]
    exact fun e => np (e ▸ ha)⟩, fun j v hv => ?_⟩
  by_cases c : j < xs.length
  · rw [List.getElem?_append_left c] at hv
    obtain ⟨r, e, q⟩ := h.2 j v hv
    exact ⟨r, e, s _ _ q⟩
  · have e : j = xs.length := by
      have := (List.getElem?_eq_some_iff.mp hv).1
      simp at this
      omega
    subst e
    rw [List.getElem?_append_right (Nat.le_refl _), Nat.sub_self] at hv
    simp at hv
    exact ⟨p, hv.symm, hH⟩
theorem nodup_at {xs : List V} (h : xs.Nodup) {i j : Nat} {v : V} (hi : xs[i]? = some v) (hj : xs[j]? = some v) : i = j := by
  obtain ⟨a1, b1⟩ := List.getElem?_eq_some_iff.mp hi
  obtain ⟨a2, b2⟩ := List.getElem?_eq_some_iff.mp hj
  have h' := List.pairwise_iff_getElem.mp h
  rcases Nat.lt_trichotomy i j with c | c | c
  · exact absurd (b1.trans b2.symm) (h' i j a1 a2 c)
  · exact c
  · exact absurd (b2.trans b1.symm) (h' j i a2 a1 c)
theorem RowsX.put {H : Hp} {xs : List V} {f : Nat → List Int} {i : Nat} {r : Addr} {ys : List Int} (h : RowsX H xs f) (hx : xs[i]? = some (.ref r)) : RowsX (L2.upd H r (.lst (ys.map V.int))) xs (fun j => if j = i then ys else f j) := by
  refine ⟨h.1, fun j v hv => ?_⟩
  obtain ⟨r', e, q⟩ := h.2 j v hv
  by_cases c : j = i
  · subst c
    rw [hx] at hv
    cases hv
    cases e
    exact ⟨r, rfl, by rw [L2.upd_same]; simp⟩
  · refine ⟨r', e, ?_⟩
    have n : r' ≠ r := fun z => by
      subst e
      subst z
      exact c (nodup_at h.1 hv hx)
    rw [L2.upd_ne n]
    simp [c]
    exact q
theorem RowsX.congr {H : Hp} {xs : List V} {f g : Nat → List Int} (h : RowsX H xs f) (e : ∀ j, j < xs.length → f j = g j) : RowsX H xs g := ⟨h.1, fun j v hv => by
  obtain ⟨r, e1, q⟩ := h.2 j v hv
  exact ⟨r, e1, by rw [← e j (List.getElem?_eq_some_iff.mp hv).1]; exact q⟩⟩
theorem Off.refl {xs : List V} {H : Hp} : Off xs H H := fun _ _ _ h => h
theorem Off.trans {xs : List V} {H H1 H2 : Hp} (a : Off xs H H1) (b : Off xs H1 H2) : Off xs H H2 := fun r o n h => b r o n (a r o n h)
theorem Off.of {xs : List V} {H H' : Hp} (s : Same H H') : Off xs H H' := fun r o _ h => s r o h
theorem Off.put {xs : List V} {H H1 : Hp} {r : Addr} {o : HO} (a : Off xs H H1) (hr : V.ref r ∈ xs) : Off xs H (L2.upd H1 r o) := fun b u n h => by
  rw [L2.upd_ne (fun z => n (by rw [z]; exact hr))]
  exact a b u n h
theorem Same.off {H0 H H' : Hp} {xs : List V} (s : Same H0 H) (n : ∀ r, V.ref r ∈ xs → H0 r = none) (o : Off xs H H') : Same H0 H' := fun b u h => o b u (fun m => by
  rw [n b m] at h
  cases h) (s b u h)
theorem dp_rows {K : PySem.W.Frag} {H : Hp} : ∀ (xs : List V) (f : Nat → List Int), (∀ (j : Nat) (v : V), xs[j]? = some v → ∃ r, v = .ref r ∧ H r = some (.lst ((f j).map V.int))) → DpAll K H xs ((List.range xs.length).map fun j => .list ((f j).map PyData.int))
  | [], f, _ => .nil
  | v :: xs, f, h => by
    rw [List.length_cons, List.range_succ_eq_map, List.map_cons, List.map_map]
    obtain ⟨r, rfl, q⟩ := h 0 v rfl
    exact .cons (.lst (SqL.of q) (dp_ints _)) (dp_rows xs (fun j => f (j + 1)) fun j w hw => h (j + 1) w (by simpa using hw))
theorem eqvAll_rows : ∀ l : List (List Int), PyData.eqvAll (l.map fun y => .list (y.map PyData.int)) (l.map fun y => .list (y.map PyData.int)) = true
  | [] => by simp [PyData.eqvAll]
  | y :: l => by
    rw [List.map_cons, PyData.eqvAll, eqvAll_rows l, PyData.eqv, eqvAll_ints]
    simp
theorem shaped_rows : ∀ l : List (List Int), SeqAt.shaped (.list (l.map fun y => .list (y.map PyData.int))) = true := by
  have h1 : ∀ l : List (List Int), PyData.canLayAll0 (l.map fun y => .list (y.map PyData.int)) = true := by
    intro l
    induction l with
    | nil => simp [PyData.canLayAll0]
    | cons y l ih =>
      rw [List.map_cons, PyData.canLayAll0, ih]
      simp [PyData.canLay0, canLay_ints]
  have h2 : ∀ l : List (List Int), PyData.depthAll (l.map fun y => .list (y.map PyData.int)) ≤ 2 := by
    intro l
    induction l with
    | nil => simp [PyData.depthAll]
    | cons y l ih =>
      have := depth_ints y
      rw [List.map_cons, PyData.depthAll]
      simp [PyData.depth]
      omega
  intro l
  unfold SeqAt.shaped
  have a := h1 l
  have b := h2 l
  simp [PyData.canLay0, PyData.depth, a]
  omega
theorem i_neRows {K : PySem.W.Frag} {H : Hp} {Q : VK} {p r : Addr} {xs ys : List V} {f : Nat → List Int} (h1 : SqL K H p xs) (h2 : SqL K H r ys) (r1 : RowsX H xs f) (r2 : RowsX H ys f) (e : xs.length = ys.length) (q : Q (.bl false) H) : rNeD K (.ref p) (.ref r) H Q := by
  have d1 := dp_rows (K := K) xs f r1.2
  have d2 := dp_rows (K := K) ys f r2.2
  rw [← e] at d2
  have e1 : ((List.range xs.length).map fun j => PyData.list ((f j).map PyData.int)) = ((List.range xs.length).map f).map fun y => .list (y.map PyData.int) := by rw [List.map_map]; rfl
  rw [e1] at d1 d2
  exact ⟨_, _, .lst h1 d1, .lst h2 d2, shaped_rows _, shaped_rows _, by rw [PyData.eqv, eqvAll_rows]; exact q⟩
theorem RowsX.upd {H : Hp} {xs : List V} {f : Nat → List Int} {D : Addr} {o : HO} (h : RowsX H xs f) (n : ∀ r, V.ref r ∈ xs → r ≠ D) : RowsX (L2.upd H D o) xs f := ⟨h.1, fun j v hv => by
  obtain ⟨r, e, q⟩ := h.2 j v hv
  refine ⟨r, e, ?_⟩
  rw [L2.upd_ne (n r (by rw [← e]; exact List.mem_of_getElem? hv))]
  exact q⟩
theorem RowsX.off {H H' : Hp} {xs zs : List V} {f : Nat → List Int} (h : RowsX H xs f) (o : Off zs H H') (n : ∀ r, V.ref r ∈ xs → V.ref r ∉ zs) : RowsX H' xs f := ⟨h.1, fun j v hv => by
  obtain ⟨r, e, q⟩ := h.2 j v hv
  exact ⟨r, e, o r _ (n r (by rw [← e]; exact List.mem_of_getElem? hv)) q⟩⟩
/-! ### sums -/
def sumF (f : Nat → Nat) : Nat → Nat
  | 0 => 0
  | n + 1 => sumF f n + f n
theorem sumF_congr {f g : Nat → Nat} : ∀ n, (∀ i, i < n → f i = g i) → sumF f n = sumF g n
  | 0, _ => rfl
  | n + 1, h => by
    show sumF f n + f n = sumF g n + g n
    rw [sumF_congr n fun i hi => h i (Nat.lt_succ_of_lt hi), h n (Nat.lt_succ_self n)]
theorem sumF_add (f g : Nat → Nat) : ∀ n, sumF (fun i => f i + g i) n = sumF f n + sumF g n
  | 0 => rfl
  | n + 1 => by
    show sumF (fun i => f i + g i) n + (f n + g n) = sumF f n + f n + (sumF g n + g n)
    rw [sumF_add f g n]
    omega
theorem sumF_zero : ∀ n, sumF (fun _ => 0) n = 0
  | 0 => rfl
  | n + 1 => by
    show sumF (fun _ => 0) n + 0 = 0
    rw [sumF_zero n]
theorem sumF_swap (h : Nat → Nat → Nat) (m : Nat) : ∀ n, sumF (fun i => sumF (fun j => h i j) m) n = sumF (fun j => sumF (fun i => h i j) n) m
  | 0 => by
    show 0 = sumF (fun _ => 0) m
    rw [sumF_zero]
  | n + 1 => by
    show sumF (fun i => sumF (fun j => h i j) m) n + sumF (fun j => h n j) m = sumF (fun j => sumF (fun i => h i j) n + h n j) m
    rw [sumF_add, sumF_swap h m n]
theorem sumF_shift (f : Nat → Nat) : ∀ n, sumF f (n + 1) = f 0 + sumF (fun i => f (i + 1)) n
  | 0 => by
    show 0 + f 0 = f 0 + 0
    omega
  | n + 1 => by
    show sumF f (n + 1) + f (n + 1) = f 0 + (sumF (fun i => f (i + 1)) n + f (n + 1))
    rw [sumF_shift f n]
    omega
theorem sumF_cut (f : Nat → Nat) (t : Nat) : ∀ m, sumF (fun i => if i + 1 ≤ t then f i else 0) m = sumF f (min t m)
  | 0 => by rw [Nat.min_zero]; rfl
  | m + 1 => by
    show sumF (fun i => if i + 1 ≤ t then f i else 0) m + (if m + 1 ≤ t then f m else 0) = _
    rw [sumF_cut f t m]
    by_cases c : m + 1 ≤ t
    · rw [if_pos c, Nat.min_eq_right (by omega), Nat.min_eq_right c]
      rfl
    · rw [if_neg c, Nat.min_eq_left (by omega), Nat.min_eq_left (by omega)]
      rfl
theorem sumF_list (f : Nat → Nat) : ∀ n, ((List.range n).map fun i => (f i : Int)).sum = (sumF f n : Nat)
  | 0 => rfl
  | n + 1 => by
    rw [List.range_succ, List.map_append, List.sum_append, sumF_list f n]
    show (sumF f n : Int) + ([(f n : Int)]).sum = ((sumF f n + f n : Nat) : Int)
    simp
/-! ### lists that never rise -/
def fallN : Nat → Nat → Nat → Nat
  | 0, t, _ => if t = 0 then 1 else 0
  | s + 1, t, m => if t = 0 then 1 else sumF (fun i => fallN s (t - (i + 1)) (i + 1)) (min t m)
def exStep (f : Nat → Nat → Nat) (p : Nat) : Nat → Nat → Nat
  | 0, t => f 0 t
  | m + 1, t => f (m + 1) t + if p ≤ t then exStep f p m (t - p) else 0
/-- into so many parts just, each at most p -/
def exN : Nat → Nat → Nat → Nat
  | 0 => fun m t => if m = 0 ∧ t = 0 then 1 else 0
  | p + 1 => exStep (exN p) (p + 1)
theorem ex_zero : ∀ p t, exN p 0 t = if t = 0 then 1 else 0
  | 0, t => by
    show (if 0 = 0 ∧ t = 0 then 1 else 0) = _
    simp
  | p + 1, t => ex_zero p t
theorem ex_succ (p m t : Nat) : exN (p + 1) (m + 1) t = exN p (m + 1) t + if p + 1 ≤ t then exN (p + 1) m (t - (p + 1)) else 0 := rfl
theorem ex_less {p m t : Nat} (h : t < p + 1) : exN (p + 1) m t = exN p m t := by
  cases m with
  | zero => rfl
  | succ m => rw [ex_succ, if_neg (by omega), Nat.add_zero]
theorem ex_sum (m t : Nat) : ∀ p, exN p (m + 1) t = sumF (fun i => if i + 1 ≤ t then exN (i + 1) m (t - (i + 1)) else 0) p
  | 0 => by
    show (if m + 1 = 0 ∧ t = 0 then 1 else 0) = 0
    simp
  | p + 1 => by
    rw [ex_succ, ex_sum m t p]
    rfl
theorem falls_eq : ∀ s t m, sumF (fun j => exN m j t) (s + 1) = fallN s t m
  | 0, t, m => by
    show 0 + exN m 0 t = _
    rw [ex_zero, Nat.zero_add]
    rfl
  | s + 1, t, m => by
    rw [sumF_shift, ex_zero, sumF_congr (s + 1) (fun j _ => ex_sum j t m), sumF_swap]
    rw [sumF_congr m (g := fun i => if i + 1 ≤ t then fallN s (t - (i + 1)) (i + 1) else 0) fun i _ => ?_]
    · rw [sumF_cut]
      show _ = if t = 0 then 1 else _
      by_cases c : t = 0
      · subst c
        rw [Nat.zero_min]
        rfl
      · rw [if_neg c, if_neg c, Nat.zero_add]
    · by_cases c : i + 1 ≤ t
      · rw [if_pos c, ← falls_eq s]
        exact sumF_congr _ fun j _ => if_pos c
      · rw [if_neg c]
        rw [sumF_congr (s + 1) (g := fun _ => 0) fun j _ => if_neg c]
        exact sumF_zero _
/-! ### what is known -/
theorem nodup_le : ∀ (n : Nat) (l : List Nat), l.Nodup → (∀ x ∈ l, x < n) → l.length ≤ n
  | 0, [], _, _ => Nat.le_refl _
  | 0, x :: l, _, h => absurd (h x List.mem_cons_self) (Nat.not_lt_zero _)
  | n + 1, l, hl, h => by
    have h1 := nodup_le n (l.erase n) (hl.erase n) fun x hx => by
      have a := (hl.mem_erase_iff).mp hx
      have := h x a.2
      omega
    rw [List.length_erase] at h1
    split at h1 <;> omega
def codeK : List Key → Nat
  | [.inl t, .inl s, .inl m] => (t.toNat * 9 + s.toNat) * 41 + m.toNat
  | _ => 0
def Good (kvs : List (List Key × V)) : Prop := (kvs.map fun p => codeK p.1).Nodup ∧ ∀ p ∈ kvs, ∃ t s m : Nat, t ≤ 40 ∧ s ≤ 8 ∧ m ≤ 40 ∧ p.1 = [.inl (t : Int), .inl (s : Int), .inl (m : Int)] ∧ p.2 = .int (fallN s t m : Nat)
theorem Good.nil : Good [] := ⟨List.nodup_nil, fun p h => absurd h List.not_mem_nil⟩
theorem Good.len {kvs : List (List Key × V)} (h : Good kvs) : kvs.length ≤ 15129 := by
  have := nodup_le 15129 _ h.1 fun x hx => by
    obtain ⟨p, hp, rfl⟩ := List.mem_map.mp hx
    obtain ⟨t, s, m, h1, h2, h3, e, _⟩ := h.2 p hp
    rw [e]
    show (((t : Int)).toNat * 9 + ((s : Int)).toNat) * 41 + ((m : Int)).toNat < 15129
    omega
  rw [List.length_map] at this
  exact this
theorem Good.val {kvs : List (List Key × V)} (h : Good kvs) {t s m : Int} {v : V} (e : valV kvs [.inl t, .inl s, .inl m] = some v) : v = .int (fallN s.toNat t.toNat m.toNat : Nat) := by
  unfold valV at e
  cases q : kvs.find? fun kv => decide (kv.1 = [.inl t, .inl s, .inl m]) with
  | none => rw [q] at e; cases e
  | some p =>
    rw [q] at e
    have h1 := List.mem_of_find?_eq_some q
    have h2 := List.find?_some q
    simp at h2
    obtain ⟨t', s', m', _, _, _, e1, e2⟩ := h.2 p h1
    rw [h2] at e1
    cases e1
    have e3 : v = p.2 := (Option.some.inj e).symm
    rw [e3, e2]
    rfl
theorem code_inj {t s m t' s' m' : Nat} (h1 : t ≤ 40) (h2 : s ≤ 8) (h3 : m ≤ 40) (h4 : t' ≤ 40) (h5 : s' ≤ 8) (h6 : m' ≤ 40) (e : codeK [.inl (t : Int), .inl (s : Int), .inl (m : Int)] = codeK [.inl (t' : Int), .inl (s' : Int), .inl (m' : Int)]) : t = t' ∧ s = s' ∧ m = m' := by
  have e' : (t * 9 + s) * 41 + m = (t' * 9 + s') * 41 + m' := e
  omega
theorem Good.put {kvs : List (List Key × V)} (h : Good kvs) {t s m : Int} (h1 : 0 ≤ t ∧ t ≤ 40) (h2 : 0 ≤ s ∧ s ≤ 8) (h3 : 0 ≤ m ∧ m ≤ 40) : Good (putK kvs [.inl t, .inl s, .inl m] (.int (fallN s.toNat t.toNat m.toNat : Nat))) := by
  unfold putK
  split
  · refine ⟨?_, fun p hp => ?_⟩
    · have e : ((kvs.map fun kv => if kv.1 = [.inl t, .inl s, .inl m] then (kv.1, V.int (fallN s.toNat t.toNat m.toNat : Nat)) else kv).map fun p => codeK p.1) = kvs.map fun p => codeK p.1 := by
        rw [List.map_map]
        refine List.map_congr_left fun p _ => ?_
        show codeK (if p.1 = _ then (p.1, _) else p).1 = codeK p.1
        split <;> rfl
      rw [e]
      exact h.1
    · obtain ⟨q, hq, rfl⟩ := List.mem_map.mp hp
      obtain ⟨t', s', m', g1, g2, g3, e1, e2⟩ := h.2 q hq
      split
      · rename_i c
        refine ⟨t', s', m', g1, g2, g3, e1, ?_⟩
        rw [c] at e1
        cases e1
        rfl
      · exact ⟨t', s', m', g1, g2, g3, e1, e2⟩
  · rename_i c
    obtain ⟨t0, rfl⟩ := Int.eq_ofNat_of_zero_le h1.1
    obtain ⟨s0, rfl⟩ := Int.eq_ofNat_of_zero_le h2.1
    obtain ⟨m0, rfl⟩ := Int.eq_ofNat_of_zero_le h3.1
    refine ⟨?_, fun p hp => ?_⟩
    · rw [List.map_append]
      refine List.nodup_append.mpr ⟨h.1, by simp, fun a ha b hb e => ?_⟩
      obtain ⟨p, hp, rfl⟩ := List.mem_map.mp ha
      rw [List.map_cons, List.map_nil, List.mem_singleton] at hb
      obtain ⟨t', s', m', g1, g2, g3, e1, e2⟩ := h.2 p hp
      rw [hb, e1] at e
      obtain ⟨q1, q2, q3⟩ := code_inj g1 g2 g3 (by omega) (by omega) (by omega) e
      refine c (List.any_eq_true.mpr ⟨p, hp, decide_eq_true ?_⟩)
      rw [e1, q1, q2, q3]
    · rcases List.mem_append.mp hp with g | g
      · exact h.2 p g
      · rw [List.mem_singleton.mp g]
        exact ⟨t0, s0, m0, by omega, by omega, by omega, rfl, rfl⟩
theorem fall_rec {s t m : Nat} (hs : s ≠ 0) (ht : t ≠ 0) : fallN s t m = sumF (fun i => fallN (s - 1) (t - (i + 1)) (i + 1)) (min t m) := by
  obtain ⟨s', rfl⟩ : ∃ s', s = s' + 1 := ⟨s - 1, by omega⟩
  show (if t = 0 then 1 else _) = _
  rw [if_neg ht]
  rfl
theorem fall_base {s t m : Nat} (h : s = 0 ∨ t = 0) : fallN s t m = if t = 0 then 1 else 0 := by
  cases s with
  | zero => rfl
  | succ s =>
    have ht : t = 0 := by omega
    subst ht
    rfl
def SizeOk (x y : Int) : Prop := 0 ≤ x ∧ x ≤ 40 ∧ 1 ≤ y ∧ y ≤ 8
def PlanOk (ps : List Int) : Prop := (1 ≤ ps.length ∧ ps.length ≤ 8) ∧ (∀ x ∈ ps, 0 ≤ x) ∧ ps.sum ≤ 40
theorem sum_nn {ps : List Int} (h : ∀ x ∈ ps, 0 ≤ x) : 0 ≤ ps.sum := by
  induction ps with
  | nil => simp
  | cons y r ih =>
    have h1 := h y List.mem_cons_self
    have h2 := ih fun x hx => h x (List.mem_cons_of_mem _ hx)
    rw [List.sum_cons]
    omega
/-! ### the numbers of counts -/
def preC (rest : Nat) (left : Int) : Nat → Int
  | 0 => 0
  | j + 1 => preC rest left j + (fallN rest (left - j).toNat j : Nat)
def rkC : List Int → Int
  | [] => 0
  | c :: r => preC r.length ((c :: r).sum) c.toNat + rkC r
theorem preC_mono {rest : Nat} {left : Int} {i : Nat} : ∀ d, preC rest left i ≤ preC rest left (i + d)
  | 0 => Int.le_refl _
  | d + 1 => by
    have := preC_mono (rest := rest) (left := left) (i := i) d
    show _ ≤ preC rest left (i + d) + _
    omega
theorem preC_le {rest : Nat} {left : Int} {i j : Nat} (h : i ≤ j) : preC rest left i ≤ preC rest left j := by
  have := preC_mono (rest := rest) (left := left) (i := i) (j - i)
  rwa [Nat.add_sub_cancel' h] at this
theorem preC_nn {rest : Nat} {left : Int} {i : Nat} : 0 ≤ preC rest left i := preC_le (i := 0) (Nat.zero_le i)
theorem preC_sum (rest left : Nat) : ∀ n, preC rest left n = (sumF (fun j => fallN rest (left - j) j) n : Nat)
  | 0 => rfl
  | n + 1 => by
    show preC rest left n + _ = ((sumF _ n + fallN rest (left - n) n : Nat) : Int)
    rw [preC_sum rest left n, show ((left : Int) - (n : Int)).toNat = left - n by omega]
    omega
theorem fall_none {rest t : Nat} (h : t ≠ 0) : fallN rest t 0 = 0 := by
  cases rest with
  | zero =>
    show (if t = 0 then 1 else 0) = 0
    rw [if_neg h]
  | succ r =>
    show (if t = 0 then 1 else sumF _ (min t 0)) = 0
    rw [if_neg h, Nat.min_zero]
    rfl
theorem preC_full (rest left mo : Nat) : preC rest left (min left mo + 1) = (fallN (rest + 1) left mo : Nat) := by
  rw [preC_sum]
  congr 1
  rw [sumF_shift]
  by_cases c : left = 0
  · subst c
    rw [Nat.zero_min]
    show fallN rest 0 0 + 0 = if 0 = 0 then 1 else _
    rw [fall_base (.inr rfl)]
    rfl
  · rw [Nat.sub_zero, fall_none c, Nat.zero_add]
    show _ = if left = 0 then 1 else _
    rw [if_neg c]
def Falls (cs : List Int) : Prop := ∀ (k : Nat) (a b : Int), cs[k]? = some a → cs[k + 1]? = some b → b ≤ a
def CountsOk (cs : List Int) : Prop := PlanOk cs ∧ Falls cs
theorem falls_dec {cs : List Int} : Falls cs ↔ (List.range (cs.length - 1)).filter (fun i => decide (cs.getD (i + 1) 0 > cs.getD i 0)) = [] := by
  constructor
  · intro h
    refine List.filter_eq_nil_iff.mpr fun i hi => ?_
    have hi' := List.mem_range.mp hi
    have h1 : cs[i]? = some cs[i] := List.getElem?_eq_getElem (by omega)
    have h2 : cs[i + 1]? = some cs[i + 1] := List.getElem?_eq_getElem (by omega)
    have := h i _ _ h1 h2
    simp [List.getD, h1, h2]
    omega
  · intro h k a b h1 h2
    have hk : k + 1 < cs.length := (List.getElem?_eq_some_iff.mp h2).1
    have := List.filter_eq_nil_iff.mp h k (List.mem_range.mpr (by omega))
    simp [List.getD, h1, h2] at this
    exact this
theorem rkC_drop {cs : List Int} {k : Nat} {x : Int} (h : cs[k]? = some x) : rkC (cs.drop k) = preC (cs.length - 1 - k) ((cs.drop k).sum) x.toNat + rkC (cs.drop (k + 1)) ∧ (cs.drop k).sum = x + (cs.drop (k + 1)).sum := by
  have hk := (List.getElem?_eq_some_iff.mp h).1
  have e : cs.drop k = x :: cs.drop (k + 1) := by
    rw [List.drop_eq_getElem_cons hk]
    congr 1
    exact (List.getElem?_eq_some_iff.mp h).2
  rw [e]
  refine ⟨?_, by rw [List.sum_cons]⟩
  show preC (cs.drop (k + 1)).length _ _ + _ = _
  rw [List.length_drop, show cs.length - (k + 1) = cs.length - 1 - k by omega]
theorem drop_nn {cs : List Int} (h : ∀ x ∈ cs, 0 ≤ x) (k : Nat) : ∀ x ∈ cs.drop k, 0 ≤ x := fun x hx => h x (List.mem_of_mem_drop hx)
theorem drop_le {cs : List Int} (h : ∀ x ∈ cs, 0 ≤ x) : ∀ k, (cs.drop k).sum ≤ cs.sum
  | 0 => by rw [List.drop_zero]; exact Int.le_refl _
  | k + 1 => by
    have ih := drop_le h k
    cases e : cs[k]? with
    | none =>
      have : cs.length ≤ k := List.getElem?_eq_none_iff.mp e
      rw [List.drop_eq_nil_of_le (show cs.length ≤ k + 1 by omega)]
      rw [List.drop_eq_nil_of_le this] at ih
      exact ih
    | some x =>
      have := (rkC_drop e).2
      have := h x (List.mem_of_getElem? e)
      omega
/-- on the way to the counts of a number -/
structure CPre (h : Int) (f : Nat) (n : Int) (ps : List Int) (left num mo : Int) : Prop where
  nl : 0 ≤ left
  lh : left ≤ h
  nm : 0 ≤ mo
  mh : mo ≤ h
  nn : 0 ≤ num
  lt : num < (fallN (f - ps.length) left.toNat mo.toNat : Nat)
  sm : ps.sum + left = h
  pos : ∀ x ∈ ps, 0 ≤ x
  ge : ∀ x ∈ ps, mo ≤ x
  fa : ps.Pairwise fun a b => b ≤ a
  rk : ∀ r : List Int, r.length + ps.length = f → r.sum = left → rkC (ps ++ r) = n - num + rkC r
theorem rkC_one (c : Int) (r : List Int) : rkC (c :: r) = preC r.length ((c :: r).sum) c.toNat + rkC r := rfl
theorem cpre_start {h n : Int} {f : Nat} (h0 : 0 ≤ h) (h1 : 0 ≤ n) (h2 : n < (fallN f h.toNat h.toNat : Nat)) : CPre h f n [] h n h :=
  ⟨h0, Int.le_refl _, h0, Int.le_refl _, h1, h2, by simp, nofun, nofun, List.Pairwise.nil, fun r _ _ => by simp⟩
theorem cpre_more {h n left num mo : Int} {f s : Nat} {ps : List Int} (p : CPre h f n ps left num mo) (hl : ps.length < f) (hs : (s : Int) ≤ left ∧ (s : Int) ≤ mo) (h1 : preC (f - 1 - ps.length) left s + (fallN (f - 1 - ps.length) (left - s).toNat s : Nat) ≤ num) : (s : Int) + 1 ≤ left ∧ (s : Int) + 1 ≤ mo := by
  have e1 : preC (f - 1 - ps.length) left (s + 1) ≤ num := h1
  have e2 := p.lt
  have e3 := preC_full (f - 1 - ps.length) left.toNat mo.toNat
  rw [show f - 1 - ps.length + 1 = f - ps.length by omega, Int.toNat_of_nonneg p.nl] at e3
  by_cases c : min left.toNat mo.toNat ≤ s
  · have := preC_le (rest := f - 1 - ps.length) (left := left) (show min left.toNat mo.toNat + 1 ≤ s + 1 by omega)
    omega
  · omega
theorem cpre_next {h n left num mo : Int} {f s : Nat} {ps : List Int} (p : CPre h f n ps left num mo) (hl : ps.length < f) (hs : (s : Int) ≤ left ∧ (s : Int) ≤ mo) (h0 : preC (f - 1 - ps.length) left s ≤ num) (h1 : num - preC (f - 1 - ps.length) left s < (fallN (f - 1 - ps.length) (left - s).toNat s : Nat)) : CPre h f n (ps ++ [(s : Int)]) (left - s) (num - preC (f - 1 - ps.length) left s) s where
  nl := by omega
  lh := by have := p.lh; omega
  nm := by omega
  mh := by have := p.mh; omega
  nn := by omega
  lt := by
    rw [List.length_append, List.length_singleton, show f - (ps.length + 1) = f - 1 - ps.length by omega, Int.toNat_natCast]
    exact h1
  sm := by
    have := p.sm
    rw [List.sum_append, List.sum_cons, List.sum_nil]
    omega
  pos := fun x hx => by
    rcases List.mem_append.mp hx with g | g
    · exact p.pos x g
    · rw [List.mem_singleton.mp g]; omega
  ge := fun x hx => by
    rcases List.mem_append.mp hx with g | g
    · have := p.ge x g
      omega
    · rw [List.mem_singleton.mp g]; omega
  fa := List.pairwise_append.mpr ⟨p.fa, List.pairwise_singleton _ _, fun a ha b hb => by
    rw [List.mem_singleton.mp hb]
    have := p.ge a ha
    omega⟩
  rk := fun r hr hs2 => by
    rw [List.length_append, List.length_singleton] at hr
    have e := p.rk ((s : Int) :: r) (by simp; omega) (by rw [List.sum_cons]; omega)
    rw [List.append_assoc]
    show rkC (ps ++ (s : Int) :: r) = _
    rw [e, rkC_one, List.sum_cons, hs2, show r.length = f - 1 - ps.length by omega, show (s : Int) + (left - s) = left by omega, Int.toNat_natCast]
    omega
theorem cpre_end {h n left num mo : Int} {f : Nat} {ps : List Int} (p : CPre h f n ps left num mo) (hl : ps.length = f) : left = 0 ∧ rkC ps = n := by
  have h1 := p.lt
  have h2 := p.nn
  rw [hl, Nat.sub_self] at h1
  have e : fallN 0 left.toNat mo.toNat = if left.toNat = 0 then 1 else 0 := rfl
  rw [e] at h1
  have h3 := p.nl
  have hl0 : left = 0 := by
    by_cases c : left.toNat = 0
    · omega
    · rw [if_neg c] at h1
      omega
  refine ⟨hl0, ?_⟩
  have h4 : num = 0 := by
    subst hl0
    have : num < 1 := h1
    omega
  have := p.rk [] (by simp; omega) (by simp [hl0])
  rw [List.append_nil] at this
  rw [this, h4]
  show n - 0 + 0 = n
  omega
theorem falls_of {ps : List Int} (h : ps.Pairwise fun a b => b ≤ a) : Falls ps := fun k a b h1 h2 => by
  obtain ⟨k1, e1⟩ := List.getElem?_eq_some_iff.mp h1
  obtain ⟨k2, e2⟩ := List.getElem?_eq_some_iff.mp h2
  have := List.pairwise_iff_getElem.mp h k (k + 1) k1 k2 (by omega)
  rw [e1, e2] at this
  exact this
/-! ### halves -/
theorem ceil_facts {left r : Int} (hr : 0 < r) : left ≤ (left + r - 1).fdiv r * r ∧ (left + r - 1).fdiv r * r ≤ left + r - 1 := by
  rw [Int.fdiv_eq_ediv_of_nonneg _ (Int.le_of_lt hr)]
  have h1 := Int.mul_ediv_add_emod (left + r - 1) r
  have h2 := Int.emod_nonneg (left + r - 1) (show r ≠ 0 by omega)
  have h3 := Int.emod_lt_of_pos (left + r - 1) hr
  rw [Int.mul_comm] at h1
  omega
theorem mul_lt {a b r : Int} (hr : 0 < r) (h : a + 1 ≤ b) : a * r + r ≤ b * r := by
  have := Int.mul_le_mul_of_nonneg_right h (Int.le_of_lt hr)
  rw [Int.add_mul, Int.one_mul] at this
  exact this
theorem ceil_le {left r m : Int} (hr : 0 < r) (h : left ≤ m * r) : (left + r - 1).fdiv r ≤ m := by
  have h1 := (ceil_facts (left := left) hr).2
  by_cases c : (left + r - 1).fdiv r ≤ m
  · exact c
  · have := mul_lt hr (show m + 1 ≤ (left + r - 1).fdiv r by omega)
    omega
theorem le_mul {left r : Int} (hr : 0 < r) (h : 0 ≤ left) : left ≤ left * r := by
  have := Int.mul_le_mul_of_nonneg_left (show (1 : Int) ≤ r by omega) h
  rwa [Int.mul_one] at this
theorem ceil_nn {left r : Int} (hr : 0 < r) (h : 0 ≤ left) : 0 ≤ (left + r - 1).fdiv r := by
  rw [Int.fdiv_eq_ediv_of_nonneg _ (Int.le_of_lt hr)]
  exact Int.ediv_nonneg (by omega) (Int.le_of_lt hr)
theorem share_next {left r c : Int} (hr : 0 < r) (h : (left + r - 1).fdiv r ≤ c) : left - c ≤ c * (r - 1) := by
  have h1 := (ceil_facts (left := left) hr).1
  have h2 := Int.mul_le_mul_of_nonneg_right h (Int.le_of_lt hr)
  rw [Int.mul_sub, Int.mul_one]
  omega
/-! ### lists that rise -/
theorem not_falls {cs : List Int} {k : Nat} {a b : Int} (h1 : cs[k]? = some a) (h2 : cs[k + 1]? = some b) (h : a < b) : ¬ CountsOk cs := fun z => by
  have := z.2 k a b h1 h2
  omega
/-! ### bounds -/
theorem sumF_le {f : Nat → Nat} {B : Nat} : ∀ n, (∀ i, i < n → f i ≤ B) → sumF f n ≤ n * B
  | 0, _ => Nat.zero_le _
  | n + 1, h => by
    have h1 := sumF_le n fun i hi => h i (Nat.lt_succ_of_lt hi)
    have h2 := h n (Nat.lt_succ_self n)
    show sumF f n + f n ≤ _
    rw [Nat.succ_mul]
    omega
theorem fall_le : ∀ s t m, fallN s t m ≤ (t + 1) ^ s
  | 0, t, m => by
    show (if t = 0 then 1 else 0) ≤ 1
    split <;> omega
  | s + 1, t, m => by
    show (if t = 0 then 1 else sumF _ (min t m)) ≤ _
    by_cases c : t = 0
    · subst c
      rw [if_pos rfl, Nat.zero_add, Nat.one_pow]
      exact Nat.le_refl _
    · rw [if_neg c]
      have h1 := sumF_le (f := fun i => fallN s (t - (i + 1)) (i + 1)) (B := (t + 1) ^ s) (min t m) fun i _ => Nat.le_trans (fall_le s _ _) (Nat.pow_le_pow_left (by omega) s)
      have h2 : min t m * (t + 1) ^ s ≤ (t + 1) * (t + 1) ^ s := Nat.mul_le_mul_right _ (by omega)
      rw [Nat.pow_succ, Nat.mul_comm ((t + 1) ^ s)]
      exact Nat.le_trans h1 h2
theorem sumF_ge {f : Nat → Nat} {i : Nat} : ∀ n, i < n → f i ≤ sumF f n
  | n + 1, h => by
    show _ ≤ sumF f n + f n
    by_cases c : i = n
    · subst c
      omega
    · have := sumF_ge (f := f) n (show i < n by omega)
      omega
theorem fall_pos {s t : Nat} (hs : 1 ≤ s) : 1 ≤ fallN s t t := by
  obtain ⟨s', rfl⟩ : ∃ s', s = s' + 1 := ⟨s - 1, by omega⟩
  show 1 ≤ if t = 0 then 1 else sumF _ (min t t)
  by_cases c : t = 0
  · rw [if_pos c]
    exact Nat.le_refl _
  · rw [if_neg c, Nat.min_self]
    have h := sumF_ge (f := fun i => fallN s' (t - (i + 1)) (i + 1)) (i := t - 1) t (by omega)
    rw [show t - (t - 1 + 1) = 0 by omega, fall_base (.inr rfl), if_pos rfl] at h
    exact h
theorem fall_bound {s t : Nat} (h1 : 1 ≤ s) (h2 : s ≤ 8) (h3 : t ≤ 40) : 0 < ((fallN s t t : Nat) : Int) ∧ ((fallN s t t : Nat) : Int) < 2 ^ 200 := by
  have a := fall_pos (t := t) h1
  have b := fall_le s t t
  have c : (t + 1) ^ s ≤ 41 ^ 8 := Nat.le_trans (Nat.pow_le_pow_left (show t + 1 ≤ 41 by omega) s) (Nat.pow_le_pow_right (by decide) h2)
  have d : (41 : Nat) ^ 8 = 7984925229121 := rfl
  omega
/-! ### a number tells its counts -/
theorem falls_le {cs : List Int} (h : Falls cs) {k : Nat} {a : Int} (h1 : cs[k]? = some a) : ∀ (d : Nat) (b : Int), cs[k + d]? = some b → b ≤ a
  | 0, b, h2 => by
    rw [Nat.add_zero, h1] at h2
    cases h2
    exact Int.le_refl _
  | d + 1, b, h2 => by
    have hk := (List.getElem?_eq_some_iff.mp h2).1
    have h3 : cs[k + d]? = some cs[k + d] := List.getElem?_eq_getElem (by omega)
    have := falls_le h h1 d _ h3
    have := h (k + d) _ _ h3 h2
    omega
theorem falls_pair {cs : List Int} (h : Falls cs) : cs.Pairwise fun a b => b ≤ a := List.pairwise_iff_getElem.mpr fun i j hi hj hij => by
  have h1 : cs[i]? = some cs[i] := List.getElem?_eq_getElem hi
  have h2 : cs[i + (j - i)]? = some cs[j] := by
    rw [show i + (j - i) = j by omega]
    exact List.getElem?_eq_getElem hj
  exact falls_le h h1 _ _ h2
theorem rkC_lt : ∀ {cs : List Int} {m : Int}, (cs.Pairwise fun a b => b ≤ a) → (∀ x ∈ cs, 0 ≤ x) → (∀ x ∈ cs, x ≤ m) → 0 ≤ m → rkC cs < (fallN cs.length cs.sum.toNat m.toNat : Nat)
  | [], m, _, _, _, _ => by
    show (0 : Int) < ((fallN 0 0 m.toNat : Nat) : Int)
    rw [fall_base (.inl rfl), if_pos rfl]
    decide
  | c :: r, m, h1, h2, h3, h4 => by
    have p1 := List.pairwise_cons.mp h1
    have c0 := h2 c List.mem_cons_self
    have cm := h3 c List.mem_cons_self
    have r0 : ∀ x ∈ r, 0 ≤ x := fun x hx => h2 x (List.mem_cons_of_mem _ hx)
    have rs := sum_nn r0
    have ih := rkC_lt p1.2 r0 (fun x hx => p1.1 x hx) c0
    rw [rkC_one, List.length_cons, List.sum_cons]
    have e := preC_full r.length (c + r.sum).toNat m.toNat
    rw [Int.toNat_of_nonneg (by omega)] at e
    have f := preC_le (rest := r.length) (left := c + r.sum) (show c.toNat + 1 ≤ min (c + r.sum).toNat m.toNat + 1 by omega)
    have g : preC r.length (c + r.sum) (c.toNat + 1) = preC r.length (c + r.sum) c.toNat + (fallN r.length (c + r.sum - c.toNat).toNat c.toNat : Nat) := rfl
    rw [show (c + r.sum - (c.toNat : Int)).toNat = r.sum.toNat by omega] at g
    omega
theorem rkC_nn : ∀ cs : List Int, 0 ≤ rkC cs
  | [] => Int.le_refl _
  | c :: r => by
    have := rkC_nn r
    have := preC_nn (rest := r.length) (left := (c :: r).sum) (i := c.toNat)
    rw [rkC_one]
    omega
theorem rkC_step {x y : Int} {r s : List Int} (hr : (x :: r).Pairwise fun a b => b ≤ a) (r0 : ∀ z ∈ x :: r, 0 ≤ z) (hl : r.length = s.length) (hs : (x :: r).sum = (y :: s).sum) (h : x < y) : rkC (x :: r) < rkC (y :: s) := by
  have p1 := List.pairwise_cons.mp hr
  have x0 := r0 x List.mem_cons_self
  have h1 := rkC_lt p1.2 (fun z hz => r0 z (List.mem_cons_of_mem _ hz)) (fun z hz => p1.1 z hz) x0
  have h2 := rkC_nn s
  have h3 := preC_le (rest := r.length) (left := (x :: r).sum) (show x.toNat + 1 ≤ y.toNat by omega)
  have g : preC r.length (x :: r).sum (x.toNat + 1) = preC r.length (x :: r).sum x.toNat + (fallN r.length ((x :: r).sum - x.toNat).toNat x.toNat : Nat) := rfl
  rw [show ((x :: r).sum - (x.toNat : Int)).toNat = r.sum.toNat by rw [List.sum_cons]; omega] at g
  rw [rkC_one, rkC_one, ← hl, ← hs]
  omega
theorem rkC_inj : ∀ {p q : List Int}, (p.Pairwise fun a b => b ≤ a) → (q.Pairwise fun a b => b ≤ a) → (∀ z ∈ p, 0 ≤ z) → (∀ z ∈ q, 0 ≤ z) → p.length = q.length → p.sum = q.sum → rkC p = rkC q → p = q
  | [], [], _, _, _, _, _, _, _ => rfl
  | [], _ :: _, _, _, _, _, h, _, _ => by simp at h
  | _ :: _, [], _, _, _, _, h, _, _ => by simp at h
  | x :: r, y :: s, h1, h2, h3, h4, h5, h6, h7 => by
    have hl : r.length = s.length := by simpa using h5
    rcases Int.lt_trichotomy x y with c | c | c
    · have := rkC_step h1 h3 hl h6 c
      omega
    · subst c
      have hs : r.sum = s.sum := by
        rw [List.sum_cons, List.sum_cons] at h6
        omega
      rw [rkC_one, rkC_one, h6, hl] at h7
      rw [rkC_inj (List.pairwise_cons.mp h1).2 (List.pairwise_cons.mp h2).2 (fun z hz => h3 z (List.mem_cons_of_mem _ hz)) (fun z hz => h4 z (List.mem_cons_of_mem _ hz)) hl hs (by omega)]
    · have := rkC_step h2 h4 hl.symm h6.symm c
      omega
theorem mem_le_sumC : ∀ {ps : List Int} {x : Int}, (∀ y ∈ ps, 0 ≤ y) → x ∈ ps → x ≤ ps.sum
  | [], x, _, h => by simp at h
  | y :: r, x, h0, h => by
    have h1 := sum_nn (ps := r) fun z hz => h0 z (List.mem_cons_of_mem _ hz)
    have h2 := h0 y List.mem_cons_self
    rw [List.sum_cons]
    rcases List.mem_cons.mp h with e | e
    · omega
    · have := mem_le_sumC (fun z hz => h0 z (List.mem_cons_of_mem _ hz)) e
      omega
theorem counts_lt {cs : List Int} (h : CountsOk cs) : rkC cs < (fallN cs.length cs.sum.toNat cs.sum.toNat : Nat) := rkC_lt (falls_pair h.2) h.1.2.1 (fun x hx => mem_le_sumC h.1.2.1 hx) (sum_nn h.1.2.1)
section
variable {P : Program} {w : World} {K : PySem.W.Frag} {mg : Str → Option Value} {base : Heap}
def topS (i : Nat) : Stmt := PySem.Challenge.pw_hostfields_k15_whole_counts_by_numbers.main.body.getD i (.Pass ⟨0, 0, 0, 0⟩)
abbrev s_must_be_sizes : Stmt := topS 6
abbrev s_must_be_plan : Stmt := topS 7
abbrev s_must_be_counts : Stmt := topS 8
abbrev s_Fallings_init : Stmt := inClass (topS 9) 0
abbrev s_Fallings_many : Stmt := inClass (topS 9) 1
abbrev s_counts_number : Stmt := topS 10
abbrev s_counts_of : Stmt := topS 11
abbrev s_l_purse : Stmt := topS 13
abbrev s_l_draw : Stmt := topS 14
abbrev s_l_whole : Stmt := topS 15
abbrev s_l_numbers : Stmt := topS 16
abbrev s_l_fallings : Stmt := topS 17
abbrev s_l_counts : Stmt := topS 18
abbrev s_l_number : Stmt := topS 19
abbrev s_l_has : Stmt := topS 20
abbrev s_law : Stmt := topS 21
theorem sc_must_be_sizes : FnScope ["hosts", "fields"] ["hosts", "fields"] (defScope s_must_be_sizes) := ⟨rfl, rfl, rfl, by decide +kernel, rfl, by decide +kernel, by decide +kernel⟩
theorem sc_must_be_plan : FnScope ["plan"] ["plan"] (defScope s_must_be_plan) := ⟨rfl, rfl, rfl, by decide +kernel, rfl, by decide +kernel, by decide +kernel⟩
theorem sc_must_be_counts : FnScope ["counts", "k"] ["counts"] (defScope s_must_be_counts) := ⟨rfl, rfl, rfl, by decide +kernel, rfl, by decide +kernel, by decide +kernel⟩
theorem sc_Fallings_init : FnScope ["self"] ["self"] (defScope s_Fallings_init) := ⟨rfl, rfl, rfl, by decide +kernel, rfl, by decide +kernel, by decide +kernel⟩
theorem sc_Fallings_many : FnScope ["self", "total", "size", "most", "begins", "one"] ["self", "total", "size", "most"] (defScope s_Fallings_many) := ⟨rfl, rfl, rfl, by decide +kernel, rfl, by decide +kernel, by decide +kernel⟩
theorem sc_counts_number : FnScope ["counts", "fallings", "left", "found", "k", "less"] ["counts"] (defScope s_counts_number) := ⟨rfl, rfl, rfl, by decide +kernel, rfl, by decide +kernel, by decide +kernel⟩
theorem sc_counts_of : FnScope ["hosts", "fields", "number", "fallings", "found", "left", "k", "sent"] ["hosts", "fields", "number"] (defScope s_counts_of) := ⟨rfl, rfl, rfl, by decide +kernel, rfl, by decide +kernel, by decide +kernel⟩
theorem sc_l_purse : FnScope ["_law_script", "_law_cells"] ["_law_script"] (defScope s_l_purse) := ⟨rfl, rfl, rfl, by decide +kernel, rfl, by decide +kernel, by decide +kernel⟩
theorem sc_l_draw : FnScope ["_law_purse_here", "_law_out_of", "_law_cells", "_law_turn", "_law_at", "_law_cell", "_law_number_here"] ["_law_purse_here", "_law_out_of"] (defScope s_l_draw) := ⟨rfl, rfl, rfl, by decide +kernel, rfl, by decide +kernel, by decide +kernel⟩
theorem sc_l_whole : FnScope ["_law_found"] ["_law_found"] (defScope s_l_whole) := ⟨rfl, rfl, rfl, by decide +kernel, rfl, by decide +kernel, by decide +kernel⟩
theorem sc_l_numbers : FnScope ["_law_found", "_law_due", "_law_number_here"] ["_law_found", "_law_due"] (defScope s_l_numbers) := ⟨rfl, rfl, rfl, by decide +kernel, rfl, by decide +kernel, by decide +kernel⟩
theorem sc_l_fallings : FnScope ["_law_size", "_law_total", "_law_most", "_law_many", "_law_found", "_law_part", "_law_come", "_law_one", "_law_row"] ["_law_size", "_law_total", "_law_most"] (defScope s_l_fallings) := ⟨rfl, rfl, rfl, by decide +kernel, rfl, by decide +kernel, by decide +kernel⟩
theorem sc_l_counts : FnScope ["_law_purse_here", "_law_hosts", "_law_fields", "_law_found", "_law_left", "_law_most", "_law_field", "_law_low", "_law_high"] ["_law_purse_here", "_law_hosts", "_law_fields"] (defScope s_l_counts) := ⟨rfl, rfl, rfl, by decide +kernel, rfl, by decide +kernel, by decide +kernel⟩
theorem sc_l_number : FnScope ["_law_counts_here", "_law_found", "_law_left", "_law_field", "_law_sent"] ["_law_counts_here"] (defScope s_l_number) := ⟨rfl, rfl, rfl, by decide +kernel, rfl, by decide +kernel, by decide +kernel⟩
theorem sc_l_has : FnScope ["_law_found", "_law_hosts", "_law_fields", "_law_number_here", "_law_one"] ["_law_found", "_law_hosts", "_law_fields", "_law_number_here"] (defScope s_l_has) := ⟨rfl, rfl, rfl, by decide +kernel, rfl, by decide +kernel, by decide +kernel⟩
theorem sc_law : FnScope ["_law_script", "_law_purse_here", "_law_held", "_law_turn", "_law_hosts", "_law_counts_here", "_law_fields", "_law_many", "_law_due", "_law_handed", "_law_found", "_law_first", "_law_again", "_law_told", "_law_number_here", "_law_one", "_law_kept"] ["_law_script"] (defScope s_law) := ⟨rfl, rfl, rfl, by decide +kernel, rfl, by decide +kernel, by decide +kernel⟩
structure Txt (K : PySem.W.Frag) (mg : Str → Option Value) where
  a_must_be_sizes : Addr
  d_must_be_sizes : FuncData
  F_must_be_sizes : Fun K "must_be_sizes" "must_be_sizes" s_must_be_sizes a_must_be_sizes d_must_be_sizes
  g_must_be_sizes : mg "must_be_sizes" = some (.ref a_must_be_sizes)
  b_must_be_sizes : Binds K d_must_be_sizes ["hosts", "fields"] []
  a_must_be_plan : Addr
  d_must_be_plan : FuncData
  F_must_be_plan : Fun K "must_be_plan" "must_be_plan" s_must_be_plan a_must_be_plan d_must_be_plan
  g_must_be_plan : mg "must_be_plan" = some (.ref a_must_be_plan)
  b_must_be_plan : Binds K d_must_be_plan ["plan"] []
  a_must_be_counts : Addr
  d_must_be_counts : FuncData
  F_must_be_counts : Fun K "must_be_counts" "must_be_counts" s_must_be_counts a_must_be_counts d_must_be_counts
  g_must_be_counts : mg "must_be_counts" = some (.ref a_must_be_counts)
  b_must_be_counts : Binds K d_must_be_counts ["counts"] []
  a_Fallings_init : Addr
  d_Fallings_init : FuncData
  F_Fallings_init : Fun K "__init__" "Fallings.__init__" s_Fallings_init a_Fallings_init d_Fallings_init
  b_Fallings_init : Binds K d_Fallings_init ["self"] []
  a_Fallings_many : Addr
  d_Fallings_many : FuncData
  F_Fallings_many : Fun K "many" "Fallings.many" s_Fallings_many a_Fallings_many d_Fallings_many
  b_Fallings_many : Binds K d_Fallings_many ["self", "total", "size", "most"] []
  a_counts_number : Addr
  d_counts_number : FuncData
  F_counts_number : Fun K "counts_number" "counts_number" s_counts_number a_counts_number d_counts_number
  g_counts_number : mg "counts_number" = some (.ref a_counts_number)
  b_counts_number : Binds K d_counts_number ["counts"] []
  a_counts_of : Addr
  d_counts_of : FuncData
  F_counts_of : Fun K "counts_of" "counts_of" s_counts_of a_counts_of d_counts_of
  g_counts_of : mg "counts_of" = some (.ref a_counts_of)
  b_counts_of : Binds K d_counts_of ["hosts", "fields", "number"] []
  a_l_purse : Addr
  d_l_purse : FuncData
  F_l_purse : Fun K "_law_purse" "_law_purse" s_l_purse a_l_purse d_l_purse
  g_l_purse : mg "_law_purse" = some (.ref a_l_purse)
  b_l_purse : Binds K d_l_purse ["_law_script"] []
  a_l_draw : Addr
  d_l_draw : FuncData
  F_l_draw : Fun K "_law_draw" "_law_draw" s_l_draw a_l_draw d_l_draw
  g_l_draw : mg "_law_draw" = some (.ref a_l_draw)
  b_l_draw : Binds K d_l_draw ["_law_purse_here", "_law_out_of"] []
  a_l_whole : Addr
  d_l_whole : FuncData
  F_l_whole : Fun K "_law_whole" "_law_whole" s_l_whole a_l_whole d_l_whole
  g_l_whole : mg "_law_whole" = some (.ref a_l_whole)
  b_l_whole : Binds K d_l_whole ["_law_found"] []
  a_l_numbers : Addr
  d_l_numbers : FuncData
  F_l_numbers : Fun K "_law_numbers" "_law_numbers" s_l_numbers a_l_numbers d_l_numbers
  g_l_numbers : mg "_law_numbers" = some (.ref a_l_numbers)
  b_l_numbers : Binds K d_l_numbers ["_law_found", "_law_due"] []
  a_l_fallings : Addr
  d_l_fallings : FuncData
  F_l_fallings : Fun K "_law_fallings" "_law_fallings" s_l_fallings a_l_fallings d_l_fallings
  g_l_fallings : mg "_law_fallings" = some (.ref a_l_fallings)
  b_l_fallings : Binds K d_l_fallings ["_law_size", "_law_total", "_law_most"] []
  a_l_counts : Addr
  d_l_counts : FuncData
  F_l_counts : Fun K "_law_counts" "_law_counts" s_l_counts a_l_counts d_l_counts
  g_l_counts : mg "_law_counts" = some (.ref a_l_counts)
  b_l_counts : Binds K d_l_counts ["_law_purse_here", "_law_hosts", "_law_fields"] []
  a_l_number : Addr
  d_l_number : FuncData
  F_l_number : Fun K "_law_number" "_law_number" s_l_number a_l_number d_l_number
  g_l_number : mg "_law_number" = some (.ref a_l_number)
  b_l_number : Binds K d_l_number ["_law_counts_here"] []
  a_l_has : Addr
  d_l_has : FuncData
  F_l_has : Fun K "_law_has" "_law_has" s_l_has a_l_has d_l_has
  g_l_has : mg "_law_has" = some (.ref a_l_has)
  b_l_has : Binds K d_l_has ["_law_found", "_law_hosts", "_law_fields", "_law_number_here"] []
  a_law : Addr
  d_law : FuncData
  F_law : Fun K "law" "law" s_law a_law d_law
  g_law : mg "law" = some (.ref a_law)
  b_law : Binds K d_law ["_law_script"] []
  e_Fallings : Addr
  g_Fallings : mg "Fallings" = some (.ref e_Fallings)
  pg_Fallings : PySem.W.plainGet K e_Fallings Str.empty = true
  ph_Fallings : PySem.W.hasDictIn K e_Fallings = true
  po_Fallings : PySem.W.plainOver K e_Fallings = true
  ps_Fallings : PySem.W.findIn K (.ref e_Fallings) "__setattr__" = some (some (.builtin "object.__setattr__"))
  pm_Fallings : PySem.W.makesIn K e_Fallings = true
  pk_Fallings : PySem.W.keepIn K (.ref e_Fallings) = true
  pf_Fallings_init : PySem.W.findIn K (.ref e_Fallings) "__init__" = some (some (.ref a_Fallings_init))
  pn_Fallings_init : PySem.W.isFn K (.ref a_Fallings_init) = true
  pp_Fallings_init : PySem.W.keepIn K (.ref a_Fallings_init) = true
  pf_Fallings_many : PySem.W.findIn K (.ref e_Fallings) "many" = some (some (.ref a_Fallings_many))
  pn_Fallings_many : PySem.W.isFn K (.ref a_Fallings_many) = true
  pp_Fallings_many : PySem.W.keepIn K (.ref a_Fallings_many) = true
  pa_Fallings_known : PySem.W.findIn K (.ref e_Fallings) "known" = some none
  z_all : mg "all" = none
  z_bool : mg "bool" = none
  z_int : mg "int" = none
  z_isinstance : mg "isinstance" = none
  z_len : mg "len" = none
  z_list : mg "list" = none
  z_min : mg "min" = none
  z_range : mg "range" = none
  z_sorted : mg "sorted" = none
  z_sum : mg "sum" = none
  t_MOST_HOSTS : Tok
  c_MOST_HOSTS : mg "MOST_HOSTS" = some (.int 40 t_MOST_HOSTS)
  t_MOST_FIELDS : Tok
  c_MOST_FIELDS : mg "MOST_FIELDS" = some (.int 8 t_MOST_FIELDS)
  e_NoPlan : Addr
  g_NoPlan : mg "NoPlan" = some (.ref e_NoPlan)
  i_NoPlan : PySem.W.isClsIn K e_NoPlan = true
  t_NoPlan : PySem.W.typeIn K (.ref e_NoPlan) = some (.type "type")
  y_NoPlan : PySem.W.subIn K (.ref e_NoPlan) (.type "BaseException") = some true
  x_NoPlan : PySem.W.excIn K e_NoPlan [.type "ValueError", .type "Exception", .type "BaseException", .type "object"] "ValueError.__new__" = true
  k_NoPlan : PySem.W.keepIn K (.ref e_NoPlan) = true
  hg_NoPlan : PySem.W.findIn K (.ref e_NoPlan) "__getattribute__" = some (some (.builtin "BaseException.__getattribute__"))
  hk_NoPlan : PySem.W.findIn K (.ref e_NoPlan) "__getattr__" = some none
  hd_NoPlan : PySem.W.hasDictIn K e_NoPlan = true
  ha_NoPlan : PySem.W.findIn K (.ref e_NoPlan) "__class__" = some (some (.builtin "object.__class__"))
  hm_NoPlan : PySem.W.mroIn K e_NoPlan (.type "object") = some true
  v_NoPlan : PySem.W.subIn K (.ref e_NoPlan) (.type "ValueError") = some true
  s_NoPlan_NoPlan : PySem.W.subIn K (.ref e_NoPlan) (.ref e_NoPlan) = some true
  ho_n : PySem.W.specialIn K (.builtin "object.__class__") "__get__" = some (some (.builtin "getset_descriptor.__get__"))
  ho_t : PySem.W.takesIn K (.builtin "object.__class__") = some true
theorem Txt.C_Fallings {K : PySem.W.Frag} {mg : Str → Option Value} (T : Txt K mg) : Cls K T.e_Fallings := ⟨T.pg_Fallings, T.ph_Fallings, T.po_Fallings, T.ps_Fallings⟩
theorem Txt.M_Fallings {K : PySem.W.Frag} {mg : Str → Option Value} (T : Txt K mg) : Mk K T.e_Fallings T.a_Fallings_init := ⟨T.pm_Fallings, T.pf_Fallings_init, T.pn_Fallings_init, T.pk_Fallings⟩
theorem Txt.m_Fallings_many {K : PySem.W.Frag} {mg : Str → Option Value} (T : Txt K mg) : Meth K T.e_Fallings "many" T.a_Fallings_many := ⟨T.pf_Fallings_many, T.pn_Fallings_many, T.pp_Fallings_many⟩
theorem Txt.N_Fallings_known {K : PySem.W.Frag} {mg : Str → Option Value} (T : Txt K mg) : NoAttr K T.e_Fallings "known" := T.pa_Fallings_known
local macro_rules | `(tactic| walk_at "g_cls") => `(tactic| first | exact Txt.C_Fallings _ | exact Txt.N_Fallings_known _)
section
variable {K : PySem.W.Frag} {mg : Str → Option Value} (T : Txt K mg)
include T
theorem cl_NoPlan : ClsT K T.e_NoPlan := ⟨T.i_NoPlan, T.t_NoPlan⟩
theorem exc_NoPlan : L2.ExcC K T.e_NoPlan := ⟨T.hg_NoPlan, T.hk_NoPlan, T.y_NoPlan, T.hd_NoPlan, T.ha_NoPlan, T.ho_n, T.ho_t, T.hm_NoPlan⟩
theorem kit_NoPlan_ValueError : PySem.W.kitOne K (.ref T.e_NoPlan) (.type "ValueError") = some true := kit_v T.v_NoPlan (by decide +kernel)
theorem kit_NoPlan_NoPlan : PySem.W.kitOne K (.ref T.e_NoPlan) (.ref T.e_NoPlan) = some true := kit_t (cl_NoPlan T) T.s_NoPlan_NoPlan
theorem exm_NoPlan_NoPlan : PySem.W.exmOne K (.ref T.e_NoPlan) (.ref T.e_NoPlan) = some true := exm_t (cl_NoPlan T) T.y_NoPlan T.s_NoPlan_NoPlan
end
local macro_rules | `(tactic| walk_at "g_kit") => `(tactic| first | (with_reducible exact kit_NoPlan_ValueError _) | (with_reducible exact kit_NoPlan_NoPlan _))
local macro_rules | `(tactic| walk_at "g_exc") => `(tactic| first | (with_reducible exact exc_NoPlan _))
local macro_rules | `(tactic| walk_at "g_exm") => `(tactic| first | (with_reducible exact exm_NoPlan_NoPlan _))
def Purse (H : Hp) (p c : Addr) (ms : List Int) (t : Int) : Prop := H p = some (.lst [.ref c, .int t]) ∧ H c = some (.lst (ms.map V.int))
def sp_l_purse (K : PySem.W.Frag) : Sp := fun vs H Q E => ∃ (a : Addr) (ns : List Int), vs = [.ref a] ∧ (SqL K H a (ns.map V.int)) ∧ ∀ (p c : Addr) (ms : List Int) (H' : Hp), (H' p = some (.lst [.ref c, .int 0])) → (H' c = some (.lst (ms.map V.int))) → (Same H H') → (H p = none) → (H c = none) → (1 ≤ ms.length ∧ ms.length ≤ 63) → (p ≠ c) → Q (.ref p) H'
theorem use_l_purse {K : PySem.W.Frag} {H : Hp} {Q : VK} {E : XK} {a : Addr} {ns : List Int} (p0 : SqL K H a (ns.map V.int)) (k : ∀ (p c : Addr) (ms : List Int) (H' : Hp), (H' p = some (.lst [.ref c, .int 0])) → (H' c = some (.lst (ms.map V.int))) → (Same H H') → (H p = none) → (H c = none) → (1 ≤ ms.length ∧ ms.length ≤ 63) → (p ≠ c) → Q (.ref p) H') : sp_l_purse K [.ref a] H Q E := ⟨a, ns, rfl, p0, k⟩
theorem len_l_purse {K : PySem.W.Frag} (vs : List V) (H : Hp) (Q : VK) (E : XK) (h : sp_l_purse K vs H Q E) : vs.length = ["_law_script"].length := by
  obtain ⟨_, _, rfl, _⟩ := h
  rfl
local macro_rules | `(tactic| walk_at "g_call") => `(tactic| ((with_reducible refine' use_l_purse ?c0 ?_); (case c0 => walk_at "g_pre"); intros))
theorem ok_l_purse (T : Txt K mg) : FnOk P w K mg base CX0 1 T.a_l_purse T.d_l_purse ["_law_script"] (sp_l_purse K) := by
  refine T.F_l_purse.ok sc_l_purse len_l_purse (fun cdv A outer s H vs Q E hr h => ?_)
  refine ⟨_, (pss_cons (ps_set (i := 1) sc_l_purse.nd rfl (Or.inl rfl) (pe_slice (sl_listK K rfl) (pv 0) po_none (po_some pe_int)))
      (pss_cons (ps_if (pt_cmpR (op_eqDK K rfl hr.units) (pv 1) (pe_lst pa_nil) (nomark _)) (pss_one (ps_set (i := 1) sc_l_purse.nd rfl (Or.inl rfl) (pe_lst (pa_cons pe_int pa_nil)))) pss_nil)
      (pss_one (ps_ret (pe_lst (pa_cons (pv 1) (pa_cons pe_int pa_nil))))))), ?_⟩
  try dsimp only [L2.cxOf, L2.Cx.nox, L2.Cx.wish, List.map_cons, List.map_nil]
  obtain ⟨a, ns, rfl, p0, k⟩ := h
  refine start_to (σ := [some _, none]) rfl ?_
  walk_at "goI"
  rename_i c nc
  refine if_join (fun σ' H' => ∃ (c' : Addr) (ms : List Int), σ' = [some (.ref a), some (.ref c')] ∧ H' c' = some (.lst (ms.map V.int)) ∧ Same H H' ∧ H c' = none ∧ 1 ≤ ms.length ∧ ms.length ≤ 63) (fun nx' hn => ?_) ?_
  · walk_at "go"
    rename_i q nq
    have hq : H q = none := by walk_at "g_free"
    refine ite_d (fun c1 => ?_) (fun c1 => ?_)
    · walk_at "go"
      rename_i r nr
      refine hn _ _ ⟨_, [0], rfl, upd_same, by walk_at "g_same", by walk_at "g_free", by decide, by decide⟩
    · walk_at "go"
      refine hn _ _ ⟨_, _, rfl, by walk_at "g_lk", by walk_at "g_same", nc, ?_, ?_⟩
      · cases h : ns.take (Int.toNat 63) with
        | nil => exact absurd h c1
        | cons x r => simp
      · simp
        omega
  · rintro σ' H' ⟨c', ms, rfl, h1, h2, h3, h4, h5⟩
    walk_at "go"
    rename_i p np
    exact k _ _ _ _ upd_same (by walk_at "g_lk") (by walk_at "g_same") (by walk_at "g_free") h3 ⟨h4, h5⟩ (by walk_at "g_ne")

def sp_l_draw (K : PySem.W.Frag) : Sp := fun vs H Q E => ∃ (p c : Addr) (ms : List Int) (t b : Int), vs = [.ref p, .int b] ∧ (H p = some (.lst [.ref c, .int t])) ∧ (H c = some (.lst (ms.map V.int))) ∧ (p ≠ c) ∧ (1 ≤ ms.length ∧ ms.length ≤ 63) ∧ (0 ≤ t ∧ t ≤ 1000000) ∧ (0 < b ∧ b < 2 ^ 200) ∧ ∀ (d : Int) (ms' : List Int) (H' : Hp), (H' p = some (.lst [.ref c, .int (t + 1)])) → (H' c = some (.lst (ms'.map V.int))) → (0 ≤ d ∧ d < b) → (1 ≤ ms'.length ∧ ms'.length ≤ 63) → (But2 p c H H') → Q (.int d) H'
theorem use_l_draw {K : PySem.W.Frag} {H : Hp} {Q : VK} {E : XK} {p c : Addr} {ms : List Int} {t b : Int} (p0 : H p = some (.lst [.ref c, .int t])) (p1 : H c = some (.lst (ms.map V.int))) (p2 : p ≠ c) (p3 : 1 ≤ ms.length ∧ ms.length ≤ 63) (p4 : 0 ≤ t ∧ t ≤ 1000000) (p5 : 0 < b ∧ b < 2 ^ 200) (k : ∀ (d : Int) (ms' : List Int) (H' : Hp), (H' p = some (.lst [.ref c, .int (t + 1)])) → (H' c = some (.lst (ms'.map V.int))) → (0 ≤ d ∧ d < b) → (1 ≤ ms'.length ∧ ms'.length ≤ 63) → (But2 p c H H') → Q (.int d) H') : sp_l_draw K [.ref p, .int b] H Q E := ⟨p, c, ms, t, b, rfl, p0, p1, p2, p3, p4, p5, k⟩
theorem len_l_draw {K : PySem.W.Frag} (vs : List V) (H : Hp) (Q : VK) (E : XK) (h : sp_l_draw K vs H Q E) : vs.length = ["_law_purse_here", "_law_out_of"].length := by
  obtain ⟨_, _, _, _, _, rfl, _⟩ := h
  rfl
local macro_rules | `(tactic| walk_at "g_call") => `(tactic| ((with_reducible refine' use_l_draw ?c0 ?c1 ?c2 ?c3 ?c4 ?c5 ?_); (case c0 => walk_at "g_pre"); (case c1 => walk_at "g_pre"); (case c2 => walk_at "g_pre"); (case c3 => walk_at "g_pre"); (case c4 => walk_at "g_pre"); (case c5 => walk_at "g_pre"); intros))
theorem ok_l_draw (T : Txt K mg) : FnOk P w K mg base CX0 1 T.a_l_draw T.d_l_draw ["_law_purse_here", "_law_out_of"] (sp_l_draw K) := by
  refine T.F_l_draw.ok sc_l_draw len_l_draw (fun cdv A outer s H vs Q E hr h => ?_)
  refine ⟨_, (pss_cons (ps_asg (pv 0) (pg_lstK K rfl 2 rfl (pgs_cons (pg_name (i := 2) sc_l_draw.nd rfl (Or.inl rfl)) (pgs_cons (pg_name (i := 3) sc_l_draw.nd rfl (Or.inl rfl)) pgs_nil))))
      (pss_cons (ps_set (i := 4) sc_l_draw.nd rfl (Or.inl rfl) (pe_op op_mod (pv 3) (pe_callB (call_lenK K rfl) (by rfl) T.z_len (by decide +kernel) (pa_cons (pv 2) pa_nil))))
      (pss_cons (ps_set (i := 5) sc_l_draw.nd rfl (Or.inl rfl) (pe_ix (ix_listK K rfl) (pv 2) (pv 4) (fun _ _ => rfl)))
      (pss_cons (ps_asg (pe_op op_add (pv 3) pe_int) (pg_sub (pv 0) pe_int set_list))
      (pss_cons (ps_if (pt_cmpR op_ge (pv 5) (pe_op op_pow pe_int pe_int) (nomark _)) (pss_cons (ps_asg (pe_op op_fdivA (pv 5) (pv 1)) (pg_sub (pv 2) (pv 4) set_list))
      (pss_one (ps_ret (pe_op op_mod (pv 5) (pv 1))))) pss_nil)
      (pss_cons (ps_set (i := 6) sc_l_draw.nd rfl (Or.inl rfl) (pe_op op_mod (pe_op op_add (pe_op op_add (pe_op op_mulA (pe_op op_mod (pv 5) pe_int) pe_int) (pe_op op_mulA (pe_op op_mulA (pv 3) (pv 3)) pe_int)) pe_int) pe_int))
      (pss_cons (ps_set (i := 6) sc_l_draw.nd rfl (Or.inl rfl) (pe_op op_mod (pe_op op_mulA (pv 6) (pv 6)) pe_int))
      (pss_one (ps_ret (pe_op op_mod (pe_op op_mod (pe_op op_mulA (pv 6) (pv 6)) pe_int) (pv 1))))))))))), ?_⟩
  try dsimp only [L2.cxOf, L2.Cx.nox, L2.Cx.wish, List.map_cons, List.map_nil]
  obtain ⟨p, c, ms, t, b, rfl, p0, p1, p2, p3, p4, p5, k⟩ := h
  refine start_to (σ := [some _, some _, none, none, none, none, none]) rfl ?_
  have hl : 0 < (ms.length : Int) := by omega
  have hm0 := Int.emod_nonneg t (show (ms.length : Int) ≠ 0 by omega)
  have hm1 := Int.emod_lt_of_pos t hl
  walk_at "go"
  refine ite_d (fun c1 => ?_) (fun c1 => ?_)
  · walk_at "go"
    exact k _ (_) _ (by walk_at "g_lk") upd_same ⟨Int.emod_nonneg _ (by omega), Int.emod_lt_of_pos _ (by omega)⟩ (by rw [List.length_set]; exact p3) (by walk_at "g_but2")
  · walk_at "go"
    exact k _ ms _ upd_same (by walk_at "g_lk") ⟨Int.emod_nonneg _ (by omega), Int.emod_lt_of_pos _ (by omega)⟩ p3 (by walk_at "g_but2")

def sp_Fallings_init (K : PySem.W.Frag) (C : Addr) : Sp := fun vs H Q E => ∃ (x dx : Addr), vs = [.ref x] ∧ (H x = some (.ins C dx [])) ∧ ∀ (d : Addr), (H d = none) → Q (.non) (upd (upd H d (.dT [])) x (.ins C dx [("known", .ref d)]))
theorem use_Fallings_init {K : PySem.W.Frag} {C : Addr} {H : Hp} {Q : VK} {E : XK} {x dx : Addr} (p0 : H x = some (.ins C dx [])) (k : ∀ (d : Addr), (H d = none) → Q (.non) (upd (upd H d (.dT [])) x (.ins C dx [("known", .ref d)]))) : sp_Fallings_init K C [.ref x] H Q E := ⟨x, dx, rfl, p0, k⟩
theorem len_Fallings_init {K : PySem.W.Frag} {C : Addr} (vs : List V) (H : Hp) (Q : VK) (E : XK) (h : sp_Fallings_init K C vs H Q E) : vs.length = ["self"].length := by
  obtain ⟨_, _, rfl, _⟩ := h
  rfl
local macro_rules | `(tactic| walk_at "g_call") => `(tactic| ((with_reducible refine' use_Fallings_init ?c0 ?_); (case c0 => walk_at "g_pre"); intros))
theorem ok_Fallings_init (T : Txt K mg) : FnOk P w K mg base CX0 1 T.a_Fallings_init T.d_Fallings_init ["self"] (sp_Fallings_init K (T.e_Fallings)) := by
  refine T.F_Fallings_init.ok sc_Fallings_init len_Fallings_init (fun cdv A outer s H vs Q E hr h => ?_)
  refine ⟨_, (pss_one (ps_fld (pv 0) pe_dnewT rfl)), ?_⟩
  try dsimp only [L2.cxOf, L2.Cx.nox, L2.Cx.wish, List.map_cons, List.map_nil]
  obtain ⟨x, dx, rfl, p0, k⟩ := h
  refine start_to (σ := [some _]) rfl ?_
  walk_at "go"
  exact k _ (by assumption)
def sp_Fallings_many (K : PySem.W.Frag) (n : Nat) (C : Addr) : Sp := fun vs H Q E => ∃ (x d dx : Addr) (kvs : List (List Key × V)) (t s m : Int), vs = [.ref x, .int t, .int s, .int m] ∧ (H x = some (.ins C dx [("known", .ref d)])) ∧ (H d = some (.dT kvs)) ∧ (Good kvs) ∧ ((0 ≤ t ∧ t ≤ 40) ∧ (0 ≤ m ∧ m ≤ 40) ∧ 0 ≤ s ∧ s < n ∧ s ≤ 8) ∧ ∀ (kvs' : List (List Key × V)) (H' : Hp), (H' d = some (.dT kvs')) → (Good kvs') → (But d H H') → Q (.int (fallN s.toNat t.toNat m.toNat : Nat)) H'
theorem use_Fallings_many {K : PySem.W.Frag} {n : Nat} {C : Addr} {H : Hp} {Q : VK} {E : XK} {x d dx : Addr} {kvs : List (List Key × V)} {t s m : Int} (p0 : H x = some (.ins C dx [("known", .ref d)])) (p1 : H d = some (.dT kvs)) (p2 : Good kvs) (p3 : (0 ≤ t ∧ t ≤ 40) ∧ (0 ≤ m ∧ m ≤ 40) ∧ 0 ≤ s ∧ s < n ∧ s ≤ 8) (k : ∀ (kvs' : List (List Key × V)) (H' : Hp), (H' d = some (.dT kvs')) → (Good kvs') → (But d H H') → Q (.int (fallN s.toNat t.toNat m.toNat : Nat)) H') : sp_Fallings_many K n C [.ref x, .int t, .int s, .int m] H Q E := ⟨x, d, dx, kvs, t, s, m, rfl, p0, p1, p2, p3, k⟩
theorem len_Fallings_many {K : PySem.W.Frag} {n : Nat} {C : Addr} (vs : List V) (H : Hp) (Q : VK) (E : XK) (h : sp_Fallings_many K n C vs H Q E) : vs.length = ["self", "total", "size", "most"].length := by
  obtain ⟨_, _, _, _, _, _, _, rfl, _⟩ := h
  rfl
local macro_rules | `(tactic| walk_at "g_call") => `(tactic| ((with_reducible refine' use_Fallings_many ?c0 ?c1 ?c2 ?c3 ?_); (case c0 => walk_at "g_pre"); (case c1 => walk_at "g_pre"); (case c2 => walk_at "g_pre"); (case c3 => walk_at "g_pre"); intros))
theorem okn_Fallings_many (T : Txt K mg) (n : Nat) : FnOk P w K mg base CX0 n T.a_Fallings_many T.d_Fallings_many ["self", "total", "size", "most"] (sp_Fallings_many K n T.e_Fallings) := by
  induction n with
  | zero => exact ⟨len_Fallings_many, fun A outer s H args us vs Q E hr he hb hv h => by
      obtain ⟨x, d, dx, kvs, t, s, m, _, _, _, _, z, _⟩ := h
      omega⟩
  | succ n ih =>
  have G_Fallings_many := ih
  refine T.F_Fallings_many.ok sc_Fallings_many len_Fallings_many (fun cdv A outer s H vs Q E hr h => ?_)
  refine ⟨_, (pss_cons (ps_if (PW.pt (pw_or (pt_cmpR op_eq (pv 2) pe_int (nomark _)) (pw_or1 (pt_cmpR op_eq (pv 1) pe_int (nomark _))))) (pss_one (ps_ret (pe_callTy call_int1 (by rfl) T.z_int (by decide +kernel) (pa_cons (pe_cmpR op_eq (pv 1) pe_int (nomark _)) pa_nil)))) pss_nil)
      (pss_cons (ps_if (pt_cmp (pc_dnotin (hu_of hr) (pe_tup (pa_cons (pv 1) (pa_cons (pv 2) (pa_cons (pv 3) pa_nil)))) (pe_fld (pv 0) rfl))) (pss_cons (ps_set (i := 4) sc_Fallings_many.nd rfl (Or.inl rfl) (pe_listRg rfl (by rfl) T.z_list (prg_2 (by rfl) T.z_range pe_int (pe_op op_add (pe_callB (call_min2 rfl) (by rfl) T.z_min (by decide +kernel) (pa_cons (pv 1) (pa_cons (pv 3) pa_nil))) pe_int))))
      (pss_one (ps_dput (hu_of hr) (pe_fld (pv 0) rfl) (pe_tup (pa_cons (pv 1) (pa_cons (pv 2) (pa_cons (pv 3) pa_nil)))) (pe_callB (cr_sumK K rfl rfl) (by rfl) T.z_sum (by decide +kernel) (pa_cons (pe_lc (own := [("one", 5)]) rfl sc_Fallings_many.nd (pi_listK K rfl (pv 4)) (blkOk_by (own := [("one", 5)]) (N := ["self", "total", "size", "most", "begins", "one"]) (sc := defScope s_Fallings_many) (by decide +kernel)) (fun _ _ _ _ _ => (pg_name (i := 5) sc_Fallings_many.nd rfl (Or.inl rfl))) (fun _ _ _ _ _ => pts_nil) (fun _ _ _ _ _ => (pe_meth (pv 0) T.C_Fallings T.m_Fallings_many G_Fallings_many (hr.mono (by first | decide | omega)) T.b_Fallings_many .nil pass0 (pa_cons (pe_op op_sub (pv 1) (pv 5)) (pa_cons (pe_op op_sub (pv 2) pe_int) (pa_cons (pv 5) pa_nil)))))) pa_nil)) rfl))) pss_nil)
      (pss_one (ps_ret (pe_dget (hu_of hr) (pe_fld (pv 0) rfl) (pe_tup (pa_cons (pv 1) (pa_cons (pv 2) (pa_cons (pv 3) pa_nil)))) (fun _ _ => rfl)))))), ?_⟩
  try dsimp only [L2.cxOf, L2.Cx.nox, L2.Cx.wish, List.map_cons, List.map_nil]
  obtain ⟨x, d, dx, kvs, t, s, m, rfl, p0, p1, p2, ⟨p3, p4, p5, p6, p7⟩, k⟩ := h
  have hxd : x ≠ d := ne_of p0 p1 (by nofun)
  have hlen := p2.len
  refine start_to (σ := [some _, some _, some _, some _, none, none]) rfl ?_
  have eb : s = 0 ∨ t = 0 → (if decide (t = 0) = true then (1 : Int) else 0) = (fallN s.toNat t.toNat m.toNat : Nat) := fun h => by
    rw [fall_base (by omega)]
    by_cases c : t = 0
    · subst c
      rfl
    · rw [if_neg (by simpa using c), if_neg (by omega)]
      rfl
  walk_at "go"
  refine ite_d (fun c1 => ?_) (fun c1 => ?_)
  · walk_at "go"
    rw [eb (.inl c1)]
    exact k _ _ p1 p2 (But.refl _ _)
  walk_at "go"
  refine ite_d (fun c2 => ?_) (fun c2 => ?_)
  · walk_at "go"
    rw [eb (.inr c2)]
    exact k _ _ p1 p2 (But.refl _ _)
  walk_at "goI"
  refine if_join (fun σ' H' => ∃ (y : Option V) (kvs' : List (List Key × V)), σ' = [some (.ref x), some (.int t), some (.int s), some (.int m), y, none] ∧ H' d = some (.dT kvs') ∧ Good kvs' ∧ valV kvs' [.inl t, .inl s, .inl m] = some (.int (fallN s.toNat t.toNat m.toNat : Nat)) ∧ But d H H') (fun nx' hn => ?_) ?_
  · walk_at "go"
    rename_i q1 nq1
    cases hv : valV kvs [.inl t, .inl s, .inl m] with
    | some v =>
      walk_at "go"
      have hv' := p2.val hv
      exact hn _ _ ⟨_, kvs, rfl, by walk_at "g_lk", p2, by rw [hv, hv'], by walk_at "g_but"⟩
    | none =>
    walk_at "go"
    rename_i b nb
    rw [rg_ints]
    have hxb : b ≠ d := by walk_at "g_ne"
    have n1 : H b = none := by walk_at "g_free"
    have he : ((if m < t then m else t) + 1 - 1).toNat = min t.toNat m.toNat := by split <;> omega
    rw [he]
    intro D nD
    have hDd : d ≠ D := by walk_at "g_ne"
    have hDx : x ≠ D := by walk_at "g_ne"
    have nD' : H D = none := by walk_at "g_free"
    have hbD : b ≠ D := fun z => by
      rw [← z, upd_same] at nD
      cases nD
    refine lcL (xs := ((List.range (min t.toNat m.toNat)).map fun i : Nat => 1 + (i : Int)).map V.int) (fun i acc H' => acc = ((List.range i).map fun i => ((fallN (s.toNat - 1) (t.toNat - (i + 1)) (i + 1) : Nat) : Int)).map V.int ∧ (∃ kvs', H' d = some (.dT kvs') ∧ Good kvs') ∧ H' b = some (.lst (((List.range (min t.toNat m.toNat)).map fun i : Nat => 1 + (i : Int)).map V.int)) ∧ But d H H') nD ⟨rfl, ⟨kvs, by walk_at "g_lk", p2⟩, by walk_at "g_lk", by walk_at "g_but"⟩ (fun i acc H' _ hp _ => SqL.of hp.2.2.1) ?_ ?_
    · clear nb nD nq1 p1
      rintro i v acc H2 Z Y hx ⟨rfl, ⟨kvs', h1, h2⟩, h3, h4⟩ hD hz _
      have hi : i < min t.toNat m.toNat := by
        have := (List.getElem?_eq_some_iff.mp hx).1
        simpa using this
      have hx' : v = .int (1 + (i : Int)) := by
        rw [List.getElem?_map, List.getElem?_map, List.getElem?_range hi] at hx
        exact (Option.some.inj hx).symm
      subst hx'
      have h5 := h4 _ _ hxd p0
      have e1 : (s - 1).toNat = s.toNat - 1 := by omega
      have e2 : (t - (1 + (i : Int))).toNat = t.toNat - (i + 1) := by omega
      have e3 : (1 + (i : Int)).toNat = i + 1 := by omega
      clear hx p0
      walk_at "go"
      rename_i kvs2 H3 a1 a2 a3
      rw [e1, e2, e3]
      have hD3 : H3 D = some (.lst (((List.range i).map fun i => ((fallN (s.toNat - 1) (t.toNat - (i + 1)) (i + 1) : Nat) : Int)).map V.int)) := a3 _ _ hDd.symm hD
      refine hz _ _ hD3 (sz4' (by simp; omega)) ⟨by rw [List.range_succ, List.map_append, List.map_append]; rfl, ⟨kvs2, by walk_at "g_lk", a2⟩, ?_, by walk_at "g_but"⟩
      have := a3 _ _ hxb h3
      walk_at "g_lk"
    · clear nb nD nq1 p1
      rintro acc H2 ⟨rfl, ⟨kvs', h1, h2⟩, h3, h4⟩ hD
      rw [List.length_map, List.length_map, List.length_range] at hD
      have h5 := h4 _ _ hxd p0
      have h6 := h2.len
      walk_at "go"
      rename_i q2 nq2
      rw [sumF_list (fun i => fallN (s.toNat - 1) (t.toNat - (i + 1)) (i + 1)), ← fall_rec (by omega) (by omega)]
      refine hn _ _ ⟨_, _, rfl, upd_same, h2.put p3 ⟨p5, p7⟩ p4, ?_, by walk_at "g_but"⟩
      rw [valV_put, if_pos rfl]
  · rintro σ' H' ⟨y, kvs', rfl, h1, h2, h3, h4⟩
    have h5 := h4 _ _ hxd p0
    walk_at "go"
    exact k _ _ (by walk_at "g_lk") h2 (by walk_at "g_but")
theorem ok_Fallings_many (T : Txt K mg) : FnOk P w K mg base CX0 9 T.a_Fallings_many T.d_Fallings_many ["self", "total", "size", "most"] (sp_Fallings_many K 9 T.e_Fallings) := okn_Fallings_many T 9

def sp_must_be_sizes (K : PySem.W.Frag) (e_NoPlan : Addr) : Sp := fun vs H Q E => ∃ (x y : Int), vs = [.int x, .int y] ∧ ((SizeOk x y) → Q (.non) H) ∧ (¬ (SizeOk x y) → E (.ref e_NoPlan) none H)
theorem use_must_be_sizes {K : PySem.W.Frag} {e_NoPlan : Addr} {H : Hp} {Q : VK} {E : XK} {x y : Int}  (k : (SizeOk x y) → Q (.non) H) (kx : ¬ (SizeOk x y) → E (.ref e_NoPlan) none H) : sp_must_be_sizes K e_NoPlan [.int x, .int y] H Q E := ⟨x, y, rfl, k, kx⟩
theorem len_must_be_sizes {K : PySem.W.Frag} {e_NoPlan : Addr} (vs : List V) (H : Hp) (Q : VK) (E : XK) (h : sp_must_be_sizes K e_NoPlan vs H Q E) : vs.length = ["hosts", "fields"].length := by
  obtain ⟨_, _, rfl, _⟩ := h
  rfl
local macro_rules | `(tactic| walk_at "g_call") => `(tactic| ((with_reducible refine' use_must_be_sizes ?kk ?kx); first | ((case kx => (intro _; exfalso; walk_at "g_no")); intros) | ((case kk => (intro _; exfalso; walk_at "g_no")); intros) | skip))
theorem ok_must_be_sizes (T : Txt K mg) : FnOk P w K mg base (L2.CX P w) 1 T.a_must_be_sizes T.d_must_be_sizes ["hosts", "fields"] (sp_must_be_sizes K T.e_NoPlan) := by
  refine T.F_must_be_sizes.okX sc_must_be_sizes len_must_be_sizes (fun cdv A outer s H vs Q E hr h => ?_)
  refine ⟨_, (pss_one (ps_if (PW.pt (pw_or (pt_cmpR op_lt (pv 0) pe_int (nomark _)) (pw_or (pt_cmpR op_gt (pv 0) (pe_glob (v := .int 40) rfl T.c_MOST_HOSTS ⟨_, rfl⟩) (nomark _)) (pw_or (pt_cmpR op_lt (pv 1) pe_int (nomark _)) (pw_or1 (pt_cmpR op_gt (pv 1) (pe_glob (v := .int 8) rfl T.c_MOST_FIELDS ⟨_, rfl⟩) (nomark _))))))) (pss_one (ps_raise rfl (takes_of rfl rfl rfl rfl) (pmk_own PySem.F.excBase_ValueError T.x_NoPlan T.g_NoPlan T.k_NoPlan (raises_own T.y_NoPlan T.t_NoPlan) rfl))) pss_nil)), ?_⟩
  try dsimp only [L2.cxOf, L2.Cx.nox, L2.Cx.wish, List.map_cons, List.map_nil]
  obtain ⟨x, y, rfl, k, kx⟩ := h
  unfold SizeOk at k kx
  refine start_to (σ := [some _, some _]) rfl ?_
  walk_at "go"
  refine ite_d (fun c1 => ?_) (fun c1 => ?_)
  · walk_at "go"
    exact kx (by omega)
  walk_at "go"
  refine ite_d (fun c2 => ?_) (fun c2 => ?_)
  · walk_at "go"
    exact kx (by omega)
  walk_at "go"
  refine ite_d (fun c3 => ?_) (fun c3 => ?_)
  · walk_at "go"
    exact kx (by omega)
  walk_at "go"
  refine ite_d (fun c4 => ?_) (fun c4 => ?_)
  · walk_at "go"
    exact kx (by omega)
  walk_at "go"
  exact k (by omega)
def sp_must_be_plan (K : PySem.W.Frag) (e_NoPlan : Addr) : Sp := fun vs H Q E => ∃ (a : Addr) (ps : List Int), vs = [.ref a] ∧ (SqL K H a (ps.map V.int)) ∧ (ps.length ≤ 1000) ∧ ((PlanOk ps) → Q (.non) H) ∧ (¬ (PlanOk ps) → E (.ref e_NoPlan) none H)
theorem use_must_be_plan {K : PySem.W.Frag} {e_NoPlan : Addr} {H : Hp} {Q : VK} {E : XK} {a : Addr} {ps : List Int} (p0 : SqL K H a (ps.map V.int)) (p1 : ps.length ≤ 1000) (k : (PlanOk ps) → Q (.non) H) (kx : ¬ (PlanOk ps) → E (.ref e_NoPlan) none H) : sp_must_be_plan K e_NoPlan [.ref a] H Q E := ⟨a, ps, rfl, p0, p1, k, kx⟩
theorem len_must_be_plan {K : PySem.W.Frag} {e_NoPlan : Addr} (vs : List V) (H : Hp) (Q : VK) (E : XK) (h : sp_must_be_plan K e_NoPlan vs H Q E) : vs.length = ["plan"].length := by
  obtain ⟨_, _, rfl, _⟩ := h
  rfl
local macro_rules | `(tactic| walk_at "g_call") => `(tactic| ((with_reducible refine' use_must_be_plan ?c0 ?c1 ?kk ?kx); (case c0 => walk_at "g_pre"); (case c1 => walk_at "g_pre"); first | ((case kx => (intro _; exfalso; walk_at "g_no")); intros) | ((case kk => (intro _; exfalso; walk_at "g_no")); intros) | skip))
theorem ok_must_be_plan (T : Txt K mg) : FnOk P w K mg base (L2.CX P w) 1 T.a_must_be_plan T.d_must_be_plan ["plan"] (sp_must_be_plan K T.e_NoPlan) := by
  refine T.F_must_be_plan.okX sc_must_be_plan len_must_be_plan (fun cdv A outer s H vs Q E hr h => ?_)
  refine ⟨_, (pss_one (ps_if (PW.pt (pw_or (pt_cmpR op_lt (pe_callB (call_lenK K rfl) (by rfl) T.z_len (by decide +kernel) (pa_cons (pv 0) pa_nil)) pe_int (nomark _)) (pw_or (pt_cmpR op_gt (pe_callB (call_lenK K rfl) (by rfl) T.z_len (by decide +kernel) (pa_cons (pv 0) pa_nil)) (pe_glob (v := .int 8) rfl T.c_MOST_FIELDS ⟨_, rfl⟩) (nomark _)) (pw_or (pt_cmpR op_lt (pe_callB (cr_minK K rfl rfl) (by rfl) T.z_min (by decide +kernel) (pa_cons (pv 0) pa_nil)) pe_int (nomark _)) (pw_or1 (pt_cmpR op_gt (pe_callB (cr_sumK K rfl rfl) (by rfl) T.z_sum (by decide +kernel) (pa_cons (pv 0) pa_nil)) (pe_glob (v := .int 40) rfl T.c_MOST_HOSTS ⟨_, rfl⟩) (nomark _))))))) (pss_one (ps_raise rfl (takes_of rfl rfl rfl rfl) (pmk_own PySem.F.excBase_ValueError T.x_NoPlan T.g_NoPlan T.k_NoPlan (raises_own T.y_NoPlan T.t_NoPlan) rfl))) pss_nil)), ?_⟩
  try dsimp only [L2.cxOf, L2.Cx.nox, L2.Cx.wish, List.map_cons, List.map_nil]
  obtain ⟨a, ps, rfl, p0, p1, k, kx⟩ := h
  refine start_to (σ := [some _]) rfl ?_
  walk_at "go"
  refine ite_d (fun c1 => ?_) (fun c1 => ?_)
  · walk_at "go"
    exact kx fun z => by have := z.1; omega
  walk_at "go"
  refine ite_d (fun c2 => ?_) (fun c2 => ?_)
  · walk_at "go"
    exact kx fun z => by have := z.1; omega
  walk_at "go"
  rename_i m hm hm2
  refine ite_d (fun c3 => ?_) (fun c3 => ?_)
  · walk_at "go"
    exact kx fun z => by have := z.2.1 m hm; omega
  walk_at "go"
  refine ite_d (fun c4 => ?_) (fun c4 => ?_)
  · walk_at "go"
    exact kx fun z => by have := z.2.2; omega
  walk_at "go"
  exact k ⟨by omega, fun x hx => by have := hm2 x hx; omega, by omega⟩

def sp_must_be_counts (K : PySem.W.Frag) (e_NoPlan : Addr) : Sp := fun vs H Q E => ∃ (a : Addr) (cs : List Int), vs = [.ref a] ∧ (SqL K H a (cs.map V.int)) ∧ (cs.length ≤ 1000) ∧ ((CountsOk cs) → ∀ (H' : Hp), (Same H H') → Q (.non) H') ∧ (¬ (CountsOk cs) → ∀ H', Same H H' → E (.ref e_NoPlan) none H')
theorem use_must_be_counts {K : PySem.W.Frag} {e_NoPlan : Addr} {H : Hp} {Q : VK} {E : XK} {a : Addr} {cs : List Int} (p0 : SqL K H a (cs.map V.int)) (p1 : cs.length ≤ 1000) (k : (CountsOk cs) → ∀ (H' : Hp), (Same H H') → Q (.non) H') (kx : ¬ (CountsOk cs) → ∀ H', Same H H' → E (.ref e_NoPlan) none H') : sp_must_be_counts K e_NoPlan [.ref a] H Q E := ⟨a, cs, rfl, p0, p1, k, kx⟩
theorem len_must_be_counts {K : PySem.W.Frag} {e_NoPlan : Addr} (vs : List V) (H : Hp) (Q : VK) (E : XK) (h : sp_must_be_counts K e_NoPlan vs H Q E) : vs.length = ["counts"].length := by
  obtain ⟨_, _, rfl, _⟩ := h
  rfl
local macro_rules | `(tactic| walk_at "g_call") => `(tactic| ((with_reducible refine' use_must_be_counts ?c0 ?c1 ?kk ?kx); (case c0 => walk_at "g_pre"); (case c1 => walk_at "g_pre"); first | ((case kx => (intro _; exfalso; walk_at "g_no")); intros) | ((case kk => (intro _; exfalso; walk_at "g_no")); intros) | skip))
theorem ok_must_be_counts (T : Txt K mg) : FnOk P w K mg base (L2.CX P w) 2 T.a_must_be_counts T.d_must_be_counts ["counts"] (sp_must_be_counts K T.e_NoPlan) := by
  have G_must_be_plan := ok_must_be_plan (P := P) (w := w) (base := base) T
  refine T.F_must_be_counts.okX sc_must_be_counts len_must_be_counts (fun cdv A outer s H vs Q E hr h => ?_)
  refine ⟨_, (pss_cons (ps_expr (pe_callS G_must_be_plan (hr.mono (by decide)) (by rfl) T.g_must_be_plan T.F_must_be_plan.kp T.b_must_be_plan (fun σ => passAt (takes_of rfl rfl rfl rfl) σ) (pa_cons (pv 0) pa_nil)))
      (pss_one (ps_if (pt_cmpR op_gt (pe_callB (call_lenK K rfl) (by rfl) T.z_len (by decide +kernel) (pa_cons (pe_lc (own := [("k", 1)]) rfl sc_must_be_counts.nd (pi_range2 (by rfl) T.z_range (pa_cons pe_int (pa_cons (pe_callB (call_lenK K rfl) (by rfl) T.z_len (by decide +kernel) (pa_cons (pv 0) pa_nil)) pa_nil))) (blkOk_by (own := [("k", 1)]) (N := ["counts", "k"]) (sc := defScope s_must_be_counts) (by decide +kernel)) (fun _ _ _ _ _ => (pg_name (i := 1) sc_must_be_counts.nd rfl (Or.inl rfl))) (fun _ _ _ _ _ => (pts_one (pt_cmpR op_gt (pe_ix (ix_listK K rfl) (pv 0) (pv 1) (fun _ _ => rfl)) (pe_ix (ix_listK K rfl) (pv 0) (pe_op op_sub (pv 1) pe_int) (fun _ _ => rfl)) (nomark _)))) (fun _ _ _ _ _ => (pv 1))) pa_nil)) pe_int (nomark _)) (pss_one (ps_raise rfl (takes_of rfl rfl rfl rfl) (pmk_own PySem.F.excBase_ValueError T.x_NoPlan T.g_NoPlan T.k_NoPlan (raises_own T.y_NoPlan T.t_NoPlan) rfl))) pss_nil))), ?_⟩
  try dsimp only [L2.cxOf, L2.Cx.nox, L2.Cx.wish, List.map_cons, List.map_nil]
  obtain ⟨a, cs, rfl, p0, p1, k, kx⟩ := h
  refine start_to (σ := [some _, none]) rfl ?_
  by_cases good : PlanOk cs
  rotate_left
  · walk_at "go"
    exact kx (fun z => good z.1) _ (Same.refl _)
  have g1 := good.1
  walk_at "go"
  intro D nD
  refine lcR_fil (fun i => decide (cs.getD (i + 1) 0 > cs.getD i 0)) (fun i => 1 + (i : Int)) nD (by omega) ?_ ?_
  · intro i H2 Z Y hi hs hz hy
    have hi' : i + 1 < cs.length := by omega
    walk_at "go"
    rename_i z1 hz1 z2 hz2
    have e1 : cs.getD (i + 1) 0 = z1 := by
      rw [show (1 + (i : Int)).toNat = i + 1 by omega] at hz1
      simp [List.getD, hz1]
    have e2 : cs.getD i 0 = z2 := by
      rw [show (1 + (i : Int) - 1).toNat = i by omega] at hz2
      simp [List.getD, hz2]
    rw [e1, e2] at hz hy
    refine ite_d (fun c1 => ?_) (fun c1 => ?_)
    · walk_at "go"
      exact hz (decide_eq_true (by omega)) _ (by walk_at "g_same")
    · exact hy (decide_eq_false (by omega)) _ (by walk_at "g_same")
  · intro H2 hs hD
    rw [show ((cs.length : Int) - 1).toNat = cs.length - 1 by omega] at hD
    walk_at "go"
    rw [List.length_map]
    refine ite_d (fun c1 => ?_) (fun c1 => ?_)
    · walk_at "go"
      refine kx (fun z => ?_) _ hs
      have := falls_dec.mp z.2
      rw [this] at c1
      simp at c1
    · walk_at "go"
      refine k ⟨good, falls_dec.mpr ?_⟩ _ hs
      refine List.eq_nil_of_length_eq_zero ?_
      omega
def sp_counts_number (K : PySem.W.Frag) (e_NoPlan : Addr) : Sp := fun vs H Q E => ∃ (a : Addr) (cs : List Int), vs = [.ref a] ∧ (SqL K H a (cs.map V.int)) ∧ (cs.length ≤ 1000) ∧ ((CountsOk cs) → ∀ (H' : Hp), (Same H H') → Q (.int (rkC cs)) H') ∧ (¬ (CountsOk cs) → ∀ H', Same H H' → E (.ref e_NoPlan) none H')
theorem use_counts_number {K : PySem.W.Frag} {e_NoPlan : Addr} {H : Hp} {Q : VK} {E : XK} {a : Addr} {cs : List Int} (p0 : SqL K H a (cs.map V.int)) (p1 : cs.length ≤ 1000) (k : (CountsOk cs) → ∀ (H' : Hp), (Same H H') → Q (.int (rkC cs)) H') (kx : ¬ (CountsOk cs) → ∀ H', Same H H' → E (.ref e_NoPlan) none H') : sp_counts_number K e_NoPlan [.ref a] H Q E := ⟨a, cs, rfl, p0, p1, k, kx⟩
theorem len_counts_number {K : PySem.W.Frag} {e_NoPlan : Addr} (vs : List V) (H : Hp) (Q : VK) (E : XK) (h : sp_counts_number K e_NoPlan vs H Q E) : vs.length = ["counts"].length := by
  obtain ⟨_, _, rfl, _⟩ := h
  rfl
local macro_rules | `(tactic| walk_at "g_call") => `(tactic| ((with_reducible refine' use_counts_number ?c0 ?c1 ?kk ?kx); (case c0 => walk_at "g_pre"); (case c1 => walk_at "g_pre"); first | ((case kx => (intro _; exfalso; walk_at "g_no")); intros) | ((case kk => (intro _; exfalso; walk_at "g_no")); intros) | skip))
theorem ok_counts_number (T : Txt K mg) : FnOk P w K mg base (L2.CX P w) 10 T.a_counts_number T.d_counts_number ["counts"] (sp_counts_number K T.e_NoPlan) := by
  have G_must_be_counts := ok_must_be_counts (P := P) (w := w) (base := base) T
  have G_Fallings_init := ok_Fallings_init (P := P) (w := w) (base := base) T
  have G_Fallings_many := ok_Fallings_many (P := P) (w := w) (base := base) T
  refine T.F_counts_number.okX sc_counts_number len_counts_number (fun cdv A outer s H vs Q E hr h => ?_)
  refine ⟨_, (pss_cons (ps_expr (pe_callS G_must_be_counts (hr.mono (by decide)) (by rfl) T.g_must_be_counts T.F_must_be_counts.kp T.b_must_be_counts (fun σ => passAt (takes_of rfl rfl rfl rfl) σ) (pa_cons (pv 0) pa_nil)))
      (pss_cons (ps_set (i := 1) sc_counts_number.nd rfl (Or.inl rfl) (pe_make0 T.M_Fallings G_Fallings_init (hr.mono (by decide)) (by rfl) T.g_Fallings T.b_Fallings_init .nil pass0))
      (pss_cons (ps_set (i := 2) sc_counts_number.nd rfl (Or.inl rfl) (pe_callB (cr_sumK K rfl rfl) (by rfl) T.z_sum (by decide +kernel) (pa_cons (pv 0) pa_nil)))
      (pss_cons (ps_set (i := 3) sc_counts_number.nd rfl (Or.inl rfl) pe_int)
      (pss_cons (ps_for (passes_of rfl) rfl (pi_range1 rfl T.z_range (pa_cons (pe_callB (call_lenK K rfl) (by rfl) T.z_len (by decide +kernel) (pa_cons (pv 0) pa_nil)) pa_nil)) (pg_name (i := 4) sc_counts_number.nd rfl (Or.inl rfl)) (pss_cons (ps_for (passes_of rfl) rfl (pi_range1 rfl T.z_range (pa_cons (pe_ix (ix_listK K rfl) (pv 0) (pv 4) (fun _ _ => rfl)) pa_nil)) (pg_name (i := 5) sc_counts_number.nd rfl (Or.inl rfl)) (pss_one (ps_aug (i := 3) sc_counts_number.nd rfl (Or.inl rfl) (pe_meth (pv 1) T.C_Fallings T.m_Fallings_many G_Fallings_many (hr.mono (by first | decide | omega)) T.b_Fallings_many .nil pass0 (pa_cons (pe_op op_sub (pv 2) (pv 5)) (pa_cons (pe_op op_sub (pe_op op_sub (pe_callB (call_lenK K rfl) (by rfl) T.z_len (by decide +kernel) (pa_cons (pv 0) pa_nil)) pe_int) (pv 4)) (pa_cons (pv 5) pa_nil)))) ip_add)))
      (pss_one (ps_aug (i := 2) sc_counts_number.nd rfl (Or.inl rfl) (pe_ix (ix_listK K rfl) (pv 0) (pv 4) (fun _ _ => rfl)) ip_sub))))
      (pss_one (ps_ret (pv 3)))))))), ?_⟩
  try dsimp only [L2.cxOf, L2.Cx.nox, L2.Cx.wish, List.map_cons, List.map_nil]
  obtain ⟨a, cs, rfl, p0, pl, k, kx⟩ := h
  refine start_to (σ := [some _, none, none, none, none, none]) rfl ?_
  by_cases good : CountsOk cs
  rotate_left
  · walk_at "go"
    exact kx good _ (by walk_at "g_same")
  replace k := k good
  obtain ⟨p1, p2, p3⟩ := good.1
  walk_at "go"
  rename_i h0 H1 s1 q dx nq ndx hne d nd
  have hqd : q ≠ d := by walk_at "g_ne"
  have nd0 : H1 d = none := by walk_at "g_free"
  have sm : Same H1 (upd (upd (upd (upd H1 dx (.own q)) q (.ins T.e_Fallings dx [])) d (.dT [])) q (.ins T.e_Fallings dx [("known", .ref d)])) := fun b o hb => by
    rw [upd_ne (ne_of_none hb nq), upd_ne (ne_of_none hb nd0), upd_ne (ne_of_none hb nq), upd_ne (ne_of_none hb ndx)]
    exact hb
  have f1 : (upd (upd (upd (upd H1 dx (.own q)) q (.ins T.e_Fallings dx [])) d (.dT [])) q (.ins T.e_Fallings dx [("known", .ref d)])) q = some (.ins T.e_Fallings dx [("known", .ref d)]) := upd_same
  have f2 : (upd (upd (upd (upd H1 dx (.own q)) q (.ins T.e_Fallings dx [])) d (.dT [])) q (.ins T.e_Fallings dx [("known", .ref d)])) d = some (.dT []) := lk_upd hqd.symm upd_same
  have nd1 : H d = none := s1.free nd0
  generalize (upd (upd (upd (upd H1 dx (.own q)) q (.ins T.e_Fallings dx [])) d (.dT [])) q (.ins T.e_Fallings dx [("known", .ref d)])) = H2 at sm f1 f2 ⊢
  have s2 : Same H H2 := s1.trans sm
  clear s1 sm nq ndx nd nd0 hne
  walk_at "go"
  refine forR (fun i σ H3 => ∃ (y1 y2 : Option V) (kvs : List (List Key × V)), σ = [some (.ref a), some (.ref q), some (.int (cs.drop i).sum), some (.int (rkC cs - rkC (cs.drop i))), y1, y2] ∧ H3 q = some (.ins T.e_Fallings dx [("known", .ref d)]) ∧ H3 d = some (.dT kvs) ∧ Good kvs ∧ Same H H3) ⟨_, _, [], by rw [List.drop_zero, Int.sub_self], f1, f2, Good.nil, s2⟩ ?_ ?_
  · clear f1 f2 s2
    rintro σ1 H3 ⟨y1, y2, kvs, rfl, e1, e2, e3, e4⟩
    walk_at "go"
    rw [Int.toNat_natCast, List.drop_length]
    show Q (.int (rkC cs - 0)) H3
    rw [Int.sub_zero]
    exact k _ e4
  · clear f1 f2 s2
    rintro i σ1 H3 hi ⟨y1, y2, kvs, rfl, e1, e2, e3, e4⟩
    have hi' : i < cs.length := by omega
    have hx : cs[i]? = some cs[i] := List.getElem?_eq_getElem hi'
    obtain ⟨g1, g2⟩ := rkC_drop hx
    have g3 := p2 _ (List.mem_of_getElem? hx)
    have g4 := drop_le p2 i
    have g5 := sum_nn (drop_nn p2 (i + 1))
    generalize cs[i] = x at hx g1 g2 g3
    have p0' := e4.seq p0
    walk_at "go"
    rename_i z hz
    rw [show (0 + (i : Int)).toNat = i by omega, hx] at hz
    cases hz
    refine ⟨by omega, by omega, ?_⟩
    refine forR (fun j σ H4 => ∃ (y2 : Option V) (kvs : List (List Key × V)), σ = [some (.ref a), some (.ref q), some (.int (cs.drop i).sum), some (.int (rkC cs - rkC (cs.drop i) + preC (cs.length - 1 - i) (cs.drop i).sum j)), some (.int (0 + (i : Int))), y2] ∧ H4 q = some (.ins T.e_Fallings dx [("known", .ref d)]) ∧ H4 d = some (.dT kvs) ∧ Good kvs ∧ Same H H4) ⟨_, kvs, by rw [show preC (cs.length - 1 - i) (cs.drop i).sum 0 = 0 from rfl, Int.add_zero], e1, e2, e3, e4⟩ ?_ ?_
    · clear e1 e2 e3 e4 p0'
      rintro σ1 H4 ⟨y2, kvs4, rfl, e1, e2, e3, e4⟩
      have p0' := e4.seq p0
      walk_at "go"
      rename_i z hz
      rw [show (0 + (i : Int)).toNat = i by omega, hx] at hz
      cases hz
      rw [show (cs.drop i).sum - x = (cs.drop (i + 1)).sum by omega, show rkC cs - rkC (cs.drop i) + preC (cs.length - 1 - i) (cs.drop i).sum x.toNat = rkC cs - rkC (cs.drop (i + 1)) by omega]
      exact ⟨_, _, kvs4, rfl, e1, e2, e3, e4⟩
    · clear e1 e2 e3 e4 p0'
      rintro j σ1 H4 hj ⟨y2, kvs4, rfl, e1, e2, e3, e4⟩
      have p0' := e4.seq p0
      walk_at "go"
      rename_i kvs5 H5 b1 b2 b3
      have e5 := b3 _ _ hqd e1
      rw [show ((cs.length : Int) - 1 - (0 + (i : Int))).toNat = cs.length - 1 - i by omega, show (0 + (j : Int)) = (j : Int) by omega, Int.toNat_natCast, Int.add_assoc]
      exact ⟨_, kvs5, rfl, e5, b1, b2, Same.but e4 nd1 b3⟩
def sp_counts_of (K : PySem.W.Frag) (e_NoPlan : Addr) : Sp := fun vs H Q E => ∃ (x y n : Int), vs = [.int x, .int y, .int n] ∧ ((SizeOk x y ∧ 0 ≤ n ∧ n < (fallN y.toNat x.toNat x.toNat : Nat)) → ∀ (b : Addr) (cs : List Int) (H' : Hp), (H' b = some (.lst (cs.map V.int))) → (Same H H') → (H b = none) → (cs.length = y.toNat ∧ cs.sum = x ∧ (∀ c ∈ cs, 0 ≤ c)) → (Falls cs) → (rkC cs = n) → Q (.ref b) H') ∧ (¬ (SizeOk x y ∧ 0 ≤ n ∧ n < (fallN y.toNat x.toNat x.toNat : Nat)) → ∀ H', Same H H' → E (.ref e_NoPlan) none H')
theorem use_counts_of {K : PySem.W.Frag} {e_NoPlan : Addr} {H : Hp} {Q : VK} {E : XK} {x y n : Int}  (k : (SizeOk x y ∧ 0 ≤ n ∧ n < (fallN y.toNat x.toNat x.toNat : Nat)) → ∀ (b : Addr) (cs : List Int) (H' : Hp), (H' b = some (.lst (cs.map V.int))) → (Same H H') → (H b = none) → (cs.length = y.toNat ∧ cs.sum = x ∧ (∀ c ∈ cs, 0 ≤ c)) → (Falls cs) → (rkC cs = n) → Q (.ref b) H') (kx : ¬ (SizeOk x y ∧ 0 ≤ n ∧ n < (fallN y.toNat x.toNat x.toNat : Nat)) → ∀ H', Same H H' → E (.ref e_NoPlan) none H') : sp_counts_of K e_NoPlan [.int x, .int y, .int n] H Q E := ⟨x, y, n, rfl, k, kx⟩
theorem len_counts_of {K : PySem.W.Frag} {e_NoPlan : Addr} (vs : List V) (H : Hp) (Q : VK) (E : XK) (h : sp_counts_of K e_NoPlan vs H Q E) : vs.length = ["hosts", "fields", "number"].length := by
  obtain ⟨_, _, _, rfl, _⟩ := h
  rfl
local macro_rules | `(tactic| walk_at "g_call") => `(tactic| ((with_reducible refine' use_counts_of ?kk ?kx); first | ((case kx => (intro _; exfalso; walk_at "g_no")); intros) | ((case kk => (intro _; exfalso; walk_at "g_no")); intros) | skip))
theorem ok_counts_of (T : Txt K mg) : FnOk P w K mg base (L2.CX P w) 10 T.a_counts_of T.d_counts_of ["hosts", "fields", "number"] (sp_counts_of K T.e_NoPlan) := by
  have G_must_be_sizes := ok_must_be_sizes (P := P) (w := w) (base := base) T
  have G_Fallings_init := ok_Fallings_init (P := P) (w := w) (base := base) T
  have G_Fallings_many := ok_Fallings_many (P := P) (w := w) (base := base) T
  refine T.F_counts_of.okX sc_counts_of len_counts_of (fun cdv A outer s H vs Q E hr h => ?_)
  refine ⟨_, (pss_cons (ps_expr (pe_callS G_must_be_sizes (hr.mono (by decide)) (by rfl) T.g_must_be_sizes T.F_must_be_sizes.kp T.b_must_be_sizes (fun σ => passAt (takes_of rfl rfl rfl rfl) σ) (pa_cons (pv 0) (pa_cons (pv 1) pa_nil))))
      (pss_cons (ps_set (i := 3) sc_counts_of.nd rfl (Or.inl rfl) (pe_make0 T.M_Fallings G_Fallings_init (hr.mono (by decide)) (by rfl) T.g_Fallings T.b_Fallings_init .nil pass0))
      (pss_cons (ps_if (PW.pt (pw_or (pt_cmpR op_lt (pv 2) pe_int (nomark _)) (pw_or1 (pt_cmpR op_ge (pv 2) (pe_meth (pv 3) T.C_Fallings T.m_Fallings_many G_Fallings_many (hr.mono (by first | decide | omega)) T.b_Fallings_many .nil pass0 (pa_cons (pv 0) (pa_cons (pv 1) (pa_cons (pv 0) pa_nil)))) (nomark _))))) (pss_one (ps_raise rfl (takes_of rfl rfl rfl rfl) (pmk_own PySem.F.excBase_ValueError T.x_NoPlan T.g_NoPlan T.k_NoPlan (raises_own T.y_NoPlan T.t_NoPlan) rfl))) pss_nil)
      (pss_cons (ps_set (i := 4) sc_counts_of.nd rfl (Or.inl rfl) (pe_lst pa_nil))
      (pss_cons (ps_set (i := 5) sc_counts_of.nd rfl (Or.inl rfl) (pv 0))
      (pss_cons (ps_for (passes_of rfl) rfl (pi_range1 rfl T.z_range (pa_cons (pv 1) pa_nil)) (pg_name (i := 6) sc_counts_of.nd rfl (Or.inl rfl)) (pss_cons (ps_set (i := 7) sc_counts_of.nd rfl (Or.inl rfl) pe_int)
      (pss_cons (ps_while (passes_of rfl) (pt_cmpR op_ge (pv 2) (pe_meth (pv 3) T.C_Fallings T.m_Fallings_many G_Fallings_many (hr.mono (by first | decide | omega)) T.b_Fallings_many .nil pass0 (pa_cons (pe_op op_sub (pv 5) (pv 7)) (pa_cons (pe_op op_sub (pe_op op_sub (pv 1) pe_int) (pv 6)) (pa_cons (pv 7) pa_nil)))) (nomark _)) (pss_cons (ps_aug (i := 2) sc_counts_of.nd rfl (Or.inl rfl) (pe_meth (pv 3) T.C_Fallings T.m_Fallings_many G_Fallings_many (hr.mono (by first | decide | omega)) T.b_Fallings_many .nil pass0 (pa_cons (pe_op op_sub (pv 5) (pv 7)) (pa_cons (pe_op op_sub (pe_op op_sub (pv 1) pe_int) (pv 6)) (pa_cons (pv 7) pa_nil)))) ip_sub)
      (pss_one (ps_aug (i := 7) sc_counts_of.nd rfl (Or.inl rfl) pe_int ip_add))))
      (pss_cons (ps_expr (pe_bm PySem.F.plainAttrs_list PySem.F.slot_list_append PySem.F.type_list_append mt_append (pv 4) (pa_cons (pv 7) pa_nil)))
      (pss_one (ps_aug (i := 5) sc_counts_of.nd rfl (Or.inl rfl) (pv 7) ip_sub))))))
      (pss_one (ps_ret (pv 4))))))))), ?_⟩
  try dsimp only [L2.cxOf, L2.Cx.nox, L2.Cx.wish, List.map_cons, List.map_nil]
  obtain ⟨x, y, n, rfl, k, kx⟩ := h
  refine start_to (σ := [some _, some _, some _, none, none, none, none, none]) rfl ?_
  by_cases good : SizeOk x y
  rotate_left
  · walk_at "go"
    exact kx (fun z => good z.1) _ (Same.refl _)
  have p0 : 0 ≤ x ∧ x ≤ 40 ∧ 1 ≤ y ∧ y ≤ 8 := good
  walk_at "goI"
  rename_i h0 q dx nq ndx hne d nd
  have hqd : q ≠ d := by walk_at "g_ne"
  have nd1 : H d = none := by walk_at "g_free"
  have s2 : Same H (upd (upd (upd (upd H dx (.own q)) q (.ins T.e_Fallings dx [])) d (.dT [])) q (.ins T.e_Fallings dx [("known", .ref d)])) := fun b o hb => by
    rw [upd_ne (ne_of_none hb nq), upd_ne (ne_of_none hb nd1), upd_ne (ne_of_none hb nq), upd_ne (ne_of_none hb ndx)]
    exact hb
  have f1 : (upd (upd (upd (upd H dx (.own q)) q (.ins T.e_Fallings dx [])) d (.dT [])) q (.ins T.e_Fallings dx [("known", .ref d)])) q = some (.ins T.e_Fallings dx [("known", .ref d)]) := upd_same
  have f2 : (upd (upd (upd (upd H dx (.own q)) q (.ins T.e_Fallings dx [])) d (.dT [])) q (.ins T.e_Fallings dx [("known", .ref d)])) d = some (.dT []) := lk_upd hqd.symm upd_same
  generalize (upd (upd (upd (upd H dx (.own q)) q (.ins T.e_Fallings dx [])) d (.dT [])) q (.ins T.e_Fallings dx [("known", .ref d)])) = H2 at s2 f1 f2 ⊢
  clear nq ndx nd hne
  have hg0 := Good.nil
  walk_at "go"
  refine ite_d (fun c1 => ?_) (fun c1 => ?_)
  · walk_at "go"
    exact kx (fun z => by have := z.2.1; omega) _ s2
  walk_at "go"
  rename_i kvs3 H3 a1 a2 a3
  have a4 := a3 _ _ hqd f1
  have s3 : Same H H3 := Same.but s2 nd1 a3
  clear f1 f2 s2 a3
  refine ite_d (fun c2 => ?_) (fun c2 => ?_)
  · walk_at "go"
    exact kx (fun z => by have := z.2.2; omega) _ s3
  replace k := k ⟨good, by omega, by omega⟩
  walk_at "go"
  rename_i b nb
  have bd : b ≠ d := ne_new' nb a1
  have bq : b ≠ q := ne_new' nb a4
  have nb0 := s3.free nb
  refine forR (fun i σ H4 => ∃ (ps : List Int) (left num mo : Int) (y1 y2 : Option V) (kvs : List (List Key × V)), σ = [some (.int x), some (.int y), some (.int num), some (.ref q), some (.ref b), some (.int left), y1, y2] ∧ H4 b = some (.lst (ps.map V.int)) ∧ H4 q = some (.ins T.e_Fallings dx [("known", .ref d)]) ∧ H4 d = some (.dT kvs) ∧ Good kvs ∧ Same H H4 ∧ ps.length = i ∧ CPre x y.toNat n ps left num mo) ⟨[], x, n, x, _, _, kvs3, rfl, upd_same, by walk_at "g_lk", by walk_at "g_lk", a2, by walk_at "g_same", rfl, cpre_start p0.1 (by omega) (by omega)⟩ ?_ ?_
  · clear a1 a4 s3 nb
    rintro σ1 H4 ⟨ps, left, num, mo, y1, y2, kvs, rfl, e1, e2, e3, e4, e5, e6, e7⟩
    walk_at "go"
    obtain ⟨g1, g2⟩ := cpre_end e7 e6
    exact k _ ps _ e1 e5 nb0 ⟨e6, by have := e7.sm; omega, e7.pos⟩ (falls_of e7.fa) g2
  · clear a1 a4 s3 nb
    rintro i σ1 H4 hi ⟨ps, left, num, mo, y1, y2, kvs, rfl, e1, e2, e3, e4, e5, e6, e7⟩
    have hl : ps.length < y.toNat := by omega
    have eg : (y - 1 - (0 + (i : Int))).toNat = y.toNat - 1 - ps.length := by omega
    have b1 := e7.nl
    have b2 := e7.lh
    have b3 := e7.nm
    have b4 := e7.mh
    have b5 := e7.nn
    walk_at "go"
    refine whileW (fun m σ H5 => ∃ (s : Nat) (kvs : List (List Key × V)), σ = [some (.int x), some (.int y), some (.int (num - preC (y.toNat - 1 - ps.length) left s)), some (.ref q), some (.ref b), some (.int left), some (.int (0 + (i : Int))), some (.int (s : Int))] ∧ H5 b = some (.lst (ps.map V.int)) ∧ H5 q = some (.ins T.e_Fallings dx [("known", .ref d)]) ∧ H5 d = some (.dT kvs) ∧ Good kvs ∧ Same H H5 ∧ ((s : Int) ≤ left ∧ (s : Int) ≤ mo) ∧ preC (y.toNat - 1 - ps.length) left s ≤ num ∧ m = left.toNat - s) (left.toNat - 0) ⟨0, kvs, ?_, e1, e2, e3, e4, e5, ⟨by omega, by omega⟩, b5, rfl⟩ ?_
    · rw [show preC (y.toNat - 1 - ps.length) left 0 = 0 from rfl, Int.sub_zero]
      rfl
    · clear e1 e2 e3 e4 e5 kvs
      rintro m σ2 H5 ⟨s, kvs, rfl, e1, e2, e3, e4, e5, hs, hp, rfl⟩
      obtain ⟨hs1, hs2⟩ := hs
      walk_at "go"
      rename_i kvs6 H6 g1 g2 g3
      have g4 := g3 _ _ hqd e2
      have g5 := g3 _ _ bd e1
      have g6 : Same H H6 := Same.but e5 nd1 g3
      clear e1 e2 e3 e4 e5 g3
      rw [eg, Int.toNat_natCast]
      refine ite_d (fun c1 => ?_) (fun c1 => ?_)
      · have hm := cpre_more e7 hl ⟨hs1, hs2⟩ (by omega)
        refine turnW ?_
        walk_at "go"
        rename_i kvs7 H7 j1 j2 j3
        have j4 := j3 _ _ hqd g4
        have j5 := j3 _ _ bd g5
        have j6 : Same H H7 := Same.but g6 nd1 j3
        rw [eg, Int.toNat_natCast]
        refine ⟨_, ?_, s + 1, kvs7, ?_, j5, j4, j1, j2, j6, ⟨by omega, by omega⟩, ?_, rfl⟩
        · omega
        · rw [Int.sub_sub]
          rfl
        · show preC _ left s + _ ≤ num
          omega
      · walk_at "go"
        have qn := cpre_next e7 hl ⟨hs1, hs2⟩ hp (by omega)
        exact ⟨ps ++ [(s : Int)], _, _, _, _, _, kvs6, rfl, by first | exact upd_same | (rw [List.map_append]; exact upd_same), by walk_at "g_lk", by walk_at "g_lk", g2, Same.mut g6 nb0, by simp; omega, qn⟩

def rowT (T : Nat) (g : Nat → Nat) : List Int := (List.range (T + 1)).map fun c => (g c : Int)
theorem rowT_len (T : Nat) (g : Nat → Nat) : (rowT T g).length = T + 1 := by simp [rowT]
theorem rowT_at {T c : Nat} {g : Nat → Nat} (h : c ≤ T) : (rowT T g)[c]? = some (g c : Int) := by
  unfold rowT
  rw [List.getElem?_map, List.getElem?_range (by omega)]
  rfl
theorem rowT_set {T c : Nat} {g g' : Nat → Nat} (e : ∀ k, k ≤ T → k ≠ c → g' k = g k) (hc : c ≤ T) : (rowT T g).set c (g' c : Int) = rowT T g' := by
  refine List.ext_getElem? fun k => ?_
  by_cases hk : k ≤ T
  · rw [rowT_at hk]
    by_cases h : c = k
    · subst h
      rw [List.getElem?_set_self (by rw [rowT_len]; omega)]
    · rw [List.getElem?_set_ne h, rowT_at hk, e k hk (Ne.symm h)]
  · rw [List.getElem?_eq_none (by rw [List.length_set, rowT_len]; omega), List.getElem?_eq_none (by rw [rowT_len]; omega)]
theorem rowT_congr {T : Nat} {g g' : Nat → Nat} (e : ∀ k, k ≤ T → g k = g' k) : rowT T g = rowT T g' := by
  unfold rowT
  refine List.map_congr_left fun k hk => ?_
  rw [e k (by have := List.mem_range.mp hk; omega)]
theorem zeros_row (T : Nat) : List.replicate (T + 1) (0 : Int) = rowT T (fun _ => 0) := by
  refine List.ext_getElem? fun k => ?_
  by_cases hk : k ≤ T
  · rw [rowT_at hk, List.getElem?_replicate_of_lt (by omega)]
    rfl
  · rw [List.getElem?_eq_none (by simp; omega), List.getElem?_eq_none (by rw [rowT_len]; omega)]
def sp_l_fallings (K : PySem.W.Frag) : Sp := fun vs H Q E => ∃ (s t m : Int), vs = [.int s, .int t, .int m] ∧ ((0 ≤ s ∧ s ≤ 8) ∧ (0 ≤ t ∧ t ≤ 40) ∧ 0 ≤ m ∧ m ≤ 40) ∧ ∀ (H' : Hp), (Same H H') → Q (.int (fallN s.toNat t.toNat m.toNat : Nat)) H'
theorem use_l_fallings {K : PySem.W.Frag} {H : Hp} {Q : VK} {E : XK} {s t m : Int} (p0 : (0 ≤ s ∧ s ≤ 8) ∧ (0 ≤ t ∧ t ≤ 40) ∧ 0 ≤ m ∧ m ≤ 40) (k : ∀ (H' : Hp), (Same H H') → Q (.int (fallN s.toNat t.toNat m.toNat : Nat)) H') : sp_l_fallings K [.int s, .int t, .int m] H Q E := ⟨s, t, m, rfl, p0, k⟩
theorem len_l_fallings {K : PySem.W.Frag} (vs : List V) (H : Hp) (Q : VK) (E : XK) (h : sp_l_fallings K vs H Q E) : vs.length = ["_law_size", "_law_total", "_law_most"].length := by
  obtain ⟨_, _, _, rfl, _⟩ := h
  rfl
local macro_rules | `(tactic| walk_at "g_call") => `(tactic| ((with_reducible refine' use_l_fallings ?c0 ?_); (case c0 => walk_at "g_pre"); intros))
theorem ok_l_fallings (T : Txt K mg) : FnOk P w K mg base CX0 1 T.a_l_fallings T.d_l_fallings ["_law_size", "_law_total", "_law_most"] (sp_l_fallings K) := by
  refine T.F_l_fallings.ok sc_l_fallings len_l_fallings (fun cdv A outer s H vs Q E hr h => ?_)
  refine ⟨_, (pss_cons (ps_setLc (i := 4) (own := [("_law_many", 3)]) rfl sc_l_fallings.nd rfl rfl (sw_true rfl rfl rfl (by decide +kernel)) (pi_range1 rfl T.z_range (pa_cons (pe_op op_add (pv 0) pe_int) pa_nil)) (blkOk_by (own := [("_law_many", 3)]) (N := ["_law_size", "_law_total", "_law_most", "_law_many", "_law_found", "_law_part", "_law_come", "_law_one", "_law_row"]) (sc := defScope s_l_fallings) (by decide +kernel)) (fun _ _ _ _ _ => (pg_name (i := 3) sc_l_fallings.nd rfl (Or.inl rfl))) (fun _ _ _ _ _ => pts_nil) (fun _ _ _ _ _ => (pe_op op_rep (pe_lst (pa_cons pe_int pa_nil)) (pe_op op_add (pv 1) pe_int))))
      (pss_cons (ps_asg pe_int (pg_sub (pe_ix (ix_listK K rfl) (pv 4) pe_int (fun _ _ => rfl)) pe_int set_list))
      (pss_cons (ps_for PassesOwn.never rfl (pi_range2 (by rfl) T.z_range (pa_cons pe_int (pa_cons (pe_op op_add (pv 2) pe_int) pa_nil))) (pg_name (i := 5) sc_l_fallings.nd rfl (Or.inl rfl)) (pss_one (ps_for PassesOwn.never rfl (pi_range2 (by rfl) T.z_range (pa_cons pe_int (pa_cons (pe_op op_add (pv 0) pe_int) pa_nil))) (pg_name (i := 3) sc_l_fallings.nd rfl (Or.inl rfl)) (pss_one (ps_for PassesOwn.never rfl (pi_range2 (by rfl) T.z_range (pa_cons (pv 5) (pa_cons (pe_op op_add (pv 1) pe_int) pa_nil))) (pg_name (i := 6) sc_l_fallings.nd rfl (Or.inl rfl)) (pss_cons (ps_set (i := 7) sc_l_fallings.nd rfl (Or.inl rfl) (pe_ix (ix_listK K rfl) (pe_ix (ix_listK K rfl) (pv 4) (pe_op op_sub (pv 3) pe_int) (fun _ _ => rfl)) (pe_op op_sub (pv 6) (pv 5)) (fun _ _ => rfl)))
      (pss_one (ps_asg (pe_op op_add (pe_ix (ix_listK K rfl) (pe_ix (ix_listK K rfl) (pv 4) (pv 3) (fun _ _ => rfl)) (pv 6) (fun _ _ => rfl)) (pv 7)) (pg_sub (pe_ix (ix_listK K rfl) (pv 4) (pv 3) (fun _ _ => rfl)) (pv 6) set_list)))))))))
      (pss_one (ps_ret (pe_callB (cr_sumK K rfl rfl) (by rfl) T.z_sum (by decide +kernel) (pa_cons (pe_lc (own := [("_law_row", 8)]) rfl sc_l_fallings.nd (pi_listK K rfl (pv 4)) (blkOk_by (own := [("_law_row", 8)]) (N := ["_law_size", "_law_total", "_law_most", "_law_many", "_law_found", "_law_part", "_law_come", "_law_one", "_law_row"]) (sc := defScope s_l_fallings) (by decide +kernel)) (fun _ _ _ _ _ => (pg_name (i := 8) sc_l_fallings.nd rfl (Or.inl rfl))) (fun _ _ _ _ _ => pts_nil) (fun _ _ _ _ _ => (pe_ix (ix_listK K rfl) (pv 8) (pv 1) (fun _ _ => rfl)))) pa_nil))))))), ?_⟩
  try dsimp only [L2.cxOf, L2.Cx.nox, L2.Cx.wish, List.map_cons, List.map_nil]
  obtain ⟨s, t, m, rfl, ⟨p0, p1, p2⟩, k⟩ := h
  obtain ⟨S, rfl⟩ := Int.eq_ofNat_of_zero_le p0.1
  obtain ⟨N, rfl⟩ := Int.eq_ofNat_of_zero_le p1.1
  obtain ⟨M, rfl⟩ := Int.eq_ofNat_of_zero_le p2.1
  rw [Int.toNat_natCast, Int.toNat_natCast, Int.toNat_natCast] at k
  refine start_to (σ := [some _, some _, some _, none, none, none, none, none, none]) rfl ?_
  walk_at "go"
  intro D nD
  refine lcR (fun i acc H1 => acc.length = i ∧ Same H H1 ∧ RowsX H1 acc (fun _ => rowT N (fun _ => 0)) ∧ ∀ r, V.ref r ∈ acc → r ≠ D ∧ H r = none) nD ⟨rfl, Same.new nD, RowsX.nil, fun r h => absurd h List.not_mem_nil⟩ ?_ ?_
  · rintro i acc H1 Z Y hi ⟨rfl, h1, h2, h3⟩ hD hz _
    walk_at "go"
    rename_i q nq l nl
    rw [show ((N : Int) + 1).toNat = N + 1 by omega, zeros_row]
    have nl0 : H1 l = none := by walk_at "g_free"
    have nlD : l ≠ D := by walk_at "g_ne"
    refine hz _ _ (by walk_at "g_lk") (sz4' (by omega)) ⟨by simp, by walk_at "g_same", ?_, ?_⟩
    · refine RowsX.upd (RowsX.add (H := H1) h2 nl0 ?_ L2.upd_same) ?_
      · walk_at "g_same"
      · intro r hr
        rcases List.mem_append.mp hr with g | g
        · exact (h3 r g).1
        · cases List.mem_singleton.mp g
          exact nlD
    · intro r hr
      rcases List.mem_append.mp hr with g | g
      · exact h3 r g
      · cases List.mem_singleton.mp g
        exact ⟨nlD, h1.free nl0⟩
  · rintro xs H1 ⟨hl, h1, h2, h3⟩ hD
    have hl' : xs.length = S + 1 := by omega
    obtain ⟨r0, hr0, hq0⟩ := h2.2 0 xs[0] (List.getElem?_eq_getElem (by omega))
    have hx0 : xs[0]? = some (.ref r0) := by rw [List.getElem?_eq_getElem (by omega), hr0]
    have ha0 : atI xs 0 = some (.ref r0) := atI_nat (j := 0) hx0
    have hm0 : V.ref r0 ∈ xs := List.mem_of_getElem? hx0
    have hrl := rowT_len N (fun _ => 0)
    have hr0D : r0 ≠ D := (h3 r0 hm0).1
    walk_at "goF"
    have q0 : RowsX (upd H1 r0 (.lst (((rowT N fun _ => 0).set (Int.toNat 0) 1).map V.int))) xs (fun m => rowT N (exN 0 m)) := by
      refine RowsX.congr (RowsX.put h2 hx0) fun j _ => ?_
      by_cases c : j = 0
      · subst c
        rw [if_pos rfl]
        exact rowT_set (c := 0) (g' := exN 0 0) (fun k _ hk => by
          show (if 0 = 0 ∧ k = 0 then 1 else 0) = 0
          rw [if_neg (by omega)]) (Nat.zero_le _)
      · rw [if_neg c]
        exact rowT_congr fun k _ => by
          show 0 = if j = 0 ∧ k = 0 then 1 else 0
          rw [if_neg (by omega)]
    have q1 := lk_upd (o := HO.lst (((rowT N fun _ => 0).set (Int.toNat 0) 1).map V.int)) hr0D.symm hD
    have q2 : Off xs H1 (upd H1 r0 (.lst (((rowT N fun _ => 0).set (Int.toNat 0) 1).map V.int))) := Off.put Off.refl hm0
    walk_at "go"
    refine forR (fun i σ H' => ∃ y3 y5 y6 y7, σ = [some (.int (S : Int)), some (.int (N : Int)), some (.int (M : Int)), y3, some (.ref D), y5, y6, y7, none] ∧ RowsX H' xs (fun m => rowT N (exN i m)) ∧ H' D = some (.lst xs) ∧ Off xs H1 H') ⟨_, _, _, _, rfl, q0, q1, q2⟩ ?_ ?_
    · clear q0 q1 q2 hD h2 hq0
      rintro σ H2 ⟨y3, y5, y6, y7, rfl, a1, a2, a3⟩
      rw [show ((M : Int) + 1 - 1).toNat = M by omega] at a1
      have hs : Same H H2 := Same.off h1 (fun r hr => (h3 r hr).2) a3
      walk_at "go"
      intro D2 nD2
      refine lcL_int (fun j => (exN M j N : Int)) (xs := xs) nD2 (by omega) (SqL.of a2) ?_ ?_
      · intro i v H3 Z Y hx hs3 hz
        obtain ⟨r, rfl, hr⟩ := a1.2 i v hx
        have hr' := hs3 _ _ hr
        have hl2 := rowT_len N (exN M i)
        walk_at "go"
        rename_i z hz'
        rw [Int.toNat_natCast, rowT_at (Nat.le_refl N)] at hz'
        cases hz'
        exact hz _ (Same.refl _)
      · intro H3 hs3 hD3
        walk_at "go"
        rw [hl', sumF_list (fun j => exN M j N), falls_eq]
        exact k _ (by walk_at "g_same")
    · clear q0 q1 q2 hD h2 hq0
      rintro i σ H2 hi ⟨y3, y5, y6, y7, rfl, a1, a2, a3⟩
      have hi' : i < M := by omega
      walk_at "go"
      refine forR (fun j σ H' => ∃ y3 y6 y7, σ = [some (.int (S : Int)), some (.int (N : Int)), some (.int (M : Int)), y3, some (.ref D), some (.int (1 + (i : Int))), y6, y7, none] ∧ RowsX H' xs (fun m => rowT N (if m < j + 1 then exN (i + 1) m else exN i m)) ∧ H' D = some (.lst xs) ∧ Off xs H1 H') ⟨_, _, _, rfl, RowsX.congr a1 (fun m _ => ?_), a2, a3⟩ ?_ ?_
      · by_cases c : m < 0 + 1
        · have : m = 0 := by omega
          subst this
          rw [if_pos c]
          exact rowT_congr fun k _ => by rw [ex_zero, ex_zero]
        · rw [if_neg c]
      · clear a1 a2 a3
        rintro σ H3 ⟨y3, y6, y7, rfl, b1, b2, b3⟩
        rw [show ((S : Int) + 1 - 1).toNat = S by omega] at b1
        exact ⟨_, _, _, _, rfl, RowsX.congr b1 fun m hm => by rw [if_pos (by omega)], b2, b3⟩
      · clear a1 a2 a3
        rintro j σ H3 hj ⟨y3, y6, y7, rfl, b1, b2, b3⟩
        have hj' : j < S := by omega
        obtain ⟨r1, hr1, _⟩ := b1.2 j xs[j] (List.getElem?_eq_getElem (by omega))
        obtain ⟨r2, hr2, _⟩ := b1.2 (j + 1) xs[j + 1] (List.getElem?_eq_getElem (by omega))
        have hx1 : xs[j]? = some (.ref r1) := by rw [List.getElem?_eq_getElem (by omega), hr1]
        have hx2 : xs[j + 1]? = some (.ref r2) := by rw [List.getElem?_eq_getElem (by omega), hr2]
        have hat1 : atI xs (1 + (j : Int) - 1) = some (.ref r1) := by
          rw [show (1 + (j : Int) - 1) = (j : Int) by omega]
          exact atI_nat hx1
        have hat2 : atI xs (1 + (j : Int)) = some (.ref r2) := by
          rw [show (1 + (j : Int)) = ((j + 1 : Nat) : Int) by omega]
          exact atI_nat hx2
        have hm2 : V.ref r2 ∈ xs := List.mem_of_getElem? hx2
        have hr2D : r2 ≠ D := (h3 r2 hm2).1
        walk_at "go"
        refine forR (fun l σ H' => ∃ y6 y7, σ = [some (.int (S : Int)), some (.int (N : Int)), some (.int (M : Int)), some (.int (1 + (j : Int))), some (.ref D), some (.int (1 + (i : Int))), y6, y7, none] ∧ RowsX H' xs (fun m => if m = j + 1 then rowT N (fun c => if c < i + 1 + l then exN (i + 1) (j + 1) c else exN i (j + 1) c) else rowT N (if m < j + 1 then exN (i + 1) m else exN i m)) ∧ H' D = some (.lst xs) ∧ Off xs H1 H') ⟨_, _, rfl, RowsX.congr b1 (fun m _ => ?_), b2, b3⟩ ?_ ?_
        · by_cases c : m = j + 1
          · subst c
            rw [if_pos rfl, if_neg (by omega)]
            exact rowT_congr fun k _ => by
              split
              · rw [ex_less (by omega)]
              · rfl
          · rw [if_neg c]
        · clear b1 b2 b3
          rintro σ H4 ⟨y6, y7, rfl, c1, c2, c3⟩
          refine ⟨_, _, _, rfl, RowsX.congr c1 fun m hm => ?_, c2, c3⟩
          by_cases c : m = j + 1
          · subst c
            rw [if_pos rfl, if_pos (by omega)]
            exact rowT_congr fun k hk => by
              by_cases ck : k < i + 1 + ((N : Int) + 1 - (1 + (i : Int))).toNat
              · rw [if_pos ck]
              · rw [if_neg ck, ex_less (by omega)]
          · rw [if_neg c]
            by_cases c5 : m < j + 1
            · rw [if_pos c5, if_pos (by omega)]
            · rw [if_neg c5, if_neg (by omega)]
        · clear b1 b2 b3
          rintro l σ H4 hlt ⟨y6, y7, rfl, c1, c2, c3⟩
          have hlt' : i + 1 + l ≤ N := by omega
          obtain ⟨r1', e1, g1⟩ := c1.2 j _ hx1
          obtain ⟨r2', e2, g2⟩ := c1.2 (j + 1) _ hx2
          cases e1
          cases e2
          dsimp only at g1 g2
          rw [if_neg (by omega), if_pos (by omega)] at g1
          rw [if_pos rfl] at g2
          have hl1 := rowT_len N (exN (i + 1) j)
          have hl2 := rowT_len N (fun c => if c < i + 1 + l then exN (i + 1) (j + 1) c else exN i (j + 1) c)
          walk_at "go"
          rename_i z1 hz1 z2 hz2
          rw [show (1 + (i : Int) + (l : Int) - (1 + (i : Int))).toNat = l by omega, rowT_at (by omega)] at hz1
          rw [show (1 + (i : Int) + (l : Int)).toNat = i + 1 + l by omega, rowT_at (by omega)] at hz2
          cases hz1
          cases hz2
          rw [show (1 + (i : Int) + (l : Int)).toNat = i + 1 + l by omega]
          refine ⟨_, _, rfl, ?_, lk_upd hr2D.symm c2, Off.put c3 hm2⟩
          refine RowsX.congr (RowsX.put c1 hx2) fun m _ => ?_
          by_cases c : m = j + 1
          · subst c
            rw [if_pos rfl, if_pos rfl]
            have ev : (((if i + 1 + l < i + 1 + l then exN (i + 1) (j + 1) (i + 1 + l) else exN i (j + 1) (i + 1 + l)) : Nat) : Int) + (exN (i + 1) j l : Int) = ((if i + 1 + l < i + 1 + (l + 1) then exN (i + 1) (j + 1) (i + 1 + l) else exN i (j + 1) (i + 1 + l) : Nat) : Int) := by
              rw [if_neg (by omega), if_pos (by omega), ex_succ, if_pos (by omega), show i + 1 + l - (i + 1) = l by omega]
              omega
            rw [ev]
            exact rowT_set (g' := fun c => if c < i + 1 + (l + 1) then exN (i + 1) (j + 1) c else exN i (j + 1) c) (fun k _ hk => by
              by_cases c5 : k < i + 1 + l
              · rw [if_pos c5, if_pos (by omega)]
              · rw [if_neg c5, if_neg (by omega)]) hlt'
          · rw [if_neg c, if_neg c, if_neg c]

theorem mem_le_sum {ps : List Int} {x : Int} (h : ∀ y ∈ ps, 0 ≤ y) (hx : x ∈ ps) : x ≤ ps.sum := mem_le_sumC h hx
def sp_l_counts (K : PySem.W.Frag) : Sp := fun vs H Q E => ∃ (p c : Addr) (ms : List Int) (t h f : Int), vs = [.ref p, .int h, .int f] ∧ (H p = some (.lst [.ref c, .int t])) ∧ (H c = some (.lst (ms.map V.int))) ∧ (p ≠ c) ∧ (1 ≤ ms.length ∧ ms.length ≤ 63) ∧ (0 ≤ t ∧ t ≤ 900000) ∧ (0 ≤ h ∧ h ≤ 40 ∧ 1 ≤ f ∧ f ≤ 8) ∧ ∀ (b : Addr) (ps ms' : List Int) (t' : Int) (H' : Hp), (H' p = some (.lst [.ref c, .int t'])) → (H' c = some (.lst (ms'.map V.int))) → (H' b = some (.lst (ps.map V.int))) → (t ≤ t' ∧ t' ≤ t + 24) → (1 ≤ ms'.length ∧ ms'.length ≤ 63) → (But2 p c H H') → (H b = none) → (ps.length = f.toNat ∧ ps.sum = h ∧ (∀ x ∈ ps, 0 ≤ x)) → (Falls ps) → (b ≠ p ∧ b ≠ c) → Q (.ref b) H'
theorem use_l_counts {K : PySem.W.Frag} {H : Hp} {Q : VK} {E : XK} {p c : Addr} {ms : List Int} {t h f : Int} (p0 : H p = some (.lst [.ref c, .int t])) (p1 : H c = some (.lst (ms.map V.int))) (p2 : p ≠ c) (p3 : 1 ≤ ms.length ∧ ms.length ≤ 63) (p4 : 0 ≤ t ∧ t ≤ 900000) (p5 : 0 ≤ h ∧ h ≤ 40 ∧ 1 ≤ f ∧ f ≤ 8) (k : ∀ (b : Addr) (ps ms' : List Int) (t' : Int) (H' : Hp), (H' p = some (.lst [.ref c, .int t'])) → (H' c = some (.lst (ms'.map V.int))) → (H' b = some (.lst (ps.map V.int))) → (t ≤ t' ∧ t' ≤ t + 24) → (1 ≤ ms'.length ∧ ms'.length ≤ 63) → (But2 p c H H') → (H b = none) → (ps.length = f.toNat ∧ ps.sum = h ∧ (∀ x ∈ ps, 0 ≤ x)) → (Falls ps) → (b ≠ p ∧ b ≠ c) → Q (.ref b) H') : sp_l_counts K [.ref p, .int h, .int f] H Q E := ⟨p, c, ms, t, h, f, rfl, p0, p1, p2, p3, p4, p5, k⟩
theorem len_l_counts {K : PySem.W.Frag} (vs : List V) (H : Hp) (Q : VK) (E : XK) (h : sp_l_counts K vs H Q E) : vs.length = ["_law_purse_here", "_law_hosts", "_law_fields"].length := by
  obtain ⟨_, _, _, _, _, _, rfl, _⟩ := h
  rfl
local macro_rules | `(tactic| walk_at "g_call") => `(tactic| ((with_reducible refine' use_l_counts ?c0 ?c1 ?c2 ?c3 ?c4 ?c5 ?_); (case c0 => walk_at "g_pre"); (case c1 => walk_at "g_pre"); (case c2 => walk_at "g_pre"); (case c3 => walk_at "g_pre"); (case c4 => walk_at "g_pre"); (case c5 => walk_at "g_pre"); intros))
theorem ok_l_counts (T : Txt K mg) : FnOk P w K mg base CX0 2 T.a_l_counts T.d_l_counts ["_law_purse_here", "_law_hosts", "_law_fields"] (sp_l_counts K) := by
  have G_l_draw := ok_l_draw (P := P) (w := w) (base := base) T
  refine T.F_l_counts.ok sc_l_counts len_l_counts (fun cdv A outer s H vs Q E hr h => ?_)
  refine ⟨_, (pss_cons (ps_set (i := 3) sc_l_counts.nd rfl (Or.inl rfl) (pe_lst pa_nil))
      (pss_cons (ps_set (i := 4) sc_l_counts.nd rfl (Or.inl rfl) (pv 1))
      (pss_cons (ps_set (i := 5) sc_l_counts.nd rfl (Or.inl rfl) (pv 1))
      (pss_cons (ps_for PassesOwn.never rfl (pi_range1 rfl T.z_range (pa_cons (pv 2) pa_nil)) (pg_name (i := 6) sc_l_counts.nd rfl (Or.inl rfl)) (pss_cons (ps_set (i := 7) sc_l_counts.nd rfl (Or.inl rfl) (pe_op op_fdivA (pe_op op_sub (pe_op op_sub (pe_op op_add (pv 4) (pv 2)) (pv 6)) pe_int) (pe_op op_sub (pv 2) (pv 6))))
      (pss_cons (ps_set (i := 8) sc_l_counts.nd rfl (Or.inl rfl) (pe_callB (call_min2 rfl) (by rfl) T.z_min (by decide +kernel) (pa_cons (pv 4) (pa_cons (pv 5) pa_nil))))
      (pss_cons (ps_set (i := 5) sc_l_counts.nd rfl (Or.inl rfl) (pe_ix (ix_listK K rfl) (pe_lst (pa_cons (pe_op op_add (pv 7) (pe_call G_l_draw (hr.mono (by decide)) (by rfl) T.g_l_draw T.F_l_draw.kp T.b_l_draw .nil pass0 (pa_cons (pv 0) (pa_cons (pe_op op_add (pe_op op_sub (pv 8) (pv 7)) pe_int) pa_nil)))) (pa_cons (pv 7) (pa_cons (pv 8) pa_nil)))) (pe_op op_fdiv (pe_call G_l_draw (hr.mono (by decide)) (by rfl) T.g_l_draw T.F_l_draw.kp T.b_l_draw .nil pass0 (pa_cons (pv 0) (pa_cons pe_int pa_nil))) pe_int) (fun _ _ => rfl)))
      (pss_cons (ps_expr (pe_bm PySem.F.plainAttrs_list PySem.F.slot_list_append PySem.F.type_list_append mt_append (pv 3) (pa_cons (pv 5) pa_nil)))
      (pss_one (ps_set (i := 4) sc_l_counts.nd rfl (Or.inl rfl) (pe_op op_sub (pv 4) (pv 5)))))))))
      (pss_one (ps_ret (pv 3))))))), ?_⟩
  try dsimp only [L2.cxOf, L2.Cx.nox, L2.Cx.wish, List.map_cons, List.map_nil]
  obtain ⟨p, c, ms, t, h, f, rfl, p0, p1, p2, p3, p4, p5, k⟩ := h
  refine start_to (σ := [some _, some _, some _, none, none, none, none, none, none]) rfl ?_
  walk_at "go"
  rename_i b nb
  have bp : b ≠ p := by walk_at "g_ne"
  have bc : b ≠ c := by walk_at "g_ne"
  refine forR (fun i σ H1 => ∃ (ps ms' : List Int) (t' left mo : Int) (y1 y2 y3 : Option V), σ = [some (.ref p), some (.int h), some (.int f), some (.ref b), some (.int left), some (.int mo), y1, y2, y3] ∧ H1 p = some (.lst [.ref c, .int t']) ∧ H1 c = some (.lst (ms'.map V.int)) ∧ H1 b = some (.lst (ps.map V.int)) ∧ (t ≤ t' ∧ t' ≤ t + 2 * i) ∧ (1 ≤ ms'.length ∧ ms'.length ≤ 63) ∧ But2 p c H H1 ∧ (0 ≤ left ∧ left ≤ h ∧ left ≤ mo * (f - i) ∧ 0 ≤ mo ∧ mo ≤ h) ∧ ps.length = i ∧ (∀ x ∈ ps, 0 ≤ x ∧ mo ≤ x) ∧ ps.sum + left = h ∧ ps.Pairwise fun a b => b ≤ a) ⟨[], ms, t, h, h, _, _, _, rfl, by walk_at "g_lk", by walk_at "g_lk", upd_same, by omega, p3, by walk_at "g_but2", ⟨p5.1, by omega, by rw [show f - ((0 : Nat) : Int) = f by omega]; exact le_mul (by omega) p5.1, p5.1, by omega⟩, rfl, nofun, by simp, List.Pairwise.nil⟩ ?_ ?_
  · rintro σ1 H1 ⟨ps, ms', t', left, mo, y1, y2, y3, rfl, h1, h2, h3, h4, h5, h6, ⟨h7, h8, h9, h10, h11⟩, h12, h13, h14, h15⟩
    walk_at "go"
    have hz : f - (f.toNat : Int) = 0 := by omega
    rw [hz, Int.mul_zero] at h9
    exact k _ _ _ _ _ h1 h2 h3 (by omega) h5 h6 nb ⟨h12, by omega, fun x hx => (h13 x hx).1⟩ (falls_of h15) ⟨bp, bc⟩
  · rintro i σ1 H1 hi ⟨ps, ms', t', left, mo, y1, y2, y3, rfl, h1, h2, h3, h4, h5, h6, ⟨h7, h8, h9, h10, h11⟩, h12, h13, h14, h15⟩
    have hr : 0 < f - (i : Int) := by omega
    have er : f - (0 + (i : Int)) = f - (i : Int) := by omega
    have el : left + f - (0 + (i : Int)) - 1 = left + (f - (i : Int)) - 1 := by omega
    have c1 := ceil_le hr h9
    have c2 := ceil_le hr (le_mul hr h7)
    have c3 := ceil_nn hr h7
    have cd : CDivA (left + f - (0 + (i : Int)) - 1) (f - (0 + (i : Int))) := divS (by omega) (by omega)
    walk_at "go"
    rw [el, er]
    have c4 : ∀ cc, (left + (f - (i : Int)) - 1).fdiv (f - (i : Int)) ≤ cc → left - cc ≤ cc * (f - (i : Int) - 1) := fun cc => share_next hr
    have c5 : ∃ high, (if mo < left then mo else left) = high ∧ (left + (f - (i : Int)) - 1).fdiv (f - (i : Int)) ≤ high ∧ high ≤ left ∧ high ≤ mo := ⟨_, rfl, by split <;> omega, by split <;> omega, by split <;> omega⟩
    obtain ⟨high, c6, c7, c8, c9⟩ := c5
    rw [c6]
    clear c6 cd el er
    generalize (left + (f - (i : Int)) - 1).fdiv (f - (i : Int)) = low at c1 c2 c3 c4 c7 ⊢
    walk_at "go"
    rename_i d1 m1 H2 a1 a2 a3 a4 a5 r1 a6 d2 m2 H3 a7 a8 a9 a10 a11 v a12
    have hv : low ≤ v ∧ v ≤ high := by omega
    have hb3 : H3 b = some (.lst (ps.map V.int)) := by walk_at "g_lk"
    have s1 : But2 p c H H3 := by walk_at "g_but2"
    clear a1 a2 a5 a6 a11 h1 h2 h3 h6
    walk_at "go"
    have q := c4 v hv.1
    rw [show f - (i : Int) - 1 = f - ((i + 1 : Nat) : Int) by omega] at q
    refine ⟨ps ++ [v], m2, _, left - v, v, _, _, _, rfl, by walk_at "g_lk", by walk_at "g_lk", by first | exact upd_same | (rw [List.map_append]; exact upd_same), by omega, a10, by walk_at "g_but2", ⟨by omega, by omega, q, by omega, by omega⟩, by simp; omega, ?_, by rw [List.sum_append, List.sum_cons, List.sum_nil]; omega, ?_⟩
    · intro x hx
      rcases List.mem_append.mp hx with g | g
      · have := h13 x g
        omega
      · rw [List.mem_singleton.mp g]
        omega
    · refine List.pairwise_append.mpr ⟨h15, List.pairwise_singleton _ _, fun x hx y hy => ?_⟩
      rw [List.mem_singleton.mp hy]
      have := h13 x hx
      omega

def sp_l_whole (K : PySem.W.Frag) : Sp := fun vs H Q E => ∃ (x : Int), vs = [.int x] ∧ Q (.bl true) H
theorem use_l_whole {K : PySem.W.Frag} {H : Hp} {Q : VK} {E : XK} {x : Int}  (k : Q (.bl true) H) : sp_l_whole K [.int x] H Q E := ⟨x, rfl, k⟩
theorem len_l_whole {K : PySem.W.Frag} (vs : List V) (H : Hp) (Q : VK) (E : XK) (h : sp_l_whole K vs H Q E) : vs.length = ["_law_found"].length := by
  obtain ⟨_, rfl, _⟩ := h
  rfl
local macro_rules | `(tactic| walk_at "g_call") => `(tactic| ((with_reducible refine' use_l_whole ?_); intros))
theorem ok_l_whole (T : Txt K mg) : FnOk P w K mg base CX0 1 T.a_l_whole T.d_l_whole ["_law_found"] (sp_l_whole K) := by
  refine T.F_l_whole.ok sc_l_whole len_l_whole (fun cdv A outer s H vs Q E hr h => ?_)
  refine ⟨_, (pss_one (ps_ret (pe_and (pe_callB (call_isXK K rfl) (by rfl) T.z_isinstance (by decide +kernel) (pa_cons (pv 0) (pa_cons (pe_bltn (v := .ty "int") rfl T.z_int (by decide +kernel) rfl) pa_nil))) (pe_one (pe_not (pe_callB (call_isXK K rfl) (by rfl) T.z_isinstance (by decide +kernel) (pa_cons (pv 0) (pa_cons (pe_bltn (v := .ty "bool") rfl T.z_bool (by decide +kernel) rfl) pa_nil)))))))), ?_⟩
  try dsimp only [L2.cxOf, L2.Cx.nox, L2.Cx.wish, List.map_cons, List.map_nil]
  obtain ⟨x, rfl, k⟩ := h
  refine start_to (σ := [some _]) rfl ?_
  walk_at "go"
  exact k

def sp_l_numbers (K : PySem.W.Frag) : Sp := fun vs H Q E => ∃ (a b : Addr) (ms : List Int), vs = [.ref a, .ref b] ∧ (H a = some (.lst (ms.map V.int))) ∧ (SqL K H b (ms.map V.int)) ∧ (ms.length ≤ 100000) ∧ ∀ (H' : Hp), (Same H H') → Q (.bl true) H'
theorem use_l_numbers {K : PySem.W.Frag} {H : Hp} {Q : VK} {E : XK} {a b : Addr} {ms : List Int} (p0 : H a = some (.lst (ms.map V.int))) (p1 : SqL K H b (ms.map V.int)) (p2 : ms.length ≤ 100000) (k : ∀ (H' : Hp), (Same H H') → Q (.bl true) H') : sp_l_numbers K [.ref a, .ref b] H Q E := ⟨a, b, ms, rfl, p0, p1, p2, k⟩
theorem len_l_numbers {K : PySem.W.Frag} (vs : List V) (H : Hp) (Q : VK) (E : XK) (h : sp_l_numbers K vs H Q E) : vs.length = ["_law_found", "_law_due"].length := by
  obtain ⟨_, _, _, rfl, _⟩ := h
  rfl
local macro_rules | `(tactic| walk_at "g_call") => `(tactic| ((with_reducible refine' use_l_numbers ?c0 ?c1 ?c2 ?_); (case c0 => walk_at "g_pre"); (case c1 => walk_at "g_pre"); (case c2 => walk_at "g_pre"); intros))
theorem ok_l_numbers (T : Txt K mg) : FnOk P w K mg base CX0 2 T.a_l_numbers T.d_l_numbers ["_law_found", "_law_due"] (sp_l_numbers K) := by
  have G_l_whole := ok_l_whole (P := P) (w := w) (base := base) T
  refine T.F_l_numbers.ok sc_l_numbers len_l_numbers (fun cdv A outer s H vs Q E hr h => ?_)
  refine ⟨_, (pss_cons (ps_if (PW.pt (pw_or (pt_not (pt_val (pe_callB (call_isXK K rfl) (by rfl) T.z_isinstance (by decide +kernel) (pa_cons (pv 0) (pa_cons (pe_bltn (v := .ty "list") rfl T.z_list (by decide +kernel) rfl) pa_nil))))) (pw_or1 (pt_cmpR (op_neDK K rfl hr.units) (pv 0) (pv 1) (nomark _))))) (pss_one (ps_ret pe_bl)) pss_nil)
      (pss_one (ps_ret (pe_cmpR (op_eqDK K rfl hr.units) (pe_lc (own := [("_law_number_here", 2)]) rfl sc_l_numbers.nd (pi_listK K rfl (pv 0)) (blkOk_by (own := [("_law_number_here", 2)]) (N := ["_law_found", "_law_due", "_law_number_here"]) (sc := defScope s_l_numbers) (by decide +kernel)) (fun _ _ _ _ _ => (pg_name (i := 2) sc_l_numbers.nd rfl (Or.inl rfl))) (fun _ _ _ _ _ => (pts_one (pt_not (pt_val (pe_call G_l_whole (hr.mono (by decide)) (by rfl) T.g_l_whole T.F_l_whole.kp T.b_l_whole .nil pass0 (pa_cons (pv 2) pa_nil)))))) (fun _ _ _ _ _ => (pv 2))) (pe_lst pa_nil) (nomark _))))), ?_⟩
  try dsimp only [L2.cxOf, L2.Cx.nox, L2.Cx.wish, List.map_cons, List.map_nil]
  obtain ⟨a, b, ms, rfl, p0, p1, p2, k⟩ := h
  refine start_to (σ := [some _, some _, none]) rfl ?_
  walk_at "go"
  refine ite_n (by simp) ?_
  walk_at "go"
  intro D nD
  refine lcL_nil nD (by walk_at "g_sq") ?_ ?_
  · intro i x H2 Z Y hx hs hy
    obtain ⟨z, rfl, hz⟩ := ints_at hx
    walk_at "go"
    exact hy _ (by walk_at "g_same")
  · intro H2 hs hD
    walk_at "go"
    exact k _ (by walk_at "g_same")

def sp_l_number (K : PySem.W.Frag) : Sp := fun vs H Q E => ∃ (a : Addr) (cs : List Int), vs = [.ref a] ∧ (SqL K H a (cs.map V.int)) ∧ (CountsOk cs) ∧ ∀ (H' : Hp), (Same H H') → Q (.int (rkC cs)) H'
theorem use_l_number {K : PySem.W.Frag} {H : Hp} {Q : VK} {E : XK} {a : Addr} {cs : List Int} (p0 : SqL K H a (cs.map V.int)) (p1 : CountsOk cs) (k : ∀ (H' : Hp), (Same H H') → Q (.int (rkC cs)) H') : sp_l_number K [.ref a] H Q E := ⟨a, cs, rfl, p0, p1, k⟩
theorem len_l_number {K : PySem.W.Frag} (vs : List V) (H : Hp) (Q : VK) (E : XK) (h : sp_l_number K vs H Q E) : vs.length = ["_law_counts_here"].length := by
  obtain ⟨_, _, rfl, _⟩ := h
  rfl
local macro_rules | `(tactic| walk_at "g_call") => `(tactic| ((with_reducible refine' use_l_number ?c0 ?c1 ?_); (case c0 => walk_at "g_pre"); (case c1 => walk_at "g_pre"); intros))
theorem ok_l_number (T : Txt K mg) : FnOk P w K mg base CX0 2 T.a_l_number T.d_l_number ["_law_counts_here"] (sp_l_number K) := by
  have G_l_fallings := ok_l_fallings (P := P) (w := w) (base := base) T
  refine T.F_l_number.ok sc_l_number len_l_number (fun cdv A outer s H vs Q E hr h => ?_)
  refine ⟨_, (pss_cons (ps_set (i := 1) sc_l_number.nd rfl (Or.inl rfl) pe_int)
      (pss_cons (ps_set (i := 2) sc_l_number.nd rfl (Or.inl rfl) (pe_callB (cr_sumK K rfl rfl) (by rfl) T.z_sum (by decide +kernel) (pa_cons (pv 0) pa_nil)))
      (pss_cons (ps_for PassesOwn.never rfl (pi_range1 rfl T.z_range (pa_cons (pe_callB (call_lenK K rfl) (by rfl) T.z_len (by decide +kernel) (pa_cons (pv 0) pa_nil)) pa_nil)) (pg_name (i := 3) sc_l_number.nd rfl (Or.inl rfl)) (pss_cons (ps_for PassesOwn.never rfl (pi_range1 rfl T.z_range (pa_cons (pe_ix (ix_listK K rfl) (pv 0) (pv 3) (fun _ _ => rfl)) pa_nil)) (pg_name (i := 4) sc_l_number.nd rfl (Or.inl rfl)) (pss_one (ps_set (i := 1) sc_l_number.nd rfl (Or.inl rfl) (pe_op op_add (pv 1) (pe_call G_l_fallings (hr.mono (by decide)) (by rfl) T.g_l_fallings T.F_l_fallings.kp T.b_l_fallings .nil pass0 (pa_cons (pe_op op_sub (pe_op op_sub (pe_callB (call_lenK K rfl) (by rfl) T.z_len (by decide +kernel) (pa_cons (pv 0) pa_nil)) pe_int) (pv 3)) (pa_cons (pe_op op_sub (pv 2) (pv 4)) (pa_cons (pv 4) pa_nil))))))))
      (pss_one (ps_set (i := 2) sc_l_number.nd rfl (Or.inl rfl) (pe_op op_sub (pv 2) (pe_ix (ix_listK K rfl) (pv 0) (pv 3) (fun _ _ => rfl)))))))
      (pss_one (ps_ret (pv 1)))))), ?_⟩
  try dsimp only [L2.cxOf, L2.Cx.nox, L2.Cx.wish, List.map_cons, List.map_nil]
  obtain ⟨a, cs, rfl, p0, good, k⟩ := h
  obtain ⟨p1, p2, p3⟩ := good.1
  refine start_to (σ := [some _, none, none, none, none]) rfl ?_
  walk_at "go"
  refine forR (fun i σ H3 => ∃ (y1 y2 : Option V), σ = [some (.ref a), some (.int (rkC cs - rkC (cs.drop i))), some (.int (cs.drop i).sum), y1, y2] ∧ Same H H3) ⟨_, _, by rw [List.drop_zero, Int.sub_self], Same.refl _⟩ ?_ ?_
  · rintro σ1 H3 ⟨y1, y2, rfl, e4⟩
    walk_at "go"
    rw [Int.toNat_natCast, List.drop_length]
    show Q (.int (rkC cs - 0)) H3
    rw [Int.sub_zero]
    exact k _ e4
  · rintro i σ1 H3 hi ⟨y1, y2, rfl, e4⟩
    have hi' : i < cs.length := by omega
    have hx : cs[i]? = some cs[i] := List.getElem?_eq_getElem hi'
    obtain ⟨g1, g2⟩ := rkC_drop hx
    have g3 := p2 _ (List.mem_of_getElem? hx)
    have g4 := drop_le p2 i
    have g5 := sum_nn (drop_nn p2 (i + 1))
    generalize cs[i] = x at hx g1 g2 g3
    have p0' := e4.seq p0
    walk_at "go"
    rename_i z hz
    rw [show (0 + (i : Int)).toNat = i by omega, hx] at hz
    cases hz
    refine ⟨by omega, by omega, ?_⟩
    refine forR (fun j σ H4 => ∃ (y2 : Option V), σ = [some (.ref a), some (.int (rkC cs - rkC (cs.drop i) + preC (cs.length - 1 - i) (cs.drop i).sum j)), some (.int (cs.drop i).sum), some (.int (0 + (i : Int))), y2] ∧ Same H H4) ⟨_, by rw [show preC (cs.length - 1 - i) (cs.drop i).sum 0 = 0 from rfl, Int.add_zero], e4⟩ ?_ ?_
    · clear e4 p0'
      rintro σ1 H4 ⟨y2, rfl, e4⟩
      have p0' := e4.seq p0
      walk_at "go"
      rename_i z hz
      rw [show (0 + (i : Int)).toNat = i by omega, hx] at hz
      cases hz
      rw [show (cs.drop i).sum - x = (cs.drop (i + 1)).sum by omega, show rkC cs - rkC (cs.drop i) + preC (cs.length - 1 - i) (cs.drop i).sum x.toNat = rkC cs - rkC (cs.drop (i + 1)) by omega]
      exact ⟨_, _, rfl, e4⟩
    · clear e4 p0'
      rintro j σ1 H4 hj ⟨y2, rfl, e4⟩
      have p0' := e4.seq p0
      walk_at "go"
      rw [show ((cs.length : Int) - 1 - (0 + (i : Int))).toNat = cs.length - 1 - i by omega, show (0 + (j : Int)) = (j : Int) by omega, Int.toNat_natCast, Int.add_assoc]
      exact ⟨_, rfl, by walk_at "g_same"⟩
def sp_l_has (K : PySem.W.Frag) : Sp := fun vs H Q E => ∃ (a : Addr) (cs : List Int) (h f n : Int), vs = [.ref a, .int h, .int f, .int n] ∧ (H a = some (.lst (cs.map V.int))) ∧ (CountsOk cs) ∧ ((cs.length : Int) = f ∧ cs.sum = h ∧ rkC cs = n) ∧ ∀ (H' : Hp), (Same H H') → Q (.bl true) H'
theorem use_l_has {K : PySem.W.Frag} {H : Hp} {Q : VK} {E : XK} {a : Addr} {cs : List Int} {h f n : Int} (p0 : H a = some (.lst (cs.map V.int))) (p1 : CountsOk cs) (p2 : (cs.length : Int) = f ∧ cs.sum = h ∧ rkC cs = n) (k : ∀ (H' : Hp), (Same H H') → Q (.bl true) H') : sp_l_has K [.ref a, .int h, .int f, .int n] H Q E := ⟨a, cs, h, f, n, rfl, p0, p1, p2, k⟩
theorem len_l_has {K : PySem.W.Frag} (vs : List V) (H : Hp) (Q : VK) (E : XK) (h : sp_l_has K vs H Q E) : vs.length = ["_law_found", "_law_hosts", "_law_fields", "_law_number_here"].length := by
  obtain ⟨_, _, _, _, _, rfl, _⟩ := h
  rfl
local macro_rules | `(tactic| walk_at "g_call") => `(tactic| ((with_reducible refine' use_l_has ?c0 ?c1 ?c2 ?_); (case c0 => walk_at "g_pre"); (case c1 => walk_at "g_pre"); (case c2 => walk_at "g_pre"); intros))
theorem ok_l_has (T : Txt K mg) : FnOk P w K mg base CX0 3 T.a_l_has T.d_l_has ["_law_found", "_law_hosts", "_law_fields", "_law_number_here"] (sp_l_has K) := by
  have G_l_number := ok_l_number (P := P) (w := w) (base := base) T
  have G_l_whole := ok_l_whole (P := P) (w := w) (base := base) T
  refine T.F_l_has.ok sc_l_has len_l_has (fun cdv A outer s H vs Q E hr h => ?_)
  refine ⟨_, (pss_cons (ps_if (PW.pt (pw_or (pt_not (pt_val (pe_callB (call_isXK K rfl) (by rfl) T.z_isinstance (by decide +kernel) (pa_cons (pv 0) (pa_cons (pe_bltn (v := .ty "list") rfl T.z_list (by decide +kernel) rfl) pa_nil))))) (pw_or (pt_cmpR op_ne (pe_callB (call_lenK K rfl) (by rfl) T.z_len (by decide +kernel) (pa_cons (pv 0) pa_nil)) (pv 2) (nomark _)) (pw_or1 (pt_not (pt_val (pe_callB (cr_allK K rfl rfl) (by rfl) T.z_all (by decide +kernel) (pa_cons (pe_lc (own := [("_law_one", 4)]) rfl sc_l_has.nd (pi_listK K rfl (pv 0)) (blkOk_by (own := [("_law_one", 4)]) (N := ["_law_found", "_law_hosts", "_law_fields", "_law_number_here", "_law_one"]) (sc := defScope s_l_has) (by decide +kernel)) (fun _ _ _ _ _ => (pg_name (i := 4) sc_l_has.nd rfl (Or.inl rfl))) (fun _ _ _ _ _ => pts_nil) (fun _ _ _ _ _ => (pe_call G_l_whole (hr.mono (by decide)) (by rfl) T.g_l_whole T.F_l_whole.kp T.b_l_whole .nil pass0 (pa_cons (pv 4) pa_nil)))) pa_nil)))))))) (pss_one (ps_ret pe_bl)) pss_nil)
      (pss_cons (ps_if (PW.pt (pw_or (pt_cmpR (op_neDK K rfl hr.units) (pv 0) (pe_callBK (cr_sortedRevK (b := true) K rfl) (by rfl) T.z_sorted (by decide +kernel) (pa_cons (pv 0) pa_nil) (pk_cons pe_bl pk_nil)) (nomark _)) (pw_or (pt_cmpR op_lt (pe_ix (ix_listK K rfl) (pv 0) (pe_un un_neg pe_int) (fun _ _ => rfl)) pe_int (nomark _)) (pw_or1 (pt_cmpR op_ne (pe_callB (cr_sumK K rfl rfl) (by rfl) T.z_sum (by decide +kernel) (pa_cons (pv 0) pa_nil)) (pv 1) (nomark _)))))) (pss_one (ps_ret pe_bl)) pss_nil)
      (pss_one (ps_ret (pe_cmpR op_eq (pe_call G_l_number (hr.mono (by decide)) (by rfl) T.g_l_number T.F_l_number.kp T.b_l_number .nil pass0 (pa_cons (pv 0) pa_nil)) (pv 3) (nomark _)))))), ?_⟩
  try dsimp only [L2.cxOf, L2.Cx.nox, L2.Cx.wish, List.map_cons, List.map_nil]
  obtain ⟨a, cs, h, f, n, rfl, p0, good, ⟨rfl, rfl, rfl⟩, k⟩ := h
  obtain ⟨p1, p2, p3⟩ := good.1
  have hp := falls_pair good.2
  refine start_to (σ := [some _, some _, some _, some _, none]) rfl ?_
  walk_at "go"
  refine ite_n (by simp) ?_
  walk_at "go"
  intro D nD
  refine lcL_all (xs := cs.map V.int) nD (by simp; omega) (SqL.of p0) ?_ ?_
  · intro i x H2 Z Y hx hs hz
    obtain ⟨z, rfl, _⟩ := ints_at hx
    walk_at "go"
    exact hz _ (by walk_at "g_same")
  · intro H2 hs hD
    have p0' := hs _ _ p0
    walk_at "go"
    refine ite_n (by simp) ?_
    walk_at "go"
    rename_i q nq z hz
    have hz0 := p2 _ (List.mem_of_getElem? hz)
    refine ite_n (decide_eq_false (by omega)) ?_
    walk_at "go"
    refine ite_n (by simp) ?_
    walk_at "go"
    rw [decide_eq_true rfl]
    exact k _ (by walk_at "g_same")
def Held (p c e : Addr) (H : Hp) (xs : List V) : Prop := ∀ v ∈ xs, ∃ (r o k : Addr) (ms : List Int), v = .ref r ∧ H r = some (.tup [.ref o, .ref k]) ∧ H o = some (.lst (ms.map V.int)) ∧ H k = some (.lst (ms.map V.int)) ∧ (r ≠ p ∧ r ≠ c ∧ r ≠ e) ∧ (o ≠ p ∧ o ≠ c ∧ o ≠ e) ∧ (k ≠ p ∧ k ≠ c ∧ k ≠ e)
theorem Held.same {p c e : Addr} {H H' : Hp} {xs : List V} (s : Same H H') (h : Held p c e H xs) : Held p c e H' xs := fun v hv => by
  obtain ⟨r, o, k, ms, h1, h2, h3, h4, h5⟩ := h v hv
  exact ⟨r, o, k, ms, h1, s _ _ h2, s _ _ h3, s _ _ h4, h5⟩
theorem Held.but2 {p c e : Addr} {H H' : Hp} {xs : List V} (s : But2 p c H H') (h : Held p c e H xs) : Held p c e H' xs := fun v hv => by
  obtain ⟨r, o, k, ms, h1, h2, h3, h4, h5, h6, h7⟩ := h v hv
  exact ⟨r, o, k, ms, h1, s _ _ h5.1 h5.2.1 h2, s _ _ h6.1 h6.2.1 h3, s _ _ h7.1 h7.2.1 h4, h5, h6, h7⟩
theorem Held.upd {p c e : Addr} {H : Hp} {u : HO} {xs : List V} (h : Held p c e H xs) : Held p c e (L2.upd H e u) xs := fun v hv => by
  obtain ⟨r, o, k, ms, h1, h2, h3, h4, h5, h6, h7⟩ := h v hv
  exact ⟨r, o, k, ms, h1, lk_upd h5.2.2 h2, lk_upd h6.2.2 h3, lk_upd h7.2.2 h4, h5, h6, h7⟩
theorem Held.add {p c e r o k : Addr} {H : Hp} {xs : List V} {ms : List Int} (h : Held p c e H xs) (h2 : H r = some (.tup [.ref o, .ref k])) (h3 : H o = some (.lst (ms.map V.int))) (h4 : H k = some (.lst (ms.map V.int))) (h5 : r ≠ p ∧ r ≠ c ∧ r ≠ e) (h6 : o ≠ p ∧ o ≠ c ∧ o ≠ e) (h7 : k ≠ p ∧ k ≠ c ∧ k ≠ e) : Held p c e H (xs ++ [.ref r]) := fun v hv => by
  rcases List.mem_append.mp hv with g | g
  · exact h v g
  · exact ⟨r, o, k, ms, List.mem_singleton.mp g, h2, h3, h4, h5, h6, h7⟩
theorem first_ok {h : Int} {f : Nat} (h0 : 0 ≤ h ∧ h ≤ 40) (hf : 1 ≤ f ∧ f ≤ 8) : CountsOk (h :: List.replicate (f - 1) 0) := by
  have h1 : ∀ x ∈ h :: List.replicate (f - 1) (0 : Int), 0 ≤ x := fun x hx => by
    rcases List.mem_cons.mp hx with e | e
    · omega
    · rw [(List.mem_replicate.mp e).2]
      exact Int.le_refl _
  refine ⟨⟨by simp; omega, h1, by simp; omega⟩, falls_of (List.pairwise_cons.mpr ⟨fun x hx => by
    rw [(List.mem_replicate.mp hx).2]
    exact h0.1, List.pairwise_replicate.mpr (.inr (Int.le_refl _))⟩)⟩
def sp_law (K : PySem.W.Frag) : Sp := fun vs H Q E => ∃ (a : Addr) (ns : List Int), vs = [.ref a] ∧ (SqL K H a (ns.map V.int)) ∧ (ns.length ≤ 63) ∧ ∀ (H' : Hp), Q (.bl true) H'
theorem use_law {K : PySem.W.Frag} {H : Hp} {Q : VK} {E : XK} {a : Addr} {ns : List Int} (p0 : SqL K H a (ns.map V.int)) (p1 : ns.length ≤ 63) (k : ∀ (H' : Hp), Q (.bl true) H') : sp_law K [.ref a] H Q E := ⟨a, ns, rfl, p0, p1, k⟩
theorem len_law {K : PySem.W.Frag} (vs : List V) (H : Hp) (Q : VK) (E : XK) (h : sp_law K vs H Q E) : vs.length = ["_law_script"].length := by
  obtain ⟨_, _, rfl, _⟩ := h
  rfl
theorem ok_law (T : Txt K mg) : FnOk P w K mg base CX0 11 T.a_law T.d_law ["_law_script"] (sp_law K) := by
  have G_l_purse := ok_l_purse (P := P) (w := w) (base := base) T
  have G_l_counts := ok_l_counts (P := P) (w := w) (base := base) T
  have G_l_fallings := ok_l_fallings (P := P) (w := w) (base := base) T
  have G_l_number := ok_l_number (P := P) (w := w) (base := base) T
  have G_counts_number := ok_counts_number (P := P) (w := w) (base := base) T
  have G_l_draw := ok_l_draw (P := P) (w := w) (base := base) T
  have G_counts_of := ok_counts_of (P := P) (w := w) (base := base) T
  have G_l_whole := ok_l_whole (P := P) (w := w) (base := base) T
  have G_l_has := ok_l_has (P := P) (w := w) (base := base) T
  have G_l_numbers := ok_l_numbers (P := P) (w := w) (base := base) T
  refine T.F_law.ok sc_law len_law (fun cdv A outer s H vs Q E hr h => ?_)
  refine ⟨_, (pss_cons (ps_set (i := 1) sc_law.nd rfl (Or.inl rfl) (pe_call G_l_purse (hr.mono (by decide)) (by rfl) T.g_l_purse T.F_l_purse.kp T.b_l_purse .nil pass0 (pa_cons (pv 0) pa_nil)))
      (pss_cons (ps_set (i := 2) sc_law.nd rfl (Or.inl rfl) (pe_lst pa_nil))
      (pss_cons (ps_for PassesOwn.never rfl (pi_range1 rfl T.z_range (pa_cons pe_int pa_nil)) (pg_name (i := 3) sc_law.nd rfl (Or.inl rfl)) (pss_cons (ps_set (i := 4) sc_law.nd rfl (Or.inl rfl) (pe_ix (ix_listK K rfl) (pe_lst (pa_cons (pe_call G_l_draw (hr.mono (by decide)) (by rfl) T.g_l_draw T.F_l_draw.kp T.b_l_draw .nil pass0 (pa_cons (pv 1) (pa_cons pe_int pa_nil))) (pa_cons pe_int (pa_cons (pe_call G_l_draw (hr.mono (by decide)) (by rfl) T.g_l_draw T.F_l_draw.kp T.b_l_draw .nil pass0 (pa_cons (pv 1) (pa_cons pe_int pa_nil))) pa_nil)))) (pe_call G_l_draw (hr.mono (by decide)) (by rfl) T.g_l_draw T.F_l_draw.kp T.b_l_draw .nil pass0 (pa_cons (pv 1) (pa_cons pe_int pa_nil))) (fun _ _ => rfl)))
      (pss_cons (ps_set (i := 5) sc_law.nd rfl (Or.inl rfl) (pe_call G_l_counts (hr.mono (by decide)) (by rfl) T.g_l_counts T.F_l_counts.kp T.b_l_counts .nil pass0 (pa_cons (pv 1) (pa_cons (pv 4) (pa_cons (pe_op op_add pe_int (pe_call G_l_draw (hr.mono (by decide)) (by rfl) T.g_l_draw T.F_l_draw.kp T.b_l_draw .nil pass0 (pa_cons (pv 1) (pa_cons pe_int pa_nil)))) pa_nil)))))
      (pss_cons (ps_set (i := 6) sc_law.nd rfl (Or.inl rfl) (pe_callB (call_lenK K rfl) (by rfl) T.z_len (by decide +kernel) (pa_cons (pv 5) pa_nil)))
      (pss_cons (ps_set (i := 7) sc_law.nd rfl (Or.inl rfl) (pe_call G_l_fallings (hr.mono (by decide)) (by rfl) T.g_l_fallings T.F_l_fallings.kp T.b_l_fallings .nil pass0 (pa_cons (pv 6) (pa_cons (pv 4) (pa_cons (pv 4) pa_nil)))))
      (pss_cons (ps_set (i := 8) sc_law.nd rfl (Or.inl rfl) (pe_call G_l_number (hr.mono (by decide)) (by rfl) T.g_l_number T.F_l_number.kp T.b_l_number .nil pass0 (pa_cons (pv 5) pa_nil)))
      (pss_cons (ps_set (i := 9) sc_law.nd rfl (Or.inl rfl) (pe_callTy (call_listK K rfl) (by rfl) T.z_list (by decide +kernel) (pa_cons (pv 5) pa_nil)))
      (pss_cons (ps_set (i := 10) sc_law.nd rfl (Or.inl rfl) (pe_call G_counts_number (hr.mono (by decide)) (by rfl) T.g_counts_number T.F_counts_number.kp T.b_counts_number .nil passL (pa_cons (pv 9) pa_nil)))
      (pss_cons (ps_if (PW.pt (pw_or (pt_not (pt_val (pe_call G_l_whole (hr.mono (by decide)) (by rfl) T.g_l_whole T.F_l_whole.kp T.b_l_whole .nil pass0 (pa_cons (pv 10) pa_nil)))) (pw_or (pt_cmpR op_ne (pv 10) (pv 8) (nomark _)) (pw_or1 (pt_cmpR (op_neDK K rfl hr.units) (pv 9) (pv 5) (nomark _)))))) (pss_one (ps_ret pe_bl)) pss_nil)
      (pss_cons (ps_set (i := 11) sc_law.nd rfl (Or.inl rfl) (pe_op op_cat (pe_lst (pa_cons (pv 4) pa_nil)) (pe_op op_rep (pe_lst (pa_cons pe_int pa_nil)) (pe_op op_sub (pv 6) pe_int))))
      (pss_cons (ps_expr (pe_bm0 PySem.F.plainAttrs_list PySem.F.slot_list_clear PySem.F.type_list_clear mt_clear (pv 9)))
      (pss_cons (ps_expr (pe_bm PySem.F.plainAttrs_list PySem.F.slot_list_extend PySem.F.type_list_extend mt_extend (pv 9) (pa_cons (pv 11) pa_nil)))
      (pss_cons (ps_if (PW.pt (pw_or (pt_cmpR op_ne (pe_call G_counts_number (hr.mono (by decide)) (by rfl) T.g_counts_number T.F_counts_number.kp T.b_counts_number .nil passL (pa_cons (pv 9) pa_nil)) (pe_call G_l_number (hr.mono (by decide)) (by rfl) T.g_l_number T.F_l_number.kp T.b_l_number .nil pass0 (pa_cons (pv 11) pa_nil)) (nomark _)) (pw_or1 (pt_cmpR (op_neDK K rfl hr.units) (pv 9) (pv 11) (nomark _))))) (pss_one (ps_ret pe_bl)) pss_nil)
      (pss_cons (ps_for PassesOwn.never rfl (pi_range1 rfl T.z_range (pa_cons pe_int pa_nil)) (pg_name (i := 12) sc_law.nd rfl (Or.inl rfl)) (pss_cons (ps_set (i := 13) sc_law.nd rfl (Or.inl rfl) (pe_call G_counts_of (hr.mono (by decide)) (by rfl) T.g_counts_of T.F_counts_of.kp T.b_counts_of .nil passL (pa_cons (pv 4) (pa_cons (pv 6) (pa_cons (pv 8) pa_nil)))))
      (pss_cons (ps_if (PW.pt (pw_or (pt_not (pt_val (pe_call G_l_numbers (hr.mono (by decide)) (by rfl) T.g_l_numbers T.F_l_numbers.kp T.b_l_numbers .nil pass0 (pa_cons (pv 13) (pa_cons (pv 5) pa_nil))))) (pw_or1 (pt_cmpR (op_neDK K rfl hr.units) (pe_lc (own := [("_law_one", 15), ("_law_kept", 16)]) rfl sc_law.nd (pi_listK K rfl (pv 2)) (blkOk_by (own := [("_law_one", 15), ("_law_kept", 16)]) (N := ["_law_script", "_law_purse_here", "_law_held", "_law_turn", "_law_hosts", "_law_counts_here", "_law_fields", "_law_many", "_law_due", "_law_handed", "_law_found", "_law_first", "_law_again", "_law_told", "_law_number_here", "_law_one", "_law_kept"]) (sc := defScope s_law) (by decide +kernel)) (fun _ _ _ _ _ => (pg_tupK K rfl 2 rfl (pgs_cons (pg_name (i := 15) sc_law.nd rfl (Or.inl rfl)) (pgs_cons (pg_name (i := 16) sc_law.nd rfl (Or.inl rfl)) pgs_nil)))) (fun _ _ _ _ _ => (pts_one (pt_cmpR (op_neDK K rfl hr.units) (pv 15) (pv 16) (nomark _)))) (fun _ _ _ _ _ => (pv 15))) (pe_lst pa_nil) (nomark _))))) (pss_one (ps_ret pe_bl)) pss_nil)
      (pss_cons (ps_asg (pe_un un_neg pe_int) (pg_sub (pv 13) pe_int set_list))
      (pss_cons (ps_expr (pe_bm PySem.F.plainAttrs_list PySem.F.slot_list_append PySem.F.type_list_append mt_append (pv 13) (pa_cons pe_int pa_nil)))
      (pss_one (ps_expr (pe_bm PySem.F.plainAttrs_list PySem.F.slot_list_append PySem.F.type_list_append mt_append (pv 2) (pa_cons (pe_tup (pa_cons (pv 13) (pa_cons (pe_callTy (call_listK K rfl) (by rfl) T.z_list (by decide +kernel) (pa_cons (pv 13) pa_nil)) pa_nil))) pa_nil)))))))))
      (pss_one (ps_for PassesOwn.never rfl (pi_listK K rfl (pe_lst (pa_cons (pe_callB (call_min2 rfl) (by rfl) T.z_min (by decide +kernel) (pa_cons (pe_op op_add (pv 8) pe_int) (pa_cons (pe_op op_sub (pv 7) pe_int) pa_nil))) (pa_cons (pe_ix (ix_listK K rfl) (pe_lst (pa_cons (pe_call G_l_draw (hr.mono (by decide)) (by rfl) T.g_l_draw T.F_l_draw.kp T.b_l_draw .nil pass0 (pa_cons (pv 1) (pa_cons (pv 7) pa_nil))) (pa_cons pe_int (pa_cons (pe_op op_sub (pv 7) pe_int) pa_nil)))) (pe_call G_l_draw (hr.mono (by decide)) (by rfl) T.g_l_draw T.F_l_draw.kp T.b_l_draw .nil pass0 (pa_cons (pv 1) (pa_cons pe_int pa_nil))) (fun _ _ => rfl)) pa_nil)))) (pg_name (i := 14) sc_law.nd rfl (Or.inl rfl)) (pss_one (ps_if (pt_not (pt_val (pe_call G_l_has (hr.mono (by decide)) (by rfl) T.g_l_has T.F_l_has.kp T.b_l_has .nil pass0 (pa_cons (pe_call G_counts_of (hr.mono (by decide)) (by rfl) T.g_counts_of T.F_counts_of.kp T.b_counts_of .nil passL (pa_cons (pv 4) (pa_cons (pv 6) (pa_cons (pv 14) pa_nil)))) (pa_cons (pv 4) (pa_cons (pv 6) (pa_cons (pv 14) pa_nil))))))) (pss_one (ps_ret pe_bl)) pss_nil))))))))))))))))))
      (pss_one (ps_ret pe_bl))))), ?_⟩
  try dsimp only [L2.cxOf, L2.Cx.nox, L2.Cx.wish, List.map_cons, List.map_nil]
  obtain ⟨a, ns, rfl, p0, p1, k⟩ := h
  refine start_to (σ := [some _, none, none, none, none, none, none, none, none, none, none, none, none, none, none, none, none]) rfl ?_
  walk_at "go"
  rename_i p c ms H0 h1 h2 h3 h4 h5 h6 h7 e he
  have ep : e ≠ p := by walk_at "g_ne"
  have ec : e ≠ c := by walk_at "g_ne"
  have h1' := lk_new (o := .lst []) he h1
  have h2' := lk_new (o := .lst []) he h2
  clear p0 p1
  refine forR (fun i σ H1 => ∃ (ms : List Int) (t : Int) (xs : List V) (y1 y2 y3 y4 y5 y6 y7 y8 y9 y10 y11 y12 : Option V), σ = [some (.ref a), some (.ref p), some (.ref e), y1, y2, y3, y4, y5, y6, y7, y8, y9, y10, y11, y12, none, none] ∧ H1 p = some (.lst [.ref c, .int t]) ∧ H1 c = some (.lst (ms.map V.int)) ∧ H1 e = some (.lst xs) ∧ (0 ≤ t ∧ t ≤ 60 * i) ∧ (1 ≤ ms.length ∧ ms.length ≤ 63) ∧ xs.length = 2 * i ∧ Held p c e H1 xs) ⟨ms, 0, [], _, _, _, _, _, _, _, _, _, _, _, _, rfl, h1', h2', upd_same, by omega, h6, rfl, nofun⟩ ?_ ?_
  · rintro σ1 H1 ⟨ms, t, xs, y1, y2, y3, y4, y5, y6, y7, y8, y9, y10, y11, y12, rfl, h1, h2, h3, h4⟩
    walk_at "go"
    exact k _
  · clear h1 h2 h3 h4 h5 h6 he h1' h2'
    rintro i σ1 H1 hi ⟨ms, t, xs, y1, y2, y3, y4, y5, y6, y7, y8, y9, y10, y11, y12, rfl, h1, h2, h3, h4, h5, h6, h8⟩
    walk_at "go"
    rename_i d1 m1 H2 a1 a2 a3 a4 a5 d2 m2 H3 a6 a7 a8 a9 a10 r1 a11 d3 m3 H4 a12 a13 a14 a15 a16 v a17 d m4 H5 a18 a19 a20 a21 a22 b ps m5 t5 H6 b1 b2 b3 b4 b5 b6 b7 b8 bF b9 H7 b10
    have hv : 0 ≤ v ∧ v ≤ 40 := by omega
    obtain ⟨b9, b11⟩ := b9
    have e6 : H6 e = some (.lst xs) := by walk_at "g_lk"
    have q6 : Held p c e H6 xs := Held.but2 b6 (Held.but2 a22 (Held.but2 a16 (Held.same (Same.new a11) (Held.but2 a10 (Held.but2 a5 h8)))))
    have be : b ≠ e := by walk_at "g_ne"
    have g1 : 1 ≤ ps.length ∧ ps.length ≤ 8 := by
      have := b8.1
      omega
    have g2 : ps.sum ≤ 40 := by
      have := b8.2.1
      omega
    have pk : CountsOk ps := ⟨⟨g1, b8.2.2, g2⟩, bF⟩
    have c1 := b10 _ _ b1
    have c2 := b10 _ _ b2
    have c3 := b10 _ _ b3
    have c4 := b10 _ _ e6
    have q7 := Held.same b10 q6
    clear a1 a2 a3 a4 a5 a6 a7 a8 a9 a10 a11 a12 a13 a14 a15 a16 a17 a18 a19 a21 a22 h1 h2 h3 h8 h5 b6 b7 b1 b2 b3 b10 e6 q6
    have hsz : v = ps.sum := b8.2.1.symm
    have szk : SizeOk v (ps.length : Int) := ⟨hv.1, hv.2, by omega, by omega⟩
    walk_at "go"
    refine ite_n (by simp) ?_
    walk_at "go"
    refine ite_n (by simp) ?_
    walk_at "goI"
    rename_i H8 s8 l nl w1 H9 s9 q1 nq1 q2 nq2 q3 nq3 fr nfr
    have lfr : l ≠ fr := by walk_at "g_ne"
    have nl0 : H7 l = none := s8.free nl
    have fk : CountsOk (v :: List.replicate ((ps.length : Int) - 1).toNat 0) := by
      rw [show ((ps.length : Int) - 1).toNat = ps.length - 1 by omega]
      exact first_ok hv g1
    have fl : (v :: List.replicate ((ps.length : Int) - 1).toNat 0).length ≤ 1000 := by simp; omega
    refine forget2 (H := H7) (l := l) (f := fr) (o := .lst ((v :: List.replicate ((ps.length : Int) - 1).toNat 0).map V.int)) (u := .lst ((v :: List.replicate ((ps.length : Int) - 1).toNat 0).map V.int)) (P := fun H' => tIfS _ _ _ _ _ H') (by walk_at "g_same") L2.upd_same ?_ ?_
    · show _ = some (HO.lst ([V.int v] ++ List.map V.int (List.replicate ((ps.length : Int) - 1).toNat 0)))
      walk_at "g_lk"
    clear s8 nl w1 s9 nq1 nq2 nq3 nfr
    intro H10 s10 z1 z2
    replace c1 := s10 _ _ c1
    replace c2 := s10 _ _ c2
    replace c3 := s10 _ _ c3
    replace c4 := s10 _ _ c4
    replace q7 := Held.same s10 q7
    clear s10
    walk_at "go"
    refine ite_n (by simp) ?_
    walk_at "go"
    refine ite_n (by simp) ?_
    walk_at "go"
    rename_i w2 H11 s11 H12 s12
    have s13 : Same H10 H12 := s11.trans s12
    replace c1 := s13 _ _ c1
    replace c2 := s13 _ _ c2
    replace c3 := s13 _ _ c3
    replace c4 := s13 _ _ c4
    replace q7 := Held.same s13 q7
    clear s11 s12 s13 z1 z2 w2
    have hlt : rkC ps < ((fallN (ps.length : Int).toNat v.toNat v.toNat : Nat) : Int) := by
      have := counts_lt pk
      rw [← hsz] at this
      exact this
    have gd : SizeOk v (ps.length : Int) ∧ 0 ≤ rkC ps ∧ rkC ps < ((fallN (ps.length : Int).toNat v.toNat v.toNat : Nat) : Int) := ⟨szk, rkC_nn ps, hlt⟩
    have W : 0 < ((fallN (ps.length : Int).toNat v.toNat v.toNat : Nat) : Int) ∧ ((fallN (ps.length : Int).toNat v.toNat v.toNat : Nat) : Int) < 2 ^ 200 := fall_bound (by omega) (by omega) (by omega)
    refine forR (fun j σ H9 => ∃ (xs' : List V) (y12' y13' : Option V), σ = [some (.ref a), some (.ref p), some (.ref e), some (.int (0 + (i : Int))), some (.int v), some (.ref b), some (.int (ps.length : Int)), some (.int ((fallN (ps.length : Int).toNat v.toNat v.toNat : Nat) : Int)), some (.int (rkC ps)), some (.ref l), some (.int (rkC ps)), some (.ref fr), y12', y13', y12, none, none] ∧ H9 p = some (.lst [.ref c, .int t5]) ∧ H9 c = some (.lst (m5.map V.int)) ∧ H9 e = some (.lst xs') ∧ H9 b = some (.lst (ps.map V.int)) ∧ xs'.length = 2 * i + j ∧ Held p c e H9 xs') ⟨xs, _, _, rfl, c1, c2, c4, c3, h6, q7⟩ ?_ ?_
    · clear c1 c2 c3 c4 q7
      rintro σ1 H9 ⟨xs', y12, y13, rfl, f1, f2, f3, f4, f5, f6⟩
      walk_at "go"
      rename_i u1 m6 H15 j1 j2 j3 j4 j5 qa nqa u2 m7 H16 j6 j7 j8 j9 j10 w hw L nL
      have hw' : 0 ≤ w ∧ w < ((fallN (ps.length : Int).toNat v.toNat v.toNat : Nat) : Int) := by omega
      have hw1 : 0 ≤ (if ((fallN (ps.length : Int).toNat v.toNat v.toNat : Nat) : Int) - 1 < rkC ps + 1 then ((fallN (ps.length : Int).toNat v.toNat v.toNat : Nat) : Int) - 1 else rkC ps + 1) ∧ (if ((fallN (ps.length : Int).toNat v.toNat v.toNat : Nat) : Int) - 1 < rkC ps + 1 then ((fallN (ps.length : Int).toNat v.toNat v.toNat : Nat) : Int) - 1 else rkC ps + 1) < ((fallN (ps.length : Int).toNat v.toNat v.toNat : Nat) : Int) := by
        have := gd.2.1
        split <;> omega
      generalize (if ((fallN (ps.length : Int).toNat v.toNat v.toNat : Nat) : Int) - 1 < rkC ps + 1 then ((fallN (ps.length : Int).toNat v.toNat v.toNat : Nat) : Int) - 1 else rkC ps + 1) = w1 at hw1 ⊢
      have r1 : H16 e = some (.lst xs') := by walk_at "g_lk"
      have q16 : Held p c e H16 xs' := Held.but2 j10 (Held.same (Same.new nqa) (Held.but2 j5 f6))
      clear j1 j2 j3 j4 j5 nqa j10 hw f1 f2 f3 f4 f6
      refine forL (xs := [.int w1, .int w]) (fun j σ H' => ∃ y14' : Option V, σ = [some (.ref a), some (.ref p), some (.ref e), some (.int (0 + (i : Int))), some (.int v), some (.ref b), some (.int (ps.length : Int)), some (.int ((fallN (ps.length : Int).toNat v.toNat v.toNat : Nat) : Int)), some (.int (rkC ps)), some (.ref l), some (.int (rkC ps)), some (.ref fr), y12, y13, y14', none, none] ∧ H' p = some (.lst [.ref c, .int (t5 + 1 + 1)]) ∧ H' c = some (.lst (m7.map V.int)) ∧ H' e = some (.lst xs') ∧ Held p c e H' xs' ∧ H' L = some (.lst [.int w1, .int w])) ⟨_, rfl, by walk_at "g_lk", by walk_at "g_lk", by walk_at "g_lk", Held.same (Same.new nL) q16, upd_same⟩ ?_ ?_ ?_
      · rintro j σ H' _ ⟨y14', rfl, o1, o2, o3, o4, o5⟩
        exact SqL.of o5
      · rintro σ H' ⟨y14', rfl, o1, o2, o3, o4, o5⟩
        exact ⟨m7, _, xs', _, _, _, _, _, _, _, _, _, _, _, _, rfl, o1, o2, o3, by omega, j9, by rw [f5]; show 2 * i + 2 = 2 * (i + 1); omega, o4⟩
      · clear j6 j7 nL r1 q16
        rintro j x σ H' hx ⟨y14', rfl, o1, o2, o3, o4, o5⟩
        obtain ⟨z, rfl, hz0, hz1⟩ : ∃ z : Int, x = .int z ∧ 0 ≤ z ∧ z < ((fallN (ps.length : Int).toNat v.toNat v.toNat : Nat) : Int) := by
          rcases List.mem_cons.mp (List.mem_of_getElem? hx) with g | g
          · exact ⟨_, g, hw1⟩
          · exact ⟨_, List.mem_singleton.mp g, hw'⟩
        have gz : SizeOk v (ps.length : Int) ∧ 0 ≤ z ∧ z < ((fallN (ps.length : Int).toNat v.toNat v.toNat : Nat) : Int) := ⟨szk, hz0, hz1⟩
        clear hx
        walk_at "go"
        rename_i w4 bo cs2 H17 k1 k2 k3 k4 k5 k6
        have ck : CountsOk cs2 := ⟨⟨by have := k4.1; omega, k4.2.2, by have := k4.2.1; omega⟩, k5⟩
        have ce : (cs2.length : Int) = (ps.length : Int) ∧ cs2.sum = v ∧ rkC cs2 = z := ⟨by have := k4.1; omega, k4.2.1, k6⟩
        clear w4
        walk_at "go"
        rename_i H18 k7
        have s18 : Same H' H18 := k2.trans k7
        exact ⟨_, rfl, s18 _ _ o1, s18 _ _ o2, s18 _ _ o3, Held.same s18 o4, s18 _ _ o5⟩
    · clear c1 c2 c3 c4 q7
      rintro j σ1 H9 hj ⟨xs', y12, y13, rfl, f1, f2, f3, f4, f5, f6⟩
      walk_at "go"
      rename_i w3 o cs H13 a1 a2 a3 a4 a5 a6
      have e7 : cs = ps := rkC_inj (falls_pair a5) (falls_pair bF) a4.2.2 b8.2.2 (by omega) (by omega) a6
      subst e7
      have e8 : cs.length ≤ 100000 := by omega
      have oe : (o ≠ p ∧ o ≠ c ∧ o ≠ e) := ⟨ne_new' a3 f1, ne_new' a3 f2, ne_new' a3 f3⟩
      have ob : o ≠ b := ne_new' a3 f4
      have f7 : Held p c e H13 xs' := Held.same a2 f6
      clear w3
      walk_at "go"
      rename_i H14 a7
      intro D nD
      have f8 : Held p c e H14 xs' := Held.same a7 f7
      refine lcL_nil (xs := xs') nD (by walk_at "g_sq") ?_ ?_
      · intro i' x H2 Z Y hx hs hy
        obtain ⟨r, o', k', mm, rfl, w1, w2, w3, _⟩ := Held.same hs f8 x (List.mem_of_getElem? hx)
        walk_at "go"
        refine ite_n (by simp) ?_
        exact hy _ (by walk_at "g_same")
      · intro H2 hs hD
        have sm : Same H9 H2 := (a2.trans a7).trans hs
        have g1' := sm _ _ f1
        have g2' := sm _ _ f2
        have g3' := sm _ _ f3
        have g4' := sm _ _ f4
        have g5' : H2 o = some (.lst (cs.map V.int)) := hs _ _ (a7 _ _ a1)
        have g6' : Held p c e H2 xs' := Held.same hs f8
        obtain ⟨oe1, oe2, oe3⟩ := oe
        clear a1 a2 a7 nD hs f1 f2 f3 f4 f7 f8
        walk_at "go"
        rename_i q nq k1 nk r nr
        refine ⟨xs' ++ [.ref r], _, _, rfl, by walk_at "g_lk", by walk_at "g_lk", upd_same, by walk_at "g_lk", by rw [List.length_append, List.length_singleton]; omega, Held.upd ?_⟩
        exact Held.add (o := o) (k := k1) (ms := cs.set (Int.toNat 0) (-1) ++ [50]) (Held.same (by walk_at "g_same") f6) upd_same (by walk_at "g_lk") (by walk_at "g_lk") ⟨by walk_at "g_ne", by walk_at "g_ne", by walk_at "g_ne"⟩ ⟨oe1, oe2, oe3⟩ ⟨by walk_at "g_ne", by walk_at "g_ne", by walk_at "g_ne"⟩

end
theorem mk_txt {K : PySem.W.Frag} {h : Heap} {mg : Str → Option Value} {f_must_be_sizes : Addr} {o_must_be_sizes n_must_be_sizes : Option Addr} {w_must_be_sizes : Array (Option Value)} {q1_must_be_sizes q2_must_be_sizes q3_must_be_sizes q4_must_be_sizes q5_must_be_sizes q6_must_be_sizes : Value} {f_must_be_plan : Addr} {o_must_be_plan n_must_be_plan : Option Addr} {w_must_be_plan : Array (Option Value)} {q1_must_be_plan q2_must_be_plan q3_must_be_plan q4_must_be_plan q5_must_be_plan q6_must_be_plan : Value} {f_must_be_counts : Addr} {o_must_be_counts n_must_be_counts : Option Addr} {w_must_be_counts : Array (Option Value)} {q1_must_be_counts q2_must_be_counts q3_must_be_counts q4_must_be_counts q5_must_be_counts q6_must_be_counts : Value} {f_Fallings_init : Addr} {o_Fallings_init n_Fallings_init : Option Addr} {w_Fallings_init : Array (Option Value)} {q1_Fallings_init q2_Fallings_init q3_Fallings_init q4_Fallings_init q5_Fallings_init q6_Fallings_init : Value} {f_Fallings_many : Addr} {o_Fallings_many n_Fallings_many : Option Addr} {w_Fallings_many : Array (Option Value)} {q1_Fallings_many q2_Fallings_many q3_Fallings_many q4_Fallings_many q5_Fallings_many q6_Fallings_many : Value} {f_counts_number : Addr} {o_counts_number n_counts_number : Option Addr} {w_counts_number : Array (Option Value)} {q1_counts_number q2_counts_number q3_counts_number q4_counts_number q5_counts_number q6_counts_number : Value} {f_counts_of : Addr} {o_counts_of n_counts_of : Option Addr} {w_counts_of : Array (Option Value)} {q1_counts_of q2_counts_of q3_counts_of q4_counts_of q5_counts_of q6_counts_of : Value} {f_l_purse : Addr} {o_l_purse n_l_purse : Option Addr} {w_l_purse : Array (Option Value)} {q1_l_purse q2_l_purse q3_l_purse q4_l_purse q5_l_purse q6_l_purse : Value} {f_l_draw : Addr} {o_l_draw n_l_draw : Option Addr} {w_l_draw : Array (Option Value)} {q1_l_draw q2_l_draw q3_l_draw q4_l_draw q5_l_draw q6_l_draw : Value} {f_l_whole : Addr} {o_l_whole n_l_whole : Option Addr} {w_l_whole : Array (Option Value)} {q1_l_whole q2_l_whole q3_l_whole q4_l_whole q5_l_whole q6_l_whole : Value} {f_l_numbers : Addr} {o_l_numbers n_l_numbers : Option Addr} {w_l_numbers : Array (Option Value)} {q1_l_numbers q2_l_numbers q3_l_numbers q4_l_numbers q5_l_numbers q6_l_numbers : Value} {f_l_fallings : Addr} {o_l_fallings n_l_fallings : Option Addr} {w_l_fallings : Array (Option Value)} {q1_l_fallings q2_l_fallings q3_l_fallings q4_l_fallings q5_l_fallings q6_l_fallings : Value} {f_l_counts : Addr} {o_l_counts n_l_counts : Option Addr} {w_l_counts : Array (Option Value)} {q1_l_counts q2_l_counts q3_l_counts q4_l_counts q5_l_counts q6_l_counts : Value} {f_l_number : Addr} {o_l_number n_l_number : Option Addr} {w_l_number : Array (Option Value)} {q1_l_number q2_l_number q3_l_number q4_l_number q5_l_number q6_l_number : Value} {f_l_has : Addr} {o_l_has n_l_has : Option Addr} {w_l_has : Array (Option Value)} {q1_l_has q2_l_has q3_l_has q4_l_has q5_l_has q6_l_has : Value} {f_law : Addr} {o_law n_law : Option Addr} {w_law : Array (Option Value)} {q1_law q2_law q3_law q4_law q5_law q6_law : Value} {e_Fallings : Addr} {t_MOST_HOSTS : Tok} {t_MOST_FIELDS : Tok} {e_NoPlan : Addr} (X : K.In h) (G : h.Ns mainGlobals mg)
    (h_Fallings : PySem.W.nsIn K mainGlobals "Fallings" = some (some (.ref e_Fallings)))
    (pf_Fallings_init : PySem.W.findIn K (.ref e_Fallings) "__init__" = some (some (.ref f_Fallings_init)))
    (pf_Fallings_many : PySem.W.findIn K (.ref e_Fallings) "many" = some (some (.ref f_Fallings_many)))
    (a_must_be_sizes : PySem.W.nsIn K mainGlobals "must_be_sizes" = some (some (.ref f_must_be_sizes)))
    (l_must_be_sizes : K.lookup f_must_be_sizes = some ⟨q1_must_be_sizes, o_must_be_sizes, .func (PySem.W.fnOf "must_be_sizes" "must_be_sizes" (defArgs s_must_be_sizes) (defBody s_must_be_sizes) (defScope s_must_be_sizes) .none q2_must_be_sizes q3_must_be_sizes q4_must_be_sizes n_must_be_sizes q5_must_be_sizes q6_must_be_sizes), w_must_be_sizes⟩)
    (c_must_be_sizes : PySem.W.codeIn K q5_must_be_sizes "must_be_sizes" = true)
    (k_must_be_sizes : PySem.W.keepIn K (.ref f_must_be_sizes) = true)
    (a_must_be_plan : PySem.W.nsIn K mainGlobals "must_be_plan" = some (some (.ref f_must_be_plan)))
    (l_must_be_plan : K.lookup f_must_be_plan = some ⟨q1_must_be_plan, o_must_be_plan, .func (PySem.W.fnOf "must_be_plan" "must_be_plan" (defArgs s_must_be_plan) (defBody s_must_be_plan) (defScope s_must_be_plan) .none q2_must_be_plan q3_must_be_plan q4_must_be_plan n_must_be_plan q5_must_be_plan q6_must_be_plan), w_must_be_plan⟩)
    (c_must_be_plan : PySem.W.codeIn K q5_must_be_plan "must_be_plan" = true)
    (k_must_be_plan : PySem.W.keepIn K (.ref f_must_be_plan) = true)
    (a_must_be_counts : PySem.W.nsIn K mainGlobals "must_be_counts" = some (some (.ref f_must_be_counts)))
    (l_must_be_counts : K.lookup f_must_be_counts = some ⟨q1_must_be_counts, o_must_be_counts, .func (PySem.W.fnOf "must_be_counts" "must_be_counts" (defArgs s_must_be_counts) (defBody s_must_be_counts) (defScope s_must_be_counts) .none q2_must_be_counts q3_must_be_counts q4_must_be_counts n_must_be_counts q5_must_be_counts q6_must_be_counts), w_must_be_counts⟩)
    (c_must_be_counts : PySem.W.codeIn K q5_must_be_counts "must_be_counts" = true)
    (k_must_be_counts : PySem.W.keepIn K (.ref f_must_be_counts) = true)
    (l_Fallings_init : K.lookup f_Fallings_init = some ⟨q1_Fallings_init, o_Fallings_init, .func (PySem.W.fnOf "__init__" "Fallings.__init__" (defArgs s_Fallings_init) (defBody s_Fallings_init) (defScope s_Fallings_init) .none q2_Fallings_init q3_Fallings_init q4_Fallings_init n_Fallings_init q5_Fallings_init q6_Fallings_init), w_Fallings_init⟩)
    (c_Fallings_init : PySem.W.codeIn K q5_Fallings_init "Fallings.__init__" = true)
    (k_Fallings_init : PySem.W.keepIn K (.ref f_Fallings_init) = true)
    (l_Fallings_many : K.lookup f_Fallings_many = some ⟨q1_Fallings_many, o_Fallings_many, .func (PySem.W.fnOf "many" "Fallings.many" (defArgs s_Fallings_many) (defBody s_Fallings_many) (defScope s_Fallings_many) .none q2_Fallings_many q3_Fallings_many q4_Fallings_many n_Fallings_many q5_Fallings_many q6_Fallings_many), w_Fallings_many⟩)
    (c_Fallings_many : PySem.W.codeIn K q5_Fallings_many "Fallings.many" = true)
    (k_Fallings_many : PySem.W.keepIn K (.ref f_Fallings_many) = true)
    (a_counts_number : PySem.W.nsIn K mainGlobals "counts_number" = some (some (.ref f_counts_number)))
    (l_counts_number : K.lookup f_counts_number = some ⟨q1_counts_number, o_counts_number, .func (PySem.W.fnOf "counts_number" "counts_number" (defArgs s_counts_number) (defBody s_counts_number) (defScope s_counts_number) .none q2_counts_number q3_counts_number q4_counts_number n_counts_number q5_counts_number q6_counts_number), w_counts_number⟩)
    (c_counts_number : PySem.W.codeIn K q5_counts_number "counts_number" = true)
    (k_counts_number : PySem.W.keepIn K (.ref f_counts_number) = true)
    (a_counts_of : PySem.W.nsIn K mainGlobals "counts_of" = some (some (.ref f_counts_of)))
    (l_counts_of : K.lookup f_counts_of = some ⟨q1_counts_of, o_counts_of, .func (PySem.W.fnOf "counts_of" "counts_of" (defArgs s_counts_of) (defBody s_counts_of) (defScope s_counts_of) .none q2_counts_of q3_counts_of q4_counts_of n_counts_of q5_counts_of q6_counts_of), w_counts_of⟩)
    (c_counts_of : PySem.W.codeIn K q5_counts_of "counts_of" = true)
    (k_counts_of : PySem.W.keepIn K (.ref f_counts_of) = true)
    (a_l_purse : PySem.W.nsIn K mainGlobals "_law_purse" = some (some (.ref f_l_purse)))
    (l_l_purse : K.lookup f_l_purse = some ⟨q1_l_purse, o_l_purse, .func (PySem.W.fnOf "_law_purse" "_law_purse" (defArgs s_l_purse) (defBody s_l_purse) (defScope s_l_purse) .none q2_l_purse q3_l_purse q4_l_purse n_l_purse q5_l_purse q6_l_purse), w_l_purse⟩)
    (c_l_purse : PySem.W.codeIn K q5_l_purse "_law_purse" = true)
    (k_l_purse : PySem.W.keepIn K (.ref f_l_purse) = true)
    (a_l_draw : PySem.W.nsIn K mainGlobals "_law_draw" = some (some (.ref f_l_draw)))
    (l_l_draw : K.lookup f_l_draw = some ⟨q1_l_draw, o_l_draw, .func (PySem.W.fnOf "_law_draw" "_law_draw" (defArgs s_l_draw) (defBody s_l_draw) (defScope s_l_draw) .none q2_l_draw q3_l_draw q4_l_draw n_l_draw q5_l_draw q6_l_draw), w_l_draw⟩)
    (c_l_draw : PySem.W.codeIn K q5_l_draw "_law_draw" = true)
    (k_l_draw : PySem.W.keepIn K (.ref f_l_draw) = true)
    (a_l_whole : PySem.W.nsIn K mainGlobals "_law_whole" = some (some (.ref f_l_whole)))
    (l_l_whole : K.lookup f_l_whole = some ⟨q1_l_whole, o_l_whole, .func (PySem.W.fnOf "_law_whole" "_law_whole" (defArgs s_l_whole) (defBody s_l_whole) (defScope s_l_whole) .none q2_l_whole q3_l_whole q4_l_whole n_l_whole q5_l_whole q6_l_whole), w_l_whole⟩)
    (c_l_whole : PySem.W.codeIn K q5_l_whole "_law_whole" = true)
    (k_l_whole : PySem.W.keepIn K (.ref f_l_whole) = true)
    (a_l_numbers : PySem.W.nsIn K mainGlobals "_law_numbers" = some (some (.ref f_l_numbers)))
    (l_l_numbers : K.lookup f_l_numbers = some ⟨q1_l_numbers, o_l_numbers, .func (PySem.W.fnOf "_law_numbers" "_law_numbers" (defArgs s_l_numbers) (defBody s_l_numbers) (defScope s_l_numbers) .none q2_l_numbers q3_l_numbers q4_l_numbers n_l_numbers q5_l_numbers q6_l_numbers), w_l_numbers⟩)
    (c_l_numbers : PySem.W.codeIn K q5_l_numbers "_law_numbers" = true)
    (k_l_numbers : PySem.W.keepIn K (.ref f_l_numbers) = true)
    (a_l_fallings : PySem.W.nsIn K mainGlobals "_law_fallings" = some (some (.ref f_l_fallings)))
    (l_l_fallings : K.lookup f_l_fallings = some ⟨q1_l_fallings, o_l_fallings, .func (PySem.W.fnOf "_law_fallings" "_law_fallings" (defArgs s_l_fallings) (defBody s_l_fallings) (defScope s_l_fallings) .none q2_l_fallings q3_l_fallings q4_l_fallings n_l_fallings q5_l_fallings q6_l_fallings), w_l_fallings⟩)
    (c_l_fallings : PySem.W.codeIn K q5_l_fallings "_law_fallings" = true)
    (k_l_fallings : PySem.W.keepIn K (.ref f_l_fallings) = true)
    (a_l_counts : PySem.W.nsIn K mainGlobals "_law_counts" = some (some (.ref f_l_counts)))
    (l_l_counts : K.lookup f_l_counts = some ⟨q1_l_counts, o_l_counts, .func (PySem.W.fnOf "_law_counts" "_law_counts" (defArgs s_l_counts) (defBody s_l_counts) (defScope s_l_counts) .none q2_l_counts q3_l_counts q4_l_counts n_l_counts q5_l_counts q6_l_counts), w_l_counts⟩)
    (c_l_counts : PySem.W.codeIn K q5_l_counts "_law_counts" = true)
    (k_l_counts : PySem.W.keepIn K (.ref f_l_counts) = true)
    (a_l_number : PySem.W.nsIn K mainGlobals "_law_number" = some (some (.ref f_l_number)))
    (l_l_number : K.lookup f_l_number = some ⟨q1_l_number, o_l_number, .func (PySem.W.fnOf "_law_number" "_law_number" (defArgs s_l_number) (defBody s_l_number) (defScope s_l_number) .none q2_l_number q3_l_number q4_l_number n_l_number q5_l_number q6_l_number), w_l_number⟩)
    (c_l_number : PySem.W.codeIn K q5_l_number "_law_number" = true)
    (k_l_number : PySem.W.keepIn K (.ref f_l_number) = true)
    (a_l_has : PySem.W.nsIn K mainGlobals "_law_has" = some (some (.ref f_l_has)))
    (l_l_has : K.lookup f_l_has = some ⟨q1_l_has, o_l_has, .func (PySem.W.fnOf "_law_has" "_law_has" (defArgs s_l_has) (defBody s_l_has) (defScope s_l_has) .none q2_l_has q3_l_has q4_l_has n_l_has q5_l_has q6_l_has), w_l_has⟩)
    (c_l_has : PySem.W.codeIn K q5_l_has "_law_has" = true)
    (k_l_has : PySem.W.keepIn K (.ref f_l_has) = true)
    (a_law : PySem.W.nsIn K mainGlobals "law" = some (some (.ref f_law)))
    (l_law : K.lookup f_law = some ⟨q1_law, o_law, .func (PySem.W.fnOf "law" "law" (defArgs s_law) (defBody s_law) (defScope s_law) .none q2_law q3_law q4_law n_law q5_law q6_law), w_law⟩)
    (c_law : PySem.W.codeIn K q5_law "law" = true)
    (k_law : PySem.W.keepIn K (.ref f_law) = true)
    (z_all : PySem.W.nsIn K mainGlobals "all" = some none)
    (z_bool : PySem.W.nsIn K mainGlobals "bool" = some none)
    (z_int : PySem.W.nsIn K mainGlobals "int" = some none)
    (z_isinstance : PySem.W.nsIn K mainGlobals "isinstance" = some none)
    (z_len : PySem.W.nsIn K mainGlobals "len" = some none)
    (z_list : PySem.W.nsIn K mainGlobals "list" = some none)
    (z_min : PySem.W.nsIn K mainGlobals "min" = some none)
    (z_range : PySem.W.nsIn K mainGlobals "range" = some none)
    (z_sorted : PySem.W.nsIn K mainGlobals "sorted" = some none)
    (z_sum : PySem.W.nsIn K mainGlobals "sum" = some none)
    (pg_Fallings : PySem.W.plainGet K e_Fallings Str.empty = true)
    (ph_Fallings : PySem.W.hasDictIn K e_Fallings = true)
    (po_Fallings : PySem.W.plainOver K e_Fallings = true)
    (ps_Fallings : PySem.W.findIn K (.ref e_Fallings) "__setattr__" = some (some (.builtin "object.__setattr__")))
    (pm_Fallings : PySem.W.makesIn K e_Fallings = true)
    (pk_Fallings : PySem.W.keepIn K (.ref e_Fallings) = true)
    (pn_Fallings_init : PySem.W.isFn K (.ref f_Fallings_init) = true)
    (pp_Fallings_init : PySem.W.keepIn K (.ref f_Fallings_init) = true)
    (pn_Fallings_many : PySem.W.isFn K (.ref f_Fallings_many) = true)
    (pp_Fallings_many : PySem.W.keepIn K (.ref f_Fallings_many) = true)
    (pa_Fallings_known : PySem.W.findIn K (.ref e_Fallings) "known" = some none)
    (h_MOST_HOSTS : PySem.W.nsIn K mainGlobals "MOST_HOSTS" = some (some (.int 40 t_MOST_HOSTS)))
    (h_MOST_FIELDS : PySem.W.nsIn K mainGlobals "MOST_FIELDS" = some (some (.int 8 t_MOST_FIELDS)))
    (h_NoPlan : PySem.W.nsIn K mainGlobals "NoPlan" = some (some (.ref e_NoPlan)))
    (i_NoPlan : PySem.W.isClsIn K e_NoPlan = true)
    (t_NoPlan : PySem.W.typeIn K (.ref e_NoPlan) = some (.type "type"))
    (y_NoPlan : PySem.W.subIn K (.ref e_NoPlan) (.type "BaseException") = some true)
    (x_NoPlan : PySem.W.excIn K e_NoPlan [.type "ValueError", .type "Exception", .type "BaseException", .type "object"] "ValueError.__new__" = true)
    (k_NoPlan : PySem.W.keepIn K (.ref e_NoPlan) = true)
    (hg_NoPlan : PySem.W.findIn K (.ref e_NoPlan) "__getattribute__" = some (some (.builtin "BaseException.__getattribute__")))
    (hk_NoPlan : PySem.W.findIn K (.ref e_NoPlan) "__getattr__" = some none)
    (hd_NoPlan : PySem.W.hasDictIn K e_NoPlan = true)
    (ha_NoPlan : PySem.W.findIn K (.ref e_NoPlan) "__class__" = some (some (.builtin "object.__class__")))
    (hm_NoPlan : PySem.W.mroIn K e_NoPlan (.type "object") = some true)
    (v_NoPlan : PySem.W.subIn K (.ref e_NoPlan) (.type "ValueError") = some true)
    (s_NoPlan_NoPlan : PySem.W.subIn K (.ref e_NoPlan) (.ref e_NoPlan) = some true)
    (ho_n : PySem.W.specialIn K (.builtin "object.__class__") "__get__" = some (some (.builtin "getset_descriptor.__get__")))
    (ho_t : PySem.W.takesIn K (.builtin "object.__class__") = some true) : ∃ T : Txt K mg, T.a_law = f_law ∧ ∀ (s : Shared) (v : Value), BindsTo s T.d_law ⟨[v], []⟩ [("_law_script", v)] :=
  ⟨{ a_must_be_sizes := f_must_be_sizes,
      d_must_be_sizes := _,
      F_must_be_sizes := fun_mk (st := s_must_be_sizes) l_must_be_sizes c_must_be_sizes k_must_be_sizes,
      g_must_be_sizes := PySem.W.mg_of X G a_must_be_sizes,
      b_must_be_sizes := (fun_mk (st := s_must_be_sizes) l_must_be_sizes c_must_be_sizes k_must_be_sizes).binds fun _ _ _ _ _ _ us hl => match us, hl with | [_, _], _ => rfl,
      a_must_be_plan := f_must_be_plan,
      d_must_be_plan := _,
      F_must_be_plan := fun_mk (st := s_must_be_plan) l_must_be_plan c_must_be_plan k_must_be_plan,
      g_must_be_plan := PySem.W.mg_of X G a_must_be_plan,
      b_must_be_plan := (fun_mk (st := s_must_be_plan) l_must_be_plan c_must_be_plan k_must_be_plan).binds fun _ _ _ _ _ _ us hl => match us, hl with | [_], _ => rfl,
      a_must_be_counts := f_must_be_counts,
      d_must_be_counts := _,
      F_must_be_counts := fun_mk (st := s_must_be_counts) l_must_be_counts c_must_be_counts k_must_be_counts,
      g_must_be_counts := PySem.W.mg_of X G a_must_be_counts,
      b_must_be_counts := (fun_mk (st := s_must_be_counts) l_must_be_counts c_must_be_counts k_must_be_counts).binds fun _ _ _ _ _ _ us hl => match us, hl with | [_], _ => rfl,
      a_Fallings_init := f_Fallings_init,
      d_Fallings_init := _,
      F_Fallings_init := fun_mk (st := s_Fallings_init) l_Fallings_init c_Fallings_init k_Fallings_init,
      b_Fallings_init := (fun_mk (st := s_Fallings_init) l_Fallings_init c_Fallings_init k_Fallings_init).binds fun _ _ _ _ _ _ us hl => match us, hl with | [_], _ => rfl,
      a_Fallings_many := f_Fallings_many,
      d_Fallings_many := _,
      F_Fallings_many := fun_mk (st := s_Fallings_many) l_Fallings_many c_Fallings_many k_Fallings_many,
      b_Fallings_many := (fun_mk (st := s_Fallings_many) l_Fallings_many c_Fallings_many k_Fallings_many).binds fun _ _ _ _ _ _ us hl => match us, hl with | [_, _, _, _], _ => rfl,
      a_counts_number := f_counts_number,
      d_counts_number := _,
      F_counts_number := fun_mk (st := s_counts_number) l_counts_number c_counts_number k_counts_number,
      g_counts_number := PySem.W.mg_of X G a_counts_number,
      b_counts_number := (fun_mk (st := s_counts_number) l_counts_number c_counts_number k_counts_number).binds fun _ _ _ _ _ _ us hl => match us, hl with | [_], _ => rfl,
      a_counts_of := f_counts_of,
      d_counts_of := _,
      F_counts_of := fun_mk (st := s_counts_of) l_counts_of c_counts_of k_counts_of,
      g_counts_of := PySem.W.mg_of X G a_counts_of,
      b_counts_of := (fun_mk (st := s_counts_of) l_counts_of c_counts_of k_counts_of).binds fun _ _ _ _ _ _ us hl => match us, hl with | [_, _, _], _ => rfl,
      a_l_purse := f_l_purse,
      d_l_purse := _,
      F_l_purse := fun_mk (st := s_l_purse) l_l_purse c_l_purse k_l_purse,
      g_l_purse := PySem.W.mg_of X G a_l_purse,
      b_l_purse := (fun_mk (st := s_l_purse) l_l_purse c_l_purse k_l_purse).binds fun _ _ _ _ _ _ us hl => match us, hl with | [_], _ => rfl,
      a_l_draw := f_l_draw,
      d_l_draw := _,
      F_l_draw := fun_mk (st := s_l_draw) l_l_draw c_l_draw k_l_draw,
      g_l_draw := PySem.W.mg_of X G a_l_draw,
      b_l_draw := (fun_mk (st := s_l_draw) l_l_draw c_l_draw k_l_draw).binds fun _ _ _ _ _ _ us hl => match us, hl with | [_, _], _ => rfl,
      a_l_whole := f_l_whole,
      d_l_whole := _,
      F_l_whole := fun_mk (st := s_l_whole) l_l_whole c_l_whole k_l_whole,
      g_l_whole := PySem.W.mg_of X G a_l_whole,
      b_l_whole := (fun_mk (st := s_l_whole) l_l_whole c_l_whole k_l_whole).binds fun _ _ _ _ _ _ us hl => match us, hl with | [_], _ => rfl,
      a_l_numbers := f_l_numbers,
      d_l_numbers := _,
      F_l_numbers := fun_mk (st := s_l_numbers) l_l_numbers c_l_numbers k_l_numbers,
      g_l_numbers := PySem.W.mg_of X G a_l_numbers,
      b_l_numbers := (fun_mk (st := s_l_numbers) l_l_numbers c_l_numbers k_l_numbers).binds fun _ _ _ _ _ _ us hl => match us, hl with | [_, _], _ => rfl,
      a_l_fallings := f_l_fallings,
      d_l_fallings := _,
      F_l_fallings := fun_mk (st := s_l_fallings) l_l_fallings c_l_fallings k_l_fallings,
      g_l_fallings := PySem.W.mg_of X G a_l_fallings,
      b_l_fallings := (fun_mk (st := s_l_fallings) l_l_fallings c_l_fallings k_l_fallings).binds fun _ _ _ _ _ _ us hl => match us, hl with | [_, _, _], _ => rfl,
      a_l_counts := f_l_counts,
      d_l_counts := _,
      F_l_counts := fun_mk (st := s_l_counts) l_l_counts c_l_counts k_l_counts,
      g_l_counts := PySem.W.mg_of X G a_l_counts,
      b_l_counts := (fun_mk (st := s_l_counts) l_l_counts c_l_counts k_l_counts).binds fun _ _ _ _ _ _ us hl => match us, hl with | [_, _, _], _ => rfl,
      a_l_number := f_l_number,
      d_l_number := _,
      F_l_number := fun_mk (st := s_l_number) l_l_number c_l_number k_l_number,
      g_l_number := PySem.W.mg_of X G a_l_number,
      b_l_number := (fun_mk (st := s_l_number) l_l_number c_l_number k_l_number).binds fun _ _ _ _ _ _ us hl => match us, hl with | [_], _ => rfl,
      a_l_has := f_l_has,
      d_l_has := _,
      F_l_has := fun_mk (st := s_l_has) l_l_has c_l_has k_l_has,
      g_l_has := PySem.W.mg_of X G a_l_has,
      b_l_has := (fun_mk (st := s_l_has) l_l_has c_l_has k_l_has).binds fun _ _ _ _ _ _ us hl => match us, hl with | [_, _, _, _], _ => rfl,
      a_law := f_law,
      d_law := _,
      F_law := fun_mk (st := s_law) l_law c_law k_law,
      g_law := PySem.W.mg_of X G a_law,
      b_law := (fun_mk (st := s_law) l_law c_law k_law).binds fun _ _ _ _ _ _ us hl => match us, hl with | [_], _ => rfl,
      e_Fallings := e_Fallings,
      g_Fallings := PySem.W.mg_of X G h_Fallings,
      pg_Fallings := pg_Fallings,
      ph_Fallings := ph_Fallings,
      po_Fallings := po_Fallings,
      ps_Fallings := ps_Fallings,
      pm_Fallings := pm_Fallings,
      pk_Fallings := pk_Fallings,
      pf_Fallings_init := pf_Fallings_init,
      pn_Fallings_init := pn_Fallings_init,
      pp_Fallings_init := pp_Fallings_init,
      pf_Fallings_many := pf_Fallings_many,
      pn_Fallings_many := pn_Fallings_many,
      pp_Fallings_many := pp_Fallings_many,
      pa_Fallings_known := pa_Fallings_known,
      z_all := PySem.W.mg_none_of X G z_all,
      z_bool := PySem.W.mg_none_of X G z_bool,
      z_int := PySem.W.mg_none_of X G z_int,
      z_isinstance := PySem.W.mg_none_of X G z_isinstance,
      z_len := PySem.W.mg_none_of X G z_len,
      z_list := PySem.W.mg_none_of X G z_list,
      z_min := PySem.W.mg_none_of X G z_min,
      z_range := PySem.W.mg_none_of X G z_range,
      z_sorted := PySem.W.mg_none_of X G z_sorted,
      z_sum := PySem.W.mg_none_of X G z_sum,
      t_MOST_HOSTS := t_MOST_HOSTS,
      c_MOST_HOSTS := PySem.W.mg_of X G h_MOST_HOSTS,
      t_MOST_FIELDS := t_MOST_FIELDS,
      c_MOST_FIELDS := PySem.W.mg_of X G h_MOST_FIELDS,
      e_NoPlan := e_NoPlan,
      g_NoPlan := PySem.W.mg_of X G h_NoPlan,
      i_NoPlan := i_NoPlan,
      t_NoPlan := t_NoPlan,
      y_NoPlan := y_NoPlan,
      x_NoPlan := x_NoPlan,
      k_NoPlan := k_NoPlan,
      hg_NoPlan := hg_NoPlan,
      hk_NoPlan := hk_NoPlan,
      hd_NoPlan := hd_NoPlan,
      ha_NoPlan := ha_NoPlan,
      hm_NoPlan := hm_NoPlan,
      v_NoPlan := v_NoPlan,
      s_NoPlan_NoPlan := s_NoPlan_NoPlan,
      ho_n := ho_n,
      ho_t := ho_t }, rfl, fun _ _ => .of_eq rfl⟩
theorem all_mk {P : Program} {w : World} {K : PySem.W.Frag} {h : Heap} {mg : Str → Option Value} {fa : Addr} {f_must_be_sizes : Addr} {o_must_be_sizes n_must_be_sizes : Option Addr} {w_must_be_sizes : Array (Option Value)} {q1_must_be_sizes q2_must_be_sizes q3_must_be_sizes q4_must_be_sizes q5_must_be_sizes q6_must_be_sizes : Value} {f_must_be_plan : Addr} {o_must_be_plan n_must_be_plan : Option Addr} {w_must_be_plan : Array (Option Value)} {q1_must_be_plan q2_must_be_plan q3_must_be_plan q4_must_be_plan q5_must_be_plan q6_must_be_plan : Value} {f_must_be_counts : Addr} {o_must_be_counts n_must_be_counts : Option Addr} {w_must_be_counts : Array (Option Value)} {q1_must_be_counts q2_must_be_counts q3_must_be_counts q4_must_be_counts q5_must_be_counts q6_must_be_counts : Value} {f_Fallings_init : Addr} {o_Fallings_init n_Fallings_init : Option Addr} {w_Fallings_init : Array (Option Value)} {q1_Fallings_init q2_Fallings_init q3_Fallings_init q4_Fallings_init q5_Fallings_init q6_Fallings_init : Value} {f_Fallings_many : Addr} {o_Fallings_many n_Fallings_many : Option Addr} {w_Fallings_many : Array (Option Value)} {q1_Fallings_many q2_Fallings_many q3_Fallings_many q4_Fallings_many q5_Fallings_many q6_Fallings_many : Value} {f_counts_number : Addr} {o_counts_number n_counts_number : Option Addr} {w_counts_number : Array (Option Value)} {q1_counts_number q2_counts_number q3_counts_number q4_counts_number q5_counts_number q6_counts_number : Value} {f_counts_of : Addr} {o_counts_of n_counts_of : Option Addr} {w_counts_of : Array (Option Value)} {q1_counts_of q2_counts_of q3_counts_of q4_counts_of q5_counts_of q6_counts_of : Value} {f_l_purse : Addr} {o_l_purse n_l_purse : Option Addr} {w_l_purse : Array (Option Value)} {q1_l_purse q2_l_purse q3_l_purse q4_l_purse q5_l_purse q6_l_purse : Value} {f_l_draw : Addr} {o_l_draw n_l_draw : Option Addr} {w_l_draw : Array (Option Value)} {q1_l_draw q2_l_draw q3_l_draw q4_l_draw q5_l_draw q6_l_draw : Value} {f_l_whole : Addr} {o_l_whole n_l_whole : Option Addr} {w_l_whole : Array (Option Value)} {q1_l_whole q2_l_whole q3_l_whole q4_l_whole q5_l_whole q6_l_whole : Value} {f_l_numbers : Addr} {o_l_numbers n_l_numbers : Option Addr} {w_l_numbers : Array (Option Value)} {q1_l_numbers q2_l_numbers q3_l_numbers q4_l_numbers q5_l_numbers q6_l_numbers : Value} {f_l_fallings : Addr} {o_l_fallings n_l_fallings : Option Addr} {w_l_fallings : Array (Option Value)} {q1_l_fallings q2_l_fallings q3_l_fallings q4_l_fallings q5_l_fallings q6_l_fallings : Value} {f_l_counts : Addr} {o_l_counts n_l_counts : Option Addr} {w_l_counts : Array (Option Value)} {q1_l_counts q2_l_counts q3_l_counts q4_l_counts q5_l_counts q6_l_counts : Value} {f_l_number : Addr} {o_l_number n_l_number : Option Addr} {w_l_number : Array (Option Value)} {q1_l_number q2_l_number q3_l_number q4_l_number q5_l_number q6_l_number : Value} {f_l_has : Addr} {o_l_has n_l_has : Option Addr} {w_l_has : Array (Option Value)} {q1_l_has q2_l_has q3_l_has q4_l_has q5_l_has q6_l_has : Value} {f_law : Addr} {o_law n_law : Option Addr} {w_law : Array (Option Value)} {q1_law q2_law q3_law q4_law q5_law q6_law : Value} {e_Fallings : Addr} {t_MOST_HOSTS : Tok} {t_MOST_FIELDS : Tok} {e_NoPlan : Addr} (X : K.In h) (G : h.Ns mainGlobals mg) (hfa : mg "law" = some (.ref fa))
    (h_Fallings : PySem.W.nsIn K mainGlobals "Fallings" = some (some (.ref e_Fallings)))
    (pf_Fallings_init : PySem.W.findIn K (.ref e_Fallings) "__init__" = some (some (.ref f_Fallings_init)))
    (pf_Fallings_many : PySem.W.findIn K (.ref e_Fallings) "many" = some (some (.ref f_Fallings_many)))
    (a_must_be_sizes : PySem.W.nsIn K mainGlobals "must_be_sizes" = some (some (.ref f_must_be_sizes)))
    (l_must_be_sizes : K.lookup f_must_be_sizes = some ⟨q1_must_be_sizes, o_must_be_sizes, .func (PySem.W.fnOf "must_be_sizes" "must_be_sizes" (defArgs s_must_be_sizes) (defBody s_must_be_sizes) (defScope s_must_be_sizes) .none q2_must_be_sizes q3_must_be_sizes q4_must_be_sizes n_must_be_sizes q5_must_be_sizes q6_must_be_sizes), w_must_be_sizes⟩)
    (c_must_be_sizes : PySem.W.codeIn K q5_must_be_sizes "must_be_sizes" = true)
    (k_must_be_sizes : PySem.W.keepIn K (.ref f_must_be_sizes) = true)
    (a_must_be_plan : PySem.W.nsIn K mainGlobals "must_be_plan" = some (some (.ref f_must_be_plan)))
    (l_must_be_plan : K.lookup f_must_be_plan = some ⟨q1_must_be_plan, o_must_be_plan, .func (PySem.W.fnOf "must_be_plan" "must_be_plan" (defArgs s_must_be_plan) (defBody s_must_be_plan) (defScope s_must_be_plan) .none q2_must_be_plan q3_must_be_plan q4_must_be_plan n_must_be_plan q5_must_be_plan q6_must_be_plan), w_must_be_plan⟩)
    (c_must_be_plan : PySem.W.codeIn K q5_must_be_plan "must_be_plan" = true)
    (k_must_be_plan : PySem.W.keepIn K (.ref f_must_be_plan) = true)
    (a_must_be_counts : PySem.W.nsIn K mainGlobals "must_be_counts" = some (some (.ref f_must_be_counts)))
    (l_must_be_counts : K.lookup f_must_be_counts = some ⟨q1_must_be_counts, o_must_be_counts, .func (PySem.W.fnOf "must_be_counts" "must_be_counts" (defArgs s_must_be_counts) (defBody s_must_be_counts) (defScope s_must_be_counts) .none q2_must_be_counts q3_must_be_counts q4_must_be_counts n_must_be_counts q5_must_be_counts q6_must_be_counts), w_must_be_counts⟩)
    (c_must_be_counts : PySem.W.codeIn K q5_must_be_counts "must_be_counts" = true)
    (k_must_be_counts : PySem.W.keepIn K (.ref f_must_be_counts) = true)
    (l_Fallings_init : K.lookup f_Fallings_init = some ⟨q1_Fallings_init, o_Fallings_init, .func (PySem.W.fnOf "__init__" "Fallings.__init__" (defArgs s_Fallings_init) (defBody s_Fallings_init) (defScope s_Fallings_init) .none q2_Fallings_init q3_Fallings_init q4_Fallings_init n_Fallings_init q5_Fallings_init q6_Fallings_init), w_Fallings_init⟩)
    (c_Fallings_init : PySem.W.codeIn K q5_Fallings_init "Fallings.__init__" = true)
    (k_Fallings_init : PySem.W.keepIn K (.ref f_Fallings_init) = true)
    (l_Fallings_many : K.lookup f_Fallings_many = some ⟨q1_Fallings_many, o_Fallings_many, .func (PySem.W.fnOf "many" "Fallings.many" (defArgs s_Fallings_many) (defBody s_Fallings_many) (defScope s_Fallings_many) .none q2_Fallings_many q3_Fallings_many q4_Fallings_many n_Fallings_many q5_Fallings_many q6_Fallings_many), w_Fallings_many⟩)
    (c_Fallings_many : PySem.W.codeIn K q5_Fallings_many "Fallings.many" = true)
    (k_Fallings_many : PySem.W.keepIn K (.ref f_Fallings_many) = true)
    (a_counts_number : PySem.W.nsIn K mainGlobals "counts_number" = some (some (.ref f_counts_number)))
    (l_counts_number : K.lookup f_counts_number = some ⟨q1_counts_number, o_counts_number, .func (PySem.W.fnOf "counts_number" "counts_number" (defArgs s_counts_number) (defBody s_counts_number) (defScope s_counts_number) .none q2_counts_number q3_counts_number q4_counts_number n_counts_number q5_counts_number q6_counts_number), w_counts_number⟩)
    (c_counts_number : PySem.W.codeIn K q5_counts_number "counts_number" = true)
    (k_counts_number : PySem.W.keepIn K (.ref f_counts_number) = true)
    (a_counts_of : PySem.W.nsIn K mainGlobals "counts_of" = some (some (.ref f_counts_of)))
    (l_counts_of : K.lookup f_counts_of = some ⟨q1_counts_of, o_counts_of, .func (PySem.W.fnOf "counts_of" "counts_of" (defArgs s_counts_of) (defBody s_counts_of) (defScope s_counts_of) .none q2_counts_of q3_counts_of q4_counts_of n_counts_of q5_counts_of q6_counts_of), w_counts_of⟩)
    (c_counts_of : PySem.W.codeIn K q5_counts_of "counts_of" = true)
    (k_counts_of : PySem.W.keepIn K (.ref f_counts_of) = true)
    (a_l_purse : PySem.W.nsIn K mainGlobals "_law_purse" = some (some (.ref f_l_purse)))
    (l_l_purse : K.lookup f_l_purse = some ⟨q1_l_purse, o_l_purse, .func (PySem.W.fnOf "_law_purse" "_law_purse" (defArgs s_l_purse) (defBody s_l_purse) (defScope s_l_purse) .none q2_l_purse q3_l_purse q4_l_purse n_l_purse q5_l_purse q6_l_purse), w_l_purse⟩)
    (c_l_purse : PySem.W.codeIn K q5_l_purse "_law_purse" = true)
    (k_l_purse : PySem.W.keepIn K (.ref f_l_purse) = true)
    (a_l_draw : PySem.W.nsIn K mainGlobals "_law_draw" = some (some (.ref f_l_draw)))
    (l_l_draw : K.lookup f_l_draw = some ⟨q1_l_draw, o_l_draw, .func (PySem.W.fnOf "_law_draw" "_law_draw" (defArgs s_l_draw) (defBody s_l_draw) (defScope s_l_draw) .none q2_l_draw q3_l_draw q4_l_draw n_l_draw q5_l_draw q6_l_draw), w_l_draw⟩)
    (c_l_draw : PySem.W.codeIn K q5_l_draw "_law_draw" = true)
    (k_l_draw : PySem.W.keepIn K (.ref f_l_draw) = true)
    (a_l_whole : PySem.W.nsIn K mainGlobals "_law_whole" = some (some (.ref f_l_whole)))
    (l_l_whole : K.lookup f_l_whole = some ⟨q1_l_whole, o_l_whole, .func (PySem.W.fnOf "_law_whole" "_law_whole" (defArgs s_l_whole) (defBody s_l_whole) (defScope s_l_whole) .none q2_l_whole q3_l_whole q4_l_whole n_l_whole q5_l_whole q6_l_whole), w_l_whole⟩)
    (c_l_whole : PySem.W.codeIn K q5_l_whole "_law_whole" = true)
    (k_l_whole : PySem.W.keepIn K (.ref f_l_whole) = true)
    (a_l_numbers : PySem.W.nsIn K mainGlobals "_law_numbers" = some (some (.ref f_l_numbers)))
    (l_l_numbers : K.lookup f_l_numbers = some ⟨q1_l_numbers, o_l_numbers, .func (PySem.W.fnOf "_law_numbers" "_law_numbers" (defArgs s_l_numbers) (defBody s_l_numbers) (defScope s_l_numbers) .none q2_l_numbers q3_l_numbers q4_l_numbers n_l_numbers q5_l_numbers q6_l_numbers), w_l_numbers⟩)
    (c_l_numbers : PySem.W.codeIn K q5_l_numbers "_law_numbers" = true)
    (k_l_numbers : PySem.W.keepIn K (.ref f_l_numbers) = true)
    (a_l_fallings : PySem.W.nsIn K mainGlobals "_law_fallings" = some (some (.ref f_l_fallings)))
    (l_l_fallings : K.lookup f_l_fallings = some ⟨q1_l_fallings, o_l_fallings, .func (PySem.W.fnOf "_law_fallings" "_law_fallings" (defArgs s_l_fallings) (defBody s_l_fallings) (defScope s_l_fallings) .none q2_l_fallings q3_l_fallings q4_l_fallings n_l_fallings q5_l_fallings q6_l_fallings), w_l_fallings⟩)
    (c_l_fallings : PySem.W.codeIn K q5_l_fallings "_law_fallings" = true)
    (k_l_fallings : PySem.W.keepIn K (.ref f_l_fallings) = true)
    (a_l_counts : PySem.W.nsIn K mainGlobals "_law_counts" = some (some (.ref f_l_counts)))
    (l_l_counts : K.lookup f_l_counts = some ⟨q1_l_counts, o_l_counts, .func (PySem.W.fnOf "_law_counts" "_law_counts" (defArgs s_l_counts) (defBody s_l_counts) (defScope s_l_counts) .none q2_l_counts q3_l_counts q4_l_counts n_l_counts q5_l_counts q6_l_counts), w_l_counts⟩)
    (c_l_counts : PySem.W.codeIn K q5_l_counts "_law_counts" = true)
    (k_l_counts : PySem.W.keepIn K (.ref f_l_counts) = true)
    (a_l_number : PySem.W.nsIn K mainGlobals "_law_number" = some (some (.ref f_l_number)))
    (l_l_number : K.lookup f_l_number = some ⟨q1_l_number, o_l_number, .func (PySem.W.fnOf "_law_number" "_law_number" (defArgs s_l_number) (defBody s_l_number) (defScope s_l_number) .none q2_l_number q3_l_number q4_l_number n_l_number q5_l_number q6_l_number), w_l_number⟩)
    (c_l_number : PySem.W.codeIn K q5_l_number "_law_number" = true)
    (k_l_number : PySem.W.keepIn K (.ref f_l_number) = true)
    (a_l_has : PySem.W.nsIn K mainGlobals "_law_has" = some (some (.ref f_l_has)))
    (l_l_has : K.lookup f_l_has = some ⟨q1_l_has, o_l_has, .func (PySem.W.fnOf "_law_has" "_law_has" (defArgs s_l_has) (defBody s_l_has) (defScope s_l_has) .none q2_l_has q3_l_has q4_l_has n_l_has q5_l_has q6_l_has), w_l_has⟩)
    (c_l_has : PySem.W.codeIn K q5_l_has "_law_has" = true)
    (k_l_has : PySem.W.keepIn K (.ref f_l_has) = true)
    (a_law : PySem.W.nsIn K mainGlobals "law" = some (some (.ref f_law)))
    (l_law : K.lookup f_law = some ⟨q1_law, o_law, .func (PySem.W.fnOf "law" "law" (defArgs s_law) (defBody s_law) (defScope s_law) .none q2_law q3_law q4_law n_law q5_law q6_law), w_law⟩)
    (c_law : PySem.W.codeIn K q5_law "law" = true)
    (k_law : PySem.W.keepIn K (.ref f_law) = true)
    (z_all : PySem.W.nsIn K mainGlobals "all" = some none)
    (z_bool : PySem.W.nsIn K mainGlobals "bool" = some none)
    (z_int : PySem.W.nsIn K mainGlobals "int" = some none)
    (z_isinstance : PySem.W.nsIn K mainGlobals "isinstance" = some none)
    (z_len : PySem.W.nsIn K mainGlobals "len" = some none)
    (z_list : PySem.W.nsIn K mainGlobals "list" = some none)
    (z_min : PySem.W.nsIn K mainGlobals "min" = some none)
    (z_range : PySem.W.nsIn K mainGlobals "range" = some none)
    (z_sorted : PySem.W.nsIn K mainGlobals "sorted" = some none)
    (z_sum : PySem.W.nsIn K mainGlobals "sum" = some none)
    (pg_Fallings : PySem.W.plainGet K e_Fallings Str.empty = true)
    (ph_Fallings : PySem.W.hasDictIn K e_Fallings = true)
    (po_Fallings : PySem.W.plainOver K e_Fallings = true)
    (ps_Fallings : PySem.W.findIn K (.ref e_Fallings) "__setattr__" = some (some (.builtin "object.__setattr__")))
    (pm_Fallings : PySem.W.makesIn K e_Fallings = true)
    (pk_Fallings : PySem.W.keepIn K (.ref e_Fallings) = true)
    (pn_Fallings_init : PySem.W.isFn K (.ref f_Fallings_init) = true)
    (pp_Fallings_init : PySem.W.keepIn K (.ref f_Fallings_init) = true)
    (pn_Fallings_many : PySem.W.isFn K (.ref f_Fallings_many) = true)
    (pp_Fallings_many : PySem.W.keepIn K (.ref f_Fallings_many) = true)
    (pa_Fallings_known : PySem.W.findIn K (.ref e_Fallings) "known" = some none)
    (h_MOST_HOSTS : PySem.W.nsIn K mainGlobals "MOST_HOSTS" = some (some (.int 40 t_MOST_HOSTS)))
    (h_MOST_FIELDS : PySem.W.nsIn K mainGlobals "MOST_FIELDS" = some (some (.int 8 t_MOST_FIELDS)))
    (h_NoPlan : PySem.W.nsIn K mainGlobals "NoPlan" = some (some (.ref e_NoPlan)))
    (i_NoPlan : PySem.W.isClsIn K e_NoPlan = true)
    (t_NoPlan : PySem.W.typeIn K (.ref e_NoPlan) = some (.type "type"))
    (y_NoPlan : PySem.W.subIn K (.ref e_NoPlan) (.type "BaseException") = some true)
    (x_NoPlan : PySem.W.excIn K e_NoPlan [.type "ValueError", .type "Exception", .type "BaseException", .type "object"] "ValueError.__new__" = true)
    (k_NoPlan : PySem.W.keepIn K (.ref e_NoPlan) = true)
    (hg_NoPlan : PySem.W.findIn K (.ref e_NoPlan) "__getattribute__" = some (some (.builtin "BaseException.__getattribute__")))
    (hk_NoPlan : PySem.W.findIn K (.ref e_NoPlan) "__getattr__" = some none)
    (hd_NoPlan : PySem.W.hasDictIn K e_NoPlan = true)
    (ha_NoPlan : PySem.W.findIn K (.ref e_NoPlan) "__class__" = some (some (.builtin "object.__class__")))
    (hm_NoPlan : PySem.W.mroIn K e_NoPlan (.type "object") = some true)
    (v_NoPlan : PySem.W.subIn K (.ref e_NoPlan) (.type "ValueError") = some true)
    (s_NoPlan_NoPlan : PySem.W.subIn K (.ref e_NoPlan) (.ref e_NoPlan) = some true)
    (ho_n : PySem.W.specialIn K (.builtin "object.__class__") "__get__" = some (some (.builtin "getset_descriptor.__get__")))
    (ho_t : PySem.W.takesIn K (.builtin "object.__class__") = some true) : ∃ fd : FuncData, (∀ (s : Shared) (v : Value), BindsTo s fd ⟨[v], []⟩ [("_law_script", v)]) ∧ ∀ base : Heap, K.In base → base.Ns mainGlobals mg → FnOk P w K mg base CX0 11 fa fd ["_law_script"] (sp_law K) := by
  obtain ⟨T, e1, e2⟩ := mk_txt X G h_Fallings pf_Fallings_init pf_Fallings_many a_must_be_sizes l_must_be_sizes c_must_be_sizes k_must_be_sizes a_must_be_plan l_must_be_plan c_must_be_plan k_must_be_plan a_must_be_counts l_must_be_counts c_must_be_counts k_must_be_counts l_Fallings_init c_Fallings_init k_Fallings_init l_Fallings_many c_Fallings_many k_Fallings_many a_counts_number l_counts_number c_counts_number k_counts_number a_counts_of l_counts_of c_counts_of k_counts_of a_l_purse l_l_purse c_l_purse k_l_purse a_l_draw l_l_draw c_l_draw k_l_draw a_l_whole l_l_whole c_l_whole k_l_whole a_l_numbers l_l_numbers c_l_numbers k_l_numbers a_l_fallings l_l_fallings c_l_fallings k_l_fallings a_l_counts l_l_counts c_l_counts k_l_counts a_l_number l_l_number c_l_number k_l_number a_l_has l_l_has c_l_has k_l_has a_law l_law c_law k_law z_all z_bool z_int z_isinstance z_len z_list z_min z_range z_sorted z_sum pg_Fallings ph_Fallings po_Fallings ps_Fallings pm_Fallings pk_Fallings pn_Fallings_init pp_Fallings_init pn_Fallings_many pp_Fallings_many pa_Fallings_known h_MOST_HOSTS h_MOST_FIELDS h_NoPlan i_NoPlan t_NoPlan y_NoPlan x_NoPlan k_NoPlan hg_NoPlan hk_NoPlan hd_NoPlan ha_NoPlan hm_NoPlan v_NoPlan s_NoPlan_NoPlan ho_n ho_t
  have e := hfa.symm.trans (PySem.W.mg_of X G a_law)
  cases e
  exact ⟨T.d_law, e2, fun base _ _ => e1 ▸ ok_law T⟩
end K15
open PySem PySem.W PyProof.Rows
set_option maxHeartbeats 0 in
theorem PySem.Challenge.cw_hostfields_k15_whole_counts_by_numbers_holds : PySem.Challenge.rw_hostfields_k15_whole_counts_by_numbers.Holds := by
  w_on; o_law; k_head; (case hw => w_witness2)
  k_fill
  refine L2.walk_of (l := PySem.Challenge.rw_hostfields_k15_whole_counts_by_numbers) (n := 63) (k := 11) (x := "_law_script") (CX := fun _ => L2.CX0) (sp := fun w => K15.sp_law _) rfl (by decide) rfl ⟨rfl, by decide, by decide⟩ (fun w h Y => PySem.W.kIn_of Y) ?F (fun _ _ a ns hl _ hS => ⟨a, ns, rfl, hS, hl, fun _ => rfl⟩) (fun _ _ _ _ _ h => h)
  case F =>
    intro w mg fa h KX G hmg
    refine' K15.all_mk KX G hmg ?h_Fallings ?pf_Fallings_init ?pf_Fallings_many ?a_must_be_sizes ?l_must_be_sizes ?c_must_be_sizes ?k_must_be_sizes ?a_must_be_plan ?l_must_be_plan ?c_must_be_plan ?k_must_be_plan ?a_must_be_counts ?l_must_be_counts ?c_must_be_counts ?k_must_be_counts ?l_Fallings_init ?c_Fallings_init ?k_Fallings_init ?l_Fallings_many ?c_Fallings_many ?k_Fallings_many ?a_counts_number ?l_counts_number ?c_counts_number ?k_counts_number ?a_counts_of ?l_counts_of ?c_counts_of ?k_counts_of ?a_l_purse ?l_l_purse ?c_l_purse ?k_l_purse ?a_l_draw ?l_l_draw ?c_l_draw ?k_l_draw ?a_l_whole ?l_l_whole ?c_l_whole ?k_l_whole ?a_l_numbers ?l_l_numbers ?c_l_numbers ?k_l_numbers ?a_l_fallings ?l_l_fallings ?c_l_fallings ?k_l_fallings ?a_l_counts ?l_l_counts ?c_l_counts ?k_l_counts ?a_l_number ?l_l_number ?c_l_number ?k_l_number ?a_l_has ?l_l_has ?c_l_has ?k_l_has ?a_law ?l_law ?c_law ?k_law ?z_all ?z_bool ?z_int ?z_isinstance ?z_len ?z_list ?z_min ?z_range ?z_sorted ?z_sum ?pg_Fallings ?ph_Fallings ?po_Fallings ?ps_Fallings ?pm_Fallings ?pk_Fallings ?pn_Fallings_init ?pp_Fallings_init ?pn_Fallings_many ?pp_Fallings_many ?pa_Fallings_known ?h_MOST_HOSTS ?h_MOST_FIELDS ?h_NoPlan ?i_NoPlan ?t_NoPlan ?y_NoPlan ?x_NoPlan ?k_NoPlan ?hg_NoPlan ?hk_NoPlan ?hd_NoPlan ?ha_NoPlan ?hm_NoPlan ?v_NoPlan ?s_NoPlan_NoPlan ?ho_n ?ho_t
    (case h_Fallings => k_is); (case pf_Fallings_init => k_is); (case pf_Fallings_many => k_is); (case a_must_be_sizes => k_is); (case l_must_be_sizes => k_is); (case c_must_be_sizes => k_is); (case k_must_be_sizes => k_is); (case a_must_be_plan => k_is); (case l_must_be_plan => k_is); (case c_must_be_plan => k_is); (case k_must_be_plan => k_is); (case a_must_be_counts => k_is); (case l_must_be_counts => k_is); (case c_must_be_counts => k_is); (case k_must_be_counts => k_is); (case l_Fallings_init => k_is); (case c_Fallings_init => k_is); (case k_Fallings_init => k_is); (case l_Fallings_many => k_is); (case c_Fallings_many => k_is); (case k_Fallings_many => k_is); (case a_counts_number => k_is); (case l_counts_number => k_is); (case c_counts_number => k_is); (case k_counts_number => k_is); (case a_counts_of => k_is); (case l_counts_of => k_is); (case c_counts_of => k_is); (case k_counts_of => k_is); (case a_l_purse => k_is); (case l_l_purse => k_is); (case c_l_purse => k_is); (case k_l_purse => k_is); (case a_l_draw => k_is); (case l_l_draw => k_is); (case c_l_draw => k_is); (case k_l_draw => k_is); (case a_l_whole => k_is); (case l_l_whole => k_is); (case c_l_whole => k_is); (case k_l_whole => k_is); (case a_l_numbers => k_is); (case l_l_numbers => k_is); (case c_l_numbers => k_is); (case k_l_numbers => k_is); (case a_l_fallings => k_is); (case l_l_fallings => k_is); (case c_l_fallings => k_is); (case k_l_fallings => k_is); (case a_l_counts => k_is); (case l_l_counts => k_is); (case c_l_counts => k_is); (case k_l_counts => k_is); (case a_l_number => k_is); (case l_l_number => k_is); (case c_l_number => k_is); (case k_l_number => k_is); (case a_l_has => k_is); (case l_l_has => k_is); (case c_l_has => k_is); (case k_l_has => k_is); (case a_law => k_is); (case l_law => k_is); (case c_law => k_is); (case k_law => k_is); (case z_all => k_is); (case z_bool => k_is); (case z_int => k_is); (case z_isinstance => k_is); (case z_len => k_is); (case z_list => k_is); (case z_min => k_is); (case z_range => k_is); (case z_sorted => k_is); (case z_sum => k_is); (case pg_Fallings => k_is); (case ph_Fallings => k_is); (case po_Fallings => k_is); (case ps_Fallings => k_is); (case pm_Fallings => k_is); (case pk_Fallings => k_is); (case pn_Fallings_init => k_is); (case pp_Fallings_init => k_is); (case pn_Fallings_many => k_is); (case pp_Fallings_many => k_is); (case pa_Fallings_known => k_is); (case h_MOST_HOSTS => k_is); (case h_MOST_FIELDS => k_is); (case h_NoPlan => k_is); (case i_NoPlan => k_is); (case t_NoPlan => k_is); (case y_NoPlan => k_is); (case x_NoPlan => k_exc); (case k_NoPlan => k_is); (case hg_NoPlan => k_is); (case hk_NoPlan => k_is); (case hd_NoPlan => k_is); (case ha_NoPlan => k_is); (case hm_NoPlan => k_is); (case v_NoPlan => k_is); (case s_NoPlan_NoPlan => k_is); (case ho_n => k_is); (case ho_t => k_is)

