import PyProof.Rows.All
import Wide.All
import OpenK.AllK
import Wide.FinOn
import HandS.ForMost
import HandS.Wide
import HandS.IsInst
import HandS.TupAny
import PySem.Challenge.RW_hostfields_k02_sums_and_products
set_option Elab.async false
set_option linter.all false
set_option maxRecDepth 100000
set_option maxHeartbeats 4000000
/-! ## the engine: the readings, one step a lemma; «walk_at "go"» walks as far as it goes -/
namespace Hf
open PySem PySem.Spec PyProof.Rows L2
/-- every tracked object but the one at a is as it was -/
def But (a : Addr) (H H' : Hp) : Prop := ∀ b o, b ≠ a → H b = some o → H' b = some o
theorem But.same {a : Addr} {H H' : Hp} (e : Same H H') : But a H H' := fun b o _ h => e b o h
theorem But.refl (a : Addr) (H : Hp) : But a H H := fun _ _ _ h => h
theorem But.trans {a : Addr} {H H1 H2 : Hp} (x : But a H H1) (y : But a H1 H2) : But a H H2 := fun b o n h => y b o n (x b o n h)
theorem But.upd {a : Addr} {H H1 : Hp} {o : HO} (x : But a H H1) : But a H (upd H1 a o) := fun b u n h => by
  rw [upd_ne n]
  exact x b u n h
theorem But.new {a p : Addr} {H H1 : Hp} {o : HO} (x : But a H H1) (hp : H1 p = none) : But a H (L2.upd H1 p o) := fun b u n h => by
  have h1 := x b u n h
  rw [upd_ne (ne_of_none h1 hp)]
  exact h1
theorem But.to_same {a : Addr} {H H' : Hp} (x : But a H H') (n : H a = none) : Same H H' := fun b o h => x b o (ne_of_none h n) h
theorem Same.new {H : Hp} {p : Addr} {o : HO} (hp : H p = none) : Same H (upd H p o) := fun b u h => by
  rw [upd_ne (ne_of_none h hp)]
  exact h
theorem Same.newT {H0 H : Hp} {p : Addr} {o : HO} (e : Same H0 H) (hp : H p = none) : Same H0 (upd H p o) := e.trans (Same.new hp)
/-- a change at an object that H0 does not know -/
theorem Same.mut {H0 H : Hp} {p : Addr} {o : HO} (e : Same H0 H) (hp : H0 p = none) : Same H0 (upd H p o) := fun b u h => by
  rw [upd_ne (ne_of_none h hp)]
  exact e b u h
theorem Same.but {H0 H H1 : Hp} {p : Addr} (e : Same H0 H) (hp : H0 p = none) (x : But p H H1) : Same H0 H1 := fun b u h => x b u (ne_of_none h hp) (e b u h)
theorem Same.seqT {K : PySem.W.Frag} {H H' : Hp} {a : Addr} {xs : List V} (e : Same H H') (h : SqT K H a xs) : SqT K H' a xs := by
  rcases h with (h | ⟨o, h⟩) | h
  · exact .inl (.inl (e _ _ h))
  · exact .inl (.inr ⟨o, e _ _ h⟩)
  · exact .inr h
theorem But.seq {K : PySem.W.Frag} {H H' : Hp} {a b : Addr} {xs : List V} (e : But a H H') (n : b ≠ a) (h : SqL K H b xs) : SqL K H' b xs := by
  rcases h with (h | ⟨o, h⟩) | h
  · exact .inl (.inl (e _ _ n h))
  · exact .inl (.inr ⟨o, e _ _ n h⟩)
  · exact .inr h
theorem But.seqT {K : PySem.W.Frag} {H H' : Hp} {a b : Addr} {xs : List V} (e : But a H H') (n : b ≠ a) (h : SqT K H b xs) : SqT K H' b xs := by
  rcases h with (h | ⟨o, h⟩) | h
  · exact .inl (.inl (e _ _ n h))
  · exact .inl (.inr ⟨o, e _ _ n h⟩)
  · exact .inr h
theorem lk_upd {H : Hp} {a b : Addr} {o u : HO} (n : b ≠ a) (h : H b = some u) : upd H a o b = some u := by
  rw [upd_ne n]
  exact h
theorem lk_new {H : Hp} {a b : Addr} {o u : HO} (n : H a = none) (h : H b = some u) : upd H a o b = some u := by
  rw [upd_ne (ne_of_none h n)]
  exact h
theorem lk_none {H H' : Hp} {a : Addr} (e : Same H H') (n : H' a = none) : H a = none := e.free n
theorem lkL_new {K : PySem.W.Frag} {H : Hp} {a b : Addr} {o : HO} {xs : List V} (n : H a = none) (h : SqL K H b xs) : SqL K (upd H a o) b xs := (Same.new n).seq h
theorem lkT_new {K : PySem.W.Frag} {H : Hp} {a b : Addr} {o : HO} {xs : List V} (n : H a = none) (h : SqT K H b xs) : SqT K (upd H a o) b xs := Same.seqT (Same.new n) h
theorem lkL_upd {K : PySem.W.Frag} {H : Hp} {a b : Addr} {o : HO} {xs : List V} (n : b ≠ a) (h : SqL K H b xs) : SqL K (upd H a o) b xs := But.seq (But.upd (But.refl a H)) n h
theorem lkT_upd {K : PySem.W.Frag} {H : Hp} {a b : Addr} {o : HO} {xs : List V} (n : b ≠ a) (h : SqT K H b xs) : SqT K (upd H a o) b xs := But.seqT (But.upd (But.refl a H)) n h
theorem ne_new {H : Hp} {a b : Addr} {o : HO} (n : H b = none) (h : H a = some o) : a ≠ b := ne_of_none h n
theorem ne_new' {H : Hp} {a b : Addr} {o : HO} (n : H b = none) (h : H a = some o) : b ≠ a := (ne_of_none h n).symm
theorem ne_at {α : Type} {a b : α} (h : a ≠ b) : b ≠ a := h.symm
/-! ### sizes -/
theorem sz4 {n : Nat} (h : n ≤ 1000000) : n ≤ sizeLine := Nat.le_trans h (by decide)
theorem sz4' {n : Nat} (h : n ≤ 1000000) : n < sizeLine := Nat.lt_of_le_of_lt h (by decide)
/-! ### two operators, wider -/
def CMulA (i j : Int) : Prop := CMul i j ∨ CMulW i j
theorem CMulA.ok {i j : Int} (h : CMulA i j) : IntMulOk i j := h.elim CMul.ok CMulW.ok
theorem op_mulA {X : Cx} : OpR X (binaryOp .Mult) (rI CMulA fun i j => .int (i * j)) := opI fun _ _ _ _ _ _ _ hc q => mul_int q hc.ok
def CDivA (_ j : Int) : Prop := j ≠ 0 ∧ j.natAbs.log2 < 9000
theorem op_fdivA {X : Cx} : OpR X (binaryOp .FloorDiv) (rI CDivA fun i j => .int (i.fdiv j)) := opI fun _ _ _ _ _ _ _ hc q => floordiv_int hc.1 q (.inl (PyProof.noPylong_of_log2 hc.2))
theorem mulL {i j : Int} (h : -(2 ^ 64) < i ∧ i < 2 ^ 64) : CMulA i j := .inl (.inl h)
theorem mulR {i j : Int} (h : -(2 ^ 64) < j ∧ j < 2 ^ 64) : CMulA i j := .inl (.inr h)
theorem log_lt {j : Int} {b : Nat} (h : j.natAbs < 2 ^ b) (h0 : 0 < b) (h9 : b ≤ 9000) : j.natAbs.log2 < 9000 := Nat.lt_of_lt_of_le (PySem.Flt.log2_lt_of h0 h) h9
theorem log_small {j : Int} (h : -(2 ^ 200) < j ∧ j < 2 ^ 200) : j.natAbs.log2 < 9000 := log_lt (b := 200) (by omega) (by decide) (by decide)
theorem mulW {i j : Int} {a b : Nat} (ha : i.natAbs < 2 ^ a) (hb : j.natAbs < 2 ^ b) (h0 : 0 < a) (h1 : 0 < b) (h : a + b ≤ 1000000) : CMulA i j := .inr (wide_mul ha hb h0 h1 h)
theorem divS {i j : Int} (h0 : j ≠ 0) (h : -(2 ^ 200) < j ∧ j < 2 ^ 200) : CDivA i j := ⟨h0, log_small h⟩
/-! ### the steps -/
section
variable {σ σ' : L2.St} {H : Hp} {Q : VK} {x y v : V} {i j : Int} {n : Nat} {nx bk ct : L2.St → Hp → Prop} {rt : VK} {K : PySem.W.Frag} {a p : Addr} {xs : List V}
theorem start_to {N : List Str} {vs : List V} {t : TS} {D : Ends} (e : start N vs = σ) (h : t D σ H) : t D (start N vs) H := by
  rw [e]
  exact h
theorem i_ends {t : TS} {rt : VK} (h : t ⟨fun _ H' => rt .non H', rt, fun _ _ => False, fun _ _ => False⟩ σ H) : t { nx := fun _ H' => rt .non H', rt := rt } σ H := h
theorem i_seq {t u : TS} (h : t ⟨u ⟨nx, rt, bk, ct⟩, rt, bk, ct⟩ σ H) : tSeq t u ⟨nx, rt, bk, ct⟩ σ H := h
theorem i_asg {te : TE} {g : TG} (h : te σ H fun x H1 => g x σ H1 nx) : tAsg te g ⟨nx, rt, bk, ct⟩ σ H := h
theorem i_gname {k : Nat} {Z : L2.St → Hp → Prop} (e : σ.set k (some v) = σ') (q : Z σ' H) : gName k v σ H Z := by
  subst e
  exact q
theorem i_ret {te : TE} (h : te σ H rt) : tRet te ⟨nx, rt, bk, ct⟩ σ H := h
theorem i_retN (h : rt .non H) : tRetN ⟨nx, rt, bk, ct⟩ σ H := h
theorem i_next (h : nx σ H) : tNext ⟨nx, rt, bk, ct⟩ σ H := h
theorem i_brk (h : bk σ H) : tBreak ⟨nx, rt, bk, ct⟩ σ H := h
theorem i_cnt (h : ct σ H) : tCont ⟨nx, rt, bk, ct⟩ σ H := h
theorem i_drop {te : TE} (h : te σ H fun _ H1 => nx σ H1) : tDrop te ⟨nx, rt, bk, ct⟩ σ H := h
theorem i_ifs {c : TT} {t u : TS} (h : c σ H fun b H1 => if b = true then t ⟨nx, rt, bk, ct⟩ σ H1 else u ⟨nx, rt, bk, ct⟩ σ H1) : tIfS c t u ⟨nx, rt, bk, ct⟩ σ H := h
theorem i_var {k : Nat} (h : σ[k]? = some (some v)) (q : Q v H) : tVar k σ H Q := ⟨v, h, q⟩
theorem i_c (q : Q v H) : tC v σ H Q := q
theorem i_op {r : R2} {ta tb : TE} (h : ta σ H fun x H1 => tb σ H1 fun y H2 => r x y H2 Q) : tOp r ta tb σ H Q := h
theorem i_un {r : V → Hp → VK → Prop} {ta : TE} (h : ta σ H fun x H1 => r x H1 Q) : tUn r ta σ H Q := h
theorem i_I0 {g : Int → Int → V} (q : Q (g i j) H) : rI0 g (.int i) (.int j) H Q := ⟨i, j, rfl, rfl, q⟩
theorem i_I {C : Int → Int → Prop} {g : Int → Int → V} (c : C i j) (q : Q (g i j) H) : rI C g (.int i) (.int j) H Q := ⟨i, j, rfl, rfl, c, q⟩
theorem i_pow {m : Int} (c : CPow i j) (e : i ^ j.toNat = m) (q : Q (.int m) H) : rI CPow (fun i j => .int (i ^ j.toNat)) (.int i) (.int j) H Q := ⟨i, j, rfl, rfl, c, by
  show Q (.int (i ^ j.toNat)) H
  rw [e]
  exact q⟩
theorem i_U {g : Int → V} (q : Q (g i) H) : rU g (.int i) H Q := ⟨i, rfl, q⟩
theorem i_eqI (q : Q (.bl (decide (i = j))) H) : rEq (.int i) (.int j) H Q := ⟨rfl, by
  have e : decide (V.int i = V.int j) = decide (i = j) := by
    by_cases h : i = j
    · rw [decide_eq_true h, decide_eq_true (congrArg V.int h)]
    · rw [decide_eq_false h, decide_eq_false fun z => h (V.int.inj z)]
  rw [e]
  exact q⟩
theorem i_neI (q : Q (.bl (!decide (i = j))) H) : rNe (.int i) (.int j) H Q := ⟨rfl, by
  have e : decide (V.int i = V.int j) = decide (i = j) := by
    by_cases h : i = j
    · rw [decide_eq_true h, decide_eq_true (congrArg V.int h)]
    · rw [decide_eq_false h, decide_eq_false fun z => h (V.int.inj z)]
  rw [e]
  exact q⟩
theorem i_eqB {c d : Bool} (q : Q (.bl (c == d)) H) : rEq (.bl c) (.bl d) H Q := ⟨rfl, by
  rw [dec_bl]
  exact q⟩
theorem i_neB {c d : Bool} (q : Q (.bl (!(c == d))) H) : rNe (.bl c) (.bl d) H Q := ⟨rfl, by
  rw [dec_bl]
  exact q⟩
theorem i_eqS {c d : Str} (q : Q (.bl (c == d)) H) : rEq (.str c) (.str d) H Q := ⟨rfl, by
  rw [dec_str]
  exact q⟩
theorem i_neS {c d : Str} (q : Q (.bl (!(c == d))) H) : rNe (.str c) (.str d) H Q := ⟨rfl, by
  rw [dec_str]
  exact q⟩
theorem i_test {te : TE} {P : Bool → Hp → Prop} (h : te σ H fun x H1 => ∃ k, x = .bl k ∧ P k H1) : tTest te σ H P := h
theorem i_B {te : TE} {P : Bool → Hp → Prop} (h : te σ H fun x H1 => ∃ k, x = .bl k ∧ P k H1) : tB te σ H P := h
theorem i_bl {b : Bool} {P : Bool → Prop} (q : P b) : ∃ k, V.bl b = .bl k ∧ P k := ⟨b, rfl, q⟩
theorem i_and {t u : TT} {P : Bool → Hp → Prop} (h : t σ H fun c H1 => if c = true then u σ H1 P else P false H1) : tAnd t u σ H P := h
theorem i_or {t u : TT} {P : Bool → Hp → Prop} (h : t σ H fun c H1 => if c = true then P true H1 else u σ H1 P) : tOr t u σ H P := h
theorem i_not {t : TT} {P : Bool → Hp → Prop} (h : t σ H fun c H1 => P (!c) H1) : tNot t σ H P := h
theorem i_andV {ta tb : TE} (h : ta σ H fun x H1 => ∃ c, x = .bl c ∧ if c = true then tb σ H1 Q else Q (.bl false) H1) : tAndV ta tb σ H Q := h
theorem i_orV {ta tb : TE} (h : ta σ H fun x H1 => ∃ c, x = .bl c ∧ if c = true then Q (.bl true) H1 else tb σ H1 Q) : tOrV ta tb σ H Q := h
theorem i_notV {ta : TE} (h : ta σ H fun x H1 => ∃ c, x = .bl c ∧ Q (.bl (!c)) H1) : tNotV ta σ H Q := h
theorem i_ife {t : TT} {ta tb : TE} (h : t σ H fun c H1 => if c = true then ta σ H1 Q else tb σ H1 Q) : tIf t ta tb σ H Q := h
theorem i_call {sp : Sp} {E : XK} {t : TA} (h : t σ H fun vs H1 => sp vs H1 Q E) : tCall sp [] E t σ H Q := by
  have e : (fun vs H1 => sp (vs ++ []) H1 Q E) = fun vs H1 => sp vs H1 Q E := by
    funext vs H1
    rw [List.append_nil]
  show t σ H (fun vs H1 => sp (vs ++ []) H1 Q E)
  rw [e]
  exact h
theorem i_cb {r : List V → Hp → VK → Prop} {t : TA} (h : t σ H fun vs H1 => r vs H1 Q) : tCB r t σ H Q := h
theorem i_nil {P : List V → Hp → Prop} (q : P [] H) : tNil σ H P := q
theorem i_cons {ta : TE} {tr : TA} {P : List V → Hp → Prop} (h : ta σ H fun x H1 => tr σ H1 fun xs H2 => P (x :: xs) H2) : tCons ta tr σ H P := h
theorem i_tup {t : TA} (h : t σ H fun xs H1 => xs.length ≤ sizeLine ∧ ∀ p, H1 p = none → Q (.ref p) (upd H1 p (.tup xs))) : tTup t σ H Q := h
theorem i_lst {t : TA} (h : t σ H fun xs H1 => xs.length ≤ sizeLine ∧ ∀ p, H1 p = none → Q (.ref p) (upd H1 p (.lst xs))) : tLst t σ H Q := h
theorem i_new {R : Addr → Prop} (hz : xs.length ≤ sizeLine) (q : ∀ p, H p = none → R p) : xs.length ≤ sizeLine ∧ ∀ p, H p = none → R p := ⟨hz, q⟩
theorem i_ixL (h : SqL K H p xs) (e : atI xs i = some v) (q : Q v H) : rIxL K (.ref p) (.int i) H Q := ⟨p, xs, i, v, rfl, rfl, h, e, q⟩
theorem i_ixT (h : SqT K H p xs) (e : atI xs i = some v) (q : Q v H) : rIxT K (.ref p) (.int i) H Q := ⟨p, xs, i, v, rfl, rfl, h, e, q⟩
theorem at_lt {α : Type} {xs : List α} {i : Int} (h0 : 0 ≤ i) (h1 : i < xs.length) : ∃ v, atI xs i = some v ∧ xs[i.toNat]? = some v := by
  have hk : i.toNat < xs.length := by omega
  refine ⟨xs[i.toNat], ?_, List.getElem?_eq_getElem hk⟩
  have e := atI_nat (xs := xs) (j := i.toNat) (v := xs[i.toNat]) (List.getElem?_eq_getElem hk)
  rw [Int.toNat_of_nonneg h0] at e
  exact e
/-- an item at an open place: one of those written -/
theorem i_ix2 {y1 y2 : V} (h : SqL K H p [y1, y2]) (h0 : 0 ≤ i) (h1 : i < 2) (q : ∀ v, v = y1 ∨ v = y2 → Q v H) : rIxL K (.ref p) (.int i) H Q := by
  rcases (by omega : i = 0 ∨ i = 1) with e | e <;> subst e
  · exact ⟨p, _, _, y1, rfl, rfl, h, rfl, q _ (.inl rfl)⟩
  · exact ⟨p, _, _, y2, rfl, rfl, h, rfl, q _ (.inr rfl)⟩
theorem i_ix2I {y1 y2 : Int} (h : SqL K H p [.int y1, .int y2]) (h0 : 0 ≤ i) (h1 : i < 2) (q : ∀ v, v = y1 ∨ v = y2 → Q (.int v) H) : rIxL K (.ref p) (.int i) H Q := by
  rcases (by omega : i = 0 ∨ i = 1) with e | e <;> subst e
  · exact ⟨p, _, _, .int y1, rfl, rfl, h, rfl, q _ (.inl rfl)⟩
  · exact ⟨p, _, _, .int y2, rfl, rfl, h, rfl, q _ (.inr rfl)⟩
theorem i_ix3I {y1 y2 y3 : Int} (h : SqL K H p [.int y1, .int y2, .int y3]) (h0 : 0 ≤ i) (h1 : i < 3) (q : ∀ v, v = y1 ∨ v = y2 ∨ v = y3 → Q (.int v) H) : rIxL K (.ref p) (.int i) H Q := by
  rcases (by omega : i = 0 ∨ i = 1 ∨ i = 2) with e | e | e <;> subst e
  · exact ⟨p, _, _, .int y1, rfl, rfl, h, rfl, q _ (.inl rfl)⟩
  · exact ⟨p, _, _, .int y2, rfl, rfl, h, rfl, q _ (.inr (.inl rfl))⟩
  · exact ⟨p, _, _, .int y3, rfl, rfl, h, rfl, q _ (.inr (.inr rfl))⟩
theorem i_ix4I {y1 y2 y3 y4 : Int} (h : SqL K H p [.int y1, .int y2, .int y3, .int y4]) (h0 : 0 ≤ i) (h1 : i < 4) (q : ∀ v, v = y1 ∨ v = y2 ∨ v = y3 ∨ v = y4 → Q (.int v) H) : rIxL K (.ref p) (.int i) H Q := by
  rcases (by omega : i = 0 ∨ i = 1 ∨ i = 2 ∨ i = 3) with e | e | e | e <;> subst e
  · exact ⟨p, _, _, .int y1, rfl, rfl, h, rfl, q _ (.inl rfl)⟩
  · exact ⟨p, _, _, .int y2, rfl, rfl, h, rfl, q _ (.inr (.inl rfl))⟩
  · exact ⟨p, _, _, .int y3, rfl, rfl, h, rfl, q _ (.inr (.inr (.inl rfl)))⟩
  · exact ⟨p, _, _, .int y4, rfl, rfl, h, rfl, q _ (.inr (.inr (.inr rfl)))⟩
theorem i_ix3R {y1 y2 y3 : Addr} (h : SqL K H p [.ref y1, .ref y2, .ref y3]) (h0 : 0 ≤ i) (h1 : i < 3) (q : ∀ v, v = y1 ∨ v = y2 ∨ v = y3 → Q (.ref v) H) : rIxL K (.ref p) (.int i) H Q := by
  rcases (by omega : i = 0 ∨ i = 1 ∨ i = 2) with e | e | e <;> subst e
  · exact ⟨p, _, _, .ref y1, rfl, rfl, h, rfl, q _ (.inl rfl)⟩
  · exact ⟨p, _, _, .ref y2, rfl, rfl, h, rfl, q _ (.inr (.inl rfl))⟩
  · exact ⟨p, _, _, .ref y3, rfl, rfl, h, rfl, q _ (.inr (.inr rfl))⟩
theorem i_ix4R {y1 y2 y3 y4 : Addr} (h : SqL K H p [.ref y1, .ref y2, .ref y3, .ref y4]) (h0 : 0 ≤ i) (h1 : i < 4) (q : ∀ v, v = y1 ∨ v = y2 ∨ v = y3 ∨ v = y4 → Q (.ref v) H) : rIxL K (.ref p) (.int i) H Q := by
  rcases (by omega : i = 0 ∨ i = 1 ∨ i = 2 ∨ i = 3) with e | e | e | e <;> subst e
  · exact ⟨p, _, _, .ref y1, rfl, rfl, h, rfl, q _ (.inl rfl)⟩
  · exact ⟨p, _, _, .ref y2, rfl, rfl, h, rfl, q _ (.inr (.inl rfl))⟩
  · exact ⟨p, _, _, .ref y3, rfl, rfl, h, rfl, q _ (.inr (.inr (.inl rfl)))⟩
  · exact ⟨p, _, _, .ref y4, rfl, rfl, h, rfl, q _ (.inr (.inr (.inr rfl)))⟩
theorem i_gtup {m : Nat} {t : TGs} {Z : L2.St → Hp → Prop} (h : SqT K H p xs) (e : xs.length = m) (q : t xs σ H Z) : gTup K m t (.ref p) σ H Z := ⟨p, xs, rfl, h, e, q⟩
theorem i_gtupL {m : Nat} {t : TGs} {Z : L2.St → Hp → Prop} (h : SqT K H p xs) (e : xs.length = m) (q : t xs σ H Z) : gTup K m t (.ref p) σ H Z := ⟨p, xs, rfl, h, e, q⟩
theorem i_gcons {t : TG} {u : TGs} {r : List V} {Z : L2.St → Hp → Prop} (h : t v σ H fun σ1 H1 => u r σ1 H1 Z) : gCons t u (v :: r) σ H Z := ⟨v, r, rfl, h⟩
theorem i_gnil {Z : L2.St → Hp → Prop} (h : Z σ H) : gNil [] σ H Z := ⟨rfl, h⟩
theorem i_gsub {to ti : TE} {t : TSet} {Z : L2.St → Hp → Prop} (h : to σ H fun o H1 => ti σ H1 fun i H2 => t o i v H2 fun H3 => Z σ H3) : gSub to ti t v σ H Z := h
theorem i_setL {k : Nat} {Z : Hp → Prop} (h : H p = some (.lst xs)) (e : ixN xs.length i = some k) (q : Z (upd H p (.lst (xs.set k v)))) : rSetL (.ref p) (.int i) v H Z := ⟨p, xs, i, k, rfl, rfl, h, e, q⟩
def par2 (k1 k2 : Nat) (σ : L2.St) (Z : L2.St → Hp → Prop) : List V → Hp → Prop := fun vs H1 => ∃ v w, vs = [v, w] ∧ Z ((σ.set k1 (some v)).set k2 (some w)) H1
theorem i_par {k1 k2 : Nat} {ta : TA} (h : ta σ H (par2 k1 k2 σ nx)) : tPar k1 k2 ta ⟨nx, rt, bk, ct⟩ σ H := h
theorem i_par2 {k1 k2 : Nat} {w : V} {Z : L2.St → Hp → Prop} (e : (σ.set k1 (some v)).set k2 (some w) = σ') (q : Z σ' H) : par2 k1 k2 σ Z [v, w] H := by
  subst e
  exact ⟨v, w, rfl, q⟩
theorem i_aug {k : Nat} {te : TE} {ti : TIp} (h : σ[k]? = some (some x)) (q : te σ H fun y H1 => ti x y H1 fun z H2 => gName k z σ H2 nx) : tAug k te ti ⟨nx, rt, bk, ct⟩ σ H := ⟨x, h, q⟩
theorem i_ip {f : Int → Int → Int} (q : Q (.int (f i j)) H) : ipI f (.int i) (.int j) H Q := ⟨i, j, rfl, rfl, q⟩
theorem i_for {wi : TI} {g : TG} {tb : TS} (h : wi σ H fun J H1 => ∃ W : Nat → Nat → L2.St → Hp → Prop, (∃ m, W 0 m σ H1) ∧ ∀ i m σ H, W i m σ H →
  (J.stop i H ∧ nx σ H) ∨ (J.go i H ∧ ∃ N : L2.St → Hp → Prop, (∀ σ' H', N σ' H' → ∃ m', m' < m ∧ W (i + 1) m' σ' H') ∧ ∀ x H', J.yld i H x H' → g x σ H' fun σ2 H2 => tb ⟨N, rt, nx, N⟩ σ2 H2)) : tFor wi g tb ⟨nx, rt, bk, ct⟩ σ H := h
theorem i_rng1 {ta : TA} {R : It → Hp → Prop} (h : ta σ H fun vs H1 => ∃ j : Int, vs = [.int j] ∧ -(2 ^ 62) ≤ j ∧ j < 2 ^ 62 ∧ R (Itr 0 j.toNat) H1) : iRng1 ta σ H R := h
theorem i_rng1' {R : Int → Prop} (h1 : -(2 ^ 62) ≤ j) (h2 : j < 2 ^ 62) (q : R j) : ∃ j' : Int, [V.int j] = [.int j'] ∧ -(2 ^ 62) ≤ j' ∧ j' < 2 ^ 62 ∧ R j' := ⟨j, rfl, h1, h2, q⟩
theorem i_rng2 {ta : TA} {R : It → Hp → Prop} (h : ta σ H fun vs H1 => ∃ i j : Int, vs = [.int i, .int j] ∧ (-(2 ^ 62) ≤ i ∧ i < 2 ^ 62 ∧ -(2 ^ 62) ≤ j ∧ j < 2 ^ 62) ∧ R (Itr i (j - i).toNat) H1) : iRng2 ta σ H R := h
theorem i_rng2' {R : Int → Int → Prop} (h : -(2 ^ 62) ≤ i ∧ i < 2 ^ 62 ∧ -(2 ^ 62) ≤ j ∧ j < 2 ^ 62) (q : R i j) : ∃ i' j' : Int, [V.int i, V.int j] = [.int i', .int j'] ∧ (-(2 ^ 62) ≤ i' ∧ i' < 2 ^ 62 ∧ -(2 ^ 62) ≤ j' ∧ j' < 2 ^ 62) ∧ R i' j' := ⟨i, j, rfl, h, q⟩
theorem i_ilist {tl : TE} {R : It → Hp → Prop} (h : tl σ H fun x H1 => ∃ a, x = .ref a ∧ (∃ xs, SqL K H1 a xs) ∧ R (Itl K a) H1) : iList K tl σ H R := h
theorem i_ilist' {R : Addr → Prop} (h : SqL K H p xs) (q : R p) : ∃ a, V.ref p = .ref a ∧ (∃ xs, SqL K H a xs) ∧ R a := ⟨p, rfl, ⟨xs, h⟩, q⟩
theorem i_itup {tl : TE} {R : It → Hp → Prop} (h : tl σ H fun x H1 => ∃ a, x = .ref a ∧ (∃ xs, SqT K H1 a xs) ∧ R (Itt K a) H1) : iTup K tl σ H R := h
theorem i_itup' {R : Addr → Prop} (h : SqT K H p xs) (q : R p) : ∃ a, V.ref p = .ref a ∧ (∃ xs, SqT K H a xs) ∧ R a := ⟨p, rfl, ⟨xs, h⟩, q⟩
/-- built-ins by values -/
theorem i_abs {R : Int → Prop} (q : R i) : ∃ i', [V.int i] = [.int i'] ∧ R i' := ⟨i, rfl, q⟩
theorem i_int2 {R : Int → Int → Prop} (q : R i j) : ∃ i' j', [V.int i, V.int j] = [.int i', .int j'] ∧ R i' j' := ⟨i, j, rfl, q⟩

theorem i_int1 {R : Int → Prop} {S : Prop} (q : R i) : (∃ i', [V.int i] = [.int i'] ∧ R i') ∨ S := .inl ⟨i, rfl, q⟩
theorem i_intb {b : Bool} {R : Bool → Prop} {S : Prop} (q : R b) : S ∨ ∃ k, [V.bl b] = [.bl k] ∧ R k := .inr ⟨b, rfl, q⟩
theorem i_lenL {R : List V → Prop} (h : SqL K H p xs) (q : R xs) : ∃ p' ys, [V.ref p] = [.ref p'] ∧ (SqL K H p' ys ∨ SqT K H p' ys) ∧ R ys := ⟨p, xs, rfl, .inl h, q⟩
theorem i_lenT {R : List V → Prop} (h : SqT K H p xs) (q : R xs) : ∃ p' ys, [V.ref p] = [.ref p'] ∧ (SqL K H p' ys ∨ SqT K H p' ys) ∧ R ys := ⟨p, xs, rfl, .inr h, q⟩
theorem i_isi {t : String} {c : String} {b : Bool} (ty : TyX K H x (.type t)) (h : kitB t c = some b) (q : Q (.bl b) H) : rIsi K [x, .ty c] H Q := ⟨x, .ty c, .type t, .type c, b, rfl, .ty c, ty, kit_ty h, q⟩
theorem i_append (h : H p = some (.lst xs)) (hz : xs.length < sizeLine) (q : Q .non (upd H p (.lst (xs ++ [v])))) : rAppend (.ref p) [v] H Q := ⟨p, xs, v, rfl, rfl, h, hz, q⟩
theorem i_bm {T : String} {r : V → List V → Hp → VK → Prop} {to : TE} {t : TA} (h : to σ H fun x H1 => tyV K T x H1 ∧ t σ H1 fun xs H2 => r x xs H2 Q) : tBM K T r to t σ H Q := h
theorem i_bmL {A : Prop} (h : SqL K H p xs) (q : A) : tyV K "list" (.ref p) H ∧ A := ⟨.inl ⟨rfl, _, h⟩, q⟩
/-! ### ifs -/
theorem ite_d {p A B : Prop} {d : Decidable p} (h1 : p → A) (h2 : ¬ p → B) : if (@decide p d) = true then A else B := by
  by_cases h : p
  · rw [if_pos (decide_eq_true h)]
    exact h1 h
  · rw [if_neg (by rw [decide_eq_false h]; decide)]
    exact h2 h
theorem ite_nd {p A B : Prop} {d : Decidable p} (h1 : ¬ p → A) (h2 : p → B) : if (!(@decide p d)) = true then A else B := by
  by_cases h : p
  · rw [if_neg (by rw [decide_eq_true h]; decide)]
    exact h2 h
  · rw [if_pos (by rw [decide_eq_false h]; decide)]
    exact h1 h
theorem ite_b {b : Bool} {A B : Prop} (h1 : b = true → A) (h2 : b = false → B) : if b = true then A else B := by
  cases b
  · rw [if_neg (by decide)]
    exact h2 rfl
  · rw [if_pos rfl]
    exact h1 rfl
theorem ite_y {b : Bool} {A B : Prop} (e : b = true) (h : A) : if b = true then A else B := by
  rw [if_pos e]
  exact h
theorem ite_n {b : Bool} {A B : Prop} (e : b = false) (h : B) : if b = true then A else B := by
  rw [if_neg (by rw [e]; decide)]
  exact h
/-- both ways at once: what follows is asked of either -/
theorem ite_or {b : Bool} {R : Prop} {P : Bool → Prop} (h1 : b = true → P true → R) (h2 : b = false → P false → R) (hp : P b) : R := by
  cases b
  · exact h2 rfl hp
  · exact h1 rfl hp
end
end Hf
namespace Hf
open PySem PySem.Spec PyProof.Rows L2
theorem set_z {α : Type} {x y : α} {r : List α} : List.set (x :: r) 0 y = y :: r := rfl
theorem set_s {α : Type} {x y : α} {r r' : List α} {k : Nat} (h : List.set r k y = r') : List.set (x :: r) (k + 1) y = x :: r' := by
  rw [List.set_cons_succ, h]
theorem set_par {α : Type} {l l1 l2 : List α} {j k : Nat} {y z : α} (h1 : l.set j y = l1) (h2 : l1.set k z = l2) : (l.set j y).set k z = l2 := by
  rw [h1, h2]
theorem lk_same {H H' : Hp} {a : Addr} {o : HO} (e : Same H H') (h : H a = some o) : H' a = some o := e a o h
theorem lk_but {H H' : Hp} {a b : Addr} {o : HO} (e : But a H H') (n : b ≠ a) (h : H b = some o) : H' b = some o := e b o n h
end Hf

namespace Hf
open PySem PySem.Spec PyProof.Rows L2
/-! ### loops -/
section
variable {σ : L2.St} {H : Hp} {Q : VK} {nx bk ct : L2.St → Hp → Prop} {rt : VK} {K : PySem.W.Frag} {a : Addr} {xs : List V} {g : TG} {tb : TS} {lo : Int} {n : Nat}
theorem forR (Pv : Nat → L2.St → Hp → Prop) (h0 : Pv 0 σ H) (hd : ∀ σ H, Pv n σ H → nx σ H)
    (hs : ∀ (i : Nat) σ H, i < n → Pv i σ H → g (.int (lo + i)) σ H fun σ2 H2 => tb ⟨Pv (i + 1), rt, nx, Pv (i + 1)⟩ σ2 H2) :
    ∃ W : Nat → Nat → L2.St → Hp → Prop, (∃ m, W 0 m σ H) ∧ ∀ i m σ H, W i m σ H →
      ((Itr lo n).stop i H ∧ nx σ H) ∨ ((Itr lo n).go i H ∧ ∃ N : L2.St → Hp → Prop, (∀ σ' H', N σ' H' → ∃ m', m' < m ∧ W (i + 1) m' σ' H') ∧ ∀ x H', (Itr lo n).yld i H x H' → g x σ H' fun σ2 H2 => tb ⟨N, rt, nx, N⟩ σ2 H2) :=
  for_range (D := ⟨nx, rt, fun _ _ => False, fun _ _ => False⟩) Pv h0 hs hd
theorem forL (Pv : Nat → L2.St → Hp → Prop) (h0 : Pv 0 σ H) (hl : ∀ i σ H, i ≤ xs.length → Pv i σ H → SqL K H a xs) (hd : ∀ σ H, Pv xs.length σ H → nx σ H)
    (hs : ∀ i x σ H, xs[i]? = some x → Pv i σ H → g x σ H fun σ2 H2 => tb ⟨Pv (i + 1), rt, nx, Pv (i + 1)⟩ σ2 H2) :
    ∃ W : Nat → Nat → L2.St → Hp → Prop, (∃ m, W 0 m σ H) ∧ ∀ i m σ H, W i m σ H →
      ((Itl K a).stop i H ∧ nx σ H) ∨ ((Itl K a).go i H ∧ ∃ N : L2.St → Hp → Prop, (∀ σ' H', N σ' H' → ∃ m', m' < m ∧ W (i + 1) m' σ' H') ∧ ∀ x H', (Itl K a).yld i H x H' → g x σ H' fun σ2 H2 => tb ⟨N, rt, nx, N⟩ σ2 H2) :=
  for_list (D := ⟨nx, rt, fun _ _ => False, fun _ _ => False⟩) Pv h0 hl hs hd
theorem forT (Pv : Nat → L2.St → Hp → Prop) (h0 : Pv 0 σ H) (hl : ∀ i σ H, i ≤ xs.length → Pv i σ H → SqT K H a xs) (hd : ∀ σ H, Pv xs.length σ H → nx σ H)
    (hs : ∀ i x σ H, xs[i]? = some x → Pv i σ H → g x σ H fun σ2 H2 => tb ⟨Pv (i + 1), rt, nx, Pv (i + 1)⟩ σ2 H2) :
    ∃ W : Nat → Nat → L2.St → Hp → Prop, (∃ m, W 0 m σ H) ∧ ∀ i m σ H, W i m σ H →
      ((Itt K a).stop i H ∧ nx σ H) ∨ ((Itt K a).go i H ∧ ∃ N : L2.St → Hp → Prop, (∀ σ' H', N σ' H' → ∃ m', m' < m ∧ W (i + 1) m' σ' H') ∧ ∀ x H', (Itt K a).yld i H x H' → g x σ H' fun σ2 H2 => tb ⟨N, rt, nx, N⟩ σ2 H2) :=
  for_tup (D := ⟨nx, rt, fun _ _ => False, fun _ _ => False⟩) Pv h0 hl hs hd
/-- while: W by a measure; the test is read by hand, its two ways by turnW and the loop's end -/
theorem whileW {c : TT} (W : Nat → L2.St → Hp → Prop) (m : Nat) (h0 : W m σ H)
    (hs : ∀ m σ H, W m σ H → c σ H fun b H1 => if b = true then ∃ N : L2.St → Hp → Prop, (∀ σ' H', N σ' H' → ∃ m', m' < m ∧ W m' σ' H') ∧ tb ⟨N, rt, nx, N⟩ σ H1 else nx σ H1) : tWhile c tb ⟨nx, rt, bk, ct⟩ σ H :=
  ⟨W, ⟨m, h0⟩, hs⟩
theorem turnW {W : Nat → L2.St → Hp → Prop} {m : Nat} (h : tb ⟨fun σ' H' => ∃ m', m' < m ∧ W m' σ' H', rt, nx, fun σ' H' => ∃ m', m' < m ∧ W m' σ' H'⟩ σ H) :
    ∃ N : L2.St → Hp → Prop, (∀ σ' H', N σ' H' → ∃ m', m' < m ∧ W m' σ' H') ∧ tb ⟨N, rt, nx, N⟩ σ H := ⟨_, fun _ _ h => h, h⟩
end
theorem But.free {a p : Addr} {o : HO} {H H' : Hp} (hn : H' p = none) (e : But a H H') (ha : H' a = some o) : H p = none := by
  cases h : H p with
  | none => rfl
  | some u =>
    by_cases hp : p = a
    · rw [hp, ha] at hn
      cases hn
    · rw [e p u hp h] at hn
      cases hn
theorem Same.free' {p : Addr} {H H' : Hp} (hn : H' p = none) (e : Same H H') : H p = none := e.free hn
theorem But.newT {a p : Addr} {H H1 : Hp} {o : HO} (hp : H1 p = none) (x : But a H H1) : But a H (L2.upd H1 p o) := But.new x hp
theorem But.transT {a : Addr} {H H1 H2 : Hp} (y : But a H1 H2) (x : But a H H1) : But a H H2 := But.trans x y
theorem Same.transT {H H1 H2 : Hp} (y : Same H1 H2) (x : Same H H1) : Same H H2 := x.trans y
theorem Same.newT' {H H1 : Hp} {p : Addr} {o : HO} (hp : H1 p = none) (x : Same H H1) : Same H (upd H1 p o) := Same.newT x hp
theorem But.transS {a : Addr} {H H1 H2 : Hp} (y : Same H1 H2) (x : But a H H1) : But a H H2 := fun b o n h => y b o (x b o n h)
theorem Same.butT {H0 H H1 : Hp} {p : Addr} (x : But p H H1) (hp : H0 p = none) (e : Same H0 H) : Same H0 H1 := Same.but e hp x
/-! ### slices, sums of lists -/
theorem six_nn {n d : Nat} {k : Int} (h : 0 ≤ k) : HT.sIx n d (some k) = min k.toNat n := by
  obtain ⟨m, rfl⟩ := Int.eq_ofNat_of_zero_le h
  exact HT.sIx_nat n d m
theorem cut_to {xs : List V} {k : Int} (h : 0 ≤ k) : cutV xs none (some k) = xs.take k.toNat := by
  unfold cutV
  rw [six_nn h, HT.sIx_none, List.drop_zero, Nat.sub_zero]
  exact List.take_eq_take_iff.mpr (by omega)
theorem cut_from {xs : List V} {k : Int} (h : 0 ≤ k) : cutV xs (some k) none = xs.drop k.toNat := by
  unfold cutV
  rw [six_nn h, HT.sIx_none, List.take_of_length_le (by rw [List.length_drop]; omega)]
  by_cases c : k.toNat ≤ xs.length
  · rw [Nat.min_eq_left c]
  · rw [Nat.min_eq_right (show xs.length ≤ k.toNat by omega), List.drop_length, List.drop_eq_nil_of_le (show xs.length ≤ k.toNat by omega)]
theorem cut_mid {xs : List V} {j k : Int} (h : 0 ≤ j) (h' : 0 ≤ k) : cutV xs (some j) (some k) = (xs.drop j.toNat).take (k.toNat - j.toNat) := by
  unfold cutV
  rw [six_nn h, six_nn h']
  by_cases c : j.toNat ≤ xs.length
  · rw [Nat.min_eq_left c]
    refine List.take_eq_take_iff.mpr ?_
    rw [List.length_drop]
    omega
  · rw [Nat.min_eq_right (show xs.length ≤ j.toNat by omega), List.drop_length, List.drop_eq_nil_of_le (show xs.length ≤ j.toNat by omega), List.take_nil, List.take_nil]
section
variable {H : Hp} {Q : VK} {K : PySem.W.Frag} {p r : Addr} {xs ys : List V} {j k : Int} {lo hi : Option Int} {σ : L2.St}
theorem i_slTo (h : SqL K H p xs) (h0 : 0 ≤ k) (q : ∀ p', H p' = none → Q (.ref p') (upd H p' (.lst (xs.take k.toNat)))) : rSlL K (.ref p) none (some k) H Q := ⟨p, xs, rfl, h, by rw [cut_to h0]; exact q⟩
theorem i_slFrom (h : SqL K H p xs) (h0 : 0 ≤ k) (q : ∀ p', H p' = none → Q (.ref p') (upd H p' (.lst (xs.drop k.toNat)))) : rSlL K (.ref p) (some k) none H Q := ⟨p, xs, rfl, h, by rw [cut_from h0]; exact q⟩
theorem i_slMid (h : SqL K H p xs) (h0 : 0 ≤ j) (h1 : 0 ≤ k) (q : ∀ p', H p' = none → Q (.ref p') (upd H p' (.lst ((xs.drop j.toNat).take (k.toNat - j.toNat))))) : rSlL K (.ref p) (some j) (some k) H Q := ⟨p, xs, rfl, h, by rw [cut_mid h0 h1]; exact q⟩
theorem i_sl {R : V → Option Int → Option Int → Hp → VK → Prop} {te : TE} {tl th : TO} (h : te σ H fun x H1 => tl σ H1 fun l H2 => th σ H2 fun u H3 => R x l u H3 Q) : tSl R te tl th σ H Q := h
theorem i_nopart {P : Option Int → Hp → Prop} (q : P none H) : tNoPart σ H P := q
theorem i_part {te : TE} {P : Option Int → Hp → Prop} (h : te σ H fun x H1 => ∃ i, x = .int i ∧ P (some i) H1) : tPart te σ H P := h
theorem i_exint {i : Int} {R : Int → Prop} (q : R i) : ∃ i', V.int i = .int i' ∧ R i' := ⟨i, rfl, q⟩
theorem i_cat (h1 : H p = some (.lst xs)) (h2 : H r = some (.lst ys)) (hz : xs.length + ys.length ≤ sizeLine) (q : ∀ p', H p' = none → Q (.ref p') (upd H p' (.lst (xs ++ ys)))) : rCat (.ref p) (.ref r) H Q := ⟨p, r, xs, ys, rfl, rfl, h1, h2, hz, q⟩
theorem i_rep (h1 : H p = some (.lst xs)) (h2 : -(2 ^ 63) ≤ k ∧ k < 2 ^ 63) (hz : xs.length * k.toNat ≤ sizeLine) (q : ∀ p', H p' = none → Q (.ref p') (upd H p' (.lst (List.replicate k.toNat xs).flatten))) : rRep (.ref p) (.int k) H Q := ⟨p, k, xs, rfl, rfl, h1, h2.1, h2.2, hz, q⟩
theorem flat1 {α : Type} {x : α} : ∀ n : Nat, (List.replicate n [x]).flatten = List.replicate n x
  | 0 => rfl
  | n + 1 => by
    rw [List.replicate_succ, List.flatten_cons, flat1 n, List.replicate_succ]
    rfl
theorem i_rep1 {x : V} (h1 : H p = some (.lst [x])) (h2 : 0 ≤ k ∧ k ≤ 1000000) (q : ∀ p', H p' = none → Q (.ref p') (upd H p' (.lst (List.replicate k.toNat x)))) : rRep (.ref p) (.int k) H Q :=
  i_rep h1 (by omega) (sz4 (by show 1 * k.toNat ≤ 1000000; omega)) (by rw [flat1]; exact q)
end
/-- an if whose two ways meet: what holds behind it -/
theorem if_join {σ : L2.St} {H : Hp} {nx bk ct : L2.St → Hp → Prop} {rt : VK} {c : TT} {t u : TS} (P : L2.St → Hp → Prop) (h : ∀ nx' : L2.St → Hp → Prop, (∀ σ' H', P σ' H' → nx' σ' H') → tIfS c t u ⟨nx', rt, bk, ct⟩ σ H)
    (cont : ∀ σ' H', P σ' H' → nx σ' H') : tIfS c t u ⟨nx, rt, bk, ct⟩ σ H := h nx cont
/-- any statement, cut behind it -/
theorem st_join {σ : L2.St} {H : Hp} {nx bk ct : L2.St → Hp → Prop} {rt : VK} {t : TS} (P : L2.St → Hp → Prop) (h : ∀ nx' : L2.St → Hp → Prop, (∀ σ' H', P σ' H' → nx' σ' H') → t ⟨nx', rt, bk, ct⟩ σ H)
    (cont : ∀ σ' H', P σ' H' → nx σ' H') : t ⟨nx, rt, bk, ct⟩ σ H := h nx cont
theorem ints_at {ms : List Int} {i : Nat} {x : V} (h : (ms.map V.int)[i]? = some x) : ∃ z, x = .int z ∧ ms[i]? = some z := by
  rw [List.getElem?_map] at h
  cases e : ms[i]? with
  | none =>
    rw [e] at h
    cases h
  | some z =>
    rw [e] at h
    exact ⟨z, (Option.some.inj h).symm, rfl⟩
/-! ### equality of data -/
theorem i_eqT2 {K : PySem.W.Frag} {H : Hp} {Q : VK} {p r : Addr} {a b c d : Int} (h1 : SqT K H p [.int a, .int b]) (h2 : SqT K H r [.int c, .int d]) (q : Q (.bl (a == c && (b == d && true))) H) : rEqD K (.ref p) (.ref r) H Q :=
  ⟨.tuple [.int a, .int b], .tuple [.int c, .int d], .tup h1 (.cons (.int a) (.cons (.int b) .nil)), .tup h2 (.cons (.int c) (.cons (.int d) .nil)), rfl, rfl, by
    have e : PyData.eqv (.tuple [.int a, .int b]) (.tuple [.int c, .int d]) = (a == c && (b == d && true)) := by simp [PyData.eqv, PyData.eqvAll]
    rw [e]
    exact q⟩
end Hf
namespace K02
open PySem PySem.Spec PyProof.Rows L2 Hf
local macro_rules | `(tactic| walk_at "g_ne") => `(tactic| first | assumption | (apply Hf.ne_at; assumption) | ((with_reducible refine' Hf.ne_new ?n9 ?h9); (case n9 => assumption); (case h9 => walk_at "g_lk")) | ((with_reducible refine' Hf.ne_new' ?n9 ?h9); (case n9 => assumption); (case h9 => walk_at "g_lk")) | fail "g_ne")
local macro_rules | `(tactic| walk_at "g_lk") => `(tactic| first | (with_reducible assumption) | (with_reducible exact L2.upd_same) | ((with_reducible refine' Hf.lk_new ?n9 ?h9); (case n9 => assumption); (case h9 => walk_at "g_lk")) | ((with_reducible refine' Hf.lk_upd ?n9 ?h9); (case n9 => walk_at "g_ne"); (case h9 => walk_at "g_lk")) | ((with_reducible refine' Hf.lk_same ?n9 ?h9); (case n9 => assumption); (case h9 => walk_at "g_lk")) | ((with_reducible refine' Hf.lk_but ?m9 ?n9 ?h9); (case m9 => assumption); (case n9 => walk_at "g_ne"); (case h9 => walk_at "g_lk")) | fail "g_lk")
local macro_rules | `(tactic| walk_at "g_sq") => `(tactic| first | (with_reducible assumption) | (with_reducible exact L2.SqL.of L2.upd_same) | (with_reducible exact L2.SqT.of L2.upd_same) | (with_reducible exact L2.SqL.of (by assumption)) | (with_reducible exact L2.SqT.of (by assumption)) | ((with_reducible refine' Hf.lkL_new ?n9 ?h9); (case n9 => assumption); (case h9 => walk_at "g_sq")) | ((with_reducible refine' Hf.lkT_new ?n9 ?h9); (case n9 => assumption); (case h9 => walk_at "g_sq")) | ((with_reducible refine' Hf.lkL_upd ?n9 ?h9); (case n9 => walk_at "g_ne"); (case h9 => walk_at "g_sq")) | ((with_reducible refine' Hf.lkT_upd ?n9 ?h9); (case n9 => walk_at "g_ne"); (case h9 => walk_at "g_sq")) | ((with_reducible refine' L2.Same.seq ?n9 ?h9); (case n9 => assumption); (case h9 => walk_at "g_sq")) | ((with_reducible refine' Hf.Same.seqT ?n9 ?h9); (case n9 => assumption); (case h9 => walk_at "g_sq")) | ((with_reducible refine' Hf.But.seq ?m9 ?n9 ?h9); (case m9 => assumption); (case n9 => walk_at "g_ne"); (case h9 => walk_at "g_sq")) | ((with_reducible refine' Hf.But.seqT ?m9 ?n9 ?h9); (case m9 => assumption); (case n9 => walk_at "g_ne"); (case h9 => walk_at "g_sq")) | fail "g_sq")
local macro_rules | `(tactic| walk_at "g_but") => `(tactic| first | exact Hf.But.refl _ _ | assumption | (refine Hf.But.newT (by assumption) ?_; walk_at "g_but") | (refine Hf.But.upd ?_; walk_at "g_but") | (refine Hf.But.transT (by assumption) ?_; walk_at "g_but") | (refine Hf.But.transS (by assumption) ?_; walk_at "g_but") | fail "g_but")
local macro_rules | `(tactic| walk_at "g_same") => `(tactic| first | exact L2.Same.refl _ | assumption | (refine Hf.Same.newT' (by assumption) ?_; walk_at "g_same") | (refine Hf.Same.mut ?_ (by walk_at "g_free"); walk_at "g_same") | (refine Hf.Same.butT (by assumption) (by walk_at "g_free") ?_; walk_at "g_same") | (refine Hf.Same.transT (by assumption) ?_; walk_at "g_same") | fail "g_same")
local macro_rules | `(tactic| walk_at "g_free") => `(tactic| first | assumption | ((refine' Hf.Same.free' (by assumption) ?h7); (case h7 => walk_at "g_same")) | ((refine' Hf.But.free (by assumption) ?h7 ?h8); (case h7 => walk_at "g_but"); (case h8 => walk_at "g_lk")) | fail "g_free")
local macro_rules | `(tactic| walk_at "g_set") => `(tactic| first | exact Hf.set_z | exact (Hf.set_s Hf.set_z) | exact (Hf.set_s (Hf.set_s Hf.set_z)) | exact (Hf.set_s (Hf.set_s (Hf.set_s Hf.set_z))) | exact (Hf.set_s (Hf.set_s (Hf.set_s (Hf.set_s Hf.set_z)))) | exact (Hf.set_s (Hf.set_s (Hf.set_s (Hf.set_s (Hf.set_s Hf.set_z))))) | exact (Hf.set_s (Hf.set_s (Hf.set_s (Hf.set_s (Hf.set_s (Hf.set_s Hf.set_z)))))) | exact (Hf.set_s (Hf.set_s (Hf.set_s (Hf.set_s (Hf.set_s (Hf.set_s (Hf.set_s Hf.set_z))))))) | exact (Hf.set_s (Hf.set_s (Hf.set_s (Hf.set_s (Hf.set_s (Hf.set_s (Hf.set_s (Hf.set_s Hf.set_z)))))))) | exact (Hf.set_s (Hf.set_s (Hf.set_s (Hf.set_s (Hf.set_s (Hf.set_s (Hf.set_s (Hf.set_s (Hf.set_s Hf.set_z))))))))) | exact (Hf.set_s (Hf.set_s (Hf.set_s (Hf.set_s (Hf.set_s (Hf.set_s (Hf.set_s (Hf.set_s (Hf.set_s (Hf.set_s Hf.set_z)))))))))) | exact (Hf.set_s (Hf.set_s (Hf.set_s (Hf.set_s (Hf.set_s (Hf.set_s (Hf.set_s (Hf.set_s (Hf.set_s (Hf.set_s (Hf.set_s Hf.set_z))))))))))) | exact (Hf.set_s (Hf.set_s (Hf.set_s (Hf.set_s (Hf.set_s (Hf.set_s (Hf.set_s (Hf.set_s (Hf.set_s (Hf.set_s (Hf.set_s (Hf.set_s Hf.set_z)))))))))))) | exact (Hf.set_s (Hf.set_s (Hf.set_s (Hf.set_s (Hf.set_s (Hf.set_s (Hf.set_s (Hf.set_s (Hf.set_s (Hf.set_s (Hf.set_s (Hf.set_s (Hf.set_s Hf.set_z))))))))))))) | exact (Hf.set_s (Hf.set_s (Hf.set_s (Hf.set_s (Hf.set_s (Hf.set_s (Hf.set_s (Hf.set_s (Hf.set_s (Hf.set_s (Hf.set_s (Hf.set_s (Hf.set_s (Hf.set_s Hf.set_z)))))))))))))) | exact (Hf.set_s (Hf.set_s (Hf.set_s (Hf.set_s (Hf.set_s (Hf.set_s (Hf.set_s (Hf.set_s (Hf.set_s (Hf.set_s (Hf.set_s (Hf.set_s (Hf.set_s (Hf.set_s (Hf.set_s Hf.set_z))))))))))))))) | exact (Hf.set_s (Hf.set_s (Hf.set_s (Hf.set_s (Hf.set_s (Hf.set_s (Hf.set_s (Hf.set_s (Hf.set_s (Hf.set_s (Hf.set_s (Hf.set_s (Hf.set_s (Hf.set_s (Hf.set_s (Hf.set_s Hf.set_z)))))))))))))))) | exact (Hf.set_s (Hf.set_s (Hf.set_s (Hf.set_s (Hf.set_s (Hf.set_s (Hf.set_s (Hf.set_s (Hf.set_s (Hf.set_s (Hf.set_s (Hf.set_s (Hf.set_s (Hf.set_s (Hf.set_s (Hf.set_s (Hf.set_s Hf.set_z))))))))))))))))) | exact (Hf.set_s (Hf.set_s (Hf.set_s (Hf.set_s (Hf.set_s (Hf.set_s (Hf.set_s (Hf.set_s (Hf.set_s (Hf.set_s (Hf.set_s (Hf.set_s (Hf.set_s (Hf.set_s (Hf.set_s (Hf.set_s (Hf.set_s (Hf.set_s Hf.set_z)))))))))))))))))) | exact (Hf.set_s (Hf.set_s (Hf.set_s (Hf.set_s (Hf.set_s (Hf.set_s (Hf.set_s (Hf.set_s (Hf.set_s (Hf.set_s (Hf.set_s (Hf.set_s (Hf.set_s (Hf.set_s (Hf.set_s (Hf.set_s (Hf.set_s (Hf.set_s (Hf.set_s Hf.set_z))))))))))))))))))) | exact (Hf.set_s (Hf.set_s (Hf.set_s (Hf.set_s (Hf.set_s (Hf.set_s (Hf.set_s (Hf.set_s (Hf.set_s (Hf.set_s (Hf.set_s (Hf.set_s (Hf.set_s (Hf.set_s (Hf.set_s (Hf.set_s (Hf.set_s (Hf.set_s (Hf.set_s (Hf.set_s Hf.set_z)))))))))))))))))))) | exact (Hf.set_s (Hf.set_s (Hf.set_s (Hf.set_s (Hf.set_s (Hf.set_s (Hf.set_s (Hf.set_s (Hf.set_s (Hf.set_s (Hf.set_s (Hf.set_s (Hf.set_s (Hf.set_s (Hf.set_s (Hf.set_s (Hf.set_s (Hf.set_s (Hf.set_s (Hf.set_s (Hf.set_s Hf.set_z))))))))))))))))))))) | exact (Hf.set_s (Hf.set_s (Hf.set_s (Hf.set_s (Hf.set_s (Hf.set_s (Hf.set_s (Hf.set_s (Hf.set_s (Hf.set_s (Hf.set_s (Hf.set_s (Hf.set_s (Hf.set_s (Hf.set_s (Hf.set_s (Hf.set_s (Hf.set_s (Hf.set_s (Hf.set_s (Hf.set_s (Hf.set_s Hf.set_z)))))))))))))))))))))) | exact (Hf.set_s (Hf.set_s (Hf.set_s (Hf.set_s (Hf.set_s (Hf.set_s (Hf.set_s (Hf.set_s (Hf.set_s (Hf.set_s (Hf.set_s (Hf.set_s (Hf.set_s (Hf.set_s (Hf.set_s (Hf.set_s (Hf.set_s (Hf.set_s (Hf.set_s (Hf.set_s (Hf.set_s (Hf.set_s (Hf.set_s Hf.set_z))))))))))))))))))))))) | fail "g_set")
local macro_rules | `(tactic| walk_at "g_sz") => `(tactic| first | exact Hf.sz4 (by decide) | exact Hf.sz4' (by decide) | (refine Hf.sz4 ?_; simp; done) | (refine Hf.sz4 ?_; simp; omega) | (refine Hf.sz4 ?_; simp only [List.length_cons, List.length_nil, List.length_take, List.length_drop, List.length_map, List.length_append, List.length_replicate]; omega) | (refine Hf.sz4' ?_; simp; omega) | fail "g_sz")
local macro_rules | `(tactic| walk_at "g_at") => `(tactic| first | rfl | assumption | fail "g_at")
local macro_rules | `(tactic| walk_at "g_c") => `(tactic| first | assumption | omega | decide | (refine Hf.mulL ?_; omega) | (refine Hf.mulR ?_; omega) | (refine Hf.divS ?_ ?_ <;> omega) | (refine ⟨?_, ?_, ?_⟩ <;> first | omega | decide) | (refine ⟨?_, ?_⟩ <;> first | assumption | omega) | fail "g_c")
local macro_rules | `(tactic| walk_at "g_ixn") => `(tactic| first | (show L2.ixN _ _ = some 0; rfl) | (show L2.ixN _ _ = some 1; rfl) | (show L2.ixN _ _ = some 2; rfl) | (show L2.ixN _ _ = some 3; rfl) | (show L2.ixN _ _ = some 4; rfl) | (show L2.ixN _ _ = some 5; rfl) | (show L2.ixN _ _ = some 6; rfl) | (show L2.ixN _ _ = some 7; rfl) | assumption | fail "g_ixn")
local macro_rules | `(tactic| walk_at "g_pow") => `(tactic| first | (show (10 : Int) ^ (9 : Int).toNat = 1000000000; rfl) | (show (10 : Int) ^ (18 : Int).toNat = 1000000000000000000; rfl) | (show (10 : Int) ^ (20 : Int).toNat = 100000000000000000000; rfl) | (show (10 : Int) ^ (29 : Int).toNat = 100000000000000000000000000000; rfl) | (show (10 : Int) ^ (26 : Int).toNat = 100000000000000000000000000; rfl) | (show (10 : Int) ^ (10 : Int).toNat = 10000000000; rfl) | (show (10 : Int) ^ (19 : Int).toNat = 10000000000000000000; rfl) | (show (10 : Int) ^ (27 : Int).toNat = 1000000000000000000000000000; rfl) | (show (10 : Int) ^ (28 : Int).toNat = 10000000000000000000000000000; rfl) | (show (10 : Int) ^ (25 : Int).toNat = 10000000000000000000000000; rfl) | (show (10 : Int) ^ (30 : Int).toNat = 1000000000000000000000000000000; rfl) | (show (10 : Int) ^ (2 : Int).toNat = 100; rfl) | (show (10 : Int) ^ (3 : Int).toNat = 1000; rfl) | fail "g_pow")
local macro_rules | `(tactic| walk_at "g_ty") => `(tactic| first | exact .base .non | exact .base (.bl _) | exact .base (.int _) | exact .base (.str _) | exact .base (.lst (by walk_at "g_lk")) | exact .base (.tup (by walk_at "g_lk")) | exact .base (.dK (by walk_at "g_lk")) | exact .base (.dT (by walk_at "g_lk")) | fail "g_ty")
local macro_rules | `(tactic| walk_at "g_pre") => `(tactic| first | assumption | walk_at "g_lk" | walk_at "g_sq" | walk_at "g_but" | walk_at "g_same" | walk_at "g_free" | omega | (refine ⟨?_, ?_⟩ <;> omega) | exact .inl (by omega) | exact .inr (by omega) | fail "g_pre")
local macro_rules | `(tactic| walk_at "g_call") => `(tactic| fail "g_call: no rule")
local macro_rules | `(tactic| walk_at "g_val") => `(tactic| first
  | (with_reducible refine' Hf.i_I0 ?_)
  | ((with_reducible refine' Hf.i_pow ?k1 ?k2 ?_); (case k1 => walk_at "g_c"); (case k2 => walk_at "g_pow"))
  | ((with_reducible refine' Hf.i_I ?k1 ?_); (case k1 => walk_at "g_c"))
  | (with_reducible refine' Hf.i_U ?_)
  | (with_reducible refine' Hf.i_eqI ?_)
  | (with_reducible refine' Hf.i_neI ?_)
  | (with_reducible refine' Hf.i_eqB ?_)
  | (with_reducible refine' Hf.i_neB ?_)
  | (with_reducible refine' Hf.i_eqS ?_)
  | (with_reducible refine' Hf.i_neS ?_)
  | ((with_reducible refine' Hf.i_ixL ?k1 ?k2 ?_); (case k1 => walk_at "g_sq"); (case k2 => walk_at "g_at"))
  | ((with_reducible refine' Hf.i_ixT ?k1 ?k2 ?_); (case k1 => walk_at "g_sq"); (case k2 => walk_at "g_at"))
  | ((with_reducible refine' Hf.i_ix2I ?k1 ?k2 ?k3 ?_); (case k1 => walk_at "g_sq"); (case k2 => omega); (case k3 => omega); intro _ _)
  | ((with_reducible refine' Hf.i_ix3I ?k1 ?k2 ?k3 ?_); (case k1 => walk_at "g_sq"); (case k2 => omega); (case k3 => omega); intro _ _)
  | ((with_reducible refine' Hf.i_ix4I ?k1 ?k2 ?k3 ?_); (case k1 => walk_at "g_sq"); (case k2 => omega); (case k3 => omega); intro _ _)
  | ((with_reducible refine' Hf.i_ix3R ?k1 ?k2 ?k3 ?_); (case k1 => walk_at "g_sq"); (case k2 => omega); (case k3 => omega); intro _ _)
  | ((with_reducible refine' Hf.i_ix4R ?k1 ?k2 ?k3 ?_); (case k1 => walk_at "g_sq"); (case k2 => omega); (case k3 => omega); intro _ _)
  | (with_reducible refine' Hf.i_abs ?_)
  | (with_reducible refine' Hf.i_int2 ?_)
  | (with_reducible refine' Hf.i_int1 ?_)
  | (with_reducible refine' Hf.i_intb ?_)
  | ((with_reducible refine' Hf.i_isi ?k1 ?k2 ?_); (case k1 => walk_at "g_ty"); (case k2 => first | (show L2.kitB _ _ = some true; decide +kernel) | (show L2.kitB _ _ = some false; decide +kernel)))
  | ((with_reducible refine' Hf.i_lenL ?k1 ?_); (case k1 => walk_at "g_sq"))
  | ((with_reducible refine' Hf.i_lenT ?k1 ?_); (case k1 => walk_at "g_sq"))
  | ((with_reducible refine' Hf.i_append ?k1 ?k2 ?_); (case k1 => walk_at "g_lk"); (case k2 => walk_at "g_sz"))
  | ((with_reducible refine' Hf.i_bmL ?k1 ?_); (case k1 => walk_at "g_sq"))
  | ((with_reducible refine' Hf.i_setL ?k1 ?k2 ?_); (case k1 => walk_at "g_lk"); (case k2 => walk_at "g_ixn"); (try dsimp only [List.set_cons_zero, List.set_cons_succ])) | fail "g_val")
local macro_rules | `(tactic| walk_at "g_val2") => `(tactic| first
  | ((with_reducible refine' Hf.i_slTo ?k1 ?k2 ?_); (case k1 => walk_at "g_sq"); (case k2 => omega); intro _ _)
  | ((with_reducible refine' Hf.i_slFrom ?k1 ?k2 ?_); (case k1 => walk_at "g_sq"); (case k2 => omega); intro _ _)
  | ((with_reducible refine' Hf.i_slMid ?k1 ?k2 ?k3 ?_); (case k1 => walk_at "g_sq"); (case k2 => omega); (case k3 => omega); intro _ _)
  | ((with_reducible refine' Hf.i_eqT2 ?k1 ?k2 ?_); (case k1 => walk_at "g_sq"); (case k2 => walk_at "g_sq"))
  | (with_reducible refine' Hf.i_sl ?_)
  | (with_reducible refine' Hf.i_nopart ?_)
  | (with_reducible refine' Hf.i_part ?_)
  | (with_reducible refine' Hf.i_exint ?_)
  | ((with_reducible refine' Hf.i_cat ?k1 ?k2 ?k3 ?_); (case k1 => walk_at "g_lk"); (case k2 => walk_at "g_lk"); (case k3 => walk_at "g_sz"); intro _ _)
  | ((with_reducible refine' Hf.i_rep1 ?k1 ?k2 ?_); (case k1 => walk_at "g_lk"); (case k2 => omega); intro _ _) | fail "g_val2")
local macro_rules | `(tactic| walk_at "g1") => `(tactic| first
  | ((with_reducible refine' Hf.i_var ?k1 ?_); (case k1 => rfl))
  | (with_reducible refine' Hf.i_c ?_)
  | (with_reducible refine' Hf.i_op ?_)
  | (with_reducible refine' Hf.i_cons ?_)
  | (with_reducible refine' Hf.i_nil ?_)
  | (with_reducible refine' Hf.i_seq ?_)
  | (with_reducible refine' Hf.i_asg ?_)
  | ((with_reducible refine' Hf.i_gname ?k1 ?_); (case k1 => walk_at "g_set"))
  | (with_reducible refine' Hf.i_ret ?_)
  | (with_reducible refine' Hf.i_next ?_)
  | (with_reducible refine' Hf.i_ifs ?_)
  | ((with_reducible refine' Hf.ite_y ?k1 ?_); (case k1 => rfl))
  | ((with_reducible refine' Hf.ite_n ?k1 ?_); (case k1 => rfl))
  | (with_reducible refine' Hf.i_test ?_)
  | (with_reducible refine' Hf.i_B ?_)
  | (with_reducible refine' Hf.i_bl ?_)
  | (with_reducible refine' Hf.i_call ?_)
  | (with_reducible refine' Hf.i_cb ?_)
  | (with_reducible refine' Hf.i_tup ?_)
  | (with_reducible refine' Hf.i_lst ?_)
  | ((with_reducible refine' Hf.i_new ?k1 ?_); (case k1 => walk_at "g_sz"); intro _ _)
  | (with_reducible refine' Hf.i_un ?_)
  | (with_reducible refine' Hf.i_and ?_)
  | (with_reducible refine' Hf.i_or ?_)
  | (with_reducible refine' Hf.i_not ?_)
  | (with_reducible refine' Hf.i_andV ?_)
  | (with_reducible refine' Hf.i_orV ?_)
  | (with_reducible refine' Hf.i_notV ?_)
  | (with_reducible refine' Hf.i_ife ?_)
  | (with_reducible refine' Hf.i_drop ?_)
  | (with_reducible refine' Hf.i_par ?_)
  | ((with_reducible refine' Hf.i_par2 ?k1 ?_); (case k1 => (apply Hf.set_par; walk_at "g_set"; walk_at "g_set")))
  | ((with_reducible refine' Hf.i_aug ?k1 ?_); (case k1 => rfl))
  | (with_reducible refine' Hf.i_ip ?_)
  | (with_reducible refine' Hf.i_bm ?_)
  | ((with_reducible refine' Hf.i_gtup ?k1 ?k2 ?_); (case k1 => walk_at "g_sq"); (case k2 => rfl))
  | (with_reducible refine' Hf.i_gcons ?_)
  | (with_reducible refine' Hf.i_gnil ?_)
  | (with_reducible refine' Hf.i_gsub ?_)
  | (with_reducible refine' Hf.i_for ?_)
  | (with_reducible refine' Hf.i_rng1 ?_)
  | ((with_reducible refine' Hf.i_rng1' ?k1 ?k2 ?_); (case k1 => omega); (case k2 => omega))
  | (with_reducible refine' Hf.i_rng2 ?_)
  | ((with_reducible refine' Hf.i_rng2' ?k1 ?_); (case k1 => omega))
  | (with_reducible refine' Hf.i_ilist ?_)
  | ((with_reducible refine' Hf.i_ilist' ?k1 ?_); (case k1 => walk_at "g_sq"))
  | (with_reducible refine' Hf.i_itup ?_)
  | ((with_reducible refine' Hf.i_itup' ?k1 ?_); (case k1 => walk_at "g_sq"))
  | (with_reducible refine' Hf.i_retN ?_)
  | (with_reducible refine' Hf.i_brk ?_)
  | (with_reducible refine' Hf.i_cnt ?_)
  | walk_at "g_val"
  | walk_at "g_val2"
  | walk_at "g_call"
  | dsimp only | fail "g1")
local macro_rules | `(tactic| walk_at "go") => `(tactic| repeat walk_at "g1")
local macro_rules | `(tactic| walk_at "goI") => `(tactic| repeat ((fail_if_success (with_reducible refine' Hf.i_ifs ?_)); walk_at "g1"))
local macro_rules | `(tactic| walk_at "goF") => `(tactic| repeat ((fail_if_success (with_reducible refine' Hf.i_for ?_)); walk_at "g1"))

theorem gcd_step {x y : Int} (hx : 0 ≤ x) (hy : 0 < y) : Int.gcd y (x % y) = Int.gcd x y := by
  obtain ⟨m, rfl⟩ := Int.eq_ofNat_of_zero_le hx
  obtain ⟨n, rfl⟩ := Int.eq_ofNat_of_zero_le (Int.le_of_lt hy)
  show Nat.gcd _ _ = Nat.gcd _ _
  have e : ((m : Int) % (n : Int)) = ((m % n : Nat) : Int) := rfl
  rw [e]
  show Nat.gcd n (m % n) = Nat.gcd m n
  rw [Nat.gcd_comm n (m % n), ← Nat.gcd_rec n m, Nat.gcd_comm]
theorem gcd_zero {x : Int} (hx : 0 ≤ x) : (Int.gcd x 0 : Int) = x := by
  rw [Int.gcd_zero]
  omega
theorem abs_if {x : Int} : (if x < 0 then -x else x) = (x.natAbs : Int) := by
  split <;> omega
theorem gcd_abs {x y : Int} : Int.gcd (x.natAbs : Int) (y.natAbs : Int) = Int.gcd x y := rfl
/-- the divisor with the bottom's sign -/
def sgcd (x y : Int) : Int := if y < 0 then 0 - (Int.gcd x y : Int) else (Int.gcd x y : Int)
theorem gcd_pos {x y : Int} (h : y ≠ 0) : 0 < Int.gcd x y := Nat.pos_of_ne_zero fun z => h (Int.gcd_eq_zero_iff.mp z).2
theorem sgcd_ne {x y : Int} (h : y ≠ 0) : sgcd x y ≠ 0 := by
  have := gcd_pos (x := x) h
  unfold sgcd
  split <;> omega
theorem gcd_le {x y : Int} (h : y ≠ 0) : Int.gcd x y ≤ y.natAbs := Nat.le_of_dvd (by omega) (Int.gcd_dvd_natAbs_right x y)
theorem sgcd_le {x y : Int} (h : y ≠ 0) : (sgcd x y).natAbs ≤ y.natAbs := by
  have := gcd_le (x := x) h
  unfold sgcd
  split <;> omega
theorem fdiv_abs_le {x g : Int} (hg : g ≠ 0) (hd : g ∣ x) : (x.fdiv g).natAbs ≤ x.natAbs := by
  obtain ⟨k, rfl⟩ := hd
  rw [Int.mul_fdiv_cancel_left _ hg, Int.natAbs_mul]
  exact Nat.le_mul_of_pos_left _ (by omega)
theorem sgcd_dvd_left (x y : Int) : sgcd x y ∣ x := by
  unfold sgcd
  split
  · rw [Int.zero_sub]
    exact Int.neg_dvd.mpr (Int.gcd_dvd_left x y)
  · exact Int.gcd_dvd_left x y
theorem sgcd_dvd_right (x y : Int) : sgcd x y ∣ y := by
  unfold sgcd
  split
  · rw [Int.zero_sub]
    exact Int.neg_dvd.mpr (Int.gcd_dvd_right x y)
  · exact Int.gcd_dvd_right x y
def ltop (x y : Int) : Int := x.fdiv (sgcd x y)
def lbot (x y : Int) : Int := y.fdiv (sgcd x y)
theorem ltop_le {x y : Int} (h : y ≠ 0) : (ltop x y).natAbs ≤ x.natAbs := fdiv_abs_le (sgcd_ne h) (sgcd_dvd_left x y)
theorem lbot_le {x y : Int} (h : y ≠ 0) : (lbot x y).natAbs ≤ y.natAbs := fdiv_abs_le (sgcd_ne h) (sgcd_dvd_right x y)
theorem lbot_pos {x y : Int} (h : y ≠ 0) : 0 < lbot x y := by
  unfold lbot
  have h1 := sgcd_dvd_right x y
  have hg := gcd_pos (x := x) h
  have h0 := sgcd_ne (x := x) h
  obtain ⟨k, hk⟩ := h1
  have e : y.fdiv (sgcd x y) = k := by
    conv => lhs; lhs; rw [hk]
    exact Int.mul_fdiv_cancel_left _ h0
  rw [e]
  rcases Int.lt_trichotomy y 0 with hy | hy | hy
  · have hs : sgcd x y < 0 := by
      unfold sgcd
      rw [if_pos hy]
      omega
    rcases Int.lt_trichotomy k 0 with z | z | z
    · have := Int.mul_pos_of_neg_of_neg hs z
      omega
    · rw [z, Int.mul_zero] at hk
      omega
    · exact z
  · exact absurd hy h
  · have hs : 0 < sgcd x y := by
      unfold sgcd
      rw [if_neg (by omega)]
      omega
    rcases Int.lt_trichotomy k 0 with z | z | z
    · have := Int.mul_neg_of_pos_of_neg hs z
      omega
    · rw [z, Int.mul_zero] at hk
      omega
    · exact z
section
variable {P : Program} {w : World} {K : PySem.W.Frag} {mg : Str → Option Value} {base : Heap}
def topS (i : Nat) : Stmt := PySem.Challenge.pw_hostfields_k02_sums_and_products.main.body.getD i (.Pass ⟨0, 0, 0, 0⟩)
abbrev s_divisor : Stmt := topS 4
abbrev s_ratio : Stmt := topS 5
abbrev s_plus : Stmt := topS 6
abbrev s_minus : Stmt := topS 7
abbrev s_times : Stmt := topS 8
abbrev s_l_stirred : Stmt := topS 10
abbrev s_l_opened : Stmt := topS 11
abbrev s_l_draw : Stmt := topS 12
abbrev s_l_in_lowest : Stmt := topS 13
abbrev s_l_fraction : Stmt := topS 14
abbrev s_l_is_whole : Stmt := topS 15
abbrev s_l_is_it : Stmt := topS 16
abbrev s_law : Stmt := topS 17
theorem sc_divisor : FnScope ["one", "other"] ["one", "other"] (defScope s_divisor) := ⟨rfl, rfl, rfl, by decide +kernel, rfl, by decide +kernel, by decide +kernel⟩
theorem sc_ratio : FnScope ["top", "bottom", "most"] ["top", "bottom"] (defScope s_ratio) := ⟨rfl, rfl, rfl, by decide +kernel, rfl, by decide +kernel, by decide +kernel⟩
theorem sc_plus : FnScope ["one", "other"] ["one", "other"] (defScope s_plus) := ⟨rfl, rfl, rfl, by decide +kernel, rfl, by decide +kernel, by decide +kernel⟩
theorem sc_minus : FnScope ["one", "other"] ["one", "other"] (defScope s_minus) := ⟨rfl, rfl, rfl, by decide +kernel, rfl, by decide +kernel, by decide +kernel⟩
theorem sc_times : FnScope ["one", "other"] ["one", "other"] (defScope s_times) := ⟨rfl, rfl, rfl, by decide +kernel, rfl, by decide +kernel, by decide +kernel⟩
theorem sc_l_stirred : FnScope ["_law_number", "_law_k", "_law_mixed"] ["_law_number", "_law_k"] (defScope s_l_stirred) := ⟨rfl, rfl, rfl, by decide +kernel, rfl, by decide +kernel, by decide +kernel⟩
theorem sc_l_opened : FnScope ["_law_cell"] ["_law_cell"] (defScope s_l_opened) := ⟨rfl, rfl, rfl, by decide +kernel, rfl, by decide +kernel, by decide +kernel⟩
theorem sc_l_draw : FnScope ["_law_left", "_law_base", "_law_digit", "_law_number", "_law_turn", "_law_mixed"] ["_law_left", "_law_base"] (defScope s_l_draw) := ⟨rfl, rfl, rfl, by decide +kernel, rfl, by decide +kernel, by decide +kernel⟩
theorem sc_l_in_lowest : FnScope ["_law_top", "_law_bottom", "_law_one", "_law_other"] ["_law_top", "_law_bottom"] (defScope s_l_in_lowest) := ⟨rfl, rfl, rfl, by decide +kernel, rfl, by decide +kernel, by decide +kernel⟩
theorem sc_l_fraction : FnScope ["_law_left", "_law_top", "_law_bottom"] ["_law_left"] (defScope s_l_fraction) := ⟨rfl, rfl, rfl, by decide +kernel, rfl, by decide +kernel, by decide +kernel⟩
theorem sc_l_is_whole : FnScope ["_law_told"] ["_law_told"] (defScope s_l_is_whole) := ⟨rfl, rfl, rfl, by decide +kernel, rfl, by decide +kernel, by decide +kernel⟩
theorem sc_l_is_it : FnScope ["_law_told", "_law_due"] ["_law_told", "_law_due"] (defScope s_l_is_it) := ⟨rfl, rfl, rfl, by decide +kernel, rfl, by decide +kernel, by decide +kernel⟩
theorem sc_law : FnScope ["_law_script", "_law_cell", "_law_left", "_law_one", "_law_other", "_law_a", "_law_b", "_law_c", "_law_d"] ["_law_script"] (defScope s_law) := ⟨rfl, rfl, rfl, by decide +kernel, rfl, by decide +kernel, by decide +kernel⟩
structure Txt (K : PySem.W.Frag) (mg : Str → Option Value) where
  a_divisor : Addr
  d_divisor : FuncData
  F_divisor : Fun K "divisor" "divisor" s_divisor a_divisor d_divisor
  g_divisor : mg "divisor" = some (.ref a_divisor)
  b_divisor : Binds K d_divisor ["one", "other"] []
  a_ratio : Addr
  d_ratio : FuncData
  F_ratio : Fun K "ratio" "ratio" s_ratio a_ratio d_ratio
  g_ratio : mg "ratio" = some (.ref a_ratio)
  b_ratio : Binds K d_ratio ["top", "bottom"] []
  a_plus : Addr
  d_plus : FuncData
  F_plus : Fun K "plus" "plus" s_plus a_plus d_plus
  g_plus : mg "plus" = some (.ref a_plus)
  b_plus : Binds K d_plus ["one", "other"] []
  a_minus : Addr
  d_minus : FuncData
  F_minus : Fun K "minus" "minus" s_minus a_minus d_minus
  g_minus : mg "minus" = some (.ref a_minus)
  b_minus : Binds K d_minus ["one", "other"] []
  a_times : Addr
  d_times : FuncData
  F_times : Fun K "times" "times" s_times a_times d_times
  g_times : mg "times" = some (.ref a_times)
  b_times : Binds K d_times ["one", "other"] []
  a_l_stirred : Addr
  d_l_stirred : FuncData
  F_l_stirred : Fun K "_law_stirred" "_law_stirred" s_l_stirred a_l_stirred d_l_stirred
  g_l_stirred : mg "_law_stirred" = some (.ref a_l_stirred)
  b_l_stirred : Binds K d_l_stirred ["_law_number", "_law_k"] []
  a_l_opened : Addr
  d_l_opened : FuncData
  F_l_opened : Fun K "_law_opened" "_law_opened" s_l_opened a_l_opened d_l_opened
  g_l_opened : mg "_law_opened" = some (.ref a_l_opened)
  b_l_opened : Binds K d_l_opened ["_law_cell"] []
  a_l_draw : Addr
  d_l_draw : FuncData
  F_l_draw : Fun K "_law_draw" "_law_draw" s_l_draw a_l_draw d_l_draw
  g_l_draw : mg "_law_draw" = some (.ref a_l_draw)
  b_l_draw : Binds K d_l_draw ["_law_left", "_law_base"] []
  a_l_in_lowest : Addr
  d_l_in_lowest : FuncData
  F_l_in_lowest : Fun K "_law_in_lowest" "_law_in_lowest" s_l_in_lowest a_l_in_lowest d_l_in_lowest
  g_l_in_lowest : mg "_law_in_lowest" = some (.ref a_l_in_lowest)
  b_l_in_lowest : Binds K d_l_in_lowest ["_law_top", "_law_bottom"] []
  a_l_fraction : Addr
  d_l_fraction : FuncData
  F_l_fraction : Fun K "_law_fraction" "_law_fraction" s_l_fraction a_l_fraction d_l_fraction
  g_l_fraction : mg "_law_fraction" = some (.ref a_l_fraction)
  b_l_fraction : Binds K d_l_fraction ["_law_left"] []
  a_l_is_whole : Addr
  d_l_is_whole : FuncData
  F_l_is_whole : Fun K "_law_is_whole" "_law_is_whole" s_l_is_whole a_l_is_whole d_l_is_whole
  g_l_is_whole : mg "_law_is_whole" = some (.ref a_l_is_whole)
  b_l_is_whole : Binds K d_l_is_whole ["_law_told"] []
  a_l_is_it : Addr
  d_l_is_it : FuncData
  F_l_is_it : Fun K "_law_is_it" "_law_is_it" s_l_is_it a_l_is_it d_l_is_it
  g_l_is_it : mg "_law_is_it" = some (.ref a_l_is_it)
  b_l_is_it : Binds K d_l_is_it ["_law_told", "_law_due"] []
  a_law : Addr
  d_law : FuncData
  F_law : Fun K "law" "law" s_law a_law d_law
  g_law : mg "law" = some (.ref a_law)
  b_law : Binds K d_law ["_law_script"] []
  z_abs : mg "abs" = none
  z_bool : mg "bool" = none
  z_int : mg "int" = none
  z_isinstance : mg "isinstance" = none
  z_len : mg "len" = none
  z_range : mg "range" = none
  z_tuple : mg "tuple" = none
def Left (n m : Int) : Prop := m = 1 ∨ (m = 0 ∧ 0 ≤ n ∧ n < 2147483629)
def Frac (u v : Int) : Prop := u.natAbs < 2 ^ 100 ∧ 0 < v ∧ v < 2 ^ 100
theorem frac_mul {u1 v1 u2 v2 : Int} (h1 : Frac u1 v1) (h2 : Frac u2 v2) : CMulA u1 v2 := mulW (a := 100) (b := 100) h1.1 (by have := h2.2; omega) (by decide) (by decide) (by decide)
theorem frac_mulR {u1 v1 u2 v2 : Int} (h1 : Frac u1 v1) (h2 : Frac u2 v2) : CMulA v1 v2 := mulW (a := 100) (b := 100) (by have := h1.2; omega) (by have := h2.2; omega) (by decide) (by decide) (by decide)
theorem frac_mulT {u1 v1 u2 v2 : Int} (h1 : Frac u1 v1) (h2 : Frac u2 v2) : CMulA u1 u2 := mulW (a := 100) (b := 100) h1.1 h2.1 (by decide) (by decide) (by decide)
def IsF (H : Hp) (r : Addr) : Prop := ∃ u v : Int, H r = some (.tup [.int u, .int v]) ∧ Frac u v

def sp_l_stirred (K : PySem.W.Frag) : Sp := fun vs H Q E => ∃ (n c : Int), vs = [.int n, .int c] ∧ (0 ≤ n ∧ n < 2147483629) ∧ (0 ≤ c ∧ c ≤ 1000000) ∧ ∀ (r : Int), (0 ≤ r ∧ r < 2147483587) → Q (.int r) H
theorem use_l_stirred {K : PySem.W.Frag} {H : Hp} {Q : VK} {E : XK} {n c : Int} (p0 : 0 ≤ n ∧ n < 2147483629) (p1 : 0 ≤ c ∧ c ≤ 1000000) (k : ∀ (r : Int), (0 ≤ r ∧ r < 2147483587) → Q (.int r) H) : sp_l_stirred K [.int n, .int c] H Q E := ⟨n, c, rfl, p0, p1, k⟩
theorem len_l_stirred {K : PySem.W.Frag} (vs : List V) (H : Hp) (Q : VK) (E : XK) (h : sp_l_stirred K vs H Q E) : vs.length = ["_law_number", "_law_k"].length := by
  obtain ⟨_, _, rfl, _⟩ := h
  rfl
local macro_rules | `(tactic| walk_at "g_call") => `(tactic| ((with_reducible refine' use_l_stirred ?c0 ?c1 ?_); (case c0 => walk_at "g_pre"); (case c1 => walk_at "g_pre"); intros))
theorem ok_l_stirred (T : Txt K mg) : FnOk P w K mg base CX0 1 T.a_l_stirred T.d_l_stirred ["_law_number", "_law_k"] (sp_l_stirred K) := by
  refine T.F_l_stirred.ok sc_l_stirred len_l_stirred (fun cdv A outer s H vs Q E hr h => ?_)
  refine ⟨_, (pss_cons (ps_set (i := 2) sc_l_stirred.nd rfl (Or.inl rfl) (pe_op op_mod (pe_op op_mulA (pe_op op_add (pe_op op_add (pe_op op_mulA (pv 0) (pv 0)) (pe_op op_mulA (pv 1) (pv 0))) (pe_op op_mulA (pe_op op_mulA pe_int (pv 1)) (pv 1))) pe_int) pe_int))
      (pss_one (ps_ret (pe_op op_mod (pe_op op_mulA (pv 2) (pv 2)) pe_int)))), ?_⟩
  try dsimp only [L2.cxOf, L2.Cx.nox, L2.Cx.wish]
  obtain ⟨n, c, rfl, p0, p1, k⟩ := h
  refine start_to (σ := [some _, some _, none]) rfl ?_
  walk_at "go"
  refine k _ ?_
  omega
def sp_l_opened (K : PySem.W.Frag) : Sp := fun vs H Q E => ∃ (c : Int), vs = [.int c] ∧ ∀ (n m : Int) (p : Addr), (Left n m) → (H p = none) → Q (.ref p) (upd H p (.lst [.int n, .int m, .int 0]))
theorem use_l_opened {K : PySem.W.Frag} {H : Hp} {Q : VK} {E : XK} {c : Int}  (k : ∀ (n m : Int) (p : Addr), (Left n m) → (H p = none) → Q (.ref p) (upd H p (.lst [.int n, .int m, .int 0]))) : sp_l_opened K [.int c] H Q E := ⟨c, rfl, k⟩
theorem len_l_opened {K : PySem.W.Frag} (vs : List V) (H : Hp) (Q : VK) (E : XK) (h : sp_l_opened K vs H Q E) : vs.length = ["_law_cell"].length := by
  obtain ⟨_, rfl, _⟩ := h
  rfl
local macro_rules | `(tactic| walk_at "g_call") => `(tactic| ((with_reducible refine' use_l_opened ?_); intros))
theorem ok_l_opened (T : Txt K mg) : FnOk P w K mg base CX0 1 T.a_l_opened T.d_l_opened ["_law_cell"] (sp_l_opened K) := by
  refine T.F_l_opened.ok sc_l_opened len_l_opened (fun cdv A outer s H vs Q E hr h => ?_)
  refine ⟨_, (pss_cons (ps_if (pt_cmpR op_lt (pv 0) (pe_op op_pow pe_int pe_int) (nomark _)) (pss_one (ps_ret (pe_lst (pa_cons (pe_op op_mod (pv 0) pe_int) (pa_cons pe_int (pa_cons pe_int pa_nil)))))) pss_nil)
      (pss_one (ps_ret (pe_lst (pa_cons (pe_op op_sub (pv 0) (pe_op op_pow pe_int pe_int)) (pa_cons pe_int (pa_cons pe_int pa_nil))))))), ?_⟩
  try dsimp only [L2.cxOf, L2.Cx.nox, L2.Cx.wish]
  obtain ⟨c, rfl, k⟩ := h
  refine start_to (σ := [some _]) rfl ?_
  walk_at "go"
  refine ite_d (fun c1 => ?_) (fun c1 => ?_)
  · walk_at "go"
    exact k _ _ _ (.inr ⟨rfl, by omega⟩) (by assumption)
  · walk_at "go"
    exact k _ _ _ (.inl rfl) (by assumption)

def sp_l_draw (K : PySem.W.Frag) : Sp := fun vs H Q E => ∃ (a : Addr) (n m c b : Int), vs = [.ref a, .int b] ∧ (H a = some (.lst [.int n, .int m, .int c])) ∧ (Left n m) ∧ (0 ≤ c ∧ c ≤ 100000) ∧ (0 < b ∧ b < 2 ^ 200) ∧ ∀ (d n' c' : Int) (H' : Hp), (0 ≤ d ∧ d < b) → (Left n' m) → (0 ≤ c' ∧ c' ≤ c + 4) → (But a H H') → (H' a = some (.lst [.int n', .int m, .int c'])) → Q (.int d) H'
theorem use_l_draw {K : PySem.W.Frag} {H : Hp} {Q : VK} {E : XK} {a : Addr} {n m c b : Int} (p0 : H a = some (.lst [.int n, .int m, .int c])) (p1 : Left n m) (p2 : 0 ≤ c ∧ c ≤ 100000) (p3 : 0 < b ∧ b < 2 ^ 200) (k : ∀ (d n' c' : Int) (H' : Hp), (0 ≤ d ∧ d < b) → (Left n' m) → (0 ≤ c' ∧ c' ≤ c + 4) → (But a H H') → (H' a = some (.lst [.int n', .int m, .int c'])) → Q (.int d) H') : sp_l_draw K [.ref a, .int b] H Q E := ⟨a, n, m, c, b, rfl, p0, p1, p2, p3, k⟩
theorem len_l_draw {K : PySem.W.Frag} (vs : List V) (H : Hp) (Q : VK) (E : XK) (h : sp_l_draw K vs H Q E) : vs.length = ["_law_left", "_law_base"].length := by
  obtain ⟨_, _, _, _, _, rfl, _⟩ := h
  rfl
local macro_rules | `(tactic| walk_at "g_call") => `(tactic| ((with_reducible refine' use_l_draw ?c0 ?c1 ?c2 ?c3 ?_); (case c0 => walk_at "g_pre"); (case c1 => walk_at "g_pre"); (case c2 => walk_at "g_pre"); (case c3 => walk_at "g_pre"); intros))
theorem ok_l_draw (T : Txt K mg) : FnOk P w K mg base CX0 2 T.a_l_draw T.d_l_draw ["_law_left", "_law_base"] (sp_l_draw K) := by
  have G_l_stirred := ok_l_stirred (P := P) (w := w) (base := base) T
  refine T.F_l_draw.ok sc_l_draw len_l_draw (fun cdv A outer s H vs Q E hr h => ?_)
  refine ⟨_, (pss_cons (ps_if (pt_cmpR op_eq (pe_ix ix_list (pv 0) pe_int (fun _ _ => rfl)) pe_int (nomark _)) (pss_cons (ps_set (i := 2) sc_l_draw.nd rfl (Or.inl rfl) (pe_op op_mod (pe_ix ix_list (pv 0) pe_int (fun _ _ => rfl)) (pv 1)))
      (pss_cons (ps_asg (pe_op op_fdivA (pe_ix ix_list (pv 0) pe_int (fun _ _ => rfl)) (pv 1)) (pg_sub (pv 0) pe_int set_list))
      (pss_one (ps_ret (pv 2))))) pss_nil)
      (pss_cons (ps_set (i := 3) sc_l_draw.nd rfl (Or.inl rfl) pe_int)
      (pss_cons (ps_for PassesOwn.never rfl (pi_range1 rfl T.z_range (pa_cons (pe_ix ix_list (pe_lst (pa_cons pe_int (pa_cons pe_int pa_nil))) (pe_callTy call_int1 (by rfl) T.z_int (by decide +kernel) (pa_cons (pe_cmpR op_gt (pv 1) (pe_op op_pow pe_int pe_int) (nomark _)) pa_nil)) (fun _ _ => rfl)) pa_nil)) (pg_name (i := 4) sc_l_draw.nd rfl (Or.inl rfl)) (pss_cons (ps_asg (pe_op op_add (pe_ix ix_list (pv 0) pe_int (fun _ _ => rfl)) pe_int) (pg_sub (pv 0) pe_int set_list))
      (pss_cons (ps_set (i := 5) sc_l_draw.nd rfl (Or.inl rfl) (pe_call G_l_stirred (hr.mono (by decide)) (by rfl) T.g_l_stirred T.F_l_stirred.kp T.b_l_stirred .nil pass0 (pa_cons (pe_ix ix_list (pv 0) pe_int (fun _ _ => rfl)) (pa_cons (pe_ix ix_list (pv 0) pe_int (fun _ _ => rfl)) pa_nil))))
      (pss_one (ps_set (i := 3) sc_l_draw.nd rfl (Or.inl rfl) (pe_op op_add (pe_op op_mulA (pv 3) pe_int) (pe_op op_mod (pe_op op_mulA (pv 5) (pe_op op_add (pv 5) pe_int)) pe_int)))))))
      (pss_one (ps_ret (pe_op op_mod (pv 3) (pv 1))))))), ?_⟩
  try dsimp only [L2.cxOf, L2.Cx.nox, L2.Cx.wish]
  obtain ⟨a, n, m, c, b, rfl, p0, p1, p2, p3, k⟩ := h
  refine start_to (σ := [some _, some _, none, none, none, none]) rfl ?_
  walk_at "go"
  refine ite_d (fun c1 => ?_) (fun c1 => ?_)
  · walk_at "go"
    exact k _ _ _ _ ⟨Int.emod_nonneg _ (by omega), Int.emod_lt_of_pos _ (by omega)⟩ (.inl c1) (by omega) (But.upd (But.refl _ _)) upd_same
  · walk_at "go"
    rename_i p np t ht
    have hap : a ≠ p := ne_of_none p0 np
    rcases p1 with z | ⟨z, hn⟩
    · exact absurd z c1
    refine forR (fun i σ H1 => ∃ (x c' : Int) (y1 y2 y3 : Option V), σ = [some (.ref a), some (.int b), y1, some (.int x), y2, y3] ∧ c' = c + i ∧ But a H H1 ∧ H1 a = some (.lst [.int n, .int m, .int c'])) ?_ ?_ ?_
    · exact ⟨0, c, none, none, none, rfl, by omega, But.new (But.refl _ _) np, by rw [upd_ne hap]; exact p0⟩
    · rintro σ1 H1 ⟨x, c', y1, y2, y3, rfl, hc, hb, ha⟩
      walk_at "go"
      exact k _ _ _ _ ⟨Int.emod_nonneg _ (by omega), Int.emod_lt_of_pos _ (by omega)⟩ (.inr ⟨z, hn⟩) (by omega) hb ha
    · rintro i σ1 H1 hi ⟨x, c', y1, y2, y3, rfl, hc, hb, ha⟩
      walk_at "go"
      exact ⟨_, c' + 1, _, _, _, rfl, by omega, But.upd hb, upd_same⟩

def sp_l_in_lowest (K : PySem.W.Frag) : Sp := fun vs H Q E => ∃ (x y : Int), vs = [.int x, .int y] ∧ (y ≠ 0) ∧ (x.natAbs < 2 ^ 400 ∧ y.natAbs < 2 ^ 400) ∧ ∀ (p : Addr), (H p = none) → Q (.ref p) (upd H p (.tup [.int (ltop x y), .int (lbot x y)]))
theorem use_l_in_lowest {K : PySem.W.Frag} {H : Hp} {Q : VK} {E : XK} {x y : Int} (p0 : y ≠ 0) (p1 : x.natAbs < 2 ^ 400 ∧ y.natAbs < 2 ^ 400) (k : ∀ (p : Addr), (H p = none) → Q (.ref p) (upd H p (.tup [.int (ltop x y), .int (lbot x y)]))) : sp_l_in_lowest K [.int x, .int y] H Q E := ⟨x, y, rfl, p0, p1, k⟩
theorem len_l_in_lowest {K : PySem.W.Frag} (vs : List V) (H : Hp) (Q : VK) (E : XK) (h : sp_l_in_lowest K vs H Q E) : vs.length = ["_law_top", "_law_bottom"].length := by
  obtain ⟨_, _, rfl, _⟩ := h
  rfl
local macro_rules | `(tactic| walk_at "g_call") => `(tactic| ((with_reducible refine' use_l_in_lowest ?c0 ?c1 ?_); (case c0 => walk_at "g_pre"); (case c1 => walk_at "g_pre"); intros))
theorem ok_l_in_lowest (T : Txt K mg) : FnOk P w K mg base CX0 1 T.a_l_in_lowest T.d_l_in_lowest ["_law_top", "_law_bottom"] (sp_l_in_lowest K) := by
  refine T.F_l_in_lowest.ok sc_l_in_lowest len_l_in_lowest (fun cdv A outer s H vs Q E hr h => ?_)
  refine ⟨_, (pss_cons (ps_par (i := 2) (j := 3) rfl sc_l_in_lowest.nd rfl rfl (by decide) rfl rfl (pa_cons (pe_callB call_abs (by rfl) T.z_abs (by decide +kernel) (pa_cons (pv 0) pa_nil)) (pa_cons (pe_callB call_abs (by rfl) T.z_abs (by decide +kernel) (pa_cons (pv 1) pa_nil)) pa_nil)) (by rfl))
      (pss_cons (ps_while PassesOwn.never (pt_cmpR op_gt (pv 3) pe_int (nomark _)) (pss_one (ps_par (i := 2) (j := 3) rfl sc_l_in_lowest.nd rfl rfl (by decide) rfl rfl (pa_cons (pv 3) (pa_cons (pe_op op_mod (pv 2) (pv 3)) pa_nil)) (by rfl))))
      (pss_cons (ps_if (pt_cmpR op_lt (pv 1) pe_int (nomark _)) (pss_one (ps_set (i := 2) sc_l_in_lowest.nd rfl (Or.inl rfl) (pe_op op_sub pe_int (pv 2)))) pss_nil)
      (pss_one (ps_ret (pe_tup (pa_cons (pe_op op_fdivA (pv 0) (pv 2)) (pa_cons (pe_op op_fdivA (pv 1) (pv 2)) pa_nil)))))))), ?_⟩
  try dsimp only [L2.cxOf, L2.Cx.nox, L2.Cx.wish]
  obtain ⟨x, y, rfl, p0, ⟨p1, p2⟩, k⟩ := h
  refine start_to (σ := [some _, some _, none, none]) rfl ?_
  walk_at "go"
  rw [abs_if, abs_if]
  refine whileW (fun m σ H' => ∃ u v : Int, σ = [some (.int x), some (.int y), some (.int u), some (.int v)] ∧ 0 ≤ u ∧ 0 ≤ v ∧ Int.gcd u v = Int.gcd x y ∧ m = v.toNat ∧ H' = H) _ ⟨_, _, rfl, by omega, by omega, gcd_abs, rfl, rfl⟩ ?_
  rintro m σ1 H1 ⟨u, v, rfl, hu, hv, hg, rfl, rfl⟩
  walk_at "go"
  refine ite_d (fun c1 => turnW ?_) (fun c1 => ?_)
  · walk_at "go"
    refine ⟨(u % v).toNat, ?_, _, _, rfl, hv, Int.emod_nonneg _ (by omega), (gcd_step hu c1).trans hg, rfl, rfl⟩
    have := Int.emod_lt_of_pos u c1
    omega
  · obtain rfl : v = 0 := by omega
    have eu : u = (Int.gcd x y : Int) := by
      rw [← hg]
      exact (gcd_zero hu).symm
    have hne := sgcd_ne (x := x) p0
    have hle := sgcd_le (x := x) p0
    have hl : (sgcd x y).natAbs.log2 < 9000 := log_lt (b := 400) (by omega) (by decide) (by decide)
    walk_at "go"
    refine ite_d (fun c2 => ?_) (fun c2 => ?_)
    · have es : 0 - u = sgcd x y := by
        unfold sgcd
        rw [if_pos c2, eu]
      walk_at "go"
      rw [es]
      walk_at "go"
      exact k _ (by assumption)
    · have es : u = sgcd x y := by
        unfold sgcd
        rw [if_neg c2, eu]
      walk_at "go"
      rw [es]
      walk_at "go"
      exact k _ (by assumption)

def sp_l_fraction (K : PySem.W.Frag) : Sp := fun vs H Q E => ∃ (a : Addr) (n m c : Int), vs = [.ref a] ∧ (H a = some (.lst [.int n, .int m, .int c])) ∧ (Left n m) ∧ (0 ≤ c ∧ c ≤ 90000) ∧ ∀ (n' c' u v : Int) (p : Addr) (H' : Hp), (H' a = some (.lst [.int n', .int m, .int c'])) → (H' p = some (.tup [.int u, .int v])) → (Left n' m) → (0 ≤ c' ∧ c' ≤ c + 50) → (But a H H') → (H p = none) → (Frac u v) → Q (.ref p) H'
theorem use_l_fraction {K : PySem.W.Frag} {H : Hp} {Q : VK} {E : XK} {a : Addr} {n m c : Int} (p0 : H a = some (.lst [.int n, .int m, .int c])) (p1 : Left n m) (p2 : 0 ≤ c ∧ c ≤ 90000) (k : ∀ (n' c' u v : Int) (p : Addr) (H' : Hp), (H' a = some (.lst [.int n', .int m, .int c'])) → (H' p = some (.tup [.int u, .int v])) → (Left n' m) → (0 ≤ c' ∧ c' ≤ c + 50) → (But a H H') → (H p = none) → (Frac u v) → Q (.ref p) H') : sp_l_fraction K [.ref a] H Q E := ⟨a, n, m, c, rfl, p0, p1, p2, k⟩
theorem len_l_fraction {K : PySem.W.Frag} (vs : List V) (H : Hp) (Q : VK) (E : XK) (h : sp_l_fraction K vs H Q E) : vs.length = ["_law_left"].length := by
  obtain ⟨_, _, _, _, rfl, _⟩ := h
  rfl
local macro_rules | `(tactic| walk_at "g_call") => `(tactic| ((with_reducible refine' use_l_fraction ?c0 ?c1 ?c2 ?_); (case c0 => walk_at "g_pre"); (case c1 => walk_at "g_pre"); (case c2 => walk_at "g_pre"); intros))
theorem ok_l_fraction (T : Txt K mg) : FnOk P w K mg base CX0 3 T.a_l_fraction T.d_l_fraction ["_law_left"] (sp_l_fraction K) := by
  have G_l_in_lowest := ok_l_in_lowest (P := P) (w := w) (base := base) T
  have G_l_draw := ok_l_draw (P := P) (w := w) (base := base) T
  refine T.F_l_fraction.ok sc_l_fraction len_l_fraction (fun cdv A outer s H vs Q E hr h => ?_)
  refine ⟨_, (pss_cons (ps_set (i := 1) sc_l_fraction.nd rfl (Or.inl rfl) (pe_ix ix_list (pe_lst (pa_cons (pe_op op_sub (pe_call G_l_draw (hr.mono (by decide)) (by rfl) T.g_l_draw T.F_l_draw.kp T.b_l_draw .nil pass0 (pa_cons (pv 0) (pa_cons pe_int pa_nil))) pe_int) (pa_cons (pe_op op_sub (pe_call G_l_draw (hr.mono (by decide)) (by rfl) T.g_l_draw T.F_l_draw.kp T.b_l_draw .nil pass0 (pa_cons (pv 0) (pa_cons (pe_op op_mulA pe_int (pe_op op_pow pe_int pe_int)) pa_nil))) (pe_op op_pow pe_int pe_int)) (pa_cons pe_int pa_nil)))) (pe_op op_fdiv (pe_call G_l_draw (hr.mono (by decide)) (by rfl) T.g_l_draw T.F_l_draw.kp T.b_l_draw .nil pass0 (pa_cons (pv 0) (pa_cons pe_int pa_nil))) pe_int) (fun _ _ => rfl)))
      (pss_cons (ps_set (i := 2) sc_l_fraction.nd rfl (Or.inl rfl) (pe_ix ix_list (pe_lst (pa_cons (pe_op op_add pe_int (pe_call G_l_draw (hr.mono (by decide)) (by rfl) T.g_l_draw T.F_l_draw.kp T.b_l_draw .nil pass0 (pa_cons (pv 0) (pa_cons pe_int pa_nil)))) (pa_cons (pe_op op_add pe_int (pe_call G_l_draw (hr.mono (by decide)) (by rfl) T.g_l_draw T.F_l_draw.kp T.b_l_draw .nil pass0 (pa_cons (pv 0) (pa_cons (pe_op op_pow pe_int pe_int) pa_nil)))) (pa_cons pe_int pa_nil)))) (pe_op op_fdiv (pe_call G_l_draw (hr.mono (by decide)) (by rfl) T.g_l_draw T.F_l_draw.kp T.b_l_draw .nil pass0 (pa_cons (pv 0) (pa_cons pe_int pa_nil))) pe_int) (fun _ _ => rfl)))
      (pss_one (ps_ret (pe_call G_l_in_lowest (hr.mono (by decide)) (by rfl) T.g_l_in_lowest T.F_l_in_lowest.kp T.b_l_in_lowest .nil pass0 (pa_cons (pv 1) (pa_cons (pv 2) pa_nil))))))), ?_⟩
  try dsimp only [L2.cxOf, L2.Cx.nox, L2.Cx.wish]
  obtain ⟨a, n, m, c, rfl, p0, p1, p2, k⟩ := h
  refine start_to (σ := [some _, none, none]) rfl ?_
  walk_at "go"
  rename_i u hu d1 n1 c1 H1 b1 b2 b3 b4 b5 d2 n2 c2 H2 e1 e2 e3 e4 e5 p1 np1 d3 n3 c3 H3 f1 f2 f3 f4 f5 v hv p np
  have hv0 : v ≠ 0 := by omega
  have h1 := ltop_le (x := u) hv0
  have h2 := lbot_le (x := u) hv0
  have h3 := lbot_pos (x := u) hv0
  refine k _ _ _ _ _ _ (by walk_at "g_lk") upd_same f2 (by omega) (by walk_at "g_but") (by walk_at "g_free") ⟨by omega, h3, by omega⟩

def sp_divisor (K : PySem.W.Frag) : Sp := fun vs H Q E => ∃ (x y : Int), vs = [.int x, .int y] ∧ Q (.int (Int.gcd x y : Int)) H
theorem use_divisor {K : PySem.W.Frag} {H : Hp} {Q : VK} {E : XK} {x y : Int}  (k : Q (.int (Int.gcd x y : Int)) H) : sp_divisor K [.int x, .int y] H Q E := ⟨x, y, rfl, k⟩
theorem len_divisor {K : PySem.W.Frag} (vs : List V) (H : Hp) (Q : VK) (E : XK) (h : sp_divisor K vs H Q E) : vs.length = ["one", "other"].length := by
  obtain ⟨_, _, rfl, _⟩ := h
  rfl
local macro_rules | `(tactic| walk_at "g_call") => `(tactic| ((with_reducible refine' use_divisor ?_); intros))
theorem ok_divisor (T : Txt K mg) : FnOk P w K mg base CX0 1 T.a_divisor T.d_divisor ["one", "other"] (sp_divisor K) := by
  refine T.F_divisor.ok sc_divisor len_divisor (fun cdv A outer s H vs Q E hr h => ?_)
  refine ⟨_, (pss_cons (ps_par (i := 0) (j := 1) rfl sc_divisor.nd rfl rfl (by decide) rfl rfl (pa_cons (pe_callB call_abs (by rfl) T.z_abs (by decide +kernel) (pa_cons (pv 0) pa_nil)) (pa_cons (pe_callB call_abs (by rfl) T.z_abs (by decide +kernel) (pa_cons (pv 1) pa_nil)) pa_nil)) (by rfl))
      (pss_cons (ps_while PassesOwn.never (pt_cmpR op_gt (pv 1) pe_int (nomark _)) (pss_one (ps_par (i := 0) (j := 1) rfl sc_divisor.nd rfl rfl (by decide) rfl rfl (pa_cons (pv 1) (pa_cons (pe_op op_mod (pv 0) (pv 1)) pa_nil)) (by rfl))))
      (pss_one (ps_ret (pv 0))))), ?_⟩
  try dsimp only [L2.cxOf, L2.Cx.nox, L2.Cx.wish]
  obtain ⟨x, y, rfl, k⟩ := h
  refine start_to (σ := [some _, some _]) rfl ?_
  walk_at "go"
  rw [abs_if, abs_if]
  refine whileW (fun m σ H' => ∃ u v : Int, σ = [some (.int u), some (.int v)] ∧ 0 ≤ u ∧ 0 ≤ v ∧ Int.gcd u v = Int.gcd x y ∧ m = v.toNat ∧ H' = H) _ ⟨_, _, rfl, by omega, by omega, gcd_abs, rfl, rfl⟩ ?_
  rintro m σ1 H1 ⟨u, v, rfl, hu, hv, hg, rfl, rfl⟩
  walk_at "go"
  refine ite_d (fun c1 => turnW ?_) (fun c1 => ?_)
  · walk_at "go"
    refine ⟨(u % v).toNat, ?_, _, _, rfl, hv, Int.emod_nonneg _ (by omega), (gcd_step hu c1).trans hg, rfl, rfl⟩
    have := Int.emod_lt_of_pos u c1
    omega
  · obtain rfl : v = 0 := by omega
    have eu : u = (Int.gcd x y : Int) := by
      rw [← hg]
      exact (gcd_zero hu).symm
    walk_at "go"
    rw [eu]
    exact k
def sp_ratio (K : PySem.W.Frag) : Sp := fun vs H Q E => ∃ (x y : Int), vs = [.int x, .int y] ∧ (y ≠ 0) ∧ (x.natAbs < 2 ^ 400 ∧ y.natAbs < 2 ^ 400) ∧ ∀ (p : Addr), (H p = none) → Q (.ref p) (upd H p (.tup [.int (ltop x y), .int (lbot x y)]))
theorem use_ratio {K : PySem.W.Frag} {H : Hp} {Q : VK} {E : XK} {x y : Int} (p0 : y ≠ 0) (p1 : x.natAbs < 2 ^ 400 ∧ y.natAbs < 2 ^ 400) (k : ∀ (p : Addr), (H p = none) → Q (.ref p) (upd H p (.tup [.int (ltop x y), .int (lbot x y)]))) : sp_ratio K [.int x, .int y] H Q E := ⟨x, y, rfl, p0, p1, k⟩
theorem len_ratio {K : PySem.W.Frag} (vs : List V) (H : Hp) (Q : VK) (E : XK) (h : sp_ratio K vs H Q E) : vs.length = ["top", "bottom"].length := by
  obtain ⟨_, _, rfl, _⟩ := h
  rfl
local macro_rules | `(tactic| walk_at "g_call") => `(tactic| ((with_reducible refine' use_ratio ?c0 ?c1 ?_); (case c0 => walk_at "g_pre"); (case c1 => walk_at "g_pre"); intros))
theorem ok_ratio (T : Txt K mg) : FnOk P w K mg base CX0 2 T.a_ratio T.d_ratio ["top", "bottom"] (sp_ratio K) := by
  have G_divisor := ok_divisor (P := P) (w := w) (base := base) T
  refine T.F_ratio.ok sc_ratio len_ratio (fun cdv A outer s H vs Q E hr h => ?_)
  refine ⟨_, (pss_cons (ps_if (pt_cmpR op_eq (pv 1) pe_int (nomark _)) (pss_one ps_never) pss_nil)
      (pss_cons (ps_set (i := 2) sc_ratio.nd rfl (Or.inl rfl) (pe_call G_divisor (hr.mono (by decide)) (by rfl) T.g_divisor T.F_divisor.kp T.b_divisor .nil pass0 (pa_cons (pv 0) (pa_cons (pv 1) pa_nil))))
      (pss_cons (ps_if (pt_cmpR op_lt (pv 1) pe_int (nomark _)) (pss_one (ps_set (i := 2) sc_ratio.nd rfl (Or.inl rfl) (pe_op op_sub pe_int (pv 2)))) pss_nil)
      (pss_one (ps_ret (pe_tup (pa_cons (pe_op op_fdivA (pv 0) (pv 2)) (pa_cons (pe_op op_fdivA (pv 1) (pv 2)) pa_nil)))))))), ?_⟩
  try dsimp only [L2.cxOf, L2.Cx.nox, L2.Cx.wish]
  obtain ⟨x, y, rfl, p0, ⟨p1, p2⟩, k⟩ := h
  refine start_to (σ := [some _, some _, none]) rfl ?_
  walk_at "go"
  refine ite_d (fun c1 => absurd c1 p0) (fun c1 => ?_)
  walk_at "go"
  have hne := sgcd_ne (x := x) p0
  have hle := sgcd_le (x := x) p0
  have hl : (sgcd x y).natAbs.log2 < 9000 := log_lt (b := 400) (by omega) (by decide) (by decide)
  refine ite_d (fun c2 => ?_) (fun c2 => ?_)
  · have es : 0 - (Int.gcd x y : Int) = sgcd x y := by
      unfold sgcd
      rw [if_pos c2]
    walk_at "go"
    rw [es]
    walk_at "go"
    exact k _ (by assumption)
  · have es : (Int.gcd x y : Int) = sgcd x y := by
      unfold sgcd
      rw [if_neg c2]
    walk_at "go"
    rw [es]
    walk_at "go"
    exact k _ (by assumption)

end
def Frc (u v : Int) : Prop := u.natAbs < 2 ^ 100 ∧ 0 < v ∧ v < 2 ^ 100
theorem m200 {a b : Int} (h1 : a.natAbs < 2 ^ 100) (h2 : b.natAbs < 2 ^ 100) : (a * b).natAbs < 2 ^ 200 := by
  rw [Int.natAbs_mul, show (2 : Nat) ^ 200 = 2 ^ 100 * 2 ^ 100 from rfl]
  exact Nat.mul_lt_mul'' h1 h2
theorem add_bits {a b : Int} (h1 : a.natAbs < 2 ^ 200) (h2 : b.natAbs < 2 ^ 200) : (a + b).natAbs < 2 ^ 400 := by omega
theorem sub_bits {a b : Int} (h1 : a.natAbs < 2 ^ 200) (h2 : b.natAbs < 2 ^ 200) : (a - b).natAbs < 2 ^ 400 := by omega
theorem up_bits {a : Int} (h1 : a.natAbs < 2 ^ 200) : a.natAbs < 2 ^ 400 := by omega
section
variable {P : Program} {w : World} {K : PySem.W.Frag} {mg : Str → Option Value} {base : Heap}
local macro_rules | `(tactic| walk_at "g_call") => `(tactic| ((with_reducible refine' use_l_stirred ?c0 ?c1 ?_); (case c0 => walk_at "g_pre"); (case c1 => walk_at "g_pre"); intros))
local macro_rules | `(tactic| walk_at "g_call") => `(tactic| ((with_reducible refine' use_l_opened ?_); intros))
local macro_rules | `(tactic| walk_at "g_call") => `(tactic| ((with_reducible refine' use_l_draw ?c0 ?c1 ?c2 ?c3 ?_); (case c0 => walk_at "g_pre"); (case c1 => walk_at "g_pre"); (case c2 => walk_at "g_pre"); (case c3 => walk_at "g_pre"); intros))
local macro_rules | `(tactic| walk_at "g_call") => `(tactic| ((with_reducible refine' use_l_in_lowest ?c0 ?c1 ?_); (case c0 => walk_at "g_pre"); (case c1 => walk_at "g_pre"); intros))
local macro_rules | `(tactic| walk_at "g_call") => `(tactic| ((with_reducible refine' use_l_fraction ?c0 ?c1 ?c2 ?_); (case c0 => walk_at "g_pre"); (case c1 => walk_at "g_pre"); (case c2 => walk_at "g_pre"); intros))
local macro_rules | `(tactic| walk_at "g_call") => `(tactic| ((with_reducible refine' use_divisor ?_); intros))
local macro_rules | `(tactic| walk_at "g_call") => `(tactic| ((with_reducible refine' use_ratio ?c0 ?c1 ?_); (case c0 => walk_at "g_pre"); (case c1 => walk_at "g_pre"); intros))
theorem vv_ne {u1 v1 u2 v2 : Int} (h1 : Frac u1 v1) (h2 : Frac u2 v2) : v1 * v2 ≠ 0 := Int.mul_ne_zero (by have := h1.2; omega) (by have := h2.2; omega)
theorem fr_b {u v : Int} (h : Frac u v) : v.natAbs < 2 ^ 100 := by
  have := h.2
  omega
def sp_plus (K : PySem.W.Frag) : Sp := fun vs H Q E => ∃ (a b : Addr) (u1 v1 u2 v2 : Int), vs = [.ref a, .ref b] ∧ (SqT K H a [.int u1, .int v1]) ∧ (SqT K H b [.int u2, .int v2]) ∧ (Frac u1 v1) ∧ (Frac u2 v2) ∧ ∀ (p : Addr), (H p = none) → Q (.ref p) (upd H p (.tup [.int (ltop (u1 * v2 + u2 * v1) (v1 * v2)), .int (lbot (u1 * v2 + u2 * v1) (v1 * v2))]))
theorem use_plus {K : PySem.W.Frag} {H : Hp} {Q : VK} {E : XK} {a b : Addr} {u1 v1 u2 v2 : Int} (p0 : SqT K H a [.int u1, .int v1]) (p1 : SqT K H b [.int u2, .int v2]) (p2 : Frac u1 v1) (p3 : Frac u2 v2) (k : ∀ (p : Addr), (H p = none) → Q (.ref p) (upd H p (.tup [.int (ltop (u1 * v2 + u2 * v1) (v1 * v2)), .int (lbot (u1 * v2 + u2 * v1) (v1 * v2))]))) : sp_plus K [.ref a, .ref b] H Q E := ⟨a, b, u1, v1, u2, v2, rfl, p0, p1, p2, p3, k⟩
theorem len_plus {K : PySem.W.Frag} (vs : List V) (H : Hp) (Q : VK) (E : XK) (h : sp_plus K vs H Q E) : vs.length = ["one", "other"].length := by
  obtain ⟨_, _, _, _, _, _, rfl, _⟩ := h
  rfl
local macro_rules | `(tactic| walk_at "g_call") => `(tactic| ((with_reducible refine' use_plus ?c0 ?c1 ?c2 ?c3 ?_); (case c0 => walk_at "g_pre"); (case c1 => walk_at "g_pre"); (case c2 => walk_at "g_pre"); (case c3 => walk_at "g_pre"); intros))
theorem ok_plus (T : Txt K mg) : FnOk P w K mg base CX0 3 T.a_plus T.d_plus ["one", "other"] (sp_plus K) := by
  have G_ratio := ok_ratio (P := P) (w := w) (base := base) T
  refine T.F_plus.ok sc_plus len_plus (fun cdv A outer s H vs Q E hr h => ?_)
  refine ⟨_, (pss_one (ps_ret (pe_call G_ratio (hr.mono (by decide)) (by rfl) T.g_ratio T.F_ratio.kp T.b_ratio .nil pass0 (pa_cons (pe_op op_add (pe_op op_mulA (pe_ix ix_tup (pv 0) pe_int (fun _ _ => rfl)) (pe_ix ix_tup (pv 1) pe_int (fun _ _ => rfl))) (pe_op op_mulA (pe_ix ix_tup (pv 1) pe_int (fun _ _ => rfl)) (pe_ix ix_tup (pv 0) pe_int (fun _ _ => rfl)))) (pa_cons (pe_op op_mulA (pe_ix ix_tup (pv 0) pe_int (fun _ _ => rfl)) (pe_ix ix_tup (pv 1) pe_int (fun _ _ => rfl))) pa_nil))))), ?_⟩
  try dsimp only [L2.cxOf, L2.Cx.nox, L2.Cx.wish]
  obtain ⟨a, b, u1, v1, u2, v2, rfl, p0, p1, p2, p3, k⟩ := h
  refine start_to (σ := [some _, some _]) rfl ?_
  have c1 := frac_mul p2 p3
  have c2 := frac_mul p3 p2
  have c3 := frac_mulR p2 p3
  have n0 := vv_ne p2 p3
  have b1 := And.intro (add_bits (m200 p2.1 (fr_b p3)) (m200 p3.1 (fr_b p2))) (up_bits (m200 (fr_b p2) (fr_b p3)))
  walk_at "go"
  exact k _ (by assumption)
def sp_minus (K : PySem.W.Frag) : Sp := fun vs H Q E => ∃ (a b : Addr) (u1 v1 u2 v2 : Int), vs = [.ref a, .ref b] ∧ (SqT K H a [.int u1, .int v1]) ∧ (SqT K H b [.int u2, .int v2]) ∧ (Frac u1 v1) ∧ (Frac u2 v2) ∧ ∀ (p : Addr), (H p = none) → Q (.ref p) (upd H p (.tup [.int (ltop (u1 * v2 - u2 * v1) (v1 * v2)), .int (lbot (u1 * v2 - u2 * v1) (v1 * v2))]))
theorem use_minus {K : PySem.W.Frag} {H : Hp} {Q : VK} {E : XK} {a b : Addr} {u1 v1 u2 v2 : Int} (p0 : SqT K H a [.int u1, .int v1]) (p1 : SqT K H b [.int u2, .int v2]) (p2 : Frac u1 v1) (p3 : Frac u2 v2) (k : ∀ (p : Addr), (H p = none) → Q (.ref p) (upd H p (.tup [.int (ltop (u1 * v2 - u2 * v1) (v1 * v2)), .int (lbot (u1 * v2 - u2 * v1) (v1 * v2))]))) : sp_minus K [.ref a, .ref b] H Q E := ⟨a, b, u1, v1, u2, v2, rfl, p0, p1, p2, p3, k⟩
theorem len_minus {K : PySem.W.Frag} (vs : List V) (H : Hp) (Q : VK) (E : XK) (h : sp_minus K vs H Q E) : vs.length = ["one", "other"].length := by
  obtain ⟨_, _, _, _, _, _, rfl, _⟩ := h
  rfl
local macro_rules | `(tactic| walk_at "g_call") => `(tactic| ((with_reducible refine' use_minus ?c0 ?c1 ?c2 ?c3 ?_); (case c0 => walk_at "g_pre"); (case c1 => walk_at "g_pre"); (case c2 => walk_at "g_pre"); (case c3 => walk_at "g_pre"); intros))
theorem ok_minus (T : Txt K mg) : FnOk P w K mg base CX0 3 T.a_minus T.d_minus ["one", "other"] (sp_minus K) := by
  have G_ratio := ok_ratio (P := P) (w := w) (base := base) T
  refine T.F_minus.ok sc_minus len_minus (fun cdv A outer s H vs Q E hr h => ?_)
  refine ⟨_, (pss_one (ps_ret (pe_call G_ratio (hr.mono (by decide)) (by rfl) T.g_ratio T.F_ratio.kp T.b_ratio .nil pass0 (pa_cons (pe_op op_sub (pe_op op_mulA (pe_ix ix_tup (pv 0) pe_int (fun _ _ => rfl)) (pe_ix ix_tup (pv 1) pe_int (fun _ _ => rfl))) (pe_op op_mulA (pe_ix ix_tup (pv 1) pe_int (fun _ _ => rfl)) (pe_ix ix_tup (pv 0) pe_int (fun _ _ => rfl)))) (pa_cons (pe_op op_mulA (pe_ix ix_tup (pv 0) pe_int (fun _ _ => rfl)) (pe_ix ix_tup (pv 1) pe_int (fun _ _ => rfl))) pa_nil))))), ?_⟩
  try dsimp only [L2.cxOf, L2.Cx.nox, L2.Cx.wish]
  obtain ⟨a, b, u1, v1, u2, v2, rfl, p0, p1, p2, p3, k⟩ := h
  refine start_to (σ := [some _, some _]) rfl ?_
  have c1 := frac_mul p2 p3
  have c2 := frac_mul p3 p2
  have c3 := frac_mulR p2 p3
  have n0 := vv_ne p2 p3
  have b1 := And.intro (sub_bits (m200 p2.1 (fr_b p3)) (m200 p3.1 (fr_b p2))) (up_bits (m200 (fr_b p2) (fr_b p3)))
  walk_at "go"
  exact k _ (by assumption)
def sp_times (K : PySem.W.Frag) : Sp := fun vs H Q E => ∃ (a b : Addr) (u1 v1 u2 v2 : Int), vs = [.ref a, .ref b] ∧ (SqT K H a [.int u1, .int v1]) ∧ (SqT K H b [.int u2, .int v2]) ∧ (Frac u1 v1) ∧ (Frac u2 v2) ∧ ∀ (p : Addr), (H p = none) → Q (.ref p) (upd H p (.tup [.int (ltop (u1 * u2) (v1 * v2)), .int (lbot (u1 * u2) (v1 * v2))]))
theorem use_times {K : PySem.W.Frag} {H : Hp} {Q : VK} {E : XK} {a b : Addr} {u1 v1 u2 v2 : Int} (p0 : SqT K H a [.int u1, .int v1]) (p1 : SqT K H b [.int u2, .int v2]) (p2 : Frac u1 v1) (p3 : Frac u2 v2) (k : ∀ (p : Addr), (H p = none) → Q (.ref p) (upd H p (.tup [.int (ltop (u1 * u2) (v1 * v2)), .int (lbot (u1 * u2) (v1 * v2))]))) : sp_times K [.ref a, .ref b] H Q E := ⟨a, b, u1, v1, u2, v2, rfl, p0, p1, p2, p3, k⟩
theorem len_times {K : PySem.W.Frag} (vs : List V) (H : Hp) (Q : VK) (E : XK) (h : sp_times K vs H Q E) : vs.length = ["one", "other"].length := by
  obtain ⟨_, _, _, _, _, _, rfl, _⟩ := h
  rfl
local macro_rules | `(tactic| walk_at "g_call") => `(tactic| ((with_reducible refine' use_times ?c0 ?c1 ?c2 ?c3 ?_); (case c0 => walk_at "g_pre"); (case c1 => walk_at "g_pre"); (case c2 => walk_at "g_pre"); (case c3 => walk_at "g_pre"); intros))
theorem ok_times (T : Txt K mg) : FnOk P w K mg base CX0 3 T.a_times T.d_times ["one", "other"] (sp_times K) := by
  have G_ratio := ok_ratio (P := P) (w := w) (base := base) T
  refine T.F_times.ok sc_times len_times (fun cdv A outer s H vs Q E hr h => ?_)
  refine ⟨_, (pss_one (ps_ret (pe_call G_ratio (hr.mono (by decide)) (by rfl) T.g_ratio T.F_ratio.kp T.b_ratio .nil pass0 (pa_cons (pe_op op_mulA (pe_ix ix_tup (pv 0) pe_int (fun _ _ => rfl)) (pe_ix ix_tup (pv 1) pe_int (fun _ _ => rfl))) (pa_cons (pe_op op_mulA (pe_ix ix_tup (pv 0) pe_int (fun _ _ => rfl)) (pe_ix ix_tup (pv 1) pe_int (fun _ _ => rfl))) pa_nil))))), ?_⟩
  try dsimp only [L2.cxOf, L2.Cx.nox, L2.Cx.wish]
  obtain ⟨a, b, u1, v1, u2, v2, rfl, p0, p1, p2, p3, k⟩ := h
  refine start_to (σ := [some _, some _]) rfl ?_
  have c1 := frac_mulT p2 p3
  have c3 := frac_mulR p2 p3
  have n0 := vv_ne p2 p3
  have b1 := And.intro (up_bits (m200 p2.1 p3.1)) (up_bits (m200 (fr_b p2) (fr_b p3)))
  walk_at "go"
  exact k _ (by assumption)
def sp_l_is_whole (K : PySem.W.Frag) : Sp := fun vs H Q E => ∃ (x : Int), vs = [.int x] ∧ Q (.bl true) H
theorem use_l_is_whole {K : PySem.W.Frag} {H : Hp} {Q : VK} {E : XK} {x : Int}  (k : Q (.bl true) H) : sp_l_is_whole K [.int x] H Q E := ⟨x, rfl, k⟩
theorem len_l_is_whole {K : PySem.W.Frag} (vs : List V) (H : Hp) (Q : VK) (E : XK) (h : sp_l_is_whole K vs H Q E) : vs.length = ["_law_told"].length := by
  obtain ⟨_, rfl, _⟩ := h
  rfl
local macro_rules | `(tactic| walk_at "g_call") => `(tactic| ((with_reducible refine' use_l_is_whole ?_); intros))
theorem ok_l_is_whole (T : Txt K mg) : FnOk P w K mg base CX0 1 T.a_l_is_whole T.d_l_is_whole ["_law_told"] (sp_l_is_whole K) := by
  refine T.F_l_is_whole.ok sc_l_is_whole len_l_is_whole (fun cdv A outer s H vs Q E hr h => ?_)
  refine ⟨_, (pss_one (ps_ret (pe_and (pe_callB call_isi (by rfl) T.z_isinstance (by decide +kernel) (pa_cons (pv 0) (pa_cons (pe_bltn (v := .ty "int") rfl T.z_int (by decide +kernel) rfl) pa_nil))) (pe_one (pe_not (pe_callB call_isi (by rfl) T.z_isinstance (by decide +kernel) (pa_cons (pv 0) (pa_cons (pe_bltn (v := .ty "bool") rfl T.z_bool (by decide +kernel) rfl) pa_nil)))))))), ?_⟩
  try dsimp only [L2.cxOf, L2.Cx.nox, L2.Cx.wish]
  obtain ⟨x, rfl, k⟩ := h
  refine start_to (σ := [some _]) rfl ?_
  walk_at "go"
  exact k
def sp_l_is_it (K : PySem.W.Frag) : Sp := fun vs H Q E => ∃ (p q : Addr) (a b : Int), vs = [.ref p, .ref q] ∧ (H p = some (.tup [.int a, .int b])) ∧ (SqT K H q [.int a, .int b]) ∧ Q (.bl true) H
theorem use_l_is_it {K : PySem.W.Frag} {H : Hp} {Q : VK} {E : XK} {p q : Addr} {a b : Int} (p0 : H p = some (.tup [.int a, .int b])) (p1 : SqT K H q [.int a, .int b]) (k : Q (.bl true) H) : sp_l_is_it K [.ref p, .ref q] H Q E := ⟨p, q, a, b, rfl, p0, p1, k⟩
theorem len_l_is_it {K : PySem.W.Frag} (vs : List V) (H : Hp) (Q : VK) (E : XK) (h : sp_l_is_it K vs H Q E) : vs.length = ["_law_told", "_law_due"].length := by
  obtain ⟨_, _, _, _, rfl, _⟩ := h
  rfl
local macro_rules | `(tactic| walk_at "g_call") => `(tactic| ((with_reducible refine' use_l_is_it ?c0 ?c1 ?_); (case c0 => walk_at "g_pre"); (case c1 => walk_at "g_pre"); intros))
theorem ok_l_is_it (T : Txt K mg) : FnOk P w K mg base CX0 2 T.a_l_is_it T.d_l_is_it ["_law_told", "_law_due"] (sp_l_is_it K) := by
  have G_l_is_whole := ok_l_is_whole (P := P) (w := w) (base := base) T
  refine T.F_l_is_it.ok sc_l_is_it len_l_is_it (fun cdv A outer s H vs Q E hr h => ?_)
  refine ⟨_, (pss_cons (ps_if (PW.pt (pw_or (pt_not (pt_val (pe_callB call_isi (by rfl) T.z_isinstance (by decide +kernel) (pa_cons (pv 0) (pa_cons (pe_bltn (v := .ty "tuple") rfl T.z_tuple (by decide +kernel) rfl) pa_nil))))) (pw_or (pt_cmpR op_ne (pe_callB call_len_seq (by rfl) T.z_len (by decide +kernel) (pa_cons (pv 0) pa_nil)) pe_int (nomark _)) (pw_or (pt_not (pt_val (pe_call G_l_is_whole (hr.mono (by decide)) (by rfl) T.g_l_is_whole T.F_l_is_whole.kp T.b_l_is_whole .nil pass0 (pa_cons (pe_ix ix_tup (pv 0) pe_int (fun _ _ => rfl)) pa_nil)))) (pw_or1 (pt_not (pt_val (pe_call G_l_is_whole (hr.mono (by decide)) (by rfl) T.g_l_is_whole T.F_l_is_whole.kp T.b_l_is_whole .nil pass0 (pa_cons (pe_ix ix_tup (pv 0) pe_int (fun _ _ => rfl)) pa_nil))))))))) (pss_one (ps_ret pe_bl)) pss_nil)
      (pss_one (ps_ret (pe_cmpR (op_eqD hr.units) (pv 0) (pv 1) (nomark _))))), ?_⟩
  try dsimp only [L2.cxOf, L2.Cx.nox, L2.Cx.wish]
  obtain ⟨p, q, a, b, rfl, p0, p1, k⟩ := h
  refine start_to (σ := [some _, some _]) rfl ?_
  walk_at "go"
  have e : (a == a && (b == b && true)) = true := by simp
  rw [e]
  exact k

def sp_law (K : PySem.W.Frag) : Sp := fun vs H Q E => ∃ (a : Addr) (ns : List Int), vs = [.ref a] ∧ (SqL K H a (ns.map V.int)) ∧ (ns.length ≤ 63) ∧ ∀ (H' : Hp), Q (.bl true) H'
theorem use_law {K : PySem.W.Frag} {H : Hp} {Q : VK} {E : XK} {a : Addr} {ns : List Int} (p0 : SqL K H a (ns.map V.int)) (p1 : ns.length ≤ 63) (k : ∀ (H' : Hp), Q (.bl true) H') : sp_law K [.ref a] H Q E := ⟨a, ns, rfl, p0, p1, k⟩
theorem len_law {K : PySem.W.Frag} (vs : List V) (H : Hp) (Q : VK) (E : XK) (h : sp_law K vs H Q E) : vs.length = ["_law_script"].length := by
  obtain ⟨_, _, rfl, _⟩ := h
  rfl
theorem ok_law (T : Txt K mg) : FnOk P w K mg base CX0 4 T.a_law T.d_law ["_law_script"] (sp_law K) := by
  have G_l_opened := ok_l_opened (P := P) (w := w) (base := base) T
  have G_l_fraction := ok_l_fraction (P := P) (w := w) (base := base) T
  have G_l_is_it := ok_l_is_it (P := P) (w := w) (base := base) T
  have G_plus := ok_plus (P := P) (w := w) (base := base) T
  have G_l_in_lowest := ok_l_in_lowest (P := P) (w := w) (base := base) T
  have G_minus := ok_minus (P := P) (w := w) (base := base) T
  have G_times := ok_times (P := P) (w := w) (base := base) T
  have G_l_draw := ok_l_draw (P := P) (w := w) (base := base) T
  refine T.F_law.ok sc_law len_law (fun cdv A outer s H vs Q E hr h => ?_)
  refine ⟨_, (pss_cons (ps_for PassesOwn.never rfl (pi_list (pe_op op_cat (pe_lst (pa_cons pe_int pa_nil)) (pe_slice sl_list (pv 0) po_none (po_some pe_int)))) (pg_name (i := 1) sc_law.nd rfl (Or.inl rfl)) (pss_cons (ps_set (i := 2) sc_law.nd rfl (Or.inl rfl) (pe_call G_l_opened (hr.mono (by decide)) (by rfl) T.g_l_opened T.F_l_opened.kp T.b_l_opened .nil pass0 (pa_cons (pv 1) pa_nil)))
      (pss_cons (ps_set (i := 3) sc_law.nd rfl (Or.inl rfl) (pe_call G_l_fraction (hr.mono (by decide)) (by rfl) T.g_l_fraction T.F_l_fraction.kp T.b_l_fraction .nil pass0 (pa_cons (pv 2) pa_nil)))
      (pss_cons (ps_set (i := 4) sc_law.nd rfl (Or.inl rfl) (pe_ix ix_list (pe_lst (pa_cons (pe_call G_l_fraction (hr.mono (by decide)) (by rfl) T.g_l_fraction T.F_l_fraction.kp T.b_l_fraction .nil pass0 (pa_cons (pv 2) pa_nil)) (pa_cons (pv 3) (pa_cons (pe_tup (pa_cons (pe_op op_sub pe_int (pe_ix ix_tup (pv 3) pe_int (fun _ _ => rfl))) (pa_cons (pe_ix ix_tup (pv 3) pe_int (fun _ _ => rfl)) pa_nil))) pa_nil)))) (pe_op op_add (pe_op op_fdiv (pe_call G_l_draw (hr.mono (by decide)) (by rfl) T.g_l_draw T.F_l_draw.kp T.b_l_draw .nil pass0 (pa_cons (pv 2) (pa_cons pe_int pa_nil))) pe_int) (pe_callTy call_int1 (by rfl) T.z_int (by decide +kernel) (pa_cons (pe_cmpR op_eq (pe_op op_mod (pv 1) pe_int) pe_int (nomark _)) pa_nil))) (fun _ _ => rfl)))
      (pss_cons (ps_asg (pv 3) (pg_tup rfl (pgs_cons (pg_name (i := 5) sc_law.nd rfl (Or.inl rfl)) (pgs_cons (pg_name (i := 6) sc_law.nd rfl (Or.inl rfl)) pgs_nil))))
      (pss_cons (ps_asg (pv 4) (pg_tup rfl (pgs_cons (pg_name (i := 7) sc_law.nd rfl (Or.inl rfl)) (pgs_cons (pg_name (i := 8) sc_law.nd rfl (Or.inl rfl)) pgs_nil))))
      (pss_cons (ps_if (pt_not (pt_val (pe_call G_l_is_it (hr.mono (by decide)) (by rfl) T.g_l_is_it T.F_l_is_it.kp T.b_l_is_it .nil pass0 (pa_cons (pe_call G_plus (hr.mono (by decide)) (by rfl) T.g_plus T.F_plus.kp T.b_plus .nil pass0 (pa_cons (pv 3) (pa_cons (pv 4) pa_nil))) (pa_cons (pe_call G_l_in_lowest (hr.mono (by decide)) (by rfl) T.g_l_in_lowest T.F_l_in_lowest.kp T.b_l_in_lowest .nil pass0 (pa_cons (pe_op op_add (pe_op op_mulA (pv 5) (pv 8)) (pe_op op_mulA (pv 7) (pv 6))) (pa_cons (pe_op op_mulA (pv 6) (pv 8)) pa_nil))) pa_nil))))) (pss_one (ps_ret pe_bl)) pss_nil)
      (pss_cons (ps_if (pt_not (pt_val (pe_call G_l_is_it (hr.mono (by decide)) (by rfl) T.g_l_is_it T.F_l_is_it.kp T.b_l_is_it .nil pass0 (pa_cons (pe_call G_minus (hr.mono (by decide)) (by rfl) T.g_minus T.F_minus.kp T.b_minus .nil pass0 (pa_cons (pv 3) (pa_cons (pv 4) pa_nil))) (pa_cons (pe_call G_l_in_lowest (hr.mono (by decide)) (by rfl) T.g_l_in_lowest T.F_l_in_lowest.kp T.b_l_in_lowest .nil pass0 (pa_cons (pe_op op_sub (pe_op op_mulA (pv 5) (pv 8)) (pe_op op_mulA (pv 7) (pv 6))) (pa_cons (pe_op op_mulA (pv 6) (pv 8)) pa_nil))) pa_nil))))) (pss_one (ps_ret pe_bl)) pss_nil)
      (pss_one (ps_if (pt_not (pt_val (pe_call G_l_is_it (hr.mono (by decide)) (by rfl) T.g_l_is_it T.F_l_is_it.kp T.b_l_is_it .nil pass0 (pa_cons (pe_call G_times (hr.mono (by decide)) (by rfl) T.g_times T.F_times.kp T.b_times .nil pass0 (pa_cons (pv 3) (pa_cons (pv 4) pa_nil))) (pa_cons (pe_call G_l_in_lowest (hr.mono (by decide)) (by rfl) T.g_l_in_lowest T.F_l_in_lowest.kp T.b_l_in_lowest .nil pass0 (pa_cons (pe_op op_mulA (pv 5) (pv 7)) (pa_cons (pe_op op_mulA (pv 6) (pv 8)) pa_nil))) pa_nil))))) (pss_one (ps_ret pe_bl)) pss_nil))))))))))
      (pss_one (ps_ret pe_bl))), ?_⟩
  try dsimp only [L2.cxOf, L2.Cx.nox, L2.Cx.wish]
  obtain ⟨a, ns, rfl, p0, p1, k⟩ := h
  refine start_to (σ := [some _, none, none, none, none, none, none, none, none]) rfl ?_
  walk_at "go"
  rename_i p1 hp1 p2 hp2 p3 hp3
  obtain ⟨ms, hms⟩ : ∃ ms : List Int, [V.int 3] ++ List.take (Int.toNat 60) (List.map V.int ns) = ms.map V.int := ⟨3 :: ns.take 60, by rw [List.map_cons, List.map_take]; rfl⟩
  rw [hms]
  refine forL (xs := ms.map V.int) (fun i σ H1 => ∃ y1 y2 y3 y4 y5 y6 y7 y8 : Option V, σ = [some (.ref a), y1, y2, y3, y4, y5, y6, y7, y8] ∧ H1 p3 = some (.lst (ms.map V.int))) ⟨_, _, _, _, _, _, _, _, rfl, upd_same⟩ ?_ ?_ ?_
  · rintro i σ H1 _ ⟨y1, y2, y3, y4, y5, y6, y7, y8, rfl, h⟩
    exact SqL.of h
  · rintro σ H1 ⟨y1, y2, y3, y4, y5, y6, y7, y8, rfl, h⟩
    walk_at "go"
    exact k _
  · rintro i x σ H1 hx ⟨y1, y2, y3, y4, y5, y6, y7, y8, rfl, h⟩
    obtain ⟨z, rfl, _⟩ := ints_at hx
    clear hp1 hp2 hp3 p0 p1 hms hx
    walk_at "go"
    rename_i n m pL L0 npL n1 c1 u v pF H2 e1 e2 e3 e4 e5 e6 e7 n3 c3 u3 v3 q1 H4 g1 g2 g3 g4 g5 g6 g7 q2 nq2 q3 nq3 d4 n4 c4 H5 i1 i2 i3 i4 i5 vv hvv
    have hp3 : p3 ≠ pL := ne_of_none h npL
    have hpF : pF ≠ pL := fun z => by
      rw [z, upd_same] at e6
      cases e6
    have hq1 : q1 ≠ pL := ne_new' g6 e1
    have j1 : H5 q1 = some (.tup [.int u3, .int v3]) := by walk_at "g_lk"
    have j2 : H5 pF = some (.tup [.int u, .int v]) := by walk_at "g_lk"
    have j4 : H5 q2 = some (.tup [.int (0 - u), .int v]) := by walk_at "g_lk"
    have j5 : H5 p3 = some (.lst (ms.map V.int)) := by walk_at "g_lk"
    have e7' : Frac (0 - u) v := ⟨by have := e7.1; omega, e7.2⟩
    obtain ⟨uo, vo, j6, j7⟩ : IsF H5 vv := by
      rcases hvv with rfl | rfl | rfl
      · exact ⟨_, _, j1, g7⟩
      · exact ⟨_, _, j2, e7⟩
      · exact ⟨_, _, j4, e7'⟩
    clear hvv g1 g2 i1 i4 i5 j1 j4 g5 nq2 nq3 e5 e6 g6 e1 e2 h npL
    have b1 := frac_mul e7 j7
    have b2 := frac_mul j7 e7
    have b3 := frac_mulR e7 j7
    have b4 := frac_mulT e7 j7
    have n0 := vv_ne e7 j7
    have w1 := And.intro (add_bits (m200 e7.1 (fr_b j7)) (m200 j7.1 (fr_b e7))) (up_bits (m200 (fr_b e7) (fr_b j7)))
    have w2 := And.intro (sub_bits (m200 e7.1 (fr_b j7)) (m200 j7.1 (fr_b e7))) (up_bits (m200 (fr_b e7) (fr_b j7)))
    have w3 := And.intro (up_bits (m200 e7.1 j7.1)) (up_bits (m200 (fr_b e7) (fr_b j7)))
    walk_at "go"
    exact ⟨_, _, _, _, _, _, _, _, rfl, by walk_at "g_lk"⟩
end
theorem mk_txt {K : PySem.W.Frag} {h : Heap} {mg : Str → Option Value} {f_divisor : Addr} {o_divisor n_divisor : Option Addr} {w_divisor : Array (Option Value)} {q1_divisor q2_divisor q3_divisor q4_divisor q5_divisor q6_divisor : Value} {f_ratio : Addr} {o_ratio n_ratio : Option Addr} {w_ratio : Array (Option Value)} {q1_ratio q2_ratio q3_ratio q4_ratio q5_ratio q6_ratio : Value} {f_plus : Addr} {o_plus n_plus : Option Addr} {w_plus : Array (Option Value)} {q1_plus q2_plus q3_plus q4_plus q5_plus q6_plus : Value} {f_minus : Addr} {o_minus n_minus : Option Addr} {w_minus : Array (Option Value)} {q1_minus q2_minus q3_minus q4_minus q5_minus q6_minus : Value} {f_times : Addr} {o_times n_times : Option Addr} {w_times : Array (Option Value)} {q1_times q2_times q3_times q4_times q5_times q6_times : Value} {f_l_stirred : Addr} {o_l_stirred n_l_stirred : Option Addr} {w_l_stirred : Array (Option Value)} {q1_l_stirred q2_l_stirred q3_l_stirred q4_l_stirred q5_l_stirred q6_l_stirred : Value} {f_l_opened : Addr} {o_l_opened n_l_opened : Option Addr} {w_l_opened : Array (Option Value)} {q1_l_opened q2_l_opened q3_l_opened q4_l_opened q5_l_opened q6_l_opened : Value} {f_l_draw : Addr} {o_l_draw n_l_draw : Option Addr} {w_l_draw : Array (Option Value)} {q1_l_draw q2_l_draw q3_l_draw q4_l_draw q5_l_draw q6_l_draw : Value} {f_l_in_lowest : Addr} {o_l_in_lowest n_l_in_lowest : Option Addr} {w_l_in_lowest : Array (Option Value)} {q1_l_in_lowest q2_l_in_lowest q3_l_in_lowest q4_l_in_lowest q5_l_in_lowest q6_l_in_lowest : Value} {f_l_fraction : Addr} {o_l_fraction n_l_fraction : Option Addr} {w_l_fraction : Array (Option Value)} {q1_l_fraction q2_l_fraction q3_l_fraction q4_l_fraction q5_l_fraction q6_l_fraction : Value} {f_l_is_whole : Addr} {o_l_is_whole n_l_is_whole : Option Addr} {w_l_is_whole : Array (Option Value)} {q1_l_is_whole q2_l_is_whole q3_l_is_whole q4_l_is_whole q5_l_is_whole q6_l_is_whole : Value} {f_l_is_it : Addr} {o_l_is_it n_l_is_it : Option Addr} {w_l_is_it : Array (Option Value)} {q1_l_is_it q2_l_is_it q3_l_is_it q4_l_is_it q5_l_is_it q6_l_is_it : Value} {f_law : Addr} {o_law n_law : Option Addr} {w_law : Array (Option Value)} {q1_law q2_law q3_law q4_law q5_law q6_law : Value} (X : K.In h) (G : h.Ns mainGlobals mg)
    (a_divisor : PySem.W.nsIn K mainGlobals "divisor" = some (some (.ref f_divisor)))
    (l_divisor : K.lookup f_divisor = some ⟨q1_divisor, o_divisor, .func (PySem.W.fnOf "divisor" "divisor" (defArgs s_divisor) (defBody s_divisor) (defScope s_divisor) .none q2_divisor q3_divisor q4_divisor n_divisor q5_divisor q6_divisor), w_divisor⟩)
    (c_divisor : PySem.W.codeIn K q5_divisor "divisor" = true)
    (k_divisor : PySem.W.keepIn K (.ref f_divisor) = true)
    (a_ratio : PySem.W.nsIn K mainGlobals "ratio" = some (some (.ref f_ratio)))
    (l_ratio : K.lookup f_ratio = some ⟨q1_ratio, o_ratio, .func (PySem.W.fnOf "ratio" "ratio" (defArgs s_ratio) (defBody s_ratio) (defScope s_ratio) .none q2_ratio q3_ratio q4_ratio n_ratio q5_ratio q6_ratio), w_ratio⟩)
    (c_ratio : PySem.W.codeIn K q5_ratio "ratio" = true)
    (k_ratio : PySem.W.keepIn K (.ref f_ratio) = true)
    (a_plus : PySem.W.nsIn K mainGlobals "plus" = some (some (.ref f_plus)))
    (l_plus : K.lookup f_plus = some ⟨q1_plus, o_plus, .func (PySem.W.fnOf "plus" "plus" (defArgs s_plus) (defBody s_plus) (defScope s_plus) .none q2_plus q3_plus q4_plus n_plus q5_plus q6_plus), w_plus⟩)
    (c_plus : PySem.W.codeIn K q5_plus "plus" = true)
    (k_plus : PySem.W.keepIn K (.ref f_plus) = true)
    (a_minus : PySem.W.nsIn K mainGlobals "minus" = some (some (.ref f_minus)))
    (l_minus : K.lookup f_minus = some ⟨q1_minus, o_minus, .func (PySem.W.fnOf "minus" "minus" (defArgs s_minus) (defBody s_minus) (defScope s_minus) .none q2_minus q3_minus q4_minus n_minus q5_minus q6_minus), w_minus⟩)
    (c_minus : PySem.W.codeIn K q5_minus "minus" = true)
    (k_minus : PySem.W.keepIn K (.ref f_minus) = true)
    (a_times : PySem.W.nsIn K mainGlobals "times" = some (some (.ref f_times)))
    (l_times : K.lookup f_times = some ⟨q1_times, o_times, .func (PySem.W.fnOf "times" "times" (defArgs s_times) (defBody s_times) (defScope s_times) .none q2_times q3_times q4_times n_times q5_times q6_times), w_times⟩)
    (c_times : PySem.W.codeIn K q5_times "times" = true)
    (k_times : PySem.W.keepIn K (.ref f_times) = true)
    (a_l_stirred : PySem.W.nsIn K mainGlobals "_law_stirred" = some (some (.ref f_l_stirred)))
    (l_l_stirred : K.lookup f_l_stirred = some ⟨q1_l_stirred, o_l_stirred, .func (PySem.W.fnOf "_law_stirred" "_law_stirred" (defArgs s_l_stirred) (defBody s_l_stirred) (defScope s_l_stirred) .none q2_l_stirred q3_l_stirred q4_l_stirred n_l_stirred q5_l_stirred q6_l_stirred), w_l_stirred⟩)
    (c_l_stirred : PySem.W.codeIn K q5_l_stirred "_law_stirred" = true)
    (k_l_stirred : PySem.W.keepIn K (.ref f_l_stirred) = true)
    (a_l_opened : PySem.W.nsIn K mainGlobals "_law_opened" = some (some (.ref f_l_opened)))
    (l_l_opened : K.lookup f_l_opened = some ⟨q1_l_opened, o_l_opened, .func (PySem.W.fnOf "_law_opened" "_law_opened" (defArgs s_l_opened) (defBody s_l_opened) (defScope s_l_opened) .none q2_l_opened q3_l_opened q4_l_opened n_l_opened q5_l_opened q6_l_opened), w_l_opened⟩)
    (c_l_opened : PySem.W.codeIn K q5_l_opened "_law_opened" = true)
    (k_l_opened : PySem.W.keepIn K (.ref f_l_opened) = true)
    (a_l_draw : PySem.W.nsIn K mainGlobals "_law_draw" = some (some (.ref f_l_draw)))
    (l_l_draw : K.lookup f_l_draw = some ⟨q1_l_draw, o_l_draw, .func (PySem.W.fnOf "_law_draw" "_law_draw" (defArgs s_l_draw) (defBody s_l_draw) (defScope s_l_draw) .none q2_l_draw q3_l_draw q4_l_draw n_l_draw q5_l_draw q6_l_draw), w_l_draw⟩)
    (c_l_draw : PySem.W.codeIn K q5_l_draw "_law_draw" = true)
    (k_l_draw : PySem.W.keepIn K (.ref f_l_draw) = true)
    (a_l_in_lowest : PySem.W.nsIn K mainGlobals "_law_in_lowest" = some (some (.ref f_l_in_lowest)))
    (l_l_in_lowest : K.lookup f_l_in_lowest = some ⟨q1_l_in_lowest, o_l_in_lowest, .func (PySem.W.fnOf "_law_in_lowest" "_law_in_lowest" (defArgs s_l_in_lowest) (defBody s_l_in_lowest) (defScope s_l_in_lowest) .none q2_l_in_lowest q3_l_in_lowest q4_l_in_lowest n_l_in_lowest q5_l_in_lowest q6_l_in_lowest), w_l_in_lowest⟩)
    (c_l_in_lowest : PySem.W.codeIn K q5_l_in_lowest "_law_in_lowest" = true)
    (k_l_in_lowest : PySem.W.keepIn K (.ref f_l_in_lowest) = true)
    (a_l_fraction : PySem.W.nsIn K mainGlobals "_law_fraction" = some (some (.ref f_l_fraction)))
    (l_l_fraction : K.lookup f_l_fraction = some ⟨q1_l_fraction, o_l_fraction, .func (PySem.W.fnOf "_law_fraction" "_law_fraction" (defArgs s_l_fraction) (defBody s_l_fraction) (defScope s_l_fraction) .none q2_l_fraction q3_l_fraction q4_l_fraction n_l_fraction q5_l_fraction q6_l_fraction), w_l_fraction⟩)
    (c_l_fraction : PySem.W.codeIn K q5_l_fraction "_law_fraction" = true)
    (k_l_fraction : PySem.W.keepIn K (.ref f_l_fraction) = true)
    (a_l_is_whole : PySem.W.nsIn K mainGlobals "_law_is_whole" = some (some (.ref f_l_is_whole)))
    (l_l_is_whole : K.lookup f_l_is_whole = some ⟨q1_l_is_whole, o_l_is_whole, .func (PySem.W.fnOf "_law_is_whole" "_law_is_whole" (defArgs s_l_is_whole) (defBody s_l_is_whole) (defScope s_l_is_whole) .none q2_l_is_whole q3_l_is_whole q4_l_is_whole n_l_is_whole q5_l_is_whole q6_l_is_whole), w_l_is_whole⟩)
    (c_l_is_whole : PySem.W.codeIn K q5_l_is_whole "_law_is_whole" = true)
    (k_l_is_whole : PySem.W.keepIn K (.ref f_l_is_whole) = true)
    (a_l_is_it : PySem.W.nsIn K mainGlobals "_law_is_it" = some (some (.ref f_l_is_it)))
    (l_l_is_it : K.lookup f_l_is_it = some ⟨q1_l_is_it, o_l_is_it, .func (PySem.W.fnOf "_law_is_it" "_law_is_it" (defArgs s_l_is_it) (defBody s_l_is_it) (defScope s_l_is_it) .none q2_l_is_it q3_l_is_it q4_l_is_it n_l_is_it q5_l_is_it q6_l_is_it), w_l_is_it⟩)
    (c_l_is_it : PySem.W.codeIn K q5_l_is_it "_law_is_it" = true)
    (k_l_is_it : PySem.W.keepIn K (.ref f_l_is_it) = true)
    (a_law : PySem.W.nsIn K mainGlobals "law" = some (some (.ref f_law)))
    (l_law : K.lookup f_law = some ⟨q1_law, o_law, .func (PySem.W.fnOf "law" "law" (defArgs s_law) (defBody s_law) (defScope s_law) .none q2_law q3_law q4_law n_law q5_law q6_law), w_law⟩)
    (c_law : PySem.W.codeIn K q5_law "law" = true)
    (k_law : PySem.W.keepIn K (.ref f_law) = true)
    (z_abs : PySem.W.nsIn K mainGlobals "abs" = some none)
    (z_bool : PySem.W.nsIn K mainGlobals "bool" = some none)
    (z_int : PySem.W.nsIn K mainGlobals "int" = some none)
    (z_isinstance : PySem.W.nsIn K mainGlobals "isinstance" = some none)
    (z_len : PySem.W.nsIn K mainGlobals "len" = some none)
    (z_range : PySem.W.nsIn K mainGlobals "range" = some none)
    (z_tuple : PySem.W.nsIn K mainGlobals "tuple" = some none) : ∃ T : Txt K mg, T.a_law = f_law ∧ ∀ (s : Shared) (v : Value), BindsTo s T.d_law ⟨[v], []⟩ [("_law_script", v)] :=
  ⟨{ a_divisor := f_divisor,
      d_divisor := _,
      F_divisor := fun_mk (st := s_divisor) l_divisor c_divisor k_divisor,
      g_divisor := PySem.W.mg_of X G a_divisor,
      b_divisor := (fun_mk (st := s_divisor) l_divisor c_divisor k_divisor).binds fun _ _ _ _ _ _ us hl => match us, hl with | [_, _], _ => rfl,
      a_ratio := f_ratio,
      d_ratio := _,
      F_ratio := fun_mk (st := s_ratio) l_ratio c_ratio k_ratio,
      g_ratio := PySem.W.mg_of X G a_ratio,
      b_ratio := (fun_mk (st := s_ratio) l_ratio c_ratio k_ratio).binds fun _ _ _ _ _ _ us hl => match us, hl with | [_, _], _ => rfl,
      a_plus := f_plus,
      d_plus := _,
      F_plus := fun_mk (st := s_plus) l_plus c_plus k_plus,
      g_plus := PySem.W.mg_of X G a_plus,
      b_plus := (fun_mk (st := s_plus) l_plus c_plus k_plus).binds fun _ _ _ _ _ _ us hl => match us, hl with | [_, _], _ => rfl,
      a_minus := f_minus,
      d_minus := _,
      F_minus := fun_mk (st := s_minus) l_minus c_minus k_minus,
      g_minus := PySem.W.mg_of X G a_minus,
      b_minus := (fun_mk (st := s_minus) l_minus c_minus k_minus).binds fun _ _ _ _ _ _ us hl => match us, hl with | [_, _], _ => rfl,
      a_times := f_times,
      d_times := _,
      F_times := fun_mk (st := s_times) l_times c_times k_times,
      g_times := PySem.W.mg_of X G a_times,
      b_times := (fun_mk (st := s_times) l_times c_times k_times).binds fun _ _ _ _ _ _ us hl => match us, hl with | [_, _], _ => rfl,
      a_l_stirred := f_l_stirred,
      d_l_stirred := _,
      F_l_stirred := fun_mk (st := s_l_stirred) l_l_stirred c_l_stirred k_l_stirred,
      g_l_stirred := PySem.W.mg_of X G a_l_stirred,
      b_l_stirred := (fun_mk (st := s_l_stirred) l_l_stirred c_l_stirred k_l_stirred).binds fun _ _ _ _ _ _ us hl => match us, hl with | [_, _], _ => rfl,
      a_l_opened := f_l_opened,
      d_l_opened := _,
      F_l_opened := fun_mk (st := s_l_opened) l_l_opened c_l_opened k_l_opened,
      g_l_opened := PySem.W.mg_of X G a_l_opened,
      b_l_opened := (fun_mk (st := s_l_opened) l_l_opened c_l_opened k_l_opened).binds fun _ _ _ _ _ _ us hl => match us, hl with | [_], _ => rfl,
      a_l_draw := f_l_draw,
      d_l_draw := _,
      F_l_draw := fun_mk (st := s_l_draw) l_l_draw c_l_draw k_l_draw,
      g_l_draw := PySem.W.mg_of X G a_l_draw,
      b_l_draw := (fun_mk (st := s_l_draw) l_l_draw c_l_draw k_l_draw).binds fun _ _ _ _ _ _ us hl => match us, hl with | [_, _], _ => rfl,
      a_l_in_lowest := f_l_in_lowest,
      d_l_in_lowest := _,
      F_l_in_lowest := fun_mk (st := s_l_in_lowest) l_l_in_lowest c_l_in_lowest k_l_in_lowest,
      g_l_in_lowest := PySem.W.mg_of X G a_l_in_lowest,
      b_l_in_lowest := (fun_mk (st := s_l_in_lowest) l_l_in_lowest c_l_in_lowest k_l_in_lowest).binds fun _ _ _ _ _ _ us hl => match us, hl with | [_, _], _ => rfl,
      a_l_fraction := f_l_fraction,
      d_l_fraction := _,
      F_l_fraction := fun_mk (st := s_l_fraction) l_l_fraction c_l_fraction k_l_fraction,
      g_l_fraction := PySem.W.mg_of X G a_l_fraction,
      b_l_fraction := (fun_mk (st := s_l_fraction) l_l_fraction c_l_fraction k_l_fraction).binds fun _ _ _ _ _ _ us hl => match us, hl with | [_], _ => rfl,
      a_l_is_whole := f_l_is_whole,
      d_l_is_whole := _,
      F_l_is_whole := fun_mk (st := s_l_is_whole) l_l_is_whole c_l_is_whole k_l_is_whole,
      g_l_is_whole := PySem.W.mg_of X G a_l_is_whole,
      b_l_is_whole := (fun_mk (st := s_l_is_whole) l_l_is_whole c_l_is_whole k_l_is_whole).binds fun _ _ _ _ _ _ us hl => match us, hl with | [_], _ => rfl,
      a_l_is_it := f_l_is_it,
      d_l_is_it := _,
      F_l_is_it := fun_mk (st := s_l_is_it) l_l_is_it c_l_is_it k_l_is_it,
      g_l_is_it := PySem.W.mg_of X G a_l_is_it,
      b_l_is_it := (fun_mk (st := s_l_is_it) l_l_is_it c_l_is_it k_l_is_it).binds fun _ _ _ _ _ _ us hl => match us, hl with | [_, _], _ => rfl,
      a_law := f_law,
      d_law := _,
      F_law := fun_mk (st := s_law) l_law c_law k_law,
      g_law := PySem.W.mg_of X G a_law,
      b_law := (fun_mk (st := s_law) l_law c_law k_law).binds fun _ _ _ _ _ _ us hl => match us, hl with | [_], _ => rfl,
      z_abs := PySem.W.mg_none_of X G z_abs,
      z_bool := PySem.W.mg_none_of X G z_bool,
      z_int := PySem.W.mg_none_of X G z_int,
      z_isinstance := PySem.W.mg_none_of X G z_isinstance,
      z_len := PySem.W.mg_none_of X G z_len,
      z_range := PySem.W.mg_none_of X G z_range,
      z_tuple := PySem.W.mg_none_of X G z_tuple }, rfl, fun _ _ => .of_eq rfl⟩
theorem all_mk {P : Program} {w : World} {K : PySem.W.Frag} {h : Heap} {mg : Str → Option Value} {fa : Addr} {f_divisor : Addr} {o_divisor n_divisor : Option Addr} {w_divisor : Array (Option Value)} {q1_divisor q2_divisor q3_divisor q4_divisor q5_divisor q6_divisor : Value} {f_ratio : Addr} {o_ratio n_ratio : Option Addr} {w_ratio : Array (Option Value)} {q1_ratio q2_ratio q3_ratio q4_ratio q5_ratio q6_ratio : Value} {f_plus : Addr} {o_plus n_plus : Option Addr} {w_plus : Array (Option Value)} {q1_plus q2_plus q3_plus q4_plus q5_plus q6_plus : Value} {f_minus : Addr} {o_minus n_minus : Option Addr} {w_minus : Array (Option Value)} {q1_minus q2_minus q3_minus q4_minus q5_minus q6_minus : Value} {f_times : Addr} {o_times n_times : Option Addr} {w_times : Array (Option Value)} {q1_times q2_times q3_times q4_times q5_times q6_times : Value} {f_l_stirred : Addr} {o_l_stirred n_l_stirred : Option Addr} {w_l_stirred : Array (Option Value)} {q1_l_stirred q2_l_stirred q3_l_stirred q4_l_stirred q5_l_stirred q6_l_stirred : Value} {f_l_opened : Addr} {o_l_opened n_l_opened : Option Addr} {w_l_opened : Array (Option Value)} {q1_l_opened q2_l_opened q3_l_opened q4_l_opened q5_l_opened q6_l_opened : Value} {f_l_draw : Addr} {o_l_draw n_l_draw : Option Addr} {w_l_draw : Array (Option Value)} {q1_l_draw q2_l_draw q3_l_draw q4_l_draw q5_l_draw q6_l_draw : Value} {f_l_in_lowest : Addr} {o_l_in_lowest n_l_in_lowest : Option Addr} {w_l_in_lowest : Array (Option Value)} {q1_l_in_lowest q2_l_in_lowest q3_l_in_lowest q4_l_in_lowest q5_l_in_lowest q6_l_in_lowest : Value} {f_l_fraction : Addr} {o_l_fraction n_l_fraction : Option Addr} {w_l_fraction : Array (Option Value)} {q1_l_fraction q2_l_fraction q3_l_fraction q4_l_fraction q5_l_fraction q6_l_fraction : Value} {f_l_is_whole : Addr} {o_l_is_whole n_l_is_whole : Option Addr} {w_l_is_whole : Array (Option Value)} {q1_l_is_whole q2_l_is_whole q3_l_is_whole q4_l_is_whole q5_l_is_whole q6_l_is_whole : Value} {f_l_is_it : Addr} {o_l_is_it n_l_is_it : Option Addr} {w_l_is_it : Array (Option Value)} {q1_l_is_it q2_l_is_it q3_l_is_it q4_l_is_it q5_l_is_it q6_l_is_it : Value} {f_law : Addr} {o_law n_law : Option Addr} {w_law : Array (Option Value)} {q1_law q2_law q3_law q4_law q5_law q6_law : Value} (X : K.In h) (G : h.Ns mainGlobals mg) (hfa : mg "law" = some (.ref fa))
    (a_divisor : PySem.W.nsIn K mainGlobals "divisor" = some (some (.ref f_divisor)))
    (l_divisor : K.lookup f_divisor = some ⟨q1_divisor, o_divisor, .func (PySem.W.fnOf "divisor" "divisor" (defArgs s_divisor) (defBody s_divisor) (defScope s_divisor) .none q2_divisor q3_divisor q4_divisor n_divisor q5_divisor q6_divisor), w_divisor⟩)
    (c_divisor : PySem.W.codeIn K q5_divisor "divisor" = true)
    (k_divisor : PySem.W.keepIn K (.ref f_divisor) = true)
    (a_ratio : PySem.W.nsIn K mainGlobals "ratio" = some (some (.ref f_ratio)))
    (l_ratio : K.lookup f_ratio = some ⟨q1_ratio, o_ratio, .func (PySem.W.fnOf "ratio" "ratio" (defArgs s_ratio) (defBody s_ratio) (defScope s_ratio) .none q2_ratio q3_ratio q4_ratio n_ratio q5_ratio q6_ratio), w_ratio⟩)
    (c_ratio : PySem.W.codeIn K q5_ratio "ratio" = true)
    (k_ratio : PySem.W.keepIn K (.ref f_ratio) = true)
    (a_plus : PySem.W.nsIn K mainGlobals "plus" = some (some (.ref f_plus)))
    (l_plus : K.lookup f_plus = some ⟨q1_plus, o_plus, .func (PySem.W.fnOf "plus" "plus" (defArgs s_plus) (defBody s_plus) (defScope s_plus) .none q2_plus q3_plus q4_plus n_plus q5_plus q6_plus), w_plus⟩)
    (c_plus : PySem.W.codeIn K q5_plus "plus" = true)
    (k_plus : PySem.W.keepIn K (.ref f_plus) = true)
    (a_minus : PySem.W.nsIn K mainGlobals "minus" = some (some (.ref f_minus)))
    (l_minus : K.lookup f_minus = some ⟨q1_minus, o_minus, .func (PySem.W.fnOf "minus" "minus" (defArgs s_minus) (defBody s_minus) (defScope s_minus) .none q2_minus q3_minus q4_minus n_minus q5_minus q6_minus), w_minus⟩)
    (c_minus : PySem.W.codeIn K q5_minus "minus" = true)
    (k_minus : PySem.W.keepIn K (.ref f_minus) = true)
    (a_times : PySem.W.nsIn K mainGlobals "times" = some (some (.ref f_times)))
    (l_times : K.lookup f_times = some ⟨q1_times, o_times, .func (PySem.W.fnOf "times" "times" (defArgs s_times) (defBody s_times) (defScope s_times) .none q2_times q3_times q4_times n_times q5_times q6_times), w_times⟩)
    (c_times : PySem.W.codeIn K q5_times "times" = true)
    (k_times : PySem.W.keepIn K (.ref f_times) = true)
    (a_l_stirred : PySem.W.nsIn K mainGlobals "_law_stirred" = some (some (.ref f_l_stirred)))
    (l_l_stirred : K.lookup f_l_stirred = some ⟨q1_l_stirred, o_l_stirred, .func (PySem.W.fnOf "_law_stirred" "_law_stirred" (defArgs s_l_stirred) (defBody s_l_stirred) (defScope s_l_stirred) .none q2_l_stirred q3_l_stirred q4_l_stirred n_l_stirred q5_l_stirred q6_l_stirred), w_l_stirred⟩)
    (c_l_stirred : PySem.W.codeIn K q5_l_stirred "_law_stirred" = true)
    (k_l_stirred : PySem.W.keepIn K (.ref f_l_stirred) = true)
    (a_l_opened : PySem.W.nsIn K mainGlobals "_law_opened" = some (some (.ref f_l_opened)))
    (l_l_opened : K.lookup f_l_opened = some ⟨q1_l_opened, o_l_opened, .func (PySem.W.fnOf "_law_opened" "_law_opened" (defArgs s_l_opened) (defBody s_l_opened) (defScope s_l_opened) .none q2_l_opened q3_l_opened q4_l_opened n_l_opened q5_l_opened q6_l_opened), w_l_opened⟩)
    (c_l_opened : PySem.W.codeIn K q5_l_opened "_law_opened" = true)
    (k_l_opened : PySem.W.keepIn K (.ref f_l_opened) = true)
    (a_l_draw : PySem.W.nsIn K mainGlobals "_law_draw" = some (some (.ref f_l_draw)))
    (l_l_draw : K.lookup f_l_draw = some ⟨q1_l_draw, o_l_draw, .func (PySem.W.fnOf "_law_draw" "_law_draw" (defArgs s_l_draw) (defBody s_l_draw) (defScope s_l_draw) .none q2_l_draw q3_l_draw q4_l_draw n_l_draw q5_l_draw q6_l_draw), w_l_draw⟩)
    (c_l_draw : PySem.W.codeIn K q5_l_draw "_law_draw" = true)
    (k_l_draw : PySem.W.keepIn K (.ref f_l_draw) = true)
    (a_l_in_lowest : PySem.W.nsIn K mainGlobals "_law_in_lowest" = some (some (.ref f_l_in_lowest)))
    (l_l_in_lowest : K.lookup f_l_in_lowest = some ⟨q1_l_in_lowest, o_l_in_lowest, .func (PySem.W.fnOf "_law_in_lowest" "_law_in_lowest" (defArgs s_l_in_lowest) (defBody s_l_in_lowest) (defScope s_l_in_lowest) .none q2_l_in_lowest q3_l_in_lowest q4_l_in_lowest n_l_in_lowest q5_l_in_lowest q6_l_in_lowest), w_l_in_lowest⟩)
    (c_l_in_lowest : PySem.W.codeIn K q5_l_in_lowest "_law_in_lowest" = true)
    (k_l_in_lowest : PySem.W.keepIn K (.ref f_l_in_lowest) = true)
    (a_l_fraction : PySem.W.nsIn K mainGlobals "_law_fraction" = some (some (.ref f_l_fraction)))
    (l_l_fraction : K.lookup f_l_fraction = some ⟨q1_l_fraction, o_l_fraction, .func (PySem.W.fnOf "_law_fraction" "_law_fraction" (defArgs s_l_fraction) (defBody s_l_fraction) (defScope s_l_fraction) .none q2_l_fraction q3_l_fraction q4_l_fraction n_l_fraction q5_l_fraction q6_l_fraction), w_l_fraction⟩)
    (c_l_fraction : PySem.W.codeIn K q5_l_fraction "_law_fraction" = true)
    (k_l_fraction : PySem.W.keepIn K (.ref f_l_fraction) = true)
    (a_l_is_whole : PySem.W.nsIn K mainGlobals "_law_is_whole" = some (some (.ref f_l_is_whole)))
    (l_l_is_whole : K.lookup f_l_is_whole = some ⟨q1_l_is_whole, o_l_is_whole, .func (PySem.W.fnOf "_law_is_whole" "_law_is_whole" (defArgs s_l_is_whole) (defBody s_l_is_whole) (defScope s_l_is_whole) .none q2_l_is_whole q3_l_is_whole q4_l_is_whole n_l_is_whole q5_l_is_whole q6_l_is_whole), w_l_is_whole⟩)
    (c_l_is_whole : PySem.W.codeIn K q5_l_is_whole "_law_is_whole" = true)
    (k_l_is_whole : PySem.W.keepIn K (.ref f_l_is_whole) = true)
    (a_l_is_it : PySem.W.nsIn K mainGlobals "_law_is_it" = some (some (.ref f_l_is_it)))
    (l_l_is_it : K.lookup f_l_is_it = some ⟨q1_l_is_it, o_l_is_it, .func (PySem.W.fnOf "_law_is_it" "_law_is_it" (defArgs s_l_is_it) (defBody s_l_is_it) (defScope s_l_is_it) .none q2_l_is_it q3_l_is_it q4_l_is_it n_l_is_it q5_l_is_it q6_l_is_it), w_l_is_it⟩)
    (c_l_is_it : PySem.W.codeIn K q5_l_is_it "_law_is_it" = true)
    (k_l_is_it : PySem.W.keepIn K (.ref f_l_is_it) = true)
    (a_law : PySem.W.nsIn K mainGlobals "law" = some (some (.ref f_law)))
    (l_law : K.lookup f_law = some ⟨q1_law, o_law, .func (PySem.W.fnOf "law" "law" (defArgs s_law) (defBody s_law) (defScope s_law) .none q2_law q3_law q4_law n_law q5_law q6_law), w_law⟩)
    (c_law : PySem.W.codeIn K q5_law "law" = true)
    (k_law : PySem.W.keepIn K (.ref f_law) = true)
    (z_abs : PySem.W.nsIn K mainGlobals "abs" = some none)
    (z_bool : PySem.W.nsIn K mainGlobals "bool" = some none)
    (z_int : PySem.W.nsIn K mainGlobals "int" = some none)
    (z_isinstance : PySem.W.nsIn K mainGlobals "isinstance" = some none)
    (z_len : PySem.W.nsIn K mainGlobals "len" = some none)
    (z_range : PySem.W.nsIn K mainGlobals "range" = some none)
    (z_tuple : PySem.W.nsIn K mainGlobals "tuple" = some none) : ∃ fd : FuncData, (∀ (s : Shared) (v : Value), BindsTo s fd ⟨[v], []⟩ [("_law_script", v)]) ∧ ∀ base : Heap, K.In base → base.Ns mainGlobals mg → FnOk P w K mg base CX0 4 fa fd ["_law_script"] (sp_law K) := by
  obtain ⟨T, e1, e2⟩ := mk_txt X G a_divisor l_divisor c_divisor k_divisor a_ratio l_ratio c_ratio k_ratio a_plus l_plus c_plus k_plus a_minus l_minus c_minus k_minus a_times l_times c_times k_times a_l_stirred l_l_stirred c_l_stirred k_l_stirred a_l_opened l_l_opened c_l_opened k_l_opened a_l_draw l_l_draw c_l_draw k_l_draw a_l_in_lowest l_l_in_lowest c_l_in_lowest k_l_in_lowest a_l_fraction l_l_fraction c_l_fraction k_l_fraction a_l_is_whole l_l_is_whole c_l_is_whole k_l_is_whole a_l_is_it l_l_is_it c_l_is_it k_l_is_it a_law l_law c_law k_law z_abs z_bool z_int z_isinstance z_len z_range z_tuple
  have e := hfa.symm.trans (PySem.W.mg_of X G a_law)
  cases e
  exact ⟨T.d_law, e2, fun base _ _ => e1 ▸ ok_law T⟩
end K02
open PySem PySem.W PyProof.Rows
set_option maxHeartbeats 0 in
theorem PySem.Challenge.cw_hostfields_k02_sums_and_products_holds : PySem.Challenge.rw_hostfields_k02_sums_and_products.Holds := by
  w_on; o_law; k_head; (case hw => w_witness2)
  k_fill
  refine L2.walk_of (l := PySem.Challenge.rw_hostfields_k02_sums_and_products) (n := 63) (k := 4) (x := "_law_script") (CX := fun _ => L2.CX0) (sp := fun w => K02.sp_law _) rfl (by decide) rfl ⟨rfl, by decide, by decide⟩ (fun w h Y => PySem.W.kIn_of Y) ?F (fun _ _ a ns hl _ hS => ⟨a, ns, rfl, hS, hl, fun _ => rfl⟩) (fun _ _ _ _ _ h => h)
  case F =>
    intro w mg fa h KX G hmg
    refine' K02.all_mk KX G hmg ?a_divisor ?l_divisor ?c_divisor ?k_divisor ?a_ratio ?l_ratio ?c_ratio ?k_ratio ?a_plus ?l_plus ?c_plus ?k_plus ?a_minus ?l_minus ?c_minus ?k_minus ?a_times ?l_times ?c_times ?k_times ?a_l_stirred ?l_l_stirred ?c_l_stirred ?k_l_stirred ?a_l_opened ?l_l_opened ?c_l_opened ?k_l_opened ?a_l_draw ?l_l_draw ?c_l_draw ?k_l_draw ?a_l_in_lowest ?l_l_in_lowest ?c_l_in_lowest ?k_l_in_lowest ?a_l_fraction ?l_l_fraction ?c_l_fraction ?k_l_fraction ?a_l_is_whole ?l_l_is_whole ?c_l_is_whole ?k_l_is_whole ?a_l_is_it ?l_l_is_it ?c_l_is_it ?k_l_is_it ?a_law ?l_law ?c_law ?k_law ?z_abs ?z_bool ?z_int ?z_isinstance ?z_len ?z_range ?z_tuple
    (case a_divisor => k_is); (case l_divisor => k_is); (case c_divisor => k_is); (case k_divisor => k_is); (case a_ratio => k_is); (case l_ratio => k_is); (case c_ratio => k_is); (case k_ratio => k_is); (case a_plus => k_is); (case l_plus => k_is); (case c_plus => k_is); (case k_plus => k_is); (case a_minus => k_is); (case l_minus => k_is); (case c_minus => k_is); (case k_minus => k_is); (case a_times => k_is); (case l_times => k_is); (case c_times => k_is); (case k_times => k_is); (case a_l_stirred => k_is); (case l_l_stirred => k_is); (case c_l_stirred => k_is); (case k_l_stirred => k_is); (case a_l_opened => k_is); (case l_l_opened => k_is); (case c_l_opened => k_is); (case k_l_opened => k_is); (case a_l_draw => k_is); (case l_l_draw => k_is); (case c_l_draw => k_is); (case k_l_draw => k_is); (case a_l_in_lowest => k_is); (case l_l_in_lowest => k_is); (case c_l_in_lowest => k_is); (case k_l_in_lowest => k_is); (case a_l_fraction => k_is); (case l_l_fraction => k_is); (case c_l_fraction => k_is); (case k_l_fraction => k_is); (case a_l_is_whole => k_is); (case l_l_is_whole => k_is); (case c_l_is_whole => k_is); (case k_l_is_whole => k_is); (case a_l_is_it => k_is); (case l_l_is_it => k_is); (case c_l_is_it => k_is); (case k_l_is_it => k_is); (case a_law => k_is); (case l_law => k_is); (case c_law => k_is); (case k_law => k_is); (case z_abs => k_is); (case z_bool => k_is); (case z_int => k_is); (case z_isinstance => k_is); (case z_len => k_is); (case z_range => k_is); (case z_tuple => k_is)

