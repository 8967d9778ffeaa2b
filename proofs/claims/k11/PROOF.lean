import PyProof.Rows.All
import Wide.All
import OpenK.AllK
import Wide.FinOn
import HandS.ForMost
import HandS.Wide
import HandS.IsInst
import HandS.TupAny
import HandS.TryOnly
import HandS.Style
import PySem.Challenge.RW_hostfields_k11_plans_by_numbers
set_option Elab.async false
set_option linter.all false
set_option maxRecDepth 100000
set_option maxHeartbeats 4000000
/-! ## the engine: the readings, one step a lemma; «walk_at "go"» walks as far as it goes -/
namespace Hf
open PySem PySem.Spec PyProof.Rows L2
/-- every tracked object but the one at a is as it was -/
def But (a : Addr) (H H' : Hp) : Prop := ∀ b o, b ≠ a → H b = some o → H' b = some o
theorem But.same {a : Addr} {H H' : Hp} (e : Same H H') : But a H H' := fun b o _ h => e b o h
theorem But.refl (a : Addr) (H : Hp) : But a H H := fun _ _ _ h => h
theorem But.trans {a : Addr} {H H1 H2 : Hp} (x : But a H H1) (y : But a H1 H2) : But a H H2 := fun b o n h => y b o n (x b o n h)
theorem But.upd {a : Addr} {H H1 : Hp} {o : HO} (x : But a H H1) : But a H (upd H1 a o) := fun b u n h => by
  rw [upd_ne n]
  exact x b u n h
theorem But.new {a p : Addr} {H H1 : Hp} {o : HO} (x : But a H H1) (hp : H1 p = none) : But a H (L2.upd H1 p o) := fun b u n h => by
  have h1 := x b u n h
  rw [upd_ne (ne_of_none h1 hp)]
  exact h1
theorem But.to_same {a : Addr} {H H' : Hp} (x : But a H H') (n : H a = none) : Same H H' := fun b o h => x b o (ne_of_none h n) h
theorem Same.new {H : Hp} {p : Addr} {o : HO} (hp : H p = none) : Same H (upd H p o) := fun b u h => by
  rw [upd_ne (ne_of_none h hp)]
  exact h
theorem Same.newT {H0 H : Hp} {p : Addr} {o : HO} (e : Same H0 H) (hp : H p = none) : Same H0 (upd H p o) := e.trans (Same.new hp)
/-- a change at an object that H0 does not know -/
theorem Same.mut {H0 H : Hp} {p : Addr} {o : HO} (e : Same H0 H) (hp : H0 p = none) : Same H0 (upd H p o) := fun b u h => by
  rw [upd_ne (ne_of_none h hp)]
  exact e b u h
theorem Same.but {H0 H H1 : Hp} {p : Addr} (e : Same H0 H) (hp : H0 p = none) (x : But p H H1) : Same H0 H1 := fun b u h => x b u (ne_of_none h hp) (e b u h)
theorem Same.seqT {K : PySem.W.Frag} {H H' : Hp} {a : Addr} {xs : List V} (e : Same H H') (h : SqT K H a xs) : SqT K H' a xs := by
  rcases h with (h | ⟨o, h⟩) | h
  · exact .inl (.inl (e _ _ h))
  · exact .inl (.inr ⟨o, e _ _ h⟩)
  · exact .inr h
theorem But.seq {K : PySem.W.Frag} {H H' : Hp} {a b : Addr} {xs : List V} (e : But a H H') (n : b ≠ a) (h : SqL K H b xs) : SqL K H' b xs := by
  rcases h with (h | ⟨o, h⟩) | h
  · exact .inl (.inl (e _ _ n h))
  · exact .inl (.inr ⟨o, e _ _ n h⟩)
  · exact .inr h
theorem But.seqT {K : PySem.W.Frag} {H H' : Hp} {a b : Addr} {xs : List V} (e : But a H H') (n : b ≠ a) (h : SqT K H b xs) : SqT K H' b xs := by
  rcases h with (h | ⟨o, h⟩) | h
  · exact .inl (.inl (e _ _ n h))
  · exact .inl (.inr ⟨o, e _ _ n h⟩)
  · exact .inr h
/-- a guard: its way is barred where P is at hand -/
def Guard (_ : Prop) : Prop := True
theorem Guard.of {P : Prop} (_ : P) : Guard P := trivial
theorem lk_upd {H : Hp} {a b : Addr} {o u : HO} (n : b ≠ a) (h : H b = some u) : upd H a o b = some u := by
  rw [upd_ne n]
  exact h
theorem lk_new {H : Hp} {a b : Addr} {o u : HO} (n : H a = none) (h : H b = some u) : upd H a o b = some u := by
  rw [upd_ne (ne_of_none h n)]
  exact h
theorem lk_updG {H : Hp} {a b : Addr} {o u : HO} (_ : Guard (H a = none)) (n : b ≠ a) (h : H b = some u) : upd H a o b = some u := lk_upd n h
theorem lk_none {H H' : Hp} {a : Addr} (e : Same H H') (n : H' a = none) : H a = none := e.free n
theorem lkL_new {K : PySem.W.Frag} {H : Hp} {a b : Addr} {o : HO} {xs : List V} (n : H a = none) (h : SqL K H b xs) : SqL K (upd H a o) b xs := (Same.new n).seq h
theorem lkT_new {K : PySem.W.Frag} {H : Hp} {a b : Addr} {o : HO} {xs : List V} (n : H a = none) (h : SqT K H b xs) : SqT K (upd H a o) b xs := Same.seqT (Same.new n) h
theorem lkL_upd {K : PySem.W.Frag} {H : Hp} {a b : Addr} {o : HO} {xs : List V} (n : b ≠ a) (h : SqL K H b xs) : SqL K (upd H a o) b xs := But.seq (But.upd (But.refl a H)) n h
theorem lkT_upd {K : PySem.W.Frag} {H : Hp} {a b : Addr} {o : HO} {xs : List V} (n : b ≠ a) (h : SqT K H b xs) : SqT K (upd H a o) b xs := But.seqT (But.upd (But.refl a H)) n h
theorem lkL_updG {K : PySem.W.Frag} {H : Hp} {a b : Addr} {o : HO} {xs : List V} (_ : Guard (H a = none)) (n : b ≠ a) (h : SqL K H b xs) : SqL K (upd H a o) b xs := lkL_upd n h
theorem lkT_updG {K : PySem.W.Frag} {H : Hp} {a b : Addr} {o : HO} {xs : List V} (_ : Guard (H a = none)) (n : b ≠ a) (h : SqT K H b xs) : SqT K (upd H a o) b xs := lkT_upd n h
theorem ne_new {H : Hp} {a b : Addr} {o : HO} (n : H b = none) (h : H a = some o) : a ≠ b := ne_of_none h n
theorem ne_new' {H : Hp} {a b : Addr} {o : HO} (n : H b = none) (h : H a = some o) : b ≠ a := (ne_of_none h n).symm
theorem ne_at {α : Type} {a b : α} (h : a ≠ b) : b ≠ a := h.symm
/-! ### sizes -/
theorem sz4 {n : Nat} (h : n ≤ 1000000) : n ≤ sizeLine := Nat.le_trans h (by decide)
theorem sz4' {n : Nat} (h : n ≤ 1000000) : n < sizeLine := Nat.lt_of_le_of_lt h (by decide)
/-! ### two operators, wider -/
def CMulA (i j : Int) : Prop := CMul i j ∨ CMulW i j
theorem CMulA.ok {i j : Int} (h : CMulA i j) : IntMulOk i j := h.elim CMul.ok CMulW.ok
theorem op_mulA {X : Cx} : OpR X (binaryOp .Mult) (rI CMulA fun i j => .int (i * j)) := opI fun _ _ _ _ _ _ _ hc q => mul_int q hc.ok
def CDivA (_ j : Int) : Prop := j ≠ 0 ∧ j.natAbs.log2 < 9000
theorem op_fdivA {X : Cx} : OpR X (binaryOp .FloorDiv) (rI CDivA fun i j => .int (i.fdiv j)) := opI fun _ _ _ _ _ _ _ hc q => floordiv_int hc.1 q (.inl (PyProof.noPylong_of_log2 hc.2))
theorem mulL {i j : Int} (h : -(2 ^ 64) < i ∧ i < 2 ^ 64) : CMulA i j := .inl (.inl h)
theorem mulR {i j : Int} (h : -(2 ^ 64) < j ∧ j < 2 ^ 64) : CMulA i j := .inl (.inr h)
theorem log_lt {j : Int} {b : Nat} (h : j.natAbs < 2 ^ b) (h0 : 0 < b) (h9 : b ≤ 9000) : j.natAbs.log2 < 9000 := Nat.lt_of_lt_of_le (PySem.Flt.log2_lt_of h0 h) h9
theorem log_small {j : Int} (h : -(2 ^ 200) < j ∧ j < 2 ^ 200) : j.natAbs.log2 < 9000 := log_lt (b := 200) (by omega) (by decide) (by decide)
theorem mulW {i j : Int} {a b : Nat} (ha : i.natAbs < 2 ^ a) (hb : j.natAbs < 2 ^ b) (h0 : 0 < a) (h1 : 0 < b) (h : a + b ≤ 1000000) : CMulA i j := .inr (wide_mul ha hb h0 h1 h)
theorem divS {i j : Int} (h0 : j ≠ 0) (h : -(2 ^ 200) < j ∧ j < 2 ^ 200) : CDivA i j := ⟨h0, log_small h⟩
/-! ### the steps -/
section
variable {σ σ' : L2.St} {H : Hp} {Q : VK} {x y v : V} {i j : Int} {n : Nat} {nx bk ct : L2.St → Hp → Prop} {rt : VK} {K : PySem.W.Frag} {a p : Addr} {xs : List V}
theorem start_to {N : List Str} {vs : List V} {t : TS} {D : Ends} (e : start N vs = σ) (h : t D σ H) : t D (start N vs) H := by
  rw [e]
  exact h
theorem i_ends {t : TS} {rt : VK} (h : t ⟨fun _ H' => rt .non H', rt, fun _ _ => False, fun _ _ => False⟩ σ H) : t { nx := fun _ H' => rt .non H', rt := rt } σ H := h
theorem i_seq {t u : TS} (h : t ⟨u ⟨nx, rt, bk, ct⟩, rt, bk, ct⟩ σ H) : tSeq t u ⟨nx, rt, bk, ct⟩ σ H := h
theorem i_asg {te : TE} {g : TG} (h : te σ H fun x H1 => g x σ H1 nx) : tAsg te g ⟨nx, rt, bk, ct⟩ σ H := h
theorem i_gname {k : Nat} {Z : L2.St → Hp → Prop} (e : σ.set k (some v) = σ') (q : Z σ' H) : gName k v σ H Z := by
  subst e
  exact q
theorem i_ret {te : TE} (h : te σ H rt) : tRet te ⟨nx, rt, bk, ct⟩ σ H := h
theorem i_retN (h : rt .non H) : tRetN ⟨nx, rt, bk, ct⟩ σ H := h
theorem i_next (h : nx σ H) : tNext ⟨nx, rt, bk, ct⟩ σ H := h
theorem i_brk (h : bk σ H) : tBreak ⟨nx, rt, bk, ct⟩ σ H := h
theorem i_cnt (h : ct σ H) : tCont ⟨nx, rt, bk, ct⟩ σ H := h
theorem i_drop {te : TE} (h : te σ H fun _ H1 => nx σ H1) : tDrop te ⟨nx, rt, bk, ct⟩ σ H := h
theorem i_ifs {c : TT} {t u : TS} (h : c σ H fun b H1 => if b = true then t ⟨nx, rt, bk, ct⟩ σ H1 else u ⟨nx, rt, bk, ct⟩ σ H1) : tIfS c t u ⟨nx, rt, bk, ct⟩ σ H := h
theorem i_var {k : Nat} (h : σ[k]? = some (some v)) (q : Q v H) : tVar k σ H Q := ⟨v, h, q⟩
theorem i_c (q : Q v H) : tC v σ H Q := q
theorem i_op {r : R2} {ta tb : TE} (h : ta σ H fun x H1 => tb σ H1 fun y H2 => r x y H2 Q) : tOp r ta tb σ H Q := h
theorem i_un {r : V → Hp → VK → Prop} {ta : TE} (h : ta σ H fun x H1 => r x H1 Q) : tUn r ta σ H Q := h
theorem i_I0 {g : Int → Int → V} (q : Q (g i j) H) : rI0 g (.int i) (.int j) H Q := ⟨i, j, rfl, rfl, q⟩
theorem i_I {C : Int → Int → Prop} {g : Int → Int → V} (c : C i j) (q : Q (g i j) H) : rI C g (.int i) (.int j) H Q := ⟨i, j, rfl, rfl, c, q⟩
theorem i_pow {m : Int} (c : CPow i j) (e : i ^ j.toNat = m) (q : Q (.int m) H) : rI CPow (fun i j => .int (i ^ j.toNat)) (.int i) (.int j) H Q := ⟨i, j, rfl, rfl, c, by
  show Q (.int (i ^ j.toNat)) H
  rw [e]
  exact q⟩
theorem i_U {g : Int → V} (q : Q (g i) H) : rU g (.int i) H Q := ⟨i, rfl, q⟩
theorem i_eqI (q : Q (.bl (decide (i = j))) H) : rEq (.int i) (.int j) H Q := ⟨rfl, by
  have e : decide (V.int i = V.int j) = decide (i = j) := by
    by_cases h : i = j
    · rw [decide_eq_true h, decide_eq_true (congrArg V.int h)]
    · rw [decide_eq_false h, decide_eq_false fun z => h (V.int.inj z)]
  rw [e]
  exact q⟩
theorem i_neI (q : Q (.bl (!decide (i = j))) H) : rNe (.int i) (.int j) H Q := ⟨rfl, by
  have e : decide (V.int i = V.int j) = decide (i = j) := by
    by_cases h : i = j
    · rw [decide_eq_true h, decide_eq_true (congrArg V.int h)]
    · rw [decide_eq_false h, decide_eq_false fun z => h (V.int.inj z)]
  rw [e]
  exact q⟩
theorem i_eqB {c d : Bool} (q : Q (.bl (c == d)) H) : rEq (.bl c) (.bl d) H Q := ⟨rfl, by
  rw [dec_bl]
  exact q⟩
theorem i_neB {c d : Bool} (q : Q (.bl (!(c == d))) H) : rNe (.bl c) (.bl d) H Q := ⟨rfl, by
  rw [dec_bl]
  exact q⟩
theorem i_eqS {c d : Str} (q : Q (.bl (c == d)) H) : rEq (.str c) (.str d) H Q := ⟨rfl, by
  rw [dec_str]
  exact q⟩
theorem i_neS {c d : Str} (q : Q (.bl (!(c == d))) H) : rNe (.str c) (.str d) H Q := ⟨rfl, by
  rw [dec_str]
  exact q⟩
theorem i_test {te : TE} {P : Bool → Hp → Prop} (h : te σ H fun x H1 => ∃ k, x = .bl k ∧ P k H1) : tTest te σ H P := h
theorem i_B {te : TE} {P : Bool → Hp → Prop} (h : te σ H fun x H1 => ∃ k, x = .bl k ∧ P k H1) : tB te σ H P := h
theorem i_bl {b : Bool} {P : Bool → Prop} (q : P b) : ∃ k, V.bl b = .bl k ∧ P k := ⟨b, rfl, q⟩
theorem i_and {t u : TT} {P : Bool → Hp → Prop} (h : t σ H fun c H1 => if c = true then u σ H1 P else P false H1) : tAnd t u σ H P := h
theorem i_or {t u : TT} {P : Bool → Hp → Prop} (h : t σ H fun c H1 => if c = true then P true H1 else u σ H1 P) : tOr t u σ H P := h
theorem i_not {t : TT} {P : Bool → Hp → Prop} (h : t σ H fun c H1 => P (!c) H1) : tNot t σ H P := h
theorem i_andV {ta tb : TE} (h : ta σ H fun x H1 => ∃ c, x = .bl c ∧ if c = true then tb σ H1 Q else Q (.bl false) H1) : tAndV ta tb σ H Q := h
theorem i_orV {ta tb : TE} (h : ta σ H fun x H1 => ∃ c, x = .bl c ∧ if c = true then Q (.bl true) H1 else tb σ H1 Q) : tOrV ta tb σ H Q := h
theorem i_notV {ta : TE} (h : ta σ H fun x H1 => ∃ c, x = .bl c ∧ Q (.bl (!c)) H1) : tNotV ta σ H Q := h
theorem i_ife {t : TT} {ta tb : TE} (h : t σ H fun c H1 => if c = true then ta σ H1 Q else tb σ H1 Q) : tIf t ta tb σ H Q := h
theorem i_call {sp : Sp} {E : XK} {t : TA} (h : t σ H fun vs H1 => sp vs H1 Q E) : tCall sp [] E t σ H Q := by
  have e : (fun vs H1 => sp (vs ++ []) H1 Q E) = fun vs H1 => sp vs H1 Q E := by
    funext vs H1
    rw [List.append_nil]
  show t σ H (fun vs H1 => sp (vs ++ []) H1 Q E)
  rw [e]
  exact h
theorem i_cb {r : List V → Hp → VK → Prop} {t : TA} (h : t σ H fun vs H1 => r vs H1 Q) : tCB r t σ H Q := h
theorem i_nil {P : List V → Hp → Prop} (q : P [] H) : tNil σ H P := q
theorem i_cons {ta : TE} {tr : TA} {P : List V → Hp → Prop} (h : ta σ H fun x H1 => tr σ H1 fun xs H2 => P (x :: xs) H2) : tCons ta tr σ H P := h
theorem i_tup {t : TA} (h : t σ H fun xs H1 => xs.length ≤ sizeLine ∧ ∀ p, H1 p = none → Q (.ref p) (upd H1 p (.tup xs))) : tTup t σ H Q := h
theorem i_lst {t : TA} (h : t σ H fun xs H1 => xs.length ≤ sizeLine ∧ ∀ p, H1 p = none → Q (.ref p) (upd H1 p (.lst xs))) : tLst t σ H Q := h
theorem i_new {R : Addr → Prop} (hz : xs.length ≤ sizeLine) (q : ∀ p, H p = none → R p) : xs.length ≤ sizeLine ∧ ∀ p, H p = none → R p := ⟨hz, q⟩
theorem i_ixL (h : SqL K H p xs) (e : atI xs i = some v) (q : Q v H) : rIxL K (.ref p) (.int i) H Q := ⟨p, xs, i, v, rfl, rfl, h, e, q⟩
theorem i_ixT (h : SqT K H p xs) (e : atI xs i = some v) (q : Q v H) : rIxT K (.ref p) (.int i) H Q := ⟨p, xs, i, v, rfl, rfl, h, e, q⟩
theorem at_lt {α : Type} {xs : List α} {i : Int} (h0 : 0 ≤ i) (h1 : i < xs.length) : ∃ v, atI xs i = some v ∧ xs[i.toNat]? = some v := by
  have hk : i.toNat < xs.length := by omega
  refine ⟨xs[i.toNat], ?_, List.getElem?_eq_getElem hk⟩
  have e := atI_nat (xs := xs) (j := i.toNat) (v := xs[i.toNat]) (List.getElem?_eq_getElem hk)
  rw [Int.toNat_of_nonneg h0] at e
  exact e
/-- an item at an open place: one of those written -/
theorem i_ix2 {y1 y2 : V} (h : SqL K H p [y1, y2]) (h0 : 0 ≤ i) (h1 : i < 2) (q : ∀ v, v = y1 ∨ v = y2 → Q v H) : rIxL K (.ref p) (.int i) H Q := by
  rcases (by omega : i = 0 ∨ i = 1) with e | e <;> subst e
  · exact ⟨p, _, _, y1, rfl, rfl, h, rfl, q _ (.inl rfl)⟩
  · exact ⟨p, _, _, y2, rfl, rfl, h, rfl, q _ (.inr rfl)⟩
theorem i_ix2I {y1 y2 : Int} (h : SqL K H p [.int y1, .int y2]) (h0 : 0 ≤ i) (h1 : i < 2) (q : ∀ v, v = y1 ∨ v = y2 → Q (.int v) H) : rIxL K (.ref p) (.int i) H Q := by
  rcases (by omega : i = 0 ∨ i = 1) with e | e <;> subst e
  · exact ⟨p, _, _, .int y1, rfl, rfl, h, rfl, q _ (.inl rfl)⟩
  · exact ⟨p, _, _, .int y2, rfl, rfl, h, rfl, q _ (.inr rfl)⟩
theorem i_ix3I {y1 y2 y3 : Int} (h : SqL K H p [.int y1, .int y2, .int y3]) (h0 : 0 ≤ i) (h1 : i < 3) (q : ∀ v, v = y1 ∨ v = y2 ∨ v = y3 → Q (.int v) H) : rIxL K (.ref p) (.int i) H Q := by
  rcases (by omega : i = 0 ∨ i = 1 ∨ i = 2) with e | e | e <;> subst e
  · exact ⟨p, _, _, .int y1, rfl, rfl, h, rfl, q _ (.inl rfl)⟩
  · exact ⟨p, _, _, .int y2, rfl, rfl, h, rfl, q _ (.inr (.inl rfl))⟩
  · exact ⟨p, _, _, .int y3, rfl, rfl, h, rfl, q _ (.inr (.inr rfl))⟩
theorem i_ix4I {y1 y2 y3 y4 : Int} (h : SqL K H p [.int y1, .int y2, .int y3, .int y4]) (h0 : 0 ≤ i) (h1 : i < 4) (q : ∀ v, v = y1 ∨ v = y2 ∨ v = y3 ∨ v = y4 → Q (.int v) H) : rIxL K (.ref p) (.int i) H Q := by
  rcases (by omega : i = 0 ∨ i = 1 ∨ i = 2 ∨ i = 3) with e | e | e | e <;> subst e
  · exact ⟨p, _, _, .int y1, rfl, rfl, h, rfl, q _ (.inl rfl)⟩
  · exact ⟨p, _, _, .int y2, rfl, rfl, h, rfl, q _ (.inr (.inl rfl))⟩
  · exact ⟨p, _, _, .int y3, rfl, rfl, h, rfl, q _ (.inr (.inr (.inl rfl)))⟩
  · exact ⟨p, _, _, .int y4, rfl, rfl, h, rfl, q _ (.inr (.inr (.inr rfl)))⟩
theorem i_ix3R {y1 y2 y3 : Addr} (h : SqL K H p [.ref y1, .ref y2, .ref y3]) (h0 : 0 ≤ i) (h1 : i < 3) (q : ∀ v, v = y1 ∨ v = y2 ∨ v = y3 → Q (.ref v) H) : rIxL K (.ref p) (.int i) H Q := by
  rcases (by omega : i = 0 ∨ i = 1 ∨ i = 2) with e | e | e <;> subst e
  · exact ⟨p, _, _, .ref y1, rfl, rfl, h, rfl, q _ (.inl rfl)⟩
  · exact ⟨p, _, _, .ref y2, rfl, rfl, h, rfl, q _ (.inr (.inl rfl))⟩
  · exact ⟨p, _, _, .ref y3, rfl, rfl, h, rfl, q _ (.inr (.inr rfl))⟩
theorem i_ix4R {y1 y2 y3 y4 : Addr} (h : SqL K H p [.ref y1, .ref y2, .ref y3, .ref y4]) (h0 : 0 ≤ i) (h1 : i < 4) (q : ∀ v, v = y1 ∨ v = y2 ∨ v = y3 ∨ v = y4 → Q (.ref v) H) : rIxL K (.ref p) (.int i) H Q := by
  rcases (by omega : i = 0 ∨ i = 1 ∨ i = 2 ∨ i = 3) with e | e | e | e <;> subst e
  · exact ⟨p, _, _, .ref y1, rfl, rfl, h, rfl, q _ (.inl rfl)⟩
  · exact ⟨p, _, _, .ref y2, rfl, rfl, h, rfl, q _ (.inr (.inl rfl))⟩
  · exact ⟨p, _, _, .ref y3, rfl, rfl, h, rfl, q _ (.inr (.inr (.inl rfl)))⟩
  · exact ⟨p, _, _, .ref y4, rfl, rfl, h, rfl, q _ (.inr (.inr (.inr rfl)))⟩
theorem i_gtup {m : Nat} {t : TGs} {Z : L2.St → Hp → Prop} (h : SqT K H p xs) (e : xs.length = m) (q : t xs σ H Z) : gTup K m t (.ref p) σ H Z := ⟨p, xs, rfl, h, e, q⟩
theorem i_gtupL {m : Nat} {t : TGs} {Z : L2.St → Hp → Prop} (h : SqT K H p xs) (e : xs.length = m) (q : t xs σ H Z) : gTup K m t (.ref p) σ H Z := ⟨p, xs, rfl, h, e, q⟩
theorem i_gcons {t : TG} {u : TGs} {r : List V} {Z : L2.St → Hp → Prop} (h : t v σ H fun σ1 H1 => u r σ1 H1 Z) : gCons t u (v :: r) σ H Z := ⟨v, r, rfl, h⟩
theorem i_gnil {Z : L2.St → Hp → Prop} (h : Z σ H) : gNil [] σ H Z := ⟨rfl, h⟩
theorem i_gsub {to ti : TE} {t : TSet} {Z : L2.St → Hp → Prop} (h : to σ H fun o H1 => ti σ H1 fun i H2 => t o i v H2 fun H3 => Z σ H3) : gSub to ti t v σ H Z := h
theorem i_setL {k : Nat} {Z : Hp → Prop} (h : H p = some (.lst xs)) (e : ixN xs.length i = some k) (q : Z (upd H p (.lst (xs.set k v)))) : rSetL (.ref p) (.int i) v H Z := ⟨p, xs, i, k, rfl, rfl, h, e, q⟩
def par2 (k1 k2 : Nat) (σ : L2.St) (Z : L2.St → Hp → Prop) : List V → Hp → Prop := fun vs H1 => ∃ v w, vs = [v, w] ∧ Z ((σ.set k1 (some v)).set k2 (some w)) H1
theorem i_par {k1 k2 : Nat} {ta : TA} (h : ta σ H (par2 k1 k2 σ nx)) : tPar k1 k2 ta ⟨nx, rt, bk, ct⟩ σ H := h
theorem i_par2 {k1 k2 : Nat} {w : V} {Z : L2.St → Hp → Prop} (e : (σ.set k1 (some v)).set k2 (some w) = σ') (q : Z σ' H) : par2 k1 k2 σ Z [v, w] H := by
  subst e
  exact ⟨v, w, rfl, q⟩
theorem i_aug {k : Nat} {te : TE} {ti : TIp} (h : σ[k]? = some (some x)) (q : te σ H fun y H1 => ti x y H1 fun z H2 => gName k z σ H2 nx) : tAug k te ti ⟨nx, rt, bk, ct⟩ σ H := ⟨x, h, q⟩
theorem i_ip {f : Int → Int → Int} (q : Q (.int (f i j)) H) : ipI f (.int i) (.int j) H Q := ⟨i, j, rfl, rfl, q⟩
theorem i_for {wi : TI} {g : TG} {tb : TS} (h : wi σ H fun J H1 => ∃ W : Nat → Nat → L2.St → Hp → Prop, (∃ m, W 0 m σ H1) ∧ ∀ i m σ H, W i m σ H →
  (J.stop i H ∧ nx σ H) ∨ (J.go i H ∧ ∃ N : L2.St → Hp → Prop, (∀ σ' H', N σ' H' → ∃ m', m' < m ∧ W (i + 1) m' σ' H') ∧ ∀ x H', J.yld i H x H' → g x σ H' fun σ2 H2 => tb ⟨N, rt, nx, N⟩ σ2 H2)) : tFor wi g tb ⟨nx, rt, bk, ct⟩ σ H := h
theorem i_rng1 {ta : TA} {R : It → Hp → Prop} (h : ta σ H fun vs H1 => ∃ j : Int, vs = [.int j] ∧ -(2 ^ 62) ≤ j ∧ j < 2 ^ 62 ∧ R (Itr 0 j.toNat) H1) : iRng1 ta σ H R := h
theorem i_rng1' {R : Int → Prop} (h1 : -(2 ^ 62) ≤ j) (h2 : j < 2 ^ 62) (q : R j) : ∃ j' : Int, [V.int j] = [.int j'] ∧ -(2 ^ 62) ≤ j' ∧ j' < 2 ^ 62 ∧ R j' := ⟨j, rfl, h1, h2, q⟩
theorem i_rng2 {ta : TA} {R : It → Hp → Prop} (h : ta σ H fun vs H1 => ∃ i j : Int, vs = [.int i, .int j] ∧ (-(2 ^ 62) ≤ i ∧ i < 2 ^ 62 ∧ -(2 ^ 62) ≤ j ∧ j < 2 ^ 62) ∧ R (Itr i (j - i).toNat) H1) : iRng2 ta σ H R := h
theorem i_rng2' {R : Int → Int → Prop} (h : -(2 ^ 62) ≤ i ∧ i < 2 ^ 62 ∧ -(2 ^ 62) ≤ j ∧ j < 2 ^ 62) (q : R i j) : ∃ i' j' : Int, [V.int i, V.int j] = [.int i', .int j'] ∧ (-(2 ^ 62) ≤ i' ∧ i' < 2 ^ 62 ∧ -(2 ^ 62) ≤ j' ∧ j' < 2 ^ 62) ∧ R i' j' := ⟨i, j, rfl, h, q⟩
theorem i_ilist {tl : TE} {R : It → Hp → Prop} (h : tl σ H fun x H1 => ∃ a, x = .ref a ∧ (∃ xs, SqL K H1 a xs) ∧ R (Itl K a) H1) : iList K tl σ H R := h
theorem i_ilist' {R : Addr → Prop} (h : SqL K H p xs) (q : R p) : ∃ a, V.ref p = .ref a ∧ (∃ xs, SqL K H a xs) ∧ R a := ⟨p, rfl, ⟨xs, h⟩, q⟩
theorem i_itup {tl : TE} {R : It → Hp → Prop} (h : tl σ H fun x H1 => ∃ a, x = .ref a ∧ (∃ xs, SqT K H1 a xs) ∧ R (Itt K a) H1) : iTup K tl σ H R := h
theorem i_itup' {R : Addr → Prop} (h : SqT K H p xs) (q : R p) : ∃ a, V.ref p = .ref a ∧ (∃ xs, SqT K H a xs) ∧ R a := ⟨p, rfl, ⟨xs, h⟩, q⟩
/-- built-ins by values -/
theorem i_abs {R : Int → Prop} (q : R i) : ∃ i', [V.int i] = [.int i'] ∧ R i' := ⟨i, rfl, q⟩
theorem i_int2 {R : Int → Int → Prop} (q : R i j) : ∃ i' j', [V.int i, V.int j] = [.int i', .int j'] ∧ R i' j' := ⟨i, j, rfl, q⟩

theorem i_int1 {R : Int → Prop} {S : Prop} (q : R i) : (∃ i', [V.int i] = [.int i'] ∧ R i') ∨ S := .inl ⟨i, rfl, q⟩
theorem i_intb {b : Bool} {R : Bool → Prop} {S : Prop} (q : R b) : S ∨ ∃ k, [V.bl b] = [.bl k] ∧ R k := .inr ⟨b, rfl, q⟩
theorem i_lenL {R : List V → Prop} (h : SqL K H p xs) (q : R xs) : ∃ p' ys, [V.ref p] = [.ref p'] ∧ (SqL K H p' ys ∨ SqT K H p' ys) ∧ R ys := ⟨p, xs, rfl, .inl h, q⟩
theorem i_lenT {R : List V → Prop} (h : SqT K H p xs) (q : R xs) : ∃ p' ys, [V.ref p] = [.ref p'] ∧ (SqL K H p' ys ∨ SqT K H p' ys) ∧ R ys := ⟨p, xs, rfl, .inr h, q⟩
theorem i_isi {t : String} {c : String} {b : Bool} (ty : TyX K H x (.type t)) (h : kitB t c = some b) (q : Q (.bl b) H) : rIsi K [x, .ty c] H Q := ⟨x, .ty c, .type t, .type c, b, rfl, .ty c, ty, kit_ty h, q⟩
theorem i_append (h : H p = some (.lst xs)) (hz : xs.length < sizeLine) (q : Q .non (upd H p (.lst (xs ++ [v])))) : rAppend (.ref p) [v] H Q := ⟨p, xs, v, rfl, rfl, h, hz, q⟩
theorem i_appendM {H : Hp} {Q : VK} {p : Addr} {ms : List Int} {z : Int} (h : H p = some (.lst (ms.map V.int))) (hz : ms.length < sizeLine) (q : Q .non (upd H p (.lst ((ms ++ [z]).map V.int)))) : rAppend (.ref p) [.int z] H Q := ⟨p, _, _, rfl, rfl, h, by rw [List.length_map]; exact hz, by rw [List.map_append] at q; exact q⟩
theorem i_bm {T : String} {r : V → List V → Hp → VK → Prop} {to : TE} {t : TA} (h : to σ H fun x H1 => tyV K T x H1 ∧ t σ H1 fun xs H2 => r x xs H2 Q) : tBM K T r to t σ H Q := h
theorem i_bm0 {T : String} {r : V → List V → Hp → VK → Prop} {to : TE} (h : to σ H fun x H1 => tyV K T x H1 ∧ r x [] H1 Q) : tBM0 K T r to σ H Q := h
theorem i_bmL {A : Prop} (h : SqL K H p xs) (q : A) : tyV K "list" (.ref p) H ∧ A := ⟨.inl ⟨rfl, _, h⟩, q⟩
/-! ### ifs -/
theorem ite_d {p A B : Prop} {d : Decidable p} (h1 : p → A) (h2 : ¬ p → B) : if (@decide p d) = true then A else B := by
  by_cases h : p
  · rw [if_pos (decide_eq_true h)]
    exact h1 h
  · rw [if_neg (by rw [decide_eq_false h]; decide)]
    exact h2 h
theorem ite_nd {p A B : Prop} {d : Decidable p} (h1 : ¬ p → A) (h2 : p → B) : if (!(@decide p d)) = true then A else B := by
  by_cases h : p
  · rw [if_neg (by rw [decide_eq_true h]; decide)]
    exact h2 h
  · rw [if_pos (by rw [decide_eq_false h]; decide)]
    exact h1 h
theorem ite_b {b : Bool} {A B : Prop} (h1 : b = true → A) (h2 : b = false → B) : if b = true then A else B := by
  cases b
  · rw [if_neg (by decide)]
    exact h2 rfl
  · rw [if_pos rfl]
    exact h1 rfl
theorem ite_y {b : Bool} {A B : Prop} (e : b = true) (h : A) : if b = true then A else B := by
  rw [if_pos e]
  exact h
theorem ite_n {b : Bool} {A B : Prop} (e : b = false) (h : B) : if b = true then A else B := by
  rw [if_neg (by rw [e]; decide)]
  exact h
/-- both ways at once: what follows is asked of either -/
theorem ite_or {b : Bool} {R : Prop} {P : Bool → Prop} (h1 : b = true → P true → R) (h2 : b = false → P false → R) (hp : P b) : R := by
  cases b
  · exact h2 rfl hp
  · exact h1 rfl hp
end
end Hf
namespace Hf
open PySem PySem.Spec PyProof.Rows L2
theorem set_z {α : Type} {x y : α} {r : List α} : List.set (x :: r) 0 y = y :: r := rfl
theorem set_s {α : Type} {x y : α} {r r' : List α} {k : Nat} (h : List.set r k y = r') : List.set (x :: r) (k + 1) y = x :: r' := by
  rw [List.set_cons_succ, h]
theorem set_par {α : Type} {l l1 l2 : List α} {j k : Nat} {y z : α} (h1 : l.set j y = l1) (h2 : l1.set k z = l2) : (l.set j y).set k z = l2 := by
  rw [h1, h2]
theorem lk_same {H H' : Hp} {a : Addr} {o : HO} (e : Same H H') (h : H a = some o) : H' a = some o := e a o h
theorem lk_but {H H' : Hp} {a b : Addr} {o : HO} (e : But a H H') (n : b ≠ a) (h : H b = some o) : H' b = some o := e b o n h
end Hf

namespace Hf
open PySem PySem.Spec PyProof.Rows L2
/-! ### loops -/
section
variable {σ : L2.St} {H : Hp} {Q : VK} {nx bk ct : L2.St → Hp → Prop} {rt : VK} {K : PySem.W.Frag} {a : Addr} {xs : List V} {g : TG} {tb : TS} {lo : Int} {n : Nat}
theorem forR (Pv : Nat → L2.St → Hp → Prop) (h0 : Pv 0 σ H) (hd : ∀ σ H, Pv n σ H → nx σ H)
    (hs : ∀ (i : Nat) σ H, i < n → Pv i σ H → g (.int (lo + i)) σ H fun σ2 H2 => tb ⟨Pv (i + 1), rt, nx, Pv (i + 1)⟩ σ2 H2) :
    ∃ W : Nat → Nat → L2.St → Hp → Prop, (∃ m, W 0 m σ H) ∧ ∀ i m σ H, W i m σ H →
      ((Itr lo n).stop i H ∧ nx σ H) ∨ ((Itr lo n).go i H ∧ ∃ N : L2.St → Hp → Prop, (∀ σ' H', N σ' H' → ∃ m', m' < m ∧ W (i + 1) m' σ' H') ∧ ∀ x H', (Itr lo n).yld i H x H' → g x σ H' fun σ2 H2 => tb ⟨N, rt, nx, N⟩ σ2 H2) :=
  for_range (D := ⟨nx, rt, fun _ _ => False, fun _ _ => False⟩) Pv h0 hs hd
theorem forL (Pv : Nat → L2.St → Hp → Prop) (h0 : Pv 0 σ H) (hl : ∀ i σ H, i ≤ xs.length → Pv i σ H → SqL K H a xs) (hd : ∀ σ H, Pv xs.length σ H → nx σ H)
    (hs : ∀ i x σ H, xs[i]? = some x → Pv i σ H → g x σ H fun σ2 H2 => tb ⟨Pv (i + 1), rt, nx, Pv (i + 1)⟩ σ2 H2) :
    ∃ W : Nat → Nat → L2.St → Hp → Prop, (∃ m, W 0 m σ H) ∧ ∀ i m σ H, W i m σ H →
      ((Itl K a).stop i H ∧ nx σ H) ∨ ((Itl K a).go i H ∧ ∃ N : L2.St → Hp → Prop, (∀ σ' H', N σ' H' → ∃ m', m' < m ∧ W (i + 1) m' σ' H') ∧ ∀ x H', (Itl K a).yld i H x H' → g x σ H' fun σ2 H2 => tb ⟨N, rt, nx, N⟩ σ2 H2) :=
  for_list (D := ⟨nx, rt, fun _ _ => False, fun _ _ => False⟩) Pv h0 hl hs hd
theorem forT (Pv : Nat → L2.St → Hp → Prop) (h0 : Pv 0 σ H) (hl : ∀ i σ H, i ≤ xs.length → Pv i σ H → SqT K H a xs) (hd : ∀ σ H, Pv xs.length σ H → nx σ H)
    (hs : ∀ i x σ H, xs[i]? = some x → Pv i σ H → g x σ H fun σ2 H2 => tb ⟨Pv (i + 1), rt, nx, Pv (i + 1)⟩ σ2 H2) :
    ∃ W : Nat → Nat → L2.St → Hp → Prop, (∃ m, W 0 m σ H) ∧ ∀ i m σ H, W i m σ H →
      ((Itt K a).stop i H ∧ nx σ H) ∨ ((Itt K a).go i H ∧ ∃ N : L2.St → Hp → Prop, (∀ σ' H', N σ' H' → ∃ m', m' < m ∧ W (i + 1) m' σ' H') ∧ ∀ x H', (Itt K a).yld i H x H' → g x σ H' fun σ2 H2 => tb ⟨N, rt, nx, N⟩ σ2 H2) :=
  for_tup (D := ⟨nx, rt, fun _ _ => False, fun _ _ => False⟩) Pv h0 hl hs hd
/-- while: W by a measure; the test is read by hand, its two ways by turnW and the loop's end -/
theorem whileW {c : TT} (W : Nat → L2.St → Hp → Prop) (m : Nat) (h0 : W m σ H)
    (hs : ∀ m σ H, W m σ H → c σ H fun b H1 => if b = true then ∃ N : L2.St → Hp → Prop, (∀ σ' H', N σ' H' → ∃ m', m' < m ∧ W m' σ' H') ∧ tb ⟨N, rt, nx, N⟩ σ H1 else nx σ H1) : tWhile c tb ⟨nx, rt, bk, ct⟩ σ H :=
  ⟨W, ⟨m, h0⟩, hs⟩
theorem turnW {W : Nat → L2.St → Hp → Prop} {m : Nat} (h : tb ⟨fun σ' H' => ∃ m', m' < m ∧ W m' σ' H', rt, nx, fun σ' H' => ∃ m', m' < m ∧ W m' σ' H'⟩ σ H) :
    ∃ N : L2.St → Hp → Prop, (∀ σ' H', N σ' H' → ∃ m', m' < m ∧ W m' σ' H') ∧ tb ⟨N, rt, nx, N⟩ σ H := ⟨_, fun _ _ h => h, h⟩
end
theorem But.free {a p : Addr} {o : HO} {H H' : Hp} (hn : H' p = none) (e : But a H H') (ha : H' a = some o) : H p = none := by
  cases h : H p with
  | none => rfl
  | some u =>
    by_cases hp : p = a
    · rw [hp, ha] at hn
      cases hn
    · rw [e p u hp h] at hn
      cases hn
theorem Same.free' {p : Addr} {H H' : Hp} (hn : H' p = none) (e : Same H H') : H p = none := e.free hn
theorem But.newT {a p : Addr} {H H1 : Hp} {o : HO} (hp : H1 p = none) (x : But a H H1) : But a H (L2.upd H1 p o) := But.new x hp
theorem But.transT {a : Addr} {H H1 H2 : Hp} (y : But a H1 H2) (x : But a H H1) : But a H H2 := But.trans x y
theorem Same.transT {H H1 H2 : Hp} (y : Same H1 H2) (x : Same H H1) : Same H H2 := x.trans y
theorem Same.newT' {H H1 : Hp} {p : Addr} {o : HO} (hp : H1 p = none) (x : Same H H1) : Same H (upd H1 p o) := Same.newT x hp
theorem But.transS {a : Addr} {H H1 H2 : Hp} (y : Same H1 H2) (x : But a H H1) : But a H H2 := fun b o n h => y b o (x b o n h)
theorem Same.butT {H0 H H1 : Hp} {p : Addr} (x : But p H H1) (hp : H0 p = none) (e : Same H0 H) : Same H0 H1 := Same.but e hp x
/-! ### slices, sums of lists -/
theorem six_nn {n d : Nat} {k : Int} (h : 0 ≤ k) : HT.sIx n d (some k) = min k.toNat n := by
  obtain ⟨m, rfl⟩ := Int.eq_ofNat_of_zero_le h
  exact HT.sIx_nat n d m
theorem cut_to {xs : List V} {k : Int} (h : 0 ≤ k) : cutV xs none (some k) = xs.take k.toNat := by
  unfold cutV
  rw [six_nn h, HT.sIx_none, List.drop_zero, Nat.sub_zero]
  exact List.take_eq_take_iff.mpr (by omega)
theorem cut_from {xs : List V} {k : Int} (h : 0 ≤ k) : cutV xs (some k) none = xs.drop k.toNat := by
  unfold cutV
  rw [six_nn h, HT.sIx_none, List.take_of_length_le (by rw [List.length_drop]; omega)]
  by_cases c : k.toNat ≤ xs.length
  · rw [Nat.min_eq_left c]
  · rw [Nat.min_eq_right (show xs.length ≤ k.toNat by omega), List.drop_length, List.drop_eq_nil_of_le (show xs.length ≤ k.toNat by omega)]
theorem cut_mid {xs : List V} {j k : Int} (h : 0 ≤ j) (h' : 0 ≤ k) : cutV xs (some j) (some k) = (xs.drop j.toNat).take (k.toNat - j.toNat) := by
  unfold cutV
  rw [six_nn h, six_nn h']
  by_cases c : j.toNat ≤ xs.length
  · rw [Nat.min_eq_left c]
    refine List.take_eq_take_iff.mpr ?_
    rw [List.length_drop]
    omega
  · rw [Nat.min_eq_right (show xs.length ≤ j.toNat by omega), List.drop_length, List.drop_eq_nil_of_le (show xs.length ≤ j.toNat by omega), List.take_nil, List.take_nil]
section
variable {H : Hp} {Q : VK} {K : PySem.W.Frag} {p r : Addr} {xs ys : List V} {j k : Int} {lo hi : Option Int} {σ : L2.St}
theorem i_slTo (h : SqL K H p xs) (h0 : 0 ≤ k) (q : ∀ p', H p' = none → Q (.ref p') (upd H p' (.lst (xs.take k.toNat)))) : rSlL K (.ref p) none (some k) H Q := ⟨p, xs, rfl, h, by rw [cut_to h0]; exact q⟩
theorem i_slFrom (h : SqL K H p xs) (h0 : 0 ≤ k) (q : ∀ p', H p' = none → Q (.ref p') (upd H p' (.lst (xs.drop k.toNat)))) : rSlL K (.ref p) (some k) none H Q := ⟨p, xs, rfl, h, by rw [cut_from h0]; exact q⟩
theorem i_slMid (h : SqL K H p xs) (h0 : 0 ≤ j) (h1 : 0 ≤ k) (q : ∀ p', H p' = none → Q (.ref p') (upd H p' (.lst ((xs.drop j.toNat).take (k.toNat - j.toNat))))) : rSlL K (.ref p) (some j) (some k) H Q := ⟨p, xs, rfl, h, by rw [cut_mid h0 h1]; exact q⟩
theorem i_sl {R : V → Option Int → Option Int → Hp → VK → Prop} {te : TE} {tl th : TO} (h : te σ H fun x H1 => tl σ H1 fun l H2 => th σ H2 fun u H3 => R x l u H3 Q) : tSl R te tl th σ H Q := h
theorem i_nopart {P : Option Int → Hp → Prop} (q : P none H) : tNoPart σ H P := q
theorem i_part {te : TE} {P : Option Int → Hp → Prop} (h : te σ H fun x H1 => ∃ i, x = .int i ∧ P (some i) H1) : tPart te σ H P := h
theorem i_exint {i : Int} {R : Int → Prop} (q : R i) : ∃ i', V.int i = .int i' ∧ R i' := ⟨i, rfl, q⟩
theorem i_cat (h1 : H p = some (.lst xs)) (h2 : H r = some (.lst ys)) (hz : xs.length + ys.length ≤ sizeLine) (q : ∀ p', H p' = none → Q (.ref p') (upd H p' (.lst (xs ++ ys)))) : rCat (.ref p) (.ref r) H Q := ⟨p, r, xs, ys, rfl, rfl, h1, h2, hz, q⟩
theorem i_rep (h1 : H p = some (.lst xs)) (h2 : -(2 ^ 63) ≤ k ∧ k < 2 ^ 63) (hz : xs.length * k.toNat ≤ sizeLine) (q : ∀ p', H p' = none → Q (.ref p') (upd H p' (.lst (List.replicate k.toNat xs).flatten))) : rRep (.ref p) (.int k) H Q := ⟨p, k, xs, rfl, rfl, h1, h2.1, h2.2, hz, q⟩
theorem flat1 {α : Type} {x : α} : ∀ n : Nat, (List.replicate n [x]).flatten = List.replicate n x
  | 0 => rfl
  | n + 1 => by
    rw [List.replicate_succ, List.flatten_cons, flat1 n, List.replicate_succ]
    rfl
theorem i_rep1 {x : V} (h1 : H p = some (.lst [x])) (h2 : 0 ≤ k ∧ k ≤ 1000000) (q : ∀ p', H p' = none → Q (.ref p') (upd H p' (.lst (List.replicate k.toNat x)))) : rRep (.ref p) (.int k) H Q :=
  i_rep h1 (by omega) (sz4 (by show 1 * k.toNat ≤ 1000000; omega)) (by rw [flat1]; exact q)
end
/-- an if whose two ways meet: what holds behind it -/
theorem if_join {σ : L2.St} {H : Hp} {nx bk ct : L2.St → Hp → Prop} {rt : VK} {c : TT} {t u : TS} (P : L2.St → Hp → Prop) (h : ∀ nx' : L2.St → Hp → Prop, (∀ σ' H', P σ' H' → nx' σ' H') → tIfS c t u ⟨nx', rt, bk, ct⟩ σ H)
    (cont : ∀ σ' H', P σ' H' → nx σ' H') : tIfS c t u ⟨nx, rt, bk, ct⟩ σ H := h nx cont
/-- any statement, cut behind it -/
theorem st_join {σ : L2.St} {H : Hp} {nx bk ct : L2.St → Hp → Prop} {rt : VK} {t : TS} (P : L2.St → Hp → Prop) (h : ∀ nx' : L2.St → Hp → Prop, (∀ σ' H', P σ' H' → nx' σ' H') → t ⟨nx', rt, bk, ct⟩ σ H)
    (cont : ∀ σ' H', P σ' H' → nx σ' H') : t ⟨nx, rt, bk, ct⟩ σ H := h nx cont
theorem ints_at {ms : List Int} {i : Nat} {x : V} (h : (ms.map V.int)[i]? = some x) : ∃ z, x = .int z ∧ ms[i]? = some z := by
  rw [List.getElem?_map] at h
  cases e : ms[i]? with
  | none =>
    rw [e] at h
    cases h
  | some z =>
    rw [e] at h
    exact ⟨z, (Option.some.inj h).symm, rfl⟩
/-! ### equality of data -/
theorem i_eqT2 {K : PySem.W.Frag} {H : Hp} {Q : VK} {p r : Addr} {a b c d : Int} (h1 : SqT K H p [.int a, .int b]) (h2 : SqT K H r [.int c, .int d]) (q : Q (.bl (a == c && (b == d && true))) H) : rEqD K (.ref p) (.ref r) H Q :=
  ⟨.tuple [.int a, .int b], .tuple [.int c, .int d], .tup h1 (.cons (.int a) (.cons (.int b) .nil)), .tup h2 (.cons (.int c) (.cons (.int d) .nil)), rfl, rfl, by
    have e : PyData.eqv (.tuple [.int a, .int b]) (.tuple [.int c, .int d]) = (a == c && (b == d && true)) := by simp [PyData.eqv, PyData.eqvAll]
    rw [e]
    exact q⟩
/-! ### two objects that change -/
def But2 (a c : Addr) (H H' : Hp) : Prop := ∀ b o, b ≠ a → b ≠ c → H b = some o → H' b = some o
section
variable {a c b p : Addr} {H H' H1 H2 : Hp} {o u : HO} {K : PySem.W.Frag} {xs : List V}
theorem But2.refl (a c : Addr) (H : Hp) : But2 a c H H := fun _ _ _ _ h => h
theorem But2.transT (y : But2 a c H1 H2) (x : But2 a c H H1) : But2 a c H H2 := fun b o n m h => y b o n m (x b o n m h)
theorem But2.transS (y : Same H1 H2) (x : But2 a c H H1) : But2 a c H H2 := fun b o n m h => y b o (x b o n m h)
theorem But2.transL (y : But a H1 H2) (x : But2 a c H H1) : But2 a c H H2 := fun b o n m h => y b o n (x b o n m h)
theorem But2.transR (y : But c H1 H2) (x : But2 a c H H1) : But2 a c H H2 := fun b o n m h => y b o m (x b o n m h)
theorem But2.newT (hp : H1 p = none) (x : But2 a c H H1) : But2 a c H (L2.upd H1 p o) := fun b u n m h => by
  have h1 := x b u n m h
  rw [upd_ne (ne_of_none h1 hp)]
  exact h1
theorem But2.updL (x : But2 a c H H1) : But2 a c H (L2.upd H1 a o) := fun b u n m h => by
  rw [upd_ne n]
  exact x b u n m h
theorem But2.updR (x : But2 a c H H1) : But2 a c H (L2.upd H1 c o) := fun b u n m h => by
  rw [upd_ne m]
  exact x b u n m h
theorem lk_but2 (e : But2 a c H H') (n : b ≠ a) (m : b ≠ c) (h : H b = some o) : H' b = some o := e b o n m h
theorem But2.seq (e : But2 a c H H') (n : b ≠ a) (m : b ≠ c) (h : SqL K H b xs) : SqL K H' b xs := by
  rcases h with (h | ⟨o, h⟩) | h
  · exact .inl (.inl (e _ _ n m h))
  · exact .inl (.inr ⟨o, e _ _ n m h⟩)
  · exact .inr h
theorem But2.seqT (e : But2 a c H H') (n : b ≠ a) (m : b ≠ c) (h : SqT K H b xs) : SqT K H' b xs := by
  rcases h with (h | ⟨o, h⟩) | h
  · exact .inl (.inl (e _ _ n m h))
  · exact .inl (.inr ⟨o, e _ _ n m h⟩)
  · exact .inr h
theorem But2.free (hn : H' p = none) (e : But2 a c H H') (ha : H' a = some o) (hc : H' c = some u) : H p = none := by
  cases h : H p with
  | none => rfl
  | some v =>
    by_cases hp : p = a
    · rw [hp, ha] at hn
      cases hn
    · by_cases hq : p = c
      · rw [hq, hc] at hn
        cases hn
      · rw [e p v hp hq h] at hn
        cases hn
theorem But2.mut (hp : H p = none) (x : But2 a c H H1) : But2 a c H (L2.upd H1 p o) := fun b u n m h => by
  have e : b ≠ p := ne_of_none h hp
  exact lk_upd e (x b u n m h)
theorem But2.butT (y : But p H1 H2) (hp : H p = none) (x : But2 a c H H1) : But2 a c H H2 := fun b u n m h => y b u (ne_of_none h hp) (x b u n m h)
theorem Same.but2T {H0 : Hp} (x : But2 a c H H1) (ha : H0 a = none) (hc : H0 c = none) (e : Same H0 H) : Same H0 H1 := fun b u h => x b u (ne_of_none h ha) (ne_of_none h hc) (e b u h)
end
/-! ### len, by its number -/
def LenA (K : PySem.W.Frag) (H : Hp) (p : Addr) (n : Nat) : Prop := (∃ ys, SqL K H p ys ∧ ys.length = n) ∨ ∃ ys, SqT K H p ys ∧ ys.length = n
def rLenA (K : PySem.W.Frag) : List V → Hp → VK → Prop := fun xs H Q => ∃ p n, xs = [V.ref p] ∧ LenA K H p n ∧ Q (.int n) H
theorem call_lenA {X : Cx} : CallR X (.builtin "len") (rLenA X.K) := by
  intro pins s σ H xs us Q I r h
  obtain ⟨p, n, e, hl, q⟩ := h
  refine call_len_seq pins s σ H xs us Q I r ?_
  rcases hl with ⟨ys, h1, h2⟩ | ⟨ys, h1, h2⟩
  · exact ⟨p, ys, e, .inl h1, by rw [h2]; exact q⟩
  · exact ⟨p, ys, e, .inr h1, by rw [h2]; exact q⟩
section
variable {σ : L2.St} {H : Hp} {Q : VK} {K : PySem.W.Frag} {p r : Addr} {xs ys : List V} {ms ns : List Int} {i j k : Int} {n : Nat}
theorem i_lenA (h : LenA K H p n) (q : Q (.int n) H) : rLenA K [.ref p] H Q := ⟨p, n, rfl, h, q⟩
theorem lenA_map {α : Type} {f : α → V} {zs : List α} (h : SqL K H p (zs.map f)) : LenA K H p zs.length := .inl ⟨_, h, List.length_map _⟩
theorem lenA_L (h : SqL K H p xs) : LenA K H p xs.length := .inl ⟨_, h, rfl⟩
theorem lenA_T (h : SqT K H p xs) : LenA K H p xs.length := .inr ⟨_, h, rfl⟩
theorem i_ixM (h : SqL K H p (ms.map V.int)) (h0 : 0 ≤ i) (h1 : i < ms.length) (q : ∀ z, ms[i.toNat]? = some z → Q (.int z) H) : rIxL K (.ref p) (.int i) H Q := by
  obtain ⟨v, e1, e2⟩ := at_lt (xs := ms.map V.int) h0 (by rw [List.length_map]; exact h1)
  obtain ⟨z, e, e3⟩ := ints_at e2
  subst e
  exact i_ixL h e1 (q z e3)
theorem i_ixG (h : SqL K H p xs) (h0 : 0 ≤ i) (h1 : i < xs.length) (q : ∀ v, xs[i.toNat]? = some v → Q v H) : rIxL K (.ref p) (.int i) H Q := by
  obtain ⟨v, e1, e2⟩ := at_lt h0 h1
  exact i_ixL h e1 (q v e2)
theorem i_sum (h : SqL K H p (ns.map V.int)) (q : Q (.int ns.sum) H) : rSum K [.ref p] H Q := ⟨p, ns, rfl, h, q⟩
theorem i_slToM (h : SqL K H p (ms.map V.int)) (h0 : 0 ≤ k) (q : ∀ p', H p' = none → Q (.ref p') (upd H p' (.lst ((ms.take k.toNat).map V.int)))) : rSlL K (.ref p) none (some k) H Q := i_slTo h h0 (by rw [← List.map_take]; exact q)
theorem i_slFromM (h : SqL K H p (ms.map V.int)) (h0 : 0 ≤ k) (q : ∀ p', H p' = none → Q (.ref p') (upd H p' (.lst ((ms.drop k.toNat).map V.int)))) : rSlL K (.ref p) (some k) none H Q := i_slFrom h h0 (by rw [← List.map_drop]; exact q)
theorem i_slMidM (h : SqL K H p (ms.map V.int)) (h0 : 0 ≤ j) (h1 : 0 ≤ k) (q : ∀ p', H p' = none → Q (.ref p') (upd H p' (.lst (((ms.drop j.toNat).take (k.toNat - j.toNat)).map V.int)))) : rSlL K (.ref p) (some j) (some k) H Q := i_slMid h h0 h1 (by rw [← List.map_drop, ← List.map_take]; exact q)
theorem i_catM (h1 : H p = some (.lst (ms.map V.int))) (h2 : H r = some (.lst (ns.map V.int))) (hz : ms.length + ns.length ≤ 1000000) (q : ∀ p', H p' = none → Q (.ref p') (upd H p' (.lst ((ms ++ ns).map V.int)))) : rCat (.ref p) (.ref r) H Q :=
  i_cat h1 h2 (sz4 (by rw [List.length_map, List.length_map]; exact hz)) (by rw [← List.map_append]; exact q)
theorem i_repM {x : Int} (h1 : H p = some (.lst [.int x])) (h2 : 0 ≤ k ∧ k ≤ 1000000) (q : ∀ p', H p' = none → Q (.ref p') (upd H p' (.lst ((List.replicate k.toNat x).map V.int)))) : rRep (.ref p) (.int k) H Q :=
  i_rep1 h1 h2 (by rw [← List.map_replicate]; exact q)
theorem eqvAll_ints : ∀ ms ns : List Int, PyData.eqvAll (ms.map PyData.int) (ns.map PyData.int) = decide (ms = ns)
  | [], [] => by simp [PyData.eqvAll]
  | [], _ :: _ => by simp [PyData.eqvAll]
  | _ :: _, [] => by simp [PyData.eqvAll]
  | m :: ms, n :: ns => by
    rw [List.map_cons, List.map_cons, PyData.eqvAll, eqvAll_ints ms ns, PyData.eqv]
    by_cases h : m = n
    · subst h
      simp
    · simp [h]
theorem canLay_ints : ∀ ms : List Int, PyData.canLayAll0 (ms.map PyData.int) = true
  | [] => by simp [PyData.canLayAll0]
  | m :: ms => by
    rw [List.map_cons, PyData.canLayAll0, canLay_ints ms]
    simp [PyData.canLay0]
theorem depth_ints : ∀ ms : List Int, PyData.depthAll (ms.map PyData.int) ≤ 1
  | [] => by simp [PyData.depthAll]
  | m :: ms => by
    have := depth_ints ms
    rw [List.map_cons, PyData.depthAll]
    simp [PyData.depth]
    omega
theorem dp_ints : ∀ ms : List Int, DpAll K H (ms.map V.int) (ms.map PyData.int)
  | [] => .nil
  | m :: ms => .cons (.int m) (dp_ints ms)
theorem shaped_ints (ms : List Int) : SeqAt.shaped (.list (ms.map PyData.int)) = true := by
  unfold SeqAt.shaped
  have h1 := canLay_ints ms
  have h2 := depth_ints ms
  simp [PyData.canLay0, PyData.depth, h1]
  omega
theorem i_eqLI (h1 : SqL K H p (ms.map V.int)) (h2 : SqL K H r (ns.map V.int)) (q : Q (.bl (decide (ms = ns))) H) : rEqD K (.ref p) (.ref r) H Q :=
  ⟨_, _, .lst h1 (dp_ints ms), .lst h2 (dp_ints ns), shaped_ints ms, shaped_ints ns, by rw [PyData.eqv, eqvAll_ints]; exact q⟩
theorem i_neLI (h1 : SqL K H p (ms.map V.int)) (h2 : SqL K H r (ns.map V.int)) (q : Q (.bl (!decide (ms = ns))) H) : rNeD K (.ref p) (.ref r) H Q :=
  ⟨_, _, .lst h1 (dp_ints ms), .lst h2 (dp_ints ns), shaped_ints ms, shaped_ints ns, by rw [PyData.eqv, eqvAll_ints]; exact q⟩
theorem i_eqL0 (h1 : SqL K H p (ms.map V.int)) (h2 : SqL K H r []) (q : Q (.bl (decide (ms = []))) H) : rEqD K (.ref p) (.ref r) H Q := i_eqLI (ns := []) h1 h2 q
theorem i_eq00 (h1 : SqL K H p []) (h2 : SqL K H r []) (q : Q (.bl true) H) : rEqD K (.ref p) (.ref r) H Q := i_eqLI (ms := []) (ns := []) h1 h2 (by simpa using q)
theorem i_isn {P : Prop} (q : P) : V.non = V.non ∧ P := ⟨rfl, q⟩
theorem i_tru {P : Prop} (q : P) : True ∧ P := ⟨trivial, q⟩
theorem i_glst {m : Nat} {t : TGs} {Z : L2.St → Hp → Prop} (h : SqL K H p xs) (e : xs.length = m) (q : t xs σ H Z) : gLst K m t (.ref p) σ H Z := ⟨p, xs, rfl, h, e, q⟩
end
/-! ### comprehensions -/
section
variable {σ : L2.St} {H H1 : Hp} {Q : VK} {K : PySem.W.Frag} {D a : Addr} {wi : TI} {g : TG} {tt : TT} {te : TE} {vs : List Nat} {lo : Int} {n : Nat} {xs : List V} {Qd : Hp → Prop}
theorem i_lc (h : wi σ H fun J H1 => ∀ D, H1 D = none → ∃ W : Nat → Nat → Hp → Prop, (∃ m, W 0 m (upd H1 D (.lst []))) ∧ ∀ i m H, W i m H →
  (J.stop i H ∧ Q (.ref D) H) ∨ (J.go i H ∧ ∃ Nx : Hp → Prop, (∀ H', Nx H' → ∃ m', m' < m ∧ W (i + 1) m' H') ∧ ∀ x H', J.yld i H x H' → g x (wipe σ vs) H' fun σ2 H2 => wipe σ2 vs = wipe σ vs ∧ tt σ2 H2 fun b H3 =>
    if b = true then te σ2 H3 fun y H4 => ∃ acc, H4 D = some (.lst acc) ∧ acc.length < sizeLine ∧ Nx (upd H4 D (.lst (acc ++ [y]))) else Nx H3)) : tLc wi g tt te vs σ H Q := h
/-- the turn of a comprehension: what its target, test and element come to; Z is wanted of a kept element, Y where the test says no -/
def LcTurn (g : TG) (tt : TT) (te : TE) (vs : List Nat) (σ : L2.St) (x : V) (H : Hp) (Z : VK) (Y : Hp → Prop) : Prop :=
  g x (wipe σ vs) H fun σ2 H2 => wipe σ2 vs = wipe σ vs ∧ tt σ2 H2 fun b H3 => if b = true then te σ2 H3 Z else Y H3
/-- over a range; P: what holds behind i turns of the list made so far -/
theorem lcR (P : Nat → List V → Hp → Prop) (nD : H1 D = none) (h0 : P 0 [] (upd H1 D (.lst [])))
    (hs : ∀ i acc H (Z : VK) (Y : Hp → Prop), i < n → P i acc H → H D = some (.lst acc) → (∀ y H4, H4 D = some (.lst acc) → acc.length < sizeLine → P (i + 1) (acc ++ [y]) (upd H4 D (.lst (acc ++ [y]))) → Z y H4) →
      (∀ H4, H4 D = some (.lst acc) → P (i + 1) acc H4 → Y H4) → LcTurn g tt te vs σ (.int (lo + i)) H Z Y) (hd : ∀ acc H, P n acc H → H D = some (.lst acc) → Qd H) :
    ∃ W : Nat → Nat → Hp → Prop, (∃ m, W 0 m (upd H1 D (.lst []))) ∧ ∀ i m H, W i m H →
      ((Itr lo n).stop i H ∧ Qd H) ∨ ((Itr lo n).go i H ∧ ∃ Nx : Hp → Prop, (∀ H', Nx H' → ∃ m', m' < m ∧ W (i + 1) m' H') ∧ ∀ x H', (Itr lo n).yld i H x H' → g x (wipe σ vs) H' fun σ2 H2 => wipe σ2 vs = wipe σ vs ∧ tt σ2 H2 fun b H3 =>
        if b = true then te σ2 H3 fun y H4 => ∃ acc, H4 D = some (.lst acc) ∧ acc.length < sizeLine ∧ Nx (upd H4 D (.lst (acc ++ [y]))) else Nx H3) := by
  refine lc_range (fun i H => ∃ acc, P i acc H ∧ H D = some (.lst acc)) ⟨[], h0, upd_same⟩ (fun i H hi hp => ?_) (fun H hp => ?_)
  · obtain ⟨acc, hp, ha⟩ := hp
    exact hs i acc H _ _ hi hp ha (fun y H4 h1 h2 h3 => ⟨acc, h1, h2, _, h3, upd_same⟩) fun H4 h1 h2 => ⟨acc, h2, h1⟩
  · obtain ⟨acc, hp, ha⟩ := hp
    exact hd acc H hp ha
theorem lcL (P : Nat → List V → Hp → Prop) (nD : H1 D = none) (h0 : P 0 [] (upd H1 D (.lst []))) (hl : ∀ i acc H, i ≤ xs.length → P i acc H → H D = some (.lst acc) → SqL K H a xs)
    (hs : ∀ i x acc H (Z : VK) (Y : Hp → Prop), xs[i]? = some x → P i acc H → H D = some (.lst acc) → (∀ y H4, H4 D = some (.lst acc) → acc.length < sizeLine → P (i + 1) (acc ++ [y]) (upd H4 D (.lst (acc ++ [y]))) → Z y H4) →
      (∀ H4, H4 D = some (.lst acc) → P (i + 1) acc H4 → Y H4) → LcTurn g tt te vs σ x H Z Y) (hd : ∀ acc H, P xs.length acc H → H D = some (.lst acc) → Qd H) :
    ∃ W : Nat → Nat → Hp → Prop, (∃ m, W 0 m (upd H1 D (.lst []))) ∧ ∀ i m H, W i m H →
      ((Itl K a).stop i H ∧ Qd H) ∨ ((Itl K a).go i H ∧ ∃ Nx : Hp → Prop, (∀ H', Nx H' → ∃ m', m' < m ∧ W (i + 1) m' H') ∧ ∀ x H', (Itl K a).yld i H x H' → g x (wipe σ vs) H' fun σ2 H2 => wipe σ2 vs = wipe σ vs ∧ tt σ2 H2 fun b H3 =>
        if b = true then te σ2 H3 fun y H4 => ∃ acc, H4 D = some (.lst acc) ∧ acc.length < sizeLine ∧ Nx (upd H4 D (.lst (acc ++ [y]))) else Nx H3) := by
  refine lc_list (xs := xs) (fun i H => ∃ acc, P i acc H ∧ H D = some (.lst acc)) ⟨[], h0, upd_same⟩ (fun i H hi hp => ?_) (fun i x H hi hp => ?_) (fun H hp => ?_)
  · obtain ⟨acc, hp, ha⟩ := hp
    exact hl i acc H hi hp ha
  · obtain ⟨acc, hp, ha⟩ := hp
    exact hs i x acc H _ _ hi hp ha (fun y H4 h1 h2 h3 => ⟨acc, h1, h2, _, h3, upd_same⟩) fun H4 h1 h2 => ⟨acc, h2, h1⟩
  · obtain ⟨acc, hp, ha⟩ := hp
    exact hd acc H hp ha
/-- whole numbers, one for each turn -/
theorem lcR_int (f : Nat → Int) (nD : H1 D = none) (hn : n ≤ 1000000)
    (hs : ∀ i H (Z : VK) (Y : Hp → Prop), i < n → Same H1 H → (∀ H4, Same H H4 → Z (.int (f i)) H4) → LcTurn g tt te vs σ (.int (lo + i)) H Z Y)
    (hd : ∀ H, Same H1 H → H D = some (.lst (((List.range n).map f).map V.int)) → Qd H) :
    ∃ W : Nat → Nat → Hp → Prop, (∃ m, W 0 m (upd H1 D (.lst []))) ∧ ∀ i m H, W i m H →
      ((Itr lo n).stop i H ∧ Qd H) ∨ ((Itr lo n).go i H ∧ ∃ Nx : Hp → Prop, (∀ H', Nx H' → ∃ m', m' < m ∧ W (i + 1) m' H') ∧ ∀ x H', (Itr lo n).yld i H x H' → g x (wipe σ vs) H' fun σ2 H2 => wipe σ2 vs = wipe σ vs ∧ tt σ2 H2 fun b H3 =>
        if b = true then te σ2 H3 fun y H4 => ∃ acc, H4 D = some (.lst acc) ∧ acc.length < sizeLine ∧ Nx (upd H4 D (.lst (acc ++ [y]))) else Nx H3) := by
  refine lcR (fun i acc H => i ≤ n ∧ acc = ((List.range i).map f).map V.int ∧ Same H1 H) nD ⟨Nat.zero_le _, rfl, Same.new nD⟩ ?_ ?_
  · rintro i acc H Z Y hi ⟨_, rfl, hsame⟩ ha hz _
    refine hs i H Z Y hi hsame fun H4 h4 => hz _ H4 (h4 _ _ ha) (sz4' (by simp; omega)) ⟨hi, ?_, Same.mut (hsame.trans h4) nD⟩
    rw [List.range_succ, List.map_append, List.map_append]
    rfl
  · rintro acc H ⟨_, rfl, hsame⟩ ha
    exact hd H hsame ha
theorem lcL_int (f : Nat → Int) (nD : H1 D = none) (hn : xs.length ≤ 1000000) (hx : SqL K H1 a xs)
    (hs : ∀ i x H (Z : VK) (Y : Hp → Prop), xs[i]? = some x → Same H1 H → (∀ H4, Same H H4 → Z (.int (f i)) H4) → LcTurn g tt te vs σ x H Z Y)
    (hd : ∀ H, Same H1 H → H D = some (.lst (((List.range xs.length).map f).map V.int)) → Qd H) :
    ∃ W : Nat → Nat → Hp → Prop, (∃ m, W 0 m (upd H1 D (.lst []))) ∧ ∀ i m H, W i m H →
      ((Itl K a).stop i H ∧ Qd H) ∨ ((Itl K a).go i H ∧ ∃ Nx : Hp → Prop, (∀ H', Nx H' → ∃ m', m' < m ∧ W (i + 1) m' H') ∧ ∀ x H', (Itl K a).yld i H x H' → g x (wipe σ vs) H' fun σ2 H2 => wipe σ2 vs = wipe σ vs ∧ tt σ2 H2 fun b H3 =>
        if b = true then te σ2 H3 fun y H4 => ∃ acc, H4 D = some (.lst acc) ∧ acc.length < sizeLine ∧ Nx (upd H4 D (.lst (acc ++ [y]))) else Nx H3) := by
  refine lcL (xs := xs) (fun i acc H => i ≤ xs.length ∧ acc = ((List.range i).map f).map V.int ∧ Same H1 H) nD ⟨Nat.zero_le _, rfl, Same.new nD⟩ (fun i acc H _ hp _ => hp.2.2.seq hx) ?_ ?_
  · rintro i x acc H Z Y hi ⟨_, rfl, hsame⟩ ha hz _
    have hi' : i < xs.length := (List.getElem?_eq_some_iff.mp hi).1
    refine hs i x H Z Y hi hsame fun H4 h4 => hz _ H4 (h4 _ _ ha) (sz4' (by simp; omega)) ⟨hi', ?_, Same.mut (hsame.trans h4) nD⟩
    rw [List.range_succ, List.map_append, List.map_append]
    rfl
  · rintro acc H ⟨_, rfl, hsame⟩ ha
    exact hd H hsame ha
/-- over a range, kept where b says so -/
theorem lcR_fil (b : Nat → Bool) (f : Nat → Int) (nD : H1 D = none) (hn : n ≤ 1000000)
    (hs : ∀ i H (Z : VK) (Y : Hp → Prop), i < n → Same H1 H → (b i = true → ∀ H4, Same H H4 → Z (.int (f i)) H4) → (b i = false → ∀ H4, Same H H4 → Y H4) → LcTurn g tt te vs σ (.int (lo + i)) H Z Y)
    (hd : ∀ H, Same H1 H → H D = some (.lst ((((List.range n).filter b).map f).map V.int)) → Qd H) :
    ∃ W : Nat → Nat → Hp → Prop, (∃ m, W 0 m (upd H1 D (.lst []))) ∧ ∀ i m H, W i m H →
      ((Itr lo n).stop i H ∧ Qd H) ∨ ((Itr lo n).go i H ∧ ∃ Nx : Hp → Prop, (∀ H', Nx H' → ∃ m', m' < m ∧ W (i + 1) m' H') ∧ ∀ x H', (Itr lo n).yld i H x H' → g x (wipe σ vs) H' fun σ2 H2 => wipe σ2 vs = wipe σ vs ∧ tt σ2 H2 fun b H3 =>
        if b = true then te σ2 H3 fun y H4 => ∃ acc, H4 D = some (.lst acc) ∧ acc.length < sizeLine ∧ Nx (upd H4 D (.lst (acc ++ [y]))) else Nx H3) := by
  refine lcR (fun i acc H => i ≤ n ∧ acc = (((List.range i).filter b).map f).map V.int ∧ Same H1 H) nD ⟨Nat.zero_le _, rfl, Same.new nD⟩ ?_ ?_
  · rintro i acc H Z Y hi ⟨_, rfl, hsame⟩ ha hz hy
    refine hs i H Z Y hi hsame (fun hb H4 h4 => hz _ H4 (h4 _ _ ha) (sz4' ?_) ⟨hi, ?_, Same.mut (hsame.trans h4) nD⟩) (fun hb H4 h4 => hy H4 (h4 _ _ ha) ⟨hi, ?_, hsame.trans h4⟩)
    · have := List.length_filter_le b (List.range i)
      rw [List.length_range] at this
      simp only [List.length_map]
      omega
    · rw [List.range_succ, List.filter_append, List.map_append, List.map_append, List.filter_cons, if_pos hb]
      rfl
    · rw [List.range_succ, List.filter_append, List.map_append, List.map_append, List.filter_cons, if_neg (by rw [hb]; exact Bool.false_ne_true)]
      simp
  · rintro acc H ⟨_, rfl, hsame⟩ ha
    exact hd H hsame ha
/-- over a list, nothing kept -/
theorem lcL_nil (nD : H1 D = none) (hx : SqL K H1 a xs)
    (hs : ∀ (i : Nat) (x : V) H (Z : VK) (Y : Hp → Prop), xs[i]? = some x → Same H1 H → (∀ H4, Same H H4 → Y H4) → LcTurn g tt te vs σ x H Z Y)
    (hd : ∀ H, Same H1 H → H D = some (.lst []) → Qd H) :
    ∃ W : Nat → Nat → Hp → Prop, (∃ m, W 0 m (upd H1 D (.lst []))) ∧ ∀ i m H, W i m H →
      ((Itl K a).stop i H ∧ Qd H) ∨ ((Itl K a).go i H ∧ ∃ Nx : Hp → Prop, (∀ H', Nx H' → ∃ m', m' < m ∧ W (i + 1) m' H') ∧ ∀ x H', (Itl K a).yld i H x H' → g x (wipe σ vs) H' fun σ2 H2 => wipe σ2 vs = wipe σ vs ∧ tt σ2 H2 fun b H3 =>
        if b = true then te σ2 H3 fun y H4 => ∃ acc, H4 D = some (.lst acc) ∧ acc.length < sizeLine ∧ Nx (upd H4 D (.lst (acc ++ [y]))) else Nx H3) := by
  refine lcL (xs := xs) (fun i acc H => acc = [] ∧ Same H1 H) nD ⟨rfl, Same.new nD⟩ (fun i acc H _ hp _ => hp.2.seq hx) ?_ ?_
  · rintro i x acc H Z Y hi ⟨rfl, hsame⟩ ha _ hy
    exact hs i x H Z Y hi hsame fun H4 h4 => hy H4 (h4 _ _ ha) ⟨rfl, hsame.trans h4⟩
  · rintro acc H ⟨rfl, hsame⟩ ha
    exact hd H hsame ha
/-- over a list, a value for each, from the turn's number -/
theorem lcL_v (f : Nat → V) (nD : H1 D = none) (hn : xs.length ≤ 1000000) (hx : SqL K H1 a xs)
    (hs : ∀ (i : Nat) (x : V) H (Z : VK) (Y : Hp → Prop), xs[i]? = some x → Same H1 H → (∀ H4, Same H H4 → Z (f i) H4) → LcTurn g tt te vs σ x H Z Y)
    (hd : ∀ H, Same H1 H → H D = some (.lst ((List.range xs.length).map f)) → Qd H) :
    ∃ W : Nat → Nat → Hp → Prop, (∃ m, W 0 m (upd H1 D (.lst []))) ∧ ∀ i m H, W i m H →
      ((Itl K a).stop i H ∧ Qd H) ∨ ((Itl K a).go i H ∧ ∃ Nx : Hp → Prop, (∀ H', Nx H' → ∃ m', m' < m ∧ W (i + 1) m' H') ∧ ∀ x H', (Itl K a).yld i H x H' → g x (wipe σ vs) H' fun σ2 H2 => wipe σ2 vs = wipe σ vs ∧ tt σ2 H2 fun b H3 =>
        if b = true then te σ2 H3 fun y H4 => ∃ acc, H4 D = some (.lst acc) ∧ acc.length < sizeLine ∧ Nx (upd H4 D (.lst (acc ++ [y]))) else Nx H3) := by
  refine lcL (xs := xs) (fun i acc H => i ≤ xs.length ∧ acc = (List.range i).map f ∧ Same H1 H) nD ⟨Nat.zero_le _, rfl, Same.new nD⟩ (fun i acc H _ hp _ => hp.2.2.seq hx) ?_ ?_
  · rintro i x acc H Z Y hi ⟨_, rfl, hsame⟩ ha hz _
    have hi' : i < xs.length := (List.getElem?_eq_some_iff.mp hi).1
    refine hs i x H Z Y hi hsame fun H4 h4 => hz _ H4 (h4 _ _ ha) (sz4' (by simp; omega)) ⟨hi', ?_, Same.mut (hsame.trans h4) nD⟩
    rw [List.range_succ, List.map_append]
    rfl
  · rintro acc H ⟨_, rfl, hsame⟩ ha
    exact hd H hsame ha
/-- over a list, truths all true -/
theorem lcL_all (nD : H1 D = none) (hn : xs.length ≤ 1000000) (hx : SqL K H1 a xs)
    (hs : ∀ (i : Nat) (x : V) H (Z : VK) (Y : Hp → Prop), xs[i]? = some x → Same H1 H → (∀ H4, Same H H4 → Z (.bl true) H4) → LcTurn g tt te vs σ x H Z Y)
    (hd : ∀ H, Same H1 H → SqL K H D ((List.replicate xs.length true).map V.bl) → Qd H) :
    ∃ W : Nat → Nat → Hp → Prop, (∃ m, W 0 m (upd H1 D (.lst []))) ∧ ∀ i m H, W i m H →
      ((Itl K a).stop i H ∧ Qd H) ∨ ((Itl K a).go i H ∧ ∃ Nx : Hp → Prop, (∀ H', Nx H' → ∃ m', m' < m ∧ W (i + 1) m' H') ∧ ∀ x H', (Itl K a).yld i H x H' → g x (wipe σ vs) H' fun σ2 H2 => wipe σ2 vs = wipe σ vs ∧ tt σ2 H2 fun b H3 =>
        if b = true then te σ2 H3 fun y H4 => ∃ acc, H4 D = some (.lst acc) ∧ acc.length < sizeLine ∧ Nx (upd H4 D (.lst (acc ++ [y]))) else Nx H3) := by
  refine lcL_v (fun _ => .bl true) nD hn hx hs fun H hs' h => hd H hs' (.of ?_)
  rw [h, List.map_const', List.length_range, List.map_replicate]
theorem i_all {H : Hp} {Q : VK} {p : Addr} {m : Nat} (h : SqL K H p ((List.replicate m true).map V.bl)) (q : Q (.bl true) H) : rAll K [.ref p] H Q := by
  refine ⟨p, _, rfl, h, ?_⟩
  have e : (List.replicate m true).all id = true := by
    rw [List.all_eq_true]
    intro x hx
    rw [(List.mem_replicate.mp hx).2]
    rfl
  rw [e]
  exact q
theorem i_min {H : Hp} {Q : VK} {p : Addr} {ns : List Int} (h : SqL K H p (ns.map V.int)) (h0 : 0 < ns.length) (q : ∀ m, m ∈ ns → (∀ y, y ∈ ns → m ≤ y) → Q (.int m) H) : rMin K [.ref p] H Q := ⟨p, ns, rfl, h, h0, q⟩
theorem i_max {H : Hp} {Q : VK} {p : Addr} {ns : List Int} (h : SqL K H p (ns.map V.int)) (h0 : 0 < ns.length) (q : ∀ m, m ∈ ns → (∀ y, y ∈ ns → y ≤ m) → Q (.int m) H) : rMax K [.ref p] H Q := ⟨p, ns, rfl, h, h0, q⟩
theorem i_yes {P : Bool → Hp → Prop} (q : P true H) : tYes σ H P := q
theorem i_wipe {A : Prop} {σ2 : L2.St} (e : wipe σ2 vs = wipe σ vs) (q : A) : wipe σ2 vs = wipe σ vs ∧ A := ⟨e, q⟩
theorem i_turn {x : V} {Z : VK} {Y : Hp → Prop} {σ1 : L2.St} (e : wipe σ vs = σ1) (h : g x σ1 H fun σ2 H2 => wipe σ2 vs = σ1 ∧ tt σ2 H2 fun b H3 => if b = true then te σ2 H3 Z else Y H3) : LcTurn g tt te vs σ x H Z Y := by
  subst e
  exact h
theorem i_wiped {A : Prop} {σ1 σ2 : L2.St} (e : wipe σ2 vs = σ1) (q : A) : wipe σ2 vs = σ1 ∧ A := ⟨e, q⟩
end
theorem ixN_nn {n : Nat} {i : Int} (h0 : 0 ≤ i) (h1 : i < n) : ixN n i = some i.toNat := by
  unfold ixN
  rw [if_pos h0, if_pos h1]
theorem ixN_last {n : Nat} (h : 0 < n) : ixN n (-1) = some (n - 1) := by
  unfold ixN
  rw [if_neg (by decide), if_pos (by omega)]
  congr 1
  omega
theorem i_ixLast {K : PySem.W.Frag} {H : Hp} {p : Addr} {ms : List Int} {Q : VK} (h : SqL K H p (ms.map V.int)) (h1 : 0 < ms.length) (q : ∀ z, ms[ms.length - 1]? = some z → Q (.int z) H) : rIxL K (.ref p) (.int (-1)) H Q := by
  have e : ms[ms.length - 1]? = some ms[ms.length - 1] := List.getElem?_eq_getElem (by omega)
  refine ⟨p, _, -1, .int ms[ms.length - 1], rfl, rfl, h, ?_, q _ e⟩
  unfold atI
  rw [List.length_map, ixN_last h1, Option.bind_some, List.getElem?_map, e]
  rfl
theorem cut_init {xs : List V} : cutV xs none (some (-1)) = xs.dropLast := by
  unfold cutV
  rw [HT.sIx_none, List.drop_zero, Nat.sub_zero]
  have e : HT.sIx xs.length xs.length (some (-1)) = xs.length - 1 := by
    unfold HT.sIx
    simp
    omega
  rw [e, List.dropLast_eq_take]
theorem i_slInitM {K : PySem.W.Frag} {H : Hp} {p : Addr} {ms : List Int} {Q : VK} (h : SqL K H p (ms.map V.int)) (q : ∀ p', H p' = none → Q (.ref p') (upd H p' (.lst (ms.dropLast.map V.int)))) : rSlL K (.ref p) none (some (-1)) H Q := ⟨p, _, rfl, h, by rw [cut_init, ← List.map_dropLast]; exact q⟩
theorem i_setLast {H : Hp} {p : Addr} {ms : List Int} {z : Int} {Z : Hp → Prop} (h : H p = some (.lst (ms.map V.int))) (h1 : 0 < ms.length) (q : Z (upd H p (.lst ((ms.set (ms.length - 1) z).map V.int)))) : rSetL (.ref p) (.int (-1)) (.int z) H Z :=
  ⟨p, _, -1, ms.length - 1, rfl, rfl, h, by rw [List.length_map]; exact ixN_last h1, by rw [← List.map_set]; exact q⟩
theorem i_catM1 {H : Hp} {p r : Addr} {ms : List Int} {y : Int} {Q : VK} (h1 : H p = some (.lst (ms.map V.int))) (h2 : H r = some (.lst [.int y])) (hz : ms.length + 1 ≤ 1000000) (q : ∀ p', H p' = none → Q (.ref p') (upd H p' (.lst ((ms ++ [y]).map V.int)))) : rCat (.ref p) (.ref r) H Q := i_catM (ns := [y]) h1 h2 hz q
theorem fil_last (b : Nat → Bool) : ∀ n, (List.range n).filter b = [] ∨ ∃ k, k < n ∧ b k = true ∧ (∀ j, k < j → j < n → b j = false) ∧ ((List.range n).filter b)[((List.range n).filter b).length - 1]? = some k
  | 0 => .inl rfl
  | n + 1 => by
    rw [List.range_succ, List.filter_append]
    cases e : b n with
    | true =>
      refine .inr ⟨n, by omega, e, fun j h1 h2 => by omega, ?_⟩
      have : List.filter b [n] = [n] := by simp [e]
      rw [this, List.length_append]
      simp
    | false =>
      have : List.filter b [n] = [] := by simp [e]
      rw [this, List.append_nil]
      rcases fil_last b n with h | ⟨k, h1, h2, h3, h4⟩
      · exact .inl h
      · refine .inr ⟨k, by omega, h2, fun j g1 g2 => ?_, h4⟩
        by_cases c : j = n
        · subst c; exact e
        · exact h3 j g1 (by omega)
theorem fil_none {b : Nat → Bool} {n : Nat} (h : (List.range n).filter b = []) {j : Nat} (hj : j < n) : b j = false := by
  have := List.filter_eq_nil_iff.mp h j (List.mem_range.mpr hj)
  simpa using this
theorem i_reverse {H : Hp} {p : Addr} {ms : List Int} {Q : VK} (h : H p = some (.lst (ms.map V.int))) (q : Q .non (upd H p (.lst (ms.reverse.map V.int)))) : rReverse (.ref p) [] H Q := ⟨p, _, rfl, rfl, h, by rw [← List.map_reverse]; exact q⟩
theorem i_ne00 {K : PySem.W.Frag} {H : Hp} {Q : VK} {p r : Addr} (h1 : SqL K H p []) (h2 : SqL K H r []) (q : Q (.bl false) H) : rNeD K (.ref p) (.ref r) H Q := i_neLI (ms := []) (ns := []) h1 h2 (by simpa using q)
theorem i_min2 {K : Prop} {R : Int → Int → Prop} {i j : Int} (q : R i j) : ∃ i' j', [V.int i, V.int j] = [.int i', .int j'] ∧ R i' j' := ⟨i, j, rfl, q⟩
theorem i_setM {H : Hp} {p : Addr} {ms : List Int} {i z : Int} {Z : Hp → Prop} (h : H p = some (.lst (ms.map V.int))) (h0 : 0 ≤ i) (h1 : i < ms.length) (q : Z (upd H p (.lst ((ms.set i.toNat z).map V.int)))) : rSetL (.ref p) (.int i) (.int z) H Z :=
  ⟨p, _, i, i.toNat, rfl, rfl, h, ixN_nn h0 (by rw [List.length_map]; exact h1), by rw [← List.map_set]; exact q⟩
/-! ### the rules that name the written part, K told -/
def rListOf (K : PySem.W.Frag) : List V → Hp → VK → Prop := fun xs H Q => ∃ p ys, xs = [V.ref p] ∧ (SqL K H p ys ∨ SqT K H p ys) ∧ ∀ l, H l = none → Q (.ref l) (upd H l (.lst ys))
def rTupleOf (K : PySem.W.Frag) : List V → Hp → VK → Prop := fun xs H Q => ∃ p ys, xs = [V.ref p] ∧ ((SqL K H p ys ∧ ∀ l, H l = none → Q (.ref l) (upd H l (.tup ys))) ∨ (SqT K H p ys ∧ Q (.ref p) H))
section
variable {X : Cx} (K : PySem.W.Frag) (e : X.K = K)
include e
theorem sl_listK : SlR X (rSlL K) := by subst e; exact sl_list
theorem sl_tupK : SlR X (rSlA K) := by subst e; exact sl_tupA
theorem ix_listK : IxR X (rIxL K) := by subst e; exact ix_list
theorem ix_tupK : IxR X (rIxT K) := by subst e; exact ix_tup
theorem ix_seqK : IxR X (rIx K) := by subst e; exact ix_seq
theorem call_lenK : CallR X (.builtin "len") (rLenA K) := by subst e; exact call_lenA
theorem cr_sumK (hc : X.calm = true) : CallR X (.builtin "sum") (rSum K) := by subst e; exact cr_sum hc
theorem cr_minK (hc : X.calm = true) : CallR X (.builtin "min") (rMin K) := by subst e; exact cr_min hc
theorem cr_maxK (hc : X.calm = true) : CallR X (.builtin "max") (rMax K) := by subst e; exact cr_max hc
theorem cr_anyK (hc : X.calm = true) : CallR X (.builtin "any") (rAny K) := by subst e; exact cr_any hc
theorem cr_allK (hc : X.calm = true) : CallR X (.builtin "all") (rAll K) := by subst e; exact cr_all hc
theorem call_isiK' : CallR X (.builtin "isinstance") (rIsi K) := by subst e; exact call_isi
theorem call_listK : CallR X (.type "list") (rListOf K) := by subst e; exact call_list_of
theorem call_tupleK : CallR X (.type "tuple") (rTupleOf K) := by subst e; exact call_tuple_of
theorem op_eqDK (hu : X.A.units + 64 < cLine) : OpR X (compareOp .Eq) (rEqD K) := by subst e; exact op_eqD hu
theorem op_neDK (hu : X.A.units + 64 < cLine) : OpR X (compareOp .NotEq) (rNeD K) := by subst e; exact op_neD hu
theorem op_ltTK (hu : X.A.units < cLine) : OpR X (compareOp .Lt) (rLtT K) := by subst e; exact op_ltT hu
theorem op_catTK : OpR X (binaryOp .Add) (rCatT K) := by subst e; exact op_catT
theorem op_inK : OpR X (compareOp .In) (rIn K false) := by subst e; exact op_in_seq
theorem op_notInK : OpR X (compareOp .NotIn) (rIn K true) := by subst e; exact op_notIn_seq
theorem pi_listK {tg l : Expr} {tl : TE} (hl : PE X l tl) : PI X tg l (iList K tl) := by subst e; exact pi_list hl
theorem pi_tupK {tg l : Expr} {tl : TE} (hl : PE X l tl) : PI X tg l (iTup K tl) := by subst e; exact pi_tup hl
theorem pg_tupK {es : List Expr} {k : Nat} {t : TGs} {pos : Pos} (n : Nat) (hc : X.calm = true) (h : PGs X es t) (hn : (assignEach es X.env).length = n := by rfl) (hst : (assignEach es X.env).findIdx? (·.1) = none := by rfl) : PG X (.Tuple es k pos) (gTup K n t) := by subst e; exact pg_tup hc h hn hst
theorem pg_lstK {es : List Expr} {k : Nat} {t : TGs} {pos : Pos} (n : Nat) (hc : X.calm = true) (h : PGs X es t) (hn : (assignEach es X.env).length = n := by rfl) (hst : (assignEach es X.env).findIdx? (·.1) = none := by rfl) : PG X (.Tuple es k pos) (gLst K n t) := by subst e; exact pg_lst hc h hn hst
end
section
variable {H : Hp} {Q : VK} {K : PySem.W.Frag} {p : Addr} {xs : List V}
theorem i_listOf (h : SqL K H p xs) (q : ∀ l, H l = none → Q (.ref l) (upd H l (.lst xs))) : rListOf K [.ref p] H Q := ⟨p, xs, rfl, .inl h, q⟩
theorem i_listOfT (h : SqT K H p xs) (q : ∀ l, H l = none → Q (.ref l) (upd H l (.lst xs))) : rListOf K [.ref p] H Q := ⟨p, xs, rfl, .inr h, q⟩
end
theorem wipe_one {σ σ1 : L2.St} {k : Nat} (e : List.set σ k none = σ1) : wipe σ [k] = σ1 := e
theorem wipe_two {σ σ1 σ2 : L2.St} {j k : Nat} (e : List.set σ k none = σ1) (e2 : List.set σ1 j none = σ2) : wipe σ [j, k] = σ2 := by
  show List.set (List.set σ k none) j none = σ2
  rw [e, e2]
theorem wipe_three {σ σ1 σ2 σ3 : L2.St} {i j k : Nat} (e : List.set σ k none = σ1) (e2 : List.set σ1 j none = σ2) (e3 : List.set σ2 i none = σ3) : wipe σ [i, j, k] = σ3 := by
  show List.set (List.set (List.set σ k none) j none) i none = σ3
  rw [e, e2, e3]
end Hf
namespace K11
open PySem PySem.Spec PyProof.Rows L2 Hf
local macro_rules | `(tactic| walk_at "g_ne") => `(tactic| first | assumption | (apply Hf.ne_at; assumption) | ((with_reducible refine' Hf.ne_new ?n9 ?h9); (case n9 => assumption); (case h9 => walk_at "g_lk")) | ((with_reducible refine' Hf.ne_new' ?n9 ?h9); (case n9 => assumption); (case h9 => walk_at "g_lk")) | fail "g_ne")
local macro_rules | `(tactic| walk_at "g_lk") => `(tactic| first | (with_reducible assumption) | (with_reducible exact L2.upd_same) | ((with_reducible refine' Hf.lk_new ?n9 ?h9); (case n9 => assumption); (case h9 => walk_at "g_lk")) | ((with_reducible refine' Hf.lk_updG ?g9 ?n9 ?h9); (case g9 => ((fail_if_success ((apply Hf.Guard.of); assumption)); exact trivial)); (case n9 => walk_at "g_ne"); (case h9 => walk_at "g_lk")) | ((with_reducible refine' Hf.lk_same ?n9 ?h9); (case n9 => assumption); (case h9 => walk_at "g_lk")) | ((with_reducible refine' Hf.lk_but ?m9 ?n9 ?h9); (case m9 => assumption); (case n9 => walk_at "g_ne"); (case h9 => walk_at "g_lk")) | ((with_reducible refine' Hf.lk_but2 ?m9 ?n9 ?n8 ?h9); (case m9 => assumption); (case n9 => walk_at "g_ne"); (case n8 => walk_at "g_ne"); (case h9 => walk_at "g_lk")) | fail "g_lk")
local macro_rules | `(tactic| walk_at "g_sq") => `(tactic| first | (with_reducible assumption) | (with_reducible exact L2.SqL.of L2.upd_same) | (with_reducible exact L2.SqT.of L2.upd_same) | (with_reducible exact L2.SqL.of (by assumption)) | (with_reducible exact L2.SqT.of (by assumption)) | ((with_reducible refine' Hf.lkL_new ?n9 ?h9); (case n9 => assumption); (case h9 => walk_at "g_sq")) | ((with_reducible refine' Hf.lkT_new ?n9 ?h9); (case n9 => assumption); (case h9 => walk_at "g_sq")) | ((with_reducible refine' Hf.lkL_updG ?g9 ?n9 ?h9); (case g9 => ((fail_if_success ((apply Hf.Guard.of); assumption)); exact trivial)); (case n9 => walk_at "g_ne"); (case h9 => walk_at "g_sq")) | ((with_reducible refine' Hf.lkT_updG ?g9 ?n9 ?h9); (case g9 => ((fail_if_success ((apply Hf.Guard.of); assumption)); exact trivial)); (case n9 => walk_at "g_ne"); (case h9 => walk_at "g_sq")) | ((with_reducible refine' L2.Same.seq ?n9 ?h9); (case n9 => assumption); (case h9 => walk_at "g_sq")) | ((with_reducible refine' Hf.Same.seqT ?n9 ?h9); (case n9 => assumption); (case h9 => walk_at "g_sq")) | ((with_reducible refine' Hf.But.seq ?m9 ?n9 ?h9); (case m9 => assumption); (case n9 => walk_at "g_ne"); (case h9 => walk_at "g_sq")) | ((with_reducible refine' Hf.But.seqT ?m9 ?n9 ?h9); (case m9 => assumption); (case n9 => walk_at "g_ne"); (case h9 => walk_at "g_sq")) | ((with_reducible refine' Hf.But2.seq ?m9 ?n9 ?n8 ?h9); (case m9 => assumption); (case n9 => walk_at "g_ne"); (case n8 => walk_at "g_ne"); (case h9 => walk_at "g_sq")) | ((with_reducible refine' Hf.But2.seqT ?m9 ?n9 ?n8 ?h9); (case m9 => assumption); (case n9 => walk_at "g_ne"); (case n8 => walk_at "g_ne"); (case h9 => walk_at "g_sq")) | fail "g_sq")
local macro_rules | `(tactic| walk_at "g_but") => `(tactic| first | exact Hf.But.refl _ _ | assumption | (refine Hf.But.newT (by assumption) ?_; walk_at "g_but") | (refine Hf.But.upd ?_; walk_at "g_but") | (refine Hf.But.transT (by assumption) ?_; walk_at "g_but") | (refine Hf.But.transS (by assumption) ?_; walk_at "g_but") | fail "g_but")
local macro_rules | `(tactic| walk_at "g_but2") => `(tactic| first | exact Hf.But2.refl _ _ _ | assumption | (refine Hf.But2.newT (by assumption) ?_; walk_at "g_but2") | (refine Hf.But2.updL ?_; walk_at "g_but2") | (refine Hf.But2.updR ?_; walk_at "g_but2") | (refine Hf.But2.transT (by assumption) ?_; walk_at "g_but2") | (refine Hf.But2.transS (by assumption) ?_; walk_at "g_but2") | (refine Hf.But2.transL (by assumption) ?_; walk_at "g_but2") | (refine Hf.But2.transR (by assumption) ?_; walk_at "g_but2") | (refine Hf.But2.mut (by assumption) ?_; walk_at "g_but2") | (refine Hf.But2.butT (by assumption) (by assumption) ?_; walk_at "g_but2") | fail "g_but2")
local macro_rules | `(tactic| walk_at "g_same") => `(tactic| first | exact L2.Same.refl _ | assumption | (refine Hf.Same.newT' (by assumption) ?_; walk_at "g_same") | (refine Hf.Same.mut ?_ (by walk_at "g_free"); walk_at "g_same") | (refine Hf.Same.butT (by assumption) (by walk_at "g_free") ?_; walk_at "g_same") | (refine Hf.Same.but2T (by assumption) (by walk_at "g_free") (by walk_at "g_free") ?_; walk_at "g_same") | (refine Hf.Same.transT (by assumption) ?_; walk_at "g_same") | fail "g_same")
local macro_rules | `(tactic| walk_at "g_free") => `(tactic| first | assumption | ((refine' Hf.Same.free' (by assumption) ?h7); (case h7 => walk_at "g_same")) | ((refine' Hf.But.free (by assumption) ?h7 ?h8); (case h7 => walk_at "g_but"); (case h8 => walk_at "g_lk")) | ((refine' Hf.But2.free (by assumption) ?h7 ?h8 ?h6); (case h7 => walk_at "g_but2"); (case h8 => walk_at "g_lk"); (case h6 => walk_at "g_lk")) | fail "g_free")
local macro_rules | `(tactic| walk_at "g_set") => `(tactic| first | exact Hf.set_z | exact (Hf.set_s Hf.set_z) | exact (Hf.set_s (Hf.set_s Hf.set_z)) | exact (Hf.set_s (Hf.set_s (Hf.set_s Hf.set_z))) | exact (Hf.set_s (Hf.set_s (Hf.set_s (Hf.set_s Hf.set_z)))) | exact (Hf.set_s (Hf.set_s (Hf.set_s (Hf.set_s (Hf.set_s Hf.set_z))))) | exact (Hf.set_s (Hf.set_s (Hf.set_s (Hf.set_s (Hf.set_s (Hf.set_s Hf.set_z)))))) | exact (Hf.set_s (Hf.set_s (Hf.set_s (Hf.set_s (Hf.set_s (Hf.set_s (Hf.set_s Hf.set_z))))))) | exact (Hf.set_s (Hf.set_s (Hf.set_s (Hf.set_s (Hf.set_s (Hf.set_s (Hf.set_s (Hf.set_s Hf.set_z)))))))) | exact (Hf.set_s (Hf.set_s (Hf.set_s (Hf.set_s (Hf.set_s (Hf.set_s (Hf.set_s (Hf.set_s (Hf.set_s Hf.set_z))))))))) | exact (Hf.set_s (Hf.set_s (Hf.set_s (Hf.set_s (Hf.set_s (Hf.set_s (Hf.set_s (Hf.set_s (Hf.set_s (Hf.set_s Hf.set_z)))))))))) | exact (Hf.set_s (Hf.set_s (Hf.set_s (Hf.set_s (Hf.set_s (Hf.set_s (Hf.set_s (Hf.set_s (Hf.set_s (Hf.set_s (Hf.set_s Hf.set_z))))))))))) | exact (Hf.set_s (Hf.set_s (Hf.set_s (Hf.set_s (Hf.set_s (Hf.set_s (Hf.set_s (Hf.set_s (Hf.set_s (Hf.set_s (Hf.set_s (Hf.set_s Hf.set_z)))))))))))) | exact (Hf.set_s (Hf.set_s (Hf.set_s (Hf.set_s (Hf.set_s (Hf.set_s (Hf.set_s (Hf.set_s (Hf.set_s (Hf.set_s (Hf.set_s (Hf.set_s (Hf.set_s Hf.set_z))))))))))))) | exact (Hf.set_s (Hf.set_s (Hf.set_s (Hf.set_s (Hf.set_s (Hf.set_s (Hf.set_s (Hf.set_s (Hf.set_s (Hf.set_s (Hf.set_s (Hf.set_s (Hf.set_s (Hf.set_s Hf.set_z)))))))))))))) | exact (Hf.set_s (Hf.set_s (Hf.set_s (Hf.set_s (Hf.set_s (Hf.set_s (Hf.set_s (Hf.set_s (Hf.set_s (Hf.set_s (Hf.set_s (Hf.set_s (Hf.set_s (Hf.set_s (Hf.set_s Hf.set_z))))))))))))))) | exact (Hf.set_s (Hf.set_s (Hf.set_s (Hf.set_s (Hf.set_s (Hf.set_s (Hf.set_s (Hf.set_s (Hf.set_s (Hf.set_s (Hf.set_s (Hf.set_s (Hf.set_s (Hf.set_s (Hf.set_s (Hf.set_s Hf.set_z)))))))))))))))) | exact (Hf.set_s (Hf.set_s (Hf.set_s (Hf.set_s (Hf.set_s (Hf.set_s (Hf.set_s (Hf.set_s (Hf.set_s (Hf.set_s (Hf.set_s (Hf.set_s (Hf.set_s (Hf.set_s (Hf.set_s (Hf.set_s (Hf.set_s Hf.set_z))))))))))))))))) | exact (Hf.set_s (Hf.set_s (Hf.set_s (Hf.set_s (Hf.set_s (Hf.set_s (Hf.set_s (Hf.set_s (Hf.set_s (Hf.set_s (Hf.set_s (Hf.set_s (Hf.set_s (Hf.set_s (Hf.set_s (Hf.set_s (Hf.set_s (Hf.set_s Hf.set_z)))))))))))))))))) | exact (Hf.set_s (Hf.set_s (Hf.set_s (Hf.set_s (Hf.set_s (Hf.set_s (Hf.set_s (Hf.set_s (Hf.set_s (Hf.set_s (Hf.set_s (Hf.set_s (Hf.set_s (Hf.set_s (Hf.set_s (Hf.set_s (Hf.set_s (Hf.set_s (Hf.set_s Hf.set_z))))))))))))))))))) | exact (Hf.set_s (Hf.set_s (Hf.set_s (Hf.set_s (Hf.set_s (Hf.set_s (Hf.set_s (Hf.set_s (Hf.set_s (Hf.set_s (Hf.set_s (Hf.set_s (Hf.set_s (Hf.set_s (Hf.set_s (Hf.set_s (Hf.set_s (Hf.set_s (Hf.set_s (Hf.set_s Hf.set_z)))))))))))))))))))) | exact (Hf.set_s (Hf.set_s (Hf.set_s (Hf.set_s (Hf.set_s (Hf.set_s (Hf.set_s (Hf.set_s (Hf.set_s (Hf.set_s (Hf.set_s (Hf.set_s (Hf.set_s (Hf.set_s (Hf.set_s (Hf.set_s (Hf.set_s (Hf.set_s (Hf.set_s (Hf.set_s (Hf.set_s Hf.set_z))))))))))))))))))))) | exact (Hf.set_s (Hf.set_s (Hf.set_s (Hf.set_s (Hf.set_s (Hf.set_s (Hf.set_s (Hf.set_s (Hf.set_s (Hf.set_s (Hf.set_s (Hf.set_s (Hf.set_s (Hf.set_s (Hf.set_s (Hf.set_s (Hf.set_s (Hf.set_s (Hf.set_s (Hf.set_s (Hf.set_s (Hf.set_s Hf.set_z)))))))))))))))))))))) | exact (Hf.set_s (Hf.set_s (Hf.set_s (Hf.set_s (Hf.set_s (Hf.set_s (Hf.set_s (Hf.set_s (Hf.set_s (Hf.set_s (Hf.set_s (Hf.set_s (Hf.set_s (Hf.set_s (Hf.set_s (Hf.set_s (Hf.set_s (Hf.set_s (Hf.set_s (Hf.set_s (Hf.set_s (Hf.set_s (Hf.set_s Hf.set_z))))))))))))))))))))))) | fail "g_set")
local macro_rules | `(tactic| walk_at "g_sz") => `(tactic| first | exact Hf.sz4 (by decide) | exact Hf.sz4' (by decide) | (refine Hf.sz4 ?_; simp; done) | (refine Hf.sz4 ?_; simp; omega) | (refine Hf.sz4 ?_; simp only [List.length_cons, List.length_nil, List.length_take, List.length_drop, List.length_map, List.length_append, List.length_replicate]; omega) | (refine Hf.sz4' ?_; simp; omega) | (refine Hf.sz4' ?_; omega) | (refine Hf.sz4 ?_; omega) | fail "g_sz")
local macro_rules | `(tactic| walk_at "g_at") => `(tactic| first | rfl | assumption | fail "g_at")
local macro_rules | `(tactic| walk_at "g_c") => `(tactic| first | assumption | omega | decide | (refine Hf.mulL ?_; omega) | (refine Hf.mulR ?_; omega) | (refine Hf.divS ?_ ?_ <;> omega) | (refine ⟨?_, ?_, ?_⟩ <;> first | omega | decide) | (refine ⟨?_, ?_⟩ <;> first | assumption | omega) | fail "g_c")
local macro_rules | `(tactic| walk_at "g_ixn") => `(tactic| first | (show L2.ixN _ _ = some 0; rfl) | (show L2.ixN _ _ = some 1; rfl) | (show L2.ixN _ _ = some 2; rfl) | (show L2.ixN _ _ = some 3; rfl) | (show L2.ixN _ _ = some 4; rfl) | (show L2.ixN _ _ = some 5; rfl) | (show L2.ixN _ _ = some 6; rfl) | (show L2.ixN _ _ = some 7; rfl) | assumption | fail "g_ixn")
local macro_rules | `(tactic| walk_at "g_pow") => `(tactic| first | (show (10 : Int) ^ (9 : Int).toNat = 1000000000; rfl) | (show (10 : Int) ^ (18 : Int).toNat = 1000000000000000000; rfl) | (show (10 : Int) ^ (20 : Int).toNat = 100000000000000000000; rfl) | (show (10 : Int) ^ (29 : Int).toNat = 100000000000000000000000000000; rfl) | (show (10 : Int) ^ (26 : Int).toNat = 100000000000000000000000000; rfl) | (show (10 : Int) ^ (10 : Int).toNat = 10000000000; rfl) | (show (10 : Int) ^ (19 : Int).toNat = 10000000000000000000; rfl) | (show (10 : Int) ^ (27 : Int).toNat = 1000000000000000000000000000; rfl) | (show (10 : Int) ^ (28 : Int).toNat = 10000000000000000000000000000; rfl) | (show (10 : Int) ^ (25 : Int).toNat = 10000000000000000000000000; rfl) | (show (10 : Int) ^ (30 : Int).toNat = 1000000000000000000000000000000; rfl) | (show (10 : Int) ^ (2 : Int).toNat = 100; rfl) | (show (10 : Int) ^ (3 : Int).toNat = 1000; rfl) | fail "g_pow")
local macro_rules | `(tactic| walk_at "g_ty") => `(tactic| first | exact .base .non | exact .base (.bl _) | exact .base (.int _) | exact .base (.str _) | exact .base (.lst (by walk_at "g_lk")) | exact .base (.tup (by walk_at "g_lk")) | exact .base (.dK (by walk_at "g_lk")) | exact .base (.dT (by walk_at "g_lk")) | fail "g_ty")
local macro_rules | `(tactic| walk_at "g_pre") => `(tactic| first | (with_reducible assumption) | walk_at "g_lk" | walk_at "g_sq" | walk_at "g_but" | walk_at "g_but2" | walk_at "g_same" | walk_at "g_free" | omega | (refine ⟨?_, ?_⟩ <;> omega) | exact .inl (by omega) | exact .inr (by omega) | assumption | fail "g_pre")
local macro_rules | `(tactic| walk_at "g_call") => `(tactic| fail "g_call: no rule")
local macro_rules | `(tactic| walk_at "g_val") => `(tactic| first
  | (with_reducible refine' Hf.i_I0 ?_)
  | ((with_reducible refine' Hf.i_pow ?k1 ?k2 ?_); (case k1 => walk_at "g_c"); (case k2 => walk_at "g_pow"))
  | ((with_reducible refine' Hf.i_I ?k1 ?_); (case k1 => walk_at "g_c"))
  | (with_reducible refine' Hf.i_U ?_)
  | (with_reducible refine' Hf.i_eqI ?_)
  | (with_reducible refine' Hf.i_neI ?_)
  | (with_reducible refine' Hf.i_eqB ?_)
  | (with_reducible refine' Hf.i_neB ?_)
  | (with_reducible refine' Hf.i_eqS ?_)
  | (with_reducible refine' Hf.i_neS ?_)
  | ((with_reducible refine' Hf.i_ixL ?k1 ?k2 ?_); (case k1 => walk_at "g_sq"); (case k2 => walk_at "g_at"))
  | ((with_reducible refine' Hf.i_ixT ?k1 ?k2 ?_); (case k1 => walk_at "g_sq"); (case k2 => walk_at "g_at"))
  | ((with_reducible refine' Hf.i_ix2I ?k1 ?k2 ?k3 ?_); (case k1 => walk_at "g_sq"); (case k2 => omega); (case k3 => omega); intro _ _)
  | ((with_reducible refine' Hf.i_ix3I ?k1 ?k2 ?k3 ?_); (case k1 => walk_at "g_sq"); (case k2 => omega); (case k3 => omega); intro _ _)
  | ((with_reducible refine' Hf.i_ix4I ?k1 ?k2 ?k3 ?_); (case k1 => walk_at "g_sq"); (case k2 => omega); (case k3 => omega); intro _ _)
  | ((with_reducible refine' Hf.i_ix3R ?k1 ?k2 ?k3 ?_); (case k1 => walk_at "g_sq"); (case k2 => omega); (case k3 => omega); intro _ _)
  | ((with_reducible refine' Hf.i_ix4R ?k1 ?k2 ?k3 ?_); (case k1 => walk_at "g_sq"); (case k2 => omega); (case k3 => omega); intro _ _)
  | (with_reducible refine' Hf.i_abs ?_)
  | (with_reducible refine' Hf.i_int2 ?_)
  | (with_reducible refine' Hf.i_int1 ?_)
  | (with_reducible refine' Hf.i_intb ?_)
  | ((with_reducible refine' Hf.i_isi ?k1 ?k2 ?_); (case k1 => walk_at "g_ty"); (case k2 => first | (show L2.kitB _ _ = some true; decide +kernel) | (show L2.kitB _ _ = some false; decide +kernel)))
  | ((with_reducible refine' Hf.i_lenL ?k1 ?_); (case k1 => walk_at "g_sq"))
  | ((with_reducible refine' Hf.i_lenT ?k1 ?_); (case k1 => walk_at "g_sq"))
  | ((with_reducible refine' Hf.i_appendM ?k1 ?k2 ?_); (case k1 => walk_at "g_lk"); (case k2 => walk_at "g_sz"))
  | ((with_reducible refine' Hf.i_append ?k1 ?k2 ?_); (case k1 => walk_at "g_lk"); (case k2 => walk_at "g_sz"))
  | ((with_reducible refine' Hf.i_bmL ?k1 ?_); (case k1 => walk_at "g_sq"))
  | ((with_reducible refine' Hf.i_setLast ?k1 ?k2 ?_); (case k1 => walk_at "g_lk"); (case k2 => first | omega | (simp; done) | (simp; omega)))
  | ((with_reducible refine' Hf.i_setM ?k1 ?k2 ?k3 ?_); (case k1 => walk_at "g_lk"); (case k2 => omega); (case k3 => first | omega | (simp; done) | (simp; omega)))
  | ((with_reducible refine' Hf.i_setL ?k1 ?k2 ?_); (case k1 => walk_at "g_lk"); (case k2 => walk_at "g_ixn"); (try dsimp only [List.set_cons_zero, List.set_cons_succ])) | fail "g_val")
local macro_rules | `(tactic| walk_at "g_val2") => `(tactic| first
  | ((with_reducible refine' Hf.i_slInitM ?k1 ?_); (case k1 => walk_at "g_sq"); intro _ _)
  | ((with_reducible refine' Hf.i_ixLast ?k1 ?k2 ?_); (case k1 => walk_at "g_sq"); (case k2 => first | omega | (simp; done) | (simp; omega)); intro _ _)
  | ((with_reducible refine' Hf.i_slToM ?k1 ?k2 ?_); (case k1 => walk_at "g_sq"); (case k2 => omega); intro _ _)
  | ((with_reducible refine' Hf.i_slFromM ?k1 ?k2 ?_); (case k1 => walk_at "g_sq"); (case k2 => omega); intro _ _)
  | ((with_reducible refine' Hf.i_slMidM ?k1 ?k2 ?k3 ?_); (case k1 => walk_at "g_sq"); (case k2 => omega); (case k3 => omega); intro _ _)
  | ((with_reducible refine' Hf.i_slTo ?k1 ?k2 ?_); (case k1 => walk_at "g_sq"); (case k2 => omega); intro _ _)
  | ((with_reducible refine' Hf.i_slFrom ?k1 ?k2 ?_); (case k1 => walk_at "g_sq"); (case k2 => omega); intro _ _)
  | ((with_reducible refine' Hf.i_slMid ?k1 ?k2 ?k3 ?_); (case k1 => walk_at "g_sq"); (case k2 => omega); (case k3 => omega); intro _ _)
  | ((with_reducible refine' Hf.i_eqT2 ?k1 ?k2 ?_); (case k1 => walk_at "g_sq"); (case k2 => walk_at "g_sq"))
  | (with_reducible refine' Hf.i_sl ?_)
  | ((with_reducible refine' Hf.i_lenA ?k1 ?_); (case k1 => first | exact Hf.lenA_map (by walk_at "g_sq") | exact Hf.lenA_L (by walk_at "g_sq") | exact Hf.lenA_T (by walk_at "g_sq")))
  | ((with_reducible refine' Hf.i_ixM ?k1 ?k2 ?k3 ?_); (case k1 => walk_at "g_sq"); (case k2 => omega); (case k3 => omega); intro _ _)
  | ((with_reducible refine' Hf.i_listOf ?k1 ?_); (case k1 => walk_at "g_sq"); intro _ _)
  | ((with_reducible refine' Hf.i_listOfT ?k1 ?_); (case k1 => walk_at "g_sq"); intro _ _)
  | ((with_reducible refine' Hf.i_sum ?k1 ?_); (case k1 => walk_at "g_sq"))
  | ((with_reducible refine' Hf.i_all ?k1 ?_); (case k1 => walk_at "g_sq"))
  | ((with_reducible refine' Hf.i_min ?k1 ?k2 ?_); (case k1 => walk_at "g_sq"); (case k2 => omega); intro _ _ _)
  | ((with_reducible refine' Hf.i_max ?k1 ?k2 ?_); (case k1 => walk_at "g_sq"); (case k2 => omega); intro _ _ _)
  | ((with_reducible refine' Hf.i_eqLI ?k1 ?k2 ?_); (case k1 => walk_at "g_sq"); (case k2 => walk_at "g_sq"))
  | ((with_reducible refine' Hf.i_neLI ?k1 ?k2 ?_); (case k1 => walk_at "g_sq"); (case k2 => walk_at "g_sq"))
  | ((with_reducible refine' Hf.i_eqL0 ?k1 ?k2 ?_); (case k1 => walk_at "g_sq"); (case k2 => walk_at "g_sq"))
  | ((with_reducible refine' Hf.i_eq00 ?k1 ?k2 ?_); (case k1 => walk_at "g_sq"); (case k2 => walk_at "g_sq"))
  | ((with_reducible refine' Hf.i_ne00 ?k1 ?k2 ?_); (case k1 => walk_at "g_sq"); (case k2 => walk_at "g_sq"))
  | ((with_reducible refine' Hf.i_reverse ?k1 ?_); (case k1 => walk_at "g_lk"))
  | ((with_reducible refine' Hf.i_glst ?k1 ?k2 ?_); (case k1 => walk_at "g_sq"); (case k2 => rfl))
  | (with_reducible refine' Hf.i_lc ?_)
  | ((with_reducible refine' Hf.i_turn ?k1 ?_); (case k1 => first | ((show L2.wipe _ [_] = _); (apply Hf.wipe_one); walk_at "g_set") | ((show L2.wipe _ [_, _] = _); (apply Hf.wipe_two); walk_at "g_set"; walk_at "g_set") | ((show L2.wipe _ [_, _, _] = _); (apply Hf.wipe_three); walk_at "g_set"; walk_at "g_set"; walk_at "g_set")))
  | ((with_reducible refine' Hf.i_wiped ?k1 ?_); (case k1 => rfl))
  | (with_reducible refine' Hf.i_yes ?_)
  | (with_reducible refine' Hf.i_nopart ?_)
  | (with_reducible refine' Hf.i_part ?_)
  | (with_reducible refine' Hf.i_exint ?_)
  | ((with_reducible refine' Hf.i_catM ?k1 ?k2 ?k3 ?_); (case k1 => walk_at "g_lk"); (case k2 => walk_at "g_lk"); (case k3 => (simp; omega)); intro _ _)
  | ((with_reducible refine' Hf.i_catM1 ?k1 ?k2 ?k3 ?_); (case k1 => walk_at "g_lk"); (case k2 => walk_at "g_lk"); (case k3 => first | omega | (simp; omega)); intro _ _)
  | ((with_reducible refine' Hf.i_cat ?k1 ?k2 ?k3 ?_); (case k1 => walk_at "g_lk"); (case k2 => walk_at "g_lk"); (case k3 => walk_at "g_sz"); intro _ _)
  | ((with_reducible refine' Hf.i_repM ?k1 ?k2 ?_); (case k1 => walk_at "g_lk"); (case k2 => omega); intro _ _)
  | ((with_reducible refine' Hf.i_rep1 ?k1 ?k2 ?_); (case k1 => walk_at "g_lk"); (case k2 => omega); intro _ _) | fail "g_val2")
local macro_rules | `(tactic| walk_at "g1") => `(tactic| first
  | ((with_reducible refine' Hf.i_var ?k1 ?_); (case k1 => rfl))
  | (with_reducible refine' Hf.i_c ?_)
  | (with_reducible refine' Hf.i_op ?_)
  | (with_reducible refine' Hf.i_cons ?_)
  | (with_reducible refine' Hf.i_nil ?_)
  | (with_reducible refine' Hf.i_seq ?_)
  | (with_reducible refine' Hf.i_asg ?_)
  | ((with_reducible refine' Hf.i_gname ?k1 ?_); (case k1 => walk_at "g_set"))
  | (with_reducible refine' Hf.i_ret ?_)
  | (with_reducible refine' Hf.i_next ?_)
  | (with_reducible refine' Hf.i_ifs ?_)
  | ((with_reducible refine' Hf.ite_y ?k1 ?_); (case k1 => rfl))
  | ((with_reducible refine' Hf.ite_n ?k1 ?_); (case k1 => rfl))
  | (with_reducible refine' Hf.i_test ?_)
  | (with_reducible refine' Hf.i_B ?_)
  | (with_reducible refine' Hf.i_bl ?_)
  | (with_reducible refine' Hf.i_call ?_)
  | (with_reducible refine' Hf.i_cb ?_)
  | (with_reducible refine' Hf.i_tup ?_)
  | (with_reducible refine' Hf.i_lst ?_)
  | ((with_reducible refine' Hf.i_new ?k1 ?_); (case k1 => walk_at "g_sz"); intro _ _)
  | (with_reducible refine' Hf.i_un ?_)
  | (with_reducible refine' Hf.i_and ?_)
  | (with_reducible refine' Hf.i_or ?_)
  | (with_reducible refine' Hf.i_not ?_)
  | (with_reducible refine' Hf.i_andV ?_)
  | (with_reducible refine' Hf.i_orV ?_)
  | (with_reducible refine' Hf.i_notV ?_)
  | (with_reducible refine' Hf.i_ife ?_)
  | (with_reducible refine' Hf.i_drop ?_)
  | (with_reducible refine' Hf.i_par ?_)
  | ((with_reducible refine' Hf.i_par2 ?k1 ?_); (case k1 => (apply Hf.set_par; walk_at "g_set"; walk_at "g_set")))
  | ((with_reducible refine' Hf.i_aug ?k1 ?_); (case k1 => rfl))
  | (with_reducible refine' Hf.i_ip ?_)
  | (with_reducible refine' Hf.i_bm ?_)
  | (with_reducible refine' Hf.i_bm0 ?_)
  | ((with_reducible refine' Hf.i_gtup ?k1 ?k2 ?_); (case k1 => walk_at "g_sq"); (case k2 => rfl))
  | (with_reducible refine' Hf.i_gcons ?_)
  | (with_reducible refine' Hf.i_gnil ?_)
  | (with_reducible refine' Hf.i_gsub ?_)
  | (with_reducible refine' Hf.i_for ?_)
  | (with_reducible refine' Hf.i_rng1 ?_)
  | ((with_reducible refine' Hf.i_rng1' ?k1 ?k2 ?_); (case k1 => omega); (case k2 => omega))
  | (with_reducible refine' Hf.i_rng2 ?_)
  | ((with_reducible refine' Hf.i_rng2' ?k1 ?_); (case k1 => omega))
  | (with_reducible refine' Hf.i_ilist ?_)
  | ((with_reducible refine' Hf.i_ilist' ?k1 ?_); (case k1 => walk_at "g_sq"))
  | (with_reducible refine' Hf.i_itup ?_)
  | ((with_reducible refine' Hf.i_itup' ?k1 ?_); (case k1 => walk_at "g_sq"))
  | (with_reducible refine' Hf.i_retN ?_)
  | (with_reducible refine' Hf.i_brk ?_)
  | (with_reducible refine' Hf.i_cnt ?_)
  | walk_at "g_val"
  | walk_at "g_val2"
  | walk_at "g_call"
  | (with_reducible refine' Hf.i_isn ?_)
  | (with_reducible refine' Hf.i_tru ?_)
  | dsimp only | fail "g1")
local macro_rules | `(tactic| walk_at "go") => `(tactic| repeat walk_at "g1")
local macro_rules | `(tactic| walk_at "goI") => `(tactic| repeat ((fail_if_success (with_reducible refine' Hf.i_ifs ?_)); walk_at "g1"))
local macro_rules | `(tactic| walk_at "goF") => `(tactic| repeat ((fail_if_success (with_reducible refine' Hf.i_for ?_)); walk_at "g1"))

/-- how many lists of f numbers come to h -/
def plansN : Nat → Nat → Nat
  | h, 0 => if h = 0 then 1 else 0
  | h, f + 1 => ((List.range (h + 1)).map fun x => plansN (h - x) f).sum
def sumTo (g : Nat → Nat) : Nat → Nat
  | 0 => g 0
  | h + 1 => sumTo g h + g (h + 1)
theorem sum_map_add {α : Type} (l : List α) (f : α → Nat) (x : Nat) : (l.map f).sum + x = x + (l.map f).sum := Nat.add_comm _ _
theorem range_sum_rev (g : Nat → Nat) : ∀ h : Nat, ((List.range (h + 1)).map fun x => g (h - x)).sum = sumTo g h
  | 0 => by simp [sumTo]
  | h + 1 => by
    have ih := range_sum_rev g h
    rw [List.range_succ_eq_map, List.map_cons, List.sum_cons, List.map_map]
    have e : (List.map ((fun x => g (h + 1 - x)) ∘ Nat.succ) (List.range (h + 1))) = (List.range (h + 1)).map fun x => g (h - x) := by
      apply List.map_congr_left
      intro x _
      show g (h + 1 - (x + 1)) = g (h - x)
      rw [Nat.add_sub_add_right]
    rw [e, ih]
    show g (h + 1 - 0) + sumTo g h = sumTo g h + g (h + 1)
    rw [Nat.sub_zero, Nat.add_comm]
theorem range_sum_fwd (g : Nat → Nat) : ∀ h : Nat, ((List.range (h + 1)).map g).sum = sumTo g h
  | 0 => by simp [sumTo]
  | h + 1 => by
    have ih := range_sum_fwd g h
    rw [List.range_succ, List.map_append, List.sum_append, ih]
    simp [sumTo]
theorem plans_succ (h f : Nat) : plansN h (f + 1) = sumTo (fun j => plansN j f) h := range_sum_rev (fun j => plansN j f) h
/-- B h k: plans of h hosts on k + 1 fields -/
def binN (h k : Nat) : Nat := plansN h (k + 1)
theorem bin_zero_right : ∀ h : Nat, binN h 0 = 1
  | 0 => by simp [binN, plansN]
  | h + 1 => by
    have ih := bin_zero_right h
    unfold binN at *
    rw [plans_succ] at *
    show sumTo _ h + plansN (h + 1) 0 = 1
    rw [ih]
    simp [plansN]
theorem bin_pascal (h k : Nat) : binN (h + 1) (k + 1) = binN h (k + 1) + binN (h + 1) k := by
  unfold binN
  rw [plans_succ (h + 1) (k + 1), plans_succ h (k + 1)]
  rfl
theorem bin_zero_left : ∀ k : Nat, binN 0 k = 1
  | 0 => bin_zero_right 0
  | k + 1 => by
    have ih := bin_zero_left k
    unfold binN at *
    rw [plans_succ]
    exact ih
theorem bin_pr : ∀ h : Nat, (∀ k, (k + 1) * binN h (k + 1) = (h + k + 1) * binN h k) ∧ ∀ k, (h + 1) * binN (h + 1) k = (h + k + 1) * binN h k := by
  intro h
  induction h with
  | zero =>
    have hP : ∀ k, (k + 1) * binN 0 (k + 1) = (0 + k + 1) * binN 0 k := fun k => by rw [bin_zero_left, bin_zero_left, Nat.zero_add]
    refine ⟨hP, fun k => ?_⟩
    induction k with
    | zero => rw [bin_zero_right, bin_zero_right]
    | succ k ih =>
      rw [bin_pascal, Nat.mul_add, ih, ← hP k, bin_zero_left]
      omega
  | succ h ih =>
    obtain ⟨hP, hR⟩ := ih
    have hP' : ∀ k, (k + 1) * binN (h + 1) (k + 1) = (h + 1 + k + 1) * binN (h + 1) k := fun k => by
      rw [bin_pascal, Nat.mul_add, hP k, ← hR k, ← Nat.add_mul]
      try rfl
    refine ⟨hP', fun k => ?_⟩
    induction k with
    | zero => rw [bin_zero_right, bin_zero_right]
    | succ k ih =>
      rw [bin_pascal (h + 1) k, Nat.mul_add, ih, ← hP' k, ← Nat.add_mul]
      have e : h + 1 + 1 + (k + 1) = h + 1 + (k + 1) + 1 := by omega
      rw [e]
theorem bin_step (h k : Nat) : binN h k * (h + (k + 1)) / (k + 1) = binN h (k + 1) := by
  have e := (bin_pr h).1 k
  rw [Nat.mul_comm (binN h k), ← Nat.add_assoc, ← e, Nat.mul_div_cancel_left _ (Nat.succ_pos k)]
def waysI (h f : Nat) : Int := (plansN h f : Int)
theorem ways_zero (h : Nat) : waysI h 0 = if h = 0 then 1 else 0 := by
  unfold waysI
  simp only [plansN]
  split <;> rfl
theorem step_int (h i : Nat) : ((binN h i : Int) * ((h : Int) + (1 + (i : Int)))).fdiv (1 + (i : Int)) = (binN h (i + 1) : Int) := by
  have e1 : ((binN h i : Int) * ((h : Int) + (1 + (i : Int)))) = ((binN h i * (h + (i + 1)) : Nat) : Int) := by
    rw [Int.natCast_mul, Int.natCast_add, Int.natCast_add, Int.add_comm 1 (i : Int)]
    rfl
  have e2 : (1 + (i : Int)) = ((i + 1 : Nat) : Int) := by omega
  rw [e1, e2, Int.fdiv_eq_ediv_of_nonneg _ (by omega), ← Int.natCast_ediv, bin_step]
def rowK (h k : Nat) : List Int := (List.range (h + 1)).map fun j => (plansN j k : Int)
theorem rowK_len (h k : Nat) : (rowK h k).length = h + 1 := by simp [rowK]
theorem rowK_at {h k j : Nat} (hj : j ≤ h) : (rowK h k)[j]? = some (plansN j k : Int) := by
  unfold rowK
  rw [List.getElem?_map, List.getElem?_range (by omega)]
  rfl
theorem rowK_zero (h : Nat) : rowK h 0 = 1 :: List.replicate h 0 := by
  unfold rowK
  rw [List.range_succ_eq_map, List.map_cons, List.map_map]
  congr 1
  apply List.ext_getElem
  · simp
  · intro n h1 h2
    simp [plansN]
theorem sum_cast (l : List Nat) : ((l.map fun x : Nat => (x : Int))).sum = ((l.sum : Nat) : Int) := by
  induction l with
  | nil => rfl
  | cons x l ih => rw [List.map_cons, List.sum_cons, List.sum_cons, ih, Int.natCast_add]
theorem rowK_sum {h k i : Nat} (hi : i ≤ h) : ((rowK h k).take (i + 1)).sum = (plansN i (k + 1) : Int) := by
  unfold rowK
  rw [← List.map_take, List.take_range, Nat.min_eq_left (by omega), plans_succ, ← range_sum_fwd, ← sum_cast, List.map_map]
  rfl
/-- what goes ahead of a plan by its first number: i lesser ones -/
def preI (l : Int) (f : Nat) : Nat → Int
  | 0 => 0
  | i + 1 => preI l f i + waysI (l - i).toNat f
def rkI : List Int → Int
  | [] => 0
  | x :: r => preI (x + r.sum) r.length x.toNat + rkI r
def PlanI (h : Int) (f : Nat) (ps : List Int) : Prop := ps.length = f ∧ ps.sum = h ∧ ∀ x ∈ ps, 0 ≤ x
theorem waysI_nn (h f : Nat) : 0 ≤ waysI h f := Int.natCast_nonneg _
theorem pre_le {l : Int} {f i : Nat} : ∀ d, preI l f i ≤ preI l f (i + d)
  | 0 => Int.le_refl _
  | d + 1 => by
    have h1 := pre_le (l := l) (f := f) (i := i) d
    have h2 := waysI_nn (l - (i + d : Nat)).toNat f
    show _ ≤ preI l f (i + d) + waysI (l - (i + d : Nat)).toNat f
    omega
theorem pre_mono {l : Int} {f i j : Nat} (h : i ≤ j) : preI l f i ≤ preI l f j := by
  have := pre_le (l := l) (f := f) (i := i) (j - i)
  rwa [Nat.add_sub_cancel' h] at this
theorem pre_nn {l : Int} {f i : Nat} : 0 ≤ preI l f i := pre_mono (i := 0) (Nat.zero_le _)
theorem pre_sum (h f : Nat) : ∀ n, n ≤ h + 1 → preI h f n = ((((List.range n).map fun x => plansN (h - x) f).sum : Nat) : Int)
  | 0, _ => rfl
  | n + 1, hn => by
    rw [List.range_succ, List.map_append, List.sum_append, Int.natCast_add, ← pre_sum h f n (by omega)]
    show preI h f n + waysI ((h : Int) - n).toNat f = _
    rw [show ((h : Int) - n).toNat = h - n by omega]
    simp [waysI]
theorem pre_full (h f : Nat) : preI h f (h + 1) = waysI h (f + 1) := pre_sum h f (h + 1) (Nat.le_refl _)
theorem plan_cons {h : Int} {f : Nat} {ps : List Int} (p : PlanI h (f + 1) ps) : ∃ (x : Nat) (r : List Int), ps = (x : Int) :: r ∧ PlanI (h - x) f r ∧ (x : Int) ≤ h := by
  obtain ⟨h1, h2, h3⟩ := p
  cases ps with
  | nil => simp at h1
  | cons x r =>
    obtain ⟨n, rfl⟩ := Int.eq_ofNat_of_zero_le (h3 x List.mem_cons_self)
    have hr : ∀ y ∈ r, 0 ≤ y := fun y hy => h3 y (List.mem_cons_of_mem _ hy)
    have hs : 0 ≤ r.sum := by
      clear h1 h2 h3
      induction r with
      | nil => simp
      | cons z r ih =>
        have h1 := hr z List.mem_cons_self
        have h2 := ih fun y hy => hr y (List.mem_cons_of_mem _ hy)
        rw [List.sum_cons]
        omega
    rw [List.sum_cons] at h2
    exact ⟨n, r, rfl, ⟨by simpa using h1, by omega, hr⟩, by omega⟩
theorem plan_nn : ∀ {f : Nat} {h : Int} {ps : List Int}, PlanI h f ps → 0 ≤ h
  | 0, h, ps, p => by
    obtain ⟨h1, h2, _⟩ := p
    have : ps = [] := by simpa using h1
    subst this
    simp at h2
    omega
  | f + 1, h, ps, p => by
    obtain ⟨x, r, rfl, q, hx⟩ := plan_cons p
    omega
theorem rk_nn : ∀ ps : List Int, 0 ≤ rkI ps
  | [] => Int.le_refl _
  | x :: r => by
    have h1 := rk_nn r
    have h2 := @pre_nn (x + r.sum) r.length x.toNat
    show 0 ≤ _ + _
    omega
theorem rk_cons {h : Int} {f x : Nat} {r : List Int} (q : PlanI (h - x) f r) : rkI ((x : Int) :: r) = preI h f x + rkI r := by
  show preI ((x : Int) + r.sum) r.length (x : Int).toNat + _ = _
  rw [q.1, q.2.1, Int.toNat_natCast, show (x : Int) + (h - x) = h by omega]
theorem rk_lt : ∀ {f h : Nat} {ps : List Int}, PlanI h f ps → rkI ps < waysI h f
  | 0, h, ps, p => by
    obtain ⟨h1, h2, _⟩ := p
    have : ps = [] := by simpa using h1
    subst this
    have : h = 0 := by simp at h2; omega
    subst this
    decide
  | f + 1, h, ps, p => by
    obtain ⟨x, r, rfl, q, hx⟩ := plan_cons p
    have hxn : x ≤ h := by omega
    have q' : PlanI ((h - x : Nat) : Int) f r := by rwa [Int.natCast_sub hxn]
    have := rk_lt q'
    rw [rk_cons q, ← pre_full]
    have h1 : preI h f (x + 1) ≤ preI h f (h + 1) := pre_mono (by omega)
    have h2 : preI (h : Int) f (x + 1) = preI h f x + waysI (h - x) f := by
      show preI h f x + waysI ((h : Int) - x).toNat f = _
      rw [show ((h : Int) - x).toNat = h - x by omega]
    omega
theorem rk_step {f h x y : Nat} {r s : List Int} (q : PlanI ((h : Int) - x) f r) (q' : PlanI ((h : Int) - y) f s) (hx : (x : Int) ≤ h) (hy : x < y) : rkI ((x : Int) :: r) < rkI ((y : Int) :: s) := by
  have hxn : x ≤ h := by omega
  have p : PlanI ((h - x : Nat) : Int) f r := by rwa [Int.natCast_sub hxn]
  have := rk_lt p
  have h3 := rk_nn s
  rw [rk_cons q, rk_cons q']
  have h1 : preI h f (x + 1) ≤ preI h f y := pre_mono (by omega)
  have h2 : preI (h : Int) f (x + 1) = preI h f x + waysI (h - x) f := by
    show preI h f x + waysI ((h : Int) - x).toNat f = _
    rw [show ((h : Int) - x).toNat = h - x by omega]
  omega
theorem rk_inj : ∀ {f h : Nat} {p q : List Int}, PlanI h f p → PlanI h f q → rkI p = rkI q → p = q
  | 0, h, p, q, hp, hq, _ => by
    have h1 : p = [] := by simpa using hp.1
    have h2 : q = [] := by simpa using hq.1
    rw [h1, h2]
  | f + 1, h, p, q, hp, hq, e => by
    obtain ⟨x, r, rfl, qx, hx⟩ := plan_cons hp
    obtain ⟨y, s, rfl, qy, hy⟩ := plan_cons hq
    rcases Nat.lt_trichotomy x y with c | c | c
    · have := rk_step qx qy hx c
      omega
    · subst c
      rw [rk_cons qx, rk_cons qy] at e
      have hxn : x ≤ h := by omega
      rw [← Int.natCast_sub hxn] at qx qy
      rw [rk_inj qx qy (by omega)]
    · have := rk_step qy qx hy c
      omega
theorem rk_app : ∀ {a r s : List Int}, r.length = s.length → r.sum = s.sum → rkI (a ++ r) - rkI r = rkI (a ++ s) - rkI s
  | [], r, s, _, _ => by simp
  | x :: a, r, s, h1, h2 => by
    have ih := rk_app (a := a) h1 h2
    show preI (x + (a ++ r).sum) (a ++ r).length x.toNat + rkI (a ++ r) - rkI r = preI (x + (a ++ s).sum) (a ++ s).length x.toNat + rkI (a ++ s) - rkI s
    rw [List.sum_append, List.sum_append, List.length_append, List.length_append, h1, h2]
    omega
theorem ways_left0 (m : Nat) : waysI 0 m = 1 := by
  cases m with
  | zero => rfl
  | succ k => exact congrArg Int.ofNat (bin_zero_left k)
theorem pre_zero {y : Nat} : ∀ i, i ≤ y → preI y 0 i = 0
  | 0, _ => rfl
  | i + 1, h => by
    show preI y 0 i + waysI ((y : Int) - i).toNat 0 = 0
    rw [pre_zero i (by omega), ways_zero, if_neg (by omega)]
    rfl
theorem sum_zeros (m : Nat) : (List.replicate m (0 : Int)).sum = 0 := by
  induction m with
  | zero => rfl
  | succ m ih => rw [List.replicate_succ, List.sum_cons, ih]; rfl
theorem rk_bot (y : Nat) : ∀ m, rkI (List.replicate m 0 ++ [(y : Int)]) = 0
  | 0 => by
    show preI ((y : Int) + 0) 0 (y : Int).toNat + 0 = 0
    rw [show (y : Int) + 0 = y from Int.add_zero _, Int.toNat_natCast, pre_zero y (Nat.le_refl _)]
    rfl
  | m + 1 => by
    have ih := rk_bot y m
    show preI _ _ 0 + rkI (List.replicate m 0 ++ [(y : Int)]) = 0
    rw [ih]
    rfl
theorem rk_zeros : ∀ m, rkI (List.replicate m 0) = 0
  | 0 => rfl
  | m + 1 => by
    show preI _ _ 0 + rkI (List.replicate m 0) = 0
    rw [rk_zeros m]
    rfl
theorem rk_top (y m : Nat) : rkI ((y : Int) :: List.replicate m 0) + 1 = waysI y (m + 1) := by
  show preI ((y : Int) + (List.replicate m (0 : Int)).sum) (List.replicate m (0 : Int)).length (y : Int).toNat + rkI (List.replicate m 0) + 1 = _
  rw [sum_zeros, rk_zeros, List.length_replicate, show (y : Int) + 0 = y from Int.add_zero _, Int.toNat_natCast, ← pre_full]
  show _ = preI y m y + waysI ((y : Int) - y).toNat m
  rw [Int.sub_self]
  show _ = _ + waysI 0 m
  rw [ways_left0]
  omega
/-- the plan behind -/
theorem rk_next (a : List Int) (x y m : Nat) : rkI (a ++ ((x : Int) + 1) :: (List.replicate m 0 ++ [(y : Int)])) = rkI (a ++ (x : Int) :: ((y : Int) + 1) :: List.replicate m 0) + 1 := by
  have e := rk_app (a := a) (r := ((x : Int) + 1) :: (List.replicate m 0 ++ [(y : Int)])) (s := (x : Int) :: ((y : Int) + 1) :: List.replicate m 0) (by simp) (by
    simp only [List.sum_cons, List.sum_append, sum_zeros, List.sum_nil]
    omega)
  have e1 : rkI (((x : Int) + 1) :: (List.replicate m 0 ++ [(y : Int)])) = preI (x + y + 1) (m + 1) (x + 1) + 0 := by
    have q : PlanI (((x : Int) + y + 1) - (x + 1 : Nat)) (m + 1) (List.replicate m 0 ++ [(y : Int)]) := by
      refine ⟨by simp, ?_, ?_⟩
      · rw [List.sum_append, sum_zeros, List.sum_cons, List.sum_nil]
        omega
      · intro z hz
        rcases List.mem_append.mp hz with h | h
        · rw [(List.mem_replicate.mp h).2]; exact Int.le_refl _
        · rw [List.mem_singleton.mp h]; omega
    rw [show ((x : Int) + 1) = ((x + 1 : Nat) : Int) by omega, rk_cons q, rk_bot]
  have e2 : rkI ((x : Int) :: ((y : Int) + 1) :: List.replicate m 0) = preI (x + y + 1) (m + 1) x + (waysI (y + 1) (m + 1) - 1) := by
    have q : PlanI (((x : Int) + y + 1) - x) (m + 1) (((y : Int) + 1) :: List.replicate m 0) := by
      refine ⟨by simp, ?_, ?_⟩
      · rw [List.sum_cons, sum_zeros]
        omega
      · intro z hz
        rcases List.mem_cons.mp hz with h | h
        · omega
        · rw [(List.mem_replicate.mp h).2]; exact Int.le_refl _
    have := rk_top (y + 1) m
    rw [rk_cons q]
    rw [show (((y + 1 : Nat)) : Int) = (y : Int) + 1 by omega] at this
    omega
  have e3 : preI ((x : Int) + y + 1) (m + 1) (x + 1) = preI (x + y + 1) (m + 1) x + waysI (y + 1) (m + 1) := by
    show preI (x + y + 1) (m + 1) x + waysI ((x : Int) + y + 1 - x).toNat (m + 1) = _
    rw [show ((x : Int) + y + 1 - x).toNat = y + 1 by omega]
  omega
theorem plans_bound : ∀ f h : Nat, plansN h f ≤ (h + 1) ^ f
  | 0, h => by
    simp only [plansN]
    split <;> simp
  | f + 1, h => by
    have e : plansN h (f + 1) = ((List.range (h + 1)).map fun x => plansN (h - x) f).sum := rfl
    rw [e, Nat.pow_succ]
    have : ∀ n, ((List.range n).map fun x => plansN (h - x) f).sum ≤ (h + 1) ^ f * n := by
      intro n
      induction n with
      | zero => simp
      | succ n ih =>
        rw [List.range_succ, List.map_append, List.sum_append, Nat.mul_succ]
        have h1 := plans_bound f (h - n)
        have h2 : (h - n + 1) ^ f ≤ (h + 1) ^ f := Nat.pow_le_pow_left (by omega) f
        simp only [List.map_cons, List.map_nil, List.sum_cons, List.sum_nil, Nat.add_zero]
        omega
    exact this (h + 1)
theorem ways_bound {x y : Int} (h : 0 ≤ x ∧ x ≤ 40 ∧ 1 ≤ y ∧ y ≤ 8) : 1 ≤ waysI x.toNat y.toNat ∧ waysI x.toNat y.toNat ≤ 2 ^ 50 := by
  constructor
  · have e : y.toNat = (y.toNat - 1) + 1 := by omega
    have : PlanI (x.toNat : Int) ((y.toNat - 1) + 1) ((x.toNat : Int) :: List.replicate (y.toNat - 1) 0) := by
      refine ⟨by simp, ?_, ?_⟩
      · rw [List.sum_cons, sum_zeros, Int.add_zero]
      · intro z hz
        rcases List.mem_cons.mp hz with h | h
        · omega
        · rw [(List.mem_replicate.mp h).2]; exact Int.le_refl _
    have h1 := rk_lt this
    have h2 := rk_nn ((x.toNat : Int) :: List.replicate (y.toNat - 1) 0)
    rw [e]
    omega
  · have h1 := plans_bound y.toNat x.toNat
    have h2 : (x.toNat + 1) ^ y.toNat ≤ 41 ^ y.toNat := Nat.pow_le_pow_left (by omega) _
    have h3 : 41 ^ y.toNat ≤ 41 ^ 8 := Nat.pow_le_pow_right (by decide) (by omega)
    have h4 : (41 : Nat) ^ 8 ≤ 2 ^ 50 := by decide
    unfold waysI
    have : (2 : Int) ^ 50 = ((2 ^ 50 : Nat) : Int) := by decide
    omega
theorem sum_nn {ps : List Int} (h : ∀ x ∈ ps, 0 ≤ x) : 0 ≤ ps.sum := by
  induction ps with
  | nil => simp
  | cons z r ih =>
    have h1 := h z List.mem_cons_self
    have h2 := ih fun y hy => h y (List.mem_cons_of_mem _ hy)
    rw [List.sum_cons]
    omega
theorem rk_at {ps : List Int} {i : Nat} {x : Int} (hn : ∀ y ∈ ps, 0 ≤ y) (h : ps[i]? = some x) :
    (ps.drop i).sum = x + (ps.drop (i + 1)).sum ∧ rkI (ps.drop i) = preI (ps.drop i).sum (ps.length - 1 - i) x.toNat + rkI (ps.drop (i + 1)) ∧ 0 ≤ x ∧ x ≤ (ps.drop i).sum ∧ (ps.drop i).sum ≤ ps.sum := by
  obtain ⟨hi, e⟩ := List.getElem?_eq_some_iff.mp h
  have ed : ps.drop i = x :: ps.drop (i + 1) := by rw [← e]; exact List.drop_eq_getElem_cons hi
  have h1 := sum_nn (ps := ps.drop (i + 1)) fun y hy => hn y (List.mem_of_mem_drop hy)
  have h2 := sum_nn (ps := ps.take i) fun y hy => hn y (List.mem_of_mem_take hy)
  have h3 : ps.sum = (ps.take i).sum + (ps.drop i).sum := by rw [← List.sum_append, List.take_append_drop]
  have hx : 0 ≤ x := hn x (e ▸ List.getElem_mem hi)
  have hs : (ps.drop i).sum = x + (ps.drop (i + 1)).sum := by rw [ed, List.sum_cons]
  refine ⟨hs, ?_, hx, by omega, by omega⟩
  rw [ed]
  show preI (x + (ps.drop (i + 1)).sum) (ps.drop (i + 1)).length x.toNat + _ = _
  rw [List.length_drop, show ps.length - (i + 1) = ps.length - 1 - i by omega, List.sum_cons]
theorem rk_one {x : Int} (h : 0 ≤ x) : rkI [x] = 0 := by
  obtain ⟨y, rfl⟩ := Int.eq_ofNat_of_zero_le h
  exact rk_bot y 0
theorem rk_end {ps : List Int} (h0 : 0 < ps.length) (hn : ∀ y ∈ ps, 0 ≤ y) : rkI (ps.drop (ps.length - 1)) = 0 := by
  have ed := List.drop_eq_getElem_cons (l := ps) (i := ps.length - 1) (by omega)
  rw [ed, show ps.length - 1 + 1 = ps.length by omega, List.drop_length]
  exact rk_one (hn _ (List.getElem_mem _))
/-- a plan's beginning, what is left and the number left -/
def PreI (h : Int) (f : Nat) (n : Int) (ps : List Int) (left num : Int) : Prop :=
  (∀ x ∈ ps, 0 ≤ x) ∧ ps.sum + left = h ∧ 0 ≤ left ∧ left ≤ h ∧ 0 ≤ num ∧ num < waysI left.toNat (f - ps.length) ∧ ∀ r, PlanI left (f - ps.length) r → rkI (ps ++ r) = n - num + rkI r
theorem pre_start {h n : Int} {f : Nat} (h0 : 0 ≤ h) (h1 : 0 ≤ n) (h2 : n < waysI h.toNat f) : PreI h f n [] h n :=
  ⟨nofun, by simp, h0, Int.le_refl _, h1, h2, fun r _ => by simp⟩
theorem pre_more {h n left num : Int} {f s : Nat} {ps : List Int} (p : PreI h f n ps left num) (hl : ps.length + 1 < f) (hs : (s : Int) ≤ left) (hw : waysI (left - s).toNat (f - 1 - ps.length) ≤ num - preI left (f - 1 - ps.length) s) : (s : Int) + 1 ≤ left := by
  obtain ⟨_, _, h0, _, _, h3, _⟩ := p
  obtain ⟨l, rfl⟩ := Int.eq_ofNat_of_zero_le h0
  rw [Int.toNat_natCast, show f - ps.length = (f - 1 - ps.length) + 1 by omega, ← pre_full] at h3
  by_cases c : (s : Int) = (l : Int)
  · have : s = l := by omega
    subst this
    have e : preI (s : Int) (f - 1 - ps.length) (s + 1) = preI s (f - 1 - ps.length) s + waysI ((s : Int) - s).toNat (f - 1 - ps.length) := rfl
    omega
  · omega
theorem pre_next {h n left num : Int} {f s : Nat} {ps : List Int} (p : PreI h f n ps left num) (hl : ps.length + 1 < f) (hs : (s : Int) ≤ left) (h1 : preI left (f - 1 - ps.length) s ≤ num) (h2 : num - preI left (f - 1 - ps.length) s < waysI (left - s).toNat (f - 1 - ps.length)) :
    PreI h f n (ps ++ [(s : Int)]) (left - s) (num - preI left (f - 1 - ps.length) s) := by
  obtain ⟨p1, p2, p3, p4, p5, p6, p7⟩ := p
  have el : f - (ps ++ [(s : Int)]).length = f - 1 - ps.length := by rw [List.length_append]; simp; omega
  refine ⟨?_, ?_, by omega, by omega, by omega, by rw [el]; exact h2, ?_⟩
  · intro x hx
    rcases List.mem_append.mp hx with h | h
    · exact p1 x h
    · rw [List.mem_singleton.mp h]; omega
  · rw [List.sum_append, List.sum_cons, List.sum_nil]
    omega
  · intro r hr
    rw [el] at hr
    have q : PlanI left (f - ps.length) ((s : Int) :: r) := by
      refine ⟨by rw [List.length_cons, hr.1]; omega, by rw [List.sum_cons, hr.2.1]; omega, ?_⟩
      intro x hx
      rcases List.mem_cons.mp hx with h | h
      · omega
      · exact hr.2.2 x h
    have e := p7 _ q
    rw [rk_cons hr] at e
    rw [List.append_assoc]
    show rkI (ps ++ (s : Int) :: r) = _
    omega
theorem pre_last {h n left num : Int} {f : Nat} {ps : List Int} (p : PreI h f n ps left num) (hl : ps.length + 1 = f) : PlanI h f (ps ++ [left]) ∧ rkI (ps ++ [left]) = n := by
  obtain ⟨p1, p2, p3, p4, p5, p6, p7⟩ := p
  have el : f - ps.length = 1 := by omega
  rw [el] at p6 p7
  have q : PlanI left 1 [left] := ⟨rfl, by simp, fun x hx => by rw [List.mem_singleton.mp hx]; exact p3⟩
  have e := p7 _ q
  rw [rk_one p3] at e
  have e1 : waysI left.toNat 1 = 1 := congrArg Int.ofNat (bin_zero_right left.toNat)
  refine ⟨⟨by rw [List.length_append]; simp; omega, by rw [List.sum_append, List.sum_cons, List.sum_nil]; omega, ?_⟩, by omega⟩
  intro x hx
  rcases List.mem_append.mp hx with h | h
  · exact p1 x h
  · rw [List.mem_singleton.mp h]; exact p3
theorem zeros_of_sum : ∀ {l : List Int}, (∀ x ∈ l, 0 ≤ x) → l.sum ≤ 0 → l = List.replicate l.length 0
  | [], _, _ => rfl
  | x :: r, h, hs => by
    have h1 := h x List.mem_cons_self
    have h2 := sum_nn fun y hy => h y (List.mem_cons_of_mem _ hy)
    rw [List.sum_cons] at hs
    have h3 : x = 0 := by omega
    rw [List.length_cons, List.replicate_succ, ← zeros_of_sum (fun y hy => h y (List.mem_cons_of_mem _ hy)) (by omega), h3]
theorem behind_none {ps : List Int} {h : Nat} (p : PlanI h ps.length ps) (h1 : 1 ≤ ps.length) (ha : ∀ j, j + 1 < ps.length → ¬ (ps.drop (j + 1)).sum > 0) : rkI ps + 1 = waysI h ps.length := by
  obtain ⟨_, hs, hn⟩ := p
  cases ps with
  | nil => simp at h1
  | cons x r =>
    have hz : r = List.replicate r.length 0 := by
      refine zeros_of_sum (fun y hy => hn y (List.mem_cons_of_mem _ hy)) ?_
      cases r with
      | nil => exact Int.le_refl _
      | cons y t => exact Int.not_lt.mp (ha 0 (by simp))
    rw [List.sum_cons] at hs
    rw [hz, sum_zeros, Int.add_zero] at hs
    rw [hz, hs, rk_top, List.length_cons, List.length_replicate]
theorem behind_next {ps : List Int} {h k : Nat} {x : Int} (p : PlanI h ps.length ps) (hk : k + 1 < ps.length) (hx : ps[k]? = some x) (hb : (ps.drop (k + 1)).sum > 0) (ha : ∀ j, k < j → j + 1 < ps.length → ¬ (ps.drop (j + 1)).sum > 0) (fs : List Int) (hf : fs = (ps.take k ++ [x + 1]) ++ List.replicate (ps.length - 1 - k) 0) (z : Int) (hz : z = ps.sum - fs.dropLast.sum) :
    PlanI h ps.length (fs.set (fs.length - 1) z) ∧ rkI (fs.set (fs.length - 1) z) = rkI ps + 1 := by
  obtain ⟨_, hs, hn⟩ := p
  obtain ⟨hi, ex⟩ := List.getElem?_eq_some_iff.mp hx
  have e1 : ps.drop k = x :: ps.drop (k + 1) := by rw [← ex]; exact List.drop_eq_getElem_cons hi
  have e2 := List.drop_eq_getElem_cons hk
  have e3 : ps.drop (k + 1 + 1) = List.replicate (ps.length - 2 - k) 0 := by
    have := zeros_of_sum (l := ps.drop (k + 1 + 1)) (fun y hy => hn y (List.mem_of_mem_drop hy)) (by
      by_cases c : k + 1 + 1 < ps.length
      · exact Int.not_lt.mp (ha (k + 1) (by omega) c)
      · rw [List.drop_eq_nil_of_le (by omega)]; exact Int.le_refl _)
    rw [this, List.length_drop]
    congr 1
    omega
  have hxn : 0 ≤ x := hn x (ex ▸ List.getElem_mem hi)
  have hyn : 0 ≤ ps[k + 1] := hn _ (List.getElem_mem hk)
  rw [e2, e3, List.sum_cons, sum_zeros] at hb
  obtain ⟨x', rfl⟩ := Int.eq_ofNat_of_zero_le hxn
  obtain ⟨y', hy⟩ := Int.eq_ofNat_of_zero_le (show 0 ≤ ps[k + 1] - 1 by omega)
  have hy' : ps[k + 1] = (y' : Int) + 1 := by omega
  have ep : ps = ps.take k ++ (x' : Int) :: ((y' : Int) + 1) :: List.replicate (ps.length - 2 - k) 0 := by
    conv => lhs; rw [← List.take_append_drop k ps, e1, e2, e3, hy']
  have er : List.replicate (ps.length - 1 - k) (0 : Int) = List.replicate (ps.length - 2 - k) 0 ++ [0] := by
    rw [show ps.length - 1 - k = ps.length - 2 - k + 1 by omega, List.replicate_succ']
  have ef : fs = (ps.take k ++ ((x' : Int) + 1) :: List.replicate (ps.length - 2 - k) 0) ++ [0] := by
    rw [hf, er]
    simp
  have ed : fs.dropLast = ps.take k ++ ((x' : Int) + 1) :: List.replicate (ps.length - 2 - k) 0 := by
    rw [ef, List.dropLast_concat]
  have es : ps.sum = (ps.take k).sum + ((x' : Int) + ((y' : Int) + 1)) := by
    conv => lhs; rw [ep, List.sum_append, List.sum_cons, List.sum_cons, sum_zeros]
    omega
  have ez : z = y' := by
    rw [hz, ed, es, List.sum_append, List.sum_cons, sum_zeros]
    omega
  have eq : fs.set (fs.length - 1) z = ps.take k ++ ((x' : Int) + 1) :: (List.replicate (ps.length - 2 - k) 0 ++ [(y' : Int)]) := by
    rw [ef, List.length_append, List.length_singleton, Nat.add_sub_cancel, List.set_append_right _ _ (Nat.le_refl _), Nat.sub_self, ez]
    simp
  rw [eq]
  have hl : (ps.take k).length = k := by rw [List.length_take]; omega
  refine ⟨⟨?_, ?_, ?_⟩, ?_⟩
  · rw [List.length_append, List.length_cons, List.length_append, List.length_replicate, List.length_singleton, hl]
    omega
  · rw [List.sum_append, List.sum_cons, List.sum_append, sum_zeros, List.sum_cons, List.sum_nil]
    omega
  · intro w hw
    rcases List.mem_append.mp hw with g | g
    · exact hn w (List.mem_of_mem_take g)
    · rcases List.mem_cons.mp g with g | g
      · omega
      · rcases List.mem_append.mp g with g | g
        · rw [(List.mem_replicate.mp g).2]; exact Int.le_refl _
        · rw [List.mem_singleton.mp g]; omega
  · rw [rk_next]
    conv => rhs; rw [ep]
theorem ways_bound' {x y : Int} (h : 0 ≤ x ∧ x ≤ 40 ∧ 1 ≤ y ∧ y ≤ 8) : 0 < waysI x.toNat y.toNat ∧ waysI x.toNat y.toNat < 2 ^ 200 := by
  have := ways_bound h
  omega
theorem first_iff {h : Nat} {f : Nat} {ps : List Int} (p : PlanI h f ps) (hf : 1 ≤ f) : rkI ps = 0 ↔ ps = List.replicate (f - 1) 0 ++ [(h : Int)] := by
  have q : PlanI h f (List.replicate (f - 1) 0 ++ [(h : Int)]) := by
    refine ⟨by rw [List.length_append, List.length_replicate, List.length_singleton]; omega, ?_, ?_⟩
    · rw [List.sum_append, sum_zeros, List.sum_cons, List.sum_nil]
      omega
    · intro w hw
      rcases List.mem_append.mp hw with g | g
      · rw [(List.mem_replicate.mp g).2]; exact Int.le_refl _
      · rw [List.mem_singleton.mp g]; omega
  constructor
  · intro e
    exact rk_inj p q (by rw [e, rk_bot])
  · intro e
    rw [e, rk_bot]
section
variable {P : Program} {w : World} {K : PySem.W.Frag} {mg : Str → Option Value} {base : Heap}
theorem pe_revLK {X : L2.Cx} (K : PySem.W.Frag) (eK : X.K = K) {e : Expr} {te : TE} {k : Nat} {p1 p2 p3 pos : Pos} (he : PE X e te) : PE X (.Subscript e (.Slice none none (some (.UnaryOp .USub (.Constant (.int 1) k p1) p2)) p3) pos) (tRevL K te) := by
  subst eK
  exact pe_revL he
theorem i_rev {K : PySem.W.Frag} {te : TE} {σ : L2.St} {H : Hp} {Q : VK} (h : te σ H fun x H1 => ∃ a xs, x = .ref a ∧ SqL K H1 a xs ∧ ∀ p, H1 p = none → Q (.ref p) (upd H1 p (.lst xs.reverse))) : tRevL K te σ H Q := h
theorem i_rev' {K : PySem.W.Frag} {ms : List Int} {p : Addr} {H : Hp} {R : Addr → List V → Prop} (h : SqL K H p (ms.map V.int)) (q : R p (ms.map V.int)) : ∃ a xs, V.ref p = .ref a ∧ SqL K H a xs ∧ R a xs := ⟨p, _, rfl, h, q⟩

def topS (i : Nat) : Stmt := PySem.Challenge.pw_hostfields_k11_plans_by_numbers.main.body.getD i (.Pass ⟨0, 0, 0, 0⟩)
abbrev s_must_be_sizes : Stmt := topS 6
abbrev s_must_be_plan : Stmt := topS 7
abbrev s_ways : Stmt := topS 8
abbrev s_plan_number : Stmt := topS 9
abbrev s_plan_of : Stmt := topS 10
abbrev s_l_purse : Stmt := topS 12
abbrev s_l_draw : Stmt := topS 13
abbrev s_l_whole : Stmt := topS 14
abbrev s_l_numbers : Stmt := topS 15
abbrev s_l_many : Stmt := topS 16
abbrev s_l_plan : Stmt := topS 17
abbrev s_l_number : Stmt := topS 18
abbrev s_law : Stmt := topS 19
theorem sc_must_be_sizes : FnScope ["hosts", "fields"] ["hosts", "fields"] (defScope s_must_be_sizes) := ⟨rfl, rfl, rfl, by decide +kernel, rfl, by decide +kernel, by decide +kernel⟩
theorem sc_must_be_plan : FnScope ["plan"] ["plan"] (defScope s_must_be_plan) := ⟨rfl, rfl, rfl, by decide +kernel, rfl, by decide +kernel, by decide +kernel⟩
theorem sc_ways : FnScope ["hosts", "fields", "found", "k"] ["hosts", "fields"] (defScope s_ways) := ⟨rfl, rfl, rfl, by decide +kernel, rfl, by decide +kernel, by decide +kernel⟩
theorem sc_plan_number : FnScope ["plan", "left", "found", "k", "less"] ["plan"] (defScope s_plan_number) := ⟨rfl, rfl, rfl, by decide +kernel, rfl, by decide +kernel, by decide +kernel⟩
theorem sc_plan_of : FnScope ["hosts", "fields", "number", "plan", "left", "k", "sent"] ["hosts", "fields", "number"] (defScope s_plan_of) := ⟨rfl, rfl, rfl, by decide +kernel, rfl, by decide +kernel, by decide +kernel⟩
theorem sc_l_purse : FnScope ["_law_script", "_law_cells"] ["_law_script"] (defScope s_l_purse) := ⟨rfl, rfl, rfl, by decide +kernel, rfl, by decide +kernel, by decide +kernel⟩
theorem sc_l_draw : FnScope ["_law_purse_here", "_law_out_of", "_law_cells", "_law_turn", "_law_at", "_law_cell", "_law_number_here"] ["_law_purse_here", "_law_out_of"] (defScope s_l_draw) := ⟨rfl, rfl, rfl, by decide +kernel, rfl, by decide +kernel, by decide +kernel⟩
theorem sc_l_whole : FnScope ["_law_found"] ["_law_found"] (defScope s_l_whole) := ⟨rfl, rfl, rfl, by decide +kernel, rfl, by decide +kernel, by decide +kernel⟩
theorem sc_l_numbers : FnScope ["_law_found", "_law_due", "_law_number_here"] ["_law_found", "_law_due"] (defScope s_l_numbers) := ⟨rfl, rfl, rfl, by decide +kernel, rfl, by decide +kernel, by decide +kernel⟩
theorem sc_l_many : FnScope ["_law_hosts", "_law_fields", "_law_row", "_law_field", "_law_left"] ["_law_hosts", "_law_fields"] (defScope s_l_many) := ⟨rfl, rfl, rfl, by decide +kernel, rfl, by decide +kernel, by decide +kernel⟩
theorem sc_l_plan : FnScope ["_law_purse_here", "_law_hosts", "_law_fields", "_law_found", "_law_left", "_law_field", "_law_sent"] ["_law_purse_here", "_law_hosts", "_law_fields"] (defScope s_l_plan) := ⟨rfl, rfl, rfl, by decide +kernel, rfl, by decide +kernel, by decide +kernel⟩
theorem sc_l_number : FnScope ["_law_plan_here", "_law_found", "_law_left", "_law_field", "_law_sent"] ["_law_plan_here"] (defScope s_l_number) := ⟨rfl, rfl, rfl, by decide +kernel, rfl, by decide +kernel, by decide +kernel⟩
theorem sc_law : FnScope ["_law_script", "_law_purse_here", "_law_held", "_law_turn", "_law_hosts", "_law_plan_here", "_law_due", "_law_handed", "_law_found", "_law_again", "_law_told", "_law_one", "_law_kept"] ["_law_script"] (defScope s_law) := ⟨rfl, rfl, rfl, by decide +kernel, rfl, by decide +kernel, by decide +kernel⟩
structure Txt (K : PySem.W.Frag) (mg : Str → Option Value) where
  a_must_be_sizes : Addr
  d_must_be_sizes : FuncData
  F_must_be_sizes : Fun K "must_be_sizes" "must_be_sizes" s_must_be_sizes a_must_be_sizes d_must_be_sizes
  g_must_be_sizes : mg "must_be_sizes" = some (.ref a_must_be_sizes)
  b_must_be_sizes : Binds K d_must_be_sizes ["hosts", "fields"] []
  a_must_be_plan : Addr
  d_must_be_plan : FuncData
  F_must_be_plan : Fun K "must_be_plan" "must_be_plan" s_must_be_plan a_must_be_plan d_must_be_plan
  g_must_be_plan : mg "must_be_plan" = some (.ref a_must_be_plan)
  b_must_be_plan : Binds K d_must_be_plan ["plan"] []
  a_ways : Addr
  d_ways : FuncData
  F_ways : Fun K "ways" "ways" s_ways a_ways d_ways
  g_ways : mg "ways" = some (.ref a_ways)
  b_ways : Binds K d_ways ["hosts", "fields"] []
  a_plan_number : Addr
  d_plan_number : FuncData
  F_plan_number : Fun K "plan_number" "plan_number" s_plan_number a_plan_number d_plan_number
  g_plan_number : mg "plan_number" = some (.ref a_plan_number)
  b_plan_number : Binds K d_plan_number ["plan"] []
  a_plan_of : Addr
  d_plan_of : FuncData
  F_plan_of : Fun K "plan_of" "plan_of" s_plan_of a_plan_of d_plan_of
  g_plan_of : mg "plan_of" = some (.ref a_plan_of)
  b_plan_of : Binds K d_plan_of ["hosts", "fields", "number"] []
  a_l_purse : Addr
  d_l_purse : FuncData
  F_l_purse : Fun K "_law_purse" "_law_purse" s_l_purse a_l_purse d_l_purse
  g_l_purse : mg "_law_purse" = some (.ref a_l_purse)
  b_l_purse : Binds K d_l_purse ["_law_script"] []
  a_l_draw : Addr
  d_l_draw : FuncData
  F_l_draw : Fun K "_law_draw" "_law_draw" s_l_draw a_l_draw d_l_draw
  g_l_draw : mg "_law_draw" = some (.ref a_l_draw)
  b_l_draw : Binds K d_l_draw ["_law_purse_here", "_law_out_of"] []
  a_l_whole : Addr
  d_l_whole : FuncData
  F_l_whole : Fun K "_law_whole" "_law_whole" s_l_whole a_l_whole d_l_whole
  g_l_whole : mg "_law_whole" = some (.ref a_l_whole)
  b_l_whole : Binds K d_l_whole ["_law_found"] []
  a_l_numbers : Addr
  d_l_numbers : FuncData
  F_l_numbers : Fun K "_law_numbers" "_law_numbers" s_l_numbers a_l_numbers d_l_numbers
  g_l_numbers : mg "_law_numbers" = some (.ref a_l_numbers)
  b_l_numbers : Binds K d_l_numbers ["_law_found", "_law_due"] []
  a_l_many : Addr
  d_l_many : FuncData
  F_l_many : Fun K "_law_many" "_law_many" s_l_many a_l_many d_l_many
  g_l_many : mg "_law_many" = some (.ref a_l_many)
  b_l_many : Binds K d_l_many ["_law_hosts", "_law_fields"] []
  a_l_plan : Addr
  d_l_plan : FuncData
  F_l_plan : Fun K "_law_plan" "_law_plan" s_l_plan a_l_plan d_l_plan
  g_l_plan : mg "_law_plan" = some (.ref a_l_plan)
  b_l_plan : Binds K d_l_plan ["_law_purse_here", "_law_hosts", "_law_fields"] []
  a_l_number : Addr
  d_l_number : FuncData
  F_l_number : Fun K "_law_number" "_law_number" s_l_number a_l_number d_l_number
  g_l_number : mg "_law_number" = some (.ref a_l_number)
  b_l_number : Binds K d_l_number ["_law_plan_here"] []
  a_law : Addr
  d_law : FuncData
  F_law : Fun K "law" "law" s_law a_law d_law
  g_law : mg "law" = some (.ref a_law)
  b_law : Binds K d_law ["_law_script"] []
  z_bool : mg "bool" = none
  z_int : mg "int" = none
  z_isinstance : mg "isinstance" = none
  z_len : mg "len" = none
  z_list : mg "list" = none
  z_min : mg "min" = none
  z_range : mg "range" = none
  z_sum : mg "sum" = none
  t_MOST_HOSTS : Tok
  c_MOST_HOSTS : mg "MOST_HOSTS" = some (.int 40 t_MOST_HOSTS)
  t_MOST_FIELDS : Tok
  c_MOST_FIELDS : mg "MOST_FIELDS" = some (.int 8 t_MOST_FIELDS)
def Purse (H : Hp) (p c : Addr) (ms : List Int) (t : Int) : Prop := H p = some (.lst [.ref c, .int t]) ∧ H c = some (.lst (ms.map V.int))
def sp_l_purse (K : PySem.W.Frag) : Sp := fun vs H Q E => ∃ (a : Addr) (ns : List Int), vs = [.ref a] ∧ (SqL K H a (ns.map V.int)) ∧ ∀ (p c : Addr) (ms : List Int) (H' : Hp), (H' p = some (.lst [.ref c, .int 0])) → (H' c = some (.lst (ms.map V.int))) → (Same H H') → (H p = none) → (H c = none) → (1 ≤ ms.length ∧ ms.length ≤ 63) → (p ≠ c) → Q (.ref p) H'
theorem use_l_purse {K : PySem.W.Frag} {H : Hp} {Q : VK} {E : XK} {a : Addr} {ns : List Int} (p0 : SqL K H a (ns.map V.int)) (k : ∀ (p c : Addr) (ms : List Int) (H' : Hp), (H' p = some (.lst [.ref c, .int 0])) → (H' c = some (.lst (ms.map V.int))) → (Same H H') → (H p = none) → (H c = none) → (1 ≤ ms.length ∧ ms.length ≤ 63) → (p ≠ c) → Q (.ref p) H') : sp_l_purse K [.ref a] H Q E := ⟨a, ns, rfl, p0, k⟩
theorem len_l_purse {K : PySem.W.Frag} (vs : List V) (H : Hp) (Q : VK) (E : XK) (h : sp_l_purse K vs H Q E) : vs.length = ["_law_script"].length := by
  obtain ⟨_, _, rfl, _⟩ := h
  rfl
local macro_rules | `(tactic| walk_at "g_call") => `(tactic| ((with_reducible refine' use_l_purse ?c0 ?_); (case c0 => walk_at "g_pre"); intros))
theorem ok_l_purse (T : Txt K mg) : FnOk P w K mg base CX0 1 T.a_l_purse T.d_l_purse ["_law_script"] (sp_l_purse K) := by
  refine T.F_l_purse.ok sc_l_purse len_l_purse (fun cdv A outer s H vs Q E hr h => ?_)
  refine ⟨_, (pss_cons (ps_set (i := 1) sc_l_purse.nd rfl (Or.inl rfl) (pe_slice (sl_listK K rfl) (pv 0) po_none (po_some pe_int)))
      (pss_cons (ps_if (pt_cmpR (op_eqDK K rfl hr.units) (pv 1) (pe_lst pa_nil) (nomark _)) (pss_one (ps_set (i := 1) sc_l_purse.nd rfl (Or.inl rfl) (pe_lst (pa_cons pe_int pa_nil)))) pss_nil)
      (pss_one (ps_ret (pe_lst (pa_cons (pv 1) (pa_cons pe_int pa_nil))))))), ?_⟩
  try dsimp only [L2.cxOf, L2.Cx.nox, L2.Cx.wish, List.map_cons, List.map_nil]
  obtain ⟨a, ns, rfl, p0, k⟩ := h
  refine start_to (σ := [some _, none]) rfl ?_
  walk_at "goI"
  rename_i c nc
  refine if_join (fun σ' H' => ∃ (c' : Addr) (ms : List Int), σ' = [some (.ref a), some (.ref c')] ∧ H' c' = some (.lst (ms.map V.int)) ∧ Same H H' ∧ H c' = none ∧ 1 ≤ ms.length ∧ ms.length ≤ 63) (fun nx' hn => ?_) ?_
  · walk_at "go"
    rename_i q nq
    have hq : H q = none := by walk_at "g_free"
    refine ite_d (fun c1 => ?_) (fun c1 => ?_)
    · walk_at "go"
      rename_i r nr
      refine hn _ _ ⟨_, [0], rfl, upd_same, by walk_at "g_same", by walk_at "g_free", by decide, by decide⟩
    · walk_at "go"
      refine hn _ _ ⟨_, _, rfl, by walk_at "g_lk", by walk_at "g_same", nc, ?_, ?_⟩
      · cases h : ns.take (Int.toNat 63) with
        | nil => exact absurd h c1
        | cons x r => simp
      · simp
        omega
  · rintro σ' H' ⟨c', ms, rfl, h1, h2, h3, h4, h5⟩
    walk_at "go"
    rename_i p np
    exact k _ _ _ _ upd_same (by walk_at "g_lk") (by walk_at "g_same") (by walk_at "g_free") h3 ⟨h4, h5⟩ (by walk_at "g_ne")

def sp_l_draw (K : PySem.W.Frag) : Sp := fun vs H Q E => ∃ (p c : Addr) (ms : List Int) (t b : Int), vs = [.ref p, .int b] ∧ (H p = some (.lst [.ref c, .int t])) ∧ (H c = some (.lst (ms.map V.int))) ∧ (p ≠ c) ∧ (1 ≤ ms.length ∧ ms.length ≤ 63) ∧ (0 ≤ t ∧ t ≤ 1000000) ∧ (0 < b ∧ b < 2 ^ 200) ∧ ∀ (d : Int) (ms' : List Int) (H' : Hp), (H' p = some (.lst [.ref c, .int (t + 1)])) → (H' c = some (.lst (ms'.map V.int))) → (0 ≤ d ∧ d < b) → (1 ≤ ms'.length ∧ ms'.length ≤ 63) → (But2 p c H H') → Q (.int d) H'
theorem use_l_draw {K : PySem.W.Frag} {H : Hp} {Q : VK} {E : XK} {p c : Addr} {ms : List Int} {t b : Int} (p0 : H p = some (.lst [.ref c, .int t])) (p1 : H c = some (.lst (ms.map V.int))) (p2 : p ≠ c) (p3 : 1 ≤ ms.length ∧ ms.length ≤ 63) (p4 : 0 ≤ t ∧ t ≤ 1000000) (p5 : 0 < b ∧ b < 2 ^ 200) (k : ∀ (d : Int) (ms' : List Int) (H' : Hp), (H' p = some (.lst [.ref c, .int (t + 1)])) → (H' c = some (.lst (ms'.map V.int))) → (0 ≤ d ∧ d < b) → (1 ≤ ms'.length ∧ ms'.length ≤ 63) → (But2 p c H H') → Q (.int d) H') : sp_l_draw K [.ref p, .int b] H Q E := ⟨p, c, ms, t, b, rfl, p0, p1, p2, p3, p4, p5, k⟩
theorem len_l_draw {K : PySem.W.Frag} (vs : List V) (H : Hp) (Q : VK) (E : XK) (h : sp_l_draw K vs H Q E) : vs.length = ["_law_purse_here", "_law_out_of"].length := by
  obtain ⟨_, _, _, _, _, rfl, _⟩ := h
  rfl
local macro_rules | `(tactic| walk_at "g_call") => `(tactic| ((with_reducible refine' use_l_draw ?c0 ?c1 ?c2 ?c3 ?c4 ?c5 ?_); (case c0 => walk_at "g_pre"); (case c1 => walk_at "g_pre"); (case c2 => walk_at "g_pre"); (case c3 => walk_at "g_pre"); (case c4 => walk_at "g_pre"); (case c5 => walk_at "g_pre"); intros))
theorem ok_l_draw (T : Txt K mg) : FnOk P w K mg base CX0 1 T.a_l_draw T.d_l_draw ["_law_purse_here", "_law_out_of"] (sp_l_draw K) := by
  refine T.F_l_draw.ok sc_l_draw len_l_draw (fun cdv A outer s H vs Q E hr h => ?_)
  refine ⟨_, (pss_cons (ps_asg (pv 0) (pg_lstK K rfl 2 rfl (pgs_cons (pg_name (i := 2) sc_l_draw.nd rfl (Or.inl rfl)) (pgs_cons (pg_name (i := 3) sc_l_draw.nd rfl (Or.inl rfl)) pgs_nil))))
      (pss_cons (ps_set (i := 4) sc_l_draw.nd rfl (Or.inl rfl) (pe_op op_mod (pv 3) (pe_callB (call_lenK K rfl) (by rfl) T.z_len (by decide +kernel) (pa_cons (pv 2) pa_nil))))
      (pss_cons (ps_set (i := 5) sc_l_draw.nd rfl (Or.inl rfl) (pe_ix (ix_listK K rfl) (pv 2) (pv 4) (fun _ _ => rfl)))
      (pss_cons (ps_asg (pe_op op_add (pv 3) pe_int) (pg_sub (pv 0) pe_int set_list))
      (pss_cons (ps_if (pt_cmpR op_ge (pv 5) (pe_op op_pow pe_int pe_int) (nomark _)) (pss_cons (ps_asg (pe_op op_fdivA (pv 5) (pv 1)) (pg_sub (pv 2) (pv 4) set_list))
      (pss_one (ps_ret (pe_op op_mod (pv 5) (pv 1))))) pss_nil)
      (pss_cons (ps_set (i := 6) sc_l_draw.nd rfl (Or.inl rfl) (pe_op op_mod (pe_op op_add (pe_op op_add (pe_op op_mulA (pe_op op_mod (pv 5) pe_int) pe_int) (pe_op op_mulA (pe_op op_mulA (pv 3) (pv 3)) pe_int)) pe_int) pe_int))
      (pss_cons (ps_set (i := 6) sc_l_draw.nd rfl (Or.inl rfl) (pe_op op_mod (pe_op op_mulA (pv 6) (pv 6)) pe_int))
      (pss_one (ps_ret (pe_op op_mod (pe_op op_mod (pe_op op_mulA (pv 6) (pv 6)) pe_int) (pv 1))))))))))), ?_⟩
  try dsimp only [L2.cxOf, L2.Cx.nox, L2.Cx.wish, List.map_cons, List.map_nil]
  obtain ⟨p, c, ms, t, b, rfl, p0, p1, p2, p3, p4, p5, k⟩ := h
  refine start_to (σ := [some _, some _, none, none, none, none, none]) rfl ?_
  have hl : 0 < (ms.length : Int) := by omega
  have hm0 := Int.emod_nonneg t (show (ms.length : Int) ≠ 0 by omega)
  have hm1 := Int.emod_lt_of_pos t hl
  walk_at "go"
  refine ite_d (fun c1 => ?_) (fun c1 => ?_)
  · walk_at "go"
    exact k _ (_) _ (by walk_at "g_lk") upd_same ⟨Int.emod_nonneg _ (by omega), Int.emod_lt_of_pos _ (by omega)⟩ (by rw [List.length_set]; exact p3) (by walk_at "g_but2")
  · walk_at "go"
    exact k _ ms _ upd_same (by walk_at "g_lk") ⟨Int.emod_nonneg _ (by omega), Int.emod_lt_of_pos _ (by omega)⟩ p3 (by walk_at "g_but2")

def sp_l_whole (K : PySem.W.Frag) : Sp := fun vs H Q E => ∃ (x : Int), vs = [.int x] ∧ Q (.bl true) H
theorem use_l_whole {K : PySem.W.Frag} {H : Hp} {Q : VK} {E : XK} {x : Int}  (k : Q (.bl true) H) : sp_l_whole K [.int x] H Q E := ⟨x, rfl, k⟩
theorem len_l_whole {K : PySem.W.Frag} (vs : List V) (H : Hp) (Q : VK) (E : XK) (h : sp_l_whole K vs H Q E) : vs.length = ["_law_found"].length := by
  obtain ⟨_, rfl, _⟩ := h
  rfl
local macro_rules | `(tactic| walk_at "g_call") => `(tactic| ((with_reducible refine' use_l_whole ?_); intros))
theorem ok_l_whole (T : Txt K mg) : FnOk P w K mg base CX0 1 T.a_l_whole T.d_l_whole ["_law_found"] (sp_l_whole K) := by
  refine T.F_l_whole.ok sc_l_whole len_l_whole (fun cdv A outer s H vs Q E hr h => ?_)
  refine ⟨_, (pss_one (ps_ret (pe_and (pe_callB (call_isiK' K rfl) (by rfl) T.z_isinstance (by decide +kernel) (pa_cons (pv 0) (pa_cons (pe_bltn (v := .ty "int") rfl T.z_int (by decide +kernel) rfl) pa_nil))) (pe_one (pe_not (pe_callB (call_isiK' K rfl) (by rfl) T.z_isinstance (by decide +kernel) (pa_cons (pv 0) (pa_cons (pe_bltn (v := .ty "bool") rfl T.z_bool (by decide +kernel) rfl) pa_nil)))))))), ?_⟩
  try dsimp only [L2.cxOf, L2.Cx.nox, L2.Cx.wish, List.map_cons, List.map_nil]
  obtain ⟨x, rfl, k⟩ := h
  refine start_to (σ := [some _]) rfl ?_
  walk_at "go"
  exact k

def sp_must_be_sizes (K : PySem.W.Frag) : Sp := fun vs H Q E => ∃ (x y : Int), vs = [.int x, .int y] ∧ (0 ≤ x ∧ x ≤ 40 ∧ 1 ≤ y ∧ y ≤ 8) ∧ Q (.non) H
theorem use_must_be_sizes {K : PySem.W.Frag} {H : Hp} {Q : VK} {E : XK} {x y : Int} (p0 : 0 ≤ x ∧ x ≤ 40 ∧ 1 ≤ y ∧ y ≤ 8) (k : Q (.non) H) : sp_must_be_sizes K [.int x, .int y] H Q E := ⟨x, y, rfl, p0, k⟩
theorem len_must_be_sizes {K : PySem.W.Frag} (vs : List V) (H : Hp) (Q : VK) (E : XK) (h : sp_must_be_sizes K vs H Q E) : vs.length = ["hosts", "fields"].length := by
  obtain ⟨_, _, rfl, _⟩ := h
  rfl
local macro_rules | `(tactic| walk_at "g_call") => `(tactic| ((with_reducible refine' use_must_be_sizes ?c0 ?_); (case c0 => walk_at "g_pre"); intros))
theorem ok_must_be_sizes (T : Txt K mg) : FnOk P w K mg base CX0 1 T.a_must_be_sizes T.d_must_be_sizes ["hosts", "fields"] (sp_must_be_sizes K) := by
  refine T.F_must_be_sizes.ok sc_must_be_sizes len_must_be_sizes (fun cdv A outer s H vs Q E hr h => ?_)
  refine ⟨_, (pss_one (ps_if (PW.pt (pw_or (pt_cmpR op_lt (pv 0) pe_int (nomark _)) (pw_or (pt_cmpR op_gt (pv 0) (pe_glob (v := .int 40) rfl T.c_MOST_HOSTS ⟨_, rfl⟩) (nomark _)) (pw_or (pt_cmpR op_lt (pv 1) pe_int (nomark _)) (pw_or1 (pt_cmpR op_gt (pv 1) (pe_glob (v := .int 8) rfl T.c_MOST_FIELDS ⟨_, rfl⟩) (nomark _))))))) (pss_one ps_never) pss_nil)), ?_⟩
  try dsimp only [L2.cxOf, L2.Cx.nox, L2.Cx.wish, List.map_cons, List.map_nil]
  obtain ⟨x, y, rfl, p0, k⟩ := h
  refine start_to (σ := [some _, some _]) rfl ?_
  walk_at "go"
  refine ite_d (fun c1 => absurd c1 (by omega)) (fun c1 => ?_)
  walk_at "go"
  refine ite_d (fun c1 => absurd c1 (by omega)) (fun c1 => ?_)
  walk_at "go"
  refine ite_d (fun c1 => absurd c1 (by omega)) (fun c1 => ?_)
  walk_at "go"
  refine ite_d (fun c1 => absurd c1 (by omega)) (fun c1 => ?_)
  walk_at "go"
  exact k

def sp_ways (K : PySem.W.Frag) : Sp := fun vs H Q E => ∃ (x y : Int), vs = [.int x, .int y] ∧ (0 ≤ x ∧ x ≤ 40 ∧ 0 ≤ y ∧ y ≤ 8) ∧ Q (.int (waysI x.toNat y.toNat)) H
theorem use_ways {K : PySem.W.Frag} {H : Hp} {Q : VK} {E : XK} {x y : Int} (p0 : 0 ≤ x ∧ x ≤ 40 ∧ 0 ≤ y ∧ y ≤ 8) (k : Q (.int (waysI x.toNat y.toNat)) H) : sp_ways K [.int x, .int y] H Q E := ⟨x, y, rfl, p0, k⟩
theorem len_ways {K : PySem.W.Frag} (vs : List V) (H : Hp) (Q : VK) (E : XK) (h : sp_ways K vs H Q E) : vs.length = ["hosts", "fields"].length := by
  obtain ⟨_, _, rfl, _⟩ := h
  rfl
local macro_rules | `(tactic| walk_at "g_call") => `(tactic| ((with_reducible refine' use_ways ?c0 ?_); (case c0 => walk_at "g_pre"); intros))
theorem ok_ways (T : Txt K mg) : FnOk P w K mg base CX0 1 T.a_ways T.d_ways ["hosts", "fields"] (sp_ways K) := by
  refine T.F_ways.ok sc_ways len_ways (fun cdv A outer s H vs Q E hr h => ?_)
  refine ⟨_, (pss_cons (ps_if (pt_cmpR op_eq (pv 1) pe_int (nomark _)) (pss_one (ps_ret (pe_callTy call_int1 (by rfl) T.z_int (by decide +kernel) (pa_cons (pe_cmpR op_eq (pv 0) pe_int (nomark _)) pa_nil)))) pss_nil)
      (pss_cons (ps_set (i := 2) sc_ways.nd rfl (Or.inl rfl) pe_int)
      (pss_cons (ps_for PassesOwn.never rfl (pi_range2 (by rfl) T.z_range (pa_cons pe_int (pa_cons (pv 1) pa_nil))) (pg_name (i := 3) sc_ways.nd rfl (Or.inl rfl)) (pss_one (ps_set (i := 2) sc_ways.nd rfl (Or.inl rfl) (pe_op op_fdivA (pe_op op_mulA (pv 2) (pe_op op_add (pv 0) (pv 3))) (pv 3)))))
      (pss_one (ps_ret (pv 2)))))), ?_⟩
  try dsimp only [L2.cxOf, L2.Cx.nox, L2.Cx.wish, List.map_cons, List.map_nil]
  obtain ⟨x, y, rfl, p0, k⟩ := h
  refine start_to (σ := [some _, some _, none, none]) rfl ?_
  walk_at "go"
  obtain ⟨h, rfl⟩ := Int.eq_ofNat_of_zero_le p0.1
  refine ite_d (fun c1 => ?_) (fun c1 => ?_)
  · walk_at "go"
    have e : (if decide ((h : Int) = 0) = true then (1 : Int) else 0) = waysI (h : Int).toNat y.toNat := by
      subst c1
      rw [Int.toNat_natCast]
      show _ = waysI h 0
      rw [ways_zero]
      by_cases c : h = 0
      · subst c
        rfl
      · rw [if_neg c, if_neg (by simp; omega)]
    rw [e]
    exact k
  · walk_at "go"
    refine forR (fun i σ H1 => ∃ y1 : Option V, σ = [some (.int (h : Int)), some (.int y), some (.int (binN h i : Int)), y1] ∧ H1 = H) ⟨_, by rw [bin_zero_right]; rfl, rfl⟩ ?_ ?_
    · rintro σ1 H1 ⟨y1, rfl, rfl⟩
      walk_at "go"
      have e : (binN h (y - 1).toNat : Int) = waysI (h : Int).toNat y.toNat := by
        rw [Int.toNat_natCast]
        unfold waysI binN
        congr 2
        omega
      rw [e]
      exact k
    · rintro i σ1 H1 hi ⟨y1, rfl, rfl⟩
      walk_at "go"
      exact ⟨_, by rw [step_int], rfl⟩

def sp_must_be_plan (K : PySem.W.Frag) : Sp := fun vs H Q E => ∃ (a : Addr) (ps : List Int), vs = [.ref a] ∧ (SqL K H a (ps.map V.int)) ∧ (1 ≤ ps.length ∧ ps.length ≤ 8) ∧ (∀ x ∈ ps, 0 ≤ x) ∧ (ps.sum ≤ 40) ∧ Q (.non) H
theorem use_must_be_plan {K : PySem.W.Frag} {H : Hp} {Q : VK} {E : XK} {a : Addr} {ps : List Int} (p0 : SqL K H a (ps.map V.int)) (p1 : 1 ≤ ps.length ∧ ps.length ≤ 8) (p2 : ∀ x ∈ ps, 0 ≤ x) (p3 : ps.sum ≤ 40) (k : Q (.non) H) : sp_must_be_plan K [.ref a] H Q E := ⟨a, ps, rfl, p0, p1, p2, p3, k⟩
theorem len_must_be_plan {K : PySem.W.Frag} (vs : List V) (H : Hp) (Q : VK) (E : XK) (h : sp_must_be_plan K vs H Q E) : vs.length = ["plan"].length := by
  obtain ⟨_, _, rfl, _⟩ := h
  rfl
local macro_rules | `(tactic| walk_at "g_call") => `(tactic| ((with_reducible refine' use_must_be_plan ?c0 ?c1 ?c2 ?c3 ?_); (case c0 => walk_at "g_pre"); (case c1 => walk_at "g_pre"); (case c2 => walk_at "g_pre"); (case c3 => walk_at "g_pre"); intros))
theorem ok_must_be_plan (T : Txt K mg) : FnOk P w K mg base CX0 1 T.a_must_be_plan T.d_must_be_plan ["plan"] (sp_must_be_plan K) := by
  refine T.F_must_be_plan.ok sc_must_be_plan len_must_be_plan (fun cdv A outer s H vs Q E hr h => ?_)
  refine ⟨_, (pss_one (ps_if (PW.pt (pw_or (pt_cmpR op_lt (pe_callB (call_lenK K rfl) (by rfl) T.z_len (by decide +kernel) (pa_cons (pv 0) pa_nil)) pe_int (nomark _)) (pw_or (pt_cmpR op_gt (pe_callB (call_lenK K rfl) (by rfl) T.z_len (by decide +kernel) (pa_cons (pv 0) pa_nil)) (pe_glob (v := .int 8) rfl T.c_MOST_FIELDS ⟨_, rfl⟩) (nomark _)) (pw_or (pt_cmpR op_lt (pe_callB (cr_minK K rfl rfl) (by rfl) T.z_min (by decide +kernel) (pa_cons (pv 0) pa_nil)) pe_int (nomark _)) (pw_or1 (pt_cmpR op_gt (pe_callB (cr_sumK K rfl rfl) (by rfl) T.z_sum (by decide +kernel) (pa_cons (pv 0) pa_nil)) (pe_glob (v := .int 40) rfl T.c_MOST_HOSTS ⟨_, rfl⟩) (nomark _))))))) (pss_one ps_never) pss_nil)), ?_⟩
  try dsimp only [L2.cxOf, L2.Cx.nox, L2.Cx.wish, List.map_cons, List.map_nil]
  obtain ⟨a, ps, rfl, p0, p1, p2, p3, k⟩ := h
  refine start_to (σ := [some _]) rfl ?_
  walk_at "go"
  refine ite_d (fun c1 => absurd c1 (by omega)) (fun c1 => ?_)
  walk_at "go"
  refine ite_d (fun c1 => absurd c1 (by omega)) (fun c1 => ?_)
  walk_at "go"
  rename_i m hm hm2
  have := p2 m hm
  refine ite_d (fun c1 => absurd c1 (by omega)) (fun c1 => ?_)
  walk_at "go"
  refine ite_d (fun c1 => absurd c1 (by omega)) (fun c1 => ?_)
  walk_at "go"
  exact k
def sp_plan_number (K : PySem.W.Frag) : Sp := fun vs H Q E => ∃ (a : Addr) (ps : List Int), vs = [.ref a] ∧ (SqL K H a (ps.map V.int)) ∧ (1 ≤ ps.length ∧ ps.length ≤ 8) ∧ (∀ x ∈ ps, 0 ≤ x) ∧ (ps.sum ≤ 40) ∧ Q (.int (rkI ps)) H
theorem use_plan_number {K : PySem.W.Frag} {H : Hp} {Q : VK} {E : XK} {a : Addr} {ps : List Int} (p0 : SqL K H a (ps.map V.int)) (p1 : 1 ≤ ps.length ∧ ps.length ≤ 8) (p2 : ∀ x ∈ ps, 0 ≤ x) (p3 : ps.sum ≤ 40) (k : Q (.int (rkI ps)) H) : sp_plan_number K [.ref a] H Q E := ⟨a, ps, rfl, p0, p1, p2, p3, k⟩
theorem len_plan_number {K : PySem.W.Frag} (vs : List V) (H : Hp) (Q : VK) (E : XK) (h : sp_plan_number K vs H Q E) : vs.length = ["plan"].length := by
  obtain ⟨_, _, rfl, _⟩ := h
  rfl
local macro_rules | `(tactic| walk_at "g_call") => `(tactic| ((with_reducible refine' use_plan_number ?c0 ?c1 ?c2 ?c3 ?_); (case c0 => walk_at "g_pre"); (case c1 => walk_at "g_pre"); (case c2 => walk_at "g_pre"); (case c3 => walk_at "g_pre"); intros))
theorem ok_plan_number (T : Txt K mg) : FnOk P w K mg base CX0 2 T.a_plan_number T.d_plan_number ["plan"] (sp_plan_number K) := by
  have G_must_be_plan := ok_must_be_plan (P := P) (w := w) (base := base) T
  have G_ways := ok_ways (P := P) (w := w) (base := base) T
  refine T.F_plan_number.ok sc_plan_number len_plan_number (fun cdv A outer s H vs Q E hr h => ?_)
  refine ⟨_, (pss_cons (ps_expr (pe_call G_must_be_plan (hr.mono (by decide)) (by rfl) T.g_must_be_plan T.F_must_be_plan.kp T.b_must_be_plan .nil pass0 (pa_cons (pv 0) pa_nil)))
      (pss_cons (ps_set (i := 1) sc_plan_number.nd rfl (Or.inl rfl) (pe_callB (cr_sumK K rfl rfl) (by rfl) T.z_sum (by decide +kernel) (pa_cons (pv 0) pa_nil)))
      (pss_cons (ps_set (i := 2) sc_plan_number.nd rfl (Or.inl rfl) pe_int)
      (pss_cons (ps_for PassesOwn.never rfl (pi_range1 rfl T.z_range (pa_cons (pe_op op_sub (pe_callB (call_lenK K rfl) (by rfl) T.z_len (by decide +kernel) (pa_cons (pv 0) pa_nil)) pe_int) pa_nil)) (pg_name (i := 3) sc_plan_number.nd rfl (Or.inl rfl)) (pss_cons (ps_for PassesOwn.never rfl (pi_range1 rfl T.z_range (pa_cons (pe_ix (ix_listK K rfl) (pv 0) (pv 3) (fun _ _ => rfl)) pa_nil)) (pg_name (i := 4) sc_plan_number.nd rfl (Or.inl rfl)) (pss_one (ps_aug (i := 2) sc_plan_number.nd rfl (Or.inl rfl) (pe_call G_ways (hr.mono (by decide)) (by rfl) T.g_ways T.F_ways.kp T.b_ways .nil pass0 (pa_cons (pe_op op_sub (pv 1) (pv 4)) (pa_cons (pe_op op_sub (pe_op op_sub (pe_callB (call_lenK K rfl) (by rfl) T.z_len (by decide +kernel) (pa_cons (pv 0) pa_nil)) pe_int) (pv 3)) pa_nil))) ip_add)))
      (pss_one (ps_aug (i := 1) sc_plan_number.nd rfl (Or.inl rfl) (pe_ix (ix_listK K rfl) (pv 0) (pv 3) (fun _ _ => rfl)) ip_sub))))
      (pss_one (ps_ret (pv 2))))))), ?_⟩
  try dsimp only [L2.cxOf, L2.Cx.nox, L2.Cx.wish, List.map_cons, List.map_nil]
  obtain ⟨a, ps, rfl, p0, p1, p2, p3, k⟩ := h
  refine start_to (σ := [some _, none, none, none, none]) rfl ?_
  walk_at "go"
  refine forR (fun i σ H1 => ∃ (y1 y2 : Option V), σ = [some (.ref a), some (.int (ps.drop i).sum), some (.int (rkI ps - rkI (ps.drop i))), y1, y2] ∧ H1 = H) ⟨_, _, by rw [List.drop_zero, Int.sub_self], rfl⟩ ?_ ?_
  · rintro σ1 H1 ⟨y1, y2, rfl, rfl⟩
    walk_at "go"
    rw [show ((ps.length : Int) - 1).toNat = ps.length - 1 by omega, rk_end p1.1 p2, Int.sub_zero]
    exact k
  · rintro i σ1 H1 hi ⟨y1, y2, rfl, rfl⟩
    walk_at "go"
    rename_i x hx
    rw [show (0 + (i : Int)).toNat = i by omega] at hx
    obtain ⟨e1, e2, e3, e4, e5⟩ := rk_at p2 hx
    refine ⟨by omega, by omega, ?_⟩
    refine forR (fun j σ H2 => ∃ (y2 : Option V), σ = [some (.ref a), some (.int (ps.drop i).sum), some (.int (rkI ps - rkI (ps.drop i) + preI (ps.drop i).sum (ps.length - 1 - i) j)), some (.int (0 + (i : Int))), y2] ∧ H2 = H1) ⟨_, by rw [show preI (ps.drop i).sum (ps.length - 1 - i) 0 = 0 from rfl, Int.add_zero], rfl⟩ ?_ ?_
    · rintro σ1 H2 ⟨y2, rfl, rfl⟩
      walk_at "go"
      rename_i z hz
      rw [show (0 + (i : Int)).toNat = i by omega, hx] at hz
      cases hz
      rw [show (ps.drop i).sum - x = (ps.drop (i + 1)).sum by omega, show rkI ps - rkI (ps.drop i) + preI (ps.drop i).sum (ps.length - 1 - i) x.toNat = rkI ps - rkI (ps.drop (i + 1)) by omega]
      exact ⟨_, _, rfl, rfl⟩
    · rintro j σ1 H2 hj ⟨y2, rfl, rfl⟩
      walk_at "go"
      rw [show ((ps.length : Int) - 1 - (0 + (i : Int))).toNat = ps.length - 1 - i by omega, show (0 + (j : Int)) = (j : Int) by omega, Int.add_assoc]
      exact ⟨_, rfl, rfl⟩

def sp_plan_of (K : PySem.W.Frag) : Sp := fun vs H Q E => ∃ (x y n : Int), vs = [.int x, .int y, .int n] ∧ (0 ≤ x ∧ x ≤ 40 ∧ 1 ≤ y ∧ y ≤ 8) ∧ (0 ≤ n ∧ n < waysI x.toNat y.toNat) ∧ ∀ (b : Addr) (ps : List Int) (H' : Hp), (H' b = some (.lst (ps.map V.int))) → (Same H H') → (H b = none) → (PlanI x y.toNat ps) → (rkI ps = n) → Q (.ref b) H'
theorem use_plan_of {K : PySem.W.Frag} {H : Hp} {Q : VK} {E : XK} {x y n : Int} (p0 : 0 ≤ x ∧ x ≤ 40 ∧ 1 ≤ y ∧ y ≤ 8) (p1 : 0 ≤ n ∧ n < waysI x.toNat y.toNat) (k : ∀ (b : Addr) (ps : List Int) (H' : Hp), (H' b = some (.lst (ps.map V.int))) → (Same H H') → (H b = none) → (PlanI x y.toNat ps) → (rkI ps = n) → Q (.ref b) H') : sp_plan_of K [.int x, .int y, .int n] H Q E := ⟨x, y, n, rfl, p0, p1, k⟩
theorem len_plan_of {K : PySem.W.Frag} (vs : List V) (H : Hp) (Q : VK) (E : XK) (h : sp_plan_of K vs H Q E) : vs.length = ["hosts", "fields", "number"].length := by
  obtain ⟨_, _, _, rfl, _⟩ := h
  rfl
local macro_rules | `(tactic| walk_at "g_call") => `(tactic| ((with_reducible refine' use_plan_of ?c0 ?c1 ?_); (case c0 => walk_at "g_pre"); (case c1 => walk_at "g_pre"); intros))
theorem ok_plan_of (T : Txt K mg) : FnOk P w K mg base CX0 2 T.a_plan_of T.d_plan_of ["hosts", "fields", "number"] (sp_plan_of K) := by
  have G_must_be_sizes := ok_must_be_sizes (P := P) (w := w) (base := base) T
  have G_ways := ok_ways (P := P) (w := w) (base := base) T
  refine T.F_plan_of.ok sc_plan_of len_plan_of (fun cdv A outer s H vs Q E hr h => ?_)
  refine ⟨_, (pss_cons (ps_expr (pe_call G_must_be_sizes (hr.mono (by decide)) (by rfl) T.g_must_be_sizes T.F_must_be_sizes.kp T.b_must_be_sizes .nil pass0 (pa_cons (pv 0) (pa_cons (pv 1) pa_nil))))
      (pss_cons (ps_if (PW.pt (pw_or (pt_cmpR op_lt (pv 2) pe_int (nomark _)) (pw_or1 (pt_cmpR op_ge (pv 2) (pe_call G_ways (hr.mono (by decide)) (by rfl) T.g_ways T.F_ways.kp T.b_ways .nil pass0 (pa_cons (pv 0) (pa_cons (pv 1) pa_nil))) (nomark _))))) (pss_one ps_never) pss_nil)
      (pss_cons (ps_set (i := 3) sc_plan_of.nd rfl (Or.inl rfl) (pe_lst pa_nil))
      (pss_cons (ps_set (i := 4) sc_plan_of.nd rfl (Or.inl rfl) (pv 0))
      (pss_cons (ps_for PassesOwn.never rfl (pi_range1 rfl T.z_range (pa_cons (pe_op op_sub (pv 1) pe_int) pa_nil)) (pg_name (i := 5) sc_plan_of.nd rfl (Or.inl rfl)) (pss_cons (ps_set (i := 6) sc_plan_of.nd rfl (Or.inl rfl) pe_int)
      (pss_cons (ps_while PassesOwn.never (pt_cmpR op_ge (pv 2) (pe_call G_ways (hr.mono (by decide)) (by rfl) T.g_ways T.F_ways.kp T.b_ways .nil pass0 (pa_cons (pe_op op_sub (pv 4) (pv 6)) (pa_cons (pe_op op_sub (pe_op op_sub (pv 1) pe_int) (pv 5)) pa_nil))) (nomark _)) (pss_cons (ps_aug (i := 2) sc_plan_of.nd rfl (Or.inl rfl) (pe_call G_ways (hr.mono (by decide)) (by rfl) T.g_ways T.F_ways.kp T.b_ways .nil pass0 (pa_cons (pe_op op_sub (pv 4) (pv 6)) (pa_cons (pe_op op_sub (pe_op op_sub (pv 1) pe_int) (pv 5)) pa_nil))) ip_sub)
      (pss_one (ps_aug (i := 6) sc_plan_of.nd rfl (Or.inl rfl) pe_int ip_add))))
      (pss_cons (ps_expr (pe_bm PySem.F.plainAttrs_list PySem.F.slot_list_append PySem.F.type_list_append mt_append (pv 3) (pa_cons (pv 6) pa_nil)))
      (pss_one (ps_aug (i := 4) sc_plan_of.nd rfl (Or.inl rfl) (pv 6) ip_sub))))))
      (pss_one (ps_ret (pe_op op_cat (pv 3) (pe_lst (pa_cons (pv 4) pa_nil)))))))))), ?_⟩
  try dsimp only [L2.cxOf, L2.Cx.nox, L2.Cx.wish, List.map_cons, List.map_nil]
  obtain ⟨x, y, n, rfl, p0, p1, k⟩ := h
  refine start_to (σ := [some _, some _, some _, none, none, none, none]) rfl ?_
  walk_at "go"
  refine ite_d (fun c1 => absurd c1 (by omega)) (fun c1 => ?_)
  walk_at "go"
  refine ite_d (fun c1 => absurd c1 (by omega)) (fun c1 => ?_)
  walk_at "go"
  rename_i b nb
  refine forR (fun i σ H1 => ∃ (ps : List Int) (left num : Int) (y1 y2 : Option V), σ = [some (.int x), some (.int y), some (.int num), some (.ref b), some (.int left), y1, y2] ∧ H1 b = some (.lst (ps.map V.int)) ∧ Same H H1 ∧ ps.length = i ∧ PreI x y.toNat n ps left num) ⟨[], _, _, _, _, rfl, upd_same, by walk_at "g_same", rfl, pre_start p0.1 p1.1 p1.2⟩ ?_ ?_
  · rintro σ1 H1 ⟨ps, left, num, y1, y2, rfl, h1, h2, h3, h4⟩
    walk_at "go"
    rename_i c nc r nr
    obtain ⟨q1, q2⟩ := pre_last h4 (by omega)
    exact k _ (ps ++ [left]) _ upd_same (by walk_at "g_same") (by walk_at "g_free") q1 q2
  · rintro i σ1 H1 hi ⟨ps, left, num, y1, y2, rfl, h1, h2, h3, h4⟩
    have h40 : 0 ≤ left ∧ left ≤ x := ⟨h4.2.2.1, h4.2.2.2.1⟩
    have eg : (y - 1 - (0 + (i : Int))).toNat = y.toNat - 1 - ps.length := by omega
    walk_at "go"
    refine whileW (fun m σ H2 => ∃ s : Nat, σ = [some (.int x), some (.int y), some (.int (num - preI left (y.toNat - 1 - ps.length) s)), some (.ref b), some (.int left), some (.int (0 + (i : Int))), some (.int (s : Int))] ∧ H2 = H1 ∧ (s : Int) ≤ left ∧ preI left (y.toNat - 1 - ps.length) s ≤ num ∧ m = left.toNat - s) (left.toNat - 0) ⟨0, ?_, rfl, by omega, ?_, rfl⟩ ?_
    · rw [show preI left (y.toNat - 1 - ps.length) 0 = 0 from rfl, Int.sub_zero]
      rfl
    · exact h4.2.2.2.2.1
    · rintro m σ2 H2 ⟨s, rfl, rfl, hs, hp, rfl⟩
      walk_at "go"
      rw [eg]
      refine ite_d (fun c1 => ?_) (fun c1 => ?_)
      · have hs1 := pre_more h4 (by omega) hs (by omega)
        refine turnW ?_
        walk_at "go"
        rw [eg]
        refine ⟨_, ?_, s + 1, ?_, rfl, by omega, ?_, rfl⟩
        · omega
        · rw [Int.sub_sub]
          rfl
        · show preI left _ s + waysI (left - s).toNat _ ≤ num
          omega
      · walk_at "go"
        have q := pre_next h4 (by omega) hs hp (by omega)
        exact ⟨ps ++ [(s : Int)], _, _, _, _, rfl, by first | exact upd_same | (rw [List.map_append]; exact upd_same), by walk_at "g_same", by simp; omega, q⟩

def sp_l_numbers (K : PySem.W.Frag) : Sp := fun vs H Q E => ∃ (a b : Addr) (ms : List Int), vs = [.ref a, .ref b] ∧ (H a = some (.lst (ms.map V.int))) ∧ (SqL K H b (ms.map V.int)) ∧ (ms.length ≤ 100000) ∧ ∀ (H' : Hp), (Same H H') → Q (.bl true) H'
theorem use_l_numbers {K : PySem.W.Frag} {H : Hp} {Q : VK} {E : XK} {a b : Addr} {ms : List Int} (p0 : H a = some (.lst (ms.map V.int))) (p1 : SqL K H b (ms.map V.int)) (p2 : ms.length ≤ 100000) (k : ∀ (H' : Hp), (Same H H') → Q (.bl true) H') : sp_l_numbers K [.ref a, .ref b] H Q E := ⟨a, b, ms, rfl, p0, p1, p2, k⟩
theorem len_l_numbers {K : PySem.W.Frag} (vs : List V) (H : Hp) (Q : VK) (E : XK) (h : sp_l_numbers K vs H Q E) : vs.length = ["_law_found", "_law_due"].length := by
  obtain ⟨_, _, _, rfl, _⟩ := h
  rfl
local macro_rules | `(tactic| walk_at "g_call") => `(tactic| ((with_reducible refine' use_l_numbers ?c0 ?c1 ?c2 ?_); (case c0 => walk_at "g_pre"); (case c1 => walk_at "g_pre"); (case c2 => walk_at "g_pre"); intros))
theorem ok_l_numbers (T : Txt K mg) : FnOk P w K mg base CX0 2 T.a_l_numbers T.d_l_numbers ["_law_found", "_law_due"] (sp_l_numbers K) := by
  have G_l_whole := ok_l_whole (P := P) (w := w) (base := base) T
  refine T.F_l_numbers.ok sc_l_numbers len_l_numbers (fun cdv A outer s H vs Q E hr h => ?_)
  refine ⟨_, (pss_cons (ps_if (PW.pt (pw_or (pt_not (pt_val (pe_callB (call_isiK' K rfl) (by rfl) T.z_isinstance (by decide +kernel) (pa_cons (pv 0) (pa_cons (pe_bltn (v := .ty "list") rfl T.z_list (by decide +kernel) rfl) pa_nil))))) (pw_or1 (pt_cmpR (op_neDK K rfl hr.units) (pv 0) (pv 1) (nomark _))))) (pss_one (ps_ret pe_bl)) pss_nil)
      (pss_one (ps_ret (pe_cmpR (op_eqDK K rfl hr.units) (pe_lc (own := [("_law_number_here", 2)]) rfl sc_l_numbers.nd (pi_listK K rfl (pv 0)) (blkOk_by (own := [("_law_number_here", 2)]) (N := ["_law_found", "_law_due", "_law_number_here"]) (sc := defScope s_l_numbers) (by decide +kernel)) (fun _ _ _ _ _ => (pg_name (i := 2) sc_l_numbers.nd rfl (Or.inl rfl))) (fun _ _ _ _ _ => (pts_one (pt_not (pt_val (pe_call G_l_whole (hr.mono (by decide)) (by rfl) T.g_l_whole T.F_l_whole.kp T.b_l_whole .nil pass0 (pa_cons (pv 2) pa_nil)))))) (fun _ _ _ _ _ => (pv 2))) (pe_lst pa_nil) (nomark _))))), ?_⟩
  try dsimp only [L2.cxOf, L2.Cx.nox, L2.Cx.wish, List.map_cons, List.map_nil]
  obtain ⟨a, b, ms, rfl, p0, p1, p2, k⟩ := h
  refine start_to (σ := [some _, some _, none]) rfl ?_
  walk_at "go"
  refine ite_n (by simp) ?_
  walk_at "go"
  intro D nD
  refine lcL_nil nD (by walk_at "g_sq") ?_ ?_
  · intro i x H2 Z Y hx hs hy
    obtain ⟨z, rfl, hz⟩ := ints_at hx
    walk_at "go"
    exact hy _ (by walk_at "g_same")
  · intro H2 hs hD
    walk_at "go"
    exact k _ (by walk_at "g_same")

def sp_l_many (K : PySem.W.Frag) : Sp := fun vs H Q E => ∃ (x y : Int), vs = [.int x, .int y] ∧ (0 ≤ x ∧ x ≤ 40 ∧ 0 ≤ y ∧ y ≤ 8) ∧ ∀ (H' : Hp), (Same H H') → Q (.int (waysI x.toNat y.toNat)) H'
theorem use_l_many {K : PySem.W.Frag} {H : Hp} {Q : VK} {E : XK} {x y : Int} (p0 : 0 ≤ x ∧ x ≤ 40 ∧ 0 ≤ y ∧ y ≤ 8) (k : ∀ (H' : Hp), (Same H H') → Q (.int (waysI x.toNat y.toNat)) H') : sp_l_many K [.int x, .int y] H Q E := ⟨x, y, rfl, p0, k⟩
theorem len_l_many {K : PySem.W.Frag} (vs : List V) (H : Hp) (Q : VK) (E : XK) (h : sp_l_many K vs H Q E) : vs.length = ["_law_hosts", "_law_fields"].length := by
  obtain ⟨_, _, rfl, _⟩ := h
  rfl
local macro_rules | `(tactic| walk_at "g_call") => `(tactic| ((with_reducible refine' use_l_many ?c0 ?_); (case c0 => walk_at "g_pre"); intros))
theorem ok_l_many (T : Txt K mg) : FnOk P w K mg base CX0 1 T.a_l_many T.d_l_many ["_law_hosts", "_law_fields"] (sp_l_many K) := by
  refine T.F_l_many.ok sc_l_many len_l_many (fun cdv A outer s H vs Q E hr h => ?_)
  refine ⟨_, (pss_cons (ps_set (i := 2) sc_l_many.nd rfl (Or.inr rfl) (pe_op op_cat (pe_lst (pa_cons pe_int pa_nil)) (pe_op op_rep (pe_lst (pa_cons pe_int pa_nil)) (pv 0))))
      (pss_cons (ps_for PassesOwn.never rfl (pi_range1 rfl T.z_range (pa_cons (pv 1) pa_nil)) (pg_name (i := 3) sc_l_many.nd rfl (Or.inl rfl)) (pss_one (ps_set (i := 2) sc_l_many.nd rfl (Or.inr rfl) (pe_lc (own := [("_law_left", 4)]) rfl sc_l_many.nd (pi_range1 rfl T.z_range (pa_cons (pe_op op_add (pv 0) pe_int) pa_nil)) (blkOk_by (own := [("_law_left", 4)]) (N := ["_law_hosts", "_law_fields", "_law_row", "_law_field", "_law_left"]) (sc := defScope s_l_many) (by decide +kernel)) (fun _ _ _ _ _ => (pg_name (i := 4) sc_l_many.nd rfl (Or.inl rfl))) (fun _ _ _ _ _ => pts_nil) (fun _ _ _ _ _ => (pe_callB (cr_sumK K rfl rfl) (by rfl) T.z_sum (by decide +kernel) (pa_cons (pe_slice (sl_listK K rfl) (pv 2) po_none (po_some (pe_op op_add (pv 4) pe_int))) pa_nil)))))))
      (pss_one (ps_ret (pe_ix (ix_listK K rfl) (pv 2) (pv 0) (fun _ _ => rfl)))))), ?_⟩
  try dsimp only [L2.cxOf, L2.Cx.nox, L2.Cx.wish, List.map_cons, List.map_nil]
  obtain ⟨x, y, rfl, ⟨p0, p1, p2, p3⟩, k⟩ := h
  obtain ⟨h, rfl⟩ := Int.eq_ofNat_of_zero_le p0
  obtain ⟨f, rfl⟩ := Int.eq_ofNat_of_zero_le p2
  rw [Int.toNat_natCast, Int.toNat_natCast] at k
  refine start_to (σ := [some _, some _, none, none, none]) rfl ?_
  walk_at "go"
  rename_i r1 n1 r2 n2 r3 n3 r4 n4
  have e0 : [V.int 1] ++ List.map V.int (List.replicate (Int.toNat (h : Int)) 0) = (rowK h 0).map V.int := by
    rw [rowK_zero, List.map_cons, Int.toNat_natCast]
    rfl
  rw [e0]
  refine forR (fun i σ H1 => ∃ (r : Addr) (y1 y2 : Option V), σ = [some (.int (h : Int)), some (.int (f : Int)), some (.ref r), y1, y2] ∧ H1 r = some (.lst ((rowK h i).map V.int)) ∧ Same H H1) ⟨_, _, _, rfl, upd_same, by walk_at "g_same"⟩ ?_ ?_
  · rintro σ1 H1 ⟨r, y1, y2, rfl, h1, h2⟩
    have hl := rowK_len h (f : Int).toNat
    walk_at "go"
    rename_i z hz
    rw [Int.toNat_natCast, Int.toNat_natCast, rowK_at (Nat.le_refl h)] at hz
    cases hz
    exact k _ h2
  · rintro i σ1 H1 hi ⟨r, y1, y2, rfl, h1, h2⟩
    walk_at "go"
    intro D nD
    refine lcR_int (fun j => (plansN j (i + 1) : Int)) nD (by omega) ?_ ?_
    · intro j H2 Z Y hj hs hz
      walk_at "go"
      have e : (List.take (0 + (j : Int) + 1).toNat (rowK h i)).sum = (plansN j (i + 1) : Int) := by
        rw [show (0 + (j : Int) + 1).toNat = j + 1 by omega]
        exact rowK_sum (by omega)
      rw [e]
      exact hz _ (by walk_at "g_same")
    · intro H2 hs hD
      walk_at "go"
      rw [show ((h : Int) + 1).toNat = h + 1 by omega] at hD
      exact ⟨D, _, _, rfl, hD, h2.trans hs⟩

def sp_l_plan (K : PySem.W.Frag) : Sp := fun vs H Q E => ∃ (p c : Addr) (ms : List Int) (t h f : Int), vs = [.ref p, .int h, .int f] ∧ (H p = some (.lst [.ref c, .int t])) ∧ (H c = some (.lst (ms.map V.int))) ∧ (p ≠ c) ∧ (1 ≤ ms.length ∧ ms.length ≤ 63) ∧ (0 ≤ t ∧ t ≤ 900000) ∧ (0 ≤ h ∧ h ≤ 40 ∧ 1 ≤ f ∧ f ≤ 8) ∧ ∀ (b : Addr) (ps ms' : List Int) (t' : Int) (H' : Hp), (H' p = some (.lst [.ref c, .int t'])) → (H' c = some (.lst (ms'.map V.int))) → (H' b = some (.lst (ps.map V.int))) → (t ≤ t' ∧ t' ≤ t + 24) → (1 ≤ ms'.length ∧ ms'.length ≤ 63) → (But2 p c H H') → (H b = none) → (PlanI h f.toNat ps) → (b ≠ p ∧ b ≠ c) → Q (.ref b) H'
theorem use_l_plan {K : PySem.W.Frag} {H : Hp} {Q : VK} {E : XK} {p c : Addr} {ms : List Int} {t h f : Int} (p0 : H p = some (.lst [.ref c, .int t])) (p1 : H c = some (.lst (ms.map V.int))) (p2 : p ≠ c) (p3 : 1 ≤ ms.length ∧ ms.length ≤ 63) (p4 : 0 ≤ t ∧ t ≤ 900000) (p5 : 0 ≤ h ∧ h ≤ 40 ∧ 1 ≤ f ∧ f ≤ 8) (k : ∀ (b : Addr) (ps ms' : List Int) (t' : Int) (H' : Hp), (H' p = some (.lst [.ref c, .int t'])) → (H' c = some (.lst (ms'.map V.int))) → (H' b = some (.lst (ps.map V.int))) → (t ≤ t' ∧ t' ≤ t + 24) → (1 ≤ ms'.length ∧ ms'.length ≤ 63) → (But2 p c H H') → (H b = none) → (PlanI h f.toNat ps) → (b ≠ p ∧ b ≠ c) → Q (.ref b) H') : sp_l_plan K [.ref p, .int h, .int f] H Q E := ⟨p, c, ms, t, h, f, rfl, p0, p1, p2, p3, p4, p5, k⟩
theorem len_l_plan {K : PySem.W.Frag} (vs : List V) (H : Hp) (Q : VK) (E : XK) (h : sp_l_plan K vs H Q E) : vs.length = ["_law_purse_here", "_law_hosts", "_law_fields"].length := by
  obtain ⟨_, _, _, _, _, _, rfl, _⟩ := h
  rfl
local macro_rules | `(tactic| walk_at "g_call") => `(tactic| ((with_reducible refine' use_l_plan ?c0 ?c1 ?c2 ?c3 ?c4 ?c5 ?_); (case c0 => walk_at "g_pre"); (case c1 => walk_at "g_pre"); (case c2 => walk_at "g_pre"); (case c3 => walk_at "g_pre"); (case c4 => walk_at "g_pre"); (case c5 => walk_at "g_pre"); intros))
theorem ok_l_plan (T : Txt K mg) : FnOk P w K mg base CX0 2 T.a_l_plan T.d_l_plan ["_law_purse_here", "_law_hosts", "_law_fields"] (sp_l_plan K) := by
  have G_l_draw := ok_l_draw (P := P) (w := w) (base := base) T
  refine T.F_l_plan.ok sc_l_plan len_l_plan (fun cdv A outer s H vs Q E hr h => ?_)
  refine ⟨_, (pss_cons (ps_set (i := 3) sc_l_plan.nd rfl (Or.inl rfl) (pe_lst pa_nil))
      (pss_cons (ps_set (i := 4) sc_l_plan.nd rfl (Or.inl rfl) (pv 1))
      (pss_cons (ps_for PassesOwn.never rfl (pi_range1 rfl T.z_range (pa_cons (pe_op op_sub (pv 2) pe_int) pa_nil)) (pg_name (i := 5) sc_l_plan.nd rfl (Or.inl rfl)) (pss_cons (ps_set (i := 6) sc_l_plan.nd rfl (Or.inl rfl) (pe_ix (ix_listK K rfl) (pe_lst (pa_cons (pe_call G_l_draw (hr.mono (by decide)) (by rfl) T.g_l_draw T.F_l_draw.kp T.b_l_draw .nil pass0 (pa_cons (pv 0) (pa_cons (pe_op op_add (pv 4) pe_int) pa_nil))) (pa_cons pe_int (pa_cons (pv 4) (pa_cons (pe_callB (call_min2 rfl) (by rfl) T.z_min (by decide +kernel) (pa_cons (pv 4) (pa_cons (pe_call G_l_draw (hr.mono (by decide)) (by rfl) T.g_l_draw T.F_l_draw.kp T.b_l_draw .nil pass0 (pa_cons (pv 0) (pa_cons pe_int pa_nil))) pa_nil))) pa_nil))))) (pe_op op_fdiv (pe_call G_l_draw (hr.mono (by decide)) (by rfl) T.g_l_draw T.F_l_draw.kp T.b_l_draw .nil pass0 (pa_cons (pv 0) (pa_cons pe_int pa_nil))) pe_int) (fun _ _ => rfl)))
      (pss_cons (ps_expr (pe_bm PySem.F.plainAttrs_list PySem.F.slot_list_append PySem.F.type_list_append mt_append (pv 3) (pa_cons (pv 6) pa_nil)))
      (pss_one (ps_set (i := 4) sc_l_plan.nd rfl (Or.inl rfl) (pe_op op_sub (pv 4) (pv 6)))))))
      (pss_one (ps_ret (pe_op op_cat (pv 3) (pe_lst (pa_cons (pv 4) pa_nil)))))))), ?_⟩
  try dsimp only [L2.cxOf, L2.Cx.nox, L2.Cx.wish, List.map_cons, List.map_nil]
  obtain ⟨p, c, ms, t, h, f, rfl, p0, p1, p2, p3, p4, p5, k⟩ := h
  refine start_to (σ := [some _, some _, some _, none, none, none, none]) rfl ?_
  walk_at "go"
  rename_i b nb
  refine forR (fun i σ H1 => ∃ (ps ms' : List Int) (t' left : Int) (y1 y2 : Option V), σ = [some (.ref p), some (.int h), some (.int f), some (.ref b), some (.int left), y1, y2] ∧ H1 p = some (.lst [.ref c, .int t']) ∧ H1 c = some (.lst (ms'.map V.int)) ∧ H1 b = some (.lst (ps.map V.int)) ∧ (t ≤ t' ∧ t' ≤ t + 3 * i) ∧ (1 ≤ ms'.length ∧ ms'.length ≤ 63) ∧ But2 p c H H1 ∧ (0 ≤ left ∧ left ≤ h) ∧ ps.length = i ∧ (∀ x ∈ ps, 0 ≤ x) ∧ ps.sum + left = h) ⟨[], ms, t, _, _, _, rfl, by walk_at "g_lk", by walk_at "g_lk", upd_same, by omega, p3, by walk_at "g_but2", by omega, rfl, nofun, by simp⟩ ?_ ?_
  · rintro σ1 H1 ⟨ps, ms', t', left, y1, y2, rfl, h1, h2, h3, h4, h5, h6, h7, h8, h9, h10⟩
    walk_at "go"
    rename_i r1 n1 r2 n2
    have hb : r2 ≠ p ∧ r2 ≠ c := ⟨by walk_at "g_ne", by walk_at "g_ne"⟩
    refine k _ (ps ++ [left]) _ _ _ (by walk_at "g_lk") (by walk_at "g_lk") upd_same (by omega) h5 (by walk_at "g_but2") (Hf.But2.free (a := p) (c := c) n2 (by walk_at "g_but2") (by walk_at "g_lk") (by walk_at "g_lk")) ⟨by rw [List.length_append]; simp; omega, by rw [List.sum_append, List.sum_cons, List.sum_nil]; omega, ?_⟩ hb
    intro x hx
    rcases List.mem_append.mp hx with g | g
    · exact h9 x g
    · rw [List.mem_singleton.mp g]; omega
  · rintro i σ1 H1 hi ⟨ps, ms', t', left, y1, y2, rfl, h1, h2, h3, h4, h5, h6, h7, h8, h9, h10⟩
    walk_at "go"
    rename_i d1 m1 H2 a1 a2 a3 a4 a5 d2 m2 H3 a6 a7 a8 a9 a10 r1 a11 d3 m3 H4 a12 a13 a14 a15 a16 v a17
    have hv : 0 ≤ v ∧ v ≤ left := by
      rcases a17 with g | g | g | g
      · omega
      · omega
      · omega
      · split at g <;> omega
    have hb3 : H4 b = some (.lst (ps.map V.int)) := by walk_at "g_lk"
    refine ⟨ps ++ [v], m3, t' + 1 + 1 + 1, left - v, _, _, rfl, by walk_at "g_lk", by walk_at "g_lk", by first | exact upd_same | (rw [List.map_append]; exact upd_same), by omega, a15, by walk_at "g_but2", by omega, by rw [List.length_append, h8]; rfl, ?_, by rw [List.sum_append, List.sum_cons, List.sum_nil]; omega⟩
    intro x hx
    rcases List.mem_append.mp hx with g | g
    · exact h9 x g
    · rw [List.mem_singleton.mp g]; omega
def sp_l_number (K : PySem.W.Frag) : Sp := fun vs H Q E => ∃ (a : Addr) (ps : List Int), vs = [.ref a] ∧ (SqL K H a (ps.map V.int)) ∧ (1 ≤ ps.length ∧ ps.length ≤ 8) ∧ (∀ x ∈ ps, 0 ≤ x) ∧ (ps.sum ≤ 40) ∧ ∀ (H' : Hp), (Same H H') → Q (.int (rkI ps)) H'
theorem use_l_number {K : PySem.W.Frag} {H : Hp} {Q : VK} {E : XK} {a : Addr} {ps : List Int} (p0 : SqL K H a (ps.map V.int)) (p1 : 1 ≤ ps.length ∧ ps.length ≤ 8) (p2 : ∀ x ∈ ps, 0 ≤ x) (p3 : ps.sum ≤ 40) (k : ∀ (H' : Hp), (Same H H') → Q (.int (rkI ps)) H') : sp_l_number K [.ref a] H Q E := ⟨a, ps, rfl, p0, p1, p2, p3, k⟩
theorem len_l_number {K : PySem.W.Frag} (vs : List V) (H : Hp) (Q : VK) (E : XK) (h : sp_l_number K vs H Q E) : vs.length = ["_law_plan_here"].length := by
  obtain ⟨_, _, rfl, _⟩ := h
  rfl
local macro_rules | `(tactic| walk_at "g_call") => `(tactic| ((with_reducible refine' use_l_number ?c0 ?c1 ?c2 ?c3 ?_); (case c0 => walk_at "g_pre"); (case c1 => walk_at "g_pre"); (case c2 => walk_at "g_pre"); (case c3 => walk_at "g_pre"); intros))
theorem ok_l_number (T : Txt K mg) : FnOk P w K mg base CX0 2 T.a_l_number T.d_l_number ["_law_plan_here"] (sp_l_number K) := by
  have G_l_many := ok_l_many (P := P) (w := w) (base := base) T
  refine T.F_l_number.ok sc_l_number len_l_number (fun cdv A outer s H vs Q E hr h => ?_)
  refine ⟨_, (pss_cons (ps_set (i := 1) sc_l_number.nd rfl (Or.inl rfl) pe_int)
      (pss_cons (ps_set (i := 2) sc_l_number.nd rfl (Or.inl rfl) (pe_callB (cr_sumK K rfl rfl) (by rfl) T.z_sum (by decide +kernel) (pa_cons (pv 0) pa_nil)))
      (pss_cons (ps_for PassesOwn.never rfl (pi_range1 rfl T.z_range (pa_cons (pe_op op_sub (pe_callB (call_lenK K rfl) (by rfl) T.z_len (by decide +kernel) (pa_cons (pv 0) pa_nil)) pe_int) pa_nil)) (pg_name (i := 3) sc_l_number.nd rfl (Or.inl rfl)) (pss_cons (ps_for PassesOwn.never rfl (pi_range1 rfl T.z_range (pa_cons (pe_ix (ix_listK K rfl) (pv 0) (pv 3) (fun _ _ => rfl)) pa_nil)) (pg_name (i := 4) sc_l_number.nd rfl (Or.inl rfl)) (pss_one (ps_set (i := 1) sc_l_number.nd rfl (Or.inl rfl) (pe_op op_add (pv 1) (pe_call G_l_many (hr.mono (by decide)) (by rfl) T.g_l_many T.F_l_many.kp T.b_l_many .nil pass0 (pa_cons (pe_op op_sub (pv 2) (pv 4)) (pa_cons (pe_op op_sub (pe_op op_sub (pe_callB (call_lenK K rfl) (by rfl) T.z_len (by decide +kernel) (pa_cons (pv 0) pa_nil)) pe_int) (pv 3)) pa_nil)))))))
      (pss_one (ps_set (i := 2) sc_l_number.nd rfl (Or.inl rfl) (pe_op op_sub (pv 2) (pe_ix (ix_listK K rfl) (pv 0) (pv 3) (fun _ _ => rfl)))))))
      (pss_one (ps_ret (pv 1)))))), ?_⟩
  try dsimp only [L2.cxOf, L2.Cx.nox, L2.Cx.wish, List.map_cons, List.map_nil]
  obtain ⟨a, ps, rfl, p0, p1, p2, p3, k⟩ := h
  refine start_to (σ := [some _, none, none, none, none]) rfl ?_
  walk_at "go"
  refine forR (fun i σ H1 => ∃ (y1 y2 : Option V), σ = [some (.ref a), some (.int (rkI ps - rkI (ps.drop i))), some (.int (ps.drop i).sum), y1, y2] ∧ Same H H1) ⟨_, _, by rw [List.drop_zero, Int.sub_self], by walk_at "g_same"⟩ ?_ ?_
  · rintro σ1 H1 ⟨y1, y2, rfl, h1⟩
    walk_at "go"
    rw [show ((ps.length : Int) - 1).toNat = ps.length - 1 by omega, rk_end p1.1 p2, Int.sub_zero]
    exact k _ h1
  · rintro i σ1 H1 hi ⟨y1, y2, rfl, h1⟩
    walk_at "go"
    rename_i x hx
    rw [show (0 + (i : Int)).toNat = i by omega] at hx
    obtain ⟨e1, e2, e3, e4, e5⟩ := rk_at p2 hx
    refine ⟨by omega, by omega, ?_⟩
    refine forR (fun j σ H2 => ∃ (y2 : Option V), σ = [some (.ref a), some (.int (rkI ps - rkI (ps.drop i) + preI (ps.drop i).sum (ps.length - 1 - i) j)), some (.int (ps.drop i).sum), some (.int (0 + (i : Int))), y2] ∧ Same H H2) ⟨_, by rw [show preI (ps.drop i).sum (ps.length - 1 - i) 0 = 0 from rfl, Int.add_zero], h1⟩ ?_ ?_
    · rintro σ1 H2 ⟨y2, rfl, h2⟩
      walk_at "go"
      rename_i z hz
      rw [show (0 + (i : Int)).toNat = i by omega, hx] at hz
      cases hz
      rw [show (ps.drop i).sum - x = (ps.drop (i + 1)).sum by omega, show rkI ps - rkI (ps.drop i) + preI (ps.drop i).sum (ps.length - 1 - i) x.toNat = rkI ps - rkI (ps.drop (i + 1)) by omega]
      exact ⟨_, _, rfl, h2⟩
    · rintro j σ1 H2 hj ⟨y2, rfl, h2⟩
      walk_at "go"
      rw [show ((ps.length : Int) - 1 - (0 + (i : Int))).toNat = ps.length - 1 - i by omega, show (0 + (j : Int)) = (j : Int) by omega, Int.add_assoc]
      exact ⟨_, rfl, by walk_at "g_same"⟩

def Held (p c e : Addr) (H : Hp) (xs : List V) : Prop := ∀ v ∈ xs, ∃ (r o k : Addr) (ms : List Int), v = .ref r ∧ H r = some (.tup [.ref o, .ref k]) ∧ H o = some (.lst (ms.map V.int)) ∧ H k = some (.lst (ms.map V.int)) ∧ (r ≠ p ∧ r ≠ c ∧ r ≠ e) ∧ (o ≠ p ∧ o ≠ c ∧ o ≠ e) ∧ (k ≠ p ∧ k ≠ c ∧ k ≠ e)
theorem Held.same {p c e : Addr} {H H' : Hp} {xs : List V} (s : Same H H') (h : Held p c e H xs) : Held p c e H' xs := fun v hv => by
  obtain ⟨r, o, k, ms, h1, h2, h3, h4, h5⟩ := h v hv
  exact ⟨r, o, k, ms, h1, s _ _ h2, s _ _ h3, s _ _ h4, h5⟩
theorem Held.but2 {p c e : Addr} {H H' : Hp} {xs : List V} (s : But2 p c H H') (h : Held p c e H xs) : Held p c e H' xs := fun v hv => by
  obtain ⟨r, o, k, ms, h1, h2, h3, h4, h5, h6, h7⟩ := h v hv
  exact ⟨r, o, k, ms, h1, s _ _ h5.1 h5.2.1 h2, s _ _ h6.1 h6.2.1 h3, s _ _ h7.1 h7.2.1 h4, h5, h6, h7⟩
theorem Held.upd {p c e : Addr} {H : Hp} {u : HO} {xs : List V} (h : Held p c e H xs) : Held p c e (L2.upd H e u) xs := fun v hv => by
  obtain ⟨r, o, k, ms, h1, h2, h3, h4, h5, h6, h7⟩ := h v hv
  exact ⟨r, o, k, ms, h1, lk_upd h5.2.2 h2, lk_upd h6.2.2 h3, lk_upd h7.2.2 h4, h5, h6, h7⟩
theorem Held.add {p c e r o k : Addr} {H : Hp} {xs : List V} {ms : List Int} (h : Held p c e H xs) (h2 : H r = some (.tup [.ref o, .ref k])) (h3 : H o = some (.lst (ms.map V.int))) (h4 : H k = some (.lst (ms.map V.int))) (h5 : r ≠ p ∧ r ≠ c ∧ r ≠ e) (h6 : o ≠ p ∧ o ≠ c ∧ o ≠ e) (h7 : k ≠ p ∧ k ≠ c ∧ k ≠ e) : Held p c e H (xs ++ [.ref r]) := fun v hv => by
  rcases List.mem_append.mp hv with g | g
  · exact h v g
  · exact ⟨r, o, k, ms, List.mem_singleton.mp g, h2, h3, h4, h5, h6, h7⟩
theorem rev_nn {ps : List Int} (h : ∀ x ∈ ps, 0 ≤ x) : ∀ x ∈ ps.reverse, 0 ≤ x := fun x hx => h x (List.mem_reverse.mp hx)
def sp_law (K : PySem.W.Frag) : Sp := fun vs H Q E => ∃ (a : Addr) (ns : List Int), vs = [.ref a] ∧ (SqL K H a (ns.map V.int)) ∧ (ns.length ≤ 63) ∧ ∀ (H' : Hp), Q (.bl true) H'
theorem use_law {K : PySem.W.Frag} {H : Hp} {Q : VK} {E : XK} {a : Addr} {ns : List Int} (p0 : SqL K H a (ns.map V.int)) (p1 : ns.length ≤ 63) (k : ∀ (H' : Hp), Q (.bl true) H') : sp_law K [.ref a] H Q E := ⟨a, ns, rfl, p0, p1, k⟩
theorem len_law {K : PySem.W.Frag} (vs : List V) (H : Hp) (Q : VK) (E : XK) (h : sp_law K vs H Q E) : vs.length = ["_law_script"].length := by
  obtain ⟨_, _, rfl, _⟩ := h
  rfl
theorem ok_law (T : Txt K mg) : FnOk P w K mg base CX0 3 T.a_law T.d_law ["_law_script"] (sp_law K) := by
  have G_l_purse := ok_l_purse (P := P) (w := w) (base := base) T
  have G_l_plan := ok_l_plan (P := P) (w := w) (base := base) T
  have G_l_number := ok_l_number (P := P) (w := w) (base := base) T
  have G_plan_number := ok_plan_number (P := P) (w := w) (base := base) T
  have G_l_draw := ok_l_draw (P := P) (w := w) (base := base) T
  have G_plan_of := ok_plan_of (P := P) (w := w) (base := base) T
  have G_l_whole := ok_l_whole (P := P) (w := w) (base := base) T
  have G_l_numbers := ok_l_numbers (P := P) (w := w) (base := base) T
  refine T.F_law.ok sc_law len_law (fun cdv A outer s H vs Q E hr h => ?_)
  refine ⟨_, (pss_cons (ps_set (i := 1) sc_law.nd rfl (Or.inl rfl) (pe_call G_l_purse (hr.mono (by decide)) (by rfl) T.g_l_purse T.F_l_purse.kp T.b_l_purse .nil pass0 (pa_cons (pv 0) pa_nil)))
      (pss_cons (ps_set (i := 2) sc_law.nd rfl (Or.inl rfl) (pe_lst pa_nil))
      (pss_cons (ps_for PassesOwn.never rfl (pi_range1 rfl T.z_range (pa_cons pe_int pa_nil)) (pg_name (i := 3) sc_law.nd rfl (Or.inl rfl)) (pss_cons (ps_set (i := 4) sc_law.nd rfl (Or.inl rfl) (pe_ix (ix_listK K rfl) (pe_lst (pa_cons (pe_call G_l_draw (hr.mono (by decide)) (by rfl) T.g_l_draw T.F_l_draw.kp T.b_l_draw .nil pass0 (pa_cons (pv 1) (pa_cons pe_int pa_nil))) (pa_cons pe_int (pa_cons (pe_call G_l_draw (hr.mono (by decide)) (by rfl) T.g_l_draw T.F_l_draw.kp T.b_l_draw .nil pass0 (pa_cons (pv 1) (pa_cons pe_int pa_nil))) pa_nil)))) (pe_call G_l_draw (hr.mono (by decide)) (by rfl) T.g_l_draw T.F_l_draw.kp T.b_l_draw .nil pass0 (pa_cons (pv 1) (pa_cons pe_int pa_nil))) (fun _ _ => rfl)))
      (pss_cons (ps_set (i := 5) sc_law.nd rfl (Or.inl rfl) (pe_call G_l_plan (hr.mono (by decide)) (by rfl) T.g_l_plan T.F_l_plan.kp T.b_l_plan .nil pass0 (pa_cons (pv 1) (pa_cons (pv 4) (pa_cons (pe_op op_add pe_int (pe_call G_l_draw (hr.mono (by decide)) (by rfl) T.g_l_draw T.F_l_draw.kp T.b_l_draw .nil pass0 (pa_cons (pv 1) (pa_cons pe_int pa_nil)))) pa_nil)))))
      (pss_cons (ps_set (i := 6) sc_law.nd rfl (Or.inl rfl) (pe_call G_l_number (hr.mono (by decide)) (by rfl) T.g_l_number T.F_l_number.kp T.b_l_number .nil pass0 (pa_cons (pv 5) pa_nil)))
      (pss_cons (ps_set (i := 7) sc_law.nd rfl (Or.inl rfl) (pe_callTy (call_listK K rfl) (by rfl) T.z_list (by decide +kernel) (pa_cons (pv 5) pa_nil)))
      (pss_cons (ps_set (i := 8) sc_law.nd rfl (Or.inl rfl) (pe_call G_plan_number (hr.mono (by decide)) (by rfl) T.g_plan_number T.F_plan_number.kp T.b_plan_number .nil pass0 (pa_cons (pv 7) pa_nil)))
      (pss_cons (ps_if (PW.pt (pw_or (pt_not (pt_val (pe_call G_l_whole (hr.mono (by decide)) (by rfl) T.g_l_whole T.F_l_whole.kp T.b_l_whole .nil pass0 (pa_cons (pv 8) pa_nil)))) (pw_or (pt_cmpR op_ne (pv 8) (pv 6) (nomark _)) (pw_or1 (pt_cmpR (op_neDK K rfl hr.units) (pv 7) (pv 5) (nomark _)))))) (pss_one (ps_ret pe_bl)) pss_nil)
      (pss_cons (ps_expr (pe_bm0 PySem.F.plainAttrs_list PySem.F.slot_list_reverse PySem.F.type_list_reverse mt_reverse (pv 7)))
      (pss_cons (ps_if (PW.pt (pw_or (pt_cmpR op_ne (pe_call G_plan_number (hr.mono (by decide)) (by rfl) T.g_plan_number T.F_plan_number.kp T.b_plan_number .nil pass0 (pa_cons (pv 7) pa_nil)) (pe_call G_l_number (hr.mono (by decide)) (by rfl) T.g_l_number T.F_l_number.kp T.b_l_number .nil pass0 (pa_cons (pe_revLK K rfl (pv 5)) pa_nil)) (nomark _)) (pw_or1 (pt_cmpR (op_neDK K rfl hr.units) (pv 7) (pe_revLK K rfl (pv 5)) (nomark _))))) (pss_one (ps_ret pe_bl)) pss_nil)
      (pss_one (ps_for PassesOwn.never rfl (pi_range1 rfl T.z_range (pa_cons pe_int pa_nil)) (pg_name (i := 9) sc_law.nd rfl (Or.inl rfl)) (pss_cons (ps_set (i := 10) sc_law.nd rfl (Or.inl rfl) (pe_call G_plan_of (hr.mono (by decide)) (by rfl) T.g_plan_of T.F_plan_of.kp T.b_plan_of .nil pass0 (pa_cons (pv 4) (pa_cons (pe_callB (call_lenK K rfl) (by rfl) T.z_len (by decide +kernel) (pa_cons (pv 5) pa_nil)) (pa_cons (pv 6) pa_nil)))))
      (pss_cons (ps_if (PW.pt (pw_or (pt_not (pt_val (pe_call G_l_numbers (hr.mono (by decide)) (by rfl) T.g_l_numbers T.F_l_numbers.kp T.b_l_numbers .nil pass0 (pa_cons (pv 10) (pa_cons (pv 5) pa_nil))))) (pw_or1 (pt_cmpR (op_neDK K rfl hr.units) (pe_lc (own := [("_law_one", 11), ("_law_kept", 12)]) rfl sc_law.nd (pi_listK K rfl (pv 2)) (blkOk_by (own := [("_law_one", 11), ("_law_kept", 12)]) (N := ["_law_script", "_law_purse_here", "_law_held", "_law_turn", "_law_hosts", "_law_plan_here", "_law_due", "_law_handed", "_law_found", "_law_again", "_law_told", "_law_one", "_law_kept"]) (sc := defScope s_law) (by decide +kernel)) (fun _ _ _ _ _ => (pg_tupK K rfl 2 rfl (pgs_cons (pg_name (i := 11) sc_law.nd rfl (Or.inl rfl)) (pgs_cons (pg_name (i := 12) sc_law.nd rfl (Or.inl rfl)) pgs_nil)))) (fun _ _ _ _ _ => (pts_one (pt_cmpR (op_neDK K rfl hr.units) (pv 11) (pv 12) (nomark _)))) (fun _ _ _ _ _ => (pv 11))) (pe_lst pa_nil) (nomark _))))) (pss_one (ps_ret pe_bl)) pss_nil)
      (pss_cons (ps_expr (pe_bm PySem.F.plainAttrs_list PySem.F.slot_list_append PySem.F.type_list_append mt_append (pv 10) (pa_cons pe_int pa_nil)))
      (pss_cons (ps_asg (pe_un un_neg pe_int) (pg_sub (pv 10) pe_int set_list))
      (pss_one (ps_expr (pe_bm PySem.F.plainAttrs_list PySem.F.slot_list_append PySem.F.type_list_append mt_append (pv 2) (pa_cons (pe_tup (pa_cons (pv 10) (pa_cons (pe_callTy (call_listK K rfl) (by rfl) T.z_list (by decide +kernel) (pa_cons (pv 10) pa_nil)) pa_nil))) pa_nil)))))))))))))))))))
      (pss_one (ps_ret pe_bl))))), ?_⟩
  try dsimp only [L2.cxOf, L2.Cx.nox, L2.Cx.wish, List.map_cons, List.map_nil]
  obtain ⟨a, ns, rfl, p0, p1, k⟩ := h
  refine start_to (σ := [some _, none, none, none, none, none, none, none, none, none, none, none, none]) rfl ?_
  walk_at "go"
  rename_i p c ms H0 h1 h2 h3 h4 h5 h6 h7 e he
  have ep : e ≠ p := by walk_at "g_ne"
  have ec : e ≠ c := by walk_at "g_ne"
  have h1' := lk_new (o := .lst []) he h1
  have h2' := lk_new (o := .lst []) he h2
  clear p0 p1
  refine forR (fun i σ H1 => ∃ (ms : List Int) (t : Int) (xs : List V) (y1 y2 y3 y4 y5 y6 y7 y8 : Option V), σ = [some (.ref a), some (.ref p), some (.ref e), y1, y2, y3, y4, y5, y6, y7, y8, none, none] ∧ H1 p = some (.lst [.ref c, .int t]) ∧ H1 c = some (.lst (ms.map V.int)) ∧ H1 e = some (.lst xs) ∧ (0 ≤ t ∧ t ≤ 40 * i) ∧ (1 ≤ ms.length ∧ ms.length ≤ 63) ∧ xs.length = 2 * i ∧ Held p c e H1 xs) ⟨ms, 0, [], _, _, _, _, _, _, _, _, rfl, h1', h2', upd_same, by omega, h6, rfl, nofun⟩ ?_ ?_
  · rintro σ1 H1 ⟨ms, t, xs, y1, y2, y3, y4, y5, y6, y7, y8, rfl, h1, h2, h3, h4⟩
    walk_at "go"
    exact k _
  · clear h1 h2 h3 h4 h5 h6 he h1' h2'
    rintro i σ1 H1 hi ⟨ms, t, xs, y1, y2, y3, y4, y5, y6, y7, y8, rfl, h1, h2, h3, h4, h5, h6, h8⟩
    walk_at "go"
    rename_i d1 m1 H2 a1 a2 a3 a4 a5 d2 m2 H3 a6 a7 a8 a9 a10 r1 a11 d3 m3 H4 a12 a13 a14 a15 a16 v a17 d m4 H5 a18 a19 a20 a21 a22 b ps m5 t5 H6 b1 b2 b3 b4 b5 b6 b7 b8 b9
    have hv : 0 ≤ v ∧ v ≤ 40 := by omega
    have e6 : H6 e = some (.lst xs) := by walk_at "g_lk"
    have q6 : Held p c e H6 xs := Held.but2 b6 (Held.but2 a22 (Held.but2 a16 (Held.same (Same.new a11) (Held.but2 a10 (Held.but2 a5 h8)))))
    have be : b ≠ e := by walk_at "g_ne"
    have g1 : 1 ≤ ps.length ∧ ps.length ≤ 8 := by
      have := b8.1
      omega
    have g2 : ps.sum ≤ 40 := by
      have := b8.2.1
      omega
    have g3 := b8.2.2
    have g4 : PlanI (v.toNat : Nat) ps.length ps := by
      refine ⟨rfl, ?_, g3⟩
      rw [b8.2.1]
      omega
    have r1 : 1 ≤ ps.reverse.length ∧ ps.reverse.length ≤ 8 := by rw [List.length_reverse]; exact g1
    have r2 : ps.reverse.sum ≤ 40 := by rw [List.sum_reverse]; exact g2
    have r3 := rev_nn g3
    have g5 : 0 ≤ rkI ps ∧ rkI ps < waysI v.toNat (ps.length : Int).toNat := ⟨rk_nn ps, by rw [Int.toNat_natCast]; exact rk_lt g4⟩
    clear a1 a2 a3 a4 a5 a6 a7 a8 a9 a10 a11 a12 a13 a14 a15 a16 a17 a18 a19 a21 a22 h1 h2 h3 h8 h5 b6 b7
    walk_at "go"
    refine ite_n (by simp) ?_
    walk_at "go"
    refine ite_n (by simp) ?_
    walk_at "go"
    refine i_rev ?_
    walk_at "go"
    refine i_rev' (by walk_at "g_sq") ?_
    intro u1 z1
    rw [← List.map_reverse]
    walk_at "go"
    rename_i H7 s7 l l7 H8 s8
    refine ite_n (by simp) ?_
    walk_at "go"
    refine i_rev ?_
    walk_at "go"
    refine i_rev' (by walk_at "g_sq") ?_
    intro u2 z2
    rw [← List.map_reverse]
    walk_at "go"
    refine ite_n (by simp) ?_
    walk_at "go"
    refine forR (fun j σ H9 => ∃ (xs' : List V) (y7 y8 : Option V), σ = [some (.ref a), some (.ref p), some (.ref e), some (.int (0 + (i : Int))), some (.int v), some (.ref b), some (.int (rkI ps)), some (.ref l), some (.int (rkI ps)), y7, y8, none, none] ∧ H9 p = some (.lst [.ref c, .int t5]) ∧ H9 c = some (.lst (m5.map V.int)) ∧ H9 e = some (.lst xs') ∧ H9 b = some (.lst (ps.map V.int)) ∧ xs'.length = 2 * i + j ∧ Held p c e H9 xs') ⟨xs, _, _, rfl, by walk_at "g_lk", by walk_at "g_lk", by walk_at "g_lk", by walk_at "g_lk", h6, Held.same (by walk_at "g_same") q6⟩ ?_ ?_
    · clear s7 l7 s8 z1 z2 b1 b2 b3 e6 q6
      rintro σ1 H9 ⟨xs', y7, y8, rfl, f1, f2, f3, f4, f5, f6⟩
      walk_at "go"
      exact ⟨m5, t5, xs', _, _, _, _, _, _, _, _, rfl, f1, f2, f3, by omega, b5, by rw [f5]; omega, f6⟩
    · clear s7 l7 s8 z1 z2 b1 b2 b3 e6 q6
      rintro j σ1 H9 hj ⟨xs', y7, y8, rfl, f1, f2, f3, f4, f5, f6⟩
      walk_at "go"
      rename_i o ps2 H10 c1 c2 c3 c4 c5
      have e7 : ps2 = ps := by
        have q2 : PlanI (v.toNat : Nat) ps.length ps2 := by
          rw [show ((v.toNat : Nat) : Int) = v by omega]
          rwa [Int.toNat_natCast] at c4
        exact rk_inj q2 g4 c5
      subst e7
      have e8 : ps2.length ≤ 100000 := by omega
      have oe : (o ≠ p ∧ o ≠ c ∧ o ≠ e) := ⟨by walk_at "g_ne", by walk_at "g_ne", by walk_at "g_ne"⟩
      have f7 : Held p c e H10 xs' := Held.same c2 f6
      walk_at "go"
      rename_i H11 c6
      intro D nD
      have f8 : Held p c e H11 xs' := Held.same c6 f7
      refine lcL_nil (xs := xs') nD (by walk_at "g_sq") ?_ ?_
      · intro i' x H2 Z Y hx hs hy
        obtain ⟨r, o', k', mm, rfl, w1, w2, w3, _⟩ := Held.same hs f8 x (List.mem_of_getElem? hx)
        walk_at "go"
        refine ite_n (by simp) ?_
        exact hy _ (by walk_at "g_same")
      · intro H2 hs hD
        have c1' : H2 o = some (.lst (ps2.map V.int)) := by walk_at "g_lk"
        have f8' : Held p c e H2 xs' := Held.same hs f8
        have f3' : H2 e = some (.lst xs') := by walk_at "g_lk"
        have f1' : H2 p = some (.lst [.ref c, .int t5]) := by walk_at "g_lk"
        have f2' : H2 c = some (.lst (m5.map V.int)) := by walk_at "g_lk"
        have f4' : H2 b = some (.lst (ps2.map V.int)) := by walk_at "g_lk"
        have ob : o ≠ b := by walk_at "g_ne"
        have sm : Same H9 H2 := (c2.trans c6).trans hs
        obtain ⟨oe1, oe2, oe3⟩ := oe
        clear c1 c2 c6 nD hs f1 f2 f3 f4 f7 f8
        walk_at "go"
        rename_i q nq k1 nk r nr
        refine ⟨xs' ++ [.ref r], _, _, rfl, by walk_at "g_lk", by walk_at "g_lk", upd_same, by walk_at "g_lk", by rw [List.length_append, List.length_singleton]; omega, Held.upd ?_⟩
        exact Held.add (o := o) (k := k1) (ms := (ps2 ++ [0]).set (Int.toNat 0) (-1)) (Held.same (by walk_at "g_same") f6) upd_same (by walk_at "g_lk") (by walk_at "g_lk") ⟨by walk_at "g_ne", by walk_at "g_ne", by walk_at "g_ne"⟩ ⟨oe1, oe2, oe3⟩ ⟨by walk_at "g_ne", by walk_at "g_ne", by walk_at "g_ne"⟩

end
theorem mk_txt {K : PySem.W.Frag} {h : Heap} {mg : Str → Option Value} {f_must_be_sizes : Addr} {o_must_be_sizes n_must_be_sizes : Option Addr} {w_must_be_sizes : Array (Option Value)} {q1_must_be_sizes q2_must_be_sizes q3_must_be_sizes q4_must_be_sizes q5_must_be_sizes q6_must_be_sizes : Value} {f_must_be_plan : Addr} {o_must_be_plan n_must_be_plan : Option Addr} {w_must_be_plan : Array (Option Value)} {q1_must_be_plan q2_must_be_plan q3_must_be_plan q4_must_be_plan q5_must_be_plan q6_must_be_plan : Value} {f_ways : Addr} {o_ways n_ways : Option Addr} {w_ways : Array (Option Value)} {q1_ways q2_ways q3_ways q4_ways q5_ways q6_ways : Value} {f_plan_number : Addr} {o_plan_number n_plan_number : Option Addr} {w_plan_number : Array (Option Value)} {q1_plan_number q2_plan_number q3_plan_number q4_plan_number q5_plan_number q6_plan_number : Value} {f_plan_of : Addr} {o_plan_of n_plan_of : Option Addr} {w_plan_of : Array (Option Value)} {q1_plan_of q2_plan_of q3_plan_of q4_plan_of q5_plan_of q6_plan_of : Value} {f_l_purse : Addr} {o_l_purse n_l_purse : Option Addr} {w_l_purse : Array (Option Value)} {q1_l_purse q2_l_purse q3_l_purse q4_l_purse q5_l_purse q6_l_purse : Value} {f_l_draw : Addr} {o_l_draw n_l_draw : Option Addr} {w_l_draw : Array (Option Value)} {q1_l_draw q2_l_draw q3_l_draw q4_l_draw q5_l_draw q6_l_draw : Value} {f_l_whole : Addr} {o_l_whole n_l_whole : Option Addr} {w_l_whole : Array (Option Value)} {q1_l_whole q2_l_whole q3_l_whole q4_l_whole q5_l_whole q6_l_whole : Value} {f_l_numbers : Addr} {o_l_numbers n_l_numbers : Option Addr} {w_l_numbers : Array (Option Value)} {q1_l_numbers q2_l_numbers q3_l_numbers q4_l_numbers q5_l_numbers q6_l_numbers : Value} {f_l_many : Addr} {o_l_many n_l_many : Option Addr} {w_l_many : Array (Option Value)} {q1_l_many q2_l_many q3_l_many q4_l_many q5_l_many q6_l_many : Value} {f_l_plan : Addr} {o_l_plan n_l_plan : Option Addr} {w_l_plan : Array (Option Value)} {q1_l_plan q2_l_plan q3_l_plan q4_l_plan q5_l_plan q6_l_plan : Value} {f_l_number : Addr} {o_l_number n_l_number : Option Addr} {w_l_number : Array (Option Value)} {q1_l_number q2_l_number q3_l_number q4_l_number q5_l_number q6_l_number : Value} {f_law : Addr} {o_law n_law : Option Addr} {w_law : Array (Option Value)} {q1_law q2_law q3_law q4_law q5_law q6_law : Value} {t_MOST_HOSTS : Tok} {t_MOST_FIELDS : Tok} (X : K.In h) (G : h.Ns mainGlobals mg)
    (a_must_be_sizes : PySem.W.nsIn K mainGlobals "must_be_sizes" = some (some (.ref f_must_be_sizes)))
    (l_must_be_sizes : K.lookup f_must_be_sizes = some ⟨q1_must_be_sizes, o_must_be_sizes, .func (PySem.W.fnOf "must_be_sizes" "must_be_sizes" (defArgs s_must_be_sizes) (defBody s_must_be_sizes) (defScope s_must_be_sizes) .none q2_must_be_sizes q3_must_be_sizes q4_must_be_sizes n_must_be_sizes q5_must_be_sizes q6_must_be_sizes), w_must_be_sizes⟩)
    (c_must_be_sizes : PySem.W.codeIn K q5_must_be_sizes "must_be_sizes" = true)
    (k_must_be_sizes : PySem.W.keepIn K (.ref f_must_be_sizes) = true)
    (a_must_be_plan : PySem.W.nsIn K mainGlobals "must_be_plan" = some (some (.ref f_must_be_plan)))
    (l_must_be_plan : K.lookup f_must_be_plan = some ⟨q1_must_be_plan, o_must_be_plan, .func (PySem.W.fnOf "must_be_plan" "must_be_plan" (defArgs s_must_be_plan) (defBody s_must_be_plan) (defScope s_must_be_plan) .none q2_must_be_plan q3_must_be_plan q4_must_be_plan n_must_be_plan q5_must_be_plan q6_must_be_plan), w_must_be_plan⟩)
    (c_must_be_plan : PySem.W.codeIn K q5_must_be_plan "must_be_plan" = true)
    (k_must_be_plan : PySem.W.keepIn K (.ref f_must_be_plan) = true)
    (a_ways : PySem.W.nsIn K mainGlobals "ways" = some (some (.ref f_ways)))
    (l_ways : K.lookup f_ways = some ⟨q1_ways, o_ways, .func (PySem.W.fnOf "ways" "ways" (defArgs s_ways) (defBody s_ways) (defScope s_ways) .none q2_ways q3_ways q4_ways n_ways q5_ways q6_ways), w_ways⟩)
    (c_ways : PySem.W.codeIn K q5_ways "ways" = true)
    (k_ways : PySem.W.keepIn K (.ref f_ways) = true)
    (a_plan_number : PySem.W.nsIn K mainGlobals "plan_number" = some (some (.ref f_plan_number)))
    (l_plan_number : K.lookup f_plan_number = some ⟨q1_plan_number, o_plan_number, .func (PySem.W.fnOf "plan_number" "plan_number" (defArgs s_plan_number) (defBody s_plan_number) (defScope s_plan_number) .none q2_plan_number q3_plan_number q4_plan_number n_plan_number q5_plan_number q6_plan_number), w_plan_number⟩)
    (c_plan_number : PySem.W.codeIn K q5_plan_number "plan_number" = true)
    (k_plan_number : PySem.W.keepIn K (.ref f_plan_number) = true)
    (a_plan_of : PySem.W.nsIn K mainGlobals "plan_of" = some (some (.ref f_plan_of)))
    (l_plan_of : K.lookup f_plan_of = some ⟨q1_plan_of, o_plan_of, .func (PySem.W.fnOf "plan_of" "plan_of" (defArgs s_plan_of) (defBody s_plan_of) (defScope s_plan_of) .none q2_plan_of q3_plan_of q4_plan_of n_plan_of q5_plan_of q6_plan_of), w_plan_of⟩)
    (c_plan_of : PySem.W.codeIn K q5_plan_of "plan_of" = true)
    (k_plan_of : PySem.W.keepIn K (.ref f_plan_of) = true)
    (a_l_purse : PySem.W.nsIn K mainGlobals "_law_purse" = some (some (.ref f_l_purse)))
    (l_l_purse : K.lookup f_l_purse = some ⟨q1_l_purse, o_l_purse, .func (PySem.W.fnOf "_law_purse" "_law_purse" (defArgs s_l_purse) (defBody s_l_purse) (defScope s_l_purse) .none q2_l_purse q3_l_purse q4_l_purse n_l_purse q5_l_purse q6_l_purse), w_l_purse⟩)
    (c_l_purse : PySem.W.codeIn K q5_l_purse "_law_purse" = true)
    (k_l_purse : PySem.W.keepIn K (.ref f_l_purse) = true)
    (a_l_draw : PySem.W.nsIn K mainGlobals "_law_draw" = some (some (.ref f_l_draw)))
    (l_l_draw : K.lookup f_l_draw = some ⟨q1_l_draw, o_l_draw, .func (PySem.W.fnOf "_law_draw" "_law_draw" (defArgs s_l_draw) (defBody s_l_draw) (defScope s_l_draw) .none q2_l_draw q3_l_draw q4_l_draw n_l_draw q5_l_draw q6_l_draw), w_l_draw⟩)
    (c_l_draw : PySem.W.codeIn K q5_l_draw "_law_draw" = true)
    (k_l_draw : PySem.W.keepIn K (.ref f_l_draw) = true)
    (a_l_whole : PySem.W.nsIn K mainGlobals "_law_whole" = some (some (.ref f_l_whole)))
    (l_l_whole : K.lookup f_l_whole = some ⟨q1_l_whole, o_l_whole, .func (PySem.W.fnOf "_law_whole" "_law_whole" (defArgs s_l_whole) (defBody s_l_whole) (defScope s_l_whole) .none q2_l_whole q3_l_whole q4_l_whole n_l_whole q5_l_whole q6_l_whole), w_l_whole⟩)
    (c_l_whole : PySem.W.codeIn K q5_l_whole "_law_whole" = true)
    (k_l_whole : PySem.W.keepIn K (.ref f_l_whole) = true)
    (a_l_numbers : PySem.W.nsIn K mainGlobals "_law_numbers" = some (some (.ref f_l_numbers)))
    (l_l_numbers : K.lookup f_l_numbers = some ⟨q1_l_numbers, o_l_numbers, .func (PySem.W.fnOf "_law_numbers" "_law_numbers" (defArgs s_l_numbers) (defBody s_l_numbers) (defScope s_l_numbers) .none q2_l_numbers q3_l_numbers q4_l_numbers n_l_numbers q5_l_numbers q6_l_numbers), w_l_numbers⟩)
    (c_l_numbers : PySem.W.codeIn K q5_l_numbers "_law_numbers" = true)
    (k_l_numbers : PySem.W.keepIn K (.ref f_l_numbers) = true)
    (a_l_many : PySem.W.nsIn K mainGlobals "_law_many" = some (some (.ref f_l_many)))
    (l_l_many : K.lookup f_l_many = some ⟨q1_l_many, o_l_many, .func (PySem.W.fnOf "_law_many" "_law_many" (defArgs s_l_many) (defBody s_l_many) (defScope s_l_many) .none q2_l_many q3_l_many q4_l_many n_l_many q5_l_many q6_l_many), w_l_many⟩)
    (c_l_many : PySem.W.codeIn K q5_l_many "_law_many" = true)
    (k_l_many : PySem.W.keepIn K (.ref f_l_many) = true)
    (a_l_plan : PySem.W.nsIn K mainGlobals "_law_plan" = some (some (.ref f_l_plan)))
    (l_l_plan : K.lookup f_l_plan = some ⟨q1_l_plan, o_l_plan, .func (PySem.W.fnOf "_law_plan" "_law_plan" (defArgs s_l_plan) (defBody s_l_plan) (defScope s_l_plan) .none q2_l_plan q3_l_plan q4_l_plan n_l_plan q5_l_plan q6_l_plan), w_l_plan⟩)
    (c_l_plan : PySem.W.codeIn K q5_l_plan "_law_plan" = true)
    (k_l_plan : PySem.W.keepIn K (.ref f_l_plan) = true)
    (a_l_number : PySem.W.nsIn K mainGlobals "_law_number" = some (some (.ref f_l_number)))
    (l_l_number : K.lookup f_l_number = some ⟨q1_l_number, o_l_number, .func (PySem.W.fnOf "_law_number" "_law_number" (defArgs s_l_number) (defBody s_l_number) (defScope s_l_number) .none q2_l_number q3_l_number q4_l_number n_l_number q5_l_number q6_l_number), w_l_number⟩)
    (c_l_number : PySem.W.codeIn K q5_l_number "_law_number" = true)
    (k_l_number : PySem.W.keepIn K (.ref f_l_number) = true)
    (a_law : PySem.W.nsIn K mainGlobals "law" = some (some (.ref f_law)))
    (l_law : K.lookup f_law = some ⟨q1_law, o_law, .func (PySem.W.fnOf "law" "law" (defArgs s_law) (defBody s_law) (defScope s_law) .none q2_law q3_law q4_law n_law q5_law q6_law), w_law⟩)
    (c_law : PySem.W.codeIn K q5_law "law" = true)
    (k_law : PySem.W.keepIn K (.ref f_law) = true)
    (z_bool : PySem.W.nsIn K mainGlobals "bool" = some none)
    (z_int : PySem.W.nsIn K mainGlobals "int" = some none)
    (z_isinstance : PySem.W.nsIn K mainGlobals "isinstance" = some none)
    (z_len : PySem.W.nsIn K mainGlobals "len" = some none)
    (z_list : PySem.W.nsIn K mainGlobals "list" = some none)
    (z_min : PySem.W.nsIn K mainGlobals "min" = some none)
    (z_range : PySem.W.nsIn K mainGlobals "range" = some none)
    (z_sum : PySem.W.nsIn K mainGlobals "sum" = some none)
    (h_MOST_HOSTS : PySem.W.nsIn K mainGlobals "MOST_HOSTS" = some (some (.int 40 t_MOST_HOSTS)))
    (h_MOST_FIELDS : PySem.W.nsIn K mainGlobals "MOST_FIELDS" = some (some (.int 8 t_MOST_FIELDS))) : ∃ T : Txt K mg, T.a_law = f_law ∧ ∀ (s : Shared) (v : Value), BindsTo s T.d_law ⟨[v], []⟩ [("_law_script", v)] :=
  ⟨{ a_must_be_sizes := f_must_be_sizes,
      d_must_be_sizes := _,
      F_must_be_sizes := fun_mk (st := s_must_be_sizes) l_must_be_sizes c_must_be_sizes k_must_be_sizes,
      g_must_be_sizes := PySem.W.mg_of X G a_must_be_sizes,
      b_must_be_sizes := (fun_mk (st := s_must_be_sizes) l_must_be_sizes c_must_be_sizes k_must_be_sizes).binds fun _ _ _ _ _ _ us hl => match us, hl with | [_, _], _ => rfl,
      a_must_be_plan := f_must_be_plan,
      d_must_be_plan := _,
      F_must_be_plan := fun_mk (st := s_must_be_plan) l_must_be_plan c_must_be_plan k_must_be_plan,
      g_must_be_plan := PySem.W.mg_of X G a_must_be_plan,
      b_must_be_plan := (fun_mk (st := s_must_be_plan) l_must_be_plan c_must_be_plan k_must_be_plan).binds fun _ _ _ _ _ _ us hl => match us, hl with | [_], _ => rfl,
      a_ways := f_ways,
      d_ways := _,
      F_ways := fun_mk (st := s_ways) l_ways c_ways k_ways,
      g_ways := PySem.W.mg_of X G a_ways,
      b_ways := (fun_mk (st := s_ways) l_ways c_ways k_ways).binds fun _ _ _ _ _ _ us hl => match us, hl with | [_, _], _ => rfl,
      a_plan_number := f_plan_number,
      d_plan_number := _,
      F_plan_number := fun_mk (st := s_plan_number) l_plan_number c_plan_number k_plan_number,
      g_plan_number := PySem.W.mg_of X G a_plan_number,
      b_plan_number := (fun_mk (st := s_plan_number) l_plan_number c_plan_number k_plan_number).binds fun _ _ _ _ _ _ us hl => match us, hl with | [_], _ => rfl,
      a_plan_of := f_plan_of,
      d_plan_of := _,
      F_plan_of := fun_mk (st := s_plan_of) l_plan_of c_plan_of k_plan_of,
      g_plan_of := PySem.W.mg_of X G a_plan_of,
      b_plan_of := (fun_mk (st := s_plan_of) l_plan_of c_plan_of k_plan_of).binds fun _ _ _ _ _ _ us hl => match us, hl with | [_, _, _], _ => rfl,
      a_l_purse := f_l_purse,
      d_l_purse := _,
      F_l_purse := fun_mk (st := s_l_purse) l_l_purse c_l_purse k_l_purse,
      g_l_purse := PySem.W.mg_of X G a_l_purse,
      b_l_purse := (fun_mk (st := s_l_purse) l_l_purse c_l_purse k_l_purse).binds fun _ _ _ _ _ _ us hl => match us, hl with | [_], _ => rfl,
      a_l_draw := f_l_draw,
      d_l_draw := _,
      F_l_draw := fun_mk (st := s_l_draw) l_l_draw c_l_draw k_l_draw,
      g_l_draw := PySem.W.mg_of X G a_l_draw,
      b_l_draw := (fun_mk (st := s_l_draw) l_l_draw c_l_draw k_l_draw).binds fun _ _ _ _ _ _ us hl => match us, hl with | [_, _], _ => rfl,
      a_l_whole := f_l_whole,
      d_l_whole := _,
      F_l_whole := fun_mk (st := s_l_whole) l_l_whole c_l_whole k_l_whole,
      g_l_whole := PySem.W.mg_of X G a_l_whole,
      b_l_whole := (fun_mk (st := s_l_whole) l_l_whole c_l_whole k_l_whole).binds fun _ _ _ _ _ _ us hl => match us, hl with | [_], _ => rfl,
      a_l_numbers := f_l_numbers,
      d_l_numbers := _,
      F_l_numbers := fun_mk (st := s_l_numbers) l_l_numbers c_l_numbers k_l_numbers,
      g_l_numbers := PySem.W.mg_of X G a_l_numbers,
      b_l_numbers := (fun_mk (st := s_l_numbers) l_l_numbers c_l_numbers k_l_numbers).binds fun _ _ _ _ _ _ us hl => match us, hl with | [_, _], _ => rfl,
      a_l_many := f_l_many,
      d_l_many := _,
      F_l_many := fun_mk (st := s_l_many) l_l_many c_l_many k_l_many,
      g_l_many := PySem.W.mg_of X G a_l_many,
      b_l_many := (fun_mk (st := s_l_many) l_l_many c_l_many k_l_many).binds fun _ _ _ _ _ _ us hl => match us, hl with | [_, _], _ => rfl,
      a_l_plan := f_l_plan,
      d_l_plan := _,
      F_l_plan := fun_mk (st := s_l_plan) l_l_plan c_l_plan k_l_plan,
      g_l_plan := PySem.W.mg_of X G a_l_plan,
      b_l_plan := (fun_mk (st := s_l_plan) l_l_plan c_l_plan k_l_plan).binds fun _ _ _ _ _ _ us hl => match us, hl with | [_, _, _], _ => rfl,
      a_l_number := f_l_number,
      d_l_number := _,
      F_l_number := fun_mk (st := s_l_number) l_l_number c_l_number k_l_number,
      g_l_number := PySem.W.mg_of X G a_l_number,
      b_l_number := (fun_mk (st := s_l_number) l_l_number c_l_number k_l_number).binds fun _ _ _ _ _ _ us hl => match us, hl with | [_], _ => rfl,
      a_law := f_law,
      d_law := _,
      F_law := fun_mk (st := s_law) l_law c_law k_law,
      g_law := PySem.W.mg_of X G a_law,
      b_law := (fun_mk (st := s_law) l_law c_law k_law).binds fun _ _ _ _ _ _ us hl => match us, hl with | [_], _ => rfl,
      z_bool := PySem.W.mg_none_of X G z_bool,
      z_int := PySem.W.mg_none_of X G z_int,
      z_isinstance := PySem.W.mg_none_of X G z_isinstance,
      z_len := PySem.W.mg_none_of X G z_len,
      z_list := PySem.W.mg_none_of X G z_list,
      z_min := PySem.W.mg_none_of X G z_min,
      z_range := PySem.W.mg_none_of X G z_range,
      z_sum := PySem.W.mg_none_of X G z_sum,
      t_MOST_HOSTS := t_MOST_HOSTS,
      c_MOST_HOSTS := PySem.W.mg_of X G h_MOST_HOSTS,
      t_MOST_FIELDS := t_MOST_FIELDS,
      c_MOST_FIELDS := PySem.W.mg_of X G h_MOST_FIELDS }, rfl, fun _ _ => .of_eq rfl⟩
theorem all_mk {P : Program} {w : World} {K : PySem.W.Frag} {h : Heap} {mg : Str → Option Value} {fa : Addr} {f_must_be_sizes : Addr} {o_must_be_sizes n_must_be_sizes : Option Addr} {w_must_be_sizes : Array (Option Value)} {q1_must_be_sizes q2_must_be_sizes q3_must_be_sizes q4_must_be_sizes q5_must_be_sizes q6_must_be_sizes : Value} {f_must_be_plan : Addr} {o_must_be_plan n_must_be_plan : Option Addr} {w_must_be_plan : Array (Option Value)} {q1_must_be_plan q2_must_be_plan q3_must_be_plan q4_must_be_plan q5_must_be_plan q6_must_be_plan : Value} {f_ways : Addr} {o_ways n_ways : Option Addr} {w_ways : Array (Option Value)} {q1_ways q2_ways q3_ways q4_ways q5_ways q6_ways : Value} {f_plan_number : Addr} {o_plan_number n_plan_number : Option Addr} {w_plan_number : Array (Option Value)} {q1_plan_number q2_plan_number q3_plan_number q4_plan_number q5_plan_number q6_plan_number : Value} {f_plan_of : Addr} {o_plan_of n_plan_of : Option Addr} {w_plan_of : Array (Option Value)} {q1_plan_of q2_plan_of q3_plan_of q4_plan_of q5_plan_of q6_plan_of : Value} {f_l_purse : Addr} {o_l_purse n_l_purse : Option Addr} {w_l_purse : Array (Option Value)} {q1_l_purse q2_l_purse q3_l_purse q4_l_purse q5_l_purse q6_l_purse : Value} {f_l_draw : Addr} {o_l_draw n_l_draw : Option Addr} {w_l_draw : Array (Option Value)} {q1_l_draw q2_l_draw q3_l_draw q4_l_draw q5_l_draw q6_l_draw : Value} {f_l_whole : Addr} {o_l_whole n_l_whole : Option Addr} {w_l_whole : Array (Option Value)} {q1_l_whole q2_l_whole q3_l_whole q4_l_whole q5_l_whole q6_l_whole : Value} {f_l_numbers : Addr} {o_l_numbers n_l_numbers : Option Addr} {w_l_numbers : Array (Option Value)} {q1_l_numbers q2_l_numbers q3_l_numbers q4_l_numbers q5_l_numbers q6_l_numbers : Value} {f_l_many : Addr} {o_l_many n_l_many : Option Addr} {w_l_many : Array (Option Value)} {q1_l_many q2_l_many q3_l_many q4_l_many q5_l_many q6_l_many : Value} {f_l_plan : Addr} {o_l_plan n_l_plan : Option Addr} {w_l_plan : Array (Option Value)} {q1_l_plan q2_l_plan q3_l_plan q4_l_plan q5_l_plan q6_l_plan : Value} {f_l_number : Addr} {o_l_number n_l_number : Option Addr} {w_l_number : Array (Option Value)} {q1_l_number q2_l_number q3_l_number q4_l_number q5_l_number q6_l_number : Value} {f_law : Addr} {o_law n_law : Option Addr} {w_law : Array (Option Value)} {q1_law q2_law q3_law q4_law q5_law q6_law : Value} {t_MOST_HOSTS : Tok} {t_MOST_FIELDS : Tok} (X : K.In h) (G : h.Ns mainGlobals mg) (hfa : mg "law" = some (.ref fa))
    (a_must_be_sizes : PySem.W.nsIn K mainGlobals "must_be_sizes" = some (some (.ref f_must_be_sizes)))
    (l_must_be_sizes : K.lookup f_must_be_sizes = some ⟨q1_must_be_sizes, o_must_be_sizes, .func (PySem.W.fnOf "must_be_sizes" "must_be_sizes" (defArgs s_must_be_sizes) (defBody s_must_be_sizes) (defScope s_must_be_sizes) .none q2_must_be_sizes q3_must_be_sizes q4_must_be_sizes n_must_be_sizes q5_must_be_sizes q6_must_be_sizes), w_must_be_sizes⟩)
    (c_must_be_sizes : PySem.W.codeIn K q5_must_be_sizes "must_be_sizes" = true)
    (k_must_be_sizes : PySem.W.keepIn K (.ref f_must_be_sizes) = true)
    (a_must_be_plan : PySem.W.nsIn K mainGlobals "must_be_plan" = some (some (.ref f_must_be_plan)))
    (l_must_be_plan : K.lookup f_must_be_plan = some ⟨q1_must_be_plan, o_must_be_plan, .func (PySem.W.fnOf "must_be_plan" "must_be_plan" (defArgs s_must_be_plan) (defBody s_must_be_plan) (defScope s_must_be_plan) .none q2_must_be_plan q3_must_be_plan q4_must_be_plan n_must_be_plan q5_must_be_plan q6_must_be_plan), w_must_be_plan⟩)
    (c_must_be_plan : PySem.W.codeIn K q5_must_be_plan "must_be_plan" = true)
    (k_must_be_plan : PySem.W.keepIn K (.ref f_must_be_plan) = true)
    (a_ways : PySem.W.nsIn K mainGlobals "ways" = some (some (.ref f_ways)))
    (l_ways : K.lookup f_ways = some ⟨q1_ways, o_ways, .func (PySem.W.fnOf "ways" "ways" (defArgs s_ways) (defBody s_ways) (defScope s_ways) .none q2_ways q3_ways q4_ways n_ways q5_ways q6_ways), w_ways⟩)
    (c_ways : PySem.W.codeIn K q5_ways "ways" = true)
    (k_ways : PySem.W.keepIn K (.ref f_ways) = true)
    (a_plan_number : PySem.W.nsIn K mainGlobals "plan_number" = some (some (.ref f_plan_number)))
    (l_plan_number : K.lookup f_plan_number = some ⟨q1_plan_number, o_plan_number, .func (PySem.W.fnOf "plan_number" "plan_number" (defArgs s_plan_number) (defBody s_plan_number) (defScope s_plan_number) .none q2_plan_number q3_plan_number q4_plan_number n_plan_number q5_plan_number q6_plan_number), w_plan_number⟩)
    (c_plan_number : PySem.W.codeIn K q5_plan_number "plan_number" = true)
    (k_plan_number : PySem.W.keepIn K (.ref f_plan_number) = true)
    (a_plan_of : PySem.W.nsIn K mainGlobals "plan_of" = some (some (.ref f_plan_of)))
    (l_plan_of : K.lookup f_plan_of = some ⟨q1_plan_of, o_plan_of, .func (PySem.W.fnOf "plan_of" "plan_of" (defArgs s_plan_of) (defBody s_plan_of) (defScope s_plan_of) .none q2_plan_of q3_plan_of q4_plan_of n_plan_of q5_plan_of q6_plan_of), w_plan_of⟩)
    (c_plan_of : PySem.W.codeIn K q5_plan_of "plan_of" = true)
    (k_plan_of : PySem.W.keepIn K (.ref f_plan_of) = true)
    (a_l_purse : PySem.W.nsIn K mainGlobals "_law_purse" = some (some (.ref f_l_purse)))
    (l_l_purse : K.lookup f_l_purse = some ⟨q1_l_purse, o_l_purse, .func (PySem.W.fnOf "_law_purse" "_law_purse" (defArgs s_l_purse) (defBody s_l_purse) (defScope s_l_purse) .none q2_l_purse q3_l_purse q4_l_purse n_l_purse q5_l_purse q6_l_purse), w_l_purse⟩)
    (c_l_purse : PySem.W.codeIn K q5_l_purse "_law_purse" = true)
    (k_l_purse : PySem.W.keepIn K (.ref f_l_purse) = true)
    (a_l_draw : PySem.W.nsIn K mainGlobals "_law_draw" = some (some (.ref f_l_draw)))
    (l_l_draw : K.lookup f_l_draw = some ⟨q1_l_draw, o_l_draw, .func (PySem.W.fnOf "_law_draw" "_law_draw" (defArgs s_l_draw) (defBody s_l_draw) (defScope s_l_draw) .none q2_l_draw q3_l_draw q4_l_draw n_l_draw q5_l_draw q6_l_draw), w_l_draw⟩)
    (c_l_draw : PySem.W.codeIn K q5_l_draw "_law_draw" = true)
    (k_l_draw : PySem.W.keepIn K (.ref f_l_draw) = true)
    (a_l_whole : PySem.W.nsIn K mainGlobals "_law_whole" = some (some (.ref f_l_whole)))
    (l_l_whole : K.lookup f_l_whole = some ⟨q1_l_whole, o_l_whole, .func (PySem.W.fnOf "_law_whole" "_law_whole" (defArgs s_l_whole) (defBody s_l_whole) (defScope s_l_whole) .none q2_l_whole q3_l_whole q4_l_whole n_l_whole q5_l_whole q6_l_whole), w_l_whole⟩)
    (c_l_whole : PySem.W.codeIn K q5_l_whole "_law_whole" = true)
    (k_l_whole : PySem.W.keepIn K (.ref f_l_whole) = true)
    (a_l_numbers : PySem.W.nsIn K mainGlobals "_law_numbers" = some (some (.ref f_l_numbers)))
    (l_l_numbers : K.lookup f_l_numbers = some ⟨q1_l_numbers, o_l_numbers, .func (PySem.W.fnOf "_law_numbers" "_law_numbers" (defArgs s_l_numbers) (defBody s_l_numbers) (defScope s_l_numbers) .none q2_l_numbers q3_l_numbers q4_l_numbers n_l_numbers q5_l_numbers q6_l_numbers), w_l_numbers⟩)
    (c_l_numbers : PySem.W.codeIn K q5_l_numbers "_law_numbers" = true)
    (k_l_numbers : PySem.W.keepIn K (.ref f_l_numbers) = true)
    (a_l_many : PySem.W.nsIn K mainGlobals "_law_many" = some (some (.ref f_l_many)))
    (l_l_many : K.lookup f_l_many = some ⟨q1_l_many, o_l_many, .func (PySem.W.fnOf "_law_many" "_law_many" (defArgs s_l_many) (defBody s_l_many) (defScope s_l_many) .none q2_l_many q3_l_many q4_l_many n_l_many q5_l_many q6_l_many), w_l_many⟩)
    (c_l_many : PySem.W.codeIn K q5_l_many "_law_many" = true)
    (k_l_many : PySem.W.keepIn K (.ref f_l_many) = true)
    (a_l_plan : PySem.W.nsIn K mainGlobals "_law_plan" = some (some (.ref f_l_plan)))
    (l_l_plan : K.lookup f_l_plan = some ⟨q1_l_plan, o_l_plan, .func (PySem.W.fnOf "_law_plan" "_law_plan" (defArgs s_l_plan) (defBody s_l_plan) (defScope s_l_plan) .none q2_l_plan q3_l_plan q4_l_plan n_l_plan q5_l_plan q6_l_plan), w_l_plan⟩)
    (c_l_plan : PySem.W.codeIn K q5_l_plan "_law_plan" = true)
    (k_l_plan : PySem.W.keepIn K (.ref f_l_plan) = true)
    (a_l_number : PySem.W.nsIn K mainGlobals "_law_number" = some (some (.ref f_l_number)))
    (l_l_number : K.lookup f_l_number = some ⟨q1_l_number, o_l_number, .func (PySem.W.fnOf "_law_number" "_law_number" (defArgs s_l_number) (defBody s_l_number) (defScope s_l_number) .none q2_l_number q3_l_number q4_l_number n_l_number q5_l_number q6_l_number), w_l_number⟩)
    (c_l_number : PySem.W.codeIn K q5_l_number "_law_number" = true)
    (k_l_number : PySem.W.keepIn K (.ref f_l_number) = true)
    (a_law : PySem.W.nsIn K mainGlobals "law" = some (some (.ref f_law)))
    (l_law : K.lookup f_law = some ⟨q1_law, o_law, .func (PySem.W.fnOf "law" "law" (defArgs s_law) (defBody s_law) (defScope s_law) .none q2_law q3_law q4_law n_law q5_law q6_law), w_law⟩)
    (c_law : PySem.W.codeIn K q5_law "law" = true)
    (k_law : PySem.W.keepIn K (.ref f_law) = true)
    (z_bool : PySem.W.nsIn K mainGlobals "bool" = some none)
    (z_int : PySem.W.nsIn K mainGlobals "int" = some none)
    (z_isinstance : PySem.W.nsIn K mainGlobals "isinstance" = some none)
    (z_len : PySem.W.nsIn K mainGlobals "len" = some none)
    (z_list : PySem.W.nsIn K mainGlobals "list" = some none)
    (z_min : PySem.W.nsIn K mainGlobals "min" = some none)
    (z_range : PySem.W.nsIn K mainGlobals "range" = some none)
    (z_sum : PySem.W.nsIn K mainGlobals "sum" = some none)
    (h_MOST_HOSTS : PySem.W.nsIn K mainGlobals "MOST_HOSTS" = some (some (.int 40 t_MOST_HOSTS)))
    (h_MOST_FIELDS : PySem.W.nsIn K mainGlobals "MOST_FIELDS" = some (some (.int 8 t_MOST_FIELDS))) : ∃ fd : FuncData, (∀ (s : Shared) (v : Value), BindsTo s fd ⟨[v], []⟩ [("_law_script", v)]) ∧ ∀ base : Heap, K.In base → base.Ns mainGlobals mg → FnOk P w K mg base CX0 3 fa fd ["_law_script"] (sp_law K) := by
  obtain ⟨T, e1, e2⟩ := mk_txt X G a_must_be_sizes l_must_be_sizes c_must_be_sizes k_must_be_sizes a_must_be_plan l_must_be_plan c_must_be_plan k_must_be_plan a_ways l_ways c_ways k_ways a_plan_number l_plan_number c_plan_number k_plan_number a_plan_of l_plan_of c_plan_of k_plan_of a_l_purse l_l_purse c_l_purse k_l_purse a_l_draw l_l_draw c_l_draw k_l_draw a_l_whole l_l_whole c_l_whole k_l_whole a_l_numbers l_l_numbers c_l_numbers k_l_numbers a_l_many l_l_many c_l_many k_l_many a_l_plan l_l_plan c_l_plan k_l_plan a_l_number l_l_number c_l_number k_l_number a_law l_law c_law k_law z_bool z_int z_isinstance z_len z_list z_min z_range z_sum h_MOST_HOSTS h_MOST_FIELDS
  have e := hfa.symm.trans (PySem.W.mg_of X G a_law)
  cases e
  exact ⟨T.d_law, e2, fun base _ _ => e1 ▸ ok_law T⟩
end K11
open PySem PySem.W PyProof.Rows
set_option maxHeartbeats 0 in
theorem PySem.Challenge.cw_hostfields_k11_plans_by_numbers_holds : PySem.Challenge.rw_hostfields_k11_plans_by_numbers.Holds := by
  w_on; o_law; k_head; (case hw => w_witness2)
  k_fill
  refine L2.walk_of (l := PySem.Challenge.rw_hostfields_k11_plans_by_numbers) (n := 63) (k := 3) (x := "_law_script") (CX := fun _ => L2.CX0) (sp := fun w => K11.sp_law _) rfl (by decide) rfl ⟨rfl, by decide, by decide⟩ (fun w h Y => PySem.W.kIn_of Y) ?F (fun _ _ a ns hl _ hS => ⟨a, ns, rfl, hS, hl, fun _ => rfl⟩) (fun _ _ _ _ _ h => h)
  case F =>
    intro w mg fa h KX G hmg
    refine' K11.all_mk KX G hmg ?a_must_be_sizes ?l_must_be_sizes ?c_must_be_sizes ?k_must_be_sizes ?a_must_be_plan ?l_must_be_plan ?c_must_be_plan ?k_must_be_plan ?a_ways ?l_ways ?c_ways ?k_ways ?a_plan_number ?l_plan_number ?c_plan_number ?k_plan_number ?a_plan_of ?l_plan_of ?c_plan_of ?k_plan_of ?a_l_purse ?l_l_purse ?c_l_purse ?k_l_purse ?a_l_draw ?l_l_draw ?c_l_draw ?k_l_draw ?a_l_whole ?l_l_whole ?c_l_whole ?k_l_whole ?a_l_numbers ?l_l_numbers ?c_l_numbers ?k_l_numbers ?a_l_many ?l_l_many ?c_l_many ?k_l_many ?a_l_plan ?l_l_plan ?c_l_plan ?k_l_plan ?a_l_number ?l_l_number ?c_l_number ?k_l_number ?a_law ?l_law ?c_law ?k_law ?z_bool ?z_int ?z_isinstance ?z_len ?z_list ?z_min ?z_range ?z_sum ?h_MOST_HOSTS ?h_MOST_FIELDS
    (case a_must_be_sizes => k_is); (case l_must_be_sizes => k_is); (case c_must_be_sizes => k_is); (case k_must_be_sizes => k_is); (case a_must_be_plan => k_is); (case l_must_be_plan => k_is); (case c_must_be_plan => k_is); (case k_must_be_plan => k_is); (case a_ways => k_is); (case l_ways => k_is); (case c_ways => k_is); (case k_ways => k_is); (case a_plan_number => k_is); (case l_plan_number => k_is); (case c_plan_number => k_is); (case k_plan_number => k_is); (case a_plan_of => k_is); (case l_plan_of => k_is); (case c_plan_of => k_is); (case k_plan_of => k_is); (case a_l_purse => k_is); (case l_l_purse => k_is); (case c_l_purse => k_is); (case k_l_purse => k_is); (case a_l_draw => k_is); (case l_l_draw => k_is); (case c_l_draw => k_is); (case k_l_draw => k_is); (case a_l_whole => k_is); (case l_l_whole => k_is); (case c_l_whole => k_is); (case k_l_whole => k_is); (case a_l_numbers => k_is); (case l_l_numbers => k_is); (case c_l_numbers => k_is); (case k_l_numbers => k_is); (case a_l_many => k_is); (case l_l_many => k_is); (case c_l_many => k_is); (case k_l_many => k_is); (case a_l_plan => k_is); (case l_l_plan => k_is); (case c_l_plan => k_is); (case k_l_plan => k_is); (case a_l_number => k_is); (case l_l_number => k_is); (case c_l_number => k_is); (case k_l_number => k_is); (case a_law => k_is); (case l_law => k_is); (case c_law => k_is); (case k_law => k_is); (case z_bool => k_is); (case z_int => k_is); (case z_isinstance => k_is); (case z_len => k_is); (case z_list => k_is); (case z_min => k_is); (case z_range => k_is); (case z_sum => k_is); (case h_MOST_HOSTS => k_is); (case h_MOST_FIELDS => k_is)

