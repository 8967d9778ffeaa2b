import PyProof.Rows.All
import Wide.All
import OpenK.AllK
import Wide.FinOn
import HandS.ForMost
import HandS.Wide
import HandS.IsInst
import HandS.TupAny
import HandS.TryOnly
import PySem.Challenge.RW_hostfields_k41_rings_of_plans
set_option Elab.async false
set_option linter.all false
set_option maxRecDepth 100000
set_option maxHeartbeats 4000000
/-! ## the engine: the readings, one step a lemma; «walk_at "go"» walks as far as it goes -/
namespace Hf
open PySem PySem.Spec PyProof.Rows L2
/-- every tracked object but the one at a is as it was -/
def But (a : Addr) (H H' : Hp) : Prop := ∀ b o, b ≠ a → H b = some o → H' b = some o
theorem But.same {a : Addr} {H H' : Hp} (e : Same H H') : But a H H' := fun b o _ h => e b o h
theorem But.refl (a : Addr) (H : Hp) : But a H H := fun _ _ _ h => h
theorem But.trans {a : Addr} {H H1 H2 : Hp} (x : But a H H1) (y : But a H1 H2) : But a H H2 := fun b o n h => y b o n (x b o n h)
theorem But.upd {a : Addr} {H H1 : Hp} {o : HO} (x : But a H H1) : But a H (upd H1 a o) := fun b u n h => by
  rw [upd_ne n]
  exact x b u n h
theorem But.new {a p : Addr} {H H1 : Hp} {o : HO} (x : But a H H1) (hp : H1 p = none) : But a H (L2.upd H1 p o) := fun b u n h => by
  have h1 := x b u n h
  rw [upd_ne (ne_of_none h1 hp)]
  exact h1
theorem But.to_same {a : Addr} {H H' : Hp} (x : But a H H') (n : H a = none) : Same H H' := fun b o h => x b o (ne_of_none h n) h
theorem Same.new {H : Hp} {p : Addr} {o : HO} (hp : H p = none) : Same H (upd H p o) := fun b u h => by
  rw [upd_ne (ne_of_none h hp)]
  exact h
theorem Same.newT {H0 H : Hp} {p : Addr} {o : HO} (e : Same H0 H) (hp : H p = none) : Same H0 (upd H p o) := e.trans (Same.new hp)
/-- a change at an object that H0 does not know -/
theorem Same.mut {H0 H : Hp} {p : Addr} {o : HO} (e : Same H0 H) (hp : H0 p = none) : Same H0 (upd H p o) := fun b u h => by
  rw [upd_ne (ne_of_none h hp)]
  exact e b u h
theorem Same.but {H0 H H1 : Hp} {p : Addr} (e : Same H0 H) (hp : H0 p = none) (x : But p H H1) : Same H0 H1 := fun b u h => x b u (ne_of_none h hp) (e b u h)
theorem Same.seqT {K : PySem.W.Frag} {H H' : Hp} {a : Addr} {xs : List V} (e : Same H H') (h : SqT K H a xs) : SqT K H' a xs := by
  rcases h with (h | ⟨o, h⟩) | h
  · exact .inl (.inl (e _ _ h))
  · exact .inl (.inr ⟨o, e _ _ h⟩)
  · exact .inr h
theorem But.seq {K : PySem.W.Frag} {H H' : Hp} {a b : Addr} {xs : List V} (e : But a H H') (n : b ≠ a) (h : SqL K H b xs) : SqL K H' b xs := by
  rcases h with (h | ⟨o, h⟩) | h
  · exact .inl (.inl (e _ _ n h))
  · exact .inl (.inr ⟨o, e _ _ n h⟩)
  · exact .inr h
theorem But.seqT {K : PySem.W.Frag} {H H' : Hp} {a b : Addr} {xs : List V} (e : But a H H') (n : b ≠ a) (h : SqT K H b xs) : SqT K H' b xs := by
  rcases h with (h | ⟨o, h⟩) | h
  · exact .inl (.inl (e _ _ n h))
  · exact .inl (.inr ⟨o, e _ _ n h⟩)
  · exact .inr h
/-- a guard: its way is barred where P is at hand -/
def Guard (_ : Prop) : Prop := True
theorem Guard.of {P : Prop} (_ : P) : Guard P := trivial
theorem lk_upd {H : Hp} {a b : Addr} {o u : HO} (n : b ≠ a) (h : H b = some u) : upd H a o b = some u := by
  rw [upd_ne n]
  exact h
theorem lk_new {H : Hp} {a b : Addr} {o u : HO} (n : H a = none) (h : H b = some u) : upd H a o b = some u := by
  rw [upd_ne (ne_of_none h n)]
  exact h
theorem lk_updG {H : Hp} {a b : Addr} {o u : HO} (_ : Guard (H a = none)) (n : b ≠ a) (h : H b = some u) : upd H a o b = some u := lk_upd n h
theorem lk_none {H H' : Hp} {a : Addr} (e : Same H H') (n : H' a = none) : H a = none := e.free n
theorem lkL_new {K : PySem.W.Frag} {H : Hp} {a b : Addr} {o : HO} {xs : List V} (n : H a = none) (h : SqL K H b xs) : SqL K (upd H a o) b xs := (Same.new n).seq h
theorem lkT_new {K : PySem.W.Frag} {H : Hp} {a b : Addr} {o : HO} {xs : List V} (n : H a = none) (h : SqT K H b xs) : SqT K (upd H a o) b xs := Same.seqT (Same.new n) h
theorem lkL_upd {K : PySem.W.Frag} {H : Hp} {a b : Addr} {o : HO} {xs : List V} (n : b ≠ a) (h : SqL K H b xs) : SqL K (upd H a o) b xs := But.seq (But.upd (But.refl a H)) n h
theorem lkT_upd {K : PySem.W.Frag} {H : Hp} {a b : Addr} {o : HO} {xs : List V} (n : b ≠ a) (h : SqT K H b xs) : SqT K (upd H a o) b xs := But.seqT (But.upd (But.refl a H)) n h
theorem lkL_updG {K : PySem.W.Frag} {H : Hp} {a b : Addr} {o : HO} {xs : List V} (_ : Guard (H a = none)) (n : b ≠ a) (h : SqL K H b xs) : SqL K (upd H a o) b xs := lkL_upd n h
theorem lkT_updG {K : PySem.W.Frag} {H : Hp} {a b : Addr} {o : HO} {xs : List V} (_ : Guard (H a = none)) (n : b ≠ a) (h : SqT K H b xs) : SqT K (upd H a o) b xs := lkT_upd n h
theorem ne_new {H : Hp} {a b : Addr} {o : HO} (n : H b = none) (h : H a = some o) : a ≠ b := ne_of_none h n
theorem ne_new' {H : Hp} {a b : Addr} {o : HO} (n : H b = none) (h : H a = some o) : b ≠ a := (ne_of_none h n).symm
theorem ne_at {α : Type} {a b : α} (h : a ≠ b) : b ≠ a := h.symm
/-! ### sizes -/
theorem sz4 {n : Nat} (h : n ≤ 1000000) : n ≤ sizeLine := Nat.le_trans h (by decide)
theorem sz4' {n : Nat} (h : n ≤ 1000000) : n < sizeLine := Nat.lt_of_le_of_lt h (by decide)
/-! ### two operators, wider -/
def CMulA (i j : Int) : Prop := CMul i j ∨ CMulW i j
theorem CMulA.ok {i j : Int} (h : CMulA i j) : IntMulOk i j := h.elim CMul.ok CMulW.ok
theorem op_mulA {X : Cx} : OpR X (binaryOp .Mult) (rI CMulA fun i j => .int (i * j)) := opI fun _ _ _ _ _ _ _ hc q => mul_int q hc.ok
def CDivA (_ j : Int) : Prop := j ≠ 0 ∧ j.natAbs.log2 < 9000
theorem op_fdivA {X : Cx} : OpR X (binaryOp .FloorDiv) (rI CDivA fun i j => .int (i.fdiv j)) := opI fun _ _ _ _ _ _ _ hc q => floordiv_int hc.1 q (.inl (PyProof.noPylong_of_log2 hc.2))
theorem mulL {i j : Int} (h : -(2 ^ 64) < i ∧ i < 2 ^ 64) : CMulA i j := .inl (.inl h)
theorem mulR {i j : Int} (h : -(2 ^ 64) < j ∧ j < 2 ^ 64) : CMulA i j := .inl (.inr h)
theorem log_lt {j : Int} {b : Nat} (h : j.natAbs < 2 ^ b) (h0 : 0 < b) (h9 : b ≤ 9000) : j.natAbs.log2 < 9000 := Nat.lt_of_lt_of_le (PySem.Flt.log2_lt_of h0 h) h9
theorem log_small {j : Int} (h : -(2 ^ 200) < j ∧ j < 2 ^ 200) : j.natAbs.log2 < 9000 := log_lt (b := 200) (by omega) (by decide) (by decide)
theorem mulW {i j : Int} {a b : Nat} (ha : i.natAbs < 2 ^ a) (hb : j.natAbs < 2 ^ b) (h0 : 0 < a) (h1 : 0 < b) (h : a + b ≤ 1000000) : CMulA i j := .inr (wide_mul ha hb h0 h1 h)
theorem divS {i j : Int} (h0 : j ≠ 0) (h : -(2 ^ 200) < j ∧ j < 2 ^ 200) : CDivA i j := ⟨h0, log_small h⟩
/-! ### the steps -/
section
variable {σ σ' : L2.St} {H : Hp} {Q : VK} {x y v : V} {i j : Int} {n : Nat} {nx bk ct : L2.St → Hp → Prop} {rt : VK} {K : PySem.W.Frag} {a p : Addr} {xs : List V}
theorem start_to {N : List Str} {vs : List V} {t : TS} {D : Ends} (e : start N vs = σ) (h : t D σ H) : t D (start N vs) H := by
  rw [e]
  exact h
theorem i_ends {t : TS} {rt : VK} (h : t ⟨fun _ H' => rt .non H', rt, fun _ _ => False, fun _ _ => False⟩ σ H) : t { nx := fun _ H' => rt .non H', rt := rt } σ H := h
theorem i_seq {t u : TS} (h : t ⟨u ⟨nx, rt, bk, ct⟩, rt, bk, ct⟩ σ H) : tSeq t u ⟨nx, rt, bk, ct⟩ σ H := h
theorem i_asg {te : TE} {g : TG} (h : te σ H fun x H1 => g x σ H1 nx) : tAsg te g ⟨nx, rt, bk, ct⟩ σ H := h
theorem i_gname {k : Nat} {Z : L2.St → Hp → Prop} (e : σ.set k (some v) = σ') (q : Z σ' H) : gName k v σ H Z := by
  subst e
  exact q
theorem i_ret {te : TE} (h : te σ H rt) : tRet te ⟨nx, rt, bk, ct⟩ σ H := h
theorem i_retN (h : rt .non H) : tRetN ⟨nx, rt, bk, ct⟩ σ H := h
theorem i_next (h : nx σ H) : tNext ⟨nx, rt, bk, ct⟩ σ H := h
theorem i_brk (h : bk σ H) : tBreak ⟨nx, rt, bk, ct⟩ σ H := h
theorem i_cnt (h : ct σ H) : tCont ⟨nx, rt, bk, ct⟩ σ H := h
theorem i_drop {te : TE} (h : te σ H fun _ H1 => nx σ H1) : tDrop te ⟨nx, rt, bk, ct⟩ σ H := h
theorem i_ifs {c : TT} {t u : TS} (h : c σ H fun b H1 => if b = true then t ⟨nx, rt, bk, ct⟩ σ H1 else u ⟨nx, rt, bk, ct⟩ σ H1) : tIfS c t u ⟨nx, rt, bk, ct⟩ σ H := h
theorem i_var {k : Nat} (h : σ[k]? = some (some v)) (q : Q v H) : tVar k σ H Q := ⟨v, h, q⟩
theorem i_c (q : Q v H) : tC v σ H Q := q
theorem i_op {r : R2} {ta tb : TE} (h : ta σ H fun x H1 => tb σ H1 fun y H2 => r x y H2 Q) : tOp r ta tb σ H Q := h
theorem i_un {r : V → Hp → VK → Prop} {ta : TE} (h : ta σ H fun x H1 => r x H1 Q) : tUn r ta σ H Q := h
theorem i_I0 {g : Int → Int → V} (q : Q (g i j) H) : rI0 g (.int i) (.int j) H Q := ⟨i, j, rfl, rfl, q⟩
theorem i_I {C : Int → Int → Prop} {g : Int → Int → V} (c : C i j) (q : Q (g i j) H) : rI C g (.int i) (.int j) H Q := ⟨i, j, rfl, rfl, c, q⟩
theorem i_pow {m : Int} (c : CPow i j) (e : i ^ j.toNat = m) (q : Q (.int m) H) : rI CPow (fun i j => .int (i ^ j.toNat)) (.int i) (.int j) H Q := ⟨i, j, rfl, rfl, c, by
  show Q (.int (i ^ j.toNat)) H
  rw [e]
  exact q⟩
theorem i_U {g : Int → V} (q : Q (g i) H) : rU g (.int i) H Q := ⟨i, rfl, q⟩
theorem i_eqI (q : Q (.bl (decide (i = j))) H) : rEq (.int i) (.int j) H Q := ⟨rfl, by
  have e : decide (V.int i = V.int j) = decide (i = j) := by
    by_cases h : i = j
    · rw [decide_eq_true h, decide_eq_true (congrArg V.int h)]
    · rw [decide_eq_false h, decide_eq_false fun z => h (V.int.inj z)]
  rw [e]
  exact q⟩
theorem i_neI (q : Q (.bl (!decide (i = j))) H) : rNe (.int i) (.int j) H Q := ⟨rfl, by
  have e : decide (V.int i = V.int j) = decide (i = j) := by
    by_cases h : i = j
    · rw [decide_eq_true h, decide_eq_true (congrArg V.int h)]
    · rw [decide_eq_false h, decide_eq_false fun z => h (V.int.inj z)]
  rw [e]
  exact q⟩
theorem i_eqB {c d : Bool} (q : Q (.bl (c == d)) H) : rEq (.bl c) (.bl d) H Q := ⟨rfl, by
  rw [dec_bl]
  exact q⟩
theorem i_neB {c d : Bool} (q : Q (.bl (!(c == d))) H) : rNe (.bl c) (.bl d) H Q := ⟨rfl, by
  rw [dec_bl]
  exact q⟩
theorem i_eqS {c d : Str} (q : Q (.bl (c == d)) H) : rEq (.str c) (.str d) H Q := ⟨rfl, by
  rw [dec_str]
  exact q⟩
theorem i_neS {c d : Str} (q : Q (.bl (!(c == d))) H) : rNe (.str c) (.str d) H Q := ⟨rfl, by
  rw [dec_str]
  exact q⟩
theorem i_test {te : TE} {P : Bool → Hp → Prop} (h : te σ H fun x H1 => ∃ k, x = .bl k ∧ P k H1) : tTest te σ H P := h
theorem i_B {te : TE} {P : Bool → Hp → Prop} (h : te σ H fun x H1 => ∃ k, x = .bl k ∧ P k H1) : tB te σ H P := h
theorem i_bl {b : Bool} {P : Bool → Prop} (q : P b) : ∃ k, V.bl b = .bl k ∧ P k := ⟨b, rfl, q⟩
theorem i_and {t u : TT} {P : Bool → Hp → Prop} (h : t σ H fun c H1 => if c = true then u σ H1 P else P false H1) : tAnd t u σ H P := h
theorem i_or {t u : TT} {P : Bool → Hp → Prop} (h : t σ H fun c H1 => if c = true then P true H1 else u σ H1 P) : tOr t u σ H P := h
theorem i_not {t : TT} {P : Bool → Hp → Prop} (h : t σ H fun c H1 => P (!c) H1) : tNot t σ H P := h
theorem i_andV {ta tb : TE} (h : ta σ H fun x H1 => ∃ c, x = .bl c ∧ if c = true then tb σ H1 Q else Q (.bl false) H1) : tAndV ta tb σ H Q := h
theorem i_orV {ta tb : TE} (h : ta σ H fun x H1 => ∃ c, x = .bl c ∧ if c = true then Q (.bl true) H1 else tb σ H1 Q) : tOrV ta tb σ H Q := h
theorem i_notV {ta : TE} (h : ta σ H fun x H1 => ∃ c, x = .bl c ∧ Q (.bl (!c)) H1) : tNotV ta σ H Q := h
theorem i_ife {t : TT} {ta tb : TE} (h : t σ H fun c H1 => if c = true then ta σ H1 Q else tb σ H1 Q) : tIf t ta tb σ H Q := h
theorem i_call {sp : Sp} {E : XK} {t : TA} (h : t σ H fun vs H1 => sp vs H1 Q E) : tCall sp [] E t σ H Q := by
  have e : (fun vs H1 => sp (vs ++ []) H1 Q E) = fun vs H1 => sp vs H1 Q E := by
    funext vs H1
    rw [List.append_nil]
  show t σ H (fun vs H1 => sp (vs ++ []) H1 Q E)
  rw [e]
  exact h
theorem i_cb {r : List V → Hp → VK → Prop} {t : TA} (h : t σ H fun vs H1 => r vs H1 Q) : tCB r t σ H Q := h
theorem i_nil {P : List V → Hp → Prop} (q : P [] H) : tNil σ H P := q
theorem i_cons {ta : TE} {tr : TA} {P : List V → Hp → Prop} (h : ta σ H fun x H1 => tr σ H1 fun xs H2 => P (x :: xs) H2) : tCons ta tr σ H P := h
theorem i_tup {t : TA} (h : t σ H fun xs H1 => xs.length ≤ sizeLine ∧ ∀ p, H1 p = none → Q (.ref p) (upd H1 p (.tup xs))) : tTup t σ H Q := h
theorem i_lst {t : TA} (h : t σ H fun xs H1 => xs.length ≤ sizeLine ∧ ∀ p, H1 p = none → Q (.ref p) (upd H1 p (.lst xs))) : tLst t σ H Q := h
theorem i_new {R : Addr → Prop} (hz : xs.length ≤ sizeLine) (q : ∀ p, H p = none → R p) : xs.length ≤ sizeLine ∧ ∀ p, H p = none → R p := ⟨hz, q⟩
theorem i_ixL (h : SqL K H p xs) (e : atI xs i = some v) (q : Q v H) : rIxL K (.ref p) (.int i) H Q := ⟨p, xs, i, v, rfl, rfl, h, e, q⟩
theorem i_ixT (h : SqT K H p xs) (e : atI xs i = some v) (q : Q v H) : rIxT K (.ref p) (.int i) H Q := ⟨p, xs, i, v, rfl, rfl, h, e, q⟩
theorem at_lt {α : Type} {xs : List α} {i : Int} (h0 : 0 ≤ i) (h1 : i < xs.length) : ∃ v, atI xs i = some v ∧ xs[i.toNat]? = some v := by
  have hk : i.toNat < xs.length := by omega
  refine ⟨xs[i.toNat], ?_, List.getElem?_eq_getElem hk⟩
  have e := atI_nat (xs := xs) (j := i.toNat) (v := xs[i.toNat]) (List.getElem?_eq_getElem hk)
  rw [Int.toNat_of_nonneg h0] at e
  exact e
/-- an item at an open place: one of those written -/
theorem i_ix2 {y1 y2 : V} (h : SqL K H p [y1, y2]) (h0 : 0 ≤ i) (h1 : i < 2) (q : ∀ v, v = y1 ∨ v = y2 → Q v H) : rIxL K (.ref p) (.int i) H Q := by
  rcases (by omega : i = 0 ∨ i = 1) with e | e <;> subst e
  · exact ⟨p, _, _, y1, rfl, rfl, h, rfl, q _ (.inl rfl)⟩
  · exact ⟨p, _, _, y2, rfl, rfl, h, rfl, q _ (.inr rfl)⟩
theorem i_ix2I {y1 y2 : Int} (h : SqL K H p [.int y1, .int y2]) (h0 : 0 ≤ i) (h1 : i < 2) (q : ∀ v, v = y1 ∨ v = y2 → Q (.int v) H) : rIxL K (.ref p) (.int i) H Q := by
  rcases (by omega : i = 0 ∨ i = 1) with e | e <;> subst e
  · exact ⟨p, _, _, .int y1, rfl, rfl, h, rfl, q _ (.inl rfl)⟩
  · exact ⟨p, _, _, .int y2, rfl, rfl, h, rfl, q _ (.inr rfl)⟩
theorem i_ix3I {y1 y2 y3 : Int} (h : SqL K H p [.int y1, .int y2, .int y3]) (h0 : 0 ≤ i) (h1 : i < 3) (q : ∀ v, v = y1 ∨ v = y2 ∨ v = y3 → Q (.int v) H) : rIxL K (.ref p) (.int i) H Q := by
  rcases (by omega : i = 0 ∨ i = 1 ∨ i = 2) with e | e | e <;> subst e
  · exact ⟨p, _, _, .int y1, rfl, rfl, h, rfl, q _ (.inl rfl)⟩
  · exact ⟨p, _, _, .int y2, rfl, rfl, h, rfl, q _ (.inr (.inl rfl))⟩
  · exact ⟨p, _, _, .int y3, rfl, rfl, h, rfl, q _ (.inr (.inr rfl))⟩
theorem i_ix4I {y1 y2 y3 y4 : Int} (h : SqL K H p [.int y1, .int y2, .int y3, .int y4]) (h0 : 0 ≤ i) (h1 : i < 4) (q : ∀ v, v = y1 ∨ v = y2 ∨ v = y3 ∨ v = y4 → Q (.int v) H) : rIxL K (.ref p) (.int i) H Q := by
  rcases (by omega : i = 0 ∨ i = 1 ∨ i = 2 ∨ i = 3) with e | e | e | e <;> subst e
  · exact ⟨p, _, _, .int y1, rfl, rfl, h, rfl, q _ (.inl rfl)⟩
  · exact ⟨p, _, _, .int y2, rfl, rfl, h, rfl, q _ (.inr (.inl rfl))⟩
  · exact ⟨p, _, _, .int y3, rfl, rfl, h, rfl, q _ (.inr (.inr (.inl rfl)))⟩
  · exact ⟨p, _, _, .int y4, rfl, rfl, h, rfl, q _ (.inr (.inr (.inr rfl)))⟩
theorem i_ix3R {y1 y2 y3 : Addr} (h : SqL K H p [.ref y1, .ref y2, .ref y3]) (h0 : 0 ≤ i) (h1 : i < 3) (q : ∀ v, v = y1 ∨ v = y2 ∨ v = y3 → Q (.ref v) H) : rIxL K (.ref p) (.int i) H Q := by
  rcases (by omega : i = 0 ∨ i = 1 ∨ i = 2) with e | e | e <;> subst e
  · exact ⟨p, _, _, .ref y1, rfl, rfl, h, rfl, q _ (.inl rfl)⟩
  · exact ⟨p, _, _, .ref y2, rfl, rfl, h, rfl, q _ (.inr (.inl rfl))⟩
  · exact ⟨p, _, _, .ref y3, rfl, rfl, h, rfl, q _ (.inr (.inr rfl))⟩
theorem i_ix4R {y1 y2 y3 y4 : Addr} (h : SqL K H p [.ref y1, .ref y2, .ref y3, .ref y4]) (h0 : 0 ≤ i) (h1 : i < 4) (q : ∀ v, v = y1 ∨ v = y2 ∨ v = y3 ∨ v = y4 → Q (.ref v) H) : rIxL K (.ref p) (.int i) H Q := by
  rcases (by omega : i = 0 ∨ i = 1 ∨ i = 2 ∨ i = 3) with e | e | e | e <;> subst e
  · exact ⟨p, _, _, .ref y1, rfl, rfl, h, rfl, q _ (.inl rfl)⟩
  · exact ⟨p, _, _, .ref y2, rfl, rfl, h, rfl, q _ (.inr (.inl rfl))⟩
  · exact ⟨p, _, _, .ref y3, rfl, rfl, h, rfl, q _ (.inr (.inr (.inl rfl)))⟩
  · exact ⟨p, _, _, .ref y4, rfl, rfl, h, rfl, q _ (.inr (.inr (.inr rfl)))⟩
theorem i_gtup {m : Nat} {t : TGs} {Z : L2.St → Hp → Prop} (h : SqT K H p xs) (e : xs.length = m) (q : t xs σ H Z) : gTup K m t (.ref p) σ H Z := ⟨p, xs, rfl, h, e, q⟩
theorem i_gtupL {m : Nat} {t : TGs} {Z : L2.St → Hp → Prop} (h : SqT K H p xs) (e : xs.length = m) (q : t xs σ H Z) : gTup K m t (.ref p) σ H Z := ⟨p, xs, rfl, h, e, q⟩
theorem i_gcons {t : TG} {u : TGs} {r : List V} {Z : L2.St → Hp → Prop} (h : t v σ H fun σ1 H1 => u r σ1 H1 Z) : gCons t u (v :: r) σ H Z := ⟨v, r, rfl, h⟩
theorem i_gnil {Z : L2.St → Hp → Prop} (h : Z σ H) : gNil [] σ H Z := ⟨rfl, h⟩
theorem i_gsub {to ti : TE} {t : TSet} {Z : L2.St → Hp → Prop} (h : to σ H fun o H1 => ti σ H1 fun i H2 => t o i v H2 fun H3 => Z σ H3) : gSub to ti t v σ H Z := h
theorem i_setL {k : Nat} {Z : Hp → Prop} (h : H p = some (.lst xs)) (e : ixN xs.length i = some k) (q : Z (upd H p (.lst (xs.set k v)))) : rSetL (.ref p) (.int i) v H Z := ⟨p, xs, i, k, rfl, rfl, h, e, q⟩
def par2 (k1 k2 : Nat) (σ : L2.St) (Z : L2.St → Hp → Prop) : List V → Hp → Prop := fun vs H1 => ∃ v w, vs = [v, w] ∧ Z ((σ.set k1 (some v)).set k2 (some w)) H1
theorem i_par {k1 k2 : Nat} {ta : TA} (h : ta σ H (par2 k1 k2 σ nx)) : tPar k1 k2 ta ⟨nx, rt, bk, ct⟩ σ H := h
theorem i_par2 {k1 k2 : Nat} {w : V} {Z : L2.St → Hp → Prop} (e : (σ.set k1 (some v)).set k2 (some w) = σ') (q : Z σ' H) : par2 k1 k2 σ Z [v, w] H := by
  subst e
  exact ⟨v, w, rfl, q⟩
theorem i_aug {k : Nat} {te : TE} {ti : TIp} (h : σ[k]? = some (some x)) (q : te σ H fun y H1 => ti x y H1 fun z H2 => gName k z σ H2 nx) : tAug k te ti ⟨nx, rt, bk, ct⟩ σ H := ⟨x, h, q⟩
theorem i_ip {f : Int → Int → Int} (q : Q (.int (f i j)) H) : ipI f (.int i) (.int j) H Q := ⟨i, j, rfl, rfl, q⟩
theorem i_for {wi : TI} {g : TG} {tb : TS} (h : wi σ H fun J H1 => ∃ W : Nat → Nat → L2.St → Hp → Prop, (∃ m, W 0 m σ H1) ∧ ∀ i m σ H, W i m σ H →
  (J.stop i H ∧ nx σ H) ∨ (J.go i H ∧ ∃ N : L2.St → Hp → Prop, (∀ σ' H', N σ' H' → ∃ m', m' < m ∧ W (i + 1) m' σ' H') ∧ ∀ x H', J.yld i H x H' → g x σ H' fun σ2 H2 => tb ⟨N, rt, nx, N⟩ σ2 H2)) : tFor wi g tb ⟨nx, rt, bk, ct⟩ σ H := h
theorem i_rng1 {ta : TA} {R : It → Hp → Prop} (h : ta σ H fun vs H1 => ∃ j : Int, vs = [.int j] ∧ -(2 ^ 62) ≤ j ∧ j < 2 ^ 62 ∧ R (Itr 0 j.toNat) H1) : iRng1 ta σ H R := h
theorem i_rng1' {R : Int → Prop} (h1 : -(2 ^ 62) ≤ j) (h2 : j < 2 ^ 62) (q : R j) : ∃ j' : Int, [V.int j] = [.int j'] ∧ -(2 ^ 62) ≤ j' ∧ j' < 2 ^ 62 ∧ R j' := ⟨j, rfl, h1, h2, q⟩
theorem i_rng2 {ta : TA} {R : It → Hp → Prop} (h : ta σ H fun vs H1 => ∃ i j : Int, vs = [.int i, .int j] ∧ (-(2 ^ 62) ≤ i ∧ i < 2 ^ 62 ∧ -(2 ^ 62) ≤ j ∧ j < 2 ^ 62) ∧ R (Itr i (j - i).toNat) H1) : iRng2 ta σ H R := h
theorem i_rng2' {R : Int → Int → Prop} (h : -(2 ^ 62) ≤ i ∧ i < 2 ^ 62 ∧ -(2 ^ 62) ≤ j ∧ j < 2 ^ 62) (q : R i j) : ∃ i' j' : Int, [V.int i, V.int j] = [.int i', .int j'] ∧ (-(2 ^ 62) ≤ i' ∧ i' < 2 ^ 62 ∧ -(2 ^ 62) ≤ j' ∧ j' < 2 ^ 62) ∧ R i' j' := ⟨i, j, rfl, h, q⟩
theorem i_ilist {tl : TE} {R : It → Hp → Prop} (h : tl σ H fun x H1 => ∃ a, x = .ref a ∧ (∃ xs, SqL K H1 a xs) ∧ R (Itl K a) H1) : iList K tl σ H R := h
theorem i_ilist' {R : Addr → Prop} (h : SqL K H p xs) (q : R p) : ∃ a, V.ref p = .ref a ∧ (∃ xs, SqL K H a xs) ∧ R a := ⟨p, rfl, ⟨xs, h⟩, q⟩
theorem i_itup {tl : TE} {R : It → Hp → Prop} (h : tl σ H fun x H1 => ∃ a, x = .ref a ∧ (∃ xs, SqT K H1 a xs) ∧ R (Itt K a) H1) : iTup K tl σ H R := h
theorem i_itup' {R : Addr → Prop} (h : SqT K H p xs) (q : R p) : ∃ a, V.ref p = .ref a ∧ (∃ xs, SqT K H a xs) ∧ R a := ⟨p, rfl, ⟨xs, h⟩, q⟩
/-- built-ins by values -/
theorem i_abs {R : Int → Prop} (q : R i) : ∃ i', [V.int i] = [.int i'] ∧ R i' := ⟨i, rfl, q⟩
theorem i_int2 {R : Int → Int → Prop} (q : R i j) : ∃ i' j', [V.int i, V.int j] = [.int i', .int j'] ∧ R i' j' := ⟨i, j, rfl, q⟩

theorem i_int1 {R : Int → Prop} {S : Prop} (q : R i) : (∃ i', [V.int i] = [.int i'] ∧ R i') ∨ S := .inl ⟨i, rfl, q⟩
theorem i_intb {b : Bool} {R : Bool → Prop} {S : Prop} (q : R b) : S ∨ ∃ k, [V.bl b] = [.bl k] ∧ R k := .inr ⟨b, rfl, q⟩
theorem i_lenL {R : List V → Prop} (h : SqL K H p xs) (q : R xs) : ∃ p' ys, [V.ref p] = [.ref p'] ∧ (SqL K H p' ys ∨ SqT K H p' ys) ∧ R ys := ⟨p, xs, rfl, .inl h, q⟩
theorem i_lenT {R : List V → Prop} (h : SqT K H p xs) (q : R xs) : ∃ p' ys, [V.ref p] = [.ref p'] ∧ (SqL K H p' ys ∨ SqT K H p' ys) ∧ R ys := ⟨p, xs, rfl, .inr h, q⟩
theorem i_isi {t : String} {c : String} {b : Bool} (ty : TyX K H x (.type t)) (h : kitB t c = some b) (q : Q (.bl b) H) : rIsi K [x, .ty c] H Q := ⟨x, .ty c, .type t, .type c, b, rfl, .ty c, ty, kit_ty h, q⟩
theorem i_append (h : H p = some (.lst xs)) (hz : xs.length < sizeLine) (q : Q .non (upd H p (.lst (xs ++ [v])))) : rAppend (.ref p) [v] H Q := ⟨p, xs, v, rfl, rfl, h, hz, q⟩
theorem i_appendM {H : Hp} {Q : VK} {p : Addr} {ms : List Int} {z : Int} (h : H p = some (.lst (ms.map V.int))) (hz : ms.length < sizeLine) (q : Q .non (upd H p (.lst ((ms ++ [z]).map V.int)))) : rAppend (.ref p) [.int z] H Q := ⟨p, _, _, rfl, rfl, h, by rw [List.length_map]; exact hz, by rw [List.map_append] at q; exact q⟩
theorem i_bm {T : String} {r : V → List V → Hp → VK → Prop} {to : TE} {t : TA} (h : to σ H fun x H1 => tyV K T x H1 ∧ t σ H1 fun xs H2 => r x xs H2 Q) : tBM K T r to t σ H Q := h
theorem i_bm0 {T : String} {r : V → List V → Hp → VK → Prop} {to : TE} (h : to σ H fun x H1 => tyV K T x H1 ∧ r x [] H1 Q) : tBM0 K T r to σ H Q := h
theorem i_bmL {A : Prop} (h : SqL K H p xs) (q : A) : tyV K "list" (.ref p) H ∧ A := ⟨.inl ⟨rfl, _, h⟩, q⟩
/-! ### ifs -/
theorem ite_d {p A B : Prop} {d : Decidable p} (h1 : p → A) (h2 : ¬ p → B) : if (@decide p d) = true then A else B := by
  by_cases h : p
  · rw [if_pos (decide_eq_true h)]
    exact h1 h
  · rw [if_neg (by rw [decide_eq_false h]; decide)]
    exact h2 h
theorem ite_nd {p A B : Prop} {d : Decidable p} (h1 : ¬ p → A) (h2 : p → B) : if (!(@decide p d)) = true then A else B := by
  by_cases h : p
  · rw [if_neg (by rw [decide_eq_true h]; decide)]
    exact h2 h
  · rw [if_pos (by rw [decide_eq_false h]; decide)]
    exact h1 h
theorem ite_b {b : Bool} {A B : Prop} (h1 : b = true → A) (h2 : b = false → B) : if b = true then A else B := by
  cases b
  · rw [if_neg (by decide)]
    exact h2 rfl
  · rw [if_pos rfl]
    exact h1 rfl
theorem ite_y {b : Bool} {A B : Prop} (e : b = true) (h : A) : if b = true then A else B := by
  rw [if_pos e]
  exact h
theorem ite_n {b : Bool} {A B : Prop} (e : b = false) (h : B) : if b = true then A else B := by
  rw [if_neg (by rw [e]; decide)]
  exact h
/-- both ways at once: what follows is asked of either -/
theorem ite_or {b : Bool} {R : Prop} {P : Bool → Prop} (h1 : b = true → P true → R) (h2 : b = false → P false → R) (hp : P b) : R := by
  cases b
  · exact h2 rfl hp
  · exact h1 rfl hp
end
end Hf
namespace Hf
open PySem PySem.Spec PyProof.Rows L2
theorem set_z {α : Type} {x y : α} {r : List α} : List.set (x :: r) 0 y = y :: r := rfl
theorem set_s {α : Type} {x y : α} {r r' : List α} {k : Nat} (h : List.set r k y = r') : List.set (x :: r) (k + 1) y = x :: r' := by
  rw [List.set_cons_succ, h]
theorem set_par {α : Type} {l l1 l2 : List α} {j k : Nat} {y z : α} (h1 : l.set j y = l1) (h2 : l1.set k z = l2) : (l.set j y).set k z = l2 := by
  rw [h1, h2]
theorem lk_same {H H' : Hp} {a : Addr} {o : HO} (e : Same H H') (h : H a = some o) : H' a = some o := e a o h
theorem lk_but {H H' : Hp} {a b : Addr} {o : HO} (e : But a H H') (n : b ≠ a) (h : H b = some o) : H' b = some o := e b o n h
end Hf

namespace Hf
open PySem PySem.Spec PyProof.Rows L2
/-! ### loops -/
section
variable {σ : L2.St} {H : Hp} {Q : VK} {nx bk ct : L2.St → Hp → Prop} {rt : VK} {K : PySem.W.Frag} {a : Addr} {xs : List V} {g : TG} {tb : TS} {lo : Int} {n : Nat}
theorem forR (Pv : Nat → L2.St → Hp → Prop) (h0 : Pv 0 σ H) (hd : ∀ σ H, Pv n σ H → nx σ H)
    (hs : ∀ (i : Nat) σ H, i < n → Pv i σ H → g (.int (lo + i)) σ H fun σ2 H2 => tb ⟨Pv (i + 1), rt, nx, Pv (i + 1)⟩ σ2 H2) :
    ∃ W : Nat → Nat → L2.St → Hp → Prop, (∃ m, W 0 m σ H) ∧ ∀ i m σ H, W i m σ H →
      ((Itr lo n).stop i H ∧ nx σ H) ∨ ((Itr lo n).go i H ∧ ∃ N : L2.St → Hp → Prop, (∀ σ' H', N σ' H' → ∃ m', m' < m ∧ W (i + 1) m' σ' H') ∧ ∀ x H', (Itr lo n).yld i H x H' → g x σ H' fun σ2 H2 => tb ⟨N, rt, nx, N⟩ σ2 H2) :=
  for_range (D := ⟨nx, rt, fun _ _ => False, fun _ _ => False⟩) Pv h0 hs hd
theorem forL (Pv : Nat → L2.St → Hp → Prop) (h0 : Pv 0 σ H) (hl : ∀ i σ H, i ≤ xs.length → Pv i σ H → SqL K H a xs) (hd : ∀ σ H, Pv xs.length σ H → nx σ H)
    (hs : ∀ i x σ H, xs[i]? = some x → Pv i σ H → g x σ H fun σ2 H2 => tb ⟨Pv (i + 1), rt, nx, Pv (i + 1)⟩ σ2 H2) :
    ∃ W : Nat → Nat → L2.St → Hp → Prop, (∃ m, W 0 m σ H) ∧ ∀ i m σ H, W i m σ H →
      ((Itl K a).stop i H ∧ nx σ H) ∨ ((Itl K a).go i H ∧ ∃ N : L2.St → Hp → Prop, (∀ σ' H', N σ' H' → ∃ m', m' < m ∧ W (i + 1) m' σ' H') ∧ ∀ x H', (Itl K a).yld i H x H' → g x σ H' fun σ2 H2 => tb ⟨N, rt, nx, N⟩ σ2 H2) :=
  for_list (D := ⟨nx, rt, fun _ _ => False, fun _ _ => False⟩) Pv h0 hl hs hd
theorem forT (Pv : Nat → L2.St → Hp → Prop) (h0 : Pv 0 σ H) (hl : ∀ i σ H, i ≤ xs.length → Pv i σ H → SqT K H a xs) (hd : ∀ σ H, Pv xs.length σ H → nx σ H)
    (hs : ∀ i x σ H, xs[i]? = some x → Pv i σ H → g x σ H fun σ2 H2 => tb ⟨Pv (i + 1), rt, nx, Pv (i + 1)⟩ σ2 H2) :
    ∃ W : Nat → Nat → L2.St → Hp → Prop, (∃ m, W 0 m σ H) ∧ ∀ i m σ H, W i m σ H →
      ((Itt K a).stop i H ∧ nx σ H) ∨ ((Itt K a).go i H ∧ ∃ N : L2.St → Hp → Prop, (∀ σ' H', N σ' H' → ∃ m', m' < m ∧ W (i + 1) m' σ' H') ∧ ∀ x H', (Itt K a).yld i H x H' → g x σ H' fun σ2 H2 => tb ⟨N, rt, nx, N⟩ σ2 H2) :=
  for_tup (D := ⟨nx, rt, fun _ _ => False, fun _ _ => False⟩) Pv h0 hl hs hd
/-- while: W by a measure; the test is read by hand, its two ways by turnW and the loop's end -/
theorem whileW {c : TT} (W : Nat → L2.St → Hp → Prop) (m : Nat) (h0 : W m σ H)
    (hs : ∀ m σ H, W m σ H → c σ H fun b H1 => if b = true then ∃ N : L2.St → Hp → Prop, (∀ σ' H', N σ' H' → ∃ m', m' < m ∧ W m' σ' H') ∧ tb ⟨N, rt, nx, N⟩ σ H1 else nx σ H1) : tWhile c tb ⟨nx, rt, bk, ct⟩ σ H :=
  ⟨W, ⟨m, h0⟩, hs⟩
theorem turnW {W : Nat → L2.St → Hp → Prop} {m : Nat} (h : tb ⟨fun σ' H' => ∃ m', m' < m ∧ W m' σ' H', rt, nx, fun σ' H' => ∃ m', m' < m ∧ W m' σ' H'⟩ σ H) :
    ∃ N : L2.St → Hp → Prop, (∀ σ' H', N σ' H' → ∃ m', m' < m ∧ W m' σ' H') ∧ tb ⟨N, rt, nx, N⟩ σ H := ⟨_, fun _ _ h => h, h⟩
end
theorem But.free {a p : Addr} {o : HO} {H H' : Hp} (hn : H' p = none) (e : But a H H') (ha : H' a = some o) : H p = none := by
  cases h : H p with
  | none => rfl
  | some u =>
    by_cases hp : p = a
    · rw [hp, ha] at hn
      cases hn
    · rw [e p u hp h] at hn
      cases hn
theorem Same.free' {p : Addr} {H H' : Hp} (hn : H' p = none) (e : Same H H') : H p = none := e.free hn
theorem But.newT {a p : Addr} {H H1 : Hp} {o : HO} (hp : H1 p = none) (x : But a H H1) : But a H (L2.upd H1 p o) := But.new x hp
theorem But.transT {a : Addr} {H H1 H2 : Hp} (y : But a H1 H2) (x : But a H H1) : But a H H2 := But.trans x y
theorem Same.transT {H H1 H2 : Hp} (y : Same H1 H2) (x : Same H H1) : Same H H2 := x.trans y
theorem Same.newT' {H H1 : Hp} {p : Addr} {o : HO} (hp : H1 p = none) (x : Same H H1) : Same H (upd H1 p o) := Same.newT x hp
theorem But.transS {a : Addr} {H H1 H2 : Hp} (y : Same H1 H2) (x : But a H H1) : But a H H2 := fun b o n h => y b o (x b o n h)
theorem Same.butT {H0 H H1 : Hp} {p : Addr} (x : But p H H1) (hp : H0 p = none) (e : Same H0 H) : Same H0 H1 := Same.but e hp x
/-! ### slices, sums of lists -/
theorem six_nn {n d : Nat} {k : Int} (h : 0 ≤ k) : HT.sIx n d (some k) = min k.toNat n := by
  obtain ⟨m, rfl⟩ := Int.eq_ofNat_of_zero_le h
  exact HT.sIx_nat n d m
theorem cut_to {xs : List V} {k : Int} (h : 0 ≤ k) : cutV xs none (some k) = xs.take k.toNat := by
  unfold cutV
  rw [six_nn h, HT.sIx_none, List.drop_zero, Nat.sub_zero]
  exact List.take_eq_take_iff.mpr (by omega)
theorem cut_from {xs : List V} {k : Int} (h : 0 ≤ k) : cutV xs (some k) none = xs.drop k.toNat := by
  unfold cutV
  rw [six_nn h, HT.sIx_none, List.take_of_length_le (by rw [List.length_drop]; omega)]
  by_cases c : k.toNat ≤ xs.length
  · rw [Nat.min_eq_left c]
  · rw [Nat.min_eq_right (show xs.length ≤ k.toNat by omega), List.drop_length, List.drop_eq_nil_of_le (show xs.length ≤ k.toNat by omega)]
theorem cut_mid {xs : List V} {j k : Int} (h : 0 ≤ j) (h' : 0 ≤ k) : cutV xs (some j) (some k) = (xs.drop j.toNat).take (k.toNat - j.toNat) := by
  unfold cutV
  rw [six_nn h, six_nn h']
  by_cases c : j.toNat ≤ xs.length
  · rw [Nat.min_eq_left c]
    refine List.take_eq_take_iff.mpr ?_
    rw [List.length_drop]
    omega
  · rw [Nat.min_eq_right (show xs.length ≤ j.toNat by omega), List.drop_length, List.drop_eq_nil_of_le (show xs.length ≤ j.toNat by omega), List.take_nil, List.take_nil]
section
variable {H : Hp} {Q : VK} {K : PySem.W.Frag} {p r : Addr} {xs ys : List V} {j k : Int} {lo hi : Option Int} {σ : L2.St}
theorem i_slTo (h : SqL K H p xs) (h0 : 0 ≤ k) (q : ∀ p', H p' = none → Q (.ref p') (upd H p' (.lst (xs.take k.toNat)))) : rSlL K (.ref p) none (some k) H Q := ⟨p, xs, rfl, h, by rw [cut_to h0]; exact q⟩
theorem i_slFrom (h : SqL K H p xs) (h0 : 0 ≤ k) (q : ∀ p', H p' = none → Q (.ref p') (upd H p' (.lst (xs.drop k.toNat)))) : rSlL K (.ref p) (some k) none H Q := ⟨p, xs, rfl, h, by rw [cut_from h0]; exact q⟩
theorem i_slMid (h : SqL K H p xs) (h0 : 0 ≤ j) (h1 : 0 ≤ k) (q : ∀ p', H p' = none → Q (.ref p') (upd H p' (.lst ((xs.drop j.toNat).take (k.toNat - j.toNat))))) : rSlL K (.ref p) (some j) (some k) H Q := ⟨p, xs, rfl, h, by rw [cut_mid h0 h1]; exact q⟩
theorem i_sl {R : V → Option Int → Option Int → Hp → VK → Prop} {te : TE} {tl th : TO} (h : te σ H fun x H1 => tl σ H1 fun l H2 => th σ H2 fun u H3 => R x l u H3 Q) : tSl R te tl th σ H Q := h
theorem i_nopart {P : Option Int → Hp → Prop} (q : P none H) : tNoPart σ H P := q
theorem i_part {te : TE} {P : Option Int → Hp → Prop} (h : te σ H fun x H1 => ∃ i, x = .int i ∧ P (some i) H1) : tPart te σ H P := h
theorem i_exint {i : Int} {R : Int → Prop} (q : R i) : ∃ i', V.int i = .int i' ∧ R i' := ⟨i, rfl, q⟩
theorem i_cat (h1 : H p = some (.lst xs)) (h2 : H r = some (.lst ys)) (hz : xs.length + ys.length ≤ sizeLine) (q : ∀ p', H p' = none → Q (.ref p') (upd H p' (.lst (xs ++ ys)))) : rCat (.ref p) (.ref r) H Q := ⟨p, r, xs, ys, rfl, rfl, h1, h2, hz, q⟩
theorem i_rep (h1 : H p = some (.lst xs)) (h2 : -(2 ^ 63) ≤ k ∧ k < 2 ^ 63) (hz : xs.length * k.toNat ≤ sizeLine) (q : ∀ p', H p' = none → Q (.ref p') (upd H p' (.lst (List.replicate k.toNat xs).flatten))) : rRep (.ref p) (.int k) H Q := ⟨p, k, xs, rfl, rfl, h1, h2.1, h2.2, hz, q⟩
theorem flat1 {α : Type} {x : α} : ∀ n : Nat, (List.replicate n [x]).flatten = List.replicate n x
  | 0 => rfl
  | n + 1 => by
    rw [List.replicate_succ, List.flatten_cons, flat1 n, List.replicate_succ]
    rfl
theorem i_rep1 {x : V} (h1 : H p = some (.lst [x])) (h2 : 0 ≤ k ∧ k ≤ 1000000) (q : ∀ p', H p' = none → Q (.ref p') (upd H p' (.lst (List.replicate k.toNat x)))) : rRep (.ref p) (.int k) H Q :=
  i_rep h1 (by omega) (sz4 (by show 1 * k.toNat ≤ 1000000; omega)) (by rw [flat1]; exact q)
end
/-- an if whose two ways meet: what holds behind it -/
theorem if_join {σ : L2.St} {H : Hp} {nx bk ct : L2.St → Hp → Prop} {rt : VK} {c : TT} {t u : TS} (P : L2.St → Hp → Prop) (h : ∀ nx' : L2.St → Hp → Prop, (∀ σ' H', P σ' H' → nx' σ' H') → tIfS c t u ⟨nx', rt, bk, ct⟩ σ H)
    (cont : ∀ σ' H', P σ' H' → nx σ' H') : tIfS c t u ⟨nx, rt, bk, ct⟩ σ H := h nx cont
/-- any statement, cut behind it -/
theorem st_join {σ : L2.St} {H : Hp} {nx bk ct : L2.St → Hp → Prop} {rt : VK} {t : TS} (P : L2.St → Hp → Prop) (h : ∀ nx' : L2.St → Hp → Prop, (∀ σ' H', P σ' H' → nx' σ' H') → t ⟨nx', rt, bk, ct⟩ σ H)
    (cont : ∀ σ' H', P σ' H' → nx σ' H') : t ⟨nx, rt, bk, ct⟩ σ H := h nx cont
theorem ints_at {ms : List Int} {i : Nat} {x : V} (h : (ms.map V.int)[i]? = some x) : ∃ z, x = .int z ∧ ms[i]? = some z := by
  rw [List.getElem?_map] at h
  cases e : ms[i]? with
  | none =>
    rw [e] at h
    cases h
  | some z =>
    rw [e] at h
    exact ⟨z, (Option.some.inj h).symm, rfl⟩
/-! ### equality of data -/
theorem i_eqT2 {K : PySem.W.Frag} {H : Hp} {Q : VK} {p r : Addr} {a b c d : Int} (h1 : SqT K H p [.int a, .int b]) (h2 : SqT K H r [.int c, .int d]) (q : Q (.bl (a == c && (b == d && true))) H) : rEqD K (.ref p) (.ref r) H Q :=
  ⟨.tuple [.int a, .int b], .tuple [.int c, .int d], .tup h1 (.cons (.int a) (.cons (.int b) .nil)), .tup h2 (.cons (.int c) (.cons (.int d) .nil)), rfl, rfl, by
    have e : PyData.eqv (.tuple [.int a, .int b]) (.tuple [.int c, .int d]) = (a == c && (b == d && true)) := by simp [PyData.eqv, PyData.eqvAll]
    rw [e]
    exact q⟩
/-! ### two objects that change -/
def But2 (a c : Addr) (H H' : Hp) : Prop := ∀ b o, b ≠ a → b ≠ c → H b = some o → H' b = some o
section
variable {a c b p : Addr} {H H' H1 H2 : Hp} {o u : HO} {K : PySem.W.Frag} {xs : List V}
theorem But2.refl (a c : Addr) (H : Hp) : But2 a c H H := fun _ _ _ _ h => h
theorem But2.transT (y : But2 a c H1 H2) (x : But2 a c H H1) : But2 a c H H2 := fun b o n m h => y b o n m (x b o n m h)
theorem But2.transS (y : Same H1 H2) (x : But2 a c H H1) : But2 a c H H2 := fun b o n m h => y b o (x b o n m h)
theorem But2.transL (y : But a H1 H2) (x : But2 a c H H1) : But2 a c H H2 := fun b o n m h => y b o n (x b o n m h)
theorem But2.transR (y : But c H1 H2) (x : But2 a c H H1) : But2 a c H H2 := fun b o n m h => y b o m (x b o n m h)
theorem But2.newT (hp : H1 p = none) (x : But2 a c H H1) : But2 a c H (L2.upd H1 p o) := fun b u n m h => by
  have h1 := x b u n m h
  rw [upd_ne (ne_of_none h1 hp)]
  exact h1
theorem But2.updL (x : But2 a c H H1) : But2 a c H (L2.upd H1 a o) := fun b u n m h => by
  rw [upd_ne n]
  exact x b u n m h
theorem But2.updR (x : But2 a c H H1) : But2 a c H (L2.upd H1 c o) := fun b u n m h => by
  rw [upd_ne m]
  exact x b u n m h
theorem lk_but2 (e : But2 a c H H') (n : b ≠ a) (m : b ≠ c) (h : H b = some o) : H' b = some o := e b o n m h
theorem But2.seq (e : But2 a c H H') (n : b ≠ a) (m : b ≠ c) (h : SqL K H b xs) : SqL K H' b xs := by
  rcases h with (h | ⟨o, h⟩) | h
  · exact .inl (.inl (e _ _ n m h))
  · exact .inl (.inr ⟨o, e _ _ n m h⟩)
  · exact .inr h
theorem But2.seqT (e : But2 a c H H') (n : b ≠ a) (m : b ≠ c) (h : SqT K H b xs) : SqT K H' b xs := by
  rcases h with (h | ⟨o, h⟩) | h
  · exact .inl (.inl (e _ _ n m h))
  · exact .inl (.inr ⟨o, e _ _ n m h⟩)
  · exact .inr h
theorem But2.free (hn : H' p = none) (e : But2 a c H H') (ha : H' a = some o) (hc : H' c = some u) : H p = none := by
  cases h : H p with
  | none => rfl
  | some v =>
    by_cases hp : p = a
    · rw [hp, ha] at hn
      cases hn
    · by_cases hq : p = c
      · rw [hq, hc] at hn
        cases hn
      · rw [e p v hp hq h] at hn
        cases hn
theorem But2.mut (hp : H p = none) (x : But2 a c H H1) : But2 a c H (L2.upd H1 p o) := fun b u n m h => by
  have e : b ≠ p := ne_of_none h hp
  exact lk_upd e (x b u n m h)
theorem But2.butT (y : But p H1 H2) (hp : H p = none) (x : But2 a c H H1) : But2 a c H H2 := fun b u n m h => y b u (ne_of_none h hp) (x b u n m h)
theorem Same.but2T {H0 : Hp} (x : But2 a c H H1) (ha : H0 a = none) (hc : H0 c = none) (e : Same H0 H) : Same H0 H1 := fun b u h => x b u (ne_of_none h ha) (ne_of_none h hc) (e b u h)
end
/-! ### len, by its number -/
def LenA (K : PySem.W.Frag) (H : Hp) (p : Addr) (n : Nat) : Prop := (∃ ys, SqL K H p ys ∧ ys.length = n) ∨ ∃ ys, SqT K H p ys ∧ ys.length = n
def rLenA (K : PySem.W.Frag) : List V → Hp → VK → Prop := fun xs H Q => ∃ p n, xs = [V.ref p] ∧ LenA K H p n ∧ Q (.int n) H
theorem call_lenA {X : Cx} : CallR X (.builtin "len") (rLenA X.K) := by
  intro pins s σ H xs us Q I r h
  obtain ⟨p, n, e, hl, q⟩ := h
  refine call_len_seq pins s σ H xs us Q I r ?_
  rcases hl with ⟨ys, h1, h2⟩ | ⟨ys, h1, h2⟩
  · exact ⟨p, ys, e, .inl h1, by rw [h2]; exact q⟩
  · exact ⟨p, ys, e, .inr h1, by rw [h2]; exact q⟩
section
variable {σ : L2.St} {H : Hp} {Q : VK} {K : PySem.W.Frag} {p r : Addr} {xs ys : List V} {ms ns : List Int} {i j k : Int} {n : Nat}
theorem i_lenA (h : LenA K H p n) (q : Q (.int n) H) : rLenA K [.ref p] H Q := ⟨p, n, rfl, h, q⟩
theorem lenA_map {α : Type} {f : α → V} {zs : List α} (h : SqL K H p (zs.map f)) : LenA K H p zs.length := .inl ⟨_, h, List.length_map _⟩
theorem lenA_L (h : SqL K H p xs) : LenA K H p xs.length := .inl ⟨_, h, rfl⟩
theorem lenA_T (h : SqT K H p xs) : LenA K H p xs.length := .inr ⟨_, h, rfl⟩
theorem i_ixM (h : SqL K H p (ms.map V.int)) (h0 : 0 ≤ i) (h1 : i < ms.length) (q : ∀ z, ms[i.toNat]? = some z → Q (.int z) H) : rIxL K (.ref p) (.int i) H Q := by
  obtain ⟨v, e1, e2⟩ := at_lt (xs := ms.map V.int) h0 (by rw [List.length_map]; exact h1)
  obtain ⟨z, e, e3⟩ := ints_at e2
  subst e
  exact i_ixL h e1 (q z e3)
theorem i_ixG (h : SqL K H p xs) (h0 : 0 ≤ i) (h1 : i < xs.length) (q : ∀ v, xs[i.toNat]? = some v → Q v H) : rIxL K (.ref p) (.int i) H Q := by
  obtain ⟨v, e1, e2⟩ := at_lt h0 h1
  exact i_ixL h e1 (q v e2)
theorem i_sum (h : SqL K H p (ns.map V.int)) (q : Q (.int ns.sum) H) : rSum K [.ref p] H Q := ⟨p, ns, rfl, h, q⟩
theorem i_slToM (h : SqL K H p (ms.map V.int)) (h0 : 0 ≤ k) (q : ∀ p', H p' = none → Q (.ref p') (upd H p' (.lst ((ms.take k.toNat).map V.int)))) : rSlL K (.ref p) none (some k) H Q := i_slTo h h0 (by rw [← List.map_take]; exact q)
theorem i_slFromM (h : SqL K H p (ms.map V.int)) (h0 : 0 ≤ k) (q : ∀ p', H p' = none → Q (.ref p') (upd H p' (.lst ((ms.drop k.toNat).map V.int)))) : rSlL K (.ref p) (some k) none H Q := i_slFrom h h0 (by rw [← List.map_drop]; exact q)
theorem i_slMidM (h : SqL K H p (ms.map V.int)) (h0 : 0 ≤ j) (h1 : 0 ≤ k) (q : ∀ p', H p' = none → Q (.ref p') (upd H p' (.lst (((ms.drop j.toNat).take (k.toNat - j.toNat)).map V.int)))) : rSlL K (.ref p) (some j) (some k) H Q := i_slMid h h0 h1 (by rw [← List.map_drop, ← List.map_take]; exact q)
theorem i_catM (h1 : H p = some (.lst (ms.map V.int))) (h2 : H r = some (.lst (ns.map V.int))) (hz : ms.length + ns.length ≤ 1000000) (q : ∀ p', H p' = none → Q (.ref p') (upd H p' (.lst ((ms ++ ns).map V.int)))) : rCat (.ref p) (.ref r) H Q :=
  i_cat h1 h2 (sz4 (by rw [List.length_map, List.length_map]; exact hz)) (by rw [← List.map_append]; exact q)
theorem i_repM {x : Int} (h1 : H p = some (.lst [.int x])) (h2 : 0 ≤ k ∧ k ≤ 1000000) (q : ∀ p', H p' = none → Q (.ref p') (upd H p' (.lst ((List.replicate k.toNat x).map V.int)))) : rRep (.ref p) (.int k) H Q :=
  i_rep1 h1 h2 (by rw [← List.map_replicate]; exact q)
theorem eqvAll_ints : ∀ ms ns : List Int, PyData.eqvAll (ms.map PyData.int) (ns.map PyData.int) = decide (ms = ns)
  | [], [] => by simp [PyData.eqvAll]
  | [], _ :: _ => by simp [PyData.eqvAll]
  | _ :: _, [] => by simp [PyData.eqvAll]
  | m :: ms, n :: ns => by
    rw [List.map_cons, List.map_cons, PyData.eqvAll, eqvAll_ints ms ns, PyData.eqv]
    by_cases h : m = n
    · subst h
      simp
    · simp [h]
theorem canLay_ints : ∀ ms : List Int, PyData.canLayAll0 (ms.map PyData.int) = true
  | [] => by simp [PyData.canLayAll0]
  | m :: ms => by
    rw [List.map_cons, PyData.canLayAll0, canLay_ints ms]
    simp [PyData.canLay0]
theorem depth_ints : ∀ ms : List Int, PyData.depthAll (ms.map PyData.int) ≤ 1
  | [] => by simp [PyData.depthAll]
  | m :: ms => by
    have := depth_ints ms
    rw [List.map_cons, PyData.depthAll]
    simp [PyData.depth]
    omega
theorem dp_ints : ∀ ms : List Int, DpAll K H (ms.map V.int) (ms.map PyData.int)
  | [] => .nil
  | m :: ms => .cons (.int m) (dp_ints ms)
theorem shaped_ints (ms : List Int) : SeqAt.shaped (.list (ms.map PyData.int)) = true := by
  unfold SeqAt.shaped
  have h1 := canLay_ints ms
  have h2 := depth_ints ms
  simp [PyData.canLay0, PyData.depth, h1]
  omega
theorem i_eqLI (h1 : SqL K H p (ms.map V.int)) (h2 : SqL K H r (ns.map V.int)) (q : Q (.bl (decide (ms = ns))) H) : rEqD K (.ref p) (.ref r) H Q :=
  ⟨_, _, .lst h1 (dp_ints ms), .lst h2 (dp_ints ns), shaped_ints ms, shaped_ints ns, by rw [PyData.eqv, eqvAll_ints]; exact q⟩
theorem i_neLI (h1 : SqL K H p (ms.map V.int)) (h2 : SqL K H r (ns.map V.int)) (q : Q (.bl (!decide (ms = ns))) H) : rNeD K (.ref p) (.ref r) H Q :=
  ⟨_, _, .lst h1 (dp_ints ms), .lst h2 (dp_ints ns), shaped_ints ms, shaped_ints ns, by rw [PyData.eqv, eqvAll_ints]; exact q⟩
theorem i_eqL0 (h1 : SqL K H p (ms.map V.int)) (h2 : SqL K H r []) (q : Q (.bl (decide (ms = []))) H) : rEqD K (.ref p) (.ref r) H Q := i_eqLI (ns := []) h1 h2 q
theorem i_eq00 (h1 : SqL K H p []) (h2 : SqL K H r []) (q : Q (.bl true) H) : rEqD K (.ref p) (.ref r) H Q := i_eqLI (ms := []) (ns := []) h1 h2 (by simpa using q)
theorem i_isn {P : Prop} (q : P) : V.non = V.non ∧ P := ⟨rfl, q⟩
theorem i_tru {P : Prop} (q : P) : True ∧ P := ⟨trivial, q⟩
theorem i_glst {m : Nat} {t : TGs} {Z : L2.St → Hp → Prop} (h : SqL K H p xs) (e : xs.length = m) (q : t xs σ H Z) : gLst K m t (.ref p) σ H Z := ⟨p, xs, rfl, h, e, q⟩
end
/-! ### comprehensions -/
section
variable {σ : L2.St} {H H1 : Hp} {Q : VK} {K : PySem.W.Frag} {D a : Addr} {wi : TI} {g : TG} {tt : TT} {te : TE} {vs : List Nat} {lo : Int} {n : Nat} {xs : List V} {Qd : Hp → Prop}
theorem i_lc (h : wi σ H fun J H1 => ∀ D, H1 D = none → ∃ W : Nat → Nat → Hp → Prop, (∃ m, W 0 m (upd H1 D (.lst []))) ∧ ∀ i m H, W i m H →
  (J.stop i H ∧ Q (.ref D) H) ∨ (J.go i H ∧ ∃ Nx : Hp → Prop, (∀ H', Nx H' → ∃ m', m' < m ∧ W (i + 1) m' H') ∧ ∀ x H', J.yld i H x H' → g x (wipe σ vs) H' fun σ2 H2 => wipe σ2 vs = wipe σ vs ∧ tt σ2 H2 fun b H3 =>
    if b = true then te σ2 H3 fun y H4 => ∃ acc, H4 D = some (.lst acc) ∧ acc.length < sizeLine ∧ Nx (upd H4 D (.lst (acc ++ [y]))) else Nx H3)) : tLc wi g tt te vs σ H Q := h
/-- the turn of a comprehension: what its target, test and element come to; Z is wanted of a kept element, Y where the test says no -/
def LcTurn (g : TG) (tt : TT) (te : TE) (vs : List Nat) (σ : L2.St) (x : V) (H : Hp) (Z : VK) (Y : Hp → Prop) : Prop :=
  g x (wipe σ vs) H fun σ2 H2 => wipe σ2 vs = wipe σ vs ∧ tt σ2 H2 fun b H3 => if b = true then te σ2 H3 Z else Y H3
/-- over a range; P: what holds behind i turns of the list made so far -/
theorem lcR (P : Nat → List V → Hp → Prop) (nD : H1 D = none) (h0 : P 0 [] (upd H1 D (.lst [])))
    (hs : ∀ i acc H (Z : VK) (Y : Hp → Prop), i < n → P i acc H → H D = some (.lst acc) → (∀ y H4, H4 D = some (.lst acc) → acc.length < sizeLine → P (i + 1) (acc ++ [y]) (upd H4 D (.lst (acc ++ [y]))) → Z y H4) →
      (∀ H4, H4 D = some (.lst acc) → P (i + 1) acc H4 → Y H4) → LcTurn g tt te vs σ (.int (lo + i)) H Z Y) (hd : ∀ acc H, P n acc H → H D = some (.lst acc) → Qd H) :
    ∃ W : Nat → Nat → Hp → Prop, (∃ m, W 0 m (upd H1 D (.lst []))) ∧ ∀ i m H, W i m H →
      ((Itr lo n).stop i H ∧ Qd H) ∨ ((Itr lo n).go i H ∧ ∃ Nx : Hp → Prop, (∀ H', Nx H' → ∃ m', m' < m ∧ W (i + 1) m' H') ∧ ∀ x H', (Itr lo n).yld i H x H' → g x (wipe σ vs) H' fun σ2 H2 => wipe σ2 vs = wipe σ vs ∧ tt σ2 H2 fun b H3 =>
        if b = true then te σ2 H3 fun y H4 => ∃ acc, H4 D = some (.lst acc) ∧ acc.length < sizeLine ∧ Nx (upd H4 D (.lst (acc ++ [y]))) else Nx H3) := by
  refine lc_range (fun i H => ∃ acc, P i acc H ∧ H D = some (.lst acc)) ⟨[], h0, upd_same⟩ (fun i H hi hp => ?_) (fun H hp => ?_)
  · obtain ⟨acc, hp, ha⟩ := hp
    exact hs i acc H _ _ hi hp ha (fun y H4 h1 h2 h3 => ⟨acc, h1, h2, _, h3, upd_same⟩) fun H4 h1 h2 => ⟨acc, h2, h1⟩
  · obtain ⟨acc, hp, ha⟩ := hp
    exact hd acc H hp ha
theorem lcL (P : Nat → List V → Hp → Prop) (nD : H1 D = none) (h0 : P 0 [] (upd H1 D (.lst []))) (hl : ∀ i acc H, i ≤ xs.length → P i acc H → H D = some (.lst acc) → SqL K H a xs)
    (hs : ∀ i x acc H (Z : VK) (Y : Hp → Prop), xs[i]? = some x → P i acc H → H D = some (.lst acc) → (∀ y H4, H4 D = some (.lst acc) → acc.length < sizeLine → P (i + 1) (acc ++ [y]) (upd H4 D (.lst (acc ++ [y]))) → Z y H4) →
      (∀ H4, H4 D = some (.lst acc) → P (i + 1) acc H4 → Y H4) → LcTurn g tt te vs σ x H Z Y) (hd : ∀ acc H, P xs.length acc H → H D = some (.lst acc) → Qd H) :
    ∃ W : Nat → Nat → Hp → Prop, (∃ m, W 0 m (upd H1 D (.lst []))) ∧ ∀ i m H, W i m H →
      ((Itl K a).stop i H ∧ Qd H) ∨ ((Itl K a).go i H ∧ ∃ Nx : Hp → Prop, (∀ H', Nx H' → ∃ m', m' < m ∧ W (i + 1) m' H') ∧ ∀ x H', (Itl K a).yld i H x H' → g x (wipe σ vs) H' fun σ2 H2 => wipe σ2 vs = wipe σ vs ∧ tt σ2 H2 fun b H3 =>
        if b = true then te σ2 H3 fun y H4 => ∃ acc, H4 D = some (.lst acc) ∧ acc.length < sizeLine ∧ Nx (upd H4 D (.lst (acc ++ [y]))) else Nx H3) := by
  refine lc_list (xs := xs) (fun i H => ∃ acc, P i acc H ∧ H D = some (.lst acc)) ⟨[], h0, upd_same⟩ (fun i H hi hp => ?_) (fun i x H hi hp => ?_) (fun H hp => ?_)
  · obtain ⟨acc, hp, ha⟩ := hp
    exact hl i acc H hi hp ha
  · obtain ⟨acc, hp, ha⟩ := hp
    exact hs i x acc H _ _ hi hp ha (fun y H4 h1 h2 h3 => ⟨acc, h1, h2, _, h3, upd_same⟩) fun H4 h1 h2 => ⟨acc, h2, h1⟩
  · obtain ⟨acc, hp, ha⟩ := hp
    exact hd acc H hp ha
/-- whole numbers, one for each turn -/
theorem lcR_int (f : Nat → Int) (nD : H1 D = none) (hn : n ≤ 1000000)
    (hs : ∀ i H (Z : VK) (Y : Hp → Prop), i < n → Same H1 H → (∀ H4, Same H H4 → Z (.int (f i)) H4) → LcTurn g tt te vs σ (.int (lo + i)) H Z Y)
    (hd : ∀ H, Same H1 H → H D = some (.lst (((List.range n).map f).map V.int)) → Qd H) :
    ∃ W : Nat → Nat → Hp → Prop, (∃ m, W 0 m (upd H1 D (.lst []))) ∧ ∀ i m H, W i m H →
      ((Itr lo n).stop i H ∧ Qd H) ∨ ((Itr lo n).go i H ∧ ∃ Nx : Hp → Prop, (∀ H', Nx H' → ∃ m', m' < m ∧ W (i + 1) m' H') ∧ ∀ x H', (Itr lo n).yld i H x H' → g x (wipe σ vs) H' fun σ2 H2 => wipe σ2 vs = wipe σ vs ∧ tt σ2 H2 fun b H3 =>
        if b = true then te σ2 H3 fun y H4 => ∃ acc, H4 D = some (.lst acc) ∧ acc.length < sizeLine ∧ Nx (upd H4 D (.lst (acc ++ [y]))) else Nx H3) := by
  refine lcR (fun i acc H => i ≤ n ∧ acc = ((List.range i).map f).map V.int ∧ Same H1 H) nD ⟨Nat.zero_le _, rfl, Same.new nD⟩ ?_ ?_
  · rintro i acc H Z Y hi ⟨_, rfl, hsame⟩ ha hz _
    refine hs i H Z Y hi hsame fun H4 h4 => hz _ H4 (h4 _ _ ha) (sz4' (by simp; omega)) ⟨hi, ?_, Same.mut (hsame.trans h4) nD⟩
    rw [List.range_succ, List.map_append, List.map_append]
    rfl
  · rintro acc H ⟨_, rfl, hsame⟩ ha
    exact hd H hsame ha
theorem lcL_int (f : Nat → Int) (nD : H1 D = none) (hn : xs.length ≤ 1000000) (hx : SqL K H1 a xs)
    (hs : ∀ i x H (Z : VK) (Y : Hp → Prop), xs[i]? = some x → Same H1 H → (∀ H4, Same H H4 → Z (.int (f i)) H4) → LcTurn g tt te vs σ x H Z Y)
    (hd : ∀ H, Same H1 H → H D = some (.lst (((List.range xs.length).map f).map V.int)) → Qd H) :
    ∃ W : Nat → Nat → Hp → Prop, (∃ m, W 0 m (upd H1 D (.lst []))) ∧ ∀ i m H, W i m H →
      ((Itl K a).stop i H ∧ Qd H) ∨ ((Itl K a).go i H ∧ ∃ Nx : Hp → Prop, (∀ H', Nx H' → ∃ m', m' < m ∧ W (i + 1) m' H') ∧ ∀ x H', (Itl K a).yld i H x H' → g x (wipe σ vs) H' fun σ2 H2 => wipe σ2 vs = wipe σ vs ∧ tt σ2 H2 fun b H3 =>
        if b = true then te σ2 H3 fun y H4 => ∃ acc, H4 D = some (.lst acc) ∧ acc.length < sizeLine ∧ Nx (upd H4 D (.lst (acc ++ [y]))) else Nx H3) := by
  refine lcL (xs := xs) (fun i acc H => i ≤ xs.length ∧ acc = ((List.range i).map f).map V.int ∧ Same H1 H) nD ⟨Nat.zero_le _, rfl, Same.new nD⟩ (fun i acc H _ hp _ => hp.2.2.seq hx) ?_ ?_
  · rintro i x acc H Z Y hi ⟨_, rfl, hsame⟩ ha hz _
    have hi' : i < xs.length := (List.getElem?_eq_some_iff.mp hi).1
    refine hs i x H Z Y hi hsame fun H4 h4 => hz _ H4 (h4 _ _ ha) (sz4' (by simp; omega)) ⟨hi', ?_, Same.mut (hsame.trans h4) nD⟩
    rw [List.range_succ, List.map_append, List.map_append]
    rfl
  · rintro acc H ⟨_, rfl, hsame⟩ ha
    exact hd H hsame ha
/-- over a range, kept where b says so -/
theorem lcR_fil (b : Nat → Bool) (f : Nat → Int) (nD : H1 D = none) (hn : n ≤ 1000000)
    (hs : ∀ i H (Z : VK) (Y : Hp → Prop), i < n → Same H1 H → (b i = true → ∀ H4, Same H H4 → Z (.int (f i)) H4) → (b i = false → ∀ H4, Same H H4 → Y H4) → LcTurn g tt te vs σ (.int (lo + i)) H Z Y)
    (hd : ∀ H, Same H1 H → H D = some (.lst ((((List.range n).filter b).map f).map V.int)) → Qd H) :
    ∃ W : Nat → Nat → Hp → Prop, (∃ m, W 0 m (upd H1 D (.lst []))) ∧ ∀ i m H, W i m H →
      ((Itr lo n).stop i H ∧ Qd H) ∨ ((Itr lo n).go i H ∧ ∃ Nx : Hp → Prop, (∀ H', Nx H' → ∃ m', m' < m ∧ W (i + 1) m' H') ∧ ∀ x H', (Itr lo n).yld i H x H' → g x (wipe σ vs) H' fun σ2 H2 => wipe σ2 vs = wipe σ vs ∧ tt σ2 H2 fun b H3 =>
        if b = true then te σ2 H3 fun y H4 => ∃ acc, H4 D = some (.lst acc) ∧ acc.length < sizeLine ∧ Nx (upd H4 D (.lst (acc ++ [y]))) else Nx H3) := by
  refine lcR (fun i acc H => i ≤ n ∧ acc = (((List.range i).filter b).map f).map V.int ∧ Same H1 H) nD ⟨Nat.zero_le _, rfl, Same.new nD⟩ ?_ ?_
  · rintro i acc H Z Y hi ⟨_, rfl, hsame⟩ ha hz hy
    refine hs i H Z Y hi hsame (fun hb H4 h4 => hz _ H4 (h4 _ _ ha) (sz4' ?_) ⟨hi, ?_, Same.mut (hsame.trans h4) nD⟩) (fun hb H4 h4 => hy H4 (h4 _ _ ha) ⟨hi, ?_, hsame.trans h4⟩)
    · have := List.length_filter_le b (List.range i)
      rw [List.length_range] at this
      simp only [List.length_map]
      omega
    · rw [List.range_succ, List.filter_append, List.map_append, List.map_append, List.filter_cons, if_pos hb]
      rfl
    · rw [List.range_succ, List.filter_append, List.map_append, List.map_append, List.filter_cons, if_neg (by rw [hb]; exact Bool.false_ne_true)]
      simp
  · rintro acc H ⟨_, rfl, hsame⟩ ha
    exact hd H hsame ha
/-- over a list, nothing kept -/
theorem lcL_nil (nD : H1 D = none) (hx : SqL K H1 a xs)
    (hs : ∀ (i : Nat) (x : V) H (Z : VK) (Y : Hp → Prop), xs[i]? = some x → Same H1 H → (∀ H4, Same H H4 → Y H4) → LcTurn g tt te vs σ x H Z Y)
    (hd : ∀ H, Same H1 H → H D = some (.lst []) → Qd H) :
    ∃ W : Nat → Nat → Hp → Prop, (∃ m, W 0 m (upd H1 D (.lst []))) ∧ ∀ i m H, W i m H →
      ((Itl K a).stop i H ∧ Qd H) ∨ ((Itl K a).go i H ∧ ∃ Nx : Hp → Prop, (∀ H', Nx H' → ∃ m', m' < m ∧ W (i + 1) m' H') ∧ ∀ x H', (Itl K a).yld i H x H' → g x (wipe σ vs) H' fun σ2 H2 => wipe σ2 vs = wipe σ vs ∧ tt σ2 H2 fun b H3 =>
        if b = true then te σ2 H3 fun y H4 => ∃ acc, H4 D = some (.lst acc) ∧ acc.length < sizeLine ∧ Nx (upd H4 D (.lst (acc ++ [y]))) else Nx H3) := by
  refine lcL (xs := xs) (fun i acc H => acc = [] ∧ Same H1 H) nD ⟨rfl, Same.new nD⟩ (fun i acc H _ hp _ => hp.2.seq hx) ?_ ?_
  · rintro i x acc H Z Y hi ⟨rfl, hsame⟩ ha _ hy
    exact hs i x H Z Y hi hsame fun H4 h4 => hy H4 (h4 _ _ ha) ⟨rfl, hsame.trans h4⟩
  · rintro acc H ⟨rfl, hsame⟩ ha
    exact hd H hsame ha
/-- over a list, a value for each, from the turn's number -/
theorem lcL_v (f : Nat → V) (nD : H1 D = none) (hn : xs.length ≤ 1000000) (hx : SqL K H1 a xs)
    (hs : ∀ (i : Nat) (x : V) H (Z : VK) (Y : Hp → Prop), xs[i]? = some x → Same H1 H → (∀ H4, Same H H4 → Z (f i) H4) → LcTurn g tt te vs σ x H Z Y)
    (hd : ∀ H, Same H1 H → H D = some (.lst ((List.range xs.length).map f)) → Qd H) :
    ∃ W : Nat → Nat → Hp → Prop, (∃ m, W 0 m (upd H1 D (.lst []))) ∧ ∀ i m H, W i m H →
      ((Itl K a).stop i H ∧ Qd H) ∨ ((Itl K a).go i H ∧ ∃ Nx : Hp → Prop, (∀ H', Nx H' → ∃ m', m' < m ∧ W (i + 1) m' H') ∧ ∀ x H', (Itl K a).yld i H x H' → g x (wipe σ vs) H' fun σ2 H2 => wipe σ2 vs = wipe σ vs ∧ tt σ2 H2 fun b H3 =>
        if b = true then te σ2 H3 fun y H4 => ∃ acc, H4 D = some (.lst acc) ∧ acc.length < sizeLine ∧ Nx (upd H4 D (.lst (acc ++ [y]))) else Nx H3) := by
  refine lcL (xs := xs) (fun i acc H => i ≤ xs.length ∧ acc = (List.range i).map f ∧ Same H1 H) nD ⟨Nat.zero_le _, rfl, Same.new nD⟩ (fun i acc H _ hp _ => hp.2.2.seq hx) ?_ ?_
  · rintro i x acc H Z Y hi ⟨_, rfl, hsame⟩ ha hz _
    have hi' : i < xs.length := (List.getElem?_eq_some_iff.mp hi).1
    refine hs i x H Z Y hi hsame fun H4 h4 => hz _ H4 (h4 _ _ ha) (sz4' (by simp; omega)) ⟨hi', ?_, Same.mut (hsame.trans h4) nD⟩
    rw [List.range_succ, List.map_append]
    rfl
  · rintro acc H ⟨_, rfl, hsame⟩ ha
    exact hd H hsame ha
/-- over a list, truths all true -/
theorem lcL_all (nD : H1 D = none) (hn : xs.length ≤ 1000000) (hx : SqL K H1 a xs)
    (hs : ∀ (i : Nat) (x : V) H (Z : VK) (Y : Hp → Prop), xs[i]? = some x → Same H1 H → (∀ H4, Same H H4 → Z (.bl true) H4) → LcTurn g tt te vs σ x H Z Y)
    (hd : ∀ H, Same H1 H → SqL K H D ((List.replicate xs.length true).map V.bl) → Qd H) :
    ∃ W : Nat → Nat → Hp → Prop, (∃ m, W 0 m (upd H1 D (.lst []))) ∧ ∀ i m H, W i m H →
      ((Itl K a).stop i H ∧ Qd H) ∨ ((Itl K a).go i H ∧ ∃ Nx : Hp → Prop, (∀ H', Nx H' → ∃ m', m' < m ∧ W (i + 1) m' H') ∧ ∀ x H', (Itl K a).yld i H x H' → g x (wipe σ vs) H' fun σ2 H2 => wipe σ2 vs = wipe σ vs ∧ tt σ2 H2 fun b H3 =>
        if b = true then te σ2 H3 fun y H4 => ∃ acc, H4 D = some (.lst acc) ∧ acc.length < sizeLine ∧ Nx (upd H4 D (.lst (acc ++ [y]))) else Nx H3) := by
  refine lcL_v (fun _ => .bl true) nD hn hx hs fun H hs' h => hd H hs' (.of ?_)
  rw [h, List.map_const', List.length_range, List.map_replicate]
theorem i_all {H : Hp} {Q : VK} {p : Addr} {m : Nat} (h : SqL K H p ((List.replicate m true).map V.bl)) (q : Q (.bl true) H) : rAll K [.ref p] H Q := by
  refine ⟨p, _, rfl, h, ?_⟩
  have e : (List.replicate m true).all id = true := by
    rw [List.all_eq_true]
    intro x hx
    rw [(List.mem_replicate.mp hx).2]
    rfl
  rw [e]
  exact q
theorem i_min {H : Hp} {Q : VK} {p : Addr} {ns : List Int} (h : SqL K H p (ns.map V.int)) (h0 : 0 < ns.length) (q : ∀ m, m ∈ ns → (∀ y, y ∈ ns → m ≤ y) → Q (.int m) H) : rMin K [.ref p] H Q := ⟨p, ns, rfl, h, h0, q⟩
theorem i_max {H : Hp} {Q : VK} {p : Addr} {ns : List Int} (h : SqL K H p (ns.map V.int)) (h0 : 0 < ns.length) (q : ∀ m, m ∈ ns → (∀ y, y ∈ ns → y ≤ m) → Q (.int m) H) : rMax K [.ref p] H Q := ⟨p, ns, rfl, h, h0, q⟩
theorem i_yes {P : Bool → Hp → Prop} (q : P true H) : tYes σ H P := q
theorem i_wipe {A : Prop} {σ2 : L2.St} (e : wipe σ2 vs = wipe σ vs) (q : A) : wipe σ2 vs = wipe σ vs ∧ A := ⟨e, q⟩
theorem i_turn {x : V} {Z : VK} {Y : Hp → Prop} {σ1 : L2.St} (e : wipe σ vs = σ1) (h : g x σ1 H fun σ2 H2 => wipe σ2 vs = σ1 ∧ tt σ2 H2 fun b H3 => if b = true then te σ2 H3 Z else Y H3) : LcTurn g tt te vs σ x H Z Y := by
  subst e
  exact h
theorem i_wiped {A : Prop} {σ1 σ2 : L2.St} (e : wipe σ2 vs = σ1) (q : A) : wipe σ2 vs = σ1 ∧ A := ⟨e, q⟩
end
theorem ixN_nn {n : Nat} {i : Int} (h0 : 0 ≤ i) (h1 : i < n) : ixN n i = some i.toNat := by
  unfold ixN
  rw [if_pos h0, if_pos h1]
theorem ixN_last {n : Nat} (h : 0 < n) : ixN n (-1) = some (n - 1) := by
  unfold ixN
  rw [if_neg (by decide), if_pos (by omega)]
  congr 1
  omega
theorem i_ixLast {K : PySem.W.Frag} {H : Hp} {p : Addr} {ms : List Int} {Q : VK} (h : SqL K H p (ms.map V.int)) (h1 : 0 < ms.length) (q : ∀ z, ms[ms.length - 1]? = some z → Q (.int z) H) : rIxL K (.ref p) (.int (-1)) H Q := by
  have e : ms[ms.length - 1]? = some ms[ms.length - 1] := List.getElem?_eq_getElem (by omega)
  refine ⟨p, _, -1, .int ms[ms.length - 1], rfl, rfl, h, ?_, q _ e⟩
  unfold atI
  rw [List.length_map, ixN_last h1, Option.bind_some, List.getElem?_map, e]
  rfl
theorem cut_init {xs : List V} : cutV xs none (some (-1)) = xs.dropLast := by
  unfold cutV
  rw [HT.sIx_none, List.drop_zero, Nat.sub_zero]
  have e : HT.sIx xs.length xs.length (some (-1)) = xs.length - 1 := by
    unfold HT.sIx
    simp
    omega
  rw [e, List.dropLast_eq_take]
theorem i_slInitM {K : PySem.W.Frag} {H : Hp} {p : Addr} {ms : List Int} {Q : VK} (h : SqL K H p (ms.map V.int)) (q : ∀ p', H p' = none → Q (.ref p') (upd H p' (.lst (ms.dropLast.map V.int)))) : rSlL K (.ref p) none (some (-1)) H Q := ⟨p, _, rfl, h, by rw [cut_init, ← List.map_dropLast]; exact q⟩
theorem i_setLast {H : Hp} {p : Addr} {ms : List Int} {z : Int} {Z : Hp → Prop} (h : H p = some (.lst (ms.map V.int))) (h1 : 0 < ms.length) (q : Z (upd H p (.lst ((ms.set (ms.length - 1) z).map V.int)))) : rSetL (.ref p) (.int (-1)) (.int z) H Z :=
  ⟨p, _, -1, ms.length - 1, rfl, rfl, h, by rw [List.length_map]; exact ixN_last h1, by rw [← List.map_set]; exact q⟩
theorem i_catM1 {H : Hp} {p r : Addr} {ms : List Int} {y : Int} {Q : VK} (h1 : H p = some (.lst (ms.map V.int))) (h2 : H r = some (.lst [.int y])) (hz : ms.length + 1 ≤ 1000000) (q : ∀ p', H p' = none → Q (.ref p') (upd H p' (.lst ((ms ++ [y]).map V.int)))) : rCat (.ref p) (.ref r) H Q := i_catM (ns := [y]) h1 h2 hz q
theorem fil_last (b : Nat → Bool) : ∀ n, (List.range n).filter b = [] ∨ ∃ k, k < n ∧ b k = true ∧ (∀ j, k < j → j < n → b j = false) ∧ ((List.range n).filter b)[((List.range n).filter b).length - 1]? = some k
  | 0 => .inl rfl
  | n + 1 => by
    rw [List.range_succ, List.filter_append]
    cases e : b n with
    | true =>
      refine .inr ⟨n, by omega, e, fun j h1 h2 => by omega, ?_⟩
      have : List.filter b [n] = [n] := by simp [e]
      rw [this, List.length_append]
      simp
    | false =>
      have : List.filter b [n] = [] := by simp [e]
      rw [this, List.append_nil]
      rcases fil_last b n with h | ⟨k, h1, h2, h3, h4⟩
      · exact .inl h
      · refine .inr ⟨k, by omega, h2, fun j g1 g2 => ?_, h4⟩
        by_cases c : j = n
        · subst c; exact e
        · exact h3 j g1 (by omega)
theorem fil_none {b : Nat → Bool} {n : Nat} (h : (List.range n).filter b = []) {j : Nat} (hj : j < n) : b j = false := by
  have := List.filter_eq_nil_iff.mp h j (List.mem_range.mpr hj)
  simpa using this
theorem i_reverse {H : Hp} {p : Addr} {ms : List Int} {Q : VK} (h : H p = some (.lst (ms.map V.int))) (q : Q .non (upd H p (.lst (ms.reverse.map V.int)))) : rReverse (.ref p) [] H Q := ⟨p, _, rfl, rfl, h, by rw [← List.map_reverse]; exact q⟩
theorem i_ne00 {K : PySem.W.Frag} {H : Hp} {Q : VK} {p r : Addr} (h1 : SqL K H p []) (h2 : SqL K H r []) (q : Q (.bl false) H) : rNeD K (.ref p) (.ref r) H Q := i_neLI (ms := []) (ns := []) h1 h2 (by simpa using q)
theorem i_min2 {K : Prop} {R : Int → Int → Prop} {i j : Int} (q : R i j) : ∃ i' j', [V.int i, V.int j] = [.int i', .int j'] ∧ R i' j' := ⟨i, j, rfl, q⟩
theorem i_setM {H : Hp} {p : Addr} {ms : List Int} {i z : Int} {Z : Hp → Prop} (h : H p = some (.lst (ms.map V.int))) (h0 : 0 ≤ i) (h1 : i < ms.length) (q : Z (upd H p (.lst ((ms.set i.toNat z).map V.int)))) : rSetL (.ref p) (.int i) (.int z) H Z :=
  ⟨p, _, i, i.toNat, rfl, rfl, h, ixN_nn h0 (by rw [List.length_map]; exact h1), by rw [← List.map_set]; exact q⟩
/-! ### the rules that name the written part, K told -/
def rListOf (K : PySem.W.Frag) : List V → Hp → VK → Prop := fun xs H Q => ∃ p ys, xs = [V.ref p] ∧ (SqL K H p ys ∨ SqT K H p ys) ∧ ∀ l, H l = none → Q (.ref l) (upd H l (.lst ys))
def rTupleOf (K : PySem.W.Frag) : List V → Hp → VK → Prop := fun xs H Q => ∃ p ys, xs = [V.ref p] ∧ ((SqL K H p ys ∧ ∀ l, H l = none → Q (.ref l) (upd H l (.tup ys))) ∨ (SqT K H p ys ∧ Q (.ref p) H))
section
variable {X : Cx} (K : PySem.W.Frag) (e : X.K = K)
include e
theorem sl_listK : SlR X (rSlL K) := by subst e; exact sl_list
theorem sl_tupK : SlR X (rSlA K) := by subst e; exact sl_tupA
theorem ix_listK : IxR X (rIxL K) := by subst e; exact ix_list
theorem ix_tupK : IxR X (rIxT K) := by subst e; exact ix_tup
theorem ix_seqK : IxR X (rIx K) := by subst e; exact ix_seq
theorem call_lenK : CallR X (.builtin "len") (rLenA K) := by subst e; exact call_lenA
theorem cr_sumK (hc : X.calm = true) : CallR X (.builtin "sum") (rSum K) := by subst e; exact cr_sum hc
theorem cr_minK (hc : X.calm = true) : CallR X (.builtin "min") (rMin K) := by subst e; exact cr_min hc
theorem cr_maxK (hc : X.calm = true) : CallR X (.builtin "max") (rMax K) := by subst e; exact cr_max hc
theorem cr_anyK (hc : X.calm = true) : CallR X (.builtin "any") (rAny K) := by subst e; exact cr_any hc
theorem cr_allK (hc : X.calm = true) : CallR X (.builtin "all") (rAll K) := by subst e; exact cr_all hc
theorem call_isiK' : CallR X (.builtin "isinstance") (rIsi K) := by subst e; exact call_isi
theorem call_listK : CallR X (.type "list") (rListOf K) := by subst e; exact call_list_of
theorem call_tupleK : CallR X (.type "tuple") (rTupleOf K) := by subst e; exact call_tuple_of
theorem op_eqDK (hu : X.A.units + 64 < cLine) : OpR X (compareOp .Eq) (rEqD K) := by subst e; exact op_eqD hu
theorem op_neDK (hu : X.A.units + 64 < cLine) : OpR X (compareOp .NotEq) (rNeD K) := by subst e; exact op_neD hu
theorem op_ltTK (hu : X.A.units < cLine) : OpR X (compareOp .Lt) (rLtT K) := by subst e; exact op_ltT hu
theorem op_catTK : OpR X (binaryOp .Add) (rCatT K) := by subst e; exact op_catT
theorem op_inK : OpR X (compareOp .In) (rIn K false) := by subst e; exact op_in_seq
theorem op_notInK : OpR X (compareOp .NotIn) (rIn K true) := by subst e; exact op_notIn_seq
theorem pi_listK {tg l : Expr} {tl : TE} (hl : PE X l tl) : PI X tg l (iList K tl) := by subst e; exact pi_list hl
theorem pi_tupK {tg l : Expr} {tl : TE} (hl : PE X l tl) : PI X tg l (iTup K tl) := by subst e; exact pi_tup hl
theorem pg_tupK {es : List Expr} {k : Nat} {t : TGs} {pos : Pos} (n : Nat) (hc : X.calm = true) (h : PGs X es t) (hn : (assignEach es X.env).length = n := by rfl) (hst : (assignEach es X.env).findIdx? (·.1) = none := by rfl) : PG X (.Tuple es k pos) (gTup K n t) := by subst e; exact pg_tup hc h hn hst
theorem pg_lstK {es : List Expr} {k : Nat} {t : TGs} {pos : Pos} (n : Nat) (hc : X.calm = true) (h : PGs X es t) (hn : (assignEach es X.env).length = n := by rfl) (hst : (assignEach es X.env).findIdx? (·.1) = none := by rfl) : PG X (.Tuple es k pos) (gLst K n t) := by subst e; exact pg_lst hc h hn hst
end
section
variable {H : Hp} {Q : VK} {K : PySem.W.Frag} {p : Addr} {xs : List V}
theorem i_listOf (h : SqL K H p xs) (q : ∀ l, H l = none → Q (.ref l) (upd H l (.lst xs))) : rListOf K [.ref p] H Q := ⟨p, xs, rfl, .inl h, q⟩
theorem i_listOfT (h : SqT K H p xs) (q : ∀ l, H l = none → Q (.ref l) (upd H l (.lst xs))) : rListOf K [.ref p] H Q := ⟨p, xs, rfl, .inr h, q⟩
end
theorem wipe_one {σ σ1 : L2.St} {k : Nat} (e : List.set σ k none = σ1) : wipe σ [k] = σ1 := e
theorem wipe_two {σ σ1 σ2 : L2.St} {j k : Nat} (e : List.set σ k none = σ1) (e2 : List.set σ1 j none = σ2) : wipe σ [j, k] = σ2 := by
  show List.set (List.set σ k none) j none = σ2
  rw [e, e2]
theorem wipe_three {σ σ1 σ2 σ3 : L2.St} {i j k : Nat} (e : List.set σ k none = σ1) (e2 : List.set σ1 j none = σ2) (e3 : List.set σ2 i none = σ3) : wipe σ [i, j, k] = σ3 := by
  show List.set (List.set (List.set σ k none) j none) i none = σ3
  rw [e, e2, e3]
end Hf
namespace K41
open PySem PySem.Spec PyProof.Rows L2 Hf
local macro_rules | `(tactic| walk_at "g_ne") => `(tactic| first | assumption | (apply Hf.ne_at; assumption) | ((with_reducible refine' Hf.ne_new ?n9 ?h9); (case n9 => assumption); (case h9 => walk_at "g_lk")) | ((with_reducible refine' Hf.ne_new' ?n9 ?h9); (case n9 => assumption); (case h9 => walk_at "g_lk")) | fail "g_ne")
local macro_rules | `(tactic| walk_at "g_lk") => `(tactic| first | (with_reducible assumption) | (with_reducible exact L2.upd_same) | ((with_reducible refine' Hf.lk_new ?n9 ?h9); (case n9 => assumption); (case h9 => walk_at "g_lk")) | ((with_reducible refine' Hf.lk_updG ?g9 ?n9 ?h9); (case g9 => ((fail_if_success ((apply Hf.Guard.of); assumption)); exact trivial)); (case n9 => walk_at "g_ne"); (case h9 => walk_at "g_lk")) | ((with_reducible refine' Hf.lk_same ?n9 ?h9); (case n9 => assumption); (case h9 => walk_at "g_lk")) | ((with_reducible refine' Hf.lk_but ?m9 ?n9 ?h9); (case m9 => assumption); (case n9 => walk_at "g_ne"); (case h9 => walk_at "g_lk")) | ((with_reducible refine' Hf.lk_but2 ?m9 ?n9 ?n8 ?h9); (case m9 => assumption); (case n9 => walk_at "g_ne"); (case n8 => walk_at "g_ne"); (case h9 => walk_at "g_lk")) | fail "g_lk")
local macro_rules | `(tactic| walk_at "g_sq") => `(tactic| first | (with_reducible assumption) | (with_reducible exact L2.SqL.of L2.upd_same) | (with_reducible exact L2.SqT.of L2.upd_same) | (with_reducible exact L2.SqL.of (by assumption)) | (with_reducible exact L2.SqT.of (by assumption)) | ((with_reducible refine' Hf.lkL_new ?n9 ?h9); (case n9 => assumption); (case h9 => walk_at "g_sq")) | ((with_reducible refine' Hf.lkT_new ?n9 ?h9); (case n9 => assumption); (case h9 => walk_at "g_sq")) | ((with_reducible refine' Hf.lkL_updG ?g9 ?n9 ?h9); (case g9 => ((fail_if_success ((apply Hf.Guard.of); assumption)); exact trivial)); (case n9 => walk_at "g_ne"); (case h9 => walk_at "g_sq")) | ((with_reducible refine' Hf.lkT_updG ?g9 ?n9 ?h9); (case g9 => ((fail_if_success ((apply Hf.Guard.of); assumption)); exact trivial)); (case n9 => walk_at "g_ne"); (case h9 => walk_at "g_sq")) | ((with_reducible refine' L2.Same.seq ?n9 ?h9); (case n9 => assumption); (case h9 => walk_at "g_sq")) | ((with_reducible refine' Hf.Same.seqT ?n9 ?h9); (case n9 => assumption); (case h9 => walk_at "g_sq")) | ((with_reducible refine' Hf.But.seq ?m9 ?n9 ?h9); (case m9 => assumption); (case n9 => walk_at "g_ne"); (case h9 => walk_at "g_sq")) | ((with_reducible refine' Hf.But.seqT ?m9 ?n9 ?h9); (case m9 => assumption); (case n9 => walk_at "g_ne"); (case h9 => walk_at "g_sq")) | ((with_reducible refine' Hf.But2.seq ?m9 ?n9 ?n8 ?h9); (case m9 => assumption); (case n9 => walk_at "g_ne"); (case n8 => walk_at "g_ne"); (case h9 => walk_at "g_sq")) | ((with_reducible refine' Hf.But2.seqT ?m9 ?n9 ?n8 ?h9); (case m9 => assumption); (case n9 => walk_at "g_ne"); (case n8 => walk_at "g_ne"); (case h9 => walk_at "g_sq")) | fail "g_sq")
local macro_rules | `(tactic| walk_at "g_but") => `(tactic| first | exact Hf.But.refl _ _ | assumption | (refine Hf.But.newT (by assumption) ?_; walk_at "g_but") | (refine Hf.But.upd ?_; walk_at "g_but") | (refine Hf.But.transT (by assumption) ?_; walk_at "g_but") | (refine Hf.But.transS (by assumption) ?_; walk_at "g_but") | fail "g_but")
local macro_rules | `(tactic| walk_at "g_but2") => `(tactic| first | exact Hf.But2.refl _ _ _ | assumption | (refine Hf.But2.newT (by assumption) ?_; walk_at "g_but2") | (refine Hf.But2.updL ?_; walk_at "g_but2") | (refine Hf.But2.updR ?_; walk_at "g_but2") | (refine Hf.But2.transT (by assumption) ?_; walk_at "g_but2") | (refine Hf.But2.transS (by assumption) ?_; walk_at "g_but2") | (refine Hf.But2.transL (by assumption) ?_; walk_at "g_but2") | (refine Hf.But2.transR (by assumption) ?_; walk_at "g_but2") | (refine Hf.But2.mut (by assumption) ?_; walk_at "g_but2") | (refine Hf.But2.butT (by assumption) (by assumption) ?_; walk_at "g_but2") | fail "g_but2")
local macro_rules | `(tactic| walk_at "g_same") => `(tactic| first | exact L2.Same.refl _ | assumption | (refine Hf.Same.newT' (by assumption) ?_; walk_at "g_same") | (refine Hf.Same.mut ?_ (by walk_at "g_free"); walk_at "g_same") | (refine Hf.Same.butT (by assumption) (by walk_at "g_free") ?_; walk_at "g_same") | (refine Hf.Same.but2T (by assumption) (by walk_at "g_free") (by walk_at "g_free") ?_; walk_at "g_same") | (refine Hf.Same.transT (by assumption) ?_; walk_at "g_same") | fail "g_same")
local macro_rules | `(tactic| walk_at "g_free") => `(tactic| first | assumption | ((refine' Hf.Same.free' (by assumption) ?h7); (case h7 => walk_at "g_same")) | ((refine' Hf.But.free (by assumption) ?h7 ?h8); (case h7 => walk_at "g_but"); (case h8 => walk_at "g_lk")) | ((refine' Hf.But2.free (by assumption) ?h7 ?h8 ?h6); (case h7 => walk_at "g_but2"); (case h8 => walk_at "g_lk"); (case h6 => walk_at "g_lk")) | fail "g_free")
local macro_rules | `(tactic| walk_at "g_set") => `(tactic| first | exact Hf.set_z | exact (Hf.set_s Hf.set_z) | exact (Hf.set_s (Hf.set_s Hf.set_z)) | exact (Hf.set_s (Hf.set_s (Hf.set_s Hf.set_z))) | exact (Hf.set_s (Hf.set_s (Hf.set_s (Hf.set_s Hf.set_z)))) | exact (Hf.set_s (Hf.set_s (Hf.set_s (Hf.set_s (Hf.set_s Hf.set_z))))) | exact (Hf.set_s (Hf.set_s (Hf.set_s (Hf.set_s (Hf.set_s (Hf.set_s Hf.set_z)))))) | exact (Hf.set_s (Hf.set_s (Hf.set_s (Hf.set_s (Hf.set_s (Hf.set_s (Hf.set_s Hf.set_z))))))) | exact (Hf.set_s (Hf.set_s (Hf.set_s (Hf.set_s (Hf.set_s (Hf.set_s (Hf.set_s (Hf.set_s Hf.set_z)))))))) | exact (Hf.set_s (Hf.set_s (Hf.set_s (Hf.set_s (Hf.set_s (Hf.set_s (Hf.set_s (Hf.set_s (Hf.set_s Hf.set_z))))))))) | exact (Hf.set_s (Hf.set_s (Hf.set_s (Hf.set_s (Hf.set_s (Hf.set_s (Hf.set_s (Hf.set_s (Hf.set_s (Hf.set_s Hf.set_z)))))))))) | exact (Hf.set_s (Hf.set_s (Hf.set_s (Hf.set_s (Hf.set_s (Hf.set_s (Hf.set_s (Hf.set_s (Hf.set_s (Hf.set_s (Hf.set_s Hf.set_z))))))))))) | exact (Hf.set_s (Hf.set_s (Hf.set_s (Hf.set_s (Hf.set_s (Hf.set_s (Hf.set_s (Hf.set_s (Hf.set_s (Hf.set_s (Hf.set_s (Hf.set_s Hf.set_z)))))))))))) | exact (Hf.set_s (Hf.set_s (Hf.set_s (Hf.set_s (Hf.set_s (Hf.set_s (Hf.set_s (Hf.set_s (Hf.set_s (Hf.set_s (Hf.set_s (Hf.set_s (Hf.set_s Hf.set_z))))))))))))) | exact (Hf.set_s (Hf.set_s (Hf.set_s (Hf.set_s (Hf.set_s (Hf.set_s (Hf.set_s (Hf.set_s (Hf.set_s (Hf.set_s (Hf.set_s (Hf.set_s (Hf.set_s (Hf.set_s Hf.set_z)))))))))))))) | exact (Hf.set_s (Hf.set_s (Hf.set_s (Hf.set_s (Hf.set_s (Hf.set_s (Hf.set_s (Hf.set_s (Hf.set_s (Hf.set_s (Hf.set_s (Hf.set_s (Hf.set_s (Hf.set_s (Hf.set_s Hf.set_z))))))))))))))) | exact (Hf.set_s (Hf.set_s (Hf.set_s (Hf.set_s (Hf.set_s (Hf.set_s (Hf.set_s (Hf.set_s (Hf.set_s (Hf.set_s (Hf.set_s (Hf.set_s (Hf.set_s (Hf.set_s (Hf.set_s (Hf.set_s Hf.set_z)))))))))))))))) | exact (Hf.set_s (Hf.set_s (Hf.set_s (Hf.set_s (Hf.set_s (Hf.set_s (Hf.set_s (Hf.set_s (Hf.set_s (Hf.set_s (Hf.set_s (Hf.set_s (Hf.set_s (Hf.set_s (Hf.set_s (Hf.set_s (Hf.set_s Hf.set_z))))))))))))))))) | exact (Hf.set_s (Hf.set_s (Hf.set_s (Hf.set_s (Hf.set_s (Hf.set_s (Hf.set_s (Hf.set_s (Hf.set_s (Hf.set_s (Hf.set_s (Hf.set_s (Hf.set_s (Hf.set_s (Hf.set_s (Hf.set_s (Hf.set_s (Hf.set_s Hf.set_z)))))))))))))))))) | exact (Hf.set_s (Hf.set_s (Hf.set_s (Hf.set_s (Hf.set_s (Hf.set_s (Hf.set_s (Hf.set_s (Hf.set_s (Hf.set_s (Hf.set_s (Hf.set_s (Hf.set_s (Hf.set_s (Hf.set_s (Hf.set_s (Hf.set_s (Hf.set_s (Hf.set_s Hf.set_z))))))))))))))))))) | exact (Hf.set_s (Hf.set_s (Hf.set_s (Hf.set_s (Hf.set_s (Hf.set_s (Hf.set_s (Hf.set_s (Hf.set_s (Hf.set_s (Hf.set_s (Hf.set_s (Hf.set_s (Hf.set_s (Hf.set_s (Hf.set_s (Hf.set_s (Hf.set_s (Hf.set_s (Hf.set_s Hf.set_z)))))))))))))))))))) | exact (Hf.set_s (Hf.set_s (Hf.set_s (Hf.set_s (Hf.set_s (Hf.set_s (Hf.set_s (Hf.set_s (Hf.set_s (Hf.set_s (Hf.set_s (Hf.set_s (Hf.set_s (Hf.set_s (Hf.set_s (Hf.set_s (Hf.set_s (Hf.set_s (Hf.set_s (Hf.set_s (Hf.set_s Hf.set_z))))))))))))))))))))) | exact (Hf.set_s (Hf.set_s (Hf.set_s (Hf.set_s (Hf.set_s (Hf.set_s (Hf.set_s (Hf.set_s (Hf.set_s (Hf.set_s (Hf.set_s (Hf.set_s (Hf.set_s (Hf.set_s (Hf.set_s (Hf.set_s (Hf.set_s (Hf.set_s (Hf.set_s (Hf.set_s (Hf.set_s (Hf.set_s Hf.set_z)))))))))))))))))))))) | exact (Hf.set_s (Hf.set_s (Hf.set_s (Hf.set_s (Hf.set_s (Hf.set_s (Hf.set_s (Hf.set_s (Hf.set_s (Hf.set_s (Hf.set_s (Hf.set_s (Hf.set_s (Hf.set_s (Hf.set_s (Hf.set_s (Hf.set_s (Hf.set_s (Hf.set_s (Hf.set_s (Hf.set_s (Hf.set_s (Hf.set_s Hf.set_z))))))))))))))))))))))) | fail "g_set")
local macro_rules | `(tactic| walk_at "g_sz") => `(tactic| first | exact Hf.sz4 (by decide) | exact Hf.sz4' (by decide) | (refine Hf.sz4 ?_; simp; done) | (refine Hf.sz4 ?_; simp; omega) | (refine Hf.sz4 ?_; simp only [List.length_cons, List.length_nil, List.length_take, List.length_drop, List.length_map, List.length_append, List.length_replicate]; omega) | (refine Hf.sz4' ?_; simp; omega) | (refine Hf.sz4' ?_; omega) | (refine Hf.sz4 ?_; omega) | fail "g_sz")
local macro_rules | `(tactic| walk_at "g_at") => `(tactic| first | rfl | assumption | fail "g_at")
local macro_rules | `(tactic| walk_at "g_c") => `(tactic| first | assumption | omega | decide | (refine Hf.mulL ?_; omega) | (refine Hf.mulR ?_; omega) | (refine Hf.divS ?_ ?_ <;> omega) | (refine Hf.mulL ?_; split <;> omega) | (refine ⟨?_, ?_, ?_⟩ <;> first | omega | decide) | (refine ⟨?_, ?_⟩ <;> first | assumption | omega) | fail "g_c")
local macro_rules | `(tactic| walk_at "g_ixn") => `(tactic| first | (show L2.ixN _ _ = some 0; rfl) | (show L2.ixN _ _ = some 1; rfl) | (show L2.ixN _ _ = some 2; rfl) | (show L2.ixN _ _ = some 3; rfl) | (show L2.ixN _ _ = some 4; rfl) | (show L2.ixN _ _ = some 5; rfl) | (show L2.ixN _ _ = some 6; rfl) | (show L2.ixN _ _ = some 7; rfl) | assumption | fail "g_ixn")
local macro_rules | `(tactic| walk_at "g_pow") => `(tactic| first | (show (10 : Int) ^ (9 : Int).toNat = 1000000000; rfl) | (show (10 : Int) ^ (18 : Int).toNat = 1000000000000000000; rfl) | (show (10 : Int) ^ (20 : Int).toNat = 100000000000000000000; rfl) | (show (10 : Int) ^ (29 : Int).toNat = 100000000000000000000000000000; rfl) | (show (10 : Int) ^ (26 : Int).toNat = 100000000000000000000000000; rfl) | (show (10 : Int) ^ (10 : Int).toNat = 10000000000; rfl) | (show (10 : Int) ^ (19 : Int).toNat = 10000000000000000000; rfl) | (show (10 : Int) ^ (27 : Int).toNat = 1000000000000000000000000000; rfl) | (show (10 : Int) ^ (28 : Int).toNat = 10000000000000000000000000000; rfl) | (show (10 : Int) ^ (25 : Int).toNat = 10000000000000000000000000; rfl) | (show (10 : Int) ^ (30 : Int).toNat = 1000000000000000000000000000000; rfl) | (show (10 : Int) ^ (2 : Int).toNat = 100; rfl) | (show (10 : Int) ^ (3 : Int).toNat = 1000; rfl) | (show (_ : Int) ^ (3 : Int).toNat = _; rfl) | fail "g_pow")
local macro_rules | `(tactic| walk_at "g_ty") => `(tactic| first | exact .base .non | exact .base (.bl _) | exact .base (.int _) | exact .base (.str _) | exact .base (.lst (by walk_at "g_lk")) | exact .base (.tup (by walk_at "g_lk")) | exact .base (.dK (by walk_at "g_lk")) | exact .base (.dT (by walk_at "g_lk")) | fail "g_ty")
local macro_rules | `(tactic| walk_at "g_pre") => `(tactic| first | (with_reducible assumption) | walk_at "g_lk" | walk_at "g_sq" | walk_at "g_but" | walk_at "g_but2" | walk_at "g_same" | walk_at "g_free" | omega | (refine ⟨?_, ?_⟩ <;> omega) | exact .inl (by omega) | exact .inr (by omega) | assumption | fail "g_pre")
local macro_rules | `(tactic| walk_at "g_call") => `(tactic| fail "g_call: no rule")
local macro_rules | `(tactic| walk_at "g_val") => `(tactic| first
  | (with_reducible refine' Hf.i_I0 ?_)
  | ((with_reducible refine' Hf.i_pow ?k1 ?k2 ?_); (case k1 => walk_at "g_c"); (case k2 => walk_at "g_pow"))
  | ((with_reducible refine' Hf.i_I ?k1 ?_); (case k1 => walk_at "g_c"))
  | (with_reducible refine' Hf.i_U ?_)
  | (with_reducible refine' Hf.i_eqI ?_)
  | (with_reducible refine' Hf.i_neI ?_)
  | (with_reducible refine' Hf.i_eqB ?_)
  | (with_reducible refine' Hf.i_neB ?_)
  | (with_reducible refine' Hf.i_eqS ?_)
  | (with_reducible refine' Hf.i_neS ?_)
  | ((with_reducible refine' Hf.i_ixL ?k1 ?k2 ?_); (case k1 => walk_at "g_sq"); (case k2 => walk_at "g_at"))
  | ((with_reducible refine' Hf.i_ixT ?k1 ?k2 ?_); (case k1 => walk_at "g_sq"); (case k2 => walk_at "g_at"))
  | ((with_reducible refine' Hf.i_ix2I ?k1 ?k2 ?k3 ?_); (case k1 => walk_at "g_sq"); (case k2 => omega); (case k3 => omega); intro _ _)
  | ((with_reducible refine' Hf.i_ix3I ?k1 ?k2 ?k3 ?_); (case k1 => walk_at "g_sq"); (case k2 => omega); (case k3 => omega); intro _ _)
  | ((with_reducible refine' Hf.i_ix4I ?k1 ?k2 ?k3 ?_); (case k1 => walk_at "g_sq"); (case k2 => omega); (case k3 => omega); intro _ _)
  | ((with_reducible refine' Hf.i_ix3R ?k1 ?k2 ?k3 ?_); (case k1 => walk_at "g_sq"); (case k2 => omega); (case k3 => omega); intro _ _)
  | ((with_reducible refine' Hf.i_ix4R ?k1 ?k2 ?k3 ?_); (case k1 => walk_at "g_sq"); (case k2 => omega); (case k3 => omega); intro _ _)
  | (with_reducible refine' Hf.i_abs ?_)
  | (with_reducible refine' Hf.i_int2 ?_)
  | (with_reducible refine' Hf.i_int1 ?_)
  | (with_reducible refine' Hf.i_intb ?_)
  | ((with_reducible refine' Hf.i_isi ?k1 ?k2 ?_); (case k1 => walk_at "g_ty"); (case k2 => first | (show L2.kitB _ _ = some true; decide +kernel) | (show L2.kitB _ _ = some false; decide +kernel)))
  | ((with_reducible refine' Hf.i_lenL ?k1 ?_); (case k1 => walk_at "g_sq"))
  | ((with_reducible refine' Hf.i_lenT ?k1 ?_); (case k1 => walk_at "g_sq"))
  | ((with_reducible refine' Hf.i_appendM ?k1 ?k2 ?_); (case k1 => walk_at "g_lk"); (case k2 => walk_at "g_sz"))
  | ((with_reducible refine' Hf.i_append ?k1 ?k2 ?_); (case k1 => walk_at "g_lk"); (case k2 => walk_at "g_sz"))
  | ((with_reducible refine' Hf.i_bmL ?k1 ?_); (case k1 => walk_at "g_sq"))
  | ((with_reducible refine' Hf.i_setLast ?k1 ?k2 ?_); (case k1 => walk_at "g_lk"); (case k2 => first | omega | (simp; done) | (simp; omega)))
  | ((with_reducible refine' Hf.i_setM ?k1 ?k2 ?k3 ?_); (case k1 => walk_at "g_lk"); (case k2 => omega); (case k3 => first | omega | (simp; done) | (simp; omega)))
  | ((with_reducible refine' Hf.i_setL ?k1 ?k2 ?_); (case k1 => walk_at "g_lk"); (case k2 => walk_at "g_ixn"); (try dsimp only [List.set_cons_zero, List.set_cons_succ])) | fail "g_val")
local macro_rules | `(tactic| walk_at "g_val2") => `(tactic| first
  | ((with_reducible refine' Hf.i_slInitM ?k1 ?_); (case k1 => walk_at "g_sq"); intro _ _)
  | ((with_reducible refine' Hf.i_ixLast ?k1 ?k2 ?_); (case k1 => walk_at "g_sq"); (case k2 => first | omega | (simp; done) | (simp; omega)); intro _ _)
  | ((with_reducible refine' Hf.i_slToM ?k1 ?k2 ?_); (case k1 => walk_at "g_sq"); (case k2 => omega); intro _ _)
  | ((with_reducible refine' Hf.i_slFromM ?k1 ?k2 ?_); (case k1 => walk_at "g_sq"); (case k2 => omega); intro _ _)
  | ((with_reducible refine' Hf.i_slMidM ?k1 ?k2 ?k3 ?_); (case k1 => walk_at "g_sq"); (case k2 => omega); (case k3 => omega); intro _ _)
  | ((with_reducible refine' Hf.i_slTo ?k1 ?k2 ?_); (case k1 => walk_at "g_sq"); (case k2 => omega); intro _ _)
  | ((with_reducible refine' Hf.i_slFrom ?k1 ?k2 ?_); (case k1 => walk_at "g_sq"); (case k2 => omega); intro _ _)
  | ((with_reducible refine' Hf.i_slMid ?k1 ?k2 ?k3 ?_); (case k1 => walk_at "g_sq"); (case k2 => omega); (case k3 => omega); intro _ _)
  | ((with_reducible refine' Hf.i_eqT2 ?k1 ?k2 ?_); (case k1 => walk_at "g_sq"); (case k2 => walk_at "g_sq"))
  | (with_reducible refine' Hf.i_sl ?_)
  | ((with_reducible refine' Hf.i_lenA ?k1 ?_); (case k1 => first | exact Hf.lenA_map (by walk_at "g_sq") | exact Hf.lenA_L (by walk_at "g_sq") | exact Hf.lenA_T (by walk_at "g_sq")))
  | ((with_reducible refine' Hf.i_ixM ?k1 ?k2 ?k3 ?_); (case k1 => walk_at "g_sq"); (case k2 => omega); (case k3 => first | omega | (simp; omega)); intro _ _)
  | ((with_reducible refine' Hf.i_listOf ?k1 ?_); (case k1 => walk_at "g_sq"); intro _ _)
  | ((with_reducible refine' Hf.i_listOfT ?k1 ?_); (case k1 => walk_at "g_sq"); intro _ _)
  | ((with_reducible refine' Hf.i_sum ?k1 ?_); (case k1 => walk_at "g_sq"))
  | ((with_reducible refine' Hf.i_all ?k1 ?_); (case k1 => walk_at "g_sq"))
  | ((with_reducible refine' Hf.i_min ?k1 ?k2 ?_); (case k1 => walk_at "g_sq"); (case k2 => omega); intro _ _ _)
  | ((with_reducible refine' Hf.i_max ?k1 ?k2 ?_); (case k1 => walk_at "g_sq"); (case k2 => omega); intro _ _ _)
  | ((with_reducible refine' Hf.i_eqLI ?k1 ?k2 ?_); (case k1 => walk_at "g_sq"); (case k2 => walk_at "g_sq"))
  | ((with_reducible refine' Hf.i_neLI ?k1 ?k2 ?_); (case k1 => walk_at "g_sq"); (case k2 => walk_at "g_sq"))
  | ((with_reducible refine' Hf.i_eqL0 ?k1 ?k2 ?_); (case k1 => walk_at "g_sq"); (case k2 => walk_at "g_sq"))
  | ((with_reducible refine' Hf.i_eq00 ?k1 ?k2 ?_); (case k1 => walk_at "g_sq"); (case k2 => walk_at "g_sq"))
  | ((with_reducible refine' Hf.i_ne00 ?k1 ?k2 ?_); (case k1 => walk_at "g_sq"); (case k2 => walk_at "g_sq"))
  | ((with_reducible refine' Hf.i_reverse ?k1 ?_); (case k1 => walk_at "g_lk"))
  | ((with_reducible refine' Hf.i_glst ?k1 ?k2 ?_); (case k1 => walk_at "g_sq"); (case k2 => rfl))
  | (with_reducible refine' Hf.i_lc ?_)
  | ((with_reducible refine' Hf.i_turn ?k1 ?_); (case k1 => first | ((show L2.wipe _ [_] = _); (apply Hf.wipe_one); walk_at "g_set") | ((show L2.wipe _ [_, _] = _); (apply Hf.wipe_two); walk_at "g_set"; walk_at "g_set") | ((show L2.wipe _ [_, _, _] = _); (apply Hf.wipe_three); walk_at "g_set"; walk_at "g_set"; walk_at "g_set")))
  | ((with_reducible refine' Hf.i_wiped ?k1 ?_); (case k1 => rfl))
  | (with_reducible refine' Hf.i_yes ?_)
  | (with_reducible refine' Hf.i_nopart ?_)
  | (with_reducible refine' Hf.i_part ?_)
  | (with_reducible refine' Hf.i_exint ?_)
  | ((with_reducible refine' Hf.i_catM ?k1 ?k2 ?k3 ?_); (case k1 => walk_at "g_lk"); (case k2 => walk_at "g_lk"); (case k3 => (simp; omega)); intro _ _)
  | ((with_reducible refine' Hf.i_catM1 ?k1 ?k2 ?k3 ?_); (case k1 => walk_at "g_lk"); (case k2 => walk_at "g_lk"); (case k3 => first | omega | (simp; omega)); intro _ _)
  | ((with_reducible refine' Hf.i_cat ?k1 ?k2 ?k3 ?_); (case k1 => walk_at "g_lk"); (case k2 => walk_at "g_lk"); (case k3 => walk_at "g_sz"); intro _ _)
  | ((with_reducible refine' Hf.i_repM ?k1 ?k2 ?_); (case k1 => walk_at "g_lk"); (case k2 => omega); intro _ _)
  | ((with_reducible refine' Hf.i_rep1 ?k1 ?k2 ?_); (case k1 => walk_at "g_lk"); (case k2 => omega); intro _ _) | fail "g_val2")
local macro_rules | `(tactic| walk_at "g1") => `(tactic| first
  | ((with_reducible refine' Hf.i_var ?k1 ?_); (case k1 => rfl))
  | (with_reducible refine' Hf.i_c ?_)
  | (with_reducible refine' Hf.i_op ?_)
  | (with_reducible refine' Hf.i_cons ?_)
  | (with_reducible refine' Hf.i_nil ?_)
  | (with_reducible refine' Hf.i_seq ?_)
  | (with_reducible refine' Hf.i_asg ?_)
  | ((with_reducible refine' Hf.i_gname ?k1 ?_); (case k1 => walk_at "g_set"))
  | (with_reducible refine' Hf.i_ret ?_)
  | (with_reducible refine' Hf.i_next ?_)
  | (with_reducible refine' Hf.i_ifs ?_)
  | ((with_reducible refine' Hf.ite_y ?k1 ?_); (case k1 => rfl))
  | ((with_reducible refine' Hf.ite_n ?k1 ?_); (case k1 => rfl))
  | (with_reducible refine' Hf.i_test ?_)
  | (with_reducible refine' Hf.i_B ?_)
  | (with_reducible refine' Hf.i_bl ?_)
  | (with_reducible refine' Hf.i_call ?_)
  | (with_reducible refine' Hf.i_cb ?_)
  | (with_reducible refine' Hf.i_tup ?_)
  | (with_reducible refine' Hf.i_lst ?_)
  | ((with_reducible refine' Hf.i_new ?k1 ?_); (case k1 => walk_at "g_sz"); intro _ _)
  | (with_reducible refine' Hf.i_un ?_)
  | (with_reducible refine' Hf.i_and ?_)
  | (with_reducible refine' Hf.i_or ?_)
  | (with_reducible refine' Hf.i_not ?_)
  | (with_reducible refine' Hf.i_andV ?_)
  | (with_reducible refine' Hf.i_orV ?_)
  | (with_reducible refine' Hf.i_notV ?_)
  | (with_reducible refine' Hf.i_ife ?_)
  | (with_reducible refine' Hf.i_drop ?_)
  | (with_reducible refine' Hf.i_par ?_)
  | ((with_reducible refine' Hf.i_par2 ?k1 ?_); (case k1 => (apply Hf.set_par; walk_at "g_set"; walk_at "g_set")))
  | ((with_reducible refine' Hf.i_aug ?k1 ?_); (case k1 => rfl))
  | (with_reducible refine' Hf.i_ip ?_)
  | (with_reducible refine' Hf.i_bm ?_)
  | (with_reducible refine' Hf.i_bm0 ?_)
  | ((with_reducible refine' Hf.i_gtup ?k1 ?k2 ?_); (case k1 => walk_at "g_sq"); (case k2 => rfl))
  | (with_reducible refine' Hf.i_gcons ?_)
  | (with_reducible refine' Hf.i_gnil ?_)
  | (with_reducible refine' Hf.i_gsub ?_)
  | (with_reducible refine' Hf.i_for ?_)
  | (with_reducible refine' Hf.i_rng1 ?_)
  | ((with_reducible refine' Hf.i_rng1' ?k1 ?k2 ?_); (case k1 => omega); (case k2 => omega))
  | (with_reducible refine' Hf.i_rng2 ?_)
  | ((with_reducible refine' Hf.i_rng2' ?k1 ?_); (case k1 => omega))
  | (with_reducible refine' Hf.i_ilist ?_)
  | ((with_reducible refine' Hf.i_ilist' ?k1 ?_); (case k1 => walk_at "g_sq"))
  | (with_reducible refine' Hf.i_itup ?_)
  | ((with_reducible refine' Hf.i_itup' ?k1 ?_); (case k1 => walk_at "g_sq"))
  | (with_reducible refine' Hf.i_retN ?_)
  | (with_reducible refine' Hf.i_brk ?_)
  | (with_reducible refine' Hf.i_cnt ?_)
  | walk_at "g_val"
  | walk_at "g_val2"
  | walk_at "g_call"
  | (with_reducible refine' Hf.i_isn ?_)
  | (with_reducible refine' Hf.i_tru ?_)
  | dsimp only | fail "g1")
local macro_rules | `(tactic| walk_at "go") => `(tactic| repeat walk_at "g1")
local macro_rules | `(tactic| walk_at "goI") => `(tactic| repeat ((fail_if_success (with_reducible refine' Hf.i_ifs ?_)); walk_at "g1"))
local macro_rules | `(tactic| walk_at "goF") => `(tactic| repeat ((fail_if_success (with_reducible refine' Hf.i_for ?_)); walk_at "g1"))

/-! ### lists of lists of whole numbers -/
def RowsX (H : Hp) (xs : List V) (f : Nat → List Int) : Prop := xs.Nodup ∧ ∀ (j : Nat) (v : V), xs[j]? = some v → ∃ r, v = .ref r ∧ H r = some (.lst ((f j).map V.int))
def Off (xs : List V) (H H' : Hp) : Prop := ∀ b o, V.ref b ∉ xs → H b = some o → H' b = some o
theorem RowsX.same {H H' : Hp} {xs : List V} {f : Nat → List Int} (s : Same H H') (h : RowsX H xs f) : RowsX H' xs f := ⟨h.1, fun j v hv => by
  obtain ⟨r, e, q⟩ := h.2 j v hv
  exact ⟨r, e, s _ _ q⟩⟩
theorem RowsX.at_mem {H : Hp} {xs : List V} {f : Nat → List Int} (h : RowsX H xs f) {v : V} (hv : v ∈ xs) : ∃ r j, v = .ref r ∧ xs[j]? = some v ∧ H r = some (.lst ((f j).map V.int)) := by
  obtain ⟨j, hj⟩ := List.mem_iff_getElem?.mp hv
  obtain ⟨r, e, q⟩ := h.2 j v hj
  exact ⟨r, j, e, hj, q⟩
theorem RowsX.there {H : Hp} {xs : List V} {f : Nat → List Int} (h : RowsX H xs f) {r : Addr} (hv : V.ref r ∈ xs) : ∃ o, H r = some o := by
  obtain ⟨r', j, e, _, q⟩ := h.at_mem hv
  cases e
  exact ⟨_, q⟩
theorem RowsX.nil {H : Hp} {f : Nat → List Int} : RowsX H [] f := ⟨List.nodup_nil, fun j v h => by simp at h⟩
theorem RowsX.add {H H' : Hp} {xs : List V} {f : Nat → List Int} {p : Addr} (h : RowsX H xs f) (hp : H p = none) (s : Same H H') (hH : H' p = some (.lst ((f xs.length).map V.int))) : RowsX H' (xs ++ [.ref p]) f := by
  have np : V.ref p ∉ xs := fun m => by
    obtain ⟨o, q⟩ := h.there m
    rw [hp] at q
    cases q
  refine ⟨List.nodup_append.mpr ⟨h.1, by simp, fun a ha b hb => by
    rw [List.mem_singleton.mp hb]
    exact fun e => np (e ▸ ha)⟩, fun j v hv => ?_⟩
  by_cases c : j < xs.length
  · rw [List.getElem?_append_left c] at hv
    obtain ⟨r, e, q⟩ := h.2 j v hv
    exact ⟨r, e, s _ _ q⟩
  · have e : j = xs.length := by
      have := (List.getElem?_eq_some_iff.mp hv).1
      simp at this
      omega
    subst e
    rw [List.getElem?_append_right (Nat.le_refl _), Nat.sub_self] at hv
    simp at hv
    exact ⟨p, hv.symm, hH⟩
theorem nodup_at {xs : List V} (h : xs.Nodup) {i j : Nat} {v : V} (hi : xs[i]? = some v) (hj : xs[j]? = some v) : i = j := by
  obtain ⟨a1, b1⟩ := List.getElem?_eq_some_iff.mp hi
  obtain ⟨a2, b2⟩ := List.getElem?_eq_some_iff.mp hj
  have h' := List.pairwise_iff_getElem.mp h
  rcases Nat.lt_trichotomy i j with c | c | c
  · exact absurd (b1.trans b2.symm) (h' i j a1 a2 c)
  · exact c
  · exact absurd (b2.trans b1.symm) (h' j i a2 a1 c)
theorem RowsX.put {H : Hp} {xs : List V} {f : Nat → List Int} {i : Nat} {r : Addr} {ys : List Int} (h : RowsX H xs f) (hx : xs[i]? = some (.ref r)) : RowsX (L2.upd H r (.lst (ys.map V.int))) xs (fun j => if j = i then ys else f j) := by
  refine ⟨h.1, fun j v hv => ?_⟩
  obtain ⟨r', e, q⟩ := h.2 j v hv
  by_cases c : j = i
  · subst c
    rw [hx] at hv
    cases hv
    cases e
    exact ⟨r, rfl, by rw [L2.upd_same]; simp⟩
  · refine ⟨r', e, ?_⟩
    have n : r' ≠ r := fun z => by
      subst e
      subst z
      exact c (nodup_at h.1 hv hx)
    rw [L2.upd_ne n]
    simp [c]
    exact q
theorem RowsX.congr {H : Hp} {xs : List V} {f g : Nat → List Int} (h : RowsX H xs f) (e : ∀ j, j < xs.length → f j = g j) : RowsX H xs g := ⟨h.1, fun j v hv => by
  obtain ⟨r, e1, q⟩ := h.2 j v hv
  exact ⟨r, e1, by rw [← e j (List.getElem?_eq_some_iff.mp hv).1]; exact q⟩⟩
theorem Off.refl {xs : List V} {H : Hp} : Off xs H H := fun _ _ _ h => h
theorem Off.trans {xs : List V} {H H1 H2 : Hp} (a : Off xs H H1) (b : Off xs H1 H2) : Off xs H H2 := fun r o n h => b r o n (a r o n h)
theorem Off.of {xs : List V} {H H' : Hp} (s : Same H H') : Off xs H H' := fun r o _ h => s r o h
theorem Off.put {xs : List V} {H H1 : Hp} {r : Addr} {o : HO} (a : Off xs H H1) (hr : V.ref r ∈ xs) : Off xs H (L2.upd H1 r o) := fun b u n h => by
  rw [L2.upd_ne (fun z => n (by rw [z]; exact hr))]
  exact a b u n h
theorem Same.off {H0 H H' : Hp} {xs : List V} (s : Same H0 H) (n : ∀ r, V.ref r ∈ xs → H0 r = none) (o : Off xs H H') : Same H0 H' := fun b u h => o b u (fun m => by
  rw [n b m] at h
  cases h) (s b u h)
theorem dp_rows {K : PySem.W.Frag} {H : Hp} : ∀ (xs : List V) (f : Nat → List Int), (∀ (j : Nat) (v : V), xs[j]? = some v → ∃ r, v = .ref r ∧ H r = some (.lst ((f j).map V.int))) → DpAll K H xs ((List.range xs.length).map fun j => .list ((f j).map PyData.int))
  | [], f, _ => .nil
  | v :: xs, f, h => by
    rw [List.length_cons, List.range_succ_eq_map, List.map_cons, List.map_map]
    obtain ⟨r, rfl, q⟩ := h 0 v rfl
    exact .cons (.lst (SqL.of q) (dp_ints _)) (dp_rows xs (fun j => f (j + 1)) fun j w hw => h (j + 1) w (by simpa using hw))
theorem eqvAll_rows : ∀ l : List (List Int), PyData.eqvAll (l.map fun y => .list (y.map PyData.int)) (l.map fun y => .list (y.map PyData.int)) = true
  | [] => by simp [PyData.eqvAll]
  | y :: l => by
    rw [List.map_cons, PyData.eqvAll, eqvAll_rows l, PyData.eqv, eqvAll_ints]
    simp
theorem shaped_rows : ∀ l : List (List Int), SeqAt.shaped (.list (l.map fun y => .list (y.map PyData.int))) = true := by
  have h1 : ∀ l : List (List Int), PyData.canLayAll0 (l.map fun y => .list (y.map PyData.int)) = true := by
    intro l
    induction l with
    | nil => simp [PyData.canLayAll0]
    | cons y l ih =>
      rw [List.map_cons, PyData.canLayAll0, ih]
      simp [PyData.canLay0, canLay_ints]
  have h2 : ∀ l : List (List Int), PyData.depthAll (l.map fun y => .list (y.map PyData.int)) ≤ 2 := by
    intro l
    induction l with
    | nil => simp [PyData.depthAll]
    | cons y l ih =>
      have := depth_ints y
      rw [List.map_cons, PyData.depthAll]
      simp [PyData.depth]
      omega
  intro l
  unfold SeqAt.shaped
  have a := h1 l
  have b := h2 l
  simp [PyData.canLay0, PyData.depth, a]
  omega
theorem i_neRows {K : PySem.W.Frag} {H : Hp} {Q : VK} {p r : Addr} {xs ys : List V} {f : Nat → List Int} (h1 : SqL K H p xs) (h2 : SqL K H r ys) (r1 : RowsX H xs f) (r2 : RowsX H ys f) (e : xs.length = ys.length) (q : Q (.bl false) H) : rNeD K (.ref p) (.ref r) H Q := by
  have d1 := dp_rows (K := K) xs f r1.2
  have d2 := dp_rows (K := K) ys f r2.2
  rw [← e] at d2
  have e1 : ((List.range xs.length).map fun j => PyData.list ((f j).map PyData.int)) = ((List.range xs.length).map f).map fun y => .list (y.map PyData.int) := by rw [List.map_map]; rfl
  rw [e1] at d1 d2
  exact ⟨_, _, .lst h1 d1, .lst h2 d2, shaped_rows _, shaped_rows _, by rw [PyData.eqv, eqvAll_rows]; exact q⟩
theorem RowsX.upd {H : Hp} {xs : List V} {f : Nat → List Int} {D : Addr} {o : HO} (h : RowsX H xs f) (n : ∀ r, V.ref r ∈ xs → r ≠ D) : RowsX (L2.upd H D o) xs f := ⟨h.1, fun j v hv => by
  obtain ⟨r, e, q⟩ := h.2 j v hv
  refine ⟨r, e, ?_⟩
  rw [L2.upd_ne (n r (by rw [← e]; exact List.mem_of_getElem? hv))]
  exact q⟩
theorem RowsX.off {H H' : Hp} {xs zs : List V} {f : Nat → List Int} (h : RowsX H xs f) (o : Off zs H H') (n : ∀ r, V.ref r ∈ xs → V.ref r ∉ zs) : RowsX H' xs f := ⟨h.1, fun j v hv => by
  obtain ⟨r, e, q⟩ := h.2 j v hv
  exact ⟨r, e, o r _ (n r (by rw [← e]; exact List.mem_of_getElem? hv)) q⟩⟩
def rotI (ms : List Int) (k : Nat) : List Int := ms.drop k ++ ms.take k
theorem rot_at {ms : List Int} {k j : Nat} (hk : k < ms.length) (hj : j < ms.length) : (rotI ms k)[j]? = ms[(k + j) % ms.length]? := by
  unfold rotI
  by_cases c : k + j < ms.length
  · rw [List.getElem?_append_left (by rw [List.length_drop]; omega), List.getElem?_drop, Nat.mod_eq_of_lt c]
  · rw [List.getElem?_append_right (by rw [List.length_drop]; omega), List.length_drop, List.getElem?_take_of_lt (by omega)]
    congr 1
    rw [Nat.mod_eq_sub_mod (by omega), Nat.mod_eq_of_lt (by omega)]
    omega
theorem rot_len {ms : List Int} {k : Nat} (hk : k ≤ ms.length) : (rotI ms k).length = ms.length := by
  unfold rotI
  simp
  omega
theorem rot_due {ms : List Int} {k : Nat} (hk : k < ms.length) : (List.range ms.length).map (fun j => ms.getD ((k + j) % ms.length) 0) = rotI ms k := by
  refine List.ext_getElem? fun j => ?_
  by_cases c : j < ms.length
  · have h1 : (k + j) % ms.length < ms.length := Nat.mod_lt _ (by omega)
    rw [List.getElem?_map, List.getElem?_range c, rot_at hk c, List.getElem?_eq_getElem h1]
    simp [List.getD, List.getElem?_eq_getElem h1]
  · rw [List.getElem?_eq_none (by simp; omega), List.getElem?_eq_none (by rw [rot_len (by omega)]; omega)]
section
variable {P : Program} {w : World} {K : PySem.W.Frag} {mg : Str → Option Value} {base : Heap}
def topS (i : Nat) : Stmt := PySem.Challenge.pw_hostfields_k41_rings_of_plans.main.body.getD i (.Pass ⟨0, 0, 0, 0⟩)
abbrev s_ring_of : Stmt := topS 1
abbrev s_l_purse : Stmt := topS 3
abbrev s_l_draw : Stmt := topS 4
abbrev s_l_whole : Stmt := topS 5
abbrev s_l_numbers : Stmt := topS 6
abbrev s_l_listed : Stmt := topS 7
abbrev s_l_right : Stmt := topS 8
abbrev s_law : Stmt := topS 9
theorem sc_ring_of : FnScope ["plan", "k"] ["plan"] (defScope s_ring_of) := ⟨rfl, rfl, rfl, by decide +kernel, rfl, by decide +kernel, by decide +kernel⟩
theorem sc_l_purse : FnScope ["_law_script", "_law_cells"] ["_law_script"] (defScope s_l_purse) := ⟨rfl, rfl, rfl, by decide +kernel, rfl, by decide +kernel, by decide +kernel⟩
theorem sc_l_draw : FnScope ["_law_purse_here", "_law_out_of", "_law_cells", "_law_turn", "_law_at", "_law_cell", "_law_number", "_law_other"] ["_law_purse_here", "_law_out_of"] (defScope s_l_draw) := ⟨rfl, rfl, rfl, by decide +kernel, rfl, by decide +kernel, by decide +kernel⟩
theorem sc_l_whole : FnScope ["_law_found"] ["_law_found"] (defScope s_l_whole) := ⟨rfl, rfl, rfl, by decide +kernel, rfl, by decide +kernel, by decide +kernel⟩
theorem sc_l_numbers : FnScope ["_law_found", "_law_due", "_law_number"] ["_law_found", "_law_due"] (defScope s_l_numbers) := ⟨rfl, rfl, rfl, by decide +kernel, rfl, by decide +kernel, by decide +kernel⟩
theorem sc_l_listed : FnScope ["_law_purse_here", "_law_found", "_law_k"] ["_law_purse_here"] (defScope s_l_listed) := ⟨rfl, rfl, rfl, by decide +kernel, rfl, by decide +kernel, by decide +kernel⟩
theorem sc_l_right : FnScope ["_law_found", "_law_some", "_law_k", "_law_place"] ["_law_found", "_law_some"] (defScope s_l_right) := ⟨rfl, rfl, rfl, by decide +kernel, rfl, by decide +kernel, by decide +kernel⟩
theorem sc_law : FnScope ["_law_script", "_law_purse_here", "_law_turn", "_law_some", "_law_handed", "_law_again", "_law_found", "_law_kept", "_law_one"] ["_law_script"] (defScope s_law) := ⟨rfl, rfl, rfl, by decide +kernel, rfl, by decide +kernel, by decide +kernel⟩
structure Txt (K : PySem.W.Frag) (mg : Str → Option Value) where
  a_ring_of : Addr
  d_ring_of : FuncData
  F_ring_of : Fun K "ring_of" "ring_of" s_ring_of a_ring_of d_ring_of
  g_ring_of : mg "ring_of" = some (.ref a_ring_of)
  b_ring_of : Binds K d_ring_of ["plan"] []
  a_l_purse : Addr
  d_l_purse : FuncData
  F_l_purse : Fun K "_law_purse" "_law_purse" s_l_purse a_l_purse d_l_purse
  g_l_purse : mg "_law_purse" = some (.ref a_l_purse)
  b_l_purse : Binds K d_l_purse ["_law_script"] []
  a_l_draw : Addr
  d_l_draw : FuncData
  F_l_draw : Fun K "_law_draw" "_law_draw" s_l_draw a_l_draw d_l_draw
  g_l_draw : mg "_law_draw" = some (.ref a_l_draw)
  b_l_draw : Binds K d_l_draw ["_law_purse_here", "_law_out_of"] []
  a_l_whole : Addr
  d_l_whole : FuncData
  F_l_whole : Fun K "_law_whole" "_law_whole" s_l_whole a_l_whole d_l_whole
  g_l_whole : mg "_law_whole" = some (.ref a_l_whole)
  b_l_whole : Binds K d_l_whole ["_law_found"] []
  a_l_numbers : Addr
  d_l_numbers : FuncData
  F_l_numbers : Fun K "_law_numbers" "_law_numbers" s_l_numbers a_l_numbers d_l_numbers
  g_l_numbers : mg "_law_numbers" = some (.ref a_l_numbers)
  b_l_numbers : Binds K d_l_numbers ["_law_found", "_law_due"] []
  a_l_listed : Addr
  d_l_listed : FuncData
  F_l_listed : Fun K "_law_listed" "_law_listed" s_l_listed a_l_listed d_l_listed
  g_l_listed : mg "_law_listed" = some (.ref a_l_listed)
  b_l_listed : Binds K d_l_listed ["_law_purse_here"] []
  a_l_right : Addr
  d_l_right : FuncData
  F_l_right : Fun K "_law_right" "_law_right" s_l_right a_l_right d_l_right
  g_l_right : mg "_law_right" = some (.ref a_l_right)
  b_l_right : Binds K d_l_right ["_law_found", "_law_some"] []
  a_law : Addr
  d_law : FuncData
  F_law : Fun K "law" "law" s_law a_law d_law
  g_law : mg "law" = some (.ref a_law)
  b_law : Binds K d_law ["_law_script"] []
  z_bool : mg "bool" = none
  z_int : mg "int" = none
  z_isinstance : mg "isinstance" = none
  z_len : mg "len" = none
  z_list : mg "list" = none
  z_range : mg "range" = none
def Purse (H : Hp) (p c : Addr) (ms : List Int) (t : Int) : Prop := H p = some (.lst [.ref c, .int t]) ∧ H c = some (.lst (ms.map V.int))
def sp_l_purse (K : PySem.W.Frag) : Sp := fun vs H Q E => ∃ (a : Addr) (ns : List Int), vs = [.ref a] ∧ (SqL K H a (ns.map V.int)) ∧ ∀ (p c : Addr) (ms : List Int) (H' : Hp), (H' p = some (.lst [.ref c, .int 0])) → (H' c = some (.lst (ms.map V.int))) → (Same H H') → (H p = none) → (H c = none) → (1 ≤ ms.length ∧ ms.length ≤ 63) → (p ≠ c) → Q (.ref p) H'
theorem use_l_purse {K : PySem.W.Frag} {H : Hp} {Q : VK} {E : XK} {a : Addr} {ns : List Int} (p0 : SqL K H a (ns.map V.int)) (k : ∀ (p c : Addr) (ms : List Int) (H' : Hp), (H' p = some (.lst [.ref c, .int 0])) → (H' c = some (.lst (ms.map V.int))) → (Same H H') → (H p = none) → (H c = none) → (1 ≤ ms.length ∧ ms.length ≤ 63) → (p ≠ c) → Q (.ref p) H') : sp_l_purse K [.ref a] H Q E := ⟨a, ns, rfl, p0, k⟩
theorem len_l_purse {K : PySem.W.Frag} (vs : List V) (H : Hp) (Q : VK) (E : XK) (h : sp_l_purse K vs H Q E) : vs.length = ["_law_script"].length := by
  obtain ⟨_, _, rfl, _⟩ := h
  rfl
local macro_rules | `(tactic| walk_at "g_call") => `(tactic| ((with_reducible refine' use_l_purse ?c0 ?_); (case c0 => walk_at "g_pre"); intros))
theorem ok_l_purse (T : Txt K mg) : FnOk P w K mg base CX0 1 T.a_l_purse T.d_l_purse ["_law_script"] (sp_l_purse K) := by
  refine T.F_l_purse.ok sc_l_purse len_l_purse (fun cdv A outer s H vs Q E hr h => ?_)
  refine ⟨_, (pss_cons (ps_set (i := 1) sc_l_purse.nd rfl (Or.inl rfl) (pe_slice (sl_listK K rfl) (pv 0) po_none (po_some pe_int)))
      (pss_cons (ps_if (pt_cmpR (op_eqDK K rfl hr.units) (pv 1) (pe_lst pa_nil) (nomark _)) (pss_one (ps_set (i := 1) sc_l_purse.nd rfl (Or.inl rfl) (pe_lst (pa_cons pe_int pa_nil)))) pss_nil)
      (pss_one (ps_ret (pe_lst (pa_cons (pv 1) (pa_cons pe_int pa_nil))))))), ?_⟩
  try dsimp only [L2.cxOf, L2.Cx.nox, L2.Cx.wish, List.map_cons, List.map_nil]
  obtain ⟨a, ns, rfl, p0, k⟩ := h
  refine start_to (σ := [some _, none]) rfl ?_
  walk_at "goI"
  rename_i c nc
  refine if_join (fun σ' H' => ∃ (c' : Addr) (ms : List Int), σ' = [some (.ref a), some (.ref c')] ∧ H' c' = some (.lst (ms.map V.int)) ∧ Same H H' ∧ H c' = none ∧ 1 ≤ ms.length ∧ ms.length ≤ 63) (fun nx' hn => ?_) ?_
  · walk_at "go"
    rename_i q nq
    have hq : H q = none := by walk_at "g_free"
    refine ite_d (fun c1 => ?_) (fun c1 => ?_)
    · walk_at "go"
      rename_i r nr
      refine hn _ _ ⟨_, [0], rfl, upd_same, by walk_at "g_same", by walk_at "g_free", by decide, by decide⟩
    · walk_at "go"
      refine hn _ _ ⟨_, _, rfl, by walk_at "g_lk", by walk_at "g_same", nc, ?_, ?_⟩
      · cases h : ns.take (Int.toNat 63) with
        | nil => exact absurd h c1
        | cons x r => simp
      · simp
        omega
  · rintro σ' H' ⟨c', ms, rfl, h1, h2, h3, h4, h5⟩
    walk_at "go"
    rename_i p np
    exact k _ _ _ _ upd_same (by walk_at "g_lk") (by walk_at "g_same") (by walk_at "g_free") h3 ⟨h4, h5⟩ (by walk_at "g_ne")

def sp_l_draw (K : PySem.W.Frag) : Sp := fun vs H Q E => ∃ (p c : Addr) (ms : List Int) (t b : Int), vs = [.ref p, .int b] ∧ (H p = some (.lst [.ref c, .int t])) ∧ (H c = some (.lst (ms.map V.int))) ∧ (p ≠ c) ∧ (1 ≤ ms.length ∧ ms.length ≤ 63) ∧ (0 ≤ t ∧ t ≤ 1000000) ∧ (0 < b ∧ b < 2 ^ 200) ∧ ∀ (d : Int) (ms' : List Int) (H' : Hp), (H' p = some (.lst [.ref c, .int (t + 1)])) → (H' c = some (.lst (ms'.map V.int))) → (0 ≤ d ∧ d < b) → (1 ≤ ms'.length ∧ ms'.length ≤ 63) → (But2 p c H H') → Q (.int d) H'
theorem use_l_draw {K : PySem.W.Frag} {H : Hp} {Q : VK} {E : XK} {p c : Addr} {ms : List Int} {t b : Int} (p0 : H p = some (.lst [.ref c, .int t])) (p1 : H c = some (.lst (ms.map V.int))) (p2 : p ≠ c) (p3 : 1 ≤ ms.length ∧ ms.length ≤ 63) (p4 : 0 ≤ t ∧ t ≤ 1000000) (p5 : 0 < b ∧ b < 2 ^ 200) (k : ∀ (d : Int) (ms' : List Int) (H' : Hp), (H' p = some (.lst [.ref c, .int (t + 1)])) → (H' c = some (.lst (ms'.map V.int))) → (0 ≤ d ∧ d < b) → (1 ≤ ms'.length ∧ ms'.length ≤ 63) → (But2 p c H H') → Q (.int d) H') : sp_l_draw K [.ref p, .int b] H Q E := ⟨p, c, ms, t, b, rfl, p0, p1, p2, p3, p4, p5, k⟩
theorem len_l_draw {K : PySem.W.Frag} (vs : List V) (H : Hp) (Q : VK) (E : XK) (h : sp_l_draw K vs H Q E) : vs.length = ["_law_purse_here", "_law_out_of"].length := by
  obtain ⟨_, _, _, _, _, rfl, _⟩ := h
  rfl
local macro_rules | `(tactic| walk_at "g_call") => `(tactic| ((with_reducible refine' use_l_draw ?c0 ?c1 ?c2 ?c3 ?c4 ?c5 ?_); (case c0 => walk_at "g_pre"); (case c1 => walk_at "g_pre"); (case c2 => walk_at "g_pre"); (case c3 => walk_at "g_pre"); (case c4 => walk_at "g_pre"); (case c5 => walk_at "g_pre"); intros))
theorem ok_l_draw (T : Txt K mg) : FnOk P w K mg base CX0 1 T.a_l_draw T.d_l_draw ["_law_purse_here", "_law_out_of"] (sp_l_draw K) := by
  refine T.F_l_draw.ok sc_l_draw len_l_draw (fun cdv A outer s H vs Q E hr h => ?_)
  refine ⟨_, (pss_cons (ps_asg (pv 0) (pg_lstK K rfl 2 rfl (pgs_cons (pg_name (i := 2) sc_l_draw.nd rfl (Or.inl rfl)) (pgs_cons (pg_name (i := 3) sc_l_draw.nd rfl (Or.inl rfl)) pgs_nil))))
      (pss_cons (ps_set (i := 4) sc_l_draw.nd rfl (Or.inl rfl) (pe_op op_mod (pv 3) (pe_callB (call_lenK K rfl) (by rfl) T.z_len (by decide +kernel) (pa_cons (pv 2) pa_nil))))
      (pss_cons (ps_set (i := 5) sc_l_draw.nd rfl (Or.inl rfl) (pe_ix (ix_listK K rfl) (pv 2) (pv 4) (fun _ _ => rfl)))
      (pss_cons (ps_asg (pe_op op_add (pv 3) pe_int) (pg_sub (pv 0) pe_int set_list))
      (pss_cons (ps_if (pt_cmpR op_ge (pv 5) (pe_op op_pow pe_int pe_int) (nomark _)) (pss_cons (ps_asg (pe_op op_fdivA (pv 5) (pv 1)) (pg_sub (pv 2) (pv 4) set_list))
      (pss_one (ps_ret (pe_op op_mod (pv 5) (pv 1))))) pss_nil)
      (pss_cons (ps_set (i := 6) sc_l_draw.nd rfl (Or.inl rfl) (pe_op op_mod (pe_op op_add (pe_op op_add (pe_op op_mulA (pe_op op_mod (pv 5) pe_int) pe_int) (pe_op op_mulA (pe_op op_mulA (pv 3) (pv 3)) pe_int)) pe_int) pe_int))
      (pss_cons (ps_set (i := 6) sc_l_draw.nd rfl (Or.inl rfl) (pe_op op_mod (pe_op op_mulA (pv 6) (pv 6)) pe_int))
      (pss_cons (ps_set (i := 6) sc_l_draw.nd rfl (Or.inl rfl) (pe_op op_mod (pe_op op_mulA (pv 6) (pv 6)) pe_int))
      (pss_cons (ps_if (pt_cmpR op_gt (pv 1) (pe_op op_pow pe_int pe_int) (nomark _)) (pss_cons (ps_set (i := 7) sc_l_draw.nd rfl (Or.inl rfl) (pe_op op_mod (pe_op op_add (pe_op op_add (pe_op op_mulA (pv 6) pe_int) (pe_op op_mulA (pv 3) pe_int)) pe_int) pe_int))
      (pss_one (ps_set (i := 6) sc_l_draw.nd rfl (Or.inl rfl) (pe_op op_mulA (pv 6) (pe_op op_add (pe_op op_pow (pv 7) pe_int) pe_int))))) pss_nil)
      (pss_one (ps_ret (pe_op op_mod (pv 6) (pv 1))))))))))))), ?_⟩
  try dsimp only [L2.cxOf, L2.Cx.nox, L2.Cx.wish, List.map_cons, List.map_nil]
  obtain ⟨p, c, ms, t, b, rfl, p0, p1, p2, p3, p4, p5, k⟩ := h
  refine start_to (σ := [some _, some _, none, none, none, none, none, none]) rfl ?_
  have hl : 0 < (ms.length : Int) := by omega
  have hm0 := Int.emod_nonneg t (show (ms.length : Int) ≠ 0 by omega)
  have hm1 := Int.emod_lt_of_pos t hl
  walk_at "go"
  refine ite_d (fun c1 => ?_) (fun c1 => ?_)
  · walk_at "go"
    exact k _ (_) _ (by walk_at "g_lk") upd_same ⟨Int.emod_nonneg _ (by omega), Int.emod_lt_of_pos _ (by omega)⟩ (by rw [List.length_set]; exact p3) (by walk_at "g_but2")
  · walk_at "go"
    refine ite_d (fun c2 => ?_) (fun c2 => ?_)
    · walk_at "go"
      exact k _ ms _ upd_same (by walk_at "g_lk") ⟨Int.emod_nonneg _ (by omega), Int.emod_lt_of_pos _ (by omega)⟩ p3 (by walk_at "g_but2")
    · walk_at "go"
      exact k _ ms _ upd_same (by walk_at "g_lk") ⟨Int.emod_nonneg _ (by omega), Int.emod_lt_of_pos _ (by omega)⟩ p3 (by walk_at "g_but2")

def sp_l_whole (K : PySem.W.Frag) : Sp := fun vs H Q E => ∃ (x : Int), vs = [.int x] ∧ Q (.bl true) H
theorem use_l_whole {K : PySem.W.Frag} {H : Hp} {Q : VK} {E : XK} {x : Int}  (k : Q (.bl true) H) : sp_l_whole K [.int x] H Q E := ⟨x, rfl, k⟩
theorem len_l_whole {K : PySem.W.Frag} (vs : List V) (H : Hp) (Q : VK) (E : XK) (h : sp_l_whole K vs H Q E) : vs.length = ["_law_found"].length := by
  obtain ⟨_, rfl, _⟩ := h
  rfl
local macro_rules | `(tactic| walk_at "g_call") => `(tactic| ((with_reducible refine' use_l_whole ?_); intros))
theorem ok_l_whole (T : Txt K mg) : FnOk P w K mg base CX0 1 T.a_l_whole T.d_l_whole ["_law_found"] (sp_l_whole K) := by
  refine T.F_l_whole.ok sc_l_whole len_l_whole (fun cdv A outer s H vs Q E hr h => ?_)
  refine ⟨_, (pss_one (ps_ret (pe_and (pe_callB (call_isiK' K rfl) (by rfl) T.z_isinstance (by decide +kernel) (pa_cons (pv 0) (pa_cons (pe_bltn (v := .ty "int") rfl T.z_int (by decide +kernel) rfl) pa_nil))) (pe_one (pe_not (pe_callB (call_isiK' K rfl) (by rfl) T.z_isinstance (by decide +kernel) (pa_cons (pv 0) (pa_cons (pe_bltn (v := .ty "bool") rfl T.z_bool (by decide +kernel) rfl) pa_nil)))))))), ?_⟩
  try dsimp only [L2.cxOf, L2.Cx.nox, L2.Cx.wish, List.map_cons, List.map_nil]
  obtain ⟨x, rfl, k⟩ := h
  refine start_to (σ := [some _]) rfl ?_
  walk_at "go"
  exact k

def sp_l_numbers (K : PySem.W.Frag) : Sp := fun vs H Q E => ∃ (a b : Addr) (ms : List Int), vs = [.ref a, .ref b] ∧ (H a = some (.lst (ms.map V.int))) ∧ (SqL K H b (ms.map V.int)) ∧ (ms.length ≤ 100000) ∧ ∀ (H' : Hp), (Same H H') → Q (.bl true) H'
theorem use_l_numbers {K : PySem.W.Frag} {H : Hp} {Q : VK} {E : XK} {a b : Addr} {ms : List Int} (p0 : H a = some (.lst (ms.map V.int))) (p1 : SqL K H b (ms.map V.int)) (p2 : ms.length ≤ 100000) (k : ∀ (H' : Hp), (Same H H') → Q (.bl true) H') : sp_l_numbers K [.ref a, .ref b] H Q E := ⟨a, b, ms, rfl, p0, p1, p2, k⟩
theorem len_l_numbers {K : PySem.W.Frag} (vs : List V) (H : Hp) (Q : VK) (E : XK) (h : sp_l_numbers K vs H Q E) : vs.length = ["_law_found", "_law_due"].length := by
  obtain ⟨_, _, _, rfl, _⟩ := h
  rfl
local macro_rules | `(tactic| walk_at "g_call") => `(tactic| ((with_reducible refine' use_l_numbers ?c0 ?c1 ?c2 ?_); (case c0 => walk_at "g_pre"); (case c1 => walk_at "g_pre"); (case c2 => walk_at "g_pre"); intros))
theorem ok_l_numbers (T : Txt K mg) : FnOk P w K mg base CX0 2 T.a_l_numbers T.d_l_numbers ["_law_found", "_law_due"] (sp_l_numbers K) := by
  have G_l_whole := ok_l_whole (P := P) (w := w) (base := base) T
  refine T.F_l_numbers.ok sc_l_numbers len_l_numbers (fun cdv A outer s H vs Q E hr h => ?_)
  refine ⟨_, (pss_cons (ps_if (PW.pt (pw_or (pt_not (pt_val (pe_callB (call_isiK' K rfl) (by rfl) T.z_isinstance (by decide +kernel) (pa_cons (pv 0) (pa_cons (pe_bltn (v := .ty "list") rfl T.z_list (by decide +kernel) rfl) pa_nil))))) (pw_or1 (pt_cmpR (op_neDK K rfl hr.units) (pv 0) (pv 1) (nomark _))))) (pss_one (ps_ret pe_bl)) pss_nil)
      (pss_one (ps_ret (pe_cmpR (op_eqDK K rfl hr.units) (pe_lc (own := [("_law_number", 2)]) rfl sc_l_numbers.nd (pi_listK K rfl (pv 0)) (blkOk_by (own := [("_law_number", 2)]) (N := ["_law_found", "_law_due", "_law_number"]) (sc := defScope s_l_numbers) (by decide +kernel)) (fun _ _ _ _ _ => (pg_name (i := 2) sc_l_numbers.nd rfl (Or.inl rfl))) (fun _ _ _ _ _ => (pts_one (pt_not (pt_val (pe_call G_l_whole (hr.mono (by decide)) (by rfl) T.g_l_whole T.F_l_whole.kp T.b_l_whole .nil pass0 (pa_cons (pv 2) pa_nil)))))) (fun _ _ _ _ _ => (pv 2))) (pe_lst pa_nil) (nomark _))))), ?_⟩
  try dsimp only [L2.cxOf, L2.Cx.nox, L2.Cx.wish, List.map_cons, List.map_nil]
  obtain ⟨a, b, ms, rfl, p0, p1, p2, k⟩ := h
  refine start_to (σ := [some _, some _, none]) rfl ?_
  walk_at "go"
  refine ite_n (by simp) ?_
  walk_at "go"
  intro D nD
  refine lcL_nil nD (by walk_at "g_sq") ?_ ?_
  · intro i x H2 Z Y hx hs hy
    obtain ⟨z, rfl, hz⟩ := ints_at hx
    walk_at "go"
    exact hy _ (by walk_at "g_same")
  · intro H2 hs hD
    walk_at "go"
    exact k _ (by walk_at "g_same")

def sp_ring_of (K : PySem.W.Frag) : Sp := fun vs H Q E => ∃ (a : Addr) (ms : List Int), vs = [.ref a] ∧ (SqL K H a (ms.map V.int)) ∧ (ms.length ≤ 1000) ∧ ∀ (b : Addr) (xs : List V) (H' : Hp), (H' b = some (.lst xs)) → (Same H H') → (H b = none) → (xs.length = ms.length) → (RowsX H' xs (rotI ms)) → (∀ r, V.ref r ∈ xs → H r = none ∧ r ≠ b) → Q (.ref b) H'
theorem use_ring_of {K : PySem.W.Frag} {H : Hp} {Q : VK} {E : XK} {a : Addr} {ms : List Int} (p0 : SqL K H a (ms.map V.int)) (p1 : ms.length ≤ 1000) (k : ∀ (b : Addr) (xs : List V) (H' : Hp), (H' b = some (.lst xs)) → (Same H H') → (H b = none) → (xs.length = ms.length) → (RowsX H' xs (rotI ms)) → (∀ r, V.ref r ∈ xs → H r = none ∧ r ≠ b) → Q (.ref b) H') : sp_ring_of K [.ref a] H Q E := ⟨a, ms, rfl, p0, p1, k⟩
theorem len_ring_of {K : PySem.W.Frag} (vs : List V) (H : Hp) (Q : VK) (E : XK) (h : sp_ring_of K vs H Q E) : vs.length = ["plan"].length := by
  obtain ⟨_, _, rfl, _⟩ := h
  rfl
local macro_rules | `(tactic| walk_at "g_call") => `(tactic| ((with_reducible refine' use_ring_of ?c0 ?c1 ?_); (case c0 => walk_at "g_pre"); (case c1 => walk_at "g_pre"); intros))
theorem ok_ring_of (T : Txt K mg) : FnOk P w K mg base CX0 1 T.a_ring_of T.d_ring_of ["plan"] (sp_ring_of K) := by
  refine T.F_ring_of.ok sc_ring_of len_ring_of (fun cdv A outer s H vs Q E hr h => ?_)
  refine ⟨_, (pss_one (ps_ret (pe_lc (own := [("k", 1)]) rfl sc_ring_of.nd (pi_range1 rfl T.z_range (pa_cons (pe_callB (call_lenK K rfl) (by rfl) T.z_len (by decide +kernel) (pa_cons (pv 0) pa_nil)) pa_nil)) (blkOk_by (own := [("k", 1)]) (N := ["plan", "k"]) (sc := defScope s_ring_of) (by decide +kernel)) (fun _ _ _ _ _ => (pg_name (i := 1) sc_ring_of.nd rfl (Or.inl rfl))) (fun _ _ _ _ _ => pts_nil) (fun _ _ _ _ _ => (pe_op op_cat (pe_slice (sl_listK K rfl) (pv 0) (po_some (pv 1)) po_none) (pe_slice (sl_listK K rfl) (pv 0) po_none (po_some (pv 1)))))))), ?_⟩
  try dsimp only [L2.cxOf, L2.Cx.nox, L2.Cx.wish, List.map_cons, List.map_nil]
  obtain ⟨a, ms, rfl, p0, p1, k⟩ := h
  refine start_to (σ := [some _, none]) rfl ?_
  walk_at "go"
  intro D nD
  refine lcR (fun i acc H1 => acc.length = i ∧ Same H H1 ∧ RowsX H1 acc (rotI ms) ∧ ∀ r, V.ref r ∈ acc → H r = none ∧ r ≠ D) nD ⟨rfl, Same.new nD, RowsX.nil, fun r h => absurd h List.not_mem_nil⟩ ?_ ?_
  · rintro i acc H1 Z Y hi ⟨rfl, h1, h2, h3⟩ hD hz _
    have q0 : SqL K H1 a (ms.map V.int) := h1.seq p0
    walk_at "go"
    rename_i q1 n1 q2 n2 q3 n3
    have e : ms.drop (0 + (acc.length : Int)).toNat ++ ms.take (0 + (acc.length : Int)).toNat = rotI ms acc.length := by
      unfold rotI
      rw [show (0 + (acc.length : Int)).toNat = acc.length by omega]
    rw [e]
    have n4 : H1 q3 = none := by walk_at "g_free"
    have sz : acc.length < sizeLine := sz4' (by omega)
    have nq : q3 ≠ D := by walk_at "g_ne"
    refine hz _ _ (by walk_at "g_lk") sz ⟨by simp, by walk_at "g_same", ?_, ?_⟩
    · refine RowsX.upd (RowsX.add (H := H1) h2 n4 ?_ L2.upd_same) ?_
      · walk_at "g_same"
      · intro r hr
        rcases List.mem_append.mp hr with g | g
        · exact (h3 r g).2
        · cases List.mem_singleton.mp g
          exact nq
    · intro r hr
      rcases List.mem_append.mp hr with g | g
      · exact h3 r g
      · cases List.mem_singleton.mp g
        exact ⟨h1.free n4, nq⟩
  · rintro acc H1 ⟨e, h1, h2, h3⟩ hD
    exact k _ _ _ hD h1 nD (by omega) h2 h3
def sp_l_listed (K : PySem.W.Frag) : Sp := fun vs H Q E => ∃ (p c : Addr) (ms : List Int) (t : Int), vs = [.ref p] ∧ (H p = some (.lst [.ref c, .int t])) ∧ (H c = some (.lst (ms.map V.int))) ∧ (p ≠ c) ∧ (1 ≤ ms.length ∧ ms.length ≤ 63) ∧ (0 ≤ t ∧ t ≤ 900000) ∧ ∀ (b : Addr) (ns ms' : List Int) (t' : Int) (H' : Hp), (H' p = some (.lst [.ref c, .int t'])) → (H' c = some (.lst (ms'.map V.int))) → (H' b = some (.lst (ns.map V.int))) → (t ≤ t' ∧ t' ≤ t + 200) → (1 ≤ ms'.length ∧ ms'.length ≤ 63) → (But2 p c H H') → (H b = none) → (1 ≤ ns.length ∧ ns.length ≤ 30) → (b ≠ p ∧ b ≠ c) → Q (.ref b) H'
theorem use_l_listed {K : PySem.W.Frag} {H : Hp} {Q : VK} {E : XK} {p c : Addr} {ms : List Int} {t : Int} (p0 : H p = some (.lst [.ref c, .int t])) (p1 : H c = some (.lst (ms.map V.int))) (p2 : p ≠ c) (p3 : 1 ≤ ms.length ∧ ms.length ≤ 63) (p4 : 0 ≤ t ∧ t ≤ 900000) (k : ∀ (b : Addr) (ns ms' : List Int) (t' : Int) (H' : Hp), (H' p = some (.lst [.ref c, .int t'])) → (H' c = some (.lst (ms'.map V.int))) → (H' b = some (.lst (ns.map V.int))) → (t ≤ t' ∧ t' ≤ t + 200) → (1 ≤ ms'.length ∧ ms'.length ≤ 63) → (But2 p c H H') → (H b = none) → (1 ≤ ns.length ∧ ns.length ≤ 30) → (b ≠ p ∧ b ≠ c) → Q (.ref b) H') : sp_l_listed K [.ref p] H Q E := ⟨p, c, ms, t, rfl, p0, p1, p2, p3, p4, k⟩
theorem len_l_listed {K : PySem.W.Frag} (vs : List V) (H : Hp) (Q : VK) (E : XK) (h : sp_l_listed K vs H Q E) : vs.length = ["_law_purse_here"].length := by
  obtain ⟨_, _, _, _, rfl, _⟩ := h
  rfl
local macro_rules | `(tactic| walk_at "g_call") => `(tactic| ((with_reducible refine' use_l_listed ?c0 ?c1 ?c2 ?c3 ?c4 ?_); (case c0 => walk_at "g_pre"); (case c1 => walk_at "g_pre"); (case c2 => walk_at "g_pre"); (case c3 => walk_at "g_pre"); (case c4 => walk_at "g_pre"); intros))
theorem ok_l_listed (T : Txt K mg) : FnOk P w K mg base CX0 2 T.a_l_listed T.d_l_listed ["_law_purse_here"] (sp_l_listed K) := by
  have G_l_draw := ok_l_draw (P := P) (w := w) (base := base) T
  refine T.F_l_listed.ok sc_l_listed len_l_listed (fun cdv A outer s H vs Q E hr h => ?_)
  refine ⟨_, (pss_cons (ps_set (i := 1) sc_l_listed.nd rfl (Or.inl rfl) (pe_lst pa_nil))
      (pss_cons (ps_for PassesOwn.never rfl (pi_range1 rfl T.z_range (pa_cons (pe_op op_add pe_int (pe_call G_l_draw (hr.mono (by decide)) (by rfl) T.g_l_draw T.F_l_draw.kp T.b_l_draw .nil pass0 (pa_cons (pv 0) (pa_cons (pe_ix (ix_listK K rfl) (pe_lst (pa_cons pe_int (pa_cons pe_int pa_nil))) (pe_op op_fdiv (pe_call G_l_draw (hr.mono (by decide)) (by rfl) T.g_l_draw T.F_l_draw.kp T.b_l_draw .nil pass0 (pa_cons (pv 0) (pa_cons pe_int pa_nil))) pe_int) (fun _ _ => rfl)) pa_nil)))) pa_nil)) (pg_name (i := 2) sc_l_listed.nd rfl (Or.inl rfl)) (pss_one (ps_expr (pe_bm PySem.F.plainAttrs_list PySem.F.slot_list_append PySem.F.type_list_append mt_append (pv 1) (pa_cons (pe_ix (ix_listK K rfl) (pe_lst (pa_cons (pe_call G_l_draw (hr.mono (by decide)) (by rfl) T.g_l_draw T.F_l_draw.kp T.b_l_draw .nil pass0 (pa_cons (pv 0) (pa_cons pe_int pa_nil))) (pa_cons (pe_op op_sub (pe_call G_l_draw (hr.mono (by decide)) (by rfl) T.g_l_draw T.F_l_draw.kp T.b_l_draw .nil pass0 (pa_cons (pv 0) (pa_cons (pe_op op_mulA pe_int (pe_op op_pow pe_int pe_int)) pa_nil))) (pe_op op_pow pe_int pe_int)) pa_nil))) (pe_op op_fdiv (pe_call G_l_draw (hr.mono (by decide)) (by rfl) T.g_l_draw T.F_l_draw.kp T.b_l_draw .nil pass0 (pa_cons (pv 0) (pa_cons pe_int pa_nil))) pe_int) (fun _ _ => rfl)) pa_nil)))))
      (pss_one (ps_ret (pv 1))))), ?_⟩
  try dsimp only [L2.cxOf, L2.Cx.nox, L2.Cx.wish, List.map_cons, List.map_nil]
  obtain ⟨p, c, ms, t, rfl, p0, p1, p2, p3, p4, k⟩ := h
  refine start_to (σ := [some _, none, none]) rfl ?_
  walk_at "go"
  rename_i b nb q1 nq1 d1 m1 H1 a1 a2 a3 a4 a5 v hv d2 m2 H2 b1 b2 b3 b4 b5
  have nb' : H2 b = some (.lst []) := by walk_at "g_lk"
  have bp : b ≠ p := by walk_at "g_ne"
  have bc : b ≠ c := by walk_at "g_ne"
  have s0 : But2 p c H H2 := by walk_at "g_but2"
  clear a1 a2 a5 b5 nq1
  refine forR (fun i σ H1 => ∃ (ns ms' : List Int) (t' : Int) (y1 : Option V), σ = [some (.ref p), some (.ref b), y1] ∧ H1 p = some (.lst [.ref c, .int t']) ∧ H1 c = some (.lst (ms'.map V.int)) ∧ H1 b = some (.lst (ns.map V.int)) ∧ (t ≤ t' ∧ t' ≤ t + 2 + 3 * i) ∧ (1 ≤ ms'.length ∧ ms'.length ≤ 63) ∧ But2 p c H H1 ∧ ns.length = i) ⟨[], m2, _, _, rfl, b1, b2, nb', by omega, b4, s0, rfl⟩ ?_ ?_
  · rintro σ1 H3 ⟨ns, ms', t', y1, rfl, h1, h2, h3, h4, h5, h6, h7⟩
    walk_at "go"
    exact k _ _ _ _ _ h1 h2 h3 (by omega) h5 h6 nb (by omega) ⟨bp, bc⟩
  · clear b1 b2 nb'
    rintro i σ1 H3 hi ⟨ns, ms', t', y1, rfl, h1, h2, h3, h4, h5, h6, h7⟩
    walk_at "go"
    rename_i e1 m5 H5 c1 c2 c3 c4 c5 e2 m6 H6 c6 c7 c8 c9 c10 q nq e3 m7 H7 c11 c12 c13 c14 c15 w hw
    exact ⟨ns ++ [w], m7, _, _, rfl, by walk_at "g_lk", by walk_at "g_lk", L2.upd_same, by omega, c14, by walk_at "g_but2", by simp; omega⟩
def sp_l_right (K : PySem.W.Frag) : Sp := fun vs H Q E => ∃ (b s : Addr) (xs : List V) (ms : List Int), vs = [.ref b, .ref s] ∧ (H b = some (.lst xs)) ∧ (SqL K H s (ms.map V.int)) ∧ (RowsX H xs (rotI ms)) ∧ (xs.length = ms.length) ∧ (V.ref s ∉ xs ∧ V.ref b ∉ xs) ∧ (1 ≤ ms.length ∧ ms.length ≤ 1000) ∧ ∀ (H' : Hp), (RowsX H' xs (fun j => (rotI ms j ++ [7]).set 0 5)) → (Off xs H H') → Q (.bl true) H'
theorem use_l_right {K : PySem.W.Frag} {H : Hp} {Q : VK} {E : XK} {b s : Addr} {xs : List V} {ms : List Int} (p0 : H b = some (.lst xs)) (p1 : SqL K H s (ms.map V.int)) (p2 : RowsX H xs (rotI ms)) (p3 : xs.length = ms.length) (p4 : V.ref s ∉ xs ∧ V.ref b ∉ xs) (p5 : 1 ≤ ms.length ∧ ms.length ≤ 1000) (k : ∀ (H' : Hp), (RowsX H' xs (fun j => (rotI ms j ++ [7]).set 0 5)) → (Off xs H H') → Q (.bl true) H') : sp_l_right K [.ref b, .ref s] H Q E := ⟨b, s, xs, ms, rfl, p0, p1, p2, p3, p4, p5, k⟩
theorem len_l_right {K : PySem.W.Frag} (vs : List V) (H : Hp) (Q : VK) (E : XK) (h : sp_l_right K vs H Q E) : vs.length = ["_law_found", "_law_some"].length := by
  obtain ⟨_, _, _, _, rfl, _⟩ := h
  rfl
local macro_rules | `(tactic| walk_at "g_call") => `(tactic| ((with_reducible refine' use_l_right ?c0 ?c1 ?c2 ?c3 ?c4 ?c5 ?_); (case c0 => walk_at "g_pre"); (case c1 => walk_at "g_pre"); (case c2 => walk_at "g_pre"); (case c3 => walk_at "g_pre"); (case c4 => walk_at "g_pre"); (case c5 => walk_at "g_pre"); intros))
theorem ok_l_right (T : Txt K mg) : FnOk P w K mg base CX0 3 T.a_l_right T.d_l_right ["_law_found", "_law_some"] (sp_l_right K) := by
  have G_l_numbers := ok_l_numbers (P := P) (w := w) (base := base) T
  refine T.F_l_right.ok sc_l_right len_l_right (fun cdv A outer s H vs Q E hr h => ?_)
  refine ⟨_, (pss_cons (ps_if (PW.pt (pw_or (pt_not (pt_val (pe_callB (call_isiK' K rfl) (by rfl) T.z_isinstance (by decide +kernel) (pa_cons (pv 0) (pa_cons (pe_bltn (v := .ty "list") rfl T.z_list (by decide +kernel) rfl) pa_nil))))) (pw_or1 (pt_cmpR op_ne (pe_callB (call_lenK K rfl) (by rfl) T.z_len (by decide +kernel) (pa_cons (pv 0) pa_nil)) (pe_callB (call_lenK K rfl) (by rfl) T.z_len (by decide +kernel) (pa_cons (pv 1) pa_nil)) (nomark _))))) (pss_one (ps_ret pe_bl)) pss_nil)
      (pss_cons (ps_for PassesOwn.never rfl (pi_range1 rfl T.z_range (pa_cons (pe_callB (call_lenK K rfl) (by rfl) T.z_len (by decide +kernel) (pa_cons (pv 1) pa_nil)) pa_nil)) (pg_name (i := 2) sc_l_right.nd rfl (Or.inr rfl)) (pss_cons (ps_if (pt_not (pt_val (pe_call G_l_numbers (hr.mono (by decide)) (by rfl) T.g_l_numbers T.F_l_numbers.kp T.b_l_numbers .nil pass0 (pa_cons (pe_ix (ix_listK K rfl) (pv 0) (pv 2) (fun _ _ => rfl)) (pa_cons (pe_lc (own := [("_law_place", 3)]) rfl sc_l_right.nd (pi_range1 rfl T.z_range (pa_cons (pe_callB (call_lenK K rfl) (by rfl) T.z_len (by decide +kernel) (pa_cons (pv 1) pa_nil)) pa_nil)) (blkOk_by (own := [("_law_place", 3)]) (N := ["_law_found", "_law_some", "_law_k", "_law_place"]) (sc := defScope s_l_right) (by decide +kernel)) (fun _ _ _ _ _ => (pg_name (i := 3) sc_l_right.nd rfl (Or.inl rfl))) (fun _ _ _ _ _ => pts_nil) (fun _ _ _ _ _ => (pe_ix (ix_listK K rfl) (pv 1) (pe_op op_mod (pe_op op_add (pv 2) (pv 3)) (pe_callB (call_lenK K rfl) (by rfl) T.z_len (by decide +kernel) (pa_cons (pv 1) pa_nil))) (fun _ _ => rfl)))) pa_nil))))) (pss_one (ps_ret pe_bl)) pss_nil)
      (pss_cons (ps_expr (pe_bm PySem.F.plainAttrs_list PySem.F.slot_list_append PySem.F.type_list_append mt_append (pe_ix (ix_listK K rfl) (pv 0) (pv 2) (fun _ _ => rfl)) (pa_cons pe_int pa_nil)))
      (pss_one (ps_asg pe_int (pg_sub (pe_ix (ix_listK K rfl) (pv 0) (pv 2) (fun _ _ => rfl)) pe_int set_list))))))
      (pss_one (ps_ret pe_bl)))), ?_⟩
  try dsimp only [L2.cxOf, L2.Cx.nox, L2.Cx.wish, List.map_cons, List.map_nil]
  obtain ⟨b, s, xs, ms, rfl, p0, p1, p2, p3, ⟨p4, p5⟩, p6, k⟩ := h
  refine start_to (σ := [some _, some _, none, none]) rfl ?_
  walk_at "go"
  refine ite_n (by simp [p3]) ?_
  walk_at "go"
  refine forR (fun i σ H1 => ∃ (y1 : Option V), σ = [some (.ref b), some (.ref s), y1, none] ∧ RowsX H1 xs (fun j => if j < i then (rotI ms j ++ [7]).set 0 5 else rotI ms j) ∧ Off xs H H1) ⟨_, rfl, RowsX.congr p2 (fun j _ => by simp), Off.refl⟩ ?_ ?_
  · rintro σ H1 ⟨y1, rfl, h1, h2⟩
    walk_at "go"
    exact k _ (RowsX.congr h1 fun j hj => by rw [if_pos (by omega)]) h2
  · rintro i σ H1 hi ⟨y1, rfl, h1, h2⟩
    have hi' : i < xs.length := by omega
    have p7 : SqL K H1 s (ms.map V.int) := by
      rcases p1 with (h | ⟨o, h⟩) | h
      · exact .inl (.inl (h2 _ _ p4 h))
      · exact .inl (.inr ⟨o, h2 _ _ p4 h⟩)
      · exact .inr h
    have p8 : H1 b = some (.lst xs) := h2 _ _ p5 p0
    obtain ⟨r, hr, hq⟩ := h1.2 i xs[i] (List.getElem?_eq_getElem hi')
    have hx : xs[i]? = some (.ref r) := by rw [List.getElem?_eq_getElem hi', hr]
    have hm : V.ref r ∈ xs := List.mem_of_getElem? hx
    have hq' : H1 r = some (.lst ((rotI ms i).map V.int)) := by
      rw [hq]
      simp
    have ha : atI xs (0 + (i : Int)) = some (.ref r) := by
      rw [show (0 + (i : Int)) = (i : Int) by omega]
      exact atI_nat hx
    have rs : r ≠ s := fun z => p4 (by rw [← z]; exact hm)
    have rb : r ≠ b := fun z => p5 (by rw [← z]; exact hm)
    walk_at "go"
    intro D nD
    refine lcR_int (fun j => ms.getD ((i + j) % ms.length) 0) nD (by omega) ?_ ?_
    · intro j H2 Z Y hj hs hz
      have hM := Int.emod_nonneg (0 + (i : Int) + (0 + (j : Int))) (show (ms.length : Int) ≠ 0 by omega)
      have hM1 := Int.emod_lt_of_pos (0 + (i : Int) + (0 + (j : Int))) (show (0 : Int) < ms.length by omega)
      walk_at "go"
      rename_i z hz'
      have e : ((0 + (i : Int) + (0 + (j : Int))) % (ms.length : Int)).toNat = (i + j) % ms.length := by
        rw [show 0 + (i : Int) + (0 + (j : Int)) = ((i + j : Nat) : Int) by omega]
        rfl
      rw [e] at hz'
      have e2 : ms.getD ((i + j) % ms.length) 0 = z := by simp [List.getD, hz']
      rw [e2] at hz
      exact hz _ (Same.refl _)
    · intro H2 hs hD
      rw [show ((ms.length : Int)).toNat = ms.length by omega, rot_due (by omega)] at hD
      have q1 : H2 r = some (.lst ((rotI ms i).map V.int)) := hs _ _ hq'
      have q2 : (rotI ms i).length ≤ 100000 := by rw [rot_len (by omega)]; omega
      have q3 : H2 b = some (.lst xs) := hs _ _ p8
      have o2 : Off xs H H2 := h2.trans (Off.of hs)
      have r2 : RowsX H2 xs (fun j => if j < i then (rotI ms j ++ [7]).set 0 5 else rotI ms j) := h1.same hs
      clear p7 p8 hq' hs nD h1 h2 hq
      walk_at "go"
      rename_i H3 hs3
      have o3 : Off xs H H3 := o2.trans (Off.of hs3)
      have r3 := RowsX.put (ys := (rotI ms i ++ [7]).set 0 5) (r2.same hs3) hx
      refine ⟨_, rfl, ?_, ?_⟩
      · rw [L2.upd_upd]
        refine RowsX.congr r3 fun j _ => ?_
        by_cases e1 : j = i
        · subst e1
          rw [if_pos rfl, if_pos (by omega)]
        · rw [if_neg e1]
          by_cases e2 : j < i
          · rw [if_pos e2, if_pos (by omega)]
          · rw [if_neg e2, if_neg (by omega)]
      · exact Off.put (Off.put o3 hm) hm
def sp_law (K : PySem.W.Frag) : Sp := fun vs H Q E => ∃ (a : Addr) (ns : List Int), vs = [.ref a] ∧ (SqL K H a (ns.map V.int)) ∧ (ns.length ≤ 63) ∧ ∀ (H' : Hp), Q (.bl true) H'
theorem use_law {K : PySem.W.Frag} {H : Hp} {Q : VK} {E : XK} {a : Addr} {ns : List Int} (p0 : SqL K H a (ns.map V.int)) (p1 : ns.length ≤ 63) (k : ∀ (H' : Hp), Q (.bl true) H') : sp_law K [.ref a] H Q E := ⟨a, ns, rfl, p0, p1, k⟩
theorem len_law {K : PySem.W.Frag} (vs : List V) (H : Hp) (Q : VK) (E : XK) (h : sp_law K vs H Q E) : vs.length = ["_law_script"].length := by
  obtain ⟨_, _, rfl, _⟩ := h
  rfl
theorem ok_law (T : Txt K mg) : FnOk P w K mg base CX0 4 T.a_law T.d_law ["_law_script"] (sp_law K) := by
  have G_l_purse := ok_l_purse (P := P) (w := w) (base := base) T
  have G_l_listed := ok_l_listed (P := P) (w := w) (base := base) T
  have G_ring_of := ok_ring_of (P := P) (w := w) (base := base) T
  have G_l_right := ok_l_right (P := P) (w := w) (base := base) T
  refine T.F_law.ok sc_law len_law (fun cdv A outer s H vs Q E hr h => ?_)
  refine ⟨_, (pss_cons (ps_set (i := 1) sc_law.nd rfl (Or.inl rfl) (pe_call G_l_purse (hr.mono (by decide)) (by rfl) T.g_l_purse T.F_l_purse.kp T.b_l_purse .nil pass0 (pa_cons (pv 0) pa_nil)))
      (pss_cons (ps_for PassesOwn.never rfl (pi_range1 rfl T.z_range (pa_cons pe_int pa_nil)) (pg_name (i := 2) sc_law.nd rfl (Or.inl rfl)) (pss_cons (ps_set (i := 3) sc_law.nd rfl (Or.inl rfl) (pe_call G_l_listed (hr.mono (by decide)) (by rfl) T.g_l_listed T.F_l_listed.kp T.b_l_listed .nil pass0 (pa_cons (pv 1) pa_nil)))
      (pss_cons (ps_set (i := 4) sc_law.nd rfl (Or.inl rfl) (pe_callTy (call_listK K rfl) (by rfl) T.z_list (by decide +kernel) (pa_cons (pv 3) pa_nil)))
      (pss_cons (ps_for PassesOwn.never rfl (pi_range1 rfl T.z_range (pa_cons pe_int pa_nil)) (pg_name (i := 5) sc_law.nd rfl (Or.inl rfl)) (pss_cons (ps_set (i := 6) sc_law.nd rfl (Or.inl rfl) (pe_call G_ring_of (hr.mono (by decide)) (by rfl) T.g_ring_of T.F_ring_of.kp T.b_ring_of .nil pass0 (pa_cons (pv 4) pa_nil)))
      (pss_cons (ps_if (PW.pt (pw_or (pt_not (pt_val (pe_call G_l_right (hr.mono (by decide)) (by rfl) T.g_l_right T.F_l_right.kp T.b_l_right .nil pass0 (pa_cons (pv 6) (pa_cons (pv 3) pa_nil))))) (pw_or1 (pt_cmpR (op_neDK K rfl hr.units) (pv 4) (pv 3) (nomark _))))) (pss_one (ps_ret pe_bl)) pss_nil)
      (pss_cons (ps_setLc (i := 7) (own := [("_law_one", 8)]) rfl sc_law.nd rfl rfl (sw_true rfl rfl rfl (by decide +kernel)) (pi_listK K rfl (pv 6)) (blkOk_by (own := [("_law_one", 8)]) (N := ["_law_script", "_law_purse_here", "_law_turn", "_law_some", "_law_handed", "_law_again", "_law_found", "_law_kept", "_law_one"]) (sc := defScope s_law) (by decide +kernel)) (fun _ _ _ _ _ => (pg_name (i := 8) sc_law.nd rfl (Or.inl rfl))) (fun _ _ _ _ _ => pts_nil) (fun _ _ _ _ _ => (pe_callTy (call_listK K rfl) (by rfl) T.z_list (by decide +kernel) (pa_cons (pv 8) pa_nil))))
      (pss_one (ps_if (PW.pt (pw_or (pt_not (pt_val (pe_call G_l_right (hr.mono (by decide)) (by rfl) T.g_l_right T.F_l_right.kp T.b_l_right .nil pass0 (pa_cons (pe_call G_ring_of (hr.mono (by decide)) (by rfl) T.g_ring_of T.F_ring_of.kp T.b_ring_of .nil pass0 (pa_cons (pe_lst (pa_cons pe_int (pa_cons pe_int pa_nil))) pa_nil)) (pa_cons (pe_lst (pa_cons pe_int (pa_cons pe_int pa_nil))) pa_nil))))) (pw_or1 (pt_cmpR (op_neDK K rfl hr.units) (pv 6) (pv 7) (nomark _))))) (pss_one (ps_ret pe_bl)) pss_nil))))))
      (pss_cons (ps_asg (pe_op op_add (pe_ix (ix_listK K rfl) (pv 4) pe_int (fun _ _ => rfl)) pe_int) (pg_sub (pv 4) pe_int set_list))
      (pss_one (ps_if (PW.pt (pw_or (pt_not (pt_val (pe_call G_l_right (hr.mono (by decide)) (by rfl) T.g_l_right T.F_l_right.kp T.b_l_right .nil pass0 (pa_cons (pe_call G_ring_of (hr.mono (by decide)) (by rfl) T.g_ring_of T.F_ring_of.kp T.b_ring_of .nil pass0 (pa_cons (pv 4) pa_nil)) (pa_cons (pe_op op_cat (pe_lst (pa_cons (pe_op op_add (pe_ix (ix_listK K rfl) (pv 3) pe_int (fun _ _ => rfl)) pe_int) pa_nil)) (pe_slice (sl_listK K rfl) (pv 3) (po_some pe_int) po_none)) pa_nil))))) (pw_or1 (pt_cmpR (op_neDK K rfl hr.units) (pe_slice (sl_listK K rfl) (pv 4) (po_some pe_int) po_none) (pe_slice (sl_listK K rfl) (pv 3) (po_some pe_int) po_none) (nomark _))))) (pss_one (ps_ret pe_bl)) pss_nil)))))))
      (pss_one (ps_ret pe_bl)))), ?_⟩
  try dsimp only [L2.cxOf, L2.Cx.nox, L2.Cx.wish, List.map_cons, List.map_nil]
  obtain ⟨a, ns, rfl, p0, p1, k⟩ := h
  refine start_to (σ := [some _, none, none, none, none, none, none, none, none]) rfl ?_
  walk_at "go"
  rename_i p c ms H0 h1 h2 h3 h4 h5 h6 h7
  clear p0 p1
  refine forR (fun i σ H1 => ∃ (ms : List Int) (t : Int) (y1 y2 y3 y4 y5 y6 : Option V), σ = [some (.ref a), some (.ref p), y1, y2, y3, y4, y5, y6, none] ∧ H1 p = some (.lst [.ref c, .int t]) ∧ H1 c = some (.lst (ms.map V.int)) ∧ (0 ≤ t ∧ t ≤ 300 * i) ∧ (1 ≤ ms.length ∧ ms.length ≤ 63)) ⟨ms, 0, _, _, _, _, _, _, rfl, h1, h2, by omega, h6⟩ ?_ ?_
  · rintro σ1 H1 ⟨ms, t, y1, y2, y3, y4, y5, y6, rfl, h1, h2, h3, h4⟩
    walk_at "go"
    exact k _
  · clear h1 h2 h3 h4 h5 h6
    rintro i σ1 H1 hi ⟨ms, t, y1, y2, y3, y4, y5, y6, rfl, h1, h2, h3, h4⟩
    walk_at "go"
    rename_i s ms1 m2 t2 H2 a1 a2 a3 a4 a5 a6 a7 a8 a9 hd nhd
    obtain ⟨a10, a11⟩ := a9
    have hs : hd ≠ s := by walk_at "g_ne"
    have hp : hd ≠ p := by walk_at "g_ne"
    have hc : hd ≠ c := by walk_at "g_ne"
    have b1 := lk_new (o := .lst (ms1.map V.int)) nhd a1
    have b2 := lk_new (o := .lst (ms1.map V.int)) nhd a2
    have b3 := lk_new (o := .lst (ms1.map V.int)) nhd a3
    refine forR (fun j σ H3 => ∃ (y4 y5 y6 : Option V), σ = [some (.ref a), some (.ref p), some (.int (0 + (i : Int))), some (.ref s), some (.ref hd), y4, y5, y6, none] ∧ H3 p = some (.lst [.ref c, .int t2]) ∧ H3 c = some (.lst (m2.map V.int)) ∧ H3 s = some (.lst (ms1.map V.int)) ∧ H3 hd = some (.lst (ms1.map V.int))) ⟨_, _, _, rfl, b1, b2, b3, upd_same⟩ ?_ ?_
    · clear a1 a2 a3 a6 a7 nhd b1 b2 b3
      rintro σ H3 ⟨y4, y5, y6, rfl, c1, c2, c3, c4⟩
      cases ms1 with
      | nil => simp at a8
      | cons x r =>
      have ar : r.length ≤ 29 := by
        have := a8.2
        simp at this
        omega
      walk_at "go"
      rename_i z hz
      have hz' : z = x := (Option.some.inj hz).symm
      subst hz'
      have d0 : upd H3 hd (HO.lst (List.map V.int ((z :: r).set (Int.toNat 0) (z + 1)))) hd = some (.lst (((z + 1) :: r).map V.int)) := L2.upd_same
      have d1 : upd H3 hd (HO.lst (List.map V.int ((z :: r).set (Int.toNat 0) (z + 1)))) s = some (.lst ((z :: r).map V.int)) := by rw [L2.upd_ne hs.symm]; exact c3
      have d2 := lk_upd (o := HO.lst (List.map V.int ((z :: r).set (Int.toNat 0) (z + 1)))) hp.symm c1
      have d3 := lk_upd (o := HO.lst (List.map V.int ((z :: r).set (Int.toNat 0) (z + 1)))) hc.symm c2
      generalize upd H3 hd (HO.lst (List.map V.int ((z :: r).set (Int.toNat 0) (z + 1)))) = H4 at d0 d1 d2 d3 ⊢
      refine use_ring_of (ms := (z + 1) :: r) (SqL.of d0) (by simp at a8 ⊢; omega) ?_
      intro b xs H5 e1 e2 e3 e4 e5 e6
      walk_at "go"
      rename_i z2 hz2 l2 nl2 l3 nl3 l4 nl4
      have hz' : z2 = z := (Option.some.inj hz2).symm
      subst hz'
      have g1 := e2 _ _ d0
      have g2 := e2 _ _ d1
      have g3 := e2 _ _ d2
      have g4 := e2 _ _ d3
      have n0 : H5 l4 = none := by walk_at "g_free"
      have n3 : V.ref l4 ∉ xs ∧ V.ref b ∉ xs := ⟨(fun h => by
        obtain ⟨o, q⟩ := e5.there h
        rw [n0] at q
        cases q), fun h => (e6 b h).2 rfl⟩
      refine use_l_right (xs := xs) (ms := (z2 + 1) :: r) (by walk_at "g_lk") (SqL.of L2.upd_same) (e5.same (by walk_at "g_same")) e4 n3 (by simp; omega) ?_
      intro H6 k1 k2
      have s6 : Same H4 H6 := Same.off (by walk_at "g_same") (fun r hr => (e6 r hr).1) k2
      have g1 := s6 _ _ d0
      have g2 := s6 _ _ d1
      have g3 := s6 _ _ d2
      have g4 := s6 _ _ d3
      clear d0 d1 d2 d3 s6 k1 k2 e1 e2 e5 e6 nl2 nl3 nl4 n0
      walk_at "go"
      refine ite_n ?_ ?_
      · have e : List.drop (Int.toNat 1) ((z2 + 1) :: r) = List.drop (Int.toNat 1) (z2 :: r) := rfl
        rw [e]
        simp
      walk_at "go"
      exact ⟨_, _, _, _, _, _, _, _, rfl, by walk_at "g_lk", by walk_at "g_lk", by omega, a5⟩
    · clear a1 a2 a3 a6 a7 nhd b1 b2 b3
      rintro j σ H3 hj ⟨y4, y5, y6, rfl, c1, c2, c3, c4⟩
      walk_at "go"
      rename_i b xs H4 d1 d2 d3 d4 d5 d6
      have n1 : V.ref s ∉ xs ∧ V.ref b ∉ xs := ⟨(fun h => by
        have := (d6 s h).1
        rw [c3] at this
        cases this), fun h => (d6 b h).2 rfl⟩
      have n2 : 1 ≤ ms1.length ∧ ms1.length ≤ 1000 := by omega
      walk_at "go"
      rename_i H5 e1 e2
      have s5 : Same H3 H5 := Same.off d2 (fun r hr => (d6 r hr).1) e2
      have f1 := s5 _ _ c1
      have f2 := s5 _ _ c2
      have f3 := s5 _ _ c3
      have f4 := s5 _ _ c4
      have f5 : H5 b = some (.lst xs) := e2 _ _ n1.2 d1
      clear c1 c2 c3 c4 d1 d2 d3 d5 d6 e2 s5
      walk_at "go"
      refine ite_n (by simp) ?_
      walk_at "go"
      intro D nD
      refine lcL (xs := xs) (fun i acc H => acc.length = i ∧ Same H5 H ∧ RowsX H acc (fun j => (rotI ms1 j ++ [7]).set 0 5) ∧ ∀ r, V.ref r ∈ acc → r ≠ D) nD ⟨rfl, Same.new nD, RowsX.nil, fun r h => absurd h List.not_mem_nil⟩ (fun i acc H _ hp _ => hp.2.1.seq (SqL.of f5)) ?_ ?_
      · rintro i x acc H6 Z Y hx ⟨rfl, g1, g2, g3⟩ hD hz _
        obtain ⟨r, rfl, hr⟩ := e1.2 acc.length x hx
        have hr' := g1 _ _ hr
        walk_at "go"
        rename_i q nq
        have nqD : q ≠ D := by walk_at "g_ne"
        have hl : acc.length < xs.length := (List.getElem?_eq_some_iff.mp hx).1
        refine hz _ _ (by walk_at "g_lk") (sz4' (by omega)) ⟨by simp, by walk_at "g_same", ?_, ?_⟩
        · refine RowsX.upd (RowsX.add (H := H6) g2 nq ?_ L2.upd_same) ?_
          · walk_at "g_same"
          · intro r' hr'
            rcases List.mem_append.mp hr' with g | g
            · exact g3 r' g
            · cases List.mem_singleton.mp g
              exact nqD
        · intro r' hr'
          rcases List.mem_append.mp hr' with g | g
          · exact g3 r' g
          · cases List.mem_singleton.mp g
            exact nqD
      · rintro ys H6 ⟨g1, g2, g3, g4⟩ hD
        have r6 := e1.same g2
        have h1 := g2 _ _ f1
        have h2 := g2 _ _ f2
        have h3 := g2 _ _ f3
        have h4 := g2 _ _ f4
        have h5 := g2 _ _ f5
        clear f1 f2 f3 f4 f5 e1 nD g2
        walk_at "go"
        rename_i l1 nl1
        refine use_ring_of (ms := [2, 1]) (SqL.of L2.upd_same) (by decide) ?_
        intro b2 zs H7 i1 i2 i3 i4 i5 i6
        have s7 : Same H6 H7 := (Same.new nl1).trans i2
        walk_at "go"
        rename_i l2 nl2
        have n3 : V.ref l2 ∉ zs ∧ V.ref b2 ∉ zs := ⟨(fun h => by
          obtain ⟨o, q⟩ := i5.there h
          rw [nl2] at q
          cases q), fun h => (i6 b2 h).2 rfl⟩
        have s8 : Same H6 (upd H7 l2 (.lst [.int 2, .int 1])) := Same.newT s7 nl2
        refine use_l_right (xs := zs) (ms := [2, 1]) (by walk_at "g_lk") (SqL.of L2.upd_same) (i5.same (Same.new nl2)) (by simpa using i4) n3 (by decide) ?_
        intro H8 k1 k2
        have s9 : Same H6 H8 := Same.off s8 (fun r hr => by
          have := (i6 r hr).1
          exact (Same.new nl1).free this) k2
        have r8 := r6.same s9
        have r9 := g3.same s9
        have m1 := s9 _ _ h1
        have m2' := s9 _ _ h2
        have m3 := s9 _ _ h3
        have m4 := s9 _ _ h4
        have m5 := s9 _ _ h5
        have m6 := s9 _ _ hD
        clear h1 h2 h3 h4 h5 hD s7 s8 s9 i1 i2 i5 i6 nl1 nl2 k1 k2
        walk_at "go"
        refine i_neRows (SqL.of m5) (SqL.of m6) r8 r9 (by omega) ?_
        walk_at "go"
        exact ⟨_, _, _, rfl, m1, m2', m3, m4⟩
end
theorem mk_txt {K : PySem.W.Frag} {h : Heap} {mg : Str → Option Value} {f_ring_of : Addr} {o_ring_of n_ring_of : Option Addr} {w_ring_of : Array (Option Value)} {q1_ring_of q2_ring_of q3_ring_of q4_ring_of q5_ring_of q6_ring_of : Value} {f_l_purse : Addr} {o_l_purse n_l_purse : Option Addr} {w_l_purse : Array (Option Value)} {q1_l_purse q2_l_purse q3_l_purse q4_l_purse q5_l_purse q6_l_purse : Value} {f_l_draw : Addr} {o_l_draw n_l_draw : Option Addr} {w_l_draw : Array (Option Value)} {q1_l_draw q2_l_draw q3_l_draw q4_l_draw q5_l_draw q6_l_draw : Value} {f_l_whole : Addr} {o_l_whole n_l_whole : Option Addr} {w_l_whole : Array (Option Value)} {q1_l_whole q2_l_whole q3_l_whole q4_l_whole q5_l_whole q6_l_whole : Value} {f_l_numbers : Addr} {o_l_numbers n_l_numbers : Option Addr} {w_l_numbers : Array (Option Value)} {q1_l_numbers q2_l_numbers q3_l_numbers q4_l_numbers q5_l_numbers q6_l_numbers : Value} {f_l_listed : Addr} {o_l_listed n_l_listed : Option Addr} {w_l_listed : Array (Option Value)} {q1_l_listed q2_l_listed q3_l_listed q4_l_listed q5_l_listed q6_l_listed : Value} {f_l_right : Addr} {o_l_right n_l_right : Option Addr} {w_l_right : Array (Option Value)} {q1_l_right q2_l_right q3_l_right q4_l_right q5_l_right q6_l_right : Value} {f_law : Addr} {o_law n_law : Option Addr} {w_law : Array (Option Value)} {q1_law q2_law q3_law q4_law q5_law q6_law : Value} (X : K.In h) (G : h.Ns mainGlobals mg)
    (a_ring_of : PySem.W.nsIn K mainGlobals "ring_of" = some (some (.ref f_ring_of)))
    (l_ring_of : K.lookup f_ring_of = some ⟨q1_ring_of, o_ring_of, .func (PySem.W.fnOf "ring_of" "ring_of" (defArgs s_ring_of) (defBody s_ring_of) (defScope s_ring_of) .none q2_ring_of q3_ring_of q4_ring_of n_ring_of q5_ring_of q6_ring_of), w_ring_of⟩)
    (c_ring_of : PySem.W.codeIn K q5_ring_of "ring_of" = true)
    (k_ring_of : PySem.W.keepIn K (.ref f_ring_of) = true)
    (a_l_purse : PySem.W.nsIn K mainGlobals "_law_purse" = some (some (.ref f_l_purse)))
    (l_l_purse : K.lookup f_l_purse = some ⟨q1_l_purse, o_l_purse, .func (PySem.W.fnOf "_law_purse" "_law_purse" (defArgs s_l_purse) (defBody s_l_purse) (defScope s_l_purse) .none q2_l_purse q3_l_purse q4_l_purse n_l_purse q5_l_purse q6_l_purse), w_l_purse⟩)
    (c_l_purse : PySem.W.codeIn K q5_l_purse "_law_purse" = true)
    (k_l_purse : PySem.W.keepIn K (.ref f_l_purse) = true)
    (a_l_draw : PySem.W.nsIn K mainGlobals "_law_draw" = some (some (.ref f_l_draw)))
    (l_l_draw : K.lookup f_l_draw = some ⟨q1_l_draw, o_l_draw, .func (PySem.W.fnOf "_law_draw" "_law_draw" (defArgs s_l_draw) (defBody s_l_draw) (defScope s_l_draw) .none q2_l_draw q3_l_draw q4_l_draw n_l_draw q5_l_draw q6_l_draw), w_l_draw⟩)
    (c_l_draw : PySem.W.codeIn K q5_l_draw "_law_draw" = true)
    (k_l_draw : PySem.W.keepIn K (.ref f_l_draw) = true)
    (a_l_whole : PySem.W.nsIn K mainGlobals "_law_whole" = some (some (.ref f_l_whole)))
    (l_l_whole : K.lookup f_l_whole = some ⟨q1_l_whole, o_l_whole, .func (PySem.W.fnOf "_law_whole" "_law_whole" (defArgs s_l_whole) (defBody s_l_whole) (defScope s_l_whole) .none q2_l_whole q3_l_whole q4_l_whole n_l_whole q5_l_whole q6_l_whole), w_l_whole⟩)
    (c_l_whole : PySem.W.codeIn K q5_l_whole "_law_whole" = true)
    (k_l_whole : PySem.W.keepIn K (.ref f_l_whole) = true)
    (a_l_numbers : PySem.W.nsIn K mainGlobals "_law_numbers" = some (some (.ref f_l_numbers)))
    (l_l_numbers : K.lookup f_l_numbers = some ⟨q1_l_numbers, o_l_numbers, .func (PySem.W.fnOf "_law_numbers" "_law_numbers" (defArgs s_l_numbers) (defBody s_l_numbers) (defScope s_l_numbers) .none q2_l_numbers q3_l_numbers q4_l_numbers n_l_numbers q5_l_numbers q6_l_numbers), w_l_numbers⟩)
    (c_l_numbers : PySem.W.codeIn K q5_l_numbers "_law_numbers" = true)
    (k_l_numbers : PySem.W.keepIn K (.ref f_l_numbers) = true)
    (a_l_listed : PySem.W.nsIn K mainGlobals "_law_listed" = some (some (.ref f_l_listed)))
    (l_l_listed : K.lookup f_l_listed = some ⟨q1_l_listed, o_l_listed, .func (PySem.W.fnOf "_law_listed" "_law_listed" (defArgs s_l_listed) (defBody s_l_listed) (defScope s_l_listed) .none q2_l_listed q3_l_listed q4_l_listed n_l_listed q5_l_listed q6_l_listed), w_l_listed⟩)
    (c_l_listed : PySem.W.codeIn K q5_l_listed "_law_listed" = true)
    (k_l_listed : PySem.W.keepIn K (.ref f_l_listed) = true)
    (a_l_right : PySem.W.nsIn K mainGlobals "_law_right" = some (some (.ref f_l_right)))
    (l_l_right : K.lookup f_l_right = some ⟨q1_l_right, o_l_right, .func (PySem.W.fnOf "_law_right" "_law_right" (defArgs s_l_right) (defBody s_l_right) (defScope s_l_right) .none q2_l_right q3_l_right q4_l_right n_l_right q5_l_right q6_l_right), w_l_right⟩)
    (c_l_right : PySem.W.codeIn K q5_l_right "_law_right" = true)
    (k_l_right : PySem.W.keepIn K (.ref f_l_right) = true)
    (a_law : PySem.W.nsIn K mainGlobals "law" = some (some (.ref f_law)))
    (l_law : K.lookup f_law = some ⟨q1_law, o_law, .func (PySem.W.fnOf "law" "law" (defArgs s_law) (defBody s_law) (defScope s_law) .none q2_law q3_law q4_law n_law q5_law q6_law), w_law⟩)
    (c_law : PySem.W.codeIn K q5_law "law" = true)
    (k_law : PySem.W.keepIn K (.ref f_law) = true)
    (z_bool : PySem.W.nsIn K mainGlobals "bool" = some none)
    (z_int : PySem.W.nsIn K mainGlobals "int" = some none)
    (z_isinstance : PySem.W.nsIn K mainGlobals "isinstance" = some none)
    (z_len : PySem.W.nsIn K mainGlobals "len" = some none)
    (z_list : PySem.W.nsIn K mainGlobals "list" = some none)
    (z_range : PySem.W.nsIn K mainGlobals "range" = some none) : ∃ T : Txt K mg, T.a_law = f_law ∧ ∀ (s : Shared) (v : Value), BindsTo s T.d_law ⟨[v], []⟩ [("_law_script", v)] :=
  ⟨{ a_ring_of := f_ring_of,
      d_ring_of := _,
      F_ring_of := fun_mk (st := s_ring_of) l_ring_of c_ring_of k_ring_of,
      g_ring_of := PySem.W.mg_of X G a_ring_of,
      b_ring_of := (fun_mk (st := s_ring_of) l_ring_of c_ring_of k_ring_of).binds fun _ _ _ _ _ _ us hl => match us, hl with | [_], _ => rfl,
      a_l_purse := f_l_purse,
      d_l_purse := _,
      F_l_purse := fun_mk (st := s_l_purse) l_l_purse c_l_purse k_l_purse,
      g_l_purse := PySem.W.mg_of X G a_l_purse,
      b_l_purse := (fun_mk (st := s_l_purse) l_l_purse c_l_purse k_l_purse).binds fun _ _ _ _ _ _ us hl => match us, hl with | [_], _ => rfl,
      a_l_draw := f_l_draw,
      d_l_draw := _,
      F_l_draw := fun_mk (st := s_l_draw) l_l_draw c_l_draw k_l_draw,
      g_l_draw := PySem.W.mg_of X G a_l_draw,
      b_l_draw := (fun_mk (st := s_l_draw) l_l_draw c_l_draw k_l_draw).binds fun _ _ _ _ _ _ us hl => match us, hl with | [_, _], _ => rfl,
      a_l_whole := f_l_whole,
      d_l_whole := _,
      F_l_whole := fun_mk (st := s_l_whole) l_l_whole c_l_whole k_l_whole,
      g_l_whole := PySem.W.mg_of X G a_l_whole,
      b_l_whole := (fun_mk (st := s_l_whole) l_l_whole c_l_whole k_l_whole).binds fun _ _ _ _ _ _ us hl => match us, hl with | [_], _ => rfl,
      a_l_numbers := f_l_numbers,
      d_l_numbers := _,
      F_l_numbers := fun_mk (st := s_l_numbers) l_l_numbers c_l_numbers k_l_numbers,
      g_l_numbers := PySem.W.mg_of X G a_l_numbers,
      b_l_numbers := (fun_mk (st := s_l_numbers) l_l_numbers c_l_numbers k_l_numbers).binds fun _ _ _ _ _ _ us hl => match us, hl with | [_, _], _ => rfl,
      a_l_listed := f_l_listed,
      d_l_listed := _,
      F_l_listed := fun_mk (st := s_l_listed) l_l_listed c_l_listed k_l_listed,
      g_l_listed := PySem.W.mg_of X G a_l_listed,
      b_l_listed := (fun_mk (st := s_l_listed) l_l_listed c_l_listed k_l_listed).binds fun _ _ _ _ _ _ us hl => match us, hl with | [_], _ => rfl,
      a_l_right := f_l_right,
      d_l_right := _,
      F_l_right := fun_mk (st := s_l_right) l_l_right c_l_right k_l_right,
      g_l_right := PySem.W.mg_of X G a_l_right,
      b_l_right := (fun_mk (st := s_l_right) l_l_right c_l_right k_l_right).binds fun _ _ _ _ _ _ us hl => match us, hl with | [_, _], _ => rfl,
      a_law := f_law,
      d_law := _,
      F_law := fun_mk (st := s_law) l_law c_law k_law,
      g_law := PySem.W.mg_of X G a_law,
      b_law := (fun_mk (st := s_law) l_law c_law k_law).binds fun _ _ _ _ _ _ us hl => match us, hl with | [_], _ => rfl,
      z_bool := PySem.W.mg_none_of X G z_bool,
      z_int := PySem.W.mg_none_of X G z_int,
      z_isinstance := PySem.W.mg_none_of X G z_isinstance,
      z_len := PySem.W.mg_none_of X G z_len,
      z_list := PySem.W.mg_none_of X G z_list,
      z_range := PySem.W.mg_none_of X G z_range }, rfl, fun _ _ => .of_eq rfl⟩
theorem all_mk {P : Program} {w : World} {K : PySem.W.Frag} {h : Heap} {mg : Str → Option Value} {fa : Addr} {f_ring_of : Addr} {o_ring_of n_ring_of : Option Addr} {w_ring_of : Array (Option Value)} {q1_ring_of q2_ring_of q3_ring_of q4_ring_of q5_ring_of q6_ring_of : Value} {f_l_purse : Addr} {o_l_purse n_l_purse : Option Addr} {w_l_purse : Array (Option Value)} {q1_l_purse q2_l_purse q3_l_purse q4_l_purse q5_l_purse q6_l_purse : Value} {f_l_draw : Addr} {o_l_draw n_l_draw : Option Addr} {w_l_draw : Array (Option Value)} {q1_l_draw q2_l_draw q3_l_draw q4_l_draw q5_l_draw q6_l_draw : Value} {f_l_whole : Addr} {o_l_whole n_l_whole : Option Addr} {w_l_whole : Array (Option Value)} {q1_l_whole q2_l_whole q3_l_whole q4_l_whole q5_l_whole q6_l_whole : Value} {f_l_numbers : Addr} {o_l_numbers n_l_numbers : Option Addr} {w_l_numbers : Array (Option Value)} {q1_l_numbers q2_l_numbers q3_l_numbers q4_l_numbers q5_l_numbers q6_l_numbers : Value} {f_l_listed : Addr} {o_l_listed n_l_listed : Option Addr} {w_l_listed : Array (Option Value)} {q1_l_listed q2_l_listed q3_l_listed q4_l_listed q5_l_listed q6_l_listed : Value} {f_l_right : Addr} {o_l_right n_l_right : Option Addr} {w_l_right : Array (Option Value)} {q1_l_right q2_l_right q3_l_right q4_l_right q5_l_right q6_l_right : Value} {f_law : Addr} {o_law n_law : Option Addr} {w_law : Array (Option Value)} {q1_law q2_law q3_law q4_law q5_law q6_law : Value} (X : K.In h) (G : h.Ns mainGlobals mg) (hfa : mg "law" = some (.ref fa))
    (a_ring_of : PySem.W.nsIn K mainGlobals "ring_of" = some (some (.ref f_ring_of)))
    (l_ring_of : K.lookup f_ring_of = some ⟨q1_ring_of, o_ring_of, .func (PySem.W.fnOf "ring_of" "ring_of" (defArgs s_ring_of) (defBody s_ring_of) (defScope s_ring_of) .none q2_ring_of q3_ring_of q4_ring_of n_ring_of q5_ring_of q6_ring_of), w_ring_of⟩)
    (c_ring_of : PySem.W.codeIn K q5_ring_of "ring_of" = true)
    (k_ring_of : PySem.W.keepIn K (.ref f_ring_of) = true)
    (a_l_purse : PySem.W.nsIn K mainGlobals "_law_purse" = some (some (.ref f_l_purse)))
    (l_l_purse : K.lookup f_l_purse = some ⟨q1_l_purse, o_l_purse, .func (PySem.W.fnOf "_law_purse" "_law_purse" (defArgs s_l_purse) (defBody s_l_purse) (defScope s_l_purse) .none q2_l_purse q3_l_purse q4_l_purse n_l_purse q5_l_purse q6_l_purse), w_l_purse⟩)
    (c_l_purse : PySem.W.codeIn K q5_l_purse "_law_purse" = true)
    (k_l_purse : PySem.W.keepIn K (.ref f_l_purse) = true)
    (a_l_draw : PySem.W.nsIn K mainGlobals "_law_draw" = some (some (.ref f_l_draw)))
    (l_l_draw : K.lookup f_l_draw = some ⟨q1_l_draw, o_l_draw, .func (PySem.W.fnOf "_law_draw" "_law_draw" (defArgs s_l_draw) (defBody s_l_draw) (defScope s_l_draw) .none q2_l_draw q3_l_draw q4_l_draw n_l_draw q5_l_draw q6_l_draw), w_l_draw⟩)
    (c_l_draw : PySem.W.codeIn K q5_l_draw "_law_draw" = true)
    (k_l_draw : PySem.W.keepIn K (.ref f_l_draw) = true)
    (a_l_whole : PySem.W.nsIn K mainGlobals "_law_whole" = some (some (.ref f_l_whole)))
    (l_l_whole : K.lookup f_l_whole = some ⟨q1_l_whole, o_l_whole, .func (PySem.W.fnOf "_law_whole" "_law_whole" (defArgs s_l_whole) (defBody s_l_whole) (defScope s_l_whole) .none q2_l_whole q3_l_whole q4_l_whole n_l_whole q5_l_whole q6_l_whole), w_l_whole⟩)
    (c_l_whole : PySem.W.codeIn K q5_l_whole "_law_whole" = true)
    (k_l_whole : PySem.W.keepIn K (.ref f_l_whole) = true)
    (a_l_numbers : PySem.W.nsIn K mainGlobals "_law_numbers" = some (some (.ref f_l_numbers)))
    (l_l_numbers : K.lookup f_l_numbers = some ⟨q1_l_numbers, o_l_numbers, .func (PySem.W.fnOf "_law_numbers" "_law_numbers" (defArgs s_l_numbers) (defBody s_l_numbers) (defScope s_l_numbers) .none q2_l_numbers q3_l_numbers q4_l_numbers n_l_numbers q5_l_numbers q6_l_numbers), w_l_numbers⟩)
    (c_l_numbers : PySem.W.codeIn K q5_l_numbers "_law_numbers" = true)
    (k_l_numbers : PySem.W.keepIn K (.ref f_l_numbers) = true)
    (a_l_listed : PySem.W.nsIn K mainGlobals "_law_listed" = some (some (.ref f_l_listed)))
    (l_l_listed : K.lookup f_l_listed = some ⟨q1_l_listed, o_l_listed, .func (PySem.W.fnOf "_law_listed" "_law_listed" (defArgs s_l_listed) (defBody s_l_listed) (defScope s_l_listed) .none q2_l_listed q3_l_listed q4_l_listed n_l_listed q5_l_listed q6_l_listed), w_l_listed⟩)
    (c_l_listed : PySem.W.codeIn K q5_l_listed "_law_listed" = true)
    (k_l_listed : PySem.W.keepIn K (.ref f_l_listed) = true)
    (a_l_right : PySem.W.nsIn K mainGlobals "_law_right" = some (some (.ref f_l_right)))
    (l_l_right : K.lookup f_l_right = some ⟨q1_l_right, o_l_right, .func (PySem.W.fnOf "_law_right" "_law_right" (defArgs s_l_right) (defBody s_l_right) (defScope s_l_right) .none q2_l_right q3_l_right q4_l_right n_l_right q5_l_right q6_l_right), w_l_right⟩)
    (c_l_right : PySem.W.codeIn K q5_l_right "_law_right" = true)
    (k_l_right : PySem.W.keepIn K (.ref f_l_right) = true)
    (a_law : PySem.W.nsIn K mainGlobals "law" = some (some (.ref f_law)))
    (l_law : K.lookup f_law = some ⟨q1_law, o_law, .func (PySem.W.fnOf "law" "law" (defArgs s_law) (defBody s_law) (defScope s_law) .none q2_law q3_law q4_law n_law q5_law q6_law), w_law⟩)
    (c_law : PySem.W.codeIn K q5_law "law" = true)
    (k_law : PySem.W.keepIn K (.ref f_law) = true)
    (z_bool : PySem.W.nsIn K mainGlobals "bool" = some none)
    (z_int : PySem.W.nsIn K mainGlobals "int" = some none)
    (z_isinstance : PySem.W.nsIn K mainGlobals "isinstance" = some none)
    (z_len : PySem.W.nsIn K mainGlobals "len" = some none)
    (z_list : PySem.W.nsIn K mainGlobals "list" = some none)
    (z_range : PySem.W.nsIn K mainGlobals "range" = some none) : ∃ fd : FuncData, (∀ (s : Shared) (v : Value), BindsTo s fd ⟨[v], []⟩ [("_law_script", v)]) ∧ ∀ base : Heap, K.In base → base.Ns mainGlobals mg → FnOk P w K mg base CX0 4 fa fd ["_law_script"] (sp_law K) := by
  obtain ⟨T, e1, e2⟩ := mk_txt X G a_ring_of l_ring_of c_ring_of k_ring_of a_l_purse l_l_purse c_l_purse k_l_purse a_l_draw l_l_draw c_l_draw k_l_draw a_l_whole l_l_whole c_l_whole k_l_whole a_l_numbers l_l_numbers c_l_numbers k_l_numbers a_l_listed l_l_listed c_l_listed k_l_listed a_l_right l_l_right c_l_right k_l_right a_law l_law c_law k_law z_bool z_int z_isinstance z_len z_list z_range
  have e := hfa.symm.trans (PySem.W.mg_of X G a_law)
  cases e
  exact ⟨T.d_law, e2, fun base _ _ => e1 ▸ ok_law T⟩
end K41
open PySem PySem.W PyProof.Rows
set_option maxHeartbeats 0 in
theorem PySem.Challenge.cw_hostfields_k41_rings_of_plans_holds : PySem.Challenge.rw_hostfields_k41_rings_of_plans.Holds := by
  w_on; o_law; k_head; (case hw => w_witness2)
  k_fill
  refine L2.walk_of (l := PySem.Challenge.rw_hostfields_k41_rings_of_plans) (n := 63) (k := 4) (x := "_law_script") (CX := fun _ => L2.CX0) (sp := fun w => K41.sp_law _) rfl (by decide) rfl ⟨rfl, by decide, by decide⟩ (fun w h Y => PySem.W.kIn_of Y) ?F (fun _ _ a ns hl _ hS => ⟨a, ns, rfl, hS, hl, fun _ => rfl⟩) (fun _ _ _ _ _ h => h)
  case F =>
    intro w mg fa h KX G hmg
    refine' K41.all_mk KX G hmg ?a_ring_of ?l_ring_of ?c_ring_of ?k_ring_of ?a_l_purse ?l_l_purse ?c_l_purse ?k_l_purse ?a_l_draw ?l_l_draw ?c_l_draw ?k_l_draw ?a_l_whole ?l_l_whole ?c_l_whole ?k_l_whole ?a_l_numbers ?l_l_numbers ?c_l_numbers ?k_l_numbers ?a_l_listed ?l_l_listed ?c_l_listed ?k_l_listed ?a_l_right ?l_l_right ?c_l_right ?k_l_right ?a_law ?l_law ?c_law ?k_law ?z_bool ?z_int ?z_isinstance ?z_len ?z_list ?z_range
    (case a_ring_of => k_is); (case l_ring_of => k_is); (case c_ring_of => k_is); (case k_ring_of => k_is); (case a_l_purse => k_is); (case l_l_purse => k_is); (case c_l_purse => k_is); (case k_l_purse => k_is); (case a_l_draw => k_is); (case l_l_draw => k_is); (case c_l_draw => k_is); (case k_l_draw => k_is); (case a_l_whole => k_is); (case l_l_whole => k_is); (case c_l_whole => k_is); (case k_l_whole => k_is); (case a_l_numbers => k_is); (case l_l_numbers => k_is); (case c_l_numbers => k_is); (case k_l_numbers => k_is); (case a_l_listed => k_is); (case l_l_listed => k_is); (case c_l_listed => k_is); (case k_l_listed => k_is); (case a_l_right => k_is); (case l_l_right => k_is); (case c_l_right => k_is); (case k_l_right => k_is); (case a_law => k_is); (case l_law => k_is); (case c_law => k_is); (case k_law => k_is); (case z_bool => k_is); (case z_int => k_is); (case z_isinstance => k_is); (case z_len => k_is); (case z_list => k_is); (case z_range => k_is)

