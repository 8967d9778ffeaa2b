import PyProof.Rows.All
import Wide.All
import OpenK.AllK
import Wide.FinOn
import HandS.ForMost
import HandS.Wide
import HandS.IsInst
import HandS.TupAny
import HandS.TryOnly
import HandS.Exc
import HandS.ExcIs
import HandS.ExcOwn
import HandS.WordsExc
import KE.KExcIs
import PySem.Challenge.RW_hostfields_k04_whole_reckoning_agrees
set_option Elab.async false
set_option linter.all false
set_option maxRecDepth 100000
set_option maxHeartbeats 4000000
/-! ## the engine: the readings, one step a lemma; «walk_at "go"» walks as far as it goes -/
namespace Hf
open PySem PySem.Spec PyProof.Rows L2
/-- every tracked object but the one at a is as it was -/
def But (a : Addr) (H H' : Hp) : Prop := ∀ b o, b ≠ a → H b = some o → H' b = some o
theorem But.same {a : Addr} {H H' : Hp} (e : Same H H') : But a H H' := fun b o _ h => e b o h
theorem But.refl (a : Addr) (H : Hp) : But a H H := fun _ _ _ h => h
theorem But.trans {a : Addr} {H H1 H2 : Hp} (x : But a H H1) (y : But a H1 H2) : But a H H2 := fun b o n h => y b o n (x b o n h)
theorem But.upd {a : Addr} {H H1 : Hp} {o : HO} (x : But a H H1) : But a H (upd H1 a o) := fun b u n h => by
  rw [upd_ne n]
  exact x b u n h
theorem But.new {a p : Addr} {H H1 : Hp} {o : HO} (x : But a H H1) (hp : H1 p = none) : But a H (L2.upd H1 p o) := fun b u n h => by
  have h1 := x b u n h
  rw [upd_ne (ne_of_none h1 hp)]
  exact h1
theorem But.to_same {a : Addr} {H H' : Hp} (x : But a H H') (n : H a = none) : Same H H' := fun b o h => x b o (ne_of_none h n) h
theorem Same.new {H : Hp} {p : Addr} {o : HO} (hp : H p = none) : Same H (upd H p o) := fun b u h => by
  rw [upd_ne (ne_of_none h hp)]
  exact h
theorem Same.newT {H0 H : Hp} {p : Addr} {o : HO} (e : Same H0 H) (hp : H p = none) : Same H0 (upd H p o) := e.trans (Same.new hp)
/-- a change at an object that H0 does not know -/
theorem Same.mut {H0 H : Hp} {p : Addr} {o : HO} (e : Same H0 H) (hp : H0 p = none) : Same H0 (upd H p o) := fun b u h => by
  rw [upd_ne (ne_of_none h hp)]
  exact e b u h
theorem Same.but {H0 H H1 : Hp} {p : Addr} (e : Same H0 H) (hp : H0 p = none) (x : But p H H1) : Same H0 H1 := fun b u h => x b u (ne_of_none h hp) (e b u h)
theorem Same.seqT {K : PySem.W.Frag} {H H' : Hp} {a : Addr} {xs : List V} (e : Same H H') (h : SqT K H a xs) : SqT K H' a xs := by
  rcases h with (h | ⟨o, h⟩) | h
  · exact .inl (.inl (e _ _ h))
  · exact .inl (.inr ⟨o, e _ _ h⟩)
  · exact .inr h
theorem But.seq {K : PySem.W.Frag} {H H' : Hp} {a b : Addr} {xs : List V} (e : But a H H') (n : b ≠ a) (h : SqL K H b xs) : SqL K H' b xs := by
  rcases h with (h | ⟨o, h⟩) | h
  · exact .inl (.inl (e _ _ n h))
  · exact .inl (.inr ⟨o, e _ _ n h⟩)
  · exact .inr h
theorem But.seqT {K : PySem.W.Frag} {H H' : Hp} {a b : Addr} {xs : List V} (e : But a H H') (n : b ≠ a) (h : SqT K H b xs) : SqT K H' b xs := by
  rcases h with (h | ⟨o, h⟩) | h
  · exact .inl (.inl (e _ _ n h))
  · exact .inl (.inr ⟨o, e _ _ n h⟩)
  · exact .inr h
/-- a guard: its way is barred where P is at hand -/
def Guard (_ : Prop) : Prop := True
theorem Guard.of {P : Prop} (_ : P) : Guard P := trivial
theorem lk_upd {H : Hp} {a b : Addr} {o u : HO} (n : b ≠ a) (h : H b = some u) : upd H a o b = some u := by
  rw [upd_ne n]
  exact h
theorem lk_new {H : Hp} {a b : Addr} {o u : HO} (n : H a = none) (h : H b = some u) : upd H a o b = some u := by
  rw [upd_ne (ne_of_none h n)]
  exact h
theorem lk_updG {H : Hp} {a b : Addr} {o u : HO} (_ : Guard (H a = none)) (n : b ≠ a) (h : H b = some u) : upd H a o b = some u := lk_upd n h
theorem lk_none {H H' : Hp} {a : Addr} (e : Same H H') (n : H' a = none) : H a = none := e.free n
theorem lkL_new {K : PySem.W.Frag} {H : Hp} {a b : Addr} {o : HO} {xs : List V} (n : H a = none) (h : SqL K H b xs) : SqL K (upd H a o) b xs := (Same.new n).seq h
theorem lkT_new {K : PySem.W.Frag} {H : Hp} {a b : Addr} {o : HO} {xs : List V} (n : H a = none) (h : SqT K H b xs) : SqT K (upd H a o) b xs := Same.seqT (Same.new n) h
theorem lkL_upd {K : PySem.W.Frag} {H : Hp} {a b : Addr} {o : HO} {xs : List V} (n : b ≠ a) (h : SqL K H b xs) : SqL K (upd H a o) b xs := But.seq (But.upd (But.refl a H)) n h
theorem lkT_upd {K : PySem.W.Frag} {H : Hp} {a b : Addr} {o : HO} {xs : List V} (n : b ≠ a) (h : SqT K H b xs) : SqT K (upd H a o) b xs := But.seqT (But.upd (But.refl a H)) n h
theorem lkL_updG {K : PySem.W.Frag} {H : Hp} {a b : Addr} {o : HO} {xs : List V} (_ : Guard (H a = none)) (n : b ≠ a) (h : SqL K H b xs) : SqL K (upd H a o) b xs := lkL_upd n h
theorem lkT_updG {K : PySem.W.Frag} {H : Hp} {a b : Addr} {o : HO} {xs : List V} (_ : Guard (H a = none)) (n : b ≠ a) (h : SqT K H b xs) : SqT K (upd H a o) b xs := lkT_upd n h
theorem ne_new {H : Hp} {a b : Addr} {o : HO} (n : H b = none) (h : H a = some o) : a ≠ b := ne_of_none h n
theorem ne_new' {H : Hp} {a b : Addr} {o : HO} (n : H b = none) (h : H a = some o) : b ≠ a := (ne_of_none h n).symm
theorem ne_at {α : Type} {a b : α} (h : a ≠ b) : b ≠ a := h.symm
/-! ### sizes -/
theorem sz4 {n : Nat} (h : n ≤ 1000000) : n ≤ sizeLine := Nat.le_trans h (by decide)
theorem sz4' {n : Nat} (h : n ≤ 1000000) : n < sizeLine := Nat.lt_of_le_of_lt h (by decide)
/-! ### two operators, wider -/
def CMulA (i j : Int) : Prop := CMul i j ∨ CMulW i j
theorem CMulA.ok {i j : Int} (h : CMulA i j) : IntMulOk i j := h.elim CMul.ok CMulW.ok
theorem op_mulA {X : Cx} : OpR X (binaryOp .Mult) (rI CMulA fun i j => .int (i * j)) := opI fun _ _ _ _ _ _ _ hc q => mul_int q hc.ok
def CDivA (_ j : Int) : Prop := j ≠ 0 ∧ j.natAbs.log2 < 9000
theorem op_fdivA {X : Cx} : OpR X (binaryOp .FloorDiv) (rI CDivA fun i j => .int (i.fdiv j)) := opI fun _ _ _ _ _ _ _ hc q => floordiv_int hc.1 q (.inl (PyProof.noPylong_of_log2 hc.2))
theorem mulL {i j : Int} (h : -(2 ^ 64) < i ∧ i < 2 ^ 64) : CMulA i j := .inl (.inl h)
theorem mulR {i j : Int} (h : -(2 ^ 64) < j ∧ j < 2 ^ 64) : CMulA i j := .inl (.inr h)
theorem log_lt {j : Int} {b : Nat} (h : j.natAbs < 2 ^ b) (h0 : 0 < b) (h9 : b ≤ 9000) : j.natAbs.log2 < 9000 := Nat.lt_of_lt_of_le (PySem.Flt.log2_lt_of h0 h) h9
theorem log_small {j : Int} (h : -(2 ^ 200) < j ∧ j < 2 ^ 200) : j.natAbs.log2 < 9000 := log_lt (b := 200) (by omega) (by decide) (by decide)
theorem mulW {i j : Int} {a b : Nat} (ha : i.natAbs < 2 ^ a) (hb : j.natAbs < 2 ^ b) (h0 : 0 < a) (h1 : 0 < b) (h : a + b ≤ 1000000) : CMulA i j := .inr (wide_mul ha hb h0 h1 h)
theorem divS {i j : Int} (h0 : j ≠ 0) (h : -(2 ^ 200) < j ∧ j < 2 ^ 200) : CDivA i j := ⟨h0, log_small h⟩
/-! ### the steps -/
section
variable {σ σ' : L2.St} {H : Hp} {Q : VK} {x y v : V} {i j : Int} {n : Nat} {nx bk ct : L2.St → Hp → Prop} {rt : VK} {K : PySem.W.Frag} {a p : Addr} {xs : List V}
theorem start_to {N : List Str} {vs : List V} {t : TS} {D : Ends} (e : start N vs = σ) (h : t D σ H) : t D (start N vs) H := by
  rw [e]
  exact h
theorem i_ends {t : TS} {rt : VK} (h : t ⟨fun _ H' => rt .non H', rt, fun _ _ => False, fun _ _ => False⟩ σ H) : t { nx := fun _ H' => rt .non H', rt := rt } σ H := h
theorem i_seq {t u : TS} (h : t ⟨u ⟨nx, rt, bk, ct⟩, rt, bk, ct⟩ σ H) : tSeq t u ⟨nx, rt, bk, ct⟩ σ H := h
theorem i_asg {te : TE} {g : TG} (h : te σ H fun x H1 => g x σ H1 nx) : tAsg te g ⟨nx, rt, bk, ct⟩ σ H := h
theorem i_gname {k : Nat} {Z : L2.St → Hp → Prop} (e : σ.set k (some v) = σ') (q : Z σ' H) : gName k v σ H Z := by
  subst e
  exact q
theorem i_ret {te : TE} (h : te σ H rt) : tRet te ⟨nx, rt, bk, ct⟩ σ H := h
theorem i_retN (h : rt .non H) : tRetN ⟨nx, rt, bk, ct⟩ σ H := h
theorem i_next (h : nx σ H) : tNext ⟨nx, rt, bk, ct⟩ σ H := h
theorem i_brk (h : bk σ H) : tBreak ⟨nx, rt, bk, ct⟩ σ H := h
theorem i_cnt (h : ct σ H) : tCont ⟨nx, rt, bk, ct⟩ σ H := h
theorem i_drop {te : TE} (h : te σ H fun _ H1 => nx σ H1) : tDrop te ⟨nx, rt, bk, ct⟩ σ H := h
theorem i_ifs {c : TT} {t u : TS} (h : c σ H fun b H1 => if b = true then t ⟨nx, rt, bk, ct⟩ σ H1 else u ⟨nx, rt, bk, ct⟩ σ H1) : tIfS c t u ⟨nx, rt, bk, ct⟩ σ H := h
theorem i_var {k : Nat} (h : σ[k]? = some (some v)) (q : Q v H) : tVar k σ H Q := ⟨v, h, q⟩
theorem i_c (q : Q v H) : tC v σ H Q := q
theorem i_op {r : R2} {ta tb : TE} (h : ta σ H fun x H1 => tb σ H1 fun y H2 => r x y H2 Q) : tOp r ta tb σ H Q := h
theorem i_un {r : V → Hp → VK → Prop} {ta : TE} (h : ta σ H fun x H1 => r x H1 Q) : tUn r ta σ H Q := h
theorem i_I0 {g : Int → Int → V} (q : Q (g i j) H) : rI0 g (.int i) (.int j) H Q := ⟨i, j, rfl, rfl, q⟩
theorem i_I {C : Int → Int → Prop} {g : Int → Int → V} (c : C i j) (q : Q (g i j) H) : rI C g (.int i) (.int j) H Q := ⟨i, j, rfl, rfl, c, q⟩
theorem i_pow {m : Int} (c : CPow i j) (e : i ^ j.toNat = m) (q : Q (.int m) H) : rI CPow (fun i j => .int (i ^ j.toNat)) (.int i) (.int j) H Q := ⟨i, j, rfl, rfl, c, by
  show Q (.int (i ^ j.toNat)) H
  rw [e]
  exact q⟩
theorem i_U {g : Int → V} (q : Q (g i) H) : rU g (.int i) H Q := ⟨i, rfl, q⟩
theorem i_eqI (q : Q (.bl (decide (i = j))) H) : rEq (.int i) (.int j) H Q := ⟨rfl, by
  have e : decide (V.int i = V.int j) = decide (i = j) := by
    by_cases h : i = j
    · rw [decide_eq_true h, decide_eq_true (congrArg V.int h)]
    · rw [decide_eq_false h, decide_eq_false fun z => h (V.int.inj z)]
  rw [e]
  exact q⟩
theorem i_neI (q : Q (.bl (!decide (i = j))) H) : rNe (.int i) (.int j) H Q := ⟨rfl, by
  have e : decide (V.int i = V.int j) = decide (i = j) := by
    by_cases h : i = j
    · rw [decide_eq_true h, decide_eq_true (congrArg V.int h)]
    · rw [decide_eq_false h, decide_eq_false fun z => h (V.int.inj z)]
  rw [e]
  exact q⟩
theorem i_eqB {c d : Bool} (q : Q (.bl (c == d)) H) : rEq (.bl c) (.bl d) H Q := ⟨rfl, by
  rw [dec_bl]
  exact q⟩
theorem i_neB {c d : Bool} (q : Q (.bl (!(c == d))) H) : rNe (.bl c) (.bl d) H Q := ⟨rfl, by
  rw [dec_bl]
  exact q⟩
theorem i_eqS {c d : Str} (q : Q (.bl (c == d)) H) : rEq (.str c) (.str d) H Q := ⟨rfl, by
  rw [dec_str]
  exact q⟩
theorem i_neS {c d : Str} (q : Q (.bl (!(c == d))) H) : rNe (.str c) (.str d) H Q := ⟨rfl, by
  rw [dec_str]
  exact q⟩
theorem i_test {te : TE} {P : Bool → Hp → Prop} (h : te σ H fun x H1 => ∃ k, x = .bl k ∧ P k H1) : tTest te σ H P := h
theorem i_B {te : TE} {P : Bool → Hp → Prop} (h : te σ H fun x H1 => ∃ k, x = .bl k ∧ P k H1) : tB te σ H P := h
theorem i_bl {b : Bool} {P : Bool → Prop} (q : P b) : ∃ k, V.bl b = .bl k ∧ P k := ⟨b, rfl, q⟩
theorem i_and {t u : TT} {P : Bool → Hp → Prop} (h : t σ H fun c H1 => if c = true then u σ H1 P else P false H1) : tAnd t u σ H P := h
theorem i_or {t u : TT} {P : Bool → Hp → Prop} (h : t σ H fun c H1 => if c = true then P true H1 else u σ H1 P) : tOr t u σ H P := h
theorem i_not {t : TT} {P : Bool → Hp → Prop} (h : t σ H fun c H1 => P (!c) H1) : tNot t σ H P := h
theorem i_andV {ta tb : TE} (h : ta σ H fun x H1 => ∃ c, x = .bl c ∧ if c = true then tb σ H1 Q else Q (.bl false) H1) : tAndV ta tb σ H Q := h
theorem i_orV {ta tb : TE} (h : ta σ H fun x H1 => ∃ c, x = .bl c ∧ if c = true then Q (.bl true) H1 else tb σ H1 Q) : tOrV ta tb σ H Q := h
theorem i_notV {ta : TE} (h : ta σ H fun x H1 => ∃ c, x = .bl c ∧ Q (.bl (!c)) H1) : tNotV ta σ H Q := h
theorem i_ife {t : TT} {ta tb : TE} (h : t σ H fun c H1 => if c = true then ta σ H1 Q else tb σ H1 Q) : tIf t ta tb σ H Q := h
theorem i_call {sp : Sp} {E : XK} {t : TA} (h : t σ H fun vs H1 => sp vs H1 Q E) : tCall sp [] E t σ H Q := by
  have e : (fun vs H1 => sp (vs ++ []) H1 Q E) = fun vs H1 => sp vs H1 Q E := by
    funext vs H1
    rw [List.append_nil]
  show t σ H (fun vs H1 => sp (vs ++ []) H1 Q E)
  rw [e]
  exact h
theorem i_cb {r : List V → Hp → VK → Prop} {t : TA} (h : t σ H fun vs H1 => r vs H1 Q) : tCB r t σ H Q := h
theorem i_nil {P : List V → Hp → Prop} (q : P [] H) : tNil σ H P := q
theorem i_cons {ta : TE} {tr : TA} {P : List V → Hp → Prop} (h : ta σ H fun x H1 => tr σ H1 fun xs H2 => P (x :: xs) H2) : tCons ta tr σ H P := h
theorem i_tup {t : TA} (h : t σ H fun xs H1 => xs.length ≤ sizeLine ∧ ∀ p, H1 p = none → Q (.ref p) (upd H1 p (.tup xs))) : tTup t σ H Q := h
theorem i_lst {t : TA} (h : t σ H fun xs H1 => xs.length ≤ sizeLine ∧ ∀ p, H1 p = none → Q (.ref p) (upd H1 p (.lst xs))) : tLst t σ H Q := h
theorem i_new {R : Addr → Prop} (hz : xs.length ≤ sizeLine) (q : ∀ p, H p = none → R p) : xs.length ≤ sizeLine ∧ ∀ p, H p = none → R p := ⟨hz, q⟩
theorem i_ixL (h : SqL K H p xs) (e : atI xs i = some v) (q : Q v H) : rIxL K (.ref p) (.int i) H Q := ⟨p, xs, i, v, rfl, rfl, h, e, q⟩
theorem i_ixT (h : SqT K H p xs) (e : atI xs i = some v) (q : Q v H) : rIxT K (.ref p) (.int i) H Q := ⟨p, xs, i, v, rfl, rfl, h, e, q⟩
theorem at_lt {α : Type} {xs : List α} {i : Int} (h0 : 0 ≤ i) (h1 : i < xs.length) : ∃ v, atI xs i = some v ∧ xs[i.toNat]? = some v := by
  have hk : i.toNat < xs.length := by omega
  refine ⟨xs[i.toNat], ?_, List.getElem?_eq_getElem hk⟩
  have e := atI_nat (xs := xs) (j := i.toNat) (v := xs[i.toNat]) (List.getElem?_eq_getElem hk)
  rw [Int.toNat_of_nonneg h0] at e
  exact e
/-- an item at an open place: one of those written -/
theorem i_ix2 {y1 y2 : V} (h : SqL K H p [y1, y2]) (h0 : 0 ≤ i) (h1 : i < 2) (q : ∀ v, v = y1 ∨ v = y2 → Q v H) : rIxL K (.ref p) (.int i) H Q := by
  rcases (by omega : i = 0 ∨ i = 1) with e | e <;> subst e
  · exact ⟨p, _, _, y1, rfl, rfl, h, rfl, q _ (.inl rfl)⟩
  · exact ⟨p, _, _, y2, rfl, rfl, h, rfl, q _ (.inr rfl)⟩
theorem i_ix2I {y1 y2 : Int} (h : SqL K H p [.int y1, .int y2]) (h0 : 0 ≤ i) (h1 : i < 2) (q : ∀ v, v = y1 ∨ v = y2 → Q (.int v) H) : rIxL K (.ref p) (.int i) H Q := by
  rcases (by omega : i = 0 ∨ i = 1) with e | e <;> subst e
  · exact ⟨p, _, _, .int y1, rfl, rfl, h, rfl, q _ (.inl rfl)⟩
  · exact ⟨p, _, _, .int y2, rfl, rfl, h, rfl, q _ (.inr rfl)⟩
theorem i_ix3I {y1 y2 y3 : Int} (h : SqL K H p [.int y1, .int y2, .int y3]) (h0 : 0 ≤ i) (h1 : i < 3) (q : ∀ v, v = y1 ∨ v = y2 ∨ v = y3 → Q (.int v) H) : rIxL K (.ref p) (.int i) H Q := by
  rcases (by omega : i = 0 ∨ i = 1 ∨ i = 2) with e | e | e <;> subst e
  · exact ⟨p, _, _, .int y1, rfl, rfl, h, rfl, q _ (.inl rfl)⟩
  · exact ⟨p, _, _, .int y2, rfl, rfl, h, rfl, q _ (.inr (.inl rfl))⟩
  · exact ⟨p, _, _, .int y3, rfl, rfl, h, rfl, q _ (.inr (.inr rfl))⟩
theorem i_ix4I {y1 y2 y3 y4 : Int} (h : SqL K H p [.int y1, .int y2, .int y3, .int y4]) (h0 : 0 ≤ i) (h1 : i < 4) (q : ∀ v, v = y1 ∨ v = y2 ∨ v = y3 ∨ v = y4 → Q (.int v) H) : rIxL K (.ref p) (.int i) H Q := by
  rcases (by omega : i = 0 ∨ i = 1 ∨ i = 2 ∨ i = 3) with e | e | e | e <;> subst e
  · exact ⟨p, _, _, .int y1, rfl, rfl, h, rfl, q _ (.inl rfl)⟩
  · exact ⟨p, _, _, .int y2, rfl, rfl, h, rfl, q _ (.inr (.inl rfl))⟩
  · exact ⟨p, _, _, .int y3, rfl, rfl, h, rfl, q _ (.inr (.inr (.inl rfl)))⟩
  · exact ⟨p, _, _, .int y4, rfl, rfl, h, rfl, q _ (.inr (.inr (.inr rfl)))⟩
theorem i_ix3R {y1 y2 y3 : Addr} (h : SqL K H p [.ref y1, .ref y2, .ref y3]) (h0 : 0 ≤ i) (h1 : i < 3) (q : ∀ v, v = y1 ∨ v = y2 ∨ v = y3 → Q (.ref v) H) : rIxL K (.ref p) (.int i) H Q := by
  rcases (by omega : i = 0 ∨ i = 1 ∨ i = 2) with e | e | e <;> subst e
  · exact ⟨p, _, _, .ref y1, rfl, rfl, h, rfl, q _ (.inl rfl)⟩
  · exact ⟨p, _, _, .ref y2, rfl, rfl, h, rfl, q _ (.inr (.inl rfl))⟩
  · exact ⟨p, _, _, .ref y3, rfl, rfl, h, rfl, q _ (.inr (.inr rfl))⟩
theorem i_ix4R {y1 y2 y3 y4 : Addr} (h : SqL K H p [.ref y1, .ref y2, .ref y3, .ref y4]) (h0 : 0 ≤ i) (h1 : i < 4) (q : ∀ v, v = y1 ∨ v = y2 ∨ v = y3 ∨ v = y4 → Q (.ref v) H) : rIxL K (.ref p) (.int i) H Q := by
  rcases (by omega : i = 0 ∨ i = 1 ∨ i = 2 ∨ i = 3) with e | e | e | e <;> subst e
  · exact ⟨p, _, _, .ref y1, rfl, rfl, h, rfl, q _ (.inl rfl)⟩
  · exact ⟨p, _, _, .ref y2, rfl, rfl, h, rfl, q _ (.inr (.inl rfl))⟩
  · exact ⟨p, _, _, .ref y3, rfl, rfl, h, rfl, q _ (.inr (.inr (.inl rfl)))⟩
  · exact ⟨p, _, _, .ref y4, rfl, rfl, h, rfl, q _ (.inr (.inr (.inr rfl)))⟩
theorem i_gtup {m : Nat} {t : TGs} {Z : L2.St → Hp → Prop} (h : SqT K H p xs) (e : xs.length = m) (q : t xs σ H Z) : gTup K m t (.ref p) σ H Z := ⟨p, xs, rfl, h, e, q⟩
theorem i_gtupL {m : Nat} {t : TGs} {Z : L2.St → Hp → Prop} (h : SqT K H p xs) (e : xs.length = m) (q : t xs σ H Z) : gTup K m t (.ref p) σ H Z := ⟨p, xs, rfl, h, e, q⟩
theorem i_gcons {t : TG} {u : TGs} {r : List V} {Z : L2.St → Hp → Prop} (h : t v σ H fun σ1 H1 => u r σ1 H1 Z) : gCons t u (v :: r) σ H Z := ⟨v, r, rfl, h⟩
theorem i_gnil {Z : L2.St → Hp → Prop} (h : Z σ H) : gNil [] σ H Z := ⟨rfl, h⟩
theorem i_gsub {to ti : TE} {t : TSet} {Z : L2.St → Hp → Prop} (h : to σ H fun o H1 => ti σ H1 fun i H2 => t o i v H2 fun H3 => Z σ H3) : gSub to ti t v σ H Z := h
theorem i_setL {k : Nat} {Z : Hp → Prop} (h : H p = some (.lst xs)) (e : ixN xs.length i = some k) (q : Z (upd H p (.lst (xs.set k v)))) : rSetL (.ref p) (.int i) v H Z := ⟨p, xs, i, k, rfl, rfl, h, e, q⟩
def par2 (k1 k2 : Nat) (σ : L2.St) (Z : L2.St → Hp → Prop) : List V → Hp → Prop := fun vs H1 => ∃ v w, vs = [v, w] ∧ Z ((σ.set k1 (some v)).set k2 (some w)) H1
theorem i_par {k1 k2 : Nat} {ta : TA} (h : ta σ H (par2 k1 k2 σ nx)) : tPar k1 k2 ta ⟨nx, rt, bk, ct⟩ σ H := h
theorem i_par2 {k1 k2 : Nat} {w : V} {Z : L2.St → Hp → Prop} (e : (σ.set k1 (some v)).set k2 (some w) = σ') (q : Z σ' H) : par2 k1 k2 σ Z [v, w] H := by
  subst e
  exact ⟨v, w, rfl, q⟩
theorem i_aug {k : Nat} {te : TE} {ti : TIp} (h : σ[k]? = some (some x)) (q : te σ H fun y H1 => ti x y H1 fun z H2 => gName k z σ H2 nx) : tAug k te ti ⟨nx, rt, bk, ct⟩ σ H := ⟨x, h, q⟩
theorem i_ip {f : Int → Int → Int} (q : Q (.int (f i j)) H) : ipI f (.int i) (.int j) H Q := ⟨i, j, rfl, rfl, q⟩
theorem i_for {wi : TI} {g : TG} {tb : TS} (h : wi σ H fun J H1 => ∃ W : Nat → Nat → L2.St → Hp → Prop, (∃ m, W 0 m σ H1) ∧ ∀ i m σ H, W i m σ H →
  (J.stop i H ∧ nx σ H) ∨ (J.go i H ∧ ∃ N : L2.St → Hp → Prop, (∀ σ' H', N σ' H' → ∃ m', m' < m ∧ W (i + 1) m' σ' H') ∧ ∀ x H', J.yld i H x H' → g x σ H' fun σ2 H2 => tb ⟨N, rt, nx, N⟩ σ2 H2)) : tFor wi g tb ⟨nx, rt, bk, ct⟩ σ H := h
theorem i_rng1 {ta : TA} {R : It → Hp → Prop} (h : ta σ H fun vs H1 => ∃ j : Int, vs = [.int j] ∧ -(2 ^ 62) ≤ j ∧ j < 2 ^ 62 ∧ R (Itr 0 j.toNat) H1) : iRng1 ta σ H R := h
theorem i_rng1' {R : Int → Prop} (h1 : -(2 ^ 62) ≤ j) (h2 : j < 2 ^ 62) (q : R j) : ∃ j' : Int, [V.int j] = [.int j'] ∧ -(2 ^ 62) ≤ j' ∧ j' < 2 ^ 62 ∧ R j' := ⟨j, rfl, h1, h2, q⟩
theorem i_rng2 {ta : TA} {R : It → Hp → Prop} (h : ta σ H fun vs H1 => ∃ i j : Int, vs = [.int i, .int j] ∧ (-(2 ^ 62) ≤ i ∧ i < 2 ^ 62 ∧ -(2 ^ 62) ≤ j ∧ j < 2 ^ 62) ∧ R (Itr i (j - i).toNat) H1) : iRng2 ta σ H R := h
theorem i_rng2' {R : Int → Int → Prop} (h : -(2 ^ 62) ≤ i ∧ i < 2 ^ 62 ∧ -(2 ^ 62) ≤ j ∧ j < 2 ^ 62) (q : R i j) : ∃ i' j' : Int, [V.int i, V.int j] = [.int i', .int j'] ∧ (-(2 ^ 62) ≤ i' ∧ i' < 2 ^ 62 ∧ -(2 ^ 62) ≤ j' ∧ j' < 2 ^ 62) ∧ R i' j' := ⟨i, j, rfl, h, q⟩
theorem i_ilist {tl : TE} {R : It → Hp → Prop} (h : tl σ H fun x H1 => ∃ a, x = .ref a ∧ (∃ xs, SqL K H1 a xs) ∧ R (Itl K a) H1) : iList K tl σ H R := h
theorem i_ilist' {R : Addr → Prop} (h : SqL K H p xs) (q : R p) : ∃ a, V.ref p = .ref a ∧ (∃ xs, SqL K H a xs) ∧ R a := ⟨p, rfl, ⟨xs, h⟩, q⟩
theorem i_itup {tl : TE} {R : It → Hp → Prop} (h : tl σ H fun x H1 => ∃ a, x = .ref a ∧ (∃ xs, SqT K H1 a xs) ∧ R (Itt K a) H1) : iTup K tl σ H R := h
theorem i_itup' {R : Addr → Prop} (h : SqT K H p xs) (q : R p) : ∃ a, V.ref p = .ref a ∧ (∃ xs, SqT K H a xs) ∧ R a := ⟨p, rfl, ⟨xs, h⟩, q⟩
/-- built-ins by values -/
theorem i_abs {R : Int → Prop} (q : R i) : ∃ i', [V.int i] = [.int i'] ∧ R i' := ⟨i, rfl, q⟩
theorem i_int2 {R : Int → Int → Prop} (q : R i j) : ∃ i' j', [V.int i, V.int j] = [.int i', .int j'] ∧ R i' j' := ⟨i, j, rfl, q⟩

theorem i_int1 {R : Int → Prop} {S : Prop} (q : R i) : (∃ i', [V.int i] = [.int i'] ∧ R i') ∨ S := .inl ⟨i, rfl, q⟩
theorem i_intb {b : Bool} {R : Bool → Prop} {S : Prop} (q : R b) : S ∨ ∃ k, [V.bl b] = [.bl k] ∧ R k := .inr ⟨b, rfl, q⟩
theorem i_lenL {R : List V → Prop} (h : SqL K H p xs) (q : R xs) : ∃ p' ys, [V.ref p] = [.ref p'] ∧ (SqL K H p' ys ∨ SqT K H p' ys) ∧ R ys := ⟨p, xs, rfl, .inl h, q⟩
theorem i_lenT {R : List V → Prop} (h : SqT K H p xs) (q : R xs) : ∃ p' ys, [V.ref p] = [.ref p'] ∧ (SqL K H p' ys ∨ SqT K H p' ys) ∧ R ys := ⟨p, xs, rfl, .inr h, q⟩
theorem i_isi {t : String} {c : String} {b : Bool} (ty : TyX K H x (.type t)) (h : kitB t c = some b) (q : Q (.bl b) H) : rIsi K [x, .ty c] H Q := ⟨x, .ty c, .type t, .type c, b, rfl, .ty c, ty, kit_ty h, q⟩
theorem i_append (h : H p = some (.lst xs)) (hz : xs.length < sizeLine) (q : Q .non (upd H p (.lst (xs ++ [v])))) : rAppend (.ref p) [v] H Q := ⟨p, xs, v, rfl, rfl, h, hz, q⟩
theorem i_appendM {H : Hp} {Q : VK} {p : Addr} {ms : List Int} {z : Int} (h : H p = some (.lst (ms.map V.int))) (hz : ms.length < sizeLine) (q : Q .non (upd H p (.lst ((ms ++ [z]).map V.int)))) : rAppend (.ref p) [.int z] H Q := ⟨p, _, _, rfl, rfl, h, by rw [List.length_map]; exact hz, by rw [List.map_append] at q; exact q⟩
theorem i_bm {T : String} {r : V → List V → Hp → VK → Prop} {to : TE} {t : TA} (h : to σ H fun x H1 => tyV K T x H1 ∧ t σ H1 fun xs H2 => r x xs H2 Q) : tBM K T r to t σ H Q := h
theorem i_bm0 {T : String} {r : V → List V → Hp → VK → Prop} {to : TE} (h : to σ H fun x H1 => tyV K T x H1 ∧ r x [] H1 Q) : tBM0 K T r to σ H Q := h
theorem i_bmL {A : Prop} (h : SqL K H p xs) (q : A) : tyV K "list" (.ref p) H ∧ A := ⟨.inl ⟨rfl, _, h⟩, q⟩
/-! ### ifs -/
theorem ite_d {p A B : Prop} {d : Decidable p} (h1 : p → A) (h2 : ¬ p → B) : if (@decide p d) = true then A else B := by
  by_cases h : p
  · rw [if_pos (decide_eq_true h)]
    exact h1 h
  · rw [if_neg (by rw [decide_eq_false h]; decide)]
    exact h2 h
theorem ite_nd {p A B : Prop} {d : Decidable p} (h1 : ¬ p → A) (h2 : p → B) : if (!(@decide p d)) = true then A else B := by
  by_cases h : p
  · rw [if_neg (by rw [decide_eq_true h]; decide)]
    exact h2 h
  · rw [if_pos (by rw [decide_eq_false h]; decide)]
    exact h1 h
theorem ite_b {b : Bool} {A B : Prop} (h1 : b = true → A) (h2 : b = false → B) : if b = true then A else B := by
  cases b
  · rw [if_neg (by decide)]
    exact h2 rfl
  · rw [if_pos rfl]
    exact h1 rfl
theorem ite_y {b : Bool} {A B : Prop} (e : b = true) (h : A) : if b = true then A else B := by
  rw [if_pos e]
  exact h
theorem ite_n {b : Bool} {A B : Prop} (e : b = false) (h : B) : if b = true then A else B := by
  rw [if_neg (by rw [e]; decide)]
  exact h
/-- both ways at once: what follows is asked of either -/
theorem ite_or {b : Bool} {R : Prop} {P : Bool → Prop} (h1 : b = true → P true → R) (h2 : b = false → P false → R) (hp : P b) : R := by
  cases b
  · exact h2 rfl hp
  · exact h1 rfl hp
end
end Hf
namespace Hf
open PySem PySem.Spec PyProof.Rows L2
theorem set_z {α : Type} {x y : α} {r : List α} : List.set (x :: r) 0 y = y :: r := rfl
theorem set_s {α : Type} {x y : α} {r r' : List α} {k : Nat} (h : List.set r k y = r') : List.set (x :: r) (k + 1) y = x :: r' := by
  rw [List.set_cons_succ, h]
theorem set_par {α : Type} {l l1 l2 : List α} {j k : Nat} {y z : α} (h1 : l.set j y = l1) (h2 : l1.set k z = l2) : (l.set j y).set k z = l2 := by
  rw [h1, h2]
theorem lk_same {H H' : Hp} {a : Addr} {o : HO} (e : Same H H') (h : H a = some o) : H' a = some o := e a o h
theorem lk_but {H H' : Hp} {a b : Addr} {o : HO} (e : But a H H') (n : b ≠ a) (h : H b = some o) : H' b = some o := e b o n h
end Hf

namespace Hf
open PySem PySem.Spec PyProof.Rows L2
/-! ### loops -/
section
variable {σ : L2.St} {H : Hp} {Q : VK} {nx bk ct : L2.St → Hp → Prop} {rt : VK} {K : PySem.W.Frag} {a : Addr} {xs : List V} {g : TG} {tb : TS} {lo : Int} {n : Nat}
theorem forR (Pv : Nat → L2.St → Hp → Prop) (h0 : Pv 0 σ H) (hd : ∀ σ H, Pv n σ H → nx σ H)
    (hs : ∀ (i : Nat) σ H, i < n → Pv i σ H → g (.int (lo + i)) σ H fun σ2 H2 => tb ⟨Pv (i + 1), rt, nx, Pv (i + 1)⟩ σ2 H2) :
    ∃ W : Nat → Nat → L2.St → Hp → Prop, (∃ m, W 0 m σ H) ∧ ∀ i m σ H, W i m σ H →
      ((Itr lo n).stop i H ∧ nx σ H) ∨ ((Itr lo n).go i H ∧ ∃ N : L2.St → Hp → Prop, (∀ σ' H', N σ' H' → ∃ m', m' < m ∧ W (i + 1) m' σ' H') ∧ ∀ x H', (Itr lo n).yld i H x H' → g x σ H' fun σ2 H2 => tb ⟨N, rt, nx, N⟩ σ2 H2) :=
  for_range (D := ⟨nx, rt, fun _ _ => False, fun _ _ => False⟩) Pv h0 hs hd
theorem forL (Pv : Nat → L2.St → Hp → Prop) (h0 : Pv 0 σ H) (hl : ∀ i σ H, i ≤ xs.length → Pv i σ H → SqL K H a xs) (hd : ∀ σ H, Pv xs.length σ H → nx σ H)
    (hs : ∀ i x σ H, xs[i]? = some x → Pv i σ H → g x σ H fun σ2 H2 => tb ⟨Pv (i + 1), rt, nx, Pv (i + 1)⟩ σ2 H2) :
    ∃ W : Nat → Nat → L2.St → Hp → Prop, (∃ m, W 0 m σ H) ∧ ∀ i m σ H, W i m σ H →
      ((Itl K a).stop i H ∧ nx σ H) ∨ ((Itl K a).go i H ∧ ∃ N : L2.St → Hp → Prop, (∀ σ' H', N σ' H' → ∃ m', m' < m ∧ W (i + 1) m' σ' H') ∧ ∀ x H', (Itl K a).yld i H x H' → g x σ H' fun σ2 H2 => tb ⟨N, rt, nx, N⟩ σ2 H2) :=
  for_list (D := ⟨nx, rt, fun _ _ => False, fun _ _ => False⟩) Pv h0 hl hs hd
theorem forT (Pv : Nat → L2.St → Hp → Prop) (h0 : Pv 0 σ H) (hl : ∀ i σ H, i ≤ xs.length → Pv i σ H → SqT K H a xs) (hd : ∀ σ H, Pv xs.length σ H → nx σ H)
    (hs : ∀ i x σ H, xs[i]? = some x → Pv i σ H → g x σ H fun σ2 H2 => tb ⟨Pv (i + 1), rt, nx, Pv (i + 1)⟩ σ2 H2) :
    ∃ W : Nat → Nat → L2.St → Hp → Prop, (∃ m, W 0 m σ H) ∧ ∀ i m σ H, W i m σ H →
      ((Itt K a).stop i H ∧ nx σ H) ∨ ((Itt K a).go i H ∧ ∃ N : L2.St → Hp → Prop, (∀ σ' H', N σ' H' → ∃ m', m' < m ∧ W (i + 1) m' σ' H') ∧ ∀ x H', (Itt K a).yld i H x H' → g x σ H' fun σ2 H2 => tb ⟨N, rt, nx, N⟩ σ2 H2) :=
  for_tup (D := ⟨nx, rt, fun _ _ => False, fun _ _ => False⟩) Pv h0 hl hs hd
/-- while: W by a measure; the test is read by hand, its two ways by turnW and the loop's end -/
theorem whileW {c : TT} (W : Nat → L2.St → Hp → Prop) (m : Nat) (h0 : W m σ H)
    (hs : ∀ m σ H, W m σ H → c σ H fun b H1 => if b = true then ∃ N : L2.St → Hp → Prop, (∀ σ' H', N σ' H' → ∃ m', m' < m ∧ W m' σ' H') ∧ tb ⟨N, rt, nx, N⟩ σ H1 else nx σ H1) : tWhile c tb ⟨nx, rt, bk, ct⟩ σ H :=
  ⟨W, ⟨m, h0⟩, hs⟩
theorem turnW {W : Nat → L2.St → Hp → Prop} {m : Nat} (h : tb ⟨fun σ' H' => ∃ m', m' < m ∧ W m' σ' H', rt, nx, fun σ' H' => ∃ m', m' < m ∧ W m' σ' H'⟩ σ H) :
    ∃ N : L2.St → Hp → Prop, (∀ σ' H', N σ' H' → ∃ m', m' < m ∧ W m' σ' H') ∧ tb ⟨N, rt, nx, N⟩ σ H := ⟨_, fun _ _ h => h, h⟩
end
theorem But.free {a p : Addr} {o : HO} {H H' : Hp} (hn : H' p = none) (e : But a H H') (ha : H' a = some o) : H p = none := by
  cases h : H p with
  | none => rfl
  | some u =>
    by_cases hp : p = a
    · rw [hp, ha] at hn
      cases hn
    · rw [e p u hp h] at hn
      cases hn
theorem Same.free' {p : Addr} {H H' : Hp} (hn : H' p = none) (e : Same H H') : H p = none := e.free hn
theorem But.newT {a p : Addr} {H H1 : Hp} {o : HO} (hp : H1 p = none) (x : But a H H1) : But a H (L2.upd H1 p o) := But.new x hp
theorem But.transT {a : Addr} {H H1 H2 : Hp} (y : But a H1 H2) (x : But a H H1) : But a H H2 := But.trans x y
theorem Same.transT {H H1 H2 : Hp} (y : Same H1 H2) (x : Same H H1) : Same H H2 := x.trans y
theorem Same.newT' {H H1 : Hp} {p : Addr} {o : HO} (hp : H1 p = none) (x : Same H H1) : Same H (upd H1 p o) := Same.newT x hp
theorem But.transS {a : Addr} {H H1 H2 : Hp} (y : Same H1 H2) (x : But a H H1) : But a H H2 := fun b o n h => y b o (x b o n h)
theorem Same.butT {H0 H H1 : Hp} {p : Addr} (x : But p H H1) (hp : H0 p = none) (e : Same H0 H) : Same H0 H1 := Same.but e hp x
/-! ### slices, sums of lists -/
theorem six_nn {n d : Nat} {k : Int} (h : 0 ≤ k) : HT.sIx n d (some k) = min k.toNat n := by
  obtain ⟨m, rfl⟩ := Int.eq_ofNat_of_zero_le h
  exact HT.sIx_nat n d m
theorem cut_to {xs : List V} {k : Int} (h : 0 ≤ k) : cutV xs none (some k) = xs.take k.toNat := by
  unfold cutV
  rw [six_nn h, HT.sIx_none, List.drop_zero, Nat.sub_zero]
  exact List.take_eq_take_iff.mpr (by omega)
theorem cut_from {xs : List V} {k : Int} (h : 0 ≤ k) : cutV xs (some k) none = xs.drop k.toNat := by
  unfold cutV
  rw [six_nn h, HT.sIx_none, List.take_of_length_le (by rw [List.length_drop]; omega)]
  by_cases c : k.toNat ≤ xs.length
  · rw [Nat.min_eq_left c]
  · rw [Nat.min_eq_right (show xs.length ≤ k.toNat by omega), List.drop_length, List.drop_eq_nil_of_le (show xs.length ≤ k.toNat by omega)]
theorem cut_mid {xs : List V} {j k : Int} (h : 0 ≤ j) (h' : 0 ≤ k) : cutV xs (some j) (some k) = (xs.drop j.toNat).take (k.toNat - j.toNat) := by
  unfold cutV
  rw [six_nn h, six_nn h']
  by_cases c : j.toNat ≤ xs.length
  · rw [Nat.min_eq_left c]
    refine List.take_eq_take_iff.mpr ?_
    rw [List.length_drop]
    omega
  · rw [Nat.min_eq_right (show xs.length ≤ j.toNat by omega), List.drop_length, List.drop_eq_nil_of_le (show xs.length ≤ j.toNat by omega), List.take_nil, List.take_nil]
section
variable {H : Hp} {Q : VK} {K : PySem.W.Frag} {p r : Addr} {xs ys : List V} {j k : Int} {lo hi : Option Int} {σ : L2.St}
theorem i_slTo (h : SqL K H p xs) (h0 : 0 ≤ k) (q : ∀ p', H p' = none → Q (.ref p') (upd H p' (.lst (xs.take k.toNat)))) : rSlL K (.ref p) none (some k) H Q := ⟨p, xs, rfl, h, by rw [cut_to h0]; exact q⟩
theorem i_slFrom (h : SqL K H p xs) (h0 : 0 ≤ k) (q : ∀ p', H p' = none → Q (.ref p') (upd H p' (.lst (xs.drop k.toNat)))) : rSlL K (.ref p) (some k) none H Q := ⟨p, xs, rfl, h, by rw [cut_from h0]; exact q⟩
theorem i_slMid (h : SqL K H p xs) (h0 : 0 ≤ j) (h1 : 0 ≤ k) (q : ∀ p', H p' = none → Q (.ref p') (upd H p' (.lst ((xs.drop j.toNat).take (k.toNat - j.toNat))))) : rSlL K (.ref p) (some j) (some k) H Q := ⟨p, xs, rfl, h, by rw [cut_mid h0 h1]; exact q⟩
theorem i_sl {R : V → Option Int → Option Int → Hp → VK → Prop} {te : TE} {tl th : TO} (h : te σ H fun x H1 => tl σ H1 fun l H2 => th σ H2 fun u H3 => R x l u H3 Q) : tSl R te tl th σ H Q := h
theorem i_nopart {P : Option Int → Hp → Prop} (q : P none H) : tNoPart σ H P := q
theorem i_part {te : TE} {P : Option Int → Hp → Prop} (h : te σ H fun x H1 => ∃ i, x = .int i ∧ P (some i) H1) : tPart te σ H P := h
theorem i_exint {i : Int} {R : Int → Prop} (q : R i) : ∃ i', V.int i = .int i' ∧ R i' := ⟨i, rfl, q⟩
theorem i_cat (h1 : H p = some (.lst xs)) (h2 : H r = some (.lst ys)) (hz : xs.length + ys.length ≤ sizeLine) (q : ∀ p', H p' = none → Q (.ref p') (upd H p' (.lst (xs ++ ys)))) : rCat (.ref p) (.ref r) H Q := ⟨p, r, xs, ys, rfl, rfl, h1, h2, hz, q⟩
theorem i_rep (h1 : H p = some (.lst xs)) (h2 : -(2 ^ 63) ≤ k ∧ k < 2 ^ 63) (hz : xs.length * k.toNat ≤ sizeLine) (q : ∀ p', H p' = none → Q (.ref p') (upd H p' (.lst (List.replicate k.toNat xs).flatten))) : rRep (.ref p) (.int k) H Q := ⟨p, k, xs, rfl, rfl, h1, h2.1, h2.2, hz, q⟩
theorem flat1 {α : Type} {x : α} : ∀ n : Nat, (List.replicate n [x]).flatten = List.replicate n x
  | 0 => rfl
  | n + 1 => by
    rw [List.replicate_succ, List.flatten_cons, flat1 n, List.replicate_succ]
    rfl
theorem i_rep1 {x : V} (h1 : H p = some (.lst [x])) (h2 : 0 ≤ k ∧ k ≤ 1000000) (q : ∀ p', H p' = none → Q (.ref p') (upd H p' (.lst (List.replicate k.toNat x)))) : rRep (.ref p) (.int k) H Q :=
  i_rep h1 (by omega) (sz4 (by show 1 * k.toNat ≤ 1000000; omega)) (by rw [flat1]; exact q)
end
/-- an if whose two ways meet: what holds behind it -/
theorem if_join {σ : L2.St} {H : Hp} {nx bk ct : L2.St → Hp → Prop} {rt : VK} {c : TT} {t u : TS} (P : L2.St → Hp → Prop) (h : ∀ nx' : L2.St → Hp → Prop, (∀ σ' H', P σ' H' → nx' σ' H') → tIfS c t u ⟨nx', rt, bk, ct⟩ σ H)
    (cont : ∀ σ' H', P σ' H' → nx σ' H') : tIfS c t u ⟨nx, rt, bk, ct⟩ σ H := h nx cont
/-- any statement, cut behind it -/
theorem st_join {σ : L2.St} {H : Hp} {nx bk ct : L2.St → Hp → Prop} {rt : VK} {t : TS} (P : L2.St → Hp → Prop) (h : ∀ nx' : L2.St → Hp → Prop, (∀ σ' H', P σ' H' → nx' σ' H') → t ⟨nx', rt, bk, ct⟩ σ H)
    (cont : ∀ σ' H', P σ' H' → nx σ' H') : t ⟨nx, rt, bk, ct⟩ σ H := h nx cont
theorem ints_at {ms : List Int} {i : Nat} {x : V} (h : (ms.map V.int)[i]? = some x) : ∃ z, x = .int z ∧ ms[i]? = some z := by
  rw [List.getElem?_map] at h
  cases e : ms[i]? with
  | none =>
    rw [e] at h
    cases h
  | some z =>
    rw [e] at h
    exact ⟨z, (Option.some.inj h).symm, rfl⟩
/-! ### equality of data -/
theorem i_eqT2 {K : PySem.W.Frag} {H : Hp} {Q : VK} {p r : Addr} {a b c d : Int} (h1 : SqT K H p [.int a, .int b]) (h2 : SqT K H r [.int c, .int d]) (q : Q (.bl (a == c && (b == d && true))) H) : rEqD K (.ref p) (.ref r) H Q :=
  ⟨.tuple [.int a, .int b], .tuple [.int c, .int d], .tup h1 (.cons (.int a) (.cons (.int b) .nil)), .tup h2 (.cons (.int c) (.cons (.int d) .nil)), rfl, rfl, by
    have e : PyData.eqv (.tuple [.int a, .int b]) (.tuple [.int c, .int d]) = (a == c && (b == d && true)) := by simp [PyData.eqv, PyData.eqvAll]
    rw [e]
    exact q⟩
/-! ### two objects that change -/
def But2 (a c : Addr) (H H' : Hp) : Prop := ∀ b o, b ≠ a → b ≠ c → H b = some o → H' b = some o
section
variable {a c b p : Addr} {H H' H1 H2 : Hp} {o u : HO} {K : PySem.W.Frag} {xs : List V}
theorem But2.refl (a c : Addr) (H : Hp) : But2 a c H H := fun _ _ _ _ h => h
theorem But2.transT (y : But2 a c H1 H2) (x : But2 a c H H1) : But2 a c H H2 := fun b o n m h => y b o n m (x b o n m h)
theorem But2.transS (y : Same H1 H2) (x : But2 a c H H1) : But2 a c H H2 := fun b o n m h => y b o (x b o n m h)
theorem But2.transL (y : But a H1 H2) (x : But2 a c H H1) : But2 a c H H2 := fun b o n m h => y b o n (x b o n m h)
theorem But2.transR (y : But c H1 H2) (x : But2 a c H H1) : But2 a c H H2 := fun b o n m h => y b o m (x b o n m h)
theorem But2.newT (hp : H1 p = none) (x : But2 a c H H1) : But2 a c H (L2.upd H1 p o) := fun b u n m h => by
  have h1 := x b u n m h
  rw [upd_ne (ne_of_none h1 hp)]
  exact h1
theorem But2.updL (x : But2 a c H H1) : But2 a c H (L2.upd H1 a o) := fun b u n m h => by
  rw [upd_ne n]
  exact x b u n m h
theorem But2.updR (x : But2 a c H H1) : But2 a c H (L2.upd H1 c o) := fun b u n m h => by
  rw [upd_ne m]
  exact x b u n m h
theorem lk_but2 (e : But2 a c H H') (n : b ≠ a) (m : b ≠ c) (h : H b = some o) : H' b = some o := e b o n m h
theorem But2.seq (e : But2 a c H H') (n : b ≠ a) (m : b ≠ c) (h : SqL K H b xs) : SqL K H' b xs := by
  rcases h with (h | ⟨o, h⟩) | h
  · exact .inl (.inl (e _ _ n m h))
  · exact .inl (.inr ⟨o, e _ _ n m h⟩)
  · exact .inr h
theorem But2.seqT (e : But2 a c H H') (n : b ≠ a) (m : b ≠ c) (h : SqT K H b xs) : SqT K H' b xs := by
  rcases h with (h | ⟨o, h⟩) | h
  · exact .inl (.inl (e _ _ n m h))
  · exact .inl (.inr ⟨o, e _ _ n m h⟩)
  · exact .inr h
theorem But2.free (hn : H' p = none) (e : But2 a c H H') (ha : H' a = some o) (hc : H' c = some u) : H p = none := by
  cases h : H p with
  | none => rfl
  | some v =>
    by_cases hp : p = a
    · rw [hp, ha] at hn
      cases hn
    · by_cases hq : p = c
      · rw [hq, hc] at hn
        cases hn
      · rw [e p v hp hq h] at hn
        cases hn
theorem But2.mut (hp : H p = none) (x : But2 a c H H1) : But2 a c H (L2.upd H1 p o) := fun b u n m h => by
  have e : b ≠ p := ne_of_none h hp
  exact lk_upd e (x b u n m h)
theorem But2.butT (y : But p H1 H2) (hp : H p = none) (x : But2 a c H H1) : But2 a c H H2 := fun b u n m h => y b u (ne_of_none h hp) (x b u n m h)
theorem Same.but2T {H0 : Hp} (x : But2 a c H H1) (ha : H0 a = none) (hc : H0 c = none) (e : Same H0 H) : Same H0 H1 := fun b u h => x b u (ne_of_none h ha) (ne_of_none h hc) (e b u h)
end
/-! ### len, by its number -/
def LenA (K : PySem.W.Frag) (H : Hp) (p : Addr) (n : Nat) : Prop := (∃ ys, SqL K H p ys ∧ ys.length = n) ∨ ∃ ys, SqT K H p ys ∧ ys.length = n
def rLenA (K : PySem.W.Frag) : List V → Hp → VK → Prop := fun xs H Q => ∃ p n, xs = [V.ref p] ∧ LenA K H p n ∧ Q (.int n) H
theorem call_lenA {X : Cx} : CallR X (.builtin "len") (rLenA X.K) := by
  intro pins s σ H xs us Q I r h
  obtain ⟨p, n, e, hl, q⟩ := h
  refine call_len_seq pins s σ H xs us Q I r ?_
  rcases hl with ⟨ys, h1, h2⟩ | ⟨ys, h1, h2⟩
  · exact ⟨p, ys, e, .inl h1, by rw [h2]; exact q⟩
  · exact ⟨p, ys, e, .inr h1, by rw [h2]; exact q⟩
section
variable {σ : L2.St} {H : Hp} {Q : VK} {K : PySem.W.Frag} {p r : Addr} {xs ys : List V} {ms ns : List Int} {i j k : Int} {n : Nat}
theorem i_lenA (h : LenA K H p n) (q : Q (.int n) H) : rLenA K [.ref p] H Q := ⟨p, n, rfl, h, q⟩
theorem lenA_map {α : Type} {f : α → V} {zs : List α} (h : SqL K H p (zs.map f)) : LenA K H p zs.length := .inl ⟨_, h, List.length_map _⟩
theorem lenA_L (h : SqL K H p xs) : LenA K H p xs.length := .inl ⟨_, h, rfl⟩
theorem lenA_T (h : SqT K H p xs) : LenA K H p xs.length := .inr ⟨_, h, rfl⟩
theorem i_ixM (h : SqL K H p (ms.map V.int)) (h0 : 0 ≤ i) (h1 : i < ms.length) (q : ∀ z, ms[i.toNat]? = some z → Q (.int z) H) : rIxL K (.ref p) (.int i) H Q := by
  obtain ⟨v, e1, e2⟩ := at_lt (xs := ms.map V.int) h0 (by rw [List.length_map]; exact h1)
  obtain ⟨z, e, e3⟩ := ints_at e2
  subst e
  exact i_ixL h e1 (q z e3)
theorem i_ixG (h : SqL K H p xs) (h0 : 0 ≤ i) (h1 : i < xs.length) (q : ∀ v, xs[i.toNat]? = some v → Q v H) : rIxL K (.ref p) (.int i) H Q := by
  obtain ⟨v, e1, e2⟩ := at_lt h0 h1
  exact i_ixL h e1 (q v e2)
theorem i_sum (h : SqL K H p (ns.map V.int)) (q : Q (.int ns.sum) H) : rSum K [.ref p] H Q := ⟨p, ns, rfl, h, q⟩
theorem i_slToM (h : SqL K H p (ms.map V.int)) (h0 : 0 ≤ k) (q : ∀ p', H p' = none → Q (.ref p') (upd H p' (.lst ((ms.take k.toNat).map V.int)))) : rSlL K (.ref p) none (some k) H Q := i_slTo h h0 (by rw [← List.map_take]; exact q)
theorem i_slFromM (h : SqL K H p (ms.map V.int)) (h0 : 0 ≤ k) (q : ∀ p', H p' = none → Q (.ref p') (upd H p' (.lst ((ms.drop k.toNat).map V.int)))) : rSlL K (.ref p) (some k) none H Q := i_slFrom h h0 (by rw [← List.map_drop]; exact q)
theorem i_slMidM (h : SqL K H p (ms.map V.int)) (h0 : 0 ≤ j) (h1 : 0 ≤ k) (q : ∀ p', H p' = none → Q (.ref p') (upd H p' (.lst (((ms.drop j.toNat).take (k.toNat - j.toNat)).map V.int)))) : rSlL K (.ref p) (some j) (some k) H Q := i_slMid h h0 h1 (by rw [← List.map_drop, ← List.map_take]; exact q)
theorem i_catM (h1 : H p = some (.lst (ms.map V.int))) (h2 : H r = some (.lst (ns.map V.int))) (hz : ms.length + ns.length ≤ 1000000) (q : ∀ p', H p' = none → Q (.ref p') (upd H p' (.lst ((ms ++ ns).map V.int)))) : rCat (.ref p) (.ref r) H Q :=
  i_cat h1 h2 (sz4 (by rw [List.length_map, List.length_map]; exact hz)) (by rw [← List.map_append]; exact q)
theorem i_repM {x : Int} (h1 : H p = some (.lst [.int x])) (h2 : 0 ≤ k ∧ k ≤ 1000000) (q : ∀ p', H p' = none → Q (.ref p') (upd H p' (.lst ((List.replicate k.toNat x).map V.int)))) : rRep (.ref p) (.int k) H Q :=
  i_rep1 h1 h2 (by rw [← List.map_replicate]; exact q)
theorem eqvAll_ints : ∀ ms ns : List Int, PyData.eqvAll (ms.map PyData.int) (ns.map PyData.int) = decide (ms = ns)
  | [], [] => by simp [PyData.eqvAll]
  | [], _ :: _ => by simp [PyData.eqvAll]
  | _ :: _, [] => by simp [PyData.eqvAll]
  | m :: ms, n :: ns => by
    rw [List.map_cons, List.map_cons, PyData.eqvAll, eqvAll_ints ms ns, PyData.eqv]
    by_cases h : m = n
    · subst h
      simp
    · simp [h]
theorem canLay_ints : ∀ ms : List Int, PyData.canLayAll0 (ms.map PyData.int) = true
  | [] => by simp [PyData.canLayAll0]
  | m :: ms => by
    rw [List.map_cons, PyData.canLayAll0, canLay_ints ms]
    simp [PyData.canLay0]
theorem depth_ints : ∀ ms : List Int, PyData.depthAll (ms.map PyData.int) ≤ 1
  | [] => by simp [PyData.depthAll]
  | m :: ms => by
    have := depth_ints ms
    rw [List.map_cons, PyData.depthAll]
    simp [PyData.depth]
    omega
theorem dp_ints : ∀ ms : List Int, DpAll K H (ms.map V.int) (ms.map PyData.int)
  | [] => .nil
  | m :: ms => .cons (.int m) (dp_ints ms)
theorem shaped_ints (ms : List Int) : SeqAt.shaped (.list (ms.map PyData.int)) = true := by
  unfold SeqAt.shaped
  have h1 := canLay_ints ms
  have h2 := depth_ints ms
  simp [PyData.canLay0, PyData.depth, h1]
  omega
theorem i_eqLI (h1 : SqL K H p (ms.map V.int)) (h2 : SqL K H r (ns.map V.int)) (q : Q (.bl (decide (ms = ns))) H) : rEqD K (.ref p) (.ref r) H Q :=
  ⟨_, _, .lst h1 (dp_ints ms), .lst h2 (dp_ints ns), shaped_ints ms, shaped_ints ns, by rw [PyData.eqv, eqvAll_ints]; exact q⟩
theorem i_neLI (h1 : SqL K H p (ms.map V.int)) (h2 : SqL K H r (ns.map V.int)) (q : Q (.bl (!decide (ms = ns))) H) : rNeD K (.ref p) (.ref r) H Q :=
  ⟨_, _, .lst h1 (dp_ints ms), .lst h2 (dp_ints ns), shaped_ints ms, shaped_ints ns, by rw [PyData.eqv, eqvAll_ints]; exact q⟩
theorem i_eqL0 (h1 : SqL K H p (ms.map V.int)) (h2 : SqL K H r []) (q : Q (.bl (decide (ms = []))) H) : rEqD K (.ref p) (.ref r) H Q := i_eqLI (ns := []) h1 h2 q
theorem i_eq00 (h1 : SqL K H p []) (h2 : SqL K H r []) (q : Q (.bl true) H) : rEqD K (.ref p) (.ref r) H Q := i_eqLI (ms := []) (ns := []) h1 h2 (by simpa using q)
theorem i_isn {P : Prop} (q : P) : V.non = V.non ∧ P := ⟨rfl, q⟩
theorem i_tru {P : Prop} (q : P) : True ∧ P := ⟨trivial, q⟩
theorem i_glst {m : Nat} {t : TGs} {Z : L2.St → Hp → Prop} (h : SqL K H p xs) (e : xs.length = m) (q : t xs σ H Z) : gLst K m t (.ref p) σ H Z := ⟨p, xs, rfl, h, e, q⟩
end
/-! ### comprehensions -/
section
variable {σ : L2.St} {H H1 : Hp} {Q : VK} {K : PySem.W.Frag} {D a : Addr} {wi : TI} {g : TG} {tt : TT} {te : TE} {vs : List Nat} {lo : Int} {n : Nat} {xs : List V} {Qd : Hp → Prop}
theorem i_lc (h : wi σ H fun J H1 => ∀ D, H1 D = none → ∃ W : Nat → Nat → Hp → Prop, (∃ m, W 0 m (upd H1 D (.lst []))) ∧ ∀ i m H, W i m H →
  (J.stop i H ∧ Q (.ref D) H) ∨ (J.go i H ∧ ∃ Nx : Hp → Prop, (∀ H', Nx H' → ∃ m', m' < m ∧ W (i + 1) m' H') ∧ ∀ x H', J.yld i H x H' → g x (wipe σ vs) H' fun σ2 H2 => wipe σ2 vs = wipe σ vs ∧ tt σ2 H2 fun b H3 =>
    if b = true then te σ2 H3 fun y H4 => ∃ acc, H4 D = some (.lst acc) ∧ acc.length < sizeLine ∧ Nx (upd H4 D (.lst (acc ++ [y]))) else Nx H3)) : tLc wi g tt te vs σ H Q := h
/-- the turn of a comprehension: what its target, test and element come to; Z is wanted of a kept element, Y where the test says no -/
def LcTurn (g : TG) (tt : TT) (te : TE) (vs : List Nat) (σ : L2.St) (x : V) (H : Hp) (Z : VK) (Y : Hp → Prop) : Prop :=
  g x (wipe σ vs) H fun σ2 H2 => wipe σ2 vs = wipe σ vs ∧ tt σ2 H2 fun b H3 => if b = true then te σ2 H3 Z else Y H3
/-- over a range; P: what holds behind i turns of the list made so far -/
theorem lcR (P : Nat → List V → Hp → Prop) (nD : H1 D = none) (h0 : P 0 [] (upd H1 D (.lst [])))
    (hs : ∀ i acc H (Z : VK) (Y : Hp → Prop), i < n → P i acc H → H D = some (.lst acc) → (∀ y H4, H4 D = some (.lst acc) → acc.length < sizeLine → P (i + 1) (acc ++ [y]) (upd H4 D (.lst (acc ++ [y]))) → Z y H4) →
      (∀ H4, H4 D = some (.lst acc) → P (i + 1) acc H4 → Y H4) → LcTurn g tt te vs σ (.int (lo + i)) H Z Y) (hd : ∀ acc H, P n acc H → H D = some (.lst acc) → Qd H) :
    ∃ W : Nat → Nat → Hp → Prop, (∃ m, W 0 m (upd H1 D (.lst []))) ∧ ∀ i m H, W i m H →
      ((Itr lo n).stop i H ∧ Qd H) ∨ ((Itr lo n).go i H ∧ ∃ Nx : Hp → Prop, (∀ H', Nx H' → ∃ m', m' < m ∧ W (i + 1) m' H') ∧ ∀ x H', (Itr lo n).yld i H x H' → g x (wipe σ vs) H' fun σ2 H2 => wipe σ2 vs = wipe σ vs ∧ tt σ2 H2 fun b H3 =>
        if b = true then te σ2 H3 fun y H4 => ∃ acc, H4 D = some (.lst acc) ∧ acc.length < sizeLine ∧ Nx (upd H4 D (.lst (acc ++ [y]))) else Nx H3) := by
  refine lc_range (fun i H => ∃ acc, P i acc H ∧ H D = some (.lst acc)) ⟨[], h0, upd_same⟩ (fun i H hi hp => ?_) (fun H hp => ?_)
  · obtain ⟨acc, hp, ha⟩ := hp
    exact hs i acc H _ _ hi hp ha (fun y H4 h1 h2 h3 => ⟨acc, h1, h2, _, h3, upd_same⟩) fun H4 h1 h2 => ⟨acc, h2, h1⟩
  · obtain ⟨acc, hp, ha⟩ := hp
    exact hd acc H hp ha
theorem lcL (P : Nat → List V → Hp → Prop) (nD : H1 D = none) (h0 : P 0 [] (upd H1 D (.lst []))) (hl : ∀ i acc H, i ≤ xs.length → P i acc H → H D = some (.lst acc) → SqL K H a xs)
    (hs : ∀ i x acc H (Z : VK) (Y : Hp → Prop), xs[i]? = some x → P i acc H → H D = some (.lst acc) → (∀ y H4, H4 D = some (.lst acc) → acc.length < sizeLine → P (i + 1) (acc ++ [y]) (upd H4 D (.lst (acc ++ [y]))) → Z y H4) →
      (∀ H4, H4 D = some (.lst acc) → P (i + 1) acc H4 → Y H4) → LcTurn g tt te vs σ x H Z Y) (hd : ∀ acc H, P xs.length acc H → H D = some (.lst acc) → Qd H) :
    ∃ W : Nat → Nat → Hp → Prop, (∃ m, W 0 m (upd H1 D (.lst []))) ∧ ∀ i m H, W i m H →
      ((Itl K a).stop i H ∧ Qd H) ∨ ((Itl K a).go i H ∧ ∃ Nx : Hp → Prop, (∀ H', Nx H' → ∃ m', m' < m ∧ W (i + 1) m' H') ∧ ∀ x H', (Itl K a).yld i H x H' → g x (wipe σ vs) H' fun σ2 H2 => wipe σ2 vs = wipe σ vs ∧ tt σ2 H2 fun b H3 =>
        if b = true then te σ2 H3 fun y H4 => ∃ acc, H4 D = some (.lst acc) ∧ acc.length < sizeLine ∧ Nx (upd H4 D (.lst (acc ++ [y]))) else Nx H3) := by
  refine lc_list (xs := xs) (fun i H => ∃ acc, P i acc H ∧ H D = some (.lst acc)) ⟨[], h0, upd_same⟩ (fun i H hi hp => ?_) (fun i x H hi hp => ?_) (fun H hp => ?_)
  · obtain ⟨acc, hp, ha⟩ := hp
    exact hl i acc H hi hp ha
  · obtain ⟨acc, hp, ha⟩ := hp
    exact hs i x acc H _ _ hi hp ha (fun y H4 h1 h2 h3 => ⟨acc, h1, h2, _, h3, upd_same⟩) fun H4 h1 h2 => ⟨acc, h2, h1⟩
  · obtain ⟨acc, hp, ha⟩ := hp
    exact hd acc H hp ha
/-- whole numbers, one for each turn -/
theorem lcR_int (f : Nat → Int) (nD : H1 D = none) (hn : n ≤ 1000000)
    (hs : ∀ i H (Z : VK) (Y : Hp → Prop), i < n → Same H1 H → (∀ H4, Same H H4 → Z (.int (f i)) H4) → LcTurn g tt te vs σ (.int (lo + i)) H Z Y)
    (hd : ∀ H, Same H1 H → H D = some (.lst (((List.range n).map f).map V.int)) → Qd H) :
    ∃ W : Nat → Nat → Hp → Prop, (∃ m, W 0 m (upd H1 D (.lst []))) ∧ ∀ i m H, W i m H →
      ((Itr lo n).stop i H ∧ Qd H) ∨ ((Itr lo n).go i H ∧ ∃ Nx : Hp → Prop, (∀ H', Nx H' → ∃ m', m' < m ∧ W (i + 1) m' H') ∧ ∀ x H', (Itr lo n).yld i H x H' → g x (wipe σ vs) H' fun σ2 H2 => wipe σ2 vs = wipe σ vs ∧ tt σ2 H2 fun b H3 =>
        if b = true then te σ2 H3 fun y H4 => ∃ acc, H4 D = some (.lst acc) ∧ acc.length < sizeLine ∧ Nx (upd H4 D (.lst (acc ++ [y]))) else Nx H3) := by
  refine lcR (fun i acc H => i ≤ n ∧ acc = ((List.range i).map f).map V.int ∧ Same H1 H) nD ⟨Nat.zero_le _, rfl, Same.new nD⟩ ?_ ?_
  · rintro i acc H Z Y hi ⟨_, rfl, hsame⟩ ha hz _
    refine hs i H Z Y hi hsame fun H4 h4 => hz _ H4 (h4 _ _ ha) (sz4' (by simp; omega)) ⟨hi, ?_, Same.mut (hsame.trans h4) nD⟩
    rw [List.range_succ, List.map_append, List.map_append]
    rfl
  · rintro acc H ⟨_, rfl, hsame⟩ ha
    exact hd H hsame ha
theorem lcL_int (f : Nat → Int) (nD : H1 D = none) (hn : xs.length ≤ 1000000) (hx : SqL K H1 a xs)
    (hs : ∀ i x H (Z : VK) (Y : Hp → Prop), xs[i]? = some x → Same H1 H → (∀ H4, Same H H4 → Z (.int (f i)) H4) → LcTurn g tt te vs σ x H Z Y)
    (hd : ∀ H, Same H1 H → H D = some (.lst (((List.range xs.length).map f).map V.int)) → Qd H) :
    ∃ W : Nat → Nat → Hp → Prop, (∃ m, W 0 m (upd H1 D (.lst []))) ∧ ∀ i m H, W i m H →
      ((Itl K a).stop i H ∧ Qd H) ∨ ((Itl K a).go i H ∧ ∃ Nx : Hp → Prop, (∀ H', Nx H' → ∃ m', m' < m ∧ W (i + 1) m' H') ∧ ∀ x H', (Itl K a).yld i H x H' → g x (wipe σ vs) H' fun σ2 H2 => wipe σ2 vs = wipe σ vs ∧ tt σ2 H2 fun b H3 =>
        if b = true then te σ2 H3 fun y H4 => ∃ acc, H4 D = some (.lst acc) ∧ acc.length < sizeLine ∧ Nx (upd H4 D (.lst (acc ++ [y]))) else Nx H3) := by
  refine lcL (xs := xs) (fun i acc H => i ≤ xs.length ∧ acc = ((List.range i).map f).map V.int ∧ Same H1 H) nD ⟨Nat.zero_le _, rfl, Same.new nD⟩ (fun i acc H _ hp _ => hp.2.2.seq hx) ?_ ?_
  · rintro i x acc H Z Y hi ⟨_, rfl, hsame⟩ ha hz _
    have hi' : i < xs.length := (List.getElem?_eq_some_iff.mp hi).1
    refine hs i x H Z Y hi hsame fun H4 h4 => hz _ H4 (h4 _ _ ha) (sz4' (by simp; omega)) ⟨hi', ?_, Same.mut (hsame.trans h4) nD⟩
    rw [List.range_succ, List.map_append, List.map_append]
    rfl
  · rintro acc H ⟨_, rfl, hsame⟩ ha
    exact hd H hsame ha
/-- over a range, kept where b says so -/
theorem lcR_fil (b : Nat → Bool) (f : Nat → Int) (nD : H1 D = none) (hn : n ≤ 1000000)
    (hs : ∀ i H (Z : VK) (Y : Hp → Prop), i < n → Same H1 H → (b i = true → ∀ H4, Same H H4 → Z (.int (f i)) H4) → (b i = false → ∀ H4, Same H H4 → Y H4) → LcTurn g tt te vs σ (.int (lo + i)) H Z Y)
    (hd : ∀ H, Same H1 H → H D = some (.lst ((((List.range n).filter b).map f).map V.int)) → Qd H) :
    ∃ W : Nat → Nat → Hp → Prop, (∃ m, W 0 m (upd H1 D (.lst []))) ∧ ∀ i m H, W i m H →
      ((Itr lo n).stop i H ∧ Qd H) ∨ ((Itr lo n).go i H ∧ ∃ Nx : Hp → Prop, (∀ H', Nx H' → ∃ m', m' < m ∧ W (i + 1) m' H') ∧ ∀ x H', (Itr lo n).yld i H x H' → g x (wipe σ vs) H' fun σ2 H2 => wipe σ2 vs = wipe σ vs ∧ tt σ2 H2 fun b H3 =>
        if b = true then te σ2 H3 fun y H4 => ∃ acc, H4 D = some (.lst acc) ∧ acc.length < sizeLine ∧ Nx (upd H4 D (.lst (acc ++ [y]))) else Nx H3) := by
  refine lcR (fun i acc H => i ≤ n ∧ acc = (((List.range i).filter b).map f).map V.int ∧ Same H1 H) nD ⟨Nat.zero_le _, rfl, Same.new nD⟩ ?_ ?_
  · rintro i acc H Z Y hi ⟨_, rfl, hsame⟩ ha hz hy
    refine hs i H Z Y hi hsame (fun hb H4 h4 => hz _ H4 (h4 _ _ ha) (sz4' ?_) ⟨hi, ?_, Same.mut (hsame.trans h4) nD⟩) (fun hb H4 h4 => hy H4 (h4 _ _ ha) ⟨hi, ?_, hsame.trans h4⟩)
    · have := List.length_filter_le b (List.range i)
      rw [List.length_range] at this
      simp only [List.length_map]
      omega
    · rw [List.range_succ, List.filter_append, List.map_append, List.map_append, List.filter_cons, if_pos hb]
      rfl
    · rw [List.range_succ, List.filter_append, List.map_append, List.map_append, List.filter_cons, if_neg (by rw [hb]; exact Bool.false_ne_true)]
      simp
  · rintro acc H ⟨_, rfl, hsame⟩ ha
    exact hd H hsame ha
/-- over a list, nothing kept -/
theorem lcL_nil (nD : H1 D = none) (hx : SqL K H1 a xs)
    (hs : ∀ (i : Nat) (x : V) H (Z : VK) (Y : Hp → Prop), xs[i]? = some x → Same H1 H → (∀ H4, Same H H4 → Y H4) → LcTurn g tt te vs σ x H Z Y)
    (hd : ∀ H, Same H1 H → H D = some (.lst []) → Qd H) :
    ∃ W : Nat → Nat → Hp → Prop, (∃ m, W 0 m (upd H1 D (.lst []))) ∧ ∀ i m H, W i m H →
      ((Itl K a).stop i H ∧ Qd H) ∨ ((Itl K a).go i H ∧ ∃ Nx : Hp → Prop, (∀ H', Nx H' → ∃ m', m' < m ∧ W (i + 1) m' H') ∧ ∀ x H', (Itl K a).yld i H x H' → g x (wipe σ vs) H' fun σ2 H2 => wipe σ2 vs = wipe σ vs ∧ tt σ2 H2 fun b H3 =>
        if b = true then te σ2 H3 fun y H4 => ∃ acc, H4 D = some (.lst acc) ∧ acc.length < sizeLine ∧ Nx (upd H4 D (.lst (acc ++ [y]))) else Nx H3) := by
  refine lcL (xs := xs) (fun i acc H => acc = [] ∧ Same H1 H) nD ⟨rfl, Same.new nD⟩ (fun i acc H _ hp _ => hp.2.seq hx) ?_ ?_
  · rintro i x acc H Z Y hi ⟨rfl, hsame⟩ ha _ hy
    exact hs i x H Z Y hi hsame fun H4 h4 => hy H4 (h4 _ _ ha) ⟨rfl, hsame.trans h4⟩
  · rintro acc H ⟨rfl, hsame⟩ ha
    exact hd H hsame ha
/-- over a list, a value for each, from the turn's number -/
theorem lcL_v (f : Nat → V) (nD : H1 D = none) (hn : xs.length ≤ 1000000) (hx : SqL K H1 a xs)
    (hs : ∀ (i : Nat) (x : V) H (Z : VK) (Y : Hp → Prop), xs[i]? = some x → Same H1 H → (∀ H4, Same H H4 → Z (f i) H4) → LcTurn g tt te vs σ x H Z Y)
    (hd : ∀ H, Same H1 H → H D = some (.lst ((List.range xs.length).map f)) → Qd H) :
    ∃ W : Nat → Nat → Hp → Prop, (∃ m, W 0 m (upd H1 D (.lst []))) ∧ ∀ i m H, W i m H →
      ((Itl K a).stop i H ∧ Qd H) ∨ ((Itl K a).go i H ∧ ∃ Nx : Hp → Prop, (∀ H', Nx H' → ∃ m', m' < m ∧ W (i + 1) m' H') ∧ ∀ x H', (Itl K a).yld i H x H' → g x (wipe σ vs) H' fun σ2 H2 => wipe σ2 vs = wipe σ vs ∧ tt σ2 H2 fun b H3 =>
        if b = true then te σ2 H3 fun y H4 => ∃ acc, H4 D = some (.lst acc) ∧ acc.length < sizeLine ∧ Nx (upd H4 D (.lst (acc ++ [y]))) else Nx H3) := by
  refine lcL (xs := xs) (fun i acc H => i ≤ xs.length ∧ acc = (List.range i).map f ∧ Same H1 H) nD ⟨Nat.zero_le _, rfl, Same.new nD⟩ (fun i acc H _ hp _ => hp.2.2.seq hx) ?_ ?_
  · rintro i x acc H Z Y hi ⟨_, rfl, hsame⟩ ha hz _
    have hi' : i < xs.length := (List.getElem?_eq_some_iff.mp hi).1
    refine hs i x H Z Y hi hsame fun H4 h4 => hz _ H4 (h4 _ _ ha) (sz4' (by simp; omega)) ⟨hi', ?_, Same.mut (hsame.trans h4) nD⟩
    rw [List.range_succ, List.map_append]
    rfl
  · rintro acc H ⟨_, rfl, hsame⟩ ha
    exact hd H hsame ha
/-- over a list, truths all true -/
theorem lcL_all (nD : H1 D = none) (hn : xs.length ≤ 1000000) (hx : SqL K H1 a xs)
    (hs : ∀ (i : Nat) (x : V) H (Z : VK) (Y : Hp → Prop), xs[i]? = some x → Same H1 H → (∀ H4, Same H H4 → Z (.bl true) H4) → LcTurn g tt te vs σ x H Z Y)
    (hd : ∀ H, Same H1 H → SqL K H D ((List.replicate xs.length true).map V.bl) → Qd H) :
    ∃ W : Nat → Nat → Hp → Prop, (∃ m, W 0 m (upd H1 D (.lst []))) ∧ ∀ i m H, W i m H →
      ((Itl K a).stop i H ∧ Qd H) ∨ ((Itl K a).go i H ∧ ∃ Nx : Hp → Prop, (∀ H', Nx H' → ∃ m', m' < m ∧ W (i + 1) m' H') ∧ ∀ x H', (Itl K a).yld i H x H' → g x (wipe σ vs) H' fun σ2 H2 => wipe σ2 vs = wipe σ vs ∧ tt σ2 H2 fun b H3 =>
        if b = true then te σ2 H3 fun y H4 => ∃ acc, H4 D = some (.lst acc) ∧ acc.length < sizeLine ∧ Nx (upd H4 D (.lst (acc ++ [y]))) else Nx H3) := by
  refine lcL_v (fun _ => .bl true) nD hn hx hs fun H hs' h => hd H hs' (.of ?_)
  rw [h, List.map_const', List.length_range, List.map_replicate]
theorem i_all {H : Hp} {Q : VK} {p : Addr} {m : Nat} (h : SqL K H p ((List.replicate m true).map V.bl)) (q : Q (.bl true) H) : rAll K [.ref p] H Q := by
  refine ⟨p, _, rfl, h, ?_⟩
  have e : (List.replicate m true).all id = true := by
    rw [List.all_eq_true]
    intro x hx
    rw [(List.mem_replicate.mp hx).2]
    rfl
  rw [e]
  exact q
theorem i_min {H : Hp} {Q : VK} {p : Addr} {ns : List Int} (h : SqL K H p (ns.map V.int)) (h0 : 0 < ns.length) (q : ∀ m, m ∈ ns → (∀ y, y ∈ ns → m ≤ y) → Q (.int m) H) : rMin K [.ref p] H Q := ⟨p, ns, rfl, h, h0, q⟩
theorem i_max {H : Hp} {Q : VK} {p : Addr} {ns : List Int} (h : SqL K H p (ns.map V.int)) (h0 : 0 < ns.length) (q : ∀ m, m ∈ ns → (∀ y, y ∈ ns → y ≤ m) → Q (.int m) H) : rMax K [.ref p] H Q := ⟨p, ns, rfl, h, h0, q⟩
theorem i_yes {P : Bool → Hp → Prop} (q : P true H) : tYes σ H P := q
theorem i_wipe {A : Prop} {σ2 : L2.St} (e : wipe σ2 vs = wipe σ vs) (q : A) : wipe σ2 vs = wipe σ vs ∧ A := ⟨e, q⟩
theorem i_turn {x : V} {Z : VK} {Y : Hp → Prop} {σ1 : L2.St} (e : wipe σ vs = σ1) (h : g x σ1 H fun σ2 H2 => wipe σ2 vs = σ1 ∧ tt σ2 H2 fun b H3 => if b = true then te σ2 H3 Z else Y H3) : LcTurn g tt te vs σ x H Z Y := by
  subst e
  exact h
theorem i_wiped {A : Prop} {σ1 σ2 : L2.St} (e : wipe σ2 vs = σ1) (q : A) : wipe σ2 vs = σ1 ∧ A := ⟨e, q⟩
end
theorem ixN_nn {n : Nat} {i : Int} (h0 : 0 ≤ i) (h1 : i < n) : ixN n i = some i.toNat := by
  unfold ixN
  rw [if_pos h0, if_pos h1]
theorem ixN_last {n : Nat} (h : 0 < n) : ixN n (-1) = some (n - 1) := by
  unfold ixN
  rw [if_neg (by decide), if_pos (by omega)]
  congr 1
  omega
theorem i_ixLast {K : PySem.W.Frag} {H : Hp} {p : Addr} {ms : List Int} {Q : VK} (h : SqL K H p (ms.map V.int)) (h1 : 0 < ms.length) (q : ∀ z, ms[ms.length - 1]? = some z → Q (.int z) H) : rIxL K (.ref p) (.int (-1)) H Q := by
  have e : ms[ms.length - 1]? = some ms[ms.length - 1] := List.getElem?_eq_getElem (by omega)
  refine ⟨p, _, -1, .int ms[ms.length - 1], rfl, rfl, h, ?_, q _ e⟩
  unfold atI
  rw [List.length_map, ixN_last h1, Option.bind_some, List.getElem?_map, e]
  rfl
theorem cut_init {xs : List V} : cutV xs none (some (-1)) = xs.dropLast := by
  unfold cutV
  rw [HT.sIx_none, List.drop_zero, Nat.sub_zero]
  have e : HT.sIx xs.length xs.length (some (-1)) = xs.length - 1 := by
    unfold HT.sIx
    simp
    omega
  rw [e, List.dropLast_eq_take]
theorem i_slInitM {K : PySem.W.Frag} {H : Hp} {p : Addr} {ms : List Int} {Q : VK} (h : SqL K H p (ms.map V.int)) (q : ∀ p', H p' = none → Q (.ref p') (upd H p' (.lst (ms.dropLast.map V.int)))) : rSlL K (.ref p) none (some (-1)) H Q := ⟨p, _, rfl, h, by rw [cut_init, ← List.map_dropLast]; exact q⟩
theorem i_setLast {H : Hp} {p : Addr} {ms : List Int} {z : Int} {Z : Hp → Prop} (h : H p = some (.lst (ms.map V.int))) (h1 : 0 < ms.length) (q : Z (upd H p (.lst ((ms.set (ms.length - 1) z).map V.int)))) : rSetL (.ref p) (.int (-1)) (.int z) H Z :=
  ⟨p, _, -1, ms.length - 1, rfl, rfl, h, by rw [List.length_map]; exact ixN_last h1, by rw [← List.map_set]; exact q⟩
theorem i_catM1 {H : Hp} {p r : Addr} {ms : List Int} {y : Int} {Q : VK} (h1 : H p = some (.lst (ms.map V.int))) (h2 : H r = some (.lst [.int y])) (hz : ms.length + 1 ≤ 1000000) (q : ∀ p', H p' = none → Q (.ref p') (upd H p' (.lst ((ms ++ [y]).map V.int)))) : rCat (.ref p) (.ref r) H Q := i_catM (ns := [y]) h1 h2 hz q
theorem fil_last (b : Nat → Bool) : ∀ n, (List.range n).filter b = [] ∨ ∃ k, k < n ∧ b k = true ∧ (∀ j, k < j → j < n → b j = false) ∧ ((List.range n).filter b)[((List.range n).filter b).length - 1]? = some k
  | 0 => .inl rfl
  | n + 1 => by
    rw [List.range_succ, List.filter_append]
    cases e : b n with
    | true =>
      refine .inr ⟨n, by omega, e, fun j h1 h2 => by omega, ?_⟩
      have : List.filter b [n] = [n] := by simp [e]
      rw [this, List.length_append]
      simp
    | false =>
      have : List.filter b [n] = [] := by simp [e]
      rw [this, List.append_nil]
      rcases fil_last b n with h | ⟨k, h1, h2, h3, h4⟩
      · exact .inl h
      · refine .inr ⟨k, by omega, h2, fun j g1 g2 => ?_, h4⟩
        by_cases c : j = n
        · subst c; exact e
        · exact h3 j g1 (by omega)
theorem fil_none {b : Nat → Bool} {n : Nat} (h : (List.range n).filter b = []) {j : Nat} (hj : j < n) : b j = false := by
  have := List.filter_eq_nil_iff.mp h j (List.mem_range.mpr hj)
  simpa using this
theorem i_reverse {H : Hp} {p : Addr} {ms : List Int} {Q : VK} (h : H p = some (.lst (ms.map V.int))) (q : Q .non (upd H p (.lst (ms.reverse.map V.int)))) : rReverse (.ref p) [] H Q := ⟨p, _, rfl, rfl, h, by rw [← List.map_reverse]; exact q⟩
theorem i_ne00 {K : PySem.W.Frag} {H : Hp} {Q : VK} {p r : Addr} (h1 : SqL K H p []) (h2 : SqL K H r []) (q : Q (.bl false) H) : rNeD K (.ref p) (.ref r) H Q := i_neLI (ms := []) (ns := []) h1 h2 (by simpa using q)
theorem i_min2 {K : Prop} {R : Int → Int → Prop} {i j : Int} (q : R i j) : ∃ i' j', [V.int i, V.int j] = [.int i', .int j'] ∧ R i' j' := ⟨i, j, rfl, q⟩
theorem i_setM {H : Hp} {p : Addr} {ms : List Int} {i z : Int} {Z : Hp → Prop} (h : H p = some (.lst (ms.map V.int))) (h0 : 0 ≤ i) (h1 : i < ms.length) (q : Z (upd H p (.lst ((ms.set i.toNat z).map V.int)))) : rSetL (.ref p) (.int i) (.int z) H Z :=
  ⟨p, _, i, i.toNat, rfl, rfl, h, ixN_nn h0 (by rw [List.length_map]; exact h1), by rw [← List.map_set]; exact q⟩
/-! ### the rules that name the written part, K told -/
def rListOf (K : PySem.W.Frag) : List V → Hp → VK → Prop := fun xs H Q => ∃ p ys, xs = [V.ref p] ∧ (SqL K H p ys ∨ SqT K H p ys) ∧ ∀ l, H l = none → Q (.ref l) (upd H l (.lst ys))
def rTupleOf (K : PySem.W.Frag) : List V → Hp → VK → Prop := fun xs H Q => ∃ p ys, xs = [V.ref p] ∧ ((SqL K H p ys ∧ ∀ l, H l = none → Q (.ref l) (upd H l (.tup ys))) ∨ (SqT K H p ys ∧ Q (.ref p) H))
section
variable {X : Cx} (K : PySem.W.Frag) (e : X.K = K)
include e
theorem sl_listK : SlR X (rSlL K) := by subst e; exact sl_list
theorem sl_tupK : SlR X (rSlA K) := by subst e; exact sl_tupA
theorem ix_listK : IxR X (rIxL K) := by subst e; exact ix_list
theorem ix_tupK : IxR X (rIxT K) := by subst e; exact ix_tup
theorem ix_seqK : IxR X (rIx K) := by subst e; exact ix_seq
theorem call_lenK : CallR X (.builtin "len") (rLenA K) := by subst e; exact call_lenA
theorem cr_sumK (hc : X.calm = true) : CallR X (.builtin "sum") (rSum K) := by subst e; exact cr_sum hc
theorem cr_minK (hc : X.calm = true) : CallR X (.builtin "min") (rMin K) := by subst e; exact cr_min hc
theorem cr_maxK (hc : X.calm = true) : CallR X (.builtin "max") (rMax K) := by subst e; exact cr_max hc
theorem cr_anyK (hc : X.calm = true) : CallR X (.builtin "any") (rAny K) := by subst e; exact cr_any hc
theorem cr_allK (hc : X.calm = true) : CallR X (.builtin "all") (rAll K) := by subst e; exact cr_all hc
theorem call_isiK' : CallR X (.builtin "isinstance") (rIsi K) := by subst e; exact call_isi
theorem call_listK : CallR X (.type "list") (rListOf K) := by subst e; exact call_list_of
theorem call_tupleK : CallR X (.type "tuple") (rTupleOf K) := by subst e; exact call_tuple_of
theorem op_eqDK (hu : X.A.units + 64 < cLine) : OpR X (compareOp .Eq) (rEqD K) := by subst e; exact op_eqD hu
theorem op_neDK (hu : X.A.units + 64 < cLine) : OpR X (compareOp .NotEq) (rNeD K) := by subst e; exact op_neD hu
theorem op_ltTK (hu : X.A.units < cLine) : OpR X (compareOp .Lt) (rLtT K) := by subst e; exact op_ltT hu
theorem op_catTK : OpR X (binaryOp .Add) (rCatT K) := by subst e; exact op_catT
theorem op_inK : OpR X (compareOp .In) (rIn K false) := by subst e; exact op_in_seq
theorem op_notInK : OpR X (compareOp .NotIn) (rIn K true) := by subst e; exact op_notIn_seq
theorem pi_listK {tg l : Expr} {tl : TE} (hl : PE X l tl) : PI X tg l (iList K tl) := by subst e; exact pi_list hl
theorem pi_tupK {tg l : Expr} {tl : TE} (hl : PE X l tl) : PI X tg l (iTup K tl) := by subst e; exact pi_tup hl
theorem pg_tupK {es : List Expr} {k : Nat} {t : TGs} {pos : Pos} (n : Nat) (hc : X.calm = true) (h : PGs X es t) (hn : (assignEach es X.env).length = n := by rfl) (hst : (assignEach es X.env).findIdx? (·.1) = none := by rfl) : PG X (.Tuple es k pos) (gTup K n t) := by subst e; exact pg_tup hc h hn hst
theorem pg_lstK {es : List Expr} {k : Nat} {t : TGs} {pos : Pos} (n : Nat) (hc : X.calm = true) (h : PGs X es t) (hn : (assignEach es X.env).length = n := by rfl) (hst : (assignEach es X.env).findIdx? (·.1) = none := by rfl) : PG X (.Tuple es k pos) (gLst K n t) := by subst e; exact pg_lst hc h hn hst
end
section
variable {H : Hp} {Q : VK} {K : PySem.W.Frag} {p : Addr} {xs : List V}
theorem i_listOf (h : SqL K H p xs) (q : ∀ l, H l = none → Q (.ref l) (upd H l (.lst xs))) : rListOf K [.ref p] H Q := ⟨p, xs, rfl, .inl h, q⟩
theorem i_listOfT (h : SqT K H p xs) (q : ∀ l, H l = none → Q (.ref l) (upd H l (.lst xs))) : rListOf K [.ref p] H Q := ⟨p, xs, rfl, .inr h, q⟩
end
theorem wipe_one {σ σ1 : L2.St} {k : Nat} (e : List.set σ k none = σ1) : wipe σ [k] = σ1 := e
theorem wipe_two {σ σ1 σ2 : L2.St} {j k : Nat} (e : List.set σ k none = σ1) (e2 : List.set σ1 j none = σ2) : wipe σ [j, k] = σ2 := by
  show List.set (List.set σ k none) j none = σ2
  rw [e, e2]
theorem wipe_three {σ σ1 σ2 σ3 : L2.St} {i j k : Nat} (e : List.set σ k none = σ1) (e2 : List.set σ1 j none = σ2) (e3 : List.set σ2 i none = σ3) : wipe σ [i, j, k] = σ3 := by
  show List.set (List.set (List.set σ k none) j none) i none = σ3
  rw [e, e2, e3]
/-- the heap is let go of but for what stood at first -/
theorem forget {P : Hp → Prop} {H H1 : Hp} (s : Same H H1) (h : ∀ H', Same H H' → P H') : P H1 := h H1 s
end Hf
/-! ## exceptions: caught, noted and asked behind the suite -/
namespace Hf
open PySem PySem.Spec PyProof.Rows L2
/-- at a: a caught exception of the class cls, its dict d -/
def exHO (a : Addr) (cls : Value) (d : Option Addr) : HO := .ext fun h => ∃ oe vs, h.get? a = some oe ∧ Zc cls d oe ∧ oe.data = .fields vs
theorem exHO_ok {P : Program} {w : World} {H : Hp} {h : Heap} {a : Addr} {cls : Value} {d : Option Addr} {oe : Obj} {vs : Array Value} (e : h.get? a = some oe) (hz : Zc cls d oe) (hd : oe.data = .fields vs) : ObjOk P w H h a (exHO a cls d) :=
  ⟨⟨oe, vs, e, hz, hd⟩, ⟨oe, e⟩, fun _ _ ⟨o, v, x, y, z⟩ k => ⟨o, v, k _ x, y, z⟩⟩
theorem exHO_at {P : Program} {w : World} {H : Hp} {h : Heap} {a : Addr} {cls : Value} {d : Option Addr} (ok : HOk P w H h) (e : H a = some (exHO a cls d)) : ∃ oe vs, h.get? a = some oe ∧ Zc cls d oe ∧ oe.data = .fields vs := by
  have x : ObjOk P w H h a (.ext fun h => ∃ oe vs, h.get? a = some oe ∧ Zc cls d oe ∧ oe.data = .fields vs) := ok a _ e
  exact x.1
/-- a pinned object of ours is taken up -/
theorem track {X : Cx} {pins : List (Addr × Obj)} {σ : L2.St} {H : Hp} {s : Shared} {a : Addr} {oe : Obj} {cls : Value} {d : Option Addr} {vs : Array Value} (I : Inv X ((a, oe) :: pins) σ H s) (hz : Zc cls d oe) (hd : oe.data = .fields vs)
    (n0 : X.s_0.heap.get? a = none) (np : ∀ p ∈ X.pn ++ pins, p.1 ≠ a) : Inv X pins σ (L2.upd H a (exHO a cls d)) s := by
  obtain ⟨ga, na, nL, nF, nc⟩ := I.pin (a, oe) (List.mem_append_right _ List.mem_cons_self)
  dsimp only at ga na nL nF nc
  have ncell : ∀ x c, X.env.cells.lookup x = some c → c ≠ a := fun x c e z => by
    obtain ⟨v, o, ho, hdc⟩ := I.cell x c e
    rw [z, ga] at ho
    cases ho
    exact nc _ hdc
  refine ⟨I.ok, I.os, I.bare, ⟨I.base.keep, I.base.slot, fun b o e n hx => ?_, I.base.there, fun b xs e => ?_, fun b o u e => ?_, fun b ps e => ?_⟩, I.loc, I.cell, ?_, fun x c e => ?_, fun p hp => ?_, fun b o e => ?_, I.len⟩
  · rw [upd_ne (fun z => by rw [z, n0] at e; cases e)]
    exact I.base.free b o e n hx
  · have q := I.base.tups b xs e
    rw [upd_ne (ne_of_none q na)]
    exact q
  · have q := I.base.frzs b o u e
    rw [upd_ne (ne_of_none q na)]
    exact q
  · obtain ⟨m, q⟩ := I.base.tbls b ps e
    exact ⟨m, by rw [upd_ne (ne_of_none q na)]; exact q⟩
  · rw [upd_ne (Ne.symm nL)]
    exact I.free
  · rw [upd_ne (ncell x c e)]
    exact I.freeC x c e
  · obtain ⟨e, n, r⟩ := I.pin p (by
      rcases List.mem_append.mp hp with h | h
      · exact List.mem_append_left _ h
      · exact List.mem_append_right _ (List.mem_cons_of_mem _ h))
    exact ⟨e, by rw [upd_ne (np p hp)]; exact n, r⟩
  · by_cases hb : b = a
    · subst hb
      rw [upd_same] at e
      cases e
      exact exHO_ok ga hz hd
    · rw [upd_ne hb] at e
      refine (I.hok b o e).stay (fun c u _ q => q) (fun c q => ?_) fun c xs q => ?_
      · rw [upd_ne (ne_of_none q na)]
        exact q
      · rw [upd_ne (ne_of_none q na)]
        exact q
/-- what follows the suite -/
def nxAs (i : Nat) (a : Addr) (cls : Value) (d : Option Addr) (nx : L2.St → Hp → Prop) : L2.St → Hp → Prop := fun σ' H' => nx (σ'.set i none) (L2.upd H' a (exHO a cls d))
def rtAs (a : Addr) (cls : Value) (d : Option Addr) (rt : VK) : VK := fun v H' => rt v (L2.upd H' a (exHO a cls d))
/-- what the clause 'except x as n' wishes of an exception of the body -/
def wAsT (K : PySem.W.Frag) (c : Value) (i : Nat) (ts : TS) (Wout : WX) (D : Ends) : WX := fun cls d σ H =>
  ∃ b, PySem.W.exmOne K cls c = some b ∧ (b = true → ∀ a, H a = none → ts { nx := nxAs i a cls d D.nx, rt := rtAs a cls d D.rt, bk := nxAs i a cls d D.bk, ct := nxAs i a cls d D.ct } (σ.set i (some (.ref a))) H) ∧
    (b = false → Wout cls d σ H)
def tTryAs (K : PySem.W.Frag) (c : Value) (i : Nat) (ts : TS) (Wout : WX) (tb : WX → TS) : TS := fun D σ H => tb (wAsT K c i ts Wout D) D σ H
section
variable {X : Cx} {x n : Str} {c : Value} {i : Nat} {body suite : List Stmt} {b₀ : Stmt} {np pos pos' : Pos} {tb : WX → TS} {ts : TS} {Wout : WX}
theorem ps_try_asT (hs : X.stack = X.env :: X.outer) (hf : X.env.frame = some X.env.locals) (hex : X.ex = []) (hN : X.N.Nodup) (hi : X.N[i]? = some n) (hln : X.env.kindOf n = some .local) (hc : Names X x c) (tk : Takes X Wout)
    (hb : ∀ (W : WX) (pn : List (Addr × Obj)) (xe : Value → Shared → Prop), Takes (X.tr pn xe) W → PassesOwn (model X.prog X.w) X.A X.env xe → PSs (X.tr pn xe) body (tb W))
    (hsu : ∀ (a : Addr) (oe : Obj) (pn : List (Addr × Obj)), PSs (X.suite a ((a, oe) :: pn)) (b₀ :: suite) ts) :
    PS X (.Try body [.ExceptHandler (some (.Name x np)) (some n) (b₀ :: suite) pos'] [] [] pos) (tTryAs X.K c i ts Wout tb) := by
  refine ⟨fun pins s σ H D I h => ?_⟩
  have ok := I.ok
  have hfr : X.A.frames = some (X.env :: X.outer) := by rw [ok.frames, hs]
  have hloc : Loc X.env.scope n := .inl hln
  refine wpAny_Try_except ?_
  refine wpAny_mono ((hb (wAsT X.K c i ts Wout D) (X.pn ++ pins) (fun e s₁ => wpAny (model X.prog X.w) X.A (noteFrame e X.env) (fun _ s₂ => wpAny (model X.prog X.w) X.A (setFlight e none) (fun _ s₃ =>
    wpAny (model X.prog X.w) X.A (handleBy e X.env [.ExceptHandler (some (.Name x np)) (some n) (b₀ :: suite) pos']) (SP X pins D) X.xe s₃) X.xe s₂) X.xe s₁) (fun u s' xx => ?_) PassesOwn.looking).run [] s σ H D (I.toTry _) h) (fun f s1 hsp => ?_) (fun e s1 he => he)
  · obtain ⟨a, B, sI, pins', σ', H', cls, d, rfl, J', nb, up, sky, na, os, ag, b, hb1, hyes, hno⟩ := xx
    have J : Inv X pins σ' H' sI := J'.ofTry ok
    have sky' : Sky B (X.env :: X.outer) a (Zc cls d) X.env.locals s'.heap := by rw [← hs]; exact sky
    show wpAny (model X.prog X.w) X.A (noteFrame (.ref a) X.env) _ _ _
    refine Sky.land Zc.steady hfr hf sky' fun h3 fl3 up3 => ?_
    have J3 : Inv X pins σ' H' { s' with heap := h3 } := J.landed nb fl3.1 (up.trans up3) os ag
    obtain ⟨oe3, vs3, he3, hz3, hd3⟩ := fl3.there
    have notFr : ∀ {h : Heap} {o : Obj} {vs : Array Value}, h.FunFrames B (X.env :: X.outer) → h.get? a = some o → o.data = .fields vs → a ∉ frs (X.env :: X.outer) := fun {h o vs} ff e dd hm => by
      obtain ⟨_, o', e', hnf⟩ := ff.mem hm
      rw [e] at e'; cases e'
      exact hnf _ dd
    have nfr := notFr fl3.2.2.1 he3 hd3
    have nL : a ≠ X.env.locals := fun z => nfr (List.mem_filterMap.mpr ⟨X.env, List.mem_cons_self, by rw [hf, z]⟩)
    have nF : a ∉ X.fs := fun hm => by
      obtain ⟨e, he, q⟩ := List.mem_filterMap.mp hm
      exact nfr (List.mem_filterMap.mpr ⟨e, List.mem_cons_of_mem _ he, q⟩)
    have nI : sI.heap.get? a = none := by
      cases q : sI.heap.get? a with
      | none => rfl
      | some o =>
        have z := nb a o q (by rw [hs]; exact nfr)
        rw [fl3.2.1] at z
        cases z
    have n0 : X.s_0.heap.get? a = none := by
      cases q : X.s_0.heap.get? a with
      | none => rfl
      | some o =>
        obtain ⟨o', z⟩ := J.base.there a o q (by rw [hex]; exact List.not_mem_nil)
        rw [nI] at z
        cases z
    have npin : ∀ p ∈ X.pn ++ pins, p.1 ≠ a := fun p hp z => by
      have q := (J.pin p hp).1
      rw [z, nI] at q
      cases q
    have S3 := J3.suite he3 hd3 na nL nF
    refine wpAny_handleBy_cons (codeAny_handlers_test ?_) (by intro q; cases q)
    have LT : PySem.W.Looks (model X.prog X.w) h3 (typeOf (.ref a)) cls := fun A Q E s k q => wpAny_typeOf_ref (k _ _ he3) (by rw [hz3.1]; exact q)
    have LM := PySem.W.exm_one (M := model X.prog X.w) (J3.kIn) LT hb1
    have test : ∀ {Q : Value → Shared → Prop} {E : Value → Shared → Prop}, Q c { s' with heap := h3 } → wpAny (model X.prog X.w) (X.A.mark (some (.ref a))) (eval (.Name x np) X.env) Q E { s' with heap := h3 } := fun {Q E} q => by
      obtain ⟨hg, hdbg, hm | ⟨hm, hv, hnn⟩⟩ := hc
      · exact ld_glob (X := X.suite a ((a, oe3) :: (X.pn ++ pins))) S3 hg hm q hdbg
      · exact ld_blt (X := X.suite a ((a, oe3) :: (X.pn ++ pins))) S3 hg hm hv q hnn hdbg
    refine test (LM.here ?_)
    cases b with
    | true =>
      refine codeAny_handlers_suite_as ?_
      refine HandSPX.lands_againZ fl3 fun h4 fl4 up4 => ?_
      have J4 : Inv X pins σ' H' { s' with heap := h4 } := J.landed nb fl4.1 ((up.trans up3).trans up4) os ag
      obtain ⟨oe4, vs4, he4, hz4, hd4⟩ := fl4.there
      have S4 := J4.suite he4 hd4 na nL nF
      refine store_ok (X := X.suite a ((a, oe4) :: (X.pn ++ pins))) (v := .ref a) S4 hN hi hloc rfl (fun s5 S5 => ?_) (.inr hln)
      refine wpAny_mono ((hsu a oe4 (X.pn ++ pins)).run [] s5 _ H' _ S5 (hyes rfl a na)) (fun f s6 hsp => ?_) (fun _ _ z => False.elim z)
      have end_ : ∀ {σ6 : L2.St} {H6 : Hp} {Q : Shared → Prop}, Inv (X.suite a ((a, oe4) :: (X.pn ++ pins))) [] σ6 H6 s6 → (∀ s7, Inv X pins (σ6.set i none) (L2.upd H6 a (exHO a cls d)) s7 → Q s7) →
          wpAny (model X.prog X.w) X.A (do bindName X.env n .none; unbindBehindTheSuite X.env n pos') (fun _ s7 => Q s7) X.xe s6 := fun {σ6 H6 Q} S6 hq => by
        have S7 : Inv X ((a, oe4) :: pins) σ6 H6 s6 := ⟨ok, S6.os, S6.bare, S6.base, S6.loc, S6.cell, S6.free, S6.freeC, fun p hp => S6.pin p (by
          show p ∈ (a, oe4) :: (X.pn ++ pins) ++ []
          rw [List.append_nil]
          rcases List.mem_append.mp hp with h | h
          · exact List.mem_cons_of_mem _ (List.mem_append_left _ h)
          · rcases List.mem_cons.mp h with h | h
            · rw [h]
              exact List.mem_cons_self
            · exact List.mem_cons_of_mem _ (List.mem_append_right _ h)), S6.hok, S6.len⟩
        exact gone_ok S7 hN hi hln fun s7 J7 => hq s7 (track J7 hz4 hd4 n0 npin)
      cases f with
      | next =>
        obtain ⟨σ6, H6, S6, q6⟩ := hsp
        exact end_ S6 fun s7 J7 => ⟨_, _, J7, q6⟩
      | brk =>
        obtain ⟨σ6, H6, S6, q6⟩ := hsp
        exact end_ S6 fun s7 J7 => ⟨_, _, J7, q6⟩
      | cont =>
        obtain ⟨σ6, H6, S6, q6⟩ := hsp
        exact end_ S6 fun s7 J7 => ⟨_, _, J7, q6⟩
      | ret u =>
        obtain ⟨v6, σ6, H6, S6, r6, q6⟩ := hsp
        exact end_ S6 fun s7 J7 => ⟨_, _, _, J7, r6, q6⟩
    | false =>
      show wpAny _ X.A (handleBy (.ref a) X.env []) _ _ _
      refine wpAny_handleBy_nil ?_
      obtain ⟨k1, k2, k3, oe, vs, T, oT, ts', he, hz, hd, h1, hr⟩ := id fl3
      unfold PySem.passOn
      refine wpAny_bind (wpAny_field he hd h1 ?_)
      rw [if_neg (show ¬ ((Value.ref T == Value.none) = true) from by simp)]
      have fin : wpAny (model X.prog X.w) X.A (setFlight (.ref a) X.env.frame) (fun _ s4 => wpAny (model X.prog X.w) X.A (throw (.ref a) : Sem Flow) (SP X pins D) X.xe s4) X.xe { s' with heap := h3 } := by
        rw [hf]
        refine HandSPX.setFlight_upZ fl3 fun h4 hh4 up4 => wpAny_throw (tk _ _ ?_)
        exact ⟨a, B, sI, pins, σ', H', cls, d, rfl, J, nb, (up.trans up3).trans up4, .inr (.inr (by rw [hs]; exact hh4)), na, os, ag, hno rfl⟩
      first
        | exact wpAny_bind (wpAny_pure (wpAny_bind fin))
        | exact wpAny_bind fin
  · cases f with
    | next =>
      obtain ⟨σ', H', J', q⟩ := hsp
      exact wpAny_execs_nil ⟨σ', H', J'.ofTry ok, q⟩
    | brk =>
      obtain ⟨σ', H', J', q⟩ := hsp
      exact ⟨σ', H', J'.ofTry ok, q⟩
    | cont =>
      obtain ⟨σ', H', J', q⟩ := hsp
      exact ⟨σ', H', J'.ofTry ok, q⟩
    | ret u =>
      obtain ⟨v, σ', H', J', r, q⟩ := hsp
      exact ⟨v, σ', H', J'.ofTry ok, r, q⟩
end
/-! ### isinstance -/
/-- isinstance(x, c): x a tracked exception, or any other thing -/
def rIsX (K : PySem.W.Frag) : List V → Hp → VK → Prop := fun xs H Q =>
  (∃ (a D : Addr) (d : Option Addr) (c : V) (cv : Value) (b : Bool), xs = [.ref a, c] ∧ H a = some (exHO a (.ref D) d) ∧ (∀ dd, d = some dd → ∃ fs, H dd = some (.xd fs)) ∧ ExcC K D ∧ (∀ u, RelV c u → u = cv) ∧ PySem.W.kitOne K (.ref D) cv = some b ∧ Q (.bl b) H) ∨ rIsi K xs H Q
theorem call_isX {X : Cx} : CallR X (.builtin "isinstance") (rIsX X.K) := by
  intro pins s σ H xs us Q I r h
  rcases h with ⟨a, D, d, c, cv, b, rfl, ha, hdd, C, hcv, e, q⟩ | h
  · cases r with
    | cons rx rr =>
      cases rr with
      | cons rt rr =>
        cases rr
        cases rx
        have ec := hcv _ rt
        subst ec
        obtain ⟨oe, vs, hget, hz, hv⟩ := exHO_at I.hok ha
        obtain ⟨od, J⟩ : ∃ od, PySem.W.InstAt s.heap a oe D od := by
          cases d with
          | none =>
            obtain ⟨oc, od, oda, osl⟩ := oe
            obtain ⟨h1, h2⟩ := hz
            dsimp only at h1 h2 hv
            subst h1 h2 hv
            exact ⟨none, hget, rfl, rfl, trivial⟩
          | some dd =>
            obtain ⟨fs, hfs⟩ := hdd dd rfl
            have x : ObjOk X.prog X.w H s.heap dd (.xd fs) := I.hok dd _ hfs
            obtain ⟨mA, ⟨o, es, ep, ho, _⟩, _⟩ := x
            obtain ⟨oc, od, oda, osl⟩ := oe
            obtain ⟨h1, h2⟩ := hz
            dsimp only at h1 h2 hv
            subst h1 h2 hv
            exact ⟨some o, hget, rfl, rfl, ho⟩
        have hcl : (PySem.W.clsIn X.K D).isSome = true := by
          obtain ⟨cd, hc, _⟩ := PySem.W.any_some C.hd
          rw [hc]
          rfl
        exact PySem.W.kia_one (PySem.W.kitx_exc hcl C.hg C.hk C.hs C.ha C.hn C.ht C.hm) I.kIn J e (fun z => nomatch z) fun tk => ⟨.bl b, H, I.kept (t' := tk) fun _ _ z => z, rfl, q⟩
  · exact call_isi pins s σ H xs us Q I r h
theorem call_isXK {X : Cx} (K : PySem.W.Frag) (e : X.K = K) : CallR X (.builtin "isinstance") (rIsX K) := by subst e; exact call_isX
section
variable {σ σ' : L2.St} {H : Hp} {Q : VK} {nx bk ct : L2.St → Hp → Prop} {rt : VK} {K : PySem.W.Frag} {a D C : Addr} {d : Option Addr} {cls c : Value} {b : Bool} {i : Nat}
theorem i_isXR (h : H a = some (exHO a (.ref D) none)) (e : ExcC K D) (k : PySem.W.kitOne K (.ref D) (.ref C) = some b) (q : Q (.bl b) H) : rIsX K [.ref a, .ref C] H Q :=
  .inl ⟨a, D, none, .ref C, .ref C, b, rfl, h, fun _ z => (nomatch z), e, fun _ z => z, k, q⟩
theorem i_isXT {T : String} (h : H a = some (exHO a (.ref D) none)) (e : ExcC K D) (k : PySem.W.kitOne K (.ref D) (.type T) = some b) (q : Q (.bl b) H) : rIsX K [.ref a, .ty T] H Q :=
  .inl ⟨a, D, none, .ty T, .type T, b, rfl, h, fun _ z => (nomatch z), e, fun _ z => z, k, q⟩
theorem i_isXRd {dd : Addr} {fs : List (Str × V)} (h : H a = some (exHO a (.ref D) (some dd))) (hd : H dd = some (.xd fs)) (e : ExcC K D) (k : PySem.W.kitOne K (.ref D) (.ref C) = some b) (q : Q (.bl b) H) : rIsX K [.ref a, .ref C] H Q :=
  .inl ⟨a, D, some dd, .ref C, .ref C, b, rfl, h, fun x z => by cases z; exact ⟨fs, hd⟩, e, fun _ z => z, k, q⟩
theorem i_isXTd {T : String} {dd : Addr} {fs : List (Str × V)} (h : H a = some (exHO a (.ref D) (some dd))) (hd : H dd = some (.xd fs)) (e : ExcC K D) (k : PySem.W.kitOne K (.ref D) (.type T) = some b) (q : Q (.bl b) H) : rIsX K [.ref a, .ty T] H Q :=
  .inl ⟨a, D, some dd, .ty T, .type T, b, rfl, h, fun x z => by cases z; exact ⟨fs, hd⟩, e, fun _ z => z, k, q⟩
theorem i_isXi {t : String} {x : V} {c : String} (ty : TyX K H x (.type t)) (h : kitB t c = some b) (q : Q (.bl b) H) : rIsX K [x, .ty c] H Q := .inr ⟨x, .ty c, .type t, .type c, b, rfl, .ty c, ty, kit_ty h, q⟩
theorem i_isXo {t : String} {x : V} (ty : TyX K H x (.type t)) (h : PySem.W.kitOne K (.type t) (.ref C) = some b) (q : Q (.bl b) H) : rIsX K [x, .ref C] H Q := .inr ⟨x, .ref C, .type t, .ref C, b, rfl, .own C, ty, h, q⟩
/-! ### the steps -/
theorem i_callS {sp : Sp} {E : L2.St → XK} {t : TA} (h : t σ H fun vs H1 => sp vs H1 Q (E σ)) : tCallS sp E t σ H Q := h
theorem i_try {ts : TS} {Wout : WX} {tb : WX → TS} (h : tb (wAsT K c i ts Wout ⟨nx, rt, bk, ct⟩) ⟨nx, rt, bk, ct⟩ σ H) : tTryAs K c i ts Wout tb ⟨nx, rt, bk, ct⟩ σ H := h
theorem i_caught {τ : Addr → L2.St} {ts : TS} {Wout : WX} (e : PySem.W.exmOne K cls c = some true) (s : ∀ a, List.set σ i (some (V.ref a)) = τ a) (h : ∀ a, H a = none → ts ⟨nxAs i a cls d nx, rtAs a cls d rt, nxAs i a cls d bk, nxAs i a cls d ct⟩ (τ a) H) : wAsT K c i ts Wout ⟨nx, rt, bk, ct⟩ cls d σ H :=
  ⟨true, e, fun _ a na => by
    show ts _ (List.set σ i (some (V.ref a))) H
    rw [s a]
    exact h a na, fun z => nomatch z⟩
theorem i_nxAs (s : List.set σ i none = σ') (q : nx σ' (L2.upd H a (exHO a cls d))) : nxAs i a cls d nx σ H := by
  subst s
  exact q
theorem i_rtAs {v : V} (q : rt v (L2.upd H a (exHO a cls d))) : rtAs a cls d rt v H := q
theorem i_isnR (q : Q (.bl false) H) : V.non = V.non ∧ Q (.bl (decide (V.ref a = V.non))) H := ⟨rfl, by
  rw [decide_eq_false (fun z => by cases z)]
  exact q⟩
theorem i_isnN (q : Q (.bl true) H) : V.non = V.non ∧ Q (.bl (decide (V.non = V.non))) H := ⟨rfl, by
  rw [decide_eq_true rfl]
  exact q⟩
end
/-! ### what is known of the classes -/
structure ClsT (K : PySem.W.Frag) (C : Addr) : Prop where
  ic : PySem.W.isClsIn K C = true
  ty : PySem.W.typeIn K (.ref C) = some (.type "type")
section
variable {K : PySem.W.Frag} {C D : Addr} {b : Bool}
theorem kit_clsT (c : ClsT K C) {t : Value} (h : PySem.W.subIn K t (.ref C) = some b) : PySem.W.kitCls K t (.ref C) = some b := by
  have h2 : (PySem.W.clsIn K C).isSome = true := c.ic
  show (if ((PySem.W.clsIn K C).isSome && PySem.W.typeIn K (.ref C) == some (.type "type")) = true then PySem.W.subIn K t (.ref C) else none) = some b
  rw [if_pos (by rw [h2, c.ty]; rfl)]
  exact h
theorem kit_t (c : ClsT K C) (h : PySem.W.subIn K (.ref D) (.ref C) = some true) : PySem.W.kitOne K (.ref D) (.ref C) = some true := by
  unfold PySem.W.kitOne
  split
  · rfl
  · exact kit_clsT c h
theorem kit_f (c : ClsT K C) (hs : PySem.W.subIn K (.ref D) (.ref D) = some true) (h : PySem.W.subIn K (.ref D) (.ref C) = some false) : PySem.W.kitOne K (.ref D) (.ref C) = some false := by
  unfold PySem.W.kitOne
  split
  · rename_i z
    have e : D = C := Value.ref.inj (beq_iff_eq.mp z)
    subst e
    rw [hs] at h
    cases h
  · exact kit_clsT c h
theorem kit_o (c : ClsT K C) {t : String} (h : PySem.W.subIn K (.type t) (.ref C) = some b) : PySem.W.kitOne K (.type t) (.ref C) = some b := by
  unfold PySem.W.kitOne
  rw [if_neg (by rw [beq_iff_eq]; exact fun z => nomatch z)]
  exact kit_clsT c h
theorem kit_v {T : String} (h : PySem.W.subIn K (.ref D) (.type T) = some b) (hm : PySem.W.kitMeta T = true) : PySem.W.kitOne K (.ref D) (.type T) = some b := by
  unfold PySem.W.kitOne
  rw [if_neg (by rw [beq_iff_eq]; exact fun z => nomatch z)]
  show (if PySem.W.kitMeta T = true then PySem.W.subIn K (.ref D) (.type T) else none) = some b
  rw [if_pos hm]
  exact h
theorem exm_t (c : ClsT K C) (hb : PySem.W.subIn K (.ref C) (.type "BaseException") = some true) (h : PySem.W.subIn K (.ref D) (.ref C) = some b) : PySem.W.exmOne K (.ref D) (.ref C) = some b := by
  show (if (PySem.W.subIn K (.ref C) (.type "BaseException") == some true) = true then PySem.W.kitCls K (.ref D) (.ref C) else none) = some b
  rw [if_pos (by rw [hb]; rfl)]
  exact kit_clsT c h
end
/-! ### counts of flat things -/
def rCntV (K : PySem.W.Frag) : V → List V → Hp → VK → Prop := fun x xs H Q => ∃ (p : Addr) (ys : List V) (y : V), x = .ref p ∧ xs = [y] ∧ SqL K H p ys ∧ flatV y = true ∧ ys.all flatV = true ∧ Q (.int (ys.countP fun z => eqV z y : Nat)) H
theorem cnt_flat {u : Value} {y : V} (ry : RelV y u) (fy : flatV y = true) : ∀ {ys : List V} {us : List Value}, Vals ys us → ys.all flatV = true → us.countP (eqU y) = ys.countP fun z => eqV z y
  | [], [], .nil, _ => rfl
  | z :: r, _ :: _, .cons rz t, f => by
    have f1 : flatV z = true := (List.all_eq_true.mp f) z List.mem_cons_self
    have f2 : r.all flatV = true := List.all_eq_true.mpr fun q hq => (List.all_eq_true.mp f) q (List.mem_cons_of_mem _ hq)
    rw [List.countP_cons, List.countP_cons, cnt_flat ry fy t f2, eqU_of rz f1]
theorem mt_lcountV {X : Cx} : MtR X "list.count" (rCntV X.K) := by
  intro pins s σ H x xs v us Q I rx rxs h
  obtain ⟨p, ys, y, rfl, rfl, hs, fy, fys, q⟩ := h
  cases rx
  obtain ⟨u, rfl, ru⟩ := rxs.one
  obtain ⟨its, rv, ⟨⟨cls, dd, data, sl⟩, n, ho, hc, hdn, hd⟩, hlen⟩ := I.list hs
  simp only at hc hd
  subst hc hd
  refine call_meets PySem.F.slot_list_count ⟨_, ho, rfl⟩ PySem.F.entry_list_count (PySem.F.args_list_count_2 _ _)
    (SeqAt.list_countAt p its.toArray n dd sl u (eqU y)) ⟨ho, fun u' hu' => mem_eqAt ru fy rv fys u' (by simpa using hu'), ?_⟩
  have ec : its.toArray.toList.countP (eqU y) = ys.countP fun z => eqV z y := cnt_flat ru fy rv fys
  refine ⟨.int _, H, I.tok _, ⟨s.toks, ?_⟩, q⟩
  show Value.int ((its.toArray.toList.countP (eqU y) : Nat) : Int) s.toks = Value.int _ s.toks
  rw [ec]
theorem mt_lcountVK {X : Cx} (K : PySem.W.Frag) (e : X.K = K) : MtR X "list.count" (rCntV K) := by subst e; exact mt_lcountV
theorem mt_indexK {X : Cx} (K : PySem.W.Frag) (e : X.K = K) : MtR X "list.index" (rIndex K) := by subst e; exact mt_index
theorem i_cntV {K : PySem.W.Frag} {H : Hp} {Q : VK} {p : Addr} {ys : List V} {y : V} {n : Nat} (h : SqL K H p ys) (f : flatV y = true) (g : ys.all flatV = true) (e : (ys.countP fun z => eqV z y) = n) (q : Q (.int (n : Nat)) H) : rCntV K (.ref p) [y] H Q :=
  ⟨p, ys, y, rfl, rfl, h, f, g, by rw [e]; exact q⟩
/-- the first place at which y stands -/
def firstAt (y : V) : List V → Nat → Option Nat
  | [], _ => none
  | z :: r, k => if eqV z y = true then some k else firstAt y r (k + 1)
theorem firstAt_is {y : V} : ∀ {ys : List V} {k j : Nat}, firstAt y ys k = some j → k ≤ j ∧ (∃ z, ys[j - k]? = some z ∧ eqV z y = true) ∧ ∀ (m : Nat) (z' : V), m < j - k → ys[m]? = some z' → eqV z' y = false
  | [], _, _, h => nomatch h
  | z :: r, k, j, h => by
    unfold firstAt at h
    split at h
    · rename_i c
      cases h
      rw [Nat.sub_self]
      exact ⟨Nat.le_refl _, ⟨z, rfl, c⟩, fun m z' hm => absurd hm (Nat.not_lt_zero _)⟩
    · rename_i c
      obtain ⟨h1, ⟨w, h2, h3⟩, h4⟩ := firstAt_is h
      refine ⟨by omega, ⟨w, ?_, h3⟩, fun m z' hm hz => ?_⟩
      · rw [show j - k = (j - (k + 1)) + 1 by omega, List.getElem?_cons_succ]
        exact h2
      · cases m with
        | zero =>
          rw [List.getElem?_cons_zero] at hz
          cases hz
          exact Bool.eq_false_iff.mpr c
        | succ m =>
          rw [List.getElem?_cons_succ] at hz
          exact h4 m z' (by omega) hz
theorem i_index {K : PySem.W.Frag} {H : Hp} {Q : VK} {p : Addr} {ys : List V} {y : V} {j : Nat} (h : SqL K H p ys) (f : flatV y = true) (g : ys.all flatV = true) (e : firstAt y ys 0 = some j) (q : Q (.int (j : Nat)) H) : rIndex K (.ref p) [y] H Q := by
  obtain ⟨_, ⟨z, h2, h3⟩, h4⟩ := firstAt_is e
  exact ⟨p, ys, y, j, z, rfl, rfl, h, f, g, h2, h3, h4, q⟩
/-! ### comprehensions over zip, kept where the second says so -/
def pickB : List V → List Bool → List V
  | x :: xs, c :: bs => if c = true then x :: pickB xs bs else pickB xs bs
  | _, _ => []
theorem pickB_more : ∀ {xs : List V} {bs : List Bool} {i : Nat} {x : V} {c : Bool}, xs[i]? = some x → bs[i]? = some c → pickB (xs.take (i + 1)) (bs.take (i + 1)) = pickB (xs.take i) (bs.take i) ++ (if c = true then [x] else [])
  | [], _, _, _, _, h, _ => by simp at h
  | _ :: _, [], _, _, _, _, h => by simp at h
  | y :: xs, d :: bs, 0, x, c, h1, h2 => by
    simp at h1 h2
    subst h1 h2
    simp [pickB]
  | y :: xs, d :: bs, i + 1, x, c, h1, h2 => by
    rw [List.getElem?_cons_succ] at h1 h2
    have ih := pickB_more h1 h2
    simp only [List.take_succ_cons, pickB]
    cases d
    · simp only [Bool.false_eq_true, if_false]
      exact ih
    · simp only [if_true, List.cons_append]
      rw [ih]
theorem pickB_len : ∀ (xs : List V) (bs : List Bool), (pickB xs bs).length ≤ xs.length
  | [], _ => by simp [pickB]
  | _ :: _, [] => by simp [pickB]
  | y :: xs, d :: bs => by
    have := pickB_len xs bs
    unfold pickB
    split
    · simp
      omega
    · simp
      omega
section
variable {σ : L2.St} {H H1 : Hp} {Q : VK} {K : PySem.W.Frag} {D a b : Addr} {wi : TI} {g : TG} {tt : TT} {te : TE} {vs : List Nat} {xs ys : List V} {Qd : Hp → Prop}
theorem lcZ_pick (bs : List Bool) (hb : ys = bs.map V.bl) (nD : H1 D = none) (hn : xs.length ≤ 1000) (hl : xs.length = bs.length) (hx : SqL K H1 a xs) (hy : SqL K H1 b ys)
    (hs : ∀ (i : Nat) (x : V) (c : Bool) (T : Addr) H (Z : VK) (Y : Hp → Prop), xs[i]? = some x → bs[i]? = some c → Same H1 H → H T = none → (c = true → ∀ H4, Same H H4 → Z x H4) → (c = false → ∀ H4, Same H H4 → Y H4) → LcTurn g tt te vs σ (.ref T) (L2.upd H T (.tup [x, .bl c])) Z Y)
    (hd : ∀ H, Same H1 H → H D = some (.lst (pickB xs bs)) → Qd H) :
    ∃ W : Nat → Nat → Hp → Prop, (∃ m, W 0 m (L2.upd H1 D (.lst []))) ∧ ∀ i m H, W i m H →
      ((Itz K a b).stop i H ∧ Qd H) ∨ ((Itz K a b).go i H ∧ ∃ Nx : Hp → Prop, (∀ H', Nx H' → ∃ m', m' < m ∧ W (i + 1) m' H') ∧ ∀ x H', (Itz K a b).yld i H x H' → g x (wipe σ vs) H' fun σ2 H2 => wipe σ2 vs = wipe σ vs ∧ tt σ2 H2 fun b H3 =>
        if b = true then te σ2 H3 fun y H4 => ∃ acc, H4 D = some (.lst acc) ∧ acc.length < sizeLine ∧ Nx (L2.upd H4 D (.lst (acc ++ [y]))) else Nx H3) := by
  subst hb
  let P : Nat → Hp → Prop := fun i H => Same H1 H ∧ H D = some (.lst (pickB (xs.take i) (bs.take i)))
  refine ⟨fun i m H => m = xs.length - i ∧ i ≤ xs.length ∧ P i H, ⟨xs.length, by simp, Nat.zero_le _, Same.new nD, by rw [List.take_zero, List.take_zero]; exact L2.upd_same⟩, ?_⟩
  rintro i m H ⟨rfl, hi, hsame, hD⟩
  by_cases hlt : i < xs.length
  · have hx' : xs[i]? = some xs[i] := List.getElem?_eq_getElem hlt
    have hlt2 : i < bs.length := by omega
    have hy' : bs[i]? = some bs[i] := List.getElem?_eq_getElem hlt2
    have qx : SqL K H a xs := hsame.seq hx
    have qy : SqL K H b (bs.map V.bl) := hsame.seq hy
    have hy'' : (bs.map V.bl)[i]? = some (V.bl bs[i]) := by rw [List.getElem?_map, hy']; rfl
    have hz : (pickB (xs.take i) (bs.take i)).length < sizeLine := sz4' (by
      have := pickB_len (xs.take i) (bs.take i)
      rw [List.length_take] at this
      omega)
    refine .inr ⟨⟨xs, _, _, _, qx, qy, hx', hy''⟩, P (i + 1), fun H' p' => ⟨xs.length - (i + 1), by omega, rfl, hlt, p'⟩, fun v H' y => ?_⟩
    obtain ⟨T, x', y', rfl, hT, rfl, f1, f2⟩ := y
    have e1 := (f1 xs qx).symm.trans hx'
    have e2 := (f2 _ qy).symm.trans hy''
    cases e1
    cases e2
    refine hs i xs[i] bs[i] T H _ _ hx' hy' hsame hT (fun hc H4 h4 => ⟨_, h4 _ _ hD, hz, Same.mut (hsame.trans h4) nD, ?_⟩) (fun hc H4 h4 => ⟨hsame.trans h4, ?_⟩)
    · rw [L2.upd_same, pickB_more hx' hy', if_pos hc]
    · rw [h4 _ _ hD, pickB_more hx' hy', if_neg (by rw [hc]; exact Bool.false_ne_true), List.append_nil]
  · have e : i = xs.length := by omega
    subst e
    refine .inl ⟨⟨xs, _, hsame.seq hx, hsame.seq hy, Or.inl (Nat.le_refl _)⟩, hd H hsame ?_⟩
    rw [hD, List.take_length, hl, List.take_length]
theorem i_izip {ta : TA} {R : It → Hp → Prop} (h : ta σ H fun vs H1 => ∃ a b xs ys, vs = [.ref a, .ref b] ∧ SqL K H1 a xs ∧ SqL K H1 b ys ∧ R (Itz K a b) H1) : iZip K ta σ H R := h
theorem i_izip' {R : Addr → Addr → Prop} (h1 : SqL K H a xs) (h2 : SqL K H b ys) (q : R a b) : ∃ a' b' xs ys, [V.ref a, V.ref b] = [.ref a', .ref b'] ∧ SqL K H a' xs ∧ SqL K H b' ys ∧ R a' b' := ⟨a, b, xs, ys, rfl, h1, h2, q⟩
end
theorem pi_zipK {X : Cx} (K : PySem.W.Frag) (eK : X.K = K) {e e2 : Expr} {ta : TA} {p pos tpos : Pos} {elts : List Expr} {kk : Nat} (hg : Gl X "zip") (hm : X.mg "zip" = none) (ha : PA X [e, e2] ta)
    (hs : starEach [e, e2] X.env = (false, eval e X.env) :: starEach [e2] X.env := by rfl) (hpl : (backTo pos (starEach [e2] X.env)).any (·.1) = false := by rfl) :
    PI X (.Tuple elts kk tpos) (.Call (.Name "zip" p) [e, e2] [] pos) (iZip K ta) := by subst eK; exact pi_zip hg hm ha hs hpl
/-! ### lists of one text -/
theorem shaped_str1 {x : Str} (hx : PyData.strOk x = true) : SeqAt.shaped (.list [PyData.str x]) = true := by
  unfold SeqAt.shaped
  simp [PyData.canLay0, PyData.canLayAll0, PyData.depth, PyData.depthAll, hx]
theorem eqv_str1 (x : Str) : PyData.eqv (.list [PyData.str x]) (.list [PyData.str x]) = true := by simp [PyData.eqv, PyData.eqvAll]
theorem i_neS1 {K : PySem.W.Frag} {H : Hp} {Q : VK} {p r : Addr} {x : Str} (h1 : SqL K H p [.str x]) (h2 : SqL K H r [.str x]) (hx : PyData.strOk x = true) (q : Q (.bl false) H) : rNeD K (.ref p) (.ref r) H Q :=
  ⟨_, _, .lst h1 (.cons (.str x) .nil), .lst h2 (.cons (.str x) .nil), shaped_str1 hx, shaped_str1 hx, by rw [eqv_str1]; exact q⟩
theorem i_neT2 {K : PySem.W.Frag} {H : Hp} {Q : VK} {p r : Addr} {a b c d : Int} (h1 : SqT K H p [.int a, .int b]) (h2 : SqT K H r [.int c, .int d]) (q : Q (.bl (!(a == c && (b == d && true)))) H) : rNeD K (.ref p) (.ref r) H Q :=
  ⟨.tuple [.int a, .int b], .tuple [.int c, .int d], .tup h1 (.cons (.int a) (.cons (.int b) .nil)), .tup h2 (.cons (.int c) (.cons (.int d) .nil)), rfl, rfl, by
    have e : PyData.eqv (.tuple [.int a, .int b]) (.tuple [.int c, .int d]) = (a == c && (b == d && true)) := by simp [PyData.eqv, PyData.eqvAll]
    rw [e]
    exact q⟩
end Hf
namespace K04
open PySem PySem.Spec PyProof.Rows L2 Hf
local macro_rules | `(tactic| walk_at "g_ne") => `(tactic| first | assumption | (apply Hf.ne_at; assumption) | ((with_reducible refine' Hf.ne_new ?n9 ?h9); (case n9 => assumption); (case h9 => walk_at "g_lk")) | ((with_reducible refine' Hf.ne_new' ?n9 ?h9); (case n9 => assumption); (case h9 => walk_at "g_lk")) | fail "g_ne")
local macro_rules | `(tactic| walk_at "g_lk") => `(tactic| first | (with_reducible assumption) | (with_reducible exact L2.upd_same) | ((with_reducible refine' Hf.lk_new ?n9 ?h9); (case n9 => assumption); (case h9 => walk_at "g_lk")) | ((with_reducible refine' Hf.lk_updG ?g9 ?n9 ?h9); (case g9 => ((fail_if_success ((apply Hf.Guard.of); assumption)); exact trivial)); (case n9 => walk_at "g_ne"); (case h9 => walk_at "g_lk")) | ((with_reducible refine' Hf.lk_same ?n9 ?h9); (case n9 => assumption); (case h9 => walk_at "g_lk")) | ((with_reducible refine' Hf.lk_but ?m9 ?n9 ?h9); (case m9 => assumption); (case n9 => walk_at "g_ne"); (case h9 => walk_at "g_lk")) | ((with_reducible refine' Hf.lk_but2 ?m9 ?n9 ?n8 ?h9); (case m9 => assumption); (case n9 => walk_at "g_ne"); (case n8 => walk_at "g_ne"); (case h9 => walk_at "g_lk")) | fail "g_lk")
local macro_rules | `(tactic| walk_at "g_sq") => `(tactic| first | (with_reducible assumption) | (with_reducible exact L2.SqL.of L2.upd_same) | (with_reducible exact L2.SqT.of L2.upd_same) | (with_reducible exact L2.SqL.of (by assumption)) | (with_reducible exact L2.SqT.of (by assumption)) | ((with_reducible refine' Hf.lkL_new ?n9 ?h9); (case n9 => assumption); (case h9 => walk_at "g_sq")) | ((with_reducible refine' Hf.lkT_new ?n9 ?h9); (case n9 => assumption); (case h9 => walk_at "g_sq")) | ((with_reducible refine' Hf.lkL_updG ?g9 ?n9 ?h9); (case g9 => ((fail_if_success ((apply Hf.Guard.of); assumption)); exact trivial)); (case n9 => walk_at "g_ne"); (case h9 => walk_at "g_sq")) | ((with_reducible refine' Hf.lkT_updG ?g9 ?n9 ?h9); (case g9 => ((fail_if_success ((apply Hf.Guard.of); assumption)); exact trivial)); (case n9 => walk_at "g_ne"); (case h9 => walk_at "g_sq")) | ((with_reducible refine' L2.Same.seq ?n9 ?h9); (case n9 => assumption); (case h9 => walk_at "g_sq")) | ((with_reducible refine' Hf.Same.seqT ?n9 ?h9); (case n9 => assumption); (case h9 => walk_at "g_sq")) | ((with_reducible refine' Hf.But.seq ?m9 ?n9 ?h9); (case m9 => assumption); (case n9 => walk_at "g_ne"); (case h9 => walk_at "g_sq")) | ((with_reducible refine' Hf.But.seqT ?m9 ?n9 ?h9); (case m9 => assumption); (case n9 => walk_at "g_ne"); (case h9 => walk_at "g_sq")) | ((with_reducible refine' Hf.But2.seq ?m9 ?n9 ?n8 ?h9); (case m9 => assumption); (case n9 => walk_at "g_ne"); (case n8 => walk_at "g_ne"); (case h9 => walk_at "g_sq")) | ((with_reducible refine' Hf.But2.seqT ?m9 ?n9 ?n8 ?h9); (case m9 => assumption); (case n9 => walk_at "g_ne"); (case n8 => walk_at "g_ne"); (case h9 => walk_at "g_sq")) | fail "g_sq")
local macro_rules | `(tactic| walk_at "g_but") => `(tactic| first | exact Hf.But.refl _ _ | assumption | (refine Hf.But.newT (by assumption) ?_; walk_at "g_but") | (refine Hf.But.upd ?_; walk_at "g_but") | (refine Hf.But.transT (by assumption) ?_; walk_at "g_but") | (refine Hf.But.transS (by assumption) ?_; walk_at "g_but") | fail "g_but")
local macro_rules | `(tactic| walk_at "g_but2") => `(tactic| first | exact Hf.But2.refl _ _ _ | assumption | (refine Hf.But2.newT (by assumption) ?_; walk_at "g_but2") | (refine Hf.But2.updL ?_; walk_at "g_but2") | (refine Hf.But2.updR ?_; walk_at "g_but2") | (refine Hf.But2.transT (by assumption) ?_; walk_at "g_but2") | (refine Hf.But2.transS (by assumption) ?_; walk_at "g_but2") | (refine Hf.But2.transL (by assumption) ?_; walk_at "g_but2") | (refine Hf.But2.transR (by assumption) ?_; walk_at "g_but2") | (refine Hf.But2.mut (by assumption) ?_; walk_at "g_but2") | (refine Hf.But2.butT (by assumption) (by assumption) ?_; walk_at "g_but2") | fail "g_but2")
local macro_rules | `(tactic| walk_at "g_same") => `(tactic| first | exact L2.Same.refl _ | assumption | (refine Hf.Same.newT' (by assumption) ?_; walk_at "g_same") | (refine Hf.Same.mut ?_ (by walk_at "g_free"); walk_at "g_same") | (refine Hf.Same.butT (by assumption) (by walk_at "g_free") ?_; walk_at "g_same") | (refine Hf.Same.but2T (by assumption) (by walk_at "g_free") (by walk_at "g_free") ?_; walk_at "g_same") | (refine Hf.Same.transT (by assumption) ?_; walk_at "g_same") | fail "g_same")
local macro_rules | `(tactic| walk_at "g_free") => `(tactic| first | assumption | ((refine' Hf.Same.free' (by assumption) ?h7); (case h7 => walk_at "g_same")) | ((refine' Hf.But.free (by assumption) ?h7 ?h8); (case h7 => walk_at "g_but"); (case h8 => walk_at "g_lk")) | ((refine' Hf.But2.free (by assumption) ?h7 ?h8 ?h6); (case h7 => walk_at "g_but2"); (case h8 => walk_at "g_lk"); (case h6 => walk_at "g_lk")) | fail "g_free")
local macro_rules | `(tactic| walk_at "g_set") => `(tactic| first | exact Hf.set_z | exact (Hf.set_s Hf.set_z) | exact (Hf.set_s (Hf.set_s Hf.set_z)) | exact (Hf.set_s (Hf.set_s (Hf.set_s Hf.set_z))) | exact (Hf.set_s (Hf.set_s (Hf.set_s (Hf.set_s Hf.set_z)))) | exact (Hf.set_s (Hf.set_s (Hf.set_s (Hf.set_s (Hf.set_s Hf.set_z))))) | exact (Hf.set_s (Hf.set_s (Hf.set_s (Hf.set_s (Hf.set_s (Hf.set_s Hf.set_z)))))) | exact (Hf.set_s (Hf.set_s (Hf.set_s (Hf.set_s (Hf.set_s (Hf.set_s (Hf.set_s Hf.set_z))))))) | exact (Hf.set_s (Hf.set_s (Hf.set_s (Hf.set_s (Hf.set_s (Hf.set_s (Hf.set_s (Hf.set_s Hf.set_z)))))))) | exact (Hf.set_s (Hf.set_s (Hf.set_s (Hf.set_s (Hf.set_s (Hf.set_s (Hf.set_s (Hf.set_s (Hf.set_s Hf.set_z))))))))) | exact (Hf.set_s (Hf.set_s (Hf.set_s (Hf.set_s (Hf.set_s (Hf.set_s (Hf.set_s (Hf.set_s (Hf.set_s (Hf.set_s Hf.set_z)))))))))) | exact (Hf.set_s (Hf.set_s (Hf.set_s (Hf.set_s (Hf.set_s (Hf.set_s (Hf.set_s (Hf.set_s (Hf.set_s (Hf.set_s (Hf.set_s Hf.set_z))))))))))) | exact (Hf.set_s (Hf.set_s (Hf.set_s (Hf.set_s (Hf.set_s (Hf.set_s (Hf.set_s (Hf.set_s (Hf.set_s (Hf.set_s (Hf.set_s (Hf.set_s Hf.set_z)))))))))))) | exact (Hf.set_s (Hf.set_s (Hf.set_s (Hf.set_s (Hf.set_s (Hf.set_s (Hf.set_s (Hf.set_s (Hf.set_s (Hf.set_s (Hf.set_s (Hf.set_s (Hf.set_s Hf.set_z))))))))))))) | exact (Hf.set_s (Hf.set_s (Hf.set_s (Hf.set_s (Hf.set_s (Hf.set_s (Hf.set_s (Hf.set_s (Hf.set_s (Hf.set_s (Hf.set_s (Hf.set_s (Hf.set_s (Hf.set_s Hf.set_z)))))))))))))) | exact (Hf.set_s (Hf.set_s (Hf.set_s (Hf.set_s (Hf.set_s (Hf.set_s (Hf.set_s (Hf.set_s (Hf.set_s (Hf.set_s (Hf.set_s (Hf.set_s (Hf.set_s (Hf.set_s (Hf.set_s Hf.set_z))))))))))))))) | exact (Hf.set_s (Hf.set_s (Hf.set_s (Hf.set_s (Hf.set_s (Hf.set_s (Hf.set_s (Hf.set_s (Hf.set_s (Hf.set_s (Hf.set_s (Hf.set_s (Hf.set_s (Hf.set_s (Hf.set_s (Hf.set_s Hf.set_z)))))))))))))))) | exact (Hf.set_s (Hf.set_s (Hf.set_s (Hf.set_s (Hf.set_s (Hf.set_s (Hf.set_s (Hf.set_s (Hf.set_s (Hf.set_s (Hf.set_s (Hf.set_s (Hf.set_s (Hf.set_s (Hf.set_s (Hf.set_s (Hf.set_s Hf.set_z))))))))))))))))) | exact (Hf.set_s (Hf.set_s (Hf.set_s (Hf.set_s (Hf.set_s (Hf.set_s (Hf.set_s (Hf.set_s (Hf.set_s (Hf.set_s (Hf.set_s (Hf.set_s (Hf.set_s (Hf.set_s (Hf.set_s (Hf.set_s (Hf.set_s (Hf.set_s Hf.set_z)))))))))))))))))) | exact (Hf.set_s (Hf.set_s (Hf.set_s (Hf.set_s (Hf.set_s (Hf.set_s (Hf.set_s (Hf.set_s (Hf.set_s (Hf.set_s (Hf.set_s (Hf.set_s (Hf.set_s (Hf.set_s (Hf.set_s (Hf.set_s (Hf.set_s (Hf.set_s (Hf.set_s Hf.set_z))))))))))))))))))) | exact (Hf.set_s (Hf.set_s (Hf.set_s (Hf.set_s (Hf.set_s (Hf.set_s (Hf.set_s (Hf.set_s (Hf.set_s (Hf.set_s (Hf.set_s (Hf.set_s (Hf.set_s (Hf.set_s (Hf.set_s (Hf.set_s (Hf.set_s (Hf.set_s (Hf.set_s (Hf.set_s Hf.set_z)))))))))))))))))))) | exact (Hf.set_s (Hf.set_s (Hf.set_s (Hf.set_s (Hf.set_s (Hf.set_s (Hf.set_s (Hf.set_s (Hf.set_s (Hf.set_s (Hf.set_s (Hf.set_s (Hf.set_s (Hf.set_s (Hf.set_s (Hf.set_s (Hf.set_s (Hf.set_s (Hf.set_s (Hf.set_s (Hf.set_s Hf.set_z))))))))))))))))))))) | exact (Hf.set_s (Hf.set_s (Hf.set_s (Hf.set_s (Hf.set_s (Hf.set_s (Hf.set_s (Hf.set_s (Hf.set_s (Hf.set_s (Hf.set_s (Hf.set_s (Hf.set_s (Hf.set_s (Hf.set_s (Hf.set_s (Hf.set_s (Hf.set_s (Hf.set_s (Hf.set_s (Hf.set_s (Hf.set_s Hf.set_z)))))))))))))))))))))) | exact (Hf.set_s (Hf.set_s (Hf.set_s (Hf.set_s (Hf.set_s (Hf.set_s (Hf.set_s (Hf.set_s (Hf.set_s (Hf.set_s (Hf.set_s (Hf.set_s (Hf.set_s (Hf.set_s (Hf.set_s (Hf.set_s (Hf.set_s (Hf.set_s (Hf.set_s (Hf.set_s (Hf.set_s (Hf.set_s (Hf.set_s Hf.set_z))))))))))))))))))))))) | fail "g_set")
local macro_rules | `(tactic| walk_at "g_sz") => `(tactic| first | exact Hf.sz4 (by decide) | exact Hf.sz4' (by decide) | (refine Hf.sz4 ?_; simp; done) | (refine Hf.sz4 ?_; simp; omega) | (refine Hf.sz4 ?_; simp only [List.length_cons, List.length_nil, List.length_take, List.length_drop, List.length_map, List.length_append, List.length_replicate]; omega) | (refine Hf.sz4' ?_; simp; omega) | (refine Hf.sz4' ?_; omega) | (refine Hf.sz4 ?_; omega) | fail "g_sz")
local macro_rules | `(tactic| walk_at "g_at") => `(tactic| first | rfl | assumption | fail "g_at")
local macro_rules | `(tactic| walk_at "g_c") => `(tactic| first | assumption | omega | decide | (refine Hf.mulL ?_; omega) | (refine Hf.mulR ?_; omega) | (refine Hf.divS ?_ ?_ <;> omega) | (refine Hf.mulL ?_; split <;> omega) | (refine ⟨?_, ?_, ?_⟩ <;> first | omega | decide) | (refine ⟨?_, ?_⟩ <;> first | assumption | omega) | fail "g_c")
local macro_rules | `(tactic| walk_at "g_ixn") => `(tactic| first | (show L2.ixN _ _ = some 0; rfl) | (show L2.ixN _ _ = some 1; rfl) | (show L2.ixN _ _ = some 2; rfl) | (show L2.ixN _ _ = some 3; rfl) | (show L2.ixN _ _ = some 4; rfl) | (show L2.ixN _ _ = some 5; rfl) | (show L2.ixN _ _ = some 6; rfl) | (show L2.ixN _ _ = some 7; rfl) | assumption | fail "g_ixn")
local macro_rules | `(tactic| walk_at "g_pow") => `(tactic| first | (show (10 : Int) ^ (9 : Int).toNat = 1000000000; rfl) | (show (10 : Int) ^ (18 : Int).toNat = 1000000000000000000; rfl) | (show (10 : Int) ^ (20 : Int).toNat = 100000000000000000000; rfl) | (show (10 : Int) ^ (29 : Int).toNat = 100000000000000000000000000000; rfl) | (show (10 : Int) ^ (26 : Int).toNat = 100000000000000000000000000; rfl) | (show (10 : Int) ^ (10 : Int).toNat = 10000000000; rfl) | (show (10 : Int) ^ (19 : Int).toNat = 10000000000000000000; rfl) | (show (10 : Int) ^ (27 : Int).toNat = 1000000000000000000000000000; rfl) | (show (10 : Int) ^ (28 : Int).toNat = 10000000000000000000000000000; rfl) | (show (10 : Int) ^ (25 : Int).toNat = 10000000000000000000000000; rfl) | (show (10 : Int) ^ (30 : Int).toNat = 1000000000000000000000000000000; rfl) | (show (10 : Int) ^ (2 : Int).toNat = 100; rfl) | (show (10 : Int) ^ (3 : Int).toNat = 1000; rfl) | (show (_ : Int) ^ (3 : Int).toNat = _; rfl) | fail "g_pow")
local macro_rules | `(tactic| walk_at "g_ty") => `(tactic| first | exact .base .non | exact .base (.bl _) | exact .base (.int _) | exact .base (.str _) | exact .base (.lst (by walk_at "g_lk")) | exact .base (.tup (by walk_at "g_lk")) | exact .base (.dK (by walk_at "g_lk")) | exact .base (.dT (by walk_at "g_lk")) | fail "g_ty")
local macro_rules | `(tactic| walk_at "g_pre") => `(tactic| first | (with_reducible assumption) | walk_at "g_lk" | walk_at "g_sq" | walk_at "g_but" | walk_at "g_but2" | walk_at "g_same" | walk_at "g_free" | omega | (refine ⟨?_, ?_⟩ <;> omega) | exact .inl (by omega) | exact .inr (by omega) | assumption | fail "g_pre")
local macro_rules | `(tactic| walk_at "g_call") => `(tactic| fail "g_call: no rule")
local macro_rules | `(tactic| walk_at "g_val") => `(tactic| first
  | (with_reducible refine' Hf.i_I0 ?_)
  | ((with_reducible refine' Hf.i_pow ?k1 ?k2 ?_); (case k1 => walk_at "g_c"); (case k2 => walk_at "g_pow"))
  | ((with_reducible refine' Hf.i_I ?k1 ?_); (case k1 => walk_at "g_c"))
  | (with_reducible refine' Hf.i_U ?_)
  | (with_reducible refine' Hf.i_eqI ?_)
  | (with_reducible refine' Hf.i_neI ?_)
  | (with_reducible refine' Hf.i_eqB ?_)
  | (with_reducible refine' Hf.i_neB ?_)
  | (with_reducible refine' Hf.i_eqS ?_)
  | (with_reducible refine' Hf.i_neS ?_)
  | ((with_reducible refine' Hf.i_ixL ?k1 ?k2 ?_); (case k1 => walk_at "g_sq"); (case k2 => walk_at "g_at"))
  | ((with_reducible refine' Hf.i_ixT ?k1 ?k2 ?_); (case k1 => walk_at "g_sq"); (case k2 => walk_at "g_at"))
  | ((with_reducible refine' Hf.i_ix2I ?k1 ?k2 ?k3 ?_); (case k1 => walk_at "g_sq"); (case k2 => omega); (case k3 => omega); intro _ _)
  | ((with_reducible refine' Hf.i_ix3I ?k1 ?k2 ?k3 ?_); (case k1 => walk_at "g_sq"); (case k2 => omega); (case k3 => omega); intro _ _)
  | ((with_reducible refine' Hf.i_ix4I ?k1 ?k2 ?k3 ?_); (case k1 => walk_at "g_sq"); (case k2 => omega); (case k3 => omega); intro _ _)
  | ((with_reducible refine' Hf.i_ix3R ?k1 ?k2 ?k3 ?_); (case k1 => walk_at "g_sq"); (case k2 => omega); (case k3 => omega); intro _ _)
  | ((with_reducible refine' Hf.i_ix4R ?k1 ?k2 ?k3 ?_); (case k1 => walk_at "g_sq"); (case k2 => omega); (case k3 => omega); intro _ _)
  | (with_reducible refine' Hf.i_abs ?_)
  | (with_reducible refine' Hf.i_int2 ?_)
  | (with_reducible refine' Hf.i_int1 ?_)
  | (with_reducible refine' Hf.i_intb ?_)
  | ((with_reducible refine' Hf.i_isi ?k1 ?k2 ?_); (case k1 => walk_at "g_ty"); (case k2 => first | (show L2.kitB _ _ = some true; decide +kernel) | (show L2.kitB _ _ = some false; decide +kernel)))
  | ((with_reducible refine' Hf.i_lenL ?k1 ?_); (case k1 => walk_at "g_sq"))
  | ((with_reducible refine' Hf.i_lenT ?k1 ?_); (case k1 => walk_at "g_sq"))
  | ((with_reducible refine' Hf.i_appendM ?k1 ?k2 ?_); (case k1 => walk_at "g_lk"); (case k2 => walk_at "g_sz"))
  | ((with_reducible refine' Hf.i_append ?k1 ?k2 ?_); (case k1 => walk_at "g_lk"); (case k2 => walk_at "g_sz"))
  | ((with_reducible refine' Hf.i_bmL ?k1 ?_); (case k1 => walk_at "g_sq"))
  | ((with_reducible refine' Hf.i_setLast ?k1 ?k2 ?_); (case k1 => walk_at "g_lk"); (case k2 => first | omega | (simp; done) | (simp; omega)))
  | ((with_reducible refine' Hf.i_setM ?k1 ?k2 ?k3 ?_); (case k1 => walk_at "g_lk"); (case k2 => omega); (case k3 => first | omega | (simp; done) | (simp; omega)))
  | ((with_reducible refine' Hf.i_setL ?k1 ?k2 ?_); (case k1 => walk_at "g_lk"); (case k2 => walk_at "g_ixn"); (try dsimp only [List.set_cons_zero, List.set_cons_succ])) | fail "g_val")
local macro_rules | `(tactic| walk_at "g_val2") => `(tactic| first
  | ((with_reducible refine' Hf.i_slInitM ?k1 ?_); (case k1 => walk_at "g_sq"); intro _ _)
  | ((with_reducible refine' Hf.i_ixLast ?k1 ?k2 ?_); (case k1 => walk_at "g_sq"); (case k2 => first | omega | (simp; done) | (simp; omega)); intro _ _)
  | ((with_reducible refine' Hf.i_slToM ?k1 ?k2 ?_); (case k1 => walk_at "g_sq"); (case k2 => omega); intro _ _)
  | ((with_reducible refine' Hf.i_slFromM ?k1 ?k2 ?_); (case k1 => walk_at "g_sq"); (case k2 => omega); intro _ _)
  | ((with_reducible refine' Hf.i_slMidM ?k1 ?k2 ?k3 ?_); (case k1 => walk_at "g_sq"); (case k2 => omega); (case k3 => omega); intro _ _)
  | ((with_reducible refine' Hf.i_slTo ?k1 ?k2 ?_); (case k1 => walk_at "g_sq"); (case k2 => omega); intro _ _)
  | ((with_reducible refine' Hf.i_slFrom ?k1 ?k2 ?_); (case k1 => walk_at "g_sq"); (case k2 => omega); intro _ _)
  | ((with_reducible refine' Hf.i_slMid ?k1 ?k2 ?k3 ?_); (case k1 => walk_at "g_sq"); (case k2 => omega); (case k3 => omega); intro _ _)
  | ((with_reducible refine' Hf.i_eqT2 ?k1 ?k2 ?_); (case k1 => walk_at "g_sq"); (case k2 => walk_at "g_sq"))
  | (with_reducible refine' Hf.i_sl ?_)
  | ((with_reducible refine' Hf.i_lenA ?k1 ?_); (case k1 => first | exact Hf.lenA_map (by walk_at "g_sq") | exact Hf.lenA_L (by walk_at "g_sq") | exact Hf.lenA_T (by walk_at "g_sq")))
  | ((with_reducible refine' Hf.i_ixM ?k1 ?k2 ?k3 ?_); (case k1 => walk_at "g_sq"); (case k2 => omega); (case k3 => first | omega | (simp; omega)); intro _ _)
  | ((with_reducible refine' Hf.i_listOf ?k1 ?_); (case k1 => walk_at "g_sq"); intro _ _)
  | ((with_reducible refine' Hf.i_listOfT ?k1 ?_); (case k1 => walk_at "g_sq"); intro _ _)
  | ((with_reducible refine' Hf.i_sum ?k1 ?_); (case k1 => walk_at "g_sq"))
  | ((with_reducible refine' Hf.i_all ?k1 ?_); (case k1 => walk_at "g_sq"))
  | ((with_reducible refine' Hf.i_min ?k1 ?k2 ?_); (case k1 => walk_at "g_sq"); (case k2 => omega); intro _ _ _)
  | ((with_reducible refine' Hf.i_max ?k1 ?k2 ?_); (case k1 => walk_at "g_sq"); (case k2 => omega); intro _ _ _)
  | ((with_reducible refine' Hf.i_eqLI ?k1 ?k2 ?_); (case k1 => walk_at "g_sq"); (case k2 => walk_at "g_sq"))
  | ((with_reducible refine' Hf.i_neLI ?k1 ?k2 ?_); (case k1 => walk_at "g_sq"); (case k2 => walk_at "g_sq"))
  | ((with_reducible refine' Hf.i_eqL0 ?k1 ?k2 ?_); (case k1 => walk_at "g_sq"); (case k2 => walk_at "g_sq"))
  | ((with_reducible refine' Hf.i_eq00 ?k1 ?k2 ?_); (case k1 => walk_at "g_sq"); (case k2 => walk_at "g_sq"))
  | ((with_reducible refine' Hf.i_ne00 ?k1 ?k2 ?_); (case k1 => walk_at "g_sq"); (case k2 => walk_at "g_sq"))
  | ((with_reducible refine' Hf.i_reverse ?k1 ?_); (case k1 => walk_at "g_lk"))
  | ((with_reducible refine' Hf.i_glst ?k1 ?k2 ?_); (case k1 => walk_at "g_sq"); (case k2 => rfl))
  | (with_reducible refine' Hf.i_lc ?_)
  | ((with_reducible refine' Hf.i_turn ?k1 ?_); (case k1 => first | ((show L2.wipe _ [_] = _); (apply Hf.wipe_one); walk_at "g_set") | ((show L2.wipe _ [_, _] = _); (apply Hf.wipe_two); walk_at "g_set"; walk_at "g_set") | ((show L2.wipe _ [_, _, _] = _); (apply Hf.wipe_three); walk_at "g_set"; walk_at "g_set"; walk_at "g_set")))
  | ((with_reducible refine' Hf.i_wiped ?k1 ?_); (case k1 => rfl))
  | (with_reducible refine' Hf.i_yes ?_)
  | (with_reducible refine' Hf.i_nopart ?_)
  | (with_reducible refine' Hf.i_part ?_)
  | (with_reducible refine' Hf.i_exint ?_)
  | ((with_reducible refine' Hf.i_catM ?k1 ?k2 ?k3 ?_); (case k1 => walk_at "g_lk"); (case k2 => walk_at "g_lk"); (case k3 => (simp; omega)); intro _ _)
  | ((with_reducible refine' Hf.i_catM1 ?k1 ?k2 ?k3 ?_); (case k1 => walk_at "g_lk"); (case k2 => walk_at "g_lk"); (case k3 => first | omega | (simp; omega)); intro _ _)
  | ((with_reducible refine' Hf.i_cat ?k1 ?k2 ?k3 ?_); (case k1 => walk_at "g_lk"); (case k2 => walk_at "g_lk"); (case k3 => walk_at "g_sz"); intro _ _)
  | ((with_reducible refine' Hf.i_repM ?k1 ?k2 ?_); (case k1 => walk_at "g_lk"); (case k2 => omega); intro _ _)
  | ((with_reducible refine' Hf.i_rep1 ?k1 ?k2 ?_); (case k1 => walk_at "g_lk"); (case k2 => omega); intro _ _) | fail "g_val2")
local macro_rules | `(tactic| walk_at "g1") => `(tactic| first
  | ((with_reducible refine' Hf.i_var ?k1 ?_); (case k1 => rfl))
  | (with_reducible refine' Hf.i_c ?_)
  | (with_reducible refine' Hf.i_op ?_)
  | (with_reducible refine' Hf.i_cons ?_)
  | (with_reducible refine' Hf.i_nil ?_)
  | (with_reducible refine' Hf.i_seq ?_)
  | (with_reducible refine' Hf.i_asg ?_)
  | ((with_reducible refine' Hf.i_gname ?k1 ?_); (case k1 => walk_at "g_set"))
  | (with_reducible refine' Hf.i_ret ?_)
  | (with_reducible refine' Hf.i_next ?_)
  | (with_reducible refine' Hf.i_ifs ?_)
  | ((with_reducible refine' Hf.ite_y ?k1 ?_); (case k1 => rfl))
  | ((with_reducible refine' Hf.ite_n ?k1 ?_); (case k1 => rfl))
  | (with_reducible refine' Hf.i_test ?_)
  | (with_reducible refine' Hf.i_B ?_)
  | (with_reducible refine' Hf.i_bl ?_)
  | (with_reducible refine' Hf.i_call ?_)
  | (with_reducible refine' Hf.i_cb ?_)
  | (with_reducible refine' Hf.i_tup ?_)
  | (with_reducible refine' Hf.i_lst ?_)
  | ((with_reducible refine' Hf.i_new ?k1 ?_); (case k1 => walk_at "g_sz"); intro _ _)
  | (with_reducible refine' Hf.i_un ?_)
  | (with_reducible refine' Hf.i_and ?_)
  | (with_reducible refine' Hf.i_or ?_)
  | (with_reducible refine' Hf.i_not ?_)
  | (with_reducible refine' Hf.i_andV ?_)
  | (with_reducible refine' Hf.i_orV ?_)
  | (with_reducible refine' Hf.i_notV ?_)
  | (with_reducible refine' Hf.i_ife ?_)
  | (with_reducible refine' Hf.i_drop ?_)
  | (with_reducible refine' Hf.i_par ?_)
  | ((with_reducible refine' Hf.i_par2 ?k1 ?_); (case k1 => (apply Hf.set_par; walk_at "g_set"; walk_at "g_set")))
  | ((with_reducible refine' Hf.i_aug ?k1 ?_); (case k1 => rfl))
  | (with_reducible refine' Hf.i_ip ?_)
  | (with_reducible refine' Hf.i_bm ?_)
  | (with_reducible refine' Hf.i_bm0 ?_)
  | ((with_reducible refine' Hf.i_gtup ?k1 ?k2 ?_); (case k1 => walk_at "g_sq"); (case k2 => rfl))
  | (with_reducible refine' Hf.i_gcons ?_)
  | (with_reducible refine' Hf.i_gnil ?_)
  | (with_reducible refine' Hf.i_gsub ?_)
  | (with_reducible refine' Hf.i_for ?_)
  | (with_reducible refine' Hf.i_rng1 ?_)
  | ((with_reducible refine' Hf.i_rng1' ?k1 ?k2 ?_); (case k1 => omega); (case k2 => omega))
  | (with_reducible refine' Hf.i_rng2 ?_)
  | ((with_reducible refine' Hf.i_rng2' ?k1 ?_); (case k1 => omega))
  | (with_reducible refine' Hf.i_ilist ?_)
  | ((with_reducible refine' Hf.i_ilist' ?k1 ?_); (case k1 => walk_at "g_sq"))
  | (with_reducible refine' Hf.i_itup ?_)
  | ((with_reducible refine' Hf.i_itup' ?k1 ?_); (case k1 => walk_at "g_sq"))
  | (with_reducible refine' Hf.i_retN ?_)
  | (with_reducible refine' Hf.i_brk ?_)
  | (with_reducible refine' Hf.i_cnt ?_)
  | walk_at "g_val"
  | walk_at "g_val2"
  | walk_at "g_call"
  | (with_reducible refine' Hf.i_isn ?_)
  | (with_reducible refine' Hf.i_tru ?_)
  | dsimp only | fail "g1")
local macro_rules | `(tactic| walk_at "go") => `(tactic| repeat walk_at "g1")
local macro_rules | `(tactic| walk_at "goI") => `(tactic| repeat ((fail_if_success (with_reducible refine' Hf.i_ifs ?_)); walk_at "g1"))
local macro_rules | `(tactic| walk_at "goF") => `(tactic| repeat ((fail_if_success (with_reducible refine' Hf.i_for ?_)); walk_at "g1"))
local macro_rules | `(tactic| walk_at "g_kit") => `(tactic| fail "g_kit")
local macro_rules | `(tactic| walk_at "g_exc") => `(tactic| fail "g_exc")
local macro_rules | `(tactic| walk_at "g_exm") => `(tactic| fail "g_exm")
local macro_rules | `(tactic| walk_at "g_kitB") => `(tactic| first | (show L2.kitB _ _ = some true; decide +kernel) | (show L2.kitB _ _ = some false; decide +kernel))
local macro_rules | `(tactic| walk_at "g_val2") => `(tactic| first
  | ((with_reducible refine' Hf.i_isXi ?k1 ?k2 ?_); (case k1 => walk_at "g_ty"); (case k2 => walk_at "g_kitB"))
  | ((with_reducible refine' Hf.i_isXo ?k1 ?k2 ?_); (case k1 => walk_at "g_ty"); (case k2 => walk_at "g_kit"))
  | ((with_reducible refine' Hf.i_isXR ?k1 ?k2 ?k3 ?_); (case k1 => walk_at "g_lk"); (case k2 => walk_at "g_exc"); (case k3 => walk_at "g_kit"))
  | ((with_reducible refine' Hf.i_isXT ?k1 ?k2 ?k3 ?_); (case k1 => walk_at "g_lk"); (case k2 => walk_at "g_exc"); (case k3 => walk_at "g_kit"))
  | ((with_reducible refine' Hf.i_isXRd ?k1 ?k4 ?k2 ?k3 ?_); (case k1 => walk_at "g_lk"); (case k4 => walk_at "g_lk"); (case k2 => walk_at "g_exc"); (case k3 => walk_at "g_kit"))
  | ((with_reducible refine' Hf.i_isXTd ?k1 ?k4 ?k2 ?k3 ?_); (case k1 => walk_at "g_lk"); (case k4 => walk_at "g_lk"); (case k2 => walk_at "g_exc"); (case k3 => walk_at "g_kit"))
  | (with_reducible refine' Hf.i_callS ?_)
  | (with_reducible refine' Hf.i_try ?_)
  | ((with_reducible refine' Hf.i_caught ?k1 ?k2 ?_); (case k1 => walk_at "g_exm"); (case k2 => (intro _; walk_at "g_set")); intro _ _)
  | ((with_reducible refine' Hf.i_nxAs ?k1 ?_); (case k1 => walk_at "g_set"))
  | (with_reducible refine' Hf.i_rtAs ?_)
  | (with_reducible refine' Hf.i_izip ?_)
  | ((with_reducible refine' Hf.i_neT2 ?k1 ?k2 ?_); (case k1 => walk_at "g_sq"); (case k2 => walk_at "g_sq"))
  | ((with_reducible refine' Hf.i_neS1 ?k1 ?k2 ?k3 ?_); (case k1 => walk_at "g_sq"); (case k2 => walk_at "g_sq"); (case k3 => decide +kernel))
  | ((with_reducible refine' Hf.i_izip' ?k1 ?k2 ?_); (case k1 => walk_at "g_sq"); (case k2 => walk_at "g_sq"))
  | (with_reducible refine' Hf.i_isnR ?_)
  | (with_reducible refine' Hf.i_isnN ?_)
  | ((with_reducible refine' Hf.i_cntV ?k1 ?k2 ?k3 ?k4 ?_); (case k1 => walk_at "g_sq"); (case k2 => rfl); (case k3 => rfl); (case k4 => rfl))
  | ((with_reducible refine' Hf.i_index ?k1 ?k2 ?k3 ?k4 ?_); (case k1 => walk_at "g_sq"); (case k2 => rfl); (case k3 => rfl); (case k4 => rfl)) | fail "g_val2x")
local macro_rules | `(tactic| walk_at "g_no") => `(tactic| first | contradiction | omega | (simp_all; done) | fail "g_no")

theorem gcd_step {x y : Int} (hx : 0 ≤ x) (hy : 0 < y) : Int.gcd y (x % y) = Int.gcd x y := by
  obtain ⟨m, rfl⟩ := Int.eq_ofNat_of_zero_le hx
  obtain ⟨n, rfl⟩ := Int.eq_ofNat_of_zero_le (Int.le_of_lt hy)
  show Nat.gcd _ _ = Nat.gcd _ _
  have e : ((m : Int) % (n : Int)) = ((m % n : Nat) : Int) := rfl
  rw [e]
  show Nat.gcd n (m % n) = Nat.gcd m n
  rw [Nat.gcd_comm n (m % n), ← Nat.gcd_rec n m, Nat.gcd_comm]
theorem gcd_zero {x : Int} (hx : 0 ≤ x) : (Int.gcd x 0 : Int) = x := by
  rw [Int.gcd_zero]
  omega
theorem abs_if {x : Int} : (if x < 0 then -x else x) = (x.natAbs : Int) := by
  split <;> omega
theorem gcd_abs {x y : Int} : Int.gcd (x.natAbs : Int) (y.natAbs : Int) = Int.gcd x y := rfl
/-- the divisor with the bottom's sign -/
def sgcd (x y : Int) : Int := if y < 0 then 0 - (Int.gcd x y : Int) else (Int.gcd x y : Int)
theorem gcd_pos {x y : Int} (h : y ≠ 0) : 0 < Int.gcd x y := Nat.pos_of_ne_zero fun z => h (Int.gcd_eq_zero_iff.mp z).2
theorem sgcd_ne {x y : Int} (h : y ≠ 0) : sgcd x y ≠ 0 := by
  have := gcd_pos (x := x) h
  unfold sgcd
  split <;> omega
theorem gcd_le {x y : Int} (h : y ≠ 0) : Int.gcd x y ≤ y.natAbs := Nat.le_of_dvd (by omega) (Int.gcd_dvd_natAbs_right x y)
theorem sgcd_le {x y : Int} (h : y ≠ 0) : (sgcd x y).natAbs ≤ y.natAbs := by
  have := gcd_le (x := x) h
  unfold sgcd
  split <;> omega
theorem fdiv_abs_le {x g : Int} (hg : g ≠ 0) (hd : g ∣ x) : (x.fdiv g).natAbs ≤ x.natAbs := by
  obtain ⟨k, rfl⟩ := hd
  rw [Int.mul_fdiv_cancel_left _ hg, Int.natAbs_mul]
  exact Nat.le_mul_of_pos_left _ (by omega)
theorem sgcd_dvd_left (x y : Int) : sgcd x y ∣ x := by
  unfold sgcd
  split
  · rw [Int.zero_sub]
    exact Int.neg_dvd.mpr (Int.gcd_dvd_left x y)
  · exact Int.gcd_dvd_left x y
theorem sgcd_dvd_right (x y : Int) : sgcd x y ∣ y := by
  unfold sgcd
  split
  · rw [Int.zero_sub]
    exact Int.neg_dvd.mpr (Int.gcd_dvd_right x y)
  · exact Int.gcd_dvd_right x y
def ltop (x y : Int) : Int := x.fdiv (sgcd x y)
def lbot (x y : Int) : Int := y.fdiv (sgcd x y)
theorem ltop_le {x y : Int} (h : y ≠ 0) : (ltop x y).natAbs ≤ x.natAbs := fdiv_abs_le (sgcd_ne h) (sgcd_dvd_left x y)
theorem lbot_le {x y : Int} (h : y ≠ 0) : (lbot x y).natAbs ≤ y.natAbs := fdiv_abs_le (sgcd_ne h) (sgcd_dvd_right x y)
theorem lbot_pos {x y : Int} (h : y ≠ 0) : 0 < lbot x y := by
  unfold lbot
  have h1 := sgcd_dvd_right x y
  have hg := gcd_pos (x := x) h
  have h0 := sgcd_ne (x := x) h
  obtain ⟨k, hk⟩ := h1
  have e : y.fdiv (sgcd x y) = k := by
    conv => lhs; lhs; rw [hk]
    exact Int.mul_fdiv_cancel_left _ h0
  rw [e]
  rcases Int.lt_trichotomy y 0 with hy | hy | hy
  · have hs : sgcd x y < 0 := by
      unfold sgcd
      rw [if_pos hy]
      omega
    rcases Int.lt_trichotomy k 0 with z | z | z
    · have := Int.mul_pos_of_neg_of_neg hs z
      omega
    · rw [z, Int.mul_zero] at hk
      omega
    · exact z
  · exact absurd hy h
  · have hs : 0 < sgcd x y := by
      unfold sgcd
      rw [if_neg (by omega)]
      omega
    rcases Int.lt_trichotomy k 0 with z | z | z
    · have := Int.mul_neg_of_pos_of_neg hs z
      omega
    · rw [z, Int.mul_zero] at hk
      omega
    · exact z
/-! ### lowest terms are a rational's top and bottom -/
theorem low_rat {x y : Int} (h : y ≠ 0) : ltop x y = (Rat.divInt x y).num ∧ lbot x y = ((Rat.divInt x y).den : Int) := by
  have g0 := sgcd_ne (x := x) h
  obtain ⟨p, hp⟩ := sgcd_dvd_left x y
  obtain ⟨q, hq⟩ := sgcd_dvd_right x y
  have ep : ltop x y = p := by
    unfold ltop
    conv => lhs; lhs; rw [hp]
    exact Int.mul_fdiv_cancel_left _ g0
  have eq : lbot x y = q := by
    unfold lbot
    conv => lhs; lhs; rw [hq]
    exact Int.mul_fdiv_cancel_left _ g0
  have q0 : 0 < q := by
    rw [← eq]
    exact lbot_pos h
  have e2 : (sgcd x y).natAbs = Int.gcd x y := by
    unfold sgcd
    split <;> omega
  have hgp := gcd_pos (x := x) h
  generalize sgcd x y = g at hp hq g0 e2
  have hg : Int.gcd p q = 1 := by
    have e1 : Int.gcd x y = g.natAbs * Int.gcd p q := by
      rw [hp, hq]
      exact Int.gcd_mul_left ..
    rw [e2] at e1
    exact Nat.eq_of_mul_eq_mul_left hgp (by rw [← e1, Nat.mul_one])
  have hc : p.natAbs.Coprime q.toNat := by
    have : q.toNat = q.natAbs := by omega
    rw [this]
    exact hg
  have e3 : Rat.divInt x y = Rat.divInt p q := by
    rw [Rat.divInt_eq_divInt_iff h (by omega), hp, hq]
    rw [Int.mul_right_comm, Int.mul_comm (g * q) p, ← Int.mul_assoc]
  have e4 : (⟨p, q.toNat, by omega, hc⟩ : Rat) = Rat.divInt p q := by
    rw [Rat.mk_eq_divInt, Int.toNat_of_nonneg (by omega)]
  rw [ep, eq, e3, ← e4]
  exact ⟨rfl, by show q = ((q.toNat : Nat) : Int); omega⟩
theorem num_le {x y : Int} (h : y ≠ 0) : (Rat.divInt x y).num.natAbs ≤ x.natAbs := by
  rw [← (low_rat h).1]
  exact ltop_le h
theorem den_le {x y : Int} (h : y ≠ 0) : (Rat.divInt x y).den ≤ y.natAbs := by
  have e := (low_rat (x := x) h).2
  have := lbot_le (x := x) h
  omega
def Big : Nat := 2 ^ 1000
def Bd (n : Nat) (q : Rat) : Prop := q.num.natAbs < 2 ^ n ∧ q.den < 2 ^ n
section
variable {q r : Rat} {m n : Nat}
theorem den0 (q : Rat) : (q.den : Int) ≠ 0 := by
  have := q.den_nz
  omega
theorem dd0 (q r : Rat) : (q.den : Int) * (r.den : Int) ≠ 0 := Int.mul_ne_zero (den0 q) (den0 r)
theorem add_is (q r : Rat) : Rat.divInt (q.num * r.den + r.num * q.den) (q.den * r.den) = q + r := by
  have := Rat.divInt_add_divInt q.num r.num (den0 q) (den0 r)
  rw [Rat.num_divInt_den, Rat.num_divInt_den] at this
  exact this.symm
theorem sub_is (q r : Rat) : Rat.divInt (q.num * r.den - r.num * q.den) (q.den * r.den) = q - r := by
  have := Rat.divInt_sub_divInt q.num r.num (den0 q) (den0 r)
  rw [Rat.num_divInt_den, Rat.num_divInt_den] at this
  exact this.symm
theorem mul_is (q r : Rat) : Rat.divInt (q.num * r.num) (q.den * r.den) = q * r := by
  have := Rat.divInt_mul_divInt q.num r.num (d₁ := q.den) (d₂ := r.den)
  rw [Rat.num_divInt_den, Rat.num_divInt_den] at this
  exact this.symm
theorem neg_is (q : Rat) : Rat.divInt (0 - q.num) (0 - (q.den : Int)) = q := by
  rw [Int.zero_sub, Int.zero_sub, Rat.neg_divInt_neg, Rat.num_divInt_den]
theorem mul_bits {a b : Int} (h1 : a.natAbs < 2 ^ m) (h2 : b.natAbs < 2 ^ n) : (a * b).natAbs < 2 ^ (m + n) := by
  rw [Int.natAbs_mul, Nat.pow_add]
  exact Nat.mul_lt_mul'' h1 h2
theorem den_bits (h : Bd n q) : ((q.den : Int)).natAbs < 2 ^ n := by
  have := h.2
  omega
theorem two_pow (k : Nat) : 2 ^ (k + 1) = 2 ^ k + 2 ^ k := by rw [Nat.pow_succ]; omega
theorem Bd.dens (a : Bd m q) (b : Bd n r) : ((q.den : Int) * (r.den : Int)).natAbs < 2 ^ (m + n) := mul_bits (den_bits a) (den_bits b)
theorem Bd.crossA (a : Bd m q) (b : Bd n r) : (q.num * r.den + r.num * q.den).natAbs < 2 ^ (m + n + 1) := by
  have h1 := mul_bits a.1 (den_bits b)
  have h2 := mul_bits b.1 (den_bits a)
  rw [Nat.add_comm n m] at h2
  rw [two_pow]
  omega
theorem Bd.crossS (a : Bd m q) (b : Bd n r) : (q.num * r.den - r.num * q.den).natAbs < 2 ^ (m + n + 1) := by
  have h1 := mul_bits a.1 (den_bits b)
  have h2 := mul_bits b.1 (den_bits a)
  rw [Nat.add_comm n m] at h2
  rw [two_pow]
  omega
theorem Bd.tops (a : Bd m q) (b : Bd n r) : (q.num * r.num).natAbs < 2 ^ (m + n) := mul_bits a.1 b.1
theorem lt_big {a k : Nat} (h : a < 2 ^ k) (hk : k ≤ 1000) : a < Big := Nat.lt_of_lt_of_le h (Nat.pow_le_pow_right (by decide) hk)
theorem Bd.up (a : Bd m q) (h : m ≤ n) : Bd n q := ⟨Nat.lt_of_lt_of_le a.1 (Nat.pow_le_pow_right (by decide) h), Nat.lt_of_lt_of_le a.2 (Nat.pow_le_pow_right (by decide) h)⟩
theorem Bd.add (a : Bd m q) (b : Bd n r) : Bd (m + n + 1) (q + r) := by
  rw [← add_is]
  have h1 := num_le (x := q.num * r.den + r.num * q.den) (dd0 q r)
  have h2 := den_le (x := q.num * r.den + r.num * q.den) (dd0 q r)
  have h3 := a.crossA b
  have h4 := a.dens b
  exact ⟨by omega, Nat.lt_of_le_of_lt h2 (Nat.lt_of_lt_of_le h4 (Nat.pow_le_pow_right (by decide) (by omega)))⟩
theorem Bd.sub (a : Bd m q) (b : Bd n r) : Bd (m + n + 1) (q - r) := by
  rw [← sub_is]
  have h1 := num_le (x := q.num * r.den - r.num * q.den) (dd0 q r)
  have h2 := den_le (x := q.num * r.den - r.num * q.den) (dd0 q r)
  have h3 := a.crossS b
  have h4 := a.dens b
  exact ⟨by omega, Nat.lt_of_le_of_lt h2 (Nat.lt_of_lt_of_le h4 (Nat.pow_le_pow_right (by decide) (by omega)))⟩
theorem Bd.mul (a : Bd m q) (b : Bd n r) : Bd (m + n) (q * r) := by
  rw [← mul_is]
  have h1 := num_le (x := q.num * r.num) (dd0 q r)
  have h2 := den_le (x := q.num * r.num) (dd0 q r)
  have h3 := a.tops b
  have h4 := a.dens b
  exact ⟨by omega, by omega⟩
theorem neq_rat (h : q = r) : (!(q.num == r.num && ((q.den : Int) == (r.den : Int) && true))) = false := by
  subst h
  simp
theorem eq_rat (q r : Rat) : (q.num == r.num && ((q.den : Int) == (r.den : Int) && true)) = decide (q = r) := by
  by_cases h : q = r
  · subst h
    simp
  · rw [decide_eq_false h]
    cases e : (q.num == r.num && ((q.den : Int) == (r.den : Int) && true)) with
    | false => rfl
    | true =>
      simp at e
      exact absurd (Rat.ext e.1 (by have := e.2; omega)) h
theorem lt_dec (q r : Rat) : decide (q.num * r.den < r.num * q.den) = decide (q < r) := decide_eq_decide.mpr (Rat.lt_iff q r).symm
theorem bd0 : Bd 1 (0 : Rat) := ⟨by decide, by decide⟩
end
theorem one_of (q r : Rat) : (List.countP (fun z => L2.eqV z (V.bl true)) [V.bl (decide (q < r)), V.bl (decide (r < q)), V.bl (q.num == r.num && ((q.den : Int) == (r.den : Int) && true))]) = 1 := by
  rw [eq_rat]
  by_cases h1 : q < r
  · have h2 : ¬ r < q := fun h => by
      rw [Rat.lt_iff] at h1 h
      omega
    have h3 : ¬ q = r := fun h => by
      subst h
      exact Rat.lt_irrefl h1
    rw [decide_eq_true h1, decide_eq_false h2, decide_eq_false h3]
    rfl
  · by_cases h2 : r < q
    · have h3 : ¬ q = r := fun h => by
        subst h
        exact Rat.lt_irrefl h2
      rw [decide_eq_false h1, decide_eq_true h2, decide_eq_false h3]
      rfl
    · have h3 : q = r := Rat.le_antisymm (Rat.not_lt.mp h2) (Rat.not_lt.mp h1)
      rw [decide_eq_false h1, decide_eq_false h2, decide_eq_true h3]
      rfl
theorem lt_sub (q r : Rat) : decide (q - r < 0) = decide (q < r) := decide_eq_decide.mpr (by
  rw [← Rat.add_lt_add_right (c := r), Rat.sub_add_cancel, Rat.zero_add])
section
variable {P : Program} {w : World} {K : PySem.W.Frag} {mg : Str → Option Value} {base : Heap}
def topS (i : Nat) : Stmt := PySem.Challenge.pw_hostfields_k04_whole_reckoning_agrees.main.body.getD i (.Pass ⟨0, 0, 0, 0⟩)
abbrev s_divisor : Stmt := topS 4
abbrev s_ratio : Stmt := topS 5
abbrev s_plus : Stmt := topS 6
abbrev s_minus : Stmt := topS 7
abbrev s_times : Stmt := topS 8
abbrev s_below : Stmt := topS 9
abbrev s_l_stirred : Stmt := topS 11
abbrev s_l_opened : Stmt := topS 12
abbrev s_l_draw : Stmt := topS 13
abbrev s_l_in_lowest : Stmt := topS 14
abbrev s_l_fraction : Stmt := topS 15
abbrev s_l_agree : Stmt := topS 16
abbrev s_law : Stmt := topS 17
theorem sc_divisor : FnScope ["one", "other"] ["one", "other"] (defScope s_divisor) := ⟨rfl, rfl, rfl, by decide +kernel, rfl, by decide +kernel, by decide +kernel⟩
theorem sc_ratio : FnScope ["top", "bottom", "most"] ["top", "bottom"] (defScope s_ratio) := ⟨rfl, rfl, rfl, by decide +kernel, rfl, by decide +kernel, by decide +kernel⟩
theorem sc_plus : FnScope ["one", "other"] ["one", "other"] (defScope s_plus) := ⟨rfl, rfl, rfl, by decide +kernel, rfl, by decide +kernel, by decide +kernel⟩
theorem sc_minus : FnScope ["one", "other"] ["one", "other"] (defScope s_minus) := ⟨rfl, rfl, rfl, by decide +kernel, rfl, by decide +kernel, by decide +kernel⟩
theorem sc_times : FnScope ["one", "other"] ["one", "other"] (defScope s_times) := ⟨rfl, rfl, rfl, by decide +kernel, rfl, by decide +kernel, by decide +kernel⟩
theorem sc_below : FnScope ["one", "other"] ["one", "other"] (defScope s_below) := ⟨rfl, rfl, rfl, by decide +kernel, rfl, by decide +kernel, by decide +kernel⟩
theorem sc_l_stirred : FnScope ["_law_number", "_law_k", "_law_mixed"] ["_law_number", "_law_k"] (defScope s_l_stirred) := ⟨rfl, rfl, rfl, by decide +kernel, rfl, by decide +kernel, by decide +kernel⟩
theorem sc_l_opened : FnScope ["_law_cell"] ["_law_cell"] (defScope s_l_opened) := ⟨rfl, rfl, rfl, by decide +kernel, rfl, by decide +kernel, by decide +kernel⟩
theorem sc_l_draw : FnScope ["_law_left", "_law_base", "_law_digit", "_law_number", "_law_turn", "_law_mixed"] ["_law_left", "_law_base"] (defScope s_l_draw) := ⟨rfl, rfl, rfl, by decide +kernel, rfl, by decide +kernel, by decide +kernel⟩
theorem sc_l_in_lowest : FnScope ["_law_top", "_law_bottom", "_law_one", "_law_other"] ["_law_top", "_law_bottom"] (defScope s_l_in_lowest) := ⟨rfl, rfl, rfl, by decide +kernel, rfl, by decide +kernel, by decide +kernel⟩
theorem sc_l_fraction : FnScope ["_law_left", "_law_top", "_law_bottom"] ["_law_left"] (defScope s_l_fraction) := ⟨rfl, rfl, rfl, by decide +kernel, rfl, by decide +kernel, by decide +kernel⟩
theorem sc_l_agree : FnScope ["_law_a", "_law_b", "_law_c", "_law_one"] ["_law_a", "_law_b", "_law_c"] (defScope s_l_agree) := ⟨rfl, rfl, rfl, by decide +kernel, rfl, by decide +kernel, by decide +kernel⟩
theorem sc_law : FnScope ["_law_script", "_law_cell", "_law_left", "_law_some", "_law_k"] ["_law_script"] (defScope s_law) := ⟨rfl, rfl, rfl, by decide +kernel, rfl, by decide +kernel, by decide +kernel⟩
structure Txt (K : PySem.W.Frag) (mg : Str → Option Value) where
  a_divisor : Addr
  d_divisor : FuncData
  F_divisor : Fun K "divisor" "divisor" s_divisor a_divisor d_divisor
  g_divisor : mg "divisor" = some (.ref a_divisor)
  b_divisor : Binds K d_divisor ["one", "other"] []
  a_ratio : Addr
  d_ratio : FuncData
  F_ratio : Fun K "ratio" "ratio" s_ratio a_ratio d_ratio
  g_ratio : mg "ratio" = some (.ref a_ratio)
  b_ratio : Binds K d_ratio ["top", "bottom"] []
  a_plus : Addr
  d_plus : FuncData
  F_plus : Fun K "plus" "plus" s_plus a_plus d_plus
  g_plus : mg "plus" = some (.ref a_plus)
  b_plus : Binds K d_plus ["one", "other"] []
  a_minus : Addr
  d_minus : FuncData
  F_minus : Fun K "minus" "minus" s_minus a_minus d_minus
  g_minus : mg "minus" = some (.ref a_minus)
  b_minus : Binds K d_minus ["one", "other"] []
  a_times : Addr
  d_times : FuncData
  F_times : Fun K "times" "times" s_times a_times d_times
  g_times : mg "times" = some (.ref a_times)
  b_times : Binds K d_times ["one", "other"] []
  a_below : Addr
  d_below : FuncData
  F_below : Fun K "below" "below" s_below a_below d_below
  g_below : mg "below" = some (.ref a_below)
  b_below : Binds K d_below ["one", "other"] []
  a_l_stirred : Addr
  d_l_stirred : FuncData
  F_l_stirred : Fun K "_law_stirred" "_law_stirred" s_l_stirred a_l_stirred d_l_stirred
  g_l_stirred : mg "_law_stirred" = some (.ref a_l_stirred)
  b_l_stirred : Binds K d_l_stirred ["_law_number", "_law_k"] []
  a_l_opened : Addr
  d_l_opened : FuncData
  F_l_opened : Fun K "_law_opened" "_law_opened" s_l_opened a_l_opened d_l_opened
  g_l_opened : mg "_law_opened" = some (.ref a_l_opened)
  b_l_opened : Binds K d_l_opened ["_law_cell"] []
  a_l_draw : Addr
  d_l_draw : FuncData
  F_l_draw : Fun K "_law_draw" "_law_draw" s_l_draw a_l_draw d_l_draw
  g_l_draw : mg "_law_draw" = some (.ref a_l_draw)
  b_l_draw : Binds K d_l_draw ["_law_left", "_law_base"] []
  a_l_in_lowest : Addr
  d_l_in_lowest : FuncData
  F_l_in_lowest : Fun K "_law_in_lowest" "_law_in_lowest" s_l_in_lowest a_l_in_lowest d_l_in_lowest
  g_l_in_lowest : mg "_law_in_lowest" = some (.ref a_l_in_lowest)
  b_l_in_lowest : Binds K d_l_in_lowest ["_law_top", "_law_bottom"] []
  a_l_fraction : Addr
  d_l_fraction : FuncData
  F_l_fraction : Fun K "_law_fraction" "_law_fraction" s_l_fraction a_l_fraction d_l_fraction
  g_l_fraction : mg "_law_fraction" = some (.ref a_l_fraction)
  b_l_fraction : Binds K d_l_fraction ["_law_left"] []
  a_l_agree : Addr
  d_l_agree : FuncData
  F_l_agree : Fun K "_law_agree" "_law_agree" s_l_agree a_l_agree d_l_agree
  g_l_agree : mg "_law_agree" = some (.ref a_l_agree)
  b_l_agree : Binds K d_l_agree ["_law_a", "_law_b", "_law_c"] []
  a_law : Addr
  d_law : FuncData
  F_law : Fun K "law" "law" s_law a_law d_law
  g_law : mg "law" = some (.ref a_law)
  b_law : Binds K d_law ["_law_script"] []
  z_abs : mg "abs" = none
  z_int : mg "int" = none
  z_range : mg "range" = none
section
variable {K : PySem.W.Frag} {mg : Str → Option Value} (T : Txt K mg)
include T
end
def Left (n m : Int) : Prop := m = 1 ∨ (m = 0 ∧ 0 ≤ n ∧ n < 2147483629)
def Frac (u v : Int) : Prop := u.natAbs < 2 ^ 100 ∧ 0 < v ∧ v < 2 ^ 100
theorem frac_mul {u1 v1 u2 v2 : Int} (h1 : Frac u1 v1) (h2 : Frac u2 v2) : CMulA u1 v2 := mulW (a := 100) (b := 100) h1.1 (by have := h2.2; omega) (by decide) (by decide) (by decide)
theorem frac_mulR {u1 v1 u2 v2 : Int} (h1 : Frac u1 v1) (h2 : Frac u2 v2) : CMulA v1 v2 := mulW (a := 100) (b := 100) (by have := h1.2; omega) (by have := h2.2; omega) (by decide) (by decide) (by decide)
theorem frac_mulT {u1 v1 u2 v2 : Int} (h1 : Frac u1 v1) (h2 : Frac u2 v2) : CMulA u1 u2 := mulW (a := 100) (b := 100) h1.1 h2.1 (by decide) (by decide) (by decide)
def IsF (H : Hp) (r : Addr) : Prop := ∃ u v : Int, H r = some (.tup [.int u, .int v]) ∧ Frac u v

def sp_l_stirred (K : PySem.W.Frag) : Sp := fun vs H Q E => ∃ (n c : Int), vs = [.int n, .int c] ∧ (0 ≤ n ∧ n < 2147483629) ∧ (0 ≤ c ∧ c ≤ 1000000) ∧ ∀ (r : Int), (0 ≤ r ∧ r < 2147483587) → Q (.int r) H
theorem use_l_stirred {K : PySem.W.Frag} {H : Hp} {Q : VK} {E : XK} {n c : Int} (p0 : 0 ≤ n ∧ n < 2147483629) (p1 : 0 ≤ c ∧ c ≤ 1000000) (k : ∀ (r : Int), (0 ≤ r ∧ r < 2147483587) → Q (.int r) H) : sp_l_stirred K [.int n, .int c] H Q E := ⟨n, c, rfl, p0, p1, k⟩
theorem len_l_stirred {K : PySem.W.Frag} (vs : List V) (H : Hp) (Q : VK) (E : XK) (h : sp_l_stirred K vs H Q E) : vs.length = ["_law_number", "_law_k"].length := by
  obtain ⟨_, _, rfl, _⟩ := h
  rfl
local macro_rules | `(tactic| walk_at "g_call") => `(tactic| ((with_reducible refine' use_l_stirred ?c0 ?c1 ?_); (case c0 => walk_at "g_pre"); (case c1 => walk_at "g_pre"); intros))
theorem ok_l_stirred (T : Txt K mg) : FnOk P w K mg base CX0 1 T.a_l_stirred T.d_l_stirred ["_law_number", "_law_k"] (sp_l_stirred K) := by
  refine T.F_l_stirred.ok sc_l_stirred len_l_stirred (fun cdv A outer s H vs Q E hr h => ?_)
  refine ⟨_, (pss_cons (ps_set (i := 2) sc_l_stirred.nd rfl (Or.inl rfl) (pe_op op_mod (pe_op op_mulA (pe_op op_add (pe_op op_add (pe_op op_mulA (pv 0) (pv 0)) (pe_op op_mulA (pv 1) (pv 0))) (pe_op op_mulA (pe_op op_mulA pe_int (pv 1)) (pv 1))) pe_int) pe_int))
      (pss_one (ps_ret (pe_op op_mod (pe_op op_mulA (pv 2) (pv 2)) pe_int)))), ?_⟩
  try dsimp only [L2.cxOf, L2.Cx.nox, L2.Cx.wish, List.map_cons, List.map_nil]
  obtain ⟨n, c, rfl, p0, p1, k⟩ := h
  refine start_to (σ := [some _, some _, none]) rfl ?_
  walk_at "go"
  refine k _ ?_
  omega
def sp_l_opened (K : PySem.W.Frag) : Sp := fun vs H Q E => ∃ (c : Int), vs = [.int c] ∧ ∀ (n m : Int) (p : Addr), (Left n m) → (H p = none) → Q (.ref p) (upd H p (.lst [.int n, .int m, .int 0]))
theorem use_l_opened {K : PySem.W.Frag} {H : Hp} {Q : VK} {E : XK} {c : Int}  (k : ∀ (n m : Int) (p : Addr), (Left n m) → (H p = none) → Q (.ref p) (upd H p (.lst [.int n, .int m, .int 0]))) : sp_l_opened K [.int c] H Q E := ⟨c, rfl, k⟩
theorem len_l_opened {K : PySem.W.Frag} (vs : List V) (H : Hp) (Q : VK) (E : XK) (h : sp_l_opened K vs H Q E) : vs.length = ["_law_cell"].length := by
  obtain ⟨_, rfl, _⟩ := h
  rfl
local macro_rules | `(tactic| walk_at "g_call") => `(tactic| ((with_reducible refine' use_l_opened ?_); intros))
theorem ok_l_opened (T : Txt K mg) : FnOk P w K mg base CX0 1 T.a_l_opened T.d_l_opened ["_law_cell"] (sp_l_opened K) := by
  refine T.F_l_opened.ok sc_l_opened len_l_opened (fun cdv A outer s H vs Q E hr h => ?_)
  refine ⟨_, (pss_cons (ps_if (pt_cmpR op_lt (pv 0) (pe_op op_pow pe_int pe_int) (nomark _)) (pss_one (ps_ret (pe_lst (pa_cons (pe_op op_mod (pv 0) pe_int) (pa_cons pe_int (pa_cons pe_int pa_nil)))))) pss_nil)
      (pss_one (ps_ret (pe_lst (pa_cons (pe_op op_sub (pv 0) (pe_op op_pow pe_int pe_int)) (pa_cons pe_int (pa_cons pe_int pa_nil))))))), ?_⟩
  try dsimp only [L2.cxOf, L2.Cx.nox, L2.Cx.wish, List.map_cons, List.map_nil]
  obtain ⟨c, rfl, k⟩ := h
  refine start_to (σ := [some _]) rfl ?_
  walk_at "go"
  refine ite_d (fun c1 => ?_) (fun c1 => ?_)
  · walk_at "go"
    exact k _ _ _ (.inr ⟨rfl, by omega⟩) (by assumption)
  · walk_at "go"
    exact k _ _ _ (.inl rfl) (by assumption)

def sp_l_draw (K : PySem.W.Frag) : Sp := fun vs H Q E => ∃ (a : Addr) (n m c b : Int), vs = [.ref a, .int b] ∧ (H a = some (.lst [.int n, .int m, .int c])) ∧ (Left n m) ∧ (0 ≤ c ∧ c ≤ 100000) ∧ (0 < b ∧ b < 2 ^ 200) ∧ ∀ (d n' c' : Int) (H' : Hp), (0 ≤ d ∧ d < b) → (Left n' m) → (0 ≤ c' ∧ c' ≤ c + 4) → (But a H H') → (H' a = some (.lst [.int n', .int m, .int c'])) → Q (.int d) H'
theorem use_l_draw {K : PySem.W.Frag} {H : Hp} {Q : VK} {E : XK} {a : Addr} {n m c b : Int} (p0 : H a = some (.lst [.int n, .int m, .int c])) (p1 : Left n m) (p2 : 0 ≤ c ∧ c ≤ 100000) (p3 : 0 < b ∧ b < 2 ^ 200) (k : ∀ (d n' c' : Int) (H' : Hp), (0 ≤ d ∧ d < b) → (Left n' m) → (0 ≤ c' ∧ c' ≤ c + 4) → (But a H H') → (H' a = some (.lst [.int n', .int m, .int c'])) → Q (.int d) H') : sp_l_draw K [.ref a, .int b] H Q E := ⟨a, n, m, c, b, rfl, p0, p1, p2, p3, k⟩
theorem len_l_draw {K : PySem.W.Frag} (vs : List V) (H : Hp) (Q : VK) (E : XK) (h : sp_l_draw K vs H Q E) : vs.length = ["_law_left", "_law_base"].length := by
  obtain ⟨_, _, _, _, _, rfl, _⟩ := h
  rfl
local macro_rules | `(tactic| walk_at "g_call") => `(tactic| ((with_reducible refine' use_l_draw ?c0 ?c1 ?c2 ?c3 ?_); (case c0 => walk_at "g_pre"); (case c1 => walk_at "g_pre"); (case c2 => walk_at "g_pre"); (case c3 => walk_at "g_pre"); intros))
theorem ok_l_draw (T : Txt K mg) : FnOk P w K mg base CX0 2 T.a_l_draw T.d_l_draw ["_law_left", "_law_base"] (sp_l_draw K) := by
  have G_l_stirred := ok_l_stirred (P := P) (w := w) (base := base) T
  refine T.F_l_draw.ok sc_l_draw len_l_draw (fun cdv A outer s H vs Q E hr h => ?_)
  refine ⟨_, (pss_cons (ps_if (pt_cmpR op_eq (pe_ix (ix_listK K rfl) (pv 0) pe_int (fun _ _ => rfl)) pe_int (nomark _)) (pss_cons (ps_set (i := 2) sc_l_draw.nd rfl (Or.inl rfl) (pe_op op_mod (pe_ix (ix_listK K rfl) (pv 0) pe_int (fun _ _ => rfl)) (pv 1)))
      (pss_cons (ps_asg (pe_op op_fdivA (pe_ix (ix_listK K rfl) (pv 0) pe_int (fun _ _ => rfl)) (pv 1)) (pg_sub (pv 0) pe_int set_list))
      (pss_one (ps_ret (pv 2))))) pss_nil)
      (pss_cons (ps_set (i := 3) sc_l_draw.nd rfl (Or.inl rfl) pe_int)
      (pss_cons (ps_for PassesOwn.never rfl (pi_range1 rfl T.z_range (pa_cons (pe_ix (ix_listK K rfl) (pe_lst (pa_cons pe_int (pa_cons pe_int pa_nil))) (pe_callTy call_int1 (by rfl) T.z_int (by decide +kernel) (pa_cons (pe_cmpR op_gt (pv 1) (pe_op op_pow pe_int pe_int) (nomark _)) pa_nil)) (fun _ _ => rfl)) pa_nil)) (pg_name (i := 4) sc_l_draw.nd rfl (Or.inl rfl)) (pss_cons (ps_asg (pe_op op_add (pe_ix (ix_listK K rfl) (pv 0) pe_int (fun _ _ => rfl)) pe_int) (pg_sub (pv 0) pe_int set_list))
      (pss_cons (ps_set (i := 5) sc_l_draw.nd rfl (Or.inl rfl) (pe_call G_l_stirred (hr.mono (by decide)) (by rfl) T.g_l_stirred T.F_l_stirred.kp T.b_l_stirred .nil pass0 (pa_cons (pe_ix (ix_listK K rfl) (pv 0) pe_int (fun _ _ => rfl)) (pa_cons (pe_ix (ix_listK K rfl) (pv 0) pe_int (fun _ _ => rfl)) pa_nil))))
      (pss_one (ps_set (i := 3) sc_l_draw.nd rfl (Or.inl rfl) (pe_op op_add (pe_op op_mulA (pv 3) pe_int) (pe_op op_mod (pe_op op_mulA (pv 5) (pe_op op_add (pv 5) pe_int)) pe_int)))))))
      (pss_one (ps_ret (pe_op op_mod (pv 3) (pv 1))))))), ?_⟩
  try dsimp only [L2.cxOf, L2.Cx.nox, L2.Cx.wish, List.map_cons, List.map_nil]
  obtain ⟨a, n, m, c, b, rfl, p0, p1, p2, p3, k⟩ := h
  refine start_to (σ := [some _, some _, none, none, none, none]) rfl ?_
  walk_at "go"
  refine ite_d (fun c1 => ?_) (fun c1 => ?_)
  · walk_at "go"
    exact k _ _ _ _ ⟨Int.emod_nonneg _ (by omega), Int.emod_lt_of_pos _ (by omega)⟩ (.inl c1) (by omega) (But.upd (But.refl _ _)) upd_same
  · walk_at "go"
    rename_i p np t ht
    have hap : a ≠ p := ne_of_none p0 np
    rcases p1 with z | ⟨z, hn⟩
    · exact absurd z c1
    refine forR (fun i σ H1 => ∃ (x c' : Int) (y1 y2 y3 : Option V), σ = [some (.ref a), some (.int b), y1, some (.int x), y2, y3] ∧ c' = c + i ∧ But a H H1 ∧ H1 a = some (.lst [.int n, .int m, .int c'])) ?_ ?_ ?_
    · exact ⟨0, c, none, none, none, rfl, by omega, But.new (But.refl _ _) np, by rw [upd_ne hap]; exact p0⟩
    · rintro σ1 H1 ⟨x, c', y1, y2, y3, rfl, hc, hb, ha⟩
      walk_at "go"
      exact k _ _ _ _ ⟨Int.emod_nonneg _ (by omega), Int.emod_lt_of_pos _ (by omega)⟩ (.inr ⟨z, hn⟩) (by omega) hb ha
    · rintro i σ1 H1 hi ⟨x, c', y1, y2, y3, rfl, hc, hb, ha⟩
      walk_at "go"
      exact ⟨_, c' + 1, _, _, _, rfl, by omega, But.upd hb, upd_same⟩

def sp_l_in_lowest (K : PySem.W.Frag) : Sp := fun vs H Q E => ∃ (x y : Int), vs = [.int x, .int y] ∧ (y ≠ 0) ∧ (x.natAbs < 2 ^ 400 ∧ y.natAbs < 2 ^ 400) ∧ ∀ (p : Addr), (H p = none) → Q (.ref p) (upd H p (.tup [.int (ltop x y), .int (lbot x y)]))
theorem use_l_in_lowest {K : PySem.W.Frag} {H : Hp} {Q : VK} {E : XK} {x y : Int} (p0 : y ≠ 0) (p1 : x.natAbs < 2 ^ 400 ∧ y.natAbs < 2 ^ 400) (k : ∀ (p : Addr), (H p = none) → Q (.ref p) (upd H p (.tup [.int (ltop x y), .int (lbot x y)]))) : sp_l_in_lowest K [.int x, .int y] H Q E := ⟨x, y, rfl, p0, p1, k⟩
theorem len_l_in_lowest {K : PySem.W.Frag} (vs : List V) (H : Hp) (Q : VK) (E : XK) (h : sp_l_in_lowest K vs H Q E) : vs.length = ["_law_top", "_law_bottom"].length := by
  obtain ⟨_, _, rfl, _⟩ := h
  rfl
local macro_rules | `(tactic| walk_at "g_call") => `(tactic| ((with_reducible refine' use_l_in_lowest ?c0 ?c1 ?_); (case c0 => walk_at "g_pre"); (case c1 => walk_at "g_pre"); intros))
theorem ok_l_in_lowest (T : Txt K mg) : FnOk P w K mg base CX0 1 T.a_l_in_lowest T.d_l_in_lowest ["_law_top", "_law_bottom"] (sp_l_in_lowest K) := by
  refine T.F_l_in_lowest.ok sc_l_in_lowest len_l_in_lowest (fun cdv A outer s H vs Q E hr h => ?_)
  refine ⟨_, (pss_cons (ps_par (i := 2) (j := 3) rfl sc_l_in_lowest.nd rfl rfl (by decide) rfl rfl (pa_cons (pe_callB call_abs (by rfl) T.z_abs (by decide +kernel) (pa_cons (pv 0) pa_nil)) (pa_cons (pe_callB call_abs (by rfl) T.z_abs (by decide +kernel) (pa_cons (pv 1) pa_nil)) pa_nil)) (by rfl))
      (pss_cons (ps_while PassesOwn.never (pt_cmpR op_gt (pv 3) pe_int (nomark _)) (pss_one (ps_par (i := 2) (j := 3) rfl sc_l_in_lowest.nd rfl rfl (by decide) rfl rfl (pa_cons (pv 3) (pa_cons (pe_op op_mod (pv 2) (pv 3)) pa_nil)) (by rfl))))
      (pss_cons (ps_if (pt_cmpR op_lt (pv 1) pe_int (nomark _)) (pss_one (ps_set (i := 2) sc_l_in_lowest.nd rfl (Or.inl rfl) (pe_op op_sub pe_int (pv 2)))) pss_nil)
      (pss_one (ps_ret (pe_tup (pa_cons (pe_op op_fdivA (pv 0) (pv 2)) (pa_cons (pe_op op_fdivA (pv 1) (pv 2)) pa_nil)))))))), ?_⟩
  try dsimp only [L2.cxOf, L2.Cx.nox, L2.Cx.wish, List.map_cons, List.map_nil]
  obtain ⟨x, y, rfl, p0, ⟨p1, p2⟩, k⟩ := h
  refine start_to (σ := [some _, some _, none, none]) rfl ?_
  walk_at "go"
  rw [abs_if, abs_if]
  refine whileW (fun m σ H' => ∃ u v : Int, σ = [some (.int x), some (.int y), some (.int u), some (.int v)] ∧ 0 ≤ u ∧ 0 ≤ v ∧ Int.gcd u v = Int.gcd x y ∧ m = v.toNat ∧ H' = H) _ ⟨_, _, rfl, by omega, by omega, gcd_abs, rfl, rfl⟩ ?_
  rintro m σ1 H1 ⟨u, v, rfl, hu, hv, hg, rfl, rfl⟩
  walk_at "go"
  refine ite_d (fun c1 => turnW ?_) (fun c1 => ?_)
  · walk_at "go"
    refine ⟨(u % v).toNat, ?_, _, _, rfl, hv, Int.emod_nonneg _ (by omega), (gcd_step hu c1).trans hg, rfl, rfl⟩
    have := Int.emod_lt_of_pos u c1
    omega
  · obtain rfl : v = 0 := by omega
    have eu : u = (Int.gcd x y : Int) := by
      rw [← hg]
      exact (gcd_zero hu).symm
    have hne := sgcd_ne (x := x) p0
    have hle := sgcd_le (x := x) p0
    have hl : (sgcd x y).natAbs.log2 < 9000 := log_lt (b := 400) (by omega) (by decide) (by decide)
    walk_at "go"
    refine ite_d (fun c2 => ?_) (fun c2 => ?_)
    · have es : 0 - u = sgcd x y := by
        unfold sgcd
        rw [if_pos c2, eu]
      walk_at "go"
      rw [es]
      walk_at "go"
      exact k _ (by assumption)
    · have es : u = sgcd x y := by
        unfold sgcd
        rw [if_neg c2, eu]
      walk_at "go"
      rw [es]
      walk_at "go"
      exact k _ (by assumption)

def sp_l_fraction (K : PySem.W.Frag) : Sp := fun vs H Q E => ∃ (a : Addr) (n m c : Int), vs = [.ref a] ∧ (H a = some (.lst [.int n, .int m, .int c])) ∧ (Left n m) ∧ (0 ≤ c ∧ c ≤ 90000) ∧ ∀ (n' c' : Int) (q : Rat) (p : Addr) (H' : Hp), (H' a = some (.lst [.int n', .int m, .int c'])) → (H' p = some (.tup [.int q.num, .int (q.den : Int)])) → (Left n' m) → (0 ≤ c' ∧ c' ≤ c + 50) → (But a H H') → (H p = none) → (Bd 100 q) → Q (.ref p) H'
theorem use_l_fraction {K : PySem.W.Frag} {H : Hp} {Q : VK} {E : XK} {a : Addr} {n m c : Int} (p0 : H a = some (.lst [.int n, .int m, .int c])) (p1 : Left n m) (p2 : 0 ≤ c ∧ c ≤ 90000) (k : ∀ (n' c' : Int) (q : Rat) (p : Addr) (H' : Hp), (H' a = some (.lst [.int n', .int m, .int c'])) → (H' p = some (.tup [.int q.num, .int (q.den : Int)])) → (Left n' m) → (0 ≤ c' ∧ c' ≤ c + 50) → (But a H H') → (H p = none) → (Bd 100 q) → Q (.ref p) H') : sp_l_fraction K [.ref a] H Q E := ⟨a, n, m, c, rfl, p0, p1, p2, k⟩
theorem len_l_fraction {K : PySem.W.Frag} (vs : List V) (H : Hp) (Q : VK) (E : XK) (h : sp_l_fraction K vs H Q E) : vs.length = ["_law_left"].length := by
  obtain ⟨_, _, _, _, rfl, _⟩ := h
  rfl
local macro_rules | `(tactic| walk_at "g_call") => `(tactic| ((with_reducible refine' use_l_fraction ?c0 ?c1 ?c2 ?_); (case c0 => walk_at "g_pre"); (case c1 => walk_at "g_pre"); (case c2 => walk_at "g_pre"); intros))
theorem ok_l_fraction (T : Txt K mg) : FnOk P w K mg base CX0 3 T.a_l_fraction T.d_l_fraction ["_law_left"] (sp_l_fraction K) := by
  have G_l_in_lowest := ok_l_in_lowest (P := P) (w := w) (base := base) T
  have G_l_draw := ok_l_draw (P := P) (w := w) (base := base) T
  refine T.F_l_fraction.ok sc_l_fraction len_l_fraction (fun cdv A outer s H vs Q E hr h => ?_)
  refine ⟨_, (pss_cons (ps_set (i := 1) sc_l_fraction.nd rfl (Or.inl rfl) (pe_ix (ix_listK K rfl) (pe_lst (pa_cons (pe_op op_sub (pe_call G_l_draw (hr.mono (by decide)) (by rfl) T.g_l_draw T.F_l_draw.kp T.b_l_draw .nil pass0 (pa_cons (pv 0) (pa_cons pe_int pa_nil))) pe_int) (pa_cons (pe_op op_sub (pe_call G_l_draw (hr.mono (by decide)) (by rfl) T.g_l_draw T.F_l_draw.kp T.b_l_draw .nil pass0 (pa_cons (pv 0) (pa_cons (pe_op op_mulA pe_int (pe_op op_pow pe_int pe_int)) pa_nil))) (pe_op op_pow pe_int pe_int)) (pa_cons pe_int pa_nil)))) (pe_op op_fdiv (pe_call G_l_draw (hr.mono (by decide)) (by rfl) T.g_l_draw T.F_l_draw.kp T.b_l_draw .nil pass0 (pa_cons (pv 0) (pa_cons pe_int pa_nil))) pe_int) (fun _ _ => rfl)))
      (pss_cons (ps_set (i := 2) sc_l_fraction.nd rfl (Or.inl rfl) (pe_ix (ix_listK K rfl) (pe_lst (pa_cons (pe_op op_add pe_int (pe_call G_l_draw (hr.mono (by decide)) (by rfl) T.g_l_draw T.F_l_draw.kp T.b_l_draw .nil pass0 (pa_cons (pv 0) (pa_cons pe_int pa_nil)))) (pa_cons (pe_op op_add pe_int (pe_call G_l_draw (hr.mono (by decide)) (by rfl) T.g_l_draw T.F_l_draw.kp T.b_l_draw .nil pass0 (pa_cons (pv 0) (pa_cons (pe_op op_pow pe_int pe_int) pa_nil)))) (pa_cons pe_int pa_nil)))) (pe_op op_fdiv (pe_call G_l_draw (hr.mono (by decide)) (by rfl) T.g_l_draw T.F_l_draw.kp T.b_l_draw .nil pass0 (pa_cons (pv 0) (pa_cons pe_int pa_nil))) pe_int) (fun _ _ => rfl)))
      (pss_one (ps_ret (pe_call G_l_in_lowest (hr.mono (by decide)) (by rfl) T.g_l_in_lowest T.F_l_in_lowest.kp T.b_l_in_lowest .nil pass0 (pa_cons (pv 1) (pa_cons (pv 2) pa_nil))))))), ?_⟩
  try dsimp only [L2.cxOf, L2.Cx.nox, L2.Cx.wish, List.map_cons, List.map_nil]
  obtain ⟨a, n, m, c, rfl, p0, p1, p2, k⟩ := h
  refine start_to (σ := [some _, none, none]) rfl ?_
  walk_at "go"
  rename_i u hu d1 n1 c1 H1 b1 b2 b3 b4 b5 d2 n2 c2 H2 e1 e2 e3 e4 e5 p1 np1 d3 n3 c3 H3 f1 f2 f3 f4 f5 v hv p np
  have hv0 : v ≠ 0 := by omega
  have h1 := num_le (x := u) hv0
  have h2 := den_le (x := u) hv0
  have h3 := low_rat (x := u) hv0
  refine k _ _ (Rat.divInt u v) _ _ (by walk_at "g_lk") (by rw [← h3.1, ← h3.2]; exact upd_same) f2 (by omega) (by walk_at "g_but") (by walk_at "g_free") ⟨by omega, by omega⟩
def sp_divisor (K : PySem.W.Frag) : Sp := fun vs H Q E => ∃ (x y : Int), vs = [.int x, .int y] ∧ Q (.int (Int.gcd x y : Int)) H
theorem use_divisor {K : PySem.W.Frag} {H : Hp} {Q : VK} {E : XK} {x y : Int}  (k : Q (.int (Int.gcd x y : Int)) H) : sp_divisor K [.int x, .int y] H Q E := ⟨x, y, rfl, k⟩
theorem len_divisor {K : PySem.W.Frag} (vs : List V) (H : Hp) (Q : VK) (E : XK) (h : sp_divisor K vs H Q E) : vs.length = ["one", "other"].length := by
  obtain ⟨_, _, rfl, _⟩ := h
  rfl
local macro_rules | `(tactic| walk_at "g_call") => `(tactic| ((with_reducible refine' use_divisor ?_); intros))
theorem ok_divisor (T : Txt K mg) : FnOk P w K mg base CX0 1 T.a_divisor T.d_divisor ["one", "other"] (sp_divisor K) := by
  refine T.F_divisor.ok sc_divisor len_divisor (fun cdv A outer s H vs Q E hr h => ?_)
  refine ⟨_, (pss_cons (ps_par (i := 0) (j := 1) rfl sc_divisor.nd rfl rfl (by decide) rfl rfl (pa_cons (pe_callB call_abs (by rfl) T.z_abs (by decide +kernel) (pa_cons (pv 0) pa_nil)) (pa_cons (pe_callB call_abs (by rfl) T.z_abs (by decide +kernel) (pa_cons (pv 1) pa_nil)) pa_nil)) (by rfl))
      (pss_cons (ps_while PassesOwn.never (pt_cmpR op_gt (pv 1) pe_int (nomark _)) (pss_one (ps_par (i := 0) (j := 1) rfl sc_divisor.nd rfl rfl (by decide) rfl rfl (pa_cons (pv 1) (pa_cons (pe_op op_mod (pv 0) (pv 1)) pa_nil)) (by rfl))))
      (pss_one (ps_ret (pv 0))))), ?_⟩
  try dsimp only [L2.cxOf, L2.Cx.nox, L2.Cx.wish, List.map_cons, List.map_nil]
  obtain ⟨x, y, rfl, k⟩ := h
  refine start_to (σ := [some _, some _]) rfl ?_
  walk_at "go"
  rw [abs_if, abs_if]
  refine whileW (fun m σ H' => ∃ u v : Int, σ = [some (.int u), some (.int v)] ∧ 0 ≤ u ∧ 0 ≤ v ∧ Int.gcd u v = Int.gcd x y ∧ m = v.toNat ∧ H' = H) _ ⟨_, _, rfl, by omega, by omega, gcd_abs, rfl, rfl⟩ ?_
  rintro m σ1 H1 ⟨u, v, rfl, hu, hv, hg, rfl, rfl⟩
  walk_at "go"
  refine ite_d (fun c1 => turnW ?_) (fun c1 => ?_)
  · walk_at "go"
    refine ⟨(u % v).toNat, ?_, _, _, rfl, hv, Int.emod_nonneg _ (by omega), (gcd_step hu c1).trans hg, rfl, rfl⟩
    have := Int.emod_lt_of_pos u c1
    omega
  · obtain rfl : v = 0 := by omega
    have eu : u = (Int.gcd x y : Int) := by
      rw [← hg]
      exact (gcd_zero hu).symm
    walk_at "go"
    rw [eu]
    exact k
def sp_ratio (K : PySem.W.Frag) : Sp := fun vs H Q E => ∃ (x y : Int), vs = [.int x, .int y] ∧ (y ≠ 0) ∧ (x.natAbs < Big ∧ y.natAbs < Big) ∧ ∀ (p : Addr), (H p = none) → Q (.ref p) (upd H p (.tup [.int (Rat.divInt x y).num, .int ((Rat.divInt x y).den : Int)]))
theorem use_ratio {K : PySem.W.Frag} {H : Hp} {Q : VK} {E : XK} {x y : Int} (p0 : y ≠ 0) (p1 : x.natAbs < Big ∧ y.natAbs < Big) (k : ∀ (p : Addr), (H p = none) → Q (.ref p) (upd H p (.tup [.int (Rat.divInt x y).num, .int ((Rat.divInt x y).den : Int)]))) : sp_ratio K [.int x, .int y] H Q E := ⟨x, y, rfl, p0, p1, k⟩
theorem len_ratio {K : PySem.W.Frag} (vs : List V) (H : Hp) (Q : VK) (E : XK) (h : sp_ratio K vs H Q E) : vs.length = ["top", "bottom"].length := by
  obtain ⟨_, _, rfl, _⟩ := h
  rfl
local macro_rules | `(tactic| walk_at "g_call") => `(tactic| ((with_reducible refine' use_ratio ?c0 ?c1 ?_); (case c0 => walk_at "g_pre"); (case c1 => walk_at "g_pre"); intros))
theorem ok_ratio (T : Txt K mg) : FnOk P w K mg base CX0 2 T.a_ratio T.d_ratio ["top", "bottom"] (sp_ratio K) := by
  have G_divisor := ok_divisor (P := P) (w := w) (base := base) T
  refine T.F_ratio.ok sc_ratio len_ratio (fun cdv A outer s H vs Q E hr h => ?_)
  refine ⟨_, (pss_cons (ps_if (pt_cmpR op_eq (pv 1) pe_int (nomark _)) (pss_one ps_never) pss_nil)
      (pss_cons (ps_set (i := 2) sc_ratio.nd rfl (Or.inl rfl) (pe_call G_divisor (hr.mono (by decide)) (by rfl) T.g_divisor T.F_divisor.kp T.b_divisor .nil pass0 (pa_cons (pv 0) (pa_cons (pv 1) pa_nil))))
      (pss_cons (ps_if (pt_cmpR op_lt (pv 1) pe_int (nomark _)) (pss_one (ps_set (i := 2) sc_ratio.nd rfl (Or.inl rfl) (pe_op op_sub pe_int (pv 2)))) pss_nil)
      (pss_one (ps_ret (pe_tup (pa_cons (pe_op op_fdivA (pv 0) (pv 2)) (pa_cons (pe_op op_fdivA (pv 1) (pv 2)) pa_nil)))))))), ?_⟩
  try dsimp only [L2.cxOf, L2.Cx.nox, L2.Cx.wish, List.map_cons, List.map_nil]
  obtain ⟨x, y, rfl, p0, ⟨p1, p2⟩, k⟩ := h
  rw [← (low_rat (x := x) p0).1, ← (low_rat (x := x) p0).2] at k
  refine start_to (σ := [some _, some _, none]) rfl ?_
  walk_at "go"
  refine ite_d (fun c1 => absurd c1 p0) (fun c1 => ?_)
  walk_at "go"
  have hne := sgcd_ne (x := x) p0
  have hle := sgcd_le (x := x) p0
  have hl : (sgcd x y).natAbs.log2 < 9000 := log_lt (b := 1000) (Nat.lt_of_le_of_lt hle p2) (by decide) (by decide)
  refine ite_d (fun c2 => ?_) (fun c2 => ?_)
  · have es : 0 - (Int.gcd x y : Int) = sgcd x y := by
      unfold sgcd
      rw [if_pos c2]
    walk_at "go"
    rw [es]
    walk_at "go"
    exact k _ (by assumption)
  · have es : (Int.gcd x y : Int) = sgcd x y := by
      unfold sgcd
      rw [if_neg c2]
    walk_at "go"
    rw [es]
    walk_at "go"
    exact k _ (by assumption)
def sp_plus (K : PySem.W.Frag) : Sp := fun vs H Q E => ∃ (a b : Addr) (q r : Rat) (m n : Nat), vs = [.ref a, .ref b] ∧ (SqT K H a [.int q.num, .int (q.den : Int)]) ∧ (SqT K H b [.int r.num, .int (r.den : Int)]) ∧ (Bd m q) ∧ (Bd n r) ∧ (1 ≤ m ∧ 1 ≤ n ∧ m + n ≤ 900) ∧ ∀ (p : Addr), (H p = none) → Q (.ref p) (upd H p (.tup [.int (q + r).num, .int ((q + r).den : Int)]))
theorem use_plus {K : PySem.W.Frag} {H : Hp} {Q : VK} {E : XK} {a b : Addr} {q r : Rat} {m n : Nat} (p0 : SqT K H a [.int q.num, .int (q.den : Int)]) (p1 : SqT K H b [.int r.num, .int (r.den : Int)]) (p2 : Bd m q) (p3 : Bd n r) (p4 : 1 ≤ m ∧ 1 ≤ n ∧ m + n ≤ 900) (k : ∀ (p : Addr), (H p = none) → Q (.ref p) (upd H p (.tup [.int (q + r).num, .int ((q + r).den : Int)]))) : sp_plus K [.ref a, .ref b] H Q E := ⟨a, b, q, r, m, n, rfl, p0, p1, p2, p3, p4, k⟩
theorem len_plus {K : PySem.W.Frag} (vs : List V) (H : Hp) (Q : VK) (E : XK) (h : sp_plus K vs H Q E) : vs.length = ["one", "other"].length := by
  obtain ⟨_, _, _, _, _, _, rfl, _⟩ := h
  rfl
local macro_rules | `(tactic| walk_at "g_call") => `(tactic| ((with_reducible refine' use_plus ?c0 ?c1 ?c2 ?c3 ?c4 ?_); (case c0 => walk_at "g_pre"); (case c1 => walk_at "g_pre"); (case c2 => walk_at "g_pre"); (case c3 => walk_at "g_pre"); (case c4 => walk_at "g_pre"); intros))
theorem ok_plus (T : Txt K mg) : FnOk P w K mg base CX0 3 T.a_plus T.d_plus ["one", "other"] (sp_plus K) := by
  have G_ratio := ok_ratio (P := P) (w := w) (base := base) T
  refine T.F_plus.ok sc_plus len_plus (fun cdv A outer s H vs Q E hr h => ?_)
  refine ⟨_, (pss_one (ps_ret (pe_call G_ratio (hr.mono (by decide)) (by rfl) T.g_ratio T.F_ratio.kp T.b_ratio .nil pass0 (pa_cons (pe_op op_add (pe_op op_mulA (pe_ix (ix_tupK K rfl) (pv 0) pe_int (fun _ _ => rfl)) (pe_ix (ix_tupK K rfl) (pv 1) pe_int (fun _ _ => rfl))) (pe_op op_mulA (pe_ix (ix_tupK K rfl) (pv 1) pe_int (fun _ _ => rfl)) (pe_ix (ix_tupK K rfl) (pv 0) pe_int (fun _ _ => rfl)))) (pa_cons (pe_op op_mulA (pe_ix (ix_tupK K rfl) (pv 0) pe_int (fun _ _ => rfl)) (pe_ix (ix_tupK K rfl) (pv 1) pe_int (fun _ _ => rfl))) pa_nil))))), ?_⟩
  try dsimp only [L2.cxOf, L2.Cx.nox, L2.Cx.wish, List.map_cons, List.map_nil]
  obtain ⟨a, b, q, r, m, n, rfl, p0, p1, p2, p3, ⟨p4, p5, p6⟩, k⟩ := h
  refine start_to (σ := [some _, some _]) rfl ?_
  have c1 : CMulA q.num (r.den : Int) := mulW (a := m) (b := n) p2.1 (den_bits p3) (by omega) (by omega) (by omega)
  have c2 : CMulA r.num (q.den : Int) := mulW (a := n) (b := m) p3.1 (den_bits p2) (by omega) (by omega) (by omega)
  have c3 : CMulA (q.den : Int) (r.den : Int) := mulW (a := m) (b := n) (den_bits p2) (den_bits p3) (by omega) (by omega) (by omega)
  have n0 := dd0 q r
  have b1 := And.intro (lt_big (p2.crossA p3) (by omega)) (lt_big (p2.dens p3) (by omega))
  rw [← add_is] at k
  walk_at "go"
  exact k _ (by assumption)
def sp_minus (K : PySem.W.Frag) : Sp := fun vs H Q E => ∃ (a b : Addr) (q r : Rat) (m n : Nat), vs = [.ref a, .ref b] ∧ (SqT K H a [.int q.num, .int (q.den : Int)]) ∧ (SqT K H b [.int r.num, .int (r.den : Int)]) ∧ (Bd m q) ∧ (Bd n r) ∧ (1 ≤ m ∧ 1 ≤ n ∧ m + n ≤ 900) ∧ ∀ (p : Addr), (H p = none) → Q (.ref p) (upd H p (.tup [.int (q - r).num, .int ((q - r).den : Int)]))
theorem use_minus {K : PySem.W.Frag} {H : Hp} {Q : VK} {E : XK} {a b : Addr} {q r : Rat} {m n : Nat} (p0 : SqT K H a [.int q.num, .int (q.den : Int)]) (p1 : SqT K H b [.int r.num, .int (r.den : Int)]) (p2 : Bd m q) (p3 : Bd n r) (p4 : 1 ≤ m ∧ 1 ≤ n ∧ m + n ≤ 900) (k : ∀ (p : Addr), (H p = none) → Q (.ref p) (upd H p (.tup [.int (q - r).num, .int ((q - r).den : Int)]))) : sp_minus K [.ref a, .ref b] H Q E := ⟨a, b, q, r, m, n, rfl, p0, p1, p2, p3, p4, k⟩
theorem len_minus {K : PySem.W.Frag} (vs : List V) (H : Hp) (Q : VK) (E : XK) (h : sp_minus K vs H Q E) : vs.length = ["one", "other"].length := by
  obtain ⟨_, _, _, _, _, _, rfl, _⟩ := h
  rfl
local macro_rules | `(tactic| walk_at "g_call") => `(tactic| ((with_reducible refine' use_minus ?c0 ?c1 ?c2 ?c3 ?c4 ?_); (case c0 => walk_at "g_pre"); (case c1 => walk_at "g_pre"); (case c2 => walk_at "g_pre"); (case c3 => walk_at "g_pre"); (case c4 => walk_at "g_pre"); intros))
theorem ok_minus (T : Txt K mg) : FnOk P w K mg base CX0 3 T.a_minus T.d_minus ["one", "other"] (sp_minus K) := by
  have G_ratio := ok_ratio (P := P) (w := w) (base := base) T
  refine T.F_minus.ok sc_minus len_minus (fun cdv A outer s H vs Q E hr h => ?_)
  refine ⟨_, (pss_one (ps_ret (pe_call G_ratio (hr.mono (by decide)) (by rfl) T.g_ratio T.F_ratio.kp T.b_ratio .nil pass0 (pa_cons (pe_op op_sub (pe_op op_mulA (pe_ix (ix_tupK K rfl) (pv 0) pe_int (fun _ _ => rfl)) (pe_ix (ix_tupK K rfl) (pv 1) pe_int (fun _ _ => rfl))) (pe_op op_mulA (pe_ix (ix_tupK K rfl) (pv 1) pe_int (fun _ _ => rfl)) (pe_ix (ix_tupK K rfl) (pv 0) pe_int (fun _ _ => rfl)))) (pa_cons (pe_op op_mulA (pe_ix (ix_tupK K rfl) (pv 0) pe_int (fun _ _ => rfl)) (pe_ix (ix_tupK K rfl) (pv 1) pe_int (fun _ _ => rfl))) pa_nil))))), ?_⟩
  try dsimp only [L2.cxOf, L2.Cx.nox, L2.Cx.wish, List.map_cons, List.map_nil]
  obtain ⟨a, b, q, r, m, n, rfl, p0, p1, p2, p3, ⟨p4, p5, p6⟩, k⟩ := h
  refine start_to (σ := [some _, some _]) rfl ?_
  have c1 : CMulA q.num (r.den : Int) := mulW (a := m) (b := n) p2.1 (den_bits p3) (by omega) (by omega) (by omega)
  have c2 : CMulA r.num (q.den : Int) := mulW (a := n) (b := m) p3.1 (den_bits p2) (by omega) (by omega) (by omega)
  have c3 : CMulA (q.den : Int) (r.den : Int) := mulW (a := m) (b := n) (den_bits p2) (den_bits p3) (by omega) (by omega) (by omega)
  have n0 := dd0 q r
  have b1 := And.intro (lt_big (p2.crossS p3) (by omega)) (lt_big (p2.dens p3) (by omega))
  rw [← sub_is] at k
  walk_at "go"
  exact k _ (by assumption)
def sp_times (K : PySem.W.Frag) : Sp := fun vs H Q E => ∃ (a b : Addr) (q r : Rat) (m n : Nat), vs = [.ref a, .ref b] ∧ (SqT K H a [.int q.num, .int (q.den : Int)]) ∧ (SqT K H b [.int r.num, .int (r.den : Int)]) ∧ (Bd m q) ∧ (Bd n r) ∧ (1 ≤ m ∧ 1 ≤ n ∧ m + n ≤ 900) ∧ ∀ (p : Addr), (H p = none) → Q (.ref p) (upd H p (.tup [.int (q * r).num, .int ((q * r).den : Int)]))
theorem use_times {K : PySem.W.Frag} {H : Hp} {Q : VK} {E : XK} {a b : Addr} {q r : Rat} {m n : Nat} (p0 : SqT K H a [.int q.num, .int (q.den : Int)]) (p1 : SqT K H b [.int r.num, .int (r.den : Int)]) (p2 : Bd m q) (p3 : Bd n r) (p4 : 1 ≤ m ∧ 1 ≤ n ∧ m + n ≤ 900) (k : ∀ (p : Addr), (H p = none) → Q (.ref p) (upd H p (.tup [.int (q * r).num, .int ((q * r).den : Int)]))) : sp_times K [.ref a, .ref b] H Q E := ⟨a, b, q, r, m, n, rfl, p0, p1, p2, p3, p4, k⟩
theorem len_times {K : PySem.W.Frag} (vs : List V) (H : Hp) (Q : VK) (E : XK) (h : sp_times K vs H Q E) : vs.length = ["one", "other"].length := by
  obtain ⟨_, _, _, _, _, _, rfl, _⟩ := h
  rfl
local macro_rules | `(tactic| walk_at "g_call") => `(tactic| ((with_reducible refine' use_times ?c0 ?c1 ?c2 ?c3 ?c4 ?_); (case c0 => walk_at "g_pre"); (case c1 => walk_at "g_pre"); (case c2 => walk_at "g_pre"); (case c3 => walk_at "g_pre"); (case c4 => walk_at "g_pre"); intros))
theorem ok_times (T : Txt K mg) : FnOk P w K mg base CX0 3 T.a_times T.d_times ["one", "other"] (sp_times K) := by
  have G_ratio := ok_ratio (P := P) (w := w) (base := base) T
  refine T.F_times.ok sc_times len_times (fun cdv A outer s H vs Q E hr h => ?_)
  refine ⟨_, (pss_one (ps_ret (pe_call G_ratio (hr.mono (by decide)) (by rfl) T.g_ratio T.F_ratio.kp T.b_ratio .nil pass0 (pa_cons (pe_op op_mulA (pe_ix (ix_tupK K rfl) (pv 0) pe_int (fun _ _ => rfl)) (pe_ix (ix_tupK K rfl) (pv 1) pe_int (fun _ _ => rfl))) (pa_cons (pe_op op_mulA (pe_ix (ix_tupK K rfl) (pv 0) pe_int (fun _ _ => rfl)) (pe_ix (ix_tupK K rfl) (pv 1) pe_int (fun _ _ => rfl))) pa_nil))))), ?_⟩
  try dsimp only [L2.cxOf, L2.Cx.nox, L2.Cx.wish, List.map_cons, List.map_nil]
  obtain ⟨a, b, q, r, m, n, rfl, p0, p1, p2, p3, ⟨p4, p5, p6⟩, k⟩ := h
  refine start_to (σ := [some _, some _]) rfl ?_
  have c1 : CMulA q.num r.num := mulW (a := m) (b := n) p2.1 p3.1 (by omega) (by omega) (by omega)
  have c3 : CMulA (q.den : Int) (r.den : Int) := mulW (a := m) (b := n) (den_bits p2) (den_bits p3) (by omega) (by omega) (by omega)
  have n0 := dd0 q r
  have b1 := And.intro (lt_big (p2.tops p3) (by omega)) (lt_big (p2.dens p3) (by omega))
  rw [← mul_is] at k
  walk_at "go"
  exact k _ (by assumption)
def sp_below (K : PySem.W.Frag) : Sp := fun vs H Q E => ∃ (a b : Addr) (q r : Rat) (m n : Nat), vs = [.ref a, .ref b] ∧ (SqT K H a [.int q.num, .int (q.den : Int)]) ∧ (SqT K H b [.int r.num, .int (r.den : Int)]) ∧ (Bd m q) ∧ (Bd n r) ∧ (1 ≤ m ∧ 1 ≤ n ∧ m + n ≤ 900) ∧ Q (.bl (decide (q < r))) H
theorem use_below {K : PySem.W.Frag} {H : Hp} {Q : VK} {E : XK} {a b : Addr} {q r : Rat} {m n : Nat} (p0 : SqT K H a [.int q.num, .int (q.den : Int)]) (p1 : SqT K H b [.int r.num, .int (r.den : Int)]) (p2 : Bd m q) (p3 : Bd n r) (p4 : 1 ≤ m ∧ 1 ≤ n ∧ m + n ≤ 900) (k : Q (.bl (decide (q < r))) H) : sp_below K [.ref a, .ref b] H Q E := ⟨a, b, q, r, m, n, rfl, p0, p1, p2, p3, p4, k⟩
theorem len_below {K : PySem.W.Frag} (vs : List V) (H : Hp) (Q : VK) (E : XK) (h : sp_below K vs H Q E) : vs.length = ["one", "other"].length := by
  obtain ⟨_, _, _, _, _, _, rfl, _⟩ := h
  rfl
local macro_rules | `(tactic| walk_at "g_call") => `(tactic| ((with_reducible refine' use_below ?c0 ?c1 ?c2 ?c3 ?c4 ?_); (case c0 => walk_at "g_pre"); (case c1 => walk_at "g_pre"); (case c2 => walk_at "g_pre"); (case c3 => walk_at "g_pre"); (case c4 => walk_at "g_pre"); intros))
theorem ok_below (T : Txt K mg) : FnOk P w K mg base CX0 1 T.a_below T.d_below ["one", "other"] (sp_below K) := by
  refine T.F_below.ok sc_below len_below (fun cdv A outer s H vs Q E hr h => ?_)
  refine ⟨_, (pss_one (ps_ret (pe_cmpR op_lt (pe_op op_mulA (pe_ix (ix_tupK K rfl) (pv 0) pe_int (fun _ _ => rfl)) (pe_ix (ix_tupK K rfl) (pv 1) pe_int (fun _ _ => rfl))) (pe_op op_mulA (pe_ix (ix_tupK K rfl) (pv 1) pe_int (fun _ _ => rfl)) (pe_ix (ix_tupK K rfl) (pv 0) pe_int (fun _ _ => rfl))) (nomark _)))), ?_⟩
  try dsimp only [L2.cxOf, L2.Cx.nox, L2.Cx.wish, List.map_cons, List.map_nil]
  obtain ⟨a, b, q, r, m, n, rfl, p0, p1, p2, p3, ⟨p4, p5, p6⟩, k⟩ := h
  refine start_to (σ := [some _, some _]) rfl ?_
  have c1 : CMulA q.num (r.den : Int) := mulW (a := m) (b := n) p2.1 (den_bits p3) (by omega) (by omega) (by omega)
  have c2 : CMulA r.num (q.den : Int) := mulW (a := n) (b := m) p3.1 (den_bits p2) (by omega) (by omega) (by omega)
  rw [← lt_dec] at k
  walk_at "go"
  exact k
def sp_l_agree (K : PySem.W.Frag) : Sp := fun vs H Q E => ∃ (a b c : Addr) (q r s : Rat), vs = [.ref a, .ref b, .ref c] ∧ (SqT K H a [.int q.num, .int (q.den : Int)]) ∧ (SqT K H b [.int r.num, .int (r.den : Int)]) ∧ (SqT K H c [.int s.num, .int (s.den : Int)]) ∧ (Bd 100 q) ∧ (Bd 100 r) ∧ (Bd 100 s) ∧ ∀ (H' : Hp), (Same H H') → Q (.bl true) H'
theorem use_l_agree {K : PySem.W.Frag} {H : Hp} {Q : VK} {E : XK} {a b c : Addr} {q r s : Rat} (p0 : SqT K H a [.int q.num, .int (q.den : Int)]) (p1 : SqT K H b [.int r.num, .int (r.den : Int)]) (p2 : SqT K H c [.int s.num, .int (s.den : Int)]) (p3 : Bd 100 q) (p4 : Bd 100 r) (p5 : Bd 100 s) (k : ∀ (H' : Hp), (Same H H') → Q (.bl true) H') : sp_l_agree K [.ref a, .ref b, .ref c] H Q E := ⟨a, b, c, q, r, s, rfl, p0, p1, p2, p3, p4, p5, k⟩
theorem len_l_agree {K : PySem.W.Frag} (vs : List V) (H : Hp) (Q : VK) (E : XK) (h : sp_l_agree K vs H Q E) : vs.length = ["_law_a", "_law_b", "_law_c"].length := by
  obtain ⟨_, _, _, _, _, _, rfl, _⟩ := h
  rfl
local macro_rules | `(tactic| walk_at "g_call") => `(tactic| ((with_reducible refine' use_l_agree ?c0 ?c1 ?c2 ?c3 ?c4 ?c5 ?_); (case c0 => walk_at "g_pre"); (case c1 => walk_at "g_pre"); (case c2 => walk_at "g_pre"); (case c3 => walk_at "g_pre"); (case c4 => walk_at "g_pre"); (case c5 => walk_at "g_pre"); intros))
theorem ok_l_agree (T : Txt K mg) : FnOk P w K mg base CX0 4 T.a_l_agree T.d_l_agree ["_law_a", "_law_b", "_law_c"] (sp_l_agree K) := by
  have G_plus := ok_plus (P := P) (w := w) (base := base) T
  have G_times := ok_times (P := P) (w := w) (base := base) T
  have G_minus := ok_minus (P := P) (w := w) (base := base) T
  have G_below := ok_below (P := P) (w := w) (base := base) T
  have G_ratio := ok_ratio (P := P) (w := w) (base := base) T
  refine T.F_l_agree.ok sc_l_agree len_l_agree (fun cdv A outer s H vs Q E hr h => ?_)
  refine ⟨_, (pss_cons (ps_if (PW.pt (pw_or (pt_cmpR (op_neDK K rfl hr.units) (pe_call G_plus (hr.mono (by decide)) (by rfl) T.g_plus T.F_plus.kp T.b_plus .nil pass0 (pa_cons (pv 0) (pa_cons (pv 1) pa_nil))) (pe_call G_plus (hr.mono (by decide)) (by rfl) T.g_plus T.F_plus.kp T.b_plus .nil pass0 (pa_cons (pv 1) (pa_cons (pv 0) pa_nil))) (nomark _)) (pw_or1 (pt_cmpR (op_neDK K rfl hr.units) (pe_call G_times (hr.mono (by decide)) (by rfl) T.g_times T.F_times.kp T.b_times .nil pass0 (pa_cons (pv 0) (pa_cons (pv 1) pa_nil))) (pe_call G_times (hr.mono (by decide)) (by rfl) T.g_times T.F_times.kp T.b_times .nil pass0 (pa_cons (pv 1) (pa_cons (pv 0) pa_nil))) (nomark _))))) (pss_one (ps_ret pe_bl)) pss_nil)
      (pss_cons (ps_if (PW.pt (pw_or (pt_cmpR (op_neDK K rfl hr.units) (pe_call G_plus (hr.mono (by decide)) (by rfl) T.g_plus T.F_plus.kp T.b_plus .nil pass0 (pa_cons (pe_call G_plus (hr.mono (by decide)) (by rfl) T.g_plus T.F_plus.kp T.b_plus .nil pass0 (pa_cons (pv 0) (pa_cons (pv 1) pa_nil))) (pa_cons (pv 2) pa_nil))) (pe_call G_plus (hr.mono (by decide)) (by rfl) T.g_plus T.F_plus.kp T.b_plus .nil pass0 (pa_cons (pv 0) (pa_cons (pe_call G_plus (hr.mono (by decide)) (by rfl) T.g_plus T.F_plus.kp T.b_plus .nil pass0 (pa_cons (pv 1) (pa_cons (pv 2) pa_nil))) pa_nil))) (nomark _)) (pw_or1 (pt_cmpR (op_neDK K rfl hr.units) (pe_call G_times (hr.mono (by decide)) (by rfl) T.g_times T.F_times.kp T.b_times .nil pass0 (pa_cons (pe_call G_times (hr.mono (by decide)) (by rfl) T.g_times T.F_times.kp T.b_times .nil pass0 (pa_cons (pv 0) (pa_cons (pv 1) pa_nil))) (pa_cons (pv 2) pa_nil))) (pe_call G_times (hr.mono (by decide)) (by rfl) T.g_times T.F_times.kp T.b_times .nil pass0 (pa_cons (pv 0) (pa_cons (pe_call G_times (hr.mono (by decide)) (by rfl) T.g_times T.F_times.kp T.b_times .nil pass0 (pa_cons (pv 1) (pa_cons (pv 2) pa_nil))) pa_nil))) (nomark _))))) (pss_one (ps_ret pe_bl)) pss_nil)
      (pss_cons (ps_if (PW.pt (pw_or (pt_cmpR (op_neDK K rfl hr.units) (pe_call G_times (hr.mono (by decide)) (by rfl) T.g_times T.F_times.kp T.b_times .nil pass0 (pa_cons (pv 0) (pa_cons (pe_call G_plus (hr.mono (by decide)) (by rfl) T.g_plus T.F_plus.kp T.b_plus .nil pass0 (pa_cons (pv 1) (pa_cons (pv 2) pa_nil))) pa_nil))) (pe_call G_plus (hr.mono (by decide)) (by rfl) T.g_plus T.F_plus.kp T.b_plus .nil pass0 (pa_cons (pe_call G_times (hr.mono (by decide)) (by rfl) T.g_times T.F_times.kp T.b_times .nil pass0 (pa_cons (pv 0) (pa_cons (pv 1) pa_nil))) (pa_cons (pe_call G_times (hr.mono (by decide)) (by rfl) T.g_times T.F_times.kp T.b_times .nil pass0 (pa_cons (pv 0) (pa_cons (pv 2) pa_nil))) pa_nil))) (nomark _)) (pw_or1 (pt_cmpR (op_neDK K rfl hr.units) (pe_call G_plus (hr.mono (by decide)) (by rfl) T.g_plus T.F_plus.kp T.b_plus .nil pass0 (pa_cons (pe_call G_minus (hr.mono (by decide)) (by rfl) T.g_minus T.F_minus.kp T.b_minus .nil pass0 (pa_cons (pv 0) (pa_cons (pv 1) pa_nil))) (pa_cons (pv 1) pa_nil))) (pv 0) (nomark _))))) (pss_one (ps_ret pe_bl)) pss_nil)
      (pss_cons (ps_if (PW.pt (pw_or (pt_cmpR (op_neDK K rfl hr.units) (pe_call G_minus (hr.mono (by decide)) (by rfl) T.g_minus T.F_minus.kp T.b_minus .nil pass0 (pa_cons (pe_call G_plus (hr.mono (by decide)) (by rfl) T.g_plus T.F_plus.kp T.b_plus .nil pass0 (pa_cons (pv 0) (pa_cons (pv 1) pa_nil))) (pa_cons (pv 1) pa_nil))) (pv 0) (nomark _)) (pw_or1 (pt_cmpR op_ne (pe_call G_below (hr.mono (by decide)) (by rfl) T.g_below T.F_below.kp T.b_below .nil pass0 (pa_cons (pe_call G_plus (hr.mono (by decide)) (by rfl) T.g_plus T.F_plus.kp T.b_plus .nil pass0 (pa_cons (pv 0) (pa_cons (pv 2) pa_nil))) (pa_cons (pe_call G_plus (hr.mono (by decide)) (by rfl) T.g_plus T.F_plus.kp T.b_plus .nil pass0 (pa_cons (pv 1) (pa_cons (pv 2) pa_nil))) pa_nil))) (pe_call G_below (hr.mono (by decide)) (by rfl) T.g_below T.F_below.kp T.b_below .nil pass0 (pa_cons (pv 0) (pa_cons (pv 1) pa_nil))) (nomark _))))) (pss_one (ps_ret pe_bl)) pss_nil)
      (pss_cons (ps_for PassesOwn.never rfl (pi_listK K rfl (pe_lst (pa_cons (pe_call G_plus (hr.mono (by decide)) (by rfl) T.g_plus T.F_plus.kp T.b_plus .nil pass0 (pa_cons (pv 0) (pa_cons (pv 1) pa_nil))) (pa_cons (pe_call G_times (hr.mono (by decide)) (by rfl) T.g_times T.F_times.kp T.b_times .nil pass0 (pa_cons (pv 0) (pa_cons (pv 2) pa_nil))) (pa_cons (pe_call G_minus (hr.mono (by decide)) (by rfl) T.g_minus T.F_minus.kp T.b_minus .nil pass0 (pa_cons (pv 1) (pa_cons (pv 2) pa_nil))) pa_nil))))) (pg_name (i := 3) sc_l_agree.nd rfl (Or.inl rfl)) (pss_one (ps_if (PW.pt (pw_or (pt_cmpR (op_neDK K rfl hr.units) (pe_call G_ratio (hr.mono (by decide)) (by rfl) T.g_ratio T.F_ratio.kp T.b_ratio .nil pass0 (pa_cons (pe_ix (ix_tupK K rfl) (pv 3) pe_int (fun _ _ => rfl)) (pa_cons (pe_ix (ix_tupK K rfl) (pv 3) pe_int (fun _ _ => rfl)) pa_nil))) (pv 3) (nomark _)) (pw_or1 (pt_cmpR (op_neDK K rfl hr.units) (pe_call G_ratio (hr.mono (by decide)) (by rfl) T.g_ratio T.F_ratio.kp T.b_ratio .nil pass0 (pa_cons (pe_op op_sub pe_int (pe_ix (ix_tupK K rfl) (pv 3) pe_int (fun _ _ => rfl))) (pa_cons (pe_op op_sub pe_int (pe_ix (ix_tupK K rfl) (pv 3) pe_int (fun _ _ => rfl))) pa_nil))) (pv 3) (nomark _))))) (pss_one (ps_ret pe_bl)) pss_nil)))
      (pss_one (ps_ret (pe_and (pe_cmpR op_eq (pe_bm PySem.F.plainAttrs_list PySem.F.slot_list_count PySem.F.type_list_count (mt_lcountVK K rfl) (pe_lst (pa_cons (pe_call G_below (hr.mono (by decide)) (by rfl) T.g_below T.F_below.kp T.b_below .nil pass0 (pa_cons (pv 0) (pa_cons (pv 1) pa_nil))) (pa_cons (pe_call G_below (hr.mono (by decide)) (by rfl) T.g_below T.F_below.kp T.b_below .nil pass0 (pa_cons (pv 1) (pa_cons (pv 0) pa_nil))) (pa_cons (pe_cmpR (op_eqDK K rfl hr.units) (pv 0) (pv 1) (nomark _)) pa_nil)))) (pa_cons pe_bl pa_nil)) pe_int (nomark _)) (pe_one (pe_cmpR op_eq (pe_call G_below (hr.mono (by decide)) (by rfl) T.g_below T.F_below.kp T.b_below .nil pass0 (pa_cons (pv 0) (pa_cons (pv 1) pa_nil))) (pe_call G_below (hr.mono (by decide)) (by rfl) T.g_below T.F_below.kp T.b_below .nil pass0 (pa_cons (pe_call G_minus (hr.mono (by decide)) (by rfl) T.g_minus T.F_minus.kp T.b_minus .nil pass0 (pa_cons (pv 0) (pa_cons (pv 1) pa_nil))) (pa_cons (pe_tup (pa_cons pe_int (pa_cons pe_int pa_nil))) pa_nil))) (nomark _))))))))))), ?_⟩
  try dsimp only [L2.cxOf, L2.Cx.nox, L2.Cx.wish, List.map_cons, List.map_nil]
  obtain ⟨a, b, c, q, r, s, rfl, p0, p1, p2, p3, p4, p5, k⟩ := h
  refine start_to (σ := [some _, some _, some _, none]) rfl ?_
  have B1 := p3.add p4
  have B2 := p4.add p3
  have B3 := p3.mul p4
  have B4 := p4.mul p3
  have B5 := p4.add p5
  have B6 := p4.mul p5
  have B7 := p3.mul p5
  have B8 := p3.sub p4
  have B9 := p3.add p5
  have B10 := p4.sub p5
  have B11 := B3.add B7
  have B12 := B8.add p4
  have B13 := B1.sub p4
  walk_at "go"
  refine ite_n (neq_rat (Rat.add_comm q r)) ?_
  walk_at "go"
  refine ite_n (neq_rat (Rat.mul_comm q r)) ?_
  walk_at "go"
  refine ite_n (neq_rat (Rat.add_assoc q r s)) ?_
  walk_at "go"
  refine ite_n (neq_rat (Rat.mul_assoc q r s)) ?_
  refine forget (H := H) (P := fun H' => tNext _ _ H') (by walk_at "g_same") ?_
  intro H1 s1
  replace p0 := Same.seqT s1 p0
  replace p1 := Same.seqT s1 p1
  replace p2 := Same.seqT s1 p2
  have t1 : Same H H1 := s1
  walk_at "go"
  refine ite_n (neq_rat (Rat.mul_add q r s)) ?_
  walk_at "go"
  refine ite_n (neq_rat Rat.sub_add_cancel) ?_
  refine forget (H := H1) (P := fun H' => tNext _ _ H') (by walk_at "g_same") ?_
  intro H2 s2
  replace p0 := Same.seqT s2 p0
  replace p1 := Same.seqT s2 p1
  replace p2 := Same.seqT s2 p2
  have t2 : Same H H2 := t1.trans s2
  walk_at "go"
  refine ite_n (neq_rat Rat.add_sub_cancel) ?_
  walk_at "go"
  refine ite_n ?_ ?_
  · rw [show decide (q + s < r + s) = decide (q < r) from decide_eq_decide.mpr Rat.add_lt_add_right]
    simp
  refine forget (H := H2) (P := fun H' => tNext _ _ H') (by walk_at "g_same") ?_
  intro H3 s3
  replace p0 := Same.seqT s3 p0
  replace p1 := Same.seqT s3 p1
  replace p2 := Same.seqT s3 p2
  have t3 : Same H H3 := t2.trans s3
  walk_at "go"
  rename_i r1 nr1 r2 nr2 r3 nr3 L nL
  refine forL (xs := [.ref r1, .ref r2, .ref r3]) (fun j σ H' => ∃ (z : Option V), σ = [some (.ref a), some (.ref b), some (.ref c), z] ∧ Same H3 H' ∧ H' L = some (.lst [.ref r1, .ref r2, .ref r3]) ∧ H' r1 = some (.tup [.int (q + r).num, .int ((q + r).den : Int)]) ∧ H' r2 = some (.tup [.int (q * s).num, .int ((q * s).den : Int)]) ∧ H' r3 = some (.tup [.int (r - s).num, .int ((r - s).den : Int)])) ⟨_, rfl, by walk_at "g_same", upd_same, by walk_at "g_lk", by walk_at "g_lk", by walk_at "g_lk"⟩ ?_ ?_ ?_
  · rintro j σ H' _ ⟨z, rfl, u1, u2, u3, u4, u5⟩
    exact SqL.of u2
  · clear nr1 nr2 nr3 nL
    rintro σ H' ⟨z, rfl, u1, u2, u3, u4, u5⟩
    replace p0 := Same.seqT u1 p0
    replace p1 := Same.seqT u1 p1
    replace p2 := Same.seqT u1 p2
    clear u2 u3 u4 u5 B1 B2 B3 B4 B5 B6 B7 B9 B10 B11 B12 B13
    have Z := bd0
    walk_at "go"
    rename_i p np
    rw [one_of q r]
    refine ite_y rfl ?_
    walk_at "go"
    rename_i r4 nr4 r5 nr5
    refine use_below (q := q - r) (r := 0) (m := 100 + 100 + 1) (n := 1) (by walk_at "g_sq") (SqT.of upd_same) B8 Z (by decide) ?_
    walk_at "go"
    have e : (decide (q < r) == decide (q - r < 0)) = true := by
      rw [lt_sub]
      simp
    rw [e]
    have t4 : Same H H' := t3.trans u1
    exact k _ (by walk_at "g_same")
  · clear nr1 nr2 nr3 nL
    rintro j x σ H' hx ⟨z, rfl, u1, u2, u3, u4, u5⟩
    obtain ⟨u, f, rfl, hu, hf⟩ : ∃ (u : Addr) (f : Rat), x = .ref u ∧ H' u = some (.tup [.int f.num, .int (f.den : Int)]) ∧ Bd 300 f := by
      rcases List.mem_cons.mp (List.mem_of_getElem? hx) with e | e
      · exact ⟨_, _, e, u3, B1.up (by decide)⟩
      rcases List.mem_cons.mp e with e | e
      · exact ⟨_, _, e, u4, B7.up (by decide)⟩
      · exact ⟨_, _, List.mem_singleton.mp e, u5, B10.up (by decide)⟩
    have n0 := den0 f
    have n1 : (0 : Int) - (f.den : Int) ≠ 0 := by omega
    have w1 : f.num.natAbs < Big ∧ (f.den : Int).natAbs < Big := ⟨lt_big hf.1 (by decide), lt_big (den_bits hf) (by decide)⟩
    have w2 : (0 - f.num).natAbs < Big ∧ ((0 : Int) - (f.den : Int)).natAbs < Big := by
      have := w1.1
      have := w1.2
      exact ⟨by omega, by omega⟩
    clear hx
    walk_at "go"
    refine ite_n (neq_rat (Rat.num_divInt_den f)) ?_
    walk_at "go"
    refine ite_n (neq_rat (neg_is f)) ?_
    walk_at "go"
    exact ⟨_, rfl, by walk_at "g_same", by walk_at "g_lk", by walk_at "g_lk", by walk_at "g_lk", by walk_at "g_lk"⟩
def IsR (H : Hp) (v : V) : Prop := ∃ (r : Addr) (q : Rat), v = .ref r ∧ H r = some (.tup [.int q.num, .int (q.den : Int)]) ∧ Bd 100 q
theorem IsR.but {H H' : Hp} {p : Addr} {xs : List V} {v : V} (b : But p H H') (hp : H p = some (.lst xs)) (h : IsR H v) : IsR H' v := by
  obtain ⟨r, q, e, h1, h2⟩ := h
  exact ⟨r, q, e, b r _ (ne_of h1 hp (by nofun)) h1, h2⟩
theorem IsR.same {H H' : Hp} {v : V} (s : Same H H') (h : IsR H v) : IsR H' v := by
  obtain ⟨r, q, e, h1, h2⟩ := h
  exact ⟨r, q, e, s _ _ h1, h2⟩
theorem IsR.upd {H : Hp} {D : Addr} {o : HO} {xs : List V} {v : V} (hp : H D = some (.lst xs)) (h : IsR H v) : IsR (L2.upd H D o) v := by
  obtain ⟨r, q, e, h1, h2⟩ := h
  exact ⟨r, q, e, lk_upd (ne_of h1 hp (by nofun)) h1, h2⟩
def sp_law (K : PySem.W.Frag) : Sp := fun vs H Q E => ∃ (a : Addr) (ns : List Int), vs = [.ref a] ∧ (SqL K H a (ns.map V.int)) ∧ (ns.length ≤ 63) ∧ ∀ (H' : Hp), Q (.bl true) H'
theorem use_law {K : PySem.W.Frag} {H : Hp} {Q : VK} {E : XK} {a : Addr} {ns : List Int} (p0 : SqL K H a (ns.map V.int)) (p1 : ns.length ≤ 63) (k : ∀ (H' : Hp), Q (.bl true) H') : sp_law K [.ref a] H Q E := ⟨a, ns, rfl, p0, p1, k⟩
theorem len_law {K : PySem.W.Frag} (vs : List V) (H : Hp) (Q : VK) (E : XK) (h : sp_law K vs H Q E) : vs.length = ["_law_script"].length := by
  obtain ⟨_, _, rfl, _⟩ := h
  rfl
theorem ok_law (T : Txt K mg) : FnOk P w K mg base CX0 5 T.a_law T.d_law ["_law_script"] (sp_law K) := by
  have G_l_opened := ok_l_opened (P := P) (w := w) (base := base) T
  have G_l_fraction := ok_l_fraction (P := P) (w := w) (base := base) T
  have G_l_draw := ok_l_draw (P := P) (w := w) (base := base) T
  have G_l_agree := ok_l_agree (P := P) (w := w) (base := base) T
  refine T.F_law.ok sc_law len_law (fun cdv A outer s H vs Q E hr h => ?_)
  refine ⟨_, (pss_cons (ps_for PassesOwn.never rfl (pi_listK K rfl (pe_op op_cat (pe_lst (pa_cons pe_int pa_nil)) (pe_slice (sl_listK K rfl) (pv 0) po_none (po_some pe_int)))) (pg_name (i := 1) sc_law.nd rfl (Or.inl rfl)) (pss_cons (ps_set (i := 2) sc_law.nd rfl (Or.inr rfl) (pe_call G_l_opened (hr.mono (by decide)) (by rfl) T.g_l_opened T.F_l_opened.kp T.b_l_opened .nil pass0 (pa_cons (pv 1) pa_nil)))
      (pss_cons (ps_setLc (i := 3) (own := [("_law_k", 4)]) rfl sc_law.nd rfl rfl (sw_true rfl rfl rfl (by decide +kernel)) (pi_range1 rfl T.z_range (pa_cons pe_int pa_nil)) (blkOk_by (own := [("_law_k", 4)]) (N := ["_law_script", "_law_cell", "_law_left", "_law_some", "_law_k"]) (sc := defScope s_law) (by decide +kernel)) (fun _ _ _ _ _ => (pg_name (i := 4) sc_law.nd rfl (Or.inl rfl))) (fun _ _ _ _ _ => pts_nil) (fun _ _ _ _ _ => (pe_call G_l_fraction (hr.mono (by decide)) (by rfl) T.g_l_fraction T.F_l_fraction.kp T.b_l_fraction .nil pass0 (pa_cons (pv 2) pa_nil))))
      (pss_cons (ps_if (pt_cmpR op_eq (pe_call G_l_draw (hr.mono (by decide)) (by rfl) T.g_l_draw T.F_l_draw.kp T.b_l_draw .nil pass0 (pa_cons (pv 2) (pa_cons pe_int pa_nil))) pe_int (nomark _)) (pss_one (ps_asg (pe_ix (ix_listK K rfl) (pv 3) pe_int (fun _ _ => rfl)) (pg_sub (pv 3) pe_int set_list))) pss_nil)
      (pss_one (ps_if (PW.pt (pw_or (pt_not (pt_val (pe_call G_l_agree (hr.mono (by decide)) (by rfl) T.g_l_agree T.F_l_agree.kp T.b_l_agree .nil pass0 (pa_cons (pe_ix (ix_listK K rfl) (pv 3) pe_int (fun _ _ => rfl)) (pa_cons (pe_ix (ix_listK K rfl) (pv 3) pe_int (fun _ _ => rfl)) (pa_cons (pe_ix (ix_listK K rfl) (pv 3) pe_int (fun _ _ => rfl)) pa_nil)))))) (pw_or1 (pt_not (pt_val (pe_call G_l_agree (hr.mono (by decide)) (by rfl) T.g_l_agree T.F_l_agree.kp T.b_l_agree .nil pass0 (pa_cons (pe_ix (ix_listK K rfl) (pv 3) pe_int (fun _ _ => rfl)) (pa_cons (pe_ix (ix_listK K rfl) (pv 3) pe_int (fun _ _ => rfl)) (pa_cons (pe_ix (ix_listK K rfl) (pv 3) pe_int (fun _ _ => rfl)) pa_nil))))))))) (pss_one (ps_ret pe_bl)) pss_nil))))))
      (pss_one (ps_ret pe_bl))), ?_⟩
  try dsimp only [L2.cxOf, L2.Cx.nox, L2.Cx.wish, List.map_cons, List.map_nil]
  obtain ⟨a, ns, rfl, p0, p1, k⟩ := h
  refine start_to (σ := [some _, none, none, none, none]) rfl ?_
  walk_at "go"
  rename_i p1 hp1 p2 hp2 p3 hp3
  obtain ⟨ms, hms⟩ : ∃ ms : List Int, [V.int 3] ++ List.map V.int (List.take (Int.toNat 40) ns) = ms.map V.int := ⟨3 :: ns.take 40, rfl⟩
  rw [hms]
  refine forL (xs := ms.map V.int) (fun i σ H1 => ∃ y1 y2 y3 : Option V, σ = [some (.ref a), y1, y2, y3, none] ∧ H1 p3 = some (.lst (ms.map V.int))) ⟨_, _, _, rfl, upd_same⟩ ?_ ?_ ?_
  · rintro i σ H1 _ ⟨y1, y2, y3, rfl, h⟩
    exact SqL.of h
  · rintro σ H1 ⟨y1, y2, y3, rfl, h⟩
    walk_at "go"
    exact k _
  · rintro i x σ H1 hx ⟨y1, y2, y3, rfl, h⟩
    obtain ⟨z, rfl, _⟩ := ints_at hx
    clear hp1 hp2 hp3 p0 p1 hms hx
    walk_at "go"
    rename_i n m p e1 np
    intro D nD
    have hp3 : p3 ≠ p := by walk_at "g_ne"
    have hD3 : p3 ≠ D := by walk_at "g_ne"
    have hpD : p ≠ D := by walk_at "g_ne"
    refine lcR (fun i acc H => ∃ n' c', H p = some (.lst [.int n', .int m, .int c']) ∧ Left n' m ∧ (0 ≤ c' ∧ c' ≤ 50 * i) ∧ H p3 = some (.lst (ms.map V.int)) ∧ acc.length = i ∧ ∀ v ∈ acc, IsR H v) nD ⟨n, 0, by walk_at "g_lk", e1, by omega, by walk_at "g_lk", rfl, fun v h => absurd h List.not_mem_nil⟩ ?_ ?_
    · clear h np nD
      rintro j acc H2 Z Y hj ⟨n', c', g1, g2, g3, g4, rfl, g6⟩ hD hz _
      have hj' : acc.length < 3 := hj
      walk_at "go"
      rename_i n2 c2 q r H3 b1 b2 b3 b4 b5 b6 b7
      refine hz _ _ (by walk_at "g_lk") (sz4' (by omega)) ⟨n2, c2, by walk_at "g_lk", b3, by omega, by walk_at "g_lk", by simp, ?_⟩
      have hD' : H3 D = some (.lst acc) := by walk_at "g_lk"
      intro v hv
      refine IsR.upd hD' ?_
      rcases List.mem_append.mp hv with g | g
      · exact IsR.but b5 g1 (g6 v g)
      · exact ⟨r, q, List.mem_singleton.mp g, b2, b7⟩
    · clear h np nD
      rintro acc H2 ⟨n', c', g1, g2, g3, g4, g5, g6⟩ hD
      obtain ⟨v0, v1, v2, rfl⟩ : ∃ v0 v1 v2, acc = [v0, v1, v2] := by
        have g5' : acc.length = 3 := g5
        match acc, g5' with
        | [a, b, c], _ => exact ⟨a, b, c, rfl⟩
      have i0 := g6 v0 (by simp)
      have i1 := g6 v1 (by simp)
      have i2 := g6 v2 (by simp)
      have g3' : 0 ≤ c' ∧ c' ≤ 100000 := by
        have : c' ≤ 50 * ((Int.toNat 3 : Nat) : Int) := g3.2
        have e3 : ((Int.toNat 3 : Nat) : Int) = 3 := rfl
        omega
      walk_at "goI"
      refine if_join (fun σ' H' => ∃ w0 w1 w2, σ' = [some (.ref a), some (.int z), some (.ref p), some (.ref D), none] ∧ H' D = some (.lst [w0, w1, w2]) ∧ IsR H' w0 ∧ IsR H' w1 ∧ IsR H' w2 ∧ H' p3 = some (.lst (ms.map V.int))) (fun nx' hn => ?_) ?_
      · walk_at "go"
        rename_i d n3 c3 H3 b1 b2 b3 b4 b5
        have hD' : H3 D = some (.lst [v0, v1, v2]) := by walk_at "g_lk"
        have h3' : H3 p3 = some (.lst (ms.map V.int)) := by walk_at "g_lk"
        have j0 := IsR.but b4 g1 i0
        have j1 := IsR.but b4 g1 i1
        have j2 := IsR.but b4 g1 i2
        refine ite_d (fun c1 => ?_) (fun c1 => ?_)
        · walk_at "go"
          exact hn _ _ ⟨v0, v0, v2, rfl, upd_same, IsR.upd hD' j0, IsR.upd hD' j0, IsR.upd hD' j2, by walk_at "g_lk"⟩
        · walk_at "go"
          exact hn _ _ ⟨_, _, _, rfl, hD', j0, j1, j2, h3'⟩
      · clear g1 g4 hD g6 i0 i1 i2
        rintro σ' H' ⟨w0, w1, w2, rfl, f1, ⟨r0, q0, rfl, f2, f3⟩, ⟨r1, q1, rfl, f4, f5⟩, ⟨r2, q2, rfl, f6, f7⟩, f8⟩
        walk_at "go"
        exact ⟨_, _, _, rfl, by walk_at "g_lk"⟩

end
theorem mk_txt {K : PySem.W.Frag} {h : Heap} {mg : Str → Option Value} {f_divisor : Addr} {o_divisor n_divisor : Option Addr} {w_divisor : Array (Option Value)} {q1_divisor q2_divisor q3_divisor q4_divisor q5_divisor q6_divisor : Value} {f_ratio : Addr} {o_ratio n_ratio : Option Addr} {w_ratio : Array (Option Value)} {q1_ratio q2_ratio q3_ratio q4_ratio q5_ratio q6_ratio : Value} {f_plus : Addr} {o_plus n_plus : Option Addr} {w_plus : Array (Option Value)} {q1_plus q2_plus q3_plus q4_plus q5_plus q6_plus : Value} {f_minus : Addr} {o_minus n_minus : Option Addr} {w_minus : Array (Option Value)} {q1_minus q2_minus q3_minus q4_minus q5_minus q6_minus : Value} {f_times : Addr} {o_times n_times : Option Addr} {w_times : Array (Option Value)} {q1_times q2_times q3_times q4_times q5_times q6_times : Value} {f_below : Addr} {o_below n_below : Option Addr} {w_below : Array (Option Value)} {q1_below q2_below q3_below q4_below q5_below q6_below : Value} {f_l_stirred : Addr} {o_l_stirred n_l_stirred : Option Addr} {w_l_stirred : Array (Option Value)} {q1_l_stirred q2_l_stirred q3_l_stirred q4_l_stirred q5_l_stirred q6_l_stirred : Value} {f_l_opened : Addr} {o_l_opened n_l_opened : Option Addr} {w_l_opened : Array (Option Value)} {q1_l_opened q2_l_opened q3_l_opened q4_l_opened q5_l_opened q6_l_opened : Value} {f_l_draw : Addr} {o_l_draw n_l_draw : Option Addr} {w_l_draw : Array (Option Value)} {q1_l_draw q2_l_draw q3_l_draw q4_l_draw q5_l_draw q6_l_draw : Value} {f_l_in_lowest : Addr} {o_l_in_lowest n_l_in_lowest : Option Addr} {w_l_in_lowest : Array (Option Value)} {q1_l_in_lowest q2_l_in_lowest q3_l_in_lowest q4_l_in_lowest q5_l_in_lowest q6_l_in_lowest : Value} {f_l_fraction : Addr} {o_l_fraction n_l_fraction : Option Addr} {w_l_fraction : Array (Option Value)} {q1_l_fraction q2_l_fraction q3_l_fraction q4_l_fraction q5_l_fraction q6_l_fraction : Value} {f_l_agree : Addr} {o_l_agree n_l_agree : Option Addr} {w_l_agree : Array (Option Value)} {q1_l_agree q2_l_agree q3_l_agree q4_l_agree q5_l_agree q6_l_agree : Value} {f_law : Addr} {o_law n_law : Option Addr} {w_law : Array (Option Value)} {q1_law q2_law q3_law q4_law q5_law q6_law : Value} (X : K.In h) (G : h.Ns mainGlobals mg)
    (a_divisor : PySem.W.nsIn K mainGlobals "divisor" = some (some (.ref f_divisor)))
    (l_divisor : K.lookup f_divisor = some ⟨q1_divisor, o_divisor, .func (PySem.W.fnOf "divisor" "divisor" (defArgs s_divisor) (defBody s_divisor) (defScope s_divisor) .none q2_divisor q3_divisor q4_divisor n_divisor q5_divisor q6_divisor), w_divisor⟩)
    (c_divisor : PySem.W.codeIn K q5_divisor "divisor" = true)
    (k_divisor : PySem.W.keepIn K (.ref f_divisor) = true)
    (a_ratio : PySem.W.nsIn K mainGlobals "ratio" = some (some (.ref f_ratio)))
    (l_ratio : K.lookup f_ratio = some ⟨q1_ratio, o_ratio, .func (PySem.W.fnOf "ratio" "ratio" (defArgs s_ratio) (defBody s_ratio) (defScope s_ratio) .none q2_ratio q3_ratio q4_ratio n_ratio q5_ratio q6_ratio), w_ratio⟩)
    (c_ratio : PySem.W.codeIn K q5_ratio "ratio" = true)
    (k_ratio : PySem.W.keepIn K (.ref f_ratio) = true)
    (a_plus : PySem.W.nsIn K mainGlobals "plus" = some (some (.ref f_plus)))
    (l_plus : K.lookup f_plus = some ⟨q1_plus, o_plus, .func (PySem.W.fnOf "plus" "plus" (defArgs s_plus) (defBody s_plus) (defScope s_plus) .none q2_plus q3_plus q4_plus n_plus q5_plus q6_plus), w_plus⟩)
    (c_plus : PySem.W.codeIn K q5_plus "plus" = true)
    (k_plus : PySem.W.keepIn K (.ref f_plus) = true)
    (a_minus : PySem.W.nsIn K mainGlobals "minus" = some (some (.ref f_minus)))
    (l_minus : K.lookup f_minus = some ⟨q1_minus, o_minus, .func (PySem.W.fnOf "minus" "minus" (defArgs s_minus) (defBody s_minus) (defScope s_minus) .none q2_minus q3_minus q4_minus n_minus q5_minus q6_minus), w_minus⟩)
    (c_minus : PySem.W.codeIn K q5_minus "minus" = true)
    (k_minus : PySem.W.keepIn K (.ref f_minus) = true)
    (a_times : PySem.W.nsIn K mainGlobals "times" = some (some (.ref f_times)))
    (l_times : K.lookup f_times = some ⟨q1_times, o_times, .func (PySem.W.fnOf "times" "times" (defArgs s_times) (defBody s_times) (defScope s_times) .none q2_times q3_times q4_times n_times q5_times q6_times), w_times⟩)
    (c_times : PySem.W.codeIn K q5_times "times" = true)
    (k_times : PySem.W.keepIn K (.ref f_times) = true)
    (a_below : PySem.W.nsIn K mainGlobals "below" = some (some (.ref f_below)))
    (l_below : K.lookup f_below = some ⟨q1_below, o_below, .func (PySem.W.fnOf "below" "below" (defArgs s_below) (defBody s_below) (defScope s_below) .none q2_below q3_below q4_below n_below q5_below q6_below), w_below⟩)
    (c_below : PySem.W.codeIn K q5_below "below" = true)
    (k_below : PySem.W.keepIn K (.ref f_below) = true)
    (a_l_stirred : PySem.W.nsIn K mainGlobals "_law_stirred" = some (some (.ref f_l_stirred)))
    (l_l_stirred : K.lookup f_l_stirred = some ⟨q1_l_stirred, o_l_stirred, .func (PySem.W.fnOf "_law_stirred" "_law_stirred" (defArgs s_l_stirred) (defBody s_l_stirred) (defScope s_l_stirred) .none q2_l_stirred q3_l_stirred q4_l_stirred n_l_stirred q5_l_stirred q6_l_stirred), w_l_stirred⟩)
    (c_l_stirred : PySem.W.codeIn K q5_l_stirred "_law_stirred" = true)
    (k_l_stirred : PySem.W.keepIn K (.ref f_l_stirred) = true)
    (a_l_opened : PySem.W.nsIn K mainGlobals "_law_opened" = some (some (.ref f_l_opened)))
    (l_l_opened : K.lookup f_l_opened = some ⟨q1_l_opened, o_l_opened, .func (PySem.W.fnOf "_law_opened" "_law_opened" (defArgs s_l_opened) (defBody s_l_opened) (defScope s_l_opened) .none q2_l_opened q3_l_opened q4_l_opened n_l_opened q5_l_opened q6_l_opened), w_l_opened⟩)
    (c_l_opened : PySem.W.codeIn K q5_l_opened "_law_opened" = true)
    (k_l_opened : PySem.W.keepIn K (.ref f_l_opened) = true)
    (a_l_draw : PySem.W.nsIn K mainGlobals "_law_draw" = some (some (.ref f_l_draw)))
    (l_l_draw : K.lookup f_l_draw = some ⟨q1_l_draw, o_l_draw, .func (PySem.W.fnOf "_law_draw" "_law_draw" (defArgs s_l_draw) (defBody s_l_draw) (defScope s_l_draw) .none q2_l_draw q3_l_draw q4_l_draw n_l_draw q5_l_draw q6_l_draw), w_l_draw⟩)
    (c_l_draw : PySem.W.codeIn K q5_l_draw "_law_draw" = true)
    (k_l_draw : PySem.W.keepIn K (.ref f_l_draw) = true)
    (a_l_in_lowest : PySem.W.nsIn K mainGlobals "_law_in_lowest" = some (some (.ref f_l_in_lowest)))
    (l_l_in_lowest : K.lookup f_l_in_lowest = some ⟨q1_l_in_lowest, o_l_in_lowest, .func (PySem.W.fnOf "_law_in_lowest" "_law_in_lowest" (defArgs s_l_in_lowest) (defBody s_l_in_lowest) (defScope s_l_in_lowest) .none q2_l_in_lowest q3_l_in_lowest q4_l_in_lowest n_l_in_lowest q5_l_in_lowest q6_l_in_lowest), w_l_in_lowest⟩)
    (c_l_in_lowest : PySem.W.codeIn K q5_l_in_lowest "_law_in_lowest" = true)
    (k_l_in_lowest : PySem.W.keepIn K (.ref f_l_in_lowest) = true)
    (a_l_fraction : PySem.W.nsIn K mainGlobals "_law_fraction" = some (some (.ref f_l_fraction)))
    (l_l_fraction : K.lookup f_l_fraction = some ⟨q1_l_fraction, o_l_fraction, .func (PySem.W.fnOf "_law_fraction" "_law_fraction" (defArgs s_l_fraction) (defBody s_l_fraction) (defScope s_l_fraction) .none q2_l_fraction q3_l_fraction q4_l_fraction n_l_fraction q5_l_fraction q6_l_fraction), w_l_fraction⟩)
    (c_l_fraction : PySem.W.codeIn K q5_l_fraction "_law_fraction" = true)
    (k_l_fraction : PySem.W.keepIn K (.ref f_l_fraction) = true)
    (a_l_agree : PySem.W.nsIn K mainGlobals "_law_agree" = some (some (.ref f_l_agree)))
    (l_l_agree : K.lookup f_l_agree = some ⟨q1_l_agree, o_l_agree, .func (PySem.W.fnOf "_law_agree" "_law_agree" (defArgs s_l_agree) (defBody s_l_agree) (defScope s_l_agree) .none q2_l_agree q3_l_agree q4_l_agree n_l_agree q5_l_agree q6_l_agree), w_l_agree⟩)
    (c_l_agree : PySem.W.codeIn K q5_l_agree "_law_agree" = true)
    (k_l_agree : PySem.W.keepIn K (.ref f_l_agree) = true)
    (a_law : PySem.W.nsIn K mainGlobals "law" = some (some (.ref f_law)))
    (l_law : K.lookup f_law = some ⟨q1_law, o_law, .func (PySem.W.fnOf "law" "law" (defArgs s_law) (defBody s_law) (defScope s_law) .none q2_law q3_law q4_law n_law q5_law q6_law), w_law⟩)
    (c_law : PySem.W.codeIn K q5_law "law" = true)
    (k_law : PySem.W.keepIn K (.ref f_law) = true)
    (z_abs : PySem.W.nsIn K mainGlobals "abs" = some none)
    (z_int : PySem.W.nsIn K mainGlobals "int" = some none)
    (z_range : PySem.W.nsIn K mainGlobals "range" = some none) : ∃ T : Txt K mg, T.a_law = f_law ∧ ∀ (s : Shared) (v : Value), BindsTo s T.d_law ⟨[v], []⟩ [("_law_script", v)] :=
  ⟨{ a_divisor := f_divisor,
      d_divisor := _,
      F_divisor := fun_mk (st := s_divisor) l_divisor c_divisor k_divisor,
      g_divisor := PySem.W.mg_of X G a_divisor,
      b_divisor := (fun_mk (st := s_divisor) l_divisor c_divisor k_divisor).binds fun _ _ _ _ _ _ us hl => match us, hl with | [_, _], _ => rfl,
      a_ratio := f_ratio,
      d_ratio := _,
      F_ratio := fun_mk (st := s_ratio) l_ratio c_ratio k_ratio,
      g_ratio := PySem.W.mg_of X G a_ratio,
      b_ratio := (fun_mk (st := s_ratio) l_ratio c_ratio k_ratio).binds fun _ _ _ _ _ _ us hl => match us, hl with | [_, _], _ => rfl,
      a_plus := f_plus,
      d_plus := _,
      F_plus := fun_mk (st := s_plus) l_plus c_plus k_plus,
      g_plus := PySem.W.mg_of X G a_plus,
      b_plus := (fun_mk (st := s_plus) l_plus c_plus k_plus).binds fun _ _ _ _ _ _ us hl => match us, hl with | [_, _], _ => rfl,
      a_minus := f_minus,
      d_minus := _,
      F_minus := fun_mk (st := s_minus) l_minus c_minus k_minus,
      g_minus := PySem.W.mg_of X G a_minus,
      b_minus := (fun_mk (st := s_minus) l_minus c_minus k_minus).binds fun _ _ _ _ _ _ us hl => match us, hl with | [_, _], _ => rfl,
      a_times := f_times,
      d_times := _,
      F_times := fun_mk (st := s_times) l_times c_times k_times,
      g_times := PySem.W.mg_of X G a_times,
      b_times := (fun_mk (st := s_times) l_times c_times k_times).binds fun _ _ _ _ _ _ us hl => match us, hl with | [_, _], _ => rfl,
      a_below := f_below,
      d_below := _,
      F_below := fun_mk (st := s_below) l_below c_below k_below,
      g_below := PySem.W.mg_of X G a_below,
      b_below := (fun_mk (st := s_below) l_below c_below k_below).binds fun _ _ _ _ _ _ us hl => match us, hl with | [_, _], _ => rfl,
      a_l_stirred := f_l_stirred,
      d_l_stirred := _,
      F_l_stirred := fun_mk (st := s_l_stirred) l_l_stirred c_l_stirred k_l_stirred,
      g_l_stirred := PySem.W.mg_of X G a_l_stirred,
      b_l_stirred := (fun_mk (st := s_l_stirred) l_l_stirred c_l_stirred k_l_stirred).binds fun _ _ _ _ _ _ us hl => match us, hl with | [_, _], _ => rfl,
      a_l_opened := f_l_opened,
      d_l_opened := _,
      F_l_opened := fun_mk (st := s_l_opened) l_l_opened c_l_opened k_l_opened,
      g_l_opened := PySem.W.mg_of X G a_l_opened,
      b_l_opened := (fun_mk (st := s_l_opened) l_l_opened c_l_opened k_l_opened).binds fun _ _ _ _ _ _ us hl => match us, hl with | [_], _ => rfl,
      a_l_draw := f_l_draw,
      d_l_draw := _,
      F_l_draw := fun_mk (st := s_l_draw) l_l_draw c_l_draw k_l_draw,
      g_l_draw := PySem.W.mg_of X G a_l_draw,
      b_l_draw := (fun_mk (st := s_l_draw) l_l_draw c_l_draw k_l_draw).binds fun _ _ _ _ _ _ us hl => match us, hl with | [_, _], _ => rfl,
      a_l_in_lowest := f_l_in_lowest,
      d_l_in_lowest := _,
      F_l_in_lowest := fun_mk (st := s_l_in_lowest) l_l_in_lowest c_l_in_lowest k_l_in_lowest,
      g_l_in_lowest := PySem.W.mg_of X G a_l_in_lowest,
      b_l_in_lowest := (fun_mk (st := s_l_in_lowest) l_l_in_lowest c_l_in_lowest k_l_in_lowest).binds fun _ _ _ _ _ _ us hl => match us, hl with | [_, _], _ => rfl,
      a_l_fraction := f_l_fraction,
      d_l_fraction := _,
      F_l_fraction := fun_mk (st := s_l_fraction) l_l_fraction c_l_fraction k_l_fraction,
      g_l_fraction := PySem.W.mg_of X G a_l_fraction,
      b_l_fraction := (fun_mk (st := s_l_fraction) l_l_fraction c_l_fraction k_l_fraction).binds fun _ _ _ _ _ _ us hl => match us, hl with | [_], _ => rfl,
      a_l_agree := f_l_agree,
      d_l_agree := _,
      F_l_agree := fun_mk (st := s_l_agree) l_l_agree c_l_agree k_l_agree,
      g_l_agree := PySem.W.mg_of X G a_l_agree,
      b_l_agree := (fun_mk (st := s_l_agree) l_l_agree c_l_agree k_l_agree).binds fun _ _ _ _ _ _ us hl => match us, hl with | [_, _, _], _ => rfl,
      a_law := f_law,
      d_law := _,
      F_law := fun_mk (st := s_law) l_law c_law k_law,
      g_law := PySem.W.mg_of X G a_law,
      b_law := (fun_mk (st := s_law) l_law c_law k_law).binds fun _ _ _ _ _ _ us hl => match us, hl with | [_], _ => rfl,
      z_abs := PySem.W.mg_none_of X G z_abs,
      z_int := PySem.W.mg_none_of X G z_int,
      z_range := PySem.W.mg_none_of X G z_range }, rfl, fun _ _ => .of_eq rfl⟩
theorem all_mk {P : Program} {w : World} {K : PySem.W.Frag} {h : Heap} {mg : Str → Option Value} {fa : Addr} {f_divisor : Addr} {o_divisor n_divisor : Option Addr} {w_divisor : Array (Option Value)} {q1_divisor q2_divisor q3_divisor q4_divisor q5_divisor q6_divisor : Value} {f_ratio : Addr} {o_ratio n_ratio : Option Addr} {w_ratio : Array (Option Value)} {q1_ratio q2_ratio q3_ratio q4_ratio q5_ratio q6_ratio : Value} {f_plus : Addr} {o_plus n_plus : Option Addr} {w_plus : Array (Option Value)} {q1_plus q2_plus q3_plus q4_plus q5_plus q6_plus : Value} {f_minus : Addr} {o_minus n_minus : Option Addr} {w_minus : Array (Option Value)} {q1_minus q2_minus q3_minus q4_minus q5_minus q6_minus : Value} {f_times : Addr} {o_times n_times : Option Addr} {w_times : Array (Option Value)} {q1_times q2_times q3_times q4_times q5_times q6_times : Value} {f_below : Addr} {o_below n_below : Option Addr} {w_below : Array (Option Value)} {q1_below q2_below q3_below q4_below q5_below q6_below : Value} {f_l_stirred : Addr} {o_l_stirred n_l_stirred : Option Addr} {w_l_stirred : Array (Option Value)} {q1_l_stirred q2_l_stirred q3_l_stirred q4_l_stirred q5_l_stirred q6_l_stirred : Value} {f_l_opened : Addr} {o_l_opened n_l_opened : Option Addr} {w_l_opened : Array (Option Value)} {q1_l_opened q2_l_opened q3_l_opened q4_l_opened q5_l_opened q6_l_opened : Value} {f_l_draw : Addr} {o_l_draw n_l_draw : Option Addr} {w_l_draw : Array (Option Value)} {q1_l_draw q2_l_draw q3_l_draw q4_l_draw q5_l_draw q6_l_draw : Value} {f_l_in_lowest : Addr} {o_l_in_lowest n_l_in_lowest : Option Addr} {w_l_in_lowest : Array (Option Value)} {q1_l_in_lowest q2_l_in_lowest q3_l_in_lowest q4_l_in_lowest q5_l_in_lowest q6_l_in_lowest : Value} {f_l_fraction : Addr} {o_l_fraction n_l_fraction : Option Addr} {w_l_fraction : Array (Option Value)} {q1_l_fraction q2_l_fraction q3_l_fraction q4_l_fraction q5_l_fraction q6_l_fraction : Value} {f_l_agree : Addr} {o_l_agree n_l_agree : Option Addr} {w_l_agree : Array (Option Value)} {q1_l_agree q2_l_agree q3_l_agree q4_l_agree q5_l_agree q6_l_agree : Value} {f_law : Addr} {o_law n_law : Option Addr} {w_law : Array (Option Value)} {q1_law q2_law q3_law q4_law q5_law q6_law : Value} (X : K.In h) (G : h.Ns mainGlobals mg) (hfa : mg "law" = some (.ref fa))
    (a_divisor : PySem.W.nsIn K mainGlobals "divisor" = some (some (.ref f_divisor)))
    (l_divisor : K.lookup f_divisor = some ⟨q1_divisor, o_divisor, .func (PySem.W.fnOf "divisor" "divisor" (defArgs s_divisor) (defBody s_divisor) (defScope s_divisor) .none q2_divisor q3_divisor q4_divisor n_divisor q5_divisor q6_divisor), w_divisor⟩)
    (c_divisor : PySem.W.codeIn K q5_divisor "divisor" = true)
    (k_divisor : PySem.W.keepIn K (.ref f_divisor) = true)
    (a_ratio : PySem.W.nsIn K mainGlobals "ratio" = some (some (.ref f_ratio)))
    (l_ratio : K.lookup f_ratio = some ⟨q1_ratio, o_ratio, .func (PySem.W.fnOf "ratio" "ratio" (defArgs s_ratio) (defBody s_ratio) (defScope s_ratio) .none q2_ratio q3_ratio q4_ratio n_ratio q5_ratio q6_ratio), w_ratio⟩)
    (c_ratio : PySem.W.codeIn K q5_ratio "ratio" = true)
    (k_ratio : PySem.W.keepIn K (.ref f_ratio) = true)
    (a_plus : PySem.W.nsIn K mainGlobals "plus" = some (some (.ref f_plus)))
    (l_plus : K.lookup f_plus = some ⟨q1_plus, o_plus, .func (PySem.W.fnOf "plus" "plus" (defArgs s_plus) (defBody s_plus) (defScope s_plus) .none q2_plus q3_plus q4_plus n_plus q5_plus q6_plus), w_plus⟩)
    (c_plus : PySem.W.codeIn K q5_plus "plus" = true)
    (k_plus : PySem.W.keepIn K (.ref f_plus) = true)
    (a_minus : PySem.W.nsIn K mainGlobals "minus" = some (some (.ref f_minus)))
    (l_minus : K.lookup f_minus = some ⟨q1_minus, o_minus, .func (PySem.W.fnOf "minus" "minus" (defArgs s_minus) (defBody s_minus) (defScope s_minus) .none q2_minus q3_minus q4_minus n_minus q5_minus q6_minus), w_minus⟩)
    (c_minus : PySem.W.codeIn K q5_minus "minus" = true)
    (k_minus : PySem.W.keepIn K (.ref f_minus) = true)
    (a_times : PySem.W.nsIn K mainGlobals "times" = some (some (.ref f_times)))
    (l_times : K.lookup f_times = some ⟨q1_times, o_times, .func (PySem.W.fnOf "times" "times" (defArgs s_times) (defBody s_times) (defScope s_times) .none q2_times q3_times q4_times n_times q5_times q6_times), w_times⟩)
    (c_times : PySem.W.codeIn K q5_times "times" = true)
    (k_times : PySem.W.keepIn K (.ref f_times) = true)
    (a_below : PySem.W.nsIn K mainGlobals "below" = some (some (.ref f_below)))
    (l_below : K.lookup f_below = some ⟨q1_below, o_below, .func (PySem.W.fnOf "below" "below" (defArgs s_below) (defBody s_below) (defScope s_below) .none q2_below q3_below q4_below n_below q5_below q6_below), w_below⟩)
    (c_below : PySem.W.codeIn K q5_below "below" = true)
    (k_below : PySem.W.keepIn K (.ref f_below) = true)
    (a_l_stirred : PySem.W.nsIn K mainGlobals "_law_stirred" = some (some (.ref f_l_stirred)))
    (l_l_stirred : K.lookup f_l_stirred = some ⟨q1_l_stirred, o_l_stirred, .func (PySem.W.fnOf "_law_stirred" "_law_stirred" (defArgs s_l_stirred) (defBody s_l_stirred) (defScope s_l_stirred) .none q2_l_stirred q3_l_stirred q4_l_stirred n_l_stirred q5_l_stirred q6_l_stirred), w_l_stirred⟩)
    (c_l_stirred : PySem.W.codeIn K q5_l_stirred "_law_stirred" = true)
    (k_l_stirred : PySem.W.keepIn K (.ref f_l_stirred) = true)
    (a_l_opened : PySem.W.nsIn K mainGlobals "_law_opened" = some (some (.ref f_l_opened)))
    (l_l_opened : K.lookup f_l_opened = some ⟨q1_l_opened, o_l_opened, .func (PySem.W.fnOf "_law_opened" "_law_opened" (defArgs s_l_opened) (defBody s_l_opened) (defScope s_l_opened) .none q2_l_opened q3_l_opened q4_l_opened n_l_opened q5_l_opened q6_l_opened), w_l_opened⟩)
    (c_l_opened : PySem.W.codeIn K q5_l_opened "_law_opened" = true)
    (k_l_opened : PySem.W.keepIn K (.ref f_l_opened) = true)
    (a_l_draw : PySem.W.nsIn K mainGlobals "_law_draw" = some (some (.ref f_l_draw)))
    (l_l_draw : K.lookup f_l_draw = some ⟨q1_l_draw, o_l_draw, .func (PySem.W.fnOf "_law_draw" "_law_draw" (defArgs s_l_draw) (defBody s_l_draw) (defScope s_l_draw) .none q2_l_draw q3_l_draw q4_l_draw n_l_draw q5_l_draw q6_l_draw), w_l_draw⟩)
    (c_l_draw : PySem.W.codeIn K q5_l_draw "_law_draw" = true)
    (k_l_draw : PySem.W.keepIn K (.ref f_l_draw) = true)
    (a_l_in_lowest : PySem.W.nsIn K mainGlobals "_law_in_lowest" = some (some (.ref f_l_in_lowest)))
    (l_l_in_lowest : K.lookup f_l_in_lowest = some ⟨q1_l_in_lowest, o_l_in_lowest, .func (PySem.W.fnOf "_law_in_lowest" "_law_in_lowest" (defArgs s_l_in_lowest) (defBody s_l_in_lowest) (defScope s_l_in_lowest) .none q2_l_in_lowest q3_l_in_lowest q4_l_in_lowest n_l_in_lowest q5_l_in_lowest q6_l_in_lowest), w_l_in_lowest⟩)
    (c_l_in_lowest : PySem.W.codeIn K q5_l_in_lowest "_law_in_lowest" = true)
    (k_l_in_lowest : PySem.W.keepIn K (.ref f_l_in_lowest) = true)
    (a_l_fraction : PySem.W.nsIn K mainGlobals "_law_fraction" = some (some (.ref f_l_fraction)))
    (l_l_fraction : K.lookup f_l_fraction = some ⟨q1_l_fraction, o_l_fraction, .func (PySem.W.fnOf "_law_fraction" "_law_fraction" (defArgs s_l_fraction) (defBody s_l_fraction) (defScope s_l_fraction) .none q2_l_fraction q3_l_fraction q4_l_fraction n_l_fraction q5_l_fraction q6_l_fraction), w_l_fraction⟩)
    (c_l_fraction : PySem.W.codeIn K q5_l_fraction "_law_fraction" = true)
    (k_l_fraction : PySem.W.keepIn K (.ref f_l_fraction) = true)
    (a_l_agree : PySem.W.nsIn K mainGlobals "_law_agree" = some (some (.ref f_l_agree)))
    (l_l_agree : K.lookup f_l_agree = some ⟨q1_l_agree, o_l_agree, .func (PySem.W.fnOf "_law_agree" "_law_agree" (defArgs s_l_agree) (defBody s_l_agree) (defScope s_l_agree) .none q2_l_agree q3_l_agree q4_l_agree n_l_agree q5_l_agree q6_l_agree), w_l_agree⟩)
    (c_l_agree : PySem.W.codeIn K q5_l_agree "_law_agree" = true)
    (k_l_agree : PySem.W.keepIn K (.ref f_l_agree) = true)
    (a_law : PySem.W.nsIn K mainGlobals "law" = some (some (.ref f_law)))
    (l_law : K.lookup f_law = some ⟨q1_law, o_law, .func (PySem.W.fnOf "law" "law" (defArgs s_law) (defBody s_law) (defScope s_law) .none q2_law q3_law q4_law n_law q5_law q6_law), w_law⟩)
    (c_law : PySem.W.codeIn K q5_law "law" = true)
    (k_law : PySem.W.keepIn K (.ref f_law) = true)
    (z_abs : PySem.W.nsIn K mainGlobals "abs" = some none)
    (z_int : PySem.W.nsIn K mainGlobals "int" = some none)
    (z_range : PySem.W.nsIn K mainGlobals "range" = some none) : ∃ fd : FuncData, (∀ (s : Shared) (v : Value), BindsTo s fd ⟨[v], []⟩ [("_law_script", v)]) ∧ ∀ base : Heap, K.In base → base.Ns mainGlobals mg → FnOk P w K mg base CX0 5 fa fd ["_law_script"] (sp_law K) := by
  obtain ⟨T, e1, e2⟩ := mk_txt X G a_divisor l_divisor c_divisor k_divisor a_ratio l_ratio c_ratio k_ratio a_plus l_plus c_plus k_plus a_minus l_minus c_minus k_minus a_times l_times c_times k_times a_below l_below c_below k_below a_l_stirred l_l_stirred c_l_stirred k_l_stirred a_l_opened l_l_opened c_l_opened k_l_opened a_l_draw l_l_draw c_l_draw k_l_draw a_l_in_lowest l_l_in_lowest c_l_in_lowest k_l_in_lowest a_l_fraction l_l_fraction c_l_fraction k_l_fraction a_l_agree l_l_agree c_l_agree k_l_agree a_law l_law c_law k_law z_abs z_int z_range
  have e := hfa.symm.trans (PySem.W.mg_of X G a_law)
  cases e
  exact ⟨T.d_law, e2, fun base _ _ => e1 ▸ ok_law T⟩
end K04
open PySem PySem.W PyProof.Rows
set_option maxHeartbeats 0 in
theorem PySem.Challenge.cw_hostfields_k04_whole_reckoning_agrees_holds : PySem.Challenge.rw_hostfields_k04_whole_reckoning_agrees.Holds := by
  w_on; o_law; k_head; (case hw => w_witness2)
  k_fill
  refine L2.walk_of (l := PySem.Challenge.rw_hostfields_k04_whole_reckoning_agrees) (n := 63) (k := 5) (x := "_law_script") (CX := fun _ => L2.CX0) (sp := fun w => K04.sp_law _) rfl (by decide) rfl ⟨rfl, by decide, by decide⟩ (fun w h Y => PySem.W.kIn_of Y) ?F (fun _ _ a ns hl _ hS => ⟨a, ns, rfl, hS, hl, fun _ => rfl⟩) (fun _ _ _ _ _ h => h)
  case F =>
    intro w mg fa h KX G hmg
    refine' K04.all_mk KX G hmg ?a_divisor ?l_divisor ?c_divisor ?k_divisor ?a_ratio ?l_ratio ?c_ratio ?k_ratio ?a_plus ?l_plus ?c_plus ?k_plus ?a_minus ?l_minus ?c_minus ?k_minus ?a_times ?l_times ?c_times ?k_times ?a_below ?l_below ?c_below ?k_below ?a_l_stirred ?l_l_stirred ?c_l_stirred ?k_l_stirred ?a_l_opened ?l_l_opened ?c_l_opened ?k_l_opened ?a_l_draw ?l_l_draw ?c_l_draw ?k_l_draw ?a_l_in_lowest ?l_l_in_lowest ?c_l_in_lowest ?k_l_in_lowest ?a_l_fraction ?l_l_fraction ?c_l_fraction ?k_l_fraction ?a_l_agree ?l_l_agree ?c_l_agree ?k_l_agree ?a_law ?l_law ?c_law ?k_law ?z_abs ?z_int ?z_range
    (case a_divisor => k_is); (case l_divisor => k_is); (case c_divisor => k_is); (case k_divisor => k_is); (case a_ratio => k_is); (case l_ratio => k_is); (case c_ratio => k_is); (case k_ratio => k_is); (case a_plus => k_is); (case l_plus => k_is); (case c_plus => k_is); (case k_plus => k_is); (case a_minus => k_is); (case l_minus => k_is); (case c_minus => k_is); (case k_minus => k_is); (case a_times => k_is); (case l_times => k_is); (case c_times => k_is); (case k_times => k_is); (case a_below => k_is); (case l_below => k_is); (case c_below => k_is); (case k_below => k_is); (case a_l_stirred => k_is); (case l_l_stirred => k_is); (case c_l_stirred => k_is); (case k_l_stirred => k_is); (case a_l_opened => k_is); (case l_l_opened => k_is); (case c_l_opened => k_is); (case k_l_opened => k_is); (case a_l_draw => k_is); (case l_l_draw => k_is); (case c_l_draw => k_is); (case k_l_draw => k_is); (case a_l_in_lowest => k_is); (case l_l_in_lowest => k_is); (case c_l_in_lowest => k_is); (case k_l_in_lowest => k_is); (case a_l_fraction => k_is); (case l_l_fraction => k_is); (case c_l_fraction => k_is); (case k_l_fraction => k_is); (case a_l_agree => k_is); (case l_l_agree => k_is); (case c_l_agree => k_is); (case k_l_agree => k_is); (case a_law => k_is); (case l_law => k_is); (case c_law => k_is); (case k_law => k_is); (case z_abs => k_is); (case z_int => k_is); (case z_range => k_is)

