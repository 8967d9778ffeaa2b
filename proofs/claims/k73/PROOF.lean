import PyProof.Rows.All
import Wide.All
import OpenK.AllK
import Wide.FinOn
import HandS.ForMost
import HandS.Wide
import HandS.IsInst
import HandS.TupAny
import HandS.TryOnly
import HandS.Style
import HandS.Conv
import HandS.Exc
import HandS.ExcIs
import HandS.ExcOwn
import HandS.ExcInit
import HandS.ExcField
import HandS.ClsMeth
import HandS.WordsExc
import KE.KExcIs
import PyProof.MaxThree
import PySem.Challenge.RW_hostfields_k73_mixes_held_against_one_an
set_option Elab.async false
set_option linter.all false
set_option maxRecDepth 100000
set_option maxHeartbeats 4000000
/-! ## the engine: the readings, one step a lemma; «walk_at "go"» walks as far as it goes -/
namespace Hf
open PySem PySem.Spec PyProof.Rows L2
/-- every tracked object but the one at a is as it was -/
def But (a : Addr) (H H' : Hp) : Prop := ∀ b o, b ≠ a → H b = some o → H' b = some o
theorem But.same {a : Addr} {H H' : Hp} (e : Same H H') : But a H H' := fun b o _ h => e b o h
theorem But.refl (a : Addr) (H : Hp) : But a H H := fun _ _ _ h => h
theorem But.trans {a : Addr} {H H1 H2 : Hp} (x : But a H H1) (y : But a H1 H2) : But a H H2 := fun b o n h => y b o n (x b o n h)
theorem But.upd {a : Addr} {H H1 : Hp} {o : HO} (x : But a H H1) : But a H (upd H1 a o) := fun b u n h => by
  rw [upd_ne n]
  exact x b u n h
theorem But.new {a p : Addr} {H H1 : Hp} {o : HO} (x : But a H H1) (hp : H1 p = none) : But a H (L2.upd H1 p o) := fun b u n h => by
  have h1 := x b u n h
  rw [upd_ne (ne_of_none h1 hp)]
  exact h1
theorem But.to_same {a : Addr} {H H' : Hp} (x : But a H H') (n : H a = none) : Same H H' := fun b o h => x b o (ne_of_none h n) h
theorem Same.new {H : Hp} {p : Addr} {o : HO} (hp : H p = none) : Same H (upd H p o) := fun b u h => by
  rw [upd_ne (ne_of_none h hp)]
  exact h
theorem Same.newT {H0 H : Hp} {p : Addr} {o : HO} (e : Same H0 H) (hp : H p = none) : Same H0 (upd H p o) := e.trans (Same.new hp)
/-- a change at an object that H0 does not know -/
theorem Same.mut {H0 H : Hp} {p : Addr} {o : HO} (e : Same H0 H) (hp : H0 p = none) : Same H0 (upd H p o) := fun b u h => by
  rw [upd_ne (ne_of_none h hp)]
  exact e b u h
theorem Same.but {H0 H H1 : Hp} {p : Addr} (e : Same H0 H) (hp : H0 p = none) (x : But p H H1) : Same H0 H1 := fun b u h => x b u (ne_of_none h hp) (e b u h)
theorem Same.seqT {K : PySem.W.Frag} {H H' : Hp} {a : Addr} {xs : List V} (e : Same H H') (h : SqT K H a xs) : SqT K H' a xs := by
  rcases h with (h | ⟨o, h⟩) | h
  · exact .inl (.inl (e _ _ h))
  · exact .inl (.inr ⟨o, e _ _ h⟩)
  · exact .inr h
theorem But.seq {K : PySem.W.Frag} {H H' : Hp} {a b : Addr} {xs : List V} (e : But a H H') (n : b ≠ a) (h : SqL K H b xs) : SqL K H' b xs := by
  rcases h with (h | ⟨o, h⟩) | h
  · exact .inl (.inl (e _ _ n h))
  · exact .inl (.inr ⟨o, e _ _ n h⟩)
  · exact .inr h
theorem But.seqT {K : PySem.W.Frag} {H H' : Hp} {a b : Addr} {xs : List V} (e : But a H H') (n : b ≠ a) (h : SqT K H b xs) : SqT K H' b xs := by
  rcases h with (h | ⟨o, h⟩) | h
  · exact .inl (.inl (e _ _ n h))
  · exact .inl (.inr ⟨o, e _ _ n h⟩)
  · exact .inr h
/-- a guard: its way is barred where P is at hand -/
def Guard (_ : Prop) : Prop := True
theorem Guard.of {P : Prop} (_ : P) : Guard P := trivial
theorem lk_upd {H : Hp} {a b : Addr} {o u : HO} (n : b ≠ a) (h : H b = some u) : upd H a o b = some u := by
  rw [upd_ne n]
  exact h
theorem lk_new {H : Hp} {a b : Addr} {o u : HO} (n : H a = none) (h : H b = some u) : upd H a o b = some u := by
  rw [upd_ne (ne_of_none h n)]
  exact h
theorem lk_updG {H : Hp} {a b : Addr} {o u : HO} (_ : Guard (H a = none)) (n : b ≠ a) (h : H b = some u) : upd H a o b = some u := lk_upd n h
theorem lk_none {H H' : Hp} {a : Addr} (e : Same H H') (n : H' a = none) : H a = none := e.free n
theorem lkL_new {K : PySem.W.Frag} {H : Hp} {a b : Addr} {o : HO} {xs : List V} (n : H a = none) (h : SqL K H b xs) : SqL K (upd H a o) b xs := (Same.new n).seq h
theorem lkT_new {K : PySem.W.Frag} {H : Hp} {a b : Addr} {o : HO} {xs : List V} (n : H a = none) (h : SqT K H b xs) : SqT K (upd H a o) b xs := Same.seqT (Same.new n) h
theorem lkL_upd {K : PySem.W.Frag} {H : Hp} {a b : Addr} {o : HO} {xs : List V} (n : b ≠ a) (h : SqL K H b xs) : SqL K (upd H a o) b xs := But.seq (But.upd (But.refl a H)) n h
theorem lkT_upd {K : PySem.W.Frag} {H : Hp} {a b : Addr} {o : HO} {xs : List V} (n : b ≠ a) (h : SqT K H b xs) : SqT K (upd H a o) b xs := But.seqT (But.upd (But.refl a H)) n h
theorem lkL_updG {K : PySem.W.Frag} {H : Hp} {a b : Addr} {o : HO} {xs : List V} (_ : Guard (H a = none)) (n : b ≠ a) (h : SqL K H b xs) : SqL K (upd H a o) b xs := lkL_upd n h
theorem lkT_updG {K : PySem.W.Frag} {H : Hp} {a b : Addr} {o : HO} {xs : List V} (_ : Guard (H a = none)) (n : b ≠ a) (h : SqT K H b xs) : SqT K (upd H a o) b xs := lkT_upd n h
theorem ne_new {H : Hp} {a b : Addr} {o : HO} (n : H b = none) (h : H a = some o) : a ≠ b := ne_of_none h n
theorem ne_new' {H : Hp} {a b : Addr} {o : HO} (n : H b = none) (h : H a = some o) : b ≠ a := (ne_of_none h n).symm
theorem ne_at {α : Type} {a b : α} (h : a ≠ b) : b ≠ a := h.symm
/-! ### sizes -/
theorem sz4 {n : Nat} (h : n ≤ 1000000) : n ≤ sizeLine := Nat.le_trans h (by decide)
theorem sz4' {n : Nat} (h : n ≤ 1000000) : n < sizeLine := Nat.lt_of_le_of_lt h (by decide)
/-! ### two operators, wider -/
def CMulA (i j : Int) : Prop := CMul i j ∨ CMulW i j
theorem CMulA.ok {i j : Int} (h : CMulA i j) : IntMulOk i j := h.elim CMul.ok CMulW.ok
theorem op_mulA {X : Cx} : OpR X (binaryOp .Mult) (rI CMulA fun i j => .int (i * j)) := opI fun _ _ _ _ _ _ _ hc q => mul_int q hc.ok
def CDivA (_ j : Int) : Prop := j ≠ 0 ∧ j.natAbs.log2 < 9000
theorem op_fdivA {X : Cx} : OpR X (binaryOp .FloorDiv) (rI CDivA fun i j => .int (i.fdiv j)) := opI fun _ _ _ _ _ _ _ hc q => floordiv_int hc.1 q (.inl (PyProof.noPylong_of_log2 hc.2))
theorem mulL {i j : Int} (h : -(2 ^ 64) < i ∧ i < 2 ^ 64) : CMulA i j := .inl (.inl h)
theorem mulR {i j : Int} (h : -(2 ^ 64) < j ∧ j < 2 ^ 64) : CMulA i j := .inl (.inr h)
theorem log_lt {j : Int} {b : Nat} (h : j.natAbs < 2 ^ b) (h0 : 0 < b) (h9 : b ≤ 9000) : j.natAbs.log2 < 9000 := Nat.lt_of_lt_of_le (PySem.Flt.log2_lt_of h0 h) h9
theorem log_small {j : Int} (h : -(2 ^ 200) < j ∧ j < 2 ^ 200) : j.natAbs.log2 < 9000 := log_lt (b := 200) (by omega) (by decide) (by decide)
theorem mulW {i j : Int} {a b : Nat} (ha : i.natAbs < 2 ^ a) (hb : j.natAbs < 2 ^ b) (h0 : 0 < a) (h1 : 0 < b) (h : a + b ≤ 1000000) : CMulA i j := .inr (wide_mul ha hb h0 h1 h)
theorem divS {i j : Int} (h0 : j ≠ 0) (h : -(2 ^ 200) < j ∧ j < 2 ^ 200) : CDivA i j := ⟨h0, log_small h⟩
/-! ### the steps -/
section
variable {σ σ' : L2.St} {H : Hp} {Q : VK} {x y v : V} {i j : Int} {n : Nat} {nx bk ct : L2.St → Hp → Prop} {rt : VK} {K : PySem.W.Frag} {a p : Addr} {xs : List V}
theorem start_to {N : List Str} {vs : List V} {t : TS} {D : Ends} (e : start N vs = σ) (h : t D σ H) : t D (start N vs) H := by
  rw [e]
  exact h
theorem i_ends {t : TS} {rt : VK} (h : t ⟨fun _ H' => rt .non H', rt, fun _ _ => False, fun _ _ => False⟩ σ H) : t { nx := fun _ H' => rt .non H', rt := rt } σ H := h
theorem i_seq {t u : TS} (h : t ⟨u ⟨nx, rt, bk, ct⟩, rt, bk, ct⟩ σ H) : tSeq t u ⟨nx, rt, bk, ct⟩ σ H := h
theorem i_asg {te : TE} {g : TG} (h : te σ H fun x H1 => g x σ H1 nx) : tAsg te g ⟨nx, rt, bk, ct⟩ σ H := h
theorem i_gname {k : Nat} {Z : L2.St → Hp → Prop} (e : σ.set k (some v) = σ') (q : Z σ' H) : gName k v σ H Z := by
  subst e
  exact q
theorem i_ret {te : TE} (h : te σ H rt) : tRet te ⟨nx, rt, bk, ct⟩ σ H := h
theorem i_retN (h : rt .non H) : tRetN ⟨nx, rt, bk, ct⟩ σ H := h
theorem i_next (h : nx σ H) : tNext ⟨nx, rt, bk, ct⟩ σ H := h
theorem i_brk (h : bk σ H) : tBreak ⟨nx, rt, bk, ct⟩ σ H := h
theorem i_cnt (h : ct σ H) : tCont ⟨nx, rt, bk, ct⟩ σ H := h
theorem i_drop {te : TE} (h : te σ H fun _ H1 => nx σ H1) : tDrop te ⟨nx, rt, bk, ct⟩ σ H := h
theorem i_ifs {c : TT} {t u : TS} (h : c σ H fun b H1 => if b = true then t ⟨nx, rt, bk, ct⟩ σ H1 else u ⟨nx, rt, bk, ct⟩ σ H1) : tIfS c t u ⟨nx, rt, bk, ct⟩ σ H := h
theorem i_var {k : Nat} (h : σ[k]? = some (some v)) (q : Q v H) : tVar k σ H Q := ⟨v, h, q⟩
theorem i_c (q : Q v H) : tC v σ H Q := q
theorem i_op {r : R2} {ta tb : TE} (h : ta σ H fun x H1 => tb σ H1 fun y H2 => r x y H2 Q) : tOp r ta tb σ H Q := h
theorem i_un {r : V → Hp → VK → Prop} {ta : TE} (h : ta σ H fun x H1 => r x H1 Q) : tUn r ta σ H Q := h
theorem i_I0 {g : Int → Int → V} (q : Q (g i j) H) : rI0 g (.int i) (.int j) H Q := ⟨i, j, rfl, rfl, q⟩
theorem i_I {C : Int → Int → Prop} {g : Int → Int → V} (c : C i j) (q : Q (g i j) H) : rI C g (.int i) (.int j) H Q := ⟨i, j, rfl, rfl, c, q⟩
theorem i_pow {m : Int} (c : CPow i j) (e : i ^ j.toNat = m) (q : Q (.int m) H) : rI CPow (fun i j => .int (i ^ j.toNat)) (.int i) (.int j) H Q := ⟨i, j, rfl, rfl, c, by
  show Q (.int (i ^ j.toNat)) H
  rw [e]
  exact q⟩
theorem i_U {g : Int → V} (q : Q (g i) H) : rU g (.int i) H Q := ⟨i, rfl, q⟩
theorem i_eqI (q : Q (.bl (decide (i = j))) H) : rEq (.int i) (.int j) H Q := ⟨rfl, by
  have e : decide (V.int i = V.int j) = decide (i = j) := by
    by_cases h : i = j
    · rw [decide_eq_true h, decide_eq_true (congrArg V.int h)]
    · rw [decide_eq_false h, decide_eq_false fun z => h (V.int.inj z)]
  rw [e]
  exact q⟩
theorem i_neI (q : Q (.bl (!decide (i = j))) H) : rNe (.int i) (.int j) H Q := ⟨rfl, by
  have e : decide (V.int i = V.int j) = decide (i = j) := by
    by_cases h : i = j
    · rw [decide_eq_true h, decide_eq_true (congrArg V.int h)]
    · rw [decide_eq_false h, decide_eq_false fun z => h (V.int.inj z)]
  rw [e]
  exact q⟩
theorem i_eqB {c d : Bool} (q : Q (.bl (c == d)) H) : rEq (.bl c) (.bl d) H Q := ⟨rfl, by
  rw [dec_bl]
  exact q⟩
theorem i_neB {c d : Bool} (q : Q (.bl (!(c == d))) H) : rNe (.bl c) (.bl d) H Q := ⟨rfl, by
  rw [dec_bl]
  exact q⟩
theorem i_eqS {c d : Str} (q : Q (.bl (c == d)) H) : rEq (.str c) (.str d) H Q := ⟨rfl, by
  rw [dec_str]
  exact q⟩
theorem i_neS {c d : Str} (q : Q (.bl (!(c == d))) H) : rNe (.str c) (.str d) H Q := ⟨rfl, by
  rw [dec_str]
  exact q⟩
theorem i_test {te : TE} {P : Bool → Hp → Prop} (h : te σ H fun x H1 => ∃ k, x = .bl k ∧ P k H1) : tTest te σ H P := h
theorem i_B {te : TE} {P : Bool → Hp → Prop} (h : te σ H fun x H1 => ∃ k, x = .bl k ∧ P k H1) : tB te σ H P := h
theorem i_bl {b : Bool} {P : Bool → Prop} (q : P b) : ∃ k, V.bl b = .bl k ∧ P k := ⟨b, rfl, q⟩
theorem i_and {t u : TT} {P : Bool → Hp → Prop} (h : t σ H fun c H1 => if c = true then u σ H1 P else P false H1) : tAnd t u σ H P := h
theorem i_or {t u : TT} {P : Bool → Hp → Prop} (h : t σ H fun c H1 => if c = true then P true H1 else u σ H1 P) : tOr t u σ H P := h
theorem i_not {t : TT} {P : Bool → Hp → Prop} (h : t σ H fun c H1 => P (!c) H1) : tNot t σ H P := h
theorem i_andV {ta tb : TE} (h : ta σ H fun x H1 => ∃ c, x = .bl c ∧ if c = true then tb σ H1 Q else Q (.bl false) H1) : tAndV ta tb σ H Q := h
theorem i_orV {ta tb : TE} (h : ta σ H fun x H1 => ∃ c, x = .bl c ∧ if c = true then Q (.bl true) H1 else tb σ H1 Q) : tOrV ta tb σ H Q := h
theorem i_notV {ta : TE} (h : ta σ H fun x H1 => ∃ c, x = .bl c ∧ Q (.bl (!c)) H1) : tNotV ta σ H Q := h
theorem i_ife {t : TT} {ta tb : TE} (h : t σ H fun c H1 => if c = true then ta σ H1 Q else tb σ H1 Q) : tIf t ta tb σ H Q := h
theorem i_call {sp : Sp} {E : XK} {t : TA} (h : t σ H fun vs H1 => sp vs H1 Q E) : tCall sp [] E t σ H Q := by
  have e : (fun vs H1 => sp (vs ++ []) H1 Q E) = fun vs H1 => sp vs H1 Q E := by
    funext vs H1
    rw [List.append_nil]
  show t σ H (fun vs H1 => sp (vs ++ []) H1 Q E)
  rw [e]
  exact h
theorem i_cb {r : List V → Hp → VK → Prop} {t : TA} (h : t σ H fun vs H1 => r vs H1 Q) : tCB r t σ H Q := h
theorem i_nil {P : List V → Hp → Prop} (q : P [] H) : tNil σ H P := q
theorem i_cons {ta : TE} {tr : TA} {P : List V → Hp → Prop} (h : ta σ H fun x H1 => tr σ H1 fun xs H2 => P (x :: xs) H2) : tCons ta tr σ H P := h
theorem i_tup {t : TA} (h : t σ H fun xs H1 => xs.length ≤ sizeLine ∧ ∀ p, H1 p = none → Q (.ref p) (upd H1 p (.tup xs))) : tTup t σ H Q := h
theorem i_lst {t : TA} (h : t σ H fun xs H1 => xs.length ≤ sizeLine ∧ ∀ p, H1 p = none → Q (.ref p) (upd H1 p (.lst xs))) : tLst t σ H Q := h
theorem i_new {R : Addr → Prop} (hz : xs.length ≤ sizeLine) (q : ∀ p, H p = none → R p) : xs.length ≤ sizeLine ∧ ∀ p, H p = none → R p := ⟨hz, q⟩
theorem i_ixL (h : SqL K H p xs) (e : atI xs i = some v) (q : Q v H) : rIxL K (.ref p) (.int i) H Q := ⟨p, xs, i, v, rfl, rfl, h, e, q⟩
theorem i_ixT (h : SqT K H p xs) (e : atI xs i = some v) (q : Q v H) : rIxT K (.ref p) (.int i) H Q := ⟨p, xs, i, v, rfl, rfl, h, e, q⟩
theorem at_lt {α : Type} {xs : List α} {i : Int} (h0 : 0 ≤ i) (h1 : i < xs.length) : ∃ v, atI xs i = some v ∧ xs[i.toNat]? = some v := by
  have hk : i.toNat < xs.length := by omega
  refine ⟨xs[i.toNat], ?_, List.getElem?_eq_getElem hk⟩
  have e := atI_nat (xs := xs) (j := i.toNat) (v := xs[i.toNat]) (List.getElem?_eq_getElem hk)
  rw [Int.toNat_of_nonneg h0] at e
  exact e
/-- an item at an open place: one of those written -/
theorem i_ix2 {y1 y2 : V} (h : SqL K H p [y1, y2]) (h0 : 0 ≤ i) (h1 : i < 2) (q : ∀ v, v = y1 ∨ v = y2 → Q v H) : rIxL K (.ref p) (.int i) H Q := by
  rcases (by omega : i = 0 ∨ i = 1) with e | e <;> subst e
  · exact ⟨p, _, _, y1, rfl, rfl, h, rfl, q _ (.inl rfl)⟩
  · exact ⟨p, _, _, y2, rfl, rfl, h, rfl, q _ (.inr rfl)⟩
theorem i_ix2I {y1 y2 : Int} (h : SqL K H p [.int y1, .int y2]) (h0 : 0 ≤ i) (h1 : i < 2) (q : ∀ v, v = y1 ∨ v = y2 → Q (.int v) H) : rIxL K (.ref p) (.int i) H Q := by
  rcases (by omega : i = 0 ∨ i = 1) with e | e <;> subst e
  · exact ⟨p, _, _, .int y1, rfl, rfl, h, rfl, q _ (.inl rfl)⟩
  · exact ⟨p, _, _, .int y2, rfl, rfl, h, rfl, q _ (.inr rfl)⟩
theorem i_ix3I {y1 y2 y3 : Int} (h : SqL K H p [.int y1, .int y2, .int y3]) (h0 : 0 ≤ i) (h1 : i < 3) (q : ∀ v, v = y1 ∨ v = y2 ∨ v = y3 → Q (.int v) H) : rIxL K (.ref p) (.int i) H Q := by
  rcases (by omega : i = 0 ∨ i = 1 ∨ i = 2) with e | e | e <;> subst e
  · exact ⟨p, _, _, .int y1, rfl, rfl, h, rfl, q _ (.inl rfl)⟩
  · exact ⟨p, _, _, .int y2, rfl, rfl, h, rfl, q _ (.inr (.inl rfl))⟩
  · exact ⟨p, _, _, .int y3, rfl, rfl, h, rfl, q _ (.inr (.inr rfl))⟩
theorem i_ix4I {y1 y2 y3 y4 : Int} (h : SqL K H p [.int y1, .int y2, .int y3, .int y4]) (h0 : 0 ≤ i) (h1 : i < 4) (q : ∀ v, v = y1 ∨ v = y2 ∨ v = y3 ∨ v = y4 → Q (.int v) H) : rIxL K (.ref p) (.int i) H Q := by
  rcases (by omega : i = 0 ∨ i = 1 ∨ i = 2 ∨ i = 3) with e | e | e | e <;> subst e
  · exact ⟨p, _, _, .int y1, rfl, rfl, h, rfl, q _ (.inl rfl)⟩
  · exact ⟨p, _, _, .int y2, rfl, rfl, h, rfl, q _ (.inr (.inl rfl))⟩
  · exact ⟨p, _, _, .int y3, rfl, rfl, h, rfl, q _ (.inr (.inr (.inl rfl)))⟩
  · exact ⟨p, _, _, .int y4, rfl, rfl, h, rfl, q _ (.inr (.inr (.inr rfl)))⟩
theorem i_ix3R {y1 y2 y3 : Addr} (h : SqL K H p [.ref y1, .ref y2, .ref y3]) (h0 : 0 ≤ i) (h1 : i < 3) (q : ∀ v, v = y1 ∨ v = y2 ∨ v = y3 → Q (.ref v) H) : rIxL K (.ref p) (.int i) H Q := by
  rcases (by omega : i = 0 ∨ i = 1 ∨ i = 2) with e | e | e <;> subst e
  · exact ⟨p, _, _, .ref y1, rfl, rfl, h, rfl, q _ (.inl rfl)⟩
  · exact ⟨p, _, _, .ref y2, rfl, rfl, h, rfl, q _ (.inr (.inl rfl))⟩
  · exact ⟨p, _, _, .ref y3, rfl, rfl, h, rfl, q _ (.inr (.inr rfl))⟩
theorem i_ix4R {y1 y2 y3 y4 : Addr} (h : SqL K H p [.ref y1, .ref y2, .ref y3, .ref y4]) (h0 : 0 ≤ i) (h1 : i < 4) (q : ∀ v, v = y1 ∨ v = y2 ∨ v = y3 ∨ v = y4 → Q (.ref v) H) : rIxL K (.ref p) (.int i) H Q := by
  rcases (by omega : i = 0 ∨ i = 1 ∨ i = 2 ∨ i = 3) with e | e | e | e <;> subst e
  · exact ⟨p, _, _, .ref y1, rfl, rfl, h, rfl, q _ (.inl rfl)⟩
  · exact ⟨p, _, _, .ref y2, rfl, rfl, h, rfl, q _ (.inr (.inl rfl))⟩
  · exact ⟨p, _, _, .ref y3, rfl, rfl, h, rfl, q _ (.inr (.inr (.inl rfl)))⟩
  · exact ⟨p, _, _, .ref y4, rfl, rfl, h, rfl, q _ (.inr (.inr (.inr rfl)))⟩
theorem i_gtup {m : Nat} {t : TGs} {Z : L2.St → Hp → Prop} (h : SqT K H p xs) (e : xs.length = m) (q : t xs σ H Z) : gTup K m t (.ref p) σ H Z := ⟨p, xs, rfl, h, e, q⟩
theorem i_gtupL {m : Nat} {t : TGs} {Z : L2.St → Hp → Prop} (h : SqT K H p xs) (e : xs.length = m) (q : t xs σ H Z) : gTup K m t (.ref p) σ H Z := ⟨p, xs, rfl, h, e, q⟩
theorem i_gcons {t : TG} {u : TGs} {r : List V} {Z : L2.St → Hp → Prop} (h : t v σ H fun σ1 H1 => u r σ1 H1 Z) : gCons t u (v :: r) σ H Z := ⟨v, r, rfl, h⟩
theorem i_gnil {Z : L2.St → Hp → Prop} (h : Z σ H) : gNil [] σ H Z := ⟨rfl, h⟩
theorem i_gsub {to ti : TE} {t : TSet} {Z : L2.St → Hp → Prop} (h : to σ H fun o H1 => ti σ H1 fun i H2 => t o i v H2 fun H3 => Z σ H3) : gSub to ti t v σ H Z := h
theorem i_setL {k : Nat} {Z : Hp → Prop} (h : H p = some (.lst xs)) (e : ixN xs.length i = some k) (q : Z (upd H p (.lst (xs.set k v)))) : rSetL (.ref p) (.int i) v H Z := ⟨p, xs, i, k, rfl, rfl, h, e, q⟩
def par2 (k1 k2 : Nat) (σ : L2.St) (Z : L2.St → Hp → Prop) : List V → Hp → Prop := fun vs H1 => ∃ v w, vs = [v, w] ∧ Z ((σ.set k1 (some v)).set k2 (some w)) H1
theorem i_par {k1 k2 : Nat} {ta : TA} (h : ta σ H (par2 k1 k2 σ nx)) : tPar k1 k2 ta ⟨nx, rt, bk, ct⟩ σ H := h
theorem i_par2 {k1 k2 : Nat} {w : V} {Z : L2.St → Hp → Prop} (e : (σ.set k1 (some v)).set k2 (some w) = σ') (q : Z σ' H) : par2 k1 k2 σ Z [v, w] H := by
  subst e
  exact ⟨v, w, rfl, q⟩
theorem i_aug {k : Nat} {te : TE} {ti : TIp} (h : σ[k]? = some (some x)) (q : te σ H fun y H1 => ti x y H1 fun z H2 => gName k z σ H2 nx) : tAug k te ti ⟨nx, rt, bk, ct⟩ σ H := ⟨x, h, q⟩
theorem i_ip {f : Int → Int → Int} (q : Q (.int (f i j)) H) : ipI f (.int i) (.int j) H Q := ⟨i, j, rfl, rfl, q⟩
theorem i_for {wi : TI} {g : TG} {tb : TS} (h : wi σ H fun J H1 => ∃ W : Nat → Nat → L2.St → Hp → Prop, (∃ m, W 0 m σ H1) ∧ ∀ i m σ H, W i m σ H →
  (J.stop i H ∧ nx σ H) ∨ (J.go i H ∧ ∃ N : L2.St → Hp → Prop, (∀ σ' H', N σ' H' → ∃ m', m' < m ∧ W (i + 1) m' σ' H') ∧ ∀ x H', J.yld i H x H' → g x σ H' fun σ2 H2 => tb ⟨N, rt, nx, N⟩ σ2 H2)) : tFor wi g tb ⟨nx, rt, bk, ct⟩ σ H := h
theorem i_rng1 {ta : TA} {R : It → Hp → Prop} (h : ta σ H fun vs H1 => ∃ j : Int, vs = [.int j] ∧ -(2 ^ 62) ≤ j ∧ j < 2 ^ 62 ∧ R (Itr 0 j.toNat) H1) : iRng1 ta σ H R := h
theorem i_rng1' {R : Int → Prop} (h1 : -(2 ^ 62) ≤ j) (h2 : j < 2 ^ 62) (q : R j) : ∃ j' : Int, [V.int j] = [.int j'] ∧ -(2 ^ 62) ≤ j' ∧ j' < 2 ^ 62 ∧ R j' := ⟨j, rfl, h1, h2, q⟩
theorem i_rng2 {ta : TA} {R : It → Hp → Prop} (h : ta σ H fun vs H1 => ∃ i j : Int, vs = [.int i, .int j] ∧ (-(2 ^ 62) ≤ i ∧ i < 2 ^ 62 ∧ -(2 ^ 62) ≤ j ∧ j < 2 ^ 62) ∧ R (Itr i (j - i).toNat) H1) : iRng2 ta σ H R := h
theorem i_rng2' {R : Int → Int → Prop} (h : -(2 ^ 62) ≤ i ∧ i < 2 ^ 62 ∧ -(2 ^ 62) ≤ j ∧ j < 2 ^ 62) (q : R i j) : ∃ i' j' : Int, [V.int i, V.int j] = [.int i', .int j'] ∧ (-(2 ^ 62) ≤ i' ∧ i' < 2 ^ 62 ∧ -(2 ^ 62) ≤ j' ∧ j' < 2 ^ 62) ∧ R i' j' := ⟨i, j, rfl, h, q⟩
theorem i_ilist {tl : TE} {R : It → Hp → Prop} (h : tl σ H fun x H1 => ∃ a, x = .ref a ∧ (∃ xs, SqL K H1 a xs) ∧ R (Itl K a) H1) : iList K tl σ H R := h
theorem i_ilist' {R : Addr → Prop} (h : SqL K H p xs) (q : R p) : ∃ a, V.ref p = .ref a ∧ (∃ xs, SqL K H a xs) ∧ R a := ⟨p, rfl, ⟨xs, h⟩, q⟩
theorem i_itup {tl : TE} {R : It → Hp → Prop} (h : tl σ H fun x H1 => ∃ a, x = .ref a ∧ (∃ xs, SqT K H1 a xs) ∧ R (Itt K a) H1) : iTup K tl σ H R := h
theorem i_itup' {R : Addr → Prop} (h : SqT K H p xs) (q : R p) : ∃ a, V.ref p = .ref a ∧ (∃ xs, SqT K H a xs) ∧ R a := ⟨p, rfl, ⟨xs, h⟩, q⟩
/-- built-ins by values -/
theorem i_abs {R : Int → Prop} (q : R i) : ∃ i', [V.int i] = [.int i'] ∧ R i' := ⟨i, rfl, q⟩
theorem i_int2 {R : Int → Int → Prop} (q : R i j) : ∃ i' j', [V.int i, V.int j] = [.int i', .int j'] ∧ R i' j' := ⟨i, j, rfl, q⟩

theorem i_int1 {R : Int → Prop} {S : Prop} (q : R i) : (∃ i', [V.int i] = [.int i'] ∧ R i') ∨ S := .inl ⟨i, rfl, q⟩
theorem i_intb {b : Bool} {R : Bool → Prop} {S : Prop} (q : R b) : S ∨ ∃ k, [V.bl b] = [.bl k] ∧ R k := .inr ⟨b, rfl, q⟩
theorem i_lenL {R : List V → Prop} (h : SqL K H p xs) (q : R xs) : ∃ p' ys, [V.ref p] = [.ref p'] ∧ (SqL K H p' ys ∨ SqT K H p' ys) ∧ R ys := ⟨p, xs, rfl, .inl h, q⟩
theorem i_lenT {R : List V → Prop} (h : SqT K H p xs) (q : R xs) : ∃ p' ys, [V.ref p] = [.ref p'] ∧ (SqL K H p' ys ∨ SqT K H p' ys) ∧ R ys := ⟨p, xs, rfl, .inr h, q⟩
theorem i_isi {t : String} {c : String} {b : Bool} (ty : TyX K H x (.type t)) (h : kitB t c = some b) (q : Q (.bl b) H) : rIsi K [x, .ty c] H Q := ⟨x, .ty c, .type t, .type c, b, rfl, .ty c, ty, kit_ty h, q⟩
theorem i_append (h : H p = some (.lst xs)) (hz : xs.length < sizeLine) (q : Q .non (upd H p (.lst (xs ++ [v])))) : rAppend (.ref p) [v] H Q := ⟨p, xs, v, rfl, rfl, h, hz, q⟩
theorem i_appendM {H : Hp} {Q : VK} {p : Addr} {ms : List Int} {z : Int} (h : H p = some (.lst (ms.map V.int))) (hz : ms.length < sizeLine) (q : Q .non (upd H p (.lst ((ms ++ [z]).map V.int)))) : rAppend (.ref p) [.int z] H Q := ⟨p, _, _, rfl, rfl, h, by rw [List.length_map]; exact hz, by rw [List.map_append] at q; exact q⟩
theorem i_bm {T : String} {r : V → List V → Hp → VK → Prop} {to : TE} {t : TA} (h : to σ H fun x H1 => tyV K T x H1 ∧ t σ H1 fun xs H2 => r x xs H2 Q) : tBM K T r to t σ H Q := h
theorem i_bm0 {T : String} {r : V → List V → Hp → VK → Prop} {to : TE} (h : to σ H fun x H1 => tyV K T x H1 ∧ r x [] H1 Q) : tBM0 K T r to σ H Q := h
theorem i_bmL {A : Prop} (h : SqL K H p xs) (q : A) : tyV K "list" (.ref p) H ∧ A := ⟨.inl ⟨rfl, _, h⟩, q⟩
/-! ### ifs -/
theorem ite_d {p A B : Prop} {d : Decidable p} (h1 : p → A) (h2 : ¬ p → B) : if (@decide p d) = true then A else B := by
  by_cases h : p
  · rw [if_pos (decide_eq_true h)]
    exact h1 h
  · rw [if_neg (by rw [decide_eq_false h]; decide)]
    exact h2 h
theorem ite_nd {p A B : Prop} {d : Decidable p} (h1 : ¬ p → A) (h2 : p → B) : if (!(@decide p d)) = true then A else B := by
  by_cases h : p
  · rw [if_neg (by rw [decide_eq_true h]; decide)]
    exact h2 h
  · rw [if_pos (by rw [decide_eq_false h]; decide)]
    exact h1 h
theorem ite_b {b : Bool} {A B : Prop} (h1 : b = true → A) (h2 : b = false → B) : if b = true then A else B := by
  cases b
  · rw [if_neg (by decide)]
    exact h2 rfl
  · rw [if_pos rfl]
    exact h1 rfl
theorem ite_y {b : Bool} {A B : Prop} (e : b = true) (h : A) : if b = true then A else B := by
  rw [if_pos e]
  exact h
theorem ite_n {b : Bool} {A B : Prop} (e : b = false) (h : B) : if b = true then A else B := by
  rw [if_neg (by rw [e]; decide)]
  exact h
/-- both ways at once: what follows is asked of either -/
theorem ite_or {b : Bool} {R : Prop} {P : Bool → Prop} (h1 : b = true → P true → R) (h2 : b = false → P false → R) (hp : P b) : R := by
  cases b
  · exact h2 rfl hp
  · exact h1 rfl hp
end
end Hf
namespace Hf
open PySem PySem.Spec PyProof.Rows L2
theorem set_z {α : Type} {x y : α} {r : List α} : List.set (x :: r) 0 y = y :: r := rfl
theorem set_s {α : Type} {x y : α} {r r' : List α} {k : Nat} (h : List.set r k y = r') : List.set (x :: r) (k + 1) y = x :: r' := by
  rw [List.set_cons_succ, h]
theorem set_par {α : Type} {l l1 l2 : List α} {j k : Nat} {y z : α} (h1 : l.set j y = l1) (h2 : l1.set k z = l2) : (l.set j y).set k z = l2 := by
  rw [h1, h2]
theorem lk_same {H H' : Hp} {a : Addr} {o : HO} (e : Same H H') (h : H a = some o) : H' a = some o := e a o h
theorem lk_but {H H' : Hp} {a b : Addr} {o : HO} (e : But a H H') (n : b ≠ a) (h : H b = some o) : H' b = some o := e b o n h
end Hf

namespace Hf
open PySem PySem.Spec PyProof.Rows L2
/-! ### loops -/
section
variable {σ : L2.St} {H : Hp} {Q : VK} {nx bk ct : L2.St → Hp → Prop} {rt : VK} {K : PySem.W.Frag} {a : Addr} {xs : List V} {g : TG} {tb : TS} {lo : Int} {n : Nat}
theorem forR (Pv : Nat → L2.St → Hp → Prop) (h0 : Pv 0 σ H) (hd : ∀ σ H, Pv n σ H → nx σ H)
    (hs : ∀ (i : Nat) σ H, i < n → Pv i σ H → g (.int (lo + i)) σ H fun σ2 H2 => tb ⟨Pv (i + 1), rt, nx, Pv (i + 1)⟩ σ2 H2) :
    ∃ W : Nat → Nat → L2.St → Hp → Prop, (∃ m, W 0 m σ H) ∧ ∀ i m σ H, W i m σ H →
      ((Itr lo n).stop i H ∧ nx σ H) ∨ ((Itr lo n).go i H ∧ ∃ N : L2.St → Hp → Prop, (∀ σ' H', N σ' H' → ∃ m', m' < m ∧ W (i + 1) m' σ' H') ∧ ∀ x H', (Itr lo n).yld i H x H' → g x σ H' fun σ2 H2 => tb ⟨N, rt, nx, N⟩ σ2 H2) :=
  for_range (D := ⟨nx, rt, fun _ _ => False, fun _ _ => False⟩) Pv h0 hs hd
theorem forL (Pv : Nat → L2.St → Hp → Prop) (h0 : Pv 0 σ H) (hl : ∀ i σ H, i ≤ xs.length → Pv i σ H → SqL K H a xs) (hd : ∀ σ H, Pv xs.length σ H → nx σ H)
    (hs : ∀ i x σ H, xs[i]? = some x → Pv i σ H → g x σ H fun σ2 H2 => tb ⟨Pv (i + 1), rt, nx, Pv (i + 1)⟩ σ2 H2) :
    ∃ W : Nat → Nat → L2.St → Hp → Prop, (∃ m, W 0 m σ H) ∧ ∀ i m σ H, W i m σ H →
      ((Itl K a).stop i H ∧ nx σ H) ∨ ((Itl K a).go i H ∧ ∃ N : L2.St → Hp → Prop, (∀ σ' H', N σ' H' → ∃ m', m' < m ∧ W (i + 1) m' σ' H') ∧ ∀ x H', (Itl K a).yld i H x H' → g x σ H' fun σ2 H2 => tb ⟨N, rt, nx, N⟩ σ2 H2) :=
  for_list (D := ⟨nx, rt, fun _ _ => False, fun _ _ => False⟩) Pv h0 hl hs hd
theorem forT (Pv : Nat → L2.St → Hp → Prop) (h0 : Pv 0 σ H) (hl : ∀ i σ H, i ≤ xs.length → Pv i σ H → SqT K H a xs) (hd : ∀ σ H, Pv xs.length σ H → nx σ H)
    (hs : ∀ i x σ H, xs[i]? = some x → Pv i σ H → g x σ H fun σ2 H2 => tb ⟨Pv (i + 1), rt, nx, Pv (i + 1)⟩ σ2 H2) :
    ∃ W : Nat → Nat → L2.St → Hp → Prop, (∃ m, W 0 m σ H) ∧ ∀ i m σ H, W i m σ H →
      ((Itt K a).stop i H ∧ nx σ H) ∨ ((Itt K a).go i H ∧ ∃ N : L2.St → Hp → Prop, (∀ σ' H', N σ' H' → ∃ m', m' < m ∧ W (i + 1) m' σ' H') ∧ ∀ x H', (Itt K a).yld i H x H' → g x σ H' fun σ2 H2 => tb ⟨N, rt, nx, N⟩ σ2 H2) :=
  for_tup (D := ⟨nx, rt, fun _ _ => False, fun _ _ => False⟩) Pv h0 hl hs hd
/-- while: W by a measure; the test is read by hand, its two ways by turnW and the loop's end -/
theorem whileW {c : TT} (W : Nat → L2.St → Hp → Prop) (m : Nat) (h0 : W m σ H)
    (hs : ∀ m σ H, W m σ H → c σ H fun b H1 => if b = true then ∃ N : L2.St → Hp → Prop, (∀ σ' H', N σ' H' → ∃ m', m' < m ∧ W m' σ' H') ∧ tb ⟨N, rt, nx, N⟩ σ H1 else nx σ H1) : tWhile c tb ⟨nx, rt, bk, ct⟩ σ H :=
  ⟨W, ⟨m, h0⟩, hs⟩
theorem turnW {W : Nat → L2.St → Hp → Prop} {m : Nat} (h : tb ⟨fun σ' H' => ∃ m', m' < m ∧ W m' σ' H', rt, nx, fun σ' H' => ∃ m', m' < m ∧ W m' σ' H'⟩ σ H) :
    ∃ N : L2.St → Hp → Prop, (∀ σ' H', N σ' H' → ∃ m', m' < m ∧ W m' σ' H') ∧ tb ⟨N, rt, nx, N⟩ σ H := ⟨_, fun _ _ h => h, h⟩
end
theorem But.free {a p : Addr} {o : HO} {H H' : Hp} (hn : H' p = none) (e : But a H H') (ha : H' a = some o) : H p = none := by
  cases h : H p with
  | none => rfl
  | some u =>
    by_cases hp : p = a
    · rw [hp, ha] at hn
      cases hn
    · rw [e p u hp h] at hn
      cases hn
theorem Same.free' {p : Addr} {H H' : Hp} (hn : H' p = none) (e : Same H H') : H p = none := e.free hn
theorem But.newT {a p : Addr} {H H1 : Hp} {o : HO} (hp : H1 p = none) (x : But a H H1) : But a H (L2.upd H1 p o) := But.new x hp
theorem But.transT {a : Addr} {H H1 H2 : Hp} (y : But a H1 H2) (x : But a H H1) : But a H H2 := But.trans x y
theorem Same.transT {H H1 H2 : Hp} (y : Same H1 H2) (x : Same H H1) : Same H H2 := x.trans y
theorem Same.newT' {H H1 : Hp} {p : Addr} {o : HO} (hp : H1 p = none) (x : Same H H1) : Same H (upd H1 p o) := Same.newT x hp
theorem But.transS {a : Addr} {H H1 H2 : Hp} (y : Same H1 H2) (x : But a H H1) : But a H H2 := fun b o n h => y b o (x b o n h)
theorem Same.butT {H0 H H1 : Hp} {p : Addr} (x : But p H H1) (hp : H0 p = none) (e : Same H0 H) : Same H0 H1 := Same.but e hp x
/-! ### slices, sums of lists -/
theorem six_nn {n d : Nat} {k : Int} (h : 0 ≤ k) : HT.sIx n d (some k) = min k.toNat n := by
  obtain ⟨m, rfl⟩ := Int.eq_ofNat_of_zero_le h
  exact HT.sIx_nat n d m
theorem cut_to {xs : List V} {k : Int} (h : 0 ≤ k) : cutV xs none (some k) = xs.take k.toNat := by
  unfold cutV
  rw [six_nn h, HT.sIx_none, List.drop_zero, Nat.sub_zero]
  exact List.take_eq_take_iff.mpr (by omega)
theorem cut_from {xs : List V} {k : Int} (h : 0 ≤ k) : cutV xs (some k) none = xs.drop k.toNat := by
  unfold cutV
  rw [six_nn h, HT.sIx_none, List.take_of_length_le (by rw [List.length_drop]; omega)]
  by_cases c : k.toNat ≤ xs.length
  · rw [Nat.min_eq_left c]
  · rw [Nat.min_eq_right (show xs.length ≤ k.toNat by omega), List.drop_length, List.drop_eq_nil_of_le (show xs.length ≤ k.toNat by omega)]
theorem cut_mid {xs : List V} {j k : Int} (h : 0 ≤ j) (h' : 0 ≤ k) : cutV xs (some j) (some k) = (xs.drop j.toNat).take (k.toNat - j.toNat) := by
  unfold cutV
  rw [six_nn h, six_nn h']
  by_cases c : j.toNat ≤ xs.length
  · rw [Nat.min_eq_left c]
    refine List.take_eq_take_iff.mpr ?_
    rw [List.length_drop]
    omega
  · rw [Nat.min_eq_right (show xs.length ≤ j.toNat by omega), List.drop_length, List.drop_eq_nil_of_le (show xs.length ≤ j.toNat by omega), List.take_nil, List.take_nil]
section
variable {H : Hp} {Q : VK} {K : PySem.W.Frag} {p r : Addr} {xs ys : List V} {j k : Int} {lo hi : Option Int} {σ : L2.St}
theorem i_slTo (h : SqL K H p xs) (h0 : 0 ≤ k) (q : ∀ p', H p' = none → Q (.ref p') (upd H p' (.lst (xs.take k.toNat)))) : rSlL K (.ref p) none (some k) H Q := ⟨p, xs, rfl, h, by rw [cut_to h0]; exact q⟩
theorem i_slFrom (h : SqL K H p xs) (h0 : 0 ≤ k) (q : ∀ p', H p' = none → Q (.ref p') (upd H p' (.lst (xs.drop k.toNat)))) : rSlL K (.ref p) (some k) none H Q := ⟨p, xs, rfl, h, by rw [cut_from h0]; exact q⟩
theorem i_slMid (h : SqL K H p xs) (h0 : 0 ≤ j) (h1 : 0 ≤ k) (q : ∀ p', H p' = none → Q (.ref p') (upd H p' (.lst ((xs.drop j.toNat).take (k.toNat - j.toNat))))) : rSlL K (.ref p) (some j) (some k) H Q := ⟨p, xs, rfl, h, by rw [cut_mid h0 h1]; exact q⟩
theorem i_sl {R : V → Option Int → Option Int → Hp → VK → Prop} {te : TE} {tl th : TO} (h : te σ H fun x H1 => tl σ H1 fun l H2 => th σ H2 fun u H3 => R x l u H3 Q) : tSl R te tl th σ H Q := h
theorem i_nopart {P : Option Int → Hp → Prop} (q : P none H) : tNoPart σ H P := q
theorem i_part {te : TE} {P : Option Int → Hp → Prop} (h : te σ H fun x H1 => ∃ i, x = .int i ∧ P (some i) H1) : tPart te σ H P := h
theorem i_exint {i : Int} {R : Int → Prop} (q : R i) : ∃ i', V.int i = .int i' ∧ R i' := ⟨i, rfl, q⟩
theorem i_cat (h1 : H p = some (.lst xs)) (h2 : H r = some (.lst ys)) (hz : xs.length + ys.length ≤ sizeLine) (q : ∀ p', H p' = none → Q (.ref p') (upd H p' (.lst (xs ++ ys)))) : rCat (.ref p) (.ref r) H Q := ⟨p, r, xs, ys, rfl, rfl, h1, h2, hz, q⟩
theorem i_rep (h1 : H p = some (.lst xs)) (h2 : -(2 ^ 63) ≤ k ∧ k < 2 ^ 63) (hz : xs.length * k.toNat ≤ sizeLine) (q : ∀ p', H p' = none → Q (.ref p') (upd H p' (.lst (List.replicate k.toNat xs).flatten))) : rRep (.ref p) (.int k) H Q := ⟨p, k, xs, rfl, rfl, h1, h2.1, h2.2, hz, q⟩
theorem flat1 {α : Type} {x : α} : ∀ n : Nat, (List.replicate n [x]).flatten = List.replicate n x
  | 0 => rfl
  | n + 1 => by
    rw [List.replicate_succ, List.flatten_cons, flat1 n, List.replicate_succ]
    rfl
theorem i_rep1 {x : V} (h1 : H p = some (.lst [x])) (h2 : 0 ≤ k ∧ k ≤ 1000000) (q : ∀ p', H p' = none → Q (.ref p') (upd H p' (.lst (List.replicate k.toNat x)))) : rRep (.ref p) (.int k) H Q :=
  i_rep h1 (by omega) (sz4 (by show 1 * k.toNat ≤ 1000000; omega)) (by rw [flat1]; exact q)
end
/-- an if whose two ways meet: what holds behind it -/
theorem if_join {σ : L2.St} {H : Hp} {nx bk ct : L2.St → Hp → Prop} {rt : VK} {c : TT} {t u : TS} (P : L2.St → Hp → Prop) (h : ∀ nx' : L2.St → Hp → Prop, (∀ σ' H', P σ' H' → nx' σ' H') → tIfS c t u ⟨nx', rt, bk, ct⟩ σ H)
    (cont : ∀ σ' H', P σ' H' → nx σ' H') : tIfS c t u ⟨nx, rt, bk, ct⟩ σ H := h nx cont
/-- any statement, cut behind it -/
theorem st_join {σ : L2.St} {H : Hp} {nx bk ct : L2.St → Hp → Prop} {rt : VK} {t : TS} (P : L2.St → Hp → Prop) (h : ∀ nx' : L2.St → Hp → Prop, (∀ σ' H', P σ' H' → nx' σ' H') → t ⟨nx', rt, bk, ct⟩ σ H)
    (cont : ∀ σ' H', P σ' H' → nx σ' H') : t ⟨nx, rt, bk, ct⟩ σ H := h nx cont
theorem ints_at {ms : List Int} {i : Nat} {x : V} (h : (ms.map V.int)[i]? = some x) : ∃ z, x = .int z ∧ ms[i]? = some z := by
  rw [List.getElem?_map] at h
  cases e : ms[i]? with
  | none =>
    rw [e] at h
    cases h
  | some z =>
    rw [e] at h
    exact ⟨z, (Option.some.inj h).symm, rfl⟩
/-! ### equality of data -/
theorem i_eqT2 {K : PySem.W.Frag} {H : Hp} {Q : VK} {p r : Addr} {a b c d : Int} (h1 : SqT K H p [.int a, .int b]) (h2 : SqT K H r [.int c, .int d]) (q : Q (.bl (a == c && (b == d && true))) H) : rEqD K (.ref p) (.ref r) H Q :=
  ⟨.tuple [.int a, .int b], .tuple [.int c, .int d], .tup h1 (.cons (.int a) (.cons (.int b) .nil)), .tup h2 (.cons (.int c) (.cons (.int d) .nil)), rfl, rfl, by
    have e : PyData.eqv (.tuple [.int a, .int b]) (.tuple [.int c, .int d]) = (a == c && (b == d && true)) := by simp [PyData.eqv, PyData.eqvAll]
    rw [e]
    exact q⟩
/-! ### two objects that change -/
def But2 (a c : Addr) (H H' : Hp) : Prop := ∀ b o, b ≠ a → b ≠ c → H b = some o → H' b = some o
section
variable {a c b p : Addr} {H H' H1 H2 : Hp} {o u : HO} {K : PySem.W.Frag} {xs : List V}
theorem But2.refl (a c : Addr) (H : Hp) : But2 a c H H := fun _ _ _ _ h => h
theorem But2.transT (y : But2 a c H1 H2) (x : But2 a c H H1) : But2 a c H H2 := fun b o n m h => y b o n m (x b o n m h)
theorem But2.transS (y : Same H1 H2) (x : But2 a c H H1) : But2 a c H H2 := fun b o n m h => y b o (x b o n m h)
theorem But2.transL (y : But a H1 H2) (x : But2 a c H H1) : But2 a c H H2 := fun b o n m h => y b o n (x b o n m h)
theorem But2.transR (y : But c H1 H2) (x : But2 a c H H1) : But2 a c H H2 := fun b o n m h => y b o m (x b o n m h)
theorem But2.newT (hp : H1 p = none) (x : But2 a c H H1) : But2 a c H (L2.upd H1 p o) := fun b u n m h => by
  have h1 := x b u n m h
  rw [upd_ne (ne_of_none h1 hp)]
  exact h1
theorem But2.updL (x : But2 a c H H1) : But2 a c H (L2.upd H1 a o) := fun b u n m h => by
  rw [upd_ne n]
  exact x b u n m h
theorem But2.updR (x : But2 a c H H1) : But2 a c H (L2.upd H1 c o) := fun b u n m h => by
  rw [upd_ne m]
  exact x b u n m h
theorem lk_but2 (e : But2 a c H H') (n : b ≠ a) (m : b ≠ c) (h : H b = some o) : H' b = some o := e b o n m h
theorem But2.seq (e : But2 a c H H') (n : b ≠ a) (m : b ≠ c) (h : SqL K H b xs) : SqL K H' b xs := by
  rcases h with (h | ⟨o, h⟩) | h
  · exact .inl (.inl (e _ _ n m h))
  · exact .inl (.inr ⟨o, e _ _ n m h⟩)
  · exact .inr h
theorem But2.seqT (e : But2 a c H H') (n : b ≠ a) (m : b ≠ c) (h : SqT K H b xs) : SqT K H' b xs := by
  rcases h with (h | ⟨o, h⟩) | h
  · exact .inl (.inl (e _ _ n m h))
  · exact .inl (.inr ⟨o, e _ _ n m h⟩)
  · exact .inr h
theorem But2.free (hn : H' p = none) (e : But2 a c H H') (ha : H' a = some o) (hc : H' c = some u) : H p = none := by
  cases h : H p with
  | none => rfl
  | some v =>
    by_cases hp : p = a
    · rw [hp, ha] at hn
      cases hn
    · by_cases hq : p = c
      · rw [hq, hc] at hn
        cases hn
      · rw [e p v hp hq h] at hn
        cases hn
theorem But2.mut (hp : H p = none) (x : But2 a c H H1) : But2 a c H (L2.upd H1 p o) := fun b u n m h => by
  have e : b ≠ p := ne_of_none h hp
  exact lk_upd e (x b u n m h)
theorem But2.butT (y : But p H1 H2) (hp : H p = none) (x : But2 a c H H1) : But2 a c H H2 := fun b u n m h => y b u (ne_of_none h hp) (x b u n m h)
theorem Same.but2T {H0 : Hp} (x : But2 a c H H1) (ha : H0 a = none) (hc : H0 c = none) (e : Same H0 H) : Same H0 H1 := fun b u h => x b u (ne_of_none h ha) (ne_of_none h hc) (e b u h)
end
/-! ### len, by its number -/
def LenA (K : PySem.W.Frag) (H : Hp) (p : Addr) (n : Nat) : Prop := (∃ ys, SqL K H p ys ∧ ys.length = n) ∨ ∃ ys, SqT K H p ys ∧ ys.length = n
def rLenA (K : PySem.W.Frag) : List V → Hp → VK → Prop := fun xs H Q => ∃ p n, xs = [V.ref p] ∧ LenA K H p n ∧ Q (.int n) H
theorem call_lenA {X : Cx} : CallR X (.builtin "len") (rLenA X.K) := by
  intro pins s σ H xs us Q I r h
  obtain ⟨p, n, e, hl, q⟩ := h
  refine call_len_seq pins s σ H xs us Q I r ?_
  rcases hl with ⟨ys, h1, h2⟩ | ⟨ys, h1, h2⟩
  · exact ⟨p, ys, e, .inl h1, by rw [h2]; exact q⟩
  · exact ⟨p, ys, e, .inr h1, by rw [h2]; exact q⟩
section
variable {σ : L2.St} {H : Hp} {Q : VK} {K : PySem.W.Frag} {p r : Addr} {xs ys : List V} {ms ns : List Int} {i j k : Int} {n : Nat}
theorem i_lenA (h : LenA K H p n) (q : Q (.int n) H) : rLenA K [.ref p] H Q := ⟨p, n, rfl, h, q⟩
theorem lenA_map {α : Type} {f : α → V} {zs : List α} (h : SqL K H p (zs.map f)) : LenA K H p zs.length := .inl ⟨_, h, List.length_map _⟩
theorem lenA_L (h : SqL K H p xs) : LenA K H p xs.length := .inl ⟨_, h, rfl⟩
theorem lenA_T (h : SqT K H p xs) : LenA K H p xs.length := .inr ⟨_, h, rfl⟩
theorem i_ixM (h : SqL K H p (ms.map V.int)) (h0 : 0 ≤ i) (h1 : i < ms.length) (q : ∀ z, ms[i.toNat]? = some z → Q (.int z) H) : rIxL K (.ref p) (.int i) H Q := by
  obtain ⟨v, e1, e2⟩ := at_lt (xs := ms.map V.int) h0 (by rw [List.length_map]; exact h1)
  obtain ⟨z, e, e3⟩ := ints_at e2
  subst e
  exact i_ixL h e1 (q z e3)
theorem i_ixG (h : SqL K H p xs) (h0 : 0 ≤ i) (h1 : i < xs.length) (q : ∀ v, xs[i.toNat]? = some v → Q v H) : rIxL K (.ref p) (.int i) H Q := by
  obtain ⟨v, e1, e2⟩ := at_lt h0 h1
  exact i_ixL h e1 (q v e2)
theorem i_sum (h : SqL K H p (ns.map V.int)) (q : Q (.int ns.sum) H) : rSum K [.ref p] H Q := ⟨p, ns, rfl, h, q⟩
theorem i_slToM (h : SqL K H p (ms.map V.int)) (h0 : 0 ≤ k) (q : ∀ p', H p' = none → Q (.ref p') (upd H p' (.lst ((ms.take k.toNat).map V.int)))) : rSlL K (.ref p) none (some k) H Q := i_slTo h h0 (by rw [← List.map_take]; exact q)
theorem i_slFromM (h : SqL K H p (ms.map V.int)) (h0 : 0 ≤ k) (q : ∀ p', H p' = none → Q (.ref p') (upd H p' (.lst ((ms.drop k.toNat).map V.int)))) : rSlL K (.ref p) (some k) none H Q := i_slFrom h h0 (by rw [← List.map_drop]; exact q)
theorem i_slMidM (h : SqL K H p (ms.map V.int)) (h0 : 0 ≤ j) (h1 : 0 ≤ k) (q : ∀ p', H p' = none → Q (.ref p') (upd H p' (.lst (((ms.drop j.toNat).take (k.toNat - j.toNat)).map V.int)))) : rSlL K (.ref p) (some j) (some k) H Q := i_slMid h h0 h1 (by rw [← List.map_drop, ← List.map_take]; exact q)
theorem i_catM (h1 : H p = some (.lst (ms.map V.int))) (h2 : H r = some (.lst (ns.map V.int))) (hz : ms.length + ns.length ≤ 1000000) (q : ∀ p', H p' = none → Q (.ref p') (upd H p' (.lst ((ms ++ ns).map V.int)))) : rCat (.ref p) (.ref r) H Q :=
  i_cat h1 h2 (sz4 (by rw [List.length_map, List.length_map]; exact hz)) (by rw [← List.map_append]; exact q)
theorem i_repM {x : Int} (h1 : H p = some (.lst [.int x])) (h2 : 0 ≤ k ∧ k ≤ 1000000) (q : ∀ p', H p' = none → Q (.ref p') (upd H p' (.lst ((List.replicate k.toNat x).map V.int)))) : rRep (.ref p) (.int k) H Q :=
  i_rep1 h1 h2 (by rw [← List.map_replicate]; exact q)
theorem eqvAll_ints : ∀ ms ns : List Int, PyData.eqvAll (ms.map PyData.int) (ns.map PyData.int) = decide (ms = ns)
  | [], [] => by simp [PyData.eqvAll]
  | [], _ :: _ => by simp [PyData.eqvAll]
  | _ :: _, [] => by simp [PyData.eqvAll]
  | m :: ms, n :: ns => by
    rw [List.map_cons, List.map_cons, PyData.eqvAll, eqvAll_ints ms ns, PyData.eqv]
    by_cases h : m = n
    · subst h
      simp
    · simp [h]
theorem canLay_ints : ∀ ms : List Int, PyData.canLayAll0 (ms.map PyData.int) = true
  | [] => by simp [PyData.canLayAll0]
  | m :: ms => by
    rw [List.map_cons, PyData.canLayAll0, canLay_ints ms]
    simp [PyData.canLay0]
theorem depth_ints : ∀ ms : List Int, PyData.depthAll (ms.map PyData.int) ≤ 1
  | [] => by simp [PyData.depthAll]
  | m :: ms => by
    have := depth_ints ms
    rw [List.map_cons, PyData.depthAll]
    simp [PyData.depth]
    omega
theorem dp_ints : ∀ ms : List Int, DpAll K H (ms.map V.int) (ms.map PyData.int)
  | [] => .nil
  | m :: ms => .cons (.int m) (dp_ints ms)
theorem shaped_ints (ms : List Int) : SeqAt.shaped (.list (ms.map PyData.int)) = true := by
  unfold SeqAt.shaped
  have h1 := canLay_ints ms
  have h2 := depth_ints ms
  simp [PyData.canLay0, PyData.depth, h1]
  omega
theorem i_eqLI (h1 : SqL K H p (ms.map V.int)) (h2 : SqL K H r (ns.map V.int)) (q : Q (.bl (decide (ms = ns))) H) : rEqD K (.ref p) (.ref r) H Q :=
  ⟨_, _, .lst h1 (dp_ints ms), .lst h2 (dp_ints ns), shaped_ints ms, shaped_ints ns, by rw [PyData.eqv, eqvAll_ints]; exact q⟩
theorem i_neLI (h1 : SqL K H p (ms.map V.int)) (h2 : SqL K H r (ns.map V.int)) (q : Q (.bl (!decide (ms = ns))) H) : rNeD K (.ref p) (.ref r) H Q :=
  ⟨_, _, .lst h1 (dp_ints ms), .lst h2 (dp_ints ns), shaped_ints ms, shaped_ints ns, by rw [PyData.eqv, eqvAll_ints]; exact q⟩
theorem i_eqL0 (h1 : SqL K H p (ms.map V.int)) (h2 : SqL K H r []) (q : Q (.bl (decide (ms = []))) H) : rEqD K (.ref p) (.ref r) H Q := i_eqLI (ns := []) h1 h2 q
theorem i_eq00 (h1 : SqL K H p []) (h2 : SqL K H r []) (q : Q (.bl true) H) : rEqD K (.ref p) (.ref r) H Q := i_eqLI (ms := []) (ns := []) h1 h2 (by simpa using q)
theorem i_isn {P : Prop} (q : P) : V.non = V.non ∧ P := ⟨rfl, q⟩
theorem i_tru {P : Prop} (q : P) : True ∧ P := ⟨trivial, q⟩
theorem i_glst {m : Nat} {t : TGs} {Z : L2.St → Hp → Prop} (h : SqL K H p xs) (e : xs.length = m) (q : t xs σ H Z) : gLst K m t (.ref p) σ H Z := ⟨p, xs, rfl, h, e, q⟩
end
/-! ### comprehensions -/
section
variable {σ : L2.St} {H H1 : Hp} {Q : VK} {K : PySem.W.Frag} {D a : Addr} {wi : TI} {g : TG} {tt : TT} {te : TE} {vs : List Nat} {lo : Int} {n : Nat} {xs : List V} {Qd : Hp → Prop}
theorem i_lc (h : wi σ H fun J H1 => ∀ D, H1 D = none → ∃ W : Nat → Nat → Hp → Prop, (∃ m, W 0 m (upd H1 D (.lst []))) ∧ ∀ i m H, W i m H →
  (J.stop i H ∧ Q (.ref D) H) ∨ (J.go i H ∧ ∃ Nx : Hp → Prop, (∀ H', Nx H' → ∃ m', m' < m ∧ W (i + 1) m' H') ∧ ∀ x H', J.yld i H x H' → g x (wipe σ vs) H' fun σ2 H2 => wipe σ2 vs = wipe σ vs ∧ tt σ2 H2 fun b H3 =>
    if b = true then te σ2 H3 fun y H4 => ∃ acc, H4 D = some (.lst acc) ∧ acc.length < sizeLine ∧ Nx (upd H4 D (.lst (acc ++ [y]))) else Nx H3)) : tLc wi g tt te vs σ H Q := h
/-- the turn of a comprehension: what its target, test and element come to; Z is wanted of a kept element, Y where the test says no -/
def LcTurn (g : TG) (tt : TT) (te : TE) (vs : List Nat) (σ : L2.St) (x : V) (H : Hp) (Z : VK) (Y : Hp → Prop) : Prop :=
  g x (wipe σ vs) H fun σ2 H2 => wipe σ2 vs = wipe σ vs ∧ tt σ2 H2 fun b H3 => if b = true then te σ2 H3 Z else Y H3
/-- over a range; P: what holds behind i turns of the list made so far -/
theorem lcR (P : Nat → List V → Hp → Prop) (nD : H1 D = none) (h0 : P 0 [] (upd H1 D (.lst [])))
    (hs : ∀ i acc H (Z : VK) (Y : Hp → Prop), i < n → P i acc H → H D = some (.lst acc) → (∀ y H4, H4 D = some (.lst acc) → acc.length < sizeLine → P (i + 1) (acc ++ [y]) (upd H4 D (.lst (acc ++ [y]))) → Z y H4) →
      (∀ H4, H4 D = some (.lst acc) → P (i + 1) acc H4 → Y H4) → LcTurn g tt te vs σ (.int (lo + i)) H Z Y) (hd : ∀ acc H, P n acc H → H D = some (.lst acc) → Qd H) :
    ∃ W : Nat → Nat → Hp → Prop, (∃ m, W 0 m (upd H1 D (.lst []))) ∧ ∀ i m H, W i m H →
      ((Itr lo n).stop i H ∧ Qd H) ∨ ((Itr lo n).go i H ∧ ∃ Nx : Hp → Prop, (∀ H', Nx H' → ∃ m', m' < m ∧ W (i + 1) m' H') ∧ ∀ x H', (Itr lo n).yld i H x H' → g x (wipe σ vs) H' fun σ2 H2 => wipe σ2 vs = wipe σ vs ∧ tt σ2 H2 fun b H3 =>
        if b = true then te σ2 H3 fun y H4 => ∃ acc, H4 D = some (.lst acc) ∧ acc.length < sizeLine ∧ Nx (upd H4 D (.lst (acc ++ [y]))) else Nx H3) := by
  refine lc_range (fun i H => ∃ acc, P i acc H ∧ H D = some (.lst acc)) ⟨[], h0, upd_same⟩ (fun i H hi hp => ?_) (fun H hp => ?_)
  · obtain ⟨acc, hp, ha⟩ := hp
    exact hs i acc H _ _ hi hp ha (fun y H4 h1 h2 h3 => ⟨acc, h1, h2, _, h3, upd_same⟩) fun H4 h1 h2 => ⟨acc, h2, h1⟩
  · obtain ⟨acc, hp, ha⟩ := hp
    exact hd acc H hp ha
theorem lcL (P : Nat → List V → Hp → Prop) (nD : H1 D = none) (h0 : P 0 [] (upd H1 D (.lst []))) (hl : ∀ i acc H, i ≤ xs.length → P i acc H → H D = some (.lst acc) → SqL K H a xs)
    (hs : ∀ i x acc H (Z : VK) (Y : Hp → Prop), xs[i]? = some x → P i acc H → H D = some (.lst acc) → (∀ y H4, H4 D = some (.lst acc) → acc.length < sizeLine → P (i + 1) (acc ++ [y]) (upd H4 D (.lst (acc ++ [y]))) → Z y H4) →
      (∀ H4, H4 D = some (.lst acc) → P (i + 1) acc H4 → Y H4) → LcTurn g tt te vs σ x H Z Y) (hd : ∀ acc H, P xs.length acc H → H D = some (.lst acc) → Qd H) :
    ∃ W : Nat → Nat → Hp → Prop, (∃ m, W 0 m (upd H1 D (.lst []))) ∧ ∀ i m H, W i m H →
      ((Itl K a).stop i H ∧ Qd H) ∨ ((Itl K a).go i H ∧ ∃ Nx : Hp → Prop, (∀ H', Nx H' → ∃ m', m' < m ∧ W (i + 1) m' H') ∧ ∀ x H', (Itl K a).yld i H x H' → g x (wipe σ vs) H' fun σ2 H2 => wipe σ2 vs = wipe σ vs ∧ tt σ2 H2 fun b H3 =>
        if b = true then te σ2 H3 fun y H4 => ∃ acc, H4 D = some (.lst acc) ∧ acc.length < sizeLine ∧ Nx (upd H4 D (.lst (acc ++ [y]))) else Nx H3) := by
  refine lc_list (xs := xs) (fun i H => ∃ acc, P i acc H ∧ H D = some (.lst acc)) ⟨[], h0, upd_same⟩ (fun i H hi hp => ?_) (fun i x H hi hp => ?_) (fun H hp => ?_)
  · obtain ⟨acc, hp, ha⟩ := hp
    exact hl i acc H hi hp ha
  · obtain ⟨acc, hp, ha⟩ := hp
    exact hs i x acc H _ _ hi hp ha (fun y H4 h1 h2 h3 => ⟨acc, h1, h2, _, h3, upd_same⟩) fun H4 h1 h2 => ⟨acc, h2, h1⟩
  · obtain ⟨acc, hp, ha⟩ := hp
    exact hd acc H hp ha
/-- whole numbers, one for each turn -/
theorem lcR_int (f : Nat → Int) (nD : H1 D = none) (hn : n ≤ 1000000)
    (hs : ∀ i H (Z : VK) (Y : Hp → Prop), i < n → Same H1 H → (∀ H4, Same H H4 → Z (.int (f i)) H4) → LcTurn g tt te vs σ (.int (lo + i)) H Z Y)
    (hd : ∀ H, Same H1 H → H D = some (.lst (((List.range n).map f).map V.int)) → Qd H) :
    ∃ W : Nat → Nat → Hp → Prop, (∃ m, W 0 m (upd H1 D (.lst []))) ∧ ∀ i m H, W i m H →
      ((Itr lo n).stop i H ∧ Qd H) ∨ ((Itr lo n).go i H ∧ ∃ Nx : Hp → Prop, (∀ H', Nx H' → ∃ m', m' < m ∧ W (i + 1) m' H') ∧ ∀ x H', (Itr lo n).yld i H x H' → g x (wipe σ vs) H' fun σ2 H2 => wipe σ2 vs = wipe σ vs ∧ tt σ2 H2 fun b H3 =>
        if b = true then te σ2 H3 fun y H4 => ∃ acc, H4 D = some (.lst acc) ∧ acc.length < sizeLine ∧ Nx (upd H4 D (.lst (acc ++ [y]))) else Nx H3) := by
  refine lcR (fun i acc H => i ≤ n ∧ acc = ((List.range i).map f).map V.int ∧ Same H1 H) nD ⟨Nat.zero_le _, rfl, Same.new nD⟩ ?_ ?_
  · rintro i acc H Z Y hi ⟨_, rfl, hsame⟩ ha hz _
    refine hs i H Z Y hi hsame fun H4 h4 => hz _ H4 (h4 _ _ ha) (sz4' (by simp; omega)) ⟨hi, ?_, Same.mut (hsame.trans h4) nD⟩
    rw [List.range_succ, List.map_append, List.map_append]
    rfl
  · rintro acc H ⟨_, rfl, hsame⟩ ha
    exact hd H hsame ha
theorem lcL_int (f : Nat → Int) (nD : H1 D = none) (hn : xs.length ≤ 1000000) (hx : SqL K H1 a xs)
    (hs : ∀ i x H (Z : VK) (Y : Hp → Prop), xs[i]? = some x → Same H1 H → (∀ H4, Same H H4 → Z (.int (f i)) H4) → LcTurn g tt te vs σ x H Z Y)
    (hd : ∀ H, Same H1 H → H D = some (.lst (((List.range xs.length).map f).map V.int)) → Qd H) :
    ∃ W : Nat → Nat → Hp → Prop, (∃ m, W 0 m (upd H1 D (.lst []))) ∧ ∀ i m H, W i m H →
      ((Itl K a).stop i H ∧ Qd H) ∨ ((Itl K a).go i H ∧ ∃ Nx : Hp → Prop, (∀ H', Nx H' → ∃ m', m' < m ∧ W (i + 1) m' H') ∧ ∀ x H', (Itl K a).yld i H x H' → g x (wipe σ vs) H' fun σ2 H2 => wipe σ2 vs = wipe σ vs ∧ tt σ2 H2 fun b H3 =>
        if b = true then te σ2 H3 fun y H4 => ∃ acc, H4 D = some (.lst acc) ∧ acc.length < sizeLine ∧ Nx (upd H4 D (.lst (acc ++ [y]))) else Nx H3) := by
  refine lcL (xs := xs) (fun i acc H => i ≤ xs.length ∧ acc = ((List.range i).map f).map V.int ∧ Same H1 H) nD ⟨Nat.zero_le _, rfl, Same.new nD⟩ (fun i acc H _ hp _ => hp.2.2.seq hx) ?_ ?_
  · rintro i x acc H Z Y hi ⟨_, rfl, hsame⟩ ha hz _
    have hi' : i < xs.length := (List.getElem?_eq_some_iff.mp hi).1
    refine hs i x H Z Y hi hsame fun H4 h4 => hz _ H4 (h4 _ _ ha) (sz4' (by simp; omega)) ⟨hi', ?_, Same.mut (hsame.trans h4) nD⟩
    rw [List.range_succ, List.map_append, List.map_append]
    rfl
  · rintro acc H ⟨_, rfl, hsame⟩ ha
    exact hd H hsame ha
/-- over a range, kept where b says so -/
theorem lcR_fil (b : Nat → Bool) (f : Nat → Int) (nD : H1 D = none) (hn : n ≤ 1000000)
    (hs : ∀ i H (Z : VK) (Y : Hp → Prop), i < n → Same H1 H → (b i = true → ∀ H4, Same H H4 → Z (.int (f i)) H4) → (b i = false → ∀ H4, Same H H4 → Y H4) → LcTurn g tt te vs σ (.int (lo + i)) H Z Y)
    (hd : ∀ H, Same H1 H → H D = some (.lst ((((List.range n).filter b).map f).map V.int)) → Qd H) :
    ∃ W : Nat → Nat → Hp → Prop, (∃ m, W 0 m (upd H1 D (.lst []))) ∧ ∀ i m H, W i m H →
      ((Itr lo n).stop i H ∧ Qd H) ∨ ((Itr lo n).go i H ∧ ∃ Nx : Hp → Prop, (∀ H', Nx H' → ∃ m', m' < m ∧ W (i + 1) m' H') ∧ ∀ x H', (Itr lo n).yld i H x H' → g x (wipe σ vs) H' fun σ2 H2 => wipe σ2 vs = wipe σ vs ∧ tt σ2 H2 fun b H3 =>
        if b = true then te σ2 H3 fun y H4 => ∃ acc, H4 D = some (.lst acc) ∧ acc.length < sizeLine ∧ Nx (upd H4 D (.lst (acc ++ [y]))) else Nx H3) := by
  refine lcR (fun i acc H => i ≤ n ∧ acc = (((List.range i).filter b).map f).map V.int ∧ Same H1 H) nD ⟨Nat.zero_le _, rfl, Same.new nD⟩ ?_ ?_
  · rintro i acc H Z Y hi ⟨_, rfl, hsame⟩ ha hz hy
    refine hs i H Z Y hi hsame (fun hb H4 h4 => hz _ H4 (h4 _ _ ha) (sz4' ?_) ⟨hi, ?_, Same.mut (hsame.trans h4) nD⟩) (fun hb H4 h4 => hy H4 (h4 _ _ ha) ⟨hi, ?_, hsame.trans h4⟩)
    · have := List.length_filter_le b (List.range i)
      rw [List.length_range] at this
      simp only [List.length_map]
      omega
    · rw [List.range_succ, List.filter_append, List.map_append, List.map_append, List.filter_cons, if_pos hb]
      rfl
    · rw [List.range_succ, List.filter_append, List.map_append, List.map_append, List.filter_cons, if_neg (by rw [hb]; exact Bool.false_ne_true)]
      simp
  · rintro acc H ⟨_, rfl, hsame⟩ ha
    exact hd H hsame ha
/-- over a list, nothing kept -/
theorem lcL_nil (nD : H1 D = none) (hx : SqL K H1 a xs)
    (hs : ∀ (i : Nat) (x : V) H (Z : VK) (Y : Hp → Prop), xs[i]? = some x → Same H1 H → (∀ H4, Same H H4 → Y H4) → LcTurn g tt te vs σ x H Z Y)
    (hd : ∀ H, Same H1 H → H D = some (.lst []) → Qd H) :
    ∃ W : Nat → Nat → Hp → Prop, (∃ m, W 0 m (upd H1 D (.lst []))) ∧ ∀ i m H, W i m H →
      ((Itl K a).stop i H ∧ Qd H) ∨ ((Itl K a).go i H ∧ ∃ Nx : Hp → Prop, (∀ H', Nx H' → ∃ m', m' < m ∧ W (i + 1) m' H') ∧ ∀ x H', (Itl K a).yld i H x H' → g x (wipe σ vs) H' fun σ2 H2 => wipe σ2 vs = wipe σ vs ∧ tt σ2 H2 fun b H3 =>
        if b = true then te σ2 H3 fun y H4 => ∃ acc, H4 D = some (.lst acc) ∧ acc.length < sizeLine ∧ Nx (upd H4 D (.lst (acc ++ [y]))) else Nx H3) := by
  refine lcL (xs := xs) (fun i acc H => acc = [] ∧ Same H1 H) nD ⟨rfl, Same.new nD⟩ (fun i acc H _ hp _ => hp.2.seq hx) ?_ ?_
  · rintro i x acc H Z Y hi ⟨rfl, hsame⟩ ha _ hy
    exact hs i x H Z Y hi hsame fun H4 h4 => hy H4 (h4 _ _ ha) ⟨rfl, hsame.trans h4⟩
  · rintro acc H ⟨rfl, hsame⟩ ha
    exact hd H hsame ha
/-- over a list, a value for each, from the turn's number -/
theorem lcL_v (f : Nat → V) (nD : H1 D = none) (hn : xs.length ≤ 1000000) (hx : SqL K H1 a xs)
    (hs : ∀ (i : Nat) (x : V) H (Z : VK) (Y : Hp → Prop), xs[i]? = some x → Same H1 H → (∀ H4, Same H H4 → Z (f i) H4) → LcTurn g tt te vs σ x H Z Y)
    (hd : ∀ H, Same H1 H → H D = some (.lst ((List.range xs.length).map f)) → Qd H) :
    ∃ W : Nat → Nat → Hp → Prop, (∃ m, W 0 m (upd H1 D (.lst []))) ∧ ∀ i m H, W i m H →
      ((Itl K a).stop i H ∧ Qd H) ∨ ((Itl K a).go i H ∧ ∃ Nx : Hp → Prop, (∀ H', Nx H' → ∃ m', m' < m ∧ W (i + 1) m' H') ∧ ∀ x H', (Itl K a).yld i H x H' → g x (wipe σ vs) H' fun σ2 H2 => wipe σ2 vs = wipe σ vs ∧ tt σ2 H2 fun b H3 =>
        if b = true then te σ2 H3 fun y H4 => ∃ acc, H4 D = some (.lst acc) ∧ acc.length < sizeLine ∧ Nx (upd H4 D (.lst (acc ++ [y]))) else Nx H3) := by
  refine lcL (xs := xs) (fun i acc H => i ≤ xs.length ∧ acc = (List.range i).map f ∧ Same H1 H) nD ⟨Nat.zero_le _, rfl, Same.new nD⟩ (fun i acc H _ hp _ => hp.2.2.seq hx) ?_ ?_
  · rintro i x acc H Z Y hi ⟨_, rfl, hsame⟩ ha hz _
    have hi' : i < xs.length := (List.getElem?_eq_some_iff.mp hi).1
    refine hs i x H Z Y hi hsame fun H4 h4 => hz _ H4 (h4 _ _ ha) (sz4' (by simp; omega)) ⟨hi', ?_, Same.mut (hsame.trans h4) nD⟩
    rw [List.range_succ, List.map_append]
    rfl
  · rintro acc H ⟨_, rfl, hsame⟩ ha
    exact hd H hsame ha
/-- over a list, truths all true -/
theorem lcL_all (nD : H1 D = none) (hn : xs.length ≤ 1000000) (hx : SqL K H1 a xs)
    (hs : ∀ (i : Nat) (x : V) H (Z : VK) (Y : Hp → Prop), xs[i]? = some x → Same H1 H → (∀ H4, Same H H4 → Z (.bl true) H4) → LcTurn g tt te vs σ x H Z Y)
    (hd : ∀ H, Same H1 H → SqL K H D ((List.replicate xs.length true).map V.bl) → Qd H) :
    ∃ W : Nat → Nat → Hp → Prop, (∃ m, W 0 m (upd H1 D (.lst []))) ∧ ∀ i m H, W i m H →
      ((Itl K a).stop i H ∧ Qd H) ∨ ((Itl K a).go i H ∧ ∃ Nx : Hp → Prop, (∀ H', Nx H' → ∃ m', m' < m ∧ W (i + 1) m' H') ∧ ∀ x H', (Itl K a).yld i H x H' → g x (wipe σ vs) H' fun σ2 H2 => wipe σ2 vs = wipe σ vs ∧ tt σ2 H2 fun b H3 =>
        if b = true then te σ2 H3 fun y H4 => ∃ acc, H4 D = some (.lst acc) ∧ acc.length < sizeLine ∧ Nx (upd H4 D (.lst (acc ++ [y]))) else Nx H3) := by
  refine lcL_v (fun _ => .bl true) nD hn hx hs fun H hs' h => hd H hs' (.of ?_)
  rw [h, List.map_const', List.length_range, List.map_replicate]
theorem i_all {H : Hp} {Q : VK} {p : Addr} {m : Nat} (h : SqL K H p ((List.replicate m true).map V.bl)) (q : Q (.bl true) H) : rAll K [.ref p] H Q := by
  refine ⟨p, _, rfl, h, ?_⟩
  have e : (List.replicate m true).all id = true := by
    rw [List.all_eq_true]
    intro x hx
    rw [(List.mem_replicate.mp hx).2]
    rfl
  rw [e]
  exact q
theorem i_min {H : Hp} {Q : VK} {p : Addr} {ns : List Int} (h : SqL K H p (ns.map V.int)) (h0 : 0 < ns.length) (q : ∀ m, m ∈ ns → (∀ y, y ∈ ns → m ≤ y) → Q (.int m) H) : rMin K [.ref p] H Q := ⟨p, ns, rfl, h, h0, q⟩
theorem i_max {H : Hp} {Q : VK} {p : Addr} {ns : List Int} (h : SqL K H p (ns.map V.int)) (h0 : 0 < ns.length) (q : ∀ m, m ∈ ns → (∀ y, y ∈ ns → y ≤ m) → Q (.int m) H) : rMax K [.ref p] H Q := ⟨p, ns, rfl, h, h0, q⟩
theorem i_yes {P : Bool → Hp → Prop} (q : P true H) : tYes σ H P := q
theorem i_wipe {A : Prop} {σ2 : L2.St} (e : wipe σ2 vs = wipe σ vs) (q : A) : wipe σ2 vs = wipe σ vs ∧ A := ⟨e, q⟩
theorem i_turn {x : V} {Z : VK} {Y : Hp → Prop} {σ1 : L2.St} (e : wipe σ vs = σ1) (h : g x σ1 H fun σ2 H2 => wipe σ2 vs = σ1 ∧ tt σ2 H2 fun b H3 => if b = true then te σ2 H3 Z else Y H3) : LcTurn g tt te vs σ x H Z Y := by
  subst e
  exact h
theorem i_wiped {A : Prop} {σ1 σ2 : L2.St} (e : wipe σ2 vs = σ1) (q : A) : wipe σ2 vs = σ1 ∧ A := ⟨e, q⟩
end
theorem ixN_nn {n : Nat} {i : Int} (h0 : 0 ≤ i) (h1 : i < n) : ixN n i = some i.toNat := by
  unfold ixN
  rw [if_pos h0, if_pos h1]
theorem ixN_last {n : Nat} (h : 0 < n) : ixN n (-1) = some (n - 1) := by
  unfold ixN
  rw [if_neg (by decide), if_pos (by omega)]
  congr 1
  omega
theorem i_ixLast {K : PySem.W.Frag} {H : Hp} {p : Addr} {ms : List Int} {Q : VK} (h : SqL K H p (ms.map V.int)) (h1 : 0 < ms.length) (q : ∀ z, ms[ms.length - 1]? = some z → Q (.int z) H) : rIxL K (.ref p) (.int (-1)) H Q := by
  have e : ms[ms.length - 1]? = some ms[ms.length - 1] := List.getElem?_eq_getElem (by omega)
  refine ⟨p, _, -1, .int ms[ms.length - 1], rfl, rfl, h, ?_, q _ e⟩
  unfold atI
  rw [List.length_map, ixN_last h1, Option.bind_some, List.getElem?_map, e]
  rfl
theorem cut_init {xs : List V} : cutV xs none (some (-1)) = xs.dropLast := by
  unfold cutV
  rw [HT.sIx_none, List.drop_zero, Nat.sub_zero]
  have e : HT.sIx xs.length xs.length (some (-1)) = xs.length - 1 := by
    unfold HT.sIx
    simp
    omega
  rw [e, List.dropLast_eq_take]
theorem i_slInitM {K : PySem.W.Frag} {H : Hp} {p : Addr} {ms : List Int} {Q : VK} (h : SqL K H p (ms.map V.int)) (q : ∀ p', H p' = none → Q (.ref p') (upd H p' (.lst (ms.dropLast.map V.int)))) : rSlL K (.ref p) none (some (-1)) H Q := ⟨p, _, rfl, h, by rw [cut_init, ← List.map_dropLast]; exact q⟩
theorem i_setLast {H : Hp} {p : Addr} {ms : List Int} {z : Int} {Z : Hp → Prop} (h : H p = some (.lst (ms.map V.int))) (h1 : 0 < ms.length) (q : Z (upd H p (.lst ((ms.set (ms.length - 1) z).map V.int)))) : rSetL (.ref p) (.int (-1)) (.int z) H Z :=
  ⟨p, _, -1, ms.length - 1, rfl, rfl, h, by rw [List.length_map]; exact ixN_last h1, by rw [← List.map_set]; exact q⟩
theorem i_catM1 {H : Hp} {p r : Addr} {ms : List Int} {y : Int} {Q : VK} (h1 : H p = some (.lst (ms.map V.int))) (h2 : H r = some (.lst [.int y])) (hz : ms.length + 1 ≤ 1000000) (q : ∀ p', H p' = none → Q (.ref p') (upd H p' (.lst ((ms ++ [y]).map V.int)))) : rCat (.ref p) (.ref r) H Q := i_catM (ns := [y]) h1 h2 hz q
theorem fil_last (b : Nat → Bool) : ∀ n, (List.range n).filter b = [] ∨ ∃ k, k < n ∧ b k = true ∧ (∀ j, k < j → j < n → b j = false) ∧ ((List.range n).filter b)[((List.range n).filter b).length - 1]? = some k
  | 0 => .inl rfl
  | n + 1 => by
    rw [List.range_succ, List.filter_append]
    cases e : b n with
    | true =>
      refine .inr ⟨n, by omega, e, fun j h1 h2 => by omega, ?_⟩
      have : List.filter b [n] = [n] := by simp [e]
      rw [this, List.length_append]
      simp
    | false =>
      have : List.filter b [n] = [] := by simp [e]
      rw [this, List.append_nil]
      rcases fil_last b n with h | ⟨k, h1, h2, h3, h4⟩
      · exact .inl h
      · refine .inr ⟨k, by omega, h2, fun j g1 g2 => ?_, h4⟩
        by_cases c : j = n
        · subst c; exact e
        · exact h3 j g1 (by omega)
theorem fil_none {b : Nat → Bool} {n : Nat} (h : (List.range n).filter b = []) {j : Nat} (hj : j < n) : b j = false := by
  have := List.filter_eq_nil_iff.mp h j (List.mem_range.mpr hj)
  simpa using this
theorem i_reverse {H : Hp} {p : Addr} {ms : List Int} {Q : VK} (h : H p = some (.lst (ms.map V.int))) (q : Q .non (upd H p (.lst (ms.reverse.map V.int)))) : rReverse (.ref p) [] H Q := ⟨p, _, rfl, rfl, h, by rw [← List.map_reverse]; exact q⟩
theorem i_ne00 {K : PySem.W.Frag} {H : Hp} {Q : VK} {p r : Addr} (h1 : SqL K H p []) (h2 : SqL K H r []) (q : Q (.bl false) H) : rNeD K (.ref p) (.ref r) H Q := i_neLI (ms := []) (ns := []) h1 h2 (by simpa using q)
theorem i_min2 {K : Prop} {R : Int → Int → Prop} {i j : Int} (q : R i j) : ∃ i' j', [V.int i, V.int j] = [.int i', .int j'] ∧ R i' j' := ⟨i, j, rfl, q⟩
theorem i_setM {H : Hp} {p : Addr} {ms : List Int} {i z : Int} {Z : Hp → Prop} (h : H p = some (.lst (ms.map V.int))) (h0 : 0 ≤ i) (h1 : i < ms.length) (q : Z (upd H p (.lst ((ms.set i.toNat z).map V.int)))) : rSetL (.ref p) (.int i) (.int z) H Z :=
  ⟨p, _, i, i.toNat, rfl, rfl, h, ixN_nn h0 (by rw [List.length_map]; exact h1), by rw [← List.map_set]; exact q⟩
/-! ### the rules that name the written part, K told -/
def rListOf (K : PySem.W.Frag) : List V → Hp → VK → Prop := fun xs H Q => ∃ p ys, xs = [V.ref p] ∧ (SqL K H p ys ∨ SqT K H p ys) ∧ ∀ l, H l = none → Q (.ref l) (upd H l (.lst ys))
def rTupleOf (K : PySem.W.Frag) : List V → Hp → VK → Prop := fun xs H Q => ∃ p ys, xs = [V.ref p] ∧ ((SqL K H p ys ∧ ∀ l, H l = none → Q (.ref l) (upd H l (.tup ys))) ∨ (SqT K H p ys ∧ Q (.ref p) H))
section
variable {X : Cx} (K : PySem.W.Frag) (e : X.K = K)
include e
theorem sl_listK : SlR X (rSlL K) := by subst e; exact sl_list
theorem sl_tupK : SlR X (rSlA K) := by subst e; exact sl_tupA
theorem ix_listK : IxR X (rIxL K) := by subst e; exact ix_list
theorem ix_tupK : IxR X (rIxT K) := by subst e; exact ix_tup
theorem ix_seqK : IxR X (rIx K) := by subst e; exact ix_seq
theorem call_lenK : CallR X (.builtin "len") (rLenA K) := by subst e; exact call_lenA
theorem cr_sumK (hc : X.calm = true) : CallR X (.builtin "sum") (rSum K) := by subst e; exact cr_sum hc
theorem cr_minK (hc : X.calm = true) : CallR X (.builtin "min") (rMin K) := by subst e; exact cr_min hc
theorem cr_maxK (hc : X.calm = true) : CallR X (.builtin "max") (rMax K) := by subst e; exact cr_max hc
theorem cr_anyK (hc : X.calm = true) : CallR X (.builtin "any") (rAny K) := by subst e; exact cr_any hc
theorem cr_allK (hc : X.calm = true) : CallR X (.builtin "all") (rAll K) := by subst e; exact cr_all hc
theorem call_isiK' : CallR X (.builtin "isinstance") (rIsi K) := by subst e; exact call_isi
theorem call_listK : CallR X (.type "list") (rListOf K) := by subst e; exact call_list_of
theorem call_tupleK : CallR X (.type "tuple") (rTupleOf K) := by subst e; exact call_tuple_of
theorem op_eqDK (hu : X.A.units + 64 < cLine) : OpR X (compareOp .Eq) (rEqD K) := by subst e; exact op_eqD hu
theorem op_neDK (hu : X.A.units + 64 < cLine) : OpR X (compareOp .NotEq) (rNeD K) := by subst e; exact op_neD hu
theorem op_ltTK (hu : X.A.units < cLine) : OpR X (compareOp .Lt) (rLtT K) := by subst e; exact op_ltT hu
theorem op_catTK : OpR X (binaryOp .Add) (rCatT K) := by subst e; exact op_catT
theorem op_inK : OpR X (compareOp .In) (rIn K false) := by subst e; exact op_in_seq
theorem op_notInK : OpR X (compareOp .NotIn) (rIn K true) := by subst e; exact op_notIn_seq
theorem pi_listK {tg l : Expr} {tl : TE} (hl : PE X l tl) : PI X tg l (iList K tl) := by subst e; exact pi_list hl
theorem pi_tupK {tg l : Expr} {tl : TE} (hl : PE X l tl) : PI X tg l (iTup K tl) := by subst e; exact pi_tup hl
theorem pg_tupK {es : List Expr} {k : Nat} {t : TGs} {pos : Pos} (n : Nat) (hc : X.calm = true) (h : PGs X es t) (hn : (assignEach es X.env).length = n := by rfl) (hst : (assignEach es X.env).findIdx? (·.1) = none := by rfl) : PG X (.Tuple es k pos) (gTup K n t) := by subst e; exact pg_tup hc h hn hst
theorem pg_lstK {es : List Expr} {k : Nat} {t : TGs} {pos : Pos} (n : Nat) (hc : X.calm = true) (h : PGs X es t) (hn : (assignEach es X.env).length = n := by rfl) (hst : (assignEach es X.env).findIdx? (·.1) = none := by rfl) : PG X (.Tuple es k pos) (gLst K n t) := by subst e; exact pg_lst hc h hn hst
end
section
variable {H : Hp} {Q : VK} {K : PySem.W.Frag} {p : Addr} {xs : List V}
theorem i_listOf (h : SqL K H p xs) (q : ∀ l, H l = none → Q (.ref l) (upd H l (.lst xs))) : rListOf K [.ref p] H Q := ⟨p, xs, rfl, .inl h, q⟩
theorem i_listOfT (h : SqT K H p xs) (q : ∀ l, H l = none → Q (.ref l) (upd H l (.lst xs))) : rListOf K [.ref p] H Q := ⟨p, xs, rfl, .inr h, q⟩
end
theorem wipe_one {σ σ1 : L2.St} {k : Nat} (e : List.set σ k none = σ1) : wipe σ [k] = σ1 := e
theorem wipe_two {σ σ1 σ2 : L2.St} {j k : Nat} (e : List.set σ k none = σ1) (e2 : List.set σ1 j none = σ2) : wipe σ [j, k] = σ2 := by
  show List.set (List.set σ k none) j none = σ2
  rw [e, e2]
theorem wipe_three {σ σ1 σ2 σ3 : L2.St} {i j k : Nat} (e : List.set σ k none = σ1) (e2 : List.set σ1 j none = σ2) (e3 : List.set σ2 i none = σ3) : wipe σ [i, j, k] = σ3 := by
  show List.set (List.set (List.set σ k none) j none) i none = σ3
  rw [e, e2, e3]
/-- the heap is let go of but for what stood at first -/
theorem forget {P : Hp → Prop} {H H1 : Hp} (s : Same H H1) (h : ∀ H', Same H H' → P H') : P H1 := h H1 s
/-- the scope of a comprehension in a comprehension -/
def relS (scope sc : Scope) : Scope := { scope with names := scope.names.map fun (n, k) => if (k == .free && sc.kind == .function && sc.names.lookup n == some .cell) then (n, .cell) else (n, k) }
/-! ### a slot set, by its number -/
theorem set_n0 {α : Type} {y x0 : α} {r : List α} : List.set (x0 :: r) 0 y = y :: r := rfl
theorem set_n1 {α : Type} {y x0 x1 : α} {r : List α} : List.set (x0 :: x1 :: r) 1 y = x0 :: y :: r := rfl
theorem set_n2 {α : Type} {y x0 x1 x2 : α} {r : List α} : List.set (x0 :: x1 :: x2 :: r) 2 y = x0 :: x1 :: y :: r := rfl
theorem set_n3 {α : Type} {y x0 x1 x2 x3 : α} {r : List α} : List.set (x0 :: x1 :: x2 :: x3 :: r) 3 y = x0 :: x1 :: x2 :: y :: r := rfl
theorem set_n4 {α : Type} {y x0 x1 x2 x3 x4 : α} {r : List α} : List.set (x0 :: x1 :: x2 :: x3 :: x4 :: r) 4 y = x0 :: x1 :: x2 :: x3 :: y :: r := rfl
theorem set_n5 {α : Type} {y x0 x1 x2 x3 x4 x5 : α} {r : List α} : List.set (x0 :: x1 :: x2 :: x3 :: x4 :: x5 :: r) 5 y = x0 :: x1 :: x2 :: x3 :: x4 :: y :: r := rfl
theorem set_n6 {α : Type} {y x0 x1 x2 x3 x4 x5 x6 : α} {r : List α} : List.set (x0 :: x1 :: x2 :: x3 :: x4 :: x5 :: x6 :: r) 6 y = x0 :: x1 :: x2 :: x3 :: x4 :: x5 :: y :: r := rfl
theorem set_n7 {α : Type} {y x0 x1 x2 x3 x4 x5 x6 x7 : α} {r : List α} : List.set (x0 :: x1 :: x2 :: x3 :: x4 :: x5 :: x6 :: x7 :: r) 7 y = x0 :: x1 :: x2 :: x3 :: x4 :: x5 :: x6 :: y :: r := rfl
theorem set_n8 {α : Type} {y x0 x1 x2 x3 x4 x5 x6 x7 x8 : α} {r : List α} : List.set (x0 :: x1 :: x2 :: x3 :: x4 :: x5 :: x6 :: x7 :: x8 :: r) 8 y = x0 :: x1 :: x2 :: x3 :: x4 :: x5 :: x6 :: x7 :: y :: r := rfl
theorem set_n9 {α : Type} {y x0 x1 x2 x3 x4 x5 x6 x7 x8 x9 : α} {r : List α} : List.set (x0 :: x1 :: x2 :: x3 :: x4 :: x5 :: x6 :: x7 :: x8 :: x9 :: r) 9 y = x0 :: x1 :: x2 :: x3 :: x4 :: x5 :: x6 :: x7 :: x8 :: y :: r := rfl
theorem set_n10 {α : Type} {y x0 x1 x2 x3 x4 x5 x6 x7 x8 x9 x10 : α} {r : List α} : List.set (x0 :: x1 :: x2 :: x3 :: x4 :: x5 :: x6 :: x7 :: x8 :: x9 :: x10 :: r) 10 y = x0 :: x1 :: x2 :: x3 :: x4 :: x5 :: x6 :: x7 :: x8 :: x9 :: y :: r := rfl
theorem set_n11 {α : Type} {y x0 x1 x2 x3 x4 x5 x6 x7 x8 x9 x10 x11 : α} {r : List α} : List.set (x0 :: x1 :: x2 :: x3 :: x4 :: x5 :: x6 :: x7 :: x8 :: x9 :: x10 :: x11 :: r) 11 y = x0 :: x1 :: x2 :: x3 :: x4 :: x5 :: x6 :: x7 :: x8 :: x9 :: x10 :: y :: r := rfl
theorem set_n12 {α : Type} {y x0 x1 x2 x3 x4 x5 x6 x7 x8 x9 x10 x11 x12 : α} {r : List α} : List.set (x0 :: x1 :: x2 :: x3 :: x4 :: x5 :: x6 :: x7 :: x8 :: x9 :: x10 :: x11 :: x12 :: r) 12 y = x0 :: x1 :: x2 :: x3 :: x4 :: x5 :: x6 :: x7 :: x8 :: x9 :: x10 :: x11 :: y :: r := rfl
theorem set_n13 {α : Type} {y x0 x1 x2 x3 x4 x5 x6 x7 x8 x9 x10 x11 x12 x13 : α} {r : List α} : List.set (x0 :: x1 :: x2 :: x3 :: x4 :: x5 :: x6 :: x7 :: x8 :: x9 :: x10 :: x11 :: x12 :: x13 :: r) 13 y = x0 :: x1 :: x2 :: x3 :: x4 :: x5 :: x6 :: x7 :: x8 :: x9 :: x10 :: x11 :: x12 :: y :: r := rfl
theorem set_n14 {α : Type} {y x0 x1 x2 x3 x4 x5 x6 x7 x8 x9 x10 x11 x12 x13 x14 : α} {r : List α} : List.set (x0 :: x1 :: x2 :: x3 :: x4 :: x5 :: x6 :: x7 :: x8 :: x9 :: x10 :: x11 :: x12 :: x13 :: x14 :: r) 14 y = x0 :: x1 :: x2 :: x3 :: x4 :: x5 :: x6 :: x7 :: x8 :: x9 :: x10 :: x11 :: x12 :: x13 :: y :: r := rfl
theorem set_n15 {α : Type} {y x0 x1 x2 x3 x4 x5 x6 x7 x8 x9 x10 x11 x12 x13 x14 x15 : α} {r : List α} : List.set (x0 :: x1 :: x2 :: x3 :: x4 :: x5 :: x6 :: x7 :: x8 :: x9 :: x10 :: x11 :: x12 :: x13 :: x14 :: x15 :: r) 15 y = x0 :: x1 :: x2 :: x3 :: x4 :: x5 :: x6 :: x7 :: x8 :: x9 :: x10 :: x11 :: x12 :: x13 :: x14 :: y :: r := rfl
theorem set_n16 {α : Type} {y x0 x1 x2 x3 x4 x5 x6 x7 x8 x9 x10 x11 x12 x13 x14 x15 x16 : α} {r : List α} : List.set (x0 :: x1 :: x2 :: x3 :: x4 :: x5 :: x6 :: x7 :: x8 :: x9 :: x10 :: x11 :: x12 :: x13 :: x14 :: x15 :: x16 :: r) 16 y = x0 :: x1 :: x2 :: x3 :: x4 :: x5 :: x6 :: x7 :: x8 :: x9 :: x10 :: x11 :: x12 :: x13 :: x14 :: x15 :: y :: r := rfl
theorem set_n17 {α : Type} {y x0 x1 x2 x3 x4 x5 x6 x7 x8 x9 x10 x11 x12 x13 x14 x15 x16 x17 : α} {r : List α} : List.set (x0 :: x1 :: x2 :: x3 :: x4 :: x5 :: x6 :: x7 :: x8 :: x9 :: x10 :: x11 :: x12 :: x13 :: x14 :: x15 :: x16 :: x17 :: r) 17 y = x0 :: x1 :: x2 :: x3 :: x4 :: x5 :: x6 :: x7 :: x8 :: x9 :: x10 :: x11 :: x12 :: x13 :: x14 :: x15 :: x16 :: y :: r := rfl
theorem set_n18 {α : Type} {y x0 x1 x2 x3 x4 x5 x6 x7 x8 x9 x10 x11 x12 x13 x14 x15 x16 x17 x18 : α} {r : List α} : List.set (x0 :: x1 :: x2 :: x3 :: x4 :: x5 :: x6 :: x7 :: x8 :: x9 :: x10 :: x11 :: x12 :: x13 :: x14 :: x15 :: x16 :: x17 :: x18 :: r) 18 y = x0 :: x1 :: x2 :: x3 :: x4 :: x5 :: x6 :: x7 :: x8 :: x9 :: x10 :: x11 :: x12 :: x13 :: x14 :: x15 :: x16 :: x17 :: y :: r := rfl
theorem set_n19 {α : Type} {y x0 x1 x2 x3 x4 x5 x6 x7 x8 x9 x10 x11 x12 x13 x14 x15 x16 x17 x18 x19 : α} {r : List α} : List.set (x0 :: x1 :: x2 :: x3 :: x4 :: x5 :: x6 :: x7 :: x8 :: x9 :: x10 :: x11 :: x12 :: x13 :: x14 :: x15 :: x16 :: x17 :: x18 :: x19 :: r) 19 y = x0 :: x1 :: x2 :: x3 :: x4 :: x5 :: x6 :: x7 :: x8 :: x9 :: x10 :: x11 :: x12 :: x13 :: x14 :: x15 :: x16 :: x17 :: x18 :: y :: r := rfl
theorem set_n20 {α : Type} {y x0 x1 x2 x3 x4 x5 x6 x7 x8 x9 x10 x11 x12 x13 x14 x15 x16 x17 x18 x19 x20 : α} {r : List α} : List.set (x0 :: x1 :: x2 :: x3 :: x4 :: x5 :: x6 :: x7 :: x8 :: x9 :: x10 :: x11 :: x12 :: x13 :: x14 :: x15 :: x16 :: x17 :: x18 :: x19 :: x20 :: r) 20 y = x0 :: x1 :: x2 :: x3 :: x4 :: x5 :: x6 :: x7 :: x8 :: x9 :: x10 :: x11 :: x12 :: x13 :: x14 :: x15 :: x16 :: x17 :: x18 :: x19 :: y :: r := rfl
theorem set_n21 {α : Type} {y x0 x1 x2 x3 x4 x5 x6 x7 x8 x9 x10 x11 x12 x13 x14 x15 x16 x17 x18 x19 x20 x21 : α} {r : List α} : List.set (x0 :: x1 :: x2 :: x3 :: x4 :: x5 :: x6 :: x7 :: x8 :: x9 :: x10 :: x11 :: x12 :: x13 :: x14 :: x15 :: x16 :: x17 :: x18 :: x19 :: x20 :: x21 :: r) 21 y = x0 :: x1 :: x2 :: x3 :: x4 :: x5 :: x6 :: x7 :: x8 :: x9 :: x10 :: x11 :: x12 :: x13 :: x14 :: x15 :: x16 :: x17 :: x18 :: x19 :: x20 :: y :: r := rfl
theorem set_n22 {α : Type} {y x0 x1 x2 x3 x4 x5 x6 x7 x8 x9 x10 x11 x12 x13 x14 x15 x16 x17 x18 x19 x20 x21 x22 : α} {r : List α} : List.set (x0 :: x1 :: x2 :: x3 :: x4 :: x5 :: x6 :: x7 :: x8 :: x9 :: x10 :: x11 :: x12 :: x13 :: x14 :: x15 :: x16 :: x17 :: x18 :: x19 :: x20 :: x21 :: x22 :: r) 22 y = x0 :: x1 :: x2 :: x3 :: x4 :: x5 :: x6 :: x7 :: x8 :: x9 :: x10 :: x11 :: x12 :: x13 :: x14 :: x15 :: x16 :: x17 :: x18 :: x19 :: x20 :: x21 :: y :: r := rfl
theorem set_n23 {α : Type} {y x0 x1 x2 x3 x4 x5 x6 x7 x8 x9 x10 x11 x12 x13 x14 x15 x16 x17 x18 x19 x20 x21 x22 x23 : α} {r : List α} : List.set (x0 :: x1 :: x2 :: x3 :: x4 :: x5 :: x6 :: x7 :: x8 :: x9 :: x10 :: x11 :: x12 :: x13 :: x14 :: x15 :: x16 :: x17 :: x18 :: x19 :: x20 :: x21 :: x22 :: x23 :: r) 23 y = x0 :: x1 :: x2 :: x3 :: x4 :: x5 :: x6 :: x7 :: x8 :: x9 :: x10 :: x11 :: x12 :: x13 :: x14 :: x15 :: x16 :: x17 :: x18 :: x19 :: x20 :: x21 :: x22 :: y :: r := rfl
theorem set_n24 {α : Type} {y x0 x1 x2 x3 x4 x5 x6 x7 x8 x9 x10 x11 x12 x13 x14 x15 x16 x17 x18 x19 x20 x21 x22 x23 x24 : α} {r : List α} : List.set (x0 :: x1 :: x2 :: x3 :: x4 :: x5 :: x6 :: x7 :: x8 :: x9 :: x10 :: x11 :: x12 :: x13 :: x14 :: x15 :: x16 :: x17 :: x18 :: x19 :: x20 :: x21 :: x22 :: x23 :: x24 :: r) 24 y = x0 :: x1 :: x2 :: x3 :: x4 :: x5 :: x6 :: x7 :: x8 :: x9 :: x10 :: x11 :: x12 :: x13 :: x14 :: x15 :: x16 :: x17 :: x18 :: x19 :: x20 :: x21 :: x22 :: x23 :: y :: r := rfl
theorem set_n25 {α : Type} {y x0 x1 x2 x3 x4 x5 x6 x7 x8 x9 x10 x11 x12 x13 x14 x15 x16 x17 x18 x19 x20 x21 x22 x23 x24 x25 : α} {r : List α} : List.set (x0 :: x1 :: x2 :: x3 :: x4 :: x5 :: x6 :: x7 :: x8 :: x9 :: x10 :: x11 :: x12 :: x13 :: x14 :: x15 :: x16 :: x17 :: x18 :: x19 :: x20 :: x21 :: x22 :: x23 :: x24 :: x25 :: r) 25 y = x0 :: x1 :: x2 :: x3 :: x4 :: x5 :: x6 :: x7 :: x8 :: x9 :: x10 :: x11 :: x12 :: x13 :: x14 :: x15 :: x16 :: x17 :: x18 :: x19 :: x20 :: x21 :: x22 :: x23 :: x24 :: y :: r := rfl
theorem set_n26 {α : Type} {y x0 x1 x2 x3 x4 x5 x6 x7 x8 x9 x10 x11 x12 x13 x14 x15 x16 x17 x18 x19 x20 x21 x22 x23 x24 x25 x26 : α} {r : List α} : List.set (x0 :: x1 :: x2 :: x3 :: x4 :: x5 :: x6 :: x7 :: x8 :: x9 :: x10 :: x11 :: x12 :: x13 :: x14 :: x15 :: x16 :: x17 :: x18 :: x19 :: x20 :: x21 :: x22 :: x23 :: x24 :: x25 :: x26 :: r) 26 y = x0 :: x1 :: x2 :: x3 :: x4 :: x5 :: x6 :: x7 :: x8 :: x9 :: x10 :: x11 :: x12 :: x13 :: x14 :: x15 :: x16 :: x17 :: x18 :: x19 :: x20 :: x21 :: x22 :: x23 :: x24 :: x25 :: y :: r := rfl
theorem set_n27 {α : Type} {y x0 x1 x2 x3 x4 x5 x6 x7 x8 x9 x10 x11 x12 x13 x14 x15 x16 x17 x18 x19 x20 x21 x22 x23 x24 x25 x26 x27 : α} {r : List α} : List.set (x0 :: x1 :: x2 :: x3 :: x4 :: x5 :: x6 :: x7 :: x8 :: x9 :: x10 :: x11 :: x12 :: x13 :: x14 :: x15 :: x16 :: x17 :: x18 :: x19 :: x20 :: x21 :: x22 :: x23 :: x24 :: x25 :: x26 :: x27 :: r) 27 y = x0 :: x1 :: x2 :: x3 :: x4 :: x5 :: x6 :: x7 :: x8 :: x9 :: x10 :: x11 :: x12 :: x13 :: x14 :: x15 :: x16 :: x17 :: x18 :: x19 :: x20 :: x21 :: x22 :: x23 :: x24 :: x25 :: x26 :: y :: r := rfl
theorem set_n28 {α : Type} {y x0 x1 x2 x3 x4 x5 x6 x7 x8 x9 x10 x11 x12 x13 x14 x15 x16 x17 x18 x19 x20 x21 x22 x23 x24 x25 x26 x27 x28 : α} {r : List α} : List.set (x0 :: x1 :: x2 :: x3 :: x4 :: x5 :: x6 :: x7 :: x8 :: x9 :: x10 :: x11 :: x12 :: x13 :: x14 :: x15 :: x16 :: x17 :: x18 :: x19 :: x20 :: x21 :: x22 :: x23 :: x24 :: x25 :: x26 :: x27 :: x28 :: r) 28 y = x0 :: x1 :: x2 :: x3 :: x4 :: x5 :: x6 :: x7 :: x8 :: x9 :: x10 :: x11 :: x12 :: x13 :: x14 :: x15 :: x16 :: x17 :: x18 :: x19 :: x20 :: x21 :: x22 :: x23 :: x24 :: x25 :: x26 :: x27 :: y :: r := rfl
theorem set_n29 {α : Type} {y x0 x1 x2 x3 x4 x5 x6 x7 x8 x9 x10 x11 x12 x13 x14 x15 x16 x17 x18 x19 x20 x21 x22 x23 x24 x25 x26 x27 x28 x29 : α} {r : List α} : List.set (x0 :: x1 :: x2 :: x3 :: x4 :: x5 :: x6 :: x7 :: x8 :: x9 :: x10 :: x11 :: x12 :: x13 :: x14 :: x15 :: x16 :: x17 :: x18 :: x19 :: x20 :: x21 :: x22 :: x23 :: x24 :: x25 :: x26 :: x27 :: x28 :: x29 :: r) 29 y = x0 :: x1 :: x2 :: x3 :: x4 :: x5 :: x6 :: x7 :: x8 :: x9 :: x10 :: x11 :: x12 :: x13 :: x14 :: x15 :: x16 :: x17 :: x18 :: x19 :: x20 :: x21 :: x22 :: x23 :: x24 :: x25 :: x26 :: x27 :: x28 :: y :: r := rfl
end Hf
/-! ## exceptions: caught, noted and asked behind the suite -/
namespace Hf
open PySem PySem.Spec PyProof.Rows L2
/-- at a: a caught exception of the class cls, its dict d -/
def exHO (a : Addr) (cls : Value) (d : Option Addr) : HO := .ext fun h => ∃ oe vs, h.get? a = some oe ∧ Zc cls d oe ∧ oe.data = .fields vs
theorem exHO_ok {P : Program} {w : World} {H : Hp} {h : Heap} {a : Addr} {cls : Value} {d : Option Addr} {oe : Obj} {vs : Array Value} (e : h.get? a = some oe) (hz : Zc cls d oe) (hd : oe.data = .fields vs) : ObjOk P w H h a (exHO a cls d) :=
  ⟨⟨oe, vs, e, hz, hd⟩, ⟨oe, e⟩, fun _ _ ⟨o, v, x, y, z⟩ k => ⟨o, v, k _ x, y, z⟩⟩
theorem exHO_at {P : Program} {w : World} {H : Hp} {h : Heap} {a : Addr} {cls : Value} {d : Option Addr} (ok : HOk P w H h) (e : H a = some (exHO a cls d)) : ∃ oe vs, h.get? a = some oe ∧ Zc cls d oe ∧ oe.data = .fields vs := by
  have x : ObjOk P w H h a (.ext fun h => ∃ oe vs, h.get? a = some oe ∧ Zc cls d oe ∧ oe.data = .fields vs) := ok a _ e
  exact x.1
/-- a pinned object of ours is taken up -/
theorem track {X : Cx} {pins : List (Addr × Obj)} {σ : L2.St} {H : Hp} {s : Shared} {a : Addr} {oe : Obj} {cls : Value} {d : Option Addr} {vs : Array Value} (I : Inv X ((a, oe) :: pins) σ H s) (hz : Zc cls d oe) (hd : oe.data = .fields vs)
    (n0 : X.s_0.heap.get? a = none) (np : ∀ p ∈ X.pn ++ pins, p.1 ≠ a) : Inv X pins σ (L2.upd H a (exHO a cls d)) s := by
  obtain ⟨ga, na, nL, nF, nc⟩ := I.pin (a, oe) (List.mem_append_right _ List.mem_cons_self)
  dsimp only at ga na nL nF nc
  have ncell : ∀ x c, X.env.cells.lookup x = some c → c ≠ a := fun x c e z => by
    obtain ⟨v, o, ho, hdc⟩ := I.cell x c e
    rw [z, ga] at ho
    cases ho
    exact nc _ hdc
  refine ⟨I.ok, I.os, I.bare, ⟨I.base.keep, I.base.slot, fun b o e n hx => ?_, I.base.there, fun b xs e => ?_, fun b o u e => ?_, fun b ps e => ?_⟩, I.loc, I.cell, ?_, fun x c e => ?_, fun p hp => ?_, fun b o e => ?_, I.len⟩
  · rw [upd_ne (fun z => by rw [z, n0] at e; cases e)]
    exact I.base.free b o e n hx
  · have q := I.base.tups b xs e
    rw [upd_ne (ne_of_none q na)]
    exact q
  · have q := I.base.frzs b o u e
    rw [upd_ne (ne_of_none q na)]
    exact q
  · obtain ⟨m, q⟩ := I.base.tbls b ps e
    exact ⟨m, by rw [upd_ne (ne_of_none q na)]; exact q⟩
  · rw [upd_ne (Ne.symm nL)]
    exact I.free
  · rw [upd_ne (ncell x c e)]
    exact I.freeC x c e
  · obtain ⟨e, n, r⟩ := I.pin p (by
      rcases List.mem_append.mp hp with h | h
      · exact List.mem_append_left _ h
      · exact List.mem_append_right _ (List.mem_cons_of_mem _ h))
    exact ⟨e, by rw [upd_ne (np p hp)]; exact n, r⟩
  · by_cases hb : b = a
    · subst hb
      rw [upd_same] at e
      cases e
      exact exHO_ok ga hz hd
    · rw [upd_ne hb] at e
      refine (I.hok b o e).stay (fun c u _ q => q) (fun c q => ?_) fun c xs q => ?_
      · rw [upd_ne (ne_of_none q na)]
        exact q
      · rw [upd_ne (ne_of_none q na)]
        exact q
/-- what follows the suite -/
def nxAs (i : Nat) (a : Addr) (cls : Value) (d : Option Addr) (nx : L2.St → Hp → Prop) : L2.St → Hp → Prop := fun σ' H' => nx (σ'.set i none) (L2.upd H' a (exHO a cls d))
def rtAs (a : Addr) (cls : Value) (d : Option Addr) (rt : VK) : VK := fun v H' => rt v (L2.upd H' a (exHO a cls d))
/-- what the clause 'except x as n' wishes of an exception of the body -/
def wAsT (K : PySem.W.Frag) (c : Value) (i : Nat) (ts : TS) (Wout : WX) (D : Ends) : WX := fun cls d σ H =>
  ∃ b, PySem.W.exmOne K cls c = some b ∧ (b = true → ∀ a, H a = none → ts { nx := nxAs i a cls d D.nx, rt := rtAs a cls d D.rt, bk := nxAs i a cls d D.bk, ct := nxAs i a cls d D.ct } (σ.set i (some (.ref a))) H) ∧
    (b = false → Wout cls d σ H)
def tTryAs (K : PySem.W.Frag) (c : Value) (i : Nat) (ts : TS) (Wout : WX) (tb : WX → TS) : TS := fun D σ H => tb (wAsT K c i ts Wout D) D σ H
section
variable {X : Cx} {x n : Str} {c : Value} {i : Nat} {body suite : List Stmt} {b₀ : Stmt} {np pos pos' : Pos} {tb : WX → TS} {ts : TS} {Wout : WX}
theorem ps_try_asT (hs : X.stack = X.env :: X.outer) (hf : X.env.frame = some X.env.locals) (hex : X.ex = []) (hN : X.N.Nodup) (hi : X.N[i]? = some n) (hln : X.env.kindOf n = some .local) (hc : Names X x c) (tk : Takes X Wout)
    (hb : ∀ (W : WX) (pn : List (Addr × Obj)) (xe : Value → Shared → Prop), Takes (X.tr pn xe) W → PassesOwn (model X.prog X.w) X.A X.env xe → PSs (X.tr pn xe) body (tb W))
    (hsu : ∀ (a : Addr) (oe : Obj) (pn : List (Addr × Obj)), PSs (X.suite a ((a, oe) :: pn)) (b₀ :: suite) ts) :
    PS X (.Try body [.ExceptHandler (some (.Name x np)) (some n) (b₀ :: suite) pos'] [] [] pos) (tTryAs X.K c i ts Wout tb) := by
  refine ⟨fun pins s σ H D I h => ?_⟩
  have ok := I.ok
  have hfr : X.A.frames = some (X.env :: X.outer) := by rw [ok.frames, hs]
  have hloc : Loc X.env.scope n := .inl hln
  refine wpAny_Try_except ?_
  refine wpAny_mono ((hb (wAsT X.K c i ts Wout D) (X.pn ++ pins) (fun e s₁ => wpAny (model X.prog X.w) X.A (noteFrame e X.env) (fun _ s₂ => wpAny (model X.prog X.w) X.A (setFlight e none) (fun _ s₃ =>
    wpAny (model X.prog X.w) X.A (handleBy e X.env [.ExceptHandler (some (.Name x np)) (some n) (b₀ :: suite) pos']) (SP X pins D) X.xe s₃) X.xe s₂) X.xe s₁) (fun u s' xx => ?_) PassesOwn.looking).run [] s σ H D (I.toTry _) h) (fun f s1 hsp => ?_) (fun e s1 he => he)
  · obtain ⟨a, B, sI, pins', σ', H', cls, d, rfl, J', nb, up, sky, na, os, ag, b, hb1, hyes, hno⟩ := xx
    have J : Inv X pins σ' H' sI := J'.ofTry ok
    have sky' : Sky B (X.env :: X.outer) a (Zc cls d) X.env.locals s'.heap := by rw [← hs]; exact sky
    show wpAny (model X.prog X.w) X.A (noteFrame (.ref a) X.env) _ _ _
    refine Sky.land Zc.steady hfr hf sky' fun h3 fl3 up3 => ?_
    have J3 : Inv X pins σ' H' { s' with heap := h3 } := J.landed nb fl3.1 (up.trans up3) os ag
    obtain ⟨oe3, vs3, he3, hz3, hd3⟩ := fl3.there
    have notFr : ∀ {h : Heap} {o : Obj} {vs : Array Value}, h.FunFrames B (X.env :: X.outer) → h.get? a = some o → o.data = .fields vs → a ∉ frs (X.env :: X.outer) := fun {h o vs} ff e dd hm => by
      obtain ⟨_, o', e', hnf⟩ := ff.mem hm
      rw [e] at e'; cases e'
      exact hnf _ dd
    have nfr := notFr fl3.2.2.1 he3 hd3
    have nL : a ≠ X.env.locals := fun z => nfr (List.mem_filterMap.mpr ⟨X.env, List.mem_cons_self, by rw [hf, z]⟩)
    have nF : a ∉ X.fs := fun hm => by
      obtain ⟨e, he, q⟩ := List.mem_filterMap.mp hm
      exact nfr (List.mem_filterMap.mpr ⟨e, List.mem_cons_of_mem _ he, q⟩)
    have nI : sI.heap.get? a = none := by
      cases q : sI.heap.get? a with
      | none => rfl
      | some o =>
        have z := nb a o q (by rw [hs]; exact nfr)
        rw [fl3.2.1] at z
        cases z
    have n0 : X.s_0.heap.get? a = none := by
      cases q : X.s_0.heap.get? a with
      | none => rfl
      | some o =>
        obtain ⟨o', z⟩ := J.base.there a o q (by rw [hex]; exact List.not_mem_nil)
        rw [nI] at z
        cases z
    have npin : ∀ p ∈ X.pn ++ pins, p.1 ≠ a := fun p hp z => by
      have q := (J.pin p hp).1
      rw [z, nI] at q
      cases q
    have S3 := J3.suite he3 hd3 na nL nF
    refine wpAny_handleBy_cons (codeAny_handlers_test ?_) (by intro q; cases q)
    have LT : PySem.W.Looks (model X.prog X.w) h3 (typeOf (.ref a)) cls := fun A Q E s k q => wpAny_typeOf_ref (k _ _ he3) (by rw [hz3.1]; exact q)
    have LM := PySem.W.exm_one (M := model X.prog X.w) (J3.kIn) LT hb1
    have test : ∀ {Q : Value → Shared → Prop} {E : Value → Shared → Prop}, Q c { s' with heap := h3 } → wpAny (model X.prog X.w) (X.A.mark (some (.ref a))) (eval (.Name x np) X.env) Q E { s' with heap := h3 } := fun {Q E} q => by
      obtain ⟨hg, hdbg, hm | ⟨hm, hv, hnn⟩⟩ := hc
      · exact ld_glob (X := X.suite a ((a, oe3) :: (X.pn ++ pins))) S3 hg hm q hdbg
      · exact ld_blt (X := X.suite a ((a, oe3) :: (X.pn ++ pins))) S3 hg hm hv q hnn hdbg
    refine test (LM.here ?_)
    cases b with
    | true =>
      refine codeAny_handlers_suite_as ?_
      refine HandSPX.lands_againZ fl3 fun h4 fl4 up4 => ?_
      have J4 : Inv X pins σ' H' { s' with heap := h4 } := J.landed nb fl4.1 ((up.trans up3).trans up4) os ag
      obtain ⟨oe4, vs4, he4, hz4, hd4⟩ := fl4.there
      have S4 := J4.suite he4 hd4 na nL nF
      refine store_ok (X := X.suite a ((a, oe4) :: (X.pn ++ pins))) (v := .ref a) S4 hN hi hloc rfl (fun s5 S5 => ?_) (.inr hln)
      refine wpAny_mono ((hsu a oe4 (X.pn ++ pins)).run [] s5 _ H' _ S5 (hyes rfl a na)) (fun f s6 hsp => ?_) (fun _ _ z => False.elim z)
      have end_ : ∀ {σ6 : L2.St} {H6 : Hp} {Q : Shared → Prop}, Inv (X.suite a ((a, oe4) :: (X.pn ++ pins))) [] σ6 H6 s6 → (∀ s7, Inv X pins (σ6.set i none) (L2.upd H6 a (exHO a cls d)) s7 → Q s7) →
          wpAny (model X.prog X.w) X.A (do bindName X.env n .none; unbindBehindTheSuite X.env n pos') (fun _ s7 => Q s7) X.xe s6 := fun {σ6 H6 Q} S6 hq => by
        have S7 : Inv X ((a, oe4) :: pins) σ6 H6 s6 := ⟨ok, S6.os, S6.bare, S6.base, S6.loc, S6.cell, S6.free, S6.freeC, fun p hp => S6.pin p (by
          show p ∈ (a, oe4) :: (X.pn ++ pins) ++ []
          rw [List.append_nil]
          rcases List.mem_append.mp hp with h | h
          · exact List.mem_cons_of_mem _ (List.mem_append_left _ h)
          · rcases List.mem_cons.mp h with h | h
            · rw [h]
              exact List.mem_cons_self
            · exact List.mem_cons_of_mem _ (List.mem_append_right _ h)), S6.hok, S6.len⟩
        exact gone_ok S7 hN hi hln fun s7 J7 => hq s7 (track J7 hz4 hd4 n0 npin)
      cases f with
      | next =>
        obtain ⟨σ6, H6, S6, q6⟩ := hsp
        exact end_ S6 fun s7 J7 => ⟨_, _, J7, q6⟩
      | brk =>
        obtain ⟨σ6, H6, S6, q6⟩ := hsp
        exact end_ S6 fun s7 J7 => ⟨_, _, J7, q6⟩
      | cont =>
        obtain ⟨σ6, H6, S6, q6⟩ := hsp
        exact end_ S6 fun s7 J7 => ⟨_, _, J7, q6⟩
      | ret u =>
        obtain ⟨v6, σ6, H6, S6, r6, q6⟩ := hsp
        exact end_ S6 fun s7 J7 => ⟨_, _, _, J7, r6, q6⟩
    | false =>
      show wpAny _ X.A (handleBy (.ref a) X.env []) _ _ _
      refine wpAny_handleBy_nil ?_
      obtain ⟨k1, k2, k3, oe, vs, T, oT, ts', he, hz, hd, h1, hr⟩ := id fl3
      unfold PySem.passOn
      refine wpAny_bind (wpAny_field he hd h1 ?_)
      rw [if_neg (show ¬ ((Value.ref T == Value.none) = true) from by simp)]
      have fin : wpAny (model X.prog X.w) X.A (setFlight (.ref a) X.env.frame) (fun _ s4 => wpAny (model X.prog X.w) X.A (throw (.ref a) : Sem Flow) (SP X pins D) X.xe s4) X.xe { s' with heap := h3 } := by
        rw [hf]
        refine HandSPX.setFlight_upZ fl3 fun h4 hh4 up4 => wpAny_throw (tk _ _ ?_)
        exact ⟨a, B, sI, pins, σ', H', cls, d, rfl, J, nb, (up.trans up3).trans up4, .inr (.inr (by rw [hs]; exact hh4)), na, os, ag, hno rfl⟩
      first
        | exact wpAny_bind (wpAny_pure (wpAny_bind fin))
        | exact wpAny_bind fin
  · cases f with
    | next =>
      obtain ⟨σ', H', J', q⟩ := hsp
      exact wpAny_execs_nil ⟨σ', H', J'.ofTry ok, q⟩
    | brk =>
      obtain ⟨σ', H', J', q⟩ := hsp
      exact ⟨σ', H', J'.ofTry ok, q⟩
    | cont =>
      obtain ⟨σ', H', J', q⟩ := hsp
      exact ⟨σ', H', J'.ofTry ok, q⟩
    | ret u =>
      obtain ⟨v, σ', H', J', r, q⟩ := hsp
      exact ⟨v, σ', H', J'.ofTry ok, r, q⟩
end
/-! ### isinstance -/
/-- isinstance(x, c): x a tracked exception, or any other thing -/
def rIsX (K : PySem.W.Frag) : List V → Hp → VK → Prop := fun xs H Q =>
  (∃ (a D : Addr) (d : Option Addr) (c : V) (cv : Value) (b : Bool), xs = [.ref a, c] ∧ H a = some (exHO a (.ref D) d) ∧ (∀ dd, d = some dd → ∃ fs, H dd = some (.xd fs)) ∧ ExcC K D ∧ (∀ u, RelV c u → u = cv) ∧ PySem.W.kitOne K (.ref D) cv = some b ∧ Q (.bl b) H) ∨ rIsi K xs H Q
theorem call_isX {X : Cx} : CallR X (.builtin "isinstance") (rIsX X.K) := by
  intro pins s σ H xs us Q I r h
  rcases h with ⟨a, D, d, c, cv, b, rfl, ha, hdd, C, hcv, e, q⟩ | h
  · cases r with
    | cons rx rr =>
      cases rr with
      | cons rt rr =>
        cases rr
        cases rx
        have ec := hcv _ rt
        subst ec
        obtain ⟨oe, vs, hget, hz, hv⟩ := exHO_at I.hok ha
        obtain ⟨od, J⟩ : ∃ od, PySem.W.InstAt s.heap a oe D od := by
          cases d with
          | none =>
            obtain ⟨oc, od, oda, osl⟩ := oe
            obtain ⟨h1, h2⟩ := hz
            dsimp only at h1 h2 hv
            subst h1 h2 hv
            exact ⟨none, hget, rfl, rfl, trivial⟩
          | some dd =>
            obtain ⟨fs, hfs⟩ := hdd dd rfl
            have x : ObjOk X.prog X.w H s.heap dd (.xd fs) := I.hok dd _ hfs
            obtain ⟨mA, ⟨o, es, ep, ho, _⟩, _⟩ := x
            obtain ⟨oc, od, oda, osl⟩ := oe
            obtain ⟨h1, h2⟩ := hz
            dsimp only at h1 h2 hv
            subst h1 h2 hv
            exact ⟨some o, hget, rfl, rfl, ho⟩
        have hcl : (PySem.W.clsIn X.K D).isSome = true := by
          obtain ⟨cd, hc, _⟩ := PySem.W.any_some C.hd
          rw [hc]
          rfl
        exact PySem.W.kia_one (PySem.W.kitx_exc hcl C.hg C.hk C.hs C.ha C.hn C.ht C.hm) I.kIn J e (fun z => nomatch z) fun tk => ⟨.bl b, H, I.kept (t' := tk) fun _ _ z => z, rfl, q⟩
  · exact call_isi pins s σ H xs us Q I r h
theorem call_isXK {X : Cx} (K : PySem.W.Frag) (e : X.K = K) : CallR X (.builtin "isinstance") (rIsX K) := by subst e; exact call_isX
section
variable {σ σ' : L2.St} {H : Hp} {Q : VK} {nx bk ct : L2.St → Hp → Prop} {rt : VK} {K : PySem.W.Frag} {a D C : Addr} {d : Option Addr} {cls c : Value} {b : Bool} {i : Nat}
theorem i_isXR (h : H a = some (exHO a (.ref D) none)) (e : ExcC K D) (k : PySem.W.kitOne K (.ref D) (.ref C) = some b) (q : Q (.bl b) H) : rIsX K [.ref a, .ref C] H Q :=
  .inl ⟨a, D, none, .ref C, .ref C, b, rfl, h, fun _ z => (nomatch z), e, fun _ z => z, k, q⟩
theorem i_isXT {T : String} (h : H a = some (exHO a (.ref D) none)) (e : ExcC K D) (k : PySem.W.kitOne K (.ref D) (.type T) = some b) (q : Q (.bl b) H) : rIsX K [.ref a, .ty T] H Q :=
  .inl ⟨a, D, none, .ty T, .type T, b, rfl, h, fun _ z => (nomatch z), e, fun _ z => z, k, q⟩
theorem i_isXRd {dd : Addr} {fs : List (Str × V)} (h : H a = some (exHO a (.ref D) (some dd))) (hd : H dd = some (.xd fs)) (e : ExcC K D) (k : PySem.W.kitOne K (.ref D) (.ref C) = some b) (q : Q (.bl b) H) : rIsX K [.ref a, .ref C] H Q :=
  .inl ⟨a, D, some dd, .ref C, .ref C, b, rfl, h, fun x z => by cases z; exact ⟨fs, hd⟩, e, fun _ z => z, k, q⟩
theorem i_isXTd {T : String} {dd : Addr} {fs : List (Str × V)} (h : H a = some (exHO a (.ref D) (some dd))) (hd : H dd = some (.xd fs)) (e : ExcC K D) (k : PySem.W.kitOne K (.ref D) (.type T) = some b) (q : Q (.bl b) H) : rIsX K [.ref a, .ty T] H Q :=
  .inl ⟨a, D, some dd, .ty T, .type T, b, rfl, h, fun x z => by cases z; exact ⟨fs, hd⟩, e, fun _ z => z, k, q⟩
theorem i_isXi {t : String} {x : V} {c : String} (ty : TyX K H x (.type t)) (h : kitB t c = some b) (q : Q (.bl b) H) : rIsX K [x, .ty c] H Q := .inr ⟨x, .ty c, .type t, .type c, b, rfl, .ty c, ty, kit_ty h, q⟩
theorem i_isXo {t : String} {x : V} (ty : TyX K H x (.type t)) (h : PySem.W.kitOne K (.type t) (.ref C) = some b) (q : Q (.bl b) H) : rIsX K [x, .ref C] H Q := .inr ⟨x, .ref C, .type t, .ref C, b, rfl, .own C, ty, h, q⟩
/-! ### the steps -/
theorem i_callS {sp : Sp} {E : L2.St → XK} {t : TA} (h : t σ H fun vs H1 => sp vs H1 Q (E σ)) : tCallS sp E t σ H Q := h
theorem i_try {ts : TS} {Wout : WX} {tb : WX → TS} (h : tb (wAsT K c i ts Wout ⟨nx, rt, bk, ct⟩) ⟨nx, rt, bk, ct⟩ σ H) : tTryAs K c i ts Wout tb ⟨nx, rt, bk, ct⟩ σ H := h
theorem i_caught {τ : Addr → L2.St} {ts : TS} {Wout : WX} (e : PySem.W.exmOne K cls c = some true) (s : ∀ a, List.set σ i (some (V.ref a)) = τ a) (h : ∀ a, H a = none → ts ⟨nxAs i a cls d nx, rtAs a cls d rt, nxAs i a cls d bk, nxAs i a cls d ct⟩ (τ a) H) : wAsT K c i ts Wout ⟨nx, rt, bk, ct⟩ cls d σ H :=
  ⟨true, e, fun _ a na => by
    show ts _ (List.set σ i (some (V.ref a))) H
    rw [s a]
    exact h a na, fun z => nomatch z⟩
theorem i_nxAs (s : List.set σ i none = σ') (q : nx σ' (L2.upd H a (exHO a cls d))) : nxAs i a cls d nx σ H := by
  subst s
  exact q
theorem i_rtAs {v : V} (q : rt v (L2.upd H a (exHO a cls d))) : rtAs a cls d rt v H := q
theorem i_isnR (q : Q (.bl false) H) : V.non = V.non ∧ Q (.bl (decide (V.ref a = V.non))) H := ⟨rfl, by
  rw [decide_eq_false (fun z => by cases z)]
  exact q⟩
theorem i_isnN (q : Q (.bl true) H) : V.non = V.non ∧ Q (.bl (decide (V.non = V.non))) H := ⟨rfl, by
  rw [decide_eq_true rfl]
  exact q⟩
end
/-! ### what is known of the classes -/
structure ClsT (K : PySem.W.Frag) (C : Addr) : Prop where
  ic : PySem.W.isClsIn K C = true
  ty : PySem.W.typeIn K (.ref C) = some (.type "type")
section
variable {K : PySem.W.Frag} {C D : Addr} {b : Bool}
theorem kit_clsT (c : ClsT K C) {t : Value} (h : PySem.W.subIn K t (.ref C) = some b) : PySem.W.kitCls K t (.ref C) = some b := by
  have h2 : (PySem.W.clsIn K C).isSome = true := c.ic
  show (if ((PySem.W.clsIn K C).isSome && PySem.W.typeIn K (.ref C) == some (.type "type")) = true then PySem.W.subIn K t (.ref C) else none) = some b
  rw [if_pos (by rw [h2, c.ty]; rfl)]
  exact h
theorem kit_t (c : ClsT K C) (h : PySem.W.subIn K (.ref D) (.ref C) = some true) : PySem.W.kitOne K (.ref D) (.ref C) = some true := by
  unfold PySem.W.kitOne
  split
  · rfl
  · exact kit_clsT c h
theorem kit_f (c : ClsT K C) (hs : PySem.W.subIn K (.ref D) (.ref D) = some true) (h : PySem.W.subIn K (.ref D) (.ref C) = some false) : PySem.W.kitOne K (.ref D) (.ref C) = some false := by
  unfold PySem.W.kitOne
  split
  · rename_i z
    have e : D = C := Value.ref.inj (beq_iff_eq.mp z)
    subst e
    rw [hs] at h
    cases h
  · exact kit_clsT c h
theorem kit_o (c : ClsT K C) {t : String} (h : PySem.W.subIn K (.type t) (.ref C) = some b) : PySem.W.kitOne K (.type t) (.ref C) = some b := by
  unfold PySem.W.kitOne
  rw [if_neg (by rw [beq_iff_eq]; exact fun z => nomatch z)]
  exact kit_clsT c h
theorem kit_v {T : String} (h : PySem.W.subIn K (.ref D) (.type T) = some b) (hm : PySem.W.kitMeta T = true) : PySem.W.kitOne K (.ref D) (.type T) = some b := by
  unfold PySem.W.kitOne
  rw [if_neg (by rw [beq_iff_eq]; exact fun z => nomatch z)]
  show (if PySem.W.kitMeta T = true then PySem.W.subIn K (.ref D) (.type T) else none) = some b
  rw [if_pos hm]
  exact h
theorem exm_t (c : ClsT K C) (hb : PySem.W.subIn K (.ref C) (.type "BaseException") = some true) (h : PySem.W.subIn K (.ref D) (.ref C) = some b) : PySem.W.exmOne K (.ref D) (.ref C) = some b := by
  show (if (PySem.W.subIn K (.ref C) (.type "BaseException") == some true) = true then PySem.W.kitCls K (.ref D) (.ref C) else none) = some b
  rw [if_pos (by rw [hb]; rfl)]
  exact kit_clsT c h
end
/-! ### counts of flat things -/
def rCntV (K : PySem.W.Frag) : V → List V → Hp → VK → Prop := fun x xs H Q => ∃ (p : Addr) (ys : List V) (y : V), x = .ref p ∧ xs = [y] ∧ SqL K H p ys ∧ flatV y = true ∧ ys.all flatV = true ∧ Q (.int (ys.countP fun z => eqV z y : Nat)) H
theorem cnt_flat {u : Value} {y : V} (ry : RelV y u) (fy : flatV y = true) : ∀ {ys : List V} {us : List Value}, Vals ys us → ys.all flatV = true → us.countP (eqU y) = ys.countP fun z => eqV z y
  | [], [], .nil, _ => rfl
  | z :: r, _ :: _, .cons rz t, f => by
    have f1 : flatV z = true := (List.all_eq_true.mp f) z List.mem_cons_self
    have f2 : r.all flatV = true := List.all_eq_true.mpr fun q hq => (List.all_eq_true.mp f) q (List.mem_cons_of_mem _ hq)
    rw [List.countP_cons, List.countP_cons, cnt_flat ry fy t f2, eqU_of rz f1]
theorem mt_lcountV {X : Cx} : MtR X "list.count" (rCntV X.K) := by
  intro pins s σ H x xs v us Q I rx rxs h
  obtain ⟨p, ys, y, rfl, rfl, hs, fy, fys, q⟩ := h
  cases rx
  obtain ⟨u, rfl, ru⟩ := rxs.one
  obtain ⟨its, rv, ⟨⟨cls, dd, data, sl⟩, n, ho, hc, hdn, hd⟩, hlen⟩ := I.list hs
  simp only at hc hd
  subst hc hd
  refine call_meets PySem.F.slot_list_count ⟨_, ho, rfl⟩ PySem.F.entry_list_count (PySem.F.args_list_count_2 _ _)
    (SeqAt.list_countAt p its.toArray n dd sl u (eqU y)) ⟨ho, fun u' hu' => mem_eqAt ru fy rv fys u' (by simpa using hu'), ?_⟩
  have ec : its.toArray.toList.countP (eqU y) = ys.countP fun z => eqV z y := cnt_flat ru fy rv fys
  refine ⟨.int _, H, I.tok _, ⟨s.toks, ?_⟩, q⟩
  show Value.int ((its.toArray.toList.countP (eqU y) : Nat) : Int) s.toks = Value.int _ s.toks
  rw [ec]
theorem mt_lcountVK {X : Cx} (K : PySem.W.Frag) (e : X.K = K) : MtR X "list.count" (rCntV K) := by subst e; exact mt_lcountV
theorem mt_indexK {X : Cx} (K : PySem.W.Frag) (e : X.K = K) : MtR X "list.index" (rIndex K) := by subst e; exact mt_index
theorem i_cntV {K : PySem.W.Frag} {H : Hp} {Q : VK} {p : Addr} {ys : List V} {y : V} {n : Nat} (h : SqL K H p ys) (f : flatV y = true) (g : ys.all flatV = true) (e : (ys.countP fun z => eqV z y) = n) (q : Q (.int (n : Nat)) H) : rCntV K (.ref p) [y] H Q :=
  ⟨p, ys, y, rfl, rfl, h, f, g, by rw [e]; exact q⟩
/-- the first place at which y stands -/
def firstAt (y : V) : List V → Nat → Option Nat
  | [], _ => none
  | z :: r, k => if eqV z y = true then some k else firstAt y r (k + 1)
theorem firstAt_is {y : V} : ∀ {ys : List V} {k j : Nat}, firstAt y ys k = some j → k ≤ j ∧ (∃ z, ys[j - k]? = some z ∧ eqV z y = true) ∧ ∀ (m : Nat) (z' : V), m < j - k → ys[m]? = some z' → eqV z' y = false
  | [], _, _, h => nomatch h
  | z :: r, k, j, h => by
    unfold firstAt at h
    split at h
    · rename_i c
      cases h
      rw [Nat.sub_self]
      exact ⟨Nat.le_refl _, ⟨z, rfl, c⟩, fun m z' hm => absurd hm (Nat.not_lt_zero _)⟩
    · rename_i c
      obtain ⟨h1, ⟨w, h2, h3⟩, h4⟩ := firstAt_is h
      refine ⟨by omega, ⟨w, ?_, h3⟩, fun m z' hm hz => ?_⟩
      · rw [show j - k = (j - (k + 1)) + 1 by omega, List.getElem?_cons_succ]
        exact h2
      · cases m with
        | zero =>
          rw [List.getElem?_cons_zero] at hz
          cases hz
          exact Bool.eq_false_iff.mpr c
        | succ m =>
          rw [List.getElem?_cons_succ] at hz
          exact h4 m z' (by omega) hz
theorem i_index {K : PySem.W.Frag} {H : Hp} {Q : VK} {p : Addr} {ys : List V} {y : V} {j : Nat} (h : SqL K H p ys) (f : flatV y = true) (g : ys.all flatV = true) (e : firstAt y ys 0 = some j) (q : Q (.int (j : Nat)) H) : rIndex K (.ref p) [y] H Q := by
  obtain ⟨_, ⟨z, h2, h3⟩, h4⟩ := firstAt_is e
  exact ⟨p, ys, y, j, z, rfl, rfl, h, f, g, h2, h3, h4, q⟩
/-! ### comprehensions over zip, kept where the second says so -/
def pickB : List V → List Bool → List V
  | x :: xs, c :: bs => if c = true then x :: pickB xs bs else pickB xs bs
  | _, _ => []
theorem pickB_more : ∀ {xs : List V} {bs : List Bool} {i : Nat} {x : V} {c : Bool}, xs[i]? = some x → bs[i]? = some c → pickB (xs.take (i + 1)) (bs.take (i + 1)) = pickB (xs.take i) (bs.take i) ++ (if c = true then [x] else [])
  | [], _, _, _, _, h, _ => by simp at h
  | _ :: _, [], _, _, _, _, h => by simp at h
  | y :: xs, d :: bs, 0, x, c, h1, h2 => by
    simp at h1 h2
    subst h1 h2
    simp [pickB]
  | y :: xs, d :: bs, i + 1, x, c, h1, h2 => by
    rw [List.getElem?_cons_succ] at h1 h2
    have ih := pickB_more h1 h2
    simp only [List.take_succ_cons, pickB]
    cases d
    · simp only [Bool.false_eq_true, if_false]
      exact ih
    · simp only [if_true, List.cons_append]
      rw [ih]
theorem pickB_len : ∀ (xs : List V) (bs : List Bool), (pickB xs bs).length ≤ xs.length
  | [], _ => by simp [pickB]
  | _ :: _, [] => by simp [pickB]
  | y :: xs, d :: bs => by
    have := pickB_len xs bs
    unfold pickB
    split
    · simp
      omega
    · simp
      omega
section
variable {σ : L2.St} {H H1 : Hp} {Q : VK} {K : PySem.W.Frag} {D a b : Addr} {wi : TI} {g : TG} {tt : TT} {te : TE} {vs : List Nat} {xs ys : List V} {Qd : Hp → Prop}
theorem lcZ_pick (bs : List Bool) (hb : ys = bs.map V.bl) (nD : H1 D = none) (hn : xs.length ≤ 1000) (hl : xs.length = bs.length) (hx : SqL K H1 a xs) (hy : SqL K H1 b ys)
    (hs : ∀ (i : Nat) (x : V) (c : Bool) (T : Addr) H (Z : VK) (Y : Hp → Prop), xs[i]? = some x → bs[i]? = some c → Same H1 H → H T = none → (c = true → ∀ H4, Same H H4 → Z x H4) → (c = false → ∀ H4, Same H H4 → Y H4) → LcTurn g tt te vs σ (.ref T) (L2.upd H T (.tup [x, .bl c])) Z Y)
    (hd : ∀ H, Same H1 H → H D = some (.lst (pickB xs bs)) → Qd H) :
    ∃ W : Nat → Nat → Hp → Prop, (∃ m, W 0 m (L2.upd H1 D (.lst []))) ∧ ∀ i m H, W i m H →
      ((Itz K a b).stop i H ∧ Qd H) ∨ ((Itz K a b).go i H ∧ ∃ Nx : Hp → Prop, (∀ H', Nx H' → ∃ m', m' < m ∧ W (i + 1) m' H') ∧ ∀ x H', (Itz K a b).yld i H x H' → g x (wipe σ vs) H' fun σ2 H2 => wipe σ2 vs = wipe σ vs ∧ tt σ2 H2 fun b H3 =>
        if b = true then te σ2 H3 fun y H4 => ∃ acc, H4 D = some (.lst acc) ∧ acc.length < sizeLine ∧ Nx (L2.upd H4 D (.lst (acc ++ [y]))) else Nx H3) := by
  subst hb
  let P : Nat → Hp → Prop := fun i H => Same H1 H ∧ H D = some (.lst (pickB (xs.take i) (bs.take i)))
  refine ⟨fun i m H => m = xs.length - i ∧ i ≤ xs.length ∧ P i H, ⟨xs.length, by simp, Nat.zero_le _, Same.new nD, by rw [List.take_zero, List.take_zero]; exact L2.upd_same⟩, ?_⟩
  rintro i m H ⟨rfl, hi, hsame, hD⟩
  by_cases hlt : i < xs.length
  · have hx' : xs[i]? = some xs[i] := List.getElem?_eq_getElem hlt
    have hlt2 : i < bs.length := by omega
    have hy' : bs[i]? = some bs[i] := List.getElem?_eq_getElem hlt2
    have qx : SqL K H a xs := hsame.seq hx
    have qy : SqL K H b (bs.map V.bl) := hsame.seq hy
    have hy'' : (bs.map V.bl)[i]? = some (V.bl bs[i]) := by rw [List.getElem?_map, hy']; rfl
    have hz : (pickB (xs.take i) (bs.take i)).length < sizeLine := sz4' (by
      have := pickB_len (xs.take i) (bs.take i)
      rw [List.length_take] at this
      omega)
    refine .inr ⟨⟨xs, _, _, _, qx, qy, hx', hy''⟩, P (i + 1), fun H' p' => ⟨xs.length - (i + 1), by omega, rfl, hlt, p'⟩, fun v H' y => ?_⟩
    obtain ⟨T, x', y', rfl, hT, rfl, f1, f2⟩ := y
    have e1 := (f1 xs qx).symm.trans hx'
    have e2 := (f2 _ qy).symm.trans hy''
    cases e1
    cases e2
    refine hs i xs[i] bs[i] T H _ _ hx' hy' hsame hT (fun hc H4 h4 => ⟨_, h4 _ _ hD, hz, Same.mut (hsame.trans h4) nD, ?_⟩) (fun hc H4 h4 => ⟨hsame.trans h4, ?_⟩)
    · rw [L2.upd_same, pickB_more hx' hy', if_pos hc]
    · rw [h4 _ _ hD, pickB_more hx' hy', if_neg (by rw [hc]; exact Bool.false_ne_true), List.append_nil]
  · have e : i = xs.length := by omega
    subst e
    refine .inl ⟨⟨xs, _, hsame.seq hx, hsame.seq hy, Or.inl (Nat.le_refl _)⟩, hd H hsame ?_⟩
    rw [hD, List.take_length, hl, List.take_length]
theorem i_izip {ta : TA} {R : It → Hp → Prop} (h : ta σ H fun vs H1 => ∃ a b xs ys, vs = [.ref a, .ref b] ∧ SqL K H1 a xs ∧ SqL K H1 b ys ∧ R (Itz K a b) H1) : iZip K ta σ H R := h
theorem i_izip' {R : Addr → Addr → Prop} (h1 : SqL K H a xs) (h2 : SqL K H b ys) (q : R a b) : ∃ a' b' xs ys, [V.ref a, V.ref b] = [.ref a', .ref b'] ∧ SqL K H a' xs ∧ SqL K H b' ys ∧ R a' b' := ⟨a, b, xs, ys, rfl, h1, h2, q⟩
end
theorem pi_zipK {X : Cx} (K : PySem.W.Frag) (eK : X.K = K) {e e2 : Expr} {ta : TA} {p pos tpos : Pos} {elts : List Expr} {kk : Nat} (hg : Gl X "zip") (hm : X.mg "zip" = none) (ha : PA X [e, e2] ta)
    (hs : starEach [e, e2] X.env = (false, eval e X.env) :: starEach [e2] X.env := by rfl) (hpl : (backTo pos (starEach [e2] X.env)).any (·.1) = false := by rfl) :
    PI X (.Tuple elts kk tpos) (.Call (.Name "zip" p) [e, e2] [] pos) (iZip K ta) := by subst eK; exact pi_zip hg hm ha hs hpl
/-! ### lists of one text -/
theorem shaped_str1 {x : Str} (hx : PyData.strOk x = true) : SeqAt.shaped (.list [PyData.str x]) = true := by
  unfold SeqAt.shaped
  simp [PyData.canLay0, PyData.canLayAll0, PyData.depth, PyData.depthAll, hx]
theorem eqv_str1 (x : Str) : PyData.eqv (.list [PyData.str x]) (.list [PyData.str x]) = true := by simp [PyData.eqv, PyData.eqvAll]
theorem i_neS1 {K : PySem.W.Frag} {H : Hp} {Q : VK} {p r : Addr} {x : Str} (h1 : SqL K H p [.str x]) (h2 : SqL K H r [.str x]) (hx : PyData.strOk x = true) (q : Q (.bl false) H) : rNeD K (.ref p) (.ref r) H Q :=
  ⟨_, _, .lst h1 (.cons (.str x) .nil), .lst h2 (.cons (.str x) .nil), shaped_str1 hx, shaped_str1 hx, by rw [eqv_str1]; exact q⟩
theorem i_neT2 {K : PySem.W.Frag} {H : Hp} {Q : VK} {p r : Addr} {a b c d : Int} (h1 : SqT K H p [.int a, .int b]) (h2 : SqT K H r [.int c, .int d]) (q : Q (.bl (!(a == c && (b == d && true)))) H) : rNeD K (.ref p) (.ref r) H Q :=
  ⟨.tuple [.int a, .int b], .tuple [.int c, .int d], .tup h1 (.cons (.int a) (.cons (.int b) .nil)), .tup h2 (.cons (.int c) (.cons (.int d) .nil)), rfl, rfl, by
    have e : PyData.eqv (.tuple [.int a, .int b]) (.tuple [.int c, .int d]) = (a == c && (b == d && true)) := by simp [PyData.eqv, PyData.eqvAll]
    rw [e]
    exact q⟩
end Hf
/-! ## instances, their fields; dicts whose keys are tuples of ints -/
namespace Hf
open PySem PySem.Spec PyProof.Rows L2
section
variable {σ σ' : L2.St} {H : Hp} {Q : VK} {x y v : V} {i j k : Int} {nx bk ct : L2.St → Hp → Prop} {rt : VK} {K : PySem.W.Frag} {a C dx p d : Addr} {fs : List (Str × V)} {f m : Str} {sp : Sp} {E : XK} {kvs : List (List Key × V)} {r : Option V}
def FldR (K : PySem.W.Frag) (f : Str) (x : V) (H : Hp) (Q : VK) : Prop := ∃ a C dx fs v, x = V.ref a ∧ H a = some (.ins C dx fs) ∧ Cls K C ∧ NoAttr K C f ∧ fs.lookup f = some v ∧ Q v H
theorem i_fld {ta : TE} (h : ta σ H fun x H1 => FldR K f x H1 Q) : tFld K ta f σ H Q := h
theorem i_fldR (h : H a = some (.ins C dx fs)) (c : Cls K C) (n : NoAttr K C f) (l : fs.lookup f = some v) (q : Q v H) : FldR K f (.ref a) H Q := ⟨a, C, dx, fs, v, rfl, h, c, n, l, q⟩
def SetR (K : PySem.W.Frag) (f : Str) (y x : V) (H : Hp) (Z : Hp → Prop) : Prop := ∃ a C dx fs, x = V.ref a ∧ H a = some (.ins C dx fs) ∧ Cls K C ∧ NoAttr K C f ∧ fs.length < 1000 ∧ Z (upd H a (.ins C dx (putF f y fs)))
theorem i_sfld {ta tv : TE} (h : tv σ H fun y H1 => ta σ H1 fun x H2 => SetR K f y x H2 (nx σ)) : sFld K ta tv f ⟨nx, rt, bk, ct⟩ σ H := h
theorem i_setR {Z : Hp → Prop} (h : H a = some (.ins C dx fs)) (c : Cls K C) (n : NoAttr K C f) (l : fs.length < 1000) (q : Z (upd H a (.ins C dx (putF f y fs)))) : SetR K f y (.ref a) H Z := ⟨a, C, dx, fs, rfl, h, c, n, l, q⟩
def MethR (C : Addr) (m : Str) (x : V) (H : Hp) (R : Prop) : Prop := ∃ a dx fs, x = V.ref a ∧ H a = some (.ins C dx fs) ∧ fs.lookup m = none ∧ R
theorem i_meth {ta : TE} {t : TA} (h : ta σ H fun x H1 => MethR C m x H1 (t σ H1 fun vs H2 => sp (x :: vs) H2 Q E)) : tMeth C m sp [] E ta t σ H Q := by
  have e : ∀ x : V, (fun vs H2 => sp (x :: (vs ++ [])) H2 Q E) = fun vs H2 => sp (x :: vs) H2 Q E := fun x => by
    funext vs H2
    rw [List.append_nil]
  show ta σ H (fun x H1 => ∃ a dx fs, x = .ref a ∧ H1 a = some (.ins C dx fs) ∧ fs.lookup m = none ∧ t σ H1 fun vs H2 => sp (x :: (vs ++ [])) H2 Q E)
  simp only [e]
  exact h
theorem i_methR {R : Prop} (h : H a = some (.ins C dx fs)) (l : fs.lookup m = none) (q : R) : MethR C m (.ref a) H R := ⟨a, dx, fs, rfl, h, l, q⟩
theorem i_make0 (h : ∀ x dx, H x = none → H dx = none → dx ≠ x → sp [.ref x] (upd (upd H dx (.own x)) x (.ins C dx [])) (fun v H2 => v = .non ∧ Q (.ref x) H2) E) : tMake C sp [] E tNil σ H Q := h
/-! ### dicts by tuples -/
def DgR (y x : V) (H : Hp) (R : Option V → Prop) : Prop := ∃ a o, x = V.ref a ∧ DGet H a y o ∧ R o
theorem i_dnotin {td ty : TE} (h : ty σ H fun y H1 => td σ H1 fun x H2 => DgR y x H2 fun o => Q (.bl (!o.isSome)) H2) : tDNotIn ty td σ H Q := h
theorem i_din {td ty : TE} (h : ty σ H fun y H1 => td σ H1 fun x H2 => DgR y x H2 fun o => Q (.bl o.isSome) H2) : tDIn ty td σ H Q := h
theorem i_dg3 {R : Option V → Prop} (h : H a = some (.dT kvs)) (e : H p = some (.tup [.int i, .int j, .int k])) (q : R (valV kvs [.inl i, .inl j, .inl k])) : DgR (.ref p) (.ref a) H R := ⟨a, _, rfl, DGet.t (k := [.inl i, .inl j, .inl k]) h e, q⟩
theorem i_dg2 {R : Option V → Prop} (h : H a = some (.dT kvs)) (e : H p = some (.tup [.int i, .int j])) (q : R (valV kvs [.inl i, .inl j])) : DgR (.ref p) (.ref a) H R := ⟨a, _, rfl, DGet.t (k := [.inl i, .inl j]) h e, q⟩
def DvR (x y : V) (H : Hp) (Q : VK) : Prop := ∃ a v, x = V.ref a ∧ DGet H a y (some v) ∧ Q v H
theorem i_dget {td ty : TE} (h : td σ H fun x H1 => ty σ H1 fun y H2 => DvR x y H2 Q) : tDGet td ty σ H Q := h
theorem i_dv3 (h : H a = some (.dT kvs)) (e : H p = some (.tup [.int i, .int j, .int k])) (l : valV kvs [.inl i, .inl j, .inl k] = some v) (q : Q v H) : DvR (.ref a) (.ref p) H Q := ⟨a, v, rfl, l ▸ DGet.t (k := [.inl i, .inl j, .inl k]) h e, q⟩
theorem i_dv2 (h : H a = some (.dT kvs)) (e : H p = some (.tup [.int i, .int j])) (l : valV kvs [.inl i, .inl j] = some v) (q : Q v H) : DvR (.ref a) (.ref p) H Q := ⟨a, v, rfl, l ▸ DGet.t (k := [.inl i, .inl j]) h e, q⟩
def DpR (v x y : V) (H : Hp) (Z : Hp → Prop) : Prop := ∃ a H4, x = V.ref a ∧ DPut H a y v H4 ∧ Z H4
theorem i_dput {td ty tv : TE} (h : tv σ H fun v H1 => td σ H1 fun x H2 => ty σ H2 fun y H3 => DpR v x y H3 (nx σ)) : sDPut td ty tv ⟨nx, rt, bk, ct⟩ σ H := h
theorem i_dp3 {Z : Hp → Prop} (h : H a = some (.dT kvs)) (e : H p = some (.tup [.int i, .int j, .int k])) (hz : kvs.length ≤ 1000000) (q : Z (upd H a (.dT (putK kvs [.inl i, .inl j, .inl k] v)))) : DpR v (.ref a) (.ref p) H Z := ⟨a, _, rfl, DPut.t (k := [.inl i, .inl j, .inl k]) h e (sz4' hz), q⟩
theorem i_dp2 {Z : Hp → Prop} (h : H a = some (.dT kvs)) (e : H p = some (.tup [.int i, .int j])) (hz : kvs.length ≤ 1000000) (q : Z (upd H a (.dT (putK kvs [.inl i, .inl j] v)))) : DpR v (.ref a) (.ref p) H Z := ⟨a, _, rfl, DPut.t (k := [.inl i, .inl j]) h e (sz4' hz), q⟩
theorem i_dnewT (h : ∀ p, H p = none → Q (.ref p) (upd H p (.dT []))) : tDNewT σ H Q := h
/-! ### list(range(..)) -/
theorem i_lstRg {te : L2.St → Hp → (Int → Int → Hp → Prop) → Prop} (h : te σ H fun a b H1 => RgOk a b ∧ ∀ q, H1 q = none → Q (.ref q) (upd H1 q (.lst (rgV a b)))) : tLstRg te σ H Q := h
theorem i_rg1 {ta : TE} {R : Int → Int → Hp → Prop} (h : ta σ H fun x H1 => ∃ n, x = .int n ∧ R 0 n H1) : tRg1 ta σ H R := h
theorem i_rg2 {ta tb : TE} {R : Int → Int → Hp → Prop} (h : ta σ H fun x H1 => tb σ H1 fun y H2 => ∃ i j, x = .int i ∧ y = .int j ∧ R i j H2) : tRg2 ta tb σ H R := h
theorem i_rg2' {R : Int → Int → Prop} (q : R i j) : ∃ i' j', V.int i = .int i' ∧ V.int j = .int j' ∧ R i' j' := ⟨i, j, rfl, rfl, q⟩
theorem i_rg1' {R : Int → Prop} (q : R i) : ∃ i', V.int i = .int i' ∧ R i' := ⟨i, rfl, q⟩
theorem i_rgok {R : Addr → Prop} (h0 : 0 ≤ i) (h1 : j ≤ 16777216) (h2 : i ≤ 16777216) (h3 : 0 ≤ j) (q : ∀ q, H q = none → R q) : RgOk i j ∧ ∀ q, H q = none → R q := ⟨.of_le h0 h1 h2 h3, q⟩
end
theorem rg_ints (a b : Int) : rgV a b = ((List.range (b - a).toNat).map fun i : Nat => a + (i : Int)).map V.int := by
  unfold rgV
  rw [List.map_map]
  rfl
theorem But.mut {a : Addr} {H H1 : Hp} {D : Addr} {o : HO} (hp : H D = none) (x : But a H H1) : But a H (L2.upd H1 D o) := fun b u n h => by
  rw [upd_ne (ne_of_none h hp)]
  exact x b u n h
theorem But.mutS {a : Addr} {H H1 H2 : Hp} {D : Addr} (y : But D H1 H2) (hp : H D = none) (x : But a H H1) : But a H H2 := fun b u n h => y b u (ne_of_none h hp) (x b u n h)
end Hf
/-! ## Dat -/
namespace Hf
open PySem PySem.Spec PyProof.Rows L2
/-! ### nested data, each list and tuple tracked -/
mutual
inductive Dq (H : Hp) : V → PyData → Prop
  | non : Dq H .non .none
  | bl (b : Bool) : Dq H (.bl b) (.bool b)
  | int (i : Int) : Dq H (.int i) (.int i)
  | str (x : Str) : Dq H (.str x) (.str x)
  | lst {a : Addr} {xs : List V} {ds : List PyData} : H a = some (.lst xs) → DqAll H xs ds → Dq H (.ref a) (.list ds)
  | tup {a : Addr} {xs : List V} {ds : List PyData} : H a = some (.tup xs) → DqAll H xs ds → Dq H (.ref a) (.tuple ds)
inductive DqAll (H : Hp) : List V → List PyData → Prop
  | nil : DqAll H [] []
  | cons {v : V} {vs : List V} {d : PyData} {ds : List PyData} : Dq H v d → DqAll H vs ds → DqAll H (v :: vs) (d :: ds)
end
mutual
theorem Dq.same {H H' : Hp} (s : Same H H') : ∀ {v : V} {d : PyData}, Dq H v d → Dq H' v d
  | _, _, .non => .non
  | _, _, .bl b => .bl b
  | _, _, .int i => .int i
  | _, _, .str x => .str x
  | _, _, .lst h q => .lst (s _ _ h) (DqAll.same s q)
  | _, _, .tup h q => .tup (s _ _ h) (DqAll.same s q)
theorem DqAll.same {H H' : Hp} (s : Same H H') : ∀ {vs : List V} {ds : List PyData}, DqAll H vs ds → DqAll H' vs ds
  | _, _, .nil => .nil
  | _, _, .cons h q => .cons (Dq.same s h) (DqAll.same s q)
end
mutual
theorem Dq.dp {K : PySem.W.Frag} {H : Hp} : ∀ {v : V} {d : PyData}, Dq H v d → Dp K H v d
  | _, _, .non => .non
  | _, _, .bl b => .bl b
  | _, _, .int i => .int i
  | _, _, .str x => .str x
  | _, _, .lst h q => .lst (SqL.of h) (DqAll.dp q)
  | _, _, .tup h q => .tup (SqT.of h) (DqAll.dp q)
theorem DqAll.dp {K : PySem.W.Frag} {H : Hp} : ∀ {vs : List V} {ds : List PyData}, DqAll H vs ds → DpAll K H vs ds
  | _, _, .nil => .nil
  | _, _, .cons h q => .cons (Dq.dp h) (DqAll.dp q)
end
mutual
theorem Dq.eqv {H : Hp} : ∀ {v : V} {d : PyData}, Dq H v d → PyData.eqv d d = true
  | _, _, .non => by simp [PyData.eqv]
  | _, _, .bl b => by simp [PyData.eqv]
  | _, _, .int i => by simp [PyData.eqv]
  | _, _, .str x => by simp [PyData.eqv]
  | _, _, .lst _ q => by rw [PyData.eqv]; exact DqAll.eqv q
  | _, _, .tup _ q => by rw [PyData.eqv]; exact DqAll.eqv q
theorem DqAll.eqv {H : Hp} : ∀ {vs : List V} {ds : List PyData}, DqAll H vs ds → PyData.eqvAll ds ds = true
  | _, _, .nil => by simp [PyData.eqvAll]
  | _, _, .cons h q => by rw [PyData.eqvAll, Dq.eqv h, DqAll.eqv q]; rfl
end
section
variable {H : Hp} {v : V} {vs : List V} {ds : List PyData} {i : Int} {x : Str}
theorem Dq.list_inv (h : Dq H v (.list ds)) : ∃ a xs, v = .ref a ∧ H a = some (.lst xs) ∧ DqAll H xs ds := by
  cases h with
  | lst h q => exact ⟨_, _, rfl, h, q⟩
theorem Dq.tuple_inv (h : Dq H v (.tuple ds)) : ∃ a xs, v = .ref a ∧ H a = some (.tup xs) ∧ DqAll H xs ds := by
  cases h with
  | tup h q => exact ⟨_, _, rfl, h, q⟩
theorem Dq.int_inv (h : Dq H v (.int i)) : v = .int i := by
  cases h
  rfl
theorem Dq.str_inv (h : Dq H v (.str x)) : v = .str x := by
  cases h
  rfl
theorem DqAll.len : ∀ {vs : List V} {ds : List PyData}, DqAll H vs ds → vs.length = ds.length
  | _, _, .nil => rfl
  | _, _, .cons _ q => by rw [List.length_cons, List.length_cons, DqAll.len q]
theorem DqAll.get : ∀ {vs : List V} {ds : List PyData}, DqAll H vs ds → ∀ {k : Nat} {d : PyData}, ds[k]? = some d → ∃ w, vs[k]? = some w ∧ Dq H w d
  | _, _, .nil, k, d, h => by simp at h
  | _, _, .cons h _, 0, d, e => by
    rw [List.getElem?_cons_zero] at e
    cases e
    exact ⟨_, rfl, h⟩
  | _, _, .cons _ q, k + 1, d, e => by
    rw [List.getElem?_cons_succ] at e
    obtain ⟨w, h1, h2⟩ := DqAll.get q e
    exact ⟨w, by rw [List.getElem?_cons_succ]; exact h1, h2⟩
theorem DqAll.get' : ∀ {vs : List V} {ds : List PyData}, DqAll H vs ds → ∀ {k : Nat} {w : V}, vs[k]? = some w → ∃ d, ds[k]? = some d ∧ Dq H w d
  | _, _, .nil, k, d, h => by simp at h
  | _, _, .cons h _, 0, d, e => by
    rw [List.getElem?_cons_zero] at e
    cases e
    exact ⟨_, rfl, h⟩
  | _, _, .cons _ q, k + 1, d, e => by
    rw [List.getElem?_cons_succ] at e
    obtain ⟨w, h1, h2⟩ := DqAll.get' q e
    exact ⟨w, by rw [List.getElem?_cons_succ]; exact h1, h2⟩
theorem dq_ints : ∀ ms : List Int, DqAll H (ms.map V.int) (ms.map PyData.int)
  | [] => .nil
  | m :: ms => .cons (.int m) (dq_ints ms)
theorem DqAll.ints : ∀ {vs : List V} {ms : List Int}, DqAll H vs (ms.map PyData.int) → vs = ms.map V.int
  | _, [], h => by cases h; rfl
  | _, m :: ms, h => by
    cases h with
    | cons h q =>
      rw [Dq.int_inv h, DqAll.ints q]
      rfl
theorem DqAll.snoc : ∀ {vs : List V} {ds : List PyData} {w : V} {d : PyData}, DqAll H vs ds → Dq H w d → DqAll H (vs ++ [w]) (ds ++ [d])
  | _, _, _, _, .nil, h => .cons h .nil
  | _, _, _, _, .cons h q, g => .cons h (DqAll.snoc q g)
end
/-- == of nested data -/
theorem i_eqDq {K : PySem.W.Frag} {H : Hp} {Q : VK} {v w : V} {d e : PyData} (h1 : Dq H v d) (h2 : Dq H w e) (s1 : SeqAt.shaped d = true) (s2 : SeqAt.shaped e = true) (q : Q (.bl (PyData.eqv d e)) H) : rEqD K v w H Q := ⟨d, e, h1.dp, h2.dp, s1, s2, q⟩
theorem i_neDq {K : PySem.W.Frag} {H : Hp} {Q : VK} {v w : V} {d : PyData} (h1 : Dq H v d) (h2 : Dq H w d) (s1 : SeqAt.shaped d = true) (q : Q (.bl false) H) : rNeD K v w H Q := ⟨d, d, h1.dp, h2.dp, s1, s1, by
  rw [h1.eqv]
  exact q⟩

/-! ### a heap without some of its objects -/
def hid (S : List Addr) (H : Hp) : Hp := fun b => if b ∈ S then none else H b
section
variable {S : List Addr} {H H' : Hp} {a b : Addr} {o : HO}
theorem hid_in (h : a ∈ S) : hid S H a = none := if_pos h
theorem hid_out (h : a ∉ S) : hid S H a = H a := if_neg h
theorem hid_same : Same (hid S H) H := fun b o h => by
  by_cases c : b ∈ S
  · rw [hid_in c] at h
    cases h
  · rw [hid_out c] at h
    exact h
theorem hid_mono (s : Same H H') : Same (hid S H) (hid S H') := fun b o h => by
  by_cases c : b ∈ S
  · rw [hid_in c] at h
    cases h
  · rw [hid_out c] at h ⊢
    exact s b o h
theorem hid_but (ha : a ∈ S) (s : But a H H') : Same (hid S H) (hid S H') := fun b o h => by
  by_cases c : b ∈ S
  · rw [hid_in c] at h
    cases h
  · rw [hid_out c] at h ⊢
    exact s b o (fun e => c (e ▸ ha)) h
theorem hid_upd (ha : a ∈ S) : Same (hid S H) (hid S (upd H a o)) := hid_but ha (But.upd (But.refl _ _))
theorem hid_lk (h : a ∉ S) (e : H a = some o) : hid S H a = some o := by
  rw [hid_out h]
  exact e
theorem not_in2 {a b c : Addr} (h1 : a ≠ b) (h2 : a ≠ c) : a ∉ [b, c] := by
  intro h
  rcases List.mem_cons.mp h with g | g
  · exact h1 g
  · exact h2 (List.mem_singleton.mp g)
theorem not_in1 {a b : Addr} (h1 : a ≠ b) : a ∉ [b] := fun h => h1 (List.mem_singleton.mp h)
end
theorem rng_map {α β : Type} (f : Nat → β) (g : α → β) (m : List α) (h : ∀ (i : Nat) (x : α), m[i]? = some x → f i = g x) : (List.range m.length).map f = m.map g := by
  apply List.ext_getElem?
  intro i
  rw [List.getElem?_map, List.getElem?_map]
  by_cases c : i < m.length
  · rw [List.getElem?_range c, List.getElem?_eq_getElem c]
    show some (f i) = some (g m[i])
    rw [h i _ (List.getElem?_eq_getElem c)]
  · rw [List.getElem?_eq_none (by rw [List.length_range]; omega), List.getElem?_eq_none (by omega)]
    rfl
theorem take_snoc {α : Type} {m : List α} {i : Nat} {x : α} (h : m[i]? = some x) : m.take (i + 1) = m.take i ++ [x] := by
  rw [List.take_add_one, h]
  rfl
theorem same_hid1 {G H : Hp} {a : Addr} (s : Same G H) (h1 : G a = none) : Same G (hid [a] H) := fun b o e => by
  rw [hid_out (not_in1 (ne_of_none e h1))]
  exact s b o e
theorem same_hid2 {G H : Hp} {a c : Addr} (s : Same G H) (h1 : G a = none) (h2 : G c = none) : Same G (hid [a, c] H) := fun b o e => by
  rw [hid_out (not_in2 (ne_of_none e h1) (ne_of_none e h2))]
  exact s b o e
theorem But.mutD {a : Addr} {H H1 : Hp} {D : Addr} {o : HO} (hp : H D = none) (x : But a H H1) : But a H (L2.upd H1 D o) := fun b u n h => by
  rw [upd_ne (ne_of_none h hp)]
  exact x b u n h
theorem But.mutSD {a : Addr} {H H1 H2 : Hp} {D : Addr} (y : But D H1 H2) (hp : H D = none) (x : But a H H1) : But a H H2 := fun b u n h => y b u (ne_of_none h hp) (x b u n h)
theorem DqAll.reverse {H : Hp} : ∀ {vs : List V} {ds : List PyData}, DqAll H vs ds → DqAll H vs.reverse ds.reverse
  | _, _, .nil => .nil
  | _, _, .cons h q => by
    rw [List.reverse_cons, List.reverse_cons]
    exact DqAll.snoc (DqAll.reverse q) h
theorem i_reverseV {H : Hp} {p : Addr} {xs : List V} {Q : VK} (h : H p = some (.lst xs)) (q : Q .non (upd H p (.lst xs.reverse))) : rReverse (.ref p) [] H Q := ⟨p, _, rfl, rfl, h, q⟩
theorem i_revV {K : PySem.W.Frag} {xs : List V} {p : Addr} {H : Hp} {R : Addr → List V → Prop} (h : SqL K H p xs) (q : R p xs) : ∃ a xs, V.ref p = .ref a ∧ SqL K H a xs ∧ R a xs := ⟨p, _, rfl, h, q⟩
theorem i_neL2 {K : PySem.W.Frag} {H : Hp} {Q : VK} {p r : Addr} {ms : List Int} {x y : Int} (h1 : SqL K H p (ms.map V.int)) (h2 : SqL K H r [.int x, .int y]) (q : Q (.bl (!decide (ms = [x, y]))) H) : rNeD K (.ref p) (.ref r) H Q := i_neLI (ns := [x, y]) h1 h2 q
theorem pe_revLK {X : L2.Cx} (K : PySem.W.Frag) (eK : X.K = K) {e : Expr} {te : TE} {k : Nat} {p1 p2 p3 pos : Pos} (he : PE X e te) : PE X (.Subscript e (.Slice none none (some (.UnaryOp .USub (.Constant (.int 1) k p1) p2)) p3) pos) (tRevL K te) := by
  subst eK
  exact pe_revL he
theorem i_rev {K : PySem.W.Frag} {te : TE} {σ : L2.St} {H : Hp} {Q : VK} (h : te σ H fun x H1 => ∃ a xs, x = .ref a ∧ SqL K H1 a xs ∧ ∀ p, H1 p = none → Q (.ref p) (upd H1 p (.lst xs.reverse))) : tRevL K te σ H Q := h
theorem i_rev' {K : PySem.W.Frag} {ms : List Int} {p : Addr} {H : Hp} {R : Addr → List V → Prop} (h : SqL K H p (ms.map V.int)) (q : R p (ms.map V.int)) : ∃ a xs, V.ref p = .ref a ∧ SqL K H a xs ∧ R a xs := ⟨p, _, rfl, h, q⟩
theorem DqAll.take {H : Hp} : ∀ (n : Nat) {vs : List V} {ds : List PyData}, DqAll H vs ds → DqAll H (vs.take n) (ds.take n)
  | 0, _, _, _ => .nil
  | _ + 1, _, _, .nil => .nil
  | n + 1, _, _, .cons h q => .cons h (DqAll.take n q)
theorem DqAll.drop {H : Hp} : ∀ (n : Nat) {vs : List V} {ds : List PyData}, DqAll H vs ds → DqAll H (vs.drop n) (ds.drop n)
  | 0, _, _, q => q
  | _ + 1, _, _, .nil => .nil
  | n + 1, _, _, .cons _ q => DqAll.drop n q
end Hf
/-! ## Mixes -/
namespace Hf
open PySem PySem.Spec PyProof.Rows L2
/-! ### mixes -/
def planD (p : List Int) : PyData := .list (p.map PyData.int)
def partD (pw : List Int × Int) : PyData := .tuple [planD pw.1, .int pw.2]
def mixD (m : List (List Int × Int)) : PyData := .list (m.map partD)
/-- a plan of so many hosts and fields -/
def PlanC (h : Int) (n : Nat) (p : List Int) : Prop := p.length = n ∧ p.sum = h ∧ ∀ x ∈ p, 0 ≤ x
structure MixOk (h : Int) (n : Nat) (m : List (List Int × Int)) : Prop where
  ne : 1 ≤ m.length ∧ m.length ≤ 100
  fl : 1 ≤ n ∧ n ≤ 8
  ho : 0 ≤ h ∧ h ≤ 40
  pl : ∀ pw ∈ m, PlanC h n pw.1 ∧ 1 ≤ pw.2
section
variable {H : Hp} {v : V} {m : List (List Int × Int)} {xs : List V}
/-- a part: its tuple, its plan's list -/
theorem part_inv {pw : List Int × Int} (h : Dq H v (partD pw)) : ∃ t p, v = .ref t ∧ H t = some (.tup [.ref p, .int pw.2]) ∧ H p = some (.lst (pw.1.map V.int)) := by
  obtain ⟨t, xs, rfl, h1, h2⟩ := h.tuple_inv
  cases h2 with
  | cons a b =>
    cases b with
    | cons c d =>
      cases d
      obtain ⟨p, ys, rfl, h3, h4⟩ := Dq.list_inv a
      obtain rfl := Dq.int_inv c
      obtain rfl := DqAll.ints h4
      exact ⟨t, p, rfl, h1, h3⟩
theorem mix_inv (h : Dq H v (mixD m)) : ∃ a xs, v = .ref a ∧ H a = some (.lst xs) ∧ xs.length = m.length ∧ ∀ (k : Nat) (w : V), xs[k]? = some w → ∃ pw t p, m[k]? = some pw ∧ w = .ref t ∧ H t = some (.tup [.ref p, .int pw.2]) ∧ H p = some (.lst (pw.1.map V.int)) := by
  obtain ⟨a, xs, rfl, h1, h2⟩ := h.list_inv
  refine ⟨a, xs, rfl, h1, by rw [h2.len, List.length_map], fun k w hw => ?_⟩
  obtain ⟨d, e, q⟩ := h2.get' hw
  rw [List.getElem?_map] at e
  cases g : m[k]? with
  | none => rw [g] at e; cases e
  | some pw =>
    rw [g] at e
    cases e
    obtain ⟨t, p, e1, e2, e3⟩ := part_inv q
    exact ⟨pw, t, p, rfl, e1, e2, e3⟩
end
theorem shaped_mix (m : List (List Int × Int)) : SeqAt.shaped (mixD m) = true := by
  have h1 : ∀ m : List (List Int × Int), PyData.canLayAll0 (m.map partD) = true := by
    intro m
    induction m with
    | nil => simp [PyData.canLayAll0]
    | cons pw m ih =>
      rw [List.map_cons, PyData.canLayAll0, ih]
      simp [partD, planD, PyData.canLay0, PyData.canLayAll0, canLay_ints]
  have h2 : ∀ m : List (List Int × Int), PyData.depthAll (m.map partD) ≤ 3 := by
    intro m
    induction m with
    | nil => simp [PyData.depthAll]
    | cons pw m ih =>
      have := depth_ints pw.1
      rw [List.map_cons, PyData.depthAll]
      simp [partD, planD, PyData.depth, PyData.depthAll]
      omega
  unfold SeqAt.shaped
  have a := h1 m
  have b := h2 m
  simp [mixD, PyData.canLay0, PyData.depth, a]
  omega

theorem dq_mix {G H : Hp} {a : Addr} {xs : List V} {m : List (List Int × Int)} (q : DqAll G xs (m.map partD)) (h : H a = some (.lst xs)) (s : Same G H) : Dq H (.ref a) (mixD m) := .lst h (DqAll.same s q)
theorem part_mk {H : Hp} {t p : Addr} {ms : List Int} {w : Int} (h1 : H t = some (.tup [.ref p, .int w])) (h2 : H p = some (.lst (ms.map V.int))) : Dq H (.ref t) (partD (ms, w)) := .tup h1 (.cons (.lst h2 (dq_ints ms)) (.cons (.int w) .nil))
/-- a part of a mix, by its place -/
theorem part_at {G : Hp} {xs : List V} {m : List (List Int × Int)} (q : DqAll G xs (m.map partD)) {k : Nat} {w : V} (hw : xs[k]? = some w) : ∃ pw t p, m[k]? = some pw ∧ w = .ref t ∧ G t = some (.tup [.ref p, .int pw.2]) ∧ G p = some (.lst (pw.1.map V.int)) := by
  obtain ⟨d, e, q⟩ := q.get' hw
  rw [List.getElem?_map] at e
  cases g : m[k]? with
  | none => rw [g] at e; cases e
  | some pw =>
    rw [g] at e
    cases e
    obtain ⟨t, p, e1, e2, e3⟩ := part_inv q
    exact ⟨pw, t, p, rfl, e1, e2, e3⟩
def whole (m : List (List Int × Int)) : Int := (m.map Prod.snd).sum
def due : List (List Int × Int) → Int → List Int
  | [], _ => []
  | pw :: r, k => if k < pw.2 then pw.1 else due r (k - pw.2)
theorem whole_cons {pw : List Int × Int} {r : List (List Int × Int)} : whole (pw :: r) = pw.2 + whole r := by
  unfold whole
  rw [List.map_cons, List.sum_cons]
theorem whole_app {m r : List (List Int × Int)} : whole (m ++ r) = whole m + whole r := by
  unfold whole
  rw [List.map_append, List.sum_append]
theorem drop_get {α : Type} {m : List α} {i : Nat} {x : α} (h : m[i]? = some x) : m.drop i = x :: m.drop (i + 1) := by
  obtain ⟨hi, rfl⟩ := List.getElem?_eq_some_iff.mp h
  exact List.drop_eq_getElem_cons hi
theorem MixOk.len (h n) {m} (k : MixOk h n m) : 1 ≤ m.length := k.ne.1
theorem MixOk.whole_pos {h n m} (k : MixOk h n m) : (m.length : Int) ≤ whole m := by
  have : ∀ r : List (List Int × Int), (∀ pw ∈ r, 1 ≤ pw.2) → (r.length : Int) ≤ whole r := by
    intro r
    induction r with
    | nil => intro _; exact Int.le_refl _
    | cons pw r ih =>
      intro g
      have := ih fun x hx => g x (List.mem_cons_of_mem _ hx)
      have := g pw (List.mem_cons_self)
      rw [whole_cons, List.length_cons]
      omega
  exact this m fun pw hp => (k.pl pw hp).2
/-- weights of a drawn mix -/
def WtOk (m : List (List Int × Int)) : Prop := m.length ≤ 20 ∧ ∀ pw ∈ m, pw.2 ≤ 10000000000000000000000000000
theorem WtOk.le {m} (k : WtOk m) : whole m ≤ 200000000000000000000000000000 := by
  have : ∀ r : List (List Int × Int), (∀ pw ∈ r, pw.2 ≤ 10000000000000000000000000000) → whole r ≤ 10000000000000000000000000000 * (r.length : Int) := by
    intro r
    induction r with
    | nil => intro _; exact Int.le_refl _
    | cons pw r ih =>
      intro g
      have := ih fun x hx => g x (List.mem_cons_of_mem _ hx)
      have := g pw (List.mem_cons_self)
      rw [whole_cons, List.length_cons]
      omega
  have h1 := this m k.2
  have h2 := k.1
  omega
theorem whole_nn : ∀ r : List (List Int × Int), (∀ pw ∈ r, 1 ≤ pw.2) → 0 ≤ whole r := by
  intro r
  induction r with
  | nil => intro _; exact Int.le_refl _
  | cons pw r ih =>
    intro g
    have := ih fun x hx => g x (List.mem_cons_of_mem _ hx)
    have := g pw (List.mem_cons_self)
    rw [whole_cons]
    omega
theorem MixOk.at {h : Int} {n : Nat} {m : List (List Int × Int)} {i : Nat} {pw : List Int × Int} (k : MixOk h n m) (e : m[i]? = some pw) : 0 ≤ whole (m.take i) ∧ 1 ≤ pw.2 ∧ whole (m.take (i + 1)) = whole (m.take i) + pw.2 ∧ whole (m.take i) + pw.2 ≤ whole m := by
  have h1 := whole_nn (m.take i) fun x hx => (k.pl x (List.mem_of_mem_take hx)).2
  have h2 := whole_nn (m.drop (i + 1)) fun x hx => (k.pl x (List.mem_of_mem_drop hx)).2
  have h3 : whole m = whole (m.take i) + whole (m.drop i) := by rw [← whole_app, List.take_append_drop]
  rw [drop_get e, whole_cons] at h3
  have h4 := (k.pl pw (List.mem_of_getElem? e)).2
  refine ⟨h1, h4, ?_, by omega⟩
  rw [take_snoc e, whole_app]
  simp [whole]
theorem MixOk.reverse {h : Int} {n : Nat} {m : List (List Int × Int)} (k : MixOk h n m) : MixOk h n m.reverse := ⟨by rw [List.length_reverse]; exact k.ne, k.fl, k.ho, fun pw hp => k.pl pw (List.mem_reverse.mp hp)⟩
theorem whole_reverse (m : List (List Int × Int)) : whole m.reverse = whole m := by
  induction m with
  | nil => rfl
  | cons pw m ih =>
    rw [List.reverse_cons, whole_app, whole_cons, ih]
    simp [whole]
    omega
theorem due_last : ∀ (m : List (List Int × Int)) {p : List Int} {w z : Int}, (∀ pw ∈ m, 1 ≤ pw.2) → whole m ≤ z → z < whole m + w → due (m ++ [(p, w)]) z = p
  | [], p, w, z, _, h1, h2 => by
    simp [whole] at h1 h2
    show due [(p, w)] z = p
    rw [due, if_pos h2]
  | pw :: m, p, w, z, h0, h1, h2 => by
    rw [whole_cons] at h1 h2
    have := whole_nn m fun x hx => h0 x (List.mem_cons_of_mem _ hx)
    show due (pw :: (m ++ [(p, w)])) z = p
    rw [due, if_neg (by omega)]
    exact due_last m (fun x hx => h0 x (List.mem_cons_of_mem _ hx)) (by omega) (by omega)
theorem DqAll.revm {H : Hp} {vs : List V} {m : List (List Int × Int)} (q : DqAll H vs (m.map partD)) : DqAll H vs.reverse (m.reverse.map partD) := by
  rw [List.map_reverse]
  exact q.reverse
theorem dq_two {H : Hp} {a t1 t2 p1 p2 : Addr} {w1 w2 x1 y1 x2 y2 : Int} (h : H a = some (.lst [.ref t1, .ref t2])) (h1 : H t1 = some (.tup [.ref p1, .int w1])) (h2 : H t2 = some (.tup [.ref p2, .int w2])) (h3 : H p1 = some (.lst [.int x1, .int y1])) (h4 : H p2 = some (.lst [.int x2, .int y2])) : Dq H (.ref a) (mixD [([x1, y1], w1), ([x2, y2], w2)]) :=
  .lst h (.cons (part_mk h1 h3) (.cons (part_mk h2 h4) .nil))
theorem MixOk.snoc {h : Int} {n : Nat} {m : List (List Int × Int)} {p : List Int} {w : Int} (k : MixOk h n m) (hp : PlanC h n p) (hw : 1 ≤ w) (hl : m.length ≤ 50) : MixOk h n (m ++ [(p, w)]) := ⟨by simp; omega, k.fl, k.ho, fun pw hpw => by
  rcases List.mem_append.mp hpw with g | g
  · exact k.pl pw g
  · rw [List.mem_singleton.mp g]
    exact ⟨hp, hw⟩⟩
theorem due_len {k : Nat} : ∀ (m : List (List Int × Int)) (z : Int), (∀ pw ∈ m, pw.1.length ≤ k) → (due m z).length ≤ k
  | [], _, _ => Nat.zero_le _
  | pw :: m, z, h => by
    rw [due]
    split
    · exact h pw (List.mem_cons_self)
    · exact due_len m _ fun x hx => h x (List.mem_cons_of_mem _ hx)
theorem MixOk.due_len {h : Int} {n : Nat} {m : List (List Int × Int)} (k : MixOk h n m) (z : Int) : (due m z).length ≤ 8 := Hf.due_len m z fun pw hp => by
  have := (k.pl pw hp).1.1
  have := k.fl.2
  omega
end Hf
/-! ## what is new -/
namespace Hf
open PySem PySem.Spec PyProof.Rows L2
/-! ### what is new -/
/-- what stands in G does not stand in H -/
def Newly (H G : Hp) : Prop := ∀ b o, H b = some o → G b = none
/-- what stands in H' and not in H, but for S -/
def fr (S : List Addr) (H H' : Hp) : Hp := fun b => if b ∈ S then none else match H b with
  | none => H' b
  | some _ => none
section
variable {S : List Addr} {H H' H1 H2 G : Hp} {a p : Addr} {o u : HO}
theorem fr_same : Same (fr S H H') H' := fun b o h => by
  unfold fr at h
  split at h
  · cases h
  · split at h
    · exact h
    · cases h
theorem fr_newly : Newly H (fr S H H') := fun b o h => by
  unfold fr
  split
  · rfl
  · rw [h]
theorem fr_in (h : a ∈ S) : fr S H H' a = none := if_pos h
theorem fr_lk (n : a ∉ S) (h : H a = none) (e : H' a = some o) : fr S H H' a = some o := by
  unfold fr
  rw [if_neg n, h]
  exact e
theorem fr_lk0 (h : H a = none) (e : H' a = some o) : fr [] H H' a = some o := fr_lk (by simp) h e
theorem fr_lk1 (n : a ≠ p) (h : H a = none) (e : H' a = some o) : fr [p] H H' a = some o := fr_lk (not_in1 n) h e
theorem fr_lk2 {q : Addr} (n : a ≠ p) (m : a ≠ q) (h : H a = none) (e : H' a = some o) : fr [p, q] H H' a = some o := fr_lk (not_in2 n m) h e
theorem fr_mono (s : Same H1 H2) : Same (fr S H H1) (fr S H H2) := fun b o h => by
  unfold fr at h ⊢
  split
  · next c => rw [if_pos c] at h; cases h
  · next c =>
    rw [if_neg c] at h
    split
    · next c2 => rw [c2] at h; exact s _ _ h
    · next c2 => rw [c2] at h; cases h
theorem fr_sub : Same (fr S H H') (fr [] H H') := fun b o h => by
  unfold fr at h ⊢
  split at h
  · cases h
  · rw [if_neg (by simp)]
    exact h
theorem fr_but (ha : a ∈ S) (s : But a H1 H2) : Same (fr S H H1) (fr S H H2) := fun b o h => by
  unfold fr at h ⊢
  split
  · next c => rw [if_pos c] at h; cases h
  · next c =>
    rw [if_neg c] at h
    split
    · next c2 => rw [c2] at h; exact s _ _ (fun e => c (e ▸ ha)) h
    · next c2 => rw [c2] at h; cases h
theorem fr_butK (ha : H a = some o) (s : But a H1 H2) : Same (fr S H H1) (fr S H H2) := fun b u h => by
  unfold fr at h ⊢
  split
  · next c => rw [if_pos c] at h; cases h
  · next c =>
    rw [if_neg c] at h
    split
    · next c2 => rw [c2] at h; exact s _ _ (fun e => by rw [e, ha] at c2; cases c2) h
    · next c2 => rw [c2] at h; cases h
theorem fr_upd (ha : a ∈ S) : Same (fr S H H1) (fr S H (upd H1 a o)) := fr_but ha (But.upd (But.refl _ _))
/-- all of G is new, and in H' -/
theorem Newly.same (n : Newly H G) (s : Same G H') : Same G (fr [] H H') := fun b o h => by
  refine fr_lk0 ?_ (s _ _ h)
  cases e : H b with
  | none => rfl
  | some u => rw [n b u e] at h; cases h
theorem Newly.same1 (n : Newly H G) (s : Same G H') (hp : G p = none) : Same G (fr [p] H H') := fun b o h => by
  refine fr_lk1 (ne_of_none h hp) ?_ (s _ _ h)
  cases e : H b with
  | none => rfl
  | some u => rw [n b u e] at h; cases h
theorem Newly.same2 {q : Addr} (n : Newly H G) (s : Same G H') (hp : G p = none) (hq : G q = none) : Same G (fr [p, q] H H') := fun b o h => by
  refine fr_lk2 (ne_of_none h hp) (ne_of_none h hq) ?_ (s _ _ h)
  cases e : H b with
  | none => rfl
  | some u => rw [n b u e] at h; cases h
theorem Newly.free (n : Newly H G) (h : H p = some o) : G p = none := n p o h
theorem Newly.back (n : Newly H1 G) (s : Same H H1) : Newly H G := fun b o h => n b o (s b o h)
theorem Newly.backB (n : Newly H1 G) (s : But a H H1) (h : G a = none) : Newly H G := fun b o e => by
  by_cases c : b = a
  · rw [c]; exact h
  · exact n b o (s b o c e)
end
/-! ### the purse of draws: where it stands and how often it was drawn from -/
def Left (n m : Int) : Prop := m = 1 ∨ (m = 0 ∧ 0 ≤ n ∧ n < 2147483629)
def Pk (a : Addr) (m : Int) (H : Hp) (c0 : Int) : Prop := ∃ n c, H a = some (.lst [.int n, .int m, .int c]) ∧ Left n m ∧ 0 ≤ c ∧ c ≤ c0
section
variable {a b p : Addr} {m c0 c1 : Int} {H H' H1 G : Hp} {o : HO}
theorem Pk.mono (h : Pk a m H c0) (e : c0 ≤ c1) : Pk a m H c1 := by
  obtain ⟨n, c, h1, h2, h3, h4⟩ := h
  exact ⟨n, c, h1, h2, h3, by omega⟩
theorem Pk.cast (h : Pk a m H c0) (e : c0 = c1) : Pk a m H c1 := e ▸ h
theorem Pk.same (h : Pk a m H c0) (s : Same H H') : Pk a m H' c0 := by
  obtain ⟨n, c, h1, h2, h3⟩ := h
  exact ⟨n, c, s _ _ h1, h2, h3⟩
theorem Pk.new (h : Pk a m H c0) (hp : H p = none) : Pk a m (upd H p o) c0 := h.same (Same.new hp)
theorem Pk.upd (h : Pk a m H c0) (hp : p ≠ a) : Pk a m (upd H p o) c0 := by
  obtain ⟨n, c, h1, h2, h3⟩ := h
  exact ⟨n, c, by rw [upd_ne hp.symm]; exact h1, h2, h3⟩
theorem Pk.but (h : Pk a m H c0) (s : But p H H') (hp : p ≠ a) : Pk a m H' c0 := by
  obtain ⟨n, c, h1, h2, h3⟩ := h
  exact ⟨n, c, s _ _ hp.symm h1, h2, h3⟩
theorem Pk.newT (hp : H p = none) (h : Pk a m H c0) : Pk a m (L2.upd H p o) c0 := h.new hp
theorem Pk.sameT (s : Same H H') (h : Pk a m H c0) : Pk a m H' c0 := h.same s
theorem Pk.ne (n : H p = none) (h : Pk a m H c0) : p ≠ a := by
  obtain ⟨_, _, h1, _⟩ := h
  exact (ne_of_none h1 n).symm
theorem Pk.neo (n : G a = none) (h : G p = some o) : p ≠ a := ne_of_none h n
theorem Pk.some (h : Pk a m H c0) : ∃ o, H a = some o := by
  obtain ⟨_, _, h1, _⟩ := h
  exact ⟨_, h1⟩
theorem Pk.free (hn : H' p = none) (e : But a H H') (h : Pk a m H' c0) : H p = none := by
  obtain ⟨_, _, h1, _⟩ := h
  exact But.free hn e h1
theorem Newly.pk (n : Newly H G) (h : Pk a m H c0) : G a = none := by
  obtain ⟨_, _, h1, _⟩ := h
  exact n.free h1
theorem fr_butP {S : List Addr} {H2 : Hp} (h : Pk a m H c0) (s : But a H1 H2) : Same (fr S H H1) (fr S H H2) := by
  obtain ⟨_, _, h1, _⟩ := h
  exact fr_butK h1 s
theorem Newly.backP (n : Newly H1 G) (s : But a H H1) (h : Pk a m H1 c0) : Newly H G := n.backB s (n.pk h)
theorem pk_new {n z : Int} {p : Addr} (h : Left n z) : Pk p z (L2.upd H p (.lst [.int n, .int z, .int 0])) 0 := ⟨n, 0, upd_same, h, Int.le_refl _, Int.le_refl _⟩
end
/-! ### comprehensions that draw -/
section
variable {σ : L2.St} {H H1 : Hp} {Q : VK} {K : PySem.W.Frag} {D a l : Addr} {wi : TI} {g : TG} {tt : TT} {te : TE} {vs : List Nat} {lo : Int} {n : Nat} {xs : List V} {Qd : Hp → Prop}
theorem inc_snoc {c0 inc : Int} {i : Nat} : c0 + inc * (i : Int) + inc = c0 + inc * ((i + 1 : Nat) : Int) := by
  rw [show ((i + 1 : Nat) : Int) = (i : Int) + 1 from rfl, Int.mul_add, Int.mul_one]
  omega
theorem lcR_pk {m c0 : Int} (Pz : Int → Prop) (inc : Int) (hp : Pk a m H1 c0) (nD : H1 D = none) (hn : n ≤ 1000000)
    (hs : ∀ (i : Nat) H (Z : VK) (Y : Hp → Prop), i < n → Pk a m H (c0 + inc * (i : Int)) → But a H1 H → (∀ z H4, Pz z → Pk a m H4 (c0 + inc * (i : Int) + inc) → But a H H4 → Z (.int z) H4) → LcTurn g tt te vs σ (.int (lo + i)) H Z Y)
    (hd : ∀ (ms : List Int) H, ms.length = n → (∀ z ∈ ms, Pz z) → H D = some (.lst (ms.map V.int)) → Pk a m H (c0 + inc * (n : Int)) → But a H1 H → Qd H) :
    ∃ W : Nat → Nat → Hp → Prop, (∃ m, W 0 m (upd H1 D (.lst []))) ∧ ∀ i m H, W i m H →
      ((Itr lo n).stop i H ∧ Qd H) ∨ ((Itr lo n).go i H ∧ ∃ Nx : Hp → Prop, (∀ H', Nx H' → ∃ m', m' < m ∧ W (i + 1) m' H') ∧ ∀ x H', (Itr lo n).yld i H x H' → g x (wipe σ vs) H' fun σ2 H2 => wipe σ2 vs = wipe σ vs ∧ tt σ2 H2 fun b H3 =>
        if b = true then te σ2 H3 fun y H4 => ∃ acc, H4 D = some (.lst acc) ∧ acc.length < sizeLine ∧ Nx (upd H4 D (.lst (acc ++ [y]))) else Nx H3) := by
  have hDa : D ≠ a := hp.ne nD
  refine lcR (fun i acc H => ∃ ms : List Int, acc = ms.map V.int ∧ ms.length = i ∧ (∀ z ∈ ms, Pz z) ∧ Pk a m H (c0 + inc * (i : Int)) ∧ But a H1 H) nD ⟨[], rfl, rfl, nofun, (hp.new nD).cast (by simp), But.newT nD (But.refl _ _)⟩ ?_ ?_
  · rintro i acc H Z Y hi ⟨ms, rfl, h1, h2, h3, h4⟩ hD hz _
    refine hs i H Z Y hi h3 h4 fun z H4 k1 k2 k3 => hz _ _ (k3 _ _ hDa hD) (sz4' (by rw [List.length_map]; omega)) ⟨ms ++ [z], by rw [List.map_append]; rfl, by rw [List.length_append, h1]; rfl, ?_, (k2.upd hDa).cast inc_snoc, ?_⟩
    · intro x hx
      rcases List.mem_append.mp hx with e | e
      · exact h2 x e
      · rw [List.mem_singleton.mp e]; exact k1
    · intro b o hb e
      have := k3 _ _ hb (h4 _ _ hb e)
      rw [upd_ne (ne_of_none e nD)]
      exact this
  · rintro acc H ⟨ms, rfl, h1, h2, h3, h4⟩ hD
    exact hd ms H h1 h2 hD h3 h4
theorem lcR_dq {α : Type} {m c0 : Int} (F : α → PyData) (Pz : α → Prop) (inc : Int) (hp : Pk a m H1 c0) (nD : H1 D = none) (hn : n ≤ 1000000)
    (hs : ∀ (i : Nat) H (Z : VK) (Y : Hp → Prop), i < n → Pk a m H (c0 + inc * (i : Int)) → But a H1 H → (∀ x v G H4, Pz x → Dq G v (F x) → Newly H G → Same G H4 → Pk a m H4 (c0 + inc * (i : Int) + inc) → But a H H4 → Z v H4) → LcTurn g tt te vs σ (.int (lo + i)) H Z Y)
    (hd : ∀ (xs : List α) G H, xs.length = n → (∀ x ∈ xs, Pz x) → Dq G (.ref D) (.list (xs.map F)) → Newly H1 G → Same G H → Pk a m H (c0 + inc * (n : Int)) → But a H1 H → Qd H) :
    ∃ W : Nat → Nat → Hp → Prop, (∃ m, W 0 m (upd H1 D (.lst []))) ∧ ∀ i m H, W i m H →
      ((Itr lo n).stop i H ∧ Qd H) ∨ ((Itr lo n).go i H ∧ ∃ Nx : Hp → Prop, (∀ H', Nx H' → ∃ m', m' < m ∧ W (i + 1) m' H') ∧ ∀ x H', (Itr lo n).yld i H x H' → g x (wipe σ vs) H' fun σ2 H2 => wipe σ2 vs = wipe σ vs ∧ tt σ2 H2 fun b H3 =>
        if b = true then te σ2 H3 fun y H4 => ∃ acc, H4 D = some (.lst acc) ∧ acc.length < sizeLine ∧ Nx (upd H4 D (.lst (acc ++ [y]))) else Nx H3) := by
  have hDa : D ≠ a := hp.ne nD
  refine lcR (fun i acc H => ∃ xs : List α, DqAll (fr [D] H1 H) acc (xs.map F) ∧ xs.length = i ∧ (∀ x ∈ xs, Pz x) ∧ Pk a m H (c0 + inc * (i : Int)) ∧ But a H1 H) nD ⟨[], .nil, rfl, nofun, (hp.new nD).cast (by simp), But.newT nD (But.refl _ _)⟩ ?_ ?_
  · rintro i acc H Z Y hi ⟨xs, h0, h1, h2, h3, h4⟩ hD hz _
    refine hs i H Z Y hi h3 h4 fun x v G H4 k1 k2 k3 k4 k5 k6 => ?_
    have gD : G D = none := k3.free hD
    refine hz _ _ (k6 _ _ hDa hD) (sz4' (by rw [h0.len, List.length_map]; omega)) ⟨xs ++ [x], ?_, by rw [List.length_append, h1]; rfl, ?_, (k5.upd hDa).cast inc_snoc, ?_⟩
    · rw [List.map_append]
      exact DqAll.snoc ((h0.same (fr_butP hp k6)).same (fr_upd (by simp))) (k2.same (Newly.same1 (k3.backP h4 h3) (Same.mut k4 gD) gD))
    · intro y hy
      rcases List.mem_append.mp hy with e | e
      · exact h2 y e
      · rw [List.mem_singleton.mp e]; exact k1
    · intro b o hb e
      have := k6 _ _ hb (h4 _ _ hb e)
      rw [upd_ne (ne_of_none e nD)]
      exact this
  · rintro acc H ⟨xs, h0, h1, h2, h3, h4⟩ hD
    exact hd xs (fr [] H1 H) H h1 h2 (.lst (fr_lk0 nD hD) (h0.same fr_sub)) fr_newly fr_same h3 h4
/-- new data for each item of a list, nothing changed -/
theorem lcL_new (f : Nat → PyData) (nD : H1 D = none) (hn : xs.length ≤ 1000000) (hx : SqL K H1 l xs)
    (hs : ∀ (i : Nat) (x : V) H (Z : VK) (Y : Hp → Prop), xs[i]? = some x → Same H1 H → (∀ v G H4, Dq G v (f i) → Newly H G → Same G H4 → Same H H4 → Z v H4) → LcTurn g tt te vs σ x H Z Y)
    (hd : ∀ G H, Dq G (.ref D) (.list ((List.range xs.length).map f)) → Newly H1 G → Same G H → Same H1 H → Qd H) :
    ∃ W : Nat → Nat → Hp → Prop, (∃ m, W 0 m (upd H1 D (.lst []))) ∧ ∀ i m H, W i m H →
      ((Itl K l).stop i H ∧ Qd H) ∨ ((Itl K l).go i H ∧ ∃ Nx : Hp → Prop, (∀ H', Nx H' → ∃ m', m' < m ∧ W (i + 1) m' H') ∧ ∀ x H', (Itl K l).yld i H x H' → g x (wipe σ vs) H' fun σ2 H2 => wipe σ2 vs = wipe σ vs ∧ tt σ2 H2 fun b H3 =>
        if b = true then te σ2 H3 fun y H4 => ∃ acc, H4 D = some (.lst acc) ∧ acc.length < sizeLine ∧ Nx (upd H4 D (.lst (acc ++ [y]))) else Nx H3) := by
  refine lcL (xs := xs) (fun i acc H => DqAll (fr [D] H1 H) acc ((List.range i).map f) ∧ acc.length = i ∧ Same H1 H) nD ⟨.nil, rfl, Same.new nD⟩ (fun i acc H _ q _ => q.2.2.seq hx) ?_ ?_
  · rintro i x acc H Z Y hi ⟨h0, h1, h2⟩ hD hz _
    have hi' : i < xs.length := (List.getElem?_eq_some_iff.mp hi).1
    refine hs i x H Z Y hi h2 fun v G H4 k2 k3 k4 k6 => ?_
    have gD : G D = none := k3.free hD
    refine hz _ _ (k6 _ _ hD) (sz4' (by omega)) ⟨?_, by rw [List.length_append, h1]; rfl, Same.mut (h2.trans k6) nD⟩
    rw [List.range_succ, List.map_append]
    exact DqAll.snoc ((h0.same (fr_mono k6)).same (fr_upd (by simp))) (k2.same (Newly.same1 (k3.back h2) (Same.mut k4 gD) gD))
  · rintro acc H ⟨h0, h1, h2⟩ hD
    exact hd (fr [] H1 H) H (.lst (fr_lk0 nD hD) (h0.same fr_sub)) fr_newly fr_same h2
theorem lcT (P : Nat → List V → Hp → Prop) (nD : H1 D = none) (h0 : P 0 [] (upd H1 D (.lst []))) (hl : ∀ i acc H, i ≤ xs.length → P i acc H → H D = some (.lst acc) → SqT K H l xs)
    (hs : ∀ i x acc H (Z : VK) (Y : Hp → Prop), xs[i]? = some x → P i acc H → H D = some (.lst acc) → (∀ y H4, H4 D = some (.lst acc) → acc.length < sizeLine → P (i + 1) (acc ++ [y]) (upd H4 D (.lst (acc ++ [y]))) → Z y H4) →
      (∀ H4, H4 D = some (.lst acc) → P (i + 1) acc H4 → Y H4) → LcTurn g tt te vs σ x H Z Y) (hd : ∀ acc H, P xs.length acc H → H D = some (.lst acc) → Qd H) :
    ∃ W : Nat → Nat → Hp → Prop, (∃ m, W 0 m (upd H1 D (.lst []))) ∧ ∀ i m H, W i m H →
      ((Itt K l).stop i H ∧ Qd H) ∨ ((Itt K l).go i H ∧ ∃ Nx : Hp → Prop, (∀ H', Nx H' → ∃ m', m' < m ∧ W (i + 1) m' H') ∧ ∀ x H', (Itt K l).yld i H x H' → g x (wipe σ vs) H' fun σ2 H2 => wipe σ2 vs = wipe σ vs ∧ tt σ2 H2 fun b H3 =>
        if b = true then te σ2 H3 fun y H4 => ∃ acc, H4 D = some (.lst acc) ∧ acc.length < sizeLine ∧ Nx (upd H4 D (.lst (acc ++ [y]))) else Nx H3) := by
  refine lc_tup (xs := xs) (fun i H => ∃ acc, P i acc H ∧ H D = some (.lst acc)) ⟨[], h0, upd_same⟩ (fun i H hi hp => ?_) (fun i x H hi hp => ?_) (fun H hp => ?_)
  · obtain ⟨acc, hp, ha⟩ := hp
    exact hl i acc H hi hp ha
  · obtain ⟨acc, hp, ha⟩ := hp
    exact hs i x acc H _ _ hi hp ha (fun y H4 h1 h2 h3 => ⟨acc, h1, h2, _, h3, upd_same⟩) fun H4 h1 h2 => ⟨acc, h2, h1⟩
  · obtain ⟨acc, hp, ha⟩ := hp
    exact hd acc H hp ha
theorem lcT_new (f : Nat → PyData) (nD : H1 D = none) (hn : xs.length ≤ 1000000) (hx : SqT K H1 l xs)
    (hs : ∀ (i : Nat) (x : V) H (Z : VK) (Y : Hp → Prop), xs[i]? = some x → Same H1 H → (∀ v G H4, Dq G v (f i) → Newly H G → Same G H4 → Same H H4 → Z v H4) → LcTurn g tt te vs σ x H Z Y)
    (hd : ∀ G H, Dq G (.ref D) (.list ((List.range xs.length).map f)) → Newly H1 G → Same G H → Same H1 H → Qd H) :
    ∃ W : Nat → Nat → Hp → Prop, (∃ m, W 0 m (upd H1 D (.lst []))) ∧ ∀ i m H, W i m H →
      ((Itt K l).stop i H ∧ Qd H) ∨ ((Itt K l).go i H ∧ ∃ Nx : Hp → Prop, (∀ H', Nx H' → ∃ m', m' < m ∧ W (i + 1) m' H') ∧ ∀ x H', (Itt K l).yld i H x H' → g x (wipe σ vs) H' fun σ2 H2 => wipe σ2 vs = wipe σ vs ∧ tt σ2 H2 fun b H3 =>
        if b = true then te σ2 H3 fun y H4 => ∃ acc, H4 D = some (.lst acc) ∧ acc.length < sizeLine ∧ Nx (upd H4 D (.lst (acc ++ [y]))) else Nx H3) := by
  refine lcT (xs := xs) (fun i acc H => DqAll (fr [D] H1 H) acc ((List.range i).map f) ∧ acc.length = i ∧ Same H1 H) nD ⟨.nil, rfl, Same.new nD⟩ (fun i acc H _ q _ => Same.seqT q.2.2 hx) ?_ ?_
  · rintro i x acc H Z Y hi ⟨h0, h1, h2⟩ hD hz _
    have hi' : i < xs.length := (List.getElem?_eq_some_iff.mp hi).1
    refine hs i x H Z Y hi h2 fun v G H4 k2 k3 k4 k6 => ?_
    have gD : G D = none := k3.free hD
    refine hz _ _ (k6 _ _ hD) (sz4' (by omega)) ⟨?_, by rw [List.length_append, h1]; rfl, Same.mut (h2.trans k6) nD⟩
    rw [List.range_succ, List.map_append]
    exact DqAll.snoc ((h0.same (fr_mono k6)).same (fr_upd (by simp))) (k2.same (Newly.same1 (k3.back h2) (Same.mut k4 gD) gD))
  · rintro acc H ⟨h0, h1, h2⟩ hD
    exact hd (fr [] H1 H) H (.lst (fr_lk0 nD hD) (h0.same fr_sub)) fr_newly fr_same h2
theorem lcR_new (f : Nat → PyData) (nD : H1 D = none) (hn : n ≤ 1000000)
    (hs : ∀ (i : Nat) H (Z : VK) (Y : Hp → Prop), i < n → Same H1 H → (∀ v G H4, Dq G v (f i) → Newly H G → Same G H4 → Same H H4 → Z v H4) → LcTurn g tt te vs σ (.int (lo + i)) H Z Y)
    (hd : ∀ G H, Dq G (.ref D) (.list ((List.range n).map f)) → Newly H1 G → Same G H → Same H1 H → Qd H) :
    ∃ W : Nat → Nat → Hp → Prop, (∃ m, W 0 m (upd H1 D (.lst []))) ∧ ∀ i m H, W i m H →
      ((Itr lo n).stop i H ∧ Qd H) ∨ ((Itr lo n).go i H ∧ ∃ Nx : Hp → Prop, (∀ H', Nx H' → ∃ m', m' < m ∧ W (i + 1) m' H') ∧ ∀ x H', (Itr lo n).yld i H x H' → g x (wipe σ vs) H' fun σ2 H2 => wipe σ2 vs = wipe σ vs ∧ tt σ2 H2 fun b H3 =>
        if b = true then te σ2 H3 fun y H4 => ∃ acc, H4 D = some (.lst acc) ∧ acc.length < sizeLine ∧ Nx (upd H4 D (.lst (acc ++ [y]))) else Nx H3) := by
  refine lcR (fun i acc H => DqAll (fr [D] H1 H) acc ((List.range i).map f) ∧ acc.length = i ∧ Same H1 H) nD ⟨.nil, rfl, Same.new nD⟩ ?_ ?_
  · rintro i acc H Z Y hi ⟨h0, h1, h2⟩ hD hz _
    refine hs i H Z Y hi h2 fun v G H4 k2 k3 k4 k6 => ?_
    have gD : G D = none := k3.free hD
    refine hz _ _ (k6 _ _ hD) (sz4' (by omega)) ⟨?_, by rw [List.length_append, h1]; rfl, Same.mut (h2.trans k6) nD⟩
    rw [List.range_succ, List.map_append]
    exact DqAll.snoc ((h0.same (fr_mono k6)).same (fr_upd (by simp))) (k2.same (Newly.same1 (k3.back h2) (Same.mut k4 gD) gD))
  · rintro acc H ⟨h0, h1, h2⟩ hD
    exact hd (fr [] H1 H) H (.lst (fr_lk0 nD hD) (h0.same fr_sub)) fr_newly fr_same h2
/-! ### tuple of a list -/
theorem i_tupOfL {p : Addr} (h : SqL K H p xs) (q : ∀ l, H l = none → Q (.ref l) (upd H l (.tup xs))) : rTupleOf K [.ref p] H Q := ⟨p, xs, rfl, .inl ⟨h, q⟩⟩
end
/-! ### how deep data are -/
mutual
def dep : PyData → Nat
  | .list xs => depA xs + 1
  | .tuple xs => depA xs + 1
  | _ => 0
def depA : List PyData → Nat
  | [] => 0
  | d :: ds => max (dep d) (depA ds)
end
/-! how wide -/
mutual
def wid : PyData → Nat
  | .list xs => max xs.length (widA xs)
  | .tuple xs => max xs.length (widA xs)
  | _ => 0
def widA : List PyData → Nat
  | [] => 0
  | d :: ds => max (wid d) (widA ds)
end
theorem widA_mem : ∀ {ds : List PyData} {d : PyData}, d ∈ ds → wid d ≤ widA ds
  | e :: ds, d, h => by
    rw [widA]
    rcases List.mem_cons.mp h with z | z
    · rw [z]; omega
    · have := widA_mem z
      omega
theorem widA_le {k : Nat} : ∀ {ds : List PyData}, (∀ d ∈ ds, wid d ≤ k) → widA ds ≤ k
  | [], _ => Nat.zero_le _
  | e :: ds, h => by
    rw [widA]
    have := h e List.mem_cons_self
    have := widA_le fun d hd => h d (List.mem_cons_of_mem _ hd)
    omega
theorem depA_mem : ∀ {ds : List PyData} {d : PyData}, d ∈ ds → dep d ≤ depA ds
  | e :: ds, d, h => by
    rw [depA]
    rcases List.mem_cons.mp h with z | z
    · rw [z]; omega
    · have := depA_mem z
      omega
theorem depA_le {k : Nat} : ∀ {ds : List PyData}, (∀ d ∈ ds, dep d ≤ k) → depA ds ≤ k
  | [], _ => Nat.zero_le _
  | e :: ds, h => by
    rw [depA]
    have := h e List.mem_cons_self
    have := depA_le fun d hd => h d (List.mem_cons_of_mem _ hd)
    omega
/-- no object at all -/
def noH : Hp := fun _ => none
theorem noH_newly {H : Hp} : Newly H noH := fun _ _ _ => rfl
theorem noH_same {H : Hp} : Same noH H := fun _ _ h => by cases h
theorem rng_get {α : Type} {x : α} (ds : List α) : (List.range ds.length).map (fun i => (ds[i]?).getD x) = ds := by
  apply List.ext_getElem?
  intro i
  rw [List.getElem?_map]
  by_cases c : i < ds.length
  · rw [List.getElem?_range c, List.getElem?_eq_getElem c]
    show some ((ds[i]?).getD x) = _
    rw [List.getElem?_eq_getElem c]
    rfl
  · rw [List.getElem?_eq_none (by rw [List.length_range]; omega), List.getElem?_eq_none (by omega)]
    rfl
/-- int of a truth that is known -/
theorem i_intY {b : Bool} {R : Bool → Prop} {S : Prop} (e : b = true) (q : R true) : S ∨ ∃ k, [V.bl b] = [.bl k] ∧ R k := by
  subst e
  exact .inr ⟨true, rfl, q⟩
theorem i_intN {b : Bool} {R : Bool → Prop} {S : Prop} (e : b = false) (q : R false) : S ∨ ∃ k, [V.bl b] = [.bl k] ∧ R k := by
  subst e
  exact .inr ⟨false, rfl, q⟩
/-! ### data that compare -/
mutual
theorem depth_dep : ∀ {d : PyData}, d.canLay0 = true → d.depth = dep d
  | .none, _ => by simp [PyData.depth, dep]
  | .bool _, _ => by simp [PyData.depth, dep]
  | .int _, _ => by simp [PyData.depth, dep]
  | .str _, _ => by simp [PyData.depth, dep]
  | .list xs, h => by
    have := depthA_dep (ds := xs) (by simpa [PyData.canLay0] using h)
    simp [PyData.depth, dep, this]
  | .tuple xs, h => by
    have := depthA_dep (ds := xs) (by simpa [PyData.canLay0] using h)
    simp [PyData.depth, dep, this]
  | .dict _, h => by simp [PyData.canLay0] at h
theorem depthA_dep : ∀ {ds : List PyData}, PyData.canLayAll0 ds = true → PyData.depthAll ds = depA ds
  | [], _ => by simp [PyData.depthAll, depA]
  | d :: ds, h => by
    rw [PyData.canLayAll0, Bool.and_eq_true] at h
    rw [PyData.depthAll, depA, depth_dep h.1, depthA_dep h.2]
end
theorem shaped_of {d : PyData} (h : d.canLay0 = true) (h2 : dep d ≤ 64) : SeqAt.shaped d = true := by
  unfold SeqAt.shaped
  rw [h, depth_dep h, Bool.true_and, decide_eq_true h2]
theorem lay_all : ∀ {ds : List PyData}, (∀ d ∈ ds, d.canLay0 = true) → PyData.canLayAll0 ds = true
  | [], _ => by simp [PyData.canLayAll0]
  | d :: ds, h => by
    rw [PyData.canLayAll0, h d List.mem_cons_self, lay_all fun e he => h e (List.mem_cons_of_mem _ he)]
    rfl
theorem lay_mem : ∀ {ds : List PyData} {d : PyData}, PyData.canLayAll0 ds = true → d ∈ ds → d.canLay0 = true
  | e :: ds, d, h, hd => by
    rw [PyData.canLayAll0, Bool.and_eq_true] at h
    rcases List.mem_cons.mp hd with z | z
    · rw [z]; exact h.1
    · exact lay_mem h.2 z
theorem lay_plan (r : List Int) : (planD r).canLay0 = true := by simp [planD, PyData.canLay0, canLay_ints]
theorem dep_ints (r : List Int) : depA (r.map PyData.int) = 0 := by
  have := depA_le (k := 0) (ds := r.map PyData.int) fun d hd => by
    obtain ⟨x, _, rfl⟩ := List.mem_map.mp hd
    simp [dep]
  omega
theorem wid_ints (r : List Int) : widA (r.map PyData.int) = 0 := by
  have := widA_le (k := 0) (ds := r.map PyData.int) fun d hd => by
    obtain ⟨x, _, rfl⟩ := List.mem_map.mp hd
    simp [wid]
  omega
theorem dep_plan (r : List Int) : dep (planD r) = 1 := by simp [planD, dep, dep_ints]
theorem wid_plan (r : List Int) : wid (planD r) = r.length := by simp [planD, wid, wid_ints]
theorem dep_rows (rs : List (List Int)) : dep (.list (rs.map planD)) ≤ 2 := by
  have := depA_le (k := 1) (ds := rs.map planD) fun d hd => by
    obtain ⟨x, _, rfl⟩ := List.mem_map.mp hd
    rw [dep_plan]
    omega
  rw [dep]
  omega
theorem wid_rows {k : Nat} (rs : List (List Int)) (h : rs.length ≤ k) (h2 : ∀ r ∈ rs, r.length ≤ k) : wid (.list (rs.map planD)) ≤ k := by
  have := widA_le (k := k) (ds := rs.map planD) fun d hd => by
    obtain ⟨x, hx, rfl⟩ := List.mem_map.mp hd
    rw [wid_plan]
    exact h2 x hx
  rw [wid, List.length_map]
  omega
theorem lay_rows (rs : List (List Int)) : PyData.canLay0 (.list (rs.map planD)) = true := by
  rw [PyData.canLay0]
  exact lay_all fun d hd => by
    obtain ⟨x, _, rfl⟩ := List.mem_map.mp hd
    exact lay_plan x
/-- what is in G, new to H, is apart from what H has -/
theorem Newly.sep {H G G1 : Hp} {p : Addr} {o : HO} (n : Newly H G) (s : Same G1 H) (h : G p = some o) : G1 p = none := by
  cases e : G1 p with
  | none => rfl
  | some u =>
    have := n p u (s _ _ e)
    rw [this] at h
    cases h
theorem Same.updB {G H : Hp} {P : Addr} {o : HO} (s : Same G H) : Same (upd G P o) (upd H P o) := fun b u h => by
  by_cases c : b = P
  · rw [c, upd_same] at h ⊢
    exact h
  · rw [upd_ne c] at h ⊢
    exact s _ _ h
end Hf
/-! ## battles -/
namespace Hf
open PySem PySem.Spec PyProof.Rows L2
inductive Fld where
  | more (w t : Int)
  | lead (w l : Int)
  | tab (rows : List (List Int))
instance : Inhabited Fld := ⟨.more 1 0⟩
def fldD : Fld → PyData
  | .more w t => .tuple [.str (PySem.Str.ofString "more"), .int w, .int t]
  | .lead w l => .tuple [.str (PySem.Str.ofString "lead"), .int w, .int l]
  | .tab rows => .tuple [.str (PySem.Str.ofString "table"), .list (rows.map planD)]
def batD (f s : Int) (fs : List Fld) : PyData := .tuple [.int f, .int s, .list (fs.map fldD)]
def Sm (x : Int) : Prop := -(2 ^ 110) < x ∧ x < 2 ^ 110
def FldOk (f s : Int) : Fld → Prop
  | .more w t => 1 ≤ w ∧ 0 - w ≤ t ∧ t ≤ w
  | .lead w _ => 1 ≤ w
  | .tab rows => (rows.length : Int) = f + 1 ∧ ∀ r ∈ rows, (r.length : Int) = s + 1
/-- its numbers are not great -/
def FldSm : Fld → Prop
  | .more w t => Sm w ∧ Sm t
  | .lead w l => Sm w ∧ Sm l
  | .tab rows => ∀ r ∈ rows, ∀ x ∈ r, Sm x
structure BatOk (f s : Int) (fs : List Fld) : Prop where
  hf : 0 ≤ f ∧ f ≤ 10
  hs : 0 ≤ s ∧ s ≤ 10
  ne : 1 ≤ fs.length ∧ fs.length ≤ 5
  ok : ∀ x ∈ fs, FldOk f s x
def paidV : Fld → Int → Int → Int
  | .more w t, x, y => if x = y then t else if x > y then w else 0 - w
  | .lead w l, x, y => if x ≥ y + l then w else 0 - w
  | .tab rows, x, y => (((rows[x.toNat]?).getD [])[y.toNat]?).getD 0
section
variable {H : Hp} {v : V}
theorem fld_more {w t : Int} (h : Dq H v (fldD (.more w t))) : ∃ a, v = .ref a ∧ H a = some (.tup [.str (PySem.Str.ofString "more"), .int w, .int t]) := by
  obtain ⟨a, xs, rfl, h1, h2⟩ := Dq.tuple_inv h
  cases h2 with
  | cons a b =>
    cases b with
    | cons c d =>
      cases d with
      | cons e f =>
        cases f
        obtain rfl := Dq.str_inv a
        obtain rfl := Dq.int_inv c
        obtain rfl := Dq.int_inv e
        exact ⟨_, rfl, h1⟩
theorem fld_lead {w t : Int} (h : Dq H v (fldD (.lead w t))) : ∃ a, v = .ref a ∧ H a = some (.tup [.str (PySem.Str.ofString "lead"), .int w, .int t]) := by
  obtain ⟨a, xs, rfl, h1, h2⟩ := Dq.tuple_inv h
  cases h2 with
  | cons a b =>
    cases b with
    | cons c d =>
      cases d with
      | cons e f =>
        cases f
        obtain rfl := Dq.str_inv a
        obtain rfl := Dq.int_inv c
        obtain rfl := Dq.int_inv e
        exact ⟨_, rfl, h1⟩
theorem fld_tab {rows : List (List Int)} (h : Dq H v (fldD (.tab rows))) : ∃ a p xs, v = .ref a ∧ H a = some (.tup [.str (PySem.Str.ofString "table"), .ref p]) ∧ H p = some (.lst xs) ∧ DqAll H xs (rows.map planD) := by
  obtain ⟨a, xs, rfl, h1, h2⟩ := Dq.tuple_inv h
  cases h2 with
  | cons a b =>
    cases b with
    | cons c d =>
      cases d
      obtain rfl := Dq.str_inv a
      obtain ⟨p, ys, rfl, h3, h4⟩ := Dq.list_inv c
      exact ⟨_, p, ys, rfl, h1, h3, h4⟩
theorem row_at {xs : List V} {rows : List (List Int)} (q : DqAll H xs (rows.map planD)) {k : Nat} {w : V} (hw : xs[k]? = some w) : ∃ r p, rows[k]? = some r ∧ w = .ref p ∧ H p = some (.lst (r.map V.int)) := by
  obtain ⟨d, e, q⟩ := q.get' hw
  rw [List.getElem?_map] at e
  cases g : rows[k]? with
  | none => rw [g] at e; cases e
  | some r =>
    rw [g] at e
    cases e
    obtain ⟨p, ys, rfl, h3, h4⟩ := Dq.list_inv q
    obtain rfl := DqAll.ints h4
    exact ⟨r, p, rfl, rfl, h3⟩
theorem bat_inv {f s : Int} {fs : List Fld} (h : Dq H v (batD f s fs)) : ∃ a p xs, v = .ref a ∧ H a = some (.tup [.int f, .int s, .ref p]) ∧ H p = some (.lst xs) ∧ DqAll H xs (fs.map fldD) := by
  obtain ⟨a, xs, rfl, h1, h2⟩ := Dq.tuple_inv h
  cases h2 with
  | cons a b =>
    cases b with
    | cons c d =>
      cases d with
      | cons e f =>
        cases f
        obtain rfl := Dq.int_inv a
        obtain rfl := Dq.int_inv c
        obtain ⟨p, ys, rfl, h3, h4⟩ := Dq.list_inv e
        exact ⟨_, p, ys, rfl, h1, h3, h4⟩
theorem fld_at {xs : List V} {fs : List Fld} (q : DqAll H xs (fs.map fldD)) {k : Nat} {w : V} (hw : xs[k]? = some w) : ∃ f, fs[k]? = some f ∧ Dq H w (fldD f) := by
  obtain ⟨d, e, q⟩ := q.get' hw
  rw [List.getElem?_map] at e
  cases g : fs[k]? with
  | none => rw [g] at e; cases e
  | some r =>
    rw [g] at e
    cases e
    exact ⟨r, rfl, q⟩
theorem more_mk {a : Addr} {w t : Int} (h : H a = some (.tup [.str (PySem.Str.ofString "more"), .int w, .int t])) : Dq H (.ref a) (fldD (.more w t)) := .tup h (.cons (.str _) (.cons (.int _) (.cons (.int _) .nil)))
theorem lead_mk {a : Addr} {w t : Int} (h : H a = some (.tup [.str (PySem.Str.ofString "lead"), .int w, .int t])) : Dq H (.ref a) (fldD (.lead w t)) := .tup h (.cons (.str _) (.cons (.int _) (.cons (.int _) .nil)))
theorem tab_mk {a p : Addr} {xs : List V} {rows : List (List Int)} (h : H a = some (.tup [.str (PySem.Str.ofString "table"), .ref p])) (h1 : H p = some (.lst xs)) (h2 : DqAll H xs (rows.map planD)) : Dq H (.ref a) (fldD (.tab rows)) := .tup h (.cons (.str _) (.cons (.lst h1 h2) .nil))
theorem tab_mk' {a : Addr} {v : V} {rows : List (List Int)} (h : H a = some (.tup [.str (PySem.Str.ofString "table"), v])) (h1 : Dq H v (.list (rows.map planD))) : Dq H (.ref a) (fldD (.tab rows)) := .tup h (.cons (.str _) (.cons h1 .nil))
theorem bat_mk' {a : Addr} {v : V} {f s : Int} {fs : List Fld} (h : H a = some (.tup [.int f, .int s, v])) (h1 : Dq H v (.list (fs.map fldD))) : Dq H (.ref a) (batD f s fs) := .tup h (.cons (.int _) (.cons (.int _) (.cons h1 .nil)))
theorem bat_mk {a p : Addr} {xs : List V} {f s : Int} {fs : List Fld} (h : H a = some (.tup [.int f, .int s, .ref p])) (h1 : H p = some (.lst xs)) (h2 : DqAll H xs (fs.map fldD)) : Dq H (.ref a) (batD f s fs) := .tup h (.cons (.int _) (.cons (.int _) (.cons (.lst h1 h2) .nil)))
theorem row_mk {p : Addr} {r : List Int} (h : H p = some (.lst (r.map V.int))) : Dq H (.ref p) (planD r) := .lst h (dq_ints r)
end
theorem BatOk.at {f s : Int} {fs : List Fld} (k : BatOk f s fs) {i : Nat} {x : Fld} (e : fs[i]? = some x) : FldOk f s x := k.ok x (List.mem_of_getElem? e)
theorem DqAll.rep {H : Hp} {v : V} {d : PyData} (h : Dq H v d) : ∀ n : Nat, DqAll H (List.replicate n v) (List.replicate n d)
  | 0 => .nil
  | n + 1 => .cons h (DqAll.rep h n)
theorem lay_fld (fl : Fld) : (fldD fl).canLay0 = true := by
  cases fl with
  | more w t => simp [fldD, PyData.canLay0, PyData.canLayAll0]; decide +kernel
  | lead w t => simp [fldD, PyData.canLay0, PyData.canLayAll0]; decide +kernel
  | tab rows =>
    simp [fldD, PyData.canLay0, PyData.canLayAll0, lay_rows]
    exact ⟨by decide +kernel, by have := lay_rows rows; rwa [PyData.canLay0] at this⟩
theorem lay_bat (f s : Int) (fs : List Fld) : (batD f s fs).canLay0 = true := by
  have : PyData.canLay0 (.list (fs.map fldD)) = true := by
    rw [PyData.canLay0]
    exact lay_all fun d hd => by
      obtain ⟨x, _, rfl⟩ := List.mem_map.mp hd
      exact lay_fld x
  rw [PyData.canLay0] at this
  simp [batD, PyData.canLay0, PyData.canLayAll0, this]
theorem dep_fld (fl : Fld) : dep (fldD fl) ≤ 3 := by
  cases fl with
  | more w t => simp [fldD, dep, depA]
  | lead w t => simp [fldD, dep, depA]
  | tab rows =>
    have := dep_rows rows
    simp only [fldD, dep, depA] at this ⊢
    omega
theorem dep_bat (f s : Int) (fs : List Fld) : dep (batD f s fs) ≤ 5 := by
  have := depA_le (k := 3) (ds := fs.map fldD) fun d hd => by
    obtain ⟨x, _, rfl⟩ := List.mem_map.mp hd
    exact dep_fld x
  simp only [batD, dep, depA] at this ⊢
  omega
theorem wid_fld {f s : Int} {fl : Fld} (hf : f ≤ 10) (hs : s ≤ 10) (k : FldOk f s fl) : wid (fldD fl) ≤ 20 := by
  cases fl with
  | more w t => rw [fldD]; simp [wid, widA]
  | lead w t => rw [fldD]; simp [wid, widA]
  | tab rows =>
    obtain ⟨h1, h2⟩ := k
    have := wid_rows (k := 20) rows (by omega) (fun r hr => by have := h2 r hr; omega)
    simp only [fldD, wid, widA, List.length_cons, List.length_nil] at this ⊢
    omega
theorem wid_bat {f s : Int} {fs : List Fld} (hf : f ≤ 10) (hs : s ≤ 10) (hl : fs.length ≤ 20) (k : ∀ x ∈ fs, FldOk f s x) : wid (batD f s fs) ≤ 20 := by
  have := widA_le (k := 20) (ds := fs.map fldD) fun d hd => by
    obtain ⟨x, hx, rfl⟩ := List.mem_map.mp hd
    exact wid_fld hf hs (k x hx)
  simp only [batD, wid, widA, List.length_cons, List.length_nil, List.length_map] at this ⊢
  omega
theorem shaped_bat (f s : Int) (fs : List Fld) : SeqAt.shaped (batD f s fs) = true := shaped_of (lay_bat f s fs) (Nat.le_trans (dep_bat f s fs) (by decide))
/-- a row changed through its address, whichever rows it is -/
theorem rows_set {G : Hp} {xs : List V} {rs : List (List Int)} {P : Addr} {r r' : List Int} (q : DqAll G xs (rs.map planD)) (hP : G P = some (.lst (r.map V.int))) (hl : r'.length = r.length) :
    ∃ rs' : List (List Int), DqAll (upd G P (.lst (r'.map V.int))) xs (rs'.map planD) ∧ rs'.length = rs.length ∧ ∀ L, (∀ z ∈ rs, z.length = L) → ∀ z ∈ rs', z.length = L := by
  induction rs generalizing xs with
  | nil =>
    cases q
    exact ⟨[], .nil, rfl, fun _ _ => nofun⟩
  | cons r0 rs ih =>
    cases q with
    | cons h q =>
      obtain ⟨rs', g1, g2, g3⟩ := ih q
      obtain ⟨p, ys, rfl, h3, h4⟩ := Dq.list_inv h
      obtain rfl := DqAll.ints h4
      by_cases c : p = P
      · subst c
        refine ⟨r' :: rs', .cons (row_mk upd_same) g1, by rw [List.length_cons, g2, List.length_cons], fun L hL z hz => ?_⟩
        rcases List.mem_cons.mp hz with e | e
        · rw [h3] at hP
          have e2 := congrArg List.length (HO.lst.inj (Option.some.inj hP))
          rw [List.length_map, List.length_map] at e2
          rw [e, hl, ← e2]
          exact hL r0 List.mem_cons_self
        · exact g3 L (fun z hz => hL z (List.mem_cons_of_mem _ hz)) z e
      · refine ⟨r0 :: rs', .cons (row_mk (lk_upd c h3)) g1, by rw [List.length_cons, g2, List.length_cons], fun L hL z hz => ?_⟩
        rcases List.mem_cons.mp hz with e | e
        · rw [e]; exact hL r0 List.mem_cons_self
        · exact g3 L (fun z hz => hL z (List.mem_cons_of_mem _ hz)) z e
/-! ### what is won -/
def fldAt (fs : List Fld) (k : Int) : Fld := (fs[k.toNat]?).getD default
def nAt (ms : List Int) (k : Int) : Int := (ms[k.toNat]?).getD 0
def gainV (fs : List Fld) (ms ns : List Int) : Int := ((List.range fs.length).map fun i : Nat => paidV (fldAt fs i) (nAt ms i) (nAt ns i)).sum
def RiseP (fl : Fld) (f s : Int) : Prop := ∀ x y : Int, 0 ≤ x → x ≤ f → 0 ≤ y → y ≤ s → (x < f → paidV fl x y ≤ paidV fl (x + 1) y) ∧ (y < s → paidV fl x (y + 1) ≤ paidV fl x y)
def RiseA (fs : List Fld) (f s : Int) : Prop := ∀ x ∈ fs, RiseP x f s
def PlainF : Fld → Prop
  | .tab _ => False
  | _ => True
theorem rise_plain {f s : Int} {fl : Fld} (k : FldOk f s fl) (h : PlainF fl) : RiseP fl f s := by
  intro x y _ _ _ _
  cases fl with
  | more w t =>
    obtain ⟨h1, h2, h3⟩ := k
    refine ⟨fun _ => ?_, fun _ => ?_⟩
    · show (if x = y then t else if x > y then w else 0 - w) ≤ (if x + 1 = y then t else if x + 1 > y then w else 0 - w)
      split <;> split <;> (try split) <;> (try split) <;> omega
    · show (if x = y + 1 then t else if x > y + 1 then w else 0 - w) ≤ (if x = y then t else if x > y then w else 0 - w)
      split <;> split <;> (try split) <;> (try split) <;> omega
  | lead w l =>
    have h1 : 1 ≤ w := k
    refine ⟨fun _ => ?_, fun _ => ?_⟩
    · show (if x ≥ y + l then w else 0 - w) ≤ (if x + 1 ≥ y + l then w else 0 - w)
      split <;> split <;> omega
    · show (if x ≥ y + 1 + l then w else 0 - w) ≤ (if x ≥ y + l then w else 0 - w)
      split <;> split <;> omega
  | tab _ => exact h.elim
theorem rise_pw {fl : Fld} {f s y : Int} (h : RiseP fl f s) (hy : 0 ≤ y ∧ y ≤ s) : ∀ n : Nat, (n : Int) ≤ f + 1 → ((List.range n).map fun i : Nat => paidV fl i y).Pairwise fun a b => a ≤ b := by
  have mono : ∀ d i : Nat, ((i + d : Nat) : Int) ≤ f → paidV fl i y ≤ paidV fl ((i + d : Nat) : Int) y := by
    intro d
    induction d with
    | zero => intro i _; exact Int.le_refl _
    | succ d ih =>
      intro i hi
      have h1 := ih i (by omega)
      have h2 := (h ((i + d : Nat) : Int) y (by omega) (by omega) hy.1 hy.2).1 (by omega)
      have e : ((i + (d + 1) : Nat) : Int) = ((i + d : Nat) : Int) + 1 := rfl
      rw [e]
      omega
  intro n hn
  rw [List.pairwise_map]
  refine List.Pairwise.imp_of_mem ?_ (List.pairwise_lt_range (n := n))
  intro a b ha hb hab
  have := mono (b - a) a (by have := List.mem_range.mp hb; omega)
  rw [show a + (b - a) = b by omega] at this
  exact this
def EvenP (fs : List Fld) (f s : Int) : Prop := f = s ∧ ∀ fl ∈ fs, ∀ x y : Int, 0 ≤ x → x ≤ f → 0 ≤ y → y ≤ x → paidV fl x y = 0 - paidV fl y x
/-! ### the sides exchanged -/
def exF (s : Int) : Fld → Fld
  | .more w t => .more w (0 - t)
  | .lead w l => .lead w (1 - l)
  | .tab rows => .tab ((List.range (s + 1).toNat).map fun y => rows.map fun r => 0 - (r[y]?).getD 0)
theorem exF_ok {f s : Int} {fl : Fld} (hf : 0 ≤ f) (hs : 0 ≤ s) (k : FldOk f s fl) : FldOk s f (exF s fl) := by
  cases fl with
  | more w t =>
    obtain ⟨h1, h2, h3⟩ := k
    exact ⟨h1, by omega, by omega⟩
  | lead w l => exact k
  | tab rows =>
    obtain ⟨h1, h2⟩ := k
    refine ⟨?_, ?_⟩
    · rw [List.length_map, List.length_range]
      omega
    · intro r hr
      obtain ⟨y, _, rfl⟩ := List.mem_map.mp hr
      rw [List.length_map]
      exact h1
theorem ex_ok {f s : Int} {fs : List Fld} (k : BatOk f s fs) : BatOk s f (fs.map (exF s)) := ⟨k.hs, k.hf, by rw [List.length_map]; exact k.ne, fun x hx => by
  obtain ⟨y, hy, rfl⟩ := List.mem_map.mp hx
  exact exF_ok k.hf.1 k.hs.1 (k.ok y hy)⟩
theorem ex_paid {f s : Int} {fl : Fld} (k : FldOk f s fl) {x y : Int} (hx : 0 ≤ x ∧ x ≤ f) (hy : 0 ≤ y ∧ y ≤ s) : paidV (exF s fl) y x = 0 - paidV fl x y := by
  cases fl with
  | more w t =>
    show (if y = x then 0 - t else if y > x then w else 0 - w) = 0 - (if x = y then t else if x > y then w else 0 - w)
    split <;> split <;> (try split) <;> (try split) <;> omega
  | lead w l =>
    show (if y ≥ x + (1 - l) then w else 0 - w) = 0 - (if x ≥ y + l then w else 0 - w)
    split <;> split <;> omega
  | tab rows =>
    obtain ⟨h1, h2⟩ := k
    show (((((List.range (s + 1).toNat).map fun y => rows.map fun r => 0 - (r[y]?).getD 0)[y.toNat]?).getD [])[x.toNat]?).getD 0 = 0 - ((((rows[x.toNat]?).getD [])[y.toNat]?).getD 0)
    rw [List.getElem?_map, List.getElem?_range (by omega)]
    show (((rows.map fun r => 0 - (r[y.toNat]?).getD 0)[x.toNat]?).getD 0) = _
    rw [List.getElem?_map]
    have hx' : x.toNat < rows.length := by omega
    rw [List.getElem?_eq_getElem hx']
    rfl
theorem ex_rise1 {f s : Int} {fl : Fld} (k : FldOk f s fl) (h : RiseP fl f s) : RiseP (exF s fl) s f := by
  intro y x h1 h2 h3 h4
  obtain ⟨g1, g2⟩ := h x y h3 h4 h1 h2
  refine ⟨fun c => ?_, fun c => ?_⟩
  · rw [ex_paid k ⟨h3, h4⟩ ⟨h1, h2⟩, ex_paid k ⟨h3, h4⟩ (y := y + 1) (by omega)]
    have := g2 c
    omega
  · rw [ex_paid k ⟨h3, h4⟩ ⟨h1, h2⟩, ex_paid k (x := x + 1) (by omega) ⟨h1, h2⟩]
    have := g1 c
    omega
theorem ex_rise2 {f s : Int} {fl : Fld} (k : FldOk f s fl) (h : RiseP (exF s fl) s f) : RiseP fl f s := by
  intro x y h1 h2 h3 h4
  obtain ⟨g1, g2⟩ := h y x h3 h4 h1 h2
  refine ⟨fun c => ?_, fun c => ?_⟩
  · have := g2 c
    rw [ex_paid k ⟨h1, h2⟩ ⟨h3, h4⟩, ex_paid k (x := x + 1) (by omega) ⟨h3, h4⟩] at this
    omega
  · have := g1 c
    rw [ex_paid k ⟨h1, h2⟩ ⟨h3, h4⟩, ex_paid k ⟨h1, h2⟩ (y := y + 1) (by omega)] at this
    omega
theorem ex_rise {f s : Int} {fs : List Fld} (k : BatOk f s fs) : RiseA (fs.map (exF s)) s f ↔ RiseA fs f s := by
  refine ⟨fun h x hx => ex_rise2 (k.ok x hx) (h _ (List.mem_map_of_mem hx)), fun h x hx => ?_⟩
  obtain ⟨y, hy, rfl⟩ := List.mem_map.mp hx
  exact ex_rise1 (k.ok y hy) (h y hy)
theorem ex_even {f s : Int} {fs : List Fld} (k : BatOk f s fs) : EvenP (fs.map (exF s)) s f ↔ EvenP fs f s := by
  refine ⟨fun h => ⟨h.1.symm, fun fl hfl x y h1 h2 h3 h4 => ?_⟩, fun h => ⟨h.1.symm, fun fl hfl x y h1 h2 h3 h4 => ?_⟩⟩
  · have := h.2 _ (List.mem_map_of_mem hfl) x y h1 (by have := h.1; omega) h3 h4
    have e := h.1
    rw [ex_paid (k.ok fl hfl) (x := y) (by omega) (by omega), ex_paid (k.ok fl hfl) (x := x) (by omega) (by omega)] at this
    omega
  · obtain ⟨fl', hf', rfl⟩ := List.mem_map.mp hfl
    have e := h.1
    have := h.2 _ hf' x y h1 (by omega) h3 h4
    rw [ex_paid (k.ok fl' hf') (x := y) (by omega) (by omega), ex_paid (k.ok fl' hf') (x := x) (by omega) (by omega)]
    omega
theorem sum_neg : ∀ (n : Nat) (g h : Nat → Int), (∀ i, i < n → h i = 0 - g i) → ((List.range n).map h).sum = 0 - ((List.range n).map g).sum := by
  intro n
  induction n with
  | zero => intro g h _; rfl
  | succ n ih =>
    intro g h e
    rw [List.range_succ, List.map_append, List.map_append, List.sum_append, List.sum_append, ih g h fun i hi => e i (by omega)]
    simp only [List.map_cons, List.map_nil, List.sum_cons, List.sum_nil]
    have := e n (by omega)
    omega
theorem plan_le {h : Int} {n : Nat} {p : List Int} (k : PlanC h n p) (i : Int) : 0 ≤ nAt p i ∧ nAt p i ≤ h := by
  have key : ∀ q : List Int, (∀ x ∈ q, 0 ≤ x) → 0 ≤ q.sum ∧ ∀ x ∈ q, x ≤ q.sum := by
    intro q
    induction q with
    | nil => intro _; exact ⟨Int.le_refl _, nofun⟩
    | cons x q ih =>
      intro g
      obtain ⟨e1, e2⟩ := ih fun z hz => g z (List.mem_cons_of_mem _ hz)
      have := g x (List.mem_cons_self)
      rw [List.sum_cons]
      refine ⟨by omega, fun z hz => ?_⟩
      rcases List.mem_cons.mp hz with e | e
      · omega
      · have := e2 z e
        omega
  obtain ⟨k1, k2, k3⟩ := k
  obtain ⟨e1, e2⟩ := key p k3
  unfold nAt
  cases g : p[i.toNat]? with
  | none => exact ⟨Int.le_refl _, by show 0 ≤ h; omega⟩
  | some z =>
    have hz := List.mem_of_getElem? g
    exact ⟨k3 z hz, by have := e2 z hz; show z ≤ h; omega⟩
theorem fldAt_ex {s : Int} {fs : List Fld} {i : Int} (hi : i.toNat < fs.length) : fldAt (fs.map (exF s)) i = exF s (fldAt fs i) := by
  unfold fldAt
  rw [List.getElem?_map, List.getElem?_eq_getElem hi]
  rfl
theorem fldAt_ok {f s : Int} {fs : List Fld} (k : BatOk f s fs) {i : Int} (hi : i.toNat < fs.length) : FldOk f s (fldAt fs i) := by
  unfold fldAt
  rw [List.getElem?_eq_getElem hi]
  exact k.ok _ (List.getElem_mem _)
theorem ex_gain {f s : Int} {fs : List Fld} (k : BatOk f s fs) {ms ns : List Int} (h1 : PlanC f fs.length ms) (h2 : PlanC s fs.length ns) : gainV (fs.map (exF s)) ns ms = 0 - gainV fs ms ns := by
  unfold gainV
  rw [List.length_map]
  refine sum_neg _ _ _ fun i hi => ?_
  have e : fldAt (fs.map (exF s)) i = exF s (fldAt fs i) := by
    unfold fldAt
    rw [List.getElem?_map, List.getElem?_eq_getElem (show (i : Int).toNat < fs.length by omega)]
    rfl
  have hk : FldOk f s (fldAt fs i) := by
    unfold fldAt
    rw [List.getElem?_eq_getElem (show (i : Int).toNat < fs.length by omega)]
    exact k.ok _ (List.getElem_mem _)
  rw [e]
  exact ex_paid hk (plan_le h1 i) (plan_le h2 i)
/-! ### min of three -/
def rMin3 : List V → Hp → VK → Prop := fun xs H Q => ∃ i j k, xs = [.int i, .int j, .int k] ∧ Q (.int (if j < i then (if k < j then k else j) else (if k < i then k else i))) H
theorem call_min3I {X : Cx} (hc : X.calm = true) : CallR X (.builtin "min") rMin3 := by
  intro pins s σ H xs us Q I r h
  obtain ⟨i, j, k, rfl, q⟩ := h
  cases r with
  | cons r1 r =>
    cases r with
    | cons r2 r =>
      cases r with
      | cons r3 r =>
        cases r
        obtain ⟨t1, rfl⟩ := r1
        obtain ⟨t2, rfl⟩ := r2
        obtain ⟨t3, rfl⟩ := r3
        refine min_three_ints (I.ok.hd hc) fun h' tk kk => ⟨_, H, I.kept kk, ?_, q⟩
        split <;> split <;> exact ⟨_, rfl⟩
theorem i_min3 {i j k : Int} {H : Hp} {Q : VK} (q : Q (.int (if j < i then (if k < j then k else j) else (if k < i then k else i))) H) : rMin3 [.int i, .int j, .int k] H Q := ⟨i, j, k, rfl, q⟩
end Hf
/-! ## data whose lists are known by their places: marks -/
namespace Hf
open PySem PySem.Spec PyProof.Rows L2
def mkS : Str := PySem.Str.ofString "mark"
mutual
inductive Ow (H : Hp) : V → PyData → List Addr → Prop
  | non : Ow H .non .none []
  | bl (b : Bool) : Ow H (.bl b) (.bool b) []
  | int (i : Int) : Ow H (.int i) (.int i) []
  | str (x : Str) : Ow H (.str x) (.str x) []
  | lst {a : Addr} {xs : List V} {ds : List PyData} {S : List Addr} : H a = some (.lst xs) → OwAll H xs ds S → Ow H (.ref a) (.list ds) (a :: S)
  | tup {a : Addr} {xs : List V} {ds : List PyData} {S : List Addr} : H a = some (.tup xs) → OwAll H xs ds S → Ow H (.ref a) (.tuple ds) S
inductive OwAll (H : Hp) : List V → List PyData → List Addr → Prop
  | nil : OwAll H [] [] []
  | cons {v : V} {vs : List V} {d : PyData} {ds : List PyData} {S S' : List Addr} : Ow H v d S → OwAll H vs ds S' → OwAll H (v :: vs) (d :: ds) (S ++ S')
end
/-! every list with one thing more -/
mutual
def mk : PyData → PyData
  | .list ds => .list (mkA ds ++ [.str mkS])
  | .tuple ds => .tuple (mkA ds)
  | d => d
def mkA : List PyData → List PyData
  | [] => []
  | d :: ds => mk d :: mkA ds
end
/-! no text "mark" within -/
mutual
def noM : PyData → Bool
  | .list ds => noMA ds
  | .tuple ds => noMA ds
  | .str x => !(x == mkS)
  | _ => true
def noMA : List PyData → Bool
  | [] => true
  | d :: ds => noM d && noMA ds
end
section
variable {H H' : Hp} {v : V} {vs ws : List V} {d : PyData} {ds es : List PyData} {S S' T : List Addr}
mutual
theorem Ow.dq : ∀ {v : V} {d : PyData} {S : List Addr}, Ow H v d S → Dq H v d
  | _, _, _, .non => .non
  | _, _, _, .bl b => .bl b
  | _, _, _, .int i => .int i
  | _, _, _, .str x => .str x
  | _, _, _, .lst h q => .lst h (OwAll.dq q)
  | _, _, _, .tup h q => .tup h (OwAll.dq q)
theorem OwAll.dq : ∀ {vs : List V} {ds : List PyData} {S : List Addr}, OwAll H vs ds S → DqAll H vs ds
  | _, _, _, .nil => .nil
  | _, _, _, .cons h q => .cons (Ow.dq h) (OwAll.dq q)
end
/-- what is kept at all places but those of T -/
def Kp (T : List Addr) (H H' : Hp) : Prop := ∀ b o, b ∉ T → H b = some o → H' b = some o
theorem Kp.refl : Kp T H H := fun _ _ _ h => h
theorem Kp.same (s : Same H H') : Kp T H H' := fun b o _ h => s b o h
theorem Kp.trans {H2 : Hp} (x : Kp T H H') (y : Kp T H' H2) : Kp T H H2 := fun b o n h => y b o n (x b o n h)
theorem Kp.sub (x : Kp S H H') (h : ∀ b, b ∈ S → b ∈ T) : Kp T H H' := fun b o n e => x b o (fun z => n (h b z)) e
theorem Kp.upd {a : Addr} {o : HO} (ha : a ∈ T) (x : Kp T H H') : Kp T H (L2.upd H' a o) := fun b u n h => by
  rw [upd_ne (fun e => n (by rw [e]; exact ha))]
  exact x b u n h
mutual
/-- lists are not tuples: what changes the lists of T alone keeps the data whose lists are apart -/
theorem Ow.kp (hT : ∀ b xs, b ∈ T → H b ≠ some (.tup xs)) (k : Kp T H H') : ∀ {v : V} {d : PyData} {S : List Addr}, Ow H v d S → (∀ b, b ∈ S → b ∉ T) → Ow H' v d S
  | _, _, _, .non, _ => .non
  | _, _, _, .bl b, _ => .bl b
  | _, _, _, .int i, _ => .int i
  | _, _, _, .str x, _ => .str x
  | _, _, _, .lst h q, n => .lst (k _ _ (n _ List.mem_cons_self) h) (OwAll.kp hT k q fun b hb => n b (List.mem_cons_of_mem _ hb))
  | _, _, _, .tup h q, n => .tup (k _ _ (fun z => hT _ _ z h) h) (OwAll.kp hT k q n)
theorem OwAll.kp (hT : ∀ b xs, b ∈ T → H b ≠ some (.tup xs)) (k : Kp T H H') : ∀ {vs : List V} {ds : List PyData} {S : List Addr}, OwAll H vs ds S → (∀ b, b ∈ S → b ∉ T) → OwAll H' vs ds S
  | _, _, _, .nil, _ => .nil
  | _, _, _, .cons h q, n => .cons (Ow.kp hT k h fun b hb => n b (List.mem_append.mpr (.inl hb))) (OwAll.kp hT k q fun b hb => n b (List.mem_append.mpr (.inr hb)))
end
mutual
theorem Ow.lists : ∀ {v : V} {d : PyData} {S : List Addr}, Ow H v d S → ∀ b, b ∈ S → ∃ xs, H b = some (.lst xs)
  | _, _, _, .lst h q, b, hb => by
    rcases List.mem_cons.mp hb with e | e
    · subst e; exact ⟨_, h⟩
    · exact OwAll.lists q b e
  | _, _, _, .tup _ q, b, hb => OwAll.lists q b hb
theorem OwAll.lists : ∀ {vs : List V} {ds : List PyData} {S : List Addr}, OwAll H vs ds S → ∀ b, b ∈ S → ∃ xs, H b = some (.lst xs)
  | _, _, _, .cons h q, b, hb => by
    rcases List.mem_append.mp hb with e | e
    · exact Ow.lists h b e
    · exact OwAll.lists q b e
end
mutual
theorem Ow.same (s : Same H H') : ∀ {v : V} {d : PyData} {S : List Addr}, Ow H v d S → Ow H' v d S
  | _, _, _, .non => .non
  | _, _, _, .bl b => .bl b
  | _, _, _, .int i => .int i
  | _, _, _, .str x => .str x
  | _, _, _, .lst h q => .lst (s _ _ h) (OwAll.same s q)
  | _, _, _, .tup h q => .tup (s _ _ h) (OwAll.same s q)
theorem OwAll.same (s : Same H H') : ∀ {vs : List V} {ds : List PyData} {S : List Addr}, OwAll H vs ds S → OwAll H' vs ds S
  | _, _, _, .nil => .nil
  | _, _, _, .cons h q => .cons (Ow.same s h) (OwAll.same s q)
end
theorem OwAll.snoc : ∀ {vs : List V} {ds : List PyData} {S S' : List Addr} {w : V} {d : PyData}, OwAll H vs ds S → Ow H w d S' → OwAll H (vs ++ [w]) (ds ++ [d]) (S ++ S')
  | _, _, _, S', _, _, .nil, h => by
    have := OwAll.cons h .nil
    rw [List.append_nil] at this
    exact this
  | _, _, _, _, _, _, .cons h q, g => by
    rw [List.append_assoc]
    exact .cons h (OwAll.snoc q g)
theorem OwAll.len : ∀ {vs : List V} {ds : List PyData} {S : List Addr}, OwAll H vs ds S → vs.length = ds.length
  | _, _, _, .nil => rfl
  | _, _, _, .cons _ q => by rw [List.length_cons, List.length_cons, OwAll.len q]
/-- cut at a place -/
theorem OwAll.cut : ∀ {vs : List V} {ds : List PyData} {S : List Addr}, OwAll H vs ds S → ∀ {k : Nat} {w : V}, vs[k]? = some w →
    ∃ S1 S2 S3 d, ds[k]? = some d ∧ S = S1 ++ (S2 ++ S3) ∧ OwAll H (vs.take k) (ds.take k) S1 ∧ Ow H w d S2 ∧ OwAll H (vs.drop (k + 1)) (ds.drop (k + 1)) S3
  | _, _, _, .nil, k, w, h => by simp at h
  | _, _, _, .cons (S := S) (S' := S') (d := d) h q, 0, w, e => by
    rw [List.getElem?_cons_zero] at e
    cases e
    exact ⟨[], S, S', d, rfl, rfl, .nil, h, q⟩
  | _, _, _, .cons (S := S) (S' := S') h q, k + 1, w, e => by
    rw [List.getElem?_cons_succ] at e
    obtain ⟨S1, S2, S3, d, h1, h2, h3, h4, h5⟩ := OwAll.cut q e
    exact ⟨S ++ S1, S2, S3, d, by rw [List.getElem?_cons_succ]; exact h1, by rw [h2, List.append_assoc], .cons h h3, h4, h5⟩
theorem mkA_map : ∀ ds : List PyData, mkA ds = ds.map mk
  | [] => rfl
  | d :: ds => by rw [mkA, List.map_cons, mkA_map ds]
theorem noMA_mem : ∀ {ds : List PyData} {d : PyData}, noMA ds = true → d ∈ ds → noM d = true
  | e :: ds, d, h, hd => by
    rw [noMA, Bool.and_eq_true] at h
    rcases List.mem_cons.mp hd with z | z
    · rw [z]; exact h.1
    · exact noMA_mem h.2 z
/-- how many marks stand among data -/
def cntM (ds : List PyData) : Nat := (ds.filter fun d => match d with | .str x => x == mkS | _ => false).length
theorem cntM_mk : ∀ {ds : List PyData}, noMA ds = true → cntM (mkA ds) = 0
  | [], _ => rfl
  | d :: ds, h => by
    rw [noMA, Bool.and_eq_true] at h
    have ih := cntM_mk h.2
    unfold cntM at ih ⊢
    rw [mkA, List.filter_cons]
    have : (match mk d with | .str x => x == mkS | _ => false) = false := by
      have h1 := h.1
      cases d <;> simp [mk] <;> simp [noM] at h1
      exact h1
    rw [this]
    exact ih
end
/-! ### isinstance by two classes -/
theorem call_isiTK {X : Cx} (K : PySem.W.Frag) (e : X.K = K) : CallR X (.builtin "isinstance") (rIsiT K) := by subst e; exact call_isiT
theorem kit_two {K : PySem.W.Frag} {t c1 c2 : String} {b1 b2 : Bool} (h1 : kitB t c1 = some b1) (h2 : kitB t c2 = some b2) : PySem.W.kitAny K (.type t) [.type c1, .type c2] = some (b1 || b2) := by
  refine kitAny_cons (kit_ty h1) (fun e => ?_) (fun e => by rw [e]; rfl)
  rw [e, Bool.false_or]
  refine kitAny_cons (kit_ty h2) (fun e => ?_) (fun e => e)
  rw [e]
  rfl
theorem i_isiT2 {K : PySem.W.Frag} {H : Hp} {Q : VK} {x : V} {tp : Addr} {t c1 c2 : String} {b1 b2 : Bool} (hT : H tp = some (.tup [.ty c1, .ty c2])) (ty : TyX K H x (.type t)) (h1 : kitB t c1 = some b1) (h2 : kitB t c2 = some b2) (q : Q (.bl (b1 || b2)) H) : rIsiT K [x, .ref tp] H Q :=
  ⟨x, tp, _, _, _, _, rfl, hT, .cons (.ty _) (.cons (.ty _) .nil), ty, kit_two h1 h2, q⟩
/-! ### how often a text stands among data -/
def isS (y : Str) : PyData → Bool
  | .str z => z == y
  | _ => false
def rCntS (K : PySem.W.Frag) : V → List V → Hp → VK → Prop := fun x xs H Q => ∃ (p : Addr) (ys : List V) (y : Str) (ds : List PyData), x = .ref p ∧ xs = [.str y] ∧ SqL K H p ys ∧ DpAll K H ys ds ∧ PyData.canLayAll0 ds = true ∧ PyData.strOk y = true ∧ Q (.int (ds.countP (isS y) : Nat)) H
theorem one_cntS {X : Cx} {pins : List (Addr × Obj)} {s : Shared} {σ : L2.St} {H : Hp} (I : Inv X pins σ H s) {A : Around} (hu : A.units < cLine) {y : Str} {t : Tok} (hy : PyData.strOk y = true) {v : V} {d : PyData} {u : Value} (hd : Dp X.K H v d) (r : RelV v u) (hl : d.canLay0 = true) :
    SeqAt.EqAt A s u (.str y t) (eqU (.str y) u) ∧ eqU (.str y) u = isS y d := by
  have e : eqU (.str y) u = isS y d ∧ PyData.eqv d (.str y) = isS y d := by
    cases hd with
    | non => cases r; exact ⟨rfl, by simp [PyData.eqv, isS]⟩
    | bl b => cases r; exact ⟨rfl, by simp [PyData.eqv, isS]⟩
    | int i => obtain ⟨t, rfl⟩ := r; exact ⟨rfl, by simp [PyData.eqv, isS]⟩
    | str x => obtain ⟨t, rfl⟩ := r; exact ⟨rfl, by simp [PyData.eqv, isS]⟩
    | lst h q => cases r; exact ⟨rfl, by simp [PyData.eqv, isS]⟩
    | tup h q => cases r; exact ⟨rfl, by simp [PyData.eqv, isS]⟩
  obtain ⟨as, r1⟩ := Dp.reads I d v u hd r
  obtain ⟨bs, r2⟩ := Dp.reads I (.str y) (.str y) (.str y t) (.str y) ⟨t, rfl⟩
  refine ⟨?_, e.1⟩
  rw [e.1, ← e.2]
  exact SeqAt.eqAt_reads d (.str y) A s u (.str y t) as bs r1 r2 hl (by simpa [PyData.canLay0] using hy) (by simp [PyData.depth]; omega)
theorem all_cntS {X : Cx} {pins : List (Addr × Obj)} {s : Shared} {σ : L2.St} {H : Hp} (I : Inv X pins σ H s) {A : Around} (hu : A.units < cLine) {y : Str} {t : Tok} (hy : PyData.strOk y = true) : ∀ {ys : List V} {ds : List PyData} {us : List Value}, DpAll X.K H ys ds → Vals ys us → PyData.canLayAll0 ds = true →
    (∀ u ∈ us, SeqAt.EqAt A s u (.str y t) (eqU (.str y) u)) ∧ us.countP (eqU (.str y)) = ds.countP (isS y)
  | [], [], [], .nil, .nil, _ => ⟨nofun, rfl⟩
  | v :: ys, d :: ds, u :: us, .cons h q, .cons r rs, hl => by
    rw [PyData.canLayAll0, Bool.and_eq_true] at hl
    obtain ⟨h1, h2⟩ := one_cntS I hu (t := t) hy h r hl.1
    obtain ⟨h3, h4⟩ := all_cntS I hu (t := t) hy q rs hl.2
    refine ⟨fun u' hu' => ?_, by rw [List.countP_cons, List.countP_cons, h4, h2]⟩
    rcases List.mem_cons.mp hu' with e | e
    · rw [e]; exact h1
    · exact h3 u' e
theorem mt_lcountS {X : Cx} (hu : X.A.units + 64 < cLine) : MtR X "list.count" (rCntS X.K) := by
  intro pins s σ H x xs v us Q I rx rxs h
  obtain ⟨p, ys, y, ds, rfl, rfl, hs, hd', hl', hy, q⟩ := h
  cases rx
  obtain ⟨u, rfl, ru⟩ := rxs.one
  obtain ⟨t, rfl⟩ := ru
  obtain ⟨its, rv, ⟨⟨cls, dd, data, sl⟩, n, ho, hc, hdn, hd⟩, hlen⟩ := I.list hs
  simp only at hc hd
  subst hc hd
  obtain ⟨c1, c2⟩ := all_cntS (A := X.A.in1) I (by show X.A.units + 1 < cLine; omega) (t := t) hy hd' rv hl'
  refine call_meets PySem.F.slot_list_count ⟨_, ho, rfl⟩ PySem.F.entry_list_count (PySem.F.args_list_count_2 _ _)
    (SeqAt.list_countAt p its.toArray n dd sl (.str y t) (eqU (.str y))) ⟨ho, fun u' hu' => c1 u' (by simpa using hu'), ?_⟩
  refine ⟨.int _, H, I.tok _, ⟨s.toks, ?_⟩, q⟩
  show Value.int ((its.toArray.toList.countP (eqU (.str y)) : Nat) : Int) s.toks = Value.int _ s.toks
  rw [show its.toArray.toList = its from rfl, c2]
theorem mt_lcountSK {X : Cx} (K : PySem.W.Frag) (e : X.K = K) (hu : X.A.units + 64 < cLine) : MtR X "list.count" (rCntS K) := by subst e; exact mt_lcountS hu
theorem i_cntS {K : PySem.W.Frag} {H : Hp} {Q : VK} {p : Addr} {y : Str} {ds : List PyData} {n : Nat} (h : Dq H (.ref p) (.list ds)) (hl : PyData.canLayAll0 ds = true) (hy : PyData.strOk y = true) (e : ds.countP (isS y) = n) (q : Q (.int (n : Nat)) H) : rCntS K (.ref p) [.str y] H Q := by
  obtain ⟨a, xs, e1, h1, h2⟩ := h.list_inv
  cases e1
  subst e
  exact ⟨_, xs, y, ds, rfl, rfl, .of h1, h2.dp, hl, hy, q⟩
/-! ### walking what is a list or a tuple -/
def iSeq (K : PySem.W.Frag) (tl : TE) : TI := fun σ H R => tl σ H fun x H1 => ∃ a, x = .ref a ∧ (((∃ xs, SqL K H1 a xs) ∧ R (Itl K a) H1) ∨ ((∃ xs, SqT K H1 a xs) ∧ R (Itt K a) H1))
theorem pi_seq {X : Cx} {tg l : Expr} {tl : TE} (hl : PE X l tl) : PI X tg l (iSeq X.K tl) := by
  refine ⟨fun pins s σ H R I h => ?_⟩
  refine thn (hl.run pins s σ H _ I h) fun v s1 ⟨x, H1, I1, r1, q1⟩ => ?_
  obtain ⟨a, e, q1⟩ := q1
  subst e
  cases r1
  rcases q1 with ⟨⟨xs, hq⟩, q⟩ | ⟨⟨xs, hq⟩, q⟩
  · obtain ⟨its, rv, p, hz⟩ := I1.list hq
    refine wpAny_pyIter_list p.isList ?_
    refine ⟨s1.heap.objs.size, [s1.heap.objs.size], _, _, H1, rfl, I1.kept (t' := s1.toks) fun b o e => Heap.get?_push_of_some _ e, turn_list a _, ⟨_, Heap.get?_push_size _ rfl, rfl, rfl⟩, fun b hb => ?_, q⟩
    have e : b = s1.heap.objs.size := by simpa using hb
    subst e
    exact I1.fpOk (Nat.le_refl _) (I1.hok.fresh (Nat.le_refl _))
  · obtain ⟨its, rv, p, hz⟩ := I1.tuple hq
    refine wpAny_pyIter_tuple (show s1.heap.IsTuple a its.toArray from p) ?_
    refine ⟨s1.heap.objs.size, [s1.heap.objs.size], _, _, H1, rfl, I1.kept (t' := s1.toks) fun b o e => Heap.get?_push_of_some _ e, turn_tuple a _, ⟨_, Heap.get?_push_size _ rfl, rfl, rfl⟩, fun b hb => ?_, q⟩
    have e : b = s1.heap.objs.size := by simpa using hb
    subst e
    exact I1.fpOk (Nat.le_refl _) (I1.hok.fresh (Nat.le_refl _))
theorem pi_seqK {X : Cx} (K : PySem.W.Frag) (e : X.K = K) {tg l : Expr} {tl : TE} (hl : PE X l tl) : PI X tg l (iSeq K tl) := by subst e; exact pi_seq hl
theorem i_iseq {K : PySem.W.Frag} {tl : TE} {σ : L2.St} {H : Hp} {R : It → Hp → Prop} (h : tl σ H fun x H1 => ∃ a, x = .ref a ∧ (((∃ xs, SqL K H1 a xs) ∧ R (Itl K a) H1) ∨ ((∃ xs, SqT K H1 a xs) ∧ R (Itt K a) H1))) : iSeq K tl σ H R := h
theorem i_iseqL {K : PySem.W.Frag} {H : Hp} {p : Addr} {xs : List V} {A : Addr → Prop} {B : Addr → Prop} (h : SqL K H p xs) (q : A p) : ∃ a, V.ref p = .ref a ∧ (((∃ xs, SqL K H a xs) ∧ A a) ∨ ((∃ xs, SqT K H a xs) ∧ B a)) := ⟨p, rfl, .inl ⟨⟨xs, h⟩, q⟩⟩
theorem i_iseqT {K : PySem.W.Frag} {H : Hp} {p : Addr} {xs : List V} {A : Addr → Prop} {B : Addr → Prop} (h : SqT K H p xs) (q : B p) : ∃ a, V.ref p = .ref a ∧ (((∃ xs, SqL K H a xs) ∧ A a) ∨ ((∃ xs, SqT K H a xs) ∧ B a)) := ⟨p, rfl, .inr ⟨⟨xs, h⟩, q⟩⟩
/-! ### the marks, put and looked for -/
theorem OwAll.drop_cons {H : Hp} {xs : List V} {ds : List PyData} {S : List Addr} {i : Nat} {x : V} (h : OwAll H (xs.drop i) (ds.drop i) S) (e : xs[i]? = some x) :
    ∃ d S1 S2, ds[i]? = some d ∧ S = S1 ++ S2 ∧ Ow H x d S1 ∧ OwAll H (xs.drop (i + 1)) (ds.drop (i + 1)) S2 := by
  rw [drop_get e] at h
  cases hd : ds.drop i with
  | nil => rw [hd] at h; cases h
  | cons d r =>
    rw [hd] at h
    have hi : ds[i]? = some d := by
      have := List.getElem?_drop (xs := ds) (i := i) (j := 0)
      rw [hd] at this
      simpa using this.symm
    rw [drop_get hi] at hd
    cases hd
    cases h with
    | cons a b => exact ⟨_, _, _, hi, rfl, a, b⟩
theorem cnt_mk {ds : List PyData} (h : noMA ds = true) : (mkA ds ++ [PyData.str mkS]).countP (isS mkS) = 1 := by
  have e : (mkA ds).countP (isS mkS) = 0 := by
    rw [List.countP_eq_zero]
    intro d hd
    rw [mkA_map] at hd
    obtain ⟨d', hd', rfl⟩ := List.mem_map.mp hd
    have := noMA_mem h hd'
    cases d' <;> simp [mk, isS]
    simp [noM] at this
    exact this
  rw [List.countP_append, e]
  simp [isS, mkS]
mutual
theorem lay_mk : ∀ {d : PyData}, d.canLay0 = true → (mk d).canLay0 = true
  | .none, h => by simpa [mk] using h
  | .bool _, h => by simpa [mk] using h
  | .int _, h => by simpa [mk] using h
  | .str _, h => by simpa [mk] using h
  | .list ds, h => by
    rw [PyData.canLay0] at h
    rw [mk, PyData.canLay0]
    refine lay_all fun d hd => ?_
    rcases List.mem_append.mp hd with e | e
    · exact lay_mkA h d e
    · rw [List.mem_singleton.mp e, PyData.canLay0]; decide +kernel
  | .tuple ds, h => by
    rw [PyData.canLay0] at h
    rw [mk, PyData.canLay0]
    exact lay_all fun d hd => lay_mkA h d hd
  | .dict _, h => by simp [PyData.canLay0] at h
theorem lay_mkA : ∀ {ds : List PyData}, PyData.canLayAll0 ds = true → ∀ d ∈ mkA ds, d.canLay0 = true
  | [], _, _, hd => by cases hd
  | e :: ds, h, d, hd => by
    rw [PyData.canLayAll0, Bool.and_eq_true] at h
    rw [mkA] at hd
    rcases List.mem_cons.mp hd with z | z
    · rw [z]; exact lay_mk h.1
    · exact lay_mkA h.2 d z
end
/-! ### comprehensions of owned things -/
/-- owned, all of it new to H -/
structure OwN (H H' : Hp) (v : V) (d : PyData) (S : List Addr) : Prop where
  ow : Ow H' v d S
  nd : S.Nodup
  nw : ∀ b, b ∈ S → H b = none
theorem OwN.same {H H' H2 : Hp} {v : V} {d : PyData} {S : List Addr} (h : OwN H H' v d S) (s : Same H' H2) : OwN H H2 v d S := ⟨h.ow.same s, h.nd, h.nw⟩
theorem OwN.back {H0 H H' : Hp} {v : V} {d : PyData} {S : List Addr} (h : OwN H H' v d S) (s : Same H0 H) : OwN H0 H' v d S := ⟨h.ow, h.nd, fun b hb => s.free (h.nw b hb)⟩
theorem OwN.dq {H H' : Hp} {v : V} {d : PyData} {S : List Addr} (h : OwN H H' v d S) : Dq H' v d := h.ow.dq
section
variable {σ : L2.St} {H H1 : Hp} {Q : VK} {K : PySem.W.Frag} {D a l : Addr} {wi : TI} {g : TG} {tt : TT} {te : TE} {vs : List Nat} {lo : Int} {n : Nat} {xs : List V} {Qd : Hp → Prop}
theorem lcL_own (f : Nat → PyData) (nD : H1 D = none) (hn : xs.length ≤ 1000000) (hx : SqL K H1 l xs)
    (hs : ∀ (i : Nat) (x : V) H (Z : VK) (Y : Hp → Prop), xs[i]? = some x → Same H1 H → (∀ v S H4, OwN H H4 v (f i) S → Same H H4 → Z v H4) → LcTurn g tt te vs σ x H Z Y)
    (hd : ∀ S H, OwN H1 H (.ref D) (.list ((List.range xs.length).map f)) S → Same H1 H → Qd H) :
    ∃ W : Nat → Nat → Hp → Prop, (∃ m, W 0 m (upd H1 D (.lst []))) ∧ ∀ i m H, W i m H →
      ((Itl K l).stop i H ∧ Qd H) ∨ ((Itl K l).go i H ∧ ∃ Nx : Hp → Prop, (∀ H', Nx H' → ∃ m', m' < m ∧ W (i + 1) m' H') ∧ ∀ x H', (Itl K l).yld i H x H' → g x (wipe σ vs) H' fun σ2 H2 => wipe σ2 vs = wipe σ vs ∧ tt σ2 H2 fun b H3 =>
        if b = true then te σ2 H3 fun y H4 => ∃ acc, H4 D = some (.lst acc) ∧ acc.length < sizeLine ∧ Nx (upd H4 D (.lst (acc ++ [y]))) else Nx H3) := by
  refine lcL (xs := xs) (fun i acc H => acc.length = i ∧ Same H1 H ∧ ∃ S, OwAll H acc ((List.range i).map f) S ∧ S.Nodup ∧ D ∉ S ∧ ∀ b, b ∈ S → H1 b = none) nD ⟨rfl, Same.new nD, [], .nil, List.nodup_nil, by simp, nofun⟩ (fun i acc H _ q _ => q.2.1.seq hx) ?_ ?_
  · rintro i x acc H Z Y hi ⟨h1, h2, S, h3, h4, h5, h6⟩ hD hz _
    have hi' : i < xs.length := (List.getElem?_eq_some_iff.mp hi).1
    refine hs i x H Z Y hi h2 fun v S' H4 k1 k2 => ?_
    have hDS : D ∉ S' := fun z => by
      have := k1.nw D z
      rw [hD] at this
      cases this
    have kp : Kp [D] H4 (upd H4 D (.lst (acc ++ [v]))) := Kp.upd (by simp) Kp.refl
    have ht : ∀ b ys, b ∈ [D] → H4 b ≠ some (.tup ys) := fun b ys hb e => by
      rw [List.mem_singleton.mp hb, k2 _ _ hD] at e
      cases e
    have hd1 : ∀ b, b ∈ S → b ∉ [D] := fun b hb hb' => h5 (by rw [← List.mem_singleton.mp hb']; exact hb)
    have hd2 : ∀ b, b ∈ S' → b ∉ [D] := fun b hb hb' => hDS (by rw [← List.mem_singleton.mp hb']; exact hb)
    refine hz _ _ (k2 _ _ hD) (sz4' (by omega)) ⟨by rw [List.length_append, h1]; rfl, Same.mut (h2.trans k2) nD, S ++ S', ?_, ?_, ?_, ?_⟩
    · rw [List.range_succ, List.map_append]
      exact OwAll.snoc (OwAll.kp ht kp (h3.same k2) hd1) (Ow.kp ht kp k1.ow hd2)
    · rw [List.nodup_append]
      refine ⟨h4, k1.nd, fun b hb c hc e => ?_⟩
      subst e
      obtain ⟨ys, e'⟩ := h3.lists b hb
      rw [k1.nw b hc] at e'
      cases e'
    · intro z
      rcases List.mem_append.mp z with z | z
      · exact h5 z
      · exact hDS z
    · intro b hb
      rcases List.mem_append.mp hb with z | z
      · exact h6 b z
      · exact h2.free (k1.nw b z)
  · rintro acc H ⟨h1, h2, S, h3, h4, h5, h6⟩ hD
    exact hd (D :: S) H ⟨.lst hD h3, List.nodup_cons.mpr ⟨h5, h4⟩, fun b hb => by
      rcases List.mem_cons.mp hb with z | z
      · rw [z]; exact nD
      · exact h6 b z⟩ h2
end
/-- a tuple of two owned things -/
theorem OwN.pair {H H1 H2 : Hp} {v w : V} {d e : PyData} {S T : List Addr} {q : Addr} (h1 : OwN H H1 v d S) (h2 : OwN H1 H2 w e T) (s0 : Same H H1) (s : Same H1 H2) (hq : H2 q = none) : OwN H (upd H2 q (.tup [v, w])) (.ref q) (.tuple [d, e]) (S ++ T) := by
  have sn : Same H2 (upd H2 q (.tup [v, w])) := Same.new hq
  refine ⟨?_, ?_, ?_⟩
  · have := Ow.tup upd_same (OwAll.cons ((h1.ow.same s).same sn) (OwAll.cons (h2.ow.same sn) .nil))
    rw [List.append_nil] at this
    exact this
  · rw [List.nodup_append]
    refine ⟨h1.nd, h2.nd, fun b hb c hc e => ?_⟩
    subst e
    obtain ⟨ys, e'⟩ := h1.ow.lists b hb
    rw [h2.nw b hc] at e'
    cases e'
  · intro b hb
    rcases List.mem_append.mp hb with z | z
    · exact h1.nw b z
    · exact s0.free (h2.nw b z)
theorem own_ints {H : Hp} : ∀ ms : List Int, OwAll H (ms.map V.int) (ms.map PyData.int) []
  | [] => .nil
  | m :: ms => .cons (S := []) (S' := []) (.int m) (own_ints ms)
theorem BatOk.reverse {f s : Int} {fs : List Fld} (k : BatOk f s fs) : BatOk f s fs.reverse := ⟨k.hf, k.hs, by rw [List.length_reverse]; exact k.ne, fun x hx => k.ok x (List.mem_reverse.mp hx)⟩
theorem ow_self {H : Hp} {a : Addr} {ds : List PyData} {S : List Addr} (h : Ow H (.ref a) (.list ds) S) : a ∈ S := by
  cases h with
  | lst _ _ => exact List.mem_cons_self
end Hf
/-! ## isinstance of a caught exception by a tuple of classes -/
namespace Hf
open PySem PySem.Spec PyProof.Rows L2
def rIsXT (K : PySem.W.Frag) : List V → Hp → VK → Prop := fun xs H Q =>
  (∃ (a D : Addr) (d : Option Addr) (tp : Addr) (cs : List V) (us : List Value) (b : Bool), xs = [.ref a, .ref tp] ∧ H a = some (exHO a (.ref D) d) ∧ (∀ dd, d = some dd → ∃ fs, H dd = some (.xd fs)) ∧ ExcC K D ∧ H tp = some (.tup cs) ∧ Paired ClsV cs us ∧ PySem.W.kitAny K (.ref D) us = some b ∧ Q (.bl b) H) ∨ rIsiT K xs H Q
theorem call_isXT {X : Cx} : CallR X (.builtin "isinstance") (rIsXT X.K) := by
  intro pins s σ H xs us Q I r h
  rcases h with ⟨a, D, d, tp, cs, ws, b, rfl, ha, hdd, C, hT, hcs, e, q⟩ | h
  · cases r with
    | cons rx rr =>
      cases rr with
      | cons rt rr =>
        cases rr
        cases rx
        cases rt
        obtain ⟨oe, vs, hget, hz, hv⟩ := exHO_at I.hok ha
        obtain ⟨od, J⟩ : ∃ od, PySem.W.InstAt s.heap a oe D od := by
          cases d with
          | none =>
            obtain ⟨oc, od, oda, osl⟩ := oe
            obtain ⟨h1, h2⟩ := hz
            dsimp only at h1 h2 hv
            subst h1 h2 hv
            exact ⟨none, hget, rfl, rfl, trivial⟩
          | some dd =>
            obtain ⟨fs, hfs⟩ := hdd dd rfl
            have x : ObjOk X.prog X.w H s.heap dd (.xd fs) := I.hok dd _ hfs
            obtain ⟨mA, ⟨o, es, ep, ho, _⟩, _⟩ := x
            obtain ⟨oc, od, oda, osl⟩ := oe
            obtain ⟨h1, h2⟩ := hz
            dsimp only at h1 h2 hv
            subst h1 h2 hv
            exact ⟨some o, hget, rfl, rfl, ho⟩
        have hcl : (PySem.W.clsIn X.K D).isSome = true := by
          obtain ⟨cd, hc, _⟩ := PySem.W.any_some C.hd
          rw [hc]
          rfl
        obtain ⟨_, its, rv, o, h1, h2, n, h3⟩ := (show ObjOk X.prog X.w H s.heap tp (.tup cs) from I.hok tp _ hT)
        have e3 := ClsV.all hcs rv
        subst e3
        obtain ⟨oc, od', dt, sl⟩ := o
        simp only at h2 h3
        subst h2 h3
        exact PySem.W.kia_tup (PySem.W.kitx_exc hcl C.hg C.hk C.hs C.ha C.hn C.ht C.hm) I.kIn J h1 e (fun z => nomatch z) fun tk => ⟨.bl b, H, I.tok tk, rfl, q⟩
  · exact call_isiT pins s σ H xs us Q I r h
theorem call_isXTK {X : Cx} (K : PySem.W.Frag) (e : X.K = K) : CallR X (.builtin "isinstance") (rIsXT K) := by subst e; exact call_isXT
/-- none of these classes -/
def KitN (K : PySem.W.Frag) (D : Addr) (cs : List V) : Prop := ∃ us, Paired ClsV cs us ∧ PySem.W.kitAny K (.ref D) us = some false
theorem KitN.nil {K : PySem.W.Frag} {D : Addr} : KitN K D [] := ⟨[], .nil, rfl⟩
theorem KitN.no {K : PySem.W.Frag} {D C : Addr} {cs : List V} (h : PySem.W.kitOne K (.ref D) (.ref C) = some false) (t : KitN K D cs) : KitN K D (.ref C :: cs) := by
  obtain ⟨us, h1, h2⟩ := t
  exact ⟨.ref C :: us, .cons (.own C) h1, kitAny_cons h (fun _ => h2) (fun z => nomatch z)⟩
/-- one of these classes -/
def KitY (K : PySem.W.Frag) (D : Addr) (cs : List V) : Prop := ∃ us, Paired ClsV cs us ∧ PySem.W.kitAny K (.ref D) us = some true
def KitR (cs : List V) : Prop := ∃ us, Paired ClsV cs us
theorem KitR.nil : KitR [] := ⟨[], .nil⟩
theorem KitR.cons {C : Addr} {cs : List V} (t : KitR cs) : KitR (.ref C :: cs) := by
  obtain ⟨us, h⟩ := t
  exact ⟨.ref C :: us, .cons (.own C) h⟩
theorem KitY.here {K : PySem.W.Frag} {D C : Addr} {cs : List V} (h : PySem.W.kitOne K (.ref D) (.ref C) = some true) (t : KitR cs) : KitY K D (.ref C :: cs) := by
  obtain ⟨us, h1⟩ := t
  exact ⟨.ref C :: us, .cons (.own C) h1, by unfold PySem.W.kitAny; rw [h]⟩
theorem KitY.there {K : PySem.W.Frag} {D C : Addr} {cs : List V} (h : PySem.W.kitOne K (.ref D) (.ref C) = some false) (t : KitY K D cs) : KitY K D (.ref C :: cs) := by
  obtain ⟨us, h1, h2⟩ := t
  exact ⟨.ref C :: us, .cons (.own C) h1, kitAny_cons h (fun _ => h2) (fun z => nomatch z)⟩
section
variable {K : PySem.W.Frag} {H : Hp} {Q : VK} {a D tp dd : Addr} {cs : List V}
theorem i_isXY (h : H a = some (exHO a (.ref D) none)) (hT : H tp = some (.tup cs)) (e : ExcC K D) (k : KitY K D cs) (q : Q (.bl true) H) : rIsXT K [.ref a, .ref tp] H Q := by
  obtain ⟨us, h1, h2⟩ := k
  exact .inl ⟨a, D, none, tp, cs, us, true, rfl, h, fun _ z => (nomatch z), e, hT, h1, h2, q⟩
theorem i_isXN (h : H a = some (exHO a (.ref D) none)) (hT : H tp = some (.tup cs)) (e : ExcC K D) (k : KitN K D cs) (q : Q (.bl false) H) : rIsXT K [.ref a, .ref tp] H Q := by
  obtain ⟨us, h1, h2⟩ := k
  exact .inl ⟨a, D, none, tp, cs, us, false, rfl, h, fun _ z => (nomatch z), e, hT, h1, h2, q⟩
theorem i_isXNd {fs : List (Str × V)} (h : H a = some (exHO a (.ref D) (some dd))) (hd : H dd = some (.xd fs)) (hT : H tp = some (.tup cs)) (e : ExcC K D) (k : KitN K D cs) (q : Q (.bl false) H) : rIsXT K [.ref a, .ref tp] H Q := by
  obtain ⟨us, h1, h2⟩ := k
  exact .inl ⟨a, D, some dd, tp, cs, us, false, rfl, h, fun x z => by cases z; exact ⟨fs, hd⟩, e, hT, h1, h2, q⟩
theorem i_isXT2 {x : V} {t c1 c2 : String} {b1 b2 : Bool} (hT : H tp = some (.tup [.ty c1, .ty c2])) (ty : TyX K H x (.type t)) (h1 : kitB t c1 = some b1) (h2 : kitB t c2 = some b2) (q : Q (.bl (b1 || b2)) H) : rIsXT K [x, .ref tp] H Q := .inr (i_isiT2 hT ty h1 h2 q)
end
end Hf
/-! ## exceptions with an __init__ of their own, which calls that of a base of the program -/
namespace Hf
open PySem PySem.Spec PyProof.Rows L2
/-- Base.__init__(self, ..), Base a class of the program without one of its own -/
theorem pe_hinit {X : L2.Cx} {B : Addr} {mc : Value} {x : Str} {e : Expr} {es : List Expr} {ta : TA} {p1 p2 pos : Pos} {pl : Sem Bool} (r : ClX.CRead X.K B mc) (k : PySem.W.findCls X.K (.ref B) mc "__init__" = some (.val (.builtin "ValueError.__init__"))) (hg : Gl X x) (hm : X.mg x = some (.ref B)) (ha : PA X (e :: es) ta)
    (hd : (x == ("__debug__" : Str)) = false := by decide)
    (hc : eval (.Call (.Attribute (.Name x p1) "__init__" p2) (e :: es) [] pos) X.env = (do
      let ov ← eval (.Name x p1) X.env
      standAt p2.atName
      let (f, first) ← holding [ov] (getMethod ov "__init__" pl)
      callWith pos f first (backTo pos (starEach (e :: es) X.env)) (backToKw pos (keywordEach [] X.env))) := by rfl)
    (he : starEach (e :: es) X.env = (false, eval e X.env) :: starEach es X.env := by rfl) (hpl : (backTo pos (starEach es X.env)).any (·.1) = false := by rfl) :
    PE X (.Call (.Attribute (.Name x p1) "__init__" p2) (e :: es) [] pos) (tVeI X.K ta) := by
  refine ⟨fun pins s σ H Q I h => ?_⟩
  refine PySem.W.methodCall_KW (ld_glob I hg hm ?_ hd) hc
  refine PySem.W.method_cls I.kIn r.ga (PySem.W.cls_value I.kIn r.rd k (by decide +kernel) ?_)
  show wpAny _ _ (callWith pos (Value.builtin "ValueError.__init__") [] (backTo pos (starEach (e :: es) X.env)) []) _ _ _
  refine PyProof.Rows.callWith_method1 (thn (ha.run pos pins _ σ H _ (I.tok _) h) fun us s1 ⟨vs, H1, I1, r1, a, C, ws, ev, hl, T, ea, q⟩ => ?_) he hpl
  subst ev
  cases r1 with
  | @cons _ u0 _ ur ra rw' =>
    obtain rfl : u0 = Value.ref a := ra
    have hlen : ur.length ≤ sizeLine := by
      rw [← Paired.length rw', sizeLine_eq]
      omega
    exact oinit_ok T I1 ea hlen fun s' J => ⟨.non, H1, J, rfl, q⟩
section
variable {σ : L2.St} {H : Hp} {Q : VK} {K : PySem.W.Frag} {a C : Addr} {ws vs dvs : List V} {ta : TA} {to te : TE} {f : Str} {y : V} {nx bk ct : L2.St → Hp → Prop} {rt : VK}
def VeR (K : PySem.W.Frag) (vs : List V) (H : Hp) (Q : VK) : Prop := ∃ (a C : Addr) (ws : List V), vs = .ref a :: ws ∧ ws.length ≤ 1000 ∧ OexC K C ∧ H a = some (exo a C none) ∧ Q .non H
theorem i_vei (h : ta σ H fun vs H1 => VeR K vs H1 Q) : tVeI K ta σ H Q := h
theorem i_ver (h : H a = some (exo a C none)) (T : OexC K C) (hl : ws.length ≤ 1000) (q : Q .non H) : VeR K (.ref a :: ws) H Q := ⟨a, C, ws, rfl, hl, T, h, q⟩
def OsR (K : PySem.W.Frag) (f : Str) (y x : V) (H : Hp) (Z : Hp → Prop) : Prop := ∃ a C : Addr, x = V.ref a ∧ OexC K C ∧ PySem.W.findIn K (.ref C) f = some none ∧
  ((H a = some (exo a C none) ∧ ∀ dx, H dx = none → dx ≠ a → Z (upd (upd H dx (exd dx [(f, y)])) a (exo a C (some dx)))) ∨
    ∃ (dx : Addr) (fs : List (Str × V)), H a = some (exo a C (some dx)) ∧ H dx = some (exd dx fs) ∧ fs.length ≤ 900 ∧ Z (upd H dx (exd dx ((f, y) :: fs))))
theorem i_ost (h : te σ H fun y H1 => to σ H1 fun x H2 => OsR K f y x H2 (nx σ)) : tOst K f to te ⟨nx, rt, bk, ct⟩ σ H := h
theorem i_osr {Z : Hp → Prop} (h : H a = some (exo a C none)) (T : OexC K C) (n : PySem.W.findIn K (.ref C) f = some none) (q : ∀ dx, H dx = none → dx ≠ a → Z (upd (upd H dx (exd dx [(f, y)])) a (exo a C (some dx)))) : OsR K f y (.ref a) H Z := ⟨a, C, rfl, T, n, .inl ⟨h, q⟩⟩
end
end Hf
/-! ### raise C(y), C's __init__ noting one field -/
namespace Hf
open PySem PySem.Spec PyProof.Rows L2
section
variable {σ : L2.St} {H : Hp} {Q : VK} {K : PySem.W.Frag} {C : Addr} {f : Str} {y : V} {sp : Sp}
/-- what such an __init__ promises -/
def IniSp (sp : Sp) (C : Addr) (f : Str) (y : V) : Prop := ∀ (a : Addr) (H : Hp) (Q : VK) (E : XK), H a = some (exo a C none) → (∀ dx, H dx = none → dx ≠ a → Q .non (upd (upd H dx (exd dx [(f, y)])) a (exo a C (some dx)))) → sp [.ref a, y] H Q E
theorem i_mko {dvs : List V} {ta : TA} {Z : XK} (h : ta σ H fun vs H1 => vs.length ≤ 1000 ∧ ∀ a, H1 a = none → sp (.ref a :: (vs ++ dvs)) (upd H1 a (exo a C none))
  (fun v H2 => v = .non ∧ ∃ (d : Addr) (fs : List (Str × V)), H2 a = some (exo a C (some d)) ∧ H2 d = some (exd d fs) ∧ H1 d = none ∧ Z (.ref C) (some d) (upd (del H2 a) d (.xd fs))) (fun _ _ _ => False)) : tMkO C sp dvs ta σ H Z := h
theorem i_mko1 {Z : XK} (s : IniSp sp C f y) (q : ∀ d H', H d = none → H' d = some (.xd [(f, y)]) → Same H H' → Z (.ref C) (some d) H') : ([y] : List V).length ≤ 1000 ∧ ∀ a, H a = none → sp (.ref a :: ([y] ++ [])) (upd H a (exo a C none))
  (fun v H2 => v = .non ∧ ∃ (d : Addr) (fs : List (Str × V)), H2 a = some (exo a C (some d)) ∧ H2 d = some (exd d fs) ∧ H d = none ∧ Z (.ref C) (some d) (upd (del H2 a) d (.xd fs))) (fun _ _ _ => False) := by
  refine ⟨by rw [List.length_singleton]; decide, fun a ha => s a _ _ _ upd_same fun dx h1 h2 => ⟨rfl, dx, [(f, y)], upd_same, ?_, ?_, ?_⟩⟩
  · rw [upd_ne h2, upd_same]
  · rw [upd_ne h2] at h1
    exact h1
  · rw [upd_ne h2] at h1
    refine q dx _ h1 upd_same fun b o e => ?_
    have n1 : b ≠ a := ne_of_none e ha
    have n2 : b ≠ dx := ne_of_none e h1
    rw [upd_ne n2, del_ne n1, upd_ne n1, upd_ne n2, upd_ne n1]
    exact e
/-! ### caught.field behind the suite -/
def tXfH (K : PySem.W.Frag) (f : Str) (te : TE) : TE := fun σ H Q => te σ H fun x H1 => ∃ (a C dd : Addr) (fs : List (Str × V)) (v : V), x = .ref a ∧ H1 a = some (exHO a (.ref C) (some dd)) ∧ H1 dd = some (.xd fs) ∧ ExcC K C ∧ PySem.W.findIn K (.ref C) f = some none ∧ fs.lookup f = some v ∧ Q v H1
theorem pe_xfH {X : Cx} (K : PySem.W.Frag) (eK : X.K = K) {e : Expr} {te : TE} {pos : Pos} {n : Str} (he : PE X e te) (hb : attributeBase e n X.env (eval e X.env) = eval e X.env := by rfl) : PE X (.Attribute e n pos) (tXfH K n te) := by
  subst eK
  refine ⟨fun pins s σ H Q I h => ?_⟩
  refine attr_of hb (thn (he.run pins s σ H _ I h) fun u s1 hh => ?_)
  obtain ⟨x, H1, I1, rx, a, C, dd, fs, v, ex, ha, hdd, T, hno, l, q⟩ := hh
  subst ex
  obtain rfl : u = Value.ref a := rx
  obtain ⟨oe, vs, hget, hz, hd⟩ := exHO_at I1.hok ha
  have hx : ObjOk X.prog X.w H1 s1.heap dd (.xd fs) := I1.hok dd _ hdd
  obtain ⟨mA, hns, hr⟩ := hx
  obtain ⟨od, ho, hl⟩ := lookIn_ns hns
  obtain ⟨u, hu, ru⟩ := RelO.some_of (v := v) (o := mA n) (by rw [← l]; exact hr n)
  have J : PySem.W.InstAt s1.heap a oe C (some od) := ⟨hget, hz.1, by unfold PySem.W.notCls; rw [hd] <;> rfl, by rw [hz.2]; exact ho⟩
  exact HandSPX.exc_get I1.kIn J T.hg T.hk T.hs (PySem.W.findObj_own T.hd hno rfl (by rw [hl, hu])) (handed_of ru) ⟨v, H1, I1.tok _, ru, q⟩
def XfR (K : PySem.W.Frag) (f : Str) (x : V) (H1 : Hp) (Q : VK) : Prop := ∃ (a C dd : Addr) (fs : List (Str × V)) (v : V), x = .ref a ∧ H1 a = some (exHO a (.ref C) (some dd)) ∧ H1 dd = some (.xd fs) ∧ ExcC K C ∧ PySem.W.findIn K (.ref C) f = some none ∧ fs.lookup f = some v ∧ Q v H1
theorem i_xfH {te : TE} (h : te σ H fun x H1 => XfR K f x H1 Q) : tXfH K f te σ H Q := h
theorem i_xfR {a dd : Addr} {v : V} (h : H a = some (exHO a (.ref C) (some dd))) (h1 : H dd = some (.xd [(f, v)])) (T : ExcC K C) (n : PySem.W.findIn K (.ref C) f = some none) (q : Q v H) : XfR K f (.ref a) H Q :=
  ⟨a, C, dd, _, v, rfl, h, h1, T, n, by simp [List.lookup], q⟩
end
end Hf
/-! ## what is looked at: any data -/
namespace Hf
open PySem PySem.Spec PyProof.Rows L2
def isNumD : PyData → Bool
  | .int _ => true
  | _ => false
def isLstD : PyData → Bool
  | .list _ => true
  | _ => false
def isTupD : PyData → Bool
  | .tuple _ => true
  | _ => false
def areNumsD (n : Int) : PyData → Bool
  | .list ds => decide ((ds.length : Int) = n) && ds.all isNumD
  | _ => false
def isRuleD : List PyData → Bool
  | [.int a, .int _] => decide (1 ≤ a)
  | _ => false
def isMoreD : List PyData → Bool
  | [.int a, .int b] => decide (1 ≤ a) && (decide (0 - a ≤ b) && decide (b ≤ a))
  | _ => false
def isRowsD (f s : Int) : List PyData → Bool
  | [.list rs] => decide ((rs.length : Int) = f + 1) && rs.all (areNumsD (s + 1))
  | _ => false
/-- a field of the first word w and what stands behind it -/
def isFieldD (f s : Int) (w : Str) (ds : List PyData) : Bool :=
  if w = PySem.Str.ofString "more" then isMoreD ds else if w = PySem.Str.ofString "lead" then isRuleD ds else if w = PySem.Str.ofString "table" then isRowsD f s ds else false
def isFldT (f s : Int) : PyData → Bool
  | .tuple (.str w :: r) => isFieldD f s w r
  | _ => false
/-- which field is the first that is none -/
def badB (f s : Int) (ds : List PyData) : Option Int :=
  if f < 0 ∨ s < 0 ∨ 10 < f ∨ 10 < s ∨ ds.length < 1 ∨ 5 < ds.length then some (-1) else Option.map Int.ofNat (ds.findIdx? fun d => !isFldT f s d)
/-- what may stand in the place of a field -/
def FldIn (d : PyData) : Prop := ∃ w r, d = .tuple (.str w :: r) ∧ wid (.tuple r) ≤ 1000
def batT (f s : Int) (ds : List PyData) : PyData := .tuple [.int f, .int s, .list ds]
theorem all_num : ∀ ms : List Int, (ms.map PyData.int).all isNumD = true
  | [] => rfl
  | m :: ms => by
    rw [List.map_cons, List.all_cons, all_num ms]
    rfl
theorem nums_plan (ms : List Int) (n : Int) : areNumsD n (planD ms) = decide ((ms.length : Int) = n) := by
  rw [planD, areNumsD, List.length_map, all_num, Bool.and_true]
theorem str_ne1 : ¬ (PySem.Str.ofString "lead" = PySem.Str.ofString "more") := by decide +kernel
theorem str_ne2 : ¬ (PySem.Str.ofString "table" = PySem.Str.ofString "more") := by decide +kernel
theorem str_ne3 : ¬ (PySem.Str.ofString "table" = PySem.Str.ofString "lead") := by decide +kernel
theorem fld_ok {f s : Int} {fl : Fld} : isFldT f s (fldD fl) = true ↔ FldOk f s fl := by
  cases fl with
  | more w t => simp [fldD, isFldT, isFieldD, isMoreD, FldOk]
  | lead w t => simp [fldD, isFldT, isFieldD, isRuleD, FldOk, str_ne1]
  | tab rows =>
    simp only [fldD, isFldT, isFieldD, isRowsD, FldOk, if_neg str_ne2, if_neg str_ne3, if_true, List.length_map, Bool.and_eq_true, decide_eq_true_eq, List.all_map, List.all_eq_true, Function.comp, nums_plan]
theorem fld_in {f s : Int} {fl : Fld} (hf : f ≤ 10) (hs : s ≤ 10) (k : FldOk f s fl) : FldIn (fldD fl) := by
  have w := wid_fld hf hs k
  cases fl with
  | more w t => exact ⟨_, _, rfl, by simp [wid, widA]⟩
  | lead w t => exact ⟨_, _, rfl, by simp [wid, widA]⟩
  | tab rows =>
    refine ⟨_, _, rfl, ?_⟩
    simp only [fldD, wid, widA, List.length_cons, List.length_nil] at w ⊢
    omega
theorem bad_none {f s : Int} {ds : List PyData} : badB f s ds = none ↔ (0 ≤ f ∧ f ≤ 10) ∧ (0 ≤ s ∧ s ≤ 10) ∧ (1 ≤ ds.length ∧ ds.length ≤ 5) ∧ ∀ d ∈ ds, isFldT f s d = true := by
  unfold badB
  split
  · simp
    omega
  · rename_i c
    rw [Option.map_eq_none_iff, List.findIdx?_eq_none_iff]
    refine ⟨fun h => ⟨by omega, by omega, by omega, fun d hd => ?_⟩, fun h d hd => ?_⟩
    · simpa using h d hd
    · simpa using h.2.2.2 d hd
theorem bad_ok {f s : Int} {fs : List Fld} : badB f s (fs.map fldD) = none ↔ BatOk f s fs := by
  rw [bad_none]
  constructor
  · rintro ⟨h1, h2, h3, h4⟩
    refine ⟨h1, h2, by rw [List.length_map] at h3; exact h3, fun x hx => fld_ok.mp (h4 _ (List.mem_map_of_mem hx))⟩
  · intro h
    refine ⟨h.hf, h.hs, by rw [List.length_map]; exact h.ne, fun d hd => ?_⟩
    obtain ⟨x, hx, rfl⟩ := List.mem_map.mp hd
    exact fld_ok.mpr (h.ok x hx)
theorem bat_in {f s : Int} {fs : List Fld} (h : BatOk f s fs) : ∀ d ∈ fs.map fldD, FldIn d := fun d hd => by
  obtain ⟨x, hx, rfl⟩ := List.mem_map.mp hd
  exact fld_in h.hf.2 h.hs.2 (h.ok x hx)
theorem bad_at {f s : Int} {ds : List PyData} (h : 0 ≤ f ∧ f ≤ 10 ∧ 0 ≤ s ∧ s ≤ 10 ∧ 1 ≤ ds.length ∧ ds.length ≤ 5) {k : Nat} {d : PyData} (hd : ds[k]? = some d) (h1 : isFldT f s d = false) (h2 : ∀ (j : Nat) e, j < k → ds[j]? = some e → isFldT f s e = true) : badB f s ds = some (k : Int) := by
  unfold badB
  rw [if_neg (by omega)]
  have hk := (List.getElem?_eq_some_iff.mp hd).1
  have : ds.findIdx? (fun d => !isFldT f s d) = some k := by
    rw [List.findIdx?_eq_some_iff_getElem]
    refine ⟨hk, ?_, fun j hj => ?_⟩
    · rw [(List.getElem?_eq_some_iff.mp hd).2, h1]
      rfl
    · rw [h2 j _ hj (List.getElem?_eq_getElem (by omega))]
      simp
  rw [this]
  rfl
section
variable {H : Hp} {v : V}
theorem Dq.tup_inv {ds : List PyData} (h : Dq H v (.tuple ds)) : ∃ a xs, v = .ref a ∧ H a = some (.tup xs) ∧ DqAll H xs ds := Dq.tuple_inv h
theorem batT_inv {f s : Int} {ds : List PyData} (h : Dq H v (batT f s ds)) : ∃ a p xs, v = .ref a ∧ H a = some (.tup [.int f, .int s, .ref p]) ∧ H p = some (.lst xs) ∧ DqAll H xs ds := by
  obtain ⟨a, xs, rfl, h1, h2⟩ := Dq.tuple_inv h
  cases h2 with
  | cons a b =>
    cases b with
    | cons c d =>
      cases d with
      | cons e f =>
        cases f
        obtain rfl := Dq.int_inv a
        obtain rfl := Dq.int_inv c
        obtain ⟨p, ys, rfl, h3, h4⟩ := Dq.list_inv e
        exact ⟨_, p, ys, rfl, h1, h3, h4⟩
theorem batT_mk {a p : Addr} {xs : List V} {f s : Int} {ds : List PyData} (h : H a = some (.tup [.int f, .int s, .ref p])) (h1 : H p = some (.lst xs)) (h2 : DqAll H xs ds) : Dq H (.ref a) (batT f s ds) := .tup h (.cons (.int _) (.cons (.int _) (.cons (.lst h1 h2) .nil)))
theorem fldT_inv {w : Str} {r : List PyData} (h : Dq H v (.tuple (.str w :: r))) : ∃ a xs, v = .ref a ∧ H a = some (.tup (.str w :: xs)) ∧ DqAll H xs r := by
  obtain ⟨a, xs, rfl, h1, h2⟩ := Dq.tuple_inv h
  cases h2 with
  | cons a b =>
    obtain rfl := Dq.str_inv a
    exact ⟨_, _, rfl, h1, b⟩
end
theorem atI_0 {x : V} {xs : List V} : atI (x :: xs) 0 = some x := atI_nat (j := 0) rfl
theorem atI_1 {x y : V} {xs : List V} : atI (x :: y :: xs) 1 = some y := atI_nat (j := 1) rfl
theorem atI_2 {x y z : V} {xs : List V} : atI (x :: y :: z :: xs) 2 = some z := atI_nat (j := 2) rfl
theorem i_ix3S {K : PySem.W.Frag} {H : Hp} {Q : VK} {p : Addr} {i : Int} {y1 y2 y3 : Str} (h : SqL K H p [.str y1, .str y2, .str y3]) (h0 : 0 ≤ i) (h1 : i < 3) (q : ∀ v, v = y1 ∨ v = y2 ∨ v = y3 → Q (.str v) H) : rIxL K (.ref p) (.int i) H Q := by
  obtain rfl | rfl | rfl : i = 0 ∨ i = 1 ∨ i = 2 := by omega
  · exact i_ixL h atI_0 (q _ (.inl rfl))
  · exact i_ixL h atI_1 (q _ (.inr (.inl rfl)))
  · exact i_ixL h atI_2 (q _ (.inr (.inr rfl)))
theorem bnot {b : Bool} (h : (!b) = true) : b = false := by simpa using h
theorem bnot' {b : Bool} (h : (!b) = false) : b = true := by simpa using h
theorem num_inv {d : PyData} (h : isNumD d = true) : ∃ x, d = .int x := by
  cases d <;> simp [isNumD] at h ⊢
theorem rule_inv {ds : List PyData} (h : isRuleD ds = true) : ∃ x y, ds = [.int x, .int y] ∧ 1 ≤ x := by
  unfold isRuleD at h
  split at h
  · exact ⟨_, _, rfl, of_decide_eq_true h⟩
  · cases h
theorem rule_short1 {d : PyData} : isRuleD [d] = false := by simp [isRuleD]
theorem rule_long {a b c : PyData} {ds : List PyData} : isRuleD (a :: b :: c :: ds) = false := by simp [isRuleD]
theorem rule_no1 {a b : PyData} (h : isNumD a = false) : isRuleD [a, b] = false := by
  cases a <;> simp [isRuleD, isNumD] at h ⊢
theorem rule_no2 {a b : PyData} (h : isNumD b = false) : isRuleD [a, b] = false := by
  cases b <;> simp [isRuleD, isNumD] at h ⊢
theorem more_rule {ds : List PyData} (h : isRuleD ds = false) : isMoreD ds = false := by
  unfold isMoreD
  split
  · rw [isRuleD] at h
    rw [h]
    rfl
  · rfl
theorem more_yes {x y : Int} (h : 1 ≤ x) (h2 : 0 - x ≤ y) : isMoreD [.int x, .int y] = decide (y ≤ x) := by
  rw [isMoreD, decide_eq_true h, decide_eq_true h2, Bool.true_and, Bool.true_and]
theorem more_no {x y : Int} (h2 : ¬ 0 - x ≤ y) : isMoreD [.int x, .int y] = false := by
  rw [isMoreD, decide_eq_false h2, Bool.false_and, Bool.and_false]
theorem rows_long {f s : Int} {a b : PyData} {ds : List PyData} : isRowsD f s (a :: b :: ds) = false := by simp [isRowsD]
theorem rows_one {f s : Int} {d : PyData} (h : isLstD d = false) : isRowsD f s [d] = false := by
  cases d <;> simp [isRowsD, isLstD] at h ⊢
theorem rows_no {f s : Int} {ds : List PyData} (h : ¬ (ds.length : Int) = f + 1) : isRowsD f s [.list ds] = false := by
  rw [isRowsD, decide_eq_false h, Bool.false_and]
theorem rows_yes {f s : Int} {ds : List PyData} (h : (ds.length : Int) = f + 1) : isRowsD f s [.list ds] = ds.all (areNumsD (s + 1)) := by
  rw [isRowsD, decide_eq_true h, Bool.true_and]
theorem dq_two_ints {H : Hp} {xs : List V} {x y : Int} (h : DqAll H xs [.int x, .int y]) : xs = [.int x, .int y] := DqAll.ints (ms := [x, y]) h
/-! ### how many are kept: none, or some -/
section
variable {σ : L2.St} {H H1 : Hp} {Q : VK} {K : PySem.W.Frag} {D l : Addr} {g : TG} {tt : TT} {te : TE} {vs : List Nat} {xs : List V} {Qd : Hp → Prop}
theorem lcL_fl (b : Nat → Bool) (nD : H1 D = none) (hn : xs.length ≤ 1000000) (hx : SqL K H1 l xs)
    (hs : ∀ (i : Nat) (x : V) H (Z : VK) (Y : Hp → Prop), xs[i]? = some x → Same H1 H → (∀ v H4, b i = true → Same H H4 → Z v H4) → (∀ H4, b i = false → Same H H4 → Y H4) → LcTurn g tt te vs σ x H Z Y)
    (hd : ∀ acc H, H D = some (.lst acc) → Same H1 H → ((acc.length : Int) = 0 ↔ ∀ i, i < xs.length → b i = false) → acc.length ≤ xs.length → Qd H) :
    ∃ W : Nat → Nat → Hp → Prop, (∃ m, W 0 m (upd H1 D (.lst []))) ∧ ∀ i m H, W i m H →
      ((Itl K l).stop i H ∧ Qd H) ∨ ((Itl K l).go i H ∧ ∃ Nx : Hp → Prop, (∀ H', Nx H' → ∃ m', m' < m ∧ W (i + 1) m' H') ∧ ∀ x H', (Itl K l).yld i H x H' → g x (wipe σ vs) H' fun σ2 H2 => wipe σ2 vs = wipe σ vs ∧ tt σ2 H2 fun b H3 =>
        if b = true then te σ2 H3 fun y H4 => ∃ acc, H4 D = some (.lst acc) ∧ acc.length < sizeLine ∧ Nx (upd H4 D (.lst (acc ++ [y]))) else Nx H3) := by
  refine lcL (xs := xs) (fun i acc H => Same H1 H ∧ acc.length ≤ i ∧ (acc = [] ↔ ∀ j, j < i → b j = false)) nD ⟨Same.new nD, Nat.le_refl _, by simp⟩ (fun i acc H _ q _ => q.1.seq hx) ?_ ?_
  · rintro i x acc H Z Y hi ⟨r1, r2, r3⟩ hD hz hy
    have hi' : i < xs.length := (List.getElem?_eq_some_iff.mp hi).1
    refine hs i x H Z Y hi r1 (fun v H4 e s => hz _ _ (s _ _ hD) (sz4' (by omega)) ⟨Same.mut (r1.trans s) nD, by rw [List.length_append]; show _ + 1 ≤ _; omega, ⟨fun q => by simp at q, fun q => ?_⟩⟩) (fun H4 e s => hy _ (s _ _ hD) ⟨r1.trans s, by omega, ?_⟩)
    · rw [q i (by omega)] at e
      cases e
    · rw [r3]
      refine ⟨fun q j hj => ?_, fun q j hj => q j (by omega)⟩
      by_cases c : j = i
      · rw [c]; exact e
      · exact q j (by omega)
  · rintro acc H ⟨r1, r2, r3⟩ hD
    refine hd acc H hD r1 ?_ r2
    rw [← r3, ← List.length_eq_zero_iff]
    omega
end
theorem all_at {α : Type} {p : α → Bool} {xs : List α} : xs.all p = true ↔ ∀ (i : Nat) (x : α), xs[i]? = some x → p x = true := by
  rw [List.all_eq_true]
  refine ⟨fun h i x e => h x (List.mem_of_getElem? e), fun h x hx => ?_⟩
  obtain ⟨i, hi, rfl⟩ := List.mem_iff_getElem.mp hx
  exact h i _ (List.getElem?_eq_getElem hi)
/-- the end of `len([.. if not p]) == 0` -/
theorem len0_all {p : PyData → Bool} {ds : List PyData} {n : Nat} {m : Nat} (e : n = ds.length) (h : (m : Int) = 0 ↔ ∀ i, i < n → (!((ds[i]?).map p).getD true) = false) : decide ((m : Int) = 0) = ds.all p := by
  subst e
  rw [Bool.eq_iff_iff, decide_eq_true_iff, h, all_at]
  refine ⟨fun q i x e => ?_, fun q i hi => ?_⟩
  · have := q i (List.getElem?_eq_some_iff.mp e).1
    rw [e] at this
    simpa using this
  · rw [List.getElem?_eq_getElem hi]
    simp [q i _ (List.getElem?_eq_getElem hi)]
end Hf
/-! ### what may be copied and bent: words with numbers, tables of rows -/
namespace Hf
open PySem PySem.Spec PyProof.Rows L2
def CpOk (d : PyData) : Prop := (∃ (w : Str) (ms : List Int), d = .tuple (.str w :: ms.map PyData.int) ∧ ¬ w = PySem.Str.ofString "table" ∧ PyData.strOk w = true ∧ ms.length ≤ 4) ∨ (∃ rows : List (List Int), d = fldD (.tab rows) ∧ rows.length ≤ 20 ∧ ∀ r ∈ rows, r.length ≤ 20)
theorem cp_word {w : Str} (ms : List Int) (h : ¬ w = PySem.Str.ofString "table") (s : PyData.strOk w = true) (l : ms.length ≤ 4) : CpOk (.tuple (.str w :: ms.map PyData.int)) := .inl ⟨w, ms, rfl, h, s, l⟩
theorem cp_tab {rows : List (List Int)} (h : rows.length ≤ 20) (h2 : ∀ r ∈ rows, r.length ≤ 20) : CpOk (fldD (.tab rows)) := .inr ⟨rows, rfl, h, h2⟩
theorem cp_fld {f s : Int} {fl : Fld} (hf : f ≤ 10) (hs : s ≤ 10) (k : FldOk f s fl) : CpOk (fldD fl) := by
  cases fl with
  | more w t => exact cp_word [w, t] (by decide +kernel) (by decide +kernel) (by simp)
  | lead w t => exact cp_word [w, t] (by decide +kernel) (by decide +kernel) (by simp)
  | tab rows =>
    obtain ⟨h1, h2⟩ := k
    exact cp_tab (by omega) fun r hr => by have := h2 r hr; omega
theorem word_less {f s : Int} {w0 : Str} (hw : w0 = PySem.Str.ofString "more" ∨ w0 = PySem.Str.ofString "lead") {z : Int} {r : List PyData} (hz : z < 1) : isFieldD f s w0 (.int z :: r) = false := by
  rcases hw with rfl | rfl
  · rw [isFieldD, if_pos rfl]
    unfold isMoreD
    split
    · rename_i e; cases e
      rw [decide_eq_false (by omega)]
      rfl
    · rfl
  · rw [isFieldD, if_neg str_ne1, if_pos rfl]
    unfold isRuleD
    split
    · rename_i e; cases e
      exact decide_eq_false (by omega)
    · rfl
theorem word_len {f s : Int} {w0 : Str} (hw : w0 = PySem.Str.ofString "more" ∨ w0 = PySem.Str.ofString "lead") {ds : List PyData} (hl : ds.length ≠ 2) : isFieldD f s w0 ds = false := by
  rcases hw with rfl | rfl
  · rw [isFieldD, if_pos rfl]
    unfold isMoreD
    split
    · exact absurd rfl hl
    · rfl
  · rw [isFieldD, if_neg str_ne1, if_pos rfl]
    unfold isRuleD
    split
    · exact absurd rfl hl
    · rfl
theorem fld_no {f s : Int} {fl : Fld} (h : ¬ FldOk f s fl) : isFldT f s (fldD fl) = false := by
  cases e : isFldT f s (fldD fl) with
  | false => rfl
  | true => exact absurd (fld_ok.mp e) h
theorem CpOk.fin {d : PyData} (h : CpOk d) : FldIn d := by
  rcases h with ⟨w, ms, rfl, _, _, h⟩ | ⟨rows, rfl, h1, h2⟩
  · refine ⟨w, _, rfl, ?_⟩
    rw [wid, wid_ints, List.length_map]
    omega
  · have := wid_rows (k := 20) rows h1 h2
    refine ⟨_, _, rfl, ?_⟩
    simp only [wid, widA, List.length_cons, List.length_nil, List.length_map] at this ⊢
    omega
theorem CpOk.lay {d : PyData} (h : CpOk d) : d.canLay0 = true := by
  rcases h with ⟨w, ms, rfl, _, s, _⟩ | ⟨rows, rfl, _, _⟩
  · simp [PyData.canLay0, PyData.canLayAll0, s, canLay_ints]
  · exact lay_fld _
theorem CpOk.dep {d : PyData} (h : CpOk d) : dep d ≤ 3 := by
  rcases h with ⟨w, ms, rfl, _, _, _⟩ | ⟨rows, rfl, _, _⟩
  · simp [Hf.dep, depA, dep_ints]
  · exact dep_fld _
theorem shaped_batT {f s : Int} {ds : List PyData} (h : ∀ d ∈ ds, CpOk d) : SeqAt.shaped (batT f s ds) = true := by
  have l : PyData.canLayAll0 ds = true := lay_all fun d hd => (h d hd).lay
  have e : depA ds ≤ 3 := depA_le fun d hd => (h d hd).dep
  refine shaped_of (by simp [batT, PyData.canLay0, PyData.canLayAll0, l]) ?_
  simp only [batT, Hf.dep, depA]
  omega
end Hf
namespace Hf
open PySem PySem.Spec PyProof.Rows L2
theorem i_nin {K : PySem.W.Frag} {H : Hp} {Q : VK} {p : Addr} {x : V} {xs : List V} {b : Bool} (h : SqL K H p xs) (f : flatV x = true) (g : xs.all flatV = true) (e : inV x xs = b) (q : Q (.bl (!b)) H) : rIn K true x (.ref p) H Q := ⟨p, xs, rfl, .inl h, f, g, by rw [e]; exact q⟩
theorem i_ninT {K : PySem.W.Frag} {H : Hp} {Q : VK} {p : Addr} {x : V} {xs : List V} {b : Bool} (h : SqT K H p xs) (f : flatV x = true) (g : xs.all flatV = true) (e : inV x xs = b) (q : Q (.bl (!b)) H) : rIn K true x (.ref p) H Q := ⟨p, xs, rfl, .inr h, f, g, by rw [e]; exact q⟩
theorem i_neDe {K : PySem.W.Frag} {H : Hp} {Q : VK} {v w : V} {d e : PyData} (h1 : Dq H v d) (h2 : Dq H w e) (s1 : SeqAt.shaped d = true) (s2 : SeqAt.shaped e = true) (q : Q (.bl (!PyData.eqv d e)) H) : rNeD K v w H Q := ⟨d, e, h1.dp, h2.dp, s1, s2, q⟩
end Hf
/-! ## owned things, more of them -/
namespace Hf
open PySem PySem.Spec PyProof.Rows L2
section
variable {σ : L2.St} {H H1 : Hp} {Q : VK} {K : PySem.W.Frag} {D a l : Addr} {wi : TI} {g : TG} {tt : TT} {te : TE} {vs : List Nat} {lo : Int} {n : Nat} {xs : List V} {Qd : Hp → Prop}
theorem lcR_own (f : Nat → PyData) (nD : H1 D = none) (hn : n ≤ 1000000)
    (hs : ∀ (i : Nat) H (Z : VK) (Y : Hp → Prop), i < n → Same H1 H → (∀ v S H4, OwN H H4 v (f i) S → Same H H4 → Z v H4) → LcTurn g tt te vs σ (.int (lo + i)) H Z Y)
    (hd : ∀ S H, OwN H1 H (.ref D) (.list ((List.range n).map f)) S → Same H1 H → Qd H) :
    ∃ W : Nat → Nat → Hp → Prop, (∃ m, W 0 m (upd H1 D (.lst []))) ∧ ∀ i m H, W i m H →
      ((Itr lo n).stop i H ∧ Qd H) ∨ ((Itr lo n).go i H ∧ ∃ Nx : Hp → Prop, (∀ H', Nx H' → ∃ m', m' < m ∧ W (i + 1) m' H') ∧ ∀ x H', (Itr lo n).yld i H x H' → g x (wipe σ vs) H' fun σ2 H2 => wipe σ2 vs = wipe σ vs ∧ tt σ2 H2 fun b H3 =>
        if b = true then te σ2 H3 fun y H4 => ∃ acc, H4 D = some (.lst acc) ∧ acc.length < sizeLine ∧ Nx (upd H4 D (.lst (acc ++ [y]))) else Nx H3) := by
  refine lcR (fun i acc H => acc.length = i ∧ Same H1 H ∧ ∃ S, OwAll H acc ((List.range i).map f) S ∧ S.Nodup ∧ D ∉ S ∧ ∀ b, b ∈ S → H1 b = none) nD ⟨rfl, Same.new nD, [], .nil, List.nodup_nil, by simp, nofun⟩ ?_ ?_
  · rintro i acc H Z Y hi ⟨h1, h2, S, h3, h4, h5, h6⟩ hD hz _
    refine hs i H Z Y hi h2 fun v S' H4 k1 k2 => ?_
    have hDS : D ∉ S' := fun z => by
      have := k1.nw D z
      rw [hD] at this
      cases this
    have kp : Kp [D] H4 (upd H4 D (.lst (acc ++ [v]))) := Kp.upd (by simp) Kp.refl
    have ht : ∀ b ys, b ∈ [D] → H4 b ≠ some (.tup ys) := fun b ys hb e => by
      rw [List.mem_singleton.mp hb, k2 _ _ hD] at e
      cases e
    have hd1 : ∀ b, b ∈ S → b ∉ [D] := fun b hb hb' => h5 (by rw [← List.mem_singleton.mp hb']; exact hb)
    have hd2 : ∀ b, b ∈ S' → b ∉ [D] := fun b hb hb' => hDS (by rw [← List.mem_singleton.mp hb']; exact hb)
    refine hz _ _ (k2 _ _ hD) (sz4' (by omega)) ⟨by rw [List.length_append, h1]; rfl, Same.mut (h2.trans k2) nD, S ++ S', ?_, ?_, ?_, ?_⟩
    · rw [List.range_succ, List.map_append]
      exact OwAll.snoc (OwAll.kp ht kp (h3.same k2) hd1) (Ow.kp ht kp k1.ow hd2)
    · rw [List.nodup_append]
      refine ⟨h4, k1.nd, fun b hb c hc e => ?_⟩
      subst e
      obtain ⟨ys, e'⟩ := h3.lists b hb
      rw [k1.nw b hc] at e'
      cases e'
    · intro z
      rcases List.mem_append.mp z with z | z
      · exact h5 z
      · exact hDS z
    · intro b hb
      rcases List.mem_append.mp hb with z | z
      · exact h6 b z
      · exact h2.free (k1.nw b z)
  · rintro acc H ⟨h1, h2, S, h3, h4, h5, h6⟩ hD
    exact hd (D :: S) H ⟨.lst hD h3, List.nodup_cons.mpr ⟨h5, h4⟩, fun b hb => by
      rcases List.mem_cons.mp hb with z | z
      · rw [z]; exact nD
      · exact h6 b z⟩ h2
theorem lcT_own (f : Nat → PyData) (nD : H1 D = none) (hn : xs.length ≤ 1000000) (hx : SqT K H1 l xs)
    (hs : ∀ (i : Nat) (x : V) H (Z : VK) (Y : Hp → Prop), xs[i]? = some x → Same H1 H → (∀ v S H4, OwN H H4 v (f i) S → Same H H4 → Z v H4) → LcTurn g tt te vs σ x H Z Y)
    (hd : ∀ S H, OwN H1 H (.ref D) (.list ((List.range xs.length).map f)) S → Same H1 H → Qd H) :
    ∃ W : Nat → Nat → Hp → Prop, (∃ m, W 0 m (upd H1 D (.lst []))) ∧ ∀ i m H, W i m H →
      ((Itt K l).stop i H ∧ Qd H) ∨ ((Itt K l).go i H ∧ ∃ Nx : Hp → Prop, (∀ H', Nx H' → ∃ m', m' < m ∧ W (i + 1) m' H') ∧ ∀ x H', (Itt K l).yld i H x H' → g x (wipe σ vs) H' fun σ2 H2 => wipe σ2 vs = wipe σ vs ∧ tt σ2 H2 fun b H3 =>
        if b = true then te σ2 H3 fun y H4 => ∃ acc, H4 D = some (.lst acc) ∧ acc.length < sizeLine ∧ Nx (upd H4 D (.lst (acc ++ [y]))) else Nx H3) := by
  refine lcT (xs := xs) (fun i acc H => acc.length = i ∧ Same H1 H ∧ ∃ S, OwAll H acc ((List.range i).map f) S ∧ S.Nodup ∧ D ∉ S ∧ ∀ b, b ∈ S → H1 b = none) nD ⟨rfl, Same.new nD, [], .nil, List.nodup_nil, by simp, nofun⟩ (fun i acc H _ q _ => Same.seqT q.2.1 hx) ?_ ?_
  · rintro i x acc H Z Y hi ⟨h1, h2, S, h3, h4, h5, h6⟩ hD hz _
    have hi' : i < xs.length := (List.getElem?_eq_some_iff.mp hi).1
    refine hs i x H Z Y hi h2 fun v S' H4 k1 k2 => ?_
    have hDS : D ∉ S' := fun z => by
      have := k1.nw D z
      rw [hD] at this
      cases this
    have kp : Kp [D] H4 (upd H4 D (.lst (acc ++ [v]))) := Kp.upd (by simp) Kp.refl
    have ht : ∀ b ys, b ∈ [D] → H4 b ≠ some (.tup ys) := fun b ys hb e => by
      rw [List.mem_singleton.mp hb, k2 _ _ hD] at e
      cases e
    have hd1 : ∀ b, b ∈ S → b ∉ [D] := fun b hb hb' => h5 (by rw [← List.mem_singleton.mp hb']; exact hb)
    have hd2 : ∀ b, b ∈ S' → b ∉ [D] := fun b hb hb' => hDS (by rw [← List.mem_singleton.mp hb']; exact hb)
    refine hz _ _ (k2 _ _ hD) (sz4' (by omega)) ⟨by rw [List.length_append, h1]; rfl, Same.mut (h2.trans k2) nD, S ++ S', ?_, ?_, ?_, ?_⟩
    · rw [List.range_succ, List.map_append]
      exact OwAll.snoc (OwAll.kp ht kp (h3.same k2) hd1) (Ow.kp ht kp k1.ow hd2)
    · rw [List.nodup_append]
      refine ⟨h4, k1.nd, fun b hb c hc e => ?_⟩
      subst e
      obtain ⟨ys, e'⟩ := h3.lists b hb
      rw [k1.nw b hc] at e'
      cases e'
    · intro z
      rcases List.mem_append.mp z with z | z
      · exact h5 z
      · exact hDS z
    · intro b hb
      rcases List.mem_append.mp hb with z | z
      · exact h6 b z
      · exact h2.free (k1.nw b z)
  · rintro acc H ⟨h1, h2, S, h3, h4, h5, h6⟩ hD
    exact hd (D :: S) H ⟨.lst hD h3, List.nodup_cons.mpr ⟨h5, h4⟩, fun b hb => by
      rcases List.mem_cons.mp hb with z | z
      · rw [z]; exact nD
      · exact h6 b z⟩ h2
end
/-- a tuple of flat things and a last owned one -/
theorem OwN.bat {H H1 : Hp} {v : V} {f s : Int} {d : PyData} {S : List Addr} {q : Addr} (h : OwN H H1 v d S) (hq : H1 q = none) : OwN H (upd H1 q (.tup [.int f, .int s, v])) (.ref q) (.tuple [.int f, .int s, d]) S := by
  refine ⟨?_, h.nd, h.nw⟩
  have := Ow.tup (H := upd H1 q (.tup [.int f, .int s, v])) (a := q) upd_same (OwAll.cons (S := []) (.int f) (OwAll.cons (S := []) (.int s) (OwAll.cons (h.ow.same (Same.new hq)) .nil)))
  rw [List.append_nil] at this
  exact this
theorem OwN.tab {H H1 : Hp} {v : V} {w : Str} {d : PyData} {S : List Addr} {q : Addr} (h : OwN H H1 v d S) (hq : H1 q = none) : OwN H (upd H1 q (.tup [.str w, v])) (.ref q) (.tuple [.str w, d]) S := by
  refine ⟨?_, h.nd, h.nw⟩
  have := Ow.tup (H := upd H1 q (.tup [.str w, v])) (a := q) upd_same (OwAll.cons (S := []) (.str w) (OwAll.cons (h.ow.same (Same.new hq)) .nil))
  rw [List.append_nil] at this
  exact this
theorem own_word {H H1 : Hp} {w : Str} {a b : Int} {q : Addr} : OwN H (upd H1 q (.tup [.str w, .int a, .int b])) (.ref q) (.tuple [.str w, .int a, .int b]) [] :=
  ⟨Ow.tup upd_same (OwAll.cons (S := []) (.str w) (OwAll.cons (S := []) (.int a) (OwAll.cons (S := []) (.int b) .nil))), List.nodup_nil, nofun⟩
theorem own_list {H : Hp} {D : Addr} {H1 : Hp} {r : List Int} (hD : H1 D = some (.lst (r.map V.int))) (n : H D = none) : OwN H H1 (.ref D) (planD r) [D] :=
  ⟨.lst hD (own_ints _), by simp, fun b hb => by rw [List.mem_singleton.mp hb]; exact n⟩
theorem DqAll.append {H : Hp} : ∀ {vs ws : List V} {ds es : List PyData}, DqAll H vs ds → DqAll H ws es → DqAll H (vs ++ ws) (ds ++ es)
  | _, _, _, _, .nil, h => h
  | _, _, _, _, .cons h q, g => .cons h (DqAll.append q g)
theorem DqAll.rep6 {H : Hp} {vs : List V} {ds : List PyData} (h : DqAll H vs ds) : ∀ n : Nat, DqAll H (List.replicate n vs).flatten (List.replicate n ds).flatten
  | 0 => .nil
  | n + 1 => by
    rw [List.replicate_succ, List.replicate_succ, List.flatten_cons, List.flatten_cons]
    exact h.append (DqAll.rep6 h n)
theorem flat_len {α : Type} {xs : List α} : ∀ n : Nat, (List.replicate n xs).flatten.length = n * xs.length
  | 0 => by simp
  | n + 1 => by
    rw [List.replicate_succ, List.flatten_cons, List.length_append, flat_len n, Nat.succ_mul]
    omega
theorem flat_mem {α : Type} {xs : List α} {x : α} {n : Nat} (h : x ∈ (List.replicate n xs).flatten) : x ∈ xs := by
  obtain ⟨l, h1, h2⟩ := List.mem_flatten.mp h
  rw [(List.mem_replicate.mp h1).2] at h2
  exact h2
theorem ne_hid {a b : Addr} {H : Hp} {o : HO} (h : hid [a] H b = some o) : b ≠ a := fun e => by
  rw [e, hid_in (by simp)] at h
  cases h
theorem DqAll.set {H : Hp} : ∀ {vs : List V} {ds : List PyData} {w : V} {d : PyData}, DqAll H vs ds → Dq H w d → ∀ n : Nat, DqAll H (vs.set n w) (ds.set n d)
  | _, _, _, _, .nil, _, _ => .nil
  | _, _, _, _, .cons _ q, g, 0 => .cons g q
  | _, _, _, _, .cons h q, g, n + 1 => .cons h (DqAll.set q g n)
theorem same_hidS {G H : Hp} {S : List Addr} (s : Same G H) (h : ∀ b, b ∈ S → G b = none) : Same G (hid S H) := fun b o e => by
  have n : b ∉ S := fun z => by rw [h b z] at e; cases e
  rw [hid_out n]
  exact s b o e
/-- more is hidden: what is new -/
theorem hid_more {H H1 : Hp} {R : Addr} {S : List Addr} (s : Same H H1) (n : H R = none) : Same (hid S H) (hid (R :: S) H1) := fun b o h => by
  by_cases c : b ∈ S
  · rw [hid_in c] at h
    cases h
  · rw [hid_out c] at h
    have : b ∉ R :: S := fun z => by
      rcases List.mem_cons.mp z with e | e
      · rw [e, n] at h; cases h
      · exact c e
    rw [hid_out this]
    exact s b o h
theorem hid_less {H : Hp} {S T : List Addr} (h : ∀ b, b ∈ T → b ∈ S) : Same (hid S H) (hid T H) := fun b o e => by
  by_cases c : b ∈ S
  · rw [hid_in c] at e
    cases e
  · rw [hid_out c] at e
    rw [hid_out fun z => c (h b z)]
    exact e
theorem noMA_every : ∀ {ds : List PyData}, (∀ d ∈ ds, noM d = true) → noMA ds = true
  | [], _ => by simp [noMA]
  | d :: ds, h => by
    rw [noMA, h d List.mem_cons_self, noMA_every fun e he => h e (List.mem_cons_of_mem _ he)]
    rfl
theorem noM_int (r : List Int) : noMA (r.map PyData.int) = true := noMA_every fun d hd => by
  obtain ⟨x, _, rfl⟩ := List.mem_map.mp hd
  simp [noM]
theorem noM_fld (fl : Fld) : noM (fldD fl) = true := by
  cases fl with
  | more w t => simp [fldD, noM, noMA, mkS]; decide +kernel
  | lead w t => simp [fldD, noM, noMA, mkS]; decide +kernel
  | tab rows =>
    have : noMA (rows.map planD) = true := noMA_every fun d hd => by
      obtain ⟨x, _, rfl⟩ := List.mem_map.mp hd
      exact noM_int x
    simp [fldD, noM, noMA, mkS, this]
    decide +kernel
theorem bat_facts {f s : Int} {fs : List Fld} (k : BatOk f s fs) : (batD f s fs).canLay0 = true ∧ noM (batD f s fs) = true ∧ (dep (batD f s fs) < 12 ∧ 1 ≤ dep (batD f s fs) ∧ wid (batD f s fs) ≤ 1000) := by
  have h2 : noM (batD f s fs) = true := by
    have : noMA (fs.map fldD) = true := noMA_every fun d hd => by
      obtain ⟨x, _, rfl⟩ := List.mem_map.mp hd
      exact noM_fld x
    simp [batD, noM, noMA, this]
  have h3 := dep_bat f s fs
  have h4 := wid_bat k.hf.2 k.hs.2 (by have := k.ne; omega) k.ok
  refine ⟨lay_bat f s fs, h2, by omega, ?_, by omega⟩
  simp only [batD, dep]
  omega
theorem Dq.word {H : Hp} {t : Addr} {w : Str} {k : Int} (h : H t = some (.tup [.str w, .int k])) : Dq H (.ref t) (.tuple [.str w, .int k]) := .tup h (.cons (.str w) (.cons (.int k) .nil))
theorem Dq.word0 {H : Hp} {t : Addr} {w : Str} (h : H t = some (.tup [.str w, .non])) : Dq H (.ref t) (.tuple [.str w, .none]) := .tup h (.cons (.str w) (.cons .non .nil))
theorem shaped_word0 {w : Str} (h : PyData.strOk w = true) : SeqAt.shaped (.tuple [.str w, .none]) = true := by
  refine shaped_of (by simp [PyData.canLay0, PyData.canLayAll0, h]) ?_
  simp [dep, depA]
theorem shaped_word {w : Str} {k : Int} (h : PyData.strOk w = true) : SeqAt.shaped (.tuple [.str w, .int k]) = true := by
  refine shaped_of (by simp [PyData.canLay0, PyData.canLayAll0, h]) ?_
  simp [dep, depA]
theorem OwN.tupOf {H H1 : Hp} {D t : Addr} {xs : List V} {ds : List PyData} {S : List Addr} (h : OwN H H1 (.ref D) (.list ds) S) (hD : H1 D = some (.lst xs)) (ht : H1 t = none) : ∃ S', OwN H (upd H1 t (.tup xs)) (.ref t) (.tuple ds) S' := by
  obtain ⟨o, nd, nw⟩ := h
  cases o with
  | @lst _ ys _ S' h1 h2 =>
    rw [h1] at hD
    cases hD
    exact ⟨S', .tup upd_same (h2.same (Same.new ht)), (List.nodup_cons.mp nd).2, fun b hb => nw b (List.mem_cons_of_mem _ hb)⟩
mutual
theorem Ow.hid {H : Hp} {T : List Addr} (ht : ∀ b xs, b ∈ T → H b ≠ some (.tup xs)) : ∀ {v : V} {d : PyData} {S : List Addr}, Ow H v d S → (∀ b, b ∈ S → b ∉ T) → Dq (hid T H) v d
  | _, _, _, .non, _ => .non
  | _, _, _, .bl b, _ => .bl b
  | _, _, _, .int i, _ => .int i
  | _, _, _, .str x, _ => .str x
  | _, _, _, .lst h q, n => .lst (hid_lk (n _ List.mem_cons_self) h) (OwAll.hid ht q fun b hb => n b (List.mem_cons_of_mem _ hb))
  | _, _, _, .tup h q, n => .tup (hid_lk (fun z => ht _ _ z h) h) (OwAll.hid ht q n)
theorem OwAll.hid {H : Hp} {T : List Addr} (ht : ∀ b xs, b ∈ T → H b ≠ some (.tup xs)) : ∀ {vs : List V} {ds : List PyData} {S : List Addr}, OwAll H vs ds S → (∀ b, b ∈ S → b ∉ T) → DqAll (hid T H) vs ds
  | _, _, _, .nil, _ => .nil
  | _, _, _, .cons h q, n => .cons (Ow.hid ht h fun b hb => n b (List.mem_append.mpr (.inl hb))) (OwAll.hid ht q fun b hb => n b (List.mem_append.mpr (.inr hb)))
end
theorem ow_bat {H : Hp} {w : V} {f s : Int} {ds : List PyData} {S : List Addr} (h : Ow H w (batT f s ds) S) : ∃ hA hq zs S', w = .ref hA ∧ H hA = some (.tup [.int f, .int s, .ref hq]) ∧ H hq = some (.lst zs) ∧ OwAll H zs ds S' ∧ S = hq :: S' := by
  cases h with
  | tup h q =>
    cases q with
    | cons a b =>
      cases a
      cases b with
      | cons a b =>
        cases a
        cases b with
        | cons a b =>
          cases b
          cases a with
          | lst h1 h2 =>
            exact ⟨_, _, _, _, rfl, h, h1, h2, by simp⟩
/-- an owned battle beside a purse -/
theorem own_beside {H0 H : Hp} {w : V} {f s : Int} {ds : List PyData} {S : List Addr} {pL : Addr} {m c : Int} (h : OwN H0 H w (batT f s ds) S) (pk : Pk pL m H0 c) (sm : Same H0 H) :
    ∃ hA hq zs, w = .ref hA ∧ H hA = some (.tup [.int f, .int s, .ref hq]) ∧ H hq = some (.lst zs) ∧ DqAll (hid [hq, pL] H) zs ds ∧ hA ≠ pL ∧ hq ≠ pL ∧ H0 hq = none := by
  obtain ⟨hA, hq, zs, S', rfl, h1, h2, h3, rfl⟩ := ow_bat h.ow
  obtain ⟨n, c', e, _⟩ := pk.same sm
  have hn := h.nw hq List.mem_cons_self
  have n1 : hA ≠ pL := fun z => by rw [z, e] at h1; cases h1
  have n2 : hq ≠ pL := pk.ne hn
  have nd := (List.nodup_cons.mp h.nd).1
  refine ⟨hA, hq, zs, rfl, h1, h2, OwAll.hid (fun b xs hb z => ?_) h3 (fun b hb hb' => ?_), n1, n2, hn⟩
  · rcases List.mem_cons.mp hb with g | g
    · rw [g, h2] at z; cases z
    · rw [List.mem_singleton.mp g, e] at z; cases z
  · rcases List.mem_cons.mp hb' with g | g
    · exact nd (g ▸ hb)
    · have := h.nw b (List.mem_cons_of_mem _ hb)
      rw [List.mem_singleton.mp g] at this
      obtain ⟨_, _, e', _⟩ := pk
      rw [e'] at this
      cases this
/-! ### times so much -/
def byF (b : Int) : Fld → Fld
  | .more w t => .more (w * b) (t * b)
  | .lead w l => .lead (w * b) l
  | .tab rows => .tab (rows.map fun r => r.map fun x => x * b)
theorem byF_ok {f s b : Int} {fl : Fld} (hb : 1 ≤ b) (k : FldOk f s fl) : FldOk f s (byF b fl) := by
  have hb0 : 0 ≤ b := by omega
  cases fl with
  | more w t =>
    obtain ⟨h1, h2, h3⟩ := k
    refine ⟨?_, ?_, ?_⟩
    · have := Int.mul_le_mul h1 hb (by omega) (by omega)
      omega
    · have := Int.mul_le_mul_of_nonneg_right h2 hb0
      rw [Int.sub_mul, Int.zero_mul] at this
      exact this
    · exact Int.mul_le_mul_of_nonneg_right h3 hb0
  | lead w l =>
    have h1 : 1 ≤ w := k
    show 1 ≤ w * b
    have := Int.mul_le_mul h1 hb (by omega) (by omega)
    omega
  | tab rows =>
    obtain ⟨h1, h2⟩ := k
    refine ⟨by rw [List.length_map]; exact h1, fun r hr => ?_⟩
    obtain ⟨r', hr', rfl⟩ := List.mem_map.mp hr
    rw [List.length_map]
    exact h2 r' hr'
theorem by_ok {f s b : Int} {fs : List Fld} (hb : 1 ≤ b) (k : BatOk f s fs) : BatOk f s (fs.map (byF b)) := ⟨k.hf, k.hs, by rw [List.length_map]; exact k.ne, fun x hx => by
  obtain ⟨y, hy, rfl⟩ := List.mem_map.mp hx
  exact byF_ok hb (k.ok y hy)⟩
theorem ex_ex {f s : Int} {fl : Fld} (hf : 0 ≤ f) (hs : 0 ≤ s) (k : FldOk f s fl) : exF f (exF s fl) = fl := by
  cases fl with
  | more w t => simp [exF]
  | lead w l => simp [exF]; omega
  | tab rows =>
    obtain ⟨h1, h2⟩ := k
    simp only [exF, Fld.tab.injEq]
    apply List.ext_getElem?
    intro x
    rw [List.getElem?_map]
    by_cases c : x < rows.length
    · rw [List.getElem?_range (by omega), List.getElem?_eq_getElem c]
      simp only [Option.map_some, Option.some.injEq]
      apply List.ext_getElem?
      intro y
      rw [List.getElem?_map, List.getElem?_map]
      have hr := h2 _ (List.getElem_mem c)
      by_cases c2 : y < (rows[x]).length
      · rw [List.getElem?_range (by omega)]
        simp [c, c2]
      · rw [List.getElem?_eq_none (by rw [List.length_range]; omega), List.getElem?_eq_none (by omega)]
        rfl
    · rw [List.getElem?_eq_none (by rw [List.length_range]; omega), List.getElem?_eq_none (by omega)]
      rfl
theorem ex_ex_all {f s : Int} {fs : List Fld} (k : BatOk f s fs) : (fs.map (exF s)).map (exF f) = fs := by
  rw [List.map_map]
  have : ∀ x ∈ fs, (exF f ∘ exF s) x = x := fun x hx => ex_ex k.hf.1 k.hs.1 (k.ok x hx)
  rw [List.map_congr_left this]
  exact List.map_id' fs
theorem planD_inj {r r' : List Int} (h : planD r = planD r') : r = r' := by
  have h2 := PyData.list.inj h
  induction r generalizing r' with
  | nil => cases r' <;> simp_all
  | cons x r ih =>
    cases r' with
    | nil => simp at h2
    | cons y r' =>
      simp at h2
      rw [h2.1, ih (by simp [planD, h2.2]) h2.2]
theorem map_inj {α β : Type} {f : α → β} (h : ∀ a b, f a = f b → a = b) : ∀ {xs ys : List α}, xs.map f = ys.map f → xs = ys
  | [], [], _ => rfl
  | [], _ :: _, e => by simp at e
  | _ :: _, [], e => by simp at e
  | x :: xs, y :: ys, e => by
    rw [List.map_cons, List.map_cons, List.cons.injEq] at e
    rw [h _ _ e.1, map_inj h e.2]
theorem fldD_inj {a b : Fld} (h : fldD a = fldD b) : a = b := by
  cases a <;> cases b <;> simp [fldD] at h ⊢
  · exact h
  · have := h.1; revert this; decide +kernel
  · have := h.1; revert this; decide +kernel
  · exact h
  · exact map_inj (fun a b e => planD_inj e) h
theorem good_flds {f s : Int} {ds : List PyData} (h : badB f s ds = none) : ∃ fs : List Fld, ds = fs.map fldD ∧ BatOk f s fs := by
  have key : ∀ ds : List PyData, (∀ d ∈ ds, isFldT f s d = true) → ∃ fs : List Fld, ds = fs.map fldD := by
    intro ds
    induction ds with
    | nil => exact fun _ => ⟨[], rfl⟩
    | cons d ds ih =>
      intro h
      obtain ⟨fs, rfl⟩ := ih fun e he => h e (List.mem_cons_of_mem _ he)
      have h1 := h d List.mem_cons_self
      suffices z : ∃ fl, d = fldD fl by
        obtain ⟨fl, rfl⟩ := z
        exact ⟨fl :: fs, rfl⟩
      unfold isFldT at h1
      split at h1
      · rename_i w r
        unfold isFieldD at h1
        split at h1
        · rename_i c
          subst c
          unfold isMoreD at h1
          split at h1
          · exact ⟨.more _ _, rfl⟩
          · cases h1
        · split at h1
          · rename_i c
            subst c
            unfold isRuleD at h1
            split at h1
            · exact ⟨.lead _ _, rfl⟩
            · cases h1
          · split at h1
            · rename_i c
              subst c
              unfold isRowsD at h1
              split at h1
              · rename_i rs
                rw [Bool.and_eq_true] at h1
                have h2 := List.all_eq_true.mp h1.2
                suffices z : ∃ rows : List (List Int), rs = rows.map planD by
                  obtain ⟨rows, rfl⟩ := z
                  exact ⟨.tab rows, rfl⟩
                clear h1 h
                induction rs with
                | nil => exact ⟨[], rfl⟩
                | cons d rs ih2 =>
                  obtain ⟨rows, rfl⟩ := ih2 fun e he => h2 e (List.mem_cons_of_mem _ he)
                  have h3 := h2 d List.mem_cons_self
                  unfold areNumsD at h3
                  split at h3
                  · rename_i xs
                    rw [Bool.and_eq_true] at h3
                    suffices z : ∃ r : List Int, xs = r.map PyData.int by
                      obtain ⟨r, rfl⟩ := z
                      exact ⟨r :: rows, rfl⟩
                    have h4 := List.all_eq_true.mp h3.2
                    clear h3 h2 ih2
                    induction xs with
                    | nil => exact ⟨[], rfl⟩
                    | cons x xs ih3 =>
                      obtain ⟨r, rfl⟩ := ih3 fun e he => h4 e (List.mem_cons_of_mem _ he)
                      have h5 := h4 x List.mem_cons_self
                      unfold isNumD at h5
                      split at h5
                      · rename_i z
                        exact ⟨z :: r, rfl⟩
                      · cases h5
                  · cases h3
              · cases h1
            · cases h1
      · cases h1
  obtain ⟨fs, rfl⟩ := key ds (bad_none.mp h).2.2.2
  exact ⟨fs, rfl, bad_ok.mp h⟩
end Hf
namespace Hf
instance {x : Int} : Decidable (Sm x) := by unfold Sm; infer_instance
theorem sm_abs {x : Int} (h : Sm x) : x.natAbs < 2 ^ 120 := by
  obtain ⟨h1, h2⟩ := h
  omega
end Hf
theorem gcd_step {x y : Int} (hx : 0 ≤ x) (hy : 0 < y) : Int.gcd y (x % y) = Int.gcd x y := by
  obtain ⟨m, rfl⟩ := Int.eq_ofNat_of_zero_le hx
  obtain ⟨n, rfl⟩ := Int.eq_ofNat_of_zero_le (Int.le_of_lt hy)
  show Nat.gcd _ _ = Nat.gcd _ _
  have e : ((m : Int) % (n : Int)) = ((m % n : Nat) : Int) := rfl
  rw [e]
  show Nat.gcd n (m % n) = Nat.gcd m n
  rw [Nat.gcd_comm n (m % n), ← Nat.gcd_rec n m, Nat.gcd_comm]
theorem gcd_zero {x : Int} (hx : 0 ≤ x) : (Int.gcd x 0 : Int) = x := by
  rw [Int.gcd_zero]
  omega
theorem abs_if {x : Int} : (if x < 0 then -x else x) = (x.natAbs : Int) := by
  split <;> omega
theorem gcd_abs {x y : Int} : Int.gcd (x.natAbs : Int) (y.natAbs : Int) = Int.gcd x y := rfl
/-- the divisor with the bottom's sign -/
def sgcd (x y : Int) : Int := if y < 0 then 0 - (Int.gcd x y : Int) else (Int.gcd x y : Int)
theorem gcd_pos {x y : Int} (h : y ≠ 0) : 0 < Int.gcd x y := Nat.pos_of_ne_zero fun z => h (Int.gcd_eq_zero_iff.mp z).2
theorem sgcd_ne {x y : Int} (h : y ≠ 0) : sgcd x y ≠ 0 := by
  have := gcd_pos (x := x) h
  unfold sgcd
  split <;> omega
theorem gcd_le {x y : Int} (h : y ≠ 0) : Int.gcd x y ≤ y.natAbs := Nat.le_of_dvd (by omega) (Int.gcd_dvd_natAbs_right x y)
theorem sgcd_le {x y : Int} (h : y ≠ 0) : (sgcd x y).natAbs ≤ y.natAbs := by
  have := gcd_le (x := x) h
  unfold sgcd
  split <;> omega
theorem fdiv_abs_le {x g : Int} (hg : g ≠ 0) (hd : g ∣ x) : (x.fdiv g).natAbs ≤ x.natAbs := by
  obtain ⟨k, rfl⟩ := hd
  rw [Int.mul_fdiv_cancel_left _ hg, Int.natAbs_mul]
  exact Nat.le_mul_of_pos_left _ (by omega)
theorem sgcd_dvd_left (x y : Int) : sgcd x y ∣ x := by
  unfold sgcd
  split
  · rw [Int.zero_sub]
    exact Int.neg_dvd.mpr (Int.gcd_dvd_left x y)
  · exact Int.gcd_dvd_left x y
theorem sgcd_dvd_right (x y : Int) : sgcd x y ∣ y := by
  unfold sgcd
  split
  · rw [Int.zero_sub]
    exact Int.neg_dvd.mpr (Int.gcd_dvd_right x y)
  · exact Int.gcd_dvd_right x y
def ltop (x y : Int) : Int := x.fdiv (sgcd x y)
def lbot (x y : Int) : Int := y.fdiv (sgcd x y)
theorem ltop_le {x y : Int} (h : y ≠ 0) : (ltop x y).natAbs ≤ x.natAbs := fdiv_abs_le (sgcd_ne h) (sgcd_dvd_left x y)
theorem lbot_le {x y : Int} (h : y ≠ 0) : (lbot x y).natAbs ≤ y.natAbs := fdiv_abs_le (sgcd_ne h) (sgcd_dvd_right x y)
theorem lbot_pos {x y : Int} (h : y ≠ 0) : 0 < lbot x y := by
  unfold lbot
  have h1 := sgcd_dvd_right x y
  have hg := gcd_pos (x := x) h
  have h0 := sgcd_ne (x := x) h
  obtain ⟨k, hk⟩ := h1
  have e : y.fdiv (sgcd x y) = k := by
    conv => lhs; lhs; rw [hk]
    exact Int.mul_fdiv_cancel_left _ h0
  rw [e]
  rcases Int.lt_trichotomy y 0 with hy | hy | hy
  · have hs : sgcd x y < 0 := by
      unfold sgcd
      rw [if_pos hy]
      omega
    rcases Int.lt_trichotomy k 0 with z | z | z
    · have := Int.mul_pos_of_neg_of_neg hs z
      omega
    · rw [z, Int.mul_zero] at hk
      omega
    · exact z
  · exact absurd hy h
  · have hs : 0 < sgcd x y := by
      unfold sgcd
      rw [if_neg (by omega)]
      omega
    rcases Int.lt_trichotomy k 0 with z | z | z
    · have := Int.mul_neg_of_pos_of_neg hs z
      omega
    · rw [z, Int.mul_zero] at hk
      omega
    · exact z
/-! ## mixes among any data -/
namespace Hf
open PySem PySem.Spec PyProof.Rows L2
def isNumsD : PyData → Bool
  | .list ns => ns.all isNumD
  | _ => false
def isWtD : PyData → Bool
  | .int w => decide (1 ≤ w)
  | _ => false
def isPartD : PyData → Bool
  | .tuple [d, e] => isNumsD d && isWtD e
  | _ => false
theorem sum_nn0 : ∀ {ps : List Int}, (∀ x ∈ ps, 0 ≤ x) → 0 ≤ ps.sum
  | [], _ => by simp
  | x :: ps, h => by
    have := sum_nn0 fun y hy => h y (List.mem_cons_of_mem _ hy)
    have := h x (by simp)
    rw [List.sum_cons]
    omega
theorem nums_of : ∀ {ns : List PyData}, ns.all isNumD = true → ∃ p : List Int, ns = p.map PyData.int
  | [], _ => ⟨[], rfl⟩
  | d :: ns, h => by
    rw [List.all_cons, Bool.and_eq_true] at h
    obtain ⟨x, rfl⟩ := num_inv h.1
    obtain ⟨p, rfl⟩ := nums_of h.2
    exact ⟨x :: p, rfl⟩
theorem isPart_mk {pw : List Int × Int} (h : 1 ≤ pw.2) : isPartD (partD pw) = true := by
  show ((pw.1.map PyData.int).all isNumD && decide (1 ≤ pw.2)) = true
  rw [all_num, decide_eq_true h]
  rfl
theorem nums_inv {d : PyData} (h : isNumsD d = true) : ∃ p : List Int, d = planD p := by
  cases d with
  | list ns =>
    obtain ⟨p, rfl⟩ := nums_of h
    exact ⟨p, rfl⟩
  | _ => cases h
theorem wt_inv {d : PyData} (h : isWtD d = true) : ∃ w : Int, d = .int w ∧ 1 ≤ w := by
  cases d with
  | int w => exact ⟨w, rfl, of_decide_eq_true h⟩
  | _ => cases h
theorem part_of {d : PyData} (h : isPartD d = true) : ∃ pw : List Int × Int, d = partD pw ∧ 1 ≤ pw.2 := by
  unfold isPartD at h
  split at h
  · rw [Bool.and_eq_true] at h
    obtain ⟨p, rfl⟩ := nums_inv h.1
    obtain ⟨w, rfl, h2⟩ := wt_inv h.2
    exact ⟨(p, w), rfl, h2⟩
  · cases h
theorem parts_of : ∀ {ds : List PyData}, (∀ d ∈ ds, isPartD d = true) → ∃ m : List (List Int × Int), ds = m.map partD ∧ ∀ pw ∈ m, 1 ≤ pw.2
  | [], _ => ⟨[], rfl, by simp⟩
  | d :: ds, h => by
    obtain ⟨pw, rfl, h1⟩ := part_of (h d (by simp))
    obtain ⟨m, rfl, h2⟩ := parts_of fun e he => h e (List.mem_cons_of_mem _ he)
    refine ⟨pw :: m, rfl, fun x hx => ?_⟩
    rcases List.mem_cons.mp hx with rfl | g
    · exact h1
    · exact h2 x g
/-- a mix of plans of h hosts and n fields, of any length -/
structure MixG (h : Int) (n : Nat) (m : List (List Int × Int)) : Prop where
  ne : 1 ≤ m.length
  fl : 1 ≤ n ∧ n ≤ 8
  ho : 0 ≤ h ∧ h ≤ 40
  pl : ∀ pw ∈ m, PlanC h n pw.1 ∧ 1 ≤ pw.2
def IsMix (d : PyData) : Prop := ∃ h n m, d = mixD m ∧ MixG h n m
noncomputable def isMixB (d : PyData) : Bool := @decide (IsMix d) (Classical.propDecidable _)
/-- a mix of plans of h hosts and n fields -/
def IsMixOf (h : Int) (n : Nat) (d : PyData) : Prop := ∃ m, d = mixD m ∧ MixG h n m
theorem isMix_iff {d : PyData} : isMixB d = true ↔ IsMix d := @decide_eq_true_iff _ (Classical.propDecidable _)
theorem isMix_no {d : PyData} : isMixB d = false ↔ ¬ IsMix d := @decide_eq_false_iff_not _ (Classical.propDecidable _)
noncomputable def isPlanB (h : Int) (n : Nat) (p : List Int) : Bool := @decide (PlanC h n p) (Classical.propDecidable _)
theorem isPlan_iff {h : Int} {n : Nat} {p : List Int} : isPlanB h n p = true ↔ PlanC h n p := @decide_eq_true_iff _ (Classical.propDecidable _)
theorem isPlan_eq {h : Int} {n : Nat} {p : List Int} {b : Bool} (e : b = true ↔ PlanC h n p) : b = isPlanB h n p := by
  rw [Bool.eq_iff_iff, e, isPlan_iff]
theorem partD_inj {a b : List Int × Int} (h : partD a = partD b) : a = b := by
  simp only [partD] at h
  injection h with h
  injection h with h1 h2
  injection h2 with h2 _
  injection h2 with h2
  exact Prod.ext (planD_inj h1) h2
theorem mixD_inj {a b : List (List Int × Int)} (h : mixD a = mixD b) : a = b := by
  simp only [mixD] at h
  injection h with h
  exact (List.map_inj_right fun x y e => partD_inj e).mp h
theorem mix_nolist {d : PyData} (h : isLstD d = false) : isMixB d = false := isMix_no.mpr fun ⟨_, _, m, e, _⟩ => by
  rw [e] at h
  cases h
theorem mix_nil : isMixB (.list []) = false := isMix_no.mpr fun ⟨_, _, m, e, k⟩ => by
  have : mixD m = mixD [] := e.symm
  rw [mixD_inj this] at k
  have := k.ne
  simp at this
theorem mix_nopart {ds : List PyData} {k : Nat} {d : PyData} (e : ds[k]? = some d) (h : isPartD d = false) : isMixB (.list ds) = false := isMix_no.mpr fun ⟨_, _, m, e1, g⟩ => by
  injection e1 with e1
  rw [e1, List.getElem?_map] at e
  cases c : m[k]? with
  | none => rw [c] at e; cases e
  | some pw =>
    rw [c] at e
    cases e
    rw [isPart_mk (g.pl pw (List.mem_of_getElem? c)).2] at h
    cases h
theorem MixG.inj {h h' : Int} {n n' : Nat} {m : List (List Int × Int)} (a : MixG h n m) (b : MixG h' n' m) : h = h' ∧ n = n' := by
  obtain ⟨pw, hp⟩ : ∃ pw, pw ∈ m := List.exists_mem_of_length_pos a.ne
  have h1 := (a.pl pw hp).1
  have h2 := (b.pl pw hp).1
  exact ⟨h1.2.1.symm.trans h2.2.1, h1.1.symm.trans h2.1⟩
/-- of true parts: by the first one -/
theorem mix_first {m : List (List Int × Int)} {pw : List Int × Int} (e : m[0]? = some pw) : IsMix (mixD m) ↔ MixG pw.1.sum pw.1.length m := by
  refine ⟨fun ⟨h, n, m', e1, g⟩ => ?_, fun g => ⟨_, _, m, rfl, g⟩⟩
  obtain rfl := mixD_inj e1
  have h1 := (g.pl pw (List.mem_of_getElem? e)).1
  rw [h1.2.1, h1.1]
  exact g
theorem MixOk.g {h : Int} {n : Nat} {m : List (List Int × Int)} (k : MixOk h n m) : MixG h n m := ⟨k.ne.1, k.fl, k.ho, k.pl⟩
theorem MixOk.is {h : Int} {n : Nat} {m : List (List Int × Int)} (k : MixOk h n m) : IsMix (mixD m) := ⟨h, n, m, rfl, k.g⟩
theorem widA_ints : ∀ p : List Int, widA (p.map PyData.int) = 0
  | [] => by simp [widA]
  | x :: p => by
    rw [List.map_cons, widA, widA_ints p]
    simp [wid]
theorem wid_part (pw : List Int × Int) : wid (partD pw) = max 2 pw.1.length := by
  simp [partD, planD, wid, widA, widA_ints]
theorem wid_mix {k : Nat} : ∀ {m : List (List Int × Int)}, m.length ≤ k → 2 ≤ k → (∀ pw ∈ m, pw.1.length ≤ k) → wid (mixD m) ≤ k := by
  intro m h1 h2 h3
  have : widA (m.map partD) ≤ k := widA_le fun d hd => by
    obtain ⟨pw, hp, rfl⟩ := List.mem_map.mp hd
    rw [wid_part]
    have := h3 pw hp
    omega
  rw [mixD, wid, List.length_map]
  omega
theorem MixOk.wid {h : Int} {n : Nat} {m : List (List Int × Int)} (k : MixOk h n m) : wid (mixD m) ≤ 1000 := by
  have h1 := k.ne
  have h2 := k.fl
  exact wid_mix (by omega) (by omega) fun pw hp => by
    have := (k.pl pw hp).1.1
    omega
theorem wid_mem {ds : List PyData} {d : PyData} {k : Nat} (h : wid (.list ds) ≤ k) (hd : d ∈ ds) : wid d ≤ k := by
  have := widA_mem hd
  rw [Hf.wid] at h
  omega
end Hf
namespace Hf
open PySem PySem.Spec PyProof.Rows L2
/-! ### what mixes win against one another -/
def tot1 (fs : List Fld) (p : List Int) (w : Int) (m : List (List Int × Int)) : Int := (m.map fun q => w * q.2 * gainV fs p q.1).sum
def mixTot (fs : List Fld) (m1 m2 : List (List Int × Int)) : Int := (m1.map fun p => tot1 fs p.1 p.2 m2).sum
theorem tot1_snoc {fs : List Fld} {p : List Int} {w : Int} {m : List (List Int × Int)} {i : Nat} {q : List Int × Int} (e : m[i]? = some q) : tot1 fs p w (m.take (i + 1)) = tot1 fs p w (m.take i) + w * q.2 * gainV fs p q.1 := by
  unfold tot1
  rw [take_snoc e, List.map_append, List.sum_append]
  simp
theorem mixTot_snoc {fs : List Fld} {m1 m2 : List (List Int × Int)} {i : Nat} {p : List Int × Int} (e : m1[i]? = some p) : mixTot fs (m1.take (i + 1)) m2 = mixTot fs (m1.take i) m2 + tot1 fs p.1 p.2 m2 := by
  unfold mixTot
  rw [take_snoc e, List.map_append, List.sum_append]
  simp
end Hf
namespace Hf
open PySem PySem.Spec PyProof.Rows L2
theorem sum_abs {B : Nat} : ∀ {l : List Int}, (∀ x ∈ l, x.natAbs ≤ B) → l.sum.natAbs ≤ l.length * B
  | [], _ => by simp
  | x :: l, h => by
    have h1 := sum_abs fun y hy => h y (List.mem_cons_of_mem _ hy)
    have h2 := h x (by simp)
    have h3 := Int.natAbs_add_le x l.sum
    rw [List.sum_cons, List.length_cons, Nat.add_mul]
    omega
theorem paid_sm {fl : Fld} (h : FldSm fl) (x y : Int) : (paidV fl x y).natAbs ≤ 2 ^ 110 := by
  cases fl with
  | more w t =>
    have h1 := h.1
    have h2 := h.2
    unfold Sm at h1 h2
    show (if x = y then t else if x > y then w else 0 - w).natAbs ≤ _
    split
    · omega
    · split <;> omega
  | lead w t =>
    have h1 := h.1
    unfold Sm at h1
    show (if x ≥ y + t then w else 0 - w).natAbs ≤ _
    split <;> omega
  | tab rows =>
    show ((((rows[x.toNat]?).getD [])[y.toNat]?).getD 0).natAbs ≤ _
    cases e1 : rows[x.toNat]? with
    | none => simp
    | some r =>
      show ((r[y.toNat]?).getD 0).natAbs ≤ _
      cases e2 : r[y.toNat]? with
      | none => simp
      | some z =>
        have h1 := h r (List.mem_of_getElem? e1) z (List.mem_of_getElem? e2)
        unfold Sm at h1
        show z.natAbs ≤ _
        omega
theorem gain_sm {fs : List Fld} (h : ∀ x ∈ fs, FldSm x) (hl : fs.length ≤ 5) (ms ns : List Int) : (gainV fs ms ns).natAbs < 2 ^ 120 := by
  have := sum_abs (B := 2 ^ 110) (l := (List.range fs.length).map fun i : Nat => paidV (fldAt fs i) (nAt ms i) (nAt ns i)) fun x hx => by
    obtain ⟨i, hi, rfl⟩ := List.mem_map.mp hx
    have hi := List.mem_range.mp hi
    refine paid_sm (h _ ?_) _ _
    unfold fldAt
    rw [show (Int.toNat (i : Int)) = i by omega, List.getElem?_eq_getElem hi]
    exact List.getElem_mem hi
  rw [List.length_map, List.length_range] at this
  unfold gainV
  have : fs.length * 2 ^ 110 ≤ 5 * 2 ^ 110 := Nat.mul_le_mul_right _ hl
  omega
/-- weights, how many, and fields that are not great -/
def WtSm (m : List (List Int × Int)) : Prop := m.length ≤ 50 ∧ ∀ pw ∈ m, 0 ≤ pw.2 ∧ pw.2 ≤ 10000000000000000000000000000
theorem WtSm.abs {m : List (List Int × Int)} (h : WtSm m) {pw : List Int × Int} (hp : pw ∈ m) : pw.2.natAbs ≤ 2 ^ 100 := by
  have := h.2 pw hp
  omega
theorem WtSm.whole {m : List (List Int × Int)} (h : WtSm m) : (whole m).natAbs < 2 ^ 110 := by
  have := sum_abs (B := 2 ^ 100) (l := m.map Prod.snd) fun x hx => by
    obtain ⟨i, hi, rfl⟩ := List.mem_map.mp hx
    exact h.abs hi
  rw [List.length_map] at this
  have h2 : m.length * 2 ^ 100 ≤ 50 * 2 ^ 100 := Nat.mul_le_mul_right _ h.1
  unfold Hf.whole
  omega
theorem abs3 {a b c : Int} (h1 : a.natAbs ≤ 2 ^ 100) (h2 : b.natAbs ≤ 2 ^ 100) (h3 : c.natAbs ≤ 2 ^ 120) : (a * b * c).natAbs ≤ 2 ^ 320 := by
  rw [Int.natAbs_mul, Int.natAbs_mul]
  calc a.natAbs * b.natAbs * c.natAbs ≤ 2 ^ 100 * 2 ^ 100 * 2 ^ 120 := Nat.mul_le_mul (Nat.mul_le_mul h1 h2) h3
    _ = 2 ^ 320 := by decide +kernel
theorem tot1_sm {fs : List Fld} (h : ∀ x ∈ fs, FldSm x) (hl : fs.length ≤ 5) {p : List Int} {w : Int} (hw : w.natAbs ≤ 2 ^ 100) {m : List (List Int × Int)} (hm : WtSm m) : (tot1 fs p w m).natAbs ≤ 2 ^ 330 := by
  have := sum_abs (B := 2 ^ 320) (l := m.map fun q => w * q.2 * gainV fs p q.1) fun x hx => by
    obtain ⟨q, hq, rfl⟩ := List.mem_map.mp hx
    exact abs3 hw (hm.abs hq) (Nat.le_of_lt (gain_sm h hl _ _))
  rw [List.length_map] at this
  have h2 : m.length * 2 ^ 320 ≤ 50 * 2 ^ 320 := Nat.mul_le_mul_right _ hm.1
  unfold tot1
  have h3 : 50 * 2 ^ 320 ≤ 2 ^ 330 := by decide +kernel
  omega
theorem mixTot_sm {fs : List Fld} (h : ∀ x ∈ fs, FldSm x) (hl : fs.length ≤ 5) {m1 m2 : List (List Int × Int)} (h1 : WtSm m1) (h2 : WtSm m2) : (mixTot fs m1 m2).natAbs < 2 ^ 400 := by
  have := sum_abs (B := 2 ^ 330) (l := m1.map fun p => tot1 fs p.1 p.2 m2) fun x hx => by
    obtain ⟨q, hq, rfl⟩ := List.mem_map.mp hx
    exact tot1_sm h hl (h1.abs hq) h2
  rw [List.length_map] at this
  have h2 : m1.length * 2 ^ 330 ≤ 50 * 2 ^ 330 := Nat.mul_le_mul_right _ h1.1
  unfold mixTot
  have h3 : 50 * 2 ^ 330 < 2 ^ 400 := by decide +kernel
  omega
theorem whole2_sm {m1 m2 : List (List Int × Int)} (h1 : WtSm m1) (h2 : WtSm m2) : (whole m1 * whole m2).natAbs < 2 ^ 400 := by
  rw [Int.natAbs_mul]
  have a := h1.whole
  have b := h2.whole
  calc (whole m1).natAbs * (whole m2).natAbs ≤ 2 ^ 110 * 2 ^ 110 := Nat.mul_le_mul (Nat.le_of_lt a) (Nat.le_of_lt b)
    _ < 2 ^ 400 := by decide +kernel
theorem mul_pp {a b : Int} (h1 : a.natAbs ≤ 2 ^ 100) (h2 : b.natAbs ≤ 2 ^ 100) : CMulA a b := mulW (a := 101) (b := 101) (by omega) (by omega) (by decide) (by decide) (by decide)
theorem mul_ppg {a b c : Int} (h1 : a.natAbs ≤ 2 ^ 100) (h2 : b.natAbs ≤ 2 ^ 100) (h3 : c.natAbs < 2 ^ 120) : CMulA (a * b) c := mulW (a := 201) (b := 120) (by
  rw [Int.natAbs_mul]
  calc a.natAbs * b.natAbs ≤ 2 ^ 100 * 2 ^ 100 := Nat.mul_le_mul h1 h2
    _ < 2 ^ 201 := by decide +kernel) h3 (by decide) (by decide) (by decide)
theorem mul_ww {a b : Int} (h1 : a.natAbs < 2 ^ 110) (h2 : b.natAbs < 2 ^ 110) : CMulA a b := mulW h1 h2 (by decide) (by decide) (by decide)
end Hf
namespace Hf
theorem whole_ge {h : Int} {n : Nat} {m : List (List Int × Int)} (k : MixG h n m) : 1 ≤ whole m := by
  have h1 : ∀ r : List (List Int × Int), (∀ pw ∈ r, 1 ≤ pw.2) → (r.length : Int) ≤ whole r := by
    intro r
    induction r with
    | nil => intro _; exact Int.le_refl _
    | cons pw r ih =>
      intro g
      have := ih fun x hx => g x (List.mem_cons_of_mem _ hx)
      have := g pw (List.mem_cons_self)
      rw [whole_cons, List.length_cons]
      omega
  have := h1 m fun pw hp => (k.pl pw hp).2
  have := k.ne
  omega
end Hf
namespace Hf
open PySem PySem.Spec PyProof.Rows L2
theorem wt_sm {m : List (List Int × Int)} (h : WtOk m) (k : ∀ pw ∈ m, 1 ≤ pw.2) : WtSm m := ⟨by have := h.1; omega, fun pw hp => ⟨by have := k pw hp; omega, h.2 pw hp⟩⟩
theorem MixOk.sm {h : Int} {n : Nat} {m : List (List Int × Int)} (k : MixOk h n m) (w : WtOk m) : WtSm m := wt_sm w fun pw hp => (k.pl pw hp).2
end Hf
namespace Hf
open PySem PySem.Spec PyProof.Rows L2
/-- the parts of a mix lie beside its list -/
theorem parts_hid {H : Hp} {a : Addr} {xs : List V} {m : List (List Int × Int)} (h : H a = some (.lst xs)) (q : DqAll H xs (m.map partD)) (ne : 1 ≤ m.length) : DqAll (hid [a] H) xs (m.map partD) := by
  have key : ∀ {ys : List V} {r : List (List Int × Int)}, DqAll H ys (r.map partD) → DqAll (hid [a] H) ys (r.map partD) := by
    intro ys r
    induction r generalizing ys with
    | nil => intro q; cases q; exact .nil
    | cons pw r ih =>
      intro q
      cases q with
      | cons q1 q2 =>
        obtain ⟨t, p, rfl, e1, e2⟩ := part_inv q1
        have ht : t ≠ a := fun e => by rw [e, h] at e1; cases e1
        have hp : p ≠ a := fun e => by
          rw [e, h] at e2
          cases e2
          cases m with
          | nil => simp at ne
          | cons pv m =>
            cases hx : pw.1 with
            | nil => rw [hx] at q; cases q
            | cons x u =>
              rw [hx, List.map_cons] at q
              cases q with
              | cons q3 _ =>
                obtain ⟨_, _, c, _⟩ := part_inv q3
                cases c
        exact .cons (part_mk (hid_lk (not_in1 ht) e1) (hid_lk (not_in1 hp) e2)) (ih q2)
  exact key q
end Hf
namespace Hf
open PySem PySem.Spec PyProof.Rows L2
theorem lay_part (pw : List Int × Int) : (partD pw).canLay0 = true := by
  rw [partD]
  simp [PyData.canLay0, PyData.canLayAll0, lay_plan]
theorem lay_mix (m : List (List Int × Int)) : (mixD m).canLay0 = true := by
  rw [mixD, PyData.canLay0]
  exact lay_all fun d hd => by
    obtain ⟨pw, _, rfl⟩ := List.mem_map.mp hd
    exact lay_part pw
theorem dep_mix (m : List (List Int × Int)) : dep (mixD m) ≤ 3 := by
  have : depA (m.map partD) ≤ 2 := depA_le fun d hd => by
    obtain ⟨pw, _, rfl⟩ := List.mem_map.mp hd
    simp [partD, dep, depA, dep_plan]
  rw [mixD, dep]
  omega
theorem shaped_kept (f s : Int) (fs : List Fld) (m1 m2 : List (List Int × Int)) : SeqAt.shaped (.list [batD f s fs, mixD m1, mixD m2]) = true := by
  have h1 := dep_bat f s fs
  have h2 := dep_mix m1
  have h3 := dep_mix m2
  refine shaped_of ?_ ?_
  · simp [PyData.canLay0, PyData.canLayAll0, lay_bat, lay_mix]
  · simp only [dep, depA]
    omega
end Hf
namespace Hf
open PySem PySem.Spec PyProof.Rows L2
theorem MixG.snoc {h : Int} {n : Nat} {m : List (List Int × Int)} {p : List Int} {w : Int} (k : MixG h n m) (hp : PlanC h n p) (hw : 1 ≤ w) : MixG h n (m ++ [(p, w)]) := ⟨by simp, k.fl, k.ho, fun pw hpw => by
  rcases List.mem_append.mp hpw with g | g
  · exact k.pl pw g
  · rw [List.mem_singleton.mp g]
    exact ⟨hp, hw⟩⟩
theorem MixG.cons {h : Int} {n : Nat} {m : List (List Int × Int)} {p : List Int} {w : Int} (k : MixG h n m) (hp : PlanC h n p) (hw : 1 ≤ w) : MixG h n ((p, w) :: m) := ⟨by simp, k.fl, k.ho, fun pw hpw => by
  rcases List.mem_cons.mp hpw with g | g
  · rw [g]
    exact ⟨hp, hw⟩
  · exact k.pl pw g⟩
theorem WtSm.snoc {m : List (List Int × Int)} {p : List Int} {w : Int} (k : WtSm m) (hl : m.length ≤ 40) (hw : 0 ≤ w ∧ w ≤ 10) : WtSm (m ++ [(p, w)]) := ⟨by simp; omega, fun pw hp => by
  rcases List.mem_append.mp hp with g | g
  · exact k.2 pw g
  · rw [List.mem_singleton.mp g]
    exact ⟨hw.1, by show w ≤ _; omega⟩⟩
theorem WtSm.cons {m : List (List Int × Int)} {p : List Int} {w : Int} (k : WtSm m) (hl : m.length ≤ 40) (hw : 0 ≤ w ∧ w ≤ 10) : WtSm ((p, w) :: m) := ⟨by simp; omega, fun pw hp => by
  rcases List.mem_cons.mp hp with g | g
  · rw [g]
    exact ⟨hw.1, by show w ≤ _; omega⟩
  · exact k.2 pw g⟩
theorem MixG.wid {h : Int} {n : Nat} {m : List (List Int × Int)} (k : MixG h n m) (hl : m.length ≤ 1000) : wid (mixD m) ≤ 1000 := wid_mix hl (by omega) fun pw hp => by
  have := (k.pl pw hp).1.1
  have := k.fl
  omega
end Hf
namespace Hf
open PySem PySem.Spec PyProof.Rows L2
/-- the last item -/
theorem atI_end {α : Type} {xs : List α} {x : α} (h : xs[xs.length - 1]? = some x) : atI xs (-1) = some x := by
  have hl : 1 ≤ xs.length := by
    have := (List.getElem?_eq_some_iff.mp h).1
    omega
  have e : ixN xs.length (-1) = some (xs.length - 1) := by
    unfold ixN
    rw [if_neg (by omega), if_pos (by omega)]
    congr 1
    omega
  unfold atI
  rw [e]
  exact h
end Hf
/-! ## comprehensions over enumerate(list) -/
namespace Hf
open PySem PySem.Spec PyProof.Rows L2
section
variable {σ : L2.St} {H H1 : Hp} {Q : VK} {K : PySem.W.Frag} {D a : Addr} {wi : TI} {g : TG} {tt : TT} {te : TE} {vs : List Nat} {xs : List V} {Qd : Hp → Prop}
theorem lcE_int (f : Nat → Int) (nD : H1 D = none) (hn : xs.length ≤ 1000) (hx : SqL K H1 a xs)
    (hs : ∀ (i : Nat) (x : V) (T : Addr) H (Z : VK) (Y : Hp → Prop), xs[i]? = some x → Same H1 H → H T = none → (∀ H4, Same H H4 → Z (.int (f i)) H4) → LcTurn g tt te vs σ (.ref T) (L2.upd H T (.tup [.int (i : Nat), x])) Z Y)
    (hd : ∀ H, Same H1 H → H D = some (.lst (((List.range xs.length).map f).map V.int)) → Qd H) :
    ∃ W : Nat → Nat → Hp → Prop, (∃ m, W 0 m (L2.upd H1 D (.lst []))) ∧ ∀ i m H, W i m H →
      ((Ite K a).stop i H ∧ Qd H) ∨ ((Ite K a).go i H ∧ ∃ Nx : Hp → Prop, (∀ H', Nx H' → ∃ m', m' < m ∧ W (i + 1) m' H') ∧ ∀ x H', (Ite K a).yld i H x H' → g x (wipe σ vs) H' fun σ2 H2 => wipe σ2 vs = wipe σ vs ∧ tt σ2 H2 fun b H3 =>
        if b = true then te σ2 H3 fun y H4 => ∃ acc, H4 D = some (.lst acc) ∧ acc.length < sizeLine ∧ Nx (L2.upd H4 D (.lst (acc ++ [y]))) else Nx H3) := by
  let P : Nat → Hp → Prop := fun i H => Same H1 H ∧ H D = some (.lst (((List.range i).map f).map V.int))
  refine ⟨fun i m H => m = xs.length - i ∧ i ≤ xs.length ∧ P i H, ⟨xs.length, by simp, Nat.zero_le _, Same.new nD, L2.upd_same⟩, ?_⟩
  rintro i m H ⟨rfl, hi, hsame, hD⟩
  by_cases hlt : i < xs.length
  · have hx' : xs[i]? = some xs[i] := List.getElem?_eq_getElem hlt
    have qx : SqL K H a xs := hsame.seq hx
    have hz : ((((List.range i).map f).map V.int)).length < sizeLine := sz4' (by simp; omega)
    refine .inr ⟨⟨xs, _, qx, hx'⟩, P (i + 1), fun H' p' => ⟨xs.length - (i + 1), by omega, rfl, hlt, p'⟩, fun v H' y => ?_⟩
    obtain ⟨T, x', rfl, hT, rfl, f1⟩ := y
    have e1 := (f1 xs qx).symm.trans hx'
    cases e1
    refine hs i xs[i] T H _ _ hx' hsame hT fun H4 h4 => ⟨_, h4 _ _ hD, hz, Same.mut (hsame.trans h4) nD, ?_⟩
    rw [L2.upd_same, List.range_succ, List.map_append, List.map_append]
    rfl
  · have e : i = xs.length := by omega
    subst e
    exact .inl ⟨⟨xs, hsame.seq hx, Nat.le_refl _⟩, hd H hsame hD⟩
theorem i_ienum {ta : TA} {R : It → Hp → Prop} (h : ta σ H fun vs H1 => ∃ a xs, vs = [.ref a] ∧ SqL K H1 a xs ∧ R (Ite K a) H1) : iEnum K ta σ H R := h
theorem i_ienum' {R : Addr → Prop} (h1 : SqL K H a xs) (q : R a) : ∃ a' xs, [V.ref a] = [.ref a'] ∧ SqL K H a' xs ∧ R a' := ⟨a, xs, rfl, h1, q⟩
end
theorem _root_.L2.Same.but {G H1 H2 : Hp} {a : Addr} (s : Same G H1) (e : But a H1 H2) (n : G a = none) : Same G H2 := fun b o h => e b o (fun c => by rw [c, n] at h; cases h) (s b o h)
theorem Newly.back' {H G : Hp} {p : Addr} {o : HO} (n : Newly H G) (h : G p = some o) : H p = none := by
  cases e : H p with
  | none => rfl
  | some u =>
    rw [n p u e] at h
    cases h
theorem i_revR {K : PySem.W.Frag} {te : TE} {σ : L2.St} {H : Hp} {Q : VK} (h : te σ H fun x H1 => ∃ a xs, x = .ref a ∧ SqL K H1 a xs ∧ ∀ p, H1 p = none → Q (.ref p) (L2.upd H1 p (.lst xs.reverse))) : tRevL K te σ H Q := h
theorem i_revR' {K : PySem.W.Frag} {xs : List V} {p : Addr} {H : Hp} {Q : VK} (h : SqL K H p xs) (q : ∀ p, H p = none → Q (.ref p) (L2.upd H p (.lst xs.reverse))) : ∃ a xs, V.ref p = .ref a ∧ SqL K H a xs ∧ ∀ p, H p = none → Q (.ref p) (L2.upd H p (.lst xs.reverse)) := ⟨p, xs, rfl, h, q⟩
theorem pi_enumK {X : Cx} (K : PySem.W.Frag) (eK : X.K = K) {e : Expr} {ta : TA} {p pos tpos : Pos} {elts : List Expr} {kk : Nat} (hg : Gl X "enumerate") (hm : X.mg "enumerate" = none) (ha : PA X [e] ta) (hs : starEach [e] X.env = [(false, eval e X.env)] := by rfl) :
    PI X (.Tuple elts kk tpos) (.Call (.Name "enumerate" p) [e] [] pos) (iEnum K ta) := by
  subst eK
  exact pi_enum hg hm ha hs
end Hf
namespace K73
open PySem PySem.Spec PyProof.Rows L2 Hf
local macro_rules | `(tactic| walk_at "g_ne") => `(tactic| first | (with_reducible assumption) | (apply Hf.ne_at; (with_reducible assumption)) | ((with_reducible refine' Hf.ne_new ?n9 ?h9); (case n9 => (with_reducible assumption)); (case h9 => walk_at "g_lk")) | ((with_reducible refine' Hf.ne_new' ?n9 ?h9); (case n9 => (with_reducible assumption)); (case h9 => walk_at "g_lk")) | fail "g_ne")
local macro_rules | `(tactic| walk_at "g_lk") => `(tactic| first | (with_reducible assumption) | (with_reducible exact L2.upd_same) | ((with_reducible refine' Hf.lk_new ?n9 ?h9); (case n9 => (with_reducible assumption)); (case h9 => walk_at "g_lk")) | ((with_reducible refine' Hf.lk_updG ?g9 ?n9 ?h9); (case g9 => ((fail_if_success ((apply Hf.Guard.of); (with_reducible assumption))); exact trivial)); (case n9 => walk_at "g_ne"); (case h9 => walk_at "g_lk")) | ((with_reducible refine' Hf.lk_same ?n9 ?h9); (case n9 => (with_reducible assumption)); (case h9 => walk_at "g_lk")) | ((with_reducible refine' Hf.lk_but ?m9 ?n9 ?h9); (case m9 => (with_reducible assumption)); (case n9 => walk_at "g_ne"); (case h9 => walk_at "g_lk")) | ((with_reducible refine' Hf.lk_but2 ?m9 ?n9 ?n8 ?h9); (case m9 => (with_reducible assumption)); (case n9 => walk_at "g_ne"); (case n8 => walk_at "g_ne"); (case h9 => walk_at "g_lk")) | fail "g_lk")
local macro_rules | `(tactic| walk_at "g_sq") => `(tactic| first | (with_reducible assumption) | (with_reducible exact L2.SqL.of L2.upd_same) | (with_reducible exact L2.SqT.of L2.upd_same) | (with_reducible exact L2.SqL.of (by with_reducible assumption)) | (with_reducible exact L2.SqT.of (by with_reducible assumption)) | ((with_reducible refine' Hf.lkL_new ?n9 ?h9); (case n9 => (with_reducible assumption)); (case h9 => walk_at "g_sq")) | ((with_reducible refine' Hf.lkT_new ?n9 ?h9); (case n9 => (with_reducible assumption)); (case h9 => walk_at "g_sq")) | ((with_reducible refine' Hf.lkL_updG ?g9 ?n9 ?h9); (case g9 => ((fail_if_success ((apply Hf.Guard.of); (with_reducible assumption))); exact trivial)); (case n9 => walk_at "g_ne"); (case h9 => walk_at "g_sq")) | ((with_reducible refine' Hf.lkT_updG ?g9 ?n9 ?h9); (case g9 => ((fail_if_success ((apply Hf.Guard.of); (with_reducible assumption))); exact trivial)); (case n9 => walk_at "g_ne"); (case h9 => walk_at "g_sq")) | ((with_reducible refine' L2.Same.seq ?n9 ?h9); (case n9 => (with_reducible assumption)); (case h9 => walk_at "g_sq")) | ((with_reducible refine' Hf.Same.seqT ?n9 ?h9); (case n9 => (with_reducible assumption)); (case h9 => walk_at "g_sq")) | ((with_reducible refine' Hf.But.seq ?m9 ?n9 ?h9); (case m9 => (with_reducible assumption)); (case n9 => walk_at "g_ne"); (case h9 => walk_at "g_sq")) | ((with_reducible refine' Hf.But.seqT ?m9 ?n9 ?h9); (case m9 => (with_reducible assumption)); (case n9 => walk_at "g_ne"); (case h9 => walk_at "g_sq")) | ((with_reducible refine' Hf.But2.seq ?m9 ?n9 ?n8 ?h9); (case m9 => (with_reducible assumption)); (case n9 => walk_at "g_ne"); (case n8 => walk_at "g_ne"); (case h9 => walk_at "g_sq")) | ((with_reducible refine' Hf.But2.seqT ?m9 ?n9 ?n8 ?h9); (case m9 => (with_reducible assumption)); (case n9 => walk_at "g_ne"); (case n8 => walk_at "g_ne"); (case h9 => walk_at "g_sq")) | fail "g_sq")
local macro_rules | `(tactic| walk_at "g_but") => `(tactic| first | (with_reducible exact Hf.But.refl _ _) | (with_reducible assumption) | (with_reducible refine Hf.But.newT (by with_reducible assumption) ?_; walk_at "g_but") | (with_reducible refine Hf.But.upd ?_; walk_at "g_but") | (with_reducible refine Hf.But.transT (by with_reducible assumption) ?_; walk_at "g_but") | (with_reducible refine Hf.But.transS (by with_reducible assumption) ?_; walk_at "g_but") | fail "g_but")
local macro_rules | `(tactic| walk_at "g_but2") => `(tactic| first | (with_reducible exact Hf.But2.refl _ _ _) | (with_reducible assumption) | (with_reducible refine Hf.But2.newT (by with_reducible assumption) ?_; walk_at "g_but2") | (with_reducible refine Hf.But2.updL ?_; walk_at "g_but2") | (with_reducible refine Hf.But2.updR ?_; walk_at "g_but2") | (with_reducible refine Hf.But2.transT (by with_reducible assumption) ?_; walk_at "g_but2") | (with_reducible refine Hf.But2.transS (by with_reducible assumption) ?_; walk_at "g_but2") | (with_reducible refine Hf.But2.transL (by with_reducible assumption) ?_; walk_at "g_but2") | (with_reducible refine Hf.But2.transR (by with_reducible assumption) ?_; walk_at "g_but2") | (with_reducible refine Hf.But2.mut (by with_reducible assumption) ?_; walk_at "g_but2") | (with_reducible refine Hf.But2.butT (by with_reducible assumption) (by with_reducible assumption) ?_; walk_at "g_but2") | fail "g_but2")
local macro_rules | `(tactic| walk_at "g_same") => `(tactic| first | (with_reducible exact L2.Same.refl _) | (with_reducible assumption) | (with_reducible refine Hf.Same.newT' (by with_reducible assumption) ?_; walk_at "g_same") | (with_reducible refine Hf.Same.mut ?_ (by walk_at "g_free"); walk_at "g_same") | (with_reducible refine Hf.Same.butT (by with_reducible assumption) (by walk_at "g_free") ?_; walk_at "g_same") | (with_reducible refine Hf.Same.but2T (by with_reducible assumption) (by walk_at "g_free") (by walk_at "g_free") ?_; walk_at "g_same") | (with_reducible refine Hf.Same.transT (by with_reducible assumption) ?_; walk_at "g_same") | fail "g_same")
local macro_rules | `(tactic| walk_at "g_free") => `(tactic| first | (with_reducible assumption) | ((with_reducible refine' Hf.Same.free' (by with_reducible assumption) ?h7); (case h7 => walk_at "g_same")) | ((with_reducible refine' Hf.But.free (by with_reducible assumption) ?h7 ?h8); (case h7 => walk_at "g_but"); (case h8 => walk_at "g_lk")) | ((with_reducible refine' Hf.But2.free (by with_reducible assumption) ?h7 ?h8 ?h6); (case h7 => walk_at "g_but2"); (case h8 => walk_at "g_lk"); (case h6 => walk_at "g_lk")) | fail "g_free")
local macro_rules | `(tactic| walk_at "g_set") => `(tactic| first | (with_reducible exact Hf.set_n0) | (with_reducible exact Hf.set_n1) | (with_reducible exact Hf.set_n2) | (with_reducible exact Hf.set_n3) | (with_reducible exact Hf.set_n4) | (with_reducible exact Hf.set_n5) | (with_reducible exact Hf.set_n6) | (with_reducible exact Hf.set_n7) | (with_reducible exact Hf.set_n8) | (with_reducible exact Hf.set_n9) | (with_reducible exact Hf.set_n10) | (with_reducible exact Hf.set_n11) | (with_reducible exact Hf.set_n12) | (with_reducible exact Hf.set_n13) | (with_reducible exact Hf.set_n14) | (with_reducible exact Hf.set_n15) | (with_reducible exact Hf.set_n16) | (with_reducible exact Hf.set_n17) | (with_reducible exact Hf.set_n18) | (with_reducible exact Hf.set_n19) | (with_reducible exact Hf.set_n20) | (with_reducible exact Hf.set_n21) | (with_reducible exact Hf.set_n22) | (with_reducible exact Hf.set_n23) | (with_reducible exact Hf.set_n24) | (with_reducible exact Hf.set_n25) | (with_reducible exact Hf.set_n26) | (with_reducible exact Hf.set_n27) | (with_reducible exact Hf.set_n28) | (with_reducible exact Hf.set_n29) | fail "g_set")
local macro_rules | `(tactic| walk_at "g_sz") => `(tactic| first | exact Hf.sz4 (by decide) | exact Hf.sz4' (by decide) | (refine Hf.sz4 ?_; simp; done) | (refine Hf.sz4 ?_; simp; omega) | (refine Hf.sz4 ?_; simp only [List.length_cons, List.length_nil, List.length_take, List.length_drop, List.length_map, List.length_append, List.length_replicate]; omega) | (refine Hf.sz4' ?_; simp; omega) | (refine Hf.sz4' ?_; omega) | (refine Hf.sz4 ?_; omega) | fail "g_sz")
local macro_rules | `(tactic| walk_at "g_at") => `(tactic| first | rfl | assumption | fail "g_at")
local macro_rules | `(tactic| walk_at "g_c") => `(tactic| first | assumption | omega | decide | (refine Hf.mulL ?_; omega) | (refine Hf.mulR ?_; omega) | (refine Hf.divS ?_ ?_ <;> omega) | (refine Hf.mulL ?_; split <;> omega) | (refine ⟨?_, ?_, ?_⟩ <;> first | omega | decide) | (refine ⟨?_, ?_⟩ <;> first | assumption | omega) | fail "g_c")
local macro_rules | `(tactic| walk_at "g_ixn") => `(tactic| first | (show L2.ixN _ _ = some 0; rfl) | (show L2.ixN _ _ = some 1; rfl) | (show L2.ixN _ _ = some 2; rfl) | (show L2.ixN _ _ = some 3; rfl) | (show L2.ixN _ _ = some 4; rfl) | (show L2.ixN _ _ = some 5; rfl) | (show L2.ixN _ _ = some 6; rfl) | (show L2.ixN _ _ = some 7; rfl) | assumption | fail "g_ixn")
local macro_rules | `(tactic| walk_at "g_pow") => `(tactic| first | (show (10 : Int) ^ (9 : Int).toNat = 1000000000; rfl) | (show (10 : Int) ^ (18 : Int).toNat = 1000000000000000000; rfl) | (show (10 : Int) ^ (20 : Int).toNat = 100000000000000000000; rfl) | (show (10 : Int) ^ (29 : Int).toNat = 100000000000000000000000000000; rfl) | (show (10 : Int) ^ (26 : Int).toNat = 100000000000000000000000000; rfl) | (show (10 : Int) ^ (10 : Int).toNat = 10000000000; rfl) | (show (10 : Int) ^ (19 : Int).toNat = 10000000000000000000; rfl) | (show (10 : Int) ^ (27 : Int).toNat = 1000000000000000000000000000; rfl) | (show (10 : Int) ^ (28 : Int).toNat = 10000000000000000000000000000; rfl) | (show (10 : Int) ^ (25 : Int).toNat = 10000000000000000000000000; rfl) | (show (10 : Int) ^ (30 : Int).toNat = 1000000000000000000000000000000; rfl) | (show (10 : Int) ^ (2 : Int).toNat = 100; rfl) | (show (10 : Int) ^ (3 : Int).toNat = 1000; rfl) | (show (_ : Int) ^ (3 : Int).toNat = _; rfl) | fail "g_pow")
local macro_rules | `(tactic| walk_at "g_ty") => `(tactic| first | exact .base .non | exact .base (.bl _) | exact .base (.int _) | exact .base (.str _) | exact .base (.lst (by walk_at "g_lk")) | exact .base (.tup (by walk_at "g_lk")) | exact .base (.dK (by walk_at "g_lk")) | exact .base (.dT (by walk_at "g_lk")) | fail "g_ty")
local macro_rules | `(tactic| walk_at "g_pre") => `(tactic| first | (with_reducible assumption) | walk_at "g_lk" | walk_at "g_sq" | walk_at "g_but" | walk_at "g_but2" | walk_at "g_same" | walk_at "g_free" | omega | (refine ⟨?_, ?_⟩ <;> omega) | exact .inl (by omega) | exact .inr (by omega) | (with_reducible assumption) | fail "g_pre")
local macro_rules | `(tactic| walk_at "g_call") => `(tactic| fail "g_call: no rule")
local macro_rules | `(tactic| walk_at "g_val") => `(tactic| first
  | (with_reducible refine' Hf.i_I0 ?_)
  | ((with_reducible refine' Hf.i_pow ?k1 ?k2 ?_); (case k1 => walk_at "g_c"); (case k2 => walk_at "g_pow"))
  | ((with_reducible refine' Hf.i_I ?k1 ?_); (case k1 => walk_at "g_c"))
  | (with_reducible refine' Hf.i_U ?_)
  | (with_reducible refine' Hf.i_eqI ?_)
  | (with_reducible refine' Hf.i_neI ?_)
  | (with_reducible refine' Hf.i_eqB ?_)
  | (with_reducible refine' Hf.i_neB ?_)
  | (with_reducible refine' Hf.i_eqS ?_)
  | (with_reducible refine' Hf.i_neS ?_)
  | ((with_reducible refine' Hf.i_ixL ?k1 ?k2 ?_); (case k1 => walk_at "g_sq"); (case k2 => walk_at "g_at"))
  | ((with_reducible refine' Hf.i_ixT ?k1 ?k2 ?_); (case k1 => walk_at "g_sq"); (case k2 => walk_at "g_at"))
  | ((with_reducible refine' Hf.i_ix2I ?k1 ?k2 ?k3 ?_); (case k1 => walk_at "g_sq"); (case k2 => omega); (case k3 => omega); intro _ _)
  | ((with_reducible refine' Hf.i_ix3I ?k1 ?k2 ?k3 ?_); (case k1 => walk_at "g_sq"); (case k2 => omega); (case k3 => omega); intro _ _)
  | ((with_reducible refine' Hf.i_ix4I ?k1 ?k2 ?k3 ?_); (case k1 => walk_at "g_sq"); (case k2 => omega); (case k3 => omega); intro _ _)
  | ((with_reducible refine' Hf.i_ix3R ?k1 ?k2 ?k3 ?_); (case k1 => walk_at "g_sq"); (case k2 => omega); (case k3 => omega); intro _ _)
  | ((with_reducible refine' Hf.i_ix4R ?k1 ?k2 ?k3 ?_); (case k1 => walk_at "g_sq"); (case k2 => omega); (case k3 => omega); intro _ _)
  | (with_reducible refine' Hf.i_abs ?_)
  | (with_reducible refine' Hf.i_int2 ?_)
  | (with_reducible refine' Hf.i_int1 ?_)
  | (with_reducible refine' Hf.i_intb ?_)
  | ((with_reducible refine' Hf.i_isi ?k1 ?k2 ?_); (case k1 => walk_at "g_ty"); (case k2 => first | (show L2.kitB _ _ = some true; decide +kernel) | (show L2.kitB _ _ = some false; decide +kernel)))
  | ((with_reducible refine' Hf.i_lenL ?k1 ?_); (case k1 => walk_at "g_sq"))
  | ((with_reducible refine' Hf.i_lenT ?k1 ?_); (case k1 => walk_at "g_sq"))
  | ((with_reducible refine' Hf.i_appendM ?k1 ?k2 ?_); (case k1 => walk_at "g_lk"); (case k2 => walk_at "g_sz"))
  | ((with_reducible refine' Hf.i_append ?k1 ?k2 ?_); (case k1 => walk_at "g_lk"); (case k2 => walk_at "g_sz"))
  | ((with_reducible refine' Hf.i_bmL ?k1 ?_); (case k1 => walk_at "g_sq"))
  | ((with_reducible refine' Hf.i_setLast ?k1 ?k2 ?_); (case k1 => walk_at "g_lk"); (case k2 => first | omega | (simp; done) | (simp; omega)))
  | ((with_reducible refine' Hf.i_setM ?k1 ?k2 ?k3 ?_); (case k1 => walk_at "g_lk"); (case k2 => omega); (case k3 => first | omega | (simp; done) | (simp; omega)))
  | ((with_reducible refine' Hf.i_setL ?k1 ?k2 ?_); (case k1 => walk_at "g_lk"); (case k2 => walk_at "g_ixn"); (try dsimp only [List.set_cons_zero, List.set_cons_succ])) | fail "g_val")
local macro_rules | `(tactic| walk_at "g_val2") => `(tactic| first
  | ((with_reducible refine' Hf.i_slInitM ?k1 ?_); (case k1 => walk_at "g_sq"); intro _ _)
  | ((with_reducible refine' Hf.i_ixLast ?k1 ?k2 ?_); (case k1 => walk_at "g_sq"); (case k2 => first | omega | (simp; done) | (simp; omega)); intro _ _)
  | ((with_reducible refine' Hf.i_slToM ?k1 ?k2 ?_); (case k1 => walk_at "g_sq"); (case k2 => omega); intro _ _)
  | ((with_reducible refine' Hf.i_slFromM ?k1 ?k2 ?_); (case k1 => walk_at "g_sq"); (case k2 => omega); intro _ _)
  | ((with_reducible refine' Hf.i_slMidM ?k1 ?k2 ?k3 ?_); (case k1 => walk_at "g_sq"); (case k2 => omega); (case k3 => omega); intro _ _)
  | ((with_reducible refine' Hf.i_slTo ?k1 ?k2 ?_); (case k1 => walk_at "g_sq"); (case k2 => omega); intro _ _)
  | ((with_reducible refine' Hf.i_slFrom ?k1 ?k2 ?_); (case k1 => walk_at "g_sq"); (case k2 => omega); intro _ _)
  | ((with_reducible refine' Hf.i_slMid ?k1 ?k2 ?k3 ?_); (case k1 => walk_at "g_sq"); (case k2 => omega); (case k3 => omega); intro _ _)
  | ((with_reducible refine' Hf.i_eqT2 ?k1 ?k2 ?_); (case k1 => walk_at "g_sq"); (case k2 => walk_at "g_sq"))
  | (with_reducible refine' Hf.i_sl ?_)
  | ((with_reducible refine' Hf.i_lenA ?k1 ?_); (case k1 => first | exact Hf.lenA_map (by walk_at "g_sq") | exact Hf.lenA_L (by walk_at "g_sq") | exact Hf.lenA_T (by walk_at "g_sq")))
  | ((with_reducible refine' Hf.i_ixM ?k1 ?k2 ?k3 ?_); (case k1 => walk_at "g_sq"); (case k2 => omega); (case k3 => first | omega | (simp; omega)); intro _ _)
  | ((with_reducible refine' Hf.i_listOf ?k1 ?_); (case k1 => walk_at "g_sq"); intro _ _)
  | ((with_reducible refine' Hf.i_listOfT ?k1 ?_); (case k1 => walk_at "g_sq"); intro _ _)
  | ((with_reducible refine' Hf.i_sum ?k1 ?_); (case k1 => walk_at "g_sq"))
  | ((with_reducible refine' Hf.i_all ?k1 ?_); (case k1 => walk_at "g_sq"))
  | ((with_reducible refine' Hf.i_min ?k1 ?k2 ?_); (case k1 => walk_at "g_sq"); (case k2 => omega); intro _ _ _)
  | ((with_reducible refine' Hf.i_max ?k1 ?k2 ?_); (case k1 => walk_at "g_sq"); (case k2 => omega); intro _ _ _)
  | ((with_reducible refine' Hf.i_eqLI ?k1 ?k2 ?_); (case k1 => walk_at "g_sq"); (case k2 => walk_at "g_sq"))
  | ((with_reducible refine' Hf.i_neLI ?k1 ?k2 ?_); (case k1 => walk_at "g_sq"); (case k2 => walk_at "g_sq"))
  | ((with_reducible refine' Hf.i_eqL0 ?k1 ?k2 ?_); (case k1 => walk_at "g_sq"); (case k2 => walk_at "g_sq"))
  | ((with_reducible refine' Hf.i_eq00 ?k1 ?k2 ?_); (case k1 => walk_at "g_sq"); (case k2 => walk_at "g_sq"))
  | ((with_reducible refine' Hf.i_ne00 ?k1 ?k2 ?_); (case k1 => walk_at "g_sq"); (case k2 => walk_at "g_sq"))
  | ((with_reducible refine' Hf.i_reverse ?k1 ?_); (case k1 => walk_at "g_lk"))
  | ((with_reducible refine' Hf.i_glst ?k1 ?k2 ?_); (case k1 => walk_at "g_sq"); (case k2 => rfl))
  | (with_reducible refine' Hf.i_lc ?_)
  | ((with_reducible refine' Hf.i_turn ?k1 ?_); (case k1 => first | ((show L2.wipe _ [_] = _); (apply Hf.wipe_one); walk_at "g_set") | ((show L2.wipe _ [_, _] = _); (apply Hf.wipe_two); walk_at "g_set"; walk_at "g_set") | ((show L2.wipe _ [_, _, _] = _); (apply Hf.wipe_three); walk_at "g_set"; walk_at "g_set"; walk_at "g_set")))
  | ((with_reducible refine' Hf.i_wiped ?k1 ?_); (case k1 => rfl))
  | (with_reducible refine' Hf.i_yes ?_)
  | (with_reducible refine' Hf.i_nopart ?_)
  | (with_reducible refine' Hf.i_part ?_)
  | (with_reducible refine' Hf.i_exint ?_)
  | ((with_reducible refine' Hf.i_catM ?k1 ?k2 ?k3 ?_); (case k1 => walk_at "g_lk"); (case k2 => walk_at "g_lk"); (case k3 => (simp; omega)); intro _ _)
  | ((with_reducible refine' Hf.i_catM1 ?k1 ?k2 ?k3 ?_); (case k1 => walk_at "g_lk"); (case k2 => walk_at "g_lk"); (case k3 => first | omega | (simp; omega)); intro _ _)
  | ((with_reducible refine' Hf.i_cat ?k1 ?k2 ?k3 ?_); (case k1 => walk_at "g_lk"); (case k2 => walk_at "g_lk"); (case k3 => walk_at "g_sz"); intro _ _)
  | ((with_reducible refine' Hf.i_repM ?k1 ?k2 ?_); (case k1 => walk_at "g_lk"); (case k2 => omega); intro _ _)
  | ((with_reducible refine' Hf.i_rep1 ?k1 ?k2 ?_); (case k1 => walk_at "g_lk"); (case k2 => omega); intro _ _) | fail "g_val2")
local macro_rules | `(tactic| walk_at "g1") => `(tactic| first
  | ((with_reducible refine' Hf.i_var ?k1 ?_); (case k1 => rfl))
  | (with_reducible refine' Hf.i_c ?_)
  | (with_reducible refine' Hf.i_op ?_)
  | (with_reducible refine' Hf.i_cons ?_)
  | (with_reducible refine' Hf.i_nil ?_)
  | (with_reducible refine' Hf.i_seq ?_)
  | (with_reducible refine' Hf.i_asg ?_)
  | ((with_reducible refine' Hf.i_gname ?k1 ?_); (case k1 => walk_at "g_set"))
  | (with_reducible refine' Hf.i_ret ?_)
  | (with_reducible refine' Hf.i_next ?_)
  | (with_reducible refine' Hf.i_ifs ?_)
  | ((with_reducible refine' Hf.ite_y ?k1 ?_); (case k1 => rfl))
  | ((with_reducible refine' Hf.ite_n ?k1 ?_); (case k1 => rfl))
  | (with_reducible refine' Hf.i_test ?_)
  | (with_reducible refine' Hf.i_B ?_)
  | (with_reducible refine' Hf.i_bl ?_)
  | (with_reducible refine' Hf.i_call ?_)
  | (with_reducible refine' Hf.i_cb ?_)
  | (with_reducible refine' Hf.i_tup ?_)
  | (with_reducible refine' Hf.i_lst ?_)
  | ((with_reducible refine' Hf.i_new ?k1 ?_); (case k1 => walk_at "g_sz"); intro _ _)
  | (with_reducible refine' Hf.i_un ?_)
  | (with_reducible refine' Hf.i_and ?_)
  | (with_reducible refine' Hf.i_or ?_)
  | (with_reducible refine' Hf.i_not ?_)
  | (with_reducible refine' Hf.i_andV ?_)
  | (with_reducible refine' Hf.i_orV ?_)
  | (with_reducible refine' Hf.i_notV ?_)
  | (with_reducible refine' Hf.i_ife ?_)
  | (with_reducible refine' Hf.i_drop ?_)
  | (with_reducible refine' Hf.i_par ?_)
  | ((with_reducible refine' Hf.i_par2 ?k1 ?_); (case k1 => (apply Hf.set_par; walk_at "g_set"; walk_at "g_set")))
  | ((with_reducible refine' Hf.i_aug ?k1 ?_); (case k1 => rfl))
  | (with_reducible refine' Hf.i_ip ?_)
  | (with_reducible refine' Hf.i_bm ?_)
  | (with_reducible refine' Hf.i_bm0 ?_)
  | ((with_reducible refine' Hf.i_gtup ?k1 ?k2 ?_); (case k1 => walk_at "g_sq"); (case k2 => rfl))
  | (with_reducible refine' Hf.i_gcons ?_)
  | (with_reducible refine' Hf.i_gnil ?_)
  | (with_reducible refine' Hf.i_gsub ?_)
  | (with_reducible refine' Hf.i_for ?_)
  | (with_reducible refine' Hf.i_rng1 ?_)
  | ((with_reducible refine' Hf.i_rng1' ?k1 ?k2 ?_); (case k1 => omega); (case k2 => omega))
  | (with_reducible refine' Hf.i_rng2 ?_)
  | ((with_reducible refine' Hf.i_rng2' ?k1 ?_); (case k1 => omega))
  | (with_reducible refine' Hf.i_ilist ?_)
  | ((with_reducible refine' Hf.i_ilist' ?k1 ?_); (case k1 => walk_at "g_sq"))
  | (with_reducible refine' Hf.i_itup ?_)
  | ((with_reducible refine' Hf.i_itup' ?k1 ?_); (case k1 => walk_at "g_sq"))
  | (with_reducible refine' Hf.i_retN ?_)
  | (with_reducible refine' Hf.i_brk ?_)
  | (with_reducible refine' Hf.i_cnt ?_)
  | walk_at "g_val"
  | walk_at "g_val2"
  | walk_at "g_call"
  | (with_reducible refine' Hf.i_isn ?_)
  | (with_reducible refine' Hf.i_tru ?_)
  | dsimp only | fail "g1")
local macro_rules | `(tactic| walk_at "go") => `(tactic| repeat walk_at "g1")
local macro_rules | `(tactic| walk_at "goI") => `(tactic| repeat ((fail_if_success (with_reducible refine' Hf.i_ifs ?_)); walk_at "g1"))
local macro_rules | `(tactic| walk_at "goF") => `(tactic| repeat ((fail_if_success (with_reducible refine' Hf.i_for ?_)); walk_at "g1"))
local macro_rules | `(tactic| walk_at "g_kit") => `(tactic| fail "g_kit")
local macro_rules | `(tactic| walk_at "g_exc") => `(tactic| fail "g_exc")
local macro_rules | `(tactic| walk_at "g_exm") => `(tactic| fail "g_exm")
local macro_rules | `(tactic| walk_at "g_kitB") => `(tactic| first | (show L2.kitB _ _ = some true; decide +kernel) | (show L2.kitB _ _ = some false; decide +kernel))
local macro_rules | `(tactic| walk_at "g_val2") => `(tactic| first
  | ((with_reducible refine' Hf.i_isXi ?k1 ?k2 ?_); (case k1 => walk_at "g_ty"); (case k2 => walk_at "g_kitB"))
  | ((with_reducible refine' Hf.i_isXo ?k1 ?k2 ?_); (case k1 => walk_at "g_ty"); (case k2 => walk_at "g_kit"))
  | ((with_reducible refine' Hf.i_isXR ?k1 ?k2 ?k3 ?_); (case k1 => walk_at "g_lk"); (case k2 => walk_at "g_exc"); (case k3 => walk_at "g_kit"))
  | ((with_reducible refine' Hf.i_isXT ?k1 ?k2 ?k3 ?_); (case k1 => walk_at "g_lk"); (case k2 => walk_at "g_exc"); (case k3 => walk_at "g_kit"))
  | ((with_reducible refine' Hf.i_isXRd ?k1 ?k4 ?k2 ?k3 ?_); (case k1 => walk_at "g_lk"); (case k4 => walk_at "g_lk"); (case k2 => walk_at "g_exc"); (case k3 => walk_at "g_kit"))
  | ((with_reducible refine' Hf.i_isXTd ?k1 ?k4 ?k2 ?k3 ?_); (case k1 => walk_at "g_lk"); (case k4 => walk_at "g_lk"); (case k2 => walk_at "g_exc"); (case k3 => walk_at "g_kit"))
  | (with_reducible refine' Hf.i_callS ?_)
  | (with_reducible refine' Hf.i_try ?_)
  | ((with_reducible refine' Hf.i_caught ?k1 ?k2 ?_); (case k1 => walk_at "g_exm"); (case k2 => (intro _; walk_at "g_set")); intro _ _)
  | ((with_reducible refine' Hf.i_nxAs ?k1 ?_); (case k1 => walk_at "g_set"))
  | (with_reducible refine' Hf.i_rtAs ?_)
  | (with_reducible refine' Hf.i_izip ?_)
  | ((with_reducible refine' Hf.i_neT2 ?k1 ?k2 ?_); (case k1 => walk_at "g_sq"); (case k2 => walk_at "g_sq"))
  | ((with_reducible refine' Hf.i_neS1 ?k1 ?k2 ?k3 ?_); (case k1 => walk_at "g_sq"); (case k2 => walk_at "g_sq"); (case k3 => decide +kernel))
  | ((with_reducible refine' Hf.i_izip' ?k1 ?k2 ?_); (case k1 => walk_at "g_sq"); (case k2 => walk_at "g_sq"))
  | (with_reducible refine' Hf.i_isnR ?_)
  | (with_reducible refine' Hf.i_isnN ?_)
  | ((with_reducible refine' Hf.i_cntV ?k1 ?k2 ?k3 ?k4 ?_); (case k1 => walk_at "g_sq"); (case k2 => rfl); (case k3 => rfl); (case k4 => rfl))
  | ((with_reducible refine' Hf.i_index ?k1 ?k2 ?k3 ?k4 ?_); (case k1 => walk_at "g_sq"); (case k2 => rfl); (case k3 => rfl); (case k4 => rfl)) | fail "g_val2x")
local macro_rules | `(tactic| walk_at "g_no") => `(tactic| first | contradiction | omega | (simp_all; done) | fail "g_no")
local macro_rules | `(tactic| walk_at "g_but") => `(tactic| first | (with_reducible exact Hf.But.refl _ _) | (with_reducible assumption) | (with_reducible refine Hf.But.newT (by with_reducible assumption) ?_; walk_at "g_but") | (with_reducible refine Hf.But.upd ?_; walk_at "g_but") | (with_reducible refine Hf.But.transT (by with_reducible assumption) ?_; walk_at "g_but") | (with_reducible refine Hf.But.transS (by with_reducible assumption) ?_; walk_at "g_but") | (with_reducible refine Hf.But.mut (by with_reducible assumption) ?_; walk_at "g_but") | (with_reducible refine Hf.But.mutS (by with_reducible assumption) (by with_reducible assumption) ?_; walk_at "g_but") | fail "g_but")
local macro_rules | `(tactic| walk_at "g_cls") => `(tactic| fail "g_cls")
local macro_rules | `(tactic| walk_at "g_val2") => `(tactic| first
  | (with_reducible refine' Hf.i_fld ?_)
  | ((with_reducible refine' Hf.i_fldR ?k1 ?k2 ?k3 ?k4 ?_); (case k1 => walk_at "g_lk"); (case k2 => walk_at "g_cls"); (case k3 => walk_at "g_cls"); (case k4 => first | rfl | decide +kernel))
  | (with_reducible refine' Hf.i_sfld ?_)
  | ((with_reducible refine' Hf.i_setR ?k1 ?k2 ?k3 ?k4 ?_); (case k1 => walk_at "g_lk"); (case k2 => walk_at "g_cls"); (case k3 => walk_at "g_cls"); (case k4 => decide))
  | (with_reducible refine' Hf.i_meth ?_)
  | ((with_reducible refine' Hf.i_methR ?k1 ?k4 ?_); (case k1 => walk_at "g_lk"); (case k4 => first | rfl | decide +kernel))
  | ((with_reducible refine' Hf.i_make0 ?_); intro _ _ _ _ _)
  | (with_reducible refine' Hf.i_dnotin ?_)
  | (with_reducible refine' Hf.i_din ?_)
  | ((with_reducible refine' Hf.i_dg3 ?k1 ?k2 ?_); (case k1 => walk_at "g_lk"); (case k2 => walk_at "g_lk"))
  | ((with_reducible refine' Hf.i_dg2 ?k1 ?k2 ?_); (case k1 => walk_at "g_lk"); (case k2 => walk_at "g_lk"))
  | (with_reducible refine' Hf.i_dget ?_)
  | ((with_reducible refine' Hf.i_dv3 ?k1 ?k2 ?k3 ?_); (case k1 => walk_at "g_lk"); (case k2 => walk_at "g_lk"); (case k3 => assumption))
  | ((with_reducible refine' Hf.i_dv2 ?k1 ?k2 ?k3 ?_); (case k1 => walk_at "g_lk"); (case k2 => walk_at "g_lk"); (case k3 => assumption))
  | (with_reducible refine' Hf.i_dput ?_)
  | ((with_reducible refine' Hf.i_dp3 ?k1 ?k2 ?k3 ?_); (case k1 => walk_at "g_lk"); (case k2 => walk_at "g_lk"); (case k3 => omega))
  | ((with_reducible refine' Hf.i_dp2 ?k1 ?k2 ?k3 ?_); (case k1 => walk_at "g_lk"); (case k2 => walk_at "g_lk"); (case k3 => omega))
  | ((with_reducible refine' Hf.i_dnewT ?_); intro _ _)
  | (with_reducible refine' Hf.i_lstRg ?_)
  | (with_reducible refine' Hf.i_rg1 ?_)
  | (with_reducible refine' Hf.i_rg2 ?_)
  | (with_reducible refine' Hf.i_rg2' ?_)
  | (with_reducible refine' Hf.i_rg1' ?_)
  | ((with_reducible refine' Hf.i_rgok ?k1 ?k2 ?k3 ?k4 ?_); (case k1 => omega); (case k2 => omega); (case k3 => omega); (case k4 => omega); intro _ _) | fail "g_val2o")
local macro_rules | `(tactic| walk_at "g_but") => `(tactic| first | (with_reducible exact Hf.But.refl _ _) | (with_reducible assumption) | (with_reducible refine Hf.But.newT (by with_reducible assumption) ?_; walk_at "g_but") | (with_reducible refine Hf.But.upd ?_; walk_at "g_but") | (with_reducible refine Hf.But.mutD (by with_reducible assumption) ?_; walk_at "g_but") | (with_reducible refine Hf.But.mutSD (by with_reducible assumption) (by walk_at "g_free") ?_; walk_at "g_but") | (with_reducible refine Hf.But.transT (by with_reducible assumption) ?_; walk_at "g_but") | (with_reducible refine Hf.But.transS (by with_reducible assumption) ?_; walk_at "g_but") | fail "g_but")
local macro_rules | `(tactic| walk_at "g_dq") => `(tactic| first | (with_reducible assumption) | ((with_reducible refine' Hf.Dq.same ?s9 ?d9); (case d9 => (with_reducible assumption)); (case s9 => walk_at "g_same")) | ((with_reducible refine' Hf.dq_mix ?q9 ?h9 ?s9); (case q9 => (with_reducible assumption)); (case h9 => walk_at "g_lk"); (case s9 => walk_at "g_same")) | ((with_reducible refine' Hf.Dq.same (Hf.hid_mono ?s9) ?d9); (case d9 => (with_reducible assumption)); (case s9 => walk_at "g_same")) | ((with_reducible refine' Hf.dq_two ?h5 ?h6 ?h7 ?h8 ?h9); (case h5 => walk_at "g_lk"); (case h6 => walk_at "g_lk"); (case h7 => walk_at "g_lk"); (case h8 => walk_at "g_lk"); (case h9 => walk_at "g_lk")) | fail "g_dq")
local macro_rules | `(tactic| walk_at "g_pre") => `(tactic| walk_at "g_dq")
local macro_rules | `(tactic| walk_at "g_val2") => `(tactic| first
  | ((with_reducible refine' Hf.i_neDq ?k1 ?k2 ?k3 ?_); (case k1 => walk_at "g_dq"); (case k2 => walk_at "g_dq"); (case k3 => first | exact Hf.shaped_mix _))
  | ((with_reducible refine' Hf.i_neL2 ?k1 ?k2 ?_); (case k1 => walk_at "g_sq"); (case k2 => walk_at "g_sq"))
  | ((with_reducible refine' Hf.i_reverseV ?k1 ?_); (case k1 => walk_at "g_lk"))
  | (with_reducible refine' Hf.i_rev ?_)
  | ((with_reducible refine' Hf.i_revV ?k1 ?_); (case k1 => walk_at "g_sq"); intro _ _)
  | fail "g_val2d")
local macro_rules | `(tactic| walk_at "goO") => `(tactic| repeat (first | walk_at "g1" | (with_reducible refine' Hf.ite_y (decide_eq_true (by omega)) ?_) | (with_reducible refine' Hf.ite_n (decide_eq_false (by omega)) ?_)))
local macro_rules | `(tactic| walk_at "g_val2") => `(tactic| first
  | (with_reducible refine' Hf.i_min2 ?_)
  | (with_reducible refine' Hf.i_min3 ?_)
  | fail "g_val2b")
local macro_rules | `(tactic| walk_at "g_free") => `(tactic| first | (with_reducible assumption) | ((with_reducible refine' Hf.Newly.free ?n7 ?h7); (case n7 => (with_reducible assumption)); (case h7 => walk_at "g_lk")) | ((with_reducible refine' Hf.Same.free' (by with_reducible assumption) ?h7); (case h7 => walk_at "g_same")) | ((with_reducible refine' Hf.But.free (by with_reducible assumption) ?h7 ?h8); (case h7 => walk_at "g_but"); (case h8 => walk_at "g_lk")) | fail "g_free")
local macro_rules | `(tactic| walk_at "g_pk") => `(tactic| first | (with_reducible assumption) | ((with_reducible refine' Hf.Pk.newT ?n9 ?h9); (case n9 => (with_reducible assumption)); (case h9 => walk_at "g_pk")) | ((with_reducible refine' Hf.Pk.sameT ?n9 ?h9); (case n9 => (with_reducible assumption)); (case h9 => walk_at "g_pk")) | fail "g_pk")
local macro_rules | `(tactic| walk_at "g_pre") => `(tactic| walk_at "g_pk")
local macro_rules | `(tactic| walk_at "g_free") => `(tactic| first | ((with_reducible refine' Hf.Pk.free (by with_reducible assumption) ?h7 ?h8); (case h8 => walk_at "g_pk"); (case h7 => walk_at "g_but")) | fail "macp")
local macro_rules | `(tactic| walk_at "g_free") => `(tactic| first | ((with_reducible refine' Hf.Newly.pk ?n7 ?h7); (case n7 => (with_reducible assumption)); (case h7 => walk_at "g_pk")) | fail "macp")
local macro_rules | `(tactic| walk_at "g_ne") => `(tactic| first | ((with_reducible refine' Hf.Pk.ne ?n9 ?h9); (case n9 => (with_reducible assumption)); (case h9 => walk_at "g_pk")) | fail "macp")
local macro_rules | `(tactic| walk_at "g_ne") => `(tactic| first | ((with_reducible refine' Hf.Pk.neo ?n9 ?h9); (case n9 => (with_reducible assumption)); (case h9 => (with_reducible assumption))) | fail "macp")
local macro_rules | `(tactic| walk_at "g_val2") => `(tactic| first | ((with_reducible refine' Hf.i_tupOfL ?k1 ?_); (case k1 => walk_at "g_sq"); intro _ _) | fail "macp")
local macro_rules | `(tactic| walk_at "g_val") => `(tactic| first | ((with_reducible refine' Hf.i_intY ?k1 ?_); (case k1 => exact decide_eq_true (by omega))) | ((with_reducible refine' Hf.i_intN ?k1 ?_); (case k1 => exact decide_eq_false (by omega))) | fail "g_valp")
local macro_rules | `(tactic| walk_at "g_val2") => `(tactic| first | ((with_reducible refine' Hf.i_neDq ?k1 ?k2 ?k3 ?_); (case k1 => walk_at "g_dq"); (case k2 => walk_at "g_dq"); (case k3 => first | exact Hf.shaped_bat _ _ _ | exact Hf.shaped_mix _ | assumption)) | fail "macp")
local macro_rules | `(tactic| walk_at "g_kb") => `(tactic| first | (show L2.kitB _ _ = some true; decide +kernel) | (show L2.kitB _ _ = some false; decide +kernel) | fail "g_kb")
local macro_rules | `(tactic| walk_at "g_val2") => `(tactic| first
  | ((with_reducible refine' Hf.i_isiT2 ?k1 ?k2 ?k3 ?k4 ?_); (case k1 => walk_at "g_lk"); (case k2 => walk_at "g_ty"); (case k3 => walk_at "g_kb"); (case k4 => walk_at "g_kb"))
  | (with_reducible refine' Hf.i_iseq ?_)
  | ((with_reducible refine' Hf.i_iseqL ?k1 ?_); (case k1 => walk_at "g_sq"))
  | ((with_reducible refine' Hf.i_iseqT ?k1 ?_); (case k1 => walk_at "g_sq"))
  | ((with_reducible refine' Hf.i_cntS ?k1 ?k2 ?k3 ?k4 ?_); (case k1 => walk_at "g_dq"); (case k2 => assumption); (case k3 => decide +kernel); (case k4 => assumption))
  | fail "g_val2w")
local macro_rules | `(tactic| walk_at "g_ow") => `(tactic| first | (with_reducible assumption) | ((with_reducible refine' Hf.Ow.same ?s9 ?d9); (case d9 => (with_reducible assumption)); (case s9 => walk_at "g_same")) | fail "g_ow")
local macro_rules | `(tactic| walk_at "g_pre") => `(tactic| walk_at "g_ow")
local macro_rules | `(tactic| walk_at "g_kitN") => `(tactic| first | (with_reducible exact Hf.KitN.nil) | ((with_reducible refine' Hf.KitN.no ?k8 ?k9); (case k8 => walk_at "g_kit"); (case k9 => walk_at "g_kitN")) | fail "g_kitN")
local macro_rules | `(tactic| walk_at "g_kitR") => `(tactic| first | (with_reducible exact Hf.KitR.nil) | ((with_reducible refine' Hf.KitR.cons ?k9); (case k9 => walk_at "g_kitR")) | fail "g_kitR")
local macro_rules | `(tactic| walk_at "g_kitY") => `(tactic| first | ((with_reducible refine' Hf.KitY.here ?k8 ?k9); (case k8 => walk_at "g_kit"); (case k9 => walk_at "g_kitR")) | ((with_reducible refine' Hf.KitY.there ?k8 ?k9); (case k8 => walk_at "g_kit"); (case k9 => walk_at "g_kitY")) | fail "g_kitY")
local macro_rules | `(tactic| walk_at "g_val2") => `(tactic| first
  | ((with_reducible refine' Hf.i_isXN ?k1 ?k2 ?k3 ?k4 ?_); (case k1 => walk_at "g_lk"); (case k2 => walk_at "g_lk"); (case k3 => walk_at "g_exc"); (case k4 => walk_at "g_kitN"))
  | ((with_reducible refine' Hf.i_isXY ?k1 ?k2 ?k3 ?k4 ?_); (case k1 => walk_at "g_lk"); (case k2 => walk_at "g_lk"); (case k3 => walk_at "g_exc"); (case k4 => walk_at "g_kitY"))
  | ((with_reducible refine' Hf.i_isXNd ?k1 ?k5 ?k2 ?k3 ?k4 ?_); (case k1 => walk_at "g_lk"); (case k5 => walk_at "g_lk"); (case k2 => walk_at "g_lk"); (case k3 => walk_at "g_exc"); (case k4 => walk_at "g_kitN"))
  | ((with_reducible refine' Hf.i_isXT2 ?k1 ?k2 ?k3 ?k4 ?_); (case k1 => walk_at "g_lk"); (case k2 => walk_at "g_ty"); (case k3 => walk_at "g_kb"); (case k4 => walk_at "g_kb"))
  | fail "g_val2e")
local macro_rules | `(tactic| walk_at "g_oex") => `(tactic| fail "g_oex")
local macro_rules | `(tactic| walk_at "g_nof") => `(tactic| fail "g_nof")
local macro_rules | `(tactic| walk_at "g_val2") => `(tactic| first
  | (with_reducible refine' Hf.i_vei ?_)
  | ((with_reducible refine' Hf.i_ver ?k1 ?k2 ?k3 ?_); (case k1 => walk_at "g_lk"); (case k2 => walk_at "g_oex"); (case k3 => decide))
  | (with_reducible refine' Hf.i_ost ?_)
  | ((with_reducible refine' Hf.i_osr ?k1 ?k2 ?k3 ?_); (case k1 => walk_at "g_lk"); (case k2 => walk_at "g_oex"); (case k3 => walk_at "g_nof"); intro _ _ _)
  | (with_reducible refine' Hf.i_mko ?_)
  | (with_reducible refine' Hf.i_xfH ?_)
  | ((with_reducible refine' Hf.i_xfR ?k1 ?k2 ?k3 ?k4 ?_); (case k1 => walk_at "g_lk"); (case k2 => walk_at "g_lk"); (case k3 => walk_at "g_exc"); (case k4 => walk_at "g_nof"))
  | fail "g_val2i")
local macro_rules | `(tactic| walk_at "g_at") => `(tactic| first | (with_reducible exact Hf.atI_0) | (with_reducible exact Hf.atI_1) | (with_reducible exact Hf.atI_2) | fail "g_at2")
local macro_rules | `(tactic| walk_at "g_val2") => `(tactic| first | ((with_reducible refine' Hf.i_ix3S ?k1 ?k2 ?k3 ?_); (case k1 => walk_at "g_sq"); (case k2 => omega); (case k3 => omega); intro _ _) | fail "ix3s")
local macro_rules | `(tactic| walk_at "g_val2") => `(tactic| first | ((with_reducible refine' Hf.i_nin ?k1 ?k2 ?k3 ?k4 ?_); (case k1 => walk_at "g_sq"); (case k2 => first | rfl | assumption); (case k3 => first | rfl | assumption); (case k4 => first | assumption | (show L2.inV _ _ = true; decide +kernel) | (show L2.inV _ _ = false; decide +kernel))) | ((with_reducible refine' Hf.i_ninT ?k1 ?k2 ?k3 ?k4 ?_); (case k1 => walk_at "g_sq"); (case k2 => first | rfl | assumption); (case k3 => first | rfl | assumption); (case k4 => first | assumption | (show L2.inV _ _ = true; decide +kernel) | (show L2.inV _ _ = false; decide +kernel))) | fail "nin")
local macro_rules | `(tactic| walk_at "g_val2") => `(tactic| first
  | (with_reducible refine' Hf.i_ienum ?_)
  | ((with_reducible refine' Hf.i_ienum' ?k1 ?_); (case k1 => walk_at "g_sq"))
  | (with_reducible refine' Hf.i_revR ?_)
  | ((with_reducible refine' Hf.i_revR' ?k1 ?_); (case k1 => walk_at "g_sq"); intro _ _) | fail "macn")

section
variable {P : Program} {w : World} {K : PySem.W.Frag} {mg : Str → Option Value} {base : Heap}
def topS (i : Nat) : Stmt := PySem.Challenge.pw_hostfields_k73_mixes_held_against_one_an.main.body.getD i (.Pass ⟨0, 0, 0, 0⟩)
abbrev s_NoBattle_init : Stmt := inClass (topS 2) 0
abbrev s_is_number : Stmt := topS 18
abbrev s_are_numbers : Stmt := topS 19
abbrev s_is_rule : Stmt := topS 20
abbrev s_is_field : Stmt := topS 21
abbrev s_look_battle : Stmt := topS 22
abbrev s_paid : Stmt := topS 23
abbrev s_is_plan : Stmt := topS 24
abbrev s_won : Stmt := topS 25
abbrev s_is_mix : Stmt := topS 29
abbrev s_divisor : Stmt := topS 31
abbrev s_ratio : Stmt := topS 32
abbrev s_must_be_mix : Stmt := topS 34
abbrev s_whole_of : Stmt := topS 35
abbrev s_must_be_mix_of : Stmt := topS 36
abbrev s_mixed_gain : Stmt := topS 37
abbrev s_l_stirred : Stmt := topS 39
abbrev s_l_opened : Stmt := topS 40
abbrev s_l_draw : Stmt := topS 41
abbrev s_l_in_lowest : Stmt := topS 42
abbrev s_l_drawn_worth : Stmt := topS 43
abbrev s_l_drawn_field : Stmt := topS 44
abbrev s_l_drawn_battle : Stmt := topS 45
abbrev s_l_copied : Stmt := topS 46
abbrev s_l_bad_field : Stmt := topS 47
abbrev s_l_bent_one : Stmt := topS 48
abbrev s_l_pay : Stmt := topS 49
abbrev s_l_drawn_plan : Stmt := topS 50
abbrev s_l_drawn_mix : Stmt := topS 51
abbrev s_l_is_whole : Stmt := topS 52
abbrev s_l_is_it : Stmt := topS 53
abbrev s_l_kind_of : Stmt := topS 54
abbrev s_l_due_of : Stmt := topS 55
abbrev s_l_caught_by : Stmt := topS 56
abbrev s_l_other_mixes : Stmt := topS 57
abbrev s_law : Stmt := topS 58
theorem sc_NoBattle_init : FnScope ["self", "field"] ["self", "field"] (defScope s_NoBattle_init) := ⟨rfl, rfl, rfl, by decide +kernel, rfl, by decide +kernel, by decide +kernel⟩
theorem sc_is_number : FnScope ["thing"] ["thing"] (defScope s_is_number) := ⟨rfl, rfl, rfl, by decide +kernel, rfl, by decide +kernel, by decide +kernel⟩
theorem sc_are_numbers : FnScope ["thing", "many", "number"] ["thing", "many"] (defScope s_are_numbers) := ⟨rfl, rfl, rfl, by decide +kernel, rfl, by decide +kernel, by decide +kernel⟩
theorem sc_is_rule : FnScope ["field"] ["field"] (defScope s_is_rule) := ⟨rfl, rfl, rfl, by decide +kernel, rfl, by decide +kernel, by decide +kernel⟩
theorem sc_is_field : FnScope ["field", "first", "second", "row"] ["field", "first", "second"] (defScope s_is_field) := ⟨rfl, rfl, rfl, by decide +kernel, rfl, by decide +kernel, by decide +kernel⟩
theorem sc_look_battle : FnScope ["battle", "first", "second", "fields", "k"] ["battle"] (defScope s_look_battle) := ⟨rfl, rfl, rfl, by decide +kernel, rfl, by decide +kernel, by decide +kernel⟩
theorem sc_paid : FnScope ["field", "x", "y"] ["field", "x", "y"] (defScope s_paid) := ⟨rfl, rfl, rfl, by decide +kernel, rfl, by decide +kernel, by decide +kernel⟩
theorem sc_is_plan : FnScope ["hosts", "many", "plan"] ["hosts", "many", "plan"] (defScope s_is_plan) := ⟨rfl, rfl, rfl, by decide +kernel, rfl, by decide +kernel, by decide +kernel⟩
theorem sc_won : FnScope ["battle", "one", "other", "k"] ["battle", "one", "other"] (defScope s_won) := ⟨rfl, rfl, rfl, by decide +kernel, rfl, by decide +kernel, by decide +kernel⟩
theorem sc_is_mix : FnScope ["mix", "part", "many", "hosts", "plan", "weight"] ["mix"] (defScope s_is_mix) := ⟨rfl, rfl, rfl, by decide +kernel, rfl, by decide +kernel, by decide +kernel⟩
theorem sc_divisor : FnScope ["one", "other"] ["one", "other"] (defScope s_divisor) := ⟨rfl, rfl, rfl, by decide +kernel, rfl, by decide +kernel, by decide +kernel⟩
theorem sc_ratio : FnScope ["top", "bottom", "most"] ["top", "bottom"] (defScope s_ratio) := ⟨rfl, rfl, rfl, by decide +kernel, rfl, by decide +kernel, by decide +kernel⟩
theorem sc_must_be_mix : FnScope ["mix"] ["mix"] (defScope s_must_be_mix) := ⟨rfl, rfl, rfl, by decide +kernel, rfl, by decide +kernel, by decide +kernel⟩
theorem sc_whole_of : FnScope ["mix", "plan", "weight"] ["mix"] (defScope s_whole_of) := ⟨rfl, rfl, rfl, by decide +kernel, rfl, by decide +kernel, by decide +kernel⟩
theorem sc_must_be_mix_of : FnScope ["hosts", "many", "mix"] ["hosts", "many", "mix"] (defScope s_must_be_mix_of) := ⟨rfl, rfl, rfl, by decide +kernel, rfl, by decide +kernel, by decide +kernel⟩
theorem sc_mixed_gain : FnScope ["battle", "one", "other", "many", "total", "plan", "weight", "against", "often"] ["battle", "one", "other"] (defScope s_mixed_gain) := ⟨rfl, rfl, rfl, by decide +kernel, rfl, by decide +kernel, by decide +kernel⟩
theorem sc_l_stirred : FnScope ["_law_number", "_law_k", "_law_mixed"] ["_law_number", "_law_k"] (defScope s_l_stirred) := ⟨rfl, rfl, rfl, by decide +kernel, rfl, by decide +kernel, by decide +kernel⟩
theorem sc_l_opened : FnScope ["_law_cell"] ["_law_cell"] (defScope s_l_opened) := ⟨rfl, rfl, rfl, by decide +kernel, rfl, by decide +kernel, by decide +kernel⟩
theorem sc_l_draw : FnScope ["_law_left", "_law_base", "_law_digit", "_law_number", "_law_turn", "_law_mixed"] ["_law_left", "_law_base"] (defScope s_l_draw) := ⟨rfl, rfl, rfl, by decide +kernel, rfl, by decide +kernel, by decide +kernel⟩
theorem sc_l_in_lowest : FnScope ["_law_top", "_law_bottom", "_law_one", "_law_other"] ["_law_top", "_law_bottom"] (defScope s_l_in_lowest) := ⟨rfl, rfl, rfl, by decide +kernel, rfl, by decide +kernel, by decide +kernel⟩
theorem sc_l_drawn_worth : FnScope ["_law_left", "_law_far"] ["_law_left"] (defScope s_l_drawn_worth) := ⟨rfl, rfl, rfl, by decide +kernel, rfl, by decide +kernel, by decide +kernel⟩
theorem sc_l_drawn_field : FnScope ["_law_left", "_law_first", "_law_second", "_law_kind", "_law_worth", "_law_tie", "_law_near", "_law_far", "_law_rows", "_law_x", "_law_y"] ["_law_left", "_law_first", "_law_second"] (defScope s_l_drawn_field) := ⟨rfl, rfl, rfl, by decide +kernel, rfl, by decide +kernel, by decide +kernel⟩
theorem sc_l_drawn_battle : FnScope ["_law_left", "_law_most", "_law_many", "_law_first", "_law_second", "_law_fields", "_law_k"] ["_law_left", "_law_most", "_law_many"] (defScope s_l_drawn_battle) := ⟨rfl, rfl, rfl, by decide +kernel, rfl, by decide +kernel, by decide +kernel⟩
theorem sc_l_copied : FnScope ["_law_battle", "_law_first", "_law_second", "_law_fields", "_law_found", "_law_field", "_law_row"] ["_law_battle"] (defScope s_l_copied) := ⟨rfl, rfl, rfl, by decide +kernel, rfl, by decide +kernel, by decide +kernel⟩
theorem sc_l_bad_field : FnScope ["_law_left", "_law_field", "_law_first", "_law_second", "_law_kind", "_law_far", "_law_rows", "_law_at", "_law_some", "_law_word", "_law_worth", "_law_more", "_law_row"] ["_law_left", "_law_field", "_law_first", "_law_second"] (defScope s_l_bad_field) := ⟨rfl, rfl, rfl, by decide +kernel, rfl, by decide +kernel, by decide +kernel⟩
theorem sc_l_bent_one : FnScope ["_law_left", "_law_battle", "_law_first", "_law_second", "_law_fields", "_law_kind", "_law_far", "_law_wrong", "_law_sides", "_law_at", "_law_found", "_law_place"] ["_law_left", "_law_battle"] (defScope s_l_bent_one) := ⟨rfl, rfl, rfl, by decide +kernel, rfl, by decide +kernel, by decide +kernel⟩
theorem sc_l_pay : FnScope ["_law_field", "_law_x", "_law_y"] ["_law_field", "_law_x", "_law_y"] (defScope s_l_pay) := ⟨rfl, rfl, rfl, by decide +kernel, rfl, by decide +kernel, by decide +kernel⟩
theorem sc_l_drawn_plan : FnScope ["_law_left", "_law_hosts", "_law_many", "_law_found", "_law_rest", "_law_k", "_law_sent"] ["_law_left", "_law_hosts", "_law_many"] (defScope s_l_drawn_plan) := ⟨rfl, rfl, rfl, by decide +kernel, rfl, by decide +kernel, by decide +kernel⟩
theorem sc_l_drawn_mix : FnScope ["_law_left", "_law_hosts", "_law_many", "_law_most", "_law_found", "_law_k", "_law_weight"] ["_law_left", "_law_hosts", "_law_many", "_law_most"] (defScope s_l_drawn_mix) := ⟨rfl, rfl, rfl, by decide +kernel, rfl, by decide +kernel, by decide +kernel⟩
theorem sc_l_is_whole : FnScope ["_law_told"] ["_law_told"] (defScope s_l_is_whole) := ⟨rfl, rfl, rfl, by decide +kernel, rfl, by decide +kernel, by decide +kernel⟩
theorem sc_l_is_it : FnScope ["_law_told", "_law_due"] ["_law_told", "_law_due"] (defScope s_l_is_it) := ⟨rfl, rfl, rfl, by decide +kernel, rfl, by decide +kernel, by decide +kernel⟩
theorem sc_l_kind_of : FnScope ["_law_caught", "_law_some", "_law_names"] ["_law_caught"] (defScope s_l_kind_of) := ⟨rfl, rfl, rfl, by decide +kernel, rfl, by decide +kernel, by decide +kernel⟩
theorem sc_l_due_of : FnScope ["_law_battle", "_law_one", "_law_other", "_law_total", "_law_plan", "_law_weight", "_law_against", "_law_often", "_law_got", "_law_whole", "_law_k", "_law_field"] ["_law_battle", "_law_one", "_law_other"] (defScope s_l_due_of) := ⟨rfl, rfl, rfl, by decide +kernel, rfl, by decide +kernel, by decide +kernel⟩
theorem sc_l_caught_by : FnScope ["_law_battle", "_law_one", "_law_other", "_law_caught", "e"] ["_law_battle", "_law_one", "_law_other"] (defScope s_l_caught_by) := ⟨rfl, rfl, rfl, by decide +kernel, rfl, by decide +kernel, by decide +kernel⟩
theorem sc_l_other_mixes : FnScope ["_law_left", "_law_hosts", "_law_many", "_law_mix", "_law_longer", "_law_both"] ["_law_left", "_law_hosts", "_law_many"] (defScope s_l_other_mixes) := ⟨rfl, rfl, rfl, by decide +kernel, rfl, by decide +kernel, by decide +kernel⟩
theorem sc_law : FnScope ["_law_script", "_law_cell", "_law_left", "_law_battle", "_law_first", "_law_second", "_law_fields", "_law_one", "_law_other", "_law_kept", "_law_turn", "_law_odd", "_law_bad", "_law_place"] ["_law_script"] (defScope s_law) := ⟨rfl, rfl, rfl, by decide +kernel, rfl, by decide +kernel, by decide +kernel⟩
structure Txt (K : PySem.W.Frag) (mg : Str → Option Value) where
  a_NoBattle_init : Addr
  d_NoBattle_init : FuncData
  F_NoBattle_init : Fun K "__init__" "NoBattle.__init__" s_NoBattle_init a_NoBattle_init d_NoBattle_init
  b_NoBattle_init : Binds K d_NoBattle_init ["self", "field"] []
  a_is_number : Addr
  d_is_number : FuncData
  F_is_number : Fun K "is_number" "is_number" s_is_number a_is_number d_is_number
  g_is_number : mg "is_number" = some (.ref a_is_number)
  b_is_number : Binds K d_is_number ["thing"] []
  a_are_numbers : Addr
  d_are_numbers : FuncData
  F_are_numbers : Fun K "are_numbers" "are_numbers" s_are_numbers a_are_numbers d_are_numbers
  g_are_numbers : mg "are_numbers" = some (.ref a_are_numbers)
  b_are_numbers : Binds K d_are_numbers ["thing", "many"] []
  a_is_rule : Addr
  d_is_rule : FuncData
  F_is_rule : Fun K "is_rule" "is_rule" s_is_rule a_is_rule d_is_rule
  g_is_rule : mg "is_rule" = some (.ref a_is_rule)
  b_is_rule : Binds K d_is_rule ["field"] []
  a_is_field : Addr
  d_is_field : FuncData
  F_is_field : Fun K "is_field" "is_field" s_is_field a_is_field d_is_field
  g_is_field : mg "is_field" = some (.ref a_is_field)
  b_is_field : Binds K d_is_field ["field", "first", "second"] []
  a_look_battle : Addr
  d_look_battle : FuncData
  F_look_battle : Fun K "look_battle" "look_battle" s_look_battle a_look_battle d_look_battle
  g_look_battle : mg "look_battle" = some (.ref a_look_battle)
  b_look_battle : Binds K d_look_battle ["battle"] []
  a_paid : Addr
  d_paid : FuncData
  F_paid : Fun K "paid" "paid" s_paid a_paid d_paid
  g_paid : mg "paid" = some (.ref a_paid)
  b_paid : Binds K d_paid ["field", "x", "y"] []
  a_is_plan : Addr
  d_is_plan : FuncData
  F_is_plan : Fun K "is_plan" "is_plan" s_is_plan a_is_plan d_is_plan
  g_is_plan : mg "is_plan" = some (.ref a_is_plan)
  b_is_plan : Binds K d_is_plan ["hosts", "many", "plan"] []
  a_won : Addr
  d_won : FuncData
  F_won : Fun K "won" "won" s_won a_won d_won
  g_won : mg "won" = some (.ref a_won)
  b_won : Binds K d_won ["battle", "one", "other"] []
  a_is_mix : Addr
  d_is_mix : FuncData
  F_is_mix : Fun K "is_mix" "is_mix" s_is_mix a_is_mix d_is_mix
  g_is_mix : mg "is_mix" = some (.ref a_is_mix)
  b_is_mix : Binds K d_is_mix ["mix"] []
  a_divisor : Addr
  d_divisor : FuncData
  F_divisor : Fun K "divisor" "divisor" s_divisor a_divisor d_divisor
  g_divisor : mg "divisor" = some (.ref a_divisor)
  b_divisor : Binds K d_divisor ["one", "other"] []
  a_ratio : Addr
  d_ratio : FuncData
  F_ratio : Fun K "ratio" "ratio" s_ratio a_ratio d_ratio
  g_ratio : mg "ratio" = some (.ref a_ratio)
  b_ratio : Binds K d_ratio ["top", "bottom"] []
  a_must_be_mix : Addr
  d_must_be_mix : FuncData
  F_must_be_mix : Fun K "must_be_mix" "must_be_mix" s_must_be_mix a_must_be_mix d_must_be_mix
  g_must_be_mix : mg "must_be_mix" = some (.ref a_must_be_mix)
  b_must_be_mix : Binds K d_must_be_mix ["mix"] []
  a_whole_of : Addr
  d_whole_of : FuncData
  F_whole_of : Fun K "whole_of" "whole_of" s_whole_of a_whole_of d_whole_of
  g_whole_of : mg "whole_of" = some (.ref a_whole_of)
  b_whole_of : Binds K d_whole_of ["mix"] []
  a_must_be_mix_of : Addr
  d_must_be_mix_of : FuncData
  F_must_be_mix_of : Fun K "must_be_mix_of" "must_be_mix_of" s_must_be_mix_of a_must_be_mix_of d_must_be_mix_of
  g_must_be_mix_of : mg "must_be_mix_of" = some (.ref a_must_be_mix_of)
  b_must_be_mix_of : Binds K d_must_be_mix_of ["hosts", "many", "mix"] []
  a_mixed_gain : Addr
  d_mixed_gain : FuncData
  F_mixed_gain : Fun K "mixed_gain" "mixed_gain" s_mixed_gain a_mixed_gain d_mixed_gain
  g_mixed_gain : mg "mixed_gain" = some (.ref a_mixed_gain)
  b_mixed_gain : Binds K d_mixed_gain ["battle", "one", "other"] []
  a_l_stirred : Addr
  d_l_stirred : FuncData
  F_l_stirred : Fun K "_law_stirred" "_law_stirred" s_l_stirred a_l_stirred d_l_stirred
  g_l_stirred : mg "_law_stirred" = some (.ref a_l_stirred)
  b_l_stirred : Binds K d_l_stirred ["_law_number", "_law_k"] []
  a_l_opened : Addr
  d_l_opened : FuncData
  F_l_opened : Fun K "_law_opened" "_law_opened" s_l_opened a_l_opened d_l_opened
  g_l_opened : mg "_law_opened" = some (.ref a_l_opened)
  b_l_opened : Binds K d_l_opened ["_law_cell"] []
  a_l_draw : Addr
  d_l_draw : FuncData
  F_l_draw : Fun K "_law_draw" "_law_draw" s_l_draw a_l_draw d_l_draw
  g_l_draw : mg "_law_draw" = some (.ref a_l_draw)
  b_l_draw : Binds K d_l_draw ["_law_left", "_law_base"] []
  a_l_in_lowest : Addr
  d_l_in_lowest : FuncData
  F_l_in_lowest : Fun K "_law_in_lowest" "_law_in_lowest" s_l_in_lowest a_l_in_lowest d_l_in_lowest
  g_l_in_lowest : mg "_law_in_lowest" = some (.ref a_l_in_lowest)
  b_l_in_lowest : Binds K d_l_in_lowest ["_law_top", "_law_bottom"] []
  a_l_drawn_worth : Addr
  d_l_drawn_worth : FuncData
  F_l_drawn_worth : Fun K "_law_drawn_worth" "_law_drawn_worth" s_l_drawn_worth a_l_drawn_worth d_l_drawn_worth
  g_l_drawn_worth : mg "_law_drawn_worth" = some (.ref a_l_drawn_worth)
  b_l_drawn_worth : Binds K d_l_drawn_worth ["_law_left"] []
  a_l_drawn_field : Addr
  d_l_drawn_field : FuncData
  F_l_drawn_field : Fun K "_law_drawn_field" "_law_drawn_field" s_l_drawn_field a_l_drawn_field d_l_drawn_field
  g_l_drawn_field : mg "_law_drawn_field" = some (.ref a_l_drawn_field)
  b_l_drawn_field : Binds K d_l_drawn_field ["_law_left", "_law_first", "_law_second"] []
  a_l_drawn_battle : Addr
  d_l_drawn_battle : FuncData
  F_l_drawn_battle : Fun K "_law_drawn_battle" "_law_drawn_battle" s_l_drawn_battle a_l_drawn_battle d_l_drawn_battle
  g_l_drawn_battle : mg "_law_drawn_battle" = some (.ref a_l_drawn_battle)
  b_l_drawn_battle : Binds K d_l_drawn_battle ["_law_left", "_law_most", "_law_many"] []
  a_l_copied : Addr
  d_l_copied : FuncData
  F_l_copied : Fun K "_law_copied" "_law_copied" s_l_copied a_l_copied d_l_copied
  g_l_copied : mg "_law_copied" = some (.ref a_l_copied)
  b_l_copied : Binds K d_l_copied ["_law_battle"] []
  a_l_bad_field : Addr
  d_l_bad_field : FuncData
  F_l_bad_field : Fun K "_law_bad_field" "_law_bad_field" s_l_bad_field a_l_bad_field d_l_bad_field
  g_l_bad_field : mg "_law_bad_field" = some (.ref a_l_bad_field)
  b_l_bad_field : Binds K d_l_bad_field ["_law_left", "_law_field", "_law_first", "_law_second"] []
  a_l_bent_one : Addr
  d_l_bent_one : FuncData
  F_l_bent_one : Fun K "_law_bent_one" "_law_bent_one" s_l_bent_one a_l_bent_one d_l_bent_one
  g_l_bent_one : mg "_law_bent_one" = some (.ref a_l_bent_one)
  b_l_bent_one : Binds K d_l_bent_one ["_law_left", "_law_battle"] []
  a_l_pay : Addr
  d_l_pay : FuncData
  F_l_pay : Fun K "_law_pay" "_law_pay" s_l_pay a_l_pay d_l_pay
  g_l_pay : mg "_law_pay" = some (.ref a_l_pay)
  b_l_pay : Binds K d_l_pay ["_law_field", "_law_x", "_law_y"] []
  a_l_drawn_plan : Addr
  d_l_drawn_plan : FuncData
  F_l_drawn_plan : Fun K "_law_drawn_plan" "_law_drawn_plan" s_l_drawn_plan a_l_drawn_plan d_l_drawn_plan
  g_l_drawn_plan : mg "_law_drawn_plan" = some (.ref a_l_drawn_plan)
  b_l_drawn_plan : Binds K d_l_drawn_plan ["_law_left", "_law_hosts", "_law_many"] []
  a_l_drawn_mix : Addr
  d_l_drawn_mix : FuncData
  F_l_drawn_mix : Fun K "_law_drawn_mix" "_law_drawn_mix" s_l_drawn_mix a_l_drawn_mix d_l_drawn_mix
  g_l_drawn_mix : mg "_law_drawn_mix" = some (.ref a_l_drawn_mix)
  b_l_drawn_mix : Binds K d_l_drawn_mix ["_law_left", "_law_hosts", "_law_many", "_law_most"] []
  a_l_is_whole : Addr
  d_l_is_whole : FuncData
  F_l_is_whole : Fun K "_law_is_whole" "_law_is_whole" s_l_is_whole a_l_is_whole d_l_is_whole
  g_l_is_whole : mg "_law_is_whole" = some (.ref a_l_is_whole)
  b_l_is_whole : Binds K d_l_is_whole ["_law_told"] []
  a_l_is_it : Addr
  d_l_is_it : FuncData
  F_l_is_it : Fun K "_law_is_it" "_law_is_it" s_l_is_it a_l_is_it d_l_is_it
  g_l_is_it : mg "_law_is_it" = some (.ref a_l_is_it)
  b_l_is_it : Binds K d_l_is_it ["_law_told", "_law_due"] []
  a_l_kind_of : Addr
  d_l_kind_of : FuncData
  F_l_kind_of : Fun K "_law_kind_of" "_law_kind_of" s_l_kind_of a_l_kind_of d_l_kind_of
  g_l_kind_of : mg "_law_kind_of" = some (.ref a_l_kind_of)
  b_l_kind_of : Binds K d_l_kind_of ["_law_caught"] []
  a_l_due_of : Addr
  d_l_due_of : FuncData
  F_l_due_of : Fun K "_law_due_of" "_law_due_of" s_l_due_of a_l_due_of d_l_due_of
  g_l_due_of : mg "_law_due_of" = some (.ref a_l_due_of)
  b_l_due_of : Binds K d_l_due_of ["_law_battle", "_law_one", "_law_other"] []
  a_l_caught_by : Addr
  d_l_caught_by : FuncData
  F_l_caught_by : Fun K "_law_caught_by" "_law_caught_by" s_l_caught_by a_l_caught_by d_l_caught_by
  g_l_caught_by : mg "_law_caught_by" = some (.ref a_l_caught_by)
  b_l_caught_by : Binds K d_l_caught_by ["_law_battle", "_law_one", "_law_other"] []
  a_l_other_mixes : Addr
  d_l_other_mixes : FuncData
  F_l_other_mixes : Fun K "_law_other_mixes" "_law_other_mixes" s_l_other_mixes a_l_other_mixes d_l_other_mixes
  g_l_other_mixes : mg "_law_other_mixes" = some (.ref a_l_other_mixes)
  b_l_other_mixes : Binds K d_l_other_mixes ["_law_left", "_law_hosts", "_law_many"] []
  a_law : Addr
  d_law : FuncData
  F_law : Fun K "law" "law" s_law a_law d_law
  g_law : mg "law" = some (.ref a_law)
  b_law : Binds K d_law ["_law_script"] []
  z_ValueError : mg "ValueError" = none
  z_abs : mg "abs" = none
  z_bool : mg "bool" = none
  z_enumerate : mg "enumerate" = none
  z_int : mg "int" = none
  z_isinstance : mg "isinstance" = none
  z_len : mg "len" = none
  z_list : mg "list" = none
  z_max : mg "max" = none
  z_min : mg "min" = none
  z_range : mg "range" = none
  z_sum : mg "sum" = none
  z_tuple : mg "tuple" = none
  t_MOST_HOSTS_fields : Tok
  c_MOST_HOSTS_fields : mg "MOST_HOSTS_fields" = some (.int 10 t_MOST_HOSTS_fields)
  t_MOST_FIELDS_fields : Tok
  c_MOST_FIELDS_fields : mg "MOST_FIELDS_fields" = some (.int 5 t_MOST_FIELDS_fields)
  t_MOST_HOSTS_plans : Tok
  c_MOST_HOSTS_plans : mg "MOST_HOSTS_plans" = some (.int 40 t_MOST_HOSTS_plans)
  t_MOST_FIELDS_plans : Tok
  c_MOST_FIELDS_plans : mg "MOST_FIELDS_plans" = some (.int 8 t_MOST_FIELDS_plans)
  e_HostError : Addr
  g_HostError : mg "HostError" = some (.ref e_HostError)
  i_HostError : PySem.W.isClsIn K e_HostError = true
  t_HostError : PySem.W.typeIn K (.ref e_HostError) = some (.type "type")
  y_HostError : PySem.W.subIn K (.ref e_HostError) (.type "BaseException") = some true
  e_NoBattle : Addr
  g_NoBattle : mg "NoBattle" = some (.ref e_NoBattle)
  i_NoBattle : PySem.W.isClsIn K e_NoBattle = true
  t_NoBattle : PySem.W.typeIn K (.ref e_NoBattle) = some (.type "type")
  y_NoBattle : PySem.W.subIn K (.ref e_NoBattle) (.type "BaseException") = some true
  e_NoPlan : Addr
  g_NoPlan : mg "NoPlan" = some (.ref e_NoPlan)
  i_NoPlan : PySem.W.isClsIn K e_NoPlan = true
  t_NoPlan : PySem.W.typeIn K (.ref e_NoPlan) = some (.type "type")
  y_NoPlan : PySem.W.subIn K (.ref e_NoPlan) (.type "BaseException") = some true
  e_NoMix : Addr
  g_NoMix : mg "NoMix" = some (.ref e_NoMix)
  i_NoMix : PySem.W.isClsIn K e_NoMix = true
  t_NoMix : PySem.W.typeIn K (.ref e_NoMix) = some (.type "type")
  y_NoMix : PySem.W.subIn K (.ref e_NoMix) (.type "BaseException") = some true
  e_NoStream : Addr
  g_NoStream : mg "NoStream" = some (.ref e_NoStream)
  i_NoStream : PySem.W.isClsIn K e_NoStream = true
  t_NoStream : PySem.W.typeIn K (.ref e_NoStream) = some (.type "type")
  y_NoStream : PySem.W.subIn K (.ref e_NoStream) (.type "BaseException") = some true
  e_NoSide : Addr
  g_NoSide : mg "NoSide" = some (.ref e_NoSide)
  i_NoSide : PySem.W.isClsIn K e_NoSide = true
  t_NoSide : PySem.W.typeIn K (.ref e_NoSide) = some (.type "type")
  y_NoSide : PySem.W.subIn K (.ref e_NoSide) (.type "BaseException") = some true
  e_NoAlike : Addr
  g_NoAlike : mg "NoAlike" = some (.ref e_NoAlike)
  i_NoAlike : PySem.W.isClsIn K e_NoAlike = true
  t_NoAlike : PySem.W.typeIn K (.ref e_NoAlike) = some (.type "type")
  y_NoAlike : PySem.W.subIn K (.ref e_NoAlike) (.type "BaseException") = some true
  e_NoNumber : Addr
  g_NoNumber : mg "NoNumber" = some (.ref e_NoNumber)
  i_NoNumber : PySem.W.isClsIn K e_NoNumber = true
  t_NoNumber : PySem.W.typeIn K (.ref e_NoNumber) = some (.type "type")
  y_NoNumber : PySem.W.subIn K (.ref e_NoNumber) (.type "BaseException") = some true
  e_TooGreat : Addr
  g_TooGreat : mg "TooGreat" = some (.ref e_TooGreat)
  i_TooGreat : PySem.W.isClsIn K e_TooGreat = true
  t_TooGreat : PySem.W.typeIn K (.ref e_TooGreat) = some (.type "type")
  y_TooGreat : PySem.W.subIn K (.ref e_TooGreat) (.type "BaseException") = some true
  e_NoEven : Addr
  g_NoEven : mg "NoEven" = some (.ref e_NoEven)
  i_NoEven : PySem.W.isClsIn K e_NoEven = true
  t_NoEven : PySem.W.typeIn K (.ref e_NoEven) = some (.type "type")
  y_NoEven : PySem.W.subIn K (.ref e_NoEven) (.type "BaseException") = some true
  e_NoText : Addr
  g_NoText : mg "NoText" = some (.ref e_NoText)
  i_NoText : PySem.W.isClsIn K e_NoText = true
  t_NoText : PySem.W.typeIn K (.ref e_NoText) = some (.type "type")
  y_NoText : PySem.W.subIn K (.ref e_NoText) (.type "BaseException") = some true
  e_NoRow : Addr
  g_NoRow : mg "NoRow" = some (.ref e_NoRow)
  i_NoRow : PySem.W.isClsIn K e_NoRow = true
  t_NoRow : PySem.W.typeIn K (.ref e_NoRow) = some (.type "type")
  y_NoRow : PySem.W.subIn K (.ref e_NoRow) (.type "BaseException") = some true
  e_NoName : Addr
  g_NoName : mg "NoName" = some (.ref e_NoName)
  i_NoName : PySem.W.isClsIn K e_NoName = true
  t_NoName : PySem.W.typeIn K (.ref e_NoName) = some (.type "type")
  y_NoName : PySem.W.subIn K (.ref e_NoName) (.type "BaseException") = some true
  e_NoPlace : Addr
  g_NoPlace : mg "NoPlace" = some (.ref e_NoPlace)
  i_NoPlace : PySem.W.isClsIn K e_NoPlace = true
  t_NoPlace : PySem.W.typeIn K (.ref e_NoPlace) = some (.type "type")
  y_NoPlace : PySem.W.subIn K (.ref e_NoPlace) (.type "BaseException") = some true
  x_NoMix : PySem.W.excIn K e_NoMix [.type "ValueError", .type "Exception", .type "BaseException", .type "object"] "ValueError.__new__" = true
  k_NoMix : PySem.W.keepIn K (.ref e_NoMix) = true
  hg_NoMix : PySem.W.findIn K (.ref e_NoMix) "__getattribute__" = some (some (.builtin "BaseException.__getattribute__"))
  hk_NoMix : PySem.W.findIn K (.ref e_NoMix) "__getattr__" = some none
  hd_NoMix : PySem.W.hasDictIn K e_NoMix = true
  ha_NoMix : PySem.W.findIn K (.ref e_NoMix) "__class__" = some (some (.builtin "object.__class__"))
  hm_NoMix : PySem.W.mroIn K e_NoMix (.type "object") = some true
  v_NoMix : PySem.W.subIn K (.ref e_NoMix) (.type "ValueError") = some true
  s_NoMix_HostError : PySem.W.subIn K (.ref e_NoMix) (.ref e_HostError) = some true
  s_NoMix_NoBattle : PySem.W.subIn K (.ref e_NoMix) (.ref e_NoBattle) = some false
  s_NoMix_NoPlan : PySem.W.subIn K (.ref e_NoMix) (.ref e_NoPlan) = some false
  s_NoMix_NoMix : PySem.W.subIn K (.ref e_NoMix) (.ref e_NoMix) = some true
  s_NoMix_NoStream : PySem.W.subIn K (.ref e_NoMix) (.ref e_NoStream) = some false
  s_NoMix_NoSide : PySem.W.subIn K (.ref e_NoMix) (.ref e_NoSide) = some false
  s_NoMix_NoAlike : PySem.W.subIn K (.ref e_NoMix) (.ref e_NoAlike) = some false
  s_NoMix_NoNumber : PySem.W.subIn K (.ref e_NoMix) (.ref e_NoNumber) = some false
  s_NoMix_TooGreat : PySem.W.subIn K (.ref e_NoMix) (.ref e_TooGreat) = some false
  s_NoMix_NoEven : PySem.W.subIn K (.ref e_NoMix) (.ref e_NoEven) = some false
  s_NoMix_NoText : PySem.W.subIn K (.ref e_NoMix) (.ref e_NoText) = some false
  s_NoMix_NoRow : PySem.W.subIn K (.ref e_NoMix) (.ref e_NoRow) = some false
  s_NoMix_NoName : PySem.W.subIn K (.ref e_NoMix) (.ref e_NoName) = some false
  s_NoMix_NoPlace : PySem.W.subIn K (.ref e_NoMix) (.ref e_NoPlace) = some false
  oc_NoBattle : ∃ nm q N bs bm sn sub ab col dd k0 k1 k2 k3 k5, K.lookup e_NoBattle = some (excClassObj nm q e_NoBattle N bs bm true sn sub ab col dd k0 k1 k2 k3 k5 "ValueError.__new__") ∧ PySem.HandSPX.refsVE bm = true
  sa_NoBattle : PySem.W.findIn K (.ref e_NoBattle) "__setattr__" = some (some (.builtin "object.__setattr__"))
  ic_NoBattle : PySem.W.findIn K (.ref e_NoBattle) "__init__" = some (some (.ref a_NoBattle_init))
  ti_NoBattle : PySem.W.typeIn K (.ref a_NoBattle_init) = some (.type "function")
  no_NoBattle_field : PySem.W.findIn K (.ref e_NoBattle) "field" = some none
  rd_HostError : PySem.W.readsIn K e_HostError (.type "type") = true
  ga_HostError : PySem.W.specialIn K (.ref e_HostError) "__getattribute__" = some (some (.builtin "type.__getattribute__"))
  fc_HostError : PySem.W.findCls K (.ref e_HostError) (.type "type") "__init__" = some (.val (.builtin "ValueError.__init__"))
  k_NoBattle : PySem.W.keepIn K (.ref e_NoBattle) = true
  hg_NoBattle : PySem.W.findIn K (.ref e_NoBattle) "__getattribute__" = some (some (.builtin "BaseException.__getattribute__"))
  hk_NoBattle : PySem.W.findIn K (.ref e_NoBattle) "__getattr__" = some none
  hd_NoBattle : PySem.W.hasDictIn K e_NoBattle = true
  ha_NoBattle : PySem.W.findIn K (.ref e_NoBattle) "__class__" = some (some (.builtin "object.__class__"))
  hm_NoBattle : PySem.W.mroIn K e_NoBattle (.type "object") = some true
  v_NoBattle : PySem.W.subIn K (.ref e_NoBattle) (.type "ValueError") = some true
  s_NoBattle_HostError : PySem.W.subIn K (.ref e_NoBattle) (.ref e_HostError) = some true
  s_NoBattle_NoBattle : PySem.W.subIn K (.ref e_NoBattle) (.ref e_NoBattle) = some true
  s_NoBattle_NoPlan : PySem.W.subIn K (.ref e_NoBattle) (.ref e_NoPlan) = some false
  s_NoBattle_NoMix : PySem.W.subIn K (.ref e_NoBattle) (.ref e_NoMix) = some false
  s_NoBattle_NoStream : PySem.W.subIn K (.ref e_NoBattle) (.ref e_NoStream) = some false
  s_NoBattle_NoSide : PySem.W.subIn K (.ref e_NoBattle) (.ref e_NoSide) = some false
  s_NoBattle_NoAlike : PySem.W.subIn K (.ref e_NoBattle) (.ref e_NoAlike) = some false
  s_NoBattle_NoNumber : PySem.W.subIn K (.ref e_NoBattle) (.ref e_NoNumber) = some false
  s_NoBattle_TooGreat : PySem.W.subIn K (.ref e_NoBattle) (.ref e_TooGreat) = some false
  s_NoBattle_NoEven : PySem.W.subIn K (.ref e_NoBattle) (.ref e_NoEven) = some false
  s_NoBattle_NoText : PySem.W.subIn K (.ref e_NoBattle) (.ref e_NoText) = some false
  s_NoBattle_NoRow : PySem.W.subIn K (.ref e_NoBattle) (.ref e_NoRow) = some false
  s_NoBattle_NoName : PySem.W.subIn K (.ref e_NoBattle) (.ref e_NoName) = some false
  s_NoBattle_NoPlace : PySem.W.subIn K (.ref e_NoBattle) (.ref e_NoPlace) = some false
  ho_n : PySem.W.specialIn K (.builtin "object.__class__") "__get__" = some (some (.builtin "getset_descriptor.__get__"))
  ho_t : PySem.W.takesIn K (.builtin "object.__class__") = some true
section
variable {K : PySem.W.Frag} {mg : Str → Option Value} (T : Txt K mg)
include T
theorem Txt.O_NoBattle : OexC K T.e_NoBattle := ⟨T.oc_NoBattle, T.sa_NoBattle, T.y_NoBattle, T.t_NoBattle, T.k_NoBattle⟩
theorem cl_HostError : ClsT K T.e_HostError := ⟨T.i_HostError, T.t_HostError⟩
theorem cl_NoBattle : ClsT K T.e_NoBattle := ⟨T.i_NoBattle, T.t_NoBattle⟩
theorem cl_NoPlan : ClsT K T.e_NoPlan := ⟨T.i_NoPlan, T.t_NoPlan⟩
theorem cl_NoMix : ClsT K T.e_NoMix := ⟨T.i_NoMix, T.t_NoMix⟩
theorem cl_NoStream : ClsT K T.e_NoStream := ⟨T.i_NoStream, T.t_NoStream⟩
theorem cl_NoSide : ClsT K T.e_NoSide := ⟨T.i_NoSide, T.t_NoSide⟩
theorem cl_NoAlike : ClsT K T.e_NoAlike := ⟨T.i_NoAlike, T.t_NoAlike⟩
theorem cl_NoNumber : ClsT K T.e_NoNumber := ⟨T.i_NoNumber, T.t_NoNumber⟩
theorem cl_TooGreat : ClsT K T.e_TooGreat := ⟨T.i_TooGreat, T.t_TooGreat⟩
theorem cl_NoEven : ClsT K T.e_NoEven := ⟨T.i_NoEven, T.t_NoEven⟩
theorem cl_NoText : ClsT K T.e_NoText := ⟨T.i_NoText, T.t_NoText⟩
theorem cl_NoRow : ClsT K T.e_NoRow := ⟨T.i_NoRow, T.t_NoRow⟩
theorem cl_NoName : ClsT K T.e_NoName := ⟨T.i_NoName, T.t_NoName⟩
theorem cl_NoPlace : ClsT K T.e_NoPlace := ⟨T.i_NoPlace, T.t_NoPlace⟩
theorem exc_NoMix : L2.ExcC K T.e_NoMix := ⟨T.hg_NoMix, T.hk_NoMix, T.y_NoMix, T.hd_NoMix, T.ha_NoMix, T.ho_n, T.ho_t, T.hm_NoMix⟩
theorem kit_NoMix_ValueError : PySem.W.kitOne K (.ref T.e_NoMix) (.type "ValueError") = some true := kit_v T.v_NoMix (by decide +kernel)
theorem kit_NoMix_HostError : PySem.W.kitOne K (.ref T.e_NoMix) (.ref T.e_HostError) = some true := kit_t (cl_HostError T) T.s_NoMix_HostError
theorem exm_NoMix_HostError : PySem.W.exmOne K (.ref T.e_NoMix) (.ref T.e_HostError) = some true := exm_t (cl_HostError T) T.y_HostError T.s_NoMix_HostError
theorem kit_NoMix_NoBattle : PySem.W.kitOne K (.ref T.e_NoMix) (.ref T.e_NoBattle) = some false := kit_f (cl_NoBattle T) T.s_NoMix_NoMix T.s_NoMix_NoBattle
theorem kit_NoMix_NoPlan : PySem.W.kitOne K (.ref T.e_NoMix) (.ref T.e_NoPlan) = some false := kit_f (cl_NoPlan T) T.s_NoMix_NoMix T.s_NoMix_NoPlan
theorem kit_NoMix_NoMix : PySem.W.kitOne K (.ref T.e_NoMix) (.ref T.e_NoMix) = some true := kit_t (cl_NoMix T) T.s_NoMix_NoMix
theorem exm_NoMix_NoMix : PySem.W.exmOne K (.ref T.e_NoMix) (.ref T.e_NoMix) = some true := exm_t (cl_NoMix T) T.y_NoMix T.s_NoMix_NoMix
theorem kit_NoMix_NoStream : PySem.W.kitOne K (.ref T.e_NoMix) (.ref T.e_NoStream) = some false := kit_f (cl_NoStream T) T.s_NoMix_NoMix T.s_NoMix_NoStream
theorem kit_NoMix_NoSide : PySem.W.kitOne K (.ref T.e_NoMix) (.ref T.e_NoSide) = some false := kit_f (cl_NoSide T) T.s_NoMix_NoMix T.s_NoMix_NoSide
theorem kit_NoMix_NoAlike : PySem.W.kitOne K (.ref T.e_NoMix) (.ref T.e_NoAlike) = some false := kit_f (cl_NoAlike T) T.s_NoMix_NoMix T.s_NoMix_NoAlike
theorem kit_NoMix_NoNumber : PySem.W.kitOne K (.ref T.e_NoMix) (.ref T.e_NoNumber) = some false := kit_f (cl_NoNumber T) T.s_NoMix_NoMix T.s_NoMix_NoNumber
theorem kit_NoMix_TooGreat : PySem.W.kitOne K (.ref T.e_NoMix) (.ref T.e_TooGreat) = some false := kit_f (cl_TooGreat T) T.s_NoMix_NoMix T.s_NoMix_TooGreat
theorem kit_NoMix_NoEven : PySem.W.kitOne K (.ref T.e_NoMix) (.ref T.e_NoEven) = some false := kit_f (cl_NoEven T) T.s_NoMix_NoMix T.s_NoMix_NoEven
theorem kit_NoMix_NoText : PySem.W.kitOne K (.ref T.e_NoMix) (.ref T.e_NoText) = some false := kit_f (cl_NoText T) T.s_NoMix_NoMix T.s_NoMix_NoText
theorem kit_NoMix_NoRow : PySem.W.kitOne K (.ref T.e_NoMix) (.ref T.e_NoRow) = some false := kit_f (cl_NoRow T) T.s_NoMix_NoMix T.s_NoMix_NoRow
theorem kit_NoMix_NoName : PySem.W.kitOne K (.ref T.e_NoMix) (.ref T.e_NoName) = some false := kit_f (cl_NoName T) T.s_NoMix_NoMix T.s_NoMix_NoName
theorem kit_NoMix_NoPlace : PySem.W.kitOne K (.ref T.e_NoMix) (.ref T.e_NoPlace) = some false := kit_f (cl_NoPlace T) T.s_NoMix_NoMix T.s_NoMix_NoPlace
theorem exc_NoBattle : L2.ExcC K T.e_NoBattle := ⟨T.hg_NoBattle, T.hk_NoBattle, T.y_NoBattle, T.hd_NoBattle, T.ha_NoBattle, T.ho_n, T.ho_t, T.hm_NoBattle⟩
theorem kit_NoBattle_ValueError : PySem.W.kitOne K (.ref T.e_NoBattle) (.type "ValueError") = some true := kit_v T.v_NoBattle (by decide +kernel)
theorem kit_NoBattle_HostError : PySem.W.kitOne K (.ref T.e_NoBattle) (.ref T.e_HostError) = some true := kit_t (cl_HostError T) T.s_NoBattle_HostError
theorem exm_NoBattle_HostError : PySem.W.exmOne K (.ref T.e_NoBattle) (.ref T.e_HostError) = some true := exm_t (cl_HostError T) T.y_HostError T.s_NoBattle_HostError
theorem kit_NoBattle_NoBattle : PySem.W.kitOne K (.ref T.e_NoBattle) (.ref T.e_NoBattle) = some true := kit_t (cl_NoBattle T) T.s_NoBattle_NoBattle
theorem exm_NoBattle_NoBattle : PySem.W.exmOne K (.ref T.e_NoBattle) (.ref T.e_NoBattle) = some true := exm_t (cl_NoBattle T) T.y_NoBattle T.s_NoBattle_NoBattle
theorem kit_NoBattle_NoPlan : PySem.W.kitOne K (.ref T.e_NoBattle) (.ref T.e_NoPlan) = some false := kit_f (cl_NoPlan T) T.s_NoBattle_NoBattle T.s_NoBattle_NoPlan
theorem kit_NoBattle_NoMix : PySem.W.kitOne K (.ref T.e_NoBattle) (.ref T.e_NoMix) = some false := kit_f (cl_NoMix T) T.s_NoBattle_NoBattle T.s_NoBattle_NoMix
theorem kit_NoBattle_NoStream : PySem.W.kitOne K (.ref T.e_NoBattle) (.ref T.e_NoStream) = some false := kit_f (cl_NoStream T) T.s_NoBattle_NoBattle T.s_NoBattle_NoStream
theorem kit_NoBattle_NoSide : PySem.W.kitOne K (.ref T.e_NoBattle) (.ref T.e_NoSide) = some false := kit_f (cl_NoSide T) T.s_NoBattle_NoBattle T.s_NoBattle_NoSide
theorem kit_NoBattle_NoAlike : PySem.W.kitOne K (.ref T.e_NoBattle) (.ref T.e_NoAlike) = some false := kit_f (cl_NoAlike T) T.s_NoBattle_NoBattle T.s_NoBattle_NoAlike
theorem kit_NoBattle_NoNumber : PySem.W.kitOne K (.ref T.e_NoBattle) (.ref T.e_NoNumber) = some false := kit_f (cl_NoNumber T) T.s_NoBattle_NoBattle T.s_NoBattle_NoNumber
theorem kit_NoBattle_TooGreat : PySem.W.kitOne K (.ref T.e_NoBattle) (.ref T.e_TooGreat) = some false := kit_f (cl_TooGreat T) T.s_NoBattle_NoBattle T.s_NoBattle_TooGreat
theorem kit_NoBattle_NoEven : PySem.W.kitOne K (.ref T.e_NoBattle) (.ref T.e_NoEven) = some false := kit_f (cl_NoEven T) T.s_NoBattle_NoBattle T.s_NoBattle_NoEven
theorem kit_NoBattle_NoText : PySem.W.kitOne K (.ref T.e_NoBattle) (.ref T.e_NoText) = some false := kit_f (cl_NoText T) T.s_NoBattle_NoBattle T.s_NoBattle_NoText
theorem kit_NoBattle_NoRow : PySem.W.kitOne K (.ref T.e_NoBattle) (.ref T.e_NoRow) = some false := kit_f (cl_NoRow T) T.s_NoBattle_NoBattle T.s_NoBattle_NoRow
theorem kit_NoBattle_NoName : PySem.W.kitOne K (.ref T.e_NoBattle) (.ref T.e_NoName) = some false := kit_f (cl_NoName T) T.s_NoBattle_NoBattle T.s_NoBattle_NoName
theorem kit_NoBattle_NoPlace : PySem.W.kitOne K (.ref T.e_NoBattle) (.ref T.e_NoPlace) = some false := kit_f (cl_NoPlace T) T.s_NoBattle_NoBattle T.s_NoBattle_NoPlace
end
local macro_rules | `(tactic| walk_at "g_oex") => `(tactic| first | (with_reducible exact Txt.O_NoBattle _))
local macro_rules | `(tactic| walk_at "g_nof") => `(tactic| first | (with_reducible exact Txt.no_NoBattle_field _))
local macro_rules | `(tactic| walk_at "g_kit") => `(tactic| first | (with_reducible exact kit_NoMix_ValueError _) | (with_reducible exact kit_NoMix_HostError _) | (with_reducible exact kit_NoMix_NoBattle _) | (with_reducible exact kit_NoMix_NoPlan _) | (with_reducible exact kit_NoMix_NoMix _) | (with_reducible exact kit_NoMix_NoStream _) | (with_reducible exact kit_NoMix_NoSide _) | (with_reducible exact kit_NoMix_NoAlike _) | (with_reducible exact kit_NoMix_NoNumber _) | (with_reducible exact kit_NoMix_TooGreat _) | (with_reducible exact kit_NoMix_NoEven _) | (with_reducible exact kit_NoMix_NoText _) | (with_reducible exact kit_NoMix_NoRow _) | (with_reducible exact kit_NoMix_NoName _) | (with_reducible exact kit_NoMix_NoPlace _) | (with_reducible exact kit_NoBattle_ValueError _) | (with_reducible exact kit_NoBattle_HostError _) | (with_reducible exact kit_NoBattle_NoBattle _) | (with_reducible exact kit_NoBattle_NoPlan _) | (with_reducible exact kit_NoBattle_NoMix _) | (with_reducible exact kit_NoBattle_NoStream _) | (with_reducible exact kit_NoBattle_NoSide _) | (with_reducible exact kit_NoBattle_NoAlike _) | (with_reducible exact kit_NoBattle_NoNumber _) | (with_reducible exact kit_NoBattle_TooGreat _) | (with_reducible exact kit_NoBattle_NoEven _) | (with_reducible exact kit_NoBattle_NoText _) | (with_reducible exact kit_NoBattle_NoRow _) | (with_reducible exact kit_NoBattle_NoName _) | (with_reducible exact kit_NoBattle_NoPlace _))
local macro_rules | `(tactic| walk_at "g_exc") => `(tactic| first | (with_reducible exact exc_NoMix _) | (with_reducible exact exc_NoBattle _))
local macro_rules | `(tactic| walk_at "g_exm") => `(tactic| first | (with_reducible exact exm_NoMix_HostError _) | (with_reducible exact exm_NoMix_NoMix _) | (with_reducible exact exm_NoBattle_HostError _) | (with_reducible exact exm_NoBattle_NoBattle _))
def sp_l_stirred (K : PySem.W.Frag) : Sp := fun vs H Q E => ∃ (n c : Int), vs = [.int n, .int c] ∧ (0 ≤ n ∧ n < 2147483629) ∧ (0 ≤ c ∧ c ≤ 1000000) ∧ ∀ (r : Int), (0 ≤ r ∧ r < 2147483587) → Q (.int r) H
theorem use_l_stirred {K : PySem.W.Frag} {H : Hp} {Q : VK} {E : XK} {n c : Int} (p0 : 0 ≤ n ∧ n < 2147483629) (p1 : 0 ≤ c ∧ c ≤ 1000000) (k : ∀ (r : Int), (0 ≤ r ∧ r < 2147483587) → Q (.int r) H) : sp_l_stirred K [.int n, .int c] H Q E := ⟨n, c, rfl, p0, p1, k⟩
theorem len_l_stirred {K : PySem.W.Frag} (vs : List V) (H : Hp) (Q : VK) (E : XK) (h : sp_l_stirred K vs H Q E) : vs.length = ["_law_number", "_law_k"].length := by
  obtain ⟨_, _, rfl, _⟩ := h
  rfl
local macro_rules | `(tactic| walk_at "g_call") => `(tactic| ((with_reducible refine' use_l_stirred ?c0 ?c1 ?_); (case c0 => walk_at "g_pre"); (case c1 => walk_at "g_pre"); intros))
theorem ok_l_stirred (T : Txt K mg) : FnOk P w K mg base CX0 1 T.a_l_stirred T.d_l_stirred ["_law_number", "_law_k"] (sp_l_stirred K) := by
  refine T.F_l_stirred.ok sc_l_stirred len_l_stirred (fun cdv A outer s H vs Q E hr h => ?_)
  refine ⟨_, (pss_cons (ps_set (i := 2) sc_l_stirred.nd rfl (Or.inl rfl) (pe_op op_mod (pe_op op_mulA (pe_op op_add (pe_op op_add (pe_op op_mulA (pv 0) (pv 0)) (pe_op op_mulA (pv 1) (pv 0))) (pe_op op_mulA (pe_op op_mulA pe_int (pv 1)) (pv 1))) pe_int) pe_int))
      (pss_one (ps_ret (pe_op op_mod (pe_op op_mulA (pv 2) (pv 2)) pe_int)))), ?_⟩
  try dsimp only [L2.cxOf, L2.Cx.nox, L2.Cx.wish, List.map_cons, List.map_nil]
  obtain ⟨n, c, rfl, p0, p1, k⟩ := h
  refine start_to (σ := [some _, some _, none]) rfl ?_
  walk_at "go"
  refine k _ ?_
  omega
def sp_l_opened (K : PySem.W.Frag) : Sp := fun vs H Q E => ∃ (c : Int), vs = [.int c] ∧ ∀ (m : Int) (p : Addr) (H' : Hp), (Pk p m H' 0) → (Same H H') → (H p = none) → Q (.ref p) H'
theorem use_l_opened {K : PySem.W.Frag} {H : Hp} {Q : VK} {E : XK} {c : Int}  (k : ∀ (m : Int) (p : Addr) (H' : Hp), (Pk p m H' 0) → (Same H H') → (H p = none) → Q (.ref p) H') : sp_l_opened K [.int c] H Q E := ⟨c, rfl, k⟩
theorem len_l_opened {K : PySem.W.Frag} (vs : List V) (H : Hp) (Q : VK) (E : XK) (h : sp_l_opened K vs H Q E) : vs.length = ["_law_cell"].length := by
  obtain ⟨_, rfl, _⟩ := h
  rfl
local macro_rules | `(tactic| walk_at "g_call") => `(tactic| ((with_reducible refine' use_l_opened ?_); intros))
theorem ok_l_opened (T : Txt K mg) : FnOk P w K mg base CX0 1 T.a_l_opened T.d_l_opened ["_law_cell"] (sp_l_opened K) := by
  refine T.F_l_opened.ok sc_l_opened len_l_opened (fun cdv A outer s H vs Q E hr h => ?_)
  refine ⟨_, (pss_cons (ps_if (pt_cmpR op_lt (pv 0) (pe_op op_pow pe_int pe_int) (nomark _)) (pss_one (ps_ret (pe_lst (pa_cons (pe_op op_mod (pv 0) pe_int) (pa_cons pe_int (pa_cons pe_int pa_nil)))))) pss_nil)
      (pss_one (ps_ret (pe_lst (pa_cons (pe_op op_sub (pv 0) (pe_op op_pow pe_int pe_int)) (pa_cons pe_int (pa_cons pe_int pa_nil))))))), ?_⟩
  try dsimp only [L2.cxOf, L2.Cx.nox, L2.Cx.wish, List.map_cons, List.map_nil]
  obtain ⟨c, rfl, k⟩ := h
  refine start_to (σ := [some _]) rfl ?_
  walk_at "go"
  refine ite_d (fun c1 => ?_) (fun c1 => ?_)
  · walk_at "go"
    exact k _ _ _ (pk_new (.inr ⟨rfl, by omega⟩)) (by walk_at "g_same") (by assumption)
  · walk_at "go"
    exact k _ _ _ (pk_new (.inl rfl)) (by walk_at "g_same") (by assumption)
def sp_l_draw (K : PySem.W.Frag) : Sp := fun vs H Q E => ∃ (a : Addr) (m c b : Int), vs = [.ref a, .int b] ∧ (Pk a m H c) ∧ (c ≤ 100000) ∧ (0 < b ∧ b < 2 ^ 200) ∧ ∀ (d : Int) (H' : Hp), (0 ≤ d ∧ d < b) → (Pk a m H' (c + 4)) → (But a H H') → Q (.int d) H'
theorem use_l_draw {K : PySem.W.Frag} {H : Hp} {Q : VK} {E : XK} {a : Addr} {m c b : Int} (p0 : Pk a m H c) (p1 : c ≤ 100000) (p2 : 0 < b ∧ b < 2 ^ 200) (k : ∀ (d : Int) (H' : Hp), (0 ≤ d ∧ d < b) → (Pk a m H' (c + 4)) → (But a H H') → Q (.int d) H') : sp_l_draw K [.ref a, .int b] H Q E := ⟨a, m, c, b, rfl, p0, p1, p2, k⟩
theorem len_l_draw {K : PySem.W.Frag} (vs : List V) (H : Hp) (Q : VK) (E : XK) (h : sp_l_draw K vs H Q E) : vs.length = ["_law_left", "_law_base"].length := by
  obtain ⟨_, _, _, _, rfl, _⟩ := h
  rfl
local macro_rules | `(tactic| walk_at "g_call") => `(tactic| ((with_reducible refine' use_l_draw ?c0 ?c1 ?c2 ?_); (case c0 => walk_at "g_pre"); (case c1 => walk_at "g_pre"); (case c2 => walk_at "g_pre"); intros))
theorem ok_l_draw (T : Txt K mg) : FnOk P w K mg base CX0 2 T.a_l_draw T.d_l_draw ["_law_left", "_law_base"] (sp_l_draw K) := by
  have G_l_stirred := ok_l_stirred (P := P) (w := w) (base := base) T
  refine T.F_l_draw.ok sc_l_draw len_l_draw (fun cdv A outer s H vs Q E hr h => ?_)
  refine ⟨_, (pss_cons (ps_if (pt_cmpR op_eq (pe_ix (ix_listK K rfl) (pv 0) pe_int (fun _ _ => rfl)) pe_int (nomark _)) (pss_cons (ps_set (i := 2) sc_l_draw.nd rfl (Or.inl rfl) (pe_op op_mod (pe_ix (ix_listK K rfl) (pv 0) pe_int (fun _ _ => rfl)) (pv 1)))
      (pss_cons (ps_asg (pe_op op_fdivA (pe_ix (ix_listK K rfl) (pv 0) pe_int (fun _ _ => rfl)) (pv 1)) (pg_sub (pv 0) pe_int set_list))
      (pss_one (ps_ret (pv 2))))) pss_nil)
      (pss_cons (ps_set (i := 3) sc_l_draw.nd rfl (Or.inl rfl) pe_int)
      (pss_cons (ps_for PassesOwn.never rfl (pi_range1 rfl T.z_range (pa_cons (pe_ix (ix_listK K rfl) (pe_lst (pa_cons pe_int (pa_cons pe_int pa_nil))) (pe_callTy call_int1 (by rfl) T.z_int (by decide +kernel) (pa_cons (pe_cmpR op_gt (pv 1) (pe_op op_pow pe_int pe_int) (nomark _)) pa_nil)) (fun _ _ => rfl)) pa_nil)) (pg_name (i := 4) sc_l_draw.nd rfl (Or.inl rfl)) (pss_cons (ps_asg (pe_op op_add (pe_ix (ix_listK K rfl) (pv 0) pe_int (fun _ _ => rfl)) pe_int) (pg_sub (pv 0) pe_int set_list))
      (pss_cons (ps_set (i := 5) sc_l_draw.nd rfl (Or.inl rfl) (pe_call G_l_stirred (hr.mono (by first | decide | omega)) (by rfl) T.g_l_stirred T.F_l_stirred.kp T.b_l_stirred .nil pass0 (pa_cons (pe_ix (ix_listK K rfl) (pv 0) pe_int (fun _ _ => rfl)) (pa_cons (pe_ix (ix_listK K rfl) (pv 0) pe_int (fun _ _ => rfl)) pa_nil))))
      (pss_one (ps_set (i := 3) sc_l_draw.nd rfl (Or.inl rfl) (pe_op op_add (pe_op op_mulA (pv 3) pe_int) (pe_op op_mod (pe_op op_mulA (pv 5) (pe_op op_add (pv 5) pe_int)) pe_int)))))))
      (pss_one (ps_ret (pe_op op_mod (pv 3) (pv 1))))))), ?_⟩
  try dsimp only [L2.cxOf, L2.Cx.nox, L2.Cx.wish, List.map_cons, List.map_nil]
  obtain ⟨a, m, c0, b, rfl, ⟨n, c, p0, p1, p2, p4⟩, p5, p3, k⟩ := h
  refine start_to (σ := [some _, some _, none, none, none, none]) rfl ?_
  walk_at "go"
  refine ite_d (fun c1 => ?_) (fun c1 => ?_)
  · walk_at "go"
    exact k _ _ ⟨Int.emod_nonneg _ (by omega), Int.emod_lt_of_pos _ (by omega)⟩ ⟨_, _, upd_same, .inl c1, by omega, by omega⟩ (But.upd (But.refl _ _))
  · walk_at "go"
    rename_i p np t ht
    have hap : a ≠ p := ne_of_none p0 np
    rcases p1 with z | ⟨z, hn⟩
    · exact absurd z c1
    refine forR (fun i σ H1 => ∃ (x c' : Int) (y1 y2 y3 : Option V), σ = [some (.ref a), some (.int b), y1, some (.int x), y2, y3] ∧ c' = c + i ∧ But a H H1 ∧ H1 a = some (.lst [.int n, .int m, .int c'])) ?_ ?_ ?_
    · exact ⟨0, c, none, none, none, rfl, by omega, But.new (But.refl _ _) np, by rw [upd_ne hap]; exact p0⟩
    · rintro σ1 H1 ⟨x, c', y1, y2, y3, rfl, hc, hb, ha⟩
      walk_at "go"
      exact k _ _ ⟨Int.emod_nonneg _ (by omega), Int.emod_lt_of_pos _ (by omega)⟩ ⟨_, _, ha, .inr ⟨z, hn⟩, by omega, by omega⟩ hb
    · rintro i σ1 H1 hi ⟨x, c', y1, y2, y3, rfl, hc, hb, ha⟩
      walk_at "go"
      exact ⟨_, c' + 1, _, _, _, rfl, by omega, But.upd hb, upd_same⟩

theorem use_l_draw_raw {K : PySem.W.Frag} {a : Addr} {n m c b : Int} {H : Hp} {Q : VK} {E : XK} (h : H a = some (.lst [.int n, .int m, .int c])) (l : Left n m) (hc : 0 ≤ c ∧ c ≤ 100000) (hb : 0 < b ∧ b < 2 ^ 200)
    (k : ∀ (d n' c' : Int) (H' : Hp), (0 ≤ d ∧ d < b) → Left n' m → (0 ≤ c' ∧ c' ≤ c + 4) → But a H H' → H' a = some (.lst [.int n', .int m, .int c']) → Q (.int d) H') : sp_l_draw K [.ref a, .int b] H Q E :=
  use_l_draw ⟨n, c, h, l, hc.1, Int.le_refl _⟩ hc.2 hb fun d H' h1 h2 h3 => by
    obtain ⟨n', c', g1, g2, g3, g4⟩ := h2
    exact k d n' c' H' h1 g2 ⟨g3, g4⟩ h3 g1
local macro_rules | `(tactic| walk_at "g_call") => `(tactic| first | ((with_reducible refine' use_l_draw ?c0 ?c1 ?c2 ?_); (case c0 => walk_at "g_pk"); (case c1 => walk_at "g_pre"); (case c2 => walk_at "g_pre"); intros) | ((with_reducible refine' use_l_draw_raw ?c0 ?c1 ?c2 ?c3 ?_); (case c0 => walk_at "g_pre"); (case c1 => walk_at "g_pre"); (case c2 => walk_at "g_pre"); (case c3 => walk_at "g_pre"); intros) | fail "drawraw")

def sp_l_drawn_worth (K : PySem.W.Frag) : Sp := fun vs H Q E => ∃ (a : Addr) (n m c : Int), vs = [.ref a] ∧ (H a = some (.lst [.int n, .int m, .int c])) ∧ (Left n m) ∧ (0 ≤ c ∧ c ≤ 90000) ∧ ∀ (w n' c' : Int) (H' : Hp), (H' a = some (.lst [.int n', .int m, .int c'])) → (1 ≤ w ∧ w ≤ 20000000000000000000000000000) → (Left n' m) → (0 ≤ c' ∧ c' ≤ c + 16) → (But a H H') → Q (.int w) H'
theorem use_l_drawn_worth {K : PySem.W.Frag} {H : Hp} {Q : VK} {E : XK} {a : Addr} {n m c : Int} (p0 : H a = some (.lst [.int n, .int m, .int c])) (p1 : Left n m) (p2 : 0 ≤ c ∧ c ≤ 90000) (k : ∀ (w n' c' : Int) (H' : Hp), (H' a = some (.lst [.int n', .int m, .int c'])) → (1 ≤ w ∧ w ≤ 20000000000000000000000000000) → (Left n' m) → (0 ≤ c' ∧ c' ≤ c + 16) → (But a H H') → Q (.int w) H') : sp_l_drawn_worth K [.ref a] H Q E := ⟨a, n, m, c, rfl, p0, p1, p2, k⟩
theorem len_l_drawn_worth {K : PySem.W.Frag} (vs : List V) (H : Hp) (Q : VK) (E : XK) (h : sp_l_drawn_worth K vs H Q E) : vs.length = ["_law_left"].length := by
  obtain ⟨_, _, _, _, rfl, _⟩ := h
  rfl
local macro_rules | `(tactic| walk_at "g_call") => `(tactic| ((with_reducible refine' use_l_drawn_worth ?c0 ?c1 ?c2 ?_); (case c0 => walk_at "g_pre"); (case c1 => walk_at "g_pre"); (case c2 => walk_at "g_pre"); intros))
theorem ok_l_drawn_worth (T : Txt K mg) : FnOk P w K mg base CX0 3 T.a_l_drawn_worth T.d_l_drawn_worth ["_law_left"] (sp_l_drawn_worth K) := by
  have G_l_draw := ok_l_draw (P := P) (w := w) (base := base) T
  refine T.F_l_drawn_worth.ok sc_l_drawn_worth len_l_drawn_worth (fun cdv A outer s H vs Q E hr h => ?_)
  refine ⟨_, (pss_cons (ps_set (i := 1) sc_l_drawn_worth.nd rfl (Or.inl rfl) (pe_op op_add (pe_op op_pow pe_int pe_int) (pe_call G_l_draw (hr.mono (by first | decide | omega)) (by rfl) T.g_l_draw T.F_l_draw.kp T.b_l_draw .nil pass0 (pa_cons (pv 0) (pa_cons (pe_op op_pow pe_int pe_int) pa_nil)))))
      (pss_one (ps_ret (pe_ix (ix_listK K rfl) (pe_lst (pa_cons (pe_op op_add pe_int (pe_call G_l_draw (hr.mono (by first | decide | omega)) (by rfl) T.g_l_draw T.F_l_draw.kp T.b_l_draw .nil pass0 (pa_cons (pv 0) (pa_cons pe_int pa_nil)))) (pa_cons (pe_op op_add pe_int (pe_call G_l_draw (hr.mono (by first | decide | omega)) (by rfl) T.g_l_draw T.F_l_draw.kp T.b_l_draw .nil pass0 (pa_cons (pv 0) (pa_cons pe_int pa_nil)))) (pa_cons (pv 1) pa_nil)))) (pe_op op_fdiv (pe_call G_l_draw (hr.mono (by first | decide | omega)) (by rfl) T.g_l_draw T.F_l_draw.kp T.b_l_draw .nil pass0 (pa_cons (pv 0) (pa_cons pe_int pa_nil))) pe_int) (fun _ _ => rfl))))), ?_⟩
  try dsimp only [L2.cxOf, L2.Cx.nox, L2.Cx.wish, List.map_cons, List.map_nil]
  obtain ⟨a, n, m, c, rfl, p0, p1, p2, k⟩ := h
  refine start_to (σ := [some _, none]) rfl ?_
  walk_at "go"
  rename_i x1
  exact k _ _ _ _ (by walk_at "g_lk") (by omega) (by assumption) (by omega) (by walk_at "g_but")
def sp_l_drawn_field (K : PySem.W.Frag) : Sp := fun vs H Q E => ∃ (a : Addr) (n m c f s : Int), vs = [.ref a, .int f, .int s] ∧ (H a = some (.lst [.int n, .int m, .int c])) ∧ (Left n m) ∧ (0 ≤ c ∧ c ≤ 80000) ∧ (0 ≤ f ∧ f ≤ 10 ∧ 0 ≤ s ∧ s ≤ 10) ∧ ∀ (v : V) (fl : Fld) (G : Hp) (n' c' : Int) (H' : Hp), (H' a = some (.lst [.int n', .int m, .int c'])) → (Dq G v (fldD fl)) → (Newly H G) → (Same G H') → (FldOk f s fl) → (FldSm fl) → (Left n' m) → (0 ≤ c' ∧ c' ≤ c + 600) → (But a H H') → Q (v) H'
theorem use_l_drawn_field {K : PySem.W.Frag} {H : Hp} {Q : VK} {E : XK} {a : Addr} {n m c f s : Int} (p0 : H a = some (.lst [.int n, .int m, .int c])) (p1 : Left n m) (p2 : 0 ≤ c ∧ c ≤ 80000) (p3 : 0 ≤ f ∧ f ≤ 10 ∧ 0 ≤ s ∧ s ≤ 10) (k : ∀ (v : V) (fl : Fld) (G : Hp) (n' c' : Int) (H' : Hp), (H' a = some (.lst [.int n', .int m, .int c'])) → (Dq G v (fldD fl)) → (Newly H G) → (Same G H') → (FldOk f s fl) → (FldSm fl) → (Left n' m) → (0 ≤ c' ∧ c' ≤ c + 600) → (But a H H') → Q (v) H') : sp_l_drawn_field K [.ref a, .int f, .int s] H Q E := ⟨a, n, m, c, f, s, rfl, p0, p1, p2, p3, k⟩
theorem len_l_drawn_field {K : PySem.W.Frag} (vs : List V) (H : Hp) (Q : VK) (E : XK) (h : sp_l_drawn_field K vs H Q E) : vs.length = ["_law_left", "_law_first", "_law_second"].length := by
  obtain ⟨_, _, _, _, _, _, rfl, _⟩ := h
  rfl
local macro_rules | `(tactic| walk_at "g_call") => `(tactic| ((with_reducible refine' use_l_drawn_field ?c0 ?c1 ?c2 ?c3 ?_); (case c0 => walk_at "g_pre"); (case c1 => walk_at "g_pre"); (case c2 => walk_at "g_pre"); (case c3 => walk_at "g_pre"); intros))
theorem ok_l_drawn_field (T : Txt K mg) : FnOk P w K mg base CX0 4 T.a_l_drawn_field T.d_l_drawn_field ["_law_left", "_law_first", "_law_second"] (sp_l_drawn_field K) := by
  have G_l_draw := ok_l_draw (P := P) (w := w) (base := base) T
  have G_l_drawn_worth := ok_l_drawn_worth (P := P) (w := w) (base := base) T
  refine T.F_l_drawn_field.ok sc_l_drawn_field len_l_drawn_field (fun cdv A outer s H vs Q E hr h => ?_)
  refine ⟨_, (pss_cons (ps_set (i := 3) sc_l_drawn_field.nd rfl (Or.inl rfl) (pe_call G_l_draw (hr.mono (by first | decide | omega)) (by rfl) T.g_l_draw T.F_l_draw.kp T.b_l_draw .nil pass0 (pa_cons (pv 0) (pa_cons pe_int pa_nil))))
      (pss_cons (ps_set (i := 4) sc_l_drawn_field.nd rfl (Or.inr rfl) (pe_call G_l_drawn_worth (hr.mono (by first | decide | omega)) (by rfl) T.g_l_drawn_worth T.F_l_drawn_worth.kp T.b_l_drawn_worth .nil pass0 (pa_cons (pv 0) pa_nil)))
      (pss_cons (ps_if (pt_cmpR op_eq (pv 3) pe_int (nomark _)) (pss_cons (ps_set (i := 5) sc_l_drawn_field.nd rfl (Or.inl rfl) (pe_ix (ix_listK K rfl) (pe_lst (pa_cons (pe_op op_sub (pe_call G_l_draw (hr.mono (by first | decide | omega)) (by rfl) T.g_l_draw T.F_l_draw.kp T.b_l_draw .nil pass0 (pa_cons (pv 0) (pa_cons (pe_op op_add (pe_op op_mulA pe_int (pv 4)) pe_int) pa_nil))) (pv 4)) (pa_cons pe_int (pa_cons (pv 4) (pa_cons (pe_op op_sub pe_int (pv 4)) pa_nil))))) (pe_call G_l_draw (hr.mono (by first | decide | omega)) (by rfl) T.g_l_draw T.F_l_draw.kp T.b_l_draw .nil pass0 (pa_cons (pv 0) (pa_cons pe_int pa_nil))) (fun _ _ => rfl)))
      (pss_one (ps_ret (pe_tup (pa_cons pe_str (pa_cons (pv 4) (pa_cons (pv 5) pa_nil))))))) pss_nil)
      (pss_cons (ps_if (pt_cmpR op_eq (pv 3) pe_int (nomark _)) (pss_cons (ps_set (i := 6) sc_l_drawn_field.nd rfl (Or.inl rfl) (pe_op op_sub (pe_op op_sub (pe_call G_l_draw (hr.mono (by first | decide | omega)) (by rfl) T.g_l_draw T.F_l_draw.kp T.b_l_draw .nil pass0 (pa_cons (pv 0) (pa_cons (pe_op op_add (pe_op op_add (pv 1) (pv 2)) pe_int) pa_nil))) (pv 2)) pe_int))
      (pss_cons (ps_set (i := 7) sc_l_drawn_field.nd rfl (Or.inl rfl) (pe_op op_mulA (pe_ix (ix_listK K rfl) (pe_lst (pa_cons pe_int (pa_cons (pe_un un_neg pe_int) pa_nil))) (pe_call G_l_draw (hr.mono (by first | decide | omega)) (by rfl) T.g_l_draw T.F_l_draw.kp T.b_l_draw .nil pass0 (pa_cons (pv 0) (pa_cons pe_int pa_nil))) (fun _ _ => rfl)) (pe_op op_pow pe_int pe_int)))
      (pss_one (ps_ret (pe_tup (pa_cons pe_str (pa_cons (pv 4) (pa_cons (pe_ix (ix_listK K rfl) (pe_lst (pa_cons (pv 6) (pa_cons (pv 6) (pa_cons (pv 6) (pa_cons (pv 7) pa_nil))))) (pe_call G_l_draw (hr.mono (by first | decide | omega)) (by rfl) T.g_l_draw T.F_l_draw.kp T.b_l_draw .nil pass0 (pa_cons (pv 0) (pa_cons pe_int pa_nil))) (fun _ _ => rfl)) pa_nil)))))))) pss_nil)
      (pss_cons (ps_set (i := 8) sc_l_drawn_field.nd rfl (Or.inl rfl) (pe_lst pa_nil))
      (pss_cons (ps_for PassesOwn.never rfl (pi_range1 rfl T.z_range (pa_cons (pe_op op_add (pv 1) pe_int) pa_nil)) (pg_name (i := 9) sc_l_drawn_field.nd rfl (Or.inl rfl)) (pss_one (ps_expr (pe_bm PySem.F.plainAttrs_list PySem.F.slot_list_append PySem.F.type_list_append mt_append (pv 8) (pa_cons (pe_lc (own := [("_law_y", 10)]) rfl sc_l_drawn_field.nd (pi_range1 rfl T.z_range (pa_cons (pe_op op_add (pv 2) pe_int) pa_nil)) (blkOk_by (own := [("_law_y", 10)]) (N := ["_law_left", "_law_first", "_law_second", "_law_kind", "_law_worth", "_law_tie", "_law_near", "_law_far", "_law_rows", "_law_x", "_law_y"]) (sc := defScope s_l_drawn_field) (by decide +kernel)) (fun _ _ _ _ _ => (pg_name (i := 10) sc_l_drawn_field.nd rfl (Or.inl rfl))) (fun _ _ _ _ _ => pts_nil) (fun _ _ _ _ _ => (pe_op op_sub (pe_call G_l_draw (hr.mono (by first | decide | omega)) (by rfl) T.g_l_draw T.F_l_draw.kp T.b_l_draw .nil pass0 (pa_cons (pv 0) (pa_cons (pe_op op_add (pe_op op_mulA pe_int (pv 4)) pe_int) pa_nil))) (pv 4)))) pa_nil)))))
      (pss_one (ps_ret (pe_tup (pa_cons pe_str (pa_cons (pv 8) pa_nil))))))))))), ?_⟩
  try dsimp only [L2.cxOf, L2.Cx.nox, L2.Cx.wish, List.map_cons, List.map_nil]
  obtain ⟨a, n, m, c, f, s, rfl, p0, p1, p2, p3, k⟩ := h
  refine start_to (σ := [some _, some _, some _, none, none, none, none, none, none, none, none]) rfl ?_
  walk_at "go"
  rename_i d1 n1 c1 H1 a1 a2 a3 a4 a5 w n2 c2 H2 b1 b2 b3 b4 b5
  refine ite_d (fun e1 => ?_) (fun e1 => ?_)
  · walk_at "go"
    rename_i d3 n3 c3 H3 u1 u2 u3 u4 u5 r1 u6 d4 n4 c4 H4 u7 u8 u9 u10 u11 t ht q nq
    have hq : H q = none := by walk_at "g_free"
    exact k _ (.more w t) (fr [] H (upd H4 q _)) _ _ _ (by walk_at "g_lk") (more_mk (fr_lk0 hq upd_same)) fr_newly fr_same ⟨by omega, by omega, by omega⟩ ⟨⟨by omega, by omega⟩, ⟨by omega, by omega⟩⟩ (by assumption) (by omega) (by walk_at "g_but")
  walk_at "go"
  refine ite_d (fun e2 => ?_) (fun e2 => ?_)
  · walk_at "go"
    rename_i d3 n3 c3 H3 u1 u2 u3 u4 u5 r1 u6 d4 n4 c4 H4 u7 u8 u9 u10 u11 z hz r2 u12 d5 n5 c5 H5 u13 u14 u15 u16 u17 t ht q nq
    have hq : H q = none := by walk_at "g_free"
    have hz2 : -100000000000000000000000000000 ≤ z * 100000000000000000000000000000 ∧ z * 100000000000000000000000000000 ≤ 100000000000000000000000000000 := by omega
    have ht2 : -(2 ^ 110) < t ∧ t < 2 ^ 110 := by omega
    exact k _ (.lead w t) (fr [] H (upd H5 q _)) _ _ _ (by walk_at "g_lk") (lead_mk (fr_lk0 hq upd_same)) fr_newly fr_same (show 1 ≤ w by omega) ⟨⟨by omega, by omega⟩, ht2⟩ (by assumption) (by omega) (by walk_at "g_but")
  walk_at "go"
  rename_i R nR
  have hR : H R = none := by walk_at "g_free"
  have hRa : R ≠ a := by walk_at "g_ne"
  refine forR (fun i σ H3 => ∃ (xs : List V) (rs : List (List Int)) (n' c' : Int) (y9 : Option V), σ = [some (.ref a), some (.int f), some (.int s), some (.int d1), some (.int w), none, none, none, some (.ref R), y9, none] ∧ H3 a = some (.lst [.int n', .int m, .int c']) ∧ H3 R = some (.lst xs) ∧ DqAll (fr [R] H H3) xs (rs.map planD) ∧ rs.length = i ∧ (∀ r ∈ rs, (r.length : Int) = s + 1 ∧ ∀ x ∈ r, Sm x) ∧ Left n' m ∧ (0 ≤ c' ∧ c' ≤ c2 + 44 * i) ∧ But a H H3) ⟨[], [], n2, c2, _, rfl, by walk_at "g_lk", upd_same, .nil, rfl, nofun, b3, by omega, by walk_at "g_but"⟩ ?_ ?_
  · rintro σ1 H3 ⟨xs, rs, n', c', y9, rfl, h1, h2, h3, h4, h5, h6, h7, h8⟩
    walk_at "go"
    rename_i q nq
    have hq : H q = none := by walk_at "g_free"
    refine k _ (.tab rs) (fr [] H (upd H3 q _)) _ _ _ (by walk_at "g_lk") (tab_mk (xs := xs) (fr_lk0 hq upd_same) (fr_lk0 hR (by walk_at "g_lk")) ((h3.same (fr_mono (Same.new nq))).same fr_sub)) fr_newly fr_same ⟨by omega, fun r hr => (h5 r hr).1⟩ (fun r hr => (h5 r hr).2) h6 (by omega) (by walk_at "g_but")
  · rintro i σ1 H3 hi ⟨xs, rs, n', c', y9, rfl, h1, h2, h3, h4, h5, h6, h7, h8⟩
    have hxl : xs.length = i := by rw [h3.len, List.length_map, h4]
    clear a4 a5 b1 b5 nR
    walk_at "go"
    intro D nD
    have hDa : D ≠ a := by walk_at "g_ne"
    have hDR : D ≠ R := by walk_at "g_ne"
    have hD0 : H D = none := by walk_at "g_free"
    refine lcR (fun j acc H4 => ∃ (ms : List Int) (n'' c'' : Int), acc = ms.map V.int ∧ ms.length = j ∧ (∀ x ∈ ms, Sm x) ∧ H4 a = some (.lst [.int n'', .int m, .int c'']) ∧ Left n'' m ∧ (0 ≤ c'' ∧ c'' ≤ c' + 4 * j) ∧ But a H3 H4) nD ⟨[], n', c', rfl, rfl, nofun, by walk_at "g_lk", h6, by omega, by walk_at "g_but"⟩ ?_ ?_
    · rintro j acc H4 Z Y hj ⟨ms, n'', c'', rfl, g1, g2, g3, g4, g5, g6⟩ hD hz _
      walk_at "go"
      rename_i d6 n6 c6 H6 u1 u2 u3 u4 u5
      refine hz _ _ (by walk_at "g_lk") (sz4' (by simp; omega)) ⟨ms ++ [d6 - w], n6, c6, by rw [List.map_append]; rfl, by rw [List.length_append, g1]; rfl, ?_, by walk_at "g_lk", u2, by omega, by walk_at "g_but"⟩
      intro x hx
      rcases List.mem_append.mp hx with e | e
      · exact g2 x e
      · rw [List.mem_singleton.mp e]
        exact ⟨by omega, by omega⟩
    · rintro acc H4 ⟨ms, n'', c'', rfl, g1, g2, g3, g4, g5, g6⟩ hD
      walk_at "go"
      refine ⟨xs ++ [.ref D], rs ++ [ms], n'', c'', _, rfl, by walk_at "g_lk", upd_same, ?_, by rw [List.length_append, h4]; rfl, ?_, g4, by omega, by walk_at "g_but"⟩
      · rw [List.map_append]
        exact DqAll.snoc ((h3.same (fr_butK p0 g6)).same (fr_upd (by simp))) (row_mk (fr_lk1 hDR hD0 (by walk_at "g_lk")))
      · intro r hr
        rcases List.mem_append.mp hr with e | e
        · exact h5 r e
        · rw [List.mem_singleton.mp e]
          exact ⟨by omega, g2⟩
def sp_l_drawn_battle (K : PySem.W.Frag) : Sp := fun vs H Q E => ∃ (a : Addr) (n m c u y : Int), vs = [.ref a, .int u, .int y] ∧ (H a = some (.lst [.int n, .int m, .int c])) ∧ (Left n m) ∧ (0 ≤ c ∧ c ≤ 70000) ∧ (0 ≤ u ∧ u ≤ 10 ∧ 1 ≤ y ∧ y ≤ 5) ∧ ∀ (v : V) (f s : Int) (fs : List Fld) (G : Hp) (n' c' : Int) (H' : Hp), (H' a = some (.lst [.int n', .int m, .int c'])) → (Dq G v (batD f s fs)) → (Newly H G) → (Same G H') → (BatOk f s fs) → (f ≤ u ∧ s ≤ u ∧ fs.length ≤ y) → (∀ x ∈ fs, FldSm x) → (Left n' m) → (0 ≤ c' ∧ c' ≤ c + 3100) → (But a H H') → Q (v) H'
theorem use_l_drawn_battle {K : PySem.W.Frag} {H : Hp} {Q : VK} {E : XK} {a : Addr} {n m c u y : Int} (p0 : H a = some (.lst [.int n, .int m, .int c])) (p1 : Left n m) (p2 : 0 ≤ c ∧ c ≤ 70000) (p3 : 0 ≤ u ∧ u ≤ 10 ∧ 1 ≤ y ∧ y ≤ 5) (k : ∀ (v : V) (f s : Int) (fs : List Fld) (G : Hp) (n' c' : Int) (H' : Hp), (H' a = some (.lst [.int n', .int m, .int c'])) → (Dq G v (batD f s fs)) → (Newly H G) → (Same G H') → (BatOk f s fs) → (f ≤ u ∧ s ≤ u ∧ fs.length ≤ y) → (∀ x ∈ fs, FldSm x) → (Left n' m) → (0 ≤ c' ∧ c' ≤ c + 3100) → (But a H H') → Q (v) H') : sp_l_drawn_battle K [.ref a, .int u, .int y] H Q E := ⟨a, n, m, c, u, y, rfl, p0, p1, p2, p3, k⟩
theorem len_l_drawn_battle {K : PySem.W.Frag} (vs : List V) (H : Hp) (Q : VK) (E : XK) (h : sp_l_drawn_battle K vs H Q E) : vs.length = ["_law_left", "_law_most", "_law_many"].length := by
  obtain ⟨_, _, _, _, _, _, rfl, _⟩ := h
  rfl
local macro_rules | `(tactic| walk_at "g_call") => `(tactic| ((with_reducible refine' use_l_drawn_battle ?c0 ?c1 ?c2 ?c3 ?_); (case c0 => walk_at "g_pre"); (case c1 => walk_at "g_pre"); (case c2 => walk_at "g_pre"); (case c3 => walk_at "g_pre"); intros))
theorem ok_l_drawn_battle (T : Txt K mg) : FnOk P w K mg base CX0 5 T.a_l_drawn_battle T.d_l_drawn_battle ["_law_left", "_law_most", "_law_many"] (sp_l_drawn_battle K) := by
  have G_l_draw := ok_l_draw (P := P) (w := w) (base := base) T
  have G_l_drawn_field := ok_l_drawn_field (P := P) (w := w) (base := base) T
  refine T.F_l_drawn_battle.ok sc_l_drawn_battle len_l_drawn_battle (fun cdv A outer s H vs Q E hr h => ?_)
  refine ⟨_, (pss_cons (ps_set (i := 3) sc_l_drawn_battle.nd rfl (Or.inr rfl) (pe_call G_l_draw (hr.mono (by first | decide | omega)) (by rfl) T.g_l_draw T.F_l_draw.kp T.b_l_draw .nil pass0 (pa_cons (pv 0) (pa_cons (pe_op op_add (pv 1) pe_int) pa_nil))))
      (pss_cons (ps_set (i := 4) sc_l_drawn_battle.nd rfl (Or.inr rfl) (pe_call G_l_draw (hr.mono (by first | decide | omega)) (by rfl) T.g_l_draw T.F_l_draw.kp T.b_l_draw .nil pass0 (pa_cons (pv 0) (pa_cons (pe_op op_add (pv 1) pe_int) pa_nil))))
      (pss_cons (ps_setLc (i := 5) (own := [("_law_k", 6)]) rfl sc_l_drawn_battle.nd rfl rfl (sw_true rfl rfl rfl (by decide +kernel)) (pi_range1 rfl T.z_range (pa_cons (pe_op op_add pe_int (pe_call G_l_draw (hr.mono (by first | decide | omega)) (by rfl) T.g_l_draw T.F_l_draw.kp T.b_l_draw .nil pass0 (pa_cons (pv 0) (pa_cons (pv 2) pa_nil)))) pa_nil)) (blkOk_by (own := [("_law_k", 6)]) (N := ["_law_left", "_law_most", "_law_many", "_law_first", "_law_second", "_law_fields", "_law_k"]) (sc := defScope s_l_drawn_battle) (by decide +kernel)) (fun _ _ _ _ _ => (pg_name (i := 6) sc_l_drawn_battle.nd rfl (Or.inl rfl))) (fun _ _ _ _ _ => pts_nil) (fun _ _ _ _ _ => (pe_call G_l_drawn_field (hr.mono (by first | decide | omega)) (by rfl) T.g_l_drawn_field T.F_l_drawn_field.kp T.b_l_drawn_field .nil pass0 (pa_cons (pv 0) (pa_cons (pv 3) (pa_cons (pv 4) pa_nil))))))
      (pss_cons (ps_if (pt_cmpR op_eq (pe_call G_l_draw (hr.mono (by first | decide | omega)) (by rfl) T.g_l_draw T.F_l_draw.kp T.b_l_draw .nil pass0 (pa_cons (pv 0) (pa_cons pe_int pa_nil))) pe_int (nomark _)) (pss_one (ps_set (i := 5) sc_l_drawn_battle.nd rfl (Or.inl rfl) (pe_op op_rep (pe_slice (sl_listK K rfl) (pv 5) po_none (po_some pe_int)) (pe_callB (call_lenK K rfl) (by rfl) T.z_len (by decide +kernel) (pa_cons (pv 5) pa_nil))))) pss_nil)
      (pss_one (ps_ret (pe_tup (pa_cons (pv 3) (pa_cons (pv 4) (pa_cons (pv 5) pa_nil)))))))))), ?_⟩
  try dsimp only [L2.cxOf, L2.Cx.nox, L2.Cx.wish, List.map_cons, List.map_nil]
  obtain ⟨a, n, m, c, u, y, rfl, p0, p1, p2, p3, k⟩ := h
  refine start_to (σ := [some _, some _, some _, none, none, none, none]) rfl ?_
  walk_at "go"
  rename_i f n1 c1 H1 a1 a2 a3 a4 a5 s n2 c2 H2 b1 b2 b3 b4 b5 t n3 c3 H3 e1 e2 e3 e4 e5
  intro D nD
  have hDa : D ≠ a := by walk_at "g_ne"
  have hD0 : H D = none := by walk_at "g_free"
  refine lcR (fun i acc H4 => ∃ (fs : List Fld) (n'' c'' : Int), DqAll (fr [D] H H4) acc (fs.map fldD) ∧ fs.length = i ∧ (∀ x ∈ fs, FldOk f s x ∧ FldSm x) ∧ H4 a = some (.lst [.int n'', .int m, .int c'']) ∧ Left n'' m ∧ (0 ≤ c'' ∧ c'' ≤ c3 + 600 * i) ∧ But a H H4) nD ⟨[], n3, c3, .nil, rfl, nofun, by walk_at "g_lk", e2, by omega, by walk_at "g_but"⟩ ?_ ?_
  · rintro i acc H4 Z Y hi ⟨fs, n'', c'', g0, g1, g2, g3, g4, g5, g6⟩ hD hz _
    have hac : acc.length = i := by rw [g0.len, List.length_map, g1]
    clear a4 a5 b4 b5 e4 e5
    walk_at "go"
    rename_i v fl G n5 c5 H5 u1 u2 u3 u4 u5 u6 u7 u8 u9
    have hGD : G D = none := u3.free hD
    refine hz _ _ (by walk_at "g_lk") (sz4' (by omega)) ⟨fs ++ [fl], n5, c5, ?_, by rw [List.length_append, g1]; rfl, ?_, by walk_at "g_lk", u7, by omega, by walk_at "g_but"⟩
    · rw [List.map_append]
      exact DqAll.snoc ((g0.same (fr_butK p0 u9)).same (fr_upd (by simp))) (u2.same (Newly.same1 (u3.backB g6 (u3.free g3)) (Same.mut u4 hGD) hGD))
    · intro x hx
      rcases List.mem_append.mp hx with e | e
      · exact g2 x e
      · rw [List.mem_singleton.mp e]
        exact ⟨u5, u6⟩
  · rintro acc H4 ⟨fs, n'', c'', g0, g1, g2, g3, g4, g5, g6⟩ hD
    have hac : acc.length = fs.length := by rw [g0.len, List.length_map]
    clear a4 a5 b4 b5 e4 e5
    walk_at "go"
    rename_i d6 n6 c6 H6 u1 u2 u3 u4 u5
    have hn1 : 1 ≤ fs.length := by omega
    have c5 : 0 ≤ c'' ∧ c'' ≤ c3 + 3000 := by omega
    obtain ⟨x0, r, rfl⟩ : ∃ x0 r, acc = x0 :: r := by
      cases acc with
      | nil => rw [List.length_nil] at hac; omega
      | cons x0 r => exact ⟨x0, r, rfl⟩
    obtain ⟨f0, fr', rfl⟩ : ∃ f0 fr', fs = f0 :: fr' := by
      cases fs with
      | nil => rw [List.length_nil] at hn1; omega
      | cons x0 r => exact ⟨x0, r, rfl⟩
    refine ite_d (fun z => ?_) (fun z => ?_)
    · walk_at "go"
      rename_i L nL
      rw [show List.take (Int.toNat 1) (x0 :: r) = [x0] from rfl]
      walk_at "go"
      rename_i M nM q nq
      have hb6 : But a H (upd H6 L (.lst [x0])) := by walk_at "g_but"
      have hM : H M = none := Hf.But.free (a := a) nM hb6 (by walk_at "g_lk")
      have hq : H q = none := Hf.But.free (a := a) nq (by walk_at "g_but") (by walk_at "g_lk")
      have hs : Same (fr [D] H H4) (fr [D] H (upd (upd (upd H6 L (.lst [x0])) M (.lst (List.replicate (Int.toNat ((x0 :: r).length : Int)) x0))) q (.tup [.int f, .int s, .ref M]))) := Same.trans (fr_butK p0 u4) (fr_mono (by walk_at "g_same"))
      refine k _ f s (List.replicate (Int.toNat ((x0 :: r).length : Int)) f0) (fr [] H _) _ _ _ (by walk_at "g_lk") (bat_mk (xs := List.replicate (Int.toNat ((x0 :: r).length : Int)) x0) (fr_lk0 hq upd_same) (fr_lk0 hM (by walk_at "g_lk")) ?_) fr_newly fr_same ⟨by omega, by omega, by rw [List.length_replicate]; omega, fun x hx => ?_⟩ (by rw [List.length_replicate]; omega) (fun x hx => ?_) u2 (by omega) (by walk_at "g_but")
      · rw [List.map_replicate]
        cases g0 with
        | cons g7 g8 => exact DqAll.rep ((g7.same hs).same fr_sub) _
      · rw [(List.mem_replicate.mp hx).2]
        exact (g2 f0 List.mem_cons_self).1
      · rw [(List.mem_replicate.mp hx).2]
        exact (g2 f0 List.mem_cons_self).2
    · walk_at "go"
      rename_i q nq
      have hq : H q = none := by walk_at "g_free"
      refine k _ f s (f0 :: fr') (fr [] H (upd H6 q _)) _ _ _ (by walk_at "g_lk") (bat_mk (xs := x0 :: r) (fr_lk0 hq upd_same) (fr_lk0 hD0 (by walk_at "g_lk")) ?_) fr_newly fr_same ⟨by omega, by omega, by omega, fun x hx => (g2 x hx).1⟩ (by omega) (fun x hx => (g2 x hx).2) u2 (by omega) (by walk_at "g_but")
      exact ((g0.same (fr_butK p0 u4)).same (fr_mono (Same.new nq))).same fr_sub

theorem use_l_drawn_battle_pk {K : PySem.W.Frag} {a : Addr} {m c u y : Int} {H : Hp} {Q : VK} {E : XK} (p0 : Pk a m H c) (p1 : c ≤ 70000) (p2 : 0 ≤ u ∧ u ≤ 10 ∧ 1 ≤ y ∧ y ≤ 5)
    (k : ∀ (v : V) (f s : Int) (fs : List Fld) (G H' : Hp), Dq G v (batD f s fs) → BatOk f s fs → (f ≤ u ∧ s ≤ u ∧ fs.length ≤ y) → (∀ x ∈ fs, FldSm x) → Newly H G → Same G H' → Pk a m H' (c + 3100) → But a H H' → Q v H') : sp_l_drawn_battle K [.ref a, .int u, .int y] H Q E := by
  obtain ⟨n0, c0, h1, h2, h3, h4⟩ := p0
  exact use_l_drawn_battle h1 h2 ⟨h3, by omega⟩ p2 fun v f s fs G n' c' H' g1 g2 g3 g4 g5 g6 g7 g8 g9 g10 => k v f s fs G H' g2 g5 g6 g7 g3 g4 ⟨n', c', g1, g8, g9.1, by omega⟩ g10
local macro_rules | `(tactic| walk_at "g_call") => `(tactic| ((with_reducible refine' use_l_drawn_battle_pk ?c0 ?c1 ?c2 ?_); (case c0 => walk_at "g_pk"); (case c1 => walk_at "g_pre"); (case c2 => walk_at "g_pre"); intros))

def sp_NoBattle_init (K : PySem.W.Frag) (C : Addr) : Sp := fun vs H Q E => ∃ (x : Addr) (y : V), vs = [.ref x, y] ∧ (H x = some (exo x C none)) ∧ ∀ (dx : Addr), (H dx = none) → (dx ≠ x) → Q (.non) (upd (upd H dx (exd dx [(("field" : Str), y)])) x (exo x C (some dx)))
theorem use_NoBattle_init {K : PySem.W.Frag} {C : Addr} {H : Hp} {Q : VK} {E : XK} {x : Addr} {y : V} (p0 : H x = some (exo x C none)) (k : ∀ (dx : Addr), (H dx = none) → (dx ≠ x) → Q (.non) (upd (upd H dx (exd dx [(("field" : Str), y)])) x (exo x C (some dx)))) : sp_NoBattle_init K C [.ref x, y] H Q E := ⟨x, y, rfl, p0, k⟩
theorem len_NoBattle_init {K : PySem.W.Frag} {C : Addr} (vs : List V) (H : Hp) (Q : VK) (E : XK) (h : sp_NoBattle_init K C vs H Q E) : vs.length = ["self", "field"].length := by
  obtain ⟨_, _, rfl, _⟩ := h
  rfl
theorem ok_NoBattle_init (T : Txt K mg) : FnOk P w K mg base CX0 1 T.a_NoBattle_init T.d_NoBattle_init ["self", "field"] (sp_NoBattle_init K (T.e_NoBattle)) := by
  refine T.F_NoBattle_init.ok sc_NoBattle_init len_NoBattle_init (fun cdv A outer s H vs Q E hr h => ?_)
  refine ⟨_, (pss_cons (ps_expr (pe_hinit ⟨T.rd_HostError, T.ga_HostError⟩ T.fc_HostError rfl T.g_HostError (pa_cons (pv 0) (pa_cons pe_str pa_nil))))
      (pss_one (ps_ost (pv 0) (pv 1)))), ?_⟩
  try dsimp only [L2.cxOf, L2.Cx.nox, L2.Cx.wish, List.map_cons, List.map_nil]
  obtain ⟨x, y, rfl, p0, k⟩ := h
  refine start_to (σ := [some _, some _]) rfl ?_
  walk_at "go"
  exact k _ (by assumption) (by assumption)
local macro_rules | `(tactic| walk_at "g_val2") => `(tactic| first | ((with_reducible refine' Hf.i_mko1 ?s9 ?_); (case s9 => exact fun _ _ _ _ h q => use_NoBattle_init h q); intro _ _ _ _ _) | fail "mko1")
def sp_is_number (K : PySem.W.Frag) : Sp := fun vs H Q E => ∃ (v : V) (d : PyData), vs = [v] ∧ (Dq H v d) ∧ Q (.bl (isNumD d)) H
theorem use_is_number {K : PySem.W.Frag} {H : Hp} {Q : VK} {E : XK} {v : V} {d : PyData} (p0 : Dq H v d) (k : Q (.bl (isNumD d)) H) : sp_is_number K [v] H Q E := ⟨v, d, rfl, p0, k⟩
theorem len_is_number {K : PySem.W.Frag} (vs : List V) (H : Hp) (Q : VK) (E : XK) (h : sp_is_number K vs H Q E) : vs.length = ["thing"].length := by
  obtain ⟨_, _, rfl, _⟩ := h
  rfl
local macro_rules | `(tactic| walk_at "g_call") => `(tactic| ((with_reducible refine' use_is_number ?c0 ?_); (case c0 => walk_at "g_pre"); intros))
theorem use_is_number_i {K : PySem.W.Frag} {x : Int} {H : Hp} {Q : VK} {E : XK} (k : Q (.bl true) H) : sp_is_number K [.int x] H Q E := use_is_number (.int x) k
local macro_rules | `(tactic| walk_at "g_call") => `(tactic| (with_reducible refine' use_is_number_i ?_))
theorem ok_is_number (T : Txt K mg) : FnOk P w K mg base CX0 1 T.a_is_number T.d_is_number ["thing"] (sp_is_number K) := by
  refine T.F_is_number.ok sc_is_number len_is_number (fun cdv A outer s H vs Q E hr h => ?_)
  refine ⟨_, (pss_one (ps_ret (pe_and (pe_callB (call_isXK K rfl) (by rfl) T.z_isinstance (by decide +kernel) (pa_cons (pv 0) (pa_cons (pe_bltn (v := .ty "int") rfl T.z_int (by decide +kernel) rfl) pa_nil))) (pe_one (pe_not (pe_callB (call_isXK K rfl) (by rfl) T.z_isinstance (by decide +kernel) (pa_cons (pv 0) (pa_cons (pe_bltn (v := .ty "bool") rfl T.z_bool (by decide +kernel) rfl) pa_nil)))))))), ?_⟩
  try dsimp only [L2.cxOf, L2.Cx.nox, L2.Cx.wish, List.map_cons, List.map_nil]
  obtain ⟨v, d, rfl, p0, k⟩ := h
  refine start_to (σ := [some _]) rfl ?_
  cases p0 <;> (walk_at "go"; exact k)
def sp_are_numbers (K : PySem.W.Frag) : Sp := fun vs H Q E => ∃ (v : V) (d : PyData) (n : Int), vs = [v, .int n] ∧ (Dq H v d) ∧ (wid d ≤ 1000) ∧ ∀ (H' : Hp), (Same H H') → Q (.bl (areNumsD n d)) H'
theorem use_are_numbers {K : PySem.W.Frag} {H : Hp} {Q : VK} {E : XK} {v : V} {d : PyData} {n : Int} (p0 : Dq H v d) (p1 : wid d ≤ 1000) (k : ∀ (H' : Hp), (Same H H') → Q (.bl (areNumsD n d)) H') : sp_are_numbers K [v, .int n] H Q E := ⟨v, d, n, rfl, p0, p1, k⟩
theorem len_are_numbers {K : PySem.W.Frag} (vs : List V) (H : Hp) (Q : VK) (E : XK) (h : sp_are_numbers K vs H Q E) : vs.length = ["thing", "many"].length := by
  obtain ⟨_, _, _, rfl, _⟩ := h
  rfl
local macro_rules | `(tactic| walk_at "g_call") => `(tactic| ((with_reducible refine' use_are_numbers ?c0 ?c1 ?_); (case c0 => walk_at "g_pre"); (case c1 => walk_at "g_pre"); intros))
theorem ok_are_numbers (T : Txt K mg) : FnOk P w K mg base CX0 2 T.a_are_numbers T.d_are_numbers ["thing", "many"] (sp_are_numbers K) := by
  have G_is_number := ok_is_number (P := P) (w := w) (base := base) T
  refine T.F_are_numbers.ok sc_are_numbers len_are_numbers (fun cdv A outer s H vs Q E hr h => ?_)
  refine ⟨_, (pss_cons (ps_if (PW.pt (pw_or (pt_not (pt_val (pe_callB (call_isXK K rfl) (by rfl) T.z_isinstance (by decide +kernel) (pa_cons (pv 0) (pa_cons (pe_bltn (v := .ty "list") rfl T.z_list (by decide +kernel) rfl) pa_nil))))) (pw_or1 (pt_cmpR op_ne (pe_callB (call_lenK K rfl) (by rfl) T.z_len (by decide +kernel) (pa_cons (pv 0) pa_nil)) (pv 1) (nomark _))))) (pss_one (ps_ret pe_bl)) pss_nil)
      (pss_one (ps_ret (pe_cmpR op_eq (pe_callB (call_lenK K rfl) (by rfl) T.z_len (by decide +kernel) (pa_cons (pe_lc (own := [("number", 2)]) rfl sc_are_numbers.nd (pi_listK K rfl (pv 0)) (blkOk_by (own := [("number", 2)]) (N := ["thing", "many", "number"]) (sc := defScope s_are_numbers) (by decide +kernel)) (fun _ _ _ _ _ => (pg_name (i := 2) sc_are_numbers.nd rfl (Or.inl rfl))) (fun _ _ _ _ _ => (pts_one (pt_not (pt_val (pe_call G_is_number (hr.mono (by first | decide | omega)) (by rfl) T.g_is_number T.F_is_number.kp T.b_is_number .nil pass0 (pa_cons (pv 2) pa_nil)))))) (fun _ _ _ _ _ => (pv 2))) pa_nil)) pe_int (nomark _))))), ?_⟩
  try dsimp only [L2.cxOf, L2.Cx.nox, L2.Cx.wish, List.map_cons, List.map_nil]
  obtain ⟨v, d, n, rfl, p0, p1, k⟩ := h
  refine start_to (σ := [some _, some _, none]) rfl ?_
  cases p0 with
  | @lst a xs ds h q =>
    have hl := q.len
    rw [wid] at p1
    walk_at "go"
    refine ite_nd (fun c => ?_) (fun c => ?_)
    · have e : areNumsD n (.list ds) = false := by rw [areNumsD, decide_eq_false (by omega)]; rfl
      rw [e] at k
      walk_at "go"
      exact k _ (Same.refl _)
    · walk_at "go"
      intro D nD
      refine lcL_fl (xs := xs) (fun i => !((ds[i]?).map isNumD).getD true) nD (by omega) (SqL.of h) ?_ ?_
      · intro i x H2 Z Y hx hs hz hy
        obtain ⟨d, e1, e2⟩ := q.get' hx
        have e2' := e2.same hs
        walk_at "go"
        refine ite_b (fun e => ?_) (fun e => ?_)
        · walk_at "go"
          exact hz _ _ (by rw [e1]; exact e) (by walk_at "g_same")
        · exact hy _ (by rw [e1]; exact e) (by walk_at "g_same")
      · intro acc H2 hD hs hc ha
        walk_at "go"
        rw [len0_all hl hc]
        have e : areNumsD n (.list ds) = ds.all isNumD := by rw [areNumsD, decide_eq_true (by omega)]; rfl
        rw [e] at k
        exact k _ (by walk_at "g_same")
  | non => walk_at "go"; exact k _ (Same.refl _)
  | bl b => walk_at "go"; exact k _ (Same.refl _)
  | int i => walk_at "go"; exact k _ (Same.refl _)
  | str x => walk_at "go"; exact k _ (Same.refl _)
  | tup h q => walk_at "go"; exact k _ (Same.refl _)

def sp_is_rule (K : PySem.W.Frag) : Sp := fun vs H Q E => ∃ (a : Addr) (w : Str) (xs : List V) (ds : List PyData), vs = [.ref a] ∧ (H a = some (.tup (.str w :: xs))) ∧ (DqAll H xs ds) ∧ Q (.bl (isRuleD ds)) H
theorem use_is_rule {K : PySem.W.Frag} {H : Hp} {Q : VK} {E : XK} {a : Addr} {w : Str} {xs : List V} {ds : List PyData} (p0 : H a = some (.tup (.str w :: xs))) (p1 : DqAll H xs ds) (k : Q (.bl (isRuleD ds)) H) : sp_is_rule K [.ref a] H Q E := ⟨a, w, xs, ds, rfl, p0, p1, k⟩
theorem len_is_rule {K : PySem.W.Frag} (vs : List V) (H : Hp) (Q : VK) (E : XK) (h : sp_is_rule K vs H Q E) : vs.length = ["field"].length := by
  obtain ⟨_, _, _, _, rfl, _⟩ := h
  rfl
local macro_rules | `(tactic| walk_at "g_call") => `(tactic| ((with_reducible refine' use_is_rule ?c0 ?c1 ?_); (case c0 => walk_at "g_pre"); (case c1 => walk_at "g_pre"); intros))
theorem ok_is_rule (T : Txt K mg) : FnOk P w K mg base CX0 2 T.a_is_rule T.d_is_rule ["field"] (sp_is_rule K) := by
  have G_is_number := ok_is_number (P := P) (w := w) (base := base) T
  refine T.F_is_rule.ok sc_is_rule len_is_rule (fun cdv A outer s H vs Q E hr h => ?_)
  refine ⟨_, (pss_one (ps_ret (pe_and (pe_cmpR op_eq (pe_callB (call_lenK K rfl) (by rfl) T.z_len (by decide +kernel) (pa_cons (pv 0) pa_nil)) pe_int (nomark _)) (pe_and (pe_call G_is_number (hr.mono (by first | decide | omega)) (by rfl) T.g_is_number T.F_is_number.kp T.b_is_number .nil pass0 (pa_cons (pe_ix (ix_tupK K rfl) (pv 0) pe_int (fun _ _ => rfl)) pa_nil)) (pe_and (pe_call G_is_number (hr.mono (by first | decide | omega)) (by rfl) T.g_is_number T.F_is_number.kp T.b_is_number .nil pass0 (pa_cons (pe_ix (ix_tupK K rfl) (pv 0) pe_int (fun _ _ => rfl)) pa_nil)) (pe_one (pe_cmpR op_ge (pe_ix (ix_tupK K rfl) (pv 0) pe_int (fun _ _ => rfl)) pe_int (nomark _)))))))), ?_⟩
  try dsimp only [L2.cxOf, L2.Cx.nox, L2.Cx.wish, List.map_cons, List.map_nil]
  obtain ⟨a, w, xs, ds, rfl, p0, p1, k⟩ := h
  refine start_to (σ := [some _]) rfl ?_
  cases p1 with
  | nil => walk_at "goO"; exact k
  | cons h1 q1 =>
    cases q1 with
    | nil =>
      walk_at "goO"
      rw [rule_short1] at k
      exact k
    | cons h2 q2 =>
      cases q2 with
      | nil =>
        walk_at "goO"
        refine ite_b (fun c1 => ?_) (fun c1 => ?_)
        · obtain ⟨x, rfl⟩ := num_inv c1
          obtain rfl := h1.int_inv
          walk_at "go"
          refine ite_b (fun c2 => ?_) (fun c2 => ?_)
          · obtain ⟨y, rfl⟩ := num_inv c2
            obtain rfl := h2.int_inv
            walk_at "go"
            exact k
          · rw [rule_no2 c2] at k
            exact k
        · rw [rule_no1 c1] at k
          exact k
      | cons h3 q3 =>
        walk_at "goO"
        rw [rule_long] at k
        exact k
def sp_is_field (K : PySem.W.Frag) : Sp := fun vs H Q E => ∃ (a : Addr) (w : Str) (xs : List V) (ds : List PyData) (f s : Int), vs = [.ref a, .int f, .int s] ∧ (H a = some (.tup (.str w :: xs))) ∧ (DqAll H xs ds) ∧ (wid (.tuple ds) ≤ 1000) ∧ (0 ≤ f ∧ f ≤ 10 ∧ 0 ≤ s ∧ s ≤ 10) ∧ ∀ (H' : Hp), (Same H H') → Q (.bl (isFieldD f s w ds)) H'
theorem use_is_field {K : PySem.W.Frag} {H : Hp} {Q : VK} {E : XK} {a : Addr} {w : Str} {xs : List V} {ds : List PyData} {f s : Int} (p0 : H a = some (.tup (.str w :: xs))) (p1 : DqAll H xs ds) (p2 : wid (.tuple ds) ≤ 1000) (p3 : 0 ≤ f ∧ f ≤ 10 ∧ 0 ≤ s ∧ s ≤ 10) (k : ∀ (H' : Hp), (Same H H') → Q (.bl (isFieldD f s w ds)) H') : sp_is_field K [.ref a, .int f, .int s] H Q E := ⟨a, w, xs, ds, f, s, rfl, p0, p1, p2, p3, k⟩
theorem len_is_field {K : PySem.W.Frag} (vs : List V) (H : Hp) (Q : VK) (E : XK) (h : sp_is_field K vs H Q E) : vs.length = ["field", "first", "second"].length := by
  obtain ⟨_, _, _, _, _, _, rfl, _⟩ := h
  rfl
local macro_rules | `(tactic| walk_at "g_call") => `(tactic| ((with_reducible refine' use_is_field ?c0 ?c1 ?c2 ?c3 ?_); (case c0 => walk_at "g_pre"); (case c1 => walk_at "g_pre"); (case c2 => walk_at "g_pre"); (case c3 => walk_at "g_pre"); intros))
theorem ok_is_field (T : Txt K mg) : FnOk P w K mg base CX0 3 T.a_is_field T.d_is_field ["field", "first", "second"] (sp_is_field K) := by
  have G_is_rule := ok_is_rule (P := P) (w := w) (base := base) T
  have G_are_numbers := ok_are_numbers (P := P) (w := w) (base := base) T
  refine T.F_is_field.ok sc_is_field len_is_field (fun cdv A outer s H vs Q E hr h => ?_)
  refine ⟨_, (pss_cons (ps_if (pt_cmpR op_eq (pe_callB (call_lenK K rfl) (by rfl) T.z_len (by decide +kernel) (pa_cons (pv 0) pa_nil)) pe_int (nomark _)) (pss_one (ps_ret pe_bl)) pss_nil)
      (pss_cons (ps_if (pt_cmpR op_eq (pe_ix (ix_tupK K rfl) (pv 0) pe_int (fun _ _ => rfl)) pe_str (nomark _)) (pss_one (ps_ret (pe_and (pe_call G_is_rule (hr.mono (by first | decide | omega)) (by rfl) T.g_is_rule T.F_is_rule.kp T.b_is_rule .nil pass0 (pa_cons (pv 0) pa_nil)) (pe_and (pe_cmpR op_le (pe_op op_sub pe_int (pe_ix (ix_tupK K rfl) (pv 0) pe_int (fun _ _ => rfl))) (pe_ix (ix_tupK K rfl) (pv 0) pe_int (fun _ _ => rfl)) (nomark _)) (pe_one (pe_cmpR op_le (pe_ix (ix_tupK K rfl) (pv 0) pe_int (fun _ _ => rfl)) (pe_ix (ix_tupK K rfl) (pv 0) pe_int (fun _ _ => rfl)) (nomark _))))))) pss_nil)
      (pss_cons (ps_if (pt_cmpR op_eq (pe_ix (ix_tupK K rfl) (pv 0) pe_int (fun _ _ => rfl)) pe_str (nomark _)) (pss_one (ps_ret (pe_call G_is_rule (hr.mono (by first | decide | omega)) (by rfl) T.g_is_rule T.F_is_rule.kp T.b_is_rule .nil pass0 (pa_cons (pv 0) pa_nil)))) pss_nil)
      (pss_cons (ps_if (PW.pt (pw_or (pt_cmpR op_ne (pe_ix (ix_tupK K rfl) (pv 0) pe_int (fun _ _ => rfl)) pe_str (nomark _)) (pw_or (pt_cmpR op_ne (pe_callB (call_lenK K rfl) (by rfl) T.z_len (by decide +kernel) (pa_cons (pv 0) pa_nil)) pe_int (nomark _)) (pw_or (pt_not (pt_val (pe_callB (call_isXK K rfl) (by rfl) T.z_isinstance (by decide +kernel) (pa_cons (pe_ix (ix_tupK K rfl) (pv 0) pe_int (fun _ _ => rfl)) (pa_cons (pe_bltn (v := .ty "list") rfl T.z_list (by decide +kernel) rfl) pa_nil))))) (pw_or1 (pt_cmpR op_ne (pe_callB (call_lenK K rfl) (by rfl) T.z_len (by decide +kernel) (pa_cons (pe_ix (ix_tupK K rfl) (pv 0) pe_int (fun _ _ => rfl)) pa_nil)) (pe_op op_add (pv 1) pe_int) (nomark _))))))) (pss_one (ps_ret pe_bl)) pss_nil)
      (pss_one (ps_ret (pe_cmpR op_eq (pe_callB (call_lenK K rfl) (by rfl) T.z_len (by decide +kernel) (pa_cons (pe_lc (own := [("row", 3)]) rfl sc_is_field.nd (pi_listK K rfl (pe_ix (ix_tupK K rfl) (pv 0) pe_int (fun _ _ => rfl))) (blkOk_by (own := [("row", 3)]) (N := ["field", "first", "second", "row"]) (sc := defScope s_is_field) (by decide +kernel)) (fun _ _ _ _ _ => (pg_name (i := 3) sc_is_field.nd rfl (Or.inl rfl))) (fun _ _ _ _ _ => (pts_one (pt_not (pt_val (pe_call G_are_numbers (hr.mono (by first | decide | omega)) (by rfl) T.g_are_numbers T.F_are_numbers.kp T.b_are_numbers .nil pass0 (pa_cons (pv 3) (pa_cons (pe_op op_add (pv 2) pe_int) pa_nil))))))) (fun _ _ _ _ _ => (pv 3))) pa_nil)) pe_int (nomark _)))))))), ?_⟩
  try dsimp only [L2.cxOf, L2.Cx.nox, L2.Cx.wish, List.map_cons, List.map_nil]
  obtain ⟨a, w, xs, ds, f, s, rfl, p0, p1, p2, p3, k⟩ := h
  refine start_to (σ := [some _, some _, some _, none]) rfl ?_
  have hl := p1.len
  rw [wid] at p2
  walk_at "goO"
  by_cases c1 : w = PySem.Str.ofString "more"
  · have e : isFieldD f s w ds = isMoreD ds := if_pos c1
    rw [e] at k
    refine ite_y (by simp [c1]) ?_
    walk_at "go"
    refine ite_b (fun c => ?_) (fun c => ?_)
    · obtain ⟨x, y, rfl, hx⟩ := rule_inv c
      obtain rfl := dq_two_ints p1
      walk_at "go"
      refine ite_d (fun c2 => ?_) (fun c2 => ?_)
      · walk_at "go"
        rw [more_yes hx c2] at k
        exact k _ (Same.refl _)
      · rw [more_no c2] at k
        exact k _ (Same.refl _)
    · rw [more_rule c] at k
      exact k _ (Same.refl _)
  · refine ite_n (by simp [c1]) ?_
    walk_at "go"
    by_cases c2 : w = PySem.Str.ofString "lead"
    · have e : isFieldD f s w ds = isRuleD ds := by rw [isFieldD, if_neg c1, if_pos c2]
      rw [e] at k
      refine ite_y (by simp [c2]) ?_
      walk_at "go"
      exact k _ (Same.refl _)
    · refine ite_n (by simp [c2]) ?_
      walk_at "go"
      by_cases c3 : w = PySem.Str.ofString "table"
      · have e : isFieldD f s w ds = isRowsD f s ds := by rw [isFieldD, if_neg c1, if_neg c2, if_pos c3]
        rw [e] at k
        refine ite_n (by simp [c3]) ?_
        walk_at "go"
        cases p1 with
        | nil =>
          walk_at "goO"
          exact k _ (Same.refl _)
        | cons h1 q1 =>
          cases q1 with
          | cons h2 q2 =>
            rw [rows_long] at k
            refine ite_y (by simp; try omega) ?_
            walk_at "goO"
            exact k _ (Same.refl _)
          | nil =>
            walk_at "goO"
            cases h1 with
            | @lst p rs ds h4 q4 =>
              have hl4 := q4.len
              walk_at "go"
              refine ite_nd (fun c => ?_) (fun c => ?_)
              · rw [rows_no (by omega)] at k
                walk_at "go"
                exact k _ (Same.refl _)
              · have p5 : ∀ d ∈ ds, wid d ≤ 1000 := fun d hd => by
                  have := widA_mem hd
                  simp only [widA, wid] at p2
                  omega
                walk_at "go"
                intro D nD
                refine lcL_fl (xs := rs) (fun i => !((ds[i]?).map (areNumsD (s + 1))).getD true) nD (by omega) (SqL.of h4) ?_ ?_
                · intro i x H2 Z Y hx hs hz hy
                  obtain ⟨d, e1, e2⟩ := q4.get' hx
                  have e2' := e2.same hs
                  have e3 := p5 d (List.mem_of_getElem? e1)
                  walk_at "go"
                  refine ite_b (fun e => ?_) (fun e => ?_)
                  · walk_at "go"
                    exact hz _ _ (by rw [e1]; exact e) (by walk_at "g_same")
                  · exact hy _ (by rw [e1]; exact e) (by walk_at "g_same")
                · intro acc H2 hD hs hc ha
                  walk_at "go"
                  rw [len0_all hl4 hc]
                  rw [rows_yes (by omega)] at k
                  exact k _ (by walk_at "g_same")
            | non => walk_at "go"; rw [rows_one (by rfl)] at k; exact k _ (Same.refl _)
            | bl b => walk_at "go"; rw [rows_one (by rfl)] at k; exact k _ (Same.refl _)
            | int i => walk_at "go"; rw [rows_one (by rfl)] at k; exact k _ (Same.refl _)
            | str x => walk_at "go"; rw [rows_one (by rfl)] at k; exact k _ (Same.refl _)
            | tup h q => walk_at "go"; rw [rows_one (by rfl)] at k; exact k _ (Same.refl _)
      · have e : isFieldD f s w ds = false := by rw [isFieldD, if_neg c1, if_neg c2, if_neg c3]
        rw [e] at k
        refine ite_y (by simp [c3]) ?_
        walk_at "go"
        exact k _ (Same.refl _)
def sp_look_battle (K : PySem.W.Frag) (e_NoBattle : Addr) : Sp := fun vs H Q E => ∃ (v : V) (f s : Int) (ds : List PyData), vs = [v] ∧ (Dq H v (batT f s ds)) ∧ ((∀ d ∈ ds, FldIn d)) ∧ (ds.length ≤ 1000) ∧ ((badB f s ds = none) → ∀ (H' : Hp), (Same H H') → Q (.non) H') ∧ (¬ (badB f s ds = none) → ∀ k d H', badB f s ds = some k → H d = none → H' d = some (.xd [(("field" : Str), .int k)]) → Same H H' → E (.ref e_NoBattle) (some d) H')
theorem use_look_battle {K : PySem.W.Frag} {e_NoBattle : Addr} {H : Hp} {Q : VK} {E : XK} {v : V} {f s : Int} {ds : List PyData} (p0 : Dq H v (batT f s ds)) (p1 : (∀ d ∈ ds, FldIn d)) (p2 : ds.length ≤ 1000) (k : (badB f s ds = none) → ∀ (H' : Hp), (Same H H') → Q (.non) H') (kx : ¬ (badB f s ds = none) → ∀ k d H', badB f s ds = some k → H d = none → H' d = some (.xd [(("field" : Str), .int k)]) → Same H H' → E (.ref e_NoBattle) (some d) H') : sp_look_battle K e_NoBattle [v] H Q E := ⟨v, f, s, ds, rfl, p0, p1, p2, k, kx⟩
theorem len_look_battle {K : PySem.W.Frag} {e_NoBattle : Addr} (vs : List V) (H : Hp) (Q : VK) (E : XK) (h : sp_look_battle K e_NoBattle vs H Q E) : vs.length = ["battle"].length := by
  obtain ⟨_, _, _, _, rfl, _⟩ := h
  rfl
local macro_rules | `(tactic| walk_at "g_call") => `(tactic| ((with_reducible refine' use_look_battle ?c0 ?c1 ?c2 ?kk ?kx); (case c0 => walk_at "g_pre"); (case c1 => walk_at "g_pre"); (case c2 => walk_at "g_pre"); first | ((case kx => (intro _; exfalso; walk_at "g_no")); intros) | ((case kk => (intro _; exfalso; walk_at "g_no")); intros) | skip))
theorem ok_look_battle (T : Txt K mg) : FnOk P w K mg base (L2.CX P w) 4 T.a_look_battle T.d_look_battle ["battle"] (sp_look_battle K T.e_NoBattle) := by
  have G_NoBattle_init := ok_NoBattle_init (P := P) (w := w) (base := base) T
  have G_is_field := ok_is_field (P := P) (w := w) (base := base) T
  refine T.F_look_battle.okX sc_look_battle len_look_battle (fun cdv A outer s H vs Q E hr h => ?_)
  refine ⟨_, (pss_cons (ps_asg (pv 0) (pg_tupK K rfl 3 rfl (pgs_cons (pg_name (i := 1) sc_look_battle.nd rfl (Or.inl rfl)) (pgs_cons (pg_name (i := 2) sc_look_battle.nd rfl (Or.inl rfl)) (pgs_cons (pg_name (i := 3) sc_look_battle.nd rfl (Or.inl rfl)) pgs_nil)))))
      (pss_cons (ps_if (PW.pt (pw_or (pt_cmpR op_lt (pe_callB (call_min2 rfl) (by rfl) T.z_min (by decide +kernel) (pa_cons (pv 1) (pa_cons (pv 2) pa_nil))) pe_int (nomark _)) (pw_or (pt_cmpR op_gt (pe_callB (call_max2 rfl) (by rfl) T.z_max (by decide +kernel) (pa_cons (pv 1) (pa_cons (pv 2) pa_nil))) (pe_glob (v := .int 10) rfl T.c_MOST_HOSTS_fields ⟨_, rfl⟩) (nomark _)) (pw_or (pt_cmpR op_lt (pe_callB (call_lenK K rfl) (by rfl) T.z_len (by decide +kernel) (pa_cons (pv 3) pa_nil)) pe_int (nomark _)) (pw_or1 (pt_cmpR op_gt (pe_callB (call_lenK K rfl) (by rfl) T.z_len (by decide +kernel) (pa_cons (pv 3) pa_nil)) (pe_glob (v := .int 5) rfl T.c_MOST_FIELDS_fields ⟨_, rfl⟩) (nomark _))))))) (pss_one (ps_raise rfl (takes_of rfl rfl rfl rfl) (pmk_oex (Txt.O_NoBattle T) T.ic_NoBattle T.ti_NoBattle G_NoBattle_init (hr.mono (by first | decide | omega)) T.b_NoBattle_init .nil pass0 rfl T.g_NoBattle (pa_cons (pe_un un_neg pe_int) pa_nil)))) pss_nil)
      (pss_one (ps_for (passes_of rfl) rfl (pi_range1 rfl T.z_range (pa_cons (pe_callB (call_lenK K rfl) (by rfl) T.z_len (by decide +kernel) (pa_cons (pv 3) pa_nil)) pa_nil)) (pg_name (i := 4) sc_look_battle.nd rfl (Or.inl rfl)) (pss_one (ps_if (pt_not (pt_val (pe_call G_is_field (hr.mono (by first | decide | omega)) (by rfl) T.g_is_field T.F_is_field.kp T.b_is_field .nil pass0 (pa_cons (pe_ix (ix_listK K rfl) (pv 3) (pv 4) (fun _ _ => rfl)) (pa_cons (pv 1) (pa_cons (pv 2) pa_nil)))))) (pss_one (ps_raise rfl (takes_of rfl rfl rfl rfl) (pmk_oex (Txt.O_NoBattle T) T.ic_NoBattle T.ti_NoBattle G_NoBattle_init (hr.mono (by first | decide | omega)) T.b_NoBattle_init .nil pass0 rfl T.g_NoBattle (pa_cons (pv 4) pa_nil)))) pss_nil)))))), ?_⟩
  try dsimp only [L2.cxOf, L2.Cx.nox, L2.Cx.wish, List.map_cons, List.map_nil]
  obtain ⟨v, f, s, ds, rfl, p0, p1, p2, k, kx⟩ := h
  obtain ⟨a, p, xs, rfl, h1, h2, h3⟩ := batT_inv p0
  have hl := h3.len
  refine start_to (σ := [some _, none, none, none, none]) rfl ?_
  walk_at "go"
  by_cases sz : f < 0 ∨ s < 0 ∨ 10 < f ∨ 10 < s ∨ ds.length < 1 ∨ 5 < ds.length
  · have e : badB f s ds = some (-1) := if_pos sz
    have fin : ∀ d H', H d = none → H' d = some (.xd [(("field" : Str), .int (-1))]) → Same H H' → E (.ref T.e_NoBattle) (some d) H' := fun d H' => kx (by rw [e]; simp) (-1) d H' e
    refine ite_d (fun c1 => ?_) (fun c1 => ?_)
    · walk_at "go"
      exact fin _ _ (by assumption) (by assumption) (by assumption)
    walk_at "go"
    refine ite_d (fun c2 => ?_) (fun c2 => ?_)
    · walk_at "go"
      exact fin _ _ (by assumption) (by assumption) (by assumption)
    walk_at "go"
    refine ite_d (fun c3 => ?_) (fun c3 => ?_)
    · walk_at "go"
      exact fin _ _ (by assumption) (by assumption) (by assumption)
    walk_at "go"
    refine ite_d (fun c4 => ?_) (fun c4 => ?_)
    · walk_at "go"
      exact fin _ _ (by assumption) (by assumption) (by assumption)
    · exfalso
      omega
  · have sz2 : 0 ≤ f ∧ f ≤ 10 ∧ 0 ≤ s ∧ s ≤ 10 ∧ 1 ≤ ds.length ∧ ds.length ≤ 5 := by omega
    have sz3 : 0 ≤ f ∧ f ≤ 10 ∧ 0 ≤ s ∧ s ≤ 10 := by omega
    walk_at "goO"
    refine forR (fun i σ H1 => ∃ y1, σ = [some (.ref a), some (.int f), some (.int s), some (.ref p), y1] ∧ Same H H1 ∧ ∀ (j : Nat) e, j < i → ds[j]? = some e → isFldT f s e = true) ⟨_, rfl, by walk_at "g_same", by omega⟩ ?_ ?_
    · rintro σ1 H1 ⟨y1, rfl, g1, g2⟩
      walk_at "goO"
      refine k (bad_none.mpr ⟨by omega, by omega, by omega, fun d hd => ?_⟩) _ (by walk_at "g_same")
      obtain ⟨j, hj, rfl⟩ := List.mem_iff_getElem.mp hd
      exact g2 j _ (by omega) (List.getElem?_eq_getElem hj)
    · rintro i σ1 H1 hi ⟨y1, rfl, g1, g2⟩
      obtain ⟨w, hat, hw⟩ := at_lt (xs := xs) (i := 0 + (i : Int)) (by omega) (by omega)
      obtain ⟨d, e1, e2⟩ := h3.get' hw
      obtain ⟨wd, r, rfl, hr⟩ := p1 d (List.mem_of_getElem? e1)
      obtain ⟨b, ys, rfl, h4, h5⟩ := fldT_inv (e2.same g1)
      have i1 : (0 + (i : Int)).toNat = i := by omega
      rw [i1] at e1
      have h2' := g1 _ _ h2
      walk_at "goO"
      rename_i H2 g3
      refine ite_b (fun c => ?_) (fun c => ?_)
      · have c' : isFieldD f s wd r = false := by simpa using c
        have hb := bad_at sz2 e1 c' g2
        walk_at "goO"
        rename_i dd H3 n1 n2 n3
        refine kx (by rw [hb]; simp) _ dd H3 hb (Same.free (g1.trans g3) n1) ?_ ((g1.trans g3).trans n3)
        rw [n2, Int.zero_add]
      · have c' : isFieldD f s wd r = true := by simpa using c
        walk_at "goO"
        refine ⟨_, rfl, by walk_at "g_same", fun j e hj he => ?_⟩
        by_cases cj : j = i
        · subst cj
          rw [e1] at he
          obtain rfl := Option.some.inj he
          exact c'
        · exact g2 j e (by omega) he
theorem use_look_battle_ok {K : PySem.W.Frag} {e_NoBattle : Addr} {v : V} {f s : Int} {fs : List Fld} {H : Hp} {Q : VK} {E : XK} (p0 : Dq H v (batD f s fs)) (p1 : BatOk f s fs) (k : ∀ H' : Hp, Same H H' → Q .non H') : sp_look_battle K e_NoBattle [v] H Q E :=
  use_look_battle (ds := fs.map fldD) p0 (bat_in p1) (by rw [List.length_map]; exact Nat.le_trans p1.ne.2 (by decide)) (fun _ => k) fun c => absurd (bad_ok.mpr p1) c
local macro_rules | `(tactic| walk_at "g_call") => `(tactic| ((with_reducible refine' use_look_battle_ok ?c0 ?c1 ?_); (case c0 => walk_at "g_pre"); (case c1 => walk_at "g_pre"); intros))

def sp_is_plan (K : PySem.W.Frag) : Sp := fun vs H Q E => ∃ (h : Int) (n : Nat) (a : Addr) (ms : List Int), vs = [.int h, .int n, .ref a] ∧ (H a = some (.lst (ms.map V.int))) ∧ (ms.length ≤ 1000) ∧ (1 ≤ n) ∧ ∀ (H' : Hp), (Same H H') → Q (.bl (isPlanB h n ms)) H'
theorem use_is_plan {K : PySem.W.Frag} {H : Hp} {Q : VK} {E : XK} {h : Int} {n : Nat} {a : Addr} {ms : List Int} (p0 : H a = some (.lst (ms.map V.int))) (p1 : ms.length ≤ 1000) (p2 : 1 ≤ n) (k : ∀ (H' : Hp), (Same H H') → Q (.bl (isPlanB h n ms)) H') : sp_is_plan K [.int h, .int n, .ref a] H Q E := ⟨h, n, a, ms, rfl, p0, p1, p2, k⟩
theorem len_is_plan {K : PySem.W.Frag} (vs : List V) (H : Hp) (Q : VK) (E : XK) (h : sp_is_plan K vs H Q E) : vs.length = ["hosts", "many", "plan"].length := by
  obtain ⟨_, _, _, _, rfl, _⟩ := h
  rfl
local macro_rules | `(tactic| walk_at "g_call") => `(tactic| ((with_reducible refine' use_is_plan ?c0 ?c1 ?c2 ?_); (case c0 => walk_at "g_pre"); (case c1 => walk_at "g_pre"); (case c2 => walk_at "g_pre"); intros))
theorem ok_is_plan (T : Txt K mg) : FnOk P w K mg base CX0 3 T.a_is_plan T.d_is_plan ["hosts", "many", "plan"] (sp_is_plan K) := by
  have G_are_numbers := ok_are_numbers (P := P) (w := w) (base := base) T
  refine T.F_is_plan.ok sc_is_plan len_is_plan (fun cdv A outer s H vs Q E hr h => ?_)
  refine ⟨_, (pss_one (ps_ret (pe_and (pe_call G_are_numbers (hr.mono (by first | decide | omega)) (by rfl) T.g_are_numbers T.F_are_numbers.kp T.b_are_numbers .nil pass0 (pa_cons (pv 2) (pa_cons (pv 1) pa_nil))) (pe_and (pe_cmpR op_ge (pe_callB (cr_minK K rfl rfl) (by rfl) T.z_min (by decide +kernel) (pa_cons (pv 2) pa_nil)) pe_int (nomark _)) (pe_one (pe_cmpR op_eq (pe_callB (cr_sumK K rfl rfl) (by rfl) T.z_sum (by decide +kernel) (pa_cons (pv 2) pa_nil)) (pv 0) (nomark _))))))), ?_⟩
  try dsimp only [L2.cxOf, L2.Cx.nox, L2.Cx.wish, List.map_cons, List.map_nil]
  obtain ⟨h, n, a, ms, rfl, p0, p1, p2, k⟩ := h
  refine start_to (σ := [some _, some _, some _]) rfl ?_
  have d0 : Dq H (.ref a) (planD ms) := .lst p0 (dq_ints ms)
  have w0 : wid (planD ms) ≤ 1000 := by rw [wid_plan]; omega
  have no : ∀ H', Same H H' → ¬ PlanC h n ms → Q (.bl false) H' := fun H' s1 c => by
    have := k H' s1
    rw [← isPlan_eq (b := false) ⟨nofun, fun q => absurd q c⟩] at this
    exact this
  walk_at "go"
  rename_i H1 s1
  rw [nums_plan]
  by_cases c : (ms.length : Int) = n
  · have e1 : 1 ≤ ms.length := by omega
    refine ite_y (decide_eq_true c) ?_
    walk_at "go"
    rename_i z hz1 hz2
    refine ite_d (fun c2 => ?_) (fun c2 => ?_)
    · walk_at "go"
      by_cases c3 : ms.sum = h
      · rw [decide_eq_true c3]
        have := k H1 s1
        rw [← isPlan_eq (b := true) ⟨fun _ => ⟨by omega, c3, fun x hx => by have := hz2 x hx; omega⟩, fun _ => rfl⟩] at this
        exact this
      · rw [decide_eq_false c3]
        exact no _ s1 fun q => c3 q.2.1
    · exact no _ s1 fun q => c2 (q.2.2 z hz1)
  · refine ite_n (decide_eq_false c) ?_
    exact no _ s1 fun q => c (by rw [q.1])
def sp_is_mix (K : PySem.W.Frag) : Sp := fun vs H Q E => ∃ (v : V) (d : PyData), vs = [v] ∧ (Dq H v d) ∧ (wid d ≤ 1000) ∧ ∀ (H' : Hp), (Same H H') → Q (.bl (isMixB d)) H'
theorem use_is_mix {K : PySem.W.Frag} {H : Hp} {Q : VK} {E : XK} {v : V} {d : PyData} (p0 : Dq H v d) (p1 : wid d ≤ 1000) (k : ∀ (H' : Hp), (Same H H') → Q (.bl (isMixB d)) H') : sp_is_mix K [v] H Q E := ⟨v, d, rfl, p0, p1, k⟩
theorem len_is_mix {K : PySem.W.Frag} (vs : List V) (H : Hp) (Q : VK) (E : XK) (h : sp_is_mix K vs H Q E) : vs.length = ["mix"].length := by
  obtain ⟨_, _, rfl, _⟩ := h
  rfl
local macro_rules | `(tactic| walk_at "g_call") => `(tactic| ((with_reducible refine' use_is_mix ?c0 ?c1 ?_); (case c0 => walk_at "g_pre"); (case c1 => walk_at "g_pre"); intros))
theorem ok_is_mix (T : Txt K mg) : FnOk P w K mg base CX0 4 T.a_is_mix T.d_is_mix ["mix"] (sp_is_mix K) := by
  have G_is_number := ok_is_number (P := P) (w := w) (base := base) T
  have G_are_numbers := ok_are_numbers (P := P) (w := w) (base := base) T
  have G_is_plan := ok_is_plan (P := P) (w := w) (base := base) T
  refine T.F_is_mix.ok sc_is_mix len_is_mix (fun cdv A outer s H vs Q E hr h => ?_)
  refine ⟨_, (pss_cons (ps_if (PW.pt (pw_or (pt_not (pt_val (pe_callB (call_isXK K rfl) (by rfl) T.z_isinstance (by decide +kernel) (pa_cons (pv 0) (pa_cons (pe_bltn (v := .ty "list") rfl T.z_list (by decide +kernel) rfl) pa_nil))))) (pw_or1 (pt_cmpR op_eq (pe_callB (call_lenK K rfl) (by rfl) T.z_len (by decide +kernel) (pa_cons (pv 0) pa_nil)) pe_int (nomark _))))) (pss_one (ps_ret pe_bl)) pss_nil)
      (pss_cons (ps_for PassesOwn.never rfl (pi_listK K rfl (pv 0)) (pg_name (i := 1) sc_is_mix.nd rfl (Or.inl rfl)) (pss_cons (ps_if (PW.pt (pw_or (pt_not (pt_val (pe_callB (call_isXK K rfl) (by rfl) T.z_isinstance (by decide +kernel) (pa_cons (pv 1) (pa_cons (pe_bltn (v := .ty "tuple") rfl T.z_tuple (by decide +kernel) rfl) pa_nil))))) (pw_or (pt_cmpR op_ne (pe_callB (call_lenK K rfl) (by rfl) T.z_len (by decide +kernel) (pa_cons (pv 1) pa_nil)) pe_int (nomark _)) (pw_or1 (pt_not (pt_val (pe_callB (call_isXK K rfl) (by rfl) T.z_isinstance (by decide +kernel) (pa_cons (pe_ix (ix_tupK K rfl) (pv 1) pe_int (fun _ _ => rfl)) (pa_cons (pe_bltn (v := .ty "list") rfl T.z_list (by decide +kernel) rfl) pa_nil))))))))) (pss_one (ps_ret pe_bl)) pss_nil)
      (pss_one (ps_if (PW.pt (pw_or (pt_not (pt_val (pe_call G_is_number (hr.mono (by first | decide | omega)) (by rfl) T.g_is_number T.F_is_number.kp T.b_is_number .nil pass0 (pa_cons (pe_ix (ix_tupK K rfl) (pv 1) pe_int (fun _ _ => rfl)) pa_nil)))) (pw_or (pt_cmpR op_lt (pe_ix (ix_tupK K rfl) (pv 1) pe_int (fun _ _ => rfl)) pe_int (nomark _)) (pw_or1 (pt_not (pt_val (pe_call G_are_numbers (hr.mono (by first | decide | omega)) (by rfl) T.g_are_numbers T.F_are_numbers.kp T.b_are_numbers .nil pass0 (pa_cons (pe_ix (ix_tupK K rfl) (pv 1) pe_int (fun _ _ => rfl)) (pa_cons (pe_callB (call_lenK K rfl) (by rfl) T.z_len (by decide +kernel) (pa_cons (pe_ix (ix_tupK K rfl) (pv 1) pe_int (fun _ _ => rfl)) pa_nil)) pa_nil))))))))) (pss_one (ps_ret pe_bl)) pss_nil))))
      (pss_cons (ps_set (i := 2) sc_is_mix.nd rfl (Or.inr rfl) (pe_callB (call_lenK K rfl) (by rfl) T.z_len (by decide +kernel) (pa_cons (pe_ix (ix_tupK K rfl) (pe_ix (ix_listK K rfl) (pv 0) pe_int (fun _ _ => rfl)) pe_int (fun _ _ => rfl)) pa_nil)))
      (pss_cons (ps_set (i := 3) sc_is_mix.nd rfl (Or.inr rfl) (pe_callB (cr_sumK K rfl rfl) (by rfl) T.z_sum (by decide +kernel) (pa_cons (pe_ix (ix_tupK K rfl) (pe_ix (ix_listK K rfl) (pv 0) pe_int (fun _ _ => rfl)) pe_int (fun _ _ => rfl)) pa_nil)))
      (pss_cons (ps_if (PW.pt (pw_or (pt_cmpR op_lt (pv 2) pe_int (nomark _)) (pw_or (pt_cmpR op_gt (pv 2) (pe_glob (v := .int 8) rfl T.c_MOST_FIELDS_plans ⟨_, rfl⟩) (nomark _)) (pw_or1 (pt_cmpR op_gt (pv 3) (pe_glob (v := .int 40) rfl T.c_MOST_HOSTS_plans ⟨_, rfl⟩) (nomark _)))))) (pss_one (ps_ret pe_bl)) pss_nil)
      (pss_one (ps_ret (pe_cmpR op_eq (pe_callB (call_lenK K rfl) (by rfl) T.z_len (by decide +kernel) (pa_cons (pe_lc (own := [("plan", 4), ("weight", 5)]) rfl sc_is_mix.nd (pi_listK K rfl (pv 0)) (blkOk_by (own := [("plan", 4), ("weight", 5)]) (N := ["mix", "part", "many", "hosts", "plan", "weight"]) (sc := defScope s_is_mix) (by decide +kernel)) (fun _ _ _ _ _ => (pg_tupK K rfl 2 rfl (pgs_cons (pg_name (i := 4) sc_is_mix.nd rfl (Or.inl rfl)) (pgs_cons (pg_name (i := 5) sc_is_mix.nd rfl (Or.inl rfl)) pgs_nil)))) (fun _ _ _ _ _ => (pts_one (pt_not (pt_val (pe_call G_is_plan (hr.mono (by first | decide | omega)) (by rfl) T.g_is_plan T.F_is_plan.kp T.b_is_plan .nil pass0 (pa_cons (pv 3) (pa_cons (pv 2) (pa_cons (pv 4) pa_nil)))))))) (fun _ _ _ _ _ => (pv 4))) pa_nil)) pe_int (nomark _))))))))), ?_⟩
  try dsimp only [L2.cxOf, L2.Cx.nox, L2.Cx.wish, List.map_cons, List.map_nil]
  obtain ⟨v, d, rfl, p0, p1, k⟩ := h
  refine start_to (σ := [some _, none, none, none, none, none]) rfl ?_
  cases p0 with
  | @lst a xs ds h q =>
    have hl := q.len
    have p2 : ds.length ≤ 1000 := by rw [wid] at p1; omega
    walk_at "go"
    by_cases c0 : ds = []
    · subst c0
      refine ite_y (by simpa using hl) ?_
      walk_at "go"
      rw [mix_nil] at k
      exact k _ (Same.refl _)
    have c1 : 1 ≤ ds.length := by
      cases ds with
      | nil => exact absurd rfl c0
      | cons d ds => simp
    refine ite_n (decide_eq_false (by omega)) ?_
    walk_at "go"
    refine forL (xs := xs) (fun i σ H1 => ∃ y1, σ = [some (.ref a), y1, none, none, none, none] ∧ Same H H1 ∧ ∀ (j : Nat) e, j < i → ds[j]? = some e → isPartD e = true) ⟨_, rfl, Same.refl _, by omega⟩ ?_ ?_ ?_
    · rintro i σ H1 _ ⟨y1, rfl, g1, _⟩
      exact SqL.of (g1 _ _ h)
    · rintro σ H1 ⟨y1, rfl, g1, g2⟩
      obtain ⟨m, rfl, hw⟩ := parts_of (ds := ds) fun d hd => by
        obtain ⟨j, hj, rfl⟩ := List.mem_iff_getElem.mp hd
        exact g2 j _ (by omega) (List.getElem?_eq_getElem hj)
      have hml : xs.length = m.length := by rw [hl, List.length_map]
      rw [List.length_map] at c1 p2
      have k' : ∀ H', Same H H' → Q (.bl (isMixB (mixD m))) H' := k
      have h' := g1 _ _ h
      have q1 := q.same g1
      obtain ⟨x0, hx0⟩ : ∃ x, xs[0]? = some x := ⟨xs[0]'(by omega), List.getElem?_eq_getElem _⟩
      obtain ⟨pw, t, p, e1, rfl, e2, e3⟩ := part_at q1 hx0
      have wl : ∀ pw ∈ m, pw.1.length ≤ 1000 := fun pw hp => by
        have := wid_mem p1 (List.mem_map_of_mem hp)
        rw [wid_part] at this
        omega
      have hpl := wl pw (List.mem_of_getElem? e1)
      have hat : atI xs 0 = some (.ref t) := atI_nat hx0
      have no : ∀ H', Same H H' → ¬ MixG pw.1.sum pw.1.length m → Q (.bl false) H' := fun H' s1 c => by
        have := k' H' s1
        rw [isMix_no.mpr fun z => c ((mix_first e1).mp z)] at this
        exact this
      clear g2 q p1 k
      walk_at "goO"
      refine ite_d (fun c2 => ?_) (fun c2 => ?_)
      · walk_at "go"
        exact no _ g1 fun z => by have := z.fl; omega
      walk_at "goO"
      refine ite_d (fun c3 => ?_) (fun c3 => ?_)
      · walk_at "go"
        exact no _ g1 fun z => by have := z.fl; omega
      walk_at "goO"
      refine ite_d (fun c4 => ?_) (fun c4 => ?_)
      · walk_at "go"
        exact no _ g1 fun z => by have := z.ho; omega
      walk_at "goO"
      intro D nD
      have c5 : 1 ≤ pw.1.length := by omega
      refine lcL_fl (xs := xs) (fun i => !((m[i]?).map fun z => isPlanB pw.1.sum pw.1.length z.1).getD true) nD (by omega) (SqL.of h') ?_ ?_
      · intro i x H2 Z Y hx hs hz hy
        obtain ⟨pv, t', p', f1, rfl, f2, f3⟩ := part_at q1 hx
        have f2' := hs _ _ f2
        have f3' := hs _ _ f3
        have f4 := wl pv (List.mem_of_getElem? f1)
        clear f2 f3 e2 e3
        walk_at "goO"
        refine ite_b (fun e => ?_) (fun e => ?_)
        · walk_at "go"
          exact hz _ _ (by rw [f1]; exact e) (by walk_at "g_same")
        · exact hy _ (by rw [f1]; exact e) (by walk_at "g_same")
      · intro acc H2 hD hs hc ha
        walk_at "goO"
        have := k' H2 (g1.trans hs)
        have e : decide ((acc.length : Int) = 0) = isMixB (mixD m) := by
          rw [Bool.eq_iff_iff, decide_eq_true_iff, isMix_iff, mix_first e1, hc]
          constructor
          · intro z
            have al : ∀ x ∈ m, PlanC pw.1.sum pw.1.length x.1 := fun x hx => by
              obtain ⟨j, hj, rfl⟩ := List.mem_iff_getElem.mp hx
              have := z j (by omega)
              rw [List.getElem?_eq_getElem hj] at this
              simpa [isPlan_iff] using this
            have h0 := al pw (List.mem_of_getElem? e1)
            exact ⟨by omega, by omega, ⟨sum_nn0 h0.2.2, by omega⟩, fun x hx => ⟨al x hx, hw x hx⟩⟩
          · intro z i hi
            rw [List.getElem?_eq_getElem (by omega)]
            simpa using isPlan_iff.mpr (z.pl _ (List.getElem_mem (by omega))).1
        rw [e]
        exact this
    · rintro i x σ H1 hx ⟨y1, rfl, g1, g2⟩
      obtain ⟨e, e1, e2⟩ := q.get' hx
      have e3 := e2.same g1
      have e4 : wid e ≤ 1000 := wid_mem p1 (List.mem_of_getElem? e1)
      have no : ∀ H', Same H1 H' → isPartD e = false → Q (.bl false) H' := fun H' s1 z => by
        have := k H' (g1.trans s1)
        rw [mix_nopart e1 z] at this
        exact this
      have yes : ∀ H', Same H1 H' → isPartD e = true → ∃ y1, ([some (.ref a), some x, none, none, none, none] : L2.St) = [some (.ref a), y1, none, none, none, none] ∧ Same H H' ∧ ∀ (j : Nat) e, j < i + 1 → ds[j]? = some e → isPartD e = true := fun H' s1 z => ⟨_, rfl, g1.trans s1, fun j e' hj he => by
        by_cases c : j = i
        · subst c
          rw [e1] at he
          cases he
          exact z
        · exact g2 j e' (by omega) he⟩
      clear e2 k p1 q g2
      cases e3 with
      | non => walk_at "goO"; exact no _ (Same.refl _) rfl
      | bl b => walk_at "goO"; exact no _ (Same.refl _) rfl
      | int z => walk_at "goO"; exact no _ (Same.refl _) rfl
      | str z => walk_at "goO"; exact no _ (Same.refl _) rfl
      | lst h' q' => walk_at "goO"; exact no _ (Same.refl _) rfl
      | @tup t ys es h' q' =>
        cases q' with
        | nil => walk_at "goO"; exact no _ (Same.refl _) rfl
        | cons a1 q' =>
          cases q' with
          | nil => walk_at "goO"; exact no _ (Same.refl _) rfl
          | cons a2 q' =>
            cases q' with
            | cons a3 q' =>
              walk_at "goO"
              exact no _ (Same.refl _) rfl
            | @nil =>
              rename_i v1 d1 v2 d2
              have w1 : wid d1 ≤ 1000 := by
                rw [wid, widA] at e4
                omega
              have d0 := a1
              cases a1 with
              | non => walk_at "goO"; exact no _ (Same.refl _) rfl
              | bl b => walk_at "goO"; exact no _ (Same.refl _) rfl
              | int z => walk_at "goO"; exact no _ (Same.refl _) rfl
              | str z => walk_at "goO"; exact no _ (Same.refl _) rfl
              | tup h' q' => walk_at "goO"; exact no _ (Same.refl _) rfl
              | @lst l zs fs h5 q5 =>
                have hz := q5.len
                have hz2 : zs.length ≤ 1000 := by
                  rw [wid] at w1
                  omega
                walk_at "goO"
                refine ite_b (fun c2 => ?_) (fun c2 => ?_)
                · walk_at "goO"
                  refine no _ (Same.refl _) ?_
                  show (isNumsD (.list fs) && isWtD d2) = false
                  cases d2 with
                  | int z => cases c2
                  | _ => exact Bool.and_false _
                · obtain ⟨z, rfl⟩ := num_inv (bnot' c2)
                  obtain rfl := a2.int_inv
                  walk_at "goO"
                  refine ite_d (fun c3 => ?_) (fun c3 => ?_)
                  · walk_at "goO"
                    refine no _ (Same.refl _) ?_
                    show (isNumsD (.list fs) && decide (1 ≤ z)) = false
                    rw [decide_eq_false (by omega), Bool.and_false]
                  · walk_at "goO"
                    rename_i H2 s2
                    have e6 : areNumsD (zs.length : Int) (.list fs) = fs.all isNumD := by rw [areNumsD, decide_eq_true (by omega)]; rfl
                    rw [e6]
                    refine ite_b (fun c4 => ?_) (fun c4 => ?_)
                    · walk_at "goO"
                      refine no _ s2 ?_
                      show (fs.all isNumD && decide (1 ≤ z)) = false
                      rw [bnot c4]
                      rfl
                    · walk_at "goO"
                      refine yes _ s2 ?_
                      show (fs.all isNumD && decide (1 ≤ z)) = true
                      rw [bnot' c4, decide_eq_true (by omega)]
                      rfl
  | non => walk_at "go"; rw [mix_nolist rfl] at k; exact k _ (Same.refl _)
  | bl b => walk_at "go"; rw [mix_nolist rfl] at k; exact k _ (Same.refl _)
  | int i => walk_at "go"; rw [mix_nolist rfl] at k; exact k _ (Same.refl _)
  | str x => walk_at "go"; rw [mix_nolist rfl] at k; exact k _ (Same.refl _)
  | tup h q => walk_at "go"; rw [mix_nolist rfl] at k; exact k _ (Same.refl _)
def sp_must_be_mix (K : PySem.W.Frag) (e_NoMix : Addr) : Sp := fun vs H Q E => ∃ (v : V) (d : PyData), vs = [v] ∧ (Dq H v d) ∧ (wid d ≤ 1000) ∧ ((IsMix d) → ∀ (H' : Hp), (Same H H') → Q (.non) H') ∧ (¬ (IsMix d) → ∀ H', Same H H' → E (.ref e_NoMix) none H')
theorem use_must_be_mix {K : PySem.W.Frag} {e_NoMix : Addr} {H : Hp} {Q : VK} {E : XK} {v : V} {d : PyData} (p0 : Dq H v d) (p1 : wid d ≤ 1000) (k : (IsMix d) → ∀ (H' : Hp), (Same H H') → Q (.non) H') (kx : ¬ (IsMix d) → ∀ H', Same H H' → E (.ref e_NoMix) none H') : sp_must_be_mix K e_NoMix [v] H Q E := ⟨v, d, rfl, p0, p1, k, kx⟩
theorem len_must_be_mix {K : PySem.W.Frag} {e_NoMix : Addr} (vs : List V) (H : Hp) (Q : VK) (E : XK) (h : sp_must_be_mix K e_NoMix vs H Q E) : vs.length = ["mix"].length := by
  obtain ⟨_, _, rfl, _⟩ := h
  rfl
local macro_rules | `(tactic| walk_at "g_call") => `(tactic| ((with_reducible refine' use_must_be_mix ?c0 ?c1 ?kk ?kx); (case c0 => walk_at "g_pre"); (case c1 => walk_at "g_pre"); first | ((case kx => (intro _; exfalso; walk_at "g_no")); intros) | ((case kk => (intro _; exfalso; walk_at "g_no")); intros) | skip))
theorem ok_must_be_mix (T : Txt K mg) : FnOk P w K mg base (L2.CX P w) 5 T.a_must_be_mix T.d_must_be_mix ["mix"] (sp_must_be_mix K T.e_NoMix) := by
  have G_is_mix := ok_is_mix (P := P) (w := w) (base := base) T
  refine T.F_must_be_mix.okX sc_must_be_mix len_must_be_mix (fun cdv A outer s H vs Q E hr h => ?_)
  refine ⟨_, (pss_one (ps_if (pt_not (pt_val (pe_call G_is_mix (hr.mono (by first | decide | omega)) (by rfl) T.g_is_mix T.F_is_mix.kp T.b_is_mix .nil pass0 (pa_cons (pv 0) pa_nil)))) (pss_one (ps_raise rfl (takes_of rfl rfl rfl rfl) (pmk_own PySem.F.excBase_ValueError T.x_NoMix T.g_NoMix T.k_NoMix (raises_own T.y_NoMix T.t_NoMix) rfl))) pss_nil)), ?_⟩
  try dsimp only [L2.cxOf, L2.Cx.nox, L2.Cx.wish, List.map_cons, List.map_nil]
  obtain ⟨v, d, rfl, p0, p1, k, kx⟩ := h
  refine start_to (σ := [some _]) rfl ?_
  walk_at "go"
  rename_i H1 s1
  refine ite_b (fun c => ?_) (fun c => ?_)
  · have g : ¬ IsMix d := isMix_no.mp (bnot c)
    walk_at "go"
    exact kx g _ (by walk_at "g_same")
  · have g : IsMix d := isMix_iff.mp (bnot' c)
    walk_at "go"
    exact k g _ (by walk_at "g_same")
def sp_whole_of (K : PySem.W.Frag) (e_NoMix : Addr) : Sp := fun vs H Q E => ∃ (v : V) (d : PyData), vs = [v] ∧ (Dq H v d) ∧ (wid d ≤ 1000) ∧ ((IsMix d) → ∀ (z : Int) (H' : Hp), (∀ m, d = mixD m → z = whole m) → (Same H H') → Q (.int z) H') ∧ (¬ (IsMix d) → ∀ H', Same H H' → E (.ref e_NoMix) none H')
theorem use_whole_of {K : PySem.W.Frag} {e_NoMix : Addr} {H : Hp} {Q : VK} {E : XK} {v : V} {d : PyData} (p0 : Dq H v d) (p1 : wid d ≤ 1000) (k : (IsMix d) → ∀ (z : Int) (H' : Hp), (∀ m, d = mixD m → z = whole m) → (Same H H') → Q (.int z) H') (kx : ¬ (IsMix d) → ∀ H', Same H H' → E (.ref e_NoMix) none H') : sp_whole_of K e_NoMix [v] H Q E := ⟨v, d, rfl, p0, p1, k, kx⟩
theorem len_whole_of {K : PySem.W.Frag} {e_NoMix : Addr} (vs : List V) (H : Hp) (Q : VK) (E : XK) (h : sp_whole_of K e_NoMix vs H Q E) : vs.length = ["mix"].length := by
  obtain ⟨_, _, rfl, _⟩ := h
  rfl
local macro_rules | `(tactic| walk_at "g_call") => `(tactic| ((with_reducible refine' use_whole_of ?c0 ?c1 ?kk ?kx); (case c0 => walk_at "g_pre"); (case c1 => walk_at "g_pre"); first | ((case kx => (intro _; exfalso; walk_at "g_no")); intros) | ((case kk => (intro _; exfalso; walk_at "g_no")); intros) | skip))
theorem ok_whole_of (T : Txt K mg) : FnOk P w K mg base (L2.CX P w) 6 T.a_whole_of T.d_whole_of ["mix"] (sp_whole_of K T.e_NoMix) := by
  have G_must_be_mix := ok_must_be_mix (P := P) (w := w) (base := base) T
  refine T.F_whole_of.okX sc_whole_of len_whole_of (fun cdv A outer s H vs Q E hr h => ?_)
  refine ⟨_, (pss_cons (ps_expr (pe_callS G_must_be_mix (hr.mono (by first | decide | omega)) (by rfl) T.g_must_be_mix T.F_must_be_mix.kp T.b_must_be_mix (fun σ => passAt (takes_of rfl rfl rfl rfl) σ) (pa_cons (pv 0) pa_nil)))
      (pss_one (ps_ret (pe_callB (cr_sumK K rfl rfl) (by rfl) T.z_sum (by decide +kernel) (pa_cons (pe_lc (own := [("plan", 1), ("weight", 2)]) rfl sc_whole_of.nd (pi_listK K rfl (pv 0)) (blkOk_by (own := [("plan", 1), ("weight", 2)]) (N := ["mix", "plan", "weight"]) (sc := defScope s_whole_of) (by decide +kernel)) (fun _ _ _ _ _ => (pg_tupK K rfl 2 rfl (pgs_cons (pg_name (i := 1) sc_whole_of.nd rfl (Or.inl rfl)) (pgs_cons (pg_name (i := 2) sc_whole_of.nd rfl (Or.inl rfl)) pgs_nil)))) (fun _ _ _ _ _ => pts_nil) (fun _ _ _ _ _ => (pv 2))) pa_nil))))), ?_⟩
  try dsimp only [L2.cxOf, L2.Cx.nox, L2.Cx.wish, List.map_cons, List.map_nil]
  obtain ⟨v, d, rfl, p0, p1, k, kx⟩ := h
  refine start_to (σ := [some _, none, none]) rfl ?_
  by_cases g : IsMix d
  · obtain ⟨h, n, m, rfl, ok⟩ := id g
    have k' := k g
    clear k kx
    walk_at "go"
    rename_i H1 h1
    obtain ⟨a, xs, rfl, q1, q2, q3⟩ := mix_inv (p0.same h1)
    have hm := ok.ne
    have hm2 : m.length ≤ 1000 := by rw [mixD, wid, List.length_map] at p1; omega
    walk_at "go"
    intro D nD
    refine lcL_int (xs := xs) (fun i => ((m[i]?).getD ([], 0)).2) nD (by omega) (SqL.of q1) ?_ ?_
    · intro i x H2 Z Y hx hs2 hz
      obtain ⟨pw, t, p, e1, rfl, e2, e3⟩ := q3 i x hx
      have e2' := hs2 _ _ e2
      walk_at "go"
      have := hz _ (Same.refl _)
      rw [e1] at this
      exact this
    · intro H2 hs2 hD
      rw [q2, rng_map _ Prod.snd m (fun i x e => by rw [e]; rfl)] at hD
      walk_at "go"
      exact k' _ _ (fun m' e => by rw [mixD_inj e]; rfl) (h1.trans hs2)
  · have kx' := kx g
    clear k kx
    walk_at "go"
    exact kx' _ (by assumption)
def sp_must_be_mix_of (K : PySem.W.Frag) (e_NoMix : Addr) : Sp := fun vs H Q E => ∃ (v : V) (d : PyData) (h : Int) (n : Nat), vs = [.int h, .int n, v] ∧ (Dq H v d) ∧ (wid d ≤ 1000) ∧ (1 ≤ n) ∧ ((IsMixOf h n d) → ∀ (H' : Hp), (Same H H') → Q (.non) H') ∧ (¬ (IsMixOf h n d) → ∀ H', Same H H' → E (.ref e_NoMix) none H')
theorem use_must_be_mix_of {K : PySem.W.Frag} {e_NoMix : Addr} {H : Hp} {Q : VK} {E : XK} {v : V} {d : PyData} {h : Int} {n : Nat} (p0 : Dq H v d) (p1 : wid d ≤ 1000) (p2 : 1 ≤ n) (k : (IsMixOf h n d) → ∀ (H' : Hp), (Same H H') → Q (.non) H') (kx : ¬ (IsMixOf h n d) → ∀ H', Same H H' → E (.ref e_NoMix) none H') : sp_must_be_mix_of K e_NoMix [.int h, .int n, v] H Q E := ⟨v, d, h, n, rfl, p0, p1, p2, k, kx⟩
theorem len_must_be_mix_of {K : PySem.W.Frag} {e_NoMix : Addr} (vs : List V) (H : Hp) (Q : VK) (E : XK) (h : sp_must_be_mix_of K e_NoMix vs H Q E) : vs.length = ["hosts", "many", "mix"].length := by
  obtain ⟨_, _, _, _, rfl, _⟩ := h
  rfl
local macro_rules | `(tactic| walk_at "g_call") => `(tactic| ((with_reducible refine' use_must_be_mix_of ?c0 ?c1 ?c2 ?kk ?kx); (case c0 => walk_at "g_pre"); (case c1 => walk_at "g_pre"); (case c2 => walk_at "g_pre"); first | ((case kx => (intro _; exfalso; walk_at "g_no")); intros) | ((case kk => (intro _; exfalso; walk_at "g_no")); intros) | skip))
theorem ok_must_be_mix_of (T : Txt K mg) : FnOk P w K mg base (L2.CX P w) 6 T.a_must_be_mix_of T.d_must_be_mix_of ["hosts", "many", "mix"] (sp_must_be_mix_of K T.e_NoMix) := by
  have G_must_be_mix := ok_must_be_mix (P := P) (w := w) (base := base) T
  have G_is_plan := ok_is_plan (P := P) (w := w) (base := base) T
  refine T.F_must_be_mix_of.okX sc_must_be_mix_of len_must_be_mix_of (fun cdv A outer s H vs Q E hr h => ?_)
  refine ⟨_, (pss_cons (ps_expr (pe_callS G_must_be_mix (hr.mono (by first | decide | omega)) (by rfl) T.g_must_be_mix T.F_must_be_mix.kp T.b_must_be_mix (fun σ => passAt (takes_of rfl rfl rfl rfl) σ) (pa_cons (pv 2) pa_nil)))
      (pss_one (ps_if (pt_not (pt_val (pe_call G_is_plan (hr.mono (by first | decide | omega)) (by rfl) T.g_is_plan T.F_is_plan.kp T.b_is_plan .nil pass0 (pa_cons (pv 0) (pa_cons (pv 1) (pa_cons (pe_ix (ix_tupK K rfl) (pe_ix (ix_listK K rfl) (pv 2) pe_int (fun _ _ => rfl)) pe_int (fun _ _ => rfl)) pa_nil)))))) (pss_one (ps_raise rfl (takes_of rfl rfl rfl rfl) (pmk_own PySem.F.excBase_ValueError T.x_NoMix T.g_NoMix T.k_NoMix (raises_own T.y_NoMix T.t_NoMix) rfl))) pss_nil))), ?_⟩
  try dsimp only [L2.cxOf, L2.Cx.nox, L2.Cx.wish, List.map_cons, List.map_nil]
  obtain ⟨v, d, h, n, rfl, p0, p1, p2, k, kx⟩ := h
  refine start_to (σ := [some _, some _, some _]) rfl ?_
  by_cases g : IsMix d
  · obtain ⟨h', n', m, rfl, ok⟩ := id g
    walk_at "go"
    rename_i H1 h1
    obtain ⟨a, xs, rfl, q1, q2, q3⟩ := mix_inv (p0.same h1)
    have hm := ok.ne
    obtain ⟨x0, hx0⟩ : ∃ x, xs[0]? = some x := ⟨xs[0]'(by omega), List.getElem?_eq_getElem _⟩
    obtain ⟨pw, t, p, e1, rfl, e2, e3⟩ := q3 0 x0 hx0
    have hat : atI xs 0 = some (.ref t) := atI_nat hx0
    have ok1 := (ok.pl pw (List.mem_of_getElem? e1)).1
    have hpl : pw.1.length ≤ 1000 := by have := ok1.1; have := ok.fl; omega
    walk_at "go"
    rename_i H2 s2
    refine ite_b (fun c => ?_) (fun c => ?_)
    · have g2 : ¬ IsMixOf h n (mixD m) := fun ⟨m', e, ok'⟩ => by
        rw [mixD_inj e] at ok
        rw [mixD_inj e] at e1
        have := isPlan_iff.mpr (ok'.pl pw (List.mem_of_getElem? e1)).1
        rw [bnot c] at this
        cases this
      walk_at "go"
      exact kx g2 _ (by walk_at "g_same")
    · have g2 : IsMixOf h n (mixD m) := ⟨m, rfl, by
        have g3 := isPlan_iff.mp (bnot' c)
        rw [← g3.2.1, ← g3.1, ok1.2.1, ok1.1]
        exact ok⟩
      walk_at "go"
      exact k g2 _ (by walk_at "g_same")
  · have g2 : ¬ IsMixOf h n d := fun ⟨m, e, ok⟩ => g ⟨h, n, m, e, ok⟩
    have kx' := kx g2
    clear k kx
    walk_at "go"
    exact kx' _ (by assumption)

def sp_paid (K : PySem.W.Frag) : Sp := fun vs H Q E => ∃ (v : V) (fl : Fld) (f s x y : Int), vs = [v, .int x, .int y] ∧ (Dq H v (fldD fl)) ∧ (FldOk f s fl) ∧ (0 ≤ x ∧ x ≤ f ∧ 0 ≤ y ∧ y ≤ s) ∧ Q (.int (paidV fl x y)) H
theorem use_paid {K : PySem.W.Frag} {H : Hp} {Q : VK} {E : XK} {v : V} {fl : Fld} {f s x y : Int} (p0 : Dq H v (fldD fl)) (p1 : FldOk f s fl) (p2 : 0 ≤ x ∧ x ≤ f ∧ 0 ≤ y ∧ y ≤ s) (k : Q (.int (paidV fl x y)) H) : sp_paid K [v, .int x, .int y] H Q E := ⟨v, fl, f, s, x, y, rfl, p0, p1, p2, k⟩
theorem len_paid {K : PySem.W.Frag} (vs : List V) (H : Hp) (Q : VK) (E : XK) (h : sp_paid K vs H Q E) : vs.length = ["field", "x", "y"].length := by
  obtain ⟨_, _, _, _, _, _, rfl, _⟩ := h
  rfl
local macro_rules | `(tactic| walk_at "g_call") => `(tactic| ((with_reducible refine' use_paid ?c0 ?c1 ?c2 ?_); (case c0 => walk_at "g_pre"); (case c1 => walk_at "g_pre"); (case c2 => walk_at "g_pre"); intros))
theorem ok_paid (T : Txt K mg) : FnOk P w K mg base CX0 1 T.a_paid T.d_paid ["field", "x", "y"] (sp_paid K) := by
  refine T.F_paid.ok sc_paid len_paid (fun cdv A outer s H vs Q E hr h => ?_)
  refine ⟨_, (pss_cons (ps_if (pt_cmpR op_eq (pe_ix (ix_tupK K rfl) (pv 0) pe_int (fun _ _ => rfl)) pe_str (nomark _)) (pss_one (ps_ret (pe_ix (ix_listK K rfl) (pe_ix (ix_listK K rfl) (pe_ix (ix_tupK K rfl) (pv 0) pe_int (fun _ _ => rfl)) (pv 1) (fun _ _ => rfl)) (pv 2) (fun _ _ => rfl)))) pss_nil)
      (pss_cons (ps_if (pt_cmpR op_eq (pe_ix (ix_tupK K rfl) (pv 0) pe_int (fun _ _ => rfl)) pe_str (nomark _)) (pss_one (ps_ret (pe_ifExp (pt_cmpR op_ge (pv 1) (pe_op op_add (pv 2) (pe_ix (ix_tupK K rfl) (pv 0) pe_int (fun _ _ => rfl))) (nomark _)) (pe_ix (ix_tupK K rfl) (pv 0) pe_int (fun _ _ => rfl)) (pe_op op_sub pe_int (pe_ix (ix_tupK K rfl) (pv 0) pe_int (fun _ _ => rfl)))))) pss_nil)
      (pss_cons (ps_if (pt_cmpR op_eq (pv 1) (pv 2) (nomark _)) (pss_one (ps_ret (pe_ix (ix_tupK K rfl) (pv 0) pe_int (fun _ _ => rfl)))) pss_nil)
      (pss_one (ps_ret (pe_ifExp (pt_cmpR op_gt (pv 1) (pv 2) (nomark _)) (pe_ix (ix_tupK K rfl) (pv 0) pe_int (fun _ _ => rfl)) (pe_op op_sub pe_int (pe_ix (ix_tupK K rfl) (pv 0) pe_int (fun _ _ => rfl))))))))), ?_⟩
  try dsimp only [L2.cxOf, L2.Cx.nox, L2.Cx.wish, List.map_cons, List.map_nil]
  obtain ⟨v, fl, f, s, x, y, rfl, p0, p1, p2, k⟩ := h
  refine start_to (σ := [some _, some _, some _]) rfl ?_
  cases fl with
  | more w t =>
    obtain ⟨a, rfl, h1⟩ := fld_more p0
    walk_at "go"
    have k' : Q (.int (if x = y then t else if x > y then w else 0 - w)) H := k
    refine ite_d (fun c1 => ?_) (fun c1 => ?_)
    · rw [if_pos c1] at k'
      walk_at "go"
      exact k'
    · rw [if_neg c1] at k'
      walk_at "go"
      refine ite_d (fun c2 => ?_) (fun c2 => ?_)
      · rw [if_pos c2] at k'
        walk_at "go"
        exact k'
      · rw [if_neg c2] at k'
        walk_at "go"
        exact k'
  | lead w l =>
    obtain ⟨a, rfl, h1⟩ := fld_lead p0
    walk_at "go"
    have k' : Q (.int (if x ≥ y + l then w else 0 - w)) H := k
    refine ite_d (fun c2 => ?_) (fun c2 => ?_)
    · rw [if_pos c2] at k'
      walk_at "go"
      exact k'
    · rw [if_neg c2] at k'
      walk_at "go"
      exact k'
  | tab rows =>
    obtain ⟨a, p, xs, rfl, h1, h2, h3⟩ := fld_tab p0
    obtain ⟨g1, g2⟩ := p1
    have hl : xs.length = rows.length := by rw [h3.len, List.length_map]
    obtain ⟨w, hat, hw⟩ := at_lt (xs := xs) (i := x) (by omega) (by omega)
    obtain ⟨r, q, e1, rfl, e2⟩ := row_at h3 hw
    have hr := g2 r (List.mem_of_getElem? e1)
    walk_at "go"
    rename_i z hz
    have k' : Q (.int ((((rows[x.toNat]?).getD [])[y.toNat]?).getD 0)) H := k
    rw [e1] at k'
    have k2 : Q (.int ((r[y.toNat]?).getD 0)) H := k'
    rw [hz] at k2
    exact k2

def sp_won (K : PySem.W.Frag) : Sp := fun vs H Q E => ∃ (v : V) (f s : Int) (fs : List Fld) (q r : Addr) (ms ns : List Int), vs = [v, .ref q, .ref r] ∧ (Dq H v (batD f s fs)) ∧ (BatOk f s fs) ∧ (H q = some (.lst (ms.map V.int))) ∧ (H r = some (.lst (ns.map V.int))) ∧ (PlanC f fs.length ms) ∧ (PlanC s fs.length ns) ∧ ∀ (H' : Hp), (Same H H') → Q (.int (gainV fs ms ns)) H'
theorem use_won {K : PySem.W.Frag} {H : Hp} {Q : VK} {E : XK} {v : V} {f s : Int} {fs : List Fld} {q r : Addr} {ms ns : List Int} (p0 : Dq H v (batD f s fs)) (p1 : BatOk f s fs) (p2 : H q = some (.lst (ms.map V.int))) (p3 : H r = some (.lst (ns.map V.int))) (p4 : PlanC f fs.length ms) (p5 : PlanC s fs.length ns) (k : ∀ (H' : Hp), (Same H H') → Q (.int (gainV fs ms ns)) H') : sp_won K [v, .ref q, .ref r] H Q E := ⟨v, f, s, fs, q, r, ms, ns, rfl, p0, p1, p2, p3, p4, p5, k⟩
theorem len_won {K : PySem.W.Frag} (vs : List V) (H : Hp) (Q : VK) (E : XK) (h : sp_won K vs H Q E) : vs.length = ["battle", "one", "other"].length := by
  obtain ⟨_, _, _, _, _, _, _, _, rfl, _⟩ := h
  rfl
local macro_rules | `(tactic| walk_at "g_call") => `(tactic| ((with_reducible refine' use_won ?c0 ?c1 ?c2 ?c3 ?c4 ?c5 ?_); (case c0 => walk_at "g_pre"); (case c1 => walk_at "g_pre"); (case c2 => walk_at "g_pre"); (case c3 => walk_at "g_pre"); (case c4 => walk_at "g_pre"); (case c5 => walk_at "g_pre"); intros))
theorem ok_won (T : Txt K mg) : FnOk P w K mg base CX0 2 T.a_won T.d_won ["battle", "one", "other"] (sp_won K) := by
  have G_paid := ok_paid (P := P) (w := w) (base := base) T
  refine T.F_won.ok sc_won len_won (fun cdv A outer s H vs Q E hr h => ?_)
  refine ⟨_, (pss_one (ps_ret (pe_callB (cr_sumK K rfl rfl) (by rfl) T.z_sum (by decide +kernel) (pa_cons (pe_lc (own := [("k", 3)]) rfl sc_won.nd (pi_range1 rfl T.z_range (pa_cons (pe_callB (call_lenK K rfl) (by rfl) T.z_len (by decide +kernel) (pa_cons (pe_ix (ix_tupK K rfl) (pv 0) pe_int (fun _ _ => rfl)) pa_nil)) pa_nil)) (blkOk_by (own := [("k", 3)]) (N := ["battle", "one", "other", "k"]) (sc := defScope s_won) (by decide +kernel)) (fun _ _ _ _ _ => (pg_name (i := 3) sc_won.nd rfl (Or.inl rfl))) (fun _ _ _ _ _ => pts_nil) (fun _ _ _ _ _ => (pe_call G_paid (hr.mono (by first | decide | omega)) (by rfl) T.g_paid T.F_paid.kp T.b_paid .nil pass0 (pa_cons (pe_ix (ix_listK K rfl) (pe_ix (ix_tupK K rfl) (pv 0) pe_int (fun _ _ => rfl)) (pv 3) (fun _ _ => rfl)) (pa_cons (pe_ix (ix_listK K rfl) (pv 1) (pv 3) (fun _ _ => rfl)) (pa_cons (pe_ix (ix_listK K rfl) (pv 2) (pv 3) (fun _ _ => rfl)) pa_nil)))))) pa_nil)))), ?_⟩
  try dsimp only [L2.cxOf, L2.Cx.nox, L2.Cx.wish, List.map_cons, List.map_nil]
  obtain ⟨v, f, s, fs, q, r, ms, ns, rfl, p0, p1, p2, p3, p4, p5, k⟩ := h
  obtain ⟨a, p, xs, rfl, h1, h2, h3⟩ := bat_inv p0
  have hl : xs.length = fs.length := by rw [h3.len, List.length_map]
  have b1 := p4.1
  have b2 := p5.1
  have b3 := p1.ne
  refine start_to (σ := [some _, some _, some _, none]) rfl ?_
  walk_at "goO"
  intro D nD
  refine lcR_int (fun i => paidV (fldAt fs i) (nAt ms i) (nAt ns i)) nD (by omega) ?_ ?_
  · intro i H2 Z Y hi hs2 hz
    obtain ⟨w, hat, hw⟩ := at_lt (xs := xs) (i := 0 + (i : Int)) (by omega) (by omega)
    obtain ⟨fl, e1, e2⟩ := fld_at h3 hw
    have b4 := p1.at e1
    have h1' := hs2 _ _ h1
    have h2' := hs2 _ _ h2
    have p2' := hs2 _ _ p2
    have p3' := hs2 _ _ p3
    have z1 := plan_le p4 i
    have z2 := plan_le p5 i
    have e3 : fldAt fs i = fl := by
      unfold fldAt
      rw [show ((i : Int)).toNat = (0 + (i : Int)).toNat by omega, e1]
      rfl
    rw [e3] at hz
    clear h1 h2 p2 p3
    walk_at "goO"
    rename_i m1 hm1 m2 hm2
    have e4 : nAt ms i = m1 := by
      unfold nAt
      rw [show ((i : Int)).toNat = (0 + (i : Int)).toNat by omega, hm1]
      rfl
    have e5 : nAt ns i = m2 := by
      unfold nAt
      rw [show ((i : Int)).toNat = (0 + (i : Int)).toNat by omega, hm2]
      rfl
    rw [e4] at z1 hz
    rw [e5] at z2 hz
    have b6 : 0 ≤ m1 ∧ m1 ≤ f ∧ 0 ≤ m2 ∧ m2 ≤ s := by omega
    walk_at "goO"
    exact hz _ (Same.refl _)
  · intro H2 hs2 hD
    rw [show Int.toNat (xs.length : Int) = fs.length by omega] at hD
    walk_at "go"
    exact k _ hs2

def sp_divisor (K : PySem.W.Frag) : Sp := fun vs H Q E => ∃ (x y : Int), vs = [.int x, .int y] ∧ Q (.int (Int.gcd x y : Int)) H
theorem use_divisor {K : PySem.W.Frag} {H : Hp} {Q : VK} {E : XK} {x y : Int}  (k : Q (.int (Int.gcd x y : Int)) H) : sp_divisor K [.int x, .int y] H Q E := ⟨x, y, rfl, k⟩
theorem len_divisor {K : PySem.W.Frag} (vs : List V) (H : Hp) (Q : VK) (E : XK) (h : sp_divisor K vs H Q E) : vs.length = ["one", "other"].length := by
  obtain ⟨_, _, rfl, _⟩ := h
  rfl
local macro_rules | `(tactic| walk_at "g_call") => `(tactic| ((with_reducible refine' use_divisor ?_); intros))
theorem ok_divisor (T : Txt K mg) : FnOk P w K mg base CX0 1 T.a_divisor T.d_divisor ["one", "other"] (sp_divisor K) := by
  refine T.F_divisor.ok sc_divisor len_divisor (fun cdv A outer s H vs Q E hr h => ?_)
  refine ⟨_, (pss_cons (ps_par (i := 0) (j := 1) rfl sc_divisor.nd rfl rfl (by decide) rfl rfl (pa_cons (pe_callB call_abs (by rfl) T.z_abs (by decide +kernel) (pa_cons (pv 0) pa_nil)) (pa_cons (pe_callB call_abs (by rfl) T.z_abs (by decide +kernel) (pa_cons (pv 1) pa_nil)) pa_nil)) (by rfl))
      (pss_cons (ps_while PassesOwn.never (pt_cmpR op_gt (pv 1) pe_int (nomark _)) (pss_one (ps_par (i := 0) (j := 1) rfl sc_divisor.nd rfl rfl (by decide) rfl rfl (pa_cons (pv 1) (pa_cons (pe_op op_mod (pv 0) (pv 1)) pa_nil)) (by rfl))))
      (pss_one (ps_ret (pv 0))))), ?_⟩
  try dsimp only [L2.cxOf, L2.Cx.nox, L2.Cx.wish, List.map_cons, List.map_nil]
  obtain ⟨x, y, rfl, k⟩ := h
  refine start_to (σ := [some _, some _]) rfl ?_
  walk_at "go"
  rw [abs_if, abs_if]
  refine whileW (fun m σ H' => ∃ u v : Int, σ = [some (.int u), some (.int v)] ∧ 0 ≤ u ∧ 0 ≤ v ∧ Int.gcd u v = Int.gcd x y ∧ m = v.toNat ∧ H' = H) _ ⟨_, _, rfl, by omega, by omega, gcd_abs, rfl, rfl⟩ ?_
  rintro m σ1 H1 ⟨u, v, rfl, hu, hv, hg, rfl, rfl⟩
  walk_at "go"
  refine ite_d (fun c1 => turnW ?_) (fun c1 => ?_)
  · walk_at "go"
    refine ⟨(u % v).toNat, ?_, _, _, rfl, hv, Int.emod_nonneg _ (by omega), (gcd_step hu c1).trans hg, rfl, rfl⟩
    have := Int.emod_lt_of_pos u c1
    omega
  · obtain rfl : v = 0 := by omega
    have eu : u = (Int.gcd x y : Int) := by
      rw [← hg]
      exact (gcd_zero hu).symm
    walk_at "go"
    rw [eu]
    exact k
def sp_ratio (K : PySem.W.Frag) : Sp := fun vs H Q E => ∃ (x y : Int), vs = [.int x, .int y] ∧ (y ≠ 0) ∧ (x.natAbs < 2 ^ 400 ∧ y.natAbs < 2 ^ 400) ∧ ∀ (p : Addr), (H p = none) → Q (.ref p) (upd H p (.tup [.int (ltop x y), .int (lbot x y)]))
theorem use_ratio {K : PySem.W.Frag} {H : Hp} {Q : VK} {E : XK} {x y : Int} (p0 : y ≠ 0) (p1 : x.natAbs < 2 ^ 400 ∧ y.natAbs < 2 ^ 400) (k : ∀ (p : Addr), (H p = none) → Q (.ref p) (upd H p (.tup [.int (ltop x y), .int (lbot x y)]))) : sp_ratio K [.int x, .int y] H Q E := ⟨x, y, rfl, p0, p1, k⟩
theorem len_ratio {K : PySem.W.Frag} (vs : List V) (H : Hp) (Q : VK) (E : XK) (h : sp_ratio K vs H Q E) : vs.length = ["top", "bottom"].length := by
  obtain ⟨_, _, rfl, _⟩ := h
  rfl
local macro_rules | `(tactic| walk_at "g_call") => `(tactic| ((with_reducible refine' use_ratio ?c0 ?c1 ?_); (case c0 => walk_at "g_pre"); (case c1 => walk_at "g_pre"); intros))
theorem ok_ratio (T : Txt K mg) : FnOk P w K mg base CX0 2 T.a_ratio T.d_ratio ["top", "bottom"] (sp_ratio K) := by
  have G_divisor := ok_divisor (P := P) (w := w) (base := base) T
  refine T.F_ratio.ok sc_ratio len_ratio (fun cdv A outer s H vs Q E hr h => ?_)
  refine ⟨_, (pss_cons (ps_if (pt_cmpR op_eq (pv 1) pe_int (nomark _)) (pss_one ps_never) pss_nil)
      (pss_cons (ps_set (i := 2) sc_ratio.nd rfl (Or.inl rfl) (pe_call G_divisor (hr.mono (by first | decide | omega)) (by rfl) T.g_divisor T.F_divisor.kp T.b_divisor .nil pass0 (pa_cons (pv 0) (pa_cons (pv 1) pa_nil))))
      (pss_cons (ps_if (pt_cmpR op_lt (pv 1) pe_int (nomark _)) (pss_one (ps_set (i := 2) sc_ratio.nd rfl (Or.inl rfl) (pe_op op_sub pe_int (pv 2)))) pss_nil)
      (pss_one (ps_ret (pe_tup (pa_cons (pe_op op_fdivA (pv 0) (pv 2)) (pa_cons (pe_op op_fdivA (pv 1) (pv 2)) pa_nil)))))))), ?_⟩
  try dsimp only [L2.cxOf, L2.Cx.nox, L2.Cx.wish, List.map_cons, List.map_nil]
  obtain ⟨x, y, rfl, p0, ⟨p1, p2⟩, k⟩ := h
  refine start_to (σ := [some _, some _, none]) rfl ?_
  walk_at "go"
  refine ite_d (fun c1 => absurd c1 p0) (fun c1 => ?_)
  walk_at "go"
  have hne := sgcd_ne (x := x) p0
  have hle := sgcd_le (x := x) p0
  have hl : (sgcd x y).natAbs.log2 < 9000 := log_lt (b := 400) (by omega) (by decide) (by decide)
  refine ite_d (fun c2 => ?_) (fun c2 => ?_)
  · have es : 0 - (Int.gcd x y : Int) = sgcd x y := by
      unfold sgcd
      rw [if_pos c2]
    walk_at "go"
    rw [es]
    walk_at "go"
    exact k _ (by assumption)
  · have es : (Int.gcd x y : Int) = sgcd x y := by
      unfold sgcd
      rw [if_neg c2]
    walk_at "go"
    rw [es]
    walk_at "go"
    exact k _ (by assumption)

def MxB (ds : List PyData) (d1 d2 : PyData) : Prop := ∀ (fs : List Fld) (m1 m2 : List (List Int × Int)), ds = fs.map fldD → d1 = mixD m1 → d2 = mixD m2 → (∀ x ∈ fs, FldSm x) ∧ WtSm m1 ∧ WtSm m2
def MxR (H' : Hp) (p : Addr) (ds : List PyData) (d1 d2 : PyData) : Prop := ∀ fs m1 m2, ds = fs.map fldD → d1 = mixD m1 → d2 = mixD m2 → H' p = some (.tup [.int (ltop (mixTot fs m1 m2) (whole m1 * whole m2)), .int (lbot (mixTot fs m1 m2) (whole m1 * whole m2))])
def sp_mixed_gain (K : PySem.W.Frag) (e_NoBattle : Addr) (e_NoMix : Addr) : Sp := fun vs H Q E => ∃ (v u1 u2 : V) (f s : Int) (ds : List PyData) (d1 d2 : PyData), vs = [v, u1, u2] ∧ (Dq H v (batT f s ds)) ∧ ((∀ d ∈ ds, FldIn d)) ∧ (ds.length ≤ 1000) ∧ (Dq H u1 d1) ∧ (Dq H u2 d2) ∧ (wid d1 ≤ 1000 ∧ wid d2 ≤ 1000) ∧ ((badB f s ds = none → MxB ds d1 d2)) ∧ ((badB f s ds = none ∧ IsMixOf f ds.length d1 ∧ IsMixOf s ds.length d2) → ∀ (p : Addr) (H' : Hp), (MxR H' p ds d1 d2) → (H p = none) → (Same H H') → Q (.ref p) H') ∧ (¬ (badB f s ds = none ∧ IsMixOf f ds.length d1 ∧ IsMixOf s ds.length d2) → (∀ k d H', badB f s ds = some k → H d = none → H' d = some (.xd [(("field" : Str), .int k)]) → Same H H' → E (.ref e_NoBattle) (some d) H') ∧ (badB f s ds = none → ∀ H', Same H H' → E (.ref e_NoMix) none H'))
theorem use_mixed_gain {K : PySem.W.Frag} {e_NoBattle : Addr} {e_NoMix : Addr} {H : Hp} {Q : VK} {E : XK} {v u1 u2 : V} {f s : Int} {ds : List PyData} {d1 d2 : PyData} (p0 : Dq H v (batT f s ds)) (p1 : (∀ d ∈ ds, FldIn d)) (p2 : ds.length ≤ 1000) (p3 : Dq H u1 d1) (p4 : Dq H u2 d2) (p5 : wid d1 ≤ 1000 ∧ wid d2 ≤ 1000) (p6 : (badB f s ds = none → MxB ds d1 d2)) (k : (badB f s ds = none ∧ IsMixOf f ds.length d1 ∧ IsMixOf s ds.length d2) → ∀ (p : Addr) (H' : Hp), (MxR H' p ds d1 d2) → (H p = none) → (Same H H') → Q (.ref p) H') (kx : ¬ (badB f s ds = none ∧ IsMixOf f ds.length d1 ∧ IsMixOf s ds.length d2) → (∀ k d H', badB f s ds = some k → H d = none → H' d = some (.xd [(("field" : Str), .int k)]) → Same H H' → E (.ref e_NoBattle) (some d) H') ∧ (badB f s ds = none → ∀ H', Same H H' → E (.ref e_NoMix) none H')) : sp_mixed_gain K e_NoBattle e_NoMix [v, u1, u2] H Q E := ⟨v, u1, u2, f, s, ds, d1, d2, rfl, p0, p1, p2, p3, p4, p5, p6, k, kx⟩
theorem len_mixed_gain {K : PySem.W.Frag} {e_NoBattle : Addr} {e_NoMix : Addr} (vs : List V) (H : Hp) (Q : VK) (E : XK) (h : sp_mixed_gain K e_NoBattle e_NoMix vs H Q E) : vs.length = ["battle", "one", "other"].length := by
  obtain ⟨_, _, _, _, _, _, _, _, rfl, _⟩ := h
  rfl
local macro_rules | `(tactic| walk_at "g_call") => `(tactic| ((with_reducible refine' use_mixed_gain ?c0 ?c1 ?c2 ?c3 ?c4 ?c5 ?c6 ?kk ?kx); (case c0 => walk_at "g_pre"); (case c1 => walk_at "g_pre"); (case c2 => walk_at "g_pre"); (case c3 => walk_at "g_pre"); (case c4 => walk_at "g_pre"); (case c5 => walk_at "g_pre"); (case c6 => walk_at "g_pre"); first | ((case kx => (intro _; exfalso; walk_at "g_no")); intros) | ((case kk => (intro _; exfalso; walk_at "g_no")); intros) | skip))
theorem ok_mixed_gain (T : Txt K mg) : FnOk P w K mg base (L2.CX P w) 7 T.a_mixed_gain T.d_mixed_gain ["battle", "one", "other"] (sp_mixed_gain K T.e_NoBattle T.e_NoMix) := by
  have G_look_battle := ok_look_battle (P := P) (w := w) (base := base) T
  have G_must_be_mix_of := ok_must_be_mix_of (P := P) (w := w) (base := base) T
  have G_ratio := ok_ratio (P := P) (w := w) (base := base) T
  have G_whole_of := ok_whole_of (P := P) (w := w) (base := base) T
  have G_won := ok_won (P := P) (w := w) (base := base) T
  refine T.F_mixed_gain.okX sc_mixed_gain len_mixed_gain (fun cdv A outer s H vs Q E hr h => ?_)
  refine ⟨_, (pss_cons (ps_expr (pe_callS G_look_battle (hr.mono (by first | decide | omega)) (by rfl) T.g_look_battle T.F_look_battle.kp T.b_look_battle (fun σ => passAt (takes_of rfl rfl rfl rfl) σ) (pa_cons (pv 0) pa_nil)))
      (pss_cons (ps_set (i := 3) sc_mixed_gain.nd rfl (Or.inl rfl) (pe_callB (call_lenK K rfl) (by rfl) T.z_len (by decide +kernel) (pa_cons (pe_ix (ix_tupK K rfl) (pv 0) pe_int (fun _ _ => rfl)) pa_nil)))
      (pss_cons (ps_expr (pe_callS G_must_be_mix_of (hr.mono (by first | decide | omega)) (by rfl) T.g_must_be_mix_of T.F_must_be_mix_of.kp T.b_must_be_mix_of (fun σ => passAt (takes_of rfl rfl rfl rfl) σ) (pa_cons (pe_ix (ix_tupK K rfl) (pv 0) pe_int (fun _ _ => rfl)) (pa_cons (pv 3) (pa_cons (pv 1) pa_nil)))))
      (pss_cons (ps_expr (pe_callS G_must_be_mix_of (hr.mono (by first | decide | omega)) (by rfl) T.g_must_be_mix_of T.F_must_be_mix_of.kp T.b_must_be_mix_of (fun σ => passAt (takes_of rfl rfl rfl rfl) σ) (pa_cons (pe_ix (ix_tupK K rfl) (pv 0) pe_int (fun _ _ => rfl)) (pa_cons (pv 3) (pa_cons (pv 2) pa_nil)))))
      (pss_cons (ps_set (i := 4) sc_mixed_gain.nd rfl (Or.inl rfl) pe_int)
      (pss_cons (ps_for (passes_of rfl) rfl (pi_listK K rfl (pv 1)) (pg_tupK K rfl 2 rfl (pgs_cons (pg_name (i := 5) sc_mixed_gain.nd rfl (Or.inl rfl)) (pgs_cons (pg_name (i := 6) sc_mixed_gain.nd rfl (Or.inl rfl)) pgs_nil))) (pss_one (ps_for (passes_of rfl) rfl (pi_listK K rfl (pv 2)) (pg_tupK K rfl 2 rfl (pgs_cons (pg_name (i := 7) sc_mixed_gain.nd rfl (Or.inl rfl)) (pgs_cons (pg_name (i := 8) sc_mixed_gain.nd rfl (Or.inl rfl)) pgs_nil))) (pss_one (ps_aug (i := 4) sc_mixed_gain.nd rfl (Or.inl rfl) (pe_op op_mulA (pe_op op_mulA (pv 6) (pv 8)) (pe_call G_won (hr.mono (by first | decide | omega)) (by rfl) T.g_won T.F_won.kp T.b_won .nil pass0 (pa_cons (pv 0) (pa_cons (pv 5) (pa_cons (pv 7) pa_nil))))) ip_add)))))
      (pss_one (ps_ret (pe_call G_ratio (hr.mono (by first | decide | omega)) (by rfl) T.g_ratio T.F_ratio.kp T.b_ratio .nil pass0 (pa_cons (pv 4) (pa_cons (pe_op op_mulA (pe_callS G_whole_of (hr.mono (by first | decide | omega)) (by rfl) T.g_whole_of T.F_whole_of.kp T.b_whole_of (fun σ => passAt (takes_of rfl rfl rfl rfl) σ) (pa_cons (pv 1) pa_nil)) (pe_callS G_whole_of (hr.mono (by first | decide | omega)) (by rfl) T.g_whole_of T.F_whole_of.kp T.b_whole_of (fun σ => passAt (takes_of rfl rfl rfl rfl) σ) (pa_cons (pv 2) pa_nil))) pa_nil))))))))))), ?_⟩
  try dsimp only [L2.cxOf, L2.Cx.nox, L2.Cx.wish, List.map_cons, List.map_nil]
  obtain ⟨v, u1, u2, f, s, ds, d1, d2, rfl, p0, p1, p2, p3, p4, ⟨p5, p6⟩, p7, k, kx⟩ := h
  refine start_to (σ := [some _, some _, some _, none, none, none, none, none, none]) rfl ?_
  by_cases good : badB f s ds = none
  · obtain ⟨fs, rfl, ok⟩ := good_flds good
    have dB : Dq H v (batD f s fs) := p0
    obtain ⟨a, p, xs, rfl, h1, h2, h3⟩ := bat_inv dB
    have hl : xs.length = fs.length := by rw [h3.len, List.length_map]
    have hn : 1 ≤ fs.length := ok.ne.1
    have lm : (fs.map fldD).length = fs.length := List.length_map ..
    rw [lm, ← hl] at k kx
    rw [← hl] at hn
    by_cases g1 : IsMixOf f xs.length d1
    · by_cases g2 : IsMixOf s xs.length d2
      · have k' := k ⟨good, g1, g2⟩
        clear k kx
        walk_at "go"
        rename_i H1 s1 w1 H2 s2 w2 H3 s3
        obtain ⟨m1, rfl, ok1⟩ := id g1
        obtain ⟨m2, rfl, ok2⟩ := id g2
        have i1 : IsMix (mixD m1) := ⟨_, _, m1, rfl, ok1⟩
        have i2 : IsMix (mixD m2) := ⟨_, _, m2, rfl, ok2⟩
        have s13 : Same H H3 := (s1.trans s2).trans s3
        have dB3 := dB.same s13
        obtain ⟨a1, xs1, rfl, q1, q2, q3⟩ := mix_inv (p3.same s13)
        obtain ⟨a2, xs2, rfl, r1, r2, r3⟩ := mix_inv (p4.same s13)
        have dO3 := p3.same s13
        have dT3 := p4.same s13
        clear w1 w2 s1 s2 s3 g1 g2 h1 h2 h3 p3 p4
        obtain ⟨b1, b2, b3⟩ := p7 good fs m1 m2 rfl rfl rfl
        walk_at "go"
        refine forL (xs := xs1) (fun i σ H1 => ∃ y5 y6 y7 y8 : Option V, σ = [some (.ref a), some (.ref a1), some (.ref a2), some (.int xs.length), some (.int (mixTot fs (m1.take i) m2)), y5, y6, y7, y8] ∧ Same H3 H1) ⟨_, _, _, _, rfl, Same.refl _⟩ ?_ ?_ ?_
        · rintro i σ H1 _ ⟨y5, y6, y7, y8, rfl, s4⟩
          exact SqL.of (s4 _ _ q1)
        · rintro σ H1 ⟨y5, y6, y7, y8, rfl, s4⟩
          rw [q2, List.take_length]
          have dO := dO3.same s4
          have dT := dT3.same s4
          walk_at "go"
          rename_i z1 H4 e1 s5 w2 z2 H5 e2 s6
          have e1' := e1 _ rfl
          have e2' := e2 _ rfl
          subst e1' e2'
          have w2 : whole m1 * whole m2 ≠ 0 := by
            have a1 := whole_ge ok1
            have a2 := whole_ge ok2
            intro c
            rcases Int.mul_eq_zero.mp c with c | c <;> omega
          have w3 := mul_ww b2.whole b3.whole
          have w4 : (mixTot fs m1 m2).natAbs < 2 ^ 400 ∧ (whole m1 * whole m2).natAbs < 2 ^ 400 := ⟨mixTot_sm b1 ok.ne.2 b2 b3, whole2_sm b2 b3⟩
          walk_at "go"
          rename_i t nt
          refine k' t _ ?_ (by walk_at "g_free") (by walk_at "g_same")
          intro fs' m1' m2' g1 g2 g3
          rw [← map_inj (fun a b e => fldD_inj e) g1, ← mixD_inj g2, ← mixD_inj g3]
          exact upd_same
        · rintro i x σ H1 hx ⟨y5, y6, y7, y8, rfl, s4⟩
          obtain ⟨pw, t, p', e1, rfl, e2, e3⟩ := q3 i x hx
          have e2' := s4 _ _ e2
          rw [mixTot_snoc e1]
          have pl1 := (ok1.pl pw (List.mem_of_getElem? e1)).1
          rw [hl] at pl1
          walk_at "go"
          refine forL (xs := xs2) (fun j σ H2 => ∃ y7 y8 : Option V, σ = [some (.ref a), some (.ref a1), some (.ref a2), some (.int xs.length), some (.int (mixTot fs (m1.take i) m2 + tot1 fs pw.1 pw.2 (m2.take j))), some (.ref p'), some (.int pw.2), y7, y8] ∧ Same H3 H2) ⟨y7, y8, by simp [tot1], s4⟩ ?_ ?_ ?_
          · rintro j σ H2 _ ⟨y7, y8, rfl, s5⟩
            exact SqL.of (s5 _ _ r1)
          · rintro σ H2 ⟨y7, y8, rfl, s5⟩
            rw [r2, List.take_length]
            walk_at "go"
            exact ⟨_, _, _, _, rfl, s5⟩
          · rintro j x σ H2 hx2 ⟨y7, y8, rfl, s5⟩
            obtain ⟨pv, t2, p2', f1, rfl, f2, f3⟩ := r3 j x hx2
            have f2' := s5 _ _ f2
            have f3' := s5 _ _ f3
            have e3' := s5 _ _ e3
            have dB5 := dB3.same s5
            have pl2 := (ok2.pl pv (List.mem_of_getElem? f1)).1
            rw [tot1_snoc f1, ← Int.add_assoc]
            rw [hl] at pl2
            have m1' := mul_pp (b2.abs (List.mem_of_getElem? e1)) (b3.abs (List.mem_of_getElem? f1))
            have m2' := mul_ppg (b2.abs (List.mem_of_getElem? e1)) (b3.abs (List.mem_of_getElem? f1)) (gain_sm b1 ok.ne.2 pw.1 pv.1)
            walk_at "go"
            exact ⟨_, _, rfl, by walk_at "g_same"⟩
      · have kx' := (kx fun c => g2 c.2.2).2 good
        clear k kx
        walk_at "go"
        exact kx' _ (by walk_at "g_same")
    · have kx' := (kx fun c => g1 c.2.1).2 good
      clear k kx
      walk_at "go"
      exact kx' _ (by walk_at "g_same")
  · have kx' := (kx fun c => good c.1).1
    clear k kx
    walk_at "go"
    rename_i kk d H1 e1 e2 e3 s1
    exact kx' _ _ _ e1 e2 e3 s1

def sp_l_in_lowest (K : PySem.W.Frag) : Sp := fun vs H Q E => ∃ (x y : Int), vs = [.int x, .int y] ∧ (y ≠ 0) ∧ (x.natAbs < 2 ^ 400 ∧ y.natAbs < 2 ^ 400) ∧ ∀ (p : Addr), (H p = none) → Q (.ref p) (upd H p (.tup [.int (ltop x y), .int (lbot x y)]))
theorem use_l_in_lowest {K : PySem.W.Frag} {H : Hp} {Q : VK} {E : XK} {x y : Int} (p0 : y ≠ 0) (p1 : x.natAbs < 2 ^ 400 ∧ y.natAbs < 2 ^ 400) (k : ∀ (p : Addr), (H p = none) → Q (.ref p) (upd H p (.tup [.int (ltop x y), .int (lbot x y)]))) : sp_l_in_lowest K [.int x, .int y] H Q E := ⟨x, y, rfl, p0, p1, k⟩
theorem len_l_in_lowest {K : PySem.W.Frag} (vs : List V) (H : Hp) (Q : VK) (E : XK) (h : sp_l_in_lowest K vs H Q E) : vs.length = ["_law_top", "_law_bottom"].length := by
  obtain ⟨_, _, rfl, _⟩ := h
  rfl
local macro_rules | `(tactic| walk_at "g_call") => `(tactic| ((with_reducible refine' use_l_in_lowest ?c0 ?c1 ?_); (case c0 => walk_at "g_pre"); (case c1 => walk_at "g_pre"); intros))
theorem ok_l_in_lowest (T : Txt K mg) : FnOk P w K mg base CX0 1 T.a_l_in_lowest T.d_l_in_lowest ["_law_top", "_law_bottom"] (sp_l_in_lowest K) := by
  refine T.F_l_in_lowest.ok sc_l_in_lowest len_l_in_lowest (fun cdv A outer s H vs Q E hr h => ?_)
  refine ⟨_, (pss_cons (ps_par (i := 2) (j := 3) rfl sc_l_in_lowest.nd rfl rfl (by decide) rfl rfl (pa_cons (pe_callB call_abs (by rfl) T.z_abs (by decide +kernel) (pa_cons (pv 0) pa_nil)) (pa_cons (pe_callB call_abs (by rfl) T.z_abs (by decide +kernel) (pa_cons (pv 1) pa_nil)) pa_nil)) (by rfl))
      (pss_cons (ps_while PassesOwn.never (pt_cmpR op_gt (pv 3) pe_int (nomark _)) (pss_one (ps_par (i := 2) (j := 3) rfl sc_l_in_lowest.nd rfl rfl (by decide) rfl rfl (pa_cons (pv 3) (pa_cons (pe_op op_mod (pv 2) (pv 3)) pa_nil)) (by rfl))))
      (pss_cons (ps_if (pt_cmpR op_lt (pv 1) pe_int (nomark _)) (pss_one (ps_set (i := 2) sc_l_in_lowest.nd rfl (Or.inl rfl) (pe_op op_sub pe_int (pv 2)))) pss_nil)
      (pss_one (ps_ret (pe_tup (pa_cons (pe_op op_fdivA (pv 0) (pv 2)) (pa_cons (pe_op op_fdivA (pv 1) (pv 2)) pa_nil)))))))), ?_⟩
  try dsimp only [L2.cxOf, L2.Cx.nox, L2.Cx.wish, List.map_cons, List.map_nil]
  obtain ⟨x, y, rfl, p0, ⟨p1, p2⟩, k⟩ := h
  refine start_to (σ := [some _, some _, none, none]) rfl ?_
  walk_at "go"
  rw [abs_if, abs_if]
  refine whileW (fun m σ H' => ∃ u v : Int, σ = [some (.int x), some (.int y), some (.int u), some (.int v)] ∧ 0 ≤ u ∧ 0 ≤ v ∧ Int.gcd u v = Int.gcd x y ∧ m = v.toNat ∧ H' = H) _ ⟨_, _, rfl, by omega, by omega, gcd_abs, rfl, rfl⟩ ?_
  rintro m σ1 H1 ⟨u, v, rfl, hu, hv, hg, rfl, rfl⟩
  walk_at "go"
  refine ite_d (fun c1 => turnW ?_) (fun c1 => ?_)
  · walk_at "go"
    refine ⟨(u % v).toNat, ?_, _, _, rfl, hv, Int.emod_nonneg _ (by omega), (gcd_step hu c1).trans hg, rfl, rfl⟩
    have := Int.emod_lt_of_pos u c1
    omega
  · obtain rfl : v = 0 := by omega
    have eu : u = (Int.gcd x y : Int) := by
      rw [← hg]
      exact (gcd_zero hu).symm
    have hne := sgcd_ne (x := x) p0
    have hle := sgcd_le (x := x) p0
    have hl : (sgcd x y).natAbs.log2 < 9000 := log_lt (b := 400) (by omega) (by decide) (by decide)
    walk_at "go"
    refine ite_d (fun c2 => ?_) (fun c2 => ?_)
    · have es : 0 - u = sgcd x y := by
        unfold sgcd
        rw [if_pos c2, eu]
      walk_at "go"
      rw [es]
      walk_at "go"
      exact k _ (by assumption)
    · have es : u = sgcd x y := by
        unfold sgcd
        rw [if_neg c2, eu]
      walk_at "go"
      rw [es]
      walk_at "go"
      exact k _ (by assumption)

def sp_l_pay (K : PySem.W.Frag) : Sp := fun vs H Q E => ∃ (v : V) (fl : Fld) (f s x y : Int), vs = [v, .int x, .int y] ∧ (Dq H v (fldD fl)) ∧ (FldOk f s fl) ∧ (0 ≤ x ∧ x ≤ f ∧ 0 ≤ y ∧ y ≤ s) ∧ ∀ (H' : Hp), (Same H H') → Q (.int (paidV fl x y)) H'
theorem use_l_pay {K : PySem.W.Frag} {H : Hp} {Q : VK} {E : XK} {v : V} {fl : Fld} {f s x y : Int} (p0 : Dq H v (fldD fl)) (p1 : FldOk f s fl) (p2 : 0 ≤ x ∧ x ≤ f ∧ 0 ≤ y ∧ y ≤ s) (k : ∀ (H' : Hp), (Same H H') → Q (.int (paidV fl x y)) H') : sp_l_pay K [v, .int x, .int y] H Q E := ⟨v, fl, f, s, x, y, rfl, p0, p1, p2, k⟩
theorem len_l_pay {K : PySem.W.Frag} (vs : List V) (H : Hp) (Q : VK) (E : XK) (h : sp_l_pay K vs H Q E) : vs.length = ["_law_field", "_law_x", "_law_y"].length := by
  obtain ⟨_, _, _, _, _, _, rfl, _⟩ := h
  rfl
local macro_rules | `(tactic| walk_at "g_call") => `(tactic| ((with_reducible refine' use_l_pay ?c0 ?c1 ?c2 ?_); (case c0 => walk_at "g_pre"); (case c1 => walk_at "g_pre"); (case c2 => walk_at "g_pre"); intros))
theorem ok_l_pay (T : Txt K mg) : FnOk P w K mg base CX0 1 T.a_l_pay T.d_l_pay ["_law_field", "_law_x", "_law_y"] (sp_l_pay K) := by
  refine T.F_l_pay.ok sc_l_pay len_l_pay (fun cdv A outer s H vs Q E hr h => ?_)
  refine ⟨_, (pss_cons (ps_if (pt_cmpR op_eq (pe_ix (ix_tupK K rfl) (pv 0) pe_int (fun _ _ => rfl)) pe_str (nomark _)) (pss_one (ps_ret (pe_ix (ix_listK K rfl) (pe_ix (ix_listK K rfl) (pe_ix (ix_tupK K rfl) (pv 0) pe_int (fun _ _ => rfl)) (pv 1) (fun _ _ => rfl)) (pv 2) (fun _ _ => rfl)))) pss_nil)
      (pss_cons (ps_if (pt_cmpR op_eq (pe_ix (ix_tupK K rfl) (pv 0) pe_int (fun _ _ => rfl)) pe_str (nomark _)) (pss_one (ps_ret (pe_ix (ix_listK K rfl) (pe_lst (pa_cons (pe_op op_sub pe_int (pe_ix (ix_tupK K rfl) (pv 0) pe_int (fun _ _ => rfl))) (pa_cons (pe_ix (ix_tupK K rfl) (pv 0) pe_int (fun _ _ => rfl)) pa_nil))) (pe_callTy call_int1 (by rfl) T.z_int (by decide +kernel) (pa_cons (pe_cmpR op_ge (pe_op op_sub (pv 1) (pv 2)) (pe_ix (ix_tupK K rfl) (pv 0) pe_int (fun _ _ => rfl)) (nomark _)) pa_nil)) (fun _ _ => rfl)))) pss_nil)
      (pss_one (ps_ret (pe_ix (ix_listK K rfl) (pe_lst (pa_cons (pe_op op_sub pe_int (pe_ix (ix_tupK K rfl) (pv 0) pe_int (fun _ _ => rfl))) (pa_cons (pe_ix (ix_tupK K rfl) (pv 0) pe_int (fun _ _ => rfl)) (pa_cons (pe_ix (ix_tupK K rfl) (pv 0) pe_int (fun _ _ => rfl)) pa_nil)))) (pe_op op_sub (pe_op op_add pe_int (pe_callTy call_int1 (by rfl) T.z_int (by decide +kernel) (pa_cons (pe_cmpR op_gt (pv 1) (pv 2) (nomark _)) pa_nil))) (pe_callTy call_int1 (by rfl) T.z_int (by decide +kernel) (pa_cons (pe_cmpR op_lt (pv 1) (pv 2) (nomark _)) pa_nil))) (fun _ _ => rfl)))))), ?_⟩
  try dsimp only [L2.cxOf, L2.Cx.nox, L2.Cx.wish, List.map_cons, List.map_nil]
  obtain ⟨v, fl, f, s, x, y, rfl, p0, p1, p2, k⟩ := h
  refine start_to (σ := [some _, some _, some _]) rfl ?_
  cases fl with
  | more w t =>
    obtain ⟨a, rfl, h1⟩ := fld_more p0
    have k' : ∀ H', Same H H' → Q (.int (if x = y then t else if x > y then w else 0 - w)) H' := k
    rcases (by omega : x < y ∨ x = y ∨ x > y) with c | c | c
    · rw [if_neg (by omega), if_neg (by omega)] at k'
      walk_at "go"
      exact k' _ (by walk_at "g_same")
    · rw [if_pos (by omega)] at k'
      walk_at "go"
      exact k' _ (by walk_at "g_same")
    · rw [if_neg (by omega), if_pos (by omega)] at k'
      walk_at "go"
      exact k' _ (by walk_at "g_same")
  | lead w l =>
    obtain ⟨a, rfl, h1⟩ := fld_lead p0
    have k' : ∀ H', Same H H' → Q (.int (if x ≥ y + l then w else 0 - w)) H' := k
    rcases (by omega : x - y ≥ l ∨ ¬ (x - y ≥ l)) with c | c
    · rw [if_pos (by omega)] at k'
      walk_at "go"
      exact k' _ (by walk_at "g_same")
    · rw [if_neg (by omega)] at k'
      walk_at "go"
      exact k' _ (by walk_at "g_same")
  | tab rows =>
    obtain ⟨a, p, xs, rfl, h1, h2, h3⟩ := fld_tab p0
    obtain ⟨g1, g2⟩ := p1
    have hl : xs.length = rows.length := by rw [h3.len, List.length_map]
    obtain ⟨w, hat, hw⟩ := at_lt (xs := xs) (i := x) (by omega) (by omega)
    obtain ⟨r, q, e1, rfl, e2⟩ := row_at h3 hw
    have hr := g2 r (List.mem_of_getElem? e1)
    walk_at "go"
    rename_i z hz
    have k' : Q (.int ((((rows[x.toNat]?).getD [])[y.toNat]?).getD 0)) H := k _ (Same.refl _)
    rw [e1] at k'
    have k2 : Q (.int ((r[y.toNat]?).getD 0)) H := k'
    rw [hz] at k2
    exact k2
def sp_l_due_of (K : PySem.W.Frag) : Sp := fun vs H Q E => ∃ (v u1 u2 : V) (f s : Int) (fs : List Fld) (m1 m2 : List (List Int × Int)), vs = [v, u1, u2] ∧ (Dq H v (batD f s fs)) ∧ (BatOk f s fs) ∧ ((∀ x ∈ fs, FldSm x)) ∧ (Dq H u1 (mixD m1)) ∧ (Dq H u2 (mixD m2)) ∧ (MixG f fs.length m1) ∧ (MixG s fs.length m2) ∧ (WtSm m1) ∧ (WtSm m2) ∧ ∀ (p : Addr) (H' : Hp), (H' p = some (.tup [.int (ltop (mixTot fs m1 m2) (whole m1 * whole m2)), .int (lbot (mixTot fs m1 m2) (whole m1 * whole m2))])) → (Same H H') → Q (.ref p) H'
theorem use_l_due_of {K : PySem.W.Frag} {H : Hp} {Q : VK} {E : XK} {v u1 u2 : V} {f s : Int} {fs : List Fld} {m1 m2 : List (List Int × Int)} (p0 : Dq H v (batD f s fs)) (p1 : BatOk f s fs) (p2 : (∀ x ∈ fs, FldSm x)) (p3 : Dq H u1 (mixD m1)) (p4 : Dq H u2 (mixD m2)) (p5 : MixG f fs.length m1) (p6 : MixG s fs.length m2) (p7 : WtSm m1) (p8 : WtSm m2) (k : ∀ (p : Addr) (H' : Hp), (H' p = some (.tup [.int (ltop (mixTot fs m1 m2) (whole m1 * whole m2)), .int (lbot (mixTot fs m1 m2) (whole m1 * whole m2))])) → (Same H H') → Q (.ref p) H') : sp_l_due_of K [v, u1, u2] H Q E := ⟨v, u1, u2, f, s, fs, m1, m2, rfl, p0, p1, p2, p3, p4, p5, p6, p7, p8, k⟩
theorem len_l_due_of {K : PySem.W.Frag} (vs : List V) (H : Hp) (Q : VK) (E : XK) (h : sp_l_due_of K vs H Q E) : vs.length = ["_law_battle", "_law_one", "_law_other"].length := by
  obtain ⟨_, _, _, _, _, _, _, _, rfl, _⟩ := h
  rfl
local macro_rules | `(tactic| walk_at "g_call") => `(tactic| ((with_reducible refine' use_l_due_of ?c0 ?c1 ?c2 ?c3 ?c4 ?c5 ?c6 ?c7 ?c8 ?_); (case c0 => walk_at "g_pre"); (case c1 => walk_at "g_pre"); (case c2 => walk_at "g_pre"); (case c3 => walk_at "g_pre"); (case c4 => walk_at "g_pre"); (case c5 => walk_at "g_pre"); (case c6 => walk_at "g_pre"); (case c7 => walk_at "g_pre"); (case c8 => walk_at "g_pre"); intros))
theorem ok_l_due_of (T : Txt K mg) : FnOk P w K mg base CX0 2 T.a_l_due_of T.d_l_due_of ["_law_battle", "_law_one", "_law_other"] (sp_l_due_of K) := by
  have G_l_in_lowest := ok_l_in_lowest (P := P) (w := w) (base := base) T
  have G_l_pay := ok_l_pay (P := P) (w := w) (base := base) T
  refine T.F_l_due_of.ok sc_l_due_of len_l_due_of (fun cdv A outer s H vs Q E hr h => ?_)
  refine ⟨_, (pss_cons (ps_set (i := 3) sc_l_due_of.nd rfl (Or.inl rfl) pe_int)
      (pss_cons (ps_for PassesOwn.never rfl (pi_listK K rfl (pv 1)) (pg_tupK K rfl 2 rfl (pgs_cons (pg_name (i := 4) sc_l_due_of.nd rfl (Or.inr rfl)) (pgs_cons (pg_name (i := 5) sc_l_due_of.nd rfl (Or.inl rfl)) pgs_nil))) (pss_one (ps_for PassesOwn.never rfl (pi_listK K rfl (pv 2)) (pg_tupK K rfl 2 rfl (pgs_cons (pg_name (i := 6) sc_l_due_of.nd rfl (Or.inr rfl)) (pgs_cons (pg_name (i := 7) sc_l_due_of.nd rfl (Or.inl rfl)) pgs_nil))) (pss_cons (ps_setLc (i := 8) (own := [("_law_k", 10), ("_law_field", 11)]) rfl sc_l_due_of.nd rfl rfl (sw_true rfl rfl rfl (by decide +kernel)) (pi_enumK K rfl (by rfl) T.z_enumerate (pa_cons (pe_ix (ix_tupK K rfl) (pv 0) pe_int (fun _ _ => rfl)) pa_nil)) (blkOk_by (own := [("_law_k", 10), ("_law_field", 11)]) (N := ["_law_battle", "_law_one", "_law_other", "_law_total", "_law_plan", "_law_weight", "_law_against", "_law_often", "_law_got", "_law_whole", "_law_k", "_law_field"]) (sc := defScope s_l_due_of) (by decide +kernel)) (fun _ _ _ _ _ => (pg_tupK K rfl 2 rfl (pgs_cons (pg_name (i := 10) sc_l_due_of.nd rfl (Or.inl rfl)) (pgs_cons (pg_name (i := 11) sc_l_due_of.nd rfl (Or.inl rfl)) pgs_nil)))) (fun _ _ _ _ _ => pts_nil) (fun _ _ _ _ _ => (pe_call G_l_pay (hr.mono (by first | decide | omega)) (by rfl) T.g_l_pay T.F_l_pay.kp T.b_l_pay .nil pass0 (pa_cons (pv 11) (pa_cons (pe_ix (ix_listK K rfl) (pv 4) (pv 10) (fun _ _ => rfl)) (pa_cons (pe_ix (ix_listK K rfl) (pv 6) (pv 10) (fun _ _ => rfl)) pa_nil))))))
      (pss_one (ps_set (i := 3) sc_l_due_of.nd rfl (Or.inl rfl) (pe_op op_add (pv 3) (pe_op op_mulA (pe_op op_mulA (pv 5) (pv 7)) (pe_callB (cr_sumK K rfl rfl) (by rfl) T.z_sum (by decide +kernel) (pa_cons (pv 8) pa_nil))))))))))
      (pss_cons (ps_set (i := 9) sc_l_due_of.nd rfl (Or.inl rfl) (pe_op op_mulA (pe_callB (cr_sumK K rfl rfl) (by rfl) T.z_sum (by decide +kernel) (pa_cons (pe_lc (own := [("_law_plan", 4), ("_law_weight", 5)]) rfl sc_l_due_of.nd (pi_listK K rfl (pv 1)) (blkOk_by (own := [("_law_plan", 4), ("_law_weight", 5)]) (N := ["_law_battle", "_law_one", "_law_other", "_law_total", "_law_plan", "_law_weight", "_law_against", "_law_often", "_law_got", "_law_whole", "_law_k", "_law_field"]) (sc := defScope s_l_due_of) (by decide +kernel)) (fun _ _ _ _ _ => (pg_tupK K rfl 2 rfl (pgs_cons (pg_name (i := 4) sc_l_due_of.nd rfl (Or.inl rfl)) (pgs_cons (pg_name (i := 5) sc_l_due_of.nd rfl (Or.inl rfl)) pgs_nil)))) (fun _ _ _ _ _ => pts_nil) (fun _ _ _ _ _ => (pv 5))) pa_nil)) (pe_callB (cr_sumK K rfl rfl) (by rfl) T.z_sum (by decide +kernel) (pa_cons (pe_lc (own := [("_law_plan", 4), ("_law_often", 7)]) rfl sc_l_due_of.nd (pi_listK K rfl (pv 2)) (blkOk_by (own := [("_law_plan", 4), ("_law_often", 7)]) (N := ["_law_battle", "_law_one", "_law_other", "_law_total", "_law_plan", "_law_weight", "_law_against", "_law_often", "_law_got", "_law_whole", "_law_k", "_law_field"]) (sc := defScope s_l_due_of) (by decide +kernel)) (fun _ _ _ _ _ => (pg_tupK K rfl 2 rfl (pgs_cons (pg_name (i := 4) sc_l_due_of.nd rfl (Or.inl rfl)) (pgs_cons (pg_name (i := 7) sc_l_due_of.nd rfl (Or.inl rfl)) pgs_nil)))) (fun _ _ _ _ _ => pts_nil) (fun _ _ _ _ _ => (pv 7))) pa_nil))))
      (pss_one (ps_ret (pe_call G_l_in_lowest (hr.mono (by first | decide | omega)) (by rfl) T.g_l_in_lowest T.F_l_in_lowest.kp T.b_l_in_lowest .nil pass0 (pa_cons (pv 3) (pa_cons (pv 9) pa_nil)))))))), ?_⟩
  try dsimp only [L2.cxOf, L2.Cx.nox, L2.Cx.wish, List.map_cons, List.map_nil]
  obtain ⟨v, u1, u2, f, s, fs, m1, m2, rfl, p0, ok, b1, p3, p4, ok1, ok2, b2, b3, k⟩ := h
  obtain ⟨a, p, xs, rfl, h1, h2, h3⟩ := bat_inv p0
  have hl : xs.length = fs.length := by rw [h3.len, List.length_map]
  have hn := ok.ne
  obtain ⟨a1, xs1, rfl, q1, q2, q3⟩ := mix_inv p3
  obtain ⟨a2, xs2, rfl, r1, r2, r3⟩ := mix_inv p4
  have n1 : xs1.length ≤ 1000 := by have := b2.1; omega
  have n2 : xs2.length ≤ 1000 := by have := b3.1; omega
  refine start_to (σ := [some _, some _, some _, none, none, none, none, none, none, none, none, none]) rfl ?_
  walk_at "go"
  refine forL (xs := xs1) (fun i σ H1 => ∃ y4 y5 y6 y7 y8 : Option V, σ = [some (.ref a), some (.ref a1), some (.ref a2), some (.int (mixTot fs (m1.take i) m2)), y4, y5, y6, y7, y8, none, none, none] ∧ Same H H1) ⟨_, _, _, _, _, rfl, Same.refl _⟩ ?_ ?_ ?_
  · rintro i σ H1 _ ⟨y4, y5, y6, y7, y8, rfl, s4⟩
    exact SqL.of (s4 _ _ q1)
  · rintro σ H1 ⟨y4, y5, y6, y7, y8, rfl, s4⟩
    rw [q2, List.take_length]
    have q1' := s4 _ _ q1
    have r1' := s4 _ _ r1
    walk_at "go"
    intro D nD
    refine lcL_int (xs := xs1) (fun i => ((m1[i]?).getD ([], 0)).2) nD (by omega) (SqL.of q1') ?_ ?_
    · intro i x H2 Z Y hx hs2 hz
      obtain ⟨pw, t, p, e1, rfl, e2, e3⟩ := q3 i x hx
      have e2' := hs2 _ _ (s4 _ _ e2)
      walk_at "go"
      have := hz _ (Same.refl _)
      rw [e1] at this
      exact this
    intro H2 s5 hD
    rw [q2, rng_map _ Prod.snd m1 (fun i x e => by rw [e]; rfl)] at hD
    have r1'' := s5 _ _ r1'
    walk_at "go"
    intro D2 nD2
    refine lcL_int (xs := xs2) (fun i => ((m2[i]?).getD ([], 0)).2) nD2 (by omega) (SqL.of r1'') ?_ ?_
    · intro i x H3 Z Y hx hs3 hz
      obtain ⟨pw, t, p, e1, rfl, e2, e3⟩ := r3 i x hx
      have e2' := hs3 _ _ (s5 _ _ (s4 _ _ e2))
      walk_at "go"
      have := hz _ (Same.refl _)
      rw [e1] at this
      exact this
    intro H3 s6 hD2
    rw [r2, rng_map _ Prod.snd m2 (fun i x e => by rw [e]; rfl)] at hD2
    have w2 : whole m1 * whole m2 ≠ 0 := by
      have a1 := whole_ge ok1
      have a2 := whole_ge ok2
      intro c
      rcases Int.mul_eq_zero.mp c with c | c <;> omega
    have w3 := mul_ww b2.whole b3.whole
    have w4 : (mixTot fs m1 m2).natAbs < 2 ^ 400 ∧ (whole m1 * whole m2).natAbs < 2 ^ 400 := ⟨mixTot_sm b1 ok.ne.2 b2 b3, whole2_sm b2 b3⟩
    walk_at "go"
    rw [show (List.map Prod.snd m1).sum = whole m1 from rfl, show (List.map Prod.snd m2).sum = whole m2 from rfl]
    walk_at "go"
    exact k _ _ upd_same (by walk_at "g_same")
  · rintro i x σ H1 hx ⟨y4, y5, y6, y7, y8, rfl, s4⟩
    obtain ⟨pw, t, p', e1, rfl, e2, e3⟩ := q3 i x hx
    have e2' := s4 _ _ e2
    rw [mixTot_snoc e1]
    have pl1 := (ok1.pl pw (List.mem_of_getElem? e1)).1
    walk_at "go"
    refine forL (xs := xs2) (fun j σ H2 => ∃ y6 y7 y8 : Option V, σ = [some (.ref a), some (.ref a1), some (.ref a2), some (.int (mixTot fs (m1.take i) m2 + tot1 fs pw.1 pw.2 (m2.take j))), some (.ref p'), some (.int pw.2), y6, y7, y8, none, none, none] ∧ Same H H2) ⟨y6, y7, y8, by simp [tot1], s4⟩ ?_ ?_ ?_
    · rintro j σ H2 _ ⟨y6, y7, y8, rfl, s5⟩
      exact SqL.of (s5 _ _ r1)
    · rintro σ H2 ⟨y6, y7, y8, rfl, s5⟩
      rw [r2, List.take_length]
      walk_at "go"
      exact ⟨_, _, _, _, _, rfl, s5⟩
    · rintro j x σ H2 hx2 ⟨y6, y7, y8, rfl, s5⟩
      obtain ⟨pv, t2, p2', f1, rfl, f2, f3⟩ := r3 j x hx2
      have f2' := s5 _ _ f2
      have f3' := s5 _ _ f3
      have e3' := s5 _ _ e3
      have h1' := s5 _ _ h1
      have h2' := s5 _ _ h2
      have pl2 := (ok2.pl pv (List.mem_of_getElem? f1)).1
      rw [tot1_snoc f1, ← Int.add_assoc]
      have m1' := mul_pp (b2.abs (List.mem_of_getElem? e1)) (b3.abs (List.mem_of_getElem? f1))
      have m2' := mul_ppg (b2.abs (List.mem_of_getElem? e1)) (b3.abs (List.mem_of_getElem? f1)) (gain_sm b1 ok.ne.2 pw.1 pv.1)
      walk_at "go"
      intro D nD
      refine lcE_int (fun i => paidV (fldAt fs i) (nAt pw.1 i) (nAt pv.1 i)) nD (by omega) (SqL.of h2') ?_ ?_
      · intro i x T H3 Z Y hi hs2 hT hz
        obtain ⟨fl, g1, g2⟩ := fld_at h3 hi
        have g3 := (g2.same s5).same hs2
        have b4 := ok.at g1
        have hi' : i < fs.length := (List.getElem?_eq_some_iff.mp g1).1
        have e3'' := hs2 _ _ e3'
        have f3'' := hs2 _ _ f3'
        have z1 := plan_le pl1 i
        have z2 := plan_le pl2 i
        have z3 := pl1.1
        have z4 := pl2.1
        have e5 : fldAt fs i = fl := by
          unfold fldAt
          rw [show ((i : Int)).toNat = i by omega, g1]
          rfl
        rw [e5] at hz
        clear h1 h2 e3 f3 e2 f2 e2' f2' e3' f3' h1' h2'
        walk_at "goO"
        rename_i u1 hu1 u2 hu2
        have e4 : nAt pw.1 i = u1 := by
          unfold nAt
          rw [show ((i : Int)).toNat = ((i : Nat) : Int).toNat from rfl, hu1]
          rfl
        have e6 : nAt pv.1 i = u2 := by
          unfold nAt
          rw [hu2]
          rfl
        rw [e4] at z1 hz
        rw [e6] at z2 hz
        have b6 : 0 ≤ u1 ∧ u1 ≤ f ∧ 0 ≤ u2 ∧ u2 ≤ s := by omega
        have g4 : Dq (upd H3 T (.tup [.int (i : Nat), x])) x (fldD fl) := g3.same (Same.new hT)
        walk_at "goO"
        exact hz _ (by walk_at "g_same")
      · intro H3 hs2 hD
        rw [hl] at hD
        walk_at "go"
        exact ⟨_, _, _, rfl, s5.trans hs2⟩

def sp_l_drawn_plan (K : PySem.W.Frag) : Sp := fun vs H Q E => ∃ (a : Addr) (m c h f : Int), vs = [.ref a, .int h, .int f] ∧ (Pk a m H c) ∧ (c ≤ 90000) ∧ (0 ≤ h ∧ h ≤ 40 ∧ 1 ≤ f ∧ f ≤ 8) ∧ ∀ (b : Addr) (ps : List Int) (H' : Hp), (H' b = some (.lst (ps.map V.int))) → (Pk a m H' (c + 100)) → (But a H H') → (H b = none) → (PlanC h f.toNat ps) → Q (.ref b) H'
theorem use_l_drawn_plan {K : PySem.W.Frag} {H : Hp} {Q : VK} {E : XK} {a : Addr} {m c h f : Int} (p0 : Pk a m H c) (p1 : c ≤ 90000) (p2 : 0 ≤ h ∧ h ≤ 40 ∧ 1 ≤ f ∧ f ≤ 8) (k : ∀ (b : Addr) (ps : List Int) (H' : Hp), (H' b = some (.lst (ps.map V.int))) → (Pk a m H' (c + 100)) → (But a H H') → (H b = none) → (PlanC h f.toNat ps) → Q (.ref b) H') : sp_l_drawn_plan K [.ref a, .int h, .int f] H Q E := ⟨a, m, c, h, f, rfl, p0, p1, p2, k⟩
theorem len_l_drawn_plan {K : PySem.W.Frag} (vs : List V) (H : Hp) (Q : VK) (E : XK) (h : sp_l_drawn_plan K vs H Q E) : vs.length = ["_law_left", "_law_hosts", "_law_many"].length := by
  obtain ⟨_, _, _, _, _, rfl, _⟩ := h
  rfl
local macro_rules | `(tactic| walk_at "g_call") => `(tactic| ((with_reducible refine' use_l_drawn_plan ?c0 ?c1 ?c2 ?_); (case c0 => walk_at "g_pre"); (case c1 => walk_at "g_pre"); (case c2 => walk_at "g_pre"); intros))
theorem ok_l_drawn_plan (T : Txt K mg) : FnOk P w K mg base CX0 3 T.a_l_drawn_plan T.d_l_drawn_plan ["_law_left", "_law_hosts", "_law_many"] (sp_l_drawn_plan K) := by
  have G_l_draw := ok_l_draw (P := P) (w := w) (base := base) T
  refine T.F_l_drawn_plan.ok sc_l_drawn_plan len_l_drawn_plan (fun cdv A outer s H vs Q E hr h => ?_)
  refine ⟨_, (pss_cons (ps_set (i := 3) sc_l_drawn_plan.nd rfl (Or.inl rfl) (pe_lst pa_nil))
      (pss_cons (ps_set (i := 4) sc_l_drawn_plan.nd rfl (Or.inl rfl) (pv 1))
      (pss_cons (ps_for PassesOwn.never rfl (pi_range1 rfl T.z_range (pa_cons (pe_op op_sub (pv 2) pe_int) pa_nil)) (pg_name (i := 5) sc_l_drawn_plan.nd rfl (Or.inl rfl)) (pss_cons (ps_set (i := 6) sc_l_drawn_plan.nd rfl (Or.inl rfl) (pe_ix (ix_listK K rfl) (pe_lst (pa_cons (pe_call G_l_draw (hr.mono (by first | decide | omega)) (by rfl) T.g_l_draw T.F_l_draw.kp T.b_l_draw .nil pass0 (pa_cons (pv 0) (pa_cons (pe_op op_add (pv 4) pe_int) pa_nil))) (pa_cons pe_int (pa_cons (pv 4) pa_nil)))) (pe_op op_fdiv (pe_call G_l_draw (hr.mono (by first | decide | omega)) (by rfl) T.g_l_draw T.F_l_draw.kp T.b_l_draw .nil pass0 (pa_cons (pv 0) (pa_cons pe_int pa_nil))) pe_int) (fun _ _ => rfl)))
      (pss_cons (ps_expr (pe_bm PySem.F.plainAttrs_list PySem.F.slot_list_append PySem.F.type_list_append mt_append (pv 3) (pa_cons (pv 6) pa_nil)))
      (pss_one (ps_set (i := 4) sc_l_drawn_plan.nd rfl (Or.inl rfl) (pe_op op_sub (pv 4) (pv 6)))))))
      (pss_one (ps_ret (pe_op op_cat (pv 3) (pe_lst (pa_cons (pv 4) pa_nil)))))))), ?_⟩
  try dsimp only [L2.cxOf, L2.Cx.nox, L2.Cx.wish, List.map_cons, List.map_nil]
  obtain ⟨a, m, c, h, f, rfl, p0, p1, p2, k⟩ := h
  refine start_to (σ := [some _, some _, some _, none, none, none, none]) rfl ?_
  walk_at "go"
  rename_i b nb
  have hb : b ≠ a := by walk_at "g_ne"
  refine forR (fun i σ H1 => ∃ (ps : List Int) (left : Int) (y1 y2 : Option V), σ = [some (.ref a), some (.int h), some (.int f), some (.ref b), some (.int left), y1, y2] ∧ H1 b = some (.lst (ps.map V.int)) ∧ Pk a m H1 (c + 8 * (i : Int)) ∧ But a H H1 ∧ (0 ≤ left ∧ left ≤ h) ∧ ps.length = i ∧ (∀ x ∈ ps, 0 ≤ x) ∧ ps.sum + left = h) ⟨[], _, _, _, rfl, upd_same, Pk.mono (by walk_at "g_pk") (by omega), by walk_at "g_but", by omega, rfl, nofun, by simp⟩ ?_ ?_
  · rintro σ1 H1 ⟨ps, left, y1, y2, rfl, h1, h2, h3, h7, h8, h9, h10⟩
    walk_at "go"
    rename_i r1 n1 r2 n2
    refine k _ (ps ++ [left]) _ upd_same (Pk.mono (by walk_at "g_pk") (by omega)) (by walk_at "g_but") (Pk.free (a := a) n2 (by walk_at "g_but") (by walk_at "g_pk")) ⟨by rw [List.length_append]; simp; omega, by rw [List.sum_append, List.sum_cons, List.sum_nil]; omega, ?_⟩
    intro x hx
    rcases List.mem_append.mp hx with g | g
    · exact h9 x g
    · rw [List.mem_singleton.mp g]; omega
  · rintro i σ1 H1 hi ⟨ps, left, y1, y2, rfl, h1, h2, h3, h7, h8, h9, h10⟩
    walk_at "go"
    rename_i d1 H2 a1 a2 a3 r1 a11 d2 H3 a4 a5 a6 v a17
    have hv : 0 ≤ v ∧ v ≤ left := by omega
    have e3 : H3 b = some (.lst (ps.map V.int)) := by walk_at "g_lk"
    refine ⟨ps ++ [v], left - v, _, _, rfl, upd_same, ((a5.upd hb).mono (by omega)), by walk_at "g_but", by omega, by rw [List.length_append, h8]; rfl, ?_, by rw [List.sum_append, List.sum_cons, List.sum_nil]; omega⟩
    intro x hx
    rcases List.mem_append.mp hx with g | g
    · exact h9 x g
    · rw [List.mem_singleton.mp g]; omega

def sp_l_drawn_mix (K : PySem.W.Frag) : Sp := fun vs H Q E => ∃ (a : Addr) (m c h f b : Int), vs = [.ref a, .int h, .int f, .int b] ∧ (Pk a m H c) ∧ (c ≤ 70000) ∧ (0 ≤ h ∧ h ≤ 40 ∧ 1 ≤ f ∧ f ≤ 8) ∧ (1 ≤ b ∧ b ≤ 10) ∧ ∀ (v : V) (mx : List (List Int × Int)) (G : Hp) (H' : Hp), (Dq G v (mixD mx)) → (MixOk h f.toNat mx) → (WtOk mx) → (Newly H G) → (Same G H') → (Pk a m H' (c + 2000)) → (But a H H') → Q (v) H'
theorem use_l_drawn_mix {K : PySem.W.Frag} {H : Hp} {Q : VK} {E : XK} {a : Addr} {m c h f b : Int} (p0 : Pk a m H c) (p1 : c ≤ 70000) (p2 : 0 ≤ h ∧ h ≤ 40 ∧ 1 ≤ f ∧ f ≤ 8) (p3 : 1 ≤ b ∧ b ≤ 10) (k : ∀ (v : V) (mx : List (List Int × Int)) (G : Hp) (H' : Hp), (Dq G v (mixD mx)) → (MixOk h f.toNat mx) → (WtOk mx) → (Newly H G) → (Same G H') → (Pk a m H' (c + 2000)) → (But a H H') → Q (v) H') : sp_l_drawn_mix K [.ref a, .int h, .int f, .int b] H Q E := ⟨a, m, c, h, f, b, rfl, p0, p1, p2, p3, k⟩
theorem len_l_drawn_mix {K : PySem.W.Frag} (vs : List V) (H : Hp) (Q : VK) (E : XK) (h : sp_l_drawn_mix K vs H Q E) : vs.length = ["_law_left", "_law_hosts", "_law_many", "_law_most"].length := by
  obtain ⟨_, _, _, _, _, _, rfl, _⟩ := h
  rfl
local macro_rules | `(tactic| walk_at "g_call") => `(tactic| ((with_reducible refine' use_l_drawn_mix ?c0 ?c1 ?c2 ?c3 ?_); (case c0 => walk_at "g_pre"); (case c1 => walk_at "g_pre"); (case c2 => walk_at "g_pre"); (case c3 => walk_at "g_pre"); intros))
theorem ok_l_drawn_mix (T : Txt K mg) : FnOk P w K mg base CX0 4 T.a_l_drawn_mix T.d_l_drawn_mix ["_law_left", "_law_hosts", "_law_many", "_law_most"] (sp_l_drawn_mix K) := by
  have G_l_draw := ok_l_draw (P := P) (w := w) (base := base) T
  have G_l_drawn_plan := ok_l_drawn_plan (P := P) (w := w) (base := base) T
  refine T.F_l_drawn_mix.ok sc_l_drawn_mix len_l_drawn_mix (fun cdv A outer s H vs Q E hr h => ?_)
  refine ⟨_, (pss_cons (ps_set (i := 4) sc_l_drawn_mix.nd rfl (Or.inl rfl) (pe_lst pa_nil))
      (pss_cons (ps_for PassesOwn.never rfl (pi_range1 rfl T.z_range (pa_cons (pe_op op_add pe_int (pe_call G_l_draw (hr.mono (by first | decide | omega)) (by rfl) T.g_l_draw T.F_l_draw.kp T.b_l_draw .nil pass0 (pa_cons (pv 0) (pa_cons (pv 3) pa_nil)))) pa_nil)) (pg_name (i := 5) sc_l_drawn_mix.nd rfl (Or.inl rfl)) (pss_cons (ps_set (i := 6) sc_l_drawn_mix.nd rfl (Or.inl rfl) (pe_ix (ix_listK K rfl) (pe_lst (pa_cons pe_int (pa_cons (pe_op op_add pe_int (pe_call G_l_draw (hr.mono (by first | decide | omega)) (by rfl) T.g_l_draw T.F_l_draw.kp T.b_l_draw .nil pass0 (pa_cons (pv 0) (pa_cons pe_int pa_nil)))) (pa_cons (pe_op op_add pe_int (pe_call G_l_draw (hr.mono (by first | decide | omega)) (by rfl) T.g_l_draw T.F_l_draw.kp T.b_l_draw .nil pass0 (pa_cons (pv 0) (pa_cons (pe_op op_pow pe_int pe_int) pa_nil)))) pa_nil)))) (pe_op op_fdiv (pe_call G_l_draw (hr.mono (by first | decide | omega)) (by rfl) T.g_l_draw T.F_l_draw.kp T.b_l_draw .nil pass0 (pa_cons (pv 0) (pa_cons pe_int pa_nil))) pe_int) (fun _ _ => rfl)))
      (pss_one (ps_expr (pe_bm PySem.F.plainAttrs_list PySem.F.slot_list_append PySem.F.type_list_append mt_append (pv 4) (pa_cons (pe_tup (pa_cons (pe_call G_l_drawn_plan (hr.mono (by first | decide | omega)) (by rfl) T.g_l_drawn_plan T.F_l_drawn_plan.kp T.b_l_drawn_plan .nil pass0 (pa_cons (pv 0) (pa_cons (pv 1) (pa_cons (pv 2) pa_nil)))) (pa_cons (pv 6) pa_nil))) pa_nil))))))
      (pss_cons (ps_if (pt_cmpR op_eq (pe_call G_l_draw (hr.mono (by first | decide | omega)) (by rfl) T.g_l_draw T.F_l_draw.kp T.b_l_draw .nil pass0 (pa_cons (pv 0) (pa_cons pe_int pa_nil))) pe_int (nomark _)) (pss_one (ps_expr (pe_bm PySem.F.plainAttrs_list PySem.F.slot_list_append PySem.F.type_list_append mt_append (pv 4) (pa_cons (pe_tup (pa_cons (pe_callTy (call_listK K rfl) (by rfl) T.z_list (by decide +kernel) (pa_cons (pe_ix (ix_tupK K rfl) (pe_ix (ix_listK K rfl) (pv 4) pe_int (fun _ _ => rfl)) pe_int (fun _ _ => rfl)) pa_nil)) (pa_cons (pe_op op_add pe_int (pe_call G_l_draw (hr.mono (by first | decide | omega)) (by rfl) T.g_l_draw T.F_l_draw.kp T.b_l_draw .nil pass0 (pa_cons (pv 0) (pa_cons pe_int pa_nil)))) pa_nil))) pa_nil)))) pss_nil)
      (pss_one (ps_ret (pv 4)))))), ?_⟩
  try dsimp only [L2.cxOf, L2.Cx.nox, L2.Cx.wish, List.map_cons, List.map_nil]
  obtain ⟨a, m, c, h, f, b, rfl, p0, p1, p2, p3, k⟩ := h
  refine start_to (σ := [some _, some _, some _, some _, none, none, none]) rfl ?_
  walk_at "go"
  rename_i L nL d0 H0 a1 a2 a3
  have hLa : L ≠ a := by walk_at "g_ne"
  have hL0 : H L = none := by walk_at "g_free"
  have e0 : H0 L = some (.lst []) := by walk_at "g_lk"
  refine forR (fun i σ H1 => ∃ (mx : List (List Int × Int)) (xs : List V) (y1 y2 : Option V), σ = [some (.ref a), some (.int h), some (.int f), some (.int b), some (.ref L), y1, y2] ∧ H1 L = some (.lst xs) ∧ DqAll (fr [L] H H1) xs (mx.map partD) ∧ Pk a m H1 (c + 4 + 120 * (i : Int)) ∧ mx.length = i ∧ (∀ pw ∈ mx, PlanC h f.toNat pw.1 ∧ 1 ≤ pw.2 ∧ pw.2 ≤ 10000000000000000000000000000) ∧ But a H H1) ⟨[], [], _, _, rfl, e0, .nil, a2.mono (by omega), rfl, nofun, by walk_at "g_but"⟩ ?_ ?_
  · rintro σ1 H1 ⟨mx, xs, y1, y2, rfl, h2, h3, h5, h9, h10, h11⟩
    have hl : xs.length = mx.length := by rw [h3.len, List.length_map]
    have hxs : xs.length ≤ 1000 := by omega
    obtain ⟨x0, hx0⟩ : ∃ x, xs[0]? = some x := ⟨xs[0]'(by omega), List.getElem?_eq_getElem _⟩
    obtain ⟨pw, t, p, g1, rfl, g2, g3⟩ := part_at h3 hx0
    have hat : atI xs 0 = some (.ref t) := atI_nat hx0
    have htL : t ≠ L := ne_of_none g2 (fr_in (by simp))
    have hta : t ≠ a := ne_of_none g2 (fr_newly.pk p0)
    have hpL : p ≠ L := ne_of_none g3 (fr_in (by simp))
    have hpa : p ≠ a := ne_of_none g3 (fr_newly.pk p0)
    have g2' := fr_same _ _ g2
    have g3' := fr_same _ _ g3
    have w0 : MixOk h f.toNat mx := ⟨by omega, by omega, by omega, fun pw hp => ⟨(h10 pw hp).1, (h10 pw hp).2.1⟩⟩
    have c5 : c + 4 + 120 * (((1 + d0).toNat : Nat) : Int) ≤ c + 1300 := by omega
    clear a2 a3 e0
    walk_at "go"
    rename_i d3 H3 b1 b2 b3
    refine ite_d (fun e1 => ?_) (fun e1 => ?_)
    · walk_at "go"
      rename_i l b6 d4 H4 b7 b8 b9 T b12
      have tL : T ≠ L := ne_new' b12 (show H4 L = some (.lst xs) by walk_at "g_lk")
      have lL : l ≠ L := ne_new' b6 (show H3 L = some (.lst xs) by walk_at "g_lk")
      have hT0 : H T = none := Pk.free (a := a) b12 (by walk_at "g_but") b8
      have hl0 : H l = none := Pk.free (a := a) b6 (by walk_at "g_but") b2
      refine k (.ref L) (mx ++ [(pw.1, 1 + d4)]) (fr [] H (upd (upd H4 T (.tup [.ref l, .int (1 + d4)])) L (.lst (xs ++ [.ref T])))) _ (.lst (fr_lk0 hL0 upd_same) ?_) ⟨by simp; omega, by omega, by omega, ?_⟩ ⟨by simp; omega, ?_⟩ fr_newly fr_same (Pk.mono (Pk.upd (Pk.new b8 b12) hLa) (by omega)) (by walk_at "g_but")
      · rw [List.map_append]
        have s1 : Same (fr [L] H H1) (fr [L] H (upd (upd H4 T (.tup [.ref l, .int (1 + d4)])) L (.lst (xs ++ [.ref T])))) := Same.trans (fr_butP p0 (show But a H1 (upd H4 T (.tup [.ref l, .int (1 + d4)])) by walk_at "g_but")) (fr_upd (by simp))
        exact DqAll.snoc ((h3.same s1).same fr_sub) (part_mk (fr_lk0 hT0 (by walk_at "g_lk")) (fr_lk0 hl0 (by walk_at "g_lk")))
      · intro pv hp
        rcases List.mem_append.mp hp with g | g
        · exact ⟨(h10 pv g).1, (h10 pv g).2.1⟩
        · rw [List.mem_singleton.mp g]
          exact ⟨(h10 pw (List.mem_of_getElem? g1)).1, by show 1 ≤ 1 + d4; omega⟩
      · intro pv hp
        rcases List.mem_append.mp hp with g | g
        · exact (h10 pv g).2.2
        · rw [List.mem_singleton.mp g]
          show 1 + d4 ≤ _
          omega
    · walk_at "go"
      exact k (.ref L) mx (fr [] H H3) _ (.lst (fr_lk0 hL0 (by walk_at "g_lk")) ((h3.same (fr_butP p0 b3)).same fr_sub)) w0 ⟨by omega, fun pw hp => (h10 pw hp).2.2⟩ fr_newly fr_same (b2.mono (by omega)) (by walk_at "g_but")
  · rintro i σ1 H1 hi ⟨mx, xs, y1, y2, rfl, h2, h3, h5, h9, h10, h11⟩
    have hl : xs.length = mx.length := by rw [h3.len, List.length_map]
    have hxs : xs.length ≤ 1000 := by omega
    have c5 : c + 4 + 120 * (i : Int) ≤ c + 1300 := by omega
    clear a2 a3 e0
    walk_at "go"
    rename_i d1 H2 a1 a2 a3 d2 H3 a4 a5 a6 r1 a11 d3 H4 a12 a13 a14 v a17 B ps H5 b1 b2 b3 b4 b5 T b9
    have tL : T ≠ L := ne_new' b9 (show H5 L = some (.lst xs) by walk_at "g_lk")
    have bL : B ≠ L := ne_new' b4 (show H4 L = some (.lst xs) by walk_at "g_lk")
    have hT0 : H T = none := Pk.free (a := a) b9 (by walk_at "g_but") b2
    have hB0 : H B = none := Pk.free (a := a) b4 (by walk_at "g_but") a13
    have hv : 1 ≤ v ∧ v ≤ 10000000000000000000000000000 := by omega
    refine ⟨mx ++ [(ps, v)], xs ++ [.ref T], _, _, rfl, upd_same, ?_, Pk.mono (Pk.upd (Pk.new b2 b9) hLa) (by omega), by simp [h9], ?_, by walk_at "g_but"⟩
    · rw [List.map_append]
      have s1 : Same (fr [L] H H1) (fr [L] H (upd (upd H5 T (.tup [.ref B, .int v])) L (.lst (xs ++ [.ref T])))) := Same.trans (fr_butP p0 (show But a H1 (upd H5 T (.tup [.ref B, .int v])) by walk_at "g_but")) (fr_upd (by simp))
      exact DqAll.snoc (h3.same s1) (part_mk (fr_lk1 tL hT0 (by walk_at "g_lk")) (fr_lk1 bL hB0 (by walk_at "g_lk")))
    · intro pw hp
      rcases List.mem_append.mp hp with g | g
      · exact h10 pw g
      · rw [List.mem_singleton.mp g]
        exact ⟨b5, hv⟩

def sp_l_kind_of (K : PySem.W.Frag) (e_NoBattle : Addr) (e_NoMix : Addr) : Sp := fun vs H Q E => ∃ (a dd : Addr) (y : V) (b : Bool), vs = [.ref a] ∧ ((b = true → H a = some (exHO a (.ref e_NoBattle) (some dd)))) ∧ ((b = true → H dd = some (.xd [(("field" : Str), y)]))) ∧ ((b = false → H a = some (exHO a (.ref e_NoMix) none))) ∧ ∀ (H' : Hp), (Same H H') → Q (.str (PySem.Str.ofString (if b = true then "battle" else "mix"))) H'
theorem use_l_kind_of {K : PySem.W.Frag} {e_NoBattle : Addr} {e_NoMix : Addr} {H : Hp} {Q : VK} {E : XK} {a dd : Addr} {y : V} {b : Bool} (p0 : (b = true → H a = some (exHO a (.ref e_NoBattle) (some dd)))) (p1 : (b = true → H dd = some (.xd [(("field" : Str), y)]))) (p2 : (b = false → H a = some (exHO a (.ref e_NoMix) none))) (k : ∀ (H' : Hp), (Same H H') → Q (.str (PySem.Str.ofString (if b = true then "battle" else "mix"))) H') : sp_l_kind_of K e_NoBattle e_NoMix [.ref a] H Q E := ⟨a, dd, y, b, rfl, p0, p1, p2, k⟩
theorem len_l_kind_of {K : PySem.W.Frag} {e_NoBattle : Addr} {e_NoMix : Addr} (vs : List V) (H : Hp) (Q : VK) (E : XK) (h : sp_l_kind_of K e_NoBattle e_NoMix vs H Q E) : vs.length = ["_law_caught"].length := by
  obtain ⟨_, _, _, _, rfl, _⟩ := h
  rfl
local macro_rules | `(tactic| walk_at "g_call") => `(tactic| ((with_reducible refine' use_l_kind_of ?c0 ?c1 ?c2 ?_); (case c0 => walk_at "g_pre"); (case c1 => walk_at "g_pre"); (case c2 => walk_at "g_pre"); intros))
theorem use_l_kind_b {K : PySem.W.Frag} {a dd : Addr} {y : V} {H : Hp} {Q : VK} {E : XK} {e_NoBattle e_NoMix : Addr} (p0 : H a = some (exHO a (.ref e_NoBattle) (some dd))) (p1 : H dd = some (.xd [(("field" : Str), y)])) (k : ∀ H', Same H H' → Q (.str (PySem.Str.ofString "battle")) H') : sp_l_kind_of K e_NoBattle e_NoMix [.ref a] H Q E := use_l_kind_of (b := true) (fun _ => p0) (fun _ => p1) nofun k
theorem use_l_kind_m {K : PySem.W.Frag} {a : Addr} {H : Hp} {Q : VK} {E : XK} {e_NoBattle e_NoMix : Addr} (p0 : H a = some (exHO a (.ref e_NoMix) none)) (k : ∀ H', Same H H' → Q (.str (PySem.Str.ofString "mix")) H') : sp_l_kind_of K e_NoBattle e_NoMix [.ref a] H Q E := use_l_kind_of (b := false) (dd := a) (y := .non) nofun nofun (fun _ => p0) k
local macro_rules | `(tactic| walk_at "g_call") => `(tactic| first | ((with_reducible refine' use_l_kind_b ?c0 ?c1 ?_); (case c0 => walk_at "g_lk"); (case c1 => walk_at "g_lk"); intro _ _) | ((with_reducible refine' use_l_kind_m ?c0 ?_); (case c0 => walk_at "g_lk"); intro _ _) | fail "g_kind")
theorem ok_l_kind_of (T : Txt K mg) : FnOk P w K mg base CX0 1 T.a_l_kind_of T.d_l_kind_of ["_law_caught"] (sp_l_kind_of K T.e_NoBattle T.e_NoMix) := by
  refine T.F_l_kind_of.ok sc_l_kind_of len_l_kind_of (fun cdv A outer s H vs Q E hr h => ?_)
  refine ⟨_, (pss_cons (ps_set (i := 1) sc_l_kind_of.nd rfl (Or.inl rfl) (pe_lst (pa_cons (pe_callB (call_isXK K rfl) (by rfl) T.z_isinstance (by decide +kernel) (pa_cons (pv 0) (pa_cons (pe_glob (v := .ref T.e_NoBattle) rfl T.g_NoBattle rfl) pa_nil))) (pa_cons (pe_callB (call_isXK K rfl) (by rfl) T.z_isinstance (by decide +kernel) (pa_cons (pv 0) (pa_cons (pe_glob (v := .ref T.e_NoPlan) rfl T.g_NoPlan rfl) pa_nil))) (pa_cons (pe_callB (call_isXK K rfl) (by rfl) T.z_isinstance (by decide +kernel) (pa_cons (pv 0) (pa_cons (pe_glob (v := .ref T.e_NoMix) rfl T.g_NoMix rfl) pa_nil))) pa_nil)))))
      (pss_cons (ps_set (i := 1) sc_l_kind_of.nd rfl (Or.inl rfl) (pe_op op_cat (pv 1) (pe_lst (pa_cons (pe_callB (call_isXK K rfl) (by rfl) T.z_isinstance (by decide +kernel) (pa_cons (pv 0) (pa_cons (pe_glob (v := .ref T.e_NoStream) rfl T.g_NoStream rfl) pa_nil))) (pa_cons (pe_callB (call_isXK K rfl) (by rfl) T.z_isinstance (by decide +kernel) (pa_cons (pv 0) (pa_cons (pe_glob (v := .ref T.e_NoSide) rfl T.g_NoSide rfl) pa_nil))) (pa_cons (pe_callB (call_isXK K rfl) (by rfl) T.z_isinstance (by decide +kernel) (pa_cons (pv 0) (pa_cons (pe_glob (v := .ref T.e_NoAlike) rfl T.g_NoAlike rfl) pa_nil))) pa_nil))))))
      (pss_cons (ps_set (i := 1) sc_l_kind_of.nd rfl (Or.inl rfl) (pe_op op_cat (pv 1) (pe_lst (pa_cons (pe_callB (call_isXK K rfl) (by rfl) T.z_isinstance (by decide +kernel) (pa_cons (pv 0) (pa_cons (pe_glob (v := .ref T.e_NoNumber) rfl T.g_NoNumber rfl) pa_nil))) (pa_cons (pe_callB (call_isXK K rfl) (by rfl) T.z_isinstance (by decide +kernel) (pa_cons (pv 0) (pa_cons (pe_glob (v := .ref T.e_TooGreat) rfl T.g_TooGreat rfl) pa_nil))) (pa_cons (pe_callB (call_isXK K rfl) (by rfl) T.z_isinstance (by decide +kernel) (pa_cons (pv 0) (pa_cons (pe_glob (v := .ref T.e_NoEven) rfl T.g_NoEven rfl) pa_nil))) pa_nil))))))
      (pss_cons (ps_set (i := 1) sc_l_kind_of.nd rfl (Or.inl rfl) (pe_op op_cat (pv 1) (pe_lst (pa_cons (pe_callB (call_isXK K rfl) (by rfl) T.z_isinstance (by decide +kernel) (pa_cons (pv 0) (pa_cons (pe_glob (v := .ref T.e_NoText) rfl T.g_NoText rfl) pa_nil))) (pa_cons (pe_callB (call_isXK K rfl) (by rfl) T.z_isinstance (by decide +kernel) (pa_cons (pv 0) (pa_cons (pe_glob (v := .ref T.e_NoRow) rfl T.g_NoRow rfl) pa_nil))) (pa_cons (pe_callB (call_isXK K rfl) (by rfl) T.z_isinstance (by decide +kernel) (pa_cons (pv 0) (pa_cons (pe_glob (v := .ref T.e_NoName) rfl T.g_NoName rfl) pa_nil))) pa_nil))))))
      (pss_cons (ps_set (i := 1) sc_l_kind_of.nd rfl (Or.inl rfl) (pe_op op_cat (pv 1) (pe_lst (pa_cons (pe_callB (call_isXK K rfl) (by rfl) T.z_isinstance (by decide +kernel) (pa_cons (pv 0) (pa_cons (pe_glob (v := .ref T.e_NoPlace) rfl T.g_NoPlace rfl) pa_nil))) pa_nil))))
      (pss_cons (ps_set (i := 2) sc_l_kind_of.nd rfl (Or.inl rfl) (pe_lst (pa_cons pe_str (pa_cons pe_str (pa_cons pe_str (pa_cons pe_str (pa_cons pe_str (pa_cons pe_str (pa_cons pe_str (pa_cons pe_str (pa_cons pe_str (pa_cons pe_str (pa_cons pe_str (pa_cons pe_str pa_nil))))))))))))))
      (pss_cons (ps_if (pt_cmpR op_isN (pv 0) pe_non (nomark _)) (pss_one (ps_ret pe_str)) pss_nil)
      (pss_cons (ps_if (PW.pt (pw_or (pt_not (pt_val (pe_callB (call_isXK K rfl) (by rfl) T.z_isinstance (by decide +kernel) (pa_cons (pv 0) (pa_cons (pe_glob (v := .ref T.e_HostError) rfl T.g_HostError rfl) pa_nil))))) (pw_or (pt_not (pt_val (pe_callB (call_isXK K rfl) (by rfl) T.z_isinstance (by decide +kernel) (pa_cons (pv 0) (pa_cons (pe_bltn (v := .ty "ValueError") rfl T.z_ValueError (by decide +kernel) rfl) pa_nil))))) (pw_or1 (pt_cmpR op_ne (pe_bm PySem.F.plainAttrs_list PySem.F.slot_list_count PySem.F.type_list_count (mt_lcountVK K rfl) (pv 1) (pa_cons pe_bl pa_nil)) pe_int (nomark _)))))) (pss_one (ps_ret pe_str)) pss_nil)
      (pss_one (ps_ret (pe_ix (ix_listK K rfl) (pe_op op_cat (pv 2) (pe_lst (pa_cons pe_str pa_nil))) (pe_bm PySem.F.plainAttrs_list PySem.F.slot_list_index PySem.F.type_list_index (mt_indexK K rfl) (pv 1) (pa_cons pe_bl pa_nil)) (fun _ _ => rfl)))))))))))), ?_⟩
  try dsimp only [L2.cxOf, L2.Cx.nox, L2.Cx.wish, List.map_cons, List.map_nil]
  obtain ⟨a, dd, y, b, rfl, p0, p1, p2, k⟩ := h
  refine start_to (σ := [some _, none, none]) rfl ?_
  cases b with
  | true =>
    have p0 := p0 rfl
    have p1 := p1 rfl
    clear p2
    walk_at "go"
    exact k _ (by walk_at "g_same")
  | false =>
    have p2 := p2 rfl
    clear p0 p1
    walk_at "go"
    exact k _ (by walk_at "g_same")

def sp_l_is_whole (K : PySem.W.Frag) : Sp := fun vs H Q E => ∃ (i : Int), vs = [.int i] ∧ Q (.bl true) H
theorem use_l_is_whole {K : PySem.W.Frag} {H : Hp} {Q : VK} {E : XK} {i : Int}  (k : Q (.bl true) H) : sp_l_is_whole K [.int i] H Q E := ⟨i, rfl, k⟩
theorem len_l_is_whole {K : PySem.W.Frag} (vs : List V) (H : Hp) (Q : VK) (E : XK) (h : sp_l_is_whole K vs H Q E) : vs.length = ["_law_told"].length := by
  obtain ⟨_, rfl, _⟩ := h
  rfl
local macro_rules | `(tactic| walk_at "g_call") => `(tactic| ((with_reducible refine' use_l_is_whole ?_); intros))
theorem ok_l_is_whole (T : Txt K mg) : FnOk P w K mg base CX0 1 T.a_l_is_whole T.d_l_is_whole ["_law_told"] (sp_l_is_whole K) := by
  refine T.F_l_is_whole.ok sc_l_is_whole len_l_is_whole (fun cdv A outer s H vs Q E hr h => ?_)
  refine ⟨_, (pss_one (ps_ret (pe_and (pe_callB (call_isXK K rfl) (by rfl) T.z_isinstance (by decide +kernel) (pa_cons (pv 0) (pa_cons (pe_bltn (v := .ty "int") rfl T.z_int (by decide +kernel) rfl) pa_nil))) (pe_one (pe_not (pe_callB (call_isXK K rfl) (by rfl) T.z_isinstance (by decide +kernel) (pa_cons (pv 0) (pa_cons (pe_bltn (v := .ty "bool") rfl T.z_bool (by decide +kernel) rfl) pa_nil)))))))), ?_⟩
  try dsimp only [L2.cxOf, L2.Cx.nox, L2.Cx.wish, List.map_cons, List.map_nil]
  obtain ⟨i, rfl, k⟩ := h
  refine start_to (σ := [some _]) rfl ?_
  walk_at "go"
  exact k
def sp_l_is_it (K : PySem.W.Frag) : Sp := fun vs H Q E => ∃ (a b : Addr) (x y : Int), vs = [.ref a, .ref b] ∧ (H a = some (.tup [.int x, .int y])) ∧ (H b = some (.tup [.int x, .int y])) ∧ ∀ (H' : Hp), (Same H H') → Q (.bl true) H'
theorem use_l_is_it {K : PySem.W.Frag} {H : Hp} {Q : VK} {E : XK} {a b : Addr} {x y : Int} (p0 : H a = some (.tup [.int x, .int y])) (p1 : H b = some (.tup [.int x, .int y])) (k : ∀ (H' : Hp), (Same H H') → Q (.bl true) H') : sp_l_is_it K [.ref a, .ref b] H Q E := ⟨a, b, x, y, rfl, p0, p1, k⟩
theorem len_l_is_it {K : PySem.W.Frag} (vs : List V) (H : Hp) (Q : VK) (E : XK) (h : sp_l_is_it K vs H Q E) : vs.length = ["_law_told", "_law_due"].length := by
  obtain ⟨_, _, _, _, rfl, _⟩ := h
  rfl
local macro_rules | `(tactic| walk_at "g_call") => `(tactic| ((with_reducible refine' use_l_is_it ?c0 ?c1 ?_); (case c0 => walk_at "g_pre"); (case c1 => walk_at "g_pre"); intros))
theorem ok_l_is_it (T : Txt K mg) : FnOk P w K mg base CX0 2 T.a_l_is_it T.d_l_is_it ["_law_told", "_law_due"] (sp_l_is_it K) := by
  have G_l_is_whole := ok_l_is_whole (P := P) (w := w) (base := base) T
  refine T.F_l_is_it.ok sc_l_is_it len_l_is_it (fun cdv A outer s H vs Q E hr h => ?_)
  refine ⟨_, (pss_cons (ps_if (PW.pt (pw_or (pt_not (pt_val (pe_callB (call_isXK K rfl) (by rfl) T.z_isinstance (by decide +kernel) (pa_cons (pv 0) (pa_cons (pe_bltn (v := .ty "tuple") rfl T.z_tuple (by decide +kernel) rfl) pa_nil))))) (pw_or (pt_cmpR op_ne (pe_callB (call_lenK K rfl) (by rfl) T.z_len (by decide +kernel) (pa_cons (pv 0) pa_nil)) pe_int (nomark _)) (pw_or (pt_not (pt_val (pe_call G_l_is_whole (hr.mono (by first | decide | omega)) (by rfl) T.g_l_is_whole T.F_l_is_whole.kp T.b_l_is_whole .nil pass0 (pa_cons (pe_ix (ix_tupK K rfl) (pv 0) pe_int (fun _ _ => rfl)) pa_nil)))) (pw_or1 (pt_not (pt_val (pe_call G_l_is_whole (hr.mono (by first | decide | omega)) (by rfl) T.g_l_is_whole T.F_l_is_whole.kp T.b_l_is_whole .nil pass0 (pa_cons (pe_ix (ix_tupK K rfl) (pv 0) pe_int (fun _ _ => rfl)) pa_nil))))))))) (pss_one (ps_ret pe_bl)) pss_nil)
      (pss_one (ps_ret (pe_cmpR (op_eqDK K rfl hr.units) (pv 0) (pv 1) (nomark _))))), ?_⟩
  try dsimp only [L2.cxOf, L2.Cx.nox, L2.Cx.wish, List.map_cons, List.map_nil]
  obtain ⟨a, b, x, y, rfl, p0, p1, k⟩ := h
  refine start_to (σ := [some _, some _]) rfl ?_
  walk_at "go"
  rw [show (x == x && (y == y && true)) = true by simp]
  exact k _ (by walk_at "g_same")
theorem good_bat {f s : Int} {fs : List Fld} (k : BatOk f s fs) : badB f s (fs.map fldD) = none := bad_ok.mpr k
/-- what the law catches: of a battle that is none its field, else that a mix is none -/
def CauD (b : Option Int) : PyData := match b with
  | some k => .tuple [.str (PySem.Str.ofString "battle"), .int k]
  | none => .tuple [.str (PySem.Str.ofString "mix"), .none]
def sp_l_caught_by (K : PySem.W.Frag) : Sp := fun vs H Q E => ∃ (v u1 u2 : V) (f s : Int) (ds : List PyData) (d1 d2 : PyData), vs = [v, u1, u2] ∧ (Dq H v (batT f s ds)) ∧ ((∀ d ∈ ds, FldIn d)) ∧ (ds.length ≤ 1000) ∧ (Dq H u1 d1) ∧ (Dq H u2 d2) ∧ (wid d1 ≤ 1000 ∧ wid d2 ≤ 1000) ∧ ((badB f s ds = none → MxB ds d1 d2)) ∧ (¬ (badB f s ds = none ∧ IsMixOf f ds.length d1 ∧ IsMixOf s ds.length d2)) ∧ ∀ (q : Addr) (H' : Hp), (Dq H' (.ref q) (CauD (badB f s ds))) → (Same H H') → Q (.ref q) H'
theorem use_l_caught_by {K : PySem.W.Frag} {H : Hp} {Q : VK} {E : XK} {v u1 u2 : V} {f s : Int} {ds : List PyData} {d1 d2 : PyData} (p0 : Dq H v (batT f s ds)) (p1 : (∀ d ∈ ds, FldIn d)) (p2 : ds.length ≤ 1000) (p3 : Dq H u1 d1) (p4 : Dq H u2 d2) (p5 : wid d1 ≤ 1000 ∧ wid d2 ≤ 1000) (p6 : (badB f s ds = none → MxB ds d1 d2)) (p7 : ¬ (badB f s ds = none ∧ IsMixOf f ds.length d1 ∧ IsMixOf s ds.length d2)) (k : ∀ (q : Addr) (H' : Hp), (Dq H' (.ref q) (CauD (badB f s ds))) → (Same H H') → Q (.ref q) H') : sp_l_caught_by K [v, u1, u2] H Q E := ⟨v, u1, u2, f, s, ds, d1, d2, rfl, p0, p1, p2, p3, p4, p5, p6, p7, k⟩
theorem len_l_caught_by {K : PySem.W.Frag} (vs : List V) (H : Hp) (Q : VK) (E : XK) (h : sp_l_caught_by K vs H Q E) : vs.length = ["_law_battle", "_law_one", "_law_other"].length := by
  obtain ⟨_, _, _, _, _, _, _, _, rfl, _⟩ := h
  rfl
local macro_rules | `(tactic| walk_at "g_call") => `(tactic| ((with_reducible refine' use_l_caught_by ?c0 ?c1 ?c2 ?c3 ?c4 ?c5 ?c6 ?c7 ?_); (case c0 => walk_at "g_pre"); (case c1 => walk_at "g_pre"); (case c2 => walk_at "g_pre"); (case c3 => walk_at "g_pre"); (case c4 => walk_at "g_pre"); (case c5 => walk_at "g_pre"); (case c6 => walk_at "g_pre"); (case c7 => walk_at "g_pre"); intros))
theorem ok_l_caught_by (T : Txt K mg) : FnOk P w K mg base CX0 8 T.a_l_caught_by T.d_l_caught_by ["_law_battle", "_law_one", "_law_other"] (sp_l_caught_by K) := by
  have G_mixed_gain := ok_mixed_gain (P := P) (w := w) (base := base) T
  have G_l_kind_of := ok_l_kind_of (P := P) (w := w) (base := base) T
  refine T.F_l_caught_by.ok sc_l_caught_by len_l_caught_by (fun cdv A outer s H vs Q E hr h => ?_)
  refine ⟨_, (pss_cons (ps_set (i := 3) sc_l_caught_by.nd rfl (Or.inl rfl) pe_non)
      (pss_cons (ps_try_asT (i := 4) rfl rfl rfl sc_l_caught_by.nd rfl rfl ⟨rfl, by decide, Or.inl T.g_HostError⟩ takes0 (fun W pn xe tk po => (pss_one (ps_expr (pe_callS G_mixed_gain (hr.mono (by first | decide | omega)) (by rfl) T.g_mixed_gain T.F_mixed_gain.kp T.b_mixed_gain (fun σ => passAt tk σ) (pa_cons (pv 0) (pa_cons (pv 1) (pa_cons (pv 2) pa_nil))))))) (fun a oe pn => (pss_one (ps_set (i := 3) sc_l_caught_by.nd rfl (Or.inl rfl) (pv 4)))))
      (pss_cons (ps_if (pt_cmpR op_eq (pe_call G_l_kind_of (hr.mono (by first | decide | omega)) (by rfl) T.g_l_kind_of T.F_l_kind_of.kp T.b_l_kind_of .nil pass0 (pa_cons (pv 3) pa_nil)) pe_str (nomark _)) (pss_one (ps_ret (pe_tup (pa_cons pe_str (pa_cons (pe_xfH K rfl (pv 3)) pa_nil))))) pss_nil)
      (pss_one (ps_ret (pe_tup (pa_cons (pe_call G_l_kind_of (hr.mono (by first | decide | omega)) (by rfl) T.g_l_kind_of T.F_l_kind_of.kp T.b_l_kind_of .nil pass0 (pa_cons (pv 3) pa_nil)) (pa_cons pe_non pa_nil)))))))), ?_⟩
  try dsimp only [L2.cxOf, L2.Cx.nox, L2.Cx.wish, List.map_cons, List.map_nil]
  obtain ⟨v, u1, u2, f, s, ds, d1, d2, rfl, p0, p1, p2, p3, p4, p5, p6, p7, k⟩ := h
  refine start_to (σ := [some _, some _, some _, none, none]) rfl ?_
  cases hb : badB f s ds with
  | some kb =>
    rw [hb] at k p7
    walk_at "go"
    refine ⟨fun kk d H1 e1 e2 e3 s1 => ?_, fun e1 => (by rw [hb] at e1; cases e1)⟩
    rw [hb] at e1
    cases e1
    walk_at "go"
    rename_i t nt
    exact k t _ (Dq.word upd_same) (by walk_at "g_same")
  | none =>
    rw [hb] at k
    walk_at "go"
    refine ⟨fun kk d H1 e1 e2 e3 s1 => (by rw [hb] at e1; cases e1), fun e1 H1 s1 => ?_⟩
    walk_at "go"
    rename_i t nt
    exact k t _ (.tup upd_same (.cons (.str _) (.cons .non .nil))) (by walk_at "g_same")
/-- other mixes: none of h hosts and n fields -/
def OthM (h : Int) (n : Nat) (m : List (List Int × Int)) : Prop := ¬ IsMixOf h n (mixD m) ∧ WtSm m ∧ wid (mixD m) ≤ 1000
def sp_l_other_mixes (K : PySem.W.Frag) : Sp := fun vs H Q E => ∃ (a : Addr) (m c h : Int) (n : Nat), vs = [.ref a, .int h, .int n] ∧ (Pk a m H c) ∧ (c ≤ 60000) ∧ (0 ≤ h ∧ h ≤ 10 ∧ 1 ≤ n ∧ n ≤ 5) ∧ ∀ (q : Addr) (xs : List V) (ms : List (List (List Int × Int))) (G H' : Hp), (H' q = some (.lst xs)) → (DqAll G xs (ms.map mixD)) → ((∀ m ∈ ms, OthM h n m)) → (ms.length ≤ 4) → (Newly H G) → (Same G H') → (H q = none) → (Pk a m H' (c + 9000)) → (But a H H') → Q (.ref q) H'
theorem use_l_other_mixes {K : PySem.W.Frag} {H : Hp} {Q : VK} {E : XK} {a : Addr} {m c h : Int} {n : Nat} (p0 : Pk a m H c) (p1 : c ≤ 60000) (p2 : 0 ≤ h ∧ h ≤ 10 ∧ 1 ≤ n ∧ n ≤ 5) (k : ∀ (q : Addr) (xs : List V) (ms : List (List (List Int × Int))) (G H' : Hp), (H' q = some (.lst xs)) → (DqAll G xs (ms.map mixD)) → ((∀ m ∈ ms, OthM h n m)) → (ms.length ≤ 4) → (Newly H G) → (Same G H') → (H q = none) → (Pk a m H' (c + 9000)) → (But a H H') → Q (.ref q) H') : sp_l_other_mixes K [.ref a, .int h, .int n] H Q E := ⟨a, m, c, h, n, rfl, p0, p1, p2, k⟩
theorem len_l_other_mixes {K : PySem.W.Frag} (vs : List V) (H : Hp) (Q : VK) (E : XK) (h : sp_l_other_mixes K vs H Q E) : vs.length = ["_law_left", "_law_hosts", "_law_many"].length := by
  obtain ⟨_, _, _, _, _, rfl, _⟩ := h
  rfl
local macro_rules | `(tactic| walk_at "g_call") => `(tactic| ((with_reducible refine' use_l_other_mixes ?c0 ?c1 ?c2 ?_); (case c0 => walk_at "g_pre"); (case c1 => walk_at "g_pre"); (case c2 => walk_at "g_pre"); intros))
theorem ok_l_other_mixes (T : Txt K mg) : FnOk P w K mg base CX0 5 T.a_l_other_mixes T.d_l_other_mixes ["_law_left", "_law_hosts", "_law_many"] (sp_l_other_mixes K) := by
  have G_l_drawn_mix := ok_l_drawn_mix (P := P) (w := w) (base := base) T
  have G_l_draw := ok_l_draw (P := P) (w := w) (base := base) T
  refine T.F_l_other_mixes.ok sc_l_other_mixes len_l_other_mixes (fun cdv A outer s H vs Q E hr h => ?_)
  refine ⟨_, (pss_cons (ps_set (i := 3) sc_l_other_mixes.nd rfl (Or.inl rfl) (pe_call G_l_drawn_mix (hr.mono (by first | decide | omega)) (by rfl) T.g_l_drawn_mix T.F_l_drawn_mix.kp T.b_l_drawn_mix .nil pass0 (pa_cons (pv 0) (pa_cons (pe_op op_add (pe_op op_add (pv 1) pe_int) (pe_call G_l_draw (hr.mono (by first | decide | omega)) (by rfl) T.g_l_draw T.F_l_draw.kp T.b_l_draw .nil pass0 (pa_cons (pv 0) (pa_cons pe_int pa_nil)))) (pa_cons (pv 2) (pa_cons pe_int pa_nil))))))
      (pss_cons (ps_set (i := 4) sc_l_other_mixes.nd rfl (Or.inl rfl) (pe_call G_l_drawn_mix (hr.mono (by first | decide | omega)) (by rfl) T.g_l_drawn_mix T.F_l_drawn_mix.kp T.b_l_drawn_mix .nil pass0 (pa_cons (pv 0) (pa_cons (pv 1) (pa_cons (pe_op op_add (pv 2) pe_int) (pa_cons pe_int pa_nil))))))
      (pss_cons (ps_set (i := 5) sc_l_other_mixes.nd rfl (Or.inl rfl) (pe_op op_cat (pe_call G_l_drawn_mix (hr.mono (by first | decide | omega)) (by rfl) T.g_l_drawn_mix T.F_l_drawn_mix.kp T.b_l_drawn_mix .nil pass0 (pa_cons (pv 0) (pa_cons (pv 1) (pa_cons (pv 2) (pa_cons pe_int pa_nil))))) (pe_slice (sl_listK K rfl) (pv 3) po_none (po_some pe_int))))
      (pss_one (ps_ret (pe_lst (pa_cons (pv 3) (pa_cons (pv 4) (pa_cons (pv 5) (pa_cons (pe_revLK K rfl (pv 5)) pa_nil)))))))))), ?_⟩
  try dsimp only [L2.cxOf, L2.Cx.nox, L2.Cx.wish, List.map_cons, List.map_nil]
  obtain ⟨a, m, c, h, n, rfl, p0, p1, p2, k⟩ := h
  refine start_to (σ := [some _, some _, some _, none, none, none]) rfl ?_
  walk_at "go"
  rename_i d0 H0 x1 x2 x3 v1 mx1 G1 H1 a1 a2 a3 a4 a5 a6 a7 v2 mx2 G2 H2 b1 b2 b3 b4 b5 b6 b7 v3 mx3 G3 H3 c1 c2 c3 c4 c5 c6 c7
  have nG1 : G1 a = none := a4.pk x2
  have nG2 : G2 a = none := b4.pk a6
  have nG3 : G3 a = none := c4.pk b6
  have N1 : Newly H G1 := a4.backB x3 nG1
  have N2 : Newly H G2 := b4.backB (x3.trans a7) nG2
  have N3 : Newly H G3 := c4.backB ((x3.trans a7).trans b7) nG3
  have S1 : Same G1 H3 := ((a5.but b7 nG1).but c7 nG1)
  have S2 : Same G2 H3 := b5.but c7 nG2
  have B3 : But a H H3 := ((x3.trans a7).trans b7).trans c7
  clear x2 x3 a4 a5 a6 a7 b4 b5 b6 b7 c4 c7
  obtain ⟨p1, xs1, rfl, q1, q2⟩ := a1.list_inv
  obtain ⟨p3, xs3, rfl, r1, r2⟩ := c1.list_inv
  have q1' := S1 _ _ q1
  have r1' := c5 _ _ r1
  have l1 : xs1.length = mx1.length := by rw [q2.len, List.length_map]
  have l3 : xs3.length = mx3.length := by rw [r2.len, List.length_map]
  have le1 := a3.1
  have le3 := c3.1
  have lx1 : xs1.length ≤ 1000 := by omega
  have lx3 : xs3.length ≤ 1000 := by omega
  walk_at "go"
  rename_i t1 n1 t2 n2 t3 n3 t4 n4
  have f4 : H t4 = none := Pk.free (a := a) n4 (by walk_at "g_but") (by walk_at "g_pk")
  have f3 : H t3 = none := Pk.free (a := a) n3 (by walk_at "g_but") (by walk_at "g_pk")
  have f2 : H t2 = none := Pk.free (a := a) n2 (by walk_at "g_but") (by walk_at "g_pk")
  have pk4 : Pk a m (upd (upd (upd (upd H3 t1 (.lst (List.take (Int.toNat 1) xs1))) t2 (.lst (xs3 ++ List.take (Int.toNat 1) xs1))) t3 (.lst (xs3 ++ List.take (Int.toNat 1) xs1).reverse)) t4 (.lst [.ref p1, v2, .ref t2, .ref t3])) (c + 9000) := Pk.mono (by walk_at "g_pk") (by omega)
  have B4 : But a H (upd (upd (upd (upd H3 t1 (.lst (List.take (Int.toNat 1) xs1))) t2 (.lst (xs3 ++ List.take (Int.toNat 1) xs1))) t3 (.lst (xs3 ++ List.take (Int.toNat 1) xs1).reverse)) t4 (.lst [.ref p1, v2, .ref t2, .ref t3])) := by walk_at "g_but"
  have S3 : Same H3 (upd (upd (upd (upd H3 t1 (.lst (List.take (Int.toNat 1) xs1))) t2 (.lst (xs3 ++ List.take (Int.toNat 1) xs1))) t3 (.lst (xs3 ++ List.take (Int.toNat 1) xs1).reverse)) t4 (.lst [.ref p1, v2, .ref t2, .ref t3])) := by walk_at "g_same"
  have j2 : (upd (upd (upd (upd H3 t1 (.lst (List.take (Int.toNat 1) xs1))) t2 (.lst (xs3 ++ List.take (Int.toNat 1) xs1))) t3 (.lst (xs3 ++ List.take (Int.toNat 1) xs1).reverse)) t4 (.lst [.ref p1, v2, .ref t2, .ref t3])) t2 = some (.lst (xs3 ++ List.take (Int.toNat 1) xs1)) := by walk_at "g_lk"
  have j3 : (upd (upd (upd (upd H3 t1 (.lst (List.take (Int.toNat 1) xs1))) t2 (.lst (xs3 ++ List.take (Int.toNat 1) xs1))) t3 (.lst (xs3 ++ List.take (Int.toNat 1) xs1).reverse)) t4 (.lst [.ref p1, v2, .ref t2, .ref t3])) t3 = some (.lst (xs3 ++ List.take (Int.toNat 1) xs1).reverse) := by walk_at "g_lk"
  have j4 : (upd (upd (upd (upd H3 t1 (.lst (List.take (Int.toNat 1) xs1))) t2 (.lst (xs3 ++ List.take (Int.toNat 1) xs1))) t3 (.lst (xs3 ++ List.take (Int.toNat 1) xs1).reverse)) t4 (.lst [.ref p1, v2, .ref t2, .ref t3])) t4 = some (.lst [.ref p1, v2, .ref t2, .ref t3]) := upd_same
  generalize (upd (upd (upd (upd H3 t1 (.lst (List.take (Int.toNat 1) xs1))) t2 (.lst (xs3 ++ List.take (Int.toNat 1) xs1))) t3 (.lst (xs3 ++ List.take (Int.toNat 1) xs1).reverse)) t4 (.lst [.ref p1, v2, .ref t2, .ref t3])) = HF at *
  have Z1 : Same G1 (fr [] H HF) := N1.same (S1.trans S3)
  have Z2 : Same G2 (fr [] H HF) := N2.same (S2.trans S3)
  have Z3 : Same G3 (fr [] H HF) := N3.same (c5.trans S3)
  have dd : DqAll (fr [] H HF) (xs3 ++ List.take (Int.toNat 1) xs1) ((mx3 ++ mx1.take 1).map partD) := by
    rw [List.map_append, List.map_take]
    exact DqAll.append (r2.same Z3) ((q2.same Z1).take 1)
  have hn : ((n : Int) + 1).toNat = n + 1 := by omega
  have hn' : (n : Int).toNat = n := by omega
  rw [hn'] at a2 c2
  rw [hn] at b2
  obtain ⟨pw0, e0⟩ : ∃ pw, mx1[0]? = some pw := ⟨mx1[0]'(by have := a2.ne; omega), List.getElem?_eq_getElem _⟩
  have m0 : pw0 ∈ mx1.take 1 := by
    have : (mx1.take 1)[0]? = some pw0 := by rw [List.getElem?_take_of_lt (by omega), e0]
    exact List.mem_of_getElem? this
  have pl0 := (a2.pl pw0 (List.mem_of_getElem? e0)).1
  have w3 : WtSm (mx3 ++ mx1.take 1) := by
    have g1 := a2.sm a3
    have g3 := c2.sm c3
    refine ⟨by rw [List.length_append, List.length_take]; omega, fun pw hp => ?_⟩
    rcases List.mem_append.mp hp with z | z
    · exact g3.2 pw z
    · exact g1.2 pw (List.mem_of_mem_take z)
  have wd3 : ∀ pw ∈ mx3 ++ mx1.take 1, pw.1.length ≤ 1000 := fun pw hp => by
    rcases List.mem_append.mp hp with z | z
    · have := (c2.pl pw z).1.1
      omega
    · have := (a2.pl pw (List.mem_of_mem_take z)).1.1
      omega
  have nb : ∀ mm : List (List Int × Int), pw0 ∈ mm → ¬ IsMixOf h n (mixD mm) := fun mm hm ⟨m', e, ok⟩ => by
    rw [mixD_inj e] at hm
    have := (ok.pl pw0 hm).1.2.1
    have := pl0.2.1
    omega
  refine k t4 _ [mx1, mx2, mx3 ++ mx1.take 1, (mx3 ++ mx1.take 1).reverse] (fr [] H HF) HF j4 (.cons (.lst (Z1 _ _ q1) (q2.same Z1)) (.cons (b1.same Z2) (.cons (.lst (fr_lk0 f2 j2) dd) (.cons (.lst (fr_lk0 f3 j3) (by rw [List.map_reverse]; exact dd.reverse)) .nil)))) ?_ (by simp) fr_newly fr_same f4 pk4 B4
  intro mm hmm
  simp only [List.mem_cons, List.not_mem_nil, or_false] at hmm
  rcases hmm with rfl | rfl | rfl | rfl
  · exact ⟨nb _ (List.mem_of_getElem? e0), a2.sm a3, a2.wid⟩
  · refine ⟨fun ⟨m', e, ok⟩ => ?_, b2.sm b3, b2.wid⟩
    rw [mixD_inj e] at b2
    have := (ok.inj b2.g).2
    omega
  · exact ⟨nb _ (List.mem_append.mpr (.inr m0)), w3, wid_mix (by have := w3.1; omega) (by omega) wd3⟩
  · exact ⟨nb _ (List.mem_reverse.mpr (List.mem_append.mpr (.inr m0))), ⟨by rw [List.length_reverse]; exact w3.1, fun pw hp => w3.2 pw (List.mem_reverse.mp hp)⟩, wid_mix (by rw [List.length_reverse]; have := w3.1; omega) (by omega) fun pw hp => wd3 pw (List.mem_reverse.mp hp)⟩

def sp_l_copied (K : PySem.W.Frag) : Sp := fun vs H Q E => ∃ (v : V) (f s : Int) (ds : List PyData) (S : List Addr), vs = [v] ∧ (Dq (hid S H) v (batT f s ds)) ∧ ((∀ b ∈ S, ∃ o, H b = some o)) ∧ ((∀ d ∈ ds, CpOk d)) ∧ (ds.length ≤ 10) ∧ ∀ (a p : Addr) (xs : List V) (H' : Hp), (H' a = some (.tup [.int f, .int s, .ref p])) → (H' p = some (.lst xs)) → (DqAll (hid (p :: S) H') xs ds) → (H p = none) → (Same H H') → Q (.ref a) H'
theorem use_l_copied {K : PySem.W.Frag} {H : Hp} {Q : VK} {E : XK} {v : V} {f s : Int} {ds : List PyData} {S : List Addr} (p0 : Dq (hid S H) v (batT f s ds)) (p1 : (∀ b ∈ S, ∃ o, H b = some o)) (p2 : (∀ d ∈ ds, CpOk d)) (p3 : ds.length ≤ 10) (k : ∀ (a p : Addr) (xs : List V) (H' : Hp), (H' a = some (.tup [.int f, .int s, .ref p])) → (H' p = some (.lst xs)) → (DqAll (hid (p :: S) H') xs ds) → (H p = none) → (Same H H') → Q (.ref a) H') : sp_l_copied K [v] H Q E := ⟨v, f, s, ds, S, rfl, p0, p1, p2, p3, k⟩
theorem len_l_copied {K : PySem.W.Frag} (vs : List V) (H : Hp) (Q : VK) (E : XK) (h : sp_l_copied K vs H Q E) : vs.length = ["_law_battle"].length := by
  obtain ⟨_, _, _, _, _, rfl, _⟩ := h
  rfl
local macro_rules | `(tactic| walk_at "g_call") => `(tactic| ((with_reducible refine' use_l_copied ?c0 ?c1 ?c2 ?c3 ?_); (case c0 => walk_at "g_pre"); (case c1 => walk_at "g_pre"); (case c2 => walk_at "g_pre"); (case c3 => walk_at "g_pre"); intros))
theorem ok_l_copied (T : Txt K mg) : FnOk P w K mg base CX0 1 T.a_l_copied T.d_l_copied ["_law_battle"] (sp_l_copied K) := by
  refine T.F_l_copied.ok sc_l_copied len_l_copied (fun cdv A outer s H vs Q E hr h => ?_)
  refine ⟨_, (pss_cons (ps_asg (pv 0) (pg_tupK K rfl 3 rfl (pgs_cons (pg_name (i := 1) sc_l_copied.nd rfl (Or.inl rfl)) (pgs_cons (pg_name (i := 2) sc_l_copied.nd rfl (Or.inl rfl)) (pgs_cons (pg_name (i := 3) sc_l_copied.nd rfl (Or.inl rfl)) pgs_nil)))))
      (pss_cons (ps_set (i := 4) sc_l_copied.nd rfl (Or.inl rfl) (pe_lst pa_nil))
      (pss_cons (ps_for PassesOwn.never rfl (pi_listK K rfl (pv 3)) (pg_name (i := 5) sc_l_copied.nd rfl (Or.inl rfl)) (pss_one (ps_if (pt_cmpR op_eq (pe_ix (ix_tupK K rfl) (pv 5) pe_int (fun _ _ => rfl)) pe_str (nomark _)) (pss_one (ps_expr (pe_bm PySem.F.plainAttrs_list PySem.F.slot_list_append PySem.F.type_list_append mt_append (pv 4) (pa_cons (pe_tup (pa_cons pe_str (pa_cons (pe_lc (own := [("_law_row", 6)]) rfl sc_l_copied.nd (pi_listK K rfl (pe_ix (ix_tupK K rfl) (pv 5) pe_int (fun _ _ => rfl))) (blkOk_by (own := [("_law_row", 6)]) (N := ["_law_battle", "_law_first", "_law_second", "_law_fields", "_law_found", "_law_field", "_law_row"]) (sc := defScope s_l_copied) (by decide +kernel)) (fun _ _ _ _ _ => (pg_name (i := 6) sc_l_copied.nd rfl (Or.inl rfl))) (fun _ _ _ _ _ => pts_nil) (fun _ _ _ _ _ => (pe_callTy (call_listK K rfl) (by rfl) T.z_list (by decide +kernel) (pa_cons (pv 6) pa_nil)))) pa_nil))) pa_nil)))) (pss_one (ps_expr (pe_bm PySem.F.plainAttrs_list PySem.F.slot_list_append PySem.F.type_list_append mt_append (pv 4) (pa_cons (pv 5) pa_nil)))))))
      (pss_one (ps_ret (pe_tup (pa_cons (pv 1) (pa_cons (pv 2) (pa_cons (pv 4) pa_nil))))))))), ?_⟩
  try dsimp only [L2.cxOf, L2.Cx.nox, L2.Cx.wish, List.map_cons, List.map_nil]
  obtain ⟨v, f, s, ds, S, rfl, p0, pS, p1, p2, k⟩ := h
  obtain ⟨a, p, xs, rfl, g1, g2, h3⟩ := batT_inv p0
  have h1 := hid_same _ _ g1
  have h2 := hid_same _ _ g2
  clear g1 g2
  have hl := h3.len
  refine start_to (σ := [some _, none, none, none, none, none, none]) rfl ?_
  walk_at "go"
  rename_i R nR
  refine forL (xs := xs) (fun i σ H1 => ∃ (ys : List V) (y5 y6 : Option V), σ = [some (.ref a), some (.int f), some (.int s), some (.ref p), some (.ref R), y5, y6] ∧ H1 R = some (.lst ys) ∧ Same H H1 ∧ DqAll (hid (R :: S) H1) ys (ds.take i) ∧ ys.length = i) ⟨[], _, _, rfl, upd_same, by walk_at "g_same", .nil, rfl⟩ ?_ ?_ ?_
  · rintro i σ H1 _ ⟨ys, y5, y6, rfl, g1, g2, _⟩
    exact SqL.of (g2 _ _ h2)
  · rintro σ H1 ⟨ys, y5, y6, rfl, g1, g2, g3, g4⟩
    rw [hl, List.take_length] at g3
    walk_at "go"
    rename_i q nq
    have hRq : R ≠ q := ne_of_none g1 nq
    exact k q R ys _ upd_same (by walk_at "g_lk") (g3.same (hid_mono (Same.new nq))) nR (by walk_at "g_same")
  · rintro i x σ H1 hx ⟨ys, y5, y6, rfl, g1, g2, g3, g4⟩
    obtain ⟨d, e1, e2⟩ := h3.get' hx
    have hi := (List.getElem?_eq_some_iff.mp hx).1
    have sR : Same (hid S H) (hid (R :: S) H1) := hid_more g2 nR
    rcases p1 d (List.mem_of_getElem? e1) with ⟨w, ms, rfl, c1, c2, c3⟩ | ⟨rows, rfl, c1, c2⟩
    · obtain ⟨b, zs, rfl, h4, h5⟩ := fldT_inv (e2.same (hid_same.trans g2))
      walk_at "go"
      refine ite_n (by simp [c1]) ?_
      walk_at "go"
      refine ⟨ys ++ [.ref b], _, _, rfl, upd_same, Same.mut g2 nR, ?_, by rw [List.length_append, g4]; rfl⟩
      rw [take_snoc e1]
      exact DqAll.snoc (g3.same (hid_upd (by simp))) (e2.same (sR.trans (hid_upd (by simp))))
    · obtain ⟨b, q, zs, rfl, h4, h5, h6⟩ := fld_tab (e2.same (hid_same.trans g2))
      have hz : zs.length ≤ 20 := by rw [h6.len, List.length_map]; exact c1
      walk_at "go"
      intro D nD
      have hDR : D ≠ R := by walk_at "g_ne"
      refine lcL_new (xs := zs) (fun i => planD ((rows[i]?).getD [])) nD (by omega) (SqL.of h5) ?_ ?_
      · intro j x H2 Z Y hx2 hs hz2
        obtain ⟨r, q', f1, rfl, f2⟩ := row_at h6 hx2
        have f2' := hs _ _ f2
        walk_at "go"
        rename_i l nl
        refine hz2 (.ref l) (fr [] H2 (upd H2 l (.lst (r.map V.int)))) _ ?_ fr_newly fr_same (by walk_at "g_same")
        rw [f1]
        exact row_mk (fr_lk0 nl upd_same)
      · intro G H2 q1 q2 q3 q4
        rw [show zs.length = rows.length by rw [h6.len, List.length_map], rng_map _ planD rows (fun i x e => by rw [e]; rfl)] at q1
        have gR : G R = none := q2.free g1
        walk_at "go"
        rename_i t nt
        have hRt : R ≠ t := by walk_at "g_ne"
        refine ⟨ys ++ [.ref t], _, _, rfl, upd_same, by walk_at "g_same", ?_, by rw [List.length_append, g4]; rfl⟩
        rw [take_snoc e1]
        refine DqAll.snoc ((g3.same (hid_mono (q4.trans (Same.new nt)))).same (hid_upd (by simp))) ?_
        have s1 : Same G (hid (R :: S) (upd H2 t (.tup [.str (PySem.Str.ofString "table"), .ref D]))) := same_hidS (Same.newT' nt q3) fun b hb => by
          rcases List.mem_cons.mp hb with e | e
          · rw [e]; exact gR
          · obtain ⟨o, ho⟩ := pS b e
            exact q2.free (g2 _ _ ho)
        have tS : t ∉ R :: S := fun hb => by
          rcases List.mem_cons.mp hb with e | e
          · exact hRt e.symm
          · obtain ⟨o, ho⟩ := pS t e
            have := q4 _ _ (g2 _ _ ho)
            rw [nt] at this
            cases this
        exact (tab_mk' (hid_lk tS upd_same) (q1.same s1)).same (hid_upd (by simp))

def sp_l_bad_field (K : PySem.W.Frag) : Sp := fun vs H Q E => ∃ (a : Addr) (m c : Int) (v : V) (fl : Fld) (f s : Int), vs = [.ref a, v, .int f, .int s] ∧ (Pk a m H c) ∧ (c ≤ 80000) ∧ (Dq (hid [a] H) v (fldD fl)) ∧ (FldOk f s fl ∧ FldSm fl) ∧ (0 ≤ f ∧ f ≤ 10 ∧ 0 ≤ s ∧ s ≤ 10) ∧ ∀ (w : V) (d : PyData) (G H' : Hp), (Dq G w d) → (Newly H G) → (Same G H') → (isFldT f s d = false) → (CpOk d) → (Pk a m H' (c + 100)) → (But a H H') → Q (w) H'
theorem use_l_bad_field {K : PySem.W.Frag} {H : Hp} {Q : VK} {E : XK} {a : Addr} {m c : Int} {v : V} {fl : Fld} {f s : Int} (p0 : Pk a m H c) (p1 : c ≤ 80000) (p2 : Dq (hid [a] H) v (fldD fl)) (p3 : FldOk f s fl ∧ FldSm fl) (p4 : 0 ≤ f ∧ f ≤ 10 ∧ 0 ≤ s ∧ s ≤ 10) (k : ∀ (w : V) (d : PyData) (G H' : Hp), (Dq G w d) → (Newly H G) → (Same G H') → (isFldT f s d = false) → (CpOk d) → (Pk a m H' (c + 100)) → (But a H H') → Q (w) H') : sp_l_bad_field K [.ref a, v, .int f, .int s] H Q E := ⟨a, m, c, v, fl, f, s, rfl, p0, p1, p2, p3, p4, k⟩
theorem len_l_bad_field {K : PySem.W.Frag} (vs : List V) (H : Hp) (Q : VK) (E : XK) (h : sp_l_bad_field K vs H Q E) : vs.length = ["_law_left", "_law_field", "_law_first", "_law_second"].length := by
  obtain ⟨_, _, _, _, _, _, _, rfl, _⟩ := h
  rfl
local macro_rules | `(tactic| walk_at "g_call") => `(tactic| ((with_reducible refine' use_l_bad_field ?c0 ?c1 ?c2 ?c3 ?c4 ?_); (case c0 => walk_at "g_pre"); (case c1 => walk_at "g_pre"); (case c2 => walk_at "g_pre"); (case c3 => walk_at "g_pre"); (case c4 => walk_at "g_pre"); intros))
theorem ok_l_bad_field (T : Txt K mg) : FnOk P w K mg base CX0 3 T.a_l_bad_field T.d_l_bad_field ["_law_left", "_law_field", "_law_first", "_law_second"] (sp_l_bad_field K) := by
  have G_l_draw := ok_l_draw (P := P) (w := w) (base := base) T
  refine T.F_l_bad_field.ok sc_l_bad_field len_l_bad_field (fun cdv A outer s H vs Q E hr h => ?_)
  refine ⟨_, (pss_cons (ps_set (i := 4) sc_l_bad_field.nd rfl (Or.inl rfl) (pe_call G_l_draw (hr.mono (by first | decide | omega)) (by rfl) T.g_l_draw T.F_l_draw.kp T.b_l_draw .nil pass0 (pa_cons (pv 0) (pa_cons pe_int pa_nil))))
      (pss_cons (ps_set (i := 5) sc_l_bad_field.nd rfl (Or.inl rfl) (pe_call G_l_draw (hr.mono (by first | decide | omega)) (by rfl) T.g_l_draw T.F_l_draw.kp T.b_l_draw .nil pass0 (pa_cons (pv 0) (pa_cons (pe_op op_pow pe_int pe_int) pa_nil))))
      (pss_cons (ps_if (PW.pt (pw_and (pt_cmpR op_eq (pe_ix (ix_tupK K rfl) (pv 1) pe_int (fun _ _ => rfl)) pe_str (nomark _)) (pw_and1 (pt_cmpR op_lt (pv 4) pe_int (nomark _))))) (pss_cons (ps_setLc (i := 6) (own := [("_law_row", 12)]) rfl sc_l_bad_field.nd rfl rfl (sw_true rfl rfl rfl (by decide +kernel)) (pi_listK K rfl (pe_ix (ix_tupK K rfl) (pv 1) pe_int (fun _ _ => rfl))) (blkOk_by (own := [("_law_row", 12)]) (N := ["_law_left", "_law_field", "_law_first", "_law_second", "_law_kind", "_law_far", "_law_rows", "_law_at", "_law_some", "_law_word", "_law_worth", "_law_more", "_law_row"]) (sc := defScope s_l_bad_field) (by decide +kernel)) (fun _ _ _ _ _ => (pg_name (i := 12) sc_l_bad_field.nd rfl (Or.inl rfl))) (fun _ _ _ _ _ => pts_nil) (fun _ _ _ _ _ => (pe_callTy (call_listK K rfl) (by rfl) T.z_list (by decide +kernel) (pa_cons (pv 12) pa_nil))))
      (pss_cons (ps_set (i := 7) sc_l_bad_field.nd rfl (Or.inl rfl) (pe_call G_l_draw (hr.mono (by first | decide | omega)) (by rfl) T.g_l_draw T.F_l_draw.kp T.b_l_draw .nil pass0 (pa_cons (pv 0) (pa_cons (pe_callB (call_lenK K rfl) (by rfl) T.z_len (by decide +kernel) (pa_cons (pv 6) pa_nil)) pa_nil))))
      (pss_cons (ps_set (i := 8) sc_l_bad_field.nd rfl (Or.inl rfl) (pe_lst (pa_cons (pe_op op_cat (pe_slice (sl_listK K rfl) (pv 6) po_none (po_some (pv 7))) (pe_slice (sl_listK K rfl) (pv 6) (po_some (pe_op op_add (pv 7) pe_int)) po_none)) (pa_cons (pe_op op_cat (pv 6) (pe_lst (pa_cons (pe_ix (ix_listK K rfl) (pv 6) (pv 7) (fun _ _ => rfl)) pa_nil))) (pa_cons (pe_op op_cat (pe_op op_cat (pe_slice (sl_listK K rfl) (pv 6) po_none (po_some (pv 7))) (pe_lst (pa_cons (pe_slice (sl_listK K rfl) (pe_ix (ix_listK K rfl) (pv 6) (pv 7) (fun _ _ => rfl)) (po_some pe_int) po_none) pa_nil))) (pe_slice (sl_listK K rfl) (pv 6) (po_some (pe_op op_add (pv 7) pe_int)) po_none)) pa_nil)))))
      (pss_cons (ps_set (i := 8) sc_l_bad_field.nd rfl (Or.inl rfl) (pe_op op_cat (pv 8) (pe_lst (pa_cons (pe_op op_cat (pe_op op_cat (pe_slice (sl_listK K rfl) (pv 6) po_none (po_some (pv 7))) (pe_lst (pa_cons (pe_op op_cat (pe_ix (ix_listK K rfl) (pv 6) (pv 7) (fun _ _ => rfl)) (pe_lst (pa_cons pe_int pa_nil))) pa_nil))) (pe_slice (sl_listK K rfl) (pv 6) (po_some (pe_op op_add (pv 7) pe_int)) po_none)) (pa_cons (pe_lst pa_nil) pa_nil)))))
      (pss_one (ps_ret (pe_tup (pa_cons pe_str (pa_cons (pe_ix (ix_listK K rfl) (pv 8) (pv 4) (fun _ _ => rfl)) pa_nil))))))))) pss_nil)
      (pss_cons (ps_if (pt_cmpR op_eq (pe_ix (ix_tupK K rfl) (pv 1) pe_int (fun _ _ => rfl)) pe_str (nomark _)) (pss_one (ps_set (i := 1) sc_l_bad_field.nd rfl (Or.inl rfl) (pe_tup (pa_cons pe_str (pa_cons pe_int (pa_cons pe_int pa_nil)))))) pss_nil)
      (pss_cons (ps_asg (pv 1) (pg_tupK K rfl 3 rfl (pgs_cons (pg_name (i := 9) sc_l_bad_field.nd rfl (Or.inl rfl)) (pgs_cons (pg_name (i := 10) sc_l_bad_field.nd rfl (Or.inl rfl)) (pgs_cons (pg_name (i := 11) sc_l_bad_field.nd rfl (Or.inl rfl)) pgs_nil)))))
      (pss_cons (ps_set (i := 8) sc_l_bad_field.nd rfl (Or.inl rfl) (pe_lst (pa_cons (pe_tup (pa_cons (pv 9) (pa_cons pe_int (pa_cons (pv 11) pa_nil)))) (pa_cons (pe_tup (pa_cons (pv 9) (pa_cons (pe_op op_sub (pe_un un_neg pe_int) (pv 5)) (pa_cons (pv 11) pa_nil)))) (pa_cons (pe_tup (pa_cons (pv 9) (pa_cons (pv 10) pa_nil))) (pa_cons (pe_tup (pa_cons (pv 9) (pa_cons (pv 10) (pa_cons (pv 11) (pa_cons pe_int pa_nil))))) (pa_cons (pe_tup (pa_cons (pv 9) pa_nil)) pa_nil)))))))
      (pss_cons (ps_set (i := 8) sc_l_bad_field.nd rfl (Or.inl rfl) (pe_op op_cat (pv 8) (pe_lst (pa_cons (pe_tup (pa_cons pe_str (pa_cons (pv 10) (pa_cons (pe_op op_add (pe_op op_add (pv 10) pe_int) (pv 5)) pa_nil)))) (pa_cons (pe_tup (pa_cons pe_str (pa_cons (pv 10) (pa_cons (pe_op op_sub (pe_op op_sub (pe_un un_neg pe_int) (pv 10)) (pv 5)) pa_nil)))) (pa_cons (pe_tup (pa_cons pe_str (pa_cons (pv 10) (pa_cons (pv 11) pa_nil)))) pa_nil))))))
      (pss_one (ps_ret (pe_ix (ix_listK K rfl) (pe_op op_cat (pv 8) (pe_lst (pa_cons (pe_tup (pa_cons (pe_ix (ix_listK K rfl) (pe_lst (pa_cons pe_str (pa_cons pe_str (pa_cons pe_str pa_nil)))) (pe_call G_l_draw (hr.mono (by first | decide | omega)) (by rfl) T.g_l_draw T.F_l_draw.kp T.b_l_draw .nil pass0 (pa_cons (pv 0) (pa_cons pe_int pa_nil))) (fun _ _ => rfl)) (pa_cons (pv 10) (pa_cons (pv 11) pa_nil)))) pa_nil))) (pv 4) (fun _ _ => rfl))))))))))), ?_⟩
  try dsimp only [L2.cxOf, L2.Cx.nox, L2.Cx.wish, List.map_cons, List.map_nil]
  obtain ⟨a, m, c, v, fl, f, s, rfl, p0, p1, p2, ⟨p3, p4⟩, p5, k⟩ := h
  refine start_to (σ := [some _, some _, some _, some _, none, none, none, none, none, none, none, none, none]) rfl ?_
  walk_at "goI"
  rename_i d1 H1 a1 a2 a3 d2 H2 b1 b2 b3
  have hb : But a H H2 := by walk_at "g_but"
  have q2 : Dq (hid [a] H2) v (fldD fl) := p2.same (hid_but (by simp) hb)
  have q2' := q2.same hid_same
  clear p2 a2 a3 b3
  refine if_join (fun σ' H' => σ' = [some (.ref a), some v, some (.int f), some (.int s), some (.int d1), some (.int d2), none, none, none, none, none, none, none] ∧ H' = H2 ∧ ((∃ rows, fl = .tab rows) → 5 ≤ d1)) (fun nx' hn => ?_) ?_
  · cases fl with
    | tab rows =>
      obtain ⟨p, q, zs, rfl, h4, h5, h6⟩ := fld_tab q2'
      obtain ⟨_, _, _, e, _, _, h6'⟩ := fld_tab q2
      cases e
      walk_at "go"
      refine ite_d (fun c1 => ?_) (fun c1 => ?_)
      · have hz : zs.length ≤ 20 := by rw [h6.len, List.length_map]; have := p3.1; omega
        clear h6' q2
        walk_at "go"
        intro D nD
        refine lcL_new (xs := zs) (fun i => planD ((rows[i]?).getD [])) nD (by omega) (SqL.of h5) ?_ ?_
        · intro j x H3 Z Y hx2 hs hz2
          obtain ⟨r, q', f1, rfl, f2⟩ := row_at h6 hx2
          have f2' := hs _ _ f2
          walk_at "go"
          rename_i l nl
          refine hz2 (.ref l) (fr [] H3 (upd H3 l (.lst (r.map V.int)))) _ ?_ fr_newly fr_same (by walk_at "g_same")
          rw [f1]
          exact row_mk (fr_lk0 nl upd_same)
        intro G H3 r1 r2 r3 r4
        rw [show zs.length = rows.length by rw [h6.len, List.length_map], rng_map _ planD rows (fun i x e => by rw [e]; rfl)] at r1
        obtain ⟨_, ys, e, g1, g2⟩ := Dq.list_inv r1
        cases e
        have gD := r3 _ _ g1
        have ga : G a = none := r2.pk b2
        have nG : Newly H G := r2.backP hb b2
        have hyl : ys.length = rows.length := by rw [g2.len, List.length_map]
        have hb3 : But a H H3 := hb.trans (But.same r4)
        have pk3 : Pk a m H3 (c + 8) := (b2.same r4).mono (by omega)
        have rl := p3.1
        clear r1 r2 r4 h4 h5 h6 q2' hb b2 nD hz
        walk_at "go"
        rename_i at1 H4 u1 u2 u3 L1 nL1 L2' nL2 L3 nL3
        obtain ⟨x0, hat, hx0⟩ := at_lt (xs := ys) (i := at1) (by omega) (by omega)
        obtain ⟨r, q0, e1, rfl, e2⟩ := row_at g2 hx0
        have hr := p3.2 r (List.mem_of_getElem? e1)
        have s4 : Same G H4 := Same.but r3 ga u3
        have e2' := s4 _ _ e2
        have hb4 : But a H H4 := hb3.trans u3
        clear r3 u3 hb3 pk3 gD
        have nL3a : H L3 = none := by walk_at "g_free"
        generalize hH : upd (upd (upd H4 L1 _) L2' _) L3 _ = H5
        have s5 : Same H4 H5 := by rw [← hH]; walk_at "g_same"
        have eL3 : H5 L3 = some (.lst (ys.take at1.toNat ++ ys.drop (at1 + 1).toNat)) := by rw [← hH]; exact upd_same
        have g1' := s5 _ _ (s4 _ _ g1)
        have e2'' := s5 _ _ e2'
        have u2' := u2.same s5
        clear hH nL1 nL2 nL3 u2 e2'
        walk_at "go"
        have hk : d1 = 0 ∨ d1 = 1 ∨ d1 = 2 ∨ d1 = 3 ∨ d1 = 4 := by omega
        rename_i P1 m1 P2 m2 T1 n1 T2 n2 T3 n3 T4 n4 T5 n5 T6 n6 T7 n7 T8 n8 T9 n9 T10 n10 T11 n11 T12 n12 T13 n13 T14 n14 T15 n15 T16 n16 T17 n17
        have nP2 : H P2 = none := by walk_at "g_free"
        have nT2 : H T2 = none := by walk_at "g_free"
        have nT6 : H T6 = none := by walk_at "g_free"
        have nT10 : H T10 = none := by walk_at "g_free"
        have nT14 : H T14 = none := by walk_at "g_free"
        have nT15 : H T15 = none := by walk_at "g_free"
        generalize hH : upd _ T17 _ = H6
        have s6 : Same H5 H6 := by rw [← hH]; walk_at "g_same"
        have f17 : H6 T17 = some (.lst [.ref L3, .ref P2, .ref T6, .ref T14, .ref T15]) := by rw [← hH]; exact upd_same
        have f0 := s6 _ _ eL3
        have f1 : H6 P2 = some (.lst (ys ++ [.ref q0])) := by rw [← hH]; walk_at "g_lk"
        have f2 : H6 T6 = some (.lst (ys.take at1.toNat ++ [.ref T2] ++ ys.drop (at1 + 1).toNat)) := by rw [← hH]; walk_at "g_lk"
        have f22 : H6 T2 = some (.lst ((r.drop (Int.toNat 1)).map V.int)) := by rw [← hH]; walk_at "g_lk"
        have f3 : H6 T14 = some (.lst (ys.take at1.toNat ++ [.ref T10] ++ ys.drop (at1 + 1).toNat)) := by rw [← hH]; walk_at "g_lk"
        have f33 : H6 T10 = some (.lst ((r ++ [0]).map V.int)) := by rw [← hH]; walk_at "g_lk"
        have f4 : H6 T15 = some (.lst []) := by rw [← hH]; walk_at "g_lk"
        have s56 := s5.trans s6
        clear hH m1 m2 n1 n2 n3 n4 n5 n6 n7 n8 n9 n10 n11 n12 n13 n14 n15 n16 n17 e2''
        have sG : Same G (fr [] H H6) := nG.same (s4.trans s56)
        have hb6 : But a H H6 := hb4.trans (But.same s56)
        have pk6 : Pk a m H6 (c + 100) := (u2'.same s6).mono (by omega)
        have fin : ∀ (X : Addr) (us : List V) (rs : List (List Int)) (t : Addr), H X = none → H6 X = some (.lst us) → DqAll (fr [] H H6) us (rs.map planD) → H6 t = none → ¬ FldOk f s (.tab rs) → rs.length ≤ 20 → (∀ r ∈ rs, r.length ≤ 20) → Q (.ref t) (upd H6 t (.tup [.str (PySem.Str.ofString "table"), .ref X])) := by
          intro X us rs t nX h1 h2 h3 h4 h5 h6
          have nt : H t = none := Pk.free h3 hb6 pk6
          refine k _ _ _ _ (tab_mk (xs := us) (fr_lk0 nt upd_same) (fr_lk0 nX (lk_new h3 h1)) (h2.same (fr_mono (Same.new h3)))) fr_newly fr_same (fld_no h4) (cp_tab h5 h6) (pk6.new h3) (But.new hb6 h3)
        have al : at1.toNat < rows.length := by omega
        have le : ∀ r ∈ rows, r.length ≤ 11 := fun r hr => by have := p3.2 r hr; omega
        have rt : ∀ r' ∈ rows.take at1.toNat, r' ∈ rows := fun r' h => List.mem_of_mem_take h
        have rd : ∀ r' ∈ rows.drop (at1 + 1).toNat, r' ∈ rows := fun r' h => List.mem_of_mem_drop h
        have gt : DqAll (fr [] H H6) (ys.take at1.toNat) ((rows.take at1.toNat).map planD) := by rw [List.map_take]; exact (g2.take _).same sG
        have gd : DqAll (fr [] H H6) (ys.drop (at1 + 1).toNat) ((rows.drop (at1 + 1).toNat).map planD) := by rw [List.map_drop]; exact (g2.drop _).same sG
        have lt : (rows.take at1.toNat).length = at1.toNat := by rw [List.length_take]; omega
        have ld : (rows.drop (at1 + 1).toNat).length = rows.length - (at1 + 1).toNat := List.length_drop ..
        have mid : ∀ (T : Addr) (r' : List Int), H6 T = some (.lst (r'.map V.int)) → H T = none → r'.length ≤ 20 → ¬ (r'.length : Int) = s + 1 → ∀ (X t : Addr), H X = none → H6 X = some (.lst (ys.take at1.toNat ++ [.ref T] ++ ys.drop (at1 + 1).toNat)) → H6 t = none → Q (.ref t) (upd H6 t (.tup [.str (PySem.Str.ofString "table"), .ref X])) := by
          intro T r' h1 h2 h3 h4 X t nX h5 h6
          refine fin X _ (rows.take at1.toNat ++ [r'] ++ rows.drop (at1 + 1).toNat) t nX h5 ?_ h6 ?_ ?_ ?_
          · rw [List.map_append, List.map_append]
            exact (gt.append (.cons (row_mk (fr_lk0 h2 h1)) .nil)).append gd
          · intro q
            exact h4 (q.2 r' (by simp))
          · rw [List.length_append, List.length_append, lt, ld, List.length_singleton]
            omega
          · intro r2 h
            rcases List.mem_append.mp h with h | h
            · rcases List.mem_append.mp h with h | h
              · have := le r2 (rt r2 h)
                omega
              · rw [List.mem_singleton.mp h]
                exact h3
            · have := le r2 (rd r2 h)
              omega
        clear k
        rcases hk with rfl | rfl | rfl | rfl | rfl
        · walk_at "go"
          rename_i t nt
          refine fin L3 _ (rows.take at1.toNat ++ rows.drop (at1 + 1).toNat) t nL3a f0 ?_ nt ?_ ?_ ?_
          · rw [List.map_append]
            exact gt.append gd
          · intro q
            have := q.1
            rw [List.length_append, lt, ld] at this
            omega
          · rw [List.length_append, lt, ld]
            omega
          · intro r2 h
            rcases List.mem_append.mp h with h | h
            · have := le r2 (rt r2 h)
              omega
            · have := le r2 (rd r2 h)
              omega
        · walk_at "go"
          rename_i t nt
          refine fin P2 _ (rows ++ [r]) t nP2 f1 ?_ nt ?_ ?_ ?_
          · rw [List.map_append]
            exact (g2.same sG).append (.cons (row_mk (sG _ _ e2)) .nil)
          · intro q
            have := q.1
            rw [List.length_append, List.length_singleton] at this
            omega
          · rw [List.length_append, List.length_singleton]
            omega
          · intro r2 h
            rcases List.mem_append.mp h with h | h
            · have := le r2 h
              omega
            · rw [List.mem_singleton.mp h]
              omega
        · walk_at "go"
          rename_i t nt
          exact mid T2 _ f22 nT2 (by rw [List.length_drop]; omega) (by rw [List.length_drop]; omega) T6 t nT6 f2 nt
        · walk_at "go"
          rename_i t nt
          exact mid T10 _ f33 nT10 (by rw [List.length_append, List.length_singleton]; omega) (by rw [List.length_append, List.length_singleton]; omega) T14 t nT14 f3 nt
        · walk_at "go"
          rename_i t nt
          exact fin T15 _ [] t nT15 f4 .nil nt (fun q => by have := q.1; rw [List.length_nil] at this; omega) (by simp) (by simp)
      · walk_at "go"
        exact hn _ _ ⟨rfl, rfl, fun _ => by omega⟩
    | more w t =>
      obtain ⟨p, rfl, h1⟩ := fld_more q2'
      walk_at "go"
      exact hn _ _ ⟨rfl, rfl, fun h => by obtain ⟨_, h⟩ := h; cases h⟩
    | lead w t =>
      obtain ⟨p, rfl, h1⟩ := fld_lead q2'
      walk_at "go"
      exact hn _ _ ⟨rfl, rfl, fun h => by obtain ⟨_, h⟩ := h; cases h⟩
  rintro σ3 H3 ⟨rfl, rfl, h5⟩
  walk_at "goI"
  refine if_join (fun σ' H' => ∃ (p : Addr) (w0 : Str) (x y : Int), σ' = [some (.ref a), some (.ref p), some (.int f), some (.int s), some (.int d1), some (.int d2), none, none, none, none, none, none, none] ∧ H' p = some (.tup [.str w0, .int x, .int y]) ∧ Same H3 H' ∧ (w0 = PySem.Str.ofString "more" ∨ w0 = PySem.Str.ofString "lead")) (fun nx' hn => ?_) ?_
  · cases fl with
    | tab rows =>
      obtain ⟨p, q, zs, rfl, h4, _, _⟩ := fld_tab q2'
      walk_at "go"
      exact hn _ _ ⟨_, _, 3, 1, rfl, upd_same, by walk_at "g_same", .inl rfl⟩
    | more w t =>
      obtain ⟨p, rfl, h1⟩ := fld_more q2'
      walk_at "go"
      exact hn _ _ ⟨_, _, _, _, rfl, h1, Same.refl _, .inl rfl⟩
    | lead w t =>
      obtain ⟨p, rfl, h1⟩ := fld_lead q2'
      walk_at "go"
      exact hn _ _ ⟨_, _, _, _, rfl, h1, Same.refl _, .inr rfl⟩
  rintro σ4 H4 ⟨p, w0, x, y, rfl, h1, h2, hw⟩
  have b4 := (b2.same h2).mono (c1 := c + 8) (by omega)
  have hb4 := hb.trans (But.same h2)
  clear p0 p3 p4 h5 h2 q2' q2 b2 hb
  walk_at "go"
  rename_i T0 n0 T1 n1 T2 n2 T3 n3 T4 n4 L5 n5 T5 n6 T6 n7 T7 n8 L8 n9 L9 n10 S n11 d3 H5 u1 u2 u3 st hst T8 n12 L10 n13 L11 n14
  have hst2 : ¬ st = PySem.Str.ofString "table" ∧ ¬ st = PySem.Str.ofString "more" ∧ ¬ st = PySem.Str.ofString "lead" ∧ PyData.strOk st = true := by
    rcases hst with rfl | rfl | rfl <;> decide +kernel
  have hw2 : ¬ w0 = PySem.Str.ofString "table" ∧ PyData.strOk w0 = true := by
    rcases hw with rfl | rfl <;> decide +kernel
  have B : ∀ {b : Addr} {o : HO}, b ≠ a → upd (upd (upd (upd (upd (upd (upd (upd (upd (upd (upd (upd H4 T0 (.tup [.str w0, .int 0, .int y])) T1 (.tup [.str w0, .int (-1 - d2), .int y])) T2 (.tup [.str w0, .int x])) T3 (.tup [.str w0, .int x, .int y, .int 0])) T4 (.tup [.str w0])) L5 (.lst [.ref T0, .ref T1, .ref T2, .ref T3, .ref T4])) T5 (.tup [.str (PySem.Str.ofString "more"), .int x, .int (x + 1 + d2)])) T6 (.tup [.str (PySem.Str.ofString "more"), .int x, .int (-1 - x - d2)])) T7 (.tup [.str (PySem.Str.ofString "Lead"), .int x, .int y])) L8 (.lst [.ref T5, .ref T6, .ref T7])) L9 (.lst ([.ref T0, .ref T1, .ref T2, .ref T3, .ref T4] ++ [.ref T5, .ref T6, .ref T7]))) S (.lst [.str (PySem.Str.ofString "moree"), .str (PySem.Str.ofString ""), .str (PySem.Str.ofString "tables")]) b = some o → H5 b = some o := fun {b o} hb e => u3 b o hb e
  have k0 : T0 ≠ a := by walk_at "g_ne"
  have z0 : H T0 = none := by walk_at "g_free"
  have k1 : T1 ≠ a := by walk_at "g_ne"
  have z1 : H T1 = none := by walk_at "g_free"
  have k2 : T2 ≠ a := by walk_at "g_ne"
  have z2 : H T2 = none := by walk_at "g_free"
  have k3 : T3 ≠ a := by walk_at "g_ne"
  have z3 : H T3 = none := by walk_at "g_free"
  have k4 : T4 ≠ a := by walk_at "g_ne"
  have z4 : H T4 = none := by walk_at "g_free"
  have k5 : T5 ≠ a := by walk_at "g_ne"
  have z5 : H T5 = none := by walk_at "g_free"
  have k6 : T6 ≠ a := by walk_at "g_ne"
  have z6 : H T6 = none := by walk_at "g_free"
  have k7 : T7 ≠ a := by walk_at "g_ne"
  have z7 : H T7 = none := by walk_at "g_free"
  have k8 : T8 ≠ a := by walk_at "g_ne"
  have z8 : H T8 = none := by walk_at "g_free"
  have hb5 : But a H H5 := by walk_at "g_but"
  have h0' := B k0 (by walk_at "g_lk")
  have h1' := B k1 (by walk_at "g_lk")
  have h2' := B k2 (by walk_at "g_lk")
  have h3' := B k3 (by walk_at "g_lk")
  have h4' := B k4 (by walk_at "g_lk")
  have h5' := B k5 (by walk_at "g_lk")
  have h6' := B k6 (by walk_at "g_lk")
  have h7' := B k7 (by walk_at "g_lk")
  clear B n0 n1 n2 n3 n4 n5 n6 n7 n8 n9 n10 n11 u3 hb4 b4 h1
  generalize hH : upd _ L11 _ = H6
  have s6 : Same H5 H6 := by rw [← hH]; walk_at "g_same"
  have f11 : H6 L11 = some (.lst [.ref T0, .ref T1, .ref T2, .ref T3, .ref T4, .ref T5, .ref T6, .ref T7, .ref T8]) := by rw [← hH]; exact upd_same
  have h8' : H6 T8 = some (.tup [.str st, .int x, .int y]) := by rw [← hH]; walk_at "g_lk"
  have hb6 := hb5.trans (But.same s6)
  have pk6 : Pk a m H6 (c + 100) := (u2.same s6).mono (by omega)
  clear hH n12 n13 n14 u2 hb5
  have fin : ∀ (T : Addr) (w : Str) (ms : List Int), H T = none → H6 T = some (.tup (.str w :: ms.map V.int)) → ¬ w = PySem.Str.ofString "table" ∧ PyData.strOk w = true → ms.length ≤ 4 → isFieldD f s w (ms.map PyData.int) = false → Q (.ref T) H6 := fun T w ms g1 g2 g3 g4 g5 =>
    k _ (.tuple (.str w :: ms.map PyData.int)) _ _ (.tup (fr_lk0 g1 g2) (.cons (.str w) (dq_ints ms))) fr_newly fr_same g5 (cp_word ms g3.1 g3.2 g4) pk6 hb6
  have hk : d1 = 0 ∨ d1 = 1 ∨ d1 = 2 ∨ d1 = 3 ∨ d1 = 4 ∨ d1 = 5 ∨ d1 = 6 ∨ d1 = 7 ∨ d1 = 8 := by omega
  rcases hk with rfl | rfl | rfl | rfl | rfl | rfl | rfl | rfl | rfl
  · walk_at "go"
    exact fin T0 w0 [0, y] z0 (s6 _ _ h0') hw2 (by simp) (word_less hw (by omega))
  · walk_at "go"
    exact fin T1 w0 [-1 - d2, y] z1 (s6 _ _ h1') hw2 (by simp) (word_less hw (by omega))
  · walk_at "go"
    exact fin T2 w0 [x] z2 (s6 _ _ h2') hw2 (by simp) (word_len hw (by simp))
  · walk_at "go"
    exact fin T3 w0 [x, y, 0] z3 (s6 _ _ h3') hw2 (by simp) (word_len hw (by simp))
  · walk_at "go"
    exact fin T4 w0 [] z4 (s6 _ _ h4') hw2 (by simp) (word_len hw (by simp))
  · walk_at "go"
    refine fin T5 _ [x, x + 1 + d2] z5 (s6 _ _ h5') (by decide +kernel) (by simp) ?_
    rw [isFieldD, if_pos rfl]
    show (decide (1 ≤ x) && (decide (0 - x ≤ x + 1 + d2) && decide (x + 1 + d2 ≤ x))) = false
    rw [decide_eq_false (p := x + 1 + d2 ≤ x) (by omega), Bool.and_false, Bool.and_false]
  · walk_at "go"
    refine fin T6 _ [x, -1 - x - d2] z6 (s6 _ _ h6') (by decide +kernel) (by simp) ?_
    rw [isFieldD, if_pos rfl]
    show (decide (1 ≤ x) && (decide (0 - x ≤ -1 - x - d2) && decide (-1 - x - d2 ≤ x))) = false
    rw [decide_eq_false (p := 0 - x ≤ -1 - x - d2) (by omega), Bool.false_and, Bool.and_false]
  · walk_at "go"
    refine fin T7 _ [x, y] z7 (s6 _ _ h7') (by decide +kernel) (by simp) ?_
    rw [isFieldD, if_neg (by decide +kernel), if_neg (by decide +kernel), if_neg (by decide +kernel)]
  · walk_at "go"
    refine fin T8 _ [x, y] z8 h8' ⟨hst2.1, hst2.2.2.2⟩ (by simp) ?_
    rw [isFieldD, if_neg hst2.2.1, if_neg hst2.2.2.1, if_neg hst2.1]
def sp_l_bent_one (K : PySem.W.Frag) : Sp := fun vs H Q E => ∃ (a : Addr) (m c : Int) (v : V) (f s : Int) (fs : List Fld), vs = [.ref a, v] ∧ (Pk a m H c) ∧ (c ≤ 70000) ∧ (Dq (hid [a] H) v (batD f s fs)) ∧ (BatOk f s fs) ∧ ((∀ x ∈ fs, FldSm x)) ∧ ∀ (q : Addr) (w : V) (f' s' k : Int) (ds : List PyData) (H' : Hp), (H' q = some (.tup [w, .int k])) → (Dq (hid [a] H') w (batT f' s' ds)) → (badB f' s' ds = some k) → ((∀ d ∈ ds, CpOk d)) → (ds.length ≤ 10) → (Pk a m H' (c + 400)) → (But a H H') → Q (.ref q) H'
theorem use_l_bent_one {K : PySem.W.Frag} {H : Hp} {Q : VK} {E : XK} {a : Addr} {m c : Int} {v : V} {f s : Int} {fs : List Fld} (p0 : Pk a m H c) (p1 : c ≤ 70000) (p2 : Dq (hid [a] H) v (batD f s fs)) (p3 : BatOk f s fs) (p4 : (∀ x ∈ fs, FldSm x)) (k : ∀ (q : Addr) (w : V) (f' s' k : Int) (ds : List PyData) (H' : Hp), (H' q = some (.tup [w, .int k])) → (Dq (hid [a] H') w (batT f' s' ds)) → (badB f' s' ds = some k) → ((∀ d ∈ ds, CpOk d)) → (ds.length ≤ 10) → (Pk a m H' (c + 400)) → (But a H H') → Q (.ref q) H') : sp_l_bent_one K [.ref a, v] H Q E := ⟨a, m, c, v, f, s, fs, rfl, p0, p1, p2, p3, p4, k⟩
theorem len_l_bent_one {K : PySem.W.Frag} (vs : List V) (H : Hp) (Q : VK) (E : XK) (h : sp_l_bent_one K vs H Q E) : vs.length = ["_law_left", "_law_battle"].length := by
  obtain ⟨_, _, _, _, _, _, _, rfl, _⟩ := h
  rfl
local macro_rules | `(tactic| walk_at "g_call") => `(tactic| ((with_reducible refine' use_l_bent_one ?c0 ?c1 ?c2 ?c3 ?c4 ?_); (case c0 => walk_at "g_pre"); (case c1 => walk_at "g_pre"); (case c2 => walk_at "g_pre"); (case c3 => walk_at "g_pre"); (case c4 => walk_at "g_pre"); intros))
theorem ok_l_bent_one (T : Txt K mg) : FnOk P w K mg base CX0 4 T.a_l_bent_one T.d_l_bent_one ["_law_left", "_law_battle"] (sp_l_bent_one K) := by
  have G_l_draw := ok_l_draw (P := P) (w := w) (base := base) T
  have G_l_bad_field := ok_l_bad_field (P := P) (w := w) (base := base) T
  refine T.F_l_bent_one.ok sc_l_bent_one len_l_bent_one (fun cdv A outer s H vs Q E hr h => ?_)
  refine ⟨_, (pss_cons (ps_asg (pv 1) (pg_tupK K rfl 3 rfl (pgs_cons (pg_name (i := 2) sc_l_bent_one.nd rfl (Or.inl rfl)) (pgs_cons (pg_name (i := 3) sc_l_bent_one.nd rfl (Or.inl rfl)) (pgs_cons (pg_name (i := 4) sc_l_bent_one.nd rfl (Or.inl rfl)) pgs_nil)))))
      (pss_cons (ps_set (i := 5) sc_l_bent_one.nd rfl (Or.inl rfl) (pe_call G_l_draw (hr.mono (by first | decide | omega)) (by rfl) T.g_l_draw T.F_l_draw.kp T.b_l_draw .nil pass0 (pa_cons (pv 0) (pa_cons pe_int pa_nil))))
      (pss_cons (ps_set (i := 6) sc_l_bent_one.nd rfl (Or.inl rfl) (pe_call G_l_draw (hr.mono (by first | decide | omega)) (by rfl) T.g_l_draw T.F_l_draw.kp T.b_l_draw .nil pass0 (pa_cons (pv 0) (pa_cons (pe_op op_pow pe_int pe_int) pa_nil))))
      (pss_cons (ps_if (pt_cmpR op_lt (pv 5) pe_int (nomark _)) (pss_cons (ps_set (i := 7) sc_l_bent_one.nd rfl (Or.inl rfl) (pe_ix (ix_listK K rfl) (pe_lst (pa_cons (pe_un un_neg pe_int) (pa_cons pe_int (pa_cons (pe_op op_sub (pe_un un_neg pe_int) (pv 6)) (pa_cons (pe_op op_add pe_int (pv 6)) pa_nil))))) (pe_call G_l_draw (hr.mono (by first | decide | omega)) (by rfl) T.g_l_draw T.F_l_draw.kp T.b_l_draw .nil pass0 (pa_cons (pv 0) (pa_cons pe_int pa_nil))) (fun _ _ => rfl)))
      (pss_cons (ps_set (i := 8) sc_l_bent_one.nd rfl (Or.inl rfl) (pe_ix (ix_listK K rfl) (pe_lst (pa_cons (pe_tup (pa_cons (pv 7) (pa_cons (pv 3) pa_nil))) (pa_cons (pe_tup (pa_cons (pv 2) (pa_cons (pv 7) pa_nil))) (pa_cons (pe_tup (pa_cons (pv 7) (pa_cons (pv 7) pa_nil))) (pa_cons (pe_tup (pa_cons (pv 7) (pa_cons (pv 3) pa_nil))) pa_nil))))) (pv 5) (fun _ _ => rfl)))
      (pss_one (ps_ret (pe_tup (pa_cons (pe_tup (pa_cons (pe_ix (ix_tupK K rfl) (pv 8) pe_int (fun _ _ => rfl)) (pa_cons (pe_ix (ix_tupK K rfl) (pv 8) pe_int (fun _ _ => rfl)) (pa_cons (pe_callTy (call_listK K rfl) (by rfl) T.z_list (by decide +kernel) (pa_cons (pv 4) pa_nil)) pa_nil)))) (pa_cons (pe_un un_neg pe_int) pa_nil))))))) pss_nil)
      (pss_cons (ps_if (pt_cmpR op_eq (pv 5) pe_int (nomark _)) (pss_one (ps_ret (pe_tup (pa_cons (pe_tup (pa_cons (pv 2) (pa_cons (pv 3) (pa_cons (pe_lst pa_nil) pa_nil)))) (pa_cons (pe_un un_neg pe_int) pa_nil))))) pss_nil)
      (pss_cons (ps_if (pt_cmpR op_eq (pv 5) pe_int (nomark _)) (pss_one (ps_ret (pe_tup (pa_cons (pe_tup (pa_cons (pv 2) (pa_cons (pv 3) (pa_cons (pe_slice (sl_listK K rfl) (pe_op op_rep (pe_callTy (call_listK K rfl) (by rfl) T.z_list (by decide +kernel) (pa_cons (pv 4) pa_nil)) pe_int) po_none (po_some pe_int)) pa_nil)))) (pa_cons (pe_un un_neg pe_int) pa_nil))))) pss_nil)
      (pss_cons (ps_set (i := 9) sc_l_bent_one.nd rfl (Or.inl rfl) (pe_call G_l_draw (hr.mono (by first | decide | omega)) (by rfl) T.g_l_draw T.F_l_draw.kp T.b_l_draw .nil pass0 (pa_cons (pv 0) (pa_cons (pe_callB (call_lenK K rfl) (by rfl) T.z_len (by decide +kernel) (pa_cons (pv 4) pa_nil)) pa_nil))))
      (pss_cons (ps_set (i := 10) sc_l_bent_one.nd rfl (Or.inl rfl) (pe_callTy (call_listK K rfl) (by rfl) T.z_list (by decide +kernel) (pa_cons (pv 4) pa_nil)))
      (pss_cons (ps_for PassesOwn.never rfl (pi_listK K rfl (pe_op op_cat (pe_lst (pa_cons (pv 9) pa_nil)) (pe_op op_rep (pe_lst (pa_cons (pe_op op_add (pe_op op_add (pv 9) pe_int) (pe_call G_l_draw (hr.mono (by first | decide | omega)) (by rfl) T.g_l_draw T.F_l_draw.kp T.b_l_draw .nil pass0 (pa_cons (pv 0) (pa_cons pe_int pa_nil)))) pa_nil)) (pe_callTy call_int1 (by rfl) T.z_int (by decide +kernel) (pa_cons (pe_cmpR op_eq (pv 5) pe_int (nomark _)) pa_nil))))) (pg_name (i := 11) sc_l_bent_one.nd rfl (Or.inl rfl)) (pss_one (ps_if (pt_cmpR op_lt (pv 11) (pe_callB (call_lenK K rfl) (by rfl) T.z_len (by decide +kernel) (pa_cons (pv 10) pa_nil)) (nomark _)) (pss_one (ps_asg (pe_call G_l_bad_field (hr.mono (by first | decide | omega)) (by rfl) T.g_l_bad_field T.F_l_bad_field.kp T.b_l_bad_field .nil pass0 (pa_cons (pv 0) (pa_cons (pe_ix (ix_listK K rfl) (pv 10) (pv 11) (fun _ _ => rfl)) (pa_cons (pv 2) (pa_cons (pv 3) pa_nil))))) (pg_sub (pv 10) (pv 11) set_list))) pss_nil)))
      (pss_one (ps_ret (pe_tup (pa_cons (pe_tup (pa_cons (pv 2) (pa_cons (pv 3) (pa_cons (pv 10) pa_nil)))) (pa_cons (pv 9) pa_nil)))))))))))))), ?_⟩
  try dsimp only [L2.cxOf, L2.Cx.nox, L2.Cx.wish, List.map_cons, List.map_nil]
  obtain ⟨a, m, c, v, f, s, fs, rfl, p0, p1, p2, p3, p4, k⟩ := h
  obtain ⟨A0, p, xs, rfl, h1, h2, h3⟩ := bat_inv p2
  have l1 := hid_same _ _ h1
  have l2 := hid_same _ _ h2
  have hl : xs.length = fs.length := by rw [h3.len, List.length_map]
  have b3 := p3.ne
  refine start_to (σ := [some _, some _, none, none, none, none, none, none, none, none, none, none]) rfl ?_
  have b1 := p3.hf
  have b2 := p3.hs
  walk_at "go"
  rename_i d1 H1 a1 a2 a3 d2 H2 a4 a5 a6
  have hb : But a H H2 := a3.trans a6
  have sH : Same (hid [a] H) (hid [a] H2) := hid_but (by simp) hb
  have g0 := h3.same sH
  have g1 := sH _ _ h2
  have l2' := hid_same _ _ g1
  have npa : p ≠ a := ne_hid g1
  have pk : Pk a m H2 (c + 8) := a5.mono (by omega)
  have cp : ∀ d ∈ fs.map fldD, CpOk d := fun d hd => by
    obtain ⟨x, hx, rfl⟩ := List.mem_map.mp hd
    exact cp_fld b1.2 b2.2 (p3.ok x hx)
  have fin : ∀ (f' s' kk : Int) (L t1 t2 : Addr) (ys : List V) (ds : List PyData) (H' : Hp), L ≠ a → H' L = some (.lst ys) → DqAll (hid [a] H') ys ds → H' t1 = none → upd H' t1 (.tup [.int f', .int s', .ref L]) t2 = none → badB f' s' ds = some kk → (∀ d ∈ ds, CpOk d) → ds.length ≤ 10 → Pk a m H' (c + 400) → But a H H' → Q (.ref t2) (upd (upd H' t1 (.tup [.int f', .int s', .ref L])) t2 (.tup [.ref t1, .int kk])) := by
    intro f' s' kk L t1 t2 ys ds H' z1 z2 z3 z4 z5 z6 z7 z8 z9 z10
    have n1 : t1 ≠ a := z9.ne z4
    refine k t2 (.ref t1) f' s' kk ds _ upd_same ?_ z6 z7 z8 ((z9.new z4).new z5) (But.new (But.new z10 z4) z5)
    have ss : Same H' (upd (upd H' t1 (.tup [.int f', .int s', .ref L])) t2 (.tup [.ref t1, .int kk])) := by walk_at "g_same"
    exact batT_mk (hid_lk (not_in1 n1) (by walk_at "g_lk")) (hid_lk (not_in1 z1) (ss _ _ z2)) (z3.same (hid_mono ss))
  clear a2 a3 a5 a6 h1 h2 h3 l1 l2 p0 p2
  refine ite_d (fun c1 => ?_) (fun c1 => ?_)
  · walk_at "go"
    rename_i T0 n0 d3 H3 e1 e2 e3 wv hwv T1 n1 T2 n2 T3 n3 T4 n4 T5 n5 vv hvv
    have l3 : H3 p = some (.lst xs) := by walk_at "g_lk"
    have hb3 : But a H H3 := by walk_at "g_but"
    have s3 : Same (hid [a] H2) (hid [a] H3) := (hid_mono (Same.new n0)).trans (hid_but (by simp) e3)
    have key : ∀ (x y : Int) (T : Addr) (r : L2.St), upd (upd (upd (upd (upd H3 T1 (.tup [.int wv, .int s])) T2 (.tup [.int f, .int wv])) T3 (.tup [.int wv, .int wv])) T4 (.tup [.int wv, .int s])) T5 (.lst [.ref T1, .ref T2, .ref T3, .ref T4]) T = some (.tup [.int x, .int y]) → (x < 0 ∨ 10 < x ∨ y < 0 ∨ 10 < y) → True := fun _ _ _ _ _ _ => trivial
    generalize hH : upd _ T5 _ = H4
    have s4 : Same H3 H4 := by rw [← hH]; walk_at "g_same"
    obtain ⟨x, y, hv, hxy⟩ : ∃ x y, H4 vv = some (.tup [.int x, .int y]) ∧ (x < 0 ∨ 10 < x ∨ y < 0 ∨ 10 < y) := by
      rw [← hH]
      rcases hvv with e | e | e | e <;> rw [e] <;> exact ⟨_, _, by walk_at "g_lk", by omega⟩
    have l4 := s4 _ _ l3
    have pk4 : Pk a m H4 (c + 12) := (e2.same s4).mono (by omega)
    have hb4 := hb3.trans (But.same s4)
    have g4 := (g0.same s3).same (hid_mono s4)
    clear hH key hvv n0 n1 n2 n3 n4 n5 e3 e2 s4 s3 l3 hb3
    walk_at "go"
    rename_i L n1 t1 n2 t2 n3
    refine fin _ _ _ L t1 t2 xs (fs.map fldD) _ (pk4.ne n1) upd_same (g4.same (hid_mono (Same.new n1))) n2 n3 (if_pos (by omega)) cp (by rw [List.length_map]; omega) ((pk4.new n1).mono (by omega)) (But.new hb4 n1)
  walk_at "go"
  refine ite_d (fun c2 => ?_) (fun c2 => ?_)
  · walk_at "go"
    rename_i L n1 t1 n2 t2 n3
    exact fin _ _ _ L t1 t2 [] [] _ (pk.ne n1) upd_same .nil n2 n3 (if_pos (by simp)) (by simp) (by simp) ((pk.new n1).mono (by omega)) (But.new hb n1)
  walk_at "go"
  refine ite_d (fun c3 => ?_) (fun c3 => ?_)
  · walk_at "go"
    rename_i L0 n0
    refine i_rep upd_same (by decide) (sz4 (by rw [hl]; show fs.length * 6 ≤ 1000000; omega)) fun L1 n1 => ?_
    walk_at "go"
    rename_i L n2 t1 n3 t2 n4
    have s2 : Same H2 (upd (upd (upd H2 L0 (.lst xs)) L1 (.lst (List.replicate (Int.toNat 6) xs).flatten)) L (.lst ((List.replicate (Int.toNat 6) xs).flatten.take (Int.toNat 6)))) := by walk_at "g_same"
    have pk2 := pk.same s2
    have e6 : ((List.replicate (Int.toNat 6) (fs.map fldD)).flatten.take (Int.toNat 6)).length = 6 := by
      rw [List.length_take, flat_len, List.length_map]
      show min 6 (6 * fs.length) = 6
      omega
    refine fin f s (-1) L t1 t2 _ ((List.replicate (Int.toNat 6) (fs.map fldD)).flatten.take (Int.toNat 6)) _ (Pk.ne n2 (by walk_at "g_pk")) upd_same (((g0.same (hid_mono s2)).rep6 _).take _) n3 n4 (if_pos (by omega)) (fun d hd => cp d (flat_mem (List.mem_of_mem_take hd))) (by omega) (pk2.mono (by omega)) (hb.trans (But.same s2))
  walk_at "go"
  rename_i d3 H3 u1 u2 u3 F n0 T1 n1 d4 H4 u4 u5 u6 T2 n2 T3 n3 T4 n4
  have nF : H2 F = none := by walk_at "g_free"
  have nFa : F ≠ a := by walk_at "g_ne"
  have hN : Int.toNat (if decide (d1 = 6) = true then 1 else 0) ≤ 1 := by split <;> decide
  generalize Int.toNat (if decide (d1 = 6) = true then 1 else 0) = N at *
  obtain ⟨ms, hms, m0, m1, m2⟩ : ∃ ms : List Int, ms.map V.int = [V.int d3] ++ List.map V.int (List.replicate N (d3 + 1 + d4)) ∧ ms[0]? = some d3 ∧ (∀ (i : Nat) z, 1 ≤ i → ms[i]? = some z → z = d3 + 1 + d4) ∧ 1 ≤ ms.length ∧ ms.length ≤ 2 := by
    refine ⟨d3 :: List.replicate N (d3 + 1 + d4), rfl, rfl, fun i z hi h => ?_, ?_⟩
    · obtain ⟨j, rfl⟩ : ∃ j, i = j + 1 := ⟨i - 1, by omega⟩
      rw [List.getElem?_cons_succ] at h
      exact (List.mem_replicate.mp (List.mem_of_getElem? h)).2
    · rw [List.length_cons, List.length_replicate]
      omega
  have hF : upd (upd (upd H4 T2 (.lst [.int (d3 + 1 + d4)])) T3 (.lst (List.map V.int (List.replicate N (d3 + 1 + d4))))) T4 (.lst ([V.int d3] ++ List.map V.int (List.replicate N (d3 + 1 + d4)))) F = some (.lst xs) := by walk_at "g_lk"
  have hb4 : But a H2 (upd (upd (upd H4 T2 (.lst [.int (d3 + 1 + d4)])) T3 (.lst (List.map V.int (List.replicate N (d3 + 1 + d4))))) T4 (.lst ([V.int d3] ++ List.map V.int (List.replicate N (d3 + 1 + d4))))) := by walk_at "g_but"
  have pk4 : Pk a m (upd (upd (upd H4 T2 (.lst [.int (d3 + 1 + d4)])) T3 (.lst (List.map V.int (List.replicate N (d3 + 1 + d4))))) T4 (.lst ([V.int d3] ++ List.map V.int (List.replicate N (d3 + 1 + d4))))) (c + 16) := Pk.mono (by walk_at "g_pk") (by omega)
  have n4F : T4 ≠ F := by walk_at "g_ne"
  have n4a : T4 ≠ a := by walk_at "g_ne"
  generalize hH : upd (upd (upd H4 T2 _) T3 _) T4 _ = H5 at *
  have e4 : H5 T4 = some (.lst (ms.map V.int)) := by rw [← hH, hms]; exact upd_same
  clear hH n0 n1 n2 n3 n4 u3 u6 u2 u5 hms
  have sF : Same (hid [a] H2) (hid [a, F] H5) := fun b o h => by
    have e := hid_same _ _ h
    have h1 := ne_hid h
    exact hid_lk (not_in2 h1 (ne_of_none e nF)) (hb4 _ _ h1 e)
  refine forL (xs := ms.map V.int) (fun i σ H1 => ∃ (ys : List V) (ds : List PyData) (y11 : Option V), σ = [some (.ref a), some (.ref A0), some (.int f), some (.int s), some (.ref p), some (.int d1), some (.int d2), none, none, some (.int d3), some (.ref F), y11] ∧ H1 T4 = some (.lst (ms.map V.int)) ∧ H1 F = some (.lst ys) ∧ DqAll (hid [a, F] H1) ys ds ∧ Pk a m H1 (c + 16 + 100 * (i : Int)) ∧ But a H2 H1 ∧ ys.length = fs.length ∧ (∀ d ∈ ds, CpOk d) ∧ (∀ j : Nat, j < d3.toNat → ds[j]? = (fs.map fldD)[j]?) ∧ (i = 0 → ds = fs.map fldD) ∧ (1 ≤ i → ∃ d, ds[d3.toNat]? = some d ∧ isFldT f s d = false ∧ ∀ j : Nat, i ≤ 1 → j ≠ d3.toNat → ds[j]? = (fs.map fldD)[j]?)) ⟨xs, fs.map fldD, _, rfl, e4, hF, g0.same sF, pk4.mono (by omega), hb4, hl, cp, fun _ _ => rfl, fun _ => rfl, by omega⟩ ?_ ?_ ?_
  · rintro i σ H1 _ ⟨ys, ds, y11, rfl, h1, _⟩
    exact SqL.of h1
  · rintro σ H6 ⟨ys, ds, y11, rfl, r1, r2, r3, r4, r5, r6, r7, r8, r9, r10⟩
    rw [List.length_map] at r4 r10
    obtain ⟨d, e1, e2, _⟩ := r10 (by omega)
    walk_at "go"
    rename_i t1 n1 t2 n2
    have dl : ds.length = fs.length := by rw [← r3.len, r6]
    refine fin f s d3 F t1 t2 ys ds H6 nFa r2 (r3.same fun b o h => ?_) n1 n2 ?_ r7 (by omega) (r4.mono (by omega)) (hb.trans r5)
    · by_cases cb : b ∈ [a, F]
      · rw [hid_in cb] at h
        cases h
      · rw [hid_out cb] at h
        rw [hid_out (fun z => cb (by rw [List.mem_singleton.mp z]; simp))]
        exact h
    · have := bad_at (f := f) (s := s) (ds := ds) ⟨by omega, by omega, by omega, by omega, by omega, by omega⟩ e1 e2 (fun j e hj he => by
        rw [r8 j hj, List.getElem?_map] at he
        cases ef : fs[j]? with
        | none => rw [ef] at he; cases he
        | some x =>
          rw [ef] at he
          cases he
          exact fld_ok.mpr (p3.at ef))
      rw [this]
      simp
      omega
  · rintro i x σ H6 hx ⟨ys, ds, y11, rfl, r1, r2, r3, r4, r5, r6, r7, r8, r9, r10⟩
    obtain ⟨z, rfl, hz⟩ := ints_at hx
    have dl : ds.length = fs.length := by rw [← r3.len, r6]
    have hi : i < ms.length := (List.getElem?_eq_some_iff.mp hz).1
    have zc : (i = 0 ∧ z = d3) ∨ (i = 1 ∧ z = d3 + 1 + d4) := by
      rcases Nat.eq_zero_or_pos i with e | e
      · subst e
        rw [m0] at hz
        exact .inl ⟨rfl, (Option.some.inj hz).symm⟩
      · exact .inr ⟨by omega, m1 i z e hz⟩
    walk_at "go"
    refine ite_d (fun c4 => ?_) (fun c4 => ?_)
    · have zn : z.toNat < fs.length := by omega
      obtain ⟨w, hat, hw⟩ := at_lt (xs := ys) (i := z) (by omega) (by omega)
      obtain ⟨dz, f1, f2⟩ := r3.get' hw
      have f3 : ds[z.toNat]? = (fs.map fldD)[z.toNat]? := by
        rcases zc with ⟨e, rfl⟩ | ⟨e, rfl⟩
        · rw [r9 e]
        · obtain ⟨_, _, _, g⟩ := r10 (by omega)
          exact g _ (by omega) (by omega)
      rw [f1, List.getElem?_map, List.getElem?_eq_getElem zn] at f3
      obtain rfl := Option.some.inj f3
      have ok1 : FldOk f s fs[z.toNat] ∧ FldSm fs[z.toNat] := ⟨p3.ok _ (List.getElem_mem _), p4 _ (List.getElem_mem _)⟩
      have f4 : Dq (hid [a] H6) w (fldD fs[z.toNat]) := f2.same fun b o h => by
        by_cases cb : b ∈ [a, F]
        · rw [hid_in cb] at h
          cases h
        · rw [hid_out cb] at h
          rw [hid_out (fun z => cb (by rw [List.mem_singleton.mp z]; simp))]
          exact h
      have b5 : 0 ≤ f ∧ f ≤ 10 ∧ 0 ≤ s ∧ s ≤ 10 := by omega
      walk_at "go"
      rename_i w' dn G H7 q1 q2 q3 q4 q5 q6 q7
      have GF : G F = none := q2.free r2
      have Ga : G a = none := q2.pk r4
      have r2' := q7 _ _ nFa r2
      have r1' := q7 _ _ n4a r1
      refine i_setL r2' (ixN_nn (by omega) (by omega)) ?_
      walk_at "go"
      have sh : Same (hid [a, F] H6) (hid [a, F] (upd H7 F (.lst (ys.set z.toNat w')))) := (hid_but (by simp) q7).trans (hid_upd (by simp))
      have sG : Same G (hid [a, F] (upd H7 F (.lst (ys.set z.toNat w')))) := (same_hid2 q3 Ga GF).trans (hid_upd (by simp))
      have dz : z.toNat < ds.length := by omega
      refine ⟨ys.set z.toNat w', ds.set z.toNat dn, _, rfl, lk_upd n4F r1', upd_same, DqAll.set (r3.same sh) (q1.same sG) _, (q6.upd nFa).mono (by omega), But.mutD nF (r5.trans q7), by rw [List.length_set]; exact r6, fun d hd => ?_, fun j hj => ?_, by omega, fun _ => ?_⟩
      · rcases List.mem_or_eq_of_mem_set hd with e | e
        · exact r7 d e
        · rw [e]; exact q5
      · rw [List.getElem?_set_ne (by rcases zc with ⟨_, rfl⟩ | ⟨_, rfl⟩ <;> omega)]
        exact r8 j hj
      · rcases zc with ⟨e, rfl⟩ | ⟨e, rfl⟩
        · refine ⟨dn, by rw [List.getElem?_set_self dz], q4, fun j _ hj => ?_⟩
          rw [List.getElem?_set_ne (Ne.symm hj), r9 e]
        · obtain ⟨d, g1, g2, g3⟩ := r10 (by omega)
          exact ⟨d, by rw [List.getElem?_set_ne (by omega)]; exact g1, g2, fun j h1 => by omega⟩
    · walk_at "go"
      refine ⟨ys, ds, _, rfl, r1, r2, r3, r4.mono (by omega), r5, r6, r7, r8, by omega, fun _ => ?_⟩
      rcases zc with ⟨e, rfl⟩ | ⟨e, rfl⟩
      · omega
      · obtain ⟨d, g1, g2, g3⟩ := r10 (by omega)
        exact ⟨d, g1, g2, fun j h1 => by omega⟩

def sp_law (K : PySem.W.Frag) : Sp := fun vs H Q E => ∃ (a : Addr) (ns : List Int), vs = [.ref a] ∧ (SqL K H a (ns.map V.int)) ∧ (ns.length ≤ 63) ∧ ∀ (H' : Hp), Q (.bl true) H'
theorem use_law {K : PySem.W.Frag} {H : Hp} {Q : VK} {E : XK} {a : Addr} {ns : List Int} (p0 : SqL K H a (ns.map V.int)) (p1 : ns.length ≤ 63) (k : ∀ (H' : Hp), Q (.bl true) H') : sp_law K [.ref a] H Q E := ⟨a, ns, rfl, p0, p1, k⟩
theorem len_law {K : PySem.W.Frag} (vs : List V) (H : Hp) (Q : VK) (E : XK) (h : sp_law K vs H Q E) : vs.length = ["_law_script"].length := by
  obtain ⟨_, _, rfl, _⟩ := h
  rfl
theorem ok_law (T : Txt K mg) : FnOk P w K mg base CX0 9 T.a_law T.d_law ["_law_script"] (sp_law K) := by
  have G_l_opened := ok_l_opened (P := P) (w := w) (base := base) T
  have G_l_drawn_battle := ok_l_drawn_battle (P := P) (w := w) (base := base) T
  have G_l_drawn_mix := ok_l_drawn_mix (P := P) (w := w) (base := base) T
  have G_l_other_mixes := ok_l_other_mixes (P := P) (w := w) (base := base) T
  have G_l_bent_one := ok_l_bent_one (P := P) (w := w) (base := base) T
  have G_l_copied := ok_l_copied (P := P) (w := w) (base := base) T
  have G_l_is_it := ok_l_is_it (P := P) (w := w) (base := base) T
  have G_l_caught_by := ok_l_caught_by (P := P) (w := w) (base := base) T
  have G_mixed_gain := ok_mixed_gain (P := P) (w := w) (base := base) T
  have G_l_due_of := ok_l_due_of (P := P) (w := w) (base := base) T
  refine T.F_law.ok sc_law len_law (fun cdv A outer s H vs Q E hr h => ?_)
  refine ⟨_, (pss_cons (ps_for PassesOwn.never rfl (pi_listK K rfl (pe_op op_cat (pe_lst (pa_cons pe_int pa_nil)) (pe_slice (sl_listK K rfl) (pv 0) po_none (po_some pe_int)))) (pg_name (i := 1) sc_law.nd rfl (Or.inl rfl)) (pss_cons (ps_set (i := 2) sc_law.nd rfl (Or.inl rfl) (pe_call G_l_opened (hr.mono (by first | decide | omega)) (by rfl) T.g_l_opened T.F_l_opened.kp T.b_l_opened .nil pass0 (pa_cons (pv 1) pa_nil)))
      (pss_cons (ps_set (i := 3) sc_law.nd rfl (Or.inl rfl) (pe_call G_l_drawn_battle (hr.mono (by first | decide | omega)) (by rfl) T.g_l_drawn_battle T.F_l_drawn_battle.kp T.b_l_drawn_battle .nil pass0 (pa_cons (pv 2) (pa_cons pe_int (pa_cons pe_int pa_nil)))))
      (pss_cons (ps_asg (pv 3) (pg_tupK K rfl 3 rfl (pgs_cons (pg_name (i := 4) sc_law.nd rfl (Or.inl rfl)) (pgs_cons (pg_name (i := 5) sc_law.nd rfl (Or.inl rfl)) (pgs_cons (pg_name (i := 6) sc_law.nd rfl (Or.inl rfl)) pgs_nil)))))
      (pss_cons (ps_set (i := 7) sc_law.nd rfl (Or.inl rfl) (pe_call G_l_drawn_mix (hr.mono (by first | decide | omega)) (by rfl) T.g_l_drawn_mix T.F_l_drawn_mix.kp T.b_l_drawn_mix .nil pass0 (pa_cons (pv 2) (pa_cons (pv 4) (pa_cons (pe_callB (call_lenK K rfl) (by rfl) T.z_len (by decide +kernel) (pa_cons (pv 6) pa_nil)) (pa_cons pe_int pa_nil))))))
      (pss_cons (ps_set (i := 8) sc_law.nd rfl (Or.inl rfl) (pe_call G_l_drawn_mix (hr.mono (by first | decide | omega)) (by rfl) T.g_l_drawn_mix T.F_l_drawn_mix.kp T.b_l_drawn_mix .nil pass0 (pa_cons (pv 2) (pa_cons (pv 5) (pa_cons (pe_callB (call_lenK K rfl) (by rfl) T.z_len (by decide +kernel) (pa_cons (pv 6) pa_nil)) (pa_cons pe_int pa_nil))))))
      (pss_cons (ps_set (i := 9) sc_law.nd rfl (Or.inl rfl) (pe_lst (pa_cons (pe_call G_l_copied (hr.mono (by first | decide | omega)) (by rfl) T.g_l_copied T.F_l_copied.kp T.b_l_copied .nil pass0 (pa_cons (pv 3) pa_nil)) (pa_cons (pe_callTy (call_listK K rfl) (by rfl) T.z_list (by decide +kernel) (pa_cons (pv 7) pa_nil)) (pa_cons (pe_callTy (call_listK K rfl) (by rfl) T.z_list (by decide +kernel) (pa_cons (pv 8) pa_nil)) pa_nil)))))
      (pss_cons (ps_for PassesOwn.never rfl (pi_range1 rfl T.z_range (pa_cons pe_int pa_nil)) (pg_name (i := 10) sc_law.nd rfl (Or.inl rfl)) (pss_one (ps_if (pt_not (pt_val (pe_call G_l_is_it (hr.mono (by first | decide | omega)) (by rfl) T.g_l_is_it T.F_l_is_it.kp T.b_l_is_it .nil pass0 (pa_cons (pe_call G_mixed_gain (hr.mono (by first | decide | omega)) (by rfl) T.g_mixed_gain T.F_mixed_gain.kp T.b_mixed_gain .nil passL (pa_cons (pv 3) (pa_cons (pv 7) (pa_cons (pv 8) pa_nil)))) (pa_cons (pe_call G_l_due_of (hr.mono (by first | decide | omega)) (by rfl) T.g_l_due_of T.F_l_due_of.kp T.b_l_due_of .nil pass0 (pa_cons (pv 3) (pa_cons (pv 7) (pa_cons (pv 8) pa_nil)))) pa_nil))))) (pss_one (ps_ret pe_bl)) pss_nil)))
      (pss_cons (ps_for PassesOwn.never rfl (pi_listK K rfl (pe_call G_l_other_mixes (hr.mono (by first | decide | omega)) (by rfl) T.g_l_other_mixes T.F_l_other_mixes.kp T.b_l_other_mixes .nil pass0 (pa_cons (pv 2) (pa_cons (pv 4) (pa_cons (pe_callB (call_lenK K rfl) (by rfl) T.z_len (by decide +kernel) (pa_cons (pv 6) pa_nil)) pa_nil))))) (pg_name (i := 11) sc_law.nd rfl (Or.inl rfl)) (pss_one (ps_if (pt_cmpR (op_neDK K rfl hr.units) (pe_call G_l_caught_by (hr.mono (by first | decide | omega)) (by rfl) T.g_l_caught_by T.F_l_caught_by.kp T.b_l_caught_by .nil pass0 (pa_cons (pv 3) (pa_cons (pv 11) (pa_cons (pv 8) pa_nil)))) (pe_tup (pa_cons pe_str (pa_cons pe_non pa_nil))) (nomark _)) (pss_one (ps_ret pe_bl)) pss_nil)))
      (pss_cons (ps_for PassesOwn.never rfl (pi_listK K rfl (pe_call G_l_other_mixes (hr.mono (by first | decide | omega)) (by rfl) T.g_l_other_mixes T.F_l_other_mixes.kp T.b_l_other_mixes .nil pass0 (pa_cons (pv 2) (pa_cons (pv 5) (pa_cons (pe_callB (call_lenK K rfl) (by rfl) T.z_len (by decide +kernel) (pa_cons (pv 6) pa_nil)) pa_nil))))) (pg_name (i := 11) sc_law.nd rfl (Or.inl rfl)) (pss_one (ps_if (pt_cmpR (op_neDK K rfl hr.units) (pe_call G_l_caught_by (hr.mono (by first | decide | omega)) (by rfl) T.g_l_caught_by T.F_l_caught_by.kp T.b_l_caught_by .nil pass0 (pa_cons (pv 3) (pa_cons (pv 7) (pa_cons (pv 11) pa_nil)))) (pe_tup (pa_cons pe_str (pa_cons pe_non pa_nil))) (nomark _)) (pss_one (ps_ret pe_bl)) pss_nil)))
      (pss_cons (ps_asg (pe_call G_l_bent_one (hr.mono (by first | decide | omega)) (by rfl) T.g_l_bent_one T.F_l_bent_one.kp T.b_l_bent_one .nil pass0 (pa_cons (pv 2) (pa_cons (pv 3) pa_nil))) (pg_tupK K rfl 2 rfl (pgs_cons (pg_name (i := 12) sc_law.nd rfl (Or.inl rfl)) (pgs_cons (pg_name (i := 13) sc_law.nd rfl (Or.inl rfl)) pgs_nil))))
      (pss_cons (ps_if (PW.pt (pw_or (pt_cmpR (op_neDK K rfl hr.units) (pe_call G_l_caught_by (hr.mono (by first | decide | omega)) (by rfl) T.g_l_caught_by T.F_l_caught_by.kp T.b_l_caught_by .nil pass0 (pa_cons (pv 12) (pa_cons (pe_lst pa_nil) (pa_cons (pv 8) pa_nil)))) (pe_tup (pa_cons pe_str (pa_cons (pv 13) pa_nil))) (nomark _)) (pw_or1 (pt_cmpR (op_neDK K rfl hr.units) (pe_lst (pa_cons (pv 3) (pa_cons (pv 7) (pa_cons (pv 8) pa_nil)))) (pv 9) (nomark _))))) (pss_one (ps_ret pe_bl)) pss_nil)
      (pss_cons (ps_expr (pe_bm PySem.F.plainAttrs_list PySem.F.slot_list_append PySem.F.type_list_append mt_append (pv 7) (pa_cons (pe_tup (pa_cons (pe_callTy (call_listK K rfl) (by rfl) T.z_list (by decide +kernel) (pa_cons (pe_ix (ix_tupK K rfl) (pe_ix (ix_listK K rfl) (pv 7) pe_int (fun _ _ => rfl)) pe_int (fun _ _ => rfl)) pa_nil)) (pa_cons pe_int pa_nil))) pa_nil)))
      (pss_cons (ps_expr (pe_bm PySem.F.plainAttrs_list PySem.F.slot_list_insert PySem.F.type_list_insert mt_insert (pv 8) (pa_cons pe_int (pa_cons (pe_tup (pa_cons (pe_callTy (call_listK K rfl) (by rfl) T.z_list (by decide +kernel) (pa_cons (pe_ix (ix_tupK K rfl) (pe_ix (ix_listK K rfl) (pv 8) (pe_un un_neg pe_int) (fun _ _ => rfl)) pe_int (fun _ _ => rfl)) pa_nil)) (pa_cons pe_int pa_nil))) pa_nil))))
      (pss_one (ps_if (pt_not (pt_val (pe_call G_l_is_it (hr.mono (by first | decide | omega)) (by rfl) T.g_l_is_it T.F_l_is_it.kp T.b_l_is_it .nil pass0 (pa_cons (pe_call G_mixed_gain (hr.mono (by first | decide | omega)) (by rfl) T.g_mixed_gain T.F_mixed_gain.kp T.b_mixed_gain .nil passL (pa_cons (pv 3) (pa_cons (pv 7) (pa_cons (pv 8) pa_nil)))) (pa_cons (pe_call G_l_due_of (hr.mono (by first | decide | omega)) (by rfl) T.g_l_due_of T.F_l_due_of.kp T.b_l_due_of .nil pass0 (pa_cons (pv 3) (pa_cons (pv 7) (pa_cons (pv 8) pa_nil)))) pa_nil))))) (pss_one (ps_ret pe_bl)) pss_nil))))))))))))))))
      (pss_one (ps_ret pe_bl))), ?_⟩
  try dsimp only [L2.cxOf, L2.Cx.nox, L2.Cx.wish, List.map_cons, List.map_nil]
  obtain ⟨a, ns, rfl, p0, p1, k⟩ := h
  refine start_to (σ := [some _, none, none, none, none, none, none, none, none, none, none, none, none, none]) rfl ?_
  walk_at "go"
  rename_i p1 hp1 p2 hp2 p3 hp3
  obtain ⟨ms, hms⟩ : ∃ ms : List Int, [V.int 3] ++ List.map V.int (List.take (Int.toNat 12) ns) = ms.map V.int := ⟨3 :: ns.take 12, rfl⟩
  rw [hms]
  refine forL (xs := ms.map V.int) (fun i σ H1 => ∃ y1 y2 y3 y4 y5 y6 y7 y8 y9 y10 y11 y12 y13 : Option V, σ = [some (.ref a), y1, y2, y3, y4, y5, y6, y7, y8, y9, y10, y11, y12, y13] ∧ H1 p3 = some (.lst (ms.map V.int))) ⟨_, _, _, _, _, _, _, _, _, _, _, _, _, rfl, upd_same⟩ ?_ ?_ ?_
  · rintro i σ H1 _ ⟨y1, y2, y3, y4, y5, y6, y7, y8, y9, y10, y11, y12, y13, rfl, h⟩
    exact SqL.of h
  · rintro σ H1 ⟨y1, y2, y3, y4, y5, y6, y7, y8, y9, y10, y11, y12, y13, rfl, h⟩
    walk_at "go"
    exact k _
  · rintro i x σ H1 hx ⟨y1, y2, y3, y4, y5, y6, y7, y8, y9, y10, y11, y12, y13, rfl, h⟩
    obtain ⟨z, rfl, _⟩ := ints_at hx
    clear hp1 hp2 hp3 p0 p1 hms hx
    walk_at "go"
    rename_i m pL H2 u1 u2 u3 v f s fs G1 H3 b1 b2 b3 b4 b5 b6 b7 b8
    have hp3 : p3 ≠ pL := ne_of_none h u3
    have j3 : H3 p3 = some (.lst (ms.map V.int)) := by walk_at "g_lk"
    have gL : G1 pL = none := b5.pk u1
    obtain ⟨vA, vp, vx, rfl, i1, i2, i3⟩ := bat_inv b1
    have i1' := b6 _ _ i1
    have i2' := b6 _ _ i2
    have il : vx.length = fs.length := by rw [i3.len, List.length_map]
    have c1 := b2.hf
    have c2 := b2.hs
    have c3 := b2.ne
    have c5 : 0 ≤ f ∧ f ≤ 10 ∧ 0 ≤ s ∧ s ≤ 10 := by omega
    have cp : ∀ d ∈ fs.map fldD, CpOk d := fun d hd => by
      obtain ⟨x, hx, rfl⟩ := List.mem_map.mp hd
      exact cp_fld c1.2 c2.2 (b2.ok x hx)
    have cl : (fs.map fldD).length ≤ 10 := by rw [List.length_map]; omega
    clear u1 u2 u3 b5 b8 h
    walk_at "go"
    rename_i v1 mx1 G2 H4 a1 a2 a3 a4 a5 a6 a7 v2 mx2 G3 H5 e1 e2 e3 e4 e5 e6 e7
    have hvl : (vx.length : Int).toNat = fs.length := by omega
    rw [hvl] at a2 e2
    obtain ⟨LA, x1s, rfl, q1, q2⟩ := a1.list_inv
    obtain ⟨LB, x2s, rfl, r1, r2⟩ := e1.list_inv
    have Q1 := parts_hid q1 q2 a2.ne.1
    have Q2 := parts_hid r1 r2 e2.ne.1
    have gL2 : G2 pL = none := a4.pk b7
    have gL3 : G3 pL = none := e4.pk a6
    have hL2H4 : H4 LB = none := e4.back' r1
    have hL1H3 : H3 LA = none := a4.back' q1
    have g1a : G1 LA = none := b6.free hL1H3
    have hL1H4 : H4 LA = some (.lst x1s) := a5 _ _ q1
    have n21 : LB ≠ LA := fun c => by rw [c, hL1H4] at hL2H4; cases hL2H4
    have nL1 : LA ≠ pL := ne_of_none q1 gL2
    have nL2 : LB ≠ pL := ne_of_none r1 gL3
    have g1b : G1 LB = none := ((b6.but a7 gL)).free hL2H4
    have g2b : G2 LB = none := a5.free hL2H4
    have g3a : G3 LA = none := e4.free hL1H4
    have S1 : Same G1 H5 := (b6.but a7 gL).but e7 gL
    have S2 : Same G2 H5 := a5.but e7 gL2
    have j1 : H5 LA = some (.lst x1s) := S2 _ _ q1
    have j2 : H5 LB = some (.lst x2s) := e5 _ _ r1
    have nvp : vp ≠ pL := ne_of_none i2 gL
    have i5 : H5 vp = some (.lst vx) := S1 _ _ i2
    have j5 : H5 p3 = some (.lst (ms.map V.int)) := e7 _ _ hp3 (a7 _ _ hp3 j3)
    have dB : Dq (hid [pL, LA, LB] H5) (.ref vA) (batT f s (fs.map fldD)) := b1.same (same_hidS S1 fun b hb => by
      simp only [List.mem_cons, List.not_mem_nil, or_false] at hb
      rcases hb with rfl | rfl | rfl <;> assumption)
    have d1 : DqAll (hid [pL, LA, LB] H5) x1s (mx1.map partD) := Q1.same (same_hidS (hid_same.trans S2) fun b hb => by
      simp only [List.mem_cons, List.not_mem_nil, or_false] at hb
      rcases hb with rfl | rfl | rfl
      · exact hid_same.free gL2
      · exact hid_in (by simp)
      · exact hid_same.free g2b)
    have d2 : DqAll (hid [pL, LA, LB] H5) x2s (mx2.map partD) := Q2.same (same_hidS (hid_same.trans e5) fun b hb => by
      simp only [List.mem_cons, List.not_mem_nil, or_false] at hb
      rcases hb with rfl | rfl | rfl
      · exact hid_same.free gL3
      · exact hid_same.free g3a
      · exact hid_in (by simp))
    have pkS : ∀ b ∈ [pL, LA, LB], ∃ o, H5 b = some o := fun b hb => by
      simp only [List.mem_cons, List.not_mem_nil, or_false] at hb
      rcases hb with rfl | rfl | rfl
      · exact e6.some
      · exact ⟨_, j1⟩
      · exact ⟨_, j2⟩
    have np3 : p3 ≠ LA := ne_of_none j3 hL1H3
    have np3' : p3 ≠ LB := fun c => by rw [← c, a7 _ _ hp3 j3] at hL2H4; cases hL2H4
    have lx1 : x1s.length ≤ 1000 := by rw [q2.len, List.length_map]; have := a2.ne; omega
    have lx2 : x2s.length ≤ 1000 := by rw [r2.len, List.length_map]; have := e2.ne; omega
    clear a1 a4 a5 a6 a7 e1 e4 e5 e7 b1 b6 b7 Q1 Q2 q1 q2 r1 r2 gL gL2 gL3 hL2H4 hL1H3 g1a hL1H4 g1b g2b g3a S1 S2 i1 i2 i1' i2' i3 j3
    walk_at "go"
    rename_i ka kp kxs H6 k1 k2 k3 k4 k5 l1 m1 l2 m2 KA m3
    generalize hH : upd _ KA _ = H7
    have s67 : Same H6 H7 := by rw [← hH]; walk_at "g_same"
    have jK : H7 KA = some (.lst [.ref ka, .ref l1, .ref l2]) := by rw [← hH]; exact upd_same
    have jl1 : H7 l1 = some (.lst x1s) := by rw [← hH]; walk_at "g_lk"
    have jl2 : H7 l2 = some (.lst x2s) := by rw [← hH]; walk_at "g_lk"
    have f1 : H5 l1 = none := k5.free m1
    have f2 : H5 l2 = none := by walk_at "g_free"
    have f3 : H5 KA = none := by walk_at "g_free"
    have s57 : Same H5 H7 := k5.trans s67
    have nn : ∀ b, H5 b = none → b ∉ [pL, LA, LB] := fun b hb hc => by
      obtain ⟨o, ho⟩ := pkS b hc
      rw [hb] at ho
      cases ho
    have k1' := s67 _ _ k1
    have k2' := s67 _ _ k2
    have nka : ka ∉ [pL, LA, LB] := fun hc => by
      simp only [List.mem_cons, List.not_mem_nil, or_false] at hc
      rcases hc with rfl | rfl | rfl
      · obtain ⟨_, _, e, _⟩ := e6.same s57
        rw [k1'] at e
        cases e
      · rw [s57 _ _ j1] at k1'
        cases k1'
      · rw [s57 _ _ j2] at k1'
        cases k1'
    have b0 : Same (hid [pL, LA, LB] H5) (hid [pL, LA, LB] H7) := hid_mono s57
    have dB7 := dB.same b0
    have d17 := d1.same b0
    have d27 := d2.same b0
    have dK : Dq (hid [pL, LA, LB] H7) (.ref KA) (.list [batD f s fs, mixD mx1, mixD mx2]) := .lst (hid_lk (nn _ f3) jK) (.cons (batT_mk (hid_lk nka k1') (hid_lk (nn _ k4) k2') (k3.same ((hid_less (by simp)).trans (hid_mono s67)))) (.cons (.lst (hid_lk (nn _ f1) jl1) d17) (.cons (.lst (hid_lk (nn _ f2) jl2) d27) .nil)))
    obtain ⟨F, hF⟩ : ∃ F, F = hid [pL, LA, LB] H7 := ⟨_, rfl⟩
    have F1 : F pL = none := by rw [hF]; exact hid_in (by simp)
    have F2 : F LA = none := by rw [hF]; exact hid_in (by simp)
    have F3 : F LB = none := by rw [hF]; exact hid_in (by simp)
    have sF : Same F H7 := by rw [hF]; exact hid_same
    rw [← hF] at dB7 d17 d27 dK
    have j1' := s57 _ _ j1
    have j2' := s57 _ _ j2
    have j5' := s57 _ _ j5
    have pk7 := e6.same s57
    have i7 := s57 _ _ i5
    have lv : vx.length = (fs.map fldD).length := by rw [il, List.length_map]
    have dBF : Dq F (.ref vA) (batD f s fs) := dB7
    have w1 := a2.sm a3
    have w2 := e2.sm e3
    have lF : (fs.map fldD).length = fs.length := List.length_map ..
    have good : badB f s (fs.map fldD) = none ∧ IsMixOf f (fs.map fldD).length (mixD mx1) ∧ IsMixOf s (fs.map fldD).length (mixD mx2) := ⟨bad_ok.mpr b2, ⟨mx1, rfl, by rw [lF]; exact a2.g⟩, ⟨mx2, rfl, by rw [lF]; exact e2.g⟩⟩
    have l20 : mx1.length ≤ 20 ∧ mx2.length ≤ 20 := ⟨a3.1, e3.1⟩
    have gm1 := a2.g
    have gm2 := e2.g
    have fin := bat_in b2
    have ln : (fs.map fldD).length ≤ 1000 := by omega
    have wd1 : wid (mixD mx1) ≤ 1000 ∧ wid (mixD mx2) ≤ 1000 := ⟨a2.wid, e2.wid⟩
    have mxb : badB f s (fs.map fldD) = none → MxB (fs.map fldD) (mixD mx1) (mixD mx2) := fun _ fs' m1' m2' z1 z2 z3 => by
      rw [← map_inj (fun a b e => fldD_inj e) z1, ← mixD_inj z2, ← mixD_inj z3]
      exact ⟨b4, w1, w2⟩
    clear hF hH s67 jK jl1 jl2 f1 f2 f3 m1 m2 m3 k1 k2 k3 k4 k5 k1' k2' nn nka b0 dB d1 d2 j1 j2 j5 pkS s57 e6 i5 a2 e2 a3 e3
    refine forR (fun i σ H8 => ∃ y10 : Option V, σ = [some (.ref a), some (.int z), some (.ref pL), some (.ref vA), some (.int f), some (.int s), some (.ref vp), some (.ref LA), some (.ref LB), some (.ref KA), y10, y11, y12, y13] ∧ Same H7 H8) ⟨_, rfl, Same.refl _⟩ ?_ ?_
    rotate_left
    · rintro i σ H8 hi ⟨y10, rfl, s8⟩
      have x1 : Dq H8 (.ref vA) (batD f s fs) := (dB7.same sF).same s8
      have x1' : Dq H8 (.ref vA) (batT f s (fs.map fldD)) := x1
      have x2 : Dq H8 (.ref LA) (mixD mx1) := dq_mix d17 (s8 _ _ j1') (sF.trans s8)
      have x3 : Dq H8 (.ref LB) (mixD mx2) := dq_mix d27 (s8 _ _ j2') (sF.trans s8)
      walk_at "go"
      rename_i pp H9 g1 g2 g3 qq H10 g4 g5
      have g6 := g5 _ _ (g1 _ _ _ rfl rfl rfl)
      walk_at "go"
      exact ⟨_, rfl, by walk_at "g_same"⟩
    rintro σ H8 ⟨y10, rfl, s8⟩
    have sF8 := sF.trans s8
    have j18 := s8 _ _ j1'
    have j28 := s8 _ _ j2'
    have j58 := s8 _ _ j5'
    have pk8 := pk7.same s8
    have i8 := s8 _ _ i7
    clear sF j1' j2' j5' pk7 s8 i7
    have ll1 : 1 ≤ vx.length ∧ vx.length ≤ 5 := by omega
    walk_at "go"
    rename_i oq oxs oms OG H9 o1 o2 o3 o4 o5 o6 o7 o8 o9
    have sF9 := sF8.but o9 F1
    have j19 := o9 _ _ nL1 j18
    have j29 := o9 _ _ nL2 j28
    have j59 := o9 _ _ hp3 j58
    have i9 := o9 _ _ nvp i8
    clear sF8 j18 j28 j58 i8 pk8 o7 o9
    refine forL (xs := oxs) (fun i σ H8 => ∃ y11 : Option V, σ = [some (.ref a), some (.int z), some (.ref pL), some (.ref vA), some (.int f), some (.int s), some (.ref vp), some (.ref LA), some (.ref LB), some (.ref KA), y10, y11, y12, y13] ∧ Same H9 H8) ⟨_, rfl, Same.refl _⟩ ?_ ?_ ?_
    · rintro i σ H8 _ ⟨y11, rfl, s8⟩
      exact SqL.of (s8 _ _ o1)
    rotate_left
    · rintro i x σ H8 hx ⟨y11, rfl, s8⟩
      obtain ⟨dd, z1, z2⟩ := o2.get' hx
      rw [List.getElem?_map] at z1
      cases z3 : oms[i]? with
      | none => rw [z3] at z1; cases z1
      | some mm =>
      rw [z3] at z1
      cases z1
      obtain ⟨v1, v2, v3⟩ := o3 mm (List.mem_of_getElem? z3)
      have x0 := (z2.same o6).same s8
      have x1' : Dq H8 (.ref vA) (batT f s (fs.map fldD)) := (dB7.same sF9).same s8
      have x3 : Dq H8 (.ref LB) (mixD mx2) := dq_mix d27 (s8 _ _ j29) (sF9.trans s8)
      have wd3 : wid (mixD mm) ≤ 1000 ∧ wid (mixD mx2) ≤ 1000 := ⟨v3, wd1.2⟩
      have mxb' : badB f s (fs.map fldD) = none → MxB (fs.map fldD) (mixD mm) (mixD mx2) := fun _ fs' m1' m2' z1 z2 z3 => by
        rw [← map_inj (fun a b e => fldD_inj e) z1, ← mixD_inj z2, ← mixD_inj z3]
        exact ⟨b4, v2, w2⟩
      have bad : ¬ (badB f s (fs.map fldD) = none ∧ IsMixOf f (fs.map fldD).length (mixD mm) ∧ IsMixOf s (fs.map fldD).length (mixD mx2)) := fun c => v1 (by rw [lv]; exact c.2.1)
      walk_at "go"
      rename_i q1 H11 g1 g2 q2 g3
      rw [good.1] at g1
      refine i_neDq (d := CauD none) (g1.same (Same.new g3)) (.tup upd_same (.cons (.str _) (.cons .non .nil))) (shaped_word0 (by decide +kernel)) ?_
      walk_at "go"
      exact ⟨_, rfl, by walk_at "g_same"⟩
    rintro σ H10 ⟨y11, rfl, s10⟩
    have sFa := sF9.trans s10
    have j1a := s10 _ _ j19
    have j2a := s10 _ _ j29
    have j5a := s10 _ _ j59
    have pka := o8.same s10
    have ia := s10 _ _ i9
    clear o1 o2 o3 o4 o5 o6 o8 sF9 j19 j29 j59 i9 s10
    walk_at "go"
    rename_i oq oxs oms OG H9 o1 o2 o3 o4 o5 o6 o7 o8 o9
    have sF9 := sFa.but o9 F1
    have j19 := o9 _ _ nL1 j1a
    have j29 := o9 _ _ nL2 j2a
    have j59 := o9 _ _ hp3 j5a
    clear sFa j1a j2a j5a ia pka o7 o9
    refine forL (xs := oxs) (fun i σ H8 => ∃ y11 : Option V, σ = [some (.ref a), some (.int z), some (.ref pL), some (.ref vA), some (.int f), some (.int s), some (.ref vp), some (.ref LA), some (.ref LB), some (.ref KA), y10, y11, y12, y13] ∧ Same H9 H8) ⟨_, rfl, Same.refl _⟩ ?_ ?_ ?_
    · rintro i σ H8 _ ⟨y11, rfl, s8⟩
      exact SqL.of (s8 _ _ o1)
    rotate_left
    · rintro i x σ H8 hx ⟨y11, rfl, s8⟩
      obtain ⟨dd, z1, z2⟩ := o2.get' hx
      rw [List.getElem?_map] at z1
      cases z3 : oms[i]? with
      | none => rw [z3] at z1; cases z1
      | some mm =>
      rw [z3] at z1
      cases z1
      obtain ⟨v1, v2, v3⟩ := o3 mm (List.mem_of_getElem? z3)
      have x0 := (z2.same o6).same s8
      have x1' : Dq H8 (.ref vA) (batT f s (fs.map fldD)) := (dB7.same sF9).same s8
      have x3 : Dq H8 (.ref LA) (mixD mx1) := dq_mix d17 (s8 _ _ j19) (sF9.trans s8)
      have wd3 : wid (mixD mx1) ≤ 1000 ∧ wid (mixD mm) ≤ 1000 := ⟨wd1.1, v3⟩
      have mxb' : badB f s (fs.map fldD) = none → MxB (fs.map fldD) (mixD mx1) (mixD mm) := fun _ fs' m1' m2' z1 z2 z3 => by
        rw [← map_inj (fun a b e => fldD_inj e) z1, ← mixD_inj z2, ← mixD_inj z3]
        exact ⟨b4, w1, v2⟩
      have bad : ¬ (badB f s (fs.map fldD) = none ∧ IsMixOf f (fs.map fldD).length (mixD mx1) ∧ IsMixOf s (fs.map fldD).length (mixD mm)) := fun c => v1 (by rw [lv]; exact c.2.2)
      walk_at "go"
      rename_i q1 H11 g1 g2 q2 g3
      rw [good.1] at g1
      refine i_neDq (d := CauD none) (g1.same (Same.new g3)) (.tup upd_same (.cons (.str _) (.cons .non .nil))) (shaped_word0 (by decide +kernel)) ?_
      walk_at "go"
      exact ⟨_, rfl, by walk_at "g_same"⟩
    rintro σ H10 ⟨y11, rfl, s10⟩
    have sFa := sF9.trans s10
    have j1a := s10 _ _ j19
    have j2a := s10 _ _ j29
    have j5a := s10 _ _ j59
    have pka := o8.same s10
    clear o1 o2 o3 o4 o5 o6 o8 sF9 j19 j29 j59 s10
    have dBh : Dq (hid [pL] H10) (.ref vA) (batD f s fs) := dB7.same (same_hid1 sFa F1)
    walk_at "go"
    rename_i bq w f' s' kb ds H11 g1 g2 g3 g4 g5 g6 g7 q0 n0
    have x1 : Dq (upd H11 q0 (.lst [])) w (batT f' s' ds) := (g2.same hid_same).same (Same.new n0)
    have x2 : Dq (upd H11 q0 (.lst [])) (.ref q0) (.list []) := .lst upd_same .nil
    have sFb : Same F (upd H11 q0 (.lst [])) := (sFa.but g7 F1).trans (Same.new n0)
    have j1b : (upd H11 q0 (.lst [])) LA = some (.lst x1s) := Same.new n0 _ _ (g7 _ _ nL1 j1a)
    have j2b : (upd H11 q0 (.lst [])) LB = some (.lst x2s) := Same.new n0 _ _ (g7 _ _ nL2 j2a)
    have j5b : (upd H11 q0 (.lst [])) p3 = some (.lst (ms.map V.int)) := Same.new n0 _ _ (g7 _ _ hp3 j5a)
    have x3 : Dq (upd H11 q0 (.lst [])) (.ref LB) (mixD mx2) := dq_mix d27 j2b sFb
    have fin' : ∀ d ∈ ds, FldIn d := fun d hd => (g4 d hd).fin
    have ln' : ds.length ≤ 1000 := by omega
    have wd3 : wid (.list []) ≤ 1000 ∧ wid (mixD mx2) ≤ 1000 := ⟨by simp [wid, widA], wd1.2⟩
    have mxb' : badB f' s' ds = none → MxB ds (.list []) (mixD mx2) := fun c => by rw [g3] at c; cases c
    have bad : ¬ (badB f' s' ds = none ∧ IsMixOf f' ds.length (.list []) ∧ IsMixOf s' ds.length (mixD mx2)) := fun c => by have := c.1; rw [g3] at this; cases this
    clear g1 g2 g4 g6 g7 sFa j1a j2a j5a dBh pka
    walk_at "go"
    rename_i q1 H12 c1' c2' q2 c3'
    rw [g3] at c1'
    refine i_neDq (d := CauD (some kb)) (c1'.same (Same.new c3')) (.tup upd_same (.cons (.str _) (.cons (.int _) .nil))) (shaped_word (by decide +kernel)) ?_
    walk_at "go"
    rename_i q3 n3
    generalize hH : upd _ q3 _ = H13
    have s13 : Same H12 H13 := by rw [← hH]; walk_at "g_same"
    have jq : H13 q3 = some (.lst [.ref vA, .ref LA, .ref LB]) := by rw [← hH]; exact upd_same
    have s113 := c2'.trans s13
    have sFc := sFb.trans s113
    have j1c := s113 _ _ j1b
    have j2c := s113 _ _ j2b
    have j5c := s113 _ _ j5b
    clear hH s13 s113 sFb j1b j2b j5b c1' c2' c3' n3 x1 x2 x3 fin' mxb' bad mxb good n0
    refine i_neDq (d := .list [batD f s fs, mixD mx1, mixD mx2]) (.lst jq (.cons (dB7.same sFc) (.cons (dq_mix d17 j1c sFc) (.cons (dq_mix d27 j2c sFc) .nil)))) (dK.same sFc) (shaped_kept _ _ _ _ _) ?_
    have l1 : x1s.length = mx1.length := by rw [d17.len, List.length_map]
    have l2 : x2s.length = mx2.length := by rw [d27.len, List.length_map]
    have ne1 := gm1.ne
    have ne2 := gm2.ne
    obtain ⟨x0, hx0⟩ : ∃ x, x1s[0]? = some x := ⟨x1s[0]'(by omega), List.getElem?_eq_getElem _⟩
    obtain ⟨pw, t, p, z1, rfl, z2, z3⟩ := part_at d17 hx0
    have hat : atI x1s 0 = some (.ref t) := atI_nat hx0
    have z2' := sFc _ _ z2
    have z3' := sFc _ _ z3
    have hpw := List.mem_of_getElem? z1
    have hpl := (gm1.pl pw hpw).1.1
    have hpl8 : pw.1.length ≤ 1000 := by have := gm1.fl; omega
    obtain ⟨xz, hxz⟩ : ∃ x, x2s[x2s.length - 1]? = some x := ⟨x2s[x2s.length - 1]'(by omega), List.getElem?_eq_getElem _⟩
    obtain ⟨pv, tz, pz, zz1, rfl, zz2, zz3⟩ := part_at d27 hxz
    have hatz : atI x2s (-1) = some (.ref tz) := atI_end hxz
    have zz2' := sFc _ _ zz2
    have zz3' := sFc _ _ zz3
    have hpv := List.mem_of_getElem? zz1
    have hpvl := (gm2.pl pv hpv).1.1
    have hpvl8 : pv.1.length ≤ 1000 := by have := gm2.fl; omega
    walk_at "go"
    rename_i la na ta nta lb nb tb ntb
    refine ⟨LB, x2s, 0, .ref tb, rfl, rfl, by walk_at "g_lk", sz4' (by omega), by omega, by decide, ?_⟩
    generalize hH : upd _ LB _ = H14
    have k1 : H14 LA = some (.lst (x1s ++ [.ref ta])) := by rw [← hH]; walk_at "g_lk"
    have k2 : H14 LB = some (.lst (.ref tb :: x2s)) := by rw [← hH]; exact upd_same
    have k3 : H14 ta = some (.tup [.ref la, .int 3]) := by rw [← hH]; walk_at "g_lk"
    have k4 : H14 la = some (.lst (pw.1.map V.int)) := by rw [← hH]; walk_at "g_lk"
    have k5 : H14 tb = some (.tup [.ref lb, .int 2]) := by rw [← hH]; walk_at "g_lk"
    have k6 : H14 lb = some (.lst (pv.1.map V.int)) := by rw [← hH]; walk_at "g_lk"
    have k7 : H14 p3 = some (.lst (ms.map V.int)) := by rw [← hH]; walk_at "g_lk"
    have sFd : Same F H14 := by rw [← hH]; walk_at "g_same"
    have y1 : Dq H14 (.ref LA) (mixD (mx1 ++ [(pw.1, 3)])) := .lst k1 (by rw [List.map_append]; exact DqAll.snoc (d17.same sFd) (part_mk k3 k4))
    have y2 : Dq H14 (.ref LB) (mixD ((pv.1, 2) :: mx2)) := .lst k2 (.cons (part_mk k5 k6) (d27.same sFd))
    have y3 : Dq H14 (.ref vA) (batT f s (fs.map fldD)) := dB7.same sFd
    have y4 : Dq H14 (.ref vA) (batD f s fs) := y3
    have gm1' := gm1.snoc (w := 3) (gm1.pl pw hpw).1 (by omega)
    have gm2' := gm2.cons (w := 2) (gm2.pl pv hpv).1 (by omega)
    have w1' := w1.snoc (p := pw.1) (w := 3) (by omega) (by omega)
    have w2' := w2.cons (p := pv.1) (w := 2) (by omega) (by omega)
    have good' : badB f s (fs.map fldD) = none ∧ IsMixOf f (fs.map fldD).length (mixD (mx1 ++ [(pw.1, 3)])) ∧ IsMixOf s (fs.map fldD).length (mixD ((pv.1, 2) :: mx2)) := ⟨bad_ok.mpr b2, ⟨_, rfl, by rw [lF]; exact gm1'⟩, ⟨_, rfl, by rw [lF]; exact gm2'⟩⟩
    have wd1' : wid (mixD (mx1 ++ [(pw.1, 3)])) ≤ 1000 ∧ wid (mixD ((pv.1, 2) :: mx2)) ≤ 1000 := ⟨gm1'.wid (by simp; omega), gm2'.wid (by simp; omega)⟩
    have mxb' : badB f s (fs.map fldD) = none → MxB (fs.map fldD) (mixD (mx1 ++ [(pw.1, 3)])) (mixD ((pv.1, 2) :: mx2)) := fun _ fs' m1' m2' z1 z2 z3 => by
      rw [← map_inj (fun a b e => fldD_inj e) z1, ← mixD_inj z2, ← mixD_inj z3]
      exact ⟨b4, w1', w2'⟩
    clear hH k1 k2 k3 k4 k5 k6 z2' z3' zz2' zz3' na nta nb ntb j1c j2c j5c sFc hat hatz d17 d27 dB7 dBF dK z2 z3 zz2 zz3 jq
    walk_at "go"
    rename_i pp H15 g1' g2' g3' qq H16 g4' g5'
    have g6' := g5' _ _ (g1' _ _ _ rfl rfl rfl)
    walk_at "go"
    exact ⟨_, _, _, _, _, _, _, _, _, _, _, _, _, rfl, by walk_at "g_lk"⟩

end
theorem mk_txt {K : PySem.W.Frag} {h : Heap} {mg : Str → Option Value} {f_NoBattle_init : Addr} {o_NoBattle_init n_NoBattle_init : Option Addr} {w_NoBattle_init : Array (Option Value)} {q1_NoBattle_init q2_NoBattle_init q3_NoBattle_init q4_NoBattle_init q5_NoBattle_init q6_NoBattle_init : Value} {f_is_number : Addr} {o_is_number n_is_number : Option Addr} {w_is_number : Array (Option Value)} {q1_is_number q2_is_number q3_is_number q4_is_number q5_is_number q6_is_number : Value} {f_are_numbers : Addr} {o_are_numbers n_are_numbers : Option Addr} {w_are_numbers : Array (Option Value)} {q1_are_numbers q2_are_numbers q3_are_numbers q4_are_numbers q5_are_numbers q6_are_numbers : Value} {f_is_rule : Addr} {o_is_rule n_is_rule : Option Addr} {w_is_rule : Array (Option Value)} {q1_is_rule q2_is_rule q3_is_rule q4_is_rule q5_is_rule q6_is_rule : Value} {f_is_field : Addr} {o_is_field n_is_field : Option Addr} {w_is_field : Array (Option Value)} {q1_is_field q2_is_field q3_is_field q4_is_field q5_is_field q6_is_field : Value} {f_look_battle : Addr} {o_look_battle n_look_battle : Option Addr} {w_look_battle : Array (Option Value)} {q1_look_battle q2_look_battle q3_look_battle q4_look_battle q5_look_battle q6_look_battle : Value} {f_paid : Addr} {o_paid n_paid : Option Addr} {w_paid : Array (Option Value)} {q1_paid q2_paid q3_paid q4_paid q5_paid q6_paid : Value} {f_is_plan : Addr} {o_is_plan n_is_plan : Option Addr} {w_is_plan : Array (Option Value)} {q1_is_plan q2_is_plan q3_is_plan q4_is_plan q5_is_plan q6_is_plan : Value} {f_won : Addr} {o_won n_won : Option Addr} {w_won : Array (Option Value)} {q1_won q2_won q3_won q4_won q5_won q6_won : Value} {f_is_mix : Addr} {o_is_mix n_is_mix : Option Addr} {w_is_mix : Array (Option Value)} {q1_is_mix q2_is_mix q3_is_mix q4_is_mix q5_is_mix q6_is_mix : Value} {f_divisor : Addr} {o_divisor n_divisor : Option Addr} {w_divisor : Array (Option Value)} {q1_divisor q2_divisor q3_divisor q4_divisor q5_divisor q6_divisor : Value} {f_ratio : Addr} {o_ratio n_ratio : Option Addr} {w_ratio : Array (Option Value)} {q1_ratio q2_ratio q3_ratio q4_ratio q5_ratio q6_ratio : Value} {f_must_be_mix : Addr} {o_must_be_mix n_must_be_mix : Option Addr} {w_must_be_mix : Array (Option Value)} {q1_must_be_mix q2_must_be_mix q3_must_be_mix q4_must_be_mix q5_must_be_mix q6_must_be_mix : Value} {f_whole_of : Addr} {o_whole_of n_whole_of : Option Addr} {w_whole_of : Array (Option Value)} {q1_whole_of q2_whole_of q3_whole_of q4_whole_of q5_whole_of q6_whole_of : Value} {f_must_be_mix_of : Addr} {o_must_be_mix_of n_must_be_mix_of : Option Addr} {w_must_be_mix_of : Array (Option Value)} {q1_must_be_mix_of q2_must_be_mix_of q3_must_be_mix_of q4_must_be_mix_of q5_must_be_mix_of q6_must_be_mix_of : Value} {f_mixed_gain : Addr} {o_mixed_gain n_mixed_gain : Option Addr} {w_mixed_gain : Array (Option Value)} {q1_mixed_gain q2_mixed_gain q3_mixed_gain q4_mixed_gain q5_mixed_gain q6_mixed_gain : Value} {f_l_stirred : Addr} {o_l_stirred n_l_stirred : Option Addr} {w_l_stirred : Array (Option Value)} {q1_l_stirred q2_l_stirred q3_l_stirred q4_l_stirred q5_l_stirred q6_l_stirred : Value} {f_l_opened : Addr} {o_l_opened n_l_opened : Option Addr} {w_l_opened : Array (Option Value)} {q1_l_opened q2_l_opened q3_l_opened q4_l_opened q5_l_opened q6_l_opened : Value} {f_l_draw : Addr} {o_l_draw n_l_draw : Option Addr} {w_l_draw : Array (Option Value)} {q1_l_draw q2_l_draw q3_l_draw q4_l_draw q5_l_draw q6_l_draw : Value} {f_l_in_lowest : Addr} {o_l_in_lowest n_l_in_lowest : Option Addr} {w_l_in_lowest : Array (Option Value)} {q1_l_in_lowest q2_l_in_lowest q3_l_in_lowest q4_l_in_lowest q5_l_in_lowest q6_l_in_lowest : Value} {f_l_drawn_worth : Addr} {o_l_drawn_worth n_l_drawn_worth : Option Addr} {w_l_drawn_worth : Array (Option Value)} {q1_l_drawn_worth q2_l_drawn_worth q3_l_drawn_worth q4_l_drawn_worth q5_l_drawn_worth q6_l_drawn_worth : Value} {f_l_drawn_field : Addr} {o_l_drawn_field n_l_drawn_field : Option Addr} {w_l_drawn_field : Array (Option Value)} {q1_l_drawn_field q2_l_drawn_field q3_l_drawn_field q4_l_drawn_field q5_l_drawn_field q6_l_drawn_field : Value} {f_l_drawn_battle : Addr} {o_l_drawn_battle n_l_drawn_battle : Option Addr} {w_l_drawn_battle : Array (Option Value)} {q1_l_drawn_battle q2_l_drawn_battle q3_l_drawn_battle q4_l_drawn_battle q5_l_drawn_battle q6_l_drawn_battle : Value} {f_l_copied : Addr} {o_l_copied n_l_copied : Option Addr} {w_l_copied : Array (Option Value)} {q1_l_copied q2_l_copied q3_l_copied q4_l_copied q5_l_copied q6_l_copied : Value} {f_l_bad_field : Addr} {o_l_bad_field n_l_bad_field : Option Addr} {w_l_bad_field : Array (Option Value)} {q1_l_bad_field q2_l_bad_field q3_l_bad_field q4_l_bad_field q5_l_bad_field q6_l_bad_field : Value} {f_l_bent_one : Addr} {o_l_bent_one n_l_bent_one : Option Addr} {w_l_bent_one : Array (Option Value)} {q1_l_bent_one q2_l_bent_one q3_l_bent_one q4_l_bent_one q5_l_bent_one q6_l_bent_one : Value} {f_l_pay : Addr} {o_l_pay n_l_pay : Option Addr} {w_l_pay : Array (Option Value)} {q1_l_pay q2_l_pay q3_l_pay q4_l_pay q5_l_pay q6_l_pay : Value} {f_l_drawn_plan : Addr} {o_l_drawn_plan n_l_drawn_plan : Option Addr} {w_l_drawn_plan : Array (Option Value)} {q1_l_drawn_plan q2_l_drawn_plan q3_l_drawn_plan q4_l_drawn_plan q5_l_drawn_plan q6_l_drawn_plan : Value} {f_l_drawn_mix : Addr} {o_l_drawn_mix n_l_drawn_mix : Option Addr} {w_l_drawn_mix : Array (Option Value)} {q1_l_drawn_mix q2_l_drawn_mix q3_l_drawn_mix q4_l_drawn_mix q5_l_drawn_mix q6_l_drawn_mix : Value} {f_l_is_whole : Addr} {o_l_is_whole n_l_is_whole : Option Addr} {w_l_is_whole : Array (Option Value)} {q1_l_is_whole q2_l_is_whole q3_l_is_whole q4_l_is_whole q5_l_is_whole q6_l_is_whole : Value} {f_l_is_it : Addr} {o_l_is_it n_l_is_it : Option Addr} {w_l_is_it : Array (Option Value)} {q1_l_is_it q2_l_is_it q3_l_is_it q4_l_is_it q5_l_is_it q6_l_is_it : Value} {f_l_kind_of : Addr} {o_l_kind_of n_l_kind_of : Option Addr} {w_l_kind_of : Array (Option Value)} {q1_l_kind_of q2_l_kind_of q3_l_kind_of q4_l_kind_of q5_l_kind_of q6_l_kind_of : Value} {f_l_due_of : Addr} {o_l_due_of n_l_due_of : Option Addr} {w_l_due_of : Array (Option Value)} {q1_l_due_of q2_l_due_of q3_l_due_of q4_l_due_of q5_l_due_of q6_l_due_of : Value} {f_l_caught_by : Addr} {o_l_caught_by n_l_caught_by : Option Addr} {w_l_caught_by : Array (Option Value)} {q1_l_caught_by q2_l_caught_by q3_l_caught_by q4_l_caught_by q5_l_caught_by q6_l_caught_by : Value} {f_l_other_mixes : Addr} {o_l_other_mixes n_l_other_mixes : Option Addr} {w_l_other_mixes : Array (Option Value)} {q1_l_other_mixes q2_l_other_mixes q3_l_other_mixes q4_l_other_mixes q5_l_other_mixes q6_l_other_mixes : Value} {f_law : Addr} {o_law n_law : Option Addr} {w_law : Array (Option Value)} {q1_law q2_law q3_law q4_law q5_law q6_law : Value} {t_MOST_HOSTS_fields : Tok} {t_MOST_FIELDS_fields : Tok} {t_MOST_HOSTS_plans : Tok} {t_MOST_FIELDS_plans : Tok} {e_HostError : Addr} {e_NoBattle : Addr} {e_NoPlan : Addr} {e_NoMix : Addr} {e_NoStream : Addr} {e_NoSide : Addr} {e_NoAlike : Addr} {e_NoNumber : Addr} {e_TooGreat : Addr} {e_NoEven : Addr} {e_NoText : Addr} {e_NoRow : Addr} {e_NoName : Addr} {e_NoPlace : Addr} {xn_NoBattle xq_NoBattle : Str} {xN_NoBattle : Addr} {xb_NoBattle : List Value} {xs_NoBattle : List Str} {xu_NoBattle : List Value} {xa_NoBattle : Bool} {xc_NoBattle : Option Bool} {xd_NoBattle : Option Addr} {x0_NoBattle x1_NoBattle x2_NoBattle x3_NoBattle x5_NoBattle : Option Value} (X : K.In h) (G : h.Ns mainGlobals mg)
    (h_HostError : PySem.W.nsIn K mainGlobals "HostError" = some (some (.ref e_HostError)))
    (h_NoBattle : PySem.W.nsIn K mainGlobals "NoBattle" = some (some (.ref e_NoBattle)))
    (h_NoPlan : PySem.W.nsIn K mainGlobals "NoPlan" = some (some (.ref e_NoPlan)))
    (h_NoMix : PySem.W.nsIn K mainGlobals "NoMix" = some (some (.ref e_NoMix)))
    (h_NoStream : PySem.W.nsIn K mainGlobals "NoStream" = some (some (.ref e_NoStream)))
    (h_NoSide : PySem.W.nsIn K mainGlobals "NoSide" = some (some (.ref e_NoSide)))
    (h_NoAlike : PySem.W.nsIn K mainGlobals "NoAlike" = some (some (.ref e_NoAlike)))
    (h_NoNumber : PySem.W.nsIn K mainGlobals "NoNumber" = some (some (.ref e_NoNumber)))
    (h_TooGreat : PySem.W.nsIn K mainGlobals "TooGreat" = some (some (.ref e_TooGreat)))
    (h_NoEven : PySem.W.nsIn K mainGlobals "NoEven" = some (some (.ref e_NoEven)))
    (h_NoText : PySem.W.nsIn K mainGlobals "NoText" = some (some (.ref e_NoText)))
    (h_NoRow : PySem.W.nsIn K mainGlobals "NoRow" = some (some (.ref e_NoRow)))
    (h_NoName : PySem.W.nsIn K mainGlobals "NoName" = some (some (.ref e_NoName)))
    (h_NoPlace : PySem.W.nsIn K mainGlobals "NoPlace" = some (some (.ref e_NoPlace)))
    (ic_NoBattle : PySem.W.findIn K (.ref e_NoBattle) "__init__" = some (some (.ref f_NoBattle_init)))
    (l_NoBattle_init : K.lookup f_NoBattle_init = some ⟨q1_NoBattle_init, o_NoBattle_init, .func (PySem.W.fnOf "__init__" "NoBattle.__init__" (defArgs s_NoBattle_init) (defBody s_NoBattle_init) (defScope s_NoBattle_init) .none q2_NoBattle_init q3_NoBattle_init q4_NoBattle_init n_NoBattle_init q5_NoBattle_init q6_NoBattle_init), w_NoBattle_init⟩)
    (c_NoBattle_init : PySem.W.codeIn K q5_NoBattle_init "NoBattle.__init__" = true)
    (k_NoBattle_init : PySem.W.keepIn K (.ref f_NoBattle_init) = true)
    (a_is_number : PySem.W.nsIn K mainGlobals "is_number" = some (some (.ref f_is_number)))
    (l_is_number : K.lookup f_is_number = some ⟨q1_is_number, o_is_number, .func (PySem.W.fnOf "is_number" "is_number" (defArgs s_is_number) (defBody s_is_number) (defScope s_is_number) .none q2_is_number q3_is_number q4_is_number n_is_number q5_is_number q6_is_number), w_is_number⟩)
    (c_is_number : PySem.W.codeIn K q5_is_number "is_number" = true)
    (k_is_number : PySem.W.keepIn K (.ref f_is_number) = true)
    (a_are_numbers : PySem.W.nsIn K mainGlobals "are_numbers" = some (some (.ref f_are_numbers)))
    (l_are_numbers : K.lookup f_are_numbers = some ⟨q1_are_numbers, o_are_numbers, .func (PySem.W.fnOf "are_numbers" "are_numbers" (defArgs s_are_numbers) (defBody s_are_numbers) (defScope s_are_numbers) .none q2_are_numbers q3_are_numbers q4_are_numbers n_are_numbers q5_are_numbers q6_are_numbers), w_are_numbers⟩)
    (c_are_numbers : PySem.W.codeIn K q5_are_numbers "are_numbers" = true)
    (k_are_numbers : PySem.W.keepIn K (.ref f_are_numbers) = true)
    (a_is_rule : PySem.W.nsIn K mainGlobals "is_rule" = some (some (.ref f_is_rule)))
    (l_is_rule : K.lookup f_is_rule = some ⟨q1_is_rule, o_is_rule, .func (PySem.W.fnOf "is_rule" "is_rule" (defArgs s_is_rule) (defBody s_is_rule) (defScope s_is_rule) .none q2_is_rule q3_is_rule q4_is_rule n_is_rule q5_is_rule q6_is_rule), w_is_rule⟩)
    (c_is_rule : PySem.W.codeIn K q5_is_rule "is_rule" = true)
    (k_is_rule : PySem.W.keepIn K (.ref f_is_rule) = true)
    (a_is_field : PySem.W.nsIn K mainGlobals "is_field" = some (some (.ref f_is_field)))
    (l_is_field : K.lookup f_is_field = some ⟨q1_is_field, o_is_field, .func (PySem.W.fnOf "is_field" "is_field" (defArgs s_is_field) (defBody s_is_field) (defScope s_is_field) .none q2_is_field q3_is_field q4_is_field n_is_field q5_is_field q6_is_field), w_is_field⟩)
    (c_is_field : PySem.W.codeIn K q5_is_field "is_field" = true)
    (k_is_field : PySem.W.keepIn K (.ref f_is_field) = true)
    (a_look_battle : PySem.W.nsIn K mainGlobals "look_battle" = some (some (.ref f_look_battle)))
    (l_look_battle : K.lookup f_look_battle = some ⟨q1_look_battle, o_look_battle, .func (PySem.W.fnOf "look_battle" "look_battle" (defArgs s_look_battle) (defBody s_look_battle) (defScope s_look_battle) .none q2_look_battle q3_look_battle q4_look_battle n_look_battle q5_look_battle q6_look_battle), w_look_battle⟩)
    (c_look_battle : PySem.W.codeIn K q5_look_battle "look_battle" = true)
    (k_look_battle : PySem.W.keepIn K (.ref f_look_battle) = true)
    (a_paid : PySem.W.nsIn K mainGlobals "paid" = some (some (.ref f_paid)))
    (l_paid : K.lookup f_paid = some ⟨q1_paid, o_paid, .func (PySem.W.fnOf "paid" "paid" (defArgs s_paid) (defBody s_paid) (defScope s_paid) .none q2_paid q3_paid q4_paid n_paid q5_paid q6_paid), w_paid⟩)
    (c_paid : PySem.W.codeIn K q5_paid "paid" = true)
    (k_paid : PySem.W.keepIn K (.ref f_paid) = true)
    (a_is_plan : PySem.W.nsIn K mainGlobals "is_plan" = some (some (.ref f_is_plan)))
    (l_is_plan : K.lookup f_is_plan = some ⟨q1_is_plan, o_is_plan, .func (PySem.W.fnOf "is_plan" "is_plan" (defArgs s_is_plan) (defBody s_is_plan) (defScope s_is_plan) .none q2_is_plan q3_is_plan q4_is_plan n_is_plan q5_is_plan q6_is_plan), w_is_plan⟩)
    (c_is_plan : PySem.W.codeIn K q5_is_plan "is_plan" = true)
    (k_is_plan : PySem.W.keepIn K (.ref f_is_plan) = true)
    (a_won : PySem.W.nsIn K mainGlobals "won" = some (some (.ref f_won)))
    (l_won : K.lookup f_won = some ⟨q1_won, o_won, .func (PySem.W.fnOf "won" "won" (defArgs s_won) (defBody s_won) (defScope s_won) .none q2_won q3_won q4_won n_won q5_won q6_won), w_won⟩)
    (c_won : PySem.W.codeIn K q5_won "won" = true)
    (k_won : PySem.W.keepIn K (.ref f_won) = true)
    (a_is_mix : PySem.W.nsIn K mainGlobals "is_mix" = some (some (.ref f_is_mix)))
    (l_is_mix : K.lookup f_is_mix = some ⟨q1_is_mix, o_is_mix, .func (PySem.W.fnOf "is_mix" "is_mix" (defArgs s_is_mix) (defBody s_is_mix) (defScope s_is_mix) .none q2_is_mix q3_is_mix q4_is_mix n_is_mix q5_is_mix q6_is_mix), w_is_mix⟩)
    (c_is_mix : PySem.W.codeIn K q5_is_mix "is_mix" = true)
    (k_is_mix : PySem.W.keepIn K (.ref f_is_mix) = true)
    (a_divisor : PySem.W.nsIn K mainGlobals "divisor" = some (some (.ref f_divisor)))
    (l_divisor : K.lookup f_divisor = some ⟨q1_divisor, o_divisor, .func (PySem.W.fnOf "divisor" "divisor" (defArgs s_divisor) (defBody s_divisor) (defScope s_divisor) .none q2_divisor q3_divisor q4_divisor n_divisor q5_divisor q6_divisor), w_divisor⟩)
    (c_divisor : PySem.W.codeIn K q5_divisor "divisor" = true)
    (k_divisor : PySem.W.keepIn K (.ref f_divisor) = true)
    (a_ratio : PySem.W.nsIn K mainGlobals "ratio" = some (some (.ref f_ratio)))
    (l_ratio : K.lookup f_ratio = some ⟨q1_ratio, o_ratio, .func (PySem.W.fnOf "ratio" "ratio" (defArgs s_ratio) (defBody s_ratio) (defScope s_ratio) .none q2_ratio q3_ratio q4_ratio n_ratio q5_ratio q6_ratio), w_ratio⟩)
    (c_ratio : PySem.W.codeIn K q5_ratio "ratio" = true)
    (k_ratio : PySem.W.keepIn K (.ref f_ratio) = true)
    (a_must_be_mix : PySem.W.nsIn K mainGlobals "must_be_mix" = some (some (.ref f_must_be_mix)))
    (l_must_be_mix : K.lookup f_must_be_mix = some ⟨q1_must_be_mix, o_must_be_mix, .func (PySem.W.fnOf "must_be_mix" "must_be_mix" (defArgs s_must_be_mix) (defBody s_must_be_mix) (defScope s_must_be_mix) .none q2_must_be_mix q3_must_be_mix q4_must_be_mix n_must_be_mix q5_must_be_mix q6_must_be_mix), w_must_be_mix⟩)
    (c_must_be_mix : PySem.W.codeIn K q5_must_be_mix "must_be_mix" = true)
    (k_must_be_mix : PySem.W.keepIn K (.ref f_must_be_mix) = true)
    (a_whole_of : PySem.W.nsIn K mainGlobals "whole_of" = some (some (.ref f_whole_of)))
    (l_whole_of : K.lookup f_whole_of = some ⟨q1_whole_of, o_whole_of, .func (PySem.W.fnOf "whole_of" "whole_of" (defArgs s_whole_of) (defBody s_whole_of) (defScope s_whole_of) .none q2_whole_of q3_whole_of q4_whole_of n_whole_of q5_whole_of q6_whole_of), w_whole_of⟩)
    (c_whole_of : PySem.W.codeIn K q5_whole_of "whole_of" = true)
    (k_whole_of : PySem.W.keepIn K (.ref f_whole_of) = true)
    (a_must_be_mix_of : PySem.W.nsIn K mainGlobals "must_be_mix_of" = some (some (.ref f_must_be_mix_of)))
    (l_must_be_mix_of : K.lookup f_must_be_mix_of = some ⟨q1_must_be_mix_of, o_must_be_mix_of, .func (PySem.W.fnOf "must_be_mix_of" "must_be_mix_of" (defArgs s_must_be_mix_of) (defBody s_must_be_mix_of) (defScope s_must_be_mix_of) .none q2_must_be_mix_of q3_must_be_mix_of q4_must_be_mix_of n_must_be_mix_of q5_must_be_mix_of q6_must_be_mix_of), w_must_be_mix_of⟩)
    (c_must_be_mix_of : PySem.W.codeIn K q5_must_be_mix_of "must_be_mix_of" = true)
    (k_must_be_mix_of : PySem.W.keepIn K (.ref f_must_be_mix_of) = true)
    (a_mixed_gain : PySem.W.nsIn K mainGlobals "mixed_gain" = some (some (.ref f_mixed_gain)))
    (l_mixed_gain : K.lookup f_mixed_gain = some ⟨q1_mixed_gain, o_mixed_gain, .func (PySem.W.fnOf "mixed_gain" "mixed_gain" (defArgs s_mixed_gain) (defBody s_mixed_gain) (defScope s_mixed_gain) .none q2_mixed_gain q3_mixed_gain q4_mixed_gain n_mixed_gain q5_mixed_gain q6_mixed_gain), w_mixed_gain⟩)
    (c_mixed_gain : PySem.W.codeIn K q5_mixed_gain "mixed_gain" = true)
    (k_mixed_gain : PySem.W.keepIn K (.ref f_mixed_gain) = true)
    (a_l_stirred : PySem.W.nsIn K mainGlobals "_law_stirred" = some (some (.ref f_l_stirred)))
    (l_l_stirred : K.lookup f_l_stirred = some ⟨q1_l_stirred, o_l_stirred, .func (PySem.W.fnOf "_law_stirred" "_law_stirred" (defArgs s_l_stirred) (defBody s_l_stirred) (defScope s_l_stirred) .none q2_l_stirred q3_l_stirred q4_l_stirred n_l_stirred q5_l_stirred q6_l_stirred), w_l_stirred⟩)
    (c_l_stirred : PySem.W.codeIn K q5_l_stirred "_law_stirred" = true)
    (k_l_stirred : PySem.W.keepIn K (.ref f_l_stirred) = true)
    (a_l_opened : PySem.W.nsIn K mainGlobals "_law_opened" = some (some (.ref f_l_opened)))
    (l_l_opened : K.lookup f_l_opened = some ⟨q1_l_opened, o_l_opened, .func (PySem.W.fnOf "_law_opened" "_law_opened" (defArgs s_l_opened) (defBody s_l_opened) (defScope s_l_opened) .none q2_l_opened q3_l_opened q4_l_opened n_l_opened q5_l_opened q6_l_opened), w_l_opened⟩)
    (c_l_opened : PySem.W.codeIn K q5_l_opened "_law_opened" = true)
    (k_l_opened : PySem.W.keepIn K (.ref f_l_opened) = true)
    (a_l_draw : PySem.W.nsIn K mainGlobals "_law_draw" = some (some (.ref f_l_draw)))
    (l_l_draw : K.lookup f_l_draw = some ⟨q1_l_draw, o_l_draw, .func (PySem.W.fnOf "_law_draw" "_law_draw" (defArgs s_l_draw) (defBody s_l_draw) (defScope s_l_draw) .none q2_l_draw q3_l_draw q4_l_draw n_l_draw q5_l_draw q6_l_draw), w_l_draw⟩)
    (c_l_draw : PySem.W.codeIn K q5_l_draw "_law_draw" = true)
    (k_l_draw : PySem.W.keepIn K (.ref f_l_draw) = true)
    (a_l_in_lowest : PySem.W.nsIn K mainGlobals "_law_in_lowest" = some (some (.ref f_l_in_lowest)))
    (l_l_in_lowest : K.lookup f_l_in_lowest = some ⟨q1_l_in_lowest, o_l_in_lowest, .func (PySem.W.fnOf "_law_in_lowest" "_law_in_lowest" (defArgs s_l_in_lowest) (defBody s_l_in_lowest) (defScope s_l_in_lowest) .none q2_l_in_lowest q3_l_in_lowest q4_l_in_lowest n_l_in_lowest q5_l_in_lowest q6_l_in_lowest), w_l_in_lowest⟩)
    (c_l_in_lowest : PySem.W.codeIn K q5_l_in_lowest "_law_in_lowest" = true)
    (k_l_in_lowest : PySem.W.keepIn K (.ref f_l_in_lowest) = true)
    (a_l_drawn_worth : PySem.W.nsIn K mainGlobals "_law_drawn_worth" = some (some (.ref f_l_drawn_worth)))
    (l_l_drawn_worth : K.lookup f_l_drawn_worth = some ⟨q1_l_drawn_worth, o_l_drawn_worth, .func (PySem.W.fnOf "_law_drawn_worth" "_law_drawn_worth" (defArgs s_l_drawn_worth) (defBody s_l_drawn_worth) (defScope s_l_drawn_worth) .none q2_l_drawn_worth q3_l_drawn_worth q4_l_drawn_worth n_l_drawn_worth q5_l_drawn_worth q6_l_drawn_worth), w_l_drawn_worth⟩)
    (c_l_drawn_worth : PySem.W.codeIn K q5_l_drawn_worth "_law_drawn_worth" = true)
    (k_l_drawn_worth : PySem.W.keepIn K (.ref f_l_drawn_worth) = true)
    (a_l_drawn_field : PySem.W.nsIn K mainGlobals "_law_drawn_field" = some (some (.ref f_l_drawn_field)))
    (l_l_drawn_field : K.lookup f_l_drawn_field = some ⟨q1_l_drawn_field, o_l_drawn_field, .func (PySem.W.fnOf "_law_drawn_field" "_law_drawn_field" (defArgs s_l_drawn_field) (defBody s_l_drawn_field) (defScope s_l_drawn_field) .none q2_l_drawn_field q3_l_drawn_field q4_l_drawn_field n_l_drawn_field q5_l_drawn_field q6_l_drawn_field), w_l_drawn_field⟩)
    (c_l_drawn_field : PySem.W.codeIn K q5_l_drawn_field "_law_drawn_field" = true)
    (k_l_drawn_field : PySem.W.keepIn K (.ref f_l_drawn_field) = true)
    (a_l_drawn_battle : PySem.W.nsIn K mainGlobals "_law_drawn_battle" = some (some (.ref f_l_drawn_battle)))
    (l_l_drawn_battle : K.lookup f_l_drawn_battle = some ⟨q1_l_drawn_battle, o_l_drawn_battle, .func (PySem.W.fnOf "_law_drawn_battle" "_law_drawn_battle" (defArgs s_l_drawn_battle) (defBody s_l_drawn_battle) (defScope s_l_drawn_battle) .none q2_l_drawn_battle q3_l_drawn_battle q4_l_drawn_battle n_l_drawn_battle q5_l_drawn_battle q6_l_drawn_battle), w_l_drawn_battle⟩)
    (c_l_drawn_battle : PySem.W.codeIn K q5_l_drawn_battle "_law_drawn_battle" = true)
    (k_l_drawn_battle : PySem.W.keepIn K (.ref f_l_drawn_battle) = true)
    (a_l_copied : PySem.W.nsIn K mainGlobals "_law_copied" = some (some (.ref f_l_copied)))
    (l_l_copied : K.lookup f_l_copied = some ⟨q1_l_copied, o_l_copied, .func (PySem.W.fnOf "_law_copied" "_law_copied" (defArgs s_l_copied) (defBody s_l_copied) (defScope s_l_copied) .none q2_l_copied q3_l_copied q4_l_copied n_l_copied q5_l_copied q6_l_copied), w_l_copied⟩)
    (c_l_copied : PySem.W.codeIn K q5_l_copied "_law_copied" = true)
    (k_l_copied : PySem.W.keepIn K (.ref f_l_copied) = true)
    (a_l_bad_field : PySem.W.nsIn K mainGlobals "_law_bad_field" = some (some (.ref f_l_bad_field)))
    (l_l_bad_field : K.lookup f_l_bad_field = some ⟨q1_l_bad_field, o_l_bad_field, .func (PySem.W.fnOf "_law_bad_field" "_law_bad_field" (defArgs s_l_bad_field) (defBody s_l_bad_field) (defScope s_l_bad_field) .none q2_l_bad_field q3_l_bad_field q4_l_bad_field n_l_bad_field q5_l_bad_field q6_l_bad_field), w_l_bad_field⟩)
    (c_l_bad_field : PySem.W.codeIn K q5_l_bad_field "_law_bad_field" = true)
    (k_l_bad_field : PySem.W.keepIn K (.ref f_l_bad_field) = true)
    (a_l_bent_one : PySem.W.nsIn K mainGlobals "_law_bent_one" = some (some (.ref f_l_bent_one)))
    (l_l_bent_one : K.lookup f_l_bent_one = some ⟨q1_l_bent_one, o_l_bent_one, .func (PySem.W.fnOf "_law_bent_one" "_law_bent_one" (defArgs s_l_bent_one) (defBody s_l_bent_one) (defScope s_l_bent_one) .none q2_l_bent_one q3_l_bent_one q4_l_bent_one n_l_bent_one q5_l_bent_one q6_l_bent_one), w_l_bent_one⟩)
    (c_l_bent_one : PySem.W.codeIn K q5_l_bent_one "_law_bent_one" = true)
    (k_l_bent_one : PySem.W.keepIn K (.ref f_l_bent_one) = true)
    (a_l_pay : PySem.W.nsIn K mainGlobals "_law_pay" = some (some (.ref f_l_pay)))
    (l_l_pay : K.lookup f_l_pay = some ⟨q1_l_pay, o_l_pay, .func (PySem.W.fnOf "_law_pay" "_law_pay" (defArgs s_l_pay) (defBody s_l_pay) (defScope s_l_pay) .none q2_l_pay q3_l_pay q4_l_pay n_l_pay q5_l_pay q6_l_pay), w_l_pay⟩)
    (c_l_pay : PySem.W.codeIn K q5_l_pay "_law_pay" = true)
    (k_l_pay : PySem.W.keepIn K (.ref f_l_pay) = true)
    (a_l_drawn_plan : PySem.W.nsIn K mainGlobals "_law_drawn_plan" = some (some (.ref f_l_drawn_plan)))
    (l_l_drawn_plan : K.lookup f_l_drawn_plan = some ⟨q1_l_drawn_plan, o_l_drawn_plan, .func (PySem.W.fnOf "_law_drawn_plan" "_law_drawn_plan" (defArgs s_l_drawn_plan) (defBody s_l_drawn_plan) (defScope s_l_drawn_plan) .none q2_l_drawn_plan q3_l_drawn_plan q4_l_drawn_plan n_l_drawn_plan q5_l_drawn_plan q6_l_drawn_plan), w_l_drawn_plan⟩)
    (c_l_drawn_plan : PySem.W.codeIn K q5_l_drawn_plan "_law_drawn_plan" = true)
    (k_l_drawn_plan : PySem.W.keepIn K (.ref f_l_drawn_plan) = true)
    (a_l_drawn_mix : PySem.W.nsIn K mainGlobals "_law_drawn_mix" = some (some (.ref f_l_drawn_mix)))
    (l_l_drawn_mix : K.lookup f_l_drawn_mix = some ⟨q1_l_drawn_mix, o_l_drawn_mix, .func (PySem.W.fnOf "_law_drawn_mix" "_law_drawn_mix" (defArgs s_l_drawn_mix) (defBody s_l_drawn_mix) (defScope s_l_drawn_mix) .none q2_l_drawn_mix q3_l_drawn_mix q4_l_drawn_mix n_l_drawn_mix q5_l_drawn_mix q6_l_drawn_mix), w_l_drawn_mix⟩)
    (c_l_drawn_mix : PySem.W.codeIn K q5_l_drawn_mix "_law_drawn_mix" = true)
    (k_l_drawn_mix : PySem.W.keepIn K (.ref f_l_drawn_mix) = true)
    (a_l_is_whole : PySem.W.nsIn K mainGlobals "_law_is_whole" = some (some (.ref f_l_is_whole)))
    (l_l_is_whole : K.lookup f_l_is_whole = some ⟨q1_l_is_whole, o_l_is_whole, .func (PySem.W.fnOf "_law_is_whole" "_law_is_whole" (defArgs s_l_is_whole) (defBody s_l_is_whole) (defScope s_l_is_whole) .none q2_l_is_whole q3_l_is_whole q4_l_is_whole n_l_is_whole q5_l_is_whole q6_l_is_whole), w_l_is_whole⟩)
    (c_l_is_whole : PySem.W.codeIn K q5_l_is_whole "_law_is_whole" = true)
    (k_l_is_whole : PySem.W.keepIn K (.ref f_l_is_whole) = true)
    (a_l_is_it : PySem.W.nsIn K mainGlobals "_law_is_it" = some (some (.ref f_l_is_it)))
    (l_l_is_it : K.lookup f_l_is_it = some ⟨q1_l_is_it, o_l_is_it, .func (PySem.W.fnOf "_law_is_it" "_law_is_it" (defArgs s_l_is_it) (defBody s_l_is_it) (defScope s_l_is_it) .none q2_l_is_it q3_l_is_it q4_l_is_it n_l_is_it q5_l_is_it q6_l_is_it), w_l_is_it⟩)
    (c_l_is_it : PySem.W.codeIn K q5_l_is_it "_law_is_it" = true)
    (k_l_is_it : PySem.W.keepIn K (.ref f_l_is_it) = true)
    (a_l_kind_of : PySem.W.nsIn K mainGlobals "_law_kind_of" = some (some (.ref f_l_kind_of)))
    (l_l_kind_of : K.lookup f_l_kind_of = some ⟨q1_l_kind_of, o_l_kind_of, .func (PySem.W.fnOf "_law_kind_of" "_law_kind_of" (defArgs s_l_kind_of) (defBody s_l_kind_of) (defScope s_l_kind_of) .none q2_l_kind_of q3_l_kind_of q4_l_kind_of n_l_kind_of q5_l_kind_of q6_l_kind_of), w_l_kind_of⟩)
    (c_l_kind_of : PySem.W.codeIn K q5_l_kind_of "_law_kind_of" = true)
    (k_l_kind_of : PySem.W.keepIn K (.ref f_l_kind_of) = true)
    (a_l_due_of : PySem.W.nsIn K mainGlobals "_law_due_of" = some (some (.ref f_l_due_of)))
    (l_l_due_of : K.lookup f_l_due_of = some ⟨q1_l_due_of, o_l_due_of, .func (PySem.W.fnOf "_law_due_of" "_law_due_of" (defArgs s_l_due_of) (defBody s_l_due_of) (defScope s_l_due_of) .none q2_l_due_of q3_l_due_of q4_l_due_of n_l_due_of q5_l_due_of q6_l_due_of), w_l_due_of⟩)
    (c_l_due_of : PySem.W.codeIn K q5_l_due_of "_law_due_of" = true)
    (k_l_due_of : PySem.W.keepIn K (.ref f_l_due_of) = true)
    (a_l_caught_by : PySem.W.nsIn K mainGlobals "_law_caught_by" = some (some (.ref f_l_caught_by)))
    (l_l_caught_by : K.lookup f_l_caught_by = some ⟨q1_l_caught_by, o_l_caught_by, .func (PySem.W.fnOf "_law_caught_by" "_law_caught_by" (defArgs s_l_caught_by) (defBody s_l_caught_by) (defScope s_l_caught_by) .none q2_l_caught_by q3_l_caught_by q4_l_caught_by n_l_caught_by q5_l_caught_by q6_l_caught_by), w_l_caught_by⟩)
    (c_l_caught_by : PySem.W.codeIn K q5_l_caught_by "_law_caught_by" = true)
    (k_l_caught_by : PySem.W.keepIn K (.ref f_l_caught_by) = true)
    (a_l_other_mixes : PySem.W.nsIn K mainGlobals "_law_other_mixes" = some (some (.ref f_l_other_mixes)))
    (l_l_other_mixes : K.lookup f_l_other_mixes = some ⟨q1_l_other_mixes, o_l_other_mixes, .func (PySem.W.fnOf "_law_other_mixes" "_law_other_mixes" (defArgs s_l_other_mixes) (defBody s_l_other_mixes) (defScope s_l_other_mixes) .none q2_l_other_mixes q3_l_other_mixes q4_l_other_mixes n_l_other_mixes q5_l_other_mixes q6_l_other_mixes), w_l_other_mixes⟩)
    (c_l_other_mixes : PySem.W.codeIn K q5_l_other_mixes "_law_other_mixes" = true)
    (k_l_other_mixes : PySem.W.keepIn K (.ref f_l_other_mixes) = true)
    (a_law : PySem.W.nsIn K mainGlobals "law" = some (some (.ref f_law)))
    (l_law : K.lookup f_law = some ⟨q1_law, o_law, .func (PySem.W.fnOf "law" "law" (defArgs s_law) (defBody s_law) (defScope s_law) .none q2_law q3_law q4_law n_law q5_law q6_law), w_law⟩)
    (c_law : PySem.W.codeIn K q5_law "law" = true)
    (k_law : PySem.W.keepIn K (.ref f_law) = true)
    (z_ValueError : PySem.W.nsIn K mainGlobals "ValueError" = some none)
    (z_abs : PySem.W.nsIn K mainGlobals "abs" = some none)
    (z_bool : PySem.W.nsIn K mainGlobals "bool" = some none)
    (z_enumerate : PySem.W.nsIn K mainGlobals "enumerate" = some none)
    (z_int : PySem.W.nsIn K mainGlobals "int" = some none)
    (z_isinstance : PySem.W.nsIn K mainGlobals "isinstance" = some none)
    (z_len : PySem.W.nsIn K mainGlobals "len" = some none)
    (z_list : PySem.W.nsIn K mainGlobals "list" = some none)
    (z_max : PySem.W.nsIn K mainGlobals "max" = some none)
    (z_min : PySem.W.nsIn K mainGlobals "min" = some none)
    (z_range : PySem.W.nsIn K mainGlobals "range" = some none)
    (z_sum : PySem.W.nsIn K mainGlobals "sum" = some none)
    (z_tuple : PySem.W.nsIn K mainGlobals "tuple" = some none)
    (h_MOST_HOSTS_fields : PySem.W.nsIn K mainGlobals "MOST_HOSTS_fields" = some (some (.int 10 t_MOST_HOSTS_fields)))
    (h_MOST_FIELDS_fields : PySem.W.nsIn K mainGlobals "MOST_FIELDS_fields" = some (some (.int 5 t_MOST_FIELDS_fields)))
    (h_MOST_HOSTS_plans : PySem.W.nsIn K mainGlobals "MOST_HOSTS_plans" = some (some (.int 40 t_MOST_HOSTS_plans)))
    (h_MOST_FIELDS_plans : PySem.W.nsIn K mainGlobals "MOST_FIELDS_plans" = some (some (.int 8 t_MOST_FIELDS_plans)))
    (i_HostError : PySem.W.isClsIn K e_HostError = true)
    (t_HostError : PySem.W.typeIn K (.ref e_HostError) = some (.type "type"))
    (y_HostError : PySem.W.subIn K (.ref e_HostError) (.type "BaseException") = some true)
    (i_NoBattle : PySem.W.isClsIn K e_NoBattle = true)
    (t_NoBattle : PySem.W.typeIn K (.ref e_NoBattle) = some (.type "type"))
    (y_NoBattle : PySem.W.subIn K (.ref e_NoBattle) (.type "BaseException") = some true)
    (i_NoPlan : PySem.W.isClsIn K e_NoPlan = true)
    (t_NoPlan : PySem.W.typeIn K (.ref e_NoPlan) = some (.type "type"))
    (y_NoPlan : PySem.W.subIn K (.ref e_NoPlan) (.type "BaseException") = some true)
    (i_NoMix : PySem.W.isClsIn K e_NoMix = true)
    (t_NoMix : PySem.W.typeIn K (.ref e_NoMix) = some (.type "type"))
    (y_NoMix : PySem.W.subIn K (.ref e_NoMix) (.type "BaseException") = some true)
    (i_NoStream : PySem.W.isClsIn K e_NoStream = true)
    (t_NoStream : PySem.W.typeIn K (.ref e_NoStream) = some (.type "type"))
    (y_NoStream : PySem.W.subIn K (.ref e_NoStream) (.type "BaseException") = some true)
    (i_NoSide : PySem.W.isClsIn K e_NoSide = true)
    (t_NoSide : PySem.W.typeIn K (.ref e_NoSide) = some (.type "type"))
    (y_NoSide : PySem.W.subIn K (.ref e_NoSide) (.type "BaseException") = some true)
    (i_NoAlike : PySem.W.isClsIn K e_NoAlike = true)
    (t_NoAlike : PySem.W.typeIn K (.ref e_NoAlike) = some (.type "type"))
    (y_NoAlike : PySem.W.subIn K (.ref e_NoAlike) (.type "BaseException") = some true)
    (i_NoNumber : PySem.W.isClsIn K e_NoNumber = true)
    (t_NoNumber : PySem.W.typeIn K (.ref e_NoNumber) = some (.type "type"))
    (y_NoNumber : PySem.W.subIn K (.ref e_NoNumber) (.type "BaseException") = some true)
    (i_TooGreat : PySem.W.isClsIn K e_TooGreat = true)
    (t_TooGreat : PySem.W.typeIn K (.ref e_TooGreat) = some (.type "type"))
    (y_TooGreat : PySem.W.subIn K (.ref e_TooGreat) (.type "BaseException") = some true)
    (i_NoEven : PySem.W.isClsIn K e_NoEven = true)
    (t_NoEven : PySem.W.typeIn K (.ref e_NoEven) = some (.type "type"))
    (y_NoEven : PySem.W.subIn K (.ref e_NoEven) (.type "BaseException") = some true)
    (i_NoText : PySem.W.isClsIn K e_NoText = true)
    (t_NoText : PySem.W.typeIn K (.ref e_NoText) = some (.type "type"))
    (y_NoText : PySem.W.subIn K (.ref e_NoText) (.type "BaseException") = some true)
    (i_NoRow : PySem.W.isClsIn K e_NoRow = true)
    (t_NoRow : PySem.W.typeIn K (.ref e_NoRow) = some (.type "type"))
    (y_NoRow : PySem.W.subIn K (.ref e_NoRow) (.type "BaseException") = some true)
    (i_NoName : PySem.W.isClsIn K e_NoName = true)
    (t_NoName : PySem.W.typeIn K (.ref e_NoName) = some (.type "type"))
    (y_NoName : PySem.W.subIn K (.ref e_NoName) (.type "BaseException") = some true)
    (i_NoPlace : PySem.W.isClsIn K e_NoPlace = true)
    (t_NoPlace : PySem.W.typeIn K (.ref e_NoPlace) = some (.type "type"))
    (y_NoPlace : PySem.W.subIn K (.ref e_NoPlace) (.type "BaseException") = some true)
    (x_NoMix : PySem.W.excIn K e_NoMix [.type "ValueError", .type "Exception", .type "BaseException", .type "object"] "ValueError.__new__" = true)
    (k_NoMix : PySem.W.keepIn K (.ref e_NoMix) = true)
    (hg_NoMix : PySem.W.findIn K (.ref e_NoMix) "__getattribute__" = some (some (.builtin "BaseException.__getattribute__")))
    (hk_NoMix : PySem.W.findIn K (.ref e_NoMix) "__getattr__" = some none)
    (hd_NoMix : PySem.W.hasDictIn K e_NoMix = true)
    (ha_NoMix : PySem.W.findIn K (.ref e_NoMix) "__class__" = some (some (.builtin "object.__class__")))
    (hm_NoMix : PySem.W.mroIn K e_NoMix (.type "object") = some true)
    (v_NoMix : PySem.W.subIn K (.ref e_NoMix) (.type "ValueError") = some true)
    (s_NoMix_HostError : PySem.W.subIn K (.ref e_NoMix) (.ref e_HostError) = some true)
    (s_NoMix_NoBattle : PySem.W.subIn K (.ref e_NoMix) (.ref e_NoBattle) = some false)
    (s_NoMix_NoPlan : PySem.W.subIn K (.ref e_NoMix) (.ref e_NoPlan) = some false)
    (s_NoMix_NoMix : PySem.W.subIn K (.ref e_NoMix) (.ref e_NoMix) = some true)
    (s_NoMix_NoStream : PySem.W.subIn K (.ref e_NoMix) (.ref e_NoStream) = some false)
    (s_NoMix_NoSide : PySem.W.subIn K (.ref e_NoMix) (.ref e_NoSide) = some false)
    (s_NoMix_NoAlike : PySem.W.subIn K (.ref e_NoMix) (.ref e_NoAlike) = some false)
    (s_NoMix_NoNumber : PySem.W.subIn K (.ref e_NoMix) (.ref e_NoNumber) = some false)
    (s_NoMix_TooGreat : PySem.W.subIn K (.ref e_NoMix) (.ref e_TooGreat) = some false)
    (s_NoMix_NoEven : PySem.W.subIn K (.ref e_NoMix) (.ref e_NoEven) = some false)
    (s_NoMix_NoText : PySem.W.subIn K (.ref e_NoMix) (.ref e_NoText) = some false)
    (s_NoMix_NoRow : PySem.W.subIn K (.ref e_NoMix) (.ref e_NoRow) = some false)
    (s_NoMix_NoName : PySem.W.subIn K (.ref e_NoMix) (.ref e_NoName) = some false)
    (s_NoMix_NoPlace : PySem.W.subIn K (.ref e_NoMix) (.ref e_NoPlace) = some false)
    (oc_NoBattle : K.lookup e_NoBattle = some (excClassObj xn_NoBattle xq_NoBattle e_NoBattle xN_NoBattle xb_NoBattle (.ref e_HostError :: [.type "ValueError", .type "Exception", .type "BaseException", .type "object"]) true xs_NoBattle xu_NoBattle xa_NoBattle xc_NoBattle xd_NoBattle x0_NoBattle x1_NoBattle x2_NoBattle x3_NoBattle x5_NoBattle "ValueError.__new__"))
    (sa_NoBattle : PySem.W.findIn K (.ref e_NoBattle) "__setattr__" = some (some (.builtin "object.__setattr__")))
    (ti_NoBattle : PySem.W.typeIn K (.ref f_NoBattle_init) = some (.type "function"))
    (no_NoBattle_field : PySem.W.findIn K (.ref e_NoBattle) "field" = some none)
    (rd_HostError : PySem.W.readsIn K e_HostError (.type "type") = true)
    (ga_HostError : PySem.W.specialIn K (.ref e_HostError) "__getattribute__" = some (some (.builtin "type.__getattribute__")))
    (fc_HostError : PySem.W.findCls K (.ref e_HostError) (.type "type") "__init__" = some (.val (.builtin "ValueError.__init__")))
    (k_NoBattle : PySem.W.keepIn K (.ref e_NoBattle) = true)
    (hg_NoBattle : PySem.W.findIn K (.ref e_NoBattle) "__getattribute__" = some (some (.builtin "BaseException.__getattribute__")))
    (hk_NoBattle : PySem.W.findIn K (.ref e_NoBattle) "__getattr__" = some none)
    (hd_NoBattle : PySem.W.hasDictIn K e_NoBattle = true)
    (ha_NoBattle : PySem.W.findIn K (.ref e_NoBattle) "__class__" = some (some (.builtin "object.__class__")))
    (hm_NoBattle : PySem.W.mroIn K e_NoBattle (.type "object") = some true)
    (v_NoBattle : PySem.W.subIn K (.ref e_NoBattle) (.type "ValueError") = some true)
    (s_NoBattle_HostError : PySem.W.subIn K (.ref e_NoBattle) (.ref e_HostError) = some true)
    (s_NoBattle_NoBattle : PySem.W.subIn K (.ref e_NoBattle) (.ref e_NoBattle) = some true)
    (s_NoBattle_NoPlan : PySem.W.subIn K (.ref e_NoBattle) (.ref e_NoPlan) = some false)
    (s_NoBattle_NoMix : PySem.W.subIn K (.ref e_NoBattle) (.ref e_NoMix) = some false)
    (s_NoBattle_NoStream : PySem.W.subIn K (.ref e_NoBattle) (.ref e_NoStream) = some false)
    (s_NoBattle_NoSide : PySem.W.subIn K (.ref e_NoBattle) (.ref e_NoSide) = some false)
    (s_NoBattle_NoAlike : PySem.W.subIn K (.ref e_NoBattle) (.ref e_NoAlike) = some false)
    (s_NoBattle_NoNumber : PySem.W.subIn K (.ref e_NoBattle) (.ref e_NoNumber) = some false)
    (s_NoBattle_TooGreat : PySem.W.subIn K (.ref e_NoBattle) (.ref e_TooGreat) = some false)
    (s_NoBattle_NoEven : PySem.W.subIn K (.ref e_NoBattle) (.ref e_NoEven) = some false)
    (s_NoBattle_NoText : PySem.W.subIn K (.ref e_NoBattle) (.ref e_NoText) = some false)
    (s_NoBattle_NoRow : PySem.W.subIn K (.ref e_NoBattle) (.ref e_NoRow) = some false)
    (s_NoBattle_NoName : PySem.W.subIn K (.ref e_NoBattle) (.ref e_NoName) = some false)
    (s_NoBattle_NoPlace : PySem.W.subIn K (.ref e_NoBattle) (.ref e_NoPlace) = some false)
    (ho_n : PySem.W.specialIn K (.builtin "object.__class__") "__get__" = some (some (.builtin "getset_descriptor.__get__")))
    (ho_t : PySem.W.takesIn K (.builtin "object.__class__") = some true) : ∃ T : Txt K mg, T.a_law = f_law ∧ ∀ (s : Shared) (v : Value), BindsTo s T.d_law ⟨[v], []⟩ [("_law_script", v)] :=
  ⟨{ a_NoBattle_init := f_NoBattle_init,
      d_NoBattle_init := _,
      F_NoBattle_init := fun_mk (st := s_NoBattle_init) l_NoBattle_init c_NoBattle_init k_NoBattle_init,
      b_NoBattle_init := (fun_mk (st := s_NoBattle_init) l_NoBattle_init c_NoBattle_init k_NoBattle_init).binds fun _ _ _ _ _ _ us hl => match us, hl with | [_, _], _ => rfl,
      a_is_number := f_is_number,
      d_is_number := _,
      F_is_number := fun_mk (st := s_is_number) l_is_number c_is_number k_is_number,
      g_is_number := PySem.W.mg_of X G a_is_number,
      b_is_number := (fun_mk (st := s_is_number) l_is_number c_is_number k_is_number).binds fun _ _ _ _ _ _ us hl => match us, hl with | [_], _ => rfl,
      a_are_numbers := f_are_numbers,
      d_are_numbers := _,
      F_are_numbers := fun_mk (st := s_are_numbers) l_are_numbers c_are_numbers k_are_numbers,
      g_are_numbers := PySem.W.mg_of X G a_are_numbers,
      b_are_numbers := (fun_mk (st := s_are_numbers) l_are_numbers c_are_numbers k_are_numbers).binds fun _ _ _ _ _ _ us hl => match us, hl with | [_, _], _ => rfl,
      a_is_rule := f_is_rule,
      d_is_rule := _,
      F_is_rule := fun_mk (st := s_is_rule) l_is_rule c_is_rule k_is_rule,
      g_is_rule := PySem.W.mg_of X G a_is_rule,
      b_is_rule := (fun_mk (st := s_is_rule) l_is_rule c_is_rule k_is_rule).binds fun _ _ _ _ _ _ us hl => match us, hl with | [_], _ => rfl,
      a_is_field := f_is_field,
      d_is_field := _,
      F_is_field := fun_mk (st := s_is_field) l_is_field c_is_field k_is_field,
      g_is_field := PySem.W.mg_of X G a_is_field,
      b_is_field := (fun_mk (st := s_is_field) l_is_field c_is_field k_is_field).binds fun _ _ _ _ _ _ us hl => match us, hl with | [_, _, _], _ => rfl,
      a_look_battle := f_look_battle,
      d_look_battle := _,
      F_look_battle := fun_mk (st := s_look_battle) l_look_battle c_look_battle k_look_battle,
      g_look_battle := PySem.W.mg_of X G a_look_battle,
      b_look_battle := (fun_mk (st := s_look_battle) l_look_battle c_look_battle k_look_battle).binds fun _ _ _ _ _ _ us hl => match us, hl with | [_], _ => rfl,
      a_paid := f_paid,
      d_paid := _,
      F_paid := fun_mk (st := s_paid) l_paid c_paid k_paid,
      g_paid := PySem.W.mg_of X G a_paid,
      b_paid := (fun_mk (st := s_paid) l_paid c_paid k_paid).binds fun _ _ _ _ _ _ us hl => match us, hl with | [_, _, _], _ => rfl,
      a_is_plan := f_is_plan,
      d_is_plan := _,
      F_is_plan := fun_mk (st := s_is_plan) l_is_plan c_is_plan k_is_plan,
      g_is_plan := PySem.W.mg_of X G a_is_plan,
      b_is_plan := (fun_mk (st := s_is_plan) l_is_plan c_is_plan k_is_plan).binds fun _ _ _ _ _ _ us hl => match us, hl with | [_, _, _], _ => rfl,
      a_won := f_won,
      d_won := _,
      F_won := fun_mk (st := s_won) l_won c_won k_won,
      g_won := PySem.W.mg_of X G a_won,
      b_won := (fun_mk (st := s_won) l_won c_won k_won).binds fun _ _ _ _ _ _ us hl => match us, hl with | [_, _, _], _ => rfl,
      a_is_mix := f_is_mix,
      d_is_mix := _,
      F_is_mix := fun_mk (st := s_is_mix) l_is_mix c_is_mix k_is_mix,
      g_is_mix := PySem.W.mg_of X G a_is_mix,
      b_is_mix := (fun_mk (st := s_is_mix) l_is_mix c_is_mix k_is_mix).binds fun _ _ _ _ _ _ us hl => match us, hl with | [_], _ => rfl,
      a_divisor := f_divisor,
      d_divisor := _,
      F_divisor := fun_mk (st := s_divisor) l_divisor c_divisor k_divisor,
      g_divisor := PySem.W.mg_of X G a_divisor,
      b_divisor := (fun_mk (st := s_divisor) l_divisor c_divisor k_divisor).binds fun _ _ _ _ _ _ us hl => match us, hl with | [_, _], _ => rfl,
      a_ratio := f_ratio,
      d_ratio := _,
      F_ratio := fun_mk (st := s_ratio) l_ratio c_ratio k_ratio,
      g_ratio := PySem.W.mg_of X G a_ratio,
      b_ratio := (fun_mk (st := s_ratio) l_ratio c_ratio k_ratio).binds fun _ _ _ _ _ _ us hl => match us, hl with | [_, _], _ => rfl,
      a_must_be_mix := f_must_be_mix,
      d_must_be_mix := _,
      F_must_be_mix := fun_mk (st := s_must_be_mix) l_must_be_mix c_must_be_mix k_must_be_mix,
      g_must_be_mix := PySem.W.mg_of X G a_must_be_mix,
      b_must_be_mix := (fun_mk (st := s_must_be_mix) l_must_be_mix c_must_be_mix k_must_be_mix).binds fun _ _ _ _ _ _ us hl => match us, hl with | [_], _ => rfl,
      a_whole_of := f_whole_of,
      d_whole_of := _,
      F_whole_of := fun_mk (st := s_whole_of) l_whole_of c_whole_of k_whole_of,
      g_whole_of := PySem.W.mg_of X G a_whole_of,
      b_whole_of := (fun_mk (st := s_whole_of) l_whole_of c_whole_of k_whole_of).binds fun _ _ _ _ _ _ us hl => match us, hl with | [_], _ => rfl,
      a_must_be_mix_of := f_must_be_mix_of,
      d_must_be_mix_of := _,
      F_must_be_mix_of := fun_mk (st := s_must_be_mix_of) l_must_be_mix_of c_must_be_mix_of k_must_be_mix_of,
      g_must_be_mix_of := PySem.W.mg_of X G a_must_be_mix_of,
      b_must_be_mix_of := (fun_mk (st := s_must_be_mix_of) l_must_be_mix_of c_must_be_mix_of k_must_be_mix_of).binds fun _ _ _ _ _ _ us hl => match us, hl with | [_, _, _], _ => rfl,
      a_mixed_gain := f_mixed_gain,
      d_mixed_gain := _,
      F_mixed_gain := fun_mk (st := s_mixed_gain) l_mixed_gain c_mixed_gain k_mixed_gain,
      g_mixed_gain := PySem.W.mg_of X G a_mixed_gain,
      b_mixed_gain := (fun_mk (st := s_mixed_gain) l_mixed_gain c_mixed_gain k_mixed_gain).binds fun _ _ _ _ _ _ us hl => match us, hl with | [_, _, _], _ => rfl,
      a_l_stirred := f_l_stirred,
      d_l_stirred := _,
      F_l_stirred := fun_mk (st := s_l_stirred) l_l_stirred c_l_stirred k_l_stirred,
      g_l_stirred := PySem.W.mg_of X G a_l_stirred,
      b_l_stirred := (fun_mk (st := s_l_stirred) l_l_stirred c_l_stirred k_l_stirred).binds fun _ _ _ _ _ _ us hl => match us, hl with | [_, _], _ => rfl,
      a_l_opened := f_l_opened,
      d_l_opened := _,
      F_l_opened := fun_mk (st := s_l_opened) l_l_opened c_l_opened k_l_opened,
      g_l_opened := PySem.W.mg_of X G a_l_opened,
      b_l_opened := (fun_mk (st := s_l_opened) l_l_opened c_l_opened k_l_opened).binds fun _ _ _ _ _ _ us hl => match us, hl with | [_], _ => rfl,
      a_l_draw := f_l_draw,
      d_l_draw := _,
      F_l_draw := fun_mk (st := s_l_draw) l_l_draw c_l_draw k_l_draw,
      g_l_draw := PySem.W.mg_of X G a_l_draw,
      b_l_draw := (fun_mk (st := s_l_draw) l_l_draw c_l_draw k_l_draw).binds fun _ _ _ _ _ _ us hl => match us, hl with | [_, _], _ => rfl,
      a_l_in_lowest := f_l_in_lowest,
      d_l_in_lowest := _,
      F_l_in_lowest := fun_mk (st := s_l_in_lowest) l_l_in_lowest c_l_in_lowest k_l_in_lowest,
      g_l_in_lowest := PySem.W.mg_of X G a_l_in_lowest,
      b_l_in_lowest := (fun_mk (st := s_l_in_lowest) l_l_in_lowest c_l_in_lowest k_l_in_lowest).binds fun _ _ _ _ _ _ us hl => match us, hl with | [_, _], _ => rfl,
      a_l_drawn_worth := f_l_drawn_worth,
      d_l_drawn_worth := _,
      F_l_drawn_worth := fun_mk (st := s_l_drawn_worth) l_l_drawn_worth c_l_drawn_worth k_l_drawn_worth,
      g_l_drawn_worth := PySem.W.mg_of X G a_l_drawn_worth,
      b_l_drawn_worth := (fun_mk (st := s_l_drawn_worth) l_l_drawn_worth c_l_drawn_worth k_l_drawn_worth).binds fun _ _ _ _ _ _ us hl => match us, hl with | [_], _ => rfl,
      a_l_drawn_field := f_l_drawn_field,
      d_l_drawn_field := _,
      F_l_drawn_field := fun_mk (st := s_l_drawn_field) l_l_drawn_field c_l_drawn_field k_l_drawn_field,
      g_l_drawn_field := PySem.W.mg_of X G a_l_drawn_field,
      b_l_drawn_field := (fun_mk (st := s_l_drawn_field) l_l_drawn_field c_l_drawn_field k_l_drawn_field).binds fun _ _ _ _ _ _ us hl => match us, hl with | [_, _, _], _ => rfl,
      a_l_drawn_battle := f_l_drawn_battle,
      d_l_drawn_battle := _,
      F_l_drawn_battle := fun_mk (st := s_l_drawn_battle) l_l_drawn_battle c_l_drawn_battle k_l_drawn_battle,
      g_l_drawn_battle := PySem.W.mg_of X G a_l_drawn_battle,
      b_l_drawn_battle := (fun_mk (st := s_l_drawn_battle) l_l_drawn_battle c_l_drawn_battle k_l_drawn_battle).binds fun _ _ _ _ _ _ us hl => match us, hl with | [_, _, _], _ => rfl,
      a_l_copied := f_l_copied,
      d_l_copied := _,
      F_l_copied := fun_mk (st := s_l_copied) l_l_copied c_l_copied k_l_copied,
      g_l_copied := PySem.W.mg_of X G a_l_copied,
      b_l_copied := (fun_mk (st := s_l_copied) l_l_copied c_l_copied k_l_copied).binds fun _ _ _ _ _ _ us hl => match us, hl with | [_], _ => rfl,
      a_l_bad_field := f_l_bad_field,
      d_l_bad_field := _,
      F_l_bad_field := fun_mk (st := s_l_bad_field) l_l_bad_field c_l_bad_field k_l_bad_field,
      g_l_bad_field := PySem.W.mg_of X G a_l_bad_field,
      b_l_bad_field := (fun_mk (st := s_l_bad_field) l_l_bad_field c_l_bad_field k_l_bad_field).binds fun _ _ _ _ _ _ us hl => match us, hl with | [_, _, _, _], _ => rfl,
      a_l_bent_one := f_l_bent_one,
      d_l_bent_one := _,
      F_l_bent_one := fun_mk (st := s_l_bent_one) l_l_bent_one c_l_bent_one k_l_bent_one,
      g_l_bent_one := PySem.W.mg_of X G a_l_bent_one,
      b_l_bent_one := (fun_mk (st := s_l_bent_one) l_l_bent_one c_l_bent_one k_l_bent_one).binds fun _ _ _ _ _ _ us hl => match us, hl with | [_, _], _ => rfl,
      a_l_pay := f_l_pay,
      d_l_pay := _,
      F_l_pay := fun_mk (st := s_l_pay) l_l_pay c_l_pay k_l_pay,
      g_l_pay := PySem.W.mg_of X G a_l_pay,
      b_l_pay := (fun_mk (st := s_l_pay) l_l_pay c_l_pay k_l_pay).binds fun _ _ _ _ _ _ us hl => match us, hl with | [_, _, _], _ => rfl,
      a_l_drawn_plan := f_l_drawn_plan,
      d_l_drawn_plan := _,
      F_l_drawn_plan := fun_mk (st := s_l_drawn_plan) l_l_drawn_plan c_l_drawn_plan k_l_drawn_plan,
      g_l_drawn_plan := PySem.W.mg_of X G a_l_drawn_plan,
      b_l_drawn_plan := (fun_mk (st := s_l_drawn_plan) l_l_drawn_plan c_l_drawn_plan k_l_drawn_plan).binds fun _ _ _ _ _ _ us hl => match us, hl with | [_, _, _], _ => rfl,
      a_l_drawn_mix := f_l_drawn_mix,
      d_l_drawn_mix := _,
      F_l_drawn_mix := fun_mk (st := s_l_drawn_mix) l_l_drawn_mix c_l_drawn_mix k_l_drawn_mix,
      g_l_drawn_mix := PySem.W.mg_of X G a_l_drawn_mix,
      b_l_drawn_mix := (fun_mk (st := s_l_drawn_mix) l_l_drawn_mix c_l_drawn_mix k_l_drawn_mix).binds fun _ _ _ _ _ _ us hl => match us, hl with | [_, _, _, _], _ => rfl,
      a_l_is_whole := f_l_is_whole,
      d_l_is_whole := _,
      F_l_is_whole := fun_mk (st := s_l_is_whole) l_l_is_whole c_l_is_whole k_l_is_whole,
      g_l_is_whole := PySem.W.mg_of X G a_l_is_whole,
      b_l_is_whole := (fun_mk (st := s_l_is_whole) l_l_is_whole c_l_is_whole k_l_is_whole).binds fun _ _ _ _ _ _ us hl => match us, hl with | [_], _ => rfl,
      a_l_is_it := f_l_is_it,
      d_l_is_it := _,
      F_l_is_it := fun_mk (st := s_l_is_it) l_l_is_it c_l_is_it k_l_is_it,
      g_l_is_it := PySem.W.mg_of X G a_l_is_it,
      b_l_is_it := (fun_mk (st := s_l_is_it) l_l_is_it c_l_is_it k_l_is_it).binds fun _ _ _ _ _ _ us hl => match us, hl with | [_, _], _ => rfl,
      a_l_kind_of := f_l_kind_of,
      d_l_kind_of := _,
      F_l_kind_of := fun_mk (st := s_l_kind_of) l_l_kind_of c_l_kind_of k_l_kind_of,
      g_l_kind_of := PySem.W.mg_of X G a_l_kind_of,
      b_l_kind_of := (fun_mk (st := s_l_kind_of) l_l_kind_of c_l_kind_of k_l_kind_of).binds fun _ _ _ _ _ _ us hl => match us, hl with | [_], _ => rfl,
      a_l_due_of := f_l_due_of,
      d_l_due_of := _,
      F_l_due_of := fun_mk (st := s_l_due_of) l_l_due_of c_l_due_of k_l_due_of,
      g_l_due_of := PySem.W.mg_of X G a_l_due_of,
      b_l_due_of := (fun_mk (st := s_l_due_of) l_l_due_of c_l_due_of k_l_due_of).binds fun _ _ _ _ _ _ us hl => match us, hl with | [_, _, _], _ => rfl,
      a_l_caught_by := f_l_caught_by,
      d_l_caught_by := _,
      F_l_caught_by := fun_mk (st := s_l_caught_by) l_l_caught_by c_l_caught_by k_l_caught_by,
      g_l_caught_by := PySem.W.mg_of X G a_l_caught_by,
      b_l_caught_by := (fun_mk (st := s_l_caught_by) l_l_caught_by c_l_caught_by k_l_caught_by).binds fun _ _ _ _ _ _ us hl => match us, hl with | [_, _, _], _ => rfl,
      a_l_other_mixes := f_l_other_mixes,
      d_l_other_mixes := _,
      F_l_other_mixes := fun_mk (st := s_l_other_mixes) l_l_other_mixes c_l_other_mixes k_l_other_mixes,
      g_l_other_mixes := PySem.W.mg_of X G a_l_other_mixes,
      b_l_other_mixes := (fun_mk (st := s_l_other_mixes) l_l_other_mixes c_l_other_mixes k_l_other_mixes).binds fun _ _ _ _ _ _ us hl => match us, hl with | [_, _, _], _ => rfl,
      a_law := f_law,
      d_law := _,
      F_law := fun_mk (st := s_law) l_law c_law k_law,
      g_law := PySem.W.mg_of X G a_law,
      b_law := (fun_mk (st := s_law) l_law c_law k_law).binds fun _ _ _ _ _ _ us hl => match us, hl with | [_], _ => rfl,
      z_ValueError := PySem.W.mg_none_of X G z_ValueError,
      z_abs := PySem.W.mg_none_of X G z_abs,
      z_bool := PySem.W.mg_none_of X G z_bool,
      z_enumerate := PySem.W.mg_none_of X G z_enumerate,
      z_int := PySem.W.mg_none_of X G z_int,
      z_isinstance := PySem.W.mg_none_of X G z_isinstance,
      z_len := PySem.W.mg_none_of X G z_len,
      z_list := PySem.W.mg_none_of X G z_list,
      z_max := PySem.W.mg_none_of X G z_max,
      z_min := PySem.W.mg_none_of X G z_min,
      z_range := PySem.W.mg_none_of X G z_range,
      z_sum := PySem.W.mg_none_of X G z_sum,
      z_tuple := PySem.W.mg_none_of X G z_tuple,
      t_MOST_HOSTS_fields := t_MOST_HOSTS_fields,
      c_MOST_HOSTS_fields := PySem.W.mg_of X G h_MOST_HOSTS_fields,
      t_MOST_FIELDS_fields := t_MOST_FIELDS_fields,
      c_MOST_FIELDS_fields := PySem.W.mg_of X G h_MOST_FIELDS_fields,
      t_MOST_HOSTS_plans := t_MOST_HOSTS_plans,
      c_MOST_HOSTS_plans := PySem.W.mg_of X G h_MOST_HOSTS_plans,
      t_MOST_FIELDS_plans := t_MOST_FIELDS_plans,
      c_MOST_FIELDS_plans := PySem.W.mg_of X G h_MOST_FIELDS_plans,
      e_HostError := e_HostError,
      g_HostError := PySem.W.mg_of X G h_HostError,
      i_HostError := i_HostError,
      t_HostError := t_HostError,
      y_HostError := y_HostError,
      e_NoBattle := e_NoBattle,
      g_NoBattle := PySem.W.mg_of X G h_NoBattle,
      i_NoBattle := i_NoBattle,
      t_NoBattle := t_NoBattle,
      y_NoBattle := y_NoBattle,
      e_NoPlan := e_NoPlan,
      g_NoPlan := PySem.W.mg_of X G h_NoPlan,
      i_NoPlan := i_NoPlan,
      t_NoPlan := t_NoPlan,
      y_NoPlan := y_NoPlan,
      e_NoMix := e_NoMix,
      g_NoMix := PySem.W.mg_of X G h_NoMix,
      i_NoMix := i_NoMix,
      t_NoMix := t_NoMix,
      y_NoMix := y_NoMix,
      e_NoStream := e_NoStream,
      g_NoStream := PySem.W.mg_of X G h_NoStream,
      i_NoStream := i_NoStream,
      t_NoStream := t_NoStream,
      y_NoStream := y_NoStream,
      e_NoSide := e_NoSide,
      g_NoSide := PySem.W.mg_of X G h_NoSide,
      i_NoSide := i_NoSide,
      t_NoSide := t_NoSide,
      y_NoSide := y_NoSide,
      e_NoAlike := e_NoAlike,
      g_NoAlike := PySem.W.mg_of X G h_NoAlike,
      i_NoAlike := i_NoAlike,
      t_NoAlike := t_NoAlike,
      y_NoAlike := y_NoAlike,
      e_NoNumber := e_NoNumber,
      g_NoNumber := PySem.W.mg_of X G h_NoNumber,
      i_NoNumber := i_NoNumber,
      t_NoNumber := t_NoNumber,
      y_NoNumber := y_NoNumber,
      e_TooGreat := e_TooGreat,
      g_TooGreat := PySem.W.mg_of X G h_TooGreat,
      i_TooGreat := i_TooGreat,
      t_TooGreat := t_TooGreat,
      y_TooGreat := y_TooGreat,
      e_NoEven := e_NoEven,
      g_NoEven := PySem.W.mg_of X G h_NoEven,
      i_NoEven := i_NoEven,
      t_NoEven := t_NoEven,
      y_NoEven := y_NoEven,
      e_NoText := e_NoText,
      g_NoText := PySem.W.mg_of X G h_NoText,
      i_NoText := i_NoText,
      t_NoText := t_NoText,
      y_NoText := y_NoText,
      e_NoRow := e_NoRow,
      g_NoRow := PySem.W.mg_of X G h_NoRow,
      i_NoRow := i_NoRow,
      t_NoRow := t_NoRow,
      y_NoRow := y_NoRow,
      e_NoName := e_NoName,
      g_NoName := PySem.W.mg_of X G h_NoName,
      i_NoName := i_NoName,
      t_NoName := t_NoName,
      y_NoName := y_NoName,
      e_NoPlace := e_NoPlace,
      g_NoPlace := PySem.W.mg_of X G h_NoPlace,
      i_NoPlace := i_NoPlace,
      t_NoPlace := t_NoPlace,
      y_NoPlace := y_NoPlace,
      x_NoMix := x_NoMix,
      k_NoMix := k_NoMix,
      hg_NoMix := hg_NoMix,
      hk_NoMix := hk_NoMix,
      hd_NoMix := hd_NoMix,
      ha_NoMix := ha_NoMix,
      hm_NoMix := hm_NoMix,
      v_NoMix := v_NoMix,
      s_NoMix_HostError := s_NoMix_HostError,
      s_NoMix_NoBattle := s_NoMix_NoBattle,
      s_NoMix_NoPlan := s_NoMix_NoPlan,
      s_NoMix_NoMix := s_NoMix_NoMix,
      s_NoMix_NoStream := s_NoMix_NoStream,
      s_NoMix_NoSide := s_NoMix_NoSide,
      s_NoMix_NoAlike := s_NoMix_NoAlike,
      s_NoMix_NoNumber := s_NoMix_NoNumber,
      s_NoMix_TooGreat := s_NoMix_TooGreat,
      s_NoMix_NoEven := s_NoMix_NoEven,
      s_NoMix_NoText := s_NoMix_NoText,
      s_NoMix_NoRow := s_NoMix_NoRow,
      s_NoMix_NoName := s_NoMix_NoName,
      s_NoMix_NoPlace := s_NoMix_NoPlace,
      oc_NoBattle := ⟨xn_NoBattle, xq_NoBattle, xN_NoBattle, xb_NoBattle, _, xs_NoBattle, xu_NoBattle, xa_NoBattle, xc_NoBattle, xd_NoBattle, x0_NoBattle, x1_NoBattle, x2_NoBattle, x3_NoBattle, x5_NoBattle, oc_NoBattle, (show PySem.HandSPX.refsVE [.type "ValueError", .type "Exception", .type "BaseException", .type "object"] = true by decide +kernel)⟩,
      sa_NoBattle := sa_NoBattle,
      ic_NoBattle := ic_NoBattle,
      ti_NoBattle := ti_NoBattle,
      no_NoBattle_field := no_NoBattle_field,
      rd_HostError := rd_HostError,
      ga_HostError := ga_HostError,
      fc_HostError := fc_HostError,
      k_NoBattle := k_NoBattle,
      hg_NoBattle := hg_NoBattle,
      hk_NoBattle := hk_NoBattle,
      hd_NoBattle := hd_NoBattle,
      ha_NoBattle := ha_NoBattle,
      hm_NoBattle := hm_NoBattle,
      v_NoBattle := v_NoBattle,
      s_NoBattle_HostError := s_NoBattle_HostError,
      s_NoBattle_NoBattle := s_NoBattle_NoBattle,
      s_NoBattle_NoPlan := s_NoBattle_NoPlan,
      s_NoBattle_NoMix := s_NoBattle_NoMix,
      s_NoBattle_NoStream := s_NoBattle_NoStream,
      s_NoBattle_NoSide := s_NoBattle_NoSide,
      s_NoBattle_NoAlike := s_NoBattle_NoAlike,
      s_NoBattle_NoNumber := s_NoBattle_NoNumber,
      s_NoBattle_TooGreat := s_NoBattle_TooGreat,
      s_NoBattle_NoEven := s_NoBattle_NoEven,
      s_NoBattle_NoText := s_NoBattle_NoText,
      s_NoBattle_NoRow := s_NoBattle_NoRow,
      s_NoBattle_NoName := s_NoBattle_NoName,
      s_NoBattle_NoPlace := s_NoBattle_NoPlace,
      ho_n := ho_n,
      ho_t := ho_t }, rfl, fun _ _ => .of_eq rfl⟩
theorem all_mk {P : Program} {w : World} {K : PySem.W.Frag} {h : Heap} {mg : Str → Option Value} {fa : Addr} {f_NoBattle_init : Addr} {o_NoBattle_init n_NoBattle_init : Option Addr} {w_NoBattle_init : Array (Option Value)} {q1_NoBattle_init q2_NoBattle_init q3_NoBattle_init q4_NoBattle_init q5_NoBattle_init q6_NoBattle_init : Value} {f_is_number : Addr} {o_is_number n_is_number : Option Addr} {w_is_number : Array (Option Value)} {q1_is_number q2_is_number q3_is_number q4_is_number q5_is_number q6_is_number : Value} {f_are_numbers : Addr} {o_are_numbers n_are_numbers : Option Addr} {w_are_numbers : Array (Option Value)} {q1_are_numbers q2_are_numbers q3_are_numbers q4_are_numbers q5_are_numbers q6_are_numbers : Value} {f_is_rule : Addr} {o_is_rule n_is_rule : Option Addr} {w_is_rule : Array (Option Value)} {q1_is_rule q2_is_rule q3_is_rule q4_is_rule q5_is_rule q6_is_rule : Value} {f_is_field : Addr} {o_is_field n_is_field : Option Addr} {w_is_field : Array (Option Value)} {q1_is_field q2_is_field q3_is_field q4_is_field q5_is_field q6_is_field : Value} {f_look_battle : Addr} {o_look_battle n_look_battle : Option Addr} {w_look_battle : Array (Option Value)} {q1_look_battle q2_look_battle q3_look_battle q4_look_battle q5_look_battle q6_look_battle : Value} {f_paid : Addr} {o_paid n_paid : Option Addr} {w_paid : Array (Option Value)} {q1_paid q2_paid q3_paid q4_paid q5_paid q6_paid : Value} {f_is_plan : Addr} {o_is_plan n_is_plan : Option Addr} {w_is_plan : Array (Option Value)} {q1_is_plan q2_is_plan q3_is_plan q4_is_plan q5_is_plan q6_is_plan : Value} {f_won : Addr} {o_won n_won : Option Addr} {w_won : Array (Option Value)} {q1_won q2_won q3_won q4_won q5_won q6_won : Value} {f_is_mix : Addr} {o_is_mix n_is_mix : Option Addr} {w_is_mix : Array (Option Value)} {q1_is_mix q2_is_mix q3_is_mix q4_is_mix q5_is_mix q6_is_mix : Value} {f_divisor : Addr} {o_divisor n_divisor : Option Addr} {w_divisor : Array (Option Value)} {q1_divisor q2_divisor q3_divisor q4_divisor q5_divisor q6_divisor : Value} {f_ratio : Addr} {o_ratio n_ratio : Option Addr} {w_ratio : Array (Option Value)} {q1_ratio q2_ratio q3_ratio q4_ratio q5_ratio q6_ratio : Value} {f_must_be_mix : Addr} {o_must_be_mix n_must_be_mix : Option Addr} {w_must_be_mix : Array (Option Value)} {q1_must_be_mix q2_must_be_mix q3_must_be_mix q4_must_be_mix q5_must_be_mix q6_must_be_mix : Value} {f_whole_of : Addr} {o_whole_of n_whole_of : Option Addr} {w_whole_of : Array (Option Value)} {q1_whole_of q2_whole_of q3_whole_of q4_whole_of q5_whole_of q6_whole_of : Value} {f_must_be_mix_of : Addr} {o_must_be_mix_of n_must_be_mix_of : Option Addr} {w_must_be_mix_of : Array (Option Value)} {q1_must_be_mix_of q2_must_be_mix_of q3_must_be_mix_of q4_must_be_mix_of q5_must_be_mix_of q6_must_be_mix_of : Value} {f_mixed_gain : Addr} {o_mixed_gain n_mixed_gain : Option Addr} {w_mixed_gain : Array (Option Value)} {q1_mixed_gain q2_mixed_gain q3_mixed_gain q4_mixed_gain q5_mixed_gain q6_mixed_gain : Value} {f_l_stirred : Addr} {o_l_stirred n_l_stirred : Option Addr} {w_l_stirred : Array (Option Value)} {q1_l_stirred q2_l_stirred q3_l_stirred q4_l_stirred q5_l_stirred q6_l_stirred : Value} {f_l_opened : Addr} {o_l_opened n_l_opened : Option Addr} {w_l_opened : Array (Option Value)} {q1_l_opened q2_l_opened q3_l_opened q4_l_opened q5_l_opened q6_l_opened : Value} {f_l_draw : Addr} {o_l_draw n_l_draw : Option Addr} {w_l_draw : Array (Option Value)} {q1_l_draw q2_l_draw q3_l_draw q4_l_draw q5_l_draw q6_l_draw : Value} {f_l_in_lowest : Addr} {o_l_in_lowest n_l_in_lowest : Option Addr} {w_l_in_lowest : Array (Option Value)} {q1_l_in_lowest q2_l_in_lowest q3_l_in_lowest q4_l_in_lowest q5_l_in_lowest q6_l_in_lowest : Value} {f_l_drawn_worth : Addr} {o_l_drawn_worth n_l_drawn_worth : Option Addr} {w_l_drawn_worth : Array (Option Value)} {q1_l_drawn_worth q2_l_drawn_worth q3_l_drawn_worth q4_l_drawn_worth q5_l_drawn_worth q6_l_drawn_worth : Value} {f_l_drawn_field : Addr} {o_l_drawn_field n_l_drawn_field : Option Addr} {w_l_drawn_field : Array (Option Value)} {q1_l_drawn_field q2_l_drawn_field q3_l_drawn_field q4_l_drawn_field q5_l_drawn_field q6_l_drawn_field : Value} {f_l_drawn_battle : Addr} {o_l_drawn_battle n_l_drawn_battle : Option Addr} {w_l_drawn_battle : Array (Option Value)} {q1_l_drawn_battle q2_l_drawn_battle q3_l_drawn_battle q4_l_drawn_battle q5_l_drawn_battle q6_l_drawn_battle : Value} {f_l_copied : Addr} {o_l_copied n_l_copied : Option Addr} {w_l_copied : Array (Option Value)} {q1_l_copied q2_l_copied q3_l_copied q4_l_copied q5_l_copied q6_l_copied : Value} {f_l_bad_field : Addr} {o_l_bad_field n_l_bad_field : Option Addr} {w_l_bad_field : Array (Option Value)} {q1_l_bad_field q2_l_bad_field q3_l_bad_field q4_l_bad_field q5_l_bad_field q6_l_bad_field : Value} {f_l_bent_one : Addr} {o_l_bent_one n_l_bent_one : Option Addr} {w_l_bent_one : Array (Option Value)} {q1_l_bent_one q2_l_bent_one q3_l_bent_one q4_l_bent_one q5_l_bent_one q6_l_bent_one : Value} {f_l_pay : Addr} {o_l_pay n_l_pay : Option Addr} {w_l_pay : Array (Option Value)} {q1_l_pay q2_l_pay q3_l_pay q4_l_pay q5_l_pay q6_l_pay : Value} {f_l_drawn_plan : Addr} {o_l_drawn_plan n_l_drawn_plan : Option Addr} {w_l_drawn_plan : Array (Option Value)} {q1_l_drawn_plan q2_l_drawn_plan q3_l_drawn_plan q4_l_drawn_plan q5_l_drawn_plan q6_l_drawn_plan : Value} {f_l_drawn_mix : Addr} {o_l_drawn_mix n_l_drawn_mix : Option Addr} {w_l_drawn_mix : Array (Option Value)} {q1_l_drawn_mix q2_l_drawn_mix q3_l_drawn_mix q4_l_drawn_mix q5_l_drawn_mix q6_l_drawn_mix : Value} {f_l_is_whole : Addr} {o_l_is_whole n_l_is_whole : Option Addr} {w_l_is_whole : Array (Option Value)} {q1_l_is_whole q2_l_is_whole q3_l_is_whole q4_l_is_whole q5_l_is_whole q6_l_is_whole : Value} {f_l_is_it : Addr} {o_l_is_it n_l_is_it : Option Addr} {w_l_is_it : Array (Option Value)} {q1_l_is_it q2_l_is_it q3_l_is_it q4_l_is_it q5_l_is_it q6_l_is_it : Value} {f_l_kind_of : Addr} {o_l_kind_of n_l_kind_of : Option Addr} {w_l_kind_of : Array (Option Value)} {q1_l_kind_of q2_l_kind_of q3_l_kind_of q4_l_kind_of q5_l_kind_of q6_l_kind_of : Value} {f_l_due_of : Addr} {o_l_due_of n_l_due_of : Option Addr} {w_l_due_of : Array (Option Value)} {q1_l_due_of q2_l_due_of q3_l_due_of q4_l_due_of q5_l_due_of q6_l_due_of : Value} {f_l_caught_by : Addr} {o_l_caught_by n_l_caught_by : Option Addr} {w_l_caught_by : Array (Option Value)} {q1_l_caught_by q2_l_caught_by q3_l_caught_by q4_l_caught_by q5_l_caught_by q6_l_caught_by : Value} {f_l_other_mixes : Addr} {o_l_other_mixes n_l_other_mixes : Option Addr} {w_l_other_mixes : Array (Option Value)} {q1_l_other_mixes q2_l_other_mixes q3_l_other_mixes q4_l_other_mixes q5_l_other_mixes q6_l_other_mixes : Value} {f_law : Addr} {o_law n_law : Option Addr} {w_law : Array (Option Value)} {q1_law q2_law q3_law q4_law q5_law q6_law : Value} {t_MOST_HOSTS_fields : Tok} {t_MOST_FIELDS_fields : Tok} {t_MOST_HOSTS_plans : Tok} {t_MOST_FIELDS_plans : Tok} {e_HostError : Addr} {e_NoBattle : Addr} {e_NoPlan : Addr} {e_NoMix : Addr} {e_NoStream : Addr} {e_NoSide : Addr} {e_NoAlike : Addr} {e_NoNumber : Addr} {e_TooGreat : Addr} {e_NoEven : Addr} {e_NoText : Addr} {e_NoRow : Addr} {e_NoName : Addr} {e_NoPlace : Addr} {xn_NoBattle xq_NoBattle : Str} {xN_NoBattle : Addr} {xb_NoBattle : List Value} {xs_NoBattle : List Str} {xu_NoBattle : List Value} {xa_NoBattle : Bool} {xc_NoBattle : Option Bool} {xd_NoBattle : Option Addr} {x0_NoBattle x1_NoBattle x2_NoBattle x3_NoBattle x5_NoBattle : Option Value} (X : K.In h) (G : h.Ns mainGlobals mg) (hfa : mg "law" = some (.ref fa))
    (h_HostError : PySem.W.nsIn K mainGlobals "HostError" = some (some (.ref e_HostError)))
    (h_NoBattle : PySem.W.nsIn K mainGlobals "NoBattle" = some (some (.ref e_NoBattle)))
    (h_NoPlan : PySem.W.nsIn K mainGlobals "NoPlan" = some (some (.ref e_NoPlan)))
    (h_NoMix : PySem.W.nsIn K mainGlobals "NoMix" = some (some (.ref e_NoMix)))
    (h_NoStream : PySem.W.nsIn K mainGlobals "NoStream" = some (some (.ref e_NoStream)))
    (h_NoSide : PySem.W.nsIn K mainGlobals "NoSide" = some (some (.ref e_NoSide)))
    (h_NoAlike : PySem.W.nsIn K mainGlobals "NoAlike" = some (some (.ref e_NoAlike)))
    (h_NoNumber : PySem.W.nsIn K mainGlobals "NoNumber" = some (some (.ref e_NoNumber)))
    (h_TooGreat : PySem.W.nsIn K mainGlobals "TooGreat" = some (some (.ref e_TooGreat)))
    (h_NoEven : PySem.W.nsIn K mainGlobals "NoEven" = some (some (.ref e_NoEven)))
    (h_NoText : PySem.W.nsIn K mainGlobals "NoText" = some (some (.ref e_NoText)))
    (h_NoRow : PySem.W.nsIn K mainGlobals "NoRow" = some (some (.ref e_NoRow)))
    (h_NoName : PySem.W.nsIn K mainGlobals "NoName" = some (some (.ref e_NoName)))
    (h_NoPlace : PySem.W.nsIn K mainGlobals "NoPlace" = some (some (.ref e_NoPlace)))
    (ic_NoBattle : PySem.W.findIn K (.ref e_NoBattle) "__init__" = some (some (.ref f_NoBattle_init)))
    (l_NoBattle_init : K.lookup f_NoBattle_init = some ⟨q1_NoBattle_init, o_NoBattle_init, .func (PySem.W.fnOf "__init__" "NoBattle.__init__" (defArgs s_NoBattle_init) (defBody s_NoBattle_init) (defScope s_NoBattle_init) .none q2_NoBattle_init q3_NoBattle_init q4_NoBattle_init n_NoBattle_init q5_NoBattle_init q6_NoBattle_init), w_NoBattle_init⟩)
    (c_NoBattle_init : PySem.W.codeIn K q5_NoBattle_init "NoBattle.__init__" = true)
    (k_NoBattle_init : PySem.W.keepIn K (.ref f_NoBattle_init) = true)
    (a_is_number : PySem.W.nsIn K mainGlobals "is_number" = some (some (.ref f_is_number)))
    (l_is_number : K.lookup f_is_number = some ⟨q1_is_number, o_is_number, .func (PySem.W.fnOf "is_number" "is_number" (defArgs s_is_number) (defBody s_is_number) (defScope s_is_number) .none q2_is_number q3_is_number q4_is_number n_is_number q5_is_number q6_is_number), w_is_number⟩)
    (c_is_number : PySem.W.codeIn K q5_is_number "is_number" = true)
    (k_is_number : PySem.W.keepIn K (.ref f_is_number) = true)
    (a_are_numbers : PySem.W.nsIn K mainGlobals "are_numbers" = some (some (.ref f_are_numbers)))
    (l_are_numbers : K.lookup f_are_numbers = some ⟨q1_are_numbers, o_are_numbers, .func (PySem.W.fnOf "are_numbers" "are_numbers" (defArgs s_are_numbers) (defBody s_are_numbers) (defScope s_are_numbers) .none q2_are_numbers q3_are_numbers q4_are_numbers n_are_numbers q5_are_numbers q6_are_numbers), w_are_numbers⟩)
    (c_are_numbers : PySem.W.codeIn K q5_are_numbers "are_numbers" = true)
    (k_are_numbers : PySem.W.keepIn K (.ref f_are_numbers) = true)
    (a_is_rule : PySem.W.nsIn K mainGlobals "is_rule" = some (some (.ref f_is_rule)))
    (l_is_rule : K.lookup f_is_rule = some ⟨q1_is_rule, o_is_rule, .func (PySem.W.fnOf "is_rule" "is_rule" (defArgs s_is_rule) (defBody s_is_rule) (defScope s_is_rule) .none q2_is_rule q3_is_rule q4_is_rule n_is_rule q5_is_rule q6_is_rule), w_is_rule⟩)
    (c_is_rule : PySem.W.codeIn K q5_is_rule "is_rule" = true)
    (k_is_rule : PySem.W.keepIn K (.ref f_is_rule) = true)
    (a_is_field : PySem.W.nsIn K mainGlobals "is_field" = some (some (.ref f_is_field)))
    (l_is_field : K.lookup f_is_field = some ⟨q1_is_field, o_is_field, .func (PySem.W.fnOf "is_field" "is_field" (defArgs s_is_field) (defBody s_is_field) (defScope s_is_field) .none q2_is_field q3_is_field q4_is_field n_is_field q5_is_field q6_is_field), w_is_field⟩)
    (c_is_field : PySem.W.codeIn K q5_is_field "is_field" = true)
    (k_is_field : PySem.W.keepIn K (.ref f_is_field) = true)
    (a_look_battle : PySem.W.nsIn K mainGlobals "look_battle" = some (some (.ref f_look_battle)))
    (l_look_battle : K.lookup f_look_battle = some ⟨q1_look_battle, o_look_battle, .func (PySem.W.fnOf "look_battle" "look_battle" (defArgs s_look_battle) (defBody s_look_battle) (defScope s_look_battle) .none q2_look_battle q3_look_battle q4_look_battle n_look_battle q5_look_battle q6_look_battle), w_look_battle⟩)
    (c_look_battle : PySem.W.codeIn K q5_look_battle "look_battle" = true)
    (k_look_battle : PySem.W.keepIn K (.ref f_look_battle) = true)
    (a_paid : PySem.W.nsIn K mainGlobals "paid" = some (some (.ref f_paid)))
    (l_paid : K.lookup f_paid = some ⟨q1_paid, o_paid, .func (PySem.W.fnOf "paid" "paid" (defArgs s_paid) (defBody s_paid) (defScope s_paid) .none q2_paid q3_paid q4_paid n_paid q5_paid q6_paid), w_paid⟩)
    (c_paid : PySem.W.codeIn K q5_paid "paid" = true)
    (k_paid : PySem.W.keepIn K (.ref f_paid) = true)
    (a_is_plan : PySem.W.nsIn K mainGlobals "is_plan" = some (some (.ref f_is_plan)))
    (l_is_plan : K.lookup f_is_plan = some ⟨q1_is_plan, o_is_plan, .func (PySem.W.fnOf "is_plan" "is_plan" (defArgs s_is_plan) (defBody s_is_plan) (defScope s_is_plan) .none q2_is_plan q3_is_plan q4_is_plan n_is_plan q5_is_plan q6_is_plan), w_is_plan⟩)
    (c_is_plan : PySem.W.codeIn K q5_is_plan "is_plan" = true)
    (k_is_plan : PySem.W.keepIn K (.ref f_is_plan) = true)
    (a_won : PySem.W.nsIn K mainGlobals "won" = some (some (.ref f_won)))
    (l_won : K.lookup f_won = some ⟨q1_won, o_won, .func (PySem.W.fnOf "won" "won" (defArgs s_won) (defBody s_won) (defScope s_won) .none q2_won q3_won q4_won n_won q5_won q6_won), w_won⟩)
    (c_won : PySem.W.codeIn K q5_won "won" = true)
    (k_won : PySem.W.keepIn K (.ref f_won) = true)
    (a_is_mix : PySem.W.nsIn K mainGlobals "is_mix" = some (some (.ref f_is_mix)))
    (l_is_mix : K.lookup f_is_mix = some ⟨q1_is_mix, o_is_mix, .func (PySem.W.fnOf "is_mix" "is_mix" (defArgs s_is_mix) (defBody s_is_mix) (defScope s_is_mix) .none q2_is_mix q3_is_mix q4_is_mix n_is_mix q5_is_mix q6_is_mix), w_is_mix⟩)
    (c_is_mix : PySem.W.codeIn K q5_is_mix "is_mix" = true)
    (k_is_mix : PySem.W.keepIn K (.ref f_is_mix) = true)
    (a_divisor : PySem.W.nsIn K mainGlobals "divisor" = some (some (.ref f_divisor)))
    (l_divisor : K.lookup f_divisor = some ⟨q1_divisor, o_divisor, .func (PySem.W.fnOf "divisor" "divisor" (defArgs s_divisor) (defBody s_divisor) (defScope s_divisor) .none q2_divisor q3_divisor q4_divisor n_divisor q5_divisor q6_divisor), w_divisor⟩)
    (c_divisor : PySem.W.codeIn K q5_divisor "divisor" = true)
    (k_divisor : PySem.W.keepIn K (.ref f_divisor) = true)
    (a_ratio : PySem.W.nsIn K mainGlobals "ratio" = some (some (.ref f_ratio)))
    (l_ratio : K.lookup f_ratio = some ⟨q1_ratio, o_ratio, .func (PySem.W.fnOf "ratio" "ratio" (defArgs s_ratio) (defBody s_ratio) (defScope s_ratio) .none q2_ratio q3_ratio q4_ratio n_ratio q5_ratio q6_ratio), w_ratio⟩)
    (c_ratio : PySem.W.codeIn K q5_ratio "ratio" = true)
    (k_ratio : PySem.W.keepIn K (.ref f_ratio) = true)
    (a_must_be_mix : PySem.W.nsIn K mainGlobals "must_be_mix" = some (some (.ref f_must_be_mix)))
    (l_must_be_mix : K.lookup f_must_be_mix = some ⟨q1_must_be_mix, o_must_be_mix, .func (PySem.W.fnOf "must_be_mix" "must_be_mix" (defArgs s_must_be_mix) (defBody s_must_be_mix) (defScope s_must_be_mix) .none q2_must_be_mix q3_must_be_mix q4_must_be_mix n_must_be_mix q5_must_be_mix q6_must_be_mix), w_must_be_mix⟩)
    (c_must_be_mix : PySem.W.codeIn K q5_must_be_mix "must_be_mix" = true)
    (k_must_be_mix : PySem.W.keepIn K (.ref f_must_be_mix) = true)
    (a_whole_of : PySem.W.nsIn K mainGlobals "whole_of" = some (some (.ref f_whole_of)))
    (l_whole_of : K.lookup f_whole_of = some ⟨q1_whole_of, o_whole_of, .func (PySem.W.fnOf "whole_of" "whole_of" (defArgs s_whole_of) (defBody s_whole_of) (defScope s_whole_of) .none q2_whole_of q3_whole_of q4_whole_of n_whole_of q5_whole_of q6_whole_of), w_whole_of⟩)
    (c_whole_of : PySem.W.codeIn K q5_whole_of "whole_of" = true)
    (k_whole_of : PySem.W.keepIn K (.ref f_whole_of) = true)
    (a_must_be_mix_of : PySem.W.nsIn K mainGlobals "must_be_mix_of" = some (some (.ref f_must_be_mix_of)))
    (l_must_be_mix_of : K.lookup f_must_be_mix_of = some ⟨q1_must_be_mix_of, o_must_be_mix_of, .func (PySem.W.fnOf "must_be_mix_of" "must_be_mix_of" (defArgs s_must_be_mix_of) (defBody s_must_be_mix_of) (defScope s_must_be_mix_of) .none q2_must_be_mix_of q3_must_be_mix_of q4_must_be_mix_of n_must_be_mix_of q5_must_be_mix_of q6_must_be_mix_of), w_must_be_mix_of⟩)
    (c_must_be_mix_of : PySem.W.codeIn K q5_must_be_mix_of "must_be_mix_of" = true)
    (k_must_be_mix_of : PySem.W.keepIn K (.ref f_must_be_mix_of) = true)
    (a_mixed_gain : PySem.W.nsIn K mainGlobals "mixed_gain" = some (some (.ref f_mixed_gain)))
    (l_mixed_gain : K.lookup f_mixed_gain = some ⟨q1_mixed_gain, o_mixed_gain, .func (PySem.W.fnOf "mixed_gain" "mixed_gain" (defArgs s_mixed_gain) (defBody s_mixed_gain) (defScope s_mixed_gain) .none q2_mixed_gain q3_mixed_gain q4_mixed_gain n_mixed_gain q5_mixed_gain q6_mixed_gain), w_mixed_gain⟩)
    (c_mixed_gain : PySem.W.codeIn K q5_mixed_gain "mixed_gain" = true)
    (k_mixed_gain : PySem.W.keepIn K (.ref f_mixed_gain) = true)
    (a_l_stirred : PySem.W.nsIn K mainGlobals "_law_stirred" = some (some (.ref f_l_stirred)))
    (l_l_stirred : K.lookup f_l_stirred = some ⟨q1_l_stirred, o_l_stirred, .func (PySem.W.fnOf "_law_stirred" "_law_stirred" (defArgs s_l_stirred) (defBody s_l_stirred) (defScope s_l_stirred) .none q2_l_stirred q3_l_stirred q4_l_stirred n_l_stirred q5_l_stirred q6_l_stirred), w_l_stirred⟩)
    (c_l_stirred : PySem.W.codeIn K q5_l_stirred "_law_stirred" = true)
    (k_l_stirred : PySem.W.keepIn K (.ref f_l_stirred) = true)
    (a_l_opened : PySem.W.nsIn K mainGlobals "_law_opened" = some (some (.ref f_l_opened)))
    (l_l_opened : K.lookup f_l_opened = some ⟨q1_l_opened, o_l_opened, .func (PySem.W.fnOf "_law_opened" "_law_opened" (defArgs s_l_opened) (defBody s_l_opened) (defScope s_l_opened) .none q2_l_opened q3_l_opened q4_l_opened n_l_opened q5_l_opened q6_l_opened), w_l_opened⟩)
    (c_l_opened : PySem.W.codeIn K q5_l_opened "_law_opened" = true)
    (k_l_opened : PySem.W.keepIn K (.ref f_l_opened) = true)
    (a_l_draw : PySem.W.nsIn K mainGlobals "_law_draw" = some (some (.ref f_l_draw)))
    (l_l_draw : K.lookup f_l_draw = some ⟨q1_l_draw, o_l_draw, .func (PySem.W.fnOf "_law_draw" "_law_draw" (defArgs s_l_draw) (defBody s_l_draw) (defScope s_l_draw) .none q2_l_draw q3_l_draw q4_l_draw n_l_draw q5_l_draw q6_l_draw), w_l_draw⟩)
    (c_l_draw : PySem.W.codeIn K q5_l_draw "_law_draw" = true)
    (k_l_draw : PySem.W.keepIn K (.ref f_l_draw) = true)
    (a_l_in_lowest : PySem.W.nsIn K mainGlobals "_law_in_lowest" = some (some (.ref f_l_in_lowest)))
    (l_l_in_lowest : K.lookup f_l_in_lowest = some ⟨q1_l_in_lowest, o_l_in_lowest, .func (PySem.W.fnOf "_law_in_lowest" "_law_in_lowest" (defArgs s_l_in_lowest) (defBody s_l_in_lowest) (defScope s_l_in_lowest) .none q2_l_in_lowest q3_l_in_lowest q4_l_in_lowest n_l_in_lowest q5_l_in_lowest q6_l_in_lowest), w_l_in_lowest⟩)
    (c_l_in_lowest : PySem.W.codeIn K q5_l_in_lowest "_law_in_lowest" = true)
    (k_l_in_lowest : PySem.W.keepIn K (.ref f_l_in_lowest) = true)
    (a_l_drawn_worth : PySem.W.nsIn K mainGlobals "_law_drawn_worth" = some (some (.ref f_l_drawn_worth)))
    (l_l_drawn_worth : K.lookup f_l_drawn_worth = some ⟨q1_l_drawn_worth, o_l_drawn_worth, .func (PySem.W.fnOf "_law_drawn_worth" "_law_drawn_worth" (defArgs s_l_drawn_worth) (defBody s_l_drawn_worth) (defScope s_l_drawn_worth) .none q2_l_drawn_worth q3_l_drawn_worth q4_l_drawn_worth n_l_drawn_worth q5_l_drawn_worth q6_l_drawn_worth), w_l_drawn_worth⟩)
    (c_l_drawn_worth : PySem.W.codeIn K q5_l_drawn_worth "_law_drawn_worth" = true)
    (k_l_drawn_worth : PySem.W.keepIn K (.ref f_l_drawn_worth) = true)
    (a_l_drawn_field : PySem.W.nsIn K mainGlobals "_law_drawn_field" = some (some (.ref f_l_drawn_field)))
    (l_l_drawn_field : K.lookup f_l_drawn_field = some ⟨q1_l_drawn_field, o_l_drawn_field, .func (PySem.W.fnOf "_law_drawn_field" "_law_drawn_field" (defArgs s_l_drawn_field) (defBody s_l_drawn_field) (defScope s_l_drawn_field) .none q2_l_drawn_field q3_l_drawn_field q4_l_drawn_field n_l_drawn_field q5_l_drawn_field q6_l_drawn_field), w_l_drawn_field⟩)
    (c_l_drawn_field : PySem.W.codeIn K q5_l_drawn_field "_law_drawn_field" = true)
    (k_l_drawn_field : PySem.W.keepIn K (.ref f_l_drawn_field) = true)
    (a_l_drawn_battle : PySem.W.nsIn K mainGlobals "_law_drawn_battle" = some (some (.ref f_l_drawn_battle)))
    (l_l_drawn_battle : K.lookup f_l_drawn_battle = some ⟨q1_l_drawn_battle, o_l_drawn_battle, .func (PySem.W.fnOf "_law_drawn_battle" "_law_drawn_battle" (defArgs s_l_drawn_battle) (defBody s_l_drawn_battle) (defScope s_l_drawn_battle) .none q2_l_drawn_battle q3_l_drawn_battle q4_l_drawn_battle n_l_drawn_battle q5_l_drawn_battle q6_l_drawn_battle), w_l_drawn_battle⟩)
    (c_l_drawn_battle : PySem.W.codeIn K q5_l_drawn_battle "_law_drawn_battle" = true)
    (k_l_drawn_battle : PySem.W.keepIn K (.ref f_l_drawn_battle) = true)
    (a_l_copied : PySem.W.nsIn K mainGlobals "_law_copied" = some (some (.ref f_l_copied)))
    (l_l_copied : K.lookup f_l_copied = some ⟨q1_l_copied, o_l_copied, .func (PySem.W.fnOf "_law_copied" "_law_copied" (defArgs s_l_copied) (defBody s_l_copied) (defScope s_l_copied) .none q2_l_copied q3_l_copied q4_l_copied n_l_copied q5_l_copied q6_l_copied), w_l_copied⟩)
    (c_l_copied : PySem.W.codeIn K q5_l_copied "_law_copied" = true)
    (k_l_copied : PySem.W.keepIn K (.ref f_l_copied) = true)
    (a_l_bad_field : PySem.W.nsIn K mainGlobals "_law_bad_field" = some (some (.ref f_l_bad_field)))
    (l_l_bad_field : K.lookup f_l_bad_field = some ⟨q1_l_bad_field, o_l_bad_field, .func (PySem.W.fnOf "_law_bad_field" "_law_bad_field" (defArgs s_l_bad_field) (defBody s_l_bad_field) (defScope s_l_bad_field) .none q2_l_bad_field q3_l_bad_field q4_l_bad_field n_l_bad_field q5_l_bad_field q6_l_bad_field), w_l_bad_field⟩)
    (c_l_bad_field : PySem.W.codeIn K q5_l_bad_field "_law_bad_field" = true)
    (k_l_bad_field : PySem.W.keepIn K (.ref f_l_bad_field) = true)
    (a_l_bent_one : PySem.W.nsIn K mainGlobals "_law_bent_one" = some (some (.ref f_l_bent_one)))
    (l_l_bent_one : K.lookup f_l_bent_one = some ⟨q1_l_bent_one, o_l_bent_one, .func (PySem.W.fnOf "_law_bent_one" "_law_bent_one" (defArgs s_l_bent_one) (defBody s_l_bent_one) (defScope s_l_bent_one) .none q2_l_bent_one q3_l_bent_one q4_l_bent_one n_l_bent_one q5_l_bent_one q6_l_bent_one), w_l_bent_one⟩)
    (c_l_bent_one : PySem.W.codeIn K q5_l_bent_one "_law_bent_one" = true)
    (k_l_bent_one : PySem.W.keepIn K (.ref f_l_bent_one) = true)
    (a_l_pay : PySem.W.nsIn K mainGlobals "_law_pay" = some (some (.ref f_l_pay)))
    (l_l_pay : K.lookup f_l_pay = some ⟨q1_l_pay, o_l_pay, .func (PySem.W.fnOf "_law_pay" "_law_pay" (defArgs s_l_pay) (defBody s_l_pay) (defScope s_l_pay) .none q2_l_pay q3_l_pay q4_l_pay n_l_pay q5_l_pay q6_l_pay), w_l_pay⟩)
    (c_l_pay : PySem.W.codeIn K q5_l_pay "_law_pay" = true)
    (k_l_pay : PySem.W.keepIn K (.ref f_l_pay) = true)
    (a_l_drawn_plan : PySem.W.nsIn K mainGlobals "_law_drawn_plan" = some (some (.ref f_l_drawn_plan)))
    (l_l_drawn_plan : K.lookup f_l_drawn_plan = some ⟨q1_l_drawn_plan, o_l_drawn_plan, .func (PySem.W.fnOf "_law_drawn_plan" "_law_drawn_plan" (defArgs s_l_drawn_plan) (defBody s_l_drawn_plan) (defScope s_l_drawn_plan) .none q2_l_drawn_plan q3_l_drawn_plan q4_l_drawn_plan n_l_drawn_plan q5_l_drawn_plan q6_l_drawn_plan), w_l_drawn_plan⟩)
    (c_l_drawn_plan : PySem.W.codeIn K q5_l_drawn_plan "_law_drawn_plan" = true)
    (k_l_drawn_plan : PySem.W.keepIn K (.ref f_l_drawn_plan) = true)
    (a_l_drawn_mix : PySem.W.nsIn K mainGlobals "_law_drawn_mix" = some (some (.ref f_l_drawn_mix)))
    (l_l_drawn_mix : K.lookup f_l_drawn_mix = some ⟨q1_l_drawn_mix, o_l_drawn_mix, .func (PySem.W.fnOf "_law_drawn_mix" "_law_drawn_mix" (defArgs s_l_drawn_mix) (defBody s_l_drawn_mix) (defScope s_l_drawn_mix) .none q2_l_drawn_mix q3_l_drawn_mix q4_l_drawn_mix n_l_drawn_mix q5_l_drawn_mix q6_l_drawn_mix), w_l_drawn_mix⟩)
    (c_l_drawn_mix : PySem.W.codeIn K q5_l_drawn_mix "_law_drawn_mix" = true)
    (k_l_drawn_mix : PySem.W.keepIn K (.ref f_l_drawn_mix) = true)
    (a_l_is_whole : PySem.W.nsIn K mainGlobals "_law_is_whole" = some (some (.ref f_l_is_whole)))
    (l_l_is_whole : K.lookup f_l_is_whole = some ⟨q1_l_is_whole, o_l_is_whole, .func (PySem.W.fnOf "_law_is_whole" "_law_is_whole" (defArgs s_l_is_whole) (defBody s_l_is_whole) (defScope s_l_is_whole) .none q2_l_is_whole q3_l_is_whole q4_l_is_whole n_l_is_whole q5_l_is_whole q6_l_is_whole), w_l_is_whole⟩)
    (c_l_is_whole : PySem.W.codeIn K q5_l_is_whole "_law_is_whole" = true)
    (k_l_is_whole : PySem.W.keepIn K (.ref f_l_is_whole) = true)
    (a_l_is_it : PySem.W.nsIn K mainGlobals "_law_is_it" = some (some (.ref f_l_is_it)))
    (l_l_is_it : K.lookup f_l_is_it = some ⟨q1_l_is_it, o_l_is_it, .func (PySem.W.fnOf "_law_is_it" "_law_is_it" (defArgs s_l_is_it) (defBody s_l_is_it) (defScope s_l_is_it) .none q2_l_is_it q3_l_is_it q4_l_is_it n_l_is_it q5_l_is_it q6_l_is_it), w_l_is_it⟩)
    (c_l_is_it : PySem.W.codeIn K q5_l_is_it "_law_is_it" = true)
    (k_l_is_it : PySem.W.keepIn K (.ref f_l_is_it) = true)
    (a_l_kind_of : PySem.W.nsIn K mainGlobals "_law_kind_of" = some (some (.ref f_l_kind_of)))
    (l_l_kind_of : K.lookup f_l_kind_of = some ⟨q1_l_kind_of, o_l_kind_of, .func (PySem.W.fnOf "_law_kind_of" "_law_kind_of" (defArgs s_l_kind_of) (defBody s_l_kind_of) (defScope s_l_kind_of) .none q2_l_kind_of q3_l_kind_of q4_l_kind_of n_l_kind_of q5_l_kind_of q6_l_kind_of), w_l_kind_of⟩)
    (c_l_kind_of : PySem.W.codeIn K q5_l_kind_of "_law_kind_of" = true)
    (k_l_kind_of : PySem.W.keepIn K (.ref f_l_kind_of) = true)
    (a_l_due_of : PySem.W.nsIn K mainGlobals "_law_due_of" = some (some (.ref f_l_due_of)))
    (l_l_due_of : K.lookup f_l_due_of = some ⟨q1_l_due_of, o_l_due_of, .func (PySem.W.fnOf "_law_due_of" "_law_due_of" (defArgs s_l_due_of) (defBody s_l_due_of) (defScope s_l_due_of) .none q2_l_due_of q3_l_due_of q4_l_due_of n_l_due_of q5_l_due_of q6_l_due_of), w_l_due_of⟩)
    (c_l_due_of : PySem.W.codeIn K q5_l_due_of "_law_due_of" = true)
    (k_l_due_of : PySem.W.keepIn K (.ref f_l_due_of) = true)
    (a_l_caught_by : PySem.W.nsIn K mainGlobals "_law_caught_by" = some (some (.ref f_l_caught_by)))
    (l_l_caught_by : K.lookup f_l_caught_by = some ⟨q1_l_caught_by, o_l_caught_by, .func (PySem.W.fnOf "_law_caught_by" "_law_caught_by" (defArgs s_l_caught_by) (defBody s_l_caught_by) (defScope s_l_caught_by) .none q2_l_caught_by q3_l_caught_by q4_l_caught_by n_l_caught_by q5_l_caught_by q6_l_caught_by), w_l_caught_by⟩)
    (c_l_caught_by : PySem.W.codeIn K q5_l_caught_by "_law_caught_by" = true)
    (k_l_caught_by : PySem.W.keepIn K (.ref f_l_caught_by) = true)
    (a_l_other_mixes : PySem.W.nsIn K mainGlobals "_law_other_mixes" = some (some (.ref f_l_other_mixes)))
    (l_l_other_mixes : K.lookup f_l_other_mixes = some ⟨q1_l_other_mixes, o_l_other_mixes, .func (PySem.W.fnOf "_law_other_mixes" "_law_other_mixes" (defArgs s_l_other_mixes) (defBody s_l_other_mixes) (defScope s_l_other_mixes) .none q2_l_other_mixes q3_l_other_mixes q4_l_other_mixes n_l_other_mixes q5_l_other_mixes q6_l_other_mixes), w_l_other_mixes⟩)
    (c_l_other_mixes : PySem.W.codeIn K q5_l_other_mixes "_law_other_mixes" = true)
    (k_l_other_mixes : PySem.W.keepIn K (.ref f_l_other_mixes) = true)
    (a_law : PySem.W.nsIn K mainGlobals "law" = some (some (.ref f_law)))
    (l_law : K.lookup f_law = some ⟨q1_law, o_law, .func (PySem.W.fnOf "law" "law" (defArgs s_law) (defBody s_law) (defScope s_law) .none q2_law q3_law q4_law n_law q5_law q6_law), w_law⟩)
    (c_law : PySem.W.codeIn K q5_law "law" = true)
    (k_law : PySem.W.keepIn K (.ref f_law) = true)
    (z_ValueError : PySem.W.nsIn K mainGlobals "ValueError" = some none)
    (z_abs : PySem.W.nsIn K mainGlobals "abs" = some none)
    (z_bool : PySem.W.nsIn K mainGlobals "bool" = some none)
    (z_enumerate : PySem.W.nsIn K mainGlobals "enumerate" = some none)
    (z_int : PySem.W.nsIn K mainGlobals "int" = some none)
    (z_isinstance : PySem.W.nsIn K mainGlobals "isinstance" = some none)
    (z_len : PySem.W.nsIn K mainGlobals "len" = some none)
    (z_list : PySem.W.nsIn K mainGlobals "list" = some none)
    (z_max : PySem.W.nsIn K mainGlobals "max" = some none)
    (z_min : PySem.W.nsIn K mainGlobals "min" = some none)
    (z_range : PySem.W.nsIn K mainGlobals "range" = some none)
    (z_sum : PySem.W.nsIn K mainGlobals "sum" = some none)
    (z_tuple : PySem.W.nsIn K mainGlobals "tuple" = some none)
    (h_MOST_HOSTS_fields : PySem.W.nsIn K mainGlobals "MOST_HOSTS_fields" = some (some (.int 10 t_MOST_HOSTS_fields)))
    (h_MOST_FIELDS_fields : PySem.W.nsIn K mainGlobals "MOST_FIELDS_fields" = some (some (.int 5 t_MOST_FIELDS_fields)))
    (h_MOST_HOSTS_plans : PySem.W.nsIn K mainGlobals "MOST_HOSTS_plans" = some (some (.int 40 t_MOST_HOSTS_plans)))
    (h_MOST_FIELDS_plans : PySem.W.nsIn K mainGlobals "MOST_FIELDS_plans" = some (some (.int 8 t_MOST_FIELDS_plans)))
    (i_HostError : PySem.W.isClsIn K e_HostError = true)
    (t_HostError : PySem.W.typeIn K (.ref e_HostError) = some (.type "type"))
    (y_HostError : PySem.W.subIn K (.ref e_HostError) (.type "BaseException") = some true)
    (i_NoBattle : PySem.W.isClsIn K e_NoBattle = true)
    (t_NoBattle : PySem.W.typeIn K (.ref e_NoBattle) = some (.type "type"))
    (y_NoBattle : PySem.W.subIn K (.ref e_NoBattle) (.type "BaseException") = some true)
    (i_NoPlan : PySem.W.isClsIn K e_NoPlan = true)
    (t_NoPlan : PySem.W.typeIn K (.ref e_NoPlan) = some (.type "type"))
    (y_NoPlan : PySem.W.subIn K (.ref e_NoPlan) (.type "BaseException") = some true)
    (i_NoMix : PySem.W.isClsIn K e_NoMix = true)
    (t_NoMix : PySem.W.typeIn K (.ref e_NoMix) = some (.type "type"))
    (y_NoMix : PySem.W.subIn K (.ref e_NoMix) (.type "BaseException") = some true)
    (i_NoStream : PySem.W.isClsIn K e_NoStream = true)
    (t_NoStream : PySem.W.typeIn K (.ref e_NoStream) = some (.type "type"))
    (y_NoStream : PySem.W.subIn K (.ref e_NoStream) (.type "BaseException") = some true)
    (i_NoSide : PySem.W.isClsIn K e_NoSide = true)
    (t_NoSide : PySem.W.typeIn K (.ref e_NoSide) = some (.type "type"))
    (y_NoSide : PySem.W.subIn K (.ref e_NoSide) (.type "BaseException") = some true)
    (i_NoAlike : PySem.W.isClsIn K e_NoAlike = true)
    (t_NoAlike : PySem.W.typeIn K (.ref e_NoAlike) = some (.type "type"))
    (y_NoAlike : PySem.W.subIn K (.ref e_NoAlike) (.type "BaseException") = some true)
    (i_NoNumber : PySem.W.isClsIn K e_NoNumber = true)
    (t_NoNumber : PySem.W.typeIn K (.ref e_NoNumber) = some (.type "type"))
    (y_NoNumber : PySem.W.subIn K (.ref e_NoNumber) (.type "BaseException") = some true)
    (i_TooGreat : PySem.W.isClsIn K e_TooGreat = true)
    (t_TooGreat : PySem.W.typeIn K (.ref e_TooGreat) = some (.type "type"))
    (y_TooGreat : PySem.W.subIn K (.ref e_TooGreat) (.type "BaseException") = some true)
    (i_NoEven : PySem.W.isClsIn K e_NoEven = true)
    (t_NoEven : PySem.W.typeIn K (.ref e_NoEven) = some (.type "type"))
    (y_NoEven : PySem.W.subIn K (.ref e_NoEven) (.type "BaseException") = some true)
    (i_NoText : PySem.W.isClsIn K e_NoText = true)
    (t_NoText : PySem.W.typeIn K (.ref e_NoText) = some (.type "type"))
    (y_NoText : PySem.W.subIn K (.ref e_NoText) (.type "BaseException") = some true)
    (i_NoRow : PySem.W.isClsIn K e_NoRow = true)
    (t_NoRow : PySem.W.typeIn K (.ref e_NoRow) = some (.type "type"))
    (y_NoRow : PySem.W.subIn K (.ref e_NoRow) (.type "BaseException") = some true)
    (i_NoName : PySem.W.isClsIn K e_NoName = true)
    (t_NoName : PySem.W.typeIn K (.ref e_NoName) = some (.type "type"))
    (y_NoName : PySem.W.subIn K (.ref e_NoName) (.type "BaseException") = some true)
    (i_NoPlace : PySem.W.isClsIn K e_NoPlace = true)
    (t_NoPlace : PySem.W.typeIn K (.ref e_NoPlace) = some (.type "type"))
    (y_NoPlace : PySem.W.subIn K (.ref e_NoPlace) (.type "BaseException") = some true)
    (x_NoMix : PySem.W.excIn K e_NoMix [.type "ValueError", .type "Exception", .type "BaseException", .type "object"] "ValueError.__new__" = true)
    (k_NoMix : PySem.W.keepIn K (.ref e_NoMix) = true)
    (hg_NoMix : PySem.W.findIn K (.ref e_NoMix) "__getattribute__" = some (some (.builtin "BaseException.__getattribute__")))
    (hk_NoMix : PySem.W.findIn K (.ref e_NoMix) "__getattr__" = some none)
    (hd_NoMix : PySem.W.hasDictIn K e_NoMix = true)
    (ha_NoMix : PySem.W.findIn K (.ref e_NoMix) "__class__" = some (some (.builtin "object.__class__")))
    (hm_NoMix : PySem.W.mroIn K e_NoMix (.type "object") = some true)
    (v_NoMix : PySem.W.subIn K (.ref e_NoMix) (.type "ValueError") = some true)
    (s_NoMix_HostError : PySem.W.subIn K (.ref e_NoMix) (.ref e_HostError) = some true)
    (s_NoMix_NoBattle : PySem.W.subIn K (.ref e_NoMix) (.ref e_NoBattle) = some false)
    (s_NoMix_NoPlan : PySem.W.subIn K (.ref e_NoMix) (.ref e_NoPlan) = some false)
    (s_NoMix_NoMix : PySem.W.subIn K (.ref e_NoMix) (.ref e_NoMix) = some true)
    (s_NoMix_NoStream : PySem.W.subIn K (.ref e_NoMix) (.ref e_NoStream) = some false)
    (s_NoMix_NoSide : PySem.W.subIn K (.ref e_NoMix) (.ref e_NoSide) = some false)
    (s_NoMix_NoAlike : PySem.W.subIn K (.ref e_NoMix) (.ref e_NoAlike) = some false)
    (s_NoMix_NoNumber : PySem.W.subIn K (.ref e_NoMix) (.ref e_NoNumber) = some false)
    (s_NoMix_TooGreat : PySem.W.subIn K (.ref e_NoMix) (.ref e_TooGreat) = some false)
    (s_NoMix_NoEven : PySem.W.subIn K (.ref e_NoMix) (.ref e_NoEven) = some false)
    (s_NoMix_NoText : PySem.W.subIn K (.ref e_NoMix) (.ref e_NoText) = some false)
    (s_NoMix_NoRow : PySem.W.subIn K (.ref e_NoMix) (.ref e_NoRow) = some false)
    (s_NoMix_NoName : PySem.W.subIn K (.ref e_NoMix) (.ref e_NoName) = some false)
    (s_NoMix_NoPlace : PySem.W.subIn K (.ref e_NoMix) (.ref e_NoPlace) = some false)
    (oc_NoBattle : K.lookup e_NoBattle = some (excClassObj xn_NoBattle xq_NoBattle e_NoBattle xN_NoBattle xb_NoBattle (.ref e_HostError :: [.type "ValueError", .type "Exception", .type "BaseException", .type "object"]) true xs_NoBattle xu_NoBattle xa_NoBattle xc_NoBattle xd_NoBattle x0_NoBattle x1_NoBattle x2_NoBattle x3_NoBattle x5_NoBattle "ValueError.__new__"))
    (sa_NoBattle : PySem.W.findIn K (.ref e_NoBattle) "__setattr__" = some (some (.builtin "object.__setattr__")))
    (ti_NoBattle : PySem.W.typeIn K (.ref f_NoBattle_init) = some (.type "function"))
    (no_NoBattle_field : PySem.W.findIn K (.ref e_NoBattle) "field" = some none)
    (rd_HostError : PySem.W.readsIn K e_HostError (.type "type") = true)
    (ga_HostError : PySem.W.specialIn K (.ref e_HostError) "__getattribute__" = some (some (.builtin "type.__getattribute__")))
    (fc_HostError : PySem.W.findCls K (.ref e_HostError) (.type "type") "__init__" = some (.val (.builtin "ValueError.__init__")))
    (k_NoBattle : PySem.W.keepIn K (.ref e_NoBattle) = true)
    (hg_NoBattle : PySem.W.findIn K (.ref e_NoBattle) "__getattribute__" = some (some (.builtin "BaseException.__getattribute__")))
    (hk_NoBattle : PySem.W.findIn K (.ref e_NoBattle) "__getattr__" = some none)
    (hd_NoBattle : PySem.W.hasDictIn K e_NoBattle = true)
    (ha_NoBattle : PySem.W.findIn K (.ref e_NoBattle) "__class__" = some (some (.builtin "object.__class__")))
    (hm_NoBattle : PySem.W.mroIn K e_NoBattle (.type "object") = some true)
    (v_NoBattle : PySem.W.subIn K (.ref e_NoBattle) (.type "ValueError") = some true)
    (s_NoBattle_HostError : PySem.W.subIn K (.ref e_NoBattle) (.ref e_HostError) = some true)
    (s_NoBattle_NoBattle : PySem.W.subIn K (.ref e_NoBattle) (.ref e_NoBattle) = some true)
    (s_NoBattle_NoPlan : PySem.W.subIn K (.ref e_NoBattle) (.ref e_NoPlan) = some false)
    (s_NoBattle_NoMix : PySem.W.subIn K (.ref e_NoBattle) (.ref e_NoMix) = some false)
    (s_NoBattle_NoStream : PySem.W.subIn K (.ref e_NoBattle) (.ref e_NoStream) = some false)
    (s_NoBattle_NoSide : PySem.W.subIn K (.ref e_NoBattle) (.ref e_NoSide) = some false)
    (s_NoBattle_NoAlike : PySem.W.subIn K (.ref e_NoBattle) (.ref e_NoAlike) = some false)
    (s_NoBattle_NoNumber : PySem.W.subIn K (.ref e_NoBattle) (.ref e_NoNumber) = some false)
    (s_NoBattle_TooGreat : PySem.W.subIn K (.ref e_NoBattle) (.ref e_TooGreat) = some false)
    (s_NoBattle_NoEven : PySem.W.subIn K (.ref e_NoBattle) (.ref e_NoEven) = some false)
    (s_NoBattle_NoText : PySem.W.subIn K (.ref e_NoBattle) (.ref e_NoText) = some false)
    (s_NoBattle_NoRow : PySem.W.subIn K (.ref e_NoBattle) (.ref e_NoRow) = some false)
    (s_NoBattle_NoName : PySem.W.subIn K (.ref e_NoBattle) (.ref e_NoName) = some false)
    (s_NoBattle_NoPlace : PySem.W.subIn K (.ref e_NoBattle) (.ref e_NoPlace) = some false)
    (ho_n : PySem.W.specialIn K (.builtin "object.__class__") "__get__" = some (some (.builtin "getset_descriptor.__get__")))
    (ho_t : PySem.W.takesIn K (.builtin "object.__class__") = some true) : ∃ fd : FuncData, (∀ (s : Shared) (v : Value), BindsTo s fd ⟨[v], []⟩ [("_law_script", v)]) ∧ ∀ base : Heap, K.In base → base.Ns mainGlobals mg → FnOk P w K mg base CX0 9 fa fd ["_law_script"] (sp_law K) := by
  obtain ⟨T, e1, e2⟩ := mk_txt X G h_HostError h_NoBattle h_NoPlan h_NoMix h_NoStream h_NoSide h_NoAlike h_NoNumber h_TooGreat h_NoEven h_NoText h_NoRow h_NoName h_NoPlace ic_NoBattle l_NoBattle_init c_NoBattle_init k_NoBattle_init a_is_number l_is_number c_is_number k_is_number a_are_numbers l_are_numbers c_are_numbers k_are_numbers a_is_rule l_is_rule c_is_rule k_is_rule a_is_field l_is_field c_is_field k_is_field a_look_battle l_look_battle c_look_battle k_look_battle a_paid l_paid c_paid k_paid a_is_plan l_is_plan c_is_plan k_is_plan a_won l_won c_won k_won a_is_mix l_is_mix c_is_mix k_is_mix a_divisor l_divisor c_divisor k_divisor a_ratio l_ratio c_ratio k_ratio a_must_be_mix l_must_be_mix c_must_be_mix k_must_be_mix a_whole_of l_whole_of c_whole_of k_whole_of a_must_be_mix_of l_must_be_mix_of c_must_be_mix_of k_must_be_mix_of a_mixed_gain l_mixed_gain c_mixed_gain k_mixed_gain a_l_stirred l_l_stirred c_l_stirred k_l_stirred a_l_opened l_l_opened c_l_opened k_l_opened a_l_draw l_l_draw c_l_draw k_l_draw a_l_in_lowest l_l_in_lowest c_l_in_lowest k_l_in_lowest a_l_drawn_worth l_l_drawn_worth c_l_drawn_worth k_l_drawn_worth a_l_drawn_field l_l_drawn_field c_l_drawn_field k_l_drawn_field a_l_drawn_battle l_l_drawn_battle c_l_drawn_battle k_l_drawn_battle a_l_copied l_l_copied c_l_copied k_l_copied a_l_bad_field l_l_bad_field c_l_bad_field k_l_bad_field a_l_bent_one l_l_bent_one c_l_bent_one k_l_bent_one a_l_pay l_l_pay c_l_pay k_l_pay a_l_drawn_plan l_l_drawn_plan c_l_drawn_plan k_l_drawn_plan a_l_drawn_mix l_l_drawn_mix c_l_drawn_mix k_l_drawn_mix a_l_is_whole l_l_is_whole c_l_is_whole k_l_is_whole a_l_is_it l_l_is_it c_l_is_it k_l_is_it a_l_kind_of l_l_kind_of c_l_kind_of k_l_kind_of a_l_due_of l_l_due_of c_l_due_of k_l_due_of a_l_caught_by l_l_caught_by c_l_caught_by k_l_caught_by a_l_other_mixes l_l_other_mixes c_l_other_mixes k_l_other_mixes a_law l_law c_law k_law z_ValueError z_abs z_bool z_enumerate z_int z_isinstance z_len z_list z_max z_min z_range z_sum z_tuple h_MOST_HOSTS_fields h_MOST_FIELDS_fields h_MOST_HOSTS_plans h_MOST_FIELDS_plans i_HostError t_HostError y_HostError i_NoBattle t_NoBattle y_NoBattle i_NoPlan t_NoPlan y_NoPlan i_NoMix t_NoMix y_NoMix i_NoStream t_NoStream y_NoStream i_NoSide t_NoSide y_NoSide i_NoAlike t_NoAlike y_NoAlike i_NoNumber t_NoNumber y_NoNumber i_TooGreat t_TooGreat y_TooGreat i_NoEven t_NoEven y_NoEven i_NoText t_NoText y_NoText i_NoRow t_NoRow y_NoRow i_NoName t_NoName y_NoName i_NoPlace t_NoPlace y_NoPlace x_NoMix k_NoMix hg_NoMix hk_NoMix hd_NoMix ha_NoMix hm_NoMix v_NoMix s_NoMix_HostError s_NoMix_NoBattle s_NoMix_NoPlan s_NoMix_NoMix s_NoMix_NoStream s_NoMix_NoSide s_NoMix_NoAlike s_NoMix_NoNumber s_NoMix_TooGreat s_NoMix_NoEven s_NoMix_NoText s_NoMix_NoRow s_NoMix_NoName s_NoMix_NoPlace oc_NoBattle sa_NoBattle ti_NoBattle no_NoBattle_field rd_HostError ga_HostError fc_HostError k_NoBattle hg_NoBattle hk_NoBattle hd_NoBattle ha_NoBattle hm_NoBattle v_NoBattle s_NoBattle_HostError s_NoBattle_NoBattle s_NoBattle_NoPlan s_NoBattle_NoMix s_NoBattle_NoStream s_NoBattle_NoSide s_NoBattle_NoAlike s_NoBattle_NoNumber s_NoBattle_TooGreat s_NoBattle_NoEven s_NoBattle_NoText s_NoBattle_NoRow s_NoBattle_NoName s_NoBattle_NoPlace ho_n ho_t
  have e := hfa.symm.trans (PySem.W.mg_of X G a_law)
  cases e
  exact ⟨T.d_law, e2, fun base _ _ => e1 ▸ ok_law T⟩
end K73
open PySem PySem.W PyProof.Rows
set_option maxHeartbeats 0 in
theorem PySem.Challenge.cw_hostfields_k73_mixes_held_against_one_an_holds : PySem.Challenge.rw_hostfields_k73_mixes_held_against_one_an.Holds := by
  w_on; o_law; k_head; (case hw => w_witness2)
  k_fill
  refine L2.walk_of (l := PySem.Challenge.rw_hostfields_k73_mixes_held_against_one_an) (n := 63) (k := 9) (x := "_law_script") (CX := fun _ => L2.CX0) (sp := fun w => K73.sp_law _) rfl (by decide) rfl ⟨rfl, by decide, by decide⟩ (fun w h Y => PySem.W.kIn_of Y) ?F (fun _ _ a ns hl _ hS => ⟨a, ns, rfl, hS, hl, fun _ => rfl⟩) (fun _ _ _ _ _ h => h)
  case F =>
    intro w mg fa h KX G hmg
    refine' K73.all_mk KX G hmg ?h_HostError ?h_NoBattle ?h_NoPlan ?h_NoMix ?h_NoStream ?h_NoSide ?h_NoAlike ?h_NoNumber ?h_TooGreat ?h_NoEven ?h_NoText ?h_NoRow ?h_NoName ?h_NoPlace ?ic_NoBattle ?l_NoBattle_init ?c_NoBattle_init ?k_NoBattle_init ?a_is_number ?l_is_number ?c_is_number ?k_is_number ?a_are_numbers ?l_are_numbers ?c_are_numbers ?k_are_numbers ?a_is_rule ?l_is_rule ?c_is_rule ?k_is_rule ?a_is_field ?l_is_field ?c_is_field ?k_is_field ?a_look_battle ?l_look_battle ?c_look_battle ?k_look_battle ?a_paid ?l_paid ?c_paid ?k_paid ?a_is_plan ?l_is_plan ?c_is_plan ?k_is_plan ?a_won ?l_won ?c_won ?k_won ?a_is_mix ?l_is_mix ?c_is_mix ?k_is_mix ?a_divisor ?l_divisor ?c_divisor ?k_divisor ?a_ratio ?l_ratio ?c_ratio ?k_ratio ?a_must_be_mix ?l_must_be_mix ?c_must_be_mix ?k_must_be_mix ?a_whole_of ?l_whole_of ?c_whole_of ?k_whole_of ?a_must_be_mix_of ?l_must_be_mix_of ?c_must_be_mix_of ?k_must_be_mix_of ?a_mixed_gain ?l_mixed_gain ?c_mixed_gain ?k_mixed_gain ?a_l_stirred ?l_l_stirred ?c_l_stirred ?k_l_stirred ?a_l_opened ?l_l_opened ?c_l_opened ?k_l_opened ?a_l_draw ?l_l_draw ?c_l_draw ?k_l_draw ?a_l_in_lowest ?l_l_in_lowest ?c_l_in_lowest ?k_l_in_lowest ?a_l_drawn_worth ?l_l_drawn_worth ?c_l_drawn_worth ?k_l_drawn_worth ?a_l_drawn_field ?l_l_drawn_field ?c_l_drawn_field ?k_l_drawn_field ?a_l_drawn_battle ?l_l_drawn_battle ?c_l_drawn_battle ?k_l_drawn_battle ?a_l_copied ?l_l_copied ?c_l_copied ?k_l_copied ?a_l_bad_field ?l_l_bad_field ?c_l_bad_field ?k_l_bad_field ?a_l_bent_one ?l_l_bent_one ?c_l_bent_one ?k_l_bent_one ?a_l_pay ?l_l_pay ?c_l_pay ?k_l_pay ?a_l_drawn_plan ?l_l_drawn_plan ?c_l_drawn_plan ?k_l_drawn_plan ?a_l_drawn_mix ?l_l_drawn_mix ?c_l_drawn_mix ?k_l_drawn_mix ?a_l_is_whole ?l_l_is_whole ?c_l_is_whole ?k_l_is_whole ?a_l_is_it ?l_l_is_it ?c_l_is_it ?k_l_is_it ?a_l_kind_of ?l_l_kind_of ?c_l_kind_of ?k_l_kind_of ?a_l_due_of ?l_l_due_of ?c_l_due_of ?k_l_due_of ?a_l_caught_by ?l_l_caught_by ?c_l_caught_by ?k_l_caught_by ?a_l_other_mixes ?l_l_other_mixes ?c_l_other_mixes ?k_l_other_mixes ?a_law ?l_law ?c_law ?k_law ?z_ValueError ?z_abs ?z_bool ?z_enumerate ?z_int ?z_isinstance ?z_len ?z_list ?z_max ?z_min ?z_range ?z_sum ?z_tuple ?h_MOST_HOSTS_fields ?h_MOST_FIELDS_fields ?h_MOST_HOSTS_plans ?h_MOST_FIELDS_plans ?i_HostError ?t_HostError ?y_HostError ?i_NoBattle ?t_NoBattle ?y_NoBattle ?i_NoPlan ?t_NoPlan ?y_NoPlan ?i_NoMix ?t_NoMix ?y_NoMix ?i_NoStream ?t_NoStream ?y_NoStream ?i_NoSide ?t_NoSide ?y_NoSide ?i_NoAlike ?t_NoAlike ?y_NoAlike ?i_NoNumber ?t_NoNumber ?y_NoNumber ?i_TooGreat ?t_TooGreat ?y_TooGreat ?i_NoEven ?t_NoEven ?y_NoEven ?i_NoText ?t_NoText ?y_NoText ?i_NoRow ?t_NoRow ?y_NoRow ?i_NoName ?t_NoName ?y_NoName ?i_NoPlace ?t_NoPlace ?y_NoPlace ?x_NoMix ?k_NoMix ?hg_NoMix ?hk_NoMix ?hd_NoMix ?ha_NoMix ?hm_NoMix ?v_NoMix ?s_NoMix_HostError ?s_NoMix_NoBattle ?s_NoMix_NoPlan ?s_NoMix_NoMix ?s_NoMix_NoStream ?s_NoMix_NoSide ?s_NoMix_NoAlike ?s_NoMix_NoNumber ?s_NoMix_TooGreat ?s_NoMix_NoEven ?s_NoMix_NoText ?s_NoMix_NoRow ?s_NoMix_NoName ?s_NoMix_NoPlace ?oc_NoBattle ?sa_NoBattle ?ti_NoBattle ?no_NoBattle_field ?rd_HostError ?ga_HostError ?fc_HostError ?k_NoBattle ?hg_NoBattle ?hk_NoBattle ?hd_NoBattle ?ha_NoBattle ?hm_NoBattle ?v_NoBattle ?s_NoBattle_HostError ?s_NoBattle_NoBattle ?s_NoBattle_NoPlan ?s_NoBattle_NoMix ?s_NoBattle_NoStream ?s_NoBattle_NoSide ?s_NoBattle_NoAlike ?s_NoBattle_NoNumber ?s_NoBattle_TooGreat ?s_NoBattle_NoEven ?s_NoBattle_NoText ?s_NoBattle_NoRow ?s_NoBattle_NoName ?s_NoBattle_NoPlace ?ho_n ?ho_t
    (case h_HostError => k_is); (case h_NoBattle => k_is); (case h_NoPlan => k_is); (case h_NoMix => k_is); (case h_NoStream => k_is); (case h_NoSide => k_is); (case h_NoAlike => k_is); (case h_NoNumber => k_is); (case h_TooGreat => k_is); (case h_NoEven => k_is); (case h_NoText => k_is); (case h_NoRow => k_is); (case h_NoName => k_is); (case h_NoPlace => k_is); (case ic_NoBattle => k_is); (case l_NoBattle_init => k_is); (case c_NoBattle_init => k_is); (case k_NoBattle_init => k_is); (case a_is_number => k_is); (case l_is_number => k_is); (case c_is_number => k_is); (case k_is_number => k_is); (case a_are_numbers => k_is); (case l_are_numbers => k_is); (case c_are_numbers => k_is); (case k_are_numbers => k_is); (case a_is_rule => k_is); (case l_is_rule => k_is); (case c_is_rule => k_is); (case k_is_rule => k_is); (case a_is_field => k_is); (case l_is_field => k_is); (case c_is_field => k_is); (case k_is_field => k_is); (case a_look_battle => k_is); (case l_look_battle => k_is); (case c_look_battle => k_is); (case k_look_battle => k_is); (case a_paid => k_is); (case l_paid => k_is); (case c_paid => k_is); (case k_paid => k_is); (case a_is_plan => k_is); (case l_is_plan => k_is); (case c_is_plan => k_is); (case k_is_plan => k_is); (case a_won => k_is); (case l_won => k_is); (case c_won => k_is); (case k_won => k_is); (case a_is_mix => k_is); (case l_is_mix => k_is); (case c_is_mix => k_is); (case k_is_mix => k_is); (case a_divisor => k_is); (case l_divisor => k_is); (case c_divisor => k_is); (case k_divisor => k_is); (case a_ratio => k_is); (case l_ratio => k_is); (case c_ratio => k_is); (case k_ratio => k_is); (case a_must_be_mix => k_is); (case l_must_be_mix => k_is); (case c_must_be_mix => k_is); (case k_must_be_mix => k_is); (case a_whole_of => k_is); (case l_whole_of => k_is); (case c_whole_of => k_is); (case k_whole_of => k_is); (case a_must_be_mix_of => k_is); (case l_must_be_mix_of => k_is); (case c_must_be_mix_of => k_is); (case k_must_be_mix_of => k_is); (case a_mixed_gain => k_is); (case l_mixed_gain => k_is); (case c_mixed_gain => k_is); (case k_mixed_gain => k_is); (case a_l_stirred => k_is); (case l_l_stirred => k_is); (case c_l_stirred => k_is); (case k_l_stirred => k_is); (case a_l_opened => k_is); (case l_l_opened => k_is); (case c_l_opened => k_is); (case k_l_opened => k_is); (case a_l_draw => k_is); (case l_l_draw => k_is); (case c_l_draw => k_is); (case k_l_draw => k_is); (case a_l_in_lowest => k_is); (case l_l_in_lowest => k_is); (case c_l_in_lowest => k_is); (case k_l_in_lowest => k_is); (case a_l_drawn_worth => k_is); (case l_l_drawn_worth => k_is); (case c_l_drawn_worth => k_is); (case k_l_drawn_worth => k_is); (case a_l_drawn_field => k_is); (case l_l_drawn_field => k_is); (case c_l_drawn_field => k_is); (case k_l_drawn_field => k_is); (case a_l_drawn_battle => k_is); (case l_l_drawn_battle => k_is); (case c_l_drawn_battle => k_is); (case k_l_drawn_battle => k_is); (case a_l_copied => k_is); (case l_l_copied => k_is); (case c_l_copied => k_is); (case k_l_copied => k_is); (case a_l_bad_field => k_is); (case l_l_bad_field => k_is); (case c_l_bad_field => k_is); (case k_l_bad_field => k_is); (case a_l_bent_one => k_is); (case l_l_bent_one => k_is); (case c_l_bent_one => k_is); (case k_l_bent_one => k_is); (case a_l_pay => k_is); (case l_l_pay => k_is); (case c_l_pay => k_is); (case k_l_pay => k_is); (case a_l_drawn_plan => k_is); (case l_l_drawn_plan => k_is); (case c_l_drawn_plan => k_is); (case k_l_drawn_plan => k_is); (case a_l_drawn_mix => k_is); (case l_l_drawn_mix => k_is); (case c_l_drawn_mix => k_is); (case k_l_drawn_mix => k_is); (case a_l_is_whole => k_is); (case l_l_is_whole => k_is); (case c_l_is_whole => k_is); (case k_l_is_whole => k_is); (case a_l_is_it => k_is); (case l_l_is_it => k_is); (case c_l_is_it => k_is); (case k_l_is_it => k_is); (case a_l_kind_of => k_is); (case l_l_kind_of => k_is); (case c_l_kind_of => k_is); (case k_l_kind_of => k_is); (case a_l_due_of => k_is); (case l_l_due_of => k_is); (case c_l_due_of => k_is); (case k_l_due_of => k_is); (case a_l_caught_by => k_is); (case l_l_caught_by => k_is); (case c_l_caught_by => k_is); (case k_l_caught_by => k_is); (case a_l_other_mixes => k_is); (case l_l_other_mixes => k_is); (case c_l_other_mixes => k_is); (case k_l_other_mixes => k_is); (case a_law => k_is); (case l_law => k_is); (case c_law => k_is); (case k_law => k_is); (case z_ValueError => k_is); (case z_abs => k_is); (case z_bool => k_is); (case z_enumerate => k_is); (case z_int => k_is); (case z_isinstance => k_is); (case z_len => k_is); (case z_list => k_is); (case z_max => k_is); (case z_min => k_is); (case z_range => k_is); (case z_sum => k_is); (case z_tuple => k_is); (case h_MOST_HOSTS_fields => k_is); (case h_MOST_FIELDS_fields => k_is); (case h_MOST_HOSTS_plans => k_is); (case h_MOST_FIELDS_plans => k_is); (case i_HostError => k_is); (case t_HostError => k_is); (case y_HostError => k_is); (case i_NoBattle => k_is); (case t_NoBattle => k_is); (case y_NoBattle => k_is); (case i_NoPlan => k_is); (case t_NoPlan => k_is); (case y_NoPlan => k_is); (case i_NoMix => k_is); (case t_NoMix => k_is); (case y_NoMix => k_is); (case i_NoStream => k_is); (case t_NoStream => k_is); (case y_NoStream => k_is); (case i_NoSide => k_is); (case t_NoSide => k_is); (case y_NoSide => k_is); (case i_NoAlike => k_is); (case t_NoAlike => k_is); (case y_NoAlike => k_is); (case i_NoNumber => k_is); (case t_NoNumber => k_is); (case y_NoNumber => k_is); (case i_TooGreat => k_is); (case t_TooGreat => k_is); (case y_TooGreat => k_is); (case i_NoEven => k_is); (case t_NoEven => k_is); (case y_NoEven => k_is); (case i_NoText => k_is); (case t_NoText => k_is); (case y_NoText => k_is); (case i_NoRow => k_is); (case t_NoRow => k_is); (case y_NoRow => k_is); (case i_NoName => k_is); (case t_NoName => k_is); (case y_NoName => k_is); (case i_NoPlace => k_is); (case t_NoPlace => k_is); (case y_NoPlace => k_is); (case x_NoMix => k_exc); (case k_NoMix => k_is); (case hg_NoMix => k_is); (case hk_NoMix => k_is); (case hd_NoMix => k_is); (case ha_NoMix => k_is); (case hm_NoMix => k_is); (case v_NoMix => k_is); (case s_NoMix_HostError => k_is); (case s_NoMix_NoBattle => k_is); (case s_NoMix_NoPlan => k_is); (case s_NoMix_NoMix => k_is); (case s_NoMix_NoStream => k_is); (case s_NoMix_NoSide => k_is); (case s_NoMix_NoAlike => k_is); (case s_NoMix_NoNumber => k_is); (case s_NoMix_TooGreat => k_is); (case s_NoMix_NoEven => k_is); (case s_NoMix_NoText => k_is); (case s_NoMix_NoRow => k_is); (case s_NoMix_NoName => k_is); (case s_NoMix_NoPlace => k_is); (case oc_NoBattle => k_is); (case sa_NoBattle => k_is); (case ti_NoBattle => k_is); (case no_NoBattle_field => k_is); (case rd_HostError => k_is); (case ga_HostError => k_is); (case fc_HostError => k_is); (case k_NoBattle => k_is); (case hg_NoBattle => k_is); (case hk_NoBattle => k_is); (case hd_NoBattle => k_is); (case ha_NoBattle => k_is); (case hm_NoBattle => k_is); (case v_NoBattle => k_is); (case s_NoBattle_HostError => k_is); (case s_NoBattle_NoBattle => k_is); (case s_NoBattle_NoPlan => k_is); (case s_NoBattle_NoMix => k_is); (case s_NoBattle_NoStream => k_is); (case s_NoBattle_NoSide => k_is); (case s_NoBattle_NoAlike => k_is); (case s_NoBattle_NoNumber => k_is); (case s_NoBattle_TooGreat => k_is); (case s_NoBattle_NoEven => k_is); (case s_NoBattle_NoText => k_is); (case s_NoBattle_NoRow => k_is); (case s_NoBattle_NoName => k_is); (case s_NoBattle_NoPlace => k_is); (case ho_n => k_is); (case ho_t => k_is)

