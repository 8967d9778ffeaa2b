import PyProof.Rows.All
import Wide.All
import OpenK.AllK
import Wide.FinOn
import HandS.ForMost
import HandS.Wide
import HandS.IsInst
import HandS.TupAny
import HandS.TryOnly
import HandS.Style
import HandS.Conv
import HandS.Exc
import HandS.ExcIs
import HandS.ExcOwn
import HandS.WordsExc
import KE.KExcIs
import PyProof.MaxThree
import HandS.SortRule
import PySem.Challenge.RW_hostfields_k67_papers_changed
set_option Elab.async false
set_option linter.all false
set_option maxRecDepth 100000
set_option maxHeartbeats 4000000
/-! ## the engine: the readings, one step a lemma; «walk_at "go"» walks as far as it goes -/
namespace Hf
open PySem PySem.Spec PyProof.Rows L2
/-- every tracked object but the one at a is as it was -/
def But (a : Addr) (H H' : Hp) : Prop := ∀ b o, b ≠ a → H b = some o → H' b = some o
theorem But.same {a : Addr} {H H' : Hp} (e : Same H H') : But a H H' := fun b o _ h => e b o h
theorem But.refl (a : Addr) (H : Hp) : But a H H := fun _ _ _ h => h
theorem But.trans {a : Addr} {H H1 H2 : Hp} (x : But a H H1) (y : But a H1 H2) : But a H H2 := fun b o n h => y b o n (x b o n h)
theorem But.upd {a : Addr} {H H1 : Hp} {o : HO} (x : But a H H1) : But a H (upd H1 a o) := fun b u n h => by
  rw [upd_ne n]
  exact x b u n h
theorem But.new {a p : Addr} {H H1 : Hp} {o : HO} (x : But a H H1) (hp : H1 p = none) : But a H (L2.upd H1 p o) := fun b u n h => by
  have h1 := x b u n h
  rw [upd_ne (ne_of_none h1 hp)]
  exact h1
theorem But.to_same {a : Addr} {H H' : Hp} (x : But a H H') (n : H a = none) : Same H H' := fun b o h => x b o (ne_of_none h n) h
theorem Same.new {H : Hp} {p : Addr} {o : HO} (hp : H p = none) : Same H (upd H p o) := fun b u h => by
  rw [upd_ne (ne_of_none h hp)]
  exact h
theorem Same.newT {H0 H : Hp} {p : Addr} {o : HO} (e : Same H0 H) (hp : H p = none) : Same H0 (upd H p o) := e.trans (Same.new hp)
/-- a change at an object that H0 does not know -/
theorem Same.mut {H0 H : Hp} {p : Addr} {o : HO} (e : Same H0 H) (hp : H0 p = none) : Same H0 (upd H p o) := fun b u h => by
  rw [upd_ne (ne_of_none h hp)]
  exact e b u h
theorem Same.but {H0 H H1 : Hp} {p : Addr} (e : Same H0 H) (hp : H0 p = none) (x : But p H H1) : Same H0 H1 := fun b u h => x b u (ne_of_none h hp) (e b u h)
theorem Same.seqT {K : PySem.W.Frag} {H H' : Hp} {a : Addr} {xs : List V} (e : Same H H') (h : SqT K H a xs) : SqT K H' a xs := by
  rcases h with (h | ⟨o, h⟩) | h
  · exact .inl (.inl (e _ _ h))
  · exact .inl (.inr ⟨o, e _ _ h⟩)
  · exact .inr h
theorem But.seq {K : PySem.W.Frag} {H H' : Hp} {a b : Addr} {xs : List V} (e : But a H H') (n : b ≠ a) (h : SqL K H b xs) : SqL K H' b xs := by
  rcases h with (h | ⟨o, h⟩) | h
  · exact .inl (.inl (e _ _ n h))
  · exact .inl (.inr ⟨o, e _ _ n h⟩)
  · exact .inr h
theorem But.seqT {K : PySem.W.Frag} {H H' : Hp} {a b : Addr} {xs : List V} (e : But a H H') (n : b ≠ a) (h : SqT K H b xs) : SqT K H' b xs := by
  rcases h with (h | ⟨o, h⟩) | h
  · exact .inl (.inl (e _ _ n h))
  · exact .inl (.inr ⟨o, e _ _ n h⟩)
  · exact .inr h
/-- a guard: its way is barred where P is at hand -/
def Guard (_ : Prop) : Prop := True
theorem Guard.of {P : Prop} (_ : P) : Guard P := trivial
theorem lk_upd {H : Hp} {a b : Addr} {o u : HO} (n : b ≠ a) (h : H b = some u) : upd H a o b = some u := by
  rw [upd_ne n]
  exact h
theorem lk_new {H : Hp} {a b : Addr} {o u : HO} (n : H a = none) (h : H b = some u) : upd H a o b = some u := by
  rw [upd_ne (ne_of_none h n)]
  exact h
theorem lk_updG {H : Hp} {a b : Addr} {o u : HO} (_ : Guard (H a = none)) (n : b ≠ a) (h : H b = some u) : upd H a o b = some u := lk_upd n h
theorem lk_none {H H' : Hp} {a : Addr} (e : Same H H') (n : H' a = none) : H a = none := e.free n
theorem lkL_new {K : PySem.W.Frag} {H : Hp} {a b : Addr} {o : HO} {xs : List V} (n : H a = none) (h : SqL K H b xs) : SqL K (upd H a o) b xs := (Same.new n).seq h
theorem lkT_new {K : PySem.W.Frag} {H : Hp} {a b : Addr} {o : HO} {xs : List V} (n : H a = none) (h : SqT K H b xs) : SqT K (upd H a o) b xs := Same.seqT (Same.new n) h
theorem lkL_upd {K : PySem.W.Frag} {H : Hp} {a b : Addr} {o : HO} {xs : List V} (n : b ≠ a) (h : SqL K H b xs) : SqL K (upd H a o) b xs := But.seq (But.upd (But.refl a H)) n h
theorem lkT_upd {K : PySem.W.Frag} {H : Hp} {a b : Addr} {o : HO} {xs : List V} (n : b ≠ a) (h : SqT K H b xs) : SqT K (upd H a o) b xs := But.seqT (But.upd (But.refl a H)) n h
theorem lkL_updG {K : PySem.W.Frag} {H : Hp} {a b : Addr} {o : HO} {xs : List V} (_ : Guard (H a = none)) (n : b ≠ a) (h : SqL K H b xs) : SqL K (upd H a o) b xs := lkL_upd n h
theorem lkT_updG {K : PySem.W.Frag} {H : Hp} {a b : Addr} {o : HO} {xs : List V} (_ : Guard (H a = none)) (n : b ≠ a) (h : SqT K H b xs) : SqT K (upd H a o) b xs := lkT_upd n h
theorem ne_new {H : Hp} {a b : Addr} {o : HO} (n : H b = none) (h : H a = some o) : a ≠ b := ne_of_none h n
theorem ne_new' {H : Hp} {a b : Addr} {o : HO} (n : H b = none) (h : H a = some o) : b ≠ a := (ne_of_none h n).symm
theorem ne_at {α : Type} {a b : α} (h : a ≠ b) : b ≠ a := h.symm
/-! ### sizes -/
theorem sz4 {n : Nat} (h : n ≤ 1000000) : n ≤ sizeLine := Nat.le_trans h (by decide)
theorem sz4' {n : Nat} (h : n ≤ 1000000) : n < sizeLine := Nat.lt_of_le_of_lt h (by decide)
/-! ### two operators, wider -/
def CMulA (i j : Int) : Prop := CMul i j ∨ CMulW i j
theorem CMulA.ok {i j : Int} (h : CMulA i j) : IntMulOk i j := h.elim CMul.ok CMulW.ok
theorem op_mulA {X : Cx} : OpR X (binaryOp .Mult) (rI CMulA fun i j => .int (i * j)) := opI fun _ _ _ _ _ _ _ hc q => mul_int q hc.ok
def CDivA (_ j : Int) : Prop := j ≠ 0 ∧ j.natAbs.log2 < 9000
theorem op_fdivA {X : Cx} : OpR X (binaryOp .FloorDiv) (rI CDivA fun i j => .int (i.fdiv j)) := opI fun _ _ _ _ _ _ _ hc q => floordiv_int hc.1 q (.inl (PyProof.noPylong_of_log2 hc.2))
theorem mulL {i j : Int} (h : -(2 ^ 64) < i ∧ i < 2 ^ 64) : CMulA i j := .inl (.inl h)
theorem mulR {i j : Int} (h : -(2 ^ 64) < j ∧ j < 2 ^ 64) : CMulA i j := .inl (.inr h)
theorem log_lt {j : Int} {b : Nat} (h : j.natAbs < 2 ^ b) (h0 : 0 < b) (h9 : b ≤ 9000) : j.natAbs.log2 < 9000 := Nat.lt_of_lt_of_le (PySem.Flt.log2_lt_of h0 h) h9
theorem log_small {j : Int} (h : -(2 ^ 200) < j ∧ j < 2 ^ 200) : j.natAbs.log2 < 9000 := log_lt (b := 200) (by omega) (by decide) (by decide)
theorem mulW {i j : Int} {a b : Nat} (ha : i.natAbs < 2 ^ a) (hb : j.natAbs < 2 ^ b) (h0 : 0 < a) (h1 : 0 < b) (h : a + b ≤ 1000000) : CMulA i j := .inr (wide_mul ha hb h0 h1 h)
theorem divS {i j : Int} (h0 : j ≠ 0) (h : -(2 ^ 200) < j ∧ j < 2 ^ 200) : CDivA i j := ⟨h0, log_small h⟩
/-! ### the steps -/
section
variable {σ σ' : L2.St} {H : Hp} {Q : VK} {x y v : V} {i j : Int} {n : Nat} {nx bk ct : L2.St → Hp → Prop} {rt : VK} {K : PySem.W.Frag} {a p : Addr} {xs : List V}
theorem start_to {N : List Str} {vs : List V} {t : TS} {D : Ends} (e : start N vs = σ) (h : t D σ H) : t D (start N vs) H := by
  rw [e]
  exact h
theorem i_ends {t : TS} {rt : VK} (h : t ⟨fun _ H' => rt .non H', rt, fun _ _ => False, fun _ _ => False⟩ σ H) : t { nx := fun _ H' => rt .non H', rt := rt } σ H := h
theorem i_seq {t u : TS} (h : t ⟨u ⟨nx, rt, bk, ct⟩, rt, bk, ct⟩ σ H) : tSeq t u ⟨nx, rt, bk, ct⟩ σ H := h
theorem i_asg {te : TE} {g : TG} (h : te σ H fun x H1 => g x σ H1 nx) : tAsg te g ⟨nx, rt, bk, ct⟩ σ H := h
theorem i_gname {k : Nat} {Z : L2.St → Hp → Prop} (e : σ.set k (some v) = σ') (q : Z σ' H) : gName k v σ H Z := by
  subst e
  exact q
theorem i_ret {te : TE} (h : te σ H rt) : tRet te ⟨nx, rt, bk, ct⟩ σ H := h
theorem i_retN (h : rt .non H) : tRetN ⟨nx, rt, bk, ct⟩ σ H := h
theorem i_next (h : nx σ H) : tNext ⟨nx, rt, bk, ct⟩ σ H := h
theorem i_brk (h : bk σ H) : tBreak ⟨nx, rt, bk, ct⟩ σ H := h
theorem i_cnt (h : ct σ H) : tCont ⟨nx, rt, bk, ct⟩ σ H := h
theorem i_drop {te : TE} (h : te σ H fun _ H1 => nx σ H1) : tDrop te ⟨nx, rt, bk, ct⟩ σ H := h
theorem i_ifs {c : TT} {t u : TS} (h : c σ H fun b H1 => if b = true then t ⟨nx, rt, bk, ct⟩ σ H1 else u ⟨nx, rt, bk, ct⟩ σ H1) : tIfS c t u ⟨nx, rt, bk, ct⟩ σ H := h
theorem i_var {k : Nat} (h : σ[k]? = some (some v)) (q : Q v H) : tVar k σ H Q := ⟨v, h, q⟩
theorem i_c (q : Q v H) : tC v σ H Q := q
theorem i_op {r : R2} {ta tb : TE} (h : ta σ H fun x H1 => tb σ H1 fun y H2 => r x y H2 Q) : tOp r ta tb σ H Q := h
theorem i_un {r : V → Hp → VK → Prop} {ta : TE} (h : ta σ H fun x H1 => r x H1 Q) : tUn r ta σ H Q := h
theorem i_I0 {g : Int → Int → V} (q : Q (g i j) H) : rI0 g (.int i) (.int j) H Q := ⟨i, j, rfl, rfl, q⟩
theorem i_I {C : Int → Int → Prop} {g : Int → Int → V} (c : C i j) (q : Q (g i j) H) : rI C g (.int i) (.int j) H Q := ⟨i, j, rfl, rfl, c, q⟩
theorem i_pow {m : Int} (c : CPow i j) (e : i ^ j.toNat = m) (q : Q (.int m) H) : rI CPow (fun i j => .int (i ^ j.toNat)) (.int i) (.int j) H Q := ⟨i, j, rfl, rfl, c, by
  show Q (.int (i ^ j.toNat)) H
  rw [e]
  exact q⟩
theorem i_U {g : Int → V} (q : Q (g i) H) : rU g (.int i) H Q := ⟨i, rfl, q⟩
theorem i_eqI (q : Q (.bl (decide (i = j))) H) : rEq (.int i) (.int j) H Q := ⟨rfl, by
  have e : decide (V.int i = V.int j) = decide (i = j) := by
    by_cases h : i = j
    · rw [decide_eq_true h, decide_eq_true (congrArg V.int h)]
    · rw [decide_eq_false h, decide_eq_false fun z => h (V.int.inj z)]
  rw [e]
  exact q⟩
theorem i_neI (q : Q (.bl (!decide (i = j))) H) : rNe (.int i) (.int j) H Q := ⟨rfl, by
  have e : decide (V.int i = V.int j) = decide (i = j) := by
    by_cases h : i = j
    · rw [decide_eq_true h, decide_eq_true (congrArg V.int h)]
    · rw [decide_eq_false h, decide_eq_false fun z => h (V.int.inj z)]
  rw [e]
  exact q⟩
theorem i_eqB {c d : Bool} (q : Q (.bl (c == d)) H) : rEq (.bl c) (.bl d) H Q := ⟨rfl, by
  rw [dec_bl]
  exact q⟩
theorem i_neB {c d : Bool} (q : Q (.bl (!(c == d))) H) : rNe (.bl c) (.bl d) H Q := ⟨rfl, by
  rw [dec_bl]
  exact q⟩
theorem i_eqS {c d : Str} (q : Q (.bl (c == d)) H) : rEq (.str c) (.str d) H Q := ⟨rfl, by
  rw [dec_str]
  exact q⟩
theorem i_neS {c d : Str} (q : Q (.bl (!(c == d))) H) : rNe (.str c) (.str d) H Q := ⟨rfl, by
  rw [dec_str]
  exact q⟩
theorem i_test {te : TE} {P : Bool → Hp → Prop} (h : te σ H fun x H1 => ∃ k, x = .bl k ∧ P k H1) : tTest te σ H P := h
theorem i_B {te : TE} {P : Bool → Hp → Prop} (h : te σ H fun x H1 => ∃ k, x = .bl k ∧ P k H1) : tB te σ H P := h
theorem i_bl {b : Bool} {P : Bool → Prop} (q : P b) : ∃ k, V.bl b = .bl k ∧ P k := ⟨b, rfl, q⟩
theorem i_and {t u : TT} {P : Bool → Hp → Prop} (h : t σ H fun c H1 => if c = true then u σ H1 P else P false H1) : tAnd t u σ H P := h
theorem i_or {t u : TT} {P : Bool → Hp → Prop} (h : t σ H fun c H1 => if c = true then P true H1 else u σ H1 P) : tOr t u σ H P := h
theorem i_not {t : TT} {P : Bool → Hp → Prop} (h : t σ H fun c H1 => P (!c) H1) : tNot t σ H P := h
theorem i_andV {ta tb : TE} (h : ta σ H fun x H1 => ∃ c, x = .bl c ∧ if c = true then tb σ H1 Q else Q (.bl false) H1) : tAndV ta tb σ H Q := h
theorem i_orV {ta tb : TE} (h : ta σ H fun x H1 => ∃ c, x = .bl c ∧ if c = true then Q (.bl true) H1 else tb σ H1 Q) : tOrV ta tb σ H Q := h
theorem i_notV {ta : TE} (h : ta σ H fun x H1 => ∃ c, x = .bl c ∧ Q (.bl (!c)) H1) : tNotV ta σ H Q := h
theorem i_ife {t : TT} {ta tb : TE} (h : t σ H fun c H1 => if c = true then ta σ H1 Q else tb σ H1 Q) : tIf t ta tb σ H Q := h
theorem i_call {sp : Sp} {E : XK} {t : TA} (h : t σ H fun vs H1 => sp vs H1 Q E) : tCall sp [] E t σ H Q := by
  have e : (fun vs H1 => sp (vs ++ []) H1 Q E) = fun vs H1 => sp vs H1 Q E := by
    funext vs H1
    rw [List.append_nil]
  show t σ H (fun vs H1 => sp (vs ++ []) H1 Q E)
  rw [e]
  exact h
theorem i_cb {r : List V → Hp → VK → Prop} {t : TA} (h : t σ H fun vs H1 => r vs H1 Q) : tCB r t σ H Q := h
theorem i_nil {P : List V → Hp → Prop} (q : P [] H) : tNil σ H P := q
theorem i_cons {ta : TE} {tr : TA} {P : List V → Hp → Prop} (h : ta σ H fun x H1 => tr σ H1 fun xs H2 => P (x :: xs) H2) : tCons ta tr σ H P := h
theorem i_tup {t : TA} (h : t σ H fun xs H1 => xs.length ≤ sizeLine ∧ ∀ p, H1 p = none → Q (.ref p) (upd H1 p (.tup xs))) : tTup t σ H Q := h
theorem i_lst {t : TA} (h : t σ H fun xs H1 => xs.length ≤ sizeLine ∧ ∀ p, H1 p = none → Q (.ref p) (upd H1 p (.lst xs))) : tLst t σ H Q := h
theorem i_new {R : Addr → Prop} (hz : xs.length ≤ sizeLine) (q : ∀ p, H p = none → R p) : xs.length ≤ sizeLine ∧ ∀ p, H p = none → R p := ⟨hz, q⟩
theorem i_ixL (h : SqL K H p xs) (e : atI xs i = some v) (q : Q v H) : rIxL K (.ref p) (.int i) H Q := ⟨p, xs, i, v, rfl, rfl, h, e, q⟩
theorem i_ixT (h : SqT K H p xs) (e : atI xs i = some v) (q : Q v H) : rIxT K (.ref p) (.int i) H Q := ⟨p, xs, i, v, rfl, rfl, h, e, q⟩
theorem at_lt {α : Type} {xs : List α} {i : Int} (h0 : 0 ≤ i) (h1 : i < xs.length) : ∃ v, atI xs i = some v ∧ xs[i.toNat]? = some v := by
  have hk : i.toNat < xs.length := by omega
  refine ⟨xs[i.toNat], ?_, List.getElem?_eq_getElem hk⟩
  have e := atI_nat (xs := xs) (j := i.toNat) (v := xs[i.toNat]) (List.getElem?_eq_getElem hk)
  rw [Int.toNat_of_nonneg h0] at e
  exact e
/-- an item at an open place: one of those written -/
theorem i_ix2 {y1 y2 : V} (h : SqL K H p [y1, y2]) (h0 : 0 ≤ i) (h1 : i < 2) (q : ∀ v, v = y1 ∨ v = y2 → Q v H) : rIxL K (.ref p) (.int i) H Q := by
  rcases (by omega : i = 0 ∨ i = 1) with e | e <;> subst e
  · exact ⟨p, _, _, y1, rfl, rfl, h, rfl, q _ (.inl rfl)⟩
  · exact ⟨p, _, _, y2, rfl, rfl, h, rfl, q _ (.inr rfl)⟩
theorem i_ix2I {y1 y2 : Int} (h : SqL K H p [.int y1, .int y2]) (h0 : 0 ≤ i) (h1 : i < 2) (q : ∀ v, v = y1 ∨ v = y2 → Q (.int v) H) : rIxL K (.ref p) (.int i) H Q := by
  rcases (by omega : i = 0 ∨ i = 1) with e | e <;> subst e
  · exact ⟨p, _, _, .int y1, rfl, rfl, h, rfl, q _ (.inl rfl)⟩
  · exact ⟨p, _, _, .int y2, rfl, rfl, h, rfl, q _ (.inr rfl)⟩
theorem i_ix3I {y1 y2 y3 : Int} (h : SqL K H p [.int y1, .int y2, .int y3]) (h0 : 0 ≤ i) (h1 : i < 3) (q : ∀ v, v = y1 ∨ v = y2 ∨ v = y3 → Q (.int v) H) : rIxL K (.ref p) (.int i) H Q := by
  rcases (by omega : i = 0 ∨ i = 1 ∨ i = 2) with e | e | e <;> subst e
  · exact ⟨p, _, _, .int y1, rfl, rfl, h, rfl, q _ (.inl rfl)⟩
  · exact ⟨p, _, _, .int y2, rfl, rfl, h, rfl, q _ (.inr (.inl rfl))⟩
  · exact ⟨p, _, _, .int y3, rfl, rfl, h, rfl, q _ (.inr (.inr rfl))⟩
theorem i_ix4I {y1 y2 y3 y4 : Int} (h : SqL K H p [.int y1, .int y2, .int y3, .int y4]) (h0 : 0 ≤ i) (h1 : i < 4) (q : ∀ v, v = y1 ∨ v = y2 ∨ v = y3 ∨ v = y4 → Q (.int v) H) : rIxL K (.ref p) (.int i) H Q := by
  rcases (by omega : i = 0 ∨ i = 1 ∨ i = 2 ∨ i = 3) with e | e | e | e <;> subst e
  · exact ⟨p, _, _, .int y1, rfl, rfl, h, rfl, q _ (.inl rfl)⟩
  · exact ⟨p, _, _, .int y2, rfl, rfl, h, rfl, q _ (.inr (.inl rfl))⟩
  · exact ⟨p, _, _, .int y3, rfl, rfl, h, rfl, q _ (.inr (.inr (.inl rfl)))⟩
  · exact ⟨p, _, _, .int y4, rfl, rfl, h, rfl, q _ (.inr (.inr (.inr rfl)))⟩
theorem i_ix3R {y1 y2 y3 : Addr} (h : SqL K H p [.ref y1, .ref y2, .ref y3]) (h0 : 0 ≤ i) (h1 : i < 3) (q : ∀ v, v = y1 ∨ v = y2 ∨ v = y3 → Q (.ref v) H) : rIxL K (.ref p) (.int i) H Q := by
  rcases (by omega : i = 0 ∨ i = 1 ∨ i = 2) with e | e | e <;> subst e
  · exact ⟨p, _, _, .ref y1, rfl, rfl, h, rfl, q _ (.inl rfl)⟩
  · exact ⟨p, _, _, .ref y2, rfl, rfl, h, rfl, q _ (.inr (.inl rfl))⟩
  · exact ⟨p, _, _, .ref y3, rfl, rfl, h, rfl, q _ (.inr (.inr rfl))⟩
theorem i_ix4R {y1 y2 y3 y4 : Addr} (h : SqL K H p [.ref y1, .ref y2, .ref y3, .ref y4]) (h0 : 0 ≤ i) (h1 : i < 4) (q : ∀ v, v = y1 ∨ v = y2 ∨ v = y3 ∨ v = y4 → Q (.ref v) H) : rIxL K (.ref p) (.int i) H Q := by
  rcases (by omega : i = 0 ∨ i = 1 ∨ i = 2 ∨ i = 3) with e | e | e | e <;> subst e
  · exact ⟨p, _, _, .ref y1, rfl, rfl, h, rfl, q _ (.inl rfl)⟩
  · exact ⟨p, _, _, .ref y2, rfl, rfl, h, rfl, q _ (.inr (.inl rfl))⟩
  · exact ⟨p, _, _, .ref y3, rfl, rfl, h, rfl, q _ (.inr (.inr (.inl rfl)))⟩
  · exact ⟨p, _, _, .ref y4, rfl, rfl, h, rfl, q _ (.inr (.inr (.inr rfl)))⟩
theorem i_gtup {m : Nat} {t : TGs} {Z : L2.St → Hp → Prop} (h : SqT K H p xs) (e : xs.length = m) (q : t xs σ H Z) : gTup K m t (.ref p) σ H Z := ⟨p, xs, rfl, h, e, q⟩
theorem i_gtupL {m : Nat} {t : TGs} {Z : L2.St → Hp → Prop} (h : SqT K H p xs) (e : xs.length = m) (q : t xs σ H Z) : gTup K m t (.ref p) σ H Z := ⟨p, xs, rfl, h, e, q⟩
theorem i_gcons {t : TG} {u : TGs} {r : List V} {Z : L2.St → Hp → Prop} (h : t v σ H fun σ1 H1 => u r σ1 H1 Z) : gCons t u (v :: r) σ H Z := ⟨v, r, rfl, h⟩
theorem i_gnil {Z : L2.St → Hp → Prop} (h : Z σ H) : gNil [] σ H Z := ⟨rfl, h⟩
theorem i_gsub {to ti : TE} {t : TSet} {Z : L2.St → Hp → Prop} (h : to σ H fun o H1 => ti σ H1 fun i H2 => t o i v H2 fun H3 => Z σ H3) : gSub to ti t v σ H Z := h
theorem i_setL {k : Nat} {Z : Hp → Prop} (h : H p = some (.lst xs)) (e : ixN xs.length i = some k) (q : Z (upd H p (.lst (xs.set k v)))) : rSetL (.ref p) (.int i) v H Z := ⟨p, xs, i, k, rfl, rfl, h, e, q⟩
def par2 (k1 k2 : Nat) (σ : L2.St) (Z : L2.St → Hp → Prop) : List V → Hp → Prop := fun vs H1 => ∃ v w, vs = [v, w] ∧ Z ((σ.set k1 (some v)).set k2 (some w)) H1
theorem i_par {k1 k2 : Nat} {ta : TA} (h : ta σ H (par2 k1 k2 σ nx)) : tPar k1 k2 ta ⟨nx, rt, bk, ct⟩ σ H := h
theorem i_par2 {k1 k2 : Nat} {w : V} {Z : L2.St → Hp → Prop} (e : (σ.set k1 (some v)).set k2 (some w) = σ') (q : Z σ' H) : par2 k1 k2 σ Z [v, w] H := by
  subst e
  exact ⟨v, w, rfl, q⟩
theorem i_aug {k : Nat} {te : TE} {ti : TIp} (h : σ[k]? = some (some x)) (q : te σ H fun y H1 => ti x y H1 fun z H2 => gName k z σ H2 nx) : tAug k te ti ⟨nx, rt, bk, ct⟩ σ H := ⟨x, h, q⟩
theorem i_ip {f : Int → Int → Int} (q : Q (.int (f i j)) H) : ipI f (.int i) (.int j) H Q := ⟨i, j, rfl, rfl, q⟩
theorem i_for {wi : TI} {g : TG} {tb : TS} (h : wi σ H fun J H1 => ∃ W : Nat → Nat → L2.St → Hp → Prop, (∃ m, W 0 m σ H1) ∧ ∀ i m σ H, W i m σ H →
  (J.stop i H ∧ nx σ H) ∨ (J.go i H ∧ ∃ N : L2.St → Hp → Prop, (∀ σ' H', N σ' H' → ∃ m', m' < m ∧ W (i + 1) m' σ' H') ∧ ∀ x H', J.yld i H x H' → g x σ H' fun σ2 H2 => tb ⟨N, rt, nx, N⟩ σ2 H2)) : tFor wi g tb ⟨nx, rt, bk, ct⟩ σ H := h
theorem i_rng1 {ta : TA} {R : It → Hp → Prop} (h : ta σ H fun vs H1 => ∃ j : Int, vs = [.int j] ∧ -(2 ^ 62) ≤ j ∧ j < 2 ^ 62 ∧ R (Itr 0 j.toNat) H1) : iRng1 ta σ H R := h
theorem i_rng1' {R : Int → Prop} (h1 : -(2 ^ 62) ≤ j) (h2 : j < 2 ^ 62) (q : R j) : ∃ j' : Int, [V.int j] = [.int j'] ∧ -(2 ^ 62) ≤ j' ∧ j' < 2 ^ 62 ∧ R j' := ⟨j, rfl, h1, h2, q⟩
theorem i_rng2 {ta : TA} {R : It → Hp → Prop} (h : ta σ H fun vs H1 => ∃ i j : Int, vs = [.int i, .int j] ∧ (-(2 ^ 62) ≤ i ∧ i < 2 ^ 62 ∧ -(2 ^ 62) ≤ j ∧ j < 2 ^ 62) ∧ R (Itr i (j - i).toNat) H1) : iRng2 ta σ H R := h
theorem i_rng2' {R : Int → Int → Prop} (h : -(2 ^ 62) ≤ i ∧ i < 2 ^ 62 ∧ -(2 ^ 62) ≤ j ∧ j < 2 ^ 62) (q : R i j) : ∃ i' j' : Int, [V.int i, V.int j] = [.int i', .int j'] ∧ (-(2 ^ 62) ≤ i' ∧ i' < 2 ^ 62 ∧ -(2 ^ 62) ≤ j' ∧ j' < 2 ^ 62) ∧ R i' j' := ⟨i, j, rfl, h, q⟩
theorem i_ilist {tl : TE} {R : It → Hp → Prop} (h : tl σ H fun x H1 => ∃ a, x = .ref a ∧ (∃ xs, SqL K H1 a xs) ∧ R (Itl K a) H1) : iList K tl σ H R := h
theorem i_ilist' {R : Addr → Prop} (h : SqL K H p xs) (q : R p) : ∃ a, V.ref p = .ref a ∧ (∃ xs, SqL K H a xs) ∧ R a := ⟨p, rfl, ⟨xs, h⟩, q⟩
theorem i_itup {tl : TE} {R : It → Hp → Prop} (h : tl σ H fun x H1 => ∃ a, x = .ref a ∧ (∃ xs, SqT K H1 a xs) ∧ R (Itt K a) H1) : iTup K tl σ H R := h
theorem i_itup' {R : Addr → Prop} (h : SqT K H p xs) (q : R p) : ∃ a, V.ref p = .ref a ∧ (∃ xs, SqT K H a xs) ∧ R a := ⟨p, rfl, ⟨xs, h⟩, q⟩
/-- built-ins by values -/
theorem i_abs {R : Int → Prop} (q : R i) : ∃ i', [V.int i] = [.int i'] ∧ R i' := ⟨i, rfl, q⟩
theorem i_int2 {R : Int → Int → Prop} (q : R i j) : ∃ i' j', [V.int i, V.int j] = [.int i', .int j'] ∧ R i' j' := ⟨i, j, rfl, q⟩

theorem i_int1 {R : Int → Prop} {S : Prop} (q : R i) : (∃ i', [V.int i] = [.int i'] ∧ R i') ∨ S := .inl ⟨i, rfl, q⟩
theorem i_intb {b : Bool} {R : Bool → Prop} {S : Prop} (q : R b) : S ∨ ∃ k, [V.bl b] = [.bl k] ∧ R k := .inr ⟨b, rfl, q⟩
theorem i_lenL {R : List V → Prop} (h : SqL K H p xs) (q : R xs) : ∃ p' ys, [V.ref p] = [.ref p'] ∧ (SqL K H p' ys ∨ SqT K H p' ys) ∧ R ys := ⟨p, xs, rfl, .inl h, q⟩
theorem i_lenT {R : List V → Prop} (h : SqT K H p xs) (q : R xs) : ∃ p' ys, [V.ref p] = [.ref p'] ∧ (SqL K H p' ys ∨ SqT K H p' ys) ∧ R ys := ⟨p, xs, rfl, .inr h, q⟩
theorem i_isi {t : String} {c : String} {b : Bool} (ty : TyX K H x (.type t)) (h : kitB t c = some b) (q : Q (.bl b) H) : rIsi K [x, .ty c] H Q := ⟨x, .ty c, .type t, .type c, b, rfl, .ty c, ty, kit_ty h, q⟩
theorem i_append (h : H p = some (.lst xs)) (hz : xs.length < sizeLine) (q : Q .non (upd H p (.lst (xs ++ [v])))) : rAppend (.ref p) [v] H Q := ⟨p, xs, v, rfl, rfl, h, hz, q⟩
theorem i_appendM {H : Hp} {Q : VK} {p : Addr} {ms : List Int} {z : Int} (h : H p = some (.lst (ms.map V.int))) (hz : ms.length < sizeLine) (q : Q .non (upd H p (.lst ((ms ++ [z]).map V.int)))) : rAppend (.ref p) [.int z] H Q := ⟨p, _, _, rfl, rfl, h, by rw [List.length_map]; exact hz, by rw [List.map_append] at q; exact q⟩
theorem i_bm {T : String} {r : V → List V → Hp → VK → Prop} {to : TE} {t : TA} (h : to σ H fun x H1 => tyV K T x H1 ∧ t σ H1 fun xs H2 => r x xs H2 Q) : tBM K T r to t σ H Q := h
theorem i_bm0 {T : String} {r : V → List V → Hp → VK → Prop} {to : TE} (h : to σ H fun x H1 => tyV K T x H1 ∧ r x [] H1 Q) : tBM0 K T r to σ H Q := h
theorem i_bmL {A : Prop} (h : SqL K H p xs) (q : A) : tyV K "list" (.ref p) H ∧ A := ⟨.inl ⟨rfl, _, h⟩, q⟩
/-! ### ifs -/
theorem ite_d {p A B : Prop} {d : Decidable p} (h1 : p → A) (h2 : ¬ p → B) : if (@decide p d) = true then A else B := by
  by_cases h : p
  · rw [if_pos (decide_eq_true h)]
    exact h1 h
  · rw [if_neg (by rw [decide_eq_false h]; decide)]
    exact h2 h
theorem ite_nd {p A B : Prop} {d : Decidable p} (h1 : ¬ p → A) (h2 : p → B) : if (!(@decide p d)) = true then A else B := by
  by_cases h : p
  · rw [if_neg (by rw [decide_eq_true h]; decide)]
    exact h2 h
  · rw [if_pos (by rw [decide_eq_false h]; decide)]
    exact h1 h
theorem ite_b {b : Bool} {A B : Prop} (h1 : b = true → A) (h2 : b = false → B) : if b = true then A else B := by
  cases b
  · rw [if_neg (by decide)]
    exact h2 rfl
  · rw [if_pos rfl]
    exact h1 rfl
theorem ite_y {b : Bool} {A B : Prop} (e : b = true) (h : A) : if b = true then A else B := by
  rw [if_pos e]
  exact h
theorem ite_n {b : Bool} {A B : Prop} (e : b = false) (h : B) : if b = true then A else B := by
  rw [if_neg (by rw [e]; decide)]
  exact h
/-- both ways at once: what follows is asked of either -/
theorem ite_or {b : Bool} {R : Prop} {P : Bool → Prop} (h1 : b = true → P true → R) (h2 : b = false → P false → R) (hp : P b) : R := by
  cases b
  · exact h2 rfl hp
  · exact h1 rfl hp
end
end Hf
namespace Hf
open PySem PySem.Spec PyProof.Rows L2
theorem set_z {α : Type} {x y : α} {r : List α} : List.set (x :: r) 0 y = y :: r := rfl
theorem set_s {α : Type} {x y : α} {r r' : List α} {k : Nat} (h : List.set r k y = r') : List.set (x :: r) (k + 1) y = x :: r' := by
  rw [List.set_cons_succ, h]
theorem set_par {α : Type} {l l1 l2 : List α} {j k : Nat} {y z : α} (h1 : l.set j y = l1) (h2 : l1.set k z = l2) : (l.set j y).set k z = l2 := by
  rw [h1, h2]
theorem lk_same {H H' : Hp} {a : Addr} {o : HO} (e : Same H H') (h : H a = some o) : H' a = some o := e a o h
theorem lk_but {H H' : Hp} {a b : Addr} {o : HO} (e : But a H H') (n : b ≠ a) (h : H b = some o) : H' b = some o := e b o n h
end Hf

namespace Hf
open PySem PySem.Spec PyProof.Rows L2
/-! ### loops -/
section
variable {σ : L2.St} {H : Hp} {Q : VK} {nx bk ct : L2.St → Hp → Prop} {rt : VK} {K : PySem.W.Frag} {a : Addr} {xs : List V} {g : TG} {tb : TS} {lo : Int} {n : Nat}
theorem forR (Pv : Nat → L2.St → Hp → Prop) (h0 : Pv 0 σ H) (hd : ∀ σ H, Pv n σ H → nx σ H)
    (hs : ∀ (i : Nat) σ H, i < n → Pv i σ H → g (.int (lo + i)) σ H fun σ2 H2 => tb ⟨Pv (i + 1), rt, nx, Pv (i + 1)⟩ σ2 H2) :
    ∃ W : Nat → Nat → L2.St → Hp → Prop, (∃ m, W 0 m σ H) ∧ ∀ i m σ H, W i m σ H →
      ((Itr lo n).stop i H ∧ nx σ H) ∨ ((Itr lo n).go i H ∧ ∃ N : L2.St → Hp → Prop, (∀ σ' H', N σ' H' → ∃ m', m' < m ∧ W (i + 1) m' σ' H') ∧ ∀ x H', (Itr lo n).yld i H x H' → g x σ H' fun σ2 H2 => tb ⟨N, rt, nx, N⟩ σ2 H2) :=
  for_range (D := ⟨nx, rt, fun _ _ => False, fun _ _ => False⟩) Pv h0 hs hd
theorem forL (Pv : Nat → L2.St → Hp → Prop) (h0 : Pv 0 σ H) (hl : ∀ i σ H, i ≤ xs.length → Pv i σ H → SqL K H a xs) (hd : ∀ σ H, Pv xs.length σ H → nx σ H)
    (hs : ∀ i x σ H, xs[i]? = some x → Pv i σ H → g x σ H fun σ2 H2 => tb ⟨Pv (i + 1), rt, nx, Pv (i + 1)⟩ σ2 H2) :
    ∃ W : Nat → Nat → L2.St → Hp → Prop, (∃ m, W 0 m σ H) ∧ ∀ i m σ H, W i m σ H →
      ((Itl K a).stop i H ∧ nx σ H) ∨ ((Itl K a).go i H ∧ ∃ N : L2.St → Hp → Prop, (∀ σ' H', N σ' H' → ∃ m', m' < m ∧ W (i + 1) m' σ' H') ∧ ∀ x H', (Itl K a).yld i H x H' → g x σ H' fun σ2 H2 => tb ⟨N, rt, nx, N⟩ σ2 H2) :=
  for_list (D := ⟨nx, rt, fun _ _ => False, fun _ _ => False⟩) Pv h0 hl hs hd
theorem forT (Pv : Nat → L2.St → Hp → Prop) (h0 : Pv 0 σ H) (hl : ∀ i σ H, i ≤ xs.length → Pv i σ H → SqT K H a xs) (hd : ∀ σ H, Pv xs.length σ H → nx σ H)
    (hs : ∀ i x σ H, xs[i]? = some x → Pv i σ H → g x σ H fun σ2 H2 => tb ⟨Pv (i + 1), rt, nx, Pv (i + 1)⟩ σ2 H2) :
    ∃ W : Nat → Nat → L2.St → Hp → Prop, (∃ m, W 0 m σ H) ∧ ∀ i m σ H, W i m σ H →
      ((Itt K a).stop i H ∧ nx σ H) ∨ ((Itt K a).go i H ∧ ∃ N : L2.St → Hp → Prop, (∀ σ' H', N σ' H' → ∃ m', m' < m ∧ W (i + 1) m' σ' H') ∧ ∀ x H', (Itt K a).yld i H x H' → g x σ H' fun σ2 H2 => tb ⟨N, rt, nx, N⟩ σ2 H2) :=
  for_tup (D := ⟨nx, rt, fun _ _ => False, fun _ _ => False⟩) Pv h0 hl hs hd
/-- while: W by a measure; the test is read by hand, its two ways by turnW and the loop's end -/
theorem whileW {c : TT} (W : Nat → L2.St → Hp → Prop) (m : Nat) (h0 : W m σ H)
    (hs : ∀ m σ H, W m σ H → c σ H fun b H1 => if b = true then ∃ N : L2.St → Hp → Prop, (∀ σ' H', N σ' H' → ∃ m', m' < m ∧ W m' σ' H') ∧ tb ⟨N, rt, nx, N⟩ σ H1 else nx σ H1) : tWhile c tb ⟨nx, rt, bk, ct⟩ σ H :=
  ⟨W, ⟨m, h0⟩, hs⟩
theorem turnW {W : Nat → L2.St → Hp → Prop} {m : Nat} (h : tb ⟨fun σ' H' => ∃ m', m' < m ∧ W m' σ' H', rt, nx, fun σ' H' => ∃ m', m' < m ∧ W m' σ' H'⟩ σ H) :
    ∃ N : L2.St → Hp → Prop, (∀ σ' H', N σ' H' → ∃ m', m' < m ∧ W m' σ' H') ∧ tb ⟨N, rt, nx, N⟩ σ H := ⟨_, fun _ _ h => h, h⟩
end
theorem But.free {a p : Addr} {o : HO} {H H' : Hp} (hn : H' p = none) (e : But a H H') (ha : H' a = some o) : H p = none := by
  cases h : H p with
  | none => rfl
  | some u =>
    by_cases hp : p = a
    · rw [hp, ha] at hn
      cases hn
    · rw [e p u hp h] at hn
      cases hn
theorem Same.free' {p : Addr} {H H' : Hp} (hn : H' p = none) (e : Same H H') : H p = none := e.free hn
theorem But.newT {a p : Addr} {H H1 : Hp} {o : HO} (hp : H1 p = none) (x : But a H H1) : But a H (L2.upd H1 p o) := But.new x hp
theorem But.transT {a : Addr} {H H1 H2 : Hp} (y : But a H1 H2) (x : But a H H1) : But a H H2 := But.trans x y
theorem Same.transT {H H1 H2 : Hp} (y : Same H1 H2) (x : Same H H1) : Same H H2 := x.trans y
theorem Same.newT' {H H1 : Hp} {p : Addr} {o : HO} (hp : H1 p = none) (x : Same H H1) : Same H (upd H1 p o) := Same.newT x hp
theorem But.transS {a : Addr} {H H1 H2 : Hp} (y : Same H1 H2) (x : But a H H1) : But a H H2 := fun b o n h => y b o (x b o n h)
theorem Same.butT {H0 H H1 : Hp} {p : Addr} (x : But p H H1) (hp : H0 p = none) (e : Same H0 H) : Same H0 H1 := Same.but e hp x
/-! ### slices, sums of lists -/
theorem six_nn {n d : Nat} {k : Int} (h : 0 ≤ k) : HT.sIx n d (some k) = min k.toNat n := by
  obtain ⟨m, rfl⟩ := Int.eq_ofNat_of_zero_le h
  exact HT.sIx_nat n d m
theorem cut_to {xs : List V} {k : Int} (h : 0 ≤ k) : cutV xs none (some k) = xs.take k.toNat := by
  unfold cutV
  rw [six_nn h, HT.sIx_none, List.drop_zero, Nat.sub_zero]
  exact List.take_eq_take_iff.mpr (by omega)
theorem cut_from {xs : List V} {k : Int} (h : 0 ≤ k) : cutV xs (some k) none = xs.drop k.toNat := by
  unfold cutV
  rw [six_nn h, HT.sIx_none, List.take_of_length_le (by rw [List.length_drop]; omega)]
  by_cases c : k.toNat ≤ xs.length
  · rw [Nat.min_eq_left c]
  · rw [Nat.min_eq_right (show xs.length ≤ k.toNat by omega), List.drop_length, List.drop_eq_nil_of_le (show xs.length ≤ k.toNat by omega)]
theorem cut_mid {xs : List V} {j k : Int} (h : 0 ≤ j) (h' : 0 ≤ k) : cutV xs (some j) (some k) = (xs.drop j.toNat).take (k.toNat - j.toNat) := by
  unfold cutV
  rw [six_nn h, six_nn h']
  by_cases c : j.toNat ≤ xs.length
  · rw [Nat.min_eq_left c]
    refine List.take_eq_take_iff.mpr ?_
    rw [List.length_drop]
    omega
  · rw [Nat.min_eq_right (show xs.length ≤ j.toNat by omega), List.drop_length, List.drop_eq_nil_of_le (show xs.length ≤ j.toNat by omega), List.take_nil, List.take_nil]
section
variable {H : Hp} {Q : VK} {K : PySem.W.Frag} {p r : Addr} {xs ys : List V} {j k : Int} {lo hi : Option Int} {σ : L2.St}
theorem i_slTo (h : SqL K H p xs) (h0 : 0 ≤ k) (q : ∀ p', H p' = none → Q (.ref p') (upd H p' (.lst (xs.take k.toNat)))) : rSlL K (.ref p) none (some k) H Q := ⟨p, xs, rfl, h, by rw [cut_to h0]; exact q⟩
theorem i_slFrom (h : SqL K H p xs) (h0 : 0 ≤ k) (q : ∀ p', H p' = none → Q (.ref p') (upd H p' (.lst (xs.drop k.toNat)))) : rSlL K (.ref p) (some k) none H Q := ⟨p, xs, rfl, h, by rw [cut_from h0]; exact q⟩
theorem i_slMid (h : SqL K H p xs) (h0 : 0 ≤ j) (h1 : 0 ≤ k) (q : ∀ p', H p' = none → Q (.ref p') (upd H p' (.lst ((xs.drop j.toNat).take (k.toNat - j.toNat))))) : rSlL K (.ref p) (some j) (some k) H Q := ⟨p, xs, rfl, h, by rw [cut_mid h0 h1]; exact q⟩
theorem i_sl {R : V → Option Int → Option Int → Hp → VK → Prop} {te : TE} {tl th : TO} (h : te σ H fun x H1 => tl σ H1 fun l H2 => th σ H2 fun u H3 => R x l u H3 Q) : tSl R te tl th σ H Q := h
theorem i_nopart {P : Option Int → Hp → Prop} (q : P none H) : tNoPart σ H P := q
theorem i_part {te : TE} {P : Option Int → Hp → Prop} (h : te σ H fun x H1 => ∃ i, x = .int i ∧ P (some i) H1) : tPart te σ H P := h
theorem i_exint {i : Int} {R : Int → Prop} (q : R i) : ∃ i', V.int i = .int i' ∧ R i' := ⟨i, rfl, q⟩
theorem i_cat (h1 : H p = some (.lst xs)) (h2 : H r = some (.lst ys)) (hz : xs.length + ys.length ≤ sizeLine) (q : ∀ p', H p' = none → Q (.ref p') (upd H p' (.lst (xs ++ ys)))) : rCat (.ref p) (.ref r) H Q := ⟨p, r, xs, ys, rfl, rfl, h1, h2, hz, q⟩
theorem i_rep (h1 : H p = some (.lst xs)) (h2 : -(2 ^ 63) ≤ k ∧ k < 2 ^ 63) (hz : xs.length * k.toNat ≤ sizeLine) (q : ∀ p', H p' = none → Q (.ref p') (upd H p' (.lst (List.replicate k.toNat xs).flatten))) : rRep (.ref p) (.int k) H Q := ⟨p, k, xs, rfl, rfl, h1, h2.1, h2.2, hz, q⟩
theorem flat1 {α : Type} {x : α} : ∀ n : Nat, (List.replicate n [x]).flatten = List.replicate n x
  | 0 => rfl
  | n + 1 => by
    rw [List.replicate_succ, List.flatten_cons, flat1 n, List.replicate_succ]
    rfl
theorem i_rep1 {x : V} (h1 : H p = some (.lst [x])) (h2 : 0 ≤ k ∧ k ≤ 1000000) (q : ∀ p', H p' = none → Q (.ref p') (upd H p' (.lst (List.replicate k.toNat x)))) : rRep (.ref p) (.int k) H Q :=
  i_rep h1 (by omega) (sz4 (by show 1 * k.toNat ≤ 1000000; omega)) (by rw [flat1]; exact q)
end
/-- an if whose two ways meet: what holds behind it -/
theorem if_join {σ : L2.St} {H : Hp} {nx bk ct : L2.St → Hp → Prop} {rt : VK} {c : TT} {t u : TS} (P : L2.St → Hp → Prop) (h : ∀ nx' : L2.St → Hp → Prop, (∀ σ' H', P σ' H' → nx' σ' H') → tIfS c t u ⟨nx', rt, bk, ct⟩ σ H)
    (cont : ∀ σ' H', P σ' H' → nx σ' H') : tIfS c t u ⟨nx, rt, bk, ct⟩ σ H := h nx cont
/-- any statement, cut behind it -/
theorem st_join {σ : L2.St} {H : Hp} {nx bk ct : L2.St → Hp → Prop} {rt : VK} {t : TS} (P : L2.St → Hp → Prop) (h : ∀ nx' : L2.St → Hp → Prop, (∀ σ' H', P σ' H' → nx' σ' H') → t ⟨nx', rt, bk, ct⟩ σ H)
    (cont : ∀ σ' H', P σ' H' → nx σ' H') : t ⟨nx, rt, bk, ct⟩ σ H := h nx cont
theorem ints_at {ms : List Int} {i : Nat} {x : V} (h : (ms.map V.int)[i]? = some x) : ∃ z, x = .int z ∧ ms[i]? = some z := by
  rw [List.getElem?_map] at h
  cases e : ms[i]? with
  | none =>
    rw [e] at h
    cases h
  | some z =>
    rw [e] at h
    exact ⟨z, (Option.some.inj h).symm, rfl⟩
/-! ### equality of data -/
theorem i_eqT2 {K : PySem.W.Frag} {H : Hp} {Q : VK} {p r : Addr} {a b c d : Int} (h1 : SqT K H p [.int a, .int b]) (h2 : SqT K H r [.int c, .int d]) (q : Q (.bl (a == c && (b == d && true))) H) : rEqD K (.ref p) (.ref r) H Q :=
  ⟨.tuple [.int a, .int b], .tuple [.int c, .int d], .tup h1 (.cons (.int a) (.cons (.int b) .nil)), .tup h2 (.cons (.int c) (.cons (.int d) .nil)), rfl, rfl, by
    have e : PyData.eqv (.tuple [.int a, .int b]) (.tuple [.int c, .int d]) = (a == c && (b == d && true)) := by simp [PyData.eqv, PyData.eqvAll]
    rw [e]
    exact q⟩
/-! ### two objects that change -/
def But2 (a c : Addr) (H H' : Hp) : Prop := ∀ b o, b ≠ a → b ≠ c → H b = some o → H' b = some o
section
variable {a c b p : Addr} {H H' H1 H2 : Hp} {o u : HO} {K : PySem.W.Frag} {xs : List V}
theorem But2.refl (a c : Addr) (H : Hp) : But2 a c H H := fun _ _ _ _ h => h
theorem But2.transT (y : But2 a c H1 H2) (x : But2 a c H H1) : But2 a c H H2 := fun b o n m h => y b o n m (x b o n m h)
theorem But2.transS (y : Same H1 H2) (x : But2 a c H H1) : But2 a c H H2 := fun b o n m h => y b o (x b o n m h)
theorem But2.transL (y : But a H1 H2) (x : But2 a c H H1) : But2 a c H H2 := fun b o n m h => y b o n (x b o n m h)
theorem But2.transR (y : But c H1 H2) (x : But2 a c H H1) : But2 a c H H2 := fun b o n m h => y b o m (x b o n m h)
theorem But2.newT (hp : H1 p = none) (x : But2 a c H H1) : But2 a c H (L2.upd H1 p o) := fun b u n m h => by
  have h1 := x b u n m h
  rw [upd_ne (ne_of_none h1 hp)]
  exact h1
theorem But2.updL (x : But2 a c H H1) : But2 a c H (L2.upd H1 a o) := fun b u n m h => by
  rw [upd_ne n]
  exact x b u n m h
theorem But2.updR (x : But2 a c H H1) : But2 a c H (L2.upd H1 c o) := fun b u n m h => by
  rw [upd_ne m]
  exact x b u n m h
theorem lk_but2 (e : But2 a c H H') (n : b ≠ a) (m : b ≠ c) (h : H b = some o) : H' b = some o := e b o n m h
theorem But2.seq (e : But2 a c H H') (n : b ≠ a) (m : b ≠ c) (h : SqL K H b xs) : SqL K H' b xs := by
  rcases h with (h | ⟨o, h⟩) | h
  · exact .inl (.inl (e _ _ n m h))
  · exact .inl (.inr ⟨o, e _ _ n m h⟩)
  · exact .inr h
theorem But2.seqT (e : But2 a c H H') (n : b ≠ a) (m : b ≠ c) (h : SqT K H b xs) : SqT K H' b xs := by
  rcases h with (h | ⟨o, h⟩) | h
  · exact .inl (.inl (e _ _ n m h))
  · exact .inl (.inr ⟨o, e _ _ n m h⟩)
  · exact .inr h
theorem But2.free (hn : H' p = none) (e : But2 a c H H') (ha : H' a = some o) (hc : H' c = some u) : H p = none := by
  cases h : H p with
  | none => rfl
  | some v =>
    by_cases hp : p = a
    · rw [hp, ha] at hn
      cases hn
    · by_cases hq : p = c
      · rw [hq, hc] at hn
        cases hn
      · rw [e p v hp hq h] at hn
        cases hn
theorem But2.mut (hp : H p = none) (x : But2 a c H H1) : But2 a c H (L2.upd H1 p o) := fun b u n m h => by
  have e : b ≠ p := ne_of_none h hp
  exact lk_upd e (x b u n m h)
theorem But2.butT (y : But p H1 H2) (hp : H p = none) (x : But2 a c H H1) : But2 a c H H2 := fun b u n m h => y b u (ne_of_none h hp) (x b u n m h)
theorem Same.but2T {H0 : Hp} (x : But2 a c H H1) (ha : H0 a = none) (hc : H0 c = none) (e : Same H0 H) : Same H0 H1 := fun b u h => x b u (ne_of_none h ha) (ne_of_none h hc) (e b u h)
end
/-! ### len, by its number -/
def LenA (K : PySem.W.Frag) (H : Hp) (p : Addr) (n : Nat) : Prop := (∃ ys, SqL K H p ys ∧ ys.length = n) ∨ ∃ ys, SqT K H p ys ∧ ys.length = n
def rLenA (K : PySem.W.Frag) : List V → Hp → VK → Prop := fun xs H Q => ∃ p n, xs = [V.ref p] ∧ LenA K H p n ∧ Q (.int n) H
theorem call_lenA {X : Cx} : CallR X (.builtin "len") (rLenA X.K) := by
  intro pins s σ H xs us Q I r h
  obtain ⟨p, n, e, hl, q⟩ := h
  refine call_len_seq pins s σ H xs us Q I r ?_
  rcases hl with ⟨ys, h1, h2⟩ | ⟨ys, h1, h2⟩
  · exact ⟨p, ys, e, .inl h1, by rw [h2]; exact q⟩
  · exact ⟨p, ys, e, .inr h1, by rw [h2]; exact q⟩
section
variable {σ : L2.St} {H : Hp} {Q : VK} {K : PySem.W.Frag} {p r : Addr} {xs ys : List V} {ms ns : List Int} {i j k : Int} {n : Nat}
theorem i_lenA (h : LenA K H p n) (q : Q (.int n) H) : rLenA K [.ref p] H Q := ⟨p, n, rfl, h, q⟩
theorem lenA_map {α : Type} {f : α → V} {zs : List α} (h : SqL K H p (zs.map f)) : LenA K H p zs.length := .inl ⟨_, h, List.length_map _⟩
theorem lenA_L (h : SqL K H p xs) : LenA K H p xs.length := .inl ⟨_, h, rfl⟩
theorem lenA_T (h : SqT K H p xs) : LenA K H p xs.length := .inr ⟨_, h, rfl⟩
theorem i_ixM (h : SqL K H p (ms.map V.int)) (h0 : 0 ≤ i) (h1 : i < ms.length) (q : ∀ z, ms[i.toNat]? = some z → Q (.int z) H) : rIxL K (.ref p) (.int i) H Q := by
  obtain ⟨v, e1, e2⟩ := at_lt (xs := ms.map V.int) h0 (by rw [List.length_map]; exact h1)
  obtain ⟨z, e, e3⟩ := ints_at e2
  subst e
  exact i_ixL h e1 (q z e3)
theorem i_ixG (h : SqL K H p xs) (h0 : 0 ≤ i) (h1 : i < xs.length) (q : ∀ v, xs[i.toNat]? = some v → Q v H) : rIxL K (.ref p) (.int i) H Q := by
  obtain ⟨v, e1, e2⟩ := at_lt h0 h1
  exact i_ixL h e1 (q v e2)
theorem i_sum (h : SqL K H p (ns.map V.int)) (q : Q (.int ns.sum) H) : rSum K [.ref p] H Q := ⟨p, ns, rfl, h, q⟩
theorem i_slToM (h : SqL K H p (ms.map V.int)) (h0 : 0 ≤ k) (q : ∀ p', H p' = none → Q (.ref p') (upd H p' (.lst ((ms.take k.toNat).map V.int)))) : rSlL K (.ref p) none (some k) H Q := i_slTo h h0 (by rw [← List.map_take]; exact q)
theorem i_slFromM (h : SqL K H p (ms.map V.int)) (h0 : 0 ≤ k) (q : ∀ p', H p' = none → Q (.ref p') (upd H p' (.lst ((ms.drop k.toNat).map V.int)))) : rSlL K (.ref p) (some k) none H Q := i_slFrom h h0 (by rw [← List.map_drop]; exact q)
theorem i_slMidM (h : SqL K H p (ms.map V.int)) (h0 : 0 ≤ j) (h1 : 0 ≤ k) (q : ∀ p', H p' = none → Q (.ref p') (upd H p' (.lst (((ms.drop j.toNat).take (k.toNat - j.toNat)).map V.int)))) : rSlL K (.ref p) (some j) (some k) H Q := i_slMid h h0 h1 (by rw [← List.map_drop, ← List.map_take]; exact q)
theorem i_catM (h1 : H p = some (.lst (ms.map V.int))) (h2 : H r = some (.lst (ns.map V.int))) (hz : ms.length + ns.length ≤ 1000000) (q : ∀ p', H p' = none → Q (.ref p') (upd H p' (.lst ((ms ++ ns).map V.int)))) : rCat (.ref p) (.ref r) H Q :=
  i_cat h1 h2 (sz4 (by rw [List.length_map, List.length_map]; exact hz)) (by rw [← List.map_append]; exact q)
theorem i_repM {x : Int} (h1 : H p = some (.lst [.int x])) (h2 : 0 ≤ k ∧ k ≤ 1000000) (q : ∀ p', H p' = none → Q (.ref p') (upd H p' (.lst ((List.replicate k.toNat x).map V.int)))) : rRep (.ref p) (.int k) H Q :=
  i_rep1 h1 h2 (by rw [← List.map_replicate]; exact q)
theorem eqvAll_ints : ∀ ms ns : List Int, PyData.eqvAll (ms.map PyData.int) (ns.map PyData.int) = decide (ms = ns)
  | [], [] => by simp [PyData.eqvAll]
  | [], _ :: _ => by simp [PyData.eqvAll]
  | _ :: _, [] => by simp [PyData.eqvAll]
  | m :: ms, n :: ns => by
    rw [List.map_cons, List.map_cons, PyData.eqvAll, eqvAll_ints ms ns, PyData.eqv]
    by_cases h : m = n
    · subst h
      simp
    · simp [h]
theorem canLay_ints : ∀ ms : List Int, PyData.canLayAll0 (ms.map PyData.int) = true
  | [] => by simp [PyData.canLayAll0]
  | m :: ms => by
    rw [List.map_cons, PyData.canLayAll0, canLay_ints ms]
    simp [PyData.canLay0]
theorem depth_ints : ∀ ms : List Int, PyData.depthAll (ms.map PyData.int) ≤ 1
  | [] => by simp [PyData.depthAll]
  | m :: ms => by
    have := depth_ints ms
    rw [List.map_cons, PyData.depthAll]
    simp [PyData.depth]
    omega
theorem dp_ints : ∀ ms : List Int, DpAll K H (ms.map V.int) (ms.map PyData.int)
  | [] => .nil
  | m :: ms => .cons (.int m) (dp_ints ms)
theorem shaped_ints (ms : List Int) : SeqAt.shaped (.list (ms.map PyData.int)) = true := by
  unfold SeqAt.shaped
  have h1 := canLay_ints ms
  have h2 := depth_ints ms
  simp [PyData.canLay0, PyData.depth, h1]
  omega
theorem i_eqLI (h1 : SqL K H p (ms.map V.int)) (h2 : SqL K H r (ns.map V.int)) (q : Q (.bl (decide (ms = ns))) H) : rEqD K (.ref p) (.ref r) H Q :=
  ⟨_, _, .lst h1 (dp_ints ms), .lst h2 (dp_ints ns), shaped_ints ms, shaped_ints ns, by rw [PyData.eqv, eqvAll_ints]; exact q⟩
theorem i_neLI (h1 : SqL K H p (ms.map V.int)) (h2 : SqL K H r (ns.map V.int)) (q : Q (.bl (!decide (ms = ns))) H) : rNeD K (.ref p) (.ref r) H Q :=
  ⟨_, _, .lst h1 (dp_ints ms), .lst h2 (dp_ints ns), shaped_ints ms, shaped_ints ns, by rw [PyData.eqv, eqvAll_ints]; exact q⟩
theorem i_eqL0 (h1 : SqL K H p (ms.map V.int)) (h2 : SqL K H r []) (q : Q (.bl (decide (ms = []))) H) : rEqD K (.ref p) (.ref r) H Q := i_eqLI (ns := []) h1 h2 q
theorem i_eq00 (h1 : SqL K H p []) (h2 : SqL K H r []) (q : Q (.bl true) H) : rEqD K (.ref p) (.ref r) H Q := i_eqLI (ms := []) (ns := []) h1 h2 (by simpa using q)
theorem i_isn {P : Prop} (q : P) : V.non = V.non ∧ P := ⟨rfl, q⟩
theorem i_tru {P : Prop} (q : P) : True ∧ P := ⟨trivial, q⟩
theorem i_glst {m : Nat} {t : TGs} {Z : L2.St → Hp → Prop} (h : SqL K H p xs) (e : xs.length = m) (q : t xs σ H Z) : gLst K m t (.ref p) σ H Z := ⟨p, xs, rfl, h, e, q⟩
end
/-! ### comprehensions -/
section
variable {σ : L2.St} {H H1 : Hp} {Q : VK} {K : PySem.W.Frag} {D a : Addr} {wi : TI} {g : TG} {tt : TT} {te : TE} {vs : List Nat} {lo : Int} {n : Nat} {xs : List V} {Qd : Hp → Prop}
theorem i_lc (h : wi σ H fun J H1 => ∀ D, H1 D = none → ∃ W : Nat → Nat → Hp → Prop, (∃ m, W 0 m (upd H1 D (.lst []))) ∧ ∀ i m H, W i m H →
  (J.stop i H ∧ Q (.ref D) H) ∨ (J.go i H ∧ ∃ Nx : Hp → Prop, (∀ H', Nx H' → ∃ m', m' < m ∧ W (i + 1) m' H') ∧ ∀ x H', J.yld i H x H' → g x (wipe σ vs) H' fun σ2 H2 => wipe σ2 vs = wipe σ vs ∧ tt σ2 H2 fun b H3 =>
    if b = true then te σ2 H3 fun y H4 => ∃ acc, H4 D = some (.lst acc) ∧ acc.length < sizeLine ∧ Nx (upd H4 D (.lst (acc ++ [y]))) else Nx H3)) : tLc wi g tt te vs σ H Q := h
/-- the turn of a comprehension: what its target, test and element come to; Z is wanted of a kept element, Y where the test says no -/
def LcTurn (g : TG) (tt : TT) (te : TE) (vs : List Nat) (σ : L2.St) (x : V) (H : Hp) (Z : VK) (Y : Hp → Prop) : Prop :=
  g x (wipe σ vs) H fun σ2 H2 => wipe σ2 vs = wipe σ vs ∧ tt σ2 H2 fun b H3 => if b = true then te σ2 H3 Z else Y H3
/-- over a range; P: what holds behind i turns of the list made so far -/
theorem lcR (P : Nat → List V → Hp → Prop) (nD : H1 D = none) (h0 : P 0 [] (upd H1 D (.lst [])))
    (hs : ∀ i acc H (Z : VK) (Y : Hp → Prop), i < n → P i acc H → H D = some (.lst acc) → (∀ y H4, H4 D = some (.lst acc) → acc.length < sizeLine → P (i + 1) (acc ++ [y]) (upd H4 D (.lst (acc ++ [y]))) → Z y H4) →
      (∀ H4, H4 D = some (.lst acc) → P (i + 1) acc H4 → Y H4) → LcTurn g tt te vs σ (.int (lo + i)) H Z Y) (hd : ∀ acc H, P n acc H → H D = some (.lst acc) → Qd H) :
    ∃ W : Nat → Nat → Hp → Prop, (∃ m, W 0 m (upd H1 D (.lst []))) ∧ ∀ i m H, W i m H →
      ((Itr lo n).stop i H ∧ Qd H) ∨ ((Itr lo n).go i H ∧ ∃ Nx : Hp → Prop, (∀ H', Nx H' → ∃ m', m' < m ∧ W (i + 1) m' H') ∧ ∀ x H', (Itr lo n).yld i H x H' → g x (wipe σ vs) H' fun σ2 H2 => wipe σ2 vs = wipe σ vs ∧ tt σ2 H2 fun b H3 =>
        if b = true then te σ2 H3 fun y H4 => ∃ acc, H4 D = some (.lst acc) ∧ acc.length < sizeLine ∧ Nx (upd H4 D (.lst (acc ++ [y]))) else Nx H3) := by
  refine lc_range (fun i H => ∃ acc, P i acc H ∧ H D = some (.lst acc)) ⟨[], h0, upd_same⟩ (fun i H hi hp => ?_) (fun H hp => ?_)
  · obtain ⟨acc, hp, ha⟩ := hp
    exact hs i acc H _ _ hi hp ha (fun y H4 h1 h2 h3 => ⟨acc, h1, h2, _, h3, upd_same⟩) fun H4 h1 h2 => ⟨acc, h2, h1⟩
  · obtain ⟨acc, hp, ha⟩ := hp
    exact hd acc H hp ha
theorem lcL (P : Nat → List V → Hp → Prop) (nD : H1 D = none) (h0 : P 0 [] (upd H1 D (.lst []))) (hl : ∀ i acc H, i ≤ xs.length → P i acc H → H D = some (.lst acc) → SqL K H a xs)
    (hs : ∀ i x acc H (Z : VK) (Y : Hp → Prop), xs[i]? = some x → P i acc H → H D = some (.lst acc) → (∀ y H4, H4 D = some (.lst acc) → acc.length < sizeLine → P (i + 1) (acc ++ [y]) (upd H4 D (.lst (acc ++ [y]))) → Z y H4) →
      (∀ H4, H4 D = some (.lst acc) → P (i + 1) acc H4 → Y H4) → LcTurn g tt te vs σ x H Z Y) (hd : ∀ acc H, P xs.length acc H → H D = some (.lst acc) → Qd H) :
    ∃ W : Nat → Nat → Hp → Prop, (∃ m, W 0 m (upd H1 D (.lst []))) ∧ ∀ i m H, W i m H →
      ((Itl K a).stop i H ∧ Qd H) ∨ ((Itl K a).go i H ∧ ∃ Nx : Hp → Prop, (∀ H', Nx H' → ∃ m', m' < m ∧ W (i + 1) m' H') ∧ ∀ x H', (Itl K a).yld i H x H' → g x (wipe σ vs) H' fun σ2 H2 => wipe σ2 vs = wipe σ vs ∧ tt σ2 H2 fun b H3 =>
        if b = true then te σ2 H3 fun y H4 => ∃ acc, H4 D = some (.lst acc) ∧ acc.length < sizeLine ∧ Nx (upd H4 D (.lst (acc ++ [y]))) else Nx H3) := by
  refine lc_list (xs := xs) (fun i H => ∃ acc, P i acc H ∧ H D = some (.lst acc)) ⟨[], h0, upd_same⟩ (fun i H hi hp => ?_) (fun i x H hi hp => ?_) (fun H hp => ?_)
  · obtain ⟨acc, hp, ha⟩ := hp
    exact hl i acc H hi hp ha
  · obtain ⟨acc, hp, ha⟩ := hp
    exact hs i x acc H _ _ hi hp ha (fun y H4 h1 h2 h3 => ⟨acc, h1, h2, _, h3, upd_same⟩) fun H4 h1 h2 => ⟨acc, h2, h1⟩
  · obtain ⟨acc, hp, ha⟩ := hp
    exact hd acc H hp ha
/-- whole numbers, one for each turn -/
theorem lcR_int (f : Nat → Int) (nD : H1 D = none) (hn : n ≤ 1000000)
    (hs : ∀ i H (Z : VK) (Y : Hp → Prop), i < n → Same H1 H → (∀ H4, Same H H4 → Z (.int (f i)) H4) → LcTurn g tt te vs σ (.int (lo + i)) H Z Y)
    (hd : ∀ H, Same H1 H → H D = some (.lst (((List.range n).map f).map V.int)) → Qd H) :
    ∃ W : Nat → Nat → Hp → Prop, (∃ m, W 0 m (upd H1 D (.lst []))) ∧ ∀ i m H, W i m H →
      ((Itr lo n).stop i H ∧ Qd H) ∨ ((Itr lo n).go i H ∧ ∃ Nx : Hp → Prop, (∀ H', Nx H' → ∃ m', m' < m ∧ W (i + 1) m' H') ∧ ∀ x H', (Itr lo n).yld i H x H' → g x (wipe σ vs) H' fun σ2 H2 => wipe σ2 vs = wipe σ vs ∧ tt σ2 H2 fun b H3 =>
        if b = true then te σ2 H3 fun y H4 => ∃ acc, H4 D = some (.lst acc) ∧ acc.length < sizeLine ∧ Nx (upd H4 D (.lst (acc ++ [y]))) else Nx H3) := by
  refine lcR (fun i acc H => i ≤ n ∧ acc = ((List.range i).map f).map V.int ∧ Same H1 H) nD ⟨Nat.zero_le _, rfl, Same.new nD⟩ ?_ ?_
  · rintro i acc H Z Y hi ⟨_, rfl, hsame⟩ ha hz _
    refine hs i H Z Y hi hsame fun H4 h4 => hz _ H4 (h4 _ _ ha) (sz4' (by simp; omega)) ⟨hi, ?_, Same.mut (hsame.trans h4) nD⟩
    rw [List.range_succ, List.map_append, List.map_append]
    rfl
  · rintro acc H ⟨_, rfl, hsame⟩ ha
    exact hd H hsame ha
theorem lcL_int (f : Nat → Int) (nD : H1 D = none) (hn : xs.length ≤ 1000000) (hx : SqL K H1 a xs)
    (hs : ∀ i x H (Z : VK) (Y : Hp → Prop), xs[i]? = some x → Same H1 H → (∀ H4, Same H H4 → Z (.int (f i)) H4) → LcTurn g tt te vs σ x H Z Y)
    (hd : ∀ H, Same H1 H → H D = some (.lst (((List.range xs.length).map f).map V.int)) → Qd H) :
    ∃ W : Nat → Nat → Hp → Prop, (∃ m, W 0 m (upd H1 D (.lst []))) ∧ ∀ i m H, W i m H →
      ((Itl K a).stop i H ∧ Qd H) ∨ ((Itl K a).go i H ∧ ∃ Nx : Hp → Prop, (∀ H', Nx H' → ∃ m', m' < m ∧ W (i + 1) m' H') ∧ ∀ x H', (Itl K a).yld i H x H' → g x (wipe σ vs) H' fun σ2 H2 => wipe σ2 vs = wipe σ vs ∧ tt σ2 H2 fun b H3 =>
        if b = true then te σ2 H3 fun y H4 => ∃ acc, H4 D = some (.lst acc) ∧ acc.length < sizeLine ∧ Nx (upd H4 D (.lst (acc ++ [y]))) else Nx H3) := by
  refine lcL (xs := xs) (fun i acc H => i ≤ xs.length ∧ acc = ((List.range i).map f).map V.int ∧ Same H1 H) nD ⟨Nat.zero_le _, rfl, Same.new nD⟩ (fun i acc H _ hp _ => hp.2.2.seq hx) ?_ ?_
  · rintro i x acc H Z Y hi ⟨_, rfl, hsame⟩ ha hz _
    have hi' : i < xs.length := (List.getElem?_eq_some_iff.mp hi).1
    refine hs i x H Z Y hi hsame fun H4 h4 => hz _ H4 (h4 _ _ ha) (sz4' (by simp; omega)) ⟨hi', ?_, Same.mut (hsame.trans h4) nD⟩
    rw [List.range_succ, List.map_append, List.map_append]
    rfl
  · rintro acc H ⟨_, rfl, hsame⟩ ha
    exact hd H hsame ha
/-- over a range, kept where b says so -/
theorem lcR_fil (b : Nat → Bool) (f : Nat → Int) (nD : H1 D = none) (hn : n ≤ 1000000)
    (hs : ∀ i H (Z : VK) (Y : Hp → Prop), i < n → Same H1 H → (b i = true → ∀ H4, Same H H4 → Z (.int (f i)) H4) → (b i = false → ∀ H4, Same H H4 → Y H4) → LcTurn g tt te vs σ (.int (lo + i)) H Z Y)
    (hd : ∀ H, Same H1 H → H D = some (.lst ((((List.range n).filter b).map f).map V.int)) → Qd H) :
    ∃ W : Nat → Nat → Hp → Prop, (∃ m, W 0 m (upd H1 D (.lst []))) ∧ ∀ i m H, W i m H →
      ((Itr lo n).stop i H ∧ Qd H) ∨ ((Itr lo n).go i H ∧ ∃ Nx : Hp → Prop, (∀ H', Nx H' → ∃ m', m' < m ∧ W (i + 1) m' H') ∧ ∀ x H', (Itr lo n).yld i H x H' → g x (wipe σ vs) H' fun σ2 H2 => wipe σ2 vs = wipe σ vs ∧ tt σ2 H2 fun b H3 =>
        if b = true then te σ2 H3 fun y H4 => ∃ acc, H4 D = some (.lst acc) ∧ acc.length < sizeLine ∧ Nx (upd H4 D (.lst (acc ++ [y]))) else Nx H3) := by
  refine lcR (fun i acc H => i ≤ n ∧ acc = (((List.range i).filter b).map f).map V.int ∧ Same H1 H) nD ⟨Nat.zero_le _, rfl, Same.new nD⟩ ?_ ?_
  · rintro i acc H Z Y hi ⟨_, rfl, hsame⟩ ha hz hy
    refine hs i H Z Y hi hsame (fun hb H4 h4 => hz _ H4 (h4 _ _ ha) (sz4' ?_) ⟨hi, ?_, Same.mut (hsame.trans h4) nD⟩) (fun hb H4 h4 => hy H4 (h4 _ _ ha) ⟨hi, ?_, hsame.trans h4⟩)
    · have := List.length_filter_le b (List.range i)
      rw [List.length_range] at this
      simp only [List.length_map]
      omega
    · rw [List.range_succ, List.filter_append, List.map_append, List.map_append, List.filter_cons, if_pos hb]
      rfl
    · rw [List.range_succ, List.filter_append, List.map_append, List.map_append, List.filter_cons, if_neg (by rw [hb]; exact Bool.false_ne_true)]
      simp
  · rintro acc H ⟨_, rfl, hsame⟩ ha
    exact hd H hsame ha
/-- over a list, nothing kept -/
theorem lcL_nil (nD : H1 D = none) (hx : SqL K H1 a xs)
    (hs : ∀ (i : Nat) (x : V) H (Z : VK) (Y : Hp → Prop), xs[i]? = some x → Same H1 H → (∀ H4, Same H H4 → Y H4) → LcTurn g tt te vs σ x H Z Y)
    (hd : ∀ H, Same H1 H → H D = some (.lst []) → Qd H) :
    ∃ W : Nat → Nat → Hp → Prop, (∃ m, W 0 m (upd H1 D (.lst []))) ∧ ∀ i m H, W i m H →
      ((Itl K a).stop i H ∧ Qd H) ∨ ((Itl K a).go i H ∧ ∃ Nx : Hp → Prop, (∀ H', Nx H' → ∃ m', m' < m ∧ W (i + 1) m' H') ∧ ∀ x H', (Itl K a).yld i H x H' → g x (wipe σ vs) H' fun σ2 H2 => wipe σ2 vs = wipe σ vs ∧ tt σ2 H2 fun b H3 =>
        if b = true then te σ2 H3 fun y H4 => ∃ acc, H4 D = some (.lst acc) ∧ acc.length < sizeLine ∧ Nx (upd H4 D (.lst (acc ++ [y]))) else Nx H3) := by
  refine lcL (xs := xs) (fun i acc H => acc = [] ∧ Same H1 H) nD ⟨rfl, Same.new nD⟩ (fun i acc H _ hp _ => hp.2.seq hx) ?_ ?_
  · rintro i x acc H Z Y hi ⟨rfl, hsame⟩ ha _ hy
    exact hs i x H Z Y hi hsame fun H4 h4 => hy H4 (h4 _ _ ha) ⟨rfl, hsame.trans h4⟩
  · rintro acc H ⟨rfl, hsame⟩ ha
    exact hd H hsame ha
/-- over a list, a value for each, from the turn's number -/
theorem lcL_v (f : Nat → V) (nD : H1 D = none) (hn : xs.length ≤ 1000000) (hx : SqL K H1 a xs)
    (hs : ∀ (i : Nat) (x : V) H (Z : VK) (Y : Hp → Prop), xs[i]? = some x → Same H1 H → (∀ H4, Same H H4 → Z (f i) H4) → LcTurn g tt te vs σ x H Z Y)
    (hd : ∀ H, Same H1 H → H D = some (.lst ((List.range xs.length).map f)) → Qd H) :
    ∃ W : Nat → Nat → Hp → Prop, (∃ m, W 0 m (upd H1 D (.lst []))) ∧ ∀ i m H, W i m H →
      ((Itl K a).stop i H ∧ Qd H) ∨ ((Itl K a).go i H ∧ ∃ Nx : Hp → Prop, (∀ H', Nx H' → ∃ m', m' < m ∧ W (i + 1) m' H') ∧ ∀ x H', (Itl K a).yld i H x H' → g x (wipe σ vs) H' fun σ2 H2 => wipe σ2 vs = wipe σ vs ∧ tt σ2 H2 fun b H3 =>
        if b = true then te σ2 H3 fun y H4 => ∃ acc, H4 D = some (.lst acc) ∧ acc.length < sizeLine ∧ Nx (upd H4 D (.lst (acc ++ [y]))) else Nx H3) := by
  refine lcL (xs := xs) (fun i acc H => i ≤ xs.length ∧ acc = (List.range i).map f ∧ Same H1 H) nD ⟨Nat.zero_le _, rfl, Same.new nD⟩ (fun i acc H _ hp _ => hp.2.2.seq hx) ?_ ?_
  · rintro i x acc H Z Y hi ⟨_, rfl, hsame⟩ ha hz _
    have hi' : i < xs.length := (List.getElem?_eq_some_iff.mp hi).1
    refine hs i x H Z Y hi hsame fun H4 h4 => hz _ H4 (h4 _ _ ha) (sz4' (by simp; omega)) ⟨hi', ?_, Same.mut (hsame.trans h4) nD⟩
    rw [List.range_succ, List.map_append]
    rfl
  · rintro acc H ⟨_, rfl, hsame⟩ ha
    exact hd H hsame ha
/-- over a list, truths all true -/
theorem lcL_all (nD : H1 D = none) (hn : xs.length ≤ 1000000) (hx : SqL K H1 a xs)
    (hs : ∀ (i : Nat) (x : V) H (Z : VK) (Y : Hp → Prop), xs[i]? = some x → Same H1 H → (∀ H4, Same H H4 → Z (.bl true) H4) → LcTurn g tt te vs σ x H Z Y)
    (hd : ∀ H, Same H1 H → SqL K H D ((List.replicate xs.length true).map V.bl) → Qd H) :
    ∃ W : Nat → Nat → Hp → Prop, (∃ m, W 0 m (upd H1 D (.lst []))) ∧ ∀ i m H, W i m H →
      ((Itl K a).stop i H ∧ Qd H) ∨ ((Itl K a).go i H ∧ ∃ Nx : Hp → Prop, (∀ H', Nx H' → ∃ m', m' < m ∧ W (i + 1) m' H') ∧ ∀ x H', (Itl K a).yld i H x H' → g x (wipe σ vs) H' fun σ2 H2 => wipe σ2 vs = wipe σ vs ∧ tt σ2 H2 fun b H3 =>
        if b = true then te σ2 H3 fun y H4 => ∃ acc, H4 D = some (.lst acc) ∧ acc.length < sizeLine ∧ Nx (upd H4 D (.lst (acc ++ [y]))) else Nx H3) := by
  refine lcL_v (fun _ => .bl true) nD hn hx hs fun H hs' h => hd H hs' (.of ?_)
  rw [h, List.map_const', List.length_range, List.map_replicate]
theorem i_all {H : Hp} {Q : VK} {p : Addr} {m : Nat} (h : SqL K H p ((List.replicate m true).map V.bl)) (q : Q (.bl true) H) : rAll K [.ref p] H Q := by
  refine ⟨p, _, rfl, h, ?_⟩
  have e : (List.replicate m true).all id = true := by
    rw [List.all_eq_true]
    intro x hx
    rw [(List.mem_replicate.mp hx).2]
    rfl
  rw [e]
  exact q
theorem i_min {H : Hp} {Q : VK} {p : Addr} {ns : List Int} (h : SqL K H p (ns.map V.int)) (h0 : 0 < ns.length) (q : ∀ m, m ∈ ns → (∀ y, y ∈ ns → m ≤ y) → Q (.int m) H) : rMin K [.ref p] H Q := ⟨p, ns, rfl, h, h0, q⟩
theorem i_max {H : Hp} {Q : VK} {p : Addr} {ns : List Int} (h : SqL K H p (ns.map V.int)) (h0 : 0 < ns.length) (q : ∀ m, m ∈ ns → (∀ y, y ∈ ns → y ≤ m) → Q (.int m) H) : rMax K [.ref p] H Q := ⟨p, ns, rfl, h, h0, q⟩
theorem i_yes {P : Bool → Hp → Prop} (q : P true H) : tYes σ H P := q
theorem i_wipe {A : Prop} {σ2 : L2.St} (e : wipe σ2 vs = wipe σ vs) (q : A) : wipe σ2 vs = wipe σ vs ∧ A := ⟨e, q⟩
theorem i_turn {x : V} {Z : VK} {Y : Hp → Prop} {σ1 : L2.St} (e : wipe σ vs = σ1) (h : g x σ1 H fun σ2 H2 => wipe σ2 vs = σ1 ∧ tt σ2 H2 fun b H3 => if b = true then te σ2 H3 Z else Y H3) : LcTurn g tt te vs σ x H Z Y := by
  subst e
  exact h
theorem i_wiped {A : Prop} {σ1 σ2 : L2.St} (e : wipe σ2 vs = σ1) (q : A) : wipe σ2 vs = σ1 ∧ A := ⟨e, q⟩
end
theorem ixN_nn {n : Nat} {i : Int} (h0 : 0 ≤ i) (h1 : i < n) : ixN n i = some i.toNat := by
  unfold ixN
  rw [if_pos h0, if_pos h1]
theorem ixN_last {n : Nat} (h : 0 < n) : ixN n (-1) = some (n - 1) := by
  unfold ixN
  rw [if_neg (by decide), if_pos (by omega)]
  congr 1
  omega
theorem i_ixLast {K : PySem.W.Frag} {H : Hp} {p : Addr} {ms : List Int} {Q : VK} (h : SqL K H p (ms.map V.int)) (h1 : 0 < ms.length) (q : ∀ z, ms[ms.length - 1]? = some z → Q (.int z) H) : rIxL K (.ref p) (.int (-1)) H Q := by
  have e : ms[ms.length - 1]? = some ms[ms.length - 1] := List.getElem?_eq_getElem (by omega)
  refine ⟨p, _, -1, .int ms[ms.length - 1], rfl, rfl, h, ?_, q _ e⟩
  unfold atI
  rw [List.length_map, ixN_last h1, Option.bind_some, List.getElem?_map, e]
  rfl
theorem cut_init {xs : List V} : cutV xs none (some (-1)) = xs.dropLast := by
  unfold cutV
  rw [HT.sIx_none, List.drop_zero, Nat.sub_zero]
  have e : HT.sIx xs.length xs.length (some (-1)) = xs.length - 1 := by
    unfold HT.sIx
    simp
    omega
  rw [e, List.dropLast_eq_take]
theorem i_slInitM {K : PySem.W.Frag} {H : Hp} {p : Addr} {ms : List Int} {Q : VK} (h : SqL K H p (ms.map V.int)) (q : ∀ p', H p' = none → Q (.ref p') (upd H p' (.lst (ms.dropLast.map V.int)))) : rSlL K (.ref p) none (some (-1)) H Q := ⟨p, _, rfl, h, by rw [cut_init, ← List.map_dropLast]; exact q⟩
theorem i_setLast {H : Hp} {p : Addr} {ms : List Int} {z : Int} {Z : Hp → Prop} (h : H p = some (.lst (ms.map V.int))) (h1 : 0 < ms.length) (q : Z (upd H p (.lst ((ms.set (ms.length - 1) z).map V.int)))) : rSetL (.ref p) (.int (-1)) (.int z) H Z :=
  ⟨p, _, -1, ms.length - 1, rfl, rfl, h, by rw [List.length_map]; exact ixN_last h1, by rw [← List.map_set]; exact q⟩
theorem i_catM1 {H : Hp} {p r : Addr} {ms : List Int} {y : Int} {Q : VK} (h1 : H p = some (.lst (ms.map V.int))) (h2 : H r = some (.lst [.int y])) (hz : ms.length + 1 ≤ 1000000) (q : ∀ p', H p' = none → Q (.ref p') (upd H p' (.lst ((ms ++ [y]).map V.int)))) : rCat (.ref p) (.ref r) H Q := i_catM (ns := [y]) h1 h2 hz q
theorem fil_last (b : Nat → Bool) : ∀ n, (List.range n).filter b = [] ∨ ∃ k, k < n ∧ b k = true ∧ (∀ j, k < j → j < n → b j = false) ∧ ((List.range n).filter b)[((List.range n).filter b).length - 1]? = some k
  | 0 => .inl rfl
  | n + 1 => by
    rw [List.range_succ, List.filter_append]
    cases e : b n with
    | true =>
      refine .inr ⟨n, by omega, e, fun j h1 h2 => by omega, ?_⟩
      have : List.filter b [n] = [n] := by simp [e]
      rw [this, List.length_append]
      simp
    | false =>
      have : List.filter b [n] = [] := by simp [e]
      rw [this, List.append_nil]
      rcases fil_last b n with h | ⟨k, h1, h2, h3, h4⟩
      · exact .inl h
      · refine .inr ⟨k, by omega, h2, fun j g1 g2 => ?_, h4⟩
        by_cases c : j = n
        · subst c; exact e
        · exact h3 j g1 (by omega)
theorem fil_none {b : Nat → Bool} {n : Nat} (h : (List.range n).filter b = []) {j : Nat} (hj : j < n) : b j = false := by
  have := List.filter_eq_nil_iff.mp h j (List.mem_range.mpr hj)
  simpa using this
theorem i_reverse {H : Hp} {p : Addr} {ms : List Int} {Q : VK} (h : H p = some (.lst (ms.map V.int))) (q : Q .non (upd H p (.lst (ms.reverse.map V.int)))) : rReverse (.ref p) [] H Q := ⟨p, _, rfl, rfl, h, by rw [← List.map_reverse]; exact q⟩
theorem i_ne00 {K : PySem.W.Frag} {H : Hp} {Q : VK} {p r : Addr} (h1 : SqL K H p []) (h2 : SqL K H r []) (q : Q (.bl false) H) : rNeD K (.ref p) (.ref r) H Q := i_neLI (ms := []) (ns := []) h1 h2 (by simpa using q)
theorem i_min2 {K : Prop} {R : Int → Int → Prop} {i j : Int} (q : R i j) : ∃ i' j', [V.int i, V.int j] = [.int i', .int j'] ∧ R i' j' := ⟨i, j, rfl, q⟩
theorem i_setM {H : Hp} {p : Addr} {ms : List Int} {i z : Int} {Z : Hp → Prop} (h : H p = some (.lst (ms.map V.int))) (h0 : 0 ≤ i) (h1 : i < ms.length) (q : Z (upd H p (.lst ((ms.set i.toNat z).map V.int)))) : rSetL (.ref p) (.int i) (.int z) H Z :=
  ⟨p, _, i, i.toNat, rfl, rfl, h, ixN_nn h0 (by rw [List.length_map]; exact h1), by rw [← List.map_set]; exact q⟩
/-! ### the rules that name the written part, K told -/
def rListOf (K : PySem.W.Frag) : List V → Hp → VK → Prop := fun xs H Q => ∃ p ys, xs = [V.ref p] ∧ (SqL K H p ys ∨ SqT K H p ys) ∧ ∀ l, H l = none → Q (.ref l) (upd H l (.lst ys))
def rTupleOf (K : PySem.W.Frag) : List V → Hp → VK → Prop := fun xs H Q => ∃ p ys, xs = [V.ref p] ∧ ((SqL K H p ys ∧ ∀ l, H l = none → Q (.ref l) (upd H l (.tup ys))) ∨ (SqT K H p ys ∧ Q (.ref p) H))
section
variable {X : Cx} (K : PySem.W.Frag) (e : X.K = K)
include e
theorem sl_listK : SlR X (rSlL K) := by subst e; exact sl_list
theorem sl_tupK : SlR X (rSlA K) := by subst e; exact sl_tupA
theorem ix_listK : IxR X (rIxL K) := by subst e; exact ix_list
theorem ix_tupK : IxR X (rIxT K) := by subst e; exact ix_tup
theorem ix_seqK : IxR X (rIx K) := by subst e; exact ix_seq
theorem call_lenK : CallR X (.builtin "len") (rLenA K) := by subst e; exact call_lenA
theorem cr_sumK (hc : X.calm = true) : CallR X (.builtin "sum") (rSum K) := by subst e; exact cr_sum hc
theorem cr_minK (hc : X.calm = true) : CallR X (.builtin "min") (rMin K) := by subst e; exact cr_min hc
theorem cr_maxK (hc : X.calm = true) : CallR X (.builtin "max") (rMax K) := by subst e; exact cr_max hc
theorem cr_anyK (hc : X.calm = true) : CallR X (.builtin "any") (rAny K) := by subst e; exact cr_any hc
theorem cr_allK (hc : X.calm = true) : CallR X (.builtin "all") (rAll K) := by subst e; exact cr_all hc
theorem call_isiK' : CallR X (.builtin "isinstance") (rIsi K) := by subst e; exact call_isi
theorem call_listK : CallR X (.type "list") (rListOf K) := by subst e; exact call_list_of
theorem call_tupleK : CallR X (.type "tuple") (rTupleOf K) := by subst e; exact call_tuple_of
theorem op_eqDK (hu : X.A.units + 64 < cLine) : OpR X (compareOp .Eq) (rEqD K) := by subst e; exact op_eqD hu
theorem op_neDK (hu : X.A.units + 64 < cLine) : OpR X (compareOp .NotEq) (rNeD K) := by subst e; exact op_neD hu
theorem op_ltTK (hu : X.A.units < cLine) : OpR X (compareOp .Lt) (rLtT K) := by subst e; exact op_ltT hu
theorem op_catTK : OpR X (binaryOp .Add) (rCatT K) := by subst e; exact op_catT
theorem op_inK : OpR X (compareOp .In) (rIn K false) := by subst e; exact op_in_seq
theorem op_notInK : OpR X (compareOp .NotIn) (rIn K true) := by subst e; exact op_notIn_seq
theorem pi_listK {tg l : Expr} {tl : TE} (hl : PE X l tl) : PI X tg l (iList K tl) := by subst e; exact pi_list hl
theorem pi_tupK {tg l : Expr} {tl : TE} (hl : PE X l tl) : PI X tg l (iTup K tl) := by subst e; exact pi_tup hl
theorem pg_tupK {es : List Expr} {k : Nat} {t : TGs} {pos : Pos} (n : Nat) (hc : X.calm = true) (h : PGs X es t) (hn : (assignEach es X.env).length = n := by rfl) (hst : (assignEach es X.env).findIdx? (·.1) = none := by rfl) : PG X (.Tuple es k pos) (gTup K n t) := by subst e; exact pg_tup hc h hn hst
theorem pg_lstK {es : List Expr} {k : Nat} {t : TGs} {pos : Pos} (n : Nat) (hc : X.calm = true) (h : PGs X es t) (hn : (assignEach es X.env).length = n := by rfl) (hst : (assignEach es X.env).findIdx? (·.1) = none := by rfl) : PG X (.Tuple es k pos) (gLst K n t) := by subst e; exact pg_lst hc h hn hst
end
section
variable {H : Hp} {Q : VK} {K : PySem.W.Frag} {p : Addr} {xs : List V}
theorem i_listOf (h : SqL K H p xs) (q : ∀ l, H l = none → Q (.ref l) (upd H l (.lst xs))) : rListOf K [.ref p] H Q := ⟨p, xs, rfl, .inl h, q⟩
theorem i_listOfT (h : SqT K H p xs) (q : ∀ l, H l = none → Q (.ref l) (upd H l (.lst xs))) : rListOf K [.ref p] H Q := ⟨p, xs, rfl, .inr h, q⟩
end
theorem wipe_one {σ σ1 : L2.St} {k : Nat} (e : List.set σ k none = σ1) : wipe σ [k] = σ1 := e
theorem wipe_two {σ σ1 σ2 : L2.St} {j k : Nat} (e : List.set σ k none = σ1) (e2 : List.set σ1 j none = σ2) : wipe σ [j, k] = σ2 := by
  show List.set (List.set σ k none) j none = σ2
  rw [e, e2]
theorem wipe_three {σ σ1 σ2 σ3 : L2.St} {i j k : Nat} (e : List.set σ k none = σ1) (e2 : List.set σ1 j none = σ2) (e3 : List.set σ2 i none = σ3) : wipe σ [i, j, k] = σ3 := by
  show List.set (List.set (List.set σ k none) j none) i none = σ3
  rw [e, e2, e3]
/-- the heap is let go of but for what stood at first -/
theorem forget {P : Hp → Prop} {H H1 : Hp} (s : Same H H1) (h : ∀ H', Same H H' → P H') : P H1 := h H1 s
/-- the scope of a comprehension in a comprehension -/
def relS (scope sc : Scope) : Scope := { scope with names := scope.names.map fun (n, k) => if (k == .free && sc.kind == .function && sc.names.lookup n == some .cell) then (n, .cell) else (n, k) }
/-! ### a slot set, by its number -/
theorem set_n0 {α : Type} {y x0 : α} {r : List α} : List.set (x0 :: r) 0 y = y :: r := rfl
theorem set_n1 {α : Type} {y x0 x1 : α} {r : List α} : List.set (x0 :: x1 :: r) 1 y = x0 :: y :: r := rfl
theorem set_n2 {α : Type} {y x0 x1 x2 : α} {r : List α} : List.set (x0 :: x1 :: x2 :: r) 2 y = x0 :: x1 :: y :: r := rfl
theorem set_n3 {α : Type} {y x0 x1 x2 x3 : α} {r : List α} : List.set (x0 :: x1 :: x2 :: x3 :: r) 3 y = x0 :: x1 :: x2 :: y :: r := rfl
theorem set_n4 {α : Type} {y x0 x1 x2 x3 x4 : α} {r : List α} : List.set (x0 :: x1 :: x2 :: x3 :: x4 :: r) 4 y = x0 :: x1 :: x2 :: x3 :: y :: r := rfl
theorem set_n5 {α : Type} {y x0 x1 x2 x3 x4 x5 : α} {r : List α} : List.set (x0 :: x1 :: x2 :: x3 :: x4 :: x5 :: r) 5 y = x0 :: x1 :: x2 :: x3 :: x4 :: y :: r := rfl
theorem set_n6 {α : Type} {y x0 x1 x2 x3 x4 x5 x6 : α} {r : List α} : List.set (x0 :: x1 :: x2 :: x3 :: x4 :: x5 :: x6 :: r) 6 y = x0 :: x1 :: x2 :: x3 :: x4 :: x5 :: y :: r := rfl
theorem set_n7 {α : Type} {y x0 x1 x2 x3 x4 x5 x6 x7 : α} {r : List α} : List.set (x0 :: x1 :: x2 :: x3 :: x4 :: x5 :: x6 :: x7 :: r) 7 y = x0 :: x1 :: x2 :: x3 :: x4 :: x5 :: x6 :: y :: r := rfl
theorem set_n8 {α : Type} {y x0 x1 x2 x3 x4 x5 x6 x7 x8 : α} {r : List α} : List.set (x0 :: x1 :: x2 :: x3 :: x4 :: x5 :: x6 :: x7 :: x8 :: r) 8 y = x0 :: x1 :: x2 :: x3 :: x4 :: x5 :: x6 :: x7 :: y :: r := rfl
theorem set_n9 {α : Type} {y x0 x1 x2 x3 x4 x5 x6 x7 x8 x9 : α} {r : List α} : List.set (x0 :: x1 :: x2 :: x3 :: x4 :: x5 :: x6 :: x7 :: x8 :: x9 :: r) 9 y = x0 :: x1 :: x2 :: x3 :: x4 :: x5 :: x6 :: x7 :: x8 :: y :: r := rfl
theorem set_n10 {α : Type} {y x0 x1 x2 x3 x4 x5 x6 x7 x8 x9 x10 : α} {r : List α} : List.set (x0 :: x1 :: x2 :: x3 :: x4 :: x5 :: x6 :: x7 :: x8 :: x9 :: x10 :: r) 10 y = x0 :: x1 :: x2 :: x3 :: x4 :: x5 :: x6 :: x7 :: x8 :: x9 :: y :: r := rfl
theorem set_n11 {α : Type} {y x0 x1 x2 x3 x4 x5 x6 x7 x8 x9 x10 x11 : α} {r : List α} : List.set (x0 :: x1 :: x2 :: x3 :: x4 :: x5 :: x6 :: x7 :: x8 :: x9 :: x10 :: x11 :: r) 11 y = x0 :: x1 :: x2 :: x3 :: x4 :: x5 :: x6 :: x7 :: x8 :: x9 :: x10 :: y :: r := rfl
theorem set_n12 {α : Type} {y x0 x1 x2 x3 x4 x5 x6 x7 x8 x9 x10 x11 x12 : α} {r : List α} : List.set (x0 :: x1 :: x2 :: x3 :: x4 :: x5 :: x6 :: x7 :: x8 :: x9 :: x10 :: x11 :: x12 :: r) 12 y = x0 :: x1 :: x2 :: x3 :: x4 :: x5 :: x6 :: x7 :: x8 :: x9 :: x10 :: x11 :: y :: r := rfl
theorem set_n13 {α : Type} {y x0 x1 x2 x3 x4 x5 x6 x7 x8 x9 x10 x11 x12 x13 : α} {r : List α} : List.set (x0 :: x1 :: x2 :: x3 :: x4 :: x5 :: x6 :: x7 :: x8 :: x9 :: x10 :: x11 :: x12 :: x13 :: r) 13 y = x0 :: x1 :: x2 :: x3 :: x4 :: x5 :: x6 :: x7 :: x8 :: x9 :: x10 :: x11 :: x12 :: y :: r := rfl
theorem set_n14 {α : Type} {y x0 x1 x2 x3 x4 x5 x6 x7 x8 x9 x10 x11 x12 x13 x14 : α} {r : List α} : List.set (x0 :: x1 :: x2 :: x3 :: x4 :: x5 :: x6 :: x7 :: x8 :: x9 :: x10 :: x11 :: x12 :: x13 :: x14 :: r) 14 y = x0 :: x1 :: x2 :: x3 :: x4 :: x5 :: x6 :: x7 :: x8 :: x9 :: x10 :: x11 :: x12 :: x13 :: y :: r := rfl
theorem set_n15 {α : Type} {y x0 x1 x2 x3 x4 x5 x6 x7 x8 x9 x10 x11 x12 x13 x14 x15 : α} {r : List α} : List.set (x0 :: x1 :: x2 :: x3 :: x4 :: x5 :: x6 :: x7 :: x8 :: x9 :: x10 :: x11 :: x12 :: x13 :: x14 :: x15 :: r) 15 y = x0 :: x1 :: x2 :: x3 :: x4 :: x5 :: x6 :: x7 :: x8 :: x9 :: x10 :: x11 :: x12 :: x13 :: x14 :: y :: r := rfl
theorem set_n16 {α : Type} {y x0 x1 x2 x3 x4 x5 x6 x7 x8 x9 x10 x11 x12 x13 x14 x15 x16 : α} {r : List α} : List.set (x0 :: x1 :: x2 :: x3 :: x4 :: x5 :: x6 :: x7 :: x8 :: x9 :: x10 :: x11 :: x12 :: x13 :: x14 :: x15 :: x16 :: r) 16 y = x0 :: x1 :: x2 :: x3 :: x4 :: x5 :: x6 :: x7 :: x8 :: x9 :: x10 :: x11 :: x12 :: x13 :: x14 :: x15 :: y :: r := rfl
theorem set_n17 {α : Type} {y x0 x1 x2 x3 x4 x5 x6 x7 x8 x9 x10 x11 x12 x13 x14 x15 x16 x17 : α} {r : List α} : List.set (x0 :: x1 :: x2 :: x3 :: x4 :: x5 :: x6 :: x7 :: x8 :: x9 :: x10 :: x11 :: x12 :: x13 :: x14 :: x15 :: x16 :: x17 :: r) 17 y = x0 :: x1 :: x2 :: x3 :: x4 :: x5 :: x6 :: x7 :: x8 :: x9 :: x10 :: x11 :: x12 :: x13 :: x14 :: x15 :: x16 :: y :: r := rfl
theorem set_n18 {α : Type} {y x0 x1 x2 x3 x4 x5 x6 x7 x8 x9 x10 x11 x12 x13 x14 x15 x16 x17 x18 : α} {r : List α} : List.set (x0 :: x1 :: x2 :: x3 :: x4 :: x5 :: x6 :: x7 :: x8 :: x9 :: x10 :: x11 :: x12 :: x13 :: x14 :: x15 :: x16 :: x17 :: x18 :: r) 18 y = x0 :: x1 :: x2 :: x3 :: x4 :: x5 :: x6 :: x7 :: x8 :: x9 :: x10 :: x11 :: x12 :: x13 :: x14 :: x15 :: x16 :: x17 :: y :: r := rfl
theorem set_n19 {α : Type} {y x0 x1 x2 x3 x4 x5 x6 x7 x8 x9 x10 x11 x12 x13 x14 x15 x16 x17 x18 x19 : α} {r : List α} : List.set (x0 :: x1 :: x2 :: x3 :: x4 :: x5 :: x6 :: x7 :: x8 :: x9 :: x10 :: x11 :: x12 :: x13 :: x14 :: x15 :: x16 :: x17 :: x18 :: x19 :: r) 19 y = x0 :: x1 :: x2 :: x3 :: x4 :: x5 :: x6 :: x7 :: x8 :: x9 :: x10 :: x11 :: x12 :: x13 :: x14 :: x15 :: x16 :: x17 :: x18 :: y :: r := rfl
theorem set_n20 {α : Type} {y x0 x1 x2 x3 x4 x5 x6 x7 x8 x9 x10 x11 x12 x13 x14 x15 x16 x17 x18 x19 x20 : α} {r : List α} : List.set (x0 :: x1 :: x2 :: x3 :: x4 :: x5 :: x6 :: x7 :: x8 :: x9 :: x10 :: x11 :: x12 :: x13 :: x14 :: x15 :: x16 :: x17 :: x18 :: x19 :: x20 :: r) 20 y = x0 :: x1 :: x2 :: x3 :: x4 :: x5 :: x6 :: x7 :: x8 :: x9 :: x10 :: x11 :: x12 :: x13 :: x14 :: x15 :: x16 :: x17 :: x18 :: x19 :: y :: r := rfl
theorem set_n21 {α : Type} {y x0 x1 x2 x3 x4 x5 x6 x7 x8 x9 x10 x11 x12 x13 x14 x15 x16 x17 x18 x19 x20 x21 : α} {r : List α} : List.set (x0 :: x1 :: x2 :: x3 :: x4 :: x5 :: x6 :: x7 :: x8 :: x9 :: x10 :: x11 :: x12 :: x13 :: x14 :: x15 :: x16 :: x17 :: x18 :: x19 :: x20 :: x21 :: r) 21 y = x0 :: x1 :: x2 :: x3 :: x4 :: x5 :: x6 :: x7 :: x8 :: x9 :: x10 :: x11 :: x12 :: x13 :: x14 :: x15 :: x16 :: x17 :: x18 :: x19 :: x20 :: y :: r := rfl
theorem set_n22 {α : Type} {y x0 x1 x2 x3 x4 x5 x6 x7 x8 x9 x10 x11 x12 x13 x14 x15 x16 x17 x18 x19 x20 x21 x22 : α} {r : List α} : List.set (x0 :: x1 :: x2 :: x3 :: x4 :: x5 :: x6 :: x7 :: x8 :: x9 :: x10 :: x11 :: x12 :: x13 :: x14 :: x15 :: x16 :: x17 :: x18 :: x19 :: x20 :: x21 :: x22 :: r) 22 y = x0 :: x1 :: x2 :: x3 :: x4 :: x5 :: x6 :: x7 :: x8 :: x9 :: x10 :: x11 :: x12 :: x13 :: x14 :: x15 :: x16 :: x17 :: x18 :: x19 :: x20 :: x21 :: y :: r := rfl
theorem set_n23 {α : Type} {y x0 x1 x2 x3 x4 x5 x6 x7 x8 x9 x10 x11 x12 x13 x14 x15 x16 x17 x18 x19 x20 x21 x22 x23 : α} {r : List α} : List.set (x0 :: x1 :: x2 :: x3 :: x4 :: x5 :: x6 :: x7 :: x8 :: x9 :: x10 :: x11 :: x12 :: x13 :: x14 :: x15 :: x16 :: x17 :: x18 :: x19 :: x20 :: x21 :: x22 :: x23 :: r) 23 y = x0 :: x1 :: x2 :: x3 :: x4 :: x5 :: x6 :: x7 :: x8 :: x9 :: x10 :: x11 :: x12 :: x13 :: x14 :: x15 :: x16 :: x17 :: x18 :: x19 :: x20 :: x21 :: x22 :: y :: r := rfl
theorem set_n24 {α : Type} {y x0 x1 x2 x3 x4 x5 x6 x7 x8 x9 x10 x11 x12 x13 x14 x15 x16 x17 x18 x19 x20 x21 x22 x23 x24 : α} {r : List α} : List.set (x0 :: x1 :: x2 :: x3 :: x4 :: x5 :: x6 :: x7 :: x8 :: x9 :: x10 :: x11 :: x12 :: x13 :: x14 :: x15 :: x16 :: x17 :: x18 :: x19 :: x20 :: x21 :: x22 :: x23 :: x24 :: r) 24 y = x0 :: x1 :: x2 :: x3 :: x4 :: x5 :: x6 :: x7 :: x8 :: x9 :: x10 :: x11 :: x12 :: x13 :: x14 :: x15 :: x16 :: x17 :: x18 :: x19 :: x20 :: x21 :: x22 :: x23 :: y :: r := rfl
theorem set_n25 {α : Type} {y x0 x1 x2 x3 x4 x5 x6 x7 x8 x9 x10 x11 x12 x13 x14 x15 x16 x17 x18 x19 x20 x21 x22 x23 x24 x25 : α} {r : List α} : List.set (x0 :: x1 :: x2 :: x3 :: x4 :: x5 :: x6 :: x7 :: x8 :: x9 :: x10 :: x11 :: x12 :: x13 :: x14 :: x15 :: x16 :: x17 :: x18 :: x19 :: x20 :: x21 :: x22 :: x23 :: x24 :: x25 :: r) 25 y = x0 :: x1 :: x2 :: x3 :: x4 :: x5 :: x6 :: x7 :: x8 :: x9 :: x10 :: x11 :: x12 :: x13 :: x14 :: x15 :: x16 :: x17 :: x18 :: x19 :: x20 :: x21 :: x22 :: x23 :: x24 :: y :: r := rfl
theorem set_n26 {α : Type} {y x0 x1 x2 x3 x4 x5 x6 x7 x8 x9 x10 x11 x12 x13 x14 x15 x16 x17 x18 x19 x20 x21 x22 x23 x24 x25 x26 : α} {r : List α} : List.set (x0 :: x1 :: x2 :: x3 :: x4 :: x5 :: x6 :: x7 :: x8 :: x9 :: x10 :: x11 :: x12 :: x13 :: x14 :: x15 :: x16 :: x17 :: x18 :: x19 :: x20 :: x21 :: x22 :: x23 :: x24 :: x25 :: x26 :: r) 26 y = x0 :: x1 :: x2 :: x3 :: x4 :: x5 :: x6 :: x7 :: x8 :: x9 :: x10 :: x11 :: x12 :: x13 :: x14 :: x15 :: x16 :: x17 :: x18 :: x19 :: x20 :: x21 :: x22 :: x23 :: x24 :: x25 :: y :: r := rfl
theorem set_n27 {α : Type} {y x0 x1 x2 x3 x4 x5 x6 x7 x8 x9 x10 x11 x12 x13 x14 x15 x16 x17 x18 x19 x20 x21 x22 x23 x24 x25 x26 x27 : α} {r : List α} : List.set (x0 :: x1 :: x2 :: x3 :: x4 :: x5 :: x6 :: x7 :: x8 :: x9 :: x10 :: x11 :: x12 :: x13 :: x14 :: x15 :: x16 :: x17 :: x18 :: x19 :: x20 :: x21 :: x22 :: x23 :: x24 :: x25 :: x26 :: x27 :: r) 27 y = x0 :: x1 :: x2 :: x3 :: x4 :: x5 :: x6 :: x7 :: x8 :: x9 :: x10 :: x11 :: x12 :: x13 :: x14 :: x15 :: x16 :: x17 :: x18 :: x19 :: x20 :: x21 :: x22 :: x23 :: x24 :: x25 :: x26 :: y :: r := rfl
theorem set_n28 {α : Type} {y x0 x1 x2 x3 x4 x5 x6 x7 x8 x9 x10 x11 x12 x13 x14 x15 x16 x17 x18 x19 x20 x21 x22 x23 x24 x25 x26 x27 x28 : α} {r : List α} : List.set (x0 :: x1 :: x2 :: x3 :: x4 :: x5 :: x6 :: x7 :: x8 :: x9 :: x10 :: x11 :: x12 :: x13 :: x14 :: x15 :: x16 :: x17 :: x18 :: x19 :: x20 :: x21 :: x22 :: x23 :: x24 :: x25 :: x26 :: x27 :: x28 :: r) 28 y = x0 :: x1 :: x2 :: x3 :: x4 :: x5 :: x6 :: x7 :: x8 :: x9 :: x10 :: x11 :: x12 :: x13 :: x14 :: x15 :: x16 :: x17 :: x18 :: x19 :: x20 :: x21 :: x22 :: x23 :: x24 :: x25 :: x26 :: x27 :: y :: r := rfl
theorem set_n29 {α : Type} {y x0 x1 x2 x3 x4 x5 x6 x7 x8 x9 x10 x11 x12 x13 x14 x15 x16 x17 x18 x19 x20 x21 x22 x23 x24 x25 x26 x27 x28 x29 : α} {r : List α} : List.set (x0 :: x1 :: x2 :: x3 :: x4 :: x5 :: x6 :: x7 :: x8 :: x9 :: x10 :: x11 :: x12 :: x13 :: x14 :: x15 :: x16 :: x17 :: x18 :: x19 :: x20 :: x21 :: x22 :: x23 :: x24 :: x25 :: x26 :: x27 :: x28 :: x29 :: r) 29 y = x0 :: x1 :: x2 :: x3 :: x4 :: x5 :: x6 :: x7 :: x8 :: x9 :: x10 :: x11 :: x12 :: x13 :: x14 :: x15 :: x16 :: x17 :: x18 :: x19 :: x20 :: x21 :: x22 :: x23 :: x24 :: x25 :: x26 :: x27 :: x28 :: y :: r := rfl
end Hf
/-! ## exceptions: caught, noted and asked behind the suite -/
namespace Hf
open PySem PySem.Spec PyProof.Rows L2
/-- at a: a caught exception of the class cls, its dict d -/
def exHO (a : Addr) (cls : Value) (d : Option Addr) : HO := .ext fun h => ∃ oe vs, h.get? a = some oe ∧ Zc cls d oe ∧ oe.data = .fields vs
theorem exHO_ok {P : Program} {w : World} {H : Hp} {h : Heap} {a : Addr} {cls : Value} {d : Option Addr} {oe : Obj} {vs : Array Value} (e : h.get? a = some oe) (hz : Zc cls d oe) (hd : oe.data = .fields vs) : ObjOk P w H h a (exHO a cls d) :=
  ⟨⟨oe, vs, e, hz, hd⟩, ⟨oe, e⟩, fun _ _ ⟨o, v, x, y, z⟩ k => ⟨o, v, k _ x, y, z⟩⟩
theorem exHO_at {P : Program} {w : World} {H : Hp} {h : Heap} {a : Addr} {cls : Value} {d : Option Addr} (ok : HOk P w H h) (e : H a = some (exHO a cls d)) : ∃ oe vs, h.get? a = some oe ∧ Zc cls d oe ∧ oe.data = .fields vs := by
  have x : ObjOk P w H h a (.ext fun h => ∃ oe vs, h.get? a = some oe ∧ Zc cls d oe ∧ oe.data = .fields vs) := ok a _ e
  exact x.1
/-- a pinned object of ours is taken up -/
theorem track {X : Cx} {pins : List (Addr × Obj)} {σ : L2.St} {H : Hp} {s : Shared} {a : Addr} {oe : Obj} {cls : Value} {d : Option Addr} {vs : Array Value} (I : Inv X ((a, oe) :: pins) σ H s) (hz : Zc cls d oe) (hd : oe.data = .fields vs)
    (n0 : X.s_0.heap.get? a = none) (np : ∀ p ∈ X.pn ++ pins, p.1 ≠ a) : Inv X pins σ (L2.upd H a (exHO a cls d)) s := by
  obtain ⟨ga, na, nL, nF, nc⟩ := I.pin (a, oe) (List.mem_append_right _ List.mem_cons_self)
  dsimp only at ga na nL nF nc
  have ncell : ∀ x c, X.env.cells.lookup x = some c → c ≠ a := fun x c e z => by
    obtain ⟨v, o, ho, hdc⟩ := I.cell x c e
    rw [z, ga] at ho
    cases ho
    exact nc _ hdc
  refine ⟨I.ok, I.os, I.bare, ⟨I.base.keep, I.base.slot, fun b o e n hx => ?_, I.base.there, fun b xs e => ?_, fun b o u e => ?_, fun b ps e => ?_⟩, I.loc, I.cell, ?_, fun x c e => ?_, fun p hp => ?_, fun b o e => ?_, I.len⟩
  · rw [upd_ne (fun z => by rw [z, n0] at e; cases e)]
    exact I.base.free b o e n hx
  · have q := I.base.tups b xs e
    rw [upd_ne (ne_of_none q na)]
    exact q
  · have q := I.base.frzs b o u e
    rw [upd_ne (ne_of_none q na)]
    exact q
  · obtain ⟨m, q⟩ := I.base.tbls b ps e
    exact ⟨m, by rw [upd_ne (ne_of_none q na)]; exact q⟩
  · rw [upd_ne (Ne.symm nL)]
    exact I.free
  · rw [upd_ne (ncell x c e)]
    exact I.freeC x c e
  · obtain ⟨e, n, r⟩ := I.pin p (by
      rcases List.mem_append.mp hp with h | h
      · exact List.mem_append_left _ h
      · exact List.mem_append_right _ (List.mem_cons_of_mem _ h))
    exact ⟨e, by rw [upd_ne (np p hp)]; exact n, r⟩
  · by_cases hb : b = a
    · subst hb
      rw [upd_same] at e
      cases e
      exact exHO_ok ga hz hd
    · rw [upd_ne hb] at e
      refine (I.hok b o e).stay (fun c u _ q => q) (fun c q => ?_) fun c xs q => ?_
      · rw [upd_ne (ne_of_none q na)]
        exact q
      · rw [upd_ne (ne_of_none q na)]
        exact q
/-- what follows the suite -/
def nxAs (i : Nat) (a : Addr) (cls : Value) (d : Option Addr) (nx : L2.St → Hp → Prop) : L2.St → Hp → Prop := fun σ' H' => nx (σ'.set i none) (L2.upd H' a (exHO a cls d))
def rtAs (a : Addr) (cls : Value) (d : Option Addr) (rt : VK) : VK := fun v H' => rt v (L2.upd H' a (exHO a cls d))
/-- what the clause 'except x as n' wishes of an exception of the body -/
def wAsT (K : PySem.W.Frag) (c : Value) (i : Nat) (ts : TS) (Wout : WX) (D : Ends) : WX := fun cls d σ H =>
  ∃ b, PySem.W.exmOne K cls c = some b ∧ (b = true → ∀ a, H a = none → ts { nx := nxAs i a cls d D.nx, rt := rtAs a cls d D.rt, bk := nxAs i a cls d D.bk, ct := nxAs i a cls d D.ct } (σ.set i (some (.ref a))) H) ∧
    (b = false → Wout cls d σ H)
def tTryAs (K : PySem.W.Frag) (c : Value) (i : Nat) (ts : TS) (Wout : WX) (tb : WX → TS) : TS := fun D σ H => tb (wAsT K c i ts Wout D) D σ H
section
variable {X : Cx} {x n : Str} {c : Value} {i : Nat} {body suite : List Stmt} {b₀ : Stmt} {np pos pos' : Pos} {tb : WX → TS} {ts : TS} {Wout : WX}
theorem ps_try_asT (hs : X.stack = X.env :: X.outer) (hf : X.env.frame = some X.env.locals) (hex : X.ex = []) (hN : X.N.Nodup) (hi : X.N[i]? = some n) (hln : X.env.kindOf n = some .local) (hc : Names X x c) (tk : Takes X Wout)
    (hb : ∀ (W : WX) (pn : List (Addr × Obj)) (xe : Value → Shared → Prop), Takes (X.tr pn xe) W → PassesOwn (model X.prog X.w) X.A X.env xe → PSs (X.tr pn xe) body (tb W))
    (hsu : ∀ (a : Addr) (oe : Obj) (pn : List (Addr × Obj)), PSs (X.suite a ((a, oe) :: pn)) (b₀ :: suite) ts) :
    PS X (.Try body [.ExceptHandler (some (.Name x np)) (some n) (b₀ :: suite) pos'] [] [] pos) (tTryAs X.K c i ts Wout tb) := by
  refine ⟨fun pins s σ H D I h => ?_⟩
  have ok := I.ok
  have hfr : X.A.frames = some (X.env :: X.outer) := by rw [ok.frames, hs]
  have hloc : Loc X.env.scope n := .inl hln
  refine wpAny_Try_except ?_
  refine wpAny_mono ((hb (wAsT X.K c i ts Wout D) (X.pn ++ pins) (fun e s₁ => wpAny (model X.prog X.w) X.A (noteFrame e X.env) (fun _ s₂ => wpAny (model X.prog X.w) X.A (setFlight e none) (fun _ s₃ =>
    wpAny (model X.prog X.w) X.A (handleBy e X.env [.ExceptHandler (some (.Name x np)) (some n) (b₀ :: suite) pos']) (SP X pins D) X.xe s₃) X.xe s₂) X.xe s₁) (fun u s' xx => ?_) PassesOwn.looking).run [] s σ H D (I.toTry _) h) (fun f s1 hsp => ?_) (fun e s1 he => he)
  · obtain ⟨a, B, sI, pins', σ', H', cls, d, rfl, J', nb, up, sky, na, os, ag, b, hb1, hyes, hno⟩ := xx
    have J : Inv X pins σ' H' sI := J'.ofTry ok
    have sky' : Sky B (X.env :: X.outer) a (Zc cls d) X.env.locals s'.heap := by rw [← hs]; exact sky
    show wpAny (model X.prog X.w) X.A (noteFrame (.ref a) X.env) _ _ _
    refine Sky.land Zc.steady hfr hf sky' fun h3 fl3 up3 => ?_
    have J3 : Inv X pins σ' H' { s' with heap := h3 } := J.landed nb fl3.1 (up.trans up3) os ag
    obtain ⟨oe3, vs3, he3, hz3, hd3⟩ := fl3.there
    have notFr : ∀ {h : Heap} {o : Obj} {vs : Array Value}, h.FunFrames B (X.env :: X.outer) → h.get? a = some o → o.data = .fields vs → a ∉ frs (X.env :: X.outer) := fun {h o vs} ff e dd hm => by
      obtain ⟨_, o', e', hnf⟩ := ff.mem hm
      rw [e] at e'; cases e'
      exact hnf _ dd
    have nfr := notFr fl3.2.2.1 he3 hd3
    have nL : a ≠ X.env.locals := fun z => nfr (List.mem_filterMap.mpr ⟨X.env, List.mem_cons_self, by rw [hf, z]⟩)
    have nF : a ∉ X.fs := fun hm => by
      obtain ⟨e, he, q⟩ := List.mem_filterMap.mp hm
      exact nfr (List.mem_filterMap.mpr ⟨e, List.mem_cons_of_mem _ he, q⟩)
    have nI : sI.heap.get? a = none := by
      cases q : sI.heap.get? a with
      | none => rfl
      | some o =>
        have z := nb a o q (by rw [hs]; exact nfr)
        rw [fl3.2.1] at z
        cases z
    have n0 : X.s_0.heap.get? a = none := by
      cases q : X.s_0.heap.get? a with
      | none => rfl
      | some o =>
        obtain ⟨o', z⟩ := J.base.there a o q (by rw [hex]; exact List.not_mem_nil)
        rw [nI] at z
        cases z
    have npin : ∀ p ∈ X.pn ++ pins, p.1 ≠ a := fun p hp z => by
      have q := (J.pin p hp).1
      rw [z, nI] at q
      cases q
    have S3 := J3.suite he3 hd3 na nL nF
    refine wpAny_handleBy_cons (codeAny_handlers_test ?_) (by intro q; cases q)
    have LT : PySem.W.Looks (model X.prog X.w) h3 (typeOf (.ref a)) cls := fun A Q E s k q => wpAny_typeOf_ref (k _ _ he3) (by rw [hz3.1]; exact q)
    have LM := PySem.W.exm_one (M := model X.prog X.w) (J3.kIn) LT hb1
    have test : ∀ {Q : Value → Shared → Prop} {E : Value → Shared → Prop}, Q c { s' with heap := h3 } → wpAny (model X.prog X.w) (X.A.mark (some (.ref a))) (eval (.Name x np) X.env) Q E { s' with heap := h3 } := fun {Q E} q => by
      obtain ⟨hg, hdbg, hm | ⟨hm, hv, hnn⟩⟩ := hc
      · exact ld_glob (X := X.suite a ((a, oe3) :: (X.pn ++ pins))) S3 hg hm q hdbg
      · exact ld_blt (X := X.suite a ((a, oe3) :: (X.pn ++ pins))) S3 hg hm hv q hnn hdbg
    refine test (LM.here ?_)
    cases b with
    | true =>
      refine codeAny_handlers_suite_as ?_
      refine HandSPX.lands_againZ fl3 fun h4 fl4 up4 => ?_
      have J4 : Inv X pins σ' H' { s' with heap := h4 } := J.landed nb fl4.1 ((up.trans up3).trans up4) os ag
      obtain ⟨oe4, vs4, he4, hz4, hd4⟩ := fl4.there
      have S4 := J4.suite he4 hd4 na nL nF
      refine store_ok (X := X.suite a ((a, oe4) :: (X.pn ++ pins))) (v := .ref a) S4 hN hi hloc rfl (fun s5 S5 => ?_) (.inr hln)
      refine wpAny_mono ((hsu a oe4 (X.pn ++ pins)).run [] s5 _ H' _ S5 (hyes rfl a na)) (fun f s6 hsp => ?_) (fun _ _ z => False.elim z)
      have end_ : ∀ {σ6 : L2.St} {H6 : Hp} {Q : Shared → Prop}, Inv (X.suite a ((a, oe4) :: (X.pn ++ pins))) [] σ6 H6 s6 → (∀ s7, Inv X pins (σ6.set i none) (L2.upd H6 a (exHO a cls d)) s7 → Q s7) →
          wpAny (model X.prog X.w) X.A (do bindName X.env n .none; unbindBehindTheSuite X.env n pos') (fun _ s7 => Q s7) X.xe s6 := fun {σ6 H6 Q} S6 hq => by
        have S7 : Inv X ((a, oe4) :: pins) σ6 H6 s6 := ⟨ok, S6.os, S6.bare, S6.base, S6.loc, S6.cell, S6.free, S6.freeC, fun p hp => S6.pin p (by
          show p ∈ (a, oe4) :: (X.pn ++ pins) ++ []
          rw [List.append_nil]
          rcases List.mem_append.mp hp with h | h
          · exact List.mem_cons_of_mem _ (List.mem_append_left _ h)
          · rcases List.mem_cons.mp h with h | h
            · rw [h]
              exact List.mem_cons_self
            · exact List.mem_cons_of_mem _ (List.mem_append_right _ h)), S6.hok, S6.len⟩
        exact gone_ok S7 hN hi hln fun s7 J7 => hq s7 (track J7 hz4 hd4 n0 npin)
      cases f with
      | next =>
        obtain ⟨σ6, H6, S6, q6⟩ := hsp
        exact end_ S6 fun s7 J7 => ⟨_, _, J7, q6⟩
      | brk =>
        obtain ⟨σ6, H6, S6, q6⟩ := hsp
        exact end_ S6 fun s7 J7 => ⟨_, _, J7, q6⟩
      | cont =>
        obtain ⟨σ6, H6, S6, q6⟩ := hsp
        exact end_ S6 fun s7 J7 => ⟨_, _, J7, q6⟩
      | ret u =>
        obtain ⟨v6, σ6, H6, S6, r6, q6⟩ := hsp
        exact end_ S6 fun s7 J7 => ⟨_, _, _, J7, r6, q6⟩
    | false =>
      show wpAny _ X.A (handleBy (.ref a) X.env []) _ _ _
      refine wpAny_handleBy_nil ?_
      obtain ⟨k1, k2, k3, oe, vs, T, oT, ts', he, hz, hd, h1, hr⟩ := id fl3
      unfold PySem.passOn
      refine wpAny_bind (wpAny_field he hd h1 ?_)
      rw [if_neg (show ¬ ((Value.ref T == Value.none) = true) from by simp)]
      have fin : wpAny (model X.prog X.w) X.A (setFlight (.ref a) X.env.frame) (fun _ s4 => wpAny (model X.prog X.w) X.A (throw (.ref a) : Sem Flow) (SP X pins D) X.xe s4) X.xe { s' with heap := h3 } := by
        rw [hf]
        refine HandSPX.setFlight_upZ fl3 fun h4 hh4 up4 => wpAny_throw (tk _ _ ?_)
        exact ⟨a, B, sI, pins, σ', H', cls, d, rfl, J, nb, (up.trans up3).trans up4, .inr (.inr (by rw [hs]; exact hh4)), na, os, ag, hno rfl⟩
      first
        | exact wpAny_bind (wpAny_pure (wpAny_bind fin))
        | exact wpAny_bind fin
  · cases f with
    | next =>
      obtain ⟨σ', H', J', q⟩ := hsp
      exact wpAny_execs_nil ⟨σ', H', J'.ofTry ok, q⟩
    | brk =>
      obtain ⟨σ', H', J', q⟩ := hsp
      exact ⟨σ', H', J'.ofTry ok, q⟩
    | cont =>
      obtain ⟨σ', H', J', q⟩ := hsp
      exact ⟨σ', H', J'.ofTry ok, q⟩
    | ret u =>
      obtain ⟨v, σ', H', J', r, q⟩ := hsp
      exact ⟨v, σ', H', J'.ofTry ok, r, q⟩
end
/-! ### isinstance -/
/-- isinstance(x, c): x a tracked exception, or any other thing -/
def rIsX (K : PySem.W.Frag) : List V → Hp → VK → Prop := fun xs H Q =>
  (∃ (a D : Addr) (d : Option Addr) (c : V) (cv : Value) (b : Bool), xs = [.ref a, c] ∧ H a = some (exHO a (.ref D) d) ∧ (∀ dd, d = some dd → ∃ fs, H dd = some (.xd fs)) ∧ ExcC K D ∧ (∀ u, RelV c u → u = cv) ∧ PySem.W.kitOne K (.ref D) cv = some b ∧ Q (.bl b) H) ∨ rIsi K xs H Q
theorem call_isX {X : Cx} : CallR X (.builtin "isinstance") (rIsX X.K) := by
  intro pins s σ H xs us Q I r h
  rcases h with ⟨a, D, d, c, cv, b, rfl, ha, hdd, C, hcv, e, q⟩ | h
  · cases r with
    | cons rx rr =>
      cases rr with
      | cons rt rr =>
        cases rr
        cases rx
        have ec := hcv _ rt
        subst ec
        obtain ⟨oe, vs, hget, hz, hv⟩ := exHO_at I.hok ha
        obtain ⟨od, J⟩ : ∃ od, PySem.W.InstAt s.heap a oe D od := by
          cases d with
          | none =>
            obtain ⟨oc, od, oda, osl⟩ := oe
            obtain ⟨h1, h2⟩ := hz
            dsimp only at h1 h2 hv
            subst h1 h2 hv
            exact ⟨none, hget, rfl, rfl, trivial⟩
          | some dd =>
            obtain ⟨fs, hfs⟩ := hdd dd rfl
            have x : ObjOk X.prog X.w H s.heap dd (.xd fs) := I.hok dd _ hfs
            obtain ⟨mA, ⟨o, es, ep, ho, _⟩, _⟩ := x
            obtain ⟨oc, od, oda, osl⟩ := oe
            obtain ⟨h1, h2⟩ := hz
            dsimp only at h1 h2 hv
            subst h1 h2 hv
            exact ⟨some o, hget, rfl, rfl, ho⟩
        have hcl : (PySem.W.clsIn X.K D).isSome = true := by
          obtain ⟨cd, hc, _⟩ := PySem.W.any_some C.hd
          rw [hc]
          rfl
        exact PySem.W.kia_one (PySem.W.kitx_exc hcl C.hg C.hk C.hs C.ha C.hn C.ht C.hm) I.kIn J e (fun z => nomatch z) fun tk => ⟨.bl b, H, I.kept (t' := tk) fun _ _ z => z, rfl, q⟩
  · exact call_isi pins s σ H xs us Q I r h
theorem call_isXK {X : Cx} (K : PySem.W.Frag) (e : X.K = K) : CallR X (.builtin "isinstance") (rIsX K) := by subst e; exact call_isX
section
variable {σ σ' : L2.St} {H : Hp} {Q : VK} {nx bk ct : L2.St → Hp → Prop} {rt : VK} {K : PySem.W.Frag} {a D C : Addr} {d : Option Addr} {cls c : Value} {b : Bool} {i : Nat}
theorem i_isXR (h : H a = some (exHO a (.ref D) none)) (e : ExcC K D) (k : PySem.W.kitOne K (.ref D) (.ref C) = some b) (q : Q (.bl b) H) : rIsX K [.ref a, .ref C] H Q :=
  .inl ⟨a, D, none, .ref C, .ref C, b, rfl, h, fun _ z => (nomatch z), e, fun _ z => z, k, q⟩
theorem i_isXT {T : String} (h : H a = some (exHO a (.ref D) none)) (e : ExcC K D) (k : PySem.W.kitOne K (.ref D) (.type T) = some b) (q : Q (.bl b) H) : rIsX K [.ref a, .ty T] H Q :=
  .inl ⟨a, D, none, .ty T, .type T, b, rfl, h, fun _ z => (nomatch z), e, fun _ z => z, k, q⟩
theorem i_isXRd {dd : Addr} {fs : List (Str × V)} (h : H a = some (exHO a (.ref D) (some dd))) (hd : H dd = some (.xd fs)) (e : ExcC K D) (k : PySem.W.kitOne K (.ref D) (.ref C) = some b) (q : Q (.bl b) H) : rIsX K [.ref a, .ref C] H Q :=
  .inl ⟨a, D, some dd, .ref C, .ref C, b, rfl, h, fun x z => by cases z; exact ⟨fs, hd⟩, e, fun _ z => z, k, q⟩
theorem i_isXTd {T : String} {dd : Addr} {fs : List (Str × V)} (h : H a = some (exHO a (.ref D) (some dd))) (hd : H dd = some (.xd fs)) (e : ExcC K D) (k : PySem.W.kitOne K (.ref D) (.type T) = some b) (q : Q (.bl b) H) : rIsX K [.ref a, .ty T] H Q :=
  .inl ⟨a, D, some dd, .ty T, .type T, b, rfl, h, fun x z => by cases z; exact ⟨fs, hd⟩, e, fun _ z => z, k, q⟩
theorem i_isXi {t : String} {x : V} {c : String} (ty : TyX K H x (.type t)) (h : kitB t c = some b) (q : Q (.bl b) H) : rIsX K [x, .ty c] H Q := .inr ⟨x, .ty c, .type t, .type c, b, rfl, .ty c, ty, kit_ty h, q⟩
theorem i_isXo {t : String} {x : V} (ty : TyX K H x (.type t)) (h : PySem.W.kitOne K (.type t) (.ref C) = some b) (q : Q (.bl b) H) : rIsX K [x, .ref C] H Q := .inr ⟨x, .ref C, .type t, .ref C, b, rfl, .own C, ty, h, q⟩
/-! ### the steps -/
theorem i_callS {sp : Sp} {E : L2.St → XK} {t : TA} (h : t σ H fun vs H1 => sp vs H1 Q (E σ)) : tCallS sp E t σ H Q := h
theorem i_try {ts : TS} {Wout : WX} {tb : WX → TS} (h : tb (wAsT K c i ts Wout ⟨nx, rt, bk, ct⟩) ⟨nx, rt, bk, ct⟩ σ H) : tTryAs K c i ts Wout tb ⟨nx, rt, bk, ct⟩ σ H := h
theorem i_caught {τ : Addr → L2.St} {ts : TS} {Wout : WX} (e : PySem.W.exmOne K cls c = some true) (s : ∀ a, List.set σ i (some (V.ref a)) = τ a) (h : ∀ a, H a = none → ts ⟨nxAs i a cls d nx, rtAs a cls d rt, nxAs i a cls d bk, nxAs i a cls d ct⟩ (τ a) H) : wAsT K c i ts Wout ⟨nx, rt, bk, ct⟩ cls d σ H :=
  ⟨true, e, fun _ a na => by
    show ts _ (List.set σ i (some (V.ref a))) H
    rw [s a]
    exact h a na, fun z => nomatch z⟩
theorem i_nxAs (s : List.set σ i none = σ') (q : nx σ' (L2.upd H a (exHO a cls d))) : nxAs i a cls d nx σ H := by
  subst s
  exact q
theorem i_rtAs {v : V} (q : rt v (L2.upd H a (exHO a cls d))) : rtAs a cls d rt v H := q
theorem i_isnR (q : Q (.bl false) H) : V.non = V.non ∧ Q (.bl (decide (V.ref a = V.non))) H := ⟨rfl, by
  rw [decide_eq_false (fun z => by cases z)]
  exact q⟩
theorem i_isnN (q : Q (.bl true) H) : V.non = V.non ∧ Q (.bl (decide (V.non = V.non))) H := ⟨rfl, by
  rw [decide_eq_true rfl]
  exact q⟩
end
/-! ### what is known of the classes -/
structure ClsT (K : PySem.W.Frag) (C : Addr) : Prop where
  ic : PySem.W.isClsIn K C = true
  ty : PySem.W.typeIn K (.ref C) = some (.type "type")
section
variable {K : PySem.W.Frag} {C D : Addr} {b : Bool}
theorem kit_clsT (c : ClsT K C) {t : Value} (h : PySem.W.subIn K t (.ref C) = some b) : PySem.W.kitCls K t (.ref C) = some b := by
  have h2 : (PySem.W.clsIn K C).isSome = true := c.ic
  show (if ((PySem.W.clsIn K C).isSome && PySem.W.typeIn K (.ref C) == some (.type "type")) = true then PySem.W.subIn K t (.ref C) else none) = some b
  rw [if_pos (by rw [h2, c.ty]; rfl)]
  exact h
theorem kit_t (c : ClsT K C) (h : PySem.W.subIn K (.ref D) (.ref C) = some true) : PySem.W.kitOne K (.ref D) (.ref C) = some true := by
  unfold PySem.W.kitOne
  split
  · rfl
  · exact kit_clsT c h
theorem kit_f (c : ClsT K C) (hs : PySem.W.subIn K (.ref D) (.ref D) = some true) (h : PySem.W.subIn K (.ref D) (.ref C) = some false) : PySem.W.kitOne K (.ref D) (.ref C) = some false := by
  unfold PySem.W.kitOne
  split
  · rename_i z
    have e : D = C := Value.ref.inj (beq_iff_eq.mp z)
    subst e
    rw [hs] at h
    cases h
  · exact kit_clsT c h
theorem kit_o (c : ClsT K C) {t : String} (h : PySem.W.subIn K (.type t) (.ref C) = some b) : PySem.W.kitOne K (.type t) (.ref C) = some b := by
  unfold PySem.W.kitOne
  rw [if_neg (by rw [beq_iff_eq]; exact fun z => nomatch z)]
  exact kit_clsT c h
theorem kit_v {T : String} (h : PySem.W.subIn K (.ref D) (.type T) = some b) (hm : PySem.W.kitMeta T = true) : PySem.W.kitOne K (.ref D) (.type T) = some b := by
  unfold PySem.W.kitOne
  rw [if_neg (by rw [beq_iff_eq]; exact fun z => nomatch z)]
  show (if PySem.W.kitMeta T = true then PySem.W.subIn K (.ref D) (.type T) else none) = some b
  rw [if_pos hm]
  exact h
theorem exm_t (c : ClsT K C) (hb : PySem.W.subIn K (.ref C) (.type "BaseException") = some true) (h : PySem.W.subIn K (.ref D) (.ref C) = some b) : PySem.W.exmOne K (.ref D) (.ref C) = some b := by
  show (if (PySem.W.subIn K (.ref C) (.type "BaseException") == some true) = true then PySem.W.kitCls K (.ref D) (.ref C) else none) = some b
  rw [if_pos (by rw [hb]; rfl)]
  exact kit_clsT c h
end
/-! ### counts of flat things -/
def rCntV (K : PySem.W.Frag) : V → List V → Hp → VK → Prop := fun x xs H Q => ∃ (p : Addr) (ys : List V) (y : V), x = .ref p ∧ xs = [y] ∧ SqL K H p ys ∧ flatV y = true ∧ ys.all flatV = true ∧ Q (.int (ys.countP fun z => eqV z y : Nat)) H
theorem cnt_flat {u : Value} {y : V} (ry : RelV y u) (fy : flatV y = true) : ∀ {ys : List V} {us : List Value}, Vals ys us → ys.all flatV = true → us.countP (eqU y) = ys.countP fun z => eqV z y
  | [], [], .nil, _ => rfl
  | z :: r, _ :: _, .cons rz t, f => by
    have f1 : flatV z = true := (List.all_eq_true.mp f) z List.mem_cons_self
    have f2 : r.all flatV = true := List.all_eq_true.mpr fun q hq => (List.all_eq_true.mp f) q (List.mem_cons_of_mem _ hq)
    rw [List.countP_cons, List.countP_cons, cnt_flat ry fy t f2, eqU_of rz f1]
theorem mt_lcountV {X : Cx} : MtR X "list.count" (rCntV X.K) := by
  intro pins s σ H x xs v us Q I rx rxs h
  obtain ⟨p, ys, y, rfl, rfl, hs, fy, fys, q⟩ := h
  cases rx
  obtain ⟨u, rfl, ru⟩ := rxs.one
  obtain ⟨its, rv, ⟨⟨cls, dd, data, sl⟩, n, ho, hc, hdn, hd⟩, hlen⟩ := I.list hs
  simp only at hc hd
  subst hc hd
  refine call_meets PySem.F.slot_list_count ⟨_, ho, rfl⟩ PySem.F.entry_list_count (PySem.F.args_list_count_2 _ _)
    (SeqAt.list_countAt p its.toArray n dd sl u (eqU y)) ⟨ho, fun u' hu' => mem_eqAt ru fy rv fys u' (by simpa using hu'), ?_⟩
  have ec : its.toArray.toList.countP (eqU y) = ys.countP fun z => eqV z y := cnt_flat ru fy rv fys
  refine ⟨.int _, H, I.tok _, ⟨s.toks, ?_⟩, q⟩
  show Value.int ((its.toArray.toList.countP (eqU y) : Nat) : Int) s.toks = Value.int _ s.toks
  rw [ec]
theorem mt_lcountVK {X : Cx} (K : PySem.W.Frag) (e : X.K = K) : MtR X "list.count" (rCntV K) := by subst e; exact mt_lcountV
theorem mt_indexK {X : Cx} (K : PySem.W.Frag) (e : X.K = K) : MtR X "list.index" (rIndex K) := by subst e; exact mt_index
theorem i_cntV {K : PySem.W.Frag} {H : Hp} {Q : VK} {p : Addr} {ys : List V} {y : V} {n : Nat} (h : SqL K H p ys) (f : flatV y = true) (g : ys.all flatV = true) (e : (ys.countP fun z => eqV z y) = n) (q : Q (.int (n : Nat)) H) : rCntV K (.ref p) [y] H Q :=
  ⟨p, ys, y, rfl, rfl, h, f, g, by rw [e]; exact q⟩
/-- the first place at which y stands -/
def firstAt (y : V) : List V → Nat → Option Nat
  | [], _ => none
  | z :: r, k => if eqV z y = true then some k else firstAt y r (k + 1)
theorem firstAt_is {y : V} : ∀ {ys : List V} {k j : Nat}, firstAt y ys k = some j → k ≤ j ∧ (∃ z, ys[j - k]? = some z ∧ eqV z y = true) ∧ ∀ (m : Nat) (z' : V), m < j - k → ys[m]? = some z' → eqV z' y = false
  | [], _, _, h => nomatch h
  | z :: r, k, j, h => by
    unfold firstAt at h
    split at h
    · rename_i c
      cases h
      rw [Nat.sub_self]
      exact ⟨Nat.le_refl _, ⟨z, rfl, c⟩, fun m z' hm => absurd hm (Nat.not_lt_zero _)⟩
    · rename_i c
      obtain ⟨h1, ⟨w, h2, h3⟩, h4⟩ := firstAt_is h
      refine ⟨by omega, ⟨w, ?_, h3⟩, fun m z' hm hz => ?_⟩
      · rw [show j - k = (j - (k + 1)) + 1 by omega, List.getElem?_cons_succ]
        exact h2
      · cases m with
        | zero =>
          rw [List.getElem?_cons_zero] at hz
          cases hz
          exact Bool.eq_false_iff.mpr c
        | succ m =>
          rw [List.getElem?_cons_succ] at hz
          exact h4 m z' (by omega) hz
theorem i_index {K : PySem.W.Frag} {H : Hp} {Q : VK} {p : Addr} {ys : List V} {y : V} {j : Nat} (h : SqL K H p ys) (f : flatV y = true) (g : ys.all flatV = true) (e : firstAt y ys 0 = some j) (q : Q (.int (j : Nat)) H) : rIndex K (.ref p) [y] H Q := by
  obtain ⟨_, ⟨z, h2, h3⟩, h4⟩ := firstAt_is e
  exact ⟨p, ys, y, j, z, rfl, rfl, h, f, g, h2, h3, h4, q⟩
/-! ### comprehensions over zip, kept where the second says so -/
def pickB : List V → List Bool → List V
  | x :: xs, c :: bs => if c = true then x :: pickB xs bs else pickB xs bs
  | _, _ => []
theorem pickB_more : ∀ {xs : List V} {bs : List Bool} {i : Nat} {x : V} {c : Bool}, xs[i]? = some x → bs[i]? = some c → pickB (xs.take (i + 1)) (bs.take (i + 1)) = pickB (xs.take i) (bs.take i) ++ (if c = true then [x] else [])
  | [], _, _, _, _, h, _ => by simp at h
  | _ :: _, [], _, _, _, _, h => by simp at h
  | y :: xs, d :: bs, 0, x, c, h1, h2 => by
    simp at h1 h2
    subst h1 h2
    simp [pickB]
  | y :: xs, d :: bs, i + 1, x, c, h1, h2 => by
    rw [List.getElem?_cons_succ] at h1 h2
    have ih := pickB_more h1 h2
    simp only [List.take_succ_cons, pickB]
    cases d
    · simp only [Bool.false_eq_true, if_false]
      exact ih
    · simp only [if_true, List.cons_append]
      rw [ih]
theorem pickB_len : ∀ (xs : List V) (bs : List Bool), (pickB xs bs).length ≤ xs.length
  | [], _ => by simp [pickB]
  | _ :: _, [] => by simp [pickB]
  | y :: xs, d :: bs => by
    have := pickB_len xs bs
    unfold pickB
    split
    · simp
      omega
    · simp
      omega
section
variable {σ : L2.St} {H H1 : Hp} {Q : VK} {K : PySem.W.Frag} {D a b : Addr} {wi : TI} {g : TG} {tt : TT} {te : TE} {vs : List Nat} {xs ys : List V} {Qd : Hp → Prop}
theorem lcZ_pick (bs : List Bool) (hb : ys = bs.map V.bl) (nD : H1 D = none) (hn : xs.length ≤ 1000) (hl : xs.length = bs.length) (hx : SqL K H1 a xs) (hy : SqL K H1 b ys)
    (hs : ∀ (i : Nat) (x : V) (c : Bool) (T : Addr) H (Z : VK) (Y : Hp → Prop), xs[i]? = some x → bs[i]? = some c → Same H1 H → H T = none → (c = true → ∀ H4, Same H H4 → Z x H4) → (c = false → ∀ H4, Same H H4 → Y H4) → LcTurn g tt te vs σ (.ref T) (L2.upd H T (.tup [x, .bl c])) Z Y)
    (hd : ∀ H, Same H1 H → H D = some (.lst (pickB xs bs)) → Qd H) :
    ∃ W : Nat → Nat → Hp → Prop, (∃ m, W 0 m (L2.upd H1 D (.lst []))) ∧ ∀ i m H, W i m H →
      ((Itz K a b).stop i H ∧ Qd H) ∨ ((Itz K a b).go i H ∧ ∃ Nx : Hp → Prop, (∀ H', Nx H' → ∃ m', m' < m ∧ W (i + 1) m' H') ∧ ∀ x H', (Itz K a b).yld i H x H' → g x (wipe σ vs) H' fun σ2 H2 => wipe σ2 vs = wipe σ vs ∧ tt σ2 H2 fun b H3 =>
        if b = true then te σ2 H3 fun y H4 => ∃ acc, H4 D = some (.lst acc) ∧ acc.length < sizeLine ∧ Nx (L2.upd H4 D (.lst (acc ++ [y]))) else Nx H3) := by
  subst hb
  let P : Nat → Hp → Prop := fun i H => Same H1 H ∧ H D = some (.lst (pickB (xs.take i) (bs.take i)))
  refine ⟨fun i m H => m = xs.length - i ∧ i ≤ xs.length ∧ P i H, ⟨xs.length, by simp, Nat.zero_le _, Same.new nD, by rw [List.take_zero, List.take_zero]; exact L2.upd_same⟩, ?_⟩
  rintro i m H ⟨rfl, hi, hsame, hD⟩
  by_cases hlt : i < xs.length
  · have hx' : xs[i]? = some xs[i] := List.getElem?_eq_getElem hlt
    have hlt2 : i < bs.length := by omega
    have hy' : bs[i]? = some bs[i] := List.getElem?_eq_getElem hlt2
    have qx : SqL K H a xs := hsame.seq hx
    have qy : SqL K H b (bs.map V.bl) := hsame.seq hy
    have hy'' : (bs.map V.bl)[i]? = some (V.bl bs[i]) := by rw [List.getElem?_map, hy']; rfl
    have hz : (pickB (xs.take i) (bs.take i)).length < sizeLine := sz4' (by
      have := pickB_len (xs.take i) (bs.take i)
      rw [List.length_take] at this
      omega)
    refine .inr ⟨⟨xs, _, _, _, qx, qy, hx', hy''⟩, P (i + 1), fun H' p' => ⟨xs.length - (i + 1), by omega, rfl, hlt, p'⟩, fun v H' y => ?_⟩
    obtain ⟨T, x', y', rfl, hT, rfl, f1, f2⟩ := y
    have e1 := (f1 xs qx).symm.trans hx'
    have e2 := (f2 _ qy).symm.trans hy''
    cases e1
    cases e2
    refine hs i xs[i] bs[i] T H _ _ hx' hy' hsame hT (fun hc H4 h4 => ⟨_, h4 _ _ hD, hz, Same.mut (hsame.trans h4) nD, ?_⟩) (fun hc H4 h4 => ⟨hsame.trans h4, ?_⟩)
    · rw [L2.upd_same, pickB_more hx' hy', if_pos hc]
    · rw [h4 _ _ hD, pickB_more hx' hy', if_neg (by rw [hc]; exact Bool.false_ne_true), List.append_nil]
  · have e : i = xs.length := by omega
    subst e
    refine .inl ⟨⟨xs, _, hsame.seq hx, hsame.seq hy, Or.inl (Nat.le_refl _)⟩, hd H hsame ?_⟩
    rw [hD, List.take_length, hl, List.take_length]
theorem i_izip {ta : TA} {R : It → Hp → Prop} (h : ta σ H fun vs H1 => ∃ a b xs ys, vs = [.ref a, .ref b] ∧ SqL K H1 a xs ∧ SqL K H1 b ys ∧ R (Itz K a b) H1) : iZip K ta σ H R := h
theorem i_izip' {R : Addr → Addr → Prop} (h1 : SqL K H a xs) (h2 : SqL K H b ys) (q : R a b) : ∃ a' b' xs ys, [V.ref a, V.ref b] = [.ref a', .ref b'] ∧ SqL K H a' xs ∧ SqL K H b' ys ∧ R a' b' := ⟨a, b, xs, ys, rfl, h1, h2, q⟩
end
theorem pi_zipK {X : Cx} (K : PySem.W.Frag) (eK : X.K = K) {e e2 : Expr} {ta : TA} {p pos tpos : Pos} {elts : List Expr} {kk : Nat} (hg : Gl X "zip") (hm : X.mg "zip" = none) (ha : PA X [e, e2] ta)
    (hs : starEach [e, e2] X.env = (false, eval e X.env) :: starEach [e2] X.env := by rfl) (hpl : (backTo pos (starEach [e2] X.env)).any (·.1) = false := by rfl) :
    PI X (.Tuple elts kk tpos) (.Call (.Name "zip" p) [e, e2] [] pos) (iZip K ta) := by subst eK; exact pi_zip hg hm ha hs hpl
/-! ### lists of one text -/
theorem shaped_str1 {x : Str} (hx : PyData.strOk x = true) : SeqAt.shaped (.list [PyData.str x]) = true := by
  unfold SeqAt.shaped
  simp [PyData.canLay0, PyData.canLayAll0, PyData.depth, PyData.depthAll, hx]
theorem eqv_str1 (x : Str) : PyData.eqv (.list [PyData.str x]) (.list [PyData.str x]) = true := by simp [PyData.eqv, PyData.eqvAll]
theorem i_neS1 {K : PySem.W.Frag} {H : Hp} {Q : VK} {p r : Addr} {x : Str} (h1 : SqL K H p [.str x]) (h2 : SqL K H r [.str x]) (hx : PyData.strOk x = true) (q : Q (.bl false) H) : rNeD K (.ref p) (.ref r) H Q :=
  ⟨_, _, .lst h1 (.cons (.str x) .nil), .lst h2 (.cons (.str x) .nil), shaped_str1 hx, shaped_str1 hx, by rw [eqv_str1]; exact q⟩
theorem i_neT2 {K : PySem.W.Frag} {H : Hp} {Q : VK} {p r : Addr} {a b c d : Int} (h1 : SqT K H p [.int a, .int b]) (h2 : SqT K H r [.int c, .int d]) (q : Q (.bl (!(a == c && (b == d && true)))) H) : rNeD K (.ref p) (.ref r) H Q :=
  ⟨.tuple [.int a, .int b], .tuple [.int c, .int d], .tup h1 (.cons (.int a) (.cons (.int b) .nil)), .tup h2 (.cons (.int c) (.cons (.int d) .nil)), rfl, rfl, by
    have e : PyData.eqv (.tuple [.int a, .int b]) (.tuple [.int c, .int d]) = (a == c && (b == d && true)) := by simp [PyData.eqv, PyData.eqvAll]
    rw [e]
    exact q⟩
end Hf
/-! ## instances, their fields; dicts whose keys are tuples of ints -/
namespace Hf
open PySem PySem.Spec PyProof.Rows L2
section
variable {σ σ' : L2.St} {H : Hp} {Q : VK} {x y v : V} {i j k : Int} {nx bk ct : L2.St → Hp → Prop} {rt : VK} {K : PySem.W.Frag} {a C dx p d : Addr} {fs : List (Str × V)} {f m : Str} {sp : Sp} {E : XK} {kvs : List (List Key × V)} {r : Option V}
def FldR (K : PySem.W.Frag) (f : Str) (x : V) (H : Hp) (Q : VK) : Prop := ∃ a C dx fs v, x = V.ref a ∧ H a = some (.ins C dx fs) ∧ Cls K C ∧ NoAttr K C f ∧ fs.lookup f = some v ∧ Q v H
theorem i_fld {ta : TE} (h : ta σ H fun x H1 => FldR K f x H1 Q) : tFld K ta f σ H Q := h
theorem i_fldR (h : H a = some (.ins C dx fs)) (c : Cls K C) (n : NoAttr K C f) (l : fs.lookup f = some v) (q : Q v H) : FldR K f (.ref a) H Q := ⟨a, C, dx, fs, v, rfl, h, c, n, l, q⟩
def SetR (K : PySem.W.Frag) (f : Str) (y x : V) (H : Hp) (Z : Hp → Prop) : Prop := ∃ a C dx fs, x = V.ref a ∧ H a = some (.ins C dx fs) ∧ Cls K C ∧ NoAttr K C f ∧ fs.length < 1000 ∧ Z (upd H a (.ins C dx (putF f y fs)))
theorem i_sfld {ta tv : TE} (h : tv σ H fun y H1 => ta σ H1 fun x H2 => SetR K f y x H2 (nx σ)) : sFld K ta tv f ⟨nx, rt, bk, ct⟩ σ H := h
theorem i_setR {Z : Hp → Prop} (h : H a = some (.ins C dx fs)) (c : Cls K C) (n : NoAttr K C f) (l : fs.length < 1000) (q : Z (upd H a (.ins C dx (putF f y fs)))) : SetR K f y (.ref a) H Z := ⟨a, C, dx, fs, rfl, h, c, n, l, q⟩
def MethR (C : Addr) (m : Str) (x : V) (H : Hp) (R : Prop) : Prop := ∃ a dx fs, x = V.ref a ∧ H a = some (.ins C dx fs) ∧ fs.lookup m = none ∧ R
theorem i_meth {ta : TE} {t : TA} (h : ta σ H fun x H1 => MethR C m x H1 (t σ H1 fun vs H2 => sp (x :: vs) H2 Q E)) : tMeth C m sp [] E ta t σ H Q := by
  have e : ∀ x : V, (fun vs H2 => sp (x :: (vs ++ [])) H2 Q E) = fun vs H2 => sp (x :: vs) H2 Q E := fun x => by
    funext vs H2
    rw [List.append_nil]
  show ta σ H (fun x H1 => ∃ a dx fs, x = .ref a ∧ H1 a = some (.ins C dx fs) ∧ fs.lookup m = none ∧ t σ H1 fun vs H2 => sp (x :: (vs ++ [])) H2 Q E)
  simp only [e]
  exact h
theorem i_methR {R : Prop} (h : H a = some (.ins C dx fs)) (l : fs.lookup m = none) (q : R) : MethR C m (.ref a) H R := ⟨a, dx, fs, rfl, h, l, q⟩
theorem i_make0 (h : ∀ x dx, H x = none → H dx = none → dx ≠ x → sp [.ref x] (upd (upd H dx (.own x)) x (.ins C dx [])) (fun v H2 => v = .non ∧ Q (.ref x) H2) E) : tMake C sp [] E tNil σ H Q := h
/-! ### dicts by tuples -/
def DgR (y x : V) (H : Hp) (R : Option V → Prop) : Prop := ∃ a o, x = V.ref a ∧ DGet H a y o ∧ R o
theorem i_dnotin {td ty : TE} (h : ty σ H fun y H1 => td σ H1 fun x H2 => DgR y x H2 fun o => Q (.bl (!o.isSome)) H2) : tDNotIn ty td σ H Q := h
theorem i_din {td ty : TE} (h : ty σ H fun y H1 => td σ H1 fun x H2 => DgR y x H2 fun o => Q (.bl o.isSome) H2) : tDIn ty td σ H Q := h
theorem i_dg3 {R : Option V → Prop} (h : H a = some (.dT kvs)) (e : H p = some (.tup [.int i, .int j, .int k])) (q : R (valV kvs [.inl i, .inl j, .inl k])) : DgR (.ref p) (.ref a) H R := ⟨a, _, rfl, DGet.t (k := [.inl i, .inl j, .inl k]) h e, q⟩
theorem i_dg2 {R : Option V → Prop} (h : H a = some (.dT kvs)) (e : H p = some (.tup [.int i, .int j])) (q : R (valV kvs [.inl i, .inl j])) : DgR (.ref p) (.ref a) H R := ⟨a, _, rfl, DGet.t (k := [.inl i, .inl j]) h e, q⟩
def DvR (x y : V) (H : Hp) (Q : VK) : Prop := ∃ a v, x = V.ref a ∧ DGet H a y (some v) ∧ Q v H
theorem i_dget {td ty : TE} (h : td σ H fun x H1 => ty σ H1 fun y H2 => DvR x y H2 Q) : tDGet td ty σ H Q := h
theorem i_dv3 (h : H a = some (.dT kvs)) (e : H p = some (.tup [.int i, .int j, .int k])) (l : valV kvs [.inl i, .inl j, .inl k] = some v) (q : Q v H) : DvR (.ref a) (.ref p) H Q := ⟨a, v, rfl, l ▸ DGet.t (k := [.inl i, .inl j, .inl k]) h e, q⟩
theorem i_dv2 (h : H a = some (.dT kvs)) (e : H p = some (.tup [.int i, .int j])) (l : valV kvs [.inl i, .inl j] = some v) (q : Q v H) : DvR (.ref a) (.ref p) H Q := ⟨a, v, rfl, l ▸ DGet.t (k := [.inl i, .inl j]) h e, q⟩
def DpR (v x y : V) (H : Hp) (Z : Hp → Prop) : Prop := ∃ a H4, x = V.ref a ∧ DPut H a y v H4 ∧ Z H4
theorem i_dput {td ty tv : TE} (h : tv σ H fun v H1 => td σ H1 fun x H2 => ty σ H2 fun y H3 => DpR v x y H3 (nx σ)) : sDPut td ty tv ⟨nx, rt, bk, ct⟩ σ H := h
theorem i_dp3 {Z : Hp → Prop} (h : H a = some (.dT kvs)) (e : H p = some (.tup [.int i, .int j, .int k])) (hz : kvs.length ≤ 1000000) (q : Z (upd H a (.dT (putK kvs [.inl i, .inl j, .inl k] v)))) : DpR v (.ref a) (.ref p) H Z := ⟨a, _, rfl, DPut.t (k := [.inl i, .inl j, .inl k]) h e (sz4' hz), q⟩
theorem i_dp2 {Z : Hp → Prop} (h : H a = some (.dT kvs)) (e : H p = some (.tup [.int i, .int j])) (hz : kvs.length ≤ 1000000) (q : Z (upd H a (.dT (putK kvs [.inl i, .inl j] v)))) : DpR v (.ref a) (.ref p) H Z := ⟨a, _, rfl, DPut.t (k := [.inl i, .inl j]) h e (sz4' hz), q⟩
theorem i_dnewT (h : ∀ p, H p = none → Q (.ref p) (upd H p (.dT []))) : tDNewT σ H Q := h
/-! ### list(range(..)) -/
theorem i_lstRg {te : L2.St → Hp → (Int → Int → Hp → Prop) → Prop} (h : te σ H fun a b H1 => RgOk a b ∧ ∀ q, H1 q = none → Q (.ref q) (upd H1 q (.lst (rgV a b)))) : tLstRg te σ H Q := h
theorem i_rg1 {ta : TE} {R : Int → Int → Hp → Prop} (h : ta σ H fun x H1 => ∃ n, x = .int n ∧ R 0 n H1) : tRg1 ta σ H R := h
theorem i_rg2 {ta tb : TE} {R : Int → Int → Hp → Prop} (h : ta σ H fun x H1 => tb σ H1 fun y H2 => ∃ i j, x = .int i ∧ y = .int j ∧ R i j H2) : tRg2 ta tb σ H R := h
theorem i_rg2' {R : Int → Int → Prop} (q : R i j) : ∃ i' j', V.int i = .int i' ∧ V.int j = .int j' ∧ R i' j' := ⟨i, j, rfl, rfl, q⟩
theorem i_rg1' {R : Int → Prop} (q : R i) : ∃ i', V.int i = .int i' ∧ R i' := ⟨i, rfl, q⟩
theorem i_rgok {R : Addr → Prop} (h0 : 0 ≤ i) (h1 : j ≤ 16777216) (h2 : i ≤ 16777216) (h3 : 0 ≤ j) (q : ∀ q, H q = none → R q) : RgOk i j ∧ ∀ q, H q = none → R q := ⟨.of_le h0 h1 h2 h3, q⟩
end
theorem rg_ints (a b : Int) : rgV a b = ((List.range (b - a).toNat).map fun i : Nat => a + (i : Int)).map V.int := by
  unfold rgV
  rw [List.map_map]
  rfl
theorem But.mut {a : Addr} {H H1 : Hp} {D : Addr} {o : HO} (hp : H D = none) (x : But a H H1) : But a H (L2.upd H1 D o) := fun b u n h => by
  rw [upd_ne (ne_of_none h hp)]
  exact x b u n h
theorem But.mutS {a : Addr} {H H1 H2 : Hp} {D : Addr} (y : But D H1 H2) (hp : H D = none) (x : But a H H1) : But a H H2 := fun b u n h => y b u (ne_of_none h hp) (x b u n h)
end Hf
/-! ## Dat -/
namespace Hf
open PySem PySem.Spec PyProof.Rows L2
/-! ### nested data, each list and tuple tracked -/
mutual
inductive Dq (H : Hp) : V → PyData → Prop
  | non : Dq H .non .none
  | bl (b : Bool) : Dq H (.bl b) (.bool b)
  | int (i : Int) : Dq H (.int i) (.int i)
  | str (x : Str) : Dq H (.str x) (.str x)
  | lst {a : Addr} {xs : List V} {ds : List PyData} : H a = some (.lst xs) → DqAll H xs ds → Dq H (.ref a) (.list ds)
  | tup {a : Addr} {xs : List V} {ds : List PyData} : H a = some (.tup xs) → DqAll H xs ds → Dq H (.ref a) (.tuple ds)
inductive DqAll (H : Hp) : List V → List PyData → Prop
  | nil : DqAll H [] []
  | cons {v : V} {vs : List V} {d : PyData} {ds : List PyData} : Dq H v d → DqAll H vs ds → DqAll H (v :: vs) (d :: ds)
end
mutual
theorem Dq.same {H H' : Hp} (s : Same H H') : ∀ {v : V} {d : PyData}, Dq H v d → Dq H' v d
  | _, _, .non => .non
  | _, _, .bl b => .bl b
  | _, _, .int i => .int i
  | _, _, .str x => .str x
  | _, _, .lst h q => .lst (s _ _ h) (DqAll.same s q)
  | _, _, .tup h q => .tup (s _ _ h) (DqAll.same s q)
theorem DqAll.same {H H' : Hp} (s : Same H H') : ∀ {vs : List V} {ds : List PyData}, DqAll H vs ds → DqAll H' vs ds
  | _, _, .nil => .nil
  | _, _, .cons h q => .cons (Dq.same s h) (DqAll.same s q)
end
mutual
theorem Dq.dp {K : PySem.W.Frag} {H : Hp} : ∀ {v : V} {d : PyData}, Dq H v d → Dp K H v d
  | _, _, .non => .non
  | _, _, .bl b => .bl b
  | _, _, .int i => .int i
  | _, _, .str x => .str x
  | _, _, .lst h q => .lst (SqL.of h) (DqAll.dp q)
  | _, _, .tup h q => .tup (SqT.of h) (DqAll.dp q)
theorem DqAll.dp {K : PySem.W.Frag} {H : Hp} : ∀ {vs : List V} {ds : List PyData}, DqAll H vs ds → DpAll K H vs ds
  | _, _, .nil => .nil
  | _, _, .cons h q => .cons (Dq.dp h) (DqAll.dp q)
end
mutual
theorem Dq.eqv {H : Hp} : ∀ {v : V} {d : PyData}, Dq H v d → PyData.eqv d d = true
  | _, _, .non => by simp [PyData.eqv]
  | _, _, .bl b => by simp [PyData.eqv]
  | _, _, .int i => by simp [PyData.eqv]
  | _, _, .str x => by simp [PyData.eqv]
  | _, _, .lst _ q => by rw [PyData.eqv]; exact DqAll.eqv q
  | _, _, .tup _ q => by rw [PyData.eqv]; exact DqAll.eqv q
theorem DqAll.eqv {H : Hp} : ∀ {vs : List V} {ds : List PyData}, DqAll H vs ds → PyData.eqvAll ds ds = true
  | _, _, .nil => by simp [PyData.eqvAll]
  | _, _, .cons h q => by rw [PyData.eqvAll, Dq.eqv h, DqAll.eqv q]; rfl
end
section
variable {H : Hp} {v : V} {vs : List V} {ds : List PyData} {i : Int} {x : Str}
theorem Dq.list_inv (h : Dq H v (.list ds)) : ∃ a xs, v = .ref a ∧ H a = some (.lst xs) ∧ DqAll H xs ds := by
  cases h with
  | lst h q => exact ⟨_, _, rfl, h, q⟩
theorem Dq.tuple_inv (h : Dq H v (.tuple ds)) : ∃ a xs, v = .ref a ∧ H a = some (.tup xs) ∧ DqAll H xs ds := by
  cases h with
  | tup h q => exact ⟨_, _, rfl, h, q⟩
theorem Dq.int_inv (h : Dq H v (.int i)) : v = .int i := by
  cases h
  rfl
theorem Dq.str_inv (h : Dq H v (.str x)) : v = .str x := by
  cases h
  rfl
theorem DqAll.len : ∀ {vs : List V} {ds : List PyData}, DqAll H vs ds → vs.length = ds.length
  | _, _, .nil => rfl
  | _, _, .cons _ q => by rw [List.length_cons, List.length_cons, DqAll.len q]
theorem DqAll.get : ∀ {vs : List V} {ds : List PyData}, DqAll H vs ds → ∀ {k : Nat} {d : PyData}, ds[k]? = some d → ∃ w, vs[k]? = some w ∧ Dq H w d
  | _, _, .nil, k, d, h => by simp at h
  | _, _, .cons h _, 0, d, e => by
    rw [List.getElem?_cons_zero] at e
    cases e
    exact ⟨_, rfl, h⟩
  | _, _, .cons _ q, k + 1, d, e => by
    rw [List.getElem?_cons_succ] at e
    obtain ⟨w, h1, h2⟩ := DqAll.get q e
    exact ⟨w, by rw [List.getElem?_cons_succ]; exact h1, h2⟩
theorem DqAll.get' : ∀ {vs : List V} {ds : List PyData}, DqAll H vs ds → ∀ {k : Nat} {w : V}, vs[k]? = some w → ∃ d, ds[k]? = some d ∧ Dq H w d
  | _, _, .nil, k, d, h => by simp at h
  | _, _, .cons h _, 0, d, e => by
    rw [List.getElem?_cons_zero] at e
    cases e
    exact ⟨_, rfl, h⟩
  | _, _, .cons _ q, k + 1, d, e => by
    rw [List.getElem?_cons_succ] at e
    obtain ⟨w, h1, h2⟩ := DqAll.get' q e
    exact ⟨w, by rw [List.getElem?_cons_succ]; exact h1, h2⟩
theorem dq_ints : ∀ ms : List Int, DqAll H (ms.map V.int) (ms.map PyData.int)
  | [] => .nil
  | m :: ms => .cons (.int m) (dq_ints ms)
theorem DqAll.ints : ∀ {vs : List V} {ms : List Int}, DqAll H vs (ms.map PyData.int) → vs = ms.map V.int
  | _, [], h => by cases h; rfl
  | _, m :: ms, h => by
    cases h with
    | cons h q =>
      rw [Dq.int_inv h, DqAll.ints q]
      rfl
theorem DqAll.snoc : ∀ {vs : List V} {ds : List PyData} {w : V} {d : PyData}, DqAll H vs ds → Dq H w d → DqAll H (vs ++ [w]) (ds ++ [d])
  | _, _, _, _, .nil, h => .cons h .nil
  | _, _, _, _, .cons h q, g => .cons h (DqAll.snoc q g)
end
/-- == of nested data -/
theorem i_eqDq {K : PySem.W.Frag} {H : Hp} {Q : VK} {v w : V} {d e : PyData} (h1 : Dq H v d) (h2 : Dq H w e) (s1 : SeqAt.shaped d = true) (s2 : SeqAt.shaped e = true) (q : Q (.bl (PyData.eqv d e)) H) : rEqD K v w H Q := ⟨d, e, h1.dp, h2.dp, s1, s2, q⟩
theorem i_neDq {K : PySem.W.Frag} {H : Hp} {Q : VK} {v w : V} {d : PyData} (h1 : Dq H v d) (h2 : Dq H w d) (s1 : SeqAt.shaped d = true) (q : Q (.bl false) H) : rNeD K v w H Q := ⟨d, d, h1.dp, h2.dp, s1, s1, by
  rw [h1.eqv]
  exact q⟩

/-! ### a heap without some of its objects -/
def hid (S : List Addr) (H : Hp) : Hp := fun b => if b ∈ S then none else H b
section
variable {S : List Addr} {H H' : Hp} {a b : Addr} {o : HO}
theorem hid_in (h : a ∈ S) : hid S H a = none := if_pos h
theorem hid_out (h : a ∉ S) : hid S H a = H a := if_neg h
theorem hid_same : Same (hid S H) H := fun b o h => by
  by_cases c : b ∈ S
  · rw [hid_in c] at h
    cases h
  · rw [hid_out c] at h
    exact h
theorem hid_mono (s : Same H H') : Same (hid S H) (hid S H') := fun b o h => by
  by_cases c : b ∈ S
  · rw [hid_in c] at h
    cases h
  · rw [hid_out c] at h ⊢
    exact s b o h
theorem hid_but (ha : a ∈ S) (s : But a H H') : Same (hid S H) (hid S H') := fun b o h => by
  by_cases c : b ∈ S
  · rw [hid_in c] at h
    cases h
  · rw [hid_out c] at h ⊢
    exact s b o (fun e => c (e ▸ ha)) h
theorem hid_upd (ha : a ∈ S) : Same (hid S H) (hid S (upd H a o)) := hid_but ha (But.upd (But.refl _ _))
theorem hid_lk (h : a ∉ S) (e : H a = some o) : hid S H a = some o := by
  rw [hid_out h]
  exact e
theorem not_in2 {a b c : Addr} (h1 : a ≠ b) (h2 : a ≠ c) : a ∉ [b, c] := by
  intro h
  rcases List.mem_cons.mp h with g | g
  · exact h1 g
  · exact h2 (List.mem_singleton.mp g)
theorem not_in1 {a b : Addr} (h1 : a ≠ b) : a ∉ [b] := fun h => h1 (List.mem_singleton.mp h)
end
theorem rng_map {α β : Type} (f : Nat → β) (g : α → β) (m : List α) (h : ∀ (i : Nat) (x : α), m[i]? = some x → f i = g x) : (List.range m.length).map f = m.map g := by
  apply List.ext_getElem?
  intro i
  rw [List.getElem?_map, List.getElem?_map]
  by_cases c : i < m.length
  · rw [List.getElem?_range c, List.getElem?_eq_getElem c]
    show some (f i) = some (g m[i])
    rw [h i _ (List.getElem?_eq_getElem c)]
  · rw [List.getElem?_eq_none (by rw [List.length_range]; omega), List.getElem?_eq_none (by omega)]
    rfl
theorem take_snoc {α : Type} {m : List α} {i : Nat} {x : α} (h : m[i]? = some x) : m.take (i + 1) = m.take i ++ [x] := by
  rw [List.take_add_one, h]
  rfl
theorem same_hid1 {G H : Hp} {a : Addr} (s : Same G H) (h1 : G a = none) : Same G (hid [a] H) := fun b o e => by
  rw [hid_out (not_in1 (ne_of_none e h1))]
  exact s b o e
theorem same_hid2 {G H : Hp} {a c : Addr} (s : Same G H) (h1 : G a = none) (h2 : G c = none) : Same G (hid [a, c] H) := fun b o e => by
  rw [hid_out (not_in2 (ne_of_none e h1) (ne_of_none e h2))]
  exact s b o e
theorem But.mutD {a : Addr} {H H1 : Hp} {D : Addr} {o : HO} (hp : H D = none) (x : But a H H1) : But a H (L2.upd H1 D o) := fun b u n h => by
  rw [upd_ne (ne_of_none h hp)]
  exact x b u n h
theorem But.mutSD {a : Addr} {H H1 H2 : Hp} {D : Addr} (y : But D H1 H2) (hp : H D = none) (x : But a H H1) : But a H H2 := fun b u n h => y b u (ne_of_none h hp) (x b u n h)
theorem DqAll.reverse {H : Hp} : ∀ {vs : List V} {ds : List PyData}, DqAll H vs ds → DqAll H vs.reverse ds.reverse
  | _, _, .nil => .nil
  | _, _, .cons h q => by
    rw [List.reverse_cons, List.reverse_cons]
    exact DqAll.snoc (DqAll.reverse q) h
theorem i_reverseV {H : Hp} {p : Addr} {xs : List V} {Q : VK} (h : H p = some (.lst xs)) (q : Q .non (upd H p (.lst xs.reverse))) : rReverse (.ref p) [] H Q := ⟨p, _, rfl, rfl, h, q⟩
theorem i_revV {K : PySem.W.Frag} {xs : List V} {p : Addr} {H : Hp} {R : Addr → List V → Prop} (h : SqL K H p xs) (q : R p xs) : ∃ a xs, V.ref p = .ref a ∧ SqL K H a xs ∧ R a xs := ⟨p, _, rfl, h, q⟩
theorem i_neL2 {K : PySem.W.Frag} {H : Hp} {Q : VK} {p r : Addr} {ms : List Int} {x y : Int} (h1 : SqL K H p (ms.map V.int)) (h2 : SqL K H r [.int x, .int y]) (q : Q (.bl (!decide (ms = [x, y]))) H) : rNeD K (.ref p) (.ref r) H Q := i_neLI (ns := [x, y]) h1 h2 q
theorem pe_revLK {X : L2.Cx} (K : PySem.W.Frag) (eK : X.K = K) {e : Expr} {te : TE} {k : Nat} {p1 p2 p3 pos : Pos} (he : PE X e te) : PE X (.Subscript e (.Slice none none (some (.UnaryOp .USub (.Constant (.int 1) k p1) p2)) p3) pos) (tRevL K te) := by
  subst eK
  exact pe_revL he
theorem i_rev {K : PySem.W.Frag} {te : TE} {σ : L2.St} {H : Hp} {Q : VK} (h : te σ H fun x H1 => ∃ a xs, x = .ref a ∧ SqL K H1 a xs ∧ ∀ p, H1 p = none → Q (.ref p) (upd H1 p (.lst xs.reverse))) : tRevL K te σ H Q := h
theorem i_rev' {K : PySem.W.Frag} {ms : List Int} {p : Addr} {H : Hp} {R : Addr → List V → Prop} (h : SqL K H p (ms.map V.int)) (q : R p (ms.map V.int)) : ∃ a xs, V.ref p = .ref a ∧ SqL K H a xs ∧ R a xs := ⟨p, _, rfl, h, q⟩
theorem DqAll.take {H : Hp} : ∀ (n : Nat) {vs : List V} {ds : List PyData}, DqAll H vs ds → DqAll H (vs.take n) (ds.take n)
  | 0, _, _, _ => .nil
  | _ + 1, _, _, .nil => .nil
  | n + 1, _, _, .cons h q => .cons h (DqAll.take n q)
theorem DqAll.drop {H : Hp} : ∀ (n : Nat) {vs : List V} {ds : List PyData}, DqAll H vs ds → DqAll H (vs.drop n) (ds.drop n)
  | 0, _, _, q => q
  | _ + 1, _, _, .nil => .nil
  | n + 1, _, _, .cons _ q => DqAll.drop n q
end Hf
/-! ## Mixes -/
namespace Hf
open PySem PySem.Spec PyProof.Rows L2
/-! ### mixes -/
def planD (p : List Int) : PyData := .list (p.map PyData.int)
def partD (pw : List Int × Int) : PyData := .tuple [planD pw.1, .int pw.2]
def mixD (m : List (List Int × Int)) : PyData := .list (m.map partD)
/-- a plan of so many hosts and fields -/
def PlanC (h : Int) (n : Nat) (p : List Int) : Prop := p.length = n ∧ p.sum = h ∧ ∀ x ∈ p, 0 ≤ x
structure MixOk (h : Int) (n : Nat) (m : List (List Int × Int)) : Prop where
  ne : 1 ≤ m.length ∧ m.length ≤ 100
  fl : 1 ≤ n ∧ n ≤ 8
  ho : 0 ≤ h ∧ h ≤ 40
  pl : ∀ pw ∈ m, PlanC h n pw.1 ∧ 1 ≤ pw.2
section
variable {H : Hp} {v : V} {m : List (List Int × Int)} {xs : List V}
/-- a part: its tuple, its plan's list -/
theorem part_inv {pw : List Int × Int} (h : Dq H v (partD pw)) : ∃ t p, v = .ref t ∧ H t = some (.tup [.ref p, .int pw.2]) ∧ H p = some (.lst (pw.1.map V.int)) := by
  obtain ⟨t, xs, rfl, h1, h2⟩ := h.tuple_inv
  cases h2 with
  | cons a b =>
    cases b with
    | cons c d =>
      cases d
      obtain ⟨p, ys, rfl, h3, h4⟩ := Dq.list_inv a
      obtain rfl := Dq.int_inv c
      obtain rfl := DqAll.ints h4
      exact ⟨t, p, rfl, h1, h3⟩
theorem mix_inv (h : Dq H v (mixD m)) : ∃ a xs, v = .ref a ∧ H a = some (.lst xs) ∧ xs.length = m.length ∧ ∀ (k : Nat) (w : V), xs[k]? = some w → ∃ pw t p, m[k]? = some pw ∧ w = .ref t ∧ H t = some (.tup [.ref p, .int pw.2]) ∧ H p = some (.lst (pw.1.map V.int)) := by
  obtain ⟨a, xs, rfl, h1, h2⟩ := h.list_inv
  refine ⟨a, xs, rfl, h1, by rw [h2.len, List.length_map], fun k w hw => ?_⟩
  obtain ⟨d, e, q⟩ := h2.get' hw
  rw [List.getElem?_map] at e
  cases g : m[k]? with
  | none => rw [g] at e; cases e
  | some pw =>
    rw [g] at e
    cases e
    obtain ⟨t, p, e1, e2, e3⟩ := part_inv q
    exact ⟨pw, t, p, rfl, e1, e2, e3⟩
end
theorem shaped_mix (m : List (List Int × Int)) : SeqAt.shaped (mixD m) = true := by
  have h1 : ∀ m : List (List Int × Int), PyData.canLayAll0 (m.map partD) = true := by
    intro m
    induction m with
    | nil => simp [PyData.canLayAll0]
    | cons pw m ih =>
      rw [List.map_cons, PyData.canLayAll0, ih]
      simp [partD, planD, PyData.canLay0, PyData.canLayAll0, canLay_ints]
  have h2 : ∀ m : List (List Int × Int), PyData.depthAll (m.map partD) ≤ 3 := by
    intro m
    induction m with
    | nil => simp [PyData.depthAll]
    | cons pw m ih =>
      have := depth_ints pw.1
      rw [List.map_cons, PyData.depthAll]
      simp [partD, planD, PyData.depth, PyData.depthAll]
      omega
  unfold SeqAt.shaped
  have a := h1 m
  have b := h2 m
  simp [mixD, PyData.canLay0, PyData.depth, a]
  omega

theorem dq_mix {G H : Hp} {a : Addr} {xs : List V} {m : List (List Int × Int)} (q : DqAll G xs (m.map partD)) (h : H a = some (.lst xs)) (s : Same G H) : Dq H (.ref a) (mixD m) := .lst h (DqAll.same s q)
theorem part_mk {H : Hp} {t p : Addr} {ms : List Int} {w : Int} (h1 : H t = some (.tup [.ref p, .int w])) (h2 : H p = some (.lst (ms.map V.int))) : Dq H (.ref t) (partD (ms, w)) := .tup h1 (.cons (.lst h2 (dq_ints ms)) (.cons (.int w) .nil))
/-- a part of a mix, by its place -/
theorem part_at {G : Hp} {xs : List V} {m : List (List Int × Int)} (q : DqAll G xs (m.map partD)) {k : Nat} {w : V} (hw : xs[k]? = some w) : ∃ pw t p, m[k]? = some pw ∧ w = .ref t ∧ G t = some (.tup [.ref p, .int pw.2]) ∧ G p = some (.lst (pw.1.map V.int)) := by
  obtain ⟨d, e, q⟩ := q.get' hw
  rw [List.getElem?_map] at e
  cases g : m[k]? with
  | none => rw [g] at e; cases e
  | some pw =>
    rw [g] at e
    cases e
    obtain ⟨t, p, e1, e2, e3⟩ := part_inv q
    exact ⟨pw, t, p, rfl, e1, e2, e3⟩
def whole (m : List (List Int × Int)) : Int := (m.map Prod.snd).sum
def due : List (List Int × Int) → Int → List Int
  | [], _ => []
  | pw :: r, k => if k < pw.2 then pw.1 else due r (k - pw.2)
theorem whole_cons {pw : List Int × Int} {r : List (List Int × Int)} : whole (pw :: r) = pw.2 + whole r := by
  unfold whole
  rw [List.map_cons, List.sum_cons]
theorem whole_app {m r : List (List Int × Int)} : whole (m ++ r) = whole m + whole r := by
  unfold whole
  rw [List.map_append, List.sum_append]
theorem drop_get {α : Type} {m : List α} {i : Nat} {x : α} (h : m[i]? = some x) : m.drop i = x :: m.drop (i + 1) := by
  obtain ⟨hi, rfl⟩ := List.getElem?_eq_some_iff.mp h
  exact List.drop_eq_getElem_cons hi
theorem MixOk.len (h n) {m} (k : MixOk h n m) : 1 ≤ m.length := k.ne.1
theorem MixOk.whole_pos {h n m} (k : MixOk h n m) : (m.length : Int) ≤ whole m := by
  have : ∀ r : List (List Int × Int), (∀ pw ∈ r, 1 ≤ pw.2) → (r.length : Int) ≤ whole r := by
    intro r
    induction r with
    | nil => intro _; exact Int.le_refl _
    | cons pw r ih =>
      intro g
      have := ih fun x hx => g x (List.mem_cons_of_mem _ hx)
      have := g pw (List.mem_cons_self)
      rw [whole_cons, List.length_cons]
      omega
  exact this m fun pw hp => (k.pl pw hp).2
/-- weights of a drawn mix -/
def WtOk (m : List (List Int × Int)) : Prop := m.length ≤ 20 ∧ ∀ pw ∈ m, pw.2 ≤ 10000000000000000000000000000
theorem WtOk.le {m} (k : WtOk m) : whole m ≤ 200000000000000000000000000000 := by
  have : ∀ r : List (List Int × Int), (∀ pw ∈ r, pw.2 ≤ 10000000000000000000000000000) → whole r ≤ 10000000000000000000000000000 * (r.length : Int) := by
    intro r
    induction r with
    | nil => intro _; exact Int.le_refl _
    | cons pw r ih =>
      intro g
      have := ih fun x hx => g x (List.mem_cons_of_mem _ hx)
      have := g pw (List.mem_cons_self)
      rw [whole_cons, List.length_cons]
      omega
  have h1 := this m k.2
  have h2 := k.1
  omega
theorem whole_nn : ∀ r : List (List Int × Int), (∀ pw ∈ r, 1 ≤ pw.2) → 0 ≤ whole r := by
  intro r
  induction r with
  | nil => intro _; exact Int.le_refl _
  | cons pw r ih =>
    intro g
    have := ih fun x hx => g x (List.mem_cons_of_mem _ hx)
    have := g pw (List.mem_cons_self)
    rw [whole_cons]
    omega
theorem MixOk.at {h : Int} {n : Nat} {m : List (List Int × Int)} {i : Nat} {pw : List Int × Int} (k : MixOk h n m) (e : m[i]? = some pw) : 0 ≤ whole (m.take i) ∧ 1 ≤ pw.2 ∧ whole (m.take (i + 1)) = whole (m.take i) + pw.2 ∧ whole (m.take i) + pw.2 ≤ whole m := by
  have h1 := whole_nn (m.take i) fun x hx => (k.pl x (List.mem_of_mem_take hx)).2
  have h2 := whole_nn (m.drop (i + 1)) fun x hx => (k.pl x (List.mem_of_mem_drop hx)).2
  have h3 : whole m = whole (m.take i) + whole (m.drop i) := by rw [← whole_app, List.take_append_drop]
  rw [drop_get e, whole_cons] at h3
  have h4 := (k.pl pw (List.mem_of_getElem? e)).2
  refine ⟨h1, h4, ?_, by omega⟩
  rw [take_snoc e, whole_app]
  simp [whole]
theorem MixOk.reverse {h : Int} {n : Nat} {m : List (List Int × Int)} (k : MixOk h n m) : MixOk h n m.reverse := ⟨by rw [List.length_reverse]; exact k.ne, k.fl, k.ho, fun pw hp => k.pl pw (List.mem_reverse.mp hp)⟩
theorem whole_reverse (m : List (List Int × Int)) : whole m.reverse = whole m := by
  induction m with
  | nil => rfl
  | cons pw m ih =>
    rw [List.reverse_cons, whole_app, whole_cons, ih]
    simp [whole]
    omega
theorem due_last : ∀ (m : List (List Int × Int)) {p : List Int} {w z : Int}, (∀ pw ∈ m, 1 ≤ pw.2) → whole m ≤ z → z < whole m + w → due (m ++ [(p, w)]) z = p
  | [], p, w, z, _, h1, h2 => by
    simp [whole] at h1 h2
    show due [(p, w)] z = p
    rw [due, if_pos h2]
  | pw :: m, p, w, z, h0, h1, h2 => by
    rw [whole_cons] at h1 h2
    have := whole_nn m fun x hx => h0 x (List.mem_cons_of_mem _ hx)
    show due (pw :: (m ++ [(p, w)])) z = p
    rw [due, if_neg (by omega)]
    exact due_last m (fun x hx => h0 x (List.mem_cons_of_mem _ hx)) (by omega) (by omega)
theorem DqAll.revm {H : Hp} {vs : List V} {m : List (List Int × Int)} (q : DqAll H vs (m.map partD)) : DqAll H vs.reverse (m.reverse.map partD) := by
  rw [List.map_reverse]
  exact q.reverse
theorem dq_two {H : Hp} {a t1 t2 p1 p2 : Addr} {w1 w2 x1 y1 x2 y2 : Int} (h : H a = some (.lst [.ref t1, .ref t2])) (h1 : H t1 = some (.tup [.ref p1, .int w1])) (h2 : H t2 = some (.tup [.ref p2, .int w2])) (h3 : H p1 = some (.lst [.int x1, .int y1])) (h4 : H p2 = some (.lst [.int x2, .int y2])) : Dq H (.ref a) (mixD [([x1, y1], w1), ([x2, y2], w2)]) :=
  .lst h (.cons (part_mk h1 h3) (.cons (part_mk h2 h4) .nil))
theorem MixOk.snoc {h : Int} {n : Nat} {m : List (List Int × Int)} {p : List Int} {w : Int} (k : MixOk h n m) (hp : PlanC h n p) (hw : 1 ≤ w) (hl : m.length ≤ 50) : MixOk h n (m ++ [(p, w)]) := ⟨by simp; omega, k.fl, k.ho, fun pw hpw => by
  rcases List.mem_append.mp hpw with g | g
  · exact k.pl pw g
  · rw [List.mem_singleton.mp g]
    exact ⟨hp, hw⟩⟩
theorem due_len {k : Nat} : ∀ (m : List (List Int × Int)) (z : Int), (∀ pw ∈ m, pw.1.length ≤ k) → (due m z).length ≤ k
  | [], _, _ => Nat.zero_le _
  | pw :: m, z, h => by
    rw [due]
    split
    · exact h pw (List.mem_cons_self)
    · exact due_len m _ fun x hx => h x (List.mem_cons_of_mem _ hx)
theorem MixOk.due_len {h : Int} {n : Nat} {m : List (List Int × Int)} (k : MixOk h n m) (z : Int) : (due m z).length ≤ 8 := Hf.due_len m z fun pw hp => by
  have := (k.pl pw hp).1.1
  have := k.fl.2
  omega
end Hf
/-! ## what is new -/
namespace Hf
open PySem PySem.Spec PyProof.Rows L2
/-! ### what is new -/
/-- what stands in G does not stand in H -/
def Newly (H G : Hp) : Prop := ∀ b o, H b = some o → G b = none
/-- what stands in H' and not in H, but for S -/
def fr (S : List Addr) (H H' : Hp) : Hp := fun b => if b ∈ S then none else match H b with
  | none => H' b
  | some _ => none
section
variable {S : List Addr} {H H' H1 H2 G : Hp} {a p : Addr} {o u : HO}
theorem fr_same : Same (fr S H H') H' := fun b o h => by
  unfold fr at h
  split at h
  · cases h
  · split at h
    · exact h
    · cases h
theorem fr_newly : Newly H (fr S H H') := fun b o h => by
  unfold fr
  split
  · rfl
  · rw [h]
theorem fr_in (h : a ∈ S) : fr S H H' a = none := if_pos h
theorem fr_lk (n : a ∉ S) (h : H a = none) (e : H' a = some o) : fr S H H' a = some o := by
  unfold fr
  rw [if_neg n, h]
  exact e
theorem fr_lk0 (h : H a = none) (e : H' a = some o) : fr [] H H' a = some o := fr_lk (by simp) h e
theorem fr_lk1 (n : a ≠ p) (h : H a = none) (e : H' a = some o) : fr [p] H H' a = some o := fr_lk (not_in1 n) h e
theorem fr_lk2 {q : Addr} (n : a ≠ p) (m : a ≠ q) (h : H a = none) (e : H' a = some o) : fr [p, q] H H' a = some o := fr_lk (not_in2 n m) h e
theorem fr_mono (s : Same H1 H2) : Same (fr S H H1) (fr S H H2) := fun b o h => by
  unfold fr at h ⊢
  split
  · next c => rw [if_pos c] at h; cases h
  · next c =>
    rw [if_neg c] at h
    split
    · next c2 => rw [c2] at h; exact s _ _ h
    · next c2 => rw [c2] at h; cases h
theorem fr_sub : Same (fr S H H') (fr [] H H') := fun b o h => by
  unfold fr at h ⊢
  split at h
  · cases h
  · rw [if_neg (by simp)]
    exact h
theorem fr_but (ha : a ∈ S) (s : But a H1 H2) : Same (fr S H H1) (fr S H H2) := fun b o h => by
  unfold fr at h ⊢
  split
  · next c => rw [if_pos c] at h; cases h
  · next c =>
    rw [if_neg c] at h
    split
    · next c2 => rw [c2] at h; exact s _ _ (fun e => c (e ▸ ha)) h
    · next c2 => rw [c2] at h; cases h
theorem fr_butK (ha : H a = some o) (s : But a H1 H2) : Same (fr S H H1) (fr S H H2) := fun b u h => by
  unfold fr at h ⊢
  split
  · next c => rw [if_pos c] at h; cases h
  · next c =>
    rw [if_neg c] at h
    split
    · next c2 => rw [c2] at h; exact s _ _ (fun e => by rw [e, ha] at c2; cases c2) h
    · next c2 => rw [c2] at h; cases h
theorem fr_upd (ha : a ∈ S) : Same (fr S H H1) (fr S H (upd H1 a o)) := fr_but ha (But.upd (But.refl _ _))
/-- all of G is new, and in H' -/
theorem Newly.same (n : Newly H G) (s : Same G H') : Same G (fr [] H H') := fun b o h => by
  refine fr_lk0 ?_ (s _ _ h)
  cases e : H b with
  | none => rfl
  | some u => rw [n b u e] at h; cases h
theorem Newly.same1 (n : Newly H G) (s : Same G H') (hp : G p = none) : Same G (fr [p] H H') := fun b o h => by
  refine fr_lk1 (ne_of_none h hp) ?_ (s _ _ h)
  cases e : H b with
  | none => rfl
  | some u => rw [n b u e] at h; cases h
theorem Newly.same2 {q : Addr} (n : Newly H G) (s : Same G H') (hp : G p = none) (hq : G q = none) : Same G (fr [p, q] H H') := fun b o h => by
  refine fr_lk2 (ne_of_none h hp) (ne_of_none h hq) ?_ (s _ _ h)
  cases e : H b with
  | none => rfl
  | some u => rw [n b u e] at h; cases h
theorem Newly.free (n : Newly H G) (h : H p = some o) : G p = none := n p o h
theorem Newly.back (n : Newly H1 G) (s : Same H H1) : Newly H G := fun b o h => n b o (s b o h)
theorem Newly.backB (n : Newly H1 G) (s : But a H H1) (h : G a = none) : Newly H G := fun b o e => by
  by_cases c : b = a
  · rw [c]; exact h
  · exact n b o (s b o c e)
end
/-! ### the purse of draws: where it stands and how often it was drawn from -/
def Left (n m : Int) : Prop := m = 1 ∨ (m = 0 ∧ 0 ≤ n ∧ n < 2147483629)
def Pk (a : Addr) (m : Int) (H : Hp) (c0 : Int) : Prop := ∃ n c, H a = some (.lst [.int n, .int m, .int c]) ∧ Left n m ∧ 0 ≤ c ∧ c ≤ c0
section
variable {a b p : Addr} {m c0 c1 : Int} {H H' H1 G : Hp} {o : HO}
theorem Pk.mono (h : Pk a m H c0) (e : c0 ≤ c1) : Pk a m H c1 := by
  obtain ⟨n, c, h1, h2, h3, h4⟩ := h
  exact ⟨n, c, h1, h2, h3, by omega⟩
theorem Pk.cast (h : Pk a m H c0) (e : c0 = c1) : Pk a m H c1 := e ▸ h
theorem Pk.same (h : Pk a m H c0) (s : Same H H') : Pk a m H' c0 := by
  obtain ⟨n, c, h1, h2, h3⟩ := h
  exact ⟨n, c, s _ _ h1, h2, h3⟩
theorem Pk.new (h : Pk a m H c0) (hp : H p = none) : Pk a m (upd H p o) c0 := h.same (Same.new hp)
theorem Pk.upd (h : Pk a m H c0) (hp : p ≠ a) : Pk a m (upd H p o) c0 := by
  obtain ⟨n, c, h1, h2, h3⟩ := h
  exact ⟨n, c, by rw [upd_ne hp.symm]; exact h1, h2, h3⟩
theorem Pk.but (h : Pk a m H c0) (s : But p H H') (hp : p ≠ a) : Pk a m H' c0 := by
  obtain ⟨n, c, h1, h2, h3⟩ := h
  exact ⟨n, c, s _ _ hp.symm h1, h2, h3⟩
theorem Pk.newT (hp : H p = none) (h : Pk a m H c0) : Pk a m (L2.upd H p o) c0 := h.new hp
theorem Pk.sameT (s : Same H H') (h : Pk a m H c0) : Pk a m H' c0 := h.same s
theorem Pk.ne (n : H p = none) (h : Pk a m H c0) : p ≠ a := by
  obtain ⟨_, _, h1, _⟩ := h
  exact (ne_of_none h1 n).symm
theorem Pk.neo (n : G a = none) (h : G p = some o) : p ≠ a := ne_of_none h n
theorem Pk.some (h : Pk a m H c0) : ∃ o, H a = some o := by
  obtain ⟨_, _, h1, _⟩ := h
  exact ⟨_, h1⟩
theorem Pk.free (hn : H' p = none) (e : But a H H') (h : Pk a m H' c0) : H p = none := by
  obtain ⟨_, _, h1, _⟩ := h
  exact But.free hn e h1
theorem Newly.pk (n : Newly H G) (h : Pk a m H c0) : G a = none := by
  obtain ⟨_, _, h1, _⟩ := h
  exact n.free h1
theorem fr_butP {S : List Addr} {H2 : Hp} (h : Pk a m H c0) (s : But a H1 H2) : Same (fr S H H1) (fr S H H2) := by
  obtain ⟨_, _, h1, _⟩ := h
  exact fr_butK h1 s
theorem Newly.backP (n : Newly H1 G) (s : But a H H1) (h : Pk a m H1 c0) : Newly H G := n.backB s (n.pk h)
theorem pk_new {n z : Int} {p : Addr} (h : Left n z) : Pk p z (L2.upd H p (.lst [.int n, .int z, .int 0])) 0 := ⟨n, 0, upd_same, h, Int.le_refl _, Int.le_refl _⟩
end
/-! ### comprehensions that draw -/
section
variable {σ : L2.St} {H H1 : Hp} {Q : VK} {K : PySem.W.Frag} {D a l : Addr} {wi : TI} {g : TG} {tt : TT} {te : TE} {vs : List Nat} {lo : Int} {n : Nat} {xs : List V} {Qd : Hp → Prop}
theorem inc_snoc {c0 inc : Int} {i : Nat} : c0 + inc * (i : Int) + inc = c0 + inc * ((i + 1 : Nat) : Int) := by
  rw [show ((i + 1 : Nat) : Int) = (i : Int) + 1 from rfl, Int.mul_add, Int.mul_one]
  omega
theorem lcR_pk {m c0 : Int} (Pz : Int → Prop) (inc : Int) (hp : Pk a m H1 c0) (nD : H1 D = none) (hn : n ≤ 1000000)
    (hs : ∀ (i : Nat) H (Z : VK) (Y : Hp → Prop), i < n → Pk a m H (c0 + inc * (i : Int)) → But a H1 H → (∀ z H4, Pz z → Pk a m H4 (c0 + inc * (i : Int) + inc) → But a H H4 → Z (.int z) H4) → LcTurn g tt te vs σ (.int (lo + i)) H Z Y)
    (hd : ∀ (ms : List Int) H, ms.length = n → (∀ z ∈ ms, Pz z) → H D = some (.lst (ms.map V.int)) → Pk a m H (c0 + inc * (n : Int)) → But a H1 H → Qd H) :
    ∃ W : Nat → Nat → Hp → Prop, (∃ m, W 0 m (upd H1 D (.lst []))) ∧ ∀ i m H, W i m H →
      ((Itr lo n).stop i H ∧ Qd H) ∨ ((Itr lo n).go i H ∧ ∃ Nx : Hp → Prop, (∀ H', Nx H' → ∃ m', m' < m ∧ W (i + 1) m' H') ∧ ∀ x H', (Itr lo n).yld i H x H' → g x (wipe σ vs) H' fun σ2 H2 => wipe σ2 vs = wipe σ vs ∧ tt σ2 H2 fun b H3 =>
        if b = true then te σ2 H3 fun y H4 => ∃ acc, H4 D = some (.lst acc) ∧ acc.length < sizeLine ∧ Nx (upd H4 D (.lst (acc ++ [y]))) else Nx H3) := by
  have hDa : D ≠ a := hp.ne nD
  refine lcR (fun i acc H => ∃ ms : List Int, acc = ms.map V.int ∧ ms.length = i ∧ (∀ z ∈ ms, Pz z) ∧ Pk a m H (c0 + inc * (i : Int)) ∧ But a H1 H) nD ⟨[], rfl, rfl, nofun, (hp.new nD).cast (by simp), But.newT nD (But.refl _ _)⟩ ?_ ?_
  · rintro i acc H Z Y hi ⟨ms, rfl, h1, h2, h3, h4⟩ hD hz _
    refine hs i H Z Y hi h3 h4 fun z H4 k1 k2 k3 => hz _ _ (k3 _ _ hDa hD) (sz4' (by rw [List.length_map]; omega)) ⟨ms ++ [z], by rw [List.map_append]; rfl, by rw [List.length_append, h1]; rfl, ?_, (k2.upd hDa).cast inc_snoc, ?_⟩
    · intro x hx
      rcases List.mem_append.mp hx with e | e
      · exact h2 x e
      · rw [List.mem_singleton.mp e]; exact k1
    · intro b o hb e
      have := k3 _ _ hb (h4 _ _ hb e)
      rw [upd_ne (ne_of_none e nD)]
      exact this
  · rintro acc H ⟨ms, rfl, h1, h2, h3, h4⟩ hD
    exact hd ms H h1 h2 hD h3 h4
theorem lcR_dq {α : Type} {m c0 : Int} (F : α → PyData) (Pz : α → Prop) (inc : Int) (hp : Pk a m H1 c0) (nD : H1 D = none) (hn : n ≤ 1000000)
    (hs : ∀ (i : Nat) H (Z : VK) (Y : Hp → Prop), i < n → Pk a m H (c0 + inc * (i : Int)) → But a H1 H → (∀ x v G H4, Pz x → Dq G v (F x) → Newly H G → Same G H4 → Pk a m H4 (c0 + inc * (i : Int) + inc) → But a H H4 → Z v H4) → LcTurn g tt te vs σ (.int (lo + i)) H Z Y)
    (hd : ∀ (xs : List α) G H, xs.length = n → (∀ x ∈ xs, Pz x) → Dq G (.ref D) (.list (xs.map F)) → Newly H1 G → Same G H → Pk a m H (c0 + inc * (n : Int)) → But a H1 H → Qd H) :
    ∃ W : Nat → Nat → Hp → Prop, (∃ m, W 0 m (upd H1 D (.lst []))) ∧ ∀ i m H, W i m H →
      ((Itr lo n).stop i H ∧ Qd H) ∨ ((Itr lo n).go i H ∧ ∃ Nx : Hp → Prop, (∀ H', Nx H' → ∃ m', m' < m ∧ W (i + 1) m' H') ∧ ∀ x H', (Itr lo n).yld i H x H' → g x (wipe σ vs) H' fun σ2 H2 => wipe σ2 vs = wipe σ vs ∧ tt σ2 H2 fun b H3 =>
        if b = true then te σ2 H3 fun y H4 => ∃ acc, H4 D = some (.lst acc) ∧ acc.length < sizeLine ∧ Nx (upd H4 D (.lst (acc ++ [y]))) else Nx H3) := by
  have hDa : D ≠ a := hp.ne nD
  refine lcR (fun i acc H => ∃ xs : List α, DqAll (fr [D] H1 H) acc (xs.map F) ∧ xs.length = i ∧ (∀ x ∈ xs, Pz x) ∧ Pk a m H (c0 + inc * (i : Int)) ∧ But a H1 H) nD ⟨[], .nil, rfl, nofun, (hp.new nD).cast (by simp), But.newT nD (But.refl _ _)⟩ ?_ ?_
  · rintro i acc H Z Y hi ⟨xs, h0, h1, h2, h3, h4⟩ hD hz _
    refine hs i H Z Y hi h3 h4 fun x v G H4 k1 k2 k3 k4 k5 k6 => ?_
    have gD : G D = none := k3.free hD
    refine hz _ _ (k6 _ _ hDa hD) (sz4' (by rw [h0.len, List.length_map]; omega)) ⟨xs ++ [x], ?_, by rw [List.length_append, h1]; rfl, ?_, (k5.upd hDa).cast inc_snoc, ?_⟩
    · rw [List.map_append]
      exact DqAll.snoc ((h0.same (fr_butP hp k6)).same (fr_upd (by simp))) (k2.same (Newly.same1 (k3.backP h4 h3) (Same.mut k4 gD) gD))
    · intro y hy
      rcases List.mem_append.mp hy with e | e
      · exact h2 y e
      · rw [List.mem_singleton.mp e]; exact k1
    · intro b o hb e
      have := k6 _ _ hb (h4 _ _ hb e)
      rw [upd_ne (ne_of_none e nD)]
      exact this
  · rintro acc H ⟨xs, h0, h1, h2, h3, h4⟩ hD
    exact hd xs (fr [] H1 H) H h1 h2 (.lst (fr_lk0 nD hD) (h0.same fr_sub)) fr_newly fr_same h3 h4
/-- new data for each item of a list, nothing changed -/
theorem lcL_new (f : Nat → PyData) (nD : H1 D = none) (hn : xs.length ≤ 1000000) (hx : SqL K H1 l xs)
    (hs : ∀ (i : Nat) (x : V) H (Z : VK) (Y : Hp → Prop), xs[i]? = some x → Same H1 H → (∀ v G H4, Dq G v (f i) → Newly H G → Same G H4 → Same H H4 → Z v H4) → LcTurn g tt te vs σ x H Z Y)
    (hd : ∀ G H, Dq G (.ref D) (.list ((List.range xs.length).map f)) → Newly H1 G → Same G H → Same H1 H → Qd H) :
    ∃ W : Nat → Nat → Hp → Prop, (∃ m, W 0 m (upd H1 D (.lst []))) ∧ ∀ i m H, W i m H →
      ((Itl K l).stop i H ∧ Qd H) ∨ ((Itl K l).go i H ∧ ∃ Nx : Hp → Prop, (∀ H', Nx H' → ∃ m', m' < m ∧ W (i + 1) m' H') ∧ ∀ x H', (Itl K l).yld i H x H' → g x (wipe σ vs) H' fun σ2 H2 => wipe σ2 vs = wipe σ vs ∧ tt σ2 H2 fun b H3 =>
        if b = true then te σ2 H3 fun y H4 => ∃ acc, H4 D = some (.lst acc) ∧ acc.length < sizeLine ∧ Nx (upd H4 D (.lst (acc ++ [y]))) else Nx H3) := by
  refine lcL (xs := xs) (fun i acc H => DqAll (fr [D] H1 H) acc ((List.range i).map f) ∧ acc.length = i ∧ Same H1 H) nD ⟨.nil, rfl, Same.new nD⟩ (fun i acc H _ q _ => q.2.2.seq hx) ?_ ?_
  · rintro i x acc H Z Y hi ⟨h0, h1, h2⟩ hD hz _
    have hi' : i < xs.length := (List.getElem?_eq_some_iff.mp hi).1
    refine hs i x H Z Y hi h2 fun v G H4 k2 k3 k4 k6 => ?_
    have gD : G D = none := k3.free hD
    refine hz _ _ (k6 _ _ hD) (sz4' (by omega)) ⟨?_, by rw [List.length_append, h1]; rfl, Same.mut (h2.trans k6) nD⟩
    rw [List.range_succ, List.map_append]
    exact DqAll.snoc ((h0.same (fr_mono k6)).same (fr_upd (by simp))) (k2.same (Newly.same1 (k3.back h2) (Same.mut k4 gD) gD))
  · rintro acc H ⟨h0, h1, h2⟩ hD
    exact hd (fr [] H1 H) H (.lst (fr_lk0 nD hD) (h0.same fr_sub)) fr_newly fr_same h2
theorem lcT (P : Nat → List V → Hp → Prop) (nD : H1 D = none) (h0 : P 0 [] (upd H1 D (.lst []))) (hl : ∀ i acc H, i ≤ xs.length → P i acc H → H D = some (.lst acc) → SqT K H l xs)
    (hs : ∀ i x acc H (Z : VK) (Y : Hp → Prop), xs[i]? = some x → P i acc H → H D = some (.lst acc) → (∀ y H4, H4 D = some (.lst acc) → acc.length < sizeLine → P (i + 1) (acc ++ [y]) (upd H4 D (.lst (acc ++ [y]))) → Z y H4) →
      (∀ H4, H4 D = some (.lst acc) → P (i + 1) acc H4 → Y H4) → LcTurn g tt te vs σ x H Z Y) (hd : ∀ acc H, P xs.length acc H → H D = some (.lst acc) → Qd H) :
    ∃ W : Nat → Nat → Hp → Prop, (∃ m, W 0 m (upd H1 D (.lst []))) ∧ ∀ i m H, W i m H →
      ((Itt K l).stop i H ∧ Qd H) ∨ ((Itt K l).go i H ∧ ∃ Nx : Hp → Prop, (∀ H', Nx H' → ∃ m', m' < m ∧ W (i + 1) m' H') ∧ ∀ x H', (Itt K l).yld i H x H' → g x (wipe σ vs) H' fun σ2 H2 => wipe σ2 vs = wipe σ vs ∧ tt σ2 H2 fun b H3 =>
        if b = true then te σ2 H3 fun y H4 => ∃ acc, H4 D = some (.lst acc) ∧ acc.length < sizeLine ∧ Nx (upd H4 D (.lst (acc ++ [y]))) else Nx H3) := by
  refine lc_tup (xs := xs) (fun i H => ∃ acc, P i acc H ∧ H D = some (.lst acc)) ⟨[], h0, upd_same⟩ (fun i H hi hp => ?_) (fun i x H hi hp => ?_) (fun H hp => ?_)
  · obtain ⟨acc, hp, ha⟩ := hp
    exact hl i acc H hi hp ha
  · obtain ⟨acc, hp, ha⟩ := hp
    exact hs i x acc H _ _ hi hp ha (fun y H4 h1 h2 h3 => ⟨acc, h1, h2, _, h3, upd_same⟩) fun H4 h1 h2 => ⟨acc, h2, h1⟩
  · obtain ⟨acc, hp, ha⟩ := hp
    exact hd acc H hp ha
theorem lcT_new (f : Nat → PyData) (nD : H1 D = none) (hn : xs.length ≤ 1000000) (hx : SqT K H1 l xs)
    (hs : ∀ (i : Nat) (x : V) H (Z : VK) (Y : Hp → Prop), xs[i]? = some x → Same H1 H → (∀ v G H4, Dq G v (f i) → Newly H G → Same G H4 → Same H H4 → Z v H4) → LcTurn g tt te vs σ x H Z Y)
    (hd : ∀ G H, Dq G (.ref D) (.list ((List.range xs.length).map f)) → Newly H1 G → Same G H → Same H1 H → Qd H) :
    ∃ W : Nat → Nat → Hp → Prop, (∃ m, W 0 m (upd H1 D (.lst []))) ∧ ∀ i m H, W i m H →
      ((Itt K l).stop i H ∧ Qd H) ∨ ((Itt K l).go i H ∧ ∃ Nx : Hp → Prop, (∀ H', Nx H' → ∃ m', m' < m ∧ W (i + 1) m' H') ∧ ∀ x H', (Itt K l).yld i H x H' → g x (wipe σ vs) H' fun σ2 H2 => wipe σ2 vs = wipe σ vs ∧ tt σ2 H2 fun b H3 =>
        if b = true then te σ2 H3 fun y H4 => ∃ acc, H4 D = some (.lst acc) ∧ acc.length < sizeLine ∧ Nx (upd H4 D (.lst (acc ++ [y]))) else Nx H3) := by
  refine lcT (xs := xs) (fun i acc H => DqAll (fr [D] H1 H) acc ((List.range i).map f) ∧ acc.length = i ∧ Same H1 H) nD ⟨.nil, rfl, Same.new nD⟩ (fun i acc H _ q _ => Same.seqT q.2.2 hx) ?_ ?_
  · rintro i x acc H Z Y hi ⟨h0, h1, h2⟩ hD hz _
    have hi' : i < xs.length := (List.getElem?_eq_some_iff.mp hi).1
    refine hs i x H Z Y hi h2 fun v G H4 k2 k3 k4 k6 => ?_
    have gD : G D = none := k3.free hD
    refine hz _ _ (k6 _ _ hD) (sz4' (by omega)) ⟨?_, by rw [List.length_append, h1]; rfl, Same.mut (h2.trans k6) nD⟩
    rw [List.range_succ, List.map_append]
    exact DqAll.snoc ((h0.same (fr_mono k6)).same (fr_upd (by simp))) (k2.same (Newly.same1 (k3.back h2) (Same.mut k4 gD) gD))
  · rintro acc H ⟨h0, h1, h2⟩ hD
    exact hd (fr [] H1 H) H (.lst (fr_lk0 nD hD) (h0.same fr_sub)) fr_newly fr_same h2
theorem lcR_new (f : Nat → PyData) (nD : H1 D = none) (hn : n ≤ 1000000)
    (hs : ∀ (i : Nat) H (Z : VK) (Y : Hp → Prop), i < n → Same H1 H → (∀ v G H4, Dq G v (f i) → Newly H G → Same G H4 → Same H H4 → Z v H4) → LcTurn g tt te vs σ (.int (lo + i)) H Z Y)
    (hd : ∀ G H, Dq G (.ref D) (.list ((List.range n).map f)) → Newly H1 G → Same G H → Same H1 H → Qd H) :
    ∃ W : Nat → Nat → Hp → Prop, (∃ m, W 0 m (upd H1 D (.lst []))) ∧ ∀ i m H, W i m H →
      ((Itr lo n).stop i H ∧ Qd H) ∨ ((Itr lo n).go i H ∧ ∃ Nx : Hp → Prop, (∀ H', Nx H' → ∃ m', m' < m ∧ W (i + 1) m' H') ∧ ∀ x H', (Itr lo n).yld i H x H' → g x (wipe σ vs) H' fun σ2 H2 => wipe σ2 vs = wipe σ vs ∧ tt σ2 H2 fun b H3 =>
        if b = true then te σ2 H3 fun y H4 => ∃ acc, H4 D = some (.lst acc) ∧ acc.length < sizeLine ∧ Nx (upd H4 D (.lst (acc ++ [y]))) else Nx H3) := by
  refine lcR (fun i acc H => DqAll (fr [D] H1 H) acc ((List.range i).map f) ∧ acc.length = i ∧ Same H1 H) nD ⟨.nil, rfl, Same.new nD⟩ ?_ ?_
  · rintro i acc H Z Y hi ⟨h0, h1, h2⟩ hD hz _
    refine hs i H Z Y hi h2 fun v G H4 k2 k3 k4 k6 => ?_
    have gD : G D = none := k3.free hD
    refine hz _ _ (k6 _ _ hD) (sz4' (by omega)) ⟨?_, by rw [List.length_append, h1]; rfl, Same.mut (h2.trans k6) nD⟩
    rw [List.range_succ, List.map_append]
    exact DqAll.snoc ((h0.same (fr_mono k6)).same (fr_upd (by simp))) (k2.same (Newly.same1 (k3.back h2) (Same.mut k4 gD) gD))
  · rintro acc H ⟨h0, h1, h2⟩ hD
    exact hd (fr [] H1 H) H (.lst (fr_lk0 nD hD) (h0.same fr_sub)) fr_newly fr_same h2
/-! ### tuple of a list -/
theorem i_tupOfL {p : Addr} (h : SqL K H p xs) (q : ∀ l, H l = none → Q (.ref l) (upd H l (.tup xs))) : rTupleOf K [.ref p] H Q := ⟨p, xs, rfl, .inl ⟨h, q⟩⟩
end
/-! ### how deep data are -/
mutual
def dep : PyData → Nat
  | .list xs => depA xs + 1
  | .tuple xs => depA xs + 1
  | _ => 0
def depA : List PyData → Nat
  | [] => 0
  | d :: ds => max (dep d) (depA ds)
end
/-! how wide -/
mutual
def wid : PyData → Nat
  | .list xs => max xs.length (widA xs)
  | .tuple xs => max xs.length (widA xs)
  | _ => 0
def widA : List PyData → Nat
  | [] => 0
  | d :: ds => max (wid d) (widA ds)
end
theorem widA_mem : ∀ {ds : List PyData} {d : PyData}, d ∈ ds → wid d ≤ widA ds
  | e :: ds, d, h => by
    rw [widA]
    rcases List.mem_cons.mp h with z | z
    · rw [z]; omega
    · have := widA_mem z
      omega
theorem widA_le {k : Nat} : ∀ {ds : List PyData}, (∀ d ∈ ds, wid d ≤ k) → widA ds ≤ k
  | [], _ => Nat.zero_le _
  | e :: ds, h => by
    rw [widA]
    have := h e List.mem_cons_self
    have := widA_le fun d hd => h d (List.mem_cons_of_mem _ hd)
    omega
theorem depA_mem : ∀ {ds : List PyData} {d : PyData}, d ∈ ds → dep d ≤ depA ds
  | e :: ds, d, h => by
    rw [depA]
    rcases List.mem_cons.mp h with z | z
    · rw [z]; omega
    · have := depA_mem z
      omega
theorem depA_le {k : Nat} : ∀ {ds : List PyData}, (∀ d ∈ ds, dep d ≤ k) → depA ds ≤ k
  | [], _ => Nat.zero_le _
  | e :: ds, h => by
    rw [depA]
    have := h e List.mem_cons_self
    have := depA_le fun d hd => h d (List.mem_cons_of_mem _ hd)
    omega
/-- no object at all -/
def noH : Hp := fun _ => none
theorem noH_newly {H : Hp} : Newly H noH := fun _ _ _ => rfl
theorem noH_same {H : Hp} : Same noH H := fun _ _ h => by cases h
theorem rng_get {α : Type} {x : α} (ds : List α) : (List.range ds.length).map (fun i => (ds[i]?).getD x) = ds := by
  apply List.ext_getElem?
  intro i
  rw [List.getElem?_map]
  by_cases c : i < ds.length
  · rw [List.getElem?_range c, List.getElem?_eq_getElem c]
    show some ((ds[i]?).getD x) = _
    rw [List.getElem?_eq_getElem c]
    rfl
  · rw [List.getElem?_eq_none (by rw [List.length_range]; omega), List.getElem?_eq_none (by omega)]
    rfl
/-- int of a truth that is known -/
theorem i_intY {b : Bool} {R : Bool → Prop} {S : Prop} (e : b = true) (q : R true) : S ∨ ∃ k, [V.bl b] = [.bl k] ∧ R k := by
  subst e
  exact .inr ⟨true, rfl, q⟩
theorem i_intN {b : Bool} {R : Bool → Prop} {S : Prop} (e : b = false) (q : R false) : S ∨ ∃ k, [V.bl b] = [.bl k] ∧ R k := by
  subst e
  exact .inr ⟨false, rfl, q⟩
/-! ### data that compare -/
mutual
theorem depth_dep : ∀ {d : PyData}, d.canLay0 = true → d.depth = dep d
  | .none, _ => by simp [PyData.depth, dep]
  | .bool _, _ => by simp [PyData.depth, dep]
  | .int _, _ => by simp [PyData.depth, dep]
  | .str _, _ => by simp [PyData.depth, dep]
  | .list xs, h => by
    have := depthA_dep (ds := xs) (by simpa [PyData.canLay0] using h)
    simp [PyData.depth, dep, this]
  | .tuple xs, h => by
    have := depthA_dep (ds := xs) (by simpa [PyData.canLay0] using h)
    simp [PyData.depth, dep, this]
  | .dict _, h => by simp [PyData.canLay0] at h
theorem depthA_dep : ∀ {ds : List PyData}, PyData.canLayAll0 ds = true → PyData.depthAll ds = depA ds
  | [], _ => by simp [PyData.depthAll, depA]
  | d :: ds, h => by
    rw [PyData.canLayAll0, Bool.and_eq_true] at h
    rw [PyData.depthAll, depA, depth_dep h.1, depthA_dep h.2]
end
theorem shaped_of {d : PyData} (h : d.canLay0 = true) (h2 : dep d ≤ 64) : SeqAt.shaped d = true := by
  unfold SeqAt.shaped
  rw [h, depth_dep h, Bool.true_and, decide_eq_true h2]
theorem lay_all : ∀ {ds : List PyData}, (∀ d ∈ ds, d.canLay0 = true) → PyData.canLayAll0 ds = true
  | [], _ => by simp [PyData.canLayAll0]
  | d :: ds, h => by
    rw [PyData.canLayAll0, h d List.mem_cons_self, lay_all fun e he => h e (List.mem_cons_of_mem _ he)]
    rfl
theorem lay_mem : ∀ {ds : List PyData} {d : PyData}, PyData.canLayAll0 ds = true → d ∈ ds → d.canLay0 = true
  | e :: ds, d, h, hd => by
    rw [PyData.canLayAll0, Bool.and_eq_true] at h
    rcases List.mem_cons.mp hd with z | z
    · rw [z]; exact h.1
    · exact lay_mem h.2 z
theorem lay_plan (r : List Int) : (planD r).canLay0 = true := by simp [planD, PyData.canLay0, canLay_ints]
theorem dep_ints (r : List Int) : depA (r.map PyData.int) = 0 := by
  have := depA_le (k := 0) (ds := r.map PyData.int) fun d hd => by
    obtain ⟨x, _, rfl⟩ := List.mem_map.mp hd
    simp [dep]
  omega
theorem wid_ints (r : List Int) : widA (r.map PyData.int) = 0 := by
  have := widA_le (k := 0) (ds := r.map PyData.int) fun d hd => by
    obtain ⟨x, _, rfl⟩ := List.mem_map.mp hd
    simp [wid]
  omega
theorem dep_plan (r : List Int) : dep (planD r) = 1 := by simp [planD, dep, dep_ints]
theorem wid_plan (r : List Int) : wid (planD r) = r.length := by simp [planD, wid, wid_ints]
theorem dep_rows (rs : List (List Int)) : dep (.list (rs.map planD)) ≤ 2 := by
  have := depA_le (k := 1) (ds := rs.map planD) fun d hd => by
    obtain ⟨x, _, rfl⟩ := List.mem_map.mp hd
    rw [dep_plan]
    omega
  rw [dep]
  omega
theorem wid_rows {k : Nat} (rs : List (List Int)) (h : rs.length ≤ k) (h2 : ∀ r ∈ rs, r.length ≤ k) : wid (.list (rs.map planD)) ≤ k := by
  have := widA_le (k := k) (ds := rs.map planD) fun d hd => by
    obtain ⟨x, hx, rfl⟩ := List.mem_map.mp hd
    rw [wid_plan]
    exact h2 x hx
  rw [wid, List.length_map]
  omega
theorem lay_rows (rs : List (List Int)) : PyData.canLay0 (.list (rs.map planD)) = true := by
  rw [PyData.canLay0]
  exact lay_all fun d hd => by
    obtain ⟨x, _, rfl⟩ := List.mem_map.mp hd
    exact lay_plan x
/-- what is in G, new to H, is apart from what H has -/
theorem Newly.sep {H G G1 : Hp} {p : Addr} {o : HO} (n : Newly H G) (s : Same G1 H) (h : G p = some o) : G1 p = none := by
  cases e : G1 p with
  | none => rfl
  | some u =>
    have := n p u (s _ _ e)
    rw [this] at h
    cases h
theorem Same.updB {G H : Hp} {P : Addr} {o : HO} (s : Same G H) : Same (upd G P o) (upd H P o) := fun b u h => by
  by_cases c : b = P
  · rw [c, upd_same] at h ⊢
    exact h
  · rw [upd_ne c] at h ⊢
    exact s _ _ h
end Hf
/-! ## battles -/
namespace Hf
open PySem PySem.Spec PyProof.Rows L2
inductive Fld where
  | more (w t : Int)
  | lead (w l : Int)
  | tab (rows : List (List Int))
instance : Inhabited Fld := ⟨.more 1 0⟩
def fldD : Fld → PyData
  | .more w t => .tuple [.str (PySem.Str.ofString "more"), .int w, .int t]
  | .lead w l => .tuple [.str (PySem.Str.ofString "lead"), .int w, .int l]
  | .tab rows => .tuple [.str (PySem.Str.ofString "table"), .list (rows.map planD)]
def batD (f s : Int) (fs : List Fld) : PyData := .tuple [.int f, .int s, .list (fs.map fldD)]
def Sm (x : Int) : Prop := -(2 ^ 110) < x ∧ x < 2 ^ 110
def FldOk (f s : Int) : Fld → Prop
  | .more w t => 1 ≤ w ∧ 0 - w ≤ t ∧ t ≤ w
  | .lead w _ => 1 ≤ w
  | .tab rows => (rows.length : Int) = f + 1 ∧ ∀ r ∈ rows, (r.length : Int) = s + 1
/-- its numbers are not great -/
def FldSm : Fld → Prop
  | .more w t => Sm w ∧ Sm t
  | .lead w l => Sm w ∧ Sm l
  | .tab rows => ∀ r ∈ rows, ∀ x ∈ r, Sm x
structure BatOk (f s : Int) (fs : List Fld) : Prop where
  hf : 0 ≤ f ∧ f ≤ 10
  hs : 0 ≤ s ∧ s ≤ 10
  ne : 1 ≤ fs.length ∧ fs.length ≤ 5
  ok : ∀ x ∈ fs, FldOk f s x
def paidV : Fld → Int → Int → Int
  | .more w t, x, y => if x = y then t else if x > y then w else 0 - w
  | .lead w l, x, y => if x ≥ y + l then w else 0 - w
  | .tab rows, x, y => (((rows[x.toNat]?).getD [])[y.toNat]?).getD 0
section
variable {H : Hp} {v : V}
theorem fld_more {w t : Int} (h : Dq H v (fldD (.more w t))) : ∃ a, v = .ref a ∧ H a = some (.tup [.str (PySem.Str.ofString "more"), .int w, .int t]) := by
  obtain ⟨a, xs, rfl, h1, h2⟩ := Dq.tuple_inv h
  cases h2 with
  | cons a b =>
    cases b with
    | cons c d =>
      cases d with
      | cons e f =>
        cases f
        obtain rfl := Dq.str_inv a
        obtain rfl := Dq.int_inv c
        obtain rfl := Dq.int_inv e
        exact ⟨_, rfl, h1⟩
theorem fld_lead {w t : Int} (h : Dq H v (fldD (.lead w t))) : ∃ a, v = .ref a ∧ H a = some (.tup [.str (PySem.Str.ofString "lead"), .int w, .int t]) := by
  obtain ⟨a, xs, rfl, h1, h2⟩ := Dq.tuple_inv h
  cases h2 with
  | cons a b =>
    cases b with
    | cons c d =>
      cases d with
      | cons e f =>
        cases f
        obtain rfl := Dq.str_inv a
        obtain rfl := Dq.int_inv c
        obtain rfl := Dq.int_inv e
        exact ⟨_, rfl, h1⟩
theorem fld_tab {rows : List (List Int)} (h : Dq H v (fldD (.tab rows))) : ∃ a p xs, v = .ref a ∧ H a = some (.tup [.str (PySem.Str.ofString "table"), .ref p]) ∧ H p = some (.lst xs) ∧ DqAll H xs (rows.map planD) := by
  obtain ⟨a, xs, rfl, h1, h2⟩ := Dq.tuple_inv h
  cases h2 with
  | cons a b =>
    cases b with
    | cons c d =>
      cases d
      obtain rfl := Dq.str_inv a
      obtain ⟨p, ys, rfl, h3, h4⟩ := Dq.list_inv c
      exact ⟨_, p, ys, rfl, h1, h3, h4⟩
theorem row_at {xs : List V} {rows : List (List Int)} (q : DqAll H xs (rows.map planD)) {k : Nat} {w : V} (hw : xs[k]? = some w) : ∃ r p, rows[k]? = some r ∧ w = .ref p ∧ H p = some (.lst (r.map V.int)) := by
  obtain ⟨d, e, q⟩ := q.get' hw
  rw [List.getElem?_map] at e
  cases g : rows[k]? with
  | none => rw [g] at e; cases e
  | some r =>
    rw [g] at e
    cases e
    obtain ⟨p, ys, rfl, h3, h4⟩ := Dq.list_inv q
    obtain rfl := DqAll.ints h4
    exact ⟨r, p, rfl, rfl, h3⟩
theorem bat_inv {f s : Int} {fs : List Fld} (h : Dq H v (batD f s fs)) : ∃ a p xs, v = .ref a ∧ H a = some (.tup [.int f, .int s, .ref p]) ∧ H p = some (.lst xs) ∧ DqAll H xs (fs.map fldD) := by
  obtain ⟨a, xs, rfl, h1, h2⟩ := Dq.tuple_inv h
  cases h2 with
  | cons a b =>
    cases b with
    | cons c d =>
      cases d with
      | cons e f =>
        cases f
        obtain rfl := Dq.int_inv a
        obtain rfl := Dq.int_inv c
        obtain ⟨p, ys, rfl, h3, h4⟩ := Dq.list_inv e
        exact ⟨_, p, ys, rfl, h1, h3, h4⟩
theorem fld_at {xs : List V} {fs : List Fld} (q : DqAll H xs (fs.map fldD)) {k : Nat} {w : V} (hw : xs[k]? = some w) : ∃ f, fs[k]? = some f ∧ Dq H w (fldD f) := by
  obtain ⟨d, e, q⟩ := q.get' hw
  rw [List.getElem?_map] at e
  cases g : fs[k]? with
  | none => rw [g] at e; cases e
  | some r =>
    rw [g] at e
    cases e
    exact ⟨r, rfl, q⟩
theorem more_mk {a : Addr} {w t : Int} (h : H a = some (.tup [.str (PySem.Str.ofString "more"), .int w, .int t])) : Dq H (.ref a) (fldD (.more w t)) := .tup h (.cons (.str _) (.cons (.int _) (.cons (.int _) .nil)))
theorem lead_mk {a : Addr} {w t : Int} (h : H a = some (.tup [.str (PySem.Str.ofString "lead"), .int w, .int t])) : Dq H (.ref a) (fldD (.lead w t)) := .tup h (.cons (.str _) (.cons (.int _) (.cons (.int _) .nil)))
theorem tab_mk {a p : Addr} {xs : List V} {rows : List (List Int)} (h : H a = some (.tup [.str (PySem.Str.ofString "table"), .ref p])) (h1 : H p = some (.lst xs)) (h2 : DqAll H xs (rows.map planD)) : Dq H (.ref a) (fldD (.tab rows)) := .tup h (.cons (.str _) (.cons (.lst h1 h2) .nil))
theorem tab_mk' {a : Addr} {v : V} {rows : List (List Int)} (h : H a = some (.tup [.str (PySem.Str.ofString "table"), v])) (h1 : Dq H v (.list (rows.map planD))) : Dq H (.ref a) (fldD (.tab rows)) := .tup h (.cons (.str _) (.cons h1 .nil))
theorem bat_mk' {a : Addr} {v : V} {f s : Int} {fs : List Fld} (h : H a = some (.tup [.int f, .int s, v])) (h1 : Dq H v (.list (fs.map fldD))) : Dq H (.ref a) (batD f s fs) := .tup h (.cons (.int _) (.cons (.int _) (.cons h1 .nil)))
theorem bat_mk {a p : Addr} {xs : List V} {f s : Int} {fs : List Fld} (h : H a = some (.tup [.int f, .int s, .ref p])) (h1 : H p = some (.lst xs)) (h2 : DqAll H xs (fs.map fldD)) : Dq H (.ref a) (batD f s fs) := .tup h (.cons (.int _) (.cons (.int _) (.cons (.lst h1 h2) .nil)))
theorem row_mk {p : Addr} {r : List Int} (h : H p = some (.lst (r.map V.int))) : Dq H (.ref p) (planD r) := .lst h (dq_ints r)
end
theorem BatOk.at {f s : Int} {fs : List Fld} (k : BatOk f s fs) {i : Nat} {x : Fld} (e : fs[i]? = some x) : FldOk f s x := k.ok x (List.mem_of_getElem? e)
theorem DqAll.rep {H : Hp} {v : V} {d : PyData} (h : Dq H v d) : ∀ n : Nat, DqAll H (List.replicate n v) (List.replicate n d)
  | 0 => .nil
  | n + 1 => .cons h (DqAll.rep h n)
theorem lay_fld (fl : Fld) : (fldD fl).canLay0 = true := by
  cases fl with
  | more w t => simp [fldD, PyData.canLay0, PyData.canLayAll0]; decide +kernel
  | lead w t => simp [fldD, PyData.canLay0, PyData.canLayAll0]; decide +kernel
  | tab rows =>
    simp [fldD, PyData.canLay0, PyData.canLayAll0, lay_rows]
    exact ⟨by decide +kernel, by have := lay_rows rows; rwa [PyData.canLay0] at this⟩
theorem lay_bat (f s : Int) (fs : List Fld) : (batD f s fs).canLay0 = true := by
  have : PyData.canLay0 (.list (fs.map fldD)) = true := by
    rw [PyData.canLay0]
    exact lay_all fun d hd => by
      obtain ⟨x, _, rfl⟩ := List.mem_map.mp hd
      exact lay_fld x
  rw [PyData.canLay0] at this
  simp [batD, PyData.canLay0, PyData.canLayAll0, this]
theorem dep_fld (fl : Fld) : dep (fldD fl) ≤ 3 := by
  cases fl with
  | more w t => simp [fldD, dep, depA]
  | lead w t => simp [fldD, dep, depA]
  | tab rows =>
    have := dep_rows rows
    simp only [fldD, dep, depA] at this ⊢
    omega
theorem dep_bat (f s : Int) (fs : List Fld) : dep (batD f s fs) ≤ 5 := by
  have := depA_le (k := 3) (ds := fs.map fldD) fun d hd => by
    obtain ⟨x, _, rfl⟩ := List.mem_map.mp hd
    exact dep_fld x
  simp only [batD, dep, depA] at this ⊢
  omega
theorem wid_fld {f s : Int} {fl : Fld} (hf : f ≤ 10) (hs : s ≤ 10) (k : FldOk f s fl) : wid (fldD fl) ≤ 20 := by
  cases fl with
  | more w t => rw [fldD]; simp [wid, widA]
  | lead w t => rw [fldD]; simp [wid, widA]
  | tab rows =>
    obtain ⟨h1, h2⟩ := k
    have := wid_rows (k := 20) rows (by omega) (fun r hr => by have := h2 r hr; omega)
    simp only [fldD, wid, widA, List.length_cons, List.length_nil] at this ⊢
    omega
theorem wid_bat {f s : Int} {fs : List Fld} (hf : f ≤ 10) (hs : s ≤ 10) (hl : fs.length ≤ 20) (k : ∀ x ∈ fs, FldOk f s x) : wid (batD f s fs) ≤ 20 := by
  have := widA_le (k := 20) (ds := fs.map fldD) fun d hd => by
    obtain ⟨x, hx, rfl⟩ := List.mem_map.mp hd
    exact wid_fld hf hs (k x hx)
  simp only [batD, wid, widA, List.length_cons, List.length_nil, List.length_map] at this ⊢
  omega
theorem shaped_bat (f s : Int) (fs : List Fld) : SeqAt.shaped (batD f s fs) = true := shaped_of (lay_bat f s fs) (Nat.le_trans (dep_bat f s fs) (by decide))
/-- a row changed through its address, whichever rows it is -/
theorem rows_set {G : Hp} {xs : List V} {rs : List (List Int)} {P : Addr} {r r' : List Int} (q : DqAll G xs (rs.map planD)) (hP : G P = some (.lst (r.map V.int))) (hl : r'.length = r.length) :
    ∃ rs' : List (List Int), DqAll (upd G P (.lst (r'.map V.int))) xs (rs'.map planD) ∧ rs'.length = rs.length ∧ ∀ L, (∀ z ∈ rs, z.length = L) → ∀ z ∈ rs', z.length = L := by
  induction rs generalizing xs with
  | nil =>
    cases q
    exact ⟨[], .nil, rfl, fun _ _ => nofun⟩
  | cons r0 rs ih =>
    cases q with
    | cons h q =>
      obtain ⟨rs', g1, g2, g3⟩ := ih q
      obtain ⟨p, ys, rfl, h3, h4⟩ := Dq.list_inv h
      obtain rfl := DqAll.ints h4
      by_cases c : p = P
      · subst c
        refine ⟨r' :: rs', .cons (row_mk upd_same) g1, by rw [List.length_cons, g2, List.length_cons], fun L hL z hz => ?_⟩
        rcases List.mem_cons.mp hz with e | e
        · rw [h3] at hP
          have e2 := congrArg List.length (HO.lst.inj (Option.some.inj hP))
          rw [List.length_map, List.length_map] at e2
          rw [e, hl, ← e2]
          exact hL r0 List.mem_cons_self
        · exact g3 L (fun z hz => hL z (List.mem_cons_of_mem _ hz)) z e
      · refine ⟨r0 :: rs', .cons (row_mk (lk_upd c h3)) g1, by rw [List.length_cons, g2, List.length_cons], fun L hL z hz => ?_⟩
        rcases List.mem_cons.mp hz with e | e
        · rw [e]; exact hL r0 List.mem_cons_self
        · exact g3 L (fun z hz => hL z (List.mem_cons_of_mem _ hz)) z e
/-! ### what is won -/
def fldAt (fs : List Fld) (k : Int) : Fld := (fs[k.toNat]?).getD default
def nAt (ms : List Int) (k : Int) : Int := (ms[k.toNat]?).getD 0
def gainV (fs : List Fld) (ms ns : List Int) : Int := ((List.range fs.length).map fun i : Nat => paidV (fldAt fs i) (nAt ms i) (nAt ns i)).sum
def RiseP (fl : Fld) (f s : Int) : Prop := ∀ x y : Int, 0 ≤ x → x ≤ f → 0 ≤ y → y ≤ s → (x < f → paidV fl x y ≤ paidV fl (x + 1) y) ∧ (y < s → paidV fl x (y + 1) ≤ paidV fl x y)
def RiseA (fs : List Fld) (f s : Int) : Prop := ∀ x ∈ fs, RiseP x f s
def PlainF : Fld → Prop
  | .tab _ => False
  | _ => True
theorem rise_plain {f s : Int} {fl : Fld} (k : FldOk f s fl) (h : PlainF fl) : RiseP fl f s := by
  intro x y _ _ _ _
  cases fl with
  | more w t =>
    obtain ⟨h1, h2, h3⟩ := k
    refine ⟨fun _ => ?_, fun _ => ?_⟩
    · show (if x = y then t else if x > y then w else 0 - w) ≤ (if x + 1 = y then t else if x + 1 > y then w else 0 - w)
      split <;> split <;> (try split) <;> (try split) <;> omega
    · show (if x = y + 1 then t else if x > y + 1 then w else 0 - w) ≤ (if x = y then t else if x > y then w else 0 - w)
      split <;> split <;> (try split) <;> (try split) <;> omega
  | lead w l =>
    have h1 : 1 ≤ w := k
    refine ⟨fun _ => ?_, fun _ => ?_⟩
    · show (if x ≥ y + l then w else 0 - w) ≤ (if x + 1 ≥ y + l then w else 0 - w)
      split <;> split <;> omega
    · show (if x ≥ y + 1 + l then w else 0 - w) ≤ (if x ≥ y + l then w else 0 - w)
      split <;> split <;> omega
  | tab _ => exact h.elim
theorem rise_pw {fl : Fld} {f s y : Int} (h : RiseP fl f s) (hy : 0 ≤ y ∧ y ≤ s) : ∀ n : Nat, (n : Int) ≤ f + 1 → ((List.range n).map fun i : Nat => paidV fl i y).Pairwise fun a b => a ≤ b := by
  have mono : ∀ d i : Nat, ((i + d : Nat) : Int) ≤ f → paidV fl i y ≤ paidV fl ((i + d : Nat) : Int) y := by
    intro d
    induction d with
    | zero => intro i _; exact Int.le_refl _
    | succ d ih =>
      intro i hi
      have h1 := ih i (by omega)
      have h2 := (h ((i + d : Nat) : Int) y (by omega) (by omega) hy.1 hy.2).1 (by omega)
      have e : ((i + (d + 1) : Nat) : Int) = ((i + d : Nat) : Int) + 1 := rfl
      rw [e]
      omega
  intro n hn
  rw [List.pairwise_map]
  refine List.Pairwise.imp_of_mem ?_ (List.pairwise_lt_range (n := n))
  intro a b ha hb hab
  have := mono (b - a) a (by have := List.mem_range.mp hb; omega)
  rw [show a + (b - a) = b by omega] at this
  exact this
def EvenP (fs : List Fld) (f s : Int) : Prop := f = s ∧ ∀ fl ∈ fs, ∀ x y : Int, 0 ≤ x → x ≤ f → 0 ≤ y → y ≤ x → paidV fl x y = 0 - paidV fl y x
/-! ### the sides exchanged -/
def exF (s : Int) : Fld → Fld
  | .more w t => .more w (0 - t)
  | .lead w l => .lead w (1 - l)
  | .tab rows => .tab ((List.range (s + 1).toNat).map fun y => rows.map fun r => 0 - (r[y]?).getD 0)
theorem exF_ok {f s : Int} {fl : Fld} (hf : 0 ≤ f) (hs : 0 ≤ s) (k : FldOk f s fl) : FldOk s f (exF s fl) := by
  cases fl with
  | more w t =>
    obtain ⟨h1, h2, h3⟩ := k
    exact ⟨h1, by omega, by omega⟩
  | lead w l => exact k
  | tab rows =>
    obtain ⟨h1, h2⟩ := k
    refine ⟨?_, ?_⟩
    · rw [List.length_map, List.length_range]
      omega
    · intro r hr
      obtain ⟨y, _, rfl⟩ := List.mem_map.mp hr
      rw [List.length_map]
      exact h1
theorem ex_ok {f s : Int} {fs : List Fld} (k : BatOk f s fs) : BatOk s f (fs.map (exF s)) := ⟨k.hs, k.hf, by rw [List.length_map]; exact k.ne, fun x hx => by
  obtain ⟨y, hy, rfl⟩ := List.mem_map.mp hx
  exact exF_ok k.hf.1 k.hs.1 (k.ok y hy)⟩
theorem ex_paid {f s : Int} {fl : Fld} (k : FldOk f s fl) {x y : Int} (hx : 0 ≤ x ∧ x ≤ f) (hy : 0 ≤ y ∧ y ≤ s) : paidV (exF s fl) y x = 0 - paidV fl x y := by
  cases fl with
  | more w t =>
    show (if y = x then 0 - t else if y > x then w else 0 - w) = 0 - (if x = y then t else if x > y then w else 0 - w)
    split <;> split <;> (try split) <;> (try split) <;> omega
  | lead w l =>
    show (if y ≥ x + (1 - l) then w else 0 - w) = 0 - (if x ≥ y + l then w else 0 - w)
    split <;> split <;> omega
  | tab rows =>
    obtain ⟨h1, h2⟩ := k
    show (((((List.range (s + 1).toNat).map fun y => rows.map fun r => 0 - (r[y]?).getD 0)[y.toNat]?).getD [])[x.toNat]?).getD 0 = 0 - ((((rows[x.toNat]?).getD [])[y.toNat]?).getD 0)
    rw [List.getElem?_map, List.getElem?_range (by omega)]
    show (((rows.map fun r => 0 - (r[y.toNat]?).getD 0)[x.toNat]?).getD 0) = _
    rw [List.getElem?_map]
    have hx' : x.toNat < rows.length := by omega
    rw [List.getElem?_eq_getElem hx']
    rfl
theorem ex_rise1 {f s : Int} {fl : Fld} (k : FldOk f s fl) (h : RiseP fl f s) : RiseP (exF s fl) s f := by
  intro y x h1 h2 h3 h4
  obtain ⟨g1, g2⟩ := h x y h3 h4 h1 h2
  refine ⟨fun c => ?_, fun c => ?_⟩
  · rw [ex_paid k ⟨h3, h4⟩ ⟨h1, h2⟩, ex_paid k ⟨h3, h4⟩ (y := y + 1) (by omega)]
    have := g2 c
    omega
  · rw [ex_paid k ⟨h3, h4⟩ ⟨h1, h2⟩, ex_paid k (x := x + 1) (by omega) ⟨h1, h2⟩]
    have := g1 c
    omega
theorem ex_rise2 {f s : Int} {fl : Fld} (k : FldOk f s fl) (h : RiseP (exF s fl) s f) : RiseP fl f s := by
  intro x y h1 h2 h3 h4
  obtain ⟨g1, g2⟩ := h y x h3 h4 h1 h2
  refine ⟨fun c => ?_, fun c => ?_⟩
  · have := g2 c
    rw [ex_paid k ⟨h1, h2⟩ ⟨h3, h4⟩, ex_paid k (x := x + 1) (by omega) ⟨h3, h4⟩] at this
    omega
  · have := g1 c
    rw [ex_paid k ⟨h1, h2⟩ ⟨h3, h4⟩, ex_paid k ⟨h1, h2⟩ (y := y + 1) (by omega)] at this
    omega
theorem ex_rise {f s : Int} {fs : List Fld} (k : BatOk f s fs) : RiseA (fs.map (exF s)) s f ↔ RiseA fs f s := by
  refine ⟨fun h x hx => ex_rise2 (k.ok x hx) (h _ (List.mem_map_of_mem hx)), fun h x hx => ?_⟩
  obtain ⟨y, hy, rfl⟩ := List.mem_map.mp hx
  exact ex_rise1 (k.ok y hy) (h y hy)
theorem ex_even {f s : Int} {fs : List Fld} (k : BatOk f s fs) : EvenP (fs.map (exF s)) s f ↔ EvenP fs f s := by
  refine ⟨fun h => ⟨h.1.symm, fun fl hfl x y h1 h2 h3 h4 => ?_⟩, fun h => ⟨h.1.symm, fun fl hfl x y h1 h2 h3 h4 => ?_⟩⟩
  · have := h.2 _ (List.mem_map_of_mem hfl) x y h1 (by have := h.1; omega) h3 h4
    have e := h.1
    rw [ex_paid (k.ok fl hfl) (x := y) (by omega) (by omega), ex_paid (k.ok fl hfl) (x := x) (by omega) (by omega)] at this
    omega
  · obtain ⟨fl', hf', rfl⟩ := List.mem_map.mp hfl
    have e := h.1
    have := h.2 _ hf' x y h1 (by omega) h3 h4
    rw [ex_paid (k.ok fl' hf') (x := y) (by omega) (by omega), ex_paid (k.ok fl' hf') (x := x) (by omega) (by omega)]
    omega
theorem sum_neg : ∀ (n : Nat) (g h : Nat → Int), (∀ i, i < n → h i = 0 - g i) → ((List.range n).map h).sum = 0 - ((List.range n).map g).sum := by
  intro n
  induction n with
  | zero => intro g h _; rfl
  | succ n ih =>
    intro g h e
    rw [List.range_succ, List.map_append, List.map_append, List.sum_append, List.sum_append, ih g h fun i hi => e i (by omega)]
    simp only [List.map_cons, List.map_nil, List.sum_cons, List.sum_nil]
    have := e n (by omega)
    omega
theorem plan_le {h : Int} {n : Nat} {p : List Int} (k : PlanC h n p) (i : Int) : 0 ≤ nAt p i ∧ nAt p i ≤ h := by
  have key : ∀ q : List Int, (∀ x ∈ q, 0 ≤ x) → 0 ≤ q.sum ∧ ∀ x ∈ q, x ≤ q.sum := by
    intro q
    induction q with
    | nil => intro _; exact ⟨Int.le_refl _, nofun⟩
    | cons x q ih =>
      intro g
      obtain ⟨e1, e2⟩ := ih fun z hz => g z (List.mem_cons_of_mem _ hz)
      have := g x (List.mem_cons_self)
      rw [List.sum_cons]
      refine ⟨by omega, fun z hz => ?_⟩
      rcases List.mem_cons.mp hz with e | e
      · omega
      · have := e2 z e
        omega
  obtain ⟨k1, k2, k3⟩ := k
  obtain ⟨e1, e2⟩ := key p k3
  unfold nAt
  cases g : p[i.toNat]? with
  | none => exact ⟨Int.le_refl _, by show 0 ≤ h; omega⟩
  | some z =>
    have hz := List.mem_of_getElem? g
    exact ⟨k3 z hz, by have := e2 z hz; show z ≤ h; omega⟩
theorem fldAt_ex {s : Int} {fs : List Fld} {i : Int} (hi : i.toNat < fs.length) : fldAt (fs.map (exF s)) i = exF s (fldAt fs i) := by
  unfold fldAt
  rw [List.getElem?_map, List.getElem?_eq_getElem hi]
  rfl
theorem fldAt_ok {f s : Int} {fs : List Fld} (k : BatOk f s fs) {i : Int} (hi : i.toNat < fs.length) : FldOk f s (fldAt fs i) := by
  unfold fldAt
  rw [List.getElem?_eq_getElem hi]
  exact k.ok _ (List.getElem_mem _)
theorem ex_gain {f s : Int} {fs : List Fld} (k : BatOk f s fs) {ms ns : List Int} (h1 : PlanC f fs.length ms) (h2 : PlanC s fs.length ns) : gainV (fs.map (exF s)) ns ms = 0 - gainV fs ms ns := by
  unfold gainV
  rw [List.length_map]
  refine sum_neg _ _ _ fun i hi => ?_
  have e : fldAt (fs.map (exF s)) i = exF s (fldAt fs i) := by
    unfold fldAt
    rw [List.getElem?_map, List.getElem?_eq_getElem (show (i : Int).toNat < fs.length by omega)]
    rfl
  have hk : FldOk f s (fldAt fs i) := by
    unfold fldAt
    rw [List.getElem?_eq_getElem (show (i : Int).toNat < fs.length by omega)]
    exact k.ok _ (List.getElem_mem _)
  rw [e]
  exact ex_paid hk (plan_le h1 i) (plan_le h2 i)
/-! ### min of three -/
def rMin3 : List V → Hp → VK → Prop := fun xs H Q => ∃ i j k, xs = [.int i, .int j, .int k] ∧ Q (.int (if j < i then (if k < j then k else j) else (if k < i then k else i))) H
theorem call_min3I {X : Cx} (hc : X.calm = true) : CallR X (.builtin "min") rMin3 := by
  intro pins s σ H xs us Q I r h
  obtain ⟨i, j, k, rfl, q⟩ := h
  cases r with
  | cons r1 r =>
    cases r with
    | cons r2 r =>
      cases r with
      | cons r3 r =>
        cases r
        obtain ⟨t1, rfl⟩ := r1
        obtain ⟨t2, rfl⟩ := r2
        obtain ⟨t3, rfl⟩ := r3
        refine min_three_ints (I.ok.hd hc) fun h' tk kk => ⟨_, H, I.kept kk, ?_, q⟩
        split <;> split <;> exact ⟨_, rfl⟩
theorem i_min3 {i j k : Int} {H : Hp} {Q : VK} (q : Q (.int (if j < i then (if k < j then k else j) else (if k < i then k else i))) H) : rMin3 [.int i, .int j, .int k] H Q := ⟨i, j, k, rfl, q⟩
end Hf
/-! ## data whose lists are known by their places: marks -/
namespace Hf
open PySem PySem.Spec PyProof.Rows L2
def mkS : Str := PySem.Str.ofString "mark"
mutual
inductive Ow (H : Hp) : V → PyData → List Addr → Prop
  | non : Ow H .non .none []
  | bl (b : Bool) : Ow H (.bl b) (.bool b) []
  | int (i : Int) : Ow H (.int i) (.int i) []
  | str (x : Str) : Ow H (.str x) (.str x) []
  | lst {a : Addr} {xs : List V} {ds : List PyData} {S : List Addr} : H a = some (.lst xs) → OwAll H xs ds S → Ow H (.ref a) (.list ds) (a :: S)
  | tup {a : Addr} {xs : List V} {ds : List PyData} {S : List Addr} : H a = some (.tup xs) → OwAll H xs ds S → Ow H (.ref a) (.tuple ds) S
inductive OwAll (H : Hp) : List V → List PyData → List Addr → Prop
  | nil : OwAll H [] [] []
  | cons {v : V} {vs : List V} {d : PyData} {ds : List PyData} {S S' : List Addr} : Ow H v d S → OwAll H vs ds S' → OwAll H (v :: vs) (d :: ds) (S ++ S')
end
/-! every list with one thing more -/
mutual
def mk : PyData → PyData
  | .list ds => .list (mkA ds ++ [.str mkS])
  | .tuple ds => .tuple (mkA ds)
  | d => d
def mkA : List PyData → List PyData
  | [] => []
  | d :: ds => mk d :: mkA ds
end
/-! no text "mark" within -/
mutual
def noM : PyData → Bool
  | .list ds => noMA ds
  | .tuple ds => noMA ds
  | .str x => !(x == mkS)
  | _ => true
def noMA : List PyData → Bool
  | [] => true
  | d :: ds => noM d && noMA ds
end
section
variable {H H' : Hp} {v : V} {vs ws : List V} {d : PyData} {ds es : List PyData} {S S' T : List Addr}
mutual
theorem Ow.dq : ∀ {v : V} {d : PyData} {S : List Addr}, Ow H v d S → Dq H v d
  | _, _, _, .non => .non
  | _, _, _, .bl b => .bl b
  | _, _, _, .int i => .int i
  | _, _, _, .str x => .str x
  | _, _, _, .lst h q => .lst h (OwAll.dq q)
  | _, _, _, .tup h q => .tup h (OwAll.dq q)
theorem OwAll.dq : ∀ {vs : List V} {ds : List PyData} {S : List Addr}, OwAll H vs ds S → DqAll H vs ds
  | _, _, _, .nil => .nil
  | _, _, _, .cons h q => .cons (Ow.dq h) (OwAll.dq q)
end
/-- what is kept at all places but those of T -/
def Kp (T : List Addr) (H H' : Hp) : Prop := ∀ b o, b ∉ T → H b = some o → H' b = some o
theorem Kp.refl : Kp T H H := fun _ _ _ h => h
theorem Kp.same (s : Same H H') : Kp T H H' := fun b o _ h => s b o h
theorem Kp.trans {H2 : Hp} (x : Kp T H H') (y : Kp T H' H2) : Kp T H H2 := fun b o n h => y b o n (x b o n h)
theorem Kp.sub (x : Kp S H H') (h : ∀ b, b ∈ S → b ∈ T) : Kp T H H' := fun b o n e => x b o (fun z => n (h b z)) e
theorem Kp.upd {a : Addr} {o : HO} (ha : a ∈ T) (x : Kp T H H') : Kp T H (L2.upd H' a o) := fun b u n h => by
  rw [upd_ne (fun e => n (by rw [e]; exact ha))]
  exact x b u n h
mutual
/-- lists are not tuples: what changes the lists of T alone keeps the data whose lists are apart -/
theorem Ow.kp (hT : ∀ b xs, b ∈ T → H b ≠ some (.tup xs)) (k : Kp T H H') : ∀ {v : V} {d : PyData} {S : List Addr}, Ow H v d S → (∀ b, b ∈ S → b ∉ T) → Ow H' v d S
  | _, _, _, .non, _ => .non
  | _, _, _, .bl b, _ => .bl b
  | _, _, _, .int i, _ => .int i
  | _, _, _, .str x, _ => .str x
  | _, _, _, .lst h q, n => .lst (k _ _ (n _ List.mem_cons_self) h) (OwAll.kp hT k q fun b hb => n b (List.mem_cons_of_mem _ hb))
  | _, _, _, .tup h q, n => .tup (k _ _ (fun z => hT _ _ z h) h) (OwAll.kp hT k q n)
theorem OwAll.kp (hT : ∀ b xs, b ∈ T → H b ≠ some (.tup xs)) (k : Kp T H H') : ∀ {vs : List V} {ds : List PyData} {S : List Addr}, OwAll H vs ds S → (∀ b, b ∈ S → b ∉ T) → OwAll H' vs ds S
  | _, _, _, .nil, _ => .nil
  | _, _, _, .cons h q, n => .cons (Ow.kp hT k h fun b hb => n b (List.mem_append.mpr (.inl hb))) (OwAll.kp hT k q fun b hb => n b (List.mem_append.mpr (.inr hb)))
end
mutual
theorem Ow.lists : ∀ {v : V} {d : PyData} {S : List Addr}, Ow H v d S → ∀ b, b ∈ S → ∃ xs, H b = some (.lst xs)
  | _, _, _, .lst h q, b, hb => by
    rcases List.mem_cons.mp hb with e | e
    · subst e; exact ⟨_, h⟩
    · exact OwAll.lists q b e
  | _, _, _, .tup _ q, b, hb => OwAll.lists q b hb
theorem OwAll.lists : ∀ {vs : List V} {ds : List PyData} {S : List Addr}, OwAll H vs ds S → ∀ b, b ∈ S → ∃ xs, H b = some (.lst xs)
  | _, _, _, .cons h q, b, hb => by
    rcases List.mem_append.mp hb with e | e
    · exact Ow.lists h b e
    · exact OwAll.lists q b e
end
mutual
theorem Ow.same (s : Same H H') : ∀ {v : V} {d : PyData} {S : List Addr}, Ow H v d S → Ow H' v d S
  | _, _, _, .non => .non
  | _, _, _, .bl b => .bl b
  | _, _, _, .int i => .int i
  | _, _, _, .str x => .str x
  | _, _, _, .lst h q => .lst (s _ _ h) (OwAll.same s q)
  | _, _, _, .tup h q => .tup (s _ _ h) (OwAll.same s q)
theorem OwAll.same (s : Same H H') : ∀ {vs : List V} {ds : List PyData} {S : List Addr}, OwAll H vs ds S → OwAll H' vs ds S
  | _, _, _, .nil => .nil
  | _, _, _, .cons h q => .cons (Ow.same s h) (OwAll.same s q)
end
theorem OwAll.snoc : ∀ {vs : List V} {ds : List PyData} {S S' : List Addr} {w : V} {d : PyData}, OwAll H vs ds S → Ow H w d S' → OwAll H (vs ++ [w]) (ds ++ [d]) (S ++ S')
  | _, _, _, S', _, _, .nil, h => by
    have := OwAll.cons h .nil
    rw [List.append_nil] at this
    exact this
  | _, _, _, _, _, _, .cons h q, g => by
    rw [List.append_assoc]
    exact .cons h (OwAll.snoc q g)
theorem OwAll.len : ∀ {vs : List V} {ds : List PyData} {S : List Addr}, OwAll H vs ds S → vs.length = ds.length
  | _, _, _, .nil => rfl
  | _, _, _, .cons _ q => by rw [List.length_cons, List.length_cons, OwAll.len q]
/-- cut at a place -/
theorem OwAll.cut : ∀ {vs : List V} {ds : List PyData} {S : List Addr}, OwAll H vs ds S → ∀ {k : Nat} {w : V}, vs[k]? = some w →
    ∃ S1 S2 S3 d, ds[k]? = some d ∧ S = S1 ++ (S2 ++ S3) ∧ OwAll H (vs.take k) (ds.take k) S1 ∧ Ow H w d S2 ∧ OwAll H (vs.drop (k + 1)) (ds.drop (k + 1)) S3
  | _, _, _, .nil, k, w, h => by simp at h
  | _, _, _, .cons (S := S) (S' := S') (d := d) h q, 0, w, e => by
    rw [List.getElem?_cons_zero] at e
    cases e
    exact ⟨[], S, S', d, rfl, rfl, .nil, h, q⟩
  | _, _, _, .cons (S := S) (S' := S') h q, k + 1, w, e => by
    rw [List.getElem?_cons_succ] at e
    obtain ⟨S1, S2, S3, d, h1, h2, h3, h4, h5⟩ := OwAll.cut q e
    exact ⟨S ++ S1, S2, S3, d, by rw [List.getElem?_cons_succ]; exact h1, by rw [h2, List.append_assoc], .cons h h3, h4, h5⟩
theorem mkA_map : ∀ ds : List PyData, mkA ds = ds.map mk
  | [] => rfl
  | d :: ds => by rw [mkA, List.map_cons, mkA_map ds]
theorem noMA_mem : ∀ {ds : List PyData} {d : PyData}, noMA ds = true → d ∈ ds → noM d = true
  | e :: ds, d, h, hd => by
    rw [noMA, Bool.and_eq_true] at h
    rcases List.mem_cons.mp hd with z | z
    · rw [z]; exact h.1
    · exact noMA_mem h.2 z
/-- how many marks stand among data -/
def cntM (ds : List PyData) : Nat := (ds.filter fun d => match d with | .str x => x == mkS | _ => false).length
theorem cntM_mk : ∀ {ds : List PyData}, noMA ds = true → cntM (mkA ds) = 0
  | [], _ => rfl
  | d :: ds, h => by
    rw [noMA, Bool.and_eq_true] at h
    have ih := cntM_mk h.2
    unfold cntM at ih ⊢
    rw [mkA, List.filter_cons]
    have : (match mk d with | .str x => x == mkS | _ => false) = false := by
      have h1 := h.1
      cases d <;> simp [mk] <;> simp [noM] at h1
      exact h1
    rw [this]
    exact ih
end
/-! ### isinstance by two classes -/
theorem call_isiTK {X : Cx} (K : PySem.W.Frag) (e : X.K = K) : CallR X (.builtin "isinstance") (rIsiT K) := by subst e; exact call_isiT
theorem kit_two {K : PySem.W.Frag} {t c1 c2 : String} {b1 b2 : Bool} (h1 : kitB t c1 = some b1) (h2 : kitB t c2 = some b2) : PySem.W.kitAny K (.type t) [.type c1, .type c2] = some (b1 || b2) := by
  refine kitAny_cons (kit_ty h1) (fun e => ?_) (fun e => by rw [e]; rfl)
  rw [e, Bool.false_or]
  refine kitAny_cons (kit_ty h2) (fun e => ?_) (fun e => e)
  rw [e]
  rfl
theorem i_isiT2 {K : PySem.W.Frag} {H : Hp} {Q : VK} {x : V} {tp : Addr} {t c1 c2 : String} {b1 b2 : Bool} (hT : H tp = some (.tup [.ty c1, .ty c2])) (ty : TyX K H x (.type t)) (h1 : kitB t c1 = some b1) (h2 : kitB t c2 = some b2) (q : Q (.bl (b1 || b2)) H) : rIsiT K [x, .ref tp] H Q :=
  ⟨x, tp, _, _, _, _, rfl, hT, .cons (.ty _) (.cons (.ty _) .nil), ty, kit_two h1 h2, q⟩
/-! ### how often a text stands among data -/
def isS (y : Str) : PyData → Bool
  | .str z => z == y
  | _ => false
def rCntS (K : PySem.W.Frag) : V → List V → Hp → VK → Prop := fun x xs H Q => ∃ (p : Addr) (ys : List V) (y : Str) (ds : List PyData), x = .ref p ∧ xs = [.str y] ∧ SqL K H p ys ∧ DpAll K H ys ds ∧ PyData.canLayAll0 ds = true ∧ PyData.strOk y = true ∧ Q (.int (ds.countP (isS y) : Nat)) H
theorem one_cntS {X : Cx} {pins : List (Addr × Obj)} {s : Shared} {σ : L2.St} {H : Hp} (I : Inv X pins σ H s) {A : Around} (hu : A.units < cLine) {y : Str} {t : Tok} (hy : PyData.strOk y = true) {v : V} {d : PyData} {u : Value} (hd : Dp X.K H v d) (r : RelV v u) (hl : d.canLay0 = true) :
    SeqAt.EqAt A s u (.str y t) (eqU (.str y) u) ∧ eqU (.str y) u = isS y d := by
  have e : eqU (.str y) u = isS y d ∧ PyData.eqv d (.str y) = isS y d := by
    cases hd with
    | non => cases r; exact ⟨rfl, by simp [PyData.eqv, isS]⟩
    | bl b => cases r; exact ⟨rfl, by simp [PyData.eqv, isS]⟩
    | int i => obtain ⟨t, rfl⟩ := r; exact ⟨rfl, by simp [PyData.eqv, isS]⟩
    | str x => obtain ⟨t, rfl⟩ := r; exact ⟨rfl, by simp [PyData.eqv, isS]⟩
    | lst h q => cases r; exact ⟨rfl, by simp [PyData.eqv, isS]⟩
    | tup h q => cases r; exact ⟨rfl, by simp [PyData.eqv, isS]⟩
  obtain ⟨as, r1⟩ := Dp.reads I d v u hd r
  obtain ⟨bs, r2⟩ := Dp.reads I (.str y) (.str y) (.str y t) (.str y) ⟨t, rfl⟩
  refine ⟨?_, e.1⟩
  rw [e.1, ← e.2]
  exact SeqAt.eqAt_reads d (.str y) A s u (.str y t) as bs r1 r2 hl (by simpa [PyData.canLay0] using hy) (by simp [PyData.depth]; omega)
theorem all_cntS {X : Cx} {pins : List (Addr × Obj)} {s : Shared} {σ : L2.St} {H : Hp} (I : Inv X pins σ H s) {A : Around} (hu : A.units < cLine) {y : Str} {t : Tok} (hy : PyData.strOk y = true) : ∀ {ys : List V} {ds : List PyData} {us : List Value}, DpAll X.K H ys ds → Vals ys us → PyData.canLayAll0 ds = true →
    (∀ u ∈ us, SeqAt.EqAt A s u (.str y t) (eqU (.str y) u)) ∧ us.countP (eqU (.str y)) = ds.countP (isS y)
  | [], [], [], .nil, .nil, _ => ⟨nofun, rfl⟩
  | v :: ys, d :: ds, u :: us, .cons h q, .cons r rs, hl => by
    rw [PyData.canLayAll0, Bool.and_eq_true] at hl
    obtain ⟨h1, h2⟩ := one_cntS I hu (t := t) hy h r hl.1
    obtain ⟨h3, h4⟩ := all_cntS I hu (t := t) hy q rs hl.2
    refine ⟨fun u' hu' => ?_, by rw [List.countP_cons, List.countP_cons, h4, h2]⟩
    rcases List.mem_cons.mp hu' with e | e
    · rw [e]; exact h1
    · exact h3 u' e
theorem mt_lcountS {X : Cx} (hu : X.A.units + 64 < cLine) : MtR X "list.count" (rCntS X.K) := by
  intro pins s σ H x xs v us Q I rx rxs h
  obtain ⟨p, ys, y, ds, rfl, rfl, hs, hd', hl', hy, q⟩ := h
  cases rx
  obtain ⟨u, rfl, ru⟩ := rxs.one
  obtain ⟨t, rfl⟩ := ru
  obtain ⟨its, rv, ⟨⟨cls, dd, data, sl⟩, n, ho, hc, hdn, hd⟩, hlen⟩ := I.list hs
  simp only at hc hd
  subst hc hd
  obtain ⟨c1, c2⟩ := all_cntS (A := X.A.in1) I (by show X.A.units + 1 < cLine; omega) (t := t) hy hd' rv hl'
  refine call_meets PySem.F.slot_list_count ⟨_, ho, rfl⟩ PySem.F.entry_list_count (PySem.F.args_list_count_2 _ _)
    (SeqAt.list_countAt p its.toArray n dd sl (.str y t) (eqU (.str y))) ⟨ho, fun u' hu' => c1 u' (by simpa using hu'), ?_⟩
  refine ⟨.int _, H, I.tok _, ⟨s.toks, ?_⟩, q⟩
  show Value.int ((its.toArray.toList.countP (eqU (.str y)) : Nat) : Int) s.toks = Value.int _ s.toks
  rw [show its.toArray.toList = its from rfl, c2]
theorem mt_lcountSK {X : Cx} (K : PySem.W.Frag) (e : X.K = K) (hu : X.A.units + 64 < cLine) : MtR X "list.count" (rCntS K) := by subst e; exact mt_lcountS hu
theorem i_cntS {K : PySem.W.Frag} {H : Hp} {Q : VK} {p : Addr} {y : Str} {ds : List PyData} {n : Nat} (h : Dq H (.ref p) (.list ds)) (hl : PyData.canLayAll0 ds = true) (hy : PyData.strOk y = true) (e : ds.countP (isS y) = n) (q : Q (.int (n : Nat)) H) : rCntS K (.ref p) [.str y] H Q := by
  obtain ⟨a, xs, e1, h1, h2⟩ := h.list_inv
  cases e1
  subst e
  exact ⟨_, xs, y, ds, rfl, rfl, .of h1, h2.dp, hl, hy, q⟩
/-! ### walking what is a list or a tuple -/
def iSeq (K : PySem.W.Frag) (tl : TE) : TI := fun σ H R => tl σ H fun x H1 => ∃ a, x = .ref a ∧ (((∃ xs, SqL K H1 a xs) ∧ R (Itl K a) H1) ∨ ((∃ xs, SqT K H1 a xs) ∧ R (Itt K a) H1))
theorem pi_seq {X : Cx} {tg l : Expr} {tl : TE} (hl : PE X l tl) : PI X tg l (iSeq X.K tl) := by
  refine ⟨fun pins s σ H R I h => ?_⟩
  refine thn (hl.run pins s σ H _ I h) fun v s1 ⟨x, H1, I1, r1, q1⟩ => ?_
  obtain ⟨a, e, q1⟩ := q1
  subst e
  cases r1
  rcases q1 with ⟨⟨xs, hq⟩, q⟩ | ⟨⟨xs, hq⟩, q⟩
  · obtain ⟨its, rv, p, hz⟩ := I1.list hq
    refine wpAny_pyIter_list p.isList ?_
    refine ⟨s1.heap.objs.size, [s1.heap.objs.size], _, _, H1, rfl, I1.kept (t' := s1.toks) fun b o e => Heap.get?_push_of_some _ e, turn_list a _, ⟨_, Heap.get?_push_size _ rfl, rfl, rfl⟩, fun b hb => ?_, q⟩
    have e : b = s1.heap.objs.size := by simpa using hb
    subst e
    exact I1.fpOk (Nat.le_refl _) (I1.hok.fresh (Nat.le_refl _))
  · obtain ⟨its, rv, p, hz⟩ := I1.tuple hq
    refine wpAny_pyIter_tuple (show s1.heap.IsTuple a its.toArray from p) ?_
    refine ⟨s1.heap.objs.size, [s1.heap.objs.size], _, _, H1, rfl, I1.kept (t' := s1.toks) fun b o e => Heap.get?_push_of_some _ e, turn_tuple a _, ⟨_, Heap.get?_push_size _ rfl, rfl, rfl⟩, fun b hb => ?_, q⟩
    have e : b = s1.heap.objs.size := by simpa using hb
    subst e
    exact I1.fpOk (Nat.le_refl _) (I1.hok.fresh (Nat.le_refl _))
theorem pi_seqK {X : Cx} (K : PySem.W.Frag) (e : X.K = K) {tg l : Expr} {tl : TE} (hl : PE X l tl) : PI X tg l (iSeq K tl) := by subst e; exact pi_seq hl
theorem i_iseq {K : PySem.W.Frag} {tl : TE} {σ : L2.St} {H : Hp} {R : It → Hp → Prop} (h : tl σ H fun x H1 => ∃ a, x = .ref a ∧ (((∃ xs, SqL K H1 a xs) ∧ R (Itl K a) H1) ∨ ((∃ xs, SqT K H1 a xs) ∧ R (Itt K a) H1))) : iSeq K tl σ H R := h
theorem i_iseqL {K : PySem.W.Frag} {H : Hp} {p : Addr} {xs : List V} {A : Addr → Prop} {B : Addr → Prop} (h : SqL K H p xs) (q : A p) : ∃ a, V.ref p = .ref a ∧ (((∃ xs, SqL K H a xs) ∧ A a) ∨ ((∃ xs, SqT K H a xs) ∧ B a)) := ⟨p, rfl, .inl ⟨⟨xs, h⟩, q⟩⟩
theorem i_iseqT {K : PySem.W.Frag} {H : Hp} {p : Addr} {xs : List V} {A : Addr → Prop} {B : Addr → Prop} (h : SqT K H p xs) (q : B p) : ∃ a, V.ref p = .ref a ∧ (((∃ xs, SqL K H a xs) ∧ A a) ∨ ((∃ xs, SqT K H a xs) ∧ B a)) := ⟨p, rfl, .inr ⟨⟨xs, h⟩, q⟩⟩
/-! ### the marks, put and looked for -/
theorem OwAll.drop_cons {H : Hp} {xs : List V} {ds : List PyData} {S : List Addr} {i : Nat} {x : V} (h : OwAll H (xs.drop i) (ds.drop i) S) (e : xs[i]? = some x) :
    ∃ d S1 S2, ds[i]? = some d ∧ S = S1 ++ S2 ∧ Ow H x d S1 ∧ OwAll H (xs.drop (i + 1)) (ds.drop (i + 1)) S2 := by
  rw [drop_get e] at h
  cases hd : ds.drop i with
  | nil => rw [hd] at h; cases h
  | cons d r =>
    rw [hd] at h
    have hi : ds[i]? = some d := by
      have := List.getElem?_drop (xs := ds) (i := i) (j := 0)
      rw [hd] at this
      simpa using this.symm
    rw [drop_get hi] at hd
    cases hd
    cases h with
    | cons a b => exact ⟨_, _, _, hi, rfl, a, b⟩
theorem cnt_mk {ds : List PyData} (h : noMA ds = true) : (mkA ds ++ [PyData.str mkS]).countP (isS mkS) = 1 := by
  have e : (mkA ds).countP (isS mkS) = 0 := by
    rw [List.countP_eq_zero]
    intro d hd
    rw [mkA_map] at hd
    obtain ⟨d', hd', rfl⟩ := List.mem_map.mp hd
    have := noMA_mem h hd'
    cases d' <;> simp [mk, isS]
    simp [noM] at this
    exact this
  rw [List.countP_append, e]
  simp [isS, mkS]
mutual
theorem lay_mk : ∀ {d : PyData}, d.canLay0 = true → (mk d).canLay0 = true
  | .none, h => by simpa [mk] using h
  | .bool _, h => by simpa [mk] using h
  | .int _, h => by simpa [mk] using h
  | .str _, h => by simpa [mk] using h
  | .list ds, h => by
    rw [PyData.canLay0] at h
    rw [mk, PyData.canLay0]
    refine lay_all fun d hd => ?_
    rcases List.mem_append.mp hd with e | e
    · exact lay_mkA h d e
    · rw [List.mem_singleton.mp e, PyData.canLay0]; decide +kernel
  | .tuple ds, h => by
    rw [PyData.canLay0] at h
    rw [mk, PyData.canLay0]
    exact lay_all fun d hd => lay_mkA h d hd
  | .dict _, h => by simp [PyData.canLay0] at h
theorem lay_mkA : ∀ {ds : List PyData}, PyData.canLayAll0 ds = true → ∀ d ∈ mkA ds, d.canLay0 = true
  | [], _, _, hd => by cases hd
  | e :: ds, h, d, hd => by
    rw [PyData.canLayAll0, Bool.and_eq_true] at h
    rw [mkA] at hd
    rcases List.mem_cons.mp hd with z | z
    · rw [z]; exact lay_mk h.1
    · exact lay_mkA h.2 d z
end
/-! ### comprehensions of owned things -/
/-- owned, all of it new to H -/
structure OwN (H H' : Hp) (v : V) (d : PyData) (S : List Addr) : Prop where
  ow : Ow H' v d S
  nd : S.Nodup
  nw : ∀ b, b ∈ S → H b = none
theorem OwN.same {H H' H2 : Hp} {v : V} {d : PyData} {S : List Addr} (h : OwN H H' v d S) (s : Same H' H2) : OwN H H2 v d S := ⟨h.ow.same s, h.nd, h.nw⟩
theorem OwN.back {H0 H H' : Hp} {v : V} {d : PyData} {S : List Addr} (h : OwN H H' v d S) (s : Same H0 H) : OwN H0 H' v d S := ⟨h.ow, h.nd, fun b hb => s.free (h.nw b hb)⟩
theorem OwN.dq {H H' : Hp} {v : V} {d : PyData} {S : List Addr} (h : OwN H H' v d S) : Dq H' v d := h.ow.dq
section
variable {σ : L2.St} {H H1 : Hp} {Q : VK} {K : PySem.W.Frag} {D a l : Addr} {wi : TI} {g : TG} {tt : TT} {te : TE} {vs : List Nat} {lo : Int} {n : Nat} {xs : List V} {Qd : Hp → Prop}
theorem lcL_own (f : Nat → PyData) (nD : H1 D = none) (hn : xs.length ≤ 1000000) (hx : SqL K H1 l xs)
    (hs : ∀ (i : Nat) (x : V) H (Z : VK) (Y : Hp → Prop), xs[i]? = some x → Same H1 H → (∀ v S H4, OwN H H4 v (f i) S → Same H H4 → Z v H4) → LcTurn g tt te vs σ x H Z Y)
    (hd : ∀ S H, OwN H1 H (.ref D) (.list ((List.range xs.length).map f)) S → Same H1 H → Qd H) :
    ∃ W : Nat → Nat → Hp → Prop, (∃ m, W 0 m (upd H1 D (.lst []))) ∧ ∀ i m H, W i m H →
      ((Itl K l).stop i H ∧ Qd H) ∨ ((Itl K l).go i H ∧ ∃ Nx : Hp → Prop, (∀ H', Nx H' → ∃ m', m' < m ∧ W (i + 1) m' H') ∧ ∀ x H', (Itl K l).yld i H x H' → g x (wipe σ vs) H' fun σ2 H2 => wipe σ2 vs = wipe σ vs ∧ tt σ2 H2 fun b H3 =>
        if b = true then te σ2 H3 fun y H4 => ∃ acc, H4 D = some (.lst acc) ∧ acc.length < sizeLine ∧ Nx (upd H4 D (.lst (acc ++ [y]))) else Nx H3) := by
  refine lcL (xs := xs) (fun i acc H => acc.length = i ∧ Same H1 H ∧ ∃ S, OwAll H acc ((List.range i).map f) S ∧ S.Nodup ∧ D ∉ S ∧ ∀ b, b ∈ S → H1 b = none) nD ⟨rfl, Same.new nD, [], .nil, List.nodup_nil, by simp, nofun⟩ (fun i acc H _ q _ => q.2.1.seq hx) ?_ ?_
  · rintro i x acc H Z Y hi ⟨h1, h2, S, h3, h4, h5, h6⟩ hD hz _
    have hi' : i < xs.length := (List.getElem?_eq_some_iff.mp hi).1
    refine hs i x H Z Y hi h2 fun v S' H4 k1 k2 => ?_
    have hDS : D ∉ S' := fun z => by
      have := k1.nw D z
      rw [hD] at this
      cases this
    have kp : Kp [D] H4 (upd H4 D (.lst (acc ++ [v]))) := Kp.upd (by simp) Kp.refl
    have ht : ∀ b ys, b ∈ [D] → H4 b ≠ some (.tup ys) := fun b ys hb e => by
      rw [List.mem_singleton.mp hb, k2 _ _ hD] at e
      cases e
    have hd1 : ∀ b, b ∈ S → b ∉ [D] := fun b hb hb' => h5 (by rw [← List.mem_singleton.mp hb']; exact hb)
    have hd2 : ∀ b, b ∈ S' → b ∉ [D] := fun b hb hb' => hDS (by rw [← List.mem_singleton.mp hb']; exact hb)
    refine hz _ _ (k2 _ _ hD) (sz4' (by omega)) ⟨by rw [List.length_append, h1]; rfl, Same.mut (h2.trans k2) nD, S ++ S', ?_, ?_, ?_, ?_⟩
    · rw [List.range_succ, List.map_append]
      exact OwAll.snoc (OwAll.kp ht kp (h3.same k2) hd1) (Ow.kp ht kp k1.ow hd2)
    · rw [List.nodup_append]
      refine ⟨h4, k1.nd, fun b hb c hc e => ?_⟩
      subst e
      obtain ⟨ys, e'⟩ := h3.lists b hb
      rw [k1.nw b hc] at e'
      cases e'
    · intro z
      rcases List.mem_append.mp z with z | z
      · exact h5 z
      · exact hDS z
    · intro b hb
      rcases List.mem_append.mp hb with z | z
      · exact h6 b z
      · exact h2.free (k1.nw b z)
  · rintro acc H ⟨h1, h2, S, h3, h4, h5, h6⟩ hD
    exact hd (D :: S) H ⟨.lst hD h3, List.nodup_cons.mpr ⟨h5, h4⟩, fun b hb => by
      rcases List.mem_cons.mp hb with z | z
      · rw [z]; exact nD
      · exact h6 b z⟩ h2
end
/-- a tuple of two owned things -/
theorem OwN.pair {H H1 H2 : Hp} {v w : V} {d e : PyData} {S T : List Addr} {q : Addr} (h1 : OwN H H1 v d S) (h2 : OwN H1 H2 w e T) (s0 : Same H H1) (s : Same H1 H2) (hq : H2 q = none) : OwN H (upd H2 q (.tup [v, w])) (.ref q) (.tuple [d, e]) (S ++ T) := by
  have sn : Same H2 (upd H2 q (.tup [v, w])) := Same.new hq
  refine ⟨?_, ?_, ?_⟩
  · have := Ow.tup upd_same (OwAll.cons ((h1.ow.same s).same sn) (OwAll.cons (h2.ow.same sn) .nil))
    rw [List.append_nil] at this
    exact this
  · rw [List.nodup_append]
    refine ⟨h1.nd, h2.nd, fun b hb c hc e => ?_⟩
    subst e
    obtain ⟨ys, e'⟩ := h1.ow.lists b hb
    rw [h2.nw b hc] at e'
    cases e'
  · intro b hb
    rcases List.mem_append.mp hb with z | z
    · exact h1.nw b z
    · exact s0.free (h2.nw b z)
theorem own_ints {H : Hp} : ∀ ms : List Int, OwAll H (ms.map V.int) (ms.map PyData.int) []
  | [] => .nil
  | m :: ms => .cons (S := []) (S' := []) (.int m) (own_ints ms)
theorem ow_self {H : Hp} {a : Addr} {ds : List PyData} {S : List Addr} (h : Ow H (.ref a) (.list ds) S) : a ∈ S := by
  cases h with
  | lst _ _ => exact List.mem_cons_self
end Hf
/-! ## sorted(d), d a dict with pairs of whole numbers as keys -/
namespace Hf
open PySem PySem.Spec PyProof.Rows L2
/-- the pair that stands at a place -/
def pairAt (H : Hp) : V → Int × Int
  | .ref b => match H b with
    | some (.tup [.int i, .int j]) => (i, j)
    | _ => (0, 0)
  | _ => (0, 0)
theorem pairAt_of {H : Hp} {b : Addr} {i j : Int} (h : H b = some (.tup [.int i, .int j])) : pairAt H (.ref b) = (i, j) := by
  show (match H b with | some (.tup [.int i, .int j]) => (i, j) | _ => (0, 0)) = _
  rw [h]
/-- a key as a pair -/
def keyP : List Key → Int × Int
  | [.inl i, .inl j] => (i, j)
  | _ => (0, 0)
def rSortedDT : List V → Hp → VK → Prop := fun vs H Q => ∃ (d : Addr) (kvs : List (List Key × V)), vs = [V.ref d] ∧ H d = some (.dT kvs) ∧ (∀ kv ∈ kvs, ∃ i j : Int, kv.1 = [.inl i, .inl j]) ∧
  ∀ (ys : List V) (p : Addr), (∀ y ∈ ys, ∃ b, y = .ref b ∧ H b = some (.tup [.int (pairAt H y).1, .int (pairAt H y).2])) → (ys.map (pairAt H)).Perm (kvs.map fun kv => keyP kv.1) → (ys.map (pairAt H)).Pairwise (fun a b => SrtO.lexB b a = false) → H p = none → Q (.ref p) (upd H p (.lst ys))
theorem isKeys_at {H : Hp} : ∀ {kvs : List (List Key × V)} {bs : List Addr}, IsKeys H kvs bs → (∀ kv ∈ kvs, ∃ i j : Int, kv.1 = [.inl i, .inl j]) →
    (∀ b ∈ bs, H b = some (.tup [.int (pairAt H (.ref b)).1, .int (pairAt H (.ref b)).2])) ∧ (bs.map fun b => pairAt H (.ref b)) = kvs.map fun kv => keyP kv.1
  | _, _, .nil, _ => ⟨nofun, rfl⟩
  | kv :: kvs, b :: bs, .cons h t, hk => by
    obtain ⟨i, j, e⟩ := hk kv List.mem_cons_self
    obtain ⟨h1, h2⟩ := isKeys_at t fun kv hkv => hk kv (List.mem_cons_of_mem _ hkv)
    rw [e] at h
    have h' : H b = some (.tup [.int i, .int j]) := h
    have e2 := pairAt_of h'
    refine ⟨fun b' hb' => ?_, by rw [List.map_cons, List.map_cons, h2, e2, e]; rfl⟩
    rcases List.mem_cons.mp hb' with z | z
    · rw [z, e2]; exact h'
    · exact h1 b' z
theorem cr_sortedDT {X : Cx} (hc : X.calm = true) : CallR X (.builtin "sorted") rSortedDT := by
  intro pins s σ H vs us Q I r h
  obtain ⟨d, kvs, rfl, hd, hk, q⟩ := h
  obtain ⟨u, rfl, ru⟩ := r.one
  cases ru
  obtain ⟨z, hs, ks, pr, o, es, ep, ho, hx, hdt, he, hn⟩ := (show ObjOk X.prog X.w H s.heap d (.dT kvs) from I.hok d _ hd)
  have l1 : es.size = ks.length := size_of_entries he
  have l2 : kvs.length = ks.length := Paired.length pr
  obtain ⟨kb1, kb2⟩ := isKeys_at (isKeys_of pr) hk
  refine Calls.call_function_entry PyProof.Rows.kind_sorted PyProof.Rows.plain_sorted PyProof.Rows.entry_sorted (PyProof.Rows.args_sorted1 _) ?_
  unfold Builtin.«sorted»
  refine wpAny_bind (m := checkCount "sorted" 1 1 _) (wpAny_pure ?_)
  refine wpAny_bind (PySem.W.kdu_collect (A := X.A.in1) (kdl_raw hs hx hdt) (I.ok.hd hc) ho (by omega) fun h' tk acc kp it => ?_)
  have ea : acc.toList = ks.map fun x => Value.ref x.2.1 := by
    have hl : acc.toList.length = ks.length := by rw [Array.length_toList, it.1]; exact l1
    apply List.ext_getElem?
    intro j
    rw [List.getElem?_map]
    cases hj : acc.toList[j]? with
    | none =>
      have h1 := List.getElem?_eq_none_iff.mp hj
      rw [List.getElem?_eq_none (by omega)]
      all_goals rfl
    | some v =>
      obtain ⟨en, hen, hv⟩ := it.2 j v (by rw [← Array.getElem?_toList]; exact hj)
      have qe := entry_at he j
      rw [hen] at qe
      cases hb : ks[j]? with
      | none =>
        rw [hb] at qe
        exact nomatch (show some en = none from qe)
      | some b =>
        rw [hb] at qe
        have e2 : en = entryOfKey (tupleKind (mixKind X.prog X.w)) b := Option.some.inj qe
        rw [hv, e2]
        all_goals rfl
  have eb : acc.toList = (ks.map fun x => x.2.1).map Value.ref := by rw [ea, List.map_map]; all_goals rfl
  have hz : acc.toList.length ≤ sizeLine := by rw [ea, List.length_map]; omega
  have I1 : Inv X pins σ H { s with heap := h', toks := tk } := I.kept kp
  have ip : ∀ v ∈ acc.toList, ∃ b, v = Value.ref b ∧ Srt.IsPair h' v (pairAt H (backV v)).1 (pairAt H (backV v)).2 := fun v hv => by
    rw [eb] at hv
    obtain ⟨b, hb, rfl⟩ := List.mem_map.mp hv
    have ht := kb1 b hb
    obtain ⟨_, its2, r2, o2, ho2, hc2, n2, hd2⟩ := I1.hok _ _ ht
    obtain ⟨u1, u2, rfl, ri, rj⟩ := vals2 r2
    obtain ⟨t1, rfl⟩ := ri
    obtain ⟨t2, rfl⟩ := rj
    exact ⟨b, rfl, b, o2, t1, t2, n2, rfl, ho2, hc2, hd2⟩
  refine wpAny_bind (wpAny_newList ?_ hz)
  have hoL : (h'.push (seqObj "list" acc.toList.toArray 0)).get? h'.objs.size = some (seqObj "list" acc.toList.toArray 0) := Heap.get?_push_size _ rfl
  show wpAny _ _ _ _ _ { s with heap := h'.push (seqObj "list" acc.toList.toArray 0), toks := tk }
  refine wpAny_bind (wpAny_holding (wpAny_call_entry PyProof.Rows.slot_list_sort ⟨_, hoL, rfl⟩ PyProof.Rows.entry_list_sort
    (SrtO.list_sort_ord (s := { s with heap := h'.push (seqObj "list" acc.toList.toArray 0), toks := tk }) (SrtO.swo_lex fun u => pairAt H (backV u)) hoL hz (fun h2 => ?_) fun out g1 g2 => ⟨_, rfl, ?_⟩) (PyProof.Rows.args_list_sort _)))
  · refine SrtO.pairs_sortableO (by omega) (fun v hv => ?_) fun o e => ?_
    · obtain ⟨b, _, hp⟩ := ip v hv
      exact hp.keeps fun b o e _ => Heap.get?_push_of_some _ e
    · have e' : some o = some (seqObj "list" acc.toList.toArray 0) := e.symm.trans hoL
      cases e'
      intro c
      exact absurd (Value.type.inj c) (by decide)
  · obtain ⟨e', he'⟩ := PyProof.Rows.sortedHeap_at (vs := acc.toList) (out := out.toArray) hoL
    have h3 : ∀ u ∈ out, ∃ a, u = Value.ref a := fun u hu => by
      obtain ⟨b, e, _⟩ := ip u (g2.perm.mem_iff.mp hu)
      exact ⟨b, e⟩
    have hlen : (out.map backV).length ≤ sizeLine := by rw [List.length_map, g2.perm.length_eq]; exact hz
    refine wpAny_pure ⟨_, rfl, .ref h'.objs.size, upd H h'.objs.size (.lst (out.map backV)), I1.laid (t' := tk) (fun b u e => ?_) (Nat.le_refl _)
      (show ObjOk X.prog X.w _ _ _ (.lst (out.map backV)) from ⟨hlen, out, e', vals_back h3, he'⟩), rfl, q (out.map backV) _ (fun y hy => ?_) ?_ ?_ (I1.hok.fresh (Nat.le_refl _))⟩
    · have hb : b < h'.objs.size := Heap.lt_size e
      rw [PyProof.Rows.sortedHeap_old (Nat.ne_of_lt hb) (by rw [size_push']; exact Nat.lt_succ_of_lt hb)]
      exact Heap.get?_push_of_some _ e
    · obtain ⟨v, hv, rfl⟩ := List.mem_map.mp hy
      have hv' := g2.perm.mem_iff.mp hv
      rw [eb] at hv'
      obtain ⟨b, hb, rfl⟩ := List.mem_map.mp hv'
      exact ⟨b, rfl, kb1 b hb⟩
    · have h1 : ((out.map backV).map (pairAt H)).Perm ((acc.toList.map backV).map (pairAt H)) := (g2.perm.map _).map _
      have h2 : (acc.toList.map backV).map (pairAt H) = kvs.map fun kv => keyP kv.1 := by
        rw [eb, ← kb2, List.map_map, List.map_map, List.map_map, List.map_map]
        rfl
      rw [h2] at h1
      exact h1
    · rw [List.pairwise_map, List.pairwise_map]
      exact g1
theorem i_sortedDT {H : Hp} {Q : VK} {d : Addr} {kvs : List (List Key × V)} (h : H d = some (.dT kvs)) (hk : ∀ kv ∈ kvs, ∃ i j : Int, kv.1 = [.inl i, .inl j])
    (q : ∀ (ys : List V) (p : Addr), (∀ y ∈ ys, ∃ b, y = .ref b ∧ H b = some (.tup [.int (pairAt H y).1, .int (pairAt H y).2])) → (ys.map (pairAt H)).Perm (kvs.map fun kv => keyP kv.1) → (ys.map (pairAt H)).Pairwise (fun a b => SrtO.lexB b a = false) → H p = none → Q (.ref p) (upd H p (.lst ys))) : rSortedDT [.ref d] H Q :=
  ⟨d, kvs, rfl, h, hk, q⟩
end Hf
/-! ## streams: flows by what is left and sent -/
namespace Hf
open PySem PySem.Spec PyProof.Rows L2
abbrev Fl := Int × Int × Int
abbrev k2 (i j : Int) : List Key := [.inl i, .inl j]
theorem k2_inj {i j a b : Int} (h : k2 i j = k2 a b) : i = a ∧ j = b := by
  have h1 := List.cons.inj h
  have h2 := List.cons.inj h1.2
  exact ⟨Sum.inl.inj h1.1, Sum.inl.inj h2.1⟩
def addF (f : Int → Int → Int) (i j w : Int) : Int → Int → Int := fun a b => if a = i ∧ b = j then f a b + w else f a b
/-- a dict that holds flows -/
structure FlD (kvs : List (List Key × V)) (f : Int → Int → Int) : Prop where
  nn : ∀ i j, 0 ≤ f i j
  ks : ∀ kv ∈ kvs, ∃ i j, kv = (k2 i j, V.int (f i j)) ∧ f i j ≠ 0
  nd : (kvs.map (·.1)).Nodup
  vl : ∀ i j, valV kvs (k2 i j) = if f i j = 0 then none else some (.int (f i j))
theorem FlD.nil : FlD [] (fun _ _ => 0) := ⟨fun _ _ => Int.le_refl _, nofun, List.nodup_nil, fun _ _ => by rw [if_pos rfl]; rfl⟩
theorem FlD.get {kvs : List (List Key × V)} {f : Int → Int → Int} (h : FlD kvs f) (i j : Int) : (valV kvs (k2 i j)).getD (.int 0) = .int (f i j) := by
  rw [h.vl]
  split
  · next e => rw [e]; rfl
  · rfl
theorem putK_keys {κ : Type} [DecidableEq κ] {kvs : List (κ × V)} {k : κ} {v : V} : (putK kvs k v).map (·.1) = if (kvs.any fun kv => decide (kv.1 = k)) = true then kvs.map (·.1) else kvs.map (·.1) ++ [k] := by
  unfold putK
  split
  · rw [List.map_map]
    apply List.map_congr_left
    intro kv _
    show (if kv.1 = k then (kv.1, v) else kv).1 = kv.1
    split <;> rfl
  · rw [List.map_append]
    rfl
theorem FlD.add {kvs : List (List Key × V)} {f : Int → Int → Int} (h : FlD kvs f) {i j w : Int} (hw : 1 ≤ w) : FlD (putK kvs (k2 i j) (.int (f i j + w))) (addF f i j w) := by
  have hnn := h.nn
  refine ⟨fun a b => ?_, fun kv hkv => ?_, ?_, fun a b => ?_⟩
  · unfold addF
    have := hnn a b
    split <;> omega
  · unfold putK at hkv
    split at hkv
    · obtain ⟨kv', h1, h2⟩ := List.mem_map.mp hkv
      obtain ⟨a, b, e1, e2⟩ := h.ks kv' h1
      rw [e1] at h2
      simp only at h2
      by_cases c : k2 a b = k2 i j
      · rw [if_pos c] at h2
        obtain ⟨rfl, rfl⟩ := k2_inj c
        refine ⟨a, b, ?_, ?_⟩
        · rw [← h2]
          unfold addF
          rw [if_pos ⟨rfl, rfl⟩]
        · unfold addF
          rw [if_pos ⟨rfl, rfl⟩]
          have := hnn a b
          omega
      · rw [if_neg c] at h2
        have : ¬ (a = i ∧ b = j) := fun ⟨x, y⟩ => c (by rw [x, y])
        refine ⟨a, b, ?_, ?_⟩
        · rw [← h2]
          unfold addF
          rw [if_neg this]
        · unfold addF
          rw [if_neg this]
          exact e2
    · next hany =>
      rcases List.mem_append.mp hkv with z | z
      · obtain ⟨a, b, e1, e2⟩ := h.ks kv z
        have : ¬ (a = i ∧ b = j) := fun ⟨x, y⟩ => hany (by
          rw [List.any_eq_true]
          exact ⟨kv, z, decide_eq_true (by rw [e1, x, y])⟩)
        refine ⟨a, b, ?_, ?_⟩
        · rw [e1]
          unfold addF
          rw [if_neg this]
        · unfold addF
          rw [if_neg this]
          exact e2
      · rw [List.mem_singleton.mp z]
        refine ⟨i, j, ?_, ?_⟩
        · unfold addF
          rw [if_pos ⟨rfl, rfl⟩]
        · unfold addF
          rw [if_pos ⟨rfl, rfl⟩]
          have := hnn i j
          omega
  · rw [putK_keys]
    split
    · exact h.nd
    · next hany =>
      rw [List.nodup_append]
      refine ⟨h.nd, by simp, fun a ha b hb e => hany ?_⟩
      rw [List.mem_singleton.mp hb] at e
      obtain ⟨kv, h1, h2⟩ := List.mem_map.mp ha
      rw [List.any_eq_true]
      exact ⟨kv, h1, decide_eq_true (by rw [h2, e])⟩
  · rw [valV_put]
    by_cases c : k2 a b = k2 i j
    · rw [if_pos c]
      obtain ⟨rfl, rfl⟩ := k2_inj c
      have e : addF f a b w a b = f a b + w := if_pos ⟨rfl, rfl⟩
      have := hnn a b
      rw [e, if_neg (by omega)]
    · rw [if_neg c, h.vl]
      have e : addF f i j w a b = f a b := if_neg fun ⟨x, y⟩ => c (by rw [x, y])
      rw [e]
theorem FlD.len {kvs : List (List Key × V)} {f : Int → Int → Int} {i j w : Int} : (putK kvs (k2 i j) (.int (f i j + w))).length ≤ kvs.length + 1 := by
  unfold putK
  split
  · rw [List.length_map]; omega
  · rw [List.length_append]; exact Nat.le_refl _
/-! ### rows of a stream -/
def lt2 (a b : Fl) : Prop := a.1 < b.1 ∨ (a.1 = b.1 ∧ a.2.1 < b.2.1)
structure RowF (f : Int → Int → Int) (L : List Fl) : Prop where
  st : L.Pairwise lt2
  mem : ∀ e, e ∈ L ↔ e.2.2 = f e.1 e.2.1 ∧ f e.1 e.2.1 ≠ 0
theorem RowF.uniq {f : Int → Int → Int} {L M : List Fl} (h1 : RowF f L) (h2 : RowF f M) : L = M := by
  have key : ∀ {L M : List Fl}, L.Pairwise lt2 → M.Pairwise lt2 → (∀ e, e ∈ L ↔ e ∈ M) → L = M := by
    intro L
    induction L with
    | nil =>
      intro M _ _ h
      cases M with
      | nil => rfl
      | cons y M => exact absurd ((h y).mpr List.mem_cons_self) (by simp)
    | cons x L ih =>
      intro M hL hM h
      cases M with
      | nil => exact absurd ((h x).mp List.mem_cons_self) (by simp)
      | cons y M =>
        rw [List.pairwise_cons] at hL hM
        have irr : ∀ a : Fl, ¬ lt2 a a := fun a h => by unfold lt2 at h; omega
        have asy : ∀ a b : Fl, lt2 a b → lt2 b a → False := fun a b h1 h2 => by unfold lt2 at h1 h2; omega
        have exy : x = y := by
          rcases List.mem_cons.mp ((h x).mp List.mem_cons_self) with e | e
          · exact e
          · rcases List.mem_cons.mp ((h y).mpr List.mem_cons_self) with e' | e'
            · exact e'.symm
            · exact (asy _ _ (hL.1 y e') (hM.1 x e)).elim
        subst exy
        congr 1
        refine ih hL.2 hM.2 fun e => ⟨fun he => ?_, fun he => ?_⟩
        · rcases List.mem_cons.mp ((h e).mp (List.mem_cons_of_mem _ he)) with z | z
          · rw [z] at he
            exact (irr x (hL.1 x he)).elim
          · exact z
        · rcases List.mem_cons.mp ((h e).mpr (List.mem_cons_of_mem _ he)) with z | z
          · rw [z] at he
            exact (irr x (hM.1 x he)).elim
          · exact z
  exact key h1.st h2.st fun e => by rw [h1.mem, h2.mem]
/-- the row that sorted keys of a dict of flows make -/
theorem FlD.row {kvs : List (List Key × V)} {f : Int → Int → Int} (h : FlD kvs f) {ps : List (Int × Int)} (hp : ps.Perm (kvs.map fun kv => keyP kv.1)) (hs : ps.Pairwise fun a b => SrtO.lexB b a = false) : RowF f (ps.map fun p => (p.1, p.2, f p.1 p.2)) := by
  have hnd : (kvs.map fun kv => keyP kv.1).Nodup := by
    have : kvs.map (fun kv => keyP kv.1) = (kvs.map (·.1)).map keyP := by rw [List.map_map]; rfl
    rw [this]
    rw [List.Nodup, List.pairwise_map]
    refine List.Pairwise.imp_of_mem (R := fun a b => a ≠ b) (fun {a b} ha hb hne e => hne ?_) h.nd
    obtain ⟨kv, h1, rfl⟩ := List.mem_map.mp ha
    obtain ⟨kw, h2, rfl⟩ := List.mem_map.mp hb
    obtain ⟨i, j, e1, _⟩ := h.ks kv h1
    obtain ⟨i', j', e2, _⟩ := h.ks kw h2
    rw [e1, e2] at e ⊢
    have e' : (i, j) = (i', j') := e
    cases e'
    rfl
  have hpn : ps.Nodup := hp.nodup_iff.mpr hnd
  refine ⟨?_, fun e => ⟨fun he => ?_, fun ⟨he, hz⟩ => ?_⟩⟩
  · rw [List.pairwise_map]
    refine List.Pairwise.imp₂ (R := fun a b => SrtO.lexB b a = false) (S := fun a b => a ≠ b) (fun a b h1 h2 => ?_) hs hpn
    have h1' := SrtO.lexB_no.mp h1
    unfold lt2
    obtain ⟨a1, a2⟩ := a
    obtain ⟨b1, b2⟩ := b
    have : ¬ (a1 = b1 ∧ a2 = b2) := fun ⟨x, y⟩ => h2 (by rw [x, y])
    simp only at h1' ⊢
    omega
  · obtain ⟨p, hpm, rfl⟩ := List.mem_map.mp he
    obtain ⟨kv, h1, h2⟩ := List.mem_map.mp (hp.mem_iff.mp hpm)
    obtain ⟨i, j, e1, e2⟩ := h.ks kv h1
    rw [e1] at h2
    have h2' : (i, j) = p := h2
    subst h2'
    exact ⟨rfl, e2⟩
  · obtain ⟨l, s, w⟩ := e
    simp only at he hz
    have hv := h.vl l s
    rw [if_neg hz] at hv
    have hm : ∃ kv ∈ kvs, kv.1 = k2 l s := by
      unfold valV at hv
      cases hf : kvs.find? (fun kv => decide (kv.1 = k2 l s)) with
      | none => rw [hf] at hv; cases hv
      | some kv => exact ⟨kv, List.mem_of_find?_eq_some hf, by have := List.find?_some hf; simpa using this⟩
    obtain ⟨kv, h1, h2⟩ := hm
    have : (l, s) ∈ ps := hp.mem_iff.mpr (List.mem_map.mpr ⟨kv, h1, by rw [h2]; rfl⟩)
    exact List.mem_map.mpr ⟨(l, s), this, by rw [he]⟩
/-! ### the flows of a mix -/
def keyAt (p : List Int) (k : Nat) : Int × Int := ((p.drop k).sum, (p[k]?).getD 0)
def flowF : List (List Int × Int) → Nat → Int → Int → Int
  | [], _, _, _ => 0
  | pw :: m, k, l, s => (if keyAt pw.1 k = (l, s) then pw.2 else 0) + flowF m k l s
theorem flowF_snoc (k : Nat) (pw : List Int × Int) : ∀ m, flowF (m ++ [pw]) k = addF (flowF m k) (keyAt pw.1 k).1 (keyAt pw.1 k).2 pw.2
  | [] => by
    funext l s
    show (if keyAt pw.1 k = (l, s) then pw.2 else 0) + 0 = _
    unfold addF flowF
    by_cases c : keyAt pw.1 k = (l, s)
    · rw [if_pos c, if_pos ⟨by rw [c], by rw [c]⟩]; omega
    · rw [if_neg c, if_neg (fun ⟨x, y⟩ => c (Prod.ext x.symm y.symm))]; omega
  | q :: m => by
    funext l s
    have ih := congrFun (congrFun (flowF_snoc k pw m) l) s
    show (if keyAt q.1 k = (l, s) then q.2 else 0) + flowF (m ++ [pw]) k l s = _
    rw [ih]
    unfold addF
    have e : flowF (q :: m) k l s = (if keyAt q.1 k = (l, s) then q.2 else 0) + flowF m k l s := rfl
    rw [e]
    by_cases c : l = (keyAt pw.1 k).1 ∧ s = (keyAt pw.1 k).2
    · rw [if_pos c, if_pos c]; omega
    · rw [if_neg c, if_neg c]
theorem flowF_nil (k : Nat) : flowF [] k = fun _ _ => 0 := rfl
def flD (e : Fl) : PyData := .tuple [.int e.1, .int e.2.1, .int e.2.2]
def rowD (L : List Fl) : PyData := .list (L.map flD)
def strD (Ls : List (List Fl)) : PyData := .list (Ls.map rowD)
/-- the stream of a mix of plans on n fields -/
structure StrOf (m : List (List Int × Int)) (n : Nat) (Ls : List (List Fl)) : Prop where
  len : Ls.length = n
  row : ∀ (k : Nat) L, Ls[k]? = some L → RowF (flowF m k) L
theorem StrOf.uniq {m : List (List Int × Int)} {n : Nat} {Ls Ms : List (List Fl)} (h1 : StrOf m n Ls) (h2 : StrOf m n Ms) : Ls = Ms := by
  apply List.ext_getElem?
  intro k
  by_cases c : k < n
  · have e1 : Ls[k]? = some (Ls[k]'(by rw [h1.len]; exact c)) := List.getElem?_eq_getElem _
    have e2 : Ms[k]? = some (Ms[k]'(by rw [h2.len]; exact c)) := List.getElem?_eq_getElem _
    rw [e1, e2, (h1.row k _ e1).uniq (h2.row k _ e2)]
  · rw [List.getElem?_eq_none (by rw [h1.len]; omega), List.getElem?_eq_none (by rw [h2.len]; omega)]
/-! ### get with something else -/
section
variable {σ : L2.St} {H : Hp} {Q : VK} {a p : Addr} {kvs : List (List Key × V)} {i j : Int} {z : V}
def DgxR (x y z : V) (H : Hp) (Q : VK) : Prop := ∃ a o, x = V.ref a ∧ DGet H a y o ∧ Q (o.getD z) H
theorem i_dget2 {td ty tx : TE} (h : td σ H fun x H1 => ∃ a, x = .ref a ∧ IsD H1 a ∧ ty σ H1 fun y H2 => tx σ H2 fun z H3 => ∃ o, DGet H3 a y o ∧ Q (o.getD z) H3) : tDGet2 td ty tx σ H Q := h
theorem i_isD {A : Addr → Prop} (h : H a = some (.dT kvs)) (q : A a) : ∃ a', V.ref a = .ref a' ∧ IsD H a' ∧ A a' := ⟨a, rfl, .inr ⟨kvs, .inl h⟩, q⟩
theorem i_dgo2 {R : Option V → Prop} (h : H a = some (.dT kvs)) (e : H p = some (.tup [.int i, .int j])) (q : R (valV kvs (k2 i j))) : ∃ o, DGet H a (.ref p) o ∧ R o := ⟨_, DGet.t (k := k2 i j) h e, q⟩
theorem FlD.pairs {f : Int → Int → Int} (h : FlD kvs f) : ∀ kv ∈ kvs, ∃ i j : Int, kv.1 = [.inl i, .inl j] := fun kv hkv => by
  obtain ⟨i, j, e, _⟩ := h.ks kv hkv
  exact ⟨i, j, by rw [e]⟩
end
theorem mix_len {h : Int} {n : Nat} {m : List (List Int × Int)} (k : MixOk h n m) {pw : List Int × Int} (hp : pw ∈ m) : pw.1.length = n := (k.pl pw hp).1.1
/-! ### papers -/
def papD (Ls : List (List Fl)) (tb : List (List Int)) : PyData := .tuple [strD Ls, .list (tb.map planD)]
theorem fl_own {H : Hp} {v : V} {e : Fl} (h : Dq H v (flD e)) : Ow H v (flD e) [] := by
  obtain ⟨a, xs, rfl, h1, h2⟩ := h.tuple_inv
  cases h2 with
  | cons a b =>
    cases b with
    | cons c d =>
      cases d with
      | cons e f =>
        cases f
        obtain rfl := Dq.int_inv a
        obtain rfl := Dq.int_inv c
        obtain rfl := Dq.int_inv e
        exact .tup h1 (own_ints [_, _, _])
theorem row_own {H : Hp} : ∀ {xs : List V} {L : List Fl}, DqAll H xs (L.map flD) → OwAll H xs (L.map flD) []
  | _, [], h => by cases h; exact .nil
  | _, e :: L, h => by
    cases h with
    | cons a b => exact .cons (S := []) (S' := []) (fl_own a) (row_own b)
theorem strow_at {G : Hp} {xs : List V} {Ls : List (List Fl)} (q : DqAll G xs (Ls.map rowD)) {k : Nat} {w : V} (hw : xs[k]? = some w) : ∃ L p ys, Ls[k]? = some L ∧ w = .ref p ∧ G p = some (.lst ys) ∧ DqAll G ys (L.map flD) := by
  obtain ⟨d, e, q⟩ := q.get' hw
  rw [List.getElem?_map] at e
  cases g : Ls[k]? with
  | none => rw [g] at e; cases e
  | some L =>
    rw [g] at e
    cases e
    obtain ⟨p, ys, rfl, h1, h2⟩ := q.list_inv
    exact ⟨L, p, ys, rfl, rfl, h1, h2⟩
theorem pap_inv {H : Hp} {v : V} {Ls : List (List Fl)} {tb : List (List Int)} (h : Dq H v (papD Ls tb)) : ∃ a p q xs ys, v = .ref a ∧ H a = some (.tup [.ref p, .ref q]) ∧ H p = some (.lst xs) ∧ DqAll H xs (Ls.map rowD) ∧ H q = some (.lst ys) ∧ DqAll H ys (tb.map planD) := by
  obtain ⟨a, xs, rfl, h1, h2⟩ := Dq.tuple_inv h
  cases h2 with
  | cons a b =>
    cases b with
    | cons c d =>
      cases d
      obtain ⟨p, xs, rfl, e1, e2⟩ := Dq.list_inv a
      obtain ⟨q, ys, rfl, e3, e4⟩ := Dq.list_inv c
      exact ⟨_, p, q, xs, ys, rfl, h1, e1, e2, e3, e4⟩
/-- a paper that is not too great -/
structure PapOk (Ls : List (List Fl)) (tb : List (List Int)) : Prop where
  l1 : Ls.length ≤ 10
  l2 : ∀ L ∈ Ls, L.length ≤ 200
  t1 : tb.length ≤ 10
  t2 : ∀ r ∈ tb, r.length ≤ 20 ∧ ∀ x ∈ r, x.natAbs < 2 ^ 120
def tbBy (b : Int) (tb : List (List Int)) : List (List Int) := tb.map fun r => r.map fun x => x * b
theorem lay_row (L : List Fl) : (rowD L).canLay0 = true := by
  rw [rowD, PyData.canLay0]
  exact lay_all fun d hd => by
    obtain ⟨e, _, rfl⟩ := List.mem_map.mp hd
    simp [flD, PyData.canLay0, PyData.canLayAll0]
theorem lay_str (Ls : List (List Fl)) : (strD Ls).canLay0 = true := by
  rw [strD, PyData.canLay0]
  exact lay_all fun d hd => by
    obtain ⟨L, _, rfl⟩ := List.mem_map.mp hd
    exact lay_row L
theorem dep_row (L : List Fl) : dep (rowD L) ≤ 2 := by
  have := depA_le (k := 1) (ds := L.map flD) fun d hd => by
    obtain ⟨e, _, rfl⟩ := List.mem_map.mp hd
    simp [flD, dep, depA]
  rw [rowD, dep]
  omega
theorem dep_str (Ls : List (List Fl)) : dep (strD Ls) ≤ 3 := by
  have := depA_le (k := 2) (ds := Ls.map rowD) fun d hd => by
    obtain ⟨L, _, rfl⟩ := List.mem_map.mp hd
    exact dep_row L
  rw [strD, dep]
  omega
theorem wid_row {k : Nat} (L : List Fl) (h : L.length ≤ k) (h3 : 3 ≤ k) : wid (rowD L) ≤ k := by
  have := widA_le (k := k) (ds := L.map flD) fun d hd => by
    obtain ⟨e, _, rfl⟩ := List.mem_map.mp hd
    simp only [flD, wid, widA, List.length_cons, List.length_nil]
    omega
  rw [rowD, wid, List.length_map]
  omega
theorem wid_str {k : Nat} (Ls : List (List Fl)) (h : Ls.length ≤ k) (h2 : ∀ L ∈ Ls, L.length ≤ k) (h3 : 3 ≤ k) : wid (strD Ls) ≤ k := by
  have := widA_le (k := k) (ds := Ls.map rowD) fun d hd => by
    obtain ⟨L, hL, rfl⟩ := List.mem_map.mp hd
    exact wid_row L (h2 L hL) h3
  rw [strD, wid, List.length_map]
  omega
theorem noMA_all : ∀ {ds : List PyData}, (∀ d ∈ ds, noM d = true) → noMA ds = true
  | [], _ => rfl
  | d :: ds, h => by
    rw [noMA, h d List.mem_cons_self, noMA_all fun e he => h e (List.mem_cons_of_mem _ he)]
    rfl
theorem noM_ints (r : List Int) : noMA (r.map PyData.int) = true := noMA_all fun d hd => by
  obtain ⟨x, _, rfl⟩ := List.mem_map.mp hd
  rfl
theorem noM_str (Ls : List (List Fl)) : noM (strD Ls) = true := noMA_all fun d hd => by
  obtain ⟨L, _, rfl⟩ := List.mem_map.mp hd
  exact noMA_all fun d hd => by
    obtain ⟨e, _, rfl⟩ := List.mem_map.mp hd
    rfl
theorem noM_rows (rs : List (List Int)) : noM (.list (rs.map planD)) = true := noMA_all fun d hd => by
  obtain ⟨r, _, rfl⟩ := List.mem_map.mp hd
  exact noM_ints r
theorem pap_facts {Ls : List (List Fl)} {tb : List (List Int)} (k : PapOk Ls tb) : (papD Ls tb).canLay0 = true ∧ noM (papD Ls tb) = true ∧ (dep (papD Ls tb) < 12 ∧ 1 ≤ dep (papD Ls tb) ∧ wid (papD Ls tb) ≤ 1000) ∧ SeqAt.shaped (papD Ls tb) = true := by
  have h1 : (papD Ls tb).canLay0 = true := by
    rw [papD, PyData.canLay0]
    exact lay_all fun d hd => by
      simp only [List.mem_cons, List.not_mem_nil, or_false] at hd
      rcases hd with e | e
      · rw [e]; exact lay_str Ls
      · rw [e]; exact lay_rows tb
  have h2 : noM (papD Ls tb) = true := noMA_all fun d hd => by
    simp only [List.mem_cons, List.not_mem_nil, or_false] at hd
    rcases hd with e | e
    · rw [e]; exact noM_str Ls
    · rw [e]; exact noM_rows tb
  have d1 := dep_str Ls
  have d2 := dep_rows tb
  have w1 := wid_str (k := 200) Ls (by have := k.l1; omega) k.l2 (by omega)
  have w2 := wid_rows (k := 200) tb (by have := k.t1; omega) (fun r hr => by have := (k.t2 r hr).1; omega)
  have h3 : dep (papD Ls tb) < 12 ∧ 1 ≤ dep (papD Ls tb) ∧ wid (papD Ls tb) ≤ 1000 := by
    simp only [papD, dep, depA, wid, widA, List.length_cons, List.length_nil] at d1 d2 w1 w2 ⊢
    omega
  exact ⟨h1, h2, h3, shaped_of h1 (by omega)⟩
theorem tbBy_shape {b : Int} {Ls : List (List Fl)} {tb : List (List Int)} (k : PapOk Ls tb) : (papD Ls (tbBy b tb)).canLay0 = true ∧ noM (papD Ls (tbBy b tb)) = true ∧ (dep (papD Ls (tbBy b tb)) < 12 ∧ 1 ≤ dep (papD Ls (tbBy b tb)) ∧ wid (papD Ls (tbBy b tb)) ≤ 1000) ∧ SeqAt.shaped (papD Ls (tbBy b tb)) = true := by
  have h1 : (papD Ls (tbBy b tb)).canLay0 = true := by
    rw [papD, PyData.canLay0]
    exact lay_all fun d hd => by
      simp only [List.mem_cons, List.not_mem_nil, or_false] at hd
      rcases hd with e | e
      · rw [e]; exact lay_str Ls
      · rw [e]; exact lay_rows _
  have h2 : noM (papD Ls (tbBy b tb)) = true := noMA_all fun d hd => by
    simp only [List.mem_cons, List.not_mem_nil, or_false] at hd
    rcases hd with e | e
    · rw [e]; exact noM_str Ls
    · rw [e]; exact noM_rows _
  have d1 := dep_str Ls
  have d2 := dep_rows (tbBy b tb)
  have w1 := wid_str (k := 200) Ls (by have := k.l1; omega) k.l2 (by omega)
  have w2 := wid_rows (k := 200) (tbBy b tb) (by rw [tbBy, List.length_map]; have := k.t1; omega) (fun r hr => by
    obtain ⟨r2, h2, rfl⟩ := List.mem_map.mp hr
    rw [List.length_map]
    have := (k.t2 r2 h2).1
    omega)
  have h3 : dep (papD Ls (tbBy b tb)) < 12 ∧ 1 ≤ dep (papD Ls (tbBy b tb)) ∧ wid (papD Ls (tbBy b tb)) ≤ 1000 := by
    simp only [papD, dep, depA, wid, widA, List.length_cons, List.length_nil] at d1 d2 w1 w2 ⊢
    omega
  exact ⟨h1, h2, h3, shaped_of h1 (by omega)⟩
theorem Ow.pk {a : Addr} {m c : Int} {H H' : Hp} {v : V} {d : PyData} {S : List Addr} (p : Pk a m H c) (s : But a H H') (h : Ow H v d S) (n : ∀ b, b ∈ S → b ≠ a) : Ow H' v d S := by
  have lt : ∀ b ys, b ∈ [a] → H b ≠ some (.tup ys) := fun b ys hb e => by
    obtain ⟨_, _, e', _⟩ := p
    rw [List.mem_singleton.mp hb, e'] at e
    cases e
  exact Ow.kp lt (fun b o hb h => s _ _ (fun e => hb (by simp [e])) h) h fun b hb hb' => n b hb (List.mem_singleton.mp hb')
theorem ow_pap {H : Hp} {v : V} {Ls : List (List Fl)} {tb : List (List Int)} {S : List Addr} (h : Ow H v (papD Ls tb) S) : ∃ a p q ys Sa Sb, v = .ref a ∧ H a = some (.tup [.ref p, .ref q]) ∧ S = Sa ++ q :: Sb ∧ Ow H (.ref p) (strD Ls) Sa ∧ H q = some (.lst ys) ∧ OwAll H ys (tb.map planD) Sb := by
  unfold papD at h
  cases h with
  | tup h1 h2 =>
    cases h2 with
    | cons a b =>
      cases b with
      | cons c d =>
        cases d
        cases c with
        | lst h3 h4 =>
          obtain ⟨p, xs, rfl, _, _⟩ := a.dq.list_inv
          exact ⟨_, p, _, _, _, _, rfl, h1, by rw [List.append_nil], a, h3, h4⟩
/-- a paper whose table was turned about through its address -/
theorem pap_turn {H : Hp} {a p q : Addr} {ys : List V} {Ls : List (List Fl)} {tb : List (List Int)} {Sa Sb : List Addr} (h1 : H a = some (.tup [.ref p, .ref q])) (h2 : Ow H (.ref p) (strD Ls) Sa) (h3 : H q = some (.lst ys)) (h4 : OwAll H ys (tb.map planD) Sb) (nd : (Sa ++ q :: Sb).Nodup) : Dq (upd H q (.lst ys.reverse)) (.ref a) (papD Ls tb.reverse) := by
  have lt : ∀ b ys, b ∈ [q] → H b ≠ some (.tup ys) := fun b ys hb e => by
    rw [List.mem_singleton.mp hb, h3] at e
    cases e
  have kp : Kp [q] H (upd H q (.lst ys.reverse)) := Kp.upd (by simp) Kp.refl
  rw [List.nodup_append] at nd
  obtain ⟨_, n2, n3⟩ := nd
  rw [List.nodup_cons] at n2
  have haq : a ≠ q := fun e => by
    rw [e, h3] at h1
    cases h1
  refine .tup (lk_upd haq h1) (.cons (Ow.kp lt kp h2 fun b hb hb' => n3 b hb q List.mem_cons_self (List.mem_singleton.mp hb')).dq (.cons (.lst upd_same ?_) .nil))
  rw [List.map_reverse]
  exact (OwAll.kp lt kp h4 fun b hb hb' => n2.1 (by rw [← List.mem_singleton.mp hb']; exact hb)).dq.reverse
theorem PapOk.reverse {Ls : List (List Fl)} {tb : List (List Int)} (k : PapOk Ls tb) : PapOk Ls tb.reverse := ⟨k.l1, k.l2, by rw [List.length_reverse]; exact k.t1, fun r hr => k.t2 r (List.mem_reverse.mp hr)⟩
theorem tbBy_neg (tb : List (List Int)) : tbBy (-1) tb = tb.map fun r => r.map fun x => 0 - x := by
  unfold tbBy
  refine List.map_congr_left fun r _ => List.map_congr_left fun x _ => by omega
theorem tbBy_one (tb : List (List Int)) : tbBy 1 tb = tb := by
  unfold tbBy
  have : ∀ r : List Int, (r.map fun x => x * 1) = r := fun r => by simp
  simp
end Hf
namespace K67
open PySem PySem.Spec PyProof.Rows L2 Hf
local macro_rules | `(tactic| walk_at "g_ne") => `(tactic| first | (with_reducible assumption) | (apply Hf.ne_at; (with_reducible assumption)) | ((with_reducible refine' Hf.ne_new ?n9 ?h9); (case n9 => (with_reducible assumption)); (case h9 => walk_at "g_lk")) | ((with_reducible refine' Hf.ne_new' ?n9 ?h9); (case n9 => (with_reducible assumption)); (case h9 => walk_at "g_lk")) | fail "g_ne")
local macro_rules | `(tactic| walk_at "g_lk") => `(tactic| first | (with_reducible assumption) | (with_reducible exact L2.upd_same) | ((with_reducible refine' Hf.lk_new ?n9 ?h9); (case n9 => (with_reducible assumption)); (case h9 => walk_at "g_lk")) | ((with_reducible refine' Hf.lk_updG ?g9 ?n9 ?h9); (case g9 => ((fail_if_success ((apply Hf.Guard.of); (with_reducible assumption))); exact trivial)); (case n9 => walk_at "g_ne"); (case h9 => walk_at "g_lk")) | ((with_reducible refine' Hf.lk_same ?n9 ?h9); (case n9 => (with_reducible assumption)); (case h9 => walk_at "g_lk")) | ((with_reducible refine' Hf.lk_but ?m9 ?n9 ?h9); (case m9 => (with_reducible assumption)); (case n9 => walk_at "g_ne"); (case h9 => walk_at "g_lk")) | ((with_reducible refine' Hf.lk_but2 ?m9 ?n9 ?n8 ?h9); (case m9 => (with_reducible assumption)); (case n9 => walk_at "g_ne"); (case n8 => walk_at "g_ne"); (case h9 => walk_at "g_lk")) | fail "g_lk")
local macro_rules | `(tactic| walk_at "g_sq") => `(tactic| first | (with_reducible assumption) | (with_reducible exact L2.SqL.of L2.upd_same) | (with_reducible exact L2.SqT.of L2.upd_same) | (with_reducible exact L2.SqL.of (by with_reducible assumption)) | (with_reducible exact L2.SqT.of (by with_reducible assumption)) | ((with_reducible refine' Hf.lkL_new ?n9 ?h9); (case n9 => (with_reducible assumption)); (case h9 => walk_at "g_sq")) | ((with_reducible refine' Hf.lkT_new ?n9 ?h9); (case n9 => (with_reducible assumption)); (case h9 => walk_at "g_sq")) | ((with_reducible refine' Hf.lkL_updG ?g9 ?n9 ?h9); (case g9 => ((fail_if_success ((apply Hf.Guard.of); (with_reducible assumption))); exact trivial)); (case n9 => walk_at "g_ne"); (case h9 => walk_at "g_sq")) | ((with_reducible refine' Hf.lkT_updG ?g9 ?n9 ?h9); (case g9 => ((fail_if_success ((apply Hf.Guard.of); (with_reducible assumption))); exact trivial)); (case n9 => walk_at "g_ne"); (case h9 => walk_at "g_sq")) | ((with_reducible refine' L2.Same.seq ?n9 ?h9); (case n9 => (with_reducible assumption)); (case h9 => walk_at "g_sq")) | ((with_reducible refine' Hf.Same.seqT ?n9 ?h9); (case n9 => (with_reducible assumption)); (case h9 => walk_at "g_sq")) | ((with_reducible refine' Hf.But.seq ?m9 ?n9 ?h9); (case m9 => (with_reducible assumption)); (case n9 => walk_at "g_ne"); (case h9 => walk_at "g_sq")) | ((with_reducible refine' Hf.But.seqT ?m9 ?n9 ?h9); (case m9 => (with_reducible assumption)); (case n9 => walk_at "g_ne"); (case h9 => walk_at "g_sq")) | ((with_reducible refine' Hf.But2.seq ?m9 ?n9 ?n8 ?h9); (case m9 => (with_reducible assumption)); (case n9 => walk_at "g_ne"); (case n8 => walk_at "g_ne"); (case h9 => walk_at "g_sq")) | ((with_reducible refine' Hf.But2.seqT ?m9 ?n9 ?n8 ?h9); (case m9 => (with_reducible assumption)); (case n9 => walk_at "g_ne"); (case n8 => walk_at "g_ne"); (case h9 => walk_at "g_sq")) | fail "g_sq")
local macro_rules | `(tactic| walk_at "g_but") => `(tactic| first | (with_reducible exact Hf.But.refl _ _) | (with_reducible assumption) | (with_reducible refine Hf.But.newT (by with_reducible assumption) ?_; walk_at "g_but") | (with_reducible refine Hf.But.upd ?_; walk_at "g_but") | (with_reducible refine Hf.But.transT (by with_reducible assumption) ?_; walk_at "g_but") | (with_reducible refine Hf.But.transS (by with_reducible assumption) ?_; walk_at "g_but") | fail "g_but")
local macro_rules | `(tactic| walk_at "g_but2") => `(tactic| first | (with_reducible exact Hf.But2.refl _ _ _) | (with_reducible assumption) | (with_reducible refine Hf.But2.newT (by with_reducible assumption) ?_; walk_at "g_but2") | (with_reducible refine Hf.But2.updL ?_; walk_at "g_but2") | (with_reducible refine Hf.But2.updR ?_; walk_at "g_but2") | (with_reducible refine Hf.But2.transT (by with_reducible assumption) ?_; walk_at "g_but2") | (with_reducible refine Hf.But2.transS (by with_reducible assumption) ?_; walk_at "g_but2") | (with_reducible refine Hf.But2.transL (by with_reducible assumption) ?_; walk_at "g_but2") | (with_reducible refine Hf.But2.transR (by with_reducible assumption) ?_; walk_at "g_but2") | (with_reducible refine Hf.But2.mut (by with_reducible assumption) ?_; walk_at "g_but2") | (with_reducible refine Hf.But2.butT (by with_reducible assumption) (by with_reducible assumption) ?_; walk_at "g_but2") | fail "g_but2")
local macro_rules | `(tactic| walk_at "g_same") => `(tactic| first | (with_reducible exact L2.Same.refl _) | (with_reducible assumption) | (with_reducible refine Hf.Same.newT' (by with_reducible assumption) ?_; walk_at "g_same") | (with_reducible refine Hf.Same.mut ?_ (by walk_at "g_free"); walk_at "g_same") | (with_reducible refine Hf.Same.butT (by with_reducible assumption) (by walk_at "g_free") ?_; walk_at "g_same") | (with_reducible refine Hf.Same.but2T (by with_reducible assumption) (by walk_at "g_free") (by walk_at "g_free") ?_; walk_at "g_same") | (with_reducible refine Hf.Same.transT (by with_reducible assumption) ?_; walk_at "g_same") | fail "g_same")
local macro_rules | `(tactic| walk_at "g_free") => `(tactic| first | (with_reducible assumption) | ((with_reducible refine' Hf.Same.free' (by with_reducible assumption) ?h7); (case h7 => walk_at "g_same")) | ((with_reducible refine' Hf.But.free (by with_reducible assumption) ?h7 ?h8); (case h7 => walk_at "g_but"); (case h8 => walk_at "g_lk")) | ((with_reducible refine' Hf.But2.free (by with_reducible assumption) ?h7 ?h8 ?h6); (case h7 => walk_at "g_but2"); (case h8 => walk_at "g_lk"); (case h6 => walk_at "g_lk")) | fail "g_free")
local macro_rules | `(tactic| walk_at "g_set") => `(tactic| first | (with_reducible exact Hf.set_n0) | (with_reducible exact Hf.set_n1) | (with_reducible exact Hf.set_n2) | (with_reducible exact Hf.set_n3) | (with_reducible exact Hf.set_n4) | (with_reducible exact Hf.set_n5) | (with_reducible exact Hf.set_n6) | (with_reducible exact Hf.set_n7) | (with_reducible exact Hf.set_n8) | (with_reducible exact Hf.set_n9) | (with_reducible exact Hf.set_n10) | (with_reducible exact Hf.set_n11) | (with_reducible exact Hf.set_n12) | (with_reducible exact Hf.set_n13) | (with_reducible exact Hf.set_n14) | (with_reducible exact Hf.set_n15) | (with_reducible exact Hf.set_n16) | (with_reducible exact Hf.set_n17) | (with_reducible exact Hf.set_n18) | (with_reducible exact Hf.set_n19) | (with_reducible exact Hf.set_n20) | (with_reducible exact Hf.set_n21) | (with_reducible exact Hf.set_n22) | (with_reducible exact Hf.set_n23) | (with_reducible exact Hf.set_n24) | (with_reducible exact Hf.set_n25) | (with_reducible exact Hf.set_n26) | (with_reducible exact Hf.set_n27) | (with_reducible exact Hf.set_n28) | (with_reducible exact Hf.set_n29) | fail "g_set")
local macro_rules | `(tactic| walk_at "g_sz") => `(tactic| first | exact Hf.sz4 (by decide) | exact Hf.sz4' (by decide) | (refine Hf.sz4 ?_; simp; done) | (refine Hf.sz4 ?_; simp; omega) | (refine Hf.sz4 ?_; simp only [List.length_cons, List.length_nil, List.length_take, List.length_drop, List.length_map, List.length_append, List.length_replicate]; omega) | (refine Hf.sz4' ?_; simp; omega) | (refine Hf.sz4' ?_; omega) | (refine Hf.sz4 ?_; omega) | fail "g_sz")
local macro_rules | `(tactic| walk_at "g_at") => `(tactic| first | rfl | assumption | fail "g_at")
local macro_rules | `(tactic| walk_at "g_c") => `(tactic| first | assumption | omega | decide | (refine Hf.mulL ?_; omega) | (refine Hf.mulR ?_; omega) | (refine Hf.divS ?_ ?_ <;> omega) | (refine Hf.mulL ?_; split <;> omega) | (refine ⟨?_, ?_, ?_⟩ <;> first | omega | decide) | (refine ⟨?_, ?_⟩ <;> first | assumption | omega) | fail "g_c")
local macro_rules | `(tactic| walk_at "g_ixn") => `(tactic| first | (show L2.ixN _ _ = some 0; rfl) | (show L2.ixN _ _ = some 1; rfl) | (show L2.ixN _ _ = some 2; rfl) | (show L2.ixN _ _ = some 3; rfl) | (show L2.ixN _ _ = some 4; rfl) | (show L2.ixN _ _ = some 5; rfl) | (show L2.ixN _ _ = some 6; rfl) | (show L2.ixN _ _ = some 7; rfl) | assumption | fail "g_ixn")
local macro_rules | `(tactic| walk_at "g_pow") => `(tactic| first | (show (10 : Int) ^ (9 : Int).toNat = 1000000000; rfl) | (show (10 : Int) ^ (18 : Int).toNat = 1000000000000000000; rfl) | (show (10 : Int) ^ (20 : Int).toNat = 100000000000000000000; rfl) | (show (10 : Int) ^ (29 : Int).toNat = 100000000000000000000000000000; rfl) | (show (10 : Int) ^ (26 : Int).toNat = 100000000000000000000000000; rfl) | (show (10 : Int) ^ (10 : Int).toNat = 10000000000; rfl) | (show (10 : Int) ^ (19 : Int).toNat = 10000000000000000000; rfl) | (show (10 : Int) ^ (27 : Int).toNat = 1000000000000000000000000000; rfl) | (show (10 : Int) ^ (28 : Int).toNat = 10000000000000000000000000000; rfl) | (show (10 : Int) ^ (25 : Int).toNat = 10000000000000000000000000; rfl) | (show (10 : Int) ^ (30 : Int).toNat = 1000000000000000000000000000000; rfl) | (show (10 : Int) ^ (2 : Int).toNat = 100; rfl) | (show (10 : Int) ^ (3 : Int).toNat = 1000; rfl) | (show (_ : Int) ^ (3 : Int).toNat = _; rfl) | fail "g_pow")
local macro_rules | `(tactic| walk_at "g_ty") => `(tactic| first | exact .base .non | exact .base (.bl _) | exact .base (.int _) | exact .base (.str _) | exact .base (.lst (by walk_at "g_lk")) | exact .base (.tup (by walk_at "g_lk")) | exact .base (.dK (by walk_at "g_lk")) | exact .base (.dT (by walk_at "g_lk")) | fail "g_ty")
local macro_rules | `(tactic| walk_at "g_pre") => `(tactic| first | (with_reducible assumption) | walk_at "g_lk" | walk_at "g_sq" | walk_at "g_but" | walk_at "g_but2" | walk_at "g_same" | walk_at "g_free" | omega | (refine ⟨?_, ?_⟩ <;> omega) | exact .inl (by omega) | exact .inr (by omega) | (with_reducible assumption) | fail "g_pre")
local macro_rules | `(tactic| walk_at "g_call") => `(tactic| fail "g_call: no rule")
local macro_rules | `(tactic| walk_at "g_val") => `(tactic| first
  | (with_reducible refine' Hf.i_I0 ?_)
  | ((with_reducible refine' Hf.i_pow ?k1 ?k2 ?_); (case k1 => walk_at "g_c"); (case k2 => walk_at "g_pow"))
  | ((with_reducible refine' Hf.i_I ?k1 ?_); (case k1 => walk_at "g_c"))
  | (with_reducible refine' Hf.i_U ?_)
  | (with_reducible refine' Hf.i_eqI ?_)
  | (with_reducible refine' Hf.i_neI ?_)
  | (with_reducible refine' Hf.i_eqB ?_)
  | (with_reducible refine' Hf.i_neB ?_)
  | (with_reducible refine' Hf.i_eqS ?_)
  | (with_reducible refine' Hf.i_neS ?_)
  | ((with_reducible refine' Hf.i_ixL ?k1 ?k2 ?_); (case k1 => walk_at "g_sq"); (case k2 => walk_at "g_at"))
  | ((with_reducible refine' Hf.i_ixT ?k1 ?k2 ?_); (case k1 => walk_at "g_sq"); (case k2 => walk_at "g_at"))
  | ((with_reducible refine' Hf.i_ix2I ?k1 ?k2 ?k3 ?_); (case k1 => walk_at "g_sq"); (case k2 => omega); (case k3 => omega); intro _ _)
  | ((with_reducible refine' Hf.i_ix3I ?k1 ?k2 ?k3 ?_); (case k1 => walk_at "g_sq"); (case k2 => omega); (case k3 => omega); intro _ _)
  | ((with_reducible refine' Hf.i_ix4I ?k1 ?k2 ?k3 ?_); (case k1 => walk_at "g_sq"); (case k2 => omega); (case k3 => omega); intro _ _)
  | ((with_reducible refine' Hf.i_ix3R ?k1 ?k2 ?k3 ?_); (case k1 => walk_at "g_sq"); (case k2 => omega); (case k3 => omega); intro _ _)
  | ((with_reducible refine' Hf.i_ix4R ?k1 ?k2 ?k3 ?_); (case k1 => walk_at "g_sq"); (case k2 => omega); (case k3 => omega); intro _ _)
  | (with_reducible refine' Hf.i_abs ?_)
  | (with_reducible refine' Hf.i_int2 ?_)
  | (with_reducible refine' Hf.i_int1 ?_)
  | (with_reducible refine' Hf.i_intb ?_)
  | ((with_reducible refine' Hf.i_isi ?k1 ?k2 ?_); (case k1 => walk_at "g_ty"); (case k2 => first | (show L2.kitB _ _ = some true; decide +kernel) | (show L2.kitB _ _ = some false; decide +kernel)))
  | ((with_reducible refine' Hf.i_lenL ?k1 ?_); (case k1 => walk_at "g_sq"))
  | ((with_reducible refine' Hf.i_lenT ?k1 ?_); (case k1 => walk_at "g_sq"))
  | ((with_reducible refine' Hf.i_appendM ?k1 ?k2 ?_); (case k1 => walk_at "g_lk"); (case k2 => walk_at "g_sz"))
  | ((with_reducible refine' Hf.i_append ?k1 ?k2 ?_); (case k1 => walk_at "g_lk"); (case k2 => walk_at "g_sz"))
  | ((with_reducible refine' Hf.i_bmL ?k1 ?_); (case k1 => walk_at "g_sq"))
  | ((with_reducible refine' Hf.i_setLast ?k1 ?k2 ?_); (case k1 => walk_at "g_lk"); (case k2 => first | omega | (simp; done) | (simp; omega)))
  | ((with_reducible refine' Hf.i_setM ?k1 ?k2 ?k3 ?_); (case k1 => walk_at "g_lk"); (case k2 => omega); (case k3 => first | omega | (simp; done) | (simp; omega)))
  | ((with_reducible refine' Hf.i_setL ?k1 ?k2 ?_); (case k1 => walk_at "g_lk"); (case k2 => walk_at "g_ixn"); (try dsimp only [List.set_cons_zero, List.set_cons_succ])) | fail "g_val")
local macro_rules | `(tactic| walk_at "g_val2") => `(tactic| first
  | ((with_reducible refine' Hf.i_slInitM ?k1 ?_); (case k1 => walk_at "g_sq"); intro _ _)
  | ((with_reducible refine' Hf.i_ixLast ?k1 ?k2 ?_); (case k1 => walk_at "g_sq"); (case k2 => first | omega | (simp; done) | (simp; omega)); intro _ _)
  | ((with_reducible refine' Hf.i_slToM ?k1 ?k2 ?_); (case k1 => walk_at "g_sq"); (case k2 => omega); intro _ _)
  | ((with_reducible refine' Hf.i_slFromM ?k1 ?k2 ?_); (case k1 => walk_at "g_sq"); (case k2 => omega); intro _ _)
  | ((with_reducible refine' Hf.i_slMidM ?k1 ?k2 ?k3 ?_); (case k1 => walk_at "g_sq"); (case k2 => omega); (case k3 => omega); intro _ _)
  | ((with_reducible refine' Hf.i_slTo ?k1 ?k2 ?_); (case k1 => walk_at "g_sq"); (case k2 => omega); intro _ _)
  | ((with_reducible refine' Hf.i_slFrom ?k1 ?k2 ?_); (case k1 => walk_at "g_sq"); (case k2 => omega); intro _ _)
  | ((with_reducible refine' Hf.i_slMid ?k1 ?k2 ?k3 ?_); (case k1 => walk_at "g_sq"); (case k2 => omega); (case k3 => omega); intro _ _)
  | ((with_reducible refine' Hf.i_eqT2 ?k1 ?k2 ?_); (case k1 => walk_at "g_sq"); (case k2 => walk_at "g_sq"))
  | (with_reducible refine' Hf.i_sl ?_)
  | ((with_reducible refine' Hf.i_lenA ?k1 ?_); (case k1 => first | exact Hf.lenA_map (by walk_at "g_sq") | exact Hf.lenA_L (by walk_at "g_sq") | exact Hf.lenA_T (by walk_at "g_sq")))
  | ((with_reducible refine' Hf.i_ixM ?k1 ?k2 ?k3 ?_); (case k1 => walk_at "g_sq"); (case k2 => omega); (case k3 => first | omega | (simp; omega)); intro _ _)
  | ((with_reducible refine' Hf.i_listOf ?k1 ?_); (case k1 => walk_at "g_sq"); intro _ _)
  | ((with_reducible refine' Hf.i_listOfT ?k1 ?_); (case k1 => walk_at "g_sq"); intro _ _)
  | ((with_reducible refine' Hf.i_sum ?k1 ?_); (case k1 => walk_at "g_sq"))
  | ((with_reducible refine' Hf.i_all ?k1 ?_); (case k1 => walk_at "g_sq"))
  | ((with_reducible refine' Hf.i_min ?k1 ?k2 ?_); (case k1 => walk_at "g_sq"); (case k2 => omega); intro _ _ _)
  | ((with_reducible refine' Hf.i_max ?k1 ?k2 ?_); (case k1 => walk_at "g_sq"); (case k2 => omega); intro _ _ _)
  | ((with_reducible refine' Hf.i_eqLI ?k1 ?k2 ?_); (case k1 => walk_at "g_sq"); (case k2 => walk_at "g_sq"))
  | ((with_reducible refine' Hf.i_neLI ?k1 ?k2 ?_); (case k1 => walk_at "g_sq"); (case k2 => walk_at "g_sq"))
  | ((with_reducible refine' Hf.i_eqL0 ?k1 ?k2 ?_); (case k1 => walk_at "g_sq"); (case k2 => walk_at "g_sq"))
  | ((with_reducible refine' Hf.i_eq00 ?k1 ?k2 ?_); (case k1 => walk_at "g_sq"); (case k2 => walk_at "g_sq"))
  | ((with_reducible refine' Hf.i_ne00 ?k1 ?k2 ?_); (case k1 => walk_at "g_sq"); (case k2 => walk_at "g_sq"))
  | ((with_reducible refine' Hf.i_reverse ?k1 ?_); (case k1 => walk_at "g_lk"))
  | ((with_reducible refine' Hf.i_glst ?k1 ?k2 ?_); (case k1 => walk_at "g_sq"); (case k2 => rfl))
  | (with_reducible refine' Hf.i_lc ?_)
  | ((with_reducible refine' Hf.i_turn ?k1 ?_); (case k1 => first | ((show L2.wipe _ [_] = _); (apply Hf.wipe_one); walk_at "g_set") | ((show L2.wipe _ [_, _] = _); (apply Hf.wipe_two); walk_at "g_set"; walk_at "g_set") | ((show L2.wipe _ [_, _, _] = _); (apply Hf.wipe_three); walk_at "g_set"; walk_at "g_set"; walk_at "g_set")))
  | ((with_reducible refine' Hf.i_wiped ?k1 ?_); (case k1 => rfl))
  | (with_reducible refine' Hf.i_yes ?_)
  | (with_reducible refine' Hf.i_nopart ?_)
  | (with_reducible refine' Hf.i_part ?_)
  | (with_reducible refine' Hf.i_exint ?_)
  | ((with_reducible refine' Hf.i_catM ?k1 ?k2 ?k3 ?_); (case k1 => walk_at "g_lk"); (case k2 => walk_at "g_lk"); (case k3 => (simp; omega)); intro _ _)
  | ((with_reducible refine' Hf.i_catM1 ?k1 ?k2 ?k3 ?_); (case k1 => walk_at "g_lk"); (case k2 => walk_at "g_lk"); (case k3 => first | omega | (simp; omega)); intro _ _)
  | ((with_reducible refine' Hf.i_cat ?k1 ?k2 ?k3 ?_); (case k1 => walk_at "g_lk"); (case k2 => walk_at "g_lk"); (case k3 => walk_at "g_sz"); intro _ _)
  | ((with_reducible refine' Hf.i_repM ?k1 ?k2 ?_); (case k1 => walk_at "g_lk"); (case k2 => omega); intro _ _)
  | ((with_reducible refine' Hf.i_rep1 ?k1 ?k2 ?_); (case k1 => walk_at "g_lk"); (case k2 => omega); intro _ _) | fail "g_val2")
local macro_rules | `(tactic| walk_at "g1") => `(tactic| first
  | ((with_reducible refine' Hf.i_var ?k1 ?_); (case k1 => rfl))
  | (with_reducible refine' Hf.i_c ?_)
  | (with_reducible refine' Hf.i_op ?_)
  | (with_reducible refine' Hf.i_cons ?_)
  | (with_reducible refine' Hf.i_nil ?_)
  | (with_reducible refine' Hf.i_seq ?_)
  | (with_reducible refine' Hf.i_asg ?_)
  | ((with_reducible refine' Hf.i_gname ?k1 ?_); (case k1 => walk_at "g_set"))
  | (with_reducible refine' Hf.i_ret ?_)
  | (with_reducible refine' Hf.i_next ?_)
  | (with_reducible refine' Hf.i_ifs ?_)
  | ((with_reducible refine' Hf.ite_y ?k1 ?_); (case k1 => rfl))
  | ((with_reducible refine' Hf.ite_n ?k1 ?_); (case k1 => rfl))
  | (with_reducible refine' Hf.i_test ?_)
  | (with_reducible refine' Hf.i_B ?_)
  | (with_reducible refine' Hf.i_bl ?_)
  | (with_reducible refine' Hf.i_call ?_)
  | (with_reducible refine' Hf.i_cb ?_)
  | (with_reducible refine' Hf.i_tup ?_)
  | (with_reducible refine' Hf.i_lst ?_)
  | ((with_reducible refine' Hf.i_new ?k1 ?_); (case k1 => walk_at "g_sz"); intro _ _)
  | (with_reducible refine' Hf.i_un ?_)
  | (with_reducible refine' Hf.i_and ?_)
  | (with_reducible refine' Hf.i_or ?_)
  | (with_reducible refine' Hf.i_not ?_)
  | (with_reducible refine' Hf.i_andV ?_)
  | (with_reducible refine' Hf.i_orV ?_)
  | (with_reducible refine' Hf.i_notV ?_)
  | (with_reducible refine' Hf.i_ife ?_)
  | (with_reducible refine' Hf.i_drop ?_)
  | (with_reducible refine' Hf.i_par ?_)
  | ((with_reducible refine' Hf.i_par2 ?k1 ?_); (case k1 => (apply Hf.set_par; walk_at "g_set"; walk_at "g_set")))
  | ((with_reducible refine' Hf.i_aug ?k1 ?_); (case k1 => rfl))
  | (with_reducible refine' Hf.i_ip ?_)
  | (with_reducible refine' Hf.i_bm ?_)
  | (with_reducible refine' Hf.i_bm0 ?_)
  | ((with_reducible refine' Hf.i_gtup ?k1 ?k2 ?_); (case k1 => walk_at "g_sq"); (case k2 => rfl))
  | (with_reducible refine' Hf.i_gcons ?_)
  | (with_reducible refine' Hf.i_gnil ?_)
  | (with_reducible refine' Hf.i_gsub ?_)
  | (with_reducible refine' Hf.i_for ?_)
  | (with_reducible refine' Hf.i_rng1 ?_)
  | ((with_reducible refine' Hf.i_rng1' ?k1 ?k2 ?_); (case k1 => omega); (case k2 => omega))
  | (with_reducible refine' Hf.i_rng2 ?_)
  | ((with_reducible refine' Hf.i_rng2' ?k1 ?_); (case k1 => omega))
  | (with_reducible refine' Hf.i_ilist ?_)
  | ((with_reducible refine' Hf.i_ilist' ?k1 ?_); (case k1 => walk_at "g_sq"))
  | (with_reducible refine' Hf.i_itup ?_)
  | ((with_reducible refine' Hf.i_itup' ?k1 ?_); (case k1 => walk_at "g_sq"))
  | (with_reducible refine' Hf.i_retN ?_)
  | (with_reducible refine' Hf.i_brk ?_)
  | (with_reducible refine' Hf.i_cnt ?_)
  | walk_at "g_val"
  | walk_at "g_val2"
  | walk_at "g_call"
  | (with_reducible refine' Hf.i_isn ?_)
  | (with_reducible refine' Hf.i_tru ?_)
  | dsimp only | fail "g1")
local macro_rules | `(tactic| walk_at "go") => `(tactic| repeat walk_at "g1")
local macro_rules | `(tactic| walk_at "goI") => `(tactic| repeat ((fail_if_success (with_reducible refine' Hf.i_ifs ?_)); walk_at "g1"))
local macro_rules | `(tactic| walk_at "goF") => `(tactic| repeat ((fail_if_success (with_reducible refine' Hf.i_for ?_)); walk_at "g1"))
local macro_rules | `(tactic| walk_at "g_kit") => `(tactic| fail "g_kit")
local macro_rules | `(tactic| walk_at "g_exc") => `(tactic| fail "g_exc")
local macro_rules | `(tactic| walk_at "g_exm") => `(tactic| fail "g_exm")
local macro_rules | `(tactic| walk_at "g_kitB") => `(tactic| first | (show L2.kitB _ _ = some true; decide +kernel) | (show L2.kitB _ _ = some false; decide +kernel))
local macro_rules | `(tactic| walk_at "g_val2") => `(tactic| first
  | ((with_reducible refine' Hf.i_isXi ?k1 ?k2 ?_); (case k1 => walk_at "g_ty"); (case k2 => walk_at "g_kitB"))
  | ((with_reducible refine' Hf.i_isXo ?k1 ?k2 ?_); (case k1 => walk_at "g_ty"); (case k2 => walk_at "g_kit"))
  | ((with_reducible refine' Hf.i_isXR ?k1 ?k2 ?k3 ?_); (case k1 => walk_at "g_lk"); (case k2 => walk_at "g_exc"); (case k3 => walk_at "g_kit"))
  | ((with_reducible refine' Hf.i_isXT ?k1 ?k2 ?k3 ?_); (case k1 => walk_at "g_lk"); (case k2 => walk_at "g_exc"); (case k3 => walk_at "g_kit"))
  | ((with_reducible refine' Hf.i_isXRd ?k1 ?k4 ?k2 ?k3 ?_); (case k1 => walk_at "g_lk"); (case k4 => walk_at "g_lk"); (case k2 => walk_at "g_exc"); (case k3 => walk_at "g_kit"))
  | ((with_reducible refine' Hf.i_isXTd ?k1 ?k4 ?k2 ?k3 ?_); (case k1 => walk_at "g_lk"); (case k4 => walk_at "g_lk"); (case k2 => walk_at "g_exc"); (case k3 => walk_at "g_kit"))
  | (with_reducible refine' Hf.i_callS ?_)
  | (with_reducible refine' Hf.i_try ?_)
  | ((with_reducible refine' Hf.i_caught ?k1 ?k2 ?_); (case k1 => walk_at "g_exm"); (case k2 => (intro _; walk_at "g_set")); intro _ _)
  | ((with_reducible refine' Hf.i_nxAs ?k1 ?_); (case k1 => walk_at "g_set"))
  | (with_reducible refine' Hf.i_rtAs ?_)
  | (with_reducible refine' Hf.i_izip ?_)
  | ((with_reducible refine' Hf.i_neT2 ?k1 ?k2 ?_); (case k1 => walk_at "g_sq"); (case k2 => walk_at "g_sq"))
  | ((with_reducible refine' Hf.i_neS1 ?k1 ?k2 ?k3 ?_); (case k1 => walk_at "g_sq"); (case k2 => walk_at "g_sq"); (case k3 => decide +kernel))
  | ((with_reducible refine' Hf.i_izip' ?k1 ?k2 ?_); (case k1 => walk_at "g_sq"); (case k2 => walk_at "g_sq"))
  | (with_reducible refine' Hf.i_isnR ?_)
  | (with_reducible refine' Hf.i_isnN ?_)
  | ((with_reducible refine' Hf.i_cntV ?k1 ?k2 ?k3 ?k4 ?_); (case k1 => walk_at "g_sq"); (case k2 => rfl); (case k3 => rfl); (case k4 => rfl))
  | ((with_reducible refine' Hf.i_index ?k1 ?k2 ?k3 ?k4 ?_); (case k1 => walk_at "g_sq"); (case k2 => rfl); (case k3 => rfl); (case k4 => rfl)) | fail "g_val2x")
local macro_rules | `(tactic| walk_at "g_no") => `(tactic| first | contradiction | omega | (simp_all; done) | fail "g_no")
local macro_rules | `(tactic| walk_at "g_but") => `(tactic| first | (with_reducible exact Hf.But.refl _ _) | (with_reducible assumption) | (with_reducible refine Hf.But.newT (by with_reducible assumption) ?_; walk_at "g_but") | (with_reducible refine Hf.But.upd ?_; walk_at "g_but") | (with_reducible refine Hf.But.transT (by with_reducible assumption) ?_; walk_at "g_but") | (with_reducible refine Hf.But.transS (by with_reducible assumption) ?_; walk_at "g_but") | (with_reducible refine Hf.But.mut (by with_reducible assumption) ?_; walk_at "g_but") | (with_reducible refine Hf.But.mutS (by with_reducible assumption) (by with_reducible assumption) ?_; walk_at "g_but") | fail "g_but")
local macro_rules | `(tactic| walk_at "g_cls") => `(tactic| fail "g_cls")
local macro_rules | `(tactic| walk_at "g_val2") => `(tactic| first
  | (with_reducible refine' Hf.i_fld ?_)
  | ((with_reducible refine' Hf.i_fldR ?k1 ?k2 ?k3 ?k4 ?_); (case k1 => walk_at "g_lk"); (case k2 => walk_at "g_cls"); (case k3 => walk_at "g_cls"); (case k4 => first | rfl | decide +kernel))
  | (with_reducible refine' Hf.i_sfld ?_)
  | ((with_reducible refine' Hf.i_setR ?k1 ?k2 ?k3 ?k4 ?_); (case k1 => walk_at "g_lk"); (case k2 => walk_at "g_cls"); (case k3 => walk_at "g_cls"); (case k4 => decide))
  | (with_reducible refine' Hf.i_meth ?_)
  | ((with_reducible refine' Hf.i_methR ?k1 ?k4 ?_); (case k1 => walk_at "g_lk"); (case k4 => first | rfl | decide +kernel))
  | ((with_reducible refine' Hf.i_make0 ?_); intro _ _ _ _ _)
  | (with_reducible refine' Hf.i_dnotin ?_)
  | (with_reducible refine' Hf.i_din ?_)
  | ((with_reducible refine' Hf.i_dg3 ?k1 ?k2 ?_); (case k1 => walk_at "g_lk"); (case k2 => walk_at "g_lk"))
  | ((with_reducible refine' Hf.i_dg2 ?k1 ?k2 ?_); (case k1 => walk_at "g_lk"); (case k2 => walk_at "g_lk"))
  | (with_reducible refine' Hf.i_dget ?_)
  | ((with_reducible refine' Hf.i_dv3 ?k1 ?k2 ?k3 ?_); (case k1 => walk_at "g_lk"); (case k2 => walk_at "g_lk"); (case k3 => assumption))
  | ((with_reducible refine' Hf.i_dv2 ?k1 ?k2 ?k3 ?_); (case k1 => walk_at "g_lk"); (case k2 => walk_at "g_lk"); (case k3 => assumption))
  | (with_reducible refine' Hf.i_dput ?_)
  | ((with_reducible refine' Hf.i_dp3 ?k1 ?k2 ?k3 ?_); (case k1 => walk_at "g_lk"); (case k2 => walk_at "g_lk"); (case k3 => omega))
  | ((with_reducible refine' Hf.i_dp2 ?k1 ?k2 ?k3 ?_); (case k1 => walk_at "g_lk"); (case k2 => walk_at "g_lk"); (case k3 => omega))
  | ((with_reducible refine' Hf.i_dnewT ?_); intro _ _)
  | (with_reducible refine' Hf.i_lstRg ?_)
  | (with_reducible refine' Hf.i_rg1 ?_)
  | (with_reducible refine' Hf.i_rg2 ?_)
  | (with_reducible refine' Hf.i_rg2' ?_)
  | (with_reducible refine' Hf.i_rg1' ?_)
  | ((with_reducible refine' Hf.i_rgok ?k1 ?k2 ?k3 ?k4 ?_); (case k1 => omega); (case k2 => omega); (case k3 => omega); (case k4 => omega); intro _ _) | fail "g_val2o")
local macro_rules | `(tactic| walk_at "g_but") => `(tactic| first | (with_reducible exact Hf.But.refl _ _) | (with_reducible assumption) | (with_reducible refine Hf.But.newT (by with_reducible assumption) ?_; walk_at "g_but") | (with_reducible refine Hf.But.upd ?_; walk_at "g_but") | (with_reducible refine Hf.But.mutD (by with_reducible assumption) ?_; walk_at "g_but") | (with_reducible refine Hf.But.mutSD (by with_reducible assumption) (by walk_at "g_free") ?_; walk_at "g_but") | (with_reducible refine Hf.But.transT (by with_reducible assumption) ?_; walk_at "g_but") | (with_reducible refine Hf.But.transS (by with_reducible assumption) ?_; walk_at "g_but") | fail "g_but")
local macro_rules | `(tactic| walk_at "g_dq") => `(tactic| first | (with_reducible assumption) | ((with_reducible refine' Hf.Dq.same ?s9 ?d9); (case d9 => (with_reducible assumption)); (case s9 => walk_at "g_same")) | ((with_reducible refine' Hf.dq_mix ?q9 ?h9 ?s9); (case q9 => (with_reducible assumption)); (case h9 => walk_at "g_lk"); (case s9 => walk_at "g_same")) | ((with_reducible refine' Hf.Dq.same (Hf.hid_mono ?s9) ?d9); (case d9 => (with_reducible assumption)); (case s9 => walk_at "g_same")) | ((with_reducible refine' Hf.dq_two ?h5 ?h6 ?h7 ?h8 ?h9); (case h5 => walk_at "g_lk"); (case h6 => walk_at "g_lk"); (case h7 => walk_at "g_lk"); (case h8 => walk_at "g_lk"); (case h9 => walk_at "g_lk")) | fail "g_dq")
local macro_rules | `(tactic| walk_at "g_pre") => `(tactic| walk_at "g_dq")
local macro_rules | `(tactic| walk_at "g_val2") => `(tactic| first
  | ((with_reducible refine' Hf.i_neDq ?k1 ?k2 ?k3 ?_); (case k1 => walk_at "g_dq"); (case k2 => walk_at "g_dq"); (case k3 => first | exact Hf.shaped_mix _))
  | ((with_reducible refine' Hf.i_neL2 ?k1 ?k2 ?_); (case k1 => walk_at "g_sq"); (case k2 => walk_at "g_sq"))
  | ((with_reducible refine' Hf.i_reverseV ?k1 ?_); (case k1 => walk_at "g_lk"))
  | (with_reducible refine' Hf.i_rev ?_)
  | ((with_reducible refine' Hf.i_revV ?k1 ?_); (case k1 => walk_at "g_sq"); intro _ _)
  | fail "g_val2d")
local macro_rules | `(tactic| walk_at "goO") => `(tactic| repeat (first | walk_at "g1" | (with_reducible refine' Hf.ite_y (decide_eq_true (by omega)) ?_) | (with_reducible refine' Hf.ite_n (decide_eq_false (by omega)) ?_)))
local macro_rules | `(tactic| walk_at "g_val2") => `(tactic| first
  | (with_reducible refine' Hf.i_min2 ?_)
  | (with_reducible refine' Hf.i_min3 ?_)
  | fail "g_val2b")
local macro_rules | `(tactic| walk_at "g_free") => `(tactic| first | (with_reducible assumption) | ((with_reducible refine' Hf.Newly.free ?n7 ?h7); (case n7 => (with_reducible assumption)); (case h7 => walk_at "g_lk")) | ((with_reducible refine' Hf.Same.free' (by with_reducible assumption) ?h7); (case h7 => walk_at "g_same")) | ((with_reducible refine' Hf.But.free (by with_reducible assumption) ?h7 ?h8); (case h7 => walk_at "g_but"); (case h8 => walk_at "g_lk")) | fail "g_free")
local macro_rules | `(tactic| walk_at "g_pk") => `(tactic| first | (with_reducible assumption) | ((with_reducible refine' Hf.Pk.newT ?n9 ?h9); (case n9 => (with_reducible assumption)); (case h9 => walk_at "g_pk")) | ((with_reducible refine' Hf.Pk.sameT ?n9 ?h9); (case n9 => (with_reducible assumption)); (case h9 => walk_at "g_pk")) | fail "g_pk")
local macro_rules | `(tactic| walk_at "g_pre") => `(tactic| walk_at "g_pk")
local macro_rules | `(tactic| walk_at "g_free") => `(tactic| first | ((with_reducible refine' Hf.Pk.free (by with_reducible assumption) ?h7 ?h8); (case h8 => walk_at "g_pk"); (case h7 => walk_at "g_but")) | fail "macp")
local macro_rules | `(tactic| walk_at "g_free") => `(tactic| first | ((with_reducible refine' Hf.Newly.pk ?n7 ?h7); (case n7 => (with_reducible assumption)); (case h7 => walk_at "g_pk")) | fail "macp")
local macro_rules | `(tactic| walk_at "g_ne") => `(tactic| first | ((with_reducible refine' Hf.Pk.ne ?n9 ?h9); (case n9 => (with_reducible assumption)); (case h9 => walk_at "g_pk")) | fail "macp")
local macro_rules | `(tactic| walk_at "g_ne") => `(tactic| first | ((with_reducible refine' Hf.Pk.neo ?n9 ?h9); (case n9 => (with_reducible assumption)); (case h9 => (with_reducible assumption))) | fail "macp")
local macro_rules | `(tactic| walk_at "g_val2") => `(tactic| first | ((with_reducible refine' Hf.i_tupOfL ?k1 ?_); (case k1 => walk_at "g_sq"); intro _ _) | fail "macp")
local macro_rules | `(tactic| walk_at "g_val") => `(tactic| first | ((with_reducible refine' Hf.i_intY ?k1 ?_); (case k1 => exact decide_eq_true (by omega))) | ((with_reducible refine' Hf.i_intN ?k1 ?_); (case k1 => exact decide_eq_false (by omega))) | fail "g_valp")
local macro_rules | `(tactic| walk_at "g_val2") => `(tactic| first | ((with_reducible refine' Hf.i_neDq ?k1 ?k2 ?k3 ?_); (case k1 => walk_at "g_dq"); (case k2 => walk_at "g_dq"); (case k3 => first | exact Hf.shaped_bat _ _ _ | exact Hf.shaped_mix _ | assumption)) | fail "macp")
local macro_rules | `(tactic| walk_at "g_kb") => `(tactic| first | (show L2.kitB _ _ = some true; decide +kernel) | (show L2.kitB _ _ = some false; decide +kernel) | fail "g_kb")
local macro_rules | `(tactic| walk_at "g_val2") => `(tactic| first
  | ((with_reducible refine' Hf.i_isiT2 ?k1 ?k2 ?k3 ?k4 ?_); (case k1 => walk_at "g_lk"); (case k2 => walk_at "g_ty"); (case k3 => walk_at "g_kb"); (case k4 => walk_at "g_kb"))
  | (with_reducible refine' Hf.i_iseq ?_)
  | ((with_reducible refine' Hf.i_iseqL ?k1 ?_); (case k1 => walk_at "g_sq"))
  | ((with_reducible refine' Hf.i_iseqT ?k1 ?_); (case k1 => walk_at "g_sq"))
  | ((with_reducible refine' Hf.i_cntS ?k1 ?k2 ?k3 ?k4 ?_); (case k1 => walk_at "g_dq"); (case k2 => assumption); (case k3 => decide +kernel); (case k4 => assumption))
  | fail "g_val2w")
local macro_rules | `(tactic| walk_at "g_ow") => `(tactic| first | (with_reducible assumption) | ((with_reducible refine' Hf.Ow.same ?s9 ?d9); (case d9 => (with_reducible assumption)); (case s9 => walk_at "g_same")) | fail "g_ow")
local macro_rules | `(tactic| walk_at "g_pre") => `(tactic| walk_at "g_ow")
local macro_rules | `(tactic| walk_at "g_val2") => `(tactic| first
  | (with_reducible refine' Hf.i_dget2 ?_)
  | ((with_reducible refine' Hf.i_isD ?k1 ?_); (case k1 => walk_at "g_lk"))
  | ((with_reducible refine' Hf.i_dgo2 ?k1 ?k2 ?_); (case k1 => walk_at "g_lk"); (case k2 => walk_at "g_lk"); (try rw [Hf.FlD.get (by assumption)]))
  | ((with_reducible refine' Hf.i_sortedDT ?k1 ?k2 ?_); (case k1 => walk_at "g_lk"); (case k2 => assumption); intro _ _ _ _ _ _)
  | fail "g_val2z")

section
variable {P : Program} {w : World} {K : PySem.W.Frag} {mg : Str → Option Value} {base : Heap}
def topS (i : Nat) : Stmt := PySem.Challenge.pw_hostfields_k67_papers_changed.main.body.getD i (.Pass ⟨0, 0, 0, 0⟩)
abbrev s_must_be_many : Stmt := topS 16
abbrev s_paper_times : Stmt := topS 17
abbrev s_paper_exchanged : Stmt := topS 18
abbrev s_paper_scaled : Stmt := topS 19
abbrev s_l_stirred : Stmt := topS 21
abbrev s_l_opened : Stmt := topS 22
abbrev s_l_draw : Stmt := topS 23
abbrev s_l_drawn_plan : Stmt := topS 24
abbrev s_l_drawn_mix : Stmt := topS 25
abbrev s_l_flowing : Stmt := topS 26
abbrev s_l_kind_of : Stmt := topS 27
abbrev s_l_drawn_paper : Stmt := topS 28
abbrev s_l_marked : Stmt := topS 29
abbrev s_l_once : Stmt := topS 30
abbrev s_l_changed : Stmt := topS 31
abbrev s_l_caught_by : Stmt := topS 32
abbrev s_law : Stmt := topS 33
theorem sc_must_be_many : FnScope ["many"] ["many"] (defScope s_must_be_many) := ⟨rfl, rfl, rfl, by decide +kernel, rfl, by decide +kernel, by decide +kernel⟩
theorem sc_paper_times : FnScope ["paper", "by", "stream", "table", "row", "number"] ["paper", "by"] (defScope s_paper_times) := ⟨rfl, rfl, rfl, by decide +kernel, rfl, by decide +kernel, by decide +kernel⟩
theorem sc_paper_exchanged : FnScope ["paper"] ["paper"] (defScope s_paper_exchanged) := ⟨rfl, rfl, rfl, by decide +kernel, rfl, by decide +kernel, by decide +kernel⟩
theorem sc_paper_scaled : FnScope ["paper", "many"] ["paper", "many"] (defScope s_paper_scaled) := ⟨rfl, rfl, rfl, by decide +kernel, rfl, by decide +kernel, by decide +kernel⟩
theorem sc_l_stirred : FnScope ["_law_number", "_law_k", "_law_mixed"] ["_law_number", "_law_k"] (defScope s_l_stirred) := ⟨rfl, rfl, rfl, by decide +kernel, rfl, by decide +kernel, by decide +kernel⟩
theorem sc_l_opened : FnScope ["_law_cell"] ["_law_cell"] (defScope s_l_opened) := ⟨rfl, rfl, rfl, by decide +kernel, rfl, by decide +kernel, by decide +kernel⟩
theorem sc_l_draw : FnScope ["_law_left", "_law_base", "_law_digit", "_law_number", "_law_turn", "_law_mixed"] ["_law_left", "_law_base"] (defScope s_l_draw) := ⟨rfl, rfl, rfl, by decide +kernel, rfl, by decide +kernel, by decide +kernel⟩
theorem sc_l_drawn_plan : FnScope ["_law_left", "_law_hosts", "_law_many", "_law_found", "_law_rest", "_law_k", "_law_sent"] ["_law_left", "_law_hosts", "_law_many"] (defScope s_l_drawn_plan) := ⟨rfl, rfl, rfl, by decide +kernel, rfl, by decide +kernel, by decide +kernel⟩
theorem sc_l_drawn_mix : FnScope ["_law_left", "_law_hosts", "_law_many", "_law_most", "_law_found", "_law_k", "_law_weight"] ["_law_left", "_law_hosts", "_law_many", "_law_most"] (defScope s_l_drawn_mix) := ⟨rfl, rfl, rfl, by decide +kernel, rfl, by decide +kernel, by decide +kernel⟩
theorem sc_l_flowing : FnScope ["_law_mix", "_law_found", "_law_k", "_law_flows", "_law_plan", "_law_weight", "_law_key"] ["_law_mix"] (defScope s_l_flowing) := ⟨rfl, rfl, rfl, by decide +kernel, rfl, by decide +kernel, by decide +kernel⟩
theorem sc_l_kind_of : FnScope ["_law_caught", "_law_some", "_law_names"] ["_law_caught"] (defScope s_l_kind_of) := ⟨rfl, rfl, rfl, by decide +kernel, rfl, by decide +kernel, by decide +kernel⟩
theorem sc_l_drawn_paper : FnScope ["_law_left", "_law_hosts", "_law_many", "_law_stream", "_law_wide", "_law_far", "_law_table", "_law_k", "_law_count"] ["_law_left"] (defScope s_l_drawn_paper) := ⟨rfl, rfl, rfl, by decide +kernel, rfl, by decide +kernel, by decide +kernel⟩
theorem sc_l_marked : FnScope ["_law_thing", "_law_part"] ["_law_thing"] (defScope s_l_marked) := ⟨rfl, rfl, rfl, by decide +kernel, rfl, by decide +kernel, by decide +kernel⟩
theorem sc_l_once : FnScope ["_law_thing", "_law_part"] ["_law_thing"] (defScope s_l_once) := ⟨rfl, rfl, rfl, by decide +kernel, rfl, by decide +kernel, by decide +kernel⟩
theorem sc_l_changed : FnScope ["_law_way", "_law_paper", "_law_many"] ["_law_way", "_law_paper", "_law_many"] (defScope s_l_changed) := ⟨rfl, rfl, rfl, by decide +kernel, rfl, by decide +kernel, by decide +kernel⟩
theorem sc_l_caught_by : FnScope ["_law_paper", "_law_many", "_law_caught", "e"] ["_law_paper", "_law_many"] (defScope s_l_caught_by) := ⟨rfl, rfl, rfl, by decide +kernel, rfl, by decide +kernel, by decide +kernel⟩
theorem sc_law : FnScope ["_law_script", "_law_cell", "_law_left", "_law_paper", "_law_handed", "_law_far", "_law_many", "_law_way", "_law_by", "_law_told", "_law_due", "_law_row", "_law_number"] ["_law_script"] (defScope s_law) := ⟨rfl, rfl, rfl, by decide +kernel, rfl, by decide +kernel, by decide +kernel⟩
structure Txt (K : PySem.W.Frag) (mg : Str → Option Value) where
  a_must_be_many : Addr
  d_must_be_many : FuncData
  F_must_be_many : Fun K "must_be_many" "must_be_many" s_must_be_many a_must_be_many d_must_be_many
  g_must_be_many : mg "must_be_many" = some (.ref a_must_be_many)
  b_must_be_many : Binds K d_must_be_many ["many"] []
  a_paper_times : Addr
  d_paper_times : FuncData
  F_paper_times : Fun K "paper_times" "paper_times" s_paper_times a_paper_times d_paper_times
  g_paper_times : mg "paper_times" = some (.ref a_paper_times)
  b_paper_times : Binds K d_paper_times ["paper", "by"] []
  a_paper_exchanged : Addr
  d_paper_exchanged : FuncData
  F_paper_exchanged : Fun K "paper_exchanged" "paper_exchanged" s_paper_exchanged a_paper_exchanged d_paper_exchanged
  g_paper_exchanged : mg "paper_exchanged" = some (.ref a_paper_exchanged)
  b_paper_exchanged : Binds K d_paper_exchanged ["paper"] []
  a_paper_scaled : Addr
  d_paper_scaled : FuncData
  F_paper_scaled : Fun K "paper_scaled" "paper_scaled" s_paper_scaled a_paper_scaled d_paper_scaled
  g_paper_scaled : mg "paper_scaled" = some (.ref a_paper_scaled)
  b_paper_scaled : Binds K d_paper_scaled ["paper", "many"] []
  a_l_stirred : Addr
  d_l_stirred : FuncData
  F_l_stirred : Fun K "_law_stirred" "_law_stirred" s_l_stirred a_l_stirred d_l_stirred
  g_l_stirred : mg "_law_stirred" = some (.ref a_l_stirred)
  b_l_stirred : Binds K d_l_stirred ["_law_number", "_law_k"] []
  a_l_opened : Addr
  d_l_opened : FuncData
  F_l_opened : Fun K "_law_opened" "_law_opened" s_l_opened a_l_opened d_l_opened
  g_l_opened : mg "_law_opened" = some (.ref a_l_opened)
  b_l_opened : Binds K d_l_opened ["_law_cell"] []
  a_l_draw : Addr
  d_l_draw : FuncData
  F_l_draw : Fun K "_law_draw" "_law_draw" s_l_draw a_l_draw d_l_draw
  g_l_draw : mg "_law_draw" = some (.ref a_l_draw)
  b_l_draw : Binds K d_l_draw ["_law_left", "_law_base"] []
  a_l_drawn_plan : Addr
  d_l_drawn_plan : FuncData
  F_l_drawn_plan : Fun K "_law_drawn_plan" "_law_drawn_plan" s_l_drawn_plan a_l_drawn_plan d_l_drawn_plan
  g_l_drawn_plan : mg "_law_drawn_plan" = some (.ref a_l_drawn_plan)
  b_l_drawn_plan : Binds K d_l_drawn_plan ["_law_left", "_law_hosts", "_law_many"] []
  a_l_drawn_mix : Addr
  d_l_drawn_mix : FuncData
  F_l_drawn_mix : Fun K "_law_drawn_mix" "_law_drawn_mix" s_l_drawn_mix a_l_drawn_mix d_l_drawn_mix
  g_l_drawn_mix : mg "_law_drawn_mix" = some (.ref a_l_drawn_mix)
  b_l_drawn_mix : Binds K d_l_drawn_mix ["_law_left", "_law_hosts", "_law_many", "_law_most"] []
  a_l_flowing : Addr
  d_l_flowing : FuncData
  F_l_flowing : Fun K "_law_flowing" "_law_flowing" s_l_flowing a_l_flowing d_l_flowing
  g_l_flowing : mg "_law_flowing" = some (.ref a_l_flowing)
  b_l_flowing : Binds K d_l_flowing ["_law_mix"] []
  a_l_kind_of : Addr
  d_l_kind_of : FuncData
  F_l_kind_of : Fun K "_law_kind_of" "_law_kind_of" s_l_kind_of a_l_kind_of d_l_kind_of
  g_l_kind_of : mg "_law_kind_of" = some (.ref a_l_kind_of)
  b_l_kind_of : Binds K d_l_kind_of ["_law_caught"] []
  a_l_drawn_paper : Addr
  d_l_drawn_paper : FuncData
  F_l_drawn_paper : Fun K "_law_drawn_paper" "_law_drawn_paper" s_l_drawn_paper a_l_drawn_paper d_l_drawn_paper
  g_l_drawn_paper : mg "_law_drawn_paper" = some (.ref a_l_drawn_paper)
  b_l_drawn_paper : Binds K d_l_drawn_paper ["_law_left"] []
  a_l_marked : Addr
  d_l_marked : FuncData
  F_l_marked : Fun K "_law_marked" "_law_marked" s_l_marked a_l_marked d_l_marked
  g_l_marked : mg "_law_marked" = some (.ref a_l_marked)
  b_l_marked : Binds K d_l_marked ["_law_thing"] []
  a_l_once : Addr
  d_l_once : FuncData
  F_l_once : Fun K "_law_once" "_law_once" s_l_once a_l_once d_l_once
  g_l_once : mg "_law_once" = some (.ref a_l_once)
  b_l_once : Binds K d_l_once ["_law_thing"] []
  a_l_changed : Addr
  d_l_changed : FuncData
  F_l_changed : Fun K "_law_changed" "_law_changed" s_l_changed a_l_changed d_l_changed
  g_l_changed : mg "_law_changed" = some (.ref a_l_changed)
  b_l_changed : Binds K d_l_changed ["_law_way", "_law_paper", "_law_many"] []
  a_l_caught_by : Addr
  d_l_caught_by : FuncData
  F_l_caught_by : Fun K "_law_caught_by" "_law_caught_by" s_l_caught_by a_l_caught_by d_l_caught_by
  g_l_caught_by : mg "_law_caught_by" = some (.ref a_l_caught_by)
  b_l_caught_by : Binds K d_l_caught_by ["_law_paper", "_law_many"] []
  a_law : Addr
  d_law : FuncData
  F_law : Fun K "law" "law" s_law a_law d_law
  g_law : mg "law" = some (.ref a_law)
  b_law : Binds K d_law ["_law_script"] []
  z_ValueError : mg "ValueError" = none
  z_int : mg "int" = none
  z_isinstance : mg "isinstance" = none
  z_len : mg "len" = none
  z_list : mg "list" = none
  z_range : mg "range" = none
  z_sorted : mg "sorted" = none
  z_sum : mg "sum" = none
  z_tuple : mg "tuple" = none
  e_HostError : Addr
  g_HostError : mg "HostError" = some (.ref e_HostError)
  i_HostError : PySem.W.isClsIn K e_HostError = true
  t_HostError : PySem.W.typeIn K (.ref e_HostError) = some (.type "type")
  y_HostError : PySem.W.subIn K (.ref e_HostError) (.type "BaseException") = some true
  e_NoBattle : Addr
  g_NoBattle : mg "NoBattle" = some (.ref e_NoBattle)
  i_NoBattle : PySem.W.isClsIn K e_NoBattle = true
  t_NoBattle : PySem.W.typeIn K (.ref e_NoBattle) = some (.type "type")
  y_NoBattle : PySem.W.subIn K (.ref e_NoBattle) (.type "BaseException") = some true
  e_NoPlan : Addr
  g_NoPlan : mg "NoPlan" = some (.ref e_NoPlan)
  i_NoPlan : PySem.W.isClsIn K e_NoPlan = true
  t_NoPlan : PySem.W.typeIn K (.ref e_NoPlan) = some (.type "type")
  y_NoPlan : PySem.W.subIn K (.ref e_NoPlan) (.type "BaseException") = some true
  e_NoMix : Addr
  g_NoMix : mg "NoMix" = some (.ref e_NoMix)
  i_NoMix : PySem.W.isClsIn K e_NoMix = true
  t_NoMix : PySem.W.typeIn K (.ref e_NoMix) = some (.type "type")
  y_NoMix : PySem.W.subIn K (.ref e_NoMix) (.type "BaseException") = some true
  e_NoStream : Addr
  g_NoStream : mg "NoStream" = some (.ref e_NoStream)
  i_NoStream : PySem.W.isClsIn K e_NoStream = true
  t_NoStream : PySem.W.typeIn K (.ref e_NoStream) = some (.type "type")
  y_NoStream : PySem.W.subIn K (.ref e_NoStream) (.type "BaseException") = some true
  e_NoSide : Addr
  g_NoSide : mg "NoSide" = some (.ref e_NoSide)
  i_NoSide : PySem.W.isClsIn K e_NoSide = true
  t_NoSide : PySem.W.typeIn K (.ref e_NoSide) = some (.type "type")
  y_NoSide : PySem.W.subIn K (.ref e_NoSide) (.type "BaseException") = some true
  e_NoAlike : Addr
  g_NoAlike : mg "NoAlike" = some (.ref e_NoAlike)
  i_NoAlike : PySem.W.isClsIn K e_NoAlike = true
  t_NoAlike : PySem.W.typeIn K (.ref e_NoAlike) = some (.type "type")
  y_NoAlike : PySem.W.subIn K (.ref e_NoAlike) (.type "BaseException") = some true
  e_NoNumber : Addr
  g_NoNumber : mg "NoNumber" = some (.ref e_NoNumber)
  i_NoNumber : PySem.W.isClsIn K e_NoNumber = true
  t_NoNumber : PySem.W.typeIn K (.ref e_NoNumber) = some (.type "type")
  y_NoNumber : PySem.W.subIn K (.ref e_NoNumber) (.type "BaseException") = some true
  e_TooGreat : Addr
  g_TooGreat : mg "TooGreat" = some (.ref e_TooGreat)
  i_TooGreat : PySem.W.isClsIn K e_TooGreat = true
  t_TooGreat : PySem.W.typeIn K (.ref e_TooGreat) = some (.type "type")
  y_TooGreat : PySem.W.subIn K (.ref e_TooGreat) (.type "BaseException") = some true
  e_NoEven : Addr
  g_NoEven : mg "NoEven" = some (.ref e_NoEven)
  i_NoEven : PySem.W.isClsIn K e_NoEven = true
  t_NoEven : PySem.W.typeIn K (.ref e_NoEven) = some (.type "type")
  y_NoEven : PySem.W.subIn K (.ref e_NoEven) (.type "BaseException") = some true
  e_NoText : Addr
  g_NoText : mg "NoText" = some (.ref e_NoText)
  i_NoText : PySem.W.isClsIn K e_NoText = true
  t_NoText : PySem.W.typeIn K (.ref e_NoText) = some (.type "type")
  y_NoText : PySem.W.subIn K (.ref e_NoText) (.type "BaseException") = some true
  e_NoRow : Addr
  g_NoRow : mg "NoRow" = some (.ref e_NoRow)
  i_NoRow : PySem.W.isClsIn K e_NoRow = true
  t_NoRow : PySem.W.typeIn K (.ref e_NoRow) = some (.type "type")
  y_NoRow : PySem.W.subIn K (.ref e_NoRow) (.type "BaseException") = some true
  e_NoName : Addr
  g_NoName : mg "NoName" = some (.ref e_NoName)
  i_NoName : PySem.W.isClsIn K e_NoName = true
  t_NoName : PySem.W.typeIn K (.ref e_NoName) = some (.type "type")
  y_NoName : PySem.W.subIn K (.ref e_NoName) (.type "BaseException") = some true
  e_NoPlace : Addr
  g_NoPlace : mg "NoPlace" = some (.ref e_NoPlace)
  i_NoPlace : PySem.W.isClsIn K e_NoPlace = true
  t_NoPlace : PySem.W.typeIn K (.ref e_NoPlace) = some (.type "type")
  y_NoPlace : PySem.W.subIn K (.ref e_NoPlace) (.type "BaseException") = some true
  x_NoNumber : PySem.W.excIn K e_NoNumber [.type "ValueError", .type "Exception", .type "BaseException", .type "object"] "ValueError.__new__" = true
  k_NoNumber : PySem.W.keepIn K (.ref e_NoNumber) = true
  hg_NoNumber : PySem.W.findIn K (.ref e_NoNumber) "__getattribute__" = some (some (.builtin "BaseException.__getattribute__"))
  hk_NoNumber : PySem.W.findIn K (.ref e_NoNumber) "__getattr__" = some none
  hd_NoNumber : PySem.W.hasDictIn K e_NoNumber = true
  ha_NoNumber : PySem.W.findIn K (.ref e_NoNumber) "__class__" = some (some (.builtin "object.__class__"))
  hm_NoNumber : PySem.W.mroIn K e_NoNumber (.type "object") = some true
  v_NoNumber : PySem.W.subIn K (.ref e_NoNumber) (.type "ValueError") = some true
  s_NoNumber_HostError : PySem.W.subIn K (.ref e_NoNumber) (.ref e_HostError) = some true
  s_NoNumber_NoBattle : PySem.W.subIn K (.ref e_NoNumber) (.ref e_NoBattle) = some false
  s_NoNumber_NoPlan : PySem.W.subIn K (.ref e_NoNumber) (.ref e_NoPlan) = some false
  s_NoNumber_NoMix : PySem.W.subIn K (.ref e_NoNumber) (.ref e_NoMix) = some false
  s_NoNumber_NoStream : PySem.W.subIn K (.ref e_NoNumber) (.ref e_NoStream) = some false
  s_NoNumber_NoSide : PySem.W.subIn K (.ref e_NoNumber) (.ref e_NoSide) = some false
  s_NoNumber_NoAlike : PySem.W.subIn K (.ref e_NoNumber) (.ref e_NoAlike) = some false
  s_NoNumber_NoNumber : PySem.W.subIn K (.ref e_NoNumber) (.ref e_NoNumber) = some true
  s_NoNumber_TooGreat : PySem.W.subIn K (.ref e_NoNumber) (.ref e_TooGreat) = some false
  s_NoNumber_NoEven : PySem.W.subIn K (.ref e_NoNumber) (.ref e_NoEven) = some false
  s_NoNumber_NoText : PySem.W.subIn K (.ref e_NoNumber) (.ref e_NoText) = some false
  s_NoNumber_NoRow : PySem.W.subIn K (.ref e_NoNumber) (.ref e_NoRow) = some false
  s_NoNumber_NoName : PySem.W.subIn K (.ref e_NoNumber) (.ref e_NoName) = some false
  s_NoNumber_NoPlace : PySem.W.subIn K (.ref e_NoNumber) (.ref e_NoPlace) = some false
  ho_n : PySem.W.specialIn K (.builtin "object.__class__") "__get__" = some (some (.builtin "getset_descriptor.__get__"))
  ho_t : PySem.W.takesIn K (.builtin "object.__class__") = some true
section
variable {K : PySem.W.Frag} {mg : Str → Option Value} (T : Txt K mg)
include T
theorem cl_HostError : ClsT K T.e_HostError := ⟨T.i_HostError, T.t_HostError⟩
theorem cl_NoBattle : ClsT K T.e_NoBattle := ⟨T.i_NoBattle, T.t_NoBattle⟩
theorem cl_NoPlan : ClsT K T.e_NoPlan := ⟨T.i_NoPlan, T.t_NoPlan⟩
theorem cl_NoMix : ClsT K T.e_NoMix := ⟨T.i_NoMix, T.t_NoMix⟩
theorem cl_NoStream : ClsT K T.e_NoStream := ⟨T.i_NoStream, T.t_NoStream⟩
theorem cl_NoSide : ClsT K T.e_NoSide := ⟨T.i_NoSide, T.t_NoSide⟩
theorem cl_NoAlike : ClsT K T.e_NoAlike := ⟨T.i_NoAlike, T.t_NoAlike⟩
theorem cl_NoNumber : ClsT K T.e_NoNumber := ⟨T.i_NoNumber, T.t_NoNumber⟩
theorem cl_TooGreat : ClsT K T.e_TooGreat := ⟨T.i_TooGreat, T.t_TooGreat⟩
theorem cl_NoEven : ClsT K T.e_NoEven := ⟨T.i_NoEven, T.t_NoEven⟩
theorem cl_NoText : ClsT K T.e_NoText := ⟨T.i_NoText, T.t_NoText⟩
theorem cl_NoRow : ClsT K T.e_NoRow := ⟨T.i_NoRow, T.t_NoRow⟩
theorem cl_NoName : ClsT K T.e_NoName := ⟨T.i_NoName, T.t_NoName⟩
theorem cl_NoPlace : ClsT K T.e_NoPlace := ⟨T.i_NoPlace, T.t_NoPlace⟩
theorem exc_NoNumber : L2.ExcC K T.e_NoNumber := ⟨T.hg_NoNumber, T.hk_NoNumber, T.y_NoNumber, T.hd_NoNumber, T.ha_NoNumber, T.ho_n, T.ho_t, T.hm_NoNumber⟩
theorem kit_NoNumber_ValueError : PySem.W.kitOne K (.ref T.e_NoNumber) (.type "ValueError") = some true := kit_v T.v_NoNumber (by decide +kernel)
theorem kit_NoNumber_HostError : PySem.W.kitOne K (.ref T.e_NoNumber) (.ref T.e_HostError) = some true := kit_t (cl_HostError T) T.s_NoNumber_HostError
theorem exm_NoNumber_HostError : PySem.W.exmOne K (.ref T.e_NoNumber) (.ref T.e_HostError) = some true := exm_t (cl_HostError T) T.y_HostError T.s_NoNumber_HostError
theorem kit_NoNumber_NoBattle : PySem.W.kitOne K (.ref T.e_NoNumber) (.ref T.e_NoBattle) = some false := kit_f (cl_NoBattle T) T.s_NoNumber_NoNumber T.s_NoNumber_NoBattle
theorem kit_NoNumber_NoPlan : PySem.W.kitOne K (.ref T.e_NoNumber) (.ref T.e_NoPlan) = some false := kit_f (cl_NoPlan T) T.s_NoNumber_NoNumber T.s_NoNumber_NoPlan
theorem kit_NoNumber_NoMix : PySem.W.kitOne K (.ref T.e_NoNumber) (.ref T.e_NoMix) = some false := kit_f (cl_NoMix T) T.s_NoNumber_NoNumber T.s_NoNumber_NoMix
theorem kit_NoNumber_NoStream : PySem.W.kitOne K (.ref T.e_NoNumber) (.ref T.e_NoStream) = some false := kit_f (cl_NoStream T) T.s_NoNumber_NoNumber T.s_NoNumber_NoStream
theorem kit_NoNumber_NoSide : PySem.W.kitOne K (.ref T.e_NoNumber) (.ref T.e_NoSide) = some false := kit_f (cl_NoSide T) T.s_NoNumber_NoNumber T.s_NoNumber_NoSide
theorem kit_NoNumber_NoAlike : PySem.W.kitOne K (.ref T.e_NoNumber) (.ref T.e_NoAlike) = some false := kit_f (cl_NoAlike T) T.s_NoNumber_NoNumber T.s_NoNumber_NoAlike
theorem kit_NoNumber_NoNumber : PySem.W.kitOne K (.ref T.e_NoNumber) (.ref T.e_NoNumber) = some true := kit_t (cl_NoNumber T) T.s_NoNumber_NoNumber
theorem exm_NoNumber_NoNumber : PySem.W.exmOne K (.ref T.e_NoNumber) (.ref T.e_NoNumber) = some true := exm_t (cl_NoNumber T) T.y_NoNumber T.s_NoNumber_NoNumber
theorem kit_NoNumber_TooGreat : PySem.W.kitOne K (.ref T.e_NoNumber) (.ref T.e_TooGreat) = some false := kit_f (cl_TooGreat T) T.s_NoNumber_NoNumber T.s_NoNumber_TooGreat
theorem kit_NoNumber_NoEven : PySem.W.kitOne K (.ref T.e_NoNumber) (.ref T.e_NoEven) = some false := kit_f (cl_NoEven T) T.s_NoNumber_NoNumber T.s_NoNumber_NoEven
theorem kit_NoNumber_NoText : PySem.W.kitOne K (.ref T.e_NoNumber) (.ref T.e_NoText) = some false := kit_f (cl_NoText T) T.s_NoNumber_NoNumber T.s_NoNumber_NoText
theorem kit_NoNumber_NoRow : PySem.W.kitOne K (.ref T.e_NoNumber) (.ref T.e_NoRow) = some false := kit_f (cl_NoRow T) T.s_NoNumber_NoNumber T.s_NoNumber_NoRow
theorem kit_NoNumber_NoName : PySem.W.kitOne K (.ref T.e_NoNumber) (.ref T.e_NoName) = some false := kit_f (cl_NoName T) T.s_NoNumber_NoNumber T.s_NoNumber_NoName
theorem kit_NoNumber_NoPlace : PySem.W.kitOne K (.ref T.e_NoNumber) (.ref T.e_NoPlace) = some false := kit_f (cl_NoPlace T) T.s_NoNumber_NoNumber T.s_NoNumber_NoPlace
end
local macro_rules | `(tactic| walk_at "g_kit") => `(tactic| first | (with_reducible exact kit_NoNumber_ValueError _) | (with_reducible exact kit_NoNumber_HostError _) | (with_reducible exact kit_NoNumber_NoBattle _) | (with_reducible exact kit_NoNumber_NoPlan _) | (with_reducible exact kit_NoNumber_NoMix _) | (with_reducible exact kit_NoNumber_NoStream _) | (with_reducible exact kit_NoNumber_NoSide _) | (with_reducible exact kit_NoNumber_NoAlike _) | (with_reducible exact kit_NoNumber_NoNumber _) | (with_reducible exact kit_NoNumber_TooGreat _) | (with_reducible exact kit_NoNumber_NoEven _) | (with_reducible exact kit_NoNumber_NoText _) | (with_reducible exact kit_NoNumber_NoRow _) | (with_reducible exact kit_NoNumber_NoName _) | (with_reducible exact kit_NoNumber_NoPlace _))
local macro_rules | `(tactic| walk_at "g_exc") => `(tactic| first | (with_reducible exact exc_NoNumber _))
local macro_rules | `(tactic| walk_at "g_exm") => `(tactic| first | (with_reducible exact exm_NoNumber_HostError _) | (with_reducible exact exm_NoNumber_NoNumber _))
def sp_l_stirred (K : PySem.W.Frag) : Sp := fun vs H Q E => ∃ (n c : Int), vs = [.int n, .int c] ∧ (0 ≤ n ∧ n < 2147483629) ∧ (0 ≤ c ∧ c ≤ 1000000) ∧ ∀ (r : Int), (0 ≤ r ∧ r < 2147483587) → Q (.int r) H
theorem use_l_stirred {K : PySem.W.Frag} {H : Hp} {Q : VK} {E : XK} {n c : Int} (p0 : 0 ≤ n ∧ n < 2147483629) (p1 : 0 ≤ c ∧ c ≤ 1000000) (k : ∀ (r : Int), (0 ≤ r ∧ r < 2147483587) → Q (.int r) H) : sp_l_stirred K [.int n, .int c] H Q E := ⟨n, c, rfl, p0, p1, k⟩
theorem len_l_stirred {K : PySem.W.Frag} (vs : List V) (H : Hp) (Q : VK) (E : XK) (h : sp_l_stirred K vs H Q E) : vs.length = ["_law_number", "_law_k"].length := by
  obtain ⟨_, _, rfl, _⟩ := h
  rfl
local macro_rules | `(tactic| walk_at "g_call") => `(tactic| ((with_reducible refine' use_l_stirred ?c0 ?c1 ?_); (case c0 => walk_at "g_pre"); (case c1 => walk_at "g_pre"); intros))
theorem ok_l_stirred (T : Txt K mg) : FnOk P w K mg base CX0 1 T.a_l_stirred T.d_l_stirred ["_law_number", "_law_k"] (sp_l_stirred K) := by
  refine T.F_l_stirred.ok sc_l_stirred len_l_stirred (fun cdv A outer s H vs Q E hr h => ?_)
  refine ⟨_, (pss_cons (ps_set (i := 2) sc_l_stirred.nd rfl (Or.inl rfl) (pe_op op_mod (pe_op op_mulA (pe_op op_add (pe_op op_add (pe_op op_mulA (pv 0) (pv 0)) (pe_op op_mulA (pv 1) (pv 0))) (pe_op op_mulA (pe_op op_mulA pe_int (pv 1)) (pv 1))) pe_int) pe_int))
      (pss_one (ps_ret (pe_op op_mod (pe_op op_mulA (pv 2) (pv 2)) pe_int)))), ?_⟩
  try dsimp only [L2.cxOf, L2.Cx.nox, L2.Cx.wish, List.map_cons, List.map_nil]
  obtain ⟨n, c, rfl, p0, p1, k⟩ := h
  refine start_to (σ := [some _, some _, none]) rfl ?_
  walk_at "go"
  refine k _ ?_
  omega
def sp_l_opened (K : PySem.W.Frag) : Sp := fun vs H Q E => ∃ (c : Int), vs = [.int c] ∧ ∀ (m : Int) (p : Addr) (H' : Hp), (Pk p m H' 0) → (Same H H') → (H p = none) → Q (.ref p) H'
theorem use_l_opened {K : PySem.W.Frag} {H : Hp} {Q : VK} {E : XK} {c : Int}  (k : ∀ (m : Int) (p : Addr) (H' : Hp), (Pk p m H' 0) → (Same H H') → (H p = none) → Q (.ref p) H') : sp_l_opened K [.int c] H Q E := ⟨c, rfl, k⟩
theorem len_l_opened {K : PySem.W.Frag} (vs : List V) (H : Hp) (Q : VK) (E : XK) (h : sp_l_opened K vs H Q E) : vs.length = ["_law_cell"].length := by
  obtain ⟨_, rfl, _⟩ := h
  rfl
local macro_rules | `(tactic| walk_at "g_call") => `(tactic| ((with_reducible refine' use_l_opened ?_); intros))
theorem ok_l_opened (T : Txt K mg) : FnOk P w K mg base CX0 1 T.a_l_opened T.d_l_opened ["_law_cell"] (sp_l_opened K) := by
  refine T.F_l_opened.ok sc_l_opened len_l_opened (fun cdv A outer s H vs Q E hr h => ?_)
  refine ⟨_, (pss_cons (ps_if (pt_cmpR op_lt (pv 0) (pe_op op_pow pe_int pe_int) (nomark _)) (pss_one (ps_ret (pe_lst (pa_cons (pe_op op_mod (pv 0) pe_int) (pa_cons pe_int (pa_cons pe_int pa_nil)))))) pss_nil)
      (pss_one (ps_ret (pe_lst (pa_cons (pe_op op_sub (pv 0) (pe_op op_pow pe_int pe_int)) (pa_cons pe_int (pa_cons pe_int pa_nil))))))), ?_⟩
  try dsimp only [L2.cxOf, L2.Cx.nox, L2.Cx.wish, List.map_cons, List.map_nil]
  obtain ⟨c, rfl, k⟩ := h
  refine start_to (σ := [some _]) rfl ?_
  walk_at "go"
  refine ite_d (fun c1 => ?_) (fun c1 => ?_)
  · walk_at "go"
    exact k _ _ _ (pk_new (.inr ⟨rfl, by omega⟩)) (by walk_at "g_same") (by assumption)
  · walk_at "go"
    exact k _ _ _ (pk_new (.inl rfl)) (by walk_at "g_same") (by assumption)
def sp_l_draw (K : PySem.W.Frag) : Sp := fun vs H Q E => ∃ (a : Addr) (m c b : Int), vs = [.ref a, .int b] ∧ (Pk a m H c) ∧ (c ≤ 100000) ∧ (0 < b ∧ b < 2 ^ 200) ∧ ∀ (d : Int) (H' : Hp), (0 ≤ d ∧ d < b) → (Pk a m H' (c + 4)) → (But a H H') → Q (.int d) H'
theorem use_l_draw {K : PySem.W.Frag} {H : Hp} {Q : VK} {E : XK} {a : Addr} {m c b : Int} (p0 : Pk a m H c) (p1 : c ≤ 100000) (p2 : 0 < b ∧ b < 2 ^ 200) (k : ∀ (d : Int) (H' : Hp), (0 ≤ d ∧ d < b) → (Pk a m H' (c + 4)) → (But a H H') → Q (.int d) H') : sp_l_draw K [.ref a, .int b] H Q E := ⟨a, m, c, b, rfl, p0, p1, p2, k⟩
theorem len_l_draw {K : PySem.W.Frag} (vs : List V) (H : Hp) (Q : VK) (E : XK) (h : sp_l_draw K vs H Q E) : vs.length = ["_law_left", "_law_base"].length := by
  obtain ⟨_, _, _, _, rfl, _⟩ := h
  rfl
local macro_rules | `(tactic| walk_at "g_call") => `(tactic| ((with_reducible refine' use_l_draw ?c0 ?c1 ?c2 ?_); (case c0 => walk_at "g_pre"); (case c1 => walk_at "g_pre"); (case c2 => walk_at "g_pre"); intros))
theorem ok_l_draw (T : Txt K mg) : FnOk P w K mg base CX0 2 T.a_l_draw T.d_l_draw ["_law_left", "_law_base"] (sp_l_draw K) := by
  have G_l_stirred := ok_l_stirred (P := P) (w := w) (base := base) T
  refine T.F_l_draw.ok sc_l_draw len_l_draw (fun cdv A outer s H vs Q E hr h => ?_)
  refine ⟨_, (pss_cons (ps_if (pt_cmpR op_eq (pe_ix (ix_listK K rfl) (pv 0) pe_int (fun _ _ => rfl)) pe_int (nomark _)) (pss_cons (ps_set (i := 2) sc_l_draw.nd rfl (Or.inl rfl) (pe_op op_mod (pe_ix (ix_listK K rfl) (pv 0) pe_int (fun _ _ => rfl)) (pv 1)))
      (pss_cons (ps_asg (pe_op op_fdivA (pe_ix (ix_listK K rfl) (pv 0) pe_int (fun _ _ => rfl)) (pv 1)) (pg_sub (pv 0) pe_int set_list))
      (pss_one (ps_ret (pv 2))))) pss_nil)
      (pss_cons (ps_set (i := 3) sc_l_draw.nd rfl (Or.inl rfl) pe_int)
      (pss_cons (ps_for PassesOwn.never rfl (pi_range1 rfl T.z_range (pa_cons (pe_ix (ix_listK K rfl) (pe_lst (pa_cons pe_int (pa_cons pe_int pa_nil))) (pe_callTy call_int1 (by rfl) T.z_int (by decide +kernel) (pa_cons (pe_cmpR op_gt (pv 1) (pe_op op_pow pe_int pe_int) (nomark _)) pa_nil)) (fun _ _ => rfl)) pa_nil)) (pg_name (i := 4) sc_l_draw.nd rfl (Or.inl rfl)) (pss_cons (ps_asg (pe_op op_add (pe_ix (ix_listK K rfl) (pv 0) pe_int (fun _ _ => rfl)) pe_int) (pg_sub (pv 0) pe_int set_list))
      (pss_cons (ps_set (i := 5) sc_l_draw.nd rfl (Or.inl rfl) (pe_call G_l_stirred (hr.mono (by first | decide | omega)) (by rfl) T.g_l_stirred T.F_l_stirred.kp T.b_l_stirred .nil pass0 (pa_cons (pe_ix (ix_listK K rfl) (pv 0) pe_int (fun _ _ => rfl)) (pa_cons (pe_ix (ix_listK K rfl) (pv 0) pe_int (fun _ _ => rfl)) pa_nil))))
      (pss_one (ps_set (i := 3) sc_l_draw.nd rfl (Or.inl rfl) (pe_op op_add (pe_op op_mulA (pv 3) pe_int) (pe_op op_mod (pe_op op_mulA (pv 5) (pe_op op_add (pv 5) pe_int)) pe_int)))))))
      (pss_one (ps_ret (pe_op op_mod (pv 3) (pv 1))))))), ?_⟩
  try dsimp only [L2.cxOf, L2.Cx.nox, L2.Cx.wish, List.map_cons, List.map_nil]
  obtain ⟨a, m, c0, b, rfl, ⟨n, c, p0, p1, p2, p4⟩, p5, p3, k⟩ := h
  refine start_to (σ := [some _, some _, none, none, none, none]) rfl ?_
  walk_at "go"
  refine ite_d (fun c1 => ?_) (fun c1 => ?_)
  · walk_at "go"
    exact k _ _ ⟨Int.emod_nonneg _ (by omega), Int.emod_lt_of_pos _ (by omega)⟩ ⟨_, _, upd_same, .inl c1, by omega, by omega⟩ (But.upd (But.refl _ _))
  · walk_at "go"
    rename_i p np t ht
    have hap : a ≠ p := ne_of_none p0 np
    rcases p1 with z | ⟨z, hn⟩
    · exact absurd z c1
    refine forR (fun i σ H1 => ∃ (x c' : Int) (y1 y2 y3 : Option V), σ = [some (.ref a), some (.int b), y1, some (.int x), y2, y3] ∧ c' = c + i ∧ But a H H1 ∧ H1 a = some (.lst [.int n, .int m, .int c'])) ?_ ?_ ?_
    · exact ⟨0, c, none, none, none, rfl, by omega, But.new (But.refl _ _) np, by rw [upd_ne hap]; exact p0⟩
    · rintro σ1 H1 ⟨x, c', y1, y2, y3, rfl, hc, hb, ha⟩
      walk_at "go"
      exact k _ _ ⟨Int.emod_nonneg _ (by omega), Int.emod_lt_of_pos _ (by omega)⟩ ⟨_, _, ha, .inr ⟨z, hn⟩, by omega, by omega⟩ hb
    · rintro i σ1 H1 hi ⟨x, c', y1, y2, y3, rfl, hc, hb, ha⟩
      walk_at "go"
      exact ⟨_, c' + 1, _, _, _, rfl, by omega, But.upd hb, upd_same⟩

def sp_l_drawn_plan (K : PySem.W.Frag) : Sp := fun vs H Q E => ∃ (a : Addr) (m c h f : Int), vs = [.ref a, .int h, .int f] ∧ (Pk a m H c) ∧ (c ≤ 90000) ∧ (0 ≤ h ∧ h ≤ 40 ∧ 1 ≤ f ∧ f ≤ 8) ∧ ∀ (b : Addr) (ps : List Int) (H' : Hp), (H' b = some (.lst (ps.map V.int))) → (Pk a m H' (c + 100)) → (But a H H') → (H b = none) → (PlanC h f.toNat ps) → Q (.ref b) H'
theorem use_l_drawn_plan {K : PySem.W.Frag} {H : Hp} {Q : VK} {E : XK} {a : Addr} {m c h f : Int} (p0 : Pk a m H c) (p1 : c ≤ 90000) (p2 : 0 ≤ h ∧ h ≤ 40 ∧ 1 ≤ f ∧ f ≤ 8) (k : ∀ (b : Addr) (ps : List Int) (H' : Hp), (H' b = some (.lst (ps.map V.int))) → (Pk a m H' (c + 100)) → (But a H H') → (H b = none) → (PlanC h f.toNat ps) → Q (.ref b) H') : sp_l_drawn_plan K [.ref a, .int h, .int f] H Q E := ⟨a, m, c, h, f, rfl, p0, p1, p2, k⟩
theorem len_l_drawn_plan {K : PySem.W.Frag} (vs : List V) (H : Hp) (Q : VK) (E : XK) (h : sp_l_drawn_plan K vs H Q E) : vs.length = ["_law_left", "_law_hosts", "_law_many"].length := by
  obtain ⟨_, _, _, _, _, rfl, _⟩ := h
  rfl
local macro_rules | `(tactic| walk_at "g_call") => `(tactic| ((with_reducible refine' use_l_drawn_plan ?c0 ?c1 ?c2 ?_); (case c0 => walk_at "g_pre"); (case c1 => walk_at "g_pre"); (case c2 => walk_at "g_pre"); intros))
theorem ok_l_drawn_plan (T : Txt K mg) : FnOk P w K mg base CX0 3 T.a_l_drawn_plan T.d_l_drawn_plan ["_law_left", "_law_hosts", "_law_many"] (sp_l_drawn_plan K) := by
  have G_l_draw := ok_l_draw (P := P) (w := w) (base := base) T
  refine T.F_l_drawn_plan.ok sc_l_drawn_plan len_l_drawn_plan (fun cdv A outer s H vs Q E hr h => ?_)
  refine ⟨_, (pss_cons (ps_set (i := 3) sc_l_drawn_plan.nd rfl (Or.inl rfl) (pe_lst pa_nil))
      (pss_cons (ps_set (i := 4) sc_l_drawn_plan.nd rfl (Or.inl rfl) (pv 1))
      (pss_cons (ps_for PassesOwn.never rfl (pi_range1 rfl T.z_range (pa_cons (pe_op op_sub (pv 2) pe_int) pa_nil)) (pg_name (i := 5) sc_l_drawn_plan.nd rfl (Or.inl rfl)) (pss_cons (ps_set (i := 6) sc_l_drawn_plan.nd rfl (Or.inl rfl) (pe_ix (ix_listK K rfl) (pe_lst (pa_cons (pe_call G_l_draw (hr.mono (by first | decide | omega)) (by rfl) T.g_l_draw T.F_l_draw.kp T.b_l_draw .nil pass0 (pa_cons (pv 0) (pa_cons (pe_op op_add (pv 4) pe_int) pa_nil))) (pa_cons pe_int (pa_cons (pv 4) pa_nil)))) (pe_op op_fdiv (pe_call G_l_draw (hr.mono (by first | decide | omega)) (by rfl) T.g_l_draw T.F_l_draw.kp T.b_l_draw .nil pass0 (pa_cons (pv 0) (pa_cons pe_int pa_nil))) pe_int) (fun _ _ => rfl)))
      (pss_cons (ps_expr (pe_bm PySem.F.plainAttrs_list PySem.F.slot_list_append PySem.F.type_list_append mt_append (pv 3) (pa_cons (pv 6) pa_nil)))
      (pss_one (ps_set (i := 4) sc_l_drawn_plan.nd rfl (Or.inl rfl) (pe_op op_sub (pv 4) (pv 6)))))))
      (pss_one (ps_ret (pe_op op_cat (pv 3) (pe_lst (pa_cons (pv 4) pa_nil)))))))), ?_⟩
  try dsimp only [L2.cxOf, L2.Cx.nox, L2.Cx.wish, List.map_cons, List.map_nil]
  obtain ⟨a, m, c, h, f, rfl, p0, p1, p2, k⟩ := h
  refine start_to (σ := [some _, some _, some _, none, none, none, none]) rfl ?_
  walk_at "go"
  rename_i b nb
  have hb : b ≠ a := by walk_at "g_ne"
  refine forR (fun i σ H1 => ∃ (ps : List Int) (left : Int) (y1 y2 : Option V), σ = [some (.ref a), some (.int h), some (.int f), some (.ref b), some (.int left), y1, y2] ∧ H1 b = some (.lst (ps.map V.int)) ∧ Pk a m H1 (c + 8 * (i : Int)) ∧ But a H H1 ∧ (0 ≤ left ∧ left ≤ h) ∧ ps.length = i ∧ (∀ x ∈ ps, 0 ≤ x) ∧ ps.sum + left = h) ⟨[], _, _, _, rfl, upd_same, Pk.mono (by walk_at "g_pk") (by omega), by walk_at "g_but", by omega, rfl, nofun, by simp⟩ ?_ ?_
  · rintro σ1 H1 ⟨ps, left, y1, y2, rfl, h1, h2, h3, h7, h8, h9, h10⟩
    walk_at "go"
    rename_i r1 n1 r2 n2
    refine k _ (ps ++ [left]) _ upd_same (Pk.mono (by walk_at "g_pk") (by omega)) (by walk_at "g_but") (Pk.free (a := a) n2 (by walk_at "g_but") (by walk_at "g_pk")) ⟨by rw [List.length_append]; simp; omega, by rw [List.sum_append, List.sum_cons, List.sum_nil]; omega, ?_⟩
    intro x hx
    rcases List.mem_append.mp hx with g | g
    · exact h9 x g
    · rw [List.mem_singleton.mp g]; omega
  · rintro i σ1 H1 hi ⟨ps, left, y1, y2, rfl, h1, h2, h3, h7, h8, h9, h10⟩
    walk_at "go"
    rename_i d1 H2 a1 a2 a3 r1 a11 d2 H3 a4 a5 a6 v a17
    have hv : 0 ≤ v ∧ v ≤ left := by omega
    have e3 : H3 b = some (.lst (ps.map V.int)) := by walk_at "g_lk"
    refine ⟨ps ++ [v], left - v, _, _, rfl, upd_same, ((a5.upd hb).mono (by omega)), by walk_at "g_but", by omega, by rw [List.length_append, h8]; rfl, ?_, by rw [List.sum_append, List.sum_cons, List.sum_nil]; omega⟩
    intro x hx
    rcases List.mem_append.mp hx with g | g
    · exact h9 x g
    · rw [List.mem_singleton.mp g]; omega

def sp_l_drawn_mix (K : PySem.W.Frag) : Sp := fun vs H Q E => ∃ (a : Addr) (m c h f b : Int), vs = [.ref a, .int h, .int f, .int b] ∧ (Pk a m H c) ∧ (c ≤ 70000) ∧ (0 ≤ h ∧ h ≤ 40 ∧ 1 ≤ f ∧ f ≤ 8) ∧ (1 ≤ b ∧ b ≤ 10) ∧ ∀ (v : V) (mx : List (List Int × Int)) (G : Hp) (H' : Hp), (Dq G v (mixD mx)) → (MixOk h f.toNat mx) → (WtOk mx) → (Newly H G) → (Same G H') → (Pk a m H' (c + 2000)) → (But a H H') → Q (v) H'
theorem use_l_drawn_mix {K : PySem.W.Frag} {H : Hp} {Q : VK} {E : XK} {a : Addr} {m c h f b : Int} (p0 : Pk a m H c) (p1 : c ≤ 70000) (p2 : 0 ≤ h ∧ h ≤ 40 ∧ 1 ≤ f ∧ f ≤ 8) (p3 : 1 ≤ b ∧ b ≤ 10) (k : ∀ (v : V) (mx : List (List Int × Int)) (G : Hp) (H' : Hp), (Dq G v (mixD mx)) → (MixOk h f.toNat mx) → (WtOk mx) → (Newly H G) → (Same G H') → (Pk a m H' (c + 2000)) → (But a H H') → Q (v) H') : sp_l_drawn_mix K [.ref a, .int h, .int f, .int b] H Q E := ⟨a, m, c, h, f, b, rfl, p0, p1, p2, p3, k⟩
theorem len_l_drawn_mix {K : PySem.W.Frag} (vs : List V) (H : Hp) (Q : VK) (E : XK) (h : sp_l_drawn_mix K vs H Q E) : vs.length = ["_law_left", "_law_hosts", "_law_many", "_law_most"].length := by
  obtain ⟨_, _, _, _, _, _, rfl, _⟩ := h
  rfl
local macro_rules | `(tactic| walk_at "g_call") => `(tactic| ((with_reducible refine' use_l_drawn_mix ?c0 ?c1 ?c2 ?c3 ?_); (case c0 => walk_at "g_pre"); (case c1 => walk_at "g_pre"); (case c2 => walk_at "g_pre"); (case c3 => walk_at "g_pre"); intros))
theorem ok_l_drawn_mix (T : Txt K mg) : FnOk P w K mg base CX0 4 T.a_l_drawn_mix T.d_l_drawn_mix ["_law_left", "_law_hosts", "_law_many", "_law_most"] (sp_l_drawn_mix K) := by
  have G_l_draw := ok_l_draw (P := P) (w := w) (base := base) T
  have G_l_drawn_plan := ok_l_drawn_plan (P := P) (w := w) (base := base) T
  refine T.F_l_drawn_mix.ok sc_l_drawn_mix len_l_drawn_mix (fun cdv A outer s H vs Q E hr h => ?_)
  refine ⟨_, (pss_cons (ps_set (i := 4) sc_l_drawn_mix.nd rfl (Or.inl rfl) (pe_lst pa_nil))
      (pss_cons (ps_for PassesOwn.never rfl (pi_range1 rfl T.z_range (pa_cons (pe_op op_add pe_int (pe_call G_l_draw (hr.mono (by first | decide | omega)) (by rfl) T.g_l_draw T.F_l_draw.kp T.b_l_draw .nil pass0 (pa_cons (pv 0) (pa_cons (pv 3) pa_nil)))) pa_nil)) (pg_name (i := 5) sc_l_drawn_mix.nd rfl (Or.inl rfl)) (pss_cons (ps_set (i := 6) sc_l_drawn_mix.nd rfl (Or.inl rfl) (pe_ix (ix_listK K rfl) (pe_lst (pa_cons pe_int (pa_cons (pe_op op_add pe_int (pe_call G_l_draw (hr.mono (by first | decide | omega)) (by rfl) T.g_l_draw T.F_l_draw.kp T.b_l_draw .nil pass0 (pa_cons (pv 0) (pa_cons pe_int pa_nil)))) (pa_cons (pe_op op_add pe_int (pe_call G_l_draw (hr.mono (by first | decide | omega)) (by rfl) T.g_l_draw T.F_l_draw.kp T.b_l_draw .nil pass0 (pa_cons (pv 0) (pa_cons (pe_op op_pow pe_int pe_int) pa_nil)))) pa_nil)))) (pe_op op_fdiv (pe_call G_l_draw (hr.mono (by first | decide | omega)) (by rfl) T.g_l_draw T.F_l_draw.kp T.b_l_draw .nil pass0 (pa_cons (pv 0) (pa_cons pe_int pa_nil))) pe_int) (fun _ _ => rfl)))
      (pss_one (ps_expr (pe_bm PySem.F.plainAttrs_list PySem.F.slot_list_append PySem.F.type_list_append mt_append (pv 4) (pa_cons (pe_tup (pa_cons (pe_call G_l_drawn_plan (hr.mono (by first | decide | omega)) (by rfl) T.g_l_drawn_plan T.F_l_drawn_plan.kp T.b_l_drawn_plan .nil pass0 (pa_cons (pv 0) (pa_cons (pv 1) (pa_cons (pv 2) pa_nil)))) (pa_cons (pv 6) pa_nil))) pa_nil))))))
      (pss_cons (ps_if (pt_cmpR op_eq (pe_call G_l_draw (hr.mono (by first | decide | omega)) (by rfl) T.g_l_draw T.F_l_draw.kp T.b_l_draw .nil pass0 (pa_cons (pv 0) (pa_cons pe_int pa_nil))) pe_int (nomark _)) (pss_one (ps_expr (pe_bm PySem.F.plainAttrs_list PySem.F.slot_list_append PySem.F.type_list_append mt_append (pv 4) (pa_cons (pe_tup (pa_cons (pe_callTy (call_listK K rfl) (by rfl) T.z_list (by decide +kernel) (pa_cons (pe_ix (ix_tupK K rfl) (pe_ix (ix_listK K rfl) (pv 4) pe_int (fun _ _ => rfl)) pe_int (fun _ _ => rfl)) pa_nil)) (pa_cons (pe_op op_add pe_int (pe_call G_l_draw (hr.mono (by first | decide | omega)) (by rfl) T.g_l_draw T.F_l_draw.kp T.b_l_draw .nil pass0 (pa_cons (pv 0) (pa_cons pe_int pa_nil)))) pa_nil))) pa_nil)))) pss_nil)
      (pss_one (ps_ret (pv 4)))))), ?_⟩
  try dsimp only [L2.cxOf, L2.Cx.nox, L2.Cx.wish, List.map_cons, List.map_nil]
  obtain ⟨a, m, c, h, f, b, rfl, p0, p1, p2, p3, k⟩ := h
  refine start_to (σ := [some _, some _, some _, some _, none, none, none]) rfl ?_
  walk_at "go"
  rename_i L nL d0 H0 a1 a2 a3
  have hLa : L ≠ a := by walk_at "g_ne"
  have hL0 : H L = none := by walk_at "g_free"
  have e0 : H0 L = some (.lst []) := by walk_at "g_lk"
  refine forR (fun i σ H1 => ∃ (mx : List (List Int × Int)) (xs : List V) (y1 y2 : Option V), σ = [some (.ref a), some (.int h), some (.int f), some (.int b), some (.ref L), y1, y2] ∧ H1 L = some (.lst xs) ∧ DqAll (fr [L] H H1) xs (mx.map partD) ∧ Pk a m H1 (c + 4 + 120 * (i : Int)) ∧ mx.length = i ∧ (∀ pw ∈ mx, PlanC h f.toNat pw.1 ∧ 1 ≤ pw.2 ∧ pw.2 ≤ 10000000000000000000000000000) ∧ But a H H1) ⟨[], [], _, _, rfl, e0, .nil, a2.mono (by omega), rfl, nofun, by walk_at "g_but"⟩ ?_ ?_
  · rintro σ1 H1 ⟨mx, xs, y1, y2, rfl, h2, h3, h5, h9, h10, h11⟩
    have hl : xs.length = mx.length := by rw [h3.len, List.length_map]
    have hxs : xs.length ≤ 1000 := by omega
    obtain ⟨x0, hx0⟩ : ∃ x, xs[0]? = some x := ⟨xs[0]'(by omega), List.getElem?_eq_getElem _⟩
    obtain ⟨pw, t, p, g1, rfl, g2, g3⟩ := part_at h3 hx0
    have hat : atI xs 0 = some (.ref t) := atI_nat hx0
    have htL : t ≠ L := ne_of_none g2 (fr_in (by simp))
    have hta : t ≠ a := ne_of_none g2 (fr_newly.pk p0)
    have hpL : p ≠ L := ne_of_none g3 (fr_in (by simp))
    have hpa : p ≠ a := ne_of_none g3 (fr_newly.pk p0)
    have g2' := fr_same _ _ g2
    have g3' := fr_same _ _ g3
    have w0 : MixOk h f.toNat mx := ⟨by omega, by omega, by omega, fun pw hp => ⟨(h10 pw hp).1, (h10 pw hp).2.1⟩⟩
    have c5 : c + 4 + 120 * (((1 + d0).toNat : Nat) : Int) ≤ c + 1300 := by omega
    clear a2 a3 e0
    walk_at "go"
    rename_i d3 H3 b1 b2 b3
    refine ite_d (fun e1 => ?_) (fun e1 => ?_)
    · walk_at "go"
      rename_i l b6 d4 H4 b7 b8 b9 T b12
      have tL : T ≠ L := ne_new' b12 (show H4 L = some (.lst xs) by walk_at "g_lk")
      have lL : l ≠ L := ne_new' b6 (show H3 L = some (.lst xs) by walk_at "g_lk")
      have hT0 : H T = none := Pk.free (a := a) b12 (by walk_at "g_but") b8
      have hl0 : H l = none := Pk.free (a := a) b6 (by walk_at "g_but") b2
      refine k (.ref L) (mx ++ [(pw.1, 1 + d4)]) (fr [] H (upd (upd H4 T (.tup [.ref l, .int (1 + d4)])) L (.lst (xs ++ [.ref T])))) _ (.lst (fr_lk0 hL0 upd_same) ?_) ⟨by simp; omega, by omega, by omega, ?_⟩ ⟨by simp; omega, ?_⟩ fr_newly fr_same (Pk.mono (Pk.upd (Pk.new b8 b12) hLa) (by omega)) (by walk_at "g_but")
      · rw [List.map_append]
        have s1 : Same (fr [L] H H1) (fr [L] H (upd (upd H4 T (.tup [.ref l, .int (1 + d4)])) L (.lst (xs ++ [.ref T])))) := Same.trans (fr_butP p0 (show But a H1 (upd H4 T (.tup [.ref l, .int (1 + d4)])) by walk_at "g_but")) (fr_upd (by simp))
        exact DqAll.snoc ((h3.same s1).same fr_sub) (part_mk (fr_lk0 hT0 (by walk_at "g_lk")) (fr_lk0 hl0 (by walk_at "g_lk")))
      · intro pv hp
        rcases List.mem_append.mp hp with g | g
        · exact ⟨(h10 pv g).1, (h10 pv g).2.1⟩
        · rw [List.mem_singleton.mp g]
          exact ⟨(h10 pw (List.mem_of_getElem? g1)).1, by show 1 ≤ 1 + d4; omega⟩
      · intro pv hp
        rcases List.mem_append.mp hp with g | g
        · exact (h10 pv g).2.2
        · rw [List.mem_singleton.mp g]
          show 1 + d4 ≤ _
          omega
    · walk_at "go"
      exact k (.ref L) mx (fr [] H H3) _ (.lst (fr_lk0 hL0 (by walk_at "g_lk")) ((h3.same (fr_butP p0 b3)).same fr_sub)) w0 ⟨by omega, fun pw hp => (h10 pw hp).2.2⟩ fr_newly fr_same (b2.mono (by omega)) (by walk_at "g_but")
  · rintro i σ1 H1 hi ⟨mx, xs, y1, y2, rfl, h2, h3, h5, h9, h10, h11⟩
    have hl : xs.length = mx.length := by rw [h3.len, List.length_map]
    have hxs : xs.length ≤ 1000 := by omega
    have c5 : c + 4 + 120 * (i : Int) ≤ c + 1300 := by omega
    clear a2 a3 e0
    walk_at "go"
    rename_i d1 H2 a1 a2 a3 d2 H3 a4 a5 a6 r1 a11 d3 H4 a12 a13 a14 v a17 B ps H5 b1 b2 b3 b4 b5 T b9
    have tL : T ≠ L := ne_new' b9 (show H5 L = some (.lst xs) by walk_at "g_lk")
    have bL : B ≠ L := ne_new' b4 (show H4 L = some (.lst xs) by walk_at "g_lk")
    have hT0 : H T = none := Pk.free (a := a) b9 (by walk_at "g_but") b2
    have hB0 : H B = none := Pk.free (a := a) b4 (by walk_at "g_but") a13
    have hv : 1 ≤ v ∧ v ≤ 10000000000000000000000000000 := by omega
    refine ⟨mx ++ [(ps, v)], xs ++ [.ref T], _, _, rfl, upd_same, ?_, Pk.mono (Pk.upd (Pk.new b2 b9) hLa) (by omega), by simp [h9], ?_, by walk_at "g_but"⟩
    · rw [List.map_append]
      have s1 : Same (fr [L] H H1) (fr [L] H (upd (upd H5 T (.tup [.ref B, .int v])) L (.lst (xs ++ [.ref T])))) := Same.trans (fr_butP p0 (show But a H1 (upd H5 T (.tup [.ref B, .int v])) by walk_at "g_but")) (fr_upd (by simp))
      exact DqAll.snoc (h3.same s1) (part_mk (fr_lk1 tL hT0 (by walk_at "g_lk")) (fr_lk1 bL hB0 (by walk_at "g_lk")))
    · intro pw hp
      rcases List.mem_append.mp hp with g | g
      · exact h10 pw g
      · rw [List.mem_singleton.mp g]
        exact ⟨b5, hv⟩

def sp_l_flowing (K : PySem.W.Frag) : Sp := fun vs H Q E => ∃ (v : V) (m : List (List Int × Int)) (h : Int) (n : Nat), vs = [v] ∧ (Dq H v (mixD m)) ∧ (MixOk h n m) ∧ ∀ (w : V) (Ls : List (List Fl)) (G : Hp) (H' : Hp), (Dq G w (strD Ls)) → (StrOf m n Ls) → (∀ L ∈ Ls, L.length ≤ 100) → (Newly H G) → (Same G H') → (Same H H') → Q (w) H'
theorem use_l_flowing {K : PySem.W.Frag} {H : Hp} {Q : VK} {E : XK} {v : V} {m : List (List Int × Int)} {h : Int} {n : Nat} (p0 : Dq H v (mixD m)) (p1 : MixOk h n m) (k : ∀ (w : V) (Ls : List (List Fl)) (G : Hp) (H' : Hp), (Dq G w (strD Ls)) → (StrOf m n Ls) → (∀ L ∈ Ls, L.length ≤ 100) → (Newly H G) → (Same G H') → (Same H H') → Q (w) H') : sp_l_flowing K [v] H Q E := ⟨v, m, h, n, rfl, p0, p1, k⟩
theorem len_l_flowing {K : PySem.W.Frag} (vs : List V) (H : Hp) (Q : VK) (E : XK) (h : sp_l_flowing K vs H Q E) : vs.length = ["_law_mix"].length := by
  obtain ⟨_, _, _, _, rfl, _⟩ := h
  rfl
local macro_rules | `(tactic| walk_at "g_call") => `(tactic| ((with_reducible refine' use_l_flowing ?c0 ?c1 ?_); (case c0 => walk_at "g_pre"); (case c1 => walk_at "g_pre"); intros))
theorem ok_l_flowing (T : Txt K mg) : FnOk P w K mg base CX0 1 T.a_l_flowing T.d_l_flowing ["_law_mix"] (sp_l_flowing K) := by
  refine T.F_l_flowing.ok sc_l_flowing len_l_flowing (fun cdv A outer s H vs Q E hr h => ?_)
  refine ⟨_, (pss_cons (ps_set (i := 1) sc_l_flowing.nd rfl (Or.inl rfl) (pe_lst pa_nil))
      (pss_cons (ps_for PassesOwn.never rfl (pi_range1 rfl T.z_range (pa_cons (pe_callB (call_lenK K rfl) (by rfl) T.z_len (by decide +kernel) (pa_cons (pe_ix (ix_tupK K rfl) (pe_ix (ix_listK K rfl) (pv 0) pe_int (fun _ _ => rfl)) pe_int (fun _ _ => rfl)) pa_nil)) pa_nil)) (pg_name (i := 2) sc_l_flowing.nd rfl (Or.inl rfl)) (pss_cons (ps_set (i := 3) sc_l_flowing.nd rfl (Or.inr rfl) pe_dnewT)
      (pss_cons (ps_for PassesOwn.never rfl (pi_listK K rfl (pv 0)) (pg_tupK K rfl 2 rfl (pgs_cons (pg_name (i := 4) sc_l_flowing.nd rfl (Or.inl rfl)) (pgs_cons (pg_name (i := 5) sc_l_flowing.nd rfl (Or.inl rfl)) pgs_nil))) (pss_cons (ps_set (i := 6) sc_l_flowing.nd rfl (Or.inl rfl) (pe_tup (pa_cons (pe_callB (cr_sumK K rfl rfl) (by rfl) T.z_sum (by decide +kernel) (pa_cons (pe_slice (sl_listK K rfl) (pv 4) (po_some (pv 2)) po_none) pa_nil)) (pa_cons (pe_ix (ix_listK K rfl) (pv 4) (pv 2) (fun _ _ => rfl)) pa_nil))))
      (pss_one (ps_dput (hu_of hr) (pv 3) (pv 6) (pe_op op_add (pe_dget2 (hu_of hr) (pv 3) (pv 6) pe_int ⟨rfl, rfl, rfl, rfl⟩) (pv 5)) rfl))))
      (pss_one (ps_expr (pe_bm PySem.F.plainAttrs_list PySem.F.slot_list_append PySem.F.type_list_append mt_append (pv 1) (pa_cons (pe_lc (own := [("_law_key", 6)]) rfl sc_l_flowing.nd (pi_listK K rfl (pe_callB (cr_sortedDT rfl) (by rfl) T.z_sorted (by decide +kernel) (pa_cons (pv 3) pa_nil))) (blkOk_by (own := [("_law_key", 6)]) (N := ["_law_mix", "_law_found", "_law_k", "_law_flows", "_law_plan", "_law_weight", "_law_key"]) (sc := defScope s_l_flowing) (by decide +kernel)) (fun _ _ _ _ _ => (pg_name (i := 6) sc_l_flowing.nd rfl (Or.inl rfl))) (fun _ _ _ _ _ => pts_nil) (fun _ _ _ _ _ => (pe_tup (pa_cons (pe_ix (ix_tupK K rfl) (pv 6) pe_int (fun _ _ => rfl)) (pa_cons (pe_ix (ix_tupK K rfl) (pv 6) pe_int (fun _ _ => rfl)) (pa_cons (pe_dget (hu_of hr) (pv 3) (pv 6) (fun _ _ => rfl)) pa_nil)))))) pa_nil)))))))
      (pss_one (ps_ret (pv 1))))), ?_⟩
  try dsimp only [L2.cxOf, L2.Cx.nox, L2.Cx.wish, List.map_cons, List.map_nil]
  obtain ⟨v, m, h, n, rfl, p0, p1, k⟩ := h
  refine start_to (σ := [some _, none, none, none, none, none, none]) rfl ?_
  obtain ⟨a, xs, rfl, q1, q2, q3⟩ := mix_inv p0
  have hm := p1.ne
  obtain ⟨x0, hx0⟩ : ∃ x, xs[0]? = some x := ⟨xs[0]'(by omega), List.getElem?_eq_getElem _⟩
  obtain ⟨pw, t, p, e1, rfl, e2, e3⟩ := q3 0 x0 hx0
  have hat : atI xs 0 = some (.ref t) := atI_nat hx0
  have hn := mix_len p1 (List.mem_of_getElem? e1)
  have hn8 := p1.fl
  walk_at "go"
  rename_i R nR
  refine forR (fun i σ H1 => ∃ (ys : List V) (Ls : List (List Fl)) (y2 y3 y4 y5 y6 : Option V), σ = [some (.ref a), some (.ref R), y2, y3, y4, y5, y6] ∧ H1 R = some (.lst ys) ∧ DqAll (fr [R] H H1) ys (Ls.map rowD) ∧ Ls.length = i ∧ (∀ (j : Nat) L, Ls[j]? = some L → RowF (flowF m j) L) ∧ (∀ L ∈ Ls, L.length ≤ 100) ∧ Same H H1) ⟨[], [], _, _, _, _, _, rfl, upd_same, .nil, rfl, by simp, nofun, by walk_at "g_same"⟩ ?_ ?_
  · rintro σ1 H1 ⟨ys, Ls, y2, y3, y4, y5, y6, rfl, h1, h2, h3, h4, h6, h5⟩
    walk_at "go"
    exact k _ Ls (fr [] H H1) _ (.lst (fr_lk0 nR h1) (h2.same fr_sub)) ⟨by omega, h4⟩ h6 fr_newly fr_same h5
  · rintro i σ1 H1 hi ⟨ys, Ls, y2, y3, y4, y5, y6, rfl, h1, h2, h3, h4, h6, h5⟩
    have q1' := h5 _ _ q1
    have hyl : ys.length = i := by rw [h2.len, List.length_map, h3]
    clear hat e2 e3 hx0
    rw [Int.zero_add]
    walk_at "go"
    rename_i D nD
    have hD0 : H D = none := h5.free nD
    have hRD : R ≠ D := ne_of_none h1 nD
    refine forL (xs := xs) (fun j σ H2 => ∃ (kvs : List (List Key × V)) (y4 y5 y6 : Option V), σ = [some (.ref a), some (.ref R), some (.int i), some (.ref D), y4, y5, y6] ∧ H2 D = some (.dT kvs) ∧ FlD kvs (flowF (m.take j) i) ∧ kvs.length ≤ j ∧ Same H1 H2) ⟨[], _, _, _, rfl, upd_same, .nil, Nat.le_refl _, by walk_at "g_same"⟩ ?_ ?_ ?_
    · rintro j σ H2 _ ⟨kvs, y4, y5, y6, rfl, g1, g2, g3, g4⟩
      exact SqL.of (g4 _ _ q1')
    · rintro σ H2 ⟨kvs, y4, y5, y6, rfl, g1, g2, g3, g4⟩
      rw [q2, List.take_length] at g2
      have hps := g2.pairs
      have g5 := g4 _ _ h1
      clear q1'
      walk_at "go"
      rename_i zs p4 z1 z2 z3 z4
      intro D2 nD2
      have r0 := g2.row z2 z3
      generalize hL : (zs.map (pairAt H2)).map (fun p => (p.1, p.2, flowF m i p.1 p.2)) = L at r0
      have hzl : zs.length = L.length := by rw [← hL, List.length_map, List.length_map]
      have hzk : zs.length ≤ 100 := by
        have := z2.length_eq
        rw [List.length_map, List.length_map] at this
        omega
      have hDp : D ≠ p4 := ne_of_none g1 z4
      have hRp : R ≠ p4 := ne_of_none g5 z4
      have hRD2 : R ≠ D2 := ne_of_none (lk_new z4 g5) nD2
      refine lcL_new (xs := zs) (fun j => flD ((L[j]?).getD (0, 0, 0))) nD2 (by omega) (SqL.of upd_same) ?_ ?_
      · intro j y H3 Z Y hy hs hz
        obtain ⟨b, rfl, hb⟩ := z1 y (List.mem_of_getElem? hy)
        have eL : L[j]? = some ((pairAt H2 (.ref b)).1, (pairAt H2 (.ref b)).2, flowF m i (pairAt H2 (.ref b)).1 (pairAt H2 (.ref b)).2) := by
          rw [← hL, List.getElem?_map, List.getElem?_map, hy]
          rfl
        have hb' := hs _ _ (lk_new z4 hb)
        have g1' := hs _ _ (lk_new z4 g1)
        have hmem := (r0.mem _).mp (List.mem_of_getElem? eL)
        generalize hpa : pairAt H2 (.ref b) = pp at hb' eL hmem
        obtain ⟨l, s'⟩ := pp
        have hv : valV kvs [.inl l, .inl s'] = some (.int (flowF m i l s')) := by
          have := g2.vl l s'
          rw [if_neg hmem.2] at this
          exact this
        clear hs
        walk_at "go"
        rename_i q nq
        refine hz (.ref q) (fr [] H3 (upd H3 q (.tup [.int l, .int s', .int (flowF m i l s')]))) _ ?_ fr_newly fr_same (by walk_at "g_same")
        rw [eL]
        exact .tup (fr_lk0 nq upd_same) (.cons (.int _) (.cons (.int _) (.cons (.int _) .nil)))
      · intro G H3 w1 w2 w3 w4
        rw [hzl] at w1
        have w1' : Dq G (.ref D2) (rowD L) := by
          rw [rng_map _ flD L (fun i x e => by rw [e]; rfl)] at w1
          exact w1
        have e5 := w4 _ _ (lk_new z4 g5)
        have sH : Same H H3 := (h5.trans g4).trans ((Same.new z4).trans w4)
        have nH : Newly H G := w2.back ((h5.trans g4).trans (Same.new z4))
        have gR : G R = none := w2.free (lk_new z4 g5)
        walk_at "go"
        refine ⟨ys ++ [.ref D2], Ls ++ [L], _, _, _, _, _, rfl, upd_same, ?_, by rw [List.length_append, h3]; rfl, ?_, ?_, Same.mut sH nR⟩
        · rw [List.map_append]
          exact DqAll.snoc ((h2.same (fr_mono (g4.trans ((Same.new z4).trans w4)))).same (fr_upd (by simp))) (w1'.same (Newly.same1 nH (Same.mut w3 gR) gR))
        · intro j M hM
          by_cases c : j < Ls.length
          · rw [List.getElem?_append_left c] at hM
            exact h4 j M hM
          · rw [List.getElem?_append_right (by omega)] at hM
            have : j - Ls.length = 0 := by
              have := (List.getElem?_eq_some_iff.mp hM).1
              simp at this
              omega
            rw [this] at hM
            cases hM
            rw [show j = i by omega]
            exact r0
        · intro M hM
          rcases List.mem_append.mp hM with z | z
          · exact h6 M z
          · rw [List.mem_singleton.mp z]; omega
    · rintro j x σ H2 hx ⟨kvs, y4, y5, y6, rfl, g1, g2, g3, g4⟩
      obtain ⟨pw', t', p', f1, rfl, f2, f3⟩ := q3 j x hx
      have f2' := (h5.trans g4) _ _ f2
      have f3' := (h5.trans g4) _ _ f3
      have hn' := mix_len p1 (List.mem_of_getElem? f1)
      have hw := (p1.pl pw' (List.mem_of_getElem? f1)).2
      have hj := (List.getElem?_eq_some_iff.mp hx).1
      clear q1' h1 f2 f3
      walk_at "go"
      rename_i p5 n5 z5 hz5 p6 n6
      have e0 : (i : Int).toNat = i := by omega
      rw [e0] at hz5 n6 ⊢
      have hk : keyAt pw'.1 i = ((pw'.1.drop i).sum, z5) := by
        unfold keyAt
        rw [hz5]
        rfl
      refine ⟨_, _, _, _, rfl, upd_same, ?_, Nat.le_trans FlD.len (by omega), by walk_at "g_same"⟩
      have := g2.add (i := (pw'.1.drop i).sum) (j := z5) hw
      rw [take_snoc f1, flowF_snoc, hk]
      exact this

def sp_paper_times (K : PySem.W.Frag) : Sp := fun vs H Q E => ∃ (v : V) (Ls : List (List Fl)) (tb : List (List Int)) (b : Int), vs = [v, .int b] ∧ (Dq H v (papD Ls tb)) ∧ (PapOk Ls tb) ∧ (b.natAbs < 2 ^ 120) ∧ ∀ (w : V) (S : List Addr) (H' : Hp), (OwN H H' w (papD Ls (tbBy b tb)) S) → (Same H H') → Q (w) H'
theorem use_paper_times {K : PySem.W.Frag} {H : Hp} {Q : VK} {E : XK} {v : V} {Ls : List (List Fl)} {tb : List (List Int)} {b : Int} (p0 : Dq H v (papD Ls tb)) (p1 : PapOk Ls tb) (p2 : b.natAbs < 2 ^ 120) (k : ∀ (w : V) (S : List Addr) (H' : Hp), (OwN H H' w (papD Ls (tbBy b tb)) S) → (Same H H') → Q (w) H') : sp_paper_times K [v, .int b] H Q E := ⟨v, Ls, tb, b, rfl, p0, p1, p2, k⟩
theorem len_paper_times {K : PySem.W.Frag} (vs : List V) (H : Hp) (Q : VK) (E : XK) (h : sp_paper_times K vs H Q E) : vs.length = ["paper", "by"].length := by
  obtain ⟨_, _, _, _, rfl, _⟩ := h
  rfl
local macro_rules | `(tactic| walk_at "g_call") => `(tactic| ((with_reducible refine' use_paper_times ?c0 ?c1 ?c2 ?_); (case c0 => walk_at "g_pre"); (case c1 => walk_at "g_pre"); (case c2 => walk_at "g_pre"); intros))
theorem ok_paper_times (T : Txt K mg) : FnOk P w K mg base CX0 1 T.a_paper_times T.d_paper_times ["paper", "by"] (sp_paper_times K) := by
  refine T.F_paper_times.ok sc_paper_times len_paper_times (fun cdv A outer s H vs Q E hr h => ?_)
  refine ⟨_, (pss_cons (ps_asg (pv 0) (pg_tupK K rfl 2 rfl (pgs_cons (pg_name (i := 2) sc_paper_times.nd rfl (Or.inl rfl)) (pgs_cons (pg_name (i := 3) sc_paper_times.nd rfl (Or.inl rfl)) pgs_nil))))
      (pss_one (ps_ret (pe_tup (pa_cons (pe_lc (own := [("row", 4)]) rfl sc_paper_times.nd (pi_listK K rfl (pv 2)) (blkOk_by (own := [("row", 4)]) (N := ["paper", "by", "stream", "table", "row", "number"]) (sc := defScope s_paper_times) (by decide +kernel)) (fun _ _ _ _ _ => (pg_name (i := 4) sc_paper_times.nd rfl (Or.inl rfl))) (fun _ _ _ _ _ => pts_nil) (fun _ _ _ _ _ => (pe_callTy (call_listK K rfl) (by rfl) T.z_list (by decide +kernel) (pa_cons (pv 4) pa_nil)))) (pa_cons (pe_lc (own := [("row", 4)]) rfl sc_paper_times.nd (pi_listK K rfl (pv 3)) (blkOk_by (own := [("row", 4)]) (N := ["paper", "by", "stream", "table", "row", "number"]) (sc := defScope s_paper_times) (by decide +kernel)) (fun _ _ _ _ _ => (pg_name (i := 4) sc_paper_times.nd rfl (Or.inl rfl))) (fun _ _ _ _ _ => pts_nil) (fun _ _ _ _ _ => (pe_lc (own := [("number", 5)]) rfl sc_paper_times.nd (pi_listK K rfl (pv 4)) (blkOk_by (own := [("number", 5)]) (N := ["paper", "by", "stream", "table", "row", "number"]) (sc := (Hf.relS { kind := PySem.ScopeKind.function, names := [ (PySem.Str.ofString ".0", PySem.NameKind.local), (PySem.Str.ofString "row", PySem.NameKind.local), (PySem.Str.ofString "by", PySem.NameKind.free)], isGenerator := false, isCoroutine := false, more := [] : PySem.Scope } (defScope s_paper_times))) (by decide +kernel)) (fun _ _ _ _ _ => (pg_name (i := 5) sc_paper_times.nd rfl (Or.inl rfl))) (fun _ _ _ _ _ => pts_nil) (fun _ _ _ _ _ => (pe_op op_mulA (pv 5) (pv 1)))))) pa_nil)))))), ?_⟩
  try dsimp only [L2.cxOf, L2.Cx.nox, L2.Cx.wish, List.map_cons, List.map_nil]
  obtain ⟨v, Ls, tb, b, rfl, p0, p1, p2, k⟩ := h
  obtain ⟨a, p, q, xs, ys, rfl, h1, h2, h3, h4, h5⟩ := pap_inv p0
  have l1 : xs.length = Ls.length := by rw [h3.len, List.length_map]
  have l2 : ys.length = tb.length := by rw [h5.len, List.length_map]
  have m1 := p1.l1
  have m2 := p1.t1
  refine start_to (σ := [some _, some _, none, none, none, none]) rfl ?_
  walk_at "go"
  intro D nD
  refine lcL_own (xs := xs) (fun i => ((Ls.map rowD)[i]?).getD .none) nD (by omega) (SqL.of h2) ?_ ?_
  · intro i x H2 Z Y hx hs hz
    obtain ⟨L, p', zs, e1, rfl, e2, e3⟩ := strow_at h3 hx
    have e2' := hs _ _ e2
    walk_at "go"
    rename_i l nl
    refine hz (.ref l) [l] _ ⟨?_, by simp, fun b hb => by rw [List.mem_singleton.mp hb]; exact nl⟩ (by walk_at "g_same")
    rw [List.getElem?_map, e1]
    exact .lst upd_same (row_own (e3.same (by walk_at "g_same")))
  · intro S H2 o1 s1
    rw [l1, show Ls.length = (Ls.map rowD).length from (List.length_map _).symm, rng_get] at o1
    have h4' := s1 _ _ h4
    walk_at "go"
    intro D2 nD2
    refine lcL_own (xs := ys) (fun i => (((tbBy b tb).map planD)[i]?).getD .none) nD2 (by omega) (SqL.of h4') ?_ ?_
    · intro i x H3 Z Y hx hs hz
      obtain ⟨r, p', e1, rfl, e2⟩ := row_at h5 hx
      have e2' := (s1.trans hs) _ _ e2
      have hr := p1.t2 r (List.mem_of_getElem? e1)
      walk_at "go"
      intro D3 nD3
      refine lcL_int (xs := r.map V.int) (fun j => (r[j]?).getD 0 * b) nD3 (by rw [List.length_map]; omega) (SqL.of e2') ?_ ?_
      · intro j y H4 Z2 Y2 hy hs2 hz2
        obtain ⟨z, rfl, hz3⟩ := ints_at hy
        have hzb := hr.2 z (List.mem_of_getElem? hz3)
        have := hz2 _ (Same.refl _)
        rw [hz3] at this
        walk_at "go"
        refine i_I (mulW hzb p2 (by decide) (by decide) (by decide)) ?_
        exact this
      · intro H4 hs2 hD3
        rw [List.length_map, rng_map _ (fun x : Int => x * b) r (fun i x e => by rw [e]; rfl)] at hD3
        walk_at "go"
        refine hz (.ref D3) [D3] _ ⟨?_, by simp, fun b hb => by rw [List.mem_singleton.mp hb]; exact nD3⟩ hs2
        rw [List.getElem?_map, tbBy, List.getElem?_map, e1]
        exact .lst hD3 (own_ints _)
    · intro T H3 o2 s2
      rw [l2, show tb.length = ((tbBy b tb).map planD).length by rw [List.length_map, tbBy, List.length_map], rng_get] at o2
      walk_at "go"
      rename_i t nt
      exact k (.ref t) (S ++ T) _ (OwN.pair o1 o2 s1 s2 nt) (by walk_at "g_same")

def sp_l_marked (K : PySem.W.Frag) (n : Nat) : Sp := fun vs H Q E => ∃ (v : V) (d : PyData) (S : List Addr), vs = [v] ∧ (Ow H v d S) ∧ (S.Nodup) ∧ (dep d < n ∧ 1 ≤ dep d ∧ wid d ≤ 1000) ∧ ∀ (H' : Hp), (Ow H' v (mk d) S) → (Kp S H H') → Q (.non) H'
theorem use_l_marked {K : PySem.W.Frag} {n : Nat} {H : Hp} {Q : VK} {E : XK} {v : V} {d : PyData} {S : List Addr} (p0 : Ow H v d S) (p1 : S.Nodup) (p2 : dep d < n ∧ 1 ≤ dep d ∧ wid d ≤ 1000) (k : ∀ (H' : Hp), (Ow H' v (mk d) S) → (Kp S H H') → Q (.non) H') : sp_l_marked K n [v] H Q E := ⟨v, d, S, rfl, p0, p1, p2, k⟩
theorem len_l_marked {K : PySem.W.Frag} {n : Nat} (vs : List V) (H : Hp) (Q : VK) (E : XK) (h : sp_l_marked K n vs H Q E) : vs.length = ["_law_thing"].length := by
  obtain ⟨_, _, _, rfl, _⟩ := h
  rfl
local macro_rules | `(tactic| walk_at "g_call") => `(tactic| ((with_reducible refine' use_l_marked ?c0 ?c1 ?c2 ?_); (case c0 => walk_at "g_pre"); (case c1 => walk_at "g_pre"); (case c2 => walk_at "g_pre"); intros))
theorem okn_l_marked (T : Txt K mg) (n : Nat) : FnOk P w K mg base CX0 n T.a_l_marked T.d_l_marked ["_law_thing"] (sp_l_marked K n) := by
  induction n with
  | zero => exact ⟨len_l_marked, fun A outer s H args us vs Q E hr he hb hv h => by
      obtain ⟨v, d, S, _, _, _, ⟨z, _⟩, _⟩ := h
      omega⟩
  | succ n ih =>
  have G_l_marked := ih
  refine T.F_l_marked.ok sc_l_marked len_l_marked (fun cdv A outer s H vs Q E hr h => ?_)
  refine ⟨_, (pss_cons (ps_for PassesOwn.never rfl (pi_listK K rfl (pe_callTy (call_listK K rfl) (by rfl) T.z_list (by decide +kernel) (pa_cons (pv 0) pa_nil))) (pg_name (i := 1) sc_l_marked.nd rfl (Or.inl rfl)) (pss_one (ps_if (pt_val (pe_callB (call_isiTK K rfl) (by rfl) T.z_isinstance (by decide +kernel) (pa_cons (pv 1) (pa_cons (pe_tup (pa_cons (pe_bltn (v := .ty "list") rfl T.z_list (by decide +kernel) rfl) (pa_cons (pe_bltn (v := .ty "tuple") rfl T.z_tuple (by decide +kernel) rfl) pa_nil))) pa_nil)))) (pss_one (ps_expr (pe_call G_l_marked (hr.mono (by first | decide | omega)) (by rfl) T.g_l_marked T.F_l_marked.kp T.b_l_marked .nil pass0 (pa_cons (pv 1) pa_nil)))) pss_nil)))
      (pss_one (ps_if (pt_val (pe_callB (call_isXK K rfl) (by rfl) T.z_isinstance (by decide +kernel) (pa_cons (pv 0) (pa_cons (pe_bltn (v := .ty "list") rfl T.z_list (by decide +kernel) rfl) pa_nil)))) (pss_one (ps_expr (pe_bm PySem.F.plainAttrs_list PySem.F.slot_list_append PySem.F.type_list_append mt_append (pv 0) (pa_cons pe_str pa_nil)))) pss_nil))), ?_⟩
  try dsimp only [L2.cxOf, L2.Cx.nox, L2.Cx.wish, List.map_cons, List.map_nil]
  obtain ⟨v, d, S, rfl, p0, p1, ⟨p2, p3, p4⟩, k⟩ := h
  refine start_to (σ := [some _, none]) rfl ?_
  have turn : ∀ {T : List Addr} {xs : List V} {ds : List PyData} {i : Nat} {x : V} {H1 H0 : Hp} (Z : Hp → Prop), OwAll H0 xs ds T → T.Nodup → (∃ S1 S2, T = S1 ++ S2 ∧ OwAll H1 (xs.take i) (mkA (ds.take i)) S1 ∧ OwAll H1 (xs.drop i) (ds.drop i) S2) → xs[i]? = some x → depA ds < n → widA ds ≤ 1000 →
      (∀ H2, (∃ S1 S2, T = S1 ++ S2 ∧ OwAll H2 (xs.take (i + 1)) (mkA (ds.take (i + 1))) S1 ∧ OwAll H2 (xs.drop (i + 1)) (ds.drop (i + 1)) S2) → Kp T H1 H2 → Z H2) →
      ∃ d S2, Ow H1 x d S2 ∧ S2.Nodup ∧ dep d < n ∧ wid d ≤ 1000 ∧ ∀ H2, Ow H2 x (mk d) S2 → Kp S2 H1 H2 → Z H2 := by
    rintro T xs ds i x H1 H0 Z h0 hn ⟨S1, S2, rfl, a1, a2⟩ hx hd hw hz
    obtain ⟨d, T1, T2, e1, rfl, e2, e3⟩ := a2.drop_cons hx
    have hm := List.mem_of_getElem? e1
    have g1 := depA_mem hm
    have g2 := widA_mem hm
    rw [List.nodup_append] at hn
    obtain ⟨n1, n2, n3⟩ := hn
    rw [List.nodup_append] at n2
    obtain ⟨n4, n5, n6⟩ := n2
    refine ⟨d, T1, e2, n4, by omega, by omega, fun H2 q1 q2 => hz H2 ⟨S1 ++ T1, T2, by rw [List.append_assoc], ?_, ?_⟩ (q2.sub fun b hb => List.mem_append.mpr (.inr (List.mem_append.mpr (.inl hb))))⟩
    · have ht : ∀ b xs, b ∈ T1 → H1 b ≠ some (.tup xs) := fun b xs hb e => by
        obtain ⟨ys, e'⟩ := e2.lists b hb
        rw [e'] at e
        cases e
      rw [take_snoc hx, take_snoc e1, mkA_map, List.map_append, ← mkA_map]
      exact OwAll.snoc (OwAll.kp ht q2 a1 fun b hb hb' => n3 b hb b (List.mem_append.mpr (.inl hb')) rfl) q1
    · have ht : ∀ b xs, b ∈ T1 → H1 b ≠ some (.tup xs) := fun b xs hb e => by
        obtain ⟨ys, e'⟩ := e2.lists b hb
        rw [e'] at e
        cases e
      exact OwAll.kp ht q2 e3 fun b hb hb' => n6 b hb' b hb rfl
  cases p0 with
  | non => simp [dep] at p3
  | bl b => simp [dep] at p3
  | int i => simp [dep] at p3
  | str x => simp [dep] at p3
  | @lst a xs ds T h q =>
    rw [dep] at p2
    rw [wid] at p4
    have hl := q.len
    rw [List.nodup_cons] at p1
    walk_at "go"
    rename_i L nL
    have hLa : a ≠ L := ne_of_none h nL
    have hLT : L ∉ T := fun z => by
      obtain ⟨_, e⟩ := q.lists L z
      rw [nL] at e
      cases e
    refine forL (xs := xs) (fun i σ H1 => ∃ y1, σ = [some (.ref a), y1] ∧ H1 L = some (.lst xs) ∧ H1 a = some (.lst xs) ∧ Kp T H H1 ∧ ∃ S1 S2, T = S1 ++ S2 ∧ OwAll H1 (xs.take i) (mkA (ds.take i)) S1 ∧ OwAll H1 (xs.drop i) (ds.drop i) S2) ⟨_, rfl, upd_same, by walk_at "g_lk", Kp.same (by walk_at "g_same"), [], T, rfl, .nil, by rw [List.drop_zero, List.drop_zero]; exact q.same (by walk_at "g_same")⟩ ?_ ?_ ?_
    · rintro i σ H1 _ ⟨y1, rfl, h1, _⟩
      exact SqL.of h1
    · rintro σ H1 ⟨y1, rfl, h1, h2, h3, S1, S2, e1, e2, e3⟩
      rw [List.drop_eq_nil_of_le (show xs.length ≤ xs.length from Nat.le_refl _), List.drop_eq_nil_of_le (show ds.length ≤ xs.length by omega)] at e3
      rw [List.take_length, hl, List.take_length] at e2
      cases e3
      rw [List.append_nil] at e1
      subst e1
      walk_at "go"
      have ht : ∀ b ys, b ∈ [a] → H1 b ≠ some (.tup ys) := fun b ys hb e => by
        rw [List.mem_singleton.mp hb, h2] at e
        cases e
      have kp : Kp [a] H1 (upd H1 a (.lst (xs ++ [.str mkS]))) := Kp.upd (by simp) Kp.refl
      refine k _ ?_ ?_
      · rw [mk]
        refine .lst upd_same ?_
        have := OwAll.snoc (OwAll.kp ht kp e2 fun b hb hb' => p1.1 (by rw [← List.mem_singleton.mp hb']; exact hb)) (Ow.str mkS)
        rw [List.append_nil] at this
        exact this
      · exact Kp.upd (by simp) (h3.sub fun b hb => List.mem_cons_of_mem _ hb)
    · rintro i x σ H1 hx ⟨y1, rfl, h1, h2, h3, hS⟩
      obtain ⟨d, S2, e1, e2, e3, e4, e5⟩ := turn (fun H2 => ∃ y1, ([some (.ref a), some x] : L2.St) = [some (.ref a), y1] ∧ H2 L = some (.lst xs) ∧ H2 a = some (.lst xs) ∧ Kp T H H2 ∧ ∃ S1 S2, T = S1 ++ S2 ∧ OwAll H2 (xs.take (i + 1)) (mkA (ds.take (i + 1))) S1 ∧ OwAll H2 (xs.drop (i + 1)) (ds.drop (i + 1)) S2) q p1.2 hS hx (by omega) (by omega) (fun H2 r1 r2 => ⟨_, rfl, r2 _ _ hLT h1, r2 _ _ p1.1 h2, h3.trans r2, r1⟩)
      cases e1 with
      | non => walk_at "go"; exact e5 _ (by simp only [mk]; constructor) (Kp.same (by walk_at "g_same"))
      | bl b => walk_at "go"; exact e5 _ (by simp only [mk]; constructor) (Kp.same (by walk_at "g_same"))
      | int i => walk_at "go"; exact e5 _ (by simp only [mk]; constructor) (Kp.same (by walk_at "g_same"))
      | str x => walk_at "go"; exact e5 _ (by simp only [mk]; constructor) (Kp.same (by walk_at "g_same"))
      | @lst a' xs' ds' S' g1 g2 =>
        have o : Ow H1 (.ref a') (.list ds') (a' :: S') := .lst g1 g2
        have b : dep (.list ds') < n ∧ 1 ≤ dep (.list ds') ∧ wid (.list ds') ≤ 1000 := ⟨e3, by rw [dep]; omega, e4⟩
        walk_at "go"
        rename_i tp ntp H2 r1 r2
        exact e5 _ r1 (Kp.trans (Kp.same (by walk_at "g_same")) r2)
      | @tup a' xs' ds' _ g1 g2 =>
        have o : Ow H1 (.ref a') (.tuple ds') S2 := .tup g1 g2
        have b : dep (.tuple ds') < n ∧ 1 ≤ dep (.tuple ds') ∧ wid (.tuple ds') ≤ 1000 := ⟨e3, by rw [dep]; omega, e4⟩
        walk_at "go"
        rename_i tp ntp H2 r1 r2
        exact e5 _ r1 (Kp.trans (Kp.same (by walk_at "g_same")) r2)
  | @tup a xs ds _ h q =>
    rw [dep] at p2
    rw [wid] at p4
    have hl := q.len
    walk_at "go"
    rename_i L nL
    have hLa : a ≠ L := ne_of_none h nL
    have haT : a ∉ S := fun z => by
      obtain ⟨_, e⟩ := q.lists a z
      rw [h] at e
      cases e
    have hLT : L ∉ S := fun z => by
      obtain ⟨_, e⟩ := q.lists L z
      rw [nL] at e
      cases e
    refine forL (xs := xs) (fun i σ H1 => ∃ y1, σ = [some (.ref a), y1] ∧ H1 L = some (.lst xs) ∧ H1 a = some (.tup xs) ∧ Kp S H H1 ∧ ∃ S1 S2, S = S1 ++ S2 ∧ OwAll H1 (xs.take i) (mkA (ds.take i)) S1 ∧ OwAll H1 (xs.drop i) (ds.drop i) S2) ⟨_, rfl, upd_same, by walk_at "g_lk", Kp.same (by walk_at "g_same"), [], S, rfl, .nil, by rw [List.drop_zero, List.drop_zero]; exact q.same (by walk_at "g_same")⟩ ?_ ?_ ?_
    · rintro i σ H1 _ ⟨y1, rfl, h1, _⟩
      exact SqL.of h1
    · rintro σ H1 ⟨y1, rfl, h1, h2, h3, S1, S2, e1, e2, e3⟩
      rw [List.drop_eq_nil_of_le (show xs.length ≤ xs.length from Nat.le_refl _), List.drop_eq_nil_of_le (show ds.length ≤ xs.length by omega)] at e3
      rw [List.take_length, hl, List.take_length] at e2
      cases e3
      rw [List.append_nil] at e1
      subst e1
      walk_at "go"
      refine k _ ?_ h3
      rw [mk]
      exact .tup h2 e2
    · rintro i x σ H1 hx ⟨y1, rfl, h1, h2, h3, hS⟩
      obtain ⟨d, S2, e1, e2, e3, e4, e5⟩ := turn (fun H2 => ∃ y1, ([some (.ref a), some x] : L2.St) = [some (.ref a), y1] ∧ H2 L = some (.lst xs) ∧ H2 a = some (.tup xs) ∧ Kp S H H2 ∧ ∃ S1 S2, S = S1 ++ S2 ∧ OwAll H2 (xs.take (i + 1)) (mkA (ds.take (i + 1))) S1 ∧ OwAll H2 (xs.drop (i + 1)) (ds.drop (i + 1)) S2) q p1 hS hx (by omega) (by omega) (fun H2 r1 r2 => ⟨_, rfl, r2 _ _ hLT h1, r2 _ _ haT h2, h3.trans r2, r1⟩)
      cases e1 with
      | non => walk_at "go"; exact e5 _ (by simp only [mk]; constructor) (Kp.same (by walk_at "g_same"))
      | bl b => walk_at "go"; exact e5 _ (by simp only [mk]; constructor) (Kp.same (by walk_at "g_same"))
      | int i => walk_at "go"; exact e5 _ (by simp only [mk]; constructor) (Kp.same (by walk_at "g_same"))
      | str x => walk_at "go"; exact e5 _ (by simp only [mk]; constructor) (Kp.same (by walk_at "g_same"))
      | @lst a' xs' ds' S' g1 g2 =>
        have o : Ow H1 (.ref a') (.list ds') (a' :: S') := .lst g1 g2
        have b : dep (.list ds') < n ∧ 1 ≤ dep (.list ds') ∧ wid (.list ds') ≤ 1000 := ⟨e3, by rw [dep]; omega, e4⟩
        walk_at "go"
        rename_i tp ntp H2 r1 r2
        exact e5 _ r1 (Kp.trans (Kp.same (by walk_at "g_same")) r2)
      | @tup a' xs' ds' _ g1 g2 =>
        have o : Ow H1 (.ref a') (.tuple ds') S2 := .tup g1 g2
        have b : dep (.tuple ds') < n ∧ 1 ≤ dep (.tuple ds') ∧ wid (.tuple ds') ≤ 1000 := ⟨e3, by rw [dep]; omega, e4⟩
        walk_at "go"
        rename_i tp ntp H2 r1 r2
        exact e5 _ r1 (Kp.trans (Kp.same (by walk_at "g_same")) r2)
theorem ok_l_marked (T : Txt K mg) : FnOk P w K mg base CX0 12 T.a_l_marked T.d_l_marked ["_law_thing"] (sp_l_marked K 12) := okn_l_marked T 12
def sp_l_once (K : PySem.W.Frag) (n : Nat) : Sp := fun vs H Q E => ∃ (v : V) (d : PyData), vs = [v] ∧ (Dq H v (mk d)) ∧ (noM d = true) ∧ (dep d < n ∧ 1 ≤ dep d ∧ wid d ≤ 1000) ∧ (d.canLay0 = true) ∧ ∀ (H' : Hp), (Same H H') → Q (.bl true) H'
theorem use_l_once {K : PySem.W.Frag} {n : Nat} {H : Hp} {Q : VK} {E : XK} {v : V} {d : PyData} (p0 : Dq H v (mk d)) (p1 : noM d = true) (p2 : dep d < n ∧ 1 ≤ dep d ∧ wid d ≤ 1000) (p3 : d.canLay0 = true) (k : ∀ (H' : Hp), (Same H H') → Q (.bl true) H') : sp_l_once K n [v] H Q E := ⟨v, d, rfl, p0, p1, p2, p3, k⟩
theorem len_l_once {K : PySem.W.Frag} {n : Nat} (vs : List V) (H : Hp) (Q : VK) (E : XK) (h : sp_l_once K n vs H Q E) : vs.length = ["_law_thing"].length := by
  obtain ⟨_, _, rfl, _⟩ := h
  rfl
local macro_rules | `(tactic| walk_at "g_call") => `(tactic| ((with_reducible refine' use_l_once ?c0 ?c1 ?c2 ?c3 ?_); (case c0 => walk_at "g_pre"); (case c1 => walk_at "g_pre"); (case c2 => walk_at "g_pre"); (case c3 => walk_at "g_pre"); intros))
theorem okn_l_once (T : Txt K mg) (n : Nat) : FnOk P w K mg base CX0 n T.a_l_once T.d_l_once ["_law_thing"] (sp_l_once K n) := by
  induction n with
  | zero => exact ⟨len_l_once, fun A outer s H args us vs Q E hr he hb hv h => by
      obtain ⟨v, d, _, _, _, ⟨z, _⟩, _⟩ := h
      omega⟩
  | succ n ih =>
  have G_l_once := ih
  refine T.F_l_once.ok sc_l_once len_l_once (fun cdv A outer s H vs Q E hr h => ?_)
  refine ⟨_, (pss_cons (ps_if (PW.pt (pw_and (pt_val (pe_callB (call_isXK K rfl) (by rfl) T.z_isinstance (by decide +kernel) (pa_cons (pv 0) (pa_cons (pe_bltn (v := .ty "list") rfl T.z_list (by decide +kernel) rfl) pa_nil)))) (pw_and1 (pt_cmpR op_ne (pe_bm PySem.F.plainAttrs_list PySem.F.slot_list_count PySem.F.type_list_count (mt_lcountSK K rfl hr.units) (pv 0) (pa_cons pe_str pa_nil)) pe_int (nomark _))))) (pss_one (ps_ret pe_bl)) pss_nil)
      (pss_cons (ps_for PassesOwn.never rfl (pi_seqK K rfl (pv 0)) (pg_name (i := 1) sc_l_once.nd rfl (Or.inl rfl)) (pss_one (ps_if (PW.pt (pw_and (pt_val (pe_callB (call_isiTK K rfl) (by rfl) T.z_isinstance (by decide +kernel) (pa_cons (pv 1) (pa_cons (pe_tup (pa_cons (pe_bltn (v := .ty "list") rfl T.z_list (by decide +kernel) rfl) (pa_cons (pe_bltn (v := .ty "tuple") rfl T.z_tuple (by decide +kernel) rfl) pa_nil))) pa_nil)))) (pw_and1 (pt_not (pt_val (pe_call G_l_once (hr.mono (by first | decide | omega)) (by rfl) T.g_l_once T.F_l_once.kp T.b_l_once .nil pass0 (pa_cons (pv 1) pa_nil))))))) (pss_one (ps_ret pe_bl)) pss_nil)))
      (pss_one (ps_ret pe_bl)))), ?_⟩
  try dsimp only [L2.cxOf, L2.Cx.nox, L2.Cx.wish, List.map_cons, List.map_nil]
  obtain ⟨v, d, rfl, p0, p1, ⟨p2, p3, p4⟩, p5, k⟩ := h
  refine start_to (σ := [some _, none]) rfl ?_
  cases d with
  | none => simp [dep] at p3
  | bool b => simp [dep] at p3
  | int i => simp [dep] at p3
  | str x => simp [dep] at p3
  | dict x => simp [dep] at p3
  | list ds =>
    rw [dep] at p2
    rw [wid] at p4
    rw [noM] at p1
    have p6 := lay_mk p5
    rw [PyData.canLay0] at p5
    rw [mk] at p0 p6
    rw [PyData.canLay0] at p6
    have hc := cnt_mk p1
    obtain ⟨a, xs, rfl, h, q⟩ := p0.list_inv
    have hl := q.len
    rw [List.length_append, mkA_map, List.length_map] at hl
    walk_at "go"
    refine forL (xs := xs) (fun i σ H1 => ∃ y1, σ = [some (.ref a), y1] ∧ Same H H1) ⟨_, rfl, by walk_at "g_same"⟩ ?_ ?_ ?_
    · rintro i σ H1 _ ⟨y1, rfl, h1⟩
      exact SqL.of (h1 _ _ h)
    · rintro σ H1 ⟨y1, rfl, h1⟩
      walk_at "go"
      exact k _ h1
    · rintro i x σ H1 hx ⟨y1, rfl, h1⟩
      obtain ⟨e, he, qe⟩ := q.get' hx
      have qe' := qe.same h1
      clear p0
      by_cases c : i < ds.length
      · rw [List.getElem?_append_left (by rw [mkA_map, List.length_map]; exact c), mkA_map, List.getElem?_map, List.getElem?_eq_getElem c] at he
        have hm : ds[i] ∈ ds := List.getElem_mem c
        obtain ⟨d', hd⟩ : ∃ d', d' = ds[i] := ⟨_, rfl⟩
        rw [← hd] at he hm
        cases he
        have g1 := depA_mem hm
        have g2 := widA_mem hm
        have g3 := noMA_mem p1 hm
        have g4 : d'.canLay0 = true := lay_mem p5 hm
        clear hd
        cases d' with
        | none => simp only [mk] at qe'; cases qe'; walk_at "go"; exact ⟨_, rfl, by walk_at "g_same"⟩
        | bool b => simp only [mk] at qe'; cases qe'; walk_at "go"; exact ⟨_, rfl, by walk_at "g_same"⟩
        | int z => simp only [mk] at qe'; cases qe'; walk_at "go"; exact ⟨_, rfl, by walk_at "g_same"⟩
        | str z => simp only [mk] at qe'; cases qe'; walk_at "go"; exact ⟨_, rfl, by walk_at "g_same"⟩
        | dict z => simp [PyData.canLay0] at g4
        | list ds' =>
          have b : dep (.list ds') < n ∧ 1 ≤ dep (.list ds') ∧ wid (.list ds') ≤ 1000 := ⟨by omega, by rw [dep]; omega, by omega⟩
          have qe2 := qe'
          rw [mk] at qe2
          obtain ⟨a', xs', rfl, h', q'⟩ := qe2.list_inv
          walk_at "go"
          exact ⟨_, rfl, by walk_at "g_same"⟩
        | tuple ds' =>
          have b : dep (.tuple ds') < n ∧ 1 ≤ dep (.tuple ds') ∧ wid (.tuple ds') ≤ 1000 := ⟨by omega, by rw [dep]; omega, by omega⟩
          have qe2 := qe'
          rw [mk] at qe2
          obtain ⟨a', xs', rfl, h', q'⟩ := qe2.tuple_inv
          walk_at "go"
          exact ⟨_, rfl, by walk_at "g_same"⟩
      · rw [List.getElem?_append_right (by rw [mkA_map, List.length_map]; omega)] at he
        have : e = .str mkS := by
          have := List.mem_of_getElem? he
          simpa using this
        subst this
        cases qe'
        walk_at "go"
        exact ⟨_, rfl, by walk_at "g_same"⟩
  | tuple ds =>
    rw [dep] at p2
    rw [wid] at p4
    rw [noM] at p1
    rw [PyData.canLay0] at p5
    rw [mk] at p0
    obtain ⟨a, xs, rfl, h, q⟩ := p0.tuple_inv
    have hl := q.len
    rw [mkA_map, List.length_map] at hl
    walk_at "go"
    refine forT (xs := xs) (fun i σ H1 => ∃ y1, σ = [some (.ref a), y1] ∧ Same H H1) ⟨_, rfl, by walk_at "g_same"⟩ ?_ ?_ ?_
    · rintro i σ H1 _ ⟨y1, rfl, h1⟩
      exact SqT.of (h1 _ _ h)
    · rintro σ H1 ⟨y1, rfl, h1⟩
      walk_at "go"
      exact k _ h1
    · rintro i x σ H1 hx ⟨y1, rfl, h1⟩
      obtain ⟨e, he, qe⟩ := q.get' hx
      have qe' := qe.same h1
      clear p0
      have c : i < ds.length := by
        have := (List.getElem?_eq_some_iff.mp hx).1
        omega
      rw [mkA_map, List.getElem?_map, List.getElem?_eq_getElem c] at he
      have hm : ds[i] ∈ ds := List.getElem_mem c
      obtain ⟨d', hd⟩ : ∃ d', d' = ds[i] := ⟨_, rfl⟩
      rw [← hd] at he hm
      cases he
      have g1 := depA_mem hm
      have g2 := widA_mem hm
      have g3 := noMA_mem p1 hm
      have g4 : d'.canLay0 = true := lay_mem p5 hm
      clear hd
      cases d' with
      | none => simp only [mk] at qe'; cases qe'; walk_at "go"; exact ⟨_, rfl, by walk_at "g_same"⟩
      | bool b => simp only [mk] at qe'; cases qe'; walk_at "go"; exact ⟨_, rfl, by walk_at "g_same"⟩
      | int z => simp only [mk] at qe'; cases qe'; walk_at "go"; exact ⟨_, rfl, by walk_at "g_same"⟩
      | str z => simp only [mk] at qe'; cases qe'; walk_at "go"; exact ⟨_, rfl, by walk_at "g_same"⟩
      | dict z => simp [PyData.canLay0] at g4
      | list ds' =>
        have b : dep (.list ds') < n ∧ 1 ≤ dep (.list ds') ∧ wid (.list ds') ≤ 1000 := ⟨by omega, by rw [dep]; omega, by omega⟩
        have qe2 := qe'
        rw [mk] at qe2
        obtain ⟨a', xs', rfl, h', q'⟩ := qe2.list_inv
        walk_at "go"
        exact ⟨_, rfl, by walk_at "g_same"⟩
      | tuple ds' =>
        have b : dep (.tuple ds') < n ∧ 1 ≤ dep (.tuple ds') ∧ wid (.tuple ds') ≤ 1000 := ⟨by omega, by rw [dep]; omega, by omega⟩
        have qe2 := qe'
        rw [mk] at qe2
        obtain ⟨a', xs', rfl, h', q'⟩ := qe2.tuple_inv
        walk_at "go"
        exact ⟨_, rfl, by walk_at "g_same"⟩
theorem ok_l_once (T : Txt K mg) : FnOk P w K mg base CX0 12 T.a_l_once T.d_l_once ["_law_thing"] (sp_l_once K 12) := okn_l_once T 12

def sp_l_kind_of (K : PySem.W.Frag) (e_NoNumber : Addr) : Sp := fun vs H Q E => ∃ (a : Addr), vs = [.ref a] ∧ (H a = some (exHO a (.ref e_NoNumber) none)) ∧ ∀ (H' : Hp), (Same H H') → Q (.str (PySem.Str.ofString "number")) H'
theorem use_l_kind_of {K : PySem.W.Frag} {e_NoNumber : Addr} {H : Hp} {Q : VK} {E : XK} {a : Addr} (p0 : H a = some (exHO a (.ref e_NoNumber) none)) (k : ∀ (H' : Hp), (Same H H') → Q (.str (PySem.Str.ofString "number")) H') : sp_l_kind_of K e_NoNumber [.ref a] H Q E := ⟨a, rfl, p0, k⟩
theorem len_l_kind_of {K : PySem.W.Frag} {e_NoNumber : Addr} (vs : List V) (H : Hp) (Q : VK) (E : XK) (h : sp_l_kind_of K e_NoNumber vs H Q E) : vs.length = ["_law_caught"].length := by
  obtain ⟨_, rfl, _⟩ := h
  rfl
local macro_rules | `(tactic| walk_at "g_call") => `(tactic| ((with_reducible refine' use_l_kind_of ?c0 ?_); (case c0 => walk_at "g_pre"); intros))
theorem ok_l_kind_of (T : Txt K mg) : FnOk P w K mg base CX0 1 T.a_l_kind_of T.d_l_kind_of ["_law_caught"] (sp_l_kind_of K T.e_NoNumber) := by
  refine T.F_l_kind_of.ok sc_l_kind_of len_l_kind_of (fun cdv A outer s H vs Q E hr h => ?_)
  refine ⟨_, (pss_cons (ps_set (i := 1) sc_l_kind_of.nd rfl (Or.inl rfl) (pe_lst (pa_cons (pe_callB (call_isXK K rfl) (by rfl) T.z_isinstance (by decide +kernel) (pa_cons (pv 0) (pa_cons (pe_glob (v := .ref T.e_NoBattle) rfl T.g_NoBattle rfl) pa_nil))) (pa_cons (pe_callB (call_isXK K rfl) (by rfl) T.z_isinstance (by decide +kernel) (pa_cons (pv 0) (pa_cons (pe_glob (v := .ref T.e_NoPlan) rfl T.g_NoPlan rfl) pa_nil))) (pa_cons (pe_callB (call_isXK K rfl) (by rfl) T.z_isinstance (by decide +kernel) (pa_cons (pv 0) (pa_cons (pe_glob (v := .ref T.e_NoMix) rfl T.g_NoMix rfl) pa_nil))) pa_nil)))))
      (pss_cons (ps_set (i := 1) sc_l_kind_of.nd rfl (Or.inl rfl) (pe_op op_cat (pv 1) (pe_lst (pa_cons (pe_callB (call_isXK K rfl) (by rfl) T.z_isinstance (by decide +kernel) (pa_cons (pv 0) (pa_cons (pe_glob (v := .ref T.e_NoStream) rfl T.g_NoStream rfl) pa_nil))) (pa_cons (pe_callB (call_isXK K rfl) (by rfl) T.z_isinstance (by decide +kernel) (pa_cons (pv 0) (pa_cons (pe_glob (v := .ref T.e_NoSide) rfl T.g_NoSide rfl) pa_nil))) (pa_cons (pe_callB (call_isXK K rfl) (by rfl) T.z_isinstance (by decide +kernel) (pa_cons (pv 0) (pa_cons (pe_glob (v := .ref T.e_NoAlike) rfl T.g_NoAlike rfl) pa_nil))) pa_nil))))))
      (pss_cons (ps_set (i := 1) sc_l_kind_of.nd rfl (Or.inl rfl) (pe_op op_cat (pv 1) (pe_lst (pa_cons (pe_callB (call_isXK K rfl) (by rfl) T.z_isinstance (by decide +kernel) (pa_cons (pv 0) (pa_cons (pe_glob (v := .ref T.e_NoNumber) rfl T.g_NoNumber rfl) pa_nil))) (pa_cons (pe_callB (call_isXK K rfl) (by rfl) T.z_isinstance (by decide +kernel) (pa_cons (pv 0) (pa_cons (pe_glob (v := .ref T.e_TooGreat) rfl T.g_TooGreat rfl) pa_nil))) (pa_cons (pe_callB (call_isXK K rfl) (by rfl) T.z_isinstance (by decide +kernel) (pa_cons (pv 0) (pa_cons (pe_glob (v := .ref T.e_NoEven) rfl T.g_NoEven rfl) pa_nil))) pa_nil))))))
      (pss_cons (ps_set (i := 1) sc_l_kind_of.nd rfl (Or.inl rfl) (pe_op op_cat (pv 1) (pe_lst (pa_cons (pe_callB (call_isXK K rfl) (by rfl) T.z_isinstance (by decide +kernel) (pa_cons (pv 0) (pa_cons (pe_glob (v := .ref T.e_NoText) rfl T.g_NoText rfl) pa_nil))) (pa_cons (pe_callB (call_isXK K rfl) (by rfl) T.z_isinstance (by decide +kernel) (pa_cons (pv 0) (pa_cons (pe_glob (v := .ref T.e_NoRow) rfl T.g_NoRow rfl) pa_nil))) (pa_cons (pe_callB (call_isXK K rfl) (by rfl) T.z_isinstance (by decide +kernel) (pa_cons (pv 0) (pa_cons (pe_glob (v := .ref T.e_NoName) rfl T.g_NoName rfl) pa_nil))) pa_nil))))))
      (pss_cons (ps_set (i := 1) sc_l_kind_of.nd rfl (Or.inl rfl) (pe_op op_cat (pv 1) (pe_lst (pa_cons (pe_callB (call_isXK K rfl) (by rfl) T.z_isinstance (by decide +kernel) (pa_cons (pv 0) (pa_cons (pe_glob (v := .ref T.e_NoPlace) rfl T.g_NoPlace rfl) pa_nil))) pa_nil))))
      (pss_cons (ps_set (i := 2) sc_l_kind_of.nd rfl (Or.inl rfl) (pe_lst (pa_cons pe_str (pa_cons pe_str (pa_cons pe_str (pa_cons pe_str (pa_cons pe_str (pa_cons pe_str (pa_cons pe_str (pa_cons pe_str (pa_cons pe_str (pa_cons pe_str (pa_cons pe_str (pa_cons pe_str pa_nil))))))))))))))
      (pss_cons (ps_if (pt_cmpR op_isN (pv 0) pe_non (nomark _)) (pss_one (ps_ret pe_str)) pss_nil)
      (pss_cons (ps_if (PW.pt (pw_or (pt_not (pt_val (pe_callB (call_isXK K rfl) (by rfl) T.z_isinstance (by decide +kernel) (pa_cons (pv 0) (pa_cons (pe_glob (v := .ref T.e_HostError) rfl T.g_HostError rfl) pa_nil))))) (pw_or (pt_not (pt_val (pe_callB (call_isXK K rfl) (by rfl) T.z_isinstance (by decide +kernel) (pa_cons (pv 0) (pa_cons (pe_bltn (v := .ty "ValueError") rfl T.z_ValueError (by decide +kernel) rfl) pa_nil))))) (pw_or1 (pt_cmpR op_ne (pe_bm PySem.F.plainAttrs_list PySem.F.slot_list_count PySem.F.type_list_count (mt_lcountVK K rfl) (pv 1) (pa_cons pe_bl pa_nil)) pe_int (nomark _)))))) (pss_one (ps_ret pe_str)) pss_nil)
      (pss_one (ps_ret (pe_ix (ix_listK K rfl) (pe_op op_cat (pv 2) (pe_lst (pa_cons pe_str pa_nil))) (pe_bm PySem.F.plainAttrs_list PySem.F.slot_list_index PySem.F.type_list_index (mt_indexK K rfl) (pv 1) (pa_cons pe_bl pa_nil)) (fun _ _ => rfl)))))))))))), ?_⟩
  try dsimp only [L2.cxOf, L2.Cx.nox, L2.Cx.wish, List.map_cons, List.map_nil]
  obtain ⟨a, rfl, p0, k⟩ := h
  refine start_to (σ := [some _, none, none]) rfl ?_
  walk_at "go"
  exact k _ (by walk_at "g_same")

def sp_must_be_many (K : PySem.W.Frag) (e_NoNumber : Addr) : Sp := fun vs H Q E => ∃ (z : Int), vs = [.int z] ∧ ((1 ≤ z) → ∀ (H' : Hp), (Same H H') → Q (.non) H') ∧ (¬ (1 ≤ z) → ∀ H', Same H H' → E (.ref e_NoNumber) none H')
theorem use_must_be_many {K : PySem.W.Frag} {e_NoNumber : Addr} {H : Hp} {Q : VK} {E : XK} {z : Int}  (k : (1 ≤ z) → ∀ (H' : Hp), (Same H H') → Q (.non) H') (kx : ¬ (1 ≤ z) → ∀ H', Same H H' → E (.ref e_NoNumber) none H') : sp_must_be_many K e_NoNumber [.int z] H Q E := ⟨z, rfl, k, kx⟩
theorem len_must_be_many {K : PySem.W.Frag} {e_NoNumber : Addr} (vs : List V) (H : Hp) (Q : VK) (E : XK) (h : sp_must_be_many K e_NoNumber vs H Q E) : vs.length = ["many"].length := by
  obtain ⟨_, rfl, _⟩ := h
  rfl
local macro_rules | `(tactic| walk_at "g_call") => `(tactic| ((with_reducible refine' use_must_be_many ?kk ?kx); first | ((case kx => (intro _; exfalso; walk_at "g_no")); intros) | ((case kk => (intro _; exfalso; walk_at "g_no")); intros) | skip))
theorem ok_must_be_many (T : Txt K mg) : FnOk P w K mg base (L2.CX P w) 1 T.a_must_be_many T.d_must_be_many ["many"] (sp_must_be_many K T.e_NoNumber) := by
  refine T.F_must_be_many.okX sc_must_be_many len_must_be_many (fun cdv A outer s H vs Q E hr h => ?_)
  refine ⟨_, (pss_one (ps_if (pt_cmpR op_lt (pv 0) pe_int (nomark _)) (pss_one (ps_raise rfl (takes_of rfl rfl rfl rfl) (pmk_own PySem.F.excBase_ValueError T.x_NoNumber T.g_NoNumber T.k_NoNumber (raises_own T.y_NoNumber T.t_NoNumber) rfl))) pss_nil)), ?_⟩
  try dsimp only [L2.cxOf, L2.Cx.nox, L2.Cx.wish, List.map_cons, List.map_nil]
  obtain ⟨z, rfl, k, kx⟩ := h
  refine start_to (σ := [some _]) rfl ?_
  walk_at "go"
  refine ite_d (fun c1 => ?_) (fun c1 => ?_)
  · walk_at "go"
    exact kx (fun c => by omega) _ (by walk_at "g_same")
  · walk_at "go"
    exact k (by omega) _ (by walk_at "g_same")
def sp_paper_exchanged (K : PySem.W.Frag) : Sp := fun vs H Q E => ∃ (v : V) (Ls : List (List Fl)) (tb : List (List Int)), vs = [v] ∧ (Dq H v (papD Ls tb)) ∧ (PapOk Ls tb) ∧ ∀ (w : V) (S : List Addr) (H' : Hp), (OwN H H' w (papD Ls (tbBy (-1) tb)) S) → (Same H H') → Q (w) H'
theorem use_paper_exchanged {K : PySem.W.Frag} {H : Hp} {Q : VK} {E : XK} {v : V} {Ls : List (List Fl)} {tb : List (List Int)} (p0 : Dq H v (papD Ls tb)) (p1 : PapOk Ls tb) (k : ∀ (w : V) (S : List Addr) (H' : Hp), (OwN H H' w (papD Ls (tbBy (-1) tb)) S) → (Same H H') → Q (w) H') : sp_paper_exchanged K [v] H Q E := ⟨v, Ls, tb, rfl, p0, p1, k⟩
theorem len_paper_exchanged {K : PySem.W.Frag} (vs : List V) (H : Hp) (Q : VK) (E : XK) (h : sp_paper_exchanged K vs H Q E) : vs.length = ["paper"].length := by
  obtain ⟨_, _, _, rfl, _⟩ := h
  rfl
local macro_rules | `(tactic| walk_at "g_call") => `(tactic| ((with_reducible refine' use_paper_exchanged ?c0 ?c1 ?_); (case c0 => walk_at "g_pre"); (case c1 => walk_at "g_pre"); intros))
theorem ok_paper_exchanged (T : Txt K mg) : FnOk P w K mg base CX0 2 T.a_paper_exchanged T.d_paper_exchanged ["paper"] (sp_paper_exchanged K) := by
  have G_paper_times := ok_paper_times (P := P) (w := w) (base := base) T
  refine T.F_paper_exchanged.ok sc_paper_exchanged len_paper_exchanged (fun cdv A outer s H vs Q E hr h => ?_)
  refine ⟨_, (pss_one (ps_ret (pe_call G_paper_times (hr.mono (by first | decide | omega)) (by rfl) T.g_paper_times T.F_paper_times.kp T.b_paper_times .nil pass0 (pa_cons (pv 0) (pa_cons (pe_un un_neg pe_int) pa_nil))))), ?_⟩
  try dsimp only [L2.cxOf, L2.Cx.nox, L2.Cx.wish, List.map_cons, List.map_nil]
  obtain ⟨v, Ls, tb, rfl, p0, p1, k⟩ := h
  refine start_to (σ := [some _]) rfl ?_
  have hb : (-1 : Int).natAbs < 2 ^ 120 := by decide
  walk_at "go"
  exact k _ _ _ (by assumption) (by assumption)
def sp_paper_scaled (K : PySem.W.Frag) (e_NoNumber : Addr) : Sp := fun vs H Q E => ∃ (v : V) (Ls : List (List Fl)) (tb : List (List Int)) (z : Int), vs = [v, .int z] ∧ (Dq H v (papD Ls tb)) ∧ (PapOk Ls tb) ∧ (z.natAbs < 2 ^ 120) ∧ ((1 ≤ z) → ∀ (w : V) (S : List Addr) (H' : Hp), (OwN H H' w (papD Ls (tbBy z tb)) S) → (Same H H') → Q (w) H') ∧ (¬ (1 ≤ z) → ∀ H', Same H H' → E (.ref e_NoNumber) none H')
theorem use_paper_scaled {K : PySem.W.Frag} {e_NoNumber : Addr} {H : Hp} {Q : VK} {E : XK} {v : V} {Ls : List (List Fl)} {tb : List (List Int)} {z : Int} (p0 : Dq H v (papD Ls tb)) (p1 : PapOk Ls tb) (p2 : z.natAbs < 2 ^ 120) (k : (1 ≤ z) → ∀ (w : V) (S : List Addr) (H' : Hp), (OwN H H' w (papD Ls (tbBy z tb)) S) → (Same H H') → Q (w) H') (kx : ¬ (1 ≤ z) → ∀ H', Same H H' → E (.ref e_NoNumber) none H') : sp_paper_scaled K e_NoNumber [v, .int z] H Q E := ⟨v, Ls, tb, z, rfl, p0, p1, p2, k, kx⟩
theorem len_paper_scaled {K : PySem.W.Frag} {e_NoNumber : Addr} (vs : List V) (H : Hp) (Q : VK) (E : XK) (h : sp_paper_scaled K e_NoNumber vs H Q E) : vs.length = ["paper", "many"].length := by
  obtain ⟨_, _, _, _, rfl, _⟩ := h
  rfl
local macro_rules | `(tactic| walk_at "g_call") => `(tactic| ((with_reducible refine' use_paper_scaled ?c0 ?c1 ?c2 ?kk ?kx); (case c0 => walk_at "g_pre"); (case c1 => walk_at "g_pre"); (case c2 => walk_at "g_pre"); first | ((case kx => (intro _; exfalso; walk_at "g_no")); intros) | ((case kk => (intro _; exfalso; walk_at "g_no")); intros) | skip))
theorem ok_paper_scaled (T : Txt K mg) : FnOk P w K mg base (L2.CX P w) 2 T.a_paper_scaled T.d_paper_scaled ["paper", "many"] (sp_paper_scaled K T.e_NoNumber) := by
  have G_must_be_many := ok_must_be_many (P := P) (w := w) (base := base) T
  have G_paper_times := ok_paper_times (P := P) (w := w) (base := base) T
  refine T.F_paper_scaled.okX sc_paper_scaled len_paper_scaled (fun cdv A outer s H vs Q E hr h => ?_)
  refine ⟨_, (pss_cons (ps_expr (pe_callS G_must_be_many (hr.mono (by first | decide | omega)) (by rfl) T.g_must_be_many T.F_must_be_many.kp T.b_must_be_many (fun σ => passAt (takes_of rfl rfl rfl rfl) σ) (pa_cons (pv 1) pa_nil)))
      (pss_one (ps_ret (pe_call G_paper_times (hr.mono (by first | decide | omega)) (by rfl) T.g_paper_times T.F_paper_times.kp T.b_paper_times .nil pass0 (pa_cons (pv 0) (pa_cons (pv 1) pa_nil)))))), ?_⟩
  try dsimp only [L2.cxOf, L2.Cx.nox, L2.Cx.wish, List.map_cons, List.map_nil]
  obtain ⟨v, Ls, tb, z, rfl, p0, p1, p2, k, kx⟩ := h
  refine start_to (σ := [some _, some _]) rfl ?_
  by_cases c : 1 ≤ z
  · walk_at "go"
    rename_i H1 s1 w S H2 o1 s2
    exact k c _ _ _ (o1.back s1) (s1.trans s2)
  · walk_at "go"
    exact kx c _ (by walk_at "g_same")
def sp_l_drawn_paper (K : PySem.W.Frag) : Sp := fun vs H Q E => ∃ (a : Addr) (m c : Int), vs = [.ref a] ∧ (Pk a m H c) ∧ (c ≤ 60000) ∧ ∀ (v : V) (Ls : List (List Fl)) (tb : List (List Int)) (G : Hp) (H' : Hp), (Dq G v (papD Ls tb)) → (PapOk Ls tb) → (Newly H G) → (Same G H') → (Pk a m H' (c + 4000)) → (But a H H') → Q (v) H'
theorem use_l_drawn_paper {K : PySem.W.Frag} {H : Hp} {Q : VK} {E : XK} {a : Addr} {m c : Int} (p0 : Pk a m H c) (p1 : c ≤ 60000) (k : ∀ (v : V) (Ls : List (List Fl)) (tb : List (List Int)) (G : Hp) (H' : Hp), (Dq G v (papD Ls tb)) → (PapOk Ls tb) → (Newly H G) → (Same G H') → (Pk a m H' (c + 4000)) → (But a H H') → Q (v) H') : sp_l_drawn_paper K [.ref a] H Q E := ⟨a, m, c, rfl, p0, p1, k⟩
theorem len_l_drawn_paper {K : PySem.W.Frag} (vs : List V) (H : Hp) (Q : VK) (E : XK) (h : sp_l_drawn_paper K vs H Q E) : vs.length = ["_law_left"].length := by
  obtain ⟨_, _, _, rfl, _⟩ := h
  rfl
local macro_rules | `(tactic| walk_at "g_call") => `(tactic| ((with_reducible refine' use_l_drawn_paper ?c0 ?c1 ?_); (case c0 => walk_at "g_pre"); (case c1 => walk_at "g_pre"); intros))
theorem ok_l_drawn_paper (T : Txt K mg) : FnOk P w K mg base CX0 5 T.a_l_drawn_paper T.d_l_drawn_paper ["_law_left"] (sp_l_drawn_paper K) := by
  have G_l_draw := ok_l_draw (P := P) (w := w) (base := base) T
  have G_l_flowing := ok_l_flowing (P := P) (w := w) (base := base) T
  have G_l_drawn_mix := ok_l_drawn_mix (P := P) (w := w) (base := base) T
  refine T.F_l_drawn_paper.ok sc_l_drawn_paper len_l_drawn_paper (fun cdv A outer s H vs Q E hr h => ?_)
  refine ⟨_, (pss_cons (ps_set (i := 1) sc_l_drawn_paper.nd rfl (Or.inl rfl) (pe_call G_l_draw (hr.mono (by first | decide | omega)) (by rfl) T.g_l_draw T.F_l_draw.kp T.b_l_draw .nil pass0 (pa_cons (pv 0) (pa_cons pe_int pa_nil))))
      (pss_cons (ps_set (i := 2) sc_l_drawn_paper.nd rfl (Or.inl rfl) (pe_op op_add pe_int (pe_call G_l_draw (hr.mono (by first | decide | omega)) (by rfl) T.g_l_draw T.F_l_draw.kp T.b_l_draw .nil pass0 (pa_cons (pv 0) (pa_cons pe_int pa_nil)))))
      (pss_cons (ps_set (i := 3) sc_l_drawn_paper.nd rfl (Or.inl rfl) (pe_call G_l_flowing (hr.mono (by first | decide | omega)) (by rfl) T.g_l_flowing T.F_l_flowing.kp T.b_l_flowing .nil pass0 (pa_cons (pe_call G_l_drawn_mix (hr.mono (by first | decide | omega)) (by rfl) T.g_l_drawn_mix T.F_l_drawn_mix.kp T.b_l_drawn_mix .nil pass0 (pa_cons (pv 0) (pa_cons (pv 1) (pa_cons (pv 2) (pa_cons pe_int pa_nil))))) pa_nil)))
      (pss_cons (ps_set (i := 4) sc_l_drawn_paper.nd rfl (Or.inr rfl) (pe_op op_add pe_int (pe_call G_l_draw (hr.mono (by first | decide | omega)) (by rfl) T.g_l_draw T.F_l_draw.kp T.b_l_draw .nil pass0 (pa_cons (pv 0) (pa_cons pe_int pa_nil)))))
      (pss_cons (ps_set (i := 5) sc_l_drawn_paper.nd rfl (Or.inr rfl) (pe_ix (ix_listK K rfl) (pe_lst (pa_cons pe_int (pa_cons (pe_op op_pow pe_int pe_int) pa_nil))) (pe_call G_l_draw (hr.mono (by first | decide | omega)) (by rfl) T.g_l_draw T.F_l_draw.kp T.b_l_draw .nil pass0 (pa_cons (pv 0) (pa_cons pe_int pa_nil))) (fun _ _ => rfl)))
      (pss_cons (ps_setLc (i := 6) (own := [("_law_k", 7)]) rfl sc_l_drawn_paper.nd rfl rfl (sw_true rfl rfl rfl (by decide +kernel)) (pi_range1 rfl T.z_range (pa_cons (pv 2) pa_nil)) (blkOk_by (own := [("_law_k", 7)]) (N := ["_law_left", "_law_hosts", "_law_many", "_law_stream", "_law_wide", "_law_far", "_law_table", "_law_k", "_law_count"]) (sc := defScope s_l_drawn_paper) (by decide +kernel)) (fun _ _ _ _ _ => (pg_name (i := 7) sc_l_drawn_paper.nd rfl (Or.inl rfl))) (fun _ _ _ _ _ => pts_nil) (fun _ _ _ _ _ => (pe_lc (own := [("_law_count", 8)]) rfl sc_l_drawn_paper.nd (pi_range1 rfl T.z_range (pa_cons (pv 4) pa_nil)) (blkOk_by (own := [("_law_count", 8)]) (N := ["_law_left", "_law_hosts", "_law_many", "_law_stream", "_law_wide", "_law_far", "_law_table", "_law_k", "_law_count"]) (sc := (Hf.relS { kind := PySem.ScopeKind.function, names := [ (PySem.Str.ofString ".0", PySem.NameKind.local), (PySem.Str.ofString "_law_k", PySem.NameKind.local), (PySem.Str.ofString "range", PySem.NameKind.globalImplicit), (PySem.Str.ofString "_law_far", PySem.NameKind.free), (PySem.Str.ofString "_law_left", PySem.NameKind.free), (PySem.Str.ofString "_law_wide", PySem.NameKind.free)], isGenerator := false, isCoroutine := false, more := [] : PySem.Scope } (defScope s_l_drawn_paper))) (by decide +kernel)) (fun _ _ _ _ _ => (pg_name (i := 8) sc_l_drawn_paper.nd rfl (Or.inl rfl))) (fun _ _ _ _ _ => pts_nil) (fun _ _ _ _ _ => (pe_op op_sub (pe_call G_l_draw (hr.mono (by first | decide | omega)) (by rfl) T.g_l_draw T.F_l_draw.kp T.b_l_draw .nil pass0 (pa_cons (pv 0) (pa_cons (pe_op op_mulA pe_int (pv 5)) pa_nil))) (pv 5))))))
      (pss_one (ps_ret (pe_tup (pa_cons (pv 3) (pa_cons (pv 6) pa_nil))))))))))), ?_⟩
  try dsimp only [L2.cxOf, L2.Cx.nox, L2.Cx.wish, List.map_cons, List.map_nil]
  obtain ⟨a, m, c, rfl, p0, p1, k⟩ := h
  refine start_to (σ := [some _, none, none, none, none, none, none, none, none]) rfl ?_
  walk_at "go"
  rename_i hh H1 e1 e2 e3 nn H2 e4 e5 e6 v mx G H3 b1 b2 b3 b4 b5 b6 b7 w Ls G2 H4 c1 c2 c3 c4 c5 c6 wd H5 f1 f2 f3 p5 f4 fd H6 f5 f6 f7 far hfar
  have g2 : G2 a = none := c4.pk b6
  have s2 : Same G2 H6 := by walk_at "g_same"
  have B3 : But a H H3 := by walk_at "g_but"
  have B6 : But a H H6 := by walk_at "g_but"
  have n2 : Newly H G2 := c4.backP B3 b6
  have hl := c2.len
  clear e2 e3 e5 e6 b1 b4 b5 b6 b7 c4 c5 c6 f2 f3 f4 f7
  intro D nD
  refine lcR_dq planD (fun r => r.length ≤ 20 ∧ ∀ x ∈ r, x.natAbs < 2 ^ 120) 44 f6 nD (by omega) ?_ ?_
  · intro i H7 Z Y hi hp hb hz
    walk_at "go"
    intro D2 nD2
    refine lcR_pk (fun x => x.natAbs < 2 ^ 120) 4 (by walk_at "g_pk") nD2 (by omega) ?_ ?_
    · intro j H8 Z2 Y2 hj hp2 hb2 hz2
      walk_at "go"
      rename_i d5 H9 u1 u2 u3
      exact hz2 _ _ (by omega) u2 u3
    · intro ms H8 h1 h2 h3 h4 h5
      walk_at "go"
      exact hz ms (.ref D2) (fr [] H7 H8) H8 ⟨by omega, h2⟩ (row_mk (fr_lk0 nD2 h3)) fr_newly fr_same (h4.mono (by omega)) h5
  · intro tb G3 H7 h1 h2 h3 h4 h5 h6 h7
    have n3 : Newly H G3 := h4.backP B6 f6
    have s7 : Same G2 H7 := Same.but s2 g2 h7
    have B7 : But a H H7 := B6.trans h7
    walk_at "go"
    rename_i q nq
    have hq : H q = none := Pk.free (a := a) nq B7 h6
    exact k (.ref q) Ls tb (fr [] H (upd H7 q _)) _ (.tup (fr_lk0 hq upd_same) (.cons (c1.same (n2.same (by walk_at "g_same"))) (.cons (h3.same (n3.same (by walk_at "g_same"))) .nil))) ⟨by omega, fun L hL => by have := c3 L hL; omega, by omega, h2⟩ fr_newly fr_same (Pk.mono (h6.new nq) (by omega)) (by walk_at "g_but")
def sp_l_changed (K : PySem.W.Frag) : Sp := fun vs H Q E => ∃ (v : V) (Ls : List (List Fl)) (tb : List (List Int)) (y z : Int), vs = [.int y, v, .int z] ∧ (Dq H v (papD Ls tb)) ∧ (PapOk Ls tb) ∧ (z.natAbs < 2 ^ 120) ∧ (1 ≤ z ∧ (y = 0 ∨ y = 1)) ∧ ∀ (w : V) (S : List Addr) (H' : Hp), (OwN H H' w (papD Ls (tbBy (if y = 0 then -1 else z) tb)) S) → (Same H H') → Q (w) H'
theorem use_l_changed {K : PySem.W.Frag} {H : Hp} {Q : VK} {E : XK} {v : V} {Ls : List (List Fl)} {tb : List (List Int)} {y z : Int} (p0 : Dq H v (papD Ls tb)) (p1 : PapOk Ls tb) (p2 : z.natAbs < 2 ^ 120) (p3 : 1 ≤ z ∧ (y = 0 ∨ y = 1)) (k : ∀ (w : V) (S : List Addr) (H' : Hp), (OwN H H' w (papD Ls (tbBy (if y = 0 then -1 else z) tb)) S) → (Same H H') → Q (w) H') : sp_l_changed K [.int y, v, .int z] H Q E := ⟨v, Ls, tb, y, z, rfl, p0, p1, p2, p3, k⟩
theorem len_l_changed {K : PySem.W.Frag} (vs : List V) (H : Hp) (Q : VK) (E : XK) (h : sp_l_changed K vs H Q E) : vs.length = ["_law_way", "_law_paper", "_law_many"].length := by
  obtain ⟨_, _, _, _, _, rfl, _⟩ := h
  rfl
local macro_rules | `(tactic| walk_at "g_call") => `(tactic| ((with_reducible refine' use_l_changed ?c0 ?c1 ?c2 ?c3 ?_); (case c0 => walk_at "g_pre"); (case c1 => walk_at "g_pre"); (case c2 => walk_at "g_pre"); (case c3 => walk_at "g_pre"); intros))
theorem ok_l_changed (T : Txt K mg) : FnOk P w K mg base CX0 3 T.a_l_changed T.d_l_changed ["_law_way", "_law_paper", "_law_many"] (sp_l_changed K) := by
  have G_paper_scaled := ok_paper_scaled (P := P) (w := w) (base := base) T
  have G_paper_exchanged := ok_paper_exchanged (P := P) (w := w) (base := base) T
  refine T.F_l_changed.ok sc_l_changed len_l_changed (fun cdv A outer s H vs Q E hr h => ?_)
  refine ⟨_, (pss_cons (ps_if (pt_cmpR op_eq (pv 0) pe_int (nomark _)) (pss_one (ps_ret (pe_call G_paper_exchanged (hr.mono (by first | decide | omega)) (by rfl) T.g_paper_exchanged T.F_paper_exchanged.kp T.b_paper_exchanged .nil pass0 (pa_cons (pv 1) pa_nil)))) pss_nil)
      (pss_one (ps_ret (pe_call G_paper_scaled (hr.mono (by first | decide | omega)) (by rfl) T.g_paper_scaled T.F_paper_scaled.kp T.b_paper_scaled .nil passL (pa_cons (pv 1) (pa_cons (pv 2) pa_nil)))))), ?_⟩
  try dsimp only [L2.cxOf, L2.Cx.nox, L2.Cx.wish, List.map_cons, List.map_nil]
  obtain ⟨v, Ls, tb, y, z, rfl, p0, p1, p2, ⟨p3, p4⟩, k⟩ := h
  refine start_to (σ := [some _, some _, some _]) rfl ?_
  walk_at "go"
  refine ite_d (fun c1 => ?_) (fun c1 => ?_)
  · rw [if_pos c1] at k
    walk_at "go"
    exact k _ _ _ (by assumption) (by assumption)
  · rw [if_neg c1] at k
    walk_at "go"
    exact k _ _ _ (by assumption) (by assumption)
def sp_l_caught_by (K : PySem.W.Frag) : Sp := fun vs H Q E => ∃ (v : V) (Ls : List (List Fl)) (tb : List (List Int)) (z : Int), vs = [v, .int z] ∧ (Dq H v (papD Ls tb)) ∧ (PapOk Ls tb) ∧ (z.natAbs < 2 ^ 120) ∧ (¬ 1 ≤ z) ∧ ∀ (H' : Hp), (Same H H') → Q (.str (PySem.Str.ofString "number")) H'
theorem use_l_caught_by {K : PySem.W.Frag} {H : Hp} {Q : VK} {E : XK} {v : V} {Ls : List (List Fl)} {tb : List (List Int)} {z : Int} (p0 : Dq H v (papD Ls tb)) (p1 : PapOk Ls tb) (p2 : z.natAbs < 2 ^ 120) (p3 : ¬ 1 ≤ z) (k : ∀ (H' : Hp), (Same H H') → Q (.str (PySem.Str.ofString "number")) H') : sp_l_caught_by K [v, .int z] H Q E := ⟨v, Ls, tb, z, rfl, p0, p1, p2, p3, k⟩
theorem len_l_caught_by {K : PySem.W.Frag} (vs : List V) (H : Hp) (Q : VK) (E : XK) (h : sp_l_caught_by K vs H Q E) : vs.length = ["_law_paper", "_law_many"].length := by
  obtain ⟨_, _, _, _, rfl, _⟩ := h
  rfl
local macro_rules | `(tactic| walk_at "g_call") => `(tactic| ((with_reducible refine' use_l_caught_by ?c0 ?c1 ?c2 ?c3 ?_); (case c0 => walk_at "g_pre"); (case c1 => walk_at "g_pre"); (case c2 => walk_at "g_pre"); (case c3 => walk_at "g_pre"); intros))
theorem ok_l_caught_by (T : Txt K mg) : FnOk P w K mg base CX0 3 T.a_l_caught_by T.d_l_caught_by ["_law_paper", "_law_many"] (sp_l_caught_by K) := by
  have G_l_kind_of := ok_l_kind_of (P := P) (w := w) (base := base) T
  have G_paper_scaled := ok_paper_scaled (P := P) (w := w) (base := base) T
  refine T.F_l_caught_by.ok sc_l_caught_by len_l_caught_by (fun cdv A outer s H vs Q E hr h => ?_)
  refine ⟨_, (pss_cons (ps_set (i := 2) sc_l_caught_by.nd rfl (Or.inl rfl) pe_non)
      (pss_cons (ps_try_asT (i := 3) rfl rfl rfl sc_l_caught_by.nd rfl rfl ⟨rfl, by decide, Or.inl T.g_HostError⟩ takes0 (fun W pn xe tk po => (pss_one (ps_expr (pe_callS G_paper_scaled (hr.mono (by first | decide | omega)) (by rfl) T.g_paper_scaled T.F_paper_scaled.kp T.b_paper_scaled (fun σ => passAt tk σ) (pa_cons (pv 0) (pa_cons (pv 1) pa_nil)))))) (fun a oe pn => (pss_one (ps_set (i := 2) sc_l_caught_by.nd rfl (Or.inl rfl) (pv 3)))))
      (pss_one (ps_ret (pe_call G_l_kind_of (hr.mono (by first | decide | omega)) (by rfl) T.g_l_kind_of T.F_l_kind_of.kp T.b_l_kind_of .nil pass0 (pa_cons (pv 2) pa_nil)))))), ?_⟩
  try dsimp only [L2.cxOf, L2.Cx.nox, L2.Cx.wish, List.map_cons, List.map_nil]
  obtain ⟨v, Ls, tb, z, rfl, p0, p1, p2, p3, k⟩ := h
  refine start_to (σ := [some _, some _, none, none]) rfl ?_
  walk_at "go"
  exact k _ (by walk_at "g_same")
theorem kp_same {H0 H1 H2 : Hp} {S : List Addr} (s : Same H0 H1) (k : Kp S H1 H2) (n : ∀ b, b ∈ S → H0 b = none) : Same H0 H2 := fun b o h => k b o (fun hb => by rw [n b hb] at h; cases h) (s b o h)
def sp_law (K : PySem.W.Frag) : Sp := fun vs H Q E => ∃ (a : Addr) (ns : List Int), vs = [.ref a] ∧ (SqL K H a (ns.map V.int)) ∧ (ns.length ≤ 63) ∧ ∀ (H' : Hp), Q (.bl true) H'
theorem use_law {K : PySem.W.Frag} {H : Hp} {Q : VK} {E : XK} {a : Addr} {ns : List Int} (p0 : SqL K H a (ns.map V.int)) (p1 : ns.length ≤ 63) (k : ∀ (H' : Hp), Q (.bl true) H') : sp_law K [.ref a] H Q E := ⟨a, ns, rfl, p0, p1, k⟩
theorem len_law {K : PySem.W.Frag} (vs : List V) (H : Hp) (Q : VK) (E : XK) (h : sp_law K vs H Q E) : vs.length = ["_law_script"].length := by
  obtain ⟨_, _, rfl, _⟩ := h
  rfl
theorem ok_law (T : Txt K mg) : FnOk P w K mg base CX0 13 T.a_law T.d_law ["_law_script"] (sp_law K) := by
  have G_l_opened := ok_l_opened (P := P) (w := w) (base := base) T
  have G_l_drawn_paper := ok_l_drawn_paper (P := P) (w := w) (base := base) T
  have G_l_draw := ok_l_draw (P := P) (w := w) (base := base) T
  have G_l_changed := ok_l_changed (P := P) (w := w) (base := base) T
  have G_l_marked := ok_l_marked (P := P) (w := w) (base := base) T
  have G_l_once := ok_l_once (P := P) (w := w) (base := base) T
  have G_l_caught_by := ok_l_caught_by (P := P) (w := w) (base := base) T
  have G_paper_exchanged := ok_paper_exchanged (P := P) (w := w) (base := base) T
  have G_paper_scaled := ok_paper_scaled (P := P) (w := w) (base := base) T
  refine T.F_law.ok sc_law len_law (fun cdv A outer s H vs Q E hr h => ?_)
  refine ⟨_, (pss_cons (ps_for PassesOwn.never rfl (pi_listK K rfl (pe_op op_cat (pe_lst (pa_cons pe_int pa_nil)) (pe_slice (sl_listK K rfl) (pv 0) po_none (po_some pe_int)))) (pg_name (i := 1) sc_law.nd rfl (Or.inl rfl)) (pss_cons (ps_set (i := 2) sc_law.nd rfl (Or.inl rfl) (pe_call G_l_opened (hr.mono (by first | decide | omega)) (by rfl) T.g_l_opened T.F_l_opened.kp T.b_l_opened .nil pass0 (pa_cons (pv 1) pa_nil)))
      (pss_cons (ps_set (i := 3) sc_law.nd rfl (Or.inl rfl) (pe_call G_l_drawn_paper (hr.mono (by first | decide | omega)) (by rfl) T.g_l_drawn_paper T.F_l_drawn_paper.kp T.b_l_drawn_paper .nil pass0 (pa_cons (pv 2) pa_nil)))
      (pss_cons (ps_set (i := 4) sc_law.nd rfl (Or.inl rfl) (pe_tup (pa_cons (pe_lc (own := [("_law_row", 11)]) rfl sc_law.nd (pi_listK K rfl (pe_ix (ix_tupK K rfl) (pv 3) pe_int (fun _ _ => rfl))) (blkOk_by (own := [("_law_row", 11)]) (N := ["_law_script", "_law_cell", "_law_left", "_law_paper", "_law_handed", "_law_far", "_law_many", "_law_way", "_law_by", "_law_told", "_law_due", "_law_row", "_law_number"]) (sc := defScope s_law) (by decide +kernel)) (fun _ _ _ _ _ => (pg_name (i := 11) sc_law.nd rfl (Or.inl rfl))) (fun _ _ _ _ _ => pts_nil) (fun _ _ _ _ _ => (pe_callTy (call_listK K rfl) (by rfl) T.z_list (by decide +kernel) (pa_cons (pv 11) pa_nil)))) (pa_cons (pe_lc (own := [("_law_row", 11)]) rfl sc_law.nd (pi_listK K rfl (pe_ix (ix_tupK K rfl) (pv 3) pe_int (fun _ _ => rfl))) (blkOk_by (own := [("_law_row", 11)]) (N := ["_law_script", "_law_cell", "_law_left", "_law_paper", "_law_handed", "_law_far", "_law_many", "_law_way", "_law_by", "_law_told", "_law_due", "_law_row", "_law_number"]) (sc := defScope s_law) (by decide +kernel)) (fun _ _ _ _ _ => (pg_name (i := 11) sc_law.nd rfl (Or.inl rfl))) (fun _ _ _ _ _ => pts_nil) (fun _ _ _ _ _ => (pe_callTy (call_listK K rfl) (by rfl) T.z_list (by decide +kernel) (pa_cons (pv 11) pa_nil)))) pa_nil))))
      (pss_cons (ps_set (i := 5) sc_law.nd rfl (Or.inl rfl) (pe_call G_l_draw (hr.mono (by first | decide | omega)) (by rfl) T.g_l_draw T.F_l_draw.kp T.b_l_draw .nil pass0 (pa_cons (pv 2) (pa_cons (pe_op op_pow pe_int pe_int) pa_nil))))
      (pss_cons (ps_set (i := 6) sc_law.nd rfl (Or.inl rfl) (pe_ix (ix_listK K rfl) (pe_lst (pa_cons pe_int (pa_cons (pe_op op_add pe_int (pe_op op_mod (pv 5) pe_int)) (pa_cons (pe_op op_add pe_int (pv 5)) pa_nil)))) (pe_op op_fdiv (pe_call G_l_draw (hr.mono (by first | decide | omega)) (by rfl) T.g_l_draw T.F_l_draw.kp T.b_l_draw .nil pass0 (pa_cons (pv 2) (pa_cons pe_int pa_nil))) pe_int) (fun _ _ => rfl)))
      (pss_cons (ps_for PassesOwn.never rfl (pi_listK K rfl (pe_lst (pa_cons (pe_tup (pa_cons pe_int (pa_cons (pe_un un_neg pe_int) pa_nil))) (pa_cons (pe_tup (pa_cons pe_int (pa_cons (pv 6) pa_nil))) (pa_cons (pe_tup (pa_cons pe_int (pa_cons (pe_un un_neg pe_int) pa_nil))) (pa_cons (pe_tup (pa_cons pe_int (pa_cons (pv 6) pa_nil))) pa_nil)))))) (pg_tupK K rfl 2 rfl (pgs_cons (pg_name (i := 7) sc_law.nd rfl (Or.inl rfl)) (pgs_cons (pg_name (i := 8) sc_law.nd rfl (Or.inr rfl)) pgs_nil))) (pss_cons (ps_set (i := 9) sc_law.nd rfl (Or.inl rfl) (pe_call G_l_changed (hr.mono (by first | decide | omega)) (by rfl) T.g_l_changed T.F_l_changed.kp T.b_l_changed .nil pass0 (pa_cons (pv 7) (pa_cons (pv 4) (pa_cons (pv 6) pa_nil)))))
      (pss_cons (ps_setLc (i := 10) (own := [("_law_row", 11)]) rfl sc_law.nd rfl rfl (sw_true rfl rfl rfl (by decide +kernel)) (pi_listK K rfl (pe_ix (ix_tupK K rfl) (pv 3) pe_int (fun _ _ => rfl))) (blkOk_by (own := [("_law_row", 11)]) (N := ["_law_script", "_law_cell", "_law_left", "_law_paper", "_law_handed", "_law_far", "_law_many", "_law_way", "_law_by", "_law_told", "_law_due", "_law_row", "_law_number"]) (sc := defScope s_law) (by decide +kernel)) (fun _ _ _ _ _ => (pg_name (i := 11) sc_law.nd rfl (Or.inl rfl))) (fun _ _ _ _ _ => pts_nil) (fun _ _ _ _ _ => (pe_lc (own := [("_law_number", 12)]) rfl sc_law.nd (pi_listK K rfl (pv 11)) (blkOk_by (own := [("_law_number", 12)]) (N := ["_law_script", "_law_cell", "_law_left", "_law_paper", "_law_handed", "_law_far", "_law_many", "_law_way", "_law_by", "_law_told", "_law_due", "_law_row", "_law_number"]) (sc := (Hf.relS { kind := PySem.ScopeKind.function, names := [ (PySem.Str.ofString ".0", PySem.NameKind.local), (PySem.Str.ofString "_law_row", PySem.NameKind.local), (PySem.Str.ofString "_law_by", PySem.NameKind.free)], isGenerator := false, isCoroutine := false, more := [] : PySem.Scope } (defScope s_law))) (by decide +kernel)) (fun _ _ _ _ _ => (pg_name (i := 12) sc_law.nd rfl (Or.inl rfl))) (fun _ _ _ _ _ => pts_nil) (fun _ _ _ _ _ => (pe_op op_mulA (pv 12) (pv 8))))))
      (pss_cons (ps_if (PW.pt (pw_or (pt_cmpR (op_neDK K rfl hr.units) (pv 9) (pe_tup (pa_cons (pe_ix (ix_tupK K rfl) (pv 3) pe_int (fun _ _ => rfl)) (pa_cons (pv 10) pa_nil))) (nomark _)) (pw_or1 (pt_cmpR (op_neDK K rfl hr.units) (pv 4) (pv 3) (nomark _))))) (pss_one (ps_ret pe_bl)) pss_nil)
      (pss_cons (ps_expr (pe_call G_l_changed (hr.mono (by first | decide | omega)) (by rfl) T.g_l_changed T.F_l_changed.kp T.b_l_changed .nil pass0 (pa_cons (pv 7) (pa_cons (pe_tup (pa_cons (pe_lst (pa_cons (pe_lst (pa_cons (pe_tup (pa_cons pe_int (pa_cons pe_int (pa_cons pe_int pa_nil)))) pa_nil)) (pa_cons (pe_lst (pa_cons (pe_tup (pa_cons pe_int (pa_cons pe_int (pa_cons pe_int pa_nil)))) pa_nil)) pa_nil))) (pa_cons (pe_lst (pa_cons (pe_lst (pa_cons pe_int pa_nil)) (pa_cons (pe_lst (pa_cons pe_int pa_nil)) pa_nil))) pa_nil))) (pa_cons pe_int pa_nil)))))
      (pss_cons (ps_if (pt_cmpR (op_neDK K rfl hr.units) (pv 9) (pe_tup (pa_cons (pe_ix (ix_tupK K rfl) (pv 3) pe_int (fun _ _ => rfl)) (pa_cons (pv 10) pa_nil))) (nomark _)) (pss_one (ps_ret pe_bl)) pss_nil)
      (pss_cons (ps_expr (pe_call G_l_marked (hr.mono (by first | decide | omega)) (by rfl) T.g_l_marked T.F_l_marked.kp T.b_l_marked .nil pass0 (pa_cons (pv 9) pa_nil)))
      (pss_one (ps_if (pt_not (pt_val (pe_call G_l_once (hr.mono (by first | decide | omega)) (by rfl) T.g_l_once T.F_l_once.kp T.b_l_once .nil pass0 (pa_cons (pv 9) pa_nil)))) (pss_one (ps_ret pe_bl)) pss_nil)))))))))
      (pss_cons (ps_if (PW.pt (pw_or (pt_cmpR op_ne (pe_call G_l_caught_by (hr.mono (by first | decide | omega)) (by rfl) T.g_l_caught_by T.F_l_caught_by.kp T.b_l_caught_by .nil pass0 (pa_cons (pv 4) (pa_cons (pe_ix (ix_listK K rfl) (pe_lst (pa_cons pe_int (pa_cons (pe_un un_neg pe_int) (pa_cons (pe_op op_sub (pe_un un_neg pe_int) (pv 5)) pa_nil)))) (pe_call G_l_draw (hr.mono (by first | decide | omega)) (by rfl) T.g_l_draw T.F_l_draw.kp T.b_l_draw .nil pass0 (pa_cons (pv 2) (pa_cons pe_int pa_nil))) (fun _ _ => rfl)) pa_nil))) pe_str (nomark _)) (pw_or1 (pt_cmpR (op_neDK K rfl hr.units) (pv 4) (pv 3) (nomark _))))) (pss_one (ps_ret pe_bl)) pss_nil)
      (pss_cons (ps_expr (pe_bm0 PySem.F.plainAttrs_list PySem.F.slot_list_reverse PySem.F.type_list_reverse mt_reverse (pe_ix (ix_tupK K rfl) (pv 4) pe_int (fun _ _ => rfl))))
      (pss_cons (ps_setLc (i := 10) (own := [("_law_row", 11)]) rfl sc_law.nd rfl rfl (sw_true rfl rfl rfl (by decide +kernel)) (pi_listK K rfl (pe_revLK K rfl (pe_ix (ix_tupK K rfl) (pv 3) pe_int (fun _ _ => rfl)))) (blkOk_by (own := [("_law_row", 11)]) (N := ["_law_script", "_law_cell", "_law_left", "_law_paper", "_law_handed", "_law_far", "_law_many", "_law_way", "_law_by", "_law_told", "_law_due", "_law_row", "_law_number"]) (sc := defScope s_law) (by decide +kernel)) (fun _ _ _ _ _ => (pg_name (i := 11) sc_law.nd rfl (Or.inl rfl))) (fun _ _ _ _ _ => pts_nil) (fun _ _ _ _ _ => (pe_lc (own := [("_law_number", 12)]) rfl sc_law.nd (pi_listK K rfl (pv 11)) (blkOk_by (own := [("_law_number", 12)]) (N := ["_law_script", "_law_cell", "_law_left", "_law_paper", "_law_handed", "_law_far", "_law_many", "_law_way", "_law_by", "_law_told", "_law_due", "_law_row", "_law_number"]) (sc := (Hf.relS { kind := PySem.ScopeKind.function, names := [(PySem.Str.ofString ".0", PySem.NameKind.local), (PySem.Str.ofString "_law_row", PySem.NameKind.local)], isGenerator := false, isCoroutine := false, more := [] : PySem.Scope } (defScope s_law))) (by decide +kernel)) (fun _ _ _ _ _ => (pg_name (i := 12) sc_law.nd rfl (Or.inl rfl))) (fun _ _ _ _ _ => pts_nil) (fun _ _ _ _ _ => (pe_op op_sub pe_int (pv 12))))))
      (pss_one (ps_if (PW.pt (pw_or (pt_cmpR (op_neDK K rfl hr.units) (pe_call G_paper_exchanged (hr.mono (by first | decide | omega)) (by rfl) T.g_paper_exchanged T.F_paper_exchanged.kp T.b_paper_exchanged .nil pass0 (pa_cons (pv 4) pa_nil)) (pe_tup (pa_cons (pe_ix (ix_tupK K rfl) (pv 3) pe_int (fun _ _ => rfl)) (pa_cons (pv 10) pa_nil))) (nomark _)) (pw_or1 (pt_cmpR (op_neDK K rfl hr.units) (pe_call G_paper_scaled (hr.mono (by first | decide | omega)) (by rfl) T.g_paper_scaled T.F_paper_scaled.kp T.b_paper_scaled .nil passL (pa_cons (pv 4) (pa_cons pe_int pa_nil))) (pe_tup (pa_cons (pe_ix (ix_tupK K rfl) (pv 3) pe_int (fun _ _ => rfl)) (pa_cons (pe_revLK K rfl (pe_ix (ix_tupK K rfl) (pv 3) pe_int (fun _ _ => rfl))) pa_nil))) (nomark _))))) (pss_one (ps_ret pe_bl)) pss_nil))))))))))))
      (pss_one (ps_ret pe_bl))), ?_⟩
  try dsimp only [L2.cxOf, L2.Cx.nox, L2.Cx.wish, List.map_cons, List.map_nil]
  obtain ⟨a, ns, rfl, p0, p1, k⟩ := h
  refine start_to (σ := [some _, none, none, none, none, none, none, none, none, none, none, none, none]) rfl ?_
  walk_at "go"
  rename_i p1 hp1 p2 hp2 p3 hp3
  obtain ⟨ms, hms⟩ : ∃ ms : List Int, [V.int 3] ++ List.map V.int (List.take (Int.toNat 30) ns) = ms.map V.int := ⟨3 :: ns.take 30, rfl⟩
  rw [hms]
  refine forL (xs := ms.map V.int) (fun i σ H1 => ∃ y1 y2 y3 y4 y5 y6 y7 y8 y9 y10 : Option V, σ = [some (.ref a), y1, y2, y3, y4, y5, y6, y7, y8, y9, y10, none, none] ∧ H1 p3 = some (.lst (ms.map V.int))) ⟨_, _, _, _, _, _, _, _, _, _, rfl, upd_same⟩ ?_ ?_ ?_
  · rintro i σ H1 _ ⟨y1, y2, y3, y4, y5, y6, y7, y8, y9, y10, rfl, h⟩
    exact SqL.of h
  · rintro σ H1 ⟨y1, y2, y3, y4, y5, y6, y7, y8, y9, y10, rfl, h⟩
    walk_at "go"
    exact k _
  · rintro i x σ H1 hx ⟨y1, y2, y3, y4, y5, y6, y7, y8, y9, y10, rfl, h⟩
    obtain ⟨z, rfl, _⟩ := ints_at hx
    clear hp1 hp2 hp3 p0 p1 hms hx
    walk_at "go"
    rename_i m pL H2 u1 u2 u3 v Ls tb G1 H3 b1 b2 b3 b4 b5 b6
    have hp3 : p3 ≠ pL := ne_of_none h u3
    have j3 : H3 p3 = some (.lst (ms.map V.int)) := by walk_at "g_lk"
    have gL : G1 pL = none := b3.pk u1
    obtain ⟨pa, pp, pq, xs, ys, rfl, i1, i2, i3, i4, i5⟩ := pap_inv b1
    have i1' := b4 _ _ i1
    have i2' := b4 _ _ i2
    have i4' := b4 _ _ i4
    have l1 : xs.length = Ls.length := by rw [i3.len, List.length_map]
    have l2 : ys.length = tb.length := by rw [i5.len, List.length_map]
    have m1 := b2.l1
    have m2 := b2.t1
    clear u1 u2 u3 b3 b6 h
    walk_at "go"
    intro D1 nD1
    refine lcL_own (xs := xs) (fun i => ((Ls.map rowD)[i]?).getD .none) nD1 (by omega) (SqL.of i2') ?_ ?_
    · intro i x H4 Z Y hx hs hz
      obtain ⟨L, p', zs, e1, rfl, e2, e3⟩ := strow_at i3 hx
      have e2' := hs _ _ (b4 _ _ e2)
      walk_at "go"
      rename_i l nl
      refine hz (.ref l) [l] _ ⟨?_, by simp, fun b hb => by rw [List.mem_singleton.mp hb]; exact nl⟩ (by walk_at "g_same")
      rw [List.getElem?_map, e1]
      exact .lst upd_same (row_own (e3.same (by walk_at "g_same")))
    intro S1 H4 o1 s1
    rw [l1, show Ls.length = (Ls.map rowD).length from (List.length_map _).symm, rng_get] at o1
    have i1'' := s1 _ _ i1'
    have i4'' := s1 _ _ i4'
    walk_at "go"
    intro D2 nD2
    refine lcL_own (xs := ys) (fun i => ((tb.map planD)[i]?).getD .none) nD2 (by omega) (SqL.of i4'') ?_ ?_
    · intro i x H5 Z Y hx hs hz
      obtain ⟨r, p', e1, rfl, e2⟩ := row_at i5 hx
      have e2' := hs _ _ (s1 _ _ (b4 _ _ e2))
      walk_at "go"
      rename_i l nl
      refine hz (.ref l) [l] _ ⟨?_, by simp, fun b hb => by rw [List.mem_singleton.mp hb]; exact nl⟩ (by walk_at "g_same")
      rw [List.getElem?_map, e1]
      exact .lst upd_same (own_ints _)
    intro S2 H5 o2 s2
    rw [l2, show tb.length = (tb.map planD).length from (List.length_map _).symm, rng_get] at o2
    have o12 := o1.same s2
    have b4' := b4
    have j3' := j3
    have pk4 := b5.same s1
    have pk5 : Pk pL m H5 8000 := ((b5.same s1).same s2).mono (by omega)
    have j5 := s2 _ _ (s1 _ _ j3)
    have gH5 : Same G1 H5 := (b4.trans s1).trans s2
    have nS1 : ∀ b, b ∈ S1 → b ≠ pL := fun b hb => by have := o1.nw b hb; exact b5.ne this
    clear i1' i2' i4' i1'' i4'' b4 b5 j3 nD1 nD2
    walk_at "go"
    rename_i q nq df H6 d1 d2 d3 r1 r2 d5 H7 d6 d7 d8 mn hmn T1 nT1 T2 nT2 T3 nT3 T4 nT4 LW nLW
    have gq : ∀ b, b ∈ S1 ++ S2 → b ≠ pL := fun b hb => by
      rcases List.mem_append.mp hb with e | e
      · exact nS1 b e
      · exact pk4.ne (o2.nw b e)
    have oq : OwN H3 (upd H5 q (.tup [.ref D1, .ref D2])) (.ref q) (papD Ls tb) (S1 ++ S2) := OwN.pair o1 o2 s1 s2 nq
    have hqL : q ≠ pL := pk5.ne nq
    have lt : ∀ b ys, b ∈ [pL] → (upd H5 q (.tup [.ref D1, .ref D2])) b ≠ some (.tup ys) := fun b ys hb e => by
      obtain ⟨_, _, e', _⟩ := pk5.new (o := .tup [.ref D1, .ref D2]) nq
      rw [List.mem_singleton.mp hb, e'] at e
      cases e
    have oq2 : Ow H7 (.ref q) (papD Ls tb) (S1 ++ S2) := by
      have s67 : Same H6 (upd H6 r1 (.lst [.int 1, .int (1 + df % 9), .int (1 + df)])) := Same.new r2
      have k1 : Kp [pL] (upd H5 q (.tup [.ref D1, .ref D2])) H7 := fun b o hb h => d8 _ _ (fun e => hb (by simp [e])) (s67 _ _ (d3 _ _ (fun e => hb (by simp [e])) h))
      exact Ow.kp lt k1 oq.ow fun b hb hb' => gq b hb (List.mem_singleton.mp hb')
    have ndq := oq.nd
    have np3 : ∀ b, b ∈ S1 ++ S2 → p3 ≠ b := fun b hb => ne_of_none j3' (oq.nw b hb)
    have nGq : ∀ b, b ∈ S1 ++ S2 → G1 b = none := fun b hb => b4'.free (oq.nw b hb)
    have gH7 : Same G1 H7 := by walk_at "g_same"
    have j7 : H7 p3 = some (.lst (ms.map V.int)) := by walk_at "g_lk"
    have hmn2 : 1 ≤ mn ∧ mn.natAbs < 2 ^ 120 := by omega
    have nDL : G1 D2 = none := by
      cases e : G1 D2 with
      | none => rfl
      | some u =>
        have := s1 _ _ (show H3 D2 = some u from b4' _ _ e)
        obtain ⟨_, _, e1, h1, _⟩ := o2.ow.dq.list_inv
        cases e1
        have h2 := o2.nw D2 (ow_self o2.ow)
        rw [h2] at this
        cases this
    generalize hH : upd _ LW _ = H8
    have s8 : Same H7 H8 := by rw [← hH]; walk_at "g_same"
    have eLW : H8 LW = some (.lst [.ref T1, .ref T2, .ref T3, .ref T4]) := by rw [← hH]; exact upd_same
    have eT1 : H8 T1 = some (.tup [.int 0, .int (-1)]) := by rw [← hH]; walk_at "g_lk"
    have eT2 : H8 T2 = some (.tup [.int 1, .int mn]) := by rw [← hH]; walk_at "g_lk"
    have eT3 : H8 T3 = some (.tup [.int 0, .int (-1)]) := by rw [← hH]; walk_at "g_lk"
    have eT4 : H8 T4 = some (.tup [.int 1, .int mn]) := by rw [← hH]; walk_at "g_lk"
    have pk8 : Pk pL m H8 8100 := (d7.same s8).mono (by omega)
    have oq8 := oq2.same s8
    have gH8 := gH7.trans s8
    have j8 := s8 _ _ j7
    have hall : ∀ (i : Nat) (x : V), [V.ref T1, V.ref T2, V.ref T3, V.ref T4][i]? = some x → ∃ t y b, x = .ref t ∧ H8 t = some (.tup [.int y, .int b]) ∧ (y = 0 ∨ y = 1) ∧ b = (if y = 0 then -1 else mn) := fun i x hx => by
      have hm := List.mem_of_getElem? hx
      simp only [List.mem_cons, List.not_mem_nil, or_false] at hm
      rcases hm with e | e | e | e
      · exact ⟨T1, 0, -1, e, eT1, .inl rfl, rfl⟩
      · exact ⟨T2, 1, mn, e, eT2, .inr rfl, rfl⟩
      · exact ⟨T3, 0, -1, e, eT3, .inl rfl, rfl⟩
      · exact ⟨T4, 1, mn, e, eT4, .inr rfl, rfl⟩
    have hfar : 0 ≤ df ∧ df < 100000000000000000000000000000 := d1
    clear hH s8 eT1 eT2 eT3 eT4 nT1 nT2 nT3 nT4 nLW d1 d2 d3 d6 d7 d8 r2 pk5 o12 oq lt oq2 gH7 j7 gH5 j5 nq hmn
    obtain ⟨z1, z2, z3, z4⟩ := pap_facts b2
    refine forL (xs := [V.ref T1, V.ref T2, V.ref T3, V.ref T4]) (fun i σ H1 => ∃ y7 y8 y9 y10 : Option V, σ = [some (.ref a), some (.int z), some (.ref pL), some (.ref pa), some (.ref q), some (.int df), some (.int mn), y7, y8, y9, y10, none, none] ∧ Same H8 H1) ⟨_, _, _, _, rfl, by walk_at "g_same"⟩ ?_ ?_ ?_
    · rintro i σ H1 _ ⟨y7, y8, y9, y10, rfl, h1⟩
      exact SqL.of (h1 _ _ eLW)
    rotate_left
    · rintro i x σ H9 hx ⟨y7, y8, y9, y10, rfl, h1⟩
      obtain ⟨t, yy, bb, rfl, et, hy, hb⟩ := hall i x hx
      have et' := h1 _ _ et
      have hz1 : 1 ≤ mn ∧ (yy = 0 ∨ yy = 1) := ⟨hmn2.1, hy⟩
      have hmn3 := hmn2.2
      have dq : Dq H9 (.ref q) (papD Ls tb) := oq8.dq.same h1
      have gH9 := gH8.trans h1
      have ia := gH9 _ _ i1
      have ib := gH9 _ _ i4
      walk_at "go"
      rename_i w S H10 o3 s3
      rw [← hb] at o3
      have ib' := s3 _ _ ib
      have hbb : bb.natAbs < 2 ^ 120 := by
        rw [hb]
        split
        · decide
        · exact hmn3
      intro D3 nD3
      refine lcL_new (xs := ys) (fun i => planD (((tb[i]?).getD []).map fun x => x * bb)) nD3 (by omega) (SqL.of ib') ?_ ?_
      · intro i x H11 Z Y hx hs hz
        obtain ⟨r, p', e1, rfl, e2⟩ := row_at i5 hx
        have e2' := hs _ _ (s3 _ _ (gH9 _ _ e2))
        have hr := b2.t2 r (List.mem_of_getElem? e1)
        walk_at "go"
        intro D4 nD4
        refine lcL_int (xs := r.map V.int) (fun j => (r[j]?).getD 0 * bb) nD4 (by rw [List.length_map]; omega) (SqL.of e2') ?_ ?_
        · intro j y H12 Z2 Y2 hy hs2 hz2
          obtain ⟨z', rfl, hz3⟩ := ints_at hy
          have hzb := hr.2 z' (List.mem_of_getElem? hz3)
          have := hz2 _ (Same.refl _)
          rw [hz3] at this
          walk_at "go"
          refine i_I (mulW hzb hbb (by decide) (by decide) (by decide)) ?_
          exact this
        · intro H12 hs2 hD4
          rw [List.length_map, rng_map _ (fun x : Int => x * bb) r (fun i x e => by rw [e]; rfl)] at hD4
          walk_at "go"
          refine hz (.ref D4) (fr [] H11 H12) _ ?_ fr_newly fr_same hs2
          rw [e1]
          exact row_mk (fr_lk0 nD4 hD4)
      intro G4 H11 q1 q2 q3 q4
      have q1' : Dq G4 (.ref D3) (.list ((tbBy bb tb).map planD)) := by
        rw [l2, rng_map _ (fun r : List Int => planD (r.map fun x => x * bb)) tb (fun i x e => by rw [e]; rfl)] at q1
        rw [tbBy, List.map_map]
        exact q1
      have o4 := o3.same q4
      have s11 : Same H8 H11 := h1.trans (s3.trans q4)
      have gH11 := gH8.trans s11
      have ia' := gH11 _ _ i1
      have ip' := gH11 _ _ i2
      have dqq : Dq H11 (.ref q) (papD Ls tb) := oq8.dq.same s11
      have dqp : Dq H11 (.ref pa) (papD Ls tb) := b1.same gH11
      have dp1 : Dq H11 (.ref pp) (strD Ls) := .lst ip' (i3.same gH11)
      have dp2 : Dq H11 (.ref D3) (.list ((tbBy bb tb).map planD)) := q1'.same q3
      have nwS : ∀ b, b ∈ S → H8 b = none := fun b hb => h1.free (o3.nw b hb)
      have owS := o4.ow
      have ndS := o4.nd
      obtain ⟨w1, w2, w3, w4⟩ := tbBy_shape (b := bb) b2
      clear q1 q2 q3 q4 q1' ib ib' ia et et' hall hx eLW o3 o4 s3 dq gH9 hb i5 h1 nD3
      walk_at "go"
      rename_i t2 nt2
      have dt : Dq (upd H11 t2 (.tup [.ref pp, .ref D3])) (.ref t2) (papD Ls (tbBy bb tb)) := .tup upd_same (.cons (dp1.same (Same.new nt2)) (.cons (dp2.same (Same.new nt2)) .nil))
      have dw : Dq (upd H11 t2 (.tup [.ref pp, .ref D3])) w (papD Ls (tbBy bb tb)) := owS.dq.same (Same.new nt2)
      walk_at "go"
      rename_i A1 N1 A2 N2 A3 N3 A4 N4 A5 N5 A6 N6 A7 N7 A8 N8 A9 N9
      generalize hH : upd _ A9 _ = H12
      have s12 : Same H11 H12 := by rw [← hH]; walk_at "g_same"
      have dl : Dq H12 (.ref A9) (papD [[(1, 0, 2)], [(1, 1, 2)]] [[5], [6]]) := by
        rw [← hH]
        exact .tup upd_same (.cons (.lst (by walk_at "g_lk") (.cons (.lst (by walk_at "g_lk") (.cons (.tup (by walk_at "g_lk") (.cons (.int _) (.cons (.int _) (.cons (.int _) .nil)))) .nil)) (.cons (.lst (by walk_at "g_lk") (.cons (.tup (by walk_at "g_lk") (.cons (.int _) (.cons (.int _) (.cons (.int _) .nil)))) .nil)) .nil))) (.cons (.lst (by walk_at "g_lk") (.cons (.lst (by walk_at "g_lk") (.cons (.int _) .nil)) (.cons (.lst (by walk_at "g_lk") (.cons (.int _) .nil)) .nil))) .nil))
      have okl : PapOk [[(1, 0, 2)], [(1, 1, 2)]] [[5], [6]] := ⟨by decide, by decide, by decide, by decide⟩
      have h3 : (3 : Int).natAbs < 2 ^ 120 := by decide
      have h3' : 1 ≤ (3 : Int) ∧ (yy = 0 ∨ yy = 1) := ⟨by decide, hy⟩
      have s812 := s11.trans s12
      have ia2 := s12 _ _ ia'
      have dp1' := dp1.same s12
      have dp2' := dp2.same s12
      have owS' := owS.same s12
      clear hH N1 N2 N3 N4 N5 N6 N7 N8 N9 dt dw nt2 s12 s11 gH11 ia' ip' dqq dqp dp1 dp2 owS
      walk_at "go"
      rename_i w5 S5 H13 o5 s5 t3 nt3
      have s13 := s812.trans s5
      have dt : Dq (upd H13 t3 (.tup [.ref pp, .ref D3])) (.ref t3) (papD Ls (tbBy bb tb)) := .tup upd_same (.cons ((dp1'.same s5).same (Same.new nt3)) (.cons ((dp2'.same s5).same (Same.new nt3)) .nil))
      have owS2 : Ow (upd H13 t3 (.tup [.ref pp, .ref D3])) w (papD Ls (tbBy bb tb)) S := (owS'.same s5).same (Same.new nt3)
      have dw : Dq (upd H13 t3 (.tup [.ref pp, .ref D3])) w (papD Ls (tbBy bb tb)) := owS2.dq
      have s14 : Same H8 (upd H13 t3 (.tup [.ref pp, .ref D3])) := Same.newT' nt3 s13
      clear o5 s5 dl okl h3 h3' s812 ia2 dp1' dp2' owS' s13
      walk_at "go"
      rename_i H14 x1 x2
      have dm := x1.dq
      walk_at "go"
      exact ⟨_, _, _, _, rfl, (kp_same s14 x2 nwS).trans (by assumption)⟩
    rintro σ H9 ⟨y7, y8, y9, y10, rfl, h1⟩
    have pk9 := pk8.same h1
    have oq9 := oq8.same h1
    have gH9 := gH8.trans h1
    have j9 := h1 _ _ j8
    have dqq : Dq H9 (.ref q) (papD Ls tb) := oq9.dq
    have dqp : Dq H9 (.ref pa) (papD Ls tb) := b1.same gH9
    clear hall eLW pk8 oq8 gH8 j8 h1
    walk_at "go"
    rename_i L3 nL3 dc H10 e1 e2 e3 vz hvz
    have oq10 : Ow H10 (.ref q) (papD Ls tb) (S1 ++ S2) := Ow.pk (pk9.new nL3) e3 (oq9.same (Same.new nL3)) gq
    have gH10 : Same G1 H10 := by walk_at "g_same"
    have j10 : H10 p3 = some (.lst (ms.map V.int)) := by walk_at "g_lk"
    have hv1 : ¬ 1 ≤ vz := by omega
    have hv2 : vz.natAbs < 2 ^ 120 := by omega
    have dqq2 : Dq H10 (.ref q) (papD Ls tb) := oq10.dq
    have dqp2 : Dq H10 (.ref pa) (papD Ls tb) := b1.same gH10
    clear dqq dqp oq9 gH9 j9 e1 e2 e3 nL3 pk9 hvz
    obtain ⟨_, hp1', hq1', zs, Sa, Sb, e, f1, f2, f3, f4, f5⟩ := ow_pap oq10
    cases e
    rw [f2] at ndq nGq np3
    have np3' := np3 hq1' (by simp)
    have nGD := nGq hq1' (by simp)
    walk_at "go"
    rename_i H11 s11 R1 nR1
    have dqr : Dq (upd H11 hq1' (.lst zs.reverse)) (.ref q) (papD Ls tb.reverse) := pap_turn (s11 _ _ f1) (f3.same s11) (s11 _ _ f4) (f5.same s11) ndq
    have gR : Same G1 (upd H11 hq1' (.lst zs.reverse)) := Same.mut (gH10.trans s11) nGD
    have jR : upd H11 hq1' (.lst zs.reverse) p3 = some (.lst (ms.map V.int)) := lk_upd np3' (s11 _ _ j10)
    have i5r : DqAll G1 ys.reverse (tb.reverse.map planD) := by rw [List.map_reverse]; exact i5.reverse
    have okr := b2.reverse
    have l2r : ys.reverse.length = tb.reverse.length := by rw [List.length_reverse, List.length_reverse, l2]
    have hyr : ys.reverse.length ≤ 10 := by rw [List.length_reverse]; omega
    generalize hH : upd H11 hq1' (.lst zs.reverse) = H12 at *
    have ia := gR _ _ i1
    have ip := gR _ _ i2
    have iq := gR _ _ i4
    clear hH s11 f1 f3 f4 f5 ndq nGq np3 nGD np3' j10 gH10 dqq2 dqp2 oq10 hv1 hv2 f2
    intro D3 nD3
    refine lcL_new (xs := ys.reverse) (fun i => planD (((tb.reverse[i]?).getD []).map fun x => 0 - x)) nD3 (by omega) (SqL.of upd_same) ?_ ?_
    · intro i x H13 Z Y hx hs hz
      obtain ⟨r, p', e1, rfl, e2⟩ := row_at i5r hx
      have e2' := hs _ _ (lk_new nR1 (gR _ _ e2))
      have hr := okr.t2 r (List.mem_of_getElem? e1)
      walk_at "go"
      intro D4 nD4
      refine lcL_int (xs := r.map V.int) (fun j => 0 - (r[j]?).getD 0) nD4 (by rw [List.length_map]; omega) (SqL.of e2') ?_ ?_
      · intro j y H14 Z2 Y2 hy hs2 hz2
        obtain ⟨z', rfl, hz3⟩ := ints_at hy
        have := hz2 _ (Same.refl _)
        rw [hz3] at this
        walk_at "go"
        exact this
      · intro H14 hs2 hD4
        rw [List.length_map, rng_map _ (fun x : Int => 0 - x) r (fun i x e => by rw [e]; rfl)] at hD4
        walk_at "go"
        refine hz (.ref D4) (fr [] H13 H14) _ ?_ fr_newly fr_same hs2
        rw [e1]
        exact row_mk (fr_lk0 nD4 hD4)
    intro G4 H13 q1 q2 q3 q4
    have q1' : Dq G4 (.ref D3) (.list ((tbBy (-1) tb.reverse).map planD)) := by
      rw [l2r, rng_map _ (fun r : List Int => planD (r.map fun x => 0 - x)) tb.reverse (fun i x e => by rw [e]; rfl)] at q1
      rw [tbBy_neg, List.map_map]
      exact q1
    have s13 : Same H12 H13 := (Same.new nR1).trans q4
    have dqr' := dqr.same s13
    have gR' := gR.trans s13
    have ia' := s13 _ _ ia
    have iq' := s13 _ _ iq
    have dp1 : Dq H13 (.ref pp) (strD Ls) := .lst (s13 _ _ ip) (i3.same gR')
    have dp2 := q1'.same q3
    have jR' := s13 _ _ jR
    obtain ⟨w1, w2, w3, w4⟩ := tbBy_shape (b := -1) okr
    obtain ⟨v1, v2, v3, v4⟩ := tbBy_shape (b := 1) okr
    have h1' : (1 : Int).natAbs < 2 ^ 120 := by decide
    clear q1 q2 q3 q4 q1' s13 nR1 nD3 ia ip iq dqr gR jR
    walk_at "go"
    rename_i w5 S5 H14 o5 s5 t3 nt3
    have dt : Dq (upd H14 t3 (.tup [.ref pp, .ref D3])) (.ref t3) (papD Ls (tbBy (-1) tb.reverse)) := .tup upd_same (.cons ((dp1.same s5).same (Same.new nt3)) (.cons ((dp2.same s5).same (Same.new nt3)) .nil))
    have dw : Dq (upd H14 t3 (.tup [.ref pp, .ref D3])) w5 (papD Ls (tbBy (-1) tb.reverse)) := o5.dq.same (Same.new nt3)
    have s14 : Same H13 (upd H14 t3 (.tup [.ref pp, .ref D3])) := Same.newT' nt3 s5
    generalize hH : upd H14 t3 (.tup [.ref pp, .ref D3]) = H15 at *
    have dqr2 := dqr'.same s14
    have ia2 := s14 _ _ ia'
    have iq2 := s14 _ _ iq'
    have dp1' := dp1.same s14
    have jR2 := s14 _ _ jR'
    have gR2 := gR'.trans s14
    clear hH o5 s5 nt3 s14 dqr' gR' ia' iq' dp1 dp2 jR'
    walk_at "go"
    rename_i w6 S6 H16 o6 s6 R2 nR2 t4 nt4
    have dr2 : Dq (upd H16 R2 (.lst ys.reverse)) (.ref R2) (.list (tb.reverse.map planD)) := .lst upd_same (i5r.same (Same.newT' nR2 (gR2.trans s6)))
    have dt : Dq (upd (upd H16 R2 (.lst ys.reverse)) t4 (.tup [.ref pp, .ref R2])) (.ref t4) (papD Ls (tbBy 1 tb.reverse)) := by
      rw [tbBy_one]
      exact .tup upd_same (.cons (((dp1'.same s6).same (Same.new nR2)).same (Same.new nt4)) (.cons (dr2.same (Same.new nt4)) .nil))
    have dw : Dq (upd (upd H16 R2 (.lst ys.reverse)) t4 (.tup [.ref pp, .ref R2])) w6 (papD Ls (tbBy 1 tb.reverse)) := (o6.dq.same (Same.new nR2)).same (Same.new nt4)
    walk_at "go"
    exact ⟨_, _, _, _, _, _, _, _, _, _, rfl, by walk_at "g_lk"⟩

end
theorem mk_txt {K : PySem.W.Frag} {h : Heap} {mg : Str → Option Value} {f_must_be_many : Addr} {o_must_be_many n_must_be_many : Option Addr} {w_must_be_many : Array (Option Value)} {q1_must_be_many q2_must_be_many q3_must_be_many q4_must_be_many q5_must_be_many q6_must_be_many : Value} {f_paper_times : Addr} {o_paper_times n_paper_times : Option Addr} {w_paper_times : Array (Option Value)} {q1_paper_times q2_paper_times q3_paper_times q4_paper_times q5_paper_times q6_paper_times : Value} {f_paper_exchanged : Addr} {o_paper_exchanged n_paper_exchanged : Option Addr} {w_paper_exchanged : Array (Option Value)} {q1_paper_exchanged q2_paper_exchanged q3_paper_exchanged q4_paper_exchanged q5_paper_exchanged q6_paper_exchanged : Value} {f_paper_scaled : Addr} {o_paper_scaled n_paper_scaled : Option Addr} {w_paper_scaled : Array (Option Value)} {q1_paper_scaled q2_paper_scaled q3_paper_scaled q4_paper_scaled q5_paper_scaled q6_paper_scaled : Value} {f_l_stirred : Addr} {o_l_stirred n_l_stirred : Option Addr} {w_l_stirred : Array (Option Value)} {q1_l_stirred q2_l_stirred q3_l_stirred q4_l_stirred q5_l_stirred q6_l_stirred : Value} {f_l_opened : Addr} {o_l_opened n_l_opened : Option Addr} {w_l_opened : Array (Option Value)} {q1_l_opened q2_l_opened q3_l_opened q4_l_opened q5_l_opened q6_l_opened : Value} {f_l_draw : Addr} {o_l_draw n_l_draw : Option Addr} {w_l_draw : Array (Option Value)} {q1_l_draw q2_l_draw q3_l_draw q4_l_draw q5_l_draw q6_l_draw : Value} {f_l_drawn_plan : Addr} {o_l_drawn_plan n_l_drawn_plan : Option Addr} {w_l_drawn_plan : Array (Option Value)} {q1_l_drawn_plan q2_l_drawn_plan q3_l_drawn_plan q4_l_drawn_plan q5_l_drawn_plan q6_l_drawn_plan : Value} {f_l_drawn_mix : Addr} {o_l_drawn_mix n_l_drawn_mix : Option Addr} {w_l_drawn_mix : Array (Option Value)} {q1_l_drawn_mix q2_l_drawn_mix q3_l_drawn_mix q4_l_drawn_mix q5_l_drawn_mix q6_l_drawn_mix : Value} {f_l_flowing : Addr} {o_l_flowing n_l_flowing : Option Addr} {w_l_flowing : Array (Option Value)} {q1_l_flowing q2_l_flowing q3_l_flowing q4_l_flowing q5_l_flowing q6_l_flowing : Value} {f_l_kind_of : Addr} {o_l_kind_of n_l_kind_of : Option Addr} {w_l_kind_of : Array (Option Value)} {q1_l_kind_of q2_l_kind_of q3_l_kind_of q4_l_kind_of q5_l_kind_of q6_l_kind_of : Value} {f_l_drawn_paper : Addr} {o_l_drawn_paper n_l_drawn_paper : Option Addr} {w_l_drawn_paper : Array (Option Value)} {q1_l_drawn_paper q2_l_drawn_paper q3_l_drawn_paper q4_l_drawn_paper q5_l_drawn_paper q6_l_drawn_paper : Value} {f_l_marked : Addr} {o_l_marked n_l_marked : Option Addr} {w_l_marked : Array (Option Value)} {q1_l_marked q2_l_marked q3_l_marked q4_l_marked q5_l_marked q6_l_marked : Value} {f_l_once : Addr} {o_l_once n_l_once : Option Addr} {w_l_once : Array (Option Value)} {q1_l_once q2_l_once q3_l_once q4_l_once q5_l_once q6_l_once : Value} {f_l_changed : Addr} {o_l_changed n_l_changed : Option Addr} {w_l_changed : Array (Option Value)} {q1_l_changed q2_l_changed q3_l_changed q4_l_changed q5_l_changed q6_l_changed : Value} {f_l_caught_by : Addr} {o_l_caught_by n_l_caught_by : Option Addr} {w_l_caught_by : Array (Option Value)} {q1_l_caught_by q2_l_caught_by q3_l_caught_by q4_l_caught_by q5_l_caught_by q6_l_caught_by : Value} {f_law : Addr} {o_law n_law : Option Addr} {w_law : Array (Option Value)} {q1_law q2_law q3_law q4_law q5_law q6_law : Value} {e_HostError : Addr} {e_NoBattle : Addr} {e_NoPlan : Addr} {e_NoMix : Addr} {e_NoStream : Addr} {e_NoSide : Addr} {e_NoAlike : Addr} {e_NoNumber : Addr} {e_TooGreat : Addr} {e_NoEven : Addr} {e_NoText : Addr} {e_NoRow : Addr} {e_NoName : Addr} {e_NoPlace : Addr} (X : K.In h) (G : h.Ns mainGlobals mg)
    (h_NoNumber : PySem.W.nsIn K mainGlobals "NoNumber" = some (some (.ref e_NoNumber)))
    (a_must_be_many : PySem.W.nsIn K mainGlobals "must_be_many" = some (some (.ref f_must_be_many)))
    (l_must_be_many : K.lookup f_must_be_many = some ⟨q1_must_be_many, o_must_be_many, .func (PySem.W.fnOf "must_be_many" "must_be_many" (defArgs s_must_be_many) (defBody s_must_be_many) (defScope s_must_be_many) .none q2_must_be_many q3_must_be_many q4_must_be_many n_must_be_many q5_must_be_many q6_must_be_many), w_must_be_many⟩)
    (c_must_be_many : PySem.W.codeIn K q5_must_be_many "must_be_many" = true)
    (k_must_be_many : PySem.W.keepIn K (.ref f_must_be_many) = true)
    (a_paper_times : PySem.W.nsIn K mainGlobals "paper_times" = some (some (.ref f_paper_times)))
    (l_paper_times : K.lookup f_paper_times = some ⟨q1_paper_times, o_paper_times, .func (PySem.W.fnOf "paper_times" "paper_times" (defArgs s_paper_times) (defBody s_paper_times) (defScope s_paper_times) .none q2_paper_times q3_paper_times q4_paper_times n_paper_times q5_paper_times q6_paper_times), w_paper_times⟩)
    (c_paper_times : PySem.W.codeIn K q5_paper_times "paper_times" = true)
    (k_paper_times : PySem.W.keepIn K (.ref f_paper_times) = true)
    (a_paper_exchanged : PySem.W.nsIn K mainGlobals "paper_exchanged" = some (some (.ref f_paper_exchanged)))
    (l_paper_exchanged : K.lookup f_paper_exchanged = some ⟨q1_paper_exchanged, o_paper_exchanged, .func (PySem.W.fnOf "paper_exchanged" "paper_exchanged" (defArgs s_paper_exchanged) (defBody s_paper_exchanged) (defScope s_paper_exchanged) .none q2_paper_exchanged q3_paper_exchanged q4_paper_exchanged n_paper_exchanged q5_paper_exchanged q6_paper_exchanged), w_paper_exchanged⟩)
    (c_paper_exchanged : PySem.W.codeIn K q5_paper_exchanged "paper_exchanged" = true)
    (k_paper_exchanged : PySem.W.keepIn K (.ref f_paper_exchanged) = true)
    (a_paper_scaled : PySem.W.nsIn K mainGlobals "paper_scaled" = some (some (.ref f_paper_scaled)))
    (l_paper_scaled : K.lookup f_paper_scaled = some ⟨q1_paper_scaled, o_paper_scaled, .func (PySem.W.fnOf "paper_scaled" "paper_scaled" (defArgs s_paper_scaled) (defBody s_paper_scaled) (defScope s_paper_scaled) .none q2_paper_scaled q3_paper_scaled q4_paper_scaled n_paper_scaled q5_paper_scaled q6_paper_scaled), w_paper_scaled⟩)
    (c_paper_scaled : PySem.W.codeIn K q5_paper_scaled "paper_scaled" = true)
    (k_paper_scaled : PySem.W.keepIn K (.ref f_paper_scaled) = true)
    (a_l_stirred : PySem.W.nsIn K mainGlobals "_law_stirred" = some (some (.ref f_l_stirred)))
    (l_l_stirred : K.lookup f_l_stirred = some ⟨q1_l_stirred, o_l_stirred, .func (PySem.W.fnOf "_law_stirred" "_law_stirred" (defArgs s_l_stirred) (defBody s_l_stirred) (defScope s_l_stirred) .none q2_l_stirred q3_l_stirred q4_l_stirred n_l_stirred q5_l_stirred q6_l_stirred), w_l_stirred⟩)
    (c_l_stirred : PySem.W.codeIn K q5_l_stirred "_law_stirred" = true)
    (k_l_stirred : PySem.W.keepIn K (.ref f_l_stirred) = true)
    (a_l_opened : PySem.W.nsIn K mainGlobals "_law_opened" = some (some (.ref f_l_opened)))
    (l_l_opened : K.lookup f_l_opened = some ⟨q1_l_opened, o_l_opened, .func (PySem.W.fnOf "_law_opened" "_law_opened" (defArgs s_l_opened) (defBody s_l_opened) (defScope s_l_opened) .none q2_l_opened q3_l_opened q4_l_opened n_l_opened q5_l_opened q6_l_opened), w_l_opened⟩)
    (c_l_opened : PySem.W.codeIn K q5_l_opened "_law_opened" = true)
    (k_l_opened : PySem.W.keepIn K (.ref f_l_opened) = true)
    (a_l_draw : PySem.W.nsIn K mainGlobals "_law_draw" = some (some (.ref f_l_draw)))
    (l_l_draw : K.lookup f_l_draw = some ⟨q1_l_draw, o_l_draw, .func (PySem.W.fnOf "_law_draw" "_law_draw" (defArgs s_l_draw) (defBody s_l_draw) (defScope s_l_draw) .none q2_l_draw q3_l_draw q4_l_draw n_l_draw q5_l_draw q6_l_draw), w_l_draw⟩)
    (c_l_draw : PySem.W.codeIn K q5_l_draw "_law_draw" = true)
    (k_l_draw : PySem.W.keepIn K (.ref f_l_draw) = true)
    (a_l_drawn_plan : PySem.W.nsIn K mainGlobals "_law_drawn_plan" = some (some (.ref f_l_drawn_plan)))
    (l_l_drawn_plan : K.lookup f_l_drawn_plan = some ⟨q1_l_drawn_plan, o_l_drawn_plan, .func (PySem.W.fnOf "_law_drawn_plan" "_law_drawn_plan" (defArgs s_l_drawn_plan) (defBody s_l_drawn_plan) (defScope s_l_drawn_plan) .none q2_l_drawn_plan q3_l_drawn_plan q4_l_drawn_plan n_l_drawn_plan q5_l_drawn_plan q6_l_drawn_plan), w_l_drawn_plan⟩)
    (c_l_drawn_plan : PySem.W.codeIn K q5_l_drawn_plan "_law_drawn_plan" = true)
    (k_l_drawn_plan : PySem.W.keepIn K (.ref f_l_drawn_plan) = true)
    (a_l_drawn_mix : PySem.W.nsIn K mainGlobals "_law_drawn_mix" = some (some (.ref f_l_drawn_mix)))
    (l_l_drawn_mix : K.lookup f_l_drawn_mix = some ⟨q1_l_drawn_mix, o_l_drawn_mix, .func (PySem.W.fnOf "_law_drawn_mix" "_law_drawn_mix" (defArgs s_l_drawn_mix) (defBody s_l_drawn_mix) (defScope s_l_drawn_mix) .none q2_l_drawn_mix q3_l_drawn_mix q4_l_drawn_mix n_l_drawn_mix q5_l_drawn_mix q6_l_drawn_mix), w_l_drawn_mix⟩)
    (c_l_drawn_mix : PySem.W.codeIn K q5_l_drawn_mix "_law_drawn_mix" = true)
    (k_l_drawn_mix : PySem.W.keepIn K (.ref f_l_drawn_mix) = true)
    (a_l_flowing : PySem.W.nsIn K mainGlobals "_law_flowing" = some (some (.ref f_l_flowing)))
    (l_l_flowing : K.lookup f_l_flowing = some ⟨q1_l_flowing, o_l_flowing, .func (PySem.W.fnOf "_law_flowing" "_law_flowing" (defArgs s_l_flowing) (defBody s_l_flowing) (defScope s_l_flowing) .none q2_l_flowing q3_l_flowing q4_l_flowing n_l_flowing q5_l_flowing q6_l_flowing), w_l_flowing⟩)
    (c_l_flowing : PySem.W.codeIn K q5_l_flowing "_law_flowing" = true)
    (k_l_flowing : PySem.W.keepIn K (.ref f_l_flowing) = true)
    (a_l_kind_of : PySem.W.nsIn K mainGlobals "_law_kind_of" = some (some (.ref f_l_kind_of)))
    (l_l_kind_of : K.lookup f_l_kind_of = some ⟨q1_l_kind_of, o_l_kind_of, .func (PySem.W.fnOf "_law_kind_of" "_law_kind_of" (defArgs s_l_kind_of) (defBody s_l_kind_of) (defScope s_l_kind_of) .none q2_l_kind_of q3_l_kind_of q4_l_kind_of n_l_kind_of q5_l_kind_of q6_l_kind_of), w_l_kind_of⟩)
    (c_l_kind_of : PySem.W.codeIn K q5_l_kind_of "_law_kind_of" = true)
    (k_l_kind_of : PySem.W.keepIn K (.ref f_l_kind_of) = true)
    (a_l_drawn_paper : PySem.W.nsIn K mainGlobals "_law_drawn_paper" = some (some (.ref f_l_drawn_paper)))
    (l_l_drawn_paper : K.lookup f_l_drawn_paper = some ⟨q1_l_drawn_paper, o_l_drawn_paper, .func (PySem.W.fnOf "_law_drawn_paper" "_law_drawn_paper" (defArgs s_l_drawn_paper) (defBody s_l_drawn_paper) (defScope s_l_drawn_paper) .none q2_l_drawn_paper q3_l_drawn_paper q4_l_drawn_paper n_l_drawn_paper q5_l_drawn_paper q6_l_drawn_paper), w_l_drawn_paper⟩)
    (c_l_drawn_paper : PySem.W.codeIn K q5_l_drawn_paper "_law_drawn_paper" = true)
    (k_l_drawn_paper : PySem.W.keepIn K (.ref f_l_drawn_paper) = true)
    (a_l_marked : PySem.W.nsIn K mainGlobals "_law_marked" = some (some (.ref f_l_marked)))
    (l_l_marked : K.lookup f_l_marked = some ⟨q1_l_marked, o_l_marked, .func (PySem.W.fnOf "_law_marked" "_law_marked" (defArgs s_l_marked) (defBody s_l_marked) (defScope s_l_marked) .none q2_l_marked q3_l_marked q4_l_marked n_l_marked q5_l_marked q6_l_marked), w_l_marked⟩)
    (c_l_marked : PySem.W.codeIn K q5_l_marked "_law_marked" = true)
    (k_l_marked : PySem.W.keepIn K (.ref f_l_marked) = true)
    (a_l_once : PySem.W.nsIn K mainGlobals "_law_once" = some (some (.ref f_l_once)))
    (l_l_once : K.lookup f_l_once = some ⟨q1_l_once, o_l_once, .func (PySem.W.fnOf "_law_once" "_law_once" (defArgs s_l_once) (defBody s_l_once) (defScope s_l_once) .none q2_l_once q3_l_once q4_l_once n_l_once q5_l_once q6_l_once), w_l_once⟩)
    (c_l_once : PySem.W.codeIn K q5_l_once "_law_once" = true)
    (k_l_once : PySem.W.keepIn K (.ref f_l_once) = true)
    (a_l_changed : PySem.W.nsIn K mainGlobals "_law_changed" = some (some (.ref f_l_changed)))
    (l_l_changed : K.lookup f_l_changed = some ⟨q1_l_changed, o_l_changed, .func (PySem.W.fnOf "_law_changed" "_law_changed" (defArgs s_l_changed) (defBody s_l_changed) (defScope s_l_changed) .none q2_l_changed q3_l_changed q4_l_changed n_l_changed q5_l_changed q6_l_changed), w_l_changed⟩)
    (c_l_changed : PySem.W.codeIn K q5_l_changed "_law_changed" = true)
    (k_l_changed : PySem.W.keepIn K (.ref f_l_changed) = true)
    (a_l_caught_by : PySem.W.nsIn K mainGlobals "_law_caught_by" = some (some (.ref f_l_caught_by)))
    (l_l_caught_by : K.lookup f_l_caught_by = some ⟨q1_l_caught_by, o_l_caught_by, .func (PySem.W.fnOf "_law_caught_by" "_law_caught_by" (defArgs s_l_caught_by) (defBody s_l_caught_by) (defScope s_l_caught_by) .none q2_l_caught_by q3_l_caught_by q4_l_caught_by n_l_caught_by q5_l_caught_by q6_l_caught_by), w_l_caught_by⟩)
    (c_l_caught_by : PySem.W.codeIn K q5_l_caught_by "_law_caught_by" = true)
    (k_l_caught_by : PySem.W.keepIn K (.ref f_l_caught_by) = true)
    (a_law : PySem.W.nsIn K mainGlobals "law" = some (some (.ref f_law)))
    (l_law : K.lookup f_law = some ⟨q1_law, o_law, .func (PySem.W.fnOf "law" "law" (defArgs s_law) (defBody s_law) (defScope s_law) .none q2_law q3_law q4_law n_law q5_law q6_law), w_law⟩)
    (c_law : PySem.W.codeIn K q5_law "law" = true)
    (k_law : PySem.W.keepIn K (.ref f_law) = true)
    (z_ValueError : PySem.W.nsIn K mainGlobals "ValueError" = some none)
    (z_int : PySem.W.nsIn K mainGlobals "int" = some none)
    (z_isinstance : PySem.W.nsIn K mainGlobals "isinstance" = some none)
    (z_len : PySem.W.nsIn K mainGlobals "len" = some none)
    (z_list : PySem.W.nsIn K mainGlobals "list" = some none)
    (z_range : PySem.W.nsIn K mainGlobals "range" = some none)
    (z_sorted : PySem.W.nsIn K mainGlobals "sorted" = some none)
    (z_sum : PySem.W.nsIn K mainGlobals "sum" = some none)
    (z_tuple : PySem.W.nsIn K mainGlobals "tuple" = some none)
    (h_HostError : PySem.W.nsIn K mainGlobals "HostError" = some (some (.ref e_HostError)))
    (i_HostError : PySem.W.isClsIn K e_HostError = true)
    (t_HostError : PySem.W.typeIn K (.ref e_HostError) = some (.type "type"))
    (y_HostError : PySem.W.subIn K (.ref e_HostError) (.type "BaseException") = some true)
    (h_NoBattle : PySem.W.nsIn K mainGlobals "NoBattle" = some (some (.ref e_NoBattle)))
    (i_NoBattle : PySem.W.isClsIn K e_NoBattle = true)
    (t_NoBattle : PySem.W.typeIn K (.ref e_NoBattle) = some (.type "type"))
    (y_NoBattle : PySem.W.subIn K (.ref e_NoBattle) (.type "BaseException") = some true)
    (h_NoPlan : PySem.W.nsIn K mainGlobals "NoPlan" = some (some (.ref e_NoPlan)))
    (i_NoPlan : PySem.W.isClsIn K e_NoPlan = true)
    (t_NoPlan : PySem.W.typeIn K (.ref e_NoPlan) = some (.type "type"))
    (y_NoPlan : PySem.W.subIn K (.ref e_NoPlan) (.type "BaseException") = some true)
    (h_NoMix : PySem.W.nsIn K mainGlobals "NoMix" = some (some (.ref e_NoMix)))
    (i_NoMix : PySem.W.isClsIn K e_NoMix = true)
    (t_NoMix : PySem.W.typeIn K (.ref e_NoMix) = some (.type "type"))
    (y_NoMix : PySem.W.subIn K (.ref e_NoMix) (.type "BaseException") = some true)
    (h_NoStream : PySem.W.nsIn K mainGlobals "NoStream" = some (some (.ref e_NoStream)))
    (i_NoStream : PySem.W.isClsIn K e_NoStream = true)
    (t_NoStream : PySem.W.typeIn K (.ref e_NoStream) = some (.type "type"))
    (y_NoStream : PySem.W.subIn K (.ref e_NoStream) (.type "BaseException") = some true)
    (h_NoSide : PySem.W.nsIn K mainGlobals "NoSide" = some (some (.ref e_NoSide)))
    (i_NoSide : PySem.W.isClsIn K e_NoSide = true)
    (t_NoSide : PySem.W.typeIn K (.ref e_NoSide) = some (.type "type"))
    (y_NoSide : PySem.W.subIn K (.ref e_NoSide) (.type "BaseException") = some true)
    (h_NoAlike : PySem.W.nsIn K mainGlobals "NoAlike" = some (some (.ref e_NoAlike)))
    (i_NoAlike : PySem.W.isClsIn K e_NoAlike = true)
    (t_NoAlike : PySem.W.typeIn K (.ref e_NoAlike) = some (.type "type"))
    (y_NoAlike : PySem.W.subIn K (.ref e_NoAlike) (.type "BaseException") = some true)
    (i_NoNumber : PySem.W.isClsIn K e_NoNumber = true)
    (t_NoNumber : PySem.W.typeIn K (.ref e_NoNumber) = some (.type "type"))
    (y_NoNumber : PySem.W.subIn K (.ref e_NoNumber) (.type "BaseException") = some true)
    (h_TooGreat : PySem.W.nsIn K mainGlobals "TooGreat" = some (some (.ref e_TooGreat)))
    (i_TooGreat : PySem.W.isClsIn K e_TooGreat = true)
    (t_TooGreat : PySem.W.typeIn K (.ref e_TooGreat) = some (.type "type"))
    (y_TooGreat : PySem.W.subIn K (.ref e_TooGreat) (.type "BaseException") = some true)
    (h_NoEven : PySem.W.nsIn K mainGlobals "NoEven" = some (some (.ref e_NoEven)))
    (i_NoEven : PySem.W.isClsIn K e_NoEven = true)
    (t_NoEven : PySem.W.typeIn K (.ref e_NoEven) = some (.type "type"))
    (y_NoEven : PySem.W.subIn K (.ref e_NoEven) (.type "BaseException") = some true)
    (h_NoText : PySem.W.nsIn K mainGlobals "NoText" = some (some (.ref e_NoText)))
    (i_NoText : PySem.W.isClsIn K e_NoText = true)
    (t_NoText : PySem.W.typeIn K (.ref e_NoText) = some (.type "type"))
    (y_NoText : PySem.W.subIn K (.ref e_NoText) (.type "BaseException") = some true)
    (h_NoRow : PySem.W.nsIn K mainGlobals "NoRow" = some (some (.ref e_NoRow)))
    (i_NoRow : PySem.W.isClsIn K e_NoRow = true)
    (t_NoRow : PySem.W.typeIn K (.ref e_NoRow) = some (.type "type"))
    (y_NoRow : PySem.W.subIn K (.ref e_NoRow) (.type "BaseException") = some true)
    (h_NoName : PySem.W.nsIn K mainGlobals "NoName" = some (some (.ref e_NoName)))
    (i_NoName : PySem.W.isClsIn K e_NoName = true)
    (t_NoName : PySem.W.typeIn K (.ref e_NoName) = some (.type "type"))
    (y_NoName : PySem.W.subIn K (.ref e_NoName) (.type "BaseException") = some true)
    (h_NoPlace : PySem.W.nsIn K mainGlobals "NoPlace" = some (some (.ref e_NoPlace)))
    (i_NoPlace : PySem.W.isClsIn K e_NoPlace = true)
    (t_NoPlace : PySem.W.typeIn K (.ref e_NoPlace) = some (.type "type"))
    (y_NoPlace : PySem.W.subIn K (.ref e_NoPlace) (.type "BaseException") = some true)
    (x_NoNumber : PySem.W.excIn K e_NoNumber [.type "ValueError", .type "Exception", .type "BaseException", .type "object"] "ValueError.__new__" = true)
    (k_NoNumber : PySem.W.keepIn K (.ref e_NoNumber) = true)
    (hg_NoNumber : PySem.W.findIn K (.ref e_NoNumber) "__getattribute__" = some (some (.builtin "BaseException.__getattribute__")))
    (hk_NoNumber : PySem.W.findIn K (.ref e_NoNumber) "__getattr__" = some none)
    (hd_NoNumber : PySem.W.hasDictIn K e_NoNumber = true)
    (ha_NoNumber : PySem.W.findIn K (.ref e_NoNumber) "__class__" = some (some (.builtin "object.__class__")))
    (hm_NoNumber : PySem.W.mroIn K e_NoNumber (.type "object") = some true)
    (v_NoNumber : PySem.W.subIn K (.ref e_NoNumber) (.type "ValueError") = some true)
    (s_NoNumber_HostError : PySem.W.subIn K (.ref e_NoNumber) (.ref e_HostError) = some true)
    (s_NoNumber_NoBattle : PySem.W.subIn K (.ref e_NoNumber) (.ref e_NoBattle) = some false)
    (s_NoNumber_NoPlan : PySem.W.subIn K (.ref e_NoNumber) (.ref e_NoPlan) = some false)
    (s_NoNumber_NoMix : PySem.W.subIn K (.ref e_NoNumber) (.ref e_NoMix) = some false)
    (s_NoNumber_NoStream : PySem.W.subIn K (.ref e_NoNumber) (.ref e_NoStream) = some false)
    (s_NoNumber_NoSide : PySem.W.subIn K (.ref e_NoNumber) (.ref e_NoSide) = some false)
    (s_NoNumber_NoAlike : PySem.W.subIn K (.ref e_NoNumber) (.ref e_NoAlike) = some false)
    (s_NoNumber_NoNumber : PySem.W.subIn K (.ref e_NoNumber) (.ref e_NoNumber) = some true)
    (s_NoNumber_TooGreat : PySem.W.subIn K (.ref e_NoNumber) (.ref e_TooGreat) = some false)
    (s_NoNumber_NoEven : PySem.W.subIn K (.ref e_NoNumber) (.ref e_NoEven) = some false)
    (s_NoNumber_NoText : PySem.W.subIn K (.ref e_NoNumber) (.ref e_NoText) = some false)
    (s_NoNumber_NoRow : PySem.W.subIn K (.ref e_NoNumber) (.ref e_NoRow) = some false)
    (s_NoNumber_NoName : PySem.W.subIn K (.ref e_NoNumber) (.ref e_NoName) = some false)
    (s_NoNumber_NoPlace : PySem.W.subIn K (.ref e_NoNumber) (.ref e_NoPlace) = some false)
    (ho_n : PySem.W.specialIn K (.builtin "object.__class__") "__get__" = some (some (.builtin "getset_descriptor.__get__")))
    (ho_t : PySem.W.takesIn K (.builtin "object.__class__") = some true) : ∃ T : Txt K mg, T.a_law = f_law ∧ ∀ (s : Shared) (v : Value), BindsTo s T.d_law ⟨[v], []⟩ [("_law_script", v)] :=
  ⟨{ a_must_be_many := f_must_be_many,
      d_must_be_many := _,
      F_must_be_many := fun_mk (st := s_must_be_many) l_must_be_many c_must_be_many k_must_be_many,
      g_must_be_many := PySem.W.mg_of X G a_must_be_many,
      b_must_be_many := (fun_mk (st := s_must_be_many) l_must_be_many c_must_be_many k_must_be_many).binds fun _ _ _ _ _ _ us hl => match us, hl with | [_], _ => rfl,
      a_paper_times := f_paper_times,
      d_paper_times := _,
      F_paper_times := fun_mk (st := s_paper_times) l_paper_times c_paper_times k_paper_times,
      g_paper_times := PySem.W.mg_of X G a_paper_times,
      b_paper_times := (fun_mk (st := s_paper_times) l_paper_times c_paper_times k_paper_times).binds fun _ _ _ _ _ _ us hl => match us, hl with | [_, _], _ => rfl,
      a_paper_exchanged := f_paper_exchanged,
      d_paper_exchanged := _,
      F_paper_exchanged := fun_mk (st := s_paper_exchanged) l_paper_exchanged c_paper_exchanged k_paper_exchanged,
      g_paper_exchanged := PySem.W.mg_of X G a_paper_exchanged,
      b_paper_exchanged := (fun_mk (st := s_paper_exchanged) l_paper_exchanged c_paper_exchanged k_paper_exchanged).binds fun _ _ _ _ _ _ us hl => match us, hl with | [_], _ => rfl,
      a_paper_scaled := f_paper_scaled,
      d_paper_scaled := _,
      F_paper_scaled := fun_mk (st := s_paper_scaled) l_paper_scaled c_paper_scaled k_paper_scaled,
      g_paper_scaled := PySem.W.mg_of X G a_paper_scaled,
      b_paper_scaled := (fun_mk (st := s_paper_scaled) l_paper_scaled c_paper_scaled k_paper_scaled).binds fun _ _ _ _ _ _ us hl => match us, hl with | [_, _], _ => rfl,
      a_l_stirred := f_l_stirred,
      d_l_stirred := _,
      F_l_stirred := fun_mk (st := s_l_stirred) l_l_stirred c_l_stirred k_l_stirred,
      g_l_stirred := PySem.W.mg_of X G a_l_stirred,
      b_l_stirred := (fun_mk (st := s_l_stirred) l_l_stirred c_l_stirred k_l_stirred).binds fun _ _ _ _ _ _ us hl => match us, hl with | [_, _], _ => rfl,
      a_l_opened := f_l_opened,
      d_l_opened := _,
      F_l_opened := fun_mk (st := s_l_opened) l_l_opened c_l_opened k_l_opened,
      g_l_opened := PySem.W.mg_of X G a_l_opened,
      b_l_opened := (fun_mk (st := s_l_opened) l_l_opened c_l_opened k_l_opened).binds fun _ _ _ _ _ _ us hl => match us, hl with | [_], _ => rfl,
      a_l_draw := f_l_draw,
      d_l_draw := _,
      F_l_draw := fun_mk (st := s_l_draw) l_l_draw c_l_draw k_l_draw,
      g_l_draw := PySem.W.mg_of X G a_l_draw,
      b_l_draw := (fun_mk (st := s_l_draw) l_l_draw c_l_draw k_l_draw).binds fun _ _ _ _ _ _ us hl => match us, hl with | [_, _], _ => rfl,
      a_l_drawn_plan := f_l_drawn_plan,
      d_l_drawn_plan := _,
      F_l_drawn_plan := fun_mk (st := s_l_drawn_plan) l_l_drawn_plan c_l_drawn_plan k_l_drawn_plan,
      g_l_drawn_plan := PySem.W.mg_of X G a_l_drawn_plan,
      b_l_drawn_plan := (fun_mk (st := s_l_drawn_plan) l_l_drawn_plan c_l_drawn_plan k_l_drawn_plan).binds fun _ _ _ _ _ _ us hl => match us, hl with | [_, _, _], _ => rfl,
      a_l_drawn_mix := f_l_drawn_mix,
      d_l_drawn_mix := _,
      F_l_drawn_mix := fun_mk (st := s_l_drawn_mix) l_l_drawn_mix c_l_drawn_mix k_l_drawn_mix,
      g_l_drawn_mix := PySem.W.mg_of X G a_l_drawn_mix,
      b_l_drawn_mix := (fun_mk (st := s_l_drawn_mix) l_l_drawn_mix c_l_drawn_mix k_l_drawn_mix).binds fun _ _ _ _ _ _ us hl => match us, hl with | [_, _, _, _], _ => rfl,
      a_l_flowing := f_l_flowing,
      d_l_flowing := _,
      F_l_flowing := fun_mk (st := s_l_flowing) l_l_flowing c_l_flowing k_l_flowing,
      g_l_flowing := PySem.W.mg_of X G a_l_flowing,
      b_l_flowing := (fun_mk (st := s_l_flowing) l_l_flowing c_l_flowing k_l_flowing).binds fun _ _ _ _ _ _ us hl => match us, hl with | [_], _ => rfl,
      a_l_kind_of := f_l_kind_of,
      d_l_kind_of := _,
      F_l_kind_of := fun_mk (st := s_l_kind_of) l_l_kind_of c_l_kind_of k_l_kind_of,
      g_l_kind_of := PySem.W.mg_of X G a_l_kind_of,
      b_l_kind_of := (fun_mk (st := s_l_kind_of) l_l_kind_of c_l_kind_of k_l_kind_of).binds fun _ _ _ _ _ _ us hl => match us, hl with | [_], _ => rfl,
      a_l_drawn_paper := f_l_drawn_paper,
      d_l_drawn_paper := _,
      F_l_drawn_paper := fun_mk (st := s_l_drawn_paper) l_l_drawn_paper c_l_drawn_paper k_l_drawn_paper,
      g_l_drawn_paper := PySem.W.mg_of X G a_l_drawn_paper,
      b_l_drawn_paper := (fun_mk (st := s_l_drawn_paper) l_l_drawn_paper c_l_drawn_paper k_l_drawn_paper).binds fun _ _ _ _ _ _ us hl => match us, hl with | [_], _ => rfl,
      a_l_marked := f_l_marked,
      d_l_marked := _,
      F_l_marked := fun_mk (st := s_l_marked) l_l_marked c_l_marked k_l_marked,
      g_l_marked := PySem.W.mg_of X G a_l_marked,
      b_l_marked := (fun_mk (st := s_l_marked) l_l_marked c_l_marked k_l_marked).binds fun _ _ _ _ _ _ us hl => match us, hl with | [_], _ => rfl,
      a_l_once := f_l_once,
      d_l_once := _,
      F_l_once := fun_mk (st := s_l_once) l_l_once c_l_once k_l_once,
      g_l_once := PySem.W.mg_of X G a_l_once,
      b_l_once := (fun_mk (st := s_l_once) l_l_once c_l_once k_l_once).binds fun _ _ _ _ _ _ us hl => match us, hl with | [_], _ => rfl,
      a_l_changed := f_l_changed,
      d_l_changed := _,
      F_l_changed := fun_mk (st := s_l_changed) l_l_changed c_l_changed k_l_changed,
      g_l_changed := PySem.W.mg_of X G a_l_changed,
      b_l_changed := (fun_mk (st := s_l_changed) l_l_changed c_l_changed k_l_changed).binds fun _ _ _ _ _ _ us hl => match us, hl with | [_, _, _], _ => rfl,
      a_l_caught_by := f_l_caught_by,
      d_l_caught_by := _,
      F_l_caught_by := fun_mk (st := s_l_caught_by) l_l_caught_by c_l_caught_by k_l_caught_by,
      g_l_caught_by := PySem.W.mg_of X G a_l_caught_by,
      b_l_caught_by := (fun_mk (st := s_l_caught_by) l_l_caught_by c_l_caught_by k_l_caught_by).binds fun _ _ _ _ _ _ us hl => match us, hl with | [_, _], _ => rfl,
      a_law := f_law,
      d_law := _,
      F_law := fun_mk (st := s_law) l_law c_law k_law,
      g_law := PySem.W.mg_of X G a_law,
      b_law := (fun_mk (st := s_law) l_law c_law k_law).binds fun _ _ _ _ _ _ us hl => match us, hl with | [_], _ => rfl,
      z_ValueError := PySem.W.mg_none_of X G z_ValueError,
      z_int := PySem.W.mg_none_of X G z_int,
      z_isinstance := PySem.W.mg_none_of X G z_isinstance,
      z_len := PySem.W.mg_none_of X G z_len,
      z_list := PySem.W.mg_none_of X G z_list,
      z_range := PySem.W.mg_none_of X G z_range,
      z_sorted := PySem.W.mg_none_of X G z_sorted,
      z_sum := PySem.W.mg_none_of X G z_sum,
      z_tuple := PySem.W.mg_none_of X G z_tuple,
      e_HostError := e_HostError,
      g_HostError := PySem.W.mg_of X G h_HostError,
      i_HostError := i_HostError,
      t_HostError := t_HostError,
      y_HostError := y_HostError,
      e_NoBattle := e_NoBattle,
      g_NoBattle := PySem.W.mg_of X G h_NoBattle,
      i_NoBattle := i_NoBattle,
      t_NoBattle := t_NoBattle,
      y_NoBattle := y_NoBattle,
      e_NoPlan := e_NoPlan,
      g_NoPlan := PySem.W.mg_of X G h_NoPlan,
      i_NoPlan := i_NoPlan,
      t_NoPlan := t_NoPlan,
      y_NoPlan := y_NoPlan,
      e_NoMix := e_NoMix,
      g_NoMix := PySem.W.mg_of X G h_NoMix,
      i_NoMix := i_NoMix,
      t_NoMix := t_NoMix,
      y_NoMix := y_NoMix,
      e_NoStream := e_NoStream,
      g_NoStream := PySem.W.mg_of X G h_NoStream,
      i_NoStream := i_NoStream,
      t_NoStream := t_NoStream,
      y_NoStream := y_NoStream,
      e_NoSide := e_NoSide,
      g_NoSide := PySem.W.mg_of X G h_NoSide,
      i_NoSide := i_NoSide,
      t_NoSide := t_NoSide,
      y_NoSide := y_NoSide,
      e_NoAlike := e_NoAlike,
      g_NoAlike := PySem.W.mg_of X G h_NoAlike,
      i_NoAlike := i_NoAlike,
      t_NoAlike := t_NoAlike,
      y_NoAlike := y_NoAlike,
      e_NoNumber := e_NoNumber,
      g_NoNumber := PySem.W.mg_of X G h_NoNumber,
      i_NoNumber := i_NoNumber,
      t_NoNumber := t_NoNumber,
      y_NoNumber := y_NoNumber,
      e_TooGreat := e_TooGreat,
      g_TooGreat := PySem.W.mg_of X G h_TooGreat,
      i_TooGreat := i_TooGreat,
      t_TooGreat := t_TooGreat,
      y_TooGreat := y_TooGreat,
      e_NoEven := e_NoEven,
      g_NoEven := PySem.W.mg_of X G h_NoEven,
      i_NoEven := i_NoEven,
      t_NoEven := t_NoEven,
      y_NoEven := y_NoEven,
      e_NoText := e_NoText,
      g_NoText := PySem.W.mg_of X G h_NoText,
      i_NoText := i_NoText,
      t_NoText := t_NoText,
      y_NoText := y_NoText,
      e_NoRow := e_NoRow,
      g_NoRow := PySem.W.mg_of X G h_NoRow,
      i_NoRow := i_NoRow,
      t_NoRow := t_NoRow,
      y_NoRow := y_NoRow,
      e_NoName := e_NoName,
      g_NoName := PySem.W.mg_of X G h_NoName,
      i_NoName := i_NoName,
      t_NoName := t_NoName,
      y_NoName := y_NoName,
      e_NoPlace := e_NoPlace,
      g_NoPlace := PySem.W.mg_of X G h_NoPlace,
      i_NoPlace := i_NoPlace,
      t_NoPlace := t_NoPlace,
      y_NoPlace := y_NoPlace,
      x_NoNumber := x_NoNumber,
      k_NoNumber := k_NoNumber,
      hg_NoNumber := hg_NoNumber,
      hk_NoNumber := hk_NoNumber,
      hd_NoNumber := hd_NoNumber,
      ha_NoNumber := ha_NoNumber,
      hm_NoNumber := hm_NoNumber,
      v_NoNumber := v_NoNumber,
      s_NoNumber_HostError := s_NoNumber_HostError,
      s_NoNumber_NoBattle := s_NoNumber_NoBattle,
      s_NoNumber_NoPlan := s_NoNumber_NoPlan,
      s_NoNumber_NoMix := s_NoNumber_NoMix,
      s_NoNumber_NoStream := s_NoNumber_NoStream,
      s_NoNumber_NoSide := s_NoNumber_NoSide,
      s_NoNumber_NoAlike := s_NoNumber_NoAlike,
      s_NoNumber_NoNumber := s_NoNumber_NoNumber,
      s_NoNumber_TooGreat := s_NoNumber_TooGreat,
      s_NoNumber_NoEven := s_NoNumber_NoEven,
      s_NoNumber_NoText := s_NoNumber_NoText,
      s_NoNumber_NoRow := s_NoNumber_NoRow,
      s_NoNumber_NoName := s_NoNumber_NoName,
      s_NoNumber_NoPlace := s_NoNumber_NoPlace,
      ho_n := ho_n,
      ho_t := ho_t }, rfl, fun _ _ => .of_eq rfl⟩
theorem all_mk {P : Program} {w : World} {K : PySem.W.Frag} {h : Heap} {mg : Str → Option Value} {fa : Addr} {f_must_be_many : Addr} {o_must_be_many n_must_be_many : Option Addr} {w_must_be_many : Array (Option Value)} {q1_must_be_many q2_must_be_many q3_must_be_many q4_must_be_many q5_must_be_many q6_must_be_many : Value} {f_paper_times : Addr} {o_paper_times n_paper_times : Option Addr} {w_paper_times : Array (Option Value)} {q1_paper_times q2_paper_times q3_paper_times q4_paper_times q5_paper_times q6_paper_times : Value} {f_paper_exchanged : Addr} {o_paper_exchanged n_paper_exchanged : Option Addr} {w_paper_exchanged : Array (Option Value)} {q1_paper_exchanged q2_paper_exchanged q3_paper_exchanged q4_paper_exchanged q5_paper_exchanged q6_paper_exchanged : Value} {f_paper_scaled : Addr} {o_paper_scaled n_paper_scaled : Option Addr} {w_paper_scaled : Array (Option Value)} {q1_paper_scaled q2_paper_scaled q3_paper_scaled q4_paper_scaled q5_paper_scaled q6_paper_scaled : Value} {f_l_stirred : Addr} {o_l_stirred n_l_stirred : Option Addr} {w_l_stirred : Array (Option Value)} {q1_l_stirred q2_l_stirred q3_l_stirred q4_l_stirred q5_l_stirred q6_l_stirred : Value} {f_l_opened : Addr} {o_l_opened n_l_opened : Option Addr} {w_l_opened : Array (Option Value)} {q1_l_opened q2_l_opened q3_l_opened q4_l_opened q5_l_opened q6_l_opened : Value} {f_l_draw : Addr} {o_l_draw n_l_draw : Option Addr} {w_l_draw : Array (Option Value)} {q1_l_draw q2_l_draw q3_l_draw q4_l_draw q5_l_draw q6_l_draw : Value} {f_l_drawn_plan : Addr} {o_l_drawn_plan n_l_drawn_plan : Option Addr} {w_l_drawn_plan : Array (Option Value)} {q1_l_drawn_plan q2_l_drawn_plan q3_l_drawn_plan q4_l_drawn_plan q5_l_drawn_plan q6_l_drawn_plan : Value} {f_l_drawn_mix : Addr} {o_l_drawn_mix n_l_drawn_mix : Option Addr} {w_l_drawn_mix : Array (Option Value)} {q1_l_drawn_mix q2_l_drawn_mix q3_l_drawn_mix q4_l_drawn_mix q5_l_drawn_mix q6_l_drawn_mix : Value} {f_l_flowing : Addr} {o_l_flowing n_l_flowing : Option Addr} {w_l_flowing : Array (Option Value)} {q1_l_flowing q2_l_flowing q3_l_flowing q4_l_flowing q5_l_flowing q6_l_flowing : Value} {f_l_kind_of : Addr} {o_l_kind_of n_l_kind_of : Option Addr} {w_l_kind_of : Array (Option Value)} {q1_l_kind_of q2_l_kind_of q3_l_kind_of q4_l_kind_of q5_l_kind_of q6_l_kind_of : Value} {f_l_drawn_paper : Addr} {o_l_drawn_paper n_l_drawn_paper : Option Addr} {w_l_drawn_paper : Array (Option Value)} {q1_l_drawn_paper q2_l_drawn_paper q3_l_drawn_paper q4_l_drawn_paper q5_l_drawn_paper q6_l_drawn_paper : Value} {f_l_marked : Addr} {o_l_marked n_l_marked : Option Addr} {w_l_marked : Array (Option Value)} {q1_l_marked q2_l_marked q3_l_marked q4_l_marked q5_l_marked q6_l_marked : Value} {f_l_once : Addr} {o_l_once n_l_once : Option Addr} {w_l_once : Array (Option Value)} {q1_l_once q2_l_once q3_l_once q4_l_once q5_l_once q6_l_once : Value} {f_l_changed : Addr} {o_l_changed n_l_changed : Option Addr} {w_l_changed : Array (Option Value)} {q1_l_changed q2_l_changed q3_l_changed q4_l_changed q5_l_changed q6_l_changed : Value} {f_l_caught_by : Addr} {o_l_caught_by n_l_caught_by : Option Addr} {w_l_caught_by : Array (Option Value)} {q1_l_caught_by q2_l_caught_by q3_l_caught_by q4_l_caught_by q5_l_caught_by q6_l_caught_by : Value} {f_law : Addr} {o_law n_law : Option Addr} {w_law : Array (Option Value)} {q1_law q2_law q3_law q4_law q5_law q6_law : Value} {e_HostError : Addr} {e_NoBattle : Addr} {e_NoPlan : Addr} {e_NoMix : Addr} {e_NoStream : Addr} {e_NoSide : Addr} {e_NoAlike : Addr} {e_NoNumber : Addr} {e_TooGreat : Addr} {e_NoEven : Addr} {e_NoText : Addr} {e_NoRow : Addr} {e_NoName : Addr} {e_NoPlace : Addr} (X : K.In h) (G : h.Ns mainGlobals mg) (hfa : mg "law" = some (.ref fa))
    (h_NoNumber : PySem.W.nsIn K mainGlobals "NoNumber" = some (some (.ref e_NoNumber)))
    (a_must_be_many : PySem.W.nsIn K mainGlobals "must_be_many" = some (some (.ref f_must_be_many)))
    (l_must_be_many : K.lookup f_must_be_many = some ⟨q1_must_be_many, o_must_be_many, .func (PySem.W.fnOf "must_be_many" "must_be_many" (defArgs s_must_be_many) (defBody s_must_be_many) (defScope s_must_be_many) .none q2_must_be_many q3_must_be_many q4_must_be_many n_must_be_many q5_must_be_many q6_must_be_many), w_must_be_many⟩)
    (c_must_be_many : PySem.W.codeIn K q5_must_be_many "must_be_many" = true)
    (k_must_be_many : PySem.W.keepIn K (.ref f_must_be_many) = true)
    (a_paper_times : PySem.W.nsIn K mainGlobals "paper_times" = some (some (.ref f_paper_times)))
    (l_paper_times : K.lookup f_paper_times = some ⟨q1_paper_times, o_paper_times, .func (PySem.W.fnOf "paper_times" "paper_times" (defArgs s_paper_times) (defBody s_paper_times) (defScope s_paper_times) .none q2_paper_times q3_paper_times q4_paper_times n_paper_times q5_paper_times q6_paper_times), w_paper_times⟩)
    (c_paper_times : PySem.W.codeIn K q5_paper_times "paper_times" = true)
    (k_paper_times : PySem.W.keepIn K (.ref f_paper_times) = true)
    (a_paper_exchanged : PySem.W.nsIn K mainGlobals "paper_exchanged" = some (some (.ref f_paper_exchanged)))
    (l_paper_exchanged : K.lookup f_paper_exchanged = some ⟨q1_paper_exchanged, o_paper_exchanged, .func (PySem.W.fnOf "paper_exchanged" "paper_exchanged" (defArgs s_paper_exchanged) (defBody s_paper_exchanged) (defScope s_paper_exchanged) .none q2_paper_exchanged q3_paper_exchanged q4_paper_exchanged n_paper_exchanged q5_paper_exchanged q6_paper_exchanged), w_paper_exchanged⟩)
    (c_paper_exchanged : PySem.W.codeIn K q5_paper_exchanged "paper_exchanged" = true)
    (k_paper_exchanged : PySem.W.keepIn K (.ref f_paper_exchanged) = true)
    (a_paper_scaled : PySem.W.nsIn K mainGlobals "paper_scaled" = some (some (.ref f_paper_scaled)))
    (l_paper_scaled : K.lookup f_paper_scaled = some ⟨q1_paper_scaled, o_paper_scaled, .func (PySem.W.fnOf "paper_scaled" "paper_scaled" (defArgs s_paper_scaled) (defBody s_paper_scaled) (defScope s_paper_scaled) .none q2_paper_scaled q3_paper_scaled q4_paper_scaled n_paper_scaled q5_paper_scaled q6_paper_scaled), w_paper_scaled⟩)
    (c_paper_scaled : PySem.W.codeIn K q5_paper_scaled "paper_scaled" = true)
    (k_paper_scaled : PySem.W.keepIn K (.ref f_paper_scaled) = true)
    (a_l_stirred : PySem.W.nsIn K mainGlobals "_law_stirred" = some (some (.ref f_l_stirred)))
    (l_l_stirred : K.lookup f_l_stirred = some ⟨q1_l_stirred, o_l_stirred, .func (PySem.W.fnOf "_law_stirred" "_law_stirred" (defArgs s_l_stirred) (defBody s_l_stirred) (defScope s_l_stirred) .none q2_l_stirred q3_l_stirred q4_l_stirred n_l_stirred q5_l_stirred q6_l_stirred), w_l_stirred⟩)
    (c_l_stirred : PySem.W.codeIn K q5_l_stirred "_law_stirred" = true)
    (k_l_stirred : PySem.W.keepIn K (.ref f_l_stirred) = true)
    (a_l_opened : PySem.W.nsIn K mainGlobals "_law_opened" = some (some (.ref f_l_opened)))
    (l_l_opened : K.lookup f_l_opened = some ⟨q1_l_opened, o_l_opened, .func (PySem.W.fnOf "_law_opened" "_law_opened" (defArgs s_l_opened) (defBody s_l_opened) (defScope s_l_opened) .none q2_l_opened q3_l_opened q4_l_opened n_l_opened q5_l_opened q6_l_opened), w_l_opened⟩)
    (c_l_opened : PySem.W.codeIn K q5_l_opened "_law_opened" = true)
    (k_l_opened : PySem.W.keepIn K (.ref f_l_opened) = true)
    (a_l_draw : PySem.W.nsIn K mainGlobals "_law_draw" = some (some (.ref f_l_draw)))
    (l_l_draw : K.lookup f_l_draw = some ⟨q1_l_draw, o_l_draw, .func (PySem.W.fnOf "_law_draw" "_law_draw" (defArgs s_l_draw) (defBody s_l_draw) (defScope s_l_draw) .none q2_l_draw q3_l_draw q4_l_draw n_l_draw q5_l_draw q6_l_draw), w_l_draw⟩)
    (c_l_draw : PySem.W.codeIn K q5_l_draw "_law_draw" = true)
    (k_l_draw : PySem.W.keepIn K (.ref f_l_draw) = true)
    (a_l_drawn_plan : PySem.W.nsIn K mainGlobals "_law_drawn_plan" = some (some (.ref f_l_drawn_plan)))
    (l_l_drawn_plan : K.lookup f_l_drawn_plan = some ⟨q1_l_drawn_plan, o_l_drawn_plan, .func (PySem.W.fnOf "_law_drawn_plan" "_law_drawn_plan" (defArgs s_l_drawn_plan) (defBody s_l_drawn_plan) (defScope s_l_drawn_plan) .none q2_l_drawn_plan q3_l_drawn_plan q4_l_drawn_plan n_l_drawn_plan q5_l_drawn_plan q6_l_drawn_plan), w_l_drawn_plan⟩)
    (c_l_drawn_plan : PySem.W.codeIn K q5_l_drawn_plan "_law_drawn_plan" = true)
    (k_l_drawn_plan : PySem.W.keepIn K (.ref f_l_drawn_plan) = true)
    (a_l_drawn_mix : PySem.W.nsIn K mainGlobals "_law_drawn_mix" = some (some (.ref f_l_drawn_mix)))
    (l_l_drawn_mix : K.lookup f_l_drawn_mix = some ⟨q1_l_drawn_mix, o_l_drawn_mix, .func (PySem.W.fnOf "_law_drawn_mix" "_law_drawn_mix" (defArgs s_l_drawn_mix) (defBody s_l_drawn_mix) (defScope s_l_drawn_mix) .none q2_l_drawn_mix q3_l_drawn_mix q4_l_drawn_mix n_l_drawn_mix q5_l_drawn_mix q6_l_drawn_mix), w_l_drawn_mix⟩)
    (c_l_drawn_mix : PySem.W.codeIn K q5_l_drawn_mix "_law_drawn_mix" = true)
    (k_l_drawn_mix : PySem.W.keepIn K (.ref f_l_drawn_mix) = true)
    (a_l_flowing : PySem.W.nsIn K mainGlobals "_law_flowing" = some (some (.ref f_l_flowing)))
    (l_l_flowing : K.lookup f_l_flowing = some ⟨q1_l_flowing, o_l_flowing, .func (PySem.W.fnOf "_law_flowing" "_law_flowing" (defArgs s_l_flowing) (defBody s_l_flowing) (defScope s_l_flowing) .none q2_l_flowing q3_l_flowing q4_l_flowing n_l_flowing q5_l_flowing q6_l_flowing), w_l_flowing⟩)
    (c_l_flowing : PySem.W.codeIn K q5_l_flowing "_law_flowing" = true)
    (k_l_flowing : PySem.W.keepIn K (.ref f_l_flowing) = true)
    (a_l_kind_of : PySem.W.nsIn K mainGlobals "_law_kind_of" = some (some (.ref f_l_kind_of)))
    (l_l_kind_of : K.lookup f_l_kind_of = some ⟨q1_l_kind_of, o_l_kind_of, .func (PySem.W.fnOf "_law_kind_of" "_law_kind_of" (defArgs s_l_kind_of) (defBody s_l_kind_of) (defScope s_l_kind_of) .none q2_l_kind_of q3_l_kind_of q4_l_kind_of n_l_kind_of q5_l_kind_of q6_l_kind_of), w_l_kind_of⟩)
    (c_l_kind_of : PySem.W.codeIn K q5_l_kind_of "_law_kind_of" = true)
    (k_l_kind_of : PySem.W.keepIn K (.ref f_l_kind_of) = true)
    (a_l_drawn_paper : PySem.W.nsIn K mainGlobals "_law_drawn_paper" = some (some (.ref f_l_drawn_paper)))
    (l_l_drawn_paper : K.lookup f_l_drawn_paper = some ⟨q1_l_drawn_paper, o_l_drawn_paper, .func (PySem.W.fnOf "_law_drawn_paper" "_law_drawn_paper" (defArgs s_l_drawn_paper) (defBody s_l_drawn_paper) (defScope s_l_drawn_paper) .none q2_l_drawn_paper q3_l_drawn_paper q4_l_drawn_paper n_l_drawn_paper q5_l_drawn_paper q6_l_drawn_paper), w_l_drawn_paper⟩)
    (c_l_drawn_paper : PySem.W.codeIn K q5_l_drawn_paper "_law_drawn_paper" = true)
    (k_l_drawn_paper : PySem.W.keepIn K (.ref f_l_drawn_paper) = true)
    (a_l_marked : PySem.W.nsIn K mainGlobals "_law_marked" = some (some (.ref f_l_marked)))
    (l_l_marked : K.lookup f_l_marked = some ⟨q1_l_marked, o_l_marked, .func (PySem.W.fnOf "_law_marked" "_law_marked" (defArgs s_l_marked) (defBody s_l_marked) (defScope s_l_marked) .none q2_l_marked q3_l_marked q4_l_marked n_l_marked q5_l_marked q6_l_marked), w_l_marked⟩)
    (c_l_marked : PySem.W.codeIn K q5_l_marked "_law_marked" = true)
    (k_l_marked : PySem.W.keepIn K (.ref f_l_marked) = true)
    (a_l_once : PySem.W.nsIn K mainGlobals "_law_once" = some (some (.ref f_l_once)))
    (l_l_once : K.lookup f_l_once = some ⟨q1_l_once, o_l_once, .func (PySem.W.fnOf "_law_once" "_law_once" (defArgs s_l_once) (defBody s_l_once) (defScope s_l_once) .none q2_l_once q3_l_once q4_l_once n_l_once q5_l_once q6_l_once), w_l_once⟩)
    (c_l_once : PySem.W.codeIn K q5_l_once "_law_once" = true)
    (k_l_once : PySem.W.keepIn K (.ref f_l_once) = true)
    (a_l_changed : PySem.W.nsIn K mainGlobals "_law_changed" = some (some (.ref f_l_changed)))
    (l_l_changed : K.lookup f_l_changed = some ⟨q1_l_changed, o_l_changed, .func (PySem.W.fnOf "_law_changed" "_law_changed" (defArgs s_l_changed) (defBody s_l_changed) (defScope s_l_changed) .none q2_l_changed q3_l_changed q4_l_changed n_l_changed q5_l_changed q6_l_changed), w_l_changed⟩)
    (c_l_changed : PySem.W.codeIn K q5_l_changed "_law_changed" = true)
    (k_l_changed : PySem.W.keepIn K (.ref f_l_changed) = true)
    (a_l_caught_by : PySem.W.nsIn K mainGlobals "_law_caught_by" = some (some (.ref f_l_caught_by)))
    (l_l_caught_by : K.lookup f_l_caught_by = some ⟨q1_l_caught_by, o_l_caught_by, .func (PySem.W.fnOf "_law_caught_by" "_law_caught_by" (defArgs s_l_caught_by) (defBody s_l_caught_by) (defScope s_l_caught_by) .none q2_l_caught_by q3_l_caught_by q4_l_caught_by n_l_caught_by q5_l_caught_by q6_l_caught_by), w_l_caught_by⟩)
    (c_l_caught_by : PySem.W.codeIn K q5_l_caught_by "_law_caught_by" = true)
    (k_l_caught_by : PySem.W.keepIn K (.ref f_l_caught_by) = true)
    (a_law : PySem.W.nsIn K mainGlobals "law" = some (some (.ref f_law)))
    (l_law : K.lookup f_law = some ⟨q1_law, o_law, .func (PySem.W.fnOf "law" "law" (defArgs s_law) (defBody s_law) (defScope s_law) .none q2_law q3_law q4_law n_law q5_law q6_law), w_law⟩)
    (c_law : PySem.W.codeIn K q5_law "law" = true)
    (k_law : PySem.W.keepIn K (.ref f_law) = true)
    (z_ValueError : PySem.W.nsIn K mainGlobals "ValueError" = some none)
    (z_int : PySem.W.nsIn K mainGlobals "int" = some none)
    (z_isinstance : PySem.W.nsIn K mainGlobals "isinstance" = some none)
    (z_len : PySem.W.nsIn K mainGlobals "len" = some none)
    (z_list : PySem.W.nsIn K mainGlobals "list" = some none)
    (z_range : PySem.W.nsIn K mainGlobals "range" = some none)
    (z_sorted : PySem.W.nsIn K mainGlobals "sorted" = some none)
    (z_sum : PySem.W.nsIn K mainGlobals "sum" = some none)
    (z_tuple : PySem.W.nsIn K mainGlobals "tuple" = some none)
    (h_HostError : PySem.W.nsIn K mainGlobals "HostError" = some (some (.ref e_HostError)))
    (i_HostError : PySem.W.isClsIn K e_HostError = true)
    (t_HostError : PySem.W.typeIn K (.ref e_HostError) = some (.type "type"))
    (y_HostError : PySem.W.subIn K (.ref e_HostError) (.type "BaseException") = some true)
    (h_NoBattle : PySem.W.nsIn K mainGlobals "NoBattle" = some (some (.ref e_NoBattle)))
    (i_NoBattle : PySem.W.isClsIn K e_NoBattle = true)
    (t_NoBattle : PySem.W.typeIn K (.ref e_NoBattle) = some (.type "type"))
    (y_NoBattle : PySem.W.subIn K (.ref e_NoBattle) (.type "BaseException") = some true)
    (h_NoPlan : PySem.W.nsIn K mainGlobals "NoPlan" = some (some (.ref e_NoPlan)))
    (i_NoPlan : PySem.W.isClsIn K e_NoPlan = true)
    (t_NoPlan : PySem.W.typeIn K (.ref e_NoPlan) = some (.type "type"))
    (y_NoPlan : PySem.W.subIn K (.ref e_NoPlan) (.type "BaseException") = some true)
    (h_NoMix : PySem.W.nsIn K mainGlobals "NoMix" = some (some (.ref e_NoMix)))
    (i_NoMix : PySem.W.isClsIn K e_NoMix = true)
    (t_NoMix : PySem.W.typeIn K (.ref e_NoMix) = some (.type "type"))
    (y_NoMix : PySem.W.subIn K (.ref e_NoMix) (.type "BaseException") = some true)
    (h_NoStream : PySem.W.nsIn K mainGlobals "NoStream" = some (some (.ref e_NoStream)))
    (i_NoStream : PySem.W.isClsIn K e_NoStream = true)
    (t_NoStream : PySem.W.typeIn K (.ref e_NoStream) = some (.type "type"))
    (y_NoStream : PySem.W.subIn K (.ref e_NoStream) (.type "BaseException") = some true)
    (h_NoSide : PySem.W.nsIn K mainGlobals "NoSide" = some (some (.ref e_NoSide)))
    (i_NoSide : PySem.W.isClsIn K e_NoSide = true)
    (t_NoSide : PySem.W.typeIn K (.ref e_NoSide) = some (.type "type"))
    (y_NoSide : PySem.W.subIn K (.ref e_NoSide) (.type "BaseException") = some true)
    (h_NoAlike : PySem.W.nsIn K mainGlobals "NoAlike" = some (some (.ref e_NoAlike)))
    (i_NoAlike : PySem.W.isClsIn K e_NoAlike = true)
    (t_NoAlike : PySem.W.typeIn K (.ref e_NoAlike) = some (.type "type"))
    (y_NoAlike : PySem.W.subIn K (.ref e_NoAlike) (.type "BaseException") = some true)
    (i_NoNumber : PySem.W.isClsIn K e_NoNumber = true)
    (t_NoNumber : PySem.W.typeIn K (.ref e_NoNumber) = some (.type "type"))
    (y_NoNumber : PySem.W.subIn K (.ref e_NoNumber) (.type "BaseException") = some true)
    (h_TooGreat : PySem.W.nsIn K mainGlobals "TooGreat" = some (some (.ref e_TooGreat)))
    (i_TooGreat : PySem.W.isClsIn K e_TooGreat = true)
    (t_TooGreat : PySem.W.typeIn K (.ref e_TooGreat) = some (.type "type"))
    (y_TooGreat : PySem.W.subIn K (.ref e_TooGreat) (.type "BaseException") = some true)
    (h_NoEven : PySem.W.nsIn K mainGlobals "NoEven" = some (some (.ref e_NoEven)))
    (i_NoEven : PySem.W.isClsIn K e_NoEven = true)
    (t_NoEven : PySem.W.typeIn K (.ref e_NoEven) = some (.type "type"))
    (y_NoEven : PySem.W.subIn K (.ref e_NoEven) (.type "BaseException") = some true)
    (h_NoText : PySem.W.nsIn K mainGlobals "NoText" = some (some (.ref e_NoText)))
    (i_NoText : PySem.W.isClsIn K e_NoText = true)
    (t_NoText : PySem.W.typeIn K (.ref e_NoText) = some (.type "type"))
    (y_NoText : PySem.W.subIn K (.ref e_NoText) (.type "BaseException") = some true)
    (h_NoRow : PySem.W.nsIn K mainGlobals "NoRow" = some (some (.ref e_NoRow)))
    (i_NoRow : PySem.W.isClsIn K e_NoRow = true)
    (t_NoRow : PySem.W.typeIn K (.ref e_NoRow) = some (.type "type"))
    (y_NoRow : PySem.W.subIn K (.ref e_NoRow) (.type "BaseException") = some true)
    (h_NoName : PySem.W.nsIn K mainGlobals "NoName" = some (some (.ref e_NoName)))
    (i_NoName : PySem.W.isClsIn K e_NoName = true)
    (t_NoName : PySem.W.typeIn K (.ref e_NoName) = some (.type "type"))
    (y_NoName : PySem.W.subIn K (.ref e_NoName) (.type "BaseException") = some true)
    (h_NoPlace : PySem.W.nsIn K mainGlobals "NoPlace" = some (some (.ref e_NoPlace)))
    (i_NoPlace : PySem.W.isClsIn K e_NoPlace = true)
    (t_NoPlace : PySem.W.typeIn K (.ref e_NoPlace) = some (.type "type"))
    (y_NoPlace : PySem.W.subIn K (.ref e_NoPlace) (.type "BaseException") = some true)
    (x_NoNumber : PySem.W.excIn K e_NoNumber [.type "ValueError", .type "Exception", .type "BaseException", .type "object"] "ValueError.__new__" = true)
    (k_NoNumber : PySem.W.keepIn K (.ref e_NoNumber) = true)
    (hg_NoNumber : PySem.W.findIn K (.ref e_NoNumber) "__getattribute__" = some (some (.builtin "BaseException.__getattribute__")))
    (hk_NoNumber : PySem.W.findIn K (.ref e_NoNumber) "__getattr__" = some none)
    (hd_NoNumber : PySem.W.hasDictIn K e_NoNumber = true)
    (ha_NoNumber : PySem.W.findIn K (.ref e_NoNumber) "__class__" = some (some (.builtin "object.__class__")))
    (hm_NoNumber : PySem.W.mroIn K e_NoNumber (.type "object") = some true)
    (v_NoNumber : PySem.W.subIn K (.ref e_NoNumber) (.type "ValueError") = some true)
    (s_NoNumber_HostError : PySem.W.subIn K (.ref e_NoNumber) (.ref e_HostError) = some true)
    (s_NoNumber_NoBattle : PySem.W.subIn K (.ref e_NoNumber) (.ref e_NoBattle) = some false)
    (s_NoNumber_NoPlan : PySem.W.subIn K (.ref e_NoNumber) (.ref e_NoPlan) = some false)
    (s_NoNumber_NoMix : PySem.W.subIn K (.ref e_NoNumber) (.ref e_NoMix) = some false)
    (s_NoNumber_NoStream : PySem.W.subIn K (.ref e_NoNumber) (.ref e_NoStream) = some false)
    (s_NoNumber_NoSide : PySem.W.subIn K (.ref e_NoNumber) (.ref e_NoSide) = some false)
    (s_NoNumber_NoAlike : PySem.W.subIn K (.ref e_NoNumber) (.ref e_NoAlike) = some false)
    (s_NoNumber_NoNumber : PySem.W.subIn K (.ref e_NoNumber) (.ref e_NoNumber) = some true)
    (s_NoNumber_TooGreat : PySem.W.subIn K (.ref e_NoNumber) (.ref e_TooGreat) = some false)
    (s_NoNumber_NoEven : PySem.W.subIn K (.ref e_NoNumber) (.ref e_NoEven) = some false)
    (s_NoNumber_NoText : PySem.W.subIn K (.ref e_NoNumber) (.ref e_NoText) = some false)
    (s_NoNumber_NoRow : PySem.W.subIn K (.ref e_NoNumber) (.ref e_NoRow) = some false)
    (s_NoNumber_NoName : PySem.W.subIn K (.ref e_NoNumber) (.ref e_NoName) = some false)
    (s_NoNumber_NoPlace : PySem.W.subIn K (.ref e_NoNumber) (.ref e_NoPlace) = some false)
    (ho_n : PySem.W.specialIn K (.builtin "object.__class__") "__get__" = some (some (.builtin "getset_descriptor.__get__")))
    (ho_t : PySem.W.takesIn K (.builtin "object.__class__") = some true) : ∃ fd : FuncData, (∀ (s : Shared) (v : Value), BindsTo s fd ⟨[v], []⟩ [("_law_script", v)]) ∧ ∀ base : Heap, K.In base → base.Ns mainGlobals mg → FnOk P w K mg base CX0 13 fa fd ["_law_script"] (sp_law K) := by
  obtain ⟨T, e1, e2⟩ := mk_txt X G h_NoNumber a_must_be_many l_must_be_many c_must_be_many k_must_be_many a_paper_times l_paper_times c_paper_times k_paper_times a_paper_exchanged l_paper_exchanged c_paper_exchanged k_paper_exchanged a_paper_scaled l_paper_scaled c_paper_scaled k_paper_scaled a_l_stirred l_l_stirred c_l_stirred k_l_stirred a_l_opened l_l_opened c_l_opened k_l_opened a_l_draw l_l_draw c_l_draw k_l_draw a_l_drawn_plan l_l_drawn_plan c_l_drawn_plan k_l_drawn_plan a_l_drawn_mix l_l_drawn_mix c_l_drawn_mix k_l_drawn_mix a_l_flowing l_l_flowing c_l_flowing k_l_flowing a_l_kind_of l_l_kind_of c_l_kind_of k_l_kind_of a_l_drawn_paper l_l_drawn_paper c_l_drawn_paper k_l_drawn_paper a_l_marked l_l_marked c_l_marked k_l_marked a_l_once l_l_once c_l_once k_l_once a_l_changed l_l_changed c_l_changed k_l_changed a_l_caught_by l_l_caught_by c_l_caught_by k_l_caught_by a_law l_law c_law k_law z_ValueError z_int z_isinstance z_len z_list z_range z_sorted z_sum z_tuple h_HostError i_HostError t_HostError y_HostError h_NoBattle i_NoBattle t_NoBattle y_NoBattle h_NoPlan i_NoPlan t_NoPlan y_NoPlan h_NoMix i_NoMix t_NoMix y_NoMix h_NoStream i_NoStream t_NoStream y_NoStream h_NoSide i_NoSide t_NoSide y_NoSide h_NoAlike i_NoAlike t_NoAlike y_NoAlike i_NoNumber t_NoNumber y_NoNumber h_TooGreat i_TooGreat t_TooGreat y_TooGreat h_NoEven i_NoEven t_NoEven y_NoEven h_NoText i_NoText t_NoText y_NoText h_NoRow i_NoRow t_NoRow y_NoRow h_NoName i_NoName t_NoName y_NoName h_NoPlace i_NoPlace t_NoPlace y_NoPlace x_NoNumber k_NoNumber hg_NoNumber hk_NoNumber hd_NoNumber ha_NoNumber hm_NoNumber v_NoNumber s_NoNumber_HostError s_NoNumber_NoBattle s_NoNumber_NoPlan s_NoNumber_NoMix s_NoNumber_NoStream s_NoNumber_NoSide s_NoNumber_NoAlike s_NoNumber_NoNumber s_NoNumber_TooGreat s_NoNumber_NoEven s_NoNumber_NoText s_NoNumber_NoRow s_NoNumber_NoName s_NoNumber_NoPlace ho_n ho_t
  have e := hfa.symm.trans (PySem.W.mg_of X G a_law)
  cases e
  exact ⟨T.d_law, e2, fun base _ _ => e1 ▸ ok_law T⟩
end K67
open PySem PySem.W PyProof.Rows
set_option maxHeartbeats 0 in
theorem PySem.Challenge.cw_hostfields_k67_papers_changed_holds : PySem.Challenge.rw_hostfields_k67_papers_changed.Holds := by
  w_on; o_law; k_head; (case hw => w_witness2)
  k_fill
  refine L2.walk_of (l := PySem.Challenge.rw_hostfields_k67_papers_changed) (n := 63) (k := 13) (x := "_law_script") (CX := fun _ => L2.CX0) (sp := fun w => K67.sp_law _) rfl (by decide) rfl ⟨rfl, by decide, by decide⟩ (fun w h Y => PySem.W.kIn_of Y) ?F (fun _ _ a ns hl _ hS => ⟨a, ns, rfl, hS, hl, fun _ => rfl⟩) (fun _ _ _ _ _ h => h)
  case F =>
    intro w mg fa h KX G hmg
    refine' K67.all_mk KX G hmg ?h_NoNumber ?a_must_be_many ?l_must_be_many ?c_must_be_many ?k_must_be_many ?a_paper_times ?l_paper_times ?c_paper_times ?k_paper_times ?a_paper_exchanged ?l_paper_exchanged ?c_paper_exchanged ?k_paper_exchanged ?a_paper_scaled ?l_paper_scaled ?c_paper_scaled ?k_paper_scaled ?a_l_stirred ?l_l_stirred ?c_l_stirred ?k_l_stirred ?a_l_opened ?l_l_opened ?c_l_opened ?k_l_opened ?a_l_draw ?l_l_draw ?c_l_draw ?k_l_draw ?a_l_drawn_plan ?l_l_drawn_plan ?c_l_drawn_plan ?k_l_drawn_plan ?a_l_drawn_mix ?l_l_drawn_mix ?c_l_drawn_mix ?k_l_drawn_mix ?a_l_flowing ?l_l_flowing ?c_l_flowing ?k_l_flowing ?a_l_kind_of ?l_l_kind_of ?c_l_kind_of ?k_l_kind_of ?a_l_drawn_paper ?l_l_drawn_paper ?c_l_drawn_paper ?k_l_drawn_paper ?a_l_marked ?l_l_marked ?c_l_marked ?k_l_marked ?a_l_once ?l_l_once ?c_l_once ?k_l_once ?a_l_changed ?l_l_changed ?c_l_changed ?k_l_changed ?a_l_caught_by ?l_l_caught_by ?c_l_caught_by ?k_l_caught_by ?a_law ?l_law ?c_law ?k_law ?z_ValueError ?z_int ?z_isinstance ?z_len ?z_list ?z_range ?z_sorted ?z_sum ?z_tuple ?h_HostError ?i_HostError ?t_HostError ?y_HostError ?h_NoBattle ?i_NoBattle ?t_NoBattle ?y_NoBattle ?h_NoPlan ?i_NoPlan ?t_NoPlan ?y_NoPlan ?h_NoMix ?i_NoMix ?t_NoMix ?y_NoMix ?h_NoStream ?i_NoStream ?t_NoStream ?y_NoStream ?h_NoSide ?i_NoSide ?t_NoSide ?y_NoSide ?h_NoAlike ?i_NoAlike ?t_NoAlike ?y_NoAlike ?i_NoNumber ?t_NoNumber ?y_NoNumber ?h_TooGreat ?i_TooGreat ?t_TooGreat ?y_TooGreat ?h_NoEven ?i_NoEven ?t_NoEven ?y_NoEven ?h_NoText ?i_NoText ?t_NoText ?y_NoText ?h_NoRow ?i_NoRow ?t_NoRow ?y_NoRow ?h_NoName ?i_NoName ?t_NoName ?y_NoName ?h_NoPlace ?i_NoPlace ?t_NoPlace ?y_NoPlace ?x_NoNumber ?k_NoNumber ?hg_NoNumber ?hk_NoNumber ?hd_NoNumber ?ha_NoNumber ?hm_NoNumber ?v_NoNumber ?s_NoNumber_HostError ?s_NoNumber_NoBattle ?s_NoNumber_NoPlan ?s_NoNumber_NoMix ?s_NoNumber_NoStream ?s_NoNumber_NoSide ?s_NoNumber_NoAlike ?s_NoNumber_NoNumber ?s_NoNumber_TooGreat ?s_NoNumber_NoEven ?s_NoNumber_NoText ?s_NoNumber_NoRow ?s_NoNumber_NoName ?s_NoNumber_NoPlace ?ho_n ?ho_t
    (case h_NoNumber => k_is); (case a_must_be_many => k_is); (case l_must_be_many => k_is); (case c_must_be_many => k_is); (case k_must_be_many => k_is); (case a_paper_times => k_is); (case l_paper_times => k_is); (case c_paper_times => k_is); (case k_paper_times => k_is); (case a_paper_exchanged => k_is); (case l_paper_exchanged => k_is); (case c_paper_exchanged => k_is); (case k_paper_exchanged => k_is); (case a_paper_scaled => k_is); (case l_paper_scaled => k_is); (case c_paper_scaled => k_is); (case k_paper_scaled => k_is); (case a_l_stirred => k_is); (case l_l_stirred => k_is); (case c_l_stirred => k_is); (case k_l_stirred => k_is); (case a_l_opened => k_is); (case l_l_opened => k_is); (case c_l_opened => k_is); (case k_l_opened => k_is); (case a_l_draw => k_is); (case l_l_draw => k_is); (case c_l_draw => k_is); (case k_l_draw => k_is); (case a_l_drawn_plan => k_is); (case l_l_drawn_plan => k_is); (case c_l_drawn_plan => k_is); (case k_l_drawn_plan => k_is); (case a_l_drawn_mix => k_is); (case l_l_drawn_mix => k_is); (case c_l_drawn_mix => k_is); (case k_l_drawn_mix => k_is); (case a_l_flowing => k_is); (case l_l_flowing => k_is); (case c_l_flowing => k_is); (case k_l_flowing => k_is); (case a_l_kind_of => k_is); (case l_l_kind_of => k_is); (case c_l_kind_of => k_is); (case k_l_kind_of => k_is); (case a_l_drawn_paper => k_is); (case l_l_drawn_paper => k_is); (case c_l_drawn_paper => k_is); (case k_l_drawn_paper => k_is); (case a_l_marked => k_is); (case l_l_marked => k_is); (case c_l_marked => k_is); (case k_l_marked => k_is); (case a_l_once => k_is); (case l_l_once => k_is); (case c_l_once => k_is); (case k_l_once => k_is); (case a_l_changed => k_is); (case l_l_changed => k_is); (case c_l_changed => k_is); (case k_l_changed => k_is); (case a_l_caught_by => k_is); (case l_l_caught_by => k_is); (case c_l_caught_by => k_is); (case k_l_caught_by => k_is); (case a_law => k_is); (case l_law => k_is); (case c_law => k_is); (case k_law => k_is); (case z_ValueError => k_is); (case z_int => k_is); (case z_isinstance => k_is); (case z_len => k_is); (case z_list => k_is); (case z_range => k_is); (case z_sorted => k_is); (case z_sum => k_is); (case z_tuple => k_is); (case h_HostError => k_is); (case i_HostError => k_is); (case t_HostError => k_is); (case y_HostError => k_is); (case h_NoBattle => k_is); (case i_NoBattle => k_is); (case t_NoBattle => k_is); (case y_NoBattle => k_is); (case h_NoPlan => k_is); (case i_NoPlan => k_is); (case t_NoPlan => k_is); (case y_NoPlan => k_is); (case h_NoMix => k_is); (case i_NoMix => k_is); (case t_NoMix => k_is); (case y_NoMix => k_is); (case h_NoStream => k_is); (case i_NoStream => k_is); (case t_NoStream => k_is); (case y_NoStream => k_is); (case h_NoSide => k_is); (case i_NoSide => k_is); (case t_NoSide => k_is); (case y_NoSide => k_is); (case h_NoAlike => k_is); (case i_NoAlike => k_is); (case t_NoAlike => k_is); (case y_NoAlike => k_is); (case i_NoNumber => k_is); (case t_NoNumber => k_is); (case y_NoNumber => k_is); (case h_TooGreat => k_is); (case i_TooGreat => k_is); (case t_TooGreat => k_is); (case y_TooGreat => k_is); (case h_NoEven => k_is); (case i_NoEven => k_is); (case t_NoEven => k_is); (case y_NoEven => k_is); (case h_NoText => k_is); (case i_NoText => k_is); (case t_NoText => k_is); (case y_NoText => k_is); (case h_NoRow => k_is); (case i_NoRow => k_is); (case t_NoRow => k_is); (case y_NoRow => k_is); (case h_NoName => k_is); (case i_NoName => k_is); (case t_NoName => k_is); (case y_NoName => k_is); (case h_NoPlace => k_is); (case i_NoPlace => k_is); (case t_NoPlace => k_is); (case y_NoPlace => k_is); (case x_NoNumber => k_exc); (case k_NoNumber => k_is); (case hg_NoNumber => k_is); (case hk_NoNumber => k_is); (case hd_NoNumber => k_is); (case ha_NoNumber => k_is); (case hm_NoNumber => k_is); (case v_NoNumber => k_is); (case s_NoNumber_HostError => k_is); (case s_NoNumber_NoBattle => k_is); (case s_NoNumber_NoPlan => k_is); (case s_NoNumber_NoMix => k_is); (case s_NoNumber_NoStream => k_is); (case s_NoNumber_NoSide => k_is); (case s_NoNumber_NoAlike => k_is); (case s_NoNumber_NoNumber => k_is); (case s_NoNumber_TooGreat => k_is); (case s_NoNumber_NoEven => k_is); (case s_NoNumber_NoText => k_is); (case s_NoNumber_NoRow => k_is); (case s_NoNumber_NoName => k_is); (case s_NoNumber_NoPlace => k_is); (case ho_n => k_is); (case ho_t => k_is)

