import PyProof.Rows.All
import Wide.All
import OpenK.AllK
import Wide.FinOn
import HandS.ForMost
import HandS.Wide
import HandS.IsInst
import HandS.TupAny
import HandS.TryOnly
import HandS.Style
import HandS.Conv
import HandS.SortKw
import HandS.Exc
import HandS.ExcIs
import HandS.ExcOwn
import HandS.ExcInit
import HandS.ExcField
import HandS.ClsMeth
import HandS.WordsExc
import KE.KExcIs
import PyProof.MaxThree
import HandS.SortRule
import HandS.TupLe
import PyProof.DictMoreH
import HandS.DictTup
import HandS.TupLen
import HandS.RevRange
import HandS.TupSets
import HandS.More
import HandS.Text
import PySem.Challenge.RW_hostfields_k40_alike_battles_told
set_option Elab.async false
set_option linter.all false
set_option maxRecDepth 100000
set_option maxHeartbeats 4000000
/-! ## the engine: the readings, one step a lemma; «walk_at "go"» walks as far as it goes -/
namespace Hf
open PySem PySem.Spec PyProof.Rows L2
/-- every tracked object but the one at a is as it was -/
def But (a : Addr) (H H' : Hp) : Prop := ∀ b o, b ≠ a → H b = some o → H' b = some o
theorem But.same {a : Addr} {H H' : Hp} (e : Same H H') : But a H H' := fun b o _ h => e b o h
theorem But.refl (a : Addr) (H : Hp) : But a H H := fun _ _ _ h => h
theorem But.trans {a : Addr} {H H1 H2 : Hp} (x : But a H H1) (y : But a H1 H2) : But a H H2 := fun b o n h => y b o n (x b o n h)
theorem But.upd {a : Addr} {H H1 : Hp} {o : HO} (x : But a H H1) : But a H (upd H1 a o) := fun b u n h => by
  rw [upd_ne n]
  exact x b u n h
theorem But.new {a p : Addr} {H H1 : Hp} {o : HO} (x : But a H H1) (hp : H1 p = none) : But a H (L2.upd H1 p o) := fun b u n h => by
  have h1 := x b u n h
  rw [upd_ne (ne_of_none h1 hp)]
  exact h1
theorem But.to_same {a : Addr} {H H' : Hp} (x : But a H H') (n : H a = none) : Same H H' := fun b o h => x b o (ne_of_none h n) h
theorem Same.new {H : Hp} {p : Addr} {o : HO} (hp : H p = none) : Same H (upd H p o) := fun b u h => by
  rw [upd_ne (ne_of_none h hp)]
  exact h
theorem Same.newT {H0 H : Hp} {p : Addr} {o : HO} (e : Same H0 H) (hp : H p = none) : Same H0 (upd H p o) := e.trans (Same.new hp)
/-- a change at an object that H0 does not know -/
theorem Same.mut {H0 H : Hp} {p : Addr} {o : HO} (e : Same H0 H) (hp : H0 p = none) : Same H0 (upd H p o) := fun b u h => by
  rw [upd_ne (ne_of_none h hp)]
  exact e b u h
theorem Same.but {H0 H H1 : Hp} {p : Addr} (e : Same H0 H) (hp : H0 p = none) (x : But p H H1) : Same H0 H1 := fun b u h => x b u (ne_of_none h hp) (e b u h)
theorem Same.seqT {K : PySem.W.Frag} {H H' : Hp} {a : Addr} {xs : List V} (e : Same H H') (h : SqT K H a xs) : SqT K H' a xs := by
  rcases h with (h | ⟨o, h⟩) | h
  · exact .inl (.inl (e _ _ h))
  · exact .inl (.inr ⟨o, e _ _ h⟩)
  · exact .inr h
theorem But.seq {K : PySem.W.Frag} {H H' : Hp} {a b : Addr} {xs : List V} (e : But a H H') (n : b ≠ a) (h : SqL K H b xs) : SqL K H' b xs := by
  rcases h with (h | ⟨o, h⟩) | h
  · exact .inl (.inl (e _ _ n h))
  · exact .inl (.inr ⟨o, e _ _ n h⟩)
  · exact .inr h
theorem But.seqT {K : PySem.W.Frag} {H H' : Hp} {a b : Addr} {xs : List V} (e : But a H H') (n : b ≠ a) (h : SqT K H b xs) : SqT K H' b xs := by
  rcases h with (h | ⟨o, h⟩) | h
  · exact .inl (.inl (e _ _ n h))
  · exact .inl (.inr ⟨o, e _ _ n h⟩)
  · exact .inr h
/-- a guard: its way is barred where P is at hand -/
def Guard (_ : Prop) : Prop := True
theorem Guard.of {P : Prop} (_ : P) : Guard P := trivial
theorem lk_upd {H : Hp} {a b : Addr} {o u : HO} (n : b ≠ a) (h : H b = some u) : upd H a o b = some u := by
  rw [upd_ne n]
  exact h
theorem lk_new {H : Hp} {a b : Addr} {o u : HO} (n : H a = none) (h : H b = some u) : upd H a o b = some u := by
  rw [upd_ne (ne_of_none h n)]
  exact h
theorem lk_updG {H : Hp} {a b : Addr} {o u : HO} (_ : Guard (H a = none)) (n : b ≠ a) (h : H b = some u) : upd H a o b = some u := lk_upd n h
theorem lk_none {H H' : Hp} {a : Addr} (e : Same H H') (n : H' a = none) : H a = none := e.free n
theorem lkL_new {K : PySem.W.Frag} {H : Hp} {a b : Addr} {o : HO} {xs : List V} (n : H a = none) (h : SqL K H b xs) : SqL K (upd H a o) b xs := (Same.new n).seq h
theorem lkT_new {K : PySem.W.Frag} {H : Hp} {a b : Addr} {o : HO} {xs : List V} (n : H a = none) (h : SqT K H b xs) : SqT K (upd H a o) b xs := Same.seqT (Same.new n) h
theorem lkL_upd {K : PySem.W.Frag} {H : Hp} {a b : Addr} {o : HO} {xs : List V} (n : b ≠ a) (h : SqL K H b xs) : SqL K (upd H a o) b xs := But.seq (But.upd (But.refl a H)) n h
theorem lkT_upd {K : PySem.W.Frag} {H : Hp} {a b : Addr} {o : HO} {xs : List V} (n : b ≠ a) (h : SqT K H b xs) : SqT K (upd H a o) b xs := But.seqT (But.upd (But.refl a H)) n h
theorem lkL_updG {K : PySem.W.Frag} {H : Hp} {a b : Addr} {o : HO} {xs : List V} (_ : Guard (H a = none)) (n : b ≠ a) (h : SqL K H b xs) : SqL K (upd H a o) b xs := lkL_upd n h
theorem lkT_updG {K : PySem.W.Frag} {H : Hp} {a b : Addr} {o : HO} {xs : List V} (_ : Guard (H a = none)) (n : b ≠ a) (h : SqT K H b xs) : SqT K (upd H a o) b xs := lkT_upd n h
theorem ne_new {H : Hp} {a b : Addr} {o : HO} (n : H b = none) (h : H a = some o) : a ≠ b := ne_of_none h n
theorem ne_new' {H : Hp} {a b : Addr} {o : HO} (n : H b = none) (h : H a = some o) : b ≠ a := (ne_of_none h n).symm
theorem ne_at {α : Type} {a b : α} (h : a ≠ b) : b ≠ a := h.symm
/-! ### sizes -/
theorem sz4 {n : Nat} (h : n ≤ 1000000) : n ≤ sizeLine := Nat.le_trans h (by decide)
theorem sz4' {n : Nat} (h : n ≤ 1000000) : n < sizeLine := Nat.lt_of_le_of_lt h (by decide)
/-! ### two operators, wider -/
def CMulA (i j : Int) : Prop := CMul i j ∨ CMulW i j
theorem CMulA.ok {i j : Int} (h : CMulA i j) : IntMulOk i j := h.elim CMul.ok CMulW.ok
theorem op_mulA {X : Cx} : OpR X (binaryOp .Mult) (rI CMulA fun i j => .int (i * j)) := opI fun _ _ _ _ _ _ _ hc q => mul_int q hc.ok
def CDivA (_ j : Int) : Prop := j ≠ 0 ∧ j.natAbs.log2 < 9000
theorem op_fdivA {X : Cx} : OpR X (binaryOp .FloorDiv) (rI CDivA fun i j => .int (i.fdiv j)) := opI fun _ _ _ _ _ _ _ hc q => floordiv_int hc.1 q (.inl (PyProof.noPylong_of_log2 hc.2))
theorem mulL {i j : Int} (h : -(2 ^ 64) < i ∧ i < 2 ^ 64) : CMulA i j := .inl (.inl h)
theorem mulR {i j : Int} (h : -(2 ^ 64) < j ∧ j < 2 ^ 64) : CMulA i j := .inl (.inr h)
theorem log_lt {j : Int} {b : Nat} (h : j.natAbs < 2 ^ b) (h0 : 0 < b) (h9 : b ≤ 9000) : j.natAbs.log2 < 9000 := Nat.lt_of_lt_of_le (PySem.Flt.log2_lt_of h0 h) h9
theorem log_small {j : Int} (h : -(2 ^ 200) < j ∧ j < 2 ^ 200) : j.natAbs.log2 < 9000 := log_lt (b := 200) (by omega) (by decide) (by decide)
theorem mulW {i j : Int} {a b : Nat} (ha : i.natAbs < 2 ^ a) (hb : j.natAbs < 2 ^ b) (h0 : 0 < a) (h1 : 0 < b) (h : a + b ≤ 1000000) : CMulA i j := .inr (wide_mul ha hb h0 h1 h)
theorem divS {i j : Int} (h0 : j ≠ 0) (h : -(2 ^ 200) < j ∧ j < 2 ^ 200) : CDivA i j := ⟨h0, log_small h⟩
/-! ### the steps -/
section
variable {σ σ' : L2.St} {H : Hp} {Q : VK} {x y v : V} {i j : Int} {n : Nat} {nx bk ct : L2.St → Hp → Prop} {rt : VK} {K : PySem.W.Frag} {a p : Addr} {xs : List V}
theorem start_to {N : List Str} {vs : List V} {t : TS} {D : Ends} (e : start N vs = σ) (h : t D σ H) : t D (start N vs) H := by
  rw [e]
  exact h
theorem i_ends {t : TS} {rt : VK} (h : t ⟨fun _ H' => rt .non H', rt, fun _ _ => False, fun _ _ => False⟩ σ H) : t { nx := fun _ H' => rt .non H', rt := rt } σ H := h
theorem i_seq {t u : TS} (h : t ⟨u ⟨nx, rt, bk, ct⟩, rt, bk, ct⟩ σ H) : tSeq t u ⟨nx, rt, bk, ct⟩ σ H := h
theorem i_asg {te : TE} {g : TG} (h : te σ H fun x H1 => g x σ H1 nx) : tAsg te g ⟨nx, rt, bk, ct⟩ σ H := h
theorem i_gname {k : Nat} {Z : L2.St → Hp → Prop} (e : σ.set k (some v) = σ') (q : Z σ' H) : gName k v σ H Z := by
  subst e
  exact q
theorem i_ret {te : TE} (h : te σ H rt) : tRet te ⟨nx, rt, bk, ct⟩ σ H := h
theorem i_retN (h : rt .non H) : tRetN ⟨nx, rt, bk, ct⟩ σ H := h
theorem i_next (h : nx σ H) : tNext ⟨nx, rt, bk, ct⟩ σ H := h
theorem i_brk (h : bk σ H) : tBreak ⟨nx, rt, bk, ct⟩ σ H := h
theorem i_cnt (h : ct σ H) : tCont ⟨nx, rt, bk, ct⟩ σ H := h
theorem i_drop {te : TE} (h : te σ H fun _ H1 => nx σ H1) : tDrop te ⟨nx, rt, bk, ct⟩ σ H := h
theorem i_ifs {c : TT} {t u : TS} (h : c σ H fun b H1 => if b = true then t ⟨nx, rt, bk, ct⟩ σ H1 else u ⟨nx, rt, bk, ct⟩ σ H1) : tIfS c t u ⟨nx, rt, bk, ct⟩ σ H := h
theorem i_var {k : Nat} (h : σ[k]? = some (some v)) (q : Q v H) : tVar k σ H Q := ⟨v, h, q⟩
theorem i_c (q : Q v H) : tC v σ H Q := q
theorem i_op {r : R2} {ta tb : TE} (h : ta σ H fun x H1 => tb σ H1 fun y H2 => r x y H2 Q) : tOp r ta tb σ H Q := h
theorem i_un {r : V → Hp → VK → Prop} {ta : TE} (h : ta σ H fun x H1 => r x H1 Q) : tUn r ta σ H Q := h
theorem i_I0 {g : Int → Int → V} (q : Q (g i j) H) : rI0 g (.int i) (.int j) H Q := ⟨i, j, rfl, rfl, q⟩
theorem i_I {C : Int → Int → Prop} {g : Int → Int → V} (c : C i j) (q : Q (g i j) H) : rI C g (.int i) (.int j) H Q := ⟨i, j, rfl, rfl, c, q⟩
theorem i_pow {m : Int} (c : CPow i j) (e : i ^ j.toNat = m) (q : Q (.int m) H) : rI CPow (fun i j => .int (i ^ j.toNat)) (.int i) (.int j) H Q := ⟨i, j, rfl, rfl, c, by
  show Q (.int (i ^ j.toNat)) H
  rw [e]
  exact q⟩
theorem i_U {g : Int → V} (q : Q (g i) H) : rU g (.int i) H Q := ⟨i, rfl, q⟩
theorem i_eqI (q : Q (.bl (decide (i = j))) H) : rEq (.int i) (.int j) H Q := ⟨rfl, by
  have e : decide (V.int i = V.int j) = decide (i = j) := by
    by_cases h : i = j
    · rw [decide_eq_true h, decide_eq_true (congrArg V.int h)]
    · rw [decide_eq_false h, decide_eq_false fun z => h (V.int.inj z)]
  rw [e]
  exact q⟩
theorem i_neI (q : Q (.bl (!decide (i = j))) H) : rNe (.int i) (.int j) H Q := ⟨rfl, by
  have e : decide (V.int i = V.int j) = decide (i = j) := by
    by_cases h : i = j
    · rw [decide_eq_true h, decide_eq_true (congrArg V.int h)]
    · rw [decide_eq_false h, decide_eq_false fun z => h (V.int.inj z)]
  rw [e]
  exact q⟩
theorem i_eqB {c d : Bool} (q : Q (.bl (c == d)) H) : rEq (.bl c) (.bl d) H Q := ⟨rfl, by
  rw [dec_bl]
  exact q⟩
theorem i_neB {c d : Bool} (q : Q (.bl (!(c == d))) H) : rNe (.bl c) (.bl d) H Q := ⟨rfl, by
  rw [dec_bl]
  exact q⟩
theorem i_eqS {c d : Str} (q : Q (.bl (c == d)) H) : rEq (.str c) (.str d) H Q := ⟨rfl, by
  rw [dec_str]
  exact q⟩
theorem i_neS {c d : Str} (q : Q (.bl (!(c == d))) H) : rNe (.str c) (.str d) H Q := ⟨rfl, by
  rw [dec_str]
  exact q⟩
theorem i_test {te : TE} {P : Bool → Hp → Prop} (h : te σ H fun x H1 => ∃ k, x = .bl k ∧ P k H1) : tTest te σ H P := h
theorem i_B {te : TE} {P : Bool → Hp → Prop} (h : te σ H fun x H1 => ∃ k, x = .bl k ∧ P k H1) : tB te σ H P := h
theorem i_bl {b : Bool} {P : Bool → Prop} (q : P b) : ∃ k, V.bl b = .bl k ∧ P k := ⟨b, rfl, q⟩
theorem i_and {t u : TT} {P : Bool → Hp → Prop} (h : t σ H fun c H1 => if c = true then u σ H1 P else P false H1) : tAnd t u σ H P := h
theorem i_or {t u : TT} {P : Bool → Hp → Prop} (h : t σ H fun c H1 => if c = true then P true H1 else u σ H1 P) : tOr t u σ H P := h
theorem i_not {t : TT} {P : Bool → Hp → Prop} (h : t σ H fun c H1 => P (!c) H1) : tNot t σ H P := h
theorem i_andV {ta tb : TE} (h : ta σ H fun x H1 => ∃ c, x = .bl c ∧ if c = true then tb σ H1 Q else Q (.bl false) H1) : tAndV ta tb σ H Q := h
theorem i_orV {ta tb : TE} (h : ta σ H fun x H1 => ∃ c, x = .bl c ∧ if c = true then Q (.bl true) H1 else tb σ H1 Q) : tOrV ta tb σ H Q := h
theorem i_notV {ta : TE} (h : ta σ H fun x H1 => ∃ c, x = .bl c ∧ Q (.bl (!c)) H1) : tNotV ta σ H Q := h
theorem i_ife {t : TT} {ta tb : TE} (h : t σ H fun c H1 => if c = true then ta σ H1 Q else tb σ H1 Q) : tIf t ta tb σ H Q := h
theorem i_call {sp : Sp} {E : XK} {t : TA} (h : t σ H fun vs H1 => sp vs H1 Q E) : tCall sp [] E t σ H Q := by
  have e : (fun vs H1 => sp (vs ++ []) H1 Q E) = fun vs H1 => sp vs H1 Q E := by
    funext vs H1
    rw [List.append_nil]
  show t σ H (fun vs H1 => sp (vs ++ []) H1 Q E)
  rw [e]
  exact h
theorem i_cb {r : List V → Hp → VK → Prop} {t : TA} (h : t σ H fun vs H1 => r vs H1 Q) : tCB r t σ H Q := h
theorem i_nil {P : List V → Hp → Prop} (q : P [] H) : tNil σ H P := q
theorem i_cons {ta : TE} {tr : TA} {P : List V → Hp → Prop} (h : ta σ H fun x H1 => tr σ H1 fun xs H2 => P (x :: xs) H2) : tCons ta tr σ H P := h
theorem i_tup {t : TA} (h : t σ H fun xs H1 => xs.length ≤ sizeLine ∧ ∀ p, H1 p = none → Q (.ref p) (upd H1 p (.tup xs))) : tTup t σ H Q := h
theorem i_lst {t : TA} (h : t σ H fun xs H1 => xs.length ≤ sizeLine ∧ ∀ p, H1 p = none → Q (.ref p) (upd H1 p (.lst xs))) : tLst t σ H Q := h
theorem i_new {R : Addr → Prop} (hz : xs.length ≤ sizeLine) (q : ∀ p, H p = none → R p) : xs.length ≤ sizeLine ∧ ∀ p, H p = none → R p := ⟨hz, q⟩
theorem i_ixL (h : SqL K H p xs) (e : atI xs i = some v) (q : Q v H) : rIxL K (.ref p) (.int i) H Q := ⟨p, xs, i, v, rfl, rfl, h, e, q⟩
theorem i_ixT (h : SqT K H p xs) (e : atI xs i = some v) (q : Q v H) : rIxT K (.ref p) (.int i) H Q := ⟨p, xs, i, v, rfl, rfl, h, e, q⟩
theorem at_lt {α : Type} {xs : List α} {i : Int} (h0 : 0 ≤ i) (h1 : i < xs.length) : ∃ v, atI xs i = some v ∧ xs[i.toNat]? = some v := by
  have hk : i.toNat < xs.length := by omega
  refine ⟨xs[i.toNat], ?_, List.getElem?_eq_getElem hk⟩
  have e := atI_nat (xs := xs) (j := i.toNat) (v := xs[i.toNat]) (List.getElem?_eq_getElem hk)
  rw [Int.toNat_of_nonneg h0] at e
  exact e
/-- an item at an open place: one of those written -/
theorem i_ix2 {y1 y2 : V} (h : SqL K H p [y1, y2]) (h0 : 0 ≤ i) (h1 : i < 2) (q : ∀ v, v = y1 ∨ v = y2 → Q v H) : rIxL K (.ref p) (.int i) H Q := by
  rcases (by omega : i = 0 ∨ i = 1) with e | e <;> subst e
  · exact ⟨p, _, _, y1, rfl, rfl, h, rfl, q _ (.inl rfl)⟩
  · exact ⟨p, _, _, y2, rfl, rfl, h, rfl, q _ (.inr rfl)⟩
theorem i_ix2I {y1 y2 : Int} (h : SqL K H p [.int y1, .int y2]) (h0 : 0 ≤ i) (h1 : i < 2) (q : ∀ v, v = y1 ∨ v = y2 → Q (.int v) H) : rIxL K (.ref p) (.int i) H Q := by
  rcases (by omega : i = 0 ∨ i = 1) with e | e <;> subst e
  · exact ⟨p, _, _, .int y1, rfl, rfl, h, rfl, q _ (.inl rfl)⟩
  · exact ⟨p, _, _, .int y2, rfl, rfl, h, rfl, q _ (.inr rfl)⟩
theorem i_ix3I {y1 y2 y3 : Int} (h : SqL K H p [.int y1, .int y2, .int y3]) (h0 : 0 ≤ i) (h1 : i < 3) (q : ∀ v, v = y1 ∨ v = y2 ∨ v = y3 → Q (.int v) H) : rIxL K (.ref p) (.int i) H Q := by
  rcases (by omega : i = 0 ∨ i = 1 ∨ i = 2) with e | e | e <;> subst e
  · exact ⟨p, _, _, .int y1, rfl, rfl, h, rfl, q _ (.inl rfl)⟩
  · exact ⟨p, _, _, .int y2, rfl, rfl, h, rfl, q _ (.inr (.inl rfl))⟩
  · exact ⟨p, _, _, .int y3, rfl, rfl, h, rfl, q _ (.inr (.inr rfl))⟩
theorem i_ix4I {y1 y2 y3 y4 : Int} (h : SqL K H p [.int y1, .int y2, .int y3, .int y4]) (h0 : 0 ≤ i) (h1 : i < 4) (q : ∀ v, v = y1 ∨ v = y2 ∨ v = y3 ∨ v = y4 → Q (.int v) H) : rIxL K (.ref p) (.int i) H Q := by
  rcases (by omega : i = 0 ∨ i = 1 ∨ i = 2 ∨ i = 3) with e | e | e | e <;> subst e
  · exact ⟨p, _, _, .int y1, rfl, rfl, h, rfl, q _ (.inl rfl)⟩
  · exact ⟨p, _, _, .int y2, rfl, rfl, h, rfl, q _ (.inr (.inl rfl))⟩
  · exact ⟨p, _, _, .int y3, rfl, rfl, h, rfl, q _ (.inr (.inr (.inl rfl)))⟩
  · exact ⟨p, _, _, .int y4, rfl, rfl, h, rfl, q _ (.inr (.inr (.inr rfl)))⟩
theorem i_ix3R {y1 y2 y3 : Addr} (h : SqL K H p [.ref y1, .ref y2, .ref y3]) (h0 : 0 ≤ i) (h1 : i < 3) (q : ∀ v, v = y1 ∨ v = y2 ∨ v = y3 → Q (.ref v) H) : rIxL K (.ref p) (.int i) H Q := by
  rcases (by omega : i = 0 ∨ i = 1 ∨ i = 2) with e | e | e <;> subst e
  · exact ⟨p, _, _, .ref y1, rfl, rfl, h, rfl, q _ (.inl rfl)⟩
  · exact ⟨p, _, _, .ref y2, rfl, rfl, h, rfl, q _ (.inr (.inl rfl))⟩
  · exact ⟨p, _, _, .ref y3, rfl, rfl, h, rfl, q _ (.inr (.inr rfl))⟩
theorem i_ix4R {y1 y2 y3 y4 : Addr} (h : SqL K H p [.ref y1, .ref y2, .ref y3, .ref y4]) (h0 : 0 ≤ i) (h1 : i < 4) (q : ∀ v, v = y1 ∨ v = y2 ∨ v = y3 ∨ v = y4 → Q (.ref v) H) : rIxL K (.ref p) (.int i) H Q := by
  rcases (by omega : i = 0 ∨ i = 1 ∨ i = 2 ∨ i = 3) with e | e | e | e <;> subst e
  · exact ⟨p, _, _, .ref y1, rfl, rfl, h, rfl, q _ (.inl rfl)⟩
  · exact ⟨p, _, _, .ref y2, rfl, rfl, h, rfl, q _ (.inr (.inl rfl))⟩
  · exact ⟨p, _, _, .ref y3, rfl, rfl, h, rfl, q _ (.inr (.inr (.inl rfl)))⟩
  · exact ⟨p, _, _, .ref y4, rfl, rfl, h, rfl, q _ (.inr (.inr (.inr rfl)))⟩
theorem i_gtup {m : Nat} {t : TGs} {Z : L2.St → Hp → Prop} (h : SqT K H p xs) (e : xs.length = m) (q : t xs σ H Z) : gTup K m t (.ref p) σ H Z := ⟨p, xs, rfl, h, e, q⟩
theorem i_gtupL {m : Nat} {t : TGs} {Z : L2.St → Hp → Prop} (h : SqT K H p xs) (e : xs.length = m) (q : t xs σ H Z) : gTup K m t (.ref p) σ H Z := ⟨p, xs, rfl, h, e, q⟩
theorem i_gcons {t : TG} {u : TGs} {r : List V} {Z : L2.St → Hp → Prop} (h : t v σ H fun σ1 H1 => u r σ1 H1 Z) : gCons t u (v :: r) σ H Z := ⟨v, r, rfl, h⟩
theorem i_gnil {Z : L2.St → Hp → Prop} (h : Z σ H) : gNil [] σ H Z := ⟨rfl, h⟩
theorem i_gsub {to ti : TE} {t : TSet} {Z : L2.St → Hp → Prop} (h : to σ H fun o H1 => ti σ H1 fun i H2 => t o i v H2 fun H3 => Z σ H3) : gSub to ti t v σ H Z := h
theorem i_setL {k : Nat} {Z : Hp → Prop} (h : H p = some (.lst xs)) (e : ixN xs.length i = some k) (q : Z (upd H p (.lst (xs.set k v)))) : rSetL (.ref p) (.int i) v H Z := ⟨p, xs, i, k, rfl, rfl, h, e, q⟩
def par2 (k1 k2 : Nat) (σ : L2.St) (Z : L2.St → Hp → Prop) : List V → Hp → Prop := fun vs H1 => ∃ v w, vs = [v, w] ∧ Z ((σ.set k1 (some v)).set k2 (some w)) H1
theorem i_par {k1 k2 : Nat} {ta : TA} (h : ta σ H (par2 k1 k2 σ nx)) : tPar k1 k2 ta ⟨nx, rt, bk, ct⟩ σ H := h
theorem i_par2 {k1 k2 : Nat} {w : V} {Z : L2.St → Hp → Prop} (e : (σ.set k1 (some v)).set k2 (some w) = σ') (q : Z σ' H) : par2 k1 k2 σ Z [v, w] H := by
  subst e
  exact ⟨v, w, rfl, q⟩
theorem i_aug {k : Nat} {te : TE} {ti : TIp} (h : σ[k]? = some (some x)) (q : te σ H fun y H1 => ti x y H1 fun z H2 => gName k z σ H2 nx) : tAug k te ti ⟨nx, rt, bk, ct⟩ σ H := ⟨x, h, q⟩
theorem i_ip {f : Int → Int → Int} (q : Q (.int (f i j)) H) : ipI f (.int i) (.int j) H Q := ⟨i, j, rfl, rfl, q⟩
theorem i_for {wi : TI} {g : TG} {tb : TS} (h : wi σ H fun J H1 => ∃ W : Nat → Nat → L2.St → Hp → Prop, (∃ m, W 0 m σ H1) ∧ ∀ i m σ H, W i m σ H →
  (J.stop i H ∧ nx σ H) ∨ (J.go i H ∧ ∃ N : L2.St → Hp → Prop, (∀ σ' H', N σ' H' → ∃ m', m' < m ∧ W (i + 1) m' σ' H') ∧ ∀ x H', J.yld i H x H' → g x σ H' fun σ2 H2 => tb ⟨N, rt, nx, N⟩ σ2 H2)) : tFor wi g tb ⟨nx, rt, bk, ct⟩ σ H := h
theorem i_rng1 {ta : TA} {R : It → Hp → Prop} (h : ta σ H fun vs H1 => ∃ j : Int, vs = [.int j] ∧ -(2 ^ 62) ≤ j ∧ j < 2 ^ 62 ∧ R (Itr 0 j.toNat) H1) : iRng1 ta σ H R := h
theorem i_rng1' {R : Int → Prop} (h1 : -(2 ^ 62) ≤ j) (h2 : j < 2 ^ 62) (q : R j) : ∃ j' : Int, [V.int j] = [.int j'] ∧ -(2 ^ 62) ≤ j' ∧ j' < 2 ^ 62 ∧ R j' := ⟨j, rfl, h1, h2, q⟩
theorem i_rng2 {ta : TA} {R : It → Hp → Prop} (h : ta σ H fun vs H1 => ∃ i j : Int, vs = [.int i, .int j] ∧ (-(2 ^ 62) ≤ i ∧ i < 2 ^ 62 ∧ -(2 ^ 62) ≤ j ∧ j < 2 ^ 62) ∧ R (Itr i (j - i).toNat) H1) : iRng2 ta σ H R := h
theorem i_rng2' {R : Int → Int → Prop} (h : -(2 ^ 62) ≤ i ∧ i < 2 ^ 62 ∧ -(2 ^ 62) ≤ j ∧ j < 2 ^ 62) (q : R i j) : ∃ i' j' : Int, [V.int i, V.int j] = [.int i', .int j'] ∧ (-(2 ^ 62) ≤ i' ∧ i' < 2 ^ 62 ∧ -(2 ^ 62) ≤ j' ∧ j' < 2 ^ 62) ∧ R i' j' := ⟨i, j, rfl, h, q⟩
theorem i_ilist {tl : TE} {R : It → Hp → Prop} (h : tl σ H fun x H1 => ∃ a, x = .ref a ∧ (∃ xs, SqL K H1 a xs) ∧ R (Itl K a) H1) : iList K tl σ H R := h
theorem i_ilist' {R : Addr → Prop} (h : SqL K H p xs) (q : R p) : ∃ a, V.ref p = .ref a ∧ (∃ xs, SqL K H a xs) ∧ R a := ⟨p, rfl, ⟨xs, h⟩, q⟩
theorem i_itup {tl : TE} {R : It → Hp → Prop} (h : tl σ H fun x H1 => ∃ a, x = .ref a ∧ (∃ xs, SqT K H1 a xs) ∧ R (Itt K a) H1) : iTup K tl σ H R := h
theorem i_itup' {R : Addr → Prop} (h : SqT K H p xs) (q : R p) : ∃ a, V.ref p = .ref a ∧ (∃ xs, SqT K H a xs) ∧ R a := ⟨p, rfl, ⟨xs, h⟩, q⟩
/-- built-ins by values -/
theorem i_abs {R : Int → Prop} (q : R i) : ∃ i', [V.int i] = [.int i'] ∧ R i' := ⟨i, rfl, q⟩
theorem i_int2 {R : Int → Int → Prop} (q : R i j) : ∃ i' j', [V.int i, V.int j] = [.int i', .int j'] ∧ R i' j' := ⟨i, j, rfl, q⟩

theorem i_int1 {R : Int → Prop} {S : Prop} (q : R i) : (∃ i', [V.int i] = [.int i'] ∧ R i') ∨ S := .inl ⟨i, rfl, q⟩
theorem i_intb {b : Bool} {R : Bool → Prop} {S : Prop} (q : R b) : S ∨ ∃ k, [V.bl b] = [.bl k] ∧ R k := .inr ⟨b, rfl, q⟩
theorem i_lenL {R : List V → Prop} (h : SqL K H p xs) (q : R xs) : ∃ p' ys, [V.ref p] = [.ref p'] ∧ (SqL K H p' ys ∨ SqT K H p' ys) ∧ R ys := ⟨p, xs, rfl, .inl h, q⟩
theorem i_lenT {R : List V → Prop} (h : SqT K H p xs) (q : R xs) : ∃ p' ys, [V.ref p] = [.ref p'] ∧ (SqL K H p' ys ∨ SqT K H p' ys) ∧ R ys := ⟨p, xs, rfl, .inr h, q⟩
theorem i_isi {t : String} {c : String} {b : Bool} (ty : TyX K H x (.type t)) (h : kitB t c = some b) (q : Q (.bl b) H) : rIsi K [x, .ty c] H Q := ⟨x, .ty c, .type t, .type c, b, rfl, .ty c, ty, kit_ty h, q⟩
theorem i_append (h : H p = some (.lst xs)) (hz : xs.length < sizeLine) (q : Q .non (upd H p (.lst (xs ++ [v])))) : rAppend (.ref p) [v] H Q := ⟨p, xs, v, rfl, rfl, h, hz, q⟩
theorem i_appendM {H : Hp} {Q : VK} {p : Addr} {ms : List Int} {z : Int} (h : H p = some (.lst (ms.map V.int))) (hz : ms.length < sizeLine) (q : Q .non (upd H p (.lst ((ms ++ [z]).map V.int)))) : rAppend (.ref p) [.int z] H Q := ⟨p, _, _, rfl, rfl, h, by rw [List.length_map]; exact hz, by rw [List.map_append] at q; exact q⟩
theorem i_bm {T : String} {r : V → List V → Hp → VK → Prop} {to : TE} {t : TA} (h : to σ H fun x H1 => tyV K T x H1 ∧ t σ H1 fun xs H2 => r x xs H2 Q) : tBM K T r to t σ H Q := h
theorem i_bm0 {T : String} {r : V → List V → Hp → VK → Prop} {to : TE} (h : to σ H fun x H1 => tyV K T x H1 ∧ r x [] H1 Q) : tBM0 K T r to σ H Q := h
theorem i_bmL {A : Prop} (h : SqL K H p xs) (q : A) : tyV K "list" (.ref p) H ∧ A := ⟨.inl ⟨rfl, _, h⟩, q⟩
/-! ### ifs -/
theorem ite_d {p A B : Prop} {d : Decidable p} (h1 : p → A) (h2 : ¬ p → B) : if (@decide p d) = true then A else B := by
  by_cases h : p
  · rw [if_pos (decide_eq_true h)]
    exact h1 h
  · rw [if_neg (by rw [decide_eq_false h]; decide)]
    exact h2 h
theorem ite_nd {p A B : Prop} {d : Decidable p} (h1 : ¬ p → A) (h2 : p → B) : if (!(@decide p d)) = true then A else B := by
  by_cases h : p
  · rw [if_neg (by rw [decide_eq_true h]; decide)]
    exact h2 h
  · rw [if_pos (by rw [decide_eq_false h]; decide)]
    exact h1 h
theorem ite_b {b : Bool} {A B : Prop} (h1 : b = true → A) (h2 : b = false → B) : if b = true then A else B := by
  cases b
  · rw [if_neg (by decide)]
    exact h2 rfl
  · rw [if_pos rfl]
    exact h1 rfl
theorem ite_y {b : Bool} {A B : Prop} (e : b = true) (h : A) : if b = true then A else B := by
  rw [if_pos e]
  exact h
theorem ite_n {b : Bool} {A B : Prop} (e : b = false) (h : B) : if b = true then A else B := by
  rw [if_neg (by rw [e]; decide)]
  exact h
/-- both ways at once: what follows is asked of either -/
theorem ite_or {b : Bool} {R : Prop} {P : Bool → Prop} (h1 : b = true → P true → R) (h2 : b = false → P false → R) (hp : P b) : R := by
  cases b
  · exact h2 rfl hp
  · exact h1 rfl hp
end
end Hf
namespace Hf
open PySem PySem.Spec PyProof.Rows L2
theorem set_z {α : Type} {x y : α} {r : List α} : List.set (x :: r) 0 y = y :: r := rfl
theorem set_s {α : Type} {x y : α} {r r' : List α} {k : Nat} (h : List.set r k y = r') : List.set (x :: r) (k + 1) y = x :: r' := by
  rw [List.set_cons_succ, h]
theorem set_par {α : Type} {l l1 l2 : List α} {j k : Nat} {y z : α} (h1 : l.set j y = l1) (h2 : l1.set k z = l2) : (l.set j y).set k z = l2 := by
  rw [h1, h2]
theorem lk_same {H H' : Hp} {a : Addr} {o : HO} (e : Same H H') (h : H a = some o) : H' a = some o := e a o h
theorem lk_but {H H' : Hp} {a b : Addr} {o : HO} (e : But a H H') (n : b ≠ a) (h : H b = some o) : H' b = some o := e b o n h
end Hf

namespace Hf
open PySem PySem.Spec PyProof.Rows L2
/-! ### loops -/
section
variable {σ : L2.St} {H : Hp} {Q : VK} {nx bk ct : L2.St → Hp → Prop} {rt : VK} {K : PySem.W.Frag} {a : Addr} {xs : List V} {g : TG} {tb : TS} {lo : Int} {n : Nat}
theorem forR (Pv : Nat → L2.St → Hp → Prop) (h0 : Pv 0 σ H) (hd : ∀ σ H, Pv n σ H → nx σ H)
    (hs : ∀ (i : Nat) σ H, i < n → Pv i σ H → g (.int (lo + i)) σ H fun σ2 H2 => tb ⟨Pv (i + 1), rt, nx, Pv (i + 1)⟩ σ2 H2) :
    ∃ W : Nat → Nat → L2.St → Hp → Prop, (∃ m, W 0 m σ H) ∧ ∀ i m σ H, W i m σ H →
      ((Itr lo n).stop i H ∧ nx σ H) ∨ ((Itr lo n).go i H ∧ ∃ N : L2.St → Hp → Prop, (∀ σ' H', N σ' H' → ∃ m', m' < m ∧ W (i + 1) m' σ' H') ∧ ∀ x H', (Itr lo n).yld i H x H' → g x σ H' fun σ2 H2 => tb ⟨N, rt, nx, N⟩ σ2 H2) :=
  for_range (D := ⟨nx, rt, fun _ _ => False, fun _ _ => False⟩) Pv h0 hs hd
theorem forL (Pv : Nat → L2.St → Hp → Prop) (h0 : Pv 0 σ H) (hl : ∀ i σ H, i ≤ xs.length → Pv i σ H → SqL K H a xs) (hd : ∀ σ H, Pv xs.length σ H → nx σ H)
    (hs : ∀ i x σ H, xs[i]? = some x → Pv i σ H → g x σ H fun σ2 H2 => tb ⟨Pv (i + 1), rt, nx, Pv (i + 1)⟩ σ2 H2) :
    ∃ W : Nat → Nat → L2.St → Hp → Prop, (∃ m, W 0 m σ H) ∧ ∀ i m σ H, W i m σ H →
      ((Itl K a).stop i H ∧ nx σ H) ∨ ((Itl K a).go i H ∧ ∃ N : L2.St → Hp → Prop, (∀ σ' H', N σ' H' → ∃ m', m' < m ∧ W (i + 1) m' σ' H') ∧ ∀ x H', (Itl K a).yld i H x H' → g x σ H' fun σ2 H2 => tb ⟨N, rt, nx, N⟩ σ2 H2) :=
  for_list (D := ⟨nx, rt, fun _ _ => False, fun _ _ => False⟩) Pv h0 hl hs hd
theorem forT (Pv : Nat → L2.St → Hp → Prop) (h0 : Pv 0 σ H) (hl : ∀ i σ H, i ≤ xs.length → Pv i σ H → SqT K H a xs) (hd : ∀ σ H, Pv xs.length σ H → nx σ H)
    (hs : ∀ i x σ H, xs[i]? = some x → Pv i σ H → g x σ H fun σ2 H2 => tb ⟨Pv (i + 1), rt, nx, Pv (i + 1)⟩ σ2 H2) :
    ∃ W : Nat → Nat → L2.St → Hp → Prop, (∃ m, W 0 m σ H) ∧ ∀ i m σ H, W i m σ H →
      ((Itt K a).stop i H ∧ nx σ H) ∨ ((Itt K a).go i H ∧ ∃ N : L2.St → Hp → Prop, (∀ σ' H', N σ' H' → ∃ m', m' < m ∧ W (i + 1) m' σ' H') ∧ ∀ x H', (Itt K a).yld i H x H' → g x σ H' fun σ2 H2 => tb ⟨N, rt, nx, N⟩ σ2 H2) :=
  for_tup (D := ⟨nx, rt, fun _ _ => False, fun _ _ => False⟩) Pv h0 hl hs hd
/-- while: W by a measure; the test is read by hand, its two ways by turnW and the loop's end -/
theorem whileW {c : TT} (W : Nat → L2.St → Hp → Prop) (m : Nat) (h0 : W m σ H)
    (hs : ∀ m σ H, W m σ H → c σ H fun b H1 => if b = true then ∃ N : L2.St → Hp → Prop, (∀ σ' H', N σ' H' → ∃ m', m' < m ∧ W m' σ' H') ∧ tb ⟨N, rt, nx, N⟩ σ H1 else nx σ H1) : tWhile c tb ⟨nx, rt, bk, ct⟩ σ H :=
  ⟨W, ⟨m, h0⟩, hs⟩
theorem turnW {W : Nat → L2.St → Hp → Prop} {m : Nat} (h : tb ⟨fun σ' H' => ∃ m', m' < m ∧ W m' σ' H', rt, nx, fun σ' H' => ∃ m', m' < m ∧ W m' σ' H'⟩ σ H) :
    ∃ N : L2.St → Hp → Prop, (∀ σ' H', N σ' H' → ∃ m', m' < m ∧ W m' σ' H') ∧ tb ⟨N, rt, nx, N⟩ σ H := ⟨_, fun _ _ h => h, h⟩
end
theorem But.free {a p : Addr} {o : HO} {H H' : Hp} (hn : H' p = none) (e : But a H H') (ha : H' a = some o) : H p = none := by
  cases h : H p with
  | none => rfl
  | some u =>
    by_cases hp : p = a
    · rw [hp, ha] at hn
      cases hn
    · rw [e p u hp h] at hn
      cases hn
theorem Same.free' {p : Addr} {H H' : Hp} (hn : H' p = none) (e : Same H H') : H p = none := e.free hn
theorem But.newT {a p : Addr} {H H1 : Hp} {o : HO} (hp : H1 p = none) (x : But a H H1) : But a H (L2.upd H1 p o) := But.new x hp
theorem But.transT {a : Addr} {H H1 H2 : Hp} (y : But a H1 H2) (x : But a H H1) : But a H H2 := But.trans x y
theorem Same.transT {H H1 H2 : Hp} (y : Same H1 H2) (x : Same H H1) : Same H H2 := x.trans y
theorem Same.newT' {H H1 : Hp} {p : Addr} {o : HO} (hp : H1 p = none) (x : Same H H1) : Same H (upd H1 p o) := Same.newT x hp
theorem But.transS {a : Addr} {H H1 H2 : Hp} (y : Same H1 H2) (x : But a H H1) : But a H H2 := fun b o n h => y b o (x b o n h)
theorem Same.butT {H0 H H1 : Hp} {p : Addr} (x : But p H H1) (hp : H0 p = none) (e : Same H0 H) : Same H0 H1 := Same.but e hp x
/-! ### slices, sums of lists -/
theorem six_nn {n d : Nat} {k : Int} (h : 0 ≤ k) : HT.sIx n d (some k) = min k.toNat n := by
  obtain ⟨m, rfl⟩ := Int.eq_ofNat_of_zero_le h
  exact HT.sIx_nat n d m
theorem cut_to {xs : List V} {k : Int} (h : 0 ≤ k) : cutV xs none (some k) = xs.take k.toNat := by
  unfold cutV
  rw [six_nn h, HT.sIx_none, List.drop_zero, Nat.sub_zero]
  exact List.take_eq_take_iff.mpr (by omega)
theorem cut_from {xs : List V} {k : Int} (h : 0 ≤ k) : cutV xs (some k) none = xs.drop k.toNat := by
  unfold cutV
  rw [six_nn h, HT.sIx_none, List.take_of_length_le (by rw [List.length_drop]; omega)]
  by_cases c : k.toNat ≤ xs.length
  · rw [Nat.min_eq_left c]
  · rw [Nat.min_eq_right (show xs.length ≤ k.toNat by omega), List.drop_length, List.drop_eq_nil_of_le (show xs.length ≤ k.toNat by omega)]
theorem cut_mid {xs : List V} {j k : Int} (h : 0 ≤ j) (h' : 0 ≤ k) : cutV xs (some j) (some k) = (xs.drop j.toNat).take (k.toNat - j.toNat) := by
  unfold cutV
  rw [six_nn h, six_nn h']
  by_cases c : j.toNat ≤ xs.length
  · rw [Nat.min_eq_left c]
    refine List.take_eq_take_iff.mpr ?_
    rw [List.length_drop]
    omega
  · rw [Nat.min_eq_right (show xs.length ≤ j.toNat by omega), List.drop_length, List.drop_eq_nil_of_le (show xs.length ≤ j.toNat by omega), List.take_nil, List.take_nil]
section
variable {H : Hp} {Q : VK} {K : PySem.W.Frag} {p r : Addr} {xs ys : List V} {j k : Int} {lo hi : Option Int} {σ : L2.St}
theorem i_slTo (h : SqL K H p xs) (h0 : 0 ≤ k) (q : ∀ p', H p' = none → Q (.ref p') (upd H p' (.lst (xs.take k.toNat)))) : rSlL K (.ref p) none (some k) H Q := ⟨p, xs, rfl, h, by rw [cut_to h0]; exact q⟩
theorem i_slFrom (h : SqL K H p xs) (h0 : 0 ≤ k) (q : ∀ p', H p' = none → Q (.ref p') (upd H p' (.lst (xs.drop k.toNat)))) : rSlL K (.ref p) (some k) none H Q := ⟨p, xs, rfl, h, by rw [cut_from h0]; exact q⟩
theorem i_slMid (h : SqL K H p xs) (h0 : 0 ≤ j) (h1 : 0 ≤ k) (q : ∀ p', H p' = none → Q (.ref p') (upd H p' (.lst ((xs.drop j.toNat).take (k.toNat - j.toNat))))) : rSlL K (.ref p) (some j) (some k) H Q := ⟨p, xs, rfl, h, by rw [cut_mid h0 h1]; exact q⟩
theorem i_sl {R : V → Option Int → Option Int → Hp → VK → Prop} {te : TE} {tl th : TO} (h : te σ H fun x H1 => tl σ H1 fun l H2 => th σ H2 fun u H3 => R x l u H3 Q) : tSl R te tl th σ H Q := h
theorem i_nopart {P : Option Int → Hp → Prop} (q : P none H) : tNoPart σ H P := q
theorem i_part {te : TE} {P : Option Int → Hp → Prop} (h : te σ H fun x H1 => ∃ i, x = .int i ∧ P (some i) H1) : tPart te σ H P := h
theorem i_exint {i : Int} {R : Int → Prop} (q : R i) : ∃ i', V.int i = .int i' ∧ R i' := ⟨i, rfl, q⟩
theorem i_cat (h1 : H p = some (.lst xs)) (h2 : H r = some (.lst ys)) (hz : xs.length + ys.length ≤ sizeLine) (q : ∀ p', H p' = none → Q (.ref p') (upd H p' (.lst (xs ++ ys)))) : rCat (.ref p) (.ref r) H Q := ⟨p, r, xs, ys, rfl, rfl, h1, h2, hz, q⟩
theorem i_rep (h1 : H p = some (.lst xs)) (h2 : -(2 ^ 63) ≤ k ∧ k < 2 ^ 63) (hz : xs.length * k.toNat ≤ sizeLine) (q : ∀ p', H p' = none → Q (.ref p') (upd H p' (.lst (List.replicate k.toNat xs).flatten))) : rRep (.ref p) (.int k) H Q := ⟨p, k, xs, rfl, rfl, h1, h2.1, h2.2, hz, q⟩
theorem flat1 {α : Type} {x : α} : ∀ n : Nat, (List.replicate n [x]).flatten = List.replicate n x
  | 0 => rfl
  | n + 1 => by
    rw [List.replicate_succ, List.flatten_cons, flat1 n, List.replicate_succ]
    rfl
theorem i_rep1 {x : V} (h1 : H p = some (.lst [x])) (h2 : 0 ≤ k ∧ k ≤ 1000000) (q : ∀ p', H p' = none → Q (.ref p') (upd H p' (.lst (List.replicate k.toNat x)))) : rRep (.ref p) (.int k) H Q :=
  i_rep h1 (by omega) (sz4 (by show 1 * k.toNat ≤ 1000000; omega)) (by rw [flat1]; exact q)
end
/-- an if whose two ways meet: what holds behind it -/
theorem if_join {σ : L2.St} {H : Hp} {nx bk ct : L2.St → Hp → Prop} {rt : VK} {c : TT} {t u : TS} (P : L2.St → Hp → Prop) (h : ∀ nx' : L2.St → Hp → Prop, (∀ σ' H', P σ' H' → nx' σ' H') → tIfS c t u ⟨nx', rt, bk, ct⟩ σ H)
    (cont : ∀ σ' H', P σ' H' → nx σ' H') : tIfS c t u ⟨nx, rt, bk, ct⟩ σ H := h nx cont
/-- any statement, cut behind it -/
theorem st_join {σ : L2.St} {H : Hp} {nx bk ct : L2.St → Hp → Prop} {rt : VK} {t : TS} (P : L2.St → Hp → Prop) (h : ∀ nx' : L2.St → Hp → Prop, (∀ σ' H', P σ' H' → nx' σ' H') → t ⟨nx', rt, bk, ct⟩ σ H)
    (cont : ∀ σ' H', P σ' H' → nx σ' H') : t ⟨nx, rt, bk, ct⟩ σ H := h nx cont
theorem ints_at {ms : List Int} {i : Nat} {x : V} (h : (ms.map V.int)[i]? = some x) : ∃ z, x = .int z ∧ ms[i]? = some z := by
  rw [List.getElem?_map] at h
  cases e : ms[i]? with
  | none =>
    rw [e] at h
    cases h
  | some z =>
    rw [e] at h
    exact ⟨z, (Option.some.inj h).symm, rfl⟩
/-! ### equality of data -/
theorem i_eqT2 {K : PySem.W.Frag} {H : Hp} {Q : VK} {p r : Addr} {a b c d : Int} (h1 : SqT K H p [.int a, .int b]) (h2 : SqT K H r [.int c, .int d]) (q : Q (.bl (a == c && (b == d && true))) H) : rEqD K (.ref p) (.ref r) H Q :=
  ⟨.tuple [.int a, .int b], .tuple [.int c, .int d], .tup h1 (.cons (.int a) (.cons (.int b) .nil)), .tup h2 (.cons (.int c) (.cons (.int d) .nil)), rfl, rfl, by
    have e : PyData.eqv (.tuple [.int a, .int b]) (.tuple [.int c, .int d]) = (a == c && (b == d && true)) := by simp [PyData.eqv, PyData.eqvAll]
    rw [e]
    exact q⟩
/-! ### two objects that change -/
def But2 (a c : Addr) (H H' : Hp) : Prop := ∀ b o, b ≠ a → b ≠ c → H b = some o → H' b = some o
section
variable {a c b p : Addr} {H H' H1 H2 : Hp} {o u : HO} {K : PySem.W.Frag} {xs : List V}
theorem But2.refl (a c : Addr) (H : Hp) : But2 a c H H := fun _ _ _ _ h => h
theorem But2.transT (y : But2 a c H1 H2) (x : But2 a c H H1) : But2 a c H H2 := fun b o n m h => y b o n m (x b o n m h)
theorem But2.transS (y : Same H1 H2) (x : But2 a c H H1) : But2 a c H H2 := fun b o n m h => y b o (x b o n m h)
theorem But2.transL (y : But a H1 H2) (x : But2 a c H H1) : But2 a c H H2 := fun b o n m h => y b o n (x b o n m h)
theorem But2.transR (y : But c H1 H2) (x : But2 a c H H1) : But2 a c H H2 := fun b o n m h => y b o m (x b o n m h)
theorem But2.newT (hp : H1 p = none) (x : But2 a c H H1) : But2 a c H (L2.upd H1 p o) := fun b u n m h => by
  have h1 := x b u n m h
  rw [upd_ne (ne_of_none h1 hp)]
  exact h1
theorem But2.updL (x : But2 a c H H1) : But2 a c H (L2.upd H1 a o) := fun b u n m h => by
  rw [upd_ne n]
  exact x b u n m h
theorem But2.updR (x : But2 a c H H1) : But2 a c H (L2.upd H1 c o) := fun b u n m h => by
  rw [upd_ne m]
  exact x b u n m h
theorem lk_but2 (e : But2 a c H H') (n : b ≠ a) (m : b ≠ c) (h : H b = some o) : H' b = some o := e b o n m h
theorem But2.seq (e : But2 a c H H') (n : b ≠ a) (m : b ≠ c) (h : SqL K H b xs) : SqL K H' b xs := by
  rcases h with (h | ⟨o, h⟩) | h
  · exact .inl (.inl (e _ _ n m h))
  · exact .inl (.inr ⟨o, e _ _ n m h⟩)
  · exact .inr h
theorem But2.seqT (e : But2 a c H H') (n : b ≠ a) (m : b ≠ c) (h : SqT K H b xs) : SqT K H' b xs := by
  rcases h with (h | ⟨o, h⟩) | h
  · exact .inl (.inl (e _ _ n m h))
  · exact .inl (.inr ⟨o, e _ _ n m h⟩)
  · exact .inr h
theorem But2.free (hn : H' p = none) (e : But2 a c H H') (ha : H' a = some o) (hc : H' c = some u) : H p = none := by
  cases h : H p with
  | none => rfl
  | some v =>
    by_cases hp : p = a
    · rw [hp, ha] at hn
      cases hn
    · by_cases hq : p = c
      · rw [hq, hc] at hn
        cases hn
      · rw [e p v hp hq h] at hn
        cases hn
theorem But2.mut (hp : H p = none) (x : But2 a c H H1) : But2 a c H (L2.upd H1 p o) := fun b u n m h => by
  have e : b ≠ p := ne_of_none h hp
  exact lk_upd e (x b u n m h)
theorem But2.butT (y : But p H1 H2) (hp : H p = none) (x : But2 a c H H1) : But2 a c H H2 := fun b u n m h => y b u (ne_of_none h hp) (x b u n m h)
theorem Same.but2T {H0 : Hp} (x : But2 a c H H1) (ha : H0 a = none) (hc : H0 c = none) (e : Same H0 H) : Same H0 H1 := fun b u h => x b u (ne_of_none h ha) (ne_of_none h hc) (e b u h)
end
/-! ### len, by its number -/
def LenA (K : PySem.W.Frag) (H : Hp) (p : Addr) (n : Nat) : Prop := (∃ ys, SqL K H p ys ∧ ys.length = n) ∨ ∃ ys, SqT K H p ys ∧ ys.length = n
def rLenA (K : PySem.W.Frag) : List V → Hp → VK → Prop := fun xs H Q => ∃ p n, xs = [V.ref p] ∧ LenA K H p n ∧ Q (.int n) H
theorem call_lenA {X : Cx} : CallR X (.builtin "len") (rLenA X.K) := by
  intro pins s σ H xs us Q I r h
  obtain ⟨p, n, e, hl, q⟩ := h
  refine call_len_seq pins s σ H xs us Q I r ?_
  rcases hl with ⟨ys, h1, h2⟩ | ⟨ys, h1, h2⟩
  · exact ⟨p, ys, e, .inl h1, by rw [h2]; exact q⟩
  · exact ⟨p, ys, e, .inr h1, by rw [h2]; exact q⟩
section
variable {σ : L2.St} {H : Hp} {Q : VK} {K : PySem.W.Frag} {p r : Addr} {xs ys : List V} {ms ns : List Int} {i j k : Int} {n : Nat}
theorem i_lenA (h : LenA K H p n) (q : Q (.int n) H) : rLenA K [.ref p] H Q := ⟨p, n, rfl, h, q⟩
theorem lenA_map {α : Type} {f : α → V} {zs : List α} (h : SqL K H p (zs.map f)) : LenA K H p zs.length := .inl ⟨_, h, List.length_map _⟩
theorem lenA_L (h : SqL K H p xs) : LenA K H p xs.length := .inl ⟨_, h, rfl⟩
theorem lenA_T (h : SqT K H p xs) : LenA K H p xs.length := .inr ⟨_, h, rfl⟩
theorem i_ixM (h : SqL K H p (ms.map V.int)) (h0 : 0 ≤ i) (h1 : i < ms.length) (q : ∀ z, ms[i.toNat]? = some z → Q (.int z) H) : rIxL K (.ref p) (.int i) H Q := by
  obtain ⟨v, e1, e2⟩ := at_lt (xs := ms.map V.int) h0 (by rw [List.length_map]; exact h1)
  obtain ⟨z, e, e3⟩ := ints_at e2
  subst e
  exact i_ixL h e1 (q z e3)
theorem i_ixG (h : SqL K H p xs) (h0 : 0 ≤ i) (h1 : i < xs.length) (q : ∀ v, xs[i.toNat]? = some v → Q v H) : rIxL K (.ref p) (.int i) H Q := by
  obtain ⟨v, e1, e2⟩ := at_lt h0 h1
  exact i_ixL h e1 (q v e2)
theorem i_sum (h : SqL K H p (ns.map V.int)) (q : Q (.int ns.sum) H) : rSum K [.ref p] H Q := ⟨p, ns, rfl, h, q⟩
theorem i_slToM (h : SqL K H p (ms.map V.int)) (h0 : 0 ≤ k) (q : ∀ p', H p' = none → Q (.ref p') (upd H p' (.lst ((ms.take k.toNat).map V.int)))) : rSlL K (.ref p) none (some k) H Q := i_slTo h h0 (by rw [← List.map_take]; exact q)
theorem i_slFromM (h : SqL K H p (ms.map V.int)) (h0 : 0 ≤ k) (q : ∀ p', H p' = none → Q (.ref p') (upd H p' (.lst ((ms.drop k.toNat).map V.int)))) : rSlL K (.ref p) (some k) none H Q := i_slFrom h h0 (by rw [← List.map_drop]; exact q)
theorem i_slMidM (h : SqL K H p (ms.map V.int)) (h0 : 0 ≤ j) (h1 : 0 ≤ k) (q : ∀ p', H p' = none → Q (.ref p') (upd H p' (.lst (((ms.drop j.toNat).take (k.toNat - j.toNat)).map V.int)))) : rSlL K (.ref p) (some j) (some k) H Q := i_slMid h h0 h1 (by rw [← List.map_drop, ← List.map_take]; exact q)
theorem i_catM (h1 : H p = some (.lst (ms.map V.int))) (h2 : H r = some (.lst (ns.map V.int))) (hz : ms.length + ns.length ≤ 1000000) (q : ∀ p', H p' = none → Q (.ref p') (upd H p' (.lst ((ms ++ ns).map V.int)))) : rCat (.ref p) (.ref r) H Q :=
  i_cat h1 h2 (sz4 (by rw [List.length_map, List.length_map]; exact hz)) (by rw [← List.map_append]; exact q)
theorem i_repM {x : Int} (h1 : H p = some (.lst [.int x])) (h2 : 0 ≤ k ∧ k ≤ 1000000) (q : ∀ p', H p' = none → Q (.ref p') (upd H p' (.lst ((List.replicate k.toNat x).map V.int)))) : rRep (.ref p) (.int k) H Q :=
  i_rep1 h1 h2 (by rw [← List.map_replicate]; exact q)
theorem eqvAll_ints : ∀ ms ns : List Int, PyData.eqvAll (ms.map PyData.int) (ns.map PyData.int) = decide (ms = ns)
  | [], [] => by simp [PyData.eqvAll]
  | [], _ :: _ => by simp [PyData.eqvAll]
  | _ :: _, [] => by simp [PyData.eqvAll]
  | m :: ms, n :: ns => by
    rw [List.map_cons, List.map_cons, PyData.eqvAll, eqvAll_ints ms ns, PyData.eqv]
    by_cases h : m = n
    · subst h
      simp
    · simp [h]
theorem canLay_ints : ∀ ms : List Int, PyData.canLayAll0 (ms.map PyData.int) = true
  | [] => by simp [PyData.canLayAll0]
  | m :: ms => by
    rw [List.map_cons, PyData.canLayAll0, canLay_ints ms]
    simp [PyData.canLay0]
theorem depth_ints : ∀ ms : List Int, PyData.depthAll (ms.map PyData.int) ≤ 1
  | [] => by simp [PyData.depthAll]
  | m :: ms => by
    have := depth_ints ms
    rw [List.map_cons, PyData.depthAll]
    simp [PyData.depth]
    omega
theorem dp_ints : ∀ ms : List Int, DpAll K H (ms.map V.int) (ms.map PyData.int)
  | [] => .nil
  | m :: ms => .cons (.int m) (dp_ints ms)
theorem shaped_ints (ms : List Int) : SeqAt.shaped (.list (ms.map PyData.int)) = true := by
  unfold SeqAt.shaped
  have h1 := canLay_ints ms
  have h2 := depth_ints ms
  simp [PyData.canLay0, PyData.depth, h1]
  omega
theorem i_eqLI (h1 : SqL K H p (ms.map V.int)) (h2 : SqL K H r (ns.map V.int)) (q : Q (.bl (decide (ms = ns))) H) : rEqD K (.ref p) (.ref r) H Q :=
  ⟨_, _, .lst h1 (dp_ints ms), .lst h2 (dp_ints ns), shaped_ints ms, shaped_ints ns, by rw [PyData.eqv, eqvAll_ints]; exact q⟩
theorem i_neLI (h1 : SqL K H p (ms.map V.int)) (h2 : SqL K H r (ns.map V.int)) (q : Q (.bl (!decide (ms = ns))) H) : rNeD K (.ref p) (.ref r) H Q :=
  ⟨_, _, .lst h1 (dp_ints ms), .lst h2 (dp_ints ns), shaped_ints ms, shaped_ints ns, by rw [PyData.eqv, eqvAll_ints]; exact q⟩
theorem i_eqL0 (h1 : SqL K H p (ms.map V.int)) (h2 : SqL K H r []) (q : Q (.bl (decide (ms = []))) H) : rEqD K (.ref p) (.ref r) H Q := i_eqLI (ns := []) h1 h2 q
theorem i_eq00 (h1 : SqL K H p []) (h2 : SqL K H r []) (q : Q (.bl true) H) : rEqD K (.ref p) (.ref r) H Q := i_eqLI (ms := []) (ns := []) h1 h2 (by simpa using q)
theorem i_isn {P : Prop} (q : P) : V.non = V.non ∧ P := ⟨rfl, q⟩
theorem i_tru {P : Prop} (q : P) : True ∧ P := ⟨trivial, q⟩
theorem i_glst {m : Nat} {t : TGs} {Z : L2.St → Hp → Prop} (h : SqL K H p xs) (e : xs.length = m) (q : t xs σ H Z) : gLst K m t (.ref p) σ H Z := ⟨p, xs, rfl, h, e, q⟩
end
/-! ### comprehensions -/
section
variable {σ : L2.St} {H H1 : Hp} {Q : VK} {K : PySem.W.Frag} {D a : Addr} {wi : TI} {g : TG} {tt : TT} {te : TE} {vs : List Nat} {lo : Int} {n : Nat} {xs : List V} {Qd : Hp → Prop}
theorem i_lc (h : wi σ H fun J H1 => ∀ D, H1 D = none → ∃ W : Nat → Nat → Hp → Prop, (∃ m, W 0 m (upd H1 D (.lst []))) ∧ ∀ i m H, W i m H →
  (J.stop i H ∧ Q (.ref D) H) ∨ (J.go i H ∧ ∃ Nx : Hp → Prop, (∀ H', Nx H' → ∃ m', m' < m ∧ W (i + 1) m' H') ∧ ∀ x H', J.yld i H x H' → g x (wipe σ vs) H' fun σ2 H2 => wipe σ2 vs = wipe σ vs ∧ tt σ2 H2 fun b H3 =>
    if b = true then te σ2 H3 fun y H4 => ∃ acc, H4 D = some (.lst acc) ∧ acc.length < sizeLine ∧ Nx (upd H4 D (.lst (acc ++ [y]))) else Nx H3)) : tLc wi g tt te vs σ H Q := h
/-- the turn of a comprehension: what its target, test and element come to; Z is wanted of a kept element, Y where the test says no -/
def LcTurn (g : TG) (tt : TT) (te : TE) (vs : List Nat) (σ : L2.St) (x : V) (H : Hp) (Z : VK) (Y : Hp → Prop) : Prop :=
  g x (wipe σ vs) H fun σ2 H2 => wipe σ2 vs = wipe σ vs ∧ tt σ2 H2 fun b H3 => if b = true then te σ2 H3 Z else Y H3
/-- over a range; P: what holds behind i turns of the list made so far -/
theorem lcR (P : Nat → List V → Hp → Prop) (nD : H1 D = none) (h0 : P 0 [] (upd H1 D (.lst [])))
    (hs : ∀ i acc H (Z : VK) (Y : Hp → Prop), i < n → P i acc H → H D = some (.lst acc) → (∀ y H4, H4 D = some (.lst acc) → acc.length < sizeLine → P (i + 1) (acc ++ [y]) (upd H4 D (.lst (acc ++ [y]))) → Z y H4) →
      (∀ H4, H4 D = some (.lst acc) → P (i + 1) acc H4 → Y H4) → LcTurn g tt te vs σ (.int (lo + i)) H Z Y) (hd : ∀ acc H, P n acc H → H D = some (.lst acc) → Qd H) :
    ∃ W : Nat → Nat → Hp → Prop, (∃ m, W 0 m (upd H1 D (.lst []))) ∧ ∀ i m H, W i m H →
      ((Itr lo n).stop i H ∧ Qd H) ∨ ((Itr lo n).go i H ∧ ∃ Nx : Hp → Prop, (∀ H', Nx H' → ∃ m', m' < m ∧ W (i + 1) m' H') ∧ ∀ x H', (Itr lo n).yld i H x H' → g x (wipe σ vs) H' fun σ2 H2 => wipe σ2 vs = wipe σ vs ∧ tt σ2 H2 fun b H3 =>
        if b = true then te σ2 H3 fun y H4 => ∃ acc, H4 D = some (.lst acc) ∧ acc.length < sizeLine ∧ Nx (upd H4 D (.lst (acc ++ [y]))) else Nx H3) := by
  refine lc_range (fun i H => ∃ acc, P i acc H ∧ H D = some (.lst acc)) ⟨[], h0, upd_same⟩ (fun i H hi hp => ?_) (fun H hp => ?_)
  · obtain ⟨acc, hp, ha⟩ := hp
    exact hs i acc H _ _ hi hp ha (fun y H4 h1 h2 h3 => ⟨acc, h1, h2, _, h3, upd_same⟩) fun H4 h1 h2 => ⟨acc, h2, h1⟩
  · obtain ⟨acc, hp, ha⟩ := hp
    exact hd acc H hp ha
theorem lcL (P : Nat → List V → Hp → Prop) (nD : H1 D = none) (h0 : P 0 [] (upd H1 D (.lst []))) (hl : ∀ i acc H, i ≤ xs.length → P i acc H → H D = some (.lst acc) → SqL K H a xs)
    (hs : ∀ i x acc H (Z : VK) (Y : Hp → Prop), xs[i]? = some x → P i acc H → H D = some (.lst acc) → (∀ y H4, H4 D = some (.lst acc) → acc.length < sizeLine → P (i + 1) (acc ++ [y]) (upd H4 D (.lst (acc ++ [y]))) → Z y H4) →
      (∀ H4, H4 D = some (.lst acc) → P (i + 1) acc H4 → Y H4) → LcTurn g tt te vs σ x H Z Y) (hd : ∀ acc H, P xs.length acc H → H D = some (.lst acc) → Qd H) :
    ∃ W : Nat → Nat → Hp → Prop, (∃ m, W 0 m (upd H1 D (.lst []))) ∧ ∀ i m H, W i m H →
      ((Itl K a).stop i H ∧ Qd H) ∨ ((Itl K a).go i H ∧ ∃ Nx : Hp → Prop, (∀ H', Nx H' → ∃ m', m' < m ∧ W (i + 1) m' H') ∧ ∀ x H', (Itl K a).yld i H x H' → g x (wipe σ vs) H' fun σ2 H2 => wipe σ2 vs = wipe σ vs ∧ tt σ2 H2 fun b H3 =>
        if b = true then te σ2 H3 fun y H4 => ∃ acc, H4 D = some (.lst acc) ∧ acc.length < sizeLine ∧ Nx (upd H4 D (.lst (acc ++ [y]))) else Nx H3) := by
  refine lc_list (xs := xs) (fun i H => ∃ acc, P i acc H ∧ H D = some (.lst acc)) ⟨[], h0, upd_same⟩ (fun i H hi hp => ?_) (fun i x H hi hp => ?_) (fun H hp => ?_)
  · obtain ⟨acc, hp, ha⟩ := hp
    exact hl i acc H hi hp ha
  · obtain ⟨acc, hp, ha⟩ := hp
    exact hs i x acc H _ _ hi hp ha (fun y H4 h1 h2 h3 => ⟨acc, h1, h2, _, h3, upd_same⟩) fun H4 h1 h2 => ⟨acc, h2, h1⟩
  · obtain ⟨acc, hp, ha⟩ := hp
    exact hd acc H hp ha
/-- whole numbers, one for each turn -/
theorem lcR_int (f : Nat → Int) (nD : H1 D = none) (hn : n ≤ 1000000)
    (hs : ∀ i H (Z : VK) (Y : Hp → Prop), i < n → Same H1 H → (∀ H4, Same H H4 → Z (.int (f i)) H4) → LcTurn g tt te vs σ (.int (lo + i)) H Z Y)
    (hd : ∀ H, Same H1 H → H D = some (.lst (((List.range n).map f).map V.int)) → Qd H) :
    ∃ W : Nat → Nat → Hp → Prop, (∃ m, W 0 m (upd H1 D (.lst []))) ∧ ∀ i m H, W i m H →
      ((Itr lo n).stop i H ∧ Qd H) ∨ ((Itr lo n).go i H ∧ ∃ Nx : Hp → Prop, (∀ H', Nx H' → ∃ m', m' < m ∧ W (i + 1) m' H') ∧ ∀ x H', (Itr lo n).yld i H x H' → g x (wipe σ vs) H' fun σ2 H2 => wipe σ2 vs = wipe σ vs ∧ tt σ2 H2 fun b H3 =>
        if b = true then te σ2 H3 fun y H4 => ∃ acc, H4 D = some (.lst acc) ∧ acc.length < sizeLine ∧ Nx (upd H4 D (.lst (acc ++ [y]))) else Nx H3) := by
  refine lcR (fun i acc H => i ≤ n ∧ acc = ((List.range i).map f).map V.int ∧ Same H1 H) nD ⟨Nat.zero_le _, rfl, Same.new nD⟩ ?_ ?_
  · rintro i acc H Z Y hi ⟨_, rfl, hsame⟩ ha hz _
    refine hs i H Z Y hi hsame fun H4 h4 => hz _ H4 (h4 _ _ ha) (sz4' (by simp; omega)) ⟨hi, ?_, Same.mut (hsame.trans h4) nD⟩
    rw [List.range_succ, List.map_append, List.map_append]
    rfl
  · rintro acc H ⟨_, rfl, hsame⟩ ha
    exact hd H hsame ha
theorem lcL_int (f : Nat → Int) (nD : H1 D = none) (hn : xs.length ≤ 1000000) (hx : SqL K H1 a xs)
    (hs : ∀ i x H (Z : VK) (Y : Hp → Prop), xs[i]? = some x → Same H1 H → (∀ H4, Same H H4 → Z (.int (f i)) H4) → LcTurn g tt te vs σ x H Z Y)
    (hd : ∀ H, Same H1 H → H D = some (.lst (((List.range xs.length).map f).map V.int)) → Qd H) :
    ∃ W : Nat → Nat → Hp → Prop, (∃ m, W 0 m (upd H1 D (.lst []))) ∧ ∀ i m H, W i m H →
      ((Itl K a).stop i H ∧ Qd H) ∨ ((Itl K a).go i H ∧ ∃ Nx : Hp → Prop, (∀ H', Nx H' → ∃ m', m' < m ∧ W (i + 1) m' H') ∧ ∀ x H', (Itl K a).yld i H x H' → g x (wipe σ vs) H' fun σ2 H2 => wipe σ2 vs = wipe σ vs ∧ tt σ2 H2 fun b H3 =>
        if b = true then te σ2 H3 fun y H4 => ∃ acc, H4 D = some (.lst acc) ∧ acc.length < sizeLine ∧ Nx (upd H4 D (.lst (acc ++ [y]))) else Nx H3) := by
  refine lcL (xs := xs) (fun i acc H => i ≤ xs.length ∧ acc = ((List.range i).map f).map V.int ∧ Same H1 H) nD ⟨Nat.zero_le _, rfl, Same.new nD⟩ (fun i acc H _ hp _ => hp.2.2.seq hx) ?_ ?_
  · rintro i x acc H Z Y hi ⟨_, rfl, hsame⟩ ha hz _
    have hi' : i < xs.length := (List.getElem?_eq_some_iff.mp hi).1
    refine hs i x H Z Y hi hsame fun H4 h4 => hz _ H4 (h4 _ _ ha) (sz4' (by simp; omega)) ⟨hi', ?_, Same.mut (hsame.trans h4) nD⟩
    rw [List.range_succ, List.map_append, List.map_append]
    rfl
  · rintro acc H ⟨_, rfl, hsame⟩ ha
    exact hd H hsame ha
/-- over a range, kept where b says so -/
theorem lcR_fil (b : Nat → Bool) (f : Nat → Int) (nD : H1 D = none) (hn : n ≤ 1000000)
    (hs : ∀ i H (Z : VK) (Y : Hp → Prop), i < n → Same H1 H → (b i = true → ∀ H4, Same H H4 → Z (.int (f i)) H4) → (b i = false → ∀ H4, Same H H4 → Y H4) → LcTurn g tt te vs σ (.int (lo + i)) H Z Y)
    (hd : ∀ H, Same H1 H → H D = some (.lst ((((List.range n).filter b).map f).map V.int)) → Qd H) :
    ∃ W : Nat → Nat → Hp → Prop, (∃ m, W 0 m (upd H1 D (.lst []))) ∧ ∀ i m H, W i m H →
      ((Itr lo n).stop i H ∧ Qd H) ∨ ((Itr lo n).go i H ∧ ∃ Nx : Hp → Prop, (∀ H', Nx H' → ∃ m', m' < m ∧ W (i + 1) m' H') ∧ ∀ x H', (Itr lo n).yld i H x H' → g x (wipe σ vs) H' fun σ2 H2 => wipe σ2 vs = wipe σ vs ∧ tt σ2 H2 fun b H3 =>
        if b = true then te σ2 H3 fun y H4 => ∃ acc, H4 D = some (.lst acc) ∧ acc.length < sizeLine ∧ Nx (upd H4 D (.lst (acc ++ [y]))) else Nx H3) := by
  refine lcR (fun i acc H => i ≤ n ∧ acc = (((List.range i).filter b).map f).map V.int ∧ Same H1 H) nD ⟨Nat.zero_le _, rfl, Same.new nD⟩ ?_ ?_
  · rintro i acc H Z Y hi ⟨_, rfl, hsame⟩ ha hz hy
    refine hs i H Z Y hi hsame (fun hb H4 h4 => hz _ H4 (h4 _ _ ha) (sz4' ?_) ⟨hi, ?_, Same.mut (hsame.trans h4) nD⟩) (fun hb H4 h4 => hy H4 (h4 _ _ ha) ⟨hi, ?_, hsame.trans h4⟩)
    · have := List.length_filter_le b (List.range i)
      rw [List.length_range] at this
      simp only [List.length_map]
      omega
    · rw [List.range_succ, List.filter_append, List.map_append, List.map_append, List.filter_cons, if_pos hb]
      rfl
    · rw [List.range_succ, List.filter_append, List.map_append, List.map_append, List.filter_cons, if_neg (by rw [hb]; exact Bool.false_ne_true)]
      simp
  · rintro acc H ⟨_, rfl, hsame⟩ ha
    exact hd H hsame ha
/-- over a list, nothing kept -/
theorem lcL_nil (nD : H1 D = none) (hx : SqL K H1 a xs)
    (hs : ∀ (i : Nat) (x : V) H (Z : VK) (Y : Hp → Prop), xs[i]? = some x → Same H1 H → (∀ H4, Same H H4 → Y H4) → LcTurn g tt te vs σ x H Z Y)
    (hd : ∀ H, Same H1 H → H D = some (.lst []) → Qd H) :
    ∃ W : Nat → Nat → Hp → Prop, (∃ m, W 0 m (upd H1 D (.lst []))) ∧ ∀ i m H, W i m H →
      ((Itl K a).stop i H ∧ Qd H) ∨ ((Itl K a).go i H ∧ ∃ Nx : Hp → Prop, (∀ H', Nx H' → ∃ m', m' < m ∧ W (i + 1) m' H') ∧ ∀ x H', (Itl K a).yld i H x H' → g x (wipe σ vs) H' fun σ2 H2 => wipe σ2 vs = wipe σ vs ∧ tt σ2 H2 fun b H3 =>
        if b = true then te σ2 H3 fun y H4 => ∃ acc, H4 D = some (.lst acc) ∧ acc.length < sizeLine ∧ Nx (upd H4 D (.lst (acc ++ [y]))) else Nx H3) := by
  refine lcL (xs := xs) (fun i acc H => acc = [] ∧ Same H1 H) nD ⟨rfl, Same.new nD⟩ (fun i acc H _ hp _ => hp.2.seq hx) ?_ ?_
  · rintro i x acc H Z Y hi ⟨rfl, hsame⟩ ha _ hy
    exact hs i x H Z Y hi hsame fun H4 h4 => hy H4 (h4 _ _ ha) ⟨rfl, hsame.trans h4⟩
  · rintro acc H ⟨rfl, hsame⟩ ha
    exact hd H hsame ha
/-- over a list, a value for each, from the turn's number -/
theorem lcL_v (f : Nat → V) (nD : H1 D = none) (hn : xs.length ≤ 1000000) (hx : SqL K H1 a xs)
    (hs : ∀ (i : Nat) (x : V) H (Z : VK) (Y : Hp → Prop), xs[i]? = some x → Same H1 H → (∀ H4, Same H H4 → Z (f i) H4) → LcTurn g tt te vs σ x H Z Y)
    (hd : ∀ H, Same H1 H → H D = some (.lst ((List.range xs.length).map f)) → Qd H) :
    ∃ W : Nat → Nat → Hp → Prop, (∃ m, W 0 m (upd H1 D (.lst []))) ∧ ∀ i m H, W i m H →
      ((Itl K a).stop i H ∧ Qd H) ∨ ((Itl K a).go i H ∧ ∃ Nx : Hp → Prop, (∀ H', Nx H' → ∃ m', m' < m ∧ W (i + 1) m' H') ∧ ∀ x H', (Itl K a).yld i H x H' → g x (wipe σ vs) H' fun σ2 H2 => wipe σ2 vs = wipe σ vs ∧ tt σ2 H2 fun b H3 =>
        if b = true then te σ2 H3 fun y H4 => ∃ acc, H4 D = some (.lst acc) ∧ acc.length < sizeLine ∧ Nx (upd H4 D (.lst (acc ++ [y]))) else Nx H3) := by
  refine lcL (xs := xs) (fun i acc H => i ≤ xs.length ∧ acc = (List.range i).map f ∧ Same H1 H) nD ⟨Nat.zero_le _, rfl, Same.new nD⟩ (fun i acc H _ hp _ => hp.2.2.seq hx) ?_ ?_
  · rintro i x acc H Z Y hi ⟨_, rfl, hsame⟩ ha hz _
    have hi' : i < xs.length := (List.getElem?_eq_some_iff.mp hi).1
    refine hs i x H Z Y hi hsame fun H4 h4 => hz _ H4 (h4 _ _ ha) (sz4' (by simp; omega)) ⟨hi', ?_, Same.mut (hsame.trans h4) nD⟩
    rw [List.range_succ, List.map_append]
    rfl
  · rintro acc H ⟨_, rfl, hsame⟩ ha
    exact hd H hsame ha
/-- over a list, truths all true -/
theorem lcL_all (nD : H1 D = none) (hn : xs.length ≤ 1000000) (hx : SqL K H1 a xs)
    (hs : ∀ (i : Nat) (x : V) H (Z : VK) (Y : Hp → Prop), xs[i]? = some x → Same H1 H → (∀ H4, Same H H4 → Z (.bl true) H4) → LcTurn g tt te vs σ x H Z Y)
    (hd : ∀ H, Same H1 H → SqL K H D ((List.replicate xs.length true).map V.bl) → Qd H) :
    ∃ W : Nat → Nat → Hp → Prop, (∃ m, W 0 m (upd H1 D (.lst []))) ∧ ∀ i m H, W i m H →
      ((Itl K a).stop i H ∧ Qd H) ∨ ((Itl K a).go i H ∧ ∃ Nx : Hp → Prop, (∀ H', Nx H' → ∃ m', m' < m ∧ W (i + 1) m' H') ∧ ∀ x H', (Itl K a).yld i H x H' → g x (wipe σ vs) H' fun σ2 H2 => wipe σ2 vs = wipe σ vs ∧ tt σ2 H2 fun b H3 =>
        if b = true then te σ2 H3 fun y H4 => ∃ acc, H4 D = some (.lst acc) ∧ acc.length < sizeLine ∧ Nx (upd H4 D (.lst (acc ++ [y]))) else Nx H3) := by
  refine lcL_v (fun _ => .bl true) nD hn hx hs fun H hs' h => hd H hs' (.of ?_)
  rw [h, List.map_const', List.length_range, List.map_replicate]
theorem i_all {H : Hp} {Q : VK} {p : Addr} {m : Nat} (h : SqL K H p ((List.replicate m true).map V.bl)) (q : Q (.bl true) H) : rAll K [.ref p] H Q := by
  refine ⟨p, _, rfl, h, ?_⟩
  have e : (List.replicate m true).all id = true := by
    rw [List.all_eq_true]
    intro x hx
    rw [(List.mem_replicate.mp hx).2]
    rfl
  rw [e]
  exact q
theorem i_min {H : Hp} {Q : VK} {p : Addr} {ns : List Int} (h : SqL K H p (ns.map V.int)) (h0 : 0 < ns.length) (q : ∀ m, m ∈ ns → (∀ y, y ∈ ns → m ≤ y) → Q (.int m) H) : rMin K [.ref p] H Q := ⟨p, ns, rfl, h, h0, q⟩
theorem i_max {H : Hp} {Q : VK} {p : Addr} {ns : List Int} (h : SqL K H p (ns.map V.int)) (h0 : 0 < ns.length) (q : ∀ m, m ∈ ns → (∀ y, y ∈ ns → y ≤ m) → Q (.int m) H) : rMax K [.ref p] H Q := ⟨p, ns, rfl, h, h0, q⟩
theorem i_yes {P : Bool → Hp → Prop} (q : P true H) : tYes σ H P := q
theorem i_wipe {A : Prop} {σ2 : L2.St} (e : wipe σ2 vs = wipe σ vs) (q : A) : wipe σ2 vs = wipe σ vs ∧ A := ⟨e, q⟩
theorem i_turn {x : V} {Z : VK} {Y : Hp → Prop} {σ1 : L2.St} (e : wipe σ vs = σ1) (h : g x σ1 H fun σ2 H2 => wipe σ2 vs = σ1 ∧ tt σ2 H2 fun b H3 => if b = true then te σ2 H3 Z else Y H3) : LcTurn g tt te vs σ x H Z Y := by
  subst e
  exact h
theorem i_wiped {A : Prop} {σ1 σ2 : L2.St} (e : wipe σ2 vs = σ1) (q : A) : wipe σ2 vs = σ1 ∧ A := ⟨e, q⟩
end
theorem ixN_nn {n : Nat} {i : Int} (h0 : 0 ≤ i) (h1 : i < n) : ixN n i = some i.toNat := by
  unfold ixN
  rw [if_pos h0, if_pos h1]
theorem ixN_last {n : Nat} (h : 0 < n) : ixN n (-1) = some (n - 1) := by
  unfold ixN
  rw [if_neg (by decide), if_pos (by omega)]
  congr 1
  omega
theorem i_ixLast {K : PySem.W.Frag} {H : Hp} {p : Addr} {ms : List Int} {Q : VK} (h : SqL K H p (ms.map V.int)) (h1 : 0 < ms.length) (q : ∀ z, ms[ms.length - 1]? = some z → Q (.int z) H) : rIxL K (.ref p) (.int (-1)) H Q := by
  have e : ms[ms.length - 1]? = some ms[ms.length - 1] := List.getElem?_eq_getElem (by omega)
  refine ⟨p, _, -1, .int ms[ms.length - 1], rfl, rfl, h, ?_, q _ e⟩
  unfold atI
  rw [List.length_map, ixN_last h1, Option.bind_some, List.getElem?_map, e]
  rfl
theorem cut_init {xs : List V} : cutV xs none (some (-1)) = xs.dropLast := by
  unfold cutV
  rw [HT.sIx_none, List.drop_zero, Nat.sub_zero]
  have e : HT.sIx xs.length xs.length (some (-1)) = xs.length - 1 := by
    unfold HT.sIx
    simp
    omega
  rw [e, List.dropLast_eq_take]
theorem i_slInitM {K : PySem.W.Frag} {H : Hp} {p : Addr} {ms : List Int} {Q : VK} (h : SqL K H p (ms.map V.int)) (q : ∀ p', H p' = none → Q (.ref p') (upd H p' (.lst (ms.dropLast.map V.int)))) : rSlL K (.ref p) none (some (-1)) H Q := ⟨p, _, rfl, h, by rw [cut_init, ← List.map_dropLast]; exact q⟩
theorem i_setLast {H : Hp} {p : Addr} {ms : List Int} {z : Int} {Z : Hp → Prop} (h : H p = some (.lst (ms.map V.int))) (h1 : 0 < ms.length) (q : Z (upd H p (.lst ((ms.set (ms.length - 1) z).map V.int)))) : rSetL (.ref p) (.int (-1)) (.int z) H Z :=
  ⟨p, _, -1, ms.length - 1, rfl, rfl, h, by rw [List.length_map]; exact ixN_last h1, by rw [← List.map_set]; exact q⟩
theorem i_catM1 {H : Hp} {p r : Addr} {ms : List Int} {y : Int} {Q : VK} (h1 : H p = some (.lst (ms.map V.int))) (h2 : H r = some (.lst [.int y])) (hz : ms.length + 1 ≤ 1000000) (q : ∀ p', H p' = none → Q (.ref p') (upd H p' (.lst ((ms ++ [y]).map V.int)))) : rCat (.ref p) (.ref r) H Q := i_catM (ns := [y]) h1 h2 hz q
theorem fil_last (b : Nat → Bool) : ∀ n, (List.range n).filter b = [] ∨ ∃ k, k < n ∧ b k = true ∧ (∀ j, k < j → j < n → b j = false) ∧ ((List.range n).filter b)[((List.range n).filter b).length - 1]? = some k
  | 0 => .inl rfl
  | n + 1 => by
    rw [List.range_succ, List.filter_append]
    cases e : b n with
    | true =>
      refine .inr ⟨n, by omega, e, fun j h1 h2 => by omega, ?_⟩
      have : List.filter b [n] = [n] := by simp [e]
      rw [this, List.length_append]
      simp
    | false =>
      have : List.filter b [n] = [] := by simp [e]
      rw [this, List.append_nil]
      rcases fil_last b n with h | ⟨k, h1, h2, h3, h4⟩
      · exact .inl h
      · refine .inr ⟨k, by omega, h2, fun j g1 g2 => ?_, h4⟩
        by_cases c : j = n
        · subst c; exact e
        · exact h3 j g1 (by omega)
theorem fil_none {b : Nat → Bool} {n : Nat} (h : (List.range n).filter b = []) {j : Nat} (hj : j < n) : b j = false := by
  have := List.filter_eq_nil_iff.mp h j (List.mem_range.mpr hj)
  simpa using this
theorem i_reverse {H : Hp} {p : Addr} {ms : List Int} {Q : VK} (h : H p = some (.lst (ms.map V.int))) (q : Q .non (upd H p (.lst (ms.reverse.map V.int)))) : rReverse (.ref p) [] H Q := ⟨p, _, rfl, rfl, h, by rw [← List.map_reverse]; exact q⟩
theorem i_ne00 {K : PySem.W.Frag} {H : Hp} {Q : VK} {p r : Addr} (h1 : SqL K H p []) (h2 : SqL K H r []) (q : Q (.bl false) H) : rNeD K (.ref p) (.ref r) H Q := i_neLI (ms := []) (ns := []) h1 h2 (by simpa using q)
theorem i_min2 {K : Prop} {R : Int → Int → Prop} {i j : Int} (q : R i j) : ∃ i' j', [V.int i, V.int j] = [.int i', .int j'] ∧ R i' j' := ⟨i, j, rfl, q⟩
theorem i_setM {H : Hp} {p : Addr} {ms : List Int} {i z : Int} {Z : Hp → Prop} (h : H p = some (.lst (ms.map V.int))) (h0 : 0 ≤ i) (h1 : i < ms.length) (q : Z (upd H p (.lst ((ms.set i.toNat z).map V.int)))) : rSetL (.ref p) (.int i) (.int z) H Z :=
  ⟨p, _, i, i.toNat, rfl, rfl, h, ixN_nn h0 (by rw [List.length_map]; exact h1), by rw [← List.map_set]; exact q⟩
/-! ### the rules that name the written part, K told -/
def rListOf (K : PySem.W.Frag) : List V → Hp → VK → Prop := fun xs H Q => ∃ p ys, xs = [V.ref p] ∧ (SqL K H p ys ∨ SqT K H p ys) ∧ ∀ l, H l = none → Q (.ref l) (upd H l (.lst ys))
def rTupleOf (K : PySem.W.Frag) : List V → Hp → VK → Prop := fun xs H Q => ∃ p ys, xs = [V.ref p] ∧ ((SqL K H p ys ∧ ∀ l, H l = none → Q (.ref l) (upd H l (.tup ys))) ∨ (SqT K H p ys ∧ Q (.ref p) H))
section
variable {X : Cx} (K : PySem.W.Frag) (e : X.K = K)
include e
theorem sl_listK : SlR X (rSlL K) := by subst e; exact sl_list
theorem sl_tupK : SlR X (rSlA K) := by subst e; exact sl_tupA
theorem ix_listK : IxR X (rIxL K) := by subst e; exact ix_list
theorem ix_tupK : IxR X (rIxT K) := by subst e; exact ix_tup
theorem ix_seqK : IxR X (rIx K) := by subst e; exact ix_seq
theorem call_lenK : CallR X (.builtin "len") (rLenA K) := by subst e; exact call_lenA
theorem cr_sumK (hc : X.calm = true) : CallR X (.builtin "sum") (rSum K) := by subst e; exact cr_sum hc
theorem cr_minK (hc : X.calm = true) : CallR X (.builtin "min") (rMin K) := by subst e; exact cr_min hc
theorem cr_maxK (hc : X.calm = true) : CallR X (.builtin "max") (rMax K) := by subst e; exact cr_max hc
theorem cr_anyK (hc : X.calm = true) : CallR X (.builtin "any") (rAny K) := by subst e; exact cr_any hc
theorem cr_allK (hc : X.calm = true) : CallR X (.builtin "all") (rAll K) := by subst e; exact cr_all hc
theorem call_isiK' : CallR X (.builtin "isinstance") (rIsi K) := by subst e; exact call_isi
theorem call_listK : CallR X (.type "list") (rListOf K) := by subst e; exact call_list_of
theorem call_tupleK : CallR X (.type "tuple") (rTupleOf K) := by subst e; exact call_tuple_of
theorem op_eqDK (hu : X.A.units + 64 < cLine) : OpR X (compareOp .Eq) (rEqD K) := by subst e; exact op_eqD hu
theorem op_neDK (hu : X.A.units + 64 < cLine) : OpR X (compareOp .NotEq) (rNeD K) := by subst e; exact op_neD hu
theorem op_ltTK (hu : X.A.units < cLine) : OpR X (compareOp .Lt) (rLtT K) := by subst e; exact op_ltT hu
theorem op_catTK : OpR X (binaryOp .Add) (rCatT K) := by subst e; exact op_catT
theorem op_inK : OpR X (compareOp .In) (rIn K false) := by subst e; exact op_in_seq
theorem op_notInK : OpR X (compareOp .NotIn) (rIn K true) := by subst e; exact op_notIn_seq
theorem pi_listK {tg l : Expr} {tl : TE} (hl : PE X l tl) : PI X tg l (iList K tl) := by subst e; exact pi_list hl
theorem pi_tupK {tg l : Expr} {tl : TE} (hl : PE X l tl) : PI X tg l (iTup K tl) := by subst e; exact pi_tup hl
theorem pg_tupK {es : List Expr} {k : Nat} {t : TGs} {pos : Pos} (n : Nat) (hc : X.calm = true) (h : PGs X es t) (hn : (assignEach es X.env).length = n := by rfl) (hst : (assignEach es X.env).findIdx? (·.1) = none := by rfl) : PG X (.Tuple es k pos) (gTup K n t) := by subst e; exact pg_tup hc h hn hst
theorem pg_lstK {es : List Expr} {k : Nat} {t : TGs} {pos : Pos} (n : Nat) (hc : X.calm = true) (h : PGs X es t) (hn : (assignEach es X.env).length = n := by rfl) (hst : (assignEach es X.env).findIdx? (·.1) = none := by rfl) : PG X (.Tuple es k pos) (gLst K n t) := by subst e; exact pg_lst hc h hn hst
end
section
variable {H : Hp} {Q : VK} {K : PySem.W.Frag} {p : Addr} {xs : List V}
theorem i_listOf (h : SqL K H p xs) (q : ∀ l, H l = none → Q (.ref l) (upd H l (.lst xs))) : rListOf K [.ref p] H Q := ⟨p, xs, rfl, .inl h, q⟩
theorem i_listOfT (h : SqT K H p xs) (q : ∀ l, H l = none → Q (.ref l) (upd H l (.lst xs))) : rListOf K [.ref p] H Q := ⟨p, xs, rfl, .inr h, q⟩
end
theorem wipe_one {σ σ1 : L2.St} {k : Nat} (e : List.set σ k none = σ1) : wipe σ [k] = σ1 := e
theorem wipe_two {σ σ1 σ2 : L2.St} {j k : Nat} (e : List.set σ k none = σ1) (e2 : List.set σ1 j none = σ2) : wipe σ [j, k] = σ2 := by
  show List.set (List.set σ k none) j none = σ2
  rw [e, e2]
theorem wipe_three {σ σ1 σ2 σ3 : L2.St} {i j k : Nat} (e : List.set σ k none = σ1) (e2 : List.set σ1 j none = σ2) (e3 : List.set σ2 i none = σ3) : wipe σ [i, j, k] = σ3 := by
  show List.set (List.set (List.set σ k none) j none) i none = σ3
  rw [e, e2, e3]
/-- the heap is let go of but for what stood at first -/
theorem forget {P : Hp → Prop} {H H1 : Hp} (s : Same H H1) (h : ∀ H', Same H H' → P H') : P H1 := h H1 s
/-- the scope of a comprehension in a comprehension -/
def relS (scope sc : Scope) : Scope := { scope with names := scope.names.map fun (n, k) => if (k == .free && sc.kind == .function && sc.names.lookup n == some .cell) then (n, .cell) else (n, k) }
/-! ### a slot set, by its number -/
theorem set_n0 {α : Type} {y x0 : α} {r : List α} : List.set (x0 :: r) 0 y = y :: r := rfl
theorem set_n1 {α : Type} {y x0 x1 : α} {r : List α} : List.set (x0 :: x1 :: r) 1 y = x0 :: y :: r := rfl
theorem set_n2 {α : Type} {y x0 x1 x2 : α} {r : List α} : List.set (x0 :: x1 :: x2 :: r) 2 y = x0 :: x1 :: y :: r := rfl
theorem set_n3 {α : Type} {y x0 x1 x2 x3 : α} {r : List α} : List.set (x0 :: x1 :: x2 :: x3 :: r) 3 y = x0 :: x1 :: x2 :: y :: r := rfl
theorem set_n4 {α : Type} {y x0 x1 x2 x3 x4 : α} {r : List α} : List.set (x0 :: x1 :: x2 :: x3 :: x4 :: r) 4 y = x0 :: x1 :: x2 :: x3 :: y :: r := rfl
theorem set_n5 {α : Type} {y x0 x1 x2 x3 x4 x5 : α} {r : List α} : List.set (x0 :: x1 :: x2 :: x3 :: x4 :: x5 :: r) 5 y = x0 :: x1 :: x2 :: x3 :: x4 :: y :: r := rfl
theorem set_n6 {α : Type} {y x0 x1 x2 x3 x4 x5 x6 : α} {r : List α} : List.set (x0 :: x1 :: x2 :: x3 :: x4 :: x5 :: x6 :: r) 6 y = x0 :: x1 :: x2 :: x3 :: x4 :: x5 :: y :: r := rfl
theorem set_n7 {α : Type} {y x0 x1 x2 x3 x4 x5 x6 x7 : α} {r : List α} : List.set (x0 :: x1 :: x2 :: x3 :: x4 :: x5 :: x6 :: x7 :: r) 7 y = x0 :: x1 :: x2 :: x3 :: x4 :: x5 :: x6 :: y :: r := rfl
theorem set_n8 {α : Type} {y x0 x1 x2 x3 x4 x5 x6 x7 x8 : α} {r : List α} : List.set (x0 :: x1 :: x2 :: x3 :: x4 :: x5 :: x6 :: x7 :: x8 :: r) 8 y = x0 :: x1 :: x2 :: x3 :: x4 :: x5 :: x6 :: x7 :: y :: r := rfl
theorem set_n9 {α : Type} {y x0 x1 x2 x3 x4 x5 x6 x7 x8 x9 : α} {r : List α} : List.set (x0 :: x1 :: x2 :: x3 :: x4 :: x5 :: x6 :: x7 :: x8 :: x9 :: r) 9 y = x0 :: x1 :: x2 :: x3 :: x4 :: x5 :: x6 :: x7 :: x8 :: y :: r := rfl
theorem set_n10 {α : Type} {y x0 x1 x2 x3 x4 x5 x6 x7 x8 x9 x10 : α} {r : List α} : List.set (x0 :: x1 :: x2 :: x3 :: x4 :: x5 :: x6 :: x7 :: x8 :: x9 :: x10 :: r) 10 y = x0 :: x1 :: x2 :: x3 :: x4 :: x5 :: x6 :: x7 :: x8 :: x9 :: y :: r := rfl
theorem set_n11 {α : Type} {y x0 x1 x2 x3 x4 x5 x6 x7 x8 x9 x10 x11 : α} {r : List α} : List.set (x0 :: x1 :: x2 :: x3 :: x4 :: x5 :: x6 :: x7 :: x8 :: x9 :: x10 :: x11 :: r) 11 y = x0 :: x1 :: x2 :: x3 :: x4 :: x5 :: x6 :: x7 :: x8 :: x9 :: x10 :: y :: r := rfl
theorem set_n12 {α : Type} {y x0 x1 x2 x3 x4 x5 x6 x7 x8 x9 x10 x11 x12 : α} {r : List α} : List.set (x0 :: x1 :: x2 :: x3 :: x4 :: x5 :: x6 :: x7 :: x8 :: x9 :: x10 :: x11 :: x12 :: r) 12 y = x0 :: x1 :: x2 :: x3 :: x4 :: x5 :: x6 :: x7 :: x8 :: x9 :: x10 :: x11 :: y :: r := rfl
theorem set_n13 {α : Type} {y x0 x1 x2 x3 x4 x5 x6 x7 x8 x9 x10 x11 x12 x13 : α} {r : List α} : List.set (x0 :: x1 :: x2 :: x3 :: x4 :: x5 :: x6 :: x7 :: x8 :: x9 :: x10 :: x11 :: x12 :: x13 :: r) 13 y = x0 :: x1 :: x2 :: x3 :: x4 :: x5 :: x6 :: x7 :: x8 :: x9 :: x10 :: x11 :: x12 :: y :: r := rfl
theorem set_n14 {α : Type} {y x0 x1 x2 x3 x4 x5 x6 x7 x8 x9 x10 x11 x12 x13 x14 : α} {r : List α} : List.set (x0 :: x1 :: x2 :: x3 :: x4 :: x5 :: x6 :: x7 :: x8 :: x9 :: x10 :: x11 :: x12 :: x13 :: x14 :: r) 14 y = x0 :: x1 :: x2 :: x3 :: x4 :: x5 :: x6 :: x7 :: x8 :: x9 :: x10 :: x11 :: x12 :: x13 :: y :: r := rfl
theorem set_n15 {α : Type} {y x0 x1 x2 x3 x4 x5 x6 x7 x8 x9 x10 x11 x12 x13 x14 x15 : α} {r : List α} : List.set (x0 :: x1 :: x2 :: x3 :: x4 :: x5 :: x6 :: x7 :: x8 :: x9 :: x10 :: x11 :: x12 :: x13 :: x14 :: x15 :: r) 15 y = x0 :: x1 :: x2 :: x3 :: x4 :: x5 :: x6 :: x7 :: x8 :: x9 :: x10 :: x11 :: x12 :: x13 :: x14 :: y :: r := rfl
theorem set_n16 {α : Type} {y x0 x1 x2 x3 x4 x5 x6 x7 x8 x9 x10 x11 x12 x13 x14 x15 x16 : α} {r : List α} : List.set (x0 :: x1 :: x2 :: x3 :: x4 :: x5 :: x6 :: x7 :: x8 :: x9 :: x10 :: x11 :: x12 :: x13 :: x14 :: x15 :: x16 :: r) 16 y = x0 :: x1 :: x2 :: x3 :: x4 :: x5 :: x6 :: x7 :: x8 :: x9 :: x10 :: x11 :: x12 :: x13 :: x14 :: x15 :: y :: r := rfl
theorem set_n17 {α : Type} {y x0 x1 x2 x3 x4 x5 x6 x7 x8 x9 x10 x11 x12 x13 x14 x15 x16 x17 : α} {r : List α} : List.set (x0 :: x1 :: x2 :: x3 :: x4 :: x5 :: x6 :: x7 :: x8 :: x9 :: x10 :: x11 :: x12 :: x13 :: x14 :: x15 :: x16 :: x17 :: r) 17 y = x0 :: x1 :: x2 :: x3 :: x4 :: x5 :: x6 :: x7 :: x8 :: x9 :: x10 :: x11 :: x12 :: x13 :: x14 :: x15 :: x16 :: y :: r := rfl
theorem set_n18 {α : Type} {y x0 x1 x2 x3 x4 x5 x6 x7 x8 x9 x10 x11 x12 x13 x14 x15 x16 x17 x18 : α} {r : List α} : List.set (x0 :: x1 :: x2 :: x3 :: x4 :: x5 :: x6 :: x7 :: x8 :: x9 :: x10 :: x11 :: x12 :: x13 :: x14 :: x15 :: x16 :: x17 :: x18 :: r) 18 y = x0 :: x1 :: x2 :: x3 :: x4 :: x5 :: x6 :: x7 :: x8 :: x9 :: x10 :: x11 :: x12 :: x13 :: x14 :: x15 :: x16 :: x17 :: y :: r := rfl
theorem set_n19 {α : Type} {y x0 x1 x2 x3 x4 x5 x6 x7 x8 x9 x10 x11 x12 x13 x14 x15 x16 x17 x18 x19 : α} {r : List α} : List.set (x0 :: x1 :: x2 :: x3 :: x4 :: x5 :: x6 :: x7 :: x8 :: x9 :: x10 :: x11 :: x12 :: x13 :: x14 :: x15 :: x16 :: x17 :: x18 :: x19 :: r) 19 y = x0 :: x1 :: x2 :: x3 :: x4 :: x5 :: x6 :: x7 :: x8 :: x9 :: x10 :: x11 :: x12 :: x13 :: x14 :: x15 :: x16 :: x17 :: x18 :: y :: r := rfl
theorem set_n20 {α : Type} {y x0 x1 x2 x3 x4 x5 x6 x7 x8 x9 x10 x11 x12 x13 x14 x15 x16 x17 x18 x19 x20 : α} {r : List α} : List.set (x0 :: x1 :: x2 :: x3 :: x4 :: x5 :: x6 :: x7 :: x8 :: x9 :: x10 :: x11 :: x12 :: x13 :: x14 :: x15 :: x16 :: x17 :: x18 :: x19 :: x20 :: r) 20 y = x0 :: x1 :: x2 :: x3 :: x4 :: x5 :: x6 :: x7 :: x8 :: x9 :: x10 :: x11 :: x12 :: x13 :: x14 :: x15 :: x16 :: x17 :: x18 :: x19 :: y :: r := rfl
theorem set_n21 {α : Type} {y x0 x1 x2 x3 x4 x5 x6 x7 x8 x9 x10 x11 x12 x13 x14 x15 x16 x17 x18 x19 x20 x21 : α} {r : List α} : List.set (x0 :: x1 :: x2 :: x3 :: x4 :: x5 :: x6 :: x7 :: x8 :: x9 :: x10 :: x11 :: x12 :: x13 :: x14 :: x15 :: x16 :: x17 :: x18 :: x19 :: x20 :: x21 :: r) 21 y = x0 :: x1 :: x2 :: x3 :: x4 :: x5 :: x6 :: x7 :: x8 :: x9 :: x10 :: x11 :: x12 :: x13 :: x14 :: x15 :: x16 :: x17 :: x18 :: x19 :: x20 :: y :: r := rfl
theorem set_n22 {α : Type} {y x0 x1 x2 x3 x4 x5 x6 x7 x8 x9 x10 x11 x12 x13 x14 x15 x16 x17 x18 x19 x20 x21 x22 : α} {r : List α} : List.set (x0 :: x1 :: x2 :: x3 :: x4 :: x5 :: x6 :: x7 :: x8 :: x9 :: x10 :: x11 :: x12 :: x13 :: x14 :: x15 :: x16 :: x17 :: x18 :: x19 :: x20 :: x21 :: x22 :: r) 22 y = x0 :: x1 :: x2 :: x3 :: x4 :: x5 :: x6 :: x7 :: x8 :: x9 :: x10 :: x11 :: x12 :: x13 :: x14 :: x15 :: x16 :: x17 :: x18 :: x19 :: x20 :: x21 :: y :: r := rfl
theorem set_n23 {α : Type} {y x0 x1 x2 x3 x4 x5 x6 x7 x8 x9 x10 x11 x12 x13 x14 x15 x16 x17 x18 x19 x20 x21 x22 x23 : α} {r : List α} : List.set (x0 :: x1 :: x2 :: x3 :: x4 :: x5 :: x6 :: x7 :: x8 :: x9 :: x10 :: x11 :: x12 :: x13 :: x14 :: x15 :: x16 :: x17 :: x18 :: x19 :: x20 :: x21 :: x22 :: x23 :: r) 23 y = x0 :: x1 :: x2 :: x3 :: x4 :: x5 :: x6 :: x7 :: x8 :: x9 :: x10 :: x11 :: x12 :: x13 :: x14 :: x15 :: x16 :: x17 :: x18 :: x19 :: x20 :: x21 :: x22 :: y :: r := rfl
theorem set_n24 {α : Type} {y x0 x1 x2 x3 x4 x5 x6 x7 x8 x9 x10 x11 x12 x13 x14 x15 x16 x17 x18 x19 x20 x21 x22 x23 x24 : α} {r : List α} : List.set (x0 :: x1 :: x2 :: x3 :: x4 :: x5 :: x6 :: x7 :: x8 :: x9 :: x10 :: x11 :: x12 :: x13 :: x14 :: x15 :: x16 :: x17 :: x18 :: x19 :: x20 :: x21 :: x22 :: x23 :: x24 :: r) 24 y = x0 :: x1 :: x2 :: x3 :: x4 :: x5 :: x6 :: x7 :: x8 :: x9 :: x10 :: x11 :: x12 :: x13 :: x14 :: x15 :: x16 :: x17 :: x18 :: x19 :: x20 :: x21 :: x22 :: x23 :: y :: r := rfl
theorem set_n25 {α : Type} {y x0 x1 x2 x3 x4 x5 x6 x7 x8 x9 x10 x11 x12 x13 x14 x15 x16 x17 x18 x19 x20 x21 x22 x23 x24 x25 : α} {r : List α} : List.set (x0 :: x1 :: x2 :: x3 :: x4 :: x5 :: x6 :: x7 :: x8 :: x9 :: x10 :: x11 :: x12 :: x13 :: x14 :: x15 :: x16 :: x17 :: x18 :: x19 :: x20 :: x21 :: x22 :: x23 :: x24 :: x25 :: r) 25 y = x0 :: x1 :: x2 :: x3 :: x4 :: x5 :: x6 :: x7 :: x8 :: x9 :: x10 :: x11 :: x12 :: x13 :: x14 :: x15 :: x16 :: x17 :: x18 :: x19 :: x20 :: x21 :: x22 :: x23 :: x24 :: y :: r := rfl
theorem set_n26 {α : Type} {y x0 x1 x2 x3 x4 x5 x6 x7 x8 x9 x10 x11 x12 x13 x14 x15 x16 x17 x18 x19 x20 x21 x22 x23 x24 x25 x26 : α} {r : List α} : List.set (x0 :: x1 :: x2 :: x3 :: x4 :: x5 :: x6 :: x7 :: x8 :: x9 :: x10 :: x11 :: x12 :: x13 :: x14 :: x15 :: x16 :: x17 :: x18 :: x19 :: x20 :: x21 :: x22 :: x23 :: x24 :: x25 :: x26 :: r) 26 y = x0 :: x1 :: x2 :: x3 :: x4 :: x5 :: x6 :: x7 :: x8 :: x9 :: x10 :: x11 :: x12 :: x13 :: x14 :: x15 :: x16 :: x17 :: x18 :: x19 :: x20 :: x21 :: x22 :: x23 :: x24 :: x25 :: y :: r := rfl
theorem set_n27 {α : Type} {y x0 x1 x2 x3 x4 x5 x6 x7 x8 x9 x10 x11 x12 x13 x14 x15 x16 x17 x18 x19 x20 x21 x22 x23 x24 x25 x26 x27 : α} {r : List α} : List.set (x0 :: x1 :: x2 :: x3 :: x4 :: x5 :: x6 :: x7 :: x8 :: x9 :: x10 :: x11 :: x12 :: x13 :: x14 :: x15 :: x16 :: x17 :: x18 :: x19 :: x20 :: x21 :: x22 :: x23 :: x24 :: x25 :: x26 :: x27 :: r) 27 y = x0 :: x1 :: x2 :: x3 :: x4 :: x5 :: x6 :: x7 :: x8 :: x9 :: x10 :: x11 :: x12 :: x13 :: x14 :: x15 :: x16 :: x17 :: x18 :: x19 :: x20 :: x21 :: x22 :: x23 :: x24 :: x25 :: x26 :: y :: r := rfl
theorem set_n28 {α : Type} {y x0 x1 x2 x3 x4 x5 x6 x7 x8 x9 x10 x11 x12 x13 x14 x15 x16 x17 x18 x19 x20 x21 x22 x23 x24 x25 x26 x27 x28 : α} {r : List α} : List.set (x0 :: x1 :: x2 :: x3 :: x4 :: x5 :: x6 :: x7 :: x8 :: x9 :: x10 :: x11 :: x12 :: x13 :: x14 :: x15 :: x16 :: x17 :: x18 :: x19 :: x20 :: x21 :: x22 :: x23 :: x24 :: x25 :: x26 :: x27 :: x28 :: r) 28 y = x0 :: x1 :: x2 :: x3 :: x4 :: x5 :: x6 :: x7 :: x8 :: x9 :: x10 :: x11 :: x12 :: x13 :: x14 :: x15 :: x16 :: x17 :: x18 :: x19 :: x20 :: x21 :: x22 :: x23 :: x24 :: x25 :: x26 :: x27 :: y :: r := rfl
theorem set_n29 {α : Type} {y x0 x1 x2 x3 x4 x5 x6 x7 x8 x9 x10 x11 x12 x13 x14 x15 x16 x17 x18 x19 x20 x21 x22 x23 x24 x25 x26 x27 x28 x29 : α} {r : List α} : List.set (x0 :: x1 :: x2 :: x3 :: x4 :: x5 :: x6 :: x7 :: x8 :: x9 :: x10 :: x11 :: x12 :: x13 :: x14 :: x15 :: x16 :: x17 :: x18 :: x19 :: x20 :: x21 :: x22 :: x23 :: x24 :: x25 :: x26 :: x27 :: x28 :: x29 :: r) 29 y = x0 :: x1 :: x2 :: x3 :: x4 :: x5 :: x6 :: x7 :: x8 :: x9 :: x10 :: x11 :: x12 :: x13 :: x14 :: x15 :: x16 :: x17 :: x18 :: x19 :: x20 :: x21 :: x22 :: x23 :: x24 :: x25 :: x26 :: x27 :: x28 :: y :: r := rfl
end Hf
/-! ## sums of whole numbers -/
namespace Hf
/-- the sum of f 0 .. f (n-1) -/
def sumN : Nat → (Nat → Int) → Int
  | 0, _ => 0
  | n + 1, f => sumN n f + f n
theorem sumN_congr {n : Nat} {f g : Nat → Int} (h : ∀ i, i < n → f i = g i) : sumN n f = sumN n g := by
  induction n with
  | zero => rfl
  | succ n ih => rw [sumN, sumN, ih fun i hi => h i (by omega), h n (by omega)]
theorem sumN_zero (n : Nat) : sumN n (fun _ => 0) = 0 := by
  induction n with
  | zero => rfl
  | succ n ih => rw [sumN, ih]; rfl
theorem sumN_zero' {n : Nat} {f : Nat → Int} (h : ∀ i, i < n → f i = 0) : sumN n f = 0 := by
  rw [sumN_congr h, sumN_zero]
theorem sumN_lin (n : Nat) (x y : Int) (f g : Nat → Int) : sumN n (fun i => x * f i + y * g i) = x * sumN n f + y * sumN n g := by
  induction n with
  | zero => simp [sumN]
  | succ n ih => rw [sumN, sumN, sumN, ih]; grind
theorem sumN_mul (n : Nat) (x : Int) (f : Nat → Int) : sumN n (fun i => x * f i) = x * sumN n f := by
  induction n with
  | zero => simp [sumN]
  | succ n ih => rw [sumN, sumN, ih]; grind
theorem sumN_add (n : Nat) (f g : Nat → Int) : sumN n (fun i => f i + g i) = sumN n f + sumN n g := by
  induction n with
  | zero => simp [sumN]
  | succ n ih => rw [sumN, sumN, sumN, ih]; grind
theorem sumN_sub (n : Nat) (f g : Nat → Int) : sumN n (fun i => f i - g i) = sumN n f - sumN n g := by
  induction n with
  | zero => simp [sumN]
  | succ n ih => rw [sumN, sumN, sumN, ih]; grind
theorem sumN_one {n k : Nat} {f : Nat → Int} (hk : k < n) (h : ∀ i, i < n → i ≠ k → f i = 0) : sumN n f = f k := by
  induction n with
  | zero => omega
  | succ n ih =>
    rw [sumN]
    by_cases c : k = n
    · subst c
      rw [sumN_zero' fun i hi => h i (by omega) (by omega)]
      omega
    · rw [ih (by omega) fun i hi hc => h i (by omega) hc, h n (by omega) (by omega)]
      omega
theorem sumN_two {n k l : Nat} {f : Nat → Int} (hk : k < n) (hl : l < n) (hkl : k ≠ l) (h : ∀ i, i < n → i ≠ k → i ≠ l → f i = 0) : sumN n f = f k + f l := by
  induction n with
  | zero => omega
  | succ n ih =>
    rw [sumN]
    by_cases c : k = n
    · subst c
      rw [sumN_one (k := l) (by omega) fun i hi hc => h i (by omega) (by omega) hc]
      omega
    · by_cases c2 : l = n
      · subst c2
        rw [sumN_one (k := k) (by omega) fun i hi hc => h i (by omega) hc (by omega)]
      · rw [ih (by omega) (by omega) fun i hi hc hd => h i (by omega) hc hd, h n (by omega) (by omega) (by omega)]
        omega
theorem sumN_swap (n m : Nat) (f : Nat → Nat → Int) : sumN n (fun i => sumN m (fun j => f i j)) = sumN m (fun j => sumN n (fun i => f i j)) := by
  induction n with
  | zero => simp [sumN, sumN_zero]
  | succ n ih =>
    rw [sumN, ih, ← sumN_add]
    exact sumN_congr fun j _ => rfl
theorem sumN_nn {n : Nat} {f : Nat → Int} (h : ∀ i, i < n → 0 ≤ f i) : 0 ≤ sumN n f := by
  induction n with
  | zero => exact Int.le_refl _
  | succ n ih =>
    rw [sumN]
    have := ih fun i hi => h i (by omega)
    have := h n (by omega)
    omega
theorem sumN_neg_ex {n : Nat} {f : Nat → Int} (h : sumN n f < 0) : ∃ i, i < n ∧ f i < 0 := by
  by_cases c : ∃ i, i < n ∧ f i < 0
  · exact c
  · have := sumN_nn (n := n) (f := f) fun i hi => by
      by_cases d : f i < 0
      · exact absurd ⟨i, hi, d⟩ c
      · omega
    omega
theorem sumN_le {n : Nat} {f g : Nat → Int} (h : ∀ i, i < n → f i ≤ g i) : sumN n f ≤ sumN n g := by
  induction n with
  | zero => exact Int.le_refl _
  | succ n ih =>
    rw [sumN, sumN]
    have := ih fun i hi => h i (by omega)
    have := h n (by omega)
    omega
theorem sumN_const (n : Nat) (x : Int) : sumN n (fun _ => x) = n * x := by
  induction n with
  | zero => simp [sumN]
  | succ n ih => rw [sumN, ih]; grind
theorem sumN_range (n : Nat) (f : Nat → Int) : ((List.range n).map f).sum = sumN n f := by
  induction n with
  | zero => rfl
  | succ n ih => rw [List.range_succ, List.map_append, List.sum_append, ih]; simp [sumN]
theorem sumN_head (n : Nat) (f : Nat → Int) : sumN (n + 1) f = f 0 + sumN n (fun k => f (k + 1)) := by
  induction n with
  | zero => simp [sumN]
  | succ n ih => rw [sumN, ih, sumN]; omega
theorem sumN_rot1 (n : Nat) (f : Nat → Int) : sumN n (fun k => f ((k + 1) % n)) = sumN n f := by
  cases n with
  | zero => rfl
  | succ n =>
    rw [sumN_head n f, sumN, Nat.mod_self, sumN_congr (g := fun k => f (k + 1)) fun i hi => by rw [Nat.mod_eq_of_lt (by omega)]]
    omega
theorem sumN_rot (n t : Nat) (f : Nat → Int) : sumN n (fun k => f ((k + t) % n)) = sumN n f := by
  induction t generalizing f with
  | zero => exact sumN_congr fun i hi => by rw [Nat.add_zero, Nat.mod_eq_of_lt hi]
  | succ t ih =>
    have e : (fun k => f ((k + (t + 1)) % n)) = fun k => (fun x => f ((x + 1) % n)) ((k + t) % n) := by
      funext k
      show _ = f (((k + t) % n + 1) % n)
      rw [Nat.mod_add_mod, Nat.add_assoc]
    rw [e, ih fun x => f ((x + 1) % n), sumN_rot1]
/-- all turnings of the one against all of the other -/
theorem sumN_turns (n : Nat) (g : Nat → Nat → Int) : sumN n (fun k => sumN n fun j => sumN n fun t => g ((k + t) % n) ((j + t) % n)) = n * sumN n (fun a => sumN n fun b => g a b) := by
  have e1 : (fun k => sumN n fun j => sumN n fun t => g ((k + t) % n) ((j + t) % n)) = fun k => sumN n fun t => sumN n fun b => g ((k + t) % n) b := by
    funext k
    rw [sumN_swap]
    exact sumN_congr fun t _ => sumN_rot n t fun b => g ((k + t) % n) b
  rw [e1, sumN_swap, sumN_congr (g := fun _ => sumN n (fun a => sumN n fun b => g a b)) (fun t _ => sumN_rot n t fun a => sumN n fun b => g a b), sumN_const]
theorem sumN_list {α : Type} (f : α → Int) (x : α) : ∀ ms : List α, (ms.map f).sum = sumN ms.length fun i => f ((ms[i]?).getD x)
  | [] => rfl
  | y :: ms => by
    rw [List.map_cons, List.sum_cons, List.length_cons, sumN_head, sumN_list f x ms]
    rfl
end Hf
/-! ## exceptions: caught, noted and asked behind the suite -/
namespace Hf
open PySem PySem.Spec PyProof.Rows L2
/-- at a: a caught exception of the class cls, its dict d -/
def exHO (a : Addr) (cls : Value) (d : Option Addr) : HO := .ext fun h => ∃ oe vs, h.get? a = some oe ∧ Zc cls d oe ∧ oe.data = .fields vs
theorem exHO_ok {P : Program} {w : World} {H : Hp} {h : Heap} {a : Addr} {cls : Value} {d : Option Addr} {oe : Obj} {vs : Array Value} (e : h.get? a = some oe) (hz : Zc cls d oe) (hd : oe.data = .fields vs) : ObjOk P w H h a (exHO a cls d) :=
  ⟨⟨oe, vs, e, hz, hd⟩, ⟨oe, e⟩, fun _ _ ⟨o, v, x, y, z⟩ k => ⟨o, v, k _ x, y, z⟩⟩
theorem exHO_at {P : Program} {w : World} {H : Hp} {h : Heap} {a : Addr} {cls : Value} {d : Option Addr} (ok : HOk P w H h) (e : H a = some (exHO a cls d)) : ∃ oe vs, h.get? a = some oe ∧ Zc cls d oe ∧ oe.data = .fields vs := by
  have x : ObjOk P w H h a (.ext fun h => ∃ oe vs, h.get? a = some oe ∧ Zc cls d oe ∧ oe.data = .fields vs) := ok a _ e
  exact x.1
/-- a pinned object of ours is taken up -/
theorem track {X : Cx} {pins : List (Addr × Obj)} {σ : L2.St} {H : Hp} {s : Shared} {a : Addr} {oe : Obj} {cls : Value} {d : Option Addr} {vs : Array Value} (I : Inv X ((a, oe) :: pins) σ H s) (hz : Zc cls d oe) (hd : oe.data = .fields vs)
    (n0 : X.s_0.heap.get? a = none) (np : ∀ p ∈ X.pn ++ pins, p.1 ≠ a) : Inv X pins σ (L2.upd H a (exHO a cls d)) s := by
  obtain ⟨ga, na, nL, nF, nc⟩ := I.pin (a, oe) (List.mem_append_right _ List.mem_cons_self)
  dsimp only at ga na nL nF nc
  have ncell : ∀ x c, X.env.cells.lookup x = some c → c ≠ a := fun x c e z => by
    obtain ⟨v, o, ho, hdc⟩ := I.cell x c e
    rw [z, ga] at ho
    cases ho
    exact nc _ hdc
  refine ⟨I.ok, I.os, I.bare, ⟨I.base.keep, I.base.slot, fun b o e n hx => ?_, I.base.there, fun b xs e => ?_, fun b o u e => ?_, fun b ps e => ?_⟩, I.loc, I.cell, ?_, fun x c e => ?_, fun p hp => ?_, fun b o e => ?_, I.len⟩
  · rw [upd_ne (fun z => by rw [z, n0] at e; cases e)]
    exact I.base.free b o e n hx
  · have q := I.base.tups b xs e
    rw [upd_ne (ne_of_none q na)]
    exact q
  · have q := I.base.frzs b o u e
    rw [upd_ne (ne_of_none q na)]
    exact q
  · obtain ⟨m, q⟩ := I.base.tbls b ps e
    exact ⟨m, by rw [upd_ne (ne_of_none q na)]; exact q⟩
  · rw [upd_ne (Ne.symm nL)]
    exact I.free
  · rw [upd_ne (ncell x c e)]
    exact I.freeC x c e
  · obtain ⟨e, n, r⟩ := I.pin p (by
      rcases List.mem_append.mp hp with h | h
      · exact List.mem_append_left _ h
      · exact List.mem_append_right _ (List.mem_cons_of_mem _ h))
    exact ⟨e, by rw [upd_ne (np p hp)]; exact n, r⟩
  · by_cases hb : b = a
    · subst hb
      rw [upd_same] at e
      cases e
      exact exHO_ok ga hz hd
    · rw [upd_ne hb] at e
      refine (I.hok b o e).stay (fun c u _ q => q) (fun c q => ?_) fun c xs q => ?_
      · rw [upd_ne (ne_of_none q na)]
        exact q
      · rw [upd_ne (ne_of_none q na)]
        exact q
/-- what follows the suite -/
def nxAs (i : Nat) (a : Addr) (cls : Value) (d : Option Addr) (nx : L2.St → Hp → Prop) : L2.St → Hp → Prop := fun σ' H' => nx (σ'.set i none) (L2.upd H' a (exHO a cls d))
def rtAs (a : Addr) (cls : Value) (d : Option Addr) (rt : VK) : VK := fun v H' => rt v (L2.upd H' a (exHO a cls d))
/-- what the clause 'except x as n' wishes of an exception of the body -/
def wAsT (K : PySem.W.Frag) (c : Value) (i : Nat) (ts : TS) (Wout : WX) (D : Ends) : WX := fun cls d σ H =>
  ∃ b, PySem.W.exmOne K cls c = some b ∧ (b = true → ∀ a, H a = none → ts { nx := nxAs i a cls d D.nx, rt := rtAs a cls d D.rt, bk := nxAs i a cls d D.bk, ct := nxAs i a cls d D.ct } (σ.set i (some (.ref a))) H) ∧
    (b = false → Wout cls d σ H)
def tTryAs (K : PySem.W.Frag) (c : Value) (i : Nat) (ts : TS) (Wout : WX) (tb : WX → TS) : TS := fun D σ H => tb (wAsT K c i ts Wout D) D σ H
section
variable {X : Cx} {x n : Str} {c : Value} {i : Nat} {body suite : List Stmt} {b₀ : Stmt} {np pos pos' : Pos} {tb : WX → TS} {ts : TS} {Wout : WX}
theorem ps_try_asT (hs : X.stack = X.env :: X.outer) (hf : X.env.frame = some X.env.locals) (hex : X.ex = []) (hN : X.N.Nodup) (hi : X.N[i]? = some n) (hln : X.env.kindOf n = some .local) (hc : Names X x c) (tk : Takes X Wout)
    (hb : ∀ (W : WX) (pn : List (Addr × Obj)) (xe : Value → Shared → Prop), Takes (X.tr pn xe) W → PassesOwn (model X.prog X.w) X.A X.env xe → PSs (X.tr pn xe) body (tb W))
    (hsu : ∀ (a : Addr) (oe : Obj) (pn : List (Addr × Obj)), PSs (X.suite a ((a, oe) :: pn)) (b₀ :: suite) ts) :
    PS X (.Try body [.ExceptHandler (some (.Name x np)) (some n) (b₀ :: suite) pos'] [] [] pos) (tTryAs X.K c i ts Wout tb) := by
  refine ⟨fun pins s σ H D I h => ?_⟩
  have ok := I.ok
  have hfr : X.A.frames = some (X.env :: X.outer) := by rw [ok.frames, hs]
  have hloc : Loc X.env.scope n := .inl hln
  refine wpAny_Try_except ?_
  refine wpAny_mono ((hb (wAsT X.K c i ts Wout D) (X.pn ++ pins) (fun e s₁ => wpAny (model X.prog X.w) X.A (noteFrame e X.env) (fun _ s₂ => wpAny (model X.prog X.w) X.A (setFlight e none) (fun _ s₃ =>
    wpAny (model X.prog X.w) X.A (handleBy e X.env [.ExceptHandler (some (.Name x np)) (some n) (b₀ :: suite) pos']) (SP X pins D) X.xe s₃) X.xe s₂) X.xe s₁) (fun u s' xx => ?_) PassesOwn.looking).run [] s σ H D (I.toTry _) h) (fun f s1 hsp => ?_) (fun e s1 he => he)
  · obtain ⟨a, B, sI, pins', σ', H', cls, d, rfl, J', nb, up, sky, na, os, ag, b, hb1, hyes, hno⟩ := xx
    have J : Inv X pins σ' H' sI := J'.ofTry ok
    have sky' : Sky B (X.env :: X.outer) a (Zc cls d) X.env.locals s'.heap := by rw [← hs]; exact sky
    show wpAny (model X.prog X.w) X.A (noteFrame (.ref a) X.env) _ _ _
    refine Sky.land Zc.steady hfr hf sky' fun h3 fl3 up3 => ?_
    have J3 : Inv X pins σ' H' { s' with heap := h3 } := J.landed nb fl3.1 (up.trans up3) os ag
    obtain ⟨oe3, vs3, he3, hz3, hd3⟩ := fl3.there
    have notFr : ∀ {h : Heap} {o : Obj} {vs : Array Value}, h.FunFrames B (X.env :: X.outer) → h.get? a = some o → o.data = .fields vs → a ∉ frs (X.env :: X.outer) := fun {h o vs} ff e dd hm => by
      obtain ⟨_, o', e', hnf⟩ := ff.mem hm
      rw [e] at e'; cases e'
      exact hnf _ dd
    have nfr := notFr fl3.2.2.1 he3 hd3
    have nL : a ≠ X.env.locals := fun z => nfr (List.mem_filterMap.mpr ⟨X.env, List.mem_cons_self, by rw [hf, z]⟩)
    have nF : a ∉ X.fs := fun hm => by
      obtain ⟨e, he, q⟩ := List.mem_filterMap.mp hm
      exact nfr (List.mem_filterMap.mpr ⟨e, List.mem_cons_of_mem _ he, q⟩)
    have nI : sI.heap.get? a = none := by
      cases q : sI.heap.get? a with
      | none => rfl
      | some o =>
        have z := nb a o q (by rw [hs]; exact nfr)
        rw [fl3.2.1] at z
        cases z
    have n0 : X.s_0.heap.get? a = none := by
      cases q : X.s_0.heap.get? a with
      | none => rfl
      | some o =>
        obtain ⟨o', z⟩ := J.base.there a o q (by rw [hex]; exact List.not_mem_nil)
        rw [nI] at z
        cases z
    have npin : ∀ p ∈ X.pn ++ pins, p.1 ≠ a := fun p hp z => by
      have q := (J.pin p hp).1
      rw [z, nI] at q
      cases q
    have S3 := J3.suite he3 hd3 na nL nF
    refine wpAny_handleBy_cons (codeAny_handlers_test ?_) (by intro q; cases q)
    have LT : PySem.W.Looks (model X.prog X.w) h3 (typeOf (.ref a)) cls := fun A Q E s k q => wpAny_typeOf_ref (k _ _ he3) (by rw [hz3.1]; exact q)
    have LM := PySem.W.exm_one (M := model X.prog X.w) (J3.kIn) LT hb1
    have test : ∀ {Q : Value → Shared → Prop} {E : Value → Shared → Prop}, Q c { s' with heap := h3 } → wpAny (model X.prog X.w) (X.A.mark (some (.ref a))) (eval (.Name x np) X.env) Q E { s' with heap := h3 } := fun {Q E} q => by
      obtain ⟨hg, hdbg, hm | ⟨hm, hv, hnn⟩⟩ := hc
      · exact ld_glob (X := X.suite a ((a, oe3) :: (X.pn ++ pins))) S3 hg hm q hdbg
      · exact ld_blt (X := X.suite a ((a, oe3) :: (X.pn ++ pins))) S3 hg hm hv q hnn hdbg
    refine test (LM.here ?_)
    cases b with
    | true =>
      refine codeAny_handlers_suite_as ?_
      refine HandSPX.lands_againZ fl3 fun h4 fl4 up4 => ?_
      have J4 : Inv X pins σ' H' { s' with heap := h4 } := J.landed nb fl4.1 ((up.trans up3).trans up4) os ag
      obtain ⟨oe4, vs4, he4, hz4, hd4⟩ := fl4.there
      have S4 := J4.suite he4 hd4 na nL nF
      refine store_ok (X := X.suite a ((a, oe4) :: (X.pn ++ pins))) (v := .ref a) S4 hN hi hloc rfl (fun s5 S5 => ?_) (.inr hln)
      refine wpAny_mono ((hsu a oe4 (X.pn ++ pins)).run [] s5 _ H' _ S5 (hyes rfl a na)) (fun f s6 hsp => ?_) (fun _ _ z => False.elim z)
      have end_ : ∀ {σ6 : L2.St} {H6 : Hp} {Q : Shared → Prop}, Inv (X.suite a ((a, oe4) :: (X.pn ++ pins))) [] σ6 H6 s6 → (∀ s7, Inv X pins (σ6.set i none) (L2.upd H6 a (exHO a cls d)) s7 → Q s7) →
          wpAny (model X.prog X.w) X.A (do bindName X.env n .none; unbindBehindTheSuite X.env n pos') (fun _ s7 => Q s7) X.xe s6 := fun {σ6 H6 Q} S6 hq => by
        have S7 : Inv X ((a, oe4) :: pins) σ6 H6 s6 := ⟨ok, S6.os, S6.bare, S6.base, S6.loc, S6.cell, S6.free, S6.freeC, fun p hp => S6.pin p (by
          show p ∈ (a, oe4) :: (X.pn ++ pins) ++ []
          rw [List.append_nil]
          rcases List.mem_append.mp hp with h | h
          · exact List.mem_cons_of_mem _ (List.mem_append_left _ h)
          · rcases List.mem_cons.mp h with h | h
            · rw [h]
              exact List.mem_cons_self
            · exact List.mem_cons_of_mem _ (List.mem_append_right _ h)), S6.hok, S6.len⟩
        exact gone_ok S7 hN hi hln fun s7 J7 => hq s7 (track J7 hz4 hd4 n0 npin)
      cases f with
      | next =>
        obtain ⟨σ6, H6, S6, q6⟩ := hsp
        exact end_ S6 fun s7 J7 => ⟨_, _, J7, q6⟩
      | brk =>
        obtain ⟨σ6, H6, S6, q6⟩ := hsp
        exact end_ S6 fun s7 J7 => ⟨_, _, J7, q6⟩
      | cont =>
        obtain ⟨σ6, H6, S6, q6⟩ := hsp
        exact end_ S6 fun s7 J7 => ⟨_, _, J7, q6⟩
      | ret u =>
        obtain ⟨v6, σ6, H6, S6, r6, q6⟩ := hsp
        exact end_ S6 fun s7 J7 => ⟨_, _, _, J7, r6, q6⟩
    | false =>
      show wpAny _ X.A (handleBy (.ref a) X.env []) _ _ _
      refine wpAny_handleBy_nil ?_
      obtain ⟨k1, k2, k3, oe, vs, T, oT, ts', he, hz, hd, h1, hr⟩ := id fl3
      unfold PySem.passOn
      refine wpAny_bind (wpAny_field he hd h1 ?_)
      rw [if_neg (show ¬ ((Value.ref T == Value.none) = true) from by simp)]
      have fin : wpAny (model X.prog X.w) X.A (setFlight (.ref a) X.env.frame) (fun _ s4 => wpAny (model X.prog X.w) X.A (throw (.ref a) : Sem Flow) (SP X pins D) X.xe s4) X.xe { s' with heap := h3 } := by
        rw [hf]
        refine HandSPX.setFlight_upZ fl3 fun h4 hh4 up4 => wpAny_throw (tk _ _ ?_)
        exact ⟨a, B, sI, pins, σ', H', cls, d, rfl, J, nb, (up.trans up3).trans up4, .inr (.inr (by rw [hs]; exact hh4)), na, os, ag, hno rfl⟩
      first
        | exact wpAny_bind (wpAny_pure (wpAny_bind fin))
        | exact wpAny_bind fin
  · cases f with
    | next =>
      obtain ⟨σ', H', J', q⟩ := hsp
      exact wpAny_execs_nil ⟨σ', H', J'.ofTry ok, q⟩
    | brk =>
      obtain ⟨σ', H', J', q⟩ := hsp
      exact ⟨σ', H', J'.ofTry ok, q⟩
    | cont =>
      obtain ⟨σ', H', J', q⟩ := hsp
      exact ⟨σ', H', J'.ofTry ok, q⟩
    | ret u =>
      obtain ⟨v, σ', H', J', r, q⟩ := hsp
      exact ⟨v, σ', H', J'.ofTry ok, r, q⟩
end
/-! ### isinstance -/
/-- isinstance(x, c): x a tracked exception, or any other thing -/
def rIsX (K : PySem.W.Frag) : List V → Hp → VK → Prop := fun xs H Q =>
  (∃ (a D : Addr) (d : Option Addr) (c : V) (cv : Value) (b : Bool), xs = [.ref a, c] ∧ H a = some (exHO a (.ref D) d) ∧ (∀ dd, d = some dd → ∃ fs, H dd = some (.xd fs)) ∧ ExcC K D ∧ (∀ u, RelV c u → u = cv) ∧ PySem.W.kitOne K (.ref D) cv = some b ∧ Q (.bl b) H) ∨ rIsi K xs H Q
theorem call_isX {X : Cx} : CallR X (.builtin "isinstance") (rIsX X.K) := by
  intro pins s σ H xs us Q I r h
  rcases h with ⟨a, D, d, c, cv, b, rfl, ha, hdd, C, hcv, e, q⟩ | h
  · cases r with
    | cons rx rr =>
      cases rr with
      | cons rt rr =>
        cases rr
        cases rx
        have ec := hcv _ rt
        subst ec
        obtain ⟨oe, vs, hget, hz, hv⟩ := exHO_at I.hok ha
        obtain ⟨od, J⟩ : ∃ od, PySem.W.InstAt s.heap a oe D od := by
          cases d with
          | none =>
            obtain ⟨oc, od, oda, osl⟩ := oe
            obtain ⟨h1, h2⟩ := hz
            dsimp only at h1 h2 hv
            subst h1 h2 hv
            exact ⟨none, hget, rfl, rfl, trivial⟩
          | some dd =>
            obtain ⟨fs, hfs⟩ := hdd dd rfl
            have x : ObjOk X.prog X.w H s.heap dd (.xd fs) := I.hok dd _ hfs
            obtain ⟨mA, ⟨o, es, ep, ho, _⟩, _⟩ := x
            obtain ⟨oc, od, oda, osl⟩ := oe
            obtain ⟨h1, h2⟩ := hz
            dsimp only at h1 h2 hv
            subst h1 h2 hv
            exact ⟨some o, hget, rfl, rfl, ho⟩
        have hcl : (PySem.W.clsIn X.K D).isSome = true := by
          obtain ⟨cd, hc, _⟩ := PySem.W.any_some C.hd
          rw [hc]
          rfl
        exact PySem.W.kia_one (PySem.W.kitx_exc hcl C.hg C.hk C.hs C.ha C.hn C.ht C.hm) I.kIn J e (fun z => nomatch z) fun tk => ⟨.bl b, H, I.kept (t' := tk) fun _ _ z => z, rfl, q⟩
  · exact call_isi pins s σ H xs us Q I r h
theorem call_isXK {X : Cx} (K : PySem.W.Frag) (e : X.K = K) : CallR X (.builtin "isinstance") (rIsX K) := by subst e; exact call_isX
section
variable {σ σ' : L2.St} {H : Hp} {Q : VK} {nx bk ct : L2.St → Hp → Prop} {rt : VK} {K : PySem.W.Frag} {a D C : Addr} {d : Option Addr} {cls c : Value} {b : Bool} {i : Nat}
theorem i_isXR (h : H a = some (exHO a (.ref D) none)) (e : ExcC K D) (k : PySem.W.kitOne K (.ref D) (.ref C) = some b) (q : Q (.bl b) H) : rIsX K [.ref a, .ref C] H Q :=
  .inl ⟨a, D, none, .ref C, .ref C, b, rfl, h, fun _ z => (nomatch z), e, fun _ z => z, k, q⟩
theorem i_isXT {T : String} (h : H a = some (exHO a (.ref D) none)) (e : ExcC K D) (k : PySem.W.kitOne K (.ref D) (.type T) = some b) (q : Q (.bl b) H) : rIsX K [.ref a, .ty T] H Q :=
  .inl ⟨a, D, none, .ty T, .type T, b, rfl, h, fun _ z => (nomatch z), e, fun _ z => z, k, q⟩
theorem i_isXRd {dd : Addr} {fs : List (Str × V)} (h : H a = some (exHO a (.ref D) (some dd))) (hd : H dd = some (.xd fs)) (e : ExcC K D) (k : PySem.W.kitOne K (.ref D) (.ref C) = some b) (q : Q (.bl b) H) : rIsX K [.ref a, .ref C] H Q :=
  .inl ⟨a, D, some dd, .ref C, .ref C, b, rfl, h, fun x z => by cases z; exact ⟨fs, hd⟩, e, fun _ z => z, k, q⟩
theorem i_isXTd {T : String} {dd : Addr} {fs : List (Str × V)} (h : H a = some (exHO a (.ref D) (some dd))) (hd : H dd = some (.xd fs)) (e : ExcC K D) (k : PySem.W.kitOne K (.ref D) (.type T) = some b) (q : Q (.bl b) H) : rIsX K [.ref a, .ty T] H Q :=
  .inl ⟨a, D, some dd, .ty T, .type T, b, rfl, h, fun x z => by cases z; exact ⟨fs, hd⟩, e, fun _ z => z, k, q⟩
theorem i_isXi {t : String} {x : V} {c : String} (ty : TyX K H x (.type t)) (h : kitB t c = some b) (q : Q (.bl b) H) : rIsX K [x, .ty c] H Q := .inr ⟨x, .ty c, .type t, .type c, b, rfl, .ty c, ty, kit_ty h, q⟩
theorem i_isXo {t : String} {x : V} (ty : TyX K H x (.type t)) (h : PySem.W.kitOne K (.type t) (.ref C) = some b) (q : Q (.bl b) H) : rIsX K [x, .ref C] H Q := .inr ⟨x, .ref C, .type t, .ref C, b, rfl, .own C, ty, h, q⟩
/-! ### the steps -/
theorem i_callS {sp : Sp} {E : L2.St → XK} {t : TA} (h : t σ H fun vs H1 => sp vs H1 Q (E σ)) : tCallS sp E t σ H Q := h
theorem i_try {ts : TS} {Wout : WX} {tb : WX → TS} (h : tb (wAsT K c i ts Wout ⟨nx, rt, bk, ct⟩) ⟨nx, rt, bk, ct⟩ σ H) : tTryAs K c i ts Wout tb ⟨nx, rt, bk, ct⟩ σ H := h
theorem i_caught {τ : Addr → L2.St} {ts : TS} {Wout : WX} (e : PySem.W.exmOne K cls c = some true) (s : ∀ a, List.set σ i (some (V.ref a)) = τ a) (h : ∀ a, H a = none → ts ⟨nxAs i a cls d nx, rtAs a cls d rt, nxAs i a cls d bk, nxAs i a cls d ct⟩ (τ a) H) : wAsT K c i ts Wout ⟨nx, rt, bk, ct⟩ cls d σ H :=
  ⟨true, e, fun _ a na => by
    show ts _ (List.set σ i (some (V.ref a))) H
    rw [s a]
    exact h a na, fun z => nomatch z⟩
theorem i_nxAs (s : List.set σ i none = σ') (q : nx σ' (L2.upd H a (exHO a cls d))) : nxAs i a cls d nx σ H := by
  subst s
  exact q
theorem i_rtAs {v : V} (q : rt v (L2.upd H a (exHO a cls d))) : rtAs a cls d rt v H := q
theorem i_isnR (q : Q (.bl false) H) : V.non = V.non ∧ Q (.bl (decide (V.ref a = V.non))) H := ⟨rfl, by
  rw [decide_eq_false (fun z => by cases z)]
  exact q⟩
theorem i_isnN (q : Q (.bl true) H) : V.non = V.non ∧ Q (.bl (decide (V.non = V.non))) H := ⟨rfl, by
  rw [decide_eq_true rfl]
  exact q⟩
end
/-! ### what is known of the classes -/
structure ClsT (K : PySem.W.Frag) (C : Addr) : Prop where
  ic : PySem.W.isClsIn K C = true
  ty : PySem.W.typeIn K (.ref C) = some (.type "type")
section
variable {K : PySem.W.Frag} {C D : Addr} {b : Bool}
theorem kit_clsT (c : ClsT K C) {t : Value} (h : PySem.W.subIn K t (.ref C) = some b) : PySem.W.kitCls K t (.ref C) = some b := by
  have h2 : (PySem.W.clsIn K C).isSome = true := c.ic
  show (if ((PySem.W.clsIn K C).isSome && PySem.W.typeIn K (.ref C) == some (.type "type")) = true then PySem.W.subIn K t (.ref C) else none) = some b
  rw [if_pos (by rw [h2, c.ty]; rfl)]
  exact h
theorem kit_t (c : ClsT K C) (h : PySem.W.subIn K (.ref D) (.ref C) = some true) : PySem.W.kitOne K (.ref D) (.ref C) = some true := by
  unfold PySem.W.kitOne
  split
  · rfl
  · exact kit_clsT c h
theorem kit_f (c : ClsT K C) (hs : PySem.W.subIn K (.ref D) (.ref D) = some true) (h : PySem.W.subIn K (.ref D) (.ref C) = some false) : PySem.W.kitOne K (.ref D) (.ref C) = some false := by
  unfold PySem.W.kitOne
  split
  · rename_i z
    have e : D = C := Value.ref.inj (beq_iff_eq.mp z)
    subst e
    rw [hs] at h
    cases h
  · exact kit_clsT c h
theorem kit_o (c : ClsT K C) {t : String} (h : PySem.W.subIn K (.type t) (.ref C) = some b) : PySem.W.kitOne K (.type t) (.ref C) = some b := by
  unfold PySem.W.kitOne
  rw [if_neg (by rw [beq_iff_eq]; exact fun z => nomatch z)]
  exact kit_clsT c h
theorem kit_v {T : String} (h : PySem.W.subIn K (.ref D) (.type T) = some b) (hm : PySem.W.kitMeta T = true) : PySem.W.kitOne K (.ref D) (.type T) = some b := by
  unfold PySem.W.kitOne
  rw [if_neg (by rw [beq_iff_eq]; exact fun z => nomatch z)]
  show (if PySem.W.kitMeta T = true then PySem.W.subIn K (.ref D) (.type T) else none) = some b
  rw [if_pos hm]
  exact h
theorem exm_t (c : ClsT K C) (hb : PySem.W.subIn K (.ref C) (.type "BaseException") = some true) (h : PySem.W.subIn K (.ref D) (.ref C) = some b) : PySem.W.exmOne K (.ref D) (.ref C) = some b := by
  show (if (PySem.W.subIn K (.ref C) (.type "BaseException") == some true) = true then PySem.W.kitCls K (.ref D) (.ref C) else none) = some b
  rw [if_pos (by rw [hb]; rfl)]
  exact kit_clsT c h
end
/-! ### counts of flat things -/
def rCntV (K : PySem.W.Frag) : V → List V → Hp → VK → Prop := fun x xs H Q => ∃ (p : Addr) (ys : List V) (y : V), x = .ref p ∧ xs = [y] ∧ SqL K H p ys ∧ flatV y = true ∧ ys.all flatV = true ∧ Q (.int (ys.countP fun z => eqV z y : Nat)) H
theorem cnt_flat {u : Value} {y : V} (ry : RelV y u) (fy : flatV y = true) : ∀ {ys : List V} {us : List Value}, Vals ys us → ys.all flatV = true → us.countP (eqU y) = ys.countP fun z => eqV z y
  | [], [], .nil, _ => rfl
  | z :: r, _ :: _, .cons rz t, f => by
    have f1 : flatV z = true := (List.all_eq_true.mp f) z List.mem_cons_self
    have f2 : r.all flatV = true := List.all_eq_true.mpr fun q hq => (List.all_eq_true.mp f) q (List.mem_cons_of_mem _ hq)
    rw [List.countP_cons, List.countP_cons, cnt_flat ry fy t f2, eqU_of rz f1]
theorem mt_lcountV {X : Cx} : MtR X "list.count" (rCntV X.K) := by
  intro pins s σ H x xs v us Q I rx rxs h
  obtain ⟨p, ys, y, rfl, rfl, hs, fy, fys, q⟩ := h
  cases rx
  obtain ⟨u, rfl, ru⟩ := rxs.one
  obtain ⟨its, rv, ⟨⟨cls, dd, data, sl⟩, n, ho, hc, hdn, hd⟩, hlen⟩ := I.list hs
  simp only at hc hd
  subst hc hd
  refine call_meets PySem.F.slot_list_count ⟨_, ho, rfl⟩ PySem.F.entry_list_count (PySem.F.args_list_count_2 _ _)
    (SeqAt.list_countAt p its.toArray n dd sl u (eqU y)) ⟨ho, fun u' hu' => mem_eqAt ru fy rv fys u' (by simpa using hu'), ?_⟩
  have ec : its.toArray.toList.countP (eqU y) = ys.countP fun z => eqV z y := cnt_flat ru fy rv fys
  refine ⟨.int _, H, I.tok _, ⟨s.toks, ?_⟩, q⟩
  show Value.int ((its.toArray.toList.countP (eqU y) : Nat) : Int) s.toks = Value.int _ s.toks
  rw [ec]
theorem mt_lcountVK {X : Cx} (K : PySem.W.Frag) (e : X.K = K) : MtR X "list.count" (rCntV K) := by subst e; exact mt_lcountV
theorem mt_indexK {X : Cx} (K : PySem.W.Frag) (e : X.K = K) : MtR X "list.index" (rIndex K) := by subst e; exact mt_index
theorem i_cntV {K : PySem.W.Frag} {H : Hp} {Q : VK} {p : Addr} {ys : List V} {y : V} {n : Nat} (h : SqL K H p ys) (f : flatV y = true) (g : ys.all flatV = true) (e : (ys.countP fun z => eqV z y) = n) (q : Q (.int (n : Nat)) H) : rCntV K (.ref p) [y] H Q :=
  ⟨p, ys, y, rfl, rfl, h, f, g, by rw [e]; exact q⟩
/-- the first place at which y stands -/
def firstAt (y : V) : List V → Nat → Option Nat
  | [], _ => none
  | z :: r, k => if eqV z y = true then some k else firstAt y r (k + 1)
theorem firstAt_is {y : V} : ∀ {ys : List V} {k j : Nat}, firstAt y ys k = some j → k ≤ j ∧ (∃ z, ys[j - k]? = some z ∧ eqV z y = true) ∧ ∀ (m : Nat) (z' : V), m < j - k → ys[m]? = some z' → eqV z' y = false
  | [], _, _, h => nomatch h
  | z :: r, k, j, h => by
    unfold firstAt at h
    split at h
    · rename_i c
      cases h
      rw [Nat.sub_self]
      exact ⟨Nat.le_refl _, ⟨z, rfl, c⟩, fun m z' hm => absurd hm (Nat.not_lt_zero _)⟩
    · rename_i c
      obtain ⟨h1, ⟨w, h2, h3⟩, h4⟩ := firstAt_is h
      refine ⟨by omega, ⟨w, ?_, h3⟩, fun m z' hm hz => ?_⟩
      · rw [show j - k = (j - (k + 1)) + 1 by omega, List.getElem?_cons_succ]
        exact h2
      · cases m with
        | zero =>
          rw [List.getElem?_cons_zero] at hz
          cases hz
          exact Bool.eq_false_iff.mpr c
        | succ m =>
          rw [List.getElem?_cons_succ] at hz
          exact h4 m z' (by omega) hz
theorem i_index {K : PySem.W.Frag} {H : Hp} {Q : VK} {p : Addr} {ys : List V} {y : V} {j : Nat} (h : SqL K H p ys) (f : flatV y = true) (g : ys.all flatV = true) (e : firstAt y ys 0 = some j) (q : Q (.int (j : Nat)) H) : rIndex K (.ref p) [y] H Q := by
  obtain ⟨_, ⟨z, h2, h3⟩, h4⟩ := firstAt_is e
  exact ⟨p, ys, y, j, z, rfl, rfl, h, f, g, h2, h3, h4, q⟩
/-! ### comprehensions over zip, kept where the second says so -/
def pickB : List V → List Bool → List V
  | x :: xs, c :: bs => if c = true then x :: pickB xs bs else pickB xs bs
  | _, _ => []
theorem pickB_more : ∀ {xs : List V} {bs : List Bool} {i : Nat} {x : V} {c : Bool}, xs[i]? = some x → bs[i]? = some c → pickB (xs.take (i + 1)) (bs.take (i + 1)) = pickB (xs.take i) (bs.take i) ++ (if c = true then [x] else [])
  | [], _, _, _, _, h, _ => by simp at h
  | _ :: _, [], _, _, _, _, h => by simp at h
  | y :: xs, d :: bs, 0, x, c, h1, h2 => by
    simp at h1 h2
    subst h1 h2
    simp [pickB]
  | y :: xs, d :: bs, i + 1, x, c, h1, h2 => by
    rw [List.getElem?_cons_succ] at h1 h2
    have ih := pickB_more h1 h2
    simp only [List.take_succ_cons, pickB]
    cases d
    · simp only [Bool.false_eq_true, if_false]
      exact ih
    · simp only [if_true, List.cons_append]
      rw [ih]
theorem pickB_len : ∀ (xs : List V) (bs : List Bool), (pickB xs bs).length ≤ xs.length
  | [], _ => by simp [pickB]
  | _ :: _, [] => by simp [pickB]
  | y :: xs, d :: bs => by
    have := pickB_len xs bs
    unfold pickB
    split
    · simp
      omega
    · simp
      omega
section
variable {σ : L2.St} {H H1 : Hp} {Q : VK} {K : PySem.W.Frag} {D a b : Addr} {wi : TI} {g : TG} {tt : TT} {te : TE} {vs : List Nat} {xs ys : List V} {Qd : Hp → Prop}
theorem lcZ_pick (bs : List Bool) (hb : ys = bs.map V.bl) (nD : H1 D = none) (hn : xs.length ≤ 1000) (hl : xs.length = bs.length) (hx : SqL K H1 a xs) (hy : SqL K H1 b ys)
    (hs : ∀ (i : Nat) (x : V) (c : Bool) (T : Addr) H (Z : VK) (Y : Hp → Prop), xs[i]? = some x → bs[i]? = some c → Same H1 H → H T = none → (c = true → ∀ H4, Same H H4 → Z x H4) → (c = false → ∀ H4, Same H H4 → Y H4) → LcTurn g tt te vs σ (.ref T) (L2.upd H T (.tup [x, .bl c])) Z Y)
    (hd : ∀ H, Same H1 H → H D = some (.lst (pickB xs bs)) → Qd H) :
    ∃ W : Nat → Nat → Hp → Prop, (∃ m, W 0 m (L2.upd H1 D (.lst []))) ∧ ∀ i m H, W i m H →
      ((Itz K a b).stop i H ∧ Qd H) ∨ ((Itz K a b).go i H ∧ ∃ Nx : Hp → Prop, (∀ H', Nx H' → ∃ m', m' < m ∧ W (i + 1) m' H') ∧ ∀ x H', (Itz K a b).yld i H x H' → g x (wipe σ vs) H' fun σ2 H2 => wipe σ2 vs = wipe σ vs ∧ tt σ2 H2 fun b H3 =>
        if b = true then te σ2 H3 fun y H4 => ∃ acc, H4 D = some (.lst acc) ∧ acc.length < sizeLine ∧ Nx (L2.upd H4 D (.lst (acc ++ [y]))) else Nx H3) := by
  subst hb
  let P : Nat → Hp → Prop := fun i H => Same H1 H ∧ H D = some (.lst (pickB (xs.take i) (bs.take i)))
  refine ⟨fun i m H => m = xs.length - i ∧ i ≤ xs.length ∧ P i H, ⟨xs.length, by simp, Nat.zero_le _, Same.new nD, by rw [List.take_zero, List.take_zero]; exact L2.upd_same⟩, ?_⟩
  rintro i m H ⟨rfl, hi, hsame, hD⟩
  by_cases hlt : i < xs.length
  · have hx' : xs[i]? = some xs[i] := List.getElem?_eq_getElem hlt
    have hlt2 : i < bs.length := by omega
    have hy' : bs[i]? = some bs[i] := List.getElem?_eq_getElem hlt2
    have qx : SqL K H a xs := hsame.seq hx
    have qy : SqL K H b (bs.map V.bl) := hsame.seq hy
    have hy'' : (bs.map V.bl)[i]? = some (V.bl bs[i]) := by rw [List.getElem?_map, hy']; rfl
    have hz : (pickB (xs.take i) (bs.take i)).length < sizeLine := sz4' (by
      have := pickB_len (xs.take i) (bs.take i)
      rw [List.length_take] at this
      omega)
    refine .inr ⟨⟨xs, _, _, _, qx, qy, hx', hy''⟩, P (i + 1), fun H' p' => ⟨xs.length - (i + 1), by omega, rfl, hlt, p'⟩, fun v H' y => ?_⟩
    obtain ⟨T, x', y', rfl, hT, rfl, f1, f2⟩ := y
    have e1 := (f1 xs qx).symm.trans hx'
    have e2 := (f2 _ qy).symm.trans hy''
    cases e1
    cases e2
    refine hs i xs[i] bs[i] T H _ _ hx' hy' hsame hT (fun hc H4 h4 => ⟨_, h4 _ _ hD, hz, Same.mut (hsame.trans h4) nD, ?_⟩) (fun hc H4 h4 => ⟨hsame.trans h4, ?_⟩)
    · rw [L2.upd_same, pickB_more hx' hy', if_pos hc]
    · rw [h4 _ _ hD, pickB_more hx' hy', if_neg (by rw [hc]; exact Bool.false_ne_true), List.append_nil]
  · have e : i = xs.length := by omega
    subst e
    refine .inl ⟨⟨xs, _, hsame.seq hx, hsame.seq hy, Or.inl (Nat.le_refl _)⟩, hd H hsame ?_⟩
    rw [hD, List.take_length, hl, List.take_length]
theorem i_izip {ta : TA} {R : It → Hp → Prop} (h : ta σ H fun vs H1 => ∃ a b xs ys, vs = [.ref a, .ref b] ∧ SqL K H1 a xs ∧ SqL K H1 b ys ∧ R (Itz K a b) H1) : iZip K ta σ H R := h
theorem i_izip' {R : Addr → Addr → Prop} (h1 : SqL K H a xs) (h2 : SqL K H b ys) (q : R a b) : ∃ a' b' xs ys, [V.ref a, V.ref b] = [.ref a', .ref b'] ∧ SqL K H a' xs ∧ SqL K H b' ys ∧ R a' b' := ⟨a, b, xs, ys, rfl, h1, h2, q⟩
end
theorem pi_zipK {X : Cx} (K : PySem.W.Frag) (eK : X.K = K) {e e2 : Expr} {ta : TA} {p pos tpos : Pos} {elts : List Expr} {kk : Nat} (hg : Gl X "zip") (hm : X.mg "zip" = none) (ha : PA X [e, e2] ta)
    (hs : starEach [e, e2] X.env = (false, eval e X.env) :: starEach [e2] X.env := by rfl) (hpl : (backTo pos (starEach [e2] X.env)).any (·.1) = false := by rfl) :
    PI X (.Tuple elts kk tpos) (.Call (.Name "zip" p) [e, e2] [] pos) (iZip K ta) := by subst eK; exact pi_zip hg hm ha hs hpl
/-! ### lists of one text -/
theorem shaped_str1 {x : Str} (hx : PyData.strOk x = true) : SeqAt.shaped (.list [PyData.str x]) = true := by
  unfold SeqAt.shaped
  simp [PyData.canLay0, PyData.canLayAll0, PyData.depth, PyData.depthAll, hx]
theorem eqv_str1 (x : Str) : PyData.eqv (.list [PyData.str x]) (.list [PyData.str x]) = true := by simp [PyData.eqv, PyData.eqvAll]
theorem i_neS1 {K : PySem.W.Frag} {H : Hp} {Q : VK} {p r : Addr} {x : Str} (h1 : SqL K H p [.str x]) (h2 : SqL K H r [.str x]) (hx : PyData.strOk x = true) (q : Q (.bl false) H) : rNeD K (.ref p) (.ref r) H Q :=
  ⟨_, _, .lst h1 (.cons (.str x) .nil), .lst h2 (.cons (.str x) .nil), shaped_str1 hx, shaped_str1 hx, by rw [eqv_str1]; exact q⟩
theorem i_neT2 {K : PySem.W.Frag} {H : Hp} {Q : VK} {p r : Addr} {a b c d : Int} (h1 : SqT K H p [.int a, .int b]) (h2 : SqT K H r [.int c, .int d]) (q : Q (.bl (!(a == c && (b == d && true)))) H) : rNeD K (.ref p) (.ref r) H Q :=
  ⟨.tuple [.int a, .int b], .tuple [.int c, .int d], .tup h1 (.cons (.int a) (.cons (.int b) .nil)), .tup h2 (.cons (.int c) (.cons (.int d) .nil)), rfl, rfl, by
    have e : PyData.eqv (.tuple [.int a, .int b]) (.tuple [.int c, .int d]) = (a == c && (b == d && true)) := by simp [PyData.eqv, PyData.eqvAll]
    rw [e]
    exact q⟩
end Hf
/-! ## instances, their fields; dicts whose keys are tuples of ints -/
namespace Hf
open PySem PySem.Spec PyProof.Rows L2
section
variable {σ σ' : L2.St} {H : Hp} {Q : VK} {x y v : V} {i j k : Int} {nx bk ct : L2.St → Hp → Prop} {rt : VK} {K : PySem.W.Frag} {a C dx p d : Addr} {fs : List (Str × V)} {f m : Str} {sp : Sp} {E : XK} {kvs : List (List Key × V)} {r : Option V}
def FldR (K : PySem.W.Frag) (f : Str) (x : V) (H : Hp) (Q : VK) : Prop := ∃ a C dx fs v, x = V.ref a ∧ H a = some (.ins C dx fs) ∧ Cls K C ∧ NoAttr K C f ∧ fs.lookup f = some v ∧ Q v H
theorem i_fld {ta : TE} (h : ta σ H fun x H1 => FldR K f x H1 Q) : tFld K ta f σ H Q := h
theorem i_fldR (h : H a = some (.ins C dx fs)) (c : Cls K C) (n : NoAttr K C f) (l : fs.lookup f = some v) (q : Q v H) : FldR K f (.ref a) H Q := ⟨a, C, dx, fs, v, rfl, h, c, n, l, q⟩
def SetR (K : PySem.W.Frag) (f : Str) (y x : V) (H : Hp) (Z : Hp → Prop) : Prop := ∃ a C dx fs, x = V.ref a ∧ H a = some (.ins C dx fs) ∧ Cls K C ∧ NoAttr K C f ∧ fs.length < 1000 ∧ Z (upd H a (.ins C dx (putF f y fs)))
theorem i_sfld {ta tv : TE} (h : tv σ H fun y H1 => ta σ H1 fun x H2 => SetR K f y x H2 (nx σ)) : sFld K ta tv f ⟨nx, rt, bk, ct⟩ σ H := h
theorem i_setR {Z : Hp → Prop} (h : H a = some (.ins C dx fs)) (c : Cls K C) (n : NoAttr K C f) (l : fs.length < 1000) (q : Z (upd H a (.ins C dx (putF f y fs)))) : SetR K f y (.ref a) H Z := ⟨a, C, dx, fs, rfl, h, c, n, l, q⟩
def MethR (C : Addr) (m : Str) (x : V) (H : Hp) (R : Prop) : Prop := ∃ a dx fs, x = V.ref a ∧ H a = some (.ins C dx fs) ∧ fs.lookup m = none ∧ R
theorem i_meth {ta : TE} {t : TA} (h : ta σ H fun x H1 => MethR C m x H1 (t σ H1 fun vs H2 => sp (x :: vs) H2 Q E)) : tMeth C m sp [] E ta t σ H Q := by
  have e : ∀ x : V, (fun vs H2 => sp (x :: (vs ++ [])) H2 Q E) = fun vs H2 => sp (x :: vs) H2 Q E := fun x => by
    funext vs H2
    rw [List.append_nil]
  show ta σ H (fun x H1 => ∃ a dx fs, x = .ref a ∧ H1 a = some (.ins C dx fs) ∧ fs.lookup m = none ∧ t σ H1 fun vs H2 => sp (x :: (vs ++ [])) H2 Q E)
  simp only [e]
  exact h
theorem i_methR {R : Prop} (h : H a = some (.ins C dx fs)) (l : fs.lookup m = none) (q : R) : MethR C m (.ref a) H R := ⟨a, dx, fs, rfl, h, l, q⟩
theorem i_make0 (h : ∀ x dx, H x = none → H dx = none → dx ≠ x → sp [.ref x] (upd (upd H dx (.own x)) x (.ins C dx [])) (fun v H2 => v = .non ∧ Q (.ref x) H2) E) : tMake C sp [] E tNil σ H Q := h
/-! ### dicts by tuples -/
def DgR (y x : V) (H : Hp) (R : Option V → Prop) : Prop := ∃ a o, x = V.ref a ∧ DGet H a y o ∧ R o
theorem i_dnotin {td ty : TE} (h : ty σ H fun y H1 => td σ H1 fun x H2 => DgR y x H2 fun o => Q (.bl (!o.isSome)) H2) : tDNotIn ty td σ H Q := h
theorem i_din {td ty : TE} (h : ty σ H fun y H1 => td σ H1 fun x H2 => DgR y x H2 fun o => Q (.bl o.isSome) H2) : tDIn ty td σ H Q := h
theorem i_dg3 {R : Option V → Prop} (h : H a = some (.dT kvs)) (e : H p = some (.tup [.int i, .int j, .int k])) (q : R (valV kvs [.inl i, .inl j, .inl k])) : DgR (.ref p) (.ref a) H R := ⟨a, _, rfl, DGet.t (k := [.inl i, .inl j, .inl k]) h e, q⟩
theorem i_dg2 {R : Option V → Prop} (h : H a = some (.dT kvs)) (e : H p = some (.tup [.int i, .int j])) (q : R (valV kvs [.inl i, .inl j])) : DgR (.ref p) (.ref a) H R := ⟨a, _, rfl, DGet.t (k := [.inl i, .inl j]) h e, q⟩
def DvR (x y : V) (H : Hp) (Q : VK) : Prop := ∃ a v, x = V.ref a ∧ DGet H a y (some v) ∧ Q v H
theorem i_dget {td ty : TE} (h : td σ H fun x H1 => ty σ H1 fun y H2 => DvR x y H2 Q) : tDGet td ty σ H Q := h
theorem i_dv3 (h : H a = some (.dT kvs)) (e : H p = some (.tup [.int i, .int j, .int k])) (l : valV kvs [.inl i, .inl j, .inl k] = some v) (q : Q v H) : DvR (.ref a) (.ref p) H Q := ⟨a, v, rfl, l ▸ DGet.t (k := [.inl i, .inl j, .inl k]) h e, q⟩
theorem i_dv2 (h : H a = some (.dT kvs)) (e : H p = some (.tup [.int i, .int j])) (l : valV kvs [.inl i, .inl j] = some v) (q : Q v H) : DvR (.ref a) (.ref p) H Q := ⟨a, v, rfl, l ▸ DGet.t (k := [.inl i, .inl j]) h e, q⟩
def DpR (v x y : V) (H : Hp) (Z : Hp → Prop) : Prop := ∃ a H4, x = V.ref a ∧ DPut H a y v H4 ∧ Z H4
theorem i_dput {td ty tv : TE} (h : tv σ H fun v H1 => td σ H1 fun x H2 => ty σ H2 fun y H3 => DpR v x y H3 (nx σ)) : sDPut td ty tv ⟨nx, rt, bk, ct⟩ σ H := h
theorem i_dp3 {Z : Hp → Prop} (h : H a = some (.dT kvs)) (e : H p = some (.tup [.int i, .int j, .int k])) (hz : kvs.length ≤ 1000000) (q : Z (upd H a (.dT (putK kvs [.inl i, .inl j, .inl k] v)))) : DpR v (.ref a) (.ref p) H Z := ⟨a, _, rfl, DPut.t (k := [.inl i, .inl j, .inl k]) h e (sz4' hz), q⟩
theorem i_dp2 {Z : Hp → Prop} (h : H a = some (.dT kvs)) (e : H p = some (.tup [.int i, .int j])) (hz : kvs.length ≤ 1000000) (q : Z (upd H a (.dT (putK kvs [.inl i, .inl j] v)))) : DpR v (.ref a) (.ref p) H Z := ⟨a, _, rfl, DPut.t (k := [.inl i, .inl j]) h e (sz4' hz), q⟩
theorem i_dnewT (h : ∀ p, H p = none → Q (.ref p) (upd H p (.dT []))) : tDNewT σ H Q := h
/-! ### list(range(..)) -/
theorem i_lstRg {te : L2.St → Hp → (Int → Int → Hp → Prop) → Prop} (h : te σ H fun a b H1 => RgOk a b ∧ ∀ q, H1 q = none → Q (.ref q) (upd H1 q (.lst (rgV a b)))) : tLstRg te σ H Q := h
theorem i_rg1 {ta : TE} {R : Int → Int → Hp → Prop} (h : ta σ H fun x H1 => ∃ n, x = .int n ∧ R 0 n H1) : tRg1 ta σ H R := h
theorem i_rg2 {ta tb : TE} {R : Int → Int → Hp → Prop} (h : ta σ H fun x H1 => tb σ H1 fun y H2 => ∃ i j, x = .int i ∧ y = .int j ∧ R i j H2) : tRg2 ta tb σ H R := h
theorem i_rg2' {R : Int → Int → Prop} (q : R i j) : ∃ i' j', V.int i = .int i' ∧ V.int j = .int j' ∧ R i' j' := ⟨i, j, rfl, rfl, q⟩
theorem i_rg1' {R : Int → Prop} (q : R i) : ∃ i', V.int i = .int i' ∧ R i' := ⟨i, rfl, q⟩
theorem i_rgok {R : Addr → Prop} (h0 : 0 ≤ i) (h1 : j ≤ 16777216) (h2 : i ≤ 16777216) (h3 : 0 ≤ j) (q : ∀ q, H q = none → R q) : RgOk i j ∧ ∀ q, H q = none → R q := ⟨.of_le h0 h1 h2 h3, q⟩
end
theorem rg_ints (a b : Int) : rgV a b = ((List.range (b - a).toNat).map fun i : Nat => a + (i : Int)).map V.int := by
  unfold rgV
  rw [List.map_map]
  rfl
theorem But.mut {a : Addr} {H H1 : Hp} {D : Addr} {o : HO} (hp : H D = none) (x : But a H H1) : But a H (L2.upd H1 D o) := fun b u n h => by
  rw [upd_ne (ne_of_none h hp)]
  exact x b u n h
theorem But.mutS {a : Addr} {H H1 H2 : Hp} {D : Addr} (y : But D H1 H2) (hp : H D = none) (x : But a H H1) : But a H H2 := fun b u n h => y b u (ne_of_none h hp) (x b u n h)
end Hf
/-! ## sorted(.., reverse=True) of what falls; clear, extend -/
namespace Hf
open PySem PySem.Spec PyProof.Rows L2
theorem cr_sortedRevK {X : Cx} (K : PySem.W.Frag) (e : X.K = K) {b : Bool} : CallRK X (.builtin "sorted") [Str.ofString "reverse"] (rSortedKw K b [.bl b]) := by subst e; exact cr_sortedRev
section
variable {σ : L2.St} {H : Hp} {Q : VK} {K : PySem.W.Frag} {p r : Addr} {ns ms : List Int} {xs zs : List V}
theorem i_ckw {R : List V → List V → Hp → VK → Prop} {t tk : TA} (h : t σ H fun vs H1 => tk σ H1 fun zs H2 => R vs zs H2 Q) : tCKw R t tk σ H Q := h
theorem i_sortedRev (h : SqL K H p (ns.map V.int)) (hd : ns.Pairwise fun a b => b ≤ a) (q : ∀ p', H p' = none → Q (.ref p') (L2.upd H p' (.lst (ns.map V.int)))) : rSortedKw K true [.bl true] [.ref p] [.bl true] H Q :=
  ⟨p, ns, rfl, rfl, h, fun ns' p' hp ho hn => by
    have e : ns' = ns := List.Perm.eq_of_pairwise (le := fun a b : Int => b ≤ a) (fun a b _ _ h1 h2 => by
      have h1' : b ≤ a := h1
      have h2' : a ≤ b := h2
      omega) ho hd hp
    rw [e]
    exact q p' hn⟩
theorem i_clear (h : H p = some (.lst xs)) (q : Q .non (L2.upd H p (.lst []))) : rClear (.ref p) [] H Q := ⟨p, xs, rfl, rfl, h, q⟩
theorem i_extendN (h : H p = some (.lst [])) (h2 : H r = some (.lst zs)) (hz : zs.length ≤ 1000000) (q : Q .non (L2.upd H p (.lst zs))) : rExtend (.ref p) [.ref r] H Q := ⟨p, r, [], zs, rfl, rfl, h, h2, by rw [List.length_nil, Nat.zero_add]; exact sz4 hz, by rw [List.nil_append]; exact q⟩
end
/-- the heap is let go of but for what stood at first, and two things -/
theorem forget2 {P : Hp → Prop} {H H1 : Hp} {l f : Addr} {o u : HO} (s : Same H H1) (h1 : H1 l = some o) (h2 : H1 f = some u) (h : ∀ H', Same H H' → H' l = some o → H' f = some u → P H') : P H1 := h H1 s h1 h2
end Hf
/-! ## Dat -/
namespace Hf
open PySem PySem.Spec PyProof.Rows L2
/-! ### nested data, each list and tuple tracked -/
mutual
inductive Dq (H : Hp) : V → PyData → Prop
  | non : Dq H .non .none
  | bl (b : Bool) : Dq H (.bl b) (.bool b)
  | int (i : Int) : Dq H (.int i) (.int i)
  | str (x : Str) : Dq H (.str x) (.str x)
  | lst {a : Addr} {xs : List V} {ds : List PyData} : H a = some (.lst xs) → DqAll H xs ds → Dq H (.ref a) (.list ds)
  | tup {a : Addr} {xs : List V} {ds : List PyData} : H a = some (.tup xs) → DqAll H xs ds → Dq H (.ref a) (.tuple ds)
inductive DqAll (H : Hp) : List V → List PyData → Prop
  | nil : DqAll H [] []
  | cons {v : V} {vs : List V} {d : PyData} {ds : List PyData} : Dq H v d → DqAll H vs ds → DqAll H (v :: vs) (d :: ds)
end
mutual
theorem Dq.same {H H' : Hp} (s : Same H H') : ∀ {v : V} {d : PyData}, Dq H v d → Dq H' v d
  | _, _, .non => .non
  | _, _, .bl b => .bl b
  | _, _, .int i => .int i
  | _, _, .str x => .str x
  | _, _, .lst h q => .lst (s _ _ h) (DqAll.same s q)
  | _, _, .tup h q => .tup (s _ _ h) (DqAll.same s q)
theorem DqAll.same {H H' : Hp} (s : Same H H') : ∀ {vs : List V} {ds : List PyData}, DqAll H vs ds → DqAll H' vs ds
  | _, _, .nil => .nil
  | _, _, .cons h q => .cons (Dq.same s h) (DqAll.same s q)
end
mutual
theorem Dq.dp {K : PySem.W.Frag} {H : Hp} : ∀ {v : V} {d : PyData}, Dq H v d → Dp K H v d
  | _, _, .non => .non
  | _, _, .bl b => .bl b
  | _, _, .int i => .int i
  | _, _, .str x => .str x
  | _, _, .lst h q => .lst (SqL.of h) (DqAll.dp q)
  | _, _, .tup h q => .tup (SqT.of h) (DqAll.dp q)
theorem DqAll.dp {K : PySem.W.Frag} {H : Hp} : ∀ {vs : List V} {ds : List PyData}, DqAll H vs ds → DpAll K H vs ds
  | _, _, .nil => .nil
  | _, _, .cons h q => .cons (Dq.dp h) (DqAll.dp q)
end
mutual
theorem Dq.eqv {H : Hp} : ∀ {v : V} {d : PyData}, Dq H v d → PyData.eqv d d = true
  | _, _, .non => by simp [PyData.eqv]
  | _, _, .bl b => by simp [PyData.eqv]
  | _, _, .int i => by simp [PyData.eqv]
  | _, _, .str x => by simp [PyData.eqv]
  | _, _, .lst _ q => by rw [PyData.eqv]; exact DqAll.eqv q
  | _, _, .tup _ q => by rw [PyData.eqv]; exact DqAll.eqv q
theorem DqAll.eqv {H : Hp} : ∀ {vs : List V} {ds : List PyData}, DqAll H vs ds → PyData.eqvAll ds ds = true
  | _, _, .nil => by simp [PyData.eqvAll]
  | _, _, .cons h q => by rw [PyData.eqvAll, Dq.eqv h, DqAll.eqv q]; rfl
end
section
variable {H : Hp} {v : V} {vs : List V} {ds : List PyData} {i : Int} {x : Str}
theorem Dq.list_inv (h : Dq H v (.list ds)) : ∃ a xs, v = .ref a ∧ H a = some (.lst xs) ∧ DqAll H xs ds := by
  cases h with
  | lst h q => exact ⟨_, _, rfl, h, q⟩
theorem Dq.tuple_inv (h : Dq H v (.tuple ds)) : ∃ a xs, v = .ref a ∧ H a = some (.tup xs) ∧ DqAll H xs ds := by
  cases h with
  | tup h q => exact ⟨_, _, rfl, h, q⟩
theorem Dq.int_inv (h : Dq H v (.int i)) : v = .int i := by
  cases h
  rfl
theorem Dq.str_inv (h : Dq H v (.str x)) : v = .str x := by
  cases h
  rfl
theorem DqAll.len : ∀ {vs : List V} {ds : List PyData}, DqAll H vs ds → vs.length = ds.length
  | _, _, .nil => rfl
  | _, _, .cons _ q => by rw [List.length_cons, List.length_cons, DqAll.len q]
theorem DqAll.get : ∀ {vs : List V} {ds : List PyData}, DqAll H vs ds → ∀ {k : Nat} {d : PyData}, ds[k]? = some d → ∃ w, vs[k]? = some w ∧ Dq H w d
  | _, _, .nil, k, d, h => by simp at h
  | _, _, .cons h _, 0, d, e => by
    rw [List.getElem?_cons_zero] at e
    cases e
    exact ⟨_, rfl, h⟩
  | _, _, .cons _ q, k + 1, d, e => by
    rw [List.getElem?_cons_succ] at e
    obtain ⟨w, h1, h2⟩ := DqAll.get q e
    exact ⟨w, by rw [List.getElem?_cons_succ]; exact h1, h2⟩
theorem DqAll.get' : ∀ {vs : List V} {ds : List PyData}, DqAll H vs ds → ∀ {k : Nat} {w : V}, vs[k]? = some w → ∃ d, ds[k]? = some d ∧ Dq H w d
  | _, _, .nil, k, d, h => by simp at h
  | _, _, .cons h _, 0, d, e => by
    rw [List.getElem?_cons_zero] at e
    cases e
    exact ⟨_, rfl, h⟩
  | _, _, .cons _ q, k + 1, d, e => by
    rw [List.getElem?_cons_succ] at e
    obtain ⟨w, h1, h2⟩ := DqAll.get' q e
    exact ⟨w, by rw [List.getElem?_cons_succ]; exact h1, h2⟩
theorem dq_ints : ∀ ms : List Int, DqAll H (ms.map V.int) (ms.map PyData.int)
  | [] => .nil
  | m :: ms => .cons (.int m) (dq_ints ms)
theorem DqAll.ints : ∀ {vs : List V} {ms : List Int}, DqAll H vs (ms.map PyData.int) → vs = ms.map V.int
  | _, [], h => by cases h; rfl
  | _, m :: ms, h => by
    cases h with
    | cons h q =>
      rw [Dq.int_inv h, DqAll.ints q]
      rfl
theorem DqAll.snoc : ∀ {vs : List V} {ds : List PyData} {w : V} {d : PyData}, DqAll H vs ds → Dq H w d → DqAll H (vs ++ [w]) (ds ++ [d])
  | _, _, _, _, .nil, h => .cons h .nil
  | _, _, _, _, .cons h q, g => .cons h (DqAll.snoc q g)
end
/-- == of nested data -/
theorem i_eqDq {K : PySem.W.Frag} {H : Hp} {Q : VK} {v w : V} {d e : PyData} (h1 : Dq H v d) (h2 : Dq H w e) (s1 : SeqAt.shaped d = true) (s2 : SeqAt.shaped e = true) (q : Q (.bl (PyData.eqv d e)) H) : rEqD K v w H Q := ⟨d, e, h1.dp, h2.dp, s1, s2, q⟩
theorem i_neDq {K : PySem.W.Frag} {H : Hp} {Q : VK} {v w : V} {d : PyData} (h1 : Dq H v d) (h2 : Dq H w d) (s1 : SeqAt.shaped d = true) (q : Q (.bl false) H) : rNeD K v w H Q := ⟨d, d, h1.dp, h2.dp, s1, s1, by
  rw [h1.eqv]
  exact q⟩

/-! ### a heap without some of its objects -/
def hid (S : List Addr) (H : Hp) : Hp := fun b => if b ∈ S then none else H b
section
variable {S : List Addr} {H H' : Hp} {a b : Addr} {o : HO}
theorem hid_in (h : a ∈ S) : hid S H a = none := if_pos h
theorem hid_out (h : a ∉ S) : hid S H a = H a := if_neg h
theorem hid_same : Same (hid S H) H := fun b o h => by
  by_cases c : b ∈ S
  · rw [hid_in c] at h
    cases h
  · rw [hid_out c] at h
    exact h
theorem hid_mono (s : Same H H') : Same (hid S H) (hid S H') := fun b o h => by
  by_cases c : b ∈ S
  · rw [hid_in c] at h
    cases h
  · rw [hid_out c] at h ⊢
    exact s b o h
theorem hid_but (ha : a ∈ S) (s : But a H H') : Same (hid S H) (hid S H') := fun b o h => by
  by_cases c : b ∈ S
  · rw [hid_in c] at h
    cases h
  · rw [hid_out c] at h ⊢
    exact s b o (fun e => c (e ▸ ha)) h
theorem hid_upd (ha : a ∈ S) : Same (hid S H) (hid S (upd H a o)) := hid_but ha (But.upd (But.refl _ _))
theorem hid_lk (h : a ∉ S) (e : H a = some o) : hid S H a = some o := by
  rw [hid_out h]
  exact e
theorem not_in2 {a b c : Addr} (h1 : a ≠ b) (h2 : a ≠ c) : a ∉ [b, c] := by
  intro h
  rcases List.mem_cons.mp h with g | g
  · exact h1 g
  · exact h2 (List.mem_singleton.mp g)
theorem not_in1 {a b : Addr} (h1 : a ≠ b) : a ∉ [b] := fun h => h1 (List.mem_singleton.mp h)
end
theorem rng_map {α β : Type} (f : Nat → β) (g : α → β) (m : List α) (h : ∀ (i : Nat) (x : α), m[i]? = some x → f i = g x) : (List.range m.length).map f = m.map g := by
  apply List.ext_getElem?
  intro i
  rw [List.getElem?_map, List.getElem?_map]
  by_cases c : i < m.length
  · rw [List.getElem?_range c, List.getElem?_eq_getElem c]
    show some (f i) = some (g m[i])
    rw [h i _ (List.getElem?_eq_getElem c)]
  · rw [List.getElem?_eq_none (by rw [List.length_range]; omega), List.getElem?_eq_none (by omega)]
    rfl
theorem take_snoc {α : Type} {m : List α} {i : Nat} {x : α} (h : m[i]? = some x) : m.take (i + 1) = m.take i ++ [x] := by
  rw [List.take_add_one, h]
  rfl
theorem same_hid1 {G H : Hp} {a : Addr} (s : Same G H) (h1 : G a = none) : Same G (hid [a] H) := fun b o e => by
  rw [hid_out (not_in1 (ne_of_none e h1))]
  exact s b o e
theorem same_hid2 {G H : Hp} {a c : Addr} (s : Same G H) (h1 : G a = none) (h2 : G c = none) : Same G (hid [a, c] H) := fun b o e => by
  rw [hid_out (not_in2 (ne_of_none e h1) (ne_of_none e h2))]
  exact s b o e
theorem But.mutD {a : Addr} {H H1 : Hp} {D : Addr} {o : HO} (hp : H D = none) (x : But a H H1) : But a H (L2.upd H1 D o) := fun b u n h => by
  rw [upd_ne (ne_of_none h hp)]
  exact x b u n h
theorem But.mutSD {a : Addr} {H H1 H2 : Hp} {D : Addr} (y : But D H1 H2) (hp : H D = none) (x : But a H H1) : But a H H2 := fun b u n h => y b u (ne_of_none h hp) (x b u n h)
theorem DqAll.reverse {H : Hp} : ∀ {vs : List V} {ds : List PyData}, DqAll H vs ds → DqAll H vs.reverse ds.reverse
  | _, _, .nil => .nil
  | _, _, .cons h q => by
    rw [List.reverse_cons, List.reverse_cons]
    exact DqAll.snoc (DqAll.reverse q) h
theorem i_reverseV {H : Hp} {p : Addr} {xs : List V} {Q : VK} (h : H p = some (.lst xs)) (q : Q .non (upd H p (.lst xs.reverse))) : rReverse (.ref p) [] H Q := ⟨p, _, rfl, rfl, h, q⟩
theorem i_revV {K : PySem.W.Frag} {xs : List V} {p : Addr} {H : Hp} {R : Addr → List V → Prop} (h : SqL K H p xs) (q : R p xs) : ∃ a xs, V.ref p = .ref a ∧ SqL K H a xs ∧ R a xs := ⟨p, _, rfl, h, q⟩
theorem i_neL2 {K : PySem.W.Frag} {H : Hp} {Q : VK} {p r : Addr} {ms : List Int} {x y : Int} (h1 : SqL K H p (ms.map V.int)) (h2 : SqL K H r [.int x, .int y]) (q : Q (.bl (!decide (ms = [x, y]))) H) : rNeD K (.ref p) (.ref r) H Q := i_neLI (ns := [x, y]) h1 h2 q
theorem pe_revLK {X : L2.Cx} (K : PySem.W.Frag) (eK : X.K = K) {e : Expr} {te : TE} {k : Nat} {p1 p2 p3 pos : Pos} (he : PE X e te) : PE X (.Subscript e (.Slice none none (some (.UnaryOp .USub (.Constant (.int 1) k p1) p2)) p3) pos) (tRevL K te) := by
  subst eK
  exact pe_revL he
theorem i_rev {K : PySem.W.Frag} {te : TE} {σ : L2.St} {H : Hp} {Q : VK} (h : te σ H fun x H1 => ∃ a xs, x = .ref a ∧ SqL K H1 a xs ∧ ∀ p, H1 p = none → Q (.ref p) (upd H1 p (.lst xs.reverse))) : tRevL K te σ H Q := h
theorem i_rev' {K : PySem.W.Frag} {ms : List Int} {p : Addr} {H : Hp} {R : Addr → List V → Prop} (h : SqL K H p (ms.map V.int)) (q : R p (ms.map V.int)) : ∃ a xs, V.ref p = .ref a ∧ SqL K H a xs ∧ R a xs := ⟨p, _, rfl, h, q⟩
theorem DqAll.take {H : Hp} : ∀ (n : Nat) {vs : List V} {ds : List PyData}, DqAll H vs ds → DqAll H (vs.take n) (ds.take n)
  | 0, _, _, _ => .nil
  | _ + 1, _, _, .nil => .nil
  | n + 1, _, _, .cons h q => .cons h (DqAll.take n q)
theorem DqAll.drop {H : Hp} : ∀ (n : Nat) {vs : List V} {ds : List PyData}, DqAll H vs ds → DqAll H (vs.drop n) (ds.drop n)
  | 0, _, _, q => q
  | _ + 1, _, _, .nil => .nil
  | n + 1, _, _, .cons _ q => DqAll.drop n q
end Hf
/-! ## Mixes -/
namespace Hf
open PySem PySem.Spec PyProof.Rows L2
/-! ### mixes -/
def planD (p : List Int) : PyData := .list (p.map PyData.int)
def partD (pw : List Int × Int) : PyData := .tuple [planD pw.1, .int pw.2]
def mixD (m : List (List Int × Int)) : PyData := .list (m.map partD)
/-- a plan of so many hosts and fields -/
def PlanC (h : Int) (n : Nat) (p : List Int) : Prop := p.length = n ∧ p.sum = h ∧ ∀ x ∈ p, 0 ≤ x
structure MixOk (h : Int) (n : Nat) (m : List (List Int × Int)) : Prop where
  ne : 1 ≤ m.length ∧ m.length ≤ 100
  fl : 1 ≤ n ∧ n ≤ 8
  ho : 0 ≤ h ∧ h ≤ 40
  pl : ∀ pw ∈ m, PlanC h n pw.1 ∧ 1 ≤ pw.2
section
variable {H : Hp} {v : V} {m : List (List Int × Int)} {xs : List V}
/-- a part: its tuple, its plan's list -/
theorem part_inv {pw : List Int × Int} (h : Dq H v (partD pw)) : ∃ t p, v = .ref t ∧ H t = some (.tup [.ref p, .int pw.2]) ∧ H p = some (.lst (pw.1.map V.int)) := by
  obtain ⟨t, xs, rfl, h1, h2⟩ := h.tuple_inv
  cases h2 with
  | cons a b =>
    cases b with
    | cons c d =>
      cases d
      obtain ⟨p, ys, rfl, h3, h4⟩ := Dq.list_inv a
      obtain rfl := Dq.int_inv c
      obtain rfl := DqAll.ints h4
      exact ⟨t, p, rfl, h1, h3⟩
theorem mix_inv (h : Dq H v (mixD m)) : ∃ a xs, v = .ref a ∧ H a = some (.lst xs) ∧ xs.length = m.length ∧ ∀ (k : Nat) (w : V), xs[k]? = some w → ∃ pw t p, m[k]? = some pw ∧ w = .ref t ∧ H t = some (.tup [.ref p, .int pw.2]) ∧ H p = some (.lst (pw.1.map V.int)) := by
  obtain ⟨a, xs, rfl, h1, h2⟩ := h.list_inv
  refine ⟨a, xs, rfl, h1, by rw [h2.len, List.length_map], fun k w hw => ?_⟩
  obtain ⟨d, e, q⟩ := h2.get' hw
  rw [List.getElem?_map] at e
  cases g : m[k]? with
  | none => rw [g] at e; cases e
  | some pw =>
    rw [g] at e
    cases e
    obtain ⟨t, p, e1, e2, e3⟩ := part_inv q
    exact ⟨pw, t, p, rfl, e1, e2, e3⟩
end
theorem shaped_mix (m : List (List Int × Int)) : SeqAt.shaped (mixD m) = true := by
  have h1 : ∀ m : List (List Int × Int), PyData.canLayAll0 (m.map partD) = true := by
    intro m
    induction m with
    | nil => simp [PyData.canLayAll0]
    | cons pw m ih =>
      rw [List.map_cons, PyData.canLayAll0, ih]
      simp [partD, planD, PyData.canLay0, PyData.canLayAll0, canLay_ints]
  have h2 : ∀ m : List (List Int × Int), PyData.depthAll (m.map partD) ≤ 3 := by
    intro m
    induction m with
    | nil => simp [PyData.depthAll]
    | cons pw m ih =>
      have := depth_ints pw.1
      rw [List.map_cons, PyData.depthAll]
      simp [partD, planD, PyData.depth, PyData.depthAll]
      omega
  unfold SeqAt.shaped
  have a := h1 m
  have b := h2 m
  simp [mixD, PyData.canLay0, PyData.depth, a]
  omega

theorem dq_mix {G H : Hp} {a : Addr} {xs : List V} {m : List (List Int × Int)} (q : DqAll G xs (m.map partD)) (h : H a = some (.lst xs)) (s : Same G H) : Dq H (.ref a) (mixD m) := .lst h (DqAll.same s q)
theorem part_mk {H : Hp} {t p : Addr} {ms : List Int} {w : Int} (h1 : H t = some (.tup [.ref p, .int w])) (h2 : H p = some (.lst (ms.map V.int))) : Dq H (.ref t) (partD (ms, w)) := .tup h1 (.cons (.lst h2 (dq_ints ms)) (.cons (.int w) .nil))
/-- a part of a mix, by its place -/
theorem part_at {G : Hp} {xs : List V} {m : List (List Int × Int)} (q : DqAll G xs (m.map partD)) {k : Nat} {w : V} (hw : xs[k]? = some w) : ∃ pw t p, m[k]? = some pw ∧ w = .ref t ∧ G t = some (.tup [.ref p, .int pw.2]) ∧ G p = some (.lst (pw.1.map V.int)) := by
  obtain ⟨d, e, q⟩ := q.get' hw
  rw [List.getElem?_map] at e
  cases g : m[k]? with
  | none => rw [g] at e; cases e
  | some pw =>
    rw [g] at e
    cases e
    obtain ⟨t, p, e1, e2, e3⟩ := part_inv q
    exact ⟨pw, t, p, rfl, e1, e2, e3⟩
def whole (m : List (List Int × Int)) : Int := (m.map Prod.snd).sum
def due : List (List Int × Int) → Int → List Int
  | [], _ => []
  | pw :: r, k => if k < pw.2 then pw.1 else due r (k - pw.2)
theorem whole_cons {pw : List Int × Int} {r : List (List Int × Int)} : whole (pw :: r) = pw.2 + whole r := by
  unfold whole
  rw [List.map_cons, List.sum_cons]
theorem whole_app {m r : List (List Int × Int)} : whole (m ++ r) = whole m + whole r := by
  unfold whole
  rw [List.map_append, List.sum_append]
theorem drop_get {α : Type} {m : List α} {i : Nat} {x : α} (h : m[i]? = some x) : m.drop i = x :: m.drop (i + 1) := by
  obtain ⟨hi, rfl⟩ := List.getElem?_eq_some_iff.mp h
  exact List.drop_eq_getElem_cons hi
theorem MixOk.len (h n) {m} (k : MixOk h n m) : 1 ≤ m.length := k.ne.1
theorem MixOk.whole_pos {h n m} (k : MixOk h n m) : (m.length : Int) ≤ whole m := by
  have : ∀ r : List (List Int × Int), (∀ pw ∈ r, 1 ≤ pw.2) → (r.length : Int) ≤ whole r := by
    intro r
    induction r with
    | nil => intro _; exact Int.le_refl _
    | cons pw r ih =>
      intro g
      have := ih fun x hx => g x (List.mem_cons_of_mem _ hx)
      have := g pw (List.mem_cons_self)
      rw [whole_cons, List.length_cons]
      omega
  exact this m fun pw hp => (k.pl pw hp).2
/-- weights of a drawn mix -/
def WtOk (m : List (List Int × Int)) : Prop := m.length ≤ 20 ∧ ∀ pw ∈ m, pw.2 ≤ 10000000000000000000000000000
theorem WtOk.le {m} (k : WtOk m) : whole m ≤ 200000000000000000000000000000 := by
  have : ∀ r : List (List Int × Int), (∀ pw ∈ r, pw.2 ≤ 10000000000000000000000000000) → whole r ≤ 10000000000000000000000000000 * (r.length : Int) := by
    intro r
    induction r with
    | nil => intro _; exact Int.le_refl _
    | cons pw r ih =>
      intro g
      have := ih fun x hx => g x (List.mem_cons_of_mem _ hx)
      have := g pw (List.mem_cons_self)
      rw [whole_cons, List.length_cons]
      omega
  have h1 := this m k.2
  have h2 := k.1
  omega
theorem whole_nn : ∀ r : List (List Int × Int), (∀ pw ∈ r, 1 ≤ pw.2) → 0 ≤ whole r := by
  intro r
  induction r with
  | nil => intro _; exact Int.le_refl _
  | cons pw r ih =>
    intro g
    have := ih fun x hx => g x (List.mem_cons_of_mem _ hx)
    have := g pw (List.mem_cons_self)
    rw [whole_cons]
    omega
theorem MixOk.at {h : Int} {n : Nat} {m : List (List Int × Int)} {i : Nat} {pw : List Int × Int} (k : MixOk h n m) (e : m[i]? = some pw) : 0 ≤ whole (m.take i) ∧ 1 ≤ pw.2 ∧ whole (m.take (i + 1)) = whole (m.take i) + pw.2 ∧ whole (m.take i) + pw.2 ≤ whole m := by
  have h1 := whole_nn (m.take i) fun x hx => (k.pl x (List.mem_of_mem_take hx)).2
  have h2 := whole_nn (m.drop (i + 1)) fun x hx => (k.pl x (List.mem_of_mem_drop hx)).2
  have h3 : whole m = whole (m.take i) + whole (m.drop i) := by rw [← whole_app, List.take_append_drop]
  rw [drop_get e, whole_cons] at h3
  have h4 := (k.pl pw (List.mem_of_getElem? e)).2
  refine ⟨h1, h4, ?_, by omega⟩
  rw [take_snoc e, whole_app]
  simp [whole]
theorem MixOk.reverse {h : Int} {n : Nat} {m : List (List Int × Int)} (k : MixOk h n m) : MixOk h n m.reverse := ⟨by rw [List.length_reverse]; exact k.ne, k.fl, k.ho, fun pw hp => k.pl pw (List.mem_reverse.mp hp)⟩
theorem whole_reverse (m : List (List Int × Int)) : whole m.reverse = whole m := by
  induction m with
  | nil => rfl
  | cons pw m ih =>
    rw [List.reverse_cons, whole_app, whole_cons, ih]
    simp [whole]
    omega
theorem due_last : ∀ (m : List (List Int × Int)) {p : List Int} {w z : Int}, (∀ pw ∈ m, 1 ≤ pw.2) → whole m ≤ z → z < whole m + w → due (m ++ [(p, w)]) z = p
  | [], p, w, z, _, h1, h2 => by
    simp [whole] at h1 h2
    show due [(p, w)] z = p
    rw [due, if_pos h2]
  | pw :: m, p, w, z, h0, h1, h2 => by
    rw [whole_cons] at h1 h2
    have := whole_nn m fun x hx => h0 x (List.mem_cons_of_mem _ hx)
    show due (pw :: (m ++ [(p, w)])) z = p
    rw [due, if_neg (by omega)]
    exact due_last m (fun x hx => h0 x (List.mem_cons_of_mem _ hx)) (by omega) (by omega)
theorem DqAll.revm {H : Hp} {vs : List V} {m : List (List Int × Int)} (q : DqAll H vs (m.map partD)) : DqAll H vs.reverse (m.reverse.map partD) := by
  rw [List.map_reverse]
  exact q.reverse
theorem dq_two {H : Hp} {a t1 t2 p1 p2 : Addr} {w1 w2 x1 y1 x2 y2 : Int} (h : H a = some (.lst [.ref t1, .ref t2])) (h1 : H t1 = some (.tup [.ref p1, .int w1])) (h2 : H t2 = some (.tup [.ref p2, .int w2])) (h3 : H p1 = some (.lst [.int x1, .int y1])) (h4 : H p2 = some (.lst [.int x2, .int y2])) : Dq H (.ref a) (mixD [([x1, y1], w1), ([x2, y2], w2)]) :=
  .lst h (.cons (part_mk h1 h3) (.cons (part_mk h2 h4) .nil))
theorem MixOk.snoc {h : Int} {n : Nat} {m : List (List Int × Int)} {p : List Int} {w : Int} (k : MixOk h n m) (hp : PlanC h n p) (hw : 1 ≤ w) (hl : m.length ≤ 50) : MixOk h n (m ++ [(p, w)]) := ⟨by simp; omega, k.fl, k.ho, fun pw hpw => by
  rcases List.mem_append.mp hpw with g | g
  · exact k.pl pw g
  · rw [List.mem_singleton.mp g]
    exact ⟨hp, hw⟩⟩
theorem due_len {k : Nat} : ∀ (m : List (List Int × Int)) (z : Int), (∀ pw ∈ m, pw.1.length ≤ k) → (due m z).length ≤ k
  | [], _, _ => Nat.zero_le _
  | pw :: m, z, h => by
    rw [due]
    split
    · exact h pw (List.mem_cons_self)
    · exact due_len m _ fun x hx => h x (List.mem_cons_of_mem _ hx)
theorem MixOk.due_len {h : Int} {n : Nat} {m : List (List Int × Int)} (k : MixOk h n m) (z : Int) : (due m z).length ≤ 8 := Hf.due_len m z fun pw hp => by
  have := (k.pl pw hp).1.1
  have := k.fl.2
  omega
end Hf
/-! ## what is new -/
namespace Hf
open PySem PySem.Spec PyProof.Rows L2
/-! ### what is new -/
/-- what stands in G does not stand in H -/
def Newly (H G : Hp) : Prop := ∀ b o, H b = some o → G b = none
/-- what stands in H' and not in H, but for S -/
def fr (S : List Addr) (H H' : Hp) : Hp := fun b => if b ∈ S then none else match H b with
  | none => H' b
  | some _ => none
section
variable {S : List Addr} {H H' H1 H2 G : Hp} {a p : Addr} {o u : HO}
theorem fr_same : Same (fr S H H') H' := fun b o h => by
  unfold fr at h
  split at h
  · cases h
  · split at h
    · exact h
    · cases h
theorem fr_newly : Newly H (fr S H H') := fun b o h => by
  unfold fr
  split
  · rfl
  · rw [h]
theorem fr_in (h : a ∈ S) : fr S H H' a = none := if_pos h
theorem fr_lk (n : a ∉ S) (h : H a = none) (e : H' a = some o) : fr S H H' a = some o := by
  unfold fr
  rw [if_neg n, h]
  exact e
theorem fr_lk0 (h : H a = none) (e : H' a = some o) : fr [] H H' a = some o := fr_lk (by simp) h e
theorem fr_lk1 (n : a ≠ p) (h : H a = none) (e : H' a = some o) : fr [p] H H' a = some o := fr_lk (not_in1 n) h e
theorem fr_lk2 {q : Addr} (n : a ≠ p) (m : a ≠ q) (h : H a = none) (e : H' a = some o) : fr [p, q] H H' a = some o := fr_lk (not_in2 n m) h e
theorem fr_mono (s : Same H1 H2) : Same (fr S H H1) (fr S H H2) := fun b o h => by
  unfold fr at h ⊢
  split
  · next c => rw [if_pos c] at h; cases h
  · next c =>
    rw [if_neg c] at h
    split
    · next c2 => rw [c2] at h; exact s _ _ h
    · next c2 => rw [c2] at h; cases h
theorem fr_sub : Same (fr S H H') (fr [] H H') := fun b o h => by
  unfold fr at h ⊢
  split at h
  · cases h
  · rw [if_neg (by simp)]
    exact h
theorem fr_but (ha : a ∈ S) (s : But a H1 H2) : Same (fr S H H1) (fr S H H2) := fun b o h => by
  unfold fr at h ⊢
  split
  · next c => rw [if_pos c] at h; cases h
  · next c =>
    rw [if_neg c] at h
    split
    · next c2 => rw [c2] at h; exact s _ _ (fun e => c (e ▸ ha)) h
    · next c2 => rw [c2] at h; cases h
theorem fr_butK (ha : H a = some o) (s : But a H1 H2) : Same (fr S H H1) (fr S H H2) := fun b u h => by
  unfold fr at h ⊢
  split
  · next c => rw [if_pos c] at h; cases h
  · next c =>
    rw [if_neg c] at h
    split
    · next c2 => rw [c2] at h; exact s _ _ (fun e => by rw [e, ha] at c2; cases c2) h
    · next c2 => rw [c2] at h; cases h
theorem fr_upd (ha : a ∈ S) : Same (fr S H H1) (fr S H (upd H1 a o)) := fr_but ha (But.upd (But.refl _ _))
/-- all of G is new, and in H' -/
theorem Newly.same (n : Newly H G) (s : Same G H') : Same G (fr [] H H') := fun b o h => by
  refine fr_lk0 ?_ (s _ _ h)
  cases e : H b with
  | none => rfl
  | some u => rw [n b u e] at h; cases h
theorem Newly.same1 (n : Newly H G) (s : Same G H') (hp : G p = none) : Same G (fr [p] H H') := fun b o h => by
  refine fr_lk1 (ne_of_none h hp) ?_ (s _ _ h)
  cases e : H b with
  | none => rfl
  | some u => rw [n b u e] at h; cases h
theorem Newly.same2 {q : Addr} (n : Newly H G) (s : Same G H') (hp : G p = none) (hq : G q = none) : Same G (fr [p, q] H H') := fun b o h => by
  refine fr_lk2 (ne_of_none h hp) (ne_of_none h hq) ?_ (s _ _ h)
  cases e : H b with
  | none => rfl
  | some u => rw [n b u e] at h; cases h
theorem Newly.free (n : Newly H G) (h : H p = some o) : G p = none := n p o h
theorem Newly.back (n : Newly H1 G) (s : Same H H1) : Newly H G := fun b o h => n b o (s b o h)
theorem Newly.backB (n : Newly H1 G) (s : But a H H1) (h : G a = none) : Newly H G := fun b o e => by
  by_cases c : b = a
  · rw [c]; exact h
  · exact n b o (s b o c e)
end
/-! ### the purse of draws: where it stands and how often it was drawn from -/
def Left (n m : Int) : Prop := m = 1 ∨ (m = 0 ∧ 0 ≤ n ∧ n < 2147483629)
def Pk (a : Addr) (m : Int) (H : Hp) (c0 : Int) : Prop := ∃ n c, H a = some (.lst [.int n, .int m, .int c]) ∧ Left n m ∧ 0 ≤ c ∧ c ≤ c0
section
variable {a b p : Addr} {m c0 c1 : Int} {H H' H1 G : Hp} {o : HO}
theorem Pk.mono (h : Pk a m H c0) (e : c0 ≤ c1) : Pk a m H c1 := by
  obtain ⟨n, c, h1, h2, h3, h4⟩ := h
  exact ⟨n, c, h1, h2, h3, by omega⟩
theorem Pk.cast (h : Pk a m H c0) (e : c0 = c1) : Pk a m H c1 := e ▸ h
theorem Pk.same (h : Pk a m H c0) (s : Same H H') : Pk a m H' c0 := by
  obtain ⟨n, c, h1, h2, h3⟩ := h
  exact ⟨n, c, s _ _ h1, h2, h3⟩
theorem Pk.new (h : Pk a m H c0) (hp : H p = none) : Pk a m (upd H p o) c0 := h.same (Same.new hp)
theorem Pk.upd (h : Pk a m H c0) (hp : p ≠ a) : Pk a m (upd H p o) c0 := by
  obtain ⟨n, c, h1, h2, h3⟩ := h
  exact ⟨n, c, by rw [upd_ne hp.symm]; exact h1, h2, h3⟩
theorem Pk.but (h : Pk a m H c0) (s : But p H H') (hp : p ≠ a) : Pk a m H' c0 := by
  obtain ⟨n, c, h1, h2, h3⟩ := h
  exact ⟨n, c, s _ _ hp.symm h1, h2, h3⟩
theorem Pk.newT (hp : H p = none) (h : Pk a m H c0) : Pk a m (L2.upd H p o) c0 := h.new hp
theorem Pk.sameT (s : Same H H') (h : Pk a m H c0) : Pk a m H' c0 := h.same s
theorem Pk.ne (n : H p = none) (h : Pk a m H c0) : p ≠ a := by
  obtain ⟨_, _, h1, _⟩ := h
  exact (ne_of_none h1 n).symm
theorem Pk.neo (n : G a = none) (h : G p = some o) : p ≠ a := ne_of_none h n
theorem Pk.some (h : Pk a m H c0) : ∃ o, H a = some o := by
  obtain ⟨_, _, h1, _⟩ := h
  exact ⟨_, h1⟩
theorem Pk.free (hn : H' p = none) (e : But a H H') (h : Pk a m H' c0) : H p = none := by
  obtain ⟨_, _, h1, _⟩ := h
  exact But.free hn e h1
theorem Newly.pk (n : Newly H G) (h : Pk a m H c0) : G a = none := by
  obtain ⟨_, _, h1, _⟩ := h
  exact n.free h1
theorem fr_butP {S : List Addr} {H2 : Hp} (h : Pk a m H c0) (s : But a H1 H2) : Same (fr S H H1) (fr S H H2) := by
  obtain ⟨_, _, h1, _⟩ := h
  exact fr_butK h1 s
theorem Newly.backP (n : Newly H1 G) (s : But a H H1) (h : Pk a m H1 c0) : Newly H G := n.backB s (n.pk h)
theorem pk_new {n z : Int} {p : Addr} (h : Left n z) : Pk p z (L2.upd H p (.lst [.int n, .int z, .int 0])) 0 := ⟨n, 0, upd_same, h, Int.le_refl _, Int.le_refl _⟩
end
/-! ### comprehensions that draw -/
section
variable {σ : L2.St} {H H1 : Hp} {Q : VK} {K : PySem.W.Frag} {D a l : Addr} {wi : TI} {g : TG} {tt : TT} {te : TE} {vs : List Nat} {lo : Int} {n : Nat} {xs : List V} {Qd : Hp → Prop}
theorem inc_snoc {c0 inc : Int} {i : Nat} : c0 + inc * (i : Int) + inc = c0 + inc * ((i + 1 : Nat) : Int) := by
  rw [show ((i + 1 : Nat) : Int) = (i : Int) + 1 from rfl, Int.mul_add, Int.mul_one]
  omega
theorem lcR_pk {m c0 : Int} (Pz : Int → Prop) (inc : Int) (hp : Pk a m H1 c0) (nD : H1 D = none) (hn : n ≤ 1000000)
    (hs : ∀ (i : Nat) H (Z : VK) (Y : Hp → Prop), i < n → Pk a m H (c0 + inc * (i : Int)) → But a H1 H → (∀ z H4, Pz z → Pk a m H4 (c0 + inc * (i : Int) + inc) → But a H H4 → Z (.int z) H4) → LcTurn g tt te vs σ (.int (lo + i)) H Z Y)
    (hd : ∀ (ms : List Int) H, ms.length = n → (∀ z ∈ ms, Pz z) → H D = some (.lst (ms.map V.int)) → Pk a m H (c0 + inc * (n : Int)) → But a H1 H → Qd H) :
    ∃ W : Nat → Nat → Hp → Prop, (∃ m, W 0 m (upd H1 D (.lst []))) ∧ ∀ i m H, W i m H →
      ((Itr lo n).stop i H ∧ Qd H) ∨ ((Itr lo n).go i H ∧ ∃ Nx : Hp → Prop, (∀ H', Nx H' → ∃ m', m' < m ∧ W (i + 1) m' H') ∧ ∀ x H', (Itr lo n).yld i H x H' → g x (wipe σ vs) H' fun σ2 H2 => wipe σ2 vs = wipe σ vs ∧ tt σ2 H2 fun b H3 =>
        if b = true then te σ2 H3 fun y H4 => ∃ acc, H4 D = some (.lst acc) ∧ acc.length < sizeLine ∧ Nx (upd H4 D (.lst (acc ++ [y]))) else Nx H3) := by
  have hDa : D ≠ a := hp.ne nD
  refine lcR (fun i acc H => ∃ ms : List Int, acc = ms.map V.int ∧ ms.length = i ∧ (∀ z ∈ ms, Pz z) ∧ Pk a m H (c0 + inc * (i : Int)) ∧ But a H1 H) nD ⟨[], rfl, rfl, nofun, (hp.new nD).cast (by simp), But.newT nD (But.refl _ _)⟩ ?_ ?_
  · rintro i acc H Z Y hi ⟨ms, rfl, h1, h2, h3, h4⟩ hD hz _
    refine hs i H Z Y hi h3 h4 fun z H4 k1 k2 k3 => hz _ _ (k3 _ _ hDa hD) (sz4' (by rw [List.length_map]; omega)) ⟨ms ++ [z], by rw [List.map_append]; rfl, by rw [List.length_append, h1]; rfl, ?_, (k2.upd hDa).cast inc_snoc, ?_⟩
    · intro x hx
      rcases List.mem_append.mp hx with e | e
      · exact h2 x e
      · rw [List.mem_singleton.mp e]; exact k1
    · intro b o hb e
      have := k3 _ _ hb (h4 _ _ hb e)
      rw [upd_ne (ne_of_none e nD)]
      exact this
  · rintro acc H ⟨ms, rfl, h1, h2, h3, h4⟩ hD
    exact hd ms H h1 h2 hD h3 h4
theorem lcR_dq {α : Type} {m c0 : Int} (F : α → PyData) (Pz : α → Prop) (inc : Int) (hp : Pk a m H1 c0) (nD : H1 D = none) (hn : n ≤ 1000000)
    (hs : ∀ (i : Nat) H (Z : VK) (Y : Hp → Prop), i < n → Pk a m H (c0 + inc * (i : Int)) → But a H1 H → (∀ x v G H4, Pz x → Dq G v (F x) → Newly H G → Same G H4 → Pk a m H4 (c0 + inc * (i : Int) + inc) → But a H H4 → Z v H4) → LcTurn g tt te vs σ (.int (lo + i)) H Z Y)
    (hd : ∀ (xs : List α) G H, xs.length = n → (∀ x ∈ xs, Pz x) → Dq G (.ref D) (.list (xs.map F)) → Newly H1 G → Same G H → Pk a m H (c0 + inc * (n : Int)) → But a H1 H → Qd H) :
    ∃ W : Nat → Nat → Hp → Prop, (∃ m, W 0 m (upd H1 D (.lst []))) ∧ ∀ i m H, W i m H →
      ((Itr lo n).stop i H ∧ Qd H) ∨ ((Itr lo n).go i H ∧ ∃ Nx : Hp → Prop, (∀ H', Nx H' → ∃ m', m' < m ∧ W (i + 1) m' H') ∧ ∀ x H', (Itr lo n).yld i H x H' → g x (wipe σ vs) H' fun σ2 H2 => wipe σ2 vs = wipe σ vs ∧ tt σ2 H2 fun b H3 =>
        if b = true then te σ2 H3 fun y H4 => ∃ acc, H4 D = some (.lst acc) ∧ acc.length < sizeLine ∧ Nx (upd H4 D (.lst (acc ++ [y]))) else Nx H3) := by
  have hDa : D ≠ a := hp.ne nD
  refine lcR (fun i acc H => ∃ xs : List α, DqAll (fr [D] H1 H) acc (xs.map F) ∧ xs.length = i ∧ (∀ x ∈ xs, Pz x) ∧ Pk a m H (c0 + inc * (i : Int)) ∧ But a H1 H) nD ⟨[], .nil, rfl, nofun, (hp.new nD).cast (by simp), But.newT nD (But.refl _ _)⟩ ?_ ?_
  · rintro i acc H Z Y hi ⟨xs, h0, h1, h2, h3, h4⟩ hD hz _
    refine hs i H Z Y hi h3 h4 fun x v G H4 k1 k2 k3 k4 k5 k6 => ?_
    have gD : G D = none := k3.free hD
    refine hz _ _ (k6 _ _ hDa hD) (sz4' (by rw [h0.len, List.length_map]; omega)) ⟨xs ++ [x], ?_, by rw [List.length_append, h1]; rfl, ?_, (k5.upd hDa).cast inc_snoc, ?_⟩
    · rw [List.map_append]
      exact DqAll.snoc ((h0.same (fr_butP hp k6)).same (fr_upd (by simp))) (k2.same (Newly.same1 (k3.backP h4 h3) (Same.mut k4 gD) gD))
    · intro y hy
      rcases List.mem_append.mp hy with e | e
      · exact h2 y e
      · rw [List.mem_singleton.mp e]; exact k1
    · intro b o hb e
      have := k6 _ _ hb (h4 _ _ hb e)
      rw [upd_ne (ne_of_none e nD)]
      exact this
  · rintro acc H ⟨xs, h0, h1, h2, h3, h4⟩ hD
    exact hd xs (fr [] H1 H) H h1 h2 (.lst (fr_lk0 nD hD) (h0.same fr_sub)) fr_newly fr_same h3 h4
/-- new data for each item of a list, nothing changed -/
theorem lcL_new (f : Nat → PyData) (nD : H1 D = none) (hn : xs.length ≤ 1000000) (hx : SqL K H1 l xs)
    (hs : ∀ (i : Nat) (x : V) H (Z : VK) (Y : Hp → Prop), xs[i]? = some x → Same H1 H → (∀ v G H4, Dq G v (f i) → Newly H G → Same G H4 → Same H H4 → Z v H4) → LcTurn g tt te vs σ x H Z Y)
    (hd : ∀ G H, Dq G (.ref D) (.list ((List.range xs.length).map f)) → Newly H1 G → Same G H → Same H1 H → Qd H) :
    ∃ W : Nat → Nat → Hp → Prop, (∃ m, W 0 m (upd H1 D (.lst []))) ∧ ∀ i m H, W i m H →
      ((Itl K l).stop i H ∧ Qd H) ∨ ((Itl K l).go i H ∧ ∃ Nx : Hp → Prop, (∀ H', Nx H' → ∃ m', m' < m ∧ W (i + 1) m' H') ∧ ∀ x H', (Itl K l).yld i H x H' → g x (wipe σ vs) H' fun σ2 H2 => wipe σ2 vs = wipe σ vs ∧ tt σ2 H2 fun b H3 =>
        if b = true then te σ2 H3 fun y H4 => ∃ acc, H4 D = some (.lst acc) ∧ acc.length < sizeLine ∧ Nx (upd H4 D (.lst (acc ++ [y]))) else Nx H3) := by
  refine lcL (xs := xs) (fun i acc H => DqAll (fr [D] H1 H) acc ((List.range i).map f) ∧ acc.length = i ∧ Same H1 H) nD ⟨.nil, rfl, Same.new nD⟩ (fun i acc H _ q _ => q.2.2.seq hx) ?_ ?_
  · rintro i x acc H Z Y hi ⟨h0, h1, h2⟩ hD hz _
    have hi' : i < xs.length := (List.getElem?_eq_some_iff.mp hi).1
    refine hs i x H Z Y hi h2 fun v G H4 k2 k3 k4 k6 => ?_
    have gD : G D = none := k3.free hD
    refine hz _ _ (k6 _ _ hD) (sz4' (by omega)) ⟨?_, by rw [List.length_append, h1]; rfl, Same.mut (h2.trans k6) nD⟩
    rw [List.range_succ, List.map_append]
    exact DqAll.snoc ((h0.same (fr_mono k6)).same (fr_upd (by simp))) (k2.same (Newly.same1 (k3.back h2) (Same.mut k4 gD) gD))
  · rintro acc H ⟨h0, h1, h2⟩ hD
    exact hd (fr [] H1 H) H (.lst (fr_lk0 nD hD) (h0.same fr_sub)) fr_newly fr_same h2
theorem lcT (P : Nat → List V → Hp → Prop) (nD : H1 D = none) (h0 : P 0 [] (upd H1 D (.lst []))) (hl : ∀ i acc H, i ≤ xs.length → P i acc H → H D = some (.lst acc) → SqT K H l xs)
    (hs : ∀ i x acc H (Z : VK) (Y : Hp → Prop), xs[i]? = some x → P i acc H → H D = some (.lst acc) → (∀ y H4, H4 D = some (.lst acc) → acc.length < sizeLine → P (i + 1) (acc ++ [y]) (upd H4 D (.lst (acc ++ [y]))) → Z y H4) →
      (∀ H4, H4 D = some (.lst acc) → P (i + 1) acc H4 → Y H4) → LcTurn g tt te vs σ x H Z Y) (hd : ∀ acc H, P xs.length acc H → H D = some (.lst acc) → Qd H) :
    ∃ W : Nat → Nat → Hp → Prop, (∃ m, W 0 m (upd H1 D (.lst []))) ∧ ∀ i m H, W i m H →
      ((Itt K l).stop i H ∧ Qd H) ∨ ((Itt K l).go i H ∧ ∃ Nx : Hp → Prop, (∀ H', Nx H' → ∃ m', m' < m ∧ W (i + 1) m' H') ∧ ∀ x H', (Itt K l).yld i H x H' → g x (wipe σ vs) H' fun σ2 H2 => wipe σ2 vs = wipe σ vs ∧ tt σ2 H2 fun b H3 =>
        if b = true then te σ2 H3 fun y H4 => ∃ acc, H4 D = some (.lst acc) ∧ acc.length < sizeLine ∧ Nx (upd H4 D (.lst (acc ++ [y]))) else Nx H3) := by
  refine lc_tup (xs := xs) (fun i H => ∃ acc, P i acc H ∧ H D = some (.lst acc)) ⟨[], h0, upd_same⟩ (fun i H hi hp => ?_) (fun i x H hi hp => ?_) (fun H hp => ?_)
  · obtain ⟨acc, hp, ha⟩ := hp
    exact hl i acc H hi hp ha
  · obtain ⟨acc, hp, ha⟩ := hp
    exact hs i x acc H _ _ hi hp ha (fun y H4 h1 h2 h3 => ⟨acc, h1, h2, _, h3, upd_same⟩) fun H4 h1 h2 => ⟨acc, h2, h1⟩
  · obtain ⟨acc, hp, ha⟩ := hp
    exact hd acc H hp ha
theorem lcT_new (f : Nat → PyData) (nD : H1 D = none) (hn : xs.length ≤ 1000000) (hx : SqT K H1 l xs)
    (hs : ∀ (i : Nat) (x : V) H (Z : VK) (Y : Hp → Prop), xs[i]? = some x → Same H1 H → (∀ v G H4, Dq G v (f i) → Newly H G → Same G H4 → Same H H4 → Z v H4) → LcTurn g tt te vs σ x H Z Y)
    (hd : ∀ G H, Dq G (.ref D) (.list ((List.range xs.length).map f)) → Newly H1 G → Same G H → Same H1 H → Qd H) :
    ∃ W : Nat → Nat → Hp → Prop, (∃ m, W 0 m (upd H1 D (.lst []))) ∧ ∀ i m H, W i m H →
      ((Itt K l).stop i H ∧ Qd H) ∨ ((Itt K l).go i H ∧ ∃ Nx : Hp → Prop, (∀ H', Nx H' → ∃ m', m' < m ∧ W (i + 1) m' H') ∧ ∀ x H', (Itt K l).yld i H x H' → g x (wipe σ vs) H' fun σ2 H2 => wipe σ2 vs = wipe σ vs ∧ tt σ2 H2 fun b H3 =>
        if b = true then te σ2 H3 fun y H4 => ∃ acc, H4 D = some (.lst acc) ∧ acc.length < sizeLine ∧ Nx (upd H4 D (.lst (acc ++ [y]))) else Nx H3) := by
  refine lcT (xs := xs) (fun i acc H => DqAll (fr [D] H1 H) acc ((List.range i).map f) ∧ acc.length = i ∧ Same H1 H) nD ⟨.nil, rfl, Same.new nD⟩ (fun i acc H _ q _ => Same.seqT q.2.2 hx) ?_ ?_
  · rintro i x acc H Z Y hi ⟨h0, h1, h2⟩ hD hz _
    have hi' : i < xs.length := (List.getElem?_eq_some_iff.mp hi).1
    refine hs i x H Z Y hi h2 fun v G H4 k2 k3 k4 k6 => ?_
    have gD : G D = none := k3.free hD
    refine hz _ _ (k6 _ _ hD) (sz4' (by omega)) ⟨?_, by rw [List.length_append, h1]; rfl, Same.mut (h2.trans k6) nD⟩
    rw [List.range_succ, List.map_append]
    exact DqAll.snoc ((h0.same (fr_mono k6)).same (fr_upd (by simp))) (k2.same (Newly.same1 (k3.back h2) (Same.mut k4 gD) gD))
  · rintro acc H ⟨h0, h1, h2⟩ hD
    exact hd (fr [] H1 H) H (.lst (fr_lk0 nD hD) (h0.same fr_sub)) fr_newly fr_same h2
theorem lcR_new (f : Nat → PyData) (nD : H1 D = none) (hn : n ≤ 1000000)
    (hs : ∀ (i : Nat) H (Z : VK) (Y : Hp → Prop), i < n → Same H1 H → (∀ v G H4, Dq G v (f i) → Newly H G → Same G H4 → Same H H4 → Z v H4) → LcTurn g tt te vs σ (.int (lo + i)) H Z Y)
    (hd : ∀ G H, Dq G (.ref D) (.list ((List.range n).map f)) → Newly H1 G → Same G H → Same H1 H → Qd H) :
    ∃ W : Nat → Nat → Hp → Prop, (∃ m, W 0 m (upd H1 D (.lst []))) ∧ ∀ i m H, W i m H →
      ((Itr lo n).stop i H ∧ Qd H) ∨ ((Itr lo n).go i H ∧ ∃ Nx : Hp → Prop, (∀ H', Nx H' → ∃ m', m' < m ∧ W (i + 1) m' H') ∧ ∀ x H', (Itr lo n).yld i H x H' → g x (wipe σ vs) H' fun σ2 H2 => wipe σ2 vs = wipe σ vs ∧ tt σ2 H2 fun b H3 =>
        if b = true then te σ2 H3 fun y H4 => ∃ acc, H4 D = some (.lst acc) ∧ acc.length < sizeLine ∧ Nx (upd H4 D (.lst (acc ++ [y]))) else Nx H3) := by
  refine lcR (fun i acc H => DqAll (fr [D] H1 H) acc ((List.range i).map f) ∧ acc.length = i ∧ Same H1 H) nD ⟨.nil, rfl, Same.new nD⟩ ?_ ?_
  · rintro i acc H Z Y hi ⟨h0, h1, h2⟩ hD hz _
    refine hs i H Z Y hi h2 fun v G H4 k2 k3 k4 k6 => ?_
    have gD : G D = none := k3.free hD
    refine hz _ _ (k6 _ _ hD) (sz4' (by omega)) ⟨?_, by rw [List.length_append, h1]; rfl, Same.mut (h2.trans k6) nD⟩
    rw [List.range_succ, List.map_append]
    exact DqAll.snoc ((h0.same (fr_mono k6)).same (fr_upd (by simp))) (k2.same (Newly.same1 (k3.back h2) (Same.mut k4 gD) gD))
  · rintro acc H ⟨h0, h1, h2⟩ hD
    exact hd (fr [] H1 H) H (.lst (fr_lk0 nD hD) (h0.same fr_sub)) fr_newly fr_same h2
/-! ### tuple of a list -/
theorem i_tupOfL {p : Addr} (h : SqL K H p xs) (q : ∀ l, H l = none → Q (.ref l) (upd H l (.tup xs))) : rTupleOf K [.ref p] H Q := ⟨p, xs, rfl, .inl ⟨h, q⟩⟩
end
/-! ### how deep data are -/
mutual
def dep : PyData → Nat
  | .list xs => depA xs + 1
  | .tuple xs => depA xs + 1
  | _ => 0
def depA : List PyData → Nat
  | [] => 0
  | d :: ds => max (dep d) (depA ds)
end
/-! how wide -/
mutual
def wid : PyData → Nat
  | .list xs => max xs.length (widA xs)
  | .tuple xs => max xs.length (widA xs)
  | _ => 0
def widA : List PyData → Nat
  | [] => 0
  | d :: ds => max (wid d) (widA ds)
end
theorem widA_mem : ∀ {ds : List PyData} {d : PyData}, d ∈ ds → wid d ≤ widA ds
  | e :: ds, d, h => by
    rw [widA]
    rcases List.mem_cons.mp h with z | z
    · rw [z]; omega
    · have := widA_mem z
      omega
theorem widA_le {k : Nat} : ∀ {ds : List PyData}, (∀ d ∈ ds, wid d ≤ k) → widA ds ≤ k
  | [], _ => Nat.zero_le _
  | e :: ds, h => by
    rw [widA]
    have := h e List.mem_cons_self
    have := widA_le fun d hd => h d (List.mem_cons_of_mem _ hd)
    omega
theorem depA_mem : ∀ {ds : List PyData} {d : PyData}, d ∈ ds → dep d ≤ depA ds
  | e :: ds, d, h => by
    rw [depA]
    rcases List.mem_cons.mp h with z | z
    · rw [z]; omega
    · have := depA_mem z
      omega
theorem depA_le {k : Nat} : ∀ {ds : List PyData}, (∀ d ∈ ds, dep d ≤ k) → depA ds ≤ k
  | [], _ => Nat.zero_le _
  | e :: ds, h => by
    rw [depA]
    have := h e List.mem_cons_self
    have := depA_le fun d hd => h d (List.mem_cons_of_mem _ hd)
    omega
/-- no object at all -/
def noH : Hp := fun _ => none
theorem noH_newly {H : Hp} : Newly H noH := fun _ _ _ => rfl
theorem noH_same {H : Hp} : Same noH H := fun _ _ h => by cases h
theorem rng_get {α : Type} {x : α} (ds : List α) : (List.range ds.length).map (fun i => (ds[i]?).getD x) = ds := by
  apply List.ext_getElem?
  intro i
  rw [List.getElem?_map]
  by_cases c : i < ds.length
  · rw [List.getElem?_range c, List.getElem?_eq_getElem c]
    show some ((ds[i]?).getD x) = _
    rw [List.getElem?_eq_getElem c]
    rfl
  · rw [List.getElem?_eq_none (by rw [List.length_range]; omega), List.getElem?_eq_none (by omega)]
    rfl
/-- int of a truth that is known -/
theorem i_intY {b : Bool} {R : Bool → Prop} {S : Prop} (e : b = true) (q : R true) : S ∨ ∃ k, [V.bl b] = [.bl k] ∧ R k := by
  subst e
  exact .inr ⟨true, rfl, q⟩
theorem i_intN {b : Bool} {R : Bool → Prop} {S : Prop} (e : b = false) (q : R false) : S ∨ ∃ k, [V.bl b] = [.bl k] ∧ R k := by
  subst e
  exact .inr ⟨false, rfl, q⟩
/-! ### data that compare -/
mutual
theorem depth_dep : ∀ {d : PyData}, d.canLay0 = true → d.depth = dep d
  | .none, _ => by simp [PyData.depth, dep]
  | .bool _, _ => by simp [PyData.depth, dep]
  | .int _, _ => by simp [PyData.depth, dep]
  | .str _, _ => by simp [PyData.depth, dep]
  | .list xs, h => by
    have := depthA_dep (ds := xs) (by simpa [PyData.canLay0] using h)
    simp [PyData.depth, dep, this]
  | .tuple xs, h => by
    have := depthA_dep (ds := xs) (by simpa [PyData.canLay0] using h)
    simp [PyData.depth, dep, this]
  | .dict _, h => by simp [PyData.canLay0] at h
theorem depthA_dep : ∀ {ds : List PyData}, PyData.canLayAll0 ds = true → PyData.depthAll ds = depA ds
  | [], _ => by simp [PyData.depthAll, depA]
  | d :: ds, h => by
    rw [PyData.canLayAll0, Bool.and_eq_true] at h
    rw [PyData.depthAll, depA, depth_dep h.1, depthA_dep h.2]
end
theorem shaped_of {d : PyData} (h : d.canLay0 = true) (h2 : dep d ≤ 64) : SeqAt.shaped d = true := by
  unfold SeqAt.shaped
  rw [h, depth_dep h, Bool.true_and, decide_eq_true h2]
theorem lay_all : ∀ {ds : List PyData}, (∀ d ∈ ds, d.canLay0 = true) → PyData.canLayAll0 ds = true
  | [], _ => by simp [PyData.canLayAll0]
  | d :: ds, h => by
    rw [PyData.canLayAll0, h d List.mem_cons_self, lay_all fun e he => h e (List.mem_cons_of_mem _ he)]
    rfl
theorem lay_mem : ∀ {ds : List PyData} {d : PyData}, PyData.canLayAll0 ds = true → d ∈ ds → d.canLay0 = true
  | e :: ds, d, h, hd => by
    rw [PyData.canLayAll0, Bool.and_eq_true] at h
    rcases List.mem_cons.mp hd with z | z
    · rw [z]; exact h.1
    · exact lay_mem h.2 z
theorem lay_plan (r : List Int) : (planD r).canLay0 = true := by simp [planD, PyData.canLay0, canLay_ints]
theorem dep_ints (r : List Int) : depA (r.map PyData.int) = 0 := by
  have := depA_le (k := 0) (ds := r.map PyData.int) fun d hd => by
    obtain ⟨x, _, rfl⟩ := List.mem_map.mp hd
    simp [dep]
  omega
theorem wid_ints (r : List Int) : widA (r.map PyData.int) = 0 := by
  have := widA_le (k := 0) (ds := r.map PyData.int) fun d hd => by
    obtain ⟨x, _, rfl⟩ := List.mem_map.mp hd
    simp [wid]
  omega
theorem dep_plan (r : List Int) : dep (planD r) = 1 := by simp [planD, dep, dep_ints]
theorem wid_plan (r : List Int) : wid (planD r) = r.length := by simp [planD, wid, wid_ints]
theorem dep_rows (rs : List (List Int)) : dep (.list (rs.map planD)) ≤ 2 := by
  have := depA_le (k := 1) (ds := rs.map planD) fun d hd => by
    obtain ⟨x, _, rfl⟩ := List.mem_map.mp hd
    rw [dep_plan]
    omega
  rw [dep]
  omega
theorem wid_rows {k : Nat} (rs : List (List Int)) (h : rs.length ≤ k) (h2 : ∀ r ∈ rs, r.length ≤ k) : wid (.list (rs.map planD)) ≤ k := by
  have := widA_le (k := k) (ds := rs.map planD) fun d hd => by
    obtain ⟨x, hx, rfl⟩ := List.mem_map.mp hd
    rw [wid_plan]
    exact h2 x hx
  rw [wid, List.length_map]
  omega
theorem lay_rows (rs : List (List Int)) : PyData.canLay0 (.list (rs.map planD)) = true := by
  rw [PyData.canLay0]
  exact lay_all fun d hd => by
    obtain ⟨x, _, rfl⟩ := List.mem_map.mp hd
    exact lay_plan x
/-- what is in G, new to H, is apart from what H has -/
theorem Newly.sep {H G G1 : Hp} {p : Addr} {o : HO} (n : Newly H G) (s : Same G1 H) (h : G p = some o) : G1 p = none := by
  cases e : G1 p with
  | none => rfl
  | some u =>
    have := n p u (s _ _ e)
    rw [this] at h
    cases h
theorem Same.updB {G H : Hp} {P : Addr} {o : HO} (s : Same G H) : Same (upd G P o) (upd H P o) := fun b u h => by
  by_cases c : b = P
  · rw [c, upd_same] at h ⊢
    exact h
  · rw [upd_ne c] at h ⊢
    exact s _ _ h
end Hf
/-! ## battles -/
namespace Hf
open PySem PySem.Spec PyProof.Rows L2
inductive Fld where
  | more (w t : Int)
  | lead (w l : Int)
  | tab (rows : List (List Int))
instance : Inhabited Fld := ⟨.more 1 0⟩
def fldD : Fld → PyData
  | .more w t => .tuple [.str (PySem.Str.ofString "more"), .int w, .int t]
  | .lead w l => .tuple [.str (PySem.Str.ofString "lead"), .int w, .int l]
  | .tab rows => .tuple [.str (PySem.Str.ofString "table"), .list (rows.map planD)]
def batD (f s : Int) (fs : List Fld) : PyData := .tuple [.int f, .int s, .list (fs.map fldD)]
def Sm (x : Int) : Prop := -(2 ^ 110) < x ∧ x < 2 ^ 110
def FldOk (f s : Int) : Fld → Prop
  | .more w t => 1 ≤ w ∧ 0 - w ≤ t ∧ t ≤ w
  | .lead w _ => 1 ≤ w
  | .tab rows => (rows.length : Int) = f + 1 ∧ ∀ r ∈ rows, (r.length : Int) = s + 1
/-- its numbers are not great -/
def FldSm : Fld → Prop
  | .more w t => Sm w ∧ Sm t
  | .lead w l => Sm w ∧ Sm l
  | .tab rows => ∀ r ∈ rows, ∀ x ∈ r, Sm x
structure BatOk (f s : Int) (fs : List Fld) : Prop where
  hf : 0 ≤ f ∧ f ≤ 10
  hs : 0 ≤ s ∧ s ≤ 10
  ne : 1 ≤ fs.length ∧ fs.length ≤ 5
  ok : ∀ x ∈ fs, FldOk f s x
def paidV : Fld → Int → Int → Int
  | .more w t, x, y => if x = y then t else if x > y then w else 0 - w
  | .lead w l, x, y => if x ≥ y + l then w else 0 - w
  | .tab rows, x, y => (((rows[x.toNat]?).getD [])[y.toNat]?).getD 0
section
variable {H : Hp} {v : V}
theorem fld_more {w t : Int} (h : Dq H v (fldD (.more w t))) : ∃ a, v = .ref a ∧ H a = some (.tup [.str (PySem.Str.ofString "more"), .int w, .int t]) := by
  obtain ⟨a, xs, rfl, h1, h2⟩ := Dq.tuple_inv h
  cases h2 with
  | cons a b =>
    cases b with
    | cons c d =>
      cases d with
      | cons e f =>
        cases f
        obtain rfl := Dq.str_inv a
        obtain rfl := Dq.int_inv c
        obtain rfl := Dq.int_inv e
        exact ⟨_, rfl, h1⟩
theorem fld_lead {w t : Int} (h : Dq H v (fldD (.lead w t))) : ∃ a, v = .ref a ∧ H a = some (.tup [.str (PySem.Str.ofString "lead"), .int w, .int t]) := by
  obtain ⟨a, xs, rfl, h1, h2⟩ := Dq.tuple_inv h
  cases h2 with
  | cons a b =>
    cases b with
    | cons c d =>
      cases d with
      | cons e f =>
        cases f
        obtain rfl := Dq.str_inv a
        obtain rfl := Dq.int_inv c
        obtain rfl := Dq.int_inv e
        exact ⟨_, rfl, h1⟩
theorem fld_tab {rows : List (List Int)} (h : Dq H v (fldD (.tab rows))) : ∃ a p xs, v = .ref a ∧ H a = some (.tup [.str (PySem.Str.ofString "table"), .ref p]) ∧ H p = some (.lst xs) ∧ DqAll H xs (rows.map planD) := by
  obtain ⟨a, xs, rfl, h1, h2⟩ := Dq.tuple_inv h
  cases h2 with
  | cons a b =>
    cases b with
    | cons c d =>
      cases d
      obtain rfl := Dq.str_inv a
      obtain ⟨p, ys, rfl, h3, h4⟩ := Dq.list_inv c
      exact ⟨_, p, ys, rfl, h1, h3, h4⟩
theorem row_at {xs : List V} {rows : List (List Int)} (q : DqAll H xs (rows.map planD)) {k : Nat} {w : V} (hw : xs[k]? = some w) : ∃ r p, rows[k]? = some r ∧ w = .ref p ∧ H p = some (.lst (r.map V.int)) := by
  obtain ⟨d, e, q⟩ := q.get' hw
  rw [List.getElem?_map] at e
  cases g : rows[k]? with
  | none => rw [g] at e; cases e
  | some r =>
    rw [g] at e
    cases e
    obtain ⟨p, ys, rfl, h3, h4⟩ := Dq.list_inv q
    obtain rfl := DqAll.ints h4
    exact ⟨r, p, rfl, rfl, h3⟩
theorem bat_inv {f s : Int} {fs : List Fld} (h : Dq H v (batD f s fs)) : ∃ a p xs, v = .ref a ∧ H a = some (.tup [.int f, .int s, .ref p]) ∧ H p = some (.lst xs) ∧ DqAll H xs (fs.map fldD) := by
  obtain ⟨a, xs, rfl, h1, h2⟩ := Dq.tuple_inv h
  cases h2 with
  | cons a b =>
    cases b with
    | cons c d =>
      cases d with
      | cons e f =>
        cases f
        obtain rfl := Dq.int_inv a
        obtain rfl := Dq.int_inv c
        obtain ⟨p, ys, rfl, h3, h4⟩ := Dq.list_inv e
        exact ⟨_, p, ys, rfl, h1, h3, h4⟩
theorem fld_at {xs : List V} {fs : List Fld} (q : DqAll H xs (fs.map fldD)) {k : Nat} {w : V} (hw : xs[k]? = some w) : ∃ f, fs[k]? = some f ∧ Dq H w (fldD f) := by
  obtain ⟨d, e, q⟩ := q.get' hw
  rw [List.getElem?_map] at e
  cases g : fs[k]? with
  | none => rw [g] at e; cases e
  | some r =>
    rw [g] at e
    cases e
    exact ⟨r, rfl, q⟩
theorem more_mk {a : Addr} {w t : Int} (h : H a = some (.tup [.str (PySem.Str.ofString "more"), .int w, .int t])) : Dq H (.ref a) (fldD (.more w t)) := .tup h (.cons (.str _) (.cons (.int _) (.cons (.int _) .nil)))
theorem lead_mk {a : Addr} {w t : Int} (h : H a = some (.tup [.str (PySem.Str.ofString "lead"), .int w, .int t])) : Dq H (.ref a) (fldD (.lead w t)) := .tup h (.cons (.str _) (.cons (.int _) (.cons (.int _) .nil)))
theorem tab_mk {a p : Addr} {xs : List V} {rows : List (List Int)} (h : H a = some (.tup [.str (PySem.Str.ofString "table"), .ref p])) (h1 : H p = some (.lst xs)) (h2 : DqAll H xs (rows.map planD)) : Dq H (.ref a) (fldD (.tab rows)) := .tup h (.cons (.str _) (.cons (.lst h1 h2) .nil))
theorem tab_mk' {a : Addr} {v : V} {rows : List (List Int)} (h : H a = some (.tup [.str (PySem.Str.ofString "table"), v])) (h1 : Dq H v (.list (rows.map planD))) : Dq H (.ref a) (fldD (.tab rows)) := .tup h (.cons (.str _) (.cons h1 .nil))
theorem bat_mk' {a : Addr} {v : V} {f s : Int} {fs : List Fld} (h : H a = some (.tup [.int f, .int s, v])) (h1 : Dq H v (.list (fs.map fldD))) : Dq H (.ref a) (batD f s fs) := .tup h (.cons (.int _) (.cons (.int _) (.cons h1 .nil)))
theorem bat_mk {a p : Addr} {xs : List V} {f s : Int} {fs : List Fld} (h : H a = some (.tup [.int f, .int s, .ref p])) (h1 : H p = some (.lst xs)) (h2 : DqAll H xs (fs.map fldD)) : Dq H (.ref a) (batD f s fs) := .tup h (.cons (.int _) (.cons (.int _) (.cons (.lst h1 h2) .nil)))
theorem row_mk {p : Addr} {r : List Int} (h : H p = some (.lst (r.map V.int))) : Dq H (.ref p) (planD r) := .lst h (dq_ints r)
end
theorem BatOk.at {f s : Int} {fs : List Fld} (k : BatOk f s fs) {i : Nat} {x : Fld} (e : fs[i]? = some x) : FldOk f s x := k.ok x (List.mem_of_getElem? e)
theorem DqAll.rep {H : Hp} {v : V} {d : PyData} (h : Dq H v d) : ∀ n : Nat, DqAll H (List.replicate n v) (List.replicate n d)
  | 0 => .nil
  | n + 1 => .cons h (DqAll.rep h n)
theorem lay_fld (fl : Fld) : (fldD fl).canLay0 = true := by
  cases fl with
  | more w t => simp [fldD, PyData.canLay0, PyData.canLayAll0]; decide +kernel
  | lead w t => simp [fldD, PyData.canLay0, PyData.canLayAll0]; decide +kernel
  | tab rows =>
    simp [fldD, PyData.canLay0, PyData.canLayAll0, lay_rows]
    exact ⟨by decide +kernel, by have := lay_rows rows; rwa [PyData.canLay0] at this⟩
theorem lay_bat (f s : Int) (fs : List Fld) : (batD f s fs).canLay0 = true := by
  have : PyData.canLay0 (.list (fs.map fldD)) = true := by
    rw [PyData.canLay0]
    exact lay_all fun d hd => by
      obtain ⟨x, _, rfl⟩ := List.mem_map.mp hd
      exact lay_fld x
  rw [PyData.canLay0] at this
  simp [batD, PyData.canLay0, PyData.canLayAll0, this]
theorem dep_fld (fl : Fld) : dep (fldD fl) ≤ 3 := by
  cases fl with
  | more w t => simp [fldD, dep, depA]
  | lead w t => simp [fldD, dep, depA]
  | tab rows =>
    have := dep_rows rows
    simp only [fldD, dep, depA] at this ⊢
    omega
theorem dep_bat (f s : Int) (fs : List Fld) : dep (batD f s fs) ≤ 5 := by
  have := depA_le (k := 3) (ds := fs.map fldD) fun d hd => by
    obtain ⟨x, _, rfl⟩ := List.mem_map.mp hd
    exact dep_fld x
  simp only [batD, dep, depA] at this ⊢
  omega
theorem wid_fld {f s : Int} {fl : Fld} (hf : f ≤ 10) (hs : s ≤ 10) (k : FldOk f s fl) : wid (fldD fl) ≤ 20 := by
  cases fl with
  | more w t => rw [fldD]; simp [wid, widA]
  | lead w t => rw [fldD]; simp [wid, widA]
  | tab rows =>
    obtain ⟨h1, h2⟩ := k
    have := wid_rows (k := 20) rows (by omega) (fun r hr => by have := h2 r hr; omega)
    simp only [fldD, wid, widA, List.length_cons, List.length_nil] at this ⊢
    omega
theorem wid_bat {f s : Int} {fs : List Fld} (hf : f ≤ 10) (hs : s ≤ 10) (hl : fs.length ≤ 20) (k : ∀ x ∈ fs, FldOk f s x) : wid (batD f s fs) ≤ 20 := by
  have := widA_le (k := 20) (ds := fs.map fldD) fun d hd => by
    obtain ⟨x, hx, rfl⟩ := List.mem_map.mp hd
    exact wid_fld hf hs (k x hx)
  simp only [batD, wid, widA, List.length_cons, List.length_nil, List.length_map] at this ⊢
  omega
theorem shaped_bat (f s : Int) (fs : List Fld) : SeqAt.shaped (batD f s fs) = true := shaped_of (lay_bat f s fs) (Nat.le_trans (dep_bat f s fs) (by decide))
/-- a row changed through its address, whichever rows it is -/
theorem rows_set {G : Hp} {xs : List V} {rs : List (List Int)} {P : Addr} {r r' : List Int} (q : DqAll G xs (rs.map planD)) (hP : G P = some (.lst (r.map V.int))) (hl : r'.length = r.length) :
    ∃ rs' : List (List Int), DqAll (upd G P (.lst (r'.map V.int))) xs (rs'.map planD) ∧ rs'.length = rs.length ∧ ∀ L, (∀ z ∈ rs, z.length = L) → ∀ z ∈ rs', z.length = L := by
  induction rs generalizing xs with
  | nil =>
    cases q
    exact ⟨[], .nil, rfl, fun _ _ => nofun⟩
  | cons r0 rs ih =>
    cases q with
    | cons h q =>
      obtain ⟨rs', g1, g2, g3⟩ := ih q
      obtain ⟨p, ys, rfl, h3, h4⟩ := Dq.list_inv h
      obtain rfl := DqAll.ints h4
      by_cases c : p = P
      · subst c
        refine ⟨r' :: rs', .cons (row_mk upd_same) g1, by rw [List.length_cons, g2, List.length_cons], fun L hL z hz => ?_⟩
        rcases List.mem_cons.mp hz with e | e
        · rw [h3] at hP
          have e2 := congrArg List.length (HO.lst.inj (Option.some.inj hP))
          rw [List.length_map, List.length_map] at e2
          rw [e, hl, ← e2]
          exact hL r0 List.mem_cons_self
        · exact g3 L (fun z hz => hL z (List.mem_cons_of_mem _ hz)) z e
      · refine ⟨r0 :: rs', .cons (row_mk (lk_upd c h3)) g1, by rw [List.length_cons, g2, List.length_cons], fun L hL z hz => ?_⟩
        rcases List.mem_cons.mp hz with e | e
        · rw [e]; exact hL r0 List.mem_cons_self
        · exact g3 L (fun z hz => hL z (List.mem_cons_of_mem _ hz)) z e
/-! ### what is won -/
def fldAt (fs : List Fld) (k : Int) : Fld := (fs[k.toNat]?).getD default
def nAt (ms : List Int) (k : Int) : Int := (ms[k.toNat]?).getD 0
def gainV (fs : List Fld) (ms ns : List Int) : Int := ((List.range fs.length).map fun i : Nat => paidV (fldAt fs i) (nAt ms i) (nAt ns i)).sum
def RiseP (fl : Fld) (f s : Int) : Prop := ∀ x y : Int, 0 ≤ x → x ≤ f → 0 ≤ y → y ≤ s → (x < f → paidV fl x y ≤ paidV fl (x + 1) y) ∧ (y < s → paidV fl x (y + 1) ≤ paidV fl x y)
def RiseA (fs : List Fld) (f s : Int) : Prop := ∀ x ∈ fs, RiseP x f s
def PlainF : Fld → Prop
  | .tab _ => False
  | _ => True
theorem rise_plain {f s : Int} {fl : Fld} (k : FldOk f s fl) (h : PlainF fl) : RiseP fl f s := by
  intro x y _ _ _ _
  cases fl with
  | more w t =>
    obtain ⟨h1, h2, h3⟩ := k
    refine ⟨fun _ => ?_, fun _ => ?_⟩
    · show (if x = y then t else if x > y then w else 0 - w) ≤ (if x + 1 = y then t else if x + 1 > y then w else 0 - w)
      split <;> split <;> (try split) <;> (try split) <;> omega
    · show (if x = y + 1 then t else if x > y + 1 then w else 0 - w) ≤ (if x = y then t else if x > y then w else 0 - w)
      split <;> split <;> (try split) <;> (try split) <;> omega
  | lead w l =>
    have h1 : 1 ≤ w := k
    refine ⟨fun _ => ?_, fun _ => ?_⟩
    · show (if x ≥ y + l then w else 0 - w) ≤ (if x + 1 ≥ y + l then w else 0 - w)
      split <;> split <;> omega
    · show (if x ≥ y + 1 + l then w else 0 - w) ≤ (if x ≥ y + l then w else 0 - w)
      split <;> split <;> omega
  | tab _ => exact h.elim
theorem rise_pw {fl : Fld} {f s y : Int} (h : RiseP fl f s) (hy : 0 ≤ y ∧ y ≤ s) : ∀ n : Nat, (n : Int) ≤ f + 1 → ((List.range n).map fun i : Nat => paidV fl i y).Pairwise fun a b => a ≤ b := by
  have mono : ∀ d i : Nat, ((i + d : Nat) : Int) ≤ f → paidV fl i y ≤ paidV fl ((i + d : Nat) : Int) y := by
    intro d
    induction d with
    | zero => intro i _; exact Int.le_refl _
    | succ d ih =>
      intro i hi
      have h1 := ih i (by omega)
      have h2 := (h ((i + d : Nat) : Int) y (by omega) (by omega) hy.1 hy.2).1 (by omega)
      have e : ((i + (d + 1) : Nat) : Int) = ((i + d : Nat) : Int) + 1 := rfl
      rw [e]
      omega
  intro n hn
  rw [List.pairwise_map]
  refine List.Pairwise.imp_of_mem ?_ (List.pairwise_lt_range (n := n))
  intro a b ha hb hab
  have := mono (b - a) a (by have := List.mem_range.mp hb; omega)
  rw [show a + (b - a) = b by omega] at this
  exact this
def EvenP (fs : List Fld) (f s : Int) : Prop := f = s ∧ ∀ fl ∈ fs, ∀ x y : Int, 0 ≤ x → x ≤ f → 0 ≤ y → y ≤ x → paidV fl x y = 0 - paidV fl y x
/-! ### the sides exchanged -/
def exF (s : Int) : Fld → Fld
  | .more w t => .more w (0 - t)
  | .lead w l => .lead w (1 - l)
  | .tab rows => .tab ((List.range (s + 1).toNat).map fun y => rows.map fun r => 0 - (r[y]?).getD 0)
theorem exF_ok {f s : Int} {fl : Fld} (hf : 0 ≤ f) (hs : 0 ≤ s) (k : FldOk f s fl) : FldOk s f (exF s fl) := by
  cases fl with
  | more w t =>
    obtain ⟨h1, h2, h3⟩ := k
    exact ⟨h1, by omega, by omega⟩
  | lead w l => exact k
  | tab rows =>
    obtain ⟨h1, h2⟩ := k
    refine ⟨?_, ?_⟩
    · rw [List.length_map, List.length_range]
      omega
    · intro r hr
      obtain ⟨y, _, rfl⟩ := List.mem_map.mp hr
      rw [List.length_map]
      exact h1
theorem ex_ok {f s : Int} {fs : List Fld} (k : BatOk f s fs) : BatOk s f (fs.map (exF s)) := ⟨k.hs, k.hf, by rw [List.length_map]; exact k.ne, fun x hx => by
  obtain ⟨y, hy, rfl⟩ := List.mem_map.mp hx
  exact exF_ok k.hf.1 k.hs.1 (k.ok y hy)⟩
theorem ex_paid {f s : Int} {fl : Fld} (k : FldOk f s fl) {x y : Int} (hx : 0 ≤ x ∧ x ≤ f) (hy : 0 ≤ y ∧ y ≤ s) : paidV (exF s fl) y x = 0 - paidV fl x y := by
  cases fl with
  | more w t =>
    show (if y = x then 0 - t else if y > x then w else 0 - w) = 0 - (if x = y then t else if x > y then w else 0 - w)
    split <;> split <;> (try split) <;> (try split) <;> omega
  | lead w l =>
    show (if y ≥ x + (1 - l) then w else 0 - w) = 0 - (if x ≥ y + l then w else 0 - w)
    split <;> split <;> omega
  | tab rows =>
    obtain ⟨h1, h2⟩ := k
    show (((((List.range (s + 1).toNat).map fun y => rows.map fun r => 0 - (r[y]?).getD 0)[y.toNat]?).getD [])[x.toNat]?).getD 0 = 0 - ((((rows[x.toNat]?).getD [])[y.toNat]?).getD 0)
    rw [List.getElem?_map, List.getElem?_range (by omega)]
    show (((rows.map fun r => 0 - (r[y.toNat]?).getD 0)[x.toNat]?).getD 0) = _
    rw [List.getElem?_map]
    have hx' : x.toNat < rows.length := by omega
    rw [List.getElem?_eq_getElem hx']
    rfl
theorem ex_rise1 {f s : Int} {fl : Fld} (k : FldOk f s fl) (h : RiseP fl f s) : RiseP (exF s fl) s f := by
  intro y x h1 h2 h3 h4
  obtain ⟨g1, g2⟩ := h x y h3 h4 h1 h2
  refine ⟨fun c => ?_, fun c => ?_⟩
  · rw [ex_paid k ⟨h3, h4⟩ ⟨h1, h2⟩, ex_paid k ⟨h3, h4⟩ (y := y + 1) (by omega)]
    have := g2 c
    omega
  · rw [ex_paid k ⟨h3, h4⟩ ⟨h1, h2⟩, ex_paid k (x := x + 1) (by omega) ⟨h1, h2⟩]
    have := g1 c
    omega
theorem ex_rise2 {f s : Int} {fl : Fld} (k : FldOk f s fl) (h : RiseP (exF s fl) s f) : RiseP fl f s := by
  intro x y h1 h2 h3 h4
  obtain ⟨g1, g2⟩ := h y x h3 h4 h1 h2
  refine ⟨fun c => ?_, fun c => ?_⟩
  · have := g2 c
    rw [ex_paid k ⟨h1, h2⟩ ⟨h3, h4⟩, ex_paid k (x := x + 1) (by omega) ⟨h3, h4⟩] at this
    omega
  · have := g1 c
    rw [ex_paid k ⟨h1, h2⟩ ⟨h3, h4⟩, ex_paid k ⟨h1, h2⟩ (y := y + 1) (by omega)] at this
    omega
theorem ex_rise {f s : Int} {fs : List Fld} (k : BatOk f s fs) : RiseA (fs.map (exF s)) s f ↔ RiseA fs f s := by
  refine ⟨fun h x hx => ex_rise2 (k.ok x hx) (h _ (List.mem_map_of_mem hx)), fun h x hx => ?_⟩
  obtain ⟨y, hy, rfl⟩ := List.mem_map.mp hx
  exact ex_rise1 (k.ok y hy) (h y hy)
theorem ex_even {f s : Int} {fs : List Fld} (k : BatOk f s fs) : EvenP (fs.map (exF s)) s f ↔ EvenP fs f s := by
  refine ⟨fun h => ⟨h.1.symm, fun fl hfl x y h1 h2 h3 h4 => ?_⟩, fun h => ⟨h.1.symm, fun fl hfl x y h1 h2 h3 h4 => ?_⟩⟩
  · have := h.2 _ (List.mem_map_of_mem hfl) x y h1 (by have := h.1; omega) h3 h4
    have e := h.1
    rw [ex_paid (k.ok fl hfl) (x := y) (by omega) (by omega), ex_paid (k.ok fl hfl) (x := x) (by omega) (by omega)] at this
    omega
  · obtain ⟨fl', hf', rfl⟩ := List.mem_map.mp hfl
    have e := h.1
    have := h.2 _ hf' x y h1 (by omega) h3 h4
    rw [ex_paid (k.ok fl' hf') (x := y) (by omega) (by omega), ex_paid (k.ok fl' hf') (x := x) (by omega) (by omega)]
    omega
theorem sum_neg : ∀ (n : Nat) (g h : Nat → Int), (∀ i, i < n → h i = 0 - g i) → ((List.range n).map h).sum = 0 - ((List.range n).map g).sum := by
  intro n
  induction n with
  | zero => intro g h _; rfl
  | succ n ih =>
    intro g h e
    rw [List.range_succ, List.map_append, List.map_append, List.sum_append, List.sum_append, ih g h fun i hi => e i (by omega)]
    simp only [List.map_cons, List.map_nil, List.sum_cons, List.sum_nil]
    have := e n (by omega)
    omega
theorem plan_le {h : Int} {n : Nat} {p : List Int} (k : PlanC h n p) (i : Int) : 0 ≤ nAt p i ∧ nAt p i ≤ h := by
  have key : ∀ q : List Int, (∀ x ∈ q, 0 ≤ x) → 0 ≤ q.sum ∧ ∀ x ∈ q, x ≤ q.sum := by
    intro q
    induction q with
    | nil => intro _; exact ⟨Int.le_refl _, nofun⟩
    | cons x q ih =>
      intro g
      obtain ⟨e1, e2⟩ := ih fun z hz => g z (List.mem_cons_of_mem _ hz)
      have := g x (List.mem_cons_self)
      rw [List.sum_cons]
      refine ⟨by omega, fun z hz => ?_⟩
      rcases List.mem_cons.mp hz with e | e
      · omega
      · have := e2 z e
        omega
  obtain ⟨k1, k2, k3⟩ := k
  obtain ⟨e1, e2⟩ := key p k3
  unfold nAt
  cases g : p[i.toNat]? with
  | none => exact ⟨Int.le_refl _, by show 0 ≤ h; omega⟩
  | some z =>
    have hz := List.mem_of_getElem? g
    exact ⟨k3 z hz, by have := e2 z hz; show z ≤ h; omega⟩
theorem fldAt_ex {s : Int} {fs : List Fld} {i : Int} (hi : i.toNat < fs.length) : fldAt (fs.map (exF s)) i = exF s (fldAt fs i) := by
  unfold fldAt
  rw [List.getElem?_map, List.getElem?_eq_getElem hi]
  rfl
theorem fldAt_ok {f s : Int} {fs : List Fld} (k : BatOk f s fs) {i : Int} (hi : i.toNat < fs.length) : FldOk f s (fldAt fs i) := by
  unfold fldAt
  rw [List.getElem?_eq_getElem hi]
  exact k.ok _ (List.getElem_mem _)
theorem ex_gain {f s : Int} {fs : List Fld} (k : BatOk f s fs) {ms ns : List Int} (h1 : PlanC f fs.length ms) (h2 : PlanC s fs.length ns) : gainV (fs.map (exF s)) ns ms = 0 - gainV fs ms ns := by
  unfold gainV
  rw [List.length_map]
  refine sum_neg _ _ _ fun i hi => ?_
  have e : fldAt (fs.map (exF s)) i = exF s (fldAt fs i) := by
    unfold fldAt
    rw [List.getElem?_map, List.getElem?_eq_getElem (show (i : Int).toNat < fs.length by omega)]
    rfl
  have hk : FldOk f s (fldAt fs i) := by
    unfold fldAt
    rw [List.getElem?_eq_getElem (show (i : Int).toNat < fs.length by omega)]
    exact k.ok _ (List.getElem_mem _)
  rw [e]
  exact ex_paid hk (plan_le h1 i) (plan_le h2 i)
/-! ### min of three -/
def rMin3 : List V → Hp → VK → Prop := fun xs H Q => ∃ i j k, xs = [.int i, .int j, .int k] ∧ Q (.int (if j < i then (if k < j then k else j) else (if k < i then k else i))) H
theorem call_min3I {X : Cx} (hc : X.calm = true) : CallR X (.builtin "min") rMin3 := by
  intro pins s σ H xs us Q I r h
  obtain ⟨i, j, k, rfl, q⟩ := h
  cases r with
  | cons r1 r =>
    cases r with
    | cons r2 r =>
      cases r with
      | cons r3 r =>
        cases r
        obtain ⟨t1, rfl⟩ := r1
        obtain ⟨t2, rfl⟩ := r2
        obtain ⟨t3, rfl⟩ := r3
        refine min_three_ints (I.ok.hd hc) fun h' tk kk => ⟨_, H, I.kept kk, ?_, q⟩
        split <;> split <;> exact ⟨_, rfl⟩
theorem i_min3 {i j k : Int} {H : Hp} {Q : VK} (q : Q (.int (if j < i then (if k < j then k else j) else (if k < i then k else i))) H) : rMin3 [.int i, .int j, .int k] H Q := ⟨i, j, k, rfl, q⟩
end Hf
/-! ## data whose lists are known by their places: marks -/
namespace Hf
open PySem PySem.Spec PyProof.Rows L2
def mkS : Str := PySem.Str.ofString "mark"
mutual
inductive Ow (H : Hp) : V → PyData → List Addr → Prop
  | non : Ow H .non .none []
  | bl (b : Bool) : Ow H (.bl b) (.bool b) []
  | int (i : Int) : Ow H (.int i) (.int i) []
  | str (x : Str) : Ow H (.str x) (.str x) []
  | lst {a : Addr} {xs : List V} {ds : List PyData} {S : List Addr} : H a = some (.lst xs) → OwAll H xs ds S → Ow H (.ref a) (.list ds) (a :: S)
  | tup {a : Addr} {xs : List V} {ds : List PyData} {S : List Addr} : H a = some (.tup xs) → OwAll H xs ds S → Ow H (.ref a) (.tuple ds) S
inductive OwAll (H : Hp) : List V → List PyData → List Addr → Prop
  | nil : OwAll H [] [] []
  | cons {v : V} {vs : List V} {d : PyData} {ds : List PyData} {S S' : List Addr} : Ow H v d S → OwAll H vs ds S' → OwAll H (v :: vs) (d :: ds) (S ++ S')
end
/-! every list with one thing more -/
mutual
def mk : PyData → PyData
  | .list ds => .list (mkA ds ++ [.str mkS])
  | .tuple ds => .tuple (mkA ds)
  | d => d
def mkA : List PyData → List PyData
  | [] => []
  | d :: ds => mk d :: mkA ds
end
/-! no text "mark" within -/
mutual
def noM : PyData → Bool
  | .list ds => noMA ds
  | .tuple ds => noMA ds
  | .str x => !(x == mkS)
  | _ => true
def noMA : List PyData → Bool
  | [] => true
  | d :: ds => noM d && noMA ds
end
section
variable {H H' : Hp} {v : V} {vs ws : List V} {d : PyData} {ds es : List PyData} {S S' T : List Addr}
mutual
theorem Ow.dq : ∀ {v : V} {d : PyData} {S : List Addr}, Ow H v d S → Dq H v d
  | _, _, _, .non => .non
  | _, _, _, .bl b => .bl b
  | _, _, _, .int i => .int i
  | _, _, _, .str x => .str x
  | _, _, _, .lst h q => .lst h (OwAll.dq q)
  | _, _, _, .tup h q => .tup h (OwAll.dq q)
theorem OwAll.dq : ∀ {vs : List V} {ds : List PyData} {S : List Addr}, OwAll H vs ds S → DqAll H vs ds
  | _, _, _, .nil => .nil
  | _, _, _, .cons h q => .cons (Ow.dq h) (OwAll.dq q)
end
/-- what is kept at all places but those of T -/
def Kp (T : List Addr) (H H' : Hp) : Prop := ∀ b o, b ∉ T → H b = some o → H' b = some o
theorem Kp.refl : Kp T H H := fun _ _ _ h => h
theorem Kp.same (s : Same H H') : Kp T H H' := fun b o _ h => s b o h
theorem Kp.trans {H2 : Hp} (x : Kp T H H') (y : Kp T H' H2) : Kp T H H2 := fun b o n h => y b o n (x b o n h)
theorem Kp.sub (x : Kp S H H') (h : ∀ b, b ∈ S → b ∈ T) : Kp T H H' := fun b o n e => x b o (fun z => n (h b z)) e
theorem Kp.upd {a : Addr} {o : HO} (ha : a ∈ T) (x : Kp T H H') : Kp T H (L2.upd H' a o) := fun b u n h => by
  rw [upd_ne (fun e => n (by rw [e]; exact ha))]
  exact x b u n h
mutual
/-- lists are not tuples: what changes the lists of T alone keeps the data whose lists are apart -/
theorem Ow.kp (hT : ∀ b xs, b ∈ T → H b ≠ some (.tup xs)) (k : Kp T H H') : ∀ {v : V} {d : PyData} {S : List Addr}, Ow H v d S → (∀ b, b ∈ S → b ∉ T) → Ow H' v d S
  | _, _, _, .non, _ => .non
  | _, _, _, .bl b, _ => .bl b
  | _, _, _, .int i, _ => .int i
  | _, _, _, .str x, _ => .str x
  | _, _, _, .lst h q, n => .lst (k _ _ (n _ List.mem_cons_self) h) (OwAll.kp hT k q fun b hb => n b (List.mem_cons_of_mem _ hb))
  | _, _, _, .tup h q, n => .tup (k _ _ (fun z => hT _ _ z h) h) (OwAll.kp hT k q n)
theorem OwAll.kp (hT : ∀ b xs, b ∈ T → H b ≠ some (.tup xs)) (k : Kp T H H') : ∀ {vs : List V} {ds : List PyData} {S : List Addr}, OwAll H vs ds S → (∀ b, b ∈ S → b ∉ T) → OwAll H' vs ds S
  | _, _, _, .nil, _ => .nil
  | _, _, _, .cons h q, n => .cons (Ow.kp hT k h fun b hb => n b (List.mem_append.mpr (.inl hb))) (OwAll.kp hT k q fun b hb => n b (List.mem_append.mpr (.inr hb)))
end
mutual
theorem Ow.lists : ∀ {v : V} {d : PyData} {S : List Addr}, Ow H v d S → ∀ b, b ∈ S → ∃ xs, H b = some (.lst xs)
  | _, _, _, .lst h q, b, hb => by
    rcases List.mem_cons.mp hb with e | e
    · subst e; exact ⟨_, h⟩
    · exact OwAll.lists q b e
  | _, _, _, .tup _ q, b, hb => OwAll.lists q b hb
theorem OwAll.lists : ∀ {vs : List V} {ds : List PyData} {S : List Addr}, OwAll H vs ds S → ∀ b, b ∈ S → ∃ xs, H b = some (.lst xs)
  | _, _, _, .cons h q, b, hb => by
    rcases List.mem_append.mp hb with e | e
    · exact Ow.lists h b e
    · exact OwAll.lists q b e
end
mutual
theorem Ow.same (s : Same H H') : ∀ {v : V} {d : PyData} {S : List Addr}, Ow H v d S → Ow H' v d S
  | _, _, _, .non => .non
  | _, _, _, .bl b => .bl b
  | _, _, _, .int i => .int i
  | _, _, _, .str x => .str x
  | _, _, _, .lst h q => .lst (s _ _ h) (OwAll.same s q)
  | _, _, _, .tup h q => .tup (s _ _ h) (OwAll.same s q)
theorem OwAll.same (s : Same H H') : ∀ {vs : List V} {ds : List PyData} {S : List Addr}, OwAll H vs ds S → OwAll H' vs ds S
  | _, _, _, .nil => .nil
  | _, _, _, .cons h q => .cons (Ow.same s h) (OwAll.same s q)
end
theorem OwAll.snoc : ∀ {vs : List V} {ds : List PyData} {S S' : List Addr} {w : V} {d : PyData}, OwAll H vs ds S → Ow H w d S' → OwAll H (vs ++ [w]) (ds ++ [d]) (S ++ S')
  | _, _, _, S', _, _, .nil, h => by
    have := OwAll.cons h .nil
    rw [List.append_nil] at this
    exact this
  | _, _, _, _, _, _, .cons h q, g => by
    rw [List.append_assoc]
    exact .cons h (OwAll.snoc q g)
theorem OwAll.len : ∀ {vs : List V} {ds : List PyData} {S : List Addr}, OwAll H vs ds S → vs.length = ds.length
  | _, _, _, .nil => rfl
  | _, _, _, .cons _ q => by rw [List.length_cons, List.length_cons, OwAll.len q]
/-- cut at a place -/
theorem OwAll.cut : ∀ {vs : List V} {ds : List PyData} {S : List Addr}, OwAll H vs ds S → ∀ {k : Nat} {w : V}, vs[k]? = some w →
    ∃ S1 S2 S3 d, ds[k]? = some d ∧ S = S1 ++ (S2 ++ S3) ∧ OwAll H (vs.take k) (ds.take k) S1 ∧ Ow H w d S2 ∧ OwAll H (vs.drop (k + 1)) (ds.drop (k + 1)) S3
  | _, _, _, .nil, k, w, h => by simp at h
  | _, _, _, .cons (S := S) (S' := S') (d := d) h q, 0, w, e => by
    rw [List.getElem?_cons_zero] at e
    cases e
    exact ⟨[], S, S', d, rfl, rfl, .nil, h, q⟩
  | _, _, _, .cons (S := S) (S' := S') h q, k + 1, w, e => by
    rw [List.getElem?_cons_succ] at e
    obtain ⟨S1, S2, S3, d, h1, h2, h3, h4, h5⟩ := OwAll.cut q e
    exact ⟨S ++ S1, S2, S3, d, by rw [List.getElem?_cons_succ]; exact h1, by rw [h2, List.append_assoc], .cons h h3, h4, h5⟩
theorem mkA_map : ∀ ds : List PyData, mkA ds = ds.map mk
  | [] => rfl
  | d :: ds => by rw [mkA, List.map_cons, mkA_map ds]
theorem noMA_mem : ∀ {ds : List PyData} {d : PyData}, noMA ds = true → d ∈ ds → noM d = true
  | e :: ds, d, h, hd => by
    rw [noMA, Bool.and_eq_true] at h
    rcases List.mem_cons.mp hd with z | z
    · rw [z]; exact h.1
    · exact noMA_mem h.2 z
/-- how many marks stand among data -/
def cntM (ds : List PyData) : Nat := (ds.filter fun d => match d with | .str x => x == mkS | _ => false).length
theorem cntM_mk : ∀ {ds : List PyData}, noMA ds = true → cntM (mkA ds) = 0
  | [], _ => rfl
  | d :: ds, h => by
    rw [noMA, Bool.and_eq_true] at h
    have ih := cntM_mk h.2
    unfold cntM at ih ⊢
    rw [mkA, List.filter_cons]
    have : (match mk d with | .str x => x == mkS | _ => false) = false := by
      have h1 := h.1
      cases d <;> simp [mk] <;> simp [noM] at h1
      exact h1
    rw [this]
    exact ih
end
/-! ### isinstance by two classes -/
theorem call_isiTK {X : Cx} (K : PySem.W.Frag) (e : X.K = K) : CallR X (.builtin "isinstance") (rIsiT K) := by subst e; exact call_isiT
theorem kit_two {K : PySem.W.Frag} {t c1 c2 : String} {b1 b2 : Bool} (h1 : kitB t c1 = some b1) (h2 : kitB t c2 = some b2) : PySem.W.kitAny K (.type t) [.type c1, .type c2] = some (b1 || b2) := by
  refine kitAny_cons (kit_ty h1) (fun e => ?_) (fun e => by rw [e]; rfl)
  rw [e, Bool.false_or]
  refine kitAny_cons (kit_ty h2) (fun e => ?_) (fun e => e)
  rw [e]
  rfl
theorem i_isiT2 {K : PySem.W.Frag} {H : Hp} {Q : VK} {x : V} {tp : Addr} {t c1 c2 : String} {b1 b2 : Bool} (hT : H tp = some (.tup [.ty c1, .ty c2])) (ty : TyX K H x (.type t)) (h1 : kitB t c1 = some b1) (h2 : kitB t c2 = some b2) (q : Q (.bl (b1 || b2)) H) : rIsiT K [x, .ref tp] H Q :=
  ⟨x, tp, _, _, _, _, rfl, hT, .cons (.ty _) (.cons (.ty _) .nil), ty, kit_two h1 h2, q⟩
/-! ### how often a text stands among data -/
def isS (y : Str) : PyData → Bool
  | .str z => z == y
  | _ => false
def rCntS (K : PySem.W.Frag) : V → List V → Hp → VK → Prop := fun x xs H Q => ∃ (p : Addr) (ys : List V) (y : Str) (ds : List PyData), x = .ref p ∧ xs = [.str y] ∧ SqL K H p ys ∧ DpAll K H ys ds ∧ PyData.canLayAll0 ds = true ∧ PyData.strOk y = true ∧ Q (.int (ds.countP (isS y) : Nat)) H
theorem one_cntS {X : Cx} {pins : List (Addr × Obj)} {s : Shared} {σ : L2.St} {H : Hp} (I : Inv X pins σ H s) {A : Around} (hu : A.units < cLine) {y : Str} {t : Tok} (hy : PyData.strOk y = true) {v : V} {d : PyData} {u : Value} (hd : Dp X.K H v d) (r : RelV v u) (hl : d.canLay0 = true) :
    SeqAt.EqAt A s u (.str y t) (eqU (.str y) u) ∧ eqU (.str y) u = isS y d := by
  have e : eqU (.str y) u = isS y d ∧ PyData.eqv d (.str y) = isS y d := by
    cases hd with
    | non => cases r; exact ⟨rfl, by simp [PyData.eqv, isS]⟩
    | bl b => cases r; exact ⟨rfl, by simp [PyData.eqv, isS]⟩
    | int i => obtain ⟨t, rfl⟩ := r; exact ⟨rfl, by simp [PyData.eqv, isS]⟩
    | str x => obtain ⟨t, rfl⟩ := r; exact ⟨rfl, by simp [PyData.eqv, isS]⟩
    | lst h q => cases r; exact ⟨rfl, by simp [PyData.eqv, isS]⟩
    | tup h q => cases r; exact ⟨rfl, by simp [PyData.eqv, isS]⟩
  obtain ⟨as, r1⟩ := Dp.reads I d v u hd r
  obtain ⟨bs, r2⟩ := Dp.reads I (.str y) (.str y) (.str y t) (.str y) ⟨t, rfl⟩
  refine ⟨?_, e.1⟩
  rw [e.1, ← e.2]
  exact SeqAt.eqAt_reads d (.str y) A s u (.str y t) as bs r1 r2 hl (by simpa [PyData.canLay0] using hy) (by simp [PyData.depth]; omega)
theorem all_cntS {X : Cx} {pins : List (Addr × Obj)} {s : Shared} {σ : L2.St} {H : Hp} (I : Inv X pins σ H s) {A : Around} (hu : A.units < cLine) {y : Str} {t : Tok} (hy : PyData.strOk y = true) : ∀ {ys : List V} {ds : List PyData} {us : List Value}, DpAll X.K H ys ds → Vals ys us → PyData.canLayAll0 ds = true →
    (∀ u ∈ us, SeqAt.EqAt A s u (.str y t) (eqU (.str y) u)) ∧ us.countP (eqU (.str y)) = ds.countP (isS y)
  | [], [], [], .nil, .nil, _ => ⟨nofun, rfl⟩
  | v :: ys, d :: ds, u :: us, .cons h q, .cons r rs, hl => by
    rw [PyData.canLayAll0, Bool.and_eq_true] at hl
    obtain ⟨h1, h2⟩ := one_cntS I hu (t := t) hy h r hl.1
    obtain ⟨h3, h4⟩ := all_cntS I hu (t := t) hy q rs hl.2
    refine ⟨fun u' hu' => ?_, by rw [List.countP_cons, List.countP_cons, h4, h2]⟩
    rcases List.mem_cons.mp hu' with e | e
    · rw [e]; exact h1
    · exact h3 u' e
theorem mt_lcountS {X : Cx} (hu : X.A.units + 64 < cLine) : MtR X "list.count" (rCntS X.K) := by
  intro pins s σ H x xs v us Q I rx rxs h
  obtain ⟨p, ys, y, ds, rfl, rfl, hs, hd', hl', hy, q⟩ := h
  cases rx
  obtain ⟨u, rfl, ru⟩ := rxs.one
  obtain ⟨t, rfl⟩ := ru
  obtain ⟨its, rv, ⟨⟨cls, dd, data, sl⟩, n, ho, hc, hdn, hd⟩, hlen⟩ := I.list hs
  simp only at hc hd
  subst hc hd
  obtain ⟨c1, c2⟩ := all_cntS (A := X.A.in1) I (by show X.A.units + 1 < cLine; omega) (t := t) hy hd' rv hl'
  refine call_meets PySem.F.slot_list_count ⟨_, ho, rfl⟩ PySem.F.entry_list_count (PySem.F.args_list_count_2 _ _)
    (SeqAt.list_countAt p its.toArray n dd sl (.str y t) (eqU (.str y))) ⟨ho, fun u' hu' => c1 u' (by simpa using hu'), ?_⟩
  refine ⟨.int _, H, I.tok _, ⟨s.toks, ?_⟩, q⟩
  show Value.int ((its.toArray.toList.countP (eqU (.str y)) : Nat) : Int) s.toks = Value.int _ s.toks
  rw [show its.toArray.toList = its from rfl, c2]
theorem mt_lcountSK {X : Cx} (K : PySem.W.Frag) (e : X.K = K) (hu : X.A.units + 64 < cLine) : MtR X "list.count" (rCntS K) := by subst e; exact mt_lcountS hu
theorem i_cntS {K : PySem.W.Frag} {H : Hp} {Q : VK} {p : Addr} {y : Str} {ds : List PyData} {n : Nat} (h : Dq H (.ref p) (.list ds)) (hl : PyData.canLayAll0 ds = true) (hy : PyData.strOk y = true) (e : ds.countP (isS y) = n) (q : Q (.int (n : Nat)) H) : rCntS K (.ref p) [.str y] H Q := by
  obtain ⟨a, xs, e1, h1, h2⟩ := h.list_inv
  cases e1
  subst e
  exact ⟨_, xs, y, ds, rfl, rfl, .of h1, h2.dp, hl, hy, q⟩
/-! ### walking what is a list or a tuple -/
def iSeq (K : PySem.W.Frag) (tl : TE) : TI := fun σ H R => tl σ H fun x H1 => ∃ a, x = .ref a ∧ (((∃ xs, SqL K H1 a xs) ∧ R (Itl K a) H1) ∨ ((∃ xs, SqT K H1 a xs) ∧ R (Itt K a) H1))
theorem pi_seq {X : Cx} {tg l : Expr} {tl : TE} (hl : PE X l tl) : PI X tg l (iSeq X.K tl) := by
  refine ⟨fun pins s σ H R I h => ?_⟩
  refine thn (hl.run pins s σ H _ I h) fun v s1 ⟨x, H1, I1, r1, q1⟩ => ?_
  obtain ⟨a, e, q1⟩ := q1
  subst e
  cases r1
  rcases q1 with ⟨⟨xs, hq⟩, q⟩ | ⟨⟨xs, hq⟩, q⟩
  · obtain ⟨its, rv, p, hz⟩ := I1.list hq
    refine wpAny_pyIter_list p.isList ?_
    refine ⟨s1.heap.objs.size, [s1.heap.objs.size], _, _, H1, rfl, I1.kept (t' := s1.toks) fun b o e => Heap.get?_push_of_some _ e, turn_list a _, ⟨_, Heap.get?_push_size _ rfl, rfl, rfl⟩, fun b hb => ?_, q⟩
    have e : b = s1.heap.objs.size := by simpa using hb
    subst e
    exact I1.fpOk (Nat.le_refl _) (I1.hok.fresh (Nat.le_refl _))
  · obtain ⟨its, rv, p, hz⟩ := I1.tuple hq
    refine wpAny_pyIter_tuple (show s1.heap.IsTuple a its.toArray from p) ?_
    refine ⟨s1.heap.objs.size, [s1.heap.objs.size], _, _, H1, rfl, I1.kept (t' := s1.toks) fun b o e => Heap.get?_push_of_some _ e, turn_tuple a _, ⟨_, Heap.get?_push_size _ rfl, rfl, rfl⟩, fun b hb => ?_, q⟩
    have e : b = s1.heap.objs.size := by simpa using hb
    subst e
    exact I1.fpOk (Nat.le_refl _) (I1.hok.fresh (Nat.le_refl _))
theorem pi_seqK {X : Cx} (K : PySem.W.Frag) (e : X.K = K) {tg l : Expr} {tl : TE} (hl : PE X l tl) : PI X tg l (iSeq K tl) := by subst e; exact pi_seq hl
theorem i_iseq {K : PySem.W.Frag} {tl : TE} {σ : L2.St} {H : Hp} {R : It → Hp → Prop} (h : tl σ H fun x H1 => ∃ a, x = .ref a ∧ (((∃ xs, SqL K H1 a xs) ∧ R (Itl K a) H1) ∨ ((∃ xs, SqT K H1 a xs) ∧ R (Itt K a) H1))) : iSeq K tl σ H R := h
theorem i_iseqL {K : PySem.W.Frag} {H : Hp} {p : Addr} {xs : List V} {A : Addr → Prop} {B : Addr → Prop} (h : SqL K H p xs) (q : A p) : ∃ a, V.ref p = .ref a ∧ (((∃ xs, SqL K H a xs) ∧ A a) ∨ ((∃ xs, SqT K H a xs) ∧ B a)) := ⟨p, rfl, .inl ⟨⟨xs, h⟩, q⟩⟩
theorem i_iseqT {K : PySem.W.Frag} {H : Hp} {p : Addr} {xs : List V} {A : Addr → Prop} {B : Addr → Prop} (h : SqT K H p xs) (q : B p) : ∃ a, V.ref p = .ref a ∧ (((∃ xs, SqL K H a xs) ∧ A a) ∨ ((∃ xs, SqT K H a xs) ∧ B a)) := ⟨p, rfl, .inr ⟨⟨xs, h⟩, q⟩⟩
/-! ### the marks, put and looked for -/
theorem OwAll.drop_cons {H : Hp} {xs : List V} {ds : List PyData} {S : List Addr} {i : Nat} {x : V} (h : OwAll H (xs.drop i) (ds.drop i) S) (e : xs[i]? = some x) :
    ∃ d S1 S2, ds[i]? = some d ∧ S = S1 ++ S2 ∧ Ow H x d S1 ∧ OwAll H (xs.drop (i + 1)) (ds.drop (i + 1)) S2 := by
  rw [drop_get e] at h
  cases hd : ds.drop i with
  | nil => rw [hd] at h; cases h
  | cons d r =>
    rw [hd] at h
    have hi : ds[i]? = some d := by
      have := List.getElem?_drop (xs := ds) (i := i) (j := 0)
      rw [hd] at this
      simpa using this.symm
    rw [drop_get hi] at hd
    cases hd
    cases h with
    | cons a b => exact ⟨_, _, _, hi, rfl, a, b⟩
theorem cnt_mk {ds : List PyData} (h : noMA ds = true) : (mkA ds ++ [PyData.str mkS]).countP (isS mkS) = 1 := by
  have e : (mkA ds).countP (isS mkS) = 0 := by
    rw [List.countP_eq_zero]
    intro d hd
    rw [mkA_map] at hd
    obtain ⟨d', hd', rfl⟩ := List.mem_map.mp hd
    have := noMA_mem h hd'
    cases d' <;> simp [mk, isS]
    simp [noM] at this
    exact this
  rw [List.countP_append, e]
  simp [isS, mkS]
mutual
theorem lay_mk : ∀ {d : PyData}, d.canLay0 = true → (mk d).canLay0 = true
  | .none, h => by simpa [mk] using h
  | .bool _, h => by simpa [mk] using h
  | .int _, h => by simpa [mk] using h
  | .str _, h => by simpa [mk] using h
  | .list ds, h => by
    rw [PyData.canLay0] at h
    rw [mk, PyData.canLay0]
    refine lay_all fun d hd => ?_
    rcases List.mem_append.mp hd with e | e
    · exact lay_mkA h d e
    · rw [List.mem_singleton.mp e, PyData.canLay0]; decide +kernel
  | .tuple ds, h => by
    rw [PyData.canLay0] at h
    rw [mk, PyData.canLay0]
    exact lay_all fun d hd => lay_mkA h d hd
  | .dict _, h => by simp [PyData.canLay0] at h
theorem lay_mkA : ∀ {ds : List PyData}, PyData.canLayAll0 ds = true → ∀ d ∈ mkA ds, d.canLay0 = true
  | [], _, _, hd => by cases hd
  | e :: ds, h, d, hd => by
    rw [PyData.canLayAll0, Bool.and_eq_true] at h
    rw [mkA] at hd
    rcases List.mem_cons.mp hd with z | z
    · rw [z]; exact lay_mk h.1
    · exact lay_mkA h.2 d z
end
/-! ### comprehensions of owned things -/
/-- owned, all of it new to H -/
structure OwN (H H' : Hp) (v : V) (d : PyData) (S : List Addr) : Prop where
  ow : Ow H' v d S
  nd : S.Nodup
  nw : ∀ b, b ∈ S → H b = none
theorem OwN.same {H H' H2 : Hp} {v : V} {d : PyData} {S : List Addr} (h : OwN H H' v d S) (s : Same H' H2) : OwN H H2 v d S := ⟨h.ow.same s, h.nd, h.nw⟩
theorem OwN.back {H0 H H' : Hp} {v : V} {d : PyData} {S : List Addr} (h : OwN H H' v d S) (s : Same H0 H) : OwN H0 H' v d S := ⟨h.ow, h.nd, fun b hb => s.free (h.nw b hb)⟩
theorem OwN.dq {H H' : Hp} {v : V} {d : PyData} {S : List Addr} (h : OwN H H' v d S) : Dq H' v d := h.ow.dq
section
variable {σ : L2.St} {H H1 : Hp} {Q : VK} {K : PySem.W.Frag} {D a l : Addr} {wi : TI} {g : TG} {tt : TT} {te : TE} {vs : List Nat} {lo : Int} {n : Nat} {xs : List V} {Qd : Hp → Prop}
theorem lcL_own (f : Nat → PyData) (nD : H1 D = none) (hn : xs.length ≤ 1000000) (hx : SqL K H1 l xs)
    (hs : ∀ (i : Nat) (x : V) H (Z : VK) (Y : Hp → Prop), xs[i]? = some x → Same H1 H → (∀ v S H4, OwN H H4 v (f i) S → Same H H4 → Z v H4) → LcTurn g tt te vs σ x H Z Y)
    (hd : ∀ S H, OwN H1 H (.ref D) (.list ((List.range xs.length).map f)) S → Same H1 H → Qd H) :
    ∃ W : Nat → Nat → Hp → Prop, (∃ m, W 0 m (upd H1 D (.lst []))) ∧ ∀ i m H, W i m H →
      ((Itl K l).stop i H ∧ Qd H) ∨ ((Itl K l).go i H ∧ ∃ Nx : Hp → Prop, (∀ H', Nx H' → ∃ m', m' < m ∧ W (i + 1) m' H') ∧ ∀ x H', (Itl K l).yld i H x H' → g x (wipe σ vs) H' fun σ2 H2 => wipe σ2 vs = wipe σ vs ∧ tt σ2 H2 fun b H3 =>
        if b = true then te σ2 H3 fun y H4 => ∃ acc, H4 D = some (.lst acc) ∧ acc.length < sizeLine ∧ Nx (upd H4 D (.lst (acc ++ [y]))) else Nx H3) := by
  refine lcL (xs := xs) (fun i acc H => acc.length = i ∧ Same H1 H ∧ ∃ S, OwAll H acc ((List.range i).map f) S ∧ S.Nodup ∧ D ∉ S ∧ ∀ b, b ∈ S → H1 b = none) nD ⟨rfl, Same.new nD, [], .nil, List.nodup_nil, by simp, nofun⟩ (fun i acc H _ q _ => q.2.1.seq hx) ?_ ?_
  · rintro i x acc H Z Y hi ⟨h1, h2, S, h3, h4, h5, h6⟩ hD hz _
    have hi' : i < xs.length := (List.getElem?_eq_some_iff.mp hi).1
    refine hs i x H Z Y hi h2 fun v S' H4 k1 k2 => ?_
    have hDS : D ∉ S' := fun z => by
      have := k1.nw D z
      rw [hD] at this
      cases this
    have kp : Kp [D] H4 (upd H4 D (.lst (acc ++ [v]))) := Kp.upd (by simp) Kp.refl
    have ht : ∀ b ys, b ∈ [D] → H4 b ≠ some (.tup ys) := fun b ys hb e => by
      rw [List.mem_singleton.mp hb, k2 _ _ hD] at e
      cases e
    have hd1 : ∀ b, b ∈ S → b ∉ [D] := fun b hb hb' => h5 (by rw [← List.mem_singleton.mp hb']; exact hb)
    have hd2 : ∀ b, b ∈ S' → b ∉ [D] := fun b hb hb' => hDS (by rw [← List.mem_singleton.mp hb']; exact hb)
    refine hz _ _ (k2 _ _ hD) (sz4' (by omega)) ⟨by rw [List.length_append, h1]; rfl, Same.mut (h2.trans k2) nD, S ++ S', ?_, ?_, ?_, ?_⟩
    · rw [List.range_succ, List.map_append]
      exact OwAll.snoc (OwAll.kp ht kp (h3.same k2) hd1) (Ow.kp ht kp k1.ow hd2)
    · rw [List.nodup_append]
      refine ⟨h4, k1.nd, fun b hb c hc e => ?_⟩
      subst e
      obtain ⟨ys, e'⟩ := h3.lists b hb
      rw [k1.nw b hc] at e'
      cases e'
    · intro z
      rcases List.mem_append.mp z with z | z
      · exact h5 z
      · exact hDS z
    · intro b hb
      rcases List.mem_append.mp hb with z | z
      · exact h6 b z
      · exact h2.free (k1.nw b z)
  · rintro acc H ⟨h1, h2, S, h3, h4, h5, h6⟩ hD
    exact hd (D :: S) H ⟨.lst hD h3, List.nodup_cons.mpr ⟨h5, h4⟩, fun b hb => by
      rcases List.mem_cons.mp hb with z | z
      · rw [z]; exact nD
      · exact h6 b z⟩ h2
end
/-- a tuple of two owned things -/
theorem OwN.pair {H H1 H2 : Hp} {v w : V} {d e : PyData} {S T : List Addr} {q : Addr} (h1 : OwN H H1 v d S) (h2 : OwN H1 H2 w e T) (s0 : Same H H1) (s : Same H1 H2) (hq : H2 q = none) : OwN H (upd H2 q (.tup [v, w])) (.ref q) (.tuple [d, e]) (S ++ T) := by
  have sn : Same H2 (upd H2 q (.tup [v, w])) := Same.new hq
  refine ⟨?_, ?_, ?_⟩
  · have := Ow.tup upd_same (OwAll.cons ((h1.ow.same s).same sn) (OwAll.cons (h2.ow.same sn) .nil))
    rw [List.append_nil] at this
    exact this
  · rw [List.nodup_append]
    refine ⟨h1.nd, h2.nd, fun b hb c hc e => ?_⟩
    subst e
    obtain ⟨ys, e'⟩ := h1.ow.lists b hb
    rw [h2.nw b hc] at e'
    cases e'
  · intro b hb
    rcases List.mem_append.mp hb with z | z
    · exact h1.nw b z
    · exact s0.free (h2.nw b z)
theorem own_ints {H : Hp} : ∀ ms : List Int, OwAll H (ms.map V.int) (ms.map PyData.int) []
  | [] => .nil
  | m :: ms => .cons (S := []) (S' := []) (.int m) (own_ints ms)
theorem BatOk.reverse {f s : Int} {fs : List Fld} (k : BatOk f s fs) : BatOk f s fs.reverse := ⟨k.hf, k.hs, by rw [List.length_reverse]; exact k.ne, fun x hx => k.ok x (List.mem_reverse.mp hx)⟩
theorem ow_self {H : Hp} {a : Addr} {ds : List PyData} {S : List Addr} (h : Ow H (.ref a) (.list ds) S) : a ∈ S := by
  cases h with
  | lst _ _ => exact List.mem_cons_self
end Hf
/-! ## sorted(d), d a dict with pairs of whole numbers as keys -/
namespace Hf
open PySem PySem.Spec PyProof.Rows L2
/-- the pair that stands at a place -/
def pairAt (H : Hp) : V → Int × Int
  | .ref b => match H b with
    | some (.tup [.int i, .int j]) => (i, j)
    | _ => (0, 0)
  | _ => (0, 0)
theorem pairAt_of {H : Hp} {b : Addr} {i j : Int} (h : H b = some (.tup [.int i, .int j])) : pairAt H (.ref b) = (i, j) := by
  show (match H b with | some (.tup [.int i, .int j]) => (i, j) | _ => (0, 0)) = _
  rw [h]
/-- a key as a pair -/
def keyP : List Key → Int × Int
  | [.inl i, .inl j] => (i, j)
  | _ => (0, 0)
def rSortedDT : List V → Hp → VK → Prop := fun vs H Q => ∃ (d : Addr) (kvs : List (List Key × V)), vs = [V.ref d] ∧ H d = some (.dT kvs) ∧ (∀ kv ∈ kvs, ∃ i j : Int, kv.1 = [.inl i, .inl j]) ∧
  ∀ (ys : List V) (p : Addr), (∀ y ∈ ys, ∃ b, y = .ref b ∧ H b = some (.tup [.int (pairAt H y).1, .int (pairAt H y).2])) → (ys.map (pairAt H)).Perm (kvs.map fun kv => keyP kv.1) → (ys.map (pairAt H)).Pairwise (fun a b => SrtO.lexB b a = false) → H p = none → Q (.ref p) (upd H p (.lst ys))
theorem isKeys_at {H : Hp} : ∀ {kvs : List (List Key × V)} {bs : List Addr}, IsKeys H kvs bs → (∀ kv ∈ kvs, ∃ i j : Int, kv.1 = [.inl i, .inl j]) →
    (∀ b ∈ bs, H b = some (.tup [.int (pairAt H (.ref b)).1, .int (pairAt H (.ref b)).2])) ∧ (bs.map fun b => pairAt H (.ref b)) = kvs.map fun kv => keyP kv.1
  | _, _, .nil, _ => ⟨nofun, rfl⟩
  | kv :: kvs, b :: bs, .cons h t, hk => by
    obtain ⟨i, j, e⟩ := hk kv List.mem_cons_self
    obtain ⟨h1, h2⟩ := isKeys_at t fun kv hkv => hk kv (List.mem_cons_of_mem _ hkv)
    rw [e] at h
    have h' : H b = some (.tup [.int i, .int j]) := h
    have e2 := pairAt_of h'
    refine ⟨fun b' hb' => ?_, by rw [List.map_cons, List.map_cons, h2, e2, e]; rfl⟩
    rcases List.mem_cons.mp hb' with z | z
    · rw [z, e2]; exact h'
    · exact h1 b' z
theorem cr_sortedDT {X : Cx} (hc : X.calm = true) : CallR X (.builtin "sorted") rSortedDT := by
  intro pins s σ H vs us Q I r h
  obtain ⟨d, kvs, rfl, hd, hk, q⟩ := h
  obtain ⟨u, rfl, ru⟩ := r.one
  cases ru
  obtain ⟨z, hs, ks, pr, o, es, ep, ho, hx, hdt, he, hn⟩ := (show ObjOk X.prog X.w H s.heap d (.dT kvs) from I.hok d _ hd)
  have l1 : es.size = ks.length := size_of_entries he
  have l2 : kvs.length = ks.length := Paired.length pr
  obtain ⟨kb1, kb2⟩ := isKeys_at (isKeys_of pr) hk
  refine Calls.call_function_entry PyProof.Rows.kind_sorted PyProof.Rows.plain_sorted PyProof.Rows.entry_sorted (PyProof.Rows.args_sorted1 _) ?_
  unfold Builtin.«sorted»
  refine wpAny_bind (m := checkCount "sorted" 1 1 _) (wpAny_pure ?_)
  refine wpAny_bind (PySem.W.kdu_collect (A := X.A.in1) (kdl_raw hs hx hdt) (I.ok.hd hc) ho (by omega) fun h' tk acc kp it => ?_)
  have ea : acc.toList = ks.map fun x => Value.ref x.2.1 := by
    have hl : acc.toList.length = ks.length := by rw [Array.length_toList, it.1]; exact l1
    apply List.ext_getElem?
    intro j
    rw [List.getElem?_map]
    cases hj : acc.toList[j]? with
    | none =>
      have h1 := List.getElem?_eq_none_iff.mp hj
      rw [List.getElem?_eq_none (by omega)]
      all_goals rfl
    | some v =>
      obtain ⟨en, hen, hv⟩ := it.2 j v (by rw [← Array.getElem?_toList]; exact hj)
      have qe := entry_at he j
      rw [hen] at qe
      cases hb : ks[j]? with
      | none =>
        rw [hb] at qe
        exact nomatch (show some en = none from qe)
      | some b =>
        rw [hb] at qe
        have e2 : en = entryOfKey (tupleKind (mixKind X.prog X.w)) b := Option.some.inj qe
        rw [hv, e2]
        all_goals rfl
  have eb : acc.toList = (ks.map fun x => x.2.1).map Value.ref := by rw [ea, List.map_map]; all_goals rfl
  have hz : acc.toList.length ≤ sizeLine := by rw [ea, List.length_map]; omega
  have I1 : Inv X pins σ H { s with heap := h', toks := tk } := I.kept kp
  have ip : ∀ v ∈ acc.toList, ∃ b, v = Value.ref b ∧ Srt.IsPair h' v (pairAt H (backV v)).1 (pairAt H (backV v)).2 := fun v hv => by
    rw [eb] at hv
    obtain ⟨b, hb, rfl⟩ := List.mem_map.mp hv
    have ht := kb1 b hb
    obtain ⟨_, its2, r2, o2, ho2, hc2, n2, hd2⟩ := I1.hok _ _ ht
    obtain ⟨u1, u2, rfl, ri, rj⟩ := vals2 r2
    obtain ⟨t1, rfl⟩ := ri
    obtain ⟨t2, rfl⟩ := rj
    exact ⟨b, rfl, b, o2, t1, t2, n2, rfl, ho2, hc2, hd2⟩
  refine wpAny_bind (wpAny_newList ?_ hz)
  have hoL : (h'.push (seqObj "list" acc.toList.toArray 0)).get? h'.objs.size = some (seqObj "list" acc.toList.toArray 0) := Heap.get?_push_size _ rfl
  show wpAny _ _ _ _ _ { s with heap := h'.push (seqObj "list" acc.toList.toArray 0), toks := tk }
  refine wpAny_bind (wpAny_holding (wpAny_call_entry PyProof.Rows.slot_list_sort ⟨_, hoL, rfl⟩ PyProof.Rows.entry_list_sort
    (SrtO.list_sort_ord (s := { s with heap := h'.push (seqObj "list" acc.toList.toArray 0), toks := tk }) (SrtO.swo_lex fun u => pairAt H (backV u)) hoL hz (fun h2 => ?_) fun out g1 g2 => ⟨_, rfl, ?_⟩) (PyProof.Rows.args_list_sort _)))
  · refine SrtO.pairs_sortableO (by omega) (fun v hv => ?_) fun o e => ?_
    · obtain ⟨b, _, hp⟩ := ip v hv
      exact hp.keeps fun b o e _ => Heap.get?_push_of_some _ e
    · have e' : some o = some (seqObj "list" acc.toList.toArray 0) := e.symm.trans hoL
      cases e'
      intro c
      exact absurd (Value.type.inj c) (by decide)
  · obtain ⟨e', he'⟩ := PyProof.Rows.sortedHeap_at (vs := acc.toList) (out := out.toArray) hoL
    have h3 : ∀ u ∈ out, ∃ a, u = Value.ref a := fun u hu => by
      obtain ⟨b, e, _⟩ := ip u (g2.perm.mem_iff.mp hu)
      exact ⟨b, e⟩
    have hlen : (out.map backV).length ≤ sizeLine := by rw [List.length_map, g2.perm.length_eq]; exact hz
    refine wpAny_pure ⟨_, rfl, .ref h'.objs.size, upd H h'.objs.size (.lst (out.map backV)), I1.laid (t' := tk) (fun b u e => ?_) (Nat.le_refl _)
      (show ObjOk X.prog X.w _ _ _ (.lst (out.map backV)) from ⟨hlen, out, e', vals_back h3, he'⟩), rfl, q (out.map backV) _ (fun y hy => ?_) ?_ ?_ (I1.hok.fresh (Nat.le_refl _))⟩
    · have hb : b < h'.objs.size := Heap.lt_size e
      rw [PyProof.Rows.sortedHeap_old (Nat.ne_of_lt hb) (by rw [size_push']; exact Nat.lt_succ_of_lt hb)]
      exact Heap.get?_push_of_some _ e
    · obtain ⟨v, hv, rfl⟩ := List.mem_map.mp hy
      have hv' := g2.perm.mem_iff.mp hv
      rw [eb] at hv'
      obtain ⟨b, hb, rfl⟩ := List.mem_map.mp hv'
      exact ⟨b, rfl, kb1 b hb⟩
    · have h1 : ((out.map backV).map (pairAt H)).Perm ((acc.toList.map backV).map (pairAt H)) := (g2.perm.map _).map _
      have h2 : (acc.toList.map backV).map (pairAt H) = kvs.map fun kv => keyP kv.1 := by
        rw [eb, ← kb2, List.map_map, List.map_map, List.map_map, List.map_map]
        rfl
      rw [h2] at h1
      exact h1
    · rw [List.pairwise_map, List.pairwise_map]
      exact g1
theorem i_sortedDT {H : Hp} {Q : VK} {d : Addr} {kvs : List (List Key × V)} (h : H d = some (.dT kvs)) (hk : ∀ kv ∈ kvs, ∃ i j : Int, kv.1 = [.inl i, .inl j])
    (q : ∀ (ys : List V) (p : Addr), (∀ y ∈ ys, ∃ b, y = .ref b ∧ H b = some (.tup [.int (pairAt H y).1, .int (pairAt H y).2])) → (ys.map (pairAt H)).Perm (kvs.map fun kv => keyP kv.1) → (ys.map (pairAt H)).Pairwise (fun a b => SrtO.lexB b a = false) → H p = none → Q (.ref p) (upd H p (.lst ys))) : rSortedDT [.ref d] H Q :=
  ⟨d, kvs, rfl, h, hk, q⟩
end Hf
/-! ## streams: flows by what is left and sent -/
namespace Hf
open PySem PySem.Spec PyProof.Rows L2
abbrev Fl := Int × Int × Int
abbrev k2 (i j : Int) : List Key := [.inl i, .inl j]
theorem k2_inj {i j a b : Int} (h : k2 i j = k2 a b) : i = a ∧ j = b := by
  have h1 := List.cons.inj h
  have h2 := List.cons.inj h1.2
  exact ⟨Sum.inl.inj h1.1, Sum.inl.inj h2.1⟩
def addF (f : Int → Int → Int) (i j w : Int) : Int → Int → Int := fun a b => if a = i ∧ b = j then f a b + w else f a b
/-- a dict that holds flows -/
structure FlD (kvs : List (List Key × V)) (f : Int → Int → Int) : Prop where
  nn : ∀ i j, 0 ≤ f i j
  ks : ∀ kv ∈ kvs, ∃ i j, kv = (k2 i j, V.int (f i j)) ∧ f i j ≠ 0
  nd : (kvs.map (·.1)).Nodup
  vl : ∀ i j, valV kvs (k2 i j) = if f i j = 0 then none else some (.int (f i j))
theorem FlD.nil : FlD [] (fun _ _ => 0) := ⟨fun _ _ => Int.le_refl _, nofun, List.nodup_nil, fun _ _ => by rw [if_pos rfl]; rfl⟩
theorem FlD.get {kvs : List (List Key × V)} {f : Int → Int → Int} (h : FlD kvs f) (i j : Int) : (valV kvs (k2 i j)).getD (.int 0) = .int (f i j) := by
  rw [h.vl]
  split
  · next e => rw [e]; rfl
  · rfl
theorem putK_keys {κ : Type} [DecidableEq κ] {kvs : List (κ × V)} {k : κ} {v : V} : (putK kvs k v).map (·.1) = if (kvs.any fun kv => decide (kv.1 = k)) = true then kvs.map (·.1) else kvs.map (·.1) ++ [k] := by
  unfold putK
  split
  · rw [List.map_map]
    apply List.map_congr_left
    intro kv _
    show (if kv.1 = k then (kv.1, v) else kv).1 = kv.1
    split <;> rfl
  · rw [List.map_append]
    rfl
theorem FlD.add {kvs : List (List Key × V)} {f : Int → Int → Int} (h : FlD kvs f) {i j w : Int} (hw : 1 ≤ w) : FlD (putK kvs (k2 i j) (.int (f i j + w))) (addF f i j w) := by
  have hnn := h.nn
  refine ⟨fun a b => ?_, fun kv hkv => ?_, ?_, fun a b => ?_⟩
  · unfold addF
    have := hnn a b
    split <;> omega
  · unfold putK at hkv
    split at hkv
    · obtain ⟨kv', h1, h2⟩ := List.mem_map.mp hkv
      obtain ⟨a, b, e1, e2⟩ := h.ks kv' h1
      rw [e1] at h2
      simp only at h2
      by_cases c : k2 a b = k2 i j
      · rw [if_pos c] at h2
        obtain ⟨rfl, rfl⟩ := k2_inj c
        refine ⟨a, b, ?_, ?_⟩
        · rw [← h2]
          unfold addF
          rw [if_pos ⟨rfl, rfl⟩]
        · unfold addF
          rw [if_pos ⟨rfl, rfl⟩]
          have := hnn a b
          omega
      · rw [if_neg c] at h2
        have : ¬ (a = i ∧ b = j) := fun ⟨x, y⟩ => c (by rw [x, y])
        refine ⟨a, b, ?_, ?_⟩
        · rw [← h2]
          unfold addF
          rw [if_neg this]
        · unfold addF
          rw [if_neg this]
          exact e2
    · next hany =>
      rcases List.mem_append.mp hkv with z | z
      · obtain ⟨a, b, e1, e2⟩ := h.ks kv z
        have : ¬ (a = i ∧ b = j) := fun ⟨x, y⟩ => hany (by
          rw [List.any_eq_true]
          exact ⟨kv, z, decide_eq_true (by rw [e1, x, y])⟩)
        refine ⟨a, b, ?_, ?_⟩
        · rw [e1]
          unfold addF
          rw [if_neg this]
        · unfold addF
          rw [if_neg this]
          exact e2
      · rw [List.mem_singleton.mp z]
        refine ⟨i, j, ?_, ?_⟩
        · unfold addF
          rw [if_pos ⟨rfl, rfl⟩]
        · unfold addF
          rw [if_pos ⟨rfl, rfl⟩]
          have := hnn i j
          omega
  · rw [putK_keys]
    split
    · exact h.nd
    · next hany =>
      rw [List.nodup_append]
      refine ⟨h.nd, by simp, fun a ha b hb e => hany ?_⟩
      rw [List.mem_singleton.mp hb] at e
      obtain ⟨kv, h1, h2⟩ := List.mem_map.mp ha
      rw [List.any_eq_true]
      exact ⟨kv, h1, decide_eq_true (by rw [h2, e])⟩
  · rw [valV_put]
    by_cases c : k2 a b = k2 i j
    · rw [if_pos c]
      obtain ⟨rfl, rfl⟩ := k2_inj c
      have e : addF f a b w a b = f a b + w := if_pos ⟨rfl, rfl⟩
      have := hnn a b
      rw [e, if_neg (by omega)]
    · rw [if_neg c, h.vl]
      have e : addF f i j w a b = f a b := if_neg fun ⟨x, y⟩ => c (by rw [x, y])
      rw [e]
theorem FlD.len {kvs : List (List Key × V)} {f : Int → Int → Int} {i j w : Int} : (putK kvs (k2 i j) (.int (f i j + w))).length ≤ kvs.length + 1 := by
  unfold putK
  split
  · rw [List.length_map]; omega
  · rw [List.length_append]; exact Nat.le_refl _
/-! ### rows of a stream -/
def lt2 (a b : Fl) : Prop := a.1 < b.1 ∨ (a.1 = b.1 ∧ a.2.1 < b.2.1)
structure RowF (f : Int → Int → Int) (L : List Fl) : Prop where
  st : L.Pairwise lt2
  mem : ∀ e, e ∈ L ↔ e.2.2 = f e.1 e.2.1 ∧ f e.1 e.2.1 ≠ 0
theorem RowF.uniq {f : Int → Int → Int} {L M : List Fl} (h1 : RowF f L) (h2 : RowF f M) : L = M := by
  have key : ∀ {L M : List Fl}, L.Pairwise lt2 → M.Pairwise lt2 → (∀ e, e ∈ L ↔ e ∈ M) → L = M := by
    intro L
    induction L with
    | nil =>
      intro M _ _ h
      cases M with
      | nil => rfl
      | cons y M => exact absurd ((h y).mpr List.mem_cons_self) (by simp)
    | cons x L ih =>
      intro M hL hM h
      cases M with
      | nil => exact absurd ((h x).mp List.mem_cons_self) (by simp)
      | cons y M =>
        rw [List.pairwise_cons] at hL hM
        have irr : ∀ a : Fl, ¬ lt2 a a := fun a h => by unfold lt2 at h; omega
        have asy : ∀ a b : Fl, lt2 a b → lt2 b a → False := fun a b h1 h2 => by unfold lt2 at h1 h2; omega
        have exy : x = y := by
          rcases List.mem_cons.mp ((h x).mp List.mem_cons_self) with e | e
          · exact e
          · rcases List.mem_cons.mp ((h y).mpr List.mem_cons_self) with e' | e'
            · exact e'.symm
            · exact (asy _ _ (hL.1 y e') (hM.1 x e)).elim
        subst exy
        congr 1
        refine ih hL.2 hM.2 fun e => ⟨fun he => ?_, fun he => ?_⟩
        · rcases List.mem_cons.mp ((h e).mp (List.mem_cons_of_mem _ he)) with z | z
          · rw [z] at he
            exact (irr x (hL.1 x he)).elim
          · exact z
        · rcases List.mem_cons.mp ((h e).mpr (List.mem_cons_of_mem _ he)) with z | z
          · rw [z] at he
            exact (irr x (hM.1 x he)).elim
          · exact z
  exact key h1.st h2.st fun e => by rw [h1.mem, h2.mem]
/-- the row that sorted keys of a dict of flows make -/
theorem FlD.row {kvs : List (List Key × V)} {f : Int → Int → Int} (h : FlD kvs f) {ps : List (Int × Int)} (hp : ps.Perm (kvs.map fun kv => keyP kv.1)) (hs : ps.Pairwise fun a b => SrtO.lexB b a = false) : RowF f (ps.map fun p => (p.1, p.2, f p.1 p.2)) := by
  have hnd : (kvs.map fun kv => keyP kv.1).Nodup := by
    have : kvs.map (fun kv => keyP kv.1) = (kvs.map (·.1)).map keyP := by rw [List.map_map]; rfl
    rw [this]
    rw [List.Nodup, List.pairwise_map]
    refine List.Pairwise.imp_of_mem (R := fun a b => a ≠ b) (fun {a b} ha hb hne e => hne ?_) h.nd
    obtain ⟨kv, h1, rfl⟩ := List.mem_map.mp ha
    obtain ⟨kw, h2, rfl⟩ := List.mem_map.mp hb
    obtain ⟨i, j, e1, _⟩ := h.ks kv h1
    obtain ⟨i', j', e2, _⟩ := h.ks kw h2
    rw [e1, e2] at e ⊢
    have e' : (i, j) = (i', j') := e
    cases e'
    rfl
  have hpn : ps.Nodup := hp.nodup_iff.mpr hnd
  refine ⟨?_, fun e => ⟨fun he => ?_, fun ⟨he, hz⟩ => ?_⟩⟩
  · rw [List.pairwise_map]
    refine List.Pairwise.imp₂ (R := fun a b => SrtO.lexB b a = false) (S := fun a b => a ≠ b) (fun a b h1 h2 => ?_) hs hpn
    have h1' := SrtO.lexB_no.mp h1
    unfold lt2
    obtain ⟨a1, a2⟩ := a
    obtain ⟨b1, b2⟩ := b
    have : ¬ (a1 = b1 ∧ a2 = b2) := fun ⟨x, y⟩ => h2 (by rw [x, y])
    simp only at h1' ⊢
    omega
  · obtain ⟨p, hpm, rfl⟩ := List.mem_map.mp he
    obtain ⟨kv, h1, h2⟩ := List.mem_map.mp (hp.mem_iff.mp hpm)
    obtain ⟨i, j, e1, e2⟩ := h.ks kv h1
    rw [e1] at h2
    have h2' : (i, j) = p := h2
    subst h2'
    exact ⟨rfl, e2⟩
  · obtain ⟨l, s, w⟩ := e
    simp only at he hz
    have hv := h.vl l s
    rw [if_neg hz] at hv
    have hm : ∃ kv ∈ kvs, kv.1 = k2 l s := by
      unfold valV at hv
      cases hf : kvs.find? (fun kv => decide (kv.1 = k2 l s)) with
      | none => rw [hf] at hv; cases hv
      | some kv => exact ⟨kv, List.mem_of_find?_eq_some hf, by have := List.find?_some hf; simpa using this⟩
    obtain ⟨kv, h1, h2⟩ := hm
    have : (l, s) ∈ ps := hp.mem_iff.mpr (List.mem_map.mpr ⟨kv, h1, by rw [h2]; rfl⟩)
    exact List.mem_map.mpr ⟨(l, s), this, by rw [he]⟩
/-! ### the flows of a mix -/
def keyAt (p : List Int) (k : Nat) : Int × Int := ((p.drop k).sum, (p[k]?).getD 0)
def flowF : List (List Int × Int) → Nat → Int → Int → Int
  | [], _, _, _ => 0
  | pw :: m, k, l, s => (if keyAt pw.1 k = (l, s) then pw.2 else 0) + flowF m k l s
theorem flowF_snoc (k : Nat) (pw : List Int × Int) : ∀ m, flowF (m ++ [pw]) k = addF (flowF m k) (keyAt pw.1 k).1 (keyAt pw.1 k).2 pw.2
  | [] => by
    funext l s
    show (if keyAt pw.1 k = (l, s) then pw.2 else 0) + 0 = _
    unfold addF flowF
    by_cases c : keyAt pw.1 k = (l, s)
    · rw [if_pos c, if_pos ⟨by rw [c], by rw [c]⟩]; omega
    · rw [if_neg c, if_neg (fun ⟨x, y⟩ => c (Prod.ext x.symm y.symm))]; omega
  | q :: m => by
    funext l s
    have ih := congrFun (congrFun (flowF_snoc k pw m) l) s
    show (if keyAt q.1 k = (l, s) then q.2 else 0) + flowF (m ++ [pw]) k l s = _
    rw [ih]
    unfold addF
    have e : flowF (q :: m) k l s = (if keyAt q.1 k = (l, s) then q.2 else 0) + flowF m k l s := rfl
    rw [e]
    by_cases c : l = (keyAt pw.1 k).1 ∧ s = (keyAt pw.1 k).2
    · rw [if_pos c, if_pos c]; omega
    · rw [if_neg c, if_neg c]
theorem flowF_nil (k : Nat) : flowF [] k = fun _ _ => 0 := rfl
def flD (e : Fl) : PyData := .tuple [.int e.1, .int e.2.1, .int e.2.2]
def rowD (L : List Fl) : PyData := .list (L.map flD)
def strD (Ls : List (List Fl)) : PyData := .list (Ls.map rowD)
/-- the stream of a mix of plans on n fields -/
structure StrOf (m : List (List Int × Int)) (n : Nat) (Ls : List (List Fl)) : Prop where
  len : Ls.length = n
  row : ∀ (k : Nat) L, Ls[k]? = some L → RowF (flowF m k) L
theorem StrOf.uniq {m : List (List Int × Int)} {n : Nat} {Ls Ms : List (List Fl)} (h1 : StrOf m n Ls) (h2 : StrOf m n Ms) : Ls = Ms := by
  apply List.ext_getElem?
  intro k
  by_cases c : k < n
  · have e1 : Ls[k]? = some (Ls[k]'(by rw [h1.len]; exact c)) := List.getElem?_eq_getElem _
    have e2 : Ms[k]? = some (Ms[k]'(by rw [h2.len]; exact c)) := List.getElem?_eq_getElem _
    rw [e1, e2, (h1.row k _ e1).uniq (h2.row k _ e2)]
  · rw [List.getElem?_eq_none (by rw [h1.len]; omega), List.getElem?_eq_none (by rw [h2.len]; omega)]
/-! ### get with something else -/
section
variable {σ : L2.St} {H : Hp} {Q : VK} {a p : Addr} {kvs : List (List Key × V)} {i j : Int} {z : V}
def DgxR (x y z : V) (H : Hp) (Q : VK) : Prop := ∃ a o, x = V.ref a ∧ DGet H a y o ∧ Q (o.getD z) H
theorem i_dget2 {td ty tx : TE} (h : td σ H fun x H1 => ∃ a, x = .ref a ∧ IsD H1 a ∧ ty σ H1 fun y H2 => tx σ H2 fun z H3 => ∃ o, DGet H3 a y o ∧ Q (o.getD z) H3) : tDGet2 td ty tx σ H Q := h
theorem i_isD {A : Addr → Prop} (h : H a = some (.dT kvs)) (q : A a) : ∃ a', V.ref a = .ref a' ∧ IsD H a' ∧ A a' := ⟨a, rfl, .inr ⟨kvs, .inl h⟩, q⟩
theorem i_dgo2 {R : Option V → Prop} (h : H a = some (.dT kvs)) (e : H p = some (.tup [.int i, .int j])) (q : R (valV kvs (k2 i j))) : ∃ o, DGet H a (.ref p) o ∧ R o := ⟨_, DGet.t (k := k2 i j) h e, q⟩
theorem FlD.pairs {f : Int → Int → Int} (h : FlD kvs f) : ∀ kv ∈ kvs, ∃ i j : Int, kv.1 = [.inl i, .inl j] := fun kv hkv => by
  obtain ⟨i, j, e, _⟩ := h.ks kv hkv
  exact ⟨i, j, by rw [e]⟩
end
theorem mix_len {h : Int} {n : Nat} {m : List (List Int × Int)} (k : MixOk h n m) {pw : List Int × Int} (hp : pw ∈ m) : pw.1.length = n := (k.pl pw hp).1.1
/-! ### papers -/
def papD (Ls : List (List Fl)) (tb : List (List Int)) : PyData := .tuple [strD Ls, .list (tb.map planD)]
theorem fl_own {H : Hp} {v : V} {e : Fl} (h : Dq H v (flD e)) : Ow H v (flD e) [] := by
  obtain ⟨a, xs, rfl, h1, h2⟩ := h.tuple_inv
  cases h2 with
  | cons a b =>
    cases b with
    | cons c d =>
      cases d with
      | cons e f =>
        cases f
        obtain rfl := Dq.int_inv a
        obtain rfl := Dq.int_inv c
        obtain rfl := Dq.int_inv e
        exact .tup h1 (own_ints [_, _, _])
theorem row_own {H : Hp} : ∀ {xs : List V} {L : List Fl}, DqAll H xs (L.map flD) → OwAll H xs (L.map flD) []
  | _, [], h => by cases h; exact .nil
  | _, e :: L, h => by
    cases h with
    | cons a b => exact .cons (S := []) (S' := []) (fl_own a) (row_own b)
theorem strow_at {G : Hp} {xs : List V} {Ls : List (List Fl)} (q : DqAll G xs (Ls.map rowD)) {k : Nat} {w : V} (hw : xs[k]? = some w) : ∃ L p ys, Ls[k]? = some L ∧ w = .ref p ∧ G p = some (.lst ys) ∧ DqAll G ys (L.map flD) := by
  obtain ⟨d, e, q⟩ := q.get' hw
  rw [List.getElem?_map] at e
  cases g : Ls[k]? with
  | none => rw [g] at e; cases e
  | some L =>
    rw [g] at e
    cases e
    obtain ⟨p, ys, rfl, h1, h2⟩ := q.list_inv
    exact ⟨L, p, ys, rfl, rfl, h1, h2⟩
theorem pap_inv {H : Hp} {v : V} {Ls : List (List Fl)} {tb : List (List Int)} (h : Dq H v (papD Ls tb)) : ∃ a p q xs ys, v = .ref a ∧ H a = some (.tup [.ref p, .ref q]) ∧ H p = some (.lst xs) ∧ DqAll H xs (Ls.map rowD) ∧ H q = some (.lst ys) ∧ DqAll H ys (tb.map planD) := by
  obtain ⟨a, xs, rfl, h1, h2⟩ := Dq.tuple_inv h
  cases h2 with
  | cons a b =>
    cases b with
    | cons c d =>
      cases d
      obtain ⟨p, xs, rfl, e1, e2⟩ := Dq.list_inv a
      obtain ⟨q, ys, rfl, e3, e4⟩ := Dq.list_inv c
      exact ⟨_, p, q, xs, ys, rfl, h1, e1, e2, e3, e4⟩
/-- a paper that is not too great -/
structure PapOk (Ls : List (List Fl)) (tb : List (List Int)) : Prop where
  l1 : Ls.length ≤ 10
  l2 : ∀ L ∈ Ls, L.length ≤ 200
  t1 : tb.length ≤ 10
  t2 : ∀ r ∈ tb, r.length ≤ 20 ∧ ∀ x ∈ r, x.natAbs < 2 ^ 120
def tbBy (b : Int) (tb : List (List Int)) : List (List Int) := tb.map fun r => r.map fun x => x * b
theorem lay_row (L : List Fl) : (rowD L).canLay0 = true := by
  rw [rowD, PyData.canLay0]
  exact lay_all fun d hd => by
    obtain ⟨e, _, rfl⟩ := List.mem_map.mp hd
    simp [flD, PyData.canLay0, PyData.canLayAll0]
theorem lay_str (Ls : List (List Fl)) : (strD Ls).canLay0 = true := by
  rw [strD, PyData.canLay0]
  exact lay_all fun d hd => by
    obtain ⟨L, _, rfl⟩ := List.mem_map.mp hd
    exact lay_row L
theorem dep_row (L : List Fl) : dep (rowD L) ≤ 2 := by
  have := depA_le (k := 1) (ds := L.map flD) fun d hd => by
    obtain ⟨e, _, rfl⟩ := List.mem_map.mp hd
    simp [flD, dep, depA]
  rw [rowD, dep]
  omega
theorem dep_str (Ls : List (List Fl)) : dep (strD Ls) ≤ 3 := by
  have := depA_le (k := 2) (ds := Ls.map rowD) fun d hd => by
    obtain ⟨L, _, rfl⟩ := List.mem_map.mp hd
    exact dep_row L
  rw [strD, dep]
  omega
theorem wid_row {k : Nat} (L : List Fl) (h : L.length ≤ k) (h3 : 3 ≤ k) : wid (rowD L) ≤ k := by
  have := widA_le (k := k) (ds := L.map flD) fun d hd => by
    obtain ⟨e, _, rfl⟩ := List.mem_map.mp hd
    simp only [flD, wid, widA, List.length_cons, List.length_nil]
    omega
  rw [rowD, wid, List.length_map]
  omega
theorem wid_str {k : Nat} (Ls : List (List Fl)) (h : Ls.length ≤ k) (h2 : ∀ L ∈ Ls, L.length ≤ k) (h3 : 3 ≤ k) : wid (strD Ls) ≤ k := by
  have := widA_le (k := k) (ds := Ls.map rowD) fun d hd => by
    obtain ⟨L, hL, rfl⟩ := List.mem_map.mp hd
    exact wid_row L (h2 L hL) h3
  rw [strD, wid, List.length_map]
  omega
theorem noMA_all : ∀ {ds : List PyData}, (∀ d ∈ ds, noM d = true) → noMA ds = true
  | [], _ => rfl
  | d :: ds, h => by
    rw [noMA, h d List.mem_cons_self, noMA_all fun e he => h e (List.mem_cons_of_mem _ he)]
    rfl
theorem noM_ints (r : List Int) : noMA (r.map PyData.int) = true := noMA_all fun d hd => by
  obtain ⟨x, _, rfl⟩ := List.mem_map.mp hd
  rfl
theorem noM_str (Ls : List (List Fl)) : noM (strD Ls) = true := noMA_all fun d hd => by
  obtain ⟨L, _, rfl⟩ := List.mem_map.mp hd
  exact noMA_all fun d hd => by
    obtain ⟨e, _, rfl⟩ := List.mem_map.mp hd
    rfl
theorem noM_rows (rs : List (List Int)) : noM (.list (rs.map planD)) = true := noMA_all fun d hd => by
  obtain ⟨r, _, rfl⟩ := List.mem_map.mp hd
  exact noM_ints r
theorem pap_facts {Ls : List (List Fl)} {tb : List (List Int)} (k : PapOk Ls tb) : (papD Ls tb).canLay0 = true ∧ noM (papD Ls tb) = true ∧ (dep (papD Ls tb) < 12 ∧ 1 ≤ dep (papD Ls tb) ∧ wid (papD Ls tb) ≤ 1000) ∧ SeqAt.shaped (papD Ls tb) = true := by
  have h1 : (papD Ls tb).canLay0 = true := by
    rw [papD, PyData.canLay0]
    exact lay_all fun d hd => by
      simp only [List.mem_cons, List.not_mem_nil, or_false] at hd
      rcases hd with e | e
      · rw [e]; exact lay_str Ls
      · rw [e]; exact lay_rows tb
  have h2 : noM (papD Ls tb) = true := noMA_all fun d hd => by
    simp only [List.mem_cons, List.not_mem_nil, or_false] at hd
    rcases hd with e | e
    · rw [e]; exact noM_str Ls
    · rw [e]; exact noM_rows tb
  have d1 := dep_str Ls
  have d2 := dep_rows tb
  have w1 := wid_str (k := 200) Ls (by have := k.l1; omega) k.l2 (by omega)
  have w2 := wid_rows (k := 200) tb (by have := k.t1; omega) (fun r hr => by have := (k.t2 r hr).1; omega)
  have h3 : dep (papD Ls tb) < 12 ∧ 1 ≤ dep (papD Ls tb) ∧ wid (papD Ls tb) ≤ 1000 := by
    simp only [papD, dep, depA, wid, widA, List.length_cons, List.length_nil] at d1 d2 w1 w2 ⊢
    omega
  exact ⟨h1, h2, h3, shaped_of h1 (by omega)⟩
theorem tbBy_shape {b : Int} {Ls : List (List Fl)} {tb : List (List Int)} (k : PapOk Ls tb) : (papD Ls (tbBy b tb)).canLay0 = true ∧ noM (papD Ls (tbBy b tb)) = true ∧ (dep (papD Ls (tbBy b tb)) < 12 ∧ 1 ≤ dep (papD Ls (tbBy b tb)) ∧ wid (papD Ls (tbBy b tb)) ≤ 1000) ∧ SeqAt.shaped (papD Ls (tbBy b tb)) = true := by
  have h1 : (papD Ls (tbBy b tb)).canLay0 = true := by
    rw [papD, PyData.canLay0]
    exact lay_all fun d hd => by
      simp only [List.mem_cons, List.not_mem_nil, or_false] at hd
      rcases hd with e | e
      · rw [e]; exact lay_str Ls
      · rw [e]; exact lay_rows _
  have h2 : noM (papD Ls (tbBy b tb)) = true := noMA_all fun d hd => by
    simp only [List.mem_cons, List.not_mem_nil, or_false] at hd
    rcases hd with e | e
    · rw [e]; exact noM_str Ls
    · rw [e]; exact noM_rows _
  have d1 := dep_str Ls
  have d2 := dep_rows (tbBy b tb)
  have w1 := wid_str (k := 200) Ls (by have := k.l1; omega) k.l2 (by omega)
  have w2 := wid_rows (k := 200) (tbBy b tb) (by rw [tbBy, List.length_map]; have := k.t1; omega) (fun r hr => by
    obtain ⟨r2, h2, rfl⟩ := List.mem_map.mp hr
    rw [List.length_map]
    have := (k.t2 r2 h2).1
    omega)
  have h3 : dep (papD Ls (tbBy b tb)) < 12 ∧ 1 ≤ dep (papD Ls (tbBy b tb)) ∧ wid (papD Ls (tbBy b tb)) ≤ 1000 := by
    simp only [papD, dep, depA, wid, widA, List.length_cons, List.length_nil] at d1 d2 w1 w2 ⊢
    omega
  exact ⟨h1, h2, h3, shaped_of h1 (by omega)⟩
theorem Ow.pk {a : Addr} {m c : Int} {H H' : Hp} {v : V} {d : PyData} {S : List Addr} (p : Pk a m H c) (s : But a H H') (h : Ow H v d S) (n : ∀ b, b ∈ S → b ≠ a) : Ow H' v d S := by
  have lt : ∀ b ys, b ∈ [a] → H b ≠ some (.tup ys) := fun b ys hb e => by
    obtain ⟨_, _, e', _⟩ := p
    rw [List.mem_singleton.mp hb, e'] at e
    cases e
  exact Ow.kp lt (fun b o hb h => s _ _ (fun e => hb (by simp [e])) h) h fun b hb hb' => n b hb (List.mem_singleton.mp hb')
theorem ow_pap {H : Hp} {v : V} {Ls : List (List Fl)} {tb : List (List Int)} {S : List Addr} (h : Ow H v (papD Ls tb) S) : ∃ a p q ys Sa Sb, v = .ref a ∧ H a = some (.tup [.ref p, .ref q]) ∧ S = Sa ++ q :: Sb ∧ Ow H (.ref p) (strD Ls) Sa ∧ H q = some (.lst ys) ∧ OwAll H ys (tb.map planD) Sb := by
  unfold papD at h
  cases h with
  | tup h1 h2 =>
    cases h2 with
    | cons a b =>
      cases b with
      | cons c d =>
        cases d
        cases c with
        | lst h3 h4 =>
          obtain ⟨p, xs, rfl, _, _⟩ := a.dq.list_inv
          exact ⟨_, p, _, _, _, _, rfl, h1, by rw [List.append_nil], a, h3, h4⟩
/-- a paper whose table was turned about through its address -/
theorem pap_turn {H : Hp} {a p q : Addr} {ys : List V} {Ls : List (List Fl)} {tb : List (List Int)} {Sa Sb : List Addr} (h1 : H a = some (.tup [.ref p, .ref q])) (h2 : Ow H (.ref p) (strD Ls) Sa) (h3 : H q = some (.lst ys)) (h4 : OwAll H ys (tb.map planD) Sb) (nd : (Sa ++ q :: Sb).Nodup) : Dq (upd H q (.lst ys.reverse)) (.ref a) (papD Ls tb.reverse) := by
  have lt : ∀ b ys, b ∈ [q] → H b ≠ some (.tup ys) := fun b ys hb e => by
    rw [List.mem_singleton.mp hb, h3] at e
    cases e
  have kp : Kp [q] H (upd H q (.lst ys.reverse)) := Kp.upd (by simp) Kp.refl
  rw [List.nodup_append] at nd
  obtain ⟨_, n2, n3⟩ := nd
  rw [List.nodup_cons] at n2
  have haq : a ≠ q := fun e => by
    rw [e, h3] at h1
    cases h1
  refine .tup (lk_upd haq h1) (.cons (Ow.kp lt kp h2 fun b hb hb' => n3 b hb q List.mem_cons_self (List.mem_singleton.mp hb')).dq (.cons (.lst upd_same ?_) .nil))
  rw [List.map_reverse]
  exact (OwAll.kp lt kp h4 fun b hb hb' => n2.1 (by rw [← List.mem_singleton.mp hb']; exact hb)).dq.reverse
theorem PapOk.reverse {Ls : List (List Fl)} {tb : List (List Int)} (k : PapOk Ls tb) : PapOk Ls tb.reverse := ⟨k.l1, k.l2, by rw [List.length_reverse]; exact k.t1, fun r hr => k.t2 r (List.mem_reverse.mp hr)⟩
theorem tbBy_neg (tb : List (List Int)) : tbBy (-1) tb = tb.map fun r => r.map fun x => 0 - x := by
  unfold tbBy
  refine List.map_congr_left fun r _ => List.map_congr_left fun x _ => by omega
theorem tbBy_one (tb : List (List Int)) : tbBy 1 tb = tb := by
  unfold tbBy
  have : ∀ r : List Int, (r.map fun x => x * 1) = r := fun r => by simp
  simp
end Hf
/-! ## isinstance of a caught exception by a tuple of classes -/
namespace Hf
open PySem PySem.Spec PyProof.Rows L2
def rIsXT (K : PySem.W.Frag) : List V → Hp → VK → Prop := fun xs H Q =>
  (∃ (a D : Addr) (d : Option Addr) (tp : Addr) (cs : List V) (us : List Value) (b : Bool), xs = [.ref a, .ref tp] ∧ H a = some (exHO a (.ref D) d) ∧ (∀ dd, d = some dd → ∃ fs, H dd = some (.xd fs)) ∧ ExcC K D ∧ H tp = some (.tup cs) ∧ Paired ClsV cs us ∧ PySem.W.kitAny K (.ref D) us = some b ∧ Q (.bl b) H) ∨ rIsiT K xs H Q
theorem call_isXT {X : Cx} : CallR X (.builtin "isinstance") (rIsXT X.K) := by
  intro pins s σ H xs us Q I r h
  rcases h with ⟨a, D, d, tp, cs, ws, b, rfl, ha, hdd, C, hT, hcs, e, q⟩ | h
  · cases r with
    | cons rx rr =>
      cases rr with
      | cons rt rr =>
        cases rr
        cases rx
        cases rt
        obtain ⟨oe, vs, hget, hz, hv⟩ := exHO_at I.hok ha
        obtain ⟨od, J⟩ : ∃ od, PySem.W.InstAt s.heap a oe D od := by
          cases d with
          | none =>
            obtain ⟨oc, od, oda, osl⟩ := oe
            obtain ⟨h1, h2⟩ := hz
            dsimp only at h1 h2 hv
            subst h1 h2 hv
            exact ⟨none, hget, rfl, rfl, trivial⟩
          | some dd =>
            obtain ⟨fs, hfs⟩ := hdd dd rfl
            have x : ObjOk X.prog X.w H s.heap dd (.xd fs) := I.hok dd _ hfs
            obtain ⟨mA, ⟨o, es, ep, ho, _⟩, _⟩ := x
            obtain ⟨oc, od, oda, osl⟩ := oe
            obtain ⟨h1, h2⟩ := hz
            dsimp only at h1 h2 hv
            subst h1 h2 hv
            exact ⟨some o, hget, rfl, rfl, ho⟩
        have hcl : (PySem.W.clsIn X.K D).isSome = true := by
          obtain ⟨cd, hc, _⟩ := PySem.W.any_some C.hd
          rw [hc]
          rfl
        obtain ⟨_, its, rv, o, h1, h2, n, h3⟩ := (show ObjOk X.prog X.w H s.heap tp (.tup cs) from I.hok tp _ hT)
        have e3 := ClsV.all hcs rv
        subst e3
        obtain ⟨oc, od', dt, sl⟩ := o
        simp only at h2 h3
        subst h2 h3
        exact PySem.W.kia_tup (PySem.W.kitx_exc hcl C.hg C.hk C.hs C.ha C.hn C.ht C.hm) I.kIn J h1 e (fun z => nomatch z) fun tk => ⟨.bl b, H, I.tok tk, rfl, q⟩
  · exact call_isiT pins s σ H xs us Q I r h
theorem call_isXTK {X : Cx} (K : PySem.W.Frag) (e : X.K = K) : CallR X (.builtin "isinstance") (rIsXT K) := by subst e; exact call_isXT
/-- none of these classes -/
def KitN (K : PySem.W.Frag) (D : Addr) (cs : List V) : Prop := ∃ us, Paired ClsV cs us ∧ PySem.W.kitAny K (.ref D) us = some false
theorem KitN.nil {K : PySem.W.Frag} {D : Addr} : KitN K D [] := ⟨[], .nil, rfl⟩
theorem KitN.no {K : PySem.W.Frag} {D C : Addr} {cs : List V} (h : PySem.W.kitOne K (.ref D) (.ref C) = some false) (t : KitN K D cs) : KitN K D (.ref C :: cs) := by
  obtain ⟨us, h1, h2⟩ := t
  exact ⟨.ref C :: us, .cons (.own C) h1, kitAny_cons h (fun _ => h2) (fun z => nomatch z)⟩
/-- one of these classes -/
def KitY (K : PySem.W.Frag) (D : Addr) (cs : List V) : Prop := ∃ us, Paired ClsV cs us ∧ PySem.W.kitAny K (.ref D) us = some true
def KitR (cs : List V) : Prop := ∃ us, Paired ClsV cs us
theorem KitR.nil : KitR [] := ⟨[], .nil⟩
theorem KitR.cons {C : Addr} {cs : List V} (t : KitR cs) : KitR (.ref C :: cs) := by
  obtain ⟨us, h⟩ := t
  exact ⟨.ref C :: us, .cons (.own C) h⟩
theorem KitY.here {K : PySem.W.Frag} {D C : Addr} {cs : List V} (h : PySem.W.kitOne K (.ref D) (.ref C) = some true) (t : KitR cs) : KitY K D (.ref C :: cs) := by
  obtain ⟨us, h1⟩ := t
  exact ⟨.ref C :: us, .cons (.own C) h1, by unfold PySem.W.kitAny; rw [h]⟩
theorem KitY.there {K : PySem.W.Frag} {D C : Addr} {cs : List V} (h : PySem.W.kitOne K (.ref D) (.ref C) = some false) (t : KitY K D cs) : KitY K D (.ref C :: cs) := by
  obtain ⟨us, h1, h2⟩ := t
  exact ⟨.ref C :: us, .cons (.own C) h1, kitAny_cons h (fun _ => h2) (fun z => nomatch z)⟩
section
variable {K : PySem.W.Frag} {H : Hp} {Q : VK} {a D tp dd : Addr} {cs : List V}
theorem i_isXY (h : H a = some (exHO a (.ref D) none)) (hT : H tp = some (.tup cs)) (e : ExcC K D) (k : KitY K D cs) (q : Q (.bl true) H) : rIsXT K [.ref a, .ref tp] H Q := by
  obtain ⟨us, h1, h2⟩ := k
  exact .inl ⟨a, D, none, tp, cs, us, true, rfl, h, fun _ z => (nomatch z), e, hT, h1, h2, q⟩
theorem i_isXN (h : H a = some (exHO a (.ref D) none)) (hT : H tp = some (.tup cs)) (e : ExcC K D) (k : KitN K D cs) (q : Q (.bl false) H) : rIsXT K [.ref a, .ref tp] H Q := by
  obtain ⟨us, h1, h2⟩ := k
  exact .inl ⟨a, D, none, tp, cs, us, false, rfl, h, fun _ z => (nomatch z), e, hT, h1, h2, q⟩
theorem i_isXNd {fs : List (Str × V)} (h : H a = some (exHO a (.ref D) (some dd))) (hd : H dd = some (.xd fs)) (hT : H tp = some (.tup cs)) (e : ExcC K D) (k : KitN K D cs) (q : Q (.bl false) H) : rIsXT K [.ref a, .ref tp] H Q := by
  obtain ⟨us, h1, h2⟩ := k
  exact .inl ⟨a, D, some dd, tp, cs, us, false, rfl, h, fun x z => by cases z; exact ⟨fs, hd⟩, e, hT, h1, h2, q⟩
theorem i_isXT2 {x : V} {t c1 c2 : String} {b1 b2 : Bool} (hT : H tp = some (.tup [.ty c1, .ty c2])) (ty : TyX K H x (.type t)) (h1 : kitB t c1 = some b1) (h2 : kitB t c2 = some b2) (q : Q (.bl (b1 || b2)) H) : rIsXT K [x, .ref tp] H Q := .inr (i_isiT2 hT ty h1 h2 q)
end
end Hf
/-! ## exceptions with an __init__ of their own, which calls that of a base of the program -/
namespace Hf
open PySem PySem.Spec PyProof.Rows L2
/-- Base.__init__(self, ..), Base a class of the program without one of its own -/
theorem pe_hinit {X : L2.Cx} {B : Addr} {mc : Value} {x : Str} {e : Expr} {es : List Expr} {ta : TA} {p1 p2 pos : Pos} {pl : Sem Bool} (r : ClX.CRead X.K B mc) (k : PySem.W.findCls X.K (.ref B) mc "__init__" = some (.val (.builtin "ValueError.__init__"))) (hg : Gl X x) (hm : X.mg x = some (.ref B)) (ha : PA X (e :: es) ta)
    (hd : (x == ("__debug__" : Str)) = false := by decide)
    (hc : eval (.Call (.Attribute (.Name x p1) "__init__" p2) (e :: es) [] pos) X.env = (do
      let ov ← eval (.Name x p1) X.env
      standAt p2.atName
      let (f, first) ← holding [ov] (getMethod ov "__init__" pl)
      callWith pos f first (backTo pos (starEach (e :: es) X.env)) (backToKw pos (keywordEach [] X.env))) := by rfl)
    (he : starEach (e :: es) X.env = (false, eval e X.env) :: starEach es X.env := by rfl) (hpl : (backTo pos (starEach es X.env)).any (·.1) = false := by rfl) :
    PE X (.Call (.Attribute (.Name x p1) "__init__" p2) (e :: es) [] pos) (tVeI X.K ta) := by
  refine ⟨fun pins s σ H Q I h => ?_⟩
  refine PySem.W.methodCall_KW (ld_glob I hg hm ?_ hd) hc
  refine PySem.W.method_cls I.kIn r.ga (PySem.W.cls_value I.kIn r.rd k (by decide +kernel) ?_)
  show wpAny _ _ (callWith pos (Value.builtin "ValueError.__init__") [] (backTo pos (starEach (e :: es) X.env)) []) _ _ _
  refine PyProof.Rows.callWith_method1 (thn (ha.run pos pins _ σ H _ (I.tok _) h) fun us s1 ⟨vs, H1, I1, r1, a, C, ws, ev, hl, T, ea, q⟩ => ?_) he hpl
  subst ev
  cases r1 with
  | @cons _ u0 _ ur ra rw' =>
    obtain rfl : u0 = Value.ref a := ra
    have hlen : ur.length ≤ sizeLine := by
      rw [← Paired.length rw', sizeLine_eq]
      omega
    exact oinit_ok T I1 ea hlen fun s' J => ⟨.non, H1, J, rfl, q⟩
section
variable {σ : L2.St} {H : Hp} {Q : VK} {K : PySem.W.Frag} {a C : Addr} {ws vs dvs : List V} {ta : TA} {to te : TE} {f : Str} {y : V} {nx bk ct : L2.St → Hp → Prop} {rt : VK}
def VeR (K : PySem.W.Frag) (vs : List V) (H : Hp) (Q : VK) : Prop := ∃ (a C : Addr) (ws : List V), vs = .ref a :: ws ∧ ws.length ≤ 1000 ∧ OexC K C ∧ H a = some (exo a C none) ∧ Q .non H
theorem i_vei (h : ta σ H fun vs H1 => VeR K vs H1 Q) : tVeI K ta σ H Q := h
theorem i_ver (h : H a = some (exo a C none)) (T : OexC K C) (hl : ws.length ≤ 1000) (q : Q .non H) : VeR K (.ref a :: ws) H Q := ⟨a, C, ws, rfl, hl, T, h, q⟩
def OsR (K : PySem.W.Frag) (f : Str) (y x : V) (H : Hp) (Z : Hp → Prop) : Prop := ∃ a C : Addr, x = V.ref a ∧ OexC K C ∧ PySem.W.findIn K (.ref C) f = some none ∧
  ((H a = some (exo a C none) ∧ ∀ dx, H dx = none → dx ≠ a → Z (upd (upd H dx (exd dx [(f, y)])) a (exo a C (some dx)))) ∨
    ∃ (dx : Addr) (fs : List (Str × V)), H a = some (exo a C (some dx)) ∧ H dx = some (exd dx fs) ∧ fs.length ≤ 900 ∧ Z (upd H dx (exd dx ((f, y) :: fs))))
theorem i_ost (h : te σ H fun y H1 => to σ H1 fun x H2 => OsR K f y x H2 (nx σ)) : tOst K f to te ⟨nx, rt, bk, ct⟩ σ H := h
theorem i_osr {Z : Hp → Prop} (h : H a = some (exo a C none)) (T : OexC K C) (n : PySem.W.findIn K (.ref C) f = some none) (q : ∀ dx, H dx = none → dx ≠ a → Z (upd (upd H dx (exd dx [(f, y)])) a (exo a C (some dx)))) : OsR K f y (.ref a) H Z := ⟨a, C, rfl, T, n, .inl ⟨h, q⟩⟩
end
end Hf
/-! ### raise C(y), C's __init__ noting one field -/
namespace Hf
open PySem PySem.Spec PyProof.Rows L2
section
variable {σ : L2.St} {H : Hp} {Q : VK} {K : PySem.W.Frag} {C : Addr} {f : Str} {y : V} {sp : Sp}
/-- what such an __init__ promises -/
def IniSp (sp : Sp) (C : Addr) (f : Str) (y : V) : Prop := ∀ (a : Addr) (H : Hp) (Q : VK) (E : XK), H a = some (exo a C none) → (∀ dx, H dx = none → dx ≠ a → Q .non (upd (upd H dx (exd dx [(f, y)])) a (exo a C (some dx)))) → sp [.ref a, y] H Q E
theorem i_mko {dvs : List V} {ta : TA} {Z : XK} (h : ta σ H fun vs H1 => vs.length ≤ 1000 ∧ ∀ a, H1 a = none → sp (.ref a :: (vs ++ dvs)) (upd H1 a (exo a C none))
  (fun v H2 => v = .non ∧ ∃ (d : Addr) (fs : List (Str × V)), H2 a = some (exo a C (some d)) ∧ H2 d = some (exd d fs) ∧ H1 d = none ∧ Z (.ref C) (some d) (upd (del H2 a) d (.xd fs))) (fun _ _ _ => False)) : tMkO C sp dvs ta σ H Z := h
theorem i_mko1 {Z : XK} (s : IniSp sp C f y) (q : ∀ d H', H d = none → H' d = some (.xd [(f, y)]) → Same H H' → Z (.ref C) (some d) H') : ([y] : List V).length ≤ 1000 ∧ ∀ a, H a = none → sp (.ref a :: ([y] ++ [])) (upd H a (exo a C none))
  (fun v H2 => v = .non ∧ ∃ (d : Addr) (fs : List (Str × V)), H2 a = some (exo a C (some d)) ∧ H2 d = some (exd d fs) ∧ H d = none ∧ Z (.ref C) (some d) (upd (del H2 a) d (.xd fs))) (fun _ _ _ => False) := by
  refine ⟨by rw [List.length_singleton]; decide, fun a ha => s a _ _ _ upd_same fun dx h1 h2 => ⟨rfl, dx, [(f, y)], upd_same, ?_, ?_, ?_⟩⟩
  · rw [upd_ne h2, upd_same]
  · rw [upd_ne h2] at h1
    exact h1
  · rw [upd_ne h2] at h1
    refine q dx _ h1 upd_same fun b o e => ?_
    have n1 : b ≠ a := ne_of_none e ha
    have n2 : b ≠ dx := ne_of_none e h1
    rw [upd_ne n2, del_ne n1, upd_ne n1, upd_ne n2, upd_ne n1]
    exact e
/-! ### caught.field behind the suite -/
def tXfH (K : PySem.W.Frag) (f : Str) (te : TE) : TE := fun σ H Q => te σ H fun x H1 => ∃ (a C dd : Addr) (fs : List (Str × V)) (v : V), x = .ref a ∧ H1 a = some (exHO a (.ref C) (some dd)) ∧ H1 dd = some (.xd fs) ∧ ExcC K C ∧ PySem.W.findIn K (.ref C) f = some none ∧ fs.lookup f = some v ∧ Q v H1
theorem pe_xfH {X : Cx} (K : PySem.W.Frag) (eK : X.K = K) {e : Expr} {te : TE} {pos : Pos} {n : Str} (he : PE X e te) (hb : attributeBase e n X.env (eval e X.env) = eval e X.env := by rfl) : PE X (.Attribute e n pos) (tXfH K n te) := by
  subst eK
  refine ⟨fun pins s σ H Q I h => ?_⟩
  refine attr_of hb (thn (he.run pins s σ H _ I h) fun u s1 hh => ?_)
  obtain ⟨x, H1, I1, rx, a, C, dd, fs, v, ex, ha, hdd, T, hno, l, q⟩ := hh
  subst ex
  obtain rfl : u = Value.ref a := rx
  obtain ⟨oe, vs, hget, hz, hd⟩ := exHO_at I1.hok ha
  have hx : ObjOk X.prog X.w H1 s1.heap dd (.xd fs) := I1.hok dd _ hdd
  obtain ⟨mA, hns, hr⟩ := hx
  obtain ⟨od, ho, hl⟩ := lookIn_ns hns
  obtain ⟨u, hu, ru⟩ := RelO.some_of (v := v) (o := mA n) (by rw [← l]; exact hr n)
  have J : PySem.W.InstAt s1.heap a oe C (some od) := ⟨hget, hz.1, by unfold PySem.W.notCls; rw [hd] <;> rfl, by rw [hz.2]; exact ho⟩
  exact HandSPX.exc_get I1.kIn J T.hg T.hk T.hs (PySem.W.findObj_own T.hd hno rfl (by rw [hl, hu])) (handed_of ru) ⟨v, H1, I1.tok _, ru, q⟩
def XfR (K : PySem.W.Frag) (f : Str) (x : V) (H1 : Hp) (Q : VK) : Prop := ∃ (a C dd : Addr) (fs : List (Str × V)) (v : V), x = .ref a ∧ H1 a = some (exHO a (.ref C) (some dd)) ∧ H1 dd = some (.xd fs) ∧ ExcC K C ∧ PySem.W.findIn K (.ref C) f = some none ∧ fs.lookup f = some v ∧ Q v H1
theorem i_xfH {te : TE} (h : te σ H fun x H1 => XfR K f x H1 Q) : tXfH K f te σ H Q := h
theorem i_xfR {a dd : Addr} {v : V} (h : H a = some (exHO a (.ref C) (some dd))) (h1 : H dd = some (.xd [(f, v)])) (T : ExcC K C) (n : PySem.W.findIn K (.ref C) f = some none) (q : Q v H) : XfR K f (.ref a) H Q :=
  ⟨a, C, dd, _, v, rfl, h, h1, T, n, by simp [List.lookup], q⟩
end
end Hf
/-! ## what is looked at: any data -/
namespace Hf
open PySem PySem.Spec PyProof.Rows L2
def isNumD : PyData → Bool
  | .int _ => true
  | _ => false
def isLstD : PyData → Bool
  | .list _ => true
  | _ => false
def isTupD : PyData → Bool
  | .tuple _ => true
  | _ => false
def areNumsD (n : Int) : PyData → Bool
  | .list ds => decide ((ds.length : Int) = n) && ds.all isNumD
  | _ => false
def isRuleD : List PyData → Bool
  | [.int a, .int _] => decide (1 ≤ a)
  | _ => false
def isMoreD : List PyData → Bool
  | [.int a, .int b] => decide (1 ≤ a) && (decide (0 - a ≤ b) && decide (b ≤ a))
  | _ => false
def isRowsD (f s : Int) : List PyData → Bool
  | [.list rs] => decide ((rs.length : Int) = f + 1) && rs.all (areNumsD (s + 1))
  | _ => false
/-- a field of the first word w and what stands behind it -/
def isFieldD (f s : Int) (w : Str) (ds : List PyData) : Bool :=
  if w = PySem.Str.ofString "more" then isMoreD ds else if w = PySem.Str.ofString "lead" then isRuleD ds else if w = PySem.Str.ofString "table" then isRowsD f s ds else false
def isFldT (f s : Int) : PyData → Bool
  | .tuple (.str w :: r) => isFieldD f s w r
  | _ => false
/-- which field is the first that is none -/
def badB (f s : Int) (ds : List PyData) : Option Int :=
  if f < 0 ∨ s < 0 ∨ 10 < f ∨ 10 < s ∨ ds.length < 1 ∨ 5 < ds.length then some (-1) else Option.map Int.ofNat (ds.findIdx? fun d => !isFldT f s d)
/-- what may stand in the place of a field -/
def FldIn (d : PyData) : Prop := ∃ w r, d = .tuple (.str w :: r) ∧ wid (.tuple r) ≤ 1000
def batT (f s : Int) (ds : List PyData) : PyData := .tuple [.int f, .int s, .list ds]
theorem all_num : ∀ ms : List Int, (ms.map PyData.int).all isNumD = true
  | [] => rfl
  | m :: ms => by
    rw [List.map_cons, List.all_cons, all_num ms]
    rfl
theorem nums_plan (ms : List Int) (n : Int) : areNumsD n (planD ms) = decide ((ms.length : Int) = n) := by
  rw [planD, areNumsD, List.length_map, all_num, Bool.and_true]
theorem str_ne1 : ¬ (PySem.Str.ofString "lead" = PySem.Str.ofString "more") := by decide +kernel
theorem str_ne2 : ¬ (PySem.Str.ofString "table" = PySem.Str.ofString "more") := by decide +kernel
theorem str_ne3 : ¬ (PySem.Str.ofString "table" = PySem.Str.ofString "lead") := by decide +kernel
theorem fld_ok {f s : Int} {fl : Fld} : isFldT f s (fldD fl) = true ↔ FldOk f s fl := by
  cases fl with
  | more w t => simp [fldD, isFldT, isFieldD, isMoreD, FldOk]
  | lead w t => simp [fldD, isFldT, isFieldD, isRuleD, FldOk, str_ne1]
  | tab rows =>
    simp only [fldD, isFldT, isFieldD, isRowsD, FldOk, if_neg str_ne2, if_neg str_ne3, if_true, List.length_map, Bool.and_eq_true, decide_eq_true_eq, List.all_map, List.all_eq_true, Function.comp, nums_plan]
theorem fld_in {f s : Int} {fl : Fld} (hf : f ≤ 10) (hs : s ≤ 10) (k : FldOk f s fl) : FldIn (fldD fl) := by
  have w := wid_fld hf hs k
  cases fl with
  | more w t => exact ⟨_, _, rfl, by simp [wid, widA]⟩
  | lead w t => exact ⟨_, _, rfl, by simp [wid, widA]⟩
  | tab rows =>
    refine ⟨_, _, rfl, ?_⟩
    simp only [fldD, wid, widA, List.length_cons, List.length_nil] at w ⊢
    omega
theorem bad_none {f s : Int} {ds : List PyData} : badB f s ds = none ↔ (0 ≤ f ∧ f ≤ 10) ∧ (0 ≤ s ∧ s ≤ 10) ∧ (1 ≤ ds.length ∧ ds.length ≤ 5) ∧ ∀ d ∈ ds, isFldT f s d = true := by
  unfold badB
  split
  · simp
    omega
  · rename_i c
    rw [Option.map_eq_none_iff, List.findIdx?_eq_none_iff]
    refine ⟨fun h => ⟨by omega, by omega, by omega, fun d hd => ?_⟩, fun h d hd => ?_⟩
    · simpa using h d hd
    · simpa using h.2.2.2 d hd
theorem bad_ok {f s : Int} {fs : List Fld} : badB f s (fs.map fldD) = none ↔ BatOk f s fs := by
  rw [bad_none]
  constructor
  · rintro ⟨h1, h2, h3, h4⟩
    refine ⟨h1, h2, by rw [List.length_map] at h3; exact h3, fun x hx => fld_ok.mp (h4 _ (List.mem_map_of_mem hx))⟩
  · intro h
    refine ⟨h.hf, h.hs, by rw [List.length_map]; exact h.ne, fun d hd => ?_⟩
    obtain ⟨x, hx, rfl⟩ := List.mem_map.mp hd
    exact fld_ok.mpr (h.ok x hx)
theorem bat_in {f s : Int} {fs : List Fld} (h : BatOk f s fs) : ∀ d ∈ fs.map fldD, FldIn d := fun d hd => by
  obtain ⟨x, hx, rfl⟩ := List.mem_map.mp hd
  exact fld_in h.hf.2 h.hs.2 (h.ok x hx)
theorem bad_at {f s : Int} {ds : List PyData} (h : 0 ≤ f ∧ f ≤ 10 ∧ 0 ≤ s ∧ s ≤ 10 ∧ 1 ≤ ds.length ∧ ds.length ≤ 5) {k : Nat} {d : PyData} (hd : ds[k]? = some d) (h1 : isFldT f s d = false) (h2 : ∀ (j : Nat) e, j < k → ds[j]? = some e → isFldT f s e = true) : badB f s ds = some (k : Int) := by
  unfold badB
  rw [if_neg (by omega)]
  have hk := (List.getElem?_eq_some_iff.mp hd).1
  have : ds.findIdx? (fun d => !isFldT f s d) = some k := by
    rw [List.findIdx?_eq_some_iff_getElem]
    refine ⟨hk, ?_, fun j hj => ?_⟩
    · rw [(List.getElem?_eq_some_iff.mp hd).2, h1]
      rfl
    · rw [h2 j _ hj (List.getElem?_eq_getElem (by omega))]
      simp
  rw [this]
  rfl
section
variable {H : Hp} {v : V}
theorem Dq.tup_inv {ds : List PyData} (h : Dq H v (.tuple ds)) : ∃ a xs, v = .ref a ∧ H a = some (.tup xs) ∧ DqAll H xs ds := Dq.tuple_inv h
theorem batT_inv {f s : Int} {ds : List PyData} (h : Dq H v (batT f s ds)) : ∃ a p xs, v = .ref a ∧ H a = some (.tup [.int f, .int s, .ref p]) ∧ H p = some (.lst xs) ∧ DqAll H xs ds := by
  obtain ⟨a, xs, rfl, h1, h2⟩ := Dq.tuple_inv h
  cases h2 with
  | cons a b =>
    cases b with
    | cons c d =>
      cases d with
      | cons e f =>
        cases f
        obtain rfl := Dq.int_inv a
        obtain rfl := Dq.int_inv c
        obtain ⟨p, ys, rfl, h3, h4⟩ := Dq.list_inv e
        exact ⟨_, p, ys, rfl, h1, h3, h4⟩
theorem batT_mk {a p : Addr} {xs : List V} {f s : Int} {ds : List PyData} (h : H a = some (.tup [.int f, .int s, .ref p])) (h1 : H p = some (.lst xs)) (h2 : DqAll H xs ds) : Dq H (.ref a) (batT f s ds) := .tup h (.cons (.int _) (.cons (.int _) (.cons (.lst h1 h2) .nil)))
theorem fldT_inv {w : Str} {r : List PyData} (h : Dq H v (.tuple (.str w :: r))) : ∃ a xs, v = .ref a ∧ H a = some (.tup (.str w :: xs)) ∧ DqAll H xs r := by
  obtain ⟨a, xs, rfl, h1, h2⟩ := Dq.tuple_inv h
  cases h2 with
  | cons a b =>
    obtain rfl := Dq.str_inv a
    exact ⟨_, _, rfl, h1, b⟩
end
theorem atI_0 {x : V} {xs : List V} : atI (x :: xs) 0 = some x := atI_nat (j := 0) rfl
theorem atI_1 {x y : V} {xs : List V} : atI (x :: y :: xs) 1 = some y := atI_nat (j := 1) rfl
theorem atI_2 {x y z : V} {xs : List V} : atI (x :: y :: z :: xs) 2 = some z := atI_nat (j := 2) rfl
theorem i_ix3S {K : PySem.W.Frag} {H : Hp} {Q : VK} {p : Addr} {i : Int} {y1 y2 y3 : Str} (h : SqL K H p [.str y1, .str y2, .str y3]) (h0 : 0 ≤ i) (h1 : i < 3) (q : ∀ v, v = y1 ∨ v = y2 ∨ v = y3 → Q (.str v) H) : rIxL K (.ref p) (.int i) H Q := by
  obtain rfl | rfl | rfl : i = 0 ∨ i = 1 ∨ i = 2 := by omega
  · exact i_ixL h atI_0 (q _ (.inl rfl))
  · exact i_ixL h atI_1 (q _ (.inr (.inl rfl)))
  · exact i_ixL h atI_2 (q _ (.inr (.inr rfl)))
theorem bnot {b : Bool} (h : (!b) = true) : b = false := by simpa using h
theorem bnot' {b : Bool} (h : (!b) = false) : b = true := by simpa using h
theorem num_inv {d : PyData} (h : isNumD d = true) : ∃ x, d = .int x := by
  cases d <;> simp [isNumD] at h ⊢
theorem rule_inv {ds : List PyData} (h : isRuleD ds = true) : ∃ x y, ds = [.int x, .int y] ∧ 1 ≤ x := by
  unfold isRuleD at h
  split at h
  · exact ⟨_, _, rfl, of_decide_eq_true h⟩
  · cases h
theorem rule_short1 {d : PyData} : isRuleD [d] = false := by simp [isRuleD]
theorem rule_long {a b c : PyData} {ds : List PyData} : isRuleD (a :: b :: c :: ds) = false := by simp [isRuleD]
theorem rule_no1 {a b : PyData} (h : isNumD a = false) : isRuleD [a, b] = false := by
  cases a <;> simp [isRuleD, isNumD] at h ⊢
theorem rule_no2 {a b : PyData} (h : isNumD b = false) : isRuleD [a, b] = false := by
  cases b <;> simp [isRuleD, isNumD] at h ⊢
theorem more_rule {ds : List PyData} (h : isRuleD ds = false) : isMoreD ds = false := by
  unfold isMoreD
  split
  · rw [isRuleD] at h
    rw [h]
    rfl
  · rfl
theorem more_yes {x y : Int} (h : 1 ≤ x) (h2 : 0 - x ≤ y) : isMoreD [.int x, .int y] = decide (y ≤ x) := by
  rw [isMoreD, decide_eq_true h, decide_eq_true h2, Bool.true_and, Bool.true_and]
theorem more_no {x y : Int} (h2 : ¬ 0 - x ≤ y) : isMoreD [.int x, .int y] = false := by
  rw [isMoreD, decide_eq_false h2, Bool.false_and, Bool.and_false]
theorem rows_long {f s : Int} {a b : PyData} {ds : List PyData} : isRowsD f s (a :: b :: ds) = false := by simp [isRowsD]
theorem rows_one {f s : Int} {d : PyData} (h : isLstD d = false) : isRowsD f s [d] = false := by
  cases d <;> simp [isRowsD, isLstD] at h ⊢
theorem rows_no {f s : Int} {ds : List PyData} (h : ¬ (ds.length : Int) = f + 1) : isRowsD f s [.list ds] = false := by
  rw [isRowsD, decide_eq_false h, Bool.false_and]
theorem rows_yes {f s : Int} {ds : List PyData} (h : (ds.length : Int) = f + 1) : isRowsD f s [.list ds] = ds.all (areNumsD (s + 1)) := by
  rw [isRowsD, decide_eq_true h, Bool.true_and]
theorem dq_two_ints {H : Hp} {xs : List V} {x y : Int} (h : DqAll H xs [.int x, .int y]) : xs = [.int x, .int y] := DqAll.ints (ms := [x, y]) h
/-! ### how many are kept: none, or some -/
section
variable {σ : L2.St} {H H1 : Hp} {Q : VK} {K : PySem.W.Frag} {D l : Addr} {g : TG} {tt : TT} {te : TE} {vs : List Nat} {xs : List V} {Qd : Hp → Prop}
theorem lcL_fl (b : Nat → Bool) (nD : H1 D = none) (hn : xs.length ≤ 1000000) (hx : SqL K H1 l xs)
    (hs : ∀ (i : Nat) (x : V) H (Z : VK) (Y : Hp → Prop), xs[i]? = some x → Same H1 H → (∀ v H4, b i = true → Same H H4 → Z v H4) → (∀ H4, b i = false → Same H H4 → Y H4) → LcTurn g tt te vs σ x H Z Y)
    (hd : ∀ acc H, H D = some (.lst acc) → Same H1 H → ((acc.length : Int) = 0 ↔ ∀ i, i < xs.length → b i = false) → acc.length ≤ xs.length → Qd H) :
    ∃ W : Nat → Nat → Hp → Prop, (∃ m, W 0 m (upd H1 D (.lst []))) ∧ ∀ i m H, W i m H →
      ((Itl K l).stop i H ∧ Qd H) ∨ ((Itl K l).go i H ∧ ∃ Nx : Hp → Prop, (∀ H', Nx H' → ∃ m', m' < m ∧ W (i + 1) m' H') ∧ ∀ x H', (Itl K l).yld i H x H' → g x (wipe σ vs) H' fun σ2 H2 => wipe σ2 vs = wipe σ vs ∧ tt σ2 H2 fun b H3 =>
        if b = true then te σ2 H3 fun y H4 => ∃ acc, H4 D = some (.lst acc) ∧ acc.length < sizeLine ∧ Nx (upd H4 D (.lst (acc ++ [y]))) else Nx H3) := by
  refine lcL (xs := xs) (fun i acc H => Same H1 H ∧ acc.length ≤ i ∧ (acc = [] ↔ ∀ j, j < i → b j = false)) nD ⟨Same.new nD, Nat.le_refl _, by simp⟩ (fun i acc H _ q _ => q.1.seq hx) ?_ ?_
  · rintro i x acc H Z Y hi ⟨r1, r2, r3⟩ hD hz hy
    have hi' : i < xs.length := (List.getElem?_eq_some_iff.mp hi).1
    refine hs i x H Z Y hi r1 (fun v H4 e s => hz _ _ (s _ _ hD) (sz4' (by omega)) ⟨Same.mut (r1.trans s) nD, by rw [List.length_append]; show _ + 1 ≤ _; omega, ⟨fun q => by simp at q, fun q => ?_⟩⟩) (fun H4 e s => hy _ (s _ _ hD) ⟨r1.trans s, by omega, ?_⟩)
    · rw [q i (by omega)] at e
      cases e
    · rw [r3]
      refine ⟨fun q j hj => ?_, fun q j hj => q j (by omega)⟩
      by_cases c : j = i
      · rw [c]; exact e
      · exact q j (by omega)
  · rintro acc H ⟨r1, r2, r3⟩ hD
    refine hd acc H hD r1 ?_ r2
    rw [← r3, ← List.length_eq_zero_iff]
    omega
end
theorem all_at {α : Type} {p : α → Bool} {xs : List α} : xs.all p = true ↔ ∀ (i : Nat) (x : α), xs[i]? = some x → p x = true := by
  rw [List.all_eq_true]
  refine ⟨fun h i x e => h x (List.mem_of_getElem? e), fun h x hx => ?_⟩
  obtain ⟨i, hi, rfl⟩ := List.mem_iff_getElem.mp hx
  exact h i _ (List.getElem?_eq_getElem hi)
/-- the end of `len([.. if not p]) == 0` -/
theorem len0_all {p : PyData → Bool} {ds : List PyData} {n : Nat} {m : Nat} (e : n = ds.length) (h : (m : Int) = 0 ↔ ∀ i, i < n → (!((ds[i]?).map p).getD true) = false) : decide ((m : Int) = 0) = ds.all p := by
  subst e
  rw [Bool.eq_iff_iff, decide_eq_true_iff, h, all_at]
  refine ⟨fun q i x e => ?_, fun q i hi => ?_⟩
  · have := q i (List.getElem?_eq_some_iff.mp e).1
    rw [e] at this
    simpa using this
  · rw [List.getElem?_eq_getElem hi]
    simp [q i _ (List.getElem?_eq_getElem hi)]
end Hf
/-! ### what may be copied and bent: words with numbers, tables of rows -/
namespace Hf
open PySem PySem.Spec PyProof.Rows L2
def CpOk (d : PyData) : Prop := (∃ (w : Str) (ms : List Int), d = .tuple (.str w :: ms.map PyData.int) ∧ ¬ w = PySem.Str.ofString "table" ∧ PyData.strOk w = true ∧ ms.length ≤ 4) ∨ (∃ rows : List (List Int), d = fldD (.tab rows) ∧ rows.length ≤ 20 ∧ ∀ r ∈ rows, r.length ≤ 20)
theorem cp_word {w : Str} (ms : List Int) (h : ¬ w = PySem.Str.ofString "table") (s : PyData.strOk w = true) (l : ms.length ≤ 4) : CpOk (.tuple (.str w :: ms.map PyData.int)) := .inl ⟨w, ms, rfl, h, s, l⟩
theorem cp_tab {rows : List (List Int)} (h : rows.length ≤ 20) (h2 : ∀ r ∈ rows, r.length ≤ 20) : CpOk (fldD (.tab rows)) := .inr ⟨rows, rfl, h, h2⟩
theorem cp_fld {f s : Int} {fl : Fld} (hf : f ≤ 10) (hs : s ≤ 10) (k : FldOk f s fl) : CpOk (fldD fl) := by
  cases fl with
  | more w t => exact cp_word [w, t] (by decide +kernel) (by decide +kernel) (by simp)
  | lead w t => exact cp_word [w, t] (by decide +kernel) (by decide +kernel) (by simp)
  | tab rows =>
    obtain ⟨h1, h2⟩ := k
    exact cp_tab (by omega) fun r hr => by have := h2 r hr; omega
theorem word_less {f s : Int} {w0 : Str} (hw : w0 = PySem.Str.ofString "more" ∨ w0 = PySem.Str.ofString "lead") {z : Int} {r : List PyData} (hz : z < 1) : isFieldD f s w0 (.int z :: r) = false := by
  rcases hw with rfl | rfl
  · rw [isFieldD, if_pos rfl]
    unfold isMoreD
    split
    · rename_i e; cases e
      rw [decide_eq_false (by omega)]
      rfl
    · rfl
  · rw [isFieldD, if_neg str_ne1, if_pos rfl]
    unfold isRuleD
    split
    · rename_i e; cases e
      exact decide_eq_false (by omega)
    · rfl
theorem word_len {f s : Int} {w0 : Str} (hw : w0 = PySem.Str.ofString "more" ∨ w0 = PySem.Str.ofString "lead") {ds : List PyData} (hl : ds.length ≠ 2) : isFieldD f s w0 ds = false := by
  rcases hw with rfl | rfl
  · rw [isFieldD, if_pos rfl]
    unfold isMoreD
    split
    · exact absurd rfl hl
    · rfl
  · rw [isFieldD, if_neg str_ne1, if_pos rfl]
    unfold isRuleD
    split
    · exact absurd rfl hl
    · rfl
theorem fld_no {f s : Int} {fl : Fld} (h : ¬ FldOk f s fl) : isFldT f s (fldD fl) = false := by
  cases e : isFldT f s (fldD fl) with
  | false => rfl
  | true => exact absurd (fld_ok.mp e) h
theorem CpOk.fin {d : PyData} (h : CpOk d) : FldIn d := by
  rcases h with ⟨w, ms, rfl, _, _, h⟩ | ⟨rows, rfl, h1, h2⟩
  · refine ⟨w, _, rfl, ?_⟩
    rw [wid, wid_ints, List.length_map]
    omega
  · have := wid_rows (k := 20) rows h1 h2
    refine ⟨_, _, rfl, ?_⟩
    simp only [wid, widA, List.length_cons, List.length_nil, List.length_map] at this ⊢
    omega
theorem CpOk.lay {d : PyData} (h : CpOk d) : d.canLay0 = true := by
  rcases h with ⟨w, ms, rfl, _, s, _⟩ | ⟨rows, rfl, _, _⟩
  · simp [PyData.canLay0, PyData.canLayAll0, s, canLay_ints]
  · exact lay_fld _
theorem CpOk.dep {d : PyData} (h : CpOk d) : dep d ≤ 3 := by
  rcases h with ⟨w, ms, rfl, _, _, _⟩ | ⟨rows, rfl, _, _⟩
  · simp [Hf.dep, depA, dep_ints]
  · exact dep_fld _
theorem shaped_batT {f s : Int} {ds : List PyData} (h : ∀ d ∈ ds, CpOk d) : SeqAt.shaped (batT f s ds) = true := by
  have l : PyData.canLayAll0 ds = true := lay_all fun d hd => (h d hd).lay
  have e : depA ds ≤ 3 := depA_le fun d hd => (h d hd).dep
  refine shaped_of (by simp [batT, PyData.canLay0, PyData.canLayAll0, l]) ?_
  simp only [batT, Hf.dep, depA]
  omega
end Hf
namespace Hf
open PySem PySem.Spec PyProof.Rows L2
theorem i_nin {K : PySem.W.Frag} {H : Hp} {Q : VK} {p : Addr} {x : V} {xs : List V} {b : Bool} (h : SqL K H p xs) (f : flatV x = true) (g : xs.all flatV = true) (e : inV x xs = b) (q : Q (.bl (!b)) H) : rIn K true x (.ref p) H Q := ⟨p, xs, rfl, .inl h, f, g, by rw [e]; exact q⟩
theorem i_ninT {K : PySem.W.Frag} {H : Hp} {Q : VK} {p : Addr} {x : V} {xs : List V} {b : Bool} (h : SqT K H p xs) (f : flatV x = true) (g : xs.all flatV = true) (e : inV x xs = b) (q : Q (.bl (!b)) H) : rIn K true x (.ref p) H Q := ⟨p, xs, rfl, .inr h, f, g, by rw [e]; exact q⟩
theorem i_neDe {K : PySem.W.Frag} {H : Hp} {Q : VK} {v w : V} {d e : PyData} (h1 : Dq H v d) (h2 : Dq H w e) (s1 : SeqAt.shaped d = true) (s2 : SeqAt.shaped e = true) (q : Q (.bl (!PyData.eqv d e)) H) : rNeD K v w H Q := ⟨d, e, h1.dp, h2.dp, s1, s2, q⟩
end Hf
/-! ## owned things, more of them -/
namespace Hf
open PySem PySem.Spec PyProof.Rows L2
section
variable {σ : L2.St} {H H1 : Hp} {Q : VK} {K : PySem.W.Frag} {D a l : Addr} {wi : TI} {g : TG} {tt : TT} {te : TE} {vs : List Nat} {lo : Int} {n : Nat} {xs : List V} {Qd : Hp → Prop}
theorem lcR_own (f : Nat → PyData) (nD : H1 D = none) (hn : n ≤ 1000000)
    (hs : ∀ (i : Nat) H (Z : VK) (Y : Hp → Prop), i < n → Same H1 H → (∀ v S H4, OwN H H4 v (f i) S → Same H H4 → Z v H4) → LcTurn g tt te vs σ (.int (lo + i)) H Z Y)
    (hd : ∀ S H, OwN H1 H (.ref D) (.list ((List.range n).map f)) S → Same H1 H → Qd H) :
    ∃ W : Nat → Nat → Hp → Prop, (∃ m, W 0 m (upd H1 D (.lst []))) ∧ ∀ i m H, W i m H →
      ((Itr lo n).stop i H ∧ Qd H) ∨ ((Itr lo n).go i H ∧ ∃ Nx : Hp → Prop, (∀ H', Nx H' → ∃ m', m' < m ∧ W (i + 1) m' H') ∧ ∀ x H', (Itr lo n).yld i H x H' → g x (wipe σ vs) H' fun σ2 H2 => wipe σ2 vs = wipe σ vs ∧ tt σ2 H2 fun b H3 =>
        if b = true then te σ2 H3 fun y H4 => ∃ acc, H4 D = some (.lst acc) ∧ acc.length < sizeLine ∧ Nx (upd H4 D (.lst (acc ++ [y]))) else Nx H3) := by
  refine lcR (fun i acc H => acc.length = i ∧ Same H1 H ∧ ∃ S, OwAll H acc ((List.range i).map f) S ∧ S.Nodup ∧ D ∉ S ∧ ∀ b, b ∈ S → H1 b = none) nD ⟨rfl, Same.new nD, [], .nil, List.nodup_nil, by simp, nofun⟩ ?_ ?_
  · rintro i acc H Z Y hi ⟨h1, h2, S, h3, h4, h5, h6⟩ hD hz _
    refine hs i H Z Y hi h2 fun v S' H4 k1 k2 => ?_
    have hDS : D ∉ S' := fun z => by
      have := k1.nw D z
      rw [hD] at this
      cases this
    have kp : Kp [D] H4 (upd H4 D (.lst (acc ++ [v]))) := Kp.upd (by simp) Kp.refl
    have ht : ∀ b ys, b ∈ [D] → H4 b ≠ some (.tup ys) := fun b ys hb e => by
      rw [List.mem_singleton.mp hb, k2 _ _ hD] at e
      cases e
    have hd1 : ∀ b, b ∈ S → b ∉ [D] := fun b hb hb' => h5 (by rw [← List.mem_singleton.mp hb']; exact hb)
    have hd2 : ∀ b, b ∈ S' → b ∉ [D] := fun b hb hb' => hDS (by rw [← List.mem_singleton.mp hb']; exact hb)
    refine hz _ _ (k2 _ _ hD) (sz4' (by omega)) ⟨by rw [List.length_append, h1]; rfl, Same.mut (h2.trans k2) nD, S ++ S', ?_, ?_, ?_, ?_⟩
    · rw [List.range_succ, List.map_append]
      exact OwAll.snoc (OwAll.kp ht kp (h3.same k2) hd1) (Ow.kp ht kp k1.ow hd2)
    · rw [List.nodup_append]
      refine ⟨h4, k1.nd, fun b hb c hc e => ?_⟩
      subst e
      obtain ⟨ys, e'⟩ := h3.lists b hb
      rw [k1.nw b hc] at e'
      cases e'
    · intro z
      rcases List.mem_append.mp z with z | z
      · exact h5 z
      · exact hDS z
    · intro b hb
      rcases List.mem_append.mp hb with z | z
      · exact h6 b z
      · exact h2.free (k1.nw b z)
  · rintro acc H ⟨h1, h2, S, h3, h4, h5, h6⟩ hD
    exact hd (D :: S) H ⟨.lst hD h3, List.nodup_cons.mpr ⟨h5, h4⟩, fun b hb => by
      rcases List.mem_cons.mp hb with z | z
      · rw [z]; exact nD
      · exact h6 b z⟩ h2
theorem lcT_own (f : Nat → PyData) (nD : H1 D = none) (hn : xs.length ≤ 1000000) (hx : SqT K H1 l xs)
    (hs : ∀ (i : Nat) (x : V) H (Z : VK) (Y : Hp → Prop), xs[i]? = some x → Same H1 H → (∀ v S H4, OwN H H4 v (f i) S → Same H H4 → Z v H4) → LcTurn g tt te vs σ x H Z Y)
    (hd : ∀ S H, OwN H1 H (.ref D) (.list ((List.range xs.length).map f)) S → Same H1 H → Qd H) :
    ∃ W : Nat → Nat → Hp → Prop, (∃ m, W 0 m (upd H1 D (.lst []))) ∧ ∀ i m H, W i m H →
      ((Itt K l).stop i H ∧ Qd H) ∨ ((Itt K l).go i H ∧ ∃ Nx : Hp → Prop, (∀ H', Nx H' → ∃ m', m' < m ∧ W (i + 1) m' H') ∧ ∀ x H', (Itt K l).yld i H x H' → g x (wipe σ vs) H' fun σ2 H2 => wipe σ2 vs = wipe σ vs ∧ tt σ2 H2 fun b H3 =>
        if b = true then te σ2 H3 fun y H4 => ∃ acc, H4 D = some (.lst acc) ∧ acc.length < sizeLine ∧ Nx (upd H4 D (.lst (acc ++ [y]))) else Nx H3) := by
  refine lcT (xs := xs) (fun i acc H => acc.length = i ∧ Same H1 H ∧ ∃ S, OwAll H acc ((List.range i).map f) S ∧ S.Nodup ∧ D ∉ S ∧ ∀ b, b ∈ S → H1 b = none) nD ⟨rfl, Same.new nD, [], .nil, List.nodup_nil, by simp, nofun⟩ (fun i acc H _ q _ => Same.seqT q.2.1 hx) ?_ ?_
  · rintro i x acc H Z Y hi ⟨h1, h2, S, h3, h4, h5, h6⟩ hD hz _
    have hi' : i < xs.length := (List.getElem?_eq_some_iff.mp hi).1
    refine hs i x H Z Y hi h2 fun v S' H4 k1 k2 => ?_
    have hDS : D ∉ S' := fun z => by
      have := k1.nw D z
      rw [hD] at this
      cases this
    have kp : Kp [D] H4 (upd H4 D (.lst (acc ++ [v]))) := Kp.upd (by simp) Kp.refl
    have ht : ∀ b ys, b ∈ [D] → H4 b ≠ some (.tup ys) := fun b ys hb e => by
      rw [List.mem_singleton.mp hb, k2 _ _ hD] at e
      cases e
    have hd1 : ∀ b, b ∈ S → b ∉ [D] := fun b hb hb' => h5 (by rw [← List.mem_singleton.mp hb']; exact hb)
    have hd2 : ∀ b, b ∈ S' → b ∉ [D] := fun b hb hb' => hDS (by rw [← List.mem_singleton.mp hb']; exact hb)
    refine hz _ _ (k2 _ _ hD) (sz4' (by omega)) ⟨by rw [List.length_append, h1]; rfl, Same.mut (h2.trans k2) nD, S ++ S', ?_, ?_, ?_, ?_⟩
    · rw [List.range_succ, List.map_append]
      exact OwAll.snoc (OwAll.kp ht kp (h3.same k2) hd1) (Ow.kp ht kp k1.ow hd2)
    · rw [List.nodup_append]
      refine ⟨h4, k1.nd, fun b hb c hc e => ?_⟩
      subst e
      obtain ⟨ys, e'⟩ := h3.lists b hb
      rw [k1.nw b hc] at e'
      cases e'
    · intro z
      rcases List.mem_append.mp z with z | z
      · exact h5 z
      · exact hDS z
    · intro b hb
      rcases List.mem_append.mp hb with z | z
      · exact h6 b z
      · exact h2.free (k1.nw b z)
  · rintro acc H ⟨h1, h2, S, h3, h4, h5, h6⟩ hD
    exact hd (D :: S) H ⟨.lst hD h3, List.nodup_cons.mpr ⟨h5, h4⟩, fun b hb => by
      rcases List.mem_cons.mp hb with z | z
      · rw [z]; exact nD
      · exact h6 b z⟩ h2
end
/-- a tuple of flat things and a last owned one -/
theorem OwN.bat {H H1 : Hp} {v : V} {f s : Int} {d : PyData} {S : List Addr} {q : Addr} (h : OwN H H1 v d S) (hq : H1 q = none) : OwN H (upd H1 q (.tup [.int f, .int s, v])) (.ref q) (.tuple [.int f, .int s, d]) S := by
  refine ⟨?_, h.nd, h.nw⟩
  have := Ow.tup (H := upd H1 q (.tup [.int f, .int s, v])) (a := q) upd_same (OwAll.cons (S := []) (.int f) (OwAll.cons (S := []) (.int s) (OwAll.cons (h.ow.same (Same.new hq)) .nil)))
  rw [List.append_nil] at this
  exact this
theorem OwN.tab {H H1 : Hp} {v : V} {w : Str} {d : PyData} {S : List Addr} {q : Addr} (h : OwN H H1 v d S) (hq : H1 q = none) : OwN H (upd H1 q (.tup [.str w, v])) (.ref q) (.tuple [.str w, d]) S := by
  refine ⟨?_, h.nd, h.nw⟩
  have := Ow.tup (H := upd H1 q (.tup [.str w, v])) (a := q) upd_same (OwAll.cons (S := []) (.str w) (OwAll.cons (h.ow.same (Same.new hq)) .nil))
  rw [List.append_nil] at this
  exact this
theorem own_word {H H1 : Hp} {w : Str} {a b : Int} {q : Addr} : OwN H (upd H1 q (.tup [.str w, .int a, .int b])) (.ref q) (.tuple [.str w, .int a, .int b]) [] :=
  ⟨Ow.tup upd_same (OwAll.cons (S := []) (.str w) (OwAll.cons (S := []) (.int a) (OwAll.cons (S := []) (.int b) .nil))), List.nodup_nil, nofun⟩
theorem own_list {H : Hp} {D : Addr} {H1 : Hp} {r : List Int} (hD : H1 D = some (.lst (r.map V.int))) (n : H D = none) : OwN H H1 (.ref D) (planD r) [D] :=
  ⟨.lst hD (own_ints _), by simp, fun b hb => by rw [List.mem_singleton.mp hb]; exact n⟩
theorem DqAll.append {H : Hp} : ∀ {vs ws : List V} {ds es : List PyData}, DqAll H vs ds → DqAll H ws es → DqAll H (vs ++ ws) (ds ++ es)
  | _, _, _, _, .nil, h => h
  | _, _, _, _, .cons h q, g => .cons h (DqAll.append q g)
theorem DqAll.rep6 {H : Hp} {vs : List V} {ds : List PyData} (h : DqAll H vs ds) : ∀ n : Nat, DqAll H (List.replicate n vs).flatten (List.replicate n ds).flatten
  | 0 => .nil
  | n + 1 => by
    rw [List.replicate_succ, List.replicate_succ, List.flatten_cons, List.flatten_cons]
    exact h.append (DqAll.rep6 h n)
theorem flat_len {α : Type} {xs : List α} : ∀ n : Nat, (List.replicate n xs).flatten.length = n * xs.length
  | 0 => by simp
  | n + 1 => by
    rw [List.replicate_succ, List.flatten_cons, List.length_append, flat_len n, Nat.succ_mul]
    omega
theorem flat_mem {α : Type} {xs : List α} {x : α} {n : Nat} (h : x ∈ (List.replicate n xs).flatten) : x ∈ xs := by
  obtain ⟨l, h1, h2⟩ := List.mem_flatten.mp h
  rw [(List.mem_replicate.mp h1).2] at h2
  exact h2
theorem ne_hid {a b : Addr} {H : Hp} {o : HO} (h : hid [a] H b = some o) : b ≠ a := fun e => by
  rw [e, hid_in (by simp)] at h
  cases h
theorem DqAll.set {H : Hp} : ∀ {vs : List V} {ds : List PyData} {w : V} {d : PyData}, DqAll H vs ds → Dq H w d → ∀ n : Nat, DqAll H (vs.set n w) (ds.set n d)
  | _, _, _, _, .nil, _, _ => .nil
  | _, _, _, _, .cons _ q, g, 0 => .cons g q
  | _, _, _, _, .cons h q, g, n + 1 => .cons h (DqAll.set q g n)
theorem same_hidS {G H : Hp} {S : List Addr} (s : Same G H) (h : ∀ b, b ∈ S → G b = none) : Same G (hid S H) := fun b o e => by
  have n : b ∉ S := fun z => by rw [h b z] at e; cases e
  rw [hid_out n]
  exact s b o e
/-- more is hidden: what is new -/
theorem hid_more {H H1 : Hp} {R : Addr} {S : List Addr} (s : Same H H1) (n : H R = none) : Same (hid S H) (hid (R :: S) H1) := fun b o h => by
  by_cases c : b ∈ S
  · rw [hid_in c] at h
    cases h
  · rw [hid_out c] at h
    have : b ∉ R :: S := fun z => by
      rcases List.mem_cons.mp z with e | e
      · rw [e, n] at h; cases h
      · exact c e
    rw [hid_out this]
    exact s b o h
theorem hid_less {H : Hp} {S T : List Addr} (h : ∀ b, b ∈ T → b ∈ S) : Same (hid S H) (hid T H) := fun b o e => by
  by_cases c : b ∈ S
  · rw [hid_in c] at e
    cases e
  · rw [hid_out c] at e
    rw [hid_out fun z => c (h b z)]
    exact e
theorem noMA_every : ∀ {ds : List PyData}, (∀ d ∈ ds, noM d = true) → noMA ds = true
  | [], _ => by simp [noMA]
  | d :: ds, h => by
    rw [noMA, h d List.mem_cons_self, noMA_every fun e he => h e (List.mem_cons_of_mem _ he)]
    rfl
theorem noM_int (r : List Int) : noMA (r.map PyData.int) = true := noMA_every fun d hd => by
  obtain ⟨x, _, rfl⟩ := List.mem_map.mp hd
  simp [noM]
theorem noM_fld (fl : Fld) : noM (fldD fl) = true := by
  cases fl with
  | more w t => simp [fldD, noM, noMA, mkS]; decide +kernel
  | lead w t => simp [fldD, noM, noMA, mkS]; decide +kernel
  | tab rows =>
    have : noMA (rows.map planD) = true := noMA_every fun d hd => by
      obtain ⟨x, _, rfl⟩ := List.mem_map.mp hd
      exact noM_int x
    simp [fldD, noM, noMA, mkS, this]
    decide +kernel
theorem bat_facts {f s : Int} {fs : List Fld} (k : BatOk f s fs) : (batD f s fs).canLay0 = true ∧ noM (batD f s fs) = true ∧ (dep (batD f s fs) < 12 ∧ 1 ≤ dep (batD f s fs) ∧ wid (batD f s fs) ≤ 1000) := by
  have h2 : noM (batD f s fs) = true := by
    have : noMA (fs.map fldD) = true := noMA_every fun d hd => by
      obtain ⟨x, _, rfl⟩ := List.mem_map.mp hd
      exact noM_fld x
    simp [batD, noM, noMA, this]
  have h3 := dep_bat f s fs
  have h4 := wid_bat k.hf.2 k.hs.2 (by have := k.ne; omega) k.ok
  refine ⟨lay_bat f s fs, h2, by omega, ?_, by omega⟩
  simp only [batD, dep]
  omega
theorem Dq.word {H : Hp} {t : Addr} {w : Str} {k : Int} (h : H t = some (.tup [.str w, .int k])) : Dq H (.ref t) (.tuple [.str w, .int k]) := .tup h (.cons (.str w) (.cons (.int k) .nil))
theorem Dq.word0 {H : Hp} {t : Addr} {w : Str} (h : H t = some (.tup [.str w, .non])) : Dq H (.ref t) (.tuple [.str w, .none]) := .tup h (.cons (.str w) (.cons .non .nil))
theorem shaped_word0 {w : Str} (h : PyData.strOk w = true) : SeqAt.shaped (.tuple [.str w, .none]) = true := by
  refine shaped_of (by simp [PyData.canLay0, PyData.canLayAll0, h]) ?_
  simp [dep, depA]
theorem shaped_word {w : Str} {k : Int} (h : PyData.strOk w = true) : SeqAt.shaped (.tuple [.str w, .int k]) = true := by
  refine shaped_of (by simp [PyData.canLay0, PyData.canLayAll0, h]) ?_
  simp [dep, depA]
theorem OwN.tupOf {H H1 : Hp} {D t : Addr} {xs : List V} {ds : List PyData} {S : List Addr} (h : OwN H H1 (.ref D) (.list ds) S) (hD : H1 D = some (.lst xs)) (ht : H1 t = none) : ∃ S', OwN H (upd H1 t (.tup xs)) (.ref t) (.tuple ds) S' := by
  obtain ⟨o, nd, nw⟩ := h
  cases o with
  | @lst _ ys _ S' h1 h2 =>
    rw [h1] at hD
    cases hD
    exact ⟨S', .tup upd_same (h2.same (Same.new ht)), (List.nodup_cons.mp nd).2, fun b hb => nw b (List.mem_cons_of_mem _ hb)⟩
mutual
theorem Ow.hid {H : Hp} {T : List Addr} (ht : ∀ b xs, b ∈ T → H b ≠ some (.tup xs)) : ∀ {v : V} {d : PyData} {S : List Addr}, Ow H v d S → (∀ b, b ∈ S → b ∉ T) → Dq (hid T H) v d
  | _, _, _, .non, _ => .non
  | _, _, _, .bl b, _ => .bl b
  | _, _, _, .int i, _ => .int i
  | _, _, _, .str x, _ => .str x
  | _, _, _, .lst h q, n => .lst (hid_lk (n _ List.mem_cons_self) h) (OwAll.hid ht q fun b hb => n b (List.mem_cons_of_mem _ hb))
  | _, _, _, .tup h q, n => .tup (hid_lk (fun z => ht _ _ z h) h) (OwAll.hid ht q n)
theorem OwAll.hid {H : Hp} {T : List Addr} (ht : ∀ b xs, b ∈ T → H b ≠ some (.tup xs)) : ∀ {vs : List V} {ds : List PyData} {S : List Addr}, OwAll H vs ds S → (∀ b, b ∈ S → b ∉ T) → DqAll (hid T H) vs ds
  | _, _, _, .nil, _ => .nil
  | _, _, _, .cons h q, n => .cons (Ow.hid ht h fun b hb => n b (List.mem_append.mpr (.inl hb))) (OwAll.hid ht q fun b hb => n b (List.mem_append.mpr (.inr hb)))
end
theorem ow_bat {H : Hp} {w : V} {f s : Int} {ds : List PyData} {S : List Addr} (h : Ow H w (batT f s ds) S) : ∃ hA hq zs S', w = .ref hA ∧ H hA = some (.tup [.int f, .int s, .ref hq]) ∧ H hq = some (.lst zs) ∧ OwAll H zs ds S' ∧ S = hq :: S' := by
  cases h with
  | tup h q =>
    cases q with
    | cons a b =>
      cases a
      cases b with
      | cons a b =>
        cases a
        cases b with
        | cons a b =>
          cases b
          cases a with
          | lst h1 h2 =>
            exact ⟨_, _, _, _, rfl, h, h1, h2, by simp⟩
/-- an owned battle beside a purse -/
theorem own_beside {H0 H : Hp} {w : V} {f s : Int} {ds : List PyData} {S : List Addr} {pL : Addr} {m c : Int} (h : OwN H0 H w (batT f s ds) S) (pk : Pk pL m H0 c) (sm : Same H0 H) :
    ∃ hA hq zs, w = .ref hA ∧ H hA = some (.tup [.int f, .int s, .ref hq]) ∧ H hq = some (.lst zs) ∧ DqAll (hid [hq, pL] H) zs ds ∧ hA ≠ pL ∧ hq ≠ pL ∧ H0 hq = none := by
  obtain ⟨hA, hq, zs, S', rfl, h1, h2, h3, rfl⟩ := ow_bat h.ow
  obtain ⟨n, c', e, _⟩ := pk.same sm
  have hn := h.nw hq List.mem_cons_self
  have n1 : hA ≠ pL := fun z => by rw [z, e] at h1; cases h1
  have n2 : hq ≠ pL := pk.ne hn
  have nd := (List.nodup_cons.mp h.nd).1
  refine ⟨hA, hq, zs, rfl, h1, h2, OwAll.hid (fun b xs hb z => ?_) h3 (fun b hb hb' => ?_), n1, n2, hn⟩
  · rcases List.mem_cons.mp hb with g | g
    · rw [g, h2] at z; cases z
    · rw [List.mem_singleton.mp g, e] at z; cases z
  · rcases List.mem_cons.mp hb' with g | g
    · exact nd (g ▸ hb)
    · have := h.nw b (List.mem_cons_of_mem _ hb)
      rw [List.mem_singleton.mp g] at this
      obtain ⟨_, _, e', _⟩ := pk
      rw [e'] at this
      cases this
/-! ### times so much -/
def byF (b : Int) : Fld → Fld
  | .more w t => .more (w * b) (t * b)
  | .lead w l => .lead (w * b) l
  | .tab rows => .tab (rows.map fun r => r.map fun x => x * b)
theorem byF_ok {f s b : Int} {fl : Fld} (hb : 1 ≤ b) (k : FldOk f s fl) : FldOk f s (byF b fl) := by
  have hb0 : 0 ≤ b := by omega
  cases fl with
  | more w t =>
    obtain ⟨h1, h2, h3⟩ := k
    refine ⟨?_, ?_, ?_⟩
    · have := Int.mul_le_mul h1 hb (by omega) (by omega)
      omega
    · have := Int.mul_le_mul_of_nonneg_right h2 hb0
      rw [Int.sub_mul, Int.zero_mul] at this
      exact this
    · exact Int.mul_le_mul_of_nonneg_right h3 hb0
  | lead w l =>
    have h1 : 1 ≤ w := k
    show 1 ≤ w * b
    have := Int.mul_le_mul h1 hb (by omega) (by omega)
    omega
  | tab rows =>
    obtain ⟨h1, h2⟩ := k
    refine ⟨by rw [List.length_map]; exact h1, fun r hr => ?_⟩
    obtain ⟨r', hr', rfl⟩ := List.mem_map.mp hr
    rw [List.length_map]
    exact h2 r' hr'
theorem by_ok {f s b : Int} {fs : List Fld} (hb : 1 ≤ b) (k : BatOk f s fs) : BatOk f s (fs.map (byF b)) := ⟨k.hf, k.hs, by rw [List.length_map]; exact k.ne, fun x hx => by
  obtain ⟨y, hy, rfl⟩ := List.mem_map.mp hx
  exact byF_ok hb (k.ok y hy)⟩
theorem ex_ex {f s : Int} {fl : Fld} (hf : 0 ≤ f) (hs : 0 ≤ s) (k : FldOk f s fl) : exF f (exF s fl) = fl := by
  cases fl with
  | more w t => simp [exF]
  | lead w l => simp [exF]; omega
  | tab rows =>
    obtain ⟨h1, h2⟩ := k
    simp only [exF, Fld.tab.injEq]
    apply List.ext_getElem?
    intro x
    rw [List.getElem?_map]
    by_cases c : x < rows.length
    · rw [List.getElem?_range (by omega), List.getElem?_eq_getElem c]
      simp only [Option.map_some, Option.some.injEq]
      apply List.ext_getElem?
      intro y
      rw [List.getElem?_map, List.getElem?_map]
      have hr := h2 _ (List.getElem_mem c)
      by_cases c2 : y < (rows[x]).length
      · rw [List.getElem?_range (by omega)]
        simp [c, c2]
      · rw [List.getElem?_eq_none (by rw [List.length_range]; omega), List.getElem?_eq_none (by omega)]
        rfl
    · rw [List.getElem?_eq_none (by rw [List.length_range]; omega), List.getElem?_eq_none (by omega)]
      rfl
theorem ex_ex_all {f s : Int} {fs : List Fld} (k : BatOk f s fs) : (fs.map (exF s)).map (exF f) = fs := by
  rw [List.map_map]
  have : ∀ x ∈ fs, (exF f ∘ exF s) x = x := fun x hx => ex_ex k.hf.1 k.hs.1 (k.ok x hx)
  rw [List.map_congr_left this]
  exact List.map_id' fs
theorem planD_inj {r r' : List Int} (h : planD r = planD r') : r = r' := by
  have h2 := PyData.list.inj h
  induction r generalizing r' with
  | nil => cases r' <;> simp_all
  | cons x r ih =>
    cases r' with
    | nil => simp at h2
    | cons y r' =>
      simp at h2
      rw [h2.1, ih (by simp [planD, h2.2]) h2.2]
theorem map_inj {α β : Type} {f : α → β} (h : ∀ a b, f a = f b → a = b) : ∀ {xs ys : List α}, xs.map f = ys.map f → xs = ys
  | [], [], _ => rfl
  | [], _ :: _, e => by simp at e
  | _ :: _, [], e => by simp at e
  | x :: xs, y :: ys, e => by
    rw [List.map_cons, List.map_cons, List.cons.injEq] at e
    rw [h _ _ e.1, map_inj h e.2]
theorem fldD_inj {a b : Fld} (h : fldD a = fldD b) : a = b := by
  cases a <;> cases b <;> simp [fldD] at h ⊢
  · exact h
  · have := h.1; revert this; decide +kernel
  · have := h.1; revert this; decide +kernel
  · exact h
  · exact map_inj (fun a b e => planD_inj e) h
theorem good_flds {f s : Int} {ds : List PyData} (h : badB f s ds = none) : ∃ fs : List Fld, ds = fs.map fldD ∧ BatOk f s fs := by
  have key : ∀ ds : List PyData, (∀ d ∈ ds, isFldT f s d = true) → ∃ fs : List Fld, ds = fs.map fldD := by
    intro ds
    induction ds with
    | nil => exact fun _ => ⟨[], rfl⟩
    | cons d ds ih =>
      intro h
      obtain ⟨fs, rfl⟩ := ih fun e he => h e (List.mem_cons_of_mem _ he)
      have h1 := h d List.mem_cons_self
      suffices z : ∃ fl, d = fldD fl by
        obtain ⟨fl, rfl⟩ := z
        exact ⟨fl :: fs, rfl⟩
      unfold isFldT at h1
      split at h1
      · rename_i w r
        unfold isFieldD at h1
        split at h1
        · rename_i c
          subst c
          unfold isMoreD at h1
          split at h1
          · exact ⟨.more _ _, rfl⟩
          · cases h1
        · split at h1
          · rename_i c
            subst c
            unfold isRuleD at h1
            split at h1
            · exact ⟨.lead _ _, rfl⟩
            · cases h1
          · split at h1
            · rename_i c
              subst c
              unfold isRowsD at h1
              split at h1
              · rename_i rs
                rw [Bool.and_eq_true] at h1
                have h2 := List.all_eq_true.mp h1.2
                suffices z : ∃ rows : List (List Int), rs = rows.map planD by
                  obtain ⟨rows, rfl⟩ := z
                  exact ⟨.tab rows, rfl⟩
                clear h1 h
                induction rs with
                | nil => exact ⟨[], rfl⟩
                | cons d rs ih2 =>
                  obtain ⟨rows, rfl⟩ := ih2 fun e he => h2 e (List.mem_cons_of_mem _ he)
                  have h3 := h2 d List.mem_cons_self
                  unfold areNumsD at h3
                  split at h3
                  · rename_i xs
                    rw [Bool.and_eq_true] at h3
                    suffices z : ∃ r : List Int, xs = r.map PyData.int by
                      obtain ⟨r, rfl⟩ := z
                      exact ⟨r :: rows, rfl⟩
                    have h4 := List.all_eq_true.mp h3.2
                    clear h3 h2 ih2
                    induction xs with
                    | nil => exact ⟨[], rfl⟩
                    | cons x xs ih3 =>
                      obtain ⟨r, rfl⟩ := ih3 fun e he => h4 e (List.mem_cons_of_mem _ he)
                      have h5 := h4 x List.mem_cons_self
                      unfold isNumD at h5
                      split at h5
                      · rename_i z
                        exact ⟨z :: r, rfl⟩
                      · cases h5
                  · cases h3
              · cases h1
            · cases h1
      · cases h1
  obtain ⟨fs, rfl⟩ := key ds (bad_none.mp h).2.2.2
  exact ⟨fs, rfl, bad_ok.mp h⟩
end Hf
namespace Hf
instance {x : Int} : Decidable (Sm x) := by unfold Sm; infer_instance
theorem sm_abs {x : Int} (h : Sm x) : x.natAbs < 2 ^ 120 := by
  obtain ⟨h1, h2⟩ := h
  omega
end Hf
/-! ## odd things -/
namespace Hf
open PySem PySem.Spec PyProof.Rows L2
section
variable {K : PySem.W.Frag} {H : Hp} {Q : VK} {p r : Addr} {x : V} {xs ys : List V}
theorem i_slT1 (h : SqT K H p (x :: xs)) (q : ∀ p', H p' = none → Q (.ref p') (upd H p' (.tup xs))) : rSlA K (.ref p) (some 1) none H Q :=
  ⟨p, _, rfl, h, fun c => absurd c.1 (by rw [show (1 : Int) = ((1 : Nat) : Int) from rfl, HT.sIx_nat, List.length_cons]; omega), fun _ p' n => by rw [cut_from (by decide)]; exact q p' n⟩
theorem i_catTg (h1 : H p = some (.tup xs)) (h2 : SqT K H r ys) (n : xs ≠ []) (hz : xs.length + ys.length ≤ 1000) (q : ∀ t H', H' t = some (.tup (xs ++ ys)) → Same H H' → Q (.ref t) H') : rCatT K (.ref p) (.ref r) H Q :=
  ⟨p, r, xs, ys, rfl, rfl, SqT.of h1, h2, n, sz4 (by omega), fun e => q p H (by rw [e, List.append_nil]; exact h1) (Same.refl _), fun _ t nt => q t _ upd_same (Same.new nt)⟩
end
theorem i_ix4S {K : PySem.W.Frag} {H : Hp} {Q : VK} {p : Addr} {i : Int} {y1 y2 y3 y4 : Str} (h : SqL K H p [.str y1, .str y2, .str y3, .str y4]) (h0 : 0 ≤ i) (h1 : i < 4) (q : ∀ v, v = y1 ∨ v = y2 ∨ v = y3 ∨ v = y4 → Q (.str v) H) : rIxL K (.ref p) (.int i) H Q := by
  obtain rfl | rfl | rfl | rfl : i = 0 ∨ i = 1 ∨ i = 2 ∨ i = 3 := by omega
  · exact i_ixL h atI_0 (q _ (.inl rfl))
  · exact i_ixL h atI_1 (q _ (.inr (.inl rfl)))
  · exact i_ixL h atI_2 (q _ (.inr (.inr (.inl rfl))))
  · exact i_ixL h (atI_nat (j := 3) rfl) (q _ (.inr (.inr (.inr rfl))))
theorem Pk.neT {a t : Addr} {m c : Int} {H : Hp} {xs : List V} (h : Pk a m H c) (e : H t = Option.some (.tup xs)) : t ≠ a := fun z => by
  obtain ⟨_, _, h1, _⟩ := h
  rw [z, h1] at e
  cases e
/-- what stands in the place of a field -/
def Fb (k : Nat) (w : Str) (r : List PyData) : Prop := PyData.strOk w = true ∧ PyData.canLayAll0 r = true ∧ depA r ≤ 3 ∧ r.length ≤ k ∧ widA r ≤ k
def FbD (k : Nat) (d : PyData) : Prop := ∃ w r, d = .tuple (.str w :: r) ∧ Fb k w r
theorem Fb.mono {k l : Nat} {w : Str} {r : List PyData} (h : Fb k w r) (e : k ≤ l) : Fb l w r := ⟨h.1, h.2.1, h.2.2.1, by have := h.2.2.2.1; omega, by have := h.2.2.2.2; omega⟩
theorem FbD.mono {k l : Nat} {d : PyData} (h : FbD k d) (e : k ≤ l) : FbD l d := by
  obtain ⟨w, r, rfl, h⟩ := h
  exact ⟨w, r, rfl, h.mono e⟩
theorem FbD.fin {k : Nat} {d : PyData} (h : FbD k d) (e : k ≤ 1000) : FldIn d := by
  obtain ⟨w, r, rfl, h⟩ := h
  refine ⟨w, r, rfl, ?_⟩
  have h1 := h.2.2.2.1
  have h2 := h.2.2.2.2
  rw [wid]
  omega
theorem FbD.lay {k : Nat} {d : PyData} (h : FbD k d) : d.canLay0 = true := by
  obtain ⟨w, r, rfl, h⟩ := h
  simp [PyData.canLay0, PyData.canLayAll0, h.1, h.2.1]
theorem FbD.dep {k : Nat} {d : PyData} (h : FbD k d) : dep d ≤ 4 := by
  obtain ⟨w, r, rfl, h⟩ := h
  have := h.2.2.1
  simp only [Hf.dep, depA]
  omega
theorem FbD.wid {k : Nat} {d : PyData} (h : FbD k d) : wid d ≤ k + 1 := by
  obtain ⟨w, r, rfl, h⟩ := h
  have h1 := h.2.2.2.1
  have h2 := h.2.2.2.2
  simp only [Hf.wid, widA, List.length_cons]
  omega
theorem fb_fld {f s : Int} {fl : Fld} (hf : f ≤ 10) (hs : s ≤ 10) (k : FldOk f s fl) : FbD 20 (fldD fl) := by
  have l := lay_fld fl
  have d := dep_fld fl
  have w := wid_fld hf hs k
  cases fl with
  | more a b =>
    refine ⟨_, _, rfl, ?_⟩
    simp [Fb, PyData.canLayAll0, PyData.canLay0, depA, Hf.dep, widA, Hf.wid]
    decide +kernel
  | lead a b =>
    refine ⟨_, _, rfl, ?_⟩
    simp [Fb, PyData.canLayAll0, PyData.canLay0, depA, Hf.dep, widA, Hf.wid]
    decide +kernel
  | tab rows =>
    refine ⟨_, _, rfl, ?_⟩
    simp only [fldD, PyData.canLay0, PyData.canLayAll0, Hf.dep, depA, Hf.wid, widA, List.length_cons, List.length_nil, Bool.and_eq_true, Bool.and_true] at l d w
    exact ⟨l.1, by simp [PyData.canLayAll0, PyData.canLay0, l.2], by simp only [depA, Hf.dep]; omega, by simp, by simp only [widA, Hf.wid]; omega⟩
theorem fb_fld1 {f s : Int} {fl : Fld} (hf : f ≤ 10) (hs : s ≤ 10) (k : FldOk f s fl) : ∃ w r, fldD fl = .tuple (.str w :: r) ∧ Fb 20 w r ∧ 1 ≤ r.length := by
  obtain ⟨w, r, e, h⟩ := fb_fld hf hs k
  refine ⟨w, r, e, h, ?_⟩
  cases fl <;> (rw [fldD] at e; cases e; simp)
def badR : PyData → Bool
  | .list es => decide (es.length = 0)
  | _ => true
theorem badR_inv {d : PyData} (h : badR d = false) : ∃ es, d = .list es ∧ 1 ≤ es.length := by
  cases d with
  | list es =>
    refine ⟨es, rfl, ?_⟩
    have := of_decide_eq_false h
    omega
  | _ => cases h
/-- what a row may be -/
def RwOk (k : Nat) (d : PyData) : Prop := d.canLay0 = true ∧ dep d ≤ 2 ∧ wid d ≤ k
theorem fb_rows {k : Nat} {rs : List PyData} (h : ∀ d ∈ rs, RwOk k d) (l : rs.length ≤ k) (hk : 1 ≤ k) : Fb k (PySem.Str.ofString "table") [.list rs] := by
  have h1 : PyData.canLayAll0 rs = true := lay_all fun d hd => (h d hd).1
  have h2 : depA rs ≤ 2 := depA_le fun d hd => (h d hd).2.1
  have h3 : widA rs ≤ k := widA_le fun d hd => (h d hd).2.2
  refine ⟨by decide +kernel, by simp [PyData.canLayAll0, PyData.canLay0, h1], by simp only [depA, dep]; omega, by simp; omega, by simp only [widA, wid]; omega⟩
theorem rows_ok {k : Nat} {w : Str} {rs r : List PyData} (h : Fb k w (.list rs :: r)) : (∀ d ∈ rs, RwOk k d) ∧ rs.length ≤ k := by
  obtain ⟨_, h1, h2, h3, h4⟩ := h
  simp only [PyData.canLayAll0, PyData.canLay0, Bool.and_eq_true, depA, dep, widA, wid] at h1 h2 h4
  refine ⟨fun d hd => ⟨lay_mem h1.1 hd, by have := depA_mem hd; omega, by have := widA_mem hd; omega⟩, by omega⟩
theorem rw_list {k : Nat} {es : List PyData} (h1 : ∀ e ∈ es, e.canLay0 = true ∧ dep e ≤ 1 ∧ wid e ≤ k) (l : es.length ≤ k) : RwOk k (.list es) :=
  ⟨by rw [PyData.canLay0]; exact lay_all fun d hd => (h1 d hd).1, by rw [dep]; have := depA_le fun d hd => (h1 d hd).2.1; omega, by rw [wid]; have := widA_le fun d hd => (h1 d hd).2.2; omega⟩
theorem rw_inv {k : Nat} {es : List PyData} (h : RwOk k (.list es)) : (∀ e ∈ es, e.canLay0 = true ∧ dep e ≤ 1 ∧ wid e ≤ k) ∧ es.length ≤ k := by
  obtain ⟨h1, h2, h3⟩ := h
  rw [PyData.canLay0] at h1
  rw [dep] at h2
  rw [wid] at h3
  exact ⟨fun e he => ⟨lay_mem h1 he, by have := depA_mem he; omega, by have := widA_mem he; omega⟩, by omega⟩
theorem RwOk.mono {k l : Nat} {d : PyData} (h : RwOk k d) (e : k ≤ l) : RwOk l d := ⟨h.1, h.2.1, Nat.le_trans h.2.2 e⟩
theorem rw_tup {k : Nat} {es : List PyData} (h : RwOk k (.list es)) : RwOk k (.tuple es) := h
end Hf
theorem gcd_step {x y : Int} (hx : 0 ≤ x) (hy : 0 < y) : Int.gcd y (x % y) = Int.gcd x y := by
  obtain ⟨m, rfl⟩ := Int.eq_ofNat_of_zero_le hx
  obtain ⟨n, rfl⟩ := Int.eq_ofNat_of_zero_le (Int.le_of_lt hy)
  show Nat.gcd _ _ = Nat.gcd _ _
  have e : ((m : Int) % (n : Int)) = ((m % n : Nat) : Int) := rfl
  rw [e]
  show Nat.gcd n (m % n) = Nat.gcd m n
  rw [Nat.gcd_comm n (m % n), ← Nat.gcd_rec n m, Nat.gcd_comm]
theorem gcd_zero {x : Int} (hx : 0 ≤ x) : (Int.gcd x 0 : Int) = x := by
  rw [Int.gcd_zero]
  omega
theorem abs_if {x : Int} : (if x < 0 then -x else x) = (x.natAbs : Int) := by
  split <;> omega
theorem gcd_abs {x y : Int} : Int.gcd (x.natAbs : Int) (y.natAbs : Int) = Int.gcd x y := rfl
/-- the divisor with the bottom's sign -/
def sgcd (x y : Int) : Int := if y < 0 then 0 - (Int.gcd x y : Int) else (Int.gcd x y : Int)
theorem gcd_pos {x y : Int} (h : y ≠ 0) : 0 < Int.gcd x y := Nat.pos_of_ne_zero fun z => h (Int.gcd_eq_zero_iff.mp z).2
theorem sgcd_ne {x y : Int} (h : y ≠ 0) : sgcd x y ≠ 0 := by
  have := gcd_pos (x := x) h
  unfold sgcd
  split <;> omega
theorem gcd_le {x y : Int} (h : y ≠ 0) : Int.gcd x y ≤ y.natAbs := Nat.le_of_dvd (by omega) (Int.gcd_dvd_natAbs_right x y)
theorem sgcd_le {x y : Int} (h : y ≠ 0) : (sgcd x y).natAbs ≤ y.natAbs := by
  have := gcd_le (x := x) h
  unfold sgcd
  split <;> omega
theorem fdiv_abs_le {x g : Int} (hg : g ≠ 0) (hd : g ∣ x) : (x.fdiv g).natAbs ≤ x.natAbs := by
  obtain ⟨k, rfl⟩ := hd
  rw [Int.mul_fdiv_cancel_left _ hg, Int.natAbs_mul]
  exact Nat.le_mul_of_pos_left _ (by omega)
theorem sgcd_dvd_left (x y : Int) : sgcd x y ∣ x := by
  unfold sgcd
  split
  · rw [Int.zero_sub]
    exact Int.neg_dvd.mpr (Int.gcd_dvd_left x y)
  · exact Int.gcd_dvd_left x y
theorem sgcd_dvd_right (x y : Int) : sgcd x y ∣ y := by
  unfold sgcd
  split
  · rw [Int.zero_sub]
    exact Int.neg_dvd.mpr (Int.gcd_dvd_right x y)
  · exact Int.gcd_dvd_right x y
def ltop (x y : Int) : Int := x.fdiv (sgcd x y)
def lbot (x y : Int) : Int := y.fdiv (sgcd x y)
theorem ltop_le {x y : Int} (h : y ≠ 0) : (ltop x y).natAbs ≤ x.natAbs := fdiv_abs_le (sgcd_ne h) (sgcd_dvd_left x y)
theorem lbot_le {x y : Int} (h : y ≠ 0) : (lbot x y).natAbs ≤ y.natAbs := fdiv_abs_le (sgcd_ne h) (sgcd_dvd_right x y)
theorem lbot_pos {x y : Int} (h : y ≠ 0) : 0 < lbot x y := by
  unfold lbot
  have h1 := sgcd_dvd_right x y
  have hg := gcd_pos (x := x) h
  have h0 := sgcd_ne (x := x) h
  obtain ⟨k, hk⟩ := h1
  have e : y.fdiv (sgcd x y) = k := by
    conv => lhs; lhs; rw [hk]
    exact Int.mul_fdiv_cancel_left _ h0
  rw [e]
  rcases Int.lt_trichotomy y 0 with hy | hy | hy
  · have hs : sgcd x y < 0 := by
      unfold sgcd
      rw [if_pos hy]
      omega
    rcases Int.lt_trichotomy k 0 with z | z | z
    · have := Int.mul_pos_of_neg_of_neg hs z
      omega
    · rw [z, Int.mul_zero] at hk
      omega
    · exact z
  · exact absurd hy h
  · have hs : 0 < sgcd x y := by
      unfold sgcd
      rw [if_neg (by omega)]
      omega
    rcases Int.lt_trichotomy k 0 with z | z | z
    · have := Int.mul_neg_of_pos_of_neg hs z
      omega
    · rw [z, Int.mul_zero] at hk
      omega
    · exact z
/-! ## mixes among any data -/
namespace Hf
open PySem PySem.Spec PyProof.Rows L2
def isNumsD : PyData → Bool
  | .list ns => ns.all isNumD
  | _ => false
def isWtD : PyData → Bool
  | .int w => decide (1 ≤ w)
  | _ => false
def isPartD : PyData → Bool
  | .tuple [d, e] => isNumsD d && isWtD e
  | _ => false
theorem sum_nn0 : ∀ {ps : List Int}, (∀ x ∈ ps, 0 ≤ x) → 0 ≤ ps.sum
  | [], _ => by simp
  | x :: ps, h => by
    have := sum_nn0 fun y hy => h y (List.mem_cons_of_mem _ hy)
    have := h x (by simp)
    rw [List.sum_cons]
    omega
theorem nums_of : ∀ {ns : List PyData}, ns.all isNumD = true → ∃ p : List Int, ns = p.map PyData.int
  | [], _ => ⟨[], rfl⟩
  | d :: ns, h => by
    rw [List.all_cons, Bool.and_eq_true] at h
    obtain ⟨x, rfl⟩ := num_inv h.1
    obtain ⟨p, rfl⟩ := nums_of h.2
    exact ⟨x :: p, rfl⟩
theorem isPart_mk {pw : List Int × Int} (h : 1 ≤ pw.2) : isPartD (partD pw) = true := by
  show ((pw.1.map PyData.int).all isNumD && decide (1 ≤ pw.2)) = true
  rw [all_num, decide_eq_true h]
  rfl
theorem nums_inv {d : PyData} (h : isNumsD d = true) : ∃ p : List Int, d = planD p := by
  cases d with
  | list ns =>
    obtain ⟨p, rfl⟩ := nums_of h
    exact ⟨p, rfl⟩
  | _ => cases h
theorem wt_inv {d : PyData} (h : isWtD d = true) : ∃ w : Int, d = .int w ∧ 1 ≤ w := by
  cases d with
  | int w => exact ⟨w, rfl, of_decide_eq_true h⟩
  | _ => cases h
theorem part_of {d : PyData} (h : isPartD d = true) : ∃ pw : List Int × Int, d = partD pw ∧ 1 ≤ pw.2 := by
  unfold isPartD at h
  split at h
  · rw [Bool.and_eq_true] at h
    obtain ⟨p, rfl⟩ := nums_inv h.1
    obtain ⟨w, rfl, h2⟩ := wt_inv h.2
    exact ⟨(p, w), rfl, h2⟩
  · cases h
theorem parts_of : ∀ {ds : List PyData}, (∀ d ∈ ds, isPartD d = true) → ∃ m : List (List Int × Int), ds = m.map partD ∧ ∀ pw ∈ m, 1 ≤ pw.2
  | [], _ => ⟨[], rfl, by simp⟩
  | d :: ds, h => by
    obtain ⟨pw, rfl, h1⟩ := part_of (h d (by simp))
    obtain ⟨m, rfl, h2⟩ := parts_of fun e he => h e (List.mem_cons_of_mem _ he)
    refine ⟨pw :: m, rfl, fun x hx => ?_⟩
    rcases List.mem_cons.mp hx with rfl | g
    · exact h1
    · exact h2 x g
/-- a mix of plans of h hosts and n fields, of any length -/
structure MixG (h : Int) (n : Nat) (m : List (List Int × Int)) : Prop where
  ne : 1 ≤ m.length
  fl : 1 ≤ n ∧ n ≤ 8
  ho : 0 ≤ h ∧ h ≤ 40
  pl : ∀ pw ∈ m, PlanC h n pw.1 ∧ 1 ≤ pw.2
def IsMix (d : PyData) : Prop := ∃ h n m, d = mixD m ∧ MixG h n m
noncomputable def isMixB (d : PyData) : Bool := @decide (IsMix d) (Classical.propDecidable _)
/-- a mix of plans of h hosts and n fields -/
def IsMixOf (h : Int) (n : Nat) (d : PyData) : Prop := ∃ m, d = mixD m ∧ MixG h n m
theorem isMix_iff {d : PyData} : isMixB d = true ↔ IsMix d := @decide_eq_true_iff _ (Classical.propDecidable _)
theorem isMix_no {d : PyData} : isMixB d = false ↔ ¬ IsMix d := @decide_eq_false_iff_not _ (Classical.propDecidable _)
noncomputable def isPlanB (h : Int) (n : Nat) (p : List Int) : Bool := @decide (PlanC h n p) (Classical.propDecidable _)
theorem isPlan_iff {h : Int} {n : Nat} {p : List Int} : isPlanB h n p = true ↔ PlanC h n p := @decide_eq_true_iff _ (Classical.propDecidable _)
theorem isPlan_eq {h : Int} {n : Nat} {p : List Int} {b : Bool} (e : b = true ↔ PlanC h n p) : b = isPlanB h n p := by
  rw [Bool.eq_iff_iff, e, isPlan_iff]
theorem partD_inj {a b : List Int × Int} (h : partD a = partD b) : a = b := by
  simp only [partD] at h
  injection h with h
  injection h with h1 h2
  injection h2 with h2 _
  injection h2 with h2
  exact Prod.ext (planD_inj h1) h2
theorem mixD_inj {a b : List (List Int × Int)} (h : mixD a = mixD b) : a = b := by
  simp only [mixD] at h
  injection h with h
  exact (List.map_inj_right fun x y e => partD_inj e).mp h
theorem mix_nolist {d : PyData} (h : isLstD d = false) : isMixB d = false := isMix_no.mpr fun ⟨_, _, m, e, _⟩ => by
  rw [e] at h
  cases h
theorem mix_nil : isMixB (.list []) = false := isMix_no.mpr fun ⟨_, _, m, e, k⟩ => by
  have : mixD m = mixD [] := e.symm
  rw [mixD_inj this] at k
  have := k.ne
  simp at this
theorem mix_nopart {ds : List PyData} {k : Nat} {d : PyData} (e : ds[k]? = some d) (h : isPartD d = false) : isMixB (.list ds) = false := isMix_no.mpr fun ⟨_, _, m, e1, g⟩ => by
  injection e1 with e1
  rw [e1, List.getElem?_map] at e
  cases c : m[k]? with
  | none => rw [c] at e; cases e
  | some pw =>
    rw [c] at e
    cases e
    rw [isPart_mk (g.pl pw (List.mem_of_getElem? c)).2] at h
    cases h
theorem MixG.inj {h h' : Int} {n n' : Nat} {m : List (List Int × Int)} (a : MixG h n m) (b : MixG h' n' m) : h = h' ∧ n = n' := by
  obtain ⟨pw, hp⟩ : ∃ pw, pw ∈ m := List.exists_mem_of_length_pos a.ne
  have h1 := (a.pl pw hp).1
  have h2 := (b.pl pw hp).1
  exact ⟨h1.2.1.symm.trans h2.2.1, h1.1.symm.trans h2.1⟩
/-- of true parts: by the first one -/
theorem mix_first {m : List (List Int × Int)} {pw : List Int × Int} (e : m[0]? = some pw) : IsMix (mixD m) ↔ MixG pw.1.sum pw.1.length m := by
  refine ⟨fun ⟨h, n, m', e1, g⟩ => ?_, fun g => ⟨_, _, m, rfl, g⟩⟩
  obtain rfl := mixD_inj e1
  have h1 := (g.pl pw (List.mem_of_getElem? e)).1
  rw [h1.2.1, h1.1]
  exact g
theorem MixOk.g {h : Int} {n : Nat} {m : List (List Int × Int)} (k : MixOk h n m) : MixG h n m := ⟨k.ne.1, k.fl, k.ho, k.pl⟩
theorem MixOk.is {h : Int} {n : Nat} {m : List (List Int × Int)} (k : MixOk h n m) : IsMix (mixD m) := ⟨h, n, m, rfl, k.g⟩
theorem widA_ints : ∀ p : List Int, widA (p.map PyData.int) = 0
  | [] => by simp [widA]
  | x :: p => by
    rw [List.map_cons, widA, widA_ints p]
    simp [wid]
theorem wid_part (pw : List Int × Int) : wid (partD pw) = max 2 pw.1.length := by
  simp [partD, planD, wid, widA, widA_ints]
theorem wid_mix {k : Nat} : ∀ {m : List (List Int × Int)}, m.length ≤ k → 2 ≤ k → (∀ pw ∈ m, pw.1.length ≤ k) → wid (mixD m) ≤ k := by
  intro m h1 h2 h3
  have : widA (m.map partD) ≤ k := widA_le fun d hd => by
    obtain ⟨pw, hp, rfl⟩ := List.mem_map.mp hd
    rw [wid_part]
    have := h3 pw hp
    omega
  rw [mixD, wid, List.length_map]
  omega
theorem MixOk.wid {h : Int} {n : Nat} {m : List (List Int × Int)} (k : MixOk h n m) : wid (mixD m) ≤ 1000 := by
  have h1 := k.ne
  have h2 := k.fl
  exact wid_mix (by omega) (by omega) fun pw hp => by
    have := (k.pl pw hp).1.1
    omega
theorem wid_mem {ds : List PyData} {d : PyData} {k : Nat} (h : wid (.list ds) ≤ k) (hd : d ∈ ds) : wid d ≤ k := by
  have := widA_mem hd
  rw [Hf.wid] at h
  omega
end Hf
namespace Hf
open PySem PySem.Spec PyProof.Rows L2
/-! ### what mixes win against one another -/
def tot1 (fs : List Fld) (p : List Int) (w : Int) (m : List (List Int × Int)) : Int := (m.map fun q => w * q.2 * gainV fs p q.1).sum
def mixTot (fs : List Fld) (m1 m2 : List (List Int × Int)) : Int := (m1.map fun p => tot1 fs p.1 p.2 m2).sum
theorem tot1_snoc {fs : List Fld} {p : List Int} {w : Int} {m : List (List Int × Int)} {i : Nat} {q : List Int × Int} (e : m[i]? = some q) : tot1 fs p w (m.take (i + 1)) = tot1 fs p w (m.take i) + w * q.2 * gainV fs p q.1 := by
  unfold tot1
  rw [take_snoc e, List.map_append, List.sum_append]
  simp
theorem mixTot_snoc {fs : List Fld} {m1 m2 : List (List Int × Int)} {i : Nat} {p : List Int × Int} (e : m1[i]? = some p) : mixTot fs (m1.take (i + 1)) m2 = mixTot fs (m1.take i) m2 + tot1 fs p.1 p.2 m2 := by
  unfold mixTot
  rw [take_snoc e, List.map_append, List.sum_append]
  simp
end Hf
namespace Hf
open PySem PySem.Spec PyProof.Rows L2
theorem sum_abs {B : Nat} : ∀ {l : List Int}, (∀ x ∈ l, x.natAbs ≤ B) → l.sum.natAbs ≤ l.length * B
  | [], _ => by simp
  | x :: l, h => by
    have h1 := sum_abs fun y hy => h y (List.mem_cons_of_mem _ hy)
    have h2 := h x (by simp)
    have h3 := Int.natAbs_add_le x l.sum
    rw [List.sum_cons, List.length_cons, Nat.add_mul]
    omega
theorem paid_sm {fl : Fld} (h : FldSm fl) (x y : Int) : (paidV fl x y).natAbs ≤ 2 ^ 110 := by
  cases fl with
  | more w t =>
    have h1 := h.1
    have h2 := h.2
    unfold Sm at h1 h2
    show (if x = y then t else if x > y then w else 0 - w).natAbs ≤ _
    split
    · omega
    · split <;> omega
  | lead w t =>
    have h1 := h.1
    unfold Sm at h1
    show (if x ≥ y + t then w else 0 - w).natAbs ≤ _
    split <;> omega
  | tab rows =>
    show ((((rows[x.toNat]?).getD [])[y.toNat]?).getD 0).natAbs ≤ _
    cases e1 : rows[x.toNat]? with
    | none => simp
    | some r =>
      show ((r[y.toNat]?).getD 0).natAbs ≤ _
      cases e2 : r[y.toNat]? with
      | none => simp
      | some z =>
        have h1 := h r (List.mem_of_getElem? e1) z (List.mem_of_getElem? e2)
        unfold Sm at h1
        show z.natAbs ≤ _
        omega
theorem gain_sm {fs : List Fld} (h : ∀ x ∈ fs, FldSm x) (hl : fs.length ≤ 5) (ms ns : List Int) : (gainV fs ms ns).natAbs < 2 ^ 120 := by
  have := sum_abs (B := 2 ^ 110) (l := (List.range fs.length).map fun i : Nat => paidV (fldAt fs i) (nAt ms i) (nAt ns i)) fun x hx => by
    obtain ⟨i, hi, rfl⟩ := List.mem_map.mp hx
    have hi := List.mem_range.mp hi
    refine paid_sm (h _ ?_) _ _
    unfold fldAt
    rw [show (Int.toNat (i : Int)) = i by omega, List.getElem?_eq_getElem hi]
    exact List.getElem_mem hi
  rw [List.length_map, List.length_range] at this
  unfold gainV
  have : fs.length * 2 ^ 110 ≤ 5 * 2 ^ 110 := Nat.mul_le_mul_right _ hl
  omega
/-- weights, how many, and fields that are not great -/
def WtSm (m : List (List Int × Int)) : Prop := m.length ≤ 50 ∧ ∀ pw ∈ m, 0 ≤ pw.2 ∧ pw.2 ≤ 10000000000000000000000000000
theorem WtSm.abs {m : List (List Int × Int)} (h : WtSm m) {pw : List Int × Int} (hp : pw ∈ m) : pw.2.natAbs ≤ 2 ^ 100 := by
  have := h.2 pw hp
  omega
theorem WtSm.whole {m : List (List Int × Int)} (h : WtSm m) : (whole m).natAbs < 2 ^ 110 := by
  have := sum_abs (B := 2 ^ 100) (l := m.map Prod.snd) fun x hx => by
    obtain ⟨i, hi, rfl⟩ := List.mem_map.mp hx
    exact h.abs hi
  rw [List.length_map] at this
  have h2 : m.length * 2 ^ 100 ≤ 50 * 2 ^ 100 := Nat.mul_le_mul_right _ h.1
  unfold Hf.whole
  omega
theorem abs3 {a b c : Int} (h1 : a.natAbs ≤ 2 ^ 100) (h2 : b.natAbs ≤ 2 ^ 100) (h3 : c.natAbs ≤ 2 ^ 120) : (a * b * c).natAbs ≤ 2 ^ 320 := by
  rw [Int.natAbs_mul, Int.natAbs_mul]
  calc a.natAbs * b.natAbs * c.natAbs ≤ 2 ^ 100 * 2 ^ 100 * 2 ^ 120 := Nat.mul_le_mul (Nat.mul_le_mul h1 h2) h3
    _ = 2 ^ 320 := by decide +kernel
theorem tot1_sm {fs : List Fld} (h : ∀ x ∈ fs, FldSm x) (hl : fs.length ≤ 5) {p : List Int} {w : Int} (hw : w.natAbs ≤ 2 ^ 100) {m : List (List Int × Int)} (hm : WtSm m) : (tot1 fs p w m).natAbs ≤ 2 ^ 330 := by
  have := sum_abs (B := 2 ^ 320) (l := m.map fun q => w * q.2 * gainV fs p q.1) fun x hx => by
    obtain ⟨q, hq, rfl⟩ := List.mem_map.mp hx
    exact abs3 hw (hm.abs hq) (Nat.le_of_lt (gain_sm h hl _ _))
  rw [List.length_map] at this
  have h2 : m.length * 2 ^ 320 ≤ 50 * 2 ^ 320 := Nat.mul_le_mul_right _ hm.1
  unfold tot1
  have h3 : 50 * 2 ^ 320 ≤ 2 ^ 330 := by decide +kernel
  omega
theorem mixTot_sm {fs : List Fld} (h : ∀ x ∈ fs, FldSm x) (hl : fs.length ≤ 5) {m1 m2 : List (List Int × Int)} (h1 : WtSm m1) (h2 : WtSm m2) : (mixTot fs m1 m2).natAbs < 2 ^ 400 := by
  have := sum_abs (B := 2 ^ 330) (l := m1.map fun p => tot1 fs p.1 p.2 m2) fun x hx => by
    obtain ⟨q, hq, rfl⟩ := List.mem_map.mp hx
    exact tot1_sm h hl (h1.abs hq) h2
  rw [List.length_map] at this
  have h2 : m1.length * 2 ^ 330 ≤ 50 * 2 ^ 330 := Nat.mul_le_mul_right _ h1.1
  unfold mixTot
  have h3 : 50 * 2 ^ 330 < 2 ^ 400 := by decide +kernel
  omega
theorem whole2_sm {m1 m2 : List (List Int × Int)} (h1 : WtSm m1) (h2 : WtSm m2) : (whole m1 * whole m2).natAbs < 2 ^ 400 := by
  rw [Int.natAbs_mul]
  have a := h1.whole
  have b := h2.whole
  calc (whole m1).natAbs * (whole m2).natAbs ≤ 2 ^ 110 * 2 ^ 110 := Nat.mul_le_mul (Nat.le_of_lt a) (Nat.le_of_lt b)
    _ < 2 ^ 400 := by decide +kernel
theorem mul_pp {a b : Int} (h1 : a.natAbs ≤ 2 ^ 100) (h2 : b.natAbs ≤ 2 ^ 100) : CMulA a b := mulW (a := 101) (b := 101) (by omega) (by omega) (by decide) (by decide) (by decide)
theorem mul_ppg {a b c : Int} (h1 : a.natAbs ≤ 2 ^ 100) (h2 : b.natAbs ≤ 2 ^ 100) (h3 : c.natAbs < 2 ^ 120) : CMulA (a * b) c := mulW (a := 201) (b := 120) (by
  rw [Int.natAbs_mul]
  calc a.natAbs * b.natAbs ≤ 2 ^ 100 * 2 ^ 100 := Nat.mul_le_mul h1 h2
    _ < 2 ^ 201 := by decide +kernel) h3 (by decide) (by decide) (by decide)
theorem mul_ww {a b : Int} (h1 : a.natAbs < 2 ^ 110) (h2 : b.natAbs < 2 ^ 110) : CMulA a b := mulW h1 h2 (by decide) (by decide) (by decide)
end Hf
namespace Hf
theorem whole_ge {h : Int} {n : Nat} {m : List (List Int × Int)} (k : MixG h n m) : 1 ≤ whole m := by
  have h1 : ∀ r : List (List Int × Int), (∀ pw ∈ r, 1 ≤ pw.2) → (r.length : Int) ≤ whole r := by
    intro r
    induction r with
    | nil => intro _; exact Int.le_refl _
    | cons pw r ih =>
      intro g
      have := ih fun x hx => g x (List.mem_cons_of_mem _ hx)
      have := g pw (List.mem_cons_self)
      rw [whole_cons, List.length_cons]
      omega
  have := h1 m fun pw hp => (k.pl pw hp).2
  have := k.ne
  omega
end Hf
namespace Hf
open PySem PySem.Spec PyProof.Rows L2
theorem wt_sm {m : List (List Int × Int)} (h : WtOk m) (k : ∀ pw ∈ m, 1 ≤ pw.2) : WtSm m := ⟨by have := h.1; omega, fun pw hp => ⟨by have := k pw hp; omega, h.2 pw hp⟩⟩
theorem MixOk.sm {h : Int} {n : Nat} {m : List (List Int × Int)} (k : MixOk h n m) (w : WtOk m) : WtSm m := wt_sm w fun pw hp => (k.pl pw hp).2
end Hf
namespace Hf
open PySem PySem.Spec PyProof.Rows L2
/-- the parts of a mix lie beside its list -/
theorem parts_hid {H : Hp} {a : Addr} {xs : List V} {m : List (List Int × Int)} (h : H a = some (.lst xs)) (q : DqAll H xs (m.map partD)) (ne : 1 ≤ m.length) : DqAll (hid [a] H) xs (m.map partD) := by
  have key : ∀ {ys : List V} {r : List (List Int × Int)}, DqAll H ys (r.map partD) → DqAll (hid [a] H) ys (r.map partD) := by
    intro ys r
    induction r generalizing ys with
    | nil => intro q; cases q; exact .nil
    | cons pw r ih =>
      intro q
      cases q with
      | cons q1 q2 =>
        obtain ⟨t, p, rfl, e1, e2⟩ := part_inv q1
        have ht : t ≠ a := fun e => by rw [e, h] at e1; cases e1
        have hp : p ≠ a := fun e => by
          rw [e, h] at e2
          cases e2
          cases m with
          | nil => simp at ne
          | cons pv m =>
            cases hx : pw.1 with
            | nil => rw [hx] at q; cases q
            | cons x u =>
              rw [hx, List.map_cons] at q
              cases q with
              | cons q3 _ =>
                obtain ⟨_, _, c, _⟩ := part_inv q3
                cases c
        exact .cons (part_mk (hid_lk (not_in1 ht) e1) (hid_lk (not_in1 hp) e2)) (ih q2)
  exact key q
end Hf
namespace Hf
open PySem PySem.Spec PyProof.Rows L2
theorem lay_part (pw : List Int × Int) : (partD pw).canLay0 = true := by
  rw [partD]
  simp [PyData.canLay0, PyData.canLayAll0, lay_plan]
theorem lay_mix (m : List (List Int × Int)) : (mixD m).canLay0 = true := by
  rw [mixD, PyData.canLay0]
  exact lay_all fun d hd => by
    obtain ⟨pw, _, rfl⟩ := List.mem_map.mp hd
    exact lay_part pw
theorem dep_mix (m : List (List Int × Int)) : dep (mixD m) ≤ 3 := by
  have : depA (m.map partD) ≤ 2 := depA_le fun d hd => by
    obtain ⟨pw, _, rfl⟩ := List.mem_map.mp hd
    simp [partD, dep, depA, dep_plan]
  rw [mixD, dep]
  omega
theorem shaped_kept (f s : Int) (fs : List Fld) (m1 m2 : List (List Int × Int)) : SeqAt.shaped (.list [batD f s fs, mixD m1, mixD m2]) = true := by
  have h1 := dep_bat f s fs
  have h2 := dep_mix m1
  have h3 := dep_mix m2
  refine shaped_of ?_ ?_
  · simp [PyData.canLay0, PyData.canLayAll0, lay_bat, lay_mix]
  · simp only [dep, depA]
    omega
end Hf
namespace Hf
open PySem PySem.Spec PyProof.Rows L2
theorem MixG.snoc {h : Int} {n : Nat} {m : List (List Int × Int)} {p : List Int} {w : Int} (k : MixG h n m) (hp : PlanC h n p) (hw : 1 ≤ w) : MixG h n (m ++ [(p, w)]) := ⟨by simp, k.fl, k.ho, fun pw hpw => by
  rcases List.mem_append.mp hpw with g | g
  · exact k.pl pw g
  · rw [List.mem_singleton.mp g]
    exact ⟨hp, hw⟩⟩
theorem MixG.cons {h : Int} {n : Nat} {m : List (List Int × Int)} {p : List Int} {w : Int} (k : MixG h n m) (hp : PlanC h n p) (hw : 1 ≤ w) : MixG h n ((p, w) :: m) := ⟨by simp, k.fl, k.ho, fun pw hpw => by
  rcases List.mem_cons.mp hpw with g | g
  · rw [g]
    exact ⟨hp, hw⟩
  · exact k.pl pw g⟩
theorem WtSm.snoc {m : List (List Int × Int)} {p : List Int} {w : Int} (k : WtSm m) (hl : m.length ≤ 40) (hw : 0 ≤ w ∧ w ≤ 10) : WtSm (m ++ [(p, w)]) := ⟨by simp; omega, fun pw hp => by
  rcases List.mem_append.mp hp with g | g
  · exact k.2 pw g
  · rw [List.mem_singleton.mp g]
    exact ⟨hw.1, by show w ≤ _; omega⟩⟩
theorem WtSm.cons {m : List (List Int × Int)} {p : List Int} {w : Int} (k : WtSm m) (hl : m.length ≤ 40) (hw : 0 ≤ w ∧ w ≤ 10) : WtSm ((p, w) :: m) := ⟨by simp; omega, fun pw hp => by
  rcases List.mem_cons.mp hp with g | g
  · rw [g]
    exact ⟨hw.1, by show w ≤ _; omega⟩
  · exact k.2 pw g⟩
theorem MixG.wid {h : Int} {n : Nat} {m : List (List Int × Int)} (k : MixG h n m) (hl : m.length ≤ 1000) : wid (mixD m) ≤ 1000 := wid_mix hl (by omega) fun pw hp => by
  have := (k.pl pw hp).1.1
  have := k.fl
  omega
end Hf
namespace Hf
open PySem PySem.Spec PyProof.Rows L2
/-- the last item -/
theorem atI_end {α : Type} {xs : List α} {x : α} (h : xs[xs.length - 1]? = some x) : atI xs (-1) = some x := by
  have hl : 1 ≤ xs.length := by
    have := (List.getElem?_eq_some_iff.mp h).1
    omega
  have e : ixN xs.length (-1) = some (xs.length - 1) := by
    unfold ixN
    rw [if_neg (by omega), if_pos (by omega)]
    congr 1
    omega
  unfold atI
  rw [e]
  exact h
end Hf
/-! ## comprehensions over enumerate(list) -/
namespace Hf
open PySem PySem.Spec PyProof.Rows L2
section
variable {σ : L2.St} {H H1 : Hp} {Q : VK} {K : PySem.W.Frag} {D a : Addr} {wi : TI} {g : TG} {tt : TT} {te : TE} {vs : List Nat} {xs : List V} {Qd : Hp → Prop}
theorem lcE_int (f : Nat → Int) (nD : H1 D = none) (hn : xs.length ≤ 1000) (hx : SqL K H1 a xs)
    (hs : ∀ (i : Nat) (x : V) (T : Addr) H (Z : VK) (Y : Hp → Prop), xs[i]? = some x → Same H1 H → H T = none → (∀ H4, Same H H4 → Z (.int (f i)) H4) → LcTurn g tt te vs σ (.ref T) (L2.upd H T (.tup [.int (i : Nat), x])) Z Y)
    (hd : ∀ H, Same H1 H → H D = some (.lst (((List.range xs.length).map f).map V.int)) → Qd H) :
    ∃ W : Nat → Nat → Hp → Prop, (∃ m, W 0 m (L2.upd H1 D (.lst []))) ∧ ∀ i m H, W i m H →
      ((Ite K a).stop i H ∧ Qd H) ∨ ((Ite K a).go i H ∧ ∃ Nx : Hp → Prop, (∀ H', Nx H' → ∃ m', m' < m ∧ W (i + 1) m' H') ∧ ∀ x H', (Ite K a).yld i H x H' → g x (wipe σ vs) H' fun σ2 H2 => wipe σ2 vs = wipe σ vs ∧ tt σ2 H2 fun b H3 =>
        if b = true then te σ2 H3 fun y H4 => ∃ acc, H4 D = some (.lst acc) ∧ acc.length < sizeLine ∧ Nx (L2.upd H4 D (.lst (acc ++ [y]))) else Nx H3) := by
  let P : Nat → Hp → Prop := fun i H => Same H1 H ∧ H D = some (.lst (((List.range i).map f).map V.int))
  refine ⟨fun i m H => m = xs.length - i ∧ i ≤ xs.length ∧ P i H, ⟨xs.length, by simp, Nat.zero_le _, Same.new nD, L2.upd_same⟩, ?_⟩
  rintro i m H ⟨rfl, hi, hsame, hD⟩
  by_cases hlt : i < xs.length
  · have hx' : xs[i]? = some xs[i] := List.getElem?_eq_getElem hlt
    have qx : SqL K H a xs := hsame.seq hx
    have hz : ((((List.range i).map f).map V.int)).length < sizeLine := sz4' (by simp; omega)
    refine .inr ⟨⟨xs, _, qx, hx'⟩, P (i + 1), fun H' p' => ⟨xs.length - (i + 1), by omega, rfl, hlt, p'⟩, fun v H' y => ?_⟩
    obtain ⟨T, x', rfl, hT, rfl, f1⟩ := y
    have e1 := (f1 xs qx).symm.trans hx'
    cases e1
    refine hs i xs[i] T H _ _ hx' hsame hT fun H4 h4 => ⟨_, h4 _ _ hD, hz, Same.mut (hsame.trans h4) nD, ?_⟩
    rw [L2.upd_same, List.range_succ, List.map_append, List.map_append]
    rfl
  · have e : i = xs.length := by omega
    subst e
    exact .inl ⟨⟨xs, hsame.seq hx, Nat.le_refl _⟩, hd H hsame hD⟩
theorem forE {g : TG} {tb : TS} {nx : L2.St → Hp → Prop} {rt : VK} (Pv : Nat → L2.St → Hp → Prop) (h0 : Pv 0 σ H) (hl : ∀ i σ H, i ≤ xs.length → Pv i σ H → SqL K H a xs) (hd : ∀ σ H, Pv xs.length σ H → nx σ H)
    (hs : ∀ (i : Nat) x (T : Addr) σ H, xs[i]? = some x → Pv i σ H → H T = none → g (.ref T) σ (L2.upd H T (.tup [.int (i : Nat), x])) fun σ2 H2 => tb ⟨Pv (i + 1), rt, nx, Pv (i + 1)⟩ σ2 H2) :
    ∃ W : Nat → Nat → L2.St → Hp → Prop, (∃ m, W 0 m σ H) ∧ ∀ i m σ H, W i m σ H →
      ((Ite K a).stop i H ∧ nx σ H) ∨ ((Ite K a).go i H ∧ ∃ N : L2.St → Hp → Prop, (∀ σ' H', N σ' H' → ∃ m', m' < m ∧ W (i + 1) m' σ' H') ∧ ∀ x H', (Ite K a).yld i H x H' → g x σ H' fun σ2 H2 => tb ⟨N, rt, nx, N⟩ σ2 H2) := by
  refine ⟨fun i m σ H => m = xs.length - i ∧ i ≤ xs.length ∧ Pv i σ H, ⟨xs.length, by simp, Nat.zero_le _, h0⟩, ?_⟩
  rintro i m σ H ⟨rfl, hi, hp⟩
  have qx := hl i σ H hi hp
  by_cases hlt : i < xs.length
  · have hx' : xs[i]? = some xs[i] := List.getElem?_eq_getElem hlt
    refine .inr ⟨⟨xs, _, qx, hx'⟩, Pv (i + 1), fun σ' H' p' => ⟨xs.length - (i + 1), by omega, rfl, hlt, p'⟩, fun v H' y => ?_⟩
    obtain ⟨T, x', rfl, hT, rfl, f1⟩ := y
    have e1 := (f1 xs qx).symm.trans hx'
    cases e1
    exact hs i xs[i] T σ H hx' hp hT
  · have e : i = xs.length := by omega
    subst e
    exact .inl ⟨⟨xs, qx, Nat.le_refl _⟩, hd σ H hp⟩
theorem i_ienum {ta : TA} {R : It → Hp → Prop} (h : ta σ H fun vs H1 => ∃ a xs, vs = [.ref a] ∧ SqL K H1 a xs ∧ R (Ite K a) H1) : iEnum K ta σ H R := h
theorem i_ienum' {R : Addr → Prop} (h1 : SqL K H a xs) (q : R a) : ∃ a' xs, [V.ref a] = [.ref a'] ∧ SqL K H a' xs ∧ R a' := ⟨a, xs, rfl, h1, q⟩
end
theorem _root_.L2.Same.but {G H1 H2 : Hp} {a : Addr} (s : Same G H1) (e : But a H1 H2) (n : G a = none) : Same G H2 := fun b o h => e b o (fun c => by rw [c, n] at h; cases h) (s b o h)
theorem Newly.back' {H G : Hp} {p : Addr} {o : HO} (n : Newly H G) (h : G p = some o) : H p = none := by
  cases e : H p with
  | none => rfl
  | some u =>
    rw [n p u e] at h
    cases h
theorem i_revR {K : PySem.W.Frag} {te : TE} {σ : L2.St} {H : Hp} {Q : VK} (h : te σ H fun x H1 => ∃ a xs, x = .ref a ∧ SqL K H1 a xs ∧ ∀ p, H1 p = none → Q (.ref p) (L2.upd H1 p (.lst xs.reverse))) : tRevL K te σ H Q := h
theorem i_revR' {K : PySem.W.Frag} {xs : List V} {p : Addr} {H : Hp} {Q : VK} (h : SqL K H p xs) (q : ∀ p, H p = none → Q (.ref p) (L2.upd H p (.lst xs.reverse))) : ∃ a xs, V.ref p = .ref a ∧ SqL K H a xs ∧ ∀ p, H p = none → Q (.ref p) (L2.upd H p (.lst xs.reverse)) := ⟨p, xs, rfl, h, q⟩
theorem pi_enumK {X : Cx} (K : PySem.W.Frag) (eK : X.K = K) {e : Expr} {ta : TA} {p pos tpos : Pos} {elts : List Expr} {kk : Nat} (hg : Gl X "enumerate") (hm : X.mg "enumerate" = none) (ha : PA X [e] ta) (hs : starEach [e] X.env = [(false, eval e X.env)] := by rfl) :
    PI X (.Tuple elts kk tpos) (.Call (.Name "enumerate" p) [e] [] pos) (iEnum K ta) := by
  subst eK
  exact pi_enum hg hm ha hs
end Hf
/-! ## dicts whose keys are ints, their values ints -/
namespace Hf
open PySem PySem.Spec PyProof.Rows L2
def keqI (ks ls : List (Key × V)) : Bool := ks.length == ls.length && ks.all fun p => decide (valV ls p.1 = some p.2)
def IntVals (ks : List (Key × V)) : Prop := ∀ p ∈ ks, ∃ i : Int, p.2 = .int i
theorem IntVals.val {ks : List (Key × V)} (h : IntVals ks) {k : Key} {v : V} (e : valV ks k = some v) : ∃ i : Int, v = .int i := by
  unfold valV at e
  cases c : ks.find? (fun kv => decide (kv.1 = k)) with
  | none => rw [c] at e; cases e
  | some p =>
    rw [c] at e
    cases e
    exact h p (List.mem_of_find?_eq_some c)
theorem hits_int {A : Around} {s : Shared} {ls : List (Key × V)} {vb : List (Key × Value)} (rb : KV ls vb) (hl : IntVals ls) {ks : List (Key × V)} {va : List (Key × Value)} (ra : KV ks va) :
    IntVals ks → PySem.W.KeqHits A s vb va (ks.all fun p => decide (valV ls p.1 = some p.2)) := by
  unfold KV at ra
  induction ra with
  | nil => intro _; exact .nil
  | @cons p q ps qs h t ih =>
    intro hp
    obtain ⟨h1, h2⟩ := h
    obtain ⟨k, v⟩ := q
    have h1' : p.1 = k := h1
    subst h1'
    have ih' := ih fun p' hm => hp p' (List.mem_cons_of_mem _ hm)
    rw [List.all_cons]
    have rr := rb.val p.1
    cases c : valV ls p.1 with
    | none =>
      rw [c] at rr
      cases d : valueAt vb p.1 with
      | none =>
        rw [decide_eq_false (by nofun), Bool.false_and]
        exact .miss d
      | some y => rw [d] at rr; cases rr
    | some w =>
      rw [c] at rr
      obtain ⟨y, hy, ry⟩ := rr.some_of
      obtain ⟨i, hi⟩ := hp p List.mem_cons_self
      obtain ⟨j, rfl⟩ := hl.val c
      rw [hi] at h2
      obtain ⟨t1, rfl⟩ := h2
      obtain ⟨t2, rfl⟩ := ry
      have e : decide (some (V.int j) = some p.2) = (i == j) := by
        rw [hi, Bool.eq_iff_iff, decide_eq_true_iff, beq_iff_eq]
        exact ⟨fun z => by injection z with z; injection z with z; exact z.symm, fun z => by rw [z]⟩
      rw [e]
      exact .hit hy (SeqAt.EqAt.int_int i t1 j t2) ih'
section
variable {X : Cx}
def rEqDI : R2 := fun x y H Q => ∃ a b ks ls, x = .ref a ∧ y = .ref b ∧ H a = some (.dK ks) ∧ H b = some (.dK ls) ∧ IntVals ks ∧ IntVals ls ∧ Q (.bl (keqI ks ls)) H
def rNeDI : R2 := fun x y H Q => ∃ a b ks ls, x = .ref a ∧ y = .ref b ∧ H a = some (.dK ks) ∧ H b = some (.dK ls) ∧ IntVals ks ∧ IntVals ls ∧ Q (.bl (!keqI ks ls)) H
theorem op_eqDI (hu : X.A.units < cLine) : OpR X (compareOp .Eq) rEqDI := by
  intro pins s σ H x y v u Q I rx ry h
  obtain ⟨a, b, ks, ls, rfl, rfl, ea, eb, n1, n2, q⟩ := h
  obtain rfl : v = Value.ref a := rx
  obtain rfl : u = Value.ref b := ry
  obtain ⟨_, ya, va, ra, da⟩ := (show ObjOk X.prog X.w H s.heap a (.dK ks) from I.hok a _ ea)
  obtain ⟨_, yb, vb, rb, db⟩ := (show ObjOk X.prog X.w H s.heap b (.dK ls) from I.hok b _ eb)
  refine PySem.W.keq_eq (knd := mixKind X.prog X.w) ya yb da db hu (fun _ => hits_int rb n2 ra n1) (fin_bl I q ?_)
  rw [keqI, ra.length, rb.length]
theorem op_neDI (hu : X.A.units < cLine) : OpR X (compareOp .NotEq) rNeDI := by
  intro pins s σ H x y v u Q I rx ry h
  obtain ⟨a, b, ks, ls, rfl, rfl, ea, eb, n1, n2, q⟩ := h
  obtain rfl : v = Value.ref a := rx
  obtain rfl : u = Value.ref b := ry
  obtain ⟨_, ya, va, ra, da⟩ := (show ObjOk X.prog X.w H s.heap a (.dK ks) from I.hok a _ ea)
  obtain ⟨_, yb, vb, rb, db⟩ := (show ObjOk X.prog X.w H s.heap b (.dK ls) from I.hok b _ eb)
  refine PySem.W.keq_ne (knd := mixKind X.prog X.w) ya yb da db hu (fun _ => hits_int rb n2 ra n1) (fin_bl I q ?_)
  rw [keqI, ra.length, rb.length]
end
section
variable {σ : L2.St} {H : Hp} {Q : VK} {K : PySem.W.Frag} {a b p : Addr} {ks ls : List (Key × V)} {i : Int} {v : V} {nx bk ct : L2.St → Hp → Prop} {rt : VK}
theorem i_eqDI (h1 : H a = some (.dK ks)) (h2 : H b = some (.dK ls)) (n1 : IntVals ks) (n2 : IntVals ls) (q : Q (.bl (keqI ks ls)) H) : rEqDI (.ref a) (.ref b) H Q := ⟨a, b, ks, ls, rfl, rfl, h1, h2, n1, n2, q⟩
theorem i_neDI (h1 : H a = some (.dK ks)) (h2 : H b = some (.dK ls)) (n1 : IntVals ks) (n2 : IntVals ls) (q : Q (.bl (!keqI ks ls)) H) : rNeDI (.ref a) (.ref b) H Q := ⟨a, b, ks, ls, rfl, rfl, h1, h2, n1, n2, q⟩
theorem i_dnewK (h : ∀ p, H p = none → Q (.ref p) (L2.upd H p (.dK []))) : tDNewK σ H Q := h
theorem i_isDK {A : Addr → Prop} (h : H a = some (.dK ks)) (q : A a) : ∃ a', V.ref a = .ref a' ∧ IsD H a' ∧ A a' := ⟨a, rfl, .inl ⟨ks, .inl h⟩, q⟩
theorem i_dgoK {R : Option V → Prop} (h : H a = some (.dK ks)) (q : R (valV ks (.inl i))) : ∃ o, DGet H a (.int i) o ∧ R o := ⟨_, DGet.k (k := .inl i) h, q⟩
theorem i_dpK {Z : Hp → Prop} (h : H a = some (.dK ks)) (hz : ks.length ≤ 1000000) (q : Z (L2.upd H a (.dK (putK ks (.inl i) v)))) : DpR v (.ref a) (.int i) H Z := ⟨a, _, rfl, DPut.k (k := .inl i) h (sz4' hz), q⟩
theorem i_lstDK (h : H a = some (.dK ks)) (q : ∀ l, H l = none → Q (.ref l) (L2.upd H l (.lst (ks.map fun kv => kV kv.1)))) : rListD [.ref a] H Q := ⟨a, ks, rfl, h, q⟩
end
/-! ### what such a dict stands for: sums by ints -/
def addI (f : Int → Int) (i w : Int) : Int → Int := fun a => if a = i then f a + w else f a
structure FlI (kvs : List (Key × V)) (f : Int → Int) : Prop where
  pos : ∀ i, 0 ≤ f i
  ks : ∀ kv ∈ kvs, ∃ i : Int, kv = (.inl i, .int (f i)) ∧ f i ≠ 0
  nd : (kvs.map (·.1)).Nodup
  vl : ∀ i, valV kvs (.inl i) = if f i = 0 then none else some (.int (f i))
theorem FlI.nil : FlI [] (fun _ => 0) := ⟨fun _ => Int.le_refl _, nofun, List.nodup_nil, fun _ => by rw [if_pos rfl]; rfl⟩
theorem FlI.get {kvs : List (Key × V)} {f : Int → Int} (h : FlI kvs f) (i : Int) : (valV kvs (.inl i)).getD (.int 0) = .int (f i) := by
  rw [h.vl]
  split
  · rename_i e
    rw [e]
    rfl
  · rfl
theorem FlI.ints {kvs : List (Key × V)} {f : Int → Int} (h : FlI kvs f) : IntVals kvs := fun p hp => by
  obtain ⟨i, rfl, _⟩ := h.ks p hp
  exact ⟨_, rfl⟩
theorem FlI.add {kvs : List (Key × V)} {f : Int → Int} (h : FlI kvs f) {i w : Int} (hw : 1 ≤ w) : FlI (putK kvs (.inl i) (.int (f i + w))) (addI f i w) := by
  have hnn := h.pos
  have e0 : addI f i w i = f i + w := if_pos rfl
  have e1 : ∀ a, a ≠ i → addI f i w a = f a := fun a ha => if_neg ha
  refine ⟨fun a => ?_, fun kv hkv => ?_, ?_, fun a => ?_⟩
  · by_cases c : a = i
    · rw [c, e0]
      have := hnn i
      omega
    · rw [e1 a c]
      exact hnn a
  · unfold putK at hkv
    split at hkv
    · obtain ⟨kv', h1, h2⟩ := List.mem_map.mp hkv
      obtain ⟨a, e2, e3⟩ := h.ks kv' h1
      rw [e2] at h2
      simp only at h2
      by_cases c : a = i
      · subst c
        rw [if_pos rfl] at h2
        refine ⟨a, by rw [← h2, e0], ?_⟩
        rw [e0]
        have := hnn a
        omega
      · rw [if_neg (fun z => c (by injection z))] at h2
        exact ⟨a, by rw [← h2, e1 a c], by rw [e1 a c]; exact e3⟩
    · next hany =>
      rcases List.mem_append.mp hkv with z | z
      · obtain ⟨a, e2, e3⟩ := h.ks kv z
        have c : a ≠ i := fun x => hany (by
          rw [List.any_eq_true]
          exact ⟨kv, z, decide_eq_true (by rw [e2, x])⟩)
        exact ⟨a, by rw [e2, e1 a c], by rw [e1 a c]; exact e3⟩
      · rw [List.mem_singleton.mp z]
        refine ⟨i, by rw [e0], ?_⟩
        rw [e0]
        have := hnn i
        omega
  · rw [putK_keys]
    split
    · exact h.nd
    · next hany =>
      rw [List.nodup_append]
      refine ⟨h.nd, by simp, fun a ha b hb e => hany ?_⟩
      rw [List.mem_singleton.mp hb] at e
      obtain ⟨kv, h1, h2⟩ := List.mem_map.mp ha
      rw [List.any_eq_true]
      exact ⟨kv, h1, decide_eq_true (by rw [h2, e])⟩
  · rw [valV_put]
    by_cases c : a = i
    · subst c
      have := hnn a
      rw [if_pos rfl, e0, if_neg (by omega)]
    · rw [if_neg (fun z => c (by injection z)), h.vl, e1 a c]
theorem putI_len {kvs : List (Key × V)} {k : Key} {v : V} : (putK kvs k v).length ≤ kvs.length + 1 := by
  unfold putK
  split
  · rw [List.length_map]; omega
  · rw [List.length_append]; exact Nat.le_refl _
theorem nodup_le {α : Type} [DecidableEq α] : ∀ {xs ys : List α}, xs.Nodup → (∀ x ∈ xs, x ∈ ys) → xs.length ≤ ys.length
  | [], _, _, _ => Nat.zero_le _
  | x :: xs, ys, nd, h => by
    have h1 := h x List.mem_cons_self
    rw [List.nodup_cons] at nd
    have := nodup_le (ys := ys.erase x) nd.2 fun y hy => (List.mem_erase_of_ne (fun e => nd.1 (by rw [← e]; exact hy))).mpr (h y (List.mem_cons_of_mem _ hy))
    rw [List.length_erase_of_mem h1] at this
    have h2 : 0 < ys.length := List.length_pos_of_mem h1
    rw [List.length_cons]
    omega
theorem nodup_back {α : Type} [DecidableEq α] {xs ys : List α} (nd : xs.Nodup) (h : ∀ x ∈ xs, x ∈ ys) (hl : ys.length ≤ xs.length) : ∀ y ∈ ys, y ∈ xs := fun y hy => by
  by_cases c : y ∈ xs
  · exact c
  · have := nodup_le (xs := y :: xs) (List.nodup_cons.mpr ⟨c, nd⟩) fun x hx => by
      rcases List.mem_cons.mp hx with rfl | z
      · exact hy
      · exact h x z
    rw [List.length_cons] at this
    omega
theorem FlI.mem {kvs : List (Key × V)} {f : Int → Int} (h : FlI kvs f) {k : Key} : k ∈ kvs.map (·.1) ↔ ∃ i : Int, k = .inl i ∧ f i ≠ 0 := by
  constructor
  · intro z
    obtain ⟨kv, h1, h2⟩ := List.mem_map.mp z
    obtain ⟨i, e, c⟩ := h.ks kv h1
    exact ⟨i, by rw [← h2, e], c⟩
  · rintro ⟨i, rfl, c⟩
    have := h.vl i
    rw [if_neg c] at this
    unfold valV at this
    cases d : kvs.find? (fun kv => decide (kv.1 = .inl i)) with
    | none => rw [d] at this; cases this
    | some p =>
      have h1 := List.mem_of_find?_eq_some d
      have h2 := List.find?_some d
      exact List.mem_map.mpr ⟨p, h1, of_decide_eq_true h2⟩
theorem keqI_iff {ks ls : List (Key × V)} {f g : Int → Int} (h1 : FlI ks f) (h2 : FlI ls g) : keqI ks ls = true ↔ ∀ i, f i = g i := by
  unfold keqI
  rw [Bool.and_eq_true, beq_iff_eq, List.all_eq_true]
  constructor
  · rintro ⟨hl, ha⟩ i
    have key : ∀ i, f i ≠ 0 → g i = f i := fun i c => by
      obtain ⟨kv, m1, m2⟩ := List.mem_map.mp (h1.mem.mpr ⟨i, rfl, c⟩)
      obtain ⟨j, e, _⟩ := h1.ks kv m1
      have := of_decide_eq_true (ha kv m1)
      rw [e] at m2 this
      injection m2 with m2
      subst m2
      rw [h2.vl] at this
      split at this
      · cases this
      · injection this with this
        injection this
    by_cases c : f i = 0
    · by_cases d : g i = 0
      · rw [c, d]
      · have sub : ∀ k ∈ ks.map (·.1), k ∈ ls.map (·.1) := fun k hk => by
          obtain ⟨j, rfl, cj⟩ := h1.mem.mp hk
          exact h2.mem.mpr ⟨j, rfl, by rw [key j cj]; exact cj⟩
        have := nodup_back h1.nd sub (by rw [List.length_map, List.length_map]; omega) _ (h2.mem.mpr ⟨i, rfl, d⟩)
        obtain ⟨j, e, cj⟩ := h1.mem.mp this
        injection e with e
        subst e
        exact absurd c cj
    · exact (key i c).symm
  · intro e
    have s1 : ∀ k ∈ ks.map (·.1), k ∈ ls.map (·.1) := fun k hk => by
      obtain ⟨j, rfl, cj⟩ := h1.mem.mp hk
      exact h2.mem.mpr ⟨j, rfl, by rw [← e]; exact cj⟩
    have s2 : ∀ k ∈ ls.map (·.1), k ∈ ks.map (·.1) := fun k hk => by
      obtain ⟨j, rfl, cj⟩ := h2.mem.mp hk
      exact h1.mem.mpr ⟨j, rfl, by rw [e]; exact cj⟩
    have l1 := nodup_le h1.nd s1
    have l2 := nodup_le h2.nd s2
    rw [List.length_map, List.length_map] at l1 l2
    refine ⟨by omega, fun p hp => ?_⟩
    obtain ⟨i, rfl, c⟩ := h1.ks p hp
    rw [decide_eq_true_iff, h2.vl, ← e, if_neg c]
theorem nodup_of_map {α β : Type} {f : α → β} : ∀ {xs : List α}, (xs.map f).Nodup → xs.Nodup
  | [], _ => List.nodup_nil
  | x :: xs, h => by
    rw [List.map_cons, List.nodup_cons] at h
    exact List.nodup_cons.mpr ⟨fun m => h.1 (List.mem_map_of_mem m), nodup_of_map h.2⟩
theorem FlI.keys {kvs : List (Key × V)} {f : Int → Int} (h : FlI kvs f) : ∃ ns : List Int, (kvs.map fun kv => kV kv.1) = ns.map V.int ∧ ns.length = kvs.length ∧ ns.Nodup ∧ ∀ i, i ∈ ns ↔ f i ≠ 0 := by
  have key : ∀ {kvs : List (Key × V)}, (∀ kv ∈ kvs, ∃ i : Int, kv.1 = .inl i) → ∃ ns : List Int, kvs.map (·.1) = ns.map Sum.inl := by
    intro kvs
    induction kvs with
    | nil => intro _; exact ⟨[], rfl⟩
    | cons kv kvs ih =>
      intro h
      obtain ⟨i, e⟩ := h kv List.mem_cons_self
      obtain ⟨ns, e2⟩ := ih fun x hx => h x (List.mem_cons_of_mem _ hx)
      exact ⟨i :: ns, by rw [List.map_cons, e, e2]; rfl⟩
  obtain ⟨ns, e⟩ := key fun kv hkv => by
    obtain ⟨i, rfl, _⟩ := h.ks kv hkv
    exact ⟨i, rfl⟩
  have hn := h.nd
  rw [e] at hn
  refine ⟨ns, ?_, ?_, ?_, fun i => ?_⟩
  · have : (kvs.map fun kv => kV kv.1) = (kvs.map (·.1)).map kV := by rw [List.map_map]; rfl
    rw [this, e, List.map_map]
    rfl
  · have := congrArg List.length e
    rw [List.length_map, List.length_map] at this
    exact this.symm
  · exact nodup_of_map hn
  · have := h.mem (k := .inl i)
    rw [e] at this
    constructor
    · intro m
      obtain ⟨j, e1, e2⟩ := this.mp (List.mem_map_of_mem m)
      injection e1 with e1
      rw [e1]
      exact e2
    · intro c
      obtain ⟨j, m, e1⟩ := List.mem_map.mp (this.mpr ⟨i, rfl, c⟩)
      injection e1 with e1
      rw [← e1]
      exact m
end Hf
namespace Hf
open PySem PySem.Spec PyProof.Rows L2
theorem op_leTK {X : Cx} (K : PySem.W.Frag) (eK : X.K = K) (hu : X.A.units < cLine) : OpR X (compareOp .LtE) (rLeT K) := by
  subst eK
  exact op_leT hu
/-- (a, b) <= (c, d) -/
theorem i_leT2 {K : PySem.W.Frag} {H : Hp} {Q : VK} {p q : Addr} {a b c d : Int} (h1 : SqT K H p [.int a, .int b]) (h2 : SqT K H q [.int c, .int d]) (k : Q (.bl (decide (a < c ∨ (a = c ∧ b ≤ d)))) H) : rLeT K (.ref p) (.ref q) H Q := by
  refine ⟨p, q, [a, b], [c, d], rfl, rfl, h1, h2, ?_⟩
  have e : Ob.lexAt (fun j => decide ([a, b].getD j 0 = [c, d].getD j 0)) (fun j => decide ([a, b].getD j 0 ≤ [c, d].getD j 0)) (decide ([a, b].length ≤ [c, d].length)) 0 (min [a, b].length [c, d].length) = decide (a < c ∨ (a = c ∧ b ≤ d)) := by
    show (if decide (a = c) = true then (if decide (b = d) = true then decide (2 ≤ 2) else decide (b ≤ d)) else decide (a ≤ c)) = _
    by_cases e1 : a = c
    · rw [if_pos (decide_eq_true e1)]
      by_cases e2 : b = d
      · rw [if_pos (decide_eq_true e2), Bool.eq_iff_iff]
        simp
        omega
      · rw [if_neg (by simp [e2]), Bool.eq_iff_iff]
        simp
        omega
    · rw [if_neg (by simp [e1]), Bool.eq_iff_iff]
      simp
      omega
  rw [e]
  exact k
end Hf
namespace Hf
open PySem PySem.Spec PyProof.Rows L2
/-- (a, b) >= (c, d) -/
def rGe2 (K : PySem.W.Frag) : R2 := fun x y H Q => ∃ (p q : Addr) (a b c d : Int), x = .ref p ∧ y = .ref q ∧ SqT K H p [.int a, .int b] ∧ SqT K H q [.int c, .int d] ∧ Q (.bl (decide (c < a ∨ (c = a ∧ d ≤ b)))) H
theorem op_geTK {X : Cx} (K : PySem.W.Frag) (eK : X.K = K) (hu : X.A.units < cLine) : OpR X (compareOp .GtE) (rGe2 K) := by
  subst eK
  intro pins s σ H x y v u Q I rx ry h
  obtain ⟨p, q, a, b, c, d, rfl, rfl, hp, hq, k⟩ := h
  cases rx
  cases ry
  obtain ⟨its, r1, w1, _⟩ := I.tuple hp
  obtain ⟨jts, r2, w2, _⟩ := I.tuple hq
  obtain ⟨v1, v2, rfl, ⟨t1, rfl⟩, ⟨t2, rfl⟩⟩ := vals2 r1
  obtain ⟨v3, v4, rfl, ⟨t3, rfl⟩, ⟨t4, rfl⟩⟩ := vals2 r2
  have two : ∀ {j : Nat}, j < (#[Value.int a t1, Value.int b t2] : Array Value).size → j = 0 ∨ j = 1 := fun h => by
    have : _ < 2 := h
    omega
  have main := Ob.RcOp.tuples_ge (A := X.A) (s := s) (e := fun j => if j = 0 then a == c else b == d) (r := fun j => if j = 0 then decide (c ≤ a) else decide (d ≤ b)) w1 w2 hu
    (fun j h1 h2 => by rcases two h1 with rfl | rfl <;> exact SeqAt.EqAt.int_int _ _ _ _)
    (fun j h1 h2 _ => by rcases two h1 with rfl | rfl <;> exact Ob.RcOp.ge_int _ _ _ _)
  have val : Ob.lexAt (fun j => if j = 0 then a == c else b == d) (fun j => if j = 0 then decide (c ≤ a) else decide (d ≤ b)) (decide (2 ≥ 2)) 0 2 = decide (c < a ∨ (c = a ∧ d ≤ b)) := by
    show (if (a == c) = true then (if (b == d) = true then decide (2 ≥ 2) else decide (d ≤ b)) else decide (c ≤ a)) = _
    by_cases e1 : a = c
    · rw [if_pos (beq_iff_eq.mpr e1)]
      by_cases e2 : b = d
      · rw [if_pos (beq_iff_eq.mpr e2), Bool.eq_iff_iff]
        simp
        omega
      · rw [if_neg (fun z => e2 (beq_iff_eq.mp z)), Bool.eq_iff_iff]
        simp
        omega
    · rw [if_neg (fun z => e1 (beq_iff_eq.mp z)), Bool.eq_iff_iff]
      simp
      omega
  have fin : EP X pins σ Q (.bool (decide (c < a ∨ (c = a ∧ d ≤ b)))) s := ⟨.bl _, H, I, rfl, k⟩
  rw [← val] at fin
  exact main X.prog X.w X.xe (EP X pins σ Q) fin
theorem i_geT2 {K : PySem.W.Frag} {H : Hp} {Q : VK} {p q : Addr} {a b c d : Int} (h1 : SqT K H p [.int a, .int b]) (h2 : SqT K H q [.int c, .int d]) (k : Q (.bl (decide (c < a ∨ (c = a ∧ d ≤ b)))) H) : rGe2 K (.ref p) (.ref q) H Q := ⟨p, q, a, b, c, d, rfl, rfl, h1, h2, k⟩
end Hf
/-! ## streams among any data -/
namespace Hf
open PySem PySem.Spec PyProof.Rows L2
def isFlD : PyData → Bool
  | .tuple [a, b, c] => isNumD a && (isNumD b && isNumD c)
  | _ => false
/-- one of a row's tuples, of at most h hosts -/
def FlOk (h : Int) (e : Fl) : Prop := 0 ≤ e.2.1 ∧ e.2.1 ≤ e.1 ∧ e.1 ≤ h ∧ 1 ≤ e.2.2
instance (h : Int) (e : Fl) : Decidable (FlOk h e) := by unfold FlOk; infer_instance
theorem fl_of {d : PyData} (h : isFlD d = true) : ∃ e : Fl, d = flD e := by
  unfold isFlD at h
  split at h
  · rw [Bool.and_eq_true, Bool.and_eq_true] at h
    obtain ⟨x, rfl⟩ := num_inv h.1
    obtain ⟨y, rfl⟩ := num_inv h.2.1
    obtain ⟨z, rfl⟩ := num_inv h.2.2
    exact ⟨(x, y, z), rfl⟩
  · cases h
/-- a row of at most h hosts -/
structure RowG (h : Int) (L : List Fl) : Prop where
  ne : 1 ≤ L.length
  ok : ∀ e ∈ L, FlOk h e
  up : ∀ (k : Nat) (a b : Fl), L[k]? = some a → L[k + 1]? = some b → lt2 a b
def IsRow (h : Int) (d : PyData) : Prop := ∃ L, d = rowD L ∧ RowG h L
noncomputable def isRowB (h : Int) (d : PyData) : Bool := @decide (IsRow h d) (Classical.propDecidable _)
theorem isRow_iff {h : Int} {d : PyData} : isRowB h d = true ↔ IsRow h d := @decide_eq_true_iff _ (Classical.propDecidable _)
theorem isRow_no {h : Int} {d : PyData} : isRowB h d = false ↔ ¬ IsRow h d := @decide_eq_false_iff_not _ (Classical.propDecidable _)
theorem flD_inj {a b : Fl} (h : flD a = flD b) : a = b := by
  obtain ⟨a1, a2, a3⟩ := a
  obtain ⟨b1, b2, b3⟩ := b
  simp [flD] at h
  simp [h]
theorem rowD_inj {L M : List Fl} (h : rowD L = rowD M) : L = M := by
  simp only [rowD] at h
  injection h with h
  exact (List.map_inj_right fun x y e => flD_inj e).mp h
theorem row_nolist {h : Int} {d : PyData} (e : isLstD d = false) : isRowB h d = false := isRow_no.mpr fun ⟨L, e1, _⟩ => by
  rw [e1] at e
  cases e
theorem row_nil {h : Int} : isRowB h (.list []) = false := isRow_no.mpr fun ⟨L, e, k⟩ => by
  have : rowD L = rowD [] := e.symm
  rw [rowD_inj this] at k
  have := k.ne
  simp at this
theorem row_nofl {h : Int} {ds : List PyData} {k : Nat} {d : PyData} (e : ds[k]? = some d) (c : ∀ x : Fl, d = flD x → ¬ FlOk h x) : isRowB h (.list ds) = false := isRow_no.mpr fun ⟨L, e1, g⟩ => by
  injection e1 with e1
  rw [e1, List.getElem?_map] at e
  cases q : L[k]? with
  | none => rw [q] at e; cases e
  | some x =>
    rw [q] at e
    cases e
    exact c x rfl (g.ok x (List.mem_of_getElem? q))
theorem fls_of {h : Int} : ∀ {ds : List PyData}, (∀ d ∈ ds, ∃ e, d = flD e ∧ FlOk h e) → ∃ L : List Fl, ds = L.map flD ∧ ∀ e ∈ L, FlOk h e
  | [], _ => ⟨[], rfl, by simp⟩
  | d :: ds, g => by
    obtain ⟨e, rfl, h1⟩ := g d (by simp)
    obtain ⟨L, rfl, h2⟩ := fls_of fun x hx => g x (List.mem_cons_of_mem _ hx)
    refine ⟨e :: L, rfl, fun x hx => ?_⟩
    rcases List.mem_cons.mp hx with rfl | z
    · exact h1
    · exact h2 x z
theorem DqAll.three {H : Hp} {vs : List V} {ds : List PyData} (q : DqAll H vs ds) (hl : vs.length = 3) : ∃ v1 v2 v3 d1 d2 d3, vs = [v1, v2, v3] ∧ ds = [d1, d2, d3] ∧ Dq H v1 d1 ∧ Dq H v2 d2 ∧ Dq H v3 d3 := by
  cases q with
  | nil => simp at hl
  | cons a q =>
    cases q with
    | nil => simp at hl
    | cons b q =>
      cases q with
      | nil => simp at hl
      | cons c q =>
        cases q with
        | nil => exact ⟨_, _, _, _, _, _, rfl, rfl, a, b, c⟩
        | cons d q => simp at hl
theorem fl_at {H : Hp} {xs : List V} {L : List Fl} (q : DqAll H xs (L.map flD)) {k : Nat} {e : Fl} (h : L[k]? = some e) : ∃ t, xs[k]? = some (.ref t) ∧ H t = some (.tup [.int e.1, .int e.2.1, .int e.2.2]) := by
  obtain ⟨w, h1, h2⟩ := q.get (d := flD e) (by rw [List.getElem?_map, h]; rfl)
  obtain ⟨t, ys, rfl, h3, h4⟩ := h2.tuple_inv
  obtain ⟨v1, v2, v3, d1, d2, d3, rfl, e2, u1, u2, u3⟩ := DqAll.three h4 (by rw [h4.len]; rfl)
  injection e2 with e3 e2
  injection e2 with e4 e2
  injection e2 with e5 e2
  subst e3 e4 e5
  rw [u1.int_inv, u2.int_inv, u3.int_inv] at h3
  exact ⟨t, h1, h3⟩
theorem row_iff {h : Int} {L : List Fl} : IsRow h (rowD L) ↔ RowG h L := ⟨fun ⟨M, e, g⟩ => by rw [rowD_inj e]; exact g, fun g => ⟨L, rfl, g⟩⟩
section
variable {σ : L2.St} {H H1 : Hp} {Q : VK} {K : PySem.W.Frag} {D l : Addr} {g : TG} {tt : TT} {te : TE} {vs : List Nat} {xs : List V} {Qd : Hp → Prop}
/-- [.. for x in (a tuple) if ..]: how many -/
theorem lcT_fl (b : Nat → Bool) (nD : H1 D = none) (hn : xs.length ≤ 1000000) (hx : SqT K H1 l xs)
    (hs : ∀ (i : Nat) (x : V) H (Z : VK) (Y : Hp → Prop), xs[i]? = some x → Same H1 H → (∀ v H4, b i = true → Same H H4 → Z v H4) → (∀ H4, b i = false → Same H H4 → Y H4) → LcTurn g tt te vs σ x H Z Y)
    (hd : ∀ acc H, H D = some (.lst acc) → Same H1 H → ((acc.length : Int) = 0 ↔ ∀ i, i < xs.length → b i = false) → acc.length ≤ xs.length → Qd H) :
    ∃ W : Nat → Nat → Hp → Prop, (∃ m, W 0 m (L2.upd H1 D (.lst []))) ∧ ∀ i m H, W i m H →
      ((Itt K l).stop i H ∧ Qd H) ∨ ((Itt K l).go i H ∧ ∃ Nx : Hp → Prop, (∀ H', Nx H' → ∃ m', m' < m ∧ W (i + 1) m' H') ∧ ∀ x H', (Itt K l).yld i H x H' → g x (wipe σ vs) H' fun σ2 H2 => wipe σ2 vs = wipe σ vs ∧ tt σ2 H2 fun b H3 =>
        if b = true then te σ2 H3 fun y H4 => ∃ acc, H4 D = some (.lst acc) ∧ acc.length < sizeLine ∧ Nx (L2.upd H4 D (.lst (acc ++ [y]))) else Nx H3) := by
  refine lcT (xs := xs) (fun i acc H => Same H1 H ∧ acc.length ≤ i ∧ (acc = [] ↔ ∀ j, j < i → b j = false)) nD ⟨Same.new nD, Nat.le_refl _, by simp⟩ (fun i acc H _ q _ => Same.seqT q.1 hx) ?_ ?_
  · rintro i x acc H Z Y hi ⟨r1, r2, r3⟩ hD hz hy
    have hi' : i < xs.length := (List.getElem?_eq_some_iff.mp hi).1
    refine hs i x H Z Y hi r1 (fun v H4 e s => hz _ _ (s _ _ hD) (sz4' (by omega)) ⟨Same.mut (r1.trans s) nD, by rw [List.length_append]; show _ + 1 ≤ _; omega, ⟨fun q => by simp at q, fun q => ?_⟩⟩) (fun H4 e s => hy _ (s _ _ hD) ⟨r1.trans s, by omega, ?_⟩)
    · rw [q i (by omega)] at e
      cases e
    · rw [r3]
      refine ⟨fun q j hj => ?_, fun q j hj => q j (by omega)⟩
      by_cases c : j = i
      · rw [c]; exact e
      · exact q j (by omega)
  · rintro acc H ⟨r1, r2, r3⟩ hD
    refine hd acc H hD r1 ?_ r2
    rw [← r3, ← List.length_eq_zero_iff]
    omega
variable {lo : Int} {n : Nat}
/-- [.. for k in range(..) if ..]: how many -/
theorem lcR_fl (b : Nat → Bool) (nD : H1 D = none) (hn : n ≤ 1000000)
    (hs : ∀ (i : Nat) H (Z : VK) (Y : Hp → Prop), i < n → Same H1 H → (∀ v H4, b i = true → Same H H4 → Z v H4) → (∀ H4, b i = false → Same H H4 → Y H4) → LcTurn g tt te vs σ (.int (lo + i)) H Z Y)
    (hd : ∀ acc H, H D = some (.lst acc) → Same H1 H → ((acc.length : Int) = 0 ↔ ∀ i, i < n → b i = false) → acc.length ≤ n → Qd H) :
    ∃ W : Nat → Nat → Hp → Prop, (∃ m, W 0 m (L2.upd H1 D (.lst []))) ∧ ∀ i m H, W i m H →
      ((Itr lo n).stop i H ∧ Qd H) ∨ ((Itr lo n).go i H ∧ ∃ Nx : Hp → Prop, (∀ H', Nx H' → ∃ m', m' < m ∧ W (i + 1) m' H') ∧ ∀ x H', (Itr lo n).yld i H x H' → g x (wipe σ vs) H' fun σ2 H2 => wipe σ2 vs = wipe σ vs ∧ tt σ2 H2 fun b H3 =>
        if b = true then te σ2 H3 fun y H4 => ∃ acc, H4 D = some (.lst acc) ∧ acc.length < sizeLine ∧ Nx (L2.upd H4 D (.lst (acc ++ [y]))) else Nx H3) := by
  refine lcR (fun i acc H => Same H1 H ∧ acc.length ≤ i ∧ (acc = [] ↔ ∀ j, j < i → b j = false)) nD ⟨Same.new nD, Nat.le_refl _, by simp⟩ ?_ ?_
  · rintro i acc H Z Y hi ⟨r1, r2, r3⟩ hD hz hy
    refine hs i H Z Y hi r1 (fun v H4 e s => hz _ _ (s _ _ hD) (sz4' (by omega)) ⟨Same.mut (r1.trans s) nD, by rw [List.length_append]; show _ + 1 ≤ _; omega, ⟨fun q => by simp at q, fun q => ?_⟩⟩) (fun H4 e s => hy _ (s _ _ hD) ⟨r1.trans s, by omega, ?_⟩)
    · rw [q i (by omega)] at e
      cases e
    · rw [r3]
      refine ⟨fun q j hj => ?_, fun q j hj => q j (by omega)⟩
      by_cases c : j = i
      · rw [c]; exact e
      · exact q j (by omega)
  · rintro acc H ⟨r1, r2, r3⟩ hD
    refine hd acc H hD r1 ?_ r2
    rw [← r3, ← List.length_eq_zero_iff]
    omega
end
theorem i_slA2 {K : PySem.W.Frag} {H : Hp} {Q : VK} {p : Addr} {x y z : V} (h : SqT K H p [x, y, z]) (q : ∀ p', H p' = none → Q (.ref p') (L2.upd H p' (.tup [x, y]))) : rSlA K (.ref p) none (some 2) H Q :=
  ⟨p, [x, y, z], rfl, h, fun c => absurd c.2 (by show ¬ HT.sIx 3 3 (some 2) = 3; decide), fun _ => q⟩
/-- whether the row does not rise behind place i -/
noncomputable def noUp (L : List Fl) (i : Nat) : Bool := @decide (¬ ∀ a b, L[i]? = some a → L[i + 1]? = some b → lt2 a b) (Classical.propDecidable _)
theorem noUp_no {L : List Fl} {i : Nat} : noUp L i = false ↔ ∀ a b, L[i]? = some a → L[i + 1]? = some b → lt2 a b := by
  have := @decide_eq_false_iff_not _ (Classical.propDecidable (¬ ∀ a b, L[i]? = some a → L[i + 1]? = some b → lt2 a b))
  rw [Classical.not_not] at this
  exact this
theorem noUp_at {L : List Fl} {i : Nat} {a b : Fl} (h1 : L[i]? = some a) (h2 : L[i + 1]? = some b) : noUp L i = decide (b.1 < a.1 ∨ (b.1 = a.1 ∧ b.2.1 ≤ a.2.1)) := by
  cases c : noUp L i with
  | false =>
    have := noUp_no.mp c a b h1 h2
    unfold lt2 at this
    symm
    rw [decide_eq_false_iff_not]
    omega
  | true =>
    symm
    rw [decide_eq_true_iff]
    have : ¬ (noUp L i = false) := by rw [c]; nofun
    rw [noUp_no] at this
    have n : ¬ lt2 a b := fun z => this fun a' b' e1 e2 => by
      rw [h1] at e1
      rw [h2] at e2
      cases e1
      cases e2
      exact z
    unfold lt2 at n
    omega
/-! ### sums by hosts -/
def sumF (key : Fl → Int) (L : List Fl) (f : Int → Int) : Int → Int := L.foldl (fun f e => addI f (key e) e.2.2) f
def zF : Int → Int := fun _ => 0
/-- what comes, what goes on, by how many hosts are left -/
def tkF (L : List Fl) : Int → Int := sumF (fun e => e.1) L zF
def gnF (L : List Fl) : Int → Int := sumF (fun e => e.1 - e.2.1) L zF
theorem sumF_snoc {key : Fl → Int} {L : List Fl} {i : Nat} {e : Fl} {f : Int → Int} (h : L[i]? = some e) : sumF key (L.take (i + 1)) f = addI (sumF key (L.take i) f) (key e) e.2.2 := by
  unfold sumF
  rw [take_snoc h, List.foldl_append]
  rfl
theorem tkF_snoc {L : List Fl} {i : Nat} {e : Fl} (h : L[i]? = some e) : tkF (L.take (i + 1)) = addI (tkF (L.take i)) e.1 e.2.2 := sumF_snoc h
theorem gnF_snoc {L : List Fl} {i : Nat} {e : Fl} (h : L[i]? = some e) : gnF (L.take (i + 1)) = addI (gnF (L.take i)) (e.1 - e.2.1) e.2.2 := sumF_snoc h
theorem sumF_ne {key : Fl → Int} : ∀ {L : List Fl} {f : Int → Int}, (∀ e ∈ L, 1 ≤ e.2.2) → (∀ i, 0 ≤ f i) → (∀ i, 0 ≤ sumF key L f i) ∧ ∀ i, sumF key L f i ≠ 0 ↔ (f i ≠ 0 ∨ ∃ e ∈ L, key e = i)
  | [], f, _, h0 => ⟨h0, fun i => by simp [sumF]⟩
  | e :: L, f, h1, h0 => by
    have p := h1 e List.mem_cons_self
    have g0 : ∀ i, 0 ≤ addI f (key e) e.2.2 i := fun i => by
      unfold addI
      have := h0 i
      split <;> omega
    obtain ⟨a, b⟩ := sumF_ne (L := L) (f := addI f (key e) e.2.2) (fun x hx => h1 x (List.mem_cons_of_mem _ hx)) g0
    refine ⟨a, fun i => ?_⟩
    show sumF key L (addI f (key e) e.2.2) i ≠ 0 ↔ _
    rw [b]
    unfold addI
    by_cases c : i = key e
    · rw [if_pos c]
      have := h0 i
      exact ⟨fun _ => .inr ⟨e, List.mem_cons_self, c.symm⟩, fun _ => .inl (by omega)⟩
    · rw [if_neg c]
      constructor
      · rintro (z | ⟨x, hx, e'⟩)
        · exact .inl z
        · exact .inr ⟨x, List.mem_cons_of_mem _ hx, e'⟩
      · rintro (z | ⟨x, hx, e'⟩)
        · exact .inl z
        · rcases List.mem_cons.mp hx with rfl | m
          · exact absurd e'.symm c
          · exact .inr ⟨x, m, e'⟩
theorem tkF_ne {L : List Fl} (h : ∀ e ∈ L, 1 ≤ e.2.2) (i : Int) : tkF L i ≠ 0 ↔ ∃ e ∈ L, e.1 = i := by
  have q := (sumF_ne (key := fun e => e.1) (f := zF) h (fun _ => Int.le_refl 0)).2 i
  show sumF (fun e => e.1) L zF i ≠ 0 ↔ _
  rw [q]
  exact ⟨fun z => z.elim (fun c => absurd rfl c) id, .inr⟩
theorem gnF_ne {L : List Fl} (h : ∀ e ∈ L, 1 ≤ e.2.2) (i : Int) : gnF L i ≠ 0 ↔ ∃ e ∈ L, e.1 - e.2.1 = i := by
  have q := (sumF_ne (key := fun e => e.1 - e.2.1) (f := zF) h (fun _ => Int.le_refl 0)).2 i
  show sumF (fun e => e.1 - e.2.1) L zF i ≠ 0 ↔ _
  rw [q]
  exact ⟨fun z => z.elim (fun c => absurd rfl c) id, .inr⟩
theorem one_int {ns : List Int} {x : Int} (nd : ns.Nodup) : ns = [x] ↔ ∀ i, i ∈ ns ↔ i = x := by
  constructor
  · rintro rfl i
    simp
  · intro h
    cases ns with
    | nil => exact absurd ((h x).mpr rfl) (by simp)
    | cons y r =>
      have e := (h y).mp List.mem_cons_self
      subst e
      cases r with
      | nil => rfl
      | cons z r =>
        have e := (h z).mp (by simp)
        subst e
        rw [List.nodup_cons] at nd
        exact absurd List.mem_cons_self nd.1
theorem RowG.fl {h : Int} {L : List Fl} (k : RowG h L) : ∀ e ∈ L, 1 ≤ e.2.2 := fun e he => (k.ok e he).2.2.2
/-- the keys of what comes are just h -/
theorem keys_one {L : List Fl} {ks : List (Key × V)} {f : Int → Int} {key : Fl → Int} {x : Int} (h : FlI ks f) (hf : ∀ i, f i ≠ 0 ↔ ∃ e ∈ L, key e = i) (ne : 1 ≤ L.length) {ns : List Int} (nd : ns.Nodup) (hn : ∀ i, i ∈ ns ↔ f i ≠ 0) : ns = [x] ↔ ∀ e ∈ L, key e = x := by
  rw [one_int nd]
  constructor
  · intro g e he
    exact (g (key e)).mp ((hn _).mpr ((hf _).mpr ⟨e, he, rfl⟩))
  · intro g i
    rw [hn, hf]
    constructor
    · rintro ⟨e, he, rfl⟩
      exact g e he
    · rintro rfl
      obtain ⟨e, he⟩ := List.exists_mem_of_length_pos ne
      exact ⟨e, he, g e he⟩
/-- the first rows of a stream -/
structure PreG (h : Int) (Ls : List (List Fl)) : Prop where
  rows : ∀ L ∈ Ls, RowG h L
  first : ∀ L, Ls[0]? = some L → ∀ e ∈ L, e.1 = h
  link : ∀ (k : Nat) (A B : List Fl), Ls[k]? = some A → Ls[k + 1]? = some B → ∀ x, tkF B x = gnF A x
/-- a stream of h hosts and n fields -/
structure StrG (h n : Int) (Ls : List (List Fl)) : Prop where
  ne : (Ls.length : Int) = n ∧ n ≠ 0
  pre : PreG h Ls
  last : ∀ L, Ls[Ls.length - 1]? = some L → ∀ e ∈ L, e.1 - e.2.1 = 0
def IsStr (h n : Int) (d : PyData) : Prop := ∃ Ls, d = strD Ls ∧ StrG h n Ls
noncomputable def isStrB (h n : Int) (d : PyData) : Bool := @decide (IsStr h n d) (Classical.propDecidable _)
theorem isStr_iff {h n : Int} {d : PyData} : isStrB h n d = true ↔ IsStr h n d := @decide_eq_true_iff _ (Classical.propDecidable _)
theorem isStr_no {h n : Int} {d : PyData} : isStrB h n d = false ↔ ¬ IsStr h n d := @decide_eq_false_iff_not _ (Classical.propDecidable _)
theorem strD_inj {L M : List (List Fl)} (h : strD L = strD M) : L = M := by
  simp only [strD] at h
  injection h with h
  exact (List.map_inj_right fun x y e => rowD_inj e).mp h
theorem str_nolist {h n : Int} {d : PyData} (e : isLstD d = false) : isStrB h n d = false := isStr_no.mpr fun ⟨L, e1, _⟩ => by
  rw [e1] at e
  cases e
theorem str_len {h n : Int} {ds : List PyData} (c : ¬ ((ds.length : Int) = n ∧ n ≠ 0)) : isStrB h n (.list ds) = false := isStr_no.mpr fun ⟨L, e1, g⟩ => by
  injection e1 with e1
  rw [e1, List.length_map] at c
  exact c g.ne
theorem str_at {Ls : List (List Fl)} {ds : List PyData} (e : PyData.list ds = strD Ls) {k : Nat} {d : PyData} (h : ds[k]? = some d) : ∃ L, Ls[k]? = some L ∧ d = rowD L := by
  injection e with e
  rw [e, List.getElem?_map] at h
  cases q : Ls[k]? with
  | none => rw [q] at h; cases h
  | some L =>
    rw [q] at h
    cases h
    exact ⟨L, rfl, rfl⟩
theorem str_norow {h n : Int} {ds : List PyData} {k : Nat} {d : PyData} (e : ds[k]? = some d) (c : ¬ IsRow h d) : isStrB h n (.list ds) = false := isStr_no.mpr fun ⟨Ls, e1, g⟩ => by
  obtain ⟨L, h1, rfl⟩ := str_at e1 e
  exact c ⟨L, rfl, g.pre.rows L (List.mem_of_getElem? h1)⟩
theorem str_nofirst {h n : Int} {ds : List PyData} {L : List Fl} (e : ds[0]? = some (rowD L)) (c : ¬ ∀ e ∈ L, e.1 = h) : isStrB h n (.list ds) = false := isStr_no.mpr fun ⟨Ls, e1, g⟩ => by
  obtain ⟨M, h1, h2⟩ := str_at e1 e
  rw [rowD_inj h2] at c
  exact c (g.pre.first M h1)
theorem str_nolink {h n : Int} {ds : List PyData} {k : Nat} {A B : List Fl} (e : ds[k]? = some (rowD A)) (e' : ds[k + 1]? = some (rowD B)) (c : ¬ ∀ x, tkF B x = gnF A x) : isStrB h n (.list ds) = false := isStr_no.mpr fun ⟨Ls, e1, g⟩ => by
  obtain ⟨M, h1, h2⟩ := str_at e1 e
  obtain ⟨M', h3, h4⟩ := str_at e1 e'
  rw [rowD_inj h2, rowD_inj h4] at c
  exact c (g.pre.link k M M' h1 h3)
theorem PreG.nil {h : Int} : PreG h [] := ⟨nofun, nofun, nofun⟩
theorem PreG.snoc {h : Int} {Ms : List (List Fl)} {L : List Fl} (k : PreG h Ms) (r : RowG h L) (c1 : Ms = [] → ∀ e ∈ L, e.1 = h) (c2 : ∀ M, Ms[Ms.length - 1]? = some M → 1 ≤ Ms.length → ∀ x, tkF L x = gnF M x) : PreG h (Ms ++ [L]) := by
  refine ⟨fun M hM => ?_, fun M hM => ?_, fun j A B hA hB => ?_⟩
  · rcases List.mem_append.mp hM with z | z
    · exact k.rows M z
    · rw [List.mem_singleton.mp z]
      exact r
  · cases Ms with
    | nil =>
      cases hM
      exact c1 rfl
    | cons A Ms => exact k.first M hM
  · by_cases e : j + 1 < Ms.length
    · rw [List.getElem?_append_left (by omega)] at hA
      rw [List.getElem?_append_left e] at hB
      exact k.link j A B hA hB
    · have hj : j + 1 = Ms.length := by
        have := (List.getElem?_eq_some_iff.mp hB).1
        rw [List.length_append] at this
        simp at this
        omega
      rw [List.getElem?_append_left (by omega)] at hA
      rw [List.getElem?_append_right (by omega), hj, Nat.sub_self] at hB
      cases hB
      exact c2 A (by rw [← hj]; exact hA) (by omega)
/-- what the last row leaves behind -/
def ComeOk (H : Hp) (cv : V) (Ms : List (List Fl)) : Prop := (Ms = [] ∧ cv = .non) ∨ ∃ M cg ks, Ms[Ms.length - 1]? = some M ∧ 1 ≤ Ms.length ∧ cv = .ref cg ∧ H cg = some (.dK ks) ∧ FlI ks (gnF M) ∧ ks.length ≤ 1000
theorem ComeOk.same {H H' : Hp} {cv : V} {Ms : List (List Fl)} (h : ComeOk H cv Ms) (s : Same H H') : ComeOk H' cv Ms := by
  rcases h with h | ⟨M, cg, ks, h1, h2, h3, h4, h5, h6⟩
  · exact .inl h
  · exact .inr ⟨M, cg, ks, h1, h2, h3, s _ _ h4, h5, h6⟩
/-- a stream of any hosts (at most forty) and fields (at most eight) -/
def AnyStr (d : PyData) : Prop := ∃ h Ls, d = strD Ls ∧ StrG h (Ls.length : Int) Ls ∧ h ≤ 40 ∧ Ls.length ≤ 8
theorem anystr_no {d : PyData} (e : isLstD d = false) : ¬ AnyStr d := fun ⟨_, L, e1, _⟩ => by
  rw [e1] at e
  cases e
theorem RowG.mono {h h' : Int} {L : List Fl} (k : RowG h L) (e : h ≤ h') : RowG h' L := ⟨k.ne, fun x hx => by
  obtain ⟨a, b, c, d⟩ := k.ok x hx
  exact ⟨a, b, by omega, d⟩, k.up⟩
theorem anystr_nil : ¬ AnyStr (.list []) := fun ⟨_, L, e, g, _⟩ => by
  have : strD L = strD [] := e.symm
  rw [strD_inj this] at g
  have := g.ne.2
  simp at this
theorem anystr_row {ds : List PyData} {d : PyData} (z : AnyStr (.list ds)) (e : ds[0]? = some d) : IsRow 40 d := by
  obtain ⟨h, Ls, e1, g, h1, _⟩ := z
  obtain ⟨L, e2, rfl⟩ := str_at e1 e
  exact ⟨L, rfl, (g.pre.rows L (List.mem_of_getElem? e2)).mono h1⟩
theorem anystr_len {ds : List PyData} (z : AnyStr (.list ds)) : ds.length ≤ 8 := by
  obtain ⟨h, Ls, e1, g, _, h2⟩ := z
  injection e1 with e1
  rw [e1, List.length_map]
  exact h2
theorem anystr_iff {ds : List PyData} {L : List Fl} {e : Fl} (h1 : ds[0]? = some (rowD L)) (h2 : L[0]? = some e) (h3 : RowG 40 L) (h4 : ds.length ≤ 8) : AnyStr (.list ds) ↔ IsStr e.1 (ds.length : Int) (.list ds) := by
  constructor
  · rintro ⟨h, Ls, e1, g, _, _⟩
    obtain ⟨M, e2, e3⟩ := str_at e1 h1
    have he := g.pre.first M e2 e (by rw [← rowD_inj e3]; exact List.mem_of_getElem? h2)
    refine ⟨Ls, e1, ?_⟩
    rw [he]
    have e4 := e1
    injection e4 with e4
    rw [e4, List.length_map]
    exact g
  · rintro ⟨Ls, e1, g⟩
    have e4 := e1
    injection e4 with e4
    rw [e4, List.length_map] at g h4
    exact ⟨e.1, Ls, e1, g, (h3.ok e (List.mem_of_getElem? h2)).2.2.1, h4⟩
def lenD : PyData → Int
  | .list ds => ds.length
  | _ => 0
section
variable {σ : L2.St} {H H1 : Hp} {Q : VK} {K : PySem.W.Frag} {D l : Addr} {g : TG} {tt : TT} {te : TE} {vs : List Nat} {xs : List V} {Qd : Hp → Prop}
/-- truths, one for each item of a tuple -/
theorem lcT_bl (f : Nat → Bool) (nD : H1 D = none) (hn : xs.length ≤ 1000000) (hx : SqT K H1 l xs)
    (hs : ∀ (i : Nat) (x : V) H (Z : VK) (Y : Hp → Prop), xs[i]? = some x → Same H1 H → (∀ H4, Same H H4 → Z (.bl (f i)) H4) → LcTurn g tt te vs σ x H Z Y)
    (hd : ∀ H, Same H1 H → H D = some (.lst (((List.range xs.length).map f).map V.bl)) → Qd H) :
    ∃ W : Nat → Nat → Hp → Prop, (∃ m, W 0 m (L2.upd H1 D (.lst []))) ∧ ∀ i m H, W i m H →
      ((Itt K l).stop i H ∧ Qd H) ∨ ((Itt K l).go i H ∧ ∃ Nx : Hp → Prop, (∀ H', Nx H' → ∃ m', m' < m ∧ W (i + 1) m' H') ∧ ∀ x H', (Itt K l).yld i H x H' → g x (wipe σ vs) H' fun σ2 H2 => wipe σ2 vs = wipe σ vs ∧ tt σ2 H2 fun b H3 =>
        if b = true then te σ2 H3 fun y H4 => ∃ acc, H4 D = some (.lst acc) ∧ acc.length < sizeLine ∧ Nx (L2.upd H4 D (.lst (acc ++ [y]))) else Nx H3) := by
  refine lcT (xs := xs) (fun i acc H => i ≤ xs.length ∧ acc = ((List.range i).map f).map V.bl ∧ Same H1 H) nD ⟨Nat.zero_le _, rfl, Same.new nD⟩ (fun i acc H _ q _ => Same.seqT q.2.2 hx) ?_ ?_
  · rintro i x acc H Z Y hi ⟨_, rfl, hsame⟩ ha hz _
    have hi' : i < xs.length := (List.getElem?_eq_some_iff.mp hi).1
    refine hs i x H Z Y hi hsame fun H4 h4 => hz _ H4 (h4 _ _ ha) (sz4' (by simp; omega)) ⟨hi', ?_, Same.mut (hsame.trans h4) nD⟩
    rw [List.range_succ, List.map_append, List.map_append]
    rfl
  · rintro acc H ⟨_, rfl, hsame⟩ ha
    exact hd H hsame ha
/-- truths, one for each item of a list -/
theorem lcL_bl (f : Nat → Bool) (nD : H1 D = none) (hn : xs.length ≤ 1000000) (hx : SqL K H1 l xs)
    (hs : ∀ (i : Nat) (x : V) H (Z : VK) (Y : Hp → Prop), xs[i]? = some x → Same H1 H → (∀ H4, Same H H4 → Z (.bl (f i)) H4) → LcTurn g tt te vs σ x H Z Y)
    (hd : ∀ H, Same H1 H → H D = some (.lst (((List.range xs.length).map f).map V.bl)) → Qd H) :
    ∃ W : Nat → Nat → Hp → Prop, (∃ m, W 0 m (L2.upd H1 D (.lst []))) ∧ ∀ i m H, W i m H →
      ((Itl K l).stop i H ∧ Qd H) ∨ ((Itl K l).go i H ∧ ∃ Nx : Hp → Prop, (∀ H', Nx H' → ∃ m', m' < m ∧ W (i + 1) m' H') ∧ ∀ x H', (Itl K l).yld i H x H' → g x (wipe σ vs) H' fun σ2 H2 => wipe σ2 vs = wipe σ vs ∧ tt σ2 H2 fun b H3 =>
        if b = true then te σ2 H3 fun y H4 => ∃ acc, H4 D = some (.lst acc) ∧ acc.length < sizeLine ∧ Nx (L2.upd H4 D (.lst (acc ++ [y]))) else Nx H3) := by
  refine lcL (xs := xs) (fun i acc H => i ≤ xs.length ∧ acc = ((List.range i).map f).map V.bl ∧ Same H1 H) nD ⟨Nat.zero_le _, rfl, Same.new nD⟩ (fun i acc H _ q _ => q.2.2.seq hx) ?_ ?_
  · rintro i x acc H Z Y hi ⟨_, rfl, hsame⟩ ha hz _
    have hi' : i < xs.length := (List.getElem?_eq_some_iff.mp hi).1
    refine hs i x H Z Y hi hsame fun H4 h4 => hz _ H4 (h4 _ _ ha) (sz4' (by simp; omega)) ⟨hi', ?_, Same.mut (hsame.trans h4) nD⟩
    rw [List.range_succ, List.map_append, List.map_append]
    rfl
  · rintro acc H ⟨_, rfl, hsame⟩ ha
    exact hd H hsame ha
theorem inV_false : ∀ bs : List Bool, L2.inV (.bl false) (bs.map V.bl) = decide (false ∈ bs)
  | [] => rfl
  | b :: bs => by
    have ih := inV_false bs
    rw [Bool.eq_iff_iff, decide_eq_true_iff]
    cases b with
    | false => simp [L2.inV, L2.eqV]
    | true =>
      have e : L2.inV (.bl false) ((true :: bs).map V.bl) = L2.inV (.bl false) (bs.map V.bl) := by simp [L2.inV, L2.eqV]
      rw [e, ih, decide_eq_true_iff]
      simp
theorem flat_bls : ∀ bs : List Bool, (bs.map V.bl).all flatV = true
  | [] => rfl
  | b :: bs => by
    rw [List.map_cons, List.all_cons, flat_bls bs]
    rfl
/-- False in a list of truths -/
theorem i_inF {p : Addr} {bs : List Bool} (h : SqL K H p (bs.map V.bl)) (q : Q (.bl (decide (false ∈ bs))) H) : rIn K false (.bl false) (.ref p) H Q := ⟨p, bs.map V.bl, rfl, .inl h, rfl, flat_bls bs, by rw [inV_false]; exact q⟩
end
theorem eqv_nil : ∀ ds : List PyData, PyData.eqv (.list ds) (.list []) = decide (ds = [])
  | [] => by simp [PyData.eqv, PyData.eqvAll]
  | d :: ds => by simp [PyData.eqv, PyData.eqvAll]
theorem shaped_nil : SeqAt.shaped (.list []) = true := shaped_of (by simp [PyData.canLay0, PyData.canLayAll0]) (by simp [dep, depA])
end Hf
/-! ## the stream of a mix is a stream -/
namespace Hf
open PySem PySem.Spec PyProof.Rows L2
theorem sumF_sum {key : Fl → Int} : ∀ {L : List Fl} {f : Int → Int} (x : Int), sumF key L f x = f x + (L.map fun e => if key e = x then e.2.2 else 0).sum
  | [], f, x => by simp [sumF]
  | e :: L, f, x => by
    show sumF key L (addI f (key e) e.2.2) x = _
    rw [sumF_sum x, List.map_cons, List.sum_cons]
    unfold addI
    by_cases c : x = key e
    · rw [if_pos c, if_pos c.symm]
      omega
    · rw [if_neg c, if_neg (fun z => c z.symm)]
      omega
theorem sum_zero {α : Type} {c : α → Int} {P : List α} (h : ∀ p ∈ P, c p = 0) : (P.map c).sum = 0 := by
  induction P with
  | nil => rfl
  | cons p P ih =>
    rw [List.map_cons, List.sum_cons, h p List.mem_cons_self, ih fun q hq => h q (List.mem_cons_of_mem _ hq)]
    rfl
theorem sum_single {α : Type} [DecidableEq α] {c : α → Int} {q : α} : ∀ {P : List α}, P.Nodup → q ∈ P → (P.map fun p => if q = p then c p else 0).sum = c q
  | [], _, h => by simp at h
  | p :: P, nd, h => by
    rw [List.nodup_cons] at nd
    rw [List.map_cons, List.sum_cons]
    by_cases e : q = p
    · subst e
      rw [if_pos rfl, sum_zero fun p hp => if_neg fun z => nd.1 (by rw [z]; exact hp)]
      omega
    · rw [if_neg e, sum_single nd.2 ((List.mem_cons.mp h).resolve_left e)]
      omega
theorem sum_add {α : Type} {a b : α → Int} : ∀ {P : List α}, (P.map fun p => a p + b p).sum = (P.map a).sum + (P.map b).sum
  | [] => rfl
  | p :: P => by
    rw [List.map_cons, List.map_cons, List.map_cons, List.sum_cons, List.sum_cons, List.sum_cons, sum_add]
    omega
/-- flows, gathered by what hangs on their places alone -/
theorem flow_sum {k : Nat} {kp : Int × Int → Int} {x : Int} {P : List (Int × Int)} (nd : P.Nodup) : ∀ {m : List (List Int × Int)}, (∀ pw ∈ m, keyAt pw.1 k ∈ P) →
    (P.map fun p => if kp p = x then flowF m k p.1 p.2 else 0).sum = (m.map fun pw => if kp (keyAt pw.1 k) = x then pw.2 else 0).sum
  | [], _ => by
    rw [sum_zero fun p _ => by show (if kp p = x then (0 : Int) else 0) = 0; split <;> rfl]
    rfl
  | pw :: m, h => by
    have ih := flow_sum (kp := kp) (x := x) nd (m := m) fun q hq => h q (List.mem_cons_of_mem _ hq)
    have s := sum_single (c := fun p => if kp p = x then pw.2 else 0) nd (h pw List.mem_cons_self)
    rw [List.map_cons, List.sum_cons, ← ih, ← s, ← sum_add]
    congr 1
    apply List.map_congr_left
    intro p _
    have e : flowF (pw :: m) k p.1 p.2 = (if keyAt pw.1 k = p then pw.2 else 0) + flowF m k p.1 p.2 := rfl
    show (if kp p = x then flowF (pw :: m) k p.1 p.2 else 0) = (if keyAt pw.1 k = p then (if kp p = x then pw.2 else 0) else 0) + (if kp p = x then flowF m k p.1 p.2 else 0)
    rw [e]
    by_cases c1 : kp p = x
    · rw [if_pos c1, if_pos c1, if_pos c1]
    · rw [if_neg c1, if_neg c1, if_neg c1]
      split <;> rfl
theorem flowF_nn {k : Nat} : ∀ {m : List (List Int × Int)}, (∀ pw ∈ m, 1 ≤ pw.2) → ∀ l s, 0 ≤ flowF m k l s
  | [], _, _, _ => Int.le_refl _
  | pw :: m, h, l, s => by
    have := flowF_nn (k := k) (m := m) (fun q hq => h q (List.mem_cons_of_mem _ hq)) l s
    have := h pw List.mem_cons_self
    show 0 ≤ (if keyAt pw.1 k = (l, s) then pw.2 else 0) + flowF m k l s
    split <;> omega
theorem flowF_ne {k : Nat} : ∀ {m : List (List Int × Int)}, (∀ pw ∈ m, 1 ≤ pw.2) → ∀ l s, flowF m k l s ≠ 0 ↔ ∃ pw ∈ m, keyAt pw.1 k = (l, s)
  | [], _, l, s => by simp [flowF]
  | pw :: m, h, l, s => by
    have h1 := flowF_nn (k := k) (m := m) (fun q hq => h q (List.mem_cons_of_mem _ hq)) l s
    have h2 := h pw List.mem_cons_self
    have ih := flowF_ne (k := k) (m := m) (fun q hq => h q (List.mem_cons_of_mem _ hq)) l s
    show (if keyAt pw.1 k = (l, s) then pw.2 else 0) + flowF m k l s ≠ 0 ↔ _
    by_cases c : keyAt pw.1 k = (l, s)
    · rw [if_pos c]
      exact ⟨fun _ => ⟨pw, List.mem_cons_self, c⟩, fun _ => by omega⟩
    · rw [if_neg c, Int.zero_add, ih]
      constructor
      · rintro ⟨q, hq, e⟩
        exact ⟨q, List.mem_cons_of_mem _ hq, e⟩
      · rintro ⟨q, hq, e⟩
        rcases List.mem_cons.mp hq with rfl | z
        · exact absurd e c
        · exact ⟨q, z, e⟩
theorem lt2_irr {a b : Fl} (h : lt2 a b) : (a.1, a.2.1) ≠ (b.1, b.2.1) := fun e => by
  injection e with e1 e2
  unfold lt2 at h
  omega
theorem row_nodup {L : List Fl} (h : L.Pairwise lt2) : (L.map fun e => (e.1, e.2.1)).Nodup := by
  unfold List.Nodup
  rw [List.pairwise_map]
  exact h.imp fun h => lt2_irr h
theorem row_gather {m : List (List Int × Int)} {k : Nat} {L : List Fl} (hw : ∀ pw ∈ m, 1 ≤ pw.2) (r : RowF (flowF m k) L) (kp : Int × Int → Int) (x : Int) :
    sumF (fun e => kp (e.1, e.2.1)) L zF x = (m.map fun pw => if kp (keyAt pw.1 k) = x then pw.2 else 0).sum := by
  rw [← flow_sum (kp := kp) (x := x) (row_nodup r.st) (m := m) (fun pw hp => ?_), sumF_sum, List.map_map]
  · show 0 + _ = _
    rw [Int.zero_add]
    congr 1
    apply List.map_congr_left
    intro e he
    show (if kp (e.1, e.2.1) = x then e.2.2 else 0) = if kp (e.1, e.2.1) = x then flowF m k e.1 e.2.1 else 0
    rw [((r.mem e).mp he).1]
  · have ne := (flowF_ne (k := k) hw (keyAt pw.1 k).1 (keyAt pw.1 k).2).mpr ⟨pw, hp, rfl⟩
    exact List.mem_map.mpr ⟨((keyAt pw.1 k).1, (keyAt pw.1 k).2, flowF m k (keyAt pw.1 k).1 (keyAt pw.1 k).2), (r.mem _).mpr ⟨rfl, ne⟩, rfl⟩
theorem sum_nn1 : ∀ {p : List Int}, (∀ x ∈ p, 0 ≤ x) → 0 ≤ p.sum
  | [], _ => by simp
  | x :: p, h => by
    have := sum_nn1 fun y hy => h y (List.mem_cons_of_mem _ hy)
    have := h x (by simp)
    rw [List.sum_cons]
    omega
theorem drop_sum {p : List Int} {k : Nat} (hk : k < p.length) : (p.drop k).sum = (p[k]?).getD 0 + (p.drop (k + 1)).sum := by
  rw [List.drop_eq_getElem_cons hk, List.sum_cons, List.getElem?_eq_getElem hk]
  rfl
theorem drop_le : ∀ {p : List Int} {k : Nat}, (∀ x ∈ p, 0 ≤ x) → (p.drop k).sum ≤ p.sum
  | [], k, _ => by simp
  | x :: p, 0, _ => Int.le_refl _
  | x :: p, k + 1, h => by
    have := drop_le (p := p) (k := k) fun y hy => h y (List.mem_cons_of_mem _ hy)
    have := h x (by simp)
    rw [List.drop_succ_cons, List.sum_cons]
    omega
theorem key_next {p : List Int} {k : Nat} (hk : k < p.length) : (keyAt p k).1 - (keyAt p k).2 = (keyAt p (k + 1)).1 := by
  unfold keyAt
  rw [drop_sum hk]
  show (p[k]?).getD 0 + (p.drop (k + 1)).sum - (p[k]?).getD 0 = (p.drop (k + 1)).sum
  omega
theorem StrOf.g {h : Int} {n : Nat} {m : List (List Int × Int)} {Ls : List (List Fl)} (r : StrOf m n Ls) (g : MixG h n m) : StrG h (n : Int) Ls := by
  have hw : ∀ pw ∈ m, 1 ≤ pw.2 := fun pw hp => (g.pl pw hp).2
  have src : ∀ {k : Nat} {L : List Fl} {e : Fl}, Ls[k]? = some L → e ∈ L → ∃ pw ∈ m, keyAt pw.1 k = (e.1, e.2.1) := fun hL he => by
    have := (((r.row _ _ hL).mem _).mp he).2
    exact (flowF_ne hw _ _).mp this
  have rows : ∀ L ∈ Ls, RowG h L := fun L hL => by
    obtain ⟨k, hk, rfl⟩ := List.mem_iff_getElem.mp hL
    have e1 : Ls[k]? = some Ls[k] := List.getElem?_eq_getElem hk
    have rr := r.row k _ e1
    have hkn : k < n := by rw [← r.len]; exact hk
    refine ⟨?_, fun e he => ?_, fun j a b h1 h2 => ?_⟩
    · obtain ⟨pw, hp⟩ : ∃ pw, pw ∈ m := List.exists_mem_of_length_pos g.ne
      have ne := (flowF_ne (k := k) hw (keyAt pw.1 k).1 (keyAt pw.1 k).2).mpr ⟨pw, hp, rfl⟩
      exact List.length_pos_of_mem ((rr.mem ((keyAt pw.1 k).1, (keyAt pw.1 k).2, flowF m k (keyAt pw.1 k).1 (keyAt pw.1 k).2)).mpr ⟨rfl, ne⟩)
    · obtain ⟨pw, hp, e2⟩ := src e1 he
      obtain ⟨⟨p1, p2, p3⟩, _⟩ := g.pl pw hp
      have hk' : k < pw.1.length := by omega
      have a1 : e.1 = (pw.1.drop k).sum := (congrArg Prod.fst e2).symm
      have a2 : e.2.1 = (pw.1[k]?).getD 0 := (congrArg Prod.snd e2).symm
      have a3 := drop_sum hk'
      have a4 : 0 ≤ (pw.1.drop (k + 1)).sum := sum_nn1 fun x hx => p3 x (List.mem_of_mem_drop hx)
      have a5 := drop_le (k := k) p3
      have a6 : 0 ≤ (pw.1[k]?).getD 0 := by
        rw [List.getElem?_eq_getElem hk']
        exact p3 _ (List.getElem_mem hk')
      have a7 := (rr.mem e).mp he
      have a8 := flowF_nn (k := k) hw e.1 e.2.1
      refine ⟨by omega, by omega, by omega, ?_⟩
      rw [a7.1]
      have := a7.2
      omega
    · obtain ⟨i1, x1⟩ := List.getElem?_eq_some_iff.mp h1
      obtain ⟨i2, x2⟩ := List.getElem?_eq_some_iff.mp h2
      have := List.pairwise_iff_getElem.mp rr.st j (j + 1) i1 i2 (by omega)
      rw [x1, x2] at this
      exact this
  have fl := g.fl
  refine ⟨⟨by rw [r.len], by omega⟩, ⟨rows, fun L hL e he => ?_, fun k A B hA hB x => ?_⟩, fun L hL e he => ?_⟩
  · obtain ⟨pw, hp, e2⟩ := src hL he
    have a1 : e.1 = (pw.1.drop 0).sum := (congrArg Prod.fst e2).symm
    rw [a1, List.drop_zero]
    exact (g.pl pw hp).1.2.1
  · have hk : k + 1 < Ls.length := (List.getElem?_eq_some_iff.mp hB).1
    have t1 := row_gather hw (r.row _ _ hB) (fun p => p.1) x
    have t2 := row_gather hw (r.row _ _ hA) (fun p => p.1 - p.2) x
    show sumF (fun e => e.1) B zF x = sumF (fun e => e.1 - e.2.1) A zF x
    rw [t1, t2]
    congr 1
    apply List.map_congr_left
    intro pw hp
    have := (g.pl pw hp).1.1
    have e := key_next (p := pw.1) (k := k) (by rw [r.len] at hk; omega)
    show (if (keyAt pw.1 (k + 1)).1 = x then pw.2 else 0) = if (keyAt pw.1 k).1 - (keyAt pw.1 k).2 = x then pw.2 else 0
    rw [e]
  · obtain ⟨pw, hp, e2⟩ := src hL he
    have hl := (g.pl pw hp).1.1
    have a1 : e.1 = (keyAt pw.1 (Ls.length - 1)).1 := (congrArg Prod.fst e2).symm
    have a2 : e.2.1 = (keyAt pw.1 (Ls.length - 1)).2 := (congrArg Prod.snd e2).symm
    have rl := r.len
    rw [a1, a2, key_next (by omega)]
    show (pw.1.drop (Ls.length - 1 + 1)).sum = 0
    rw [List.drop_of_length_le (by omega)]
    rfl
theorem StrOf.any {h : Int} {n : Nat} {m : List (List Int × Int)} {Ls : List (List Fl)} (r : StrOf m n Ls) (g : MixG h n m) : AnyStr (strD Ls) := ⟨h, Ls, rfl, by rw [r.len]; exact r.g g, g.ho.2, by rw [r.len]; exact g.fl.2⟩
/-! ### a list that is made by append, its things new and owned -/
def AccN (H1 H : Hp) (D : Addr) (acc : List V) (ds : List PyData) : Prop := Same H1 H ∧ H D = some (.lst acc) ∧ ∃ S, OwAll H acc ds S ∧ S.Nodup ∧ D ∉ S ∧ ∀ b, b ∈ S → H1 b = none
theorem AccN.nil {H1 H : Hp} {D : Addr} (s : Same H1 H) (h : H D = some (.lst [])) : AccN H1 H D [] [] := ⟨s, h, [], .nil, List.nodup_nil, by simp, nofun⟩
theorem AccN.push {H1 H H4 : Hp} {D : Addr} {acc : List V} {ds : List PyData} {v : V} {d : PyData} {S' : List Addr} (nD : H1 D = none) (h : AccN H1 H D acc ds) (k1 : OwN H H4 v d S') (k2 : Same H H4) : AccN H1 (L2.upd H4 D (.lst (acc ++ [v]))) D (acc ++ [v]) (ds ++ [d]) := by
  obtain ⟨h2, hD, S, h3, h4, h5, h6⟩ := h
  have hDS : D ∉ S' := fun z => by
    have := k1.nw D z
    rw [hD] at this
    cases this
  have kp : Kp [D] H4 (upd H4 D (.lst (acc ++ [v]))) := Kp.upd (by simp) Kp.refl
  have ht : ∀ b ys, b ∈ [D] → H4 b ≠ some (.tup ys) := fun b ys hb e => by
    rw [List.mem_singleton.mp hb, k2 _ _ hD] at e
    cases e
  have hd1 : ∀ b, b ∈ S → b ∉ [D] := fun b hb hb' => h5 (by rw [← List.mem_singleton.mp hb']; exact hb)
  have hd2 : ∀ b, b ∈ S' → b ∉ [D] := fun b hb hb' => hDS (by rw [← List.mem_singleton.mp hb']; exact hb)
  refine ⟨Same.mut (h2.trans k2) nD, upd_same, S ++ S', OwAll.snoc (OwAll.kp ht kp (h3.same k2) hd1) (Ow.kp ht kp k1.ow hd2), ?_, ?_, ?_⟩
  · rw [List.nodup_append]
    refine ⟨h4, k1.nd, fun b hb c hc e => ?_⟩
    subst e
    obtain ⟨ys, e'⟩ := h3.lists b hb
    rw [k1.nw b hc] at e'
    cases e'
  · intro z
    rcases List.mem_append.mp z with z | z
    · exact h5 z
    · exact hDS z
  · intro b hb
    rcases List.mem_append.mp hb with z | z
    · exact h6 b z
    · exact h2.free (k1.nw b z)
theorem AccN.own {H1 H : Hp} {D : Addr} {acc : List V} {ds : List PyData} (nD : H1 D = none) (h : AccN H1 H D acc ds) : ∃ S, OwN H1 H (.ref D) (.list ds) S := by
  obtain ⟨h2, hD, S, h3, h4, h5, h6⟩ := h
  exact ⟨D :: S, .lst hD h3, List.nodup_cons.mpr ⟨h5, h4⟩, fun b hb => by
    rcases List.mem_cons.mp hb with z | z
    · rw [z]; exact nD
    · exact h6 b z⟩
theorem AccN.len {H1 H : Hp} {D : Addr} {acc : List V} {ds : List PyData} (h : AccN H1 H D acc ds) : acc.length = ds.length := by
  obtain ⟨_, _, S, h3, _⟩ := h
  exact h3.dq.len
/-- a row that is new -/
theorem row_new {H1 H G : Hp} {D : Addr} {L : List Fl} (q : Dq G (.ref D) (rowD L)) (n : Newly H1 G) (s : Same G H) : OwN H1 H (.ref D) (rowD L) [D] := by
  obtain ⟨a, xs, e, h1, h2⟩ := q.list_inv
  cases e
  exact ⟨.lst (s _ _ h1) (row_own (h2.same s)), by simp, fun b hb => by rw [List.mem_singleton.mp hb]; exact n.back' h1⟩
/-- each plan sends a host more to field f -/
def moreE (f : Int) (k : Nat) (e : Fl) : Fl := (e.1 + (if (k : Int) ≤ f then 1 else 0), e.2.1 + (if (k : Int) = f then 1 else 0), e.2.2)
def moreF (f : Int) (Ls : List (List Fl)) : List (List Fl) := Ls.zipIdx.map fun q => q.1.map (moreE f q.2)
theorem moreF_len {f : Int} {Ls : List (List Fl)} : (moreF f Ls).length = Ls.length := by simp [moreF]
theorem moreF_at {f : Int} {Ls : List (List Fl)} {k : Nat} : (moreF f Ls)[k]? = (Ls[k]?).map fun L => L.map (moreE f k) := by
  unfold moreF
  rw [List.getElem?_map, List.getElem?_zipIdx]
  cases Ls[k]? <;> simp
theorem moreF_take {f : Int} {Ls : List (List Fl)} {i : Nat} {L : List Fl} (h : Ls[i]? = some L) : (moreF f Ls).take (i + 1) = (moreF f Ls).take i ++ [L.map (moreE f i)] := take_snoc (by rw [moreF_at, h]; rfl)
/-! ### a row by the law's own look: no bound for hosts -/
def IsRowA (d : PyData) : Prop := ∃ h, IsRow h d
noncomputable def isRowAB (d : PyData) : Bool := @decide (IsRowA d) (Classical.propDecidable _)
theorem isRowA_iff {d : PyData} : isRowAB d = true ↔ IsRowA d := @decide_eq_true_iff _ (Classical.propDecidable _)
theorem isRowA_no {d : PyData} : isRowAB d = false ↔ ¬ IsRowA d := @decide_eq_false_iff_not _ (Classical.propDecidable _)
theorem rowA_nolist {d : PyData} (e : isLstD d = false) : isRowAB d = false := isRowA_no.mpr fun ⟨h, z⟩ => by
  have := row_nolist (h := h) e
  rw [isRow_no] at this
  exact this z
theorem rowA_nil : isRowAB (.list []) = false := isRowA_no.mpr fun ⟨h, z⟩ => isRow_no.mp (row_nil (h := h)) z
def FlOkA (e : Fl) : Prop := 0 ≤ e.2.1 ∧ e.2.1 ≤ e.1 ∧ 1 ≤ e.2.2
theorem rowA_nofl {ds : List PyData} {k : Nat} {d : PyData} (e : ds[k]? = some d) (c : ∀ x : Fl, d = flD x → ¬ FlOkA x) : isRowAB (.list ds) = false := isRowA_no.mpr fun ⟨h, z⟩ =>
  isRow_no.mp (row_nofl (h := h) e fun x ex ok => c x ex ⟨ok.1, ok.2.1, ok.2.2.2⟩) z
theorem flsA_of : ∀ {ds : List PyData}, (∀ d ∈ ds, ∃ e, d = flD e ∧ FlOkA e) → ∃ L : List Fl, ds = L.map flD ∧ ∀ e ∈ L, FlOkA e
  | [], _ => ⟨[], rfl, by simp⟩
  | d :: ds, g => by
    obtain ⟨e, rfl, h1⟩ := g d (by simp)
    obtain ⟨L, rfl, h2⟩ := flsA_of fun x hx => g x (List.mem_cons_of_mem _ hx)
    refine ⟨e :: L, rfl, fun x hx => ?_⟩
    rcases List.mem_cons.mp hx with rfl | z
    · exact h1
    · exact h2 x z
theorem big_host : ∀ L : List Fl, ∃ h : Int, ∀ e ∈ L, e.1 ≤ h
  | [] => ⟨0, by simp⟩
  | e :: L => by
    obtain ⟨h, g⟩ := big_host L
    refine ⟨max e.1 h, fun x hx => ?_⟩
    rcases List.mem_cons.mp hx with rfl | z
    · omega
    · have := g x z
      omega
theorem rowA_iff {L : List Fl} (ok : ∀ e ∈ L, FlOkA e) (ne : 1 ≤ L.length) : IsRowA (rowD L) ↔ ∀ (k : Nat) (a b : Fl), L[k]? = some a → L[k + 1]? = some b → lt2 a b := by
  constructor
  · rintro ⟨h, z⟩
    exact (row_iff.mp z).up
  · intro up
    obtain ⟨h, g⟩ := big_host L
    exact ⟨h, row_iff.mpr ⟨ne, fun e he => ⟨(ok e he).1, (ok e he).2.1, g e he, (ok e he).2.2⟩, up⟩⟩
theorem rowA_ok {L : List Fl} (h : IsRowA (rowD L)) : 1 ≤ L.length ∧ ∀ e ∈ L, FlOkA e := by
  obtain ⟨h, z⟩ := h
  have g := row_iff.mp z
  exact ⟨g.ne, fun e he => ⟨(g.ok e he).1, (g.ok e he).2.1, (g.ok e he).2.2.2⟩⟩
theorem rowA_g {L : List Fl} {h : Int} (z : IsRowA (rowD L)) (b : ∀ e ∈ L, e.1 ≤ h) : RowG h L := by
  obtain ⟨h', z⟩ := z
  have g := row_iff.mp z
  exact ⟨g.ne, fun e he => ⟨(g.ok e he).1, (g.ok e he).2.1, b e he, (g.ok e he).2.2.2⟩, g.up⟩
theorem anystr_law {Ls : List (List Fl)} {L0 : List Fl} {e0 : Fl} (rows : ∀ L ∈ Ls, IsRowA (rowD L)) (h0 : Ls[0]? = some L0) (h1 : L0[0]? = some e0) (hl : Ls.length ≤ 8) :
    AnyStr (strD Ls) ↔ e0.1 ≤ 40 ∧ (∀ e ∈ L0, e.1 = e0.1) ∧ (∀ (k : Nat) (A B : List Fl), Ls[k]? = some A → Ls[k + 1]? = some B → ∀ x, tkF B x = gnF A x) ∧ ∀ L, Ls[Ls.length - 1]? = some L → ∀ e ∈ L, e.1 = e.2.1 := by
  constructor
  · rintro ⟨h, Ms, e, g, g1, _⟩
    obtain rfl := strD_inj e
    have f := g.pre.first L0 h0
    have fe := f e0 (List.mem_of_getElem? h1)
    refine ⟨by omega, fun x hx => by rw [f x hx, fe], g.pre.link, fun L hL x hx => ?_⟩
    have := g.last L hL x hx
    omega
  · rintro ⟨a1, a2, a3, a4⟩
    have bound : ∀ (k : Nat) (L : List Fl), Ls[k]? = some L → ∀ e ∈ L, e.1 ≤ e0.1 := by
      intro k
      induction k with
      | zero =>
        intro L hL e he
        rw [h0] at hL
        cases hL
        rw [a2 e he]
        exact Int.le_refl _
      | succ k ih =>
        intro B hB e he
        have hk := (List.getElem?_eq_some_iff.mp hB).1
        have hA : Ls[k]? = some (Ls[k]'(by omega)) := List.getElem?_eq_getElem _
        have rA := rowA_ok (rows _ (List.mem_of_getElem? hA))
        have rB := rowA_ok (rows _ (List.mem_of_getElem? hB))
        have t : tkF B e.1 ≠ 0 := (tkF_ne (fun e he => (rB.2 e he).2.2) e.1).mpr ⟨e, he, rfl⟩
        rw [a3 k _ _ hA hB] at t
        obtain ⟨x, hx, ex⟩ := (gnF_ne (fun e he => (rA.2 e he).2.2) e.1).mp t
        have := ih _ hA x hx
        have := (rA.2 x hx).1
        omega
    have ne : 1 ≤ Ls.length := by
      have := (List.getElem?_eq_some_iff.mp h0).1
      omega
    refine ⟨e0.1, Ls, rfl, ⟨⟨rfl, by omega⟩, ⟨fun L hL => ?_, fun L hL e he => ?_, a3⟩, fun L hL e he => ?_⟩, a1, hl⟩
    · obtain ⟨k, hk, rfl⟩ := List.mem_iff_getElem.mp hL
      exact rowA_g (rows _ hL) (bound k _ (List.getElem?_eq_getElem hk))
    · rw [h0] at hL
      cases hL
      exact a2 e he
    · have := a4 L hL e he
      omega
theorem strA_norow {ds : List PyData} {k : Nat} {d : PyData} (e : ds[k]? = some d) (c : ¬ IsRowA d) : ¬ AnyStr (.list ds) := fun ⟨h, Ls, e1, g, _⟩ => by
  obtain ⟨L, h1, rfl⟩ := str_at e1 e
  exact c ⟨h, L, rfl, g.pre.rows L (List.mem_of_getElem? h1)⟩
theorem rowsA_of : ∀ {ds : List PyData}, (∀ d ∈ ds, IsRowA d) → ∃ Ls : List (List Fl), ds = Ls.map rowD ∧ ∀ L ∈ Ls, IsRowA (rowD L)
  | [], _ => ⟨[], rfl, by simp⟩
  | d :: ds, g => by
    obtain ⟨h, L, rfl, z⟩ := g d (by simp)
    obtain ⟨Ls, rfl, h2⟩ := rowsA_of fun x hx => g x (List.mem_cons_of_mem _ hx)
    refine ⟨L :: Ls, rfl, fun x hx => ?_⟩
    rcases List.mem_cons.mp hx with rfl | y
    · exact ⟨h, x, rfl, z⟩
    · exact h2 x y
section
variable {σ : L2.St} {H H1 : Hp} {Q : VK} {K : PySem.W.Frag} {D l : Addr} {g : TG} {tt : TT} {te : TE} {vs : List Nat} {xs : List V} {Qd : Hp → Prop}
/-- [x for x in xs if ..]: the things themselves -/
theorem lcL_keep {ds : List PyData} (b : Nat → Bool) (nD : H1 D = none) (hn : xs.length ≤ 1000000) (hx : SqL K H1 l xs) (q : DqAll H1 xs ds)
    (hs : ∀ (i : Nat) (x : V) H (Z : VK) (Y : Hp → Prop), xs[i]? = some x → Same H1 H → (b i = true → ∀ H4, Same H H4 → Z x H4) → (b i = false → ∀ H4, Same H H4 → Y H4) → LcTurn g tt te vs σ x H Z Y)
    (hd : ∀ acc es H, H D = some (.lst acc) → Same H1 H → DqAll H1 acc es → (∀ e ∈ es, e ∈ ds) → (es = [] ↔ ∀ i, i < xs.length → b i = false) → Qd H) :
    ∃ W : Nat → Nat → Hp → Prop, (∃ m, W 0 m (L2.upd H1 D (.lst []))) ∧ ∀ i m H, W i m H →
      ((Itl K l).stop i H ∧ Qd H) ∨ ((Itl K l).go i H ∧ ∃ Nx : Hp → Prop, (∀ H', Nx H' → ∃ m', m' < m ∧ W (i + 1) m' H') ∧ ∀ x H', (Itl K l).yld i H x H' → g x (wipe σ vs) H' fun σ2 H2 => wipe σ2 vs = wipe σ vs ∧ tt σ2 H2 fun b H3 =>
        if b = true then te σ2 H3 fun y H4 => ∃ acc, H4 D = some (.lst acc) ∧ acc.length < sizeLine ∧ Nx (L2.upd H4 D (.lst (acc ++ [y]))) else Nx H3) := by
  refine lcL (xs := xs) (fun i acc H => Same H1 H ∧ acc.length ≤ i ∧ ∃ es, DqAll H1 acc es ∧ (∀ e ∈ es, e ∈ ds) ∧ (es = [] ↔ ∀ j, j < i → b j = false)) nD ⟨Same.new nD, Nat.le_refl _, [], .nil, by simp, by simp⟩ (fun i acc H _ q _ => q.1.seq hx) ?_ ?_
  · rintro i x acc H Z Y hi ⟨r1, r2, es, r3, r4, r5⟩ hD hz hy
    have hi' : i < xs.length := (List.getElem?_eq_some_iff.mp hi).1
    obtain ⟨d, e1, e2⟩ := q.get' hi
    refine hs i x H Z Y hi r1 (fun e H4 s => hz _ _ (s _ _ hD) (sz4' (by omega)) ⟨Same.mut (r1.trans s) nD, by rw [List.length_append]; show _ + 1 ≤ _; omega, es ++ [d], DqAll.snoc r3 e2, fun y hy => ?_, ⟨fun c => by simp at c, fun c => ?_⟩⟩) (fun e H4 s => hy _ (s _ _ hD) ⟨r1.trans s, by omega, es, r3, r4, ?_⟩)
    · rcases List.mem_append.mp hy with z | z
      · exact r4 y z
      · rw [List.mem_singleton.mp z]
        exact List.mem_of_getElem? e1
    · rw [c i (by omega)] at e
      cases e
    · rw [r5]
      refine ⟨fun c j hj => ?_, fun c j hj => c j (by omega)⟩
      by_cases e' : j = i
      · rw [e']; exact e
      · exact c j (by omega)
  · rintro acc H ⟨r1, r2, es, r3, r4, r5⟩ hD
    exact hd acc es H hD r1 r3 r4 r5
end
theorem shaped_fls {es : List PyData} {L : List Fl} (h : ∀ e ∈ es, e ∈ L.map flD) : SeqAt.shaped (.list es) = true := by
  refine shaped_of ?_ ?_
  · rw [PyData.canLay0]
    exact lay_all fun d hd => by
      obtain ⟨e, _, rfl⟩ := List.mem_map.mp (h d hd)
      simp [flD, PyData.canLay0, PyData.canLayAll0]
  · have : depA es ≤ 1 := depA_le fun d hd => by
      obtain ⟨e, _, rfl⟩ := List.mem_map.mp (h d hd)
      simp [flD, dep, depA]
    rw [dep]
    omega
theorem eqv_nil' (ds : List PyData) : (!PyData.eqv (.list ds) (.list [])) = !decide (ds = []) := by rw [eqv_nil]
theorem shaped_mem {ds : List PyData} {d : PyData} (h : SeqAt.shaped (.list ds) = true) (hd : d ∈ ds) : SeqAt.shaped d = true := by
  unfold SeqAt.shaped at h
  rw [Bool.and_eq_true, decide_eq_true_eq] at h
  obtain ⟨h1, h2⟩ := h
  have l1 : PyData.canLayAll0 ds = true := by simpa [PyData.canLay0] using h1
  have l2 := lay_mem l1 hd
  rw [depth_dep h1] at h2
  have := depA_mem hd
  rw [dep] at h2
  exact shaped_of l2 (by omega)
/-! ### None is of no class -/
theorem sub_none {K : PySem.W.Frag} (C : Addr) : PySem.W.subIn K (.type "NoneType") (.ref C) = some false := by
  show (fastBuiltinMro "NoneType").map (fun l => l.contains (Value.ref C)) = some false
  have e : fastBuiltinMro "NoneType" = some [.type "NoneType", .type "object"] := by decide +kernel
  rw [e]
  rfl
theorem i_isXnone {K : PySem.W.Frag} {H : Hp} {Q : VK} {C : Addr} (c : ClsT K C) (ty : TyX K H .non (.type "NoneType")) (q : Q (.bl false) H) : rIsX K [.non, .ref C] H Q := i_isXo ty (kit_o c (sub_none C)) q
def grown (f : Nat) (m : List (List Int × Int)) : List (List Int × Int) := m.map fun pw => (pw.1.take f ++ [(pw.1[f]?).getD 0 + 1] ++ pw.1.drop (f + 1), pw.2)
theorem sum_set : ∀ {p : List Int} {i : Nat} {z : Int}, i < p.length → (p.set i z).sum = p.sum - (p[i]?).getD 0 + z
  | [], i, z, h => by simp at h
  | x :: p, 0, z, _ => by
    rw [List.set_cons_zero, List.sum_cons, List.sum_cons, List.getElem?_cons_zero]
    show z + p.sum = x + p.sum - x + z
    omega
  | x :: p, i + 1, z, h => by
    have ih := sum_set (p := p) (i := i) (z := z) (by simpa using h)
    rw [List.set_cons_succ, List.sum_cons, List.sum_cons, ih, List.getElem?_cons_succ]
    omega
theorem grown_set {p : List Int} {f : Nat} {z : Int} (h : f < p.length) : p.take f ++ [z] ++ p.drop (f + 1) = p.set f z := by
  rw [List.set_eq_take_append_cons_drop, if_pos h, List.append_assoc]
  rfl
theorem grown_key {p : List Int} {f k : Nat} (hf : f < p.length) (hk : k < p.length) : keyAt (p.take f ++ [(p[f]?).getD 0 + 1] ++ p.drop (f + 1)) k = ((keyAt p k).1 + (if (k : Int) ≤ (f : Nat) then 1 else 0), (keyAt p k).2 + (if (k : Int) = (f : Nat) then 1 else 0)) := by
  rw [grown_set hf]
  unfold keyAt
  refine Prod.ext ?_ ?_
  · show ((p.set f _).drop k).sum = (p.drop k).sum + _
    by_cases c : k ≤ f
    · have e : (p.set f ((p[f]?).getD 0 + 1)).drop k = (p.drop k).set (f - k) ((p[f]?).getD 0 + 1) := by
        rw [List.drop_set, if_neg (by omega)]
      rw [e, sum_set (by rw [List.length_drop]; omega), if_pos (by omega), List.getElem?_drop, show k + (f - k) = f by omega]
      omega
    · rw [List.drop_set, if_pos (by omega), if_neg (by omega)]
      omega
  · show ((p.set f _)[k]?).getD 0 = (p[k]?).getD 0 + _
    by_cases c : k = f
    · subst c
      rw [List.getElem?_set_self hk, if_pos rfl]
      rfl
    · rw [List.getElem?_set_ne (Ne.symm c), if_neg (by omega)]
      omega
theorem flow_grown {f k n : Nat} (hf : f < n) (hk : k < n) : ∀ {m : List (List Int × Int)}, (∀ pw ∈ m, pw.1.length = n) → ∀ l s, flowF (grown f m) k l s = flowF m k (l - (if (k : Int) ≤ (f : Nat) then 1 else 0)) (s - (if (k : Int) = (f : Nat) then 1 else 0))
  | [], _, _, _ => rfl
  | pw :: m, h, l, s => by
    have ih := flow_grown hf hk (m := m) (fun q hq => h q (List.mem_cons_of_mem _ hq)) l s
    have hl := h pw List.mem_cons_self
    show (if keyAt (pw.1.take f ++ [(pw.1[f]?).getD 0 + 1] ++ pw.1.drop (f + 1)) k = (l, s) then pw.2 else 0) + flowF (grown f m) k l s = (if keyAt pw.1 k = (_, _) then pw.2 else 0) + flowF m k _ _
    rw [ih, grown_key (by omega) (by omega)]
    congr 1
    generalize (if (k : Int) ≤ (f : Nat) then (1 : Int) else 0) = a
    generalize (if (k : Int) = (f : Nat) then (1 : Int) else 0) = b
    by_cases c : keyAt pw.1 k = (l - a, s - b)
    · rw [if_pos c, if_pos (by rw [c]; refine Prod.ext ?_ ?_ <;> (show _ - _ + _ = _; omega))]
    · rw [if_neg c, if_neg (fun z => c (by
        have z1 : (keyAt pw.1 k).1 + a = l := congrArg Prod.fst z
        have z2 : (keyAt pw.1 k).2 + b = s := congrArg Prod.snd z
        refine Prod.ext ?_ ?_
        · show (keyAt pw.1 k).1 = l - a
          omega
        · show (keyAt pw.1 k).2 = s - b
          omega))]
theorem StrOf.more {m : List (List Int × Int)} {n f : Nat} {Ls : List (List Fl)} (r : StrOf m n Ls) (hf : f < n) (hm : ∀ pw ∈ m, pw.1.length = n) : StrOf (grown f m) n (moreF (f : Nat) Ls) := by
  refine ⟨by rw [moreF_len, r.len], fun k L' hL' => ?_⟩
  rw [moreF_at] at hL'
  cases e : Ls[k]? with
  | none => rw [e] at hL'; cases hL'
  | some L =>
    rw [e] at hL'
    cases hL'
    have rr := r.row k L e
    have hk : k < n := by rw [← r.len]; exact (List.getElem?_eq_some_iff.mp e).1
    have fl := flow_grown hf hk hm
    unfold moreE
    generalize ha : (if (k : Int) ≤ (f : Nat) then (1 : Int) else 0) = a at *
    generalize hb : (if (k : Int) = (f : Nat) then (1 : Int) else 0) = b at *
    refine ⟨?_, fun e' => ?_⟩
    · rw [List.pairwise_map]
      refine rr.st.imp fun {x y} h => ?_
      unfold lt2 at h ⊢
      show x.1 + a < y.1 + a ∨ (x.1 + a = y.1 + a ∧ x.2.1 + b < y.2.1 + b)
      omega
    · rw [fl]
      constructor
      · intro h
        obtain ⟨x, hx, rfl⟩ := List.mem_map.mp h
        have := (rr.mem x).mp hx
        show x.2.2 = flowF m k (x.1 + a - a) (x.2.1 + b - b) ∧ flowF m k (x.1 + a - a) (x.2.1 + b - b) ≠ 0
        rw [show x.1 + a - a = x.1 by omega, show x.2.1 + b - b = x.2.1 by omega]
        exact this
      · intro h
        refine List.mem_map.mpr ⟨(e'.1 - a, e'.2.1 - b, e'.2.2), (rr.mem _).mpr h, ?_⟩
        refine Prod.ext ?_ (Prod.ext ?_ rfl)
        · show e'.1 - a + a = e'.1
          omega
        · show e'.2.1 - b + b = e'.2.1
          omega
theorem MixOk.grown {h : Int} {n f : Nat} {m : List (List Int × Int)} (k : MixOk h n m) (hf : f < n) (hh : h ≤ 39) : MixOk (h + 1) n (grown f m) := by
  refine ⟨by rw [Hf.grown, List.length_map]; exact k.ne, k.fl, by have := k.ho; omega, fun pw hp => ?_⟩
  obtain ⟨q, hq, rfl⟩ := List.mem_map.mp hp
  obtain ⟨⟨h1, h2, h3⟩, h4⟩ := k.pl q hq
  refine ⟨⟨?_, ?_, fun x hx => ?_⟩, h4⟩
  · show (q.1.take f ++ [(q.1[f]?).getD 0 + 1] ++ q.1.drop (f + 1)).length = n
    rw [grown_set (by omega), List.length_set]
    exact h1
  · show (q.1.take f ++ [(q.1[f]?).getD 0 + 1] ++ q.1.drop (f + 1)).sum = h + 1
    rw [grown_set (by omega), sum_set (by omega)]
    omega
  · have hx : x ∈ q.1.take f ++ [(q.1[f]?).getD 0 + 1] ++ q.1.drop (f + 1) := hx
    rw [grown_set (by omega)] at hx
    rcases List.mem_or_eq_of_mem_set hx with z | z
    · exact h3 x z
    · have : 0 ≤ (q.1[f]?).getD 0 := by
        rw [List.getElem?_eq_getElem (by omega)]
        exact h3 _ (List.getElem_mem (by omega))
      omega
/-- the stream that the law holds beside -/
theorem any_lit : AnyStr (strD [[(2, 0, 3), (2, 1, 1)], [(1, 1, 1), (2, 2, 3)]]) := by
  have rows : ∀ (a b c d : Int × Int × Int), FlOk 2 a → FlOk 2 b → lt2 a b → RowG 2 [a, b] := fun a b _ _ h1 h2 h3 => ⟨by simp, fun e he => by
    simp only [List.mem_cons, List.not_mem_nil, or_false] at he
    rcases he with rfl | rfl <;> assumption, fun k x y e1 e2 => by
    have hk : k + 1 < 2 := (List.getElem?_eq_some_iff.mp e2).1
    obtain rfl : k = 0 := by omega
    cases e1
    cases e2
    exact h3⟩
  refine ⟨2, _, rfl, ⟨⟨rfl, by decide⟩, ⟨fun L hL => ?_, fun L hL e he => ?_, fun k A B hA hB x => ?_⟩, fun L hL e he => ?_⟩, by decide, by decide⟩
  · simp only [List.mem_cons, List.not_mem_nil, or_false] at hL
    rcases hL with rfl | rfl
    · exact rows _ _ (0, 0, 0) (0, 0, 0) (by unfold FlOk; decide) (by unfold FlOk; decide) (by unfold lt2; decide)
    · exact rows _ _ (0, 0, 0) (0, 0, 0) (by unfold FlOk; decide) (by unfold FlOk; decide) (by unfold lt2; decide)
  · cases hL
    simp only [List.mem_cons, List.not_mem_nil, or_false] at he
    rcases he with rfl | rfl <;> rfl
  · have hk : k + 1 < 2 := (List.getElem?_eq_some_iff.mp hB).1
    obtain rfl : k = 0 := by omega
    cases hA
    cases hB
    show addI (addI zF 1 1) 2 3 x = addI (addI zF (2 - 0) 3) (2 - 1) 1 x
    unfold addI zF
    by_cases c1 : x = 1
    · subst c1; decide
    · by_cases c2 : x = 2
      · subst c2; decide
      · simp [c1, c2]
  · cases hL
    simp only [List.mem_cons, List.not_mem_nil, or_false] at he
    rcases he with rfl | rfl <;> rfl
end Hf
/-! ## a list of lists that are one's own, the things in them anyone's -/
namespace Hf
open PySem PySem.Spec PyProof.Rows L2
structure FlatR (S : List Addr) (H : Hp) (D : Addr) (rs : List Addr) (dss : List (List PyData)) : Prop where
  hD : H D = some (.lst (rs.map V.ref))
  nd : (D :: rs).Nodup
  out : ∀ r, r ∈ D :: rs → r ∉ S
  len : rs.length = dss.length
  row : ∀ (k : Nat) r ds, rs[k]? = some r → dss[k]? = some ds → ∃ ys, H r = some (.lst ys) ∧ DqAll (hid (S ++ D :: rs) H) ys ds
section
variable {S : List Addr} {H H' : Hp} {D a p r : Addr} {rs : List Addr} {dss : List (List PyData)} {o : HO}
theorem FlatR.empty {H1 : Hp} (nD : H1 D = none) (hS : ∀ b, b ∈ S → ∃ o, H1 b = some o) (h : H D = some (.lst [])) : FlatR S H D [] [] := by
  refine ⟨h, by simp, fun r hr hs => ?_, rfl, fun k r ds e _ => by simp at e⟩
  obtain ⟨o, e⟩ := hS r hs
  rw [List.mem_singleton.mp hr, nD] at e
  cases e
theorem FlatR.same (h : FlatR S H D rs dss) (s : Same H H') : FlatR S H' D rs dss := ⟨s _ _ h.hD, h.nd, h.out, h.len, fun k r ds e1 e2 => by
  obtain ⟨ys, q1, q2⟩ := h.row k r ds e1 e2
  exact ⟨ys, s _ _ q1, q2.same (hid_mono s)⟩⟩
theorem FlatR.but (h : FlatR S H D rs dss) (ha : a ∈ S) (s : But a H H') : FlatR S H' D rs dss := ⟨s _ _ (fun e => h.out D (by simp) (by rw [e]; exact ha)) h.hD, h.nd, h.out, h.len, fun k r ds e1 e2 => by
  obtain ⟨ys, q1, q2⟩ := h.row k r ds e1 e2
  refine ⟨ys, s _ _ (fun e => h.out r (List.mem_cons_of_mem _ (List.mem_of_getElem? e1)) (by rw [e]; exact ha)) q1, q2.same (hid_but (List.mem_append_left _ ha) s)⟩⟩
theorem FlatR.at (h : FlatR S H D rs dss) {k : Nat} {ds : List PyData} (e : dss[k]? = some ds) : ∃ r ys, rs[k]? = some r ∧ H r = some (.lst ys) ∧ DqAll (hid (S ++ D :: rs) H) ys ds := by
  have hk := (List.getElem?_eq_some_iff.mp e).1
  have e1 : rs[k]? = some (rs[k]'(by rw [h.len]; exact hk)) := List.getElem?_eq_getElem _
  obtain ⟨ys, q1, q2⟩ := h.row k _ ds e1 e
  exact ⟨_, ys, e1, q1, q2⟩
theorem nodup_at {α : Type} {xs : List α} (h : xs.Nodup) {i j : Nat} {x : α} (h1 : xs[i]? = some x) (h2 : xs[j]? = some x) : i = j := by
  obtain ⟨a1, b1⟩ := List.getElem?_eq_some_iff.mp h1
  obtain ⟨a2, b2⟩ := List.getElem?_eq_some_iff.mp h2
  rcases Nat.lt_trichotomy i j with c | c | c
  · exact absurd (b1.trans b2.symm) (List.pairwise_iff_getElem.mp h i j a1 a2 c)
  · exact c
  · exact absurd (b2.trans b1.symm) (List.pairwise_iff_getElem.mp h j i a2 a1 c)
theorem FlatR.has (h : FlatR S H D rs dss) : ∀ b, b ∈ D :: rs → ∃ o, H b = some o := fun b hb => by
  rcases List.mem_cons.mp hb with z | z
  · exact ⟨_, by rw [z]; exact h.hD⟩
  · obtain ⟨k, hk, e⟩ := List.mem_iff_getElem.mp z
    obtain ⟨ys, q1, _⟩ := h.row k b _ (by rw [List.getElem?_eq_getElem hk, e]) (List.getElem?_eq_getElem (by rw [← h.len]; exact hk))
    exact ⟨_, q1⟩
/-- one of the lists written anew -/
theorem FlatR.put (h : FlatR S H D rs dss) {k : Nat} (e : rs[k]? = some r) {ys : List V} {ds : List PyData} (q : DqAll (hid (S ++ D :: rs) H) ys ds) : FlatR S (L2.upd H r (.lst ys)) D rs (dss.set k ds) := by
  have hr := List.mem_of_getElem? e
  have nDr : D ≠ r := fun c => by
    have := h.nd
    rw [List.nodup_cons] at this
    exact this.1 (by rw [c]; exact hr)
  have mono : Same (hid (S ++ D :: rs) H) (hid (S ++ D :: rs) (L2.upd H r (.lst ys))) := hid_upd (List.mem_append_right _ (List.mem_cons_of_mem _ hr))
  refine ⟨lk_upd nDr h.hD, h.nd, h.out, by rw [List.length_set]; exact h.len, fun j r' ds' e1 e2 => ?_⟩
  by_cases c : j = k
  · subst c
    rw [e] at e1
    cases e1
    have hk : j < dss.length := by rw [← h.len]; exact (List.getElem?_eq_some_iff.mp e).1
    rw [List.getElem?_set_self hk] at e2
    cases e2
    exact ⟨ys, upd_same, q.same mono⟩
  · rw [List.getElem?_set_ne (Ne.symm c)] at e2
    obtain ⟨zs, q1, q2⟩ := h.row j r' ds' e1 e2
    have nd := h.nd
    rw [List.nodup_cons] at nd
    refine ⟨zs, lk_upd (fun z => c (nodup_at nd.2 e1 (by rw [z]; exact e))) q1, q2.same mono⟩
theorem FlatR.dqsD (h : FlatR S H D rs dss) : DqAll (hid (S ++ [D]) H) (rs.map V.ref) (dss.map PyData.list) := by
  have nd := h.nd
  rw [List.nodup_cons] at nd
  have key : ∀ (n : Nat), n ≤ rs.length → DqAll (hid (S ++ [D]) H) ((rs.take n).map V.ref) ((dss.take n).map PyData.list) := by
    intro n
    induction n with
    | zero => intro _; exact .nil
    | succ n ih =>
      intro hn
      have e1 : rs[n]? = some (rs[n]'(by omega)) := List.getElem?_eq_getElem _
      have e2 : dss[n]? = some (dss[n]'(by rw [← h.len]; omega)) := List.getElem?_eq_getElem _
      obtain ⟨ys, q1, q2⟩ := h.row n _ _ e1 e2
      rw [take_snoc e1, take_snoc e2, List.map_append, List.map_append]
      refine DqAll.snoc (ih (by omega)) (.lst (hid_lk (fun c => ?_) q1) (q2.same (hid_less fun b hb => ?_)))
      · rcases List.mem_append.mp c with z | z
        · exact h.out _ (List.mem_cons_of_mem _ (List.getElem_mem _)) z
        · exact nd.1 (by rw [← List.mem_singleton.mp z]; exact List.getElem_mem _)
      · rcases List.mem_append.mp hb with z | z
        · exact List.mem_append_left _ z
        · exact List.mem_append_right _ (by rw [List.mem_singleton.mp z]; simp)
  have := key rs.length (Nat.le_refl _)
  rw [List.take_length, h.len, List.take_length] at this
  exact this
theorem FlatR.dqs (h : FlatR S H D rs dss) : DqAll (hid S H) (rs.map V.ref) (dss.map PyData.list) := h.dqsD.same (hid_less fun b hb => List.mem_append_left _ hb)
theorem FlatR.dq (h : FlatR S H D rs dss) : Dq (hid S H) (.ref D) (.list (dss.map PyData.list)) := .lst (hid_lk (h.out D (by simp)) h.hD) h.dqs
/-- one list more -/
theorem FlatR.push (h : FlatR S H D rs dss) {H1 : Hp} (s : Same H H1) (nr : H r = none) (hS : ∀ b, b ∈ S → ∃ o, H b = some o) {ys : List V} {ds : List PyData} (e : H1 r = some (.lst ys)) (q : DqAll (hid (S ++ D :: rs) H) ys ds) : FlatR S (L2.upd H1 D (.lst (rs.map V.ref ++ [.ref r]))) D (rs ++ [r]) (dss ++ [ds]) := by
  have nrD : r ≠ D := fun c => by rw [c, h.hD] at nr; cases nr
  have nrs : r ∉ rs := fun c => by
    obtain ⟨k, hk, e⟩ := List.mem_iff_getElem.mp c
    have e1 : rs[k]? = some r := by rw [List.getElem?_eq_getElem hk, e]
    have e2 : dss[k]? = some (dss[k]'(by rw [← h.len]; exact hk)) := List.getElem?_eq_getElem _
    obtain ⟨zs, q1, _⟩ := h.row k r _ e1 e2
    rw [nr] at q1
    cases q1
  have nrS : r ∉ S := fun c => by
    obtain ⟨o, e⟩ := hS r c
    rw [nr] at e
    cases e
  have sm : Same (hid (S ++ D :: rs) H) (hid (S ++ D :: (rs ++ [r])) (L2.upd H1 D (.lst (rs.map V.ref ++ [.ref r])))) := by
    refine Same.trans (H1 := hid (S ++ D :: (rs ++ [r])) H) (fun b o hb => ?_) ((hid_mono s).trans (hid_upd (by simp)))
    have n1 : b ∉ S ++ D :: rs := fun c => by rw [hid_in c] at hb; cases hb
    rw [hid_out n1] at hb
    have n2 : b ≠ r := fun c => by rw [c, nr] at hb; cases hb
    rw [hid_out fun c => ?_]
    · exact hb
    · rcases List.mem_append.mp c with z | z
      · exact n1 (List.mem_append_left _ z)
      · rcases List.mem_cons.mp z with z | z
        · exact n1 (List.mem_append_right _ (by rw [z]; simp))
        · rcases List.mem_append.mp z with z | z
          · exact n1 (List.mem_append_right _ (List.mem_cons_of_mem _ z))
          · exact n2 (List.mem_singleton.mp z)
  have nd := h.nd
  refine ⟨by rw [List.map_append]; exact upd_same, ?_, fun b hb => ?_, by simp [h.len], fun k r' ds' e1 e2 => ?_⟩
  · rw [List.nodup_cons] at nd ⊢
    refine ⟨fun c => ?_, ?_⟩
    · rcases List.mem_append.mp c with z | z
      · exact nd.1 z
      · exact nrD (List.mem_singleton.mp z).symm
    · rw [List.nodup_append]
      exact ⟨nd.2, by simp, fun x hx y hy c => nrs (by rw [← List.mem_singleton.mp hy, ← c]; exact hx)⟩
  · rcases List.mem_cons.mp hb with z | z
    · exact h.out b (by rw [z]; simp)
    · rcases List.mem_append.mp z with z | z
      · exact h.out b (List.mem_cons_of_mem _ z)
      · rw [List.mem_singleton.mp z]
        exact nrS
  · by_cases c : k < rs.length
    · rw [List.getElem?_append_left c] at e1
      rw [List.getElem?_append_left (by rw [← h.len]; exact c)] at e2
      obtain ⟨zs, q1, q2⟩ := h.row k r' ds' e1 e2
      rw [List.nodup_cons] at nd
      exact ⟨zs, lk_upd (fun z => nd.1 (by rw [← z]; exact List.mem_of_getElem? e1)) (s _ _ q1), q2.same sm⟩
    · rw [List.getElem?_append_right (by omega)] at e1
      rw [List.getElem?_append_right (by rw [← h.len]; omega)] at e2
      have hk : k - rs.length = 0 := by
        have := (List.getElem?_eq_some_iff.mp e1).1
        simp at this
        omega
      rw [hk] at e1
      rw [← h.len, hk] at e2
      cases e1
      cases e2
      exact ⟨ys, lk_upd nrD e, q.same sm⟩
end
/-! ### how deep and how long -/
def ItD (e : PyData) : Prop := e.canLay0 = true ∧ dep e ≤ 3 ∧ wid e ≤ 3
def EsD (es : List PyData) : Prop := (∀ e ∈ es, ItD e) ∧ es.length ≤ 200
def LnD (d : PyData) : Prop := d.canLay0 = true ∧ dep d ≤ 4 ∧ wid d ≤ 900
theorem ItD.fl (e : Fl) : ItD (flD e) := by simp [ItD, flD, PyData.canLay0, PyData.canLayAll0, dep, depA, Hf.wid, widA]
theorem ItD.ln {e : PyData} (h : ItD e) : LnD e := ⟨h.1, by have := h.2.1; omega, by have := h.2.2; omega⟩
theorem EsD.ln {es : List PyData} (h : EsD es) : LnD (.list es) := by
  have h1 : depA es ≤ 3 := depA_le fun d hd => (h.1 d hd).2.1
  have h2 : widA es ≤ 3 := widA_le fun d hd => (h.1 d hd).2.2
  have h3 := h.2
  refine ⟨?_, ?_, ?_⟩
  · rw [PyData.canLay0]
    exact lay_all fun d hd => (h.1 d hd).1
  · rw [dep]
    omega
  · rw [Hf.wid]
    omega
theorem EsD.tup {es : List PyData} (h : EsD es) : LnD (.tuple es) := by
  have h1 : depA es ≤ 3 := depA_le fun d hd => (h.1 d hd).2.1
  have h2 : widA es ≤ 3 := widA_le fun d hd => (h.1 d hd).2.2
  have h3 := h.2
  refine ⟨?_, ?_, ?_⟩
  · rw [PyData.canLay0]
    exact lay_all fun d hd => (h.1 d hd).1
  · rw [dep]
    omega
  · rw [Hf.wid]
    omega
theorem EsD.fls {L : List Fl} (h : L.length ≤ 100) : EsD (L.map flD) := ⟨fun e he => by
  obtain ⟨x, _, rfl⟩ := List.mem_map.mp he
  exact ItD.fl x, by rw [List.length_map]; omega⟩
theorem EsD.set {es : List PyData} {e : PyData} {k : Nat} (h : EsD es) (he : ItD e) : EsD (es.set k e) := ⟨fun x hx => by
  rcases List.mem_or_eq_of_mem_set hx with z | z
  · exact h.1 x z
  · rw [z]; exact he, by rw [List.length_set]; exact h.2⟩
theorem LnD.fin {ds : List PyData} (h : ∀ d ∈ ds, LnD d) (hl : ds.length ≤ 900) : SeqAt.shaped (.list ds) = true ∧ Hf.wid (.list ds) ≤ 1000 := by
  have h1 : depA ds ≤ 4 := depA_le fun d hd => (h d hd).2.1
  have h2 : widA ds ≤ 900 := widA_le fun d hd => (h d hd).2.2
  refine ⟨shaped_of ?_ ?_, ?_⟩
  · rw [PyData.canLay0]
    exact lay_all fun d hd => (h d hd).1
  · rw [dep]
    omega
  · rw [Hf.wid]
    omega
theorem LnD.sets {ds : List PyData} {d : PyData} {k : Nat} (h : ∀ d ∈ ds, LnD d) (hd : LnD d) : ∀ x ∈ ds.set k d, LnD x := fun x hx => by
  rcases List.mem_or_eq_of_mem_set hx with z | z
  · exact h x z
  · rw [z]; exact hd
theorem i_popAt {H : Hp} {Q : VK} {l : Addr} {xs : List V} {i : Int} {y : V} (h : H l = some (.lst xs)) (hl : xs.length ≤ 1000000) (h0 : 0 ≤ i) (hy : xs[i.toNat]? = some y) (q : Q y (L2.upd H l (.lst (xs.eraseIdx i.toNat)))) : rPopAt (.ref l) [.int i] H Q := by
  have hi := (List.getElem?_eq_some_iff.mp hy).1
  have e : ixN xs.length i = some i.toNat := by
    unfold ixN
    rw [if_pos h0, if_pos (by omega)]
  exact ⟨l, xs, i, _, y, rfl, rfl, h, by omega, by omega, (ixN_seq e).1, hy, q⟩
theorem DqAll.erase {H : Hp} {vs : List V} {ds : List PyData} (q : DqAll H vs ds) (k : Nat) : DqAll H (vs.eraseIdx k) (ds.eraseIdx k) := by
  rw [List.eraseIdx_eq_take_drop_succ, List.eraseIdx_eq_take_drop_succ]
  exact DqAll.append (q.take k) (q.drop (k + 1))
theorem ixN_in {n : Nat} {i : Int} (h0 : 0 ≤ i) (h1 : i < n) : ixN n i = some i.toNat := by
  unfold ixN
  rw [if_pos h0, if_pos h1]
end Hf
/-! ## lists of dicts of flows -/
namespace Hf
open PySem PySem.Spec PyProof.Rows L2
/-- a list of dicts that hold flows; all of it new to H0 -/
structure DsR (H0 H : Hp) (F : Addr) (rs : List Addr) (n : Nat) (fs : Nat → Int → Int → Int) (N : Nat → Nat) : Prop where
  hF : H F = some (.lst (rs.map V.ref))
  len : rs.length = n
  nd : (F :: rs).Nodup
  nw : ∀ b, b ∈ F :: rs → H0 b = none
  row : ∀ (k : Nat) r, rs[k]? = some r → ∃ kvs, H r = some (.dT kvs) ∧ FlD kvs (fs k) ∧ kvs.length ≤ N k
section
variable {H0 H H' : Hp} {F r : Addr} {rs : List Addr} {n : Nat} {N : Nat → Nat} {fs : Nat → Int → Int → Int}
theorem DsR.same (h : DsR H0 H F rs n fs N) (s : Same H H') : DsR H0 H' F rs n fs N := ⟨s _ _ h.hF, h.len, h.nd, h.nw, fun k r e => by
  obtain ⟨kvs, q1, q2⟩ := h.row k r e
  exact ⟨kvs, s _ _ q1, q2⟩⟩
theorem DsR.back {G : Hp} (h : DsR H0 H F rs n fs N) (s : Same G H0) : DsR G H F rs n fs N := ⟨h.hF, h.len, h.nd, fun b hb => s.free (h.nw b hb), h.row⟩
theorem DsR.at (h : DsR H0 H F rs n fs N) {k : Nat} (hk : k < n) : ∃ r kvs, rs[k]? = some r ∧ (rs.map V.ref)[k]? = some (.ref r) ∧ H r = some (.dT kvs) ∧ FlD kvs (fs k) ∧ kvs.length ≤ N k ∧ H0 r = none ∧ r ≠ F := by
  have e : rs[k]? = some (rs[k]'(by rw [h.len]; exact hk)) := List.getElem?_eq_getElem _
  obtain ⟨kvs, q1, q2, q3⟩ := h.row k _ e
  have nd := h.nd
  rw [List.nodup_cons] at nd
  exact ⟨_, kvs, e, by rw [List.getElem?_map, e]; rfl, q1, q2, q3, h.nw _ (List.mem_cons_of_mem _ (List.getElem_mem _)), fun c => nd.1 (by rw [← c]; exact List.getElem_mem _)⟩
theorem DsR.cast {gs : Nat → Int → Int → Int} {M : Nat → Nat} (h : DsR H0 H F rs n fs N) (e : ∀ k, k < n → fs k = gs k ∧ N k ≤ M k) : DsR H0 H F rs n gs M := ⟨h.hF, h.len, h.nd, h.nw, fun k r z => by
  obtain ⟨kvs, q1, q2, q3⟩ := h.row k r z
  have hk := (List.getElem?_eq_some_iff.mp z).1
  rw [h.len] at hk
  exact ⟨kvs, q1, by rw [← (e k hk).1]; exact q2, Nat.le_trans q3 (e k hk).2⟩⟩
/-- one of the dicts written anew -/
theorem DsR.put (h : DsR H0 H F rs n fs N) {k : Nat} (e : rs[k]? = some r) {kvs : List (List Key × V)} {f : Int → Int → Int} (q : FlD kvs f) {M : Nat} (l : kvs.length ≤ M) : DsR H0 (L2.upd H r (.dT kvs)) F rs n (fun j => if j = k then f else fs j) (fun j => if j = k then M else N j) := by
  have hr := List.mem_of_getElem? e
  have nd := h.nd
  rw [List.nodup_cons] at nd
  refine ⟨lk_upd (fun c => nd.1 (by rw [c]; exact hr)) h.hF, h.len, h.nd, h.nw, fun j r' e1 => ?_⟩
  by_cases c : j = k
  · subst c
    rw [e] at e1
    cases e1
    rw [if_pos rfl, if_pos rfl]
    exact ⟨kvs, upd_same, q, l⟩
  · obtain ⟨kws, q1, q2, q3⟩ := h.row j r' e1
    rw [if_neg c, if_neg c]
    exact ⟨kws, lk_upd (fun z => c (nodup_at nd.2 e1 (by rw [z]; exact e))) q1, q2, q3⟩
end
section
variable {σ : L2.St} {H H1 : Hp} {Q : VK} {K : PySem.W.Frag} {D l : Addr} {g : TG} {tt : TT} {te : TE} {vs : List Nat} {xs : List V} {Qd : Hp → Prop}
/-- [{} for x in xs] -/
theorem lcL_ds (nD : H1 D = none) (hn : xs.length ≤ 1000000) (hx : SqL K H1 l xs)
    (hs : ∀ (i : Nat) (x : V) H (Z : VK) (Y : Hp → Prop), xs[i]? = some x → Same H1 H → (∀ r, H r = none → Z (.ref r) (L2.upd H r (.dT []))) → LcTurn g tt te vs σ x H Z Y)
    (hd : ∀ rs H, DsR H1 H D rs xs.length (fun _ _ _ => 0) (fun _ => 0) → Same H1 H → Qd H) :
    ∃ W : Nat → Nat → Hp → Prop, (∃ m, W 0 m (L2.upd H1 D (.lst []))) ∧ ∀ i m H, W i m H →
      ((Itl K l).stop i H ∧ Qd H) ∨ ((Itl K l).go i H ∧ ∃ Nx : Hp → Prop, (∀ H', Nx H' → ∃ m', m' < m ∧ W (i + 1) m' H') ∧ ∀ x H', (Itl K l).yld i H x H' → g x (wipe σ vs) H' fun σ2 H2 => wipe σ2 vs = wipe σ vs ∧ tt σ2 H2 fun b H3 =>
        if b = true then te σ2 H3 fun y H4 => ∃ acc, H4 D = some (.lst acc) ∧ acc.length < sizeLine ∧ Nx (L2.upd H4 D (.lst (acc ++ [y]))) else Nx H3) := by
  refine lcL (xs := xs) (fun i acc H => Same H1 H ∧ ∃ rs : List Addr, acc = rs.map V.ref ∧ rs.length = i ∧ (D :: rs).Nodup ∧ (∀ b, b ∈ rs → H1 b = none) ∧ ∀ b, b ∈ rs → H b = some (.dT [])) nD ⟨Same.new nD, [], rfl, rfl, by simp, nofun, nofun⟩ (fun i acc H _ q _ => q.1.seq hx) ?_ ?_
  · rintro i x acc H Z Y hi ⟨h1, rs, rfl, h3, h4, h5, h6⟩ hD hz _
    have hi' : i < xs.length := (List.getElem?_eq_some_iff.mp hi).1
    refine hs i x H Z Y hi h1 fun r nr => ?_
    have rD : D ≠ r := ne_of_none hD nr
    have rrs : r ∉ rs := fun c => by
      have := h6 r c
      rw [nr] at this
      cases this
    rw [List.nodup_cons] at h4
    refine hz _ _ (lk_new nr hD) (sz4' (by rw [List.length_map]; omega)) ⟨Same.mut (h1.trans (Same.new nr)) nD, rs ++ [r], by rw [List.map_append]; rfl, by rw [List.length_append, h3]; rfl, ?_, ?_, ?_⟩
    · rw [List.nodup_cons, List.nodup_append]
      refine ⟨fun c => ?_, h4.2, by simp, fun a ha b hb e => rrs (by rw [← List.mem_singleton.mp hb, ← e]; exact ha)⟩
      rcases List.mem_append.mp c with z | z
      · exact h4.1 z
      · exact rD (List.mem_singleton.mp z)
    · intro b hb
      rcases List.mem_append.mp hb with z | z
      · exact h5 b z
      · rw [List.mem_singleton.mp z]; exact h1.free nr
    · intro b hb
      rcases List.mem_append.mp hb with z | z
      · exact lk_upd (fun c => h4.1 (by rw [← c]; exact z)) (lk_upd (fun c => rrs (by rw [← c]; exact z)) (h6 b z))
      · rw [List.mem_singleton.mp z]
        exact lk_upd (Ne.symm rD) upd_same
  · rintro acc H ⟨h1, rs, rfl, h3, h4, h5, h6⟩ hD
    exact hd rs H ⟨hD, h3, h4, fun b hb => by
      rcases List.mem_cons.mp hb with z | z
      · rw [z]; exact nD
      · exact h5 b z, fun k r e => ⟨[], h6 r (List.mem_of_getElem? e), .nil, Nat.le_refl _⟩⟩ h1
/-- owned things, each with what is to be known of it -/
theorem lcL_ownP (P : Nat → PyData → Prop) (nD : H1 D = none) (hn : xs.length ≤ 1000000) (hx : SqL K H1 l xs)
    (hs : ∀ (i : Nat) (x : V) H (Z : VK) (Y : Hp → Prop), xs[i]? = some x → Same H1 H → (∀ v d S H4, P i d → OwN H H4 v d S → Same H H4 → Z v H4) → LcTurn g tt te vs σ x H Z Y)
    (hd : ∀ ds S H, ds.length = xs.length → (∀ i d, ds[i]? = some d → P i d) → OwN H1 H (.ref D) (.list ds) S → Same H1 H → Qd H) :
    ∃ W : Nat → Nat → Hp → Prop, (∃ m, W 0 m (L2.upd H1 D (.lst []))) ∧ ∀ i m H, W i m H →
      ((Itl K l).stop i H ∧ Qd H) ∨ ((Itl K l).go i H ∧ ∃ Nx : Hp → Prop, (∀ H', Nx H' → ∃ m', m' < m ∧ W (i + 1) m' H') ∧ ∀ x H', (Itl K l).yld i H x H' → g x (wipe σ vs) H' fun σ2 H2 => wipe σ2 vs = wipe σ vs ∧ tt σ2 H2 fun b H3 =>
        if b = true then te σ2 H3 fun y H4 => ∃ acc, H4 D = some (.lst acc) ∧ acc.length < sizeLine ∧ Nx (L2.upd H4 D (.lst (acc ++ [y]))) else Nx H3) := by
  refine lcL (xs := xs) (fun i acc H => acc.length = i ∧ Same H1 H ∧ ∃ ds S, ds.length = i ∧ (∀ j d, ds[j]? = some d → P j d) ∧ OwAll H acc ds S ∧ S.Nodup ∧ D ∉ S ∧ ∀ b, b ∈ S → H1 b = none) nD ⟨rfl, Same.new nD, [], [], rfl, by simp, .nil, List.nodup_nil, by simp, nofun⟩ (fun i acc H _ q _ => q.2.1.seq hx) ?_ ?_
  · rintro i x acc H Z Y hi ⟨h1, h2, ds, S, l1, l2, h3, h4, h5, h6⟩ hD hz _
    have hi' : i < xs.length := (List.getElem?_eq_some_iff.mp hi).1
    refine hs i x H Z Y hi h2 fun v d S' H4 kd k1 k2 => ?_
    have hDS : D ∉ S' := fun z => by
      have := k1.nw D z
      rw [hD] at this
      cases this
    have kp : Kp [D] H4 (L2.upd H4 D (.lst (acc ++ [v]))) := Kp.upd (by simp) Kp.refl
    have ht : ∀ b ys, b ∈ [D] → H4 b ≠ some (.tup ys) := fun b ys hb e => by
      rw [List.mem_singleton.mp hb, k2 _ _ hD] at e
      cases e
    have hd1 : ∀ b, b ∈ S → b ∉ [D] := fun b hb hb' => h5 (by rw [← List.mem_singleton.mp hb']; exact hb)
    have hd2 : ∀ b, b ∈ S' → b ∉ [D] := fun b hb hb' => hDS (by rw [← List.mem_singleton.mp hb']; exact hb)
    refine hz _ _ (k2 _ _ hD) (sz4' (by omega)) ⟨by rw [List.length_append, h1]; rfl, Same.mut (h2.trans k2) nD, ds ++ [d], S ++ S', by rw [List.length_append, l1]; rfl, ?_, ?_, ?_, ?_, ?_⟩
    · intro j e he
      by_cases c : j < ds.length
      · rw [List.getElem?_append_left c] at he
        exact l2 j e he
      · rw [List.getElem?_append_right (by omega)] at he
        have : j - ds.length = 0 := by
          have := (List.getElem?_eq_some_iff.mp he).1
          simp at this
          omega
        rw [this] at he
        cases he
        rw [show j = i by omega]
        exact kd
    · exact OwAll.snoc (OwAll.kp ht kp (h3.same k2) hd1) (Ow.kp ht kp k1.ow hd2)
    · rw [List.nodup_append]
      refine ⟨h4, k1.nd, fun b hb c hc e => ?_⟩
      subst e
      obtain ⟨ys, e'⟩ := h3.lists b hb
      rw [k1.nw b hc] at e'
      cases e'
    · intro z
      rcases List.mem_append.mp z with z | z
      · exact h5 z
      · exact hDS z
    · intro b hb
      rcases List.mem_append.mp hb with z | z
      · exact h6 b z
      · exact h2.free (k1.nw b z)
  · rintro acc H ⟨h1, h2, ds, S, l1, l2, h3, h4, h5, h6⟩ hD
    exact hd ds (D :: S) H l1 l2 ⟨.lst hD h3, List.nodup_cons.mpr ⟨h5, h4⟩, fun b hb => by
      rcases List.mem_cons.mp hb with z | z
      · rw [z]; exact nD
      · exact h6 b z⟩ h2
end
theorem pick_all {α : Type} {F : α → PyData} {R : Nat → α → Prop} : ∀ {ds : List PyData}, (∀ i d, ds[i]? = some d → ∃ x, d = F x ∧ R i x) → ∃ xs : List α, ds = xs.map F ∧ ∀ i x, xs[i]? = some x → R i x
  | [], _ => ⟨[], rfl, by simp⟩
  | d :: ds, h => by
    obtain ⟨x, e, r⟩ := h 0 d rfl
    obtain ⟨xs, e2, r2⟩ := pick_all (R := fun i => R (i + 1)) (ds := ds) fun i d hd => h (i + 1) d hd
    refine ⟨x :: xs, by rw [e, e2]; rfl, fun i y hy => ?_⟩
    cases i with
    | zero => cases hy; exact r
    | succ i => exact r2 i y hy
theorem own_fl {H H1 : Hp} {a b c : Int} {q : Addr} : OwN H (L2.upd H1 q (.tup [.int a, .int b, .int c])) (.ref q) (flD (a, b, c)) [] := ⟨.tup upd_same (own_ints [a, b, c]), List.nodup_nil, nofun⟩
end Hf
/-! ## streams: how long their rows are; told streams as lists of own lists; mixes with plans turned about -/
namespace Hf
open PySem PySem.Spec PyProof.Rows L2
theorem nodup_sub {α : Type} [DecidableEq α] : ∀ {l m : List α}, l.Nodup → (∀ x ∈ l, x ∈ m) → l.length ≤ m.length
  | [], _, _, _ => Nat.zero_le _
  | x :: l, m, nd, h => by
    have hx := h x List.mem_cons_self
    have nd' := List.nodup_cons.mp nd
    have := nodup_sub (l := l) (m := m.erase x) nd'.2 fun y hy => by
      have : y ≠ x := fun e => nd'.1 (e ▸ hy)
      exact (List.mem_erase_of_ne this).mpr (h y (List.mem_cons_of_mem _ hy))
    have e := List.length_erase_of_mem hx
    have p := List.length_pos_of_mem hx
    rw [List.length_cons]
    omega
theorem RowF.len {m : List (List Int × Int)} {k : Nat} {L : List Fl} (r : RowF (flowF m k) L) (hw : ∀ pw ∈ m, 1 ≤ pw.2) : L.length ≤ m.length := by
  have nd := row_nodup r.st
  have := nodup_sub nd (m := m.map fun pw => keyAt pw.1 k) fun x hx => by
    obtain ⟨e, he, rfl⟩ := List.mem_map.mp hx
    obtain ⟨pw, h1, h2⟩ := (flowF_ne hw e.1 e.2.1).mp ((r.mem e).mp he).2
    exact List.mem_map.mpr ⟨pw, h1, h2⟩
  rwa [List.length_map, List.length_map] at this
theorem StrOf.rows {h : Int} {n : Nat} {m : List (List Int × Int)} {Ls : List (List Fl)} (r : StrOf m n Ls) (g : MixG h n m) : ∀ L ∈ Ls, L.length ≤ m.length := fun L hL => by
  obtain ⟨k, hk, rfl⟩ := List.mem_iff_getElem.mp hL
  exact (r.row k _ (List.getElem?_eq_getElem hk)).len fun pw hp => (g.pl pw hp).2
theorem StrOf.facts {h : Int} {n : Nat} {m : List (List Int × Int)} {Ls : List (List Fl)} (r : StrOf m n Ls) (g : MixG h n m) (hl : m.length ≤ 900) :
    SeqAt.shaped (strD Ls) = true ∧ wid (strD Ls) ≤ 1000 ∧ (∀ L ∈ Ls, L.length ≤ 900) ∧ 1 ≤ Ls.length ∧ Ls.length ≤ 8 := by
  have hn := g.fl
  have hr := r.rows g
  have e := r.len
  exact ⟨shaped_of (lay_str Ls) (by have := dep_str Ls; omega), wid_str (k := 1000) Ls (by omega) (fun L hL => by have := hr L hL; omega) (by decide), fun L hL => by have := hr L hL; omega, by omega, by omega⟩
/-! told streams: a list of own lists -/
theorem rows_flat {H : Hp} : ∀ {ys : List V} {Ls : List (List Fl)} {S : List Addr}, OwAll H ys (Ls.map rowD) S → S.Nodup → ∃ rs : List Addr, ys = rs.map V.ref ∧ rs.length = Ls.length ∧ rs.Nodup ∧ (∀ r ∈ rs, r ∈ S) ∧
    ∀ (k : Nat) (r : Addr) (L : List Fl), rs[k]? = some r → Ls[k]? = some L → ∃ zs, H r = some (.lst zs) ∧ DqAll H zs (L.map flD)
  | _, [], _, h, _ => by
    cases h
    exact ⟨[], rfl, rfl, List.nodup_nil, nofun, fun k r L e => by simp at e⟩
  | _, L :: Ls, _, h, nd => by
    cases h with
    | @cons v vs d ds S1 S2 h1 h2 =>
      obtain ⟨n1, n2, n3⟩ := List.nodup_append.mp nd
      obtain ⟨rs, rfl, q1, q2, q3, q4⟩ := rows_flat h2 n2
      obtain ⟨a, zs, rfl, e1, e2⟩ := h1.dq.list_inv
      have ha : a ∈ S1 := ow_self h1
      refine ⟨a :: rs, rfl, by simp [q1], List.nodup_cons.mpr ⟨fun hb => n3 a ha a (q3 a hb) rfl, q2⟩, fun r hr => ?_, fun k r M e3 e4 => ?_⟩
      · rcases List.mem_cons.mp hr with rfl | z
        · exact List.mem_append_left _ ha
        · exact List.mem_append_right _ (q3 r z)
      · cases k with
        | zero =>
          simp at e3 e4
          subst e3 e4
          exact ⟨zs, e1, e2⟩
        | succ k => exact q4 k r M (by simpa using e3) (by simpa using e4)
theorem OwN.flat {H0 H : Hp} {v : V} {Ls : List (List Fl)} {S : List Addr} (o : OwN H0 H v (strD Ls) S) : ∃ D rs, v = .ref D ∧ FlatR [] H D rs (Ls.map fun L => L.map flD) ∧ (∀ b ∈ D :: rs, H0 b = none) ∧ rs.length = Ls.length := by
  have ow := o.ow
  have nd := o.nd
  cases ow with
  | @lst a xs ds S' h q =>
    obtain ⟨n1, n2⟩ := List.nodup_cons.mp nd
    obtain ⟨rs, rfl, q1, q2, q3, q4⟩ := rows_flat q n2
    have lists : ∀ b xs, b ∈ [] ++ a :: rs → H b ≠ some (.tup xs) := fun b xs hb e => by
      rcases List.mem_cons.mp hb with z | z
      · rw [z, h] at e; cases e
      · obtain ⟨k, hk, rfl⟩ := List.mem_iff_getElem.mp z
        obtain ⟨zs, e1, _⟩ := q4 k _ _ (List.getElem?_eq_getElem hk) (List.getElem?_eq_getElem (by omega))
        rw [e1] at e; cases e
    refine ⟨a, rs, rfl, ⟨h, List.nodup_cons.mpr ⟨fun z => n1 (q3 a z), q2⟩, fun r _ => by simp, by rw [List.length_map, q1], fun k r es e1 e2 => ?_⟩, fun b hb => ?_, q1⟩
    · rw [List.getElem?_map] at e2
      cases e3 : Ls[k]? with
      | none => rw [e3] at e2; cases e2
      | some L =>
        rw [e3] at e2
        cases e2
        obtain ⟨zs, e4, e5⟩ := q4 k r L e1 e3
        exact ⟨zs, e4, (row_own e5).hid lists nofun⟩
    · rcases List.mem_cons.mp hb with z | z
      · rw [z]; exact o.nw a (by simp)
      · exact o.nw b (List.mem_cons_of_mem _ (q3 b z))
/-! mixes with plans turned about and weights doubled -/
def turnM (m : List (List Int × Int)) : List (List Int × Int) := m.map fun pw => (pw.1.reverse, 2 * pw.2)
theorem MixG.turn {h : Int} {n : Nat} {m : List (List Int × Int)} (g : MixG h n m) : MixG h n (turnM m) := ⟨by rw [turnM, List.length_map]; exact g.ne, g.fl, g.ho, fun pw hp => by
  obtain ⟨q, hq, rfl⟩ := List.mem_map.mp hp
  have := g.pl q hq
  refine ⟨⟨by rw [List.length_reverse]; exact this.1.1, by rw [List.sum_reverse]; exact this.1.2.1, fun x hx => this.1.2.2 x (List.mem_reverse.mp hx)⟩, by omega⟩⟩
/-! what the law looks at: one size for all -/
def sizeD (pw : List Int × Int) : PyData := .tuple [.int pw.1.length, .int pw.1.sum]
theorem eqv_size (a b : List Int × Int) : PyData.eqv (sizeD a) (sizeD b) = decide (a.1.length = b.1.length ∧ a.1.sum = b.1.sum) := by
  by_cases c1 : a.1.length = b.1.length
  · by_cases c2 : a.1.sum = b.1.sum
    · simp [sizeD, PyData.eqv, PyData.eqvAll, c1, c2]
    · simp [sizeD, PyData.eqv, PyData.eqvAll, c1, c2]
  · simp [sizeD, PyData.eqv, PyData.eqvAll, c1]
    intro z
    omega
theorem eqv_sizes (b : List Int × Int) : ∀ m : List (List Int × Int), PyData.eqvAll (m.map sizeD) (List.replicate m.length (sizeD b)) = decide (∀ pw ∈ m, pw.1.length = b.1.length ∧ pw.1.sum = b.1.sum)
  | [] => by simp [PyData.eqvAll]
  | a :: m => by
    rw [List.length_cons, List.replicate_succ, List.map_cons, PyData.eqvAll, eqv_sizes b m, eqv_size]
    by_cases c : a.1.length = b.1.length ∧ a.1.sum = b.1.sum <;> simp [c]
theorem shaped_sizes (ds : List PyData) (h : ∀ d ∈ ds, ∃ b, d = sizeD b) : SeqAt.shaped (.list ds) = true := by
  refine shaped_of (by
    rw [PyData.canLay0]
    refine lay_all fun d hd => ?_
    obtain ⟨b, rfl⟩ := h d hd
    simp [sizeD, PyData.canLay0, PyData.canLayAll0]) ?_
  rw [dep]
  have := depA_le (k := 1) (ds := ds) fun d hd => by
    obtain ⟨b, rfl⟩ := h d hd
    simp [sizeD, dep, depA]
  omega
def LawPart (pw : List Int × Int) : Prop := 1 ≤ pw.2 ∧ 1 ≤ pw.1.length ∧ pw.1.length ≤ 8 ∧ pw.1.sum ≤ 40 ∧ ∀ x ∈ pw.1, 0 ≤ x
theorem mix_law {m : List (List Int × Int)} {b : List Int × Int} (h0 : m[0]? = some b) (h : ∀ pw ∈ m, LawPart pw) : IsMix (mixD m) ↔ ∀ pw ∈ m, pw.1.length = b.1.length ∧ pw.1.sum = b.1.sum := by
  rw [mix_first h0]
  have hb := h b (List.mem_of_getElem? h0)
  constructor
  · intro g pw hp
    exact ⟨(g.pl pw hp).1.1, (g.pl pw hp).1.2.1⟩
  · intro e
    refine ⟨?_, ⟨hb.2.1, hb.2.2.1⟩, ?_, fun pw hp => ⟨⟨(e pw hp).1, (e pw hp).2, (h pw hp).2.2.2.2⟩, (h pw hp).1⟩⟩
    · exact (List.getElem?_eq_some_iff.mp h0).1
    · exact ⟨sum_nn0 hb.2.2.2.2, hb.2.2.2.1⟩
theorem mix_lawpart {m : List (List Int × Int)} (h : IsMix (mixD m)) {pw : List Int × Int} (hp : pw ∈ m) : LawPart pw := by
  obtain ⟨h, n, m', e, g⟩ := h
  obtain rfl := mixD_inj e
  have := g.pl pw hp
  have h1 := g.fl
  have h2 := g.ho
  refine ⟨this.2, by rw [this.1.1]; omega, by rw [this.1.1]; omega, by rw [this.1.2.1]; omega, this.1.2.2⟩
/-! a told stream, its first rows with 7 behind -/
def r7 (L : List Fl) : List PyData := L.map flD ++ [.int 7]
def part7 (Ls : List (List Fl)) (k : Nat) : List (List PyData) := (Ls.take k).map r7 ++ (Ls.drop k).map fun L => L.map flD
theorem part7_0 (Ls : List (List Fl)) : part7 Ls 0 = Ls.map fun L => L.map flD := by simp [part7]
theorem part7_at {Ls : List (List Fl)} {k : Nat} {L : List Fl} (h : Ls[k]? = some L) : (part7 Ls k)[k]? = some (L.map flD) := by
  have hk := (List.getElem?_eq_some_iff.mp h).1
  rw [part7, List.getElem?_append_right (by rw [List.length_map, List.length_take]; omega), List.length_map, List.length_take, show k - min k Ls.length = 0 by omega, List.getElem?_map, List.getElem?_drop, Nat.add_zero, h]
  rfl
theorem part7_set {Ls : List (List Fl)} {k : Nat} {L : List Fl} (h : Ls[k]? = some L) : (part7 Ls k).set k (L.map flD ++ [.int 7]) = part7 Ls (k + 1) := by
  have hk := (List.getElem?_eq_some_iff.mp h).1
  rw [part7, part7, List.set_append_right _ _ (by rw [List.length_map, List.length_take]; omega), List.length_map, List.length_take, show k - min k Ls.length = 0 by omega, drop_get h, take_snoc h, List.map_append, List.map_cons, List.set_cons_zero, List.append_assoc]
  rfl
theorem part7_drop {Ls : List (List Fl)} {k : Nat} (hk : k ≤ Ls.length) : ((part7 Ls k).map PyData.list).drop k = (Ls.drop k).map rowD := by
  rw [part7, List.map_append, List.drop_append_of_le_length (by simp; omega), List.drop_eq_nil_of_le (by simp; omega), List.nil_append, List.map_map]
  rfl
def row7 (L : List Fl) : PyData := .list (r7 L)
theorem part7_take {Ls : List (List Fl)} {k : Nat} (hk : k < Ls.length) : ((part7 Ls (k + 1)).map PyData.list).take k = (Ls.take k).map row7 := by
  rw [part7, List.map_append, List.take_append_of_le_length (by simp; omega), List.map_map, ← List.map_take, List.take_take, show min k (k + 1) = k by omega]
  rfl
theorem shaped_row7 (Ls : List (List Fl)) : SeqAt.shaped (.list (Ls.map row7)) = true := by
  have h : ∀ d ∈ Ls.map row7, d.canLay0 = true ∧ dep d ≤ 3 := fun d hd => by
    obtain ⟨L, _, rfl⟩ := List.mem_map.mp hd
    have h2 : ∀ e ∈ r7 L, e.canLay0 = true ∧ dep e ≤ 2 := fun e he => by
      rcases List.mem_append.mp he with z | z
      · obtain ⟨f, _, rfl⟩ := List.mem_map.mp z
        simp [flD, PyData.canLay0, PyData.canLayAll0, dep, depA]
      · rw [List.mem_singleton.mp z]
        simp [PyData.canLay0, dep]
    refine ⟨by rw [row7, PyData.canLay0]; exact lay_all fun e he => (h2 e he).1, ?_⟩
    rw [row7, dep]
    have := depA_le fun e he => (h2 e he).2
    omega
  refine shaped_of (by rw [PyData.canLay0]; exact lay_all fun d hd => (h d hd).1) ?_
  rw [dep]
  have := depA_le fun d hd => (h d hd).2
  omega
theorem shaped_rows (Ls : List (List Fl)) : SeqAt.shaped (.list (Ls.map rowD)) = true := shaped_of (lay_str Ls) (by have := dep_str Ls; rw [strD] at this; omega)
/-! a mix, its first parts turned about -/
def partT (m : List (List Int × Int)) (k : Nat) : List (List Int × Int) := (turnM m).take k ++ m.drop k
theorem partT_0 (m : List (List Int × Int)) : partT m 0 = m := by simp [partT]
theorem partT_len {m : List (List Int × Int)} : partT m m.length = turnM m := by
  rw [partT, List.drop_length, List.append_nil, List.take_of_length_le (by rw [turnM, List.length_map]; exact Nat.le_refl _)]
theorem partT_at {m : List (List Int × Int)} {k : Nat} {pw : List Int × Int} (h : m[k]? = some pw) : (partT m k)[k]? = some pw := by
  have hk := (List.getElem?_eq_some_iff.mp h).1
  rw [partT, List.getElem?_append_right (by rw [turnM, List.length_take, List.length_map]; omega), turnM, List.length_take, List.length_map, show k - min k m.length = 0 by omega, List.getElem?_drop, Nat.add_zero, h]
theorem partT_set {m : List (List Int × Int)} {k : Nat} {pw : List Int × Int} (h : m[k]? = some pw) : (partT m k).set k (pw.1.reverse, 2 * pw.2) = partT m (k + 1) := by
  have hk := (List.getElem?_eq_some_iff.mp h).1
  have ht : (turnM m)[k]? = some (pw.1.reverse, 2 * pw.2) := by rw [turnM, List.getElem?_map, h]; rfl
  rw [partT, partT, List.set_append_right _ _ (by rw [turnM, List.length_take, List.length_map]; omega), turnM, List.length_take, List.length_map, show k - min k m.length = 0 by omega, drop_get h, List.set_cons_zero, ← turnM, take_snoc ht, List.append_assoc]
  rfl
theorem i_pop {H : Hp} {Q : VK} {l : Addr} {xs : List V} {y : V} (h : H l = some (.lst xs)) (hy : xs[xs.length - 1]? = some y) (q : Q y (L2.upd H l (.lst xs.dropLast))) : rPop (.ref l) [] H Q := ⟨l, xs, y, rfl, rfl, h, hy, q⟩
theorem kp1 {H H' : Hp} {D : Addr} (s : But D H H') : Kp [D] H H' := fun b o hb h => s b o (fun e => hb (by rw [e]; simp)) h
theorem OwN.but {H0 H H' : Hp} {v : V} {d : PyData} {S : List Addr} {D : Addr} {xs : List V} {o : HO} (w : OwN H0 H v d S) (s : But D H H') (h : H D = some (.lst xs)) (h0 : H0 D = some o) : Dq H' v d := by
  refine (Ow.kp (T := [D]) (fun b ys hb e => ?_) (kp1 s) w.ow fun b hb hc => ?_).dq
  · rw [List.mem_singleton.mp hb, h] at e
    cases e
  · have := w.nw b hb
    rw [List.mem_singleton.mp hc, h0] at this
    cases this
theorem OwN.mixD {H0 H : Hp} {D : Addr} {m : List (List Int × Int)} {S : List Addr} {zs : List V} (w : OwN H0 H (.ref D) (Hf.mixD m) S) (h : H D = some (.lst zs)) : DqAll (hid [D] H) zs (m.map partD) := by
  have ow := w.ow
  have nd := w.nd
  cases ow with
  | @lst _ ys _ S' e q =>
    rw [h] at e
    cases e
    refine q.hid (fun b xs hb e => ?_) fun b hb hc => ?_
    · rw [List.mem_singleton.mp hb, h] at e
      cases e
    · rw [List.mem_singleton.mp hc] at hb
      exact (List.nodup_cons.mp nd).1 hb
end Hf
/-! ## x is True, x is not True (of truths) -/
namespace Hf
open PySem PySem.Spec PyProof.Rows L2
def rIsB : R2 := fun x y H Q => ∃ b c, x = .bl b ∧ y = .bl c ∧ Q (.bl (b == c)) H
def rNotB : R2 := fun x y H Q => ∃ b c, x = .bl b ∧ y = .bl c ∧ Q (.bl (!(b == c))) H
theorem op_isB {X : Cx} : OpR X (compareOp .Is) rIsB := by
  intro pins s σ H x y v u Q I rx ry h
  obtain ⟨b, c, rfl, rfl, q⟩ := h
  cases rx
  cases ry
  refine wpAny_is_plain rfl (fin_bl I q ?_)
  cases b <;> cases c <;> rfl
theorem op_notB {X : Cx} : OpR X (compareOp .IsNot) rNotB := by
  intro pins s σ H x y v u Q I rx ry h
  obtain ⟨b, c, rfl, rfl, q⟩ := h
  cases rx
  cases ry
  refine wpAny_isNot_plain rfl (fin_bl I q ?_)
  cases b <;> cases c <;> rfl
theorem i_isB {b c : Bool} {H : Hp} {Q : VK} (q : Q (.bl (b == c)) H) : rIsB (.bl b) (.bl c) H Q := ⟨b, c, rfl, rfl, q⟩
theorem i_notB {b c : Bool} {H : Hp} {Q : VK} (q : Q (.bl (!(b == c))) H) : rNotB (.bl b) (.bl c) H Q := ⟨b, c, rfl, rfl, q⟩
end Hf
/-! ## dicts by pairs of ints: pop(k), d[k] -= x, the keys that begin with a number; l[i] += x -/
namespace Hf
open PySem PySem.Spec PyProof.Rows L2
def rPopT1 : V → List V → Hp → VK → Prop := fun x xs H Q => ∃ (a : Addr) (kvs : List (List L2.Key × V)) (k : List L2.Key) (b : Addr) (v : V), x = .ref a ∧ xs = [.ref b] ∧ H a = some (.dT kvs) ∧ H b = some (.tup (k.map kV)) ∧ valV kvs k = some v ∧ Q v (L2.upd H a (.dT (dropK kvs k)))
theorem mt_popT1 {X : Cx} (hu : X.A.units + 1 < cLine) : MtR X "dict.pop" rPopT1 := by
  intro pins s σ H x xs v us Q I rx rxs h
  obtain ⟨a, kvs, k, b, v0, rfl, rfl, ha, hb, ev, q1⟩ := h
  cases rx
  obtain ⟨u1, rfl, r1⟩ := vals1 rxs
  cases r1
  obtain ⟨z, hd, xs', rel, dd⟩ := dt_of I.hok ha
  have hz : xs'.length ≤ sizeLine := by rw [← Paired.length rel]; exact z
  have r := rel.val k
  rw [ev] at r
  cases hp : atKey xs' k with
  | none =>
    rw [hp] at r
    exact (show False from r).elim
  | some p =>
    rw [hp] at r
    have rv : RelV v0 p.2 := r
    refine call_pop_heap (knd := tupleKind (mixKind X.prog X.w)) (k := k) (.inl rfl) (PySem.F.args_dict_pop_2 _ _) (tupleKind_room_in1 hu) (key_of I.hok hb) hd dd hp (fun h' dd' hs => ?_) hz
    obtain ⟨o, es, ep, hq, h2, h3, h4, _, h5⟩ := dd'
    have I2 : Inv X pins σ (L2.upd H a (.dT (dropK kvs k))) { s with heap := h', toks := s.toks + (tupleKind (mixKind X.prog X.w)).draws k } :=
      d_write I (by rw [ha]; exact True.intro) hs ⟨o, hq⟩ ⟨Nat.le_trans (dropK_le kvs k) z, hd, _, (L2.DX.KT_drop k rel).keeps (fun c ys ec => (by rw [L2.upd_ne (ne_of ec ha (fun z => nomatch z))]; exact ec)), o, es, ep, hq, h2, h3, h4, h5⟩
    exact ⟨v0, _, I2, rv, q1⟩
theorem i_bmD {K : PySem.W.Frag} {H : Hp} {p : Addr} {kvs : List (List L2.Key × V)} {A : Prop} (h : H p = some (.dT kvs)) (q : A) : tyV K "dict" (.ref p) H ∧ A := ⟨.inr (.inr (.inl ⟨rfl, .inr ⟨_, h⟩⟩)), q⟩
theorem i_popT1 {H : Hp} {Q : VK} {a b : Addr} {kvs : List (List L2.Key × V)} {i j : Int} {v : V} (ha : H a = some (.dT kvs)) (hb : H b = some (.tup [.int i, .int j])) (hv : valV kvs (k2 i j) = some v) (q : Q v (L2.upd H a (.dT (dropK kvs (k2 i j))))) : rPopT1 (.ref a) [.ref b] H Q := ⟨a, kvs, k2 i j, b, v, rfl, rfl, ha, hb, hv, q⟩
theorem i_daug {td ty tv : TE} {rd : V → V → Hp → VK → Prop} {nx bk ct : L2.St → Hp → Prop} {rt : VK} {σ : L2.St} {H : Hp} (h : td σ H fun x H1 => ty σ H1 fun y H2 => ∃ a v, x = .ref a ∧ DGet H2 a y (some v) ∧ tv σ H2 fun y2 H3 => rd v y2 H3 fun z H4 => ∃ H5, DPut H4 a y z H5 ∧ nx σ H5) : sDAug td ty tv rd ⟨nx, rt, bk, ct⟩ σ H := h
theorem i_dg2' {H : Hp} {a p : Addr} {kvs : List (List L2.Key × V)} {i j : Int} {v : V} {R : Addr → V → Prop} (h : H a = some (.dT kvs)) (e : H p = some (.tup [.int i, .int j])) (hv : valV kvs (k2 i j) = some v) (q : R a v) : ∃ a' v', V.ref a = .ref a' ∧ DGet H a' (.ref p) (some v') ∧ R a' v' := ⟨a, v, rfl, by
  have := DGet.t (k := k2 i j) h e
  rw [hv] at this
  exact this, q⟩
theorem i_dpa {H : Hp} {a p : Addr} {kvs : List (List L2.Key × V)} {i j : Int} {v : V} {Z : Hp → Prop} (h : H a = some (.dT kvs)) (e : H p = some (.tup [.int i, .int j])) (hz : kvs.length ≤ 1000000) (q : Z (L2.upd H a (.dT (putK kvs (k2 i j) v)))) : ∃ H5, DPut H a (.ref p) v H5 ∧ Z H5 := ⟨_, DPut.t (k := k2 i j) h e (sz4' hz), q⟩
theorem i_lenDT {H : Hp} {Q : VK} {a : Addr} {kvs : List (List L2.Key × V)} (h : H a = some (.dT kvs)) (q : Q (.int ((kvs.length : Nat) : Int)) H) : rLenT [.ref a] H Q := ⟨a, kvs, rfl, h, q⟩
theorem i_rSub {i j : Int} {H : Hp} {Q : VK} (q : Q (.int (i - j)) H) : rSub (.int i) (.int j) H Q := ⟨i, j, rfl, rfl, q⟩
theorem i_rAdd {i j : Int} {H : Hp} {Q : VK} (q : Q (.int (i + j)) H) : rAdd (.int i) (.int j) H Q := ⟨i, j, rfl, rfl, q⟩
/-! l[i] += x -/
theorem get_list {X : Cx} : PGet X (rIxL X.K) := by
  intro pins s σ H x y v u Q I rx ry h
  obtain ⟨p, xs, i, z, rfl, rfl, hq, he, q⟩ := h
  cases rx
  obtain ⟨t, rfl⟩ := ry
  obtain ⟨its, r, pl, hz⟩ := I.list hq
  obtain ⟨j, h1, h2, h3, h4, h5⟩ := atI_get he
  obtain ⟨w, ew, rw'⟩ := r.get h2
  have hl := r.length
  have hn := line63
  have fin : EP X pins σ Q w s := ⟨z, H, I, rw', q⟩
  by_cases h0 : 0 ≤ i
  · have hj : i.toNat = j := by
      rw [seqIndex_of h0 h5] at h1
      exact Option.some.inj h1
    exact wpAny_getItem_list pl.isList h0 (by omega) (by rw [hj]; simpa using ew) fin
  · have hj : (i + (its.toArray.size : Int)).toNat = j := by
      rw [seqIndex_neg (by omega) h4] at h1
      rw [List.size_toArray, ← hl]
      exact Option.some.inj h1
    exact wpAny_getItem_list_neg pl.isList (by omega) (by rw [List.size_toArray] <;> omega) (by omega) (by rw [hj]; simpa using ew) fin
theorem get_listK {X : Cx} (K : PySem.W.Frag) (e : X.K = K) : PGet X (rIxL K) := by subst e; exact get_list
theorem i_augS {to ti te : TE} {tget : V → V → Hp → VK → Prop} {tip : TIp} {tset : TSet} {nx bk ct : L2.St → Hp → Prop} {rt : VK} {σ : L2.St} {H : Hp} (h : to σ H fun o H1 => ti σ H1 fun i H2 => tget o i H2 fun x H3 => te σ H3 fun y H4 => tip x y H4 fun z H5 => tset o i z H5 fun H6 => nx σ H6) : tAugS to ti te tget tip tset ⟨nx, rt, bk, ct⟩ σ H := h
/-! the keys that begin with l -/
def keysAt (kvs : List (List L2.Key × V)) (l : Int) : List Int := ((kvs.map fun kv => keyP kv.1).filter fun p => decide (p.1 = l)).map Prod.snd
theorem i_lockKeys {td : TE} {g : TG} {tt : TT} {te : TE} {vs : List Nat} {σ : L2.St} {H : Hp} {Q : VK} {d : Addr} {kvs : List (List L2.Key × V)} (l : Int) (hd : H d = some (.dT kvs)) (hl : kvs.length ≤ 1000000) (hk : ∀ kv ∈ kvs, ∃ i j : Int, kv.1 = k2 i j)
    (ht : ∀ H' R, R (.ref d) H' → td σ H' R)
    (hs : ∀ (a b : Int) (q : Addr) (H' : Hp) (Z : VK) (Y : Hp → Prop), H' q = some (.tup [.int a, .int b]) → (a = l → Z (.int b) H') → (a ≠ l → Y H') → LcTurn g tt te vs σ (.ref q) H' Z Y)
    (hq : ∀ p H', H p = none → Same H H' → H' p = some (.lst ((keysAt kvs l).map V.int)) → Q (.ref p) H') : tLockE (tLc (iKeys td) g tt te vs) σ H Q := by
  refine ⟨d, .dT kvs, hd, trivial, fun od => ?_⟩
  refine i_lc (ht _ _ ⟨d, od, rfl, .inr ⟨kvs, L2.upd_same, ?_⟩⟩)
  intro D nD
  have nDd : D ≠ d := fun e => by rw [e, L2.upd_same] at nD; cases nD
  have nD' : H D = none := by rwa [L2.upd_ne nDd] at nD
  let acc : Nat → List V := fun i => (keysAt (kvs.take i) l).map V.int
  have accl : ∀ i, (acc i).length ≤ kvs.length := fun i => by
    show ((keysAt (kvs.take i) l).map V.int).length ≤ _
    rw [List.length_map, keysAt, List.length_map]
    refine Nat.le_trans (List.length_filter_le _ _) ?_
    rw [List.length_map, List.length_take]
    omega
  let P : Nat → Hp → Prop := fun i H' => H' = L2.upd (L2.upd H d (.frz od (.dT kvs))) D (.lst (acc i))
  refine ⟨fun i m H' => m = kvs.length - i ∧ i ≤ kvs.length ∧ P i H', ⟨kvs.length, by simp, Nat.zero_le _, rfl⟩, ?_⟩
  rintro i m H' ⟨rfl, hi, rfl⟩
  have hfz : (L2.upd (L2.upd H d (.frz od (.dT kvs))) D (.lst (acc i))) d = some (.frz od (.dT kvs)) := by rw [L2.upd_ne (fun e => nDd e.symm)]; exact L2.upd_same
  by_cases hlt : i < kvs.length
  · refine .inr ⟨⟨hfz, hlt⟩, P (i + 1), fun H' p' => ⟨kvs.length - (i + 1), by omega, rfl, hlt, p'⟩, fun x H' y => ?_⟩
    obtain ⟨rfl, k, v, q, e1, rfl, e2⟩ := y
    obtain ⟨a, b, ek⟩ := hk (k, v) (List.mem_of_getElem? e1)
    have ek' : k = k2 a b := ek
    subst ek'
    have et : kvs.take (i + 1) = kvs.take i ++ [(k2 a b, v)] := take_snoc e1
    refine hs a b q _ _ _ e2 (fun c => ?_) fun c => ?_
    · refine ⟨acc i, L2.upd_same, Nat.lt_of_le_of_lt (accl i) (sz4' hl), ?_⟩
      have ea : acc (i + 1) = acc i ++ [V.int b] := by
        show (keysAt (kvs.take (i + 1)) l).map V.int = (keysAt (kvs.take i) l).map V.int ++ [V.int b]
        have e9 : ([(k2 a b, v)].map fun kv : List L2.Key × V => keyP kv.1) = [(a, b)] := rfl
        rw [et, keysAt, keysAt, List.map_append, e9, List.filter_append, List.filter_cons_of_pos (by simp [c]), List.map_append, List.map_append]
        rfl
      show L2.upd (L2.upd (L2.upd H d (.frz od (.dT kvs))) D (.lst (acc i))) D (.lst (acc i ++ [V.int b])) = L2.upd (L2.upd H d (.frz od (.dT kvs))) D (.lst (acc (i + 1)))
      rw [ea]
      funext z
      by_cases cz : z = D
      · rw [cz, L2.upd_same, L2.upd_same]
      · rw [L2.upd_ne cz, L2.upd_ne cz, L2.upd_ne cz]
    · have ea : acc (i + 1) = acc i := by
        show (keysAt (kvs.take (i + 1)) l).map V.int = (keysAt (kvs.take i) l).map V.int
        have e9 : ([(k2 a b, v)].map fun kv : List L2.Key × V => keyP kv.1) = [(a, b)] := rfl
        rw [et, keysAt, keysAt, List.map_append, e9, List.filter_append, List.filter_cons_of_neg (by simp [c]), List.filter_nil, List.append_nil]
      show _ = L2.upd (L2.upd H d (.frz od (.dT kvs))) D (.lst (acc (i + 1)))
      rw [ea]
  · have e : i = kvs.length := by omega
    subst e
    refine .inl ⟨⟨hfz, Nat.le_refl _⟩, hfz, hq D _ nD' (fun b o h => ?_) ?_⟩
    · by_cases c : b = d
      · rw [c, L2.upd_same]
        rw [c, hd] at h
        exact h
      · have cD : b ≠ D := fun e => by rw [e, nD'] at h; cases h
        rw [L2.upd_ne c, L2.upd_ne cD, L2.upd_ne c]
        exact h
    · rw [L2.upd_ne nDd, L2.upd_same]
      show some (HO.lst ((keysAt (kvs.take kvs.length) l).map V.int)) = _
      rw [List.take_length]
/-! flows set anew -/
def setF (f : Int → Int → Int) (i j z : Int) : Int → Int → Int := fun a b => if a = i ∧ b = j then z else f a b
theorem FlD.set {kvs : List (List Key × V)} {f : Int → Int → Int} (h : FlD kvs f) {i j z : Int} (hz : 1 ≤ z) : FlD (putK kvs (k2 i j) (.int z)) (setF f i j z) := by
  have hnn := h.nn
  refine ⟨fun a b => ?_, fun kv hkv => ?_, ?_, fun a b => ?_⟩
  · unfold setF
    have := hnn a b
    split <;> omega
  · unfold putK at hkv
    split at hkv
    · obtain ⟨kv', h1, h2⟩ := List.mem_map.mp hkv
      obtain ⟨a, b, e1, e2⟩ := h.ks kv' h1
      rw [e1] at h2
      simp only at h2
      by_cases c : k2 a b = k2 i j
      · rw [if_pos c] at h2
        obtain ⟨rfl, rfl⟩ := k2_inj c
        refine ⟨a, b, ?_, ?_⟩
        · rw [← h2]
          unfold setF
          rw [if_pos ⟨rfl, rfl⟩]
        · unfold setF
          rw [if_pos ⟨rfl, rfl⟩]
          omega
      · rw [if_neg c] at h2
        have : ¬ (a = i ∧ b = j) := fun ⟨x, y⟩ => c (by rw [x, y])
        refine ⟨a, b, ?_, ?_⟩
        · rw [← h2]
          unfold setF
          rw [if_neg this]
        · unfold setF
          rw [if_neg this]
          exact e2
    · next hany =>
      rcases List.mem_append.mp hkv with z' | z'
      · obtain ⟨a, b, e1, e2⟩ := h.ks kv z'
        have : ¬ (a = i ∧ b = j) := fun ⟨x, y⟩ => hany (by
          rw [List.any_eq_true]
          exact ⟨kv, z', decide_eq_true (by rw [e1, x, y])⟩)
        refine ⟨a, b, ?_, ?_⟩
        · rw [e1]
          unfold setF
          rw [if_neg this]
        · unfold setF
          rw [if_neg this]
          exact e2
      · rw [List.mem_singleton.mp z']
        refine ⟨i, j, ?_, ?_⟩
        · unfold setF
          rw [if_pos ⟨rfl, rfl⟩]
        · unfold setF
          rw [if_pos ⟨rfl, rfl⟩]
          omega
  · rw [putK_keys]
    split
    · exact h.nd
    · next hany =>
      rw [List.nodup_append]
      refine ⟨h.nd, by simp, fun a ha b hb e => hany ?_⟩
      rw [List.mem_singleton.mp hb] at e
      obtain ⟨kv, h1, h2⟩ := List.mem_map.mp ha
      rw [List.any_eq_true]
      exact ⟨kv, h1, decide_eq_true (by rw [h2, e])⟩
  · rw [valV_put]
    by_cases c : k2 a b = k2 i j
    · rw [if_pos c]
      obtain ⟨rfl, rfl⟩ := k2_inj c
      have e : setF f a b z a b = z := if_pos ⟨rfl, rfl⟩
      rw [e, if_neg (by omega)]
    · rw [if_neg c, h.vl]
      have e : setF f i j z a b = f a b := if_neg fun ⟨x, y⟩ => c (by rw [x, y])
      rw [e]
theorem valV_drop {κ : Type} [DecidableEq κ] (k j : κ) : ∀ kvs : List (κ × V), valV (dropK kvs k) j = if j = k then none else valV kvs j
  | [] => by simp [dropK, valV_nil]
  | p :: r => by
    have ih := valV_drop k j r
    by_cases c : p.1 = k
    · have e : dropK (p :: r) k = dropK r k := List.filter_cons_of_neg (by simp [c])
      rw [e, ih]
      by_cases c2 : j = k
      · rw [if_pos c2, if_pos c2]
      · rw [if_neg c2, if_neg c2, valV_neg (fun e => c2 (by rw [← e, c]))]
    · have e : dropK (p :: r) k = p :: dropK r k := List.filter_cons_of_pos (by simp [c])
      rw [e]
      by_cases c2 : p.1 = j
      · rw [valV_pos c2, valV_pos c2, if_neg (fun e => c (by rw [c2, e]))]
      · rw [valV_neg c2, valV_neg c2, ih]
theorem dropK_put {κ : Type} [DecidableEq κ] (kvs : List (κ × V)) (k : κ) (v : V) : dropK (putK kvs k v) k = dropK kvs k := by
  unfold putK dropK
  split
  · induction kvs with
    | nil => rfl
    | cons p r ih =>
      rename_i h
      by_cases c : p.1 = k
      · rw [List.map_cons, if_pos c, List.filter_cons_of_neg (by simp [c]), List.filter_cons_of_neg (by simp [c])]
        by_cases h2 : (r.any fun kv => decide (kv.1 = k)) = true
        · exact ih h2
        · have : ∀ kv ∈ r, ¬ kv.1 = k := fun kv hkv e => h2 (List.any_eq_true.mpr ⟨kv, hkv, decide_eq_true e⟩)
          rw [show r.map (fun kv => if kv.1 = k then (kv.1, v) else kv) = r.map id from List.map_congr_left fun kv hkv => if_neg (this kv hkv), List.map_id]
      · rw [List.map_cons, if_neg c, List.filter_cons_of_pos (by simp [c]), List.filter_cons_of_pos (by simp [c])]
        rw [List.any_cons, decide_eq_false c, Bool.false_or] at h
        rw [ih h]
  · rw [List.filter_append]
    simp
theorem FlD.drop {kvs : List (List Key × V)} {f : Int → Int → Int} (h : FlD kvs f) {i j : Int} {v : V} : FlD (dropK (putK kvs (k2 i j) v) (k2 i j)) (setF f i j 0) := by
  rw [dropK_put]
  refine ⟨fun a b => ?_, fun kv hkv => ?_, (List.filter_sublist.map _).nodup h.nd, fun a b => ?_⟩
  · unfold setF
    have := h.nn a b
    split <;> omega
  · obtain ⟨h1, h2⟩ := List.mem_filter.mp hkv
    obtain ⟨a, b, e1, e2⟩ := h.ks kv h1
    have ne : ¬ (a = i ∧ b = j) := fun ⟨x, y⟩ => by
      have := of_decide_eq_true h2
      rw [e1, x, y] at this
      exact this rfl
    exact ⟨a, b, by rw [e1]; unfold setF; rw [if_neg ne], by unfold setF; rw [if_neg ne]; exact e2⟩
  · rw [valV_drop]
    by_cases c : k2 a b = k2 i j
    · obtain ⟨rfl, rfl⟩ := k2_inj c
      have e : setF f a b 0 a b = 0 := if_pos ⟨rfl, rfl⟩
      rw [if_pos c, e, if_pos rfl]
    · have e : setF f i j 0 a b = f a b := if_neg fun ⟨x, y⟩ => c (by rw [x, y])
      rw [if_neg c, e, h.vl]
theorem FlD.keysAt {kvs : List (List Key × V)} {f : Int → Int → Int} (h : FlD kvs f) (l s : Int) : s ∈ keysAt kvs l ↔ f l s ≠ 0 := by
  unfold Hf.keysAt
  constructor
  · intro hs
    obtain ⟨p, hp, rfl⟩ := List.mem_map.mp hs
    obtain ⟨h1, h2⟩ := List.mem_filter.mp hp
    obtain ⟨kv, h3, rfl⟩ := List.mem_map.mp h1
    obtain ⟨a, b, e1, e2⟩ := h.ks kv h3
    have e3 : keyP kv.1 = (a, b) := by rw [e1]; rfl
    rw [e3] at h2 ⊢
    have : a = l := of_decide_eq_true h2
    rw [← this]
    exact e2
  · intro hf
    have hv := h.vl l s
    rw [if_neg hf] at hv
    have hm : k2 l s ∈ kvs.map (·.1) := by
      unfold valV at hv
      cases e : kvs.find? (fun kv => decide (kv.1 = k2 l s)) with
      | none => rw [e] at hv; cases hv
      | some p =>
        have h1 := List.mem_of_find?_eq_some e
        have h2 := List.find?_some e
        exact List.mem_map.mpr ⟨p, h1, of_decide_eq_true h2⟩
    obtain ⟨kv, h1, h2⟩ := List.mem_map.mp hm
    refine List.mem_map.mpr ⟨(l, s), List.mem_filter.mpr ⟨List.mem_map.mpr ⟨kv, h1, by rw [h2]; rfl⟩, decide_eq_true rfl⟩, rfl⟩
theorem putK_len {κ : Type} [DecidableEq κ] {kvs : List (κ × V)} {k : κ} {v : V} : (putK kvs k v).length ≤ kvs.length + 1 := by
  unfold putK
  split
  · rw [List.length_map]; omega
  · rw [List.length_append]; exact Nat.le_refl _
theorem putK_same {κ : Type} [DecidableEq κ] {kvs : List (κ × V)} {k : κ} {v u : V} (h : valV kvs k = some u) : (putK kvs k v).length = kvs.length := by
  unfold putK
  rw [valV_any, h]
  simp
theorem dropK_len {κ : Type} [DecidableEq κ] {kvs : List (κ × V)} {k : κ} : (dropK kvs k).length ≤ kvs.length := List.length_filter_le _ _
theorem DsR.push {H0 H : Hp} {F r : Addr} {rs : List Addr} {n : Nat} {fs : Nat → Int → Int → Int} {N : Nat → Nat} (h : DsR H0 H F rs n fs N) {kvs : List (List Key × V)} (e : H r = some (.dT kvs)) (q : FlD kvs (fs n)) (l : kvs.length ≤ N n) (nr : H0 r = none) (nF : r ≠ F) (nrs : r ∉ rs) : DsR H0 (L2.upd H F (.lst (rs.map V.ref ++ [.ref r]))) F (rs ++ [r]) (n + 1) fs N := by
  have nd := h.nd
  rw [List.nodup_cons] at nd
  refine ⟨by rw [List.map_append]; exact L2.upd_same, by rw [List.length_append, h.len]; rfl, List.nodup_cons.mpr ⟨fun hc => ?_, ?_⟩, fun b hb => ?_, fun k r' e1 => ?_⟩
  · rcases List.mem_append.mp hc with z | z
    · exact nd.1 z
    · exact nF (List.mem_singleton.mp z).symm
  · rw [List.nodup_append]
    exact ⟨nd.2, by simp, fun a ha b hb e => nrs (by rw [List.mem_singleton.mp hb] at e; rw [← e]; exact ha)⟩
  · rcases List.mem_cons.mp hb with rfl | z
    · exact h.nw _ (by simp)
    · rcases List.mem_append.mp z with z | z
      · exact h.nw _ (List.mem_cons_of_mem _ z)
      · rw [List.mem_singleton.mp z]; exact nr
  · by_cases c : k < rs.length
    · rw [List.getElem?_append_left c] at e1
      obtain ⟨kws, q1, q2, q3⟩ := h.row k r' e1
      exact ⟨kws, lk_upd (fun z => nd.1 (by rw [← z]; exact List.mem_of_getElem? e1)) q1, q2, q3⟩
    · rw [List.getElem?_append_right (by omega)] at e1
      have : k - rs.length = 0 := by
        have := (List.getElem?_eq_some_iff.mp e1).1
        simp at this
        omega
      rw [this] at e1
      cases e1
      have hk : k = n := by have := h.len; omega
      rw [hk]
      exact ⟨kvs, lk_upd nF e, q, l⟩
theorem AccN.dict {H1 H : Hp} {D r : Addr} {acc : List V} {ds : List PyData} {kvs kws : List (List Key × V)} (h : AccN H1 H D acc ds) (e : H r = some (.dT kvs)) (nr : H1 r = none) : AccN H1 (L2.upd H r (.dT kws)) D acc ds := by
  obtain ⟨s, hD, S, o, nd, nD, nw⟩ := h
  refine ⟨Same.mut s nr, lk_upd (fun c => by rw [c, e] at hD; cases hD) hD, S, ?_, nd, nD, nw⟩
  refine OwAll.kp (T := [r]) (fun b xs hb z => ?_) (Kp.upd (by simp) Kp.refl) o fun b hb hc => ?_
  · rw [List.mem_singleton.mp hb, e] at z
    cases z
  · obtain ⟨xs, z⟩ := o.lists b hb
    rw [List.mem_singleton.mp hc, e] at z
    cases z
theorem AccN.same {H1 H H' : Hp} {D : Addr} {acc : List V} {ds : List PyData} (h : AccN H1 H D acc ds) (s : Same H H') : AccN H1 H' D acc ds := by
  obtain ⟨s0, hD, S, o, nd, nD, nw⟩ := h
  exact ⟨s0.trans s, s _ _ hD, S, o.same s, nd, nD, nw⟩
theorem DsR.other {H0 H : Hp} {F M : Addr} {rs : List Addr} {n : Nat} {fs : Nat → Int → Int → Int} {N : Nat → Nat} {zs : List V} {o : HO} (h : DsR H0 H F rs n fs N) (e : H M = some (.lst zs)) (n1 : M ≠ F) : DsR H0 (L2.upd H M o) F rs n fs N := ⟨lk_upd (fun c => n1 c.symm) h.hF, h.len, h.nd, h.nw, fun k r z => by
  obtain ⟨kvs, q1, q2⟩ := h.row k r z
  exact ⟨kvs, lk_upd (fun c => by rw [c, e] at q1; cases q1) q1, q2⟩⟩
theorem nsum_le {B : Nat} : ∀ {l : List Nat}, (∀ x ∈ l, x ≤ B) → l.sum ≤ l.length * B
  | [], _ => Nat.zero_le _
  | x :: l, h => by
    have := nsum_le (l := l) fun y hy => h y (List.mem_cons_of_mem _ hy)
    have := h x List.mem_cons_self
    rw [List.sum_cons, List.length_cons, Nat.succ_mul]
    omega
theorem own_part {H : Hp} {T b : Addr} {p : List Int} {w : Int} (h1 : H T = some (.tup [.ref b, .int w])) (h2 : H b = some (.lst (p.map V.int))) : Ow H (.ref T) (partD (p, w)) [b] := by
  have := Ow.tup h1 (OwAll.cons (Ow.lst h2 (own_ints p)) (OwAll.cons (Ow.int w) OwAll.nil))
  exact this
theorem DsR.putB {H0 H G : Hp} {F r : Addr} {rs : List Addr} {n : Nat} {fs : Nat → Int → Int → Int} {N : Nat → Nat} (h : DsR H0 H F rs n fs N) {k : Nat} (e : rs[k]? = some r) (s : But r H G) {kvs : List (List Key × V)} {f : Int → Int → Int} (q : FlD kvs f) {M : Nat} (l : kvs.length ≤ M) : DsR H0 (L2.upd G r (.dT kvs)) F rs n (fun j => if j = k then f else fs j) (fun j => if j = k then M else N j) := by
  have hr := List.mem_of_getElem? e
  have nd := h.nd
  rw [List.nodup_cons] at nd
  have hFr : F ≠ r := fun c => nd.1 (by rw [c]; exact hr)
  refine ⟨lk_upd hFr (s _ _ hFr h.hF), h.len, h.nd, h.nw, fun j r' e1 => ?_⟩
  by_cases c : j = k
  · subst c
    rw [e] at e1
    cases e1
    rw [if_pos rfl, if_pos rfl]
    exact ⟨kvs, upd_same, q, l⟩
  · obtain ⟨kws, q1, q2, q3⟩ := h.row j r' e1
    rw [if_neg c, if_neg c]
    have hne : r' ≠ r := fun z => c (nodup_at nd.2 e1 (by rw [z]; exact e))
    exact ⟨kws, lk_upd hne (s _ _ hne q1), q2, q3⟩
theorem AccN.dictB {H1 H G : Hp} {D r : Addr} {acc : List V} {ds : List PyData} {kvs : List (List Key × V)} {o : HO} (h : AccN H1 H D acc ds) (e : H r = some (.dT kvs)) (nr : H1 r = none) (s : But r H G) : AccN H1 (L2.upd G r o) D acc ds := by
  obtain ⟨s0, hD, S, ow, nd, nD, nw⟩ := h
  have Dr : D ≠ r := fun c => by rw [c, e] at hD; cases hD
  refine ⟨fun b u z => ?_, lk_upd Dr (s _ _ Dr hD), S, ?_, nd, nD, nw⟩
  · have br : b ≠ r := fun c => by rw [c, nr] at z; cases z
    exact lk_upd br (s _ _ br (s0 _ _ z))
  · refine OwAll.kp (T := [r]) (fun b xs hb z => ?_) (fun b u hb z => ?_) ow fun b hb hc => ?_
    · rw [List.mem_singleton.mp hb, e] at z
      cases z
    · have br : b ≠ r := fun c => hb (by rw [c]; simp)
      exact lk_upd br (s _ _ br z)
    · obtain ⟨xs, z⟩ := ow.lists b hb
      rw [List.mem_singleton.mp hc, e] at z
      cases z
end Hf
/-! ## flows taken apart: the first way through, again and again (no program in sight) -/
namespace Hf
open PySem PySem.Spec PyProof.Rows L2
abbrev FF := Nat → Int → Int → Int
def sumR (N : Nat) (g : Nat → Int) : Int := ((List.range N).map g).sum
theorem sumR_succ {N : Nat} {g : Nat → Int} : sumR (N + 1) g = sumR N g + g N := by
  unfold sumR
  rw [List.range_succ, List.map_append, List.sum_append]
  simp
theorem sumR_nn {g : Nat → Int} : ∀ {N : Nat}, (∀ i, i < N → 0 ≤ g i) → 0 ≤ sumR N g
  | 0, _ => by simp [sumR]
  | N + 1, h => by
    have := sumR_nn (N := N) fun i hi => h i (by omega)
    have := h N (by omega)
    rw [sumR_succ]
    omega
theorem sumR_ge {g : Nat → Int} : ∀ {N : Nat}, (∀ i, i < N → 0 ≤ g i) → ∀ j, j < N → g j ≤ sumR N g
  | 0, _, j, hj => by omega
  | N + 1, h, j, hj => by
    have h0 := sumR_nn (N := N) fun i hi => h i (by omega)
    have h1 := h N (by omega)
    rw [sumR_succ]
    by_cases c : j = N
    · subst c; omega
    · have := sumR_ge (N := N) (fun i hi => h i (by omega)) j (by omega)
      omega
theorem sumR_pos {g : Nat → Int} : ∀ {N : Nat}, sumR N g ≠ 0 → ∃ i, i < N ∧ g i ≠ 0
  | 0, h => absurd rfl h
  | N + 1, h => by
    rw [sumR_succ] at h
    by_cases c : g N = 0
    · obtain ⟨i, h1, h2⟩ := sumR_pos (N := N) (g := g) (by omega)
      exact ⟨i, by omega, h2⟩
    · exact ⟨N, by omega, c⟩
theorem sumR_zero {g : Nat → Int} {N : Nat} (h : ∀ i, i < N → g i = 0) : sumR N g = 0 := by
  by_cases c : sumR N g = 0
  · exact c
  · obtain ⟨i, h1, h2⟩ := sumR_pos c
    exact absurd (h i h1) h2
theorem sumR_sub {a b : Nat → Int} : ∀ {N : Nat}, sumR N (fun i => a i - b i) = sumR N a - sumR N b
  | 0 => rfl
  | N + 1 => by rw [sumR_succ, sumR_succ, sumR_succ, sumR_sub]; omega
theorem sumR_congr {a b : Nat → Int} : ∀ {N : Nat}, (∀ i, i < N → a i = b i) → sumR N a = sumR N b
  | 0, _ => rfl
  | N + 1, h => by rw [sumR_succ, sumR_succ, sumR_congr fun i hi => h i (by omega), h N (by omega)]
theorem sumR_one {w : Int} {j : Nat} : ∀ {N : Nat}, sumR N (fun i => if i = j then w else 0) = if j < N then w else 0
  | 0 => rfl
  | N + 1 => by
    rw [sumR_succ, sumR_one]
    by_cases c : N = j
    · subst c; simp
    · by_cases c2 : j < N
      · rw [if_pos c2, if_neg c, if_pos (by omega)]; omega
      · rw [if_neg c2, if_neg c, if_neg (by omega)]; omega
/-- with x left: how much comes, by what is sent; how much goes on with x left -/
def inF (h : Int) (f : Int → Int → Int) (x : Int) : Int := sumR (h.toNat + 1) fun s => f x (s : Int)
def outF (h : Int) (f : Int → Int → Int) (x : Int) : Int := sumR (h.toNat + 1) fun l => f (l : Int) ((l : Int) - x)
structure Bal (h : Int) (n : Nat) (F : FF) : Prop where
  nn : ∀ k l s, k < n → 0 ≤ F k l s
  ok : ∀ k l s, k < n → F k l s ≠ 0 → 0 ≤ s ∧ s ≤ l ∧ l ≤ h
  fst : ∀ l s, F 0 l s ≠ 0 → l = h
  lnk : ∀ k, k + 1 < n → ∀ x, inF h (F (k + 1)) x = outF h (F k) x
  lst : ∀ l s, F (n - 1) l s ≠ 0 → s = l
/-- what is left ahead of field k -/
def lft (h : Int) (p : List Int) (k : Nat) : Int := h - (p.take k).sum
structure Way (F : FF) (h : Int) (n : Nat) (p : List Int) (w : Int) : Prop where
  len : p.length = n
  st : ∀ (k : Nat) s, p[k]? = some s → F k (lft h p k) s ≠ 0 ∧ ∀ t, F k (lft h p k) t ≠ 0 → s ≤ t
  lw : ∀ (k : Nat) s, p[k]? = some s → w ≤ F k (lft h p k) s
  lx : ∃ (k : Nat) (s : Int), p[k]? = some s ∧ w = F k (lft h p k) s
theorem take_same {p q : List Int} {k : Nat} (h : ∀ j, j < k → p[j]? = q[j]?) : p.take k = q.take k := by
  apply List.ext_getElem?
  intro j
  rw [List.getElem?_take, List.getElem?_take]
  by_cases c : j < k
  · rw [if_pos c, if_pos c, h j c]
  · rw [if_neg c, if_neg c]
theorem Way.uniq {F : FF} {h : Int} {n : Nat} {p q : List Int} {v w : Int} (a : Way F h n p v) (b : Way F h n q w) : p = q ∧ v = w := by
  have e : ∀ (k j : Nat), j < k → p[j]? = q[j]? := by
    intro k
    induction k with
    | zero => intro j hj; omega
    | succ k ih =>
      intro j hj
      by_cases c : j < k
      · exact ih j c
      obtain rfl : j = k := by omega
      have el : lft h p j = lft h q j := by unfold lft; rw [take_same ih]
      by_cases c2 : j < n
      · have h1 : p[j]? = some (p[j]'(by rw [a.len]; exact c2)) := List.getElem?_eq_getElem _
        have h2 : q[j]? = some (q[j]'(by rw [b.len]; exact c2)) := List.getElem?_eq_getElem _
        have s1 := a.st j _ h1
        have s2 := b.st j _ h2
        rw [el] at s1
        have l1 := s1.2 _ s2.1
        have l2 := s2.2 _ s1.1
        rw [h1, h2]
        congr 1
        omega
      · rw [List.getElem?_eq_none (by rw [a.len]; omega), List.getElem?_eq_none (by rw [b.len]; omega)]
  obtain rfl : p = q := List.ext_getElem? fun j => e (j + 1) j (by omega)
  obtain ⟨k1, s1, x1, y1⟩ := a.lx
  obtain ⟨k2, s2, x2, y2⟩ := b.lx
  have := a.lw _ _ x2
  have := b.lw _ _ x1
  exact ⟨rfl, by omega⟩
def subF (F : FF) (p : List Int) (w : Int) : FF := fun k l s => F k l s - (if keyAt p k = (l, s) then w else 0)
inductive Apart (h : Int) (n : Nat) : FF → List (List Int × Int) → Prop
  | done {F : FF} : (∀ l s, F 0 l s = 0) → Apart h n F []
  | step {F : FF} {p : List Int} {w : Int} {m : List (List Int × Int)} : Way F h n p w → Apart h n (subF F p w) m → Apart h n F ((p, w) :: m)
theorem way_some {F : FF} {h : Int} {n : Nat} {p : List Int} {w : Int} (hn : 1 ≤ n) (a : Way F h n p w) : ∃ s, F 0 h s ≠ 0 := by
  have h1 : p[0]? = some (p[0]'(by rw [a.len]; exact hn)) := List.getElem?_eq_getElem _
  have := (a.st 0 _ h1).1
  rw [show lft h p 0 = h by simp [lft]] at this
  exact ⟨_, this⟩
theorem Apart.uniq {h : Int} {n : Nat} (hn : 1 ≤ n) {F : FF} {m m' : List (List Int × Int)} (a : Apart h n F m) (b : Apart h n F m') : m = m' := by
  induction a generalizing m' with
  | done z =>
    cases b with
    | done => rfl
    | step w _ =>
      obtain ⟨s, hs⟩ := way_some hn w
      exact absurd (z h s) hs
  | step w _ ih =>
    cases b with
    | done z =>
      obtain ⟨s, hs⟩ := way_some hn w
      exact absurd (z h s) hs
    | step w' b' =>
      obtain ⟨rfl, rfl⟩ := w.uniq w'
      rw [ih b']
/-! what a way is -/
theorem lft_succ {h : Int} {p : List Int} {k : Nat} {s : Int} (e : p[k]? = some s) : lft h p (k + 1) = lft h p k - s := by
  unfold lft
  rw [take_snoc e, List.sum_append]
  simp
  omega
section
variable {F : FF} {h : Int} {n : Nat} {p : List Int} {w : Int}
theorem Way.plan (hn : 1 ≤ n) (b : Bal h n F) (a : Way F h n p w) : PlanC h n p ∧ 1 ≤ w := by
  have hst : ∀ (k : Nat) s, p[k]? = some s → 0 ≤ s ∧ s ≤ lft h p k ∧ lft h p k ≤ h := fun k s e => b.ok k _ _ (by have := (List.getElem?_eq_some_iff.mp e).1; rw [a.len] at this; exact this) (a.st k s e).1
  refine ⟨⟨a.len, ?_, fun x hx => ?_⟩, ?_⟩
  · have e : p[n - 1]? = some (p[n - 1]'(by rw [a.len]; omega)) := List.getElem?_eq_getElem _
    have := b.lst _ _ (a.st _ _ e).1
    have e2 := lft_succ (h := h) e
    rw [show n - 1 + 1 = n by omega, this] at e2
    have e3 : lft h p n = h - p.sum := by unfold lft; rw [← a.len, List.take_length]
    omega
  · obtain ⟨k, hk, rfl⟩ := List.mem_iff_getElem.mp hx
    exact (hst k _ (List.getElem?_eq_getElem hk)).1
  · obtain ⟨k, s, e, rfl⟩ := a.lx
    have := (a.st k s e).1
    have := b.nn k (lft h p k) s (by have := (List.getElem?_eq_some_iff.mp e).1; rw [a.len] at this; exact this)
    omega
theorem lft_key (hp : p.sum = h) {k : Nat} {s : Int} (e : p[k]? = some s) : keyAt p k = (lft h p k, s) := by
  unfold keyAt lft
  rw [e]
  have : (p.take k).sum + (p.drop k).sum = p.sum := by rw [← List.sum_append, List.take_append_drop]
  simp
  omega
theorem Way.le (b : Bal h n F) (hp : p.sum = h) (a : Way F h n p w) {k : Nat} (hk : k < n) {l s : Int} (e : keyAt p k = (l, s)) : w ≤ F k l s ∧ F k l s ≠ 0 := by
  have e1 : p[k]? = some (p[k]'(by rw [a.len]; exact hk)) := List.getElem?_eq_getElem _
  have e2 := lft_key hp e1
  rw [e] at e2
  cases e2
  exact ⟨a.lw _ _ e1, (a.st _ _ e1).1⟩
theorem in_sub (hh : 0 ≤ h) {f : Int → Int → Int} {a c x : Int} (hc : 0 ≤ c ∧ c ≤ h) : inF h (fun l s => f l s - (if (a, c) = (l, s) then w else 0)) x = inF h f x - (if a = x then w else 0) := by
  unfold inF
  rw [sumR_sub (a := fun s : Nat => f x (s : Int)) (b := fun s : Nat => if (a, c) = (x, (s : Int)) then w else 0)]
  congr 1
  by_cases e : a = x
  · rw [if_pos e, sumR_congr (b := fun i => if i = c.toNat then w else 0) fun i _ => ?_, sumR_one, if_pos (by omega)]
    by_cases z : i = c.toNat
    · rw [if_pos z, if_pos (by rw [e, z]; congr 1; omega)]
    · rw [if_neg z, if_neg fun q => z (by injection q; omega)]
  · rw [if_neg e]
    exact sumR_zero fun i _ => if_neg fun q => e (by injection q)
theorem out_sub (hh : 0 ≤ h) {f : Int → Int → Int} {a c x : Int} (ha : 0 ≤ a ∧ a ≤ h) : outF h (fun l s => f l s - (if (a, c) = (l, s) then w else 0)) x = outF h f x - (if a - c = x then w else 0) := by
  unfold outF
  rw [sumR_sub (a := fun l : Nat => f (l : Int) ((l : Int) - x)) (b := fun l : Nat => if (a, c) = ((l : Int), (l : Int) - x) then w else 0)]
  congr 1
  by_cases e : a - c = x
  · rw [if_pos e, sumR_congr (b := fun i => if i = a.toNat then w else 0) fun i _ => ?_, sumR_one, if_pos (by omega)]
    by_cases z : i = a.toNat
    · rw [if_pos z, if_pos (by rw [z]; congr 1 <;> omega)]
    · rw [if_neg z, if_neg fun q => z (by injection q; omega)]
  · rw [if_neg e]
    exact sumR_zero fun i _ => if_neg fun q => e (by injection q; omega)
theorem Way.sub_ne (b : Bal h n F) (hp : p.sum = h) (a : Way F h n p w) {k : Nat} (hk : k < n) {l s : Int} (e : subF F p w k l s ≠ 0) : F k l s ≠ 0 := by
  unfold subF at e
  by_cases c : keyAt p k = (l, s)
  · exact (a.le b hp hk c).2
  · rw [if_neg c] at e
    omega
theorem Way.bal (hh : 0 ≤ h) (hn : 1 ≤ n) (b : Bal h n F) (a : Way F h n p w) : Bal h n (subF F p w) := by
  obtain ⟨⟨p1, p2, p3⟩, p4⟩ := a.plan hn b
  have kb : ∀ k, k < n → (0 ≤ (keyAt p k).1 ∧ (keyAt p k).1 ≤ h) ∧ 0 ≤ (keyAt p k).2 ∧ (keyAt p k).2 ≤ h := fun k hk => by
    have e1 : p[k]? = some (p[k]'(by omega)) := List.getElem?_eq_getElem _
    have e2 := lft_key p2 e1
    have := b.ok k _ _ hk (a.st k _ e1).1
    rw [e2]
    exact ⟨⟨by show 0 ≤ lft h p k; omega, by show lft h p k ≤ h; omega⟩, by show 0 ≤ p[k]'_; omega, by show p[k]'_ ≤ h; omega⟩
  refine ⟨fun k l s hk => ?_, fun k l s hk e => b.ok k l s hk (a.sub_ne b p2 hk e), fun l s e => b.fst l s (a.sub_ne b p2 (by omega) e), fun k hk x => ?_, fun l s e => b.lst l s (a.sub_ne b p2 (by omega) e)⟩
  · unfold subF
    by_cases c : keyAt p k = (l, s)
    · rw [if_pos c]
      have := (a.le b p2 hk c).1
      omega
    · rw [if_neg c]
      have := b.nn k l s hk
      omega
  · have e1 : inF h (subF F p w (k + 1)) x = inF h (F (k + 1)) x - (if (keyAt p (k + 1)).1 = x then w else 0) := in_sub hh (kb (k + 1) hk).2
    have e2 : outF h (subF F p w k) x = outF h (F k) x - (if (keyAt p k).1 - (keyAt p k).2 = x then w else 0) := out_sub hh (kb k (by omega)).1
    rw [e1, e2, b.lnk k hk x, key_next (by omega)]
theorem Bal.none (hh : 0 ≤ h) (b : Bal h n F) (z : ∀ l s, F 0 l s = 0) : ∀ k, k < n → ∀ l s, F k l s = 0 := by
  intro k
  induction k with
  | zero => intro _; exact z
  | succ k ih =>
    intro hk l s
    have z1 : inF h (F (k + 1)) l = 0 := by
      rw [b.lnk k hk l]
      exact sumR_zero fun i _ => ih (by omega) _ _
    by_cases c : F (k + 1) l s = 0
    · exact c
    · have o := b.ok (k + 1) l s hk c
      have := sumR_ge (g := fun i : Nat => F (k + 1) l (i : Int)) (N := h.toNat + 1) (fun i _ => b.nn (k + 1) l i hk) s.toNat (by omega)
      have e : ((s.toNat : Nat) : Int) = s := by omega
      simp only [e] at this
      have n0 := b.nn (k + 1) l s hk
      unfold inF at z1
      omega
/-- more comes, so more goes on -/
theorem Bal.next (hh : 0 ≤ h) (b : Bal h n F) {k : Nat} (hk : k + 1 < n) {l s : Int} (e : F k l s ≠ 0) : ∃ t, F (k + 1) (l - s) t ≠ 0 := by
  have o := b.ok k l s (by omega) e
  have h1 := sumR_ge (g := fun i : Nat => F k (i : Int) ((i : Int) - (l - s))) (N := h.toNat + 1) (fun i _ => b.nn k _ _ (by omega)) l.toNat (by omega)
  have e1 : ((l.toNat : Nat) : Int) = l := by omega
  simp only [e1] at h1
  rw [show l - (l - s) = s by omega] at h1
  have n0 := b.nn k l s (by omega)
  have h2 : inF h (F (k + 1)) (l - s) ≠ 0 := by
    rw [b.lnk k hk (l - s)]
    unfold outF
    omega
  obtain ⟨i, _, hi⟩ := sumR_pos h2
  exact ⟨_, hi⟩
end
theorem Apart.plans {h : Int} {n : Nat} (hh : 0 ≤ h) (hn : 1 ≤ n) {F : FF} {m : List (List Int × Int)} (a : Apart h n F m) (b : Bal h n F) : ∀ pw ∈ m, PlanC h n pw.1 ∧ 1 ≤ pw.2 := by
  induction a with
  | done _ => nofun
  | step w _ ih =>
    intro pw hp
    rcases List.mem_cons.mp hp with rfl | z
    · exact w.plan hn b
    · exact ih (w.bal hh hn b) pw z
theorem Apart.flows {h : Int} {n : Nat} (hh : 0 ≤ h) (hn : 1 ≤ n) {F : FF} {m : List (List Int × Int)} (a : Apart h n F m) (b : Bal h n F) : ∀ k, k < n → ∀ l s, flowF m k l s = F k l s := by
  induction a with
  | done z => exact fun k hk l s => (b.none hh z k hk l s).symm
  | @step F p v m w _ ih =>
    intro k hk l s
    have := ih (w.bal hh hn b) k hk l s
    show (if keyAt p k = (l, s) then v else 0) + flowF m k l s = F k l s
    rw [this]
    unfold subF
    omega
theorem Apart.has {h : Int} {n : Nat} (hh : 0 ≤ h) (hn : 1 ≤ n) {F : FF} {m : List (List Int × Int)} (a : Apart h n F m) (b : Bal h n F) : ∀ pw ∈ m, ∀ k, k < n → ∀ l s, keyAt pw.1 k = (l, s) → F k l s ≠ 0 := by
  induction a with
  | done _ => nofun
  | step w _ ih =>
    intro pw hp k hk l s e
    have pl := w.plan hn b
    rcases List.mem_cons.mp hp with rfl | z
    · exact (w.le b pl.1.2.1 hk e).2
    · exact w.sub_ne b pl.1.2.1 hk (ih (w.bal hh hn b) pw z k hk l s e)
theorem Way.used {F : FF} {h : Int} {n : Nat} {p : List Int} {w : Int} (hn : 1 ≤ n) (b : Bal h n F) (a : Way F h n p w) : ∃ k, k < n ∧ F k (keyAt p k).1 (keyAt p k).2 ≠ 0 ∧ subF F p w k (keyAt p k).1 (keyAt p k).2 = 0 := by
  have pl := a.plan hn b
  obtain ⟨k, s, e, rfl⟩ := a.lx
  have hk : k < n := by have := (List.getElem?_eq_some_iff.mp e).1; rw [a.len] at this; exact this
  have ek := lft_key pl.1.2.1 e
  refine ⟨k, hk, ?_, ?_⟩
  · rw [ek]
    exact (a.st k s e).1
  · unfold subF
    rw [ek, if_pos rfl]
    show F k (lft h p k) s - F k (lft h p k) s = 0
    omega
theorem Apart.unlike {h : Int} {n : Nat} (hh : 0 ≤ h) (hn : 1 ≤ n) {F : FF} {m : List (List Int × Int)} (a : Apart h n F m) (b : Bal h n F) : (m.map Prod.fst).Nodup := by
  induction a with
  | done _ => exact List.nodup_nil
  | step w a ih =>
    have b' := w.bal hh hn b
    refine List.nodup_cons.mpr ⟨fun hc => ?_, ih b'⟩
    obtain ⟨pw, hp, e⟩ := List.mem_map.mp hc
    obtain ⟨k, hk, _, z⟩ := w.used hn b
    exact a.has hh hn b' pw hp k hk _ _ (by rw [e]) z
/-- how many of some places have flow -/
def cntF (F : FF) (P : List (Nat × Int × Int)) : Nat := P.countP fun x => decide (F x.1 x.2.1 x.2.2 ≠ 0)
theorem countP_lt {α : Type} {p q : α → Bool} : ∀ {P : List α}, (∀ x ∈ P, q x = true → p x = true) → (∃ x ∈ P, p x = true ∧ q x = false) → P.countP q < P.countP p
  | [], _, ⟨x, hx, _⟩ => by cases hx
  | y :: P, h, ⟨x, hx, h1, h2⟩ => by
    have hle : P.countP q ≤ P.countP p := List.countP_mono_left fun z hz => h z (List.mem_cons_of_mem _ hz)
    rw [List.countP_cons, List.countP_cons]
    rcases List.mem_cons.mp hx with rfl | z
    · rw [h1, h2]
      simp
      omega
    · have := countP_lt (P := P) (fun z hz => h z (List.mem_cons_of_mem _ hz)) ⟨x, z, h1, h2⟩
      have hy := h y List.mem_cons_self
      by_cases c : q y = true
      · rw [if_pos c, if_pos (hy c)]; omega
      · rw [if_neg c]; split <;> omega
theorem Way.less {F : FF} {h : Int} {n : Nat} {p : List Int} {w : Int} (hn : 1 ≤ n) (b : Bal h n F) (a : Way F h n p w) {P : List (Nat × Int × Int)} (hk : ∀ x ∈ P, x.1 < n) (hP : ∀ k, k < n → ∀ l s, F k l s ≠ 0 → (k, l, s) ∈ P) : cntF (subF F p w) P < cntF F P := by
  have pl := a.plan hn b
  obtain ⟨k, hk', h1, h2⟩ := a.used hn b
  refine countP_lt (fun x hx e => decide_eq_true (a.sub_ne b pl.1.2.1 (hk x hx) (of_decide_eq_true e))) ⟨_, hP k hk' _ _ h1, decide_eq_true h1, decide_eq_false fun z => z h2⟩
theorem Apart.few {h : Int} {n : Nat} (hh : 0 ≤ h) (hn : 1 ≤ n) {F : FF} {m : List (List Int × Int)} (a : Apart h n F m) (b : Bal h n F) {P : List (Nat × Int × Int)} (hk : ∀ x ∈ P, x.1 < n) (hP : ∀ k, k < n → ∀ l s, F k l s ≠ 0 → (k, l, s) ∈ P) : m.length ≤ cntF F P := by
  induction a with
  | done _ => exact Nat.zero_le _
  | step w a ih =>
    have pl := w.plan hn b
    have := w.less hn b hk hP
    have := ih (w.bal hh hn b) fun k hk l s e => hP k hk l s (w.sub_ne b pl.1.2.1 hk e)
    rw [List.length_cons]
    omega
/-! the flows of a stream -/
def rowV (L : List Fl) : Int → Int → Int := fun l s => (L.map fun e => if (e.1, e.2.1) = (l, s) then e.2.2 else 0).sum
def strF (Ls : List (List Fl)) : FF := fun k => rowV ((Ls[k]?).getD [])
theorem rowV_snoc {L : List Fl} {e : Fl} (l s : Int) : rowV (L ++ [e]) l s = rowV L l s + if (e.1, e.2.1) = (l, s) then e.2.2 else 0 := by
  unfold rowV
  rw [List.map_append, List.sum_append]
  simp
theorem rowV_ne {L : List Fl} (h : ∀ e ∈ L, 1 ≤ e.2.2) (l s : Int) : 0 ≤ rowV L l s ∧ (rowV L l s ≠ 0 ↔ ∃ e ∈ L, (e.1, e.2.1) = (l, s)) := by
  induction L with
  | nil => exact ⟨Int.le_refl _, fun z => absurd rfl z, fun ⟨_, h, _⟩ => by cases h⟩
  | cons e L ih =>
    have ih := ih fun x hx => h x (List.mem_cons_of_mem _ hx)
    have h1 := h e List.mem_cons_self
    have er : rowV (e :: L) l s = (if (e.1, e.2.1) = (l, s) then e.2.2 else 0) + rowV L l s := by unfold rowV; rw [List.map_cons, List.sum_cons]
    rw [er]
    by_cases c : (e.1, e.2.1) = (l, s)
    · rw [if_pos c]
      exact ⟨by omega, fun _ => ⟨e, List.mem_cons_self, c⟩, fun _ => by omega⟩
    · rw [if_neg c]
      refine ⟨by omega, fun z => ?_, fun ⟨x, hx, q⟩ => ?_⟩
      · obtain ⟨x, hx, q⟩ := ih.2.mp (by omega)
        exact ⟨x, List.mem_cons_of_mem _ hx, q⟩
      · rcases List.mem_cons.mp hx with rfl | z
        · exact absurd q c
        · have := ih.2.mpr ⟨x, z, q⟩
          omega
theorem lt2_ne {a b : Fl} (h : lt2 a b) : (a.1, a.2.1) ≠ (b.1, b.2.1) := lt2_irr h
theorem rowV_at {L : List Fl} (st : L.Pairwise lt2) {e : Fl} (he : e ∈ L) : rowV L e.1 e.2.1 = e.2.2 := by
  induction L with
  | nil => cases he
  | cons x L ih =>
    obtain ⟨h1, h2⟩ := List.pairwise_cons.mp st
    have er : rowV (x :: L) e.1 e.2.1 = (if (x.1, x.2.1) = (e.1, e.2.1) then x.2.2 else 0) + rowV L e.1 e.2.1 := by unfold rowV; rw [List.map_cons, List.sum_cons]
    rw [er]
    rcases List.mem_cons.mp he with rfl | z
    · rw [if_pos rfl]
      have : rowV L e.1 e.2.1 = 0 := by
        unfold rowV
        exact sum_zero fun y hy => if_neg fun q => lt2_ne (h1 y hy) q.symm
      omega
    · rw [if_neg (lt2_ne (h1 e z)), ih h2 z]
      omega
theorem rowV_row {L : List Fl} (st : L.Pairwise lt2) (h : ∀ e ∈ L, 1 ≤ e.2.2) : RowF (rowV L) L := ⟨st, fun e => by
  constructor
  · intro he
    have := rowV_at st he
    have := h e he
    exact ⟨by omega, by omega⟩
  · rintro ⟨h1, h2⟩
    obtain ⟨x, hx, q⟩ := (rowV_ne h e.1 e.2.1).2.mp h2
    have := rowV_at st hx
    injection q with q1 q2
    rw [q1, q2, ← h1] at this
    rwa [show e = x from Prod.ext q1.symm (Prod.ext q2.symm this)]⟩
theorem rowV_in {h : Int} {L : List Fl} (ok : ∀ e ∈ L, 0 ≤ e.2.1 ∧ e.2.1 ≤ e.1 ∧ e.1 ≤ h) (x : Int) : inF h (rowV L) x = (L.map fun e => if e.1 = x then e.2.2 else 0).sum := by
  induction L with
  | nil => exact sumR_zero fun _ _ => rfl
  | cons e L ih =>
    have ih := ih fun y hy => ok y (List.mem_cons_of_mem _ hy)
    have h1 := ok e List.mem_cons_self
    rw [List.map_cons, List.sum_cons, ← ih]
    have s1 := in_sub (w := e.2.2) (f := rowV (e :: L)) (h := h) (a := e.1) (c := e.2.1) (x := x) (by omega) (by omega)
    have s2 : inF h (fun l s => rowV (e :: L) l s - (if (e.1, e.2.1) = (l, s) then e.2.2 else 0)) x = inF h (rowV L) x := by
      unfold inF
      refine sumR_congr fun i _ => ?_
      show (List.map (fun e' : Fl => if (e'.1, e'.2.1) = (x, (i : Int)) then e'.2.2 else 0) (e :: L)).sum - _ = _
      rw [List.map_cons, List.sum_cons]
      unfold rowV
      omega
    omega
theorem rowV_out {h : Int} {L : List Fl} (ok : ∀ e ∈ L, 0 ≤ e.2.1 ∧ e.2.1 ≤ e.1 ∧ e.1 ≤ h) (x : Int) : outF h (rowV L) x = (L.map fun e => if e.1 - e.2.1 = x then e.2.2 else 0).sum := by
  induction L with
  | nil => exact sumR_zero fun _ _ => rfl
  | cons e L ih =>
    have ih := ih fun y hy => ok y (List.mem_cons_of_mem _ hy)
    have h1 := ok e List.mem_cons_self
    rw [List.map_cons, List.sum_cons, ← ih]
    have s1 := out_sub (w := e.2.2) (f := rowV (e :: L)) (h := h) (a := e.1) (c := e.2.1) (x := x) (by omega) (by omega)
    have s2 : outF h (fun l s => rowV (e :: L) l s - (if (e.1, e.2.1) = (l, s) then e.2.2 else 0)) x = outF h (rowV L) x := by
      unfold outF
      refine sumR_congr fun i _ => ?_
      show (List.map (fun e' : Fl => if (e'.1, e'.2.1) = ((i : Int), (i : Int) - x) then e'.2.2 else 0) (e :: L)).sum - _ = _
      rw [List.map_cons, List.sum_cons]
      unfold rowV
      omega
    omega
theorem lt2_trans {a b c : Fl} (h1 : lt2 a b) (h2 : lt2 b c) : lt2 a c := by
  unfold lt2 at *
  omega
theorem pair_next : ∀ {L : List Fl}, (∀ (k : Nat) (a b : Fl), L[k]? = some a → L[k + 1]? = some b → lt2 a b) → L.Pairwise lt2
  | [], _ => List.Pairwise.nil
  | [_], _ => List.pairwise_singleton _ _
  | x :: y :: L, h => by
    have ih := pair_next (L := y :: L) fun k a b e1 e2 => h (k + 1) a b e1 e2
    have hxy := h 0 x y rfl rfl
    refine List.pairwise_cons.mpr ⟨fun z hz => ?_, ih⟩
    rcases List.mem_cons.mp hz with rfl | hz
    · exact hxy
    · exact lt2_trans hxy ((List.pairwise_cons.mp ih).1 z hz)
theorem RowG.st {h : Int} {L : List Fl} (g : RowG h L) : L.Pairwise lt2 := pair_next g.up
theorem RowG.okh {h : Int} {L : List Fl} (g : RowG h L) : ∀ e ∈ L, 0 ≤ e.2.1 ∧ e.2.1 ≤ e.1 ∧ e.1 ≤ h := fun e he => ⟨(g.ok e he).1, (g.ok e he).2.1, (g.ok e he).2.2.1⟩
theorem StrG.bal {h : Int} {n : Nat} {Ls : List (List Fl)} (g : StrG h (n : Int) Ls) : Bal h n (strF Ls) ∧ 1 ≤ n ∧ 0 ≤ h := by
  have ln : Ls.length = n := by have := g.ne.1; omega
  have hn : 1 ≤ n := by have := g.ne.2; omega
  have row : ∀ k, k < n → ∃ L, Ls[k]? = some L ∧ strF Ls k = rowV L ∧ RowG h L := fun k hk => by
    have e : Ls[k]? = some (Ls[k]'(by omega)) := List.getElem?_eq_getElem _
    exact ⟨_, e, by unfold strF; rw [e]; rfl, g.pre.rows _ (List.mem_of_getElem? e)⟩
  refine ⟨⟨fun k l s hk => ?_, fun k l s hk e => ?_, fun l s e => ?_, fun k hk x => ?_, fun l s e => ?_⟩, hn, ?_⟩
  · obtain ⟨L, e1, e2, r⟩ := row k hk
    rw [e2]
    exact (rowV_ne r.fl l s).1
  · obtain ⟨L, e1, e2, r⟩ := row k hk
    rw [e2] at e
    obtain ⟨x, hx, q⟩ := (rowV_ne r.fl l s).2.mp e
    injection q with q1 q2
    have := r.okh x hx
    omega
  · obtain ⟨L, e1, e2, r⟩ := row 0 hn
    rw [e2] at e
    obtain ⟨x, hx, q⟩ := (rowV_ne r.fl l s).2.mp e
    injection q with q1 q2
    rw [← q1]
    exact g.pre.first L e1 x hx
  · obtain ⟨A, a1, a2, ra⟩ := row k (by omega)
    obtain ⟨B, b1, b2, rb⟩ := row (k + 1) hk
    rw [a2, b2, rowV_in rb.okh, rowV_out ra.okh]
    have := g.pre.link k A B a1 b1 x
    unfold tkF gnF at this
    rw [sumF_sum, sumF_sum] at this
    have z : zF x = 0 := rfl
    omega
  · obtain ⟨L, e1, e2, r⟩ := row (n - 1) (by omega)
    rw [e2] at e
    obtain ⟨x, hx, q⟩ := (rowV_ne r.fl l s).2.mp e
    injection q with q1 q2
    have := g.last L (by rw [ln]; exact e1) x hx
    omega
  · obtain ⟨L, e1, e2, r⟩ := row 0 hn
    have hl := r.ne
    have := r.okh _ (List.getElem_mem (l := L) (n := 0) (by omega))
    omega
/-- where a stream has flow -/
def placesF (Ls : List (List Fl)) : List (Nat × Int × Int) := (Ls.zipIdx.map fun q => q.1.map fun e => (q.2, e.1, e.2.1)).flatten
theorem placesF_len (Ls : List (List Fl)) : (placesF Ls).length = (Ls.map List.length).sum := by
  unfold placesF
  rw [List.length_flatten, List.map_map]
  have : ∀ (k : Nat) (Ls : List (List Fl)), ((Ls.zipIdx k).map (List.length ∘ fun q => q.1.map fun e : Fl => (q.2, e.1, e.2.1))) = Ls.map List.length := by
    intro k Ls
    induction Ls generalizing k with
    | nil => rfl
    | cons L Ls ih => simp [List.zipIdx_cons, ih (k + 1)]
  rw [this 0 Ls]
theorem places_mem {Ls : List (List Fl)} {k : Nat} {l s : Int} : (k, l, s) ∈ placesF Ls ↔ ∃ L, Ls[k]? = some L ∧ ∃ e ∈ L, (e.1, e.2.1) = (l, s) := by
  unfold placesF
  rw [List.mem_flatten]
  constructor
  · rintro ⟨x, hx, hk⟩
    obtain ⟨q, hq, rfl⟩ := List.mem_map.mp hx
    obtain ⟨e, he, q2⟩ := List.mem_map.mp hk
    have := List.mem_zipIdx_iff_getElem?.mp hq
    injection q2 with a1 a2
    injection a2 with a2 a3
    exact ⟨q.1, by rw [← a1]; exact this, e, he, by rw [a2, a3]⟩
  · rintro ⟨L, h1, e, he, q⟩
    injection q with q1 q2
    exact ⟨_, List.mem_map.mpr ⟨(L, k), List.mem_zipIdx_iff_getElem?.mpr h1, rfl⟩, List.mem_map.mpr ⟨e, he, by rw [q1, q2]⟩⟩
/-- what a stream taken apart is -/
theorem Apart.str {h : Int} {n : Nat} {Ls : List (List Fl)} (g : StrG h (n : Int) Ls) (hh : h ≤ 40) (hn8 : n ≤ 8) {m : List (List Int × Int)} (a : Apart h n (strF Ls) m) : MixG h n m ∧ StrOf m n Ls ∧ (m.map Prod.fst).Nodup ∧ m.length ≤ (Ls.map List.length).sum := by
  obtain ⟨b, hn, h0⟩ := g.bal
  have ln : Ls.length = n := by have := g.ne.1; omega
  have fl := a.flows h0 hn b
  have row : ∀ (k : Nat) L, Ls[k]? = some L → k < n ∧ strF Ls k = rowV L ∧ RowG h L := fun k L e => ⟨by have := (List.getElem?_eq_some_iff.mp e).1; omega, by unfold strF; rw [e]; rfl, g.pre.rows _ (List.mem_of_getElem? e)⟩
  have so : StrOf m n Ls := ⟨ln, fun k L e => by
    obtain ⟨hk, e2, r⟩ := row k L e
    have : flowF m k = rowV L := by
      funext l s
      rw [fl k hk l s, e2]
    rw [this]
    exact rowV_row r.st r.fl⟩
  refine ⟨⟨?_, ⟨hn, hn8⟩, ⟨h0, hh⟩, a.plans h0 hn b⟩, so, a.unlike h0 hn b, ?_⟩
  · cases m with
    | nil =>
      obtain ⟨L, e⟩ : ∃ L, Ls[0]? = some L := ⟨Ls[0]'(by omega), List.getElem?_eq_getElem _⟩
      obtain ⟨hk, e2, r⟩ := row 0 L e
      have hl := r.ne
      have hm := List.getElem_mem (l := L) (n := 0) (by omega)
      have := (so.row 0 L e).mem (L[0]'(by omega))
      have := (this.mp hm).2
      exact absurd rfl this
    | cons _ _ => simp
  · have := a.few h0 hn b (P := placesF Ls) (fun x hx => by
      obtain ⟨L, e, _⟩ := places_mem.mp (show (x.1, x.2.1, x.2.2) ∈ _ from hx)
      exact (row _ L e).1) (fun k hk l s e => by
      have e1 : Ls[k]? = some (Ls[k]'(by omega)) := List.getElem?_eq_getElem _
      obtain ⟨_, e2, r⟩ := row k _ e1
      rw [e2] at e
      exact places_mem.mpr ⟨_, e1, (rowV_ne r.fl l s).2.mp e⟩)
    have l2 : cntF (strF Ls) (placesF Ls) ≤ (placesF Ls).length := List.countP_le_length
    rw [placesF_len] at l2
    omega
theorem rowV_set {L : List Fl} {j : Nat} {e : Fl} (st : L.Pairwise lt2) (h : L[j]? = some e) : setF (rowV (L.take j)) e.1 e.2.1 e.2.2 = rowV (L.take (j + 1)) := by
  have hz : rowV (L.take j) e.1 e.2.1 = 0 := by
    unfold rowV
    refine sum_zero fun x hx => if_neg fun q => ?_
    obtain ⟨i, hi, rfl⟩ := List.mem_iff_getElem.mp hx
    rw [List.length_take] at hi
    obtain ⟨hj, rfl⟩ := List.getElem?_eq_some_iff.mp h
    rw [List.getElem_take] at q
    exact lt2_ne (List.pairwise_iff_getElem.mp st i j (by omega) hj (by omega)) q
  rw [take_snoc h]
  funext l s
  rw [rowV_snoc]
  unfold setF
  by_cases c : l = e.1 ∧ s = e.2.1
  · rw [if_pos c, if_pos (by rw [c.1, c.2]), c.1, c.2, hz]
    omega
  · rw [if_neg c, if_neg fun q => c (by injection q with q1 q2; exact ⟨q1.symm, q2.symm⟩)]
    omega
theorem subF_set {F : FF} {p : List Int} {w : Int} {k : Nat} {l s : Int} (e : keyAt p k = (l, s)) : setF (F k) l s (F k l s - w) = subF F p w k := by
  funext a b
  unfold setF subF
  rw [e]
  by_cases c : a = l ∧ b = s
  · rw [if_pos c, if_pos (by rw [c.1, c.2]), c.1, c.2]
  · rw [if_neg c, if_neg fun q => c (by injection q with q1 q2; exact ⟨q1.symm, q2.symm⟩)]
    omega
theorem FlD.empty0 {f : Int → Int → Int} (h : FlD [] f) (l s : Int) : f l s = 0 := by
  have := h.vl l s
  by_cases c : f l s = 0
  · exact c
  · rw [if_neg c] at this
    cases this
/-! shares -/
def shRow (h : Int) (L : List Fl) : List Int := (List.range (h.toNat + 1)).map fun c : Nat => (L.map fun e => if e.2.1 = (c : Int) then e.2.2 else 0).sum
def shD (h : Int) (Ls : List (List Fl)) : PyData := .list ((Ls.map (shRow h)).map planD)
theorem shRow_len {h : Int} {L : List Fl} : (shRow h L).length = h.toNat + 1 := by rw [shRow, List.length_map, List.length_range]
theorem shRow_nil {h : Int} (hh : 0 ≤ h) : shRow h [] = List.replicate (h + 1).toNat 0 := by
  rw [show (h + 1).toNat = h.toNat + 1 by omega]
  apply List.ext_getElem
  · rw [shRow_len, List.length_replicate]
  · intro i h1 h2
    simp [shRow]
theorem shRow_set {h : Int} {L : List Fl} {j : Nat} {e : Fl} {z : Int} (he : L[j]? = some e) (h0 : 0 ≤ e.2.1) (hz : (shRow h (L.take j))[e.2.1.toNat]? = some z) : (shRow h (L.take j)).set e.2.1.toNat (z + e.2.2) = shRow h (L.take (j + 1)) := by
  rw [take_snoc he]
  apply List.ext_getElem
  · rw [List.length_set, shRow_len, shRow_len]
  · intro i h1 h2
    have hi : i < h.toNat + 1 := by rwa [shRow_len] at h2
    rw [List.getElem_set]
    have eR : (shRow h (L.take j ++ [e]))[i] = ((L.take j).map fun e => if e.2.1 = (i : Int) then e.2.2 else 0).sum + (if e.2.1 = (i : Int) then e.2.2 else 0) := by
      simp [shRow, List.sum_append]
    have eL : (shRow h (L.take j))[i]'(by rw [shRow_len]; exact hi) = ((L.take j).map fun e => if e.2.1 = (i : Int) then e.2.2 else 0).sum := by simp [shRow]
    rw [eR]
    by_cases c : e.2.1.toNat = i
    · rw [if_pos c, if_pos (by omega), ← eL]
      have := (List.getElem?_eq_some_iff.mp hz).2
      subst c
      rw [this]
    · rw [if_neg c, if_neg (by omega), eL]
      omega
end Hf
/-! ## how often a list of ints stands among such lists -/
namespace Hf
open PySem PySem.Spec PyProof.Rows L2
def isL (ns : List Int) : Option HO → Bool
  | some (.lst xs) => decide (xs = ns.map V.int)
  | _ => false
theorem ints_inj : ∀ {ms ns : List Int}, ms.map V.int = ns.map V.int → ms = ns
  | [], [], _ => rfl
  | [], _ :: _, h => by cases h
  | _ :: _, [], h => by cases h
  | m :: ms, n :: ns, h => by
    rw [List.map_cons, List.map_cons] at h
    injection h with h1 h2
    injection h1 with h1
    rw [h1, ints_inj h2]
theorem isL_ints (ms ns : List Int) : isL ns (some (.lst (ms.map V.int))) = decide (ms = ns) := by
  unfold isL
  rw [Bool.eq_iff_iff, decide_eq_true_iff, decide_eq_true_iff]
  exact ⟨ints_inj, fun h => by rw [h]⟩
def rCntL (K : PySem.W.Frag) : V → List V → Hp → VK → Prop := fun x xs H Q => ∃ (p b : Addr) (rs : List Addr) (ns : List Int), x = .ref p ∧ xs = [.ref b] ∧ SqL K H p (rs.map V.ref) ∧ H b = some (.lst (ns.map V.int)) ∧
  (∀ r ∈ rs, ∃ ms : List Int, H r = some (.lst (ms.map V.int))) ∧ Q (.int (rs.countP fun r => isL ns (H r) : Nat)) H
def fL (ns : List Int) (H : Hp) : Value → Bool
  | .ref a => isL ns (H a)
  | _ => false
theorem all_cntL {X : Cx} {pins : List (Addr × Obj)} {s : Shared} {σ : L2.St} {H : Hp} (I : Inv X pins σ H s) {A : Around} (hu : A.units + 60 < cLine) {b : Addr} {ns : List Int} (hb : H b = some (.lst (ns.map V.int))) : ∀ {rs : List Addr} {us : List Value}, (∀ r ∈ rs, ∃ ms : List Int, H r = some (.lst (ms.map V.int))) → Vals (rs.map V.ref) us →
    (∀ u ∈ us, SeqAt.EqAt A s u (.ref b) (fL ns H u)) ∧ us.countP (fL ns H) = rs.countP fun r => isL ns (H r)
  | [], [], _, .nil => ⟨nofun, rfl⟩
  | r :: rs, u :: us, hr, .cons ru rus => by
    obtain ⟨ms, hm⟩ := hr r List.mem_cons_self
    cases ru
    obtain ⟨h3, h4⟩ := all_cntL I hu hb (fun x hx => hr x (List.mem_cons_of_mem _ hx)) rus
    have e1 : fL ns H (.ref r) = decide (ms = ns) := by
      show isL ns (H r) = _
      rw [hm, isL_ints]
    have e2 : PyData.eqv (planD ms) (planD ns) = decide (ms = ns) := by rw [planD, planD, PyData.eqv, eqvAll_ints]
    obtain ⟨as, r1⟩ := Dp.reads I (planD ms) (.ref r) (.ref r) (.lst (.of hm) (dp_ints ms)) rfl
    obtain ⟨bs, r2⟩ := Dp.reads I (planD ns) (.ref b) (.ref b) (.lst (.of hb) (dp_ints ns)) rfl
    have d1 := depth_ints ms
    refine ⟨fun u' hu' => ?_, by rw [List.countP_cons, List.countP_cons, h4]; rfl⟩
    rcases List.mem_cons.mp hu' with e | e
    · rw [e, e1, ← e2]
      exact SeqAt.eqAt_reads (planD ms) (planD ns) A s (.ref r) (.ref b) as bs r1 r2 (lay_plan ms) (lay_plan ns) (by rw [planD, PyData.depth]; omega)
    · exact h3 u' e
theorem mt_lcountL {X : Cx} (hu : X.A.units + 64 < cLine) : MtR X "list.count" (rCntL X.K) := by
  intro pins s σ H x xs v us Q I rx rxs h
  obtain ⟨p, b, rs, ns, rfl, rfl, hs, hb, hr, q⟩ := h
  cases rx
  obtain ⟨u, rfl, ru⟩ := rxs.one
  cases ru
  obtain ⟨its, rv, ⟨⟨cls, dd, data, sl⟩, n, ho, hc, hdn, hd⟩, hlen⟩ := I.list hs
  simp only at hc hd
  subst hc hd
  obtain ⟨c1, c2⟩ := all_cntL (A := X.A.in1) I (by show X.A.units + 1 + 60 < cLine; omega) hb hr rv
  refine call_meets PySem.F.slot_list_count ⟨_, ho, rfl⟩ PySem.F.entry_list_count (PySem.F.args_list_count_2 _ _)
    (SeqAt.list_countAt p its.toArray n dd sl (.ref b) (fL ns H)) ⟨ho, fun u' hu' => c1 u' (by simpa using hu'), ?_⟩
  refine ⟨.int _, H, I.tok _, ⟨s.toks, ?_⟩, q⟩
  show Value.int ((its.toArray.toList.countP (fL ns H) : Nat) : Int) s.toks = Value.int _ s.toks
  rw [show its.toArray.toList = its from rfl, c2]
theorem mt_lcountLK {X : Cx} (K : PySem.W.Frag) (e : X.K = K) (hu : X.A.units + 64 < cLine) : MtR X "list.count" (rCntL K) := by subst e; exact mt_lcountL hu
theorem ints_all {H : Hp} {ns : List Int} : ∀ {rs : List Addr} {mss : List (List Int)}, DqAll H (rs.map V.ref) (mss.map planD) → (∀ r ∈ rs, ∃ ms : List Int, H r = some (.lst (ms.map V.int))) ∧ rs.countP (fun r => isL ns (H r)) = mss.countP fun ms => decide (ms = ns) := by
  intro rs
  induction rs with
  | nil =>
    intro mss q
    cases mss with
    | nil => exact ⟨nofun, rfl⟩
    | cons _ _ => cases q
  | cons r rs ih =>
    intro mss q
    cases mss with
    | nil => cases q
    | cons ms mss =>
      cases q with
      | cons q1 q2 =>
        obtain ⟨i1, i2⟩ := ih q2
        obtain ⟨a, xs, e1, e2, e3⟩ := q1.list_inv
        cases e1
        obtain rfl := e3.ints
        refine ⟨fun x hx => ?_, ?_⟩
        · rcases List.mem_cons.mp hx with rfl | z
          · exact ⟨ms, e2⟩
          · exact i1 x z
        · rw [List.countP_cons, List.countP_cons, i2, e2, isL_ints]
theorem i_cntL {K : PySem.W.Frag} {H : Hp} {Q : VK} {p b : Addr} {rs : List Addr} {mss : List (List Int)} {ns : List Int} (h : H p = some (.lst (rs.map V.ref))) (hb : H b = some (.lst (ns.map V.int))) (hr : DqAll H (rs.map V.ref) (mss.map planD)) (q : Q (.int ((mss.countP fun ms => decide (ms = ns) : Nat) : Int)) H) : rCntL K (.ref p) [.ref b] H Q := by
  obtain ⟨k1, k2⟩ := ints_all (ns := ns) hr
  exact ⟨p, b, rs, ns, rfl, rfl, .of h, hb, k1, by rw [k2]; exact q⟩
/-! a list of ints in a list of such -/
theorem any_cnt {α : Type} (p : α → Bool) (l : List α) : l.any p = decide (0 < l.countP p) := by
  rw [Bool.eq_iff_iff, List.any_eq_true, decide_eq_true_iff, List.countP_pos_iff]
def rInL (K : PySem.W.Frag) : R2 := fun x y H Q => ∃ (p b : Addr) (rs : List Addr) (ns : List Int), y = .ref p ∧ x = .ref b ∧ SqL K H p (rs.map V.ref) ∧ H b = some (.lst (ns.map V.int)) ∧
  (∀ r ∈ rs, ∃ ms : List Int, H r = some (.lst (ms.map V.int))) ∧ Q (.bl (decide (0 < rs.countP fun r => isL ns (H r)))) H
theorem op_inL {X : Cx} (hu : X.A.units + 64 < cLine) : OpR X (compareOp .In) (rInL X.K) := by
  intro pins s σ H x y v u Q I rx ry h
  obtain ⟨p, b, rs, ns, rfl, rfl, hs, hb, hr, q⟩ := h
  cases ry
  cases rx
  obtain ⟨its, r, pl, hz⟩ := I.list hs
  obtain ⟨c1, c2⟩ := all_cntL (A := X.A.in1) I (by show X.A.units + 1 + 60 < cLine; omega) hb hr r
  refine SeqAt.in_listAt (fL ns H) pl.isList (fun w hw => c1 w (by simpa using hw)) ⟨.bl _, H, I, rfl, ?_⟩
  rw [show its.toArray.any (fL ns H) = its.any (fL ns H) by simp, any_cnt, c2]
  exact q
theorem op_inLK {X : Cx} (K : PySem.W.Frag) (e : X.K = K) (hu : X.A.units + 64 < cLine) : OpR X (compareOp .In) (rInL K) := by subst e; exact op_inL hu
theorem i_inL {K : PySem.W.Frag} {H : Hp} {Q : VK} {p b : Addr} {rs : List Addr} {mss : List (List Int)} {ns : List Int} (h : H p = some (.lst (rs.map V.ref))) (hb : H b = some (.lst (ns.map V.int))) (hr : DqAll H (rs.map V.ref) (mss.map planD)) (q : Q (.bl (decide (ns ∈ mss))) H) : rInL K (.ref b) (.ref p) H Q := by
  obtain ⟨k1, k2⟩ := ints_all (ns := ns) hr
  refine ⟨p, b, rs, ns, rfl, rfl, .of h, hb, k1, ?_⟩
  have e : decide (0 < mss.countP fun ms => decide (ms = ns)) = decide (ns ∈ mss) := by
    rw [Bool.eq_iff_iff, decide_eq_true_iff, decide_eq_true_iff, List.countP_pos_iff]
    constructor
    · rintro ⟨a, ha, hb⟩
      rw [decide_eq_true_iff] at hb
      rw [← hb]
      exact ha
    · intro ha
      exact ⟨ns, ha, decide_eq_true rfl⟩
  rw [k2, e]
  exact q
/-! how often a mix is played so -/
theorem due_count (P : List Int → Bool) : ∀ {m : List (List Int × Int)}, (∀ pw ∈ m, 1 ≤ pw.2) → (((List.range (whole m).toNat).countP fun i : Nat => P (due m i) : Nat) : Int) = (m.map fun pw => if P pw.1 = true then pw.2 else 0).sum
  | [], _ => by simp [whole]
  | pw :: m, h => by
    have hw := h pw List.mem_cons_self
    have ih := due_count P (m := m) fun x hx => h x (List.mem_cons_of_mem _ hx)
    have wn := whole_nn m fun x hx => h x (List.mem_cons_of_mem _ hx)
    rw [whole_cons, show (pw.2 + whole m).toNat = pw.2.toNat + (whole m).toNat by omega, List.range_add, List.countP_append, List.countP_map, List.map_cons, List.sum_cons, ← ih]
    have e1 : (List.range pw.2.toNat).countP (fun i : Nat => P (due (pw :: m) i)) = if P pw.1 = true then pw.2.toNat else 0 := by
      have : ∀ i ∈ List.range pw.2.toNat, P (due (pw :: m) (i : Int)) = P pw.1 := fun i hi => by
        have := List.mem_range.mp hi
        rw [due, if_pos (by omega)]
      rw [List.countP_congr (q := fun _ => P pw.1) (fun x hx => by rw [this x hx])]
      by_cases c : P pw.1 = true
      · rw [if_pos c, List.countP_eq_length.mpr fun x _ => c, List.length_range]
      · rw [if_neg c, List.countP_eq_zero.mpr fun x _ => c]
    have e2 : ((fun i : Nat => P (due (pw :: m) (i : Int))) ∘ fun x : Nat => pw.2.toNat + x) = fun i : Nat => P (due m (i : Int)) := by
      funext i
      show P (due (pw :: m) ((pw.2.toNat + i : Nat) : Int)) = _
      rw [due, if_neg (by omega), show ((pw.2.toNat + i : Nat) : Int) - pw.2 = (i : Int) by omega]
    rw [e1, e2]
    split <;> omega
theorem due_mem : ∀ {m : List (List Int × Int)} {z : Int}, 0 ≤ z → z < whole m → ∃ pw ∈ m, due m z = pw.1
  | [], z, h0, h => by simp [whole] at h; omega
  | pw :: m, z, h0, h => by
    rw [whole_cons] at h
    rw [due]
    split
    · exact ⟨pw, List.mem_cons_self, rfl⟩
    · obtain ⟨q, hq, e⟩ := due_mem (m := m) (z := z - pw.2) (by omega) (by omega)
      exact ⟨q, List.mem_cons_of_mem _ hq, e⟩
/-- what comes to each count by a mix -/
def shMix (h : Int) (m : List (List Int × Int)) (k : Nat) : List Int := (List.range (h.toNat + 1)).map fun c : Nat => (m.map fun pw => if (pw.1[k]?).getD 0 = (c : Int) then pw.2 else 0).sum
theorem StrOf.shares {h : Int} {n : Nat} {m : List (List Int × Int)} {Ls : List (List Fl)} (r : StrOf m n Ls) (g : MixG h n m) : Ls.map (shRow h) = (List.range n).map (shMix h m) := by
  apply List.ext_getElem
  · rw [List.length_map, List.length_map, List.length_range, r.len]
  · intro i h1 h2
    have hi : i < Ls.length := by rwa [List.length_map] at h1
    rw [List.getElem_map, List.getElem_map, List.getElem_range]
    unfold shRow shMix
    refine List.map_congr_left fun c _ => ?_
    have rg := row_gather (fun pw hp => (g.pl pw hp).2) (r.row i _ (List.getElem?_eq_getElem hi)) (fun p => p.2) (c : Int)
    rw [sumF_sum] at rg
    have z : zF (c : Int) = 0 := rfl
    rw [z, Int.zero_add] at rg
    exact rg
section
variable {σ : L2.St} {H H1 : Hp} {Q : VK} {K : PySem.W.Frag} {D l : Addr} {g : TG} {tt : TT} {te : TE} {vs : List Nat} {xs : List V} {Qd : Hp → Prop}
/-- [.. for x in xs if ..]: whole numbers, kept where b says so -/
theorem lcL_fil (b : Nat → Bool) (f : Nat → Int) (nD : H1 D = none) (hn : xs.length ≤ 1000000) (hx : SqL K H1 l xs)
    (hs : ∀ (i : Nat) (x : V) H (Z : VK) (Y : Hp → Prop), xs[i]? = some x → Same H1 H → (b i = true → ∀ H4, Same H H4 → Z (.int (f i)) H4) → (b i = false → ∀ H4, Same H H4 → Y H4) → LcTurn g tt te vs σ x H Z Y)
    (hd : ∀ H, Same H1 H → H D = some (.lst ((((List.range xs.length).filter b).map f).map V.int)) → Qd H) :
    ∃ W : Nat → Nat → Hp → Prop, (∃ m, W 0 m (L2.upd H1 D (.lst []))) ∧ ∀ i m H, W i m H →
      ((Itl K l).stop i H ∧ Qd H) ∨ ((Itl K l).go i H ∧ ∃ Nx : Hp → Prop, (∀ H', Nx H' → ∃ m', m' < m ∧ W (i + 1) m' H') ∧ ∀ x H', (Itl K l).yld i H x H' → g x (wipe σ vs) H' fun σ2 H2 => wipe σ2 vs = wipe σ vs ∧ tt σ2 H2 fun b H3 =>
        if b = true then te σ2 H3 fun y H4 => ∃ acc, H4 D = some (.lst acc) ∧ acc.length < sizeLine ∧ Nx (L2.upd H4 D (.lst (acc ++ [y]))) else Nx H3) := by
  refine lcL (xs := xs) (fun i acc H => i ≤ xs.length ∧ acc = (((List.range i).filter b).map f).map V.int ∧ Same H1 H) nD ⟨Nat.zero_le _, rfl, Same.new nD⟩ (fun i acc H _ q _ => q.2.2.seq hx) ?_ ?_
  · rintro i x acc H Z Y hi ⟨_, rfl, hsame⟩ ha hz hy
    have hi' := (List.getElem?_eq_some_iff.mp hi).1
    refine hs i x H Z Y hi hsame (fun hb H4 h4 => hz _ H4 (h4 _ _ ha) (sz4' ?_) ⟨hi', ?_, Same.mut (hsame.trans h4) nD⟩) (fun hb H4 h4 => hy H4 (h4 _ _ ha) ⟨hi', ?_, hsame.trans h4⟩)
    · have := List.length_filter_le b (List.range i)
      rw [List.length_range] at this
      simp only [List.length_map]
      omega
    · rw [List.range_succ, List.filter_append, List.map_append, List.map_append, List.filter_cons, if_pos hb]
      rfl
    · rw [List.range_succ, List.filter_append, List.map_append, List.map_append, List.filter_cons, if_neg (by rw [hb]; exact Bool.false_ne_true)]
      simp
  · rintro acc H ⟨_, rfl, hsame⟩ ha
    exact hd H hsame ha
/-- .. whatever is kept: how many -/
theorem lcL_cnt (b : Nat → Bool) (nD : H1 D = none) (hn : xs.length ≤ 1000000) (hx : SqL K H1 l xs)
    (hs : ∀ (i : Nat) (x : V) H (Z : VK) (Y : Hp → Prop), xs[i]? = some x → Same H1 H → (b i = true → ∀ v H4, Same H H4 → Z v H4) → (b i = false → ∀ H4, Same H H4 → Y H4) → LcTurn g tt te vs σ x H Z Y)
    (hd : ∀ acc H, Same H1 H → H D = some (.lst acc) → acc.length = (List.range xs.length).countP b → Qd H) :
    ∃ W : Nat → Nat → Hp → Prop, (∃ m, W 0 m (L2.upd H1 D (.lst []))) ∧ ∀ i m H, W i m H →
      ((Itl K l).stop i H ∧ Qd H) ∨ ((Itl K l).go i H ∧ ∃ Nx : Hp → Prop, (∀ H', Nx H' → ∃ m', m' < m ∧ W (i + 1) m' H') ∧ ∀ x H', (Itl K l).yld i H x H' → g x (wipe σ vs) H' fun σ2 H2 => wipe σ2 vs = wipe σ vs ∧ tt σ2 H2 fun b H3 =>
        if b = true then te σ2 H3 fun y H4 => ∃ acc, H4 D = some (.lst acc) ∧ acc.length < sizeLine ∧ Nx (L2.upd H4 D (.lst (acc ++ [y]))) else Nx H3) := by
  refine lcL (xs := xs) (fun i acc H => i ≤ xs.length ∧ acc.length = (List.range i).countP b ∧ Same H1 H) nD ⟨Nat.zero_le _, rfl, Same.new nD⟩ (fun i acc H _ q _ => q.2.2.seq hx) ?_ ?_
  · rintro i x acc H Z Y hi ⟨_, hl, hsame⟩ ha hz hy
    have hi' := (List.getElem?_eq_some_iff.mp hi).1
    have hle : (List.range i).countP b ≤ i := by
      have := List.countP_le_length (p := b) (l := List.range i)
      rwa [List.length_range] at this
    refine hs i x H Z Y hi hsame (fun hb v H4 h4 => hz _ H4 (h4 _ _ ha) (sz4' (by omega)) ⟨hi', ?_, Same.mut (hsame.trans h4) nD⟩) (fun hb H4 h4 => hy H4 (h4 _ _ ha) ⟨hi', ?_, hsame.trans h4⟩)
    · rw [List.range_succ, List.countP_append, List.length_append, hl, List.countP_singleton, if_pos hb]
      rfl
    · rw [List.range_succ, List.countP_append, hl, List.countP_singleton, if_neg (by rw [hb]; exact Bool.false_ne_true), Nat.add_zero]
  · rintro acc H ⟨_, hl, hsame⟩ ha
    exact hd acc H hsame ha hl
end
theorem range_count {α : Type} (p : α → Bool) (b : Nat → Bool) : ∀ (l : List α), (∀ (i : Nat) (x : α), l[i]? = some x → b i = p x) → (List.range l.length).countP b = l.countP p := by
  intro l
  induction l generalizing b with
  | nil => intro _; rfl
  | cons x l ih =>
    intro h
    rw [List.length_cons, List.range_succ_eq_map, List.countP_cons, List.countP_map, List.countP_cons, ih (b ∘ Nat.succ) fun i y e => h (i + 1) y (by simpa using e), h 0 x rfl]
theorem range_fil {α : Type} (p : α → Bool) (v : α → Int) (b : Nat → Bool) (f : Nat → Int) : ∀ (l : List α), (∀ (i : Nat) (x : α), l[i]? = some x → b i = p x ∧ f i = v x) → (((List.range l.length).filter b).map f).sum = (l.map fun x => if p x = true then v x else 0).sum := by
  intro l
  induction l generalizing b f with
  | nil => intro _; rfl
  | cons x l ih =>
    intro h
    obtain ⟨h1, h2⟩ := h 0 x rfl
    have ih' := ih (b ∘ Nat.succ) (f ∘ Nat.succ) fun i y e => h (i + 1) y (by simpa using e)
    rw [List.length_cons, List.range_succ_eq_map, List.map_cons, List.sum_cons, ← ih', List.filter_cons, h1]
    have e3 : (((List.range l.length).map Nat.succ).filter b).map f = ((List.range l.length).filter (b ∘ Nat.succ)).map (f ∘ Nat.succ) := by
      rw [List.filter_map, List.map_map]
    by_cases c : p x = true
    · rw [if_pos c, if_pos c, List.map_cons, List.sum_cons, e3, h2]
    · rw [if_neg c, if_neg c, e3]
      omega
end Hf
/-! ## sorted and sets of pairs; sorted of a dict whose keys are ints -/
namespace Hf
open PySem PySem.Spec PyProof.Rows L2
section
variable {X : Cx}
def rSortedDK : List V → Hp → VK → Prop := fun xs H Q => ∃ (a : Addr) (kvs : List (Key × V)) (ks : List Int), xs = [V.ref a] ∧ Rd H a (.dK kvs) ∧ kvs.map (·.1) = ks.map Sum.inl ∧ ks.length < 64 ∧
    ∀ (ys : List Int) (p : Addr), ys.Perm ks → ys.Pairwise (· ≤ ·) → H p = none → Q (.ref p) (L2.upd H p (.lst (ys.map V.int)))
theorem cr_sortedDK (hc : X.calm = true) : CallR X (.builtin "sorted") rSortedDK := call_sortedDI hc
theorem cr_sortedPOK (K : PySem.W.Frag) (e : X.K = K) : CallR X (.builtin "sorted") (rSortedPO K) := by
  subst e
  exact cr_sortedPO
/-- len(set(xs)), xs a list of tuples of ints -/
def tLenSetT (K : PySem.W.Frag) (ta : TE) : TE := fun σ H Q => ta σ H fun x H1 => ∃ (l : Addr) (ks : List (Addr × List Int)), x = V.ref l ∧ SqL K H1 l (ks.map fun p => V.ref p.1) ∧ (∀ p ∈ ks, SqT K H1 p.1 (p.2.map V.int)) ∧ ks.length < 64 ∧
  ∀ L : List (List Int), L.Nodup → (∀ q ∈ L, q ∈ ks.map (·.2)) → (∀ q ∈ ks.map (·.2), q ∈ L) → Q (.int (L.length : Nat)) H1
theorem pe_lenSetTK (K : PySem.W.Frag) (eK : X.K = K) {a : Expr} {ta : TE} {p p2 q pos : Pos} (hc : X.calm = true) (hu : X.A.units + 64 < cLine) (hg : Gl X "len") (hm : X.mg "len" = none) (hg2 : Gl X "set") (hm2 : X.mg "set" = none) (ha : PE X a ta)
    (na : starEach [a] X.env = (false, eval a X.env) :: starEach [] X.env := by rfl) : PE X (.Call (.Name "len" p) [.Call (.Name "set" p2) [a] [] q] [] pos) (tLenSetT K ta) := by
  subst eK
  refine ⟨fun pins s σ H Q I h => ?_⟩
  refine Call_ (ld_blt I hg hm PySem.boot_len ?_)
  refine PyProof.Rows.callWith_builtin1 (PyProof.Rows.args_cons ?_ rfl) rfl rfl
  refine Call_ (ld_blt I hg2 hm2 PyProof.Rows.boot_set ?_)
  refine PyProof.Rows.callWith_type1 (PyProof.Rows.args_cons (thn (ha.run pins s σ H _ I h) fun v s1 ⟨x, H1, I1, r1, q1⟩ => PyProof.Rows.args_nil ?_) na) na rfl
  obtain ⟨l, ks, rfl, hq, ht, hf, q2⟩ := q1
  cases r1
  obtain ⟨its, rv, pl, hz⟩ := I1.list hq
  refine call_set_tups (P := X.prog) (w := X.w) ks (I1.ok.hd hc) pl.isList (by simpa using refs_of_vals rv) (fun b hb => I1.isT (ht b hb)) hf (by omega) fun h' tk L es ep t R g k => ?_
  refine PyProof.Rows.args_nil ?_
  obtain ⟨o, ho, hex, hd⟩ := R.ob
  have hn := SetTR.size (s := { s1 with heap := h', toks := tk }) R
  have few := R.few
  have I2 : Inv X pins σ H1 { s1 with heap := h', toks := tk } := I1.kept k
  refine call_len_set ho hex hd (SetTR.fits (s := { s1 with heap := h', toks := tk }) R) (by rw [hn]; omega) ⟨.int ((L.map (·.2)).length : Nat), H1, I2.tok _, ⟨_, by rw [hn, List.length_map]⟩, q2 (L.map (·.2)) R.nd (fun q hq => ?_) fun q hq => ?_⟩
  · obtain ⟨b, hb, rfl⟩ := List.mem_map.mp hq
    exact List.mem_map.mpr ⟨b, List.mem_of_mem_take (g.sub b hb), rfl⟩
  · obtain ⟨b, hb, rfl⟩ := List.mem_map.mp hq
    exact g.all b (by rw [List.take_length]; exact hb)
end
section
variable {σ : L2.St} {H : Hp} {Q : VK} {K : PySem.W.Frag} {p r : Addr} {xs : List V} {ms : List Int} {x : Int} {R : V → Prop}
theorem i_lenSetT {ta : TE} (h : ta σ H fun x H1 => ∃ (l : Addr) (ks : List (Addr × List Int)), x = V.ref l ∧ SqL K H1 l (ks.map fun p => V.ref p.1) ∧ (∀ p ∈ ks, SqT K H1 p.1 (p.2.map V.int)) ∧ ks.length < 64 ∧
  ∀ L : List (List Int), L.Nodup → (∀ q ∈ L, q ∈ ks.map (·.2)) → (∀ q ∈ ks.map (·.2), q ∈ L) → Q (.int (L.length : Nat)) H1) : tLenSetT K ta σ H Q := h
theorem i_sortedPO {k : V → Int × Int} (h : SqL K H p xs) (hx : ∀ x ∈ xs, ∃ t, x = V.ref t ∧ H t = some (.tup [.int (k x).1, .int (k x).2]))
    (q : ∀ ys p, SrtO.Srtd (ltP k) ys → SrtO.Stb (ltP k) ys xs → H p = none → Q (.ref p) (L2.upd H p (.lst ys))) : rSortedPO K [.ref p] H Q := ⟨p, xs, k, rfl, h, hx, q⟩
theorem i_sortedDK {a : Addr} {kvs : List (Key × V)} {f : Int → Int} (h : H a = some (.dK kvs)) (hf : FlI kvs f) (hl : kvs.length < 64)
    (q : ∀ (ns : List Int) (p : Addr), ns.Nodup → (∀ i, i ∈ ns ↔ f i ≠ 0) → H p = none → Q (.ref p) (L2.upd H p (.lst (ns.map V.int)))) : rSortedDK [.ref a] H Q := by
  have e : ∃ ks : List Int, kvs.map (·.1) = ks.map Sum.inl := by
    have := hf.ks
    clear hf h hl
    induction kvs with
    | nil => exact ⟨[], rfl⟩
    | cons kv kvs ih =>
      obtain ⟨ks, e⟩ := ih fun x hx => this x (List.mem_cons_of_mem _ hx)
      obtain ⟨i, e1, _⟩ := this kv List.mem_cons_self
      exact ⟨i :: ks, by rw [List.map_cons, e, e1]; rfl⟩
  obtain ⟨ks, e⟩ := e
  have nd : ks.Nodup := by
    have := hf.nd
    rw [e] at this
    exact nodup_of_map this
  have len : ks.length = kvs.length := by
    have := congrArg List.length e
    rw [List.length_map, List.length_map] at this
    exact this.symm
  refine ⟨a, kvs, ks, rfl, .inl h, e, by omega, fun ys p hp _ hn => q ys p (hp.nodup_iff.mpr nd) (fun i => ?_) hn⟩
  rw [hp.mem_iff]
  have h1 := hf.mem (k := .inl i)
  rw [e] at h1
  constructor
  · intro hi
    obtain ⟨j, hj, hn⟩ := h1.mp (List.mem_map_of_mem hi)
    cases hj
    exact hn
  · intro hi
    obtain ⟨j, hj, ej⟩ := List.mem_map.mp (h1.mpr ⟨i, rfl, hi⟩)
    cases ej
    exact hj
theorem i_neL1 (h1 : SqL K H p (ms.map V.int)) (h2 : SqL K H r [.int x]) (q : Q (.bl (!decide (ms = [x]))) H) : rNeD K (.ref p) (.ref r) H Q := i_neLI (ns := [x]) h1 h2 q
theorem i_eqL1 (h1 : SqL K H p (ms.map V.int)) (h2 : SqL K H r [.int x]) (q : Q (.bl (decide (ms = [x]))) H) : rEqD K (.ref p) (.ref r) H Q := i_eqLI (ns := [x]) h1 h2 q
end
end Hf
/-! ## papers judged: plainly -/
namespace Hf
open PySem PySem.Spec PyProof.Rows L2
def tabD (tb : List (List Int)) : PyData := .list (tb.map planD)
def sideS (sd : Bool) : Str := if sd = true then PySem.Str.ofString "second" else PySem.Str.ofString "first"
def ownS (f s : Int) (sd : Bool) : Int := if sd = true then s else f
def othS (f s : Int) (sd : Bool) : Int := if sd = true then f else s
/-- what is won on a field, the side's own count ahead -/
def payS (fl : Fld) (sd : Bool) (x y : Int) : Int := if sd = true then paidV fl y x else paidV fl x y
/-- what a stream's row wins against a count of the other side's, times its flows -/
def dueV (fl : Fld) (sd : Bool) (L : List Fl) (y : Int) : Int := (L.map fun e => e.2.2 * payS fl sd e.2.1 y).sum
def dueRow (fs : List Fld) (sd : Bool) (Ls : List (List Fl)) (w : Nat) (k : Nat) : List Int := (List.range w).map fun y : Nat => dueV (fldAt fs k) sd ((Ls[k]?).getD []) y
def duesV (fs : List Fld) (sd : Bool) (Ls : List (List Fl)) (w : Nat) : List (List Int) := (List.range fs.length).map (dueRow fs sd Ls w)
def t2 (tb : List (List Int)) (k y : Nat) : Int := (((tb[k]?).getD [])[y]?).getD 0
structure Rect (tb : List (List Int)) (n w : Nat) : Prop where
  len : tb.length = n
  rows : ∀ r ∈ tb, r.length = w
theorem Rect.at {tb : List (List Int)} {n w k : Nat} (h : Rect tb n w) (hk : k < n) : ∃ r, tb[k]? = some r ∧ r.length = w := by
  have hk' : k < tb.length := by rw [h.len]; exact hk
  exact ⟨tb[k], List.getElem?_eq_getElem hk', h.rows _ (List.getElem_mem hk')⟩
theorem Rect.get {tb : List (List Int)} {n w k y : Nat} (h : Rect tb n w) (hk : k < n) (hy : y < w) : ∃ r, tb[k]? = some r ∧ r[y]? = some (t2 tb k y) := by
  obtain ⟨r, e1, e2⟩ := h.at hk
  refine ⟨r, e1, ?_⟩
  unfold t2
  rw [e1, Option.getD_some, List.getElem?_eq_getElem (by omega)]
  rfl
theorem dueRow_len {fs : List Fld} {sd : Bool} {Ls : List (List Fl)} {w k : Nat} : (dueRow fs sd Ls w k).length = w := by
  unfold dueRow
  rw [List.length_map, List.length_range]
theorem dues_rect {fs : List Fld} {sd : Bool} {Ls : List (List Fl)} {w : Nat} : Rect (duesV fs sd Ls w) fs.length w := ⟨by unfold duesV; rw [List.length_map, List.length_range], fun r hr => by
  unfold duesV at hr
  obtain ⟨k, _, rfl⟩ := List.mem_map.mp hr
  exact dueRow_len⟩
theorem dues_t2 {fs : List Fld} {sd : Bool} {Ls : List (List Fl)} {w k y : Nat} (hk : k < fs.length) (hy : y < w) : t2 (duesV fs sd Ls w) k y = dueV (fldAt fs k) sd ((Ls[k]?).getD []) y := by
  unfold t2 duesV
  rw [List.getElem?_map, List.getElem?_range hk, Option.map_some, Option.getD_some]
  unfold dueRow
  rw [List.getElem?_map, List.getElem?_range hy, Option.map_some, Option.getD_some]
/-- what comes of each count that is sent to a field -/
def goV (due tb : List (List Int)) (k l : Nat) : List Int := if k + 1 = due.length then [t2 due k l] else (List.range (l + 1)).map fun s => t2 due k s + t2 tb (k + 1) (l - s)
theorem goV_len {due tb : List (List Int)} {k l : Nat} : 1 ≤ (goV due tb k l).length := by
  unfold goV
  split
  · simp
  · rw [List.length_map, List.length_range]; omega
theorem goV_len2 {due tb : List (List Int)} {k l : Nat} : (goV due tb k l).length ≤ l + 1 := by
  unfold goV
  split
  · simp
  · rw [List.length_map, List.length_range]; omega
theorem goV_mem {due tb : List (List Int)} {k l : Nat} {x : Int} : x ∈ goV due tb k l ↔ (k + 1 = due.length ∧ x = t2 due k l) ∨ (k + 1 ≠ due.length ∧ ∃ s, s ≤ l ∧ x = t2 due k s + t2 tb (k + 1) (l - s)) := by
  unfold goV
  split
  · next c => simp [c]
  · next c =>
    rw [List.mem_map]
    constructor
    · rintro ⟨s, h, rfl⟩
      exact .inr ⟨c, s, by rw [List.mem_range] at h; omega, rfl⟩
    · rintro (⟨h, _⟩ | ⟨_, s, h, rfl⟩)
      · exact absurd h c
      · exact ⟨s, List.mem_range.mpr (by omega), rfl⟩
/-- a table's number does not bound what comes -/
def badAt (due tb : List (List Int)) (sd : Bool) (k l : Nat) : Prop := ∃ x ∈ goV due tb k l, if sd = true then t2 tb k l < x else x < t2 tb k l
/-- the first place of n times w that is bad -/
def FB (B : Nat → Nat → Prop) (n w : Nat) : Option (Nat × Nat) → Prop
  | none => ∀ k l, k < n → l < w → ¬ B k l
  | some (a, b) => a < n ∧ b < w ∧ B a b ∧ ∀ k l, l < w → (k < a ∨ (k = a ∧ l < b)) → ¬ B k l
theorem FB.uniq {B : Nat → Nat → Prop} {n w : Nat} : ∀ {r t : Option (Nat × Nat)}, FB B n w r → FB B n w t → r = t
  | none, none, _, _ => rfl
  | none, some (a, b), h, ⟨h1, h2, h3, _⟩ => absurd h3 (h a b h1 h2)
  | some (a, b), none, ⟨h1, h2, h3, _⟩, h => absurd h3 (h a b h1 h2)
  | some (a, b), some (c, d), ⟨h1, h2, h3, h4⟩, ⟨g1, g2, g3, g4⟩ => by
    by_cases e1 : a < c
    · exact absurd h3 (g4 a b h2 (.inl e1))
    · by_cases e2 : c < a
      · exact absurd g3 (h4 c d g2 (.inl e2))
      · obtain rfl : a = c := by omega
        by_cases e3 : b < d
        · exact absurd h3 (g4 a b h2 (.inr ⟨rfl, e3⟩))
        · by_cases e4 : d < b
          · exact absurd g3 (h4 a d g2 (.inr ⟨rfl, e4⟩))
          · obtain rfl : b = d := by omega
            rfl
/-- a table of n rows of numbers for so many hosts -/
def isTabB (n h : Int) : PyData → Bool
  | .list ds => decide ((ds.length : Int) = n) && ds.all (areNumsD (h + 1))
  | _ => false
theorem numsL_of {n : Int} {d : PyData} (h : areNumsD n d = true) : ∃ ms : List Int, d = planD ms ∧ (ms.length : Int) = n := by
  cases d with
  | list ds =>
    rw [areNumsD, Bool.and_eq_true, decide_eq_true_eq] at h
    obtain ⟨h1, h2⟩ := h
    have : ∃ ms : List Int, ds = ms.map PyData.int := by
      clear h1
      induction ds with
      | nil => exact ⟨[], rfl⟩
      | cons d ds ih =>
        rw [List.all_cons, Bool.and_eq_true] at h2
        obtain ⟨x, rfl⟩ := num_inv h2.1
        obtain ⟨ms, rfl⟩ := ih h2.2
        exact ⟨x :: ms, rfl⟩
    obtain ⟨ms, rfl⟩ := this
    exact ⟨ms, rfl, by rw [List.length_map] at h1; exact h1⟩
  | _ => simp [areNumsD] at h
def IsTab (n h : Int) (d : PyData) : Prop := ∃ tb, d = tabD tb ∧ (tb.length : Int) = n ∧ ∀ r ∈ tb, (r.length : Int) = h + 1
theorem isTab_iff {n h : Int} {d : PyData} : isTabB n h d = true ↔ IsTab n h d := by
  constructor
  · intro e
    cases d with
    | list ds =>
      rw [isTabB, Bool.and_eq_true, decide_eq_true_eq] at e
      obtain ⟨e1, e2⟩ := e
      have : ∃ tb : List (List Int), ds = tb.map planD ∧ ∀ r ∈ tb, (r.length : Int) = h + 1 := by
        clear e1
        induction ds with
        | nil => exact ⟨[], rfl, nofun⟩
        | cons d ds ih =>
          rw [List.all_cons, Bool.and_eq_true] at e2
          obtain ⟨ms, rfl, l⟩ := numsL_of e2.1
          obtain ⟨tb, rfl, q⟩ := ih e2.2
          refine ⟨ms :: tb, rfl, fun r hr => ?_⟩
          rcases List.mem_cons.mp hr with z | z
          · rw [z]; exact l
          · exact q r z
      obtain ⟨tb, rfl, q⟩ := this
      exact ⟨tb, rfl, by rw [List.length_map] at e1; exact e1, q⟩
    | _ => simp [isTabB] at e
  · rintro ⟨tb, rfl, e1, e2⟩
    rw [tabD, isTabB, Bool.and_eq_true, decide_eq_true_eq, List.length_map]
    refine ⟨e1, ?_⟩
    rw [List.all_map, List.all_eq_true]
    intro r hr
    show areNumsD (h + 1) (planD r) = true
    rw [nums_plan, decide_eq_true (e2 r hr)]
theorem isTab_no {n h : Int} {d : PyData} : isTabB n h d = false ↔ ¬ IsTab n h d := by
  rw [← isTab_iff, Bool.not_eq_true]
theorem tabD_inj {a b : List (List Int)} (h : tabD a = tabD b) : a = b := by
  simp only [tabD] at h
  injection h with h
  refine (List.map_inj_right fun x y e => ?_).mp h
  simp only [planD] at e
  injection e with e
  exact (List.map_inj_right fun i j q => by injection q).mp e
/-- a stream's whole -/
def wholeF (Ls : List (List Fl)) : Int := (((Ls[0]?).getD []).map fun e => e.2.2).sum
/-- what a table shows falls short of the worth -/
def ShortW (sd : Bool) (top bot w t : Int) : Prop := if sd = true then top * w < t * bot else t * bot < top * w
def wordD (x : String) : PyData := .tuple [.str (PySem.Str.ofString x)]
def numD (k l : Nat) : PyData := .tuple [.str (PySem.Str.ofString "number"), .int k, .int l]
/-- what judged tells -/
inductive JudR (f s : Int) (fs : List Fld) (sd : Bool) (top bot : Int) (d r : PyData) : Prop
  | paper (h : ∀ a b, d ≠ .tuple [a, b]) (e : r = wordD "paper")
  | stream (a b : PyData) (h : d = .tuple [a, b]) (c : ¬ IsStr (ownS f s sd) fs.length a) (e : r = wordD "stream")
  | table (a b : PyData) (h : d = .tuple [a, b]) (c : IsStr (ownS f s sd) fs.length a) (c2 : ¬ IsTab fs.length (othS f s sd) b) (e : r = wordD "table")
  | num (Ls : List (List Fl)) (tb : List (List Int)) (k l : Nat) (h : d = .tuple [strD Ls, tabD tb]) (g : StrG (ownS f s sd) fs.length Ls) (t : Rect tb fs.length (othS f s sd + 1).toNat) (w : FB (badAt (duesV fs sd Ls (othS f s sd + 1).toNat) tb sd) fs.length (othS f s sd + 1).toNat (some (k, l))) (e : r = numD k l)
  | worth (Ls : List (List Fl)) (tb : List (List Int)) (h : d = .tuple [strD Ls, tabD tb]) (g : StrG (ownS f s sd) fs.length Ls) (t : Rect tb fs.length (othS f s sd + 1).toNat) (w : FB (badAt (duesV fs sd Ls (othS f s sd + 1).toNat) tb sd) fs.length (othS f s sd + 1).toNat none) (c : ShortW sd top bot (wholeF Ls) (t2 tb 0 (othS f s sd).toNat)) (e : r = wordD "worth")
  | good (Ls : List (List Fl)) (tb : List (List Int)) (h : d = .tuple [strD Ls, tabD tb]) (g : StrG (ownS f s sd) fs.length Ls) (t : Rect tb fs.length (othS f s sd + 1).toNat) (w : FB (badAt (duesV fs sd Ls (othS f s sd + 1).toNat) tb sd) fs.length (othS f s sd + 1).toNat none) (c : ¬ ShortW sd top bot (wholeF Ls) (t2 tb 0 (othS f s sd).toNat)) (e : r = .none)
theorem tab_rect {n : Nat} {h : Int} {d : PyData} (k : IsTab n h d) : ∃ tb, d = tabD tb ∧ Rect tb n (h + 1).toNat := by
  obtain ⟨tb, rfl, e1, e2⟩ := k
  exact ⟨tb, rfl, by omega, fun r hr => by have := e2 r hr; omega⟩
theorem rect_tab {n : Nat} {h : Int} {tb : List (List Int)} (h0 : 0 ≤ h) (k : Rect tb n (h + 1).toNat) : IsTab n h (tabD tb) := ⟨tb, rfl, by rw [k.len], fun r hr => by have := k.rows r hr; omega⟩
theorem pair_inj {a b c d : PyData} (h : PyData.tuple [a, b] = .tuple [c, d]) : a = c ∧ b = d := by
  injection h with h
  injection h with h1 h2
  injection h2 with h2
  exact ⟨h1, h2⟩
theorem JudR.uniq {f s : Int} {fs : List Fld} {sd : Bool} {top bot : Int} {d r t : PyData} (h0 : 0 ≤ othS f s sd) (x : JudR f s fs sd top bot d r) (y : JudR f s fs sd top bot d t) : r = t := by
  have ps : ∀ {Ls Ms : List (List Fl)} {tb tc : List (List Int)}, PyData.tuple [strD Ls, tabD tb] = .tuple [strD Ms, tabD tc] → Ls = Ms ∧ tb = tc := fun h => ⟨strD_inj (pair_inj h).1, tabD_inj (pair_inj h).2⟩
  cases x with
  | paper h e =>
    cases y with
    | paper h' e' => rw [e, e']
    | stream a b h' | table a b h' => exact absurd h' (h a b)
    | num Ls tb _ _ h' | worth Ls tb h' | good Ls tb h' => exact absurd h' (h _ _)
  | stream a b h c e =>
    cases y with
    | paper h' => exact absurd h (h' a b)
    | stream a' b' h' c' e' => rw [e, e']
    | table a' b' h' c' => exact absurd (by rw [(pair_inj (h.symm.trans h')).1]; exact c') c
    | num Ls tb _ _ h' g | worth Ls tb h' g | good Ls tb h' g => exact absurd ⟨Ls, (pair_inj (h.symm.trans h')).1, g⟩ c
  | table a b h c c2 e =>
    cases y with
    | paper h' => exact absurd h (h' a b)
    | stream a' b' h' c' => exact absurd (by rw [← (pair_inj (h.symm.trans h')).1]; exact c) c'
    | table a' b' h' c' c2' e' => rw [e, e']
    | num Ls tb _ _ h' g t' | worth Ls tb h' g t' | good Ls tb h' g t' => exact absurd (by rw [(pair_inj (h.symm.trans h')).2]; exact rect_tab h0 t') c2
  | num Ls tb k l h g t' w e =>
    cases y with
    | paper h' => exact absurd h (h' _ _)
    | stream a' b' h' c' => exact absurd ⟨Ls, (pair_inj (h'.symm.trans h)).1, g⟩ c'
    | table a' b' h' c' c2' => exact absurd (by rw [(pair_inj (h'.symm.trans h)).2]; exact rect_tab h0 t') c2'
    | num Ms tc k' l' h' g' t'' w' e' =>
      obtain ⟨rfl, rfl⟩ := ps (h.symm.trans h')
      have := w.uniq w'
      cases this
      rw [e, e']
    | worth Ms tc h' g' t'' w' | good Ms tc h' g' t'' w' =>
      obtain ⟨rfl, rfl⟩ := ps (h.symm.trans h')
      have := w.uniq w'
      cases this
  | worth Ls tb h g t' w c e =>
    cases y with
    | paper h' => exact absurd h (h' _ _)
    | stream a' b' h' c' => exact absurd ⟨Ls, (pair_inj (h'.symm.trans h)).1, g⟩ c'
    | table a' b' h' c' c2' => exact absurd (by rw [(pair_inj (h'.symm.trans h)).2]; exact rect_tab h0 t') c2'
    | num Ms tc k' l' h' g' t'' w' =>
      obtain ⟨rfl, rfl⟩ := ps (h.symm.trans h')
      have := w.uniq w'
      cases this
    | worth Ms tc h' g' t'' w' c' e' => rw [e, e']
    | good Ms tc h' g' t'' w' c' =>
      obtain ⟨rfl, rfl⟩ := ps (h.symm.trans h')
      exact absurd c c'
  | good Ls tb h g t' w c e =>
    cases y with
    | paper h' => exact absurd h (h' _ _)
    | stream a' b' h' c' => exact absurd ⟨Ls, (pair_inj (h'.symm.trans h)).1, g⟩ c'
    | table a' b' h' c' c2' => exact absurd (by rw [(pair_inj (h'.symm.trans h)).2]; exact rect_tab h0 t') c2'
    | num Ms tc k' l' h' g' t'' w' =>
      obtain ⟨rfl, rfl⟩ := ps (h.symm.trans h')
      have := w.uniq w'
      cases this
    | worth Ms tc h' g' t'' w' c' =>
      obtain ⟨rfl, rfl⟩ := ps (h.symm.trans h')
      exact absurd c' c
    | good Ms tc h' g' t'' w' c' e' => rw [e, e']
/-! ### how great numbers are -/
def Wd (b : Nat) (x : Int) : Prop := x.natAbs < 2 ^ b
theorem Wd.mono {a b : Nat} {x : Int} (h : Wd a x) (e : a ≤ b) : Wd b x := Nat.lt_of_lt_of_le h (Nat.pow_le_pow_right (by decide) e)
theorem Wd.cmul {a b : Nat} {x y : Int} (hx : Wd a x) (hy : Wd b y) (h0 : 0 < a) (h1 : 0 < b) (h : a + b ≤ 1000000) : CMulA x y := mulW hx hy h0 h1 h
theorem Wd.mul {a b : Nat} {x y : Int} (hx : Wd a x) (hy : Wd b y) : Wd (a + b) (x * y) := by
  unfold Wd at *
  rw [Int.natAbs_mul, Nat.pow_add]
  by_cases c : y.natAbs = 0
  · rw [c, Nat.mul_zero]
    exact Nat.mul_pos (Nat.two_pow_pos a) (Nat.two_pow_pos b)
  · exact Nat.mul_lt_mul_of_lt_of_le hx (Nat.le_of_lt hy) (Nat.two_pow_pos b)
theorem Wd.add {a : Nat} {x y : Int} (hx : Wd a x) (hy : Wd a y) : Wd (a + 1) (x + y) := by
  unfold Wd at *
  have := Int.natAbs_add_le x y
  rw [Nat.pow_succ]
  omega
theorem Wd.neg {a : Nat} {x : Int} (hx : Wd a x) : Wd a (0 - x) := by
  unfold Wd at *
  rw [Int.zero_sub, Int.natAbs_neg]
  exact hx
theorem wd_sum {a k : Nat} {l : List Int} (h : ∀ x ∈ l, Wd a x) (hl : l.length ≤ 2 ^ k) : Wd (a + k) l.sum := by
  have key : ∀ l : List Int, (∀ x ∈ l, Wd a x) → l.sum.natAbs + l.length ≤ l.length * 2 ^ a := by
    intro l
    induction l with
    | nil => intro _; simp
    | cons x l ih =>
      intro h
      have h1 : x.natAbs < 2 ^ a := h x List.mem_cons_self
      have h2 := ih fun y hy => h y (List.mem_cons_of_mem _ hy)
      have h3 := Int.natAbs_add_le x l.sum
      rw [List.sum_cons, List.length_cons, Nat.succ_mul]
      omega
  have h1 := key l h
  unfold Wd
  rw [Nat.pow_add]
  have h2 : l.length * 2 ^ a ≤ 2 ^ k * 2 ^ a := Nat.mul_le_mul_right _ hl
  rw [Nat.mul_comm (2 ^ k)] at h2
  cases l with
  | nil =>
    simp only [List.sum_nil, Int.natAbs_zero]
    exact Nat.mul_pos (Nat.two_pow_pos a) (Nat.two_pow_pos k)
  | cons x l =>
    rw [List.length_cons] at h1 h2
    omega
theorem wd_log {k : Nat} {x : Int} (h : x.natAbs.log2 < k) : Wd k x := by
  unfold Wd
  by_cases c : x.natAbs = 0
  · rw [c]; exact Nat.two_pow_pos k
  · exact (Nat.log2_lt c).mp h
theorem shA_mem : ∀ {ds : List PyData} {d : PyData}, PyData.showableAll ds = true → d ∈ ds → d.showable = true
  | [], _, _, h => by simp at h
  | e :: ds, d, h, hd => by
    rw [PyData.showableAll, Bool.and_eq_true] at h
    rcases List.mem_cons.mp hd with z | z
    · rw [z]; exact h.1
    · exact shA_mem h.2 z
theorem sh_int {x : Int} (h : (PyData.int x).showable = true) : Wd 1920 x := by
  rw [PyData.showable] at h
  exact wd_log (of_decide_eq_true h)
theorem sh_flows {Ls : List (List Fl)} (h : (strD Ls).showable = true) : ∀ L ∈ Ls, ∀ e ∈ L, Wd 1920 e.2.2 := by
  intro L hL e he
  rw [strD, PyData.showable] at h
  have h1 := shA_mem h (List.mem_map_of_mem hL)
  rw [rowD, PyData.showable] at h1
  have h2 := shA_mem h1 (List.mem_map_of_mem he)
  rw [flD, PyData.showable] at h2
  exact sh_int (shA_mem h2 (by simp))
theorem sh_table {tb : List (List Int)} (h : (tabD tb).showable = true) : ∀ r ∈ tb, ∀ x ∈ r, Wd 1920 x := by
  intro r hr x hx
  rw [tabD, PyData.showable] at h
  have h1 := shA_mem h (List.mem_map_of_mem hr)
  rw [planD, PyData.showable] at h1
  exact sh_int (shA_mem h1 (List.mem_map_of_mem hx))
theorem sh_pair {a b : PyData} (h : (PyData.tuple [a, b]).showable = true) : a.showable = true ∧ b.showable = true := by
  rw [PyData.showable] at h
  exact ⟨shA_mem h (by simp), shA_mem h (by simp)⟩
/-- what is won on the fields is not too great -/
def PayWd (fs : List Fld) (f s : Int) : Prop := ∀ fl ∈ fs, ∀ x y : Int, 0 ≤ x → x ≤ f → 0 ≤ y → y ≤ s → Wd 8000 (paidV fl x y)
theorem pay_wd {fs : List Fld} {f s : Int} (h : ∀ x ∈ fs, FldSm x) : PayWd fs f s := by
  intro fl hf x y _ _ _ _
  have sm : ∀ {z : Int}, Sm z → Wd 110 z := fun {z} hz => by
    unfold Sm at hz
    unfold Wd
    omega
  have k := h fl hf
  refine Wd.mono (a := 110) ?_ (by decide)
  cases fl with
  | more w t =>
    show Wd 110 (if x = y then t else if x > y then w else 0 - w)
    split
    · exact sm k.2
    · split
      · exact sm k.1
      · exact (sm k.1).neg
  | lead w t =>
    show Wd 110 (if x ≥ y + t then w else 0 - w)
    split
    · exact sm k.1
    · exact (sm k.1).neg
  | tab rows =>
    show Wd 110 ((((rows[x.toNat]?).getD [])[y.toNat]?).getD 0)
    cases e : rows[x.toNat]? with
    | none => simp [Wd]
    | some r =>
      cases e2 : r[y.toNat]? with
      | none => simp [e2, Wd]
      | some z =>
        simp only [Option.getD_some, e2]
        exact sm (k r (List.mem_of_getElem? e) z (List.mem_of_getElem? e2))
/-- a stream's shape, as dues wants it -/
def StrS (h : Int) (n : Nat) (Ls : List (List Fl)) : Prop := Ls.length = n ∧ ∀ L ∈ Ls, L.length ≤ 1000 ∧ ∀ e ∈ L, 0 ≤ e.2.1 ∧ e.2.1 ≤ h ∧ Wd 1920 e.2.2
theorem StrG.s {h : Int} {n : Nat} {Ls : List (List Fl)} (g : StrG h n Ls) (w : wid (strD Ls) ≤ 1000) (b : (strD Ls).showable = true) : StrS h n Ls := by
  refine ⟨by have := g.ne.1; omega, fun L hL => ⟨?_, fun e he => ?_⟩⟩
  · rw [strD, wid] at w
    have h1 := widA_mem (List.mem_map_of_mem (f := rowD) hL)
    rw [rowD, wid, List.length_map] at h1
    omega
  · have k := (g.pre.rows L hL).ok e he
    exact ⟨k.1, by have := k.2.1; have := k.2.2.1; omega, sh_flows b L hL e he⟩
theorem str_inv {H : Hp} {v : V} {Ls : List (List Fl)} (h : Dq H v (strD Ls)) : ∃ a xs, v = .ref a ∧ H a = some (.lst xs) ∧ DqAll H xs (Ls.map rowD) := by
  obtain ⟨a, xs, rfl, h1, h2⟩ := h.list_inv
  exact ⟨a, xs, rfl, h1, h2⟩
theorem tab_inv {H : Hp} {v : V} {tb : List (List Int)} (h : Dq H v (tabD tb)) : ∃ a xs, v = .ref a ∧ H a = some (.lst xs) ∧ DqAll H xs (tb.map planD) := by
  obtain ⟨a, xs, rfl, h1, h2⟩ := h.list_inv
  exact ⟨a, xs, rfl, h1, h2⟩
theorem tab_at {H : Hp} {xs : List V} {tb : List (List Int)} {n w k : Nat} (q : DqAll H xs (tb.map planD)) (r : Rect tb n w) (hk : k < n) : ∃ p ms, xs[k]? = some (.ref p) ∧ H p = some (.lst (List.map V.int ms)) ∧ List.length ms = w ∧ ∀ y, y < w → ms[y]? = some (t2 tb k y) := by
  have hl : xs.length = tb.length := by rw [q.len, List.length_map]
  have hk' : k < xs.length := by rw [hl, r.len]; exact hk
  obtain ⟨ms, p, e1, e2, e3⟩ := row_at q (List.getElem?_eq_getElem hk')
  refine ⟨p, ms, by rw [List.getElem?_eq_getElem hk', e2], e3, r.rows _ (List.mem_of_getElem? e1), fun y hy => ?_⟩
  obtain ⟨r', f1, f2⟩ := r.get hk hy
  rw [e1] at f1
  cases f1
  exact f2
theorem DqAll.two {H : Hp} {xs : List V} {a b : PyData} (q : DqAll H xs [a, b]) : ∃ x y, xs = [x, y] ∧ Dq H x a ∧ Dq H y b := by
  cases q with
  | cons h q =>
    cases q with
    | cons h2 q => cases q; exact ⟨_, _, rfl, h, h2⟩
theorem inV2 {w a b : Str} (h1 : ¬ w = a) (h2 : ¬ w = b) : L2.inV (.str w) [.str a, .str b] = false := by
  have h1' : ¬ a = w := fun e => h1 e.symm
  have h2' : ¬ b = w := fun e => h2 e.symm
  simp [L2.inV, L2.eqV, h1', h2']
end Hf
/-! ## own lists of own lists of ints; reversed ranges -/
namespace Hf
open PySem PySem.Spec PyProof.Rows L2
structure Own2 (H : Hp) (T : Addr) (qs : List Addr) (tb : List (List Int)) : Prop where
  top : H T = some (.lst (qs.map V.ref))
  len : qs.length = tb.length
  row : ∀ (k : Nat) (q : Addr) (r : List Int), qs[k]? = some q → tb[k]? = some r → H q = some (.lst (r.map V.int))
  nd : qs.Nodup
  off : T ∉ qs
section
variable {H H' : Hp} {T : Addr} {qs : List Addr} {tb : List (List Int)}
theorem Own2.same (h : Own2 H T qs tb) (s : Same H H') : Own2 H' T qs tb := ⟨s _ _ h.top, h.len, fun k q r a b => s _ _ (h.row k q r a b), h.nd, h.off⟩
theorem Own2.dqA (h : Own2 H T qs tb) : DqAll H (qs.map V.ref) (tb.map planD) := by
  have key : ∀ (qs : List Addr) (tb : List (List Int)), qs.length = tb.length → (∀ (k : Nat) (q : Addr) (r : List Int), qs[k]? = some q → tb[k]? = some r → H q = some (.lst (r.map V.int))) → DqAll H (qs.map V.ref) (tb.map planD) := by
    intro qs
    induction qs with
    | nil =>
      intro tb h1 _
      cases tb with
      | nil => exact .nil
      | cons r tb => simp at h1
    | cons q qs ih =>
      intro tb h1 h2
      cases tb with
      | nil => simp at h1
      | cons r tb =>
        rw [List.map_cons, List.map_cons]
        refine .cons (row_mk (h2 0 q r rfl rfl)) (ih tb (by simpa using h1) fun k q' r' a b => h2 (k + 1) q' r' (by simpa using a) (by simpa using b))
  exact key qs tb h.len h.row
theorem Own2.dq (h : Own2 H T qs tb) : Dq H (.ref T) (tabD tb) := .lst h.top h.dqA
theorem Own2.lst (h : Own2 H T qs tb) : ∀ q ∈ qs, ∃ o, H q = some o := fun q hq => by
  obtain ⟨k, hk⟩ := List.mem_iff_getElem?.mp hq
  have hk' : k < tb.length := by rw [← h.len]; exact (List.getElem?_eq_some_iff.mp hk).1
  exact ⟨_, h.row k q _ hk (List.getElem?_eq_getElem hk')⟩
theorem Own2.set (h : Own2 H T qs tb) {k : Nat} {q : Addr} (e : qs[k]? = some q) (r' : List Int) : Own2 (upd H q (.lst (r'.map V.int))) T qs (tb.set k r') := by
  have hq : q ∈ qs := List.mem_of_getElem? e
  have hk : k < tb.length := by rw [← h.len]; exact (List.getElem?_eq_some_iff.mp e).1
  have hT : T ≠ q := fun z => h.off (by rw [z]; exact hq)
  refine ⟨by rw [upd_ne hT]; exact h.top, by rw [List.length_set]; exact h.len, fun j p r a b => ?_, h.nd, h.off⟩
  by_cases c : j = k
  · subst c
    rw [e] at a
    cases a
    rw [List.getElem?_set_self hk] at b
    cases b
    exact upd_same
  · rw [List.getElem?_set_ne (Ne.symm c)] at b
    have hp : p ≠ q := fun z => by
      subst z
      exact c (nodup_at h.nd a e)
    rw [upd_ne hp]
    exact h.row j p r a b
/-- what else changes -/
theorem Own2.but {p : Addr} (h : Own2 H T qs tb) (s : But p H H') (n : T ≠ p) (m : p ∉ qs) : Own2 H' T qs tb := ⟨s _ _ n h.top, h.len, fun k q r a b => s _ _ (fun z => m (by rw [← z]; exact List.mem_of_getElem? a)) (h.row k q r a b), h.nd, h.off⟩
end
section
variable {σ : L2.St} {H H1 : Hp} {Q : VK} {K : PySem.W.Frag} {D l : Addr} {g : TG} {tt : TT} {te : TE} {vs : List Nat} {xs : List V} {Qd : Hp → Prop} {lo : Int} {n : Nat}
theorem two_snoc {H H4 : Hp} {qs : List Addr} {q : Addr} {f : Nat → List Int} {i : Nat} {D : Addr} (hl : qs.length = i) (k : ∀ (k : Nat) (q : Addr), qs[k]? = some q → H q = some (.lst ((f k).map V.int))) (nd : qs.Nodup) (off : D ∉ qs) (nq : H q = none)
    (hD : H D = some (.lst (qs.map V.ref))) (hq : H4 q = some (.lst ((f i).map V.int))) (s : Same H H4) :
    (∀ (k : Nat) (p : Addr), (qs ++ [q])[k]? = some p → (upd H4 D (.lst (qs.map V.ref ++ [V.ref q]))) p = some (.lst ((f k).map V.int))) ∧ (qs ++ [q]).Nodup ∧ D ∉ qs ++ [q] := by
  have qD : q ≠ D := ne_new' nq hD
  have qn : q ∉ qs := fun z => by
    obtain ⟨j, hj⟩ := List.mem_iff_getElem?.mp z
    rw [k j q hj] at nq
    cases nq
  refine ⟨fun j p e => ?_, ?_, ?_⟩
  · by_cases c : j < qs.length
    · rw [List.getElem?_append_left c] at e
      have pD : p ≠ D := fun z => off (by rw [← z]; exact List.mem_of_getElem? e)
      rw [upd_ne pD]
      exact s _ _ (k j p e)
    · rw [List.getElem?_append_right (by omega)] at e
      have : j - qs.length = 0 := by
        have := (List.getElem?_eq_some_iff.mp e).1
        simp at this
        omega
      rw [this] at e
      cases e
      rw [show j = i by omega, upd_ne qD]
      exact hq
  · rw [List.nodup_append]
    exact ⟨nd, by simp, fun a ha b hb e => by rw [List.mem_singleton.mp hb] at e; exact qn (by rw [← e]; exact ha)⟩
  · intro z
    rcases List.mem_append.mp z with z | z
    · exact off z
    · exact qD (List.mem_singleton.mp z).symm
theorem own2_of {H : Hp} {qs : List Addr} {f : Nat → List Int} {n : Nat} {D : Addr} (hD : H D = some (.lst (qs.map V.ref))) (hl : qs.length = n) (k : ∀ (k : Nat) (q : Addr), qs[k]? = some q → H q = some (.lst ((f k).map V.int))) (nd : qs.Nodup) (off : D ∉ qs) : Own2 H D qs ((List.range n).map f) := by
  refine ⟨hD, by rw [List.length_map, List.length_range]; exact hl, fun j q r a b => ?_, nd, off⟩
  have hj : j < n := by rw [← hl]; exact (List.getElem?_eq_some_iff.mp a).1
  rw [List.getElem?_map, List.getElem?_range hj] at b
  cases b
  exact k j q a
theorem lcL_2d (f : Nat → List Int) (nD : H1 D = none) (hn : xs.length ≤ 1000000) (hx : SqL K H1 l xs)
    (hs : ∀ (i : Nat) (x : V) H (Z : VK) (Y : Hp → Prop), xs[i]? = some x → Same H1 H → (∀ q H4, H4 q = some (.lst ((f i).map V.int)) → H q = none → Same H H4 → Z (.ref q) H4) → LcTurn g tt te vs σ x H Z Y)
    (hd : ∀ qs H, Own2 H D qs ((List.range xs.length).map f) → (∀ q ∈ qs, H1 q = none) → Same H1 H → Qd H) :
    ∃ W : Nat → Nat → Hp → Prop, (∃ m, W 0 m (upd H1 D (.lst []))) ∧ ∀ i m H, W i m H →
      ((Itl K l).stop i H ∧ Qd H) ∨ ((Itl K l).go i H ∧ ∃ Nx : Hp → Prop, (∀ H', Nx H' → ∃ m', m' < m ∧ W (i + 1) m' H') ∧ ∀ x H', (Itl K l).yld i H x H' → g x (wipe σ vs) H' fun σ2 H2 => wipe σ2 vs = wipe σ vs ∧ tt σ2 H2 fun b H3 =>
        if b = true then te σ2 H3 fun y H4 => ∃ acc, H4 D = some (.lst acc) ∧ acc.length < sizeLine ∧ Nx (upd H4 D (.lst (acc ++ [y]))) else Nx H3) := by
  refine lcL (xs := xs) (fun i acc H => ∃ qs : List Addr, acc = qs.map V.ref ∧ qs.length = i ∧ (∀ (k : Nat) (q : Addr), qs[k]? = some q → H q = some (.lst ((f k).map V.int))) ∧ qs.Nodup ∧ D ∉ qs ∧ (∀ q ∈ qs, H1 q = none) ∧ Same H1 H) nD ⟨[], rfl, rfl, by simp, List.nodup_nil, by simp, nofun, Same.new nD⟩ (fun i acc H _ q _ => by obtain ⟨_, _, _, _, _, _, _, s⟩ := q; exact s.seq hx) ?_ ?_
  · rintro i x acc H Z Y hi ⟨qs, rfl, h1, h2, h3, h4, h5, h6⟩ hD hz _
    have hi' : i < xs.length := (List.getElem?_eq_some_iff.mp hi).1
    refine hs i x H Z Y hi h6 fun q H4 k1 k2 k3 => ?_
    obtain ⟨t1, t2, t3⟩ := two_snoc h1 h2 h3 h4 k2 hD k1 k3
    refine hz _ _ (k3 _ _ hD) (sz4' (by rw [List.length_map]; omega)) ⟨qs ++ [q], by rw [List.map_append]; rfl, by rw [List.length_append, h1]; rfl, t1, t2, t3, fun p hp => ?_, Same.mut (h6.trans k3) nD⟩
    rcases List.mem_append.mp hp with z | z
    · exact h5 p z
    · rw [List.mem_singleton.mp z]; exact h6.free k2
  · rintro acc H ⟨qs, rfl, h1, h2, h3, h4, h5, h6⟩ hD
    exact hd qs H (own2_of hD h1 h2 h3 h4) h5 h6
theorem lcR_2d (f : Nat → List Int) (nD : H1 D = none) (hn : n ≤ 1000000)
    (hs : ∀ (i : Nat) H (Z : VK) (Y : Hp → Prop), i < n → Same H1 H → (∀ q H4, H4 q = some (.lst ((f i).map V.int)) → H q = none → Same H H4 → Z (.ref q) H4) → LcTurn g tt te vs σ (.int (lo + i)) H Z Y)
    (hd : ∀ qs H, Own2 H D qs ((List.range n).map f) → (∀ q ∈ qs, H1 q = none) → Same H1 H → Qd H) :
    ∃ W : Nat → Nat → Hp → Prop, (∃ m, W 0 m (upd H1 D (.lst []))) ∧ ∀ i m H, W i m H →
      ((Itr lo n).stop i H ∧ Qd H) ∨ ((Itr lo n).go i H ∧ ∃ Nx : Hp → Prop, (∀ H', Nx H' → ∃ m', m' < m ∧ W (i + 1) m' H') ∧ ∀ x H', (Itr lo n).yld i H x H' → g x (wipe σ vs) H' fun σ2 H2 => wipe σ2 vs = wipe σ vs ∧ tt σ2 H2 fun b H3 =>
        if b = true then te σ2 H3 fun y H4 => ∃ acc, H4 D = some (.lst acc) ∧ acc.length < sizeLine ∧ Nx (upd H4 D (.lst (acc ++ [y]))) else Nx H3) := by
  refine lcR (fun i acc H => ∃ qs : List Addr, acc = qs.map V.ref ∧ qs.length = i ∧ (∀ (k : Nat) (q : Addr), qs[k]? = some q → H q = some (.lst ((f k).map V.int))) ∧ qs.Nodup ∧ D ∉ qs ∧ (∀ q ∈ qs, H1 q = none) ∧ Same H1 H) nD ⟨[], rfl, rfl, by simp, List.nodup_nil, by simp, nofun, Same.new nD⟩ ?_ ?_
  · rintro i acc H Z Y hi ⟨qs, rfl, h1, h2, h3, h4, h5, h6⟩ hD hz _
    refine hs i H Z Y hi h6 fun q H4 k1 k2 k3 => ?_
    obtain ⟨t1, t2, t3⟩ := two_snoc h1 h2 h3 h4 k2 hD k1 k3
    refine hz _ _ (k3 _ _ hD) (sz4' (by rw [List.length_map]; omega)) ⟨qs ++ [q], by rw [List.map_append]; rfl, by rw [List.length_append, h1]; rfl, t1, t2, t3, fun p hp => ?_, Same.mut (h6.trans k3) nD⟩
    rcases List.mem_append.mp hp with z | z
    · exact h5 p z
    · rw [List.mem_singleton.mp z]; exact h6.free k2
  · rintro acc H ⟨qs, rfl, h1, h2, h3, h4, h5, h6⟩ hD
    exact hd qs H (own2_of hD h1 h2 h3 h4) h5 h6
end
/-! ### for over a reversed range -/
section
variable {σ : L2.St} {H : Hp} {Q : VK} {nx bk ct : L2.St → Hp → Prop} {rt : VK} {g : TG} {tb : TS} {lo c : Int} {n : Nat}
theorem forC (Pv : Nat → L2.St → Hp → Prop) (h0 : Pv 0 σ H) (hd : ∀ σ H, Pv n σ H → nx σ H)
    (hs : ∀ (i : Nat) σ H, i < n → Pv i σ H → g (.int (lo + (i : Nat) * c)) σ H fun σ2 H2 => tb ⟨Pv (i + 1), rt, nx, Pv (i + 1)⟩ σ2 H2) :
    ∃ W : Nat → Nat → L2.St → Hp → Prop, (∃ m, W 0 m σ H) ∧ ∀ i m σ H, W i m σ H →
      ((Itc lo c n).stop i H ∧ nx σ H) ∨ ((Itc lo c n).go i H ∧ ∃ N : L2.St → Hp → Prop, (∀ σ' H', N σ' H' → ∃ m', m' < m ∧ W (i + 1) m' σ' H') ∧ ∀ x H', (Itc lo c n).yld i H x H' → g x σ H' fun σ2 H2 => tb ⟨N, rt, nx, N⟩ σ2 H2) :=
  for_rangeC (D := ⟨nx, rt, fun _ _ => False, fun _ _ => False⟩) Pv h0 hs hd
theorem i_revRg {tr : L2.St → Hp → (Int → Int → Hp → Prop) → Prop} {R : It → Hp → Prop} (h : tr σ H fun a b H1 => -(2 ^ 62) ≤ a ∧ a < 2 ^ 62 ∧ -(2 ^ 62) ≤ b ∧ b < 2 ^ 62 ∧ R (Itc (a + (((b - a).toNat : Nat) : Int) - 1) (-1) (b - a).toNat) H1) : iRevR tr σ H R := h
theorem i_revRg' {i j : Int} {A : Prop} (h0 : -(2 ^ 62) ≤ i) (h1 : i < 2 ^ 62) (h2 : -(2 ^ 62) ≤ j) (h3 : j < 2 ^ 62) (q : A) : -(2 ^ 62) ≤ i ∧ i < 2 ^ 62 ∧ -(2 ^ 62) ≤ j ∧ j < 2 ^ 62 ∧ A := ⟨h0, h1, h2, h3, q⟩
end
theorem Own2.hid {H : Hp} {T : Addr} {qs : List Addr} {tb : List (List Int)} {X : List Addr} (h : Own2 H T qs tb) (n : T ∉ X) (m : ∀ q ∈ qs, q ∉ X) : Own2 (hid X H) T qs tb := ⟨hid_lk n h.top, h.len, fun k q r a b => hid_lk (m q (List.mem_of_getElem? a)) (h.row k q r a b), h.nd, h.off⟩
theorem hid_ext {H H1 : Hp} {S X : List Addr} (s : Same H H1) (h : ∀ b ∈ X, b ∈ S ∨ H b = none) : Same (hid S H) (hid X H1) := fun b o e => by
  by_cases c : b ∈ S
  · rw [hid_in c] at e
    cases e
  · rw [hid_out c] at e
    have n : b ∉ X := fun z => by
      rcases h b z with z | z
      · exact c z
      · rw [z] at e; cases e
    exact hid_lk n (s b o e)
theorem Pk.ne' {a r : Addr} {m c0 : Int} {H : Hp} (h : Hf.Pk a m H c0) (n : H r = none) : r ≠ a := Hf.Pk.ne n h
theorem hid_new {H : Hp} {X : List Addr} {p : Addr} {o : HO} (n : H p = none) : Same (hid X H) (hid X (L2.upd H p o)) := hid_mono (Same.new n)
theorem hid_mut {S : List Addr} {G H : Hp} {q : Addr} {o : HO} (s : Same G (hid S H)) (n : G q = none) : Same G (hid S (L2.upd H q o)) := fun b u e => by
  have h := s b u e
  have bq : b ≠ q := ne_of_none e n
  by_cases c : b ∈ S
  · rw [hid_in c] at h
    cases h
  · rw [hid_out c] at h
    exact hid_lk c (lk_upd bq h)
end Hf
/-! ## str of any data, in the law's own frame; the law's call by the claim's caller alone -/
namespace Hf
open PySem PySem.Spec PyProof.Rows L2
/-! ### str -/
def isRefD : PyData → Bool
  | .list _ => true
  | .tuple _ => true
  | _ => false
/-- what str tells of data -/
def strT : PyData → Str
  | .str x => x
  | d => d.shown
def rStrD (K : PySem.W.Frag) : List V → Hp → VK → Prop := fun xs H Q => ∃ (v : V) (d : PyData), xs = [v] ∧ Dp K H v d ∧ d.showable = true ∧ d.hasDict = false ∧ d.depth ≤ 64 ∧ d.shown.length ≤ sizeLine ∧ Q (.str (strT d)) H
theorem call_strDK {X : Cx} (K : PySem.W.Frag) (eK : X.K = K) (hg : X.A.guards = some []) (hu : X.A.units + 100 < cLine) : CallR X (.type "str") (rStrD K) := by
  subst eK
  intro pins s σ H vs us Q I rel hq
  obtain ⟨v, d, rfl, dp, sh, nd, hd, hz, q⟩ := hq
  obtain ⟨u, rfl, ru⟩ := vals1 rel
  cases dp with
  | non =>
    cases ru
    exact PySem.P.str_of_none ⟨.str _, H, I.tok _, ⟨_, rfl⟩, q⟩
  | bl b =>
    cases ru
    exact PySem.P.str_of_bool ⟨.str _, H, I.tok _, ⟨_, rfl⟩, q⟩
  | int i =>
    obtain ⟨t, rfl⟩ := ru
    have sh' : i.natAbs.log2 < 1920 := by simpa [PyData.showable] using sh
    exact PySem.P.str_of_int sh' ⟨.str _, H, I.tok _, ⟨_, rfl⟩, q⟩
  | str x =>
    obtain ⟨t, rfl⟩ := ru
    exact PySem.P.str_of_str ⟨.str x, H, I, ⟨t, rfl⟩, q⟩
  | lst hs hq' =>
    cases ru
    obtain ⟨as, r⟩ := Dp.reads I _ _ _ (.lst hs hq') rfl
    refine PySem.str_of_reads r sh (fun hx => absurd hx (by rw [nd]; simp)) hg (by omega) (fun _ _ e => e) (fun h' w tk keep => ⟨.str _, H, I.kept keep, ⟨_, rfl⟩, q⟩) hz
  | tup hs hq' =>
    cases ru
    obtain ⟨as, r⟩ := Dp.reads I _ _ _ (.tup hs hq') rfl
    refine PySem.str_of_reads r sh (fun hx => absurd hx (by rw [nd]; simp)) hg (by omega) (fun _ _ e => e) (fun h' w tk keep => ⟨.str _, H, I.kept keep, ⟨_, rfl⟩, q⟩) hz
theorem i_strD {K : PySem.W.Frag} {H : Hp} {Q : VK} {v : V} {d : PyData} (h : Dq H v d) (s1 : d.showable = true) (s2 : d.hasDict = false) (s3 : d.depth ≤ 64) (s4 : d.shown.length ≤ sizeLine) (q : Q (.str (strT d)) H) : rStrD K [v] H Q :=
  ⟨v, d, rfl, h.dp, s1, s2, s3, s4, q⟩
/-! ### the law's def, called by the claim's caller -/
structure FnA (P : Program) (w : World) (K : PySem.W.Frag) (mg : Str → Option Value) (base : Heap) (k : Nat) (f : Addr) (fd : FuncData) (ps : List Str) (sp : Sp) : Prop where
  len : ∀ vs H Q E, sp vs H Q E → vs.length = ps.length
  run : ∀ (s : Shared) (H : Hp) (args : Args) (us : List Value) (vs : List V) (Q : VK) (E : XK), Room k callerA → Env0 P w K mg base callerA [] s H → BindsTo s fd args (ps.zip us) → Vals vs us → sp vs H Q E →
    codeAny (model P w) callerA (.call (.ref f) args) (CR CX0 [] P w H s Q E) s
section
variable {P : Program} {w : World} {K : PySem.W.Frag} {mg : Str → Option Value} {base : Heap}
theorem fun_okA {nm ql : Str} {st : Stmt} {f : Addr} {fd : FuncData} {N ps : List Str} {k : Nat} {sp : Sp} (F : Fun K nm ql st f fd) (S : FnScope N ps (defScope st)) (ln : ∀ vs H Q E, sp vs H Q E → vs.length = ps.length)
    (bd : ∀ (cv : Value) (s : Shared) (H : Hp) (vs : List V) (Q : VK) (E : XK), Room k (callerA.deeper (envOfC ql (defScope st) s.heap.objs.size f cv)) → sp vs H Q E →
      ∃ t, PSs (cxOf CX0 P w K mg base N ql (defScope st) f cv callerA [] s H E).nox (defBody st) t ∧ t { nx := fun _ H' => Q .non H', rt := Q } (start N vs) H) : FnA P w K mg base (k + 1) f fd ps sp := by
  obtain ⟨c1, c2, c3, c4, c5, c6, cv, c8, c9, rfl, lk, cd⟩ := F.ex
  refine ⟨ln, fun s H args us vs Q E room e0 binds rel prom => ?_⟩
  have inK : K.In s.heap := e0.mod.kin.keeps fun b o z => (e0.bs b o z).1
  have noLim : s.heap.NoLimit := e0.mod.nolimit.keeps fun b o z => (e0.bs b o z).1
  have kinds : ∀ y ∈ ps.zip us, (defScope st).names.lookup y.1 = some .local ∨ ((defScope st).names.lookup y.1 = some .cell ∧ ((cellsFrom (s.heap.objs.size + 1) (defScope st).names []).lookup y.1).isSome = true) := by
    rintro ⟨n, v⟩ mem
    rcases S.par n (List.of_mem_zip mem).1 with z | z
    · exact Or.inl z
    · exact Or.inr ⟨z, PySem.W.cellsFrom_some _ _ _ (Or.inl z)⟩
  refine codeAny_call_function room.depth (inK _ _ lk) rfl S.co S.gen rfl (PySem.W.codeRec_of inK cd) (binds _ _ _ _ ?_)
  refine wpAny_newFunctionEnv_cells S.kind kinds fun en een s2 done => ?_
  subst een
  refine ⟨noLim.keeps done.toInCall.keep, codeAny_func ?_⟩
  obtain ⟨t, der, rd⟩ := bd cv s H vs Q E (room.deeper _) prom
  have J0 : Inv (cxOf CX0 P w K mg base N ql (defScope st) f cv callerA [] s H E) [] (start N vs) H s2 := inv_start S room.hd e0 (ln _ _ _ _ prom) rel done
  refine wpAny_mono (der.nox.run [] s2 (start N vs) H _ J0 rd) (fun fl s' z => ?_) fun e s' z => z
  cases fl with
  | ret u =>
    obtain ⟨v, σ', H', J, rv, q⟩ := z
    exact ⟨v, H', J.os, J.bare, J.base, J.hok, rv, q⟩
  | next =>
    obtain ⟨σ', H', J, q⟩ := z
    exact ⟨V.non, H', J.os, J.bare, J.base, J.hok, rfl, q⟩
  | brk =>
    obtain ⟨_, _, _, q⟩ := z
    exact q.elim
  | cont =>
    obtain ⟨_, _, _, q⟩ := z
    exact q.elim
end
/-- what stands in the heap behind the top, for the law: the script alone, or nothing at all -/
theorem heap_for {P : Program} {w : World} {K : PySem.W.Frag} {h : Heap} {a : Addr} {us : List Value} {ms : List Int} (inK : K.In h) (at_a : h.get? a = some { cls := .type "list", data := .seq us.toArray }) (isI : IntsAre us ms) (small : ms.length ≤ sizeLine) :
    ∃ H : Hp, Only H ∧ SqL K H a (ms.map V.int) ∧ HOk P w H h ∧ ∀ b, H b ≠ none → b = a ∧ K.lookup a = none := by
  have rel := vals_ints isI
  cases known : K.lookup a with
  | some o =>
    have same := (inK a o known).symm.trans at_a
    cases same
    refine ⟨fun _ => none, fun _ => Or.inl rfl, Or.inr ⟨_, us.toArray, _, known, rfl, rfl, rfl, ?_, by simpa using rel⟩, fun b u z => ?_, fun b z => absurd rfl z⟩
    · rw [List.size_toArray, isI.length]
      exact small
    · have z' : (none : Option HO) = some u := z
      cases z'
  | none =>
    refine ⟨fun b => if b = a then some (.frz { cls := .type "list", data := .seq us.toArray } (.lst (ms.map V.int))) else none, fun b => ?_, Or.inl (Or.inr ⟨{ cls := .type "list", data := .seq us.toArray }, if_pos rfl⟩), fun b u z => ?_, fun b z => ?_⟩
    · by_cases c : b = a
      · exact Or.inr ⟨_, _, if_pos c⟩
      · exact Or.inl (if_neg c)
    · by_cases c : b = a
      · have z' := (if_pos c).symm.trans z
        cases z'
        subst c
        exact ⟨at_a, by rw [List.length_map]; exact small, us, _, rel, at_a⟩
      · have z' := (if_neg c).symm.trans z
        cases z'
    · by_cases c : b = a
      · exact ⟨c, rfl⟩
      · exact absurd (if_neg c) z
theorem law_callA {P : Program} {w : World} {K : PySem.W.Frag} {mg mb : Str → Option Value} {k : Nat} {g a : Addr} {fd : FuncData} {y : Str} {sp : Sp} {s : Shared} {us : List Value} {ms : List Int}
    (inK : K.In s.heap) (glob : s.heap.Ns mainGlobals mg) (bltn : s.heap.Ns builtinsNs mb) (boot : ∀ z : Str, z ≠ "__name__" → mb z = bootBuiltins z) (nol : s.heap.NoLimit) (gen0 : s.gens = #[])
    (at_a : s.heap.get? a = some { cls := .type "list", data := .seq us.toArray }) (isI : IntsAre us ms) (small : ms.length ≤ sizeLine) (room : Room k callerA)
    (F : ∀ bs : Heap, K.In bs → bs.Ns mainGlobals mg → FnA P w K mg bs k g fd [y] sp) (binds : ∀ (s : Shared) (u : Value), BindsTo s fd ⟨[u], []⟩ [(y, u)])
    (prom : ∀ H : Hp, Only H → SqL K H a (ms.map V.int) → sp [.ref a] H (fun v _ => v = .bl true) fun _ _ _ => False) :
    codeAny (model P w) callerA (.call (.ref g) ⟨[.ref a], []⟩) (fun r s' => r = .ok (.ret (.bool true)) ∧ OldK s.heap s'.heap ∧ s'.os = s.os ∧ AllBare s'.gens) s := by
  obtain ⟨H, only, seq, ok, one⟩ := heap_for (P := P) (w := w) inK at_a isI small
  have shown : ∀ {b : Addr} {o : Obj}, s.heap.get? b = some o → H b = none → (hidT s.heap H).get? b = some o := fun z n => hidT_get z n
  have dicts : ∀ {b : Addr} {o : Obj} {es : Array DictEntry} {ep : Nat}, s.heap.get? b = some o → o.data = .dict es ep → H b = none := by
    intro b o es ep z dt
    cases c : H b with
    | none => rfl
    | some u =>
      have eb : b = a := (one b (by rw [c]; simp)).1
      subst eb
      rw [at_a] at z
      cases z
      have dt' : Data.seq us.toArray _ = Data.dict es ep := dt
      cases dt'
  have spaces : ∀ {b : Addr} {m : Str → Option Value}, s.heap.Ns b m → (hidT s.heap H).Ns b m := by
    rintro b m ⟨o, es, ep, z, dt, r⟩
    exact ⟨o, es, ep, shown z (dicts z dt), dt, r⟩
  have inB : K.In (hidT s.heap H) := fun b o z => shown (inK b o z) (by
    cases c : H b with
    | none => rfl
    | some u =>
      obtain ⟨eb, no⟩ := one b (by rw [c]; simp)
      subst eb
      rw [no] at z
      cases z)
  have mod : Mod K mg (hidT s.heap H) := by
    obtain ⟨mc, l1, l2⟩ := nol
    exact ⟨inB, spaces glob, ⟨mb, spaces bltn, boot⟩, ⟨mc, spaces l1, l2⟩⟩
  have env : Env0 P w K mg (hidT s.heap H) callerA [] s H := ⟨rfl, mod, fun b o z => of_hidT z, Nat.le_of_eq (hidT_size _ _), trivial, fun b z => absurd (show b ∈ ([] : List Addr) from z) (by simp), ok, .of_eq gen0⟩
  refine codeAny_mono ((F _ inB (spaces glob)).run s H ⟨[.ref a], []⟩ [.ref a] [.ref a] _ _ room env (binds s (.ref a)) (.cons rfl .nil) (prom H only seq)) fun r s' z => ?_
  match r, z with
  | .error e, z => exact z.elim
  | .ok .next, z => exact z.elim
  | .ok .brk, z => exact z.elim
  | .ok .cont, z => exact z.elim
  | .ok (.ret u), ⟨v, H', os, bare, un, ok', rv, q⟩ =>
    have ev : v = .bl true := q
    subst ev
    obtain rfl : u = Value.bool true := rv
    refine ⟨rfl, OldK.of_keep fun b o z => ?_, os, bare⟩
    cases c : H b with
    | none => exact un.keep b o z c (fun m => absurd (show b ∈ ([] : List Addr) from m) (by simp)) (by simp)
    | some u =>
      rcases only b with n | ⟨ob, xs, n⟩
      · rw [c] at n
        cases n
      · obtain ⟨e1, _⟩ := ok b _ n
        obtain ⟨e2, _⟩ := ok' b _ (un.frzs b ob _ n)
        rw [z] at e1
        cases e1
        exact e2
theorem walk_ofA {l : PySem.W.OpenLaw} {n k : Nat} {q : Program} {loose : List Str} {XP : (Str → Option Value) → Heap → Prop} {YP : World → Heap → Prop} {d : DefRec} {K : Params → PySem.W.Frag} {sp : World → Sp} {y : Str}
    (most : l.most = some n) (line : n ≤ sizeLine) (nodef : d.params.defaults = []) (room : Room k callerA)
    (kin : ∀ (w : World) (h : Heap), YP w h → (K w.params).In h)
    (F : ∀ (w : World) (mg : Str → Option Value) (g : Addr) (h : Heap), (K w.params).In h → h.Ns mainGlobals mg → mg d.name = some (.ref g) →
      ∃ fd : FuncData, (∀ (s : Shared) (u : Value), BindsTo s fd ⟨[u], []⟩ [(y, u)]) ∧
        ∀ bs : Heap, (K w.params).In bs → bs.Ns mainGlobals mg → FnA l.prog w (K w.params) mg bs k g fd [y] (sp w))
    (prom : ∀ (w : World) (H : Hp) (a : Addr) (ns : List Int), ns.length ≤ n → Only H → SqL (K w.params) H a (ns.map V.int) → sp w [.ref a] H (fun v _ => v = .bl true) fun _ _ _ => False) :
    PySem.W.WalkO q loose XP YP l.row.toRowW d [] (fun f vs => PySem.call f vs) := by
  refine Att.attach_call most nodef fun w s0 s1 mg mb g o pm cd doc a us ms G Y ho hd hcd named obj isI few gen0 => ?_
  have inK := kin w _ Y
  obtain ⟨fd, binds, F'⟩ := F w mg g _ inK G.T.g named
  exact law_callA inK G.T.g G.T.b G.T.builtins G.T.nolimit gen0 obj isI (Nat.le_trans few line) room F' binds fun H only seq => prom w H a ms few only seq
end Hf
/-! ## data that is short enough for str -/
namespace Hf
open PySem PySem.Spec PyProof.Rows L2
structure Sd (x n : Nat) (d : PyData) : Prop where
  lay : d.canLay0 = true
  dp : dep d ≤ x
  bk : d.bulk ≤ n
  sh : d.showable = true
  lv : d.leavesShort 250 = true
theorem Sd.mono {x x' n n' : Nat} {d : PyData} (h : Sd x n d) (h1 : x ≤ x') (h2 : n ≤ n') : Sd x' n' d := ⟨h.lay, Nat.le_trans h.dp h1, Nat.le_trans h.bk h2, h.sh, h.lv⟩
theorem bulkA_mem : ∀ {ds : List PyData} {d : PyData}, d ∈ ds → d.bulk ≤ PyData.bulkAll ds
  | e :: ds, d, h => by
    rw [PyData.bulkAll]
    rcases List.mem_cons.mp h with z | z
    · rw [z]; omega
    · have := bulkA_mem z
      omega
theorem bulkA_len : ∀ ds : List PyData, ds.length ≤ PyData.bulkAll ds
  | [] => by simp [PyData.bulkAll]
  | d :: ds => by
    have := bulkA_len ds
    rw [PyData.bulkAll, List.length_cons]
    omega
theorem bulkA_app : ∀ ds es : List PyData, PyData.bulkAll (ds ++ es) = PyData.bulkAll ds + PyData.bulkAll es
  | [], es => by simp [PyData.bulkAll]
  | d :: ds, es => by
    rw [List.cons_append, PyData.bulkAll, PyData.bulkAll, bulkA_app ds es]
    omega
mutual
theorem wid_bulk : ∀ d : PyData, Hf.wid d ≤ d.bulk
  | .none => by simp [Hf.wid]
  | .bool _ => by simp [Hf.wid]
  | .int _ => by simp [Hf.wid]
  | .str _ => by simp [Hf.wid]
  | .list ds => by
    have h1 := widA_bulk ds
    have h2 := bulkA_len ds
    rw [Hf.wid, PyData.bulk]
    omega
  | .tuple ds => by
    have h1 := widA_bulk ds
    have h2 := bulkA_len ds
    rw [Hf.wid, PyData.bulk]
    omega
  | .dict _ => by simp [Hf.wid]
theorem widA_bulk : ∀ ds : List PyData, widA ds ≤ PyData.bulkAll ds
  | [] => by simp [widA]
  | d :: ds => by
    have h1 := wid_bulk d
    have h2 := widA_bulk ds
    rw [widA, PyData.bulkAll]
    omega
end
theorem shA : ∀ {ds : List PyData}, (∀ d ∈ ds, d.showable = true) → PyData.showableAll ds = true
  | [], _ => by simp [PyData.showableAll]
  | d :: ds, h => by rw [PyData.showableAll, h d List.mem_cons_self, shA fun e he => h e (List.mem_cons_of_mem _ he)]; rfl
theorem lvA : ∀ {ds : List PyData}, (∀ d ∈ ds, d.leavesShort 250 = true) → PyData.leavesShortAll 250 ds = true
  | [], _ => by simp [PyData.leavesShortAll]
  | d :: ds, h => by rw [PyData.leavesShortAll, h d List.mem_cons_self, lvA fun e he => h e (List.mem_cons_of_mem _ he)]; rfl
theorem Sd.list {x n : Nat} {ds : List PyData} (h : ∀ d ∈ ds, Sd x n d) (b : PyData.bulkAll ds ≤ n) : Sd (x + 1) n (.list ds) := ⟨by rw [PyData.canLay0]; exact lay_all fun d hd => (h d hd).lay, by
  have := depA_le fun d hd => (h d hd).dp
  rw [Hf.dep]; omega, by rw [PyData.bulk]; exact b, by rw [PyData.showable]; exact shA fun d hd => (h d hd).sh, by rw [PyData.leavesShort]; exact lvA fun d hd => (h d hd).lv⟩
theorem Sd.tuple {x n : Nat} {ds : List PyData} (h : ∀ d ∈ ds, Sd x n d) (b : PyData.bulkAll ds ≤ n) : Sd (x + 1) n (.tuple ds) := ⟨by rw [PyData.canLay0]; exact lay_all fun d hd => (h d hd).lay, by
  have := depA_le fun d hd => (h d hd).dp
  rw [Hf.dep]; omega, by rw [PyData.bulk]; exact b, by rw [PyData.showable]; exact shA fun d hd => (h d hd).sh, by rw [PyData.leavesShort]; exact lvA fun d hd => (h d hd).lv⟩
theorem Sd.int {x n : Nat} {i : Int} (h : i.natAbs < 2 ^ 200) : Sd x n (.int i) := by
  have l : i.natAbs.log2 < 200 := PySem.Flt.log2_lt_of (by decide) h
  refine ⟨by simp [PyData.canLay0], by simp [Hf.dep], by simp [PyData.bulk], ?_, ?_⟩
  · rw [PyData.showable]
    exact decide_eq_true (by omega)
  · rw [PyData.leavesShort]
    have := PySem.int_text_length_le (k := 200) (by decide) l
    refine decide_eq_true ?_
    show (Str.ofString (toString i)).length ≤ 250
    have e : (Str.ofString (toString i)).length = (toString i).length := PySem.ofString_length _
    rw [e]
    omega
theorem Sd.bool {x n : Nat} {b : Bool} : Sd x n (.bool b) := ⟨by simp [PyData.canLay0], by simp [Hf.dep], by simp [PyData.bulk], by simp [PyData.showable], by simp [PyData.leavesShort]⟩
theorem Sd.none {x n : Nat} : Sd x n .none := ⟨by simp [PyData.canLay0], by simp [Hf.dep], by simp [PyData.bulk], by simp [PyData.showable], by simp [PyData.leavesShort]⟩
theorem Sd.str {x n : Nat} {s : Str} (h : (PyData.str s).canLay0 = true) (b : s.cps.size ≤ n) (l : (PyData.str s).leavesShort 250 = true) : Sd x n (.str s) := ⟨h, by simp [Hf.dep], by rw [PyData.bulk]; exact b, by simp [PyData.showable], l⟩
theorem Sd.ok {x n : Nat} {d : PyData} (h : Sd x n d) (hx : x ≤ 60) (hn : n ≤ 60000) : d.showable = true ∧ d.hasDict = false ∧ d.depth ≤ 64 ∧ d.shown.length ≤ sizeLine ∧ SeqAt.shaped d = true ∧ Hf.wid d ≤ n := by
  have h1 := PyData.shown_le_bulk 250 (by decide) d h.lv
  have h2 := h.bk
  have h3 := h.dp
  have h4 := depth_dep h.lay
  refine ⟨h.sh, PyData.hasDict_of_canLay d h.lay, by omega, ?_, shaped_of h.lay (by omega), Nat.le_trans (wid_bulk d) h2⟩
  have e : sizeLine = 16777216 := rfl
  have : (250 + 2) * d.bulk ≤ 252 * 60000 := Nat.mul_le_mul (by decide) (by omega)
  omega
def Dz (H : Hp) (v : V) (x n : Nat) : Prop := ∃ d, Dq H v d ∧ Sd x n d
def DzA (H : Hp) (vs : List V) (x n : Nat) : Prop := ∃ ds, DqAll H vs ds ∧ (∀ d ∈ ds, Sd x n d) ∧ PyData.bulkAll ds ≤ n
variable {H H' : Hp} {v : V} {vs ws : List V} {x x' n n' m : Nat} {a p : Addr}
theorem Dz.same (h : Dz H v x n) (s : Same H H') : Dz H' v x n := ⟨h.choose, h.choose_spec.1.same s, h.choose_spec.2⟩
theorem DzA.same (h : DzA H vs x n) (s : Same H H') : DzA H' vs x n := ⟨h.choose, h.choose_spec.1.same s, h.choose_spec.2⟩
theorem Dz.mono (h : Dz H v x n) (h1 : x ≤ x') (h2 : n ≤ n') : Dz H v x' n' := ⟨h.choose, h.choose_spec.1, h.choose_spec.2.mono h1 h2⟩
theorem DzA.mono (h : DzA H vs x n) (h1 : x ≤ x') (h2 : n ≤ n') : DzA H vs x' n' := ⟨h.choose, h.choose_spec.1, fun d hd => (h.choose_spec.2.1 d hd).mono h1 h2, Nat.le_trans h.choose_spec.2.2 h2⟩
theorem DzA.nil : DzA H [] x n := ⟨[], .nil, nofun, by simp [PyData.bulkAll]⟩
theorem DzA.cons (h : Dz H v x n) (q : DzA H vs x m) : DzA H (v :: vs) x (n + 1 + m) := by
  obtain ⟨d, h1, h2⟩ := h
  obtain ⟨ds, q1, q2, q3⟩ := q
  refine ⟨d :: ds, .cons h1 q1, fun e he => ?_, ?_⟩
  · rcases List.mem_cons.mp he with z | z
    · rw [z]; exact h2.mono (Nat.le_refl _) (by omega)
    · exact (q2 e z).mono (Nat.le_refl _) (by omega)
  · rw [PyData.bulkAll]
    have := h2.bk
    omega
theorem DzA.append (h : DzA H vs x n) (q : DzA H ws x m) : DzA H (vs ++ ws) x (n + m) := by
  obtain ⟨ds, h1, h2, h3⟩ := h
  obtain ⟨es, q1, q2, q3⟩ := q
  refine ⟨ds ++ es, h1.append q1, fun e he => ?_, ?_⟩
  · rcases List.mem_append.mp he with z | z
    · exact (h2 e z).mono (Nat.le_refl _) (by omega)
    · exact (q2 e z).mono (Nat.le_refl _) (by omega)
  · rw [bulkA_app]
    omega
theorem DzA.take (h : DzA H vs x n) (k : Nat) : DzA H (vs.take k) x n := by
  obtain ⟨ds, h1, h2, h3⟩ := h
  refine ⟨ds.take k, h1.take k, fun d hd => h2 d (List.mem_of_mem_take hd), ?_⟩
  have := bulkA_app (ds.take k) (ds.drop k)
  rw [List.take_append_drop] at this
  omega
theorem DzA.drop (h : DzA H vs x n) (k : Nat) : DzA H (vs.drop k) x n := by
  obtain ⟨ds, h1, h2, h3⟩ := h
  refine ⟨ds.drop k, h1.drop k, fun d hd => h2 d (List.mem_of_mem_drop hd), ?_⟩
  have := bulkA_app (ds.take k) (ds.drop k)
  rw [List.take_append_drop] at this
  omega
theorem DzA.at (h : DzA H vs x n) {k : Nat} (e : vs[k]? = some v) : Dz H v x n := by
  obtain ⟨ds, h1, h2, h3⟩ := h
  obtain ⟨d, e1, e2⟩ := h1.get' e
  exact ⟨d, e2, h2 d (List.mem_of_getElem? e1)⟩
theorem DzA.set (h : DzA H vs x n) (q : Dz H v x m) (k : Nat) (hk : k < vs.length) : DzA H (vs.set k v) x (n + (m + 1 + n)) := by
  have e : vs.set k v = vs.take k ++ v :: vs.drop (k + 1) := List.set_eq_take_append_cons_drop.trans (if_pos hk)
  rw [e]
  exact (h.take k).append (DzA.cons q (h.drop (k + 1)))
theorem Dz.int {i : Int} (h : i.natAbs < 2 ^ 200) : Dz H (.int i) x 0 := ⟨_, .int i, Sd.int h⟩
theorem Dz.bl (b : Bool) : Dz H (.bl b) x 0 := ⟨_, .bl b, Sd.bool⟩
theorem Dz.non : Dz H .non x 0 := ⟨_, .non, Sd.none⟩
theorem Dz.str {s : Str} (h : (PyData.str s).canLay0 = true) (b : s.cps.size ≤ 20) (l : (PyData.str s).leavesShort 250 = true) : Dz H (.str s) x 20 := ⟨_, .str s, Sd.str h b l⟩
theorem Dz.lst (h : H p = some (.lst vs)) (q : DzA H vs x n) : Dz H (.ref p) (x + 1) n := by
  obtain ⟨ds, q1, q2, q3⟩ := q
  exact ⟨.list ds, .lst h q1, Sd.list q2 q3⟩
theorem Dz.tup (h : H p = some (.tup vs)) (q : DzA H vs x n) : Dz H (.ref p) (x + 1) n := by
  obtain ⟨ds, q1, q2, q3⟩ := q
  exact ⟨.tuple ds, .tup h q1, Sd.tuple q2 q3⟩
theorem DzA.ints : ∀ {ms : List Int}, (∀ i ∈ ms, i.natAbs < 2 ^ 200) → DzA H (ms.map V.int) x ms.length
  | [], _ => DzA.nil
  | i :: ms, h => (DzA.cons (Dz.int (h i List.mem_cons_self)) (DzA.ints fun j hj => h j (List.mem_cons_of_mem _ hj))).mono (Nat.le_refl _) (by rw [List.length_cons]; omega)
theorem hu100 {A : Around} {k : Nat} (hr : Room k A) : A.units + 100 < cLine := by
  have := hr.un
  omega
end Hf
/-! ## battles are short enough for str; what is won is few -/
namespace Hf
open PySem PySem.Spec PyProof.Rows L2
theorem sm_abs2 {x : Int} (h : Sm x) : x.natAbs < 2 ^ 200 := by
  unfold Sm at h
  omega
theorem bulkA_le {k : Nat} : ∀ {ds : List PyData}, (∀ d ∈ ds, d.bulk ≤ k) → PyData.bulkAll ds ≤ ds.length * (k + 1)
  | [], _ => by simp [PyData.bulkAll]
  | d :: ds, h => by
    have h1 := h d List.mem_cons_self
    have h2 := bulkA_le fun e he => h e (List.mem_cons_of_mem _ he)
    rw [PyData.bulkAll, List.length_cons, Nat.succ_mul]
    omega
theorem sd_ints {r : List Int} {n : Nat} (h : ∀ x ∈ r, x.natAbs < 2 ^ 200) (l : r.length ≤ n) : Sd 1 n (planD r) := by
  refine Sd.list (fun d hd => ?_) ?_
  · obtain ⟨x, hx, rfl⟩ := List.mem_map.mp hd
    exact Sd.int (h x hx)
  · have := bulkA_le (k := 0) (ds := r.map PyData.int) fun d hd => by
      obtain ⟨x, hx, rfl⟩ := List.mem_map.mp hd
      simp [PyData.bulk]
    rw [List.length_map] at this
    omega
theorem sd_word {w : Str} (h : (PyData.str w).canLay0 = true) (b : w.cps.size ≤ 20) (l : (PyData.str w).leavesShort 250 = true) {x n : Nat} (hn : 20 ≤ n) : Sd x n (.str w) := Sd.str h (by omega) l
theorem sd_fld {fl : Fld} {f s : Int} (k : FldOk f s fl) (h : FldSm fl) (hf : f ≤ 10) (hs : s ≤ 10) : Sd 3 200 (fldD fl) := by
  have two : ∀ (w : Str) (a b : Int), (PyData.str w).canLay0 = true → w.cps.size ≤ 20 → (PyData.str w).leavesShort 250 = true → Sm a → Sm b → Sd 3 200 (.tuple [.str w, .int a, .int b]) := fun w a b e1 e2 e3 ha hb => by
    refine Sd.tuple (fun d hd => ?_) ?_
    · simp only [List.mem_cons, List.not_mem_nil, or_false] at hd
      rcases hd with rfl | rfl | rfl
      · exact sd_word e1 e2 e3 (by decide)
      · exact Sd.int (sm_abs2 ha)
      · exact Sd.int (sm_abs2 hb)
    · simp only [PyData.bulkAll, PyData.bulk]
      omega
  cases fl with
  | more w t => exact two _ w t (by decide +kernel) (by decide +kernel) (by decide +kernel) h.1 h.2
  | lead w t => exact two _ w t (by decide +kernel) (by decide +kernel) (by decide +kernel) h.1 h.2
  | tab rows =>
    obtain ⟨h1, h2⟩ := k
    have hr : ∀ d ∈ rows.map planD, Sd 1 11 d := fun d hd => by
      obtain ⟨r, hr, rfl⟩ := List.mem_map.mp hd
      have := h2 r hr
      exact sd_ints (fun x hx => sm_abs2 (h r hr x hx)) (by omega)
    have hb := bulkA_le (k := 11) fun d hd => (hr d hd).bk
    rw [List.length_map] at hb
    have hl : Sd 2 150 (.list (rows.map planD)) := Sd.list (fun d hd => (hr d hd).mono (Nat.le_refl _) (by decide)) (by omega)
    have e : (PySem.Str.ofString "table").cps.size ≤ 20 := by decide +kernel
    refine Sd.tuple (fun d hd => ?_) ?_
    · simp only [List.mem_cons, List.not_mem_nil, or_false] at hd
      rcases hd with rfl | rfl
      · exact sd_word (by decide +kernel) e (by decide +kernel) (by decide)
      · exact hl.mono (Nat.le_refl _) (by decide)
    · have := hl.bk
      simp only [PyData.bulkAll, PyData.bulk] at this ⊢
      omega
theorem sd_flds {fs : List Fld} {f s : Int} (k : ∀ x ∈ fs, FldOk f s x) (h : ∀ x ∈ fs, FldSm x) (hf : f ≤ 10) (hs : s ≤ 10) (l : fs.length ≤ 6) : Sd 4 1500 (.list (fs.map fldD)) := by
  have a : ∀ d ∈ fs.map fldD, Sd 3 200 d := fun d hd => by
    obtain ⟨x, hx, rfl⟩ := List.mem_map.mp hd
    exact sd_fld (k x hx) (h x hx) hf hs
  have b := bulkA_le fun d hd => (a d hd).bk
  rw [List.length_map] at b
  exact Sd.list (fun d hd => (a d hd).mono (Nat.le_refl _) (by decide)) (by omega)
def Few (fl : Fld) (f s : Int) : Prop := ∀ x y, 0 ≤ x → x ≤ f → 0 ≤ y → y ≤ s → (paidV fl x y).natAbs ≤ 2 ^ 110
theorem few_sm {fl : Fld} {f s : Int} (h : FldSm fl) : Few fl f s := by
  intro x y hx1 hx2 hy1 hy2
  have sm : ∀ {z : Int}, Sm z → z.natAbs ≤ 2 ^ 110 := fun {z} hz => by
    unfold Sm at hz
    omega
  cases fl with
  | more w t =>
    have h1 := sm h.1
    have h2 := sm h.2
    show (if x = y then t else if x > y then w else 0 - w).natAbs ≤ 2 ^ 110
    split
    · exact h2
    · split
      · exact h1
      · rw [Int.zero_sub, Int.natAbs_neg]; exact h1
  | lead w t =>
    have h1 := sm h.1
    show (if x ≥ y + t then w else 0 - w).natAbs ≤ 2 ^ 110
    split
    · exact h1
    · rw [Int.zero_sub, Int.natAbs_neg]; exact h1
  | tab rows =>
    show ((((rows[x.toNat]?).getD [])[y.toNat]?).getD 0).natAbs ≤ 2 ^ 110
    cases e : rows[x.toNat]? with
    | none => simp
    | some r =>
      cases e2 : r[y.toNat]? with
      | none => simp [e2]
      | some z =>
        simp only [Option.getD_some, e2]
        exact sm (h r (List.mem_of_getElem? e) z (List.mem_of_getElem? e2))
theorem bat_rep {H : Hp} {a q : Addr} {f s : Int} {v : V} {fl : Fld} {n : Nat} (h : H a = some (.tup [.int f, .int s, .ref q])) (h1 : H q = some (.lst (List.replicate n v))) (h2 : Dq H v (fldD fl)) : Dq H (.ref a) (batD f s (List.replicate n fl)) :=
  bat_mk h h1 (by rw [List.map_replicate]; exact DqAll.rep h2 n)
end Hf
/-! ## a purse of cells: two places -/
namespace Hf
open PySem PySem.Spec PyProof.Rows L2
def Pc (p c : Addr) (H : Hp) (z0 : Int) : Prop := ∃ (ns : List Int) (z : Int), H p = some (.lst [.ref c, .int z]) ∧ H c = some (.lst (ns.map V.int)) ∧ p ≠ c ∧ (1 ≤ ns.length ∧ ns.length ≤ 63) ∧ 0 ≤ z ∧ z ≤ z0
section
variable {p c r b : Addr} {z0 z1 : Int} {H H' H1 G : Hp} {o : HO}
theorem Pc.mono (h : Pc p c H z0) (e : z0 ≤ z1) : Pc p c H z1 := by
  obtain ⟨ns, z, h1, h2, h3, h4, h5, h6⟩ := h
  exact ⟨ns, z, h1, h2, h3, h4, h5, by omega⟩
theorem Pc.cast (h : Pc p c H z0) (e : z0 = z1) : Pc p c H z1 := e ▸ h
theorem Pc.same (h : Pc p c H z0) (s : Same H H') : Pc p c H' z0 := by
  obtain ⟨ns, z, h1, h2, h3⟩ := h
  exact ⟨ns, z, s _ _ h1, s _ _ h2, h3⟩
theorem Pc.new (h : Pc p c H z0) (hp : H r = none) : Pc p c (L2.upd H r o) z0 := h.same (Same.new hp)
theorem Pc.upd (h : Pc p c H z0) (n1 : r ≠ p) (n2 : r ≠ c) : Pc p c (L2.upd H r o) z0 := by
  obtain ⟨ns, z, h1, h2, h3⟩ := h
  exact ⟨ns, z, by rw [upd_ne n1.symm]; exact h1, by rw [upd_ne n2.symm]; exact h2, h3⟩
theorem Pc.but (h : Pc p c H z0) (s : But r H H') (n1 : r ≠ p) (n2 : r ≠ c) : Pc p c H' z0 := by
  obtain ⟨ns, z, h1, h2, h3⟩ := h
  exact ⟨ns, z, s _ _ n1.symm h1, s _ _ n2.symm h2, h3⟩
theorem Pc.newT (hp : H r = none) (h : Pc p c H z0) : Pc p c (L2.upd H r o) z0 := h.new hp
theorem Pc.sameT (s : Same H H') (h : Pc p c H z0) : Pc p c H' z0 := h.same s
theorem Pc.ne1 (h : Pc p c H z0) (n : H r = none) : r ≠ p := by
  obtain ⟨_, _, h1, h2, _⟩ := h
  exact (ne_of_none h1 n).symm
theorem Pc.ne2 (h : Pc p c H z0) (n : H r = none) : r ≠ c := by
  obtain ⟨_, _, h1, h2, _⟩ := h
  exact (ne_of_none h2 n).symm
theorem Pc.ne1' (n : H r = none) (h : Pc p c H z0) : r ≠ p := h.ne1 n
theorem Pc.ne2' (n : H r = none) (h : Pc p c H z0) : r ≠ c := h.ne2 n
theorem Pc.free (hn : H' r = none) (e : But2 p c H H') (h : Pc p c H' z0) : H r = none := by
  obtain ⟨_, _, h1, h2, _⟩ := h
  exact But2.free hn e h1 h2
theorem Newly.pc1 (n : Newly H G) (h : Pc p c H z0) : G p = none := by
  obtain ⟨_, _, h1, h2, _⟩ := h
  exact n.free h1
theorem Newly.pc2 (n : Newly H G) (h : Pc p c H z0) : G c = none := by
  obtain ⟨_, _, h1, h2, _⟩ := h
  exact n.free h2
theorem fr_butC {S : List Addr} {H2 : Hp} (h : Pc p c H z0) (s : But2 p c H1 H2) : Same (fr S H H1) (fr S H H2) := by
  obtain ⟨_, _, h1, h2, _⟩ := h
  intro b u e
  unfold fr at e ⊢
  by_cases cb : b ∈ S
  · rw [if_pos cb] at e
    cases e
  · rw [if_neg cb] at e ⊢
    cases hb : H b with
    | some w => rw [hb] at e; cases e
    | none =>
      rw [hb] at e
      exact s b u (ne_of_none h1 hb).symm (ne_of_none h2 hb).symm e
theorem Newly.backC (n : Newly H1 G) (s : But2 p c H H1) (h : Pc p c H1 z0) : Newly H G := fun b o e => by
  by_cases c1 : b = p
  · rw [c1]; exact n.pc1 h
  · by_cases c2 : b = c
    · rw [c2]; exact n.pc2 h
    · exact n b o (s b o c1 c2 e)
theorem hid_but2 {H2 : Hp} (s : But2 p c H1 H2) : Same (hid [p, c] H1) (hid [p, c] H2) := fun b u e => by
  by_cases cb : b ∈ [p, c]
  · rw [hid_in cb] at e
    cases e
  · rw [hid_out cb] at e ⊢
    rw [List.mem_cons, List.mem_singleton, not_or] at cb
    exact s b u cb.1 cb.2 e
end
section
variable {σ : L2.St} {H H1 : Hp} {Q : VK} {K : PySem.W.Frag} {D p c l : Addr} {wi : TI} {g : TG} {tt : TT} {te : TE} {vs : List Nat} {lo : Int} {n : Nat} {xs : List V} {Qd : Hp → Prop}
theorem lcR_pc {c0 : Int} (Pz : Int → Prop) (inc : Int) (hp : Pc p c H1 c0) (nD : H1 D = none) (hn : n ≤ 1000000)
    (hs : ∀ (i : Nat) H (Z : VK) (Y : Hp → Prop), i < n → Pc p c H (c0 + inc * (i : Int)) → But2 p c H1 H → (∀ z H4, Pz z → Pc p c H4 (c0 + inc * (i : Int) + inc) → But2 p c H H4 → Z (.int z) H4) → LcTurn g tt te vs σ (.int (lo + i)) H Z Y)
    (hd : ∀ (ms : List Int) H, ms.length = n → (∀ z ∈ ms, Pz z) → H D = some (.lst (ms.map V.int)) → Pc p c H (c0 + inc * (n : Int)) → But2 p c H1 H → Qd H) :
    ∃ W : Nat → Nat → Hp → Prop, (∃ m, W 0 m (upd H1 D (.lst []))) ∧ ∀ i m H, W i m H →
      ((Itr lo n).stop i H ∧ Qd H) ∨ ((Itr lo n).go i H ∧ ∃ Nx : Hp → Prop, (∀ H', Nx H' → ∃ m', m' < m ∧ W (i + 1) m' H') ∧ ∀ x H', (Itr lo n).yld i H x H' → g x (wipe σ vs) H' fun σ2 H2 => wipe σ2 vs = wipe σ vs ∧ tt σ2 H2 fun b H3 =>
        if b = true then te σ2 H3 fun y H4 => ∃ acc, H4 D = some (.lst acc) ∧ acc.length < sizeLine ∧ Nx (upd H4 D (.lst (acc ++ [y]))) else Nx H3) := by
  have hDp : D ≠ p := hp.ne1 nD
  have hDc : D ≠ c := hp.ne2 nD
  refine lcR (fun i acc H => ∃ ms : List Int, acc = ms.map V.int ∧ ms.length = i ∧ (∀ z ∈ ms, Pz z) ∧ Pc p c H (c0 + inc * (i : Int)) ∧ But2 p c H1 H) nD ⟨[], rfl, rfl, nofun, (hp.new nD).cast (by simp), But2.newT nD (But2.refl _ _ _)⟩ ?_ ?_
  · rintro i acc H Z Y hi ⟨ms, rfl, h1, h2, h3, h4⟩ hD hz _
    refine hs i H Z Y hi h3 h4 fun z H4 k1 k2 k3 => hz _ _ (k3 _ _ hDp hDc hD) (sz4' (by rw [List.length_map]; omega)) ⟨ms ++ [z], by rw [List.map_append]; rfl, by rw [List.length_append, h1]; rfl, ?_, (k2.upd hDp hDc).cast inc_snoc, ?_⟩
    · intro x hx
      rcases List.mem_append.mp hx with e | e
      · exact h2 x e
      · rw [List.mem_singleton.mp e]; exact k1
    · intro b o hb hb2 e
      have := k3 _ _ hb hb2 (h4 _ _ hb hb2 e)
      rw [upd_ne (ne_of_none e nD)]
      exact this
  · rintro acc H ⟨ms, rfl, h1, h2, h3, h4⟩ hD
    exact hd ms H h1 h2 hD h3 h4
theorem lcR_dc {α : Type} {c0 : Int} (F : α → PyData) (Pz : α → Prop) (inc : Int) (hp : Pc p c H1 c0) (nD : H1 D = none) (hn : n ≤ 1000000)
    (hs : ∀ (i : Nat) H (Z : VK) (Y : Hp → Prop), i < n → Pc p c H (c0 + inc * (i : Int)) → But2 p c H1 H → (∀ x v G H4, Pz x → Dq G v (F x) → Newly H G → Same G H4 → Pc p c H4 (c0 + inc * (i : Int) + inc) → But2 p c H H4 → Z v H4) → LcTurn g tt te vs σ (.int (lo + i)) H Z Y)
    (hd : ∀ (xs : List α) G H, xs.length = n → (∀ x ∈ xs, Pz x) → Dq G (.ref D) (.list (xs.map F)) → Newly H1 G → Same G H → Pc p c H (c0 + inc * (n : Int)) → But2 p c H1 H → Qd H) :
    ∃ W : Nat → Nat → Hp → Prop, (∃ m, W 0 m (upd H1 D (.lst []))) ∧ ∀ i m H, W i m H →
      ((Itr lo n).stop i H ∧ Qd H) ∨ ((Itr lo n).go i H ∧ ∃ Nx : Hp → Prop, (∀ H', Nx H' → ∃ m', m' < m ∧ W (i + 1) m' H') ∧ ∀ x H', (Itr lo n).yld i H x H' → g x (wipe σ vs) H' fun σ2 H2 => wipe σ2 vs = wipe σ vs ∧ tt σ2 H2 fun b H3 =>
        if b = true then te σ2 H3 fun y H4 => ∃ acc, H4 D = some (.lst acc) ∧ acc.length < sizeLine ∧ Nx (upd H4 D (.lst (acc ++ [y]))) else Nx H3) := by
  have hDp : D ≠ p := hp.ne1 nD
  have hDc : D ≠ c := hp.ne2 nD
  refine lcR (fun i acc H => ∃ xs : List α, DqAll (fr [D] H1 H) acc (xs.map F) ∧ xs.length = i ∧ (∀ x ∈ xs, Pz x) ∧ Pc p c H (c0 + inc * (i : Int)) ∧ But2 p c H1 H) nD ⟨[], .nil, rfl, nofun, (hp.new nD).cast (by simp), But2.newT nD (But2.refl _ _ _)⟩ ?_ ?_
  · rintro i acc H Z Y hi ⟨xs, h0, h1, h2, h3, h4⟩ hD hz _
    refine hs i H Z Y hi h3 h4 fun x v G H4 k1 k2 k3 k4 k5 k6 => ?_
    have gD : G D = none := k3.free hD
    refine hz _ _ (k6 _ _ hDp hDc hD) (sz4' (by rw [h0.len, List.length_map]; omega)) ⟨xs ++ [x], ?_, by rw [List.length_append, h1]; rfl, ?_, (k5.upd hDp hDc).cast inc_snoc, ?_⟩
    · rw [List.map_append]
      exact DqAll.snoc ((h0.same (fr_butC hp k6)).same (fr_upd (by simp))) (k2.same (Newly.same1 (k3.backC h4 h3) (Same.mut k4 gD) gD))
    · intro y hy
      rcases List.mem_append.mp hy with e | e
      · exact h2 y e
      · rw [List.mem_singleton.mp e]; exact k1
    · intro b o hb hb2 e
      have := k6 _ _ hb hb2 (h4 _ _ hb hb2 e)
      rw [upd_ne (ne_of_none e nD)]
      exact this
  · rintro acc H ⟨xs, h0, h1, h2, h3, h4⟩ hD
    exact hd xs (fr [] H1 H) H h1 h2 (.lst (fr_lk0 nD hD) (h0.same fr_sub)) fr_newly fr_same h3 h4
end
end Hf
namespace K40
open PySem PySem.Spec PyProof.Rows L2 Hf
local macro_rules | `(tactic| walk_at "g_ne") => `(tactic| first | (with_reducible assumption) | (apply Hf.ne_at; (with_reducible assumption)) | ((with_reducible refine' Hf.ne_new ?n9 ?h9); (case n9 => (with_reducible assumption)); (case h9 => walk_at "g_lk")) | ((with_reducible refine' Hf.ne_new' ?n9 ?h9); (case n9 => (with_reducible assumption)); (case h9 => walk_at "g_lk")) | fail "g_ne")
local macro_rules | `(tactic| walk_at "g_lk") => `(tactic| first | (with_reducible assumption) | (with_reducible exact L2.upd_same) | ((with_reducible refine' Hf.lk_new ?n9 ?h9); (case n9 => (with_reducible assumption)); (case h9 => walk_at "g_lk")) | ((with_reducible refine' Hf.lk_updG ?g9 ?n9 ?h9); (case g9 => ((fail_if_success ((apply Hf.Guard.of); (with_reducible assumption))); exact trivial)); (case n9 => walk_at "g_ne"); (case h9 => walk_at "g_lk")) | ((with_reducible refine' Hf.lk_same ?n9 ?h9); (case n9 => (with_reducible assumption)); (case h9 => walk_at "g_lk")) | ((with_reducible refine' Hf.lk_but ?m9 ?n9 ?h9); (case m9 => (with_reducible assumption)); (case n9 => walk_at "g_ne"); (case h9 => walk_at "g_lk")) | ((with_reducible refine' Hf.lk_but2 ?m9 ?n9 ?n8 ?h9); (case m9 => (with_reducible assumption)); (case n9 => walk_at "g_ne"); (case n8 => walk_at "g_ne"); (case h9 => walk_at "g_lk")) | fail "g_lk")
local macro_rules | `(tactic| walk_at "g_sq") => `(tactic| first | (with_reducible assumption) | (with_reducible exact L2.SqL.of L2.upd_same) | (with_reducible exact L2.SqT.of L2.upd_same) | (with_reducible exact L2.SqL.of (by with_reducible assumption)) | (with_reducible exact L2.SqT.of (by with_reducible assumption)) | ((with_reducible refine' Hf.lkL_new ?n9 ?h9); (case n9 => (with_reducible assumption)); (case h9 => walk_at "g_sq")) | ((with_reducible refine' Hf.lkT_new ?n9 ?h9); (case n9 => (with_reducible assumption)); (case h9 => walk_at "g_sq")) | ((with_reducible refine' Hf.lkL_updG ?g9 ?n9 ?h9); (case g9 => ((fail_if_success ((apply Hf.Guard.of); (with_reducible assumption))); exact trivial)); (case n9 => walk_at "g_ne"); (case h9 => walk_at "g_sq")) | ((with_reducible refine' Hf.lkT_updG ?g9 ?n9 ?h9); (case g9 => ((fail_if_success ((apply Hf.Guard.of); (with_reducible assumption))); exact trivial)); (case n9 => walk_at "g_ne"); (case h9 => walk_at "g_sq")) | ((with_reducible refine' L2.Same.seq ?n9 ?h9); (case n9 => (with_reducible assumption)); (case h9 => walk_at "g_sq")) | ((with_reducible refine' Hf.Same.seqT ?n9 ?h9); (case n9 => (with_reducible assumption)); (case h9 => walk_at "g_sq")) | ((with_reducible refine' Hf.But.seq ?m9 ?n9 ?h9); (case m9 => (with_reducible assumption)); (case n9 => walk_at "g_ne"); (case h9 => walk_at "g_sq")) | ((with_reducible refine' Hf.But.seqT ?m9 ?n9 ?h9); (case m9 => (with_reducible assumption)); (case n9 => walk_at "g_ne"); (case h9 => walk_at "g_sq")) | ((with_reducible refine' Hf.But2.seq ?m9 ?n9 ?n8 ?h9); (case m9 => (with_reducible assumption)); (case n9 => walk_at "g_ne"); (case n8 => walk_at "g_ne"); (case h9 => walk_at "g_sq")) | ((with_reducible refine' Hf.But2.seqT ?m9 ?n9 ?n8 ?h9); (case m9 => (with_reducible assumption)); (case n9 => walk_at "g_ne"); (case n8 => walk_at "g_ne"); (case h9 => walk_at "g_sq")) | fail "g_sq")
local macro_rules | `(tactic| walk_at "g_but") => `(tactic| first | (with_reducible exact Hf.But.refl _ _) | (with_reducible assumption) | (with_reducible refine Hf.But.newT (by with_reducible assumption) ?_; walk_at "g_but") | (with_reducible refine Hf.But.upd ?_; walk_at "g_but") | (with_reducible refine Hf.But.transT (by with_reducible assumption) ?_; walk_at "g_but") | (with_reducible refine Hf.But.transS (by with_reducible assumption) ?_; walk_at "g_but") | fail "g_but")
local macro_rules | `(tactic| walk_at "g_but2") => `(tactic| first | (with_reducible exact Hf.But2.refl _ _ _) | (with_reducible assumption) | (with_reducible refine Hf.But2.newT (by with_reducible assumption) ?_; walk_at "g_but2") | (with_reducible refine Hf.But2.updL ?_; walk_at "g_but2") | (with_reducible refine Hf.But2.updR ?_; walk_at "g_but2") | (with_reducible refine Hf.But2.transT (by with_reducible assumption) ?_; walk_at "g_but2") | (with_reducible refine Hf.But2.transS (by with_reducible assumption) ?_; walk_at "g_but2") | (with_reducible refine Hf.But2.transL (by with_reducible assumption) ?_; walk_at "g_but2") | (with_reducible refine Hf.But2.transR (by with_reducible assumption) ?_; walk_at "g_but2") | (with_reducible refine Hf.But2.mut (by with_reducible assumption) ?_; walk_at "g_but2") | (with_reducible refine Hf.But2.butT (by with_reducible assumption) (by with_reducible assumption) ?_; walk_at "g_but2") | fail "g_but2")
local macro_rules | `(tactic| walk_at "g_same") => `(tactic| first | (with_reducible exact L2.Same.refl _) | (with_reducible assumption) | (with_reducible refine Hf.Same.newT' (by with_reducible assumption) ?_; walk_at "g_same") | (with_reducible refine Hf.Same.mut ?_ (by walk_at "g_free"); walk_at "g_same") | (with_reducible refine Hf.Same.butT (by with_reducible assumption) (by walk_at "g_free") ?_; walk_at "g_same") | (with_reducible refine Hf.Same.but2T (by with_reducible assumption) (by walk_at "g_free") (by walk_at "g_free") ?_; walk_at "g_same") | (with_reducible refine Hf.Same.transT (by with_reducible assumption) ?_; walk_at "g_same") | fail "g_same")
local macro_rules | `(tactic| walk_at "g_free") => `(tactic| first | (with_reducible assumption) | ((with_reducible refine' Hf.Same.free' (by with_reducible assumption) ?h7); (case h7 => walk_at "g_same")) | ((with_reducible refine' Hf.But.free (by with_reducible assumption) ?h7 ?h8); (case h7 => walk_at "g_but"); (case h8 => walk_at "g_lk")) | ((with_reducible refine' Hf.But2.free (by with_reducible assumption) ?h7 ?h8 ?h6); (case h7 => walk_at "g_but2"); (case h8 => walk_at "g_lk"); (case h6 => walk_at "g_lk")) | fail "g_free")
local macro_rules | `(tactic| walk_at "g_set") => `(tactic| first | (with_reducible exact Hf.set_n0) | (with_reducible exact Hf.set_n1) | (with_reducible exact Hf.set_n2) | (with_reducible exact Hf.set_n3) | (with_reducible exact Hf.set_n4) | (with_reducible exact Hf.set_n5) | (with_reducible exact Hf.set_n6) | (with_reducible exact Hf.set_n7) | (with_reducible exact Hf.set_n8) | (with_reducible exact Hf.set_n9) | (with_reducible exact Hf.set_n10) | (with_reducible exact Hf.set_n11) | (with_reducible exact Hf.set_n12) | (with_reducible exact Hf.set_n13) | (with_reducible exact Hf.set_n14) | (with_reducible exact Hf.set_n15) | (with_reducible exact Hf.set_n16) | (with_reducible exact Hf.set_n17) | (with_reducible exact Hf.set_n18) | (with_reducible exact Hf.set_n19) | (with_reducible exact Hf.set_n20) | (with_reducible exact Hf.set_n21) | (with_reducible exact Hf.set_n22) | (with_reducible exact Hf.set_n23) | (with_reducible exact Hf.set_n24) | (with_reducible exact Hf.set_n25) | (with_reducible exact Hf.set_n26) | (with_reducible exact Hf.set_n27) | (with_reducible exact Hf.set_n28) | (with_reducible exact Hf.set_n29) | fail "g_set")
local macro_rules | `(tactic| walk_at "g_sz") => `(tactic| first | exact Hf.sz4 (by decide) | exact Hf.sz4' (by decide) | (refine Hf.sz4 ?_; simp; done) | (refine Hf.sz4 ?_; simp; omega) | (refine Hf.sz4 ?_; simp only [List.length_cons, List.length_nil, List.length_take, List.length_drop, List.length_map, List.length_append, List.length_replicate]; omega) | (refine Hf.sz4' ?_; simp; omega) | (refine Hf.sz4' ?_; omega) | (refine Hf.sz4 ?_; omega) | fail "g_sz")
local macro_rules | `(tactic| walk_at "g_at") => `(tactic| first | rfl | assumption | fail "g_at")
local macro_rules | `(tactic| walk_at "g_c") => `(tactic| first | assumption | omega | decide | (refine Hf.mulL ?_; omega) | (refine Hf.mulR ?_; omega) | (refine Hf.divS ?_ ?_ <;> omega) | (refine Hf.mulL ?_; split <;> omega) | (refine ⟨?_, ?_, ?_⟩ <;> first | omega | decide) | (refine ⟨?_, ?_⟩ <;> first | assumption | omega) | fail "g_c")
local macro_rules | `(tactic| walk_at "g_ixn") => `(tactic| first | (show L2.ixN _ _ = some 0; rfl) | (show L2.ixN _ _ = some 1; rfl) | (show L2.ixN _ _ = some 2; rfl) | (show L2.ixN _ _ = some 3; rfl) | (show L2.ixN _ _ = some 4; rfl) | (show L2.ixN _ _ = some 5; rfl) | (show L2.ixN _ _ = some 6; rfl) | (show L2.ixN _ _ = some 7; rfl) | assumption | fail "g_ixn")
local macro_rules | `(tactic| walk_at "g_pow") => `(tactic| first | (show (10 : Int) ^ (9 : Int).toNat = 1000000000; rfl) | (show (10 : Int) ^ (18 : Int).toNat = 1000000000000000000; rfl) | (show (10 : Int) ^ (20 : Int).toNat = 100000000000000000000; rfl) | (show (10 : Int) ^ (29 : Int).toNat = 100000000000000000000000000000; rfl) | (show (10 : Int) ^ (26 : Int).toNat = 100000000000000000000000000; rfl) | (show (10 : Int) ^ (10 : Int).toNat = 10000000000; rfl) | (show (10 : Int) ^ (19 : Int).toNat = 10000000000000000000; rfl) | (show (10 : Int) ^ (27 : Int).toNat = 1000000000000000000000000000; rfl) | (show (10 : Int) ^ (28 : Int).toNat = 10000000000000000000000000000; rfl) | (show (10 : Int) ^ (25 : Int).toNat = 10000000000000000000000000; rfl) | (show (10 : Int) ^ (30 : Int).toNat = 1000000000000000000000000000000; rfl) | (show (10 : Int) ^ (2 : Int).toNat = 100; rfl) | (show (10 : Int) ^ (3 : Int).toNat = 1000; rfl) | (show (_ : Int) ^ (3 : Int).toNat = _; rfl) | fail "g_pow")
local macro_rules | `(tactic| walk_at "g_ty") => `(tactic| first | exact .base .non | exact .base (.bl _) | exact .base (.int _) | exact .base (.str _) | exact .base (.lst (by walk_at "g_lk")) | exact .base (.tup (by walk_at "g_lk")) | exact .base (.dK (by walk_at "g_lk")) | exact .base (.dT (by walk_at "g_lk")) | fail "g_ty")
local macro_rules | `(tactic| walk_at "g_pre") => `(tactic| first | (with_reducible assumption) | walk_at "g_lk" | walk_at "g_sq" | walk_at "g_but" | walk_at "g_but2" | walk_at "g_same" | walk_at "g_free" | omega | (refine ⟨?_, ?_⟩ <;> omega) | exact .inl (by omega) | exact .inr (by omega) | (with_reducible assumption) | fail "g_pre")
local macro_rules | `(tactic| walk_at "g_call") => `(tactic| fail "g_call: no rule")
local macro_rules | `(tactic| walk_at "g_val") => `(tactic| first
  | (with_reducible refine' Hf.i_I0 ?_)
  | ((with_reducible refine' Hf.i_pow ?k1 ?k2 ?_); (case k1 => walk_at "g_c"); (case k2 => walk_at "g_pow"))
  | ((with_reducible refine' Hf.i_I ?k1 ?_); (case k1 => walk_at "g_c"))
  | (with_reducible refine' Hf.i_U ?_)
  | (with_reducible refine' Hf.i_eqI ?_)
  | (with_reducible refine' Hf.i_neI ?_)
  | (with_reducible refine' Hf.i_eqB ?_)
  | (with_reducible refine' Hf.i_neB ?_)
  | (with_reducible refine' Hf.i_eqS ?_)
  | (with_reducible refine' Hf.i_neS ?_)
  | ((with_reducible refine' Hf.i_ixL ?k1 ?k2 ?_); (case k1 => walk_at "g_sq"); (case k2 => walk_at "g_at"))
  | ((with_reducible refine' Hf.i_ixT ?k1 ?k2 ?_); (case k1 => walk_at "g_sq"); (case k2 => walk_at "g_at"))
  | ((with_reducible refine' Hf.i_ix2I ?k1 ?k2 ?k3 ?_); (case k1 => walk_at "g_sq"); (case k2 => omega); (case k3 => omega); intro _ _)
  | ((with_reducible refine' Hf.i_ix3I ?k1 ?k2 ?k3 ?_); (case k1 => walk_at "g_sq"); (case k2 => omega); (case k3 => omega); intro _ _)
  | ((with_reducible refine' Hf.i_ix4I ?k1 ?k2 ?k3 ?_); (case k1 => walk_at "g_sq"); (case k2 => omega); (case k3 => omega); intro _ _)
  | ((with_reducible refine' Hf.i_ix3R ?k1 ?k2 ?k3 ?_); (case k1 => walk_at "g_sq"); (case k2 => omega); (case k3 => omega); intro _ _)
  | ((with_reducible refine' Hf.i_ix4R ?k1 ?k2 ?k3 ?_); (case k1 => walk_at "g_sq"); (case k2 => omega); (case k3 => omega); intro _ _)
  | (with_reducible refine' Hf.i_abs ?_)
  | (with_reducible refine' Hf.i_int2 ?_)
  | (with_reducible refine' Hf.i_int1 ?_)
  | (with_reducible refine' Hf.i_intb ?_)
  | ((with_reducible refine' Hf.i_isi ?k1 ?k2 ?_); (case k1 => walk_at "g_ty"); (case k2 => first | (show L2.kitB _ _ = some true; decide +kernel) | (show L2.kitB _ _ = some false; decide +kernel)))
  | ((with_reducible refine' Hf.i_lenL ?k1 ?_); (case k1 => walk_at "g_sq"))
  | ((with_reducible refine' Hf.i_lenT ?k1 ?_); (case k1 => walk_at "g_sq"))
  | ((with_reducible refine' Hf.i_appendM ?k1 ?k2 ?_); (case k1 => walk_at "g_lk"); (case k2 => walk_at "g_sz"))
  | ((with_reducible refine' Hf.i_append ?k1 ?k2 ?_); (case k1 => walk_at "g_lk"); (case k2 => walk_at "g_sz"))
  | ((with_reducible refine' Hf.i_bmL ?k1 ?_); (case k1 => walk_at "g_sq"))
  | ((with_reducible refine' Hf.i_setLast ?k1 ?k2 ?_); (case k1 => walk_at "g_lk"); (case k2 => first | omega | (simp; done) | (simp; omega)))
  | ((with_reducible refine' Hf.i_setM ?k1 ?k2 ?k3 ?_); (case k1 => walk_at "g_lk"); (case k2 => omega); (case k3 => first | omega | (simp; done) | (simp; omega)))
  | ((with_reducible refine' Hf.i_setL ?k1 ?k2 ?_); (case k1 => walk_at "g_lk"); (case k2 => walk_at "g_ixn"); (try dsimp only [List.set_cons_zero, List.set_cons_succ])) | fail "g_val")
local macro_rules | `(tactic| walk_at "g_val2") => `(tactic| first
  | ((with_reducible refine' Hf.i_slInitM ?k1 ?_); (case k1 => walk_at "g_sq"); intro _ _)
  | ((with_reducible refine' Hf.i_ixLast ?k1 ?k2 ?_); (case k1 => walk_at "g_sq"); (case k2 => first | omega | (simp; done) | (simp; omega)); intro _ _)
  | ((with_reducible refine' Hf.i_slToM ?k1 ?k2 ?_); (case k1 => walk_at "g_sq"); (case k2 => omega); intro _ _)
  | ((with_reducible refine' Hf.i_slFromM ?k1 ?k2 ?_); (case k1 => walk_at "g_sq"); (case k2 => omega); intro _ _)
  | ((with_reducible refine' Hf.i_slMidM ?k1 ?k2 ?k3 ?_); (case k1 => walk_at "g_sq"); (case k2 => omega); (case k3 => omega); intro _ _)
  | ((with_reducible refine' Hf.i_slTo ?k1 ?k2 ?_); (case k1 => walk_at "g_sq"); (case k2 => omega); intro _ _)
  | ((with_reducible refine' Hf.i_slFrom ?k1 ?k2 ?_); (case k1 => walk_at "g_sq"); (case k2 => omega); intro _ _)
  | ((with_reducible refine' Hf.i_slMid ?k1 ?k2 ?k3 ?_); (case k1 => walk_at "g_sq"); (case k2 => omega); (case k3 => omega); intro _ _)
  | ((with_reducible refine' Hf.i_eqT2 ?k1 ?k2 ?_); (case k1 => walk_at "g_sq"); (case k2 => walk_at "g_sq"))
  | (with_reducible refine' Hf.i_sl ?_)
  | ((with_reducible refine' Hf.i_lenA ?k1 ?_); (case k1 => first | exact Hf.lenA_map (by walk_at "g_sq") | exact Hf.lenA_L (by walk_at "g_sq") | exact Hf.lenA_T (by walk_at "g_sq")))
  | ((with_reducible refine' Hf.i_ixM ?k1 ?k2 ?k3 ?_); (case k1 => walk_at "g_sq"); (case k2 => omega); (case k3 => first | omega | (simp; omega)); intro _ _)
  | ((with_reducible refine' Hf.i_listOf ?k1 ?_); (case k1 => walk_at "g_sq"); intro _ _)
  | ((with_reducible refine' Hf.i_listOfT ?k1 ?_); (case k1 => walk_at "g_sq"); intro _ _)
  | ((with_reducible refine' Hf.i_sum ?k1 ?_); (case k1 => walk_at "g_sq"))
  | ((with_reducible refine' Hf.i_all ?k1 ?_); (case k1 => walk_at "g_sq"))
  | ((with_reducible refine' Hf.i_min ?k1 ?k2 ?_); (case k1 => walk_at "g_sq"); (case k2 => omega); intro _ _ _)
  | ((with_reducible refine' Hf.i_max ?k1 ?k2 ?_); (case k1 => walk_at "g_sq"); (case k2 => omega); intro _ _ _)
  | ((with_reducible refine' Hf.i_eqLI ?k1 ?k2 ?_); (case k1 => walk_at "g_sq"); (case k2 => walk_at "g_sq"))
  | ((with_reducible refine' Hf.i_neLI ?k1 ?k2 ?_); (case k1 => walk_at "g_sq"); (case k2 => walk_at "g_sq"))
  | ((with_reducible refine' Hf.i_eqL0 ?k1 ?k2 ?_); (case k1 => walk_at "g_sq"); (case k2 => walk_at "g_sq"))
  | ((with_reducible refine' Hf.i_eq00 ?k1 ?k2 ?_); (case k1 => walk_at "g_sq"); (case k2 => walk_at "g_sq"))
  | ((with_reducible refine' Hf.i_ne00 ?k1 ?k2 ?_); (case k1 => walk_at "g_sq"); (case k2 => walk_at "g_sq"))
  | ((with_reducible refine' Hf.i_reverse ?k1 ?_); (case k1 => walk_at "g_lk"))
  | ((with_reducible refine' Hf.i_glst ?k1 ?k2 ?_); (case k1 => walk_at "g_sq"); (case k2 => rfl))
  | (with_reducible refine' Hf.i_lc ?_)
  | ((with_reducible refine' Hf.i_turn ?k1 ?_); (case k1 => first | ((show L2.wipe _ [_] = _); (apply Hf.wipe_one); walk_at "g_set") | ((show L2.wipe _ [_, _] = _); (apply Hf.wipe_two); walk_at "g_set"; walk_at "g_set") | ((show L2.wipe _ [_, _, _] = _); (apply Hf.wipe_three); walk_at "g_set"; walk_at "g_set"; walk_at "g_set")))
  | ((with_reducible refine' Hf.i_wiped ?k1 ?_); (case k1 => rfl))
  | (with_reducible refine' Hf.i_yes ?_)
  | (with_reducible refine' Hf.i_nopart ?_)
  | (with_reducible refine' Hf.i_part ?_)
  | (with_reducible refine' Hf.i_exint ?_)
  | ((with_reducible refine' Hf.i_catM ?k1 ?k2 ?k3 ?_); (case k1 => walk_at "g_lk"); (case k2 => walk_at "g_lk"); (case k3 => (simp; omega)); intro _ _)
  | ((with_reducible refine' Hf.i_catM1 ?k1 ?k2 ?k3 ?_); (case k1 => walk_at "g_lk"); (case k2 => walk_at "g_lk"); (case k3 => first | omega | (simp; omega)); intro _ _)
  | ((with_reducible refine' Hf.i_cat ?k1 ?k2 ?k3 ?_); (case k1 => walk_at "g_lk"); (case k2 => walk_at "g_lk"); (case k3 => walk_at "g_sz"); intro _ _)
  | ((with_reducible refine' Hf.i_repM ?k1 ?k2 ?_); (case k1 => walk_at "g_lk"); (case k2 => omega); intro _ _)
  | ((with_reducible refine' Hf.i_rep1 ?k1 ?k2 ?_); (case k1 => walk_at "g_lk"); (case k2 => omega); intro _ _) | fail "g_val2")
local macro_rules | `(tactic| walk_at "g1") => `(tactic| first
  | ((with_reducible refine' Hf.i_var ?k1 ?_); (case k1 => rfl))
  | (with_reducible refine' Hf.i_c ?_)
  | (with_reducible refine' Hf.i_op ?_)
  | (with_reducible refine' Hf.i_cons ?_)
  | (with_reducible refine' Hf.i_nil ?_)
  | (with_reducible refine' Hf.i_seq ?_)
  | (with_reducible refine' Hf.i_asg ?_)
  | ((with_reducible refine' Hf.i_gname ?k1 ?_); (case k1 => walk_at "g_set"))
  | (with_reducible refine' Hf.i_ret ?_)
  | (with_reducible refine' Hf.i_next ?_)
  | (with_reducible refine' Hf.i_ifs ?_)
  | ((with_reducible refine' Hf.ite_y ?k1 ?_); (case k1 => rfl))
  | ((with_reducible refine' Hf.ite_n ?k1 ?_); (case k1 => rfl))
  | (with_reducible refine' Hf.i_test ?_)
  | (with_reducible refine' Hf.i_B ?_)
  | (with_reducible refine' Hf.i_bl ?_)
  | (with_reducible refine' Hf.i_call ?_)
  | (with_reducible refine' Hf.i_cb ?_)
  | (with_reducible refine' Hf.i_tup ?_)
  | (with_reducible refine' Hf.i_lst ?_)
  | ((with_reducible refine' Hf.i_new ?k1 ?_); (case k1 => walk_at "g_sz"); intro _ _)
  | (with_reducible refine' Hf.i_un ?_)
  | (with_reducible refine' Hf.i_and ?_)
  | (with_reducible refine' Hf.i_or ?_)
  | (with_reducible refine' Hf.i_not ?_)
  | (with_reducible refine' Hf.i_andV ?_)
  | (with_reducible refine' Hf.i_orV ?_)
  | (with_reducible refine' Hf.i_notV ?_)
  | (with_reducible refine' Hf.i_ife ?_)
  | (with_reducible refine' Hf.i_drop ?_)
  | (with_reducible refine' Hf.i_par ?_)
  | ((with_reducible refine' Hf.i_par2 ?k1 ?_); (case k1 => (apply Hf.set_par; walk_at "g_set"; walk_at "g_set")))
  | ((with_reducible refine' Hf.i_aug ?k1 ?_); (case k1 => rfl))
  | (with_reducible refine' Hf.i_ip ?_)
  | (with_reducible refine' Hf.i_bm ?_)
  | (with_reducible refine' Hf.i_bm0 ?_)
  | ((with_reducible refine' Hf.i_gtup ?k1 ?k2 ?_); (case k1 => walk_at "g_sq"); (case k2 => rfl))
  | (with_reducible refine' Hf.i_gcons ?_)
  | (with_reducible refine' Hf.i_gnil ?_)
  | (with_reducible refine' Hf.i_gsub ?_)
  | (with_reducible refine' Hf.i_for ?_)
  | (with_reducible refine' Hf.i_rng1 ?_)
  | ((with_reducible refine' Hf.i_rng1' ?k1 ?k2 ?_); (case k1 => omega); (case k2 => omega))
  | (with_reducible refine' Hf.i_rng2 ?_)
  | ((with_reducible refine' Hf.i_rng2' ?k1 ?_); (case k1 => omega))
  | (with_reducible refine' Hf.i_ilist ?_)
  | ((with_reducible refine' Hf.i_ilist' ?k1 ?_); (case k1 => walk_at "g_sq"))
  | (with_reducible refine' Hf.i_itup ?_)
  | ((with_reducible refine' Hf.i_itup' ?k1 ?_); (case k1 => walk_at "g_sq"))
  | (with_reducible refine' Hf.i_retN ?_)
  | (with_reducible refine' Hf.i_brk ?_)
  | (with_reducible refine' Hf.i_cnt ?_)
  | walk_at "g_val"
  | walk_at "g_val2"
  | walk_at "g_call"
  | (with_reducible refine' Hf.i_isn ?_)
  | (with_reducible refine' Hf.i_tru ?_)
  | dsimp only | fail "g1")
local macro_rules | `(tactic| walk_at "go") => `(tactic| repeat walk_at "g1")
local macro_rules | `(tactic| walk_at "goI") => `(tactic| repeat ((fail_if_success (with_reducible refine' Hf.i_ifs ?_)); walk_at "g1"))
local macro_rules | `(tactic| walk_at "goF") => `(tactic| repeat ((fail_if_success (with_reducible refine' Hf.i_for ?_)); walk_at "g1"))
local macro_rules | `(tactic| walk_at "g_kit") => `(tactic| fail "g_kit")
local macro_rules | `(tactic| walk_at "g_exc") => `(tactic| fail "g_exc")
local macro_rules | `(tactic| walk_at "g_exm") => `(tactic| fail "g_exm")
local macro_rules | `(tactic| walk_at "g_kitB") => `(tactic| first | (show L2.kitB _ _ = some true; decide +kernel) | (show L2.kitB _ _ = some false; decide +kernel))
local macro_rules | `(tactic| walk_at "g_val2") => `(tactic| first
  | ((with_reducible refine' Hf.i_isXi ?k1 ?k2 ?_); (case k1 => walk_at "g_ty"); (case k2 => walk_at "g_kitB"))
  | ((with_reducible refine' Hf.i_isXo ?k1 ?k2 ?_); (case k1 => walk_at "g_ty"); (case k2 => walk_at "g_kit"))
  | ((with_reducible refine' Hf.i_isXR ?k1 ?k2 ?k3 ?_); (case k1 => walk_at "g_lk"); (case k2 => walk_at "g_exc"); (case k3 => walk_at "g_kit"))
  | ((with_reducible refine' Hf.i_isXT ?k1 ?k2 ?k3 ?_); (case k1 => walk_at "g_lk"); (case k2 => walk_at "g_exc"); (case k3 => walk_at "g_kit"))
  | ((with_reducible refine' Hf.i_isXRd ?k1 ?k4 ?k2 ?k3 ?_); (case k1 => walk_at "g_lk"); (case k4 => walk_at "g_lk"); (case k2 => walk_at "g_exc"); (case k3 => walk_at "g_kit"))
  | ((with_reducible refine' Hf.i_isXTd ?k1 ?k4 ?k2 ?k3 ?_); (case k1 => walk_at "g_lk"); (case k4 => walk_at "g_lk"); (case k2 => walk_at "g_exc"); (case k3 => walk_at "g_kit"))
  | (with_reducible refine' Hf.i_callS ?_)
  | (with_reducible refine' Hf.i_try ?_)
  | ((with_reducible refine' Hf.i_caught ?k1 ?k2 ?_); (case k1 => walk_at "g_exm"); (case k2 => (intro _; walk_at "g_set")); intro _ _)
  | ((with_reducible refine' Hf.i_nxAs ?k1 ?_); (case k1 => walk_at "g_set"))
  | (with_reducible refine' Hf.i_rtAs ?_)
  | (with_reducible refine' Hf.i_izip ?_)
  | ((with_reducible refine' Hf.i_neT2 ?k1 ?k2 ?_); (case k1 => walk_at "g_sq"); (case k2 => walk_at "g_sq"))
  | ((with_reducible refine' Hf.i_neS1 ?k1 ?k2 ?k3 ?_); (case k1 => walk_at "g_sq"); (case k2 => walk_at "g_sq"); (case k3 => decide +kernel))
  | ((with_reducible refine' Hf.i_izip' ?k1 ?k2 ?_); (case k1 => walk_at "g_sq"); (case k2 => walk_at "g_sq"))
  | (with_reducible refine' Hf.i_isnR ?_)
  | (with_reducible refine' Hf.i_isnN ?_)
  | ((with_reducible refine' Hf.i_cntV ?k1 ?k2 ?k3 ?k4 ?_); (case k1 => walk_at "g_sq"); (case k2 => rfl); (case k3 => rfl); (case k4 => rfl))
  | ((with_reducible refine' Hf.i_index ?k1 ?k2 ?k3 ?k4 ?_); (case k1 => walk_at "g_sq"); (case k2 => rfl); (case k3 => rfl); (case k4 => rfl)) | fail "g_val2x")
local macro_rules | `(tactic| walk_at "g_no") => `(tactic| first | contradiction | omega | (simp_all; done) | fail "g_no")
local macro_rules | `(tactic| walk_at "g_but") => `(tactic| first | (with_reducible exact Hf.But.refl _ _) | (with_reducible assumption) | (with_reducible refine Hf.But.newT (by with_reducible assumption) ?_; walk_at "g_but") | (with_reducible refine Hf.But.upd ?_; walk_at "g_but") | (with_reducible refine Hf.But.transT (by with_reducible assumption) ?_; walk_at "g_but") | (with_reducible refine Hf.But.transS (by with_reducible assumption) ?_; walk_at "g_but") | (with_reducible refine Hf.But.mut (by with_reducible assumption) ?_; walk_at "g_but") | (with_reducible refine Hf.But.mutS (by with_reducible assumption) (by with_reducible assumption) ?_; walk_at "g_but") | fail "g_but")
local macro_rules | `(tactic| walk_at "g_cls") => `(tactic| fail "g_cls")
local macro_rules | `(tactic| walk_at "g_val2") => `(tactic| first
  | (with_reducible refine' Hf.i_fld ?_)
  | ((with_reducible refine' Hf.i_fldR ?k1 ?k2 ?k3 ?k4 ?_); (case k1 => walk_at "g_lk"); (case k2 => walk_at "g_cls"); (case k3 => walk_at "g_cls"); (case k4 => first | rfl | decide +kernel))
  | (with_reducible refine' Hf.i_sfld ?_)
  | ((with_reducible refine' Hf.i_setR ?k1 ?k2 ?k3 ?k4 ?_); (case k1 => walk_at "g_lk"); (case k2 => walk_at "g_cls"); (case k3 => walk_at "g_cls"); (case k4 => decide))
  | (with_reducible refine' Hf.i_meth ?_)
  | ((with_reducible refine' Hf.i_methR ?k1 ?k4 ?_); (case k1 => walk_at "g_lk"); (case k4 => first | rfl | decide +kernel))
  | ((with_reducible refine' Hf.i_make0 ?_); intro _ _ _ _ _)
  | (with_reducible refine' Hf.i_dnotin ?_)
  | (with_reducible refine' Hf.i_din ?_)
  | ((with_reducible refine' Hf.i_dg3 ?k1 ?k2 ?_); (case k1 => walk_at "g_lk"); (case k2 => walk_at "g_lk"))
  | ((with_reducible refine' Hf.i_dg2 ?k1 ?k2 ?_); (case k1 => walk_at "g_lk"); (case k2 => walk_at "g_lk"))
  | (with_reducible refine' Hf.i_dget ?_)
  | ((with_reducible refine' Hf.i_dv3 ?k1 ?k2 ?k3 ?_); (case k1 => walk_at "g_lk"); (case k2 => walk_at "g_lk"); (case k3 => assumption))
  | ((with_reducible refine' Hf.i_dv2 ?k1 ?k2 ?k3 ?_); (case k1 => walk_at "g_lk"); (case k2 => walk_at "g_lk"); (case k3 => assumption))
  | (with_reducible refine' Hf.i_dput ?_)
  | ((with_reducible refine' Hf.i_dp3 ?k1 ?k2 ?k3 ?_); (case k1 => walk_at "g_lk"); (case k2 => walk_at "g_lk"); (case k3 => omega))
  | ((with_reducible refine' Hf.i_dp2 ?k1 ?k2 ?k3 ?_); (case k1 => walk_at "g_lk"); (case k2 => walk_at "g_lk"); (case k3 => omega))
  | ((with_reducible refine' Hf.i_dnewT ?_); intro _ _)
  | (with_reducible refine' Hf.i_lstRg ?_)
  | (with_reducible refine' Hf.i_rg1 ?_)
  | (with_reducible refine' Hf.i_rg2 ?_)
  | (with_reducible refine' Hf.i_rg2' ?_)
  | (with_reducible refine' Hf.i_rg1' ?_)
  | ((with_reducible refine' Hf.i_rgok ?k1 ?k2 ?k3 ?k4 ?_); (case k1 => omega); (case k2 => omega); (case k3 => omega); (case k4 => omega); intro _ _) | fail "g_val2o")
local macro_rules | `(tactic| walk_at "g_val2") => `(tactic| first
  | (with_reducible refine' Hf.i_ckw ?_)
  | ((with_reducible refine' Hf.i_sortedRev ?k1 ?k2 ?_); (case k1 => walk_at "g_sq"); (case k2 => assumption); intro _ _)
  | ((with_reducible refine' Hf.i_clear ?k1 ?_); (case k1 => walk_at "g_lk"))
  | ((with_reducible refine' Hf.i_extendN ?k1 ?k2 ?k3 ?_); (case k1 => walk_at "g_lk"); (case k2 => walk_at "g_lk"); (case k3 => first | omega | (simp; omega))) | fail "g_val2s")
local macro_rules | `(tactic| walk_at "g_but") => `(tactic| first | (with_reducible exact Hf.But.refl _ _) | (with_reducible assumption) | (with_reducible refine Hf.But.newT (by with_reducible assumption) ?_; walk_at "g_but") | (with_reducible refine Hf.But.upd ?_; walk_at "g_but") | (with_reducible refine Hf.But.mutD (by with_reducible assumption) ?_; walk_at "g_but") | (with_reducible refine Hf.But.mutSD (by with_reducible assumption) (by walk_at "g_free") ?_; walk_at "g_but") | (with_reducible refine Hf.But.transT (by with_reducible assumption) ?_; walk_at "g_but") | (with_reducible refine Hf.But.transS (by with_reducible assumption) ?_; walk_at "g_but") | fail "g_but")
local macro_rules | `(tactic| walk_at "g_dq") => `(tactic| first | (with_reducible assumption) | ((with_reducible refine' Hf.Dq.same ?s9 ?d9); (case d9 => (with_reducible assumption)); (case s9 => walk_at "g_same")) | ((with_reducible refine' Hf.dq_mix ?q9 ?h9 ?s9); (case q9 => (with_reducible assumption)); (case h9 => walk_at "g_lk"); (case s9 => walk_at "g_same")) | ((with_reducible refine' Hf.Dq.same (Hf.hid_mono ?s9) ?d9); (case d9 => (with_reducible assumption)); (case s9 => walk_at "g_same")) | ((with_reducible refine' Hf.dq_two ?h5 ?h6 ?h7 ?h8 ?h9); (case h5 => walk_at "g_lk"); (case h6 => walk_at "g_lk"); (case h7 => walk_at "g_lk"); (case h8 => walk_at "g_lk"); (case h9 => walk_at "g_lk")) | fail "g_dq")
local macro_rules | `(tactic| walk_at "g_pre") => `(tactic| walk_at "g_dq")
local macro_rules | `(tactic| walk_at "g_val2") => `(tactic| first
  | ((with_reducible refine' Hf.i_neDq ?k1 ?k2 ?k3 ?_); (case k1 => walk_at "g_dq"); (case k2 => walk_at "g_dq"); (case k3 => first | exact Hf.shaped_mix _))
  | ((with_reducible refine' Hf.i_neL2 ?k1 ?k2 ?_); (case k1 => walk_at "g_sq"); (case k2 => walk_at "g_sq"))
  | ((with_reducible refine' Hf.i_reverseV ?k1 ?_); (case k1 => walk_at "g_lk"))
  | (with_reducible refine' Hf.i_rev ?_)
  | ((with_reducible refine' Hf.i_revV ?k1 ?_); (case k1 => walk_at "g_sq"); intro _ _)
  | fail "g_val2d")
local macro_rules | `(tactic| walk_at "goO") => `(tactic| repeat (first | walk_at "g1" | (with_reducible refine' Hf.ite_y (decide_eq_true (by omega)) ?_) | (with_reducible refine' Hf.ite_n (decide_eq_false (by omega)) ?_)))
local macro_rules | `(tactic| walk_at "g_val2") => `(tactic| first
  | (with_reducible refine' Hf.i_min2 ?_)
  | (with_reducible refine' Hf.i_min3 ?_)
  | fail "g_val2b")
local macro_rules | `(tactic| walk_at "g_free") => `(tactic| first | (with_reducible assumption) | ((with_reducible refine' Hf.Newly.free ?n7 ?h7); (case n7 => (with_reducible assumption)); (case h7 => walk_at "g_lk")) | ((with_reducible refine' Hf.Same.free' (by with_reducible assumption) ?h7); (case h7 => walk_at "g_same")) | ((with_reducible refine' Hf.But.free (by with_reducible assumption) ?h7 ?h8); (case h7 => walk_at "g_but"); (case h8 => walk_at "g_lk")) | fail "g_free")
local macro_rules | `(tactic| walk_at "g_pk") => `(tactic| first | (with_reducible assumption) | ((with_reducible refine' Hf.Pk.newT ?n9 ?h9); (case n9 => (with_reducible assumption)); (case h9 => walk_at "g_pk")) | ((with_reducible refine' Hf.Pk.sameT ?n9 ?h9); (case n9 => (with_reducible assumption)); (case h9 => walk_at "g_pk")) | fail "g_pk")
local macro_rules | `(tactic| walk_at "g_pre") => `(tactic| walk_at "g_pk")
local macro_rules | `(tactic| walk_at "g_free") => `(tactic| first | ((with_reducible refine' Hf.Pk.free (by with_reducible assumption) ?h7 ?h8); (case h8 => walk_at "g_pk"); (case h7 => walk_at "g_but")) | fail "macp")
local macro_rules | `(tactic| walk_at "g_free") => `(tactic| first | ((with_reducible refine' Hf.Newly.pk ?n7 ?h7); (case n7 => (with_reducible assumption)); (case h7 => walk_at "g_pk")) | fail "macp")
local macro_rules | `(tactic| walk_at "g_ne") => `(tactic| first | ((with_reducible refine' Hf.Pk.ne ?n9 ?h9); (case n9 => (with_reducible assumption)); (case h9 => walk_at "g_pk")) | fail "macp")
local macro_rules | `(tactic| walk_at "g_ne") => `(tactic| first | ((with_reducible refine' Hf.Pk.neo ?n9 ?h9); (case n9 => (with_reducible assumption)); (case h9 => (with_reducible assumption))) | fail "macp")
local macro_rules | `(tactic| walk_at "g_val2") => `(tactic| first | ((with_reducible refine' Hf.i_tupOfL ?k1 ?_); (case k1 => walk_at "g_sq"); intro _ _) | fail "macp")
local macro_rules | `(tactic| walk_at "g_val") => `(tactic| first | ((with_reducible refine' Hf.i_intY ?k1 ?_); (case k1 => exact decide_eq_true (by omega))) | ((with_reducible refine' Hf.i_intN ?k1 ?_); (case k1 => exact decide_eq_false (by omega))) | fail "g_valp")
local macro_rules | `(tactic| walk_at "g_val2") => `(tactic| first | ((with_reducible refine' Hf.i_neDq ?k1 ?k2 ?k3 ?_); (case k1 => walk_at "g_dq"); (case k2 => walk_at "g_dq"); (case k3 => first | exact Hf.shaped_bat _ _ _ | exact Hf.shaped_mix _ | assumption)) | fail "macp")
local macro_rules | `(tactic| walk_at "g_kb") => `(tactic| first | (show L2.kitB _ _ = some true; decide +kernel) | (show L2.kitB _ _ = some false; decide +kernel) | fail "g_kb")
local macro_rules | `(tactic| walk_at "g_val2") => `(tactic| first
  | ((with_reducible refine' Hf.i_isiT2 ?k1 ?k2 ?k3 ?k4 ?_); (case k1 => walk_at "g_lk"); (case k2 => walk_at "g_ty"); (case k3 => walk_at "g_kb"); (case k4 => walk_at "g_kb"))
  | (with_reducible refine' Hf.i_iseq ?_)
  | ((with_reducible refine' Hf.i_iseqL ?k1 ?_); (case k1 => walk_at "g_sq"))
  | ((with_reducible refine' Hf.i_iseqT ?k1 ?_); (case k1 => walk_at "g_sq"))
  | ((with_reducible refine' Hf.i_cntS ?k1 ?k2 ?k3 ?k4 ?_); (case k1 => walk_at "g_dq"); (case k2 => assumption); (case k3 => decide +kernel); (case k4 => assumption))
  | fail "g_val2w")
local macro_rules | `(tactic| walk_at "g_ow") => `(tactic| first | (with_reducible assumption) | ((with_reducible refine' Hf.Ow.same ?s9 ?d9); (case d9 => (with_reducible assumption)); (case s9 => walk_at "g_same")) | fail "g_ow")
local macro_rules | `(tactic| walk_at "g_pre") => `(tactic| walk_at "g_ow")
local macro_rules | `(tactic| walk_at "g_val2") => `(tactic| first
  | (with_reducible refine' Hf.i_dget2 ?_)
  | ((with_reducible refine' Hf.i_isD ?k1 ?_); (case k1 => walk_at "g_lk"))
  | ((with_reducible refine' Hf.i_dgo2 ?k1 ?k2 ?_); (case k1 => walk_at "g_lk"); (case k2 => walk_at "g_lk"); (try rw [Hf.FlD.get (by assumption)]))
  | ((with_reducible refine' Hf.i_sortedDT ?k1 ?k2 ?_); (case k1 => walk_at "g_lk"); (case k2 => assumption); intro _ _ _ _ _ _)
  | fail "g_val2z")
local macro_rules | `(tactic| walk_at "g_kitN") => `(tactic| first | (with_reducible exact Hf.KitN.nil) | ((with_reducible refine' Hf.KitN.no ?k8 ?k9); (case k8 => walk_at "g_kit"); (case k9 => walk_at "g_kitN")) | fail "g_kitN")
local macro_rules | `(tactic| walk_at "g_kitR") => `(tactic| first | (with_reducible exact Hf.KitR.nil) | ((with_reducible refine' Hf.KitR.cons ?k9); (case k9 => walk_at "g_kitR")) | fail "g_kitR")
local macro_rules | `(tactic| walk_at "g_kitY") => `(tactic| first | ((with_reducible refine' Hf.KitY.here ?k8 ?k9); (case k8 => walk_at "g_kit"); (case k9 => walk_at "g_kitR")) | ((with_reducible refine' Hf.KitY.there ?k8 ?k9); (case k8 => walk_at "g_kit"); (case k9 => walk_at "g_kitY")) | fail "g_kitY")
local macro_rules | `(tactic| walk_at "g_val2") => `(tactic| first
  | ((with_reducible refine' Hf.i_isXN ?k1 ?k2 ?k3 ?k4 ?_); (case k1 => walk_at "g_lk"); (case k2 => walk_at "g_lk"); (case k3 => walk_at "g_exc"); (case k4 => walk_at "g_kitN"))
  | ((with_reducible refine' Hf.i_isXY ?k1 ?k2 ?k3 ?k4 ?_); (case k1 => walk_at "g_lk"); (case k2 => walk_at "g_lk"); (case k3 => walk_at "g_exc"); (case k4 => walk_at "g_kitY"))
  | ((with_reducible refine' Hf.i_isXNd ?k1 ?k5 ?k2 ?k3 ?k4 ?_); (case k1 => walk_at "g_lk"); (case k5 => walk_at "g_lk"); (case k2 => walk_at "g_lk"); (case k3 => walk_at "g_exc"); (case k4 => walk_at "g_kitN"))
  | ((with_reducible refine' Hf.i_isXT2 ?k1 ?k2 ?k3 ?k4 ?_); (case k1 => walk_at "g_lk"); (case k2 => walk_at "g_ty"); (case k3 => walk_at "g_kb"); (case k4 => walk_at "g_kb"))
  | fail "g_val2e")
local macro_rules | `(tactic| walk_at "g_oex") => `(tactic| fail "g_oex")
local macro_rules | `(tactic| walk_at "g_nof") => `(tactic| fail "g_nof")
local macro_rules | `(tactic| walk_at "g_val2") => `(tactic| first
  | (with_reducible refine' Hf.i_vei ?_)
  | ((with_reducible refine' Hf.i_ver ?k1 ?k2 ?k3 ?_); (case k1 => walk_at "g_lk"); (case k2 => walk_at "g_oex"); (case k3 => decide))
  | (with_reducible refine' Hf.i_ost ?_)
  | ((with_reducible refine' Hf.i_osr ?k1 ?k2 ?k3 ?_); (case k1 => walk_at "g_lk"); (case k2 => walk_at "g_oex"); (case k3 => walk_at "g_nof"); intro _ _ _)
  | (with_reducible refine' Hf.i_mko ?_)
  | (with_reducible refine' Hf.i_xfH ?_)
  | ((with_reducible refine' Hf.i_xfR ?k1 ?k2 ?k3 ?k4 ?_); (case k1 => walk_at "g_lk"); (case k2 => walk_at "g_lk"); (case k3 => walk_at "g_exc"); (case k4 => walk_at "g_nof"))
  | fail "g_val2i")
local macro_rules | `(tactic| walk_at "g_at") => `(tactic| first | (with_reducible exact Hf.atI_0) | (with_reducible exact Hf.atI_1) | (with_reducible exact Hf.atI_2) | fail "g_at2")
local macro_rules | `(tactic| walk_at "g_val2") => `(tactic| first | ((with_reducible refine' Hf.i_ix3S ?k1 ?k2 ?k3 ?_); (case k1 => walk_at "g_sq"); (case k2 => omega); (case k3 => omega); intro _ _) | fail "ix3s")
local macro_rules | `(tactic| walk_at "g_val2") => `(tactic| first | ((with_reducible refine' Hf.i_nin ?k1 ?k2 ?k3 ?k4 ?_); (case k1 => walk_at "g_sq"); (case k2 => first | rfl | assumption); (case k3 => first | rfl | assumption); (case k4 => first | assumption | (show L2.inV _ _ = true; decide +kernel) | (show L2.inV _ _ = false; decide +kernel))) | ((with_reducible refine' Hf.i_ninT ?k1 ?k2 ?k3 ?k4 ?_); (case k1 => walk_at "g_sq"); (case k2 => first | rfl | assumption); (case k3 => first | rfl | assumption); (case k4 => first | assumption | (show L2.inV _ _ = true; decide +kernel) | (show L2.inV _ _ = false; decide +kernel))) | fail "nin")
local macro_rules | `(tactic| walk_at "g_val2") => `(tactic| first
  | ((with_reducible refine' Hf.i_slT1 ?k1 ?_); (case k1 => walk_at "g_sq"); intro _ _)
  | ((with_reducible refine' Hf.i_catTg ?k1 ?k2 ?k3 ?k4 ?_); (case k1 => walk_at "g_lk"); (case k2 => walk_at "g_sq"); (case k3 => simp); (case k4 => first | (simp; done) | (simp; omega)); intro _ _ _ _)
  | ((with_reducible refine' Hf.i_ix4S ?k1 ?k2 ?k3 ?_); (case k1 => walk_at "g_sq"); (case k2 => omega); (case k3 => omega); intro _ _)
  | fail "g_val2q")
local macro_rules | `(tactic| walk_at "g_val2") => `(tactic| first
  | (with_reducible refine' Hf.i_ienum ?_)
  | ((with_reducible refine' Hf.i_ienum' ?k1 ?_); (case k1 => walk_at "g_sq"))
  | (with_reducible refine' Hf.i_revR ?_)
  | ((with_reducible refine' Hf.i_revR' ?k1 ?_); (case k1 => walk_at "g_sq"); intro _ _) | fail "macn")
local macro_rules | `(tactic| walk_at "g_clt") => `(tactic| fail "g_clt")
local macro_rules | `(tactic| walk_at "g_val2") => `(tactic| first
  | (with_reducible refine' Hf.i_dget2 ?_)
  | ((with_reducible refine' Hf.i_isDK ?k1 ?_); (case k1 => walk_at "g_lk"))
  | ((with_reducible refine' Hf.i_dgoK ?k1 ?_); (case k1 => walk_at "g_lk"); (try rw [Hf.FlI.get (by assumption)]))
  | ((with_reducible refine' Hf.i_dpK ?k1 ?k2 ?_); (case k1 => walk_at "g_lk"); (case k2 => omega))
  | ((with_reducible refine' Hf.i_dnewK ?_); intro _ _)
  | ((with_reducible refine' Hf.i_lstDK ?k1 ?_); (case k1 => walk_at "g_lk"); intro _ _)
  | ((with_reducible refine' Hf.i_eqDI ?k1 ?k2 ?k3 ?k4 ?_); (case k1 => walk_at "g_lk"); (case k2 => walk_at "g_lk"); (case k3 => exact Hf.FlI.ints (by assumption)); (case k4 => exact Hf.FlI.ints (by assumption)))
  | ((with_reducible refine' Hf.i_neDI ?k1 ?k2 ?k3 ?k4 ?_); (case k1 => walk_at "g_lk"); (case k2 => walk_at "g_lk"); (case k3 => exact Hf.FlI.ints (by assumption)); (case k4 => exact Hf.FlI.ints (by assumption)))
  | ((with_reducible refine' Hf.i_leT2 ?k1 ?k2 ?_); (case k1 => walk_at "g_sq"); (case k2 => walk_at "g_sq"))
  | ((with_reducible refine' Hf.i_geT2 ?k1 ?k2 ?_); (case k1 => walk_at "g_sq"); (case k2 => walk_at "g_sq"))
  | ((with_reducible refine' Hf.i_inF ?k1 ?_); (case k1 => walk_at "g_sq"))
  | ((with_reducible refine' Hf.i_isXnone ?k1 ?k2 ?_); (case k1 => walk_at "g_clt"); (case k2 => walk_at "g_ty"))
  | ((with_reducible refine' Hf.i_slA2 ?k1 ?_); (case k1 => walk_at "g_sq"); intro _ _)
  | fail "g_val2k")
local macro_rules | `(tactic| walk_at "g_val2") => `(tactic| first
  | (with_reducible refine' Hf.i_isB ?_)
  | (with_reducible refine' Hf.i_notB ?_)
  | fail "g_val2j")
local macro_rules | `(tactic| walk_at "goS") => `(tactic| repeat ((fail_if_success (with_reducible refine' Hf.i_seq ?_)); walk_at "g1"))
local macro_rules | `(tactic| walk_at "g_dzA") => `(tactic| fail "g_dzA")
local macro_rules | `(tactic| walk_at "g_dz") => `(tactic| first
  | (with_reducible assumption)
  | (with_reducible refine' Hf.Dz.int ?_; first | (with_reducible assumption) | decide | omega) | (with_reducible exact Hf.Dz.bl _) | (with_reducible exact Hf.Dz.non)
  | ((with_reducible refine' Hf.Dz.str ?k1 ?k2 ?k3); (case k1 => decide +kernel); (case k2 => decide +kernel); (case k3 => decide +kernel))
  | ((with_reducible refine' Hf.Dz.tup (Hf.hid_lk (Hf.not_in1 ?n9) ?h9) ?d9); (case h9 => walk_at "g_lk"); (case n9 => walk_at "g_ne"); (case d9 => walk_at "g_dzA"))
  | ((with_reducible refine' Hf.Dz.lst (Hf.hid_lk (Hf.not_in1 ?n9) ?h9) ?d9); (case h9 => walk_at "g_lk"); (case n9 => walk_at "g_ne"); (case d9 => walk_at "g_dzA"))
  | ((with_reducible refine' Hf.Dz.same ?q9 ?s9); (case q9 => (with_reducible assumption)); (case s9 => walk_at "g_hs"))
  | fail "g_dz")
local macro_rules | `(tactic| walk_at "g_dzA") => `(tactic| first
  | (with_reducible assumption)
  | (with_reducible exact Hf.DzA.nil (n := 0))
  | ((with_reducible refine' Hf.DzA.cons ?k1 ?k2); (case k1 => walk_at "g_dz"); (case k2 => walk_at "g_dzA"))
  | ((with_reducible refine' Hf.DzA.append ?k1 ?k2); (case k1 => walk_at "g_dzA"); (case k2 => walk_at "g_dzA"))
  | ((with_reducible refine' Hf.DzA.take ?k1 _); (case k1 => walk_at "g_dzA"))
  | ((with_reducible refine' Hf.DzA.drop ?k1 _); (case k1 => walk_at "g_dzA"))
  | ((with_reducible refine' Hf.DzA.same ?q9 ?s9); (case q9 => (with_reducible assumption)); (case s9 => walk_at "g_hs"))
  | fail "g_dzA2")
local macro_rules | `(tactic| walk_at "g_hs") => `(tactic| first | ((with_reducible refine' Hf.hid_mono ?s8); (case s8 => walk_at "g_same")) | ((with_reducible refine' Hf.hid_but ?m8 ?s8); (case m8 => simp); (case s8 => walk_at "g_but")) | fail "g_hs")
local macro_rules | `(tactic| walk_at "g_val2") => `(tactic| first
  | (with_reducible refine' Hf.i_daug ?_)
  | ((with_reducible refine' Hf.i_dg2' ?k1 ?k2 ?k3 ?_); (case k1 => walk_at "g_lk"); (case k2 => walk_at "g_lk"); (case k3 => assumption))
  | ((with_reducible refine' Hf.i_dpa ?k1 ?k2 ?k3 ?_); (case k1 => walk_at "g_lk"); (case k2 => walk_at "g_lk"); (case k3 => omega))
  | (with_reducible refine' Hf.i_rSub ?_)
  | (with_reducible refine' Hf.i_rAdd ?_)
  | (with_reducible refine' Hf.i_augS ?_)
  | ((with_reducible refine' Hf.i_lenDT ?k1 ?_); (case k1 => walk_at "g_lk"))
  | ((with_reducible refine' Hf.i_bmD ?k1 ?_); (case k1 => walk_at "g_lk"))
  | ((with_reducible refine' Hf.i_popT1 ?k1 ?k2 ?k3 ?_); (case k1 => walk_at "g_lk"); (case k2 => walk_at "g_lk"); (case k3 => assumption))
  | fail "g_val2l")
local macro_rules | `(tactic| walk_at "g_val2") => `(tactic| first
  | ((with_reducible refine' Hf.i_cntL ?k1 ?k2 ?k3 ?_); (case k1 => walk_at "g_lk"); (case k2 => walk_at "g_lk"); (case k3 => assumption))
  | ((with_reducible refine' Hf.i_inL ?k1 ?k2 ?k3 ?_); (case k1 => walk_at "g_lk"); (case k2 => walk_at "g_lk"); (case k3 => assumption))
  | fail "cntL")
local macro_rules | `(tactic| walk_at "g_val2") => `(tactic| first
  | (with_reducible refine' Hf.i_lenSetT ?_)
  | ((with_reducible refine' Hf.i_sortedDK ?k1 ?k2 ?k3 ?_); (case k1 => walk_at "g_lk"); (case k2 => assumption); (case k3 => omega); intro _ _ _ _ _)
  | fail "g_val2r")
local macro_rules | `(tactic| walk_at "g_val2") => `(tactic| first
  | (with_reducible refine' Hf.i_revRg ?_)
  | ((with_reducible refine' Hf.i_revRg' ?k1 ?k2 ?k3 ?k4 ?_); (case k1 => omega); (case k2 => omega); (case k3 => omega); (case k4 => omega))
  | fail "g_val2rv")
local macro_rules | `(tactic| walk_at "g_pc") => `(tactic| first | (with_reducible assumption) | ((with_reducible refine' Hf.Pc.newT ?n9 ?h9); (case n9 => (with_reducible assumption)); (case h9 => walk_at "g_pc")) | ((with_reducible refine' Hf.Pc.sameT ?n9 ?h9); (case n9 => (with_reducible assumption)); (case h9 => walk_at "g_pc")) | fail "g_pc")
local macro_rules | `(tactic| walk_at "g_pre") => `(tactic| walk_at "g_pc")
local macro_rules | `(tactic| walk_at "g_free") => `(tactic| first | ((with_reducible refine' Hf.Pc.free (by with_reducible assumption) ?h7 ?h8); (case h8 => walk_at "g_pc"); (case h7 => walk_at "g_but2")) | fail "macc")
local macro_rules | `(tactic| walk_at "g_free") => `(tactic| first | ((with_reducible refine' Hf.Newly.pc1 ?n7 ?h7); (case n7 => (with_reducible assumption)); (case h7 => walk_at "g_pc")) | ((with_reducible refine' Hf.Newly.pc2 ?n7 ?h7); (case n7 => (with_reducible assumption)); (case h7 => walk_at "g_pc")) | fail "macc")
local macro_rules | `(tactic| walk_at "g_ne") => `(tactic| first | ((with_reducible refine' Hf.Pc.ne1' ?n9 ?h9); (case n9 => (with_reducible assumption)); (case h9 => walk_at "g_pc")) | ((with_reducible refine' Hf.Pc.ne2' ?n9 ?h9); (case n9 => (with_reducible assumption)); (case h9 => walk_at "g_pc")) | fail "macc")

theorem eqv_fld (a b : Nat) : a + b = b + a := Nat.add_comm a b
section
variable {P : Program} {w : World} {K : PySem.W.Frag} {mg : Str → Option Value} {base : Heap}
def topS (i : Nat) : Stmt := PySem.Challenge.pw_hostfields_k40_alike_battles_told.main.body.getD i (.Pass ⟨0, 0, 0, 0⟩)
abbrev s_NoBattle_init : Stmt := inClass (topS 2) 0
abbrev s_is_number : Stmt := topS 18
abbrev s_are_numbers : Stmt := topS 19
abbrev s_is_rule : Stmt := topS 20
abbrev s_is_field : Stmt := topS 21
abbrev s_look_battle : Stmt := topS 22
abbrev s_paid : Stmt := topS 23
abbrev s_is_plan : Stmt := topS 24
abbrev s_must_be_sizes : Stmt := topS 28
abbrev s_Fallings_init : Stmt := inClass (topS 29) 0
abbrev s_Fallings_many : Stmt := inClass (topS 29) 1
abbrev s_counts_many : Stmt := topS 30
abbrev s_counts_of : Stmt := topS 31
abbrev s_divisor : Stmt := topS 33
abbrev s_ratio : Stmt := topS 34
abbrev s_minus : Stmt := topS 35
abbrev s_divided_out : Stmt := topS 37
abbrev s_begun : Stmt := topS 38
abbrev s_entering : Stmt := topS 39
abbrev s_leaving : Stmt := topS 40
abbrev s_turned : Stmt := topS 41
abbrev s_solved : Stmt := topS 42
abbrev s_is_alike : Stmt := topS 44
abbrev s_must_be_alike : Stmt := topS 45
abbrev s_met : Stmt := topS 46
abbrev s_ring_gain : Stmt := topS 47
abbrev s_all_counts : Stmt := topS 48
abbrev s_table_by_counts : Stmt := topS 49
abbrev s_counts_table : Stmt := topS 50
abbrev s_with_weights : Stmt := topS 51
abbrev s_counts_worth : Stmt := topS 52
abbrev s_l_purse : Stmt := topS 54
abbrev s_l_draw : Stmt := topS 55
abbrev s_l_field : Stmt := topS 56
abbrev s_l_copy : Stmt := topS 57
abbrev s_l_changed : Stmt := topS 58
abbrev s_l_no_field : Stmt := topS 59
abbrev s_l_no_battle : Stmt := topS 60
abbrev s_l_marks : Stmt := topS 61
abbrev s_l_caught : Stmt := topS 62
abbrev s_l_said : Stmt := topS 63
abbrev s_law : Stmt := topS 64
theorem sc_NoBattle_init : FnScope ["self", "field"] ["self", "field"] (defScope s_NoBattle_init) := ⟨rfl, rfl, rfl, by decide +kernel, rfl, by decide +kernel, by decide +kernel⟩
theorem sc_is_number : FnScope ["thing"] ["thing"] (defScope s_is_number) := ⟨rfl, rfl, rfl, by decide +kernel, rfl, by decide +kernel, by decide +kernel⟩
theorem sc_are_numbers : FnScope ["thing", "many", "number"] ["thing", "many"] (defScope s_are_numbers) := ⟨rfl, rfl, rfl, by decide +kernel, rfl, by decide +kernel, by decide +kernel⟩
theorem sc_is_rule : FnScope ["field"] ["field"] (defScope s_is_rule) := ⟨rfl, rfl, rfl, by decide +kernel, rfl, by decide +kernel, by decide +kernel⟩
theorem sc_is_field : FnScope ["field", "first", "second", "row"] ["field", "first", "second"] (defScope s_is_field) := ⟨rfl, rfl, rfl, by decide +kernel, rfl, by decide +kernel, by decide +kernel⟩
theorem sc_look_battle : FnScope ["battle", "first", "second", "fields", "k"] ["battle"] (defScope s_look_battle) := ⟨rfl, rfl, rfl, by decide +kernel, rfl, by decide +kernel, by decide +kernel⟩
theorem sc_paid : FnScope ["field", "x", "y"] ["field", "x", "y"] (defScope s_paid) := ⟨rfl, rfl, rfl, by decide +kernel, rfl, by decide +kernel, by decide +kernel⟩
theorem sc_is_plan : FnScope ["hosts", "many", "plan"] ["hosts", "many", "plan"] (defScope s_is_plan) := ⟨rfl, rfl, rfl, by decide +kernel, rfl, by decide +kernel, by decide +kernel⟩
theorem sc_must_be_sizes : FnScope ["hosts", "fields"] ["hosts", "fields"] (defScope s_must_be_sizes) := ⟨rfl, rfl, rfl, by decide +kernel, rfl, by decide +kernel, by decide +kernel⟩
theorem sc_Fallings_init : FnScope ["self"] ["self"] (defScope s_Fallings_init) := ⟨rfl, rfl, rfl, by decide +kernel, rfl, by decide +kernel, by decide +kernel⟩
theorem sc_Fallings_many : FnScope ["self", "total", "size", "most", "begins", "one"] ["self", "total", "size", "most"] (defScope s_Fallings_many) := ⟨rfl, rfl, rfl, by decide +kernel, rfl, by decide +kernel, by decide +kernel⟩
theorem sc_counts_many : FnScope ["hosts", "fields"] ["hosts", "fields"] (defScope s_counts_many) := ⟨rfl, rfl, rfl, by decide +kernel, rfl, by decide +kernel, by decide +kernel⟩
theorem sc_counts_of : FnScope ["hosts", "fields", "number", "fallings", "found", "left", "k", "sent"] ["hosts", "fields", "number"] (defScope s_counts_of) := ⟨rfl, rfl, rfl, by decide +kernel, rfl, by decide +kernel, by decide +kernel⟩
theorem sc_divisor : FnScope ["one", "other"] ["one", "other"] (defScope s_divisor) := ⟨rfl, rfl, rfl, by decide +kernel, rfl, by decide +kernel, by decide +kernel⟩
theorem sc_ratio : FnScope ["top", "bottom", "most"] ["top", "bottom"] (defScope s_ratio) := ⟨rfl, rfl, rfl, by decide +kernel, rfl, by decide +kernel, by decide +kernel⟩
theorem sc_minus : FnScope ["one", "other"] ["one", "other"] (defScope s_minus) := ⟨rfl, rfl, rfl, by decide +kernel, rfl, by decide +kernel, by decide +kernel⟩
theorem sc_divided_out : FnScope ["numbers", "found", "number", "one", "other"] ["numbers"] (defScope s_divided_out) := ⟨rfl, rfl, rfl, by decide +kernel, rfl, by decide +kernel, by decide +kernel⟩
theorem sc_begun : FnScope ["table", "more", "lines", "k", "spare", "other", "number"] ["table", "more"] (defScope s_begun) := ⟨rfl, rfl, rfl, by decide +kernel, rfl, by decide +kernel, by decide +kernel⟩
theorem sc_entering : FnScope ["goal", "k"] ["goal"] (defScope s_entering) := ⟨rfl, rfl, rfl, by decide +kernel, rfl, by decide +kernel, by decide +kernel⟩
theorem sc_leaving : FnScope ["lines", "basis", "column", "best", "k", "one", "other"] ["lines", "basis", "column"] (defScope s_leaving) := ⟨rfl, rfl, rfl, by decide +kernel, rfl, by decide +kernel, by decide +kernel⟩
theorem sc_turned : FnScope ["line", "pivot", "column", "last", "by", "off", "number", "other"] ["line", "pivot", "column", "last"] (defScope s_turned) := ⟨rfl, rfl, rfl, by decide +kernel, rfl, by decide +kernel, by decide +kernel⟩
theorem sc_solved : FnScope ["table", "more", "wide", "lines", "goal", "k", "basis", "last", "column", "at", "pivot", "columns", "rows", "row", "line"] ["table"] (defScope s_solved) := ⟨rfl, rfl, rfl, by decide +kernel, rfl, by decide +kernel, by decide +kernel⟩
theorem sc_is_alike : FnScope ["battle", "field"] ["battle"] (defScope s_is_alike) := ⟨rfl, rfl, rfl, by decide +kernel, rfl, by decide +kernel, by decide +kernel⟩
theorem sc_must_be_alike : FnScope ["battle"] ["battle"] (defScope s_must_be_alike) := ⟨rfl, rfl, rfl, by decide +kernel, rfl, by decide +kernel, by decide +kernel⟩
theorem sc_met : FnScope ["field", "one", "other", "x", "y"] ["field", "one", "other"] (defScope s_met) := ⟨rfl, rfl, rfl, by decide +kernel, rfl, by decide +kernel, by decide +kernel⟩
theorem sc_ring_gain : FnScope ["battle", "one", "other", "many"] ["battle", "one", "other"] (defScope s_ring_gain) := ⟨rfl, rfl, rfl, by decide +kernel, rfl, by decide +kernel, by decide +kernel⟩
theorem sc_all_counts : FnScope ["hosts", "many", "number"] ["hosts", "many"] (defScope s_all_counts) := ⟨rfl, rfl, rfl, by decide +kernel, rfl, by decide +kernel, by decide +kernel⟩
theorem sc_table_by_counts : FnScope ["battle", "first", "second", "fields", "others", "one", "other"] ["battle"] (defScope s_table_by_counts) := ⟨rfl, rfl, rfl, by decide +kernel, rfl, by decide +kernel, by decide +kernel⟩
theorem sc_counts_table : FnScope ["battle"] ["battle"] (defScope s_counts_table) := ⟨rfl, rfl, rfl, by decide +kernel, rfl, by decide +kernel, by decide +kernel⟩
theorem sc_with_weights : FnScope ["plans", "weights", "k"] ["plans", "weights"] (defScope s_with_weights) := ⟨rfl, rfl, rfl, by decide +kernel, rfl, by decide +kernel, by decide +kernel⟩
theorem sc_counts_worth : FnScope ["battle", "first", "second", "fields", "worth", "rows", "columns", "one", "other"] ["battle"] (defScope s_counts_worth) := ⟨rfl, rfl, rfl, by decide +kernel, rfl, by decide +kernel, by decide +kernel⟩
theorem sc_l_purse : FnScope ["_law_script", "_law_cells"] ["_law_script"] (defScope s_l_purse) := ⟨rfl, rfl, rfl, by decide +kernel, rfl, by decide +kernel, by decide +kernel⟩
theorem sc_l_draw : FnScope ["_law_purse_here", "_law_out_of", "_law_cells", "_law_turn", "_law_at", "_law_cell", "_law_number", "_law_other"] ["_law_purse_here", "_law_out_of"] (defScope s_l_draw) := ⟨rfl, rfl, rfl, by decide +kernel, rfl, by decide +kernel, by decide +kernel⟩
theorem sc_l_field : FnScope ["_law_purse_here", "_law_first", "_law_second", "_law_kind", "_law_worth", "_law_tie", "_law_near", "_law_rows", "_law_top", "_law_x", "_law_y"] ["_law_purse_here", "_law_first", "_law_second"] (defScope s_l_field) := ⟨rfl, rfl, rfl, by decide +kernel, rfl, by decide +kernel, by decide +kernel⟩
theorem sc_l_copy : FnScope ["_law_field_here", "_law_row"] ["_law_field_here"] (defScope s_l_copy) := ⟨rfl, rfl, rfl, by decide +kernel, rfl, by decide +kernel, by decide +kernel⟩
theorem sc_l_changed : FnScope ["_law_purse_here", "_law_field_here", "_law_first", "_law_second", "_law_step", "_law_rows", "_law_x", "_law_y", "_law_row"] ["_law_purse_here", "_law_field_here", "_law_first", "_law_second"] (defScope s_l_changed) := ⟨rfl, rfl, rfl, by decide +kernel, rfl, by decide +kernel, by decide +kernel⟩
theorem sc_l_no_field : FnScope ["_law_purse_here", "_law_field_here", "_law_way", "_law_rows", "_law_short", "_law_longer", "_law_bad", "_law_word", "_law_worth", "_law_other", "_law_some", "_law_row"] ["_law_purse_here", "_law_field_here"] (defScope s_l_no_field) := ⟨rfl, rfl, rfl, by decide +kernel, rfl, by decide +kernel, by decide +kernel⟩
theorem sc_l_no_battle : FnScope ["_law_purse_here", "_law_battle", "_law_first", "_law_second", "_law_fields", "_law_way", "_law_at"] ["_law_purse_here", "_law_battle"] (defScope s_l_no_battle) := ⟨rfl, rfl, rfl, by decide +kernel, rfl, by decide +kernel, by decide +kernel⟩
theorem sc_l_marks : FnScope ["_law_caught_here", "_law_some", "_law_words", "_law_found", "_law_word", "_law_truth"] ["_law_caught_here"] (defScope s_l_marks) := ⟨rfl, rfl, rfl, by decide +kernel, rfl, by decide +kernel, by decide +kernel⟩
theorem sc_l_caught : FnScope ["_law_way", "_law_battle", "_law_one", "_law_other", "_law_caught_here", "e"] ["_law_way", "_law_battle", "_law_one", "_law_other"] (defScope s_l_caught) := ⟨rfl, rfl, rfl, by decide +kernel, rfl, by decide +kernel, by decide +kernel⟩
theorem sc_l_said : FnScope ["_law_battle", "_law_due", "_law_handed", "_law_found", "_law_plans", "_law_some", "_law_way", "_law_one", "_law_field_here"] ["_law_battle", "_law_due"] (defScope s_l_said) := ⟨rfl, rfl, rfl, by decide +kernel, rfl, by decide +kernel, by decide +kernel⟩
theorem sc_law : FnScope ["_law_script", "_law_purse_here", "_law_turn", "_law_first", "_law_second", "_law_field_here", "_law_fields", "_law_battle", "_law_at", "_law_changed_here", "_law_none", "_law_due", "_law_kept", "_law_way", "_law_caught_here", "_law_k"] ["_law_script"] (defScope s_law) := ⟨rfl, rfl, rfl, by decide +kernel, rfl, by decide +kernel, by decide +kernel⟩
structure Txt (K : PySem.W.Frag) (mg : Str → Option Value) where
  a_NoBattle_init : Addr
  d_NoBattle_init : FuncData
  F_NoBattle_init : Fun K "__init__" "NoBattle.__init__" s_NoBattle_init a_NoBattle_init d_NoBattle_init
  b_NoBattle_init : Binds K d_NoBattle_init ["self", "field"] []
  a_is_number : Addr
  d_is_number : FuncData
  F_is_number : Fun K "is_number" "is_number" s_is_number a_is_number d_is_number
  g_is_number : mg "is_number" = some (.ref a_is_number)
  b_is_number : Binds K d_is_number ["thing"] []
  a_are_numbers : Addr
  d_are_numbers : FuncData
  F_are_numbers : Fun K "are_numbers" "are_numbers" s_are_numbers a_are_numbers d_are_numbers
  g_are_numbers : mg "are_numbers" = some (.ref a_are_numbers)
  b_are_numbers : Binds K d_are_numbers ["thing", "many"] []
  a_is_rule : Addr
  d_is_rule : FuncData
  F_is_rule : Fun K "is_rule" "is_rule" s_is_rule a_is_rule d_is_rule
  g_is_rule : mg "is_rule" = some (.ref a_is_rule)
  b_is_rule : Binds K d_is_rule ["field"] []
  a_is_field : Addr
  d_is_field : FuncData
  F_is_field : Fun K "is_field" "is_field" s_is_field a_is_field d_is_field
  g_is_field : mg "is_field" = some (.ref a_is_field)
  b_is_field : Binds K d_is_field ["field", "first", "second"] []
  a_look_battle : Addr
  d_look_battle : FuncData
  F_look_battle : Fun K "look_battle" "look_battle" s_look_battle a_look_battle d_look_battle
  g_look_battle : mg "look_battle" = some (.ref a_look_battle)
  b_look_battle : Binds K d_look_battle ["battle"] []
  a_paid : Addr
  d_paid : FuncData
  F_paid : Fun K "paid" "paid" s_paid a_paid d_paid
  g_paid : mg "paid" = some (.ref a_paid)
  b_paid : Binds K d_paid ["field", "x", "y"] []
  a_is_plan : Addr
  d_is_plan : FuncData
  F_is_plan : Fun K "is_plan" "is_plan" s_is_plan a_is_plan d_is_plan
  g_is_plan : mg "is_plan" = some (.ref a_is_plan)
  b_is_plan : Binds K d_is_plan ["hosts", "many", "plan"] []
  a_must_be_sizes : Addr
  d_must_be_sizes : FuncData
  F_must_be_sizes : Fun K "must_be_sizes" "must_be_sizes" s_must_be_sizes a_must_be_sizes d_must_be_sizes
  g_must_be_sizes : mg "must_be_sizes" = some (.ref a_must_be_sizes)
  b_must_be_sizes : Binds K d_must_be_sizes ["hosts", "fields"] []
  a_Fallings_init : Addr
  d_Fallings_init : FuncData
  F_Fallings_init : Fun K "__init__" "Fallings.__init__" s_Fallings_init a_Fallings_init d_Fallings_init
  b_Fallings_init : Binds K d_Fallings_init ["self"] []
  a_Fallings_many : Addr
  d_Fallings_many : FuncData
  F_Fallings_many : Fun K "many" "Fallings.many" s_Fallings_many a_Fallings_many d_Fallings_many
  b_Fallings_many : Binds K d_Fallings_many ["self", "total", "size", "most"] []
  a_counts_many : Addr
  d_counts_many : FuncData
  F_counts_many : Fun K "counts_many" "counts_many" s_counts_many a_counts_many d_counts_many
  g_counts_many : mg "counts_many" = some (.ref a_counts_many)
  b_counts_many : Binds K d_counts_many ["hosts", "fields"] []
  a_counts_of : Addr
  d_counts_of : FuncData
  F_counts_of : Fun K "counts_of" "counts_of" s_counts_of a_counts_of d_counts_of
  g_counts_of : mg "counts_of" = some (.ref a_counts_of)
  b_counts_of : Binds K d_counts_of ["hosts", "fields", "number"] []
  a_divisor : Addr
  d_divisor : FuncData
  F_divisor : Fun K "divisor" "divisor" s_divisor a_divisor d_divisor
  g_divisor : mg "divisor" = some (.ref a_divisor)
  b_divisor : Binds K d_divisor ["one", "other"] []
  a_ratio : Addr
  d_ratio : FuncData
  F_ratio : Fun K "ratio" "ratio" s_ratio a_ratio d_ratio
  g_ratio : mg "ratio" = some (.ref a_ratio)
  b_ratio : Binds K d_ratio ["top", "bottom"] []
  a_minus : Addr
  d_minus : FuncData
  F_minus : Fun K "minus" "minus" s_minus a_minus d_minus
  g_minus : mg "minus" = some (.ref a_minus)
  b_minus : Binds K d_minus ["one", "other"] []
  a_divided_out : Addr
  d_divided_out : FuncData
  F_divided_out : Fun K "divided_out" "divided_out" s_divided_out a_divided_out d_divided_out
  g_divided_out : mg "divided_out" = some (.ref a_divided_out)
  b_divided_out : Binds K d_divided_out ["numbers"] []
  a_begun : Addr
  d_begun : FuncData
  F_begun : Fun K "begun" "begun" s_begun a_begun d_begun
  g_begun : mg "begun" = some (.ref a_begun)
  b_begun : Binds K d_begun ["table", "more"] []
  a_entering : Addr
  d_entering : FuncData
  F_entering : Fun K "entering" "entering" s_entering a_entering d_entering
  g_entering : mg "entering" = some (.ref a_entering)
  b_entering : Binds K d_entering ["goal"] []
  a_leaving : Addr
  d_leaving : FuncData
  F_leaving : Fun K "leaving" "leaving" s_leaving a_leaving d_leaving
  g_leaving : mg "leaving" = some (.ref a_leaving)
  b_leaving : Binds K d_leaving ["lines", "basis", "column"] []
  a_turned : Addr
  d_turned : FuncData
  F_turned : Fun K "turned" "turned" s_turned a_turned d_turned
  g_turned : mg "turned" = some (.ref a_turned)
  b_turned : Binds K d_turned ["line", "pivot", "column", "last"] []
  a_solved : Addr
  d_solved : FuncData
  F_solved : Fun K "solved" "solved" s_solved a_solved d_solved
  g_solved : mg "solved" = some (.ref a_solved)
  b_solved : Binds K d_solved ["table"] []
  a_is_alike : Addr
  d_is_alike : FuncData
  F_is_alike : Fun K "is_alike" "is_alike" s_is_alike a_is_alike d_is_alike
  g_is_alike : mg "is_alike" = some (.ref a_is_alike)
  b_is_alike : Binds K d_is_alike ["battle"] []
  a_must_be_alike : Addr
  d_must_be_alike : FuncData
  F_must_be_alike : Fun K "must_be_alike" "must_be_alike" s_must_be_alike a_must_be_alike d_must_be_alike
  g_must_be_alike : mg "must_be_alike" = some (.ref a_must_be_alike)
  b_must_be_alike : Binds K d_must_be_alike ["battle"] []
  a_met : Addr
  d_met : FuncData
  F_met : Fun K "met" "met" s_met a_met d_met
  g_met : mg "met" = some (.ref a_met)
  b_met : Binds K d_met ["field", "one", "other"] []
  a_ring_gain : Addr
  d_ring_gain : FuncData
  F_ring_gain : Fun K "ring_gain" "ring_gain" s_ring_gain a_ring_gain d_ring_gain
  g_ring_gain : mg "ring_gain" = some (.ref a_ring_gain)
  b_ring_gain : Binds K d_ring_gain ["battle", "one", "other"] []
  a_all_counts : Addr
  d_all_counts : FuncData
  F_all_counts : Fun K "all_counts" "all_counts" s_all_counts a_all_counts d_all_counts
  g_all_counts : mg "all_counts" = some (.ref a_all_counts)
  b_all_counts : Binds K d_all_counts ["hosts", "many"] []
  a_table_by_counts : Addr
  d_table_by_counts : FuncData
  F_table_by_counts : Fun K "table_by_counts" "table_by_counts" s_table_by_counts a_table_by_counts d_table_by_counts
  g_table_by_counts : mg "table_by_counts" = some (.ref a_table_by_counts)
  b_table_by_counts : Binds K d_table_by_counts ["battle"] []
  a_counts_table : Addr
  d_counts_table : FuncData
  F_counts_table : Fun K "counts_table" "counts_table" s_counts_table a_counts_table d_counts_table
  g_counts_table : mg "counts_table" = some (.ref a_counts_table)
  b_counts_table : Binds K d_counts_table ["battle"] []
  a_with_weights : Addr
  d_with_weights : FuncData
  F_with_weights : Fun K "with_weights" "with_weights" s_with_weights a_with_weights d_with_weights
  g_with_weights : mg "with_weights" = some (.ref a_with_weights)
  b_with_weights : Binds K d_with_weights ["plans", "weights"] []
  a_counts_worth : Addr
  d_counts_worth : FuncData
  F_counts_worth : Fun K "counts_worth" "counts_worth" s_counts_worth a_counts_worth d_counts_worth
  g_counts_worth : mg "counts_worth" = some (.ref a_counts_worth)
  b_counts_worth : Binds K d_counts_worth ["battle"] []
  a_l_purse : Addr
  d_l_purse : FuncData
  F_l_purse : Fun K "_law_purse" "_law_purse" s_l_purse a_l_purse d_l_purse
  g_l_purse : mg "_law_purse" = some (.ref a_l_purse)
  b_l_purse : Binds K d_l_purse ["_law_script"] []
  a_l_draw : Addr
  d_l_draw : FuncData
  F_l_draw : Fun K "_law_draw" "_law_draw" s_l_draw a_l_draw d_l_draw
  g_l_draw : mg "_law_draw" = some (.ref a_l_draw)
  b_l_draw : Binds K d_l_draw ["_law_purse_here", "_law_out_of"] []
  a_l_field : Addr
  d_l_field : FuncData
  F_l_field : Fun K "_law_field" "_law_field" s_l_field a_l_field d_l_field
  g_l_field : mg "_law_field" = some (.ref a_l_field)
  b_l_field : Binds K d_l_field ["_law_purse_here", "_law_first", "_law_second"] []
  a_l_copy : Addr
  d_l_copy : FuncData
  F_l_copy : Fun K "_law_copy" "_law_copy" s_l_copy a_l_copy d_l_copy
  g_l_copy : mg "_law_copy" = some (.ref a_l_copy)
  b_l_copy : Binds K d_l_copy ["_law_field_here"] []
  a_l_changed : Addr
  d_l_changed : FuncData
  F_l_changed : Fun K "_law_changed" "_law_changed" s_l_changed a_l_changed d_l_changed
  g_l_changed : mg "_law_changed" = some (.ref a_l_changed)
  b_l_changed : Binds K d_l_changed ["_law_purse_here", "_law_field_here", "_law_first", "_law_second"] []
  a_l_no_field : Addr
  d_l_no_field : FuncData
  F_l_no_field : Fun K "_law_no_field" "_law_no_field" s_l_no_field a_l_no_field d_l_no_field
  g_l_no_field : mg "_law_no_field" = some (.ref a_l_no_field)
  b_l_no_field : Binds K d_l_no_field ["_law_purse_here", "_law_field_here"] []
  a_l_no_battle : Addr
  d_l_no_battle : FuncData
  F_l_no_battle : Fun K "_law_no_battle" "_law_no_battle" s_l_no_battle a_l_no_battle d_l_no_battle
  g_l_no_battle : mg "_law_no_battle" = some (.ref a_l_no_battle)
  b_l_no_battle : Binds K d_l_no_battle ["_law_purse_here", "_law_battle"] []
  a_l_marks : Addr
  d_l_marks : FuncData
  F_l_marks : Fun K "_law_marks" "_law_marks" s_l_marks a_l_marks d_l_marks
  g_l_marks : mg "_law_marks" = some (.ref a_l_marks)
  b_l_marks : Binds K d_l_marks ["_law_caught_here"] []
  a_l_caught : Addr
  d_l_caught : FuncData
  F_l_caught : Fun K "_law_caught" "_law_caught" s_l_caught a_l_caught d_l_caught
  g_l_caught : mg "_law_caught" = some (.ref a_l_caught)
  b_l_caught : Binds K d_l_caught ["_law_way", "_law_battle", "_law_one", "_law_other"] []
  a_l_said : Addr
  d_l_said : FuncData
  F_l_said : Fun K "_law_said" "_law_said" s_l_said a_l_said d_l_said
  g_l_said : mg "_law_said" = some (.ref a_l_said)
  b_l_said : Binds K d_l_said ["_law_battle", "_law_due"] []
  a_law : Addr
  d_law : FuncData
  F_law : Fun K "law" "law" s_law a_law d_law
  g_law : mg "law" = some (.ref a_law)
  b_law : Binds K d_law ["_law_script"] []
  e_Fallings : Addr
  g_Fallings : mg "Fallings" = some (.ref e_Fallings)
  pg_Fallings : PySem.W.plainGet K e_Fallings Str.empty = true
  ph_Fallings : PySem.W.hasDictIn K e_Fallings = true
  po_Fallings : PySem.W.plainOver K e_Fallings = true
  ps_Fallings : PySem.W.findIn K (.ref e_Fallings) "__setattr__" = some (some (.builtin "object.__setattr__"))
  pm_Fallings : PySem.W.makesIn K e_Fallings = true
  pk_Fallings : PySem.W.keepIn K (.ref e_Fallings) = true
  pf_Fallings_init : PySem.W.findIn K (.ref e_Fallings) "__init__" = some (some (.ref a_Fallings_init))
  pn_Fallings_init : PySem.W.isFn K (.ref a_Fallings_init) = true
  pp_Fallings_init : PySem.W.keepIn K (.ref a_Fallings_init) = true
  pf_Fallings_many : PySem.W.findIn K (.ref e_Fallings) "many" = some (some (.ref a_Fallings_many))
  pn_Fallings_many : PySem.W.isFn K (.ref a_Fallings_many) = true
  pp_Fallings_many : PySem.W.keepIn K (.ref a_Fallings_many) = true
  pa_Fallings_known : PySem.W.findIn K (.ref e_Fallings) "known" = some none
  z_ValueError : mg "ValueError" = none
  z_abs : mg "abs" = none
  z_bool : mg "bool" = none
  z_int : mg "int" = none
  z_isinstance : mg "isinstance" = none
  z_len : mg "len" = none
  z_list : mg "list" = none
  z_max : mg "max" = none
  z_min : mg "min" = none
  z_range : mg "range" = none
  z_str : mg "str" = none
  z_sum : mg "sum" = none
  z_zip : mg "zip" = none
  t_MOST_HOSTS_fields : Tok
  c_MOST_HOSTS_fields : mg "MOST_HOSTS_fields" = some (.int 10 t_MOST_HOSTS_fields)
  t_MOST_FIELDS_fields : Tok
  c_MOST_FIELDS_fields : mg "MOST_FIELDS_fields" = some (.int 5 t_MOST_FIELDS_fields)
  t_MOST_HOSTS_plans : Tok
  c_MOST_HOSTS_plans : mg "MOST_HOSTS_plans" = some (.int 40 t_MOST_HOSTS_plans)
  t_MOST_FIELDS_plans : Tok
  c_MOST_FIELDS_plans : mg "MOST_FIELDS_plans" = some (.int 8 t_MOST_FIELDS_plans)
  e_HostError : Addr
  g_HostError : mg "HostError" = some (.ref e_HostError)
  i_HostError : PySem.W.isClsIn K e_HostError = true
  t_HostError : PySem.W.typeIn K (.ref e_HostError) = some (.type "type")
  y_HostError : PySem.W.subIn K (.ref e_HostError) (.type "BaseException") = some true
  e_NoBattle : Addr
  g_NoBattle : mg "NoBattle" = some (.ref e_NoBattle)
  i_NoBattle : PySem.W.isClsIn K e_NoBattle = true
  t_NoBattle : PySem.W.typeIn K (.ref e_NoBattle) = some (.type "type")
  y_NoBattle : PySem.W.subIn K (.ref e_NoBattle) (.type "BaseException") = some true
  e_NoPlan : Addr
  g_NoPlan : mg "NoPlan" = some (.ref e_NoPlan)
  i_NoPlan : PySem.W.isClsIn K e_NoPlan = true
  t_NoPlan : PySem.W.typeIn K (.ref e_NoPlan) = some (.type "type")
  y_NoPlan : PySem.W.subIn K (.ref e_NoPlan) (.type "BaseException") = some true
  e_NoMix : Addr
  g_NoMix : mg "NoMix" = some (.ref e_NoMix)
  i_NoMix : PySem.W.isClsIn K e_NoMix = true
  t_NoMix : PySem.W.typeIn K (.ref e_NoMix) = some (.type "type")
  y_NoMix : PySem.W.subIn K (.ref e_NoMix) (.type "BaseException") = some true
  e_NoStream : Addr
  g_NoStream : mg "NoStream" = some (.ref e_NoStream)
  i_NoStream : PySem.W.isClsIn K e_NoStream = true
  t_NoStream : PySem.W.typeIn K (.ref e_NoStream) = some (.type "type")
  y_NoStream : PySem.W.subIn K (.ref e_NoStream) (.type "BaseException") = some true
  e_NoSide : Addr
  g_NoSide : mg "NoSide" = some (.ref e_NoSide)
  i_NoSide : PySem.W.isClsIn K e_NoSide = true
  t_NoSide : PySem.W.typeIn K (.ref e_NoSide) = some (.type "type")
  y_NoSide : PySem.W.subIn K (.ref e_NoSide) (.type "BaseException") = some true
  e_NoAlike : Addr
  g_NoAlike : mg "NoAlike" = some (.ref e_NoAlike)
  i_NoAlike : PySem.W.isClsIn K e_NoAlike = true
  t_NoAlike : PySem.W.typeIn K (.ref e_NoAlike) = some (.type "type")
  y_NoAlike : PySem.W.subIn K (.ref e_NoAlike) (.type "BaseException") = some true
  e_NoNumber : Addr
  g_NoNumber : mg "NoNumber" = some (.ref e_NoNumber)
  i_NoNumber : PySem.W.isClsIn K e_NoNumber = true
  t_NoNumber : PySem.W.typeIn K (.ref e_NoNumber) = some (.type "type")
  y_NoNumber : PySem.W.subIn K (.ref e_NoNumber) (.type "BaseException") = some true
  e_TooGreat : Addr
  g_TooGreat : mg "TooGreat" = some (.ref e_TooGreat)
  i_TooGreat : PySem.W.isClsIn K e_TooGreat = true
  t_TooGreat : PySem.W.typeIn K (.ref e_TooGreat) = some (.type "type")
  y_TooGreat : PySem.W.subIn K (.ref e_TooGreat) (.type "BaseException") = some true
  e_NoEven : Addr
  g_NoEven : mg "NoEven" = some (.ref e_NoEven)
  i_NoEven : PySem.W.isClsIn K e_NoEven = true
  t_NoEven : PySem.W.typeIn K (.ref e_NoEven) = some (.type "type")
  y_NoEven : PySem.W.subIn K (.ref e_NoEven) (.type "BaseException") = some true
  e_NoText : Addr
  g_NoText : mg "NoText" = some (.ref e_NoText)
  i_NoText : PySem.W.isClsIn K e_NoText = true
  t_NoText : PySem.W.typeIn K (.ref e_NoText) = some (.type "type")
  y_NoText : PySem.W.subIn K (.ref e_NoText) (.type "BaseException") = some true
  e_NoRow : Addr
  g_NoRow : mg "NoRow" = some (.ref e_NoRow)
  i_NoRow : PySem.W.isClsIn K e_NoRow = true
  t_NoRow : PySem.W.typeIn K (.ref e_NoRow) = some (.type "type")
  y_NoRow : PySem.W.subIn K (.ref e_NoRow) (.type "BaseException") = some true
  e_NoName : Addr
  g_NoName : mg "NoName" = some (.ref e_NoName)
  i_NoName : PySem.W.isClsIn K e_NoName = true
  t_NoName : PySem.W.typeIn K (.ref e_NoName) = some (.type "type")
  y_NoName : PySem.W.subIn K (.ref e_NoName) (.type "BaseException") = some true
  e_NoPlace : Addr
  g_NoPlace : mg "NoPlace" = some (.ref e_NoPlace)
  i_NoPlace : PySem.W.isClsIn K e_NoPlace = true
  t_NoPlace : PySem.W.typeIn K (.ref e_NoPlace) = some (.type "type")
  y_NoPlace : PySem.W.subIn K (.ref e_NoPlace) (.type "BaseException") = some true
  x_NoPlan : PySem.W.excIn K e_NoPlan [.type "ValueError", .type "Exception", .type "BaseException", .type "object"] "ValueError.__new__" = true
  k_NoPlan : PySem.W.keepIn K (.ref e_NoPlan) = true
  hg_NoPlan : PySem.W.findIn K (.ref e_NoPlan) "__getattribute__" = some (some (.builtin "BaseException.__getattribute__"))
  hk_NoPlan : PySem.W.findIn K (.ref e_NoPlan) "__getattr__" = some none
  hd_NoPlan : PySem.W.hasDictIn K e_NoPlan = true
  ha_NoPlan : PySem.W.findIn K (.ref e_NoPlan) "__class__" = some (some (.builtin "object.__class__"))
  hm_NoPlan : PySem.W.mroIn K e_NoPlan (.type "object") = some true
  v_NoPlan : PySem.W.subIn K (.ref e_NoPlan) (.type "ValueError") = some true
  s_NoPlan_HostError : PySem.W.subIn K (.ref e_NoPlan) (.ref e_HostError) = some true
  s_NoPlan_NoBattle : PySem.W.subIn K (.ref e_NoPlan) (.ref e_NoBattle) = some false
  s_NoPlan_NoPlan : PySem.W.subIn K (.ref e_NoPlan) (.ref e_NoPlan) = some true
  s_NoPlan_NoMix : PySem.W.subIn K (.ref e_NoPlan) (.ref e_NoMix) = some false
  s_NoPlan_NoStream : PySem.W.subIn K (.ref e_NoPlan) (.ref e_NoStream) = some false
  s_NoPlan_NoSide : PySem.W.subIn K (.ref e_NoPlan) (.ref e_NoSide) = some false
  s_NoPlan_NoAlike : PySem.W.subIn K (.ref e_NoPlan) (.ref e_NoAlike) = some false
  s_NoPlan_NoNumber : PySem.W.subIn K (.ref e_NoPlan) (.ref e_NoNumber) = some false
  s_NoPlan_TooGreat : PySem.W.subIn K (.ref e_NoPlan) (.ref e_TooGreat) = some false
  s_NoPlan_NoEven : PySem.W.subIn K (.ref e_NoPlan) (.ref e_NoEven) = some false
  s_NoPlan_NoText : PySem.W.subIn K (.ref e_NoPlan) (.ref e_NoText) = some false
  s_NoPlan_NoRow : PySem.W.subIn K (.ref e_NoPlan) (.ref e_NoRow) = some false
  s_NoPlan_NoName : PySem.W.subIn K (.ref e_NoPlan) (.ref e_NoName) = some false
  s_NoPlan_NoPlace : PySem.W.subIn K (.ref e_NoPlan) (.ref e_NoPlace) = some false
  x_NoAlike : PySem.W.excIn K e_NoAlike [.type "ValueError", .type "Exception", .type "BaseException", .type "object"] "ValueError.__new__" = true
  k_NoAlike : PySem.W.keepIn K (.ref e_NoAlike) = true
  hg_NoAlike : PySem.W.findIn K (.ref e_NoAlike) "__getattribute__" = some (some (.builtin "BaseException.__getattribute__"))
  hk_NoAlike : PySem.W.findIn K (.ref e_NoAlike) "__getattr__" = some none
  hd_NoAlike : PySem.W.hasDictIn K e_NoAlike = true
  ha_NoAlike : PySem.W.findIn K (.ref e_NoAlike) "__class__" = some (some (.builtin "object.__class__"))
  hm_NoAlike : PySem.W.mroIn K e_NoAlike (.type "object") = some true
  v_NoAlike : PySem.W.subIn K (.ref e_NoAlike) (.type "ValueError") = some true
  s_NoAlike_HostError : PySem.W.subIn K (.ref e_NoAlike) (.ref e_HostError) = some true
  s_NoAlike_NoBattle : PySem.W.subIn K (.ref e_NoAlike) (.ref e_NoBattle) = some false
  s_NoAlike_NoPlan : PySem.W.subIn K (.ref e_NoAlike) (.ref e_NoPlan) = some false
  s_NoAlike_NoMix : PySem.W.subIn K (.ref e_NoAlike) (.ref e_NoMix) = some false
  s_NoAlike_NoStream : PySem.W.subIn K (.ref e_NoAlike) (.ref e_NoStream) = some false
  s_NoAlike_NoSide : PySem.W.subIn K (.ref e_NoAlike) (.ref e_NoSide) = some false
  s_NoAlike_NoAlike : PySem.W.subIn K (.ref e_NoAlike) (.ref e_NoAlike) = some true
  s_NoAlike_NoNumber : PySem.W.subIn K (.ref e_NoAlike) (.ref e_NoNumber) = some false
  s_NoAlike_TooGreat : PySem.W.subIn K (.ref e_NoAlike) (.ref e_TooGreat) = some false
  s_NoAlike_NoEven : PySem.W.subIn K (.ref e_NoAlike) (.ref e_NoEven) = some false
  s_NoAlike_NoText : PySem.W.subIn K (.ref e_NoAlike) (.ref e_NoText) = some false
  s_NoAlike_NoRow : PySem.W.subIn K (.ref e_NoAlike) (.ref e_NoRow) = some false
  s_NoAlike_NoName : PySem.W.subIn K (.ref e_NoAlike) (.ref e_NoName) = some false
  s_NoAlike_NoPlace : PySem.W.subIn K (.ref e_NoAlike) (.ref e_NoPlace) = some false
  oc_NoBattle : ∃ nm q N bs bm sn sub ab col dd k0 k1 k2 k3 k5, K.lookup e_NoBattle = some (excClassObj nm q e_NoBattle N bs bm true sn sub ab col dd k0 k1 k2 k3 k5 "ValueError.__new__") ∧ PySem.HandSPX.refsVE bm = true
  sa_NoBattle : PySem.W.findIn K (.ref e_NoBattle) "__setattr__" = some (some (.builtin "object.__setattr__"))
  ic_NoBattle : PySem.W.findIn K (.ref e_NoBattle) "__init__" = some (some (.ref a_NoBattle_init))
  ti_NoBattle : PySem.W.typeIn K (.ref a_NoBattle_init) = some (.type "function")
  no_NoBattle_field : PySem.W.findIn K (.ref e_NoBattle) "field" = some none
  rd_HostError : PySem.W.readsIn K e_HostError (.type "type") = true
  ga_HostError : PySem.W.specialIn K (.ref e_HostError) "__getattribute__" = some (some (.builtin "type.__getattribute__"))
  fc_HostError : PySem.W.findCls K (.ref e_HostError) (.type "type") "__init__" = some (.val (.builtin "ValueError.__init__"))
  k_NoBattle : PySem.W.keepIn K (.ref e_NoBattle) = true
  hg_NoBattle : PySem.W.findIn K (.ref e_NoBattle) "__getattribute__" = some (some (.builtin "BaseException.__getattribute__"))
  hk_NoBattle : PySem.W.findIn K (.ref e_NoBattle) "__getattr__" = some none
  hd_NoBattle : PySem.W.hasDictIn K e_NoBattle = true
  ha_NoBattle : PySem.W.findIn K (.ref e_NoBattle) "__class__" = some (some (.builtin "object.__class__"))
  hm_NoBattle : PySem.W.mroIn K e_NoBattle (.type "object") = some true
  v_NoBattle : PySem.W.subIn K (.ref e_NoBattle) (.type "ValueError") = some true
  s_NoBattle_HostError : PySem.W.subIn K (.ref e_NoBattle) (.ref e_HostError) = some true
  s_NoBattle_NoBattle : PySem.W.subIn K (.ref e_NoBattle) (.ref e_NoBattle) = some true
  s_NoBattle_NoPlan : PySem.W.subIn K (.ref e_NoBattle) (.ref e_NoPlan) = some false
  s_NoBattle_NoMix : PySem.W.subIn K (.ref e_NoBattle) (.ref e_NoMix) = some false
  s_NoBattle_NoStream : PySem.W.subIn K (.ref e_NoBattle) (.ref e_NoStream) = some false
  s_NoBattle_NoSide : PySem.W.subIn K (.ref e_NoBattle) (.ref e_NoSide) = some false
  s_NoBattle_NoAlike : PySem.W.subIn K (.ref e_NoBattle) (.ref e_NoAlike) = some false
  s_NoBattle_NoNumber : PySem.W.subIn K (.ref e_NoBattle) (.ref e_NoNumber) = some false
  s_NoBattle_TooGreat : PySem.W.subIn K (.ref e_NoBattle) (.ref e_TooGreat) = some false
  s_NoBattle_NoEven : PySem.W.subIn K (.ref e_NoBattle) (.ref e_NoEven) = some false
  s_NoBattle_NoText : PySem.W.subIn K (.ref e_NoBattle) (.ref e_NoText) = some false
  s_NoBattle_NoRow : PySem.W.subIn K (.ref e_NoBattle) (.ref e_NoRow) = some false
  s_NoBattle_NoName : PySem.W.subIn K (.ref e_NoBattle) (.ref e_NoName) = some false
  s_NoBattle_NoPlace : PySem.W.subIn K (.ref e_NoBattle) (.ref e_NoPlace) = some false
  ho_n : PySem.W.specialIn K (.builtin "object.__class__") "__get__" = some (some (.builtin "getset_descriptor.__get__"))
  ho_t : PySem.W.takesIn K (.builtin "object.__class__") = some true
theorem Txt.C_Fallings {K : PySem.W.Frag} {mg : Str → Option Value} (T : Txt K mg) : Cls K T.e_Fallings := ⟨T.pg_Fallings, T.ph_Fallings, T.po_Fallings, T.ps_Fallings⟩
theorem Txt.M_Fallings {K : PySem.W.Frag} {mg : Str → Option Value} (T : Txt K mg) : Mk K T.e_Fallings T.a_Fallings_init := ⟨T.pm_Fallings, T.pf_Fallings_init, T.pn_Fallings_init, T.pk_Fallings⟩
theorem Txt.m_Fallings_many {K : PySem.W.Frag} {mg : Str → Option Value} (T : Txt K mg) : Meth K T.e_Fallings "many" T.a_Fallings_many := ⟨T.pf_Fallings_many, T.pn_Fallings_many, T.pp_Fallings_many⟩
theorem Txt.N_Fallings_known {K : PySem.W.Frag} {mg : Str → Option Value} (T : Txt K mg) : NoAttr K T.e_Fallings "known" := T.pa_Fallings_known
local macro_rules | `(tactic| walk_at "g_cls") => `(tactic| first | exact Txt.C_Fallings _ | exact Txt.N_Fallings_known _)
section
variable {K : PySem.W.Frag} {mg : Str → Option Value} (T : Txt K mg)
include T
theorem Txt.O_NoBattle : OexC K T.e_NoBattle := ⟨T.oc_NoBattle, T.sa_NoBattle, T.y_NoBattle, T.t_NoBattle, T.k_NoBattle⟩
theorem cl_HostError : ClsT K T.e_HostError := ⟨T.i_HostError, T.t_HostError⟩
theorem cl_NoBattle : ClsT K T.e_NoBattle := ⟨T.i_NoBattle, T.t_NoBattle⟩
theorem cl_NoPlan : ClsT K T.e_NoPlan := ⟨T.i_NoPlan, T.t_NoPlan⟩
theorem cl_NoMix : ClsT K T.e_NoMix := ⟨T.i_NoMix, T.t_NoMix⟩
theorem cl_NoStream : ClsT K T.e_NoStream := ⟨T.i_NoStream, T.t_NoStream⟩
theorem cl_NoSide : ClsT K T.e_NoSide := ⟨T.i_NoSide, T.t_NoSide⟩
theorem cl_NoAlike : ClsT K T.e_NoAlike := ⟨T.i_NoAlike, T.t_NoAlike⟩
theorem cl_NoNumber : ClsT K T.e_NoNumber := ⟨T.i_NoNumber, T.t_NoNumber⟩
theorem cl_TooGreat : ClsT K T.e_TooGreat := ⟨T.i_TooGreat, T.t_TooGreat⟩
theorem cl_NoEven : ClsT K T.e_NoEven := ⟨T.i_NoEven, T.t_NoEven⟩
theorem cl_NoText : ClsT K T.e_NoText := ⟨T.i_NoText, T.t_NoText⟩
theorem cl_NoRow : ClsT K T.e_NoRow := ⟨T.i_NoRow, T.t_NoRow⟩
theorem cl_NoName : ClsT K T.e_NoName := ⟨T.i_NoName, T.t_NoName⟩
theorem cl_NoPlace : ClsT K T.e_NoPlace := ⟨T.i_NoPlace, T.t_NoPlace⟩
theorem exc_NoPlan : L2.ExcC K T.e_NoPlan := ⟨T.hg_NoPlan, T.hk_NoPlan, T.y_NoPlan, T.hd_NoPlan, T.ha_NoPlan, T.ho_n, T.ho_t, T.hm_NoPlan⟩
theorem kit_NoPlan_ValueError : PySem.W.kitOne K (.ref T.e_NoPlan) (.type "ValueError") = some true := kit_v T.v_NoPlan (by decide +kernel)
theorem kit_NoPlan_HostError : PySem.W.kitOne K (.ref T.e_NoPlan) (.ref T.e_HostError) = some true := kit_t (cl_HostError T) T.s_NoPlan_HostError
theorem exm_NoPlan_HostError : PySem.W.exmOne K (.ref T.e_NoPlan) (.ref T.e_HostError) = some true := exm_t (cl_HostError T) T.y_HostError T.s_NoPlan_HostError
theorem kit_NoPlan_NoBattle : PySem.W.kitOne K (.ref T.e_NoPlan) (.ref T.e_NoBattle) = some false := kit_f (cl_NoBattle T) T.s_NoPlan_NoPlan T.s_NoPlan_NoBattle
theorem kit_NoPlan_NoPlan : PySem.W.kitOne K (.ref T.e_NoPlan) (.ref T.e_NoPlan) = some true := kit_t (cl_NoPlan T) T.s_NoPlan_NoPlan
theorem exm_NoPlan_NoPlan : PySem.W.exmOne K (.ref T.e_NoPlan) (.ref T.e_NoPlan) = some true := exm_t (cl_NoPlan T) T.y_NoPlan T.s_NoPlan_NoPlan
theorem kit_NoPlan_NoMix : PySem.W.kitOne K (.ref T.e_NoPlan) (.ref T.e_NoMix) = some false := kit_f (cl_NoMix T) T.s_NoPlan_NoPlan T.s_NoPlan_NoMix
theorem kit_NoPlan_NoStream : PySem.W.kitOne K (.ref T.e_NoPlan) (.ref T.e_NoStream) = some false := kit_f (cl_NoStream T) T.s_NoPlan_NoPlan T.s_NoPlan_NoStream
theorem kit_NoPlan_NoSide : PySem.W.kitOne K (.ref T.e_NoPlan) (.ref T.e_NoSide) = some false := kit_f (cl_NoSide T) T.s_NoPlan_NoPlan T.s_NoPlan_NoSide
theorem kit_NoPlan_NoAlike : PySem.W.kitOne K (.ref T.e_NoPlan) (.ref T.e_NoAlike) = some false := kit_f (cl_NoAlike T) T.s_NoPlan_NoPlan T.s_NoPlan_NoAlike
theorem kit_NoPlan_NoNumber : PySem.W.kitOne K (.ref T.e_NoPlan) (.ref T.e_NoNumber) = some false := kit_f (cl_NoNumber T) T.s_NoPlan_NoPlan T.s_NoPlan_NoNumber
theorem kit_NoPlan_TooGreat : PySem.W.kitOne K (.ref T.e_NoPlan) (.ref T.e_TooGreat) = some false := kit_f (cl_TooGreat T) T.s_NoPlan_NoPlan T.s_NoPlan_TooGreat
theorem kit_NoPlan_NoEven : PySem.W.kitOne K (.ref T.e_NoPlan) (.ref T.e_NoEven) = some false := kit_f (cl_NoEven T) T.s_NoPlan_NoPlan T.s_NoPlan_NoEven
theorem kit_NoPlan_NoText : PySem.W.kitOne K (.ref T.e_NoPlan) (.ref T.e_NoText) = some false := kit_f (cl_NoText T) T.s_NoPlan_NoPlan T.s_NoPlan_NoText
theorem kit_NoPlan_NoRow : PySem.W.kitOne K (.ref T.e_NoPlan) (.ref T.e_NoRow) = some false := kit_f (cl_NoRow T) T.s_NoPlan_NoPlan T.s_NoPlan_NoRow
theorem kit_NoPlan_NoName : PySem.W.kitOne K (.ref T.e_NoPlan) (.ref T.e_NoName) = some false := kit_f (cl_NoName T) T.s_NoPlan_NoPlan T.s_NoPlan_NoName
theorem kit_NoPlan_NoPlace : PySem.W.kitOne K (.ref T.e_NoPlan) (.ref T.e_NoPlace) = some false := kit_f (cl_NoPlace T) T.s_NoPlan_NoPlan T.s_NoPlan_NoPlace
theorem exc_NoAlike : L2.ExcC K T.e_NoAlike := ⟨T.hg_NoAlike, T.hk_NoAlike, T.y_NoAlike, T.hd_NoAlike, T.ha_NoAlike, T.ho_n, T.ho_t, T.hm_NoAlike⟩
theorem kit_NoAlike_ValueError : PySem.W.kitOne K (.ref T.e_NoAlike) (.type "ValueError") = some true := kit_v T.v_NoAlike (by decide +kernel)
theorem kit_NoAlike_HostError : PySem.W.kitOne K (.ref T.e_NoAlike) (.ref T.e_HostError) = some true := kit_t (cl_HostError T) T.s_NoAlike_HostError
theorem exm_NoAlike_HostError : PySem.W.exmOne K (.ref T.e_NoAlike) (.ref T.e_HostError) = some true := exm_t (cl_HostError T) T.y_HostError T.s_NoAlike_HostError
theorem kit_NoAlike_NoBattle : PySem.W.kitOne K (.ref T.e_NoAlike) (.ref T.e_NoBattle) = some false := kit_f (cl_NoBattle T) T.s_NoAlike_NoAlike T.s_NoAlike_NoBattle
theorem kit_NoAlike_NoPlan : PySem.W.kitOne K (.ref T.e_NoAlike) (.ref T.e_NoPlan) = some false := kit_f (cl_NoPlan T) T.s_NoAlike_NoAlike T.s_NoAlike_NoPlan
theorem kit_NoAlike_NoMix : PySem.W.kitOne K (.ref T.e_NoAlike) (.ref T.e_NoMix) = some false := kit_f (cl_NoMix T) T.s_NoAlike_NoAlike T.s_NoAlike_NoMix
theorem kit_NoAlike_NoStream : PySem.W.kitOne K (.ref T.e_NoAlike) (.ref T.e_NoStream) = some false := kit_f (cl_NoStream T) T.s_NoAlike_NoAlike T.s_NoAlike_NoStream
theorem kit_NoAlike_NoSide : PySem.W.kitOne K (.ref T.e_NoAlike) (.ref T.e_NoSide) = some false := kit_f (cl_NoSide T) T.s_NoAlike_NoAlike T.s_NoAlike_NoSide
theorem kit_NoAlike_NoAlike : PySem.W.kitOne K (.ref T.e_NoAlike) (.ref T.e_NoAlike) = some true := kit_t (cl_NoAlike T) T.s_NoAlike_NoAlike
theorem exm_NoAlike_NoAlike : PySem.W.exmOne K (.ref T.e_NoAlike) (.ref T.e_NoAlike) = some true := exm_t (cl_NoAlike T) T.y_NoAlike T.s_NoAlike_NoAlike
theorem kit_NoAlike_NoNumber : PySem.W.kitOne K (.ref T.e_NoAlike) (.ref T.e_NoNumber) = some false := kit_f (cl_NoNumber T) T.s_NoAlike_NoAlike T.s_NoAlike_NoNumber
theorem kit_NoAlike_TooGreat : PySem.W.kitOne K (.ref T.e_NoAlike) (.ref T.e_TooGreat) = some false := kit_f (cl_TooGreat T) T.s_NoAlike_NoAlike T.s_NoAlike_TooGreat
theorem kit_NoAlike_NoEven : PySem.W.kitOne K (.ref T.e_NoAlike) (.ref T.e_NoEven) = some false := kit_f (cl_NoEven T) T.s_NoAlike_NoAlike T.s_NoAlike_NoEven
theorem kit_NoAlike_NoText : PySem.W.kitOne K (.ref T.e_NoAlike) (.ref T.e_NoText) = some false := kit_f (cl_NoText T) T.s_NoAlike_NoAlike T.s_NoAlike_NoText
theorem kit_NoAlike_NoRow : PySem.W.kitOne K (.ref T.e_NoAlike) (.ref T.e_NoRow) = some false := kit_f (cl_NoRow T) T.s_NoAlike_NoAlike T.s_NoAlike_NoRow
theorem kit_NoAlike_NoName : PySem.W.kitOne K (.ref T.e_NoAlike) (.ref T.e_NoName) = some false := kit_f (cl_NoName T) T.s_NoAlike_NoAlike T.s_NoAlike_NoName
theorem kit_NoAlike_NoPlace : PySem.W.kitOne K (.ref T.e_NoAlike) (.ref T.e_NoPlace) = some false := kit_f (cl_NoPlace T) T.s_NoAlike_NoAlike T.s_NoAlike_NoPlace
theorem exc_NoBattle : L2.ExcC K T.e_NoBattle := ⟨T.hg_NoBattle, T.hk_NoBattle, T.y_NoBattle, T.hd_NoBattle, T.ha_NoBattle, T.ho_n, T.ho_t, T.hm_NoBattle⟩
theorem kit_NoBattle_ValueError : PySem.W.kitOne K (.ref T.e_NoBattle) (.type "ValueError") = some true := kit_v T.v_NoBattle (by decide +kernel)
theorem kit_NoBattle_HostError : PySem.W.kitOne K (.ref T.e_NoBattle) (.ref T.e_HostError) = some true := kit_t (cl_HostError T) T.s_NoBattle_HostError
theorem exm_NoBattle_HostError : PySem.W.exmOne K (.ref T.e_NoBattle) (.ref T.e_HostError) = some true := exm_t (cl_HostError T) T.y_HostError T.s_NoBattle_HostError
theorem kit_NoBattle_NoBattle : PySem.W.kitOne K (.ref T.e_NoBattle) (.ref T.e_NoBattle) = some true := kit_t (cl_NoBattle T) T.s_NoBattle_NoBattle
theorem exm_NoBattle_NoBattle : PySem.W.exmOne K (.ref T.e_NoBattle) (.ref T.e_NoBattle) = some true := exm_t (cl_NoBattle T) T.y_NoBattle T.s_NoBattle_NoBattle
theorem kit_NoBattle_NoPlan : PySem.W.kitOne K (.ref T.e_NoBattle) (.ref T.e_NoPlan) = some false := kit_f (cl_NoPlan T) T.s_NoBattle_NoBattle T.s_NoBattle_NoPlan
theorem kit_NoBattle_NoMix : PySem.W.kitOne K (.ref T.e_NoBattle) (.ref T.e_NoMix) = some false := kit_f (cl_NoMix T) T.s_NoBattle_NoBattle T.s_NoBattle_NoMix
theorem kit_NoBattle_NoStream : PySem.W.kitOne K (.ref T.e_NoBattle) (.ref T.e_NoStream) = some false := kit_f (cl_NoStream T) T.s_NoBattle_NoBattle T.s_NoBattle_NoStream
theorem kit_NoBattle_NoSide : PySem.W.kitOne K (.ref T.e_NoBattle) (.ref T.e_NoSide) = some false := kit_f (cl_NoSide T) T.s_NoBattle_NoBattle T.s_NoBattle_NoSide
theorem kit_NoBattle_NoAlike : PySem.W.kitOne K (.ref T.e_NoBattle) (.ref T.e_NoAlike) = some false := kit_f (cl_NoAlike T) T.s_NoBattle_NoBattle T.s_NoBattle_NoAlike
theorem kit_NoBattle_NoNumber : PySem.W.kitOne K (.ref T.e_NoBattle) (.ref T.e_NoNumber) = some false := kit_f (cl_NoNumber T) T.s_NoBattle_NoBattle T.s_NoBattle_NoNumber
theorem kit_NoBattle_TooGreat : PySem.W.kitOne K (.ref T.e_NoBattle) (.ref T.e_TooGreat) = some false := kit_f (cl_TooGreat T) T.s_NoBattle_NoBattle T.s_NoBattle_TooGreat
theorem kit_NoBattle_NoEven : PySem.W.kitOne K (.ref T.e_NoBattle) (.ref T.e_NoEven) = some false := kit_f (cl_NoEven T) T.s_NoBattle_NoBattle T.s_NoBattle_NoEven
theorem kit_NoBattle_NoText : PySem.W.kitOne K (.ref T.e_NoBattle) (.ref T.e_NoText) = some false := kit_f (cl_NoText T) T.s_NoBattle_NoBattle T.s_NoBattle_NoText
theorem kit_NoBattle_NoRow : PySem.W.kitOne K (.ref T.e_NoBattle) (.ref T.e_NoRow) = some false := kit_f (cl_NoRow T) T.s_NoBattle_NoBattle T.s_NoBattle_NoRow
theorem kit_NoBattle_NoName : PySem.W.kitOne K (.ref T.e_NoBattle) (.ref T.e_NoName) = some false := kit_f (cl_NoName T) T.s_NoBattle_NoBattle T.s_NoBattle_NoName
theorem kit_NoBattle_NoPlace : PySem.W.kitOne K (.ref T.e_NoBattle) (.ref T.e_NoPlace) = some false := kit_f (cl_NoPlace T) T.s_NoBattle_NoBattle T.s_NoBattle_NoPlace
end
local macro_rules | `(tactic| walk_at "g_oex") => `(tactic| first | (with_reducible exact Txt.O_NoBattle _))
local macro_rules | `(tactic| walk_at "g_nof") => `(tactic| first | (with_reducible exact Txt.no_NoBattle_field _))
local macro_rules | `(tactic| walk_at "g_kit") => `(tactic| first | (with_reducible exact kit_NoPlan_ValueError _) | (with_reducible exact kit_NoPlan_HostError _) | (with_reducible exact kit_NoPlan_NoBattle _) | (with_reducible exact kit_NoPlan_NoPlan _) | (with_reducible exact kit_NoPlan_NoMix _) | (with_reducible exact kit_NoPlan_NoStream _) | (with_reducible exact kit_NoPlan_NoSide _) | (with_reducible exact kit_NoPlan_NoAlike _) | (with_reducible exact kit_NoPlan_NoNumber _) | (with_reducible exact kit_NoPlan_TooGreat _) | (with_reducible exact kit_NoPlan_NoEven _) | (with_reducible exact kit_NoPlan_NoText _) | (with_reducible exact kit_NoPlan_NoRow _) | (with_reducible exact kit_NoPlan_NoName _) | (with_reducible exact kit_NoPlan_NoPlace _) | (with_reducible exact kit_NoAlike_ValueError _) | (with_reducible exact kit_NoAlike_HostError _) | (with_reducible exact kit_NoAlike_NoBattle _) | (with_reducible exact kit_NoAlike_NoPlan _) | (with_reducible exact kit_NoAlike_NoMix _) | (with_reducible exact kit_NoAlike_NoStream _) | (with_reducible exact kit_NoAlike_NoSide _) | (with_reducible exact kit_NoAlike_NoAlike _) | (with_reducible exact kit_NoAlike_NoNumber _) | (with_reducible exact kit_NoAlike_TooGreat _) | (with_reducible exact kit_NoAlike_NoEven _) | (with_reducible exact kit_NoAlike_NoText _) | (with_reducible exact kit_NoAlike_NoRow _) | (with_reducible exact kit_NoAlike_NoName _) | (with_reducible exact kit_NoAlike_NoPlace _) | (with_reducible exact kit_NoBattle_ValueError _) | (with_reducible exact kit_NoBattle_HostError _) | (with_reducible exact kit_NoBattle_NoBattle _) | (with_reducible exact kit_NoBattle_NoPlan _) | (with_reducible exact kit_NoBattle_NoMix _) | (with_reducible exact kit_NoBattle_NoStream _) | (with_reducible exact kit_NoBattle_NoSide _) | (with_reducible exact kit_NoBattle_NoAlike _) | (with_reducible exact kit_NoBattle_NoNumber _) | (with_reducible exact kit_NoBattle_TooGreat _) | (with_reducible exact kit_NoBattle_NoEven _) | (with_reducible exact kit_NoBattle_NoText _) | (with_reducible exact kit_NoBattle_NoRow _) | (with_reducible exact kit_NoBattle_NoName _) | (with_reducible exact kit_NoBattle_NoPlace _))
local macro_rules | `(tactic| walk_at "g_exc") => `(tactic| first | (with_reducible exact exc_NoPlan _) | (with_reducible exact exc_NoAlike _) | (with_reducible exact exc_NoBattle _))
local macro_rules | `(tactic| walk_at "g_exm") => `(tactic| first | (with_reducible exact exm_NoPlan_HostError _) | (with_reducible exact exm_NoPlan_NoPlan _) | (with_reducible exact exm_NoAlike_HostError _) | (with_reducible exact exm_NoAlike_NoAlike _) | (with_reducible exact exm_NoBattle_HostError _) | (with_reducible exact exm_NoBattle_NoBattle _))
local macro_rules | `(tactic| walk_at "g_clt") => `(tactic| first | (with_reducible exact cl_HostError _) | (with_reducible exact cl_NoBattle _) | (with_reducible exact cl_NoPlan _) | (with_reducible exact cl_NoMix _) | (with_reducible exact cl_NoStream _) | (with_reducible exact cl_NoSide _) | (with_reducible exact cl_NoAlike _) | (with_reducible exact cl_NoNumber _) | (with_reducible exact cl_TooGreat _) | (with_reducible exact cl_NoEven _) | (with_reducible exact cl_NoText _) | (with_reducible exact cl_NoRow _) | (with_reducible exact cl_NoName _) | (with_reducible exact cl_NoPlace _))
def sp_l_purse (K : PySem.W.Frag) : Sp := fun vs H Q E => ∃ (a : Addr) (ns : List Int), vs = [.ref a] ∧ (SqL K H a (ns.map V.int)) ∧ ∀ (p c : Addr) (H' : Hp), (Pc p c H' 0) → (Same H H') → (H p = none) → (H c = none) → Q (.ref p) H'
theorem use_l_purse {K : PySem.W.Frag} {H : Hp} {Q : VK} {E : XK} {a : Addr} {ns : List Int} (p0 : SqL K H a (ns.map V.int)) (k : ∀ (p c : Addr) (H' : Hp), (Pc p c H' 0) → (Same H H') → (H p = none) → (H c = none) → Q (.ref p) H') : sp_l_purse K [.ref a] H Q E := ⟨a, ns, rfl, p0, k⟩
theorem len_l_purse {K : PySem.W.Frag} (vs : List V) (H : Hp) (Q : VK) (E : XK) (h : sp_l_purse K vs H Q E) : vs.length = ["_law_script"].length := by
  obtain ⟨_, _, rfl, _⟩ := h
  rfl
local macro_rules | `(tactic| walk_at "g_call") => `(tactic| ((with_reducible refine' use_l_purse ?c0 ?_); (case c0 => walk_at "g_pre"); intros))
theorem ok_l_purse (T : Txt K mg) : FnOk P w K mg base CX0 1 T.a_l_purse T.d_l_purse ["_law_script"] (sp_l_purse K) := by
  refine T.F_l_purse.ok sc_l_purse len_l_purse (fun cdv A outer s H vs Q E hr h => ?_)
  refine ⟨_, (pss_cons (ps_set (i := 1) sc_l_purse.nd rfl (Or.inl rfl) (pe_slice (sl_listK K rfl) (pv 0) po_none (po_some pe_int)))
      (pss_cons (ps_if (pt_cmpR (op_eqDK K rfl hr.units) (pv 1) (pe_lst pa_nil) (nomark _)) (pss_one (ps_set (i := 1) sc_l_purse.nd rfl (Or.inl rfl) (pe_lst (pa_cons pe_int pa_nil)))) pss_nil)
      (pss_one (ps_ret (pe_lst (pa_cons (pv 1) (pa_cons pe_int pa_nil))))))), ?_⟩
  try dsimp only [L2.cxOf, L2.Cx.nox, L2.Cx.wish, List.map_cons, List.map_nil]
  obtain ⟨a, ns, rfl, p0, k⟩ := h
  refine start_to (σ := [some _, none]) rfl ?_
  walk_at "goI"
  rename_i c nc
  refine if_join (fun σ' H' => ∃ (c' : Addr) (ms : List Int), σ' = [some (.ref a), some (.ref c')] ∧ H' c' = some (.lst (ms.map V.int)) ∧ Same H H' ∧ H c' = none ∧ 1 ≤ ms.length ∧ ms.length ≤ 63) (fun nx' hn => ?_) ?_
  · walk_at "go"
    rename_i q nq
    have hq : H q = none := by walk_at "g_free"
    refine ite_d (fun c1 => ?_) (fun c1 => ?_)
    · walk_at "go"
      rename_i r nr
      refine hn _ _ ⟨_, [0], rfl, upd_same, by walk_at "g_same", by walk_at "g_free", by decide, by decide⟩
    · walk_at "go"
      refine hn _ _ ⟨_, _, rfl, by walk_at "g_lk", by walk_at "g_same", nc, ?_, ?_⟩
      · cases h : ns.take (Int.toNat 63) with
        | nil => exact absurd h c1
        | cons x r => simp
      · simp
        omega
  · rintro σ' H' ⟨c', ms, rfl, h1, h2, h3, h4, h5⟩
    walk_at "go"
    rename_i p np
    exact k _ _ _ ⟨ms, 0, upd_same, by walk_at "g_lk", by walk_at "g_ne", ⟨h4, h5⟩, by decide, by decide⟩ (by walk_at "g_same") (by walk_at "g_free") h3
def sp_l_draw (K : PySem.W.Frag) : Sp := fun vs H Q E => ∃ (p c : Addr) (z b : Int), vs = [.ref p, .int b] ∧ (Pc p c H z) ∧ (z ≤ 1000000) ∧ (0 < b ∧ b < 2 ^ 200) ∧ ∀ (d : Int) (H' : Hp), (0 ≤ d ∧ d < b) → (Pc p c H' (z + 1)) → (But2 p c H H') → Q (.int d) H'
theorem use_l_draw {K : PySem.W.Frag} {H : Hp} {Q : VK} {E : XK} {p c : Addr} {z b : Int} (p0 : Pc p c H z) (p1 : z ≤ 1000000) (p2 : 0 < b ∧ b < 2 ^ 200) (k : ∀ (d : Int) (H' : Hp), (0 ≤ d ∧ d < b) → (Pc p c H' (z + 1)) → (But2 p c H H') → Q (.int d) H') : sp_l_draw K [.ref p, .int b] H Q E := ⟨p, c, z, b, rfl, p0, p1, p2, k⟩
theorem len_l_draw {K : PySem.W.Frag} (vs : List V) (H : Hp) (Q : VK) (E : XK) (h : sp_l_draw K vs H Q E) : vs.length = ["_law_purse_here", "_law_out_of"].length := by
  obtain ⟨_, _, _, _, rfl, _⟩ := h
  rfl
local macro_rules | `(tactic| walk_at "g_call") => `(tactic| ((with_reducible refine' use_l_draw ?c0 ?c1 ?c2 ?_); (case c0 => walk_at "g_pre"); (case c1 => walk_at "g_pre"); (case c2 => walk_at "g_pre"); intros))
theorem ok_l_draw (T : Txt K mg) : FnOk P w K mg base CX0 1 T.a_l_draw T.d_l_draw ["_law_purse_here", "_law_out_of"] (sp_l_draw K) := by
  refine T.F_l_draw.ok sc_l_draw len_l_draw (fun cdv A outer s H vs Q E hr h => ?_)
  refine ⟨_, (pss_cons (ps_asg (pv 0) (pg_lstK K rfl 2 rfl (pgs_cons (pg_name (i := 2) sc_l_draw.nd rfl (Or.inl rfl)) (pgs_cons (pg_name (i := 3) sc_l_draw.nd rfl (Or.inl rfl)) pgs_nil))))
      (pss_cons (ps_set (i := 4) sc_l_draw.nd rfl (Or.inl rfl) (pe_op op_mod (pv 3) (pe_callB (call_lenK K rfl) (by rfl) T.z_len (by decide +kernel) (pa_cons (pv 2) pa_nil))))
      (pss_cons (ps_set (i := 5) sc_l_draw.nd rfl (Or.inl rfl) (pe_ix (ix_listK K rfl) (pv 2) (pv 4) (fun _ _ => rfl)))
      (pss_cons (ps_asg (pe_op op_add (pv 3) pe_int) (pg_sub (pv 0) pe_int set_list))
      (pss_cons (ps_if (pt_cmpR op_ge (pv 5) (pe_op op_pow pe_int pe_int) (nomark _)) (pss_cons (ps_asg (pe_op op_fdivA (pv 5) (pv 1)) (pg_sub (pv 2) (pv 4) set_list))
      (pss_one (ps_ret (pe_op op_mod (pv 5) (pv 1))))) pss_nil)
      (pss_cons (ps_set (i := 6) sc_l_draw.nd rfl (Or.inl rfl) (pe_op op_mod (pe_op op_add (pe_op op_add (pe_op op_mulA (pe_op op_mod (pv 5) pe_int) pe_int) (pe_op op_mulA (pe_op op_mulA (pv 3) (pv 3)) pe_int)) pe_int) pe_int))
      (pss_cons (ps_set (i := 6) sc_l_draw.nd rfl (Or.inl rfl) (pe_op op_mod (pe_op op_mulA (pv 6) (pv 6)) pe_int))
      (pss_cons (ps_set (i := 6) sc_l_draw.nd rfl (Or.inl rfl) (pe_op op_mod (pe_op op_mulA (pv 6) (pv 6)) pe_int))
      (pss_cons (ps_if (pt_cmpR op_gt (pv 1) (pe_op op_pow pe_int pe_int) (nomark _)) (pss_cons (ps_set (i := 7) sc_l_draw.nd rfl (Or.inl rfl) (pe_op op_mod (pe_op op_add (pe_op op_add (pe_op op_mulA (pv 6) pe_int) (pe_op op_mulA (pv 3) pe_int)) pe_int) pe_int))
      (pss_one (ps_set (i := 6) sc_l_draw.nd rfl (Or.inl rfl) (pe_op op_mulA (pv 6) (pe_op op_add (pe_op op_pow (pv 7) pe_int) pe_int))))) pss_nil)
      (pss_one (ps_ret (pe_op op_mod (pv 6) (pv 1))))))))))))), ?_⟩
  try dsimp only [L2.cxOf, L2.Cx.nox, L2.Cx.wish, List.map_cons, List.map_nil]
  obtain ⟨p, c, z, b, rfl, ⟨ms, t, p0, p1, p2, p3, p4⟩, p6, p5, k⟩ := h
  refine start_to (σ := [some _, some _, none, none, none, none, none, none]) rfl ?_
  have hl : 0 < (ms.length : Int) := by omega
  have hm0 := Int.emod_nonneg t (show (ms.length : Int) ≠ 0 by omega)
  have hm1 := Int.emod_lt_of_pos t hl
  walk_at "go"
  refine ite_d (fun c1 => ?_) (fun c1 => ?_)
  · walk_at "go"
    exact k _ _ ⟨Int.emod_nonneg _ (by omega), Int.emod_lt_of_pos _ (by omega)⟩ ⟨_, t + 1, by walk_at "g_lk", upd_same, p2, by rw [List.length_set]; exact p3, by omega, by omega⟩ (by walk_at "g_but2")
  · walk_at "go"
    refine ite_d (fun c2 => ?_) (fun c2 => ?_)
    · walk_at "go"
      exact k _ _ ⟨Int.emod_nonneg _ (by omega), Int.emod_lt_of_pos _ (by omega)⟩ ⟨ms, t + 1, upd_same, by walk_at "g_lk", p2, p3, by omega, by omega⟩ (by walk_at "g_but2")
    · walk_at "go"
      exact k _ _ ⟨Int.emod_nonneg _ (by omega), Int.emod_lt_of_pos _ (by omega)⟩ ⟨ms, t + 1, upd_same, by walk_at "g_lk", p2, p3, by omega, by omega⟩ (by walk_at "g_but2")

def sp_met (K : PySem.W.Frag) : Sp := fun _ _ _ _ => False
theorem ok_met (T : Txt K mg) : FnOk P w K mg base CX0 2 T.a_met T.d_met ["field", "one", "other"] (sp_met K) := by
  exact ⟨fun _ _ _ _ h => False.elim h, fun A outer s H args us vs Q E hr he hb hv h => False.elim h⟩
def sp_ratio (K : PySem.W.Frag) : Sp := fun _ _ _ _ => False
theorem ok_ratio (T : Txt K mg) : FnOk P w K mg base CX0 2 T.a_ratio T.d_ratio ["top", "bottom"] (sp_ratio K) := by
  exact ⟨fun _ _ _ _ h => False.elim h, fun A outer s H args us vs Q E hr he hb hv h => False.elim h⟩
def sp_table_by_counts (K : PySem.W.Frag) : Sp := fun _ _ _ _ => False
theorem ok_table_by_counts (T : Txt K mg) : FnOk P w K mg base CX0 12 T.a_table_by_counts T.d_table_by_counts ["battle"] (sp_table_by_counts K) := by
  exact ⟨fun _ _ _ _ h => False.elim h, fun A outer s H args us vs Q E hr he hb hv h => False.elim h⟩
def sp_solved (K : PySem.W.Frag) : Sp := fun _ _ _ _ => False
theorem ok_solved (T : Txt K mg) : FnOk P w K mg base CX0 4 T.a_solved T.d_solved ["table"] (sp_solved K) := by
  exact ⟨fun _ _ _ _ h => False.elim h, fun A outer s H args us vs Q E hr he hb hv h => False.elim h⟩
def sp_with_weights (K : PySem.W.Frag) : Sp := fun _ _ _ _ => False
theorem ok_with_weights (T : Txt K mg) : FnOk P w K mg base CX0 1 T.a_with_weights T.d_with_weights ["plans", "weights"] (sp_with_weights K) := by
  exact ⟨fun _ _ _ _ h => False.elim h, fun A outer s H args us vs Q E hr he hb hv h => False.elim h⟩
def sp_all_counts (K : PySem.W.Frag) : Sp := fun _ _ _ _ => False
theorem ok_all_counts (T : Txt K mg) : FnOk P w K mg base CX0 11 T.a_all_counts T.d_all_counts ["hosts", "many"] (sp_all_counts K) := by
  exact ⟨fun _ _ _ _ h => False.elim h, fun A outer s H args us vs Q E hr he hb hv h => False.elim h⟩
def sp_Fallings_init (K : PySem.W.Frag) : Sp := fun _ _ _ _ => False
theorem ok_Fallings_init (T : Txt K mg) : FnOk P w K mg base CX0 1 T.a_Fallings_init T.d_Fallings_init ["self"] (sp_Fallings_init K) := by
  exact ⟨fun _ _ _ _ h => False.elim h, fun A outer s H args us vs Q E hr he hb hv h => False.elim h⟩
def sp_NoBattle_init (K : PySem.W.Frag) (C : Addr) : Sp := fun vs H Q E => ∃ (x : Addr) (y : V), vs = [.ref x, y] ∧ (H x = some (exo x C none)) ∧ ∀ (dx : Addr), (H dx = none) → (dx ≠ x) → Q (.non) (upd (upd H dx (exd dx [(("field" : Str), y)])) x (exo x C (some dx)))
theorem use_NoBattle_init {K : PySem.W.Frag} {C : Addr} {H : Hp} {Q : VK} {E : XK} {x : Addr} {y : V} (p0 : H x = some (exo x C none)) (k : ∀ (dx : Addr), (H dx = none) → (dx ≠ x) → Q (.non) (upd (upd H dx (exd dx [(("field" : Str), y)])) x (exo x C (some dx)))) : sp_NoBattle_init K C [.ref x, y] H Q E := ⟨x, y, rfl, p0, k⟩
theorem len_NoBattle_init {K : PySem.W.Frag} {C : Addr} (vs : List V) (H : Hp) (Q : VK) (E : XK) (h : sp_NoBattle_init K C vs H Q E) : vs.length = ["self", "field"].length := by
  obtain ⟨_, _, rfl, _⟩ := h
  rfl
theorem ok_NoBattle_init (T : Txt K mg) : FnOk P w K mg base CX0 3 T.a_NoBattle_init T.d_NoBattle_init ["self", "field"] (sp_NoBattle_init K (T.e_NoBattle)) := by
  have G_Fallings_init := ok_Fallings_init (P := P) (w := w) (base := base) T
  refine T.F_NoBattle_init.ok sc_NoBattle_init len_NoBattle_init (fun cdv A outer s H vs Q E hr h => ?_)
  refine ⟨_, (pss_cons (ps_expr (pe_hinit ⟨T.rd_HostError, T.ga_HostError⟩ T.fc_HostError rfl T.g_HostError (pa_cons (pv 0) (pa_cons pe_str pa_nil))))
      (pss_one (ps_ost (pv 0) (pv 1)))), ?_⟩
  try dsimp only [L2.cxOf, L2.Cx.nox, L2.Cx.wish, List.map_cons, List.map_nil]
  obtain ⟨x, y, rfl, p0, k⟩ := h
  refine start_to (σ := [some _, some _]) rfl ?_
  walk_at "go"
  exact k _ (by assumption) (by assumption)
local macro_rules | `(tactic| walk_at "g_val2") => `(tactic| first | ((with_reducible refine' Hf.i_mko1 ?s9 ?_); (case s9 => exact fun _ _ _ _ h q => use_NoBattle_init h q); intro _ _ _ _ _) | fail "mko1")
def sp_is_number (K : PySem.W.Frag) : Sp := fun vs H Q E => ∃ (v : V) (d : PyData), vs = [v] ∧ (Dq H v d) ∧ Q (.bl (isNumD d)) H
theorem use_is_number {K : PySem.W.Frag} {H : Hp} {Q : VK} {E : XK} {v : V} {d : PyData} (p0 : Dq H v d) (k : Q (.bl (isNumD d)) H) : sp_is_number K [v] H Q E := ⟨v, d, rfl, p0, k⟩
theorem len_is_number {K : PySem.W.Frag} (vs : List V) (H : Hp) (Q : VK) (E : XK) (h : sp_is_number K vs H Q E) : vs.length = ["thing"].length := by
  obtain ⟨_, _, rfl, _⟩ := h
  rfl
local macro_rules | `(tactic| walk_at "g_call") => `(tactic| ((with_reducible refine' use_is_number ?c0 ?_); (case c0 => walk_at "g_pre"); intros))
theorem use_is_number_i {K : PySem.W.Frag} {x : Int} {H : Hp} {Q : VK} {E : XK} (k : Q (.bl true) H) : sp_is_number K [.int x] H Q E := use_is_number (.int x) k
local macro_rules | `(tactic| walk_at "g_call") => `(tactic| (with_reducible refine' use_is_number_i ?_))
theorem ok_is_number (T : Txt K mg) : FnOk P w K mg base CX0 1 T.a_is_number T.d_is_number ["thing"] (sp_is_number K) := by
  refine T.F_is_number.ok sc_is_number len_is_number (fun cdv A outer s H vs Q E hr h => ?_)
  refine ⟨_, (pss_one (ps_ret (pe_and (pe_callB (call_isXK K rfl) (by rfl) T.z_isinstance (by decide +kernel) (pa_cons (pv 0) (pa_cons (pe_bltn (v := .ty "int") rfl T.z_int (by decide +kernel) rfl) pa_nil))) (pe_one (pe_not (pe_callB (call_isXK K rfl) (by rfl) T.z_isinstance (by decide +kernel) (pa_cons (pv 0) (pa_cons (pe_bltn (v := .ty "bool") rfl T.z_bool (by decide +kernel) rfl) pa_nil)))))))), ?_⟩
  try dsimp only [L2.cxOf, L2.Cx.nox, L2.Cx.wish, List.map_cons, List.map_nil]
  obtain ⟨v, d, rfl, p0, k⟩ := h
  refine start_to (σ := [some _]) rfl ?_
  cases p0 <;> (walk_at "go"; exact k)
def sp_are_numbers (K : PySem.W.Frag) : Sp := fun vs H Q E => ∃ (v : V) (d : PyData) (n : Int), vs = [v, .int n] ∧ (Dq H v d) ∧ (wid d ≤ 1000) ∧ ∀ (H' : Hp), (Same H H') → Q (.bl (areNumsD n d)) H'
theorem use_are_numbers {K : PySem.W.Frag} {H : Hp} {Q : VK} {E : XK} {v : V} {d : PyData} {n : Int} (p0 : Dq H v d) (p1 : wid d ≤ 1000) (k : ∀ (H' : Hp), (Same H H') → Q (.bl (areNumsD n d)) H') : sp_are_numbers K [v, .int n] H Q E := ⟨v, d, n, rfl, p0, p1, k⟩
theorem len_are_numbers {K : PySem.W.Frag} (vs : List V) (H : Hp) (Q : VK) (E : XK) (h : sp_are_numbers K vs H Q E) : vs.length = ["thing", "many"].length := by
  obtain ⟨_, _, _, rfl, _⟩ := h
  rfl
local macro_rules | `(tactic| walk_at "g_call") => `(tactic| ((with_reducible refine' use_are_numbers ?c0 ?c1 ?_); (case c0 => walk_at "g_pre"); (case c1 => walk_at "g_pre"); intros))
theorem ok_are_numbers (T : Txt K mg) : FnOk P w K mg base CX0 2 T.a_are_numbers T.d_are_numbers ["thing", "many"] (sp_are_numbers K) := by
  have G_is_number := ok_is_number (P := P) (w := w) (base := base) T
  refine T.F_are_numbers.ok sc_are_numbers len_are_numbers (fun cdv A outer s H vs Q E hr h => ?_)
  refine ⟨_, (pss_cons (ps_if (PW.pt (pw_or (pt_not (pt_val (pe_callB (call_isXK K rfl) (by rfl) T.z_isinstance (by decide +kernel) (pa_cons (pv 0) (pa_cons (pe_bltn (v := .ty "list") rfl T.z_list (by decide +kernel) rfl) pa_nil))))) (pw_or1 (pt_cmpR op_ne (pe_callB (call_lenK K rfl) (by rfl) T.z_len (by decide +kernel) (pa_cons (pv 0) pa_nil)) (pv 1) (nomark _))))) (pss_one (ps_ret pe_bl)) pss_nil)
      (pss_one (ps_ret (pe_cmpR op_eq (pe_callB (call_lenK K rfl) (by rfl) T.z_len (by decide +kernel) (pa_cons (pe_lc (own := [("number", 2)]) rfl sc_are_numbers.nd (pi_listK K rfl (pv 0)) (blkOk_by (own := [("number", 2)]) (N := ["thing", "many", "number"]) (sc := defScope s_are_numbers) (by decide +kernel)) (fun _ _ _ _ _ => (pg_name (i := 2) sc_are_numbers.nd rfl (Or.inl rfl))) (fun _ _ _ _ _ => (pts_one (pt_not (pt_val (pe_call G_is_number (hr.mono (by first | decide | omega)) (by rfl) T.g_is_number T.F_is_number.kp T.b_is_number .nil pass0 (pa_cons (pv 2) pa_nil)))))) (fun _ _ _ _ _ => (pv 2))) pa_nil)) pe_int (nomark _))))), ?_⟩
  try dsimp only [L2.cxOf, L2.Cx.nox, L2.Cx.wish, List.map_cons, List.map_nil]
  obtain ⟨v, d, n, rfl, p0, p1, k⟩ := h
  refine start_to (σ := [some _, some _, none]) rfl ?_
  cases p0 with
  | @lst a xs ds h q =>
    have hl := q.len
    rw [wid] at p1
    walk_at "go"
    refine ite_nd (fun c => ?_) (fun c => ?_)
    · have e : areNumsD n (.list ds) = false := by rw [areNumsD, decide_eq_false (by omega)]; rfl
      rw [e] at k
      walk_at "go"
      exact k _ (Same.refl _)
    · walk_at "go"
      intro D nD
      refine lcL_fl (xs := xs) (fun i => !((ds[i]?).map isNumD).getD true) nD (by omega) (SqL.of h) ?_ ?_
      · intro i x H2 Z Y hx hs hz hy
        obtain ⟨d, e1, e2⟩ := q.get' hx
        have e2' := e2.same hs
        walk_at "go"
        refine ite_b (fun e => ?_) (fun e => ?_)
        · walk_at "go"
          exact hz _ _ (by rw [e1]; exact e) (by walk_at "g_same")
        · exact hy _ (by rw [e1]; exact e) (by walk_at "g_same")
      · intro acc H2 hD hs hc ha
        walk_at "go"
        rw [len0_all hl hc]
        have e : areNumsD n (.list ds) = ds.all isNumD := by rw [areNumsD, decide_eq_true (by omega)]; rfl
        rw [e] at k
        exact k _ (by walk_at "g_same")
  | non => walk_at "go"; exact k _ (Same.refl _)
  | bl b => walk_at "go"; exact k _ (Same.refl _)
  | int i => walk_at "go"; exact k _ (Same.refl _)
  | str x => walk_at "go"; exact k _ (Same.refl _)
  | tup h q => walk_at "go"; exact k _ (Same.refl _)

def sp_is_rule (K : PySem.W.Frag) : Sp := fun vs H Q E => ∃ (a : Addr) (w : Str) (xs : List V) (ds : List PyData), vs = [.ref a] ∧ (H a = some (.tup (.str w :: xs))) ∧ (DqAll H xs ds) ∧ Q (.bl (isRuleD ds)) H
theorem use_is_rule {K : PySem.W.Frag} {H : Hp} {Q : VK} {E : XK} {a : Addr} {w : Str} {xs : List V} {ds : List PyData} (p0 : H a = some (.tup (.str w :: xs))) (p1 : DqAll H xs ds) (k : Q (.bl (isRuleD ds)) H) : sp_is_rule K [.ref a] H Q E := ⟨a, w, xs, ds, rfl, p0, p1, k⟩
theorem len_is_rule {K : PySem.W.Frag} (vs : List V) (H : Hp) (Q : VK) (E : XK) (h : sp_is_rule K vs H Q E) : vs.length = ["field"].length := by
  obtain ⟨_, _, _, _, rfl, _⟩ := h
  rfl
local macro_rules | `(tactic| walk_at "g_call") => `(tactic| ((with_reducible refine' use_is_rule ?c0 ?c1 ?_); (case c0 => walk_at "g_pre"); (case c1 => walk_at "g_pre"); intros))
theorem ok_is_rule (T : Txt K mg) : FnOk P w K mg base CX0 2 T.a_is_rule T.d_is_rule ["field"] (sp_is_rule K) := by
  have G_is_number := ok_is_number (P := P) (w := w) (base := base) T
  refine T.F_is_rule.ok sc_is_rule len_is_rule (fun cdv A outer s H vs Q E hr h => ?_)
  refine ⟨_, (pss_one (ps_ret (pe_and (pe_cmpR op_eq (pe_callB (call_lenK K rfl) (by rfl) T.z_len (by decide +kernel) (pa_cons (pv 0) pa_nil)) pe_int (nomark _)) (pe_and (pe_call G_is_number (hr.mono (by first | decide | omega)) (by rfl) T.g_is_number T.F_is_number.kp T.b_is_number .nil pass0 (pa_cons (pe_ix (ix_tupK K rfl) (pv 0) pe_int (fun _ _ => rfl)) pa_nil)) (pe_and (pe_call G_is_number (hr.mono (by first | decide | omega)) (by rfl) T.g_is_number T.F_is_number.kp T.b_is_number .nil pass0 (pa_cons (pe_ix (ix_tupK K rfl) (pv 0) pe_int (fun _ _ => rfl)) pa_nil)) (pe_one (pe_cmpR op_ge (pe_ix (ix_tupK K rfl) (pv 0) pe_int (fun _ _ => rfl)) pe_int (nomark _)))))))), ?_⟩
  try dsimp only [L2.cxOf, L2.Cx.nox, L2.Cx.wish, List.map_cons, List.map_nil]
  obtain ⟨a, w, xs, ds, rfl, p0, p1, k⟩ := h
  refine start_to (σ := [some _]) rfl ?_
  cases p1 with
  | nil => walk_at "goO"; exact k
  | cons h1 q1 =>
    cases q1 with
    | nil =>
      walk_at "goO"
      rw [rule_short1] at k
      exact k
    | cons h2 q2 =>
      cases q2 with
      | nil =>
        walk_at "goO"
        refine ite_b (fun c1 => ?_) (fun c1 => ?_)
        · obtain ⟨x, rfl⟩ := num_inv c1
          obtain rfl := h1.int_inv
          walk_at "go"
          refine ite_b (fun c2 => ?_) (fun c2 => ?_)
          · obtain ⟨y, rfl⟩ := num_inv c2
            obtain rfl := h2.int_inv
            walk_at "go"
            exact k
          · rw [rule_no2 c2] at k
            exact k
        · rw [rule_no1 c1] at k
          exact k
      | cons h3 q3 =>
        walk_at "goO"
        rw [rule_long] at k
        exact k
def sp_is_field (K : PySem.W.Frag) : Sp := fun vs H Q E => ∃ (a : Addr) (w : Str) (xs : List V) (ds : List PyData) (f s : Int), vs = [.ref a, .int f, .int s] ∧ (H a = some (.tup (.str w :: xs))) ∧ (DqAll H xs ds) ∧ (wid (.tuple ds) ≤ 1000) ∧ (0 ≤ f ∧ f ≤ 10 ∧ 0 ≤ s ∧ s ≤ 10) ∧ ∀ (H' : Hp), (Same H H') → Q (.bl (isFieldD f s w ds)) H'
theorem use_is_field {K : PySem.W.Frag} {H : Hp} {Q : VK} {E : XK} {a : Addr} {w : Str} {xs : List V} {ds : List PyData} {f s : Int} (p0 : H a = some (.tup (.str w :: xs))) (p1 : DqAll H xs ds) (p2 : wid (.tuple ds) ≤ 1000) (p3 : 0 ≤ f ∧ f ≤ 10 ∧ 0 ≤ s ∧ s ≤ 10) (k : ∀ (H' : Hp), (Same H H') → Q (.bl (isFieldD f s w ds)) H') : sp_is_field K [.ref a, .int f, .int s] H Q E := ⟨a, w, xs, ds, f, s, rfl, p0, p1, p2, p3, k⟩
theorem len_is_field {K : PySem.W.Frag} (vs : List V) (H : Hp) (Q : VK) (E : XK) (h : sp_is_field K vs H Q E) : vs.length = ["field", "first", "second"].length := by
  obtain ⟨_, _, _, _, _, _, rfl, _⟩ := h
  rfl
local macro_rules | `(tactic| walk_at "g_call") => `(tactic| ((with_reducible refine' use_is_field ?c0 ?c1 ?c2 ?c3 ?_); (case c0 => walk_at "g_pre"); (case c1 => walk_at "g_pre"); (case c2 => walk_at "g_pre"); (case c3 => walk_at "g_pre"); intros))
theorem ok_is_field (T : Txt K mg) : FnOk P w K mg base CX0 3 T.a_is_field T.d_is_field ["field", "first", "second"] (sp_is_field K) := by
  have G_is_rule := ok_is_rule (P := P) (w := w) (base := base) T
  have G_are_numbers := ok_are_numbers (P := P) (w := w) (base := base) T
  refine T.F_is_field.ok sc_is_field len_is_field (fun cdv A outer s H vs Q E hr h => ?_)
  refine ⟨_, (pss_cons (ps_if (pt_cmpR op_eq (pe_callB (call_lenK K rfl) (by rfl) T.z_len (by decide +kernel) (pa_cons (pv 0) pa_nil)) pe_int (nomark _)) (pss_one (ps_ret pe_bl)) pss_nil)
      (pss_cons (ps_if (pt_cmpR op_eq (pe_ix (ix_tupK K rfl) (pv 0) pe_int (fun _ _ => rfl)) pe_str (nomark _)) (pss_one (ps_ret (pe_and (pe_call G_is_rule (hr.mono (by first | decide | omega)) (by rfl) T.g_is_rule T.F_is_rule.kp T.b_is_rule .nil pass0 (pa_cons (pv 0) pa_nil)) (pe_and (pe_cmpR op_le (pe_op op_sub pe_int (pe_ix (ix_tupK K rfl) (pv 0) pe_int (fun _ _ => rfl))) (pe_ix (ix_tupK K rfl) (pv 0) pe_int (fun _ _ => rfl)) (nomark _)) (pe_one (pe_cmpR op_le (pe_ix (ix_tupK K rfl) (pv 0) pe_int (fun _ _ => rfl)) (pe_ix (ix_tupK K rfl) (pv 0) pe_int (fun _ _ => rfl)) (nomark _))))))) pss_nil)
      (pss_cons (ps_if (pt_cmpR op_eq (pe_ix (ix_tupK K rfl) (pv 0) pe_int (fun _ _ => rfl)) pe_str (nomark _)) (pss_one (ps_ret (pe_call G_is_rule (hr.mono (by first | decide | omega)) (by rfl) T.g_is_rule T.F_is_rule.kp T.b_is_rule .nil pass0 (pa_cons (pv 0) pa_nil)))) pss_nil)
      (pss_cons (ps_if (PW.pt (pw_or (pt_cmpR op_ne (pe_ix (ix_tupK K rfl) (pv 0) pe_int (fun _ _ => rfl)) pe_str (nomark _)) (pw_or (pt_cmpR op_ne (pe_callB (call_lenK K rfl) (by rfl) T.z_len (by decide +kernel) (pa_cons (pv 0) pa_nil)) pe_int (nomark _)) (pw_or (pt_not (pt_val (pe_callB (call_isXK K rfl) (by rfl) T.z_isinstance (by decide +kernel) (pa_cons (pe_ix (ix_tupK K rfl) (pv 0) pe_int (fun _ _ => rfl)) (pa_cons (pe_bltn (v := .ty "list") rfl T.z_list (by decide +kernel) rfl) pa_nil))))) (pw_or1 (pt_cmpR op_ne (pe_callB (call_lenK K rfl) (by rfl) T.z_len (by decide +kernel) (pa_cons (pe_ix (ix_tupK K rfl) (pv 0) pe_int (fun _ _ => rfl)) pa_nil)) (pe_op op_add (pv 1) pe_int) (nomark _))))))) (pss_one (ps_ret pe_bl)) pss_nil)
      (pss_one (ps_ret (pe_cmpR op_eq (pe_callB (call_lenK K rfl) (by rfl) T.z_len (by decide +kernel) (pa_cons (pe_lc (own := [("row", 3)]) rfl sc_is_field.nd (pi_listK K rfl (pe_ix (ix_tupK K rfl) (pv 0) pe_int (fun _ _ => rfl))) (blkOk_by (own := [("row", 3)]) (N := ["field", "first", "second", "row"]) (sc := defScope s_is_field) (by decide +kernel)) (fun _ _ _ _ _ => (pg_name (i := 3) sc_is_field.nd rfl (Or.inl rfl))) (fun _ _ _ _ _ => (pts_one (pt_not (pt_val (pe_call G_are_numbers (hr.mono (by first | decide | omega)) (by rfl) T.g_are_numbers T.F_are_numbers.kp T.b_are_numbers .nil pass0 (pa_cons (pv 3) (pa_cons (pe_op op_add (pv 2) pe_int) pa_nil))))))) (fun _ _ _ _ _ => (pv 3))) pa_nil)) pe_int (nomark _)))))))), ?_⟩
  try dsimp only [L2.cxOf, L2.Cx.nox, L2.Cx.wish, List.map_cons, List.map_nil]
  obtain ⟨a, w, xs, ds, f, s, rfl, p0, p1, p2, p3, k⟩ := h
  refine start_to (σ := [some _, some _, some _, none]) rfl ?_
  have hl := p1.len
  rw [wid] at p2
  walk_at "goO"
  by_cases c1 : w = PySem.Str.ofString "more"
  · have e : isFieldD f s w ds = isMoreD ds := if_pos c1
    rw [e] at k
    refine ite_y (by simp [c1]) ?_
    walk_at "go"
    refine ite_b (fun c => ?_) (fun c => ?_)
    · obtain ⟨x, y, rfl, hx⟩ := rule_inv c
      obtain rfl := dq_two_ints p1
      walk_at "go"
      refine ite_d (fun c2 => ?_) (fun c2 => ?_)
      · walk_at "go"
        rw [more_yes hx c2] at k
        exact k _ (Same.refl _)
      · rw [more_no c2] at k
        exact k _ (Same.refl _)
    · rw [more_rule c] at k
      exact k _ (Same.refl _)
  · refine ite_n (by simp [c1]) ?_
    walk_at "go"
    by_cases c2 : w = PySem.Str.ofString "lead"
    · have e : isFieldD f s w ds = isRuleD ds := by rw [isFieldD, if_neg c1, if_pos c2]
      rw [e] at k
      refine ite_y (by simp [c2]) ?_
      walk_at "go"
      exact k _ (Same.refl _)
    · refine ite_n (by simp [c2]) ?_
      walk_at "go"
      by_cases c3 : w = PySem.Str.ofString "table"
      · have e : isFieldD f s w ds = isRowsD f s ds := by rw [isFieldD, if_neg c1, if_neg c2, if_pos c3]
        rw [e] at k
        refine ite_n (by simp [c3]) ?_
        walk_at "go"
        cases p1 with
        | nil =>
          walk_at "goO"
          exact k _ (Same.refl _)
        | cons h1 q1 =>
          cases q1 with
          | cons h2 q2 =>
            rw [rows_long] at k
            refine ite_y (by simp; try omega) ?_
            walk_at "goO"
            exact k _ (Same.refl _)
          | nil =>
            walk_at "goO"
            cases h1 with
            | @lst p rs ds h4 q4 =>
              have hl4 := q4.len
              walk_at "go"
              refine ite_nd (fun c => ?_) (fun c => ?_)
              · rw [rows_no (by omega)] at k
                walk_at "go"
                exact k _ (Same.refl _)
              · have p5 : ∀ d ∈ ds, wid d ≤ 1000 := fun d hd => by
                  have := widA_mem hd
                  simp only [widA, wid] at p2
                  omega
                walk_at "go"
                intro D nD
                refine lcL_fl (xs := rs) (fun i => !((ds[i]?).map (areNumsD (s + 1))).getD true) nD (by omega) (SqL.of h4) ?_ ?_
                · intro i x H2 Z Y hx hs hz hy
                  obtain ⟨d, e1, e2⟩ := q4.get' hx
                  have e2' := e2.same hs
                  have e3 := p5 d (List.mem_of_getElem? e1)
                  walk_at "go"
                  refine ite_b (fun e => ?_) (fun e => ?_)
                  · walk_at "go"
                    exact hz _ _ (by rw [e1]; exact e) (by walk_at "g_same")
                  · exact hy _ (by rw [e1]; exact e) (by walk_at "g_same")
                · intro acc H2 hD hs hc ha
                  walk_at "go"
                  rw [len0_all hl4 hc]
                  rw [rows_yes (by omega)] at k
                  exact k _ (by walk_at "g_same")
            | non => walk_at "go"; rw [rows_one (by rfl)] at k; exact k _ (Same.refl _)
            | bl b => walk_at "go"; rw [rows_one (by rfl)] at k; exact k _ (Same.refl _)
            | int i => walk_at "go"; rw [rows_one (by rfl)] at k; exact k _ (Same.refl _)
            | str x => walk_at "go"; rw [rows_one (by rfl)] at k; exact k _ (Same.refl _)
            | tup h q => walk_at "go"; rw [rows_one (by rfl)] at k; exact k _ (Same.refl _)
      · have e : isFieldD f s w ds = false := by rw [isFieldD, if_neg c1, if_neg c2, if_neg c3]
        rw [e] at k
        refine ite_y (by simp [c3]) ?_
        walk_at "go"
        exact k _ (Same.refl _)
def sp_look_battle (K : PySem.W.Frag) (e_NoBattle : Addr) : Sp := fun vs H Q E => ∃ (v : V) (f s : Int) (ds : List PyData), vs = [v] ∧ (Dq H v (batT f s ds)) ∧ ((∀ d ∈ ds, FldIn d)) ∧ (ds.length ≤ 1000) ∧ ((badB f s ds = none) → ∀ (H' : Hp), (Same H H') → Q (.non) H') ∧ (¬ (badB f s ds = none) → ∀ k d H', badB f s ds = some k → H d = none → H' d = some (.xd [(("field" : Str), .int k)]) → Same H H' → E (.ref e_NoBattle) (some d) H')
theorem use_look_battle {K : PySem.W.Frag} {e_NoBattle : Addr} {H : Hp} {Q : VK} {E : XK} {v : V} {f s : Int} {ds : List PyData} (p0 : Dq H v (batT f s ds)) (p1 : (∀ d ∈ ds, FldIn d)) (p2 : ds.length ≤ 1000) (k : (badB f s ds = none) → ∀ (H' : Hp), (Same H H') → Q (.non) H') (kx : ¬ (badB f s ds = none) → ∀ k d H', badB f s ds = some k → H d = none → H' d = some (.xd [(("field" : Str), .int k)]) → Same H H' → E (.ref e_NoBattle) (some d) H') : sp_look_battle K e_NoBattle [v] H Q E := ⟨v, f, s, ds, rfl, p0, p1, p2, k, kx⟩
theorem len_look_battle {K : PySem.W.Frag} {e_NoBattle : Addr} (vs : List V) (H : Hp) (Q : VK) (E : XK) (h : sp_look_battle K e_NoBattle vs H Q E) : vs.length = ["battle"].length := by
  obtain ⟨_, _, _, _, rfl, _⟩ := h
  rfl
local macro_rules | `(tactic| walk_at "g_call") => `(tactic| ((with_reducible refine' use_look_battle ?c0 ?c1 ?c2 ?kk ?kx); (case c0 => walk_at "g_pre"); (case c1 => walk_at "g_pre"); (case c2 => walk_at "g_pre"); first | ((case kx => (intro _; exfalso; walk_at "g_no")); intros) | ((case kk => (intro _; exfalso; walk_at "g_no")); intros) | skip))
theorem ok_look_battle (T : Txt K mg) : FnOk P w K mg base (L2.CX P w) 5 T.a_look_battle T.d_look_battle ["battle"] (sp_look_battle K T.e_NoBattle) := by
  have G_NoBattle_init := ok_NoBattle_init (P := P) (w := w) (base := base) T
  have G_is_field := ok_is_field (P := P) (w := w) (base := base) T
  refine T.F_look_battle.okX sc_look_battle len_look_battle (fun cdv A outer s H vs Q E hr h => ?_)
  refine ⟨_, (pss_cons (ps_asg (pv 0) (pg_tupK K rfl 3 rfl (pgs_cons (pg_name (i := 1) sc_look_battle.nd rfl (Or.inl rfl)) (pgs_cons (pg_name (i := 2) sc_look_battle.nd rfl (Or.inl rfl)) (pgs_cons (pg_name (i := 3) sc_look_battle.nd rfl (Or.inl rfl)) pgs_nil)))))
      (pss_cons (ps_if (PW.pt (pw_or (pt_cmpR op_lt (pe_callB (call_min2 rfl) (by rfl) T.z_min (by decide +kernel) (pa_cons (pv 1) (pa_cons (pv 2) pa_nil))) pe_int (nomark _)) (pw_or (pt_cmpR op_gt (pe_callB (call_max2 rfl) (by rfl) T.z_max (by decide +kernel) (pa_cons (pv 1) (pa_cons (pv 2) pa_nil))) (pe_glob (v := .int 10) rfl T.c_MOST_HOSTS_fields ⟨_, rfl⟩) (nomark _)) (pw_or (pt_cmpR op_lt (pe_callB (call_lenK K rfl) (by rfl) T.z_len (by decide +kernel) (pa_cons (pv 3) pa_nil)) pe_int (nomark _)) (pw_or1 (pt_cmpR op_gt (pe_callB (call_lenK K rfl) (by rfl) T.z_len (by decide +kernel) (pa_cons (pv 3) pa_nil)) (pe_glob (v := .int 5) rfl T.c_MOST_FIELDS_fields ⟨_, rfl⟩) (nomark _))))))) (pss_one (ps_raise rfl (takes_of rfl rfl rfl rfl) (pmk_oex (Txt.O_NoBattle T) T.ic_NoBattle T.ti_NoBattle G_NoBattle_init (hr.mono (by first | decide | omega)) T.b_NoBattle_init .nil pass0 rfl T.g_NoBattle (pa_cons (pe_un un_neg pe_int) pa_nil)))) pss_nil)
      (pss_one (ps_for (passes_of rfl) rfl (pi_range1 rfl T.z_range (pa_cons (pe_callB (call_lenK K rfl) (by rfl) T.z_len (by decide +kernel) (pa_cons (pv 3) pa_nil)) pa_nil)) (pg_name (i := 4) sc_look_battle.nd rfl (Or.inl rfl)) (pss_one (ps_if (pt_not (pt_val (pe_call G_is_field (hr.mono (by first | decide | omega)) (by rfl) T.g_is_field T.F_is_field.kp T.b_is_field .nil pass0 (pa_cons (pe_ix (ix_listK K rfl) (pv 3) (pv 4) (fun _ _ => rfl)) (pa_cons (pv 1) (pa_cons (pv 2) pa_nil)))))) (pss_one (ps_raise rfl (takes_of rfl rfl rfl rfl) (pmk_oex (Txt.O_NoBattle T) T.ic_NoBattle T.ti_NoBattle G_NoBattle_init (hr.mono (by first | decide | omega)) T.b_NoBattle_init .nil pass0 rfl T.g_NoBattle (pa_cons (pv 4) pa_nil)))) pss_nil)))))), ?_⟩
  try dsimp only [L2.cxOf, L2.Cx.nox, L2.Cx.wish, List.map_cons, List.map_nil]
  obtain ⟨v, f, s, ds, rfl, p0, p1, p2, k, kx⟩ := h
  obtain ⟨a, p, xs, rfl, h1, h2, h3⟩ := batT_inv p0
  have hl := h3.len
  refine start_to (σ := [some _, none, none, none, none]) rfl ?_
  walk_at "go"
  by_cases sz : f < 0 ∨ s < 0 ∨ 10 < f ∨ 10 < s ∨ ds.length < 1 ∨ 5 < ds.length
  · have e : badB f s ds = some (-1) := if_pos sz
    have fin : ∀ d H', H d = none → H' d = some (.xd [(("field" : Str), .int (-1))]) → Same H H' → E (.ref T.e_NoBattle) (some d) H' := fun d H' => kx (by rw [e]; simp) (-1) d H' e
    refine ite_d (fun c1 => ?_) (fun c1 => ?_)
    · walk_at "go"
      exact fin _ _ (by assumption) (by assumption) (by assumption)
    walk_at "go"
    refine ite_d (fun c2 => ?_) (fun c2 => ?_)
    · walk_at "go"
      exact fin _ _ (by assumption) (by assumption) (by assumption)
    walk_at "go"
    refine ite_d (fun c3 => ?_) (fun c3 => ?_)
    · walk_at "go"
      exact fin _ _ (by assumption) (by assumption) (by assumption)
    walk_at "go"
    refine ite_d (fun c4 => ?_) (fun c4 => ?_)
    · walk_at "go"
      exact fin _ _ (by assumption) (by assumption) (by assumption)
    · exfalso
      omega
  · have sz2 : 0 ≤ f ∧ f ≤ 10 ∧ 0 ≤ s ∧ s ≤ 10 ∧ 1 ≤ ds.length ∧ ds.length ≤ 5 := by omega
    have sz3 : 0 ≤ f ∧ f ≤ 10 ∧ 0 ≤ s ∧ s ≤ 10 := by omega
    walk_at "goO"
    refine forR (fun i σ H1 => ∃ y1, σ = [some (.ref a), some (.int f), some (.int s), some (.ref p), y1] ∧ Same H H1 ∧ ∀ (j : Nat) e, j < i → ds[j]? = some e → isFldT f s e = true) ⟨_, rfl, by walk_at "g_same", by omega⟩ ?_ ?_
    · rintro σ1 H1 ⟨y1, rfl, g1, g2⟩
      walk_at "goO"
      refine k (bad_none.mpr ⟨by omega, by omega, by omega, fun d hd => ?_⟩) _ (by walk_at "g_same")
      obtain ⟨j, hj, rfl⟩ := List.mem_iff_getElem.mp hd
      exact g2 j _ (by omega) (List.getElem?_eq_getElem hj)
    · rintro i σ1 H1 hi ⟨y1, rfl, g1, g2⟩
      obtain ⟨w, hat, hw⟩ := at_lt (xs := xs) (i := 0 + (i : Int)) (by omega) (by omega)
      obtain ⟨d, e1, e2⟩ := h3.get' hw
      obtain ⟨wd, r, rfl, hr⟩ := p1 d (List.mem_of_getElem? e1)
      obtain ⟨b, ys, rfl, h4, h5⟩ := fldT_inv (e2.same g1)
      have i1 : (0 + (i : Int)).toNat = i := by omega
      rw [i1] at e1
      have h2' := g1 _ _ h2
      walk_at "goO"
      rename_i H2 g3
      refine ite_b (fun c => ?_) (fun c => ?_)
      · have c' : isFieldD f s wd r = false := by simpa using c
        have hb := bad_at sz2 e1 c' g2
        walk_at "goO"
        rename_i dd H3 n1 n2 n3
        refine kx (by rw [hb]; simp) _ dd H3 hb (Same.free (g1.trans g3) n1) ?_ ((g1.trans g3).trans n3)
        rw [n2, Int.zero_add]
      · have c' : isFieldD f s wd r = true := by simpa using c
        walk_at "goO"
        refine ⟨_, rfl, by walk_at "g_same", fun j e hj he => ?_⟩
        by_cases cj : j = i
        · subst cj
          rw [e1] at he
          obtain rfl := Option.some.inj he
          exact c'
        · exact g2 j e (by omega) he
theorem use_look_battle_ok {K : PySem.W.Frag} {e_NoBattle : Addr} {v : V} {f s : Int} {fs : List Fld} {H : Hp} {Q : VK} {E : XK} (p0 : Dq H v (batD f s fs)) (p1 : BatOk f s fs) (k : ∀ H' : Hp, Same H H' → Q .non H') : sp_look_battle K e_NoBattle [v] H Q E :=
  use_look_battle (ds := fs.map fldD) p0 (bat_in p1) (by rw [List.length_map]; exact Nat.le_trans p1.ne.2 (by decide)) (fun _ => k) fun c => absurd (bad_ok.mpr p1) c
local macro_rules | `(tactic| walk_at "g_call") => `(tactic| ((with_reducible refine' use_look_battle_ok ?c0 ?c1 ?_); (case c0 => walk_at "g_pre"); (case c1 => walk_at "g_pre"); intros))

def sp_l_field (K : PySem.W.Frag) : Sp := fun vs H Q E => ∃ (p c : Addr) (z f s : Int), vs = [.ref p, .int f, .int s] ∧ (Pc p c H z) ∧ (z ≤ 900000) ∧ (0 ≤ f ∧ f ≤ 10 ∧ 0 ≤ s ∧ s ≤ 10) ∧ ∀ (v : V) (fl : Fld) (G : Hp) (H' : Hp), (Dq G v (fldD fl)) → (FldOk f s fl ∧ FldSm fl) → (Newly H G) → (Same G H') → (Pc p c H' (z + 200)) → (But2 p c H H') → Q (v) H'
theorem use_l_field {K : PySem.W.Frag} {H : Hp} {Q : VK} {E : XK} {p c : Addr} {z f s : Int} (p0 : Pc p c H z) (p1 : z ≤ 900000) (p2 : 0 ≤ f ∧ f ≤ 10 ∧ 0 ≤ s ∧ s ≤ 10) (k : ∀ (v : V) (fl : Fld) (G : Hp) (H' : Hp), (Dq G v (fldD fl)) → (FldOk f s fl ∧ FldSm fl) → (Newly H G) → (Same G H') → (Pc p c H' (z + 200)) → (But2 p c H H') → Q (v) H') : sp_l_field K [.ref p, .int f, .int s] H Q E := ⟨p, c, z, f, s, rfl, p0, p1, p2, k⟩
theorem len_l_field {K : PySem.W.Frag} (vs : List V) (H : Hp) (Q : VK) (E : XK) (h : sp_l_field K vs H Q E) : vs.length = ["_law_purse_here", "_law_first", "_law_second"].length := by
  obtain ⟨_, _, _, _, _, rfl, _⟩ := h
  rfl
local macro_rules | `(tactic| walk_at "g_call") => `(tactic| ((with_reducible refine' use_l_field ?c0 ?c1 ?c2 ?_); (case c0 => walk_at "g_pre"); (case c1 => walk_at "g_pre"); (case c2 => walk_at "g_pre"); intros))
theorem ok_l_field (T : Txt K mg) : FnOk P w K mg base CX0 2 T.a_l_field T.d_l_field ["_law_purse_here", "_law_first", "_law_second"] (sp_l_field K) := by
  have G_l_draw := ok_l_draw (P := P) (w := w) (base := base) T
  refine T.F_l_field.ok sc_l_field len_l_field (fun cdv A outer s H vs Q E hr h => ?_)
  refine ⟨_, (pss_cons (ps_set (i := 3) sc_l_field.nd rfl (Or.inl rfl) (pe_call G_l_draw (hr.mono (by first | decide | omega)) (by rfl) T.g_l_draw T.F_l_draw.kp T.b_l_draw .nil pass0 (pa_cons (pv 0) (pa_cons pe_int pa_nil))))
      (pss_cons (ps_set (i := 4) sc_l_field.nd rfl (Or.inl rfl) (pe_op op_add pe_int (pe_call G_l_draw (hr.mono (by first | decide | omega)) (by rfl) T.g_l_draw T.F_l_draw.kp T.b_l_draw .nil pass0 (pa_cons (pv 0) (pa_cons (pe_ix (ix_listK K rfl) (pe_lst (pa_cons pe_int (pa_cons (pe_op op_pow pe_int pe_int) pa_nil))) (pe_call G_l_draw (hr.mono (by first | decide | omega)) (by rfl) T.g_l_draw T.F_l_draw.kp T.b_l_draw .nil pass0 (pa_cons (pv 0) (pa_cons pe_int pa_nil))) (fun _ _ => rfl)) pa_nil)))))
      (pss_cons (ps_if (pt_cmpR op_eq (pv 3) pe_int (nomark _)) (pss_cons (ps_set (i := 5) sc_l_field.nd rfl (Or.inl rfl) (pe_ix (ix_listK K rfl) (pe_lst (pa_cons pe_int (pa_cons (pv 4) (pa_cons (pe_op op_sub pe_int (pv 4)) (pa_cons (pe_op op_sub (pe_call G_l_draw (hr.mono (by first | decide | omega)) (by rfl) T.g_l_draw T.F_l_draw.kp T.b_l_draw .nil pass0 (pa_cons (pv 0) (pa_cons (pe_op op_add (pe_op op_mulA pe_int (pv 4)) pe_int) pa_nil))) (pv 4)) pa_nil))))) (pe_call G_l_draw (hr.mono (by first | decide | omega)) (by rfl) T.g_l_draw T.F_l_draw.kp T.b_l_draw .nil pass0 (pa_cons (pv 0) (pa_cons pe_int pa_nil))) (fun _ _ => rfl)))
      (pss_one (ps_ret (pe_tup (pa_cons pe_str (pa_cons (pv 4) (pa_cons (pv 5) pa_nil))))))) pss_nil)
      (pss_cons (ps_if (pt_cmpR op_eq (pv 3) pe_int (nomark _)) (pss_cons (ps_set (i := 6) sc_l_field.nd rfl (Or.inl rfl) (pe_op op_sub (pe_op op_sub (pe_call G_l_draw (hr.mono (by first | decide | omega)) (by rfl) T.g_l_draw T.F_l_draw.kp T.b_l_draw .nil pass0 (pa_cons (pv 0) (pa_cons (pe_op op_add (pe_op op_add (pv 1) (pv 2)) pe_int) pa_nil))) (pv 2)) pe_int))
      (pss_one (ps_ret (pe_tup (pa_cons pe_str (pa_cons (pv 4) (pa_cons (pe_ix (ix_listK K rfl) (pe_lst (pa_cons (pv 6) (pa_cons (pe_op op_sub (pe_call G_l_draw (hr.mono (by first | decide | omega)) (by rfl) T.g_l_draw T.F_l_draw.kp T.b_l_draw .nil pass0 (pa_cons (pv 0) (pa_cons (pe_op op_mulA pe_int (pe_op op_pow pe_int pe_int)) pa_nil))) (pe_op op_pow pe_int pe_int)) pa_nil))) (pe_op op_fdiv (pe_call G_l_draw (hr.mono (by first | decide | omega)) (by rfl) T.g_l_draw T.F_l_draw.kp T.b_l_draw .nil pass0 (pa_cons (pv 0) (pa_cons pe_int pa_nil))) pe_int) (fun _ _ => rfl)) pa_nil))))))) pss_nil)
      (pss_cons (ps_set (i := 7) sc_l_field.nd rfl (Or.inl rfl) (pe_lst pa_nil))
      (pss_cons (ps_set (i := 8) sc_l_field.nd rfl (Or.inr rfl) (pe_ix (ix_listK K rfl) (pe_lst (pa_cons pe_int (pa_cons pe_int (pa_cons (pe_op op_mulA pe_int (pe_op op_pow pe_int pe_int)) pa_nil)))) (pe_call G_l_draw (hr.mono (by first | decide | omega)) (by rfl) T.g_l_draw T.F_l_draw.kp T.b_l_draw .nil pass0 (pa_cons (pv 0) (pa_cons pe_int pa_nil))) (fun _ _ => rfl)))
      (pss_cons (ps_for PassesOwn.never rfl (pi_range1 rfl T.z_range (pa_cons (pe_op op_add (pv 1) pe_int) pa_nil)) (pg_name (i := 9) sc_l_field.nd rfl (Or.inl rfl)) (pss_one (ps_expr (pe_bm PySem.F.plainAttrs_list PySem.F.slot_list_append PySem.F.type_list_append mt_append (pv 7) (pa_cons (pe_lc (own := [("_law_y", 10)]) rfl sc_l_field.nd (pi_range1 rfl T.z_range (pa_cons (pe_op op_add (pv 2) pe_int) pa_nil)) (blkOk_by (own := [("_law_y", 10)]) (N := ["_law_purse_here", "_law_first", "_law_second", "_law_kind", "_law_worth", "_law_tie", "_law_near", "_law_rows", "_law_top", "_law_x", "_law_y"]) (sc := defScope s_l_field) (by decide +kernel)) (fun _ _ _ _ _ => (pg_name (i := 10) sc_l_field.nd rfl (Or.inl rfl))) (fun _ _ _ _ _ => pts_nil) (fun _ _ _ _ _ => (pe_op op_sub (pe_call G_l_draw (hr.mono (by first | decide | omega)) (by rfl) T.g_l_draw T.F_l_draw.kp T.b_l_draw .nil pass0 (pa_cons (pv 0) (pa_cons (pv 8) pa_nil))) (pe_op op_fdiv (pv 8) pe_int)))) pa_nil)))))
      (pss_one (ps_ret (pe_tup (pa_cons pe_str (pa_cons (pv 7) pa_nil)))))))))))), ?_⟩
  try dsimp only [L2.cxOf, L2.Cx.nox, L2.Cx.wish, List.map_cons, List.map_nil]
  obtain ⟨p, c, z, f, s, rfl, p0, p1, p2, k⟩ := h
  refine start_to (σ := [some _, some _, some _, none, none, none, none, none, none, none, none]) rfl ?_
  walk_at "go"
  rename_i d1 H1 e1 e2 e3 r nr d2 H2 e4 e5 e6 v hv w0 H3 e7 e8 e9
  generalize hw : 1 + w0 = w
  have hw1 : 1 ≤ w ∧ w ≤ 100000000000000000000000000000 := by omega
  have b3 : But2 p c H H3 := by walk_at "g_but2"
  have p3 : Pc p c H3 (z + 3) := e8.mono (by omega)
  clear e2 e3 e5 e6 e8 e9 nr e7 hv hw
  refine ite_d (fun c1 => ?_) (fun c1 => ?_)
  · walk_at "go"
    rename_i d3 H4 u1 u2 u3 r nr d4 H5 u4 u5 u6 v hv q nq
    have hq : H q = none := by walk_at "g_free"
    exact k _ (.more w v) (fr [] H (upd H5 q _)) _ (more_mk (fr_lk0 hq upd_same)) ⟨⟨by omega, by omega, by omega⟩, ⟨by omega, by omega⟩, ⟨by omega, by omega⟩⟩ fr_newly fr_same (Pc.mono (by walk_at "g_pc") (by omega)) (by walk_at "g_but2")
  walk_at "go"
  refine ite_d (fun c2 => ?_) (fun c2 => ?_)
  · walk_at "go"
    rename_i d3 H4 u1 u2 u3 d4 H5 u4 u5 u6 r nr d5 H6 u7 u8 u9 v hv q nq
    have hq : H q = none := by walk_at "g_free"
    exact k _ (.lead w v) (fr [] H (upd H6 q _)) _ (lead_mk (fr_lk0 hq upd_same)) ⟨show 1 ≤ w by omega, ⟨by omega, by omega⟩, ⟨by omega, by omega⟩⟩ fr_newly fr_same (Pc.mono (by walk_at "g_pc") (by omega)) (by walk_at "g_but2")
  walk_at "goF"
  rename_i D nD r nr d3 H4 u1 u2 u3 t ht
  have t1 : 0 < t ∧ t ≤ 200000000000000000000000000000 := by omega
  clear ht
  have hD : H D = none := by walk_at "g_free"
  have hDp : D ≠ p := by walk_at "g_ne"
  have hDc : D ≠ c := by walk_at "g_ne"
  have q4 : H4 D = some (.lst []) := by walk_at "g_lk"
  have b4 : But2 p c H H4 := by walk_at "g_but2"
  have p4 : Pc p c H4 (z + 4) := u2.mono (by omega)
  clear u1 u2 u3 nr nD p3 b3
  walk_at "go"
  refine forR (fun i σ H5 => ∃ (ws : List V) (rs : List (List Int)) (y9 y10 : Option V), σ = [some (.ref p), some (.int f), some (.int s), some (.int d1), some (.int w), none, none, some (.ref D), some (.int t), y9, y10] ∧ H5 D = some (.lst ws) ∧ DqAll (fr [D] H H5) ws (rs.map planD) ∧ rs.length = i ∧ (∀ r ∈ rs, (r.length : Int) = s + 1 ∧ ∀ x ∈ r, Sm x) ∧ Pc p c H5 (z + 4 + 11 * (i : Int)) ∧ But2 p c H H5) ⟨[], [], _, _, rfl, q4, .nil, rfl, nofun, p4.mono (by omega), b4⟩ ?_ ?_
  · rintro σ1 H5 ⟨ws, rs, y9, y10, rfl, h1, h2, h3, h4, h5, h6⟩
    walk_at "go"
    rename_i q nq
    have hq : H q = none := by walk_at "g_free"
    exact k _ (.tab rs) (fr [] H (upd H5 q _)) _ (tab_mk (fr_lk0 hq upd_same) (fr_lk0 hD (lk_new nq h1)) ((h2.same fr_sub).same (fr_mono (Same.new nq)))) ⟨⟨by omega, fun r hr => (h4 r hr).1⟩, fun r hr => (h4 r hr).2⟩ fr_newly fr_same (Pc.mono (by walk_at "g_pc") (by omega)) (by walk_at "g_but2")
  · rintro i σ1 H5 hi ⟨ws, rs, y9, y10, rfl, h1, h2, h3, h4, h5, h6⟩
    have hw : ws.length ≤ 20 := by rw [h2.len, List.length_map]; omega
    clear b4 q4 p4
    walk_at "go"
    intro D2 nD2
    have hD2 : H D2 = none := Pc.free nD2 h6 h5
    have n2 : D2 ≠ D := (ne_of_none h1 nD2).symm
    refine lcR_pc Sm 1 h5 nD2 (by omega) ?_ ?_
    · intro j H6 Z Y hj hp hb hz
      walk_at "go"
      rename_i d4 H7 u4 u5 u6
      refine hz _ _ ⟨?_, ?_⟩ u5 u6 <;> omega
    · intro ms H6 g1 g2 g3 g4 g5
      walk_at "go"
      refine ⟨ws ++ [.ref D2], rs ++ [ms], _, _, rfl, upd_same, ?_, by rw [List.length_append, h3]; rfl, ?_, (Pc.upd g4 hDp hDc).mono (by omega), ?_⟩
      · rw [List.map_append]
        exact DqAll.snoc ((h2.same (fr_butC p0 g5)).same (fr_upd (by simp))) (row_mk (fr_lk1 n2 hD2 (lk_upd n2 g3)))
      · intro r hr
        rcases List.mem_append.mp hr with e | e
        · exact h4 r e
        · rw [List.mem_singleton.mp e]
          exact ⟨by omega, g2⟩
      · walk_at "g_but2"

def sp_is_plan (K : PySem.W.Frag) : Sp := fun vs H Q E => ∃ (h : Int) (n : Nat) (a : Addr) (ms : List Int), vs = [.int h, .int n, .ref a] ∧ (H a = some (.lst (ms.map V.int))) ∧ (ms.length ≤ 1000) ∧ (1 ≤ n) ∧ ∀ (H' : Hp), (Same H H') → Q (.bl (isPlanB h n ms)) H'
theorem use_is_plan {K : PySem.W.Frag} {H : Hp} {Q : VK} {E : XK} {h : Int} {n : Nat} {a : Addr} {ms : List Int} (p0 : H a = some (.lst (ms.map V.int))) (p1 : ms.length ≤ 1000) (p2 : 1 ≤ n) (k : ∀ (H' : Hp), (Same H H') → Q (.bl (isPlanB h n ms)) H') : sp_is_plan K [.int h, .int n, .ref a] H Q E := ⟨h, n, a, ms, rfl, p0, p1, p2, k⟩
theorem len_is_plan {K : PySem.W.Frag} (vs : List V) (H : Hp) (Q : VK) (E : XK) (h : sp_is_plan K vs H Q E) : vs.length = ["hosts", "many", "plan"].length := by
  obtain ⟨_, _, _, _, rfl, _⟩ := h
  rfl
local macro_rules | `(tactic| walk_at "g_call") => `(tactic| ((with_reducible refine' use_is_plan ?c0 ?c1 ?c2 ?_); (case c0 => walk_at "g_pre"); (case c1 => walk_at "g_pre"); (case c2 => walk_at "g_pre"); intros))
theorem ok_is_plan (T : Txt K mg) : FnOk P w K mg base CX0 3 T.a_is_plan T.d_is_plan ["hosts", "many", "plan"] (sp_is_plan K) := by
  have G_are_numbers := ok_are_numbers (P := P) (w := w) (base := base) T
  refine T.F_is_plan.ok sc_is_plan len_is_plan (fun cdv A outer s H vs Q E hr h => ?_)
  refine ⟨_, (pss_one (ps_ret (pe_and (pe_call G_are_numbers (hr.mono (by first | decide | omega)) (by rfl) T.g_are_numbers T.F_are_numbers.kp T.b_are_numbers .nil pass0 (pa_cons (pv 2) (pa_cons (pv 1) pa_nil))) (pe_and (pe_cmpR op_ge (pe_callB (cr_minK K rfl rfl) (by rfl) T.z_min (by decide +kernel) (pa_cons (pv 2) pa_nil)) pe_int (nomark _)) (pe_one (pe_cmpR op_eq (pe_callB (cr_sumK K rfl rfl) (by rfl) T.z_sum (by decide +kernel) (pa_cons (pv 2) pa_nil)) (pv 0) (nomark _))))))), ?_⟩
  try dsimp only [L2.cxOf, L2.Cx.nox, L2.Cx.wish, List.map_cons, List.map_nil]
  obtain ⟨h, n, a, ms, rfl, p0, p1, p2, k⟩ := h
  refine start_to (σ := [some _, some _, some _]) rfl ?_
  have d0 : Dq H (.ref a) (planD ms) := .lst p0 (dq_ints ms)
  have w0 : wid (planD ms) ≤ 1000 := by rw [wid_plan]; omega
  have no : ∀ H', Same H H' → ¬ PlanC h n ms → Q (.bl false) H' := fun H' s1 c => by
    have := k H' s1
    rw [← isPlan_eq (b := false) ⟨nofun, fun q => absurd q c⟩] at this
    exact this
  walk_at "go"
  rename_i H1 s1
  rw [nums_plan]
  by_cases c : (ms.length : Int) = n
  · have e1 : 1 ≤ ms.length := by omega
    refine ite_y (decide_eq_true c) ?_
    walk_at "go"
    rename_i z hz1 hz2
    refine ite_d (fun c2 => ?_) (fun c2 => ?_)
    · walk_at "go"
      by_cases c3 : ms.sum = h
      · rw [decide_eq_true c3]
        have := k H1 s1
        rw [← isPlan_eq (b := true) ⟨fun _ => ⟨by omega, c3, fun x hx => by have := hz2 x hx; omega⟩, fun _ => rfl⟩] at this
        exact this
      · rw [decide_eq_false c3]
        exact no _ s1 fun q => c3 q.2.1
    · exact no _ s1 fun q => c2 (q.2.2 z hz1)
  · refine ite_n (decide_eq_false c) ?_
    exact no _ s1 fun q => c (by rw [q.1])

def sp_l_copy (K : PySem.W.Frag) : Sp := fun vs H Q E => ∃ (v : V) (fl : Fld) (f s : Int), vs = [v] ∧ (Dq H v (fldD fl)) ∧ (FldOk f s fl) ∧ (f ≤ 10 ∧ s ≤ 10) ∧ ∀ (w : V) (S : List Addr) (H' : Hp), (OwN H H' w (fldD fl) S) → (Same H H') → Q (w) H'
theorem use_l_copy {K : PySem.W.Frag} {H : Hp} {Q : VK} {E : XK} {v : V} {fl : Fld} {f s : Int} (p0 : Dq H v (fldD fl)) (p1 : FldOk f s fl) (p2 : f ≤ 10 ∧ s ≤ 10) (k : ∀ (w : V) (S : List Addr) (H' : Hp), (OwN H H' w (fldD fl) S) → (Same H H') → Q (w) H') : sp_l_copy K [v] H Q E := ⟨v, fl, f, s, rfl, p0, p1, p2, k⟩
theorem len_l_copy {K : PySem.W.Frag} (vs : List V) (H : Hp) (Q : VK) (E : XK) (h : sp_l_copy K vs H Q E) : vs.length = ["_law_field_here"].length := by
  obtain ⟨_, _, _, _, rfl, _⟩ := h
  rfl
local macro_rules | `(tactic| walk_at "g_call") => `(tactic| ((with_reducible refine' use_l_copy ?c0 ?c1 ?c2 ?_); (case c0 => walk_at "g_pre"); (case c1 => walk_at "g_pre"); (case c2 => walk_at "g_pre"); intros))
theorem ok_l_copy (T : Txt K mg) : FnOk P w K mg base CX0 1 T.a_l_copy T.d_l_copy ["_law_field_here"] (sp_l_copy K) := by
  refine T.F_l_copy.ok sc_l_copy len_l_copy (fun cdv A outer s H vs Q E hr h => ?_)
  refine ⟨_, (pss_cons (ps_if (pt_cmpR op_eq (pe_ix (ix_tupK K rfl) (pv 0) pe_int (fun _ _ => rfl)) pe_str (nomark _)) (pss_one (ps_ret (pe_tup (pa_cons pe_str (pa_cons (pe_lc (own := [("_law_row", 1)]) rfl sc_l_copy.nd (pi_listK K rfl (pe_ix (ix_tupK K rfl) (pv 0) pe_int (fun _ _ => rfl))) (blkOk_by (own := [("_law_row", 1)]) (N := ["_law_field_here", "_law_row"]) (sc := defScope s_l_copy) (by decide +kernel)) (fun _ _ _ _ _ => (pg_name (i := 1) sc_l_copy.nd rfl (Or.inl rfl))) (fun _ _ _ _ _ => pts_nil) (fun _ _ _ _ _ => (pe_callTy (call_listK K rfl) (by rfl) T.z_list (by decide +kernel) (pa_cons (pv 1) pa_nil)))) pa_nil))))) pss_nil)
      (pss_one (ps_ret (pv 0)))), ?_⟩
  try dsimp only [L2.cxOf, L2.Cx.nox, L2.Cx.wish, List.map_cons, List.map_nil]
  obtain ⟨v, fl, f, s, rfl, p0, p1, p2, k⟩ := h
  refine start_to (σ := [some _, none]) rfl ?_
  cases fl with
  | more w t =>
    obtain ⟨a, rfl, h1⟩ := fld_more p0
    walk_at "go"
    exact k _ [] _ ⟨.tup h1 (.cons (.str _) (.cons (.int _) (.cons (.int _) .nil))), List.nodup_nil, nofun⟩ (by walk_at "g_same")
  | lead w l =>
    obtain ⟨a, rfl, h1⟩ := fld_lead p0
    walk_at "go"
    exact k _ [] _ ⟨.tup h1 (.cons (.str _) (.cons (.int _) (.cons (.int _) .nil))), List.nodup_nil, nofun⟩ (by walk_at "g_same")
  | tab rows =>
    obtain ⟨a, p, xs, rfl, h1, h2, h3⟩ := fld_tab p0
    obtain ⟨g1, g2⟩ := p1
    have hl : xs.length = rows.length := by rw [h3.len, List.length_map]
    walk_at "go"
    intro D nD
    refine lcL_own (xs := xs) (fun i => planD ((rows[i]?).getD [])) nD (by omega) (SqL.of h2) ?_ ?_
    · intro i x H2 Z Y hx s2 hz
      obtain ⟨r, q', f1, rfl, f2⟩ := row_at h3 hx
      have f2' := s2 _ _ f2
      have rl := g2 r (List.mem_of_getElem? f1)
      walk_at "go"
      rename_i q nq
      refine hz (.ref q) [q] _ ?_ (Same.new nq)
      rw [f1]
      exact own_list upd_same nq
    · intro S H2 t1 t4
      rw [hl, rng_map _ planD _ (fun i x e => by rw [e]; rfl)] at t1
      walk_at "go"
      rename_i q nq
      exact k _ S _ (OwN.tab t1 nq) (t4.trans (Same.new nq))

theorem eqv_rows : ∀ a b : List (List Int), PyData.eqvAll (a.map planD) (b.map planD) = true ↔ a = b
  | [], [] => by simp [PyData.eqvAll]
  | [], _ :: _ => by simp [PyData.eqvAll]
  | _ :: _, [] => by simp [PyData.eqvAll]
  | x :: a, y :: b => by
    rw [List.map_cons, List.map_cons, PyData.eqvAll, planD, planD, PyData.eqv, eqvAll_ints, Bool.and_eq_true, eqv_rows a b]
    simp
theorem eqv_flds (a b : Fld) : PyData.eqv (fldD a) (fldD b) = true ↔ a = b := by
  have h1 : (PySem.Str.ofString "more" == PySem.Str.ofString "lead") = false := by decide +kernel
  have h2 : (PySem.Str.ofString "more" == PySem.Str.ofString "table") = false := by decide +kernel
  have h3 : (PySem.Str.ofString "lead" == PySem.Str.ofString "table") = false := by decide +kernel
  have h4 : (PySem.Str.ofString "lead" == PySem.Str.ofString "more") = false := by decide +kernel
  have h5 : (PySem.Str.ofString "table" == PySem.Str.ofString "more") = false := by decide +kernel
  have h6 : (PySem.Str.ofString "table" == PySem.Str.ofString "lead") = false := by decide +kernel
  cases a <;> cases b <;> simp [fldD, PyData.eqv, PyData.eqvAll, h1, h2, h3, h4, h5, h6, eqv_rows]
def alikeB (ds : List PyData) : Bool := ds.all fun d => PyData.eqv d (ds.headD .none)
theorem alike_rep (fl : Fld) (n : Nat) : alikeB ((List.replicate n fl).map fldD) = true := by
  unfold alikeB
  rw [List.all_eq_true]
  intro d hd
  obtain ⟨x, hx, rfl⟩ := List.mem_map.mp hd
  cases n with
  | zero => simp at hx
  | succ n =>
    rw [List.eq_of_mem_replicate hx]
    exact (eqv_flds fl fl).mpr rfl
theorem alike_set {fl fl2 : Fld} {n k : Nat} (hk : k < n) (h2 : 2 ≤ n) (ne : fl2 ≠ fl) : alikeB (((List.replicate n fl).set k fl2).map fldD) = false := by
  rw [← Bool.not_eq_true]
  intro h
  unfold alikeB at h
  rw [List.all_eq_true] at h
  have e : ∀ (i : Nat) (x : Fld), ((List.replicate n fl).set k fl2)[i]? = some x → PyData.eqv (fldD x) ((((List.replicate n fl).set k fl2).map fldD).headD .none) = true := fun i x hx => h _ (List.mem_map_of_mem (List.mem_of_getElem? hx))
  obtain ⟨n', rfl⟩ : ∃ n', n = n' + 2 := ⟨n - 2, by omega⟩
  have hd : ∃ y, (((List.replicate (n' + 2) fl).set k fl2).map fldD).headD .none = fldD y ∧ ((List.replicate (n' + 2) fl).set k fl2)[0]? = some y := by
    cases k with
    | zero => exact ⟨fl2, rfl, rfl⟩
    | succ k => exact ⟨fl, rfl, rfl⟩
  obtain ⟨y, hy, hy0⟩ := hd
  have e1 := e k fl2 (List.getElem?_set_self (by simpa using hk))
  rw [hy, eqv_flds] at e1
  have e2 : ∃ i : Nat, ((List.replicate (n' + 2) fl).set k fl2)[i]? = some fl := by
    cases k with
    | zero => exact ⟨1, by simp⟩
    | succ k => exact ⟨0, rfl⟩
  obtain ⟨i, hi⟩ := e2
  have e3 := e i fl hi
  rw [hy, eqv_flds] at e3
  exact ne (e1.trans e3.symm)
def sp_is_alike (K : PySem.W.Frag) (e_NoBattle : Addr) : Sp := fun vs H Q E => ∃ (v : V) (f s : Int) (ds : List PyData), vs = [v] ∧ (Dq H v (batT f s ds)) ∧ ((∀ d ∈ ds, FldIn d)) ∧ (ds.length ≤ 1000) ∧ ((badB f s ds = none) → ∀ (H' : Hp), (Same H H') → Q (.bl (alikeB ds)) H') ∧ (¬ (badB f s ds = none) → ∀ k d H', badB f s ds = some k → H d = none → H' d = some (.xd [(("field" : Str), .int k)]) → Same H H' → E (.ref e_NoBattle) (some d) H')
theorem use_is_alike {K : PySem.W.Frag} {e_NoBattle : Addr} {H : Hp} {Q : VK} {E : XK} {v : V} {f s : Int} {ds : List PyData} (p0 : Dq H v (batT f s ds)) (p1 : (∀ d ∈ ds, FldIn d)) (p2 : ds.length ≤ 1000) (k : (badB f s ds = none) → ∀ (H' : Hp), (Same H H') → Q (.bl (alikeB ds)) H') (kx : ¬ (badB f s ds = none) → ∀ k d H', badB f s ds = some k → H d = none → H' d = some (.xd [(("field" : Str), .int k)]) → Same H H' → E (.ref e_NoBattle) (some d) H') : sp_is_alike K e_NoBattle [v] H Q E := ⟨v, f, s, ds, rfl, p0, p1, p2, k, kx⟩
theorem len_is_alike {K : PySem.W.Frag} {e_NoBattle : Addr} (vs : List V) (H : Hp) (Q : VK) (E : XK) (h : sp_is_alike K e_NoBattle vs H Q E) : vs.length = ["battle"].length := by
  obtain ⟨_, _, _, _, rfl, _⟩ := h
  rfl
local macro_rules | `(tactic| walk_at "g_call") => `(tactic| ((with_reducible refine' use_is_alike ?c0 ?c1 ?c2 ?kk ?kx); (case c0 => walk_at "g_pre"); (case c1 => walk_at "g_pre"); (case c2 => walk_at "g_pre"); first | ((case kx => (intro _; exfalso; walk_at "g_no")); intros) | ((case kk => (intro _; exfalso; walk_at "g_no")); intros) | skip))
theorem ok_is_alike (T : Txt K mg) : FnOk P w K mg base (L2.CX P w) 6 T.a_is_alike T.d_is_alike ["battle"] (sp_is_alike K T.e_NoBattle) := by
  have G_look_battle := ok_look_battle (P := P) (w := w) (base := base) T
  refine T.F_is_alike.okX sc_is_alike len_is_alike (fun cdv A outer s H vs Q E hr h => ?_)
  refine ⟨_, (pss_cons (ps_expr (pe_callS G_look_battle (hr.mono (by first | decide | omega)) (by rfl) T.g_look_battle T.F_look_battle.kp T.b_look_battle (fun σ => passAt (takes_of rfl rfl rfl rfl) σ) (pa_cons (pv 0) pa_nil)))
      (pss_one (ps_ret (pe_cmpR op_eq (pe_callB (call_lenK K rfl) (by rfl) T.z_len (by decide +kernel) (pa_cons (pe_lc (own := [("field", 1)]) rfl sc_is_alike.nd (pi_listK K rfl (pe_ix (ix_tupK K rfl) (pv 0) pe_int (fun _ _ => rfl))) (blkOk_by (own := [("field", 1)]) (N := ["battle", "field"]) (sc := defScope s_is_alike) (by decide +kernel)) (fun _ _ _ _ _ => (pg_name (i := 1) sc_is_alike.nd rfl (Or.inl rfl))) (fun _ _ _ _ _ => (pts_one (pt_cmpR (op_neDK K rfl hr.units) (pv 1) (pe_ix (ix_listK K rfl) (pe_ix (ix_tupK K rfl) (pv 0) pe_int (fun _ _ => rfl)) pe_int (fun _ _ => rfl)) (nomark _)))) (fun _ _ _ _ _ => (pv 1))) pa_nil)) pe_int (nomark _))))), ?_⟩
  try dsimp only [L2.cxOf, L2.Cx.nox, L2.Cx.wish, List.map_cons, List.map_nil]
  obtain ⟨v, f, s, ds, rfl, p0, p1, p2, k, kx⟩ := h
  refine start_to (σ := [some _, none]) rfl ?_
  by_cases good : badB f s ds = none
  · have k' := k good
    clear k kx
    obtain ⟨fs, rfl, ok⟩ := good_flds good
    have p0' : Dq H v (batD f s fs) := p0
    walk_at "goF"
    rename_i H1 g1
    obtain ⟨a, p, xs, rfl, h1, h2, h3⟩ := bat_inv (p0'.same g1)
    have hl : xs.length = fs.length := by rw [h3.len, List.length_map]
    have b3 := ok.ne
    obtain ⟨x0, hx0⟩ : ∃ x, xs[0]? = some x := ⟨xs[0]'(by omega), List.getElem?_eq_getElem _⟩
    obtain ⟨fl0, z1, z2⟩ := fld_at h3 hx0
    have hat : atI xs 0 = some x0 := atI_nat hx0
    have hd0 : (fs.map fldD).headD .none = fldD fl0 := by
      cases fs with
      | nil => simp at z1
      | cons y fs =>
        simp at z1
        rw [z1]
        rfl
    have s0 : ∀ fl, SeqAt.shaped (fldD fl) = true := fun fl => shaped_of (lay_fld fl) (Nat.le_trans (dep_fld fl) (by decide))
    walk_at "go"
    intro D nD
    refine lcL_fl (xs := xs) (fun i => !PyData.eqv (((fs.map fldD)[i]?).getD .none) (fldD fl0)) nD (by omega) (SqL.of h2) ?_ ?_
    · intro i x H2 Z Y hx r1 hz hy
      obtain ⟨fl, e1, e2⟩ := fld_at h3 hx
      have e2' := e2.same r1
      have z2' := z2.same r1
      have h1' := r1 _ _ h1
      have h2' := r1 _ _ h2
      have e9 : ((fs.map fldD)[i]?).getD .none = fldD fl := by rw [List.getElem?_map, e1]; rfl
      rw [e9] at hz hy
      walk_at "go"
      refine i_neDe e2' z2' (s0 _) (s0 _) ?_
      walk_at "go"
      refine ite_b (fun e => ?_) (fun e => ?_)
      · walk_at "go"
        exact hz _ _ e (by walk_at "g_same")
      · exact hy _ e (by walk_at "g_same")
    · intro acc H2 hD s2 hc ha
      walk_at "go"
      have e0 : decide ((acc.length : Int) = 0) = alikeB (fs.map fldD) := by
        rw [Bool.eq_iff_iff, decide_eq_true_iff, hc]
        unfold alikeB
        rw [List.all_eq_true, hd0]
        constructor
        · intro q d hd
          obtain ⟨i, hi⟩ := List.mem_iff_getElem?.mp hd
          have := q i (by
            have := (List.getElem?_eq_some_iff.mp hi).1
            rw [List.length_map] at this
            omega)
          rw [hi] at this
          simpa using this
        · intro q i hi
          have hi' : i < (fs.map fldD).length := by rw [List.length_map]; omega
          rw [List.getElem?_eq_getElem hi']
          have := q _ (List.getElem_mem hi')
          simpa using this
      rw [e0]
      exact k' _ (g1.trans s2)
  · walk_at "goF"
    exact kx good _ _ _ (by assumption) (by assumption) (by assumption) (by assumption)
def sp_must_be_alike (K : PySem.W.Frag) (e_NoBattle : Addr) (e_NoAlike : Addr) : Sp := fun vs H Q E => ∃ (v : V) (f s : Int) (ds : List PyData), vs = [v] ∧ (Dq H v (batT f s ds)) ∧ ((∀ d ∈ ds, FldIn d)) ∧ (ds.length ≤ 1000) ∧ ((badB f s ds = none ∧ alikeB ds = true) → ∀ (H' : Hp), (Same H H') → Q (.non) H') ∧ (¬ (badB f s ds = none ∧ alikeB ds = true) → (∀ k d H', badB f s ds = some k → H d = none → H' d = some (.xd [(("field" : Str), .int k)]) → Same H H' → E (.ref e_NoBattle) (some d) H') ∧ (badB f s ds = none → alikeB ds = false → ∀ H', Same H H' → E (.ref e_NoAlike) none H'))
theorem use_must_be_alike {K : PySem.W.Frag} {e_NoBattle : Addr} {e_NoAlike : Addr} {H : Hp} {Q : VK} {E : XK} {v : V} {f s : Int} {ds : List PyData} (p0 : Dq H v (batT f s ds)) (p1 : (∀ d ∈ ds, FldIn d)) (p2 : ds.length ≤ 1000) (k : (badB f s ds = none ∧ alikeB ds = true) → ∀ (H' : Hp), (Same H H') → Q (.non) H') (kx : ¬ (badB f s ds = none ∧ alikeB ds = true) → (∀ k d H', badB f s ds = some k → H d = none → H' d = some (.xd [(("field" : Str), .int k)]) → Same H H' → E (.ref e_NoBattle) (some d) H') ∧ (badB f s ds = none → alikeB ds = false → ∀ H', Same H H' → E (.ref e_NoAlike) none H')) : sp_must_be_alike K e_NoBattle e_NoAlike [v] H Q E := ⟨v, f, s, ds, rfl, p0, p1, p2, k, kx⟩
theorem len_must_be_alike {K : PySem.W.Frag} {e_NoBattle : Addr} {e_NoAlike : Addr} (vs : List V) (H : Hp) (Q : VK) (E : XK) (h : sp_must_be_alike K e_NoBattle e_NoAlike vs H Q E) : vs.length = ["battle"].length := by
  obtain ⟨_, _, _, _, rfl, _⟩ := h
  rfl
local macro_rules | `(tactic| walk_at "g_call") => `(tactic| ((with_reducible refine' use_must_be_alike ?c0 ?c1 ?c2 ?kk ?kx); (case c0 => walk_at "g_pre"); (case c1 => walk_at "g_pre"); (case c2 => walk_at "g_pre"); first | ((case kx => (intro _; exfalso; walk_at "g_no")); intros) | ((case kk => (intro _; exfalso; walk_at "g_no")); intros) | skip))
theorem ok_must_be_alike (T : Txt K mg) : FnOk P w K mg base (L2.CX P w) 7 T.a_must_be_alike T.d_must_be_alike ["battle"] (sp_must_be_alike K T.e_NoBattle T.e_NoAlike) := by
  have G_is_alike := ok_is_alike (P := P) (w := w) (base := base) T
  refine T.F_must_be_alike.okX sc_must_be_alike len_must_be_alike (fun cdv A outer s H vs Q E hr h => ?_)
  refine ⟨_, (pss_one (ps_if (pt_not (pt_val (pe_callS G_is_alike (hr.mono (by first | decide | omega)) (by rfl) T.g_is_alike T.F_is_alike.kp T.b_is_alike (fun σ => passAt (takes_of rfl rfl rfl rfl) σ) (pa_cons (pv 0) pa_nil)))) (pss_one (ps_raise rfl (takes_of rfl rfl rfl rfl) (pmk_own PySem.F.excBase_ValueError T.x_NoAlike T.g_NoAlike T.k_NoAlike (raises_own T.y_NoAlike T.t_NoAlike) rfl))) pss_nil)), ?_⟩
  try dsimp only [L2.cxOf, L2.Cx.nox, L2.Cx.wish, List.map_cons, List.map_nil]
  obtain ⟨v, f, s, ds, rfl, p0, p1, p2, k, kx⟩ := h
  refine start_to (σ := [some _]) rfl ?_
  by_cases good : badB f s ds = none
  · walk_at "go"
    rename_i H1 s1
    cases al : alikeB ds with
    | true =>
      walk_at "go"
      exact k ⟨good, al⟩ _ s1
    | false =>
      walk_at "go"
      exact (kx fun z => by rw [al] at z; cases z.2).2 good al _ s1
  · walk_at "go"
    exact (kx fun z => good z.1).1 _ _ _ (by assumption) (by assumption) (by assumption) (by assumption)
def sp_ring_gain (K : PySem.W.Frag) (e_NoBattle : Addr) (e_NoAlike : Addr) (e_NoPlan : Addr) : Sp := fun vs H Q E => ∃ (v : V) (f s : Int) (ds : List PyData) (q r : Addr) (ms ns : List Int), vs = [v, .ref q, .ref r] ∧ (Dq H v (batT f s ds)) ∧ ((∀ d ∈ ds, FldIn d)) ∧ (ds.length ≤ 1000) ∧ (H q = some (.lst (ms.map V.int))) ∧ (H r = some (.lst (ns.map V.int))) ∧ (ms.length ≤ 1000 ∧ ns.length ≤ 1000) ∧ ((badB f s ds = none ∧ alikeB ds = true → ¬ (PlanC f ds.length ms ∧ PlanC s ds.length ns))) ∧ ((False) → Q (.non) H) ∧ (¬ (False) → (∀ k d H', badB f s ds = some k → H d = none → H' d = some (.xd [(("field" : Str), .int k)]) → Same H H' → E (.ref e_NoBattle) (some d) H') ∧ (badB f s ds = none → alikeB ds = false → ∀ H', Same H H' → E (.ref e_NoAlike) none H') ∧ (badB f s ds = none → alikeB ds = true → ∀ H', Same H H' → E (.ref e_NoPlan) none H'))
theorem use_ring_gain {K : PySem.W.Frag} {e_NoBattle : Addr} {e_NoAlike : Addr} {e_NoPlan : Addr} {H : Hp} {Q : VK} {E : XK} {v : V} {f s : Int} {ds : List PyData} {q r : Addr} {ms ns : List Int} (p0 : Dq H v (batT f s ds)) (p1 : (∀ d ∈ ds, FldIn d)) (p2 : ds.length ≤ 1000) (p3 : H q = some (.lst (ms.map V.int))) (p4 : H r = some (.lst (ns.map V.int))) (p5 : ms.length ≤ 1000 ∧ ns.length ≤ 1000) (p6 : (badB f s ds = none ∧ alikeB ds = true → ¬ (PlanC f ds.length ms ∧ PlanC s ds.length ns))) (k : (False) → Q (.non) H) (kx : ¬ (False) → (∀ k d H', badB f s ds = some k → H d = none → H' d = some (.xd [(("field" : Str), .int k)]) → Same H H' → E (.ref e_NoBattle) (some d) H') ∧ (badB f s ds = none → alikeB ds = false → ∀ H', Same H H' → E (.ref e_NoAlike) none H') ∧ (badB f s ds = none → alikeB ds = true → ∀ H', Same H H' → E (.ref e_NoPlan) none H')) : sp_ring_gain K e_NoBattle e_NoAlike e_NoPlan [v, .ref q, .ref r] H Q E := ⟨v, f, s, ds, q, r, ms, ns, rfl, p0, p1, p2, p3, p4, p5, p6, k, kx⟩
theorem len_ring_gain {K : PySem.W.Frag} {e_NoBattle : Addr} {e_NoAlike : Addr} {e_NoPlan : Addr} (vs : List V) (H : Hp) (Q : VK) (E : XK) (h : sp_ring_gain K e_NoBattle e_NoAlike e_NoPlan vs H Q E) : vs.length = ["battle", "one", "other"].length := by
  obtain ⟨_, _, _, _, _, _, _, _, rfl, _⟩ := h
  rfl
local macro_rules | `(tactic| walk_at "g_call") => `(tactic| ((with_reducible refine' use_ring_gain ?c0 ?c1 ?c2 ?c3 ?c4 ?c5 ?c6 ?kk ?kx); (case c0 => walk_at "g_pre"); (case c1 => walk_at "g_pre"); (case c2 => walk_at "g_pre"); (case c3 => walk_at "g_pre"); (case c4 => walk_at "g_pre"); (case c5 => walk_at "g_pre"); (case c6 => walk_at "g_pre"); first | ((case kx => (intro _; exfalso; walk_at "g_no")); intros) | ((case kk => (intro _; exfalso; walk_at "g_no")); intros) | skip))
theorem ok_ring_gain (T : Txt K mg) : FnOk P w K mg base (L2.CX P w) 8 T.a_ring_gain T.d_ring_gain ["battle", "one", "other"] (sp_ring_gain K T.e_NoBattle T.e_NoAlike T.e_NoPlan) := by
  have G_must_be_alike := ok_must_be_alike (P := P) (w := w) (base := base) T
  have G_ratio := ok_ratio (P := P) (w := w) (base := base) T
  have G_met := ok_met (P := P) (w := w) (base := base) T
  have G_is_plan := ok_is_plan (P := P) (w := w) (base := base) T
  refine T.F_ring_gain.okX sc_ring_gain len_ring_gain (fun cdv A outer s H vs Q E hr h => ?_)
  refine ⟨_, (pss_cons (ps_expr (pe_callS G_must_be_alike (hr.mono (by first | decide | omega)) (by rfl) T.g_must_be_alike T.F_must_be_alike.kp T.b_must_be_alike (fun σ => passAt (takes_of rfl rfl rfl rfl) σ) (pa_cons (pv 0) pa_nil)))
      (pss_cons (ps_set (i := 3) sc_ring_gain.nd rfl (Or.inl rfl) (pe_callB (call_lenK K rfl) (by rfl) T.z_len (by decide +kernel) (pa_cons (pe_ix (ix_tupK K rfl) (pv 0) pe_int (fun _ _ => rfl)) pa_nil)))
      (pss_cons (ps_if (PW.pt (pw_or (pt_not (pt_val (pe_call G_is_plan (hr.mono (by first | decide | omega)) (by rfl) T.g_is_plan T.F_is_plan.kp T.b_is_plan .nil pass0 (pa_cons (pe_ix (ix_tupK K rfl) (pv 0) pe_int (fun _ _ => rfl)) (pa_cons (pv 3) (pa_cons (pv 1) pa_nil)))))) (pw_or1 (pt_not (pt_val (pe_call G_is_plan (hr.mono (by first | decide | omega)) (by rfl) T.g_is_plan T.F_is_plan.kp T.b_is_plan .nil pass0 (pa_cons (pe_ix (ix_tupK K rfl) (pv 0) pe_int (fun _ _ => rfl)) (pa_cons (pv 3) (pa_cons (pv 2) pa_nil))))))))) (pss_one (ps_raise rfl (takes_of rfl rfl rfl rfl) (pmk_own PySem.F.excBase_ValueError T.x_NoPlan T.g_NoPlan T.k_NoPlan (raises_own T.y_NoPlan T.t_NoPlan) rfl))) pss_nil)
      (pss_one (ps_ret (pe_call G_ratio (hr.mono (by first | decide | omega)) (by rfl) T.g_ratio T.F_ratio.kp T.b_ratio .nil pass0 (pa_cons (pe_call G_met (hr.mono (by first | decide | omega)) (by rfl) T.g_met T.F_met.kp T.b_met .nil pass0 (pa_cons (pe_ix (ix_listK K rfl) (pe_ix (ix_tupK K rfl) (pv 0) pe_int (fun _ _ => rfl)) pe_int (fun _ _ => rfl)) (pa_cons (pv 1) (pa_cons (pv 2) pa_nil)))) (pa_cons (pv 3) pa_nil)))))))), ?_⟩
  try dsimp only [L2.cxOf, L2.Cx.nox, L2.Cx.wish, List.map_cons, List.map_nil]
  obtain ⟨v, f, s, ds, q, r, ms, ns, rfl, p0, p1, p2, p3, p4, ⟨p5, p6⟩, p7, k, kx⟩ := h
  obtain ⟨kx1, kx2, kx3⟩ := kx id
  refine start_to (σ := [some _, some _, some _, none]) rfl ?_
  by_cases good : badB f s ds = none ∧ alikeB ds = true
  · obtain ⟨a, p, xs, rfl, h1, h2, h3⟩ := batT_inv p0
    have hl := h3.len
    have hn := (bad_none.mp good.1).2.2.1
    have bad := p7 good
    walk_at "goO"
    rename_i H0 s0 H1 s1
    have s01 := s0.trans s1
    refine ite_b (fun c1 => ?_) (fun c1 => ?_)
    · walk_at "go"
      exact kx3 good.1 good.2 _ s01
    have g1 : PlanC f xs.length ms := isPlan_iff.mp (by cases e : isPlanB f xs.length ms with
      | true => rfl
      | false => rw [e] at c1; cases c1)
    have p4' := s01 _ _ p4
    have h1' := s01 _ _ h1
    have h2' := s01 _ _ h2
    walk_at "goO"
    rename_i H2 s2
    refine ite_b (fun c2 => ?_) (fun c2 => ?_)
    · walk_at "go"
      exact kx3 good.1 good.2 _ (s01.trans s2)
    have g2 : PlanC s xs.length ns := isPlan_iff.mp (by cases e : isPlanB s xs.length ns with
      | true => rfl
      | false => rw [e] at c2; cases c2)
    rw [hl] at g1 g2
    exact absurd ⟨g1, g2⟩ bad
  · walk_at "go"
    exact ⟨fun kk d H1 e1 e2 e3 s1 => kx1 kk d H1 e1 e2 e3 s1, fun e1 e2 H1 s1 => kx2 e1 e2 H1 s1⟩
def sp_counts_table (K : PySem.W.Frag) (e_NoBattle : Addr) (e_NoAlike : Addr) : Sp := fun vs H Q E => ∃ (v : V) (f s : Int) (ds : List PyData), vs = [v] ∧ (Dq H v (batT f s ds)) ∧ ((∀ d ∈ ds, FldIn d)) ∧ (ds.length ≤ 1000) ∧ (¬ (badB f s ds = none ∧ alikeB ds = true)) ∧ ((False) → Q (.non) H) ∧ (¬ (False) → (∀ k d H', badB f s ds = some k → H d = none → H' d = some (.xd [(("field" : Str), .int k)]) → Same H H' → E (.ref e_NoBattle) (some d) H') ∧ (badB f s ds = none → alikeB ds = false → ∀ H', Same H H' → E (.ref e_NoAlike) none H'))
theorem use_counts_table {K : PySem.W.Frag} {e_NoBattle : Addr} {e_NoAlike : Addr} {H : Hp} {Q : VK} {E : XK} {v : V} {f s : Int} {ds : List PyData} (p0 : Dq H v (batT f s ds)) (p1 : (∀ d ∈ ds, FldIn d)) (p2 : ds.length ≤ 1000) (p3 : ¬ (badB f s ds = none ∧ alikeB ds = true)) (k : (False) → Q (.non) H) (kx : ¬ (False) → (∀ k d H', badB f s ds = some k → H d = none → H' d = some (.xd [(("field" : Str), .int k)]) → Same H H' → E (.ref e_NoBattle) (some d) H') ∧ (badB f s ds = none → alikeB ds = false → ∀ H', Same H H' → E (.ref e_NoAlike) none H')) : sp_counts_table K e_NoBattle e_NoAlike [v] H Q E := ⟨v, f, s, ds, rfl, p0, p1, p2, p3, k, kx⟩
theorem len_counts_table {K : PySem.W.Frag} {e_NoBattle : Addr} {e_NoAlike : Addr} (vs : List V) (H : Hp) (Q : VK) (E : XK) (h : sp_counts_table K e_NoBattle e_NoAlike vs H Q E) : vs.length = ["battle"].length := by
  obtain ⟨_, _, _, _, rfl, _⟩ := h
  rfl
local macro_rules | `(tactic| walk_at "g_call") => `(tactic| ((with_reducible refine' use_counts_table ?c0 ?c1 ?c2 ?c3 ?kk ?kx); (case c0 => walk_at "g_pre"); (case c1 => walk_at "g_pre"); (case c2 => walk_at "g_pre"); (case c3 => walk_at "g_pre"); first | ((case kx => (intro _; exfalso; walk_at "g_no")); intros) | ((case kk => (intro _; exfalso; walk_at "g_no")); intros) | skip))
theorem ok_counts_table (T : Txt K mg) : FnOk P w K mg base (L2.CX P w) 13 T.a_counts_table T.d_counts_table ["battle"] (sp_counts_table K T.e_NoBattle T.e_NoAlike) := by
  have G_must_be_alike := ok_must_be_alike (P := P) (w := w) (base := base) T
  have G_table_by_counts := ok_table_by_counts (P := P) (w := w) (base := base) T
  refine T.F_counts_table.okX sc_counts_table len_counts_table (fun cdv A outer s H vs Q E hr h => ?_)
  refine ⟨_, (pss_cons (ps_expr (pe_callS G_must_be_alike (hr.mono (by first | decide | omega)) (by rfl) T.g_must_be_alike T.F_must_be_alike.kp T.b_must_be_alike (fun σ => passAt (takes_of rfl rfl rfl rfl) σ) (pa_cons (pv 0) pa_nil)))
      (pss_one (ps_ret (pe_call G_table_by_counts (hr.mono (by first | decide | omega)) (by rfl) T.g_table_by_counts T.F_table_by_counts.kp T.b_table_by_counts .nil pass0 (pa_cons (pv 0) pa_nil))))), ?_⟩
  try dsimp only [L2.cxOf, L2.Cx.nox, L2.Cx.wish, List.map_cons, List.map_nil]
  obtain ⟨v, f, s, ds, rfl, p0, p1, p2, p3, k, kx⟩ := h
  refine start_to (σ := [some _]) rfl ?_
  walk_at "go"
  exact kx id
def sp_counts_worth (K : PySem.W.Frag) (e_NoBattle : Addr) (e_NoAlike : Addr) : Sp := fun vs H Q E => ∃ (v : V) (f s : Int) (ds : List PyData), vs = [v] ∧ (Dq H v (batT f s ds)) ∧ ((∀ d ∈ ds, FldIn d)) ∧ (ds.length ≤ 1000) ∧ (¬ (badB f s ds = none ∧ alikeB ds = true)) ∧ ((False) → Q (.non) H) ∧ (¬ (False) → (∀ k d H', badB f s ds = some k → H d = none → H' d = some (.xd [(("field" : Str), .int k)]) → Same H H' → E (.ref e_NoBattle) (some d) H') ∧ (badB f s ds = none → alikeB ds = false → ∀ H', Same H H' → E (.ref e_NoAlike) none H'))
theorem use_counts_worth {K : PySem.W.Frag} {e_NoBattle : Addr} {e_NoAlike : Addr} {H : Hp} {Q : VK} {E : XK} {v : V} {f s : Int} {ds : List PyData} (p0 : Dq H v (batT f s ds)) (p1 : (∀ d ∈ ds, FldIn d)) (p2 : ds.length ≤ 1000) (p3 : ¬ (badB f s ds = none ∧ alikeB ds = true)) (k : (False) → Q (.non) H) (kx : ¬ (False) → (∀ k d H', badB f s ds = some k → H d = none → H' d = some (.xd [(("field" : Str), .int k)]) → Same H H' → E (.ref e_NoBattle) (some d) H') ∧ (badB f s ds = none → alikeB ds = false → ∀ H', Same H H' → E (.ref e_NoAlike) none H')) : sp_counts_worth K e_NoBattle e_NoAlike [v] H Q E := ⟨v, f, s, ds, rfl, p0, p1, p2, p3, k, kx⟩
theorem len_counts_worth {K : PySem.W.Frag} {e_NoBattle : Addr} {e_NoAlike : Addr} (vs : List V) (H : Hp) (Q : VK) (E : XK) (h : sp_counts_worth K e_NoBattle e_NoAlike vs H Q E) : vs.length = ["battle"].length := by
  obtain ⟨_, _, _, _, rfl, _⟩ := h
  rfl
local macro_rules | `(tactic| walk_at "g_call") => `(tactic| ((with_reducible refine' use_counts_worth ?c0 ?c1 ?c2 ?c3 ?kk ?kx); (case c0 => walk_at "g_pre"); (case c1 => walk_at "g_pre"); (case c2 => walk_at "g_pre"); (case c3 => walk_at "g_pre"); first | ((case kx => (intro _; exfalso; walk_at "g_no")); intros) | ((case kk => (intro _; exfalso; walk_at "g_no")); intros) | skip))
theorem ok_counts_worth (T : Txt K mg) : FnOk P w K mg base (L2.CX P w) 13 T.a_counts_worth T.d_counts_worth ["battle"] (sp_counts_worth K T.e_NoBattle T.e_NoAlike) := by
  have G_must_be_alike := ok_must_be_alike (P := P) (w := w) (base := base) T
  have G_solved := ok_solved (P := P) (w := w) (base := base) T
  have G_with_weights := ok_with_weights (P := P) (w := w) (base := base) T
  have G_table_by_counts := ok_table_by_counts (P := P) (w := w) (base := base) T
  have G_all_counts := ok_all_counts (P := P) (w := w) (base := base) T
  have G_ratio := ok_ratio (P := P) (w := w) (base := base) T
  refine T.F_counts_worth.okX sc_counts_worth len_counts_worth (fun cdv A outer s H vs Q E hr h => ?_)
  refine ⟨_, (pss_cons (ps_expr (pe_callS G_must_be_alike (hr.mono (by first | decide | omega)) (by rfl) T.g_must_be_alike T.F_must_be_alike.kp T.b_must_be_alike (fun σ => passAt (takes_of rfl rfl rfl rfl) σ) (pa_cons (pv 0) pa_nil)))
      (pss_cons (ps_asg (pv 0) (pg_tupK K rfl 3 rfl (pgs_cons (pg_name (i := 1) sc_counts_worth.nd rfl (Or.inl rfl)) (pgs_cons (pg_name (i := 2) sc_counts_worth.nd rfl (Or.inl rfl)) (pgs_cons (pg_name (i := 3) sc_counts_worth.nd rfl (Or.inl rfl)) pgs_nil)))))
      (pss_cons (ps_asg (pe_call G_solved (hr.mono (by first | decide | omega)) (by rfl) T.g_solved T.F_solved.kp T.b_solved .nil pass0 (pa_cons (pe_call G_table_by_counts (hr.mono (by first | decide | omega)) (by rfl) T.g_table_by_counts T.F_table_by_counts.kp T.b_table_by_counts .nil pass0 (pa_cons (pv 0) pa_nil)) pa_nil)) (pg_tupK K rfl 3 rfl (pgs_cons (pg_name (i := 4) sc_counts_worth.nd rfl (Or.inl rfl)) (pgs_cons (pg_name (i := 5) sc_counts_worth.nd rfl (Or.inl rfl)) (pgs_cons (pg_name (i := 6) sc_counts_worth.nd rfl (Or.inl rfl)) pgs_nil)))))
      (pss_cons (ps_set (i := 7) sc_counts_worth.nd rfl (Or.inl rfl) (pe_call G_with_weights (hr.mono (by first | decide | omega)) (by rfl) T.g_with_weights T.F_with_weights.kp T.b_with_weights .nil pass0 (pa_cons (pe_call G_all_counts (hr.mono (by first | decide | omega)) (by rfl) T.g_all_counts T.F_all_counts.kp T.b_all_counts .nil pass0 (pa_cons (pv 1) (pa_cons (pe_callB (call_lenK K rfl) (by rfl) T.z_len (by decide +kernel) (pa_cons (pv 3) pa_nil)) pa_nil))) (pa_cons (pv 5) pa_nil))))
      (pss_cons (ps_set (i := 8) sc_counts_worth.nd rfl (Or.inl rfl) (pe_call G_with_weights (hr.mono (by first | decide | omega)) (by rfl) T.g_with_weights T.F_with_weights.kp T.b_with_weights .nil pass0 (pa_cons (pe_call G_all_counts (hr.mono (by first | decide | omega)) (by rfl) T.g_all_counts T.F_all_counts.kp T.b_all_counts .nil pass0 (pa_cons (pv 2) (pa_cons (pe_callB (call_lenK K rfl) (by rfl) T.z_len (by decide +kernel) (pa_cons (pv 3) pa_nil)) pa_nil))) (pa_cons (pv 6) pa_nil))))
      (pss_one (ps_ret (pe_tup (pa_cons (pe_call G_ratio (hr.mono (by first | decide | omega)) (by rfl) T.g_ratio T.F_ratio.kp T.b_ratio .nil pass0 (pa_cons (pe_ix (ix_tupK K rfl) (pv 4) pe_int (fun _ _ => rfl)) (pa_cons (pe_op op_mulA (pe_ix (ix_tupK K rfl) (pv 4) pe_int (fun _ _ => rfl)) (pe_callB (call_lenK K rfl) (by rfl) T.z_len (by decide +kernel) (pa_cons (pv 3) pa_nil))) pa_nil))) (pa_cons (pv 7) (pa_cons (pv 8) pa_nil))))))))))), ?_⟩
  try dsimp only [L2.cxOf, L2.Cx.nox, L2.Cx.wish, List.map_cons, List.map_nil]
  obtain ⟨v, f, s, ds, rfl, p0, p1, p2, p3, k, kx⟩ := h
  refine start_to (σ := [some _, none, none, none, none, none, none, none, none]) rfl ?_
  walk_at "go"
  exact kx id
def sp_l_marks (K : PySem.W.Frag) (e_NoBattle : Addr) (e_NoAlike : Addr) (e_NoPlan : Addr) : Sp := fun vs H Q E => ∃ (a dd : Addr) (y : V) (i : Nat), vs = [.ref a] ∧ (i ≤ 2) ∧ ((i = 0 → H a = some (exHO a (.ref e_NoAlike) none))) ∧ ((i = 1 → H a = some (exHO a (.ref e_NoBattle) (some dd)))) ∧ ((i = 1 → H dd = some (.xd [(("field" : Str), y)]))) ∧ ((i = 2 → H a = some (exHO a (.ref e_NoPlan) none))) ∧ ∀ (b : Addr) (H' : Hp), (H' b = some (.lst [.str (PySem.Str.ofString (if i = 0 then "alike" else if i = 1 then "battle" else "plan"))])) → (Same H H') → Q (.ref b) H'
theorem use_l_marks {K : PySem.W.Frag} {e_NoBattle : Addr} {e_NoAlike : Addr} {e_NoPlan : Addr} {H : Hp} {Q : VK} {E : XK} {a dd : Addr} {y : V} {i : Nat} (p0 : i ≤ 2) (p1 : (i = 0 → H a = some (exHO a (.ref e_NoAlike) none))) (p2 : (i = 1 → H a = some (exHO a (.ref e_NoBattle) (some dd)))) (p3 : (i = 1 → H dd = some (.xd [(("field" : Str), y)]))) (p4 : (i = 2 → H a = some (exHO a (.ref e_NoPlan) none))) (k : ∀ (b : Addr) (H' : Hp), (H' b = some (.lst [.str (PySem.Str.ofString (if i = 0 then "alike" else if i = 1 then "battle" else "plan"))])) → (Same H H') → Q (.ref b) H') : sp_l_marks K e_NoBattle e_NoAlike e_NoPlan [.ref a] H Q E := ⟨a, dd, y, i, rfl, p0, p1, p2, p3, p4, k⟩
theorem len_l_marks {K : PySem.W.Frag} {e_NoBattle : Addr} {e_NoAlike : Addr} {e_NoPlan : Addr} (vs : List V) (H : Hp) (Q : VK) (E : XK) (h : sp_l_marks K e_NoBattle e_NoAlike e_NoPlan vs H Q E) : vs.length = ["_law_caught_here"].length := by
  obtain ⟨_, _, _, _, rfl, _⟩ := h
  rfl
local macro_rules | `(tactic| walk_at "g_call") => `(tactic| ((with_reducible refine' use_l_marks ?c0 ?c1 ?c2 ?c3 ?c4 ?_); (case c0 => walk_at "g_pre"); (case c1 => walk_at "g_pre"); (case c2 => walk_at "g_pre"); (case c3 => walk_at "g_pre"); (case c4 => walk_at "g_pre"); intros))
theorem ok_l_marks (T : Txt K mg) : FnOk P w K mg base CX0 1 T.a_l_marks T.d_l_marks ["_law_caught_here"] (sp_l_marks K T.e_NoBattle T.e_NoAlike T.e_NoPlan) := by
  refine T.F_l_marks.ok sc_l_marks len_l_marks (fun cdv A outer s H vs Q E hr h => ?_)
  refine ⟨_, (pss_cons (ps_set (i := 1) sc_l_marks.nd rfl (Or.inl rfl) (pe_lst (pa_cons (pe_callB (call_isXK K rfl) (by rfl) T.z_isinstance (by decide +kernel) (pa_cons (pv 0) (pa_cons (pe_glob (v := .ref T.e_NoAlike) rfl T.g_NoAlike rfl) pa_nil))) (pa_cons (pe_callB (call_isXK K rfl) (by rfl) T.z_isinstance (by decide +kernel) (pa_cons (pv 0) (pa_cons (pe_glob (v := .ref T.e_NoBattle) rfl T.g_NoBattle rfl) pa_nil))) (pa_cons (pe_callB (call_isXK K rfl) (by rfl) T.z_isinstance (by decide +kernel) (pa_cons (pv 0) (pa_cons (pe_glob (v := .ref T.e_NoEven) rfl T.g_NoEven rfl) pa_nil))) pa_nil)))))
      (pss_cons (ps_set (i := 1) sc_l_marks.nd rfl (Or.inl rfl) (pe_op op_cat (pv 1) (pe_lst (pa_cons (pe_callB (call_isXK K rfl) (by rfl) T.z_isinstance (by decide +kernel) (pa_cons (pv 0) (pa_cons (pe_glob (v := .ref T.e_NoMix) rfl T.g_NoMix rfl) pa_nil))) (pa_cons (pe_callB (call_isXK K rfl) (by rfl) T.z_isinstance (by decide +kernel) (pa_cons (pv 0) (pa_cons (pe_glob (v := .ref T.e_NoName) rfl T.g_NoName rfl) pa_nil))) (pa_cons (pe_callB (call_isXK K rfl) (by rfl) T.z_isinstance (by decide +kernel) (pa_cons (pv 0) (pa_cons (pe_glob (v := .ref T.e_NoNumber) rfl T.g_NoNumber rfl) pa_nil))) pa_nil))))))
      (pss_cons (ps_set (i := 1) sc_l_marks.nd rfl (Or.inl rfl) (pe_op op_cat (pv 1) (pe_lst (pa_cons (pe_callB (call_isXK K rfl) (by rfl) T.z_isinstance (by decide +kernel) (pa_cons (pv 0) (pa_cons (pe_glob (v := .ref T.e_NoPlace) rfl T.g_NoPlace rfl) pa_nil))) (pa_cons (pe_callB (call_isXK K rfl) (by rfl) T.z_isinstance (by decide +kernel) (pa_cons (pv 0) (pa_cons (pe_glob (v := .ref T.e_NoPlan) rfl T.g_NoPlan rfl) pa_nil))) (pa_cons (pe_callB (call_isXK K rfl) (by rfl) T.z_isinstance (by decide +kernel) (pa_cons (pv 0) (pa_cons (pe_glob (v := .ref T.e_NoRow) rfl T.g_NoRow rfl) pa_nil))) pa_nil))))))
      (pss_cons (ps_set (i := 1) sc_l_marks.nd rfl (Or.inl rfl) (pe_op op_cat (pv 1) (pe_lst (pa_cons (pe_callB (call_isXK K rfl) (by rfl) T.z_isinstance (by decide +kernel) (pa_cons (pv 0) (pa_cons (pe_glob (v := .ref T.e_NoSide) rfl T.g_NoSide rfl) pa_nil))) (pa_cons (pe_callB (call_isXK K rfl) (by rfl) T.z_isinstance (by decide +kernel) (pa_cons (pv 0) (pa_cons (pe_glob (v := .ref T.e_NoStream) rfl T.g_NoStream rfl) pa_nil))) (pa_cons (pe_callB (call_isXK K rfl) (by rfl) T.z_isinstance (by decide +kernel) (pa_cons (pv 0) (pa_cons (pe_glob (v := .ref T.e_NoText) rfl T.g_NoText rfl) pa_nil))) pa_nil))))))
      (pss_cons (ps_expr (pe_bm PySem.F.plainAttrs_list PySem.F.slot_list_append PySem.F.type_list_append mt_append (pv 1) (pa_cons (pe_callB (call_isXK K rfl) (by rfl) T.z_isinstance (by decide +kernel) (pa_cons (pv 0) (pa_cons (pe_glob (v := .ref T.e_TooGreat) rfl T.g_TooGreat rfl) pa_nil))) pa_nil)))
      (pss_cons (ps_set (i := 2) sc_l_marks.nd rfl (Or.inl rfl) (pe_lst (pa_cons pe_str (pa_cons pe_str (pa_cons pe_str (pa_cons pe_str (pa_cons pe_str (pa_cons pe_str (pa_cons pe_str (pa_cons pe_str (pa_cons pe_str (pa_cons pe_str (pa_cons pe_str (pa_cons pe_str pa_nil))))))))))))))
      (pss_cons (ps_setLc (i := 3) (own := [("_law_word", 4), ("_law_truth", 5)]) rfl sc_l_marks.nd rfl rfl (sw_true rfl rfl rfl (by decide +kernel)) (pi_zipK K rfl (by rfl) T.z_zip (pa_cons (pe_op op_cat (pv 2) (pe_lst (pa_cons pe_str pa_nil))) (pa_cons (pv 1) pa_nil))) (blkOk_by (own := [("_law_word", 4), ("_law_truth", 5)]) (N := ["_law_caught_here", "_law_some", "_law_words", "_law_found", "_law_word", "_law_truth"]) (sc := defScope s_l_marks) (by decide +kernel)) (fun _ _ _ _ _ => (pg_tupK K rfl 2 rfl (pgs_cons (pg_name (i := 4) sc_l_marks.nd rfl (Or.inl rfl)) (pgs_cons (pg_name (i := 5) sc_l_marks.nd rfl (Or.inl rfl)) pgs_nil)))) (fun _ _ _ _ _ => (pts_one (pt_val (pv 5)))) (fun _ _ _ _ _ => (pv 4)))
      (pss_cons (ps_if (pt_not (pt_val (pe_callB (call_isXK K rfl) (by rfl) T.z_isinstance (by decide +kernel) (pa_cons (pv 0) (pa_cons (pe_bltn (v := .ty "ValueError") rfl T.z_ValueError (by decide +kernel) rfl) pa_nil))))) (pss_one (ps_expr (pe_bm PySem.F.plainAttrs_list PySem.F.slot_list_append PySem.F.type_list_append mt_append (pv 3) (pa_cons pe_str pa_nil)))) pss_nil)
      (pss_one (ps_ret (pv 3))))))))))), ?_⟩
  try dsimp only [L2.cxOf, L2.Cx.nox, L2.Cx.wish, List.map_cons, List.map_nil]
  obtain ⟨a, dd, y, i, rfl, p0, p1, p2, p3, p4, k⟩ := h
  refine start_to (σ := [some _, none, none, none, none, none]) rfl ?_
  obtain rfl | rfl | rfl : i = 0 ∨ i = 1 ∨ i = 2 := by omega
  · have p1 := p1 rfl
    clear p2 p3 p4
    walk_at "go"
    intro D nD
    refine lcZ_pick [true, false, false, false, false, false, false, false, false, false, false, false, false] ?_ nD ?_ ?_ (by walk_at "g_sq") (by walk_at "g_sq") ?_ ?_
    · rfl
    · decide
    · rfl
    · intro i x c T H2 Z Y hx hc hs hT hz hy
      walk_at "go"
      refine ite_b (fun e => ?_) (fun e => ?_)
      · walk_at "go"
        exact hz e _ (by walk_at "g_same")
      · exact hy e _ (by walk_at "g_same")
    · intro H2 hs hD
      have p2 : H2 a = some (exHO a (.ref T.e_NoAlike) none) := by walk_at "g_lk"
      have hD' : H2 D = some (.lst [.str (PySem.Str.ofString "alike")]) := hD
      clear hD
      walk_at "go"
      exact k _ _ (show _ = some (HO.lst [V.str (PySem.Str.ofString "alike")]) by walk_at "g_lk") (by walk_at "g_same")
  · have p2 := p2 rfl
    have p3 := p3 rfl
    clear p1 p4
    walk_at "go"
    intro D nD
    refine lcZ_pick [false, true, false, false, false, false, false, false, false, false, false, false, false] ?_ nD ?_ ?_ (by walk_at "g_sq") (by walk_at "g_sq") ?_ ?_
    · rfl
    · decide
    · rfl
    · intro i x c T H2 Z Y hx hc hs hT hz hy
      walk_at "go"
      refine ite_b (fun e => ?_) (fun e => ?_)
      · walk_at "go"
        exact hz e _ (by walk_at "g_same")
      · exact hy e _ (by walk_at "g_same")
    · intro H2 hs hD
      have p2 : H2 a = some (exHO a (.ref T.e_NoBattle) (some dd)) := by walk_at "g_lk"
      have p3 : H2 dd = some (.xd [(("field" : Str), y)]) := by walk_at "g_lk"
      have hD' : H2 D = some (.lst [.str (PySem.Str.ofString "battle")]) := hD
      clear hD
      walk_at "go"
      exact k _ _ (show _ = some (HO.lst [V.str (PySem.Str.ofString "battle")]) by walk_at "g_lk") (by walk_at "g_same")
  · have p1 := p4 rfl
    clear p2 p3 p4
    walk_at "go"
    intro D nD
    refine lcZ_pick [false, false, false, false, false, false, false, true, false, false, false, false, false] ?_ nD ?_ ?_ (by walk_at "g_sq") (by walk_at "g_sq") ?_ ?_
    · rfl
    · decide
    · rfl
    · intro i x c T H2 Z Y hx hc hs hT hz hy
      walk_at "go"
      refine ite_b (fun e => ?_) (fun e => ?_)
      · walk_at "go"
        exact hz e _ (by walk_at "g_same")
      · exact hy e _ (by walk_at "g_same")
    · intro H2 hs hD
      have p2 : H2 a = some (exHO a (.ref T.e_NoPlan) none) := by walk_at "g_lk"
      have hD' : H2 D = some (.lst [.str (PySem.Str.ofString "plan")]) := hD
      clear hD
      walk_at "go"
      exact k _ _ (show _ = some (HO.lst [V.str (PySem.Str.ofString "plan")]) by walk_at "g_lk") (by walk_at "g_same")
def sp_l_caught (K : PySem.W.Frag) (e_NoBattle : Addr) (e_NoAlike : Addr) (e_NoPlan : Addr) : Sp := fun vs H Q E => ∃ (way : Int) (v : V) (f s : Int) (ds : List PyData) (q r : Addr) (ms ns : List Int), vs = [.int way, v, .ref q, .ref r] ∧ (0 ≤ way ∧ way < 4) ∧ (Dq H v (batT f s ds)) ∧ ((∀ d ∈ ds, FldIn d)) ∧ (ds.length ≤ 1000) ∧ (H q = some (.lst (ms.map V.int))) ∧ (H r = some (.lst (ns.map V.int))) ∧ (ms.length ≤ 1000 ∧ ns.length ≤ 1000) ∧ ((badB f s ds = none → way ≠ 0 ∧ (alikeB ds = true → way = 1 ∧ ¬ (PlanC f ds.length ms ∧ PlanC s ds.length ns)))) ∧ ∀ (a : Addr) (H' : Hp), ((∀ k, badB f s ds = some k → ∃ d, H' a = some (exHO a (.ref e_NoBattle) (some d)) ∧ H' d = some (.xd [(("field" : Str), .int k)]))) → ((badB f s ds = none → alikeB ds = false → H' a = some (exHO a (.ref e_NoAlike) none))) → ((badB f s ds = none → alikeB ds = true → H' a = some (exHO a (.ref e_NoPlan) none))) → (Same H H') → Q (.ref a) H'
theorem use_l_caught {K : PySem.W.Frag} {e_NoBattle : Addr} {e_NoAlike : Addr} {e_NoPlan : Addr} {H : Hp} {Q : VK} {E : XK} {way : Int} {v : V} {f s : Int} {ds : List PyData} {q r : Addr} {ms ns : List Int} (p0 : 0 ≤ way ∧ way < 4) (p1 : Dq H v (batT f s ds)) (p2 : (∀ d ∈ ds, FldIn d)) (p3 : ds.length ≤ 1000) (p4 : H q = some (.lst (ms.map V.int))) (p5 : H r = some (.lst (ns.map V.int))) (p6 : ms.length ≤ 1000 ∧ ns.length ≤ 1000) (p7 : (badB f s ds = none → way ≠ 0 ∧ (alikeB ds = true → way = 1 ∧ ¬ (PlanC f ds.length ms ∧ PlanC s ds.length ns)))) (k : ∀ (a : Addr) (H' : Hp), ((∀ k, badB f s ds = some k → ∃ d, H' a = some (exHO a (.ref e_NoBattle) (some d)) ∧ H' d = some (.xd [(("field" : Str), .int k)]))) → ((badB f s ds = none → alikeB ds = false → H' a = some (exHO a (.ref e_NoAlike) none))) → ((badB f s ds = none → alikeB ds = true → H' a = some (exHO a (.ref e_NoPlan) none))) → (Same H H') → Q (.ref a) H') : sp_l_caught K e_NoBattle e_NoAlike e_NoPlan [.int way, v, .ref q, .ref r] H Q E := ⟨way, v, f, s, ds, q, r, ms, ns, rfl, p0, p1, p2, p3, p4, p5, p6, p7, k⟩
theorem len_l_caught {K : PySem.W.Frag} {e_NoBattle : Addr} {e_NoAlike : Addr} {e_NoPlan : Addr} (vs : List V) (H : Hp) (Q : VK) (E : XK) (h : sp_l_caught K e_NoBattle e_NoAlike e_NoPlan vs H Q E) : vs.length = ["_law_way", "_law_battle", "_law_one", "_law_other"].length := by
  obtain ⟨_, _, _, _, _, _, _, _, _, rfl, _⟩ := h
  rfl
local macro_rules | `(tactic| walk_at "g_call") => `(tactic| ((with_reducible refine' use_l_caught ?c0 ?c1 ?c2 ?c3 ?c4 ?c5 ?c6 ?c7 ?_); (case c0 => walk_at "g_pre"); (case c1 => walk_at "g_pre"); (case c2 => walk_at "g_pre"); (case c3 => walk_at "g_pre"); (case c4 => walk_at "g_pre"); (case c5 => walk_at "g_pre"); (case c6 => walk_at "g_pre"); (case c7 => walk_at "g_pre"); intros))
theorem ok_l_caught (T : Txt K mg) : FnOk P w K mg base CX0 14 T.a_l_caught T.d_l_caught ["_law_way", "_law_battle", "_law_one", "_law_other"] (sp_l_caught K T.e_NoBattle T.e_NoAlike T.e_NoPlan) := by
  have G_is_alike := ok_is_alike (P := P) (w := w) (base := base) T
  have G_ring_gain := ok_ring_gain (P := P) (w := w) (base := base) T
  have G_counts_table := ok_counts_table (P := P) (w := w) (base := base) T
  have G_counts_worth := ok_counts_worth (P := P) (w := w) (base := base) T
  refine T.F_l_caught.ok sc_l_caught len_l_caught (fun cdv A outer s H vs Q E hr h => ?_)
  refine ⟨_, (pss_cons (ps_set (i := 4) sc_l_caught.nd rfl (Or.inl rfl) pe_non)
      (pss_cons (ps_try_asT (i := 5) rfl rfl rfl sc_l_caught.nd rfl rfl ⟨rfl, by decide, Or.inl T.g_HostError⟩ takes0 (fun W pn xe tk po => (pss_one (ps_if (pt_cmpR op_eq (pv 0) pe_int (nomark _)) (pss_one (ps_expr (pe_callS G_is_alike (hr.mono (by first | decide | omega)) (by rfl) T.g_is_alike T.F_is_alike.kp T.b_is_alike (fun σ => passAt tk σ) (pa_cons (pv 1) pa_nil)))) (pss_one (ps_if (pt_cmpR op_eq (pv 0) pe_int (nomark _)) (pss_one (ps_expr (pe_callS G_ring_gain (hr.mono (by first | decide | omega)) (by rfl) T.g_ring_gain T.F_ring_gain.kp T.b_ring_gain (fun σ => passAt tk σ) (pa_cons (pv 1) (pa_cons (pv 2) (pa_cons (pv 3) pa_nil)))))) (pss_one (ps_if (pt_cmpR op_eq (pv 0) pe_int (nomark _)) (pss_one (ps_expr (pe_callS G_counts_table (hr.mono (by first | decide | omega)) (by rfl) T.g_counts_table T.F_counts_table.kp T.b_counts_table (fun σ => passAt tk σ) (pa_cons (pv 1) pa_nil)))) (pss_one (ps_expr (pe_callS G_counts_worth (hr.mono (by first | decide | omega)) (by rfl) T.g_counts_worth T.F_counts_worth.kp T.b_counts_worth (fun σ => passAt tk σ) (pa_cons (pv 1) pa_nil))))))))))) (fun a oe pn => (pss_one (ps_set (i := 4) sc_l_caught.nd rfl (Or.inl rfl) (pv 5)))))
      (pss_one (ps_ret (pv 4))))), ?_⟩
  try dsimp only [L2.cxOf, L2.Cx.nox, L2.Cx.wish, List.map_cons, List.map_nil]
  obtain ⟨way, v, f, s, ds, q, r, ms, ns, rfl, p0, p1, p2, p3, p4, p5, p6, p7, k⟩ := h
  refine start_to (σ := [some _, some _, some _, some _, none, none]) rfl ?_
  obtain rfl | rfl | rfl | rfl : way = 0 ∨ way = 1 ∨ way = 2 ∨ way = 3 := by omega
  · have ng : ¬ badB f s ds = none := fun z => (p7 z).1 rfl
    walk_at "go"
    rename_i kk d H1 e1 e2 e3 s1 a9 n9
    exact k a9 _ (fun k2 hk => ⟨d, upd_same, by rw [e1] at hk; cases hk; exact lk_new n9 e3⟩) (fun z => absurd z ng) (fun z => absurd z ng) (s1.trans (Same.new n9))
  · have ng : badB f s ds = none ∧ alikeB ds = true → ¬ (PlanC f ds.length ms ∧ PlanC s ds.length ns) := fun z => ((p7 z.1).2 z.2).2
    walk_at "go"
    refine ⟨fun kk d H1 e1 e2 e3 s1 => ?_, fun e1 e2 H1 s1 => ?_, fun e1 e2 H1 s1 => ?_⟩
    · walk_at "go"
      rename_i a9 n9
      exact k a9 _ (fun k2 hk => ⟨d, upd_same, by rw [e1] at hk; cases hk; exact lk_new n9 e3⟩) (fun z => by rw [e1] at z; cases z) (fun z => by rw [e1] at z; cases z) (s1.trans (Same.new n9))
    · walk_at "go"
      rename_i a9 n9
      exact k a9 _ (fun k2 hk => by rw [e1] at hk; cases hk) (fun _ _ => upd_same) (fun _ z => by rw [e2] at z; cases z) (s1.trans (Same.new n9))
    · walk_at "go"
      rename_i a9 n9
      exact k a9 _ (fun k2 hk => by rw [e1] at hk; cases hk) (fun _ z => by rw [e2] at z; cases z) (fun _ _ => upd_same) (s1.trans (Same.new n9))
  · have ng : ¬ (badB f s ds = none ∧ alikeB ds = true) := fun z => absurd ((p7 z.1).2 z.2).1 (by decide)
    walk_at "go"
    refine ⟨fun kk d H1 e1 e2 e3 s1 => ?_, fun e1 e2 H1 s1 => ?_⟩
    · walk_at "go"
      rename_i a9 n9
      exact k a9 _ (fun k2 hk => ⟨d, upd_same, by rw [e1] at hk; cases hk; exact lk_new n9 e3⟩) (fun z => by rw [e1] at z; cases z) (fun z => by rw [e1] at z; cases z) (s1.trans (Same.new n9))
    · walk_at "go"
      rename_i a9 n9
      exact k a9 _ (fun k2 hk => by rw [e1] at hk; cases hk) (fun _ _ => upd_same) (fun _ z => by rw [e2] at z; cases z) (s1.trans (Same.new n9))
  · have ng : ¬ (badB f s ds = none ∧ alikeB ds = true) := fun z => absurd ((p7 z.1).2 z.2).1 (by decide)
    walk_at "go"
    refine ⟨fun kk d H1 e1 e2 e3 s1 => ?_, fun e1 e2 H1 s1 => ?_⟩
    · walk_at "go"
      rename_i a9 n9
      exact k a9 _ (fun k2 hk => ⟨d, upd_same, by rw [e1] at hk; cases hk; exact lk_new n9 e3⟩) (fun z => by rw [e1] at z; cases z) (fun z => by rw [e1] at z; cases z) (s1.trans (Same.new n9))
    · walk_at "go"
      rename_i a9 n9
      exact k a9 _ (fun k2 hk => by rw [e1] at hk; cases hk) (fun _ _ => upd_same) (fun _ z => by rw [e2] at z; cases z) (s1.trans (Same.new n9))
def sp_l_said (K : PySem.W.Frag) : Sp := fun vs H Q E => ∃ (v : V) (f s : Int) (fs : List Fld) (b : Bool), vs = [v, .bl b] ∧ (Dq H v (batD f s fs)) ∧ (BatOk f s fs) ∧ (alikeB (fs.map fldD) = b) ∧ ∀ (H' : Hp), (Same H H') → Q (.bl true) H'
theorem use_l_said {K : PySem.W.Frag} {H : Hp} {Q : VK} {E : XK} {v : V} {f s : Int} {fs : List Fld} {b : Bool} (p0 : Dq H v (batD f s fs)) (p1 : BatOk f s fs) (p2 : alikeB (fs.map fldD) = b) (k : ∀ (H' : Hp), (Same H H') → Q (.bl true) H') : sp_l_said K [v, .bl b] H Q E := ⟨v, f, s, fs, b, rfl, p0, p1, p2, k⟩
theorem len_l_said {K : PySem.W.Frag} (vs : List V) (H : Hp) (Q : VK) (E : XK) (h : sp_l_said K vs H Q E) : vs.length = ["_law_battle", "_law_due"].length := by
  obtain ⟨_, _, _, _, _, rfl, _⟩ := h
  rfl
local macro_rules | `(tactic| walk_at "g_call") => `(tactic| ((with_reducible refine' use_l_said ?c0 ?c1 ?c2 ?_); (case c0 => walk_at "g_pre"); (case c1 => walk_at "g_pre"); (case c2 => walk_at "g_pre"); intros))
theorem ok_l_said (T : Txt K mg) : FnOk P w K mg base CX0 15 T.a_l_said T.d_l_said ["_law_battle", "_law_due"] (sp_l_said K) := by
  have G_is_alike := ok_is_alike (P := P) (w := w) (base := base) T
  have G_l_copy := ok_l_copy (P := P) (w := w) (base := base) T
  have G_l_marks := ok_l_marks (P := P) (w := w) (base := base) T
  have G_l_caught := ok_l_caught (P := P) (w := w) (base := base) T
  refine T.F_l_said.ok sc_l_said len_l_said (fun cdv A outer s H vs Q E hr h => ?_)
  refine ⟨_, (pss_cons (ps_set (i := 2) sc_l_said.nd rfl (Or.inl rfl) (pe_tup (pa_cons (pe_ix (ix_tupK K rfl) (pv 0) pe_int (fun _ _ => rfl)) (pa_cons (pe_ix (ix_tupK K rfl) (pv 0) pe_int (fun _ _ => rfl)) (pa_cons (pe_lc (own := [("_law_field_here", 8)]) rfl sc_l_said.nd (pi_listK K rfl (pe_ix (ix_tupK K rfl) (pv 0) pe_int (fun _ _ => rfl))) (blkOk_by (own := [("_law_field_here", 8)]) (N := ["_law_battle", "_law_due", "_law_handed", "_law_found", "_law_plans", "_law_some", "_law_way", "_law_one", "_law_field_here"]) (sc := defScope s_l_said) (by decide +kernel)) (fun _ _ _ _ _ => (pg_name (i := 8) sc_l_said.nd rfl (Or.inl rfl))) (fun _ _ _ _ _ => pts_nil) (fun _ _ _ _ _ => (pe_call G_l_copy (hr.mono (by first | decide | omega)) (by rfl) T.g_l_copy T.F_l_copy.kp T.b_l_copy .nil pass0 (pa_cons (pv 8) pa_nil)))) pa_nil)))))
      (pss_cons (ps_set (i := 3) sc_l_said.nd rfl (Or.inl rfl) (pe_call G_is_alike (hr.mono (by first | decide | omega)) (by rfl) T.g_is_alike T.F_is_alike.kp T.b_is_alike .nil passL (pa_cons (pv 2) pa_nil)))
      (pss_cons (ps_if (PW.pt (pw_or (pt_not (pt_val (pe_callB (call_isXK K rfl) (by rfl) T.z_isinstance (by decide +kernel) (pa_cons (pv 3) (pa_cons (pe_bltn (v := .ty "bool") rfl T.z_bool (by decide +kernel) rfl) pa_nil))))) (pw_or (pt_cmpR op_ne (pv 3) (pv 1) (nomark _)) (pw_or1 (pt_cmpR (op_neDK K rfl hr.units) (pv 2) (pv 0) (nomark _)))))) (pss_one (ps_ret pe_bl)) pss_nil)
      (pss_cons (ps_set (i := 4) sc_l_said.nd rfl (Or.inl rfl) (pe_lst (pa_cons (pe_op op_cat (pe_lst (pa_cons (pe_ix (ix_tupK K rfl) (pv 0) pe_int (fun _ _ => rfl)) pa_nil)) (pe_op op_rep (pe_lst (pa_cons pe_int pa_nil)) (pe_op op_sub (pe_callB (call_lenK K rfl) (by rfl) T.z_len (by decide +kernel) (pa_cons (pe_ix (ix_tupK K rfl) (pv 0) pe_int (fun _ _ => rfl)) pa_nil)) pe_int))) (pa_cons (pe_op op_cat (pe_lst (pa_cons (pe_ix (ix_tupK K rfl) (pv 0) pe_int (fun _ _ => rfl)) pa_nil)) (pe_op op_rep (pe_lst (pa_cons pe_int pa_nil)) (pe_op op_sub (pe_callB (call_lenK K rfl) (by rfl) T.z_len (by decide +kernel) (pa_cons (pe_ix (ix_tupK K rfl) (pv 0) pe_int (fun _ _ => rfl)) pa_nil)) pe_int))) pa_nil))))
      (pss_cons (ps_if (pt_val (pv 1)) (pss_cons (ps_for PassesOwn.never rfl (pi_listK K rfl (pe_lst (pa_cons (pe_lst (pa_cons (pe_ix (ix_listK K rfl) (pv 4) pe_int (fun _ _ => rfl)) (pa_cons (pe_op op_cat (pe_ix (ix_listK K rfl) (pv 4) pe_int (fun _ _ => rfl)) (pe_lst (pa_cons pe_int pa_nil))) pa_nil))) (pa_cons (pe_lst (pa_cons (pe_op op_cat (pe_lst (pa_cons (pe_un un_neg pe_int) pa_nil)) (pe_slice (sl_listK K rfl) (pe_ix (ix_listK K rfl) (pv 4) pe_int (fun _ _ => rfl)) (po_some pe_int) po_none)) (pa_cons (pe_ix (ix_listK K rfl) (pv 4) pe_int (fun _ _ => rfl)) pa_nil))) (pa_cons (pe_lst (pa_cons (pe_lst pa_nil) (pa_cons (pe_ix (ix_listK K rfl) (pv 4) pe_int (fun _ _ => rfl)) pa_nil))) pa_nil))))) (pg_name (i := 5) sc_l_said.nd rfl (Or.inl rfl)) (pss_one (ps_if (pt_cmpR (op_neDK K rfl hr.units) (pe_call G_l_marks (hr.mono (by first | decide | omega)) (by rfl) T.g_l_marks T.F_l_marks.kp T.b_l_marks .nil pass0 (pa_cons (pe_call G_l_caught (hr.mono (by first | decide | omega)) (by rfl) T.g_l_caught T.F_l_caught.kp T.b_l_caught .nil pass0 (pa_cons pe_int (pa_cons (pv 2) (pa_cons (pe_ix (ix_listK K rfl) (pv 5) pe_int (fun _ _ => rfl)) (pa_cons (pe_ix (ix_listK K rfl) (pv 5) pe_int (fun _ _ => rfl)) pa_nil))))) pa_nil)) (pe_lst (pa_cons pe_str pa_nil)) (nomark _)) (pss_one (ps_ret pe_bl)) pss_nil)))
      (pss_one (ps_ret pe_bl))) pss_nil)
      (pss_cons (ps_for PassesOwn.never rfl (pi_range2 (by rfl) T.z_range (pa_cons pe_int (pa_cons pe_int pa_nil))) (pg_name (i := 6) sc_l_said.nd rfl (Or.inl rfl)) (pss_one (ps_for PassesOwn.never rfl (pi_listK K rfl (pe_lst (pa_cons (pe_ix (ix_listK K rfl) (pv 4) pe_int (fun _ _ => rfl)) (pa_cons (pe_lst (pa_cons (pe_un un_neg pe_int) pa_nil)) pa_nil)))) (pg_name (i := 7) sc_l_said.nd rfl (Or.inl rfl)) (pss_one (ps_if (PW.pt (pw_or (pt_cmpR (op_neDK K rfl hr.units) (pe_call G_l_marks (hr.mono (by first | decide | omega)) (by rfl) T.g_l_marks T.F_l_marks.kp T.b_l_marks .nil pass0 (pa_cons (pe_call G_l_caught (hr.mono (by first | decide | omega)) (by rfl) T.g_l_caught T.F_l_caught.kp T.b_l_caught .nil pass0 (pa_cons (pv 6) (pa_cons (pv 2) (pa_cons (pv 7) (pa_cons (pe_ix (ix_listK K rfl) (pv 4) pe_int (fun _ _ => rfl)) pa_nil))))) pa_nil)) (pe_lst (pa_cons pe_str pa_nil)) (nomark _)) (pw_or1 (pt_cmpR (op_neDK K rfl hr.units) (pv 2) (pv 0) (nomark _))))) (pss_one (ps_ret pe_bl)) pss_nil)))))
      (pss_one (ps_ret pe_bl)))))))), ?_⟩
  try dsimp only [L2.cxOf, L2.Cx.nox, L2.Cx.wish, List.map_cons, List.map_nil]
  obtain ⟨v, f, s, fs, b, rfl, p0, p1, p2, k⟩ := h
  refine start_to (σ := [some _, some _, none, none, none, none, none, none, none]) rfl ?_
  obtain ⟨a, p, xs, rfl, h1, h2, h3⟩ := bat_inv p0
  have hl : xs.length = fs.length := by rw [h3.len, List.length_map]
  have hn := p1.ne
  have hf := p1.hf
  have hs := p1.hs
  have f10 : f ≤ 10 ∧ s ≤ 10 := by omega
  walk_at "goS"
  refine i_seq ?_
  walk_at "goS"
  intro D nD
  refine lcL_own (xs := xs) (fun i => ((fs.map fldD)[i]?).getD .none) nD (by omega) (SqL.of h2) ?_ ?_
  · intro i x H2 Z Y hx s2 hz
    obtain ⟨fl, e1, e2⟩ := fld_at h3 hx
    have e2' := e2.same s2
    have fo := p1.at e1
    walk_at "go"
    rename_i w S H3 o1 o2
    refine hz w S H3 ?_ o2
    rw [List.getElem?_map, e1]
    exact o1
  · intro S H1 o1 s1
    have l2 : xs.length = (fs.map fldD).length := by rw [hl, List.length_map]
    rw [l2, rng_get] at o1
    have dF := o1.dq
    walk_at "goS"
    rename_i hA nA
    have dH : Dq (upd H1 hA (.tup [.int f, .int s, .ref D])) (.ref hA) (batD f s fs) := .tup upd_same (.cons (.int _) (.cons (.int _) (.cons (dF.same (Same.new nA)) .nil)))
    have s01 := s1.trans (Same.new (o := .tup [.int f, .int s, .ref D]) nA)
    clear o1 s1 nA nD dF
    generalize upd H1 hA (.tup [.int f, .int s, .ref D]) = H2 at *
    have dB2 := p0.same s01
    have h12 := s01 _ _ h1
    have h22 := s01 _ _ h2
    have gd : badB f s (fs.map fldD) = none := bad_ok.mpr p1
    have fin := bat_in p1
    have fl5 : (fs.map fldD).length ≤ 1000 := by rw [List.length_map]; omega
    clear p0 h1 h2 h3
    refine i_seq ?_
    walk_at "goS"
    refine use_is_alike (ds := fs.map fldD) dH fin fl5 (fun _ H3 s3 => ?_) (fun z => absurd gd z)
    rw [p2]
    have dH3 := dH.same s3
    have dB3 := dB2.same s3
    have h13 := s3 _ _ h12
    have h23 := s3 _ _ h22
    clear dH dB2 h12 h22
    have pl1 : ¬ PlanC f (fs.map fldD).length [] := fun z => by have := z.1; simp at this; omega
    have pl2 : ¬ PlanC f (fs.map fldD).length (-1 :: List.replicate (fs.length - 1) 0) := fun z => by have := z.2.2 (-1) List.mem_cons_self; omega
    have pl3 : ¬ PlanC s (fs.map fldD).length (s :: List.replicate (fs.length - 1) 0 ++ [0]) := fun z => by
      have := z.1
      rw [List.length_map] at this
      simp at this
      omega
    walk_at "goS"
    refine i_seq ?_
    cases b with
    | true =>
      walk_at "goS"
      refine i_seq ?_
      walk_at "goS"
      rename_i A1 n1 A2 n2 A3 n3 P1 n4 A5 n5 A6 n6 A7 n7 P2 n8 L n9
      have eL : ((xs.length : Int) - 1).toNat = fs.length - 1 := by omega
      generalize hG : upd _ L _ = G
      have sG : Same H3 G := by rw [← hG]; walk_at "g_same"
      have jL : G L = some (.lst [.ref P1, .ref P2]) := by rw [← hG]; walk_at "g_lk"
      have j1 : G P1 = some (.lst ((f :: List.replicate (fs.length - 1) 0).map V.int)) := by
        rw [← hG, ← eL]
        show _ = some (HO.lst ([V.int f] ++ List.map V.int (List.replicate ((xs.length : Int) - 1).toNat 0)))
        walk_at "g_lk"
      have j2 : G P2 = some (.lst ((s :: List.replicate (fs.length - 1) 0).map V.int)) := by
        rw [← hG, ← eL]
        show _ = some (HO.lst ([V.int s] ++ List.map V.int (List.replicate ((xs.length : Int) - 1).toNat 0)))
        walk_at "g_lk"
      have dG := dH3.same sG
      clear hG n1 n2 n3 n4 n5 n6 n7 n8 n9
      walk_at "goS"
      refine i_seq ?_
      walk_at "goS"
      refine i_seq ?_
      walk_at "go"
      rename_i z1 m1 z2 m2 S1 m3 z3 m4 z4 m5 z5 m6 S2 m7 z6 m8 S3 m9 LL m10
      generalize hG : upd _ LL _ = G2
      have sG2 : Same G G2 := by rw [← hG]; walk_at "g_same"
      have jLL : G2 LL = some (.lst [.ref S1, .ref S2, .ref S3]) := by rw [← hG]; walk_at "g_lk"
      have k1 : G2 S1 = some (.lst [.ref P1, .ref z2]) := by rw [← hG]; walk_at "g_lk"
      have k2 : G2 S2 = some (.lst [.ref z5, .ref P2]) := by rw [← hG]; walk_at "g_lk"
      have k3 : G2 S3 = some (.lst [.ref z6, .ref P2]) := by rw [← hG]; walk_at "g_lk"
      have k4 : G2 z2 = some (.lst ((s :: List.replicate (fs.length - 1) 0 ++ [0]).map V.int)) := by rw [← hG]; walk_at "g_lk"
      have k5 : G2 z5 = some (.lst ((-1 :: List.replicate (fs.length - 1) 0).map V.int)) := by
        rw [← hG]
        show _ = some (HO.lst ([V.int (-1)] ++ List.map V.int (List.drop (Int.toNat 1) (f :: List.replicate (fs.length - 1) 0))))
        walk_at "g_lk"
      have k6 : G2 z6 = some (.lst (([] : List Int).map V.int)) := by
        rw [← hG]
        show _ = some (HO.lst [])
        walk_at "g_lk"
      have k7 := sG2 _ _ j1
      have k8 := sG2 _ _ j2
      have dG2 := dG.same sG2
      clear hG m1 m2 m3 m4 m5 m6 m7 m8 m9 m10
      have each : ∀ x ∈ [V.ref S1, V.ref S2, V.ref S3], ∃ (S q r : Addr) (ms ns : List Int), x = .ref S ∧ G2 S = some (.lst [.ref q, .ref r]) ∧ G2 q = some (.lst (ms.map V.int)) ∧ G2 r = some (.lst (ns.map V.int)) ∧ (ms.length ≤ 1000 ∧ ns.length ≤ 1000) ∧ ¬ (PlanC f (fs.map fldD).length ms ∧ PlanC s (fs.map fldD).length ns) := by
        intro x hx
        simp only [List.mem_cons, List.not_mem_nil, or_false] at hx
        rcases hx with rfl | rfl | rfl
        · exact ⟨S1, P1, z2, _, _, rfl, k1, k7, k4, by simp; omega, fun z => pl3 z.2⟩
        · exact ⟨S2, z5, P2, _, _, rfl, k2, k5, k8, by simp; omega, fun z => pl2 z.1⟩
        · exact ⟨S3, z6, P2, _, _, rfl, k3, k6, k8, by simp; omega, fun z => pl1 z.1⟩
      refine forL (xs := [V.ref S1, V.ref S2, V.ref S3]) (fun i σ H5 => ∃ y5 : Option V, σ = [some (.ref a), some (.bl true), some (.ref hA), some (.bl true), some (.ref L), y5, none, none, none] ∧ Same G2 H5) ⟨_, rfl, Same.refl _⟩ ?_ ?_ ?_
      · rintro i σ H5 _ ⟨y5, rfl, g⟩
        exact SqL.of (g _ _ jLL)
      · rintro σ H5 ⟨y5, rfl, g⟩
        walk_at "go"
        exact k _ ((((s01.trans s3).trans sG).trans sG2).trans g)
      · rintro i x σ H5 hx ⟨y5, rfl, g⟩
        obtain ⟨S, q, r, ms, ns, rfl, e1, e2, e3, e4, e5⟩ := each x (List.mem_of_getElem? hx)
        have e1' := g _ _ e1
        have e2' := g _ _ e2
        have e3' := g _ _ e3
        have dG5 : Dq H5 (.ref hA) (batT f s (fs.map fldD)) := dG2.same g
        clear k1 k2 k3 k4 k5 k6 k7 k8
        walk_at "go"
        refine use_l_caught (by omega) dG5 fin fl5 e2' e3' e4 (fun _ => ⟨by decide, fun _ => ⟨rfl, e5⟩⟩) fun a9 H6 y1 y2 y3 y4 => ?_
        have m9 := y3 gd p2
        walk_at "go"
        refine use_l_marks (dd := a9) (y := .non) (i := 2) (by omega) (fun z => by cases z) (fun z => by cases z) (fun z => by cases z) (fun _ => m9) fun b9 H7 h7 s7 => ?_
        have h7' : H7 b9 = some (.lst [.str (PySem.Str.ofString "plan")]) := h7
        walk_at "go"
        rename_i l9 n9
        exact ⟨_, rfl, ((g.trans y4).trans s7).trans (Same.new n9)⟩
    | false =>
      walk_at "goS"
      refine i_seq ?_
      walk_at "goS"
      rename_i A1 n1 A2 n2 A3 n3 P1 n4 A5 n5 A6 n6 A7 n7 P2 n8 L n9
      have eL : ((xs.length : Int) - 1).toNat = fs.length - 1 := by omega
      generalize hG : upd _ L _ = G
      have sG : Same H3 G := by rw [← hG]; walk_at "g_same"
      have jL : G L = some (.lst [.ref P1, .ref P2]) := by rw [← hG]; walk_at "g_lk"
      have j1 : G P1 = some (.lst ((f :: List.replicate (fs.length - 1) 0).map V.int)) := by
        rw [← hG, ← eL]
        show _ = some (HO.lst ([V.int f] ++ List.map V.int (List.replicate ((xs.length : Int) - 1).toNat 0)))
        walk_at "g_lk"
      have j2 : G P2 = some (.lst ((s :: List.replicate (fs.length - 1) 0).map V.int)) := by
        rw [← hG, ← eL]
        show _ = some (HO.lst ([V.int s] ++ List.map V.int (List.replicate ((xs.length : Int) - 1).toNat 0)))
        walk_at "g_lk"
      have dG := dH3.same sG
      have bG := dB3.same sG
      clear hG n1 n2 n3 n4 n5 n6 n7 n8 n9
      walk_at "goS"
      refine i_seq ?_
      walk_at "goS"
      refine i_seq ?_
      walk_at "go"
      refine forR (fun i σ H5 => ∃ y6 y7 : Option V, σ = [some (.ref a), some (.bl false), some (.ref hA), some (.bl false), some (.ref L), none, y6, y7, none] ∧ Same G H5) ⟨_, _, rfl, Same.refl _⟩ ?_ ?_
      · rintro σ H5 ⟨y6, y7, rfl, g⟩
        walk_at "go"
        exact k _ (((s01.trans s3).trans sG).trans g)
      · rintro i σ H5 hi ⟨y6, y7, rfl, g⟩
        have hi3 : i < 3 := by omega
        have jL5 := g _ _ jL
        walk_at "go"
        rename_i z1 m1 LL m2
        have sG2 : Same H5 (upd (upd H5 z1 (.lst [.int (-1)])) LL (.lst [.ref P1, .ref z1])) := by walk_at "g_same"
        have jLL : (upd (upd H5 z1 (.lst [.int (-1)])) LL (.lst [.ref P1, .ref z1])) LL = some (.lst [.ref P1, .ref z1]) := upd_same
        have k4 : (upd (upd H5 z1 (.lst [.int (-1)])) LL (.lst [.ref P1, .ref z1])) z1 = some (.lst ([(-1 : Int)].map V.int)) := lk_new m2 upd_same
        have k5 := sG2 _ _ (g _ _ j1)
        have gg := g.trans sG2
        clear m1 m2 sG2
        generalize upd (upd H5 z1 (.lst [.int (-1)])) LL (.lst [.ref P1, .ref z1]) = G2 at *
        have each : ∀ x ∈ [V.ref P1, V.ref z1], ∃ (q : Addr) (ms : List Int), x = .ref q ∧ G2 q = some (.lst (ms.map V.int)) ∧ ms.length ≤ 1000 := by
          intro x hx
          simp only [List.mem_cons, List.not_mem_nil, or_false] at hx
          rcases hx with rfl | rfl
          · exact ⟨P1, _, rfl, k5, by simp; omega⟩
          · exact ⟨z1, _, rfl, k4, by simp⟩
        refine forL (xs := [V.ref P1, V.ref z1]) (fun j σ H6 => ∃ y7 : Option V, σ = [some (.ref a), some (.bl false), some (.ref hA), some (.bl false), some (.ref L), none, some (.int (1 + (i : Int))), y7, none] ∧ Same G2 H6) ⟨_, rfl, Same.refl _⟩ ?_ ?_ ?_
        · rintro j σ H6 _ ⟨y7, rfl, g2⟩
          exact SqL.of (g2 _ _ jLL)
        · rintro σ H6 ⟨y7, rfl, g2⟩
          exact ⟨_, _, rfl, gg.trans g2⟩
        · rintro j x σ H6 hx ⟨y7, rfl, g2⟩
          obtain ⟨q, ms, rfl, e1, e2⟩ := each x (List.mem_of_getElem? hx)
          have e1' := g2 _ _ e1
          have g6 := gg.trans g2
          have e3' := g6 _ _ j2
          have jL6 := g6 _ _ jL
          have dG6 : Dq H6 (.ref hA) (batT f s (fs.map fldD)) := dG.same g6
          have e4 : ms.length ≤ 1000 ∧ (s :: List.replicate (fs.length - 1) 0).length ≤ 1000 := ⟨e2, by simp; omega⟩
          clear k4 k5 jL5
          walk_at "go"
          refine use_l_caught (by omega) dG6 fin fl5 e1' e3' e4 (fun _ => ⟨by omega, fun z => by rw [p2] at z; cases z⟩) fun a9 H7 y1 y2 y3 y4 => ?_
          have m9 := y2 gd p2
          walk_at "go"
          refine use_l_marks (dd := a9) (y := .non) (i := 0) (by omega) (fun _ => m9) (fun z => by cases z) (fun z => by cases z) (fun z => by cases z) fun b9 H8 h8 s8 => ?_
          have h8' : H8 b9 = some (.lst [.str (PySem.Str.ofString "alike")]) := h8
          have s68 := y4.trans s8
          walk_at "go"
          rename_i l9 n9
          have s69 := s68.trans (Same.new (o := .lst [.str (PySem.Str.ofString "alike")]) n9)
          have dG9 := (dG.same g6).same s69
          have bG9 := (bG.same g6).same s69
          refine i_neDq dG9 bG9 (shaped_bat _ _ _) ?_
          walk_at "go"
          exact ⟨_, rfl, g2.trans s69⟩
/-- numbers that are not too great -/
def FldW : Fld → Prop
  | .more w t => w.natAbs < 2 ^ 120 ∧ t.natAbs < 2 ^ 120
  | .lead w l => w.natAbs < 2 ^ 120 ∧ l.natAbs < 2 ^ 120
  | .tab rows => ∀ r ∈ rows, ∀ x ∈ r, x.natAbs < 2 ^ 120
theorem sm_w {x : Int} (h : Sm x) : x.natAbs < 2 ^ 111 := by
  unfold Sm at h
  omega
theorem fldw_sm {fl : Fld} (h : FldSm fl) : FldW fl := by
  cases fl with
  | more w t => exact ⟨Nat.lt_trans (sm_w h.1) (by decide), Nat.lt_trans (sm_w h.2) (by decide)⟩
  | lead w t => exact ⟨Nat.lt_trans (sm_w h.1) (by decide), Nat.lt_trans (sm_w h.2) (by decide)⟩
  | tab rows => exact fun r hr x hx => Nat.lt_trans (sm_w (h r hr x hx)) (by decide)
def sp_l_changed (K : PySem.W.Frag) : Sp := fun vs H Q E => ∃ (p c : Addr) (z : Int) (v : V) (fl : Fld) (f s : Int), vs = [.ref p, v, .int f, .int s] ∧ (Pc p c H z) ∧ (z ≤ 900000) ∧ (Dq (hid [p, c] H) v (fldD fl)) ∧ (FldOk f s fl) ∧ (FldSm fl) ∧ ((0 ≤ f ∧ f ≤ 10) ∧ 0 ≤ s ∧ s ≤ 10) ∧ ∀ (w : V) (fl2 : Fld) (G H' : Hp), (Dq G w (fldD fl2)) → (FldOk f s fl2 ∧ FldW fl2) → (fl2 ≠ fl) → (Newly H G) → (Same G H') → (Pc p c H' (z + 6)) → (But2 p c H H') → Q (w) H'
theorem use_l_changed {K : PySem.W.Frag} {H : Hp} {Q : VK} {E : XK} {p c : Addr} {z : Int} {v : V} {fl : Fld} {f s : Int} (p0 : Pc p c H z) (p1 : z ≤ 900000) (p2 : Dq (hid [p, c] H) v (fldD fl)) (p3 : FldOk f s fl) (p4 : FldSm fl) (p5 : (0 ≤ f ∧ f ≤ 10) ∧ 0 ≤ s ∧ s ≤ 10) (k : ∀ (w : V) (fl2 : Fld) (G H' : Hp), (Dq G w (fldD fl2)) → (FldOk f s fl2 ∧ FldW fl2) → (fl2 ≠ fl) → (Newly H G) → (Same G H') → (Pc p c H' (z + 6)) → (But2 p c H H') → Q (w) H') : sp_l_changed K [.ref p, v, .int f, .int s] H Q E := ⟨p, c, z, v, fl, f, s, rfl, p0, p1, p2, p3, p4, p5, k⟩
theorem len_l_changed {K : PySem.W.Frag} (vs : List V) (H : Hp) (Q : VK) (E : XK) (h : sp_l_changed K vs H Q E) : vs.length = ["_law_purse_here", "_law_field_here", "_law_first", "_law_second"].length := by
  obtain ⟨_, _, _, _, _, _, _, rfl, _⟩ := h
  rfl
local macro_rules | `(tactic| walk_at "g_call") => `(tactic| ((with_reducible refine' use_l_changed ?c0 ?c1 ?c2 ?c3 ?c4 ?c5 ?_); (case c0 => walk_at "g_pre"); (case c1 => walk_at "g_pre"); (case c2 => walk_at "g_pre"); (case c3 => walk_at "g_pre"); (case c4 => walk_at "g_pre"); (case c5 => walk_at "g_pre"); intros))
theorem ok_l_changed (T : Txt K mg) : FnOk P w K mg base CX0 2 T.a_l_changed T.d_l_changed ["_law_purse_here", "_law_field_here", "_law_first", "_law_second"] (sp_l_changed K) := by
  have G_l_draw := ok_l_draw (P := P) (w := w) (base := base) T
  refine T.F_l_changed.ok sc_l_changed len_l_changed (fun cdv A outer s H vs Q E hr h => ?_)
  refine ⟨_, (pss_cons (ps_set (i := 4) sc_l_changed.nd rfl (Or.inl rfl) (pe_ix (ix_listK K rfl) (pe_lst (pa_cons pe_int (pa_cons (pe_un un_neg pe_int) pa_nil))) (pe_call G_l_draw (hr.mono (by first | decide | omega)) (by rfl) T.g_l_draw T.F_l_draw.kp T.b_l_draw .nil pass0 (pa_cons (pv 0) (pa_cons pe_int pa_nil))) (fun _ _ => rfl)))
      (pss_cons (ps_if (pt_cmpR op_eq (pe_ix (ix_tupK K rfl) (pv 1) pe_int (fun _ _ => rfl)) pe_str (nomark _)) (pss_cons (ps_setLc (i := 5) (own := [("_law_row", 8)]) rfl sc_l_changed.nd rfl rfl (sw_true rfl rfl rfl (by decide +kernel)) (pi_listK K rfl (pe_ix (ix_tupK K rfl) (pv 1) pe_int (fun _ _ => rfl))) (blkOk_by (own := [("_law_row", 8)]) (N := ["_law_purse_here", "_law_field_here", "_law_first", "_law_second", "_law_step", "_law_rows", "_law_x", "_law_y", "_law_row"]) (sc := defScope s_l_changed) (by decide +kernel)) (fun _ _ _ _ _ => (pg_name (i := 8) sc_l_changed.nd rfl (Or.inl rfl))) (fun _ _ _ _ _ => pts_nil) (fun _ _ _ _ _ => (pe_callTy (call_listK K rfl) (by rfl) T.z_list (by decide +kernel) (pa_cons (pv 8) pa_nil))))
      (pss_cons (ps_set (i := 6) sc_l_changed.nd rfl (Or.inl rfl) (pe_call G_l_draw (hr.mono (by first | decide | omega)) (by rfl) T.g_l_draw T.F_l_draw.kp T.b_l_draw .nil pass0 (pa_cons (pv 0) (pa_cons (pe_op op_add (pv 2) pe_int) pa_nil))))
      (pss_cons (ps_set (i := 7) sc_l_changed.nd rfl (Or.inl rfl) (pe_call G_l_draw (hr.mono (by first | decide | omega)) (by rfl) T.g_l_draw T.F_l_draw.kp T.b_l_draw .nil pass0 (pa_cons (pv 0) (pa_cons (pe_op op_add (pv 3) pe_int) pa_nil))))
      (pss_cons (ps_asg (pe_op op_add (pe_ix (ix_listK K rfl) (pe_ix (ix_listK K rfl) (pv 5) (pv 6) (fun _ _ => rfl)) (pv 7) (fun _ _ => rfl)) (pv 4)) (pg_sub (pe_ix (ix_listK K rfl) (pv 5) (pv 6) (fun _ _ => rfl)) (pv 7) set_list))
      (pss_one (ps_ret (pe_tup (pa_cons pe_str (pa_cons (pv 5) pa_nil))))))))) pss_nil)
      (pss_cons (ps_if (pt_cmpR op_eq (pe_ix (ix_tupK K rfl) (pv 1) pe_int (fun _ _ => rfl)) pe_str (nomark _)) (pss_one (ps_ret (pe_ix (ix_listK K rfl) (pe_lst (pa_cons (pe_tup (pa_cons pe_str (pa_cons (pe_op op_add (pe_ix (ix_tupK K rfl) (pv 1) pe_int (fun _ _ => rfl)) pe_int) (pa_cons (pe_ix (ix_tupK K rfl) (pv 1) pe_int (fun _ _ => rfl)) pa_nil)))) (pa_cons (pe_tup (pa_cons pe_str (pa_cons (pe_ix (ix_tupK K rfl) (pv 1) pe_int (fun _ _ => rfl)) (pa_cons (pe_op op_add (pe_ix (ix_tupK K rfl) (pv 1) pe_int (fun _ _ => rfl)) (pv 4)) pa_nil)))) pa_nil))) (pe_call G_l_draw (hr.mono (by first | decide | omega)) (by rfl) T.g_l_draw T.F_l_draw.kp T.b_l_draw .nil pass0 (pa_cons (pv 0) (pa_cons pe_int pa_nil))) (fun _ _ => rfl)))) pss_nil)
      (pss_cons (ps_if (pt_cmpR op_eq (pe_ix (ix_tupK K rfl) (pv 1) pe_int (fun _ _ => rfl)) (pe_ix (ix_tupK K rfl) (pv 1) pe_int (fun _ _ => rfl)) (nomark _)) (pss_one (ps_ret (pe_ix (ix_listK K rfl) (pe_lst (pa_cons (pe_tup (pa_cons pe_str (pa_cons (pe_ix (ix_tupK K rfl) (pv 1) pe_int (fun _ _ => rfl)) (pa_cons pe_int pa_nil)))) (pa_cons (pe_tup (pa_cons pe_str (pa_cons (pe_ix (ix_tupK K rfl) (pv 1) pe_int (fun _ _ => rfl)) (pa_cons (pe_op op_sub (pe_ix (ix_tupK K rfl) (pv 1) pe_int (fun _ _ => rfl)) pe_int) pa_nil)))) pa_nil))) (pe_call G_l_draw (hr.mono (by first | decide | omega)) (by rfl) T.g_l_draw T.F_l_draw.kp T.b_l_draw .nil pass0 (pa_cons (pv 0) (pa_cons pe_int pa_nil))) (fun _ _ => rfl)))) pss_nil)
      (pss_one (ps_ret (pe_ix (ix_listK K rfl) (pe_lst (pa_cons (pe_tup (pa_cons pe_str (pa_cons (pe_op op_add (pe_ix (ix_tupK K rfl) (pv 1) pe_int (fun _ _ => rfl)) pe_int) (pa_cons (pe_ix (ix_tupK K rfl) (pv 1) pe_int (fun _ _ => rfl)) pa_nil)))) (pa_cons (pe_tup (pa_cons pe_str (pa_cons (pe_ix (ix_tupK K rfl) (pv 1) pe_int (fun _ _ => rfl)) (pa_cons (pe_op op_add (pe_ix (ix_tupK K rfl) (pv 1) pe_int (fun _ _ => rfl)) pe_int) pa_nil)))) pa_nil))) (pe_call G_l_draw (hr.mono (by first | decide | omega)) (by rfl) T.g_l_draw T.F_l_draw.kp T.b_l_draw .nil pass0 (pa_cons (pv 0) (pa_cons pe_int pa_nil))) (fun _ _ => rfl)))))))), ?_⟩
  try dsimp only [L2.cxOf, L2.Cx.nox, L2.Cx.wish, List.map_cons, List.map_nil]
  obtain ⟨p, c, z, v, fl, f, s, rfl, p0, p1, p2, p3, p4, p5, k⟩ := h
  refine start_to (σ := [some _, some _, some _, some _, none, none, none, none, none]) rfl ?_
  have pr := p2.same hid_same
  refine i_seq ?_
  walk_at "goS"
  rename_i r nr d H1 a1 a2 a3 y hy
  have dv : Dq (hid [p, c] H1) v (fldD fl) := (p2.same (hid_new nr)).same (hid_but2 a3)
  have dvr := dv.same hid_same
  have B1 : But2 p c H H1 := by walk_at "g_but2"
  have pick : ∀ (t1 t2 S : Addr) (n1 : H1 t1 = none) (o1 o2 : HO) (n2 : upd H1 t1 o1 t2 = none) (n3 : upd (upd H1 t1 o1) t2 o2 S = none) (d2 : Int) (H2 : Hp) (f1 f2 : Fld), (0 ≤ d2 ∧ d2 < 2) → Pc p c H2 (z + 1 + 1) → But2 p c (upd (upd (upd H1 t1 o1) t2 o2) S (.lst [.ref t1, .ref t2])) H2 →
      (∀ G : Hp, G t1 = some o1 → Dq G (.ref t1) (fldD f1)) → (∀ G : Hp, G t2 = some o2 → Dq G (.ref t2) (fldD f2)) → (FldOk f s f1 ∧ FldW f1) → (FldOk f s f2 ∧ FldW f2) → f1 ≠ fl → f2 ≠ fl → rIxL K (.ref S) (.int d2) H2 Q := by
    intro t1 t2 S n1 o1 o2 n2 n3 d2 H2 f1 f2 e1 e2 e3 e4 e5 e6 e7 e8 e9
    have b9 : But2 p c H H2 := by walk_at "g_but2"
    have n2' : H1 t2 = none := (Same.new n1).free n2
    have n3' : H1 S = none := ((Same.new n1).trans (Same.new n2)).free n3
    have t1H : H t1 = none := Pc.free n1 B1 a2
    have t2H : H t2 = none := Pc.free n2' B1 a2
    have t1p : t1 ≠ p ∧ t1 ≠ c := ⟨a2.ne1 n1, a2.ne2 n1⟩
    have t2p : t2 ≠ p ∧ t2 ≠ c := ⟨a2.ne1 n2', a2.ne2 n2'⟩
    have Sp : S ≠ p ∧ S ≠ c := ⟨a2.ne1 n3', a2.ne2 n3'⟩
    have l1 := e3 _ _ t1p.1 t1p.2 (lk_new n3 (lk_new n2 upd_same))
    have l2 := e3 _ _ t2p.1 t2p.2 (lk_new n3 upd_same)
    have l3 := e3 _ _ Sp.1 Sp.2 upd_same
    obtain rfl | rfl : d2 = 0 ∨ d2 = 1 := by omega
    · exact i_ixL (SqL.of l3) rfl (k _ f1 (fr [] H H2) H2 (e4 _ (fr_lk0 t1H l1)) e6 e8 fr_newly fr_same (e2.mono (by omega)) b9)
    · exact i_ixL (SqL.of l3) rfl (k _ f2 (fr [] H H2) H2 (e5 _ (fr_lk0 t2H l2)) e7 e9 fr_newly fr_same (e2.mono (by omega)) b9)
  cases fl with
  | more w t =>
    obtain ⟨a, rfl, h1⟩ := fld_more dvr
    obtain ⟨q1, q2, q3⟩ := p3
    obtain ⟨q4, q5⟩ := p4
    have q4 := sm_w q4
    have q5 := sm_w q5
    walk_at "go"
    refine ite_d (fun ce => ?_) (fun ce => ?_)
    · walk_at "go"
      rename_i t1 n1 t2 n2 S n3 d2 H2 e1 e2 e3
      exact pick t1 t2 S n1 _ _ n2 n3 d2 H2 (.lead w 0) (.more w (t - 1)) e1 e2 e3 (fun G h => lead_mk h) (fun G h => more_mk h) ⟨q1, by omega, by decide⟩ ⟨⟨q1, by omega, by omega⟩, by omega, by omega⟩ nofun (fun z => by injection z with z1 z2; omega)
    · walk_at "go"
      rename_i t1 n1 t2 n2 S n3 d2 H2 e1 e2 e3
      exact pick t1 t2 S n1 _ _ n2 n3 d2 H2 (.more (w + 1) t) (.more w (t + 1)) e1 e2 e3 (fun G h => more_mk h) (fun G h => more_mk h) ⟨⟨by omega, by omega, by omega⟩, by omega, by omega⟩ ⟨⟨q1, by omega, by omega⟩, by omega, by omega⟩ (fun z => by injection z with z1 z2; omega) (fun z => by injection z with z1 z2; omega)
  | lead w l =>
    obtain ⟨a, rfl, h1⟩ := fld_lead dvr
    have q1 : 1 ≤ w := p3
    obtain ⟨q4, q5⟩ := p4
    have q4 := sm_w q4
    have q5 := sm_w q5
    walk_at "go"
    rename_i t1 n1 t2 n2 S n3 d2 H2 e1 e2 e3
    exact pick t1 t2 S n1 _ _ n2 n3 d2 H2 (.lead (w + 1) l) (.lead w (l + y)) e1 e2 e3 (fun G h => lead_mk h) (fun G h => lead_mk h) ⟨show 1 ≤ w + 1 by omega, by omega, by omega⟩ ⟨q1, by omega, by omega⟩ (fun z => by injection z with z1 z2; omega) (fun z => by injection z with z1 z2; omega)
  | tab rows =>
    obtain ⟨a, q, xs, rfl, h1, h2, h3⟩ := fld_tab dvr
    obtain ⟨g1, g2⟩ := p3
    have hl : xs.length = rows.length := by rw [h3.len, List.length_map]
    walk_at "go"
    intro D nD
    refine lcL_2d (xs := xs) (fun i => (rows[i]?).getD []) nD (by omega) (SqL.of h2) ?_ ?_
    · intro i x H2 Z Y hx s2 hz
      obtain ⟨r', q', f1, rfl, f2⟩ := row_at h3 hx
      have f2' := s2 _ _ f2
      have rl := g2 r' (List.mem_of_getElem? f1)
      walk_at "go"
      rename_i q9 nq9
      exact hz q9 _ (by rw [f1]; exact upd_same) nq9 (Same.new nq9)
    · intro qs H2 own nw s2
      rw [hl, rng_map _ id rows (fun i x e => by rw [e]; rfl), List.map_id] at own
      have a22 := a2.same s2
      have Dp : D ≠ p ∧ D ≠ c := ⟨a2.ne1 nD, a2.ne2 nD⟩
      have qp : ∀ q ∈ qs, q ≠ p ∧ q ≠ c := fun q hq => ⟨a2.ne1 (nw q hq), a2.ne2 (nw q hq)⟩
      have ql := own.len
      have B2 : But2 p c H H2 := by walk_at "g_but2"
      walk_at "goS"
      refine i_seq ?_
      walk_at "goS"
      refine i_seq ?_
      walk_at "goS"
      rename_i x1 H3 e1 e2 e3 y1 H4 e4 e5 e6
      have ownT := own.top
      have own4 : Own2 H4 D qs rows := ⟨e6 _ _ Dp.1 Dp.2 (e3 _ _ Dp.1 Dp.2 own.top), own.len, fun k q r a b => e6 _ _ (qp q (List.mem_of_getElem? a)).1 (qp q (List.mem_of_getElem? a)).2 (e3 _ _ (qp q (List.mem_of_getElem? a)).1 (qp q (List.mem_of_getElem? a)).2 (own.row k q r a b)), own.nd, own.off⟩
      obtain ⟨q', f1⟩ : ∃ q', qs[x1.toNat]? = some q' := ⟨qs[x1.toNat]'(by omega), List.getElem?_eq_getElem _⟩
      obtain ⟨r', f2⟩ : ∃ r', rows[x1.toNat]? = some r' := ⟨rows[x1.toNat]'(by omega), List.getElem?_eq_getElem _⟩
      have f4 := own4.row _ q' r' f1 f2
      have f5 := own4.top
      have rl := g2 r' (List.mem_of_getElem? f2)
      have hat : atI (qs.map V.ref) x1 = some (.ref q') := by
        have := atI_nat (α := V) (xs := qs.map V.ref) (j := x1.toNat) (v := .ref q') (by rw [List.getElem?_map, f1]; rfl)
        rwa [show ((x1.toNat : Nat) : Int) = x1 by omega] at this
      refine i_seq ?_
      walk_at "goS"
      rename_i v0 hv0 tp ntp
      have o5 := own4.set f1 (r'.set y1.toNat (v0 + y))
      have qm := List.mem_of_getElem? f1
      have q'p := qp q' qm
      have B4 : But2 p c H H4 := by walk_at "g_but2"
      have nwH : ∀ q ∈ qs, H q = none := fun q hq => Pc.free (nw q hq) B1 a2
      have nDH : H D = none := Pc.free nD B1 a2
      have B5 : But2 p c H (upd H4 q' (.lst ((r'.set y1.toNat (v0 + y)).map V.int))) := fun b o n1 n2 e => by
        rw [upd_ne (fun z => by rw [z, nwH q' qm] at e; cases e)]
        exact B4 b o n1 n2 e
      have k5 : Pc p c (upd H4 q' (.lst ((r'.set y1.toNat (v0 + y)).map V.int))) (z + 1 + 1 + 1) := e5.upd q'p.1 q'p.2
      have tpH : H tp = none := Pc.free ntp B5 k5
      have sT := Same.new (o := .tup [.str (PySem.Str.ofString "table"), .ref D]) ntp
      have o6 := o5.same sT
      have oF : Own2 (fr [] H (upd (upd H4 q' (.lst ((r'.set y1.toNat (v0 + y)).map V.int))) tp (.tup [.str (PySem.Str.ofString "table"), .ref D]))) D qs (rows.set x1.toNat (r'.set y1.toNat (v0 + y))) := ⟨fr_lk0 nDH o6.top, o6.len, fun k q r a b => fr_lk0 (nwH q (List.mem_of_getElem? a)) (o6.row k q r a b), o6.nd, o6.off⟩
      have sv0 := p4 r' (List.mem_of_getElem? f2) v0 (List.mem_of_getElem? hv0)
      have w0 := sm_w sv0
      refine k (.ref tp) (.tab (rows.set x1.toNat (r'.set y1.toNat (v0 + y)))) _ _ (.tup (fr_lk0 tpH upd_same) (.cons (.str _) (.cons oF.dq .nil))) ⟨⟨by rw [List.length_set]; exact g1, fun r hr => ?_⟩, fun r hr x hx => ?_⟩ (fun zz => ?_) fr_newly fr_same ((k5.same sT).mono (by omega)) (fun b o n1 n2 e => sT _ _ (B5 b o n1 n2 e))
      · rcases List.mem_or_eq_of_mem_set hr with e | e
        · exact g2 r e
        · rw [e, List.length_set]
          exact rl
      · rcases List.mem_or_eq_of_mem_set hr with e | e
        · exact Nat.lt_trans (sm_w (p4 r e x hx)) (by decide)
        · rw [e] at hx
          rcases List.mem_or_eq_of_mem_set hx with e9 | e9
          · exact Nat.lt_trans (sm_w (p4 r' (List.mem_of_getElem? f2) x e9)) (by decide)
          · rw [e9]
            omega
      · injection zz with zz
        have h1 : (rows.set x1.toNat (r'.set y1.toNat (v0 + y)))[x1.toNat]? = some (r'.set y1.toNat (v0 + y)) := List.getElem?_set_self (List.getElem?_eq_some_iff.mp f2).1
        rw [zz, f2] at h1
        have h2 : (r'.set y1.toNat (v0 + y))[y1.toNat]? = some (v0 + y) := List.getElem?_set_self (List.getElem?_eq_some_iff.mp hv0).1
        rw [← Option.some.inj h1, hv0] at h2
        have := Option.some.inj h2
        omega
theorem sd_two {w : Str} {a b : Int} (e1 : (PyData.str w).canLay0 = true) (e2 : w.cps.size ≤ 20) (e3 : (PyData.str w).leavesShort 250 = true) (ha : a.natAbs < 2 ^ 200) (hb : b.natAbs < 2 ^ 200) : Sd 3 300 (.tuple [.str w, .int a, .int b]) := by
  refine Sd.tuple (fun d hd => ?_) ?_
  · simp only [List.mem_cons, List.not_mem_nil, or_false] at hd
    rcases hd with rfl | rfl | rfl
    · exact sd_word e1 e2 e3 (by decide)
    · exact Sd.int ha
    · exact Sd.int hb
  · simp only [PyData.bulkAll, PyData.bulk]
    omega
theorem sd_tab {w : Str} {rows : List (List Int)} (e1 : (PyData.str w).canLay0 = true) (e2 : w.cps.size ≤ 20) (e3 : (PyData.str w).leavesShort 250 = true) (h : ∀ r ∈ rows, r.length ≤ 12 ∧ ∀ x ∈ r, x.natAbs < 2 ^ 200) (l : rows.length ≤ 12) : Sd 3 300 (.tuple [.str w, .list (rows.map planD)]) := by
  have hr : ∀ d ∈ rows.map planD, Sd 1 12 d := fun d hd => by
    obtain ⟨r, hr, rfl⟩ := List.mem_map.mp hd
    exact sd_ints (h r hr).2 (h r hr).1
  have hb := bulkA_le (k := 12) fun d hd => (hr d hd).bk
  rw [List.length_map] at hb
  have hl : Sd 2 200 (.list (rows.map planD)) := Sd.list (fun d hd => (hr d hd).mono (Nat.le_refl _) (by decide)) (by omega)
  refine Sd.tuple (fun d hd => ?_) ?_
  · simp only [List.mem_cons, List.not_mem_nil, or_false] at hd
    rcases hd with rfl | rfl
    · exact sd_word e1 e2 e3 (by decide)
    · exact hl.mono (Nat.le_refl _) (by decide)
  · have := hl.bk
    simp only [PyData.bulkAll, PyData.bulk] at this ⊢
    omega
theorem in_sd {w : Str} {r : List PyData} (h : Sd 3 300 (.tuple (.str w :: r))) : FldIn (.tuple (.str w :: r)) := by
  refine ⟨w, r, rfl, ?_⟩
  have a := h.bk
  have b := wid_bulk (.tuple r)
  simp only [PyData.bulk, PyData.bulkAll] at a b ⊢
  omega
theorem i_slInitG {K : PySem.W.Frag} {H : Hp} {Q : VK} {p : Addr} {xs : List V} (h : SqL K H p xs) (q : ∀ p', H p' = none → Q (.ref p') (upd H p' (.lst xs.dropLast))) : rSlL K (.ref p) none (some (-1)) H Q := ⟨p, xs, rfl, h, by rw [cut_init]; exact q⟩
structure NoFld (f s : Int) (d : PyData) : Prop where
  no : isFldT f s d = false
  inn : FldIn d
  sd : Sd 3 300 d
theorem no_of {f s : Int} {fl : Fld} (h : ¬ FldOk f s fl) : isFldT f s (fldD fl) = false := by
  rw [← Bool.not_eq_true]
  exact fun z => h (fld_ok.mp z)
theorem nf_more {f s w t : Int} (h : ¬ FldOk f s (.more w t)) (a : w.natAbs < 2 ^ 200) (b : t.natAbs < 2 ^ 200) : NoFld f s (fldD (.more w t)) :=
  ⟨no_of h, in_sd (sd_two (by decide +kernel) (by decide +kernel) (by decide +kernel) a b), sd_two (by decide +kernel) (by decide +kernel) (by decide +kernel) a b⟩
theorem nf_lead {f s w t : Int} (h : ¬ FldOk f s (.lead w t)) (a : w.natAbs < 2 ^ 200) (b : t.natAbs < 2 ^ 200) : NoFld f s (fldD (.lead w t)) :=
  ⟨no_of h, in_sd (sd_two (by decide +kernel) (by decide +kernel) (by decide +kernel) a b), sd_two (by decide +kernel) (by decide +kernel) (by decide +kernel) a b⟩
theorem nf_tab {f s : Int} {rows : List (List Int)} (h : ¬ FldOk f s (.tab rows)) (a : ∀ r ∈ rows, r.length ≤ 12 ∧ ∀ x ∈ r, x.natAbs < 2 ^ 200) (l : rows.length ≤ 12) : NoFld f s (fldD (.tab rows)) :=
  ⟨no_of h, in_sd (sd_tab (by decide +kernel) (by decide +kernel) (by decide +kernel) a l), sd_tab (by decide +kernel) (by decide +kernel) (by decide +kernel) a l⟩
theorem nf_odd {f s : Int} {rows : List (List Int)} (a : ∀ r ∈ rows, r.length ≤ 12 ∧ ∀ x ∈ r, x.natAbs < 2 ^ 200) (l : rows.length ≤ 12) : NoFld f s (.tuple [.str (PySem.Str.ofString "odd"), .list (rows.map planD)]) := by
  refine ⟨?_, in_sd (sd_tab (by decide +kernel) (by decide +kernel) (by decide +kernel) a l), sd_tab (by decide +kernel) (by decide +kernel) (by decide +kernel) a l⟩
  show isFieldD f s _ _ = false
  unfold isFieldD
  rw [if_neg (by decide +kernel), if_neg (by decide +kernel), if_neg (by decide +kernel)]
theorem nf_up {f s a b : Int} {w : Str} (hw : w = PySem.Str.ofString "more" ∨ w = PySem.Str.ofString "lead") (ha : a.natAbs < 2 ^ 200) (hb : b.natAbs < 2 ^ 200) : NoFld f s (.tuple [.str (PySem.Txt.upper w), .int a, .int b]) := by
  have e : PySem.Txt.upper w = PySem.Str.ofString "MORE" ∨ PySem.Txt.upper w = PySem.Str.ofString "LEAD" := by
    rcases hw with rfl | rfl
    · exact .inl (by decide +kernel)
    · exact .inr (by decide +kernel)
  rcases e with e | e
  · rw [e]
    refine ⟨?_, in_sd (sd_two (by decide +kernel) (by decide +kernel) (by decide +kernel) ha hb), sd_two (by decide +kernel) (by decide +kernel) (by decide +kernel) ha hb⟩
    show isFieldD f s _ _ = false
    unfold isFieldD
    rw [if_neg (by decide +kernel), if_neg (by decide +kernel), if_neg (by decide +kernel)]
  · rw [e]
    refine ⟨?_, in_sd (sd_two (by decide +kernel) (by decide +kernel) (by decide +kernel) ha hb), sd_two (by decide +kernel) (by decide +kernel) (by decide +kernel) ha hb⟩
    show isFieldD f s _ _ = false
    unfold isFieldD
    rw [if_neg (by decide +kernel), if_neg (by decide +kernel), if_neg (by decide +kernel)]
def sp_l_no_field (K : PySem.W.Frag) : Sp := fun vs H Q E => ∃ (p c : Addr) (z : Int) (v : V) (fl : Fld) (f s : Int), vs = [.ref p, v] ∧ (Pc p c H z) ∧ (z ≤ 900000) ∧ (Dq (hid [p, c] H) v (fldD fl)) ∧ (FldOk f s fl ∧ FldW fl) ∧ ((0 ≤ f ∧ f ≤ 10) ∧ 0 ≤ s ∧ s ≤ 10) ∧ ∀ (w : V) (d : PyData) (G H' : Hp), (Dq G w d) → (NoFld f s d) → (Newly H G) → (Same G H') → (Pc p c H' (z + 3)) → (But2 p c H H') → Q (w) H'
theorem use_l_no_field {K : PySem.W.Frag} {H : Hp} {Q : VK} {E : XK} {p c : Addr} {z : Int} {v : V} {fl : Fld} {f s : Int} (p0 : Pc p c H z) (p1 : z ≤ 900000) (p2 : Dq (hid [p, c] H) v (fldD fl)) (p3 : FldOk f s fl ∧ FldW fl) (p4 : (0 ≤ f ∧ f ≤ 10) ∧ 0 ≤ s ∧ s ≤ 10) (k : ∀ (w : V) (d : PyData) (G H' : Hp), (Dq G w d) → (NoFld f s d) → (Newly H G) → (Same G H') → (Pc p c H' (z + 3)) → (But2 p c H H') → Q (w) H') : sp_l_no_field K [.ref p, v] H Q E := ⟨p, c, z, v, fl, f, s, rfl, p0, p1, p2, p3, p4, k⟩
theorem len_l_no_field {K : PySem.W.Frag} (vs : List V) (H : Hp) (Q : VK) (E : XK) (h : sp_l_no_field K vs H Q E) : vs.length = ["_law_purse_here", "_law_field_here"].length := by
  obtain ⟨_, _, _, _, _, _, _, rfl, _⟩ := h
  rfl
local macro_rules | `(tactic| walk_at "g_call") => `(tactic| ((with_reducible refine' use_l_no_field ?c0 ?c1 ?c2 ?c3 ?c4 ?_); (case c0 => walk_at "g_pre"); (case c1 => walk_at "g_pre"); (case c2 => walk_at "g_pre"); (case c3 => walk_at "g_pre"); (case c4 => walk_at "g_pre"); intros))
theorem ok_l_no_field (T : Txt K mg) : FnOk P w K mg base CX0 2 T.a_l_no_field T.d_l_no_field ["_law_purse_here", "_law_field_here"] (sp_l_no_field K) := by
  have G_l_draw := ok_l_draw (P := P) (w := w) (base := base) T
  refine T.F_l_no_field.ok sc_l_no_field len_l_no_field (fun cdv A outer s H vs Q E hr h => ?_)
  refine ⟨_, (pss_cons (ps_set (i := 2) sc_l_no_field.nd rfl (Or.inl rfl) (pe_call G_l_draw (hr.mono (by first | decide | omega)) (by rfl) T.g_l_draw T.F_l_draw.kp T.b_l_draw .nil pass0 (pa_cons (pv 0) (pa_cons pe_int pa_nil))))
      (pss_cons (ps_if (pt_cmpR op_eq (pe_ix (ix_tupK K rfl) (pv 1) pe_int (fun _ _ => rfl)) pe_str (nomark _)) (pss_cons (ps_setLc (i := 3) (own := [("_law_row", 11)]) rfl sc_l_no_field.nd rfl rfl (sw_true rfl rfl rfl (by decide +kernel)) (pi_listK K rfl (pe_ix (ix_tupK K rfl) (pv 1) pe_int (fun _ _ => rfl))) (blkOk_by (own := [("_law_row", 11)]) (N := ["_law_purse_here", "_law_field_here", "_law_way", "_law_rows", "_law_short", "_law_longer", "_law_bad", "_law_word", "_law_worth", "_law_other", "_law_some", "_law_row"]) (sc := defScope s_l_no_field) (by decide +kernel)) (fun _ _ _ _ _ => (pg_name (i := 11) sc_l_no_field.nd rfl (Or.inl rfl))) (fun _ _ _ _ _ => pts_nil) (fun _ _ _ _ _ => (pe_callTy (call_listK K rfl) (by rfl) T.z_list (by decide +kernel) (pa_cons (pv 11) pa_nil))))
      (pss_cons (ps_setLc (i := 4) (own := [("_law_row", 11)]) rfl sc_l_no_field.nd rfl rfl (sw_true rfl rfl rfl (by decide +kernel)) (pi_listK K rfl (pv 3)) (blkOk_by (own := [("_law_row", 11)]) (N := ["_law_purse_here", "_law_field_here", "_law_way", "_law_rows", "_law_short", "_law_longer", "_law_bad", "_law_word", "_law_worth", "_law_other", "_law_some", "_law_row"]) (sc := defScope s_l_no_field) (by decide +kernel)) (fun _ _ _ _ _ => (pg_name (i := 11) sc_l_no_field.nd rfl (Or.inl rfl))) (fun _ _ _ _ _ => pts_nil) (fun _ _ _ _ _ => (pe_slice (sl_listK K rfl) (pv 11) (po_some pe_int) po_none)))
      (pss_cons (ps_set (i := 5) sc_l_no_field.nd rfl (Or.inl rfl) (pe_op op_cat (pe_slice (sl_listK K rfl) (pv 3) po_none (po_some (pe_un un_neg pe_int))) (pe_lst (pa_cons (pe_op op_cat (pe_ix (ix_listK K rfl) (pv 3) (pe_un un_neg pe_int) (fun _ _ => rfl)) (pe_lst (pa_cons pe_int pa_nil))) pa_nil))))
      (pss_cons (ps_set (i := 6) sc_l_no_field.nd rfl (Or.inl rfl) (pe_lst (pa_cons (pe_tup (pa_cons pe_str (pa_cons (pe_slice (sl_listK K rfl) (pv 3) (po_some pe_int) po_none) pa_nil))) (pa_cons (pe_tup (pa_cons pe_str (pa_cons (pe_op op_cat (pv 3) (pe_slice (sl_listK K rfl) (pv 3) po_none (po_some pe_int))) pa_nil))) (pa_cons (pe_tup (pa_cons pe_str (pa_cons (pv 4) pa_nil))) (pa_cons (pe_tup (pa_cons pe_str (pa_cons (pv 5) pa_nil))) pa_nil))))))
      (pss_one (ps_ret (pe_ix (ix_listK K rfl) (pe_op op_cat (pv 6) (pe_lst (pa_cons (pe_tup (pa_cons pe_str (pa_cons (pv 3) pa_nil))) pa_nil))) (pv 2) (fun _ _ => rfl)))))))) pss_nil)
      (pss_cons (ps_asg (pv 1) (pg_tupK K rfl 3 rfl (pgs_cons (pg_name (i := 7) sc_l_no_field.nd rfl (Or.inl rfl)) (pgs_cons (pg_name (i := 8) sc_l_no_field.nd rfl (Or.inl rfl)) (pgs_cons (pg_name (i := 9) sc_l_no_field.nd rfl (Or.inl rfl)) pgs_nil)))))
      (pss_cons (ps_set (i := 10) sc_l_no_field.nd rfl (Or.inl rfl) (pe_lst (pa_cons (pe_tup (pa_cons (pv 7) (pa_cons pe_int (pa_cons pe_int pa_nil)))) (pa_cons (pe_tup (pa_cons (pv 7) (pa_cons (pe_op op_sub pe_int (pv 8)) (pa_cons pe_int pa_nil)))) (pa_cons (pe_tup (pa_cons pe_str (pa_cons (pv 8) (pa_cons (pe_op op_add (pv 8) pe_int) pa_nil)))) (pa_cons (pe_tup (pa_cons pe_str (pa_cons (pv 8) (pa_cons (pe_op op_sub (pe_un un_neg pe_int) (pv 8)) pa_nil)))) pa_nil))))))
      (pss_one (ps_ret (pe_ix (ix_listK K rfl) (pe_op op_cat (pv 10) (pe_lst (pa_cons (pe_tup (pa_cons (pe_upper (pv 7)) (pa_cons (pv 8) (pa_cons (pv 9) pa_nil)))) pa_nil))) (pv 2) (fun _ _ => rfl)))))))), ?_⟩
  try dsimp only [L2.cxOf, L2.Cx.nox, L2.Cx.wish, List.map_cons, List.map_nil]
  obtain ⟨p, c, z, v, fl, f, s, rfl, p0, p1, p2, ⟨p3, p4⟩, p5, k⟩ := h
  refine start_to (σ := [some _, some _, none, none, none, none, none, none, none, none, none, none]) rfl ?_
  refine i_seq ?_
  walk_at "goS"
  rename_i way H1 a1 a2 a3
  have dv : Dq (hid [p, c] H1) v (fldD fl) := p2.same (hid_but2 a3)
  have dvr := dv.same hid_same
  have fin : ∀ (S : Addr) (ts : List Addr) (H9 : Hp), H9 S = some (.lst (ts.map V.ref)) → ts.length = 5 → Same H1 H9 → (∀ t ∈ ts, ∃ d, Dq (fr [] H H9) (.ref t) d ∧ NoFld f s d) → rIxL K (.ref S) (.int way) H9 Q := by
    intro S ts H9 e1 e2 e3 e4
    obtain ⟨t, ht⟩ : ∃ t, ts[way.toNat]? = some t := ⟨ts[way.toNat]'(by omega), List.getElem?_eq_getElem _⟩
    obtain ⟨d, e5, e6⟩ := e4 t (List.mem_of_getElem? ht)
    have hat : atI (ts.map V.ref) way = some (.ref t) := by
      have := atI_nat (α := V) (xs := ts.map V.ref) (j := way.toNat) (v := .ref t) (by rw [List.getElem?_map, ht]; rfl)
      rwa [show ((way.toNat : Nat) : Int) = way by omega] at this
    exact i_ixL (SqL.of e1) hat (k _ d (fr [] H H9) H9 e5 e6 fr_newly fr_same ((a2.same e3).mono (by omega)) (fun b o n1 n2 e => e3 _ _ (a3 b o n1 n2 e)))
  cases fl with
  | more w t =>
    obtain ⟨a, rfl, h1⟩ := fld_more dvr
    have hw1 : 1 ≤ w := p3.1
    obtain ⟨q4, q5⟩ := p4
    have q4' : w.natAbs < 2 ^ 199 := Nat.lt_trans q4 (by decide)
    have q5' : t.natAbs < 2 ^ 200 := Nat.lt_trans q5 (by decide)
    walk_at "go"
    rename_i t1 n1 t2 n2 t3 n3 t4 n4 S4 n5
    unfold L2.tM0
    walk_at "go"
    refine ⟨⟨_, rfl⟩, _, rfl, rfl, by decide +kernel, ?_⟩
    walk_at "go"
    rename_i t5 n6 L5 n7 S n8
    generalize hF : upd _ S _ = F
    have sF : Same H1 F := by rw [← hF]; walk_at "g_same"
    have jS : F S = some (.lst ([t1, t2, t3, t4, t5].map V.ref)) := by
      rw [← hF]
      exact upd_same
    have l1 : F t1 = some (.tup [.str (PySem.Str.ofString "more"), .int 0, .int 0]) := by rw [← hF]; walk_at "g_lk"
    have l2 : F t2 = some (.tup [.str (PySem.Str.ofString "more"), .int (0 - w), .int 0]) := by rw [← hF]; walk_at "g_lk"
    have l3 : F t3 = some (.tup [.str (PySem.Str.ofString "more"), .int w, .int (w + 1)]) := by rw [← hF]; walk_at "g_lk"
    have l4 : F t4 = some (.tup [.str (PySem.Str.ofString "more"), .int w, .int (-1 - w)]) := by rw [← hF]; walk_at "g_lk"
    have l5 : F t5 = some (.tup [.str (PySem.Txt.upper (PySem.Str.ofString "more")), .int w, .int t]) := by rw [← hF]; walk_at "g_lk"
    have f1 : H1 t1 = none := by walk_at "g_free"
    have f2 : H1 t2 = none := by walk_at "g_free"
    have f3 : H1 t3 = none := by walk_at "g_free"
    have f4 : H1 t4 = none := by walk_at "g_free"
    have f5 : H1 t5 = none := by walk_at "g_free"
    refine fin S [t1, t2, t3, t4, t5] F jS rfl sF fun x hx => ?_
    simp only [List.mem_cons, List.not_mem_nil, or_false] at hx
    rcases hx with rfl | rfl | rfl | rfl | rfl
    · exact ⟨_, more_mk (w := 0) (t := 0) (fr_lk0 (Pc.free f1 a3 a2) l1), nf_more (fun z => by have := z.1; omega) (by decide) (by decide)⟩
    · exact ⟨_, more_mk (w := 0 - w) (t := 0) (fr_lk0 (Pc.free f2 a3 a2) l2), nf_more (fun z => by have := z.1; omega) (by omega) (by decide)⟩
    · exact ⟨_, more_mk (fr_lk0 (Pc.free f3 a3 a2) l3), nf_more (fun z => by have := z.2.2; omega) (by omega) (by omega)⟩
    · exact ⟨_, more_mk (fr_lk0 (Pc.free f4 a3 a2) l4), nf_more (fun z => by have := z.2.1; omega) (by omega) (by omega)⟩
    · exact ⟨_, .tup (fr_lk0 (Pc.free f5 a3 a2) l5) (.cons (.str _) (.cons (.int _) (.cons (.int _) .nil))), nf_up (.inl rfl) (by omega) q5'⟩
  | lead w t =>
    obtain ⟨a, rfl, h1⟩ := fld_lead dvr
    have hw1 : 1 ≤ w := p3
    obtain ⟨q4, q5⟩ := p4
    have q4' : w.natAbs < 2 ^ 199 := Nat.lt_trans q4 (by decide)
    have q5' : t.natAbs < 2 ^ 200 := Nat.lt_trans q5 (by decide)
    walk_at "go"
    rename_i t1 n1 t2 n2 t3 n3 t4 n4 S4 n5
    unfold L2.tM0
    walk_at "go"
    refine ⟨⟨_, rfl⟩, _, rfl, rfl, by decide +kernel, ?_⟩
    walk_at "go"
    rename_i t5 n6 L5 n7 S n8
    generalize hF : upd _ S _ = F
    have sF : Same H1 F := by rw [← hF]; walk_at "g_same"
    have jS : F S = some (.lst ([t1, t2, t3, t4, t5].map V.ref)) := by
      rw [← hF]
      exact upd_same
    have l1 : F t1 = some (.tup [.str (PySem.Str.ofString "lead"), .int 0, .int 0]) := by rw [← hF]; walk_at "g_lk"
    have l2 : F t2 = some (.tup [.str (PySem.Str.ofString "lead"), .int (0 - w), .int 0]) := by rw [← hF]; walk_at "g_lk"
    have l3 : F t3 = some (.tup [.str (PySem.Str.ofString "more"), .int w, .int (w + 1)]) := by rw [← hF]; walk_at "g_lk"
    have l4 : F t4 = some (.tup [.str (PySem.Str.ofString "more"), .int w, .int (-1 - w)]) := by rw [← hF]; walk_at "g_lk"
    have l5 : F t5 = some (.tup [.str (PySem.Txt.upper (PySem.Str.ofString "lead")), .int w, .int t]) := by rw [← hF]; walk_at "g_lk"
    have f1 : H1 t1 = none := by walk_at "g_free"
    have f2 : H1 t2 = none := by walk_at "g_free"
    have f3 : H1 t3 = none := by walk_at "g_free"
    have f4 : H1 t4 = none := by walk_at "g_free"
    have f5 : H1 t5 = none := by walk_at "g_free"
    refine fin S [t1, t2, t3, t4, t5] F jS rfl sF fun x hx => ?_
    simp only [List.mem_cons, List.not_mem_nil, or_false] at hx
    rcases hx with rfl | rfl | rfl | rfl | rfl
    · exact ⟨_, lead_mk (w := 0) (t := 0) (fr_lk0 (Pc.free f1 a3 a2) l1), nf_lead (fun z => by have : (1 : Int) ≤ 0 := z; omega) (by decide) (by decide)⟩
    · exact ⟨_, lead_mk (w := 0 - w) (t := 0) (fr_lk0 (Pc.free f2 a3 a2) l2), nf_lead (fun z => by have : (1 : Int) ≤ 0 - w := z; omega) (by omega) (by decide)⟩
    · exact ⟨_, more_mk (fr_lk0 (Pc.free f3 a3 a2) l3), nf_more (fun z => by have := z.2.2; omega) (by omega) (by omega)⟩
    · exact ⟨_, more_mk (fr_lk0 (Pc.free f4 a3 a2) l4), nf_more (fun z => by have := z.2.1; omega) (by omega) (by omega)⟩
    · exact ⟨_, .tup (fr_lk0 (Pc.free f5 a3 a2) l5) (.cons (.str _) (.cons (.int _) (.cons (.int _) .nil))), nf_up (.inr rfl) (by omega) q5'⟩
  | tab rows =>
    obtain ⟨a, q, xs, rfl, h1, h2, h3⟩ := fld_tab dvr
    obtain ⟨g1, g2⟩ := p3
    have hl : xs.length = rows.length := by rw [h3.len, List.length_map]
    walk_at "go"
    intro D nD
    refine lcL_2d (xs := xs) (fun i => (rows[i]?).getD []) nD (by omega) (SqL.of h2) ?_ ?_
    · intro i x H2 Z Y hx s2 hz
      obtain ⟨r', q', f1, rfl, f2⟩ := row_at h3 hx
      have f2' := s2 _ _ f2
      have rl := g2 r' (List.mem_of_getElem? f1)
      walk_at "go"
      rename_i q9 nq9
      exact hz q9 _ (by rw [f1]; exact upd_same) nq9 (Same.new nq9)
    · intro qs H2 own nw s2
      rw [hl, rng_map _ id rows (fun i x e => by rw [e]; rfl), List.map_id] at own
      have ql := own.len
      have oT := own.top
      walk_at "goS"
      refine i_seq ?_
      walk_at "goS"
      intro D2 nD2
      refine lcL_2d (xs := qs.map V.ref) (fun i => ((rows[i]?).getD []).drop 1) nD2 (by rw [List.length_map]; omega) (SqL.of oT) ?_ ?_
      · intro i x H3 Z Y hx s3 hz
        rw [List.getElem?_map] at hx
        obtain ⟨q', e1, rfl⟩ := Option.map_eq_some_iff.mp hx
        obtain ⟨r', e2⟩ : ∃ r', rows[i]? = some r' := ⟨rows[i]'(by rw [← ql]; exact (List.getElem?_eq_some_iff.mp e1).1), List.getElem?_eq_getElem _⟩
        have f2' := s3 _ _ (own.row i q' r' e1 e2)
        have rl := g2 r' (List.mem_of_getElem? e2)
        walk_at "go"
        rename_i q9 nq9
        exact hz q9 _ (by rw [e2]; exact upd_same) nq9 (Same.new nq9)
      · intro qs2 H3 own2 nw2 s3
        rw [List.length_map, ql, rng_map _ (fun r : List Int => r.drop 1) rows (fun i x e => by rw [e]; rfl)] at own2
        have oT3 := s3 _ _ oT
        have oT2 := own2.top
        obtain ⟨ql1, hq1⟩ : ∃ q, qs[qs.length - 1]? = some q := ⟨qs[qs.length - 1]'(by omega), List.getElem?_eq_getElem _⟩
        obtain ⟨rl1, hr1⟩ : ∃ r, rows[qs.length - 1]? = some r := ⟨rows[qs.length - 1]'(by omega), List.getElem?_eq_getElem _⟩
        have lr3 := s3 _ _ (own.row _ _ _ hq1 hr1)
        have rll := g2 rl1 (List.mem_of_getElem? hr1)
        have hatl : atI (qs.map V.ref) (-1) = some (.ref ql1) := by
          have := hq1
          unfold atI
          rw [ixN_last (by rw [List.length_map]; omega)]
          simp [hq1]
        walk_at "goS"
        refine i_seq ?_
        walk_at "goS"
        refine i_slInitG (SqL.of oT3) fun C1 m1 => ?_
        walk_at "goS"
        refine i_seq ?_
        walk_at "go"
        rename_i z1 m2 c1 m3 l1 m4 LG m5 s1 m6 T1 m7 s2' m8 c2 m9 T2 m10 T3 m11 T4 m12 S4 m13 T5 m14 L5 m15 S m16
        generalize hF : upd _ S _ = F
        have sF3 : Same H3 F := by rw [← hF]; walk_at "g_same"
        have jS : F S = some (.lst ([T1, T2, T3, T4, T5].map V.ref)) := by
          rw [← hF]
          exact upd_same
        have k1 : F T1 = some (.tup [.str (PySem.Str.ofString "table"), .ref s1]) := by rw [← hF]; walk_at "g_lk"
        have k2 : F T2 = some (.tup [.str (PySem.Str.ofString "table"), .ref c2]) := by rw [← hF]; walk_at "g_lk"
        have k3 : F T3 = some (.tup [.str (PySem.Str.ofString "table"), .ref D2]) := by rw [← hF]; walk_at "g_lk"
        have k4 : F T4 = some (.tup [.str (PySem.Str.ofString "table"), .ref LG]) := by rw [← hF]; walk_at "g_lk"
        have k5 : F T5 = some (.tup [.str (PySem.Str.ofString "odd"), .ref D]) := by rw [← hF]; walk_at "g_lk"
        have k6 : F s1 = some (.lst (List.drop (Int.toNat 1) (qs.map V.ref))) := by rw [← hF]; walk_at "g_lk"
        have k7 : F c2 = some (.lst (qs.map V.ref ++ List.take (Int.toNat 1) (qs.map V.ref))) := by rw [← hF]; walk_at "g_lk"
        have k8 : F LG = some (.lst ((qs.map V.ref).dropLast ++ [V.ref c1])) := by rw [← hF]; walk_at "g_lk"
        have k9 : F c1 = some (.lst ((rl1 ++ [0]).map V.int)) := by rw [← hF]; walk_at "g_lk"
        have s13 : Same H1 H3 := s2.trans s3
        have nn : ∀ {x : Addr}, H1 x = none → H x = none := fun h => Pc.free h a3 a2
        have u1 : H T1 = none := nn (s13.free (by walk_at "g_free"))
        have u2 : H T2 = none := nn (s13.free (by walk_at "g_free"))
        have u3 : H T3 = none := nn (s13.free (by walk_at "g_free"))
        have u4 : H T4 = none := nn (s13.free (by walk_at "g_free"))
        have u5 : H T5 = none := nn (s13.free (by walk_at "g_free"))
        have u6 : H s1 = none := nn (s13.free (by walk_at "g_free"))
        have u7 : H c2 = none := nn (s13.free (by walk_at "g_free"))
        have u8 : H LG = none := nn (s13.free (by walk_at "g_free"))
        have u9 : H c1 = none := nn (s13.free (by walk_at "g_free"))
        clear hF m1 m2 m3 m4 m5 m6 m7 m8 m9 m10 m11 m12 m13 m14 m15 m16
        have s2F := s3.trans sF3
        have oF : Own2 (fr [] H F) D qs rows := ⟨fr_lk0 (nn nD) (s2F _ _ own.top), own.len, fun k q r a b => fr_lk0 (nn (nw q (List.mem_of_getElem? a))) (s2F _ _ (own.row k q r a b)), own.nd, own.off⟩
        have oF2 : Own2 (fr [] H F) D2 qs2 (rows.map fun r => r.drop 1) := ⟨fr_lk0 (nn (s2.free nD2)) (sF3 _ _ own2.top), own2.len, fun k q r a b => fr_lk0 (nn (s2.free (nw2 q (List.mem_of_getElem? a)))) (sF3 _ _ (own2.row k q r a b)), own2.nd, own2.off⟩
        have dR := oF.dqA
        have small : ∀ r ∈ rows, r.length ≤ 11 ∧ ∀ x ∈ r, x.natAbs < 2 ^ 200 := fun r hr => ⟨by have := g2 r hr; omega, fun x hx => Nat.lt_trans (p4 r hr x hx) (by decide)⟩
        have rn : rows.length ≤ 11 ∧ 1 ≤ rows.length := by omega
        have i1 : Int.toNat 1 = 1 := rfl
        rw [i1] at k6 k7
        have hrl : rl1 ∈ rows := List.mem_of_getElem? hr1
        refine fin S [T1, T2, T3, T4, T5] F jS rfl (s13.trans sF3) fun x hx => ?_
        simp only [List.mem_cons, List.not_mem_nil, or_false] at hx
        rcases hx with rfl | rfl | rfl | rfl | rfl
        · refine ⟨fldD (.tab (rows.drop 1)), .tup (fr_lk0 u1 k1) (.cons (.str _) (.cons (.lst (fr_lk0 u6 k6) (by rw [List.map_drop]; exact dR.drop 1)) .nil)), nf_tab (fun z => ?_) (fun r hr => ?_) (by rw [List.length_drop]; omega)⟩
          · have := z.1
            rw [List.length_drop] at this
            omega
          · have := small r (List.mem_of_mem_drop hr)
            exact ⟨by omega, this.2⟩
        · refine ⟨fldD (.tab (rows ++ rows.take 1)), .tup (fr_lk0 u2 k2) (.cons (.str _) (.cons (.lst (fr_lk0 u7 k7) (by rw [List.map_append, List.map_take]; exact dR.append (dR.take 1))) .nil)), nf_tab (fun z => ?_) (fun r hr => ?_) (by rw [List.length_append, List.length_take]; omega)⟩
          · have := z.1
            rw [List.length_append, List.length_take] at this
            omega
          · have := small r ((List.mem_append.mp hr).elim id List.mem_of_mem_take)
            exact ⟨by omega, this.2⟩
        · refine ⟨fldD (.tab (rows.map fun r => r.drop 1)), .tup (fr_lk0 u3 k3) (.cons (.str _) (.cons (show Dq (fr [] H F) (.ref D2) (.list ((rows.map fun r => r.drop 1).map planD)) from oF2.dq) .nil)), nf_tab (fun z => ?_) (fun r hr => ?_) (by rw [List.length_map]; omega)⟩
          · have e := z.2 (rl1.drop 1) (List.mem_map_of_mem hrl)
            rw [List.length_drop] at e
            omega
          · obtain ⟨r0, h0, rfl⟩ := List.mem_map.mp hr
            have := small r0 h0
            exact ⟨by rw [List.length_drop]; omega, fun x hx => this.2 x (List.mem_of_mem_drop hx)⟩
        · refine ⟨fldD (.tab (rows.dropLast ++ [rl1 ++ [0]])), .tup (fr_lk0 u4 k4) (.cons (.str _) (.cons (.lst (fr_lk0 u8 k8) (by
            rw [List.map_append, List.dropLast_eq_take, List.dropLast_eq_take, List.map_take, List.length_map, ql]
            exact (dR.take _).append (.cons (row_mk (fr_lk0 u9 k9)) .nil))) .nil)), nf_tab (fun z => ?_) (fun r hr => ?_) (by rw [List.length_append, List.length_dropLast]; simp; omega)⟩
          · have e := z.2 (rl1 ++ [0]) (List.mem_append.mpr (.inr List.mem_cons_self))
            rw [List.length_append] at e
            simp at e
            omega
          · rcases List.mem_append.mp hr with e | e
            · have := small r ((List.dropLast_sublist rows).subset e)
              exact ⟨by omega, this.2⟩
            · rw [List.mem_singleton.mp e]
              have := small rl1 hrl
              refine ⟨by rw [List.length_append]; simp; omega, fun x hx => ?_⟩
              rcases List.mem_append.mp hx with e2 | e2
              · exact this.2 x e2
              · rw [List.mem_singleton.mp e2]
                decide
        · exact ⟨_, .tup (fr_lk0 u5 k5) (.cons (.str _) (.cons oF.dq .nil)), nf_odd (fun r hr => ⟨by have := small r hr; omega, (small r hr).2⟩) (by omega)⟩
theorem sd_fldw {f s : Int} {fl : Fld} (k : FldOk f s fl) (h : FldW fl) (hf : f ≤ 10) (hs : s ≤ 10) : Sd 3 300 (fldD fl) := by
  cases fl with
  | more w t => exact sd_two (by decide +kernel) (by decide +kernel) (by decide +kernel) (Nat.lt_trans h.1 (by decide)) (Nat.lt_trans h.2 (by decide))
  | lead w t => exact sd_two (by decide +kernel) (by decide +kernel) (by decide +kernel) (Nat.lt_trans h.1 (by decide)) (Nat.lt_trans h.2 (by decide))
  | tab rows => exact sd_tab (by decide +kernel) (by decide +kernel) (by decide +kernel) (fun r hr => ⟨by have := k.2 r hr; omega, fun x hx => Nat.lt_trans (h r hr x hx) (by decide)⟩) (by have := k.1; omega)
def sp_l_no_battle (K : PySem.W.Frag) : Sp := fun vs H Q E => ∃ (p c : Addr) (z : Int) (v : V) (f s : Int) (fs : List Fld), vs = [.ref p, v] ∧ (Pc p c H z) ∧ (z ≤ 800000) ∧ (Dq (hid [p, c] H) v (batD f s fs)) ∧ (BatOk f s fs) ∧ ((∀ x ∈ fs, FldW x)) ∧ ∀ (q nb : Addr) (f' s' due : Int) (ds : List PyData) (H' : Hp), (H' q = some (.tup [.ref nb, .int due])) → (Dq (hid [p, c] H') (.ref nb) (batT f' s' ds)) → (badB f' s' ds = some due) → ((∀ d ∈ ds, FldIn d ∧ Sd 3 300 d)) → (ds.length ≤ 30 ∧ f'.natAbs ≤ 20 ∧ s'.natAbs ≤ 20) → (Pc p c H' (z + 8)) → (But2 p c H H') → Q (.ref q) H'
theorem use_l_no_battle {K : PySem.W.Frag} {H : Hp} {Q : VK} {E : XK} {p c : Addr} {z : Int} {v : V} {f s : Int} {fs : List Fld} (p0 : Pc p c H z) (p1 : z ≤ 800000) (p2 : Dq (hid [p, c] H) v (batD f s fs)) (p3 : BatOk f s fs) (p4 : (∀ x ∈ fs, FldW x)) (k : ∀ (q nb : Addr) (f' s' due : Int) (ds : List PyData) (H' : Hp), (H' q = some (.tup [.ref nb, .int due])) → (Dq (hid [p, c] H') (.ref nb) (batT f' s' ds)) → (badB f' s' ds = some due) → ((∀ d ∈ ds, FldIn d ∧ Sd 3 300 d)) → (ds.length ≤ 30 ∧ f'.natAbs ≤ 20 ∧ s'.natAbs ≤ 20) → (Pc p c H' (z + 8)) → (But2 p c H H') → Q (.ref q) H') : sp_l_no_battle K [.ref p, v] H Q E := ⟨p, c, z, v, f, s, fs, rfl, p0, p1, p2, p3, p4, k⟩
theorem len_l_no_battle {K : PySem.W.Frag} (vs : List V) (H : Hp) (Q : VK) (E : XK) (h : sp_l_no_battle K vs H Q E) : vs.length = ["_law_purse_here", "_law_battle"].length := by
  obtain ⟨_, _, _, _, _, _, _, rfl, _⟩ := h
  rfl
local macro_rules | `(tactic| walk_at "g_call") => `(tactic| ((with_reducible refine' use_l_no_battle ?c0 ?c1 ?c2 ?c3 ?c4 ?_); (case c0 => walk_at "g_pre"); (case c1 => walk_at "g_pre"); (case c2 => walk_at "g_pre"); (case c3 => walk_at "g_pre"); (case c4 => walk_at "g_pre"); intros))
theorem ok_l_no_battle (T : Txt K mg) : FnOk P w K mg base CX0 3 T.a_l_no_battle T.d_l_no_battle ["_law_purse_here", "_law_battle"] (sp_l_no_battle K) := by
  have G_l_draw := ok_l_draw (P := P) (w := w) (base := base) T
  have G_l_no_field := ok_l_no_field (P := P) (w := w) (base := base) T
  refine T.F_l_no_battle.ok sc_l_no_battle len_l_no_battle (fun cdv A outer s H vs Q E hr h => ?_)
  refine ⟨_, (pss_cons (ps_asg (pv 1) (pg_tupK K rfl 3 rfl (pgs_cons (pg_name (i := 2) sc_l_no_battle.nd rfl (Or.inl rfl)) (pgs_cons (pg_name (i := 3) sc_l_no_battle.nd rfl (Or.inl rfl)) (pgs_cons (pg_name (i := 4) sc_l_no_battle.nd rfl (Or.inl rfl)) pgs_nil)))))
      (pss_cons (ps_set (i := 5) sc_l_no_battle.nd rfl (Or.inl rfl) (pe_call G_l_draw (hr.mono (by first | decide | omega)) (by rfl) T.g_l_draw T.F_l_draw.kp T.b_l_draw .nil pass0 (pa_cons (pv 0) (pa_cons pe_int pa_nil))))
      (pss_cons (ps_if (pt_cmpR op_lt (pv 5) pe_int (nomark _)) (pss_one (ps_ret (pe_tup (pa_cons (pe_ix (ix_listK K rfl) (pe_lst (pa_cons (pe_tup (pa_cons (pe_un un_neg pe_int) (pa_cons (pv 3) (pa_cons (pv 4) pa_nil)))) (pa_cons (pe_tup (pa_cons pe_int (pa_cons (pv 3) (pa_cons (pv 4) pa_nil)))) (pa_cons (pe_tup (pa_cons (pv 2) (pa_cons (pe_un un_neg pe_int) (pa_cons (pv 4) pa_nil)))) (pa_cons (pe_tup (pa_cons (pv 2) (pa_cons pe_int (pa_cons (pv 4) pa_nil)))) pa_nil))))) (pv 5) (fun _ _ => rfl)) (pa_cons (pe_un un_neg pe_int) pa_nil))))) pss_nil)
      (pss_cons (ps_if (pt_cmpR op_lt (pv 5) pe_int (nomark _)) (pss_one (ps_ret (pe_tup (pa_cons (pe_tup (pa_cons (pv 2) (pa_cons (pv 3) (pa_cons (pe_ix (ix_listK K rfl) (pe_lst (pa_cons (pe_lst pa_nil) (pa_cons (pe_op op_rep (pv 4) pe_int) pa_nil))) (pe_op op_sub (pv 5) pe_int) (fun _ _ => rfl)) pa_nil)))) (pa_cons (pe_un un_neg pe_int) pa_nil))))) pss_nil)
      (pss_cons (ps_set (i := 6) sc_l_no_battle.nd rfl (Or.inl rfl) (pe_call G_l_draw (hr.mono (by first | decide | omega)) (by rfl) T.g_l_draw T.F_l_draw.kp T.b_l_draw .nil pass0 (pa_cons (pv 0) (pa_cons (pe_callB (call_lenK K rfl) (by rfl) T.z_len (by decide +kernel) (pa_cons (pv 4) pa_nil)) pa_nil))))
      (pss_one (ps_ret (pe_tup (pa_cons (pe_tup (pa_cons (pv 2) (pa_cons (pv 3) (pa_cons (pe_op op_cat (pe_op op_cat (pe_slice (sl_listK K rfl) (pv 4) po_none (po_some (pv 6))) (pe_lst (pa_cons (pe_call G_l_no_field (hr.mono (by first | decide | omega)) (by rfl) T.g_l_no_field T.F_l_no_field.kp T.b_l_no_field .nil pass0 (pa_cons (pv 0) (pa_cons (pe_ix (ix_listK K rfl) (pv 4) (pv 6) (fun _ _ => rfl)) pa_nil))) pa_nil))) (pe_slice (sl_listK K rfl) (pv 4) (po_some (pe_op op_add (pv 6) pe_int)) po_none)) pa_nil)))) (pa_cons (pv 6) pa_nil)))))))))), ?_⟩
  try dsimp only [L2.cxOf, L2.Cx.nox, L2.Cx.wish, List.map_cons, List.map_nil]
  obtain ⟨p, c, z, v, f, s, fs, rfl, p0, p1, p2, p3, p4, k⟩ := h
  refine start_to (σ := [some _, some _, none, none, none, none, none]) rfl ?_
  obtain ⟨bA, bp, xs, rfl, h1, h2, h3⟩ := bat_inv p2
  have h1r := hid_same _ _ h1
  have h2r := hid_same _ _ h2
  have hl : xs.length = fs.length := by rw [h3.len, List.length_map]
  have hn := p3.ne
  have hf := p3.hf
  have hs := p3.hs
  have fall : ∀ d ∈ fs.map fldD, FldIn d ∧ Sd 3 300 d := fun d hd => by
    obtain ⟨x, hx, rfl⟩ := List.mem_map.mp hd
    have := sd_fldw (p3.ok x hx) (p4 x hx) hf.2 hs.2
    exact ⟨fld_in hf.2 hs.2 (p3.ok x hx), this⟩
  walk_at "goS"
  refine i_seq ?_
  walk_at "goS"
  refine i_seq ?_
  walk_at "goS"
  rename_i way H1 a1 a2 a3
  have dB1 : Dq (hid [p, c] H1) (.ref bA) (batD f s fs) := p2.same (hid_but2 a3)
  have s1 : Same (hid [p, c] H) (hid [p, c] H1) := hid_but2 a3
  have g1 := s1 _ _ h1
  have g2 := s1 _ _ h2
  have g3 := h3.same s1
  have g1r := hid_same _ _ g1
  have g2r := hid_same _ _ g2
  clear p2 h1 h2 h3 h1r h2r s1 p0
  refine i_seq ?_
  walk_at "goS"
  have fs30 : (fs.map fldD).length ≤ 30 := by rw [List.length_map]; omega
  refine ite_d (fun c4 => ?_) (fun c4 => ?_)
  · walk_at "go"
    rename_i t1 n1 t2 n2 t3 n3 t4 n4 S n5 w9 hw9 q nq
    have e1 : t1 ≠ p ∧ t1 ≠ c := ⟨by walk_at "g_ne", by walk_at "g_ne"⟩
    have e2 : t2 ≠ p ∧ t2 ≠ c := ⟨by walk_at "g_ne", by walk_at "g_ne"⟩
    have e3 : t3 ≠ p ∧ t3 ≠ c := ⟨by walk_at "g_ne", by walk_at "g_ne"⟩
    have e4 : t4 ≠ p ∧ t4 ≠ c := ⟨by walk_at "g_ne", by walk_at "g_ne"⟩
    generalize hF : upd _ q _ = F
    have sF : Same H1 F := by rw [← hF]; walk_at "g_same"
    have jq : F q = some (.tup [.ref w9, .int (-1)]) := by rw [← hF]; exact upd_same
    have l1 : F t1 = some (.tup [.int (-1), .int s, .ref bp]) := by rw [← hF]; walk_at "g_lk"
    have l2 : F t2 = some (.tup [.int 11, .int s, .ref bp]) := by rw [← hF]; walk_at "g_lk"
    have l3 : F t3 = some (.tup [.int f, .int (-1), .ref bp]) := by rw [← hF]; walk_at "g_lk"
    have l4 : F t4 = some (.tup [.int f, .int 11, .ref bp]) := by rw [← hF]; walk_at "g_lk"
    have sh := hid_mono (S := [p, c]) sF
    have dL : Dq (hid [p, c] F) (.ref bp) (.list (fs.map fldD)) := .lst (sh _ _ g2) (g3.same sh)
    have kF := (a2.same sF).mono (show z + 1 ≤ z + 8 by omega)
    have bF : But2 p c H F := fun b o x y e => sF _ _ (a3 b o x y e)
    clear hF n1 n2 n3 n4 n5 nq
    rcases hw9 with rfl | rfl | rfl | rfl
    · exact k q w9 (-1) s (-1) (fs.map fldD) F jq (.tup (hid_lk (by simp [e1]) l1) (.cons (.int _) (.cons (.int _) (.cons dL .nil)))) (by unfold badB; rw [if_pos (by omega)]) fall ⟨fs30, by omega, by omega⟩ kF bF
    · exact k q w9 11 s (-1) (fs.map fldD) F jq (.tup (hid_lk (by simp [e2]) l2) (.cons (.int _) (.cons (.int _) (.cons dL .nil)))) (by unfold badB; rw [if_pos (by omega)]) fall ⟨fs30, by omega, by omega⟩ kF bF
    · exact k q w9 f (-1) (-1) (fs.map fldD) F jq (.tup (hid_lk (by simp [e3]) l3) (.cons (.int _) (.cons (.int _) (.cons dL .nil)))) (by unfold badB; rw [if_pos (by omega)]) fall ⟨fs30, by omega, by omega⟩ kF bF
    · exact k q w9 f 11 (-1) (fs.map fldD) F jq (.tup (hid_lk (by simp [e4]) l4) (.cons (.int _) (.cons (.int _) (.cons dL .nil)))) (by unfold badB; rw [if_pos (by omega)]) fall ⟨fs30, by omega, by omega⟩ kF bF
  walk_at "goS"
  refine i_seq ?_
  walk_at "goS"
  refine ite_d (fun c6 => ?_) (fun c6 => ?_)
  · walk_at "go"
    rename_i E1 n1
    refine i_rep (lk_new n1 g2r) (by omega) (by
      have : xs.length * (6 : Int).toNat ≤ 30 := by
        show xs.length * 6 ≤ 30
        omega
      exact Nat.le_trans this (by decide)) fun R nR => ?_
    have e1 : E1 ≠ p ∧ E1 ≠ c := ⟨by walk_at "g_ne", by walk_at "g_ne"⟩
    have e2 : R ≠ p ∧ R ≠ c := ⟨by walk_at "g_ne", by walk_at "g_ne"⟩
    have i6 : (6 : Int).toNat = 6 := rfl
    rw [i6] at *
    obtain rfl | rfl : way = 4 ∨ way = 5 := by omega
    · walk_at "go"
      rename_i S n2 T1 n3 q nq
      have e3 : T1 ≠ p ∧ T1 ≠ c := ⟨by walk_at "g_ne", by walk_at "g_ne"⟩
      generalize hF : upd _ q _ = F
      have sF : Same H1 F := by rw [← hF]; walk_at "g_same"
      have jq : F q = some (.tup [.ref T1, .int (-1)]) := by rw [← hF]; exact upd_same
      have l1 : F T1 = some (.tup [.int f, .int s, .ref E1]) := by rw [← hF]; walk_at "g_lk"
      have l2 : F E1 = some (.lst []) := by rw [← hF]; walk_at "g_lk"
      exact k q T1 f s (-1) [] F jq (.tup (hid_lk (by simp [e3]) l1) (.cons (.int _) (.cons (.int _) (.cons (.lst (hid_lk (by simp [e1]) l2) .nil) .nil)))) (by unfold badB; rw [if_pos (by simp)]) nofun ⟨by simp, by omega, by omega⟩ ((a2.same sF).mono (by omega)) (fun b o x y e => sF _ _ (a3 b o x y e))
    · walk_at "go"
      rename_i S n2 T1 n3 q nq
      have e3 : T1 ≠ p ∧ T1 ≠ c := ⟨by walk_at "g_ne", by walk_at "g_ne"⟩
      generalize hF : upd _ q _ = F
      have sF : Same H1 F := by rw [← hF]; walk_at "g_same"
      have jq : F q = some (.tup [.ref T1, .int (-1)]) := by rw [← hF]; exact upd_same
      have l1 : F T1 = some (.tup [.int f, .int s, .ref R]) := by rw [← hF]; walk_at "g_lk"
      have l2 : F R = some (.lst (List.replicate 6 xs).flatten) := by rw [← hF]; walk_at "g_lk"
      have dR := DqAll.rep6 (g3.same (hid_mono (S := [p, c]) sF)) 6
      have fl6 : ((List.replicate 6 (fs.map fldD)).flatten).length = 6 * fs.length := by rw [flat_len, List.length_map]
      exact k q T1 f s (-1) _ F jq (.tup (hid_lk (by simp [e3]) l1) (.cons (.int _) (.cons (.int _) (.cons (.lst (hid_lk (by simp [e2]) l2) dR) .nil)))) (by unfold badB; rw [if_pos (by rw [fl6]; omega)]) (fun d hd => fall d (flat_mem hd)) ⟨by rw [fl6]; omega, by omega, by omega⟩ ((a2.same sF).mono (by omega)) (fun b o x y e => sF _ _ (a3 b o x y e))
  walk_at "goS"
  refine i_seq ?_
  walk_at "goS"
  rename_i at1 H2 b1 b2 b3
  have s2 : Same (hid [p, c] H1) (hid [p, c] H2) := hid_but2 b3
  have g2' := s2 _ _ g2
  have g3' := g3.same s2
  have g2r2 := hid_same _ _ g2'
  obtain ⟨x0, hat, hx0⟩ := at_lt (xs := xs) (i := at1) b1.1 b1.2
  obtain ⟨fl0, y1, y2⟩ := fld_at g3' hx0
  have fo := p3.at y1
  have fw := p4 fl0 (List.mem_of_getElem? y1)
  walk_at "go"
  rename_i A n1 w d G H3 o1 o2 o3 o4 o5 o6 W1 n2 A2 n3
  have s3 : Same (hid [p, c] H2) (hid [p, c] H3) := (hid_new n1).trans (hid_but2 o6)
  have g9 := lk_new (o := .lst (List.take at1.toNat xs ++ [w])) n3 (lk_new (o := .lst [w]) n2 (hid_same _ _ (s3 _ _ g2')))
  walk_at "go"
  rename_i A3 n4 A4 n5 T1 n6 q nq
  have n1' := a2
  have B2 : But2 p c H H2 := fun b o x y e => b3 b o x y (a3 b o x y e)
  have B3 : But2 p c H H3 := fun b o x y e => o6 b o x y (Same.new n1 _ _ (B2 b o x y e))
  have e4 : A4 ≠ p ∧ A4 ≠ c := ⟨by walk_at "g_ne", by walk_at "g_ne"⟩
  have e5 : T1 ≠ p ∧ T1 ≠ c := ⟨by walk_at "g_ne", by walk_at "g_ne"⟩
  generalize hF : upd _ q _ = F
  have sF : Same H3 F := by rw [← hF]; walk_at "g_same"
  have jq : F q = some (.tup [.ref T1, .int at1]) := by rw [← hF]; exact upd_same
  have l1 : F T1 = some (.tup [.int f, .int s, .ref A4]) := by rw [← hF]; walk_at "g_lk"
  have l2 : F A4 = some (.lst (List.take at1.toNat xs ++ [w] ++ List.drop (at1 + 1).toNat xs)) := by rw [← hF]; walk_at "g_lk"
  clear hF n2 n3 n4 n5 n6 nq g9
  have hk : at1.toNat < xs.length := by omega
  rw [show List.take at1.toNat xs ++ [w] ++ List.drop (at1 + 1).toNat xs = xs.set at1.toNat w by
    rw [List.set_eq_take_append_cons_drop, if_pos hk, show (at1 + 1).toNat = at1.toNat + 1 by omega]
    simp] at l2
  have dw : Dq (hid [p, c] H3) w d := o1.same (same_hidS o4 fun b hb => by
    simp only [List.mem_cons, List.not_mem_nil, or_false] at hb
    have b2' : Pc p c (upd H2 A (.lst (List.take at1.toNat xs))) (z + 1 + 1) := b2.new n1
    rcases hb with rfl | rfl
    · exact o3.pc1 b2'
    · exact o3.pc2 b2')
  have dS := ((g3'.same s3).same (hid_mono (S := [p, c]) sF)).set (dw.same (hid_mono sF)) at1.toNat
  have hk2 : at1.toNat < (fs.map fldD).length := by rw [List.length_map]; omega
  refine k q T1 f s at1 ((fs.map fldD).set at1.toNat d) F jq (.tup (hid_lk (by simp [e5]) l1) (.cons (.int _) (.cons (.int _) (.cons (.lst (hid_lk (by simp [e4]) l2) dS) .nil)))) ?_ (fun d' hd' => ?_) ⟨by rw [List.length_set, List.length_map]; omega, by omega, by omega⟩ ((o5.same sF).mono (by omega)) (fun b o x y e => sF _ _ (B3 b o x y e))
  · have := bad_at (f := f) (s := s) (ds := (fs.map fldD).set at1.toNat d) ⟨hf.1, hf.2, hs.1, hs.2, by rw [List.length_set, List.length_map]; omega, by rw [List.length_set, List.length_map]; omega⟩ (k := at1.toNat) (d := d) (List.getElem?_set_self hk2) o2.no (fun j e hj he => by
      rw [List.getElem?_set_ne (by omega), List.getElem?_map] at he
      obtain ⟨x, hx, rfl⟩ := Option.map_eq_some_iff.mp he
      exact fld_ok.mpr (p3.at hx))
    rw [this]
    congr 1
    omega
  · rcases List.mem_or_eq_of_mem_set hd' with e | e
    · exact fall d' e
    · rw [e]
      exact ⟨o2.inn, o2.sd⟩
def sp_law (K : PySem.W.Frag) : Sp := fun vs H Q E => ∃ (a : Addr) (ns : List Int), vs = [.ref a] ∧ (SqL K H a (ns.map V.int)) ∧ (ns.length ≤ 63) ∧ ∀ (H' : Hp), Q (.bl true) H'
theorem use_law {K : PySem.W.Frag} {H : Hp} {Q : VK} {E : XK} {a : Addr} {ns : List Int} (p0 : SqL K H a (ns.map V.int)) (p1 : ns.length ≤ 63) (k : ∀ (H' : Hp), Q (.bl true) H') : sp_law K [.ref a] H Q E := ⟨a, ns, rfl, p0, p1, k⟩
theorem len_law {K : PySem.W.Frag} (vs : List V) (H : Hp) (Q : VK) (E : XK) (h : sp_law K vs H Q E) : vs.length = ["_law_script"].length := by
  obtain ⟨_, _, rfl, _⟩ := h
  rfl
local macro_rules | `(tactic| walk_at "g_call") => `(tactic| ((with_reducible refine' use_law ?c0 ?c1 ?_); (case c0 => walk_at "g_pre"); (case c1 => walk_at "g_pre"); intros))
theorem ok_law (T : Txt K mg) : FnA P w K mg base 16 T.a_law T.d_law ["_law_script"] (sp_law K) := by
  have G_l_purse := ok_l_purse (P := P) (w := w) (base := base) T
  have G_l_draw := ok_l_draw (P := P) (w := w) (base := base) T
  have G_l_field := ok_l_field (P := P) (w := w) (base := base) T
  have G_l_no_battle := ok_l_no_battle (P := P) (w := w) (base := base) T
  have G_l_copy := ok_l_copy (P := P) (w := w) (base := base) T
  have G_l_caught := ok_l_caught (P := P) (w := w) (base := base) T
  have G_l_said := ok_l_said (P := P) (w := w) (base := base) T
  have G_l_changed := ok_l_changed (P := P) (w := w) (base := base) T
  have G_l_marks := ok_l_marks (P := P) (w := w) (base := base) T
  refine fun_okA T.F_law sc_law len_law (fun cdv s H vs Q E hr h => ?_)
  refine ⟨_, (pss_cons (ps_set (i := 1) sc_law.nd rfl (Or.inl rfl) (pe_call G_l_purse (hr.mono (by first | decide | omega)) (by rfl) T.g_l_purse T.F_l_purse.kp T.b_l_purse .nil pass0 (pa_cons (pv 0) pa_nil)))
      (pss_cons (ps_for PassesOwn.never rfl (pi_range1 rfl T.z_range (pa_cons pe_int pa_nil)) (pg_name (i := 2) sc_law.nd rfl (Or.inl rfl)) (pss_cons (ps_set (i := 3) sc_law.nd rfl (Or.inl rfl) (pe_call G_l_draw (hr.mono (by first | decide | omega)) (by rfl) T.g_l_draw T.F_l_draw.kp T.b_l_draw .nil pass0 (pa_cons (pv 1) (pa_cons pe_int pa_nil))))
      (pss_cons (ps_set (i := 4) sc_law.nd rfl (Or.inl rfl) (pe_call G_l_draw (hr.mono (by first | decide | omega)) (by rfl) T.g_l_draw T.F_l_draw.kp T.b_l_draw .nil pass0 (pa_cons (pv 1) (pa_cons pe_int pa_nil))))
      (pss_cons (ps_set (i := 5) sc_law.nd rfl (Or.inr rfl) (pe_call G_l_field (hr.mono (by first | decide | omega)) (by rfl) T.g_l_field T.F_l_field.kp T.b_l_field .nil pass0 (pa_cons (pv 1) (pa_cons (pv 3) (pa_cons (pv 4) pa_nil)))))
      (pss_cons (ps_setLc (i := 6) (own := [("_law_k", 15)]) rfl sc_law.nd rfl rfl (sw_true rfl rfl rfl (by decide +kernel)) (pi_range1 rfl T.z_range (pa_cons (pe_op op_add pe_int (pe_call G_l_draw (hr.mono (by first | decide | omega)) (by rfl) T.g_l_draw T.F_l_draw.kp T.b_l_draw .nil pass0 (pa_cons (pv 1) (pa_cons pe_int pa_nil)))) pa_nil)) (blkOk_by (own := [("_law_k", 15)]) (N := ["_law_script", "_law_purse_here", "_law_turn", "_law_first", "_law_second", "_law_field_here", "_law_fields", "_law_battle", "_law_at", "_law_changed_here", "_law_none", "_law_due", "_law_kept", "_law_way", "_law_caught_here", "_law_k"]) (sc := defScope s_law) (by decide +kernel)) (fun _ _ _ _ _ => (pg_name (i := 15) sc_law.nd rfl (Or.inl rfl))) (fun _ _ _ _ _ => pts_nil) (fun _ _ _ _ _ => (pe_call G_l_copy (hr.mono (by first | decide | omega)) (by rfl) T.g_l_copy T.F_l_copy.kp T.b_l_copy .nil pass0 (pa_cons (pv 5) pa_nil))))
      (pss_cons (ps_set (i := 7) sc_law.nd rfl (Or.inl rfl) (pe_tup (pa_cons (pv 3) (pa_cons (pv 4) (pa_cons (pv 6) pa_nil)))))
      (pss_cons (ps_set (i := 8) sc_law.nd rfl (Or.inl rfl) (pe_call G_l_draw (hr.mono (by first | decide | omega)) (by rfl) T.g_l_draw T.F_l_draw.kp T.b_l_draw .nil pass0 (pa_cons (pv 1) (pa_cons (pe_callB (call_lenK K rfl) (by rfl) T.z_len (by decide +kernel) (pa_cons (pv 6) pa_nil)) pa_nil))))
      (pss_cons (ps_set (i := 9) sc_law.nd rfl (Or.inl rfl) (pe_op op_cat (pe_op op_cat (pe_slice (sl_listK K rfl) (pv 6) po_none (po_some (pv 8))) (pe_lst (pa_cons (pe_call G_l_changed (hr.mono (by first | decide | omega)) (by rfl) T.g_l_changed T.F_l_changed.kp T.b_l_changed .nil pass0 (pa_cons (pv 1) (pa_cons (pv 5) (pa_cons (pv 3) (pa_cons (pv 4) pa_nil))))) pa_nil))) (pe_slice (sl_listK K rfl) (pv 6) (po_some (pe_op op_add (pv 8) pe_int)) po_none)))
      (pss_cons (ps_if (PW.pt (pw_or (pt_not (pt_val (pe_call G_l_said (hr.mono (by first | decide | omega)) (by rfl) T.g_l_said T.F_l_said.kp T.b_l_said .nil pass0 (pa_cons (pv 7) (pa_cons pe_bl pa_nil))))) (pw_or1 (pt_not (pt_val (pe_call G_l_said (hr.mono (by first | decide | omega)) (by rfl) T.g_l_said T.F_l_said.kp T.b_l_said .nil pass0 (pa_cons (pe_tup (pa_cons (pv 3) (pa_cons (pv 4) (pa_cons (pv 9) pa_nil)))) (pa_cons (pe_cmpR op_eq (pe_callB (call_lenK K rfl) (by rfl) T.z_len (by decide +kernel) (pa_cons (pv 6) pa_nil)) pe_int (nomark _)) pa_nil)))))))) (pss_one (ps_ret pe_bl)) pss_nil)
      (pss_cons (ps_asg (pe_call G_l_no_battle (hr.mono (by first | decide | omega)) (by rfl) T.g_l_no_battle T.F_l_no_battle.kp T.b_l_no_battle .nil pass0 (pa_cons (pv 1) (pa_cons (pe_tup (pa_cons (pv 3) (pa_cons (pv 4) (pa_cons (pe_ix (ix_listK K rfl) (pe_lst (pa_cons (pv 6) (pa_cons (pv 9) pa_nil))) (pe_op op_mod (pv 2) pe_int) (fun _ _ => rfl)) pa_nil)))) pa_nil))) (pg_tupK K rfl 2 rfl (pgs_cons (pg_name (i := 10) sc_law.nd rfl (Or.inl rfl)) (pgs_cons (pg_name (i := 11) sc_law.nd rfl (Or.inl rfl)) pgs_nil))))
      (pss_cons (ps_set (i := 12) sc_law.nd rfl (Or.inl rfl) (pe_callTy (call_strDK K rfl rfl (Hf.hu100 hr)) (by rfl) T.z_str (by decide +kernel) (pa_cons (pv 10) pa_nil)))
      (pss_one (ps_for PassesOwn.never rfl (pi_range1 rfl T.z_range (pa_cons pe_int pa_nil)) (pg_name (i := 13) sc_law.nd rfl (Or.inl rfl)) (pss_cons (ps_set (i := 14) sc_law.nd rfl (Or.inl rfl) (pe_call G_l_caught (hr.mono (by first | decide | omega)) (by rfl) T.g_l_caught T.F_l_caught.kp T.b_l_caught .nil pass0 (pa_cons (pv 13) (pa_cons (pv 10) (pa_cons (pe_lst (pa_cons (pe_un un_neg pe_int) pa_nil)) (pa_cons (pe_lst pa_nil) pa_nil))))))
      (pss_cons (ps_if (PW.pt (pw_or (pt_cmpR (op_neDK K rfl hr.units) (pe_call G_l_marks (hr.mono (by first | decide | omega)) (by rfl) T.g_l_marks T.F_l_marks.kp T.b_l_marks .nil pass0 (pa_cons (pv 14) pa_nil)) (pe_lst (pa_cons pe_str pa_nil)) (nomark _)) (pw_or (pt_val (pe_callB (call_isXK K rfl) (by rfl) T.z_isinstance (by decide +kernel) (pa_cons (pe_xfH K rfl (pv 14)) (pa_cons (pe_bltn (v := .ty "bool") rfl T.z_bool (by decide +kernel) rfl) pa_nil)))) (pw_or1 (pt_cmpR (op_neDK K rfl hr.units) (pe_xfH K rfl (pv 14)) (pv 11) (nomark _)))))) (pss_one (ps_ret pe_bl)) pss_nil)
      (pss_one (ps_if (pt_cmpR op_ne (pe_callTy (call_strDK K rfl rfl (Hf.hu100 hr)) (by rfl) T.z_str (by decide +kernel) (pa_cons (pv 10) pa_nil)) (pv 12) (nomark _)) (pss_one (ps_ret pe_bl)) pss_nil)))))))))))))))))
      (pss_one (ps_ret pe_bl)))), ?_⟩
  try dsimp only [L2.cxOf, L2.Cx.nox, L2.Cx.wish, List.map_cons, List.map_nil]
  obtain ⟨a, ns, rfl, p0, p1, k⟩ := h
  refine start_to (σ := [some _, none, none, none, none, none, none, none, none, none, none, none, none, none, none, none]) rfl ?_
  walk_at "goF"
  rename_i p c H1 pk s1 n1 n2
  walk_at "go"
  refine forR (fun i σ H2 => ∃ (y2 y3 y4 y5 y6 y7 y8 y9 y10 y11 y12 y13 y14 y15 : Option V), σ = [some (.ref a), some (.ref p), y2, y3, y4, y5, y6, y7, y8, y9, y10, y11, y12, y13, y14, y15] ∧ Pc p c H2 (1000 * (i : Int))) ⟨_, _, _, _, _, _, _, _, _, _, _, _, _, _, rfl, pk.mono (by omega)⟩ ?_ ?_
  · rintro σ H2 ⟨y2, y3, y4, y5, y6, y7, y8, y9, y10, y11, y12, y13, y14, y15, rfl, k0⟩
    walk_at "go"
    exact k _
  · clear p0 p1 pk s1 n1 n2
    rintro i σ H2 hi ⟨y2, y3, y4, y5, y6, y7, y8, y9, y10, y11, y12, y13, y14, y15, rfl, k0⟩
    have hi4 : i < 4 := by omega
    walk_at "goS"
    refine i_seq ?_
    walk_at "goS"
    refine i_seq ?_
    walk_at "goS"
    refine i_seq ?_
    walk_at "goS"
    rename_i f H3 a1 a2 a3 s H4 a4 a5 a6 v fl G H5 b1 b2 b3 b4 b5 b6
    have dv : Dq (hid [p, c] H5) v (fldD fl) := b1.same (same_hidS b4 fun b hb => by
      simp only [List.mem_cons, List.not_mem_nil, or_false] at hb
      rcases hb with rfl | rfl
      · exact b3.pc1 a5
      · exact b3.pc2 a5)
    obtain ⟨b21, b22⟩ := b2
    have fw := fldw_sm b22
    have f10 : f ≤ 10 ∧ s ≤ 10 := by omega
    clear a2 a3 a5 a6 b1 b3 b4 b6 k0
    refine i_seq ?_
    walk_at "goS"
    rename_i d1 H6 c1 c2 c3
    have dv6 : Dq (hid [p, c] H6) v (fldD fl) := dv.same (hid_but2 c3)
    have dv6r := dv6.same hid_same
    obtain ⟨n, hn⟩ : ∃ n : Nat, 1 + d1 = n := ⟨(1 + d1).toNat, by omega⟩
    have hn5 : 1 ≤ n ∧ n ≤ 5 := by omega
    rw [hn]
    clear dv c3
    intro D nD
    refine lcR_own (fun _ => fldD fl) nD (by omega) ?_ ?_
    · intro j H7 Z Y hj s7 hz
      have dv7 := dv6r.same s7
      walk_at "go"
      rename_i w S H8 o1 o2
      exact hz w S H8 o1 o2
    · intro S H7 o1 s7
      have k7 := c2.same s7
      have dD : Dq (hid [p, c] H7) (.ref D) (.list ((List.replicate n fl).map fldD)) := by
        have := o1.ow.hid (T := [p, c]) (fun b xs hb e => ?_) (fun b hb hb' => ?_)
        · rw [Int.toNat_natCast, List.map_const', List.length_range] at this
          rw [List.map_replicate]
          exact this
        · obtain ⟨ns9, z9, e1, e2, _⟩ := k7
          simp only [List.mem_cons, List.not_mem_nil, or_false] at hb
          rcases hb with rfl | rfl
          · rw [e1] at e; cases e
          · rw [e2] at e; cases e
        · obtain ⟨ns9, z9, e1, e2, _⟩ := c2
          have e := o1.nw b hb
          simp only [List.mem_cons, List.not_mem_nil, or_false] at hb'
          rcases hb' with rfl | rfl
          · rw [e1] at e; cases e
          · rw [e2] at e; cases e
      have dv7 := dv6.same (hid_mono (S := [p, c]) s7)
      obtain ⟨_, ws, e0, g1, g2⟩ := dD.list_inv
      cases e0
      have wl : ws.length = n := by rw [g2.len, List.length_map, List.length_replicate]
      have g1r := hid_same _ _ g1
      clear o1 s7 c2 dv6 dv6r
      walk_at "goS"
      refine i_seq ?_
      walk_at "goS"
      rename_i bT nT
      have bTx : bT ≠ p ∧ bT ≠ c := ⟨k7.ne1 nT, k7.ne2 nT⟩
      have sT : Same (hid [p, c] H7) (hid [p, c] (upd H7 bT (.tup [.int f, .int s, .ref D]))) := hid_new nT
      have dB : Dq (hid [p, c] (upd H7 bT (.tup [.int f, .int s, .ref D]))) (.ref bT) (batD f s (List.replicate n fl)) := .tup (hid_lk (by simp [bTx]) upd_same) (.cons (.int _) (.cons (.int _) (.cons (dD.same sT) .nil)))
      have k8 := k7.new (o := .tup [.int f, .int s, .ref D]) nT
      have dv8 := dv7.same sT
      have g18 := sT _ _ g1
      have g18r := hid_same _ _ g18
      have g28 := g2.same sT
      clear k7 dD dv7 g2 g1 g1r nT sT
      generalize upd H7 bT (.tup [.int f, .int s, .ref D]) = H8 at *
      have hb : 0 < (ws.length : Int) ∧ (ws.length : Int) < 2 ^ 200 := by omega
      walk_at "goS"
      refine i_seq ?_
      walk_at "goS"
      rename_i at1 H9 e1 e2 e3
      have s9 : Same (hid [p, c] H8) (hid [p, c] H9) := hid_but2 e3
      have dB9 := dB.same s9
      have dv9 := dv8.same s9
      have g19 := s9 _ _ g18
      have g29 := g28.same s9
      have g19r := hid_same _ _ g19
      clear dB dv8 g18 g18r g28 s9 e3 k8
      refine i_seq ?_
      walk_at "goS"
      rename_i A n1 w fl2 G2 H10 o1 o2 o3 o4 o5 o6 o7 W1 n2 A2 n3
      have s10 : Same (hid [p, c] H9) (hid [p, c] H10) := (hid_new n1).trans (hid_but2 o7)
      have gx := lk_new (o := .lst (List.take at1.toNat ws ++ [w])) n3 (lk_new (o := .lst [w]) n2 (hid_same _ _ (s10 _ _ g19)))
      walk_at "goS"
      rename_i A3 n4 A4 n5
      have e4 : A4 ≠ p ∧ A4 ≠ c := ⟨by walk_at "g_ne", by walk_at "g_ne"⟩
      generalize hF : upd _ A4 _ = F
      have sF : Same H10 F := by rw [← hF]; walk_at "g_same"
      have l2 : F A4 = some (.lst (List.take at1.toNat ws ++ [w] ++ List.drop (at1 + 1).toNat ws)) := by rw [← hF]; exact upd_same
      have hk : at1.toNat < ws.length := by omega
      rw [show List.take at1.toNat ws ++ [w] ++ List.drop (at1 + 1).toNat ws = ws.set at1.toNat w by
        rw [List.set_eq_take_append_cons_drop, if_pos hk, show (at1 + 1).toNat = at1.toNat + 1 by omega]
        simp] at l2
      have dw : Dq (hid [p, c] H10) w (fldD fl2) := o1.same (same_hidS o5 fun b hb => by
        simp only [List.mem_cons, List.not_mem_nil, or_false] at hb
        have b2' := e2.new (o := .lst (List.take at1.toNat ws)) n1
        rcases hb with rfl | rfl
        · exact o4.pc1 b2'
        · exact o4.pc2 b2')
      have sF' := hid_mono (S := [p, c]) sF
      have dC : Dq (hid [p, c] F) (.ref A4) (.list (((List.replicate n fl).set at1.toNat fl2).map fldD)) := .lst (hid_lk (by simp [e4]) l2) (by
        rw [List.map_set]
        exact ((g29.same s10).same sF').set (dw.same sF') at1.toNat)
      have dBF := dB9.same (s10.trans sF')
      have dDF : Dq (hid [p, c] F) (.ref D) (.list ((List.replicate n fl).map fldD)) := .lst ((s10.trans sF') _ _ g19) (g29.same (s10.trans sF'))
      have kF := o6.same sF
      have gDr : F D = some (.lst ws) := hid_same _ _ ((s10.trans sF') _ _ g19)
      clear hF n1 n2 n3 n4 n5 gx o1 o4 o5 o7 s10 sF sF' l2 dw dB9 dv9 g19 g29 g19r e2
      obtain ⟨o21, o22⟩ := o2
      have ok1 : BatOk f s (List.replicate n fl) := ⟨by omega, by omega, by rw [List.length_replicate]; omega, fun x hx => by rw [List.eq_of_mem_replicate hx]; exact b21⟩
      have ok2 : BatOk f s ((List.replicate n fl).set at1.toNat fl2) := ⟨by omega, by omega, by rw [List.length_set, List.length_replicate]; omega, fun x hx => by
        rcases List.mem_or_eq_of_mem_set hx with e | e
        · rw [List.eq_of_mem_replicate e]; exact b21
        · rw [e]; exact o21⟩
      have w1 : ∀ x ∈ List.replicate n fl, FldW x := fun x hx => by rw [List.eq_of_mem_replicate hx]; exact fw
      have w2 : ∀ x ∈ (List.replicate n fl).set at1.toNat fl2, FldW x := fun x hx => by
        rcases List.mem_or_eq_of_mem_set hx with e | e
        · rw [List.eq_of_mem_replicate e]; exact fw
        · rw [e]; exact o22
      have al1 := alike_rep fl n
      have al2 : alikeB (((List.replicate n fl).set at1.toNat fl2).map fldD) = decide ((ws.length : Int) = 1) := by
        by_cases c9 : n = 1
        · subst c9
          rw [decide_eq_true (by omega), show at1.toNat = 0 by omega]
          exact alike_rep fl2 1
        · rw [decide_eq_false (by omega)]
          exact alike_set (by omega) (by omega) o3
      have dBFr := dBF.same hid_same
      refine i_seq ?_
      walk_at "goS"
      rename_i H11 s11 m1 nm1
      have dC2 : Dq (upd H11 m1 (.tup [.int f, .int s, .ref A4])) (.ref m1) (batD f s ((List.replicate n fl).set at1.toNat fl2)) := .tup upd_same (.cons (.int _) (.cons (.int _) (.cons (((dC.same hid_same).same s11).same (Same.new nm1)) .nil)))
      refine use_l_said dC2 ok2 al2 fun H12 s12 => ?_
      have s13 := (s11.trans (Same.new (o := .tup [.int f, .int s, .ref A4]) nm1)).trans s12
      have k12 := (kF.same s13).mono (show 1000 * (i : Int) + 1 + 1 + 200 + 1 + 1 + 6 ≤ 1000 * (i : Int) + 300 by omega)
      obtain ⟨x, fs2, hatx, dX, okX, wX⟩ : ∃ (x : Addr) (fs2 : List Fld), atI [V.ref D, V.ref A4] ((0 + (i : Int)) % 2) = some (.ref x) ∧ Dq (hid [p, c] H12) (.ref x) (.list (fs2.map fldD)) ∧ BatOk f s fs2 ∧ ∀ y ∈ fs2, FldW y := by
        rcases (by omega : (0 + (i : Int)) % 2 = 0 ∨ (0 + (i : Int)) % 2 = 1) with e | e
        · exact ⟨D, _, by rw [e]; rfl, dDF.same (hid_mono s13), ok1, w1⟩
        · exact ⟨A4, _, by rw [e]; rfl, dC.same (hid_mono s13), ok2, w2⟩
      clear dC2 s11 s12 nm1 s13 kF dC dDF dBF dBFr gDr al1 al2 ok1 ok2 w1 w2 o21 o22
      walk_at "goS"
      refine i_seq ?_
      walk_at "goS"
      rename_i X nX m2 nm2
      have m2x : m2 ≠ p ∧ m2 ≠ c := ⟨by walk_at "g_ne", by walk_at "g_ne"⟩
      have sx : Same (hid [p, c] H12) (hid [p, c] (upd (upd H12 X (.lst [.ref D, .ref A4])) m2 (.tup [.int f, .int s, .ref x]))) := (hid_new nX).trans (hid_new nm2)
      have dN : Dq (hid [p, c] (upd (upd H12 X (.lst [.ref D, .ref A4])) m2 (.tup [.int f, .int s, .ref x]))) (.ref m2) (batD f s fs2) := .tup (hid_lk (by simp [m2x]) upd_same) (.cons (.int _) (.cons (.int _) (.cons (dX.same sx) .nil)))
      refine use_l_no_battle ((k12.new nX).new nm2) (by omega) dN okX wX fun q nb f' s' due ds H13 r1 r2 r3 r4 r5 r6 r7 => ?_
      clear dN sx dX k12 nX nm2 hatx okX wX r7
      obtain ⟨r51, r52, r53⟩ := r5
      have r2r := r2.same hid_same
      have sdL : Sd 4 12000 (.list ds) := by
        have b := bulkA_le (k := 300) (ds := ds) fun d hd => (r4 d hd).2.bk
        have : ds.length * 301 ≤ 30 * 301 := Nat.mul_le_mul_right _ r51
        exact Sd.list (fun d hd => (r4 d hd).2.mono (Nat.le_refl _) (by decide)) (by omega)
      have sdB : Sd 5 12100 (batT f' s' ds) := by
        have := sdL.bk
        refine Sd.tuple (fun d hd => ?_) ?_
        · simp only [List.mem_cons, List.not_mem_nil, or_false] at hd
          rcases hd with rfl | rfl | rfl
          · exact Sd.int (by omega)
          · exact Sd.int (by omega)
          · exact sdL.mono (Nat.le_refl _) (by decide)
        · simp only [PyData.bulkAll, PyData.bulk] at this ⊢
          omega
      obtain ⟨sh1, sh2, sh3, sh4, sh5, sh6⟩ := sdB.ok (by decide) (by decide)
      have fin : ∀ d ∈ ds, FldIn d := fun d hd => (r4 d hd).1
      have ds1 : ds.length ≤ 1000 := by omega
      clear sdL sdB r4
      walk_at "goS"
      refine i_seq ?_
      walk_at "goS"
      refine i_strD r2r sh1 sh2 sh3 sh4 ?_
      walk_at "goS"
      have k13 := r6.mono (show 1000 * (i : Int) + 300 + 8 ≤ 1000 * (i : Int) + 400 by omega)
      refine forR (fun j σ H => ∃ (y13 y14 : Option V), σ = [some (.ref a), some (.ref p), some (.int (0 + (i : Int))), some (.int f), some (.int s), some v, some (.ref D), some (.ref bT), some (.int at1), some (.ref A4), some (.ref nb), some (.int due), some (.str (strT (batT f' s' ds))), y13, y14, y15] ∧ Same H13 H) ⟨_, _, rfl, Same.refl _⟩ ?_ ?_
      · rintro σ H14 ⟨y13, y14, rfl, g⟩
        exact ⟨_, _, _, _, _, _, _, _, _, _, _, _, _, _, rfl, (k13.same g).mono (by omega)⟩
      · rintro j σ H14 hj ⟨y13, y14, rfl, g⟩
        have hj4 : j < 4 := by omega
        have r24 := r2r.same g
        walk_at "goS"
        refine i_seq ?_
        walk_at "goS"
        rename_i z1 m3 z2 m4
        have r25 := r24.same ((Same.new (o := .lst [.int (-1)]) m3).trans (Same.new (o := .lst []) m4))
        refine use_l_caught (ms := [-1]) (ns := []) (by omega) r25 fin ds1 (lk_new m4 upd_same) upd_same ⟨by simp, by simp⟩ (fun z => by rw [r3] at z; cases z) fun a9 H15 y1 y2 y3 y4 => ?_
        obtain ⟨d9, u1, u2⟩ := y1 due r3
        have g15 := (g.trans ((Same.new (o := .lst [.int (-1)]) m3).trans (Same.new (o := .lst []) m4))).trans y4
        have r26 := r25.same y4
        clear y1 y2 y3 y4 m3 m4 r24 r25
        walk_at "goS"
        refine i_seq ?_
        walk_at "goS"
        refine use_l_marks (dd := d9) (y := .int due) (i := 1) (by omega) (fun z => by cases z) (fun _ => u1) (fun _ => u2) (fun z => by cases z) fun b9 H16 h9 s9 => ?_
        have h9' : H16 b9 = some (.lst [.str (PySem.Str.ofString "battle")]) := h9
        have v1 := s9 _ _ u1
        have v2 := s9 _ _ u2
        have r27 := r26.same s9
        have g16 := g15.trans s9
        clear u1 u2 r26 g15 s9 h9
        walk_at "goS"
        rename_i l9 nl9
        have r28 := r27.same (Same.new (o := .lst [V.str (PySem.Str.ofString "battle")]) nl9)
        have g17 := g16.trans (Same.new (o := .lst [V.str (PySem.Str.ofString "battle")]) nl9)
        clear r27 g16 v1 v2 h9'
        refine i_neDq (d := .int due) (.int _) (.int _) (shaped_of (by simp [PyData.canLay0]) (by simp [dep])) ?_
        walk_at "goS"
        refine i_strD r28 sh1 sh2 sh3 sh4 ?_
        walk_at "goS"
        refine ite_n (by simp) ?_
        walk_at "goS"
        exact ⟨_, _, rfl, g17⟩

end
theorem mk_txt {K : PySem.W.Frag} {h : Heap} {mg : Str → Option Value} {f_NoBattle_init : Addr} {o_NoBattle_init n_NoBattle_init : Option Addr} {w_NoBattle_init : Array (Option Value)} {q1_NoBattle_init q2_NoBattle_init q3_NoBattle_init q4_NoBattle_init q5_NoBattle_init q6_NoBattle_init : Value} {f_is_number : Addr} {o_is_number n_is_number : Option Addr} {w_is_number : Array (Option Value)} {q1_is_number q2_is_number q3_is_number q4_is_number q5_is_number q6_is_number : Value} {f_are_numbers : Addr} {o_are_numbers n_are_numbers : Option Addr} {w_are_numbers : Array (Option Value)} {q1_are_numbers q2_are_numbers q3_are_numbers q4_are_numbers q5_are_numbers q6_are_numbers : Value} {f_is_rule : Addr} {o_is_rule n_is_rule : Option Addr} {w_is_rule : Array (Option Value)} {q1_is_rule q2_is_rule q3_is_rule q4_is_rule q5_is_rule q6_is_rule : Value} {f_is_field : Addr} {o_is_field n_is_field : Option Addr} {w_is_field : Array (Option Value)} {q1_is_field q2_is_field q3_is_field q4_is_field q5_is_field q6_is_field : Value} {f_look_battle : Addr} {o_look_battle n_look_battle : Option Addr} {w_look_battle : Array (Option Value)} {q1_look_battle q2_look_battle q3_look_battle q4_look_battle q5_look_battle q6_look_battle : Value} {f_paid : Addr} {o_paid n_paid : Option Addr} {w_paid : Array (Option Value)} {q1_paid q2_paid q3_paid q4_paid q5_paid q6_paid : Value} {f_is_plan : Addr} {o_is_plan n_is_plan : Option Addr} {w_is_plan : Array (Option Value)} {q1_is_plan q2_is_plan q3_is_plan q4_is_plan q5_is_plan q6_is_plan : Value} {f_must_be_sizes : Addr} {o_must_be_sizes n_must_be_sizes : Option Addr} {w_must_be_sizes : Array (Option Value)} {q1_must_be_sizes q2_must_be_sizes q3_must_be_sizes q4_must_be_sizes q5_must_be_sizes q6_must_be_sizes : Value} {f_Fallings_init : Addr} {o_Fallings_init n_Fallings_init : Option Addr} {w_Fallings_init : Array (Option Value)} {q1_Fallings_init q2_Fallings_init q3_Fallings_init q4_Fallings_init q5_Fallings_init q6_Fallings_init : Value} {f_Fallings_many : Addr} {o_Fallings_many n_Fallings_many : Option Addr} {w_Fallings_many : Array (Option Value)} {q1_Fallings_many q2_Fallings_many q3_Fallings_many q4_Fallings_many q5_Fallings_many q6_Fallings_many : Value} {f_counts_many : Addr} {o_counts_many n_counts_many : Option Addr} {w_counts_many : Array (Option Value)} {q1_counts_many q2_counts_many q3_counts_many q4_counts_many q5_counts_many q6_counts_many : Value} {f_counts_of : Addr} {o_counts_of n_counts_of : Option Addr} {w_counts_of : Array (Option Value)} {q1_counts_of q2_counts_of q3_counts_of q4_counts_of q5_counts_of q6_counts_of : Value} {f_divisor : Addr} {o_divisor n_divisor : Option Addr} {w_divisor : Array (Option Value)} {q1_divisor q2_divisor q3_divisor q4_divisor q5_divisor q6_divisor : Value} {f_ratio : Addr} {o_ratio n_ratio : Option Addr} {w_ratio : Array (Option Value)} {q1_ratio q2_ratio q3_ratio q4_ratio q5_ratio q6_ratio : Value} {f_minus : Addr} {o_minus n_minus : Option Addr} {w_minus : Array (Option Value)} {q1_minus q2_minus q3_minus q4_minus q5_minus q6_minus : Value} {f_divided_out : Addr} {o_divided_out n_divided_out : Option Addr} {w_divided_out : Array (Option Value)} {q1_divided_out q2_divided_out q3_divided_out q4_divided_out q5_divided_out q6_divided_out : Value} {f_begun : Addr} {o_begun n_begun : Option Addr} {w_begun : Array (Option Value)} {q1_begun q2_begun q3_begun q4_begun q5_begun q6_begun : Value} {f_entering : Addr} {o_entering n_entering : Option Addr} {w_entering : Array (Option Value)} {q1_entering q2_entering q3_entering q4_entering q5_entering q6_entering : Value} {f_leaving : Addr} {o_leaving n_leaving : Option Addr} {w_leaving : Array (Option Value)} {q1_leaving q2_leaving q3_leaving q4_leaving q5_leaving q6_leaving : Value} {f_turned : Addr} {o_turned n_turned : Option Addr} {w_turned : Array (Option Value)} {q1_turned q2_turned q3_turned q4_turned q5_turned q6_turned : Value} {f_solved : Addr} {o_solved n_solved : Option Addr} {w_solved : Array (Option Value)} {q1_solved q2_solved q3_solved q4_solved q5_solved q6_solved : Value} {f_is_alike : Addr} {o_is_alike n_is_alike : Option Addr} {w_is_alike : Array (Option Value)} {q1_is_alike q2_is_alike q3_is_alike q4_is_alike q5_is_alike q6_is_alike : Value} {f_must_be_alike : Addr} {o_must_be_alike n_must_be_alike : Option Addr} {w_must_be_alike : Array (Option Value)} {q1_must_be_alike q2_must_be_alike q3_must_be_alike q4_must_be_alike q5_must_be_alike q6_must_be_alike : Value} {f_met : Addr} {o_met n_met : Option Addr} {w_met : Array (Option Value)} {q1_met q2_met q3_met q4_met q5_met q6_met : Value} {f_ring_gain : Addr} {o_ring_gain n_ring_gain : Option Addr} {w_ring_gain : Array (Option Value)} {q1_ring_gain q2_ring_gain q3_ring_gain q4_ring_gain q5_ring_gain q6_ring_gain : Value} {f_all_counts : Addr} {o_all_counts n_all_counts : Option Addr} {w_all_counts : Array (Option Value)} {q1_all_counts q2_all_counts q3_all_counts q4_all_counts q5_all_counts q6_all_counts : Value} {f_table_by_counts : Addr} {o_table_by_counts n_table_by_counts : Option Addr} {w_table_by_counts : Array (Option Value)} {q1_table_by_counts q2_table_by_counts q3_table_by_counts q4_table_by_counts q5_table_by_counts q6_table_by_counts : Value} {f_counts_table : Addr} {o_counts_table n_counts_table : Option Addr} {w_counts_table : Array (Option Value)} {q1_counts_table q2_counts_table q3_counts_table q4_counts_table q5_counts_table q6_counts_table : Value} {f_with_weights : Addr} {o_with_weights n_with_weights : Option Addr} {w_with_weights : Array (Option Value)} {q1_with_weights q2_with_weights q3_with_weights q4_with_weights q5_with_weights q6_with_weights : Value} {f_counts_worth : Addr} {o_counts_worth n_counts_worth : Option Addr} {w_counts_worth : Array (Option Value)} {q1_counts_worth q2_counts_worth q3_counts_worth q4_counts_worth q5_counts_worth q6_counts_worth : Value} {f_l_purse : Addr} {o_l_purse n_l_purse : Option Addr} {w_l_purse : Array (Option Value)} {q1_l_purse q2_l_purse q3_l_purse q4_l_purse q5_l_purse q6_l_purse : Value} {f_l_draw : Addr} {o_l_draw n_l_draw : Option Addr} {w_l_draw : Array (Option Value)} {q1_l_draw q2_l_draw q3_l_draw q4_l_draw q5_l_draw q6_l_draw : Value} {f_l_field : Addr} {o_l_field n_l_field : Option Addr} {w_l_field : Array (Option Value)} {q1_l_field q2_l_field q3_l_field q4_l_field q5_l_field q6_l_field : Value} {f_l_copy : Addr} {o_l_copy n_l_copy : Option Addr} {w_l_copy : Array (Option Value)} {q1_l_copy q2_l_copy q3_l_copy q4_l_copy q5_l_copy q6_l_copy : Value} {f_l_changed : Addr} {o_l_changed n_l_changed : Option Addr} {w_l_changed : Array (Option Value)} {q1_l_changed q2_l_changed q3_l_changed q4_l_changed q5_l_changed q6_l_changed : Value} {f_l_no_field : Addr} {o_l_no_field n_l_no_field : Option Addr} {w_l_no_field : Array (Option Value)} {q1_l_no_field q2_l_no_field q3_l_no_field q4_l_no_field q5_l_no_field q6_l_no_field : Value} {f_l_no_battle : Addr} {o_l_no_battle n_l_no_battle : Option Addr} {w_l_no_battle : Array (Option Value)} {q1_l_no_battle q2_l_no_battle q3_l_no_battle q4_l_no_battle q5_l_no_battle q6_l_no_battle : Value} {f_l_marks : Addr} {o_l_marks n_l_marks : Option Addr} {w_l_marks : Array (Option Value)} {q1_l_marks q2_l_marks q3_l_marks q4_l_marks q5_l_marks q6_l_marks : Value} {f_l_caught : Addr} {o_l_caught n_l_caught : Option Addr} {w_l_caught : Array (Option Value)} {q1_l_caught q2_l_caught q3_l_caught q4_l_caught q5_l_caught q6_l_caught : Value} {f_l_said : Addr} {o_l_said n_l_said : Option Addr} {w_l_said : Array (Option Value)} {q1_l_said q2_l_said q3_l_said q4_l_said q5_l_said q6_l_said : Value} {f_law : Addr} {o_law n_law : Option Addr} {w_law : Array (Option Value)} {q1_law q2_law q3_law q4_law q5_law q6_law : Value} {e_Fallings : Addr} {t_MOST_HOSTS_fields : Tok} {t_MOST_FIELDS_fields : Tok} {t_MOST_HOSTS_plans : Tok} {t_MOST_FIELDS_plans : Tok} {e_HostError : Addr} {e_NoBattle : Addr} {e_NoPlan : Addr} {e_NoMix : Addr} {e_NoStream : Addr} {e_NoSide : Addr} {e_NoAlike : Addr} {e_NoNumber : Addr} {e_TooGreat : Addr} {e_NoEven : Addr} {e_NoText : Addr} {e_NoRow : Addr} {e_NoName : Addr} {e_NoPlace : Addr} {xn_NoBattle xq_NoBattle : Str} {xN_NoBattle : Addr} {xb_NoBattle : List Value} {xs_NoBattle : List Str} {xu_NoBattle : List Value} {xa_NoBattle : Bool} {xc_NoBattle : Option Bool} {xd_NoBattle : Option Addr} {x0_NoBattle x1_NoBattle x2_NoBattle x3_NoBattle x5_NoBattle : Option Value} (X : K.In h) (G : h.Ns mainGlobals mg)
    (h_Fallings : PySem.W.nsIn K mainGlobals "Fallings" = some (some (.ref e_Fallings)))
    (h_HostError : PySem.W.nsIn K mainGlobals "HostError" = some (some (.ref e_HostError)))
    (h_NoBattle : PySem.W.nsIn K mainGlobals "NoBattle" = some (some (.ref e_NoBattle)))
    (h_NoPlan : PySem.W.nsIn K mainGlobals "NoPlan" = some (some (.ref e_NoPlan)))
    (h_NoMix : PySem.W.nsIn K mainGlobals "NoMix" = some (some (.ref e_NoMix)))
    (h_NoStream : PySem.W.nsIn K mainGlobals "NoStream" = some (some (.ref e_NoStream)))
    (h_NoSide : PySem.W.nsIn K mainGlobals "NoSide" = some (some (.ref e_NoSide)))
    (h_NoAlike : PySem.W.nsIn K mainGlobals "NoAlike" = some (some (.ref e_NoAlike)))
    (h_NoNumber : PySem.W.nsIn K mainGlobals "NoNumber" = some (some (.ref e_NoNumber)))
    (h_TooGreat : PySem.W.nsIn K mainGlobals "TooGreat" = some (some (.ref e_TooGreat)))
    (h_NoEven : PySem.W.nsIn K mainGlobals "NoEven" = some (some (.ref e_NoEven)))
    (h_NoText : PySem.W.nsIn K mainGlobals "NoText" = some (some (.ref e_NoText)))
    (h_NoRow : PySem.W.nsIn K mainGlobals "NoRow" = some (some (.ref e_NoRow)))
    (h_NoName : PySem.W.nsIn K mainGlobals "NoName" = some (some (.ref e_NoName)))
    (h_NoPlace : PySem.W.nsIn K mainGlobals "NoPlace" = some (some (.ref e_NoPlace)))
    (pf_Fallings_init : PySem.W.findIn K (.ref e_Fallings) "__init__" = some (some (.ref f_Fallings_init)))
    (pf_Fallings_many : PySem.W.findIn K (.ref e_Fallings) "many" = some (some (.ref f_Fallings_many)))
    (ic_NoBattle : PySem.W.findIn K (.ref e_NoBattle) "__init__" = some (some (.ref f_NoBattle_init)))
    (l_NoBattle_init : K.lookup f_NoBattle_init = some ⟨q1_NoBattle_init, o_NoBattle_init, .func (PySem.W.fnOf "__init__" "NoBattle.__init__" (defArgs s_NoBattle_init) (defBody s_NoBattle_init) (defScope s_NoBattle_init) .none q2_NoBattle_init q3_NoBattle_init q4_NoBattle_init n_NoBattle_init q5_NoBattle_init q6_NoBattle_init), w_NoBattle_init⟩)
    (c_NoBattle_init : PySem.W.codeIn K q5_NoBattle_init "NoBattle.__init__" = true)
    (k_NoBattle_init : PySem.W.keepIn K (.ref f_NoBattle_init) = true)
    (a_is_number : PySem.W.nsIn K mainGlobals "is_number" = some (some (.ref f_is_number)))
    (l_is_number : K.lookup f_is_number = some ⟨q1_is_number, o_is_number, .func (PySem.W.fnOf "is_number" "is_number" (defArgs s_is_number) (defBody s_is_number) (defScope s_is_number) .none q2_is_number q3_is_number q4_is_number n_is_number q5_is_number q6_is_number), w_is_number⟩)
    (c_is_number : PySem.W.codeIn K q5_is_number "is_number" = true)
    (k_is_number : PySem.W.keepIn K (.ref f_is_number) = true)
    (a_are_numbers : PySem.W.nsIn K mainGlobals "are_numbers" = some (some (.ref f_are_numbers)))
    (l_are_numbers : K.lookup f_are_numbers = some ⟨q1_are_numbers, o_are_numbers, .func (PySem.W.fnOf "are_numbers" "are_numbers" (defArgs s_are_numbers) (defBody s_are_numbers) (defScope s_are_numbers) .none q2_are_numbers q3_are_numbers q4_are_numbers n_are_numbers q5_are_numbers q6_are_numbers), w_are_numbers⟩)
    (c_are_numbers : PySem.W.codeIn K q5_are_numbers "are_numbers" = true)
    (k_are_numbers : PySem.W.keepIn K (.ref f_are_numbers) = true)
    (a_is_rule : PySem.W.nsIn K mainGlobals "is_rule" = some (some (.ref f_is_rule)))
    (l_is_rule : K.lookup f_is_rule = some ⟨q1_is_rule, o_is_rule, .func (PySem.W.fnOf "is_rule" "is_rule" (defArgs s_is_rule) (defBody s_is_rule) (defScope s_is_rule) .none q2_is_rule q3_is_rule q4_is_rule n_is_rule q5_is_rule q6_is_rule), w_is_rule⟩)
    (c_is_rule : PySem.W.codeIn K q5_is_rule "is_rule" = true)
    (k_is_rule : PySem.W.keepIn K (.ref f_is_rule) = true)
    (a_is_field : PySem.W.nsIn K mainGlobals "is_field" = some (some (.ref f_is_field)))
    (l_is_field : K.lookup f_is_field = some ⟨q1_is_field, o_is_field, .func (PySem.W.fnOf "is_field" "is_field" (defArgs s_is_field) (defBody s_is_field) (defScope s_is_field) .none q2_is_field q3_is_field q4_is_field n_is_field q5_is_field q6_is_field), w_is_field⟩)
    (c_is_field : PySem.W.codeIn K q5_is_field "is_field" = true)
    (k_is_field : PySem.W.keepIn K (.ref f_is_field) = true)
    (a_look_battle : PySem.W.nsIn K mainGlobals "look_battle" = some (some (.ref f_look_battle)))
    (l_look_battle : K.lookup f_look_battle = some ⟨q1_look_battle, o_look_battle, .func (PySem.W.fnOf "look_battle" "look_battle" (defArgs s_look_battle) (defBody s_look_battle) (defScope s_look_battle) .none q2_look_battle q3_look_battle q4_look_battle n_look_battle q5_look_battle q6_look_battle), w_look_battle⟩)
    (c_look_battle : PySem.W.codeIn K q5_look_battle "look_battle" = true)
    (k_look_battle : PySem.W.keepIn K (.ref f_look_battle) = true)
    (a_paid : PySem.W.nsIn K mainGlobals "paid" = some (some (.ref f_paid)))
    (l_paid : K.lookup f_paid = some ⟨q1_paid, o_paid, .func (PySem.W.fnOf "paid" "paid" (defArgs s_paid) (defBody s_paid) (defScope s_paid) .none q2_paid q3_paid q4_paid n_paid q5_paid q6_paid), w_paid⟩)
    (c_paid : PySem.W.codeIn K q5_paid "paid" = true)
    (k_paid : PySem.W.keepIn K (.ref f_paid) = true)
    (a_is_plan : PySem.W.nsIn K mainGlobals "is_plan" = some (some (.ref f_is_plan)))
    (l_is_plan : K.lookup f_is_plan = some ⟨q1_is_plan, o_is_plan, .func (PySem.W.fnOf "is_plan" "is_plan" (defArgs s_is_plan) (defBody s_is_plan) (defScope s_is_plan) .none q2_is_plan q3_is_plan q4_is_plan n_is_plan q5_is_plan q6_is_plan), w_is_plan⟩)
    (c_is_plan : PySem.W.codeIn K q5_is_plan "is_plan" = true)
    (k_is_plan : PySem.W.keepIn K (.ref f_is_plan) = true)
    (a_must_be_sizes : PySem.W.nsIn K mainGlobals "must_be_sizes" = some (some (.ref f_must_be_sizes)))
    (l_must_be_sizes : K.lookup f_must_be_sizes = some ⟨q1_must_be_sizes, o_must_be_sizes, .func (PySem.W.fnOf "must_be_sizes" "must_be_sizes" (defArgs s_must_be_sizes) (defBody s_must_be_sizes) (defScope s_must_be_sizes) .none q2_must_be_sizes q3_must_be_sizes q4_must_be_sizes n_must_be_sizes q5_must_be_sizes q6_must_be_sizes), w_must_be_sizes⟩)
    (c_must_be_sizes : PySem.W.codeIn K q5_must_be_sizes "must_be_sizes" = true)
    (k_must_be_sizes : PySem.W.keepIn K (.ref f_must_be_sizes) = true)
    (l_Fallings_init : K.lookup f_Fallings_init = some ⟨q1_Fallings_init, o_Fallings_init, .func (PySem.W.fnOf "__init__" "Fallings.__init__" (defArgs s_Fallings_init) (defBody s_Fallings_init) (defScope s_Fallings_init) .none q2_Fallings_init q3_Fallings_init q4_Fallings_init n_Fallings_init q5_Fallings_init q6_Fallings_init), w_Fallings_init⟩)
    (c_Fallings_init : PySem.W.codeIn K q5_Fallings_init "Fallings.__init__" = true)
    (k_Fallings_init : PySem.W.keepIn K (.ref f_Fallings_init) = true)
    (l_Fallings_many : K.lookup f_Fallings_many = some ⟨q1_Fallings_many, o_Fallings_many, .func (PySem.W.fnOf "many" "Fallings.many" (defArgs s_Fallings_many) (defBody s_Fallings_many) (defScope s_Fallings_many) .none q2_Fallings_many q3_Fallings_many q4_Fallings_many n_Fallings_many q5_Fallings_many q6_Fallings_many), w_Fallings_many⟩)
    (c_Fallings_many : PySem.W.codeIn K q5_Fallings_many "Fallings.many" = true)
    (k_Fallings_many : PySem.W.keepIn K (.ref f_Fallings_many) = true)
    (a_counts_many : PySem.W.nsIn K mainGlobals "counts_many" = some (some (.ref f_counts_many)))
    (l_counts_many : K.lookup f_counts_many = some ⟨q1_counts_many, o_counts_many, .func (PySem.W.fnOf "counts_many" "counts_many" (defArgs s_counts_many) (defBody s_counts_many) (defScope s_counts_many) .none q2_counts_many q3_counts_many q4_counts_many n_counts_many q5_counts_many q6_counts_many), w_counts_many⟩)
    (c_counts_many : PySem.W.codeIn K q5_counts_many "counts_many" = true)
    (k_counts_many : PySem.W.keepIn K (.ref f_counts_many) = true)
    (a_counts_of : PySem.W.nsIn K mainGlobals "counts_of" = some (some (.ref f_counts_of)))
    (l_counts_of : K.lookup f_counts_of = some ⟨q1_counts_of, o_counts_of, .func (PySem.W.fnOf "counts_of" "counts_of" (defArgs s_counts_of) (defBody s_counts_of) (defScope s_counts_of) .none q2_counts_of q3_counts_of q4_counts_of n_counts_of q5_counts_of q6_counts_of), w_counts_of⟩)
    (c_counts_of : PySem.W.codeIn K q5_counts_of "counts_of" = true)
    (k_counts_of : PySem.W.keepIn K (.ref f_counts_of) = true)
    (a_divisor : PySem.W.nsIn K mainGlobals "divisor" = some (some (.ref f_divisor)))
    (l_divisor : K.lookup f_divisor = some ⟨q1_divisor, o_divisor, .func (PySem.W.fnOf "divisor" "divisor" (defArgs s_divisor) (defBody s_divisor) (defScope s_divisor) .none q2_divisor q3_divisor q4_divisor n_divisor q5_divisor q6_divisor), w_divisor⟩)
    (c_divisor : PySem.W.codeIn K q5_divisor "divisor" = true)
    (k_divisor : PySem.W.keepIn K (.ref f_divisor) = true)
    (a_ratio : PySem.W.nsIn K mainGlobals "ratio" = some (some (.ref f_ratio)))
    (l_ratio : K.lookup f_ratio = some ⟨q1_ratio, o_ratio, .func (PySem.W.fnOf "ratio" "ratio" (defArgs s_ratio) (defBody s_ratio) (defScope s_ratio) .none q2_ratio q3_ratio q4_ratio n_ratio q5_ratio q6_ratio), w_ratio⟩)
    (c_ratio : PySem.W.codeIn K q5_ratio "ratio" = true)
    (k_ratio : PySem.W.keepIn K (.ref f_ratio) = true)
    (a_minus : PySem.W.nsIn K mainGlobals "minus" = some (some (.ref f_minus)))
    (l_minus : K.lookup f_minus = some ⟨q1_minus, o_minus, .func (PySem.W.fnOf "minus" "minus" (defArgs s_minus) (defBody s_minus) (defScope s_minus) .none q2_minus q3_minus q4_minus n_minus q5_minus q6_minus), w_minus⟩)
    (c_minus : PySem.W.codeIn K q5_minus "minus" = true)
    (k_minus : PySem.W.keepIn K (.ref f_minus) = true)
    (a_divided_out : PySem.W.nsIn K mainGlobals "divided_out" = some (some (.ref f_divided_out)))
    (l_divided_out : K.lookup f_divided_out = some ⟨q1_divided_out, o_divided_out, .func (PySem.W.fnOf "divided_out" "divided_out" (defArgs s_divided_out) (defBody s_divided_out) (defScope s_divided_out) .none q2_divided_out q3_divided_out q4_divided_out n_divided_out q5_divided_out q6_divided_out), w_divided_out⟩)
    (c_divided_out : PySem.W.codeIn K q5_divided_out "divided_out" = true)
    (k_divided_out : PySem.W.keepIn K (.ref f_divided_out) = true)
    (a_begun : PySem.W.nsIn K mainGlobals "begun" = some (some (.ref f_begun)))
    (l_begun : K.lookup f_begun = some ⟨q1_begun, o_begun, .func (PySem.W.fnOf "begun" "begun" (defArgs s_begun) (defBody s_begun) (defScope s_begun) .none q2_begun q3_begun q4_begun n_begun q5_begun q6_begun), w_begun⟩)
    (c_begun : PySem.W.codeIn K q5_begun "begun" = true)
    (k_begun : PySem.W.keepIn K (.ref f_begun) = true)
    (a_entering : PySem.W.nsIn K mainGlobals "entering" = some (some (.ref f_entering)))
    (l_entering : K.lookup f_entering = some ⟨q1_entering, o_entering, .func (PySem.W.fnOf "entering" "entering" (defArgs s_entering) (defBody s_entering) (defScope s_entering) .none q2_entering q3_entering q4_entering n_entering q5_entering q6_entering), w_entering⟩)
    (c_entering : PySem.W.codeIn K q5_entering "entering" = true)
    (k_entering : PySem.W.keepIn K (.ref f_entering) = true)
    (a_leaving : PySem.W.nsIn K mainGlobals "leaving" = some (some (.ref f_leaving)))
    (l_leaving : K.lookup f_leaving = some ⟨q1_leaving, o_leaving, .func (PySem.W.fnOf "leaving" "leaving" (defArgs s_leaving) (defBody s_leaving) (defScope s_leaving) .none q2_leaving q3_leaving q4_leaving n_leaving q5_leaving q6_leaving), w_leaving⟩)
    (c_leaving : PySem.W.codeIn K q5_leaving "leaving" = true)
    (k_leaving : PySem.W.keepIn K (.ref f_leaving) = true)
    (a_turned : PySem.W.nsIn K mainGlobals "turned" = some (some (.ref f_turned)))
    (l_turned : K.lookup f_turned = some ⟨q1_turned, o_turned, .func (PySem.W.fnOf "turned" "turned" (defArgs s_turned) (defBody s_turned) (defScope s_turned) .none q2_turned q3_turned q4_turned n_turned q5_turned q6_turned), w_turned⟩)
    (c_turned : PySem.W.codeIn K q5_turned "turned" = true)
    (k_turned : PySem.W.keepIn K (.ref f_turned) = true)
    (a_solved : PySem.W.nsIn K mainGlobals "solved" = some (some (.ref f_solved)))
    (l_solved : K.lookup f_solved = some ⟨q1_solved, o_solved, .func (PySem.W.fnOf "solved" "solved" (defArgs s_solved) (defBody s_solved) (defScope s_solved) .none q2_solved q3_solved q4_solved n_solved q5_solved q6_solved), w_solved⟩)
    (c_solved : PySem.W.codeIn K q5_solved "solved" = true)
    (k_solved : PySem.W.keepIn K (.ref f_solved) = true)
    (a_is_alike : PySem.W.nsIn K mainGlobals "is_alike" = some (some (.ref f_is_alike)))
    (l_is_alike : K.lookup f_is_alike = some ⟨q1_is_alike, o_is_alike, .func (PySem.W.fnOf "is_alike" "is_alike" (defArgs s_is_alike) (defBody s_is_alike) (defScope s_is_alike) .none q2_is_alike q3_is_alike q4_is_alike n_is_alike q5_is_alike q6_is_alike), w_is_alike⟩)
    (c_is_alike : PySem.W.codeIn K q5_is_alike "is_alike" = true)
    (k_is_alike : PySem.W.keepIn K (.ref f_is_alike) = true)
    (a_must_be_alike : PySem.W.nsIn K mainGlobals "must_be_alike" = some (some (.ref f_must_be_alike)))
    (l_must_be_alike : K.lookup f_must_be_alike = some ⟨q1_must_be_alike, o_must_be_alike, .func (PySem.W.fnOf "must_be_alike" "must_be_alike" (defArgs s_must_be_alike) (defBody s_must_be_alike) (defScope s_must_be_alike) .none q2_must_be_alike q3_must_be_alike q4_must_be_alike n_must_be_alike q5_must_be_alike q6_must_be_alike), w_must_be_alike⟩)
    (c_must_be_alike : PySem.W.codeIn K q5_must_be_alike "must_be_alike" = true)
    (k_must_be_alike : PySem.W.keepIn K (.ref f_must_be_alike) = true)
    (a_met : PySem.W.nsIn K mainGlobals "met" = some (some (.ref f_met)))
    (l_met : K.lookup f_met = some ⟨q1_met, o_met, .func (PySem.W.fnOf "met" "met" (defArgs s_met) (defBody s_met) (defScope s_met) .none q2_met q3_met q4_met n_met q5_met q6_met), w_met⟩)
    (c_met : PySem.W.codeIn K q5_met "met" = true)
    (k_met : PySem.W.keepIn K (.ref f_met) = true)
    (a_ring_gain : PySem.W.nsIn K mainGlobals "ring_gain" = some (some (.ref f_ring_gain)))
    (l_ring_gain : K.lookup f_ring_gain = some ⟨q1_ring_gain, o_ring_gain, .func (PySem.W.fnOf "ring_gain" "ring_gain" (defArgs s_ring_gain) (defBody s_ring_gain) (defScope s_ring_gain) .none q2_ring_gain q3_ring_gain q4_ring_gain n_ring_gain q5_ring_gain q6_ring_gain), w_ring_gain⟩)
    (c_ring_gain : PySem.W.codeIn K q5_ring_gain "ring_gain" = true)
    (k_ring_gain : PySem.W.keepIn K (.ref f_ring_gain) = true)
    (a_all_counts : PySem.W.nsIn K mainGlobals "all_counts" = some (some (.ref f_all_counts)))
    (l_all_counts : K.lookup f_all_counts = some ⟨q1_all_counts, o_all_counts, .func (PySem.W.fnOf "all_counts" "all_counts" (defArgs s_all_counts) (defBody s_all_counts) (defScope s_all_counts) .none q2_all_counts q3_all_counts q4_all_counts n_all_counts q5_all_counts q6_all_counts), w_all_counts⟩)
    (c_all_counts : PySem.W.codeIn K q5_all_counts "all_counts" = true)
    (k_all_counts : PySem.W.keepIn K (.ref f_all_counts) = true)
    (a_table_by_counts : PySem.W.nsIn K mainGlobals "table_by_counts" = some (some (.ref f_table_by_counts)))
    (l_table_by_counts : K.lookup f_table_by_counts = some ⟨q1_table_by_counts, o_table_by_counts, .func (PySem.W.fnOf "table_by_counts" "table_by_counts" (defArgs s_table_by_counts) (defBody s_table_by_counts) (defScope s_table_by_counts) .none q2_table_by_counts q3_table_by_counts q4_table_by_counts n_table_by_counts q5_table_by_counts q6_table_by_counts), w_table_by_counts⟩)
    (c_table_by_counts : PySem.W.codeIn K q5_table_by_counts "table_by_counts" = true)
    (k_table_by_counts : PySem.W.keepIn K (.ref f_table_by_counts) = true)
    (a_counts_table : PySem.W.nsIn K mainGlobals "counts_table" = some (some (.ref f_counts_table)))
    (l_counts_table : K.lookup f_counts_table = some ⟨q1_counts_table, o_counts_table, .func (PySem.W.fnOf "counts_table" "counts_table" (defArgs s_counts_table) (defBody s_counts_table) (defScope s_counts_table) .none q2_counts_table q3_counts_table q4_counts_table n_counts_table q5_counts_table q6_counts_table), w_counts_table⟩)
    (c_counts_table : PySem.W.codeIn K q5_counts_table "counts_table" = true)
    (k_counts_table : PySem.W.keepIn K (.ref f_counts_table) = true)
    (a_with_weights : PySem.W.nsIn K mainGlobals "with_weights" = some (some (.ref f_with_weights)))
    (l_with_weights : K.lookup f_with_weights = some ⟨q1_with_weights, o_with_weights, .func (PySem.W.fnOf "with_weights" "with_weights" (defArgs s_with_weights) (defBody s_with_weights) (defScope s_with_weights) .none q2_with_weights q3_with_weights q4_with_weights n_with_weights q5_with_weights q6_with_weights), w_with_weights⟩)
    (c_with_weights : PySem.W.codeIn K q5_with_weights "with_weights" = true)
    (k_with_weights : PySem.W.keepIn K (.ref f_with_weights) = true)
    (a_counts_worth : PySem.W.nsIn K mainGlobals "counts_worth" = some (some (.ref f_counts_worth)))
    (l_counts_worth : K.lookup f_counts_worth = some ⟨q1_counts_worth, o_counts_worth, .func (PySem.W.fnOf "counts_worth" "counts_worth" (defArgs s_counts_worth) (defBody s_counts_worth) (defScope s_counts_worth) .none q2_counts_worth q3_counts_worth q4_counts_worth n_counts_worth q5_counts_worth q6_counts_worth), w_counts_worth⟩)
    (c_counts_worth : PySem.W.codeIn K q5_counts_worth "counts_worth" = true)
    (k_counts_worth : PySem.W.keepIn K (.ref f_counts_worth) = true)
    (a_l_purse : PySem.W.nsIn K mainGlobals "_law_purse" = some (some (.ref f_l_purse)))
    (l_l_purse : K.lookup f_l_purse = some ⟨q1_l_purse, o_l_purse, .func (PySem.W.fnOf "_law_purse" "_law_purse" (defArgs s_l_purse) (defBody s_l_purse) (defScope s_l_purse) .none q2_l_purse q3_l_purse q4_l_purse n_l_purse q5_l_purse q6_l_purse), w_l_purse⟩)
    (c_l_purse : PySem.W.codeIn K q5_l_purse "_law_purse" = true)
    (k_l_purse : PySem.W.keepIn K (.ref f_l_purse) = true)
    (a_l_draw : PySem.W.nsIn K mainGlobals "_law_draw" = some (some (.ref f_l_draw)))
    (l_l_draw : K.lookup f_l_draw = some ⟨q1_l_draw, o_l_draw, .func (PySem.W.fnOf "_law_draw" "_law_draw" (defArgs s_l_draw) (defBody s_l_draw) (defScope s_l_draw) .none q2_l_draw q3_l_draw q4_l_draw n_l_draw q5_l_draw q6_l_draw), w_l_draw⟩)
    (c_l_draw : PySem.W.codeIn K q5_l_draw "_law_draw" = true)
    (k_l_draw : PySem.W.keepIn K (.ref f_l_draw) = true)
    (a_l_field : PySem.W.nsIn K mainGlobals "_law_field" = some (some (.ref f_l_field)))
    (l_l_field : K.lookup f_l_field = some ⟨q1_l_field, o_l_field, .func (PySem.W.fnOf "_law_field" "_law_field" (defArgs s_l_field) (defBody s_l_field) (defScope s_l_field) .none q2_l_field q3_l_field q4_l_field n_l_field q5_l_field q6_l_field), w_l_field⟩)
    (c_l_field : PySem.W.codeIn K q5_l_field "_law_field" = true)
    (k_l_field : PySem.W.keepIn K (.ref f_l_field) = true)
    (a_l_copy : PySem.W.nsIn K mainGlobals "_law_copy" = some (some (.ref f_l_copy)))
    (l_l_copy : K.lookup f_l_copy = some ⟨q1_l_copy, o_l_copy, .func (PySem.W.fnOf "_law_copy" "_law_copy" (defArgs s_l_copy) (defBody s_l_copy) (defScope s_l_copy) .none q2_l_copy q3_l_copy q4_l_copy n_l_copy q5_l_copy q6_l_copy), w_l_copy⟩)
    (c_l_copy : PySem.W.codeIn K q5_l_copy "_law_copy" = true)
    (k_l_copy : PySem.W.keepIn K (.ref f_l_copy) = true)
    (a_l_changed : PySem.W.nsIn K mainGlobals "_law_changed" = some (some (.ref f_l_changed)))
    (l_l_changed : K.lookup f_l_changed = some ⟨q1_l_changed, o_l_changed, .func (PySem.W.fnOf "_law_changed" "_law_changed" (defArgs s_l_changed) (defBody s_l_changed) (defScope s_l_changed) .none q2_l_changed q3_l_changed q4_l_changed n_l_changed q5_l_changed q6_l_changed), w_l_changed⟩)
    (c_l_changed : PySem.W.codeIn K q5_l_changed "_law_changed" = true)
    (k_l_changed : PySem.W.keepIn K (.ref f_l_changed) = true)
    (a_l_no_field : PySem.W.nsIn K mainGlobals "_law_no_field" = some (some (.ref f_l_no_field)))
    (l_l_no_field : K.lookup f_l_no_field = some ⟨q1_l_no_field, o_l_no_field, .func (PySem.W.fnOf "_law_no_field" "_law_no_field" (defArgs s_l_no_field) (defBody s_l_no_field) (defScope s_l_no_field) .none q2_l_no_field q3_l_no_field q4_l_no_field n_l_no_field q5_l_no_field q6_l_no_field), w_l_no_field⟩)
    (c_l_no_field : PySem.W.codeIn K q5_l_no_field "_law_no_field" = true)
    (k_l_no_field : PySem.W.keepIn K (.ref f_l_no_field) = true)
    (a_l_no_battle : PySem.W.nsIn K mainGlobals "_law_no_battle" = some (some (.ref f_l_no_battle)))
    (l_l_no_battle : K.lookup f_l_no_battle = some ⟨q1_l_no_battle, o_l_no_battle, .func (PySem.W.fnOf "_law_no_battle" "_law_no_battle" (defArgs s_l_no_battle) (defBody s_l_no_battle) (defScope s_l_no_battle) .none q2_l_no_battle q3_l_no_battle q4_l_no_battle n_l_no_battle q5_l_no_battle q6_l_no_battle), w_l_no_battle⟩)
    (c_l_no_battle : PySem.W.codeIn K q5_l_no_battle "_law_no_battle" = true)
    (k_l_no_battle : PySem.W.keepIn K (.ref f_l_no_battle) = true)
    (a_l_marks : PySem.W.nsIn K mainGlobals "_law_marks" = some (some (.ref f_l_marks)))
    (l_l_marks : K.lookup f_l_marks = some ⟨q1_l_marks, o_l_marks, .func (PySem.W.fnOf "_law_marks" "_law_marks" (defArgs s_l_marks) (defBody s_l_marks) (defScope s_l_marks) .none q2_l_marks q3_l_marks q4_l_marks n_l_marks q5_l_marks q6_l_marks), w_l_marks⟩)
    (c_l_marks : PySem.W.codeIn K q5_l_marks "_law_marks" = true)
    (k_l_marks : PySem.W.keepIn K (.ref f_l_marks) = true)
    (a_l_caught : PySem.W.nsIn K mainGlobals "_law_caught" = some (some (.ref f_l_caught)))
    (l_l_caught : K.lookup f_l_caught = some ⟨q1_l_caught, o_l_caught, .func (PySem.W.fnOf "_law_caught" "_law_caught" (defArgs s_l_caught) (defBody s_l_caught) (defScope s_l_caught) .none q2_l_caught q3_l_caught q4_l_caught n_l_caught q5_l_caught q6_l_caught), w_l_caught⟩)
    (c_l_caught : PySem.W.codeIn K q5_l_caught "_law_caught" = true)
    (k_l_caught : PySem.W.keepIn K (.ref f_l_caught) = true)
    (a_l_said : PySem.W.nsIn K mainGlobals "_law_said" = some (some (.ref f_l_said)))
    (l_l_said : K.lookup f_l_said = some ⟨q1_l_said, o_l_said, .func (PySem.W.fnOf "_law_said" "_law_said" (defArgs s_l_said) (defBody s_l_said) (defScope s_l_said) .none q2_l_said q3_l_said q4_l_said n_l_said q5_l_said q6_l_said), w_l_said⟩)
    (c_l_said : PySem.W.codeIn K q5_l_said "_law_said" = true)
    (k_l_said : PySem.W.keepIn K (.ref f_l_said) = true)
    (a_law : PySem.W.nsIn K mainGlobals "law" = some (some (.ref f_law)))
    (l_law : K.lookup f_law = some ⟨q1_law, o_law, .func (PySem.W.fnOf "law" "law" (defArgs s_law) (defBody s_law) (defScope s_law) .none q2_law q3_law q4_law n_law q5_law q6_law), w_law⟩)
    (c_law : PySem.W.codeIn K q5_law "law" = true)
    (k_law : PySem.W.keepIn K (.ref f_law) = true)
    (z_ValueError : PySem.W.nsIn K mainGlobals "ValueError" = some none)
    (z_abs : PySem.W.nsIn K mainGlobals "abs" = some none)
    (z_bool : PySem.W.nsIn K mainGlobals "bool" = some none)
    (z_int : PySem.W.nsIn K mainGlobals "int" = some none)
    (z_isinstance : PySem.W.nsIn K mainGlobals "isinstance" = some none)
    (z_len : PySem.W.nsIn K mainGlobals "len" = some none)
    (z_list : PySem.W.nsIn K mainGlobals "list" = some none)
    (z_max : PySem.W.nsIn K mainGlobals "max" = some none)
    (z_min : PySem.W.nsIn K mainGlobals "min" = some none)
    (z_range : PySem.W.nsIn K mainGlobals "range" = some none)
    (z_str : PySem.W.nsIn K mainGlobals "str" = some none)
    (z_sum : PySem.W.nsIn K mainGlobals "sum" = some none)
    (z_zip : PySem.W.nsIn K mainGlobals "zip" = some none)
    (pg_Fallings : PySem.W.plainGet K e_Fallings Str.empty = true)
    (ph_Fallings : PySem.W.hasDictIn K e_Fallings = true)
    (po_Fallings : PySem.W.plainOver K e_Fallings = true)
    (ps_Fallings : PySem.W.findIn K (.ref e_Fallings) "__setattr__" = some (some (.builtin "object.__setattr__")))
    (pm_Fallings : PySem.W.makesIn K e_Fallings = true)
    (pk_Fallings : PySem.W.keepIn K (.ref e_Fallings) = true)
    (pn_Fallings_init : PySem.W.isFn K (.ref f_Fallings_init) = true)
    (pp_Fallings_init : PySem.W.keepIn K (.ref f_Fallings_init) = true)
    (pn_Fallings_many : PySem.W.isFn K (.ref f_Fallings_many) = true)
    (pp_Fallings_many : PySem.W.keepIn K (.ref f_Fallings_many) = true)
    (pa_Fallings_known : PySem.W.findIn K (.ref e_Fallings) "known" = some none)
    (h_MOST_HOSTS_fields : PySem.W.nsIn K mainGlobals "MOST_HOSTS_fields" = some (some (.int 10 t_MOST_HOSTS_fields)))
    (h_MOST_FIELDS_fields : PySem.W.nsIn K mainGlobals "MOST_FIELDS_fields" = some (some (.int 5 t_MOST_FIELDS_fields)))
    (h_MOST_HOSTS_plans : PySem.W.nsIn K mainGlobals "MOST_HOSTS_plans" = some (some (.int 40 t_MOST_HOSTS_plans)))
    (h_MOST_FIELDS_plans : PySem.W.nsIn K mainGlobals "MOST_FIELDS_plans" = some (some (.int 8 t_MOST_FIELDS_plans)))
    (i_HostError : PySem.W.isClsIn K e_HostError = true)
    (t_HostError : PySem.W.typeIn K (.ref e_HostError) = some (.type "type"))
    (y_HostError : PySem.W.subIn K (.ref e_HostError) (.type "BaseException") = some true)
    (i_NoBattle : PySem.W.isClsIn K e_NoBattle = true)
    (t_NoBattle : PySem.W.typeIn K (.ref e_NoBattle) = some (.type "type"))
    (y_NoBattle : PySem.W.subIn K (.ref e_NoBattle) (.type "BaseException") = some true)
    (i_NoPlan : PySem.W.isClsIn K e_NoPlan = true)
    (t_NoPlan : PySem.W.typeIn K (.ref e_NoPlan) = some (.type "type"))
    (y_NoPlan : PySem.W.subIn K (.ref e_NoPlan) (.type "BaseException") = some true)
    (i_NoMix : PySem.W.isClsIn K e_NoMix = true)
    (t_NoMix : PySem.W.typeIn K (.ref e_NoMix) = some (.type "type"))
    (y_NoMix : PySem.W.subIn K (.ref e_NoMix) (.type "BaseException") = some true)
    (i_NoStream : PySem.W.isClsIn K e_NoStream = true)
    (t_NoStream : PySem.W.typeIn K (.ref e_NoStream) = some (.type "type"))
    (y_NoStream : PySem.W.subIn K (.ref e_NoStream) (.type "BaseException") = some true)
    (i_NoSide : PySem.W.isClsIn K e_NoSide = true)
    (t_NoSide : PySem.W.typeIn K (.ref e_NoSide) = some (.type "type"))
    (y_NoSide : PySem.W.subIn K (.ref e_NoSide) (.type "BaseException") = some true)
    (i_NoAlike : PySem.W.isClsIn K e_NoAlike = true)
    (t_NoAlike : PySem.W.typeIn K (.ref e_NoAlike) = some (.type "type"))
    (y_NoAlike : PySem.W.subIn K (.ref e_NoAlike) (.type "BaseException") = some true)
    (i_NoNumber : PySem.W.isClsIn K e_NoNumber = true)
    (t_NoNumber : PySem.W.typeIn K (.ref e_NoNumber) = some (.type "type"))
    (y_NoNumber : PySem.W.subIn K (.ref e_NoNumber) (.type "BaseException") = some true)
    (i_TooGreat : PySem.W.isClsIn K e_TooGreat = true)
    (t_TooGreat : PySem.W.typeIn K (.ref e_TooGreat) = some (.type "type"))
    (y_TooGreat : PySem.W.subIn K (.ref e_TooGreat) (.type "BaseException") = some true)
    (i_NoEven : PySem.W.isClsIn K e_NoEven = true)
    (t_NoEven : PySem.W.typeIn K (.ref e_NoEven) = some (.type "type"))
    (y_NoEven : PySem.W.subIn K (.ref e_NoEven) (.type "BaseException") = some true)
    (i_NoText : PySem.W.isClsIn K e_NoText = true)
    (t_NoText : PySem.W.typeIn K (.ref e_NoText) = some (.type "type"))
    (y_NoText : PySem.W.subIn K (.ref e_NoText) (.type "BaseException") = some true)
    (i_NoRow : PySem.W.isClsIn K e_NoRow = true)
    (t_NoRow : PySem.W.typeIn K (.ref e_NoRow) = some (.type "type"))
    (y_NoRow : PySem.W.subIn K (.ref e_NoRow) (.type "BaseException") = some true)
    (i_NoName : PySem.W.isClsIn K e_NoName = true)
    (t_NoName : PySem.W.typeIn K (.ref e_NoName) = some (.type "type"))
    (y_NoName : PySem.W.subIn K (.ref e_NoName) (.type "BaseException") = some true)
    (i_NoPlace : PySem.W.isClsIn K e_NoPlace = true)
    (t_NoPlace : PySem.W.typeIn K (.ref e_NoPlace) = some (.type "type"))
    (y_NoPlace : PySem.W.subIn K (.ref e_NoPlace) (.type "BaseException") = some true)
    (x_NoPlan : PySem.W.excIn K e_NoPlan [.type "ValueError", .type "Exception", .type "BaseException", .type "object"] "ValueError.__new__" = true)
    (k_NoPlan : PySem.W.keepIn K (.ref e_NoPlan) = true)
    (hg_NoPlan : PySem.W.findIn K (.ref e_NoPlan) "__getattribute__" = some (some (.builtin "BaseException.__getattribute__")))
    (hk_NoPlan : PySem.W.findIn K (.ref e_NoPlan) "__getattr__" = some none)
    (hd_NoPlan : PySem.W.hasDictIn K e_NoPlan = true)
    (ha_NoPlan : PySem.W.findIn K (.ref e_NoPlan) "__class__" = some (some (.builtin "object.__class__")))
    (hm_NoPlan : PySem.W.mroIn K e_NoPlan (.type "object") = some true)
    (v_NoPlan : PySem.W.subIn K (.ref e_NoPlan) (.type "ValueError") = some true)
    (s_NoPlan_HostError : PySem.W.subIn K (.ref e_NoPlan) (.ref e_HostError) = some true)
    (s_NoPlan_NoBattle : PySem.W.subIn K (.ref e_NoPlan) (.ref e_NoBattle) = some false)
    (s_NoPlan_NoPlan : PySem.W.subIn K (.ref e_NoPlan) (.ref e_NoPlan) = some true)
    (s_NoPlan_NoMix : PySem.W.subIn K (.ref e_NoPlan) (.ref e_NoMix) = some false)
    (s_NoPlan_NoStream : PySem.W.subIn K (.ref e_NoPlan) (.ref e_NoStream) = some false)
    (s_NoPlan_NoSide : PySem.W.subIn K (.ref e_NoPlan) (.ref e_NoSide) = some false)
    (s_NoPlan_NoAlike : PySem.W.subIn K (.ref e_NoPlan) (.ref e_NoAlike) = some false)
    (s_NoPlan_NoNumber : PySem.W.subIn K (.ref e_NoPlan) (.ref e_NoNumber) = some false)
    (s_NoPlan_TooGreat : PySem.W.subIn K (.ref e_NoPlan) (.ref e_TooGreat) = some false)
    (s_NoPlan_NoEven : PySem.W.subIn K (.ref e_NoPlan) (.ref e_NoEven) = some false)
    (s_NoPlan_NoText : PySem.W.subIn K (.ref e_NoPlan) (.ref e_NoText) = some false)
    (s_NoPlan_NoRow : PySem.W.subIn K (.ref e_NoPlan) (.ref e_NoRow) = some false)
    (s_NoPlan_NoName : PySem.W.subIn K (.ref e_NoPlan) (.ref e_NoName) = some false)
    (s_NoPlan_NoPlace : PySem.W.subIn K (.ref e_NoPlan) (.ref e_NoPlace) = some false)
    (x_NoAlike : PySem.W.excIn K e_NoAlike [.type "ValueError", .type "Exception", .type "BaseException", .type "object"] "ValueError.__new__" = true)
    (k_NoAlike : PySem.W.keepIn K (.ref e_NoAlike) = true)
    (hg_NoAlike : PySem.W.findIn K (.ref e_NoAlike) "__getattribute__" = some (some (.builtin "BaseException.__getattribute__")))
    (hk_NoAlike : PySem.W.findIn K (.ref e_NoAlike) "__getattr__" = some none)
    (hd_NoAlike : PySem.W.hasDictIn K e_NoAlike = true)
    (ha_NoAlike : PySem.W.findIn K (.ref e_NoAlike) "__class__" = some (some (.builtin "object.__class__")))
    (hm_NoAlike : PySem.W.mroIn K e_NoAlike (.type "object") = some true)
    (v_NoAlike : PySem.W.subIn K (.ref e_NoAlike) (.type "ValueError") = some true)
    (s_NoAlike_HostError : PySem.W.subIn K (.ref e_NoAlike) (.ref e_HostError) = some true)
    (s_NoAlike_NoBattle : PySem.W.subIn K (.ref e_NoAlike) (.ref e_NoBattle) = some false)
    (s_NoAlike_NoPlan : PySem.W.subIn K (.ref e_NoAlike) (.ref e_NoPlan) = some false)
    (s_NoAlike_NoMix : PySem.W.subIn K (.ref e_NoAlike) (.ref e_NoMix) = some false)
    (s_NoAlike_NoStream : PySem.W.subIn K (.ref e_NoAlike) (.ref e_NoStream) = some false)
    (s_NoAlike_NoSide : PySem.W.subIn K (.ref e_NoAlike) (.ref e_NoSide) = some false)
    (s_NoAlike_NoAlike : PySem.W.subIn K (.ref e_NoAlike) (.ref e_NoAlike) = some true)
    (s_NoAlike_NoNumber : PySem.W.subIn K (.ref e_NoAlike) (.ref e_NoNumber) = some false)
    (s_NoAlike_TooGreat : PySem.W.subIn K (.ref e_NoAlike) (.ref e_TooGreat) = some false)
    (s_NoAlike_NoEven : PySem.W.subIn K (.ref e_NoAlike) (.ref e_NoEven) = some false)
    (s_NoAlike_NoText : PySem.W.subIn K (.ref e_NoAlike) (.ref e_NoText) = some false)
    (s_NoAlike_NoRow : PySem.W.subIn K (.ref e_NoAlike) (.ref e_NoRow) = some false)
    (s_NoAlike_NoName : PySem.W.subIn K (.ref e_NoAlike) (.ref e_NoName) = some false)
    (s_NoAlike_NoPlace : PySem.W.subIn K (.ref e_NoAlike) (.ref e_NoPlace) = some false)
    (oc_NoBattle : K.lookup e_NoBattle = some (excClassObj xn_NoBattle xq_NoBattle e_NoBattle xN_NoBattle xb_NoBattle (.ref e_HostError :: [.type "ValueError", .type "Exception", .type "BaseException", .type "object"]) true xs_NoBattle xu_NoBattle xa_NoBattle xc_NoBattle xd_NoBattle x0_NoBattle x1_NoBattle x2_NoBattle x3_NoBattle x5_NoBattle "ValueError.__new__"))
    (sa_NoBattle : PySem.W.findIn K (.ref e_NoBattle) "__setattr__" = some (some (.builtin "object.__setattr__")))
    (ti_NoBattle : PySem.W.typeIn K (.ref f_NoBattle_init) = some (.type "function"))
    (no_NoBattle_field : PySem.W.findIn K (.ref e_NoBattle) "field" = some none)
    (rd_HostError : PySem.W.readsIn K e_HostError (.type "type") = true)
    (ga_HostError : PySem.W.specialIn K (.ref e_HostError) "__getattribute__" = some (some (.builtin "type.__getattribute__")))
    (fc_HostError : PySem.W.findCls K (.ref e_HostError) (.type "type") "__init__" = some (.val (.builtin "ValueError.__init__")))
    (k_NoBattle : PySem.W.keepIn K (.ref e_NoBattle) = true)
    (hg_NoBattle : PySem.W.findIn K (.ref e_NoBattle) "__getattribute__" = some (some (.builtin "BaseException.__getattribute__")))
    (hk_NoBattle : PySem.W.findIn K (.ref e_NoBattle) "__getattr__" = some none)
    (hd_NoBattle : PySem.W.hasDictIn K e_NoBattle = true)
    (ha_NoBattle : PySem.W.findIn K (.ref e_NoBattle) "__class__" = some (some (.builtin "object.__class__")))
    (hm_NoBattle : PySem.W.mroIn K e_NoBattle (.type "object") = some true)
    (v_NoBattle : PySem.W.subIn K (.ref e_NoBattle) (.type "ValueError") = some true)
    (s_NoBattle_HostError : PySem.W.subIn K (.ref e_NoBattle) (.ref e_HostError) = some true)
    (s_NoBattle_NoBattle : PySem.W.subIn K (.ref e_NoBattle) (.ref e_NoBattle) = some true)
    (s_NoBattle_NoPlan : PySem.W.subIn K (.ref e_NoBattle) (.ref e_NoPlan) = some false)
    (s_NoBattle_NoMix : PySem.W.subIn K (.ref e_NoBattle) (.ref e_NoMix) = some false)
    (s_NoBattle_NoStream : PySem.W.subIn K (.ref e_NoBattle) (.ref e_NoStream) = some false)
    (s_NoBattle_NoSide : PySem.W.subIn K (.ref e_NoBattle) (.ref e_NoSide) = some false)
    (s_NoBattle_NoAlike : PySem.W.subIn K (.ref e_NoBattle) (.ref e_NoAlike) = some false)
    (s_NoBattle_NoNumber : PySem.W.subIn K (.ref e_NoBattle) (.ref e_NoNumber) = some false)
    (s_NoBattle_TooGreat : PySem.W.subIn K (.ref e_NoBattle) (.ref e_TooGreat) = some false)
    (s_NoBattle_NoEven : PySem.W.subIn K (.ref e_NoBattle) (.ref e_NoEven) = some false)
    (s_NoBattle_NoText : PySem.W.subIn K (.ref e_NoBattle) (.ref e_NoText) = some false)
    (s_NoBattle_NoRow : PySem.W.subIn K (.ref e_NoBattle) (.ref e_NoRow) = some false)
    (s_NoBattle_NoName : PySem.W.subIn K (.ref e_NoBattle) (.ref e_NoName) = some false)
    (s_NoBattle_NoPlace : PySem.W.subIn K (.ref e_NoBattle) (.ref e_NoPlace) = some false)
    (ho_n : PySem.W.specialIn K (.builtin "object.__class__") "__get__" = some (some (.builtin "getset_descriptor.__get__")))
    (ho_t : PySem.W.takesIn K (.builtin "object.__class__") = some true) : ∃ T : Txt K mg, T.a_law = f_law ∧ ∀ (s : Shared) (v : Value), BindsTo s T.d_law ⟨[v], []⟩ [("_law_script", v)] :=
  ⟨{ a_NoBattle_init := f_NoBattle_init,
      d_NoBattle_init := _,
      F_NoBattle_init := fun_mk (st := s_NoBattle_init) l_NoBattle_init c_NoBattle_init k_NoBattle_init,
      b_NoBattle_init := (fun_mk (st := s_NoBattle_init) l_NoBattle_init c_NoBattle_init k_NoBattle_init).binds fun _ _ _ _ _ _ us hl => match us, hl with | [_, _], _ => rfl,
      a_is_number := f_is_number,
      d_is_number := _,
      F_is_number := fun_mk (st := s_is_number) l_is_number c_is_number k_is_number,
      g_is_number := PySem.W.mg_of X G a_is_number,
      b_is_number := (fun_mk (st := s_is_number) l_is_number c_is_number k_is_number).binds fun _ _ _ _ _ _ us hl => match us, hl with | [_], _ => rfl,
      a_are_numbers := f_are_numbers,
      d_are_numbers := _,
      F_are_numbers := fun_mk (st := s_are_numbers) l_are_numbers c_are_numbers k_are_numbers,
      g_are_numbers := PySem.W.mg_of X G a_are_numbers,
      b_are_numbers := (fun_mk (st := s_are_numbers) l_are_numbers c_are_numbers k_are_numbers).binds fun _ _ _ _ _ _ us hl => match us, hl with | [_, _], _ => rfl,
      a_is_rule := f_is_rule,
      d_is_rule := _,
      F_is_rule := fun_mk (st := s_is_rule) l_is_rule c_is_rule k_is_rule,
      g_is_rule := PySem.W.mg_of X G a_is_rule,
      b_is_rule := (fun_mk (st := s_is_rule) l_is_rule c_is_rule k_is_rule).binds fun _ _ _ _ _ _ us hl => match us, hl with | [_], _ => rfl,
      a_is_field := f_is_field,
      d_is_field := _,
      F_is_field := fun_mk (st := s_is_field) l_is_field c_is_field k_is_field,
      g_is_field := PySem.W.mg_of X G a_is_field,
      b_is_field := (fun_mk (st := s_is_field) l_is_field c_is_field k_is_field).binds fun _ _ _ _ _ _ us hl => match us, hl with | [_, _, _], _ => rfl,
      a_look_battle := f_look_battle,
      d_look_battle := _,
      F_look_battle := fun_mk (st := s_look_battle) l_look_battle c_look_battle k_look_battle,
      g_look_battle := PySem.W.mg_of X G a_look_battle,
      b_look_battle := (fun_mk (st := s_look_battle) l_look_battle c_look_battle k_look_battle).binds fun _ _ _ _ _ _ us hl => match us, hl with | [_], _ => rfl,
      a_paid := f_paid,
      d_paid := _,
      F_paid := fun_mk (st := s_paid) l_paid c_paid k_paid,
      g_paid := PySem.W.mg_of X G a_paid,
      b_paid := (fun_mk (st := s_paid) l_paid c_paid k_paid).binds fun _ _ _ _ _ _ us hl => match us, hl with | [_, _, _], _ => rfl,
      a_is_plan := f_is_plan,
      d_is_plan := _,
      F_is_plan := fun_mk (st := s_is_plan) l_is_plan c_is_plan k_is_plan,
      g_is_plan := PySem.W.mg_of X G a_is_plan,
      b_is_plan := (fun_mk (st := s_is_plan) l_is_plan c_is_plan k_is_plan).binds fun _ _ _ _ _ _ us hl => match us, hl with | [_, _, _], _ => rfl,
      a_must_be_sizes := f_must_be_sizes,
      d_must_be_sizes := _,
      F_must_be_sizes := fun_mk (st := s_must_be_sizes) l_must_be_sizes c_must_be_sizes k_must_be_sizes,
      g_must_be_sizes := PySem.W.mg_of X G a_must_be_sizes,
      b_must_be_sizes := (fun_mk (st := s_must_be_sizes) l_must_be_sizes c_must_be_sizes k_must_be_sizes).binds fun _ _ _ _ _ _ us hl => match us, hl with | [_, _], _ => rfl,
      a_Fallings_init := f_Fallings_init,
      d_Fallings_init := _,
      F_Fallings_init := fun_mk (st := s_Fallings_init) l_Fallings_init c_Fallings_init k_Fallings_init,
      b_Fallings_init := (fun_mk (st := s_Fallings_init) l_Fallings_init c_Fallings_init k_Fallings_init).binds fun _ _ _ _ _ _ us hl => match us, hl with | [_], _ => rfl,
      a_Fallings_many := f_Fallings_many,
      d_Fallings_many := _,
      F_Fallings_many := fun_mk (st := s_Fallings_many) l_Fallings_many c_Fallings_many k_Fallings_many,
      b_Fallings_many := (fun_mk (st := s_Fallings_many) l_Fallings_many c_Fallings_many k_Fallings_many).binds fun _ _ _ _ _ _ us hl => match us, hl with | [_, _, _, _], _ => rfl,
      a_counts_many := f_counts_many,
      d_counts_many := _,
      F_counts_many := fun_mk (st := s_counts_many) l_counts_many c_counts_many k_counts_many,
      g_counts_many := PySem.W.mg_of X G a_counts_many,
      b_counts_many := (fun_mk (st := s_counts_many) l_counts_many c_counts_many k_counts_many).binds fun _ _ _ _ _ _ us hl => match us, hl with | [_, _], _ => rfl,
      a_counts_of := f_counts_of,
      d_counts_of := _,
      F_counts_of := fun_mk (st := s_counts_of) l_counts_of c_counts_of k_counts_of,
      g_counts_of := PySem.W.mg_of X G a_counts_of,
      b_counts_of := (fun_mk (st := s_counts_of) l_counts_of c_counts_of k_counts_of).binds fun _ _ _ _ _ _ us hl => match us, hl with | [_, _, _], _ => rfl,
      a_divisor := f_divisor,
      d_divisor := _,
      F_divisor := fun_mk (st := s_divisor) l_divisor c_divisor k_divisor,
      g_divisor := PySem.W.mg_of X G a_divisor,
      b_divisor := (fun_mk (st := s_divisor) l_divisor c_divisor k_divisor).binds fun _ _ _ _ _ _ us hl => match us, hl with | [_, _], _ => rfl,
      a_ratio := f_ratio,
      d_ratio := _,
      F_ratio := fun_mk (st := s_ratio) l_ratio c_ratio k_ratio,
      g_ratio := PySem.W.mg_of X G a_ratio,
      b_ratio := (fun_mk (st := s_ratio) l_ratio c_ratio k_ratio).binds fun _ _ _ _ _ _ us hl => match us, hl with | [_, _], _ => rfl,
      a_minus := f_minus,
      d_minus := _,
      F_minus := fun_mk (st := s_minus) l_minus c_minus k_minus,
      g_minus := PySem.W.mg_of X G a_minus,
      b_minus := (fun_mk (st := s_minus) l_minus c_minus k_minus).binds fun _ _ _ _ _ _ us hl => match us, hl with | [_, _], _ => rfl,
      a_divided_out := f_divided_out,
      d_divided_out := _,
      F_divided_out := fun_mk (st := s_divided_out) l_divided_out c_divided_out k_divided_out,
      g_divided_out := PySem.W.mg_of X G a_divided_out,
      b_divided_out := (fun_mk (st := s_divided_out) l_divided_out c_divided_out k_divided_out).binds fun _ _ _ _ _ _ us hl => match us, hl with | [_], _ => rfl,
      a_begun := f_begun,
      d_begun := _,
      F_begun := fun_mk (st := s_begun) l_begun c_begun k_begun,
      g_begun := PySem.W.mg_of X G a_begun,
      b_begun := (fun_mk (st := s_begun) l_begun c_begun k_begun).binds fun _ _ _ _ _ _ us hl => match us, hl with | [_, _], _ => rfl,
      a_entering := f_entering,
      d_entering := _,
      F_entering := fun_mk (st := s_entering) l_entering c_entering k_entering,
      g_entering := PySem.W.mg_of X G a_entering,
      b_entering := (fun_mk (st := s_entering) l_entering c_entering k_entering).binds fun _ _ _ _ _ _ us hl => match us, hl with | [_], _ => rfl,
      a_leaving := f_leaving,
      d_leaving := _,
      F_leaving := fun_mk (st := s_leaving) l_leaving c_leaving k_leaving,
      g_leaving := PySem.W.mg_of X G a_leaving,
      b_leaving := (fun_mk (st := s_leaving) l_leaving c_leaving k_leaving).binds fun _ _ _ _ _ _ us hl => match us, hl with | [_, _, _], _ => rfl,
      a_turned := f_turned,
      d_turned := _,
      F_turned := fun_mk (st := s_turned) l_turned c_turned k_turned,
      g_turned := PySem.W.mg_of X G a_turned,
      b_turned := (fun_mk (st := s_turned) l_turned c_turned k_turned).binds fun _ _ _ _ _ _ us hl => match us, hl with | [_, _, _, _], _ => rfl,
      a_solved := f_solved,
      d_solved := _,
      F_solved := fun_mk (st := s_solved) l_solved c_solved k_solved,
      g_solved := PySem.W.mg_of X G a_solved,
      b_solved := (fun_mk (st := s_solved) l_solved c_solved k_solved).binds fun _ _ _ _ _ _ us hl => match us, hl with | [_], _ => rfl,
      a_is_alike := f_is_alike,
      d_is_alike := _,
      F_is_alike := fun_mk (st := s_is_alike) l_is_alike c_is_alike k_is_alike,
      g_is_alike := PySem.W.mg_of X G a_is_alike,
      b_is_alike := (fun_mk (st := s_is_alike) l_is_alike c_is_alike k_is_alike).binds fun _ _ _ _ _ _ us hl => match us, hl with | [_], _ => rfl,
      a_must_be_alike := f_must_be_alike,
      d_must_be_alike := _,
      F_must_be_alike := fun_mk (st := s_must_be_alike) l_must_be_alike c_must_be_alike k_must_be_alike,
      g_must_be_alike := PySem.W.mg_of X G a_must_be_alike,
      b_must_be_alike := (fun_mk (st := s_must_be_alike) l_must_be_alike c_must_be_alike k_must_be_alike).binds fun _ _ _ _ _ _ us hl => match us, hl with | [_], _ => rfl,
      a_met := f_met,
      d_met := _,
      F_met := fun_mk (st := s_met) l_met c_met k_met,
      g_met := PySem.W.mg_of X G a_met,
      b_met := (fun_mk (st := s_met) l_met c_met k_met).binds fun _ _ _ _ _ _ us hl => match us, hl with | [_, _, _], _ => rfl,
      a_ring_gain := f_ring_gain,
      d_ring_gain := _,
      F_ring_gain := fun_mk (st := s_ring_gain) l_ring_gain c_ring_gain k_ring_gain,
      g_ring_gain := PySem.W.mg_of X G a_ring_gain,
      b_ring_gain := (fun_mk (st := s_ring_gain) l_ring_gain c_ring_gain k_ring_gain).binds fun _ _ _ _ _ _ us hl => match us, hl with | [_, _, _], _ => rfl,
      a_all_counts := f_all_counts,
      d_all_counts := _,
      F_all_counts := fun_mk (st := s_all_counts) l_all_counts c_all_counts k_all_counts,
      g_all_counts := PySem.W.mg_of X G a_all_counts,
      b_all_counts := (fun_mk (st := s_all_counts) l_all_counts c_all_counts k_all_counts).binds fun _ _ _ _ _ _ us hl => match us, hl with | [_, _], _ => rfl,
      a_table_by_counts := f_table_by_counts,
      d_table_by_counts := _,
      F_table_by_counts := fun_mk (st := s_table_by_counts) l_table_by_counts c_table_by_counts k_table_by_counts,
      g_table_by_counts := PySem.W.mg_of X G a_table_by_counts,
      b_table_by_counts := (fun_mk (st := s_table_by_counts) l_table_by_counts c_table_by_counts k_table_by_counts).binds fun _ _ _ _ _ _ us hl => match us, hl with | [_], _ => rfl,
      a_counts_table := f_counts_table,
      d_counts_table := _,
      F_counts_table := fun_mk (st := s_counts_table) l_counts_table c_counts_table k_counts_table,
      g_counts_table := PySem.W.mg_of X G a_counts_table,
      b_counts_table := (fun_mk (st := s_counts_table) l_counts_table c_counts_table k_counts_table).binds fun _ _ _ _ _ _ us hl => match us, hl with | [_], _ => rfl,
      a_with_weights := f_with_weights,
      d_with_weights := _,
      F_with_weights := fun_mk (st := s_with_weights) l_with_weights c_with_weights k_with_weights,
      g_with_weights := PySem.W.mg_of X G a_with_weights,
      b_with_weights := (fun_mk (st := s_with_weights) l_with_weights c_with_weights k_with_weights).binds fun _ _ _ _ _ _ us hl => match us, hl with | [_, _], _ => rfl,
      a_counts_worth := f_counts_worth,
      d_counts_worth := _,
      F_counts_worth := fun_mk (st := s_counts_worth) l_counts_worth c_counts_worth k_counts_worth,
      g_counts_worth := PySem.W.mg_of X G a_counts_worth,
      b_counts_worth := (fun_mk (st := s_counts_worth) l_counts_worth c_counts_worth k_counts_worth).binds fun _ _ _ _ _ _ us hl => match us, hl with | [_], _ => rfl,
      a_l_purse := f_l_purse,
      d_l_purse := _,
      F_l_purse := fun_mk (st := s_l_purse) l_l_purse c_l_purse k_l_purse,
      g_l_purse := PySem.W.mg_of X G a_l_purse,
      b_l_purse := (fun_mk (st := s_l_purse) l_l_purse c_l_purse k_l_purse).binds fun _ _ _ _ _ _ us hl => match us, hl with | [_], _ => rfl,
      a_l_draw := f_l_draw,
      d_l_draw := _,
      F_l_draw := fun_mk (st := s_l_draw) l_l_draw c_l_draw k_l_draw,
      g_l_draw := PySem.W.mg_of X G a_l_draw,
      b_l_draw := (fun_mk (st := s_l_draw) l_l_draw c_l_draw k_l_draw).binds fun _ _ _ _ _ _ us hl => match us, hl with | [_, _], _ => rfl,
      a_l_field := f_l_field,
      d_l_field := _,
      F_l_field := fun_mk (st := s_l_field) l_l_field c_l_field k_l_field,
      g_l_field := PySem.W.mg_of X G a_l_field,
      b_l_field := (fun_mk (st := s_l_field) l_l_field c_l_field k_l_field).binds fun _ _ _ _ _ _ us hl => match us, hl with | [_, _, _], _ => rfl,
      a_l_copy := f_l_copy,
      d_l_copy := _,
      F_l_copy := fun_mk (st := s_l_copy) l_l_copy c_l_copy k_l_copy,
      g_l_copy := PySem.W.mg_of X G a_l_copy,
      b_l_copy := (fun_mk (st := s_l_copy) l_l_copy c_l_copy k_l_copy).binds fun _ _ _ _ _ _ us hl => match us, hl with | [_], _ => rfl,
      a_l_changed := f_l_changed,
      d_l_changed := _,
      F_l_changed := fun_mk (st := s_l_changed) l_l_changed c_l_changed k_l_changed,
      g_l_changed := PySem.W.mg_of X G a_l_changed,
      b_l_changed := (fun_mk (st := s_l_changed) l_l_changed c_l_changed k_l_changed).binds fun _ _ _ _ _ _ us hl => match us, hl with | [_, _, _, _], _ => rfl,
      a_l_no_field := f_l_no_field,
      d_l_no_field := _,
      F_l_no_field := fun_mk (st := s_l_no_field) l_l_no_field c_l_no_field k_l_no_field,
      g_l_no_field := PySem.W.mg_of X G a_l_no_field,
      b_l_no_field := (fun_mk (st := s_l_no_field) l_l_no_field c_l_no_field k_l_no_field).binds fun _ _ _ _ _ _ us hl => match us, hl with | [_, _], _ => rfl,
      a_l_no_battle := f_l_no_battle,
      d_l_no_battle := _,
      F_l_no_battle := fun_mk (st := s_l_no_battle) l_l_no_battle c_l_no_battle k_l_no_battle,
      g_l_no_battle := PySem.W.mg_of X G a_l_no_battle,
      b_l_no_battle := (fun_mk (st := s_l_no_battle) l_l_no_battle c_l_no_battle k_l_no_battle).binds fun _ _ _ _ _ _ us hl => match us, hl with | [_, _], _ => rfl,
      a_l_marks := f_l_marks,
      d_l_marks := _,
      F_l_marks := fun_mk (st := s_l_marks) l_l_marks c_l_marks k_l_marks,
      g_l_marks := PySem.W.mg_of X G a_l_marks,
      b_l_marks := (fun_mk (st := s_l_marks) l_l_marks c_l_marks k_l_marks).binds fun _ _ _ _ _ _ us hl => match us, hl with | [_], _ => rfl,
      a_l_caught := f_l_caught,
      d_l_caught := _,
      F_l_caught := fun_mk (st := s_l_caught) l_l_caught c_l_caught k_l_caught,
      g_l_caught := PySem.W.mg_of X G a_l_caught,
      b_l_caught := (fun_mk (st := s_l_caught) l_l_caught c_l_caught k_l_caught).binds fun _ _ _ _ _ _ us hl => match us, hl with | [_, _, _, _], _ => rfl,
      a_l_said := f_l_said,
      d_l_said := _,
      F_l_said := fun_mk (st := s_l_said) l_l_said c_l_said k_l_said,
      g_l_said := PySem.W.mg_of X G a_l_said,
      b_l_said := (fun_mk (st := s_l_said) l_l_said c_l_said k_l_said).binds fun _ _ _ _ _ _ us hl => match us, hl with | [_, _], _ => rfl,
      a_law := f_law,
      d_law := _,
      F_law := fun_mk (st := s_law) l_law c_law k_law,
      g_law := PySem.W.mg_of X G a_law,
      b_law := (fun_mk (st := s_law) l_law c_law k_law).binds fun _ _ _ _ _ _ us hl => match us, hl with | [_], _ => rfl,
      e_Fallings := e_Fallings,
      g_Fallings := PySem.W.mg_of X G h_Fallings,
      pg_Fallings := pg_Fallings,
      ph_Fallings := ph_Fallings,
      po_Fallings := po_Fallings,
      ps_Fallings := ps_Fallings,
      pm_Fallings := pm_Fallings,
      pk_Fallings := pk_Fallings,
      pf_Fallings_init := pf_Fallings_init,
      pn_Fallings_init := pn_Fallings_init,
      pp_Fallings_init := pp_Fallings_init,
      pf_Fallings_many := pf_Fallings_many,
      pn_Fallings_many := pn_Fallings_many,
      pp_Fallings_many := pp_Fallings_many,
      pa_Fallings_known := pa_Fallings_known,
      z_ValueError := PySem.W.mg_none_of X G z_ValueError,
      z_abs := PySem.W.mg_none_of X G z_abs,
      z_bool := PySem.W.mg_none_of X G z_bool,
      z_int := PySem.W.mg_none_of X G z_int,
      z_isinstance := PySem.W.mg_none_of X G z_isinstance,
      z_len := PySem.W.mg_none_of X G z_len,
      z_list := PySem.W.mg_none_of X G z_list,
      z_max := PySem.W.mg_none_of X G z_max,
      z_min := PySem.W.mg_none_of X G z_min,
      z_range := PySem.W.mg_none_of X G z_range,
      z_str := PySem.W.mg_none_of X G z_str,
      z_sum := PySem.W.mg_none_of X G z_sum,
      z_zip := PySem.W.mg_none_of X G z_zip,
      t_MOST_HOSTS_fields := t_MOST_HOSTS_fields,
      c_MOST_HOSTS_fields := PySem.W.mg_of X G h_MOST_HOSTS_fields,
      t_MOST_FIELDS_fields := t_MOST_FIELDS_fields,
      c_MOST_FIELDS_fields := PySem.W.mg_of X G h_MOST_FIELDS_fields,
      t_MOST_HOSTS_plans := t_MOST_HOSTS_plans,
      c_MOST_HOSTS_plans := PySem.W.mg_of X G h_MOST_HOSTS_plans,
      t_MOST_FIELDS_plans := t_MOST_FIELDS_plans,
      c_MOST_FIELDS_plans := PySem.W.mg_of X G h_MOST_FIELDS_plans,
      e_HostError := e_HostError,
      g_HostError := PySem.W.mg_of X G h_HostError,
      i_HostError := i_HostError,
      t_HostError := t_HostError,
      y_HostError := y_HostError,
      e_NoBattle := e_NoBattle,
      g_NoBattle := PySem.W.mg_of X G h_NoBattle,
      i_NoBattle := i_NoBattle,
      t_NoBattle := t_NoBattle,
      y_NoBattle := y_NoBattle,
      e_NoPlan := e_NoPlan,
      g_NoPlan := PySem.W.mg_of X G h_NoPlan,
      i_NoPlan := i_NoPlan,
      t_NoPlan := t_NoPlan,
      y_NoPlan := y_NoPlan,
      e_NoMix := e_NoMix,
      g_NoMix := PySem.W.mg_of X G h_NoMix,
      i_NoMix := i_NoMix,
      t_NoMix := t_NoMix,
      y_NoMix := y_NoMix,
      e_NoStream := e_NoStream,
      g_NoStream := PySem.W.mg_of X G h_NoStream,
      i_NoStream := i_NoStream,
      t_NoStream := t_NoStream,
      y_NoStream := y_NoStream,
      e_NoSide := e_NoSide,
      g_NoSide := PySem.W.mg_of X G h_NoSide,
      i_NoSide := i_NoSide,
      t_NoSide := t_NoSide,
      y_NoSide := y_NoSide,
      e_NoAlike := e_NoAlike,
      g_NoAlike := PySem.W.mg_of X G h_NoAlike,
      i_NoAlike := i_NoAlike,
      t_NoAlike := t_NoAlike,
      y_NoAlike := y_NoAlike,
      e_NoNumber := e_NoNumber,
      g_NoNumber := PySem.W.mg_of X G h_NoNumber,
      i_NoNumber := i_NoNumber,
      t_NoNumber := t_NoNumber,
      y_NoNumber := y_NoNumber,
      e_TooGreat := e_TooGreat,
      g_TooGreat := PySem.W.mg_of X G h_TooGreat,
      i_TooGreat := i_TooGreat,
      t_TooGreat := t_TooGreat,
      y_TooGreat := y_TooGreat,
      e_NoEven := e_NoEven,
      g_NoEven := PySem.W.mg_of X G h_NoEven,
      i_NoEven := i_NoEven,
      t_NoEven := t_NoEven,
      y_NoEven := y_NoEven,
      e_NoText := e_NoText,
      g_NoText := PySem.W.mg_of X G h_NoText,
      i_NoText := i_NoText,
      t_NoText := t_NoText,
      y_NoText := y_NoText,
      e_NoRow := e_NoRow,
      g_NoRow := PySem.W.mg_of X G h_NoRow,
      i_NoRow := i_NoRow,
      t_NoRow := t_NoRow,
      y_NoRow := y_NoRow,
      e_NoName := e_NoName,
      g_NoName := PySem.W.mg_of X G h_NoName,
      i_NoName := i_NoName,
      t_NoName := t_NoName,
      y_NoName := y_NoName,
      e_NoPlace := e_NoPlace,
      g_NoPlace := PySem.W.mg_of X G h_NoPlace,
      i_NoPlace := i_NoPlace,
      t_NoPlace := t_NoPlace,
      y_NoPlace := y_NoPlace,
      x_NoPlan := x_NoPlan,
      k_NoPlan := k_NoPlan,
      hg_NoPlan := hg_NoPlan,
      hk_NoPlan := hk_NoPlan,
      hd_NoPlan := hd_NoPlan,
      ha_NoPlan := ha_NoPlan,
      hm_NoPlan := hm_NoPlan,
      v_NoPlan := v_NoPlan,
      s_NoPlan_HostError := s_NoPlan_HostError,
      s_NoPlan_NoBattle := s_NoPlan_NoBattle,
      s_NoPlan_NoPlan := s_NoPlan_NoPlan,
      s_NoPlan_NoMix := s_NoPlan_NoMix,
      s_NoPlan_NoStream := s_NoPlan_NoStream,
      s_NoPlan_NoSide := s_NoPlan_NoSide,
      s_NoPlan_NoAlike := s_NoPlan_NoAlike,
      s_NoPlan_NoNumber := s_NoPlan_NoNumber,
      s_NoPlan_TooGreat := s_NoPlan_TooGreat,
      s_NoPlan_NoEven := s_NoPlan_NoEven,
      s_NoPlan_NoText := s_NoPlan_NoText,
      s_NoPlan_NoRow := s_NoPlan_NoRow,
      s_NoPlan_NoName := s_NoPlan_NoName,
      s_NoPlan_NoPlace := s_NoPlan_NoPlace,
      x_NoAlike := x_NoAlike,
      k_NoAlike := k_NoAlike,
      hg_NoAlike := hg_NoAlike,
      hk_NoAlike := hk_NoAlike,
      hd_NoAlike := hd_NoAlike,
      ha_NoAlike := ha_NoAlike,
      hm_NoAlike := hm_NoAlike,
      v_NoAlike := v_NoAlike,
      s_NoAlike_HostError := s_NoAlike_HostError,
      s_NoAlike_NoBattle := s_NoAlike_NoBattle,
      s_NoAlike_NoPlan := s_NoAlike_NoPlan,
      s_NoAlike_NoMix := s_NoAlike_NoMix,
      s_NoAlike_NoStream := s_NoAlike_NoStream,
      s_NoAlike_NoSide := s_NoAlike_NoSide,
      s_NoAlike_NoAlike := s_NoAlike_NoAlike,
      s_NoAlike_NoNumber := s_NoAlike_NoNumber,
      s_NoAlike_TooGreat := s_NoAlike_TooGreat,
      s_NoAlike_NoEven := s_NoAlike_NoEven,
      s_NoAlike_NoText := s_NoAlike_NoText,
      s_NoAlike_NoRow := s_NoAlike_NoRow,
      s_NoAlike_NoName := s_NoAlike_NoName,
      s_NoAlike_NoPlace := s_NoAlike_NoPlace,
      oc_NoBattle := ⟨xn_NoBattle, xq_NoBattle, xN_NoBattle, xb_NoBattle, _, xs_NoBattle, xu_NoBattle, xa_NoBattle, xc_NoBattle, xd_NoBattle, x0_NoBattle, x1_NoBattle, x2_NoBattle, x3_NoBattle, x5_NoBattle, oc_NoBattle, (show PySem.HandSPX.refsVE [.type "ValueError", .type "Exception", .type "BaseException", .type "object"] = true by decide +kernel)⟩,
      sa_NoBattle := sa_NoBattle,
      ic_NoBattle := ic_NoBattle,
      ti_NoBattle := ti_NoBattle,
      no_NoBattle_field := no_NoBattle_field,
      rd_HostError := rd_HostError,
      ga_HostError := ga_HostError,
      fc_HostError := fc_HostError,
      k_NoBattle := k_NoBattle,
      hg_NoBattle := hg_NoBattle,
      hk_NoBattle := hk_NoBattle,
      hd_NoBattle := hd_NoBattle,
      ha_NoBattle := ha_NoBattle,
      hm_NoBattle := hm_NoBattle,
      v_NoBattle := v_NoBattle,
      s_NoBattle_HostError := s_NoBattle_HostError,
      s_NoBattle_NoBattle := s_NoBattle_NoBattle,
      s_NoBattle_NoPlan := s_NoBattle_NoPlan,
      s_NoBattle_NoMix := s_NoBattle_NoMix,
      s_NoBattle_NoStream := s_NoBattle_NoStream,
      s_NoBattle_NoSide := s_NoBattle_NoSide,
      s_NoBattle_NoAlike := s_NoBattle_NoAlike,
      s_NoBattle_NoNumber := s_NoBattle_NoNumber,
      s_NoBattle_TooGreat := s_NoBattle_TooGreat,
      s_NoBattle_NoEven := s_NoBattle_NoEven,
      s_NoBattle_NoText := s_NoBattle_NoText,
      s_NoBattle_NoRow := s_NoBattle_NoRow,
      s_NoBattle_NoName := s_NoBattle_NoName,
      s_NoBattle_NoPlace := s_NoBattle_NoPlace,
      ho_n := ho_n,
      ho_t := ho_t }, rfl, fun _ _ => .of_eq rfl⟩
theorem all_mk {P : Program} {w : World} {K : PySem.W.Frag} {h : Heap} {mg : Str → Option Value} {fa : Addr} {f_NoBattle_init : Addr} {o_NoBattle_init n_NoBattle_init : Option Addr} {w_NoBattle_init : Array (Option Value)} {q1_NoBattle_init q2_NoBattle_init q3_NoBattle_init q4_NoBattle_init q5_NoBattle_init q6_NoBattle_init : Value} {f_is_number : Addr} {o_is_number n_is_number : Option Addr} {w_is_number : Array (Option Value)} {q1_is_number q2_is_number q3_is_number q4_is_number q5_is_number q6_is_number : Value} {f_are_numbers : Addr} {o_are_numbers n_are_numbers : Option Addr} {w_are_numbers : Array (Option Value)} {q1_are_numbers q2_are_numbers q3_are_numbers q4_are_numbers q5_are_numbers q6_are_numbers : Value} {f_is_rule : Addr} {o_is_rule n_is_rule : Option Addr} {w_is_rule : Array (Option Value)} {q1_is_rule q2_is_rule q3_is_rule q4_is_rule q5_is_rule q6_is_rule : Value} {f_is_field : Addr} {o_is_field n_is_field : Option Addr} {w_is_field : Array (Option Value)} {q1_is_field q2_is_field q3_is_field q4_is_field q5_is_field q6_is_field : Value} {f_look_battle : Addr} {o_look_battle n_look_battle : Option Addr} {w_look_battle : Array (Option Value)} {q1_look_battle q2_look_battle q3_look_battle q4_look_battle q5_look_battle q6_look_battle : Value} {f_paid : Addr} {o_paid n_paid : Option Addr} {w_paid : Array (Option Value)} {q1_paid q2_paid q3_paid q4_paid q5_paid q6_paid : Value} {f_is_plan : Addr} {o_is_plan n_is_plan : Option Addr} {w_is_plan : Array (Option Value)} {q1_is_plan q2_is_plan q3_is_plan q4_is_plan q5_is_plan q6_is_plan : Value} {f_must_be_sizes : Addr} {o_must_be_sizes n_must_be_sizes : Option Addr} {w_must_be_sizes : Array (Option Value)} {q1_must_be_sizes q2_must_be_sizes q3_must_be_sizes q4_must_be_sizes q5_must_be_sizes q6_must_be_sizes : Value} {f_Fallings_init : Addr} {o_Fallings_init n_Fallings_init : Option Addr} {w_Fallings_init : Array (Option Value)} {q1_Fallings_init q2_Fallings_init q3_Fallings_init q4_Fallings_init q5_Fallings_init q6_Fallings_init : Value} {f_Fallings_many : Addr} {o_Fallings_many n_Fallings_many : Option Addr} {w_Fallings_many : Array (Option Value)} {q1_Fallings_many q2_Fallings_many q3_Fallings_many q4_Fallings_many q5_Fallings_many q6_Fallings_many : Value} {f_counts_many : Addr} {o_counts_many n_counts_many : Option Addr} {w_counts_many : Array (Option Value)} {q1_counts_many q2_counts_many q3_counts_many q4_counts_many q5_counts_many q6_counts_many : Value} {f_counts_of : Addr} {o_counts_of n_counts_of : Option Addr} {w_counts_of : Array (Option Value)} {q1_counts_of q2_counts_of q3_counts_of q4_counts_of q5_counts_of q6_counts_of : Value} {f_divisor : Addr} {o_divisor n_divisor : Option Addr} {w_divisor : Array (Option Value)} {q1_divisor q2_divisor q3_divisor q4_divisor q5_divisor q6_divisor : Value} {f_ratio : Addr} {o_ratio n_ratio : Option Addr} {w_ratio : Array (Option Value)} {q1_ratio q2_ratio q3_ratio q4_ratio q5_ratio q6_ratio : Value} {f_minus : Addr} {o_minus n_minus : Option Addr} {w_minus : Array (Option Value)} {q1_minus q2_minus q3_minus q4_minus q5_minus q6_minus : Value} {f_divided_out : Addr} {o_divided_out n_divided_out : Option Addr} {w_divided_out : Array (Option Value)} {q1_divided_out q2_divided_out q3_divided_out q4_divided_out q5_divided_out q6_divided_out : Value} {f_begun : Addr} {o_begun n_begun : Option Addr} {w_begun : Array (Option Value)} {q1_begun q2_begun q3_begun q4_begun q5_begun q6_begun : Value} {f_entering : Addr} {o_entering n_entering : Option Addr} {w_entering : Array (Option Value)} {q1_entering q2_entering q3_entering q4_entering q5_entering q6_entering : Value} {f_leaving : Addr} {o_leaving n_leaving : Option Addr} {w_leaving : Array (Option Value)} {q1_leaving q2_leaving q3_leaving q4_leaving q5_leaving q6_leaving : Value} {f_turned : Addr} {o_turned n_turned : Option Addr} {w_turned : Array (Option Value)} {q1_turned q2_turned q3_turned q4_turned q5_turned q6_turned : Value} {f_solved : Addr} {o_solved n_solved : Option Addr} {w_solved : Array (Option Value)} {q1_solved q2_solved q3_solved q4_solved q5_solved q6_solved : Value} {f_is_alike : Addr} {o_is_alike n_is_alike : Option Addr} {w_is_alike : Array (Option Value)} {q1_is_alike q2_is_alike q3_is_alike q4_is_alike q5_is_alike q6_is_alike : Value} {f_must_be_alike : Addr} {o_must_be_alike n_must_be_alike : Option Addr} {w_must_be_alike : Array (Option Value)} {q1_must_be_alike q2_must_be_alike q3_must_be_alike q4_must_be_alike q5_must_be_alike q6_must_be_alike : Value} {f_met : Addr} {o_met n_met : Option Addr} {w_met : Array (Option Value)} {q1_met q2_met q3_met q4_met q5_met q6_met : Value} {f_ring_gain : Addr} {o_ring_gain n_ring_gain : Option Addr} {w_ring_gain : Array (Option Value)} {q1_ring_gain q2_ring_gain q3_ring_gain q4_ring_gain q5_ring_gain q6_ring_gain : Value} {f_all_counts : Addr} {o_all_counts n_all_counts : Option Addr} {w_all_counts : Array (Option Value)} {q1_all_counts q2_all_counts q3_all_counts q4_all_counts q5_all_counts q6_all_counts : Value} {f_table_by_counts : Addr} {o_table_by_counts n_table_by_counts : Option Addr} {w_table_by_counts : Array (Option Value)} {q1_table_by_counts q2_table_by_counts q3_table_by_counts q4_table_by_counts q5_table_by_counts q6_table_by_counts : Value} {f_counts_table : Addr} {o_counts_table n_counts_table : Option Addr} {w_counts_table : Array (Option Value)} {q1_counts_table q2_counts_table q3_counts_table q4_counts_table q5_counts_table q6_counts_table : Value} {f_with_weights : Addr} {o_with_weights n_with_weights : Option Addr} {w_with_weights : Array (Option Value)} {q1_with_weights q2_with_weights q3_with_weights q4_with_weights q5_with_weights q6_with_weights : Value} {f_counts_worth : Addr} {o_counts_worth n_counts_worth : Option Addr} {w_counts_worth : Array (Option Value)} {q1_counts_worth q2_counts_worth q3_counts_worth q4_counts_worth q5_counts_worth q6_counts_worth : Value} {f_l_purse : Addr} {o_l_purse n_l_purse : Option Addr} {w_l_purse : Array (Option Value)} {q1_l_purse q2_l_purse q3_l_purse q4_l_purse q5_l_purse q6_l_purse : Value} {f_l_draw : Addr} {o_l_draw n_l_draw : Option Addr} {w_l_draw : Array (Option Value)} {q1_l_draw q2_l_draw q3_l_draw q4_l_draw q5_l_draw q6_l_draw : Value} {f_l_field : Addr} {o_l_field n_l_field : Option Addr} {w_l_field : Array (Option Value)} {q1_l_field q2_l_field q3_l_field q4_l_field q5_l_field q6_l_field : Value} {f_l_copy : Addr} {o_l_copy n_l_copy : Option Addr} {w_l_copy : Array (Option Value)} {q1_l_copy q2_l_copy q3_l_copy q4_l_copy q5_l_copy q6_l_copy : Value} {f_l_changed : Addr} {o_l_changed n_l_changed : Option Addr} {w_l_changed : Array (Option Value)} {q1_l_changed q2_l_changed q3_l_changed q4_l_changed q5_l_changed q6_l_changed : Value} {f_l_no_field : Addr} {o_l_no_field n_l_no_field : Option Addr} {w_l_no_field : Array (Option Value)} {q1_l_no_field q2_l_no_field q3_l_no_field q4_l_no_field q5_l_no_field q6_l_no_field : Value} {f_l_no_battle : Addr} {o_l_no_battle n_l_no_battle : Option Addr} {w_l_no_battle : Array (Option Value)} {q1_l_no_battle q2_l_no_battle q3_l_no_battle q4_l_no_battle q5_l_no_battle q6_l_no_battle : Value} {f_l_marks : Addr} {o_l_marks n_l_marks : Option Addr} {w_l_marks : Array (Option Value)} {q1_l_marks q2_l_marks q3_l_marks q4_l_marks q5_l_marks q6_l_marks : Value} {f_l_caught : Addr} {o_l_caught n_l_caught : Option Addr} {w_l_caught : Array (Option Value)} {q1_l_caught q2_l_caught q3_l_caught q4_l_caught q5_l_caught q6_l_caught : Value} {f_l_said : Addr} {o_l_said n_l_said : Option Addr} {w_l_said : Array (Option Value)} {q1_l_said q2_l_said q3_l_said q4_l_said q5_l_said q6_l_said : Value} {f_law : Addr} {o_law n_law : Option Addr} {w_law : Array (Option Value)} {q1_law q2_law q3_law q4_law q5_law q6_law : Value} {e_Fallings : Addr} {t_MOST_HOSTS_fields : Tok} {t_MOST_FIELDS_fields : Tok} {t_MOST_HOSTS_plans : Tok} {t_MOST_FIELDS_plans : Tok} {e_HostError : Addr} {e_NoBattle : Addr} {e_NoPlan : Addr} {e_NoMix : Addr} {e_NoStream : Addr} {e_NoSide : Addr} {e_NoAlike : Addr} {e_NoNumber : Addr} {e_TooGreat : Addr} {e_NoEven : Addr} {e_NoText : Addr} {e_NoRow : Addr} {e_NoName : Addr} {e_NoPlace : Addr} {xn_NoBattle xq_NoBattle : Str} {xN_NoBattle : Addr} {xb_NoBattle : List Value} {xs_NoBattle : List Str} {xu_NoBattle : List Value} {xa_NoBattle : Bool} {xc_NoBattle : Option Bool} {xd_NoBattle : Option Addr} {x0_NoBattle x1_NoBattle x2_NoBattle x3_NoBattle x5_NoBattle : Option Value} (X : K.In h) (G : h.Ns mainGlobals mg) (hfa : mg "law" = some (.ref fa))
    (h_Fallings : PySem.W.nsIn K mainGlobals "Fallings" = some (some (.ref e_Fallings)))
    (h_HostError : PySem.W.nsIn K mainGlobals "HostError" = some (some (.ref e_HostError)))
    (h_NoBattle : PySem.W.nsIn K mainGlobals "NoBattle" = some (some (.ref e_NoBattle)))
    (h_NoPlan : PySem.W.nsIn K mainGlobals "NoPlan" = some (some (.ref e_NoPlan)))
    (h_NoMix : PySem.W.nsIn K mainGlobals "NoMix" = some (some (.ref e_NoMix)))
    (h_NoStream : PySem.W.nsIn K mainGlobals "NoStream" = some (some (.ref e_NoStream)))
    (h_NoSide : PySem.W.nsIn K mainGlobals "NoSide" = some (some (.ref e_NoSide)))
    (h_NoAlike : PySem.W.nsIn K mainGlobals "NoAlike" = some (some (.ref e_NoAlike)))
    (h_NoNumber : PySem.W.nsIn K mainGlobals "NoNumber" = some (some (.ref e_NoNumber)))
    (h_TooGreat : PySem.W.nsIn K mainGlobals "TooGreat" = some (some (.ref e_TooGreat)))
    (h_NoEven : PySem.W.nsIn K mainGlobals "NoEven" = some (some (.ref e_NoEven)))
    (h_NoText : PySem.W.nsIn K mainGlobals "NoText" = some (some (.ref e_NoText)))
    (h_NoRow : PySem.W.nsIn K mainGlobals "NoRow" = some (some (.ref e_NoRow)))
    (h_NoName : PySem.W.nsIn K mainGlobals "NoName" = some (some (.ref e_NoName)))
    (h_NoPlace : PySem.W.nsIn K mainGlobals "NoPlace" = some (some (.ref e_NoPlace)))
    (pf_Fallings_init : PySem.W.findIn K (.ref e_Fallings) "__init__" = some (some (.ref f_Fallings_init)))
    (pf_Fallings_many : PySem.W.findIn K (.ref e_Fallings) "many" = some (some (.ref f_Fallings_many)))
    (ic_NoBattle : PySem.W.findIn K (.ref e_NoBattle) "__init__" = some (some (.ref f_NoBattle_init)))
    (l_NoBattle_init : K.lookup f_NoBattle_init = some ⟨q1_NoBattle_init, o_NoBattle_init, .func (PySem.W.fnOf "__init__" "NoBattle.__init__" (defArgs s_NoBattle_init) (defBody s_NoBattle_init) (defScope s_NoBattle_init) .none q2_NoBattle_init q3_NoBattle_init q4_NoBattle_init n_NoBattle_init q5_NoBattle_init q6_NoBattle_init), w_NoBattle_init⟩)
    (c_NoBattle_init : PySem.W.codeIn K q5_NoBattle_init "NoBattle.__init__" = true)
    (k_NoBattle_init : PySem.W.keepIn K (.ref f_NoBattle_init) = true)
    (a_is_number : PySem.W.nsIn K mainGlobals "is_number" = some (some (.ref f_is_number)))
    (l_is_number : K.lookup f_is_number = some ⟨q1_is_number, o_is_number, .func (PySem.W.fnOf "is_number" "is_number" (defArgs s_is_number) (defBody s_is_number) (defScope s_is_number) .none q2_is_number q3_is_number q4_is_number n_is_number q5_is_number q6_is_number), w_is_number⟩)
    (c_is_number : PySem.W.codeIn K q5_is_number "is_number" = true)
    (k_is_number : PySem.W.keepIn K (.ref f_is_number) = true)
    (a_are_numbers : PySem.W.nsIn K mainGlobals "are_numbers" = some (some (.ref f_are_numbers)))
    (l_are_numbers : K.lookup f_are_numbers = some ⟨q1_are_numbers, o_are_numbers, .func (PySem.W.fnOf "are_numbers" "are_numbers" (defArgs s_are_numbers) (defBody s_are_numbers) (defScope s_are_numbers) .none q2_are_numbers q3_are_numbers q4_are_numbers n_are_numbers q5_are_numbers q6_are_numbers), w_are_numbers⟩)
    (c_are_numbers : PySem.W.codeIn K q5_are_numbers "are_numbers" = true)
    (k_are_numbers : PySem.W.keepIn K (.ref f_are_numbers) = true)
    (a_is_rule : PySem.W.nsIn K mainGlobals "is_rule" = some (some (.ref f_is_rule)))
    (l_is_rule : K.lookup f_is_rule = some ⟨q1_is_rule, o_is_rule, .func (PySem.W.fnOf "is_rule" "is_rule" (defArgs s_is_rule) (defBody s_is_rule) (defScope s_is_rule) .none q2_is_rule q3_is_rule q4_is_rule n_is_rule q5_is_rule q6_is_rule), w_is_rule⟩)
    (c_is_rule : PySem.W.codeIn K q5_is_rule "is_rule" = true)
    (k_is_rule : PySem.W.keepIn K (.ref f_is_rule) = true)
    (a_is_field : PySem.W.nsIn K mainGlobals "is_field" = some (some (.ref f_is_field)))
    (l_is_field : K.lookup f_is_field = some ⟨q1_is_field, o_is_field, .func (PySem.W.fnOf "is_field" "is_field" (defArgs s_is_field) (defBody s_is_field) (defScope s_is_field) .none q2_is_field q3_is_field q4_is_field n_is_field q5_is_field q6_is_field), w_is_field⟩)
    (c_is_field : PySem.W.codeIn K q5_is_field "is_field" = true)
    (k_is_field : PySem.W.keepIn K (.ref f_is_field) = true)
    (a_look_battle : PySem.W.nsIn K mainGlobals "look_battle" = some (some (.ref f_look_battle)))
    (l_look_battle : K.lookup f_look_battle = some ⟨q1_look_battle, o_look_battle, .func (PySem.W.fnOf "look_battle" "look_battle" (defArgs s_look_battle) (defBody s_look_battle) (defScope s_look_battle) .none q2_look_battle q3_look_battle q4_look_battle n_look_battle q5_look_battle q6_look_battle), w_look_battle⟩)
    (c_look_battle : PySem.W.codeIn K q5_look_battle "look_battle" = true)
    (k_look_battle : PySem.W.keepIn K (.ref f_look_battle) = true)
    (a_paid : PySem.W.nsIn K mainGlobals "paid" = some (some (.ref f_paid)))
    (l_paid : K.lookup f_paid = some ⟨q1_paid, o_paid, .func (PySem.W.fnOf "paid" "paid" (defArgs s_paid) (defBody s_paid) (defScope s_paid) .none q2_paid q3_paid q4_paid n_paid q5_paid q6_paid), w_paid⟩)
    (c_paid : PySem.W.codeIn K q5_paid "paid" = true)
    (k_paid : PySem.W.keepIn K (.ref f_paid) = true)
    (a_is_plan : PySem.W.nsIn K mainGlobals "is_plan" = some (some (.ref f_is_plan)))
    (l_is_plan : K.lookup f_is_plan = some ⟨q1_is_plan, o_is_plan, .func (PySem.W.fnOf "is_plan" "is_plan" (defArgs s_is_plan) (defBody s_is_plan) (defScope s_is_plan) .none q2_is_plan q3_is_plan q4_is_plan n_is_plan q5_is_plan q6_is_plan), w_is_plan⟩)
    (c_is_plan : PySem.W.codeIn K q5_is_plan "is_plan" = true)
    (k_is_plan : PySem.W.keepIn K (.ref f_is_plan) = true)
    (a_must_be_sizes : PySem.W.nsIn K mainGlobals "must_be_sizes" = some (some (.ref f_must_be_sizes)))
    (l_must_be_sizes : K.lookup f_must_be_sizes = some ⟨q1_must_be_sizes, o_must_be_sizes, .func (PySem.W.fnOf "must_be_sizes" "must_be_sizes" (defArgs s_must_be_sizes) (defBody s_must_be_sizes) (defScope s_must_be_sizes) .none q2_must_be_sizes q3_must_be_sizes q4_must_be_sizes n_must_be_sizes q5_must_be_sizes q6_must_be_sizes), w_must_be_sizes⟩)
    (c_must_be_sizes : PySem.W.codeIn K q5_must_be_sizes "must_be_sizes" = true)
    (k_must_be_sizes : PySem.W.keepIn K (.ref f_must_be_sizes) = true)
    (l_Fallings_init : K.lookup f_Fallings_init = some ⟨q1_Fallings_init, o_Fallings_init, .func (PySem.W.fnOf "__init__" "Fallings.__init__" (defArgs s_Fallings_init) (defBody s_Fallings_init) (defScope s_Fallings_init) .none q2_Fallings_init q3_Fallings_init q4_Fallings_init n_Fallings_init q5_Fallings_init q6_Fallings_init), w_Fallings_init⟩)
    (c_Fallings_init : PySem.W.codeIn K q5_Fallings_init "Fallings.__init__" = true)
    (k_Fallings_init : PySem.W.keepIn K (.ref f_Fallings_init) = true)
    (l_Fallings_many : K.lookup f_Fallings_many = some ⟨q1_Fallings_many, o_Fallings_many, .func (PySem.W.fnOf "many" "Fallings.many" (defArgs s_Fallings_many) (defBody s_Fallings_many) (defScope s_Fallings_many) .none q2_Fallings_many q3_Fallings_many q4_Fallings_many n_Fallings_many q5_Fallings_many q6_Fallings_many), w_Fallings_many⟩)
    (c_Fallings_many : PySem.W.codeIn K q5_Fallings_many "Fallings.many" = true)
    (k_Fallings_many : PySem.W.keepIn K (.ref f_Fallings_many) = true)
    (a_counts_many : PySem.W.nsIn K mainGlobals "counts_many" = some (some (.ref f_counts_many)))
    (l_counts_many : K.lookup f_counts_many = some ⟨q1_counts_many, o_counts_many, .func (PySem.W.fnOf "counts_many" "counts_many" (defArgs s_counts_many) (defBody s_counts_many) (defScope s_counts_many) .none q2_counts_many q3_counts_many q4_counts_many n_counts_many q5_counts_many q6_counts_many), w_counts_many⟩)
    (c_counts_many : PySem.W.codeIn K q5_counts_many "counts_many" = true)
    (k_counts_many : PySem.W.keepIn K (.ref f_counts_many) = true)
    (a_counts_of : PySem.W.nsIn K mainGlobals "counts_of" = some (some (.ref f_counts_of)))
    (l_counts_of : K.lookup f_counts_of = some ⟨q1_counts_of, o_counts_of, .func (PySem.W.fnOf "counts_of" "counts_of" (defArgs s_counts_of) (defBody s_counts_of) (defScope s_counts_of) .none q2_counts_of q3_counts_of q4_counts_of n_counts_of q5_counts_of q6_counts_of), w_counts_of⟩)
    (c_counts_of : PySem.W.codeIn K q5_counts_of "counts_of" = true)
    (k_counts_of : PySem.W.keepIn K (.ref f_counts_of) = true)
    (a_divisor : PySem.W.nsIn K mainGlobals "divisor" = some (some (.ref f_divisor)))
    (l_divisor : K.lookup f_divisor = some ⟨q1_divisor, o_divisor, .func (PySem.W.fnOf "divisor" "divisor" (defArgs s_divisor) (defBody s_divisor) (defScope s_divisor) .none q2_divisor q3_divisor q4_divisor n_divisor q5_divisor q6_divisor), w_divisor⟩)
    (c_divisor : PySem.W.codeIn K q5_divisor "divisor" = true)
    (k_divisor : PySem.W.keepIn K (.ref f_divisor) = true)
    (a_ratio : PySem.W.nsIn K mainGlobals "ratio" = some (some (.ref f_ratio)))
    (l_ratio : K.lookup f_ratio = some ⟨q1_ratio, o_ratio, .func (PySem.W.fnOf "ratio" "ratio" (defArgs s_ratio) (defBody s_ratio) (defScope s_ratio) .none q2_ratio q3_ratio q4_ratio n_ratio q5_ratio q6_ratio), w_ratio⟩)
    (c_ratio : PySem.W.codeIn K q5_ratio "ratio" = true)
    (k_ratio : PySem.W.keepIn K (.ref f_ratio) = true)
    (a_minus : PySem.W.nsIn K mainGlobals "minus" = some (some (.ref f_minus)))
    (l_minus : K.lookup f_minus = some ⟨q1_minus, o_minus, .func (PySem.W.fnOf "minus" "minus" (defArgs s_minus) (defBody s_minus) (defScope s_minus) .none q2_minus q3_minus q4_minus n_minus q5_minus q6_minus), w_minus⟩)
    (c_minus : PySem.W.codeIn K q5_minus "minus" = true)
    (k_minus : PySem.W.keepIn K (.ref f_minus) = true)
    (a_divided_out : PySem.W.nsIn K mainGlobals "divided_out" = some (some (.ref f_divided_out)))
    (l_divided_out : K.lookup f_divided_out = some ⟨q1_divided_out, o_divided_out, .func (PySem.W.fnOf "divided_out" "divided_out" (defArgs s_divided_out) (defBody s_divided_out) (defScope s_divided_out) .none q2_divided_out q3_divided_out q4_divided_out n_divided_out q5_divided_out q6_divided_out), w_divided_out⟩)
    (c_divided_out : PySem.W.codeIn K q5_divided_out "divided_out" = true)
    (k_divided_out : PySem.W.keepIn K (.ref f_divided_out) = true)
    (a_begun : PySem.W.nsIn K mainGlobals "begun" = some (some (.ref f_begun)))
    (l_begun : K.lookup f_begun = some ⟨q1_begun, o_begun, .func (PySem.W.fnOf "begun" "begun" (defArgs s_begun) (defBody s_begun) (defScope s_begun) .none q2_begun q3_begun q4_begun n_begun q5_begun q6_begun), w_begun⟩)
    (c_begun : PySem.W.codeIn K q5_begun "begun" = true)
    (k_begun : PySem.W.keepIn K (.ref f_begun) = true)
    (a_entering : PySem.W.nsIn K mainGlobals "entering" = some (some (.ref f_entering)))
    (l_entering : K.lookup f_entering = some ⟨q1_entering, o_entering, .func (PySem.W.fnOf "entering" "entering" (defArgs s_entering) (defBody s_entering) (defScope s_entering) .none q2_entering q3_entering q4_entering n_entering q5_entering q6_entering), w_entering⟩)
    (c_entering : PySem.W.codeIn K q5_entering "entering" = true)
    (k_entering : PySem.W.keepIn K (.ref f_entering) = true)
    (a_leaving : PySem.W.nsIn K mainGlobals "leaving" = some (some (.ref f_leaving)))
    (l_leaving : K.lookup f_leaving = some ⟨q1_leaving, o_leaving, .func (PySem.W.fnOf "leaving" "leaving" (defArgs s_leaving) (defBody s_leaving) (defScope s_leaving) .none q2_leaving q3_leaving q4_leaving n_leaving q5_leaving q6_leaving), w_leaving⟩)
    (c_leaving : PySem.W.codeIn K q5_leaving "leaving" = true)
    (k_leaving : PySem.W.keepIn K (.ref f_leaving) = true)
    (a_turned : PySem.W.nsIn K mainGlobals "turned" = some (some (.ref f_turned)))
    (l_turned : K.lookup f_turned = some ⟨q1_turned, o_turned, .func (PySem.W.fnOf "turned" "turned" (defArgs s_turned) (defBody s_turned) (defScope s_turned) .none q2_turned q3_turned q4_turned n_turned q5_turned q6_turned), w_turned⟩)
    (c_turned : PySem.W.codeIn K q5_turned "turned" = true)
    (k_turned : PySem.W.keepIn K (.ref f_turned) = true)
    (a_solved : PySem.W.nsIn K mainGlobals "solved" = some (some (.ref f_solved)))
    (l_solved : K.lookup f_solved = some ⟨q1_solved, o_solved, .func (PySem.W.fnOf "solved" "solved" (defArgs s_solved) (defBody s_solved) (defScope s_solved) .none q2_solved q3_solved q4_solved n_solved q5_solved q6_solved), w_solved⟩)
    (c_solved : PySem.W.codeIn K q5_solved "solved" = true)
    (k_solved : PySem.W.keepIn K (.ref f_solved) = true)
    (a_is_alike : PySem.W.nsIn K mainGlobals "is_alike" = some (some (.ref f_is_alike)))
    (l_is_alike : K.lookup f_is_alike = some ⟨q1_is_alike, o_is_alike, .func (PySem.W.fnOf "is_alike" "is_alike" (defArgs s_is_alike) (defBody s_is_alike) (defScope s_is_alike) .none q2_is_alike q3_is_alike q4_is_alike n_is_alike q5_is_alike q6_is_alike), w_is_alike⟩)
    (c_is_alike : PySem.W.codeIn K q5_is_alike "is_alike" = true)
    (k_is_alike : PySem.W.keepIn K (.ref f_is_alike) = true)
    (a_must_be_alike : PySem.W.nsIn K mainGlobals "must_be_alike" = some (some (.ref f_must_be_alike)))
    (l_must_be_alike : K.lookup f_must_be_alike = some ⟨q1_must_be_alike, o_must_be_alike, .func (PySem.W.fnOf "must_be_alike" "must_be_alike" (defArgs s_must_be_alike) (defBody s_must_be_alike) (defScope s_must_be_alike) .none q2_must_be_alike q3_must_be_alike q4_must_be_alike n_must_be_alike q5_must_be_alike q6_must_be_alike), w_must_be_alike⟩)
    (c_must_be_alike : PySem.W.codeIn K q5_must_be_alike "must_be_alike" = true)
    (k_must_be_alike : PySem.W.keepIn K (.ref f_must_be_alike) = true)
    (a_met : PySem.W.nsIn K mainGlobals "met" = some (some (.ref f_met)))
    (l_met : K.lookup f_met = some ⟨q1_met, o_met, .func (PySem.W.fnOf "met" "met" (defArgs s_met) (defBody s_met) (defScope s_met) .none q2_met q3_met q4_met n_met q5_met q6_met), w_met⟩)
    (c_met : PySem.W.codeIn K q5_met "met" = true)
    (k_met : PySem.W.keepIn K (.ref f_met) = true)
    (a_ring_gain : PySem.W.nsIn K mainGlobals "ring_gain" = some (some (.ref f_ring_gain)))
    (l_ring_gain : K.lookup f_ring_gain = some ⟨q1_ring_gain, o_ring_gain, .func (PySem.W.fnOf "ring_gain" "ring_gain" (defArgs s_ring_gain) (defBody s_ring_gain) (defScope s_ring_gain) .none q2_ring_gain q3_ring_gain q4_ring_gain n_ring_gain q5_ring_gain q6_ring_gain), w_ring_gain⟩)
    (c_ring_gain : PySem.W.codeIn K q5_ring_gain "ring_gain" = true)
    (k_ring_gain : PySem.W.keepIn K (.ref f_ring_gain) = true)
    (a_all_counts : PySem.W.nsIn K mainGlobals "all_counts" = some (some (.ref f_all_counts)))
    (l_all_counts : K.lookup f_all_counts = some ⟨q1_all_counts, o_all_counts, .func (PySem.W.fnOf "all_counts" "all_counts" (defArgs s_all_counts) (defBody s_all_counts) (defScope s_all_counts) .none q2_all_counts q3_all_counts q4_all_counts n_all_counts q5_all_counts q6_all_counts), w_all_counts⟩)
    (c_all_counts : PySem.W.codeIn K q5_all_counts "all_counts" = true)
    (k_all_counts : PySem.W.keepIn K (.ref f_all_counts) = true)
    (a_table_by_counts : PySem.W.nsIn K mainGlobals "table_by_counts" = some (some (.ref f_table_by_counts)))
    (l_table_by_counts : K.lookup f_table_by_counts = some ⟨q1_table_by_counts, o_table_by_counts, .func (PySem.W.fnOf "table_by_counts" "table_by_counts" (defArgs s_table_by_counts) (defBody s_table_by_counts) (defScope s_table_by_counts) .none q2_table_by_counts q3_table_by_counts q4_table_by_counts n_table_by_counts q5_table_by_counts q6_table_by_counts), w_table_by_counts⟩)
    (c_table_by_counts : PySem.W.codeIn K q5_table_by_counts "table_by_counts" = true)
    (k_table_by_counts : PySem.W.keepIn K (.ref f_table_by_counts) = true)
    (a_counts_table : PySem.W.nsIn K mainGlobals "counts_table" = some (some (.ref f_counts_table)))
    (l_counts_table : K.lookup f_counts_table = some ⟨q1_counts_table, o_counts_table, .func (PySem.W.fnOf "counts_table" "counts_table" (defArgs s_counts_table) (defBody s_counts_table) (defScope s_counts_table) .none q2_counts_table q3_counts_table q4_counts_table n_counts_table q5_counts_table q6_counts_table), w_counts_table⟩)
    (c_counts_table : PySem.W.codeIn K q5_counts_table "counts_table" = true)
    (k_counts_table : PySem.W.keepIn K (.ref f_counts_table) = true)
    (a_with_weights : PySem.W.nsIn K mainGlobals "with_weights" = some (some (.ref f_with_weights)))
    (l_with_weights : K.lookup f_with_weights = some ⟨q1_with_weights, o_with_weights, .func (PySem.W.fnOf "with_weights" "with_weights" (defArgs s_with_weights) (defBody s_with_weights) (defScope s_with_weights) .none q2_with_weights q3_with_weights q4_with_weights n_with_weights q5_with_weights q6_with_weights), w_with_weights⟩)
    (c_with_weights : PySem.W.codeIn K q5_with_weights "with_weights" = true)
    (k_with_weights : PySem.W.keepIn K (.ref f_with_weights) = true)
    (a_counts_worth : PySem.W.nsIn K mainGlobals "counts_worth" = some (some (.ref f_counts_worth)))
    (l_counts_worth : K.lookup f_counts_worth = some ⟨q1_counts_worth, o_counts_worth, .func (PySem.W.fnOf "counts_worth" "counts_worth" (defArgs s_counts_worth) (defBody s_counts_worth) (defScope s_counts_worth) .none q2_counts_worth q3_counts_worth q4_counts_worth n_counts_worth q5_counts_worth q6_counts_worth), w_counts_worth⟩)
    (c_counts_worth : PySem.W.codeIn K q5_counts_worth "counts_worth" = true)
    (k_counts_worth : PySem.W.keepIn K (.ref f_counts_worth) = true)
    (a_l_purse : PySem.W.nsIn K mainGlobals "_law_purse" = some (some (.ref f_l_purse)))
    (l_l_purse : K.lookup f_l_purse = some ⟨q1_l_purse, o_l_purse, .func (PySem.W.fnOf "_law_purse" "_law_purse" (defArgs s_l_purse) (defBody s_l_purse) (defScope s_l_purse) .none q2_l_purse q3_l_purse q4_l_purse n_l_purse q5_l_purse q6_l_purse), w_l_purse⟩)
    (c_l_purse : PySem.W.codeIn K q5_l_purse "_law_purse" = true)
    (k_l_purse : PySem.W.keepIn K (.ref f_l_purse) = true)
    (a_l_draw : PySem.W.nsIn K mainGlobals "_law_draw" = some (some (.ref f_l_draw)))
    (l_l_draw : K.lookup f_l_draw = some ⟨q1_l_draw, o_l_draw, .func (PySem.W.fnOf "_law_draw" "_law_draw" (defArgs s_l_draw) (defBody s_l_draw) (defScope s_l_draw) .none q2_l_draw q3_l_draw q4_l_draw n_l_draw q5_l_draw q6_l_draw), w_l_draw⟩)
    (c_l_draw : PySem.W.codeIn K q5_l_draw "_law_draw" = true)
    (k_l_draw : PySem.W.keepIn K (.ref f_l_draw) = true)
    (a_l_field : PySem.W.nsIn K mainGlobals "_law_field" = some (some (.ref f_l_field)))
    (l_l_field : K.lookup f_l_field = some ⟨q1_l_field, o_l_field, .func (PySem.W.fnOf "_law_field" "_law_field" (defArgs s_l_field) (defBody s_l_field) (defScope s_l_field) .none q2_l_field q3_l_field q4_l_field n_l_field q5_l_field q6_l_field), w_l_field⟩)
    (c_l_field : PySem.W.codeIn K q5_l_field "_law_field" = true)
    (k_l_field : PySem.W.keepIn K (.ref f_l_field) = true)
    (a_l_copy : PySem.W.nsIn K mainGlobals "_law_copy" = some (some (.ref f_l_copy)))
    (l_l_copy : K.lookup f_l_copy = some ⟨q1_l_copy, o_l_copy, .func (PySem.W.fnOf "_law_copy" "_law_copy" (defArgs s_l_copy) (defBody s_l_copy) (defScope s_l_copy) .none q2_l_copy q3_l_copy q4_l_copy n_l_copy q5_l_copy q6_l_copy), w_l_copy⟩)
    (c_l_copy : PySem.W.codeIn K q5_l_copy "_law_copy" = true)
    (k_l_copy : PySem.W.keepIn K (.ref f_l_copy) = true)
    (a_l_changed : PySem.W.nsIn K mainGlobals "_law_changed" = some (some (.ref f_l_changed)))
    (l_l_changed : K.lookup f_l_changed = some ⟨q1_l_changed, o_l_changed, .func (PySem.W.fnOf "_law_changed" "_law_changed" (defArgs s_l_changed) (defBody s_l_changed) (defScope s_l_changed) .none q2_l_changed q3_l_changed q4_l_changed n_l_changed q5_l_changed q6_l_changed), w_l_changed⟩)
    (c_l_changed : PySem.W.codeIn K q5_l_changed "_law_changed" = true)
    (k_l_changed : PySem.W.keepIn K (.ref f_l_changed) = true)
    (a_l_no_field : PySem.W.nsIn K mainGlobals "_law_no_field" = some (some (.ref f_l_no_field)))
    (l_l_no_field : K.lookup f_l_no_field = some ⟨q1_l_no_field, o_l_no_field, .func (PySem.W.fnOf "_law_no_field" "_law_no_field" (defArgs s_l_no_field) (defBody s_l_no_field) (defScope s_l_no_field) .none q2_l_no_field q3_l_no_field q4_l_no_field n_l_no_field q5_l_no_field q6_l_no_field), w_l_no_field⟩)
    (c_l_no_field : PySem.W.codeIn K q5_l_no_field "_law_no_field" = true)
    (k_l_no_field : PySem.W.keepIn K (.ref f_l_no_field) = true)
    (a_l_no_battle : PySem.W.nsIn K mainGlobals "_law_no_battle" = some (some (.ref f_l_no_battle)))
    (l_l_no_battle : K.lookup f_l_no_battle = some ⟨q1_l_no_battle, o_l_no_battle, .func (PySem.W.fnOf "_law_no_battle" "_law_no_battle" (defArgs s_l_no_battle) (defBody s_l_no_battle) (defScope s_l_no_battle) .none q2_l_no_battle q3_l_no_battle q4_l_no_battle n_l_no_battle q5_l_no_battle q6_l_no_battle), w_l_no_battle⟩)
    (c_l_no_battle : PySem.W.codeIn K q5_l_no_battle "_law_no_battle" = true)
    (k_l_no_battle : PySem.W.keepIn K (.ref f_l_no_battle) = true)
    (a_l_marks : PySem.W.nsIn K mainGlobals "_law_marks" = some (some (.ref f_l_marks)))
    (l_l_marks : K.lookup f_l_marks = some ⟨q1_l_marks, o_l_marks, .func (PySem.W.fnOf "_law_marks" "_law_marks" (defArgs s_l_marks) (defBody s_l_marks) (defScope s_l_marks) .none q2_l_marks q3_l_marks q4_l_marks n_l_marks q5_l_marks q6_l_marks), w_l_marks⟩)
    (c_l_marks : PySem.W.codeIn K q5_l_marks "_law_marks" = true)
    (k_l_marks : PySem.W.keepIn K (.ref f_l_marks) = true)
    (a_l_caught : PySem.W.nsIn K mainGlobals "_law_caught" = some (some (.ref f_l_caught)))
    (l_l_caught : K.lookup f_l_caught = some ⟨q1_l_caught, o_l_caught, .func (PySem.W.fnOf "_law_caught" "_law_caught" (defArgs s_l_caught) (defBody s_l_caught) (defScope s_l_caught) .none q2_l_caught q3_l_caught q4_l_caught n_l_caught q5_l_caught q6_l_caught), w_l_caught⟩)
    (c_l_caught : PySem.W.codeIn K q5_l_caught "_law_caught" = true)
    (k_l_caught : PySem.W.keepIn K (.ref f_l_caught) = true)
    (a_l_said : PySem.W.nsIn K mainGlobals "_law_said" = some (some (.ref f_l_said)))
    (l_l_said : K.lookup f_l_said = some ⟨q1_l_said, o_l_said, .func (PySem.W.fnOf "_law_said" "_law_said" (defArgs s_l_said) (defBody s_l_said) (defScope s_l_said) .none q2_l_said q3_l_said q4_l_said n_l_said q5_l_said q6_l_said), w_l_said⟩)
    (c_l_said : PySem.W.codeIn K q5_l_said "_law_said" = true)
    (k_l_said : PySem.W.keepIn K (.ref f_l_said) = true)
    (a_law : PySem.W.nsIn K mainGlobals "law" = some (some (.ref f_law)))
    (l_law : K.lookup f_law = some ⟨q1_law, o_law, .func (PySem.W.fnOf "law" "law" (defArgs s_law) (defBody s_law) (defScope s_law) .none q2_law q3_law q4_law n_law q5_law q6_law), w_law⟩)
    (c_law : PySem.W.codeIn K q5_law "law" = true)
    (k_law : PySem.W.keepIn K (.ref f_law) = true)
    (z_ValueError : PySem.W.nsIn K mainGlobals "ValueError" = some none)
    (z_abs : PySem.W.nsIn K mainGlobals "abs" = some none)
    (z_bool : PySem.W.nsIn K mainGlobals "bool" = some none)
    (z_int : PySem.W.nsIn K mainGlobals "int" = some none)
    (z_isinstance : PySem.W.nsIn K mainGlobals "isinstance" = some none)
    (z_len : PySem.W.nsIn K mainGlobals "len" = some none)
    (z_list : PySem.W.nsIn K mainGlobals "list" = some none)
    (z_max : PySem.W.nsIn K mainGlobals "max" = some none)
    (z_min : PySem.W.nsIn K mainGlobals "min" = some none)
    (z_range : PySem.W.nsIn K mainGlobals "range" = some none)
    (z_str : PySem.W.nsIn K mainGlobals "str" = some none)
    (z_sum : PySem.W.nsIn K mainGlobals "sum" = some none)
    (z_zip : PySem.W.nsIn K mainGlobals "zip" = some none)
    (pg_Fallings : PySem.W.plainGet K e_Fallings Str.empty = true)
    (ph_Fallings : PySem.W.hasDictIn K e_Fallings = true)
    (po_Fallings : PySem.W.plainOver K e_Fallings = true)
    (ps_Fallings : PySem.W.findIn K (.ref e_Fallings) "__setattr__" = some (some (.builtin "object.__setattr__")))
    (pm_Fallings : PySem.W.makesIn K e_Fallings = true)
    (pk_Fallings : PySem.W.keepIn K (.ref e_Fallings) = true)
    (pn_Fallings_init : PySem.W.isFn K (.ref f_Fallings_init) = true)
    (pp_Fallings_init : PySem.W.keepIn K (.ref f_Fallings_init) = true)
    (pn_Fallings_many : PySem.W.isFn K (.ref f_Fallings_many) = true)
    (pp_Fallings_many : PySem.W.keepIn K (.ref f_Fallings_many) = true)
    (pa_Fallings_known : PySem.W.findIn K (.ref e_Fallings) "known" = some none)
    (h_MOST_HOSTS_fields : PySem.W.nsIn K mainGlobals "MOST_HOSTS_fields" = some (some (.int 10 t_MOST_HOSTS_fields)))
    (h_MOST_FIELDS_fields : PySem.W.nsIn K mainGlobals "MOST_FIELDS_fields" = some (some (.int 5 t_MOST_FIELDS_fields)))
    (h_MOST_HOSTS_plans : PySem.W.nsIn K mainGlobals "MOST_HOSTS_plans" = some (some (.int 40 t_MOST_HOSTS_plans)))
    (h_MOST_FIELDS_plans : PySem.W.nsIn K mainGlobals "MOST_FIELDS_plans" = some (some (.int 8 t_MOST_FIELDS_plans)))
    (i_HostError : PySem.W.isClsIn K e_HostError = true)
    (t_HostError : PySem.W.typeIn K (.ref e_HostError) = some (.type "type"))
    (y_HostError : PySem.W.subIn K (.ref e_HostError) (.type "BaseException") = some true)
    (i_NoBattle : PySem.W.isClsIn K e_NoBattle = true)
    (t_NoBattle : PySem.W.typeIn K (.ref e_NoBattle) = some (.type "type"))
    (y_NoBattle : PySem.W.subIn K (.ref e_NoBattle) (.type "BaseException") = some true)
    (i_NoPlan : PySem.W.isClsIn K e_NoPlan = true)
    (t_NoPlan : PySem.W.typeIn K (.ref e_NoPlan) = some (.type "type"))
    (y_NoPlan : PySem.W.subIn K (.ref e_NoPlan) (.type "BaseException") = some true)
    (i_NoMix : PySem.W.isClsIn K e_NoMix = true)
    (t_NoMix : PySem.W.typeIn K (.ref e_NoMix) = some (.type "type"))
    (y_NoMix : PySem.W.subIn K (.ref e_NoMix) (.type "BaseException") = some true)
    (i_NoStream : PySem.W.isClsIn K e_NoStream = true)
    (t_NoStream : PySem.W.typeIn K (.ref e_NoStream) = some (.type "type"))
    (y_NoStream : PySem.W.subIn K (.ref e_NoStream) (.type "BaseException") = some true)
    (i_NoSide : PySem.W.isClsIn K e_NoSide = true)
    (t_NoSide : PySem.W.typeIn K (.ref e_NoSide) = some (.type "type"))
    (y_NoSide : PySem.W.subIn K (.ref e_NoSide) (.type "BaseException") = some true)
    (i_NoAlike : PySem.W.isClsIn K e_NoAlike = true)
    (t_NoAlike : PySem.W.typeIn K (.ref e_NoAlike) = some (.type "type"))
    (y_NoAlike : PySem.W.subIn K (.ref e_NoAlike) (.type "BaseException") = some true)
    (i_NoNumber : PySem.W.isClsIn K e_NoNumber = true)
    (t_NoNumber : PySem.W.typeIn K (.ref e_NoNumber) = some (.type "type"))
    (y_NoNumber : PySem.W.subIn K (.ref e_NoNumber) (.type "BaseException") = some true)
    (i_TooGreat : PySem.W.isClsIn K e_TooGreat = true)
    (t_TooGreat : PySem.W.typeIn K (.ref e_TooGreat) = some (.type "type"))
    (y_TooGreat : PySem.W.subIn K (.ref e_TooGreat) (.type "BaseException") = some true)
    (i_NoEven : PySem.W.isClsIn K e_NoEven = true)
    (t_NoEven : PySem.W.typeIn K (.ref e_NoEven) = some (.type "type"))
    (y_NoEven : PySem.W.subIn K (.ref e_NoEven) (.type "BaseException") = some true)
    (i_NoText : PySem.W.isClsIn K e_NoText = true)
    (t_NoText : PySem.W.typeIn K (.ref e_NoText) = some (.type "type"))
    (y_NoText : PySem.W.subIn K (.ref e_NoText) (.type "BaseException") = some true)
    (i_NoRow : PySem.W.isClsIn K e_NoRow = true)
    (t_NoRow : PySem.W.typeIn K (.ref e_NoRow) = some (.type "type"))
    (y_NoRow : PySem.W.subIn K (.ref e_NoRow) (.type "BaseException") = some true)
    (i_NoName : PySem.W.isClsIn K e_NoName = true)
    (t_NoName : PySem.W.typeIn K (.ref e_NoName) = some (.type "type"))
    (y_NoName : PySem.W.subIn K (.ref e_NoName) (.type "BaseException") = some true)
    (i_NoPlace : PySem.W.isClsIn K e_NoPlace = true)
    (t_NoPlace : PySem.W.typeIn K (.ref e_NoPlace) = some (.type "type"))
    (y_NoPlace : PySem.W.subIn K (.ref e_NoPlace) (.type "BaseException") = some true)
    (x_NoPlan : PySem.W.excIn K e_NoPlan [.type "ValueError", .type "Exception", .type "BaseException", .type "object"] "ValueError.__new__" = true)
    (k_NoPlan : PySem.W.keepIn K (.ref e_NoPlan) = true)
    (hg_NoPlan : PySem.W.findIn K (.ref e_NoPlan) "__getattribute__" = some (some (.builtin "BaseException.__getattribute__")))
    (hk_NoPlan : PySem.W.findIn K (.ref e_NoPlan) "__getattr__" = some none)
    (hd_NoPlan : PySem.W.hasDictIn K e_NoPlan = true)
    (ha_NoPlan : PySem.W.findIn K (.ref e_NoPlan) "__class__" = some (some (.builtin "object.__class__")))
    (hm_NoPlan : PySem.W.mroIn K e_NoPlan (.type "object") = some true)
    (v_NoPlan : PySem.W.subIn K (.ref e_NoPlan) (.type "ValueError") = some true)
    (s_NoPlan_HostError : PySem.W.subIn K (.ref e_NoPlan) (.ref e_HostError) = some true)
    (s_NoPlan_NoBattle : PySem.W.subIn K (.ref e_NoPlan) (.ref e_NoBattle) = some false)
    (s_NoPlan_NoPlan : PySem.W.subIn K (.ref e_NoPlan) (.ref e_NoPlan) = some true)
    (s_NoPlan_NoMix : PySem.W.subIn K (.ref e_NoPlan) (.ref e_NoMix) = some false)
    (s_NoPlan_NoStream : PySem.W.subIn K (.ref e_NoPlan) (.ref e_NoStream) = some false)
    (s_NoPlan_NoSide : PySem.W.subIn K (.ref e_NoPlan) (.ref e_NoSide) = some false)
    (s_NoPlan_NoAlike : PySem.W.subIn K (.ref e_NoPlan) (.ref e_NoAlike) = some false)
    (s_NoPlan_NoNumber : PySem.W.subIn K (.ref e_NoPlan) (.ref e_NoNumber) = some false)
    (s_NoPlan_TooGreat : PySem.W.subIn K (.ref e_NoPlan) (.ref e_TooGreat) = some false)
    (s_NoPlan_NoEven : PySem.W.subIn K (.ref e_NoPlan) (.ref e_NoEven) = some false)
    (s_NoPlan_NoText : PySem.W.subIn K (.ref e_NoPlan) (.ref e_NoText) = some false)
    (s_NoPlan_NoRow : PySem.W.subIn K (.ref e_NoPlan) (.ref e_NoRow) = some false)
    (s_NoPlan_NoName : PySem.W.subIn K (.ref e_NoPlan) (.ref e_NoName) = some false)
    (s_NoPlan_NoPlace : PySem.W.subIn K (.ref e_NoPlan) (.ref e_NoPlace) = some false)
    (x_NoAlike : PySem.W.excIn K e_NoAlike [.type "ValueError", .type "Exception", .type "BaseException", .type "object"] "ValueError.__new__" = true)
    (k_NoAlike : PySem.W.keepIn K (.ref e_NoAlike) = true)
    (hg_NoAlike : PySem.W.findIn K (.ref e_NoAlike) "__getattribute__" = some (some (.builtin "BaseException.__getattribute__")))
    (hk_NoAlike : PySem.W.findIn K (.ref e_NoAlike) "__getattr__" = some none)
    (hd_NoAlike : PySem.W.hasDictIn K e_NoAlike = true)
    (ha_NoAlike : PySem.W.findIn K (.ref e_NoAlike) "__class__" = some (some (.builtin "object.__class__")))
    (hm_NoAlike : PySem.W.mroIn K e_NoAlike (.type "object") = some true)
    (v_NoAlike : PySem.W.subIn K (.ref e_NoAlike) (.type "ValueError") = some true)
    (s_NoAlike_HostError : PySem.W.subIn K (.ref e_NoAlike) (.ref e_HostError) = some true)
    (s_NoAlike_NoBattle : PySem.W.subIn K (.ref e_NoAlike) (.ref e_NoBattle) = some false)
    (s_NoAlike_NoPlan : PySem.W.subIn K (.ref e_NoAlike) (.ref e_NoPlan) = some false)
    (s_NoAlike_NoMix : PySem.W.subIn K (.ref e_NoAlike) (.ref e_NoMix) = some false)
    (s_NoAlike_NoStream : PySem.W.subIn K (.ref e_NoAlike) (.ref e_NoStream) = some false)
    (s_NoAlike_NoSide : PySem.W.subIn K (.ref e_NoAlike) (.ref e_NoSide) = some false)
    (s_NoAlike_NoAlike : PySem.W.subIn K (.ref e_NoAlike) (.ref e_NoAlike) = some true)
    (s_NoAlike_NoNumber : PySem.W.subIn K (.ref e_NoAlike) (.ref e_NoNumber) = some false)
    (s_NoAlike_TooGreat : PySem.W.subIn K (.ref e_NoAlike) (.ref e_TooGreat) = some false)
    (s_NoAlike_NoEven : PySem.W.subIn K (.ref e_NoAlike) (.ref e_NoEven) = some false)
    (s_NoAlike_NoText : PySem.W.subIn K (.ref e_NoAlike) (.ref e_NoText) = some false)
    (s_NoAlike_NoRow : PySem.W.subIn K (.ref e_NoAlike) (.ref e_NoRow) = some false)
    (s_NoAlike_NoName : PySem.W.subIn K (.ref e_NoAlike) (.ref e_NoName) = some false)
    (s_NoAlike_NoPlace : PySem.W.subIn K (.ref e_NoAlike) (.ref e_NoPlace) = some false)
    (oc_NoBattle : K.lookup e_NoBattle = some (excClassObj xn_NoBattle xq_NoBattle e_NoBattle xN_NoBattle xb_NoBattle (.ref e_HostError :: [.type "ValueError", .type "Exception", .type "BaseException", .type "object"]) true xs_NoBattle xu_NoBattle xa_NoBattle xc_NoBattle xd_NoBattle x0_NoBattle x1_NoBattle x2_NoBattle x3_NoBattle x5_NoBattle "ValueError.__new__"))
    (sa_NoBattle : PySem.W.findIn K (.ref e_NoBattle) "__setattr__" = some (some (.builtin "object.__setattr__")))
    (ti_NoBattle : PySem.W.typeIn K (.ref f_NoBattle_init) = some (.type "function"))
    (no_NoBattle_field : PySem.W.findIn K (.ref e_NoBattle) "field" = some none)
    (rd_HostError : PySem.W.readsIn K e_HostError (.type "type") = true)
    (ga_HostError : PySem.W.specialIn K (.ref e_HostError) "__getattribute__" = some (some (.builtin "type.__getattribute__")))
    (fc_HostError : PySem.W.findCls K (.ref e_HostError) (.type "type") "__init__" = some (.val (.builtin "ValueError.__init__")))
    (k_NoBattle : PySem.W.keepIn K (.ref e_NoBattle) = true)
    (hg_NoBattle : PySem.W.findIn K (.ref e_NoBattle) "__getattribute__" = some (some (.builtin "BaseException.__getattribute__")))
    (hk_NoBattle : PySem.W.findIn K (.ref e_NoBattle) "__getattr__" = some none)
    (hd_NoBattle : PySem.W.hasDictIn K e_NoBattle = true)
    (ha_NoBattle : PySem.W.findIn K (.ref e_NoBattle) "__class__" = some (some (.builtin "object.__class__")))
    (hm_NoBattle : PySem.W.mroIn K e_NoBattle (.type "object") = some true)
    (v_NoBattle : PySem.W.subIn K (.ref e_NoBattle) (.type "ValueError") = some true)
    (s_NoBattle_HostError : PySem.W.subIn K (.ref e_NoBattle) (.ref e_HostError) = some true)
    (s_NoBattle_NoBattle : PySem.W.subIn K (.ref e_NoBattle) (.ref e_NoBattle) = some true)
    (s_NoBattle_NoPlan : PySem.W.subIn K (.ref e_NoBattle) (.ref e_NoPlan) = some false)
    (s_NoBattle_NoMix : PySem.W.subIn K (.ref e_NoBattle) (.ref e_NoMix) = some false)
    (s_NoBattle_NoStream : PySem.W.subIn K (.ref e_NoBattle) (.ref e_NoStream) = some false)
    (s_NoBattle_NoSide : PySem.W.subIn K (.ref e_NoBattle) (.ref e_NoSide) = some false)
    (s_NoBattle_NoAlike : PySem.W.subIn K (.ref e_NoBattle) (.ref e_NoAlike) = some false)
    (s_NoBattle_NoNumber : PySem.W.subIn K (.ref e_NoBattle) (.ref e_NoNumber) = some false)
    (s_NoBattle_TooGreat : PySem.W.subIn K (.ref e_NoBattle) (.ref e_TooGreat) = some false)
    (s_NoBattle_NoEven : PySem.W.subIn K (.ref e_NoBattle) (.ref e_NoEven) = some false)
    (s_NoBattle_NoText : PySem.W.subIn K (.ref e_NoBattle) (.ref e_NoText) = some false)
    (s_NoBattle_NoRow : PySem.W.subIn K (.ref e_NoBattle) (.ref e_NoRow) = some false)
    (s_NoBattle_NoName : PySem.W.subIn K (.ref e_NoBattle) (.ref e_NoName) = some false)
    (s_NoBattle_NoPlace : PySem.W.subIn K (.ref e_NoBattle) (.ref e_NoPlace) = some false)
    (ho_n : PySem.W.specialIn K (.builtin "object.__class__") "__get__" = some (some (.builtin "getset_descriptor.__get__")))
    (ho_t : PySem.W.takesIn K (.builtin "object.__class__") = some true) : ∃ fd : FuncData, (∀ (s : Shared) (v : Value), BindsTo s fd ⟨[v], []⟩ [("_law_script", v)]) ∧ ∀ base : Heap, K.In base → base.Ns mainGlobals mg → FnA P w K mg base 16 fa fd ["_law_script"] (sp_law K) := by
  obtain ⟨T, e1, e2⟩ := mk_txt X G h_Fallings h_HostError h_NoBattle h_NoPlan h_NoMix h_NoStream h_NoSide h_NoAlike h_NoNumber h_TooGreat h_NoEven h_NoText h_NoRow h_NoName h_NoPlace pf_Fallings_init pf_Fallings_many ic_NoBattle l_NoBattle_init c_NoBattle_init k_NoBattle_init a_is_number l_is_number c_is_number k_is_number a_are_numbers l_are_numbers c_are_numbers k_are_numbers a_is_rule l_is_rule c_is_rule k_is_rule a_is_field l_is_field c_is_field k_is_field a_look_battle l_look_battle c_look_battle k_look_battle a_paid l_paid c_paid k_paid a_is_plan l_is_plan c_is_plan k_is_plan a_must_be_sizes l_must_be_sizes c_must_be_sizes k_must_be_sizes l_Fallings_init c_Fallings_init k_Fallings_init l_Fallings_many c_Fallings_many k_Fallings_many a_counts_many l_counts_many c_counts_many k_counts_many a_counts_of l_counts_of c_counts_of k_counts_of a_divisor l_divisor c_divisor k_divisor a_ratio l_ratio c_ratio k_ratio a_minus l_minus c_minus k_minus a_divided_out l_divided_out c_divided_out k_divided_out a_begun l_begun c_begun k_begun a_entering l_entering c_entering k_entering a_leaving l_leaving c_leaving k_leaving a_turned l_turned c_turned k_turned a_solved l_solved c_solved k_solved a_is_alike l_is_alike c_is_alike k_is_alike a_must_be_alike l_must_be_alike c_must_be_alike k_must_be_alike a_met l_met c_met k_met a_ring_gain l_ring_gain c_ring_gain k_ring_gain a_all_counts l_all_counts c_all_counts k_all_counts a_table_by_counts l_table_by_counts c_table_by_counts k_table_by_counts a_counts_table l_counts_table c_counts_table k_counts_table a_with_weights l_with_weights c_with_weights k_with_weights a_counts_worth l_counts_worth c_counts_worth k_counts_worth a_l_purse l_l_purse c_l_purse k_l_purse a_l_draw l_l_draw c_l_draw k_l_draw a_l_field l_l_field c_l_field k_l_field a_l_copy l_l_copy c_l_copy k_l_copy a_l_changed l_l_changed c_l_changed k_l_changed a_l_no_field l_l_no_field c_l_no_field k_l_no_field a_l_no_battle l_l_no_battle c_l_no_battle k_l_no_battle a_l_marks l_l_marks c_l_marks k_l_marks a_l_caught l_l_caught c_l_caught k_l_caught a_l_said l_l_said c_l_said k_l_said a_law l_law c_law k_law z_ValueError z_abs z_bool z_int z_isinstance z_len z_list z_max z_min z_range z_str z_sum z_zip pg_Fallings ph_Fallings po_Fallings ps_Fallings pm_Fallings pk_Fallings pn_Fallings_init pp_Fallings_init pn_Fallings_many pp_Fallings_many pa_Fallings_known h_MOST_HOSTS_fields h_MOST_FIELDS_fields h_MOST_HOSTS_plans h_MOST_FIELDS_plans i_HostError t_HostError y_HostError i_NoBattle t_NoBattle y_NoBattle i_NoPlan t_NoPlan y_NoPlan i_NoMix t_NoMix y_NoMix i_NoStream t_NoStream y_NoStream i_NoSide t_NoSide y_NoSide i_NoAlike t_NoAlike y_NoAlike i_NoNumber t_NoNumber y_NoNumber i_TooGreat t_TooGreat y_TooGreat i_NoEven t_NoEven y_NoEven i_NoText t_NoText y_NoText i_NoRow t_NoRow y_NoRow i_NoName t_NoName y_NoName i_NoPlace t_NoPlace y_NoPlace x_NoPlan k_NoPlan hg_NoPlan hk_NoPlan hd_NoPlan ha_NoPlan hm_NoPlan v_NoPlan s_NoPlan_HostError s_NoPlan_NoBattle s_NoPlan_NoPlan s_NoPlan_NoMix s_NoPlan_NoStream s_NoPlan_NoSide s_NoPlan_NoAlike s_NoPlan_NoNumber s_NoPlan_TooGreat s_NoPlan_NoEven s_NoPlan_NoText s_NoPlan_NoRow s_NoPlan_NoName s_NoPlan_NoPlace x_NoAlike k_NoAlike hg_NoAlike hk_NoAlike hd_NoAlike ha_NoAlike hm_NoAlike v_NoAlike s_NoAlike_HostError s_NoAlike_NoBattle s_NoAlike_NoPlan s_NoAlike_NoMix s_NoAlike_NoStream s_NoAlike_NoSide s_NoAlike_NoAlike s_NoAlike_NoNumber s_NoAlike_TooGreat s_NoAlike_NoEven s_NoAlike_NoText s_NoAlike_NoRow s_NoAlike_NoName s_NoAlike_NoPlace oc_NoBattle sa_NoBattle ti_NoBattle no_NoBattle_field rd_HostError ga_HostError fc_HostError k_NoBattle hg_NoBattle hk_NoBattle hd_NoBattle ha_NoBattle hm_NoBattle v_NoBattle s_NoBattle_HostError s_NoBattle_NoBattle s_NoBattle_NoPlan s_NoBattle_NoMix s_NoBattle_NoStream s_NoBattle_NoSide s_NoBattle_NoAlike s_NoBattle_NoNumber s_NoBattle_TooGreat s_NoBattle_NoEven s_NoBattle_NoText s_NoBattle_NoRow s_NoBattle_NoName s_NoBattle_NoPlace ho_n ho_t
  have e := hfa.symm.trans (PySem.W.mg_of X G a_law)
  cases e
  exact ⟨T.d_law, e2, fun base _ _ => e1 ▸ ok_law T⟩
end K40
open PySem PySem.W PyProof.Rows
set_option maxHeartbeats 0 in
theorem PySem.Challenge.cw_hostfields_k40_alike_battles_told_holds : PySem.Challenge.rw_hostfields_k40_alike_battles_told.Holds := by
  w_on; o_law; k_head; (case hw => w_witness2)
  k_fill
  refine Hf.walk_ofA (l := PySem.Challenge.rw_hostfields_k40_alike_battles_told) (n := 63) (k := 16) (y := "_law_script") (sp := fun w => K40.sp_law _) rfl (by decide) rfl ⟨rfl, by decide, by decide⟩ (fun w h Y => PySem.W.kIn_of Y) ?F (fun _ _ a ns hl _ hS => ⟨a, ns, rfl, hS, hl, fun _ => rfl⟩)
  case F =>
    intro w mg fa h KX G hmg
    refine' K40.all_mk KX G hmg ?h_Fallings ?h_HostError ?h_NoBattle ?h_NoPlan ?h_NoMix ?h_NoStream ?h_NoSide ?h_NoAlike ?h_NoNumber ?h_TooGreat ?h_NoEven ?h_NoText ?h_NoRow ?h_NoName ?h_NoPlace ?pf_Fallings_init ?pf_Fallings_many ?ic_NoBattle ?l_NoBattle_init ?c_NoBattle_init ?k_NoBattle_init ?a_is_number ?l_is_number ?c_is_number ?k_is_number ?a_are_numbers ?l_are_numbers ?c_are_numbers ?k_are_numbers ?a_is_rule ?l_is_rule ?c_is_rule ?k_is_rule ?a_is_field ?l_is_field ?c_is_field ?k_is_field ?a_look_battle ?l_look_battle ?c_look_battle ?k_look_battle ?a_paid ?l_paid ?c_paid ?k_paid ?a_is_plan ?l_is_plan ?c_is_plan ?k_is_plan ?a_must_be_sizes ?l_must_be_sizes ?c_must_be_sizes ?k_must_be_sizes ?l_Fallings_init ?c_Fallings_init ?k_Fallings_init ?l_Fallings_many ?c_Fallings_many ?k_Fallings_many ?a_counts_many ?l_counts_many ?c_counts_many ?k_counts_many ?a_counts_of ?l_counts_of ?c_counts_of ?k_counts_of ?a_divisor ?l_divisor ?c_divisor ?k_divisor ?a_ratio ?l_ratio ?c_ratio ?k_ratio ?a_minus ?l_minus ?c_minus ?k_minus ?a_divided_out ?l_divided_out ?c_divided_out ?k_divided_out ?a_begun ?l_begun ?c_begun ?k_begun ?a_entering ?l_entering ?c_entering ?k_entering ?a_leaving ?l_leaving ?c_leaving ?k_leaving ?a_turned ?l_turned ?c_turned ?k_turned ?a_solved ?l_solved ?c_solved ?k_solved ?a_is_alike ?l_is_alike ?c_is_alike ?k_is_alike ?a_must_be_alike ?l_must_be_alike ?c_must_be_alike ?k_must_be_alike ?a_met ?l_met ?c_met ?k_met ?a_ring_gain ?l_ring_gain ?c_ring_gain ?k_ring_gain ?a_all_counts ?l_all_counts ?c_all_counts ?k_all_counts ?a_table_by_counts ?l_table_by_counts ?c_table_by_counts ?k_table_by_counts ?a_counts_table ?l_counts_table ?c_counts_table ?k_counts_table ?a_with_weights ?l_with_weights ?c_with_weights ?k_with_weights ?a_counts_worth ?l_counts_worth ?c_counts_worth ?k_counts_worth ?a_l_purse ?l_l_purse ?c_l_purse ?k_l_purse ?a_l_draw ?l_l_draw ?c_l_draw ?k_l_draw ?a_l_field ?l_l_field ?c_l_field ?k_l_field ?a_l_copy ?l_l_copy ?c_l_copy ?k_l_copy ?a_l_changed ?l_l_changed ?c_l_changed ?k_l_changed ?a_l_no_field ?l_l_no_field ?c_l_no_field ?k_l_no_field ?a_l_no_battle ?l_l_no_battle ?c_l_no_battle ?k_l_no_battle ?a_l_marks ?l_l_marks ?c_l_marks ?k_l_marks ?a_l_caught ?l_l_caught ?c_l_caught ?k_l_caught ?a_l_said ?l_l_said ?c_l_said ?k_l_said ?a_law ?l_law ?c_law ?k_law ?z_ValueError ?z_abs ?z_bool ?z_int ?z_isinstance ?z_len ?z_list ?z_max ?z_min ?z_range ?z_str ?z_sum ?z_zip ?pg_Fallings ?ph_Fallings ?po_Fallings ?ps_Fallings ?pm_Fallings ?pk_Fallings ?pn_Fallings_init ?pp_Fallings_init ?pn_Fallings_many ?pp_Fallings_many ?pa_Fallings_known ?h_MOST_HOSTS_fields ?h_MOST_FIELDS_fields ?h_MOST_HOSTS_plans ?h_MOST_FIELDS_plans ?i_HostError ?t_HostError ?y_HostError ?i_NoBattle ?t_NoBattle ?y_NoBattle ?i_NoPlan ?t_NoPlan ?y_NoPlan ?i_NoMix ?t_NoMix ?y_NoMix ?i_NoStream ?t_NoStream ?y_NoStream ?i_NoSide ?t_NoSide ?y_NoSide ?i_NoAlike ?t_NoAlike ?y_NoAlike ?i_NoNumber ?t_NoNumber ?y_NoNumber ?i_TooGreat ?t_TooGreat ?y_TooGreat ?i_NoEven ?t_NoEven ?y_NoEven ?i_NoText ?t_NoText ?y_NoText ?i_NoRow ?t_NoRow ?y_NoRow ?i_NoName ?t_NoName ?y_NoName ?i_NoPlace ?t_NoPlace ?y_NoPlace ?x_NoPlan ?k_NoPlan ?hg_NoPlan ?hk_NoPlan ?hd_NoPlan ?ha_NoPlan ?hm_NoPlan ?v_NoPlan ?s_NoPlan_HostError ?s_NoPlan_NoBattle ?s_NoPlan_NoPlan ?s_NoPlan_NoMix ?s_NoPlan_NoStream ?s_NoPlan_NoSide ?s_NoPlan_NoAlike ?s_NoPlan_NoNumber ?s_NoPlan_TooGreat ?s_NoPlan_NoEven ?s_NoPlan_NoText ?s_NoPlan_NoRow ?s_NoPlan_NoName ?s_NoPlan_NoPlace ?x_NoAlike ?k_NoAlike ?hg_NoAlike ?hk_NoAlike ?hd_NoAlike ?ha_NoAlike ?hm_NoAlike ?v_NoAlike ?s_NoAlike_HostError ?s_NoAlike_NoBattle ?s_NoAlike_NoPlan ?s_NoAlike_NoMix ?s_NoAlike_NoStream ?s_NoAlike_NoSide ?s_NoAlike_NoAlike ?s_NoAlike_NoNumber ?s_NoAlike_TooGreat ?s_NoAlike_NoEven ?s_NoAlike_NoText ?s_NoAlike_NoRow ?s_NoAlike_NoName ?s_NoAlike_NoPlace ?oc_NoBattle ?sa_NoBattle ?ti_NoBattle ?no_NoBattle_field ?rd_HostError ?ga_HostError ?fc_HostError ?k_NoBattle ?hg_NoBattle ?hk_NoBattle ?hd_NoBattle ?ha_NoBattle ?hm_NoBattle ?v_NoBattle ?s_NoBattle_HostError ?s_NoBattle_NoBattle ?s_NoBattle_NoPlan ?s_NoBattle_NoMix ?s_NoBattle_NoStream ?s_NoBattle_NoSide ?s_NoBattle_NoAlike ?s_NoBattle_NoNumber ?s_NoBattle_TooGreat ?s_NoBattle_NoEven ?s_NoBattle_NoText ?s_NoBattle_NoRow ?s_NoBattle_NoName ?s_NoBattle_NoPlace ?ho_n ?ho_t
    (case h_Fallings => k_is); (case h_HostError => k_is); (case h_NoBattle => k_is); (case h_NoPlan => k_is); (case h_NoMix => k_is); (case h_NoStream => k_is); (case h_NoSide => k_is); (case h_NoAlike => k_is); (case h_NoNumber => k_is); (case h_TooGreat => k_is); (case h_NoEven => k_is); (case h_NoText => k_is); (case h_NoRow => k_is); (case h_NoName => k_is); (case h_NoPlace => k_is); (case pf_Fallings_init => k_is); (case pf_Fallings_many => k_is); (case ic_NoBattle => k_is); (case l_NoBattle_init => k_is); (case c_NoBattle_init => k_is); (case k_NoBattle_init => k_is); (case a_is_number => k_is); (case l_is_number => k_is); (case c_is_number => k_is); (case k_is_number => k_is); (case a_are_numbers => k_is); (case l_are_numbers => k_is); (case c_are_numbers => k_is); (case k_are_numbers => k_is); (case a_is_rule => k_is); (case l_is_rule => k_is); (case c_is_rule => k_is); (case k_is_rule => k_is); (case a_is_field => k_is); (case l_is_field => k_is); (case c_is_field => k_is); (case k_is_field => k_is); (case a_look_battle => k_is); (case l_look_battle => k_is); (case c_look_battle => k_is); (case k_look_battle => k_is); (case a_paid => k_is); (case l_paid => k_is); (case c_paid => k_is); (case k_paid => k_is); (case a_is_plan => k_is); (case l_is_plan => k_is); (case c_is_plan => k_is); (case k_is_plan => k_is); (case a_must_be_sizes => k_is); (case l_must_be_sizes => k_is); (case c_must_be_sizes => k_is); (case k_must_be_sizes => k_is); (case l_Fallings_init => k_is); (case c_Fallings_init => k_is); (case k_Fallings_init => k_is); (case l_Fallings_many => k_is); (case c_Fallings_many => k_is); (case k_Fallings_many => k_is); (case a_counts_many => k_is); (case l_counts_many => k_is); (case c_counts_many => k_is); (case k_counts_many => k_is); (case a_counts_of => k_is); (case l_counts_of => k_is); (case c_counts_of => k_is); (case k_counts_of => k_is); (case a_divisor => k_is); (case l_divisor => k_is); (case c_divisor => k_is); (case k_divisor => k_is); (case a_ratio => k_is); (case l_ratio => k_is); (case c_ratio => k_is); (case k_ratio => k_is); (case a_minus => k_is); (case l_minus => k_is); (case c_minus => k_is); (case k_minus => k_is); (case a_divided_out => k_is); (case l_divided_out => k_is); (case c_divided_out => k_is); (case k_divided_out => k_is); (case a_begun => k_is); (case l_begun => k_is); (case c_begun => k_is); (case k_begun => k_is); (case a_entering => k_is); (case l_entering => k_is); (case c_entering => k_is); (case k_entering => k_is); (case a_leaving => k_is); (case l_leaving => k_is); (case c_leaving => k_is); (case k_leaving => k_is); (case a_turned => k_is); (case l_turned => k_is); (case c_turned => k_is); (case k_turned => k_is); (case a_solved => k_is); (case l_solved => k_is); (case c_solved => k_is); (case k_solved => k_is); (case a_is_alike => k_is); (case l_is_alike => k_is); (case c_is_alike => k_is); (case k_is_alike => k_is); (case a_must_be_alike => k_is); (case l_must_be_alike => k_is); (case c_must_be_alike => k_is); (case k_must_be_alike => k_is); (case a_met => k_is); (case l_met => k_is); (case c_met => k_is); (case k_met => k_is); (case a_ring_gain => k_is); (case l_ring_gain => k_is); (case c_ring_gain => k_is); (case k_ring_gain => k_is); (case a_all_counts => k_is); (case l_all_counts => k_is); (case c_all_counts => k_is); (case k_all_counts => k_is); (case a_table_by_counts => k_is); (case l_table_by_counts => k_is); (case c_table_by_counts => k_is); (case k_table_by_counts => k_is); (case a_counts_table => k_is); (case l_counts_table => k_is); (case c_counts_table => k_is); (case k_counts_table => k_is); (case a_with_weights => k_is); (case l_with_weights => k_is); (case c_with_weights => k_is); (case k_with_weights => k_is); (case a_counts_worth => k_is); (case l_counts_worth => k_is); (case c_counts_worth => k_is); (case k_counts_worth => k_is); (case a_l_purse => k_is); (case l_l_purse => k_is); (case c_l_purse => k_is); (case k_l_purse => k_is); (case a_l_draw => k_is); (case l_l_draw => k_is); (case c_l_draw => k_is); (case k_l_draw => k_is); (case a_l_field => k_is); (case l_l_field => k_is); (case c_l_field => k_is); (case k_l_field => k_is); (case a_l_copy => k_is); (case l_l_copy => k_is); (case c_l_copy => k_is); (case k_l_copy => k_is); (case a_l_changed => k_is); (case l_l_changed => k_is); (case c_l_changed => k_is); (case k_l_changed => k_is); (case a_l_no_field => k_is); (case l_l_no_field => k_is); (case c_l_no_field => k_is); (case k_l_no_field => k_is); (case a_l_no_battle => k_is); (case l_l_no_battle => k_is); (case c_l_no_battle => k_is); (case k_l_no_battle => k_is); (case a_l_marks => k_is); (case l_l_marks => k_is); (case c_l_marks => k_is); (case k_l_marks => k_is); (case a_l_caught => k_is); (case l_l_caught => k_is); (case c_l_caught => k_is); (case k_l_caught => k_is); (case a_l_said => k_is); (case l_l_said => k_is); (case c_l_said => k_is); (case k_l_said => k_is); (case a_law => k_is); (case l_law => k_is); (case c_law => k_is); (case k_law => k_is); (case z_ValueError => k_is); (case z_abs => k_is); (case z_bool => k_is); (case z_int => k_is); (case z_isinstance => k_is); (case z_len => k_is); (case z_list => k_is); (case z_max => k_is); (case z_min => k_is); (case z_range => k_is); (case z_str => k_is); (case z_sum => k_is); (case z_zip => k_is); (case pg_Fallings => k_is); (case ph_Fallings => k_is); (case po_Fallings => k_is); (case ps_Fallings => k_is); (case pm_Fallings => k_is); (case pk_Fallings => k_is); (case pn_Fallings_init => k_is); (case pp_Fallings_init => k_is); (case pn_Fallings_many => k_is); (case pp_Fallings_many => k_is); (case pa_Fallings_known => k_is); (case h_MOST_HOSTS_fields => k_is); (case h_MOST_FIELDS_fields => k_is); (case h_MOST_HOSTS_plans => k_is); (case h_MOST_FIELDS_plans => k_is); (case i_HostError => k_is); (case t_HostError => k_is); (case y_HostError => k_is); (case i_NoBattle => k_is); (case t_NoBattle => k_is); (case y_NoBattle => k_is); (case i_NoPlan => k_is); (case t_NoPlan => k_is); (case y_NoPlan => k_is); (case i_NoMix => k_is); (case t_NoMix => k_is); (case y_NoMix => k_is); (case i_NoStream => k_is); (case t_NoStream => k_is); (case y_NoStream => k_is); (case i_NoSide => k_is); (case t_NoSide => k_is); (case y_NoSide => k_is); (case i_NoAlike => k_is); (case t_NoAlike => k_is); (case y_NoAlike => k_is); (case i_NoNumber => k_is); (case t_NoNumber => k_is); (case y_NoNumber => k_is); (case i_TooGreat => k_is); (case t_TooGreat => k_is); (case y_TooGreat => k_is); (case i_NoEven => k_is); (case t_NoEven => k_is); (case y_NoEven => k_is); (case i_NoText => k_is); (case t_NoText => k_is); (case y_NoText => k_is); (case i_NoRow => k_is); (case t_NoRow => k_is); (case y_NoRow => k_is); (case i_NoName => k_is); (case t_NoName => k_is); (case y_NoName => k_is); (case i_NoPlace => k_is); (case t_NoPlace => k_is); (case y_NoPlace => k_is); (case x_NoPlan => k_exc); (case k_NoPlan => k_is); (case hg_NoPlan => k_is); (case hk_NoPlan => k_is); (case hd_NoPlan => k_is); (case ha_NoPlan => k_is); (case hm_NoPlan => k_is); (case v_NoPlan => k_is); (case s_NoPlan_HostError => k_is); (case s_NoPlan_NoBattle => k_is); (case s_NoPlan_NoPlan => k_is); (case s_NoPlan_NoMix => k_is); (case s_NoPlan_NoStream => k_is); (case s_NoPlan_NoSide => k_is); (case s_NoPlan_NoAlike => k_is); (case s_NoPlan_NoNumber => k_is); (case s_NoPlan_TooGreat => k_is); (case s_NoPlan_NoEven => k_is); (case s_NoPlan_NoText => k_is); (case s_NoPlan_NoRow => k_is); (case s_NoPlan_NoName => k_is); (case s_NoPlan_NoPlace => k_is); (case x_NoAlike => k_exc); (case k_NoAlike => k_is); (case hg_NoAlike => k_is); (case hk_NoAlike => k_is); (case hd_NoAlike => k_is); (case ha_NoAlike => k_is); (case hm_NoAlike => k_is); (case v_NoAlike => k_is); (case s_NoAlike_HostError => k_is); (case s_NoAlike_NoBattle => k_is); (case s_NoAlike_NoPlan => k_is); (case s_NoAlike_NoMix => k_is); (case s_NoAlike_NoStream => k_is); (case s_NoAlike_NoSide => k_is); (case s_NoAlike_NoAlike => k_is); (case s_NoAlike_NoNumber => k_is); (case s_NoAlike_TooGreat => k_is); (case s_NoAlike_NoEven => k_is); (case s_NoAlike_NoText => k_is); (case s_NoAlike_NoRow => k_is); (case s_NoAlike_NoName => k_is); (case s_NoAlike_NoPlace => k_is); (case oc_NoBattle => k_is); (case sa_NoBattle => k_is); (case ti_NoBattle => k_is); (case no_NoBattle_field => k_is); (case rd_HostError => k_is); (case ga_HostError => k_is); (case fc_HostError => k_is); (case k_NoBattle => k_is); (case hg_NoBattle => k_is); (case hk_NoBattle => k_is); (case hd_NoBattle => k_is); (case ha_NoBattle => k_is); (case hm_NoBattle => k_is); (case v_NoBattle => k_is); (case s_NoBattle_HostError => k_is); (case s_NoBattle_NoBattle => k_is); (case s_NoBattle_NoPlan => k_is); (case s_NoBattle_NoMix => k_is); (case s_NoBattle_NoStream => k_is); (case s_NoBattle_NoSide => k_is); (case s_NoBattle_NoAlike => k_is); (case s_NoBattle_NoNumber => k_is); (case s_NoBattle_TooGreat => k_is); (case s_NoBattle_NoEven => k_is); (case s_NoBattle_NoText => k_is); (case s_NoBattle_NoRow => k_is); (case s_NoBattle_NoName => k_is); (case s_NoBattle_NoPlace => k_is); (case ho_n => k_is); (case ho_t => k_is)

