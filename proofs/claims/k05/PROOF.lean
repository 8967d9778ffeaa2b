import PyProof.Rows.All
import Wide.All
import OpenK.AllK
import Wide.FinOn
import HandS.ForMost
import HandS.Wide
import HandS.IsInst
import HandS.TupAny
import HandS.TryOnly
import HandS.Style
import HandS.Conv
import HandS.Exc
import HandS.ExcIs
import HandS.ExcOwn
import HandS.ExcInit
import HandS.ExcField
import HandS.ClsMeth
import HandS.WordsExc
import KE.KExcIs
import PyProof.MaxThree
import PySem.Challenge.RW_hostfields_k05_battles_looked_at
set_option Elab.async false
set_option linter.all false
set_option maxRecDepth 100000
set_option maxHeartbeats 4000000
/-! ## the engine: the readings, one step a lemma; «walk_at "go"» walks as far as it goes -/
namespace Hf
open PySem PySem.Spec PyProof.Rows L2
/-- every tracked object but the one at a is as it was -/
def But (a : Addr) (H H' : Hp) : Prop := ∀ b o, b ≠ a → H b = some o → H' b = some o
theorem But.same {a : Addr} {H H' : Hp} (e : Same H H') : But a H H' := fun b o _ h => e b o h
theorem But.refl (a : Addr) (H : Hp) : But a H H := fun _ _ _ h => h
theorem But.trans {a : Addr} {H H1 H2 : Hp} (x : But a H H1) (y : But a H1 H2) : But a H H2 := fun b o n h => y b o n (x b o n h)
theorem But.upd {a : Addr} {H H1 : Hp} {o : HO} (x : But a H H1) : But a H (upd H1 a o) := fun b u n h => by
  rw [upd_ne n]
  exact x b u n h
theorem But.new {a p : Addr} {H H1 : Hp} {o : HO} (x : But a H H1) (hp : H1 p = none) : But a H (L2.upd H1 p o) := fun b u n h => by
  have h1 := x b u n h
  rw [upd_ne (ne_of_none h1 hp)]
  exact h1
theorem But.to_same {a : Addr} {H H' : Hp} (x : But a H H') (n : H a = none) : Same H H' := fun b o h => x b o (ne_of_none h n) h
theorem Same.new {H : Hp} {p : Addr} {o : HO} (hp : H p = none) : Same H (upd H p o) := fun b u h => by
  rw [upd_ne (ne_of_none h hp)]
  exact h
theorem Same.newT {H0 H : Hp} {p : Addr} {o : HO} (e : Same H0 H) (hp : H p = none) : Same H0 (upd H p o) := e.trans (Same.new hp)
/-- a change at an object that H0 does not know -/
theorem Same.mut {H0 H : Hp} {p : Addr} {o : HO} (e : Same H0 H) (hp : H0 p = none) : Same H0 (upd H p o) := fun b u h => by
  rw [upd_ne (ne_of_none h hp)]
  exact e b u h
theorem Same.but {H0 H H1 : Hp} {p : Addr} (e : Same H0 H) (hp : H0 p = none) (x : But p H H1) : Same H0 H1 := fun b u h => x b u (ne_of_none h hp) (e b u h)
theorem Same.seqT {K : PySem.W.Frag} {H H' : Hp} {a : Addr} {xs : List V} (e : Same H H') (h : SqT K H a xs) : SqT K H' a xs := by
  rcases h with (h | ⟨o, h⟩) | h
  · exact .inl (.inl (e _ _ h))
  · exact .inl (.inr ⟨o, e _ _ h⟩)
  · exact .inr h
theorem But.seq {K : PySem.W.Frag} {H H' : Hp} {a b : Addr} {xs : List V} (e : But a H H') (n : b ≠ a) (h : SqL K H b xs) : SqL K H' b xs := by
  rcases h with (h | ⟨o, h⟩) | h
  · exact .inl (.inl (e _ _ n h))
  · exact .inl (.inr ⟨o, e _ _ n h⟩)
  · exact .inr h
theorem But.seqT {K : PySem.W.Frag} {H H' : Hp} {a b : Addr} {xs : List V} (e : But a H H') (n : b ≠ a) (h : SqT K H b xs) : SqT K H' b xs := by
  rcases h with (h | ⟨o, h⟩) | h
  · exact .inl (.inl (e _ _ n h))
  · exact .inl (.inr ⟨o, e _ _ n h⟩)
  · exact .inr h
/-- a guard: its way is barred where P is at hand -/
def Guard (_ : Prop) : Prop := True
theorem Guard.of {P : Prop} (_ : P) : Guard P := trivial
theorem lk_upd {H : Hp} {a b : Addr} {o u : HO} (n : b ≠ a) (h : H b = some u) : upd H a o b = some u := by
  rw [upd_ne n]
  exact h
theorem lk_new {H : Hp} {a b : Addr} {o u : HO} (n : H a = none) (h : H b = some u) : upd H a o b = some u := by
  rw [upd_ne (ne_of_none h n)]
  exact h
theorem lk_updG {H : Hp} {a b : Addr} {o u : HO} (_ : Guard (H a = none)) (n : b ≠ a) (h : H b = some u) : upd H a o b = some u := lk_upd n h
theorem lk_none {H H' : Hp} {a : Addr} (e : Same H H') (n : H' a = none) : H a = none := e.free n
theorem lkL_new {K : PySem.W.Frag} {H : Hp} {a b : Addr} {o : HO} {xs : List V} (n : H a = none) (h : SqL K H b xs) : SqL K (upd H a o) b xs := (Same.new n).seq h
theorem lkT_new {K : PySem.W.Frag} {H : Hp} {a b : Addr} {o : HO} {xs : List V} (n : H a = none) (h : SqT K H b xs) : SqT K (upd H a o) b xs := Same.seqT (Same.new n) h
theorem lkL_upd {K : PySem.W.Frag} {H : Hp} {a b : Addr} {o : HO} {xs : List V} (n : b ≠ a) (h : SqL K H b xs) : SqL K (upd H a o) b xs := But.seq (But.upd (But.refl a H)) n h
theorem lkT_upd {K : PySem.W.Frag} {H : Hp} {a b : Addr} {o : HO} {xs : List V} (n : b ≠ a) (h : SqT K H b xs) : SqT K (upd H a o) b xs := But.seqT (But.upd (But.refl a H)) n h
theorem lkL_updG {K : PySem.W.Frag} {H : Hp} {a b : Addr} {o : HO} {xs : List V} (_ : Guard (H a = none)) (n : b ≠ a) (h : SqL K H b xs) : SqL K (upd H a o) b xs := lkL_upd n h
theorem lkT_updG {K : PySem.W.Frag} {H : Hp} {a b : Addr} {o : HO} {xs : List V} (_ : Guard (H a = none)) (n : b ≠ a) (h : SqT K H b xs) : SqT K (upd H a o) b xs := lkT_upd n h
theorem ne_new {H : Hp} {a b : Addr} {o : HO} (n : H b = none) (h : H a = some o) : a ≠ b := ne_of_none h n
theorem ne_new' {H : Hp} {a b : Addr} {o : HO} (n : H b = none) (h : H a = some o) : b ≠ a := (ne_of_none h n).symm
theorem ne_at {α : Type} {a b : α} (h : a ≠ b) : b ≠ a := h.symm
/-! ### sizes -/
theorem sz4 {n : Nat} (h : n ≤ 1000000) : n ≤ sizeLine := Nat.le_trans h (by decide)
theorem sz4' {n : Nat} (h : n ≤ 1000000) : n < sizeLine := Nat.lt_of_le_of_lt h (by decide)
/-! ### two operators, wider -/
def CMulA (i j : Int) : Prop := CMul i j ∨ CMulW i j
theorem CMulA.ok {i j : Int} (h : CMulA i j) : IntMulOk i j := h.elim CMul.ok CMulW.ok
theorem op_mulA {X : Cx} : OpR X (binaryOp .Mult) (rI CMulA fun i j => .int (i * j)) := opI fun _ _ _ _ _ _ _ hc q => mul_int q hc.ok
def CDivA (_ j : Int) : Prop := j ≠ 0 ∧ j.natAbs.log2 < 9000
theorem op_fdivA {X : Cx} : OpR X (binaryOp .FloorDiv) (rI CDivA fun i j => .int (i.fdiv j)) := opI fun _ _ _ _ _ _ _ hc q => floordiv_int hc.1 q (.inl (PyProof.noPylong_of_log2 hc.2))
theorem mulL {i j : Int} (h : -(2 ^ 64) < i ∧ i < 2 ^ 64) : CMulA i j := .inl (.inl h)
theorem mulR {i j : Int} (h : -(2 ^ 64) < j ∧ j < 2 ^ 64) : CMulA i j := .inl (.inr h)
theorem log_lt {j : Int} {b : Nat} (h : j.natAbs < 2 ^ b) (h0 : 0 < b) (h9 : b ≤ 9000) : j.natAbs.log2 < 9000 := Nat.lt_of_lt_of_le (PySem.Flt.log2_lt_of h0 h) h9
theorem log_small {j : Int} (h : -(2 ^ 200) < j ∧ j < 2 ^ 200) : j.natAbs.log2 < 9000 := log_lt (b := 200) (by omega) (by decide) (by decide)
theorem mulW {i j : Int} {a b : Nat} (ha : i.natAbs < 2 ^ a) (hb : j.natAbs < 2 ^ b) (h0 : 0 < a) (h1 : 0 < b) (h : a + b ≤ 1000000) : CMulA i j := .inr (wide_mul ha hb h0 h1 h)
theorem divS {i j : Int} (h0 : j ≠ 0) (h : -(2 ^ 200) < j ∧ j < 2 ^ 200) : CDivA i j := ⟨h0, log_small h⟩
/-! ### the steps -/
section
variable {σ σ' : L2.St} {H : Hp} {Q : VK} {x y v : V} {i j : Int} {n : Nat} {nx bk ct : L2.St → Hp → Prop} {rt : VK} {K : PySem.W.Frag} {a p : Addr} {xs : List V}
theorem start_to {N : List Str} {vs : List V} {t : TS} {D : Ends} (e : start N vs = σ) (h : t D σ H) : t D (start N vs) H := by
  rw [e]
  exact h
theorem i_ends {t : TS} {rt : VK} (h : t ⟨fun _ H' => rt .non H', rt, fun _ _ => False, fun _ _ => False⟩ σ H) : t { nx := fun _ H' => rt .non H', rt := rt } σ H := h
theorem i_seq {t u : TS} (h : t ⟨u ⟨nx, rt, bk, ct⟩, rt, bk, ct⟩ σ H) : tSeq t u ⟨nx, rt, bk, ct⟩ σ H := h
theorem i_asg {te : TE} {g : TG} (h : te σ H fun x H1 => g x σ H1 nx) : tAsg te g ⟨nx, rt, bk, ct⟩ σ H := h
theorem i_gname {k : Nat} {Z : L2.St → Hp → Prop} (e : σ.set k (some v) = σ') (q : Z σ' H) : gName k v σ H Z := by
  subst e
  exact q
theorem i_ret {te : TE} (h : te σ H rt) : tRet te ⟨nx, rt, bk, ct⟩ σ H := h
theorem i_retN (h : rt .non H) : tRetN ⟨nx, rt, bk, ct⟩ σ H := h
theorem i_next (h : nx σ H) : tNext ⟨nx, rt, bk, ct⟩ σ H := h
theorem i_brk (h : bk σ H) : tBreak ⟨nx, rt, bk, ct⟩ σ H := h
theorem i_cnt (h : ct σ H) : tCont ⟨nx, rt, bk, ct⟩ σ H := h
theorem i_drop {te : TE} (h : te σ H fun _ H1 => nx σ H1) : tDrop te ⟨nx, rt, bk, ct⟩ σ H := h
theorem i_ifs {c : TT} {t u : TS} (h : c σ H fun b H1 => if b = true then t ⟨nx, rt, bk, ct⟩ σ H1 else u ⟨nx, rt, bk, ct⟩ σ H1) : tIfS c t u ⟨nx, rt, bk, ct⟩ σ H := h
theorem i_var {k : Nat} (h : σ[k]? = some (some v)) (q : Q v H) : tVar k σ H Q := ⟨v, h, q⟩
theorem i_c (q : Q v H) : tC v σ H Q := q
theorem i_op {r : R2} {ta tb : TE} (h : ta σ H fun x H1 => tb σ H1 fun y H2 => r x y H2 Q) : tOp r ta tb σ H Q := h
theorem i_un {r : V → Hp → VK → Prop} {ta : TE} (h : ta σ H fun x H1 => r x H1 Q) : tUn r ta σ H Q := h
theorem i_I0 {g : Int → Int → V} (q : Q (g i j) H) : rI0 g (.int i) (.int j) H Q := ⟨i, j, rfl, rfl, q⟩
theorem i_I {C : Int → Int → Prop} {g : Int → Int → V} (c : C i j) (q : Q (g i j) H) : rI C g (.int i) (.int j) H Q := ⟨i, j, rfl, rfl, c, q⟩
theorem i_pow {m : Int} (c : CPow i j) (e : i ^ j.toNat = m) (q : Q (.int m) H) : rI CPow (fun i j => .int (i ^ j.toNat)) (.int i) (.int j) H Q := ⟨i, j, rfl, rfl, c, by
  show Q (.int (i ^ j.toNat)) H
  rw [e]
  exact q⟩
theorem i_U {g : Int → V} (q : Q (g i) H) : rU g (.int i) H Q := ⟨i, rfl, q⟩
theorem i_eqI (q : Q (.bl (decide (i = j))) H) : rEq (.int i) (.int j) H Q := ⟨rfl, by
  have e : decide (V.int i = V.int j) = decide (i = j) := by
    by_cases h : i = j
    · rw [decide_eq_true h, decide_eq_true (congrArg V.int h)]
    · rw [decide_eq_false h, decide_eq_false fun z => h (V.int.inj z)]
  rw [e]
  exact q⟩
theorem i_neI (q : Q (.bl (!decide (i = j))) H) : rNe (.int i) (.int j) H Q := ⟨rfl, by
  have e : decide (V.int i = V.int j) = decide (i = j) := by
    by_cases h : i = j
    · rw [decide_eq_true h, decide_eq_true (congrArg V.int h)]
    · rw [decide_eq_false h, decide_eq_false fun z => h (V.int.inj z)]
  rw [e]
  exact q⟩
theorem i_eqB {c d : Bool} (q : Q (.bl (c == d)) H) : rEq (.bl c) (.bl d) H Q := ⟨rfl, by
  rw [dec_bl]
  exact q⟩
theorem i_neB {c d : Bool} (q : Q (.bl (!(c == d))) H) : rNe (.bl c) (.bl d) H Q := ⟨rfl, by
  rw [dec_bl]
  exact q⟩
theorem i_eqS {c d : Str} (q : Q (.bl (c == d)) H) : rEq (.str c) (.str d) H Q := ⟨rfl, by
  rw [dec_str]
  exact q⟩
theorem i_neS {c d : Str} (q : Q (.bl (!(c == d))) H) : rNe (.str c) (.str d) H Q := ⟨rfl, by
  rw [dec_str]
  exact q⟩
theorem i_test {te : TE} {P : Bool → Hp → Prop} (h : te σ H fun x H1 => ∃ k, x = .bl k ∧ P k H1) : tTest te σ H P := h
theorem i_B {te : TE} {P : Bool → Hp → Prop} (h : te σ H fun x H1 => ∃ k, x = .bl k ∧ P k H1) : tB te σ H P := h
theorem i_bl {b : Bool} {P : Bool → Prop} (q : P b) : ∃ k, V.bl b = .bl k ∧ P k := ⟨b, rfl, q⟩
theorem i_and {t u : TT} {P : Bool → Hp → Prop} (h : t σ H fun c H1 => if c = true then u σ H1 P else P false H1) : tAnd t u σ H P := h
theorem i_or {t u : TT} {P : Bool → Hp → Prop} (h : t σ H fun c H1 => if c = true then P true H1 else u σ H1 P) : tOr t u σ H P := h
theorem i_not {t : TT} {P : Bool → Hp → Prop} (h : t σ H fun c H1 => P (!c) H1) : tNot t σ H P := h
theorem i_andV {ta tb : TE} (h : ta σ H fun x H1 => ∃ c, x = .bl c ∧ if c = true then tb σ H1 Q else Q (.bl false) H1) : tAndV ta tb σ H Q := h
theorem i_orV {ta tb : TE} (h : ta σ H fun x H1 => ∃ c, x = .bl c ∧ if c = true then Q (.bl true) H1 else tb σ H1 Q) : tOrV ta tb σ H Q := h
theorem i_notV {ta : TE} (h : ta σ H fun x H1 => ∃ c, x = .bl c ∧ Q (.bl (!c)) H1) : tNotV ta σ H Q := h
theorem i_ife {t : TT} {ta tb : TE} (h : t σ H fun c H1 => if c = true then ta σ H1 Q else tb σ H1 Q) : tIf t ta tb σ H Q := h
theorem i_call {sp : Sp} {E : XK} {t : TA} (h : t σ H fun vs H1 => sp vs H1 Q E) : tCall sp [] E t σ H Q := by
  have e : (fun vs H1 => sp (vs ++ []) H1 Q E) = fun vs H1 => sp vs H1 Q E := by
    funext vs H1
    rw [List.append_nil]
  show t σ H (fun vs H1 => sp (vs ++ []) H1 Q E)
  rw [e]
  exact h
theorem i_cb {r : List V → Hp → VK → Prop} {t : TA} (h : t σ H fun vs H1 => r vs H1 Q) : tCB r t σ H Q := h
theorem i_nil {P : List V → Hp → Prop} (q : P [] H) : tNil σ H P := q
theorem i_cons {ta : TE} {tr : TA} {P : List V → Hp → Prop} (h : ta σ H fun x H1 => tr σ H1 fun xs H2 => P (x :: xs) H2) : tCons ta tr σ H P := h
theorem i_tup {t : TA} (h : t σ H fun xs H1 => xs.length ≤ sizeLine ∧ ∀ p, H1 p = none → Q (.ref p) (upd H1 p (.tup xs))) : tTup t σ H Q := h
theorem i_lst {t : TA} (h : t σ H fun xs H1 => xs.length ≤ sizeLine ∧ ∀ p, H1 p = none → Q (.ref p) (upd H1 p (.lst xs))) : tLst t σ H Q := h
theorem i_new {R : Addr → Prop} (hz : xs.length ≤ sizeLine) (q : ∀ p, H p = none → R p) : xs.length ≤ sizeLine ∧ ∀ p, H p = none → R p := ⟨hz, q⟩
theorem i_ixL (h : SqL K H p xs) (e : atI xs i = some v) (q : Q v H) : rIxL K (.ref p) (.int i) H Q := ⟨p, xs, i, v, rfl, rfl, h, e, q⟩
theorem i_ixT (h : SqT K H p xs) (e : atI xs i = some v) (q : Q v H) : rIxT K (.ref p) (.int i) H Q := ⟨p, xs, i, v, rfl, rfl, h, e, q⟩
theorem at_lt {α : Type} {xs : List α} {i : Int} (h0 : 0 ≤ i) (h1 : i < xs.length) : ∃ v, atI xs i = some v ∧ xs[i.toNat]? = some v := by
  have hk : i.toNat < xs.length := by omega
  refine ⟨xs[i.toNat], ?_, List.getElem?_eq_getElem hk⟩
  have e := atI_nat (xs := xs) (j := i.toNat) (v := xs[i.toNat]) (List.getElem?_eq_getElem hk)
  rw [Int.toNat_of_nonneg h0] at e
  exact e
/-- an item at an open place: one of those written -/
theorem i_ix2 {y1 y2 : V} (h : SqL K H p [y1, y2]) (h0 : 0 ≤ i) (h1 : i < 2) (q : ∀ v, v = y1 ∨ v = y2 → Q v H) : rIxL K (.ref p) (.int i) H Q := by
  rcases (by omega : i = 0 ∨ i = 1) with e | e <;> subst e
  · exact ⟨p, _, _, y1, rfl, rfl, h, rfl, q _ (.inl rfl)⟩
  · exact ⟨p, _, _, y2, rfl, rfl, h, rfl, q _ (.inr rfl)⟩
theorem i_ix2I {y1 y2 : Int} (h : SqL K H p [.int y1, .int y2]) (h0 : 0 ≤ i) (h1 : i < 2) (q : ∀ v, v = y1 ∨ v = y2 → Q (.int v) H) : rIxL K (.ref p) (.int i) H Q := by
  rcases (by omega : i = 0 ∨ i = 1) with e | e <;> subst e
  · exact ⟨p, _, _, .int y1, rfl, rfl, h, rfl, q _ (.inl rfl)⟩
  · exact ⟨p, _, _, .int y2, rfl, rfl, h, rfl, q _ (.inr rfl)⟩
theorem i_ix3I {y1 y2 y3 : Int} (h : SqL K H p [.int y1, .int y2, .int y3]) (h0 : 0 ≤ i) (h1 : i < 3) (q : ∀ v, v = y1 ∨ v = y2 ∨ v = y3 → Q (.int v) H) : rIxL K (.ref p) (.int i) H Q := by
  rcases (by omega : i = 0 ∨ i = 1 ∨ i = 2) with e | e | e <;> subst e
  · exact ⟨p, _, _, .int y1, rfl, rfl, h, rfl, q _ (.inl rfl)⟩
  · exact ⟨p, _, _, .int y2, rfl, rfl, h, rfl, q _ (.inr (.inl rfl))⟩
  · exact ⟨p, _, _, .int y3, rfl, rfl, h, rfl, q _ (.inr (.inr rfl))⟩
theorem i_ix4I {y1 y2 y3 y4 : Int} (h : SqL K H p [.int y1, .int y2, .int y3, .int y4]) (h0 : 0 ≤ i) (h1 : i < 4) (q : ∀ v, v = y1 ∨ v = y2 ∨ v = y3 ∨ v = y4 → Q (.int v) H) : rIxL K (.ref p) (.int i) H Q := by
  rcases (by omega : i = 0 ∨ i = 1 ∨ i = 2 ∨ i = 3) with e | e | e | e <;> subst e
  · exact ⟨p, _, _, .int y1, rfl, rfl, h, rfl, q _ (.inl rfl)⟩
  · exact ⟨p, _, _, .int y2, rfl, rfl, h, rfl, q _ (.inr (.inl rfl))⟩
  · exact ⟨p, _, _, .int y3, rfl, rfl, h, rfl, q _ (.inr (.inr (.inl rfl)))⟩
  · exact ⟨p, _, _, .int y4, rfl, rfl, h, rfl, q _ (.inr (.inr (.inr rfl)))⟩
theorem i_ix3R {y1 y2 y3 : Addr} (h : SqL K H p [.ref y1, .ref y2, .ref y3]) (h0 : 0 ≤ i) (h1 : i < 3) (q : ∀ v, v = y1 ∨ v = y2 ∨ v = y3 → Q (.ref v) H) : rIxL K (.ref p) (.int i) H Q := by
  rcases (by omega : i = 0 ∨ i = 1 ∨ i = 2) with e | e | e <;> subst e
  · exact ⟨p, _, _, .ref y1, rfl, rfl, h, rfl, q _ (.inl rfl)⟩
  · exact ⟨p, _, _, .ref y2, rfl, rfl, h, rfl, q _ (.inr (.inl rfl))⟩
  · exact ⟨p, _, _, .ref y3, rfl, rfl, h, rfl, q _ (.inr (.inr rfl))⟩
theorem i_ix4R {y1 y2 y3 y4 : Addr} (h : SqL K H p [.ref y1, .ref y2, .ref y3, .ref y4]) (h0 : 0 ≤ i) (h1 : i < 4) (q : ∀ v, v = y1 ∨ v = y2 ∨ v = y3 ∨ v = y4 → Q (.ref v) H) : rIxL K (.ref p) (.int i) H Q := by
  rcases (by omega : i = 0 ∨ i = 1 ∨ i = 2 ∨ i = 3) with e | e | e | e <;> subst e
  · exact ⟨p, _, _, .ref y1, rfl, rfl, h, rfl, q _ (.inl rfl)⟩
  · exact ⟨p, _, _, .ref y2, rfl, rfl, h, rfl, q _ (.inr (.inl rfl))⟩
  · exact ⟨p, _, _, .ref y3, rfl, rfl, h, rfl, q _ (.inr (.inr (.inl rfl)))⟩
  · exact ⟨p, _, _, .ref y4, rfl, rfl, h, rfl, q _ (.inr (.inr (.inr rfl)))⟩
theorem i_gtup {m : Nat} {t : TGs} {Z : L2.St → Hp → Prop} (h : SqT K H p xs) (e : xs.length = m) (q : t xs σ H Z) : gTup K m t (.ref p) σ H Z := ⟨p, xs, rfl, h, e, q⟩
theorem i_gtupL {m : Nat} {t : TGs} {Z : L2.St → Hp → Prop} (h : SqT K H p xs) (e : xs.length = m) (q : t xs σ H Z) : gTup K m t (.ref p) σ H Z := ⟨p, xs, rfl, h, e, q⟩
theorem i_gcons {t : TG} {u : TGs} {r : List V} {Z : L2.St → Hp → Prop} (h : t v σ H fun σ1 H1 => u r σ1 H1 Z) : gCons t u (v :: r) σ H Z := ⟨v, r, rfl, h⟩
theorem i_gnil {Z : L2.St → Hp → Prop} (h : Z σ H) : gNil [] σ H Z := ⟨rfl, h⟩
theorem i_gsub {to ti : TE} {t : TSet} {Z : L2.St → Hp → Prop} (h : to σ H fun o H1 => ti σ H1 fun i H2 => t o i v H2 fun H3 => Z σ H3) : gSub to ti t v σ H Z := h
theorem i_setL {k : Nat} {Z : Hp → Prop} (h : H p = some (.lst xs)) (e : ixN xs.length i = some k) (q : Z (upd H p (.lst (xs.set k v)))) : rSetL (.ref p) (.int i) v H Z := ⟨p, xs, i, k, rfl, rfl, h, e, q⟩
def par2 (k1 k2 : Nat) (σ : L2.St) (Z : L2.St → Hp → Prop) : List V → Hp → Prop := fun vs H1 => ∃ v w, vs = [v, w] ∧ Z ((σ.set k1 (some v)).set k2 (some w)) H1
theorem i_par {k1 k2 : Nat} {ta : TA} (h : ta σ H (par2 k1 k2 σ nx)) : tPar k1 k2 ta ⟨nx, rt, bk, ct⟩ σ H := h
theorem i_par2 {k1 k2 : Nat} {w : V} {Z : L2.St → Hp → Prop} (e : (σ.set k1 (some v)).set k2 (some w) = σ') (q : Z σ' H) : par2 k1 k2 σ Z [v, w] H := by
  subst e
  exact ⟨v, w, rfl, q⟩
theorem i_aug {k : Nat} {te : TE} {ti : TIp} (h : σ[k]? = some (some x)) (q : te σ H fun y H1 => ti x y H1 fun z H2 => gName k z σ H2 nx) : tAug k te ti ⟨nx, rt, bk, ct⟩ σ H := ⟨x, h, q⟩
theorem i_ip {f : Int → Int → Int} (q : Q (.int (f i j)) H) : ipI f (.int i) (.int j) H Q := ⟨i, j, rfl, rfl, q⟩
theorem i_for {wi : TI} {g : TG} {tb : TS} (h : wi σ H fun J H1 => ∃ W : Nat → Nat → L2.St → Hp → Prop, (∃ m, W 0 m σ H1) ∧ ∀ i m σ H, W i m σ H →
  (J.stop i H ∧ nx σ H) ∨ (J.go i H ∧ ∃ N : L2.St → Hp → Prop, (∀ σ' H', N σ' H' → ∃ m', m' < m ∧ W (i + 1) m' σ' H') ∧ ∀ x H', J.yld i H x H' → g x σ H' fun σ2 H2 => tb ⟨N, rt, nx, N⟩ σ2 H2)) : tFor wi g tb ⟨nx, rt, bk, ct⟩ σ H := h
theorem i_rng1 {ta : TA} {R : It → Hp → Prop} (h : ta σ H fun vs H1 => ∃ j : Int, vs = [.int j] ∧ -(2 ^ 62) ≤ j ∧ j < 2 ^ 62 ∧ R (Itr 0 j.toNat) H1) : iRng1 ta σ H R := h
theorem i_rng1' {R : Int → Prop} (h1 : -(2 ^ 62) ≤ j) (h2 : j < 2 ^ 62) (q : R j) : ∃ j' : Int, [V.int j] = [.int j'] ∧ -(2 ^ 62) ≤ j' ∧ j' < 2 ^ 62 ∧ R j' := ⟨j, rfl, h1, h2, q⟩
theorem i_rng2 {ta : TA} {R : It → Hp → Prop} (h : ta σ H fun vs H1 => ∃ i j : Int, vs = [.int i, .int j] ∧ (-(2 ^ 62) ≤ i ∧ i < 2 ^ 62 ∧ -(2 ^ 62) ≤ j ∧ j < 2 ^ 62) ∧ R (Itr i (j - i).toNat) H1) : iRng2 ta σ H R := h
theorem i_rng2' {R : Int → Int → Prop} (h : -(2 ^ 62) ≤ i ∧ i < 2 ^ 62 ∧ -(2 ^ 62) ≤ j ∧ j < 2 ^ 62) (q : R i j) : ∃ i' j' : Int, [V.int i, V.int j] = [.int i', .int j'] ∧ (-(2 ^ 62) ≤ i' ∧ i' < 2 ^ 62 ∧ -(2 ^ 62) ≤ j' ∧ j' < 2 ^ 62) ∧ R i' j' := ⟨i, j, rfl, h, q⟩
theorem i_ilist {tl : TE} {R : It → Hp → Prop} (h : tl σ H fun x H1 => ∃ a, x = .ref a ∧ (∃ xs, SqL K H1 a xs) ∧ R (Itl K a) H1) : iList K tl σ H R := h
theorem i_ilist' {R : Addr → Prop} (h : SqL K H p xs) (q : R p) : ∃ a, V.ref p = .ref a ∧ (∃ xs, SqL K H a xs) ∧ R a := ⟨p, rfl, ⟨xs, h⟩, q⟩
theorem i_itup {tl : TE} {R : It → Hp → Prop} (h : tl σ H fun x H1 => ∃ a, x = .ref a ∧ (∃ xs, SqT K H1 a xs) ∧ R (Itt K a) H1) : iTup K tl σ H R := h
theorem i_itup' {R : Addr → Prop} (h : SqT K H p xs) (q : R p) : ∃ a, V.ref p = .ref a ∧ (∃ xs, SqT K H a xs) ∧ R a := ⟨p, rfl, ⟨xs, h⟩, q⟩
/-- built-ins by values -/
theorem i_abs {R : Int → Prop} (q : R i) : ∃ i', [V.int i] = [.int i'] ∧ R i' := ⟨i, rfl, q⟩
theorem i_int2 {R : Int → Int → Prop} (q : R i j) : ∃ i' j', [V.int i, V.int j] = [.int i', .int j'] ∧ R i' j' := ⟨i, j, rfl, q⟩

theorem i_int1 {R : Int → Prop} {S : Prop} (q : R i) : (∃ i', [V.int i] = [.int i'] ∧ R i') ∨ S := .inl ⟨i, rfl, q⟩
theorem i_intb {b : Bool} {R : Bool → Prop} {S : Prop} (q : R b) : S ∨ ∃ k, [V.bl b] = [.bl k] ∧ R k := .inr ⟨b, rfl, q⟩
theorem i_lenL {R : List V → Prop} (h : SqL K H p xs) (q : R xs) : ∃ p' ys, [V.ref p] = [.ref p'] ∧ (SqL K H p' ys ∨ SqT K H p' ys) ∧ R ys := ⟨p, xs, rfl, .inl h, q⟩
theorem i_lenT {R : List V → Prop} (h : SqT K H p xs) (q : R xs) : ∃ p' ys, [V.ref p] = [.ref p'] ∧ (SqL K H p' ys ∨ SqT K H p' ys) ∧ R ys := ⟨p, xs, rfl, .inr h, q⟩
theorem i_isi {t : String} {c : String} {b : Bool} (ty : TyX K H x (.type t)) (h : kitB t c = some b) (q : Q (.bl b) H) : rIsi K [x, .ty c] H Q := ⟨x, .ty c, .type t, .type c, b, rfl, .ty c, ty, kit_ty h, q⟩
theorem i_append (h : H p = some (.lst xs)) (hz : xs.length < sizeLine) (q : Q .non (upd H p (.lst (xs ++ [v])))) : rAppend (.ref p) [v] H Q := ⟨p, xs, v, rfl, rfl, h, hz, q⟩
theorem i_appendM {H : Hp} {Q : VK} {p : Addr} {ms : List Int} {z : Int} (h : H p = some (.lst (ms.map V.int))) (hz : ms.length < sizeLine) (q : Q .non (upd H p (.lst ((ms ++ [z]).map V.int)))) : rAppend (.ref p) [.int z] H Q := ⟨p, _, _, rfl, rfl, h, by rw [List.length_map]; exact hz, by rw [List.map_append] at q; exact q⟩
theorem i_bm {T : String} {r : V → List V → Hp → VK → Prop} {to : TE} {t : TA} (h : to σ H fun x H1 => tyV K T x H1 ∧ t σ H1 fun xs H2 => r x xs H2 Q) : tBM K T r to t σ H Q := h
theorem i_bm0 {T : String} {r : V → List V → Hp → VK → Prop} {to : TE} (h : to σ H fun x H1 => tyV K T x H1 ∧ r x [] H1 Q) : tBM0 K T r to σ H Q := h
theorem i_bmL {A : Prop} (h : SqL K H p xs) (q : A) : tyV K "list" (.ref p) H ∧ A := ⟨.inl ⟨rfl, _, h⟩, q⟩
/-! ### ifs -/
theorem ite_d {p A B : Prop} {d : Decidable p} (h1 : p → A) (h2 : ¬ p → B) : if (@decide p d) = true then A else B := by
  by_cases h : p
  · rw [if_pos (decide_eq_true h)]
    exact h1 h
  · rw [if_neg (by rw [decide_eq_false h]; decide)]
    exact h2 h
theorem ite_nd {p A B : Prop} {d : Decidable p} (h1 : ¬ p → A) (h2 : p → B) : if (!(@decide p d)) = true then A else B := by
  by_cases h : p
  · rw [if_neg (by rw [decide_eq_true h]; decide)]
    exact h2 h
  · rw [if_pos (by rw [decide_eq_false h]; decide)]
    exact h1 h
theorem ite_b {b : Bool} {A B : Prop} (h1 : b = true → A) (h2 : b = false → B) : if b = true then A else B := by
  cases b
  · rw [if_neg (by decide)]
    exact h2 rfl
  · rw [if_pos rfl]
    exact h1 rfl
theorem ite_y {b : Bool} {A B : Prop} (e : b = true) (h : A) : if b = true then A else B := by
  rw [if_pos e]
  exact h
theorem ite_n {b : Bool} {A B : Prop} (e : b = false) (h : B) : if b = true then A else B := by
  rw [if_neg (by rw [e]; decide)]
  exact h
/-- both ways at once: what follows is asked of either -/
theorem ite_or {b : Bool} {R : Prop} {P : Bool → Prop} (h1 : b = true → P true → R) (h2 : b = false → P false → R) (hp : P b) : R := by
  cases b
  · exact h2 rfl hp
  · exact h1 rfl hp
end
end Hf
namespace Hf
open PySem PySem.Spec PyProof.Rows L2
theorem set_z {α : Type} {x y : α} {r : List α} : List.set (x :: r) 0 y = y :: r := rfl
theorem set_s {α : Type} {x y : α} {r r' : List α} {k : Nat} (h : List.set r k y = r') : List.set (x :: r) (k + 1) y = x :: r' := by
  rw [List.set_cons_succ, h]
theorem set_par {α : Type} {l l1 l2 : List α} {j k : Nat} {y z : α} (h1 : l.set j y = l1) (h2 : l1.set k z = l2) : (l.set j y).set k z = l2 := by
  rw [h1, h2]
theorem lk_same {H H' : Hp} {a : Addr} {o : HO} (e : Same H H') (h : H a = some o) : H' a = some o := e a o h
theorem lk_but {H H' : Hp} {a b : Addr} {o : HO} (e : But a H H') (n : b ≠ a) (h : H b = some o) : H' b = some o := e b o n h
end Hf

namespace Hf
open PySem PySem.Spec PyProof.Rows L2
/-! ### loops -/
section
variable {σ : L2.St} {H : Hp} {Q : VK} {nx bk ct : L2.St → Hp → Prop} {rt : VK} {K : PySem.W.Frag} {a : Addr} {xs : List V} {g : TG} {tb : TS} {lo : Int} {n : Nat}
theorem forR (Pv : Nat → L2.St → Hp → Prop) (h0 : Pv 0 σ H) (hd : ∀ σ H, Pv n σ H → nx σ H)
    (hs : ∀ (i : Nat) σ H, i < n → Pv i σ H → g (.int (lo + i)) σ H fun σ2 H2 => tb ⟨Pv (i + 1), rt, nx, Pv (i + 1)⟩ σ2 H2) :
    ∃ W : Nat → Nat → L2.St → Hp → Prop, (∃ m, W 0 m σ H) ∧ ∀ i m σ H, W i m σ H →
      ((Itr lo n).stop i H ∧ nx σ H) ∨ ((Itr lo n).go i H ∧ ∃ N : L2.St → Hp → Prop, (∀ σ' H', N σ' H' → ∃ m', m' < m ∧ W (i + 1) m' σ' H') ∧ ∀ x H', (Itr lo n).yld i H x H' → g x σ H' fun σ2 H2 => tb ⟨N, rt, nx, N⟩ σ2 H2) :=
  for_range (D := ⟨nx, rt, fun _ _ => False, fun _ _ => False⟩) Pv h0 hs hd
theorem forL (Pv : Nat → L2.St → Hp → Prop) (h0 : Pv 0 σ H) (hl : ∀ i σ H, i ≤ xs.length → Pv i σ H → SqL K H a xs) (hd : ∀ σ H, Pv xs.length σ H → nx σ H)
    (hs : ∀ i x σ H, xs[i]? = some x → Pv i σ H → g x σ H fun σ2 H2 => tb ⟨Pv (i + 1), rt, nx, Pv (i + 1)⟩ σ2 H2) :
    ∃ W : Nat → Nat → L2.St → Hp → Prop, (∃ m, W 0 m σ H) ∧ ∀ i m σ H, W i m σ H →
      ((Itl K a).stop i H ∧ nx σ H) ∨ ((Itl K a).go i H ∧ ∃ N : L2.St → Hp → Prop, (∀ σ' H', N σ' H' → ∃ m', m' < m ∧ W (i + 1) m' σ' H') ∧ ∀ x H', (Itl K a).yld i H x H' → g x σ H' fun σ2 H2 => tb ⟨N, rt, nx, N⟩ σ2 H2) :=
  for_list (D := ⟨nx, rt, fun _ _ => False, fun _ _ => False⟩) Pv h0 hl hs hd
theorem forT (Pv : Nat → L2.St → Hp → Prop) (h0 : Pv 0 σ H) (hl : ∀ i σ H, i ≤ xs.length → Pv i σ H → SqT K H a xs) (hd : ∀ σ H, Pv xs.length σ H → nx σ H)
    (hs : ∀ i x σ H, xs[i]? = some x → Pv i σ H → g x σ H fun σ2 H2 => tb ⟨Pv (i + 1), rt, nx, Pv (i + 1)⟩ σ2 H2) :
    ∃ W : Nat → Nat → L2.St → Hp → Prop, (∃ m, W 0 m σ H) ∧ ∀ i m σ H, W i m σ H →
      ((Itt K a).stop i H ∧ nx σ H) ∨ ((Itt K a).go i H ∧ ∃ N : L2.St → Hp → Prop, (∀ σ' H', N σ' H' → ∃ m', m' < m ∧ W (i + 1) m' σ' H') ∧ ∀ x H', (Itt K a).yld i H x H' → g x σ H' fun σ2 H2 => tb ⟨N, rt, nx, N⟩ σ2 H2) :=
  for_tup (D := ⟨nx, rt, fun _ _ => False, fun _ _ => False⟩) Pv h0 hl hs hd
/-- while: W by a measure; the test is read by hand, its two ways by turnW and the loop's end -/
theorem whileW {c : TT} (W : Nat → L2.St → Hp → Prop) (m : Nat) (h0 : W m σ H)
    (hs : ∀ m σ H, W m σ H → c σ H fun b H1 => if b = true then ∃ N : L2.St → Hp → Prop, (∀ σ' H', N σ' H' → ∃ m', m' < m ∧ W m' σ' H') ∧ tb ⟨N, rt, nx, N⟩ σ H1 else nx σ H1) : tWhile c tb ⟨nx, rt, bk, ct⟩ σ H :=
  ⟨W, ⟨m, h0⟩, hs⟩
theorem turnW {W : Nat → L2.St → Hp → Prop} {m : Nat} (h : tb ⟨fun σ' H' => ∃ m', m' < m ∧ W m' σ' H', rt, nx, fun σ' H' => ∃ m', m' < m ∧ W m' σ' H'⟩ σ H) :
    ∃ N : L2.St → Hp → Prop, (∀ σ' H', N σ' H' → ∃ m', m' < m ∧ W m' σ' H') ∧ tb ⟨N, rt, nx, N⟩ σ H := ⟨_, fun _ _ h => h, h⟩
end
theorem But.free {a p : Addr} {o : HO} {H H' : Hp} (hn : H' p = none) (e : But a H H') (ha : H' a = some o) : H p = none := by
  cases h : H p with
  | none => rfl
  | some u =>
    by_cases hp : p = a
    · rw [hp, ha] at hn
      cases hn
    · rw [e p u hp h] at hn
      cases hn
theorem Same.free' {p : Addr} {H H' : Hp} (hn : H' p = none) (e : Same H H') : H p = none := e.free hn
theorem But.newT {a p : Addr} {H H1 : Hp} {o : HO} (hp : H1 p = none) (x : But a H H1) : But a H (L2.upd H1 p o) := But.new x hp
theorem But.transT {a : Addr} {H H1 H2 : Hp} (y : But a H1 H2) (x : But a H H1) : But a H H2 := But.trans x y
theorem Same.transT {H H1 H2 : Hp} (y : Same H1 H2) (x : Same H H1) : Same H H2 := x.trans y
theorem Same.newT' {H H1 : Hp} {p : Addr} {o : HO} (hp : H1 p = none) (x : Same H H1) : Same H (upd H1 p o) := Same.newT x hp
theorem But.transS {a : Addr} {H H1 H2 : Hp} (y : Same H1 H2) (x : But a H H1) : But a H H2 := fun b o n h => y b o (x b o n h)
theorem Same.butT {H0 H H1 : Hp} {p : Addr} (x : But p H H1) (hp : H0 p = none) (e : Same H0 H) : Same H0 H1 := Same.but e hp x
/-! ### slices, sums of lists -/
theorem six_nn {n d : Nat} {k : Int} (h : 0 ≤ k) : HT.sIx n d (some k) = min k.toNat n := by
  obtain ⟨m, rfl⟩ := Int.eq_ofNat_of_zero_le h
  exact HT.sIx_nat n d m
theorem cut_to {xs : List V} {k : Int} (h : 0 ≤ k) : cutV xs none (some k) = xs.take k.toNat := by
  unfold cutV
  rw [six_nn h, HT.sIx_none, List.drop_zero, Nat.sub_zero]
  exact List.take_eq_take_iff.mpr (by omega)
theorem cut_from {xs : List V} {k : Int} (h : 0 ≤ k) : cutV xs (some k) none = xs.drop k.toNat := by
  unfold cutV
  rw [six_nn h, HT.sIx_none, List.take_of_length_le (by rw [List.length_drop]; omega)]
  by_cases c : k.toNat ≤ xs.length
  · rw [Nat.min_eq_left c]
  · rw [Nat.min_eq_right (show xs.length ≤ k.toNat by omega), List.drop_length, List.drop_eq_nil_of_le (show xs.length ≤ k.toNat by omega)]
theorem cut_mid {xs : List V} {j k : Int} (h : 0 ≤ j) (h' : 0 ≤ k) : cutV xs (some j) (some k) = (xs.drop j.toNat).take (k.toNat - j.toNat) := by
  unfold cutV
  rw [six_nn h, six_nn h']
  by_cases c : j.toNat ≤ xs.length
  · rw [Nat.min_eq_left c]
    refine List.take_eq_take_iff.mpr ?_
    rw [List.length_drop]
    omega
  · rw [Nat.min_eq_right (show xs.length ≤ j.toNat by omega), List.drop_length, List.drop_eq_nil_of_le (show xs.length ≤ j.toNat by omega), List.take_nil, List.take_nil]
section
variable {H : Hp} {Q : VK} {K : PySem.W.Frag} {p r : Addr} {xs ys : List V} {j k : Int} {lo hi : Option Int} {σ : L2.St}
theorem i_slTo (h : SqL K H p xs) (h0 : 0 ≤ k) (q : ∀ p', H p' = none → Q (.ref p') (upd H p' (.lst (xs.take k.toNat)))) : rSlL K (.ref p) none (some k) H Q := ⟨p, xs, rfl, h, by rw [cut_to h0]; exact q⟩
theorem i_slFrom (h : SqL K H p xs) (h0 : 0 ≤ k) (q : ∀ p', H p' = none → Q (.ref p') (upd H p' (.lst (xs.drop k.toNat)))) : rSlL K (.ref p) (some k) none H Q := ⟨p, xs, rfl, h, by rw [cut_from h0]; exact q⟩
theorem i_slMid (h : SqL K H p xs) (h0 : 0 ≤ j) (h1 : 0 ≤ k) (q : ∀ p', H p' = none → Q (.ref p') (upd H p' (.lst ((xs.drop j.toNat).take (k.toNat - j.toNat))))) : rSlL K (.ref p) (some j) (some k) H Q := ⟨p, xs, rfl, h, by rw [cut_mid h0 h1]; exact q⟩
theorem i_sl {R : V → Option Int → Option Int → Hp → VK → Prop} {te : TE} {tl th : TO} (h : te σ H fun x H1 => tl σ H1 fun l H2 => th σ H2 fun u H3 => R x l u H3 Q) : tSl R te tl th σ H Q := h
theorem i_nopart {P : Option Int → Hp → Prop} (q : P none H) : tNoPart σ H P := q
theorem i_part {te : TE} {P : Option Int → Hp → Prop} (h : te σ H fun x H1 => ∃ i, x = .int i ∧ P (some i) H1) : tPart te σ H P := h
theorem i_exint {i : Int} {R : Int → Prop} (q : R i) : ∃ i', V.int i = .int i' ∧ R i' := ⟨i, rfl, q⟩
theorem i_cat (h1 : H p = some (.lst xs)) (h2 : H r = some (.lst ys)) (hz : xs.length + ys.length ≤ sizeLine) (q : ∀ p', H p' = none → Q (.ref p') (upd H p' (.lst (xs ++ ys)))) : rCat (.ref p) (.ref r) H Q := ⟨p, r, xs, ys, rfl, rfl, h1, h2, hz, q⟩
theorem i_rep (h1 : H p = some (.lst xs)) (h2 : -(2 ^ 63) ≤ k ∧ k < 2 ^ 63) (hz : xs.length * k.toNat ≤ sizeLine) (q : ∀ p', H p' = none → Q (.ref p') (upd H p' (.lst (List.replicate k.toNat xs).flatten))) : rRep (.ref p) (.int k) H Q := ⟨p, k, xs, rfl, rfl, h1, h2.1, h2.2, hz, q⟩
theorem flat1 {α : Type} {x : α} : ∀ n : Nat, (List.replicate n [x]).flatten = List.replicate n x
  | 0 => rfl
  | n + 1 => by
    rw [List.replicate_succ, List.flatten_cons, flat1 n, List.replicate_succ]
    rfl
theorem i_rep1 {x : V} (h1 : H p = some (.lst [x])) (h2 : 0 ≤ k ∧ k ≤ 1000000) (q : ∀ p', H p' = none → Q (.ref p') (upd H p' (.lst (List.replicate k.toNat x)))) : rRep (.ref p) (.int k) H Q :=
  i_rep h1 (by omega) (sz4 (by show 1 * k.toNat ≤ 1000000; omega)) (by rw [flat1]; exact q)
end
/-- an if whose two ways meet: what holds behind it -/
theorem if_join {σ : L2.St} {H : Hp} {nx bk ct : L2.St → Hp → Prop} {rt : VK} {c : TT} {t u : TS} (P : L2.St → Hp → Prop) (h : ∀ nx' : L2.St → Hp → Prop, (∀ σ' H', P σ' H' → nx' σ' H') → tIfS c t u ⟨nx', rt, bk, ct⟩ σ H)
    (cont : ∀ σ' H', P σ' H' → nx σ' H') : tIfS c t u ⟨nx, rt, bk, ct⟩ σ H := h nx cont
/-- any statement, cut behind it -/
theorem st_join {σ : L2.St} {H : Hp} {nx bk ct : L2.St → Hp → Prop} {rt : VK} {t : TS} (P : L2.St → Hp → Prop) (h : ∀ nx' : L2.St → Hp → Prop, (∀ σ' H', P σ' H' → nx' σ' H') → t ⟨nx', rt, bk, ct⟩ σ H)
    (cont : ∀ σ' H', P σ' H' → nx σ' H') : t ⟨nx, rt, bk, ct⟩ σ H := h nx cont
theorem ints_at {ms : List Int} {i : Nat} {x : V} (h : (ms.map V.int)[i]? = some x) : ∃ z, x = .int z ∧ ms[i]? = some z := by
  rw [List.getElem?_map] at h
  cases e : ms[i]? with
  | none =>
    rw [e] at h
    cases h
  | some z =>
    rw [e] at h
    exact ⟨z, (Option.some.inj h).symm, rfl⟩
/-! ### equality of data -/
theorem i_eqT2 {K : PySem.W.Frag} {H : Hp} {Q : VK} {p r : Addr} {a b c d : Int} (h1 : SqT K H p [.int a, .int b]) (h2 : SqT K H r [.int c, .int d]) (q : Q (.bl (a == c && (b == d && true))) H) : rEqD K (.ref p) (.ref r) H Q :=
  ⟨.tuple [.int a, .int b], .tuple [.int c, .int d], .tup h1 (.cons (.int a) (.cons (.int b) .nil)), .tup h2 (.cons (.int c) (.cons (.int d) .nil)), rfl, rfl, by
    have e : PyData.eqv (.tuple [.int a, .int b]) (.tuple [.int c, .int d]) = (a == c && (b == d && true)) := by simp [PyData.eqv, PyData.eqvAll]
    rw [e]
    exact q⟩
/-! ### two objects that change -/
def But2 (a c : Addr) (H H' : Hp) : Prop := ∀ b o, b ≠ a → b ≠ c → H b = some o → H' b = some o
section
variable {a c b p : Addr} {H H' H1 H2 : Hp} {o u : HO} {K : PySem.W.Frag} {xs : List V}
theorem But2.refl (a c : Addr) (H : Hp) : But2 a c H H := fun _ _ _ _ h => h
theorem But2.transT (y : But2 a c H1 H2) (x : But2 a c H H1) : But2 a c H H2 := fun b o n m h => y b o n m (x b o n m h)
theorem But2.transS (y : Same H1 H2) (x : But2 a c H H1) : But2 a c H H2 := fun b o n m h => y b o (x b o n m h)
theorem But2.transL (y : But a H1 H2) (x : But2 a c H H1) : But2 a c H H2 := fun b o n m h => y b o n (x b o n m h)
theorem But2.transR (y : But c H1 H2) (x : But2 a c H H1) : But2 a c H H2 := fun b o n m h => y b o m (x b o n m h)
theorem But2.newT (hp : H1 p = none) (x : But2 a c H H1) : But2 a c H (L2.upd H1 p o) := fun b u n m h => by
  have h1 := x b u n m h
  rw [upd_ne (ne_of_none h1 hp)]
  exact h1
theorem But2.updL (x : But2 a c H H1) : But2 a c H (L2.upd H1 a o) := fun b u n m h => by
  rw [upd_ne n]
  exact x b u n m h
theorem But2.updR (x : But2 a c H H1) : But2 a c H (L2.upd H1 c o) := fun b u n m h => by
  rw [upd_ne m]
  exact x b u n m h
theorem lk_but2 (e : But2 a c H H') (n : b ≠ a) (m : b ≠ c) (h : H b = some o) : H' b = some o := e b o n m h
theorem But2.seq (e : But2 a c H H') (n : b ≠ a) (m : b ≠ c) (h : SqL K H b xs) : SqL K H' b xs := by
  rcases h with (h | ⟨o, h⟩) | h
  · exact .inl (.inl (e _ _ n m h))
  · exact .inl (.inr ⟨o, e _ _ n m h⟩)
  · exact .inr h
theorem But2.seqT (e : But2 a c H H') (n : b ≠ a) (m : b ≠ c) (h : SqT K H b xs) : SqT K H' b xs := by
  rcases h with (h | ⟨o, h⟩) | h
  · exact .inl (.inl (e _ _ n m h))
  · exact .inl (.inr ⟨o, e _ _ n m h⟩)
  · exact .inr h
theorem But2.free (hn : H' p = none) (e : But2 a c H H') (ha : H' a = some o) (hc : H' c = some u) : H p = none := by
  cases h : H p with
  | none => rfl
  | some v =>
    by_cases hp : p = a
    · rw [hp, ha] at hn
      cases hn
    · by_cases hq : p = c
      · rw [hq, hc] at hn
        cases hn
      · rw [e p v hp hq h] at hn
        cases hn
theorem But2.mut (hp : H p = none) (x : But2 a c H H1) : But2 a c H (L2.upd H1 p o) := fun b u n m h => by
  have e : b ≠ p := ne_of_none h hp
  exact lk_upd e (x b u n m h)
theorem But2.butT (y : But p H1 H2) (hp : H p = none) (x : But2 a c H H1) : But2 a c H H2 := fun b u n m h => y b u (ne_of_none h hp) (x b u n m h)
theorem Same.but2T {H0 : Hp} (x : But2 a c H H1) (ha : H0 a = none) (hc : H0 c = none) (e : Same H0 H) : Same H0 H1 := fun b u h => x b u (ne_of_none h ha) (ne_of_none h hc) (e b u h)
end
/-! ### len, by its number -/
def LenA (K : PySem.W.Frag) (H : Hp) (p : Addr) (n : Nat) : Prop := (∃ ys, SqL K H p ys ∧ ys.length = n) ∨ ∃ ys, SqT K H p ys ∧ ys.length = n
def rLenA (K : PySem.W.Frag) : List V → Hp → VK → Prop := fun xs H Q => ∃ p n, xs = [V.ref p] ∧ LenA K H p n ∧ Q (.int n) H
theorem call_lenA {X : Cx} : CallR X (.builtin "len") (rLenA X.K) := by
  intro pins s σ H xs us Q I r h
  obtain ⟨p, n, e, hl, q⟩ := h
  refine call_len_seq pins s σ H xs us Q I r ?_
  rcases hl with ⟨ys, h1, h2⟩ | ⟨ys, h1, h2⟩
  · exact ⟨p, ys, e, .inl h1, by rw [h2]; exact q⟩
  · exact ⟨p, ys, e, .inr h1, by rw [h2]; exact q⟩
section
variable {σ : L2.St} {H : Hp} {Q : VK} {K : PySem.W.Frag} {p r : Addr} {xs ys : List V} {ms ns : List Int} {i j k : Int} {n : Nat}
theorem i_lenA (h : LenA K H p n) (q : Q (.int n) H) : rLenA K [.ref p] H Q := ⟨p, n, rfl, h, q⟩
theorem lenA_map {α : Type} {f : α → V} {zs : List α} (h : SqL K H p (zs.map f)) : LenA K H p zs.length := .inl ⟨_, h, List.length_map _⟩
theorem lenA_L (h : SqL K H p xs) : LenA K H p xs.length := .inl ⟨_, h, rfl⟩
theorem lenA_T (h : SqT K H p xs) : LenA K H p xs.length := .inr ⟨_, h, rfl⟩
theorem i_ixM (h : SqL K H p (ms.map V.int)) (h0 : 0 ≤ i) (h1 : i < ms.length) (q : ∀ z, ms[i.toNat]? = some z → Q (.int z) H) : rIxL K (.ref p) (.int i) H Q := by
  obtain ⟨v, e1, e2⟩ := at_lt (xs := ms.map V.int) h0 (by rw [List.length_map]; exact h1)
  obtain ⟨z, e, e3⟩ := ints_at e2
  subst e
  exact i_ixL h e1 (q z e3)
theorem i_ixG (h : SqL K H p xs) (h0 : 0 ≤ i) (h1 : i < xs.length) (q : ∀ v, xs[i.toNat]? = some v → Q v H) : rIxL K (.ref p) (.int i) H Q := by
  obtain ⟨v, e1, e2⟩ := at_lt h0 h1
  exact i_ixL h e1 (q v e2)
theorem i_sum (h : SqL K H p (ns.map V.int)) (q : Q (.int ns.sum) H) : rSum K [.ref p] H Q := ⟨p, ns, rfl, h, q⟩
theorem i_slToM (h : SqL K H p (ms.map V.int)) (h0 : 0 ≤ k) (q : ∀ p', H p' = none → Q (.ref p') (upd H p' (.lst ((ms.take k.toNat).map V.int)))) : rSlL K (.ref p) none (some k) H Q := i_slTo h h0 (by rw [← List.map_take]; exact q)
theorem i_slFromM (h : SqL K H p (ms.map V.int)) (h0 : 0 ≤ k) (q : ∀ p', H p' = none → Q (.ref p') (upd H p' (.lst ((ms.drop k.toNat).map V.int)))) : rSlL K (.ref p) (some k) none H Q := i_slFrom h h0 (by rw [← List.map_drop]; exact q)
theorem i_slMidM (h : SqL K H p (ms.map V.int)) (h0 : 0 ≤ j) (h1 : 0 ≤ k) (q : ∀ p', H p' = none → Q (.ref p') (upd H p' (.lst (((ms.drop j.toNat).take (k.toNat - j.toNat)).map V.int)))) : rSlL K (.ref p) (some j) (some k) H Q := i_slMid h h0 h1 (by rw [← List.map_drop, ← List.map_take]; exact q)
theorem i_catM (h1 : H p = some (.lst (ms.map V.int))) (h2 : H r = some (.lst (ns.map V.int))) (hz : ms.length + ns.length ≤ 1000000) (q : ∀ p', H p' = none → Q (.ref p') (upd H p' (.lst ((ms ++ ns).map V.int)))) : rCat (.ref p) (.ref r) H Q :=
  i_cat h1 h2 (sz4 (by rw [List.length_map, List.length_map]; exact hz)) (by rw [← List.map_append]; exact q)
theorem i_repM {x : Int} (h1 : H p = some (.lst [.int x])) (h2 : 0 ≤ k ∧ k ≤ 1000000) (q : ∀ p', H p' = none → Q (.ref p') (upd H p' (.lst ((List.replicate k.toNat x).map V.int)))) : rRep (.ref p) (.int k) H Q :=
  i_rep1 h1 h2 (by rw [← List.map_replicate]; exact q)
theorem eqvAll_ints : ∀ ms ns : List Int, PyData.eqvAll (ms.map PyData.int) (ns.map PyData.int) = decide (ms = ns)
  | [], [] => by simp [PyData.eqvAll]
  | [], _ :: _ => by simp [PyData.eqvAll]
  | _ :: _, [] => by simp [PyData.eqvAll]
  | m :: ms, n :: ns => by
    rw [List.map_cons, List.map_cons, PyData.eqvAll, eqvAll_ints ms ns, PyData.eqv]
    by_cases h : m = n
    · subst h
      simp
    · simp [h]
theorem canLay_ints : ∀ ms : List Int, PyData.canLayAll0 (ms.map PyData.int) = true
  | [] => by simp [PyData.canLayAll0]
  | m :: ms => by
    rw [List.map_cons, PyData.canLayAll0, canLay_ints ms]
    simp [PyData.canLay0]
theorem depth_ints : ∀ ms : List Int, PyData.depthAll (ms.map PyData.int) ≤ 1
  | [] => by simp [PyData.depthAll]
  | m :: ms => by
    have := depth_ints ms
    rw [List.map_cons, PyData.depthAll]
    simp [PyData.depth]
    omega
theorem dp_ints : ∀ ms : List Int, DpAll K H (ms.map V.int) (ms.map PyData.int)
  | [] => .nil
  | m :: ms => .cons (.int m) (dp_ints ms)
theorem shaped_ints (ms : List Int) : SeqAt.shaped (.list (ms.map PyData.int)) = true := by
  unfold SeqAt.shaped
  have h1 := canLay_ints ms
  have h2 := depth_ints ms
  simp [PyData.canLay0, PyData.depth, h1]
  omega
theorem i_eqLI (h1 : SqL K H p (ms.map V.int)) (h2 : SqL K H r (ns.map V.int)) (q : Q (.bl (decide (ms = ns))) H) : rEqD K (.ref p) (.ref r) H Q :=
  ⟨_, _, .lst h1 (dp_ints ms), .lst h2 (dp_ints ns), shaped_ints ms, shaped_ints ns, by rw [PyData.eqv, eqvAll_ints]; exact q⟩
theorem i_neLI (h1 : SqL K H p (ms.map V.int)) (h2 : SqL K H r (ns.map V.int)) (q : Q (.bl (!decide (ms = ns))) H) : rNeD K (.ref p) (.ref r) H Q :=
  ⟨_, _, .lst h1 (dp_ints ms), .lst h2 (dp_ints ns), shaped_ints ms, shaped_ints ns, by rw [PyData.eqv, eqvAll_ints]; exact q⟩
theorem i_eqL0 (h1 : SqL K H p (ms.map V.int)) (h2 : SqL K H r []) (q : Q (.bl (decide (ms = []))) H) : rEqD K (.ref p) (.ref r) H Q := i_eqLI (ns := []) h1 h2 q
theorem i_eq00 (h1 : SqL K H p []) (h2 : SqL K H r []) (q : Q (.bl true) H) : rEqD K (.ref p) (.ref r) H Q := i_eqLI (ms := []) (ns := []) h1 h2 (by simpa using q)
theorem i_isn {P : Prop} (q : P) : V.non = V.non ∧ P := ⟨rfl, q⟩
theorem i_tru {P : Prop} (q : P) : True ∧ P := ⟨trivial, q⟩
theorem i_glst {m : Nat} {t : TGs} {Z : L2.St → Hp → Prop} (h : SqL K H p xs) (e : xs.length = m) (q : t xs σ H Z) : gLst K m t (.ref p) σ H Z := ⟨p, xs, rfl, h, e, q⟩
end
/-! ### comprehensions -/
section
variable {σ : L2.St} {H H1 : Hp} {Q : VK} {K : PySem.W.Frag} {D a : Addr} {wi : TI} {g : TG} {tt : TT} {te : TE} {vs : List Nat} {lo : Int} {n : Nat} {xs : List V} {Qd : Hp → Prop}
theorem i_lc (h : wi σ H fun J H1 => ∀ D, H1 D = none → ∃ W : Nat → Nat → Hp → Prop, (∃ m, W 0 m (upd H1 D (.lst []))) ∧ ∀ i m H, W i m H →
  (J.stop i H ∧ Q (.ref D) H) ∨ (J.go i H ∧ ∃ Nx : Hp → Prop, (∀ H', Nx H' → ∃ m', m' < m ∧ W (i + 1) m' H') ∧ ∀ x H', J.yld i H x H' → g x (wipe σ vs) H' fun σ2 H2 => wipe σ2 vs = wipe σ vs ∧ tt σ2 H2 fun b H3 =>
    if b = true then te σ2 H3 fun y H4 => ∃ acc, H4 D = some (.lst acc) ∧ acc.length < sizeLine ∧ Nx (upd H4 D (.lst (acc ++ [y]))) else Nx H3)) : tLc wi g tt te vs σ H Q := h
/-- the turn of a comprehension: what its target, test and element come to; Z is wanted of a kept element, Y where the test says no -/
def LcTurn (g : TG) (tt : TT) (te : TE) (vs : List Nat) (σ : L2.St) (x : V) (H : Hp) (Z : VK) (Y : Hp → Prop) : Prop :=
  g x (wipe σ vs) H fun σ2 H2 => wipe σ2 vs = wipe σ vs ∧ tt σ2 H2 fun b H3 => if b = true then te σ2 H3 Z else Y H3
/-- over a range; P: what holds behind i turns of the list made so far -/
theorem lcR (P : Nat → List V → Hp → Prop) (nD : H1 D = none) (h0 : P 0 [] (upd H1 D (.lst [])))
    (hs : ∀ i acc H (Z : VK) (Y : Hp → Prop), i < n → P i acc H → H D = some (.lst acc) → (∀ y H4, H4 D = some (.lst acc) → acc.length < sizeLine → P (i + 1) (acc ++ [y]) (upd H4 D (.lst (acc ++ [y]))) → Z y H4) →
      (∀ H4, H4 D = some (.lst acc) → P (i + 1) acc H4 → Y H4) → LcTurn g tt te vs σ (.int (lo + i)) H Z Y) (hd : ∀ acc H, P n acc H → H D = some (.lst acc) → Qd H) :
    ∃ W : Nat → Nat → Hp → Prop, (∃ m, W 0 m (upd H1 D (.lst []))) ∧ ∀ i m H, W i m H →
      ((Itr lo n).stop i H ∧ Qd H) ∨ ((Itr lo n).go i H ∧ ∃ Nx : Hp → Prop, (∀ H', Nx H' → ∃ m', m' < m ∧ W (i + 1) m' H') ∧ ∀ x H', (Itr lo n).yld i H x H' → g x (wipe σ vs) H' fun σ2 H2 => wipe σ2 vs = wipe σ vs ∧ tt σ2 H2 fun b H3 =>
        if b = true then te σ2 H3 fun y H4 => ∃ acc, H4 D = some (.lst acc) ∧ acc.length < sizeLine ∧ Nx (upd H4 D (.lst (acc ++ [y]))) else Nx H3) := by
  refine lc_range (fun i H => ∃ acc, P i acc H ∧ H D = some (.lst acc)) ⟨[], h0, upd_same⟩ (fun i H hi hp => ?_) (fun H hp => ?_)
  · obtain ⟨acc, hp, ha⟩ := hp
    exact hs i acc H _ _ hi hp ha (fun y H4 h1 h2 h3 => ⟨acc, h1, h2, _, h3, upd_same⟩) fun H4 h1 h2 => ⟨acc, h2, h1⟩
  · obtain ⟨acc, hp, ha⟩ := hp
    exact hd acc H hp ha
theorem lcL (P : Nat → List V → Hp → Prop) (nD : H1 D = none) (h0 : P 0 [] (upd H1 D (.lst []))) (hl : ∀ i acc H, i ≤ xs.length → P i acc H → H D = some (.lst acc) → SqL K H a xs)
    (hs : ∀ i x acc H (Z : VK) (Y : Hp → Prop), xs[i]? = some x → P i acc H → H D = some (.lst acc) → (∀ y H4, H4 D = some (.lst acc) → acc.length < sizeLine → P (i + 1) (acc ++ [y]) (upd H4 D (.lst (acc ++ [y]))) → Z y H4) →
      (∀ H4, H4 D = some (.lst acc) → P (i + 1) acc H4 → Y H4) → LcTurn g tt te vs σ x H Z Y) (hd : ∀ acc H, P xs.length acc H → H D = some (.lst acc) → Qd H) :
    ∃ W : Nat → Nat → Hp → Prop, (∃ m, W 0 m (upd H1 D (.lst []))) ∧ ∀ i m H, W i m H →
      ((Itl K a).stop i H ∧ Qd H) ∨ ((Itl K a).go i H ∧ ∃ Nx : Hp → Prop, (∀ H', Nx H' → ∃ m', m' < m ∧ W (i + 1) m' H') ∧ ∀ x H', (Itl K a).yld i H x H' → g x (wipe σ vs) H' fun σ2 H2 => wipe σ2 vs = wipe σ vs ∧ tt σ2 H2 fun b H3 =>
        if b = true then te σ2 H3 fun y H4 => ∃ acc, H4 D = some (.lst acc) ∧ acc.length < sizeLine ∧ Nx (upd H4 D (.lst (acc ++ [y]))) else Nx H3) := by
  refine lc_list (xs := xs) (fun i H => ∃ acc, P i acc H ∧ H D = some (.lst acc)) ⟨[], h0, upd_same⟩ (fun i H hi hp => ?_) (fun i x H hi hp => ?_) (fun H hp => ?_)
  · obtain ⟨acc, hp, ha⟩ := hp
    exact hl i acc H hi hp ha
  · obtain ⟨acc, hp, ha⟩ := hp
    exact hs i x acc H _ _ hi hp ha (fun y H4 h1 h2 h3 => ⟨acc, h1, h2, _, h3, upd_same⟩) fun H4 h1 h2 => ⟨acc, h2, h1⟩
  · obtain ⟨acc, hp, ha⟩ := hp
    exact hd acc H hp ha
/-- whole numbers, one for each turn -/
theorem lcR_int (f : Nat → Int) (nD : H1 D = none) (hn : n ≤ 1000000)
    (hs : ∀ i H (Z : VK) (Y : Hp → Prop), i < n → Same H1 H → (∀ H4, Same H H4 → Z (.int (f i)) H4) → LcTurn g tt te vs σ (.int (lo + i)) H Z Y)
    (hd : ∀ H, Same H1 H → H D = some (.lst (((List.range n).map f).map V.int)) → Qd H) :
    ∃ W : Nat → Nat → Hp → Prop, (∃ m, W 0 m (upd H1 D (.lst []))) ∧ ∀ i m H, W i m H →
      ((Itr lo n).stop i H ∧ Qd H) ∨ ((Itr lo n).go i H ∧ ∃ Nx : Hp → Prop, (∀ H', Nx H' → ∃ m', m' < m ∧ W (i + 1) m' H') ∧ ∀ x H', (Itr lo n).yld i H x H' → g x (wipe σ vs) H' fun σ2 H2 => wipe σ2 vs = wipe σ vs ∧ tt σ2 H2 fun b H3 =>
        if b = true then te σ2 H3 fun y H4 => ∃ acc, H4 D = some (.lst acc) ∧ acc.length < sizeLine ∧ Nx (upd H4 D (.lst (acc ++ [y]))) else Nx H3) := by
  refine lcR (fun i acc H => i ≤ n ∧ acc = ((List.range i).map f).map V.int ∧ Same H1 H) nD ⟨Nat.zero_le _, rfl, Same.new nD⟩ ?_ ?_
  · rintro i acc H Z Y hi ⟨_, rfl, hsame⟩ ha hz _
    refine hs i H Z Y hi hsame fun H4 h4 => hz _ H4 (h4 _ _ ha) (sz4' (by simp; omega)) ⟨hi, ?_, Same.mut (hsame.trans h4) nD⟩
    rw [List.range_succ, List.map_append, List.map_append]
    rfl
  · rintro acc H ⟨_, rfl, hsame⟩ ha
    exact hd H hsame ha
theorem lcL_int (f : Nat → Int) (nD : H1 D = none) (hn : xs.length ≤ 1000000) (hx : SqL K H1 a xs)
    (hs : ∀ i x H (Z : VK) (Y : Hp → Prop), xs[i]? = some x → Same H1 H → (∀ H4, Same H H4 → Z (.int (f i)) H4) → LcTurn g tt te vs σ x H Z Y)
    (hd : ∀ H, Same H1 H → H D = some (.lst (((List.range xs.length).map f).map V.int)) → Qd H) :
    ∃ W : Nat → Nat → Hp → Prop, (∃ m, W 0 m (upd H1 D (.lst []))) ∧ ∀ i m H, W i m H →
      ((Itl K a).stop i H ∧ Qd H) ∨ ((Itl K a).go i H ∧ ∃ Nx : Hp → Prop, (∀ H', Nx H' → ∃ m', m' < m ∧ W (i + 1) m' H') ∧ ∀ x H', (Itl K a).yld i H x H' → g x (wipe σ vs) H' fun σ2 H2 => wipe σ2 vs = wipe σ vs ∧ tt σ2 H2 fun b H3 =>
        if b = true then te σ2 H3 fun y H4 => ∃ acc, H4 D = some (.lst acc) ∧ acc.length < sizeLine ∧ Nx (upd H4 D (.lst (acc ++ [y]))) else Nx H3) := by
  refine lcL (xs := xs) (fun i acc H => i ≤ xs.length ∧ acc = ((List.range i).map f).map V.int ∧ Same H1 H) nD ⟨Nat.zero_le _, rfl, Same.new nD⟩ (fun i acc H _ hp _ => hp.2.2.seq hx) ?_ ?_
  · rintro i x acc H Z Y hi ⟨_, rfl, hsame⟩ ha hz _
    have hi' : i < xs.length := (List.getElem?_eq_some_iff.mp hi).1
    refine hs i x H Z Y hi hsame fun H4 h4 => hz _ H4 (h4 _ _ ha) (sz4' (by simp; omega)) ⟨hi', ?_, Same.mut (hsame.trans h4) nD⟩
    rw [List.range_succ, List.map_append, List.map_append]
    rfl
  · rintro acc H ⟨_, rfl, hsame⟩ ha
    exact hd H hsame ha
/-- over a range, kept where b says so -/
theorem lcR_fil (b : Nat → Bool) (f : Nat → Int) (nD : H1 D = none) (hn : n ≤ 1000000)
    (hs : ∀ i H (Z : VK) (Y : Hp → Prop), i < n → Same H1 H → (b i = true → ∀ H4, Same H H4 → Z (.int (f i)) H4) → (b i = false → ∀ H4, Same H H4 → Y H4) → LcTurn g tt te vs σ (.int (lo + i)) H Z Y)
    (hd : ∀ H, Same H1 H → H D = some (.lst ((((List.range n).filter b).map f).map V.int)) → Qd H) :
    ∃ W : Nat → Nat → Hp → Prop, (∃ m, W 0 m (upd H1 D (.lst []))) ∧ ∀ i m H, W i m H →
      ((Itr lo n).stop i H ∧ Qd H) ∨ ((Itr lo n).go i H ∧ ∃ Nx : Hp → Prop, (∀ H', Nx H' → ∃ m', m' < m ∧ W (i + 1) m' H') ∧ ∀ x H', (Itr lo n).yld i H x H' → g x (wipe σ vs) H' fun σ2 H2 => wipe σ2 vs = wipe σ vs ∧ tt σ2 H2 fun b H3 =>
        if b = true then te σ2 H3 fun y H4 => ∃ acc, H4 D = some (.lst acc) ∧ acc.length < sizeLine ∧ Nx (upd H4 D (.lst (acc ++ [y]))) else Nx H3) := by
  refine lcR (fun i acc H => i ≤ n ∧ acc = (((List.range i).filter b).map f).map V.int ∧ Same H1 H) nD ⟨Nat.zero_le _, rfl, Same.new nD⟩ ?_ ?_
  · rintro i acc H Z Y hi ⟨_, rfl, hsame⟩ ha hz hy
    refine hs i H Z Y hi hsame (fun hb H4 h4 => hz _ H4 (h4 _ _ ha) (sz4' ?_) ⟨hi, ?_, Same.mut (hsame.trans h4) nD⟩) (fun hb H4 h4 => hy H4 (h4 _ _ ha) ⟨hi, ?_, hsame.trans h4⟩)
    · have := List.length_filter_le b (List.range i)
      rw [List.length_range] at this
      simp only [List.length_map]
      omega
    · rw [List.range_succ, List.filter_append, List.map_append, List.map_append, List.filter_cons, if_pos hb]
      rfl
    · rw [List.range_succ, List.filter_append, List.map_append, List.map_append, List.filter_cons, if_neg (by rw [hb]; exact Bool.false_ne_true)]
      simp
  · rintro acc H ⟨_, rfl, hsame⟩ ha
    exact hd H hsame ha
/-- over a list, nothing kept -/
theorem lcL_nil (nD : H1 D = none) (hx : SqL K H1 a xs)
    (hs : ∀ (i : Nat) (x : V) H (Z : VK) (Y : Hp → Prop), xs[i]? = some x → Same H1 H → (∀ H4, Same H H4 → Y H4) → LcTurn g tt te vs σ x H Z Y)
    (hd : ∀ H, Same H1 H → H D = some (.lst []) → Qd H) :
    ∃ W : Nat → Nat → Hp → Prop, (∃ m, W 0 m (upd H1 D (.lst []))) ∧ ∀ i m H, W i m H →
      ((Itl K a).stop i H ∧ Qd H) ∨ ((Itl K a).go i H ∧ ∃ Nx : Hp → Prop, (∀ H', Nx H' → ∃ m', m' < m ∧ W (i + 1) m' H') ∧ ∀ x H', (Itl K a).yld i H x H' → g x (wipe σ vs) H' fun σ2 H2 => wipe σ2 vs = wipe σ vs ∧ tt σ2 H2 fun b H3 =>
        if b = true then te σ2 H3 fun y H4 => ∃ acc, H4 D = some (.lst acc) ∧ acc.length < sizeLine ∧ Nx (upd H4 D (.lst (acc ++ [y]))) else Nx H3) := by
  refine lcL (xs := xs) (fun i acc H => acc = [] ∧ Same H1 H) nD ⟨rfl, Same.new nD⟩ (fun i acc H _ hp _ => hp.2.seq hx) ?_ ?_
  · rintro i x acc H Z Y hi ⟨rfl, hsame⟩ ha _ hy
    exact hs i x H Z Y hi hsame fun H4 h4 => hy H4 (h4 _ _ ha) ⟨rfl, hsame.trans h4⟩
  · rintro acc H ⟨rfl, hsame⟩ ha
    exact hd H hsame ha
/-- over a list, a value for each, from the turn's number -/
theorem lcL_v (f : Nat → V) (nD : H1 D = none) (hn : xs.length ≤ 1000000) (hx : SqL K H1 a xs)
    (hs : ∀ (i : Nat) (x : V) H (Z : VK) (Y : Hp → Prop), xs[i]? = some x → Same H1 H → (∀ H4, Same H H4 → Z (f i) H4) → LcTurn g tt te vs σ x H Z Y)
    (hd : ∀ H, Same H1 H → H D = some (.lst ((List.range xs.length).map f)) → Qd H) :
    ∃ W : Nat → Nat → Hp → Prop, (∃ m, W 0 m (upd H1 D (.lst []))) ∧ ∀ i m H, W i m H →
      ((Itl K a).stop i H ∧ Qd H) ∨ ((Itl K a).go i H ∧ ∃ Nx : Hp → Prop, (∀ H', Nx H' → ∃ m', m' < m ∧ W (i + 1) m' H') ∧ ∀ x H', (Itl K a).yld i H x H' → g x (wipe σ vs) H' fun σ2 H2 => wipe σ2 vs = wipe σ vs ∧ tt σ2 H2 fun b H3 =>
        if b = true then te σ2 H3 fun y H4 => ∃ acc, H4 D = some (.lst acc) ∧ acc.length < sizeLine ∧ Nx (upd H4 D (.lst (acc ++ [y]))) else Nx H3) := by
  refine lcL (xs := xs) (fun i acc H => i ≤ xs.length ∧ acc = (List.range i).map f ∧ Same H1 H) nD ⟨Nat.zero_le _, rfl, Same.new nD⟩ (fun i acc H _ hp _ => hp.2.2.seq hx) ?_ ?_
  · rintro i x acc H Z Y hi ⟨_, rfl, hsame⟩ ha hz _
    have hi' : i < xs.length := (List.getElem?_eq_some_iff.mp hi).1
    refine hs i x H Z Y hi hsame fun H4 h4 => hz _ H4 (h4 _ _ ha) (sz4' (by simp; omega)) ⟨hi', ?_, Same.mut (hsame.trans h4) nD⟩
    rw [List.range_succ, List.map_append]
    rfl
  · rintro acc H ⟨_, rfl, hsame⟩ ha
    exact hd H hsame ha
/-- over a list, truths all true -/
theorem lcL_all (nD : H1 D = none) (hn : xs.length ≤ 1000000) (hx : SqL K H1 a xs)
    (hs : ∀ (i : Nat) (x : V) H (Z : VK) (Y : Hp → Prop), xs[i]? = some x → Same H1 H → (∀ H4, Same H H4 → Z (.bl true) H4) → LcTurn g tt te vs σ x H Z Y)
    (hd : ∀ H, Same H1 H → SqL K H D ((List.replicate xs.length true).map V.bl) → Qd H) :
    ∃ W : Nat → Nat → Hp → Prop, (∃ m, W 0 m (upd H1 D (.lst []))) ∧ ∀ i m H, W i m H →
      ((Itl K a).stop i H ∧ Qd H) ∨ ((Itl K a).go i H ∧ ∃ Nx : Hp → Prop, (∀ H', Nx H' → ∃ m', m' < m ∧ W (i + 1) m' H') ∧ ∀ x H', (Itl K a).yld i H x H' → g x (wipe σ vs) H' fun σ2 H2 => wipe σ2 vs = wipe σ vs ∧ tt σ2 H2 fun b H3 =>
        if b = true then te σ2 H3 fun y H4 => ∃ acc, H4 D = some (.lst acc) ∧ acc.length < sizeLine ∧ Nx (upd H4 D (.lst (acc ++ [y]))) else Nx H3) := by
  refine lcL_v (fun _ => .bl true) nD hn hx hs fun H hs' h => hd H hs' (.of ?_)
  rw [h, List.map_const', List.length_range, List.map_replicate]
theorem i_all {H : Hp} {Q : VK} {p : Addr} {m : Nat} (h : SqL K H p ((List.replicate m true).map V.bl)) (q : Q (.bl true) H) : rAll K [.ref p] H Q := by
  refine ⟨p, _, rfl, h, ?_⟩
  have e : (List.replicate m true).all id = true := by
    rw [List.all_eq_true]
    intro x hx
    rw [(List.mem_replicate.mp hx).2]
    rfl
  rw [e]
  exact q
theorem i_min {H : Hp} {Q : VK} {p : Addr} {ns : List Int} (h : SqL K H p (ns.map V.int)) (h0 : 0 < ns.length) (q : ∀ m, m ∈ ns → (∀ y, y ∈ ns → m ≤ y) → Q (.int m) H) : rMin K [.ref p] H Q := ⟨p, ns, rfl, h, h0, q⟩
theorem i_max {H : Hp} {Q : VK} {p : Addr} {ns : List Int} (h : SqL K H p (ns.map V.int)) (h0 : 0 < ns.length) (q : ∀ m, m ∈ ns → (∀ y, y ∈ ns → y ≤ m) → Q (.int m) H) : rMax K [.ref p] H Q := ⟨p, ns, rfl, h, h0, q⟩
theorem i_yes {P : Bool → Hp → Prop} (q : P true H) : tYes σ H P := q
theorem i_wipe {A : Prop} {σ2 : L2.St} (e : wipe σ2 vs = wipe σ vs) (q : A) : wipe σ2 vs = wipe σ vs ∧ A := ⟨e, q⟩
theorem i_turn {x : V} {Z : VK} {Y : Hp → Prop} {σ1 : L2.St} (e : wipe σ vs = σ1) (h : g x σ1 H fun σ2 H2 => wipe σ2 vs = σ1 ∧ tt σ2 H2 fun b H3 => if b = true then te σ2 H3 Z else Y H3) : LcTurn g tt te vs σ x H Z Y := by
  subst e
  exact h
theorem i_wiped {A : Prop} {σ1 σ2 : L2.St} (e : wipe σ2 vs = σ1) (q : A) : wipe σ2 vs = σ1 ∧ A := ⟨e, q⟩
end
theorem ixN_nn {n : Nat} {i : Int} (h0 : 0 ≤ i) (h1 : i < n) : ixN n i = some i.toNat := by
  unfold ixN
  rw [if_pos h0, if_pos h1]
theorem ixN_last {n : Nat} (h : 0 < n) : ixN n (-1) = some (n - 1) := by
  unfold ixN
  rw [if_neg (by decide), if_pos (by omega)]
  congr 1
  omega
theorem i_ixLast {K : PySem.W.Frag} {H : Hp} {p : Addr} {ms : List Int} {Q : VK} (h : SqL K H p (ms.map V.int)) (h1 : 0 < ms.length) (q : ∀ z, ms[ms.length - 1]? = some z → Q (.int z) H) : rIxL K (.ref p) (.int (-1)) H Q := by
  have e : ms[ms.length - 1]? = some ms[ms.length - 1] := List.getElem?_eq_getElem (by omega)
  refine ⟨p, _, -1, .int ms[ms.length - 1], rfl, rfl, h, ?_, q _ e⟩
  unfold atI
  rw [List.length_map, ixN_last h1, Option.bind_some, List.getElem?_map, e]
  rfl
theorem cut_init {xs : List V} : cutV xs none (some (-1)) = xs.dropLast := by
  unfold cutV
  rw [HT.sIx_none, List.drop_zero, Nat.sub_zero]
  have e : HT.sIx xs.length xs.length (some (-1)) = xs.length - 1 := by
    unfold HT.sIx
    simp
    omega
  rw [e, List.dropLast_eq_take]
theorem i_slInitM {K : PySem.W.Frag} {H : Hp} {p : Addr} {ms : List Int} {Q : VK} (h : SqL K H p (ms.map V.int)) (q : ∀ p', H p' = none → Q (.ref p') (upd H p' (.lst (ms.dropLast.map V.int)))) : rSlL K (.ref p) none (some (-1)) H Q := ⟨p, _, rfl, h, by rw [cut_init, ← List.map_dropLast]; exact q⟩
theorem i_setLast {H : Hp} {p : Addr} {ms : List Int} {z : Int} {Z : Hp → Prop} (h : H p = some (.lst (ms.map V.int))) (h1 : 0 < ms.length) (q : Z (upd H p (.lst ((ms.set (ms.length - 1) z).map V.int)))) : rSetL (.ref p) (.int (-1)) (.int z) H Z :=
  ⟨p, _, -1, ms.length - 1, rfl, rfl, h, by rw [List.length_map]; exact ixN_last h1, by rw [← List.map_set]; exact q⟩
theorem i_catM1 {H : Hp} {p r : Addr} {ms : List Int} {y : Int} {Q : VK} (h1 : H p = some (.lst (ms.map V.int))) (h2 : H r = some (.lst [.int y])) (hz : ms.length + 1 ≤ 1000000) (q : ∀ p', H p' = none → Q (.ref p') (upd H p' (.lst ((ms ++ [y]).map V.int)))) : rCat (.ref p) (.ref r) H Q := i_catM (ns := [y]) h1 h2 hz q
theorem fil_last (b : Nat → Bool) : ∀ n, (List.range n).filter b = [] ∨ ∃ k, k < n ∧ b k = true ∧ (∀ j, k < j → j < n → b j = false) ∧ ((List.range n).filter b)[((List.range n).filter b).length - 1]? = some k
  | 0 => .inl rfl
  | n + 1 => by
    rw [List.range_succ, List.filter_append]
    cases e : b n with
    | true =>
      refine .inr ⟨n, by omega, e, fun j h1 h2 => by omega, ?_⟩
      have : List.filter b [n] = [n] := by simp [e]
      rw [this, List.length_append]
      simp
    | false =>
      have : List.filter b [n] = [] := by simp [e]
      rw [this, List.append_nil]
      rcases fil_last b n with h | ⟨k, h1, h2, h3, h4⟩
      · exact .inl h
      · refine .inr ⟨k, by omega, h2, fun j g1 g2 => ?_, h4⟩
        by_cases c : j = n
        · subst c; exact e
        · exact h3 j g1 (by omega)
theorem fil_none {b : Nat → Bool} {n : Nat} (h : (List.range n).filter b = []) {j : Nat} (hj : j < n) : b j = false := by
  have := List.filter_eq_nil_iff.mp h j (List.mem_range.mpr hj)
  simpa using this
theorem i_reverse {H : Hp} {p : Addr} {ms : List Int} {Q : VK} (h : H p = some (.lst (ms.map V.int))) (q : Q .non (upd H p (.lst (ms.reverse.map V.int)))) : rReverse (.ref p) [] H Q := ⟨p, _, rfl, rfl, h, by rw [← List.map_reverse]; exact q⟩
theorem i_ne00 {K : PySem.W.Frag} {H : Hp} {Q : VK} {p r : Addr} (h1 : SqL K H p []) (h2 : SqL K H r []) (q : Q (.bl false) H) : rNeD K (.ref p) (.ref r) H Q := i_neLI (ms := []) (ns := []) h1 h2 (by simpa using q)
theorem i_min2 {K : Prop} {R : Int → Int → Prop} {i j : Int} (q : R i j) : ∃ i' j', [V.int i, V.int j] = [.int i', .int j'] ∧ R i' j' := ⟨i, j, rfl, q⟩
theorem i_setM {H : Hp} {p : Addr} {ms : List Int} {i z : Int} {Z : Hp → Prop} (h : H p = some (.lst (ms.map V.int))) (h0 : 0 ≤ i) (h1 : i < ms.length) (q : Z (upd H p (.lst ((ms.set i.toNat z).map V.int)))) : rSetL (.ref p) (.int i) (.int z) H Z :=
  ⟨p, _, i, i.toNat, rfl, rfl, h, ixN_nn h0 (by rw [List.length_map]; exact h1), by rw [← List.map_set]; exact q⟩
/-! ### the rules that name the written part, K told -/
def rListOf (K : PySem.W.Frag) : List V → Hp → VK → Prop := fun xs H Q => ∃ p ys, xs = [V.ref p] ∧ (SqL K H p ys ∨ SqT K H p ys) ∧ ∀ l, H l = none → Q (.ref l) (upd H l (.lst ys))
def rTupleOf (K : PySem.W.Frag) : List V → Hp → VK → Prop := fun xs H Q => ∃ p ys, xs = [V.ref p] ∧ ((SqL K H p ys ∧ ∀ l, H l = none → Q (.ref l) (upd H l (.tup ys))) ∨ (SqT K H p ys ∧ Q (.ref p) H))
section
variable {X : Cx} (K : PySem.W.Frag) (e : X.K = K)
include e
theorem sl_listK : SlR X (rSlL K) := by subst e; exact sl_list
theorem sl_tupK : SlR X (rSlA K) := by subst e; exact sl_tupA
theorem ix_listK : IxR X (rIxL K) := by subst e; exact ix_list
theorem ix_tupK : IxR X (rIxT K) := by subst e; exact ix_tup
theorem ix_seqK : IxR X (rIx K) := by subst e; exact ix_seq
theorem call_lenK : CallR X (.builtin "len") (rLenA K) := by subst e; exact call_lenA
theorem cr_sumK (hc : X.calm = true) : CallR X (.builtin "sum") (rSum K) := by subst e; exact cr_sum hc
theorem cr_minK (hc : X.calm = true) : CallR X (.builtin "min") (rMin K) := by subst e; exact cr_min hc
theorem cr_maxK (hc : X.calm = true) : CallR X (.builtin "max") (rMax K) := by subst e; exact cr_max hc
theorem cr_anyK (hc : X.calm = true) : CallR X (.builtin "any") (rAny K) := by subst e; exact cr_any hc
theorem cr_allK (hc : X.calm = true) : CallR X (.builtin "all") (rAll K) := by subst e; exact cr_all hc
theorem call_isiK' : CallR X (.builtin "isinstance") (rIsi K) := by subst e; exact call_isi
theorem call_listK : CallR X (.type "list") (rListOf K) := by subst e; exact call_list_of
theorem call_tupleK : CallR X (.type "tuple") (rTupleOf K) := by subst e; exact call_tuple_of
theorem op_eqDK (hu : X.A.units + 64 < cLine) : OpR X (compareOp .Eq) (rEqD K) := by subst e; exact op_eqD hu
theorem op_neDK (hu : X.A.units + 64 < cLine) : OpR X (compareOp .NotEq) (rNeD K) := by subst e; exact op_neD hu
theorem op_ltTK (hu : X.A.units < cLine) : OpR X (compareOp .Lt) (rLtT K) := by subst e; exact op_ltT hu
theorem op_catTK : OpR X (binaryOp .Add) (rCatT K) := by subst e; exact op_catT
theorem op_inK : OpR X (compareOp .In) (rIn K false) := by subst e; exact op_in_seq
theorem op_notInK : OpR X (compareOp .NotIn) (rIn K true) := by subst e; exact op_notIn_seq
theorem pi_listK {tg l : Expr} {tl : TE} (hl : PE X l tl) : PI X tg l (iList K tl) := by subst e; exact pi_list hl
theorem pi_tupK {tg l : Expr} {tl : TE} (hl : PE X l tl) : PI X tg l (iTup K tl) := by subst e; exact pi_tup hl
theorem pg_tupK {es : List Expr} {k : Nat} {t : TGs} {pos : Pos} (n : Nat) (hc : X.calm = true) (h : PGs X es t) (hn : (assignEach es X.env).length = n := by rfl) (hst : (assignEach es X.env).findIdx? (·.1) = none := by rfl) : PG X (.Tuple es k pos) (gTup K n t) := by subst e; exact pg_tup hc h hn hst
theorem pg_lstK {es : List Expr} {k : Nat} {t : TGs} {pos : Pos} (n : Nat) (hc : X.calm = true) (h : PGs X es t) (hn : (assignEach es X.env).length = n := by rfl) (hst : (assignEach es X.env).findIdx? (·.1) = none := by rfl) : PG X (.Tuple es k pos) (gLst K n t) := by subst e; exact pg_lst hc h hn hst
end
section
variable {H : Hp} {Q : VK} {K : PySem.W.Frag} {p : Addr} {xs : List V}
theorem i_listOf (h : SqL K H p xs) (q : ∀ l, H l = none → Q (.ref l) (upd H l (.lst xs))) : rListOf K [.ref p] H Q := ⟨p, xs, rfl, .inl h, q⟩
theorem i_listOfT (h : SqT K H p xs) (q : ∀ l, H l = none → Q (.ref l) (upd H l (.lst xs))) : rListOf K [.ref p] H Q := ⟨p, xs, rfl, .inr h, q⟩
end
theorem wipe_one {σ σ1 : L2.St} {k : Nat} (e : List.set σ k none = σ1) : wipe σ [k] = σ1 := e
theorem wipe_two {σ σ1 σ2 : L2.St} {j k : Nat} (e : List.set σ k none = σ1) (e2 : List.set σ1 j none = σ2) : wipe σ [j, k] = σ2 := by
  show List.set (List.set σ k none) j none = σ2
  rw [e, e2]
theorem wipe_three {σ σ1 σ2 σ3 : L2.St} {i j k : Nat} (e : List.set σ k none = σ1) (e2 : List.set σ1 j none = σ2) (e3 : List.set σ2 i none = σ3) : wipe σ [i, j, k] = σ3 := by
  show List.set (List.set (List.set σ k none) j none) i none = σ3
  rw [e, e2, e3]
/-- the heap is let go of but for what stood at first -/
theorem forget {P : Hp → Prop} {H H1 : Hp} (s : Same H H1) (h : ∀ H', Same H H' → P H') : P H1 := h H1 s
/-- the scope of a comprehension in a comprehension -/
def relS (scope sc : Scope) : Scope := { scope with names := scope.names.map fun (n, k) => if (k == .free && sc.kind == .function && sc.names.lookup n == some .cell) then (n, .cell) else (n, k) }
/-! ### a slot set, by its number -/
theorem set_n0 {α : Type} {y x0 : α} {r : List α} : List.set (x0 :: r) 0 y = y :: r := rfl
theorem set_n1 {α : Type} {y x0 x1 : α} {r : List α} : List.set (x0 :: x1 :: r) 1 y = x0 :: y :: r := rfl
theorem set_n2 {α : Type} {y x0 x1 x2 : α} {r : List α} : List.set (x0 :: x1 :: x2 :: r) 2 y = x0 :: x1 :: y :: r := rfl
theorem set_n3 {α : Type} {y x0 x1 x2 x3 : α} {r : List α} : List.set (x0 :: x1 :: x2 :: x3 :: r) 3 y = x0 :: x1 :: x2 :: y :: r := rfl
theorem set_n4 {α : Type} {y x0 x1 x2 x3 x4 : α} {r : List α} : List.set (x0 :: x1 :: x2 :: x3 :: x4 :: r) 4 y = x0 :: x1 :: x2 :: x3 :: y :: r := rfl
theorem set_n5 {α : Type} {y x0 x1 x2 x3 x4 x5 : α} {r : List α} : List.set (x0 :: x1 :: x2 :: x3 :: x4 :: x5 :: r) 5 y = x0 :: x1 :: x2 :: x3 :: x4 :: y :: r := rfl
theorem set_n6 {α : Type} {y x0 x1 x2 x3 x4 x5 x6 : α} {r : List α} : List.set (x0 :: x1 :: x2 :: x3 :: x4 :: x5 :: x6 :: r) 6 y = x0 :: x1 :: x2 :: x3 :: x4 :: x5 :: y :: r := rfl
theorem set_n7 {α : Type} {y x0 x1 x2 x3 x4 x5 x6 x7 : α} {r : List α} : List.set (x0 :: x1 :: x2 :: x3 :: x4 :: x5 :: x6 :: x7 :: r) 7 y = x0 :: x1 :: x2 :: x3 :: x4 :: x5 :: x6 :: y :: r := rfl
theorem set_n8 {α : Type} {y x0 x1 x2 x3 x4 x5 x6 x7 x8 : α} {r : List α} : List.set (x0 :: x1 :: x2 :: x3 :: x4 :: x5 :: x6 :: x7 :: x8 :: r) 8 y = x0 :: x1 :: x2 :: x3 :: x4 :: x5 :: x6 :: x7 :: y :: r := rfl
theorem set_n9 {α : Type} {y x0 x1 x2 x3 x4 x5 x6 x7 x8 x9 : α} {r : List α} : List.set (x0 :: x1 :: x2 :: x3 :: x4 :: x5 :: x6 :: x7 :: x8 :: x9 :: r) 9 y = x0 :: x1 :: x2 :: x3 :: x4 :: x5 :: x6 :: x7 :: x8 :: y :: r := rfl
theorem set_n10 {α : Type} {y x0 x1 x2 x3 x4 x5 x6 x7 x8 x9 x10 : α} {r : List α} : List.set (x0 :: x1 :: x2 :: x3 :: x4 :: x5 :: x6 :: x7 :: x8 :: x9 :: x10 :: r) 10 y = x0 :: x1 :: x2 :: x3 :: x4 :: x5 :: x6 :: x7 :: x8 :: x9 :: y :: r := rfl
theorem set_n11 {α : Type} {y x0 x1 x2 x3 x4 x5 x6 x7 x8 x9 x10 x11 : α} {r : List α} : List.set (x0 :: x1 :: x2 :: x3 :: x4 :: x5 :: x6 :: x7 :: x8 :: x9 :: x10 :: x11 :: r) 11 y = x0 :: x1 :: x2 :: x3 :: x4 :: x5 :: x6 :: x7 :: x8 :: x9 :: x10 :: y :: r := rfl
theorem set_n12 {α : Type} {y x0 x1 x2 x3 x4 x5 x6 x7 x8 x9 x10 x11 x12 : α} {r : List α} : List.set (x0 :: x1 :: x2 :: x3 :: x4 :: x5 :: x6 :: x7 :: x8 :: x9 :: x10 :: x11 :: x12 :: r) 12 y = x0 :: x1 :: x2 :: x3 :: x4 :: x5 :: x6 :: x7 :: x8 :: x9 :: x10 :: x11 :: y :: r := rfl
theorem set_n13 {α : Type} {y x0 x1 x2 x3 x4 x5 x6 x7 x8 x9 x10 x11 x12 x13 : α} {r : List α} : List.set (x0 :: x1 :: x2 :: x3 :: x4 :: x5 :: x6 :: x7 :: x8 :: x9 :: x10 :: x11 :: x12 :: x13 :: r) 13 y = x0 :: x1 :: x2 :: x3 :: x4 :: x5 :: x6 :: x7 :: x8 :: x9 :: x10 :: x11 :: x12 :: y :: r := rfl
theorem set_n14 {α : Type} {y x0 x1 x2 x3 x4 x5 x6 x7 x8 x9 x10 x11 x12 x13 x14 : α} {r : List α} : List.set (x0 :: x1 :: x2 :: x3 :: x4 :: x5 :: x6 :: x7 :: x8 :: x9 :: x10 :: x11 :: x12 :: x13 :: x14 :: r) 14 y = x0 :: x1 :: x2 :: x3 :: x4 :: x5 :: x6 :: x7 :: x8 :: x9 :: x10 :: x11 :: x12 :: x13 :: y :: r := rfl
theorem set_n15 {α : Type} {y x0 x1 x2 x3 x4 x5 x6 x7 x8 x9 x10 x11 x12 x13 x14 x15 : α} {r : List α} : List.set (x0 :: x1 :: x2 :: x3 :: x4 :: x5 :: x6 :: x7 :: x8 :: x9 :: x10 :: x11 :: x12 :: x13 :: x14 :: x15 :: r) 15 y = x0 :: x1 :: x2 :: x3 :: x4 :: x5 :: x6 :: x7 :: x8 :: x9 :: x10 :: x11 :: x12 :: x13 :: x14 :: y :: r := rfl
theorem set_n16 {α : Type} {y x0 x1 x2 x3 x4 x5 x6 x7 x8 x9 x10 x11 x12 x13 x14 x15 x16 : α} {r : List α} : List.set (x0 :: x1 :: x2 :: x3 :: x4 :: x5 :: x6 :: x7 :: x8 :: x9 :: x10 :: x11 :: x12 :: x13 :: x14 :: x15 :: x16 :: r) 16 y = x0 :: x1 :: x2 :: x3 :: x4 :: x5 :: x6 :: x7 :: x8 :: x9 :: x10 :: x11 :: x12 :: x13 :: x14 :: x15 :: y :: r := rfl
theorem set_n17 {α : Type} {y x0 x1 x2 x3 x4 x5 x6 x7 x8 x9 x10 x11 x12 x13 x14 x15 x16 x17 : α} {r : List α} : List.set (x0 :: x1 :: x2 :: x3 :: x4 :: x5 :: x6 :: x7 :: x8 :: x9 :: x10 :: x11 :: x12 :: x13 :: x14 :: x15 :: x16 :: x17 :: r) 17 y = x0 :: x1 :: x2 :: x3 :: x4 :: x5 :: x6 :: x7 :: x8 :: x9 :: x10 :: x11 :: x12 :: x13 :: x14 :: x15 :: x16 :: y :: r := rfl
theorem set_n18 {α : Type} {y x0 x1 x2 x3 x4 x5 x6 x7 x8 x9 x10 x11 x12 x13 x14 x15 x16 x17 x18 : α} {r : List α} : List.set (x0 :: x1 :: x2 :: x3 :: x4 :: x5 :: x6 :: x7 :: x8 :: x9 :: x10 :: x11 :: x12 :: x13 :: x14 :: x15 :: x16 :: x17 :: x18 :: r) 18 y = x0 :: x1 :: x2 :: x3 :: x4 :: x5 :: x6 :: x7 :: x8 :: x9 :: x10 :: x11 :: x12 :: x13 :: x14 :: x15 :: x16 :: x17 :: y :: r := rfl
theorem set_n19 {α : Type} {y x0 x1 x2 x3 x4 x5 x6 x7 x8 x9 x10 x11 x12 x13 x14 x15 x16 x17 x18 x19 : α} {r : List α} : List.set (x0 :: x1 :: x2 :: x3 :: x4 :: x5 :: x6 :: x7 :: x8 :: x9 :: x10 :: x11 :: x12 :: x13 :: x14 :: x15 :: x16 :: x17 :: x18 :: x19 :: r) 19 y = x0 :: x1 :: x2 :: x3 :: x4 :: x5 :: x6 :: x7 :: x8 :: x9 :: x10 :: x11 :: x12 :: x13 :: x14 :: x15 :: x16 :: x17 :: x18 :: y :: r := rfl
theorem set_n20 {α : Type} {y x0 x1 x2 x3 x4 x5 x6 x7 x8 x9 x10 x11 x12 x13 x14 x15 x16 x17 x18 x19 x20 : α} {r : List α} : List.set (x0 :: x1 :: x2 :: x3 :: x4 :: x5 :: x6 :: x7 :: x8 :: x9 :: x10 :: x11 :: x12 :: x13 :: x14 :: x15 :: x16 :: x17 :: x18 :: x19 :: x20 :: r) 20 y = x0 :: x1 :: x2 :: x3 :: x4 :: x5 :: x6 :: x7 :: x8 :: x9 :: x10 :: x11 :: x12 :: x13 :: x14 :: x15 :: x16 :: x17 :: x18 :: x19 :: y :: r := rfl
theorem set_n21 {α : Type} {y x0 x1 x2 x3 x4 x5 x6 x7 x8 x9 x10 x11 x12 x13 x14 x15 x16 x17 x18 x19 x20 x21 : α} {r : List α} : List.set (x0 :: x1 :: x2 :: x3 :: x4 :: x5 :: x6 :: x7 :: x8 :: x9 :: x10 :: x11 :: x12 :: x13 :: x14 :: x15 :: x16 :: x17 :: x18 :: x19 :: x20 :: x21 :: r) 21 y = x0 :: x1 :: x2 :: x3 :: x4 :: x5 :: x6 :: x7 :: x8 :: x9 :: x10 :: x11 :: x12 :: x13 :: x14 :: x15 :: x16 :: x17 :: x18 :: x19 :: x20 :: y :: r := rfl
theorem set_n22 {α : Type} {y x0 x1 x2 x3 x4 x5 x6 x7 x8 x9 x10 x11 x12 x13 x14 x15 x16 x17 x18 x19 x20 x21 x22 : α} {r : List α} : List.set (x0 :: x1 :: x2 :: x3 :: x4 :: x5 :: x6 :: x7 :: x8 :: x9 :: x10 :: x11 :: x12 :: x13 :: x14 :: x15 :: x16 :: x17 :: x18 :: x19 :: x20 :: x21 :: x22 :: r) 22 y = x0 :: x1 :: x2 :: x3 :: x4 :: x5 :: x6 :: x7 :: x8 :: x9 :: x10 :: x11 :: x12 :: x13 :: x14 :: x15 :: x16 :: x17 :: x18 :: x19 :: x20 :: x21 :: y :: r := rfl
theorem set_n23 {α : Type} {y x0 x1 x2 x3 x4 x5 x6 x7 x8 x9 x10 x11 x12 x13 x14 x15 x16 x17 x18 x19 x20 x21 x22 x23 : α} {r : List α} : List.set (x0 :: x1 :: x2 :: x3 :: x4 :: x5 :: x6 :: x7 :: x8 :: x9 :: x10 :: x11 :: x12 :: x13 :: x14 :: x15 :: x16 :: x17 :: x18 :: x19 :: x20 :: x21 :: x22 :: x23 :: r) 23 y = x0 :: x1 :: x2 :: x3 :: x4 :: x5 :: x6 :: x7 :: x8 :: x9 :: x10 :: x11 :: x12 :: x13 :: x14 :: x15 :: x16 :: x17 :: x18 :: x19 :: x20 :: x21 :: x22 :: y :: r := rfl
theorem set_n24 {α : Type} {y x0 x1 x2 x3 x4 x5 x6 x7 x8 x9 x10 x11 x12 x13 x14 x15 x16 x17 x18 x19 x20 x21 x22 x23 x24 : α} {r : List α} : List.set (x0 :: x1 :: x2 :: x3 :: x4 :: x5 :: x6 :: x7 :: x8 :: x9 :: x10 :: x11 :: x12 :: x13 :: x14 :: x15 :: x16 :: x17 :: x18 :: x19 :: x20 :: x21 :: x22 :: x23 :: x24 :: r) 24 y = x0 :: x1 :: x2 :: x3 :: x4 :: x5 :: x6 :: x7 :: x8 :: x9 :: x10 :: x11 :: x12 :: x13 :: x14 :: x15 :: x16 :: x17 :: x18 :: x19 :: x20 :: x21 :: x22 :: x23 :: y :: r := rfl
theorem set_n25 {α : Type} {y x0 x1 x2 x3 x4 x5 x6 x7 x8 x9 x10 x11 x12 x13 x14 x15 x16 x17 x18 x19 x20 x21 x22 x23 x24 x25 : α} {r : List α} : List.set (x0 :: x1 :: x2 :: x3 :: x4 :: x5 :: x6 :: x7 :: x8 :: x9 :: x10 :: x11 :: x12 :: x13 :: x14 :: x15 :: x16 :: x17 :: x18 :: x19 :: x20 :: x21 :: x22 :: x23 :: x24 :: x25 :: r) 25 y = x0 :: x1 :: x2 :: x3 :: x4 :: x5 :: x6 :: x7 :: x8 :: x9 :: x10 :: x11 :: x12 :: x13 :: x14 :: x15 :: x16 :: x17 :: x18 :: x19 :: x20 :: x21 :: x22 :: x23 :: x24 :: y :: r := rfl
theorem set_n26 {α : Type} {y x0 x1 x2 x3 x4 x5 x6 x7 x8 x9 x10 x11 x12 x13 x14 x15 x16 x17 x18 x19 x20 x21 x22 x23 x24 x25 x26 : α} {r : List α} : List.set (x0 :: x1 :: x2 :: x3 :: x4 :: x5 :: x6 :: x7 :: x8 :: x9 :: x10 :: x11 :: x12 :: x13 :: x14 :: x15 :: x16 :: x17 :: x18 :: x19 :: x20 :: x21 :: x22 :: x23 :: x24 :: x25 :: x26 :: r) 26 y = x0 :: x1 :: x2 :: x3 :: x4 :: x5 :: x6 :: x7 :: x8 :: x9 :: x10 :: x11 :: x12 :: x13 :: x14 :: x15 :: x16 :: x17 :: x18 :: x19 :: x20 :: x21 :: x22 :: x23 :: x24 :: x25 :: y :: r := rfl
theorem set_n27 {α : Type} {y x0 x1 x2 x3 x4 x5 x6 x7 x8 x9 x10 x11 x12 x13 x14 x15 x16 x17 x18 x19 x20 x21 x22 x23 x24 x25 x26 x27 : α} {r : List α} : List.set (x0 :: x1 :: x2 :: x3 :: x4 :: x5 :: x6 :: x7 :: x8 :: x9 :: x10 :: x11 :: x12 :: x13 :: x14 :: x15 :: x16 :: x17 :: x18 :: x19 :: x20 :: x21 :: x22 :: x23 :: x24 :: x25 :: x26 :: x27 :: r) 27 y = x0 :: x1 :: x2 :: x3 :: x4 :: x5 :: x6 :: x7 :: x8 :: x9 :: x10 :: x11 :: x12 :: x13 :: x14 :: x15 :: x16 :: x17 :: x18 :: x19 :: x20 :: x21 :: x22 :: x23 :: x24 :: x25 :: x26 :: y :: r := rfl
theorem set_n28 {α : Type} {y x0 x1 x2 x3 x4 x5 x6 x7 x8 x9 x10 x11 x12 x13 x14 x15 x16 x17 x18 x19 x20 x21 x22 x23 x24 x25 x26 x27 x28 : α} {r : List α} : List.set (x0 :: x1 :: x2 :: x3 :: x4 :: x5 :: x6 :: x7 :: x8 :: x9 :: x10 :: x11 :: x12 :: x13 :: x14 :: x15 :: x16 :: x17 :: x18 :: x19 :: x20 :: x21 :: x22 :: x23 :: x24 :: x25 :: x26 :: x27 :: x28 :: r) 28 y = x0 :: x1 :: x2 :: x3 :: x4 :: x5 :: x6 :: x7 :: x8 :: x9 :: x10 :: x11 :: x12 :: x13 :: x14 :: x15 :: x16 :: x17 :: x18 :: x19 :: x20 :: x21 :: x22 :: x23 :: x24 :: x25 :: x26 :: x27 :: y :: r := rfl
theorem set_n29 {α : Type} {y x0 x1 x2 x3 x4 x5 x6 x7 x8 x9 x10 x11 x12 x13 x14 x15 x16 x17 x18 x19 x20 x21 x22 x23 x24 x25 x26 x27 x28 x29 : α} {r : List α} : List.set (x0 :: x1 :: x2 :: x3 :: x4 :: x5 :: x6 :: x7 :: x8 :: x9 :: x10 :: x11 :: x12 :: x13 :: x14 :: x15 :: x16 :: x17 :: x18 :: x19 :: x20 :: x21 :: x22 :: x23 :: x24 :: x25 :: x26 :: x27 :: x28 :: x29 :: r) 29 y = x0 :: x1 :: x2 :: x3 :: x4 :: x5 :: x6 :: x7 :: x8 :: x9 :: x10 :: x11 :: x12 :: x13 :: x14 :: x15 :: x16 :: x17 :: x18 :: x19 :: x20 :: x21 :: x22 :: x23 :: x24 :: x25 :: x26 :: x27 :: x28 :: y :: r := rfl
end Hf
/-! ## exceptions: caught, noted and asked behind the suite -/
namespace Hf
open PySem PySem.Spec PyProof.Rows L2
/-- at a: a caught exception of the class cls, its dict d -/
def exHO (a : Addr) (cls : Value) (d : Option Addr) : HO := .ext fun h => ∃ oe vs, h.get? a = some oe ∧ Zc cls d oe ∧ oe.data = .fields vs
theorem exHO_ok {P : Program} {w : World} {H : Hp} {h : Heap} {a : Addr} {cls : Value} {d : Option Addr} {oe : Obj} {vs : Array Value} (e : h.get? a = some oe) (hz : Zc cls d oe) (hd : oe.data = .fields vs) : ObjOk P w H h a (exHO a cls d) :=
  ⟨⟨oe, vs, e, hz, hd⟩, ⟨oe, e⟩, fun _ _ ⟨o, v, x, y, z⟩ k => ⟨o, v, k _ x, y, z⟩⟩
theorem exHO_at {P : Program} {w : World} {H : Hp} {h : Heap} {a : Addr} {cls : Value} {d : Option Addr} (ok : HOk P w H h) (e : H a = some (exHO a cls d)) : ∃ oe vs, h.get? a = some oe ∧ Zc cls d oe ∧ oe.data = .fields vs := by
  have x : ObjOk P w H h a (.ext fun h => ∃ oe vs, h.get? a = some oe ∧ Zc cls d oe ∧ oe.data = .fields vs) := ok a _ e
  exact x.1
/-- a pinned object of ours is taken up -/
theorem track {X : Cx} {pins : List (Addr × Obj)} {σ : L2.St} {H : Hp} {s : Shared} {a : Addr} {oe : Obj} {cls : Value} {d : Option Addr} {vs : Array Value} (I : Inv X ((a, oe) :: pins) σ H s) (hz : Zc cls d oe) (hd : oe.data = .fields vs)
    (n0 : X.s_0.heap.get? a = none) (np : ∀ p ∈ X.pn ++ pins, p.1 ≠ a) : Inv X pins σ (L2.upd H a (exHO a cls d)) s := by
  obtain ⟨ga, na, nL, nF, nc⟩ := I.pin (a, oe) (List.mem_append_right _ List.mem_cons_self)
  dsimp only at ga na nL nF nc
  have ncell : ∀ x c, X.env.cells.lookup x = some c → c ≠ a := fun x c e z => by
    obtain ⟨v, o, ho, hdc⟩ := I.cell x c e
    rw [z, ga] at ho
    cases ho
    exact nc _ hdc
  refine ⟨I.ok, I.os, I.bare, ⟨I.base.keep, I.base.slot, fun b o e n hx => ?_, I.base.there, fun b xs e => ?_, fun b o u e => ?_, fun b ps e => ?_⟩, I.loc, I.cell, ?_, fun x c e => ?_, fun p hp => ?_, fun b o e => ?_, I.len⟩
  · rw [upd_ne (fun z => by rw [z, n0] at e; cases e)]
    exact I.base.free b o e n hx
  · have q := I.base.tups b xs e
    rw [upd_ne (ne_of_none q na)]
    exact q
  · have q := I.base.frzs b o u e
    rw [upd_ne (ne_of_none q na)]
    exact q
  · obtain ⟨m, q⟩ := I.base.tbls b ps e
    exact ⟨m, by rw [upd_ne (ne_of_none q na)]; exact q⟩
  · rw [upd_ne (Ne.symm nL)]
    exact I.free
  · rw [upd_ne (ncell x c e)]
    exact I.freeC x c e
  · obtain ⟨e, n, r⟩ := I.pin p (by
      rcases List.mem_append.mp hp with h | h
      · exact List.mem_append_left _ h
      · exact List.mem_append_right _ (List.mem_cons_of_mem _ h))
    exact ⟨e, by rw [upd_ne (np p hp)]; exact n, r⟩
  · by_cases hb : b = a
    · subst hb
      rw [upd_same] at e
      cases e
      exact exHO_ok ga hz hd
    · rw [upd_ne hb] at e
      refine (I.hok b o e).stay (fun c u _ q => q) (fun c q => ?_) fun c xs q => ?_
      · rw [upd_ne (ne_of_none q na)]
        exact q
      · rw [upd_ne (ne_of_none q na)]
        exact q
/-- what follows the suite -/
def nxAs (i : Nat) (a : Addr) (cls : Value) (d : Option Addr) (nx : L2.St → Hp → Prop) : L2.St → Hp → Prop := fun σ' H' => nx (σ'.set i none) (L2.upd H' a (exHO a cls d))
def rtAs (a : Addr) (cls : Value) (d : Option Addr) (rt : VK) : VK := fun v H' => rt v (L2.upd H' a (exHO a cls d))
/-- what the clause 'except x as n' wishes of an exception of the body -/
def wAsT (K : PySem.W.Frag) (c : Value) (i : Nat) (ts : TS) (Wout : WX) (D : Ends) : WX := fun cls d σ H =>
  ∃ b, PySem.W.exmOne K cls c = some b ∧ (b = true → ∀ a, H a = none → ts { nx := nxAs i a cls d D.nx, rt := rtAs a cls d D.rt, bk := nxAs i a cls d D.bk, ct := nxAs i a cls d D.ct } (σ.set i (some (.ref a))) H) ∧
    (b = false → Wout cls d σ H)
def tTryAs (K : PySem.W.Frag) (c : Value) (i : Nat) (ts : TS) (Wout : WX) (tb : WX → TS) : TS := fun D σ H => tb (wAsT K c i ts Wout D) D σ H
section
variable {X : Cx} {x n : Str} {c : Value} {i : Nat} {body suite : List Stmt} {b₀ : Stmt} {np pos pos' : Pos} {tb : WX → TS} {ts : TS} {Wout : WX}
theorem ps_try_asT (hs : X.stack = X.env :: X.outer) (hf : X.env.frame = some X.env.locals) (hex : X.ex = []) (hN : X.N.Nodup) (hi : X.N[i]? = some n) (hln : X.env.kindOf n = some .local) (hc : Names X x c) (tk : Takes X Wout)
    (hb : ∀ (W : WX) (pn : List (Addr × Obj)) (xe : Value → Shared → Prop), Takes (X.tr pn xe) W → PassesOwn (model X.prog X.w) X.A X.env xe → PSs (X.tr pn xe) body (tb W))
    (hsu : ∀ (a : Addr) (oe : Obj) (pn : List (Addr × Obj)), PSs (X.suite a ((a, oe) :: pn)) (b₀ :: suite) ts) :
    PS X (.Try body [.ExceptHandler (some (.Name x np)) (some n) (b₀ :: suite) pos'] [] [] pos) (tTryAs X.K c i ts Wout tb) := by
  refine ⟨fun pins s σ H D I h => ?_⟩
  have ok := I.ok
  have hfr : X.A.frames = some (X.env :: X.outer) := by rw [ok.frames, hs]
  have hloc : Loc X.env.scope n := .inl hln
  refine wpAny_Try_except ?_
  refine wpAny_mono ((hb (wAsT X.K c i ts Wout D) (X.pn ++ pins) (fun e s₁ => wpAny (model X.prog X.w) X.A (noteFrame e X.env) (fun _ s₂ => wpAny (model X.prog X.w) X.A (setFlight e none) (fun _ s₃ =>
    wpAny (model X.prog X.w) X.A (handleBy e X.env [.ExceptHandler (some (.Name x np)) (some n) (b₀ :: suite) pos']) (SP X pins D) X.xe s₃) X.xe s₂) X.xe s₁) (fun u s' xx => ?_) PassesOwn.looking).run [] s σ H D (I.toTry _) h) (fun f s1 hsp => ?_) (fun e s1 he => he)
  · obtain ⟨a, B, sI, pins', σ', H', cls, d, rfl, J', nb, up, sky, na, os, ag, b, hb1, hyes, hno⟩ := xx
    have J : Inv X pins σ' H' sI := J'.ofTry ok
    have sky' : Sky B (X.env :: X.outer) a (Zc cls d) X.env.locals s'.heap := by rw [← hs]; exact sky
    show wpAny (model X.prog X.w) X.A (noteFrame (.ref a) X.env) _ _ _
    refine Sky.land Zc.steady hfr hf sky' fun h3 fl3 up3 => ?_
    have J3 : Inv X pins σ' H' { s' with heap := h3 } := J.landed nb fl3.1 (up.trans up3) os ag
    obtain ⟨oe3, vs3, he3, hz3, hd3⟩ := fl3.there
    have notFr : ∀ {h : Heap} {o : Obj} {vs : Array Value}, h.FunFrames B (X.env :: X.outer) → h.get? a = some o → o.data = .fields vs → a ∉ frs (X.env :: X.outer) := fun {h o vs} ff e dd hm => by
      obtain ⟨_, o', e', hnf⟩ := ff.mem hm
      rw [e] at e'; cases e'
      exact hnf _ dd
    have nfr := notFr fl3.2.2.1 he3 hd3
    have nL : a ≠ X.env.locals := fun z => nfr (List.mem_filterMap.mpr ⟨X.env, List.mem_cons_self, by rw [hf, z]⟩)
    have nF : a ∉ X.fs := fun hm => by
      obtain ⟨e, he, q⟩ := List.mem_filterMap.mp hm
      exact nfr (List.mem_filterMap.mpr ⟨e, List.mem_cons_of_mem _ he, q⟩)
    have nI : sI.heap.get? a = none := by
      cases q : sI.heap.get? a with
      | none => rfl
      | some o =>
        have z := nb a o q (by rw [hs]; exact nfr)
        rw [fl3.2.1] at z
        cases z
    have n0 : X.s_0.heap.get? a = none := by
      cases q : X.s_0.heap.get? a with
      | none => rfl
      | some o =>
        obtain ⟨o', z⟩ := J.base.there a o q (by rw [hex]; exact List.not_mem_nil)
        rw [nI] at z
        cases z
    have npin : ∀ p ∈ X.pn ++ pins, p.1 ≠ a := fun p hp z => by
      have q := (J.pin p hp).1
      rw [z, nI] at q
      cases q
    have S3 := J3.suite he3 hd3 na nL nF
    refine wpAny_handleBy_cons (codeAny_handlers_test ?_) (by intro q; cases q)
    have LT : PySem.W.Looks (model X.prog X.w) h3 (typeOf (.ref a)) cls := fun A Q E s k q => wpAny_typeOf_ref (k _ _ he3) (by rw [hz3.1]; exact q)
    have LM := PySem.W.exm_one (M := model X.prog X.w) (J3.kIn) LT hb1
    have test : ∀ {Q : Value → Shared → Prop} {E : Value → Shared → Prop}, Q c { s' with heap := h3 } → wpAny (model X.prog X.w) (X.A.mark (some (.ref a))) (eval (.Name x np) X.env) Q E { s' with heap := h3 } := fun {Q E} q => by
      obtain ⟨hg, hdbg, hm | ⟨hm, hv, hnn⟩⟩ := hc
      · exact ld_glob (X := X.suite a ((a, oe3) :: (X.pn ++ pins))) S3 hg hm q hdbg
      · exact ld_blt (X := X.suite a ((a, oe3) :: (X.pn ++ pins))) S3 hg hm hv q hnn hdbg
    refine test (LM.here ?_)
    cases b with
    | true =>
      refine codeAny_handlers_suite_as ?_
      refine HandSPX.lands_againZ fl3 fun h4 fl4 up4 => ?_
      have J4 : Inv X pins σ' H' { s' with heap := h4 } := J.landed nb fl4.1 ((up.trans up3).trans up4) os ag
      obtain ⟨oe4, vs4, he4, hz4, hd4⟩ := fl4.there
      have S4 := J4.suite he4 hd4 na nL nF
      refine store_ok (X := X.suite a ((a, oe4) :: (X.pn ++ pins))) (v := .ref a) S4 hN hi hloc rfl (fun s5 S5 => ?_) (.inr hln)
      refine wpAny_mono ((hsu a oe4 (X.pn ++ pins)).run [] s5 _ H' _ S5 (hyes rfl a na)) (fun f s6 hsp => ?_) (fun _ _ z => False.elim z)
      have end_ : ∀ {σ6 : L2.St} {H6 : Hp} {Q : Shared → Prop}, Inv (X.suite a ((a, oe4) :: (X.pn ++ pins))) [] σ6 H6 s6 → (∀ s7, Inv X pins (σ6.set i none) (L2.upd H6 a (exHO a cls d)) s7 → Q s7) →
          wpAny (model X.prog X.w) X.A (do bindName X.env n .none; unbindBehindTheSuite X.env n pos') (fun _ s7 => Q s7) X.xe s6 := fun {σ6 H6 Q} S6 hq => by
        have S7 : Inv X ((a, oe4) :: pins) σ6 H6 s6 := ⟨ok, S6.os, S6.bare, S6.base, S6.loc, S6.cell, S6.free, S6.freeC, fun p hp => S6.pin p (by
          show p ∈ (a, oe4) :: (X.pn ++ pins) ++ []
          rw [List.append_nil]
          rcases List.mem_append.mp hp with h | h
          · exact List.mem_cons_of_mem _ (List.mem_append_left _ h)
          · rcases List.mem_cons.mp h with h | h
            · rw [h]
              exact List.mem_cons_self
            · exact List.mem_cons_of_mem _ (List.mem_append_right _ h)), S6.hok, S6.len⟩
        exact gone_ok S7 hN hi hln fun s7 J7 => hq s7 (track J7 hz4 hd4 n0 npin)
      cases f with
      | next =>
        obtain ⟨σ6, H6, S6, q6⟩ := hsp
        exact end_ S6 fun s7 J7 => ⟨_, _, J7, q6⟩
      | brk =>
        obtain ⟨σ6, H6, S6, q6⟩ := hsp
        exact end_ S6 fun s7 J7 => ⟨_, _, J7, q6⟩
      | cont =>
        obtain ⟨σ6, H6, S6, q6⟩ := hsp
        exact end_ S6 fun s7 J7 => ⟨_, _, J7, q6⟩
      | ret u =>
        obtain ⟨v6, σ6, H6, S6, r6, q6⟩ := hsp
        exact end_ S6 fun s7 J7 => ⟨_, _, _, J7, r6, q6⟩
    | false =>
      show wpAny _ X.A (handleBy (.ref a) X.env []) _ _ _
      refine wpAny_handleBy_nil ?_
      obtain ⟨k1, k2, k3, oe, vs, T, oT, ts', he, hz, hd, h1, hr⟩ := id fl3
      unfold PySem.passOn
      refine wpAny_bind (wpAny_field he hd h1 ?_)
      rw [if_neg (show ¬ ((Value.ref T == Value.none) = true) from by simp)]
      have fin : wpAny (model X.prog X.w) X.A (setFlight (.ref a) X.env.frame) (fun _ s4 => wpAny (model X.prog X.w) X.A (throw (.ref a) : Sem Flow) (SP X pins D) X.xe s4) X.xe { s' with heap := h3 } := by
        rw [hf]
        refine HandSPX.setFlight_upZ fl3 fun h4 hh4 up4 => wpAny_throw (tk _ _ ?_)
        exact ⟨a, B, sI, pins, σ', H', cls, d, rfl, J, nb, (up.trans up3).trans up4, .inr (.inr (by rw [hs]; exact hh4)), na, os, ag, hno rfl⟩
      first
        | exact wpAny_bind (wpAny_pure (wpAny_bind fin))
        | exact wpAny_bind fin
  · cases f with
    | next =>
      obtain ⟨σ', H', J', q⟩ := hsp
      exact wpAny_execs_nil ⟨σ', H', J'.ofTry ok, q⟩
    | brk =>
      obtain ⟨σ', H', J', q⟩ := hsp
      exact ⟨σ', H', J'.ofTry ok, q⟩
    | cont =>
      obtain ⟨σ', H', J', q⟩ := hsp
      exact ⟨σ', H', J'.ofTry ok, q⟩
    | ret u =>
      obtain ⟨v, σ', H', J', r, q⟩ := hsp
      exact ⟨v, σ', H', J'.ofTry ok, r, q⟩
end
/-! ### isinstance -/
/-- isinstance(x, c): x a tracked exception, or any other thing -/
def rIsX (K : PySem.W.Frag) : List V → Hp → VK → Prop := fun xs H Q =>
  (∃ (a D : Addr) (d : Option Addr) (c : V) (cv : Value) (b : Bool), xs = [.ref a, c] ∧ H a = some (exHO a (.ref D) d) ∧ (∀ dd, d = some dd → ∃ fs, H dd = some (.xd fs)) ∧ ExcC K D ∧ (∀ u, RelV c u → u = cv) ∧ PySem.W.kitOne K (.ref D) cv = some b ∧ Q (.bl b) H) ∨ rIsi K xs H Q
theorem call_isX {X : Cx} : CallR X (.builtin "isinstance") (rIsX X.K) := by
  intro pins s σ H xs us Q I r h
  rcases h with ⟨a, D, d, c, cv, b, rfl, ha, hdd, C, hcv, e, q⟩ | h
  · cases r with
    | cons rx rr =>
      cases rr with
      | cons rt rr =>
        cases rr
        cases rx
        have ec := hcv _ rt
        subst ec
        obtain ⟨oe, vs, hget, hz, hv⟩ := exHO_at I.hok ha
        obtain ⟨od, J⟩ : ∃ od, PySem.W.InstAt s.heap a oe D od := by
          cases d with
          | none =>
            obtain ⟨oc, od, oda, osl⟩ := oe
            obtain ⟨h1, h2⟩ := hz
            dsimp only at h1 h2 hv
            subst h1 h2 hv
            exact ⟨none, hget, rfl, rfl, trivial⟩
          | some dd =>
            obtain ⟨fs, hfs⟩ := hdd dd rfl
            have x : ObjOk X.prog X.w H s.heap dd (.xd fs) := I.hok dd _ hfs
            obtain ⟨mA, ⟨o, es, ep, ho, _⟩, _⟩ := x
            obtain ⟨oc, od, oda, osl⟩ := oe
            obtain ⟨h1, h2⟩ := hz
            dsimp only at h1 h2 hv
            subst h1 h2 hv
            exact ⟨some o, hget, rfl, rfl, ho⟩
        have hcl : (PySem.W.clsIn X.K D).isSome = true := by
          obtain ⟨cd, hc, _⟩ := PySem.W.any_some C.hd
          rw [hc]
          rfl
        exact PySem.W.kia_one (PySem.W.kitx_exc hcl C.hg C.hk C.hs C.ha C.hn C.ht C.hm) I.kIn J e (fun z => nomatch z) fun tk => ⟨.bl b, H, I.kept (t' := tk) fun _ _ z => z, rfl, q⟩
  · exact call_isi pins s σ H xs us Q I r h
theorem call_isXK {X : Cx} (K : PySem.W.Frag) (e : X.K = K) : CallR X (.builtin "isinstance") (rIsX K) := by subst e; exact call_isX
section
variable {σ σ' : L2.St} {H : Hp} {Q : VK} {nx bk ct : L2.St → Hp → Prop} {rt : VK} {K : PySem.W.Frag} {a D C : Addr} {d : Option Addr} {cls c : Value} {b : Bool} {i : Nat}
theorem i_isXR (h : H a = some (exHO a (.ref D) none)) (e : ExcC K D) (k : PySem.W.kitOne K (.ref D) (.ref C) = some b) (q : Q (.bl b) H) : rIsX K [.ref a, .ref C] H Q :=
  .inl ⟨a, D, none, .ref C, .ref C, b, rfl, h, fun _ z => (nomatch z), e, fun _ z => z, k, q⟩
theorem i_isXT {T : String} (h : H a = some (exHO a (.ref D) none)) (e : ExcC K D) (k : PySem.W.kitOne K (.ref D) (.type T) = some b) (q : Q (.bl b) H) : rIsX K [.ref a, .ty T] H Q :=
  .inl ⟨a, D, none, .ty T, .type T, b, rfl, h, fun _ z => (nomatch z), e, fun _ z => z, k, q⟩
theorem i_isXRd {dd : Addr} {fs : List (Str × V)} (h : H a = some (exHO a (.ref D) (some dd))) (hd : H dd = some (.xd fs)) (e : ExcC K D) (k : PySem.W.kitOne K (.ref D) (.ref C) = some b) (q : Q (.bl b) H) : rIsX K [.ref a, .ref C] H Q :=
  .inl ⟨a, D, some dd, .ref C, .ref C, b, rfl, h, fun x z => by cases z; exact ⟨fs, hd⟩, e, fun _ z => z, k, q⟩
theorem i_isXTd {T : String} {dd : Addr} {fs : List (Str × V)} (h : H a = some (exHO a (.ref D) (some dd))) (hd : H dd = some (.xd fs)) (e : ExcC K D) (k : PySem.W.kitOne K (.ref D) (.type T) = some b) (q : Q (.bl b) H) : rIsX K [.ref a, .ty T] H Q :=
  .inl ⟨a, D, some dd, .ty T, .type T, b, rfl, h, fun x z => by cases z; exact ⟨fs, hd⟩, e, fun _ z => z, k, q⟩
theorem i_isXi {t : String} {x : V} {c : String} (ty : TyX K H x (.type t)) (h : kitB t c = some b) (q : Q (.bl b) H) : rIsX K [x, .ty c] H Q := .inr ⟨x, .ty c, .type t, .type c, b, rfl, .ty c, ty, kit_ty h, q⟩
theorem i_isXo {t : String} {x : V} (ty : TyX K H x (.type t)) (h : PySem.W.kitOne K (.type t) (.ref C) = some b) (q : Q (.bl b) H) : rIsX K [x, .ref C] H Q := .inr ⟨x, .ref C, .type t, .ref C, b, rfl, .own C, ty, h, q⟩
/-! ### the steps -/
theorem i_callS {sp : Sp} {E : L2.St → XK} {t : TA} (h : t σ H fun vs H1 => sp vs H1 Q (E σ)) : tCallS sp E t σ H Q := h
theorem i_try {ts : TS} {Wout : WX} {tb : WX → TS} (h : tb (wAsT K c i ts Wout ⟨nx, rt, bk, ct⟩) ⟨nx, rt, bk, ct⟩ σ H) : tTryAs K c i ts Wout tb ⟨nx, rt, bk, ct⟩ σ H := h
theorem i_caught {τ : Addr → L2.St} {ts : TS} {Wout : WX} (e : PySem.W.exmOne K cls c = some true) (s : ∀ a, List.set σ i (some (V.ref a)) = τ a) (h : ∀ a, H a = none → ts ⟨nxAs i a cls d nx, rtAs a cls d rt, nxAs i a cls d bk, nxAs i a cls d ct⟩ (τ a) H) : wAsT K c i ts Wout ⟨nx, rt, bk, ct⟩ cls d σ H :=
  ⟨true, e, fun _ a na => by
    show ts _ (List.set σ i (some (V.ref a))) H
    rw [s a]
    exact h a na, fun z => nomatch z⟩
theorem i_nxAs (s : List.set σ i none = σ') (q : nx σ' (L2.upd H a (exHO a cls d))) : nxAs i a cls d nx σ H := by
  subst s
  exact q
theorem i_rtAs {v : V} (q : rt v (L2.upd H a (exHO a cls d))) : rtAs a cls d rt v H := q
theorem i_isnR (q : Q (.bl false) H) : V.non = V.non ∧ Q (.bl (decide (V.ref a = V.non))) H := ⟨rfl, by
  rw [decide_eq_false (fun z => by cases z)]
  exact q⟩
theorem i_isnN (q : Q (.bl true) H) : V.non = V.non ∧ Q (.bl (decide (V.non = V.non))) H := ⟨rfl, by
  rw [decide_eq_true rfl]
  exact q⟩
end
/-! ### what is known of the classes -/
structure ClsT (K : PySem.W.Frag) (C : Addr) : Prop where
  ic : PySem.W.isClsIn K C = true
  ty : PySem.W.typeIn K (.ref C) = some (.type "type")
section
variable {K : PySem.W.Frag} {C D : Addr} {b : Bool}
theorem kit_clsT (c : ClsT K C) {t : Value} (h : PySem.W.subIn K t (.ref C) = some b) : PySem.W.kitCls K t (.ref C) = some b := by
  have h2 : (PySem.W.clsIn K C).isSome = true := c.ic
  show (if ((PySem.W.clsIn K C).isSome && PySem.W.typeIn K (.ref C) == some (.type "type")) = true then PySem.W.subIn K t (.ref C) else none) = some b
  rw [if_pos (by rw [h2, c.ty]; rfl)]
  exact h
theorem kit_t (c : ClsT K C) (h : PySem.W.subIn K (.ref D) (.ref C) = some true) : PySem.W.kitOne K (.ref D) (.ref C) = some true := by
  unfold PySem.W.kitOne
  split
  · rfl
  · exact kit_clsT c h
theorem kit_f (c : ClsT K C) (hs : PySem.W.subIn K (.ref D) (.ref D) = some true) (h : PySem.W.subIn K (.ref D) (.ref C) = some false) : PySem.W.kitOne K (.ref D) (.ref C) = some false := by
  unfold PySem.W.kitOne
  split
  · rename_i z
    have e : D = C := Value.ref.inj (beq_iff_eq.mp z)
    subst e
    rw [hs] at h
    cases h
  · exact kit_clsT c h
theorem kit_o (c : ClsT K C) {t : String} (h : PySem.W.subIn K (.type t) (.ref C) = some b) : PySem.W.kitOne K (.type t) (.ref C) = some b := by
  unfold PySem.W.kitOne
  rw [if_neg (by rw [beq_iff_eq]; exact fun z => nomatch z)]
  exact kit_clsT c h
theorem kit_v {T : String} (h : PySem.W.subIn K (.ref D) (.type T) = some b) (hm : PySem.W.kitMeta T = true) : PySem.W.kitOne K (.ref D) (.type T) = some b := by
  unfold PySem.W.kitOne
  rw [if_neg (by rw [beq_iff_eq]; exact fun z => nomatch z)]
  show (if PySem.W.kitMeta T = true then PySem.W.subIn K (.ref D) (.type T) else none) = some b
  rw [if_pos hm]
  exact h
theorem exm_t (c : ClsT K C) (hb : PySem.W.subIn K (.ref C) (.type "BaseException") = some true) (h : PySem.W.subIn K (.ref D) (.ref C) = some b) : PySem.W.exmOne K (.ref D) (.ref C) = some b := by
  show (if (PySem.W.subIn K (.ref C) (.type "BaseException") == some true) = true then PySem.W.kitCls K (.ref D) (.ref C) else none) = some b
  rw [if_pos (by rw [hb]; rfl)]
  exact kit_clsT c h
end
/-! ### counts of flat things -/
def rCntV (K : PySem.W.Frag) : V → List V → Hp → VK → Prop := fun x xs H Q => ∃ (p : Addr) (ys : List V) (y : V), x = .ref p ∧ xs = [y] ∧ SqL K H p ys ∧ flatV y = true ∧ ys.all flatV = true ∧ Q (.int (ys.countP fun z => eqV z y : Nat)) H
theorem cnt_flat {u : Value} {y : V} (ry : RelV y u) (fy : flatV y = true) : ∀ {ys : List V} {us : List Value}, Vals ys us → ys.all flatV = true → us.countP (eqU y) = ys.countP fun z => eqV z y
  | [], [], .nil, _ => rfl
  | z :: r, _ :: _, .cons rz t, f => by
    have f1 : flatV z = true := (List.all_eq_true.mp f) z List.mem_cons_self
    have f2 : r.all flatV = true := List.all_eq_true.mpr fun q hq => (List.all_eq_true.mp f) q (List.mem_cons_of_mem _ hq)
    rw [List.countP_cons, List.countP_cons, cnt_flat ry fy t f2, eqU_of rz f1]
theorem mt_lcountV {X : Cx} : MtR X "list.count" (rCntV X.K) := by
  intro pins s σ H x xs v us Q I rx rxs h
  obtain ⟨p, ys, y, rfl, rfl, hs, fy, fys, q⟩ := h
  cases rx
  obtain ⟨u, rfl, ru⟩ := rxs.one
  obtain ⟨its, rv, ⟨⟨cls, dd, data, sl⟩, n, ho, hc, hdn, hd⟩, hlen⟩ := I.list hs
  simp only at hc hd
  subst hc hd
  refine call_meets PySem.F.slot_list_count ⟨_, ho, rfl⟩ PySem.F.entry_list_count (PySem.F.args_list_count_2 _ _)
    (SeqAt.list_countAt p its.toArray n dd sl u (eqU y)) ⟨ho, fun u' hu' => mem_eqAt ru fy rv fys u' (by simpa using hu'), ?_⟩
  have ec : its.toArray.toList.countP (eqU y) = ys.countP fun z => eqV z y := cnt_flat ru fy rv fys
  refine ⟨.int _, H, I.tok _, ⟨s.toks, ?_⟩, q⟩
  show Value.int ((its.toArray.toList.countP (eqU y) : Nat) : Int) s.toks = Value.int _ s.toks
  rw [ec]
theorem mt_lcountVK {X : Cx} (K : PySem.W.Frag) (e : X.K = K) : MtR X "list.count" (rCntV K) := by subst e; exact mt_lcountV
theorem mt_indexK {X : Cx} (K : PySem.W.Frag) (e : X.K = K) : MtR X "list.index" (rIndex K) := by subst e; exact mt_index
theorem i_cntV {K : PySem.W.Frag} {H : Hp} {Q : VK} {p : Addr} {ys : List V} {y : V} {n : Nat} (h : SqL K H p ys) (f : flatV y = true) (g : ys.all flatV = true) (e : (ys.countP fun z => eqV z y) = n) (q : Q (.int (n : Nat)) H) : rCntV K (.ref p) [y] H Q :=
  ⟨p, ys, y, rfl, rfl, h, f, g, by rw [e]; exact q⟩
/-- the first place at which y stands -/
def firstAt (y : V) : List V → Nat → Option Nat
  | [], _ => none
  | z :: r, k => if eqV z y = true then some k else firstAt y r (k + 1)
theorem firstAt_is {y : V} : ∀ {ys : List V} {k j : Nat}, firstAt y ys k = some j → k ≤ j ∧ (∃ z, ys[j - k]? = some z ∧ eqV z y = true) ∧ ∀ (m : Nat) (z' : V), m < j - k → ys[m]? = some z' → eqV z' y = false
  | [], _, _, h => nomatch h
  | z :: r, k, j, h => by
    unfold firstAt at h
    split at h
    · rename_i c
      cases h
      rw [Nat.sub_self]
      exact ⟨Nat.le_refl _, ⟨z, rfl, c⟩, fun m z' hm => absurd hm (Nat.not_lt_zero _)⟩
    · rename_i c
      obtain ⟨h1, ⟨w, h2, h3⟩, h4⟩ := firstAt_is h
      refine ⟨by omega, ⟨w, ?_, h3⟩, fun m z' hm hz => ?_⟩
      · rw [show j - k = (j - (k + 1)) + 1 by omega, List.getElem?_cons_succ]
        exact h2
      · cases m with
        | zero =>
          rw [List.getElem?_cons_zero] at hz
          cases hz
          exact Bool.eq_false_iff.mpr c
        | succ m =>
          rw [List.getElem?_cons_succ] at hz
          exact h4 m z' (by omega) hz
theorem i_index {K : PySem.W.Frag} {H : Hp} {Q : VK} {p : Addr} {ys : List V} {y : V} {j : Nat} (h : SqL K H p ys) (f : flatV y = true) (g : ys.all flatV = true) (e : firstAt y ys 0 = some j) (q : Q (.int (j : Nat)) H) : rIndex K (.ref p) [y] H Q := by
  obtain ⟨_, ⟨z, h2, h3⟩, h4⟩ := firstAt_is e
  exact ⟨p, ys, y, j, z, rfl, rfl, h, f, g, h2, h3, h4, q⟩
/-! ### comprehensions over zip, kept where the second says so -/
def pickB : List V → List Bool → List V
  | x :: xs, c :: bs => if c = true then x :: pickB xs bs else pickB xs bs
  | _, _ => []
theorem pickB_more : ∀ {xs : List V} {bs : List Bool} {i : Nat} {x : V} {c : Bool}, xs[i]? = some x → bs[i]? = some c → pickB (xs.take (i + 1)) (bs.take (i + 1)) = pickB (xs.take i) (bs.take i) ++ (if c = true then [x] else [])
  | [], _, _, _, _, h, _ => by simp at h
  | _ :: _, [], _, _, _, _, h => by simp at h
  | y :: xs, d :: bs, 0, x, c, h1, h2 => by
    simp at h1 h2
    subst h1 h2
    simp [pickB]
  | y :: xs, d :: bs, i + 1, x, c, h1, h2 => by
    rw [List.getElem?_cons_succ] at h1 h2
    have ih := pickB_more h1 h2
    simp only [List.take_succ_cons, pickB]
    cases d
    · simp only [Bool.false_eq_true, if_false]
      exact ih
    · simp only [if_true, List.cons_append]
      rw [ih]
theorem pickB_len : ∀ (xs : List V) (bs : List Bool), (pickB xs bs).length ≤ xs.length
  | [], _ => by simp [pickB]
  | _ :: _, [] => by simp [pickB]
  | y :: xs, d :: bs => by
    have := pickB_len xs bs
    unfold pickB
    split
    · simp
      omega
    · simp
      omega
section
variable {σ : L2.St} {H H1 : Hp} {Q : VK} {K : PySem.W.Frag} {D a b : Addr} {wi : TI} {g : TG} {tt : TT} {te : TE} {vs : List Nat} {xs ys : List V} {Qd : Hp → Prop}
theorem lcZ_pick (bs : List Bool) (hb : ys = bs.map V.bl) (nD : H1 D = none) (hn : xs.length ≤ 1000) (hl : xs.length = bs.length) (hx : SqL K H1 a xs) (hy : SqL K H1 b ys)
    (hs : ∀ (i : Nat) (x : V) (c : Bool) (T : Addr) H (Z : VK) (Y : Hp → Prop), xs[i]? = some x → bs[i]? = some c → Same H1 H → H T = none → (c = true → ∀ H4, Same H H4 → Z x H4) → (c = false → ∀ H4, Same H H4 → Y H4) → LcTurn g tt te vs σ (.ref T) (L2.upd H T (.tup [x, .bl c])) Z Y)
    (hd : ∀ H, Same H1 H → H D = some (.lst (pickB xs bs)) → Qd H) :
    ∃ W : Nat → Nat → Hp → Prop, (∃ m, W 0 m (L2.upd H1 D (.lst []))) ∧ ∀ i m H, W i m H →
      ((Itz K a b).stop i H ∧ Qd H) ∨ ((Itz K a b).go i H ∧ ∃ Nx : Hp → Prop, (∀ H', Nx H' → ∃ m', m' < m ∧ W (i + 1) m' H') ∧ ∀ x H', (Itz K a b).yld i H x H' → g x (wipe σ vs) H' fun σ2 H2 => wipe σ2 vs = wipe σ vs ∧ tt σ2 H2 fun b H3 =>
        if b = true then te σ2 H3 fun y H4 => ∃ acc, H4 D = some (.lst acc) ∧ acc.length < sizeLine ∧ Nx (L2.upd H4 D (.lst (acc ++ [y]))) else Nx H3) := by
  subst hb
  let P : Nat → Hp → Prop := fun i H => Same H1 H ∧ H D = some (.lst (pickB (xs.take i) (bs.take i)))
  refine ⟨fun i m H => m = xs.length - i ∧ i ≤ xs.length ∧ P i H, ⟨xs.length, by simp, Nat.zero_le _, Same.new nD, by rw [List.take_zero, List.take_zero]; exact L2.upd_same⟩, ?_⟩
  rintro i m H ⟨rfl, hi, hsame, hD⟩
  by_cases hlt : i < xs.length
  · have hx' : xs[i]? = some xs[i] := List.getElem?_eq_getElem hlt
    have hlt2 : i < bs.length := by omega
    have hy' : bs[i]? = some bs[i] := List.getElem?_eq_getElem hlt2
    have qx : SqL K H a xs := hsame.seq hx
    have qy : SqL K H b (bs.map V.bl) := hsame.seq hy
    have hy'' : (bs.map V.bl)[i]? = some (V.bl bs[i]) := by rw [List.getElem?_map, hy']; rfl
    have hz : (pickB (xs.take i) (bs.take i)).length < sizeLine := sz4' (by
      have := pickB_len (xs.take i) (bs.take i)
      rw [List.length_take] at this
      omega)
    refine .inr ⟨⟨xs, _, _, _, qx, qy, hx', hy''⟩, P (i + 1), fun H' p' => ⟨xs.length - (i + 1), by omega, rfl, hlt, p'⟩, fun v H' y => ?_⟩
    obtain ⟨T, x', y', rfl, hT, rfl, f1, f2⟩ := y
    have e1 := (f1 xs qx).symm.trans hx'
    have e2 := (f2 _ qy).symm.trans hy''
    cases e1
    cases e2
    refine hs i xs[i] bs[i] T H _ _ hx' hy' hsame hT (fun hc H4 h4 => ⟨_, h4 _ _ hD, hz, Same.mut (hsame.trans h4) nD, ?_⟩) (fun hc H4 h4 => ⟨hsame.trans h4, ?_⟩)
    · rw [L2.upd_same, pickB_more hx' hy', if_pos hc]
    · rw [h4 _ _ hD, pickB_more hx' hy', if_neg (by rw [hc]; exact Bool.false_ne_true), List.append_nil]
  · have e : i = xs.length := by omega
    subst e
    refine .inl ⟨⟨xs, _, hsame.seq hx, hsame.seq hy, Or.inl (Nat.le_refl _)⟩, hd H hsame ?_⟩
    rw [hD, List.take_length, hl, List.take_length]
theorem i_izip {ta : TA} {R : It → Hp → Prop} (h : ta σ H fun vs H1 => ∃ a b xs ys, vs = [.ref a, .ref b] ∧ SqL K H1 a xs ∧ SqL K H1 b ys ∧ R (Itz K a b) H1) : iZip K ta σ H R := h
theorem i_izip' {R : Addr → Addr → Prop} (h1 : SqL K H a xs) (h2 : SqL K H b ys) (q : R a b) : ∃ a' b' xs ys, [V.ref a, V.ref b] = [.ref a', .ref b'] ∧ SqL K H a' xs ∧ SqL K H b' ys ∧ R a' b' := ⟨a, b, xs, ys, rfl, h1, h2, q⟩
end
theorem pi_zipK {X : Cx} (K : PySem.W.Frag) (eK : X.K = K) {e e2 : Expr} {ta : TA} {p pos tpos : Pos} {elts : List Expr} {kk : Nat} (hg : Gl X "zip") (hm : X.mg "zip" = none) (ha : PA X [e, e2] ta)
    (hs : starEach [e, e2] X.env = (false, eval e X.env) :: starEach [e2] X.env := by rfl) (hpl : (backTo pos (starEach [e2] X.env)).any (·.1) = false := by rfl) :
    PI X (.Tuple elts kk tpos) (.Call (.Name "zip" p) [e, e2] [] pos) (iZip K ta) := by subst eK; exact pi_zip hg hm ha hs hpl
/-! ### lists of one text -/
theorem shaped_str1 {x : Str} (hx : PyData.strOk x = true) : SeqAt.shaped (.list [PyData.str x]) = true := by
  unfold SeqAt.shaped
  simp [PyData.canLay0, PyData.canLayAll0, PyData.depth, PyData.depthAll, hx]
theorem eqv_str1 (x : Str) : PyData.eqv (.list [PyData.str x]) (.list [PyData.str x]) = true := by simp [PyData.eqv, PyData.eqvAll]
theorem i_neS1 {K : PySem.W.Frag} {H : Hp} {Q : VK} {p r : Addr} {x : Str} (h1 : SqL K H p [.str x]) (h2 : SqL K H r [.str x]) (hx : PyData.strOk x = true) (q : Q (.bl false) H) : rNeD K (.ref p) (.ref r) H Q :=
  ⟨_, _, .lst h1 (.cons (.str x) .nil), .lst h2 (.cons (.str x) .nil), shaped_str1 hx, shaped_str1 hx, by rw [eqv_str1]; exact q⟩
theorem i_neT2 {K : PySem.W.Frag} {H : Hp} {Q : VK} {p r : Addr} {a b c d : Int} (h1 : SqT K H p [.int a, .int b]) (h2 : SqT K H r [.int c, .int d]) (q : Q (.bl (!(a == c && (b == d && true)))) H) : rNeD K (.ref p) (.ref r) H Q :=
  ⟨.tuple [.int a, .int b], .tuple [.int c, .int d], .tup h1 (.cons (.int a) (.cons (.int b) .nil)), .tup h2 (.cons (.int c) (.cons (.int d) .nil)), rfl, rfl, by
    have e : PyData.eqv (.tuple [.int a, .int b]) (.tuple [.int c, .int d]) = (a == c && (b == d && true)) := by simp [PyData.eqv, PyData.eqvAll]
    rw [e]
    exact q⟩
end Hf
/-! ## instances, their fields; dicts whose keys are tuples of ints -/
namespace Hf
open PySem PySem.Spec PyProof.Rows L2
section
variable {σ σ' : L2.St} {H : Hp} {Q : VK} {x y v : V} {i j k : Int} {nx bk ct : L2.St → Hp → Prop} {rt : VK} {K : PySem.W.Frag} {a C dx p d : Addr} {fs : List (Str × V)} {f m : Str} {sp : Sp} {E : XK} {kvs : List (List Key × V)} {r : Option V}
def FldR (K : PySem.W.Frag) (f : Str) (x : V) (H : Hp) (Q : VK) : Prop := ∃ a C dx fs v, x = V.ref a ∧ H a = some (.ins C dx fs) ∧ Cls K C ∧ NoAttr K C f ∧ fs.lookup f = some v ∧ Q v H
theorem i_fld {ta : TE} (h : ta σ H fun x H1 => FldR K f x H1 Q) : tFld K ta f σ H Q := h
theorem i_fldR (h : H a = some (.ins C dx fs)) (c : Cls K C) (n : NoAttr K C f) (l : fs.lookup f = some v) (q : Q v H) : FldR K f (.ref a) H Q := ⟨a, C, dx, fs, v, rfl, h, c, n, l, q⟩
def SetR (K : PySem.W.Frag) (f : Str) (y x : V) (H : Hp) (Z : Hp → Prop) : Prop := ∃ a C dx fs, x = V.ref a ∧ H a = some (.ins C dx fs) ∧ Cls K C ∧ NoAttr K C f ∧ fs.length < 1000 ∧ Z (upd H a (.ins C dx (putF f y fs)))
theorem i_sfld {ta tv : TE} (h : tv σ H fun y H1 => ta σ H1 fun x H2 => SetR K f y x H2 (nx σ)) : sFld K ta tv f ⟨nx, rt, bk, ct⟩ σ H := h
theorem i_setR {Z : Hp → Prop} (h : H a = some (.ins C dx fs)) (c : Cls K C) (n : NoAttr K C f) (l : fs.length < 1000) (q : Z (upd H a (.ins C dx (putF f y fs)))) : SetR K f y (.ref a) H Z := ⟨a, C, dx, fs, rfl, h, c, n, l, q⟩
def MethR (C : Addr) (m : Str) (x : V) (H : Hp) (R : Prop) : Prop := ∃ a dx fs, x = V.ref a ∧ H a = some (.ins C dx fs) ∧ fs.lookup m = none ∧ R
theorem i_meth {ta : TE} {t : TA} (h : ta σ H fun x H1 => MethR C m x H1 (t σ H1 fun vs H2 => sp (x :: vs) H2 Q E)) : tMeth C m sp [] E ta t σ H Q := by
  have e : ∀ x : V, (fun vs H2 => sp (x :: (vs ++ [])) H2 Q E) = fun vs H2 => sp (x :: vs) H2 Q E := fun x => by
    funext vs H2
    rw [List.append_nil]
  show ta σ H (fun x H1 => ∃ a dx fs, x = .ref a ∧ H1 a = some (.ins C dx fs) ∧ fs.lookup m = none ∧ t σ H1 fun vs H2 => sp (x :: (vs ++ [])) H2 Q E)
  simp only [e]
  exact h
theorem i_methR {R : Prop} (h : H a = some (.ins C dx fs)) (l : fs.lookup m = none) (q : R) : MethR C m (.ref a) H R := ⟨a, dx, fs, rfl, h, l, q⟩
theorem i_make0 (h : ∀ x dx, H x = none → H dx = none → dx ≠ x → sp [.ref x] (upd (upd H dx (.own x)) x (.ins C dx [])) (fun v H2 => v = .non ∧ Q (.ref x) H2) E) : tMake C sp [] E tNil σ H Q := h
/-! ### dicts by tuples -/
def DgR (y x : V) (H : Hp) (R : Option V → Prop) : Prop := ∃ a o, x = V.ref a ∧ DGet H a y o ∧ R o
theorem i_dnotin {td ty : TE} (h : ty σ H fun y H1 => td σ H1 fun x H2 => DgR y x H2 fun o => Q (.bl (!o.isSome)) H2) : tDNotIn ty td σ H Q := h
theorem i_din {td ty : TE} (h : ty σ H fun y H1 => td σ H1 fun x H2 => DgR y x H2 fun o => Q (.bl o.isSome) H2) : tDIn ty td σ H Q := h
theorem i_dg3 {R : Option V → Prop} (h : H a = some (.dT kvs)) (e : H p = some (.tup [.int i, .int j, .int k])) (q : R (valV kvs [.inl i, .inl j, .inl k])) : DgR (.ref p) (.ref a) H R := ⟨a, _, rfl, DGet.t (k := [.inl i, .inl j, .inl k]) h e, q⟩
theorem i_dg2 {R : Option V → Prop} (h : H a = some (.dT kvs)) (e : H p = some (.tup [.int i, .int j])) (q : R (valV kvs [.inl i, .inl j])) : DgR (.ref p) (.ref a) H R := ⟨a, _, rfl, DGet.t (k := [.inl i, .inl j]) h e, q⟩
def DvR (x y : V) (H : Hp) (Q : VK) : Prop := ∃ a v, x = V.ref a ∧ DGet H a y (some v) ∧ Q v H
theorem i_dget {td ty : TE} (h : td σ H fun x H1 => ty σ H1 fun y H2 => DvR x y H2 Q) : tDGet td ty σ H Q := h
theorem i_dv3 (h : H a = some (.dT kvs)) (e : H p = some (.tup [.int i, .int j, .int k])) (l : valV kvs [.inl i, .inl j, .inl k] = some v) (q : Q v H) : DvR (.ref a) (.ref p) H Q := ⟨a, v, rfl, l ▸ DGet.t (k := [.inl i, .inl j, .inl k]) h e, q⟩
theorem i_dv2 (h : H a = some (.dT kvs)) (e : H p = some (.tup [.int i, .int j])) (l : valV kvs [.inl i, .inl j] = some v) (q : Q v H) : DvR (.ref a) (.ref p) H Q := ⟨a, v, rfl, l ▸ DGet.t (k := [.inl i, .inl j]) h e, q⟩
def DpR (v x y : V) (H : Hp) (Z : Hp → Prop) : Prop := ∃ a H4, x = V.ref a ∧ DPut H a y v H4 ∧ Z H4
theorem i_dput {td ty tv : TE} (h : tv σ H fun v H1 => td σ H1 fun x H2 => ty σ H2 fun y H3 => DpR v x y H3 (nx σ)) : sDPut td ty tv ⟨nx, rt, bk, ct⟩ σ H := h
theorem i_dp3 {Z : Hp → Prop} (h : H a = some (.dT kvs)) (e : H p = some (.tup [.int i, .int j, .int k])) (hz : kvs.length ≤ 1000000) (q : Z (upd H a (.dT (putK kvs [.inl i, .inl j, .inl k] v)))) : DpR v (.ref a) (.ref p) H Z := ⟨a, _, rfl, DPut.t (k := [.inl i, .inl j, .inl k]) h e (sz4' hz), q⟩
theorem i_dp2 {Z : Hp → Prop} (h : H a = some (.dT kvs)) (e : H p = some (.tup [.int i, .int j])) (hz : kvs.length ≤ 1000000) (q : Z (upd H a (.dT (putK kvs [.inl i, .inl j] v)))) : DpR v (.ref a) (.ref p) H Z := ⟨a, _, rfl, DPut.t (k := [.inl i, .inl j]) h e (sz4' hz), q⟩
theorem i_dnewT (h : ∀ p, H p = none → Q (.ref p) (upd H p (.dT []))) : tDNewT σ H Q := h
/-! ### list(range(..)) -/
theorem i_lstRg {te : L2.St → Hp → (Int → Int → Hp → Prop) → Prop} (h : te σ H fun a b H1 => RgOk a b ∧ ∀ q, H1 q = none → Q (.ref q) (upd H1 q (.lst (rgV a b)))) : tLstRg te σ H Q := h
theorem i_rg1 {ta : TE} {R : Int → Int → Hp → Prop} (h : ta σ H fun x H1 => ∃ n, x = .int n ∧ R 0 n H1) : tRg1 ta σ H R := h
theorem i_rg2 {ta tb : TE} {R : Int → Int → Hp → Prop} (h : ta σ H fun x H1 => tb σ H1 fun y H2 => ∃ i j, x = .int i ∧ y = .int j ∧ R i j H2) : tRg2 ta tb σ H R := h
theorem i_rg2' {R : Int → Int → Prop} (q : R i j) : ∃ i' j', V.int i = .int i' ∧ V.int j = .int j' ∧ R i' j' := ⟨i, j, rfl, rfl, q⟩
theorem i_rg1' {R : Int → Prop} (q : R i) : ∃ i', V.int i = .int i' ∧ R i' := ⟨i, rfl, q⟩
theorem i_rgok {R : Addr → Prop} (h0 : 0 ≤ i) (h1 : j ≤ 16777216) (h2 : i ≤ 16777216) (h3 : 0 ≤ j) (q : ∀ q, H q = none → R q) : RgOk i j ∧ ∀ q, H q = none → R q := ⟨.of_le h0 h1 h2 h3, q⟩
end
theorem rg_ints (a b : Int) : rgV a b = ((List.range (b - a).toNat).map fun i : Nat => a + (i : Int)).map V.int := by
  unfold rgV
  rw [List.map_map]
  rfl
theorem But.mut {a : Addr} {H H1 : Hp} {D : Addr} {o : HO} (hp : H D = none) (x : But a H H1) : But a H (L2.upd H1 D o) := fun b u n h => by
  rw [upd_ne (ne_of_none h hp)]
  exact x b u n h
theorem But.mutS {a : Addr} {H H1 H2 : Hp} {D : Addr} (y : But D H1 H2) (hp : H D = none) (x : But a H H1) : But a H H2 := fun b u n h => y b u (ne_of_none h hp) (x b u n h)
end Hf
/-! ## Dat -/
namespace Hf
open PySem PySem.Spec PyProof.Rows L2
/-! ### nested data, each list and tuple tracked -/
mutual
inductive Dq (H : Hp) : V → PyData → Prop
  | non : Dq H .non .none
  | bl (b : Bool) : Dq H (.bl b) (.bool b)
  | int (i : Int) : Dq H (.int i) (.int i)
  | str (x : Str) : Dq H (.str x) (.str x)
  | lst {a : Addr} {xs : List V} {ds : List PyData} : H a = some (.lst xs) → DqAll H xs ds → Dq H (.ref a) (.list ds)
  | tup {a : Addr} {xs : List V} {ds : List PyData} : H a = some (.tup xs) → DqAll H xs ds → Dq H (.ref a) (.tuple ds)
inductive DqAll (H : Hp) : List V → List PyData → Prop
  | nil : DqAll H [] []
  | cons {v : V} {vs : List V} {d : PyData} {ds : List PyData} : Dq H v d → DqAll H vs ds → DqAll H (v :: vs) (d :: ds)
end
mutual
theorem Dq.same {H H' : Hp} (s : Same H H') : ∀ {v : V} {d : PyData}, Dq H v d → Dq H' v d
  | _, _, .non => .non
  | _, _, .bl b => .bl b
  | _, _, .int i => .int i
  | _, _, .str x => .str x
  | _, _, .lst h q => .lst (s _ _ h) (DqAll.same s q)
  | _, _, .tup h q => .tup (s _ _ h) (DqAll.same s q)
theorem DqAll.same {H H' : Hp} (s : Same H H') : ∀ {vs : List V} {ds : List PyData}, DqAll H vs ds → DqAll H' vs ds
  | _, _, .nil => .nil
  | _, _, .cons h q => .cons (Dq.same s h) (DqAll.same s q)
end
mutual
theorem Dq.dp {K : PySem.W.Frag} {H : Hp} : ∀ {v : V} {d : PyData}, Dq H v d → Dp K H v d
  | _, _, .non => .non
  | _, _, .bl b => .bl b
  | _, _, .int i => .int i
  | _, _, .str x => .str x
  | _, _, .lst h q => .lst (SqL.of h) (DqAll.dp q)
  | _, _, .tup h q => .tup (SqT.of h) (DqAll.dp q)
theorem DqAll.dp {K : PySem.W.Frag} {H : Hp} : ∀ {vs : List V} {ds : List PyData}, DqAll H vs ds → DpAll K H vs ds
  | _, _, .nil => .nil
  | _, _, .cons h q => .cons (Dq.dp h) (DqAll.dp q)
end
mutual
theorem Dq.eqv {H : Hp} : ∀ {v : V} {d : PyData}, Dq H v d → PyData.eqv d d = true
  | _, _, .non => by simp [PyData.eqv]
  | _, _, .bl b => by simp [PyData.eqv]
  | _, _, .int i => by simp [PyData.eqv]
  | _, _, .str x => by simp [PyData.eqv]
  | _, _, .lst _ q => by rw [PyData.eqv]; exact DqAll.eqv q
  | _, _, .tup _ q => by rw [PyData.eqv]; exact DqAll.eqv q
theorem DqAll.eqv {H : Hp} : ∀ {vs : List V} {ds : List PyData}, DqAll H vs ds → PyData.eqvAll ds ds = true
  | _, _, .nil => by simp [PyData.eqvAll]
  | _, _, .cons h q => by rw [PyData.eqvAll, Dq.eqv h, DqAll.eqv q]; rfl
end
section
variable {H : Hp} {v : V} {vs : List V} {ds : List PyData} {i : Int} {x : Str}
theorem Dq.list_inv (h : Dq H v (.list ds)) : ∃ a xs, v = .ref a ∧ H a = some (.lst xs) ∧ DqAll H xs ds := by
  cases h with
  | lst h q => exact ⟨_, _, rfl, h, q⟩
theorem Dq.tuple_inv (h : Dq H v (.tuple ds)) : ∃ a xs, v = .ref a ∧ H a = some (.tup xs) ∧ DqAll H xs ds := by
  cases h with
  | tup h q => exact ⟨_, _, rfl, h, q⟩
theorem Dq.int_inv (h : Dq H v (.int i)) : v = .int i := by
  cases h
  rfl
theorem Dq.str_inv (h : Dq H v (.str x)) : v = .str x := by
  cases h
  rfl
theorem DqAll.len : ∀ {vs : List V} {ds : List PyData}, DqAll H vs ds → vs.length = ds.length
  | _, _, .nil => rfl
  | _, _, .cons _ q => by rw [List.length_cons, List.length_cons, DqAll.len q]
theorem DqAll.get : ∀ {vs : List V} {ds : List PyData}, DqAll H vs ds → ∀ {k : Nat} {d : PyData}, ds[k]? = some d → ∃ w, vs[k]? = some w ∧ Dq H w d
  | _, _, .nil, k, d, h => by simp at h
  | _, _, .cons h _, 0, d, e => by
    rw [List.getElem?_cons_zero] at e
    cases e
    exact ⟨_, rfl, h⟩
  | _, _, .cons _ q, k + 1, d, e => by
    rw [List.getElem?_cons_succ] at e
    obtain ⟨w, h1, h2⟩ := DqAll.get q e
    exact ⟨w, by rw [List.getElem?_cons_succ]; exact h1, h2⟩
theorem DqAll.get' : ∀ {vs : List V} {ds : List PyData}, DqAll H vs ds → ∀ {k : Nat} {w : V}, vs[k]? = some w → ∃ d, ds[k]? = some d ∧ Dq H w d
  | _, _, .nil, k, d, h => by simp at h
  | _, _, .cons h _, 0, d, e => by
    rw [List.getElem?_cons_zero] at e
    cases e
    exact ⟨_, rfl, h⟩
  | _, _, .cons _ q, k + 1, d, e => by
    rw [List.getElem?_cons_succ] at e
    obtain ⟨w, h1, h2⟩ := DqAll.get' q e
    exact ⟨w, by rw [List.getElem?_cons_succ]; exact h1, h2⟩
theorem dq_ints : ∀ ms : List Int, DqAll H (ms.map V.int) (ms.map PyData.int)
  | [] => .nil
  | m :: ms => .cons (.int m) (dq_ints ms)
theorem DqAll.ints : ∀ {vs : List V} {ms : List Int}, DqAll H vs (ms.map PyData.int) → vs = ms.map V.int
  | _, [], h => by cases h; rfl
  | _, m :: ms, h => by
    cases h with
    | cons h q =>
      rw [Dq.int_inv h, DqAll.ints q]
      rfl
theorem DqAll.snoc : ∀ {vs : List V} {ds : List PyData} {w : V} {d : PyData}, DqAll H vs ds → Dq H w d → DqAll H (vs ++ [w]) (ds ++ [d])
  | _, _, _, _, .nil, h => .cons h .nil
  | _, _, _, _, .cons h q, g => .cons h (DqAll.snoc q g)
end
/-- == of nested data -/
theorem i_eqDq {K : PySem.W.Frag} {H : Hp} {Q : VK} {v w : V} {d e : PyData} (h1 : Dq H v d) (h2 : Dq H w e) (s1 : SeqAt.shaped d = true) (s2 : SeqAt.shaped e = true) (q : Q (.bl (PyData.eqv d e)) H) : rEqD K v w H Q := ⟨d, e, h1.dp, h2.dp, s1, s2, q⟩
theorem i_neDq {K : PySem.W.Frag} {H : Hp} {Q : VK} {v w : V} {d : PyData} (h1 : Dq H v d) (h2 : Dq H w d) (s1 : SeqAt.shaped d = true) (q : Q (.bl false) H) : rNeD K v w H Q := ⟨d, d, h1.dp, h2.dp, s1, s1, by
  rw [h1.eqv]
  exact q⟩

/-! ### a heap without some of its objects -/
def hid (S : List Addr) (H : Hp) : Hp := fun b => if b ∈ S then none else H b
section
variable {S : List Addr} {H H' : Hp} {a b : Addr} {o : HO}
theorem hid_in (h : a ∈ S) : hid S H a = none := if_pos h
theorem hid_out (h : a ∉ S) : hid S H a = H a := if_neg h
theorem hid_same : Same (hid S H) H := fun b o h => by
  by_cases c : b ∈ S
  · rw [hid_in c] at h
    cases h
  · rw [hid_out c] at h
    exact h
theorem hid_mono (s : Same H H') : Same (hid S H) (hid S H') := fun b o h => by
  by_cases c : b ∈ S
  · rw [hid_in c] at h
    cases h
  · rw [hid_out c] at h ⊢
    exact s b o h
theorem hid_but (ha : a ∈ S) (s : But a H H') : Same (hid S H) (hid S H') := fun b o h => by
  by_cases c : b ∈ S
  · rw [hid_in c] at h
    cases h
  · rw [hid_out c] at h ⊢
    exact s b o (fun e => c (e ▸ ha)) h
theorem hid_upd (ha : a ∈ S) : Same (hid S H) (hid S (upd H a o)) := hid_but ha (But.upd (But.refl _ _))
theorem hid_lk (h : a ∉ S) (e : H a = some o) : hid S H a = some o := by
  rw [hid_out h]
  exact e
theorem not_in2 {a b c : Addr} (h1 : a ≠ b) (h2 : a ≠ c) : a ∉ [b, c] := by
  intro h
  rcases List.mem_cons.mp h with g | g
  · exact h1 g
  · exact h2 (List.mem_singleton.mp g)
theorem not_in1 {a b : Addr} (h1 : a ≠ b) : a ∉ [b] := fun h => h1 (List.mem_singleton.mp h)
end
theorem rng_map {α β : Type} (f : Nat → β) (g : α → β) (m : List α) (h : ∀ (i : Nat) (x : α), m[i]? = some x → f i = g x) : (List.range m.length).map f = m.map g := by
  apply List.ext_getElem?
  intro i
  rw [List.getElem?_map, List.getElem?_map]
  by_cases c : i < m.length
  · rw [List.getElem?_range c, List.getElem?_eq_getElem c]
    show some (f i) = some (g m[i])
    rw [h i _ (List.getElem?_eq_getElem c)]
  · rw [List.getElem?_eq_none (by rw [List.length_range]; omega), List.getElem?_eq_none (by omega)]
    rfl
theorem take_snoc {α : Type} {m : List α} {i : Nat} {x : α} (h : m[i]? = some x) : m.take (i + 1) = m.take i ++ [x] := by
  rw [List.take_add_one, h]
  rfl
theorem same_hid1 {G H : Hp} {a : Addr} (s : Same G H) (h1 : G a = none) : Same G (hid [a] H) := fun b o e => by
  rw [hid_out (not_in1 (ne_of_none e h1))]
  exact s b o e
theorem same_hid2 {G H : Hp} {a c : Addr} (s : Same G H) (h1 : G a = none) (h2 : G c = none) : Same G (hid [a, c] H) := fun b o e => by
  rw [hid_out (not_in2 (ne_of_none e h1) (ne_of_none e h2))]
  exact s b o e
theorem But.mutD {a : Addr} {H H1 : Hp} {D : Addr} {o : HO} (hp : H D = none) (x : But a H H1) : But a H (L2.upd H1 D o) := fun b u n h => by
  rw [upd_ne (ne_of_none h hp)]
  exact x b u n h
theorem But.mutSD {a : Addr} {H H1 H2 : Hp} {D : Addr} (y : But D H1 H2) (hp : H D = none) (x : But a H H1) : But a H H2 := fun b u n h => y b u (ne_of_none h hp) (x b u n h)
theorem DqAll.reverse {H : Hp} : ∀ {vs : List V} {ds : List PyData}, DqAll H vs ds → DqAll H vs.reverse ds.reverse
  | _, _, .nil => .nil
  | _, _, .cons h q => by
    rw [List.reverse_cons, List.reverse_cons]
    exact DqAll.snoc (DqAll.reverse q) h
theorem i_reverseV {H : Hp} {p : Addr} {xs : List V} {Q : VK} (h : H p = some (.lst xs)) (q : Q .non (upd H p (.lst xs.reverse))) : rReverse (.ref p) [] H Q := ⟨p, _, rfl, rfl, h, q⟩
theorem i_revV {K : PySem.W.Frag} {xs : List V} {p : Addr} {H : Hp} {R : Addr → List V → Prop} (h : SqL K H p xs) (q : R p xs) : ∃ a xs, V.ref p = .ref a ∧ SqL K H a xs ∧ R a xs := ⟨p, _, rfl, h, q⟩
theorem i_neL2 {K : PySem.W.Frag} {H : Hp} {Q : VK} {p r : Addr} {ms : List Int} {x y : Int} (h1 : SqL K H p (ms.map V.int)) (h2 : SqL K H r [.int x, .int y]) (q : Q (.bl (!decide (ms = [x, y]))) H) : rNeD K (.ref p) (.ref r) H Q := i_neLI (ns := [x, y]) h1 h2 q
theorem pe_revLK {X : L2.Cx} (K : PySem.W.Frag) (eK : X.K = K) {e : Expr} {te : TE} {k : Nat} {p1 p2 p3 pos : Pos} (he : PE X e te) : PE X (.Subscript e (.Slice none none (some (.UnaryOp .USub (.Constant (.int 1) k p1) p2)) p3) pos) (tRevL K te) := by
  subst eK
  exact pe_revL he
theorem i_rev {K : PySem.W.Frag} {te : TE} {σ : L2.St} {H : Hp} {Q : VK} (h : te σ H fun x H1 => ∃ a xs, x = .ref a ∧ SqL K H1 a xs ∧ ∀ p, H1 p = none → Q (.ref p) (upd H1 p (.lst xs.reverse))) : tRevL K te σ H Q := h
theorem i_rev' {K : PySem.W.Frag} {ms : List Int} {p : Addr} {H : Hp} {R : Addr → List V → Prop} (h : SqL K H p (ms.map V.int)) (q : R p (ms.map V.int)) : ∃ a xs, V.ref p = .ref a ∧ SqL K H a xs ∧ R a xs := ⟨p, _, rfl, h, q⟩
theorem DqAll.take {H : Hp} : ∀ (n : Nat) {vs : List V} {ds : List PyData}, DqAll H vs ds → DqAll H (vs.take n) (ds.take n)
  | 0, _, _, _ => .nil
  | _ + 1, _, _, .nil => .nil
  | n + 1, _, _, .cons h q => .cons h (DqAll.take n q)
theorem DqAll.drop {H : Hp} : ∀ (n : Nat) {vs : List V} {ds : List PyData}, DqAll H vs ds → DqAll H (vs.drop n) (ds.drop n)
  | 0, _, _, q => q
  | _ + 1, _, _, .nil => .nil
  | n + 1, _, _, .cons _ q => DqAll.drop n q
end Hf
/-! ## Mixes -/
namespace Hf
open PySem PySem.Spec PyProof.Rows L2
/-! ### mixes -/
def planD (p : List Int) : PyData := .list (p.map PyData.int)
def partD (pw : List Int × Int) : PyData := .tuple [planD pw.1, .int pw.2]
def mixD (m : List (List Int × Int)) : PyData := .list (m.map partD)
/-- a plan of so many hosts and fields -/
def PlanC (h : Int) (n : Nat) (p : List Int) : Prop := p.length = n ∧ p.sum = h ∧ ∀ x ∈ p, 0 ≤ x
structure MixOk (h : Int) (n : Nat) (m : List (List Int × Int)) : Prop where
  ne : 1 ≤ m.length ∧ m.length ≤ 100
  fl : 1 ≤ n ∧ n ≤ 8
  ho : 0 ≤ h ∧ h ≤ 40
  pl : ∀ pw ∈ m, PlanC h n pw.1 ∧ 1 ≤ pw.2
section
variable {H : Hp} {v : V} {m : List (List Int × Int)} {xs : List V}
/-- a part: its tuple, its plan's list -/
theorem part_inv {pw : List Int × Int} (h : Dq H v (partD pw)) : ∃ t p, v = .ref t ∧ H t = some (.tup [.ref p, .int pw.2]) ∧ H p = some (.lst (pw.1.map V.int)) := by
  obtain ⟨t, xs, rfl, h1, h2⟩ := h.tuple_inv
  cases h2 with
  | cons a b =>
    cases b with
    | cons c d =>
      cases d
      obtain ⟨p, ys, rfl, h3, h4⟩ := Dq.list_inv a
      obtain rfl := Dq.int_inv c
      obtain rfl := DqAll.ints h4
      exact ⟨t, p, rfl, h1, h3⟩
theorem mix_inv (h : Dq H v (mixD m)) : ∃ a xs, v = .ref a ∧ H a = some (.lst xs) ∧ xs.length = m.length ∧ ∀ (k : Nat) (w : V), xs[k]? = some w → ∃ pw t p, m[k]? = some pw ∧ w = .ref t ∧ H t = some (.tup [.ref p, .int pw.2]) ∧ H p = some (.lst (pw.1.map V.int)) := by
  obtain ⟨a, xs, rfl, h1, h2⟩ := h.list_inv
  refine ⟨a, xs, rfl, h1, by rw [h2.len, List.length_map], fun k w hw => ?_⟩
  obtain ⟨d, e, q⟩ := h2.get' hw
  rw [List.getElem?_map] at e
  cases g : m[k]? with
  | none => rw [g] at e; cases e
  | some pw =>
    rw [g] at e
    cases e
    obtain ⟨t, p, e1, e2, e3⟩ := part_inv q
    exact ⟨pw, t, p, rfl, e1, e2, e3⟩
end
theorem shaped_mix (m : List (List Int × Int)) : SeqAt.shaped (mixD m) = true := by
  have h1 : ∀ m : List (List Int × Int), PyData.canLayAll0 (m.map partD) = true := by
    intro m
    induction m with
    | nil => simp [PyData.canLayAll0]
    | cons pw m ih =>
      rw [List.map_cons, PyData.canLayAll0, ih]
      simp [partD, planD, PyData.canLay0, PyData.canLayAll0, canLay_ints]
  have h2 : ∀ m : List (List Int × Int), PyData.depthAll (m.map partD) ≤ 3 := by
    intro m
    induction m with
    | nil => simp [PyData.depthAll]
    | cons pw m ih =>
      have := depth_ints pw.1
      rw [List.map_cons, PyData.depthAll]
      simp [partD, planD, PyData.depth, PyData.depthAll]
      omega
  unfold SeqAt.shaped
  have a := h1 m
  have b := h2 m
  simp [mixD, PyData.canLay0, PyData.depth, a]
  omega

theorem dq_mix {G H : Hp} {a : Addr} {xs : List V} {m : List (List Int × Int)} (q : DqAll G xs (m.map partD)) (h : H a = some (.lst xs)) (s : Same G H) : Dq H (.ref a) (mixD m) := .lst h (DqAll.same s q)
theorem part_mk {H : Hp} {t p : Addr} {ms : List Int} {w : Int} (h1 : H t = some (.tup [.ref p, .int w])) (h2 : H p = some (.lst (ms.map V.int))) : Dq H (.ref t) (partD (ms, w)) := .tup h1 (.cons (.lst h2 (dq_ints ms)) (.cons (.int w) .nil))
/-- a part of a mix, by its place -/
theorem part_at {G : Hp} {xs : List V} {m : List (List Int × Int)} (q : DqAll G xs (m.map partD)) {k : Nat} {w : V} (hw : xs[k]? = some w) : ∃ pw t p, m[k]? = some pw ∧ w = .ref t ∧ G t = some (.tup [.ref p, .int pw.2]) ∧ G p = some (.lst (pw.1.map V.int)) := by
  obtain ⟨d, e, q⟩ := q.get' hw
  rw [List.getElem?_map] at e
  cases g : m[k]? with
  | none => rw [g] at e; cases e
  | some pw =>
    rw [g] at e
    cases e
    obtain ⟨t, p, e1, e2, e3⟩ := part_inv q
    exact ⟨pw, t, p, rfl, e1, e2, e3⟩
def whole (m : List (List Int × Int)) : Int := (m.map Prod.snd).sum
def due : List (List Int × Int) → Int → List Int
  | [], _ => []
  | pw :: r, k => if k < pw.2 then pw.1 else due r (k - pw.2)
theorem whole_cons {pw : List Int × Int} {r : List (List Int × Int)} : whole (pw :: r) = pw.2 + whole r := by
  unfold whole
  rw [List.map_cons, List.sum_cons]
theorem whole_app {m r : List (List Int × Int)} : whole (m ++ r) = whole m + whole r := by
  unfold whole
  rw [List.map_append, List.sum_append]
theorem drop_get {α : Type} {m : List α} {i : Nat} {x : α} (h : m[i]? = some x) : m.drop i = x :: m.drop (i + 1) := by
  obtain ⟨hi, rfl⟩ := List.getElem?_eq_some_iff.mp h
  exact List.drop_eq_getElem_cons hi
theorem MixOk.len (h n) {m} (k : MixOk h n m) : 1 ≤ m.length := k.ne.1
theorem MixOk.whole_pos {h n m} (k : MixOk h n m) : (m.length : Int) ≤ whole m := by
  have : ∀ r : List (List Int × Int), (∀ pw ∈ r, 1 ≤ pw.2) → (r.length : Int) ≤ whole r := by
    intro r
    induction r with
    | nil => intro _; exact Int.le_refl _
    | cons pw r ih =>
      intro g
      have := ih fun x hx => g x (List.mem_cons_of_mem _ hx)
      have := g pw (List.mem_cons_self)
      rw [whole_cons, List.length_cons]
      omega
  exact this m fun pw hp => (k.pl pw hp).2
/-- weights of a drawn mix -/
def WtOk (m : List (List Int × Int)) : Prop := m.length ≤ 20 ∧ ∀ pw ∈ m, pw.2 ≤ 10000000000000000000000000000
theorem WtOk.le {m} (k : WtOk m) : whole m ≤ 200000000000000000000000000000 := by
  have : ∀ r : List (List Int × Int), (∀ pw ∈ r, pw.2 ≤ 10000000000000000000000000000) → whole r ≤ 10000000000000000000000000000 * (r.length : Int) := by
    intro r
    induction r with
    | nil => intro _; exact Int.le_refl _
    | cons pw r ih =>
      intro g
      have := ih fun x hx => g x (List.mem_cons_of_mem _ hx)
      have := g pw (List.mem_cons_self)
      rw [whole_cons, List.length_cons]
      omega
  have h1 := this m k.2
  have h2 := k.1
  omega
theorem whole_nn : ∀ r : List (List Int × Int), (∀ pw ∈ r, 1 ≤ pw.2) → 0 ≤ whole r := by
  intro r
  induction r with
  | nil => intro _; exact Int.le_refl _
  | cons pw r ih =>
    intro g
    have := ih fun x hx => g x (List.mem_cons_of_mem _ hx)
    have := g pw (List.mem_cons_self)
    rw [whole_cons]
    omega
theorem MixOk.at {h : Int} {n : Nat} {m : List (List Int × Int)} {i : Nat} {pw : List Int × Int} (k : MixOk h n m) (e : m[i]? = some pw) : 0 ≤ whole (m.take i) ∧ 1 ≤ pw.2 ∧ whole (m.take (i + 1)) = whole (m.take i) + pw.2 ∧ whole (m.take i) + pw.2 ≤ whole m := by
  have h1 := whole_nn (m.take i) fun x hx => (k.pl x (List.mem_of_mem_take hx)).2
  have h2 := whole_nn (m.drop (i + 1)) fun x hx => (k.pl x (List.mem_of_mem_drop hx)).2
  have h3 : whole m = whole (m.take i) + whole (m.drop i) := by rw [← whole_app, List.take_append_drop]
  rw [drop_get e, whole_cons] at h3
  have h4 := (k.pl pw (List.mem_of_getElem? e)).2
  refine ⟨h1, h4, ?_, by omega⟩
  rw [take_snoc e, whole_app]
  simp [whole]
theorem MixOk.reverse {h : Int} {n : Nat} {m : List (List Int × Int)} (k : MixOk h n m) : MixOk h n m.reverse := ⟨by rw [List.length_reverse]; exact k.ne, k.fl, k.ho, fun pw hp => k.pl pw (List.mem_reverse.mp hp)⟩
theorem whole_reverse (m : List (List Int × Int)) : whole m.reverse = whole m := by
  induction m with
  | nil => rfl
  | cons pw m ih =>
    rw [List.reverse_cons, whole_app, whole_cons, ih]
    simp [whole]
    omega
theorem due_last : ∀ (m : List (List Int × Int)) {p : List Int} {w z : Int}, (∀ pw ∈ m, 1 ≤ pw.2) → whole m ≤ z → z < whole m + w → due (m ++ [(p, w)]) z = p
  | [], p, w, z, _, h1, h2 => by
    simp [whole] at h1 h2
    show due [(p, w)] z = p
    rw [due, if_pos h2]
  | pw :: m, p, w, z, h0, h1, h2 => by
    rw [whole_cons] at h1 h2
    have := whole_nn m fun x hx => h0 x (List.mem_cons_of_mem _ hx)
    show due (pw :: (m ++ [(p, w)])) z = p
    rw [due, if_neg (by omega)]
    exact due_last m (fun x hx => h0 x (List.mem_cons_of_mem _ hx)) (by omega) (by omega)
theorem DqAll.revm {H : Hp} {vs : List V} {m : List (List Int × Int)} (q : DqAll H vs (m.map partD)) : DqAll H vs.reverse (m.reverse.map partD) := by
  rw [List.map_reverse]
  exact q.reverse
theorem dq_two {H : Hp} {a t1 t2 p1 p2 : Addr} {w1 w2 x1 y1 x2 y2 : Int} (h : H a = some (.lst [.ref t1, .ref t2])) (h1 : H t1 = some (.tup [.ref p1, .int w1])) (h2 : H t2 = some (.tup [.ref p2, .int w2])) (h3 : H p1 = some (.lst [.int x1, .int y1])) (h4 : H p2 = some (.lst [.int x2, .int y2])) : Dq H (.ref a) (mixD [([x1, y1], w1), ([x2, y2], w2)]) :=
  .lst h (.cons (part_mk h1 h3) (.cons (part_mk h2 h4) .nil))
theorem MixOk.snoc {h : Int} {n : Nat} {m : List (List Int × Int)} {p : List Int} {w : Int} (k : MixOk h n m) (hp : PlanC h n p) (hw : 1 ≤ w) (hl : m.length ≤ 50) : MixOk h n (m ++ [(p, w)]) := ⟨by simp; omega, k.fl, k.ho, fun pw hpw => by
  rcases List.mem_append.mp hpw with g | g
  · exact k.pl pw g
  · rw [List.mem_singleton.mp g]
    exact ⟨hp, hw⟩⟩
theorem due_len {k : Nat} : ∀ (m : List (List Int × Int)) (z : Int), (∀ pw ∈ m, pw.1.length ≤ k) → (due m z).length ≤ k
  | [], _, _ => Nat.zero_le _
  | pw :: m, z, h => by
    rw [due]
    split
    · exact h pw (List.mem_cons_self)
    · exact due_len m _ fun x hx => h x (List.mem_cons_of_mem _ hx)
theorem MixOk.due_len {h : Int} {n : Nat} {m : List (List Int × Int)} (k : MixOk h n m) (z : Int) : (due m z).length ≤ 8 := Hf.due_len m z fun pw hp => by
  have := (k.pl pw hp).1.1
  have := k.fl.2
  omega
end Hf
/-! ## what is new -/
namespace Hf
open PySem PySem.Spec PyProof.Rows L2
/-! ### what is new -/
/-- what stands in G does not stand in H -/
def Newly (H G : Hp) : Prop := ∀ b o, H b = some o → G b = none
/-- what stands in H' and not in H, but for S -/
def fr (S : List Addr) (H H' : Hp) : Hp := fun b => if b ∈ S then none else match H b with
  | none => H' b
  | some _ => none
section
variable {S : List Addr} {H H' H1 H2 G : Hp} {a p : Addr} {o u : HO}
theorem fr_same : Same (fr S H H') H' := fun b o h => by
  unfold fr at h
  split at h
  · cases h
  · split at h
    · exact h
    · cases h
theorem fr_newly : Newly H (fr S H H') := fun b o h => by
  unfold fr
  split
  · rfl
  · rw [h]
theorem fr_in (h : a ∈ S) : fr S H H' a = none := if_pos h
theorem fr_lk (n : a ∉ S) (h : H a = none) (e : H' a = some o) : fr S H H' a = some o := by
  unfold fr
  rw [if_neg n, h]
  exact e
theorem fr_lk0 (h : H a = none) (e : H' a = some o) : fr [] H H' a = some o := fr_lk (by simp) h e
theorem fr_lk1 (n : a ≠ p) (h : H a = none) (e : H' a = some o) : fr [p] H H' a = some o := fr_lk (not_in1 n) h e
theorem fr_lk2 {q : Addr} (n : a ≠ p) (m : a ≠ q) (h : H a = none) (e : H' a = some o) : fr [p, q] H H' a = some o := fr_lk (not_in2 n m) h e
theorem fr_mono (s : Same H1 H2) : Same (fr S H H1) (fr S H H2) := fun b o h => by
  unfold fr at h ⊢
  split
  · next c => rw [if_pos c] at h; cases h
  · next c =>
    rw [if_neg c] at h
    split
    · next c2 => rw [c2] at h; exact s _ _ h
    · next c2 => rw [c2] at h; cases h
theorem fr_sub : Same (fr S H H') (fr [] H H') := fun b o h => by
  unfold fr at h ⊢
  split at h
  · cases h
  · rw [if_neg (by simp)]
    exact h
theorem fr_but (ha : a ∈ S) (s : But a H1 H2) : Same (fr S H H1) (fr S H H2) := fun b o h => by
  unfold fr at h ⊢
  split
  · next c => rw [if_pos c] at h; cases h
  · next c =>
    rw [if_neg c] at h
    split
    · next c2 => rw [c2] at h; exact s _ _ (fun e => c (e ▸ ha)) h
    · next c2 => rw [c2] at h; cases h
theorem fr_butK (ha : H a = some o) (s : But a H1 H2) : Same (fr S H H1) (fr S H H2) := fun b u h => by
  unfold fr at h ⊢
  split
  · next c => rw [if_pos c] at h; cases h
  · next c =>
    rw [if_neg c] at h
    split
    · next c2 => rw [c2] at h; exact s _ _ (fun e => by rw [e, ha] at c2; cases c2) h
    · next c2 => rw [c2] at h; cases h
theorem fr_upd (ha : a ∈ S) : Same (fr S H H1) (fr S H (upd H1 a o)) := fr_but ha (But.upd (But.refl _ _))
/-- all of G is new, and in H' -/
theorem Newly.same (n : Newly H G) (s : Same G H') : Same G (fr [] H H') := fun b o h => by
  refine fr_lk0 ?_ (s _ _ h)
  cases e : H b with
  | none => rfl
  | some u => rw [n b u e] at h; cases h
theorem Newly.same1 (n : Newly H G) (s : Same G H') (hp : G p = none) : Same G (fr [p] H H') := fun b o h => by
  refine fr_lk1 (ne_of_none h hp) ?_ (s _ _ h)
  cases e : H b with
  | none => rfl
  | some u => rw [n b u e] at h; cases h
theorem Newly.same2 {q : Addr} (n : Newly H G) (s : Same G H') (hp : G p = none) (hq : G q = none) : Same G (fr [p, q] H H') := fun b o h => by
  refine fr_lk2 (ne_of_none h hp) (ne_of_none h hq) ?_ (s _ _ h)
  cases e : H b with
  | none => rfl
  | some u => rw [n b u e] at h; cases h
theorem Newly.free (n : Newly H G) (h : H p = some o) : G p = none := n p o h
theorem Newly.back (n : Newly H1 G) (s : Same H H1) : Newly H G := fun b o h => n b o (s b o h)
theorem Newly.backB (n : Newly H1 G) (s : But a H H1) (h : G a = none) : Newly H G := fun b o e => by
  by_cases c : b = a
  · rw [c]; exact h
  · exact n b o (s b o c e)
end
/-! ### the purse of draws: where it stands and how often it was drawn from -/
def Left (n m : Int) : Prop := m = 1 ∨ (m = 0 ∧ 0 ≤ n ∧ n < 2147483629)
def Pk (a : Addr) (m : Int) (H : Hp) (c0 : Int) : Prop := ∃ n c, H a = some (.lst [.int n, .int m, .int c]) ∧ Left n m ∧ 0 ≤ c ∧ c ≤ c0
section
variable {a b p : Addr} {m c0 c1 : Int} {H H' H1 G : Hp} {o : HO}
theorem Pk.mono (h : Pk a m H c0) (e : c0 ≤ c1) : Pk a m H c1 := by
  obtain ⟨n, c, h1, h2, h3, h4⟩ := h
  exact ⟨n, c, h1, h2, h3, by omega⟩
theorem Pk.cast (h : Pk a m H c0) (e : c0 = c1) : Pk a m H c1 := e ▸ h
theorem Pk.same (h : Pk a m H c0) (s : Same H H') : Pk a m H' c0 := by
  obtain ⟨n, c, h1, h2, h3⟩ := h
  exact ⟨n, c, s _ _ h1, h2, h3⟩
theorem Pk.new (h : Pk a m H c0) (hp : H p = none) : Pk a m (upd H p o) c0 := h.same (Same.new hp)
theorem Pk.upd (h : Pk a m H c0) (hp : p ≠ a) : Pk a m (upd H p o) c0 := by
  obtain ⟨n, c, h1, h2, h3⟩ := h
  exact ⟨n, c, by rw [upd_ne hp.symm]; exact h1, h2, h3⟩
theorem Pk.but (h : Pk a m H c0) (s : But p H H') (hp : p ≠ a) : Pk a m H' c0 := by
  obtain ⟨n, c, h1, h2, h3⟩ := h
  exact ⟨n, c, s _ _ hp.symm h1, h2, h3⟩
theorem Pk.newT (hp : H p = none) (h : Pk a m H c0) : Pk a m (L2.upd H p o) c0 := h.new hp
theorem Pk.sameT (s : Same H H') (h : Pk a m H c0) : Pk a m H' c0 := h.same s
theorem Pk.ne (n : H p = none) (h : Pk a m H c0) : p ≠ a := by
  obtain ⟨_, _, h1, _⟩ := h
  exact (ne_of_none h1 n).symm
theorem Pk.neo (n : G a = none) (h : G p = some o) : p ≠ a := ne_of_none h n
theorem Pk.some (h : Pk a m H c0) : ∃ o, H a = some o := by
  obtain ⟨_, _, h1, _⟩ := h
  exact ⟨_, h1⟩
theorem Pk.free (hn : H' p = none) (e : But a H H') (h : Pk a m H' c0) : H p = none := by
  obtain ⟨_, _, h1, _⟩ := h
  exact But.free hn e h1
theorem Newly.pk (n : Newly H G) (h : Pk a m H c0) : G a = none := by
  obtain ⟨_, _, h1, _⟩ := h
  exact n.free h1
theorem fr_butP {S : List Addr} {H2 : Hp} (h : Pk a m H c0) (s : But a H1 H2) : Same (fr S H H1) (fr S H H2) := by
  obtain ⟨_, _, h1, _⟩ := h
  exact fr_butK h1 s
theorem Newly.backP (n : Newly H1 G) (s : But a H H1) (h : Pk a m H1 c0) : Newly H G := n.backB s (n.pk h)
theorem pk_new {n z : Int} {p : Addr} (h : Left n z) : Pk p z (L2.upd H p (.lst [.int n, .int z, .int 0])) 0 := ⟨n, 0, upd_same, h, Int.le_refl _, Int.le_refl _⟩
end
/-! ### comprehensions that draw -/
section
variable {σ : L2.St} {H H1 : Hp} {Q : VK} {K : PySem.W.Frag} {D a l : Addr} {wi : TI} {g : TG} {tt : TT} {te : TE} {vs : List Nat} {lo : Int} {n : Nat} {xs : List V} {Qd : Hp → Prop}
theorem inc_snoc {c0 inc : Int} {i : Nat} : c0 + inc * (i : Int) + inc = c0 + inc * ((i + 1 : Nat) : Int) := by
  rw [show ((i + 1 : Nat) : Int) = (i : Int) + 1 from rfl, Int.mul_add, Int.mul_one]
  omega
theorem lcR_pk {m c0 : Int} (Pz : Int → Prop) (inc : Int) (hp : Pk a m H1 c0) (nD : H1 D = none) (hn : n ≤ 1000000)
    (hs : ∀ (i : Nat) H (Z : VK) (Y : Hp → Prop), i < n → Pk a m H (c0 + inc * (i : Int)) → But a H1 H → (∀ z H4, Pz z → Pk a m H4 (c0 + inc * (i : Int) + inc) → But a H H4 → Z (.int z) H4) → LcTurn g tt te vs σ (.int (lo + i)) H Z Y)
    (hd : ∀ (ms : List Int) H, ms.length = n → (∀ z ∈ ms, Pz z) → H D = some (.lst (ms.map V.int)) → Pk a m H (c0 + inc * (n : Int)) → But a H1 H → Qd H) :
    ∃ W : Nat → Nat → Hp → Prop, (∃ m, W 0 m (upd H1 D (.lst []))) ∧ ∀ i m H, W i m H →
      ((Itr lo n).stop i H ∧ Qd H) ∨ ((Itr lo n).go i H ∧ ∃ Nx : Hp → Prop, (∀ H', Nx H' → ∃ m', m' < m ∧ W (i + 1) m' H') ∧ ∀ x H', (Itr lo n).yld i H x H' → g x (wipe σ vs) H' fun σ2 H2 => wipe σ2 vs = wipe σ vs ∧ tt σ2 H2 fun b H3 =>
        if b = true then te σ2 H3 fun y H4 => ∃ acc, H4 D = some (.lst acc) ∧ acc.length < sizeLine ∧ Nx (upd H4 D (.lst (acc ++ [y]))) else Nx H3) := by
  have hDa : D ≠ a := hp.ne nD
  refine lcR (fun i acc H => ∃ ms : List Int, acc = ms.map V.int ∧ ms.length = i ∧ (∀ z ∈ ms, Pz z) ∧ Pk a m H (c0 + inc * (i : Int)) ∧ But a H1 H) nD ⟨[], rfl, rfl, nofun, (hp.new nD).cast (by simp), But.newT nD (But.refl _ _)⟩ ?_ ?_
  · rintro i acc H Z Y hi ⟨ms, rfl, h1, h2, h3, h4⟩ hD hz _
    refine hs i H Z Y hi h3 h4 fun z H4 k1 k2 k3 => hz _ _ (k3 _ _ hDa hD) (sz4' (by rw [List.length_map]; omega)) ⟨ms ++ [z], by rw [List.map_append]; rfl, by rw [List.length_append, h1]; rfl, ?_, (k2.upd hDa).cast inc_snoc, ?_⟩
    · intro x hx
      rcases List.mem_append.mp hx with e | e
      · exact h2 x e
      · rw [List.mem_singleton.mp e]; exact k1
    · intro b o hb e
      have := k3 _ _ hb (h4 _ _ hb e)
      rw [upd_ne (ne_of_none e nD)]
      exact this
  · rintro acc H ⟨ms, rfl, h1, h2, h3, h4⟩ hD
    exact hd ms H h1 h2 hD h3 h4
theorem lcR_dq {α : Type} {m c0 : Int} (F : α → PyData) (Pz : α → Prop) (inc : Int) (hp : Pk a m H1 c0) (nD : H1 D = none) (hn : n ≤ 1000000)
    (hs : ∀ (i : Nat) H (Z : VK) (Y : Hp → Prop), i < n → Pk a m H (c0 + inc * (i : Int)) → But a H1 H → (∀ x v G H4, Pz x → Dq G v (F x) → Newly H G → Same G H4 → Pk a m H4 (c0 + inc * (i : Int) + inc) → But a H H4 → Z v H4) → LcTurn g tt te vs σ (.int (lo + i)) H Z Y)
    (hd : ∀ (xs : List α) G H, xs.length = n → (∀ x ∈ xs, Pz x) → Dq G (.ref D) (.list (xs.map F)) → Newly H1 G → Same G H → Pk a m H (c0 + inc * (n : Int)) → But a H1 H → Qd H) :
    ∃ W : Nat → Nat → Hp → Prop, (∃ m, W 0 m (upd H1 D (.lst []))) ∧ ∀ i m H, W i m H →
      ((Itr lo n).stop i H ∧ Qd H) ∨ ((Itr lo n).go i H ∧ ∃ Nx : Hp → Prop, (∀ H', Nx H' → ∃ m', m' < m ∧ W (i + 1) m' H') ∧ ∀ x H', (Itr lo n).yld i H x H' → g x (wipe σ vs) H' fun σ2 H2 => wipe σ2 vs = wipe σ vs ∧ tt σ2 H2 fun b H3 =>
        if b = true then te σ2 H3 fun y H4 => ∃ acc, H4 D = some (.lst acc) ∧ acc.length < sizeLine ∧ Nx (upd H4 D (.lst (acc ++ [y]))) else Nx H3) := by
  have hDa : D ≠ a := hp.ne nD
  refine lcR (fun i acc H => ∃ xs : List α, DqAll (fr [D] H1 H) acc (xs.map F) ∧ xs.length = i ∧ (∀ x ∈ xs, Pz x) ∧ Pk a m H (c0 + inc * (i : Int)) ∧ But a H1 H) nD ⟨[], .nil, rfl, nofun, (hp.new nD).cast (by simp), But.newT nD (But.refl _ _)⟩ ?_ ?_
  · rintro i acc H Z Y hi ⟨xs, h0, h1, h2, h3, h4⟩ hD hz _
    refine hs i H Z Y hi h3 h4 fun x v G H4 k1 k2 k3 k4 k5 k6 => ?_
    have gD : G D = none := k3.free hD
    refine hz _ _ (k6 _ _ hDa hD) (sz4' (by rw [h0.len, List.length_map]; omega)) ⟨xs ++ [x], ?_, by rw [List.length_append, h1]; rfl, ?_, (k5.upd hDa).cast inc_snoc, ?_⟩
    · rw [List.map_append]
      exact DqAll.snoc ((h0.same (fr_butP hp k6)).same (fr_upd (by simp))) (k2.same (Newly.same1 (k3.backP h4 h3) (Same.mut k4 gD) gD))
    · intro y hy
      rcases List.mem_append.mp hy with e | e
      · exact h2 y e
      · rw [List.mem_singleton.mp e]; exact k1
    · intro b o hb e
      have := k6 _ _ hb (h4 _ _ hb e)
      rw [upd_ne (ne_of_none e nD)]
      exact this
  · rintro acc H ⟨xs, h0, h1, h2, h3, h4⟩ hD
    exact hd xs (fr [] H1 H) H h1 h2 (.lst (fr_lk0 nD hD) (h0.same fr_sub)) fr_newly fr_same h3 h4
/-- new data for each item of a list, nothing changed -/
theorem lcL_new (f : Nat → PyData) (nD : H1 D = none) (hn : xs.length ≤ 1000000) (hx : SqL K H1 l xs)
    (hs : ∀ (i : Nat) (x : V) H (Z : VK) (Y : Hp → Prop), xs[i]? = some x → Same H1 H → (∀ v G H4, Dq G v (f i) → Newly H G → Same G H4 → Same H H4 → Z v H4) → LcTurn g tt te vs σ x H Z Y)
    (hd : ∀ G H, Dq G (.ref D) (.list ((List.range xs.length).map f)) → Newly H1 G → Same G H → Same H1 H → Qd H) :
    ∃ W : Nat → Nat → Hp → Prop, (∃ m, W 0 m (upd H1 D (.lst []))) ∧ ∀ i m H, W i m H →
      ((Itl K l).stop i H ∧ Qd H) ∨ ((Itl K l).go i H ∧ ∃ Nx : Hp → Prop, (∀ H', Nx H' → ∃ m', m' < m ∧ W (i + 1) m' H') ∧ ∀ x H', (Itl K l).yld i H x H' → g x (wipe σ vs) H' fun σ2 H2 => wipe σ2 vs = wipe σ vs ∧ tt σ2 H2 fun b H3 =>
        if b = true then te σ2 H3 fun y H4 => ∃ acc, H4 D = some (.lst acc) ∧ acc.length < sizeLine ∧ Nx (upd H4 D (.lst (acc ++ [y]))) else Nx H3) := by
  refine lcL (xs := xs) (fun i acc H => DqAll (fr [D] H1 H) acc ((List.range i).map f) ∧ acc.length = i ∧ Same H1 H) nD ⟨.nil, rfl, Same.new nD⟩ (fun i acc H _ q _ => q.2.2.seq hx) ?_ ?_
  · rintro i x acc H Z Y hi ⟨h0, h1, h2⟩ hD hz _
    have hi' : i < xs.length := (List.getElem?_eq_some_iff.mp hi).1
    refine hs i x H Z Y hi h2 fun v G H4 k2 k3 k4 k6 => ?_
    have gD : G D = none := k3.free hD
    refine hz _ _ (k6 _ _ hD) (sz4' (by omega)) ⟨?_, by rw [List.length_append, h1]; rfl, Same.mut (h2.trans k6) nD⟩
    rw [List.range_succ, List.map_append]
    exact DqAll.snoc ((h0.same (fr_mono k6)).same (fr_upd (by simp))) (k2.same (Newly.same1 (k3.back h2) (Same.mut k4 gD) gD))
  · rintro acc H ⟨h0, h1, h2⟩ hD
    exact hd (fr [] H1 H) H (.lst (fr_lk0 nD hD) (h0.same fr_sub)) fr_newly fr_same h2
theorem lcT (P : Nat → List V → Hp → Prop) (nD : H1 D = none) (h0 : P 0 [] (upd H1 D (.lst []))) (hl : ∀ i acc H, i ≤ xs.length → P i acc H → H D = some (.lst acc) → SqT K H l xs)
    (hs : ∀ i x acc H (Z : VK) (Y : Hp → Prop), xs[i]? = some x → P i acc H → H D = some (.lst acc) → (∀ y H4, H4 D = some (.lst acc) → acc.length < sizeLine → P (i + 1) (acc ++ [y]) (upd H4 D (.lst (acc ++ [y]))) → Z y H4) →
      (∀ H4, H4 D = some (.lst acc) → P (i + 1) acc H4 → Y H4) → LcTurn g tt te vs σ x H Z Y) (hd : ∀ acc H, P xs.length acc H → H D = some (.lst acc) → Qd H) :
    ∃ W : Nat → Nat → Hp → Prop, (∃ m, W 0 m (upd H1 D (.lst []))) ∧ ∀ i m H, W i m H →
      ((Itt K l).stop i H ∧ Qd H) ∨ ((Itt K l).go i H ∧ ∃ Nx : Hp → Prop, (∀ H', Nx H' → ∃ m', m' < m ∧ W (i + 1) m' H') ∧ ∀ x H', (Itt K l).yld i H x H' → g x (wipe σ vs) H' fun σ2 H2 => wipe σ2 vs = wipe σ vs ∧ tt σ2 H2 fun b H3 =>
        if b = true then te σ2 H3 fun y H4 => ∃ acc, H4 D = some (.lst acc) ∧ acc.length < sizeLine ∧ Nx (upd H4 D (.lst (acc ++ [y]))) else Nx H3) := by
  refine lc_tup (xs := xs) (fun i H => ∃ acc, P i acc H ∧ H D = some (.lst acc)) ⟨[], h0, upd_same⟩ (fun i H hi hp => ?_) (fun i x H hi hp => ?_) (fun H hp => ?_)
  · obtain ⟨acc, hp, ha⟩ := hp
    exact hl i acc H hi hp ha
  · obtain ⟨acc, hp, ha⟩ := hp
    exact hs i x acc H _ _ hi hp ha (fun y H4 h1 h2 h3 => ⟨acc, h1, h2, _, h3, upd_same⟩) fun H4 h1 h2 => ⟨acc, h2, h1⟩
  · obtain ⟨acc, hp, ha⟩ := hp
    exact hd acc H hp ha
theorem lcT_new (f : Nat → PyData) (nD : H1 D = none) (hn : xs.length ≤ 1000000) (hx : SqT K H1 l xs)
    (hs : ∀ (i : Nat) (x : V) H (Z : VK) (Y : Hp → Prop), xs[i]? = some x → Same H1 H → (∀ v G H4, Dq G v (f i) → Newly H G → Same G H4 → Same H H4 → Z v H4) → LcTurn g tt te vs σ x H Z Y)
    (hd : ∀ G H, Dq G (.ref D) (.list ((List.range xs.length).map f)) → Newly H1 G → Same G H → Same H1 H → Qd H) :
    ∃ W : Nat → Nat → Hp → Prop, (∃ m, W 0 m (upd H1 D (.lst []))) ∧ ∀ i m H, W i m H →
      ((Itt K l).stop i H ∧ Qd H) ∨ ((Itt K l).go i H ∧ ∃ Nx : Hp → Prop, (∀ H', Nx H' → ∃ m', m' < m ∧ W (i + 1) m' H') ∧ ∀ x H', (Itt K l).yld i H x H' → g x (wipe σ vs) H' fun σ2 H2 => wipe σ2 vs = wipe σ vs ∧ tt σ2 H2 fun b H3 =>
        if b = true then te σ2 H3 fun y H4 => ∃ acc, H4 D = some (.lst acc) ∧ acc.length < sizeLine ∧ Nx (upd H4 D (.lst (acc ++ [y]))) else Nx H3) := by
  refine lcT (xs := xs) (fun i acc H => DqAll (fr [D] H1 H) acc ((List.range i).map f) ∧ acc.length = i ∧ Same H1 H) nD ⟨.nil, rfl, Same.new nD⟩ (fun i acc H _ q _ => Same.seqT q.2.2 hx) ?_ ?_
  · rintro i x acc H Z Y hi ⟨h0, h1, h2⟩ hD hz _
    have hi' : i < xs.length := (List.getElem?_eq_some_iff.mp hi).1
    refine hs i x H Z Y hi h2 fun v G H4 k2 k3 k4 k6 => ?_
    have gD : G D = none := k3.free hD
    refine hz _ _ (k6 _ _ hD) (sz4' (by omega)) ⟨?_, by rw [List.length_append, h1]; rfl, Same.mut (h2.trans k6) nD⟩
    rw [List.range_succ, List.map_append]
    exact DqAll.snoc ((h0.same (fr_mono k6)).same (fr_upd (by simp))) (k2.same (Newly.same1 (k3.back h2) (Same.mut k4 gD) gD))
  · rintro acc H ⟨h0, h1, h2⟩ hD
    exact hd (fr [] H1 H) H (.lst (fr_lk0 nD hD) (h0.same fr_sub)) fr_newly fr_same h2
theorem lcR_new (f : Nat → PyData) (nD : H1 D = none) (hn : n ≤ 1000000)
    (hs : ∀ (i : Nat) H (Z : VK) (Y : Hp → Prop), i < n → Same H1 H → (∀ v G H4, Dq G v (f i) → Newly H G → Same G H4 → Same H H4 → Z v H4) → LcTurn g tt te vs σ (.int (lo + i)) H Z Y)
    (hd : ∀ G H, Dq G (.ref D) (.list ((List.range n).map f)) → Newly H1 G → Same G H → Same H1 H → Qd H) :
    ∃ W : Nat → Nat → Hp → Prop, (∃ m, W 0 m (upd H1 D (.lst []))) ∧ ∀ i m H, W i m H →
      ((Itr lo n).stop i H ∧ Qd H) ∨ ((Itr lo n).go i H ∧ ∃ Nx : Hp → Prop, (∀ H', Nx H' → ∃ m', m' < m ∧ W (i + 1) m' H') ∧ ∀ x H', (Itr lo n).yld i H x H' → g x (wipe σ vs) H' fun σ2 H2 => wipe σ2 vs = wipe σ vs ∧ tt σ2 H2 fun b H3 =>
        if b = true then te σ2 H3 fun y H4 => ∃ acc, H4 D = some (.lst acc) ∧ acc.length < sizeLine ∧ Nx (upd H4 D (.lst (acc ++ [y]))) else Nx H3) := by
  refine lcR (fun i acc H => DqAll (fr [D] H1 H) acc ((List.range i).map f) ∧ acc.length = i ∧ Same H1 H) nD ⟨.nil, rfl, Same.new nD⟩ ?_ ?_
  · rintro i acc H Z Y hi ⟨h0, h1, h2⟩ hD hz _
    refine hs i H Z Y hi h2 fun v G H4 k2 k3 k4 k6 => ?_
    have gD : G D = none := k3.free hD
    refine hz _ _ (k6 _ _ hD) (sz4' (by omega)) ⟨?_, by rw [List.length_append, h1]; rfl, Same.mut (h2.trans k6) nD⟩
    rw [List.range_succ, List.map_append]
    exact DqAll.snoc ((h0.same (fr_mono k6)).same (fr_upd (by simp))) (k2.same (Newly.same1 (k3.back h2) (Same.mut k4 gD) gD))
  · rintro acc H ⟨h0, h1, h2⟩ hD
    exact hd (fr [] H1 H) H (.lst (fr_lk0 nD hD) (h0.same fr_sub)) fr_newly fr_same h2
/-! ### tuple of a list -/
theorem i_tupOfL {p : Addr} (h : SqL K H p xs) (q : ∀ l, H l = none → Q (.ref l) (upd H l (.tup xs))) : rTupleOf K [.ref p] H Q := ⟨p, xs, rfl, .inl ⟨h, q⟩⟩
end
/-! ### how deep data are -/
mutual
def dep : PyData → Nat
  | .list xs => depA xs + 1
  | .tuple xs => depA xs + 1
  | _ => 0
def depA : List PyData → Nat
  | [] => 0
  | d :: ds => max (dep d) (depA ds)
end
/-! how wide -/
mutual
def wid : PyData → Nat
  | .list xs => max xs.length (widA xs)
  | .tuple xs => max xs.length (widA xs)
  | _ => 0
def widA : List PyData → Nat
  | [] => 0
  | d :: ds => max (wid d) (widA ds)
end
theorem widA_mem : ∀ {ds : List PyData} {d : PyData}, d ∈ ds → wid d ≤ widA ds
  | e :: ds, d, h => by
    rw [widA]
    rcases List.mem_cons.mp h with z | z
    · rw [z]; omega
    · have := widA_mem z
      omega
theorem widA_le {k : Nat} : ∀ {ds : List PyData}, (∀ d ∈ ds, wid d ≤ k) → widA ds ≤ k
  | [], _ => Nat.zero_le _
  | e :: ds, h => by
    rw [widA]
    have := h e List.mem_cons_self
    have := widA_le fun d hd => h d (List.mem_cons_of_mem _ hd)
    omega
theorem depA_mem : ∀ {ds : List PyData} {d : PyData}, d ∈ ds → dep d ≤ depA ds
  | e :: ds, d, h => by
    rw [depA]
    rcases List.mem_cons.mp h with z | z
    · rw [z]; omega
    · have := depA_mem z
      omega
theorem depA_le {k : Nat} : ∀ {ds : List PyData}, (∀ d ∈ ds, dep d ≤ k) → depA ds ≤ k
  | [], _ => Nat.zero_le _
  | e :: ds, h => by
    rw [depA]
    have := h e List.mem_cons_self
    have := depA_le fun d hd => h d (List.mem_cons_of_mem _ hd)
    omega
/-- no object at all -/
def noH : Hp := fun _ => none
theorem noH_newly {H : Hp} : Newly H noH := fun _ _ _ => rfl
theorem noH_same {H : Hp} : Same noH H := fun _ _ h => by cases h
theorem rng_get {α : Type} {x : α} (ds : List α) : (List.range ds.length).map (fun i => (ds[i]?).getD x) = ds := by
  apply List.ext_getElem?
  intro i
  rw [List.getElem?_map]
  by_cases c : i < ds.length
  · rw [List.getElem?_range c, List.getElem?_eq_getElem c]
    show some ((ds[i]?).getD x) = _
    rw [List.getElem?_eq_getElem c]
    rfl
  · rw [List.getElem?_eq_none (by rw [List.length_range]; omega), List.getElem?_eq_none (by omega)]
    rfl
/-- int of a truth that is known -/
theorem i_intY {b : Bool} {R : Bool → Prop} {S : Prop} (e : b = true) (q : R true) : S ∨ ∃ k, [V.bl b] = [.bl k] ∧ R k := by
  subst e
  exact .inr ⟨true, rfl, q⟩
theorem i_intN {b : Bool} {R : Bool → Prop} {S : Prop} (e : b = false) (q : R false) : S ∨ ∃ k, [V.bl b] = [.bl k] ∧ R k := by
  subst e
  exact .inr ⟨false, rfl, q⟩
/-! ### data that compare -/
mutual
theorem depth_dep : ∀ {d : PyData}, d.canLay0 = true → d.depth = dep d
  | .none, _ => by simp [PyData.depth, dep]
  | .bool _, _ => by simp [PyData.depth, dep]
  | .int _, _ => by simp [PyData.depth, dep]
  | .str _, _ => by simp [PyData.depth, dep]
  | .list xs, h => by
    have := depthA_dep (ds := xs) (by simpa [PyData.canLay0] using h)
    simp [PyData.depth, dep, this]
  | .tuple xs, h => by
    have := depthA_dep (ds := xs) (by simpa [PyData.canLay0] using h)
    simp [PyData.depth, dep, this]
  | .dict _, h => by simp [PyData.canLay0] at h
theorem depthA_dep : ∀ {ds : List PyData}, PyData.canLayAll0 ds = true → PyData.depthAll ds = depA ds
  | [], _ => by simp [PyData.depthAll, depA]
  | d :: ds, h => by
    rw [PyData.canLayAll0, Bool.and_eq_true] at h
    rw [PyData.depthAll, depA, depth_dep h.1, depthA_dep h.2]
end
theorem shaped_of {d : PyData} (h : d.canLay0 = true) (h2 : dep d ≤ 64) : SeqAt.shaped d = true := by
  unfold SeqAt.shaped
  rw [h, depth_dep h, Bool.true_and, decide_eq_true h2]
theorem lay_all : ∀ {ds : List PyData}, (∀ d ∈ ds, d.canLay0 = true) → PyData.canLayAll0 ds = true
  | [], _ => by simp [PyData.canLayAll0]
  | d :: ds, h => by
    rw [PyData.canLayAll0, h d List.mem_cons_self, lay_all fun e he => h e (List.mem_cons_of_mem _ he)]
    rfl
theorem lay_mem : ∀ {ds : List PyData} {d : PyData}, PyData.canLayAll0 ds = true → d ∈ ds → d.canLay0 = true
  | e :: ds, d, h, hd => by
    rw [PyData.canLayAll0, Bool.and_eq_true] at h
    rcases List.mem_cons.mp hd with z | z
    · rw [z]; exact h.1
    · exact lay_mem h.2 z
theorem lay_plan (r : List Int) : (planD r).canLay0 = true := by simp [planD, PyData.canLay0, canLay_ints]
theorem dep_ints (r : List Int) : depA (r.map PyData.int) = 0 := by
  have := depA_le (k := 0) (ds := r.map PyData.int) fun d hd => by
    obtain ⟨x, _, rfl⟩ := List.mem_map.mp hd
    simp [dep]
  omega
theorem wid_ints (r : List Int) : widA (r.map PyData.int) = 0 := by
  have := widA_le (k := 0) (ds := r.map PyData.int) fun d hd => by
    obtain ⟨x, _, rfl⟩ := List.mem_map.mp hd
    simp [wid]
  omega
theorem dep_plan (r : List Int) : dep (planD r) = 1 := by simp [planD, dep, dep_ints]
theorem wid_plan (r : List Int) : wid (planD r) = r.length := by simp [planD, wid, wid_ints]
theorem dep_rows (rs : List (List Int)) : dep (.list (rs.map planD)) ≤ 2 := by
  have := depA_le (k := 1) (ds := rs.map planD) fun d hd => by
    obtain ⟨x, _, rfl⟩ := List.mem_map.mp hd
    rw [dep_plan]
    omega
  rw [dep]
  omega
theorem wid_rows {k : Nat} (rs : List (List Int)) (h : rs.length ≤ k) (h2 : ∀ r ∈ rs, r.length ≤ k) : wid (.list (rs.map planD)) ≤ k := by
  have := widA_le (k := k) (ds := rs.map planD) fun d hd => by
    obtain ⟨x, hx, rfl⟩ := List.mem_map.mp hd
    rw [wid_plan]
    exact h2 x hx
  rw [wid, List.length_map]
  omega
theorem lay_rows (rs : List (List Int)) : PyData.canLay0 (.list (rs.map planD)) = true := by
  rw [PyData.canLay0]
  exact lay_all fun d hd => by
    obtain ⟨x, _, rfl⟩ := List.mem_map.mp hd
    exact lay_plan x
/-- what is in G, new to H, is apart from what H has -/
theorem Newly.sep {H G G1 : Hp} {p : Addr} {o : HO} (n : Newly H G) (s : Same G1 H) (h : G p = some o) : G1 p = none := by
  cases e : G1 p with
  | none => rfl
  | some u =>
    have := n p u (s _ _ e)
    rw [this] at h
    cases h
theorem Same.updB {G H : Hp} {P : Addr} {o : HO} (s : Same G H) : Same (upd G P o) (upd H P o) := fun b u h => by
  by_cases c : b = P
  · rw [c, upd_same] at h ⊢
    exact h
  · rw [upd_ne c] at h ⊢
    exact s _ _ h
end Hf
/-! ## battles -/
namespace Hf
open PySem PySem.Spec PyProof.Rows L2
inductive Fld where
  | more (w t : Int)
  | lead (w l : Int)
  | tab (rows : List (List Int))
instance : Inhabited Fld := ⟨.more 1 0⟩
def fldD : Fld → PyData
  | .more w t => .tuple [.str (PySem.Str.ofString "more"), .int w, .int t]
  | .lead w l => .tuple [.str (PySem.Str.ofString "lead"), .int w, .int l]
  | .tab rows => .tuple [.str (PySem.Str.ofString "table"), .list (rows.map planD)]
def batD (f s : Int) (fs : List Fld) : PyData := .tuple [.int f, .int s, .list (fs.map fldD)]
def Sm (x : Int) : Prop := -(2 ^ 110) < x ∧ x < 2 ^ 110
def FldOk (f s : Int) : Fld → Prop
  | .more w t => 1 ≤ w ∧ 0 - w ≤ t ∧ t ≤ w
  | .lead w _ => 1 ≤ w
  | .tab rows => (rows.length : Int) = f + 1 ∧ ∀ r ∈ rows, (r.length : Int) = s + 1
/-- its numbers are not great -/
def FldSm : Fld → Prop
  | .more w t => Sm w ∧ Sm t
  | .lead w l => Sm w ∧ Sm l
  | .tab rows => ∀ r ∈ rows, ∀ x ∈ r, Sm x
structure BatOk (f s : Int) (fs : List Fld) : Prop where
  hf : 0 ≤ f ∧ f ≤ 10
  hs : 0 ≤ s ∧ s ≤ 10
  ne : 1 ≤ fs.length ∧ fs.length ≤ 5
  ok : ∀ x ∈ fs, FldOk f s x
def paidV : Fld → Int → Int → Int
  | .more w t, x, y => if x = y then t else if x > y then w else 0 - w
  | .lead w l, x, y => if x ≥ y + l then w else 0 - w
  | .tab rows, x, y => (((rows[x.toNat]?).getD [])[y.toNat]?).getD 0
section
variable {H : Hp} {v : V}
theorem fld_more {w t : Int} (h : Dq H v (fldD (.more w t))) : ∃ a, v = .ref a ∧ H a = some (.tup [.str (PySem.Str.ofString "more"), .int w, .int t]) := by
  obtain ⟨a, xs, rfl, h1, h2⟩ := Dq.tuple_inv h
  cases h2 with
  | cons a b =>
    cases b with
    | cons c d =>
      cases d with
      | cons e f =>
        cases f
        obtain rfl := Dq.str_inv a
        obtain rfl := Dq.int_inv c
        obtain rfl := Dq.int_inv e
        exact ⟨_, rfl, h1⟩
theorem fld_lead {w t : Int} (h : Dq H v (fldD (.lead w t))) : ∃ a, v = .ref a ∧ H a = some (.tup [.str (PySem.Str.ofString "lead"), .int w, .int t]) := by
  obtain ⟨a, xs, rfl, h1, h2⟩ := Dq.tuple_inv h
  cases h2 with
  | cons a b =>
    cases b with
    | cons c d =>
      cases d with
      | cons e f =>
        cases f
        obtain rfl := Dq.str_inv a
        obtain rfl := Dq.int_inv c
        obtain rfl := Dq.int_inv e
        exact ⟨_, rfl, h1⟩
theorem fld_tab {rows : List (List Int)} (h : Dq H v (fldD (.tab rows))) : ∃ a p xs, v = .ref a ∧ H a = some (.tup [.str (PySem.Str.ofString "table"), .ref p]) ∧ H p = some (.lst xs) ∧ DqAll H xs (rows.map planD) := by
  obtain ⟨a, xs, rfl, h1, h2⟩ := Dq.tuple_inv h
  cases h2 with
  | cons a b =>
    cases b with
    | cons c d =>
      cases d
      obtain rfl := Dq.str_inv a
      obtain ⟨p, ys, rfl, h3, h4⟩ := Dq.list_inv c
      exact ⟨_, p, ys, rfl, h1, h3, h4⟩
theorem row_at {xs : List V} {rows : List (List Int)} (q : DqAll H xs (rows.map planD)) {k : Nat} {w : V} (hw : xs[k]? = some w) : ∃ r p, rows[k]? = some r ∧ w = .ref p ∧ H p = some (.lst (r.map V.int)) := by
  obtain ⟨d, e, q⟩ := q.get' hw
  rw [List.getElem?_map] at e
  cases g : rows[k]? with
  | none => rw [g] at e; cases e
  | some r =>
    rw [g] at e
    cases e
    obtain ⟨p, ys, rfl, h3, h4⟩ := Dq.list_inv q
    obtain rfl := DqAll.ints h4
    exact ⟨r, p, rfl, rfl, h3⟩
theorem bat_inv {f s : Int} {fs : List Fld} (h : Dq H v (batD f s fs)) : ∃ a p xs, v = .ref a ∧ H a = some (.tup [.int f, .int s, .ref p]) ∧ H p = some (.lst xs) ∧ DqAll H xs (fs.map fldD) := by
  obtain ⟨a, xs, rfl, h1, h2⟩ := Dq.tuple_inv h
  cases h2 with
  | cons a b =>
    cases b with
    | cons c d =>
      cases d with
      | cons e f =>
        cases f
        obtain rfl := Dq.int_inv a
        obtain rfl := Dq.int_inv c
        obtain ⟨p, ys, rfl, h3, h4⟩ := Dq.list_inv e
        exact ⟨_, p, ys, rfl, h1, h3, h4⟩
theorem fld_at {xs : List V} {fs : List Fld} (q : DqAll H xs (fs.map fldD)) {k : Nat} {w : V} (hw : xs[k]? = some w) : ∃ f, fs[k]? = some f ∧ Dq H w (fldD f) := by
  obtain ⟨d, e, q⟩ := q.get' hw
  rw [List.getElem?_map] at e
  cases g : fs[k]? with
  | none => rw [g] at e; cases e
  | some r =>
    rw [g] at e
    cases e
    exact ⟨r, rfl, q⟩
theorem more_mk {a : Addr} {w t : Int} (h : H a = some (.tup [.str (PySem.Str.ofString "more"), .int w, .int t])) : Dq H (.ref a) (fldD (.more w t)) := .tup h (.cons (.str _) (.cons (.int _) (.cons (.int _) .nil)))
theorem lead_mk {a : Addr} {w t : Int} (h : H a = some (.tup [.str (PySem.Str.ofString "lead"), .int w, .int t])) : Dq H (.ref a) (fldD (.lead w t)) := .tup h (.cons (.str _) (.cons (.int _) (.cons (.int _) .nil)))
theorem tab_mk {a p : Addr} {xs : List V} {rows : List (List Int)} (h : H a = some (.tup [.str (PySem.Str.ofString "table"), .ref p])) (h1 : H p = some (.lst xs)) (h2 : DqAll H xs (rows.map planD)) : Dq H (.ref a) (fldD (.tab rows)) := .tup h (.cons (.str _) (.cons (.lst h1 h2) .nil))
theorem tab_mk' {a : Addr} {v : V} {rows : List (List Int)} (h : H a = some (.tup [.str (PySem.Str.ofString "table"), v])) (h1 : Dq H v (.list (rows.map planD))) : Dq H (.ref a) (fldD (.tab rows)) := .tup h (.cons (.str _) (.cons h1 .nil))
theorem bat_mk' {a : Addr} {v : V} {f s : Int} {fs : List Fld} (h : H a = some (.tup [.int f, .int s, v])) (h1 : Dq H v (.list (fs.map fldD))) : Dq H (.ref a) (batD f s fs) := .tup h (.cons (.int _) (.cons (.int _) (.cons h1 .nil)))
theorem bat_mk {a p : Addr} {xs : List V} {f s : Int} {fs : List Fld} (h : H a = some (.tup [.int f, .int s, .ref p])) (h1 : H p = some (.lst xs)) (h2 : DqAll H xs (fs.map fldD)) : Dq H (.ref a) (batD f s fs) := .tup h (.cons (.int _) (.cons (.int _) (.cons (.lst h1 h2) .nil)))
theorem row_mk {p : Addr} {r : List Int} (h : H p = some (.lst (r.map V.int))) : Dq H (.ref p) (planD r) := .lst h (dq_ints r)
end
theorem BatOk.at {f s : Int} {fs : List Fld} (k : BatOk f s fs) {i : Nat} {x : Fld} (e : fs[i]? = some x) : FldOk f s x := k.ok x (List.mem_of_getElem? e)
theorem DqAll.rep {H : Hp} {v : V} {d : PyData} (h : Dq H v d) : ∀ n : Nat, DqAll H (List.replicate n v) (List.replicate n d)
  | 0 => .nil
  | n + 1 => .cons h (DqAll.rep h n)
theorem lay_fld (fl : Fld) : (fldD fl).canLay0 = true := by
  cases fl with
  | more w t => simp [fldD, PyData.canLay0, PyData.canLayAll0]; decide +kernel
  | lead w t => simp [fldD, PyData.canLay0, PyData.canLayAll0]; decide +kernel
  | tab rows =>
    simp [fldD, PyData.canLay0, PyData.canLayAll0, lay_rows]
    exact ⟨by decide +kernel, by have := lay_rows rows; rwa [PyData.canLay0] at this⟩
theorem lay_bat (f s : Int) (fs : List Fld) : (batD f s fs).canLay0 = true := by
  have : PyData.canLay0 (.list (fs.map fldD)) = true := by
    rw [PyData.canLay0]
    exact lay_all fun d hd => by
      obtain ⟨x, _, rfl⟩ := List.mem_map.mp hd
      exact lay_fld x
  rw [PyData.canLay0] at this
  simp [batD, PyData.canLay0, PyData.canLayAll0, this]
theorem dep_fld (fl : Fld) : dep (fldD fl) ≤ 3 := by
  cases fl with
  | more w t => simp [fldD, dep, depA]
  | lead w t => simp [fldD, dep, depA]
  | tab rows =>
    have := dep_rows rows
    simp only [fldD, dep, depA] at this ⊢
    omega
theorem dep_bat (f s : Int) (fs : List Fld) : dep (batD f s fs) ≤ 5 := by
  have := depA_le (k := 3) (ds := fs.map fldD) fun d hd => by
    obtain ⟨x, _, rfl⟩ := List.mem_map.mp hd
    exact dep_fld x
  simp only [batD, dep, depA] at this ⊢
  omega
theorem wid_fld {f s : Int} {fl : Fld} (hf : f ≤ 10) (hs : s ≤ 10) (k : FldOk f s fl) : wid (fldD fl) ≤ 20 := by
  cases fl with
  | more w t => rw [fldD]; simp [wid, widA]
  | lead w t => rw [fldD]; simp [wid, widA]
  | tab rows =>
    obtain ⟨h1, h2⟩ := k
    have := wid_rows (k := 20) rows (by omega) (fun r hr => by have := h2 r hr; omega)
    simp only [fldD, wid, widA, List.length_cons, List.length_nil] at this ⊢
    omega
theorem wid_bat {f s : Int} {fs : List Fld} (hf : f ≤ 10) (hs : s ≤ 10) (hl : fs.length ≤ 20) (k : ∀ x ∈ fs, FldOk f s x) : wid (batD f s fs) ≤ 20 := by
  have := widA_le (k := 20) (ds := fs.map fldD) fun d hd => by
    obtain ⟨x, hx, rfl⟩ := List.mem_map.mp hd
    exact wid_fld hf hs (k x hx)
  simp only [batD, wid, widA, List.length_cons, List.length_nil, List.length_map] at this ⊢
  omega
theorem shaped_bat (f s : Int) (fs : List Fld) : SeqAt.shaped (batD f s fs) = true := shaped_of (lay_bat f s fs) (Nat.le_trans (dep_bat f s fs) (by decide))
/-- a row changed through its address, whichever rows it is -/
theorem rows_set {G : Hp} {xs : List V} {rs : List (List Int)} {P : Addr} {r r' : List Int} (q : DqAll G xs (rs.map planD)) (hP : G P = some (.lst (r.map V.int))) (hl : r'.length = r.length) :
    ∃ rs' : List (List Int), DqAll (upd G P (.lst (r'.map V.int))) xs (rs'.map planD) ∧ rs'.length = rs.length ∧ ∀ L, (∀ z ∈ rs, z.length = L) → ∀ z ∈ rs', z.length = L := by
  induction rs generalizing xs with
  | nil =>
    cases q
    exact ⟨[], .nil, rfl, fun _ _ => nofun⟩
  | cons r0 rs ih =>
    cases q with
    | cons h q =>
      obtain ⟨rs', g1, g2, g3⟩ := ih q
      obtain ⟨p, ys, rfl, h3, h4⟩ := Dq.list_inv h
      obtain rfl := DqAll.ints h4
      by_cases c : p = P
      · subst c
        refine ⟨r' :: rs', .cons (row_mk upd_same) g1, by rw [List.length_cons, g2, List.length_cons], fun L hL z hz => ?_⟩
        rcases List.mem_cons.mp hz with e | e
        · rw [h3] at hP
          have e2 := congrArg List.length (HO.lst.inj (Option.some.inj hP))
          rw [List.length_map, List.length_map] at e2
          rw [e, hl, ← e2]
          exact hL r0 List.mem_cons_self
        · exact g3 L (fun z hz => hL z (List.mem_cons_of_mem _ hz)) z e
      · refine ⟨r0 :: rs', .cons (row_mk (lk_upd c h3)) g1, by rw [List.length_cons, g2, List.length_cons], fun L hL z hz => ?_⟩
        rcases List.mem_cons.mp hz with e | e
        · rw [e]; exact hL r0 List.mem_cons_self
        · exact g3 L (fun z hz => hL z (List.mem_cons_of_mem _ hz)) z e
/-! ### what is won -/
def fldAt (fs : List Fld) (k : Int) : Fld := (fs[k.toNat]?).getD default
def nAt (ms : List Int) (k : Int) : Int := (ms[k.toNat]?).getD 0
def gainV (fs : List Fld) (ms ns : List Int) : Int := ((List.range fs.length).map fun i : Nat => paidV (fldAt fs i) (nAt ms i) (nAt ns i)).sum
def RiseP (fl : Fld) (f s : Int) : Prop := ∀ x y : Int, 0 ≤ x → x ≤ f → 0 ≤ y → y ≤ s → (x < f → paidV fl x y ≤ paidV fl (x + 1) y) ∧ (y < s → paidV fl x (y + 1) ≤ paidV fl x y)
def RiseA (fs : List Fld) (f s : Int) : Prop := ∀ x ∈ fs, RiseP x f s
def PlainF : Fld → Prop
  | .tab _ => False
  | _ => True
theorem rise_plain {f s : Int} {fl : Fld} (k : FldOk f s fl) (h : PlainF fl) : RiseP fl f s := by
  intro x y _ _ _ _
  cases fl with
  | more w t =>
    obtain ⟨h1, h2, h3⟩ := k
    refine ⟨fun _ => ?_, fun _ => ?_⟩
    · show (if x = y then t else if x > y then w else 0 - w) ≤ (if x + 1 = y then t else if x + 1 > y then w else 0 - w)
      split <;> split <;> (try split) <;> (try split) <;> omega
    · show (if x = y + 1 then t else if x > y + 1 then w else 0 - w) ≤ (if x = y then t else if x > y then w else 0 - w)
      split <;> split <;> (try split) <;> (try split) <;> omega
  | lead w l =>
    have h1 : 1 ≤ w := k
    refine ⟨fun _ => ?_, fun _ => ?_⟩
    · show (if x ≥ y + l then w else 0 - w) ≤ (if x + 1 ≥ y + l then w else 0 - w)
      split <;> split <;> omega
    · show (if x ≥ y + 1 + l then w else 0 - w) ≤ (if x ≥ y + l then w else 0 - w)
      split <;> split <;> omega
  | tab _ => exact h.elim
theorem rise_pw {fl : Fld} {f s y : Int} (h : RiseP fl f s) (hy : 0 ≤ y ∧ y ≤ s) : ∀ n : Nat, (n : Int) ≤ f + 1 → ((List.range n).map fun i : Nat => paidV fl i y).Pairwise fun a b => a ≤ b := by
  have mono : ∀ d i : Nat, ((i + d : Nat) : Int) ≤ f → paidV fl i y ≤ paidV fl ((i + d : Nat) : Int) y := by
    intro d
    induction d with
    | zero => intro i _; exact Int.le_refl _
    | succ d ih =>
      intro i hi
      have h1 := ih i (by omega)
      have h2 := (h ((i + d : Nat) : Int) y (by omega) (by omega) hy.1 hy.2).1 (by omega)
      have e : ((i + (d + 1) : Nat) : Int) = ((i + d : Nat) : Int) + 1 := rfl
      rw [e]
      omega
  intro n hn
  rw [List.pairwise_map]
  refine List.Pairwise.imp_of_mem ?_ (List.pairwise_lt_range (n := n))
  intro a b ha hb hab
  have := mono (b - a) a (by have := List.mem_range.mp hb; omega)
  rw [show a + (b - a) = b by omega] at this
  exact this
def EvenP (fs : List Fld) (f s : Int) : Prop := f = s ∧ ∀ fl ∈ fs, ∀ x y : Int, 0 ≤ x → x ≤ f → 0 ≤ y → y ≤ x → paidV fl x y = 0 - paidV fl y x
/-! ### the sides exchanged -/
def exF (s : Int) : Fld → Fld
  | .more w t => .more w (0 - t)
  | .lead w l => .lead w (1 - l)
  | .tab rows => .tab ((List.range (s + 1).toNat).map fun y => rows.map fun r => 0 - (r[y]?).getD 0)
theorem exF_ok {f s : Int} {fl : Fld} (hf : 0 ≤ f) (hs : 0 ≤ s) (k : FldOk f s fl) : FldOk s f (exF s fl) := by
  cases fl with
  | more w t =>
    obtain ⟨h1, h2, h3⟩ := k
    exact ⟨h1, by omega, by omega⟩
  | lead w l => exact k
  | tab rows =>
    obtain ⟨h1, h2⟩ := k
    refine ⟨?_, ?_⟩
    · rw [List.length_map, List.length_range]
      omega
    · intro r hr
      obtain ⟨y, _, rfl⟩ := List.mem_map.mp hr
      rw [List.length_map]
      exact h1
theorem ex_ok {f s : Int} {fs : List Fld} (k : BatOk f s fs) : BatOk s f (fs.map (exF s)) := ⟨k.hs, k.hf, by rw [List.length_map]; exact k.ne, fun x hx => by
  obtain ⟨y, hy, rfl⟩ := List.mem_map.mp hx
  exact exF_ok k.hf.1 k.hs.1 (k.ok y hy)⟩
theorem ex_paid {f s : Int} {fl : Fld} (k : FldOk f s fl) {x y : Int} (hx : 0 ≤ x ∧ x ≤ f) (hy : 0 ≤ y ∧ y ≤ s) : paidV (exF s fl) y x = 0 - paidV fl x y := by
  cases fl with
  | more w t =>
    show (if y = x then 0 - t else if y > x then w else 0 - w) = 0 - (if x = y then t else if x > y then w else 0 - w)
    split <;> split <;> (try split) <;> (try split) <;> omega
  | lead w l =>
    show (if y ≥ x + (1 - l) then w else 0 - w) = 0 - (if x ≥ y + l then w else 0 - w)
    split <;> split <;> omega
  | tab rows =>
    obtain ⟨h1, h2⟩ := k
    show (((((List.range (s + 1).toNat).map fun y => rows.map fun r => 0 - (r[y]?).getD 0)[y.toNat]?).getD [])[x.toNat]?).getD 0 = 0 - ((((rows[x.toNat]?).getD [])[y.toNat]?).getD 0)
    rw [List.getElem?_map, List.getElem?_range (by omega)]
    show (((rows.map fun r => 0 - (r[y.toNat]?).getD 0)[x.toNat]?).getD 0) = _
    rw [List.getElem?_map]
    have hx' : x.toNat < rows.length := by omega
    rw [List.getElem?_eq_getElem hx']
    rfl
theorem ex_rise1 {f s : Int} {fl : Fld} (k : FldOk f s fl) (h : RiseP fl f s) : RiseP (exF s fl) s f := by
  intro y x h1 h2 h3 h4
  obtain ⟨g1, g2⟩ := h x y h3 h4 h1 h2
  refine ⟨fun c => ?_, fun c => ?_⟩
  · rw [ex_paid k ⟨h3, h4⟩ ⟨h1, h2⟩, ex_paid k ⟨h3, h4⟩ (y := y + 1) (by omega)]
    have := g2 c
    omega
  · rw [ex_paid k ⟨h3, h4⟩ ⟨h1, h2⟩, ex_paid k (x := x + 1) (by omega) ⟨h1, h2⟩]
    have := g1 c
    omega
theorem ex_rise2 {f s : Int} {fl : Fld} (k : FldOk f s fl) (h : RiseP (exF s fl) s f) : RiseP fl f s := by
  intro x y h1 h2 h3 h4
  obtain ⟨g1, g2⟩ := h y x h3 h4 h1 h2
  refine ⟨fun c => ?_, fun c => ?_⟩
  · have := g2 c
    rw [ex_paid k ⟨h1, h2⟩ ⟨h3, h4⟩, ex_paid k (x := x + 1) (by omega) ⟨h3, h4⟩] at this
    omega
  · have := g1 c
    rw [ex_paid k ⟨h1, h2⟩ ⟨h3, h4⟩, ex_paid k ⟨h1, h2⟩ (y := y + 1) (by omega)] at this
    omega
theorem ex_rise {f s : Int} {fs : List Fld} (k : BatOk f s fs) : RiseA (fs.map (exF s)) s f ↔ RiseA fs f s := by
  refine ⟨fun h x hx => ex_rise2 (k.ok x hx) (h _ (List.mem_map_of_mem hx)), fun h x hx => ?_⟩
  obtain ⟨y, hy, rfl⟩ := List.mem_map.mp hx
  exact ex_rise1 (k.ok y hy) (h y hy)
theorem ex_even {f s : Int} {fs : List Fld} (k : BatOk f s fs) : EvenP (fs.map (exF s)) s f ↔ EvenP fs f s := by
  refine ⟨fun h => ⟨h.1.symm, fun fl hfl x y h1 h2 h3 h4 => ?_⟩, fun h => ⟨h.1.symm, fun fl hfl x y h1 h2 h3 h4 => ?_⟩⟩
  · have := h.2 _ (List.mem_map_of_mem hfl) x y h1 (by have := h.1; omega) h3 h4
    have e := h.1
    rw [ex_paid (k.ok fl hfl) (x := y) (by omega) (by omega), ex_paid (k.ok fl hfl) (x := x) (by omega) (by omega)] at this
    omega
  · obtain ⟨fl', hf', rfl⟩ := List.mem_map.mp hfl
    have e := h.1
    have := h.2 _ hf' x y h1 (by omega) h3 h4
    rw [ex_paid (k.ok fl' hf') (x := y) (by omega) (by omega), ex_paid (k.ok fl' hf') (x := x) (by omega) (by omega)]
    omega
theorem sum_neg : ∀ (n : Nat) (g h : Nat → Int), (∀ i, i < n → h i = 0 - g i) → ((List.range n).map h).sum = 0 - ((List.range n).map g).sum := by
  intro n
  induction n with
  | zero => intro g h _; rfl
  | succ n ih =>
    intro g h e
    rw [List.range_succ, List.map_append, List.map_append, List.sum_append, List.sum_append, ih g h fun i hi => e i (by omega)]
    simp only [List.map_cons, List.map_nil, List.sum_cons, List.sum_nil]
    have := e n (by omega)
    omega
theorem plan_le {h : Int} {n : Nat} {p : List Int} (k : PlanC h n p) (i : Int) : 0 ≤ nAt p i ∧ nAt p i ≤ h := by
  have key : ∀ q : List Int, (∀ x ∈ q, 0 ≤ x) → 0 ≤ q.sum ∧ ∀ x ∈ q, x ≤ q.sum := by
    intro q
    induction q with
    | nil => intro _; exact ⟨Int.le_refl _, nofun⟩
    | cons x q ih =>
      intro g
      obtain ⟨e1, e2⟩ := ih fun z hz => g z (List.mem_cons_of_mem _ hz)
      have := g x (List.mem_cons_self)
      rw [List.sum_cons]
      refine ⟨by omega, fun z hz => ?_⟩
      rcases List.mem_cons.mp hz with e | e
      · omega
      · have := e2 z e
        omega
  obtain ⟨k1, k2, k3⟩ := k
  obtain ⟨e1, e2⟩ := key p k3
  unfold nAt
  cases g : p[i.toNat]? with
  | none => exact ⟨Int.le_refl _, by show 0 ≤ h; omega⟩
  | some z =>
    have hz := List.mem_of_getElem? g
    exact ⟨k3 z hz, by have := e2 z hz; show z ≤ h; omega⟩
theorem fldAt_ex {s : Int} {fs : List Fld} {i : Int} (hi : i.toNat < fs.length) : fldAt (fs.map (exF s)) i = exF s (fldAt fs i) := by
  unfold fldAt
  rw [List.getElem?_map, List.getElem?_eq_getElem hi]
  rfl
theorem fldAt_ok {f s : Int} {fs : List Fld} (k : BatOk f s fs) {i : Int} (hi : i.toNat < fs.length) : FldOk f s (fldAt fs i) := by
  unfold fldAt
  rw [List.getElem?_eq_getElem hi]
  exact k.ok _ (List.getElem_mem _)
theorem ex_gain {f s : Int} {fs : List Fld} (k : BatOk f s fs) {ms ns : List Int} (h1 : PlanC f fs.length ms) (h2 : PlanC s fs.length ns) : gainV (fs.map (exF s)) ns ms = 0 - gainV fs ms ns := by
  unfold gainV
  rw [List.length_map]
  refine sum_neg _ _ _ fun i hi => ?_
  have e : fldAt (fs.map (exF s)) i = exF s (fldAt fs i) := by
    unfold fldAt
    rw [List.getElem?_map, List.getElem?_eq_getElem (show (i : Int).toNat < fs.length by omega)]
    rfl
  have hk : FldOk f s (fldAt fs i) := by
    unfold fldAt
    rw [List.getElem?_eq_getElem (show (i : Int).toNat < fs.length by omega)]
    exact k.ok _ (List.getElem_mem _)
  rw [e]
  exact ex_paid hk (plan_le h1 i) (plan_le h2 i)
/-! ### min of three -/
def rMin3 : List V → Hp → VK → Prop := fun xs H Q => ∃ i j k, xs = [.int i, .int j, .int k] ∧ Q (.int (if j < i then (if k < j then k else j) else (if k < i then k else i))) H
theorem call_min3I {X : Cx} (hc : X.calm = true) : CallR X (.builtin "min") rMin3 := by
  intro pins s σ H xs us Q I r h
  obtain ⟨i, j, k, rfl, q⟩ := h
  cases r with
  | cons r1 r =>
    cases r with
    | cons r2 r =>
      cases r with
      | cons r3 r =>
        cases r
        obtain ⟨t1, rfl⟩ := r1
        obtain ⟨t2, rfl⟩ := r2
        obtain ⟨t3, rfl⟩ := r3
        refine min_three_ints (I.ok.hd hc) fun h' tk kk => ⟨_, H, I.kept kk, ?_, q⟩
        split <;> split <;> exact ⟨_, rfl⟩
theorem i_min3 {i j k : Int} {H : Hp} {Q : VK} (q : Q (.int (if j < i then (if k < j then k else j) else (if k < i then k else i))) H) : rMin3 [.int i, .int j, .int k] H Q := ⟨i, j, k, rfl, q⟩
end Hf
/-! ## data whose lists are known by their places: marks -/
namespace Hf
open PySem PySem.Spec PyProof.Rows L2
def mkS : Str := PySem.Str.ofString "mark"
mutual
inductive Ow (H : Hp) : V → PyData → List Addr → Prop
  | non : Ow H .non .none []
  | bl (b : Bool) : Ow H (.bl b) (.bool b) []
  | int (i : Int) : Ow H (.int i) (.int i) []
  | str (x : Str) : Ow H (.str x) (.str x) []
  | lst {a : Addr} {xs : List V} {ds : List PyData} {S : List Addr} : H a = some (.lst xs) → OwAll H xs ds S → Ow H (.ref a) (.list ds) (a :: S)
  | tup {a : Addr} {xs : List V} {ds : List PyData} {S : List Addr} : H a = some (.tup xs) → OwAll H xs ds S → Ow H (.ref a) (.tuple ds) S
inductive OwAll (H : Hp) : List V → List PyData → List Addr → Prop
  | nil : OwAll H [] [] []
  | cons {v : V} {vs : List V} {d : PyData} {ds : List PyData} {S S' : List Addr} : Ow H v d S → OwAll H vs ds S' → OwAll H (v :: vs) (d :: ds) (S ++ S')
end
/-! every list with one thing more -/
mutual
def mk : PyData → PyData
  | .list ds => .list (mkA ds ++ [.str mkS])
  | .tuple ds => .tuple (mkA ds)
  | d => d
def mkA : List PyData → List PyData
  | [] => []
  | d :: ds => mk d :: mkA ds
end
/-! no text "mark" within -/
mutual
def noM : PyData → Bool
  | .list ds => noMA ds
  | .tuple ds => noMA ds
  | .str x => !(x == mkS)
  | _ => true
def noMA : List PyData → Bool
  | [] => true
  | d :: ds => noM d && noMA ds
end
section
variable {H H' : Hp} {v : V} {vs ws : List V} {d : PyData} {ds es : List PyData} {S S' T : List Addr}
mutual
theorem Ow.dq : ∀ {v : V} {d : PyData} {S : List Addr}, Ow H v d S → Dq H v d
  | _, _, _, .non => .non
  | _, _, _, .bl b => .bl b
  | _, _, _, .int i => .int i
  | _, _, _, .str x => .str x
  | _, _, _, .lst h q => .lst h (OwAll.dq q)
  | _, _, _, .tup h q => .tup h (OwAll.dq q)
theorem OwAll.dq : ∀ {vs : List V} {ds : List PyData} {S : List Addr}, OwAll H vs ds S → DqAll H vs ds
  | _, _, _, .nil => .nil
  | _, _, _, .cons h q => .cons (Ow.dq h) (OwAll.dq q)
end
/-- what is kept at all places but those of T -/
def Kp (T : List Addr) (H H' : Hp) : Prop := ∀ b o, b ∉ T → H b = some o → H' b = some o
theorem Kp.refl : Kp T H H := fun _ _ _ h => h
theorem Kp.same (s : Same H H') : Kp T H H' := fun b o _ h => s b o h
theorem Kp.trans {H2 : Hp} (x : Kp T H H') (y : Kp T H' H2) : Kp T H H2 := fun b o n h => y b o n (x b o n h)
theorem Kp.sub (x : Kp S H H') (h : ∀ b, b ∈ S → b ∈ T) : Kp T H H' := fun b o n e => x b o (fun z => n (h b z)) e
theorem Kp.upd {a : Addr} {o : HO} (ha : a ∈ T) (x : Kp T H H') : Kp T H (L2.upd H' a o) := fun b u n h => by
  rw [upd_ne (fun e => n (by rw [e]; exact ha))]
  exact x b u n h
mutual
/-- lists are not tuples: what changes the lists of T alone keeps the data whose lists are apart -/
theorem Ow.kp (hT : ∀ b xs, b ∈ T → H b ≠ some (.tup xs)) (k : Kp T H H') : ∀ {v : V} {d : PyData} {S : List Addr}, Ow H v d S → (∀ b, b ∈ S → b ∉ T) → Ow H' v d S
  | _, _, _, .non, _ => .non
  | _, _, _, .bl b, _ => .bl b
  | _, _, _, .int i, _ => .int i
  | _, _, _, .str x, _ => .str x
  | _, _, _, .lst h q, n => .lst (k _ _ (n _ List.mem_cons_self) h) (OwAll.kp hT k q fun b hb => n b (List.mem_cons_of_mem _ hb))
  | _, _, _, .tup h q, n => .tup (k _ _ (fun z => hT _ _ z h) h) (OwAll.kp hT k q n)
theorem OwAll.kp (hT : ∀ b xs, b ∈ T → H b ≠ some (.tup xs)) (k : Kp T H H') : ∀ {vs : List V} {ds : List PyData} {S : List Addr}, OwAll H vs ds S → (∀ b, b ∈ S → b ∉ T) → OwAll H' vs ds S
  | _, _, _, .nil, _ => .nil
  | _, _, _, .cons h q, n => .cons (Ow.kp hT k h fun b hb => n b (List.mem_append.mpr (.inl hb))) (OwAll.kp hT k q fun b hb => n b (List.mem_append.mpr (.inr hb)))
end
mutual
theorem Ow.lists : ∀ {v : V} {d : PyData} {S : List Addr}, Ow H v d S → ∀ b, b ∈ S → ∃ xs, H b = some (.lst xs)
  | _, _, _, .lst h q, b, hb => by
    rcases List.mem_cons.mp hb with e | e
    · subst e; exact ⟨_, h⟩
    · exact OwAll.lists q b e
  | _, _, _, .tup _ q, b, hb => OwAll.lists q b hb
theorem OwAll.lists : ∀ {vs : List V} {ds : List PyData} {S : List Addr}, OwAll H vs ds S → ∀ b, b ∈ S → ∃ xs, H b = some (.lst xs)
  | _, _, _, .cons h q, b, hb => by
    rcases List.mem_append.mp hb with e | e
    · exact Ow.lists h b e
    · exact OwAll.lists q b e
end
mutual
theorem Ow.same (s : Same H H') : ∀ {v : V} {d : PyData} {S : List Addr}, Ow H v d S → Ow H' v d S
  | _, _, _, .non => .non
  | _, _, _, .bl b => .bl b
  | _, _, _, .int i => .int i
  | _, _, _, .str x => .str x
  | _, _, _, .lst h q => .lst (s _ _ h) (OwAll.same s q)
  | _, _, _, .tup h q => .tup (s _ _ h) (OwAll.same s q)
theorem OwAll.same (s : Same H H') : ∀ {vs : List V} {ds : List PyData} {S : List Addr}, OwAll H vs ds S → OwAll H' vs ds S
  | _, _, _, .nil => .nil
  | _, _, _, .cons h q => .cons (Ow.same s h) (OwAll.same s q)
end
theorem OwAll.snoc : ∀ {vs : List V} {ds : List PyData} {S S' : List Addr} {w : V} {d : PyData}, OwAll H vs ds S → Ow H w d S' → OwAll H (vs ++ [w]) (ds ++ [d]) (S ++ S')
  | _, _, _, S', _, _, .nil, h => by
    have := OwAll.cons h .nil
    rw [List.append_nil] at this
    exact this
  | _, _, _, _, _, _, .cons h q, g => by
    rw [List.append_assoc]
    exact .cons h (OwAll.snoc q g)
theorem OwAll.len : ∀ {vs : List V} {ds : List PyData} {S : List Addr}, OwAll H vs ds S → vs.length = ds.length
  | _, _, _, .nil => rfl
  | _, _, _, .cons _ q => by rw [List.length_cons, List.length_cons, OwAll.len q]
/-- cut at a place -/
theorem OwAll.cut : ∀ {vs : List V} {ds : List PyData} {S : List Addr}, OwAll H vs ds S → ∀ {k : Nat} {w : V}, vs[k]? = some w →
    ∃ S1 S2 S3 d, ds[k]? = some d ∧ S = S1 ++ (S2 ++ S3) ∧ OwAll H (vs.take k) (ds.take k) S1 ∧ Ow H w d S2 ∧ OwAll H (vs.drop (k + 1)) (ds.drop (k + 1)) S3
  | _, _, _, .nil, k, w, h => by simp at h
  | _, _, _, .cons (S := S) (S' := S') (d := d) h q, 0, w, e => by
    rw [List.getElem?_cons_zero] at e
    cases e
    exact ⟨[], S, S', d, rfl, rfl, .nil, h, q⟩
  | _, _, _, .cons (S := S) (S' := S') h q, k + 1, w, e => by
    rw [List.getElem?_cons_succ] at e
    obtain ⟨S1, S2, S3, d, h1, h2, h3, h4, h5⟩ := OwAll.cut q e
    exact ⟨S ++ S1, S2, S3, d, by rw [List.getElem?_cons_succ]; exact h1, by rw [h2, List.append_assoc], .cons h h3, h4, h5⟩
theorem mkA_map : ∀ ds : List PyData, mkA ds = ds.map mk
  | [] => rfl
  | d :: ds => by rw [mkA, List.map_cons, mkA_map ds]
theorem noMA_mem : ∀ {ds : List PyData} {d : PyData}, noMA ds = true → d ∈ ds → noM d = true
  | e :: ds, d, h, hd => by
    rw [noMA, Bool.and_eq_true] at h
    rcases List.mem_cons.mp hd with z | z
    · rw [z]; exact h.1
    · exact noMA_mem h.2 z
/-- how many marks stand among data -/
def cntM (ds : List PyData) : Nat := (ds.filter fun d => match d with | .str x => x == mkS | _ => false).length
theorem cntM_mk : ∀ {ds : List PyData}, noMA ds = true → cntM (mkA ds) = 0
  | [], _ => rfl
  | d :: ds, h => by
    rw [noMA, Bool.and_eq_true] at h
    have ih := cntM_mk h.2
    unfold cntM at ih ⊢
    rw [mkA, List.filter_cons]
    have : (match mk d with | .str x => x == mkS | _ => false) = false := by
      have h1 := h.1
      cases d <;> simp [mk] <;> simp [noM] at h1
      exact h1
    rw [this]
    exact ih
end
/-! ### isinstance by two classes -/
theorem call_isiTK {X : Cx} (K : PySem.W.Frag) (e : X.K = K) : CallR X (.builtin "isinstance") (rIsiT K) := by subst e; exact call_isiT
theorem kit_two {K : PySem.W.Frag} {t c1 c2 : String} {b1 b2 : Bool} (h1 : kitB t c1 = some b1) (h2 : kitB t c2 = some b2) : PySem.W.kitAny K (.type t) [.type c1, .type c2] = some (b1 || b2) := by
  refine kitAny_cons (kit_ty h1) (fun e => ?_) (fun e => by rw [e]; rfl)
  rw [e, Bool.false_or]
  refine kitAny_cons (kit_ty h2) (fun e => ?_) (fun e => e)
  rw [e]
  rfl
theorem i_isiT2 {K : PySem.W.Frag} {H : Hp} {Q : VK} {x : V} {tp : Addr} {t c1 c2 : String} {b1 b2 : Bool} (hT : H tp = some (.tup [.ty c1, .ty c2])) (ty : TyX K H x (.type t)) (h1 : kitB t c1 = some b1) (h2 : kitB t c2 = some b2) (q : Q (.bl (b1 || b2)) H) : rIsiT K [x, .ref tp] H Q :=
  ⟨x, tp, _, _, _, _, rfl, hT, .cons (.ty _) (.cons (.ty _) .nil), ty, kit_two h1 h2, q⟩
/-! ### how often a text stands among data -/
def isS (y : Str) : PyData → Bool
  | .str z => z == y
  | _ => false
def rCntS (K : PySem.W.Frag) : V → List V → Hp → VK → Prop := fun x xs H Q => ∃ (p : Addr) (ys : List V) (y : Str) (ds : List PyData), x = .ref p ∧ xs = [.str y] ∧ SqL K H p ys ∧ DpAll K H ys ds ∧ PyData.canLayAll0 ds = true ∧ PyData.strOk y = true ∧ Q (.int (ds.countP (isS y) : Nat)) H
theorem one_cntS {X : Cx} {pins : List (Addr × Obj)} {s : Shared} {σ : L2.St} {H : Hp} (I : Inv X pins σ H s) {A : Around} (hu : A.units < cLine) {y : Str} {t : Tok} (hy : PyData.strOk y = true) {v : V} {d : PyData} {u : Value} (hd : Dp X.K H v d) (r : RelV v u) (hl : d.canLay0 = true) :
    SeqAt.EqAt A s u (.str y t) (eqU (.str y) u) ∧ eqU (.str y) u = isS y d := by
  have e : eqU (.str y) u = isS y d ∧ PyData.eqv d (.str y) = isS y d := by
    cases hd with
    | non => cases r; exact ⟨rfl, by simp [PyData.eqv, isS]⟩
    | bl b => cases r; exact ⟨rfl, by simp [PyData.eqv, isS]⟩
    | int i => obtain ⟨t, rfl⟩ := r; exact ⟨rfl, by simp [PyData.eqv, isS]⟩
    | str x => obtain ⟨t, rfl⟩ := r; exact ⟨rfl, by simp [PyData.eqv, isS]⟩
    | lst h q => cases r; exact ⟨rfl, by simp [PyData.eqv, isS]⟩
    | tup h q => cases r; exact ⟨rfl, by simp [PyData.eqv, isS]⟩
  obtain ⟨as, r1⟩ := Dp.reads I d v u hd r
  obtain ⟨bs, r2⟩ := Dp.reads I (.str y) (.str y) (.str y t) (.str y) ⟨t, rfl⟩
  refine ⟨?_, e.1⟩
  rw [e.1, ← e.2]
  exact SeqAt.eqAt_reads d (.str y) A s u (.str y t) as bs r1 r2 hl (by simpa [PyData.canLay0] using hy) (by simp [PyData.depth]; omega)
theorem all_cntS {X : Cx} {pins : List (Addr × Obj)} {s : Shared} {σ : L2.St} {H : Hp} (I : Inv X pins σ H s) {A : Around} (hu : A.units < cLine) {y : Str} {t : Tok} (hy : PyData.strOk y = true) : ∀ {ys : List V} {ds : List PyData} {us : List Value}, DpAll X.K H ys ds → Vals ys us → PyData.canLayAll0 ds = true →
    (∀ u ∈ us, SeqAt.EqAt A s u (.str y t) (eqU (.str y) u)) ∧ us.countP (eqU (.str y)) = ds.countP (isS y)
  | [], [], [], .nil, .nil, _ => ⟨nofun, rfl⟩
  | v :: ys, d :: ds, u :: us, .cons h q, .cons r rs, hl => by
    rw [PyData.canLayAll0, Bool.and_eq_true] at hl
    obtain ⟨h1, h2⟩ := one_cntS I hu (t := t) hy h r hl.1
    obtain ⟨h3, h4⟩ := all_cntS I hu (t := t) hy q rs hl.2
    refine ⟨fun u' hu' => ?_, by rw [List.countP_cons, List.countP_cons, h4, h2]⟩
    rcases List.mem_cons.mp hu' with e | e
    · rw [e]; exact h1
    · exact h3 u' e
theorem mt_lcountS {X : Cx} (hu : X.A.units + 64 < cLine) : MtR X "list.count" (rCntS X.K) := by
  intro pins s σ H x xs v us Q I rx rxs h
  obtain ⟨p, ys, y, ds, rfl, rfl, hs, hd', hl', hy, q⟩ := h
  cases rx
  obtain ⟨u, rfl, ru⟩ := rxs.one
  obtain ⟨t, rfl⟩ := ru
  obtain ⟨its, rv, ⟨⟨cls, dd, data, sl⟩, n, ho, hc, hdn, hd⟩, hlen⟩ := I.list hs
  simp only at hc hd
  subst hc hd
  obtain ⟨c1, c2⟩ := all_cntS (A := X.A.in1) I (by show X.A.units + 1 < cLine; omega) (t := t) hy hd' rv hl'
  refine call_meets PySem.F.slot_list_count ⟨_, ho, rfl⟩ PySem.F.entry_list_count (PySem.F.args_list_count_2 _ _)
    (SeqAt.list_countAt p its.toArray n dd sl (.str y t) (eqU (.str y))) ⟨ho, fun u' hu' => c1 u' (by simpa using hu'), ?_⟩
  refine ⟨.int _, H, I.tok _, ⟨s.toks, ?_⟩, q⟩
  show Value.int ((its.toArray.toList.countP (eqU (.str y)) : Nat) : Int) s.toks = Value.int _ s.toks
  rw [show its.toArray.toList = its from rfl, c2]
theorem mt_lcountSK {X : Cx} (K : PySem.W.Frag) (e : X.K = K) (hu : X.A.units + 64 < cLine) : MtR X "list.count" (rCntS K) := by subst e; exact mt_lcountS hu
theorem i_cntS {K : PySem.W.Frag} {H : Hp} {Q : VK} {p : Addr} {y : Str} {ds : List PyData} {n : Nat} (h : Dq H (.ref p) (.list ds)) (hl : PyData.canLayAll0 ds = true) (hy : PyData.strOk y = true) (e : ds.countP (isS y) = n) (q : Q (.int (n : Nat)) H) : rCntS K (.ref p) [.str y] H Q := by
  obtain ⟨a, xs, e1, h1, h2⟩ := h.list_inv
  cases e1
  subst e
  exact ⟨_, xs, y, ds, rfl, rfl, .of h1, h2.dp, hl, hy, q⟩
/-! ### walking what is a list or a tuple -/
def iSeq (K : PySem.W.Frag) (tl : TE) : TI := fun σ H R => tl σ H fun x H1 => ∃ a, x = .ref a ∧ (((∃ xs, SqL K H1 a xs) ∧ R (Itl K a) H1) ∨ ((∃ xs, SqT K H1 a xs) ∧ R (Itt K a) H1))
theorem pi_seq {X : Cx} {tg l : Expr} {tl : TE} (hl : PE X l tl) : PI X tg l (iSeq X.K tl) := by
  refine ⟨fun pins s σ H R I h => ?_⟩
  refine thn (hl.run pins s σ H _ I h) fun v s1 ⟨x, H1, I1, r1, q1⟩ => ?_
  obtain ⟨a, e, q1⟩ := q1
  subst e
  cases r1
  rcases q1 with ⟨⟨xs, hq⟩, q⟩ | ⟨⟨xs, hq⟩, q⟩
  · obtain ⟨its, rv, p, hz⟩ := I1.list hq
    refine wpAny_pyIter_list p.isList ?_
    refine ⟨s1.heap.objs.size, [s1.heap.objs.size], _, _, H1, rfl, I1.kept (t' := s1.toks) fun b o e => Heap.get?_push_of_some _ e, turn_list a _, ⟨_, Heap.get?_push_size _ rfl, rfl, rfl⟩, fun b hb => ?_, q⟩
    have e : b = s1.heap.objs.size := by simpa using hb
    subst e
    exact I1.fpOk (Nat.le_refl _) (I1.hok.fresh (Nat.le_refl _))
  · obtain ⟨its, rv, p, hz⟩ := I1.tuple hq
    refine wpAny_pyIter_tuple (show s1.heap.IsTuple a its.toArray from p) ?_
    refine ⟨s1.heap.objs.size, [s1.heap.objs.size], _, _, H1, rfl, I1.kept (t' := s1.toks) fun b o e => Heap.get?_push_of_some _ e, turn_tuple a _, ⟨_, Heap.get?_push_size _ rfl, rfl, rfl⟩, fun b hb => ?_, q⟩
    have e : b = s1.heap.objs.size := by simpa using hb
    subst e
    exact I1.fpOk (Nat.le_refl _) (I1.hok.fresh (Nat.le_refl _))
theorem pi_seqK {X : Cx} (K : PySem.W.Frag) (e : X.K = K) {tg l : Expr} {tl : TE} (hl : PE X l tl) : PI X tg l (iSeq K tl) := by subst e; exact pi_seq hl
theorem i_iseq {K : PySem.W.Frag} {tl : TE} {σ : L2.St} {H : Hp} {R : It → Hp → Prop} (h : tl σ H fun x H1 => ∃ a, x = .ref a ∧ (((∃ xs, SqL K H1 a xs) ∧ R (Itl K a) H1) ∨ ((∃ xs, SqT K H1 a xs) ∧ R (Itt K a) H1))) : iSeq K tl σ H R := h
theorem i_iseqL {K : PySem.W.Frag} {H : Hp} {p : Addr} {xs : List V} {A : Addr → Prop} {B : Addr → Prop} (h : SqL K H p xs) (q : A p) : ∃ a, V.ref p = .ref a ∧ (((∃ xs, SqL K H a xs) ∧ A a) ∨ ((∃ xs, SqT K H a xs) ∧ B a)) := ⟨p, rfl, .inl ⟨⟨xs, h⟩, q⟩⟩
theorem i_iseqT {K : PySem.W.Frag} {H : Hp} {p : Addr} {xs : List V} {A : Addr → Prop} {B : Addr → Prop} (h : SqT K H p xs) (q : B p) : ∃ a, V.ref p = .ref a ∧ (((∃ xs, SqL K H a xs) ∧ A a) ∨ ((∃ xs, SqT K H a xs) ∧ B a)) := ⟨p, rfl, .inr ⟨⟨xs, h⟩, q⟩⟩
/-! ### the marks, put and looked for -/
theorem OwAll.drop_cons {H : Hp} {xs : List V} {ds : List PyData} {S : List Addr} {i : Nat} {x : V} (h : OwAll H (xs.drop i) (ds.drop i) S) (e : xs[i]? = some x) :
    ∃ d S1 S2, ds[i]? = some d ∧ S = S1 ++ S2 ∧ Ow H x d S1 ∧ OwAll H (xs.drop (i + 1)) (ds.drop (i + 1)) S2 := by
  rw [drop_get e] at h
  cases hd : ds.drop i with
  | nil => rw [hd] at h; cases h
  | cons d r =>
    rw [hd] at h
    have hi : ds[i]? = some d := by
      have := List.getElem?_drop (xs := ds) (i := i) (j := 0)
      rw [hd] at this
      simpa using this.symm
    rw [drop_get hi] at hd
    cases hd
    cases h with
    | cons a b => exact ⟨_, _, _, hi, rfl, a, b⟩
theorem cnt_mk {ds : List PyData} (h : noMA ds = true) : (mkA ds ++ [PyData.str mkS]).countP (isS mkS) = 1 := by
  have e : (mkA ds).countP (isS mkS) = 0 := by
    rw [List.countP_eq_zero]
    intro d hd
    rw [mkA_map] at hd
    obtain ⟨d', hd', rfl⟩ := List.mem_map.mp hd
    have := noMA_mem h hd'
    cases d' <;> simp [mk, isS]
    simp [noM] at this
    exact this
  rw [List.countP_append, e]
  simp [isS, mkS]
mutual
theorem lay_mk : ∀ {d : PyData}, d.canLay0 = true → (mk d).canLay0 = true
  | .none, h => by simpa [mk] using h
  | .bool _, h => by simpa [mk] using h
  | .int _, h => by simpa [mk] using h
  | .str _, h => by simpa [mk] using h
  | .list ds, h => by
    rw [PyData.canLay0] at h
    rw [mk, PyData.canLay0]
    refine lay_all fun d hd => ?_
    rcases List.mem_append.mp hd with e | e
    · exact lay_mkA h d e
    · rw [List.mem_singleton.mp e, PyData.canLay0]; decide +kernel
  | .tuple ds, h => by
    rw [PyData.canLay0] at h
    rw [mk, PyData.canLay0]
    exact lay_all fun d hd => lay_mkA h d hd
  | .dict _, h => by simp [PyData.canLay0] at h
theorem lay_mkA : ∀ {ds : List PyData}, PyData.canLayAll0 ds = true → ∀ d ∈ mkA ds, d.canLay0 = true
  | [], _, _, hd => by cases hd
  | e :: ds, h, d, hd => by
    rw [PyData.canLayAll0, Bool.and_eq_true] at h
    rw [mkA] at hd
    rcases List.mem_cons.mp hd with z | z
    · rw [z]; exact lay_mk h.1
    · exact lay_mkA h.2 d z
end
/-! ### comprehensions of owned things -/
/-- owned, all of it new to H -/
structure OwN (H H' : Hp) (v : V) (d : PyData) (S : List Addr) : Prop where
  ow : Ow H' v d S
  nd : S.Nodup
  nw : ∀ b, b ∈ S → H b = none
theorem OwN.same {H H' H2 : Hp} {v : V} {d : PyData} {S : List Addr} (h : OwN H H' v d S) (s : Same H' H2) : OwN H H2 v d S := ⟨h.ow.same s, h.nd, h.nw⟩
theorem OwN.back {H0 H H' : Hp} {v : V} {d : PyData} {S : List Addr} (h : OwN H H' v d S) (s : Same H0 H) : OwN H0 H' v d S := ⟨h.ow, h.nd, fun b hb => s.free (h.nw b hb)⟩
theorem OwN.dq {H H' : Hp} {v : V} {d : PyData} {S : List Addr} (h : OwN H H' v d S) : Dq H' v d := h.ow.dq
section
variable {σ : L2.St} {H H1 : Hp} {Q : VK} {K : PySem.W.Frag} {D a l : Addr} {wi : TI} {g : TG} {tt : TT} {te : TE} {vs : List Nat} {lo : Int} {n : Nat} {xs : List V} {Qd : Hp → Prop}
theorem lcL_own (f : Nat → PyData) (nD : H1 D = none) (hn : xs.length ≤ 1000000) (hx : SqL K H1 l xs)
    (hs : ∀ (i : Nat) (x : V) H (Z : VK) (Y : Hp → Prop), xs[i]? = some x → Same H1 H → (∀ v S H4, OwN H H4 v (f i) S → Same H H4 → Z v H4) → LcTurn g tt te vs σ x H Z Y)
    (hd : ∀ S H, OwN H1 H (.ref D) (.list ((List.range xs.length).map f)) S → Same H1 H → Qd H) :
    ∃ W : Nat → Nat → Hp → Prop, (∃ m, W 0 m (upd H1 D (.lst []))) ∧ ∀ i m H, W i m H →
      ((Itl K l).stop i H ∧ Qd H) ∨ ((Itl K l).go i H ∧ ∃ Nx : Hp → Prop, (∀ H', Nx H' → ∃ m', m' < m ∧ W (i + 1) m' H') ∧ ∀ x H', (Itl K l).yld i H x H' → g x (wipe σ vs) H' fun σ2 H2 => wipe σ2 vs = wipe σ vs ∧ tt σ2 H2 fun b H3 =>
        if b = true then te σ2 H3 fun y H4 => ∃ acc, H4 D = some (.lst acc) ∧ acc.length < sizeLine ∧ Nx (upd H4 D (.lst (acc ++ [y]))) else Nx H3) := by
  refine lcL (xs := xs) (fun i acc H => acc.length = i ∧ Same H1 H ∧ ∃ S, OwAll H acc ((List.range i).map f) S ∧ S.Nodup ∧ D ∉ S ∧ ∀ b, b ∈ S → H1 b = none) nD ⟨rfl, Same.new nD, [], .nil, List.nodup_nil, by simp, nofun⟩ (fun i acc H _ q _ => q.2.1.seq hx) ?_ ?_
  · rintro i x acc H Z Y hi ⟨h1, h2, S, h3, h4, h5, h6⟩ hD hz _
    have hi' : i < xs.length := (List.getElem?_eq_some_iff.mp hi).1
    refine hs i x H Z Y hi h2 fun v S' H4 k1 k2 => ?_
    have hDS : D ∉ S' := fun z => by
      have := k1.nw D z
      rw [hD] at this
      cases this
    have kp : Kp [D] H4 (upd H4 D (.lst (acc ++ [v]))) := Kp.upd (by simp) Kp.refl
    have ht : ∀ b ys, b ∈ [D] → H4 b ≠ some (.tup ys) := fun b ys hb e => by
      rw [List.mem_singleton.mp hb, k2 _ _ hD] at e
      cases e
    have hd1 : ∀ b, b ∈ S → b ∉ [D] := fun b hb hb' => h5 (by rw [← List.mem_singleton.mp hb']; exact hb)
    have hd2 : ∀ b, b ∈ S' → b ∉ [D] := fun b hb hb' => hDS (by rw [← List.mem_singleton.mp hb']; exact hb)
    refine hz _ _ (k2 _ _ hD) (sz4' (by omega)) ⟨by rw [List.length_append, h1]; rfl, Same.mut (h2.trans k2) nD, S ++ S', ?_, ?_, ?_, ?_⟩
    · rw [List.range_succ, List.map_append]
      exact OwAll.snoc (OwAll.kp ht kp (h3.same k2) hd1) (Ow.kp ht kp k1.ow hd2)
    · rw [List.nodup_append]
      refine ⟨h4, k1.nd, fun b hb c hc e => ?_⟩
      subst e
      obtain ⟨ys, e'⟩ := h3.lists b hb
      rw [k1.nw b hc] at e'
      cases e'
    · intro z
      rcases List.mem_append.mp z with z | z
      · exact h5 z
      · exact hDS z
    · intro b hb
      rcases List.mem_append.mp hb with z | z
      · exact h6 b z
      · exact h2.free (k1.nw b z)
  · rintro acc H ⟨h1, h2, S, h3, h4, h5, h6⟩ hD
    exact hd (D :: S) H ⟨.lst hD h3, List.nodup_cons.mpr ⟨h5, h4⟩, fun b hb => by
      rcases List.mem_cons.mp hb with z | z
      · rw [z]; exact nD
      · exact h6 b z⟩ h2
end
/-- a tuple of two owned things -/
theorem OwN.pair {H H1 H2 : Hp} {v w : V} {d e : PyData} {S T : List Addr} {q : Addr} (h1 : OwN H H1 v d S) (h2 : OwN H1 H2 w e T) (s0 : Same H H1) (s : Same H1 H2) (hq : H2 q = none) : OwN H (upd H2 q (.tup [v, w])) (.ref q) (.tuple [d, e]) (S ++ T) := by
  have sn : Same H2 (upd H2 q (.tup [v, w])) := Same.new hq
  refine ⟨?_, ?_, ?_⟩
  · have := Ow.tup upd_same (OwAll.cons ((h1.ow.same s).same sn) (OwAll.cons (h2.ow.same sn) .nil))
    rw [List.append_nil] at this
    exact this
  · rw [List.nodup_append]
    refine ⟨h1.nd, h2.nd, fun b hb c hc e => ?_⟩
    subst e
    obtain ⟨ys, e'⟩ := h1.ow.lists b hb
    rw [h2.nw b hc] at e'
    cases e'
  · intro b hb
    rcases List.mem_append.mp hb with z | z
    · exact h1.nw b z
    · exact s0.free (h2.nw b z)
theorem own_ints {H : Hp} : ∀ ms : List Int, OwAll H (ms.map V.int) (ms.map PyData.int) []
  | [] => .nil
  | m :: ms => .cons (S := []) (S' := []) (.int m) (own_ints ms)
theorem BatOk.reverse {f s : Int} {fs : List Fld} (k : BatOk f s fs) : BatOk f s fs.reverse := ⟨k.hf, k.hs, by rw [List.length_reverse]; exact k.ne, fun x hx => k.ok x (List.mem_reverse.mp hx)⟩
theorem ow_self {H : Hp} {a : Addr} {ds : List PyData} {S : List Addr} (h : Ow H (.ref a) (.list ds) S) : a ∈ S := by
  cases h with
  | lst _ _ => exact List.mem_cons_self
end Hf
/-! ## isinstance of a caught exception by a tuple of classes -/
namespace Hf
open PySem PySem.Spec PyProof.Rows L2
def rIsXT (K : PySem.W.Frag) : List V → Hp → VK → Prop := fun xs H Q =>
  (∃ (a D : Addr) (d : Option Addr) (tp : Addr) (cs : List V) (us : List Value) (b : Bool), xs = [.ref a, .ref tp] ∧ H a = some (exHO a (.ref D) d) ∧ (∀ dd, d = some dd → ∃ fs, H dd = some (.xd fs)) ∧ ExcC K D ∧ H tp = some (.tup cs) ∧ Paired ClsV cs us ∧ PySem.W.kitAny K (.ref D) us = some b ∧ Q (.bl b) H) ∨ rIsiT K xs H Q
theorem call_isXT {X : Cx} : CallR X (.builtin "isinstance") (rIsXT X.K) := by
  intro pins s σ H xs us Q I r h
  rcases h with ⟨a, D, d, tp, cs, ws, b, rfl, ha, hdd, C, hT, hcs, e, q⟩ | h
  · cases r with
    | cons rx rr =>
      cases rr with
      | cons rt rr =>
        cases rr
        cases rx
        cases rt
        obtain ⟨oe, vs, hget, hz, hv⟩ := exHO_at I.hok ha
        obtain ⟨od, J⟩ : ∃ od, PySem.W.InstAt s.heap a oe D od := by
          cases d with
          | none =>
            obtain ⟨oc, od, oda, osl⟩ := oe
            obtain ⟨h1, h2⟩ := hz
            dsimp only at h1 h2 hv
            subst h1 h2 hv
            exact ⟨none, hget, rfl, rfl, trivial⟩
          | some dd =>
            obtain ⟨fs, hfs⟩ := hdd dd rfl
            have x : ObjOk X.prog X.w H s.heap dd (.xd fs) := I.hok dd _ hfs
            obtain ⟨mA, ⟨o, es, ep, ho, _⟩, _⟩ := x
            obtain ⟨oc, od, oda, osl⟩ := oe
            obtain ⟨h1, h2⟩ := hz
            dsimp only at h1 h2 hv
            subst h1 h2 hv
            exact ⟨some o, hget, rfl, rfl, ho⟩
        have hcl : (PySem.W.clsIn X.K D).isSome = true := by
          obtain ⟨cd, hc, _⟩ := PySem.W.any_some C.hd
          rw [hc]
          rfl
        obtain ⟨_, its, rv, o, h1, h2, n, h3⟩ := (show ObjOk X.prog X.w H s.heap tp (.tup cs) from I.hok tp _ hT)
        have e3 := ClsV.all hcs rv
        subst e3
        obtain ⟨oc, od', dt, sl⟩ := o
        simp only at h2 h3
        subst h2 h3
        exact PySem.W.kia_tup (PySem.W.kitx_exc hcl C.hg C.hk C.hs C.ha C.hn C.ht C.hm) I.kIn J h1 e (fun z => nomatch z) fun tk => ⟨.bl b, H, I.tok tk, rfl, q⟩
  · exact call_isiT pins s σ H xs us Q I r h
theorem call_isXTK {X : Cx} (K : PySem.W.Frag) (e : X.K = K) : CallR X (.builtin "isinstance") (rIsXT K) := by subst e; exact call_isXT
/-- none of these classes -/
def KitN (K : PySem.W.Frag) (D : Addr) (cs : List V) : Prop := ∃ us, Paired ClsV cs us ∧ PySem.W.kitAny K (.ref D) us = some false
theorem KitN.nil {K : PySem.W.Frag} {D : Addr} : KitN K D [] := ⟨[], .nil, rfl⟩
theorem KitN.no {K : PySem.W.Frag} {D C : Addr} {cs : List V} (h : PySem.W.kitOne K (.ref D) (.ref C) = some false) (t : KitN K D cs) : KitN K D (.ref C :: cs) := by
  obtain ⟨us, h1, h2⟩ := t
  exact ⟨.ref C :: us, .cons (.own C) h1, kitAny_cons h (fun _ => h2) (fun z => nomatch z)⟩
/-- one of these classes -/
def KitY (K : PySem.W.Frag) (D : Addr) (cs : List V) : Prop := ∃ us, Paired ClsV cs us ∧ PySem.W.kitAny K (.ref D) us = some true
def KitR (cs : List V) : Prop := ∃ us, Paired ClsV cs us
theorem KitR.nil : KitR [] := ⟨[], .nil⟩
theorem KitR.cons {C : Addr} {cs : List V} (t : KitR cs) : KitR (.ref C :: cs) := by
  obtain ⟨us, h⟩ := t
  exact ⟨.ref C :: us, .cons (.own C) h⟩
theorem KitY.here {K : PySem.W.Frag} {D C : Addr} {cs : List V} (h : PySem.W.kitOne K (.ref D) (.ref C) = some true) (t : KitR cs) : KitY K D (.ref C :: cs) := by
  obtain ⟨us, h1⟩ := t
  exact ⟨.ref C :: us, .cons (.own C) h1, by unfold PySem.W.kitAny; rw [h]⟩
theorem KitY.there {K : PySem.W.Frag} {D C : Addr} {cs : List V} (h : PySem.W.kitOne K (.ref D) (.ref C) = some false) (t : KitY K D cs) : KitY K D (.ref C :: cs) := by
  obtain ⟨us, h1, h2⟩ := t
  exact ⟨.ref C :: us, .cons (.own C) h1, kitAny_cons h (fun _ => h2) (fun z => nomatch z)⟩
section
variable {K : PySem.W.Frag} {H : Hp} {Q : VK} {a D tp dd : Addr} {cs : List V}
theorem i_isXY (h : H a = some (exHO a (.ref D) none)) (hT : H tp = some (.tup cs)) (e : ExcC K D) (k : KitY K D cs) (q : Q (.bl true) H) : rIsXT K [.ref a, .ref tp] H Q := by
  obtain ⟨us, h1, h2⟩ := k
  exact .inl ⟨a, D, none, tp, cs, us, true, rfl, h, fun _ z => (nomatch z), e, hT, h1, h2, q⟩
theorem i_isXN (h : H a = some (exHO a (.ref D) none)) (hT : H tp = some (.tup cs)) (e : ExcC K D) (k : KitN K D cs) (q : Q (.bl false) H) : rIsXT K [.ref a, .ref tp] H Q := by
  obtain ⟨us, h1, h2⟩ := k
  exact .inl ⟨a, D, none, tp, cs, us, false, rfl, h, fun _ z => (nomatch z), e, hT, h1, h2, q⟩
theorem i_isXNd {fs : List (Str × V)} (h : H a = some (exHO a (.ref D) (some dd))) (hd : H dd = some (.xd fs)) (hT : H tp = some (.tup cs)) (e : ExcC K D) (k : KitN K D cs) (q : Q (.bl false) H) : rIsXT K [.ref a, .ref tp] H Q := by
  obtain ⟨us, h1, h2⟩ := k
  exact .inl ⟨a, D, some dd, tp, cs, us, false, rfl, h, fun x z => by cases z; exact ⟨fs, hd⟩, e, hT, h1, h2, q⟩
theorem i_isXT2 {x : V} {t c1 c2 : String} {b1 b2 : Bool} (hT : H tp = some (.tup [.ty c1, .ty c2])) (ty : TyX K H x (.type t)) (h1 : kitB t c1 = some b1) (h2 : kitB t c2 = some b2) (q : Q (.bl (b1 || b2)) H) : rIsXT K [x, .ref tp] H Q := .inr (i_isiT2 hT ty h1 h2 q)
end
end Hf
/-! ## exceptions with an __init__ of their own, which calls that of a base of the program -/
namespace Hf
open PySem PySem.Spec PyProof.Rows L2
/-- Base.__init__(self, ..), Base a class of the program without one of its own -/
theorem pe_hinit {X : L2.Cx} {B : Addr} {mc : Value} {x : Str} {e : Expr} {es : List Expr} {ta : TA} {p1 p2 pos : Pos} {pl : Sem Bool} (r : ClX.CRead X.K B mc) (k : PySem.W.findCls X.K (.ref B) mc "__init__" = some (.val (.builtin "ValueError.__init__"))) (hg : Gl X x) (hm : X.mg x = some (.ref B)) (ha : PA X (e :: es) ta)
    (hd : (x == ("__debug__" : Str)) = false := by decide)
    (hc : eval (.Call (.Attribute (.Name x p1) "__init__" p2) (e :: es) [] pos) X.env = (do
      let ov ← eval (.Name x p1) X.env
      standAt p2.atName
      let (f, first) ← holding [ov] (getMethod ov "__init__" pl)
      callWith pos f first (backTo pos (starEach (e :: es) X.env)) (backToKw pos (keywordEach [] X.env))) := by rfl)
    (he : starEach (e :: es) X.env = (false, eval e X.env) :: starEach es X.env := by rfl) (hpl : (backTo pos (starEach es X.env)).any (·.1) = false := by rfl) :
    PE X (.Call (.Attribute (.Name x p1) "__init__" p2) (e :: es) [] pos) (tVeI X.K ta) := by
  refine ⟨fun pins s σ H Q I h => ?_⟩
  refine PySem.W.methodCall_KW (ld_glob I hg hm ?_ hd) hc
  refine PySem.W.method_cls I.kIn r.ga (PySem.W.cls_value I.kIn r.rd k (by decide +kernel) ?_)
  show wpAny _ _ (callWith pos (Value.builtin "ValueError.__init__") [] (backTo pos (starEach (e :: es) X.env)) []) _ _ _
  refine PyProof.Rows.callWith_method1 (thn (ha.run pos pins _ σ H _ (I.tok _) h) fun us s1 ⟨vs, H1, I1, r1, a, C, ws, ev, hl, T, ea, q⟩ => ?_) he hpl
  subst ev
  cases r1 with
  | @cons _ u0 _ ur ra rw' =>
    obtain rfl : u0 = Value.ref a := ra
    have hlen : ur.length ≤ sizeLine := by
      rw [← Paired.length rw', sizeLine_eq]
      omega
    exact oinit_ok T I1 ea hlen fun s' J => ⟨.non, H1, J, rfl, q⟩
section
variable {σ : L2.St} {H : Hp} {Q : VK} {K : PySem.W.Frag} {a C : Addr} {ws vs dvs : List V} {ta : TA} {to te : TE} {f : Str} {y : V} {nx bk ct : L2.St → Hp → Prop} {rt : VK}
def VeR (K : PySem.W.Frag) (vs : List V) (H : Hp) (Q : VK) : Prop := ∃ (a C : Addr) (ws : List V), vs = .ref a :: ws ∧ ws.length ≤ 1000 ∧ OexC K C ∧ H a = some (exo a C none) ∧ Q .non H
theorem i_vei (h : ta σ H fun vs H1 => VeR K vs H1 Q) : tVeI K ta σ H Q := h
theorem i_ver (h : H a = some (exo a C none)) (T : OexC K C) (hl : ws.length ≤ 1000) (q : Q .non H) : VeR K (.ref a :: ws) H Q := ⟨a, C, ws, rfl, hl, T, h, q⟩
def OsR (K : PySem.W.Frag) (f : Str) (y x : V) (H : Hp) (Z : Hp → Prop) : Prop := ∃ a C : Addr, x = V.ref a ∧ OexC K C ∧ PySem.W.findIn K (.ref C) f = some none ∧
  ((H a = some (exo a C none) ∧ ∀ dx, H dx = none → dx ≠ a → Z (upd (upd H dx (exd dx [(f, y)])) a (exo a C (some dx)))) ∨
    ∃ (dx : Addr) (fs : List (Str × V)), H a = some (exo a C (some dx)) ∧ H dx = some (exd dx fs) ∧ fs.length ≤ 900 ∧ Z (upd H dx (exd dx ((f, y) :: fs))))
theorem i_ost (h : te σ H fun y H1 => to σ H1 fun x H2 => OsR K f y x H2 (nx σ)) : tOst K f to te ⟨nx, rt, bk, ct⟩ σ H := h
theorem i_osr {Z : Hp → Prop} (h : H a = some (exo a C none)) (T : OexC K C) (n : PySem.W.findIn K (.ref C) f = some none) (q : ∀ dx, H dx = none → dx ≠ a → Z (upd (upd H dx (exd dx [(f, y)])) a (exo a C (some dx)))) : OsR K f y (.ref a) H Z := ⟨a, C, rfl, T, n, .inl ⟨h, q⟩⟩
end
end Hf
/-! ### raise C(y), C's __init__ noting one field -/
namespace Hf
open PySem PySem.Spec PyProof.Rows L2
section
variable {σ : L2.St} {H : Hp} {Q : VK} {K : PySem.W.Frag} {C : Addr} {f : Str} {y : V} {sp : Sp}
/-- what such an __init__ promises -/
def IniSp (sp : Sp) (C : Addr) (f : Str) (y : V) : Prop := ∀ (a : Addr) (H : Hp) (Q : VK) (E : XK), H a = some (exo a C none) → (∀ dx, H dx = none → dx ≠ a → Q .non (upd (upd H dx (exd dx [(f, y)])) a (exo a C (some dx)))) → sp [.ref a, y] H Q E
theorem i_mko {dvs : List V} {ta : TA} {Z : XK} (h : ta σ H fun vs H1 => vs.length ≤ 1000 ∧ ∀ a, H1 a = none → sp (.ref a :: (vs ++ dvs)) (upd H1 a (exo a C none))
  (fun v H2 => v = .non ∧ ∃ (d : Addr) (fs : List (Str × V)), H2 a = some (exo a C (some d)) ∧ H2 d = some (exd d fs) ∧ H1 d = none ∧ Z (.ref C) (some d) (upd (del H2 a) d (.xd fs))) (fun _ _ _ => False)) : tMkO C sp dvs ta σ H Z := h
theorem i_mko1 {Z : XK} (s : IniSp sp C f y) (q : ∀ d H', H d = none → H' d = some (.xd [(f, y)]) → Same H H' → Z (.ref C) (some d) H') : ([y] : List V).length ≤ 1000 ∧ ∀ a, H a = none → sp (.ref a :: ([y] ++ [])) (upd H a (exo a C none))
  (fun v H2 => v = .non ∧ ∃ (d : Addr) (fs : List (Str × V)), H2 a = some (exo a C (some d)) ∧ H2 d = some (exd d fs) ∧ H d = none ∧ Z (.ref C) (some d) (upd (del H2 a) d (.xd fs))) (fun _ _ _ => False) := by
  refine ⟨by rw [List.length_singleton]; decide, fun a ha => s a _ _ _ upd_same fun dx h1 h2 => ⟨rfl, dx, [(f, y)], upd_same, ?_, ?_, ?_⟩⟩
  · rw [upd_ne h2, upd_same]
  · rw [upd_ne h2] at h1
    exact h1
  · rw [upd_ne h2] at h1
    refine q dx _ h1 upd_same fun b o e => ?_
    have n1 : b ≠ a := ne_of_none e ha
    have n2 : b ≠ dx := ne_of_none e h1
    rw [upd_ne n2, del_ne n1, upd_ne n1, upd_ne n2, upd_ne n1]
    exact e
/-! ### caught.field behind the suite -/
def tXfH (K : PySem.W.Frag) (f : Str) (te : TE) : TE := fun σ H Q => te σ H fun x H1 => ∃ (a C dd : Addr) (fs : List (Str × V)) (v : V), x = .ref a ∧ H1 a = some (exHO a (.ref C) (some dd)) ∧ H1 dd = some (.xd fs) ∧ ExcC K C ∧ PySem.W.findIn K (.ref C) f = some none ∧ fs.lookup f = some v ∧ Q v H1
theorem pe_xfH {X : Cx} (K : PySem.W.Frag) (eK : X.K = K) {e : Expr} {te : TE} {pos : Pos} {n : Str} (he : PE X e te) (hb : attributeBase e n X.env (eval e X.env) = eval e X.env := by rfl) : PE X (.Attribute e n pos) (tXfH K n te) := by
  subst eK
  refine ⟨fun pins s σ H Q I h => ?_⟩
  refine attr_of hb (thn (he.run pins s σ H _ I h) fun u s1 hh => ?_)
  obtain ⟨x, H1, I1, rx, a, C, dd, fs, v, ex, ha, hdd, T, hno, l, q⟩ := hh
  subst ex
  obtain rfl : u = Value.ref a := rx
  obtain ⟨oe, vs, hget, hz, hd⟩ := exHO_at I1.hok ha
  have hx : ObjOk X.prog X.w H1 s1.heap dd (.xd fs) := I1.hok dd _ hdd
  obtain ⟨mA, hns, hr⟩ := hx
  obtain ⟨od, ho, hl⟩ := lookIn_ns hns
  obtain ⟨u, hu, ru⟩ := RelO.some_of (v := v) (o := mA n) (by rw [← l]; exact hr n)
  have J : PySem.W.InstAt s1.heap a oe C (some od) := ⟨hget, hz.1, by unfold PySem.W.notCls; rw [hd] <;> rfl, by rw [hz.2]; exact ho⟩
  exact HandSPX.exc_get I1.kIn J T.hg T.hk T.hs (PySem.W.findObj_own T.hd hno rfl (by rw [hl, hu])) (handed_of ru) ⟨v, H1, I1.tok _, ru, q⟩
def XfR (K : PySem.W.Frag) (f : Str) (x : V) (H1 : Hp) (Q : VK) : Prop := ∃ (a C dd : Addr) (fs : List (Str × V)) (v : V), x = .ref a ∧ H1 a = some (exHO a (.ref C) (some dd)) ∧ H1 dd = some (.xd fs) ∧ ExcC K C ∧ PySem.W.findIn K (.ref C) f = some none ∧ fs.lookup f = some v ∧ Q v H1
theorem i_xfH {te : TE} (h : te σ H fun x H1 => XfR K f x H1 Q) : tXfH K f te σ H Q := h
theorem i_xfR {a dd : Addr} {v : V} (h : H a = some (exHO a (.ref C) (some dd))) (h1 : H dd = some (.xd [(f, v)])) (T : ExcC K C) (n : PySem.W.findIn K (.ref C) f = some none) (q : Q v H) : XfR K f (.ref a) H Q :=
  ⟨a, C, dd, _, v, rfl, h, h1, T, n, by simp [List.lookup], q⟩
end
end Hf
/-! ## what is looked at: any data -/
namespace Hf
open PySem PySem.Spec PyProof.Rows L2
def isNumD : PyData → Bool
  | .int _ => true
  | _ => false
def isLstD : PyData → Bool
  | .list _ => true
  | _ => false
def isTupD : PyData → Bool
  | .tuple _ => true
  | _ => false
def areNumsD (n : Int) : PyData → Bool
  | .list ds => decide ((ds.length : Int) = n) && ds.all isNumD
  | _ => false
def isRuleD : List PyData → Bool
  | [.int a, .int _] => decide (1 ≤ a)
  | _ => false
def isMoreD : List PyData → Bool
  | [.int a, .int b] => decide (1 ≤ a) && (decide (0 - a ≤ b) && decide (b ≤ a))
  | _ => false
def isRowsD (f s : Int) : List PyData → Bool
  | [.list rs] => decide ((rs.length : Int) = f + 1) && rs.all (areNumsD (s + 1))
  | _ => false
/-- a field of the first word w and what stands behind it -/
def isFieldD (f s : Int) (w : Str) (ds : List PyData) : Bool :=
  if w = PySem.Str.ofString "more" then isMoreD ds else if w = PySem.Str.ofString "lead" then isRuleD ds else if w = PySem.Str.ofString "table" then isRowsD f s ds else false
def isFldT (f s : Int) : PyData → Bool
  | .tuple (.str w :: r) => isFieldD f s w r
  | _ => false
/-- which field is the first that is none -/
def badB (f s : Int) (ds : List PyData) : Option Int :=
  if f < 0 ∨ s < 0 ∨ 10 < f ∨ 10 < s ∨ ds.length < 1 ∨ 5 < ds.length then some (-1) else Option.map Int.ofNat (ds.findIdx? fun d => !isFldT f s d)
/-- what may stand in the place of a field -/
def FldIn (d : PyData) : Prop := ∃ w r, d = .tuple (.str w :: r) ∧ wid (.tuple r) ≤ 1000
def batT (f s : Int) (ds : List PyData) : PyData := .tuple [.int f, .int s, .list ds]
theorem all_num : ∀ ms : List Int, (ms.map PyData.int).all isNumD = true
  | [] => rfl
  | m :: ms => by
    rw [List.map_cons, List.all_cons, all_num ms]
    rfl
theorem nums_plan (ms : List Int) (n : Int) : areNumsD n (planD ms) = decide ((ms.length : Int) = n) := by
  rw [planD, areNumsD, List.length_map, all_num, Bool.and_true]
theorem str_ne1 : ¬ (PySem.Str.ofString "lead" = PySem.Str.ofString "more") := by decide +kernel
theorem str_ne2 : ¬ (PySem.Str.ofString "table" = PySem.Str.ofString "more") := by decide +kernel
theorem str_ne3 : ¬ (PySem.Str.ofString "table" = PySem.Str.ofString "lead") := by decide +kernel
theorem fld_ok {f s : Int} {fl : Fld} : isFldT f s (fldD fl) = true ↔ FldOk f s fl := by
  cases fl with
  | more w t => simp [fldD, isFldT, isFieldD, isMoreD, FldOk]
  | lead w t => simp [fldD, isFldT, isFieldD, isRuleD, FldOk, str_ne1]
  | tab rows =>
    simp only [fldD, isFldT, isFieldD, isRowsD, FldOk, if_neg str_ne2, if_neg str_ne3, if_true, List.length_map, Bool.and_eq_true, decide_eq_true_eq, List.all_map, List.all_eq_true, Function.comp, nums_plan]
theorem fld_in {f s : Int} {fl : Fld} (hf : f ≤ 10) (hs : s ≤ 10) (k : FldOk f s fl) : FldIn (fldD fl) := by
  have w := wid_fld hf hs k
  cases fl with
  | more w t => exact ⟨_, _, rfl, by simp [wid, widA]⟩
  | lead w t => exact ⟨_, _, rfl, by simp [wid, widA]⟩
  | tab rows =>
    refine ⟨_, _, rfl, ?_⟩
    simp only [fldD, wid, widA, List.length_cons, List.length_nil] at w ⊢
    omega
theorem bad_none {f s : Int} {ds : List PyData} : badB f s ds = none ↔ (0 ≤ f ∧ f ≤ 10) ∧ (0 ≤ s ∧ s ≤ 10) ∧ (1 ≤ ds.length ∧ ds.length ≤ 5) ∧ ∀ d ∈ ds, isFldT f s d = true := by
  unfold badB
  split
  · simp
    omega
  · rename_i c
    rw [Option.map_eq_none_iff, List.findIdx?_eq_none_iff]
    refine ⟨fun h => ⟨by omega, by omega, by omega, fun d hd => ?_⟩, fun h d hd => ?_⟩
    · simpa using h d hd
    · simpa using h.2.2.2 d hd
theorem bad_ok {f s : Int} {fs : List Fld} : badB f s (fs.map fldD) = none ↔ BatOk f s fs := by
  rw [bad_none]
  constructor
  · rintro ⟨h1, h2, h3, h4⟩
    refine ⟨h1, h2, by rw [List.length_map] at h3; exact h3, fun x hx => fld_ok.mp (h4 _ (List.mem_map_of_mem hx))⟩
  · intro h
    refine ⟨h.hf, h.hs, by rw [List.length_map]; exact h.ne, fun d hd => ?_⟩
    obtain ⟨x, hx, rfl⟩ := List.mem_map.mp hd
    exact fld_ok.mpr (h.ok x hx)
theorem bat_in {f s : Int} {fs : List Fld} (h : BatOk f s fs) : ∀ d ∈ fs.map fldD, FldIn d := fun d hd => by
  obtain ⟨x, hx, rfl⟩ := List.mem_map.mp hd
  exact fld_in h.hf.2 h.hs.2 (h.ok x hx)
theorem bad_at {f s : Int} {ds : List PyData} (h : 0 ≤ f ∧ f ≤ 10 ∧ 0 ≤ s ∧ s ≤ 10 ∧ 1 ≤ ds.length ∧ ds.length ≤ 5) {k : Nat} {d : PyData} (hd : ds[k]? = some d) (h1 : isFldT f s d = false) (h2 : ∀ (j : Nat) e, j < k → ds[j]? = some e → isFldT f s e = true) : badB f s ds = some (k : Int) := by
  unfold badB
  rw [if_neg (by omega)]
  have hk := (List.getElem?_eq_some_iff.mp hd).1
  have : ds.findIdx? (fun d => !isFldT f s d) = some k := by
    rw [List.findIdx?_eq_some_iff_getElem]
    refine ⟨hk, ?_, fun j hj => ?_⟩
    · rw [(List.getElem?_eq_some_iff.mp hd).2, h1]
      rfl
    · rw [h2 j _ hj (List.getElem?_eq_getElem (by omega))]
      simp
  rw [this]
  rfl
section
variable {H : Hp} {v : V}
theorem Dq.tup_inv {ds : List PyData} (h : Dq H v (.tuple ds)) : ∃ a xs, v = .ref a ∧ H a = some (.tup xs) ∧ DqAll H xs ds := Dq.tuple_inv h
theorem batT_inv {f s : Int} {ds : List PyData} (h : Dq H v (batT f s ds)) : ∃ a p xs, v = .ref a ∧ H a = some (.tup [.int f, .int s, .ref p]) ∧ H p = some (.lst xs) ∧ DqAll H xs ds := by
  obtain ⟨a, xs, rfl, h1, h2⟩ := Dq.tuple_inv h
  cases h2 with
  | cons a b =>
    cases b with
    | cons c d =>
      cases d with
      | cons e f =>
        cases f
        obtain rfl := Dq.int_inv a
        obtain rfl := Dq.int_inv c
        obtain ⟨p, ys, rfl, h3, h4⟩ := Dq.list_inv e
        exact ⟨_, p, ys, rfl, h1, h3, h4⟩
theorem batT_mk {a p : Addr} {xs : List V} {f s : Int} {ds : List PyData} (h : H a = some (.tup [.int f, .int s, .ref p])) (h1 : H p = some (.lst xs)) (h2 : DqAll H xs ds) : Dq H (.ref a) (batT f s ds) := .tup h (.cons (.int _) (.cons (.int _) (.cons (.lst h1 h2) .nil)))
theorem fldT_inv {w : Str} {r : List PyData} (h : Dq H v (.tuple (.str w :: r))) : ∃ a xs, v = .ref a ∧ H a = some (.tup (.str w :: xs)) ∧ DqAll H xs r := by
  obtain ⟨a, xs, rfl, h1, h2⟩ := Dq.tuple_inv h
  cases h2 with
  | cons a b =>
    obtain rfl := Dq.str_inv a
    exact ⟨_, _, rfl, h1, b⟩
end
theorem atI_0 {x : V} {xs : List V} : atI (x :: xs) 0 = some x := atI_nat (j := 0) rfl
theorem atI_1 {x y : V} {xs : List V} : atI (x :: y :: xs) 1 = some y := atI_nat (j := 1) rfl
theorem atI_2 {x y z : V} {xs : List V} : atI (x :: y :: z :: xs) 2 = some z := atI_nat (j := 2) rfl
theorem i_ix3S {K : PySem.W.Frag} {H : Hp} {Q : VK} {p : Addr} {i : Int} {y1 y2 y3 : Str} (h : SqL K H p [.str y1, .str y2, .str y3]) (h0 : 0 ≤ i) (h1 : i < 3) (q : ∀ v, v = y1 ∨ v = y2 ∨ v = y3 → Q (.str v) H) : rIxL K (.ref p) (.int i) H Q := by
  obtain rfl | rfl | rfl : i = 0 ∨ i = 1 ∨ i = 2 := by omega
  · exact i_ixL h atI_0 (q _ (.inl rfl))
  · exact i_ixL h atI_1 (q _ (.inr (.inl rfl)))
  · exact i_ixL h atI_2 (q _ (.inr (.inr rfl)))
theorem bnot {b : Bool} (h : (!b) = true) : b = false := by simpa using h
theorem bnot' {b : Bool} (h : (!b) = false) : b = true := by simpa using h
theorem num_inv {d : PyData} (h : isNumD d = true) : ∃ x, d = .int x := by
  cases d <;> simp [isNumD] at h ⊢
theorem rule_inv {ds : List PyData} (h : isRuleD ds = true) : ∃ x y, ds = [.int x, .int y] ∧ 1 ≤ x := by
  unfold isRuleD at h
  split at h
  · exact ⟨_, _, rfl, of_decide_eq_true h⟩
  · cases h
theorem rule_short1 {d : PyData} : isRuleD [d] = false := by simp [isRuleD]
theorem rule_long {a b c : PyData} {ds : List PyData} : isRuleD (a :: b :: c :: ds) = false := by simp [isRuleD]
theorem rule_no1 {a b : PyData} (h : isNumD a = false) : isRuleD [a, b] = false := by
  cases a <;> simp [isRuleD, isNumD] at h ⊢
theorem rule_no2 {a b : PyData} (h : isNumD b = false) : isRuleD [a, b] = false := by
  cases b <;> simp [isRuleD, isNumD] at h ⊢
theorem more_rule {ds : List PyData} (h : isRuleD ds = false) : isMoreD ds = false := by
  unfold isMoreD
  split
  · rw [isRuleD] at h
    rw [h]
    rfl
  · rfl
theorem more_yes {x y : Int} (h : 1 ≤ x) (h2 : 0 - x ≤ y) : isMoreD [.int x, .int y] = decide (y ≤ x) := by
  rw [isMoreD, decide_eq_true h, decide_eq_true h2, Bool.true_and, Bool.true_and]
theorem more_no {x y : Int} (h2 : ¬ 0 - x ≤ y) : isMoreD [.int x, .int y] = false := by
  rw [isMoreD, decide_eq_false h2, Bool.false_and, Bool.and_false]
theorem rows_long {f s : Int} {a b : PyData} {ds : List PyData} : isRowsD f s (a :: b :: ds) = false := by simp [isRowsD]
theorem rows_one {f s : Int} {d : PyData} (h : isLstD d = false) : isRowsD f s [d] = false := by
  cases d <;> simp [isRowsD, isLstD] at h ⊢
theorem rows_no {f s : Int} {ds : List PyData} (h : ¬ (ds.length : Int) = f + 1) : isRowsD f s [.list ds] = false := by
  rw [isRowsD, decide_eq_false h, Bool.false_and]
theorem rows_yes {f s : Int} {ds : List PyData} (h : (ds.length : Int) = f + 1) : isRowsD f s [.list ds] = ds.all (areNumsD (s + 1)) := by
  rw [isRowsD, decide_eq_true h, Bool.true_and]
theorem dq_two_ints {H : Hp} {xs : List V} {x y : Int} (h : DqAll H xs [.int x, .int y]) : xs = [.int x, .int y] := DqAll.ints (ms := [x, y]) h
/-! ### how many are kept: none, or some -/
section
variable {σ : L2.St} {H H1 : Hp} {Q : VK} {K : PySem.W.Frag} {D l : Addr} {g : TG} {tt : TT} {te : TE} {vs : List Nat} {xs : List V} {Qd : Hp → Prop}
theorem lcL_fl (b : Nat → Bool) (nD : H1 D = none) (hn : xs.length ≤ 1000000) (hx : SqL K H1 l xs)
    (hs : ∀ (i : Nat) (x : V) H (Z : VK) (Y : Hp → Prop), xs[i]? = some x → Same H1 H → (∀ v H4, b i = true → Same H H4 → Z v H4) → (∀ H4, b i = false → Same H H4 → Y H4) → LcTurn g tt te vs σ x H Z Y)
    (hd : ∀ acc H, H D = some (.lst acc) → Same H1 H → ((acc.length : Int) = 0 ↔ ∀ i, i < xs.length → b i = false) → acc.length ≤ xs.length → Qd H) :
    ∃ W : Nat → Nat → Hp → Prop, (∃ m, W 0 m (upd H1 D (.lst []))) ∧ ∀ i m H, W i m H →
      ((Itl K l).stop i H ∧ Qd H) ∨ ((Itl K l).go i H ∧ ∃ Nx : Hp → Prop, (∀ H', Nx H' → ∃ m', m' < m ∧ W (i + 1) m' H') ∧ ∀ x H', (Itl K l).yld i H x H' → g x (wipe σ vs) H' fun σ2 H2 => wipe σ2 vs = wipe σ vs ∧ tt σ2 H2 fun b H3 =>
        if b = true then te σ2 H3 fun y H4 => ∃ acc, H4 D = some (.lst acc) ∧ acc.length < sizeLine ∧ Nx (upd H4 D (.lst (acc ++ [y]))) else Nx H3) := by
  refine lcL (xs := xs) (fun i acc H => Same H1 H ∧ acc.length ≤ i ∧ (acc = [] ↔ ∀ j, j < i → b j = false)) nD ⟨Same.new nD, Nat.le_refl _, by simp⟩ (fun i acc H _ q _ => q.1.seq hx) ?_ ?_
  · rintro i x acc H Z Y hi ⟨r1, r2, r3⟩ hD hz hy
    have hi' : i < xs.length := (List.getElem?_eq_some_iff.mp hi).1
    refine hs i x H Z Y hi r1 (fun v H4 e s => hz _ _ (s _ _ hD) (sz4' (by omega)) ⟨Same.mut (r1.trans s) nD, by rw [List.length_append]; show _ + 1 ≤ _; omega, ⟨fun q => by simp at q, fun q => ?_⟩⟩) (fun H4 e s => hy _ (s _ _ hD) ⟨r1.trans s, by omega, ?_⟩)
    · rw [q i (by omega)] at e
      cases e
    · rw [r3]
      refine ⟨fun q j hj => ?_, fun q j hj => q j (by omega)⟩
      by_cases c : j = i
      · rw [c]; exact e
      · exact q j (by omega)
  · rintro acc H ⟨r1, r2, r3⟩ hD
    refine hd acc H hD r1 ?_ r2
    rw [← r3, ← List.length_eq_zero_iff]
    omega
end
theorem all_at {α : Type} {p : α → Bool} {xs : List α} : xs.all p = true ↔ ∀ (i : Nat) (x : α), xs[i]? = some x → p x = true := by
  rw [List.all_eq_true]
  refine ⟨fun h i x e => h x (List.mem_of_getElem? e), fun h x hx => ?_⟩
  obtain ⟨i, hi, rfl⟩ := List.mem_iff_getElem.mp hx
  exact h i _ (List.getElem?_eq_getElem hi)
/-- the end of `len([.. if not p]) == 0` -/
theorem len0_all {p : PyData → Bool} {ds : List PyData} {n : Nat} {m : Nat} (e : n = ds.length) (h : (m : Int) = 0 ↔ ∀ i, i < n → (!((ds[i]?).map p).getD true) = false) : decide ((m : Int) = 0) = ds.all p := by
  subst e
  rw [Bool.eq_iff_iff, decide_eq_true_iff, h, all_at]
  refine ⟨fun q i x e => ?_, fun q i hi => ?_⟩
  · have := q i (List.getElem?_eq_some_iff.mp e).1
    rw [e] at this
    simpa using this
  · rw [List.getElem?_eq_getElem hi]
    simp [q i _ (List.getElem?_eq_getElem hi)]
end Hf
/-! ### what may be copied and bent: words with numbers, tables of rows -/
namespace Hf
open PySem PySem.Spec PyProof.Rows L2
def CpOk (d : PyData) : Prop := (∃ (w : Str) (ms : List Int), d = .tuple (.str w :: ms.map PyData.int) ∧ ¬ w = PySem.Str.ofString "table" ∧ PyData.strOk w = true ∧ ms.length ≤ 4) ∨ (∃ rows : List (List Int), d = fldD (.tab rows) ∧ rows.length ≤ 20 ∧ ∀ r ∈ rows, r.length ≤ 20)
theorem cp_word {w : Str} (ms : List Int) (h : ¬ w = PySem.Str.ofString "table") (s : PyData.strOk w = true) (l : ms.length ≤ 4) : CpOk (.tuple (.str w :: ms.map PyData.int)) := .inl ⟨w, ms, rfl, h, s, l⟩
theorem cp_tab {rows : List (List Int)} (h : rows.length ≤ 20) (h2 : ∀ r ∈ rows, r.length ≤ 20) : CpOk (fldD (.tab rows)) := .inr ⟨rows, rfl, h, h2⟩
theorem cp_fld {f s : Int} {fl : Fld} (hf : f ≤ 10) (hs : s ≤ 10) (k : FldOk f s fl) : CpOk (fldD fl) := by
  cases fl with
  | more w t => exact cp_word [w, t] (by decide +kernel) (by decide +kernel) (by simp)
  | lead w t => exact cp_word [w, t] (by decide +kernel) (by decide +kernel) (by simp)
  | tab rows =>
    obtain ⟨h1, h2⟩ := k
    exact cp_tab (by omega) fun r hr => by have := h2 r hr; omega
theorem word_less {f s : Int} {w0 : Str} (hw : w0 = PySem.Str.ofString "more" ∨ w0 = PySem.Str.ofString "lead") {z : Int} {r : List PyData} (hz : z < 1) : isFieldD f s w0 (.int z :: r) = false := by
  rcases hw with rfl | rfl
  · rw [isFieldD, if_pos rfl]
    unfold isMoreD
    split
    · rename_i e; cases e
      rw [decide_eq_false (by omega)]
      rfl
    · rfl
  · rw [isFieldD, if_neg str_ne1, if_pos rfl]
    unfold isRuleD
    split
    · rename_i e; cases e
      exact decide_eq_false (by omega)
    · rfl
theorem word_len {f s : Int} {w0 : Str} (hw : w0 = PySem.Str.ofString "more" ∨ w0 = PySem.Str.ofString "lead") {ds : List PyData} (hl : ds.length ≠ 2) : isFieldD f s w0 ds = false := by
  rcases hw with rfl | rfl
  · rw [isFieldD, if_pos rfl]
    unfold isMoreD
    split
    · exact absurd rfl hl
    · rfl
  · rw [isFieldD, if_neg str_ne1, if_pos rfl]
    unfold isRuleD
    split
    · exact absurd rfl hl
    · rfl
theorem fld_no {f s : Int} {fl : Fld} (h : ¬ FldOk f s fl) : isFldT f s (fldD fl) = false := by
  cases e : isFldT f s (fldD fl) with
  | false => rfl
  | true => exact absurd (fld_ok.mp e) h
theorem CpOk.fin {d : PyData} (h : CpOk d) : FldIn d := by
  rcases h with ⟨w, ms, rfl, _, _, h⟩ | ⟨rows, rfl, h1, h2⟩
  · refine ⟨w, _, rfl, ?_⟩
    rw [wid, wid_ints, List.length_map]
    omega
  · have := wid_rows (k := 20) rows h1 h2
    refine ⟨_, _, rfl, ?_⟩
    simp only [wid, widA, List.length_cons, List.length_nil, List.length_map] at this ⊢
    omega
theorem CpOk.lay {d : PyData} (h : CpOk d) : d.canLay0 = true := by
  rcases h with ⟨w, ms, rfl, _, s, _⟩ | ⟨rows, rfl, _, _⟩
  · simp [PyData.canLay0, PyData.canLayAll0, s, canLay_ints]
  · exact lay_fld _
theorem CpOk.dep {d : PyData} (h : CpOk d) : dep d ≤ 3 := by
  rcases h with ⟨w, ms, rfl, _, _, _⟩ | ⟨rows, rfl, _, _⟩
  · simp [Hf.dep, depA, dep_ints]
  · exact dep_fld _
theorem shaped_batT {f s : Int} {ds : List PyData} (h : ∀ d ∈ ds, CpOk d) : SeqAt.shaped (batT f s ds) = true := by
  have l : PyData.canLayAll0 ds = true := lay_all fun d hd => (h d hd).lay
  have e : depA ds ≤ 3 := depA_le fun d hd => (h d hd).dep
  refine shaped_of (by simp [batT, PyData.canLay0, PyData.canLayAll0, l]) ?_
  simp only [batT, Hf.dep, depA]
  omega
end Hf
namespace Hf
open PySem PySem.Spec PyProof.Rows L2
theorem i_nin {K : PySem.W.Frag} {H : Hp} {Q : VK} {p : Addr} {x : V} {xs : List V} {b : Bool} (h : SqL K H p xs) (f : flatV x = true) (g : xs.all flatV = true) (e : inV x xs = b) (q : Q (.bl (!b)) H) : rIn K true x (.ref p) H Q := ⟨p, xs, rfl, .inl h, f, g, by rw [e]; exact q⟩
theorem i_ninT {K : PySem.W.Frag} {H : Hp} {Q : VK} {p : Addr} {x : V} {xs : List V} {b : Bool} (h : SqT K H p xs) (f : flatV x = true) (g : xs.all flatV = true) (e : inV x xs = b) (q : Q (.bl (!b)) H) : rIn K true x (.ref p) H Q := ⟨p, xs, rfl, .inr h, f, g, by rw [e]; exact q⟩
theorem i_neDe {K : PySem.W.Frag} {H : Hp} {Q : VK} {v w : V} {d e : PyData} (h1 : Dq H v d) (h2 : Dq H w e) (s1 : SeqAt.shaped d = true) (s2 : SeqAt.shaped e = true) (q : Q (.bl (!PyData.eqv d e)) H) : rNeD K v w H Q := ⟨d, e, h1.dp, h2.dp, s1, s2, q⟩
end Hf
/-! ## owned things, more of them -/
namespace Hf
open PySem PySem.Spec PyProof.Rows L2
section
variable {σ : L2.St} {H H1 : Hp} {Q : VK} {K : PySem.W.Frag} {D a l : Addr} {wi : TI} {g : TG} {tt : TT} {te : TE} {vs : List Nat} {lo : Int} {n : Nat} {xs : List V} {Qd : Hp → Prop}
theorem lcR_own (f : Nat → PyData) (nD : H1 D = none) (hn : n ≤ 1000000)
    (hs : ∀ (i : Nat) H (Z : VK) (Y : Hp → Prop), i < n → Same H1 H → (∀ v S H4, OwN H H4 v (f i) S → Same H H4 → Z v H4) → LcTurn g tt te vs σ (.int (lo + i)) H Z Y)
    (hd : ∀ S H, OwN H1 H (.ref D) (.list ((List.range n).map f)) S → Same H1 H → Qd H) :
    ∃ W : Nat → Nat → Hp → Prop, (∃ m, W 0 m (upd H1 D (.lst []))) ∧ ∀ i m H, W i m H →
      ((Itr lo n).stop i H ∧ Qd H) ∨ ((Itr lo n).go i H ∧ ∃ Nx : Hp → Prop, (∀ H', Nx H' → ∃ m', m' < m ∧ W (i + 1) m' H') ∧ ∀ x H', (Itr lo n).yld i H x H' → g x (wipe σ vs) H' fun σ2 H2 => wipe σ2 vs = wipe σ vs ∧ tt σ2 H2 fun b H3 =>
        if b = true then te σ2 H3 fun y H4 => ∃ acc, H4 D = some (.lst acc) ∧ acc.length < sizeLine ∧ Nx (upd H4 D (.lst (acc ++ [y]))) else Nx H3) := by
  refine lcR (fun i acc H => acc.length = i ∧ Same H1 H ∧ ∃ S, OwAll H acc ((List.range i).map f) S ∧ S.Nodup ∧ D ∉ S ∧ ∀ b, b ∈ S → H1 b = none) nD ⟨rfl, Same.new nD, [], .nil, List.nodup_nil, by simp, nofun⟩ ?_ ?_
  · rintro i acc H Z Y hi ⟨h1, h2, S, h3, h4, h5, h6⟩ hD hz _
    refine hs i H Z Y hi h2 fun v S' H4 k1 k2 => ?_
    have hDS : D ∉ S' := fun z => by
      have := k1.nw D z
      rw [hD] at this
      cases this
    have kp : Kp [D] H4 (upd H4 D (.lst (acc ++ [v]))) := Kp.upd (by simp) Kp.refl
    have ht : ∀ b ys, b ∈ [D] → H4 b ≠ some (.tup ys) := fun b ys hb e => by
      rw [List.mem_singleton.mp hb, k2 _ _ hD] at e
      cases e
    have hd1 : ∀ b, b ∈ S → b ∉ [D] := fun b hb hb' => h5 (by rw [← List.mem_singleton.mp hb']; exact hb)
    have hd2 : ∀ b, b ∈ S' → b ∉ [D] := fun b hb hb' => hDS (by rw [← List.mem_singleton.mp hb']; exact hb)
    refine hz _ _ (k2 _ _ hD) (sz4' (by omega)) ⟨by rw [List.length_append, h1]; rfl, Same.mut (h2.trans k2) nD, S ++ S', ?_, ?_, ?_, ?_⟩
    · rw [List.range_succ, List.map_append]
      exact OwAll.snoc (OwAll.kp ht kp (h3.same k2) hd1) (Ow.kp ht kp k1.ow hd2)
    · rw [List.nodup_append]
      refine ⟨h4, k1.nd, fun b hb c hc e => ?_⟩
      subst e
      obtain ⟨ys, e'⟩ := h3.lists b hb
      rw [k1.nw b hc] at e'
      cases e'
    · intro z
      rcases List.mem_append.mp z with z | z
      · exact h5 z
      · exact hDS z
    · intro b hb
      rcases List.mem_append.mp hb with z | z
      · exact h6 b z
      · exact h2.free (k1.nw b z)
  · rintro acc H ⟨h1, h2, S, h3, h4, h5, h6⟩ hD
    exact hd (D :: S) H ⟨.lst hD h3, List.nodup_cons.mpr ⟨h5, h4⟩, fun b hb => by
      rcases List.mem_cons.mp hb with z | z
      · rw [z]; exact nD
      · exact h6 b z⟩ h2
theorem lcT_own (f : Nat → PyData) (nD : H1 D = none) (hn : xs.length ≤ 1000000) (hx : SqT K H1 l xs)
    (hs : ∀ (i : Nat) (x : V) H (Z : VK) (Y : Hp → Prop), xs[i]? = some x → Same H1 H → (∀ v S H4, OwN H H4 v (f i) S → Same H H4 → Z v H4) → LcTurn g tt te vs σ x H Z Y)
    (hd : ∀ S H, OwN H1 H (.ref D) (.list ((List.range xs.length).map f)) S → Same H1 H → Qd H) :
    ∃ W : Nat → Nat → Hp → Prop, (∃ m, W 0 m (upd H1 D (.lst []))) ∧ ∀ i m H, W i m H →
      ((Itt K l).stop i H ∧ Qd H) ∨ ((Itt K l).go i H ∧ ∃ Nx : Hp → Prop, (∀ H', Nx H' → ∃ m', m' < m ∧ W (i + 1) m' H') ∧ ∀ x H', (Itt K l).yld i H x H' → g x (wipe σ vs) H' fun σ2 H2 => wipe σ2 vs = wipe σ vs ∧ tt σ2 H2 fun b H3 =>
        if b = true then te σ2 H3 fun y H4 => ∃ acc, H4 D = some (.lst acc) ∧ acc.length < sizeLine ∧ Nx (upd H4 D (.lst (acc ++ [y]))) else Nx H3) := by
  refine lcT (xs := xs) (fun i acc H => acc.length = i ∧ Same H1 H ∧ ∃ S, OwAll H acc ((List.range i).map f) S ∧ S.Nodup ∧ D ∉ S ∧ ∀ b, b ∈ S → H1 b = none) nD ⟨rfl, Same.new nD, [], .nil, List.nodup_nil, by simp, nofun⟩ (fun i acc H _ q _ => Same.seqT q.2.1 hx) ?_ ?_
  · rintro i x acc H Z Y hi ⟨h1, h2, S, h3, h4, h5, h6⟩ hD hz _
    have hi' : i < xs.length := (List.getElem?_eq_some_iff.mp hi).1
    refine hs i x H Z Y hi h2 fun v S' H4 k1 k2 => ?_
    have hDS : D ∉ S' := fun z => by
      have := k1.nw D z
      rw [hD] at this
      cases this
    have kp : Kp [D] H4 (upd H4 D (.lst (acc ++ [v]))) := Kp.upd (by simp) Kp.refl
    have ht : ∀ b ys, b ∈ [D] → H4 b ≠ some (.tup ys) := fun b ys hb e => by
      rw [List.mem_singleton.mp hb, k2 _ _ hD] at e
      cases e
    have hd1 : ∀ b, b ∈ S → b ∉ [D] := fun b hb hb' => h5 (by rw [← List.mem_singleton.mp hb']; exact hb)
    have hd2 : ∀ b, b ∈ S' → b ∉ [D] := fun b hb hb' => hDS (by rw [← List.mem_singleton.mp hb']; exact hb)
    refine hz _ _ (k2 _ _ hD) (sz4' (by omega)) ⟨by rw [List.length_append, h1]; rfl, Same.mut (h2.trans k2) nD, S ++ S', ?_, ?_, ?_, ?_⟩
    · rw [List.range_succ, List.map_append]
      exact OwAll.snoc (OwAll.kp ht kp (h3.same k2) hd1) (Ow.kp ht kp k1.ow hd2)
    · rw [List.nodup_append]
      refine ⟨h4, k1.nd, fun b hb c hc e => ?_⟩
      subst e
      obtain ⟨ys, e'⟩ := h3.lists b hb
      rw [k1.nw b hc] at e'
      cases e'
    · intro z
      rcases List.mem_append.mp z with z | z
      · exact h5 z
      · exact hDS z
    · intro b hb
      rcases List.mem_append.mp hb with z | z
      · exact h6 b z
      · exact h2.free (k1.nw b z)
  · rintro acc H ⟨h1, h2, S, h3, h4, h5, h6⟩ hD
    exact hd (D :: S) H ⟨.lst hD h3, List.nodup_cons.mpr ⟨h5, h4⟩, fun b hb => by
      rcases List.mem_cons.mp hb with z | z
      · rw [z]; exact nD
      · exact h6 b z⟩ h2
end
/-- a tuple of flat things and a last owned one -/
theorem OwN.bat {H H1 : Hp} {v : V} {f s : Int} {d : PyData} {S : List Addr} {q : Addr} (h : OwN H H1 v d S) (hq : H1 q = none) : OwN H (upd H1 q (.tup [.int f, .int s, v])) (.ref q) (.tuple [.int f, .int s, d]) S := by
  refine ⟨?_, h.nd, h.nw⟩
  have := Ow.tup (H := upd H1 q (.tup [.int f, .int s, v])) (a := q) upd_same (OwAll.cons (S := []) (.int f) (OwAll.cons (S := []) (.int s) (OwAll.cons (h.ow.same (Same.new hq)) .nil)))
  rw [List.append_nil] at this
  exact this
theorem OwN.tab {H H1 : Hp} {v : V} {w : Str} {d : PyData} {S : List Addr} {q : Addr} (h : OwN H H1 v d S) (hq : H1 q = none) : OwN H (upd H1 q (.tup [.str w, v])) (.ref q) (.tuple [.str w, d]) S := by
  refine ⟨?_, h.nd, h.nw⟩
  have := Ow.tup (H := upd H1 q (.tup [.str w, v])) (a := q) upd_same (OwAll.cons (S := []) (.str w) (OwAll.cons (h.ow.same (Same.new hq)) .nil))
  rw [List.append_nil] at this
  exact this
theorem own_word {H H1 : Hp} {w : Str} {a b : Int} {q : Addr} : OwN H (upd H1 q (.tup [.str w, .int a, .int b])) (.ref q) (.tuple [.str w, .int a, .int b]) [] :=
  ⟨Ow.tup upd_same (OwAll.cons (S := []) (.str w) (OwAll.cons (S := []) (.int a) (OwAll.cons (S := []) (.int b) .nil))), List.nodup_nil, nofun⟩
theorem own_list {H : Hp} {D : Addr} {H1 : Hp} {r : List Int} (hD : H1 D = some (.lst (r.map V.int))) (n : H D = none) : OwN H H1 (.ref D) (planD r) [D] :=
  ⟨.lst hD (own_ints _), by simp, fun b hb => by rw [List.mem_singleton.mp hb]; exact n⟩
theorem DqAll.append {H : Hp} : ∀ {vs ws : List V} {ds es : List PyData}, DqAll H vs ds → DqAll H ws es → DqAll H (vs ++ ws) (ds ++ es)
  | _, _, _, _, .nil, h => h
  | _, _, _, _, .cons h q, g => .cons h (DqAll.append q g)
theorem DqAll.rep6 {H : Hp} {vs : List V} {ds : List PyData} (h : DqAll H vs ds) : ∀ n : Nat, DqAll H (List.replicate n vs).flatten (List.replicate n ds).flatten
  | 0 => .nil
  | n + 1 => by
    rw [List.replicate_succ, List.replicate_succ, List.flatten_cons, List.flatten_cons]
    exact h.append (DqAll.rep6 h n)
theorem flat_len {α : Type} {xs : List α} : ∀ n : Nat, (List.replicate n xs).flatten.length = n * xs.length
  | 0 => by simp
  | n + 1 => by
    rw [List.replicate_succ, List.flatten_cons, List.length_append, flat_len n, Nat.succ_mul]
    omega
theorem flat_mem {α : Type} {xs : List α} {x : α} {n : Nat} (h : x ∈ (List.replicate n xs).flatten) : x ∈ xs := by
  obtain ⟨l, h1, h2⟩ := List.mem_flatten.mp h
  rw [(List.mem_replicate.mp h1).2] at h2
  exact h2
theorem ne_hid {a b : Addr} {H : Hp} {o : HO} (h : hid [a] H b = some o) : b ≠ a := fun e => by
  rw [e, hid_in (by simp)] at h
  cases h
theorem DqAll.set {H : Hp} : ∀ {vs : List V} {ds : List PyData} {w : V} {d : PyData}, DqAll H vs ds → Dq H w d → ∀ n : Nat, DqAll H (vs.set n w) (ds.set n d)
  | _, _, _, _, .nil, _, _ => .nil
  | _, _, _, _, .cons _ q, g, 0 => .cons g q
  | _, _, _, _, .cons h q, g, n + 1 => .cons h (DqAll.set q g n)
theorem same_hidS {G H : Hp} {S : List Addr} (s : Same G H) (h : ∀ b, b ∈ S → G b = none) : Same G (hid S H) := fun b o e => by
  have n : b ∉ S := fun z => by rw [h b z] at e; cases e
  rw [hid_out n]
  exact s b o e
/-- more is hidden: what is new -/
theorem hid_more {H H1 : Hp} {R : Addr} {S : List Addr} (s : Same H H1) (n : H R = none) : Same (hid S H) (hid (R :: S) H1) := fun b o h => by
  by_cases c : b ∈ S
  · rw [hid_in c] at h
    cases h
  · rw [hid_out c] at h
    have : b ∉ R :: S := fun z => by
      rcases List.mem_cons.mp z with e | e
      · rw [e, n] at h; cases h
      · exact c e
    rw [hid_out this]
    exact s b o h
theorem hid_less {H : Hp} {S T : List Addr} (h : ∀ b, b ∈ T → b ∈ S) : Same (hid S H) (hid T H) := fun b o e => by
  by_cases c : b ∈ S
  · rw [hid_in c] at e
    cases e
  · rw [hid_out c] at e
    rw [hid_out fun z => c (h b z)]
    exact e
theorem noMA_every : ∀ {ds : List PyData}, (∀ d ∈ ds, noM d = true) → noMA ds = true
  | [], _ => by simp [noMA]
  | d :: ds, h => by
    rw [noMA, h d List.mem_cons_self, noMA_every fun e he => h e (List.mem_cons_of_mem _ he)]
    rfl
theorem noM_int (r : List Int) : noMA (r.map PyData.int) = true := noMA_every fun d hd => by
  obtain ⟨x, _, rfl⟩ := List.mem_map.mp hd
  simp [noM]
theorem noM_fld (fl : Fld) : noM (fldD fl) = true := by
  cases fl with
  | more w t => simp [fldD, noM, noMA, mkS]; decide +kernel
  | lead w t => simp [fldD, noM, noMA, mkS]; decide +kernel
  | tab rows =>
    have : noMA (rows.map planD) = true := noMA_every fun d hd => by
      obtain ⟨x, _, rfl⟩ := List.mem_map.mp hd
      exact noM_int x
    simp [fldD, noM, noMA, mkS, this]
    decide +kernel
theorem bat_facts {f s : Int} {fs : List Fld} (k : BatOk f s fs) : (batD f s fs).canLay0 = true ∧ noM (batD f s fs) = true ∧ (dep (batD f s fs) < 12 ∧ 1 ≤ dep (batD f s fs) ∧ wid (batD f s fs) ≤ 1000) := by
  have h2 : noM (batD f s fs) = true := by
    have : noMA (fs.map fldD) = true := noMA_every fun d hd => by
      obtain ⟨x, _, rfl⟩ := List.mem_map.mp hd
      exact noM_fld x
    simp [batD, noM, noMA, this]
  have h3 := dep_bat f s fs
  have h4 := wid_bat k.hf.2 k.hs.2 (by have := k.ne; omega) k.ok
  refine ⟨lay_bat f s fs, h2, by omega, ?_, by omega⟩
  simp only [batD, dep]
  omega
theorem Dq.word {H : Hp} {t : Addr} {w : Str} {k : Int} (h : H t = some (.tup [.str w, .int k])) : Dq H (.ref t) (.tuple [.str w, .int k]) := .tup h (.cons (.str w) (.cons (.int k) .nil))
theorem Dq.word0 {H : Hp} {t : Addr} {w : Str} (h : H t = some (.tup [.str w, .non])) : Dq H (.ref t) (.tuple [.str w, .none]) := .tup h (.cons (.str w) (.cons .non .nil))
theorem shaped_word0 {w : Str} (h : PyData.strOk w = true) : SeqAt.shaped (.tuple [.str w, .none]) = true := by
  refine shaped_of (by simp [PyData.canLay0, PyData.canLayAll0, h]) ?_
  simp [dep, depA]
theorem shaped_word {w : Str} {k : Int} (h : PyData.strOk w = true) : SeqAt.shaped (.tuple [.str w, .int k]) = true := by
  refine shaped_of (by simp [PyData.canLay0, PyData.canLayAll0, h]) ?_
  simp [dep, depA]
theorem OwN.tupOf {H H1 : Hp} {D t : Addr} {xs : List V} {ds : List PyData} {S : List Addr} (h : OwN H H1 (.ref D) (.list ds) S) (hD : H1 D = some (.lst xs)) (ht : H1 t = none) : ∃ S', OwN H (upd H1 t (.tup xs)) (.ref t) (.tuple ds) S' := by
  obtain ⟨o, nd, nw⟩ := h
  cases o with
  | @lst _ ys _ S' h1 h2 =>
    rw [h1] at hD
    cases hD
    exact ⟨S', .tup upd_same (h2.same (Same.new ht)), (List.nodup_cons.mp nd).2, fun b hb => nw b (List.mem_cons_of_mem _ hb)⟩
mutual
theorem Ow.hid {H : Hp} {T : List Addr} (ht : ∀ b xs, b ∈ T → H b ≠ some (.tup xs)) : ∀ {v : V} {d : PyData} {S : List Addr}, Ow H v d S → (∀ b, b ∈ S → b ∉ T) → Dq (hid T H) v d
  | _, _, _, .non, _ => .non
  | _, _, _, .bl b, _ => .bl b
  | _, _, _, .int i, _ => .int i
  | _, _, _, .str x, _ => .str x
  | _, _, _, .lst h q, n => .lst (hid_lk (n _ List.mem_cons_self) h) (OwAll.hid ht q fun b hb => n b (List.mem_cons_of_mem _ hb))
  | _, _, _, .tup h q, n => .tup (hid_lk (fun z => ht _ _ z h) h) (OwAll.hid ht q n)
theorem OwAll.hid {H : Hp} {T : List Addr} (ht : ∀ b xs, b ∈ T → H b ≠ some (.tup xs)) : ∀ {vs : List V} {ds : List PyData} {S : List Addr}, OwAll H vs ds S → (∀ b, b ∈ S → b ∉ T) → DqAll (hid T H) vs ds
  | _, _, _, .nil, _ => .nil
  | _, _, _, .cons h q, n => .cons (Ow.hid ht h fun b hb => n b (List.mem_append.mpr (.inl hb))) (OwAll.hid ht q fun b hb => n b (List.mem_append.mpr (.inr hb)))
end
theorem ow_bat {H : Hp} {w : V} {f s : Int} {ds : List PyData} {S : List Addr} (h : Ow H w (batT f s ds) S) : ∃ hA hq zs S', w = .ref hA ∧ H hA = some (.tup [.int f, .int s, .ref hq]) ∧ H hq = some (.lst zs) ∧ OwAll H zs ds S' ∧ S = hq :: S' := by
  cases h with
  | tup h q =>
    cases q with
    | cons a b =>
      cases a
      cases b with
      | cons a b =>
        cases a
        cases b with
        | cons a b =>
          cases b
          cases a with
          | lst h1 h2 =>
            exact ⟨_, _, _, _, rfl, h, h1, h2, by simp⟩
/-- an owned battle beside a purse -/
theorem own_beside {H0 H : Hp} {w : V} {f s : Int} {ds : List PyData} {S : List Addr} {pL : Addr} {m c : Int} (h : OwN H0 H w (batT f s ds) S) (pk : Pk pL m H0 c) (sm : Same H0 H) :
    ∃ hA hq zs, w = .ref hA ∧ H hA = some (.tup [.int f, .int s, .ref hq]) ∧ H hq = some (.lst zs) ∧ DqAll (hid [hq, pL] H) zs ds ∧ hA ≠ pL ∧ hq ≠ pL ∧ H0 hq = none := by
  obtain ⟨hA, hq, zs, S', rfl, h1, h2, h3, rfl⟩ := ow_bat h.ow
  obtain ⟨n, c', e, _⟩ := pk.same sm
  have hn := h.nw hq List.mem_cons_self
  have n1 : hA ≠ pL := fun z => by rw [z, e] at h1; cases h1
  have n2 : hq ≠ pL := pk.ne hn
  have nd := (List.nodup_cons.mp h.nd).1
  refine ⟨hA, hq, zs, rfl, h1, h2, OwAll.hid (fun b xs hb z => ?_) h3 (fun b hb hb' => ?_), n1, n2, hn⟩
  · rcases List.mem_cons.mp hb with g | g
    · rw [g, h2] at z; cases z
    · rw [List.mem_singleton.mp g, e] at z; cases z
  · rcases List.mem_cons.mp hb' with g | g
    · exact nd (g ▸ hb)
    · have := h.nw b (List.mem_cons_of_mem _ hb)
      rw [List.mem_singleton.mp g] at this
      obtain ⟨_, _, e', _⟩ := pk
      rw [e'] at this
      cases this
/-! ### times so much -/
def byF (b : Int) : Fld → Fld
  | .more w t => .more (w * b) (t * b)
  | .lead w l => .lead (w * b) l
  | .tab rows => .tab (rows.map fun r => r.map fun x => x * b)
theorem byF_ok {f s b : Int} {fl : Fld} (hb : 1 ≤ b) (k : FldOk f s fl) : FldOk f s (byF b fl) := by
  have hb0 : 0 ≤ b := by omega
  cases fl with
  | more w t =>
    obtain ⟨h1, h2, h3⟩ := k
    refine ⟨?_, ?_, ?_⟩
    · have := Int.mul_le_mul h1 hb (by omega) (by omega)
      omega
    · have := Int.mul_le_mul_of_nonneg_right h2 hb0
      rw [Int.sub_mul, Int.zero_mul] at this
      exact this
    · exact Int.mul_le_mul_of_nonneg_right h3 hb0
  | lead w l =>
    have h1 : 1 ≤ w := k
    show 1 ≤ w * b
    have := Int.mul_le_mul h1 hb (by omega) (by omega)
    omega
  | tab rows =>
    obtain ⟨h1, h2⟩ := k
    refine ⟨by rw [List.length_map]; exact h1, fun r hr => ?_⟩
    obtain ⟨r', hr', rfl⟩ := List.mem_map.mp hr
    rw [List.length_map]
    exact h2 r' hr'
theorem by_ok {f s b : Int} {fs : List Fld} (hb : 1 ≤ b) (k : BatOk f s fs) : BatOk f s (fs.map (byF b)) := ⟨k.hf, k.hs, by rw [List.length_map]; exact k.ne, fun x hx => by
  obtain ⟨y, hy, rfl⟩ := List.mem_map.mp hx
  exact byF_ok hb (k.ok y hy)⟩
theorem ex_ex {f s : Int} {fl : Fld} (hf : 0 ≤ f) (hs : 0 ≤ s) (k : FldOk f s fl) : exF f (exF s fl) = fl := by
  cases fl with
  | more w t => simp [exF]
  | lead w l => simp [exF]; omega
  | tab rows =>
    obtain ⟨h1, h2⟩ := k
    simp only [exF, Fld.tab.injEq]
    apply List.ext_getElem?
    intro x
    rw [List.getElem?_map]
    by_cases c : x < rows.length
    · rw [List.getElem?_range (by omega), List.getElem?_eq_getElem c]
      simp only [Option.map_some, Option.some.injEq]
      apply List.ext_getElem?
      intro y
      rw [List.getElem?_map, List.getElem?_map]
      have hr := h2 _ (List.getElem_mem c)
      by_cases c2 : y < (rows[x]).length
      · rw [List.getElem?_range (by omega)]
        simp [c, c2]
      · rw [List.getElem?_eq_none (by rw [List.length_range]; omega), List.getElem?_eq_none (by omega)]
        rfl
    · rw [List.getElem?_eq_none (by rw [List.length_range]; omega), List.getElem?_eq_none (by omega)]
      rfl
theorem ex_ex_all {f s : Int} {fs : List Fld} (k : BatOk f s fs) : (fs.map (exF s)).map (exF f) = fs := by
  rw [List.map_map]
  have : ∀ x ∈ fs, (exF f ∘ exF s) x = x := fun x hx => ex_ex k.hf.1 k.hs.1 (k.ok x hx)
  rw [List.map_congr_left this]
  exact List.map_id' fs
theorem planD_inj {r r' : List Int} (h : planD r = planD r') : r = r' := by
  have h2 := PyData.list.inj h
  induction r generalizing r' with
  | nil => cases r' <;> simp_all
  | cons x r ih =>
    cases r' with
    | nil => simp at h2
    | cons y r' =>
      simp at h2
      rw [h2.1, ih (by simp [planD, h2.2]) h2.2]
theorem map_inj {α β : Type} {f : α → β} (h : ∀ a b, f a = f b → a = b) : ∀ {xs ys : List α}, xs.map f = ys.map f → xs = ys
  | [], [], _ => rfl
  | [], _ :: _, e => by simp at e
  | _ :: _, [], e => by simp at e
  | x :: xs, y :: ys, e => by
    rw [List.map_cons, List.map_cons, List.cons.injEq] at e
    rw [h _ _ e.1, map_inj h e.2]
theorem fldD_inj {a b : Fld} (h : fldD a = fldD b) : a = b := by
  cases a <;> cases b <;> simp [fldD] at h ⊢
  · exact h
  · have := h.1; revert this; decide +kernel
  · have := h.1; revert this; decide +kernel
  · exact h
  · exact map_inj (fun a b e => planD_inj e) h
theorem good_flds {f s : Int} {ds : List PyData} (h : badB f s ds = none) : ∃ fs : List Fld, ds = fs.map fldD ∧ BatOk f s fs := by
  have key : ∀ ds : List PyData, (∀ d ∈ ds, isFldT f s d = true) → ∃ fs : List Fld, ds = fs.map fldD := by
    intro ds
    induction ds with
    | nil => exact fun _ => ⟨[], rfl⟩
    | cons d ds ih =>
      intro h
      obtain ⟨fs, rfl⟩ := ih fun e he => h e (List.mem_cons_of_mem _ he)
      have h1 := h d List.mem_cons_self
      suffices z : ∃ fl, d = fldD fl by
        obtain ⟨fl, rfl⟩ := z
        exact ⟨fl :: fs, rfl⟩
      unfold isFldT at h1
      split at h1
      · rename_i w r
        unfold isFieldD at h1
        split at h1
        · rename_i c
          subst c
          unfold isMoreD at h1
          split at h1
          · exact ⟨.more _ _, rfl⟩
          · cases h1
        · split at h1
          · rename_i c
            subst c
            unfold isRuleD at h1
            split at h1
            · exact ⟨.lead _ _, rfl⟩
            · cases h1
          · split at h1
            · rename_i c
              subst c
              unfold isRowsD at h1
              split at h1
              · rename_i rs
                rw [Bool.and_eq_true] at h1
                have h2 := List.all_eq_true.mp h1.2
                suffices z : ∃ rows : List (List Int), rs = rows.map planD by
                  obtain ⟨rows, rfl⟩ := z
                  exact ⟨.tab rows, rfl⟩
                clear h1 h
                induction rs with
                | nil => exact ⟨[], rfl⟩
                | cons d rs ih2 =>
                  obtain ⟨rows, rfl⟩ := ih2 fun e he => h2 e (List.mem_cons_of_mem _ he)
                  have h3 := h2 d List.mem_cons_self
                  unfold areNumsD at h3
                  split at h3
                  · rename_i xs
                    rw [Bool.and_eq_true] at h3
                    suffices z : ∃ r : List Int, xs = r.map PyData.int by
                      obtain ⟨r, rfl⟩ := z
                      exact ⟨r :: rows, rfl⟩
                    have h4 := List.all_eq_true.mp h3.2
                    clear h3 h2 ih2
                    induction xs with
                    | nil => exact ⟨[], rfl⟩
                    | cons x xs ih3 =>
                      obtain ⟨r, rfl⟩ := ih3 fun e he => h4 e (List.mem_cons_of_mem _ he)
                      have h5 := h4 x List.mem_cons_self
                      unfold isNumD at h5
                      split at h5
                      · rename_i z
                        exact ⟨z :: r, rfl⟩
                      · cases h5
                  · cases h3
              · cases h1
            · cases h1
      · cases h1
  obtain ⟨fs, rfl⟩ := key ds (bad_none.mp h).2.2.2
  exact ⟨fs, rfl, bad_ok.mp h⟩
end Hf
namespace Hf
instance {x : Int} : Decidable (Sm x) := by unfold Sm; infer_instance
theorem sm_abs {x : Int} (h : Sm x) : x.natAbs < 2 ^ 120 := by
  obtain ⟨h1, h2⟩ := h
  omega
end Hf
/-! ## odd things -/
namespace Hf
open PySem PySem.Spec PyProof.Rows L2
section
variable {K : PySem.W.Frag} {H : Hp} {Q : VK} {p r : Addr} {x : V} {xs ys : List V}
theorem i_slT1 (h : SqT K H p (x :: xs)) (q : ∀ p', H p' = none → Q (.ref p') (upd H p' (.tup xs))) : rSlA K (.ref p) (some 1) none H Q :=
  ⟨p, _, rfl, h, fun c => absurd c.1 (by rw [show (1 : Int) = ((1 : Nat) : Int) from rfl, HT.sIx_nat, List.length_cons]; omega), fun _ p' n => by rw [cut_from (by decide)]; exact q p' n⟩
theorem i_catTg (h1 : H p = some (.tup xs)) (h2 : SqT K H r ys) (n : xs ≠ []) (hz : xs.length + ys.length ≤ 1000) (q : ∀ t H', H' t = some (.tup (xs ++ ys)) → Same H H' → Q (.ref t) H') : rCatT K (.ref p) (.ref r) H Q :=
  ⟨p, r, xs, ys, rfl, rfl, SqT.of h1, h2, n, sz4 (by omega), fun e => q p H (by rw [e, List.append_nil]; exact h1) (Same.refl _), fun _ t nt => q t _ upd_same (Same.new nt)⟩
end
theorem i_ix4S {K : PySem.W.Frag} {H : Hp} {Q : VK} {p : Addr} {i : Int} {y1 y2 y3 y4 : Str} (h : SqL K H p [.str y1, .str y2, .str y3, .str y4]) (h0 : 0 ≤ i) (h1 : i < 4) (q : ∀ v, v = y1 ∨ v = y2 ∨ v = y3 ∨ v = y4 → Q (.str v) H) : rIxL K (.ref p) (.int i) H Q := by
  obtain rfl | rfl | rfl | rfl : i = 0 ∨ i = 1 ∨ i = 2 ∨ i = 3 := by omega
  · exact i_ixL h atI_0 (q _ (.inl rfl))
  · exact i_ixL h atI_1 (q _ (.inr (.inl rfl)))
  · exact i_ixL h atI_2 (q _ (.inr (.inr (.inl rfl))))
  · exact i_ixL h (atI_nat (j := 3) rfl) (q _ (.inr (.inr (.inr rfl))))
theorem Pk.neT {a t : Addr} {m c : Int} {H : Hp} {xs : List V} (h : Pk a m H c) (e : H t = Option.some (.tup xs)) : t ≠ a := fun z => by
  obtain ⟨_, _, h1, _⟩ := h
  rw [z, h1] at e
  cases e
/-- what stands in the place of a field -/
def Fb (k : Nat) (w : Str) (r : List PyData) : Prop := PyData.strOk w = true ∧ PyData.canLayAll0 r = true ∧ depA r ≤ 3 ∧ r.length ≤ k ∧ widA r ≤ k
def FbD (k : Nat) (d : PyData) : Prop := ∃ w r, d = .tuple (.str w :: r) ∧ Fb k w r
theorem Fb.mono {k l : Nat} {w : Str} {r : List PyData} (h : Fb k w r) (e : k ≤ l) : Fb l w r := ⟨h.1, h.2.1, h.2.2.1, by have := h.2.2.2.1; omega, by have := h.2.2.2.2; omega⟩
theorem FbD.mono {k l : Nat} {d : PyData} (h : FbD k d) (e : k ≤ l) : FbD l d := by
  obtain ⟨w, r, rfl, h⟩ := h
  exact ⟨w, r, rfl, h.mono e⟩
theorem FbD.fin {k : Nat} {d : PyData} (h : FbD k d) (e : k ≤ 1000) : FldIn d := by
  obtain ⟨w, r, rfl, h⟩ := h
  refine ⟨w, r, rfl, ?_⟩
  have h1 := h.2.2.2.1
  have h2 := h.2.2.2.2
  rw [wid]
  omega
theorem FbD.lay {k : Nat} {d : PyData} (h : FbD k d) : d.canLay0 = true := by
  obtain ⟨w, r, rfl, h⟩ := h
  simp [PyData.canLay0, PyData.canLayAll0, h.1, h.2.1]
theorem FbD.dep {k : Nat} {d : PyData} (h : FbD k d) : dep d ≤ 4 := by
  obtain ⟨w, r, rfl, h⟩ := h
  have := h.2.2.1
  simp only [Hf.dep, depA]
  omega
theorem FbD.wid {k : Nat} {d : PyData} (h : FbD k d) : wid d ≤ k + 1 := by
  obtain ⟨w, r, rfl, h⟩ := h
  have h1 := h.2.2.2.1
  have h2 := h.2.2.2.2
  simp only [Hf.wid, widA, List.length_cons]
  omega
theorem fb_fld {f s : Int} {fl : Fld} (hf : f ≤ 10) (hs : s ≤ 10) (k : FldOk f s fl) : FbD 20 (fldD fl) := by
  have l := lay_fld fl
  have d := dep_fld fl
  have w := wid_fld hf hs k
  cases fl with
  | more a b =>
    refine ⟨_, _, rfl, ?_⟩
    simp [Fb, PyData.canLayAll0, PyData.canLay0, depA, Hf.dep, widA, Hf.wid]
    decide +kernel
  | lead a b =>
    refine ⟨_, _, rfl, ?_⟩
    simp [Fb, PyData.canLayAll0, PyData.canLay0, depA, Hf.dep, widA, Hf.wid]
    decide +kernel
  | tab rows =>
    refine ⟨_, _, rfl, ?_⟩
    simp only [fldD, PyData.canLay0, PyData.canLayAll0, Hf.dep, depA, Hf.wid, widA, List.length_cons, List.length_nil, Bool.and_eq_true, Bool.and_true] at l d w
    exact ⟨l.1, by simp [PyData.canLayAll0, PyData.canLay0, l.2], by simp only [depA, Hf.dep]; omega, by simp, by simp only [widA, Hf.wid]; omega⟩
theorem fb_fld1 {f s : Int} {fl : Fld} (hf : f ≤ 10) (hs : s ≤ 10) (k : FldOk f s fl) : ∃ w r, fldD fl = .tuple (.str w :: r) ∧ Fb 20 w r ∧ 1 ≤ r.length := by
  obtain ⟨w, r, e, h⟩ := fb_fld hf hs k
  refine ⟨w, r, e, h, ?_⟩
  cases fl <;> (rw [fldD] at e; cases e; simp)
def badR : PyData → Bool
  | .list es => decide (es.length = 0)
  | _ => true
theorem badR_inv {d : PyData} (h : badR d = false) : ∃ es, d = .list es ∧ 1 ≤ es.length := by
  cases d with
  | list es =>
    refine ⟨es, rfl, ?_⟩
    have := of_decide_eq_false h
    omega
  | _ => cases h
/-- what a row may be -/
def RwOk (k : Nat) (d : PyData) : Prop := d.canLay0 = true ∧ dep d ≤ 2 ∧ wid d ≤ k
theorem fb_rows {k : Nat} {rs : List PyData} (h : ∀ d ∈ rs, RwOk k d) (l : rs.length ≤ k) (hk : 1 ≤ k) : Fb k (PySem.Str.ofString "table") [.list rs] := by
  have h1 : PyData.canLayAll0 rs = true := lay_all fun d hd => (h d hd).1
  have h2 : depA rs ≤ 2 := depA_le fun d hd => (h d hd).2.1
  have h3 : widA rs ≤ k := widA_le fun d hd => (h d hd).2.2
  refine ⟨by decide +kernel, by simp [PyData.canLayAll0, PyData.canLay0, h1], by simp only [depA, dep]; omega, by simp; omega, by simp only [widA, wid]; omega⟩
theorem rows_ok {k : Nat} {w : Str} {rs r : List PyData} (h : Fb k w (.list rs :: r)) : (∀ d ∈ rs, RwOk k d) ∧ rs.length ≤ k := by
  obtain ⟨_, h1, h2, h3, h4⟩ := h
  simp only [PyData.canLayAll0, PyData.canLay0, Bool.and_eq_true, depA, dep, widA, wid] at h1 h2 h4
  refine ⟨fun d hd => ⟨lay_mem h1.1 hd, by have := depA_mem hd; omega, by have := widA_mem hd; omega⟩, by omega⟩
theorem rw_list {k : Nat} {es : List PyData} (h1 : ∀ e ∈ es, e.canLay0 = true ∧ dep e ≤ 1 ∧ wid e ≤ k) (l : es.length ≤ k) : RwOk k (.list es) :=
  ⟨by rw [PyData.canLay0]; exact lay_all fun d hd => (h1 d hd).1, by rw [dep]; have := depA_le fun d hd => (h1 d hd).2.1; omega, by rw [wid]; have := widA_le fun d hd => (h1 d hd).2.2; omega⟩
theorem rw_inv {k : Nat} {es : List PyData} (h : RwOk k (.list es)) : (∀ e ∈ es, e.canLay0 = true ∧ dep e ≤ 1 ∧ wid e ≤ k) ∧ es.length ≤ k := by
  obtain ⟨h1, h2, h3⟩ := h
  rw [PyData.canLay0] at h1
  rw [dep] at h2
  rw [wid] at h3
  exact ⟨fun e he => ⟨lay_mem h1 he, by have := depA_mem he; omega, by have := widA_mem he; omega⟩, by omega⟩
theorem RwOk.mono {k l : Nat} {d : PyData} (h : RwOk k d) (e : k ≤ l) : RwOk l d := ⟨h.1, h.2.1, Nat.le_trans h.2.2 e⟩
theorem rw_tup {k : Nat} {es : List PyData} (h : RwOk k (.list es)) : RwOk k (.tuple es) := h
end Hf
namespace K05
open PySem PySem.Spec PyProof.Rows L2 Hf
local macro_rules | `(tactic| walk_at "g_ne") => `(tactic| first | (with_reducible assumption) | (apply Hf.ne_at; (with_reducible assumption)) | ((with_reducible refine' Hf.ne_new ?n9 ?h9); (case n9 => (with_reducible assumption)); (case h9 => walk_at "g_lk")) | ((with_reducible refine' Hf.ne_new' ?n9 ?h9); (case n9 => (with_reducible assumption)); (case h9 => walk_at "g_lk")) | fail "g_ne")
local macro_rules | `(tactic| walk_at "g_lk") => `(tactic| first | (with_reducible assumption) | (with_reducible exact L2.upd_same) | ((with_reducible refine' Hf.lk_new ?n9 ?h9); (case n9 => (with_reducible assumption)); (case h9 => walk_at "g_lk")) | ((with_reducible refine' Hf.lk_updG ?g9 ?n9 ?h9); (case g9 => ((fail_if_success ((apply Hf.Guard.of); (with_reducible assumption))); exact trivial)); (case n9 => walk_at "g_ne"); (case h9 => walk_at "g_lk")) | ((with_reducible refine' Hf.lk_same ?n9 ?h9); (case n9 => (with_reducible assumption)); (case h9 => walk_at "g_lk")) | ((with_reducible refine' Hf.lk_but ?m9 ?n9 ?h9); (case m9 => (with_reducible assumption)); (case n9 => walk_at "g_ne"); (case h9 => walk_at "g_lk")) | ((with_reducible refine' Hf.lk_but2 ?m9 ?n9 ?n8 ?h9); (case m9 => (with_reducible assumption)); (case n9 => walk_at "g_ne"); (case n8 => walk_at "g_ne"); (case h9 => walk_at "g_lk")) | fail "g_lk")
local macro_rules | `(tactic| walk_at "g_sq") => `(tactic| first | (with_reducible assumption) | (with_reducible exact L2.SqL.of L2.upd_same) | (with_reducible exact L2.SqT.of L2.upd_same) | (with_reducible exact L2.SqL.of (by with_reducible assumption)) | (with_reducible exact L2.SqT.of (by with_reducible assumption)) | ((with_reducible refine' Hf.lkL_new ?n9 ?h9); (case n9 => (with_reducible assumption)); (case h9 => walk_at "g_sq")) | ((with_reducible refine' Hf.lkT_new ?n9 ?h9); (case n9 => (with_reducible assumption)); (case h9 => walk_at "g_sq")) | ((with_reducible refine' Hf.lkL_updG ?g9 ?n9 ?h9); (case g9 => ((fail_if_success ((apply Hf.Guard.of); (with_reducible assumption))); exact trivial)); (case n9 => walk_at "g_ne"); (case h9 => walk_at "g_sq")) | ((with_reducible refine' Hf.lkT_updG ?g9 ?n9 ?h9); (case g9 => ((fail_if_success ((apply Hf.Guard.of); (with_reducible assumption))); exact trivial)); (case n9 => walk_at "g_ne"); (case h9 => walk_at "g_sq")) | ((with_reducible refine' L2.Same.seq ?n9 ?h9); (case n9 => (with_reducible assumption)); (case h9 => walk_at "g_sq")) | ((with_reducible refine' Hf.Same.seqT ?n9 ?h9); (case n9 => (with_reducible assumption)); (case h9 => walk_at "g_sq")) | ((with_reducible refine' Hf.But.seq ?m9 ?n9 ?h9); (case m9 => (with_reducible assumption)); (case n9 => walk_at "g_ne"); (case h9 => walk_at "g_sq")) | ((with_reducible refine' Hf.But.seqT ?m9 ?n9 ?h9); (case m9 => (with_reducible assumption)); (case n9 => walk_at "g_ne"); (case h9 => walk_at "g_sq")) | ((with_reducible refine' Hf.But2.seq ?m9 ?n9 ?n8 ?h9); (case m9 => (with_reducible assumption)); (case n9 => walk_at "g_ne"); (case n8 => walk_at "g_ne"); (case h9 => walk_at "g_sq")) | ((with_reducible refine' Hf.But2.seqT ?m9 ?n9 ?n8 ?h9); (case m9 => (with_reducible assumption)); (case n9 => walk_at "g_ne"); (case n8 => walk_at "g_ne"); (case h9 => walk_at "g_sq")) | fail "g_sq")
local macro_rules | `(tactic| walk_at "g_but") => `(tactic| first | (with_reducible exact Hf.But.refl _ _) | (with_reducible assumption) | (with_reducible refine Hf.But.newT (by with_reducible assumption) ?_; walk_at "g_but") | (with_reducible refine Hf.But.upd ?_; walk_at "g_but") | (with_reducible refine Hf.But.transT (by with_reducible assumption) ?_; walk_at "g_but") | (with_reducible refine Hf.But.transS (by with_reducible assumption) ?_; walk_at "g_but") | fail "g_but")
local macro_rules | `(tactic| walk_at "g_but2") => `(tactic| first | (with_reducible exact Hf.But2.refl _ _ _) | (with_reducible assumption) | (with_reducible refine Hf.But2.newT (by with_reducible assumption) ?_; walk_at "g_but2") | (with_reducible refine Hf.But2.updL ?_; walk_at "g_but2") | (with_reducible refine Hf.But2.updR ?_; walk_at "g_but2") | (with_reducible refine Hf.But2.transT (by with_reducible assumption) ?_; walk_at "g_but2") | (with_reducible refine Hf.But2.transS (by with_reducible assumption) ?_; walk_at "g_but2") | (with_reducible refine Hf.But2.transL (by with_reducible assumption) ?_; walk_at "g_but2") | (with_reducible refine Hf.But2.transR (by with_reducible assumption) ?_; walk_at "g_but2") | (with_reducible refine Hf.But2.mut (by with_reducible assumption) ?_; walk_at "g_but2") | (with_reducible refine Hf.But2.butT (by with_reducible assumption) (by with_reducible assumption) ?_; walk_at "g_but2") | fail "g_but2")
local macro_rules | `(tactic| walk_at "g_same") => `(tactic| first | (with_reducible exact L2.Same.refl _) | (with_reducible assumption) | (with_reducible refine Hf.Same.newT' (by with_reducible assumption) ?_; walk_at "g_same") | (with_reducible refine Hf.Same.mut ?_ (by walk_at "g_free"); walk_at "g_same") | (with_reducible refine Hf.Same.butT (by with_reducible assumption) (by walk_at "g_free") ?_; walk_at "g_same") | (with_reducible refine Hf.Same.but2T (by with_reducible assumption) (by walk_at "g_free") (by walk_at "g_free") ?_; walk_at "g_same") | (with_reducible refine Hf.Same.transT (by with_reducible assumption) ?_; walk_at "g_same") | fail "g_same")
local macro_rules | `(tactic| walk_at "g_free") => `(tactic| first | (with_reducible assumption) | ((with_reducible refine' Hf.Same.free' (by with_reducible assumption) ?h7); (case h7 => walk_at "g_same")) | ((with_reducible refine' Hf.But.free (by with_reducible assumption) ?h7 ?h8); (case h7 => walk_at "g_but"); (case h8 => walk_at "g_lk")) | ((with_reducible refine' Hf.But2.free (by with_reducible assumption) ?h7 ?h8 ?h6); (case h7 => walk_at "g_but2"); (case h8 => walk_at "g_lk"); (case h6 => walk_at "g_lk")) | fail "g_free")
local macro_rules | `(tactic| walk_at "g_set") => `(tactic| first | (with_reducible exact Hf.set_n0) | (with_reducible exact Hf.set_n1) | (with_reducible exact Hf.set_n2) | (with_reducible exact Hf.set_n3) | (with_reducible exact Hf.set_n4) | (with_reducible exact Hf.set_n5) | (with_reducible exact Hf.set_n6) | (with_reducible exact Hf.set_n7) | (with_reducible exact Hf.set_n8) | (with_reducible exact Hf.set_n9) | (with_reducible exact Hf.set_n10) | (with_reducible exact Hf.set_n11) | (with_reducible exact Hf.set_n12) | (with_reducible exact Hf.set_n13) | (with_reducible exact Hf.set_n14) | (with_reducible exact Hf.set_n15) | (with_reducible exact Hf.set_n16) | (with_reducible exact Hf.set_n17) | (with_reducible exact Hf.set_n18) | (with_reducible exact Hf.set_n19) | (with_reducible exact Hf.set_n20) | (with_reducible exact Hf.set_n21) | (with_reducible exact Hf.set_n22) | (with_reducible exact Hf.set_n23) | (with_reducible exact Hf.set_n24) | (with_reducible exact Hf.set_n25) | (with_reducible exact Hf.set_n26) | (with_reducible exact Hf.set_n27) | (with_reducible exact Hf.set_n28) | (with_reducible exact Hf.set_n29) | fail "g_set")
local macro_rules | `(tactic| walk_at "g_sz") => `(tactic| first | exact Hf.sz4 (by decide) | exact Hf.sz4' (by decide) | (refine Hf.sz4 ?_; simp; done) | (refine Hf.sz4 ?_; simp; omega) | (refine Hf.sz4 ?_; simp only [List.length_cons, List.length_nil, List.length_take, List.length_drop, List.length_map, List.length_append, List.length_replicate]; omega) | (refine Hf.sz4' ?_; simp; omega) | (refine Hf.sz4' ?_; omega) | (refine Hf.sz4 ?_; omega) | fail "g_sz")
local macro_rules | `(tactic| walk_at "g_at") => `(tactic| first | rfl | assumption | fail "g_at")
local macro_rules | `(tactic| walk_at "g_c") => `(tactic| first | assumption | omega | decide | (refine Hf.mulL ?_; omega) | (refine Hf.mulR ?_; omega) | (refine Hf.divS ?_ ?_ <;> omega) | (refine Hf.mulL ?_; split <;> omega) | (refine ⟨?_, ?_, ?_⟩ <;> first | omega | decide) | (refine ⟨?_, ?_⟩ <;> first | assumption | omega) | fail "g_c")
local macro_rules | `(tactic| walk_at "g_ixn") => `(tactic| first | (show L2.ixN _ _ = some 0; rfl) | (show L2.ixN _ _ = some 1; rfl) | (show L2.ixN _ _ = some 2; rfl) | (show L2.ixN _ _ = some 3; rfl) | (show L2.ixN _ _ = some 4; rfl) | (show L2.ixN _ _ = some 5; rfl) | (show L2.ixN _ _ = some 6; rfl) | (show L2.ixN _ _ = some 7; rfl) | assumption | fail "g_ixn")
local macro_rules | `(tactic| walk_at "g_pow") => `(tactic| first | (show (10 : Int) ^ (9 : Int).toNat = 1000000000; rfl) | (show (10 : Int) ^ (18 : Int).toNat = 1000000000000000000; rfl) | (show (10 : Int) ^ (20 : Int).toNat = 100000000000000000000; rfl) | (show (10 : Int) ^ (29 : Int).toNat = 100000000000000000000000000000; rfl) | (show (10 : Int) ^ (26 : Int).toNat = 100000000000000000000000000; rfl) | (show (10 : Int) ^ (10 : Int).toNat = 10000000000; rfl) | (show (10 : Int) ^ (19 : Int).toNat = 10000000000000000000; rfl) | (show (10 : Int) ^ (27 : Int).toNat = 1000000000000000000000000000; rfl) | (show (10 : Int) ^ (28 : Int).toNat = 10000000000000000000000000000; rfl) | (show (10 : Int) ^ (25 : Int).toNat = 10000000000000000000000000; rfl) | (show (10 : Int) ^ (30 : Int).toNat = 1000000000000000000000000000000; rfl) | (show (10 : Int) ^ (2 : Int).toNat = 100; rfl) | (show (10 : Int) ^ (3 : Int).toNat = 1000; rfl) | (show (_ : Int) ^ (3 : Int).toNat = _; rfl) | fail "g_pow")
local macro_rules | `(tactic| walk_at "g_ty") => `(tactic| first | exact .base .non | exact .base (.bl _) | exact .base (.int _) | exact .base (.str _) | exact .base (.lst (by walk_at "g_lk")) | exact .base (.tup (by walk_at "g_lk")) | exact .base (.dK (by walk_at "g_lk")) | exact .base (.dT (by walk_at "g_lk")) | fail "g_ty")
local macro_rules | `(tactic| walk_at "g_pre") => `(tactic| first | (with_reducible assumption) | walk_at "g_lk" | walk_at "g_sq" | walk_at "g_but" | walk_at "g_but2" | walk_at "g_same" | walk_at "g_free" | omega | (refine ⟨?_, ?_⟩ <;> omega) | exact .inl (by omega) | exact .inr (by omega) | (with_reducible assumption) | fail "g_pre")
local macro_rules | `(tactic| walk_at "g_call") => `(tactic| fail "g_call: no rule")
local macro_rules | `(tactic| walk_at "g_val") => `(tactic| first
  | (with_reducible refine' Hf.i_I0 ?_)
  | ((with_reducible refine' Hf.i_pow ?k1 ?k2 ?_); (case k1 => walk_at "g_c"); (case k2 => walk_at "g_pow"))
  | ((with_reducible refine' Hf.i_I ?k1 ?_); (case k1 => walk_at "g_c"))
  | (with_reducible refine' Hf.i_U ?_)
  | (with_reducible refine' Hf.i_eqI ?_)
  | (with_reducible refine' Hf.i_neI ?_)
  | (with_reducible refine' Hf.i_eqB ?_)
  | (with_reducible refine' Hf.i_neB ?_)
  | (with_reducible refine' Hf.i_eqS ?_)
  | (with_reducible refine' Hf.i_neS ?_)
  | ((with_reducible refine' Hf.i_ixL ?k1 ?k2 ?_); (case k1 => walk_at "g_sq"); (case k2 => walk_at "g_at"))
  | ((with_reducible refine' Hf.i_ixT ?k1 ?k2 ?_); (case k1 => walk_at "g_sq"); (case k2 => walk_at "g_at"))
  | ((with_reducible refine' Hf.i_ix2I ?k1 ?k2 ?k3 ?_); (case k1 => walk_at "g_sq"); (case k2 => omega); (case k3 => omega); intro _ _)
  | ((with_reducible refine' Hf.i_ix3I ?k1 ?k2 ?k3 ?_); (case k1 => walk_at "g_sq"); (case k2 => omega); (case k3 => omega); intro _ _)
  | ((with_reducible refine' Hf.i_ix4I ?k1 ?k2 ?k3 ?_); (case k1 => walk_at "g_sq"); (case k2 => omega); (case k3 => omega); intro _ _)
  | ((with_reducible refine' Hf.i_ix3R ?k1 ?k2 ?k3 ?_); (case k1 => walk_at "g_sq"); (case k2 => omega); (case k3 => omega); intro _ _)
  | ((with_reducible refine' Hf.i_ix4R ?k1 ?k2 ?k3 ?_); (case k1 => walk_at "g_sq"); (case k2 => omega); (case k3 => omega); intro _ _)
  | (with_reducible refine' Hf.i_abs ?_)
  | (with_reducible refine' Hf.i_int2 ?_)
  | (with_reducible refine' Hf.i_int1 ?_)
  | (with_reducible refine' Hf.i_intb ?_)
  | ((with_reducible refine' Hf.i_isi ?k1 ?k2 ?_); (case k1 => walk_at "g_ty"); (case k2 => first | (show L2.kitB _ _ = some true; decide +kernel) | (show L2.kitB _ _ = some false; decide +kernel)))
  | ((with_reducible refine' Hf.i_lenL ?k1 ?_); (case k1 => walk_at "g_sq"))
  | ((with_reducible refine' Hf.i_lenT ?k1 ?_); (case k1 => walk_at "g_sq"))
  | ((with_reducible refine' Hf.i_appendM ?k1 ?k2 ?_); (case k1 => walk_at "g_lk"); (case k2 => walk_at "g_sz"))
  | ((with_reducible refine' Hf.i_append ?k1 ?k2 ?_); (case k1 => walk_at "g_lk"); (case k2 => walk_at "g_sz"))
  | ((with_reducible refine' Hf.i_bmL ?k1 ?_); (case k1 => walk_at "g_sq"))
  | ((with_reducible refine' Hf.i_setLast ?k1 ?k2 ?_); (case k1 => walk_at "g_lk"); (case k2 => first | omega | (simp; done) | (simp; omega)))
  | ((with_reducible refine' Hf.i_setM ?k1 ?k2 ?k3 ?_); (case k1 => walk_at "g_lk"); (case k2 => omega); (case k3 => first | omega | (simp; done) | (simp; omega)))
  | ((with_reducible refine' Hf.i_setL ?k1 ?k2 ?_); (case k1 => walk_at "g_lk"); (case k2 => walk_at "g_ixn"); (try dsimp only [List.set_cons_zero, List.set_cons_succ])) | fail "g_val")
local macro_rules | `(tactic| walk_at "g_val2") => `(tactic| first
  | ((with_reducible refine' Hf.i_slInitM ?k1 ?_); (case k1 => walk_at "g_sq"); intro _ _)
  | ((with_reducible refine' Hf.i_ixLast ?k1 ?k2 ?_); (case k1 => walk_at "g_sq"); (case k2 => first | omega | (simp; done) | (simp; omega)); intro _ _)
  | ((with_reducible refine' Hf.i_slToM ?k1 ?k2 ?_); (case k1 => walk_at "g_sq"); (case k2 => omega); intro _ _)
  | ((with_reducible refine' Hf.i_slFromM ?k1 ?k2 ?_); (case k1 => walk_at "g_sq"); (case k2 => omega); intro _ _)
  | ((with_reducible refine' Hf.i_slMidM ?k1 ?k2 ?k3 ?_); (case k1 => walk_at "g_sq"); (case k2 => omega); (case k3 => omega); intro _ _)
  | ((with_reducible refine' Hf.i_slTo ?k1 ?k2 ?_); (case k1 => walk_at "g_sq"); (case k2 => omega); intro _ _)
  | ((with_reducible refine' Hf.i_slFrom ?k1 ?k2 ?_); (case k1 => walk_at "g_sq"); (case k2 => omega); intro _ _)
  | ((with_reducible refine' Hf.i_slMid ?k1 ?k2 ?k3 ?_); (case k1 => walk_at "g_sq"); (case k2 => omega); (case k3 => omega); intro _ _)
  | ((with_reducible refine' Hf.i_eqT2 ?k1 ?k2 ?_); (case k1 => walk_at "g_sq"); (case k2 => walk_at "g_sq"))
  | (with_reducible refine' Hf.i_sl ?_)
  | ((with_reducible refine' Hf.i_lenA ?k1 ?_); (case k1 => first | exact Hf.lenA_map (by walk_at "g_sq") | exact Hf.lenA_L (by walk_at "g_sq") | exact Hf.lenA_T (by walk_at "g_sq")))
  | ((with_reducible refine' Hf.i_ixM ?k1 ?k2 ?k3 ?_); (case k1 => walk_at "g_sq"); (case k2 => omega); (case k3 => first | omega | (simp; omega)); intro _ _)
  | ((with_reducible refine' Hf.i_listOf ?k1 ?_); (case k1 => walk_at "g_sq"); intro _ _)
  | ((with_reducible refine' Hf.i_listOfT ?k1 ?_); (case k1 => walk_at "g_sq"); intro _ _)
  | ((with_reducible refine' Hf.i_sum ?k1 ?_); (case k1 => walk_at "g_sq"))
  | ((with_reducible refine' Hf.i_all ?k1 ?_); (case k1 => walk_at "g_sq"))
  | ((with_reducible refine' Hf.i_min ?k1 ?k2 ?_); (case k1 => walk_at "g_sq"); (case k2 => omega); intro _ _ _)
  | ((with_reducible refine' Hf.i_max ?k1 ?k2 ?_); (case k1 => walk_at "g_sq"); (case k2 => omega); intro _ _ _)
  | ((with_reducible refine' Hf.i_eqLI ?k1 ?k2 ?_); (case k1 => walk_at "g_sq"); (case k2 => walk_at "g_sq"))
  | ((with_reducible refine' Hf.i_neLI ?k1 ?k2 ?_); (case k1 => walk_at "g_sq"); (case k2 => walk_at "g_sq"))
  | ((with_reducible refine' Hf.i_eqL0 ?k1 ?k2 ?_); (case k1 => walk_at "g_sq"); (case k2 => walk_at "g_sq"))
  | ((with_reducible refine' Hf.i_eq00 ?k1 ?k2 ?_); (case k1 => walk_at "g_sq"); (case k2 => walk_at "g_sq"))
  | ((with_reducible refine' Hf.i_ne00 ?k1 ?k2 ?_); (case k1 => walk_at "g_sq"); (case k2 => walk_at "g_sq"))
  | ((with_reducible refine' Hf.i_reverse ?k1 ?_); (case k1 => walk_at "g_lk"))
  | ((with_reducible refine' Hf.i_glst ?k1 ?k2 ?_); (case k1 => walk_at "g_sq"); (case k2 => rfl))
  | (with_reducible refine' Hf.i_lc ?_)
  | ((with_reducible refine' Hf.i_turn ?k1 ?_); (case k1 => first | ((show L2.wipe _ [_] = _); (apply Hf.wipe_one); walk_at "g_set") | ((show L2.wipe _ [_, _] = _); (apply Hf.wipe_two); walk_at "g_set"; walk_at "g_set") | ((show L2.wipe _ [_, _, _] = _); (apply Hf.wipe_three); walk_at "g_set"; walk_at "g_set"; walk_at "g_set")))
  | ((with_reducible refine' Hf.i_wiped ?k1 ?_); (case k1 => rfl))
  | (with_reducible refine' Hf.i_yes ?_)
  | (with_reducible refine' Hf.i_nopart ?_)
  | (with_reducible refine' Hf.i_part ?_)
  | (with_reducible refine' Hf.i_exint ?_)
  | ((with_reducible refine' Hf.i_catM ?k1 ?k2 ?k3 ?_); (case k1 => walk_at "g_lk"); (case k2 => walk_at "g_lk"); (case k3 => (simp; omega)); intro _ _)
  | ((with_reducible refine' Hf.i_catM1 ?k1 ?k2 ?k3 ?_); (case k1 => walk_at "g_lk"); (case k2 => walk_at "g_lk"); (case k3 => first | omega | (simp; omega)); intro _ _)
  | ((with_reducible refine' Hf.i_cat ?k1 ?k2 ?k3 ?_); (case k1 => walk_at "g_lk"); (case k2 => walk_at "g_lk"); (case k3 => walk_at "g_sz"); intro _ _)
  | ((with_reducible refine' Hf.i_repM ?k1 ?k2 ?_); (case k1 => walk_at "g_lk"); (case k2 => omega); intro _ _)
  | ((with_reducible refine' Hf.i_rep1 ?k1 ?k2 ?_); (case k1 => walk_at "g_lk"); (case k2 => omega); intro _ _) | fail "g_val2")
local macro_rules | `(tactic| walk_at "g1") => `(tactic| first
  | ((with_reducible refine' Hf.i_var ?k1 ?_); (case k1 => rfl))
  | (with_reducible refine' Hf.i_c ?_)
  | (with_reducible refine' Hf.i_op ?_)
  | (with_reducible refine' Hf.i_cons ?_)
  | (with_reducible refine' Hf.i_nil ?_)
  | (with_reducible refine' Hf.i_seq ?_)
  | (with_reducible refine' Hf.i_asg ?_)
  | ((with_reducible refine' Hf.i_gname ?k1 ?_); (case k1 => walk_at "g_set"))
  | (with_reducible refine' Hf.i_ret ?_)
  | (with_reducible refine' Hf.i_next ?_)
  | (with_reducible refine' Hf.i_ifs ?_)
  | ((with_reducible refine' Hf.ite_y ?k1 ?_); (case k1 => rfl))
  | ((with_reducible refine' Hf.ite_n ?k1 ?_); (case k1 => rfl))
  | (with_reducible refine' Hf.i_test ?_)
  | (with_reducible refine' Hf.i_B ?_)
  | (with_reducible refine' Hf.i_bl ?_)
  | (with_reducible refine' Hf.i_call ?_)
  | (with_reducible refine' Hf.i_cb ?_)
  | (with_reducible refine' Hf.i_tup ?_)
  | (with_reducible refine' Hf.i_lst ?_)
  | ((with_reducible refine' Hf.i_new ?k1 ?_); (case k1 => walk_at "g_sz"); intro _ _)
  | (with_reducible refine' Hf.i_un ?_)
  | (with_reducible refine' Hf.i_and ?_)
  | (with_reducible refine' Hf.i_or ?_)
  | (with_reducible refine' Hf.i_not ?_)
  | (with_reducible refine' Hf.i_andV ?_)
  | (with_reducible refine' Hf.i_orV ?_)
  | (with_reducible refine' Hf.i_notV ?_)
  | (with_reducible refine' Hf.i_ife ?_)
  | (with_reducible refine' Hf.i_drop ?_)
  | (with_reducible refine' Hf.i_par ?_)
  | ((with_reducible refine' Hf.i_par2 ?k1 ?_); (case k1 => (apply Hf.set_par; walk_at "g_set"; walk_at "g_set")))
  | ((with_reducible refine' Hf.i_aug ?k1 ?_); (case k1 => rfl))
  | (with_reducible refine' Hf.i_ip ?_)
  | (with_reducible refine' Hf.i_bm ?_)
  | (with_reducible refine' Hf.i_bm0 ?_)
  | ((with_reducible refine' Hf.i_gtup ?k1 ?k2 ?_); (case k1 => walk_at "g_sq"); (case k2 => rfl))
  | (with_reducible refine' Hf.i_gcons ?_)
  | (with_reducible refine' Hf.i_gnil ?_)
  | (with_reducible refine' Hf.i_gsub ?_)
  | (with_reducible refine' Hf.i_for ?_)
  | (with_reducible refine' Hf.i_rng1 ?_)
  | ((with_reducible refine' Hf.i_rng1' ?k1 ?k2 ?_); (case k1 => omega); (case k2 => omega))
  | (with_reducible refine' Hf.i_rng2 ?_)
  | ((with_reducible refine' Hf.i_rng2' ?k1 ?_); (case k1 => omega))
  | (with_reducible refine' Hf.i_ilist ?_)
  | ((with_reducible refine' Hf.i_ilist' ?k1 ?_); (case k1 => walk_at "g_sq"))
  | (with_reducible refine' Hf.i_itup ?_)
  | ((with_reducible refine' Hf.i_itup' ?k1 ?_); (case k1 => walk_at "g_sq"))
  | (with_reducible refine' Hf.i_retN ?_)
  | (with_reducible refine' Hf.i_brk ?_)
  | (with_reducible refine' Hf.i_cnt ?_)
  | walk_at "g_val"
  | walk_at "g_val2"
  | walk_at "g_call"
  | (with_reducible refine' Hf.i_isn ?_)
  | (with_reducible refine' Hf.i_tru ?_)
  | dsimp only | fail "g1")
local macro_rules | `(tactic| walk_at "go") => `(tactic| repeat walk_at "g1")
local macro_rules | `(tactic| walk_at "goI") => `(tactic| repeat ((fail_if_success (with_reducible refine' Hf.i_ifs ?_)); walk_at "g1"))
local macro_rules | `(tactic| walk_at "goF") => `(tactic| repeat ((fail_if_success (with_reducible refine' Hf.i_for ?_)); walk_at "g1"))
local macro_rules | `(tactic| walk_at "g_kit") => `(tactic| fail "g_kit")
local macro_rules | `(tactic| walk_at "g_exc") => `(tactic| fail "g_exc")
local macro_rules | `(tactic| walk_at "g_exm") => `(tactic| fail "g_exm")
local macro_rules | `(tactic| walk_at "g_kitB") => `(tactic| first | (show L2.kitB _ _ = some true; decide +kernel) | (show L2.kitB _ _ = some false; decide +kernel))
local macro_rules | `(tactic| walk_at "g_val2") => `(tactic| first
  | ((with_reducible refine' Hf.i_isXi ?k1 ?k2 ?_); (case k1 => walk_at "g_ty"); (case k2 => walk_at "g_kitB"))
  | ((with_reducible refine' Hf.i_isXo ?k1 ?k2 ?_); (case k1 => walk_at "g_ty"); (case k2 => walk_at "g_kit"))
  | ((with_reducible refine' Hf.i_isXR ?k1 ?k2 ?k3 ?_); (case k1 => walk_at "g_lk"); (case k2 => walk_at "g_exc"); (case k3 => walk_at "g_kit"))
  | ((with_reducible refine' Hf.i_isXT ?k1 ?k2 ?k3 ?_); (case k1 => walk_at "g_lk"); (case k2 => walk_at "g_exc"); (case k3 => walk_at "g_kit"))
  | ((with_reducible refine' Hf.i_isXRd ?k1 ?k4 ?k2 ?k3 ?_); (case k1 => walk_at "g_lk"); (case k4 => walk_at "g_lk"); (case k2 => walk_at "g_exc"); (case k3 => walk_at "g_kit"))
  | ((with_reducible refine' Hf.i_isXTd ?k1 ?k4 ?k2 ?k3 ?_); (case k1 => walk_at "g_lk"); (case k4 => walk_at "g_lk"); (case k2 => walk_at "g_exc"); (case k3 => walk_at "g_kit"))
  | (with_reducible refine' Hf.i_callS ?_)
  | (with_reducible refine' Hf.i_try ?_)
  | ((with_reducible refine' Hf.i_caught ?k1 ?k2 ?_); (case k1 => walk_at "g_exm"); (case k2 => (intro _; walk_at "g_set")); intro _ _)
  | ((with_reducible refine' Hf.i_nxAs ?k1 ?_); (case k1 => walk_at "g_set"))
  | (with_reducible refine' Hf.i_rtAs ?_)
  | (with_reducible refine' Hf.i_izip ?_)
  | ((with_reducible refine' Hf.i_neT2 ?k1 ?k2 ?_); (case k1 => walk_at "g_sq"); (case k2 => walk_at "g_sq"))
  | ((with_reducible refine' Hf.i_neS1 ?k1 ?k2 ?k3 ?_); (case k1 => walk_at "g_sq"); (case k2 => walk_at "g_sq"); (case k3 => decide +kernel))
  | ((with_reducible refine' Hf.i_izip' ?k1 ?k2 ?_); (case k1 => walk_at "g_sq"); (case k2 => walk_at "g_sq"))
  | (with_reducible refine' Hf.i_isnR ?_)
  | (with_reducible refine' Hf.i_isnN ?_)
  | ((with_reducible refine' Hf.i_cntV ?k1 ?k2 ?k3 ?k4 ?_); (case k1 => walk_at "g_sq"); (case k2 => rfl); (case k3 => rfl); (case k4 => rfl))
  | ((with_reducible refine' Hf.i_index ?k1 ?k2 ?k3 ?k4 ?_); (case k1 => walk_at "g_sq"); (case k2 => rfl); (case k3 => rfl); (case k4 => rfl)) | fail "g_val2x")
local macro_rules | `(tactic| walk_at "g_no") => `(tactic| first | contradiction | omega | (simp_all; done) | fail "g_no")
local macro_rules | `(tactic| walk_at "g_but") => `(tactic| first | (with_reducible exact Hf.But.refl _ _) | (with_reducible assumption) | (with_reducible refine Hf.But.newT (by with_reducible assumption) ?_; walk_at "g_but") | (with_reducible refine Hf.But.upd ?_; walk_at "g_but") | (with_reducible refine Hf.But.transT (by with_reducible assumption) ?_; walk_at "g_but") | (with_reducible refine Hf.But.transS (by with_reducible assumption) ?_; walk_at "g_but") | (with_reducible refine Hf.But.mut (by with_reducible assumption) ?_; walk_at "g_but") | (with_reducible refine Hf.But.mutS (by with_reducible assumption) (by with_reducible assumption) ?_; walk_at "g_but") | fail "g_but")
local macro_rules | `(tactic| walk_at "g_cls") => `(tactic| fail "g_cls")
local macro_rules | `(tactic| walk_at "g_val2") => `(tactic| first
  | (with_reducible refine' Hf.i_fld ?_)
  | ((with_reducible refine' Hf.i_fldR ?k1 ?k2 ?k3 ?k4 ?_); (case k1 => walk_at "g_lk"); (case k2 => walk_at "g_cls"); (case k3 => walk_at "g_cls"); (case k4 => first | rfl | decide +kernel))
  | (with_reducible refine' Hf.i_sfld ?_)
  | ((with_reducible refine' Hf.i_setR ?k1 ?k2 ?k3 ?k4 ?_); (case k1 => walk_at "g_lk"); (case k2 => walk_at "g_cls"); (case k3 => walk_at "g_cls"); (case k4 => decide))
  | (with_reducible refine' Hf.i_meth ?_)
  | ((with_reducible refine' Hf.i_methR ?k1 ?k4 ?_); (case k1 => walk_at "g_lk"); (case k4 => first | rfl | decide +kernel))
  | ((with_reducible refine' Hf.i_make0 ?_); intro _ _ _ _ _)
  | (with_reducible refine' Hf.i_dnotin ?_)
  | (with_reducible refine' Hf.i_din ?_)
  | ((with_reducible refine' Hf.i_dg3 ?k1 ?k2 ?_); (case k1 => walk_at "g_lk"); (case k2 => walk_at "g_lk"))
  | ((with_reducible refine' Hf.i_dg2 ?k1 ?k2 ?_); (case k1 => walk_at "g_lk"); (case k2 => walk_at "g_lk"))
  | (with_reducible refine' Hf.i_dget ?_)
  | ((with_reducible refine' Hf.i_dv3 ?k1 ?k2 ?k3 ?_); (case k1 => walk_at "g_lk"); (case k2 => walk_at "g_lk"); (case k3 => assumption))
  | ((with_reducible refine' Hf.i_dv2 ?k1 ?k2 ?k3 ?_); (case k1 => walk_at "g_lk"); (case k2 => walk_at "g_lk"); (case k3 => assumption))
  | (with_reducible refine' Hf.i_dput ?_)
  | ((with_reducible refine' Hf.i_dp3 ?k1 ?k2 ?k3 ?_); (case k1 => walk_at "g_lk"); (case k2 => walk_at "g_lk"); (case k3 => omega))
  | ((with_reducible refine' Hf.i_dp2 ?k1 ?k2 ?k3 ?_); (case k1 => walk_at "g_lk"); (case k2 => walk_at "g_lk"); (case k3 => omega))
  | ((with_reducible refine' Hf.i_dnewT ?_); intro _ _)
  | (with_reducible refine' Hf.i_lstRg ?_)
  | (with_reducible refine' Hf.i_rg1 ?_)
  | (with_reducible refine' Hf.i_rg2 ?_)
  | (with_reducible refine' Hf.i_rg2' ?_)
  | (with_reducible refine' Hf.i_rg1' ?_)
  | ((with_reducible refine' Hf.i_rgok ?k1 ?k2 ?k3 ?k4 ?_); (case k1 => omega); (case k2 => omega); (case k3 => omega); (case k4 => omega); intro _ _) | fail "g_val2o")
local macro_rules | `(tactic| walk_at "g_but") => `(tactic| first | (with_reducible exact Hf.But.refl _ _) | (with_reducible assumption) | (with_reducible refine Hf.But.newT (by with_reducible assumption) ?_; walk_at "g_but") | (with_reducible refine Hf.But.upd ?_; walk_at "g_but") | (with_reducible refine Hf.But.mutD (by with_reducible assumption) ?_; walk_at "g_but") | (with_reducible refine Hf.But.mutSD (by with_reducible assumption) (by walk_at "g_free") ?_; walk_at "g_but") | (with_reducible refine Hf.But.transT (by with_reducible assumption) ?_; walk_at "g_but") | (with_reducible refine Hf.But.transS (by with_reducible assumption) ?_; walk_at "g_but") | fail "g_but")
local macro_rules | `(tactic| walk_at "g_dq") => `(tactic| first | (with_reducible assumption) | ((with_reducible refine' Hf.Dq.same ?s9 ?d9); (case d9 => (with_reducible assumption)); (case s9 => walk_at "g_same")) | ((with_reducible refine' Hf.dq_mix ?q9 ?h9 ?s9); (case q9 => (with_reducible assumption)); (case h9 => walk_at "g_lk"); (case s9 => walk_at "g_same")) | ((with_reducible refine' Hf.Dq.same (Hf.hid_mono ?s9) ?d9); (case d9 => (with_reducible assumption)); (case s9 => walk_at "g_same")) | ((with_reducible refine' Hf.dq_two ?h5 ?h6 ?h7 ?h8 ?h9); (case h5 => walk_at "g_lk"); (case h6 => walk_at "g_lk"); (case h7 => walk_at "g_lk"); (case h8 => walk_at "g_lk"); (case h9 => walk_at "g_lk")) | fail "g_dq")
local macro_rules | `(tactic| walk_at "g_pre") => `(tactic| walk_at "g_dq")
local macro_rules | `(tactic| walk_at "g_val2") => `(tactic| first
  | ((with_reducible refine' Hf.i_neDq ?k1 ?k2 ?k3 ?_); (case k1 => walk_at "g_dq"); (case k2 => walk_at "g_dq"); (case k3 => first | exact Hf.shaped_mix _))
  | ((with_reducible refine' Hf.i_neL2 ?k1 ?k2 ?_); (case k1 => walk_at "g_sq"); (case k2 => walk_at "g_sq"))
  | ((with_reducible refine' Hf.i_reverseV ?k1 ?_); (case k1 => walk_at "g_lk"))
  | (with_reducible refine' Hf.i_rev ?_)
  | ((with_reducible refine' Hf.i_revV ?k1 ?_); (case k1 => walk_at "g_sq"); intro _ _)
  | fail "g_val2d")
local macro_rules | `(tactic| walk_at "goO") => `(tactic| repeat (first | walk_at "g1" | (with_reducible refine' Hf.ite_y (decide_eq_true (by omega)) ?_) | (with_reducible refine' Hf.ite_n (decide_eq_false (by omega)) ?_)))
local macro_rules | `(tactic| walk_at "g_val2") => `(tactic| first
  | (with_reducible refine' Hf.i_min2 ?_)
  | (with_reducible refine' Hf.i_min3 ?_)
  | fail "g_val2b")
local macro_rules | `(tactic| walk_at "g_free") => `(tactic| first | (with_reducible assumption) | ((with_reducible refine' Hf.Newly.free ?n7 ?h7); (case n7 => (with_reducible assumption)); (case h7 => walk_at "g_lk")) | ((with_reducible refine' Hf.Same.free' (by with_reducible assumption) ?h7); (case h7 => walk_at "g_same")) | ((with_reducible refine' Hf.But.free (by with_reducible assumption) ?h7 ?h8); (case h7 => walk_at "g_but"); (case h8 => walk_at "g_lk")) | fail "g_free")
local macro_rules | `(tactic| walk_at "g_pk") => `(tactic| first | (with_reducible assumption) | ((with_reducible refine' Hf.Pk.newT ?n9 ?h9); (case n9 => (with_reducible assumption)); (case h9 => walk_at "g_pk")) | ((with_reducible refine' Hf.Pk.sameT ?n9 ?h9); (case n9 => (with_reducible assumption)); (case h9 => walk_at "g_pk")) | fail "g_pk")
local macro_rules | `(tactic| walk_at "g_pre") => `(tactic| walk_at "g_pk")
local macro_rules | `(tactic| walk_at "g_free") => `(tactic| first | ((with_reducible refine' Hf.Pk.free (by with_reducible assumption) ?h7 ?h8); (case h8 => walk_at "g_pk"); (case h7 => walk_at "g_but")) | fail "macp")
local macro_rules | `(tactic| walk_at "g_free") => `(tactic| first | ((with_reducible refine' Hf.Newly.pk ?n7 ?h7); (case n7 => (with_reducible assumption)); (case h7 => walk_at "g_pk")) | fail "macp")
local macro_rules | `(tactic| walk_at "g_ne") => `(tactic| first | ((with_reducible refine' Hf.Pk.ne ?n9 ?h9); (case n9 => (with_reducible assumption)); (case h9 => walk_at "g_pk")) | fail "macp")
local macro_rules | `(tactic| walk_at "g_ne") => `(tactic| first | ((with_reducible refine' Hf.Pk.neo ?n9 ?h9); (case n9 => (with_reducible assumption)); (case h9 => (with_reducible assumption))) | fail "macp")
local macro_rules | `(tactic| walk_at "g_val2") => `(tactic| first | ((with_reducible refine' Hf.i_tupOfL ?k1 ?_); (case k1 => walk_at "g_sq"); intro _ _) | fail "macp")
local macro_rules | `(tactic| walk_at "g_val") => `(tactic| first | ((with_reducible refine' Hf.i_intY ?k1 ?_); (case k1 => exact decide_eq_true (by omega))) | ((with_reducible refine' Hf.i_intN ?k1 ?_); (case k1 => exact decide_eq_false (by omega))) | fail "g_valp")
local macro_rules | `(tactic| walk_at "g_val2") => `(tactic| first | ((with_reducible refine' Hf.i_neDq ?k1 ?k2 ?k3 ?_); (case k1 => walk_at "g_dq"); (case k2 => walk_at "g_dq"); (case k3 => first | exact Hf.shaped_bat _ _ _ | exact Hf.shaped_mix _ | assumption)) | fail "macp")
local macro_rules | `(tactic| walk_at "g_kb") => `(tactic| first | (show L2.kitB _ _ = some true; decide +kernel) | (show L2.kitB _ _ = some false; decide +kernel) | fail "g_kb")
local macro_rules | `(tactic| walk_at "g_val2") => `(tactic| first
  | ((with_reducible refine' Hf.i_isiT2 ?k1 ?k2 ?k3 ?k4 ?_); (case k1 => walk_at "g_lk"); (case k2 => walk_at "g_ty"); (case k3 => walk_at "g_kb"); (case k4 => walk_at "g_kb"))
  | (with_reducible refine' Hf.i_iseq ?_)
  | ((with_reducible refine' Hf.i_iseqL ?k1 ?_); (case k1 => walk_at "g_sq"))
  | ((with_reducible refine' Hf.i_iseqT ?k1 ?_); (case k1 => walk_at "g_sq"))
  | ((with_reducible refine' Hf.i_cntS ?k1 ?k2 ?k3 ?k4 ?_); (case k1 => walk_at "g_dq"); (case k2 => assumption); (case k3 => decide +kernel); (case k4 => assumption))
  | fail "g_val2w")
local macro_rules | `(tactic| walk_at "g_ow") => `(tactic| first | (with_reducible assumption) | ((with_reducible refine' Hf.Ow.same ?s9 ?d9); (case d9 => (with_reducible assumption)); (case s9 => walk_at "g_same")) | fail "g_ow")
local macro_rules | `(tactic| walk_at "g_pre") => `(tactic| walk_at "g_ow")
local macro_rules | `(tactic| walk_at "g_kitN") => `(tactic| first | (with_reducible exact Hf.KitN.nil) | ((with_reducible refine' Hf.KitN.no ?k8 ?k9); (case k8 => walk_at "g_kit"); (case k9 => walk_at "g_kitN")) | fail "g_kitN")
local macro_rules | `(tactic| walk_at "g_kitR") => `(tactic| first | (with_reducible exact Hf.KitR.nil) | ((with_reducible refine' Hf.KitR.cons ?k9); (case k9 => walk_at "g_kitR")) | fail "g_kitR")
local macro_rules | `(tactic| walk_at "g_kitY") => `(tactic| first | ((with_reducible refine' Hf.KitY.here ?k8 ?k9); (case k8 => walk_at "g_kit"); (case k9 => walk_at "g_kitR")) | ((with_reducible refine' Hf.KitY.there ?k8 ?k9); (case k8 => walk_at "g_kit"); (case k9 => walk_at "g_kitY")) | fail "g_kitY")
local macro_rules | `(tactic| walk_at "g_val2") => `(tactic| first
  | ((with_reducible refine' Hf.i_isXN ?k1 ?k2 ?k3 ?k4 ?_); (case k1 => walk_at "g_lk"); (case k2 => walk_at "g_lk"); (case k3 => walk_at "g_exc"); (case k4 => walk_at "g_kitN"))
  | ((with_reducible refine' Hf.i_isXY ?k1 ?k2 ?k3 ?k4 ?_); (case k1 => walk_at "g_lk"); (case k2 => walk_at "g_lk"); (case k3 => walk_at "g_exc"); (case k4 => walk_at "g_kitY"))
  | ((with_reducible refine' Hf.i_isXNd ?k1 ?k5 ?k2 ?k3 ?k4 ?_); (case k1 => walk_at "g_lk"); (case k5 => walk_at "g_lk"); (case k2 => walk_at "g_lk"); (case k3 => walk_at "g_exc"); (case k4 => walk_at "g_kitN"))
  | ((with_reducible refine' Hf.i_isXT2 ?k1 ?k2 ?k3 ?k4 ?_); (case k1 => walk_at "g_lk"); (case k2 => walk_at "g_ty"); (case k3 => walk_at "g_kb"); (case k4 => walk_at "g_kb"))
  | fail "g_val2e")
local macro_rules | `(tactic| walk_at "g_oex") => `(tactic| fail "g_oex")
local macro_rules | `(tactic| walk_at "g_nof") => `(tactic| fail "g_nof")
local macro_rules | `(tactic| walk_at "g_val2") => `(tactic| first
  | (with_reducible refine' Hf.i_vei ?_)
  | ((with_reducible refine' Hf.i_ver ?k1 ?k2 ?k3 ?_); (case k1 => walk_at "g_lk"); (case k2 => walk_at "g_oex"); (case k3 => decide))
  | (with_reducible refine' Hf.i_ost ?_)
  | ((with_reducible refine' Hf.i_osr ?k1 ?k2 ?k3 ?_); (case k1 => walk_at "g_lk"); (case k2 => walk_at "g_oex"); (case k3 => walk_at "g_nof"); intro _ _ _)
  | (with_reducible refine' Hf.i_mko ?_)
  | (with_reducible refine' Hf.i_xfH ?_)
  | ((with_reducible refine' Hf.i_xfR ?k1 ?k2 ?k3 ?k4 ?_); (case k1 => walk_at "g_lk"); (case k2 => walk_at "g_lk"); (case k3 => walk_at "g_exc"); (case k4 => walk_at "g_nof"))
  | fail "g_val2i")
local macro_rules | `(tactic| walk_at "g_at") => `(tactic| first | (with_reducible exact Hf.atI_0) | (with_reducible exact Hf.atI_1) | (with_reducible exact Hf.atI_2) | fail "g_at2")
local macro_rules | `(tactic| walk_at "g_val2") => `(tactic| first | ((with_reducible refine' Hf.i_ix3S ?k1 ?k2 ?k3 ?_); (case k1 => walk_at "g_sq"); (case k2 => omega); (case k3 => omega); intro _ _) | fail "ix3s")
local macro_rules | `(tactic| walk_at "g_val2") => `(tactic| first | ((with_reducible refine' Hf.i_nin ?k1 ?k2 ?k3 ?k4 ?_); (case k1 => walk_at "g_sq"); (case k2 => first | rfl | assumption); (case k3 => first | rfl | assumption); (case k4 => first | assumption | (show L2.inV _ _ = true; decide +kernel) | (show L2.inV _ _ = false; decide +kernel))) | ((with_reducible refine' Hf.i_ninT ?k1 ?k2 ?k3 ?k4 ?_); (case k1 => walk_at "g_sq"); (case k2 => first | rfl | assumption); (case k3 => first | rfl | assumption); (case k4 => first | assumption | (show L2.inV _ _ = true; decide +kernel) | (show L2.inV _ _ = false; decide +kernel))) | fail "nin")
local macro_rules | `(tactic| walk_at "g_val2") => `(tactic| first
  | ((with_reducible refine' Hf.i_slT1 ?k1 ?_); (case k1 => walk_at "g_sq"); intro _ _)
  | ((with_reducible refine' Hf.i_catTg ?k1 ?k2 ?k3 ?k4 ?_); (case k1 => walk_at "g_lk"); (case k2 => walk_at "g_sq"); (case k3 => simp); (case k4 => first | (simp; done) | (simp; omega)); intro _ _ _ _)
  | ((with_reducible refine' Hf.i_ix4S ?k1 ?k2 ?k3 ?_); (case k1 => walk_at "g_sq"); (case k2 => omega); (case k3 => omega); intro _ _)
  | fail "g_val2q")

section
variable {P : Program} {w : World} {K : PySem.W.Frag} {mg : Str → Option Value} {base : Heap}
def topS (i : Nat) : Stmt := PySem.Challenge.pw_hostfields_k05_battles_looked_at.main.body.getD i (.Pass ⟨0, 0, 0, 0⟩)
abbrev s_NoBattle_init : Stmt := inClass (topS 2) 0
abbrev s_is_number : Stmt := topS 12
abbrev s_are_numbers : Stmt := topS 13
abbrev s_is_rule : Stmt := topS 14
abbrev s_is_field : Stmt := topS 15
abbrev s_look_battle : Stmt := topS 16
abbrev s_paid : Stmt := topS 17
abbrev s_is_plan : Stmt := topS 18
abbrev s_pay : Stmt := topS 19
abbrev s_won : Stmt := topS 20
abbrev s_gain : Stmt := topS 21
abbrev s_rises_on : Stmt := topS 22
abbrev s_rises : Stmt := topS 23
abbrev s_is_row : Stmt := topS 25
abbrev s_is_stream : Stmt := topS 26
abbrev s_is_alike : Stmt := topS 28
abbrev s_must_be_side : Stmt := topS 31
abbrev s_dues : Stmt := topS 32
abbrev s_goings_on : Stmt := topS 33
abbrev s_is_table : Stmt := topS 34
abbrev s_wrong_number : Stmt := topS 35
abbrev s_judged : Stmt := topS 36
abbrev s_l_mix : Stmt := topS 38
abbrev s_l_cell_at : Stmt := topS 39
abbrev s_l_left : Stmt := topS 40
abbrev s_l_draw : Stmt := topS 41
abbrev s_l_some : Stmt := topS 42
abbrev s_l_rule : Stmt := topS 43
abbrev s_l_battle : Stmt := topS 44
abbrev s_l_deep : Stmt := topS 45
abbrev s_l_bent_rule : Stmt := topS 46
abbrev s_l_bent : Stmt := topS 47
abbrev s_l_whole : Stmt := topS 48
abbrev s_l_is_rows : Stmt := topS 49
abbrev s_l_is_rule : Stmt := topS 50
abbrev s_l_due : Stmt := topS 51
abbrev s_l_refused : Stmt := topS 52
abbrev s_law : Stmt := topS 53
theorem sc_NoBattle_init : FnScope ["self", "field"] ["self", "field"] (defScope s_NoBattle_init) := ⟨rfl, rfl, rfl, by decide +kernel, rfl, by decide +kernel, by decide +kernel⟩
theorem sc_is_number : FnScope ["thing"] ["thing"] (defScope s_is_number) := ⟨rfl, rfl, rfl, by decide +kernel, rfl, by decide +kernel, by decide +kernel⟩
theorem sc_are_numbers : FnScope ["thing", "many", "number"] ["thing", "many"] (defScope s_are_numbers) := ⟨rfl, rfl, rfl, by decide +kernel, rfl, by decide +kernel, by decide +kernel⟩
theorem sc_is_rule : FnScope ["field"] ["field"] (defScope s_is_rule) := ⟨rfl, rfl, rfl, by decide +kernel, rfl, by decide +kernel, by decide +kernel⟩
theorem sc_is_field : FnScope ["field", "first", "second", "row"] ["field", "first", "second"] (defScope s_is_field) := ⟨rfl, rfl, rfl, by decide +kernel, rfl, by decide +kernel, by decide +kernel⟩
theorem sc_look_battle : FnScope ["battle", "first", "second", "fields", "k"] ["battle"] (defScope s_look_battle) := ⟨rfl, rfl, rfl, by decide +kernel, rfl, by decide +kernel, by decide +kernel⟩
theorem sc_paid : FnScope ["field", "x", "y"] ["field", "x", "y"] (defScope s_paid) := ⟨rfl, rfl, rfl, by decide +kernel, rfl, by decide +kernel, by decide +kernel⟩
theorem sc_is_plan : FnScope ["hosts", "many", "plan"] ["hosts", "many", "plan"] (defScope s_is_plan) := ⟨rfl, rfl, rfl, by decide +kernel, rfl, by decide +kernel, by decide +kernel⟩
theorem sc_pay : FnScope ["battle", "field", "x", "y", "first", "second", "fields"] ["battle", "field", "x", "y"] (defScope s_pay) := ⟨rfl, rfl, rfl, by decide +kernel, rfl, by decide +kernel, by decide +kernel⟩
theorem sc_won : FnScope ["battle", "one", "other", "k"] ["battle", "one", "other"] (defScope s_won) := ⟨rfl, rfl, rfl, by decide +kernel, rfl, by decide +kernel, by decide +kernel⟩
theorem sc_gain : FnScope ["battle", "one", "other", "many"] ["battle", "one", "other"] (defScope s_gain) := ⟨rfl, rfl, rfl, by decide +kernel, rfl, by decide +kernel, by decide +kernel⟩
theorem sc_rises_on : FnScope ["field", "first", "second", "x", "y"] ["field", "first", "second"] (defScope s_rises_on) := ⟨rfl, rfl, rfl, by decide +kernel, rfl, by decide +kernel, by decide +kernel⟩
theorem sc_rises : FnScope ["battle", "field"] ["battle"] (defScope s_rises) := ⟨rfl, rfl, rfl, by decide +kernel, rfl, by decide +kernel, by decide +kernel⟩
theorem sc_is_row : FnScope ["row", "hosts", "part", "left", "sent", "flow", "k", "one"] ["row", "hosts"] (defScope s_is_row) := ⟨rfl, rfl, rfl, by decide +kernel, rfl, by decide +kernel, by decide +kernel⟩
theorem sc_is_stream : FnScope ["hosts", "fields", "stream", "come", "row", "taken", "gone", "left", "sent", "flow"] ["hosts", "fields", "stream"] (defScope s_is_stream) := ⟨rfl, rfl, rfl, by decide +kernel, rfl, by decide +kernel, by decide +kernel⟩
theorem sc_is_alike : FnScope ["battle", "field"] ["battle"] (defScope s_is_alike) := ⟨rfl, rfl, rfl, by decide +kernel, rfl, by decide +kernel, by decide +kernel⟩
theorem sc_must_be_side : FnScope ["side"] ["side"] (defScope s_must_be_side) := ⟨rfl, rfl, rfl, by decide +kernel, rfl, by decide +kernel, by decide +kernel⟩
theorem sc_dues : FnScope ["battle", "side", "stream", "first", "second", "fields", "found", "k", "some", "y", "x", "left", "sent", "flow"] ["battle", "side", "stream"] (defScope s_dues) := ⟨rfl, rfl, rfl, by decide +kernel, rfl, by decide +kernel, by decide +kernel⟩
theorem sc_goings_on : FnScope ["due", "table", "k", "left", "sent"] ["due", "table", "k", "left"] (defScope s_goings_on) := ⟨rfl, rfl, rfl, by decide +kernel, rfl, by decide +kernel, by decide +kernel⟩
theorem sc_is_table : FnScope ["table", "fields", "hosts", "row"] ["table", "fields", "hosts"] (defScope s_is_table) := ⟨rfl, rfl, rfl, by decide +kernel, rfl, by decide +kernel, by decide +kernel⟩
theorem sc_wrong_number : FnScope ["due", "table", "side", "k", "left", "some"] ["due", "table", "side"] (defScope s_wrong_number) := ⟨rfl, rfl, rfl, by decide +kernel, rfl, by decide +kernel, by decide +kernel⟩
theorem sc_judged : FnScope ["battle", "side", "worth", "paper", "stream", "table", "own", "other", "wrong", "due", "shown", "left", "sent", "flow"] ["battle", "side", "worth", "paper"] (defScope s_judged) := ⟨rfl, rfl, rfl, by decide +kernel, rfl, by decide +kernel, by decide +kernel⟩
theorem sc_l_mix : FnScope ["_law_number", "_law_k", "_law_mixed"] ["_law_number", "_law_k"] (defScope s_l_mix) := ⟨rfl, rfl, rfl, by decide +kernel, rfl, by decide +kernel, by decide +kernel⟩
theorem sc_l_cell_at : FnScope ["_law_script", "_law_k"] ["_law_script", "_law_k"] (defScope s_l_cell_at) := ⟨rfl, rfl, rfl, by decide +kernel, rfl, by decide +kernel, by decide +kernel⟩
theorem sc_l_left : FnScope ["_law_script", "_law_k", "_law_cell"] ["_law_script", "_law_k"] (defScope s_l_left) := ⟨rfl, rfl, rfl, by decide +kernel, rfl, by decide +kernel, by decide +kernel⟩
theorem sc_l_draw : FnScope ["_law_left_here", "_law_base", "_law_mixed", "_law_digit"] ["_law_left_here", "_law_base"] (defScope s_l_draw) := ⟨rfl, rfl, rfl, by decide +kernel, rfl, by decide +kernel, by decide +kernel⟩
theorem sc_l_some : FnScope ["_law_left_here", "_law_far"] ["_law_left_here"] (defScope s_l_some) := ⟨rfl, rfl, rfl, by decide +kernel, rfl, by decide +kernel, by decide +kernel⟩
theorem sc_l_rule : FnScope ["_law_left_here", "_law_first", "_law_second", "_law_kind", "_law_worth", "_law_x", "_law_y"] ["_law_left_here", "_law_first", "_law_second"] (defScope s_l_rule) := ⟨rfl, rfl, rfl, by decide +kernel, rfl, by decide +kernel, by decide +kernel⟩
theorem sc_l_battle : FnScope ["_law_left_here", "_law_most", "_law_fields", "_law_first", "_law_second", "_law_k"] ["_law_left_here", "_law_most", "_law_fields"] (defScope s_l_battle) := ⟨rfl, rfl, rfl, by decide +kernel, rfl, by decide +kernel, by decide +kernel⟩
theorem sc_l_deep : FnScope ["_law_thing", "_law_part"] ["_law_thing"] (defScope s_l_deep) := ⟨rfl, rfl, rfl, by decide +kernel, rfl, by decide +kernel, by decide +kernel⟩
theorem sc_l_bent_rule : FnScope ["_law_left_here", "_law_field", "_law_choice", "_law_rows", "_law_row", "_law_at", "_law_k"] ["_law_left_here", "_law_field"] (defScope s_l_bent_rule) := ⟨rfl, rfl, rfl, by decide +kernel, rfl, by decide +kernel, by decide +kernel⟩
theorem sc_l_bent : FnScope ["_law_left_here", "_law_battle_here", "_law_first", "_law_second", "_law_fields", "_law_choice", "_law_at"] ["_law_left_here", "_law_battle_here"] (defScope s_l_bent) := ⟨rfl, rfl, rfl, by decide +kernel, rfl, by decide +kernel, by decide +kernel⟩
theorem sc_l_whole : FnScope ["_law_thing"] ["_law_thing"] (defScope s_l_whole) := ⟨rfl, rfl, rfl, by decide +kernel, rfl, by decide +kernel, by decide +kernel⟩
theorem sc_l_is_rows : FnScope ["_law_rows", "_law_first", "_law_second", "_law_row", "_law_one"] ["_law_rows", "_law_first", "_law_second"] (defScope s_l_is_rows) := ⟨rfl, rfl, rfl, by decide +kernel, rfl, by decide +kernel, by decide +kernel⟩
theorem sc_l_is_rule : FnScope ["_law_field", "_law_first", "_law_second"] ["_law_field", "_law_first", "_law_second"] (defScope s_l_is_rule) := ⟨rfl, rfl, rfl, by decide +kernel, rfl, by decide +kernel, by decide +kernel⟩
theorem sc_l_due : FnScope ["_law_battle_here", "_law_first", "_law_second", "_law_fields", "_law_k"] ["_law_battle_here"] (defScope s_l_due) := ⟨rfl, rfl, rfl, by decide +kernel, rfl, by decide +kernel, by decide +kernel⟩
theorem sc_l_refused : FnScope ["_law_battle_here", "_law_which", "_law_caught", "_law_told", "e"] ["_law_battle_here", "_law_which"] (defScope s_l_refused) := ⟨rfl, rfl, rfl, by decide +kernel, rfl, by decide +kernel, by decide +kernel⟩
theorem sc_law : FnScope ["_law_script", "_law_cell", "_law_left_here", "_law_battle_here", "_law_handed", "_law_due_here", "_law_told", "_law_which"] ["_law_script"] (defScope s_law) := ⟨rfl, rfl, rfl, by decide +kernel, rfl, by decide +kernel, by decide +kernel⟩
structure Txt (K : PySem.W.Frag) (mg : Str → Option Value) where
  a_NoBattle_init : Addr
  d_NoBattle_init : FuncData
  F_NoBattle_init : Fun K "__init__" "NoBattle.__init__" s_NoBattle_init a_NoBattle_init d_NoBattle_init
  b_NoBattle_init : Binds K d_NoBattle_init ["self", "field"] []
  a_is_number : Addr
  d_is_number : FuncData
  F_is_number : Fun K "is_number" "is_number" s_is_number a_is_number d_is_number
  g_is_number : mg "is_number" = some (.ref a_is_number)
  b_is_number : Binds K d_is_number ["thing"] []
  a_are_numbers : Addr
  d_are_numbers : FuncData
  F_are_numbers : Fun K "are_numbers" "are_numbers" s_are_numbers a_are_numbers d_are_numbers
  g_are_numbers : mg "are_numbers" = some (.ref a_are_numbers)
  b_are_numbers : Binds K d_are_numbers ["thing", "many"] []
  a_is_rule : Addr
  d_is_rule : FuncData
  F_is_rule : Fun K "is_rule" "is_rule" s_is_rule a_is_rule d_is_rule
  g_is_rule : mg "is_rule" = some (.ref a_is_rule)
  b_is_rule : Binds K d_is_rule ["field"] []
  a_is_field : Addr
  d_is_field : FuncData
  F_is_field : Fun K "is_field" "is_field" s_is_field a_is_field d_is_field
  g_is_field : mg "is_field" = some (.ref a_is_field)
  b_is_field : Binds K d_is_field ["field", "first", "second"] []
  a_look_battle : Addr
  d_look_battle : FuncData
  F_look_battle : Fun K "look_battle" "look_battle" s_look_battle a_look_battle d_look_battle
  g_look_battle : mg "look_battle" = some (.ref a_look_battle)
  b_look_battle : Binds K d_look_battle ["battle"] []
  a_paid : Addr
  d_paid : FuncData
  F_paid : Fun K "paid" "paid" s_paid a_paid d_paid
  g_paid : mg "paid" = some (.ref a_paid)
  b_paid : Binds K d_paid ["field", "x", "y"] []
  a_is_plan : Addr
  d_is_plan : FuncData
  F_is_plan : Fun K "is_plan" "is_plan" s_is_plan a_is_plan d_is_plan
  g_is_plan : mg "is_plan" = some (.ref a_is_plan)
  b_is_plan : Binds K d_is_plan ["hosts", "many", "plan"] []
  a_pay : Addr
  d_pay : FuncData
  F_pay : Fun K "pay" "pay" s_pay a_pay d_pay
  g_pay : mg "pay" = some (.ref a_pay)
  b_pay : Binds K d_pay ["battle", "field", "x", "y"] []
  a_won : Addr
  d_won : FuncData
  F_won : Fun K "won" "won" s_won a_won d_won
  g_won : mg "won" = some (.ref a_won)
  b_won : Binds K d_won ["battle", "one", "other"] []
  a_gain : Addr
  d_gain : FuncData
  F_gain : Fun K "gain" "gain" s_gain a_gain d_gain
  g_gain : mg "gain" = some (.ref a_gain)
  b_gain : Binds K d_gain ["battle", "one", "other"] []
  a_rises_on : Addr
  d_rises_on : FuncData
  F_rises_on : Fun K "rises_on" "rises_on" s_rises_on a_rises_on d_rises_on
  g_rises_on : mg "rises_on" = some (.ref a_rises_on)
  b_rises_on : Binds K d_rises_on ["field", "first", "second"] []
  a_rises : Addr
  d_rises : FuncData
  F_rises : Fun K "rises" "rises" s_rises a_rises d_rises
  g_rises : mg "rises" = some (.ref a_rises)
  b_rises : Binds K d_rises ["battle"] []
  a_is_row : Addr
  d_is_row : FuncData
  F_is_row : Fun K "is_row" "is_row" s_is_row a_is_row d_is_row
  g_is_row : mg "is_row" = some (.ref a_is_row)
  b_is_row : Binds K d_is_row ["row", "hosts"] []
  a_is_stream : Addr
  d_is_stream : FuncData
  F_is_stream : Fun K "is_stream" "is_stream" s_is_stream a_is_stream d_is_stream
  g_is_stream : mg "is_stream" = some (.ref a_is_stream)
  b_is_stream : Binds K d_is_stream ["hosts", "fields", "stream"] []
  a_is_alike : Addr
  d_is_alike : FuncData
  F_is_alike : Fun K "is_alike" "is_alike" s_is_alike a_is_alike d_is_alike
  g_is_alike : mg "is_alike" = some (.ref a_is_alike)
  b_is_alike : Binds K d_is_alike ["battle"] []
  a_must_be_side : Addr
  d_must_be_side : FuncData
  F_must_be_side : Fun K "must_be_side" "must_be_side" s_must_be_side a_must_be_side d_must_be_side
  g_must_be_side : mg "must_be_side" = some (.ref a_must_be_side)
  b_must_be_side : Binds K d_must_be_side ["side"] []
  a_dues : Addr
  d_dues : FuncData
  F_dues : Fun K "dues" "dues" s_dues a_dues d_dues
  g_dues : mg "dues" = some (.ref a_dues)
  b_dues : Binds K d_dues ["battle", "side", "stream"] []
  a_goings_on : Addr
  d_goings_on : FuncData
  F_goings_on : Fun K "goings_on" "goings_on" s_goings_on a_goings_on d_goings_on
  g_goings_on : mg "goings_on" = some (.ref a_goings_on)
  b_goings_on : Binds K d_goings_on ["due", "table", "k", "left"] []
  a_is_table : Addr
  d_is_table : FuncData
  F_is_table : Fun K "is_table" "is_table" s_is_table a_is_table d_is_table
  g_is_table : mg "is_table" = some (.ref a_is_table)
  b_is_table : Binds K d_is_table ["table", "fields", "hosts"] []
  a_wrong_number : Addr
  d_wrong_number : FuncData
  F_wrong_number : Fun K "wrong_number" "wrong_number" s_wrong_number a_wrong_number d_wrong_number
  g_wrong_number : mg "wrong_number" = some (.ref a_wrong_number)
  b_wrong_number : Binds K d_wrong_number ["due", "table", "side"] []
  a_judged : Addr
  d_judged : FuncData
  F_judged : Fun K "judged" "judged" s_judged a_judged d_judged
  g_judged : mg "judged" = some (.ref a_judged)
  b_judged : Binds K d_judged ["battle", "side", "worth", "paper"] []
  a_l_mix : Addr
  d_l_mix : FuncData
  F_l_mix : Fun K "_law_mix" "_law_mix" s_l_mix a_l_mix d_l_mix
  g_l_mix : mg "_law_mix" = some (.ref a_l_mix)
  b_l_mix : Binds K d_l_mix ["_law_number", "_law_k"] []
  a_l_cell_at : Addr
  d_l_cell_at : FuncData
  F_l_cell_at : Fun K "_law_cell_at" "_law_cell_at" s_l_cell_at a_l_cell_at d_l_cell_at
  g_l_cell_at : mg "_law_cell_at" = some (.ref a_l_cell_at)
  b_l_cell_at : Binds K d_l_cell_at ["_law_script", "_law_k"] []
  a_l_left : Addr
  d_l_left : FuncData
  F_l_left : Fun K "_law_left" "_law_left" s_l_left a_l_left d_l_left
  g_l_left : mg "_law_left" = some (.ref a_l_left)
  b_l_left : Binds K d_l_left ["_law_script", "_law_k"] []
  a_l_draw : Addr
  d_l_draw : FuncData
  F_l_draw : Fun K "_law_draw" "_law_draw" s_l_draw a_l_draw d_l_draw
  g_l_draw : mg "_law_draw" = some (.ref a_l_draw)
  b_l_draw : Binds K d_l_draw ["_law_left_here", "_law_base"] []
  a_l_some : Addr
  d_l_some : FuncData
  F_l_some : Fun K "_law_some" "_law_some" s_l_some a_l_some d_l_some
  g_l_some : mg "_law_some" = some (.ref a_l_some)
  b_l_some : Binds K d_l_some ["_law_left_here"] []
  a_l_rule : Addr
  d_l_rule : FuncData
  F_l_rule : Fun K "_law_rule" "_law_rule" s_l_rule a_l_rule d_l_rule
  g_l_rule : mg "_law_rule" = some (.ref a_l_rule)
  b_l_rule : Binds K d_l_rule ["_law_left_here", "_law_first", "_law_second"] []
  a_l_battle : Addr
  d_l_battle : FuncData
  F_l_battle : Fun K "_law_battle" "_law_battle" s_l_battle a_l_battle d_l_battle
  g_l_battle : mg "_law_battle" = some (.ref a_l_battle)
  b_l_battle : Binds K d_l_battle ["_law_left_here", "_law_most", "_law_fields"] []
  a_l_deep : Addr
  d_l_deep : FuncData
  F_l_deep : Fun K "_law_deep" "_law_deep" s_l_deep a_l_deep d_l_deep
  g_l_deep : mg "_law_deep" = some (.ref a_l_deep)
  b_l_deep : Binds K d_l_deep ["_law_thing"] []
  a_l_bent_rule : Addr
  d_l_bent_rule : FuncData
  F_l_bent_rule : Fun K "_law_bent_rule" "_law_bent_rule" s_l_bent_rule a_l_bent_rule d_l_bent_rule
  g_l_bent_rule : mg "_law_bent_rule" = some (.ref a_l_bent_rule)
  b_l_bent_rule : Binds K d_l_bent_rule ["_law_left_here", "_law_field"] []
  a_l_bent : Addr
  d_l_bent : FuncData
  F_l_bent : Fun K "_law_bent" "_law_bent" s_l_bent a_l_bent d_l_bent
  g_l_bent : mg "_law_bent" = some (.ref a_l_bent)
  b_l_bent : Binds K d_l_bent ["_law_left_here", "_law_battle_here"] []
  a_l_whole : Addr
  d_l_whole : FuncData
  F_l_whole : Fun K "_law_whole" "_law_whole" s_l_whole a_l_whole d_l_whole
  g_l_whole : mg "_law_whole" = some (.ref a_l_whole)
  b_l_whole : Binds K d_l_whole ["_law_thing"] []
  a_l_is_rows : Addr
  d_l_is_rows : FuncData
  F_l_is_rows : Fun K "_law_is_rows" "_law_is_rows" s_l_is_rows a_l_is_rows d_l_is_rows
  g_l_is_rows : mg "_law_is_rows" = some (.ref a_l_is_rows)
  b_l_is_rows : Binds K d_l_is_rows ["_law_rows", "_law_first", "_law_second"] []
  a_l_is_rule : Addr
  d_l_is_rule : FuncData
  F_l_is_rule : Fun K "_law_is_rule" "_law_is_rule" s_l_is_rule a_l_is_rule d_l_is_rule
  g_l_is_rule : mg "_law_is_rule" = some (.ref a_l_is_rule)
  b_l_is_rule : Binds K d_l_is_rule ["_law_field", "_law_first", "_law_second"] []
  a_l_due : Addr
  d_l_due : FuncData
  F_l_due : Fun K "_law_due" "_law_due" s_l_due a_l_due d_l_due
  g_l_due : mg "_law_due" = some (.ref a_l_due)
  b_l_due : Binds K d_l_due ["_law_battle_here"] []
  a_l_refused : Addr
  d_l_refused : FuncData
  F_l_refused : Fun K "_law_refused" "_law_refused" s_l_refused a_l_refused d_l_refused
  g_l_refused : mg "_law_refused" = some (.ref a_l_refused)
  b_l_refused : Binds K d_l_refused ["_law_battle_here", "_law_which"] []
  a_law : Addr
  d_law : FuncData
  F_law : Fun K "law" "law" s_law a_law d_law
  g_law : mg "law" = some (.ref a_law)
  b_law : Binds K d_law ["_law_script"] []
  z_ValueError : mg "ValueError" = none
  z_abs : mg "abs" = none
  z_bool : mg "bool" = none
  z_int : mg "int" = none
  z_isinstance : mg "isinstance" = none
  z_len : mg "len" = none
  z_list : mg "list" = none
  z_max : mg "max" = none
  z_min : mg "min" = none
  z_range : mg "range" = none
  z_sum : mg "sum" = none
  z_tuple : mg "tuple" = none
  t_MOST_HOSTS : Tok
  c_MOST_HOSTS : mg "MOST_HOSTS" = some (.int 10 t_MOST_HOSTS)
  t_MOST_FIELDS : Tok
  c_MOST_FIELDS : mg "MOST_FIELDS" = some (.int 5 t_MOST_FIELDS)
  e_SIDES : Addr
  c_SIDES : mg "SIDES" = some (.ref e_SIDES)
  q_SIDES : ∃ (o : Obj) (its : Array Value) (n : Nat), K.lookup e_SIDES = some o ∧ o.cls = .type "list" ∧ o.dict = none ∧ o.data = .seq its n ∧ its.size ≤ sizeLine ∧ Vals [.str (PySem.Str.ofString "first"), .str (PySem.Str.ofString "second")] its.toList
  e_HostError : Addr
  g_HostError : mg "HostError" = some (.ref e_HostError)
  i_HostError : PySem.W.isClsIn K e_HostError = true
  t_HostError : PySem.W.typeIn K (.ref e_HostError) = some (.type "type")
  y_HostError : PySem.W.subIn K (.ref e_HostError) (.type "BaseException") = some true
  e_NoBattle : Addr
  g_NoBattle : mg "NoBattle" = some (.ref e_NoBattle)
  i_NoBattle : PySem.W.isClsIn K e_NoBattle = true
  t_NoBattle : PySem.W.typeIn K (.ref e_NoBattle) = some (.type "type")
  y_NoBattle : PySem.W.subIn K (.ref e_NoBattle) (.type "BaseException") = some true
  e_NoPlan : Addr
  g_NoPlan : mg "NoPlan" = some (.ref e_NoPlan)
  i_NoPlan : PySem.W.isClsIn K e_NoPlan = true
  t_NoPlan : PySem.W.typeIn K (.ref e_NoPlan) = some (.type "type")
  y_NoPlan : PySem.W.subIn K (.ref e_NoPlan) (.type "BaseException") = some true
  e_NoMix : Addr
  g_NoMix : mg "NoMix" = some (.ref e_NoMix)
  i_NoMix : PySem.W.isClsIn K e_NoMix = true
  t_NoMix : PySem.W.typeIn K (.ref e_NoMix) = some (.type "type")
  y_NoMix : PySem.W.subIn K (.ref e_NoMix) (.type "BaseException") = some true
  e_NoStream : Addr
  g_NoStream : mg "NoStream" = some (.ref e_NoStream)
  i_NoStream : PySem.W.isClsIn K e_NoStream = true
  t_NoStream : PySem.W.typeIn K (.ref e_NoStream) = some (.type "type")
  y_NoStream : PySem.W.subIn K (.ref e_NoStream) (.type "BaseException") = some true
  e_NoSide : Addr
  g_NoSide : mg "NoSide" = some (.ref e_NoSide)
  i_NoSide : PySem.W.isClsIn K e_NoSide = true
  t_NoSide : PySem.W.typeIn K (.ref e_NoSide) = some (.type "type")
  y_NoSide : PySem.W.subIn K (.ref e_NoSide) (.type "BaseException") = some true
  e_NoAlike : Addr
  g_NoAlike : mg "NoAlike" = some (.ref e_NoAlike)
  i_NoAlike : PySem.W.isClsIn K e_NoAlike = true
  t_NoAlike : PySem.W.typeIn K (.ref e_NoAlike) = some (.type "type")
  y_NoAlike : PySem.W.subIn K (.ref e_NoAlike) (.type "BaseException") = some true
  e_NoNumber : Addr
  g_NoNumber : mg "NoNumber" = some (.ref e_NoNumber)
  i_NoNumber : PySem.W.isClsIn K e_NoNumber = true
  t_NoNumber : PySem.W.typeIn K (.ref e_NoNumber) = some (.type "type")
  y_NoNumber : PySem.W.subIn K (.ref e_NoNumber) (.type "BaseException") = some true
  x_NoPlan : PySem.W.excIn K e_NoPlan [.type "ValueError", .type "Exception", .type "BaseException", .type "object"] "ValueError.__new__" = true
  k_NoPlan : PySem.W.keepIn K (.ref e_NoPlan) = true
  hg_NoPlan : PySem.W.findIn K (.ref e_NoPlan) "__getattribute__" = some (some (.builtin "BaseException.__getattribute__"))
  hk_NoPlan : PySem.W.findIn K (.ref e_NoPlan) "__getattr__" = some none
  hd_NoPlan : PySem.W.hasDictIn K e_NoPlan = true
  ha_NoPlan : PySem.W.findIn K (.ref e_NoPlan) "__class__" = some (some (.builtin "object.__class__"))
  hm_NoPlan : PySem.W.mroIn K e_NoPlan (.type "object") = some true
  v_NoPlan : PySem.W.subIn K (.ref e_NoPlan) (.type "ValueError") = some true
  s_NoPlan_HostError : PySem.W.subIn K (.ref e_NoPlan) (.ref e_HostError) = some true
  s_NoPlan_NoBattle : PySem.W.subIn K (.ref e_NoPlan) (.ref e_NoBattle) = some false
  s_NoPlan_NoPlan : PySem.W.subIn K (.ref e_NoPlan) (.ref e_NoPlan) = some true
  s_NoPlan_NoMix : PySem.W.subIn K (.ref e_NoPlan) (.ref e_NoMix) = some false
  s_NoPlan_NoStream : PySem.W.subIn K (.ref e_NoPlan) (.ref e_NoStream) = some false
  s_NoPlan_NoSide : PySem.W.subIn K (.ref e_NoPlan) (.ref e_NoSide) = some false
  s_NoPlan_NoAlike : PySem.W.subIn K (.ref e_NoPlan) (.ref e_NoAlike) = some false
  s_NoPlan_NoNumber : PySem.W.subIn K (.ref e_NoPlan) (.ref e_NoNumber) = some false
  x_NoSide : PySem.W.excIn K e_NoSide [.type "ValueError", .type "Exception", .type "BaseException", .type "object"] "ValueError.__new__" = true
  k_NoSide : PySem.W.keepIn K (.ref e_NoSide) = true
  hg_NoSide : PySem.W.findIn K (.ref e_NoSide) "__getattribute__" = some (some (.builtin "BaseException.__getattribute__"))
  hk_NoSide : PySem.W.findIn K (.ref e_NoSide) "__getattr__" = some none
  hd_NoSide : PySem.W.hasDictIn K e_NoSide = true
  ha_NoSide : PySem.W.findIn K (.ref e_NoSide) "__class__" = some (some (.builtin "object.__class__"))
  hm_NoSide : PySem.W.mroIn K e_NoSide (.type "object") = some true
  v_NoSide : PySem.W.subIn K (.ref e_NoSide) (.type "ValueError") = some true
  s_NoSide_HostError : PySem.W.subIn K (.ref e_NoSide) (.ref e_HostError) = some true
  s_NoSide_NoBattle : PySem.W.subIn K (.ref e_NoSide) (.ref e_NoBattle) = some false
  s_NoSide_NoPlan : PySem.W.subIn K (.ref e_NoSide) (.ref e_NoPlan) = some false
  s_NoSide_NoMix : PySem.W.subIn K (.ref e_NoSide) (.ref e_NoMix) = some false
  s_NoSide_NoStream : PySem.W.subIn K (.ref e_NoSide) (.ref e_NoStream) = some false
  s_NoSide_NoSide : PySem.W.subIn K (.ref e_NoSide) (.ref e_NoSide) = some true
  s_NoSide_NoAlike : PySem.W.subIn K (.ref e_NoSide) (.ref e_NoAlike) = some false
  s_NoSide_NoNumber : PySem.W.subIn K (.ref e_NoSide) (.ref e_NoNumber) = some false
  oc_NoBattle : ∃ nm q N bs bm sn sub ab col dd k0 k1 k2 k3 k5, K.lookup e_NoBattle = some (excClassObj nm q e_NoBattle N bs bm true sn sub ab col dd k0 k1 k2 k3 k5 "ValueError.__new__") ∧ PySem.HandSPX.refsVE bm = true
  sa_NoBattle : PySem.W.findIn K (.ref e_NoBattle) "__setattr__" = some (some (.builtin "object.__setattr__"))
  ic_NoBattle : PySem.W.findIn K (.ref e_NoBattle) "__init__" = some (some (.ref a_NoBattle_init))
  ti_NoBattle : PySem.W.typeIn K (.ref a_NoBattle_init) = some (.type "function")
  no_NoBattle_field : PySem.W.findIn K (.ref e_NoBattle) "field" = some none
  rd_HostError : PySem.W.readsIn K e_HostError (.type "type") = true
  ga_HostError : PySem.W.specialIn K (.ref e_HostError) "__getattribute__" = some (some (.builtin "type.__getattribute__"))
  fc_HostError : PySem.W.findCls K (.ref e_HostError) (.type "type") "__init__" = some (.val (.builtin "ValueError.__init__"))
  k_NoBattle : PySem.W.keepIn K (.ref e_NoBattle) = true
  hg_NoBattle : PySem.W.findIn K (.ref e_NoBattle) "__getattribute__" = some (some (.builtin "BaseException.__getattribute__"))
  hk_NoBattle : PySem.W.findIn K (.ref e_NoBattle) "__getattr__" = some none
  hd_NoBattle : PySem.W.hasDictIn K e_NoBattle = true
  ha_NoBattle : PySem.W.findIn K (.ref e_NoBattle) "__class__" = some (some (.builtin "object.__class__"))
  hm_NoBattle : PySem.W.mroIn K e_NoBattle (.type "object") = some true
  v_NoBattle : PySem.W.subIn K (.ref e_NoBattle) (.type "ValueError") = some true
  s_NoBattle_HostError : PySem.W.subIn K (.ref e_NoBattle) (.ref e_HostError) = some true
  s_NoBattle_NoBattle : PySem.W.subIn K (.ref e_NoBattle) (.ref e_NoBattle) = some true
  s_NoBattle_NoPlan : PySem.W.subIn K (.ref e_NoBattle) (.ref e_NoPlan) = some false
  s_NoBattle_NoMix : PySem.W.subIn K (.ref e_NoBattle) (.ref e_NoMix) = some false
  s_NoBattle_NoStream : PySem.W.subIn K (.ref e_NoBattle) (.ref e_NoStream) = some false
  s_NoBattle_NoSide : PySem.W.subIn K (.ref e_NoBattle) (.ref e_NoSide) = some false
  s_NoBattle_NoAlike : PySem.W.subIn K (.ref e_NoBattle) (.ref e_NoAlike) = some false
  s_NoBattle_NoNumber : PySem.W.subIn K (.ref e_NoBattle) (.ref e_NoNumber) = some false
  ho_n : PySem.W.specialIn K (.builtin "object.__class__") "__get__" = some (some (.builtin "getset_descriptor.__get__"))
  ho_t : PySem.W.takesIn K (.builtin "object.__class__") = some true
theorem Txt.Q_SIDES {K : PySem.W.Frag} {mg : Str → Option Value} (T : Txt K mg) (H : Hp) : SqL K H T.e_SIDES [.str (PySem.Str.ofString "first"), .str (PySem.Str.ofString "second")] := .inr T.q_SIDES
local macro_rules | `(tactic| walk_at "g_sq") => `(tactic| first | (with_reducible exact Txt.Q_SIDES _ _))
section
variable {K : PySem.W.Frag} {mg : Str → Option Value} (T : Txt K mg)
include T
theorem Txt.O_NoBattle : OexC K T.e_NoBattle := ⟨T.oc_NoBattle, T.sa_NoBattle, T.y_NoBattle, T.t_NoBattle, T.k_NoBattle⟩
theorem cl_HostError : ClsT K T.e_HostError := ⟨T.i_HostError, T.t_HostError⟩
theorem cl_NoBattle : ClsT K T.e_NoBattle := ⟨T.i_NoBattle, T.t_NoBattle⟩
theorem cl_NoPlan : ClsT K T.e_NoPlan := ⟨T.i_NoPlan, T.t_NoPlan⟩
theorem cl_NoMix : ClsT K T.e_NoMix := ⟨T.i_NoMix, T.t_NoMix⟩
theorem cl_NoStream : ClsT K T.e_NoStream := ⟨T.i_NoStream, T.t_NoStream⟩
theorem cl_NoSide : ClsT K T.e_NoSide := ⟨T.i_NoSide, T.t_NoSide⟩
theorem cl_NoAlike : ClsT K T.e_NoAlike := ⟨T.i_NoAlike, T.t_NoAlike⟩
theorem cl_NoNumber : ClsT K T.e_NoNumber := ⟨T.i_NoNumber, T.t_NoNumber⟩
theorem exc_NoPlan : L2.ExcC K T.e_NoPlan := ⟨T.hg_NoPlan, T.hk_NoPlan, T.y_NoPlan, T.hd_NoPlan, T.ha_NoPlan, T.ho_n, T.ho_t, T.hm_NoPlan⟩
theorem kit_NoPlan_ValueError : PySem.W.kitOne K (.ref T.e_NoPlan) (.type "ValueError") = some true := kit_v T.v_NoPlan (by decide +kernel)
theorem kit_NoPlan_HostError : PySem.W.kitOne K (.ref T.e_NoPlan) (.ref T.e_HostError) = some true := kit_t (cl_HostError T) T.s_NoPlan_HostError
theorem exm_NoPlan_HostError : PySem.W.exmOne K (.ref T.e_NoPlan) (.ref T.e_HostError) = some true := exm_t (cl_HostError T) T.y_HostError T.s_NoPlan_HostError
theorem kit_NoPlan_NoBattle : PySem.W.kitOne K (.ref T.e_NoPlan) (.ref T.e_NoBattle) = some false := kit_f (cl_NoBattle T) T.s_NoPlan_NoPlan T.s_NoPlan_NoBattle
theorem kit_NoPlan_NoPlan : PySem.W.kitOne K (.ref T.e_NoPlan) (.ref T.e_NoPlan) = some true := kit_t (cl_NoPlan T) T.s_NoPlan_NoPlan
theorem exm_NoPlan_NoPlan : PySem.W.exmOne K (.ref T.e_NoPlan) (.ref T.e_NoPlan) = some true := exm_t (cl_NoPlan T) T.y_NoPlan T.s_NoPlan_NoPlan
theorem kit_NoPlan_NoMix : PySem.W.kitOne K (.ref T.e_NoPlan) (.ref T.e_NoMix) = some false := kit_f (cl_NoMix T) T.s_NoPlan_NoPlan T.s_NoPlan_NoMix
theorem kit_NoPlan_NoStream : PySem.W.kitOne K (.ref T.e_NoPlan) (.ref T.e_NoStream) = some false := kit_f (cl_NoStream T) T.s_NoPlan_NoPlan T.s_NoPlan_NoStream
theorem kit_NoPlan_NoSide : PySem.W.kitOne K (.ref T.e_NoPlan) (.ref T.e_NoSide) = some false := kit_f (cl_NoSide T) T.s_NoPlan_NoPlan T.s_NoPlan_NoSide
theorem kit_NoPlan_NoAlike : PySem.W.kitOne K (.ref T.e_NoPlan) (.ref T.e_NoAlike) = some false := kit_f (cl_NoAlike T) T.s_NoPlan_NoPlan T.s_NoPlan_NoAlike
theorem kit_NoPlan_NoNumber : PySem.W.kitOne K (.ref T.e_NoPlan) (.ref T.e_NoNumber) = some false := kit_f (cl_NoNumber T) T.s_NoPlan_NoPlan T.s_NoPlan_NoNumber
theorem exc_NoSide : L2.ExcC K T.e_NoSide := ⟨T.hg_NoSide, T.hk_NoSide, T.y_NoSide, T.hd_NoSide, T.ha_NoSide, T.ho_n, T.ho_t, T.hm_NoSide⟩
theorem kit_NoSide_ValueError : PySem.W.kitOne K (.ref T.e_NoSide) (.type "ValueError") = some true := kit_v T.v_NoSide (by decide +kernel)
theorem kit_NoSide_HostError : PySem.W.kitOne K (.ref T.e_NoSide) (.ref T.e_HostError) = some true := kit_t (cl_HostError T) T.s_NoSide_HostError
theorem exm_NoSide_HostError : PySem.W.exmOne K (.ref T.e_NoSide) (.ref T.e_HostError) = some true := exm_t (cl_HostError T) T.y_HostError T.s_NoSide_HostError
theorem kit_NoSide_NoBattle : PySem.W.kitOne K (.ref T.e_NoSide) (.ref T.e_NoBattle) = some false := kit_f (cl_NoBattle T) T.s_NoSide_NoSide T.s_NoSide_NoBattle
theorem kit_NoSide_NoPlan : PySem.W.kitOne K (.ref T.e_NoSide) (.ref T.e_NoPlan) = some false := kit_f (cl_NoPlan T) T.s_NoSide_NoSide T.s_NoSide_NoPlan
theorem kit_NoSide_NoMix : PySem.W.kitOne K (.ref T.e_NoSide) (.ref T.e_NoMix) = some false := kit_f (cl_NoMix T) T.s_NoSide_NoSide T.s_NoSide_NoMix
theorem kit_NoSide_NoStream : PySem.W.kitOne K (.ref T.e_NoSide) (.ref T.e_NoStream) = some false := kit_f (cl_NoStream T) T.s_NoSide_NoSide T.s_NoSide_NoStream
theorem kit_NoSide_NoSide : PySem.W.kitOne K (.ref T.e_NoSide) (.ref T.e_NoSide) = some true := kit_t (cl_NoSide T) T.s_NoSide_NoSide
theorem exm_NoSide_NoSide : PySem.W.exmOne K (.ref T.e_NoSide) (.ref T.e_NoSide) = some true := exm_t (cl_NoSide T) T.y_NoSide T.s_NoSide_NoSide
theorem kit_NoSide_NoAlike : PySem.W.kitOne K (.ref T.e_NoSide) (.ref T.e_NoAlike) = some false := kit_f (cl_NoAlike T) T.s_NoSide_NoSide T.s_NoSide_NoAlike
theorem kit_NoSide_NoNumber : PySem.W.kitOne K (.ref T.e_NoSide) (.ref T.e_NoNumber) = some false := kit_f (cl_NoNumber T) T.s_NoSide_NoSide T.s_NoSide_NoNumber
theorem exc_NoBattle : L2.ExcC K T.e_NoBattle := ⟨T.hg_NoBattle, T.hk_NoBattle, T.y_NoBattle, T.hd_NoBattle, T.ha_NoBattle, T.ho_n, T.ho_t, T.hm_NoBattle⟩
theorem kit_NoBattle_ValueError : PySem.W.kitOne K (.ref T.e_NoBattle) (.type "ValueError") = some true := kit_v T.v_NoBattle (by decide +kernel)
theorem kit_NoBattle_HostError : PySem.W.kitOne K (.ref T.e_NoBattle) (.ref T.e_HostError) = some true := kit_t (cl_HostError T) T.s_NoBattle_HostError
theorem exm_NoBattle_HostError : PySem.W.exmOne K (.ref T.e_NoBattle) (.ref T.e_HostError) = some true := exm_t (cl_HostError T) T.y_HostError T.s_NoBattle_HostError
theorem kit_NoBattle_NoBattle : PySem.W.kitOne K (.ref T.e_NoBattle) (.ref T.e_NoBattle) = some true := kit_t (cl_NoBattle T) T.s_NoBattle_NoBattle
theorem exm_NoBattle_NoBattle : PySem.W.exmOne K (.ref T.e_NoBattle) (.ref T.e_NoBattle) = some true := exm_t (cl_NoBattle T) T.y_NoBattle T.s_NoBattle_NoBattle
theorem kit_NoBattle_NoPlan : PySem.W.kitOne K (.ref T.e_NoBattle) (.ref T.e_NoPlan) = some false := kit_f (cl_NoPlan T) T.s_NoBattle_NoBattle T.s_NoBattle_NoPlan
theorem kit_NoBattle_NoMix : PySem.W.kitOne K (.ref T.e_NoBattle) (.ref T.e_NoMix) = some false := kit_f (cl_NoMix T) T.s_NoBattle_NoBattle T.s_NoBattle_NoMix
theorem kit_NoBattle_NoStream : PySem.W.kitOne K (.ref T.e_NoBattle) (.ref T.e_NoStream) = some false := kit_f (cl_NoStream T) T.s_NoBattle_NoBattle T.s_NoBattle_NoStream
theorem kit_NoBattle_NoSide : PySem.W.kitOne K (.ref T.e_NoBattle) (.ref T.e_NoSide) = some false := kit_f (cl_NoSide T) T.s_NoBattle_NoBattle T.s_NoBattle_NoSide
theorem kit_NoBattle_NoAlike : PySem.W.kitOne K (.ref T.e_NoBattle) (.ref T.e_NoAlike) = some false := kit_f (cl_NoAlike T) T.s_NoBattle_NoBattle T.s_NoBattle_NoAlike
theorem kit_NoBattle_NoNumber : PySem.W.kitOne K (.ref T.e_NoBattle) (.ref T.e_NoNumber) = some false := kit_f (cl_NoNumber T) T.s_NoBattle_NoBattle T.s_NoBattle_NoNumber
end
local macro_rules | `(tactic| walk_at "g_oex") => `(tactic| first | (with_reducible exact Txt.O_NoBattle _))
local macro_rules | `(tactic| walk_at "g_nof") => `(tactic| first | (with_reducible exact Txt.no_NoBattle_field _))
local macro_rules | `(tactic| walk_at "g_kit") => `(tactic| first | (with_reducible exact kit_NoPlan_ValueError _) | (with_reducible exact kit_NoPlan_HostError _) | (with_reducible exact kit_NoPlan_NoBattle _) | (with_reducible exact kit_NoPlan_NoPlan _) | (with_reducible exact kit_NoPlan_NoMix _) | (with_reducible exact kit_NoPlan_NoStream _) | (with_reducible exact kit_NoPlan_NoSide _) | (with_reducible exact kit_NoPlan_NoAlike _) | (with_reducible exact kit_NoPlan_NoNumber _) | (with_reducible exact kit_NoSide_ValueError _) | (with_reducible exact kit_NoSide_HostError _) | (with_reducible exact kit_NoSide_NoBattle _) | (with_reducible exact kit_NoSide_NoPlan _) | (with_reducible exact kit_NoSide_NoMix _) | (with_reducible exact kit_NoSide_NoStream _) | (with_reducible exact kit_NoSide_NoSide _) | (with_reducible exact kit_NoSide_NoAlike _) | (with_reducible exact kit_NoSide_NoNumber _) | (with_reducible exact kit_NoBattle_ValueError _) | (with_reducible exact kit_NoBattle_HostError _) | (with_reducible exact kit_NoBattle_NoBattle _) | (with_reducible exact kit_NoBattle_NoPlan _) | (with_reducible exact kit_NoBattle_NoMix _) | (with_reducible exact kit_NoBattle_NoStream _) | (with_reducible exact kit_NoBattle_NoSide _) | (with_reducible exact kit_NoBattle_NoAlike _) | (with_reducible exact kit_NoBattle_NoNumber _))
local macro_rules | `(tactic| walk_at "g_exc") => `(tactic| first | (with_reducible exact exc_NoPlan _) | (with_reducible exact exc_NoSide _) | (with_reducible exact exc_NoBattle _))
local macro_rules | `(tactic| walk_at "g_exm") => `(tactic| first | (with_reducible exact exm_NoPlan_HostError _) | (with_reducible exact exm_NoPlan_NoPlan _) | (with_reducible exact exm_NoSide_HostError _) | (with_reducible exact exm_NoSide_NoSide _) | (with_reducible exact exm_NoBattle_HostError _) | (with_reducible exact exm_NoBattle_NoBattle _))
def sp_l_mix (K : PySem.W.Frag) : Sp := fun vs H Q E => ∃ (n c : Int), vs = [.int n, .int c] ∧ (0 ≤ n ∧ n < 2147483629) ∧ (0 ≤ c ∧ c ≤ 1000000) ∧ ∀ (r : Int), (0 ≤ r ∧ r < 2147483587) → Q (.int r) H
theorem use_l_mix {K : PySem.W.Frag} {H : Hp} {Q : VK} {E : XK} {n c : Int} (p0 : 0 ≤ n ∧ n < 2147483629) (p1 : 0 ≤ c ∧ c ≤ 1000000) (k : ∀ (r : Int), (0 ≤ r ∧ r < 2147483587) → Q (.int r) H) : sp_l_mix K [.int n, .int c] H Q E := ⟨n, c, rfl, p0, p1, k⟩
theorem len_l_mix {K : PySem.W.Frag} (vs : List V) (H : Hp) (Q : VK) (E : XK) (h : sp_l_mix K vs H Q E) : vs.length = ["_law_number", "_law_k"].length := by
  obtain ⟨_, _, rfl, _⟩ := h
  rfl
local macro_rules | `(tactic| walk_at "g_call") => `(tactic| ((with_reducible refine' use_l_mix ?c0 ?c1 ?_); (case c0 => walk_at "g_pre"); (case c1 => walk_at "g_pre"); intros))
theorem ok_l_mix (T : Txt K mg) : FnOk P w K mg base CX0 1 T.a_l_mix T.d_l_mix ["_law_number", "_law_k"] (sp_l_mix K) := by
  refine T.F_l_mix.ok sc_l_mix len_l_mix (fun cdv A outer s H vs Q E hr h => ?_)
  refine ⟨_, (pss_cons (ps_set (i := 2) sc_l_mix.nd rfl (Or.inl rfl) (pe_op op_mod (pe_op op_mulA (pe_op op_add (pe_op op_add (pe_op op_mulA (pv 0) (pv 0)) (pe_op op_mulA (pv 1) (pv 0))) (pe_op op_mulA (pe_op op_mulA pe_int (pv 1)) (pv 1))) pe_int) pe_int))
      (pss_one (ps_ret (pe_op op_mod (pe_op op_mulA (pv 2) (pv 2)) pe_int)))), ?_⟩
  try dsimp only [L2.cxOf, L2.Cx.nox, L2.Cx.wish, List.map_cons, List.map_nil]
  obtain ⟨n, c, rfl, p0, p1, k⟩ := h
  refine start_to (σ := [some _, some _, none]) rfl ?_
  walk_at "go"
  refine k _ ?_
  omega
def sp_l_cell_at (K : PySem.W.Frag) : Sp := fun vs H Q E => ∃ (a : Addr) (z : Int), vs = [.ref a, .int 0] ∧ (H a = some (.lst [.int z])) ∧ Q (.int z) H
theorem use_l_cell_at {K : PySem.W.Frag} {H : Hp} {Q : VK} {E : XK} {a : Addr} {z : Int} (p0 : H a = some (.lst [.int z])) (k : Q (.int z) H) : sp_l_cell_at K [.ref a, .int 0] H Q E := ⟨a, z, rfl, p0, k⟩
theorem len_l_cell_at {K : PySem.W.Frag} (vs : List V) (H : Hp) (Q : VK) (E : XK) (h : sp_l_cell_at K vs H Q E) : vs.length = ["_law_script", "_law_k"].length := by
  obtain ⟨_, _, rfl, _⟩ := h
  rfl
local macro_rules | `(tactic| walk_at "g_call") => `(tactic| ((with_reducible refine' use_l_cell_at ?c0 ?_); (case c0 => walk_at "g_pre"); intros))
theorem ok_l_cell_at (T : Txt K mg) : FnOk P w K mg base CX0 1 T.a_l_cell_at T.d_l_cell_at ["_law_script", "_law_k"] (sp_l_cell_at K) := by
  refine T.F_l_cell_at.ok sc_l_cell_at len_l_cell_at (fun cdv A outer s H vs Q E hr h => ?_)
  refine ⟨_, (pss_cons (ps_if (pt_cmpR op_lt (pv 1) (pe_callB (call_lenK K rfl) (by rfl) T.z_len (by decide +kernel) (pa_cons (pv 0) pa_nil)) (nomark _)) (pss_one (ps_ret (pe_ix (ix_listK K rfl) (pv 0) (pv 1) (fun _ _ => rfl)))) pss_nil)
      (pss_one (ps_ret pe_int))), ?_⟩
  try dsimp only [L2.cxOf, L2.Cx.nox, L2.Cx.wish, List.map_cons, List.map_nil]
  obtain ⟨a, z, rfl, p0, k⟩ := h
  refine start_to (σ := [some _, some _]) rfl ?_
  walk_at "go"
  exact k
def sp_l_left (K : PySem.W.Frag) : Sp := fun vs H Q E => ∃ (a : Addr) (z : Int), vs = [.ref a, .int 0] ∧ (H a = some (.lst [.int z])) ∧ ∀ (m : Int) (p : Addr) (H' : Hp), (Pk p m H' 0) → (Same H H') → (H p = none) → Q (.ref p) H'
theorem use_l_left {K : PySem.W.Frag} {H : Hp} {Q : VK} {E : XK} {a : Addr} {z : Int} (p0 : H a = some (.lst [.int z])) (k : ∀ (m : Int) (p : Addr) (H' : Hp), (Pk p m H' 0) → (Same H H') → (H p = none) → Q (.ref p) H') : sp_l_left K [.ref a, .int 0] H Q E := ⟨a, z, rfl, p0, k⟩
theorem len_l_left {K : PySem.W.Frag} (vs : List V) (H : Hp) (Q : VK) (E : XK) (h : sp_l_left K vs H Q E) : vs.length = ["_law_script", "_law_k"].length := by
  obtain ⟨_, _, rfl, _⟩ := h
  rfl
local macro_rules | `(tactic| walk_at "g_call") => `(tactic| ((with_reducible refine' use_l_left ?c0 ?_); (case c0 => walk_at "g_pre"); intros))
theorem ok_l_left (T : Txt K mg) : FnOk P w K mg base CX0 2 T.a_l_left T.d_l_left ["_law_script", "_law_k"] (sp_l_left K) := by
  have G_l_cell_at := ok_l_cell_at (P := P) (w := w) (base := base) T
  refine T.F_l_left.ok sc_l_left len_l_left (fun cdv A outer s H vs Q E hr h => ?_)
  refine ⟨_, (pss_cons (ps_set (i := 2) sc_l_left.nd rfl (Or.inl rfl) (pe_call G_l_cell_at (hr.mono (by first | decide | omega)) (by rfl) T.g_l_cell_at T.F_l_cell_at.kp T.b_l_cell_at .nil pass0 (pa_cons (pv 0) (pa_cons (pv 1) pa_nil))))
      (pss_cons (ps_if (pt_cmpR op_lt (pv 2) (pe_op op_pow pe_int pe_int) (nomark _)) (pss_one (ps_ret (pe_lst (pa_cons (pe_op op_mod (pv 2) pe_int) (pa_cons pe_int (pa_cons pe_int pa_nil)))))) pss_nil)
      (pss_one (ps_ret (pe_lst (pa_cons (pe_op op_sub (pv 2) (pe_op op_pow pe_int pe_int)) (pa_cons pe_int (pa_cons pe_int pa_nil)))))))), ?_⟩
  try dsimp only [L2.cxOf, L2.Cx.nox, L2.Cx.wish, List.map_cons, List.map_nil]
  obtain ⟨a, z, rfl, p0, k⟩ := h
  refine start_to (σ := [some _, some _, none]) rfl ?_
  walk_at "go"
  refine ite_d (fun c1 => ?_) (fun c1 => ?_)
  · walk_at "go"
    exact k _ _ _ (pk_new (.inr ⟨rfl, by omega⟩)) (by walk_at "g_same") (by assumption)
  · walk_at "go"
    exact k _ _ _ (pk_new (.inl rfl)) (by walk_at "g_same") (by assumption)
def sp_l_draw (K : PySem.W.Frag) : Sp := fun vs H Q E => ∃ (a : Addr) (m c b : Int), vs = [.ref a, .int b] ∧ (Pk a m H c) ∧ (c ≤ 100000) ∧ (0 < b ∧ b < 2 ^ 200) ∧ ∀ (d : Int) (H' : Hp), (0 ≤ d ∧ d < b) → (Pk a m H' (c + 4)) → (But a H H') → Q (.int d) H'
theorem use_l_draw {K : PySem.W.Frag} {H : Hp} {Q : VK} {E : XK} {a : Addr} {m c b : Int} (p0 : Pk a m H c) (p1 : c ≤ 100000) (p2 : 0 < b ∧ b < 2 ^ 200) (k : ∀ (d : Int) (H' : Hp), (0 ≤ d ∧ d < b) → (Pk a m H' (c + 4)) → (But a H H') → Q (.int d) H') : sp_l_draw K [.ref a, .int b] H Q E := ⟨a, m, c, b, rfl, p0, p1, p2, k⟩
theorem len_l_draw {K : PySem.W.Frag} (vs : List V) (H : Hp) (Q : VK) (E : XK) (h : sp_l_draw K vs H Q E) : vs.length = ["_law_left_here", "_law_base"].length := by
  obtain ⟨_, _, _, _, rfl, _⟩ := h
  rfl
local macro_rules | `(tactic| walk_at "g_call") => `(tactic| ((with_reducible refine' use_l_draw ?c0 ?c1 ?c2 ?_); (case c0 => walk_at "g_pre"); (case c1 => walk_at "g_pre"); (case c2 => walk_at "g_pre"); intros))
theorem ok_l_draw (T : Txt K mg) : FnOk P w K mg base CX0 2 T.a_l_draw T.d_l_draw ["_law_left_here", "_law_base"] (sp_l_draw K) := by
  have G_l_mix := ok_l_mix (P := P) (w := w) (base := base) T
  refine T.F_l_draw.ok sc_l_draw len_l_draw (fun cdv A outer s H vs Q E hr h => ?_)
  refine ⟨_, (pss_cons (ps_asg (pe_op op_add (pe_ix (ix_listK K rfl) (pv 0) pe_int (fun _ _ => rfl)) pe_int) (pg_sub (pv 0) pe_int set_list))
      (pss_cons (ps_if (pt_cmpR op_eq (pe_ix (ix_listK K rfl) (pv 0) pe_int (fun _ _ => rfl)) pe_int (nomark _)) (pss_cons (ps_set (i := 2) sc_l_draw.nd rfl (Or.inl rfl) (pe_call G_l_mix (hr.mono (by first | decide | omega)) (by rfl) T.g_l_mix T.F_l_mix.kp T.b_l_mix .nil pass0 (pa_cons (pe_ix (ix_listK K rfl) (pv 0) pe_int (fun _ _ => rfl)) (pa_cons (pe_ix (ix_listK K rfl) (pv 0) pe_int (fun _ _ => rfl)) pa_nil))))
      (pss_cons (ps_if (pt_cmpR op_gt (pv 1) (pe_op op_pow pe_int pe_int) (nomark _)) (pss_one (ps_ret (pe_op op_mod (pe_op op_mulA (pv 2) (pe_op op_add (pe_op op_pow (pe_call G_l_mix (hr.mono (by first | decide | omega)) (by rfl) T.g_l_mix T.F_l_mix.kp T.b_l_mix .nil pass0 (pa_cons (pe_ix (ix_listK K rfl) (pv 0) pe_int (fun _ _ => rfl)) (pa_cons (pe_op op_add (pe_ix (ix_listK K rfl) (pv 0) pe_int (fun _ _ => rfl)) pe_int) pa_nil))) pe_int) pe_int)) (pv 1)))) pss_nil)
      (pss_one (ps_ret (pe_op op_mod (pe_op op_mod (pe_op op_mulA (pv 2) (pe_op op_add (pv 2) pe_int)) pe_int) (pv 1)))))) pss_nil)
      (pss_cons (ps_set (i := 3) sc_l_draw.nd rfl (Or.inl rfl) (pe_op op_mod (pe_ix (ix_listK K rfl) (pv 0) pe_int (fun _ _ => rfl)) (pv 1)))
      (pss_cons (ps_asg (pe_op op_fdivA (pe_ix (ix_listK K rfl) (pv 0) pe_int (fun _ _ => rfl)) (pv 1)) (pg_sub (pv 0) pe_int set_list))
      (pss_one (ps_ret (pv 3))))))), ?_⟩
  try dsimp only [L2.cxOf, L2.Cx.nox, L2.Cx.wish, List.map_cons, List.map_nil]
  obtain ⟨a, m, c0, b, rfl, ⟨n, c, p0, p1, p2, p4⟩, p5, p3, k⟩ := h
  refine start_to (σ := [some _, some _, none, none]) rfl ?_
  walk_at "go"
  refine ite_d (fun c1 => ?_) (fun c1 => ?_)
  · rcases p1 with z | ⟨z, hn⟩
    · omega
    walk_at "go"
    rename_i x1 y1
    refine ite_d (fun c2 => ?_) (fun c2 => ?_)
    · walk_at "go"
      exact k _ _ ⟨Int.emod_nonneg _ (by omega), Int.emod_lt_of_pos _ (by omega)⟩ ⟨_, _, upd_same, .inr ⟨c1, hn⟩, by omega, by omega⟩ (by walk_at "g_but")
    · walk_at "go"
      exact k _ _ ⟨Int.emod_nonneg _ (by omega), Int.emod_lt_of_pos _ (by omega)⟩ ⟨_, _, upd_same, .inr ⟨c1, hn⟩, by omega, by omega⟩ (by walk_at "g_but")
  · rcases p1 with z | ⟨z, hn⟩
    · walk_at "go"
      exact k _ _ ⟨Int.emod_nonneg _ (by omega), Int.emod_lt_of_pos _ (by omega)⟩ ⟨_, _, upd_same, .inl z, by omega, by omega⟩ (by walk_at "g_but")
    · omega

def sp_l_some (K : PySem.W.Frag) : Sp := fun vs H Q E => ∃ (a : Addr) (m c : Int), vs = [.ref a] ∧ (Pk a m H c) ∧ (c ≤ 90000) ∧ ∀ (d : Int) (H' : Hp), (Sm d) → (Pk a m H' (c + 8)) → (But a H H') → Q (.int d) H'
theorem use_l_some {K : PySem.W.Frag} {H : Hp} {Q : VK} {E : XK} {a : Addr} {m c : Int} (p0 : Pk a m H c) (p1 : c ≤ 90000) (k : ∀ (d : Int) (H' : Hp), (Sm d) → (Pk a m H' (c + 8)) → (But a H H') → Q (.int d) H') : sp_l_some K [.ref a] H Q E := ⟨a, m, c, rfl, p0, p1, k⟩
theorem len_l_some {K : PySem.W.Frag} (vs : List V) (H : Hp) (Q : VK) (E : XK) (h : sp_l_some K vs H Q E) : vs.length = ["_law_left_here"].length := by
  obtain ⟨_, _, _, rfl, _⟩ := h
  rfl
local macro_rules | `(tactic| walk_at "g_call") => `(tactic| ((with_reducible refine' use_l_some ?c0 ?c1 ?_); (case c0 => walk_at "g_pre"); (case c1 => walk_at "g_pre"); intros))
theorem ok_l_some (T : Txt K mg) : FnOk P w K mg base CX0 3 T.a_l_some T.d_l_some ["_law_left_here"] (sp_l_some K) := by
  have G_l_draw := ok_l_draw (P := P) (w := w) (base := base) T
  refine T.F_l_some.ok sc_l_some len_l_some (fun cdv A outer s H vs Q E hr h => ?_)
  refine ⟨_, (pss_cons (ps_set (i := 1) sc_l_some.nd rfl (Or.inl rfl) (pe_ix (ix_listK K rfl) (pe_lst (pa_cons pe_int (pa_cons pe_int (pa_cons (pe_op op_pow pe_int pe_int) pa_nil)))) (pe_call G_l_draw (hr.mono (by first | decide | omega)) (by rfl) T.g_l_draw T.F_l_draw.kp T.b_l_draw .nil pass0 (pa_cons (pv 0) (pa_cons pe_int pa_nil))) (fun _ _ => rfl)))
      (pss_one (ps_ret (pe_op op_sub (pe_call G_l_draw (hr.mono (by first | decide | omega)) (by rfl) T.g_l_draw T.F_l_draw.kp T.b_l_draw .nil pass0 (pa_cons (pv 0) (pa_cons (pe_op op_add (pe_op op_mulA pe_int (pv 1)) pe_int) pa_nil))) (pv 1))))), ?_⟩
  try dsimp only [L2.cxOf, L2.Cx.nox, L2.Cx.wish, List.map_cons, List.map_nil]
  obtain ⟨a, m, c, rfl, p0, p1, k⟩ := h
  refine start_to (σ := [some _, none]) rfl ?_
  walk_at "go"
  rename_i r nr d1 H1 e1 e2 e3 v hv d2 H2 e4 e5 e6
  exact k _ _ ⟨by omega, by omega⟩ (e5.mono (by omega)) (by walk_at "g_but")
def sp_l_rule (K : PySem.W.Frag) : Sp := fun vs H Q E => ∃ (a : Addr) (m c f s : Int), vs = [.ref a, .int f, .int s] ∧ (Pk a m H c) ∧ (c ≤ 80000) ∧ (0 ≤ f ∧ f ≤ 10 ∧ 0 ≤ s ∧ s ≤ 10) ∧ ∀ (v : V) (fl : Fld) (G : Hp) (H' : Hp), (Dq G v (fldD fl)) → (FldOk f s fl ∧ FldSm fl) → (Newly H G) → (Same G H') → (Pk a m H' (c + 1500)) → (But a H H') → Q (v) H'
theorem use_l_rule {K : PySem.W.Frag} {H : Hp} {Q : VK} {E : XK} {a : Addr} {m c f s : Int} (p0 : Pk a m H c) (p1 : c ≤ 80000) (p2 : 0 ≤ f ∧ f ≤ 10 ∧ 0 ≤ s ∧ s ≤ 10) (k : ∀ (v : V) (fl : Fld) (G : Hp) (H' : Hp), (Dq G v (fldD fl)) → (FldOk f s fl ∧ FldSm fl) → (Newly H G) → (Same G H') → (Pk a m H' (c + 1500)) → (But a H H') → Q (v) H') : sp_l_rule K [.ref a, .int f, .int s] H Q E := ⟨a, m, c, f, s, rfl, p0, p1, p2, k⟩
theorem len_l_rule {K : PySem.W.Frag} (vs : List V) (H : Hp) (Q : VK) (E : XK) (h : sp_l_rule K vs H Q E) : vs.length = ["_law_left_here", "_law_first", "_law_second"].length := by
  obtain ⟨_, _, _, _, _, rfl, _⟩ := h
  rfl
local macro_rules | `(tactic| walk_at "g_call") => `(tactic| ((with_reducible refine' use_l_rule ?c0 ?c1 ?c2 ?_); (case c0 => walk_at "g_pre"); (case c1 => walk_at "g_pre"); (case c2 => walk_at "g_pre"); intros))
theorem ok_l_rule (T : Txt K mg) : FnOk P w K mg base CX0 4 T.a_l_rule T.d_l_rule ["_law_left_here", "_law_first", "_law_second"] (sp_l_rule K) := by
  have G_l_draw := ok_l_draw (P := P) (w := w) (base := base) T
  have G_l_some := ok_l_some (P := P) (w := w) (base := base) T
  refine T.F_l_rule.ok sc_l_rule len_l_rule (fun cdv A outer s H vs Q E hr h => ?_)
  refine ⟨_, (pss_cons (ps_set (i := 3) sc_l_rule.nd rfl (Or.inl rfl) (pe_call G_l_draw (hr.mono (by first | decide | omega)) (by rfl) T.g_l_draw T.F_l_draw.kp T.b_l_draw .nil pass0 (pa_cons (pv 0) (pa_cons pe_int pa_nil))))
      (pss_cons (ps_set (i := 4) sc_l_rule.nd rfl (Or.inl rfl) (pe_op op_add pe_int (pe_call G_l_draw (hr.mono (by first | decide | omega)) (by rfl) T.g_l_draw T.F_l_draw.kp T.b_l_draw .nil pass0 (pa_cons (pv 0) (pa_cons (pe_ix (ix_listK K rfl) (pe_lst (pa_cons pe_int (pa_cons pe_int (pa_cons (pe_op op_pow pe_int pe_int) pa_nil)))) (pe_call G_l_draw (hr.mono (by first | decide | omega)) (by rfl) T.g_l_draw T.F_l_draw.kp T.b_l_draw .nil pass0 (pa_cons (pv 0) (pa_cons pe_int pa_nil))) (fun _ _ => rfl)) pa_nil)))))
      (pss_cons (ps_if (pt_cmpR op_lt (pv 3) pe_int (nomark _)) (pss_one (ps_ret (pe_tup (pa_cons pe_str (pa_cons (pv 4) (pa_cons (pe_op op_sub (pe_call G_l_draw (hr.mono (by first | decide | omega)) (by rfl) T.g_l_draw T.F_l_draw.kp T.b_l_draw .nil pass0 (pa_cons (pv 0) (pa_cons (pe_op op_add (pe_op op_mulA pe_int (pv 4)) pe_int) pa_nil))) (pv 4)) pa_nil)))))) pss_nil)
      (pss_cons (ps_if (pt_cmpR op_eq (pv 3) pe_int (nomark _)) (pss_one (ps_ret (pe_tup (pa_cons pe_str (pa_cons (pv 4) (pa_cons (pe_op op_sub (pe_call G_l_draw (hr.mono (by first | decide | omega)) (by rfl) T.g_l_draw T.F_l_draw.kp T.b_l_draw .nil pass0 (pa_cons (pv 0) (pa_cons (pe_ix (ix_listK K rfl) (pe_lst (pa_cons pe_int (pa_cons pe_int pa_nil))) (pe_call G_l_draw (hr.mono (by first | decide | omega)) (by rfl) T.g_l_draw T.F_l_draw.kp T.b_l_draw .nil pass0 (pa_cons (pv 0) (pa_cons pe_int pa_nil))) (fun _ _ => rfl)) pa_nil))) pe_int) pa_nil)))))) pss_nil)
      (pss_cons (ps_if (pt_cmpR op_eq (pv 3) pe_int (nomark _)) (pss_one (ps_ret (pe_tup (pa_cons pe_str (pa_cons (pe_lc (own := [("_law_x", 5)]) rfl sc_l_rule.nd (pi_range1 rfl T.z_range (pa_cons (pe_op op_add (pv 1) pe_int) pa_nil)) (blkOk_by (own := [("_law_x", 5)]) (N := ["_law_left_here", "_law_first", "_law_second", "_law_kind", "_law_worth", "_law_x", "_law_y"]) (sc := defScope s_l_rule) (by decide +kernel)) (fun _ _ _ _ _ => (pg_name (i := 5) sc_l_rule.nd rfl (Or.inl rfl))) (fun _ _ _ _ _ => pts_nil) (fun _ _ _ _ _ => (pe_lc (own := [("_law_y", 6)]) rfl sc_l_rule.nd (pi_range1 rfl T.z_range (pa_cons (pe_op op_add (pv 2) pe_int) pa_nil)) (blkOk_by (own := [("_law_y", 6)]) (N := ["_law_left_here", "_law_first", "_law_second", "_law_kind", "_law_worth", "_law_x", "_law_y"]) (sc := (Hf.relS { kind := PySem.ScopeKind.function, names := [ (PySem.Str.ofString ".0", PySem.NameKind.local), (PySem.Str.ofString "_law_x", PySem.NameKind.local), (PySem.Str.ofString "range", PySem.NameKind.globalImplicit), (PySem.Str.ofString "_law_left_here", PySem.NameKind.free), (PySem.Str.ofString "_law_second", PySem.NameKind.free)], isGenerator := false, isCoroutine := false, more := [] : PySem.Scope } (defScope s_l_rule))) (by decide +kernel)) (fun _ _ _ _ _ => (pg_name (i := 6) sc_l_rule.nd rfl (Or.inl rfl))) (fun _ _ _ _ _ => pts_nil) (fun _ _ _ _ _ => (pe_op op_sub (pe_call G_l_draw (hr.mono (by first | decide | omega)) (by rfl) T.g_l_draw T.F_l_draw.kp T.b_l_draw .nil pass0 (pa_cons (pv 0) (pa_cons pe_int pa_nil))) pe_int))))) pa_nil))))) pss_nil)
      (pss_one (ps_ret (pe_tup (pa_cons pe_str (pa_cons (pe_lc (own := [("_law_x", 5)]) rfl sc_l_rule.nd (pi_range1 rfl T.z_range (pa_cons (pe_op op_add (pv 1) pe_int) pa_nil)) (blkOk_by (own := [("_law_x", 5)]) (N := ["_law_left_here", "_law_first", "_law_second", "_law_kind", "_law_worth", "_law_x", "_law_y"]) (sc := defScope s_l_rule) (by decide +kernel)) (fun _ _ _ _ _ => (pg_name (i := 5) sc_l_rule.nd rfl (Or.inl rfl))) (fun _ _ _ _ _ => pts_nil) (fun _ _ _ _ _ => (pe_lc (own := [("_law_y", 6)]) rfl sc_l_rule.nd (pi_range1 rfl T.z_range (pa_cons (pe_op op_add (pv 2) pe_int) pa_nil)) (blkOk_by (own := [("_law_y", 6)]) (N := ["_law_left_here", "_law_first", "_law_second", "_law_kind", "_law_worth", "_law_x", "_law_y"]) (sc := (Hf.relS { kind := PySem.ScopeKind.function, names := [ (PySem.Str.ofString ".0", PySem.NameKind.local), (PySem.Str.ofString "_law_x", PySem.NameKind.local), (PySem.Str.ofString "range", PySem.NameKind.globalImplicit), (PySem.Str.ofString "_law_left_here", PySem.NameKind.free), (PySem.Str.ofString "_law_second", PySem.NameKind.free)], isGenerator := false, isCoroutine := false, more := [] : PySem.Scope } (defScope s_l_rule))) (by decide +kernel)) (fun _ _ _ _ _ => (pg_name (i := 6) sc_l_rule.nd rfl (Or.inl rfl))) (fun _ _ _ _ _ => pts_nil) (fun _ _ _ _ _ => (pe_call G_l_some (hr.mono (by first | decide | omega)) (by rfl) T.g_l_some T.F_l_some.kp T.b_l_some .nil pass0 (pa_cons (pv 0) pa_nil)))))) pa_nil)))))))))), ?_⟩
  try dsimp only [L2.cxOf, L2.Cx.nox, L2.Cx.wish, List.map_cons, List.map_nil]
  obtain ⟨a, m, c, f, s, rfl, p0, p1, p2, k⟩ := h
  refine start_to (σ := [some _, some _, some _, none, none, none, none]) rfl ?_
  walk_at "go"
  rename_i d1 H1 e1 e2 e3 r nr d2 H2 e4 e5 e6 v hv w0 H3 e7 e8 e9
  generalize hw : 1 + w0 = w
  have hw1 : 1 ≤ w ∧ w ≤ 10000000000000000000000000000 := by omega
  have b3 : But a H H3 := by walk_at "g_but"
  have p3 : Pk a m H3 (c + 12) := e8.mono (by omega)
  clear e2 e3 e5 e6 e8 e9 nr e7 hv hw
  refine ite_d (fun c1 => ?_) (fun c1 => ?_)
  · walk_at "go"
    rename_i d3 H4 u1 u2 u3 q nq
    have hq : H q = none := by walk_at "g_free"
    exact k _ (.more w (d3 - w)) (fr [] H (upd H4 q _)) _ (more_mk (fr_lk0 hq upd_same)) ⟨⟨by omega, by omega, by omega⟩, ⟨by omega, by omega⟩, ⟨by omega, by omega⟩⟩ fr_newly fr_same (Pk.mono (by walk_at "g_pk") (by omega)) (by walk_at "g_but")
  walk_at "go"
  refine ite_d (fun c2 => ?_) (fun c2 => ?_)
  · walk_at "go"
    rename_i r nr d3 H4 u1 u2 u3 v2 hv2 d4 H5 u4 u5 u6 q nq
    have hq : H q = none := by walk_at "g_free"
    exact k _ (.lead w (d4 - 2)) (fr [] H (upd H5 q _)) _ (lead_mk (fr_lk0 hq upd_same)) ⟨show 1 ≤ w by omega, ⟨by omega, by omega⟩, ⟨by omega, by omega⟩⟩ fr_newly fr_same (Pk.mono (by walk_at "g_pk") (by omega)) (by walk_at "g_but")
  walk_at "go"
  refine ite_d (fun c3 => ?_) (fun c3 => ?_)
  · walk_at "go"
    intro D nD
    refine lcR_dq planD (fun r => (r.length : Int) = s + 1 ∧ ∀ x ∈ r, Sm x) 44 (by walk_at "g_pk") nD (by omega) ?_ ?_
    · intro i H4 Z Y hi hp hb hz
      walk_at "go"
      intro D2 nD2
      refine lcR_pk Sm 4 (by walk_at "g_pk") nD2 (by omega) ?_ ?_
      · intro j H5 Z2 Y2 hj hp2 hb2 hz2
        walk_at "go"
        rename_i d5 H6 u1 u2 u3
        exact hz2 _ _ ⟨by omega, by omega⟩ u2 u3
      · intro ms H5 h1 h2 h3 h4 h5
        walk_at "go"
        exact hz ms (.ref D2) (fr [] H4 H5) H5 ⟨by omega, h2⟩ (row_mk (fr_lk0 nD2 h3)) fr_newly fr_same (h4.mono (by omega)) h5
    · intro rs G H4 h1 h2 h3 h4 h5 h6 h7
      walk_at "go"
      rename_i q nq
      have hq : H q = none := by walk_at "g_free"
      have nG : Newly H G := h4.backP b3 p3
      exact k _ (.tab rs) (fr [] H (upd H4 q _)) _ (tab_mk' (fr_lk0 hq upd_same) (h3.same (nG.same (by walk_at "g_same")))) ⟨⟨by omega, fun r hr => (h2 r hr).1⟩, fun r hr => (h2 r hr).2⟩ fr_newly fr_same (Pk.mono (by walk_at "g_pk") (by omega)) (by walk_at "g_but")
  · walk_at "go"
    intro D nD
    refine lcR_dq planD (fun r => (r.length : Int) = s + 1 ∧ ∀ x ∈ r, Sm x) 88 (by walk_at "g_pk") nD (by omega) ?_ ?_
    · intro i H4 Z Y hi hp hb hz
      walk_at "go"
      intro D2 nD2
      refine lcR_pk Sm 8 (by walk_at "g_pk") nD2 (by omega) ?_ ?_
      · intro j H5 Z2 Y2 hj hp2 hb2 hz2
        walk_at "go"
        rename_i d5 H6 u1 u2 u3
        exact hz2 _ _ u1 u2 u3
      · intro ms H5 h1 h2 h3 h4 h5
        walk_at "go"
        exact hz ms (.ref D2) (fr [] H4 H5) H5 ⟨by omega, h2⟩ (row_mk (fr_lk0 nD2 h3)) fr_newly fr_same (h4.mono (by omega)) h5
    · intro rs G H4 h1 h2 h3 h4 h5 h6 h7
      walk_at "go"
      rename_i q nq
      have hq : H q = none := by walk_at "g_free"
      have nG : Newly H G := h4.backP b3 p3
      exact k _ (.tab rs) (fr [] H (upd H4 q _)) _ (tab_mk' (fr_lk0 hq upd_same) (h3.same (nG.same (by walk_at "g_same")))) ⟨⟨by omega, fun r hr => (h2 r hr).1⟩, fun r hr => (h2 r hr).2⟩ fr_newly fr_same (Pk.mono (by walk_at "g_pk") (by omega)) (by walk_at "g_but")
def sp_l_battle (K : PySem.W.Frag) : Sp := fun vs H Q E => ∃ (a : Addr) (m c u y : Int), vs = [.ref a, .int u, .int y] ∧ (Pk a m H c) ∧ (c ≤ 70000) ∧ (0 ≤ u ∧ u ≤ 10 ∧ 1 ≤ y ∧ y ≤ 5) ∧ ∀ (v : V) (f s : Int) (fs : List Fld) (G : Hp) (H' : Hp), (Dq G v (batD f s fs)) → (BatOk f s fs) → (f ≤ u ∧ s ≤ u ∧ fs.length ≤ y) → (∀ x ∈ fs, FldSm x) → (Newly H G) → (Same G H') → (Pk a m H' (c + 8000)) → (But a H H') → Q (v) H'
theorem use_l_battle {K : PySem.W.Frag} {H : Hp} {Q : VK} {E : XK} {a : Addr} {m c u y : Int} (p0 : Pk a m H c) (p1 : c ≤ 70000) (p2 : 0 ≤ u ∧ u ≤ 10 ∧ 1 ≤ y ∧ y ≤ 5) (k : ∀ (v : V) (f s : Int) (fs : List Fld) (G : Hp) (H' : Hp), (Dq G v (batD f s fs)) → (BatOk f s fs) → (f ≤ u ∧ s ≤ u ∧ fs.length ≤ y) → (∀ x ∈ fs, FldSm x) → (Newly H G) → (Same G H') → (Pk a m H' (c + 8000)) → (But a H H') → Q (v) H') : sp_l_battle K [.ref a, .int u, .int y] H Q E := ⟨a, m, c, u, y, rfl, p0, p1, p2, k⟩
theorem len_l_battle {K : PySem.W.Frag} (vs : List V) (H : Hp) (Q : VK) (E : XK) (h : sp_l_battle K vs H Q E) : vs.length = ["_law_left_here", "_law_most", "_law_fields"].length := by
  obtain ⟨_, _, _, _, _, rfl, _⟩ := h
  rfl
local macro_rules | `(tactic| walk_at "g_call") => `(tactic| ((with_reducible refine' use_l_battle ?c0 ?c1 ?c2 ?_); (case c0 => walk_at "g_pre"); (case c1 => walk_at "g_pre"); (case c2 => walk_at "g_pre"); intros))
theorem ok_l_battle (T : Txt K mg) : FnOk P w K mg base CX0 5 T.a_l_battle T.d_l_battle ["_law_left_here", "_law_most", "_law_fields"] (sp_l_battle K) := by
  have G_l_draw := ok_l_draw (P := P) (w := w) (base := base) T
  have G_l_rule := ok_l_rule (P := P) (w := w) (base := base) T
  refine T.F_l_battle.ok sc_l_battle len_l_battle (fun cdv A outer s H vs Q E hr h => ?_)
  refine ⟨_, (pss_cons (ps_set (i := 3) sc_l_battle.nd rfl (Or.inr rfl) (pe_call G_l_draw (hr.mono (by first | decide | omega)) (by rfl) T.g_l_draw T.F_l_draw.kp T.b_l_draw .nil pass0 (pa_cons (pv 0) (pa_cons (pe_op op_add (pv 1) pe_int) pa_nil))))
      (pss_cons (ps_set (i := 4) sc_l_battle.nd rfl (Or.inr rfl) (pe_call G_l_draw (hr.mono (by first | decide | omega)) (by rfl) T.g_l_draw T.F_l_draw.kp T.b_l_draw .nil pass0 (pa_cons (pv 0) (pa_cons (pe_op op_add (pv 1) pe_int) pa_nil))))
      (pss_one (ps_ret (pe_tup (pa_cons (pv 3) (pa_cons (pv 4) (pa_cons (pe_lc (own := [("_law_k", 5)]) rfl sc_l_battle.nd (pi_range1 rfl T.z_range (pa_cons (pe_op op_add pe_int (pe_call G_l_draw (hr.mono (by first | decide | omega)) (by rfl) T.g_l_draw T.F_l_draw.kp T.b_l_draw .nil pass0 (pa_cons (pv 0) (pa_cons (pv 2) pa_nil)))) pa_nil)) (blkOk_by (own := [("_law_k", 5)]) (N := ["_law_left_here", "_law_most", "_law_fields", "_law_first", "_law_second", "_law_k"]) (sc := defScope s_l_battle) (by decide +kernel)) (fun _ _ _ _ _ => (pg_name (i := 5) sc_l_battle.nd rfl (Or.inl rfl))) (fun _ _ _ _ _ => pts_nil) (fun _ _ _ _ _ => (pe_call G_l_rule (hr.mono (by first | decide | omega)) (by rfl) T.g_l_rule T.F_l_rule.kp T.b_l_rule .nil pass0 (pa_cons (pv 0) (pa_cons (pv 3) (pa_cons (pv 4) pa_nil)))))) pa_nil)))))))), ?_⟩
  try dsimp only [L2.cxOf, L2.Cx.nox, L2.Cx.wish, List.map_cons, List.map_nil]
  obtain ⟨a, m, c, u, y, rfl, p0, p1, p2, k⟩ := h
  refine start_to (σ := [some _, some _, some _, none, none, none]) rfl ?_
  walk_at "go"
  rename_i f H1 e1 e2 e3 s H2 e4 e5 e6 t H3 e7 e8 e9
  have b3 : But a H H3 := by walk_at "g_but"
  intro D nD
  refine lcR_dq fldD (fun x => FldOk f s x ∧ FldSm x) 1500 e8 nD (by omega) ?_ ?_
  · intro i H4 Z Y hi hp hb hz
    have hb0 : 0 ≤ f ∧ f ≤ 10 ∧ 0 ≤ s ∧ s ≤ 10 := by omega
    clear e2 e3 e5 e6 e8 e9
    walk_at "go"
    rename_i v fl G H5 u1 u2 u3 u4 u5 u6
    exact hz fl v G H5 u2 u1 u3 u4 u5 u6
  · intro fs G H4 h1 h2 h3 h4 h5 h6 h7
    have nG : Newly H G := h4.backP b3 e8
    clear e2 e3 e5 e6 e9
    walk_at "go"
    rename_i q nq
    have hq : H q = none := Pk.free nq (But.trans b3 h7) h6
    exact k _ f s fs (fr [] H (upd H4 q _)) _ (bat_mk' (fr_lk0 hq upd_same) (h3.same (nG.same (by walk_at "g_same")))) ⟨by omega, by omega, by omega, fun x hx => (h2 x hx).1⟩ (by omega) (fun x hx => (h2 x hx).2) fr_newly fr_same (Pk.mono (by walk_at "g_pk") (by omega)) (by walk_at "g_but")

def sp_l_deep (K : PySem.W.Frag) (n : Nat) : Sp := fun vs H Q E => ∃ (v : V) (d : PyData), vs = [v] ∧ (Dq H v d) ∧ (dep d < n ∧ wid d ≤ 1000) ∧ ∀ (w : V) (S : List Addr) (H' : Hp), (OwN H H' w d S) → (Same H H') → Q (w) H'
theorem use_l_deep {K : PySem.W.Frag} {n : Nat} {H : Hp} {Q : VK} {E : XK} {v : V} {d : PyData} (p0 : Dq H v d) (p1 : dep d < n ∧ wid d ≤ 1000) (k : ∀ (w : V) (S : List Addr) (H' : Hp), (OwN H H' w d S) → (Same H H') → Q (w) H') : sp_l_deep K n [v] H Q E := ⟨v, d, rfl, p0, p1, k⟩
theorem len_l_deep {K : PySem.W.Frag} {n : Nat} (vs : List V) (H : Hp) (Q : VK) (E : XK) (h : sp_l_deep K n vs H Q E) : vs.length = ["_law_thing"].length := by
  obtain ⟨_, _, rfl, _⟩ := h
  rfl
local macro_rules | `(tactic| walk_at "g_call") => `(tactic| ((with_reducible refine' use_l_deep ?c0 ?c1 ?_); (case c0 => walk_at "g_pre"); (case c1 => walk_at "g_pre"); intros))
theorem okn_l_deep (T : Txt K mg) (n : Nat) : FnOk P w K mg base CX0 n T.a_l_deep T.d_l_deep ["_law_thing"] (sp_l_deep K n) := by
  induction n with
  | zero => exact ⟨len_l_deep, fun A outer s H args us vs Q E hr he hb hv h => by
      obtain ⟨v, d, _, _, ⟨z, _⟩, _⟩ := h
      omega⟩
  | succ n ih =>
  have G_l_deep := ih
  refine T.F_l_deep.ok sc_l_deep len_l_deep (fun cdv A outer s H vs Q E hr h => ?_)
  refine ⟨_, (pss_cons (ps_if (pt_val (pe_callB (call_isXK K rfl) (by rfl) T.z_isinstance (by decide +kernel) (pa_cons (pv 0) (pa_cons (pe_bltn (v := .ty "list") rfl T.z_list (by decide +kernel) rfl) pa_nil)))) (pss_one (ps_ret (pe_lc (own := [("_law_part", 1)]) rfl sc_l_deep.nd (pi_listK K rfl (pv 0)) (blkOk_by (own := [("_law_part", 1)]) (N := ["_law_thing", "_law_part"]) (sc := defScope s_l_deep) (by decide +kernel)) (fun _ _ _ _ _ => (pg_name (i := 1) sc_l_deep.nd rfl (Or.inl rfl))) (fun _ _ _ _ _ => pts_nil) (fun _ _ _ _ _ => (pe_call G_l_deep (hr.mono (by first | decide | omega)) (by rfl) T.g_l_deep T.F_l_deep.kp T.b_l_deep .nil pass0 (pa_cons (pv 1) pa_nil)))))) pss_nil)
      (pss_cons (ps_if (pt_val (pe_callB (call_isXK K rfl) (by rfl) T.z_isinstance (by decide +kernel) (pa_cons (pv 0) (pa_cons (pe_bltn (v := .ty "tuple") rfl T.z_tuple (by decide +kernel) rfl) pa_nil)))) (pss_one (ps_ret (pe_callTy (call_tupleK K rfl) (by rfl) T.z_tuple (by decide +kernel) (pa_cons (pe_lc (own := [("_law_part", 1)]) rfl sc_l_deep.nd (pi_tupK K rfl (pv 0)) (blkOk_by (own := [("_law_part", 1)]) (N := ["_law_thing", "_law_part"]) (sc := defScope s_l_deep) (by decide +kernel)) (fun _ _ _ _ _ => (pg_name (i := 1) sc_l_deep.nd rfl (Or.inl rfl))) (fun _ _ _ _ _ => pts_nil) (fun _ _ _ _ _ => (pe_call G_l_deep (hr.mono (by first | decide | omega)) (by rfl) T.g_l_deep T.F_l_deep.kp T.b_l_deep .nil pass0 (pa_cons (pv 1) pa_nil)))) pa_nil)))) pss_nil)
      (pss_one (ps_ret (pv 0))))), ?_⟩
  try dsimp only [L2.cxOf, L2.Cx.nox, L2.Cx.wish, List.map_cons, List.map_nil]
  obtain ⟨v, d, rfl, p0, ⟨p1, p2⟩, k⟩ := h
  refine start_to (σ := [some _, none]) rfl ?_
  cases p0 with
  | non => walk_at "go"; exact k _ [] _ ⟨.non, List.nodup_nil, nofun⟩ (by walk_at "g_same")
  | bl b => walk_at "go"; exact k _ [] _ ⟨(.bl b), List.nodup_nil, nofun⟩ (by walk_at "g_same")
  | int i => walk_at "go"; exact k _ [] _ ⟨(.int i), List.nodup_nil, nofun⟩ (by walk_at "g_same")
  | str x => walk_at "go"; exact k _ [] _ ⟨(.str x), List.nodup_nil, nofun⟩ (by walk_at "g_same")
  | @lst a xs ds h q =>
    rw [dep] at p1
    rw [wid] at p2
    have hl := q.len
    walk_at "go"
    intro D nD
    refine lcL_own (xs := xs) (fun i => (ds[i]?).getD .none) nD (by omega) (SqL.of h) ?_ ?_
    · intro i x H2 Z Y hx hs hz
      obtain ⟨d, e, q2⟩ := q.get' hx
      have e1 := depA_mem (List.mem_of_getElem? e)
      have e2 := widA_mem (List.mem_of_getElem? e)
      have q3 := q2.same hs
      have b1 : dep d < n ∧ wid d ≤ 1000 := by omega
      walk_at "go"
      rename_i w S H3 u1 u2
      exact hz w S H3 (by rw [e]; exact u1) u2
    · intro S H2 h1 h4
      rw [hl, rng_get] at h1
      walk_at "go"
      exact k _ S _ h1 h4
  | @tup a xs ds h q =>
    rw [dep] at p1
    rw [wid] at p2
    have hl := q.len
    walk_at "go"
    intro D nD
    refine lcT_own (xs := xs) (fun i => (ds[i]?).getD .none) nD (by omega) (SqT.of h) ?_ ?_
    · intro i x H2 Z Y hx hs hz
      obtain ⟨d, e, q2⟩ := q.get' hx
      have e1 := depA_mem (List.mem_of_getElem? e)
      have e2 := widA_mem (List.mem_of_getElem? e)
      have q3 := q2.same hs
      have b1 : dep d < n ∧ wid d ≤ 1000 := by omega
      walk_at "go"
      rename_i w S H3 u1 u2
      exact hz w S H3 (by rw [e]; exact u1) u2
    · intro S H2 h1 h4
      rw [hl, rng_get] at h1
      obtain ⟨l, ys, e1, e2, e3⟩ := h1.dq.list_inv
      cases e1
      walk_at "go"
      rename_i t nt
      obtain ⟨S', o⟩ := h1.tupOf e2 nt
      exact k _ S' _ o (by walk_at "g_same")
theorem ok_l_deep (T : Txt K mg) : FnOk P w K mg base CX0 12 T.a_l_deep T.d_l_deep ["_law_thing"] (sp_l_deep K 12) := okn_l_deep T 12

def sp_NoBattle_init (K : PySem.W.Frag) (C : Addr) : Sp := fun vs H Q E => ∃ (x : Addr) (y : V), vs = [.ref x, y] ∧ (H x = some (exo x C none)) ∧ ∀ (dx : Addr), (H dx = none) → (dx ≠ x) → Q (.non) (upd (upd H dx (exd dx [(("field" : Str), y)])) x (exo x C (some dx)))
theorem use_NoBattle_init {K : PySem.W.Frag} {C : Addr} {H : Hp} {Q : VK} {E : XK} {x : Addr} {y : V} (p0 : H x = some (exo x C none)) (k : ∀ (dx : Addr), (H dx = none) → (dx ≠ x) → Q (.non) (upd (upd H dx (exd dx [(("field" : Str), y)])) x (exo x C (some dx)))) : sp_NoBattle_init K C [.ref x, y] H Q E := ⟨x, y, rfl, p0, k⟩
theorem len_NoBattle_init {K : PySem.W.Frag} {C : Addr} (vs : List V) (H : Hp) (Q : VK) (E : XK) (h : sp_NoBattle_init K C vs H Q E) : vs.length = ["self", "field"].length := by
  obtain ⟨_, _, rfl, _⟩ := h
  rfl
theorem ok_NoBattle_init (T : Txt K mg) : FnOk P w K mg base CX0 1 T.a_NoBattle_init T.d_NoBattle_init ["self", "field"] (sp_NoBattle_init K (T.e_NoBattle)) := by
  refine T.F_NoBattle_init.ok sc_NoBattle_init len_NoBattle_init (fun cdv A outer s H vs Q E hr h => ?_)
  refine ⟨_, (pss_cons (ps_expr (pe_hinit ⟨T.rd_HostError, T.ga_HostError⟩ T.fc_HostError rfl T.g_HostError (pa_cons (pv 0) (pa_cons pe_str pa_nil))))
      (pss_one (ps_ost (pv 0) (pv 1)))), ?_⟩
  try dsimp only [L2.cxOf, L2.Cx.nox, L2.Cx.wish, List.map_cons, List.map_nil]
  obtain ⟨x, y, rfl, p0, k⟩ := h
  refine start_to (σ := [some _, some _]) rfl ?_
  walk_at "go"
  exact k _ (by assumption) (by assumption)
local macro_rules | `(tactic| walk_at "g_val2") => `(tactic| first | ((with_reducible refine' Hf.i_mko1 ?s9 ?_); (case s9 => exact fun _ _ _ _ h q => use_NoBattle_init h q); intro _ _ _ _ _) | fail "mko1")
def sp_is_number (K : PySem.W.Frag) : Sp := fun vs H Q E => ∃ (v : V) (d : PyData), vs = [v] ∧ (Dq H v d) ∧ Q (.bl (isNumD d)) H
theorem use_is_number {K : PySem.W.Frag} {H : Hp} {Q : VK} {E : XK} {v : V} {d : PyData} (p0 : Dq H v d) (k : Q (.bl (isNumD d)) H) : sp_is_number K [v] H Q E := ⟨v, d, rfl, p0, k⟩
theorem len_is_number {K : PySem.W.Frag} (vs : List V) (H : Hp) (Q : VK) (E : XK) (h : sp_is_number K vs H Q E) : vs.length = ["thing"].length := by
  obtain ⟨_, _, rfl, _⟩ := h
  rfl
local macro_rules | `(tactic| walk_at "g_call") => `(tactic| ((with_reducible refine' use_is_number ?c0 ?_); (case c0 => walk_at "g_pre"); intros))
theorem use_is_number_i {K : PySem.W.Frag} {x : Int} {H : Hp} {Q : VK} {E : XK} (k : Q (.bl true) H) : sp_is_number K [.int x] H Q E := use_is_number (.int x) k
local macro_rules | `(tactic| walk_at "g_call") => `(tactic| (with_reducible refine' use_is_number_i ?_))
theorem ok_is_number (T : Txt K mg) : FnOk P w K mg base CX0 1 T.a_is_number T.d_is_number ["thing"] (sp_is_number K) := by
  refine T.F_is_number.ok sc_is_number len_is_number (fun cdv A outer s H vs Q E hr h => ?_)
  refine ⟨_, (pss_one (ps_ret (pe_and (pe_callB (call_isXK K rfl) (by rfl) T.z_isinstance (by decide +kernel) (pa_cons (pv 0) (pa_cons (pe_bltn (v := .ty "int") rfl T.z_int (by decide +kernel) rfl) pa_nil))) (pe_one (pe_not (pe_callB (call_isXK K rfl) (by rfl) T.z_isinstance (by decide +kernel) (pa_cons (pv 0) (pa_cons (pe_bltn (v := .ty "bool") rfl T.z_bool (by decide +kernel) rfl) pa_nil)))))))), ?_⟩
  try dsimp only [L2.cxOf, L2.Cx.nox, L2.Cx.wish, List.map_cons, List.map_nil]
  obtain ⟨v, d, rfl, p0, k⟩ := h
  refine start_to (σ := [some _]) rfl ?_
  cases p0 <;> (walk_at "go"; exact k)
def sp_are_numbers (K : PySem.W.Frag) : Sp := fun vs H Q E => ∃ (v : V) (d : PyData) (n : Int), vs = [v, .int n] ∧ (Dq H v d) ∧ (wid d ≤ 1000) ∧ ∀ (H' : Hp), (Same H H') → Q (.bl (areNumsD n d)) H'
theorem use_are_numbers {K : PySem.W.Frag} {H : Hp} {Q : VK} {E : XK} {v : V} {d : PyData} {n : Int} (p0 : Dq H v d) (p1 : wid d ≤ 1000) (k : ∀ (H' : Hp), (Same H H') → Q (.bl (areNumsD n d)) H') : sp_are_numbers K [v, .int n] H Q E := ⟨v, d, n, rfl, p0, p1, k⟩
theorem len_are_numbers {K : PySem.W.Frag} (vs : List V) (H : Hp) (Q : VK) (E : XK) (h : sp_are_numbers K vs H Q E) : vs.length = ["thing", "many"].length := by
  obtain ⟨_, _, _, rfl, _⟩ := h
  rfl
local macro_rules | `(tactic| walk_at "g_call") => `(tactic| ((with_reducible refine' use_are_numbers ?c0 ?c1 ?_); (case c0 => walk_at "g_pre"); (case c1 => walk_at "g_pre"); intros))
theorem ok_are_numbers (T : Txt K mg) : FnOk P w K mg base CX0 2 T.a_are_numbers T.d_are_numbers ["thing", "many"] (sp_are_numbers K) := by
  have G_is_number := ok_is_number (P := P) (w := w) (base := base) T
  refine T.F_are_numbers.ok sc_are_numbers len_are_numbers (fun cdv A outer s H vs Q E hr h => ?_)
  refine ⟨_, (pss_cons (ps_if (PW.pt (pw_or (pt_not (pt_val (pe_callB (call_isXK K rfl) (by rfl) T.z_isinstance (by decide +kernel) (pa_cons (pv 0) (pa_cons (pe_bltn (v := .ty "list") rfl T.z_list (by decide +kernel) rfl) pa_nil))))) (pw_or1 (pt_cmpR op_ne (pe_callB (call_lenK K rfl) (by rfl) T.z_len (by decide +kernel) (pa_cons (pv 0) pa_nil)) (pv 1) (nomark _))))) (pss_one (ps_ret pe_bl)) pss_nil)
      (pss_one (ps_ret (pe_cmpR op_eq (pe_callB (call_lenK K rfl) (by rfl) T.z_len (by decide +kernel) (pa_cons (pe_lc (own := [("number", 2)]) rfl sc_are_numbers.nd (pi_listK K rfl (pv 0)) (blkOk_by (own := [("number", 2)]) (N := ["thing", "many", "number"]) (sc := defScope s_are_numbers) (by decide +kernel)) (fun _ _ _ _ _ => (pg_name (i := 2) sc_are_numbers.nd rfl (Or.inl rfl))) (fun _ _ _ _ _ => (pts_one (pt_not (pt_val (pe_call G_is_number (hr.mono (by first | decide | omega)) (by rfl) T.g_is_number T.F_is_number.kp T.b_is_number .nil pass0 (pa_cons (pv 2) pa_nil)))))) (fun _ _ _ _ _ => (pv 2))) pa_nil)) pe_int (nomark _))))), ?_⟩
  try dsimp only [L2.cxOf, L2.Cx.nox, L2.Cx.wish, List.map_cons, List.map_nil]
  obtain ⟨v, d, n, rfl, p0, p1, k⟩ := h
  refine start_to (σ := [some _, some _, none]) rfl ?_
  cases p0 with
  | @lst a xs ds h q =>
    have hl := q.len
    rw [wid] at p1
    walk_at "go"
    refine ite_nd (fun c => ?_) (fun c => ?_)
    · have e : areNumsD n (.list ds) = false := by rw [areNumsD, decide_eq_false (by omega)]; rfl
      rw [e] at k
      walk_at "go"
      exact k _ (Same.refl _)
    · walk_at "go"
      intro D nD
      refine lcL_fl (xs := xs) (fun i => !((ds[i]?).map isNumD).getD true) nD (by omega) (SqL.of h) ?_ ?_
      · intro i x H2 Z Y hx hs hz hy
        obtain ⟨d, e1, e2⟩ := q.get' hx
        have e2' := e2.same hs
        walk_at "go"
        refine ite_b (fun e => ?_) (fun e => ?_)
        · walk_at "go"
          exact hz _ _ (by rw [e1]; exact e) (by walk_at "g_same")
        · exact hy _ (by rw [e1]; exact e) (by walk_at "g_same")
      · intro acc H2 hD hs hc ha
        walk_at "go"
        rw [len0_all hl hc]
        have e : areNumsD n (.list ds) = ds.all isNumD := by rw [areNumsD, decide_eq_true (by omega)]; rfl
        rw [e] at k
        exact k _ (by walk_at "g_same")
  | non => walk_at "go"; exact k _ (Same.refl _)
  | bl b => walk_at "go"; exact k _ (Same.refl _)
  | int i => walk_at "go"; exact k _ (Same.refl _)
  | str x => walk_at "go"; exact k _ (Same.refl _)
  | tup h q => walk_at "go"; exact k _ (Same.refl _)

def sp_is_rule (K : PySem.W.Frag) : Sp := fun vs H Q E => ∃ (a : Addr) (w : Str) (xs : List V) (ds : List PyData), vs = [.ref a] ∧ (H a = some (.tup (.str w :: xs))) ∧ (DqAll H xs ds) ∧ Q (.bl (isRuleD ds)) H
theorem use_is_rule {K : PySem.W.Frag} {H : Hp} {Q : VK} {E : XK} {a : Addr} {w : Str} {xs : List V} {ds : List PyData} (p0 : H a = some (.tup (.str w :: xs))) (p1 : DqAll H xs ds) (k : Q (.bl (isRuleD ds)) H) : sp_is_rule K [.ref a] H Q E := ⟨a, w, xs, ds, rfl, p0, p1, k⟩
theorem len_is_rule {K : PySem.W.Frag} (vs : List V) (H : Hp) (Q : VK) (E : XK) (h : sp_is_rule K vs H Q E) : vs.length = ["field"].length := by
  obtain ⟨_, _, _, _, rfl, _⟩ := h
  rfl
local macro_rules | `(tactic| walk_at "g_call") => `(tactic| ((with_reducible refine' use_is_rule ?c0 ?c1 ?_); (case c0 => walk_at "g_pre"); (case c1 => walk_at "g_pre"); intros))
theorem ok_is_rule (T : Txt K mg) : FnOk P w K mg base CX0 2 T.a_is_rule T.d_is_rule ["field"] (sp_is_rule K) := by
  have G_is_number := ok_is_number (P := P) (w := w) (base := base) T
  refine T.F_is_rule.ok sc_is_rule len_is_rule (fun cdv A outer s H vs Q E hr h => ?_)
  refine ⟨_, (pss_one (ps_ret (pe_and (pe_cmpR op_eq (pe_callB (call_lenK K rfl) (by rfl) T.z_len (by decide +kernel) (pa_cons (pv 0) pa_nil)) pe_int (nomark _)) (pe_and (pe_call G_is_number (hr.mono (by first | decide | omega)) (by rfl) T.g_is_number T.F_is_number.kp T.b_is_number .nil pass0 (pa_cons (pe_ix (ix_tupK K rfl) (pv 0) pe_int (fun _ _ => rfl)) pa_nil)) (pe_and (pe_call G_is_number (hr.mono (by first | decide | omega)) (by rfl) T.g_is_number T.F_is_number.kp T.b_is_number .nil pass0 (pa_cons (pe_ix (ix_tupK K rfl) (pv 0) pe_int (fun _ _ => rfl)) pa_nil)) (pe_one (pe_cmpR op_ge (pe_ix (ix_tupK K rfl) (pv 0) pe_int (fun _ _ => rfl)) pe_int (nomark _)))))))), ?_⟩
  try dsimp only [L2.cxOf, L2.Cx.nox, L2.Cx.wish, List.map_cons, List.map_nil]
  obtain ⟨a, w, xs, ds, rfl, p0, p1, k⟩ := h
  refine start_to (σ := [some _]) rfl ?_
  cases p1 with
  | nil => walk_at "goO"; exact k
  | cons h1 q1 =>
    cases q1 with
    | nil =>
      walk_at "goO"
      rw [rule_short1] at k
      exact k
    | cons h2 q2 =>
      cases q2 with
      | nil =>
        walk_at "goO"
        refine ite_b (fun c1 => ?_) (fun c1 => ?_)
        · obtain ⟨x, rfl⟩ := num_inv c1
          obtain rfl := h1.int_inv
          walk_at "go"
          refine ite_b (fun c2 => ?_) (fun c2 => ?_)
          · obtain ⟨y, rfl⟩ := num_inv c2
            obtain rfl := h2.int_inv
            walk_at "go"
            exact k
          · rw [rule_no2 c2] at k
            exact k
        · rw [rule_no1 c1] at k
          exact k
      | cons h3 q3 =>
        walk_at "goO"
        rw [rule_long] at k
        exact k
def sp_is_field (K : PySem.W.Frag) : Sp := fun vs H Q E => ∃ (a : Addr) (w : Str) (xs : List V) (ds : List PyData) (f s : Int), vs = [.ref a, .int f, .int s] ∧ (H a = some (.tup (.str w :: xs))) ∧ (DqAll H xs ds) ∧ (wid (.tuple ds) ≤ 1000) ∧ (0 ≤ f ∧ f ≤ 10 ∧ 0 ≤ s ∧ s ≤ 10) ∧ ∀ (H' : Hp), (Same H H') → Q (.bl (isFieldD f s w ds)) H'
theorem use_is_field {K : PySem.W.Frag} {H : Hp} {Q : VK} {E : XK} {a : Addr} {w : Str} {xs : List V} {ds : List PyData} {f s : Int} (p0 : H a = some (.tup (.str w :: xs))) (p1 : DqAll H xs ds) (p2 : wid (.tuple ds) ≤ 1000) (p3 : 0 ≤ f ∧ f ≤ 10 ∧ 0 ≤ s ∧ s ≤ 10) (k : ∀ (H' : Hp), (Same H H') → Q (.bl (isFieldD f s w ds)) H') : sp_is_field K [.ref a, .int f, .int s] H Q E := ⟨a, w, xs, ds, f, s, rfl, p0, p1, p2, p3, k⟩
theorem len_is_field {K : PySem.W.Frag} (vs : List V) (H : Hp) (Q : VK) (E : XK) (h : sp_is_field K vs H Q E) : vs.length = ["field", "first", "second"].length := by
  obtain ⟨_, _, _, _, _, _, rfl, _⟩ := h
  rfl
local macro_rules | `(tactic| walk_at "g_call") => `(tactic| ((with_reducible refine' use_is_field ?c0 ?c1 ?c2 ?c3 ?_); (case c0 => walk_at "g_pre"); (case c1 => walk_at "g_pre"); (case c2 => walk_at "g_pre"); (case c3 => walk_at "g_pre"); intros))
theorem ok_is_field (T : Txt K mg) : FnOk P w K mg base CX0 3 T.a_is_field T.d_is_field ["field", "first", "second"] (sp_is_field K) := by
  have G_is_rule := ok_is_rule (P := P) (w := w) (base := base) T
  have G_are_numbers := ok_are_numbers (P := P) (w := w) (base := base) T
  refine T.F_is_field.ok sc_is_field len_is_field (fun cdv A outer s H vs Q E hr h => ?_)
  refine ⟨_, (pss_cons (ps_if (pt_cmpR op_eq (pe_callB (call_lenK K rfl) (by rfl) T.z_len (by decide +kernel) (pa_cons (pv 0) pa_nil)) pe_int (nomark _)) (pss_one (ps_ret pe_bl)) pss_nil)
      (pss_cons (ps_if (pt_cmpR op_eq (pe_ix (ix_tupK K rfl) (pv 0) pe_int (fun _ _ => rfl)) pe_str (nomark _)) (pss_one (ps_ret (pe_and (pe_call G_is_rule (hr.mono (by first | decide | omega)) (by rfl) T.g_is_rule T.F_is_rule.kp T.b_is_rule .nil pass0 (pa_cons (pv 0) pa_nil)) (pe_and (pe_cmpR op_le (pe_op op_sub pe_int (pe_ix (ix_tupK K rfl) (pv 0) pe_int (fun _ _ => rfl))) (pe_ix (ix_tupK K rfl) (pv 0) pe_int (fun _ _ => rfl)) (nomark _)) (pe_one (pe_cmpR op_le (pe_ix (ix_tupK K rfl) (pv 0) pe_int (fun _ _ => rfl)) (pe_ix (ix_tupK K rfl) (pv 0) pe_int (fun _ _ => rfl)) (nomark _))))))) pss_nil)
      (pss_cons (ps_if (pt_cmpR op_eq (pe_ix (ix_tupK K rfl) (pv 0) pe_int (fun _ _ => rfl)) pe_str (nomark _)) (pss_one (ps_ret (pe_call G_is_rule (hr.mono (by first | decide | omega)) (by rfl) T.g_is_rule T.F_is_rule.kp T.b_is_rule .nil pass0 (pa_cons (pv 0) pa_nil)))) pss_nil)
      (pss_cons (ps_if (PW.pt (pw_or (pt_cmpR op_ne (pe_ix (ix_tupK K rfl) (pv 0) pe_int (fun _ _ => rfl)) pe_str (nomark _)) (pw_or (pt_cmpR op_ne (pe_callB (call_lenK K rfl) (by rfl) T.z_len (by decide +kernel) (pa_cons (pv 0) pa_nil)) pe_int (nomark _)) (pw_or (pt_not (pt_val (pe_callB (call_isXK K rfl) (by rfl) T.z_isinstance (by decide +kernel) (pa_cons (pe_ix (ix_tupK K rfl) (pv 0) pe_int (fun _ _ => rfl)) (pa_cons (pe_bltn (v := .ty "list") rfl T.z_list (by decide +kernel) rfl) pa_nil))))) (pw_or1 (pt_cmpR op_ne (pe_callB (call_lenK K rfl) (by rfl) T.z_len (by decide +kernel) (pa_cons (pe_ix (ix_tupK K rfl) (pv 0) pe_int (fun _ _ => rfl)) pa_nil)) (pe_op op_add (pv 1) pe_int) (nomark _))))))) (pss_one (ps_ret pe_bl)) pss_nil)
      (pss_one (ps_ret (pe_cmpR op_eq (pe_callB (call_lenK K rfl) (by rfl) T.z_len (by decide +kernel) (pa_cons (pe_lc (own := [("row", 3)]) rfl sc_is_field.nd (pi_listK K rfl (pe_ix (ix_tupK K rfl) (pv 0) pe_int (fun _ _ => rfl))) (blkOk_by (own := [("row", 3)]) (N := ["field", "first", "second", "row"]) (sc := defScope s_is_field) (by decide +kernel)) (fun _ _ _ _ _ => (pg_name (i := 3) sc_is_field.nd rfl (Or.inl rfl))) (fun _ _ _ _ _ => (pts_one (pt_not (pt_val (pe_call G_are_numbers (hr.mono (by first | decide | omega)) (by rfl) T.g_are_numbers T.F_are_numbers.kp T.b_are_numbers .nil pass0 (pa_cons (pv 3) (pa_cons (pe_op op_add (pv 2) pe_int) pa_nil))))))) (fun _ _ _ _ _ => (pv 3))) pa_nil)) pe_int (nomark _)))))))), ?_⟩
  try dsimp only [L2.cxOf, L2.Cx.nox, L2.Cx.wish, List.map_cons, List.map_nil]
  obtain ⟨a, w, xs, ds, f, s, rfl, p0, p1, p2, p3, k⟩ := h
  refine start_to (σ := [some _, some _, some _, none]) rfl ?_
  have hl := p1.len
  rw [wid] at p2
  walk_at "goO"
  by_cases c1 : w = PySem.Str.ofString "more"
  · have e : isFieldD f s w ds = isMoreD ds := if_pos c1
    rw [e] at k
    refine ite_y (by simp [c1]) ?_
    walk_at "go"
    refine ite_b (fun c => ?_) (fun c => ?_)
    · obtain ⟨x, y, rfl, hx⟩ := rule_inv c
      obtain rfl := dq_two_ints p1
      walk_at "go"
      refine ite_d (fun c2 => ?_) (fun c2 => ?_)
      · walk_at "go"
        rw [more_yes hx c2] at k
        exact k _ (Same.refl _)
      · rw [more_no c2] at k
        exact k _ (Same.refl _)
    · rw [more_rule c] at k
      exact k _ (Same.refl _)
  · refine ite_n (by simp [c1]) ?_
    walk_at "go"
    by_cases c2 : w = PySem.Str.ofString "lead"
    · have e : isFieldD f s w ds = isRuleD ds := by rw [isFieldD, if_neg c1, if_pos c2]
      rw [e] at k
      refine ite_y (by simp [c2]) ?_
      walk_at "go"
      exact k _ (Same.refl _)
    · refine ite_n (by simp [c2]) ?_
      walk_at "go"
      by_cases c3 : w = PySem.Str.ofString "table"
      · have e : isFieldD f s w ds = isRowsD f s ds := by rw [isFieldD, if_neg c1, if_neg c2, if_pos c3]
        rw [e] at k
        refine ite_n (by simp [c3]) ?_
        walk_at "go"
        cases p1 with
        | nil =>
          walk_at "goO"
          exact k _ (Same.refl _)
        | cons h1 q1 =>
          cases q1 with
          | cons h2 q2 =>
            rw [rows_long] at k
            refine ite_y (by simp; try omega) ?_
            walk_at "goO"
            exact k _ (Same.refl _)
          | nil =>
            walk_at "goO"
            cases h1 with
            | @lst p rs ds h4 q4 =>
              have hl4 := q4.len
              walk_at "go"
              refine ite_nd (fun c => ?_) (fun c => ?_)
              · rw [rows_no (by omega)] at k
                walk_at "go"
                exact k _ (Same.refl _)
              · have p5 : ∀ d ∈ ds, wid d ≤ 1000 := fun d hd => by
                  have := widA_mem hd
                  simp only [widA, wid] at p2
                  omega
                walk_at "go"
                intro D nD
                refine lcL_fl (xs := rs) (fun i => !((ds[i]?).map (areNumsD (s + 1))).getD true) nD (by omega) (SqL.of h4) ?_ ?_
                · intro i x H2 Z Y hx hs hz hy
                  obtain ⟨d, e1, e2⟩ := q4.get' hx
                  have e2' := e2.same hs
                  have e3 := p5 d (List.mem_of_getElem? e1)
                  walk_at "go"
                  refine ite_b (fun e => ?_) (fun e => ?_)
                  · walk_at "go"
                    exact hz _ _ (by rw [e1]; exact e) (by walk_at "g_same")
                  · exact hy _ (by rw [e1]; exact e) (by walk_at "g_same")
                · intro acc H2 hD hs hc ha
                  walk_at "go"
                  rw [len0_all hl4 hc]
                  rw [rows_yes (by omega)] at k
                  exact k _ (by walk_at "g_same")
            | non => walk_at "go"; rw [rows_one (by rfl)] at k; exact k _ (Same.refl _)
            | bl b => walk_at "go"; rw [rows_one (by rfl)] at k; exact k _ (Same.refl _)
            | int i => walk_at "go"; rw [rows_one (by rfl)] at k; exact k _ (Same.refl _)
            | str x => walk_at "go"; rw [rows_one (by rfl)] at k; exact k _ (Same.refl _)
            | tup h q => walk_at "go"; rw [rows_one (by rfl)] at k; exact k _ (Same.refl _)
      · have e : isFieldD f s w ds = false := by rw [isFieldD, if_neg c1, if_neg c2, if_neg c3]
        rw [e] at k
        refine ite_y (by simp [c3]) ?_
        walk_at "go"
        exact k _ (Same.refl _)
def sp_look_battle (K : PySem.W.Frag) (e_NoBattle : Addr) : Sp := fun vs H Q E => ∃ (v : V) (f s : Int) (ds : List PyData), vs = [v] ∧ (Dq H v (batT f s ds)) ∧ ((∀ d ∈ ds, FldIn d)) ∧ (ds.length ≤ 1000) ∧ ((badB f s ds = none) → ∀ (H' : Hp), (Same H H') → Q (.non) H') ∧ (¬ (badB f s ds = none) → ∀ k d H', badB f s ds = some k → H d = none → H' d = some (.xd [(("field" : Str), .int k)]) → Same H H' → E (.ref e_NoBattle) (some d) H')
theorem use_look_battle {K : PySem.W.Frag} {e_NoBattle : Addr} {H : Hp} {Q : VK} {E : XK} {v : V} {f s : Int} {ds : List PyData} (p0 : Dq H v (batT f s ds)) (p1 : (∀ d ∈ ds, FldIn d)) (p2 : ds.length ≤ 1000) (k : (badB f s ds = none) → ∀ (H' : Hp), (Same H H') → Q (.non) H') (kx : ¬ (badB f s ds = none) → ∀ k d H', badB f s ds = some k → H d = none → H' d = some (.xd [(("field" : Str), .int k)]) → Same H H' → E (.ref e_NoBattle) (some d) H') : sp_look_battle K e_NoBattle [v] H Q E := ⟨v, f, s, ds, rfl, p0, p1, p2, k, kx⟩
theorem len_look_battle {K : PySem.W.Frag} {e_NoBattle : Addr} (vs : List V) (H : Hp) (Q : VK) (E : XK) (h : sp_look_battle K e_NoBattle vs H Q E) : vs.length = ["battle"].length := by
  obtain ⟨_, _, _, _, rfl, _⟩ := h
  rfl
local macro_rules | `(tactic| walk_at "g_call") => `(tactic| ((with_reducible refine' use_look_battle ?c0 ?c1 ?c2 ?kk ?kx); (case c0 => walk_at "g_pre"); (case c1 => walk_at "g_pre"); (case c2 => walk_at "g_pre"); first | ((case kx => (intro _; exfalso; walk_at "g_no")); intros) | ((case kk => (intro _; exfalso; walk_at "g_no")); intros) | skip))
theorem ok_look_battle (T : Txt K mg) : FnOk P w K mg base (L2.CX P w) 4 T.a_look_battle T.d_look_battle ["battle"] (sp_look_battle K T.e_NoBattle) := by
  have G_NoBattle_init := ok_NoBattle_init (P := P) (w := w) (base := base) T
  have G_is_field := ok_is_field (P := P) (w := w) (base := base) T
  refine T.F_look_battle.okX sc_look_battle len_look_battle (fun cdv A outer s H vs Q E hr h => ?_)
  refine ⟨_, (pss_cons (ps_asg (pv 0) (pg_tupK K rfl 3 rfl (pgs_cons (pg_name (i := 1) sc_look_battle.nd rfl (Or.inl rfl)) (pgs_cons (pg_name (i := 2) sc_look_battle.nd rfl (Or.inl rfl)) (pgs_cons (pg_name (i := 3) sc_look_battle.nd rfl (Or.inl rfl)) pgs_nil)))))
      (pss_cons (ps_if (PW.pt (pw_or (pt_cmpR op_lt (pe_callB (call_min2 rfl) (by rfl) T.z_min (by decide +kernel) (pa_cons (pv 1) (pa_cons (pv 2) pa_nil))) pe_int (nomark _)) (pw_or (pt_cmpR op_gt (pe_callB (call_max2 rfl) (by rfl) T.z_max (by decide +kernel) (pa_cons (pv 1) (pa_cons (pv 2) pa_nil))) (pe_glob (v := .int 10) rfl T.c_MOST_HOSTS ⟨_, rfl⟩) (nomark _)) (pw_or (pt_cmpR op_lt (pe_callB (call_lenK K rfl) (by rfl) T.z_len (by decide +kernel) (pa_cons (pv 3) pa_nil)) pe_int (nomark _)) (pw_or1 (pt_cmpR op_gt (pe_callB (call_lenK K rfl) (by rfl) T.z_len (by decide +kernel) (pa_cons (pv 3) pa_nil)) (pe_glob (v := .int 5) rfl T.c_MOST_FIELDS ⟨_, rfl⟩) (nomark _))))))) (pss_one (ps_raise rfl (takes_of rfl rfl rfl rfl) (pmk_oex (Txt.O_NoBattle T) T.ic_NoBattle T.ti_NoBattle G_NoBattle_init (hr.mono (by first | decide | omega)) T.b_NoBattle_init .nil pass0 rfl T.g_NoBattle (pa_cons (pe_un un_neg pe_int) pa_nil)))) pss_nil)
      (pss_one (ps_for (passes_of rfl) rfl (pi_range1 rfl T.z_range (pa_cons (pe_callB (call_lenK K rfl) (by rfl) T.z_len (by decide +kernel) (pa_cons (pv 3) pa_nil)) pa_nil)) (pg_name (i := 4) sc_look_battle.nd rfl (Or.inl rfl)) (pss_one (ps_if (pt_not (pt_val (pe_call G_is_field (hr.mono (by first | decide | omega)) (by rfl) T.g_is_field T.F_is_field.kp T.b_is_field .nil pass0 (pa_cons (pe_ix (ix_listK K rfl) (pv 3) (pv 4) (fun _ _ => rfl)) (pa_cons (pv 1) (pa_cons (pv 2) pa_nil)))))) (pss_one (ps_raise rfl (takes_of rfl rfl rfl rfl) (pmk_oex (Txt.O_NoBattle T) T.ic_NoBattle T.ti_NoBattle G_NoBattle_init (hr.mono (by first | decide | omega)) T.b_NoBattle_init .nil pass0 rfl T.g_NoBattle (pa_cons (pv 4) pa_nil)))) pss_nil)))))), ?_⟩
  try dsimp only [L2.cxOf, L2.Cx.nox, L2.Cx.wish, List.map_cons, List.map_nil]
  obtain ⟨v, f, s, ds, rfl, p0, p1, p2, k, kx⟩ := h
  obtain ⟨a, p, xs, rfl, h1, h2, h3⟩ := batT_inv p0
  have hl := h3.len
  refine start_to (σ := [some _, none, none, none, none]) rfl ?_
  walk_at "go"
  by_cases sz : f < 0 ∨ s < 0 ∨ 10 < f ∨ 10 < s ∨ ds.length < 1 ∨ 5 < ds.length
  · have e : badB f s ds = some (-1) := if_pos sz
    have fin : ∀ d H', H d = none → H' d = some (.xd [(("field" : Str), .int (-1))]) → Same H H' → E (.ref T.e_NoBattle) (some d) H' := fun d H' => kx (by rw [e]; simp) (-1) d H' e
    refine ite_d (fun c1 => ?_) (fun c1 => ?_)
    · walk_at "go"
      exact fin _ _ (by assumption) (by assumption) (by assumption)
    walk_at "go"
    refine ite_d (fun c2 => ?_) (fun c2 => ?_)
    · walk_at "go"
      exact fin _ _ (by assumption) (by assumption) (by assumption)
    walk_at "go"
    refine ite_d (fun c3 => ?_) (fun c3 => ?_)
    · walk_at "go"
      exact fin _ _ (by assumption) (by assumption) (by assumption)
    walk_at "go"
    refine ite_d (fun c4 => ?_) (fun c4 => ?_)
    · walk_at "go"
      exact fin _ _ (by assumption) (by assumption) (by assumption)
    · exfalso
      omega
  · have sz2 : 0 ≤ f ∧ f ≤ 10 ∧ 0 ≤ s ∧ s ≤ 10 ∧ 1 ≤ ds.length ∧ ds.length ≤ 5 := by omega
    have sz3 : 0 ≤ f ∧ f ≤ 10 ∧ 0 ≤ s ∧ s ≤ 10 := by omega
    walk_at "goO"
    refine forR (fun i σ H1 => ∃ y1, σ = [some (.ref a), some (.int f), some (.int s), some (.ref p), y1] ∧ Same H H1 ∧ ∀ (j : Nat) e, j < i → ds[j]? = some e → isFldT f s e = true) ⟨_, rfl, by walk_at "g_same", by omega⟩ ?_ ?_
    · rintro σ1 H1 ⟨y1, rfl, g1, g2⟩
      walk_at "goO"
      refine k (bad_none.mpr ⟨by omega, by omega, by omega, fun d hd => ?_⟩) _ (by walk_at "g_same")
      obtain ⟨j, hj, rfl⟩ := List.mem_iff_getElem.mp hd
      exact g2 j _ (by omega) (List.getElem?_eq_getElem hj)
    · rintro i σ1 H1 hi ⟨y1, rfl, g1, g2⟩
      obtain ⟨w, hat, hw⟩ := at_lt (xs := xs) (i := 0 + (i : Int)) (by omega) (by omega)
      obtain ⟨d, e1, e2⟩ := h3.get' hw
      obtain ⟨wd, r, rfl, hr⟩ := p1 d (List.mem_of_getElem? e1)
      obtain ⟨b, ys, rfl, h4, h5⟩ := fldT_inv (e2.same g1)
      have i1 : (0 + (i : Int)).toNat = i := by omega
      rw [i1] at e1
      have h2' := g1 _ _ h2
      walk_at "goO"
      rename_i H2 g3
      refine ite_b (fun c => ?_) (fun c => ?_)
      · have c' : isFieldD f s wd r = false := by simpa using c
        have hb := bad_at sz2 e1 c' g2
        walk_at "goO"
        rename_i dd H3 n1 n2 n3
        refine kx (by rw [hb]; simp) _ dd H3 hb (Same.free (g1.trans g3) n1) ?_ ((g1.trans g3).trans n3)
        rw [n2, Int.zero_add]
      · have c' : isFieldD f s wd r = true := by simpa using c
        walk_at "goO"
        refine ⟨_, rfl, by walk_at "g_same", fun j e hj he => ?_⟩
        by_cases cj : j = i
        · subst cj
          rw [e1] at he
          obtain rfl := Option.some.inj he
          exact c'
        · exact g2 j e (by omega) he
theorem use_look_battle_ok {K : PySem.W.Frag} {e_NoBattle : Addr} {v : V} {f s : Int} {fs : List Fld} {H : Hp} {Q : VK} {E : XK} (p0 : Dq H v (batD f s fs)) (p1 : BatOk f s fs) (k : ∀ H' : Hp, Same H H' → Q .non H') : sp_look_battle K e_NoBattle [v] H Q E :=
  use_look_battle (ds := fs.map fldD) p0 (bat_in p1) (by rw [List.length_map]; exact Nat.le_trans p1.ne.2 (by decide)) (fun _ => k) fun c => absurd (bad_ok.mpr p1) c
local macro_rules | `(tactic| walk_at "g_call") => `(tactic| ((with_reducible refine' use_look_battle_ok ?c0 ?c1 ?_); (case c0 => walk_at "g_pre"); (case c1 => walk_at "g_pre"); intros))

def sp_is_row (K : PySem.W.Frag) : Sp := fun _ _ _ _ => False
theorem ok_is_row (T : Txt K mg) : FnOk P w K mg base CX0 2 T.a_is_row T.d_is_row ["row", "hosts"] (sp_is_row K) := by
  exact ⟨fun _ _ _ _ h => False.elim h, fun A outer s H args us vs Q E hr he hb hv h => False.elim h⟩
def sp_is_stream (K : PySem.W.Frag) : Sp := fun _ _ _ _ => False
theorem ok_is_stream (T : Txt K mg) : FnOk P w K mg base CX0 3 T.a_is_stream T.d_is_stream ["hosts", "fields", "stream"] (sp_is_stream K) := by
  exact ⟨fun _ _ _ _ h => False.elim h, fun A outer s H args us vs Q E hr he hb hv h => False.elim h⟩
def sp_dues (K : PySem.W.Frag) : Sp := fun _ _ _ _ => False
theorem ok_dues (T : Txt K mg) : FnOk P w K mg base CX0 2 T.a_dues T.d_dues ["battle", "side", "stream"] (sp_dues K) := by
  exact ⟨fun _ _ _ _ h => False.elim h, fun A outer s H args us vs Q E hr he hb hv h => False.elim h⟩
def sp_goings_on (K : PySem.W.Frag) : Sp := fun _ _ _ _ => False
theorem ok_goings_on (T : Txt K mg) : FnOk P w K mg base CX0 1 T.a_goings_on T.d_goings_on ["due", "table", "k", "left"] (sp_goings_on K) := by
  exact ⟨fun _ _ _ _ h => False.elim h, fun A outer s H args us vs Q E hr he hb hv h => False.elim h⟩
def sp_is_table (K : PySem.W.Frag) : Sp := fun _ _ _ _ => False
theorem ok_is_table (T : Txt K mg) : FnOk P w K mg base CX0 3 T.a_is_table T.d_is_table ["table", "fields", "hosts"] (sp_is_table K) := by
  exact ⟨fun _ _ _ _ h => False.elim h, fun A outer s H args us vs Q E hr he hb hv h => False.elim h⟩
def sp_wrong_number (K : PySem.W.Frag) : Sp := fun _ _ _ _ => False
theorem ok_wrong_number (T : Txt K mg) : FnOk P w K mg base CX0 2 T.a_wrong_number T.d_wrong_number ["due", "table", "side"] (sp_wrong_number K) := by
  exact ⟨fun _ _ _ _ h => False.elim h, fun A outer s H args us vs Q E hr he hb hv h => False.elim h⟩
def sp_won (K : PySem.W.Frag) : Sp := fun _ _ _ _ => False
theorem ok_won (T : Txt K mg) : FnOk P w K mg base CX0 2 T.a_won T.d_won ["battle", "one", "other"] (sp_won K) := by
  exact ⟨fun _ _ _ _ h => False.elim h, fun A outer s H args us vs Q E hr he hb hv h => False.elim h⟩
def sp_paid (K : PySem.W.Frag) : Sp := fun vs H Q E => ∃ (v : V) (fl : Fld) (f s x y : Int), vs = [v, .int x, .int y] ∧ (Dq H v (fldD fl)) ∧ (FldOk f s fl) ∧ (0 ≤ x ∧ x ≤ f ∧ 0 ≤ y ∧ y ≤ s) ∧ Q (.int (paidV fl x y)) H
theorem use_paid {K : PySem.W.Frag} {H : Hp} {Q : VK} {E : XK} {v : V} {fl : Fld} {f s x y : Int} (p0 : Dq H v (fldD fl)) (p1 : FldOk f s fl) (p2 : 0 ≤ x ∧ x ≤ f ∧ 0 ≤ y ∧ y ≤ s) (k : Q (.int (paidV fl x y)) H) : sp_paid K [v, .int x, .int y] H Q E := ⟨v, fl, f, s, x, y, rfl, p0, p1, p2, k⟩
theorem len_paid {K : PySem.W.Frag} (vs : List V) (H : Hp) (Q : VK) (E : XK) (h : sp_paid K vs H Q E) : vs.length = ["field", "x", "y"].length := by
  obtain ⟨_, _, _, _, _, _, rfl, _⟩ := h
  rfl
local macro_rules | `(tactic| walk_at "g_call") => `(tactic| ((with_reducible refine' use_paid ?c0 ?c1 ?c2 ?_); (case c0 => walk_at "g_pre"); (case c1 => walk_at "g_pre"); (case c2 => walk_at "g_pre"); intros))
theorem ok_paid (T : Txt K mg) : FnOk P w K mg base CX0 1 T.a_paid T.d_paid ["field", "x", "y"] (sp_paid K) := by
  refine T.F_paid.ok sc_paid len_paid (fun cdv A outer s H vs Q E hr h => ?_)
  refine ⟨_, (pss_cons (ps_if (pt_cmpR op_eq (pe_ix (ix_tupK K rfl) (pv 0) pe_int (fun _ _ => rfl)) pe_str (nomark _)) (pss_one (ps_ret (pe_ix (ix_listK K rfl) (pe_ix (ix_listK K rfl) (pe_ix (ix_tupK K rfl) (pv 0) pe_int (fun _ _ => rfl)) (pv 1) (fun _ _ => rfl)) (pv 2) (fun _ _ => rfl)))) pss_nil)
      (pss_cons (ps_if (pt_cmpR op_eq (pe_ix (ix_tupK K rfl) (pv 0) pe_int (fun _ _ => rfl)) pe_str (nomark _)) (pss_one (ps_ret (pe_ifExp (pt_cmpR op_ge (pv 1) (pe_op op_add (pv 2) (pe_ix (ix_tupK K rfl) (pv 0) pe_int (fun _ _ => rfl))) (nomark _)) (pe_ix (ix_tupK K rfl) (pv 0) pe_int (fun _ _ => rfl)) (pe_op op_sub pe_int (pe_ix (ix_tupK K rfl) (pv 0) pe_int (fun _ _ => rfl)))))) pss_nil)
      (pss_cons (ps_if (pt_cmpR op_eq (pv 1) (pv 2) (nomark _)) (pss_one (ps_ret (pe_ix (ix_tupK K rfl) (pv 0) pe_int (fun _ _ => rfl)))) pss_nil)
      (pss_one (ps_ret (pe_ifExp (pt_cmpR op_gt (pv 1) (pv 2) (nomark _)) (pe_ix (ix_tupK K rfl) (pv 0) pe_int (fun _ _ => rfl)) (pe_op op_sub pe_int (pe_ix (ix_tupK K rfl) (pv 0) pe_int (fun _ _ => rfl))))))))), ?_⟩
  try dsimp only [L2.cxOf, L2.Cx.nox, L2.Cx.wish, List.map_cons, List.map_nil]
  obtain ⟨v, fl, f, s, x, y, rfl, p0, p1, p2, k⟩ := h
  refine start_to (σ := [some _, some _, some _]) rfl ?_
  cases fl with
  | more w t =>
    obtain ⟨a, rfl, h1⟩ := fld_more p0
    walk_at "go"
    have k' : Q (.int (if x = y then t else if x > y then w else 0 - w)) H := k
    refine ite_d (fun c1 => ?_) (fun c1 => ?_)
    · rw [if_pos c1] at k'
      walk_at "go"
      exact k'
    · rw [if_neg c1] at k'
      walk_at "go"
      refine ite_d (fun c2 => ?_) (fun c2 => ?_)
      · rw [if_pos c2] at k'
        walk_at "go"
        exact k'
      · rw [if_neg c2] at k'
        walk_at "go"
        exact k'
  | lead w l =>
    obtain ⟨a, rfl, h1⟩ := fld_lead p0
    walk_at "go"
    have k' : Q (.int (if x ≥ y + l then w else 0 - w)) H := k
    refine ite_d (fun c2 => ?_) (fun c2 => ?_)
    · rw [if_pos c2] at k'
      walk_at "go"
      exact k'
    · rw [if_neg c2] at k'
      walk_at "go"
      exact k'
  | tab rows =>
    obtain ⟨a, p, xs, rfl, h1, h2, h3⟩ := fld_tab p0
    obtain ⟨g1, g2⟩ := p1
    have hl : xs.length = rows.length := by rw [h3.len, List.length_map]
    obtain ⟨w, hat, hw⟩ := at_lt (xs := xs) (i := x) (by omega) (by omega)
    obtain ⟨r, q, e1, rfl, e2⟩ := row_at h3 hw
    have hr := g2 r (List.mem_of_getElem? e1)
    walk_at "go"
    rename_i z hz
    have k' : Q (.int ((((rows[x.toNat]?).getD [])[y.toNat]?).getD 0)) H := k
    rw [e1] at k'
    have k2 : Q (.int ((r[y.toNat]?).getD 0)) H := k'
    rw [hz] at k2
    exact k2

def sp_is_plan (K : PySem.W.Frag) : Sp := fun vs H Q E => ∃ (h n : Int) (a : Addr), vs = [.int h, .int n, .ref a] ∧ (H a = some (.lst [])) ∧ (1 ≤ n) ∧ ∀ (H' : Hp), (Same H H') → Q (.bl false) H'
theorem use_is_plan {K : PySem.W.Frag} {H : Hp} {Q : VK} {E : XK} {h n : Int} {a : Addr} (p0 : H a = some (.lst [])) (p1 : 1 ≤ n) (k : ∀ (H' : Hp), (Same H H') → Q (.bl false) H') : sp_is_plan K [.int h, .int n, .ref a] H Q E := ⟨h, n, a, rfl, p0, p1, k⟩
theorem len_is_plan {K : PySem.W.Frag} (vs : List V) (H : Hp) (Q : VK) (E : XK) (h : sp_is_plan K vs H Q E) : vs.length = ["hosts", "many", "plan"].length := by
  obtain ⟨_, _, _, rfl, _⟩ := h
  rfl
local macro_rules | `(tactic| walk_at "g_call") => `(tactic| ((with_reducible refine' use_is_plan ?c0 ?c1 ?_); (case c0 => walk_at "g_pre"); (case c1 => walk_at "g_pre"); intros))
theorem ok_is_plan (T : Txt K mg) : FnOk P w K mg base CX0 3 T.a_is_plan T.d_is_plan ["hosts", "many", "plan"] (sp_is_plan K) := by
  have G_are_numbers := ok_are_numbers (P := P) (w := w) (base := base) T
  refine T.F_is_plan.ok sc_is_plan len_is_plan (fun cdv A outer s H vs Q E hr h => ?_)
  refine ⟨_, (pss_one (ps_ret (pe_and (pe_call G_are_numbers (hr.mono (by first | decide | omega)) (by rfl) T.g_are_numbers T.F_are_numbers.kp T.b_are_numbers .nil pass0 (pa_cons (pv 2) (pa_cons (pv 1) pa_nil))) (pe_and (pe_cmpR op_ge (pe_callB (cr_minK K rfl rfl) (by rfl) T.z_min (by decide +kernel) (pa_cons (pv 2) pa_nil)) pe_int (nomark _)) (pe_one (pe_cmpR op_eq (pe_callB (cr_sumK K rfl rfl) (by rfl) T.z_sum (by decide +kernel) (pa_cons (pv 2) pa_nil)) (pv 0) (nomark _))))))), ?_⟩
  try dsimp only [L2.cxOf, L2.Cx.nox, L2.Cx.wish, List.map_cons, List.map_nil]
  obtain ⟨h, n, a, rfl, p0, p1, k⟩ := h
  refine start_to (σ := [some _, some _, some _]) rfl ?_
  have d0 : Dq H (.ref a) (.list []) := .lst p0 .nil
  have w0 : wid (.list []) ≤ 1000 := by simp [wid, widA]
  walk_at "go"
  refine ite_n (by rw [areNumsD, decide_eq_false (by simp; omega)]; rfl) ?_
  exact k _ (by assumption)
def sp_pay (K : PySem.W.Frag) (e_NoBattle : Addr) (e_NoPlan : Addr) : Sp := fun vs H Q E => ∃ (v : V) (f s : Int) (ds : List PyData), vs = [v, .int (-1), .int 0, .int 0] ∧ (Dq H v (batT f s ds)) ∧ ((∀ d ∈ ds, FldIn d)) ∧ (ds.length ≤ 1000) ∧ ((False) → Q (.non) H) ∧ (¬ (False) → (∀ k d H', badB f s ds = some k → H d = none → H' d = some (.xd [(("field" : Str), .int k)]) → Same H H' → E (.ref e_NoBattle) (some d) H') ∧ (badB f s ds = none → ∀ H', Same H H' → E (.ref e_NoPlan) none H'))
theorem use_pay {K : PySem.W.Frag} {e_NoBattle : Addr} {e_NoPlan : Addr} {H : Hp} {Q : VK} {E : XK} {v : V} {f s : Int} {ds : List PyData} (p0 : Dq H v (batT f s ds)) (p1 : (∀ d ∈ ds, FldIn d)) (p2 : ds.length ≤ 1000) (k : (False) → Q (.non) H) (kx : ¬ (False) → (∀ k d H', badB f s ds = some k → H d = none → H' d = some (.xd [(("field" : Str), .int k)]) → Same H H' → E (.ref e_NoBattle) (some d) H') ∧ (badB f s ds = none → ∀ H', Same H H' → E (.ref e_NoPlan) none H')) : sp_pay K e_NoBattle e_NoPlan [v, .int (-1), .int 0, .int 0] H Q E := ⟨v, f, s, ds, rfl, p0, p1, p2, k, kx⟩
theorem len_pay {K : PySem.W.Frag} {e_NoBattle : Addr} {e_NoPlan : Addr} (vs : List V) (H : Hp) (Q : VK) (E : XK) (h : sp_pay K e_NoBattle e_NoPlan vs H Q E) : vs.length = ["battle", "field", "x", "y"].length := by
  obtain ⟨_, _, _, _, rfl, _⟩ := h
  rfl
local macro_rules | `(tactic| walk_at "g_call") => `(tactic| ((with_reducible refine' use_pay ?c0 ?c1 ?c2 ?kk ?kx); (case c0 => walk_at "g_pre"); (case c1 => walk_at "g_pre"); (case c2 => walk_at "g_pre"); first | ((case kx => (intro _; exfalso; walk_at "g_no")); intros) | ((case kk => (intro _; exfalso; walk_at "g_no")); intros) | skip))
theorem ok_pay (T : Txt K mg) : FnOk P w K mg base (L2.CX P w) 5 T.a_pay T.d_pay ["battle", "field", "x", "y"] (sp_pay K T.e_NoBattle T.e_NoPlan) := by
  have G_look_battle := ok_look_battle (P := P) (w := w) (base := base) T
  have G_paid := ok_paid (P := P) (w := w) (base := base) T
  refine T.F_pay.okX sc_pay len_pay (fun cdv A outer s H vs Q E hr h => ?_)
  refine ⟨_, (pss_cons (ps_expr (pe_callS G_look_battle (hr.mono (by first | decide | omega)) (by rfl) T.g_look_battle T.F_look_battle.kp T.b_look_battle (fun σ => passAt (takes_of rfl rfl rfl rfl) σ) (pa_cons (pv 0) pa_nil)))
      (pss_cons (ps_asg (pv 0) (pg_tupK K rfl 3 rfl (pgs_cons (pg_name (i := 4) sc_pay.nd rfl (Or.inl rfl)) (pgs_cons (pg_name (i := 5) sc_pay.nd rfl (Or.inl rfl)) (pgs_cons (pg_name (i := 6) sc_pay.nd rfl (Or.inl rfl)) pgs_nil)))))
      (pss_cons (ps_if (PW.pt (pw_or (pt_cmpR op_lt (pe_callB (call_min3I rfl) (by rfl) T.z_min (by decide +kernel) (pa_cons (pv 1) (pa_cons (pv 2) (pa_cons (pv 3) pa_nil)))) pe_int (nomark _)) (pw_or (pt_cmpR op_ge (pv 1) (pe_callB (call_lenK K rfl) (by rfl) T.z_len (by decide +kernel) (pa_cons (pv 6) pa_nil)) (nomark _)) (pw_or (pt_cmpR op_gt (pv 2) (pv 4) (nomark _)) (pw_or1 (pt_cmpR op_gt (pv 3) (pv 5) (nomark _))))))) (pss_one (ps_raise rfl (takes_of rfl rfl rfl rfl) (pmk_own PySem.F.excBase_ValueError T.x_NoPlan T.g_NoPlan T.k_NoPlan (raises_own T.y_NoPlan T.t_NoPlan) rfl))) pss_nil)
      (pss_one (ps_ret (pe_call G_paid (hr.mono (by first | decide | omega)) (by rfl) T.g_paid T.F_paid.kp T.b_paid .nil pass0 (pa_cons (pe_ix (ix_listK K rfl) (pv 6) (pv 1) (fun _ _ => rfl)) (pa_cons (pv 2) (pa_cons (pv 3) pa_nil))))))))), ?_⟩
  try dsimp only [L2.cxOf, L2.Cx.nox, L2.Cx.wish, List.map_cons, List.map_nil]
  obtain ⟨v, f, s, ds, rfl, p0, p1, p2, k, kx⟩ := h
  refine start_to (σ := [some _, some _, some _, some _, none, none, none]) rfl ?_
  obtain ⟨kx1, kx2⟩ := kx id
  by_cases good : badB f s ds = none
  · obtain ⟨a, p, xs, rfl, h1, h2, h3⟩ := batT_inv p0
    walk_at "go"
    exact kx2 good _ (by assumption)
  · walk_at "goF"
    exact kx1 _ _ _ (by assumption) (by assumption) (by assumption) (by assumption)
def sp_gain (K : PySem.W.Frag) (e_NoBattle : Addr) (e_NoPlan : Addr) : Sp := fun vs H Q E => ∃ (v : V) (f s : Int) (ds : List PyData) (q r : Addr), vs = [v, .ref q, .ref r] ∧ (Dq H v (batT f s ds)) ∧ ((∀ d ∈ ds, FldIn d)) ∧ (ds.length ≤ 1000) ∧ (H q = some (.lst [])) ∧ ((False) → Q (.non) H) ∧ (¬ (False) → (∀ k d H', badB f s ds = some k → H d = none → H' d = some (.xd [(("field" : Str), .int k)]) → Same H H' → E (.ref e_NoBattle) (some d) H') ∧ (badB f s ds = none → ∀ H', Same H H' → E (.ref e_NoPlan) none H'))
theorem use_gain {K : PySem.W.Frag} {e_NoBattle : Addr} {e_NoPlan : Addr} {H : Hp} {Q : VK} {E : XK} {v : V} {f s : Int} {ds : List PyData} {q r : Addr} (p0 : Dq H v (batT f s ds)) (p1 : (∀ d ∈ ds, FldIn d)) (p2 : ds.length ≤ 1000) (p3 : H q = some (.lst [])) (k : (False) → Q (.non) H) (kx : ¬ (False) → (∀ k d H', badB f s ds = some k → H d = none → H' d = some (.xd [(("field" : Str), .int k)]) → Same H H' → E (.ref e_NoBattle) (some d) H') ∧ (badB f s ds = none → ∀ H', Same H H' → E (.ref e_NoPlan) none H')) : sp_gain K e_NoBattle e_NoPlan [v, .ref q, .ref r] H Q E := ⟨v, f, s, ds, q, r, rfl, p0, p1, p2, p3, k, kx⟩
theorem len_gain {K : PySem.W.Frag} {e_NoBattle : Addr} {e_NoPlan : Addr} (vs : List V) (H : Hp) (Q : VK) (E : XK) (h : sp_gain K e_NoBattle e_NoPlan vs H Q E) : vs.length = ["battle", "one", "other"].length := by
  obtain ⟨_, _, _, _, _, _, rfl, _⟩ := h
  rfl
local macro_rules | `(tactic| walk_at "g_call") => `(tactic| ((with_reducible refine' use_gain ?c0 ?c1 ?c2 ?c3 ?kk ?kx); (case c0 => walk_at "g_pre"); (case c1 => walk_at "g_pre"); (case c2 => walk_at "g_pre"); (case c3 => walk_at "g_pre"); first | ((case kx => (intro _; exfalso; walk_at "g_no")); intros) | ((case kk => (intro _; exfalso; walk_at "g_no")); intros) | skip))
theorem ok_gain (T : Txt K mg) : FnOk P w K mg base (L2.CX P w) 5 T.a_gain T.d_gain ["battle", "one", "other"] (sp_gain K T.e_NoBattle T.e_NoPlan) := by
  have G_look_battle := ok_look_battle (P := P) (w := w) (base := base) T
  have G_won := ok_won (P := P) (w := w) (base := base) T
  have G_is_plan := ok_is_plan (P := P) (w := w) (base := base) T
  refine T.F_gain.okX sc_gain len_gain (fun cdv A outer s H vs Q E hr h => ?_)
  refine ⟨_, (pss_cons (ps_expr (pe_callS G_look_battle (hr.mono (by first | decide | omega)) (by rfl) T.g_look_battle T.F_look_battle.kp T.b_look_battle (fun σ => passAt (takes_of rfl rfl rfl rfl) σ) (pa_cons (pv 0) pa_nil)))
      (pss_cons (ps_set (i := 3) sc_gain.nd rfl (Or.inl rfl) (pe_callB (call_lenK K rfl) (by rfl) T.z_len (by decide +kernel) (pa_cons (pe_ix (ix_tupK K rfl) (pv 0) pe_int (fun _ _ => rfl)) pa_nil)))
      (pss_cons (ps_if (PW.pt (pw_or (pt_not (pt_val (pe_call G_is_plan (hr.mono (by first | decide | omega)) (by rfl) T.g_is_plan T.F_is_plan.kp T.b_is_plan .nil pass0 (pa_cons (pe_ix (ix_tupK K rfl) (pv 0) pe_int (fun _ _ => rfl)) (pa_cons (pv 3) (pa_cons (pv 1) pa_nil)))))) (pw_or1 (pt_not (pt_val (pe_call G_is_plan (hr.mono (by first | decide | omega)) (by rfl) T.g_is_plan T.F_is_plan.kp T.b_is_plan .nil pass0 (pa_cons (pe_ix (ix_tupK K rfl) (pv 0) pe_int (fun _ _ => rfl)) (pa_cons (pv 3) (pa_cons (pv 2) pa_nil))))))))) (pss_one (ps_raise rfl (takes_of rfl rfl rfl rfl) (pmk_own PySem.F.excBase_ValueError T.x_NoPlan T.g_NoPlan T.k_NoPlan (raises_own T.y_NoPlan T.t_NoPlan) rfl))) pss_nil)
      (pss_one (ps_ret (pe_call G_won (hr.mono (by first | decide | omega)) (by rfl) T.g_won T.F_won.kp T.b_won .nil pass0 (pa_cons (pv 0) (pa_cons (pv 1) (pa_cons (pv 2) pa_nil))))))))), ?_⟩
  try dsimp only [L2.cxOf, L2.Cx.nox, L2.Cx.wish, List.map_cons, List.map_nil]
  obtain ⟨v, f, s, ds, q, r, rfl, p0, p1, p2, p3, k, kx⟩ := h
  refine start_to (σ := [some _, some _, some _, none]) rfl ?_
  obtain ⟨kx1, kx2⟩ := kx id
  by_cases good : badB f s ds = none
  · obtain ⟨a, p, xs, rfl, h1, h2, h3⟩ := batT_inv p0
    have hl := h3.len
    have hn := (bad_none.mp good).2.2.1
    walk_at "go"
    exact kx2 good _ (by walk_at "g_same")
  · walk_at "goF"
    exact kx1 _ _ _ (by assumption) (by assumption) (by assumption) (by assumption)
def RiseTo (fl : Fld) (f s i j : Int) : Prop := ∀ x y : Int, 0 ≤ x → x ≤ f → 0 ≤ y → y ≤ s → (x < i ∨ x = i ∧ y < j) → (x < f → paidV fl x y ≤ paidV fl (x + 1) y) ∧ (y < s → paidV fl x (y + 1) ≤ paidV fl x y)
def sp_rises_on (K : PySem.W.Frag) : Sp := fun vs H Q E => ∃ (v : V) (fl : Fld) (f s : Int), vs = [v, .int f, .int s] ∧ (Dq H v (fldD fl)) ∧ (FldOk f s fl) ∧ (0 ≤ f ∧ f ≤ 10 ∧ 0 ≤ s ∧ s ≤ 10) ∧ ∀ (b : Bool), (b = true ↔ RiseP fl f s) → Q (.bl b) H
theorem use_rises_on {K : PySem.W.Frag} {H : Hp} {Q : VK} {E : XK} {v : V} {fl : Fld} {f s : Int} (p0 : Dq H v (fldD fl)) (p1 : FldOk f s fl) (p2 : 0 ≤ f ∧ f ≤ 10 ∧ 0 ≤ s ∧ s ≤ 10) (k : ∀ (b : Bool), (b = true ↔ RiseP fl f s) → Q (.bl b) H) : sp_rises_on K [v, .int f, .int s] H Q E := ⟨v, fl, f, s, rfl, p0, p1, p2, k⟩
theorem len_rises_on {K : PySem.W.Frag} (vs : List V) (H : Hp) (Q : VK) (E : XK) (h : sp_rises_on K vs H Q E) : vs.length = ["field", "first", "second"].length := by
  obtain ⟨_, _, _, _, rfl, _⟩ := h
  rfl
local macro_rules | `(tactic| walk_at "g_call") => `(tactic| ((with_reducible refine' use_rises_on ?c0 ?c1 ?c2 ?_); (case c0 => walk_at "g_pre"); (case c1 => walk_at "g_pre"); (case c2 => walk_at "g_pre"); intros))
theorem ok_rises_on (T : Txt K mg) : FnOk P w K mg base CX0 2 T.a_rises_on T.d_rises_on ["field", "first", "second"] (sp_rises_on K) := by
  have G_paid := ok_paid (P := P) (w := w) (base := base) T
  refine T.F_rises_on.ok sc_rises_on len_rises_on (fun cdv A outer s H vs Q E hr h => ?_)
  refine ⟨_, (pss_cons (ps_for PassesOwn.never rfl (pi_range1 rfl T.z_range (pa_cons (pe_op op_add (pv 1) pe_int) pa_nil)) (pg_name (i := 3) sc_rises_on.nd rfl (Or.inl rfl)) (pss_one (ps_for PassesOwn.never rfl (pi_range1 rfl T.z_range (pa_cons (pe_op op_add (pv 2) pe_int) pa_nil)) (pg_name (i := 4) sc_rises_on.nd rfl (Or.inl rfl)) (pss_cons (ps_if (PW.pt (pw_and (pt_cmpR op_lt (pv 3) (pv 1) (nomark _)) (pw_and1 (pt_cmpR op_lt (pe_call G_paid (hr.mono (by first | decide | omega)) (by rfl) T.g_paid T.F_paid.kp T.b_paid .nil pass0 (pa_cons (pv 0) (pa_cons (pe_op op_add (pv 3) pe_int) (pa_cons (pv 4) pa_nil)))) (pe_call G_paid (hr.mono (by first | decide | omega)) (by rfl) T.g_paid T.F_paid.kp T.b_paid .nil pass0 (pa_cons (pv 0) (pa_cons (pv 3) (pa_cons (pv 4) pa_nil)))) (nomark _))))) (pss_one (ps_ret pe_bl)) pss_nil)
      (pss_one (ps_if (PW.pt (pw_and (pt_cmpR op_lt (pv 4) (pv 2) (nomark _)) (pw_and1 (pt_cmpR op_gt (pe_call G_paid (hr.mono (by first | decide | omega)) (by rfl) T.g_paid T.F_paid.kp T.b_paid .nil pass0 (pa_cons (pv 0) (pa_cons (pv 3) (pa_cons (pe_op op_add (pv 4) pe_int) pa_nil)))) (pe_call G_paid (hr.mono (by first | decide | omega)) (by rfl) T.g_paid T.F_paid.kp T.b_paid .nil pass0 (pa_cons (pv 0) (pa_cons (pv 3) (pa_cons (pv 4) pa_nil)))) (nomark _))))) (pss_one (ps_ret pe_bl)) pss_nil))))))
      (pss_one (ps_ret pe_bl))), ?_⟩
  try dsimp only [L2.cxOf, L2.Cx.nox, L2.Cx.wish, List.map_cons, List.map_nil]
  obtain ⟨v, fl, f, s, rfl, p0, p1, p2, k⟩ := h
  refine start_to (σ := [some _, some _, some _, none, none]) rfl ?_
  walk_at "go"
  refine forR (fun i σ H1 => ∃ y1 y2, σ = [some v, some (.int f), some (.int s), y1, y2] ∧ H1 = H ∧ RiseTo fl f s i 0) ⟨_, _, rfl, rfl, fun x y h1 h2 h3 h4 h5 => by omega⟩ ?_ ?_
  · rintro σ1 H1 ⟨y1, y2, rfl, rfl, g⟩
    walk_at "go"
    exact k true ⟨fun _ x y h1 h2 h3 h4 => g x y h1 h2 h3 h4 (.inl (by omega)), fun _ => rfl⟩
  · rintro i σ1 H1 hi ⟨y1, y2, rfl, rfl, g⟩
    rw [Int.zero_add]
    walk_at "go"
    refine forR (fun j σ H2 => ∃ y2, σ = [some v, some (.int f), some (.int s), some (.int i), y2] ∧ H2 = H1 ∧ RiseTo fl f s i j) ⟨_, rfl, rfl, g⟩ ?_ ?_
    · rintro σ2 H2 ⟨y2, rfl, rfl, g2⟩
      walk_at "go"
      exact ⟨_, _, rfl, rfl, fun x y h1 h2 h3 h4 h5 => g2 x y h1 h2 h3 h4 (by omega)⟩
    · rintro j σ2 H2 hj ⟨y2, rfl, rfl, g2⟩
      have i1 : (i : Int) ≤ f := by omega
      have j1 : (j : Int) ≤ s := by omega
      rw [Int.zero_add]
      walk_at "goI"
      refine if_join (fun σ' H' => σ' = [some v, some (.int f), some (.int s), some (.int i), some (.int j)] ∧ H' = H2 ∧ ((i : Int) < f → paidV fl i j ≤ paidV fl (i + 1) j)) (fun nx' hn => ?_) ?_
      · walk_at "go"
        refine ite_d (fun c1 => ?_) (fun c1 => ?_)
        · walk_at "go"
          refine ite_d (fun c2 => ?_) (fun c2 => ?_)
          · walk_at "go"
            refine k false ⟨nofun, fun h => ?_⟩
            have := (h i j (by omega) i1 (by omega) j1).1 c1
            omega
          · walk_at "go"
            exact hn _ _ ⟨rfl, rfl, fun _ => by omega⟩
        · walk_at "go"
          exact hn _ _ ⟨rfl, rfl, fun h => absurd h c1⟩
      rintro σ3 H3 ⟨rfl, rfl, g3⟩
      walk_at "goI"
      have fin : ((j : Int) < s → paidV fl i (j + 1) ≤ paidV fl i j) → RiseTo fl f s i (j + 1) := fun g4 x y h1 h2 h3 h4 h5 => by
        by_cases c : x = i ∧ y = j
        · obtain ⟨rfl, rfl⟩ := c
          exact ⟨g3, g4⟩
        · exact g2 x y h1 h2 h3 h4 (by omega)
      walk_at "go"
      refine ite_d (fun c1 => ?_) (fun c1 => ?_)
      · walk_at "go"
        refine ite_d (fun c2 => ?_) (fun c2 => ?_)
        · walk_at "go"
          refine k false ⟨nofun, fun h => ?_⟩
          have := (h i j (by omega) i1 (by omega) j1).2 c1
          omega
        · walk_at "go"
          exact ⟨_, rfl, rfl, fin fun _ => by omega⟩
      · walk_at "go"
        exact ⟨_, rfl, rfl, fin fun h => absurd h c1⟩

def sp_rises (K : PySem.W.Frag) (e_NoBattle : Addr) : Sp := fun vs H Q E => ∃ (v : V) (f s : Int) (ds : List PyData), vs = [v] ∧ (Dq H v (batT f s ds)) ∧ ((∀ d ∈ ds, FldIn d)) ∧ (ds.length ≤ 1000) ∧ ((badB f s ds = none) → ∀ (b : Bool) (H' : Hp), (Same H H') → Q (.bl b) H') ∧ (¬ (badB f s ds = none) → ∀ k d H', badB f s ds = some k → H d = none → H' d = some (.xd [(("field" : Str), .int k)]) → Same H H' → E (.ref e_NoBattle) (some d) H')
theorem use_rises {K : PySem.W.Frag} {e_NoBattle : Addr} {H : Hp} {Q : VK} {E : XK} {v : V} {f s : Int} {ds : List PyData} (p0 : Dq H v (batT f s ds)) (p1 : (∀ d ∈ ds, FldIn d)) (p2 : ds.length ≤ 1000) (k : (badB f s ds = none) → ∀ (b : Bool) (H' : Hp), (Same H H') → Q (.bl b) H') (kx : ¬ (badB f s ds = none) → ∀ k d H', badB f s ds = some k → H d = none → H' d = some (.xd [(("field" : Str), .int k)]) → Same H H' → E (.ref e_NoBattle) (some d) H') : sp_rises K e_NoBattle [v] H Q E := ⟨v, f, s, ds, rfl, p0, p1, p2, k, kx⟩
theorem len_rises {K : PySem.W.Frag} {e_NoBattle : Addr} (vs : List V) (H : Hp) (Q : VK) (E : XK) (h : sp_rises K e_NoBattle vs H Q E) : vs.length = ["battle"].length := by
  obtain ⟨_, _, _, _, rfl, _⟩ := h
  rfl
local macro_rules | `(tactic| walk_at "g_call") => `(tactic| ((with_reducible refine' use_rises ?c0 ?c1 ?c2 ?kk ?kx); (case c0 => walk_at "g_pre"); (case c1 => walk_at "g_pre"); (case c2 => walk_at "g_pre"); first | ((case kx => (intro _; exfalso; walk_at "g_no")); intros) | ((case kk => (intro _; exfalso; walk_at "g_no")); intros) | skip))
theorem ok_rises (T : Txt K mg) : FnOk P w K mg base (L2.CX P w) 5 T.a_rises T.d_rises ["battle"] (sp_rises K T.e_NoBattle) := by
  have G_look_battle := ok_look_battle (P := P) (w := w) (base := base) T
  have G_rises_on := ok_rises_on (P := P) (w := w) (base := base) T
  refine T.F_rises.okX sc_rises len_rises (fun cdv A outer s H vs Q E hr h => ?_)
  refine ⟨_, (pss_cons (ps_expr (pe_callS G_look_battle (hr.mono (by first | decide | omega)) (by rfl) T.g_look_battle T.F_look_battle.kp T.b_look_battle (fun σ => passAt (takes_of rfl rfl rfl rfl) σ) (pa_cons (pv 0) pa_nil)))
      (pss_one (ps_ret (pe_cmpR op_eq (pe_callB (call_lenK K rfl) (by rfl) T.z_len (by decide +kernel) (pa_cons (pe_lc (own := [("field", 1)]) rfl sc_rises.nd (pi_listK K rfl (pe_ix (ix_tupK K rfl) (pv 0) pe_int (fun _ _ => rfl))) (blkOk_by (own := [("field", 1)]) (N := ["battle", "field"]) (sc := defScope s_rises) (by decide +kernel)) (fun _ _ _ _ _ => (pg_name (i := 1) sc_rises.nd rfl (Or.inl rfl))) (fun _ _ _ _ _ => (pts_one (pt_not (pt_val (pe_call G_rises_on (hr.mono (by first | decide | omega)) (by rfl) T.g_rises_on T.F_rises_on.kp T.b_rises_on .nil pass0 (pa_cons (pv 1) (pa_cons (pe_ix (ix_tupK K rfl) (pv 0) pe_int (fun _ _ => rfl)) (pa_cons (pe_ix (ix_tupK K rfl) (pv 0) pe_int (fun _ _ => rfl)) pa_nil)))))))) (fun _ _ _ _ _ => (pv 1))) pa_nil)) pe_int (nomark _))))), ?_⟩
  try dsimp only [L2.cxOf, L2.Cx.nox, L2.Cx.wish, List.map_cons, List.map_nil]
  obtain ⟨v, f, s, ds, rfl, p0, p1, p2, k, kx⟩ := h
  refine start_to (σ := [some _, none]) rfl ?_
  by_cases good : badB f s ds = none
  · have k' := k good
    clear k kx
    obtain ⟨fs, rfl, ok⟩ := good_flds good
    have p0' : Dq H v (batD f s fs) := p0
    walk_at "goF"
    rename_i H1 g1
    obtain ⟨a, p, xs, rfl, h1, h2, h3⟩ := bat_inv (p0'.same g1)
    have hl : xs.length = fs.length := by rw [h3.len, List.length_map]
    have b1 := ok.hf
    have b2 := ok.hs
    have b3 := ok.ne
    have b5 : 0 ≤ f ∧ f ≤ 10 ∧ 0 ≤ s ∧ s ≤ 10 := by omega
    walk_at "go"
    intro D nD
    refine lcL (xs := xs) (fun i acc H2 => Same H1 H2 ∧ acc.length ≤ i) nD ⟨Same.new nD, Nat.le_refl _⟩ (fun i acc H2 _ q _ => SqL.of (q.1 _ _ h2)) ?_ ?_
    · rintro i x acc H2 Z Y hx ⟨r1, r3⟩ hD hz hy
      obtain ⟨fl, e1, e2⟩ := fld_at h3 hx
      have e2' := e2.same r1
      have b4 := ok.at e1
      have hi := (List.getElem?_eq_some_iff.mp hx).1
      have h1' := r1 _ _ h1
      walk_at "go"
      rename_i b hb
      cases b with
      | true =>
        walk_at "go"
        exact hy _ hD ⟨r1, by omega⟩
      | false =>
        walk_at "go"
        exact hz _ _ hD (sz4' (by omega)) ⟨Same.mut r1 nD, by rw [List.length_append]; show _ + 1 ≤ _; omega⟩
    · rintro acc H2 ⟨r1, r3⟩ hD
      walk_at "go"
      exact k' _ _ (by walk_at "g_same")
  · walk_at "goF"
    exact kx good _ _ _ (by assumption) (by assumption) (by assumption) (by assumption)
def sp_is_alike (K : PySem.W.Frag) (e_NoBattle : Addr) : Sp := fun vs H Q E => ∃ (v : V) (f s : Int) (ds : List PyData), vs = [v] ∧ (Dq H v (batT f s ds)) ∧ ((∀ d ∈ ds, FldIn d)) ∧ (ds.length ≤ 1000) ∧ ((badB f s ds = none) → ∀ (b : Bool) (H' : Hp), (Same H H') → Q (.bl b) H') ∧ (¬ (badB f s ds = none) → ∀ k d H', badB f s ds = some k → H d = none → H' d = some (.xd [(("field" : Str), .int k)]) → Same H H' → E (.ref e_NoBattle) (some d) H')
theorem use_is_alike {K : PySem.W.Frag} {e_NoBattle : Addr} {H : Hp} {Q : VK} {E : XK} {v : V} {f s : Int} {ds : List PyData} (p0 : Dq H v (batT f s ds)) (p1 : (∀ d ∈ ds, FldIn d)) (p2 : ds.length ≤ 1000) (k : (badB f s ds = none) → ∀ (b : Bool) (H' : Hp), (Same H H') → Q (.bl b) H') (kx : ¬ (badB f s ds = none) → ∀ k d H', badB f s ds = some k → H d = none → H' d = some (.xd [(("field" : Str), .int k)]) → Same H H' → E (.ref e_NoBattle) (some d) H') : sp_is_alike K e_NoBattle [v] H Q E := ⟨v, f, s, ds, rfl, p0, p1, p2, k, kx⟩
theorem len_is_alike {K : PySem.W.Frag} {e_NoBattle : Addr} (vs : List V) (H : Hp) (Q : VK) (E : XK) (h : sp_is_alike K e_NoBattle vs H Q E) : vs.length = ["battle"].length := by
  obtain ⟨_, _, _, _, rfl, _⟩ := h
  rfl
local macro_rules | `(tactic| walk_at "g_call") => `(tactic| ((with_reducible refine' use_is_alike ?c0 ?c1 ?c2 ?kk ?kx); (case c0 => walk_at "g_pre"); (case c1 => walk_at "g_pre"); (case c2 => walk_at "g_pre"); first | ((case kx => (intro _; exfalso; walk_at "g_no")); intros) | ((case kk => (intro _; exfalso; walk_at "g_no")); intros) | skip))
theorem ok_is_alike (T : Txt K mg) : FnOk P w K mg base (L2.CX P w) 5 T.a_is_alike T.d_is_alike ["battle"] (sp_is_alike K T.e_NoBattle) := by
  have G_look_battle := ok_look_battle (P := P) (w := w) (base := base) T
  refine T.F_is_alike.okX sc_is_alike len_is_alike (fun cdv A outer s H vs Q E hr h => ?_)
  refine ⟨_, (pss_cons (ps_expr (pe_callS G_look_battle (hr.mono (by first | decide | omega)) (by rfl) T.g_look_battle T.F_look_battle.kp T.b_look_battle (fun σ => passAt (takes_of rfl rfl rfl rfl) σ) (pa_cons (pv 0) pa_nil)))
      (pss_one (ps_ret (pe_cmpR op_eq (pe_callB (call_lenK K rfl) (by rfl) T.z_len (by decide +kernel) (pa_cons (pe_lc (own := [("field", 1)]) rfl sc_is_alike.nd (pi_listK K rfl (pe_ix (ix_tupK K rfl) (pv 0) pe_int (fun _ _ => rfl))) (blkOk_by (own := [("field", 1)]) (N := ["battle", "field"]) (sc := defScope s_is_alike) (by decide +kernel)) (fun _ _ _ _ _ => (pg_name (i := 1) sc_is_alike.nd rfl (Or.inl rfl))) (fun _ _ _ _ _ => (pts_one (pt_cmpR (op_neDK K rfl hr.units) (pv 1) (pe_ix (ix_listK K rfl) (pe_ix (ix_tupK K rfl) (pv 0) pe_int (fun _ _ => rfl)) pe_int (fun _ _ => rfl)) (nomark _)))) (fun _ _ _ _ _ => (pv 1))) pa_nil)) pe_int (nomark _))))), ?_⟩
  try dsimp only [L2.cxOf, L2.Cx.nox, L2.Cx.wish, List.map_cons, List.map_nil]
  obtain ⟨v, f, s, ds, rfl, p0, p1, p2, k, kx⟩ := h
  refine start_to (σ := [some _, none]) rfl ?_
  by_cases good : badB f s ds = none
  · have k' := k good
    clear k kx
    obtain ⟨fs, rfl, ok⟩ := good_flds good
    have p0' : Dq H v (batD f s fs) := p0
    walk_at "goF"
    rename_i H1 g1
    obtain ⟨a, p, xs, rfl, h1, h2, h3⟩ := bat_inv (p0'.same g1)
    have hl : xs.length = fs.length := by rw [h3.len, List.length_map]
    have b3 := ok.ne
    obtain ⟨x0, hx0⟩ : ∃ x, xs[0]? = some x := ⟨xs[0]'(by omega), List.getElem?_eq_getElem _⟩
    obtain ⟨fl0, z1, z2⟩ := fld_at h3 hx0
    have hat : atI xs 0 = some x0 := atI_nat hx0
    have s0 : ∀ fl, SeqAt.shaped (fldD fl) = true := fun fl => shaped_of (lay_fld fl) (Nat.le_trans (dep_fld fl) (by decide))
    walk_at "go"
    intro D nD
    refine lcL (xs := xs) (fun i acc H2 => Same H1 H2 ∧ acc.length ≤ i) nD ⟨Same.new nD, Nat.le_refl _⟩ (fun i acc H2 _ q _ => SqL.of (q.1 _ _ h2)) ?_ ?_
    · rintro i x acc H2 Z Y hx ⟨r1, r3⟩ hD hz hy
      obtain ⟨fl, e1, e2⟩ := fld_at h3 hx
      have e2' := e2.same r1
      have z2' := z2.same r1
      have hi := (List.getElem?_eq_some_iff.mp hx).1
      have h1' := r1 _ _ h1
      have h2' := r1 _ _ h2
      walk_at "go"
      refine i_neDe e2' z2' (s0 _) (s0 _) ?_
      walk_at "go"
      refine ite_b (fun e => ?_) (fun e => ?_)
      · walk_at "go"
        exact hz _ _ hD (sz4' (by omega)) ⟨Same.mut r1 nD, by rw [List.length_append]; show _ + 1 ≤ _; omega⟩
      · exact hy _ hD ⟨r1, by omega⟩
    · rintro acc H2 ⟨r1, r3⟩ hD
      walk_at "go"
      exact k' _ _ (by walk_at "g_same")
  · walk_at "goF"
    exact kx good _ _ _ (by assumption) (by assumption) (by assumption) (by assumption)
def sp_must_be_side (K : PySem.W.Frag) (e_NoSide : Addr) : Sp := fun vs H Q E => vs = [.str (PySem.Str.ofString "third")] ∧ ((False) → Q (.non) H) ∧ (¬ (False) → ∀ H', Same H H' → E (.ref e_NoSide) none H')
theorem use_must_be_side {K : PySem.W.Frag} {e_NoSide : Addr} {H : Hp} {Q : VK} {E : XK}   (k : (False) → Q (.non) H) (kx : ¬ (False) → ∀ H', Same H H' → E (.ref e_NoSide) none H') : sp_must_be_side K e_NoSide [.str (PySem.Str.ofString "third")] H Q E := ⟨rfl, k, kx⟩
theorem len_must_be_side {K : PySem.W.Frag} {e_NoSide : Addr} (vs : List V) (H : Hp) (Q : VK) (E : XK) (h : sp_must_be_side K e_NoSide vs H Q E) : vs.length = ["side"].length := by
  obtain ⟨rfl, _⟩ := h
  rfl
local macro_rules | `(tactic| walk_at "g_call") => `(tactic| ((with_reducible refine' use_must_be_side ?kk ?kx); first | ((case kx => (intro _; exfalso; walk_at "g_no")); intros) | ((case kk => (intro _; exfalso; walk_at "g_no")); intros) | skip))
theorem ok_must_be_side (T : Txt K mg) : FnOk P w K mg base (L2.CX P w) 1 T.a_must_be_side T.d_must_be_side ["side"] (sp_must_be_side K T.e_NoSide) := by
  refine T.F_must_be_side.okX sc_must_be_side len_must_be_side (fun cdv A outer s H vs Q E hr h => ?_)
  refine ⟨_, (pss_one (ps_if (pt_cmpR (op_notInK K rfl) (pv 0) (pe_glob (v := .ref T.e_SIDES) rfl T.c_SIDES rfl) (by rfl)) (pss_one (ps_raise rfl (takes_of rfl rfl rfl rfl) (pmk_own PySem.F.excBase_ValueError T.x_NoSide T.g_NoSide T.k_NoSide (raises_own T.y_NoSide T.t_NoSide) rfl))) pss_nil)), ?_⟩
  try dsimp only [L2.cxOf, L2.Cx.nox, L2.Cx.wish, List.map_cons, List.map_nil]
  obtain ⟨rfl, k, kx⟩ := h
  refine start_to (σ := [some _]) rfl ?_
  walk_at "go"
  exact kx id _ (Same.refl _)
def sp_judged (K : PySem.W.Frag) (e_NoBattle : Addr) (e_NoSide : Addr) : Sp := fun vs H Q E => ∃ (v : V) (f s : Int) (ds : List PyData) (t : Addr), vs = [v, .str (PySem.Str.ofString "third"), .ref t, .non] ∧ (Dq H v (batT f s ds)) ∧ ((∀ d ∈ ds, FldIn d)) ∧ (ds.length ≤ 1000) ∧ ((False) → Q (.non) H) ∧ (¬ (False) → (∀ k d H', badB f s ds = some k → H d = none → H' d = some (.xd [(("field" : Str), .int k)]) → Same H H' → E (.ref e_NoBattle) (some d) H') ∧ (badB f s ds = none → ∀ H', Same H H' → E (.ref e_NoSide) none H'))
theorem use_judged {K : PySem.W.Frag} {e_NoBattle : Addr} {e_NoSide : Addr} {H : Hp} {Q : VK} {E : XK} {v : V} {f s : Int} {ds : List PyData} {t : Addr} (p0 : Dq H v (batT f s ds)) (p1 : (∀ d ∈ ds, FldIn d)) (p2 : ds.length ≤ 1000) (k : (False) → Q (.non) H) (kx : ¬ (False) → (∀ k d H', badB f s ds = some k → H d = none → H' d = some (.xd [(("field" : Str), .int k)]) → Same H H' → E (.ref e_NoBattle) (some d) H') ∧ (badB f s ds = none → ∀ H', Same H H' → E (.ref e_NoSide) none H')) : sp_judged K e_NoBattle e_NoSide [v, .str (PySem.Str.ofString "third"), .ref t, .non] H Q E := ⟨v, f, s, ds, t, rfl, p0, p1, p2, k, kx⟩
theorem len_judged {K : PySem.W.Frag} {e_NoBattle : Addr} {e_NoSide : Addr} (vs : List V) (H : Hp) (Q : VK) (E : XK) (h : sp_judged K e_NoBattle e_NoSide vs H Q E) : vs.length = ["battle", "side", "worth", "paper"].length := by
  obtain ⟨_, _, _, _, _, rfl, _⟩ := h
  rfl
local macro_rules | `(tactic| walk_at "g_call") => `(tactic| ((with_reducible refine' use_judged ?c0 ?c1 ?c2 ?kk ?kx); (case c0 => walk_at "g_pre"); (case c1 => walk_at "g_pre"); (case c2 => walk_at "g_pre"); first | ((case kx => (intro _; exfalso; walk_at "g_no")); intros) | ((case kk => (intro _; exfalso; walk_at "g_no")); intros) | skip))
theorem ok_judged (T : Txt K mg) : FnOk P w K mg base (L2.CX P w) 5 T.a_judged T.d_judged ["battle", "side", "worth", "paper"] (sp_judged K T.e_NoBattle T.e_NoSide) := by
  have G_look_battle := ok_look_battle (P := P) (w := w) (base := base) T
  have G_must_be_side := ok_must_be_side (P := P) (w := w) (base := base) T
  have G_wrong_number := ok_wrong_number (P := P) (w := w) (base := base) T
  have G_is_stream := ok_is_stream (P := P) (w := w) (base := base) T
  have G_is_table := ok_is_table (P := P) (w := w) (base := base) T
  have G_dues := ok_dues (P := P) (w := w) (base := base) T
  refine T.F_judged.okX sc_judged len_judged (fun cdv A outer s H vs Q E hr h => ?_)
  refine ⟨_, (pss_cons (ps_expr (pe_callS G_look_battle (hr.mono (by first | decide | omega)) (by rfl) T.g_look_battle T.F_look_battle.kp T.b_look_battle (fun σ => passAt (takes_of rfl rfl rfl rfl) σ) (pa_cons (pv 0) pa_nil)))
      (pss_cons (ps_expr (pe_callS G_must_be_side (hr.mono (by first | decide | omega)) (by rfl) T.g_must_be_side T.F_must_be_side.kp T.b_must_be_side (fun σ => passAt (takes_of rfl rfl rfl rfl) σ) (pa_cons (pv 1) pa_nil)))
      (pss_cons (ps_if (PW.pt (pw_or (pt_not (pt_val (pe_callB (call_isXK K rfl) (by rfl) T.z_isinstance (by decide +kernel) (pa_cons (pv 3) (pa_cons (pe_bltn (v := .ty "tuple") rfl T.z_tuple (by decide +kernel) rfl) pa_nil))))) (pw_or1 (pt_cmpR op_ne (pe_callB (call_lenK K rfl) (by rfl) T.z_len (by decide +kernel) (pa_cons (pv 3) pa_nil)) pe_int (nomark _))))) (pss_one (ps_ret (pe_tup (pa_cons pe_str pa_nil)))) pss_nil)
      (pss_cons (ps_asg (pv 3) (pg_tupK K rfl 2 rfl (pgs_cons (pg_name (i := 4) sc_judged.nd rfl (Or.inl rfl)) (pgs_cons (pg_name (i := 5) sc_judged.nd rfl (Or.inl rfl)) pgs_nil))))
      (pss_cons (ps_par (i := 6) (j := 7) rfl sc_judged.nd rfl rfl (by decide) rfl rfl (pa_cons (pe_ix (ix_tupK K rfl) (pv 0) pe_int (fun _ _ => rfl)) (pa_cons (pe_ix (ix_tupK K rfl) (pv 0) pe_int (fun _ _ => rfl)) pa_nil)) (by rfl))
      (pss_cons (ps_if (pt_cmpR op_eq (pv 1) pe_str (nomark _)) (pss_one (ps_par (i := 6) (j := 7) rfl sc_judged.nd rfl rfl (by decide) rfl rfl (pa_cons (pv 7) (pa_cons (pv 6) pa_nil)) (by rfl))) pss_nil)
      (pss_cons (ps_if (pt_not (pt_val (pe_call G_is_stream (hr.mono (by first | decide | omega)) (by rfl) T.g_is_stream T.F_is_stream.kp T.b_is_stream .nil pass0 (pa_cons (pv 6) (pa_cons (pe_callB (call_lenK K rfl) (by rfl) T.z_len (by decide +kernel) (pa_cons (pe_ix (ix_tupK K rfl) (pv 0) pe_int (fun _ _ => rfl)) pa_nil)) (pa_cons (pv 4) pa_nil)))))) (pss_one (ps_ret (pe_tup (pa_cons pe_str pa_nil)))) pss_nil)
      (pss_cons (ps_if (pt_not (pt_val (pe_call G_is_table (hr.mono (by first | decide | omega)) (by rfl) T.g_is_table T.F_is_table.kp T.b_is_table .nil pass0 (pa_cons (pv 5) (pa_cons (pe_callB (call_lenK K rfl) (by rfl) T.z_len (by decide +kernel) (pa_cons (pe_ix (ix_tupK K rfl) (pv 0) pe_int (fun _ _ => rfl)) pa_nil)) (pa_cons (pv 7) pa_nil)))))) (pss_one (ps_ret (pe_tup (pa_cons pe_str pa_nil)))) pss_nil)
      (pss_cons (ps_set (i := 8) sc_judged.nd rfl (Or.inl rfl) (pe_call G_wrong_number (hr.mono (by first | decide | omega)) (by rfl) T.g_wrong_number T.F_wrong_number.kp T.b_wrong_number .nil pass0 (pa_cons (pe_call G_dues (hr.mono (by first | decide | omega)) (by rfl) T.g_dues T.F_dues.kp T.b_dues .nil pass0 (pa_cons (pv 0) (pa_cons (pv 1) (pa_cons (pv 4) pa_nil)))) (pa_cons (pv 5) (pa_cons (pv 1) pa_nil)))))
      (pss_cons (ps_if (pt_cmpR op_notN (pv 8) pe_non (nomark _)) (pss_one (ps_ret (pe_tup (pa_cons pe_str (pa_cons (pe_ix (ix_seqK K rfl) (pv 8) pe_int (fun _ _ => rfl)) (pa_cons (pe_ix (ix_seqK K rfl) (pv 8) pe_int (fun _ _ => rfl)) pa_nil)))))) pss_nil)
      (pss_cons (ps_set (i := 9) sc_judged.nd rfl (Or.inl rfl) (pe_op op_mulA (pe_ix (ix_seqK K rfl) (pv 2) pe_int (fun _ _ => rfl)) (pe_callB (cr_sumK K rfl rfl) (by rfl) T.z_sum (by decide +kernel) (pa_cons (pe_lc (own := [("left", 11), ("sent", 12), ("flow", 13)]) rfl sc_judged.nd (pi_listK K rfl (pe_ix (ix_seqK K rfl) (pv 4) pe_int (fun _ _ => rfl))) (blkOk_by (own := [("left", 11), ("sent", 12), ("flow", 13)]) (N := ["battle", "side", "worth", "paper", "stream", "table", "own", "other", "wrong", "due", "shown", "left", "sent", "flow"]) (sc := defScope s_judged) (by decide +kernel)) (fun _ _ _ _ _ => (pg_tupK K rfl 3 rfl (pgs_cons (pg_name (i := 11) sc_judged.nd rfl (Or.inl rfl)) (pgs_cons (pg_name (i := 12) sc_judged.nd rfl (Or.inl rfl)) (pgs_cons (pg_name (i := 13) sc_judged.nd rfl (Or.inl rfl)) pgs_nil))))) (fun _ _ _ _ _ => pts_nil) (fun _ _ _ _ _ => (pv 13))) pa_nil))))
      (pss_cons (ps_set (i := 10) sc_judged.nd rfl (Or.inl rfl) (pe_op op_mulA (pe_ix (ix_seqK K rfl) (pe_ix (ix_seqK K rfl) (pv 5) pe_int (fun _ _ => rfl)) (pv 7) (fun _ _ => rfl)) (pe_ix (ix_seqK K rfl) (pv 2) pe_int (fun _ _ => rfl))))
      (pss_cons (ps_if (PW.pt (pw_or (PW.pt (pw_and (pt_cmpR op_eq (pv 1) pe_str (nomark _)) (pw_and1 (pt_cmpR op_lt (pv 10) (pv 9) (nomark _))))) (pw_or1 (PW.pt (pw_and (pt_cmpR op_eq (pv 1) pe_str (nomark _)) (pw_and1 (pt_cmpR op_gt (pv 10) (pv 9) (nomark _)))))))) (pss_one (ps_ret (pe_tup (pa_cons pe_str pa_nil)))) pss_nil)
      (pss_one (ps_ret pe_non))))))))))))))), ?_⟩
  try dsimp only [L2.cxOf, L2.Cx.nox, L2.Cx.wish, List.map_cons, List.map_nil]
  obtain ⟨v, f, s, ds, t, rfl, p0, p1, p2, k, kx⟩ := h
  refine start_to (σ := [some _, some _, some _, some _, none, none, none, none, none, none, none, none, none, none]) rfl ?_
  obtain ⟨kx1, kx2⟩ := kx id
  by_cases good : badB f s ds = none
  · walk_at "go"
    exact kx2 good _ (by walk_at "g_same")
  · walk_at "goF"
    exact kx1 _ _ _ (by assumption) (by assumption) (by assumption) (by assumption)

def sp_l_whole (K : PySem.W.Frag) : Sp := fun vs H Q E => ∃ (v : V) (d : PyData), vs = [v] ∧ (Dq H v d) ∧ Q (.bl (isNumD d)) H
theorem use_l_whole {K : PySem.W.Frag} {H : Hp} {Q : VK} {E : XK} {v : V} {d : PyData} (p0 : Dq H v d) (k : Q (.bl (isNumD d)) H) : sp_l_whole K [v] H Q E := ⟨v, d, rfl, p0, k⟩
theorem len_l_whole {K : PySem.W.Frag} (vs : List V) (H : Hp) (Q : VK) (E : XK) (h : sp_l_whole K vs H Q E) : vs.length = ["_law_thing"].length := by
  obtain ⟨_, _, rfl, _⟩ := h
  rfl
local macro_rules | `(tactic| walk_at "g_call") => `(tactic| ((with_reducible refine' use_l_whole ?c0 ?_); (case c0 => walk_at "g_pre"); intros))
theorem ok_l_whole (T : Txt K mg) : FnOk P w K mg base CX0 1 T.a_l_whole T.d_l_whole ["_law_thing"] (sp_l_whole K) := by
  refine T.F_l_whole.ok sc_l_whole len_l_whole (fun cdv A outer s H vs Q E hr h => ?_)
  refine ⟨_, (pss_one (ps_ret (pe_and (pe_callB (call_isXK K rfl) (by rfl) T.z_isinstance (by decide +kernel) (pa_cons (pv 0) (pa_cons (pe_bltn (v := .ty "int") rfl T.z_int (by decide +kernel) rfl) pa_nil))) (pe_one (pe_not (pe_callB (call_isXK K rfl) (by rfl) T.z_isinstance (by decide +kernel) (pa_cons (pv 0) (pa_cons (pe_bltn (v := .ty "bool") rfl T.z_bool (by decide +kernel) rfl) pa_nil)))))))), ?_⟩
  try dsimp only [L2.cxOf, L2.Cx.nox, L2.Cx.wish, List.map_cons, List.map_nil]
  obtain ⟨v, d, rfl, p0, k⟩ := h
  refine start_to (σ := [some _]) rfl ?_
  cases p0 <;> (walk_at "go"; exact k)
def sp_l_is_rows (K : PySem.W.Frag) : Sp := fun vs H Q E => ∃ (v : V) (d : PyData) (f s : Int), vs = [v, .int f, .int s] ∧ (Dq H v d) ∧ (wid d ≤ 1000) ∧ ∀ (H' : Hp), (Same H H') → Q (.bl (isRowsD f s [d])) H'
theorem use_l_is_rows {K : PySem.W.Frag} {H : Hp} {Q : VK} {E : XK} {v : V} {d : PyData} {f s : Int} (p0 : Dq H v d) (p1 : wid d ≤ 1000) (k : ∀ (H' : Hp), (Same H H') → Q (.bl (isRowsD f s [d])) H') : sp_l_is_rows K [v, .int f, .int s] H Q E := ⟨v, d, f, s, rfl, p0, p1, k⟩
theorem len_l_is_rows {K : PySem.W.Frag} (vs : List V) (H : Hp) (Q : VK) (E : XK) (h : sp_l_is_rows K vs H Q E) : vs.length = ["_law_rows", "_law_first", "_law_second"].length := by
  obtain ⟨_, _, _, _, rfl, _⟩ := h
  rfl
local macro_rules | `(tactic| walk_at "g_call") => `(tactic| ((with_reducible refine' use_l_is_rows ?c0 ?c1 ?_); (case c0 => walk_at "g_pre"); (case c1 => walk_at "g_pre"); intros))
theorem ok_l_is_rows (T : Txt K mg) : FnOk P w K mg base CX0 2 T.a_l_is_rows T.d_l_is_rows ["_law_rows", "_law_first", "_law_second"] (sp_l_is_rows K) := by
  have G_l_whole := ok_l_whole (P := P) (w := w) (base := base) T
  refine T.F_l_is_rows.ok sc_l_is_rows len_l_is_rows (fun cdv A outer s H vs Q E hr h => ?_)
  refine ⟨_, (pss_cons (ps_if (PW.pt (pw_or (pt_not (pt_val (pe_callB (call_isXK K rfl) (by rfl) T.z_isinstance (by decide +kernel) (pa_cons (pv 0) (pa_cons (pe_bltn (v := .ty "list") rfl T.z_list (by decide +kernel) rfl) pa_nil))))) (pw_or1 (pt_cmpR op_ne (pe_callB (call_lenK K rfl) (by rfl) T.z_len (by decide +kernel) (pa_cons (pv 0) pa_nil)) (pe_op op_add (pv 1) pe_int) (nomark _))))) (pss_one (ps_ret pe_bl)) pss_nil)
      (pss_cons (ps_for PassesOwn.never rfl (pi_listK K rfl (pv 0)) (pg_name (i := 3) sc_l_is_rows.nd rfl (Or.inl rfl)) (pss_one (ps_if (PW.pt (pw_or (pt_not (pt_val (pe_callB (call_isXK K rfl) (by rfl) T.z_isinstance (by decide +kernel) (pa_cons (pv 3) (pa_cons (pe_bltn (v := .ty "list") rfl T.z_list (by decide +kernel) rfl) pa_nil))))) (pw_or (pt_cmpR op_ne (pe_callB (call_lenK K rfl) (by rfl) T.z_len (by decide +kernel) (pa_cons (pv 3) pa_nil)) (pe_op op_add (pv 2) pe_int) (nomark _)) (pw_or1 (pt_cmpR op_gt (pe_callB (call_lenK K rfl) (by rfl) T.z_len (by decide +kernel) (pa_cons (pe_lc (own := [("_law_one", 4)]) rfl sc_l_is_rows.nd (pi_listK K rfl (pv 3)) (blkOk_by (own := [("_law_one", 4)]) (N := ["_law_rows", "_law_first", "_law_second", "_law_row", "_law_one"]) (sc := defScope s_l_is_rows) (by decide +kernel)) (fun _ _ _ _ _ => (pg_name (i := 4) sc_l_is_rows.nd rfl (Or.inl rfl))) (fun _ _ _ _ _ => (pts_one (pt_not (pt_val (pe_call G_l_whole (hr.mono (by first | decide | omega)) (by rfl) T.g_l_whole T.F_l_whole.kp T.b_l_whole .nil pass0 (pa_cons (pv 4) pa_nil)))))) (fun _ _ _ _ _ => (pv 4))) pa_nil)) pe_int (nomark _)))))) (pss_one (ps_ret pe_bl)) pss_nil)))
      (pss_one (ps_ret pe_bl)))), ?_⟩
  try dsimp only [L2.cxOf, L2.Cx.nox, L2.Cx.wish, List.map_cons, List.map_nil]
  obtain ⟨v, d, f, s, rfl, p0, p1, k⟩ := h
  refine start_to (σ := [some _, some _, some _, none, none]) rfl ?_
  cases p0 with
  | @lst a xs ds h q =>
    have hl := q.len
    rw [wid] at p1
    walk_at "go"
    refine ite_nd (fun c => ?_) (fun c => ?_)
    · rw [rows_no (by omega)] at k
      walk_at "go"
      exact k _ (Same.refl _)
    · rw [rows_yes (by omega)] at k
      walk_at "go"
      refine forL (xs := xs) (fun i σ H1 => ∃ y3, σ = [some (.ref a), some (.int f), some (.int s), y3, none] ∧ Same H H1 ∧ ∀ (j : Nat) e, j < i → ds[j]? = some e → areNumsD (s + 1) e = true) ⟨_, rfl, Same.refl _, by omega⟩ ?_ ?_ ?_
      · rintro i σ H1 _ ⟨y3, rfl, g1, _⟩
        exact SqL.of (g1 _ _ h)
      · rintro σ H1 ⟨y3, rfl, g1, g2⟩
        walk_at "go"
        rw [show ds.all (areNumsD (s + 1)) = true from all_at.mpr fun i x e => g2 i x (by have := (List.getElem?_eq_some_iff.mp e).1; omega) e] at k
        exact k _ g1
      · rintro i x σ H1 hx ⟨y3, rfl, g1, g2⟩
        obtain ⟨e, e1, e2⟩ := q.get' hx
        have e3 := e2.same g1
        have e4 : wid e ≤ 1000 := by
          have := widA_mem (List.mem_of_getElem? e1)
          omega
        have no : ∀ H', Same H1 H' → areNumsD (s + 1) e = false → Q (.bl false) H' := fun H' s1 h1 => by
          have : ds.all (areNumsD (s + 1)) = false := by
            cases c : ds.all (areNumsD (s + 1)) with
            | false => rfl
            | true => rw [all_at.mp c i e e1] at h1; cases h1
          rw [this] at k
          exact k _ (g1.trans s1)
        have yes : ∀ H', Same H1 H' → areNumsD (s + 1) e = true → ∃ y3, ([some (.ref a), some (.int f), some (.int s), some x, none] : L2.St) = [some (.ref a), some (.int f), some (.int s), y3, none] ∧ Same H H' ∧ ∀ (j : Nat) e, j < i + 1 → ds[j]? = some e → areNumsD (s + 1) e = true := fun H' s1 h1 => ⟨_, rfl, g1.trans s1, fun j e' hj he => by
          by_cases c : j = i
          · subst c
            rw [e1] at he
            cases he
            exact h1
          · exact g2 j e' (by omega) he⟩
        cases e3 with
        | @lst b ys es h4 q4 =>
          have hl4 := q4.len
          rw [wid] at e4
          walk_at "go"
          refine ite_nd (fun c1 => ?_) (fun c1 => ?_)
          · walk_at "go"
            exact no _ (Same.refl _) (by rw [areNumsD, decide_eq_false (by omega)]; rfl)
          · walk_at "go"
            intro D nD
            refine lcL_fl (xs := ys) (fun i => !((es[i]?).map isNumD).getD true) nD (by omega) (SqL.of h4) ?_ ?_
            · intro i x H2 Z Y hx hs hz hy
              obtain ⟨d, e1, e2⟩ := q4.get' hx
              have e2' := e2.same hs
              walk_at "go"
              refine ite_b (fun e => ?_) (fun e => ?_)
              · walk_at "go"
                exact hz _ _ (by rw [e1]; exact e) (by walk_at "g_same")
              · exact hy _ (by rw [e1]; exact e) (by walk_at "g_same")
            · intro acc H2 hD hs hc ha
              have z := len0_all hl4 hc
              walk_at "go"
              refine ite_d (fun c2 => ?_) (fun c2 => ?_)
              · walk_at "go"
                exact no _ hs (by rw [areNumsD, ← z, decide_eq_false (p := (acc.length : Int) = 0) (by omega), Bool.and_false])
              · walk_at "go"
                exact yes _ hs (by rw [areNumsD, ← z, decide_eq_true (p := (acc.length : Int) = 0) (by omega), decide_eq_true (by omega)]; rfl)
        | non => walk_at "go"; exact no _ (Same.refl _) rfl
        | bl b => walk_at "go"; exact no _ (Same.refl _) rfl
        | int i => walk_at "go"; exact no _ (Same.refl _) rfl
        | str x => walk_at "go"; exact no _ (Same.refl _) rfl
        | tup h q => walk_at "go"; exact no _ (Same.refl _) rfl
  | non => walk_at "go"; rw [rows_one (by rfl)] at k; exact k _ (Same.refl _)
  | bl b => walk_at "go"; rw [rows_one (by rfl)] at k; exact k _ (Same.refl _)
  | int i => walk_at "go"; rw [rows_one (by rfl)] at k; exact k _ (Same.refl _)
  | str x => walk_at "go"; rw [rows_one (by rfl)] at k; exact k _ (Same.refl _)
  | tup h q => walk_at "go"; rw [rows_one (by rfl)] at k; exact k _ (Same.refl _)
def sp_l_is_rule (K : PySem.W.Frag) : Sp := fun vs H Q E => ∃ (a : Addr) (w : Str) (xs : List V) (ds : List PyData) (f s : Int), vs = [.ref a, .int f, .int s] ∧ (H a = some (.tup (.str w :: xs))) ∧ (DqAll H xs ds) ∧ (wid (.tuple ds) ≤ 1000) ∧ (0 ≤ f ∧ f ≤ 10 ∧ 0 ≤ s ∧ s ≤ 10) ∧ ∀ (H' : Hp), (Same H H') → Q (.bl (isFieldD f s w ds)) H'
theorem use_l_is_rule {K : PySem.W.Frag} {H : Hp} {Q : VK} {E : XK} {a : Addr} {w : Str} {xs : List V} {ds : List PyData} {f s : Int} (p0 : H a = some (.tup (.str w :: xs))) (p1 : DqAll H xs ds) (p2 : wid (.tuple ds) ≤ 1000) (p3 : 0 ≤ f ∧ f ≤ 10 ∧ 0 ≤ s ∧ s ≤ 10) (k : ∀ (H' : Hp), (Same H H') → Q (.bl (isFieldD f s w ds)) H') : sp_l_is_rule K [.ref a, .int f, .int s] H Q E := ⟨a, w, xs, ds, f, s, rfl, p0, p1, p2, p3, k⟩
theorem len_l_is_rule {K : PySem.W.Frag} (vs : List V) (H : Hp) (Q : VK) (E : XK) (h : sp_l_is_rule K vs H Q E) : vs.length = ["_law_field", "_law_first", "_law_second"].length := by
  obtain ⟨_, _, _, _, _, _, rfl, _⟩ := h
  rfl
local macro_rules | `(tactic| walk_at "g_call") => `(tactic| ((with_reducible refine' use_l_is_rule ?c0 ?c1 ?c2 ?c3 ?_); (case c0 => walk_at "g_pre"); (case c1 => walk_at "g_pre"); (case c2 => walk_at "g_pre"); (case c3 => walk_at "g_pre"); intros))
theorem ok_l_is_rule (T : Txt K mg) : FnOk P w K mg base CX0 3 T.a_l_is_rule T.d_l_is_rule ["_law_field", "_law_first", "_law_second"] (sp_l_is_rule K) := by
  have G_l_is_rows := ok_l_is_rows (P := P) (w := w) (base := base) T
  have G_l_whole := ok_l_whole (P := P) (w := w) (base := base) T
  refine T.F_l_is_rule.ok sc_l_is_rule len_l_is_rule (fun cdv A outer s H vs Q E hr h => ?_)
  refine ⟨_, (pss_cons (ps_if (pt_cmpR op_eq (pe_ix (ix_tupK K rfl) (pv 0) pe_int (fun _ _ => rfl)) pe_str (nomark _)) (pss_one (ps_ret (pe_and (pe_cmpR op_eq (pe_callB (call_lenK K rfl) (by rfl) T.z_len (by decide +kernel) (pa_cons (pv 0) pa_nil)) pe_int (nomark _)) (pe_one (pe_call G_l_is_rows (hr.mono (by first | decide | omega)) (by rfl) T.g_l_is_rows T.F_l_is_rows.kp T.b_l_is_rows .nil pass0 (pa_cons (pe_ix (ix_tupK K rfl) (pv 0) pe_int (fun _ _ => rfl)) (pa_cons (pv 1) (pa_cons (pv 2) pa_nil)))))))) pss_nil)
      (pss_cons (ps_if (PW.pt (pw_or (pt_cmpR (op_notInK K rfl) (pe_ix (ix_tupK K rfl) (pv 0) pe_int (fun _ _ => rfl)) (pe_tup (pa_cons pe_str (pa_cons pe_str pa_nil))) (by rfl)) (pw_or (pt_cmpR op_ne (pe_callB (call_lenK K rfl) (by rfl) T.z_len (by decide +kernel) (pa_cons (pv 0) pa_nil)) pe_int (nomark _)) (pw_or (pt_not (pt_val (pe_call G_l_whole (hr.mono (by first | decide | omega)) (by rfl) T.g_l_whole T.F_l_whole.kp T.b_l_whole .nil pass0 (pa_cons (pe_ix (ix_tupK K rfl) (pv 0) pe_int (fun _ _ => rfl)) pa_nil)))) (pw_or1 (pt_not (pt_val (pe_call G_l_whole (hr.mono (by first | decide | omega)) (by rfl) T.g_l_whole T.F_l_whole.kp T.b_l_whole .nil pass0 (pa_cons (pe_ix (ix_tupK K rfl) (pv 0) pe_int (fun _ _ => rfl)) pa_nil))))))))) (pss_one (ps_ret pe_bl)) pss_nil)
      (pss_one (ps_ret (pe_and (pe_cmpR op_gt (pe_ix (ix_tupK K rfl) (pv 0) pe_int (fun _ _ => rfl)) pe_int (nomark _)) (pe_one (pe_or (pe_cmpR op_eq (pe_ix (ix_tupK K rfl) (pv 0) pe_int (fun _ _ => rfl)) pe_str (nomark _)) (pe_one (pe_cmpR op_le (pe_callB call_abs (by rfl) T.z_abs (by decide +kernel) (pa_cons (pe_ix (ix_tupK K rfl) (pv 0) pe_int (fun _ _ => rfl)) pa_nil)) (pe_ix (ix_tupK K rfl) (pv 0) pe_int (fun _ _ => rfl)) (nomark _)))))))))), ?_⟩
  try dsimp only [L2.cxOf, L2.Cx.nox, L2.Cx.wish, List.map_cons, List.map_nil]
  obtain ⟨a, w, xs, ds, f, s, rfl, p0, p1, p2, p3, k⟩ := h
  refine start_to (σ := [some _, some _, some _]) rfl ?_
  have hl := p1.len
  rw [wid] at p2
  walk_at "go"
  by_cases c3 : w = PySem.Str.ofString "table"
  · have e : isFieldD f s w ds = isRowsD f s ds := by rw [isFieldD, if_neg (by rw [c3]; decide +kernel), if_neg (by rw [c3]; decide +kernel), if_pos c3]
    rw [e] at k
    refine ite_y (by simp [c3]) ?_
    walk_at "go"
    cases p1 with
    | nil =>
      walk_at "goO"
      exact k _ (Same.refl _)
    | cons h1 q1 =>
      cases q1 with
      | nil =>
        rename_i v1 d1
        have w1 : wid d1 ≤ 1000 := by
          simp only [widA, List.length_cons, List.length_nil] at p2
          omega
        walk_at "goO"
        exact k _ (by assumption)
      | cons h2 q2 =>
        rw [rows_long] at k
        refine ite_n (by simp; try omega) ?_
        exact k _ (Same.refl _)
  refine ite_n (by simp [c3]) ?_
  walk_at "go"
  rename_i t nt
  have st : Same H (upd H t (.tup [.str (PySem.Str.ofString "more"), .str (PySem.Str.ofString "lead")])) := Same.new nt
  have p0' := st _ _ p0
  by_cases c1 : w = PySem.Str.ofString "more"
  · have e : isFieldD f s w ds = isMoreD ds := by rw [isFieldD, if_pos c1]
    rw [e] at k
    subst c1
    walk_at "goO"
    cases p1 with
    | nil =>
      walk_at "goO"
      exact k _ st
    | cons h1 q1 =>
      cases q1 with
      | nil =>
        rw [more_rule rule_short1] at k
        walk_at "goO"
        exact k _ st
      | cons h2 q2 =>
        cases q2 with
        | nil =>
          have h1' := h1.same st
          have h2' := h2.same st
          walk_at "goO"
          refine ite_b (fun e1 => ?_) (fun e1 => ?_)
          · have e1 := bnot e1
            rw [more_rule (rule_no1 e1)] at k
            walk_at "go"
            exact k _ st
          · have e1 := bnot' e1
            obtain ⟨x, rfl⟩ := num_inv e1
            obtain rfl := h1.int_inv
            walk_at "go"
            refine ite_b (fun e2 => ?_) (fun e2 => ?_)
            · have e2 := bnot e2
              rw [more_rule (rule_no2 e2)] at k
              walk_at "go"
              exact k _ st
            · have e2 := bnot' e2
              obtain ⟨y, rfl⟩ := num_inv e2
              obtain rfl := h2.int_inv
              rw [show isMoreD [.int x, .int y] = (decide (1 ≤ x) && (decide (0 - x ≤ y) && decide (y ≤ x))) from rfl] at k
              walk_at "go"
              refine ite_d (fun c => ?_) (fun c => ?_)
              · walk_at "go"
                have z : decide ((if y < 0 then -y else y) ≤ x) = (decide (1 ≤ x) && (decide (0 - x ≤ y) && decide (y ≤ x))) := by
                  rw [Bool.eq_iff_iff]
                  simp only [decide_eq_true_eq, Bool.and_eq_true]
                  split <;> omega
                rw [z]
                exact k _ st
              · rw [decide_eq_false (p := 1 ≤ x) (by omega), Bool.false_and] at k
                exact k _ st
        | cons h3 q3 =>
          rw [more_rule rule_long] at k
          refine ite_y (by simp; try omega) ?_
          walk_at "goO"
          exact k _ st
  by_cases c2 : w = PySem.Str.ofString "lead"
  · have e : isFieldD f s w ds = isRuleD ds := by rw [isFieldD, if_neg c1, if_pos c2]
    rw [e] at k
    subst c2
    walk_at "goO"
    cases p1 with
    | nil =>
      walk_at "goO"
      exact k _ st
    | cons h1 q1 =>
      cases q1 with
      | nil =>
        rw [rule_short1] at k
        walk_at "goO"
        exact k _ st
      | cons h2 q2 =>
        cases q2 with
        | nil =>
          have h1' := h1.same st
          have h2' := h2.same st
          walk_at "goO"
          refine ite_b (fun e1 => ?_) (fun e1 => ?_)
          · have e1 := bnot e1
            rw [rule_no1 e1] at k
            walk_at "go"
            exact k _ st
          · have e1 := bnot' e1
            obtain ⟨x, rfl⟩ := num_inv e1
            obtain rfl := h1.int_inv
            walk_at "go"
            refine ite_b (fun e2 => ?_) (fun e2 => ?_)
            · have e2 := bnot e2
              rw [rule_no2 e2] at k
              walk_at "go"
              exact k _ st
            · have e2 := bnot' e2
              obtain ⟨y, rfl⟩ := num_inv e2
              obtain rfl := h2.int_inv
              rw [show isRuleD [.int x, .int y] = decide (1 ≤ x) from rfl] at k
              walk_at "go"
              refine ite_d (fun c => ?_) (fun c => ?_)
              · walk_at "go"
                rw [decide_eq_true (by omega)] at k
                exact k _ st
              · rw [decide_eq_false (by omega)] at k
                exact k _ st
        | cons h3 q3 =>
          rw [rule_long] at k
          refine ite_y (by simp; try omega) ?_
          walk_at "goO"
          exact k _ st
  have hin : L2.inV (.str w) [.str (PySem.Str.ofString "more"), .str (PySem.Str.ofString "lead")] = false := by
    simp [L2.inV, L2.eqV]
    exact ⟨fun h => c1 h.symm, fun h => c2 h.symm⟩
  have e : isFieldD f s w ds = false := by rw [isFieldD, if_neg c1, if_neg c2, if_neg c3]
  rw [e] at k
  walk_at "go"
  exact k _ st
def dueV : Option Int → V
  | none => .non
  | some k => .int k
def sp_l_due (K : PySem.W.Frag) : Sp := fun vs H Q E => ∃ (v : V) (f s : Int) (ds : List PyData), vs = [v] ∧ (Dq H v (batT f s ds)) ∧ ((∀ d ∈ ds, FldIn d)) ∧ (ds.length ≤ 1000) ∧ ∀ (H' : Hp), (Same H H') → Q (dueV (badB f s ds)) H'
theorem use_l_due {K : PySem.W.Frag} {H : Hp} {Q : VK} {E : XK} {v : V} {f s : Int} {ds : List PyData} (p0 : Dq H v (batT f s ds)) (p1 : (∀ d ∈ ds, FldIn d)) (p2 : ds.length ≤ 1000) (k : ∀ (H' : Hp), (Same H H') → Q (dueV (badB f s ds)) H') : sp_l_due K [v] H Q E := ⟨v, f, s, ds, rfl, p0, p1, p2, k⟩
theorem len_l_due {K : PySem.W.Frag} (vs : List V) (H : Hp) (Q : VK) (E : XK) (h : sp_l_due K vs H Q E) : vs.length = ["_law_battle_here"].length := by
  obtain ⟨_, _, _, _, rfl, _⟩ := h
  rfl
local macro_rules | `(tactic| walk_at "g_call") => `(tactic| ((with_reducible refine' use_l_due ?c0 ?c1 ?c2 ?_); (case c0 => walk_at "g_pre"); (case c1 => walk_at "g_pre"); (case c2 => walk_at "g_pre"); intros))
theorem ok_l_due (T : Txt K mg) : FnOk P w K mg base CX0 4 T.a_l_due T.d_l_due ["_law_battle_here"] (sp_l_due K) := by
  have G_l_is_rule := ok_l_is_rule (P := P) (w := w) (base := base) T
  refine T.F_l_due.ok sc_l_due len_l_due (fun cdv A outer s H vs Q E hr h => ?_)
  refine ⟨_, (pss_cons (ps_asg (pv 0) (pg_tupK K rfl 3 rfl (pgs_cons (pg_name (i := 1) sc_l_due.nd rfl (Or.inl rfl)) (pgs_cons (pg_name (i := 2) sc_l_due.nd rfl (Or.inl rfl)) (pgs_cons (pg_name (i := 3) sc_l_due.nd rfl (Or.inl rfl)) pgs_nil)))))
      (pss_cons (ps_if (PW.pt (pw_or (pt_cmpR op_lt (pe_callB (call_min2 rfl) (by rfl) T.z_min (by decide +kernel) (pa_cons (pv 1) (pa_cons (pv 2) pa_nil))) pe_int (nomark _)) (pw_or (pt_cmpR op_gt (pe_callB (call_max2 rfl) (by rfl) T.z_max (by decide +kernel) (pa_cons (pv 1) (pa_cons (pv 2) pa_nil))) pe_int (nomark _)) (pw_or1 (pt_cmpR (op_notInK K rfl) (pe_callB (call_lenK K rfl) (by rfl) T.z_len (by decide +kernel) (pa_cons (pv 3) pa_nil)) (pe_tup (pa_cons pe_int (pa_cons pe_int (pa_cons pe_int (pa_cons pe_int (pa_cons pe_int pa_nil)))))) (by rfl)))))) (pss_one (ps_ret (pe_un un_neg pe_int))) pss_nil)
      (pss_cons (ps_for PassesOwn.never rfl (pi_range1 rfl T.z_range (pa_cons (pe_callB (call_lenK K rfl) (by rfl) T.z_len (by decide +kernel) (pa_cons (pv 3) pa_nil)) pa_nil)) (pg_name (i := 4) sc_l_due.nd rfl (Or.inl rfl)) (pss_one (ps_if (pt_not (pt_val (pe_call G_l_is_rule (hr.mono (by first | decide | omega)) (by rfl) T.g_l_is_rule T.F_l_is_rule.kp T.b_l_is_rule .nil pass0 (pa_cons (pe_ix (ix_listK K rfl) (pv 3) (pv 4) (fun _ _ => rfl)) (pa_cons (pv 1) (pa_cons (pv 2) pa_nil)))))) (pss_one (ps_ret (pv 4))) pss_nil)))
      (pss_one (ps_ret pe_non))))), ?_⟩
  try dsimp only [L2.cxOf, L2.Cx.nox, L2.Cx.wish, List.map_cons, List.map_nil]
  obtain ⟨v, f, s, ds, rfl, p0, p1, p2, k⟩ := h
  obtain ⟨a, p, xs, rfl, h1, h2, h3⟩ := batT_inv p0
  have hl := h3.len
  refine start_to (σ := [some _, none, none, none, none]) rfl ?_
  have hin : L2.inV (.int (xs.length : Int)) [.int 1, .int 2, .int 3, .int 4, .int 5] = decide (1 ≤ xs.length ∧ xs.length ≤ 5) := by
    rw [Bool.eq_iff_iff]
    simp [L2.inV, L2.eqV]
    omega
  walk_at "go"
  by_cases sz : f < 0 ∨ s < 0 ∨ 10 < f ∨ 10 < s ∨ ds.length < 1 ∨ 5 < ds.length
  · have e : badB f s ds = some (-1) := if_pos sz
    rw [e] at k
    refine ite_d (fun c1 => ?_) (fun c1 => ?_)
    · walk_at "go"
      exact k _ (Same.refl _)
    walk_at "go"
    refine ite_d (fun c2 => ?_) (fun c2 => ?_)
    · walk_at "go"
      exact k _ (Same.refl _)
    walk_at "go"
    refine ite_nd (fun c3 => ?_) (fun c3 => ?_)
    · walk_at "go"
      exact k _ (by walk_at "g_same")
    · exfalso
      omega
  · have sz2 : 0 ≤ f ∧ f ≤ 10 ∧ 0 ≤ s ∧ s ≤ 10 ∧ 1 ≤ ds.length ∧ ds.length ≤ 5 := by omega
    have sz3 : 0 ≤ f ∧ f ≤ 10 ∧ 0 ≤ s ∧ s ≤ 10 := by omega
    walk_at "goO"
    refine ite_n (by simp; omega) ?_
    walk_at "goO"
    refine forR (fun i σ H1 => ∃ y1, σ = [some (.ref a), some (.int f), some (.int s), some (.ref p), y1] ∧ Same H H1 ∧ ∀ (j : Nat) e, j < i → ds[j]? = some e → isFldT f s e = true) ⟨_, rfl, by walk_at "g_same", by omega⟩ ?_ ?_
    · rintro σ1 H1 ⟨y1, rfl, g1, g2⟩
      have e : badB f s ds = none := bad_none.mpr ⟨by omega, by omega, by omega, fun d hd => by
        obtain ⟨j, hj, rfl⟩ := List.mem_iff_getElem.mp hd
        exact g2 j _ (by omega) (List.getElem?_eq_getElem hj)⟩
      rw [e] at k
      walk_at "goO"
      exact k _ (by walk_at "g_same")
    · rintro i σ1 H1 hi ⟨y1, rfl, g1, g2⟩
      obtain ⟨w, hat, hw⟩ := at_lt (xs := xs) (i := 0 + (i : Int)) (by omega) (by omega)
      obtain ⟨d, e1, e2⟩ := h3.get' hw
      obtain ⟨wd, r, rfl, hr⟩ := p1 d (List.mem_of_getElem? e1)
      obtain ⟨b, ys, rfl, h4, h5⟩ := fldT_inv (e2.same g1)
      have i1 : (0 + (i : Int)).toNat = i := by omega
      rw [i1] at e1
      have h2' := g1 _ _ h2
      walk_at "goO"
      rename_i H2 g3
      refine ite_b (fun c => ?_) (fun c => ?_)
      · have c' : isFieldD f s wd r = false := bnot c
        have hb := bad_at sz2 e1 c' g2
        rw [hb] at k
        walk_at "goO"
        rw [Int.zero_add]
        exact k _ (g1.trans g3)
      · have c' : isFieldD f s wd r = true := bnot' c
        walk_at "goO"
        refine ⟨_, rfl, by walk_at "g_same", fun j e hj he => ?_⟩
        by_cases cj : j = i
        · subst cj
          rw [e1] at he
          obtain rfl := Option.some.inj he
          exact c'
        · exact g2 j e (by omega) he
def RefD (b : Option Int) (w : Int) : PyData := match b with
  | some k => .list [.str (PySem.Str.ofString "refused"), .int k, .bool false]
  | none => if w = 0 ∨ w = 3 ∨ w = 5 then .list [] else .list [.str (PySem.Str.ofString "other")]
def sp_l_refused (K : PySem.W.Frag) : Sp := fun vs H Q E => ∃ (v : V) (f s : Int) (ds : List PyData) (w : Int), vs = [v, .int w] ∧ (Dq H v (batT f s ds)) ∧ ((∀ d ∈ ds, FldIn d)) ∧ (ds.length ≤ 1000) ∧ (0 ≤ w ∧ w ≤ 5) ∧ ∀ (u : V) (G H' : Hp), (Dq G u (RefD (badB f s ds) w)) → (Newly H G) → (Same G H') → (Same H H') → Q (u) H'
theorem use_l_refused {K : PySem.W.Frag} {H : Hp} {Q : VK} {E : XK} {v : V} {f s : Int} {ds : List PyData} {w : Int} (p0 : Dq H v (batT f s ds)) (p1 : (∀ d ∈ ds, FldIn d)) (p2 : ds.length ≤ 1000) (p3 : 0 ≤ w ∧ w ≤ 5) (k : ∀ (u : V) (G H' : Hp), (Dq G u (RefD (badB f s ds) w)) → (Newly H G) → (Same G H') → (Same H H') → Q (u) H') : sp_l_refused K [v, .int w] H Q E := ⟨v, f, s, ds, w, rfl, p0, p1, p2, p3, k⟩
theorem len_l_refused {K : PySem.W.Frag} (vs : List V) (H : Hp) (Q : VK) (E : XK) (h : sp_l_refused K vs H Q E) : vs.length = ["_law_battle_here", "_law_which"].length := by
  obtain ⟨_, _, _, _, _, rfl, _⟩ := h
  rfl
local macro_rules | `(tactic| walk_at "g_call") => `(tactic| ((with_reducible refine' use_l_refused ?c0 ?c1 ?c2 ?c3 ?_); (case c0 => walk_at "g_pre"); (case c1 => walk_at "g_pre"); (case c2 => walk_at "g_pre"); (case c3 => walk_at "g_pre"); intros))
theorem ok_l_refused (T : Txt K mg) : FnOk P w K mg base CX0 6 T.a_l_refused T.d_l_refused ["_law_battle_here", "_law_which"] (sp_l_refused K) := by
  have G_look_battle := ok_look_battle (P := P) (w := w) (base := base) T
  have G_pay := ok_pay (P := P) (w := w) (base := base) T
  have G_gain := ok_gain (P := P) (w := w) (base := base) T
  have G_rises := ok_rises (P := P) (w := w) (base := base) T
  have G_judged := ok_judged (P := P) (w := w) (base := base) T
  have G_is_alike := ok_is_alike (P := P) (w := w) (base := base) T
  refine T.F_l_refused.ok sc_l_refused len_l_refused (fun cdv A outer s H vs Q E hr h => ?_)
  refine ⟨_, (pss_cons (ps_set (i := 2) sc_l_refused.nd rfl (Or.inl rfl) pe_non)
      (pss_cons (ps_set (i := 3) sc_l_refused.nd rfl (Or.inl rfl) pe_non)
      (pss_cons (ps_try_asT (i := 4) rfl rfl rfl sc_l_refused.nd rfl rfl ⟨rfl, by decide, Or.inl T.g_HostError⟩ takes0 (fun W pn xe tk po => (pss_cons (ps_if (pt_cmpR op_eq (pv 1) pe_int (nomark _)) (pss_one (ps_set (i := 3) sc_l_refused.nd rfl (Or.inl rfl) (pe_callS G_look_battle (hr.mono (by first | decide | omega)) (by rfl) T.g_look_battle T.F_look_battle.kp T.b_look_battle (fun σ => passAt tk σ) (pa_cons (pv 0) pa_nil)))) pss_nil)
      (pss_cons (ps_if (pt_cmpR op_eq (pv 1) pe_int (nomark _)) (pss_one (ps_expr (pe_callS G_pay (hr.mono (by first | decide | omega)) (by rfl) T.g_pay T.F_pay.kp T.b_pay (fun σ => passAt tk σ) (pa_cons (pv 0) (pa_cons (pe_un un_neg pe_int) (pa_cons pe_int (pa_cons pe_int pa_nil))))))) pss_nil)
      (pss_cons (ps_if (pt_cmpR op_eq (pv 1) pe_int (nomark _)) (pss_one (ps_expr (pe_callS G_gain (hr.mono (by first | decide | omega)) (by rfl) T.g_gain T.F_gain.kp T.b_gain (fun σ => passAt tk σ) (pa_cons (pv 0) (pa_cons (pe_lst pa_nil) (pa_cons (pe_lst (pa_cons (pe_un un_neg pe_int) pa_nil)) pa_nil)))))) pss_nil)
      (pss_cons (ps_if (pt_cmpR op_eq (pv 1) pe_int (nomark _)) (pss_one (ps_expr (pe_callS G_rises (hr.mono (by first | decide | omega)) (by rfl) T.g_rises T.F_rises.kp T.b_rises (fun σ => passAt tk σ) (pa_cons (pv 0) pa_nil)))) pss_nil)
      (pss_cons (ps_if (pt_cmpR op_eq (pv 1) pe_int (nomark _)) (pss_one (ps_expr (pe_callS G_judged (hr.mono (by first | decide | omega)) (by rfl) T.g_judged T.F_judged.kp T.b_judged (fun σ => passAt tk σ) (pa_cons (pv 0) (pa_cons pe_str (pa_cons (pe_tup (pa_cons pe_int (pa_cons pe_int pa_nil))) (pa_cons pe_non pa_nil))))))) pss_nil)
      (pss_one (ps_if (pt_cmpR op_eq (pv 1) pe_int (nomark _)) (pss_one (ps_expr (pe_callS G_is_alike (hr.mono (by first | decide | omega)) (by rfl) T.g_is_alike T.F_is_alike.kp T.b_is_alike (fun σ => passAt tk σ) (pa_cons (pv 0) pa_nil)))) pss_nil)))))))) (fun a oe pn => (pss_one (ps_set (i := 2) sc_l_refused.nd rfl (Or.inl rfl) (pv 4)))))
      (pss_cons (ps_if (pt_cmpR op_isN (pv 2) pe_non (nomark _)) (pss_one (ps_ret (pe_ix (ix_listK K rfl) (pe_lst (pa_cons (pe_lst (pa_cons pe_str pa_nil)) (pa_cons (pe_lst pa_nil) pa_nil))) (pe_callTy call_int1 (by rfl) T.z_int (by decide +kernel) (pa_cons (pe_cmpR op_isN (pv 3) pe_non (nomark _)) pa_nil)) (fun _ _ => rfl)))) pss_nil)
      (pss_cons (ps_if (PW.pt (pw_or (pt_val (pe_callB (call_isXTK K rfl) (by rfl) T.z_isinstance (by decide +kernel) (pa_cons (pv 2) (pa_cons (pe_tup (pa_cons (pe_glob (v := .ref T.e_NoAlike) rfl T.g_NoAlike rfl) (pa_cons (pe_glob (v := .ref T.e_NoMix) rfl T.g_NoMix rfl) (pa_cons (pe_glob (v := .ref T.e_NoNumber) rfl T.g_NoNumber rfl) (pa_cons (pe_glob (v := .ref T.e_NoPlan) rfl T.g_NoPlan rfl) (pa_cons (pe_glob (v := .ref T.e_NoSide) rfl T.g_NoSide rfl) (pa_cons (pe_glob (v := .ref T.e_NoStream) rfl T.g_NoStream rfl) pa_nil))))))) pa_nil)))) (pw_or1 (pt_not (pt_val (pe_callB (call_isXK K rfl) (by rfl) T.z_isinstance (by decide +kernel) (pa_cons (pv 2) (pa_cons (pe_bltn (v := .ty "ValueError") rfl T.z_ValueError (by decide +kernel) rfl) pa_nil)))))))) (pss_one (ps_ret (pe_lst (pa_cons pe_str pa_nil)))) pss_nil)
      (pss_cons (ps_if (pt_not (pt_val (pe_callB (call_isXK K rfl) (by rfl) T.z_isinstance (by decide +kernel) (pa_cons (pv 2) (pa_cons (pe_glob (v := .ref T.e_NoBattle) rfl T.g_NoBattle rfl) pa_nil))))) (pss_one (ps_ret (pe_lst (pa_cons pe_str pa_nil)))) pss_nil)
      (pss_one (ps_ret (pe_lst (pa_cons pe_str (pa_cons (pe_xfH K rfl (pv 2)) (pa_cons (pe_callB (call_isXK K rfl) (by rfl) T.z_isinstance (by decide +kernel) (pa_cons (pe_xfH K rfl (pv 2)) (pa_cons (pe_bltn (v := .ty "bool") rfl T.z_bool (by decide +kernel) rfl) pa_nil))) pa_nil)))))))))))), ?_⟩
  try dsimp only [L2.cxOf, L2.Cx.nox, L2.Cx.wish, List.map_cons, List.map_nil]
  obtain ⟨v, f, s, ds, w, rfl, p0, p1, p2, p3, k⟩ := h
  refine start_to (σ := [some _, some _, none, none, none]) rfl ?_
  have hw : w = 0 ∨ w = 1 ∨ w = 2 ∨ w = 3 ∨ w = 4 ∨ w = 5 := by omega
  have kR : ∀ (kk : Int) (t : Addr) (H' : Hp), badB f s ds = some kk → H t = none → H' t = some (.lst [.str (PySem.Str.ofString "refused"), .int kk, .bl false]) → Same H H' → Q (.ref t) H' := fun kk t H' e n h1 h2 => by
    rw [e] at k
    exact k _ (fr [] H H') _ (.lst (fr_lk0 n h1) (.cons (.str _) (.cons (.int _) (.cons (.bl _) .nil)))) fr_newly fr_same h2
  have kE : ∀ (t : Addr) (H' : Hp), badB f s ds = none → w = 0 ∨ w = 3 ∨ w = 5 → H t = none → H' t = some (.lst []) → Same H H' → Q (.ref t) H' := fun t H' e hw n h1 h2 => by
    rw [e] at k
    refine k _ (fr [] H H') _ ?_ fr_newly fr_same h2
    rw [RefD, if_pos hw]
    exact .lst (fr_lk0 n h1) .nil
  have kO : ∀ (t : Addr) (H' : Hp), badB f s ds = none → ¬ (w = 0 ∨ w = 3 ∨ w = 5) → H t = none → H' t = some (.lst [.str (PySem.Str.ofString "other")]) → Same H H' → Q (.ref t) H' := fun t H' e hw n h1 h2 => by
    rw [e] at k
    refine k _ (fr [] H H') _ ?_ fr_newly fr_same h2
    rw [RefD, if_neg hw]
    exact .lst (fr_lk0 n h1) (.cons (.str _) .nil)
  clear k
  by_cases good : badB f s ds = none
  · rcases hw with rfl | rfl | rfl | rfl | rfl | rfl
    · walk_at "go"
      exact kE _ _ good (by decide) (by walk_at "g_free") (by walk_at "g_lk") (by walk_at "g_same")
    · walk_at "go"
      refine ⟨fun kk d H1 e1 => ?_, fun e1 H1 s1 => ?_⟩
      · rw [good] at e1
        cases e1
      walk_at "go"
      exact kO _ _ good (by decide) (by walk_at "g_free") upd_same (by walk_at "g_same")
    · walk_at "go"
      refine ⟨fun kk d H1 e1 => ?_, fun e1 H1 s1 => ?_⟩
      · rw [good] at e1
        cases e1
      walk_at "go"
      exact kO _ _ good (by decide) (by walk_at "g_free") upd_same (by walk_at "g_same")
    · walk_at "go"
      exact kE _ _ good (by decide) (by walk_at "g_free") (by walk_at "g_lk") (by walk_at "g_same")
    · walk_at "go"
      refine ⟨fun kk d H1 e1 => ?_, fun e1 H1 s1 => ?_⟩
      · rw [good] at e1
        cases e1
      walk_at "go"
      exact kO _ _ good (by decide) (by walk_at "g_free") upd_same (by walk_at "g_same")
    · walk_at "go"
      exact kE _ _ good (by decide) (by walk_at "g_free") (by walk_at "g_lk") (by walk_at "g_same")
  · rcases hw with rfl | rfl | rfl | rfl | rfl | rfl
    · walk_at "go"
      exact kR _ _ _ (by assumption) (by walk_at "g_free") upd_same (by walk_at "g_same")
    · walk_at "go"
      refine ⟨fun kk d H1 e1 e2 e3 e4 => ?_, fun e1 => absurd e1 good⟩
      walk_at "go"
      exact kR _ _ _ e1 (by walk_at "g_free") upd_same (by walk_at "g_same")
    · walk_at "go"
      refine ⟨fun kk d H1 e1 e2 e3 e4 => ?_, fun e1 => absurd e1 good⟩
      walk_at "go"
      exact kR _ _ _ e1 (by walk_at "g_free") upd_same (by walk_at "g_same")
    · walk_at "go"
      exact kR _ _ _ (by assumption) (by walk_at "g_free") upd_same (by walk_at "g_same")
    · walk_at "go"
      refine ⟨fun kk d H1 e1 e2 e3 e4 => ?_, fun e1 => absurd e1 good⟩
      walk_at "go"
      exact kR _ _ _ e1 (by walk_at "g_free") upd_same (by walk_at "g_same")
    · walk_at "go"
      exact kR _ _ _ (by assumption) (by walk_at "g_free") upd_same (by walk_at "g_same")

def sp_l_bent_rule (K : PySem.W.Frag) : Sp := fun vs H Q E => ∃ (a : Addr) (m c : Int) (v : V) (w : Str) (r : List PyData) (kw : Nat), vs = [.ref a, v] ∧ (Pk a m H c) ∧ (c ≤ 80000) ∧ (Dq (hid [a] H) v (.tuple (.str w :: r))) ∧ (Fb kw w r) ∧ (kw ≤ 30 ∧ 1 ≤ r.length) ∧ ∀ (u : V) (d : PyData) (H' : Hp), (Dq (hid [a] H') u d) → (FbD (kw + 2) d) → (Pk a m H' (c + 30)) → (But a H H') → Q (u) H'
theorem use_l_bent_rule {K : PySem.W.Frag} {H : Hp} {Q : VK} {E : XK} {a : Addr} {m c : Int} {v : V} {w : Str} {r : List PyData} {kw : Nat} (p0 : Pk a m H c) (p1 : c ≤ 80000) (p2 : Dq (hid [a] H) v (.tuple (.str w :: r))) (p3 : Fb kw w r) (p4 : kw ≤ 30 ∧ 1 ≤ r.length) (k : ∀ (u : V) (d : PyData) (H' : Hp), (Dq (hid [a] H') u d) → (FbD (kw + 2) d) → (Pk a m H' (c + 30)) → (But a H H') → Q (u) H') : sp_l_bent_rule K [.ref a, v] H Q E := ⟨a, m, c, v, w, r, kw, rfl, p0, p1, p2, p3, p4, k⟩
theorem len_l_bent_rule {K : PySem.W.Frag} (vs : List V) (H : Hp) (Q : VK) (E : XK) (h : sp_l_bent_rule K vs H Q E) : vs.length = ["_law_left_here", "_law_field"].length := by
  obtain ⟨_, _, _, _, _, _, _, rfl, _⟩ := h
  rfl
local macro_rules | `(tactic| walk_at "g_call") => `(tactic| ((with_reducible refine' use_l_bent_rule ?c0 ?c1 ?c2 ?c3 ?c4 ?_); (case c0 => walk_at "g_pre"); (case c1 => walk_at "g_pre"); (case c2 => walk_at "g_pre"); (case c3 => walk_at "g_pre"); (case c4 => walk_at "g_pre"); intros))
theorem ok_l_bent_rule (T : Txt K mg) : FnOk P w K mg base CX0 3 T.a_l_bent_rule T.d_l_bent_rule ["_law_left_here", "_law_field"] (sp_l_bent_rule K) := by
  have G_l_draw := ok_l_draw (P := P) (w := w) (base := base) T
  refine T.F_l_bent_rule.ok sc_l_bent_rule len_l_bent_rule (fun cdv A outer s H vs Q E hr h => ?_)
  refine ⟨_, (pss_cons (ps_set (i := 2) sc_l_bent_rule.nd rfl (Or.inl rfl) (pe_call G_l_draw (hr.mono (by first | decide | omega)) (by rfl) T.g_l_draw T.F_l_draw.kp T.b_l_draw .nil pass0 (pa_cons (pv 0) (pa_cons pe_int pa_nil))))
      (pss_cons (ps_if (pt_cmpR op_eq (pv 2) pe_int (nomark _)) (pss_one (ps_ret (pe_op (op_catTK K rfl) (pe_tup (pa_cons (pe_ix (ix_listK K rfl) (pe_lst (pa_cons pe_str (pa_cons pe_str (pa_cons pe_str (pa_cons pe_str pa_nil))))) (pe_call G_l_draw (hr.mono (by first | decide | omega)) (by rfl) T.g_l_draw T.F_l_draw.kp T.b_l_draw .nil pass0 (pa_cons (pv 0) (pa_cons pe_int pa_nil))) (fun _ _ => rfl)) pa_nil)) (pe_slice (sl_tupK K rfl) (pv 1) (po_some pe_int) po_none)))) pss_nil)
      (pss_cons (ps_if (pt_cmpR op_eq (pv 2) pe_int (nomark _)) (pss_one (ps_ret (pe_tup (pa_cons (pe_ix (ix_tupK K rfl) (pv 1) pe_int (fun _ _ => rfl)) pa_nil)))) pss_nil)
      (pss_cons (ps_if (pt_cmpR op_eq (pv 2) pe_int (nomark _)) (pss_one (ps_ret (pe_op (op_catTK K rfl) (pv 1) (pe_tup (pa_cons pe_int pa_nil))))) pss_nil)
      (pss_cons (ps_if (pt_cmpR op_eq (pv 2) pe_int (nomark _)) (pss_one (ps_ret (pe_tup (pa_cons pe_str (pa_cons (pe_ix (ix_listK K rfl) (pe_lst (pa_cons pe_int (pa_cons (pe_un un_neg pe_int) pa_nil))) (pe_call G_l_draw (hr.mono (by first | decide | omega)) (by rfl) T.g_l_draw T.F_l_draw.kp T.b_l_draw .nil pass0 (pa_cons (pv 0) (pa_cons pe_int pa_nil))) (fun _ _ => rfl)) (pa_cons pe_int pa_nil)))))) pss_nil)
      (pss_cons (ps_if (pt_cmpR op_eq (pv 2) pe_int (nomark _)) (pss_one (ps_ret (pe_ix (ix_listK K rfl) (pe_lst (pa_cons (pe_tup (pa_cons pe_str (pa_cons pe_int (pa_cons pe_int pa_nil)))) (pa_cons (pe_tup (pa_cons pe_str (pa_cons pe_int (pa_cons (pe_un un_neg pe_int) pa_nil)))) (pa_cons (pe_tup (pa_cons pe_str (pa_cons pe_int (pa_cons (pe_un un_neg pe_int) pa_nil)))) (pa_cons (pe_tup (pa_cons pe_str (pa_cons pe_int (pa_cons pe_int pa_nil)))) (pa_cons (pe_tup (pa_cons pe_str (pa_cons pe_int (pa_cons pe_int pa_nil)))) pa_nil)))))) (pe_call G_l_draw (hr.mono (by first | decide | omega)) (by rfl) T.g_l_draw T.F_l_draw.kp T.b_l_draw .nil pass0 (pa_cons (pv 0) (pa_cons pe_int pa_nil))) (fun _ _ => rfl)))) pss_nil)
      (pss_cons (ps_if (pt_cmpR op_eq (pv 2) pe_int (nomark _)) (pss_one (ps_ret (pe_ix (ix_listK K rfl) (pe_lst (pa_cons (pe_tup (pa_cons pe_str (pa_cons pe_bl (pa_cons pe_int pa_nil)))) (pa_cons (pe_tup (pa_cons pe_str (pa_cons pe_int (pa_cons pe_bl pa_nil)))) (pa_cons (pe_tup (pa_cons pe_str (pa_cons pe_int (pa_cons pe_non pa_nil)))) (pa_cons (pe_tup (pa_cons pe_str (pa_cons pe_str (pa_cons pe_int pa_nil)))) pa_nil))))) (pe_call G_l_draw (hr.mono (by first | decide | omega)) (by rfl) T.g_l_draw T.F_l_draw.kp T.b_l_draw .nil pass0 (pa_cons (pv 0) (pa_cons pe_int pa_nil))) (fun _ _ => rfl)))) pss_nil)
      (pss_cons (ps_if (PW.pt (pw_or (pt_cmpR op_ne (pe_ix (ix_tupK K rfl) (pv 1) pe_int (fun _ _ => rfl)) pe_str (nomark _)) (pw_or (pt_not (pt_val (pe_callB (call_isXK K rfl) (by rfl) T.z_isinstance (by decide +kernel) (pa_cons (pe_ix (ix_tupK K rfl) (pv 1) pe_int (fun _ _ => rfl)) (pa_cons (pe_bltn (v := .ty "list") rfl T.z_list (by decide +kernel) rfl) pa_nil))))) (pw_or1 (pt_cmpR op_eq (pe_callB (call_lenK K rfl) (by rfl) T.z_len (by decide +kernel) (pa_cons (pe_ix (ix_tupK K rfl) (pv 1) pe_int (fun _ _ => rfl)) pa_nil)) pe_int (nomark _)))))) (pss_one (ps_ret (pv 1))) pss_nil)
      (pss_cons (ps_set (i := 3) sc_l_bent_rule.nd rfl (Or.inl rfl) (pe_ix (ix_tupK K rfl) (pv 1) pe_int (fun _ _ => rfl)))
      (pss_cons (ps_if (pt_cmpR op_gt (pe_callB (call_lenK K rfl) (by rfl) T.z_len (by decide +kernel) (pa_cons (pe_lc (own := [("_law_row", 4)]) rfl sc_l_bent_rule.nd (pi_listK K rfl (pv 3)) (blkOk_by (own := [("_law_row", 4)]) (N := ["_law_left_here", "_law_field", "_law_choice", "_law_rows", "_law_row", "_law_at", "_law_k"]) (sc := defScope s_l_bent_rule) (by decide +kernel)) (fun _ _ _ _ _ => (pg_name (i := 4) sc_l_bent_rule.nd rfl (Or.inl rfl))) (fun _ _ _ _ _ => (pts_one (PW.pt (pw_or (pt_not (pt_val (pe_callB (call_isXK K rfl) (by rfl) T.z_isinstance (by decide +kernel) (pa_cons (pv 4) (pa_cons (pe_bltn (v := .ty "list") rfl T.z_list (by decide +kernel) rfl) pa_nil))))) (pw_or1 (pt_cmpR op_eq (pe_callB (call_lenK K rfl) (by rfl) T.z_len (by decide +kernel) (pa_cons (pv 4) pa_nil)) pe_int (nomark _))))))) (fun _ _ _ _ _ => (pv 4))) pa_nil)) pe_int (nomark _)) (pss_one (ps_ret (pv 1))) pss_nil)
      (pss_cons (ps_set (i := 5) sc_l_bent_rule.nd rfl (Or.inl rfl) (pe_call G_l_draw (hr.mono (by first | decide | omega)) (by rfl) T.g_l_draw T.F_l_draw.kp T.b_l_draw .nil pass0 (pa_cons (pv 0) (pa_cons (pe_callB (call_lenK K rfl) (by rfl) T.z_len (by decide +kernel) (pa_cons (pv 3) pa_nil)) pa_nil))))
      (pss_cons (ps_set (i := 6) sc_l_bent_rule.nd rfl (Or.inl rfl) (pe_call G_l_draw (hr.mono (by first | decide | omega)) (by rfl) T.g_l_draw T.F_l_draw.kp T.b_l_draw .nil pass0 (pa_cons (pv 0) (pa_cons (pe_callB (call_lenK K rfl) (by rfl) T.z_len (by decide +kernel) (pa_cons (pe_ix (ix_listK K rfl) (pv 3) (pv 5) (fun _ _ => rfl)) pa_nil)) pa_nil))))
      (pss_cons (ps_if (pt_cmpR op_lt (pv 2) pe_int (nomark _)) (pss_one (ps_ret (pe_tup (pa_cons pe_str (pa_cons (pe_ix (ix_listK K rfl) (pe_lst (pa_cons (pe_op op_cat (pe_slice (sl_listK K rfl) (pv 3) po_none (po_some (pv 5))) (pe_slice (sl_listK K rfl) (pv 3) (po_some (pe_op op_add (pv 5) pe_int)) po_none)) (pa_cons (pe_op op_cat (pe_slice (sl_listK K rfl) (pv 3) po_none (po_some (pe_op op_add (pv 5) pe_int))) (pe_slice (sl_listK K rfl) (pv 3) (po_some (pv 5)) po_none)) pa_nil))) (pe_op op_sub (pv 2) pe_int) (fun _ _ => rfl)) pa_nil))))) pss_nil)
      (pss_cons (ps_if (pt_cmpR op_lt (pv 2) pe_int (nomark _)) (pss_cons (ps_set (i := 4) sc_l_bent_rule.nd rfl (Or.inl rfl) (pe_ix (ix_listK K rfl) (pe_lst (pa_cons (pe_op op_cat (pe_slice (sl_listK K rfl) (pe_ix (ix_listK K rfl) (pv 3) (pv 5) (fun _ _ => rfl)) po_none (po_some (pv 6))) (pe_slice (sl_listK K rfl) (pe_ix (ix_listK K rfl) (pv 3) (pv 5) (fun _ _ => rfl)) (po_some (pe_op op_add (pv 6) pe_int)) po_none)) (pa_cons (pe_op op_cat (pe_ix (ix_listK K rfl) (pv 3) (pv 5) (fun _ _ => rfl)) (pe_lst (pa_cons pe_int pa_nil))) pa_nil))) (pe_op op_sub (pv 2) pe_int) (fun _ _ => rfl)))
      (pss_one (ps_ret (pe_tup (pa_cons pe_str (pa_cons (pe_op op_cat (pe_op op_cat (pe_slice (sl_listK K rfl) (pv 3) po_none (po_some (pv 5))) (pe_lst (pa_cons (pv 4) pa_nil))) (pe_slice (sl_listK K rfl) (pv 3) (po_some (pe_op op_add (pv 5) pe_int)) po_none)) pa_nil)))))) pss_nil)
      (pss_cons (ps_if (pt_cmpR op_eq (pv 2) pe_int (nomark _)) (pss_cons (ps_set (i := 4) sc_l_bent_rule.nd rfl (Or.inl rfl) (pe_callTy (call_listK K rfl) (by rfl) T.z_list (by decide +kernel) (pa_cons (pe_ix (ix_listK K rfl) (pv 3) (pv 5) (fun _ _ => rfl)) pa_nil)))
      (pss_cons (ps_asg (pe_ix (ix_listK K rfl) (pe_lst (pa_cons pe_bl (pa_cons pe_non (pa_cons pe_str (pa_cons (pe_lst (pa_cons pe_int pa_nil)) (pa_cons (pe_tup (pa_cons pe_int pa_nil)) pa_nil)))))) (pe_call G_l_draw (hr.mono (by first | decide | omega)) (by rfl) T.g_l_draw T.F_l_draw.kp T.b_l_draw .nil pass0 (pa_cons (pv 0) (pa_cons pe_int pa_nil))) (fun _ _ => rfl)) (pg_sub (pv 4) (pv 6) set_list))
      (pss_one (ps_ret (pe_tup (pa_cons pe_str (pa_cons (pe_op op_cat (pe_op op_cat (pe_slice (sl_listK K rfl) (pv 3) po_none (po_some (pv 5))) (pe_lst (pa_cons (pv 4) pa_nil))) (pe_slice (sl_listK K rfl) (pv 3) (po_some (pe_op op_add (pv 5) pe_int)) po_none)) pa_nil))))))) pss_nil)
      (pss_cons (ps_if (pt_cmpR op_eq (pv 2) pe_int (nomark _)) (pss_one (ps_ret (pe_tup (pa_cons pe_str (pa_cons (pe_op op_cat (pe_op op_cat (pe_slice (sl_listK K rfl) (pv 3) po_none (po_some (pv 5))) (pe_lst (pa_cons (pe_ix (ix_listK K rfl) (pe_lst (pa_cons pe_int (pa_cons pe_non (pa_cons (pe_callTy (call_tupleK K rfl) (by rfl) T.z_tuple (by decide +kernel) (pa_cons (pe_ix (ix_listK K rfl) (pv 3) (pv 5) (fun _ _ => rfl)) pa_nil)) pa_nil)))) (pe_call G_l_draw (hr.mono (by first | decide | omega)) (by rfl) T.g_l_draw T.F_l_draw.kp T.b_l_draw .nil pass0 (pa_cons (pv 0) (pa_cons pe_int pa_nil))) (fun _ _ => rfl)) pa_nil))) (pe_slice (sl_listK K rfl) (pv 3) (po_some (pe_op op_add (pv 5) pe_int)) po_none)) pa_nil))))) pss_nil)
      (pss_one (ps_ret (pv 1))))))))))))))))))), ?_⟩
  try dsimp only [L2.cxOf, L2.Cx.nox, L2.Cx.wish, List.map_cons, List.map_nil]
  obtain ⟨a, m, c, v, w, r, kw, rfl, p0, p1, p2, p3, ⟨p4, p5⟩, k⟩ := h
  obtain ⟨b, xs, rfl, h1, h2⟩ := fldT_inv p2
  have l1 := hid_same _ _ h1
  have nb := ne_hid h1
  have hl := h2.len
  have pr := p3.2.2.2.1
  refine start_to (σ := [some _, some _, none, none, none, none, none]) rfl ?_
  walk_at "go"
  rename_i ch H1 a1 a2 a3
  have l1' := a3 _ _ nb l1
  have g2 : DqAll (hid [a] H1) xs r := h2.same (hid_but (by simp) a3)
  have fin : ∀ (t : Addr) (w' : Str) (ys : List V) (es : List PyData) (H' : Hp), H' t = some (.tup (.str w' :: ys)) → DqAll (hid [a] H') ys es → Fb (kw + 2) w' es → Pk a m H' (c + 30) → But a H1 H' → Q (.ref t) H' := fun t w' ys es H' z2 z3 z4 z5 z6 => k _ (.tuple (.str w' :: es)) H' (.tup (hid_lk (not_in1 (z5.neT z2)) z2) (.cons (.str w') z3)) ⟨w', es, rfl, z4⟩ z5 (a3.trans z6)
  have pk1 : Pk a m H1 (c + 4) := a2
  clear a2 a3 k p0 p2 l1 h1 h2
  have gB : ∀ {H' : Hp}, But a H1 H' → DqAll (hid [a] H') xs r := fun b => g2.same (hid_but (by simp) b)
  have f2 : ∀ (w' : Str) (es : List PyData), PyData.strOk w' = true → PyData.canLayAll0 es = true → depA es ≤ 3 → es.length ≤ 2 → widA es ≤ 2 → Fb (kw + 2) w' es := fun w' es z1 z2 z3 z4 z5 => ⟨z1, z2, z3, by omega, by omega⟩
  refine ite_d (fun c0 => ?_) (fun c0 => ?_)
  · walk_at "go"
    rename_i L n1 d1 H2 a2 a3 a4 st hst t1 n2 t2 n3 t3 H3 e1 s3
    have hb : But a H1 H3 := by walk_at "g_but"
    exact fin t3 st xs r H3 e1 (gB hb) ⟨by rcases hst with rfl | rfl | rfl | rfl <;> decide +kernel, p3.2.1, p3.2.2.1, by omega, by have := p3.2.2.2.2; omega⟩ (Pk.mono (by walk_at "g_pk") (by omega)) hb
  walk_at "go"
  refine ite_d (fun c1 => ?_) (fun c1 => ?_)
  · walk_at "go"
    rename_i t nt
    exact fin t w [] [] _ upd_same .nil (f2 w [] p3.1 (by simp [PyData.canLayAll0]) (by simp [depA]) (by simp) (by simp [widA])) (Pk.mono (by walk_at "g_pk") (by omega)) (by walk_at "g_but")
  walk_at "go"
  refine ite_d (fun c2 => ?_) (fun c2 => ?_)
  · walk_at "go"
    rename_i t0 n0 t H2 e1 s1
    have hb : But a H1 H2 := by walk_at "g_but"
    rw [List.cons_append] at e1
    exact fin t w (xs ++ [.int 1]) (r ++ [.int 1]) _ e1 (DqAll.snoc (gB hb) (.int 1)) ⟨p3.1, lay_all fun d hd => by
      rcases List.mem_append.mp hd with e | e
      · exact lay_mem p3.2.1 e
      · rw [List.mem_singleton.mp e]; rfl, depA_le fun d hd => by
      rcases List.mem_append.mp hd with e | e
      · exact Nat.le_trans (depA_mem e) p3.2.2.1
      · rw [List.mem_singleton.mp e]; simp [dep], by rw [List.length_append]; simp; omega, widA_le fun d hd => by
      rcases List.mem_append.mp hd with e | e
      · have := widA_mem e
        have := p3.2.2.2.2
        omega
      · rw [List.mem_singleton.mp e]; simp [wid]⟩ (Pk.mono (by walk_at "g_pk") (by omega)) hb
  walk_at "go"
  refine ite_d (fun c3 => ?_) (fun c3 => ?_)
  · walk_at "go"
    rename_i L n1 d1 H2 a2 a3 a4 vv hvv t nt
    exact fin t _ [.int vv, .int 0] [.int vv, .int 0] _ upd_same (.cons (.int _) (.cons (.int _) .nil)) (f2 _ _ (by decide +kernel) (by simp [PyData.canLayAll0, PyData.canLay0]) (by simp [depA, dep]) (by simp) (by simp [widA, wid])) (Pk.mono (by walk_at "g_pk") (by omega)) (by walk_at "g_but")
  walk_at "go"
  refine ite_d (fun c4 => ?_) (fun c4 => ?_)
  · walk_at "go"
    rename_i T1 n1 T2 n2 T3 n3 T4 n4 T5 n5 L n6 d1 H2 a2 a3 a4
    have z1 : T1 ≠ a := by walk_at "g_ne"
    have z2 : T2 ≠ a := by walk_at "g_ne"
    have z3 : T3 ≠ a := by walk_at "g_ne"
    have z4 : T4 ≠ a := by walk_at "g_ne"
    have z5 : T5 ≠ a := by walk_at "g_ne"
    have z6 : L ≠ a := by walk_at "g_ne"
    have y1 := a4 _ _ z1 (show _ = some (HO.tup [.str (PySem.Str.ofString "more"), .int 5, .int 6]) by walk_at "g_lk")
    have y2 := a4 _ _ z2 (show _ = some (HO.tup [.str (PySem.Str.ofString "more"), .int 5, .int (-6)]) by walk_at "g_lk")
    have y3 := a4 _ _ z3 (show _ = some (HO.tup [.str (PySem.Str.ofString "more"), .int 5, .int (-5)]) by walk_at "g_lk")
    have y4 := a4 _ _ z4 (show _ = some (HO.tup [.str (PySem.Str.ofString "more"), .int 5, .int 5]) by walk_at "g_lk")
    have y5 := a4 _ _ z5 (show _ = some (HO.tup [.str (PySem.Str.ofString "lead"), .int 0, .int 1]) by walk_at "g_lk")
    have y6 := a4 _ _ z6 (show _ = some (HO.lst [.ref T1, .ref T2, .ref T3, .ref T4, .ref T5]) by walk_at "g_lk")
    have hb : But a H1 H2 := by walk_at "g_but"
    clear n1 n2 n3 n4 n5 n6 a4
    have fb : ∀ (t : Addr) (w' : Str) (x y : Int), H2 t = some (.tup [.str w', .int x, .int y]) → PyData.strOk w' = true → Q (.ref t) H2 := fun t w' x y h1 h2 => fin t w' [.int x, .int y] [.int x, .int y] _ h1 (.cons (.int _) (.cons (.int _) .nil)) (f2 _ _ h2 (by simp [PyData.canLayAll0, PyData.canLay0]) (by simp [depA, dep]) (by simp) (by simp [widA, wid])) (a3.mono (by omega)) hb
    obtain rfl | rfl | rfl | rfl | rfl : d1 = 0 ∨ d1 = 1 ∨ d1 = 2 ∨ d1 = 3 ∨ d1 = 4 := by omega
    · walk_at "go"; exact fb T1 _ _ _ y1 (by decide +kernel)
    · walk_at "go"; exact fb T2 _ _ _ y2 (by decide +kernel)
    · walk_at "go"; exact fb T3 _ _ _ y3 (by decide +kernel)
    · walk_at "go"; exact fb T4 _ _ _ y4 (by decide +kernel)
    · walk_at "go"; exact fb T5 _ _ _ y5 (by decide +kernel)
  walk_at "go"
  refine ite_d (fun c5 => ?_) (fun c5 => ?_)
  · walk_at "go"
    rename_i T1 n1 T2 n2 T3 n3 T4 n4 L n6 d1 H2 a2 a3 a4 vv hvv
    have z1 : T1 ≠ a := by walk_at "g_ne"
    have z2 : T2 ≠ a := by walk_at "g_ne"
    have z3 : T3 ≠ a := by walk_at "g_ne"
    have z4 : T4 ≠ a := by walk_at "g_ne"
    have y1 := a4 _ _ z1 (show _ = some (HO.tup [.str (PySem.Str.ofString "more"), .bl true, .int 0]) by walk_at "g_lk")
    have y2 := a4 _ _ z2 (show _ = some (HO.tup [.str (PySem.Str.ofString "lead"), .int 2, .bl false]) by walk_at "g_lk")
    have y3 := a4 _ _ z3 (show _ = some (HO.tup [.str (PySem.Str.ofString "more"), .int 3, .non]) by walk_at "g_lk")
    have y4 := a4 _ _ z4 (show _ = some (HO.tup [.str (PySem.Str.ofString "lead"), .str (PySem.Str.ofString "2"), .int 1]) by walk_at "g_lk")
    have hb : But a H1 H2 := by walk_at "g_but"
    clear n1 n2 n3 n4 n6 a4
    rcases hvv with rfl | rfl | rfl | rfl
    · exact fin _ _ [.bl true, .int 0] [.bool true, .int 0] _ y1 (.cons (.bl _) (.cons (.int _) .nil)) (f2 _ _ (by decide +kernel) (by simp [PyData.canLayAll0, PyData.canLay0]) (by simp [depA, dep]) (by simp) (by simp [widA, wid])) (a3.mono (by omega)) hb
    · exact fin _ _ [.int 2, .bl false] [.int 2, .bool false] _ y2 (.cons (.int _) (.cons (.bl _) .nil)) (f2 _ _ (by decide +kernel) (by simp [PyData.canLayAll0, PyData.canLay0]) (by simp [depA, dep]) (by simp) (by simp [widA, wid])) (a3.mono (by omega)) hb
    · exact fin _ _ [.int 3, .non] [.int 3, .none] _ y3 (.cons (.int _) (.cons .non .nil)) (f2 _ _ (by decide +kernel) (by simp [PyData.canLayAll0, PyData.canLay0]) (by simp [depA, dep]) (by simp) (by simp [widA, wid])) (a3.mono (by omega)) hb
    · exact fin _ _ [.str (PySem.Str.ofString "2"), .int 1] [.str (PySem.Str.ofString "2"), .int 1] _ y4 (.cons (.str _) (.cons (.int _) .nil)) (f2 _ _ (by decide +kernel) (by simp [PyData.canLayAll0, PyData.canLay0]; decide +kernel) (by simp [depA, dep]) (by simp) (by simp [widA, wid])) (a3.mono (by omega)) hb
  have same : ∀ {H' : Hp}, Pk a m H' (c + 30) → But a H1 H' → Q (.ref b) H' := fun z1 z2 => fin b w xs r _ (z2 _ _ nb l1') (gB z2) (p3.mono (by omega)) z1 z2
  walk_at "go"
  by_cases ct : w = PySem.Str.ofString "table"
  rotate_left
  · refine ite_y (by simp [ct]) ?_
    walk_at "go"
    exact same (pk1.mono (by omega)) (But.refl _ _)
  refine ite_n (by simp [ct]) ?_
  obtain ⟨d0, r', rfl⟩ : ∃ d0 r', r = d0 :: r' := by
    cases r with
    | nil => simp at p5
    | cons d0 r' => exact ⟨d0, r', rfl⟩
  cases g2 with
  | @cons x0 xs' _ _ h0 q0 =>
  have h0' := h0.same hid_same
  cases h0' with
  | non => walk_at "go"; exact same (pk1.mono (by omega)) (But.refl _ _)
  | bl b => walk_at "go"; exact same (pk1.mono (by omega)) (But.refl _ _)
  | int i => walk_at "go"; exact same (pk1.mono (by omega)) (But.refl _ _)
  | str x => walk_at "go"; exact same (pk1.mono (by omega)) (But.refl _ _)
  | tup h q => walk_at "go"; exact same (pk1.mono (by omega)) (But.refl _ _)
  | @lst P ys rs hP hys =>
  obtain ⟨_, _, e, hP', hy'⟩ := h0.list_inv
  cases e
  have nP := ne_hid hP'
  have eP := hid_same _ _ hP'
  rw [hP] at eP
  cases eP
  obtain ⟨ro, rl⟩ := rows_ok p3
  have hyl := hy'.len
  have fT : ∀ (t L : Addr) (us : List V) (rs' : List PyData) (H' : Hp), H' t = some (.tup [.str (PySem.Str.ofString "table"), .ref L]) → L ≠ a → H' L = some (.lst us) → DqAll (hid [a] H') us rs' → (∀ d ∈ rs', RwOk (kw + 2) d) → rs'.length ≤ kw + 2 → Pk a m H' (c + 30) → But a H1 H' → Q (.ref t) H' := fun t L us rs' H' z1 z2 z3 z4 z5 z6 z7 z8 =>
    fin t _ [.ref L] [.list rs'] H' z1 (.cons (.lst (hid_lk (not_in1 z2) z3) z4) .nil) (fb_rows z5 z6 (by omega)) z7 z8
  walk_at "go"
  refine ite_d (fun c6 => ?_) (fun c6 => ?_)
  · walk_at "go"
    exact same (pk1.mono (by omega)) (But.refl _ _)
  walk_at "go"
  intro D nD
  refine lcL_fl (xs := ys) (fun i => ((rs[i]?).map badR).getD true) nD (by omega) (SqL.of hP) ?_ ?_
  · intro i x H2 Z Y hx hs hz hy
    obtain ⟨d, e1, e2⟩ := hys.get' hx
    have e3 := e2.same hs
    cases e3 with
    | @lst b zs es h4 q4 =>
      have hl4 := q4.len
      walk_at "go"
      refine ite_d (fun c7 => ?_) (fun c7 => ?_)
      · walk_at "go"
        exact hz _ _ (by rw [e1]; exact decide_eq_true (by omega)) (Same.refl _)
      · exact hy _ (by rw [e1]; exact decide_eq_false (by omega)) (Same.refl _)
    | non => walk_at "go"; exact hz _ _ (by rw [e1]; rfl) (Same.refl _)
    | bl b => walk_at "go"; exact hz _ _ (by rw [e1]; rfl) (Same.refl _)
    | int i => walk_at "go"; exact hz _ _ (by rw [e1]; rfl) (Same.refl _)
    | str x => walk_at "go"; exact hz _ _ (by rw [e1]; rfl) (Same.refl _)
    | tup h q => walk_at "go"; exact hz _ _ (by rw [e1]; rfl) (Same.refl _)
  intro acc H2 hD hs hc ha
  have pk2 := pk1.same hs
  walk_at "go"
  refine ite_d (fun c7 => ?_) (fun c7 => ?_)
  · walk_at "go"
    exact same (pk2.mono (by omega)) (But.same hs)
  have hall : ∀ (i : Nat) d, rs[i]? = some d → ∃ es, d = .list es ∧ 1 ≤ es.length := fun i d e => by
    have := hc.mp (by omega) i (by have := (List.getElem?_eq_some_iff.mp e).1; omega)
    rw [e] at this
    exact badR_inv this
  have hP2 := hs _ _ hP
  have l2 := hs _ _ l1'
  have hb2 : But a H1 H2 := But.same hs
  have q2 : DqAll (hid [a] H2) ys rs := hy'.same (hid_mono hs)
  clear hc ha hD hs pk1 hP hys h0 q0 fin
  walk_at "go"
  rename_i at1 H3 b1 b2 b3
  have hP3 := b3 _ _ nP hP2
  have l3 := b3 _ _ nb l2
  have q3 := q2.same (hid_but (S := [a]) (by simp) b3)
  have hb3 := hb2.trans b3
  obtain ⟨x1, hat, hx1⟩ := at_lt (xs := ys) (i := at1) (by omega) (by omega)
  obtain ⟨d1, e1, e2⟩ := q3.get' hx1
  obtain ⟨es, rfl, he⟩ := hall _ _ e1
  obtain ⟨R, zs, rfl, hR', hz'⟩ := e2.list_inv
  have nR := ne_hid hR'
  have hR := hid_same _ _ hR'
  have hzl := hz'.len
  have re := ro _ (List.mem_of_getElem? e1)
  obtain ⟨re1, re2⟩ := rw_inv re
  clear b3 hP2 l2 q2 hb2 pk2
  walk_at "go"
  rename_i k1 H4 b4 b5 b6
  have hP4 := b6 _ _ nP hP3
  have hR4 := b6 _ _ nR hR
  have q4 := q3.same (hid_but (S := [a]) (by simp) b6)
  have z4 := hz'.same (hid_but (S := [a]) (by simp) b6)
  have hb4 := hb3.trans b6
  have pk4 : Pk a m H4 (c + 12) := b5.mono (by omega)
  clear b2 b5 b6 hP3 hR hR' q3 hz' hb3 l3
  have al : at1.toNat < rs.length := by omega
  have g1 : ∀ {H' : Hp}, But a H4 H' → DqAll (hid [a] H') ys rs := fun b => q4.same (hid_but (S := [a]) (by simp) b)
  have gt : ∀ {H' : Hp} (n : Nat), But a H4 H' → DqAll (hid [a] H') (ys.take n) (rs.take n) := fun n b => (g1 b).take n
  have gd : ∀ {H' : Hp} (n : Nat), But a H4 H' → DqAll (hid [a] H') (ys.drop n) (rs.drop n) := fun n b => (g1 b).drop n
  have gz : ∀ {H' : Hp}, But a H4 H' → DqAll (hid [a] H') zs es := fun b => z4.same (hid_but (S := [a]) (by simp) b)
  have oks : ∀ (x : PyData), RwOk (kw + 2) x → ∀ d ∈ rs.take at1.toNat ++ [x] ++ rs.drop (at1 + 1).toNat, RwOk (kw + 2) d := fun x hx d hd => by
    rcases List.mem_append.mp hd with h | h
    · rcases List.mem_append.mp h with h | h
      · exact (ro d (List.mem_of_mem_take h)).mono (by omega)
      · rw [List.mem_singleton.mp h]; exact hx
    · exact (ro d (List.mem_of_mem_drop h)).mono (by omega)
  have lens : ∀ (x : PyData), (rs.take at1.toNat ++ [x] ++ rs.drop (at1 + 1).toNat).length ≤ kw + 2 := fun x => by
    rw [List.length_append, List.length_append, List.length_take, List.length_drop, List.length_singleton]
    omega
  have mid : ∀ (t L : Addr) (u : V) (x : PyData) (H' : Hp), H' t = some (.tup [.str (PySem.Str.ofString "table"), .ref L]) → L ≠ a → H' L = some (.lst (ys.take at1.toNat ++ [u] ++ ys.drop (at1 + 1).toNat)) → Dq (hid [a] H') u x → RwOk (kw + 2) x → Pk a m H' (c + 30) → But a H4 H' → Q (.ref t) H' := fun t L u x H' z1 z2 z3 z4 z5 z6 z7 =>
    fT t L _ (rs.take at1.toNat ++ [x] ++ rs.drop (at1 + 1).toNat) H' z1 z2 z3 (((gt _ z7).append (.cons z4 .nil)).append (gd _ z7)) (oks x z5) (lens x) z6 (hb4.trans z7)
  walk_at "go"
  refine ite_d (fun c8 => ?_) (fun c8 => ?_)
  · walk_at "go"
    rename_i L1 n1 L2 n2 L3 n3 L4 n4 L5 n5 L6 n6 L7 n7
    have z3 : L3 ≠ a := by walk_at "g_ne"
    have z6 : L6 ≠ a := by walk_at "g_ne"
    obtain rfl | rfl : ch = 6 ∨ ch = 7 := by omega
    · walk_at "go"
      rename_i t nt
      have hb : But a H4 (upd (upd (upd (upd (upd (upd (upd (upd H4 L1 (.lst (ys.take at1.toNat))) L2 (.lst (ys.drop (at1 + 1).toNat))) L3 (.lst (ys.take at1.toNat ++ ys.drop (at1 + 1).toNat))) L4 (.lst (ys.take (at1 + 1).toNat))) L5 (.lst (ys.drop at1.toNat))) L6 (.lst (ys.take (at1 + 1).toNat ++ ys.drop at1.toNat))) L7 (.lst [.ref L3, .ref L6])) t (.tup [.str (PySem.Str.ofString "table"), .ref L3])) := by walk_at "g_but"
      refine fT t L3 _ (rs.take at1.toNat ++ rs.drop (at1 + 1).toNat) _ upd_same z3 (by walk_at "g_lk") ((gt _ hb).append (gd _ hb)) (fun d hd => ?_) ?_ (Pk.mono (by walk_at "g_pk") (by omega)) (hb4.trans hb)
      · rcases List.mem_append.mp hd with h | h
        · exact (ro d (List.mem_of_mem_take h)).mono (by omega)
        · exact (ro d (List.mem_of_mem_drop h)).mono (by omega)
      · rw [List.length_append, List.length_take, List.length_drop]
        omega
    · walk_at "go"
      rename_i t nt
      have hb : But a H4 (upd (upd (upd (upd (upd (upd (upd (upd H4 L1 (.lst (ys.take at1.toNat))) L2 (.lst (ys.drop (at1 + 1).toNat))) L3 (.lst (ys.take at1.toNat ++ ys.drop (at1 + 1).toNat))) L4 (.lst (ys.take (at1 + 1).toNat))) L5 (.lst (ys.drop at1.toNat))) L6 (.lst (ys.take (at1 + 1).toNat ++ ys.drop at1.toNat))) L7 (.lst [.ref L3, .ref L6])) t (.tup [.str (PySem.Str.ofString "table"), .ref L6])) := by walk_at "g_but"
      refine fT t L6 _ (rs.take (at1 + 1).toNat ++ rs.drop at1.toNat) _ upd_same z6 (by walk_at "g_lk") ((gt _ hb).append (gd _ hb)) (fun d hd => ?_) ?_ (Pk.mono (by walk_at "g_pk") (by omega)) (hb4.trans hb)
      · rcases List.mem_append.mp hd with h | h
        · exact (ro d (List.mem_of_mem_take h)).mono (by omega)
        · exact (ro d (List.mem_of_mem_drop h)).mono (by omega)
      · rw [List.length_append, List.length_take, List.length_drop]
        omega
  walk_at "go"
  refine ite_d (fun c9 => ?_) (fun c9 => ?_)
  · walk_at "go"
    rename_i L1 n1 L2 n2 L3 n3 L4 n4 L5 n5 L6 n6
    have e3 : ∀ e ∈ es, e.canLay0 = true ∧ dep e ≤ 1 ∧ wid e ≤ kw + 2 := fun e he => by
      have := re1 e he
      exact ⟨this.1, this.2.1, by omega⟩
    obtain rfl | rfl : ch = 8 ∨ ch = 9 := by omega
    · walk_at "go"
      rename_i M1 m1 M2 m2 M3 m3 M4 m4 M5 m5 t nt
      have zm : M5 ≠ a := by walk_at "g_ne"
      have z0 : L3 ≠ a := by walk_at "g_ne"
      refine mid t M5 (.ref L3) (.list (es.take k1.toNat ++ es.drop (k1 + 1).toNat)) _ upd_same zm (by walk_at "g_lk") (.lst (hid_lk (not_in1 z0) (by walk_at "g_lk")) ?_) (rw_list (fun e he => ?_) ?_) (Pk.mono (by walk_at "g_pk") (by omega)) (by walk_at "g_but")
      · exact ((gz (by walk_at "g_but")).take _).append ((gz (by walk_at "g_but")).drop _)
      · rcases List.mem_append.mp he with h | h
        · exact e3 e (List.mem_of_mem_take h)
        · exact e3 e (List.mem_of_mem_drop h)
      · rw [List.length_append, List.length_take, List.length_drop]; omega
    · walk_at "go"
      rename_i M1 m1 M2 m2 M3 m3 M4 m4 M5 m5 t nt
      have zm : M5 ≠ a := by walk_at "g_ne"
      have z0 : L5 ≠ a := by walk_at "g_ne"
      refine mid t M5 (.ref L5) (.list (es ++ [.int 0])) _ upd_same zm (by walk_at "g_lk") (.lst (hid_lk (not_in1 z0) (by walk_at "g_lk")) ?_) (rw_list (fun e he => ?_) ?_) (Pk.mono (by walk_at "g_pk") (by omega)) (by walk_at "g_but")
      · exact DqAll.snoc (gz (by walk_at "g_but")) (.int 0)
      · rcases List.mem_append.mp he with h | h
        · exact e3 e h
        · rw [List.mem_singleton.mp h]; simp [PyData.canLay0, dep, wid]
      · rw [List.length_append, List.length_singleton]; omega
  walk_at "go"
  refine ite_d (fun c10 => ?_) (fun c10 => ?_)
  · walk_at "go"
    rename_i l nl T1 n1 T2 n2 L n3 d2 H5 b1' b2' b3'
    have zl : l ≠ a := by walk_at "g_ne"
    have zT1 : T1 ≠ a := by walk_at "g_ne"
    have zT2 : T2 ≠ a := by walk_at "g_ne"
    have zL : L ≠ a := by walk_at "g_ne"
    have hb5 : But a H4 H5 := by walk_at "g_but"
    have xl := b3' _ _ zl (show _ = some (HO.lst zs) by walk_at "g_lk")
    have xT1 := b3' _ _ zT1 (show _ = some (HO.lst [.int 1]) by walk_at "g_lk")
    have xT2 := b3' _ _ zT2 (show _ = some (HO.tup [.int 1]) by walk_at "g_lk")
    have xL := b3' _ _ zL (show _ = some (HO.lst [.bl true, .non, .str (PySem.Str.ofString "1"), .ref T1, .ref T2]) by walk_at "g_lk")
    have nT1 : T1 ≠ l := fun e => by
      rw [e] at n1
      rw [upd_same] at n1
      cases n1
    have nT2 : T2 ≠ l := fun e => by rw [e, xl] at xT2; cases xT2
    have nPl : P ≠ l := ne_of_none hP4 nl
    have hP5 := hb5 _ _ nP hP4
    clear n1 n2 n3 b3'
    obtain ⟨u, x, hu, hx, ok⟩ : ∃ u x, atI [V.bl true, .non, .str (PySem.Str.ofString "1"), .ref T1, .ref T2] d2 = some u ∧ Dq (hid [a, l] H5) u x ∧ (x.canLay0 = true ∧ dep x ≤ 1 ∧ wid x ≤ kw + 2) := by
      obtain rfl | rfl | rfl | rfl | rfl : d2 = 0 ∨ d2 = 1 ∨ d2 = 2 ∨ d2 = 3 ∨ d2 = 4 := by omega
      · exact ⟨_, .bool true, rfl, .bl true, by simp [PyData.canLay0, dep, wid]⟩
      · exact ⟨_, .none, rfl, .non, by simp [PyData.canLay0, dep, wid]⟩
      · exact ⟨_, .str _, rfl, .str _, by simp [PyData.canLay0, dep, wid]; decide +kernel⟩
      · exact ⟨_, .list [.int 1], rfl, .lst (hid_lk (not_in2 zT1 nT1) xT1) (.cons (.int 1) .nil), by simp [PyData.canLay0, PyData.canLayAll0, dep, depA, wid, widA]⟩
      · exact ⟨_, .tuple [.int 1], rfl, .tup (hid_lk (not_in2 zT2 nT2) xT2) (.cons (.int 1) .nil), by simp [PyData.canLay0, PyData.canLayAll0, dep, depA, wid, widA]⟩
    walk_at "go"
    refine i_setL xl (ixN_nn (by omega) (by omega)) ?_
    have hP6 : upd H5 l (.lst (zs.set k1.toNat u)) P = some (.lst ys) := lk_upd nPl hP5
    have hb6 : But a H4 (upd H5 l (.lst (zs.set k1.toNat u))) := But.mutD nl hb5
    have pk6 : Pk a m (upd H5 l (.lst (zs.set k1.toNat u))) (c + 20) := (b2'.upd zl).mono (by omega)
    have xl6 : upd H5 l (.lst (zs.set k1.toNat u)) l = some (.lst (zs.set k1.toNat u)) := upd_same
    have hx6 : Dq (hid [a] (upd H5 l (.lst (zs.set k1.toNat u)))) u x := hx.same ((hid_upd (by simp)).trans (hid_less (fun b hb => by rw [List.mem_singleton.mp hb]; simp)))
    generalize hH : upd H5 l (.lst (zs.set k1.toNat u)) = H6 at *
    clear hH nl xl hP5
    walk_at "go"
    rename_i M1 m1 M2 m2 M3 m3 M4 m4 M5 m5 t nt
    have zm : M5 ≠ a := by walk_at "g_ne"
    refine mid t M5 (.ref l) (.list (es.set k1.toNat x)) _ upd_same zm (by walk_at "g_lk") (.lst (hid_lk (not_in1 zl) (by walk_at "g_lk")) (DqAll.set (gz (by walk_at "g_but")) (hx6.same (hid_mono (by walk_at "g_same"))) _)) (rw_list (fun e he => ?_) ?_) (Pk.mono (by walk_at "g_pk") (by omega)) (by walk_at "g_but")
    · rcases List.mem_or_eq_of_mem_set he with h | h
      · have := re1 e h
        exact ⟨this.1, this.2.1, by omega⟩
      · rw [h]; exact ok
    · rw [List.length_set]; omega
  walk_at "go"
  refine ite_d (fun c11 => ?_) (fun c11 => ?_)
  · walk_at "go"
    rename_i L1 n0 l nl L n3 d2 H5 b1' b2' b3'
    have zl : l ≠ a := by walk_at "g_ne"
    have zL1 : L1 ≠ a := by walk_at "g_ne"
    have zL : L ≠ a := by walk_at "g_ne"
    have hb5 : But a H4 H5 := by walk_at "g_but"
    have xl := b3' _ _ zl (show _ = some (HO.tup zs) by walk_at "g_lk")
    have xL1 := b3' _ _ zL1 (show _ = some (HO.lst (ys.take at1.toNat)) by walk_at "g_lk")
    have xL := b3' _ _ zL (show _ = some (HO.lst [.int 7, .non, .ref l]) by walk_at "g_lk")
    have hP5 := hb5 _ _ nP hP4
    clear n0 nl n3 b3'
    obtain ⟨u, x, hu, hx, ok⟩ : ∃ u x, atI [V.int 7, .non, .ref l] d2 = some u ∧ Dq (hid [a] H5) u x ∧ RwOk (kw + 2) x := by
      obtain rfl | rfl | rfl : d2 = 0 ∨ d2 = 1 ∨ d2 = 2 := by omega
      · exact ⟨_, .int 7, rfl, .int 7, by simp [RwOk, PyData.canLay0, dep, wid]⟩
      · exact ⟨_, .none, rfl, .non, by simp [RwOk, PyData.canLay0, dep, wid]⟩
      · exact ⟨_, .tuple es, rfl, .tup (hid_lk (not_in1 zl) xl) (gz hb5), (rw_tup re).mono (by omega)⟩
    walk_at "go"
    rename_i M1 m1 M2 m2 M3 m3 M4 m4 t nt
    have zm : M4 ≠ a := by walk_at "g_ne"
    exact mid t M4 u x _ upd_same zm (by walk_at "g_lk") (hx.same (hid_mono (by walk_at "g_same"))) ok (Pk.mono (by walk_at "g_pk") (by omega)) (by walk_at "g_but")
  walk_at "go"
  exact same (pk4.mono (by omega)) hb4
def sp_l_bent (K : PySem.W.Frag) : Sp := fun vs H Q E => ∃ (a : Addr) (m c : Int) (v : V) (f s : Int) (fs : List Fld), vs = [.ref a, v] ∧ (Pk a m H c) ∧ (c ≤ 70000) ∧ (Dq (hid [a] H) v (batD f s fs)) ∧ (BatOk f s fs) ∧ ∀ (u : V) (f' s' : Int) (ds : List PyData) (H' : Hp), (Dq (hid [a] H') u (batT f' s' ds)) → ((∀ d ∈ ds, FbD 24 d)) → (ds.length ≤ 10) → (Pk a m H' (c + 200)) → (But a H H') → Q (u) H'
theorem use_l_bent {K : PySem.W.Frag} {H : Hp} {Q : VK} {E : XK} {a : Addr} {m c : Int} {v : V} {f s : Int} {fs : List Fld} (p0 : Pk a m H c) (p1 : c ≤ 70000) (p2 : Dq (hid [a] H) v (batD f s fs)) (p3 : BatOk f s fs) (k : ∀ (u : V) (f' s' : Int) (ds : List PyData) (H' : Hp), (Dq (hid [a] H') u (batT f' s' ds)) → ((∀ d ∈ ds, FbD 24 d)) → (ds.length ≤ 10) → (Pk a m H' (c + 200)) → (But a H H') → Q (u) H') : sp_l_bent K [.ref a, v] H Q E := ⟨a, m, c, v, f, s, fs, rfl, p0, p1, p2, p3, k⟩
theorem len_l_bent {K : PySem.W.Frag} (vs : List V) (H : Hp) (Q : VK) (E : XK) (h : sp_l_bent K vs H Q E) : vs.length = ["_law_left_here", "_law_battle_here"].length := by
  obtain ⟨_, _, _, _, _, _, _, rfl, _⟩ := h
  rfl
local macro_rules | `(tactic| walk_at "g_call") => `(tactic| ((with_reducible refine' use_l_bent ?c0 ?c1 ?c2 ?c3 ?_); (case c0 => walk_at "g_pre"); (case c1 => walk_at "g_pre"); (case c2 => walk_at "g_pre"); (case c3 => walk_at "g_pre"); intros))
theorem ok_l_bent (T : Txt K mg) : FnOk P w K mg base CX0 4 T.a_l_bent T.d_l_bent ["_law_left_here", "_law_battle_here"] (sp_l_bent K) := by
  have G_l_draw := ok_l_draw (P := P) (w := w) (base := base) T
  have G_l_bent_rule := ok_l_bent_rule (P := P) (w := w) (base := base) T
  refine T.F_l_bent.ok sc_l_bent len_l_bent (fun cdv A outer s H vs Q E hr h => ?_)
  refine ⟨_, (pss_cons (ps_asg (pv 1) (pg_tupK K rfl 3 rfl (pgs_cons (pg_name (i := 2) sc_l_bent.nd rfl (Or.inl rfl)) (pgs_cons (pg_name (i := 3) sc_l_bent.nd rfl (Or.inl rfl)) (pgs_cons (pg_name (i := 4) sc_l_bent.nd rfl (Or.inl rfl)) pgs_nil)))))
      (pss_cons (ps_set (i := 5) sc_l_bent.nd rfl (Or.inl rfl) (pe_call G_l_draw (hr.mono (by first | decide | omega)) (by rfl) T.g_l_draw T.F_l_draw.kp T.b_l_draw .nil pass0 (pa_cons (pv 0) (pa_cons pe_int pa_nil))))
      (pss_cons (ps_if (pt_cmpR op_eq (pv 5) pe_int (nomark _)) (pss_one (ps_ret (pe_tup (pa_cons (pe_ix (ix_listK K rfl) (pe_lst (pa_cons (pe_un un_neg pe_int) (pa_cons pe_int (pa_cons pe_int (pa_cons pe_int pa_nil))))) (pe_call G_l_draw (hr.mono (by first | decide | omega)) (by rfl) T.g_l_draw T.F_l_draw.kp T.b_l_draw .nil pass0 (pa_cons (pv 0) (pa_cons pe_int pa_nil))) (fun _ _ => rfl)) (pa_cons (pv 3) (pa_cons (pv 4) pa_nil)))))) pss_nil)
      (pss_cons (ps_if (pt_cmpR op_eq (pv 5) pe_int (nomark _)) (pss_one (ps_ret (pe_tup (pa_cons (pv 2) (pa_cons (pe_ix (ix_listK K rfl) (pe_lst (pa_cons (pe_un un_neg pe_int) (pa_cons pe_int (pa_cons pe_int (pa_cons (pe_op op_pow pe_int pe_int) pa_nil))))) (pe_call G_l_draw (hr.mono (by first | decide | omega)) (by rfl) T.g_l_draw T.F_l_draw.kp T.b_l_draw .nil pass0 (pa_cons (pv 0) (pa_cons pe_int pa_nil))) (fun _ _ => rfl)) (pa_cons (pv 4) pa_nil)))))) pss_nil)
      (pss_cons (ps_if (pt_cmpR op_eq (pv 5) pe_int (nomark _)) (pss_one (ps_ret (pe_tup (pa_cons (pv 2) (pa_cons (pv 3) (pa_cons (pe_ix (ix_listK K rfl) (pe_lst (pa_cons (pe_lst pa_nil) (pa_cons (pe_op op_rep (pe_slice (sl_listK K rfl) (pv 4) po_none (po_some pe_int)) pe_int) (pa_cons (pe_op op_rep (pe_slice (sl_listK K rfl) (pv 4) po_none (po_some pe_int)) pe_int) pa_nil)))) (pe_call G_l_draw (hr.mono (by first | decide | omega)) (by rfl) T.g_l_draw T.F_l_draw.kp T.b_l_draw .nil pass0 (pa_cons (pv 0) (pa_cons pe_int pa_nil))) (fun _ _ => rfl)) pa_nil)))))) pss_nil)
      (pss_cons (ps_set (i := 6) sc_l_bent.nd rfl (Or.inl rfl) (pe_call G_l_draw (hr.mono (by first | decide | omega)) (by rfl) T.g_l_draw T.F_l_draw.kp T.b_l_draw .nil pass0 (pa_cons (pv 0) (pa_cons (pe_callB (call_lenK K rfl) (by rfl) T.z_len (by decide +kernel) (pa_cons (pv 4) pa_nil)) pa_nil))))
      (pss_cons (ps_set (i := 4) sc_l_bent.nd rfl (Or.inl rfl) (pe_op op_cat (pe_op op_cat (pe_slice (sl_listK K rfl) (pv 4) po_none (po_some (pv 6))) (pe_lst (pa_cons (pe_call G_l_bent_rule (hr.mono (by first | decide | omega)) (by rfl) T.g_l_bent_rule T.F_l_bent_rule.kp T.b_l_bent_rule .nil pass0 (pa_cons (pv 0) (pa_cons (pe_ix (ix_listK K rfl) (pv 4) (pv 6) (fun _ _ => rfl)) pa_nil))) pa_nil))) (pe_slice (sl_listK K rfl) (pv 4) (po_some (pe_op op_add (pv 6) pe_int)) po_none)))
      (pss_cons (ps_if (pt_cmpR op_eq (pv 5) pe_int (nomark _)) (pss_cons (ps_set (i := 6) sc_l_bent.nd rfl (Or.inl rfl) (pe_call G_l_draw (hr.mono (by first | decide | omega)) (by rfl) T.g_l_draw T.F_l_draw.kp T.b_l_draw .nil pass0 (pa_cons (pv 0) (pa_cons (pe_callB (call_lenK K rfl) (by rfl) T.z_len (by decide +kernel) (pa_cons (pv 4) pa_nil)) pa_nil))))
      (pss_one (ps_if (pt_cmpR op_gt (pe_callB (call_lenK K rfl) (by rfl) T.z_len (by decide +kernel) (pa_cons (pe_ix (ix_listK K rfl) (pv 4) (pv 6) (fun _ _ => rfl)) pa_nil)) pe_int (nomark _)) (pss_one (ps_set (i := 4) sc_l_bent.nd rfl (Or.inl rfl) (pe_op op_cat (pe_op op_cat (pe_slice (sl_listK K rfl) (pv 4) po_none (po_some (pv 6))) (pe_lst (pa_cons (pe_call G_l_bent_rule (hr.mono (by first | decide | omega)) (by rfl) T.g_l_bent_rule T.F_l_bent_rule.kp T.b_l_bent_rule .nil pass0 (pa_cons (pv 0) (pa_cons (pe_ix (ix_listK K rfl) (pv 4) (pv 6) (fun _ _ => rfl)) pa_nil))) pa_nil))) (pe_slice (sl_listK K rfl) (pv 4) (po_some (pe_op op_add (pv 6) pe_int)) po_none)))) pss_nil))) pss_nil)
      (pss_one (ps_ret (pe_tup (pa_cons (pv 2) (pa_cons (pv 3) (pa_cons (pv 4) pa_nil)))))))))))))), ?_⟩
  try dsimp only [L2.cxOf, L2.Cx.nox, L2.Cx.wish, List.map_cons, List.map_nil]
  obtain ⟨a, m, c, v, f, s, fs, rfl, p0, p1, p2, p3, k⟩ := h
  obtain ⟨A0, P, xs, rfl, h1, h2, h3⟩ := bat_inv p2
  have l1 := hid_same _ _ h1
  have l2 := hid_same _ _ h2
  have nP := ne_hid h2
  have nA := ne_hid h1
  have hl : xs.length = fs.length := by rw [h3.len, List.length_map]
  have b1 := p3.hf
  have b2 := p3.hs
  have b3 := p3.ne
  have fb : ∀ d ∈ fs.map fldD, FbD 20 d := fun d hd => by
    obtain ⟨x, hx, rfl⟩ := List.mem_map.mp hd
    exact fb_fld b1.2 b2.2 (p3.ok x hx)
  refine start_to (σ := [some _, some _, none, none, none, none, none]) rfl ?_
  walk_at "go"
  rename_i ch H1 a1 a2 a3
  have l2' := a3 _ _ nP l2
  have g0 : DqAll (hid [a] H1) xs (fs.map fldD) := h3.same (hid_but (by simp) a3)
  have fin : ∀ (f' s' : Int) (L t : Addr) (ys : List V) (ds : List PyData) (H' : Hp), L ≠ a → H' t = some (.tup [.int f', .int s', .ref L]) → H' L = some (.lst ys) → DqAll (hid [a] H') ys ds → (∀ d ∈ ds, FbD 24 d) → ds.length ≤ 10 → Pk a m H' (c + 200) → But a H1 H' → Q (.ref t) H' := fun f' s' L t ys ds H' z1 z2 z3 z4 z5 z6 z7 z8 =>
    k _ f' s' ds H' (batT_mk (hid_lk (not_in1 (z7.neT z2)) z2) (hid_lk (not_in1 z1) z3) z4) z5 z6 z7 (a3.trans z8)
  have fb4 : ∀ d ∈ fs.map fldD, FbD 24 d := fun d hd => (fb d hd).mono (by omega)
  have gB : ∀ {H' : Hp}, But a H1 H' → DqAll (hid [a] H') xs (fs.map fldD) := fun b => g0.same (hid_but (by simp) b)
  have pk1 : Pk a m H1 (c + 4) := a2
  have fl5 : (fs.map fldD).length ≤ 10 := by rw [List.length_map]; omega
  clear a2 a3 k p0 p2 l1 l2 h1 h2 h3
  refine ite_d (fun c0 => ?_) (fun c0 => ?_)
  · walk_at "go"
    rename_i L n1 d1 H2 e1 e2 e3 vv hvv t nt
    exact fin vv s P t xs _ _ nP upd_same (by walk_at "g_lk") (gB (by walk_at "g_but")) fb4 fl5 (Pk.mono (by walk_at "g_pk") (by omega)) (by walk_at "g_but")
  walk_at "go"
  refine ite_d (fun c1 => ?_) (fun c1 => ?_)
  · walk_at "go"
    rename_i L n1 d1 H2 e1 e2 e3 vv hvv t nt
    exact fin f vv P t xs _ _ nP upd_same (by walk_at "g_lk") (gB (by walk_at "g_but")) fb4 fl5 (Pk.mono (by walk_at "g_pk") (by omega)) (by walk_at "g_but")
  walk_at "go"
  refine ite_d (fun c2 => ?_) (fun c2 => ?_)
  · walk_at "go"
    rename_i L0 n0 L1 n1
    have hx1 : (xs.take (Int.toNat 1)).length = 1 := by rw [List.length_take]; show min 1 _ = 1; omega
    refine i_rep upd_same (by decide) (sz4 (by rw [hx1]; decide)) fun L2 n2 => ?_
    walk_at "go"
    rename_i L3 n3
    refine i_rep upd_same (by decide) (sz4 (by rw [hx1]; decide)) fun L4 n4 => ?_
    walk_at "go"
    rename_i L5 n5 d1 H2 e1 e2 e3 vv hvv t nt
    have z0 : L0 ≠ a := by walk_at "g_ne"
    have z2 : L2 ≠ a := by walk_at "g_ne"
    have z4 : L4 ≠ a := by walk_at "g_ne"
    have y0 := e3 _ _ z0 (show _ = some (HO.lst []) by walk_at "g_lk")
    have y2 := e3 _ _ z2 (show _ = some (HO.lst (List.replicate (Int.toNat 6) (xs.take (Int.toNat 1))).flatten) by walk_at "g_lk")
    have y4 := e3 _ _ z4 (show _ = some (HO.lst (List.replicate (Int.toNat 5) (xs.take (Int.toNat 1))).flatten) by walk_at "g_lk")
    have hb : But a H1 H2 := by walk_at "g_but"
    have hx2 : ((fs.map fldD).take (Int.toNat 1)).length = 1 := by rw [List.length_take, List.length_map]; show min 1 _ = 1; omega
    have ln : ∀ n, (List.replicate n ((fs.map fldD).take (Int.toNat 1))).flatten.length = n := fun n => by rw [flat_len, hx2, Nat.mul_one]
    have mm : ∀ n, ∀ d ∈ (List.replicate n ((fs.map fldD).take (Int.toNat 1))).flatten, FbD 24 d := fun n d hd => fb4 d (List.mem_of_mem_take (flat_mem hd))
    have pk2 : Pk a m H2 (c + 20) := e2.mono (by omega)
    clear n0 n1 n2 n3 n4 n5 e3
    rcases hvv with rfl | rfl | rfl
    · exact fin f s _ t [] [] _ z0 upd_same (lk_new nt y0) .nil (by simp) (by simp) ((pk2.new nt).mono (by omega)) (But.new hb nt)
    · exact fin f s _ t _ _ _ z2 upd_same (lk_new nt y2) ((((gB hb).take _).rep6 (Int.toNat 6)).same (hid_mono (Same.new nt))) (mm _) (by rw [ln]; decide) ((pk2.new nt).mono (by omega)) (But.new hb nt)
    · exact fin f s _ t _ _ _ z4 upd_same (lk_new nt y4) ((((gB hb).take _).rep6 (Int.toNat 5)).same (hid_mono (Same.new nt))) (mm _) (by rw [ln]; decide) ((pk2.new nt).mono (by omega)) (But.new hb nt)
  walk_at "go"
  rename_i at1 H2 e1 e2 e3 L1 n1
  have l3 := e3 _ _ nP l2'
  obtain ⟨x1, hat, hx1⟩ := at_lt (xs := xs) (i := at1) (by omega) (by omega)
  obtain ⟨d1, f1, f2⟩ := (gB e3).get' hx1
  rw [List.getElem?_map] at f1
  obtain ⟨fl, f3, f4⟩ : ∃ fl, fs[at1.toNat]? = some fl ∧ d1 = fldD fl := by
    cases e : fs[at1.toNat]? with
    | none => rw [e] at f1; cases f1
    | some fl => rw [e] at f1; cases f1; exact ⟨fl, rfl, rfl⟩
  subst f4
  obtain ⟨w1, r1, f5, f6, f7⟩ := fb_fld1 b1.2 b2.2 (p3.at f3)
  rw [f5] at f2
  have f2' : Dq (hid [a] (upd H2 L1 (.lst (xs.take at1.toNat)))) x1 (.tuple (.str w1 :: r1)) := f2.same (hid_mono (Same.new n1))
  have f8 : 20 ≤ 30 ∧ 1 ≤ r1.length := ⟨by decide, f7⟩
  walk_at "go"
  rename_i u1 d2 H3 e4 e5 e6 e7 L2 n2 L3 n3 L4 n4 L5 n5
  have ml : ∀ (zs : List PyData) (n : Nat) (x : PyData), n < zs.length → (zs.take n ++ [x] ++ zs.drop (n + 1)).length = zs.length := fun zs n x hn => by
    rw [List.length_append, List.length_append, List.length_take, List.length_drop, List.length_singleton]
    omega
  have zL5 : L5 ≠ a := by walk_at "g_ne"
  have hb4 : But a H1 (upd (upd (upd (upd H3 L2 (.lst [u1])) L3 (.lst (xs.take at1.toNat ++ [u1]))) L4 (.lst (xs.drop (at1 + 1).toNat))) L5 (.lst (xs.take at1.toNat ++ [u1] ++ xs.drop (at1 + 1).toNat))) := by walk_at "g_but"
  have pk4 : Pk a m (upd (upd (upd (upd H3 L2 (.lst [u1])) L3 (.lst (xs.take at1.toNat ++ [u1]))) L4 (.lst (xs.drop (at1 + 1).toNat))) L5 (.lst (xs.take at1.toNat ++ [u1] ++ xs.drop (at1 + 1).toNat))) (c + 50) := Pk.mono (by walk_at "g_pk") (by omega)
  have s4 : Same H3 (upd (upd (upd (upd H3 L2 (.lst [u1])) L3 (.lst (xs.take at1.toNat ++ [u1]))) L4 (.lst (xs.drop (at1 + 1).toNat))) L5 (.lst (xs.take at1.toNat ++ [u1] ++ xs.drop (at1 + 1).toNat))) := by walk_at "g_same"
  generalize hH : upd (upd (upd (upd H3 L2 _) L3 _) L4 _) L5 _ = H4 at *
  have y5 : H4 L5 = some (.lst (xs.take at1.toNat ++ [u1] ++ xs.drop (at1 + 1).toNat)) := by rw [← hH]; exact upd_same
  have i1 : (at1 + 1).toNat = at1.toNat + 1 := by omega
  rw [i1] at y5
  have dq4 : DqAll (hid [a] H4) (xs.take at1.toNat ++ [u1] ++ xs.drop (at1.toNat + 1)) ((fs.map fldD).take at1.toNat ++ [d2] ++ (fs.map fldD).drop (at1.toNat + 1)) := (((gB hb4).take _).append (.cons (e4.same (hid_mono s4)) .nil)).append ((gB hb4).drop _)
  have fd4 : ∀ d ∈ (fs.map fldD).take at1.toNat ++ [d2] ++ (fs.map fldD).drop (at1.toNat + 1), FbD 22 d := fun d hd => by
    rcases List.mem_append.mp hd with h | h
    · rcases List.mem_append.mp h with h | h
      · exact (fb d (List.mem_of_mem_take h)).mono (by omega)
      · rw [List.mem_singleton.mp h]; exact e5
    · exact (fb d (List.mem_of_mem_drop h)).mono (by omega)
  have ll4 : ((fs.map fldD).take at1.toNat ++ [d2] ++ (fs.map fldD).drop (at1.toNat + 1)).length = fs.length := by rw [ml _ _ _ (by rw [List.length_map]; omega), List.length_map]
  clear hH n1 n2 n3 n4 n5 e4 e5 e6 e7 s4 f2 f2' hat hx1 l3 e3 e2
  generalize hy : xs.take at1.toNat ++ [u1] ++ xs.drop (at1.toNat + 1) = ys at *
  generalize hd : (fs.map fldD).take at1.toNat ++ [d2] ++ (fs.map fldD).drop (at1.toNat + 1) = ds at *
  have yl : ys.length = ds.length := dq4.len
  refine ite_d (fun c3 => ?_) (fun c3 => ?_)
  rotate_left
  · walk_at "go"
    rename_i t nt
    exact fin f s L5 t ys ds _ zL5 upd_same (lk_new nt y5) (dq4.same (hid_mono (Same.new nt))) (fun d h => (fd4 d h).mono (by omega)) (by omega) ((pk4.new nt).mono (by omega)) (But.new hb4 nt)
  walk_at "go"
  rename_i at2 H5 e1 e2 e3
  have y6 := e3 _ _ zL5 y5
  have dq5 := dq4.same (hid_but (S := [a]) (by simp) e3)
  have hb5 := hb4.trans e3
  have pk5 : Pk a m H5 (c + 60) := e2.mono (by omega)
  obtain ⟨x2, hat, hx2⟩ := at_lt (xs := ys) (i := at2) (by omega) (by omega)
  obtain ⟨d3, f1, f2⟩ := dq5.get' hx2
  obtain ⟨w3, r3, rfl, f6⟩ := fd4 d3 (List.mem_of_getElem? f1)
  obtain ⟨q, zs, rfl, g1, g2⟩ := fldT_inv f2
  have nq := ne_hid g1
  have g1' := hid_same _ _ g1
  have zl := g2.len
  have f66 := f6.2.2.2.1
  have fin2 : ∀ (t : Addr) (H' : Hp), H' t = some (.tup [.int f, .int s, .ref L5]) → Same H5 H' → Q (.ref t) H' := fun t H' h1 h2 => fin f s L5 t ys ds _ zL5 h1 (h2 _ _ y6) (dq5.same (hid_mono h2)) (fun d h => (fd4 d h).mono (by omega)) (by omega) ((pk5.same h2).mono (by omega)) (hb5.trans (But.same h2))
  clear e2 e3 hb4 pk4 dq4 y5
  walk_at "go"
  refine ite_d (fun c4 => ?_) (fun c4 => ?_)
  rotate_left
  · walk_at "go"
    rename_i t nt
    exact fin2 t _ upd_same (Same.new nt)
  have f8 : 22 ≤ 30 ∧ 1 ≤ r3.length := ⟨by decide, by simp at c4; omega⟩
  walk_at "go"
  rename_i M1 m1 u3 d4 H6 e4 e5 e6 e7 M2 m2 M3 m3 M4 m4 M5 m5 t nt
  have zM : M5 ≠ a := by walk_at "g_ne"
  have bb : But a H5 (upd (upd (upd (upd (upd H6 M2 (.lst [u3])) M3 (.lst (ys.take at2.toNat ++ [u3]))) M4 (.lst (ys.drop (at2 + 1).toNat))) M5 (.lst (ys.take at2.toNat ++ [u3] ++ ys.drop (at2 + 1).toNat))) t (.tup [.int f, .int s, .ref M5])) := by walk_at "g_but"
  have i2 : (at2 + 1).toNat = at2.toNat + 1 := by omega
  have dd := dq5.same (hid_but (S := [a]) (by simp) bb)
  refine fin f s M5 t _ (ds.take at2.toNat ++ [d4] ++ ds.drop (at2 + 1).toNat) _ zM upd_same (by walk_at "g_lk") ?_ (fun d h => ?_) (by rw [i2, ml _ _ _ (by omega)]; omega) (Pk.mono (by walk_at "g_pk") (by omega)) (hb5.trans bb)
  · exact ((dd.take _).append (.cons (e4.same (hid_mono (by walk_at "g_same"))) .nil)).append (dd.drop _)
  · rcases List.mem_append.mp h with h | h
    · rcases List.mem_append.mp h with h | h
      · exact (fd4 d (List.mem_of_mem_take h)).mono (by omega)
      · rw [List.mem_singleton.mp h]; exact e5
    · exact (fd4 d (List.mem_of_mem_drop h)).mono (by omega)

theorem DqAll.six {H : Hp} {xs : List V} {d0 d1 d2 d3 d4 d5 : PyData} (h : DqAll H xs [d0, d1, d2, d3, d4, d5]) : ∃ x0 x1 x2 x3 x4 x5, xs = [x0, x1, x2, x3, x4, x5] ∧ Dq H x0 d0 ∧ Dq H x1 d1 ∧ Dq H x2 d2 ∧ Dq H x3 d3 ∧ Dq H x4 d4 ∧ Dq H x5 d5 := by
  cases h with | cons h0 h => cases h with | cons h1 h => cases h with | cons h2 h => cases h with | cons h3 h => cases h with | cons h4 h => cases h with | cons h5 h => cases h with | nil => exact ⟨_, _, _, _, _, _, rfl, h0, h1, h2, h3, h4, h5⟩
def sp_law (K : PySem.W.Frag) : Sp := fun vs H Q E => ∃ (a : Addr) (ns : List Int), vs = [.ref a] ∧ (SqL K H a (ns.map V.int)) ∧ (ns.length ≤ 63) ∧ ∀ (H' : Hp), Q (.bl true) H'
theorem use_law {K : PySem.W.Frag} {H : Hp} {Q : VK} {E : XK} {a : Addr} {ns : List Int} (p0 : SqL K H a (ns.map V.int)) (p1 : ns.length ≤ 63) (k : ∀ (H' : Hp), Q (.bl true) H') : sp_law K [.ref a] H Q E := ⟨a, ns, rfl, p0, p1, k⟩
theorem len_law {K : PySem.W.Frag} (vs : List V) (H : Hp) (Q : VK) (E : XK) (h : sp_law K vs H Q E) : vs.length = ["_law_script"].length := by
  obtain ⟨_, _, rfl, _⟩ := h
  rfl
theorem ok_law (T : Txt K mg) : FnOk P w K mg base CX0 13 T.a_law T.d_law ["_law_script"] (sp_law K) := by
  have G_l_left := ok_l_left (P := P) (w := w) (base := base) T
  have G_l_bent := ok_l_bent (P := P) (w := w) (base := base) T
  have G_l_deep := ok_l_deep (P := P) (w := w) (base := base) T
  have G_l_due := ok_l_due (P := P) (w := w) (base := base) T
  have G_l_battle := ok_l_battle (P := P) (w := w) (base := base) T
  have G_l_refused := ok_l_refused (P := P) (w := w) (base := base) T
  have G_l_draw := ok_l_draw (P := P) (w := w) (base := base) T
  refine T.F_law.ok sc_law len_law (fun cdv A outer s H vs Q E hr h => ?_)
  refine ⟨_, (pss_cons (ps_for PassesOwn.never rfl (pi_listK K rfl (pe_op op_cat (pe_lst (pa_cons pe_int pa_nil)) (pe_slice (sl_listK K rfl) (pv 0) po_none (po_some pe_int)))) (pg_name (i := 1) sc_law.nd rfl (Or.inl rfl)) (pss_cons (ps_set (i := 2) sc_law.nd rfl (Or.inl rfl) (pe_call G_l_left (hr.mono (by first | decide | omega)) (by rfl) T.g_l_left T.F_l_left.kp T.b_l_left .nil pass0 (pa_cons (pe_lst (pa_cons (pv 1) pa_nil)) (pa_cons pe_int pa_nil))))
      (pss_cons (ps_set (i := 3) sc_law.nd rfl (Or.inl rfl) (pe_call G_l_bent (hr.mono (by first | decide | omega)) (by rfl) T.g_l_bent T.F_l_bent.kp T.b_l_bent .nil pass0 (pa_cons (pv 2) (pa_cons (pe_call G_l_battle (hr.mono (by first | decide | omega)) (by rfl) T.g_l_battle T.F_l_battle.kp T.b_l_battle .nil pass0 (pa_cons (pv 2) (pa_cons (pe_ix (ix_listK K rfl) (pe_lst (pa_cons pe_int (pa_cons pe_int pa_nil))) (pe_call G_l_draw (hr.mono (by first | decide | omega)) (by rfl) T.g_l_draw T.F_l_draw.kp T.b_l_draw .nil pass0 (pa_cons (pv 2) (pa_cons pe_int pa_nil))) (fun _ _ => rfl)) (pa_cons pe_int pa_nil)))) pa_nil))))
      (pss_cons (ps_set (i := 4) sc_law.nd rfl (Or.inr rfl) (pe_call G_l_deep (hr.mono (by first | decide | omega)) (by rfl) T.g_l_deep T.F_l_deep.kp T.b_l_deep .nil pass0 (pa_cons (pv 3) pa_nil)))
      (pss_cons (ps_set (i := 5) sc_law.nd rfl (Or.inl rfl) (pe_call G_l_due (hr.mono (by first | decide | omega)) (by rfl) T.g_l_due T.F_l_due.kp T.b_l_due .nil pass0 (pa_cons (pv 3) pa_nil)))
      (pss_cons (ps_setLc (i := 6) (own := [("_law_which", 7)]) rfl sc_law.nd rfl rfl (sw_true rfl rfl rfl (by decide +kernel)) (pi_range1 rfl T.z_range (pa_cons pe_int pa_nil)) (blkOk_by (own := [("_law_which", 7)]) (N := ["_law_script", "_law_cell", "_law_left_here", "_law_battle_here", "_law_handed", "_law_due_here", "_law_told", "_law_which"]) (sc := defScope s_law) (by decide +kernel)) (fun _ _ _ _ _ => (pg_name (i := 7) sc_law.nd rfl (Or.inl rfl))) (fun _ _ _ _ _ => pts_nil) (fun _ _ _ _ _ => (pe_call G_l_refused (hr.mono (by first | decide | omega)) (by rfl) T.g_l_refused T.F_l_refused.kp T.b_l_refused .nil pass0 (pa_cons (pv 4) (pa_cons (pv 7) pa_nil)))))
      (pss_cons (ps_if (PW.pt (pw_and (pt_cmpR op_isN (pv 5) pe_non (nomark _)) (pw_and1 (pt_cmpR (op_neDK K rfl hr.units) (pe_lst (pa_cons (pe_ix (ix_listK K rfl) (pv 6) pe_int (fun _ _ => rfl)) (pa_cons (pe_ix (ix_listK K rfl) (pv 6) pe_int (fun _ _ => rfl)) (pa_cons (pe_ix (ix_listK K rfl) (pv 6) pe_int (fun _ _ => rfl)) pa_nil)))) (pe_op op_rep (pe_lst (pa_cons (pe_lst pa_nil) pa_nil)) pe_int) (nomark _))))) (pss_one (ps_ret pe_bl)) pss_nil)
      (pss_cons (ps_if (PW.pt (pw_and (pt_cmpR op_notN (pv 5) pe_non (nomark _)) (pw_and1 (pt_cmpR (op_neDK K rfl hr.units) (pv 6) (pe_op op_rep (pe_lst (pa_cons (pe_lst (pa_cons pe_str (pa_cons (pv 5) (pa_cons pe_bl pa_nil)))) pa_nil)) pe_int) (nomark _))))) (pss_one (ps_ret pe_bl)) pss_nil)
      (pss_one (ps_if (pt_cmpR (op_neDK K rfl hr.units) (pv 4) (pv 3) (nomark _)) (pss_one (ps_ret pe_bl)) pss_nil))))))))))
      (pss_one (ps_ret pe_bl))), ?_⟩
  try dsimp only [L2.cxOf, L2.Cx.nox, L2.Cx.wish, List.map_cons, List.map_nil]
  obtain ⟨a, ns, rfl, p0, p1, k⟩ := h
  refine start_to (σ := [some _, none, none, none, none, none, none, none]) rfl ?_
  walk_at "go"
  rename_i p1 hp1 p2 hp2 p3 hp3
  obtain ⟨ms, hms⟩ : ∃ ms : List Int, [V.int 0] ++ List.map V.int (List.take (Int.toNat 40) ns) = ms.map V.int := ⟨0 :: ns.take 40, rfl⟩
  rw [hms]
  refine forL (xs := ms.map V.int) (fun i σ H1 => ∃ y1 y2 y3 y4 y5 y6 : Option V, σ = [some (.ref a), y1, y2, y3, y4, y5, y6, none] ∧ H1 p3 = some (.lst (ms.map V.int))) ⟨_, _, _, _, _, _, rfl, upd_same⟩ ?_ ?_ ?_
  · rintro i σ H1 _ ⟨y1, y2, y3, y4, y5, y6, rfl, h⟩
    exact SqL.of h
  · rintro σ H1 ⟨y1, y2, y3, y4, y5, y6, rfl, h⟩
    walk_at "go"
    exact k _
  · rintro i x σ H1 hx ⟨y1, y2, y3, y4, y5, y6, rfl, h⟩
    obtain ⟨z, rfl, _⟩ := ints_at hx
    clear hp1 hp2 hp3 p0 p1 hms hx
    walk_at "go"
    rename_i p4 u0 m pL H2 u1 u2 u3 p5 u4 d1 H3 u5 u6 u7 vv u8 v f s fs G1 H4 b1 b2 b3 b4 b5 b6 b7 b8
    have hp3 : p3 ≠ pL := (ne_of_none (lk_new u0 h) u3)
    have j3 : H4 p3 = some (.lst (ms.map V.int)) := by walk_at "g_lk"
    have gL : G1 pL = none := b5.pk u6
    have d0 : Dq (hid [pL] H4) v (batD f s fs) := b1.same (same_hid1 b6 gL)
    clear u0 u1 u2 u3 u4 u5 u6 u7 u8 b1 b3 b4 b5 b6 b8 h
    walk_at "go"
    rename_i u f' s' ds H5 c1 c2 c3 c4 c5
    have j5 := c5 _ _ hp3 j3
    have du := c1.same hid_same
    have fin : ∀ d ∈ ds, FldIn d := fun d hd => (c2 d hd).fin (by decide)
    have dl : ds.length ≤ 1000 := by omega
    have dw : dep (batT f' s' ds) < 12 ∧ wid (batT f' s' ds) ≤ 1000 := by
      have h1 : depA ds ≤ 4 := depA_le fun d hd => (c2 d hd).dep
      have h2 : widA ds ≤ 25 := widA_le fun d hd => (c2 d hd).wid
      simp only [batT, dep, depA, wid, widA, List.length_cons, List.length_nil]
      omega
    clear c1 c4 c5 j3 d0 b7
    walk_at "go"
    rename_i w S H6 o1 s6 H7 s7
    have dw7 : Dq H7 w (batT f' s' ds) := o1.dq.same s7
    have du7 := du.same (s6.trans s7)
    have j7 := s7 _ _ (s6 _ _ j5)
    clear o1 du s6 s7 j5
    intro D nD
    refine lcR_new (fun i => RefD (badB f' s' ds) i) nD (by decide) ?_ ?_
    · intro i H8 Z Y hi hs hz
      have dw8 := dw7.same hs
      have hi2 : 0 ≤ (0 + (i : Int)) ∧ (0 + (i : Int)) ≤ 5 := by
        have : i < 6 := hi
        omega
      walk_at "go"
      rename_i u1 G H9 g1 g2 g3 g4
      exact hz u1 G H9 (by rw [Int.zero_add] at g1; exact g1) g2 g3 g4
    intro G H8 g1 g2 g3 g4
    have dw8 := dw7.same g4
    have du8 := du7.same g4
    have j8 := g4 _ _ j7
    have hsh : SeqAt.shaped (batT f' s' ds) = true := shaped_of (by simp [batT, PyData.canLay0, PyData.canLayAll0, lay_all fun d hd => (c2 d hd).lay]) (by omega)
    have g1' := g1.same g3
    clear g1 g2 g3 g4 dw7 du7 j7 c2 fin dw
    cases hb : badB f' s' ds with
    | none =>
      rw [hb] at g1'
      obtain ⟨D1, xs, hD, g5, g6⟩ := g1'.list_inv
      obtain rfl := V.ref.inj hD
      obtain ⟨x0, x1, x2, x3, x4, x5, rfl, e0, e1, e2, e3, e4, e5⟩ := DqAll.six (show DqAll H8 xs [RefD none 0, RefD none 1, RefD none 2, RefD none 3, RefD none 4, RefD none 5] from g6)
      have z0 : Dq H8 x0 (.list []) := e0
      have z3 : Dq H8 x3 (.list []) := e3
      have z5 : Dq H8 x5 (.list []) := e5
      clear e0 e1 e2 e3 e4 e5 g6 g1' nD
      walk_at "go"
      rename_i q1 n1 q2 n2 q3 n3 q4 n4
      have ze : ∀ {H : Hp}, H q2 = some (.lst []) → Dq H (.ref q2) (.list []) := fun h => .lst h .nil
      generalize hH : upd _ q4 _ = H9
      have s9 : Same H8 H9 := by rw [← hH]; walk_at "g_same"
      have l2 : H9 q2 = some (.lst []) := by rw [← hH]; walk_at "g_lk"
      have l1 : H9 q1 = some (.lst [x0, x3, x5]) := by rw [← hH]; walk_at "g_lk"
      have l4 : H9 q4 = some (.lst [.ref q2, .ref q2, .ref q2]) := by rw [← hH]; exact upd_same
      have dw9 := dw8.same s9
      have du9 := du8.same s9
      have j9 := s9 _ _ j8
      refine i_neDq (d := .list [.list [], .list [], .list []]) (.lst l1 (.cons (z0.same s9) (.cons (z3.same s9) (.cons (z5.same s9) .nil)))) (.lst l4 (.cons (ze l2) (.cons (ze l2) (.cons (ze l2) .nil)))) (shaped_of (by simp [PyData.canLay0, PyData.canLayAll0]) (by simp [dep, depA])) ?_
      clear hH s9 n1 n2 n3 n4 l1 l2 l4 z0 z3 z5 dw8 du8 j8 ze
      walk_at "go"
      exact ⟨_, _, _, _, _, _, rfl, by walk_at "g_lk"⟩
    | some kk =>
      rw [hb] at g1'
      walk_at "go"
      rename_i q1 n1 q2 n2 q4 n4
      generalize hH : upd _ q4 _ = H9
      have s9 : Same H8 H9 := by rw [← hH]; walk_at "g_same"
      have l1 : H9 q1 = some (.lst [.str (PySem.Str.ofString "refused"), dueV (some kk), .bl false]) := by rw [← hH]; walk_at "g_lk"
      have l4 : H9 q4 = some (.lst (List.replicate 6 (.ref q1))) := by rw [← hH]; exact upd_same
      have dw9 := dw8.same s9
      have du9 := du8.same s9
      have j9 := s9 _ _ j8
      have dr : Dq H9 (.ref q1) (.list [.str (PySem.Str.ofString "refused"), .int kk, .bool false]) := .lst (show H9 q1 = some (.lst [.str (PySem.Str.ofString "refused"), .int kk, .bl false]) from l1) (.cons (.str _) (.cons (.int _) (.cons (.bl _) .nil)))
      have l0 := g1'.same s9
      clear hH s9 n1 n2 n4 l1 dw8 du8 j8 g1'
      refine i_neDq l0 (.lst l4 (DqAll.rep dr 6)) (shaped_of (by simp [RefD, PyData.canLay0, PyData.canLayAll0, List.range_succ]; decide +kernel) (by simp [RefD, dep, depA, List.range_succ])) ?_
      walk_at "go"
      exact ⟨_, _, _, _, _, _, rfl, by walk_at "g_lk"⟩

end
theorem mk_txt {K : PySem.W.Frag} {h : Heap} {mg : Str → Option Value} {f_NoBattle_init : Addr} {o_NoBattle_init n_NoBattle_init : Option Addr} {w_NoBattle_init : Array (Option Value)} {q1_NoBattle_init q2_NoBattle_init q3_NoBattle_init q4_NoBattle_init q5_NoBattle_init q6_NoBattle_init : Value} {f_is_number : Addr} {o_is_number n_is_number : Option Addr} {w_is_number : Array (Option Value)} {q1_is_number q2_is_number q3_is_number q4_is_number q5_is_number q6_is_number : Value} {f_are_numbers : Addr} {o_are_numbers n_are_numbers : Option Addr} {w_are_numbers : Array (Option Value)} {q1_are_numbers q2_are_numbers q3_are_numbers q4_are_numbers q5_are_numbers q6_are_numbers : Value} {f_is_rule : Addr} {o_is_rule n_is_rule : Option Addr} {w_is_rule : Array (Option Value)} {q1_is_rule q2_is_rule q3_is_rule q4_is_rule q5_is_rule q6_is_rule : Value} {f_is_field : Addr} {o_is_field n_is_field : Option Addr} {w_is_field : Array (Option Value)} {q1_is_field q2_is_field q3_is_field q4_is_field q5_is_field q6_is_field : Value} {f_look_battle : Addr} {o_look_battle n_look_battle : Option Addr} {w_look_battle : Array (Option Value)} {q1_look_battle q2_look_battle q3_look_battle q4_look_battle q5_look_battle q6_look_battle : Value} {f_paid : Addr} {o_paid n_paid : Option Addr} {w_paid : Array (Option Value)} {q1_paid q2_paid q3_paid q4_paid q5_paid q6_paid : Value} {f_is_plan : Addr} {o_is_plan n_is_plan : Option Addr} {w_is_plan : Array (Option Value)} {q1_is_plan q2_is_plan q3_is_plan q4_is_plan q5_is_plan q6_is_plan : Value} {f_pay : Addr} {o_pay n_pay : Option Addr} {w_pay : Array (Option Value)} {q1_pay q2_pay q3_pay q4_pay q5_pay q6_pay : Value} {f_won : Addr} {o_won n_won : Option Addr} {w_won : Array (Option Value)} {q1_won q2_won q3_won q4_won q5_won q6_won : Value} {f_gain : Addr} {o_gain n_gain : Option Addr} {w_gain : Array (Option Value)} {q1_gain q2_gain q3_gain q4_gain q5_gain q6_gain : Value} {f_rises_on : Addr} {o_rises_on n_rises_on : Option Addr} {w_rises_on : Array (Option Value)} {q1_rises_on q2_rises_on q3_rises_on q4_rises_on q5_rises_on q6_rises_on : Value} {f_rises : Addr} {o_rises n_rises : Option Addr} {w_rises : Array (Option Value)} {q1_rises q2_rises q3_rises q4_rises q5_rises q6_rises : Value} {f_is_row : Addr} {o_is_row n_is_row : Option Addr} {w_is_row : Array (Option Value)} {q1_is_row q2_is_row q3_is_row q4_is_row q5_is_row q6_is_row : Value} {f_is_stream : Addr} {o_is_stream n_is_stream : Option Addr} {w_is_stream : Array (Option Value)} {q1_is_stream q2_is_stream q3_is_stream q4_is_stream q5_is_stream q6_is_stream : Value} {f_is_alike : Addr} {o_is_alike n_is_alike : Option Addr} {w_is_alike : Array (Option Value)} {q1_is_alike q2_is_alike q3_is_alike q4_is_alike q5_is_alike q6_is_alike : Value} {f_must_be_side : Addr} {o_must_be_side n_must_be_side : Option Addr} {w_must_be_side : Array (Option Value)} {q1_must_be_side q2_must_be_side q3_must_be_side q4_must_be_side q5_must_be_side q6_must_be_side : Value} {f_dues : Addr} {o_dues n_dues : Option Addr} {w_dues : Array (Option Value)} {q1_dues q2_dues q3_dues q4_dues q5_dues q6_dues : Value} {f_goings_on : Addr} {o_goings_on n_goings_on : Option Addr} {w_goings_on : Array (Option Value)} {q1_goings_on q2_goings_on q3_goings_on q4_goings_on q5_goings_on q6_goings_on : Value} {f_is_table : Addr} {o_is_table n_is_table : Option Addr} {w_is_table : Array (Option Value)} {q1_is_table q2_is_table q3_is_table q4_is_table q5_is_table q6_is_table : Value} {f_wrong_number : Addr} {o_wrong_number n_wrong_number : Option Addr} {w_wrong_number : Array (Option Value)} {q1_wrong_number q2_wrong_number q3_wrong_number q4_wrong_number q5_wrong_number q6_wrong_number : Value} {f_judged : Addr} {o_judged n_judged : Option Addr} {w_judged : Array (Option Value)} {q1_judged q2_judged q3_judged q4_judged q5_judged q6_judged : Value} {f_l_mix : Addr} {o_l_mix n_l_mix : Option Addr} {w_l_mix : Array (Option Value)} {q1_l_mix q2_l_mix q3_l_mix q4_l_mix q5_l_mix q6_l_mix : Value} {f_l_cell_at : Addr} {o_l_cell_at n_l_cell_at : Option Addr} {w_l_cell_at : Array (Option Value)} {q1_l_cell_at q2_l_cell_at q3_l_cell_at q4_l_cell_at q5_l_cell_at q6_l_cell_at : Value} {f_l_left : Addr} {o_l_left n_l_left : Option Addr} {w_l_left : Array (Option Value)} {q1_l_left q2_l_left q3_l_left q4_l_left q5_l_left q6_l_left : Value} {f_l_draw : Addr} {o_l_draw n_l_draw : Option Addr} {w_l_draw : Array (Option Value)} {q1_l_draw q2_l_draw q3_l_draw q4_l_draw q5_l_draw q6_l_draw : Value} {f_l_some : Addr} {o_l_some n_l_some : Option Addr} {w_l_some : Array (Option Value)} {q1_l_some q2_l_some q3_l_some q4_l_some q5_l_some q6_l_some : Value} {f_l_rule : Addr} {o_l_rule n_l_rule : Option Addr} {w_l_rule : Array (Option Value)} {q1_l_rule q2_l_rule q3_l_rule q4_l_rule q5_l_rule q6_l_rule : Value} {f_l_battle : Addr} {o_l_battle n_l_battle : Option Addr} {w_l_battle : Array (Option Value)} {q1_l_battle q2_l_battle q3_l_battle q4_l_battle q5_l_battle q6_l_battle : Value} {f_l_deep : Addr} {o_l_deep n_l_deep : Option Addr} {w_l_deep : Array (Option Value)} {q1_l_deep q2_l_deep q3_l_deep q4_l_deep q5_l_deep q6_l_deep : Value} {f_l_bent_rule : Addr} {o_l_bent_rule n_l_bent_rule : Option Addr} {w_l_bent_rule : Array (Option Value)} {q1_l_bent_rule q2_l_bent_rule q3_l_bent_rule q4_l_bent_rule q5_l_bent_rule q6_l_bent_rule : Value} {f_l_bent : Addr} {o_l_bent n_l_bent : Option Addr} {w_l_bent : Array (Option Value)} {q1_l_bent q2_l_bent q3_l_bent q4_l_bent q5_l_bent q6_l_bent : Value} {f_l_whole : Addr} {o_l_whole n_l_whole : Option Addr} {w_l_whole : Array (Option Value)} {q1_l_whole q2_l_whole q3_l_whole q4_l_whole q5_l_whole q6_l_whole : Value} {f_l_is_rows : Addr} {o_l_is_rows n_l_is_rows : Option Addr} {w_l_is_rows : Array (Option Value)} {q1_l_is_rows q2_l_is_rows q3_l_is_rows q4_l_is_rows q5_l_is_rows q6_l_is_rows : Value} {f_l_is_rule : Addr} {o_l_is_rule n_l_is_rule : Option Addr} {w_l_is_rule : Array (Option Value)} {q1_l_is_rule q2_l_is_rule q3_l_is_rule q4_l_is_rule q5_l_is_rule q6_l_is_rule : Value} {f_l_due : Addr} {o_l_due n_l_due : Option Addr} {w_l_due : Array (Option Value)} {q1_l_due q2_l_due q3_l_due q4_l_due q5_l_due q6_l_due : Value} {f_l_refused : Addr} {o_l_refused n_l_refused : Option Addr} {w_l_refused : Array (Option Value)} {q1_l_refused q2_l_refused q3_l_refused q4_l_refused q5_l_refused q6_l_refused : Value} {f_law : Addr} {o_law n_law : Option Addr} {w_law : Array (Option Value)} {q1_law q2_law q3_law q4_law q5_law q6_law : Value} {t_MOST_HOSTS : Tok} {t_MOST_FIELDS : Tok} {e_SIDES : Addr} {j0_SIDES : Nat} {j1_SIDES : Array (Option Value)} {tk0_SIDES : Tok} {tk1_SIDES : Tok} {e_HostError : Addr} {e_NoBattle : Addr} {e_NoPlan : Addr} {e_NoMix : Addr} {e_NoStream : Addr} {e_NoSide : Addr} {e_NoAlike : Addr} {e_NoNumber : Addr} {xn_NoBattle xq_NoBattle : Str} {xN_NoBattle : Addr} {xb_NoBattle : List Value} {xs_NoBattle : List Str} {xu_NoBattle : List Value} {xa_NoBattle : Bool} {xc_NoBattle : Option Bool} {xd_NoBattle : Option Addr} {x0_NoBattle x1_NoBattle x2_NoBattle x3_NoBattle x5_NoBattle : Option Value} (X : K.In h) (G : h.Ns mainGlobals mg)
    (h_HostError : PySem.W.nsIn K mainGlobals "HostError" = some (some (.ref e_HostError)))
    (h_NoBattle : PySem.W.nsIn K mainGlobals "NoBattle" = some (some (.ref e_NoBattle)))
    (h_NoPlan : PySem.W.nsIn K mainGlobals "NoPlan" = some (some (.ref e_NoPlan)))
    (h_NoMix : PySem.W.nsIn K mainGlobals "NoMix" = some (some (.ref e_NoMix)))
    (h_NoStream : PySem.W.nsIn K mainGlobals "NoStream" = some (some (.ref e_NoStream)))
    (h_NoSide : PySem.W.nsIn K mainGlobals "NoSide" = some (some (.ref e_NoSide)))
    (h_NoAlike : PySem.W.nsIn K mainGlobals "NoAlike" = some (some (.ref e_NoAlike)))
    (h_NoNumber : PySem.W.nsIn K mainGlobals "NoNumber" = some (some (.ref e_NoNumber)))
    (ic_NoBattle : PySem.W.findIn K (.ref e_NoBattle) "__init__" = some (some (.ref f_NoBattle_init)))
    (l_NoBattle_init : K.lookup f_NoBattle_init = some ⟨q1_NoBattle_init, o_NoBattle_init, .func (PySem.W.fnOf "__init__" "NoBattle.__init__" (defArgs s_NoBattle_init) (defBody s_NoBattle_init) (defScope s_NoBattle_init) .none q2_NoBattle_init q3_NoBattle_init q4_NoBattle_init n_NoBattle_init q5_NoBattle_init q6_NoBattle_init), w_NoBattle_init⟩)
    (c_NoBattle_init : PySem.W.codeIn K q5_NoBattle_init "NoBattle.__init__" = true)
    (k_NoBattle_init : PySem.W.keepIn K (.ref f_NoBattle_init) = true)
    (a_is_number : PySem.W.nsIn K mainGlobals "is_number" = some (some (.ref f_is_number)))
    (l_is_number : K.lookup f_is_number = some ⟨q1_is_number, o_is_number, .func (PySem.W.fnOf "is_number" "is_number" (defArgs s_is_number) (defBody s_is_number) (defScope s_is_number) .none q2_is_number q3_is_number q4_is_number n_is_number q5_is_number q6_is_number), w_is_number⟩)
    (c_is_number : PySem.W.codeIn K q5_is_number "is_number" = true)
    (k_is_number : PySem.W.keepIn K (.ref f_is_number) = true)
    (a_are_numbers : PySem.W.nsIn K mainGlobals "are_numbers" = some (some (.ref f_are_numbers)))
    (l_are_numbers : K.lookup f_are_numbers = some ⟨q1_are_numbers, o_are_numbers, .func (PySem.W.fnOf "are_numbers" "are_numbers" (defArgs s_are_numbers) (defBody s_are_numbers) (defScope s_are_numbers) .none q2_are_numbers q3_are_numbers q4_are_numbers n_are_numbers q5_are_numbers q6_are_numbers), w_are_numbers⟩)
    (c_are_numbers : PySem.W.codeIn K q5_are_numbers "are_numbers" = true)
    (k_are_numbers : PySem.W.keepIn K (.ref f_are_numbers) = true)
    (a_is_rule : PySem.W.nsIn K mainGlobals "is_rule" = some (some (.ref f_is_rule)))
    (l_is_rule : K.lookup f_is_rule = some ⟨q1_is_rule, o_is_rule, .func (PySem.W.fnOf "is_rule" "is_rule" (defArgs s_is_rule) (defBody s_is_rule) (defScope s_is_rule) .none q2_is_rule q3_is_rule q4_is_rule n_is_rule q5_is_rule q6_is_rule), w_is_rule⟩)
    (c_is_rule : PySem.W.codeIn K q5_is_rule "is_rule" = true)
    (k_is_rule : PySem.W.keepIn K (.ref f_is_rule) = true)
    (a_is_field : PySem.W.nsIn K mainGlobals "is_field" = some (some (.ref f_is_field)))
    (l_is_field : K.lookup f_is_field = some ⟨q1_is_field, o_is_field, .func (PySem.W.fnOf "is_field" "is_field" (defArgs s_is_field) (defBody s_is_field) (defScope s_is_field) .none q2_is_field q3_is_field q4_is_field n_is_field q5_is_field q6_is_field), w_is_field⟩)
    (c_is_field : PySem.W.codeIn K q5_is_field "is_field" = true)
    (k_is_field : PySem.W.keepIn K (.ref f_is_field) = true)
    (a_look_battle : PySem.W.nsIn K mainGlobals "look_battle" = some (some (.ref f_look_battle)))
    (l_look_battle : K.lookup f_look_battle = some ⟨q1_look_battle, o_look_battle, .func (PySem.W.fnOf "look_battle" "look_battle" (defArgs s_look_battle) (defBody s_look_battle) (defScope s_look_battle) .none q2_look_battle q3_look_battle q4_look_battle n_look_battle q5_look_battle q6_look_battle), w_look_battle⟩)
    (c_look_battle : PySem.W.codeIn K q5_look_battle "look_battle" = true)
    (k_look_battle : PySem.W.keepIn K (.ref f_look_battle) = true)
    (a_paid : PySem.W.nsIn K mainGlobals "paid" = some (some (.ref f_paid)))
    (l_paid : K.lookup f_paid = some ⟨q1_paid, o_paid, .func (PySem.W.fnOf "paid" "paid" (defArgs s_paid) (defBody s_paid) (defScope s_paid) .none q2_paid q3_paid q4_paid n_paid q5_paid q6_paid), w_paid⟩)
    (c_paid : PySem.W.codeIn K q5_paid "paid" = true)
    (k_paid : PySem.W.keepIn K (.ref f_paid) = true)
    (a_is_plan : PySem.W.nsIn K mainGlobals "is_plan" = some (some (.ref f_is_plan)))
    (l_is_plan : K.lookup f_is_plan = some ⟨q1_is_plan, o_is_plan, .func (PySem.W.fnOf "is_plan" "is_plan" (defArgs s_is_plan) (defBody s_is_plan) (defScope s_is_plan) .none q2_is_plan q3_is_plan q4_is_plan n_is_plan q5_is_plan q6_is_plan), w_is_plan⟩)
    (c_is_plan : PySem.W.codeIn K q5_is_plan "is_plan" = true)
    (k_is_plan : PySem.W.keepIn K (.ref f_is_plan) = true)
    (a_pay : PySem.W.nsIn K mainGlobals "pay" = some (some (.ref f_pay)))
    (l_pay : K.lookup f_pay = some ⟨q1_pay, o_pay, .func (PySem.W.fnOf "pay" "pay" (defArgs s_pay) (defBody s_pay) (defScope s_pay) .none q2_pay q3_pay q4_pay n_pay q5_pay q6_pay), w_pay⟩)
    (c_pay : PySem.W.codeIn K q5_pay "pay" = true)
    (k_pay : PySem.W.keepIn K (.ref f_pay) = true)
    (a_won : PySem.W.nsIn K mainGlobals "won" = some (some (.ref f_won)))
    (l_won : K.lookup f_won = some ⟨q1_won, o_won, .func (PySem.W.fnOf "won" "won" (defArgs s_won) (defBody s_won) (defScope s_won) .none q2_won q3_won q4_won n_won q5_won q6_won), w_won⟩)
    (c_won : PySem.W.codeIn K q5_won "won" = true)
    (k_won : PySem.W.keepIn K (.ref f_won) = true)
    (a_gain : PySem.W.nsIn K mainGlobals "gain" = some (some (.ref f_gain)))
    (l_gain : K.lookup f_gain = some ⟨q1_gain, o_gain, .func (PySem.W.fnOf "gain" "gain" (defArgs s_gain) (defBody s_gain) (defScope s_gain) .none q2_gain q3_gain q4_gain n_gain q5_gain q6_gain), w_gain⟩)
    (c_gain : PySem.W.codeIn K q5_gain "gain" = true)
    (k_gain : PySem.W.keepIn K (.ref f_gain) = true)
    (a_rises_on : PySem.W.nsIn K mainGlobals "rises_on" = some (some (.ref f_rises_on)))
    (l_rises_on : K.lookup f_rises_on = some ⟨q1_rises_on, o_rises_on, .func (PySem.W.fnOf "rises_on" "rises_on" (defArgs s_rises_on) (defBody s_rises_on) (defScope s_rises_on) .none q2_rises_on q3_rises_on q4_rises_on n_rises_on q5_rises_on q6_rises_on), w_rises_on⟩)
    (c_rises_on : PySem.W.codeIn K q5_rises_on "rises_on" = true)
    (k_rises_on : PySem.W.keepIn K (.ref f_rises_on) = true)
    (a_rises : PySem.W.nsIn K mainGlobals "rises" = some (some (.ref f_rises)))
    (l_rises : K.lookup f_rises = some ⟨q1_rises, o_rises, .func (PySem.W.fnOf "rises" "rises" (defArgs s_rises) (defBody s_rises) (defScope s_rises) .none q2_rises q3_rises q4_rises n_rises q5_rises q6_rises), w_rises⟩)
    (c_rises : PySem.W.codeIn K q5_rises "rises" = true)
    (k_rises : PySem.W.keepIn K (.ref f_rises) = true)
    (a_is_row : PySem.W.nsIn K mainGlobals "is_row" = some (some (.ref f_is_row)))
    (l_is_row : K.lookup f_is_row = some ⟨q1_is_row, o_is_row, .func (PySem.W.fnOf "is_row" "is_row" (defArgs s_is_row) (defBody s_is_row) (defScope s_is_row) .none q2_is_row q3_is_row q4_is_row n_is_row q5_is_row q6_is_row), w_is_row⟩)
    (c_is_row : PySem.W.codeIn K q5_is_row "is_row" = true)
    (k_is_row : PySem.W.keepIn K (.ref f_is_row) = true)
    (a_is_stream : PySem.W.nsIn K mainGlobals "is_stream" = some (some (.ref f_is_stream)))
    (l_is_stream : K.lookup f_is_stream = some ⟨q1_is_stream, o_is_stream, .func (PySem.W.fnOf "is_stream" "is_stream" (defArgs s_is_stream) (defBody s_is_stream) (defScope s_is_stream) .none q2_is_stream q3_is_stream q4_is_stream n_is_stream q5_is_stream q6_is_stream), w_is_stream⟩)
    (c_is_stream : PySem.W.codeIn K q5_is_stream "is_stream" = true)
    (k_is_stream : PySem.W.keepIn K (.ref f_is_stream) = true)
    (a_is_alike : PySem.W.nsIn K mainGlobals "is_alike" = some (some (.ref f_is_alike)))
    (l_is_alike : K.lookup f_is_alike = some ⟨q1_is_alike, o_is_alike, .func (PySem.W.fnOf "is_alike" "is_alike" (defArgs s_is_alike) (defBody s_is_alike) (defScope s_is_alike) .none q2_is_alike q3_is_alike q4_is_alike n_is_alike q5_is_alike q6_is_alike), w_is_alike⟩)
    (c_is_alike : PySem.W.codeIn K q5_is_alike "is_alike" = true)
    (k_is_alike : PySem.W.keepIn K (.ref f_is_alike) = true)
    (a_must_be_side : PySem.W.nsIn K mainGlobals "must_be_side" = some (some (.ref f_must_be_side)))
    (l_must_be_side : K.lookup f_must_be_side = some ⟨q1_must_be_side, o_must_be_side, .func (PySem.W.fnOf "must_be_side" "must_be_side" (defArgs s_must_be_side) (defBody s_must_be_side) (defScope s_must_be_side) .none q2_must_be_side q3_must_be_side q4_must_be_side n_must_be_side q5_must_be_side q6_must_be_side), w_must_be_side⟩)
    (c_must_be_side : PySem.W.codeIn K q5_must_be_side "must_be_side" = true)
    (k_must_be_side : PySem.W.keepIn K (.ref f_must_be_side) = true)
    (a_dues : PySem.W.nsIn K mainGlobals "dues" = some (some (.ref f_dues)))
    (l_dues : K.lookup f_dues = some ⟨q1_dues, o_dues, .func (PySem.W.fnOf "dues" "dues" (defArgs s_dues) (defBody s_dues) (defScope s_dues) .none q2_dues q3_dues q4_dues n_dues q5_dues q6_dues), w_dues⟩)
    (c_dues : PySem.W.codeIn K q5_dues "dues" = true)
    (k_dues : PySem.W.keepIn K (.ref f_dues) = true)
    (a_goings_on : PySem.W.nsIn K mainGlobals "goings_on" = some (some (.ref f_goings_on)))
    (l_goings_on : K.lookup f_goings_on = some ⟨q1_goings_on, o_goings_on, .func (PySem.W.fnOf "goings_on" "goings_on" (defArgs s_goings_on) (defBody s_goings_on) (defScope s_goings_on) .none q2_goings_on q3_goings_on q4_goings_on n_goings_on q5_goings_on q6_goings_on), w_goings_on⟩)
    (c_goings_on : PySem.W.codeIn K q5_goings_on "goings_on" = true)
    (k_goings_on : PySem.W.keepIn K (.ref f_goings_on) = true)
    (a_is_table : PySem.W.nsIn K mainGlobals "is_table" = some (some (.ref f_is_table)))
    (l_is_table : K.lookup f_is_table = some ⟨q1_is_table, o_is_table, .func (PySem.W.fnOf "is_table" "is_table" (defArgs s_is_table) (defBody s_is_table) (defScope s_is_table) .none q2_is_table q3_is_table q4_is_table n_is_table q5_is_table q6_is_table), w_is_table⟩)
    (c_is_table : PySem.W.codeIn K q5_is_table "is_table" = true)
    (k_is_table : PySem.W.keepIn K (.ref f_is_table) = true)
    (a_wrong_number : PySem.W.nsIn K mainGlobals "wrong_number" = some (some (.ref f_wrong_number)))
    (l_wrong_number : K.lookup f_wrong_number = some ⟨q1_wrong_number, o_wrong_number, .func (PySem.W.fnOf "wrong_number" "wrong_number" (defArgs s_wrong_number) (defBody s_wrong_number) (defScope s_wrong_number) .none q2_wrong_number q3_wrong_number q4_wrong_number n_wrong_number q5_wrong_number q6_wrong_number), w_wrong_number⟩)
    (c_wrong_number : PySem.W.codeIn K q5_wrong_number "wrong_number" = true)
    (k_wrong_number : PySem.W.keepIn K (.ref f_wrong_number) = true)
    (a_judged : PySem.W.nsIn K mainGlobals "judged" = some (some (.ref f_judged)))
    (l_judged : K.lookup f_judged = some ⟨q1_judged, o_judged, .func (PySem.W.fnOf "judged" "judged" (defArgs s_judged) (defBody s_judged) (defScope s_judged) .none q2_judged q3_judged q4_judged n_judged q5_judged q6_judged), w_judged⟩)
    (c_judged : PySem.W.codeIn K q5_judged "judged" = true)
    (k_judged : PySem.W.keepIn K (.ref f_judged) = true)
    (a_l_mix : PySem.W.nsIn K mainGlobals "_law_mix" = some (some (.ref f_l_mix)))
    (l_l_mix : K.lookup f_l_mix = some ⟨q1_l_mix, o_l_mix, .func (PySem.W.fnOf "_law_mix" "_law_mix" (defArgs s_l_mix) (defBody s_l_mix) (defScope s_l_mix) .none q2_l_mix q3_l_mix q4_l_mix n_l_mix q5_l_mix q6_l_mix), w_l_mix⟩)
    (c_l_mix : PySem.W.codeIn K q5_l_mix "_law_mix" = true)
    (k_l_mix : PySem.W.keepIn K (.ref f_l_mix) = true)
    (a_l_cell_at : PySem.W.nsIn K mainGlobals "_law_cell_at" = some (some (.ref f_l_cell_at)))
    (l_l_cell_at : K.lookup f_l_cell_at = some ⟨q1_l_cell_at, o_l_cell_at, .func (PySem.W.fnOf "_law_cell_at" "_law_cell_at" (defArgs s_l_cell_at) (defBody s_l_cell_at) (defScope s_l_cell_at) .none q2_l_cell_at q3_l_cell_at q4_l_cell_at n_l_cell_at q5_l_cell_at q6_l_cell_at), w_l_cell_at⟩)
    (c_l_cell_at : PySem.W.codeIn K q5_l_cell_at "_law_cell_at" = true)
    (k_l_cell_at : PySem.W.keepIn K (.ref f_l_cell_at) = true)
    (a_l_left : PySem.W.nsIn K mainGlobals "_law_left" = some (some (.ref f_l_left)))
    (l_l_left : K.lookup f_l_left = some ⟨q1_l_left, o_l_left, .func (PySem.W.fnOf "_law_left" "_law_left" (defArgs s_l_left) (defBody s_l_left) (defScope s_l_left) .none q2_l_left q3_l_left q4_l_left n_l_left q5_l_left q6_l_left), w_l_left⟩)
    (c_l_left : PySem.W.codeIn K q5_l_left "_law_left" = true)
    (k_l_left : PySem.W.keepIn K (.ref f_l_left) = true)
    (a_l_draw : PySem.W.nsIn K mainGlobals "_law_draw" = some (some (.ref f_l_draw)))
    (l_l_draw : K.lookup f_l_draw = some ⟨q1_l_draw, o_l_draw, .func (PySem.W.fnOf "_law_draw" "_law_draw" (defArgs s_l_draw) (defBody s_l_draw) (defScope s_l_draw) .none q2_l_draw q3_l_draw q4_l_draw n_l_draw q5_l_draw q6_l_draw), w_l_draw⟩)
    (c_l_draw : PySem.W.codeIn K q5_l_draw "_law_draw" = true)
    (k_l_draw : PySem.W.keepIn K (.ref f_l_draw) = true)
    (a_l_some : PySem.W.nsIn K mainGlobals "_law_some" = some (some (.ref f_l_some)))
    (l_l_some : K.lookup f_l_some = some ⟨q1_l_some, o_l_some, .func (PySem.W.fnOf "_law_some" "_law_some" (defArgs s_l_some) (defBody s_l_some) (defScope s_l_some) .none q2_l_some q3_l_some q4_l_some n_l_some q5_l_some q6_l_some), w_l_some⟩)
    (c_l_some : PySem.W.codeIn K q5_l_some "_law_some" = true)
    (k_l_some : PySem.W.keepIn K (.ref f_l_some) = true)
    (a_l_rule : PySem.W.nsIn K mainGlobals "_law_rule" = some (some (.ref f_l_rule)))
    (l_l_rule : K.lookup f_l_rule = some ⟨q1_l_rule, o_l_rule, .func (PySem.W.fnOf "_law_rule" "_law_rule" (defArgs s_l_rule) (defBody s_l_rule) (defScope s_l_rule) .none q2_l_rule q3_l_rule q4_l_rule n_l_rule q5_l_rule q6_l_rule), w_l_rule⟩)
    (c_l_rule : PySem.W.codeIn K q5_l_rule "_law_rule" = true)
    (k_l_rule : PySem.W.keepIn K (.ref f_l_rule) = true)
    (a_l_battle : PySem.W.nsIn K mainGlobals "_law_battle" = some (some (.ref f_l_battle)))
    (l_l_battle : K.lookup f_l_battle = some ⟨q1_l_battle, o_l_battle, .func (PySem.W.fnOf "_law_battle" "_law_battle" (defArgs s_l_battle) (defBody s_l_battle) (defScope s_l_battle) .none q2_l_battle q3_l_battle q4_l_battle n_l_battle q5_l_battle q6_l_battle), w_l_battle⟩)
    (c_l_battle : PySem.W.codeIn K q5_l_battle "_law_battle" = true)
    (k_l_battle : PySem.W.keepIn K (.ref f_l_battle) = true)
    (a_l_deep : PySem.W.nsIn K mainGlobals "_law_deep" = some (some (.ref f_l_deep)))
    (l_l_deep : K.lookup f_l_deep = some ⟨q1_l_deep, o_l_deep, .func (PySem.W.fnOf "_law_deep" "_law_deep" (defArgs s_l_deep) (defBody s_l_deep) (defScope s_l_deep) .none q2_l_deep q3_l_deep q4_l_deep n_l_deep q5_l_deep q6_l_deep), w_l_deep⟩)
    (c_l_deep : PySem.W.codeIn K q5_l_deep "_law_deep" = true)
    (k_l_deep : PySem.W.keepIn K (.ref f_l_deep) = true)
    (a_l_bent_rule : PySem.W.nsIn K mainGlobals "_law_bent_rule" = some (some (.ref f_l_bent_rule)))
    (l_l_bent_rule : K.lookup f_l_bent_rule = some ⟨q1_l_bent_rule, o_l_bent_rule, .func (PySem.W.fnOf "_law_bent_rule" "_law_bent_rule" (defArgs s_l_bent_rule) (defBody s_l_bent_rule) (defScope s_l_bent_rule) .none q2_l_bent_rule q3_l_bent_rule q4_l_bent_rule n_l_bent_rule q5_l_bent_rule q6_l_bent_rule), w_l_bent_rule⟩)
    (c_l_bent_rule : PySem.W.codeIn K q5_l_bent_rule "_law_bent_rule" = true)
    (k_l_bent_rule : PySem.W.keepIn K (.ref f_l_bent_rule) = true)
    (a_l_bent : PySem.W.nsIn K mainGlobals "_law_bent" = some (some (.ref f_l_bent)))
    (l_l_bent : K.lookup f_l_bent = some ⟨q1_l_bent, o_l_bent, .func (PySem.W.fnOf "_law_bent" "_law_bent" (defArgs s_l_bent) (defBody s_l_bent) (defScope s_l_bent) .none q2_l_bent q3_l_bent q4_l_bent n_l_bent q5_l_bent q6_l_bent), w_l_bent⟩)
    (c_l_bent : PySem.W.codeIn K q5_l_bent "_law_bent" = true)
    (k_l_bent : PySem.W.keepIn K (.ref f_l_bent) = true)
    (a_l_whole : PySem.W.nsIn K mainGlobals "_law_whole" = some (some (.ref f_l_whole)))
    (l_l_whole : K.lookup f_l_whole = some ⟨q1_l_whole, o_l_whole, .func (PySem.W.fnOf "_law_whole" "_law_whole" (defArgs s_l_whole) (defBody s_l_whole) (defScope s_l_whole) .none q2_l_whole q3_l_whole q4_l_whole n_l_whole q5_l_whole q6_l_whole), w_l_whole⟩)
    (c_l_whole : PySem.W.codeIn K q5_l_whole "_law_whole" = true)
    (k_l_whole : PySem.W.keepIn K (.ref f_l_whole) = true)
    (a_l_is_rows : PySem.W.nsIn K mainGlobals "_law_is_rows" = some (some (.ref f_l_is_rows)))
    (l_l_is_rows : K.lookup f_l_is_rows = some ⟨q1_l_is_rows, o_l_is_rows, .func (PySem.W.fnOf "_law_is_rows" "_law_is_rows" (defArgs s_l_is_rows) (defBody s_l_is_rows) (defScope s_l_is_rows) .none q2_l_is_rows q3_l_is_rows q4_l_is_rows n_l_is_rows q5_l_is_rows q6_l_is_rows), w_l_is_rows⟩)
    (c_l_is_rows : PySem.W.codeIn K q5_l_is_rows "_law_is_rows" = true)
    (k_l_is_rows : PySem.W.keepIn K (.ref f_l_is_rows) = true)
    (a_l_is_rule : PySem.W.nsIn K mainGlobals "_law_is_rule" = some (some (.ref f_l_is_rule)))
    (l_l_is_rule : K.lookup f_l_is_rule = some ⟨q1_l_is_rule, o_l_is_rule, .func (PySem.W.fnOf "_law_is_rule" "_law_is_rule" (defArgs s_l_is_rule) (defBody s_l_is_rule) (defScope s_l_is_rule) .none q2_l_is_rule q3_l_is_rule q4_l_is_rule n_l_is_rule q5_l_is_rule q6_l_is_rule), w_l_is_rule⟩)
    (c_l_is_rule : PySem.W.codeIn K q5_l_is_rule "_law_is_rule" = true)
    (k_l_is_rule : PySem.W.keepIn K (.ref f_l_is_rule) = true)
    (a_l_due : PySem.W.nsIn K mainGlobals "_law_due" = some (some (.ref f_l_due)))
    (l_l_due : K.lookup f_l_due = some ⟨q1_l_due, o_l_due, .func (PySem.W.fnOf "_law_due" "_law_due" (defArgs s_l_due) (defBody s_l_due) (defScope s_l_due) .none q2_l_due q3_l_due q4_l_due n_l_due q5_l_due q6_l_due), w_l_due⟩)
    (c_l_due : PySem.W.codeIn K q5_l_due "_law_due" = true)
    (k_l_due : PySem.W.keepIn K (.ref f_l_due) = true)
    (a_l_refused : PySem.W.nsIn K mainGlobals "_law_refused" = some (some (.ref f_l_refused)))
    (l_l_refused : K.lookup f_l_refused = some ⟨q1_l_refused, o_l_refused, .func (PySem.W.fnOf "_law_refused" "_law_refused" (defArgs s_l_refused) (defBody s_l_refused) (defScope s_l_refused) .none q2_l_refused q3_l_refused q4_l_refused n_l_refused q5_l_refused q6_l_refused), w_l_refused⟩)
    (c_l_refused : PySem.W.codeIn K q5_l_refused "_law_refused" = true)
    (k_l_refused : PySem.W.keepIn K (.ref f_l_refused) = true)
    (a_law : PySem.W.nsIn K mainGlobals "law" = some (some (.ref f_law)))
    (l_law : K.lookup f_law = some ⟨q1_law, o_law, .func (PySem.W.fnOf "law" "law" (defArgs s_law) (defBody s_law) (defScope s_law) .none q2_law q3_law q4_law n_law q5_law q6_law), w_law⟩)
    (c_law : PySem.W.codeIn K q5_law "law" = true)
    (k_law : PySem.W.keepIn K (.ref f_law) = true)
    (z_ValueError : PySem.W.nsIn K mainGlobals "ValueError" = some none)
    (z_abs : PySem.W.nsIn K mainGlobals "abs" = some none)
    (z_bool : PySem.W.nsIn K mainGlobals "bool" = some none)
    (z_int : PySem.W.nsIn K mainGlobals "int" = some none)
    (z_isinstance : PySem.W.nsIn K mainGlobals "isinstance" = some none)
    (z_len : PySem.W.nsIn K mainGlobals "len" = some none)
    (z_list : PySem.W.nsIn K mainGlobals "list" = some none)
    (z_max : PySem.W.nsIn K mainGlobals "max" = some none)
    (z_min : PySem.W.nsIn K mainGlobals "min" = some none)
    (z_range : PySem.W.nsIn K mainGlobals "range" = some none)
    (z_sum : PySem.W.nsIn K mainGlobals "sum" = some none)
    (z_tuple : PySem.W.nsIn K mainGlobals "tuple" = some none)
    (h_MOST_HOSTS : PySem.W.nsIn K mainGlobals "MOST_HOSTS" = some (some (.int 10 t_MOST_HOSTS)))
    (h_MOST_FIELDS : PySem.W.nsIn K mainGlobals "MOST_FIELDS" = some (some (.int 5 t_MOST_FIELDS)))
    (h_SIDES : PySem.W.nsIn K mainGlobals "SIDES" = some (some (.ref e_SIDES)))
    (lq_SIDES : K.lookup e_SIDES = some ⟨.type "list", none, .seq #[.str (PySem.Str.ofString "first") tk0_SIDES, .str (PySem.Str.ofString "second") tk1_SIDES] j0_SIDES, j1_SIDES⟩)
    (i_HostError : PySem.W.isClsIn K e_HostError = true)
    (t_HostError : PySem.W.typeIn K (.ref e_HostError) = some (.type "type"))
    (y_HostError : PySem.W.subIn K (.ref e_HostError) (.type "BaseException") = some true)
    (i_NoBattle : PySem.W.isClsIn K e_NoBattle = true)
    (t_NoBattle : PySem.W.typeIn K (.ref e_NoBattle) = some (.type "type"))
    (y_NoBattle : PySem.W.subIn K (.ref e_NoBattle) (.type "BaseException") = some true)
    (i_NoPlan : PySem.W.isClsIn K e_NoPlan = true)
    (t_NoPlan : PySem.W.typeIn K (.ref e_NoPlan) = some (.type "type"))
    (y_NoPlan : PySem.W.subIn K (.ref e_NoPlan) (.type "BaseException") = some true)
    (i_NoMix : PySem.W.isClsIn K e_NoMix = true)
    (t_NoMix : PySem.W.typeIn K (.ref e_NoMix) = some (.type "type"))
    (y_NoMix : PySem.W.subIn K (.ref e_NoMix) (.type "BaseException") = some true)
    (i_NoStream : PySem.W.isClsIn K e_NoStream = true)
    (t_NoStream : PySem.W.typeIn K (.ref e_NoStream) = some (.type "type"))
    (y_NoStream : PySem.W.subIn K (.ref e_NoStream) (.type "BaseException") = some true)
    (i_NoSide : PySem.W.isClsIn K e_NoSide = true)
    (t_NoSide : PySem.W.typeIn K (.ref e_NoSide) = some (.type "type"))
    (y_NoSide : PySem.W.subIn K (.ref e_NoSide) (.type "BaseException") = some true)
    (i_NoAlike : PySem.W.isClsIn K e_NoAlike = true)
    (t_NoAlike : PySem.W.typeIn K (.ref e_NoAlike) = some (.type "type"))
    (y_NoAlike : PySem.W.subIn K (.ref e_NoAlike) (.type "BaseException") = some true)
    (i_NoNumber : PySem.W.isClsIn K e_NoNumber = true)
    (t_NoNumber : PySem.W.typeIn K (.ref e_NoNumber) = some (.type "type"))
    (y_NoNumber : PySem.W.subIn K (.ref e_NoNumber) (.type "BaseException") = some true)
    (x_NoPlan : PySem.W.excIn K e_NoPlan [.type "ValueError", .type "Exception", .type "BaseException", .type "object"] "ValueError.__new__" = true)
    (k_NoPlan : PySem.W.keepIn K (.ref e_NoPlan) = true)
    (hg_NoPlan : PySem.W.findIn K (.ref e_NoPlan) "__getattribute__" = some (some (.builtin "BaseException.__getattribute__")))
    (hk_NoPlan : PySem.W.findIn K (.ref e_NoPlan) "__getattr__" = some none)
    (hd_NoPlan : PySem.W.hasDictIn K e_NoPlan = true)
    (ha_NoPlan : PySem.W.findIn K (.ref e_NoPlan) "__class__" = some (some (.builtin "object.__class__")))
    (hm_NoPlan : PySem.W.mroIn K e_NoPlan (.type "object") = some true)
    (v_NoPlan : PySem.W.subIn K (.ref e_NoPlan) (.type "ValueError") = some true)
    (s_NoPlan_HostError : PySem.W.subIn K (.ref e_NoPlan) (.ref e_HostError) = some true)
    (s_NoPlan_NoBattle : PySem.W.subIn K (.ref e_NoPlan) (.ref e_NoBattle) = some false)
    (s_NoPlan_NoPlan : PySem.W.subIn K (.ref e_NoPlan) (.ref e_NoPlan) = some true)
    (s_NoPlan_NoMix : PySem.W.subIn K (.ref e_NoPlan) (.ref e_NoMix) = some false)
    (s_NoPlan_NoStream : PySem.W.subIn K (.ref e_NoPlan) (.ref e_NoStream) = some false)
    (s_NoPlan_NoSide : PySem.W.subIn K (.ref e_NoPlan) (.ref e_NoSide) = some false)
    (s_NoPlan_NoAlike : PySem.W.subIn K (.ref e_NoPlan) (.ref e_NoAlike) = some false)
    (s_NoPlan_NoNumber : PySem.W.subIn K (.ref e_NoPlan) (.ref e_NoNumber) = some false)
    (x_NoSide : PySem.W.excIn K e_NoSide [.type "ValueError", .type "Exception", .type "BaseException", .type "object"] "ValueError.__new__" = true)
    (k_NoSide : PySem.W.keepIn K (.ref e_NoSide) = true)
    (hg_NoSide : PySem.W.findIn K (.ref e_NoSide) "__getattribute__" = some (some (.builtin "BaseException.__getattribute__")))
    (hk_NoSide : PySem.W.findIn K (.ref e_NoSide) "__getattr__" = some none)
    (hd_NoSide : PySem.W.hasDictIn K e_NoSide = true)
    (ha_NoSide : PySem.W.findIn K (.ref e_NoSide) "__class__" = some (some (.builtin "object.__class__")))
    (hm_NoSide : PySem.W.mroIn K e_NoSide (.type "object") = some true)
    (v_NoSide : PySem.W.subIn K (.ref e_NoSide) (.type "ValueError") = some true)
    (s_NoSide_HostError : PySem.W.subIn K (.ref e_NoSide) (.ref e_HostError) = some true)
    (s_NoSide_NoBattle : PySem.W.subIn K (.ref e_NoSide) (.ref e_NoBattle) = some false)
    (s_NoSide_NoPlan : PySem.W.subIn K (.ref e_NoSide) (.ref e_NoPlan) = some false)
    (s_NoSide_NoMix : PySem.W.subIn K (.ref e_NoSide) (.ref e_NoMix) = some false)
    (s_NoSide_NoStream : PySem.W.subIn K (.ref e_NoSide) (.ref e_NoStream) = some false)
    (s_NoSide_NoSide : PySem.W.subIn K (.ref e_NoSide) (.ref e_NoSide) = some true)
    (s_NoSide_NoAlike : PySem.W.subIn K (.ref e_NoSide) (.ref e_NoAlike) = some false)
    (s_NoSide_NoNumber : PySem.W.subIn K (.ref e_NoSide) (.ref e_NoNumber) = some false)
    (oc_NoBattle : K.lookup e_NoBattle = some (excClassObj xn_NoBattle xq_NoBattle e_NoBattle xN_NoBattle xb_NoBattle (.ref e_HostError :: [.type "ValueError", .type "Exception", .type "BaseException", .type "object"]) true xs_NoBattle xu_NoBattle xa_NoBattle xc_NoBattle xd_NoBattle x0_NoBattle x1_NoBattle x2_NoBattle x3_NoBattle x5_NoBattle "ValueError.__new__"))
    (sa_NoBattle : PySem.W.findIn K (.ref e_NoBattle) "__setattr__" = some (some (.builtin "object.__setattr__")))
    (ti_NoBattle : PySem.W.typeIn K (.ref f_NoBattle_init) = some (.type "function"))
    (no_NoBattle_field : PySem.W.findIn K (.ref e_NoBattle) "field" = some none)
    (rd_HostError : PySem.W.readsIn K e_HostError (.type "type") = true)
    (ga_HostError : PySem.W.specialIn K (.ref e_HostError) "__getattribute__" = some (some (.builtin "type.__getattribute__")))
    (fc_HostError : PySem.W.findCls K (.ref e_HostError) (.type "type") "__init__" = some (.val (.builtin "ValueError.__init__")))
    (k_NoBattle : PySem.W.keepIn K (.ref e_NoBattle) = true)
    (hg_NoBattle : PySem.W.findIn K (.ref e_NoBattle) "__getattribute__" = some (some (.builtin "BaseException.__getattribute__")))
    (hk_NoBattle : PySem.W.findIn K (.ref e_NoBattle) "__getattr__" = some none)
    (hd_NoBattle : PySem.W.hasDictIn K e_NoBattle = true)
    (ha_NoBattle : PySem.W.findIn K (.ref e_NoBattle) "__class__" = some (some (.builtin "object.__class__")))
    (hm_NoBattle : PySem.W.mroIn K e_NoBattle (.type "object") = some true)
    (v_NoBattle : PySem.W.subIn K (.ref e_NoBattle) (.type "ValueError") = some true)
    (s_NoBattle_HostError : PySem.W.subIn K (.ref e_NoBattle) (.ref e_HostError) = some true)
    (s_NoBattle_NoBattle : PySem.W.subIn K (.ref e_NoBattle) (.ref e_NoBattle) = some true)
    (s_NoBattle_NoPlan : PySem.W.subIn K (.ref e_NoBattle) (.ref e_NoPlan) = some false)
    (s_NoBattle_NoMix : PySem.W.subIn K (.ref e_NoBattle) (.ref e_NoMix) = some false)
    (s_NoBattle_NoStream : PySem.W.subIn K (.ref e_NoBattle) (.ref e_NoStream) = some false)
    (s_NoBattle_NoSide : PySem.W.subIn K (.ref e_NoBattle) (.ref e_NoSide) = some false)
    (s_NoBattle_NoAlike : PySem.W.subIn K (.ref e_NoBattle) (.ref e_NoAlike) = some false)
    (s_NoBattle_NoNumber : PySem.W.subIn K (.ref e_NoBattle) (.ref e_NoNumber) = some false)
    (ho_n : PySem.W.specialIn K (.builtin "object.__class__") "__get__" = some (some (.builtin "getset_descriptor.__get__")))
    (ho_t : PySem.W.takesIn K (.builtin "object.__class__") = some true) : ∃ T : Txt K mg, T.a_law = f_law ∧ ∀ (s : Shared) (v : Value), BindsTo s T.d_law ⟨[v], []⟩ [("_law_script", v)] :=
  ⟨{ a_NoBattle_init := f_NoBattle_init,
      d_NoBattle_init := _,
      F_NoBattle_init := fun_mk (st := s_NoBattle_init) l_NoBattle_init c_NoBattle_init k_NoBattle_init,
      b_NoBattle_init := (fun_mk (st := s_NoBattle_init) l_NoBattle_init c_NoBattle_init k_NoBattle_init).binds fun _ _ _ _ _ _ us hl => match us, hl with | [_, _], _ => rfl,
      a_is_number := f_is_number,
      d_is_number := _,
      F_is_number := fun_mk (st := s_is_number) l_is_number c_is_number k_is_number,
      g_is_number := PySem.W.mg_of X G a_is_number,
      b_is_number := (fun_mk (st := s_is_number) l_is_number c_is_number k_is_number).binds fun _ _ _ _ _ _ us hl => match us, hl with | [_], _ => rfl,
      a_are_numbers := f_are_numbers,
      d_are_numbers := _,
      F_are_numbers := fun_mk (st := s_are_numbers) l_are_numbers c_are_numbers k_are_numbers,
      g_are_numbers := PySem.W.mg_of X G a_are_numbers,
      b_are_numbers := (fun_mk (st := s_are_numbers) l_are_numbers c_are_numbers k_are_numbers).binds fun _ _ _ _ _ _ us hl => match us, hl with | [_, _], _ => rfl,
      a_is_rule := f_is_rule,
      d_is_rule := _,
      F_is_rule := fun_mk (st := s_is_rule) l_is_rule c_is_rule k_is_rule,
      g_is_rule := PySem.W.mg_of X G a_is_rule,
      b_is_rule := (fun_mk (st := s_is_rule) l_is_rule c_is_rule k_is_rule).binds fun _ _ _ _ _ _ us hl => match us, hl with | [_], _ => rfl,
      a_is_field := f_is_field,
      d_is_field := _,
      F_is_field := fun_mk (st := s_is_field) l_is_field c_is_field k_is_field,
      g_is_field := PySem.W.mg_of X G a_is_field,
      b_is_field := (fun_mk (st := s_is_field) l_is_field c_is_field k_is_field).binds fun _ _ _ _ _ _ us hl => match us, hl with | [_, _, _], _ => rfl,
      a_look_battle := f_look_battle,
      d_look_battle := _,
      F_look_battle := fun_mk (st := s_look_battle) l_look_battle c_look_battle k_look_battle,
      g_look_battle := PySem.W.mg_of X G a_look_battle,
      b_look_battle := (fun_mk (st := s_look_battle) l_look_battle c_look_battle k_look_battle).binds fun _ _ _ _ _ _ us hl => match us, hl with | [_], _ => rfl,
      a_paid := f_paid,
      d_paid := _,
      F_paid := fun_mk (st := s_paid) l_paid c_paid k_paid,
      g_paid := PySem.W.mg_of X G a_paid,
      b_paid := (fun_mk (st := s_paid) l_paid c_paid k_paid).binds fun _ _ _ _ _ _ us hl => match us, hl with | [_, _, _], _ => rfl,
      a_is_plan := f_is_plan,
      d_is_plan := _,
      F_is_plan := fun_mk (st := s_is_plan) l_is_plan c_is_plan k_is_plan,
      g_is_plan := PySem.W.mg_of X G a_is_plan,
      b_is_plan := (fun_mk (st := s_is_plan) l_is_plan c_is_plan k_is_plan).binds fun _ _ _ _ _ _ us hl => match us, hl with | [_, _, _], _ => rfl,
      a_pay := f_pay,
      d_pay := _,
      F_pay := fun_mk (st := s_pay) l_pay c_pay k_pay,
      g_pay := PySem.W.mg_of X G a_pay,
      b_pay := (fun_mk (st := s_pay) l_pay c_pay k_pay).binds fun _ _ _ _ _ _ us hl => match us, hl with | [_, _, _, _], _ => rfl,
      a_won := f_won,
      d_won := _,
      F_won := fun_mk (st := s_won) l_won c_won k_won,
      g_won := PySem.W.mg_of X G a_won,
      b_won := (fun_mk (st := s_won) l_won c_won k_won).binds fun _ _ _ _ _ _ us hl => match us, hl with | [_, _, _], _ => rfl,
      a_gain := f_gain,
      d_gain := _,
      F_gain := fun_mk (st := s_gain) l_gain c_gain k_gain,
      g_gain := PySem.W.mg_of X G a_gain,
      b_gain := (fun_mk (st := s_gain) l_gain c_gain k_gain).binds fun _ _ _ _ _ _ us hl => match us, hl with | [_, _, _], _ => rfl,
      a_rises_on := f_rises_on,
      d_rises_on := _,
      F_rises_on := fun_mk (st := s_rises_on) l_rises_on c_rises_on k_rises_on,
      g_rises_on := PySem.W.mg_of X G a_rises_on,
      b_rises_on := (fun_mk (st := s_rises_on) l_rises_on c_rises_on k_rises_on).binds fun _ _ _ _ _ _ us hl => match us, hl with | [_, _, _], _ => rfl,
      a_rises := f_rises,
      d_rises := _,
      F_rises := fun_mk (st := s_rises) l_rises c_rises k_rises,
      g_rises := PySem.W.mg_of X G a_rises,
      b_rises := (fun_mk (st := s_rises) l_rises c_rises k_rises).binds fun _ _ _ _ _ _ us hl => match us, hl with | [_], _ => rfl,
      a_is_row := f_is_row,
      d_is_row := _,
      F_is_row := fun_mk (st := s_is_row) l_is_row c_is_row k_is_row,
      g_is_row := PySem.W.mg_of X G a_is_row,
      b_is_row := (fun_mk (st := s_is_row) l_is_row c_is_row k_is_row).binds fun _ _ _ _ _ _ us hl => match us, hl with | [_, _], _ => rfl,
      a_is_stream := f_is_stream,
      d_is_stream := _,
      F_is_stream := fun_mk (st := s_is_stream) l_is_stream c_is_stream k_is_stream,
      g_is_stream := PySem.W.mg_of X G a_is_stream,
      b_is_stream := (fun_mk (st := s_is_stream) l_is_stream c_is_stream k_is_stream).binds fun _ _ _ _ _ _ us hl => match us, hl with | [_, _, _], _ => rfl,
      a_is_alike := f_is_alike,
      d_is_alike := _,
      F_is_alike := fun_mk (st := s_is_alike) l_is_alike c_is_alike k_is_alike,
      g_is_alike := PySem.W.mg_of X G a_is_alike,
      b_is_alike := (fun_mk (st := s_is_alike) l_is_alike c_is_alike k_is_alike).binds fun _ _ _ _ _ _ us hl => match us, hl with | [_], _ => rfl,
      a_must_be_side := f_must_be_side,
      d_must_be_side := _,
      F_must_be_side := fun_mk (st := s_must_be_side) l_must_be_side c_must_be_side k_must_be_side,
      g_must_be_side := PySem.W.mg_of X G a_must_be_side,
      b_must_be_side := (fun_mk (st := s_must_be_side) l_must_be_side c_must_be_side k_must_be_side).binds fun _ _ _ _ _ _ us hl => match us, hl with | [_], _ => rfl,
      a_dues := f_dues,
      d_dues := _,
      F_dues := fun_mk (st := s_dues) l_dues c_dues k_dues,
      g_dues := PySem.W.mg_of X G a_dues,
      b_dues := (fun_mk (st := s_dues) l_dues c_dues k_dues).binds fun _ _ _ _ _ _ us hl => match us, hl with | [_, _, _], _ => rfl,
      a_goings_on := f_goings_on,
      d_goings_on := _,
      F_goings_on := fun_mk (st := s_goings_on) l_goings_on c_goings_on k_goings_on,
      g_goings_on := PySem.W.mg_of X G a_goings_on,
      b_goings_on := (fun_mk (st := s_goings_on) l_goings_on c_goings_on k_goings_on).binds fun _ _ _ _ _ _ us hl => match us, hl with | [_, _, _, _], _ => rfl,
      a_is_table := f_is_table,
      d_is_table := _,
      F_is_table := fun_mk (st := s_is_table) l_is_table c_is_table k_is_table,
      g_is_table := PySem.W.mg_of X G a_is_table,
      b_is_table := (fun_mk (st := s_is_table) l_is_table c_is_table k_is_table).binds fun _ _ _ _ _ _ us hl => match us, hl with | [_, _, _], _ => rfl,
      a_wrong_number := f_wrong_number,
      d_wrong_number := _,
      F_wrong_number := fun_mk (st := s_wrong_number) l_wrong_number c_wrong_number k_wrong_number,
      g_wrong_number := PySem.W.mg_of X G a_wrong_number,
      b_wrong_number := (fun_mk (st := s_wrong_number) l_wrong_number c_wrong_number k_wrong_number).binds fun _ _ _ _ _ _ us hl => match us, hl with | [_, _, _], _ => rfl,
      a_judged := f_judged,
      d_judged := _,
      F_judged := fun_mk (st := s_judged) l_judged c_judged k_judged,
      g_judged := PySem.W.mg_of X G a_judged,
      b_judged := (fun_mk (st := s_judged) l_judged c_judged k_judged).binds fun _ _ _ _ _ _ us hl => match us, hl with | [_, _, _, _], _ => rfl,
      a_l_mix := f_l_mix,
      d_l_mix := _,
      F_l_mix := fun_mk (st := s_l_mix) l_l_mix c_l_mix k_l_mix,
      g_l_mix := PySem.W.mg_of X G a_l_mix,
      b_l_mix := (fun_mk (st := s_l_mix) l_l_mix c_l_mix k_l_mix).binds fun _ _ _ _ _ _ us hl => match us, hl with | [_, _], _ => rfl,
      a_l_cell_at := f_l_cell_at,
      d_l_cell_at := _,
      F_l_cell_at := fun_mk (st := s_l_cell_at) l_l_cell_at c_l_cell_at k_l_cell_at,
      g_l_cell_at := PySem.W.mg_of X G a_l_cell_at,
      b_l_cell_at := (fun_mk (st := s_l_cell_at) l_l_cell_at c_l_cell_at k_l_cell_at).binds fun _ _ _ _ _ _ us hl => match us, hl with | [_, _], _ => rfl,
      a_l_left := f_l_left,
      d_l_left := _,
      F_l_left := fun_mk (st := s_l_left) l_l_left c_l_left k_l_left,
      g_l_left := PySem.W.mg_of X G a_l_left,
      b_l_left := (fun_mk (st := s_l_left) l_l_left c_l_left k_l_left).binds fun _ _ _ _ _ _ us hl => match us, hl with | [_, _], _ => rfl,
      a_l_draw := f_l_draw,
      d_l_draw := _,
      F_l_draw := fun_mk (st := s_l_draw) l_l_draw c_l_draw k_l_draw,
      g_l_draw := PySem.W.mg_of X G a_l_draw,
      b_l_draw := (fun_mk (st := s_l_draw) l_l_draw c_l_draw k_l_draw).binds fun _ _ _ _ _ _ us hl => match us, hl with | [_, _], _ => rfl,
      a_l_some := f_l_some,
      d_l_some := _,
      F_l_some := fun_mk (st := s_l_some) l_l_some c_l_some k_l_some,
      g_l_some := PySem.W.mg_of X G a_l_some,
      b_l_some := (fun_mk (st := s_l_some) l_l_some c_l_some k_l_some).binds fun _ _ _ _ _ _ us hl => match us, hl with | [_], _ => rfl,
      a_l_rule := f_l_rule,
      d_l_rule := _,
      F_l_rule := fun_mk (st := s_l_rule) l_l_rule c_l_rule k_l_rule,
      g_l_rule := PySem.W.mg_of X G a_l_rule,
      b_l_rule := (fun_mk (st := s_l_rule) l_l_rule c_l_rule k_l_rule).binds fun _ _ _ _ _ _ us hl => match us, hl with | [_, _, _], _ => rfl,
      a_l_battle := f_l_battle,
      d_l_battle := _,
      F_l_battle := fun_mk (st := s_l_battle) l_l_battle c_l_battle k_l_battle,
      g_l_battle := PySem.W.mg_of X G a_l_battle,
      b_l_battle := (fun_mk (st := s_l_battle) l_l_battle c_l_battle k_l_battle).binds fun _ _ _ _ _ _ us hl => match us, hl with | [_, _, _], _ => rfl,
      a_l_deep := f_l_deep,
      d_l_deep := _,
      F_l_deep := fun_mk (st := s_l_deep) l_l_deep c_l_deep k_l_deep,
      g_l_deep := PySem.W.mg_of X G a_l_deep,
      b_l_deep := (fun_mk (st := s_l_deep) l_l_deep c_l_deep k_l_deep).binds fun _ _ _ _ _ _ us hl => match us, hl with | [_], _ => rfl,
      a_l_bent_rule := f_l_bent_rule,
      d_l_bent_rule := _,
      F_l_bent_rule := fun_mk (st := s_l_bent_rule) l_l_bent_rule c_l_bent_rule k_l_bent_rule,
      g_l_bent_rule := PySem.W.mg_of X G a_l_bent_rule,
      b_l_bent_rule := (fun_mk (st := s_l_bent_rule) l_l_bent_rule c_l_bent_rule k_l_bent_rule).binds fun _ _ _ _ _ _ us hl => match us, hl with | [_, _], _ => rfl,
      a_l_bent := f_l_bent,
      d_l_bent := _,
      F_l_bent := fun_mk (st := s_l_bent) l_l_bent c_l_bent k_l_bent,
      g_l_bent := PySem.W.mg_of X G a_l_bent,
      b_l_bent := (fun_mk (st := s_l_bent) l_l_bent c_l_bent k_l_bent).binds fun _ _ _ _ _ _ us hl => match us, hl with | [_, _], _ => rfl,
      a_l_whole := f_l_whole,
      d_l_whole := _,
      F_l_whole := fun_mk (st := s_l_whole) l_l_whole c_l_whole k_l_whole,
      g_l_whole := PySem.W.mg_of X G a_l_whole,
      b_l_whole := (fun_mk (st := s_l_whole) l_l_whole c_l_whole k_l_whole).binds fun _ _ _ _ _ _ us hl => match us, hl with | [_], _ => rfl,
      a_l_is_rows := f_l_is_rows,
      d_l_is_rows := _,
      F_l_is_rows := fun_mk (st := s_l_is_rows) l_l_is_rows c_l_is_rows k_l_is_rows,
      g_l_is_rows := PySem.W.mg_of X G a_l_is_rows,
      b_l_is_rows := (fun_mk (st := s_l_is_rows) l_l_is_rows c_l_is_rows k_l_is_rows).binds fun _ _ _ _ _ _ us hl => match us, hl with | [_, _, _], _ => rfl,
      a_l_is_rule := f_l_is_rule,
      d_l_is_rule := _,
      F_l_is_rule := fun_mk (st := s_l_is_rule) l_l_is_rule c_l_is_rule k_l_is_rule,
      g_l_is_rule := PySem.W.mg_of X G a_l_is_rule,
      b_l_is_rule := (fun_mk (st := s_l_is_rule) l_l_is_rule c_l_is_rule k_l_is_rule).binds fun _ _ _ _ _ _ us hl => match us, hl with | [_, _, _], _ => rfl,
      a_l_due := f_l_due,
      d_l_due := _,
      F_l_due := fun_mk (st := s_l_due) l_l_due c_l_due k_l_due,
      g_l_due := PySem.W.mg_of X G a_l_due,
      b_l_due := (fun_mk (st := s_l_due) l_l_due c_l_due k_l_due).binds fun _ _ _ _ _ _ us hl => match us, hl with | [_], _ => rfl,
      a_l_refused := f_l_refused,
      d_l_refused := _,
      F_l_refused := fun_mk (st := s_l_refused) l_l_refused c_l_refused k_l_refused,
      g_l_refused := PySem.W.mg_of X G a_l_refused,
      b_l_refused := (fun_mk (st := s_l_refused) l_l_refused c_l_refused k_l_refused).binds fun _ _ _ _ _ _ us hl => match us, hl with | [_, _], _ => rfl,
      a_law := f_law,
      d_law := _,
      F_law := fun_mk (st := s_law) l_law c_law k_law,
      g_law := PySem.W.mg_of X G a_law,
      b_law := (fun_mk (st := s_law) l_law c_law k_law).binds fun _ _ _ _ _ _ us hl => match us, hl with | [_], _ => rfl,
      z_ValueError := PySem.W.mg_none_of X G z_ValueError,
      z_abs := PySem.W.mg_none_of X G z_abs,
      z_bool := PySem.W.mg_none_of X G z_bool,
      z_int := PySem.W.mg_none_of X G z_int,
      z_isinstance := PySem.W.mg_none_of X G z_isinstance,
      z_len := PySem.W.mg_none_of X G z_len,
      z_list := PySem.W.mg_none_of X G z_list,
      z_max := PySem.W.mg_none_of X G z_max,
      z_min := PySem.W.mg_none_of X G z_min,
      z_range := PySem.W.mg_none_of X G z_range,
      z_sum := PySem.W.mg_none_of X G z_sum,
      z_tuple := PySem.W.mg_none_of X G z_tuple,
      t_MOST_HOSTS := t_MOST_HOSTS,
      c_MOST_HOSTS := PySem.W.mg_of X G h_MOST_HOSTS,
      t_MOST_FIELDS := t_MOST_FIELDS,
      c_MOST_FIELDS := PySem.W.mg_of X G h_MOST_FIELDS,
      e_SIDES := e_SIDES,
      c_SIDES := PySem.W.mg_of X G h_SIDES,
      q_SIDES := ⟨_, _, _, lq_SIDES, rfl, rfl, rfl, (show 2 ≤ sizeLine by decide), .cons ⟨_, rfl⟩ (.cons ⟨_, rfl⟩ (.nil))⟩,
      e_HostError := e_HostError,
      g_HostError := PySem.W.mg_of X G h_HostError,
      i_HostError := i_HostError,
      t_HostError := t_HostError,
      y_HostError := y_HostError,
      e_NoBattle := e_NoBattle,
      g_NoBattle := PySem.W.mg_of X G h_NoBattle,
      i_NoBattle := i_NoBattle,
      t_NoBattle := t_NoBattle,
      y_NoBattle := y_NoBattle,
      e_NoPlan := e_NoPlan,
      g_NoPlan := PySem.W.mg_of X G h_NoPlan,
      i_NoPlan := i_NoPlan,
      t_NoPlan := t_NoPlan,
      y_NoPlan := y_NoPlan,
      e_NoMix := e_NoMix,
      g_NoMix := PySem.W.mg_of X G h_NoMix,
      i_NoMix := i_NoMix,
      t_NoMix := t_NoMix,
      y_NoMix := y_NoMix,
      e_NoStream := e_NoStream,
      g_NoStream := PySem.W.mg_of X G h_NoStream,
      i_NoStream := i_NoStream,
      t_NoStream := t_NoStream,
      y_NoStream := y_NoStream,
      e_NoSide := e_NoSide,
      g_NoSide := PySem.W.mg_of X G h_NoSide,
      i_NoSide := i_NoSide,
      t_NoSide := t_NoSide,
      y_NoSide := y_NoSide,
      e_NoAlike := e_NoAlike,
      g_NoAlike := PySem.W.mg_of X G h_NoAlike,
      i_NoAlike := i_NoAlike,
      t_NoAlike := t_NoAlike,
      y_NoAlike := y_NoAlike,
      e_NoNumber := e_NoNumber,
      g_NoNumber := PySem.W.mg_of X G h_NoNumber,
      i_NoNumber := i_NoNumber,
      t_NoNumber := t_NoNumber,
      y_NoNumber := y_NoNumber,
      x_NoPlan := x_NoPlan,
      k_NoPlan := k_NoPlan,
      hg_NoPlan := hg_NoPlan,
      hk_NoPlan := hk_NoPlan,
      hd_NoPlan := hd_NoPlan,
      ha_NoPlan := ha_NoPlan,
      hm_NoPlan := hm_NoPlan,
      v_NoPlan := v_NoPlan,
      s_NoPlan_HostError := s_NoPlan_HostError,
      s_NoPlan_NoBattle := s_NoPlan_NoBattle,
      s_NoPlan_NoPlan := s_NoPlan_NoPlan,
      s_NoPlan_NoMix := s_NoPlan_NoMix,
      s_NoPlan_NoStream := s_NoPlan_NoStream,
      s_NoPlan_NoSide := s_NoPlan_NoSide,
      s_NoPlan_NoAlike := s_NoPlan_NoAlike,
      s_NoPlan_NoNumber := s_NoPlan_NoNumber,
      x_NoSide := x_NoSide,
      k_NoSide := k_NoSide,
      hg_NoSide := hg_NoSide,
      hk_NoSide := hk_NoSide,
      hd_NoSide := hd_NoSide,
      ha_NoSide := ha_NoSide,
      hm_NoSide := hm_NoSide,
      v_NoSide := v_NoSide,
      s_NoSide_HostError := s_NoSide_HostError,
      s_NoSide_NoBattle := s_NoSide_NoBattle,
      s_NoSide_NoPlan := s_NoSide_NoPlan,
      s_NoSide_NoMix := s_NoSide_NoMix,
      s_NoSide_NoStream := s_NoSide_NoStream,
      s_NoSide_NoSide := s_NoSide_NoSide,
      s_NoSide_NoAlike := s_NoSide_NoAlike,
      s_NoSide_NoNumber := s_NoSide_NoNumber,
      oc_NoBattle := ⟨xn_NoBattle, xq_NoBattle, xN_NoBattle, xb_NoBattle, _, xs_NoBattle, xu_NoBattle, xa_NoBattle, xc_NoBattle, xd_NoBattle, x0_NoBattle, x1_NoBattle, x2_NoBattle, x3_NoBattle, x5_NoBattle, oc_NoBattle, (show PySem.HandSPX.refsVE [.type "ValueError", .type "Exception", .type "BaseException", .type "object"] = true by decide +kernel)⟩,
      sa_NoBattle := sa_NoBattle,
      ic_NoBattle := ic_NoBattle,
      ti_NoBattle := ti_NoBattle,
      no_NoBattle_field := no_NoBattle_field,
      rd_HostError := rd_HostError,
      ga_HostError := ga_HostError,
      fc_HostError := fc_HostError,
      k_NoBattle := k_NoBattle,
      hg_NoBattle := hg_NoBattle,
      hk_NoBattle := hk_NoBattle,
      hd_NoBattle := hd_NoBattle,
      ha_NoBattle := ha_NoBattle,
      hm_NoBattle := hm_NoBattle,
      v_NoBattle := v_NoBattle,
      s_NoBattle_HostError := s_NoBattle_HostError,
      s_NoBattle_NoBattle := s_NoBattle_NoBattle,
      s_NoBattle_NoPlan := s_NoBattle_NoPlan,
      s_NoBattle_NoMix := s_NoBattle_NoMix,
      s_NoBattle_NoStream := s_NoBattle_NoStream,
      s_NoBattle_NoSide := s_NoBattle_NoSide,
      s_NoBattle_NoAlike := s_NoBattle_NoAlike,
      s_NoBattle_NoNumber := s_NoBattle_NoNumber,
      ho_n := ho_n,
      ho_t := ho_t }, rfl, fun _ _ => .of_eq rfl⟩
theorem all_mk {P : Program} {w : World} {K : PySem.W.Frag} {h : Heap} {mg : Str → Option Value} {fa : Addr} {f_NoBattle_init : Addr} {o_NoBattle_init n_NoBattle_init : Option Addr} {w_NoBattle_init : Array (Option Value)} {q1_NoBattle_init q2_NoBattle_init q3_NoBattle_init q4_NoBattle_init q5_NoBattle_init q6_NoBattle_init : Value} {f_is_number : Addr} {o_is_number n_is_number : Option Addr} {w_is_number : Array (Option Value)} {q1_is_number q2_is_number q3_is_number q4_is_number q5_is_number q6_is_number : Value} {f_are_numbers : Addr} {o_are_numbers n_are_numbers : Option Addr} {w_are_numbers : Array (Option Value)} {q1_are_numbers q2_are_numbers q3_are_numbers q4_are_numbers q5_are_numbers q6_are_numbers : Value} {f_is_rule : Addr} {o_is_rule n_is_rule : Option Addr} {w_is_rule : Array (Option Value)} {q1_is_rule q2_is_rule q3_is_rule q4_is_rule q5_is_rule q6_is_rule : Value} {f_is_field : Addr} {o_is_field n_is_field : Option Addr} {w_is_field : Array (Option Value)} {q1_is_field q2_is_field q3_is_field q4_is_field q5_is_field q6_is_field : Value} {f_look_battle : Addr} {o_look_battle n_look_battle : Option Addr} {w_look_battle : Array (Option Value)} {q1_look_battle q2_look_battle q3_look_battle q4_look_battle q5_look_battle q6_look_battle : Value} {f_paid : Addr} {o_paid n_paid : Option Addr} {w_paid : Array (Option Value)} {q1_paid q2_paid q3_paid q4_paid q5_paid q6_paid : Value} {f_is_plan : Addr} {o_is_plan n_is_plan : Option Addr} {w_is_plan : Array (Option Value)} {q1_is_plan q2_is_plan q3_is_plan q4_is_plan q5_is_plan q6_is_plan : Value} {f_pay : Addr} {o_pay n_pay : Option Addr} {w_pay : Array (Option Value)} {q1_pay q2_pay q3_pay q4_pay q5_pay q6_pay : Value} {f_won : Addr} {o_won n_won : Option Addr} {w_won : Array (Option Value)} {q1_won q2_won q3_won q4_won q5_won q6_won : Value} {f_gain : Addr} {o_gain n_gain : Option Addr} {w_gain : Array (Option Value)} {q1_gain q2_gain q3_gain q4_gain q5_gain q6_gain : Value} {f_rises_on : Addr} {o_rises_on n_rises_on : Option Addr} {w_rises_on : Array (Option Value)} {q1_rises_on q2_rises_on q3_rises_on q4_rises_on q5_rises_on q6_rises_on : Value} {f_rises : Addr} {o_rises n_rises : Option Addr} {w_rises : Array (Option Value)} {q1_rises q2_rises q3_rises q4_rises q5_rises q6_rises : Value} {f_is_row : Addr} {o_is_row n_is_row : Option Addr} {w_is_row : Array (Option Value)} {q1_is_row q2_is_row q3_is_row q4_is_row q5_is_row q6_is_row : Value} {f_is_stream : Addr} {o_is_stream n_is_stream : Option Addr} {w_is_stream : Array (Option Value)} {q1_is_stream q2_is_stream q3_is_stream q4_is_stream q5_is_stream q6_is_stream : Value} {f_is_alike : Addr} {o_is_alike n_is_alike : Option Addr} {w_is_alike : Array (Option Value)} {q1_is_alike q2_is_alike q3_is_alike q4_is_alike q5_is_alike q6_is_alike : Value} {f_must_be_side : Addr} {o_must_be_side n_must_be_side : Option Addr} {w_must_be_side : Array (Option Value)} {q1_must_be_side q2_must_be_side q3_must_be_side q4_must_be_side q5_must_be_side q6_must_be_side : Value} {f_dues : Addr} {o_dues n_dues : Option Addr} {w_dues : Array (Option Value)} {q1_dues q2_dues q3_dues q4_dues q5_dues q6_dues : Value} {f_goings_on : Addr} {o_goings_on n_goings_on : Option Addr} {w_goings_on : Array (Option Value)} {q1_goings_on q2_goings_on q3_goings_on q4_goings_on q5_goings_on q6_goings_on : Value} {f_is_table : Addr} {o_is_table n_is_table : Option Addr} {w_is_table : Array (Option Value)} {q1_is_table q2_is_table q3_is_table q4_is_table q5_is_table q6_is_table : Value} {f_wrong_number : Addr} {o_wrong_number n_wrong_number : Option Addr} {w_wrong_number : Array (Option Value)} {q1_wrong_number q2_wrong_number q3_wrong_number q4_wrong_number q5_wrong_number q6_wrong_number : Value} {f_judged : Addr} {o_judged n_judged : Option Addr} {w_judged : Array (Option Value)} {q1_judged q2_judged q3_judged q4_judged q5_judged q6_judged : Value} {f_l_mix : Addr} {o_l_mix n_l_mix : Option Addr} {w_l_mix : Array (Option Value)} {q1_l_mix q2_l_mix q3_l_mix q4_l_mix q5_l_mix q6_l_mix : Value} {f_l_cell_at : Addr} {o_l_cell_at n_l_cell_at : Option Addr} {w_l_cell_at : Array (Option Value)} {q1_l_cell_at q2_l_cell_at q3_l_cell_at q4_l_cell_at q5_l_cell_at q6_l_cell_at : Value} {f_l_left : Addr} {o_l_left n_l_left : Option Addr} {w_l_left : Array (Option Value)} {q1_l_left q2_l_left q3_l_left q4_l_left q5_l_left q6_l_left : Value} {f_l_draw : Addr} {o_l_draw n_l_draw : Option Addr} {w_l_draw : Array (Option Value)} {q1_l_draw q2_l_draw q3_l_draw q4_l_draw q5_l_draw q6_l_draw : Value} {f_l_some : Addr} {o_l_some n_l_some : Option Addr} {w_l_some : Array (Option Value)} {q1_l_some q2_l_some q3_l_some q4_l_some q5_l_some q6_l_some : Value} {f_l_rule : Addr} {o_l_rule n_l_rule : Option Addr} {w_l_rule : Array (Option Value)} {q1_l_rule q2_l_rule q3_l_rule q4_l_rule q5_l_rule q6_l_rule : Value} {f_l_battle : Addr} {o_l_battle n_l_battle : Option Addr} {w_l_battle : Array (Option Value)} {q1_l_battle q2_l_battle q3_l_battle q4_l_battle q5_l_battle q6_l_battle : Value} {f_l_deep : Addr} {o_l_deep n_l_deep : Option Addr} {w_l_deep : Array (Option Value)} {q1_l_deep q2_l_deep q3_l_deep q4_l_deep q5_l_deep q6_l_deep : Value} {f_l_bent_rule : Addr} {o_l_bent_rule n_l_bent_rule : Option Addr} {w_l_bent_rule : Array (Option Value)} {q1_l_bent_rule q2_l_bent_rule q3_l_bent_rule q4_l_bent_rule q5_l_bent_rule q6_l_bent_rule : Value} {f_l_bent : Addr} {o_l_bent n_l_bent : Option Addr} {w_l_bent : Array (Option Value)} {q1_l_bent q2_l_bent q3_l_bent q4_l_bent q5_l_bent q6_l_bent : Value} {f_l_whole : Addr} {o_l_whole n_l_whole : Option Addr} {w_l_whole : Array (Option Value)} {q1_l_whole q2_l_whole q3_l_whole q4_l_whole q5_l_whole q6_l_whole : Value} {f_l_is_rows : Addr} {o_l_is_rows n_l_is_rows : Option Addr} {w_l_is_rows : Array (Option Value)} {q1_l_is_rows q2_l_is_rows q3_l_is_rows q4_l_is_rows q5_l_is_rows q6_l_is_rows : Value} {f_l_is_rule : Addr} {o_l_is_rule n_l_is_rule : Option Addr} {w_l_is_rule : Array (Option Value)} {q1_l_is_rule q2_l_is_rule q3_l_is_rule q4_l_is_rule q5_l_is_rule q6_l_is_rule : Value} {f_l_due : Addr} {o_l_due n_l_due : Option Addr} {w_l_due : Array (Option Value)} {q1_l_due q2_l_due q3_l_due q4_l_due q5_l_due q6_l_due : Value} {f_l_refused : Addr} {o_l_refused n_l_refused : Option Addr} {w_l_refused : Array (Option Value)} {q1_l_refused q2_l_refused q3_l_refused q4_l_refused q5_l_refused q6_l_refused : Value} {f_law : Addr} {o_law n_law : Option Addr} {w_law : Array (Option Value)} {q1_law q2_law q3_law q4_law q5_law q6_law : Value} {t_MOST_HOSTS : Tok} {t_MOST_FIELDS : Tok} {e_SIDES : Addr} {j0_SIDES : Nat} {j1_SIDES : Array (Option Value)} {tk0_SIDES : Tok} {tk1_SIDES : Tok} {e_HostError : Addr} {e_NoBattle : Addr} {e_NoPlan : Addr} {e_NoMix : Addr} {e_NoStream : Addr} {e_NoSide : Addr} {e_NoAlike : Addr} {e_NoNumber : Addr} {xn_NoBattle xq_NoBattle : Str} {xN_NoBattle : Addr} {xb_NoBattle : List Value} {xs_NoBattle : List Str} {xu_NoBattle : List Value} {xa_NoBattle : Bool} {xc_NoBattle : Option Bool} {xd_NoBattle : Option Addr} {x0_NoBattle x1_NoBattle x2_NoBattle x3_NoBattle x5_NoBattle : Option Value} (X : K.In h) (G : h.Ns mainGlobals mg) (hfa : mg "law" = some (.ref fa))
    (h_HostError : PySem.W.nsIn K mainGlobals "HostError" = some (some (.ref e_HostError)))
    (h_NoBattle : PySem.W.nsIn K mainGlobals "NoBattle" = some (some (.ref e_NoBattle)))
    (h_NoPlan : PySem.W.nsIn K mainGlobals "NoPlan" = some (some (.ref e_NoPlan)))
    (h_NoMix : PySem.W.nsIn K mainGlobals "NoMix" = some (some (.ref e_NoMix)))
    (h_NoStream : PySem.W.nsIn K mainGlobals "NoStream" = some (some (.ref e_NoStream)))
    (h_NoSide : PySem.W.nsIn K mainGlobals "NoSide" = some (some (.ref e_NoSide)))
    (h_NoAlike : PySem.W.nsIn K mainGlobals "NoAlike" = some (some (.ref e_NoAlike)))
    (h_NoNumber : PySem.W.nsIn K mainGlobals "NoNumber" = some (some (.ref e_NoNumber)))
    (ic_NoBattle : PySem.W.findIn K (.ref e_NoBattle) "__init__" = some (some (.ref f_NoBattle_init)))
    (l_NoBattle_init : K.lookup f_NoBattle_init = some ⟨q1_NoBattle_init, o_NoBattle_init, .func (PySem.W.fnOf "__init__" "NoBattle.__init__" (defArgs s_NoBattle_init) (defBody s_NoBattle_init) (defScope s_NoBattle_init) .none q2_NoBattle_init q3_NoBattle_init q4_NoBattle_init n_NoBattle_init q5_NoBattle_init q6_NoBattle_init), w_NoBattle_init⟩)
    (c_NoBattle_init : PySem.W.codeIn K q5_NoBattle_init "NoBattle.__init__" = true)
    (k_NoBattle_init : PySem.W.keepIn K (.ref f_NoBattle_init) = true)
    (a_is_number : PySem.W.nsIn K mainGlobals "is_number" = some (some (.ref f_is_number)))
    (l_is_number : K.lookup f_is_number = some ⟨q1_is_number, o_is_number, .func (PySem.W.fnOf "is_number" "is_number" (defArgs s_is_number) (defBody s_is_number) (defScope s_is_number) .none q2_is_number q3_is_number q4_is_number n_is_number q5_is_number q6_is_number), w_is_number⟩)
    (c_is_number : PySem.W.codeIn K q5_is_number "is_number" = true)
    (k_is_number : PySem.W.keepIn K (.ref f_is_number) = true)
    (a_are_numbers : PySem.W.nsIn K mainGlobals "are_numbers" = some (some (.ref f_are_numbers)))
    (l_are_numbers : K.lookup f_are_numbers = some ⟨q1_are_numbers, o_are_numbers, .func (PySem.W.fnOf "are_numbers" "are_numbers" (defArgs s_are_numbers) (defBody s_are_numbers) (defScope s_are_numbers) .none q2_are_numbers q3_are_numbers q4_are_numbers n_are_numbers q5_are_numbers q6_are_numbers), w_are_numbers⟩)
    (c_are_numbers : PySem.W.codeIn K q5_are_numbers "are_numbers" = true)
    (k_are_numbers : PySem.W.keepIn K (.ref f_are_numbers) = true)
    (a_is_rule : PySem.W.nsIn K mainGlobals "is_rule" = some (some (.ref f_is_rule)))
    (l_is_rule : K.lookup f_is_rule = some ⟨q1_is_rule, o_is_rule, .func (PySem.W.fnOf "is_rule" "is_rule" (defArgs s_is_rule) (defBody s_is_rule) (defScope s_is_rule) .none q2_is_rule q3_is_rule q4_is_rule n_is_rule q5_is_rule q6_is_rule), w_is_rule⟩)
    (c_is_rule : PySem.W.codeIn K q5_is_rule "is_rule" = true)
    (k_is_rule : PySem.W.keepIn K (.ref f_is_rule) = true)
    (a_is_field : PySem.W.nsIn K mainGlobals "is_field" = some (some (.ref f_is_field)))
    (l_is_field : K.lookup f_is_field = some ⟨q1_is_field, o_is_field, .func (PySem.W.fnOf "is_field" "is_field" (defArgs s_is_field) (defBody s_is_field) (defScope s_is_field) .none q2_is_field q3_is_field q4_is_field n_is_field q5_is_field q6_is_field), w_is_field⟩)
    (c_is_field : PySem.W.codeIn K q5_is_field "is_field" = true)
    (k_is_field : PySem.W.keepIn K (.ref f_is_field) = true)
    (a_look_battle : PySem.W.nsIn K mainGlobals "look_battle" = some (some (.ref f_look_battle)))
    (l_look_battle : K.lookup f_look_battle = some ⟨q1_look_battle, o_look_battle, .func (PySem.W.fnOf "look_battle" "look_battle" (defArgs s_look_battle) (defBody s_look_battle) (defScope s_look_battle) .none q2_look_battle q3_look_battle q4_look_battle n_look_battle q5_look_battle q6_look_battle), w_look_battle⟩)
    (c_look_battle : PySem.W.codeIn K q5_look_battle "look_battle" = true)
    (k_look_battle : PySem.W.keepIn K (.ref f_look_battle) = true)
    (a_paid : PySem.W.nsIn K mainGlobals "paid" = some (some (.ref f_paid)))
    (l_paid : K.lookup f_paid = some ⟨q1_paid, o_paid, .func (PySem.W.fnOf "paid" "paid" (defArgs s_paid) (defBody s_paid) (defScope s_paid) .none q2_paid q3_paid q4_paid n_paid q5_paid q6_paid), w_paid⟩)
    (c_paid : PySem.W.codeIn K q5_paid "paid" = true)
    (k_paid : PySem.W.keepIn K (.ref f_paid) = true)
    (a_is_plan : PySem.W.nsIn K mainGlobals "is_plan" = some (some (.ref f_is_plan)))
    (l_is_plan : K.lookup f_is_plan = some ⟨q1_is_plan, o_is_plan, .func (PySem.W.fnOf "is_plan" "is_plan" (defArgs s_is_plan) (defBody s_is_plan) (defScope s_is_plan) .none q2_is_plan q3_is_plan q4_is_plan n_is_plan q5_is_plan q6_is_plan), w_is_plan⟩)
    (c_is_plan : PySem.W.codeIn K q5_is_plan "is_plan" = true)
    (k_is_plan : PySem.W.keepIn K (.ref f_is_plan) = true)
    (a_pay : PySem.W.nsIn K mainGlobals "pay" = some (some (.ref f_pay)))
    (l_pay : K.lookup f_pay = some ⟨q1_pay, o_pay, .func (PySem.W.fnOf "pay" "pay" (defArgs s_pay) (defBody s_pay) (defScope s_pay) .none q2_pay q3_pay q4_pay n_pay q5_pay q6_pay), w_pay⟩)
    (c_pay : PySem.W.codeIn K q5_pay "pay" = true)
    (k_pay : PySem.W.keepIn K (.ref f_pay) = true)
    (a_won : PySem.W.nsIn K mainGlobals "won" = some (some (.ref f_won)))
    (l_won : K.lookup f_won = some ⟨q1_won, o_won, .func (PySem.W.fnOf "won" "won" (defArgs s_won) (defBody s_won) (defScope s_won) .none q2_won q3_won q4_won n_won q5_won q6_won), w_won⟩)
    (c_won : PySem.W.codeIn K q5_won "won" = true)
    (k_won : PySem.W.keepIn K (.ref f_won) = true)
    (a_gain : PySem.W.nsIn K mainGlobals "gain" = some (some (.ref f_gain)))
    (l_gain : K.lookup f_gain = some ⟨q1_gain, o_gain, .func (PySem.W.fnOf "gain" "gain" (defArgs s_gain) (defBody s_gain) (defScope s_gain) .none q2_gain q3_gain q4_gain n_gain q5_gain q6_gain), w_gain⟩)
    (c_gain : PySem.W.codeIn K q5_gain "gain" = true)
    (k_gain : PySem.W.keepIn K (.ref f_gain) = true)
    (a_rises_on : PySem.W.nsIn K mainGlobals "rises_on" = some (some (.ref f_rises_on)))
    (l_rises_on : K.lookup f_rises_on = some ⟨q1_rises_on, o_rises_on, .func (PySem.W.fnOf "rises_on" "rises_on" (defArgs s_rises_on) (defBody s_rises_on) (defScope s_rises_on) .none q2_rises_on q3_rises_on q4_rises_on n_rises_on q5_rises_on q6_rises_on), w_rises_on⟩)
    (c_rises_on : PySem.W.codeIn K q5_rises_on "rises_on" = true)
    (k_rises_on : PySem.W.keepIn K (.ref f_rises_on) = true)
    (a_rises : PySem.W.nsIn K mainGlobals "rises" = some (some (.ref f_rises)))
    (l_rises : K.lookup f_rises = some ⟨q1_rises, o_rises, .func (PySem.W.fnOf "rises" "rises" (defArgs s_rises) (defBody s_rises) (defScope s_rises) .none q2_rises q3_rises q4_rises n_rises q5_rises q6_rises), w_rises⟩)
    (c_rises : PySem.W.codeIn K q5_rises "rises" = true)
    (k_rises : PySem.W.keepIn K (.ref f_rises) = true)
    (a_is_row : PySem.W.nsIn K mainGlobals "is_row" = some (some (.ref f_is_row)))
    (l_is_row : K.lookup f_is_row = some ⟨q1_is_row, o_is_row, .func (PySem.W.fnOf "is_row" "is_row" (defArgs s_is_row) (defBody s_is_row) (defScope s_is_row) .none q2_is_row q3_is_row q4_is_row n_is_row q5_is_row q6_is_row), w_is_row⟩)
    (c_is_row : PySem.W.codeIn K q5_is_row "is_row" = true)
    (k_is_row : PySem.W.keepIn K (.ref f_is_row) = true)
    (a_is_stream : PySem.W.nsIn K mainGlobals "is_stream" = some (some (.ref f_is_stream)))
    (l_is_stream : K.lookup f_is_stream = some ⟨q1_is_stream, o_is_stream, .func (PySem.W.fnOf "is_stream" "is_stream" (defArgs s_is_stream) (defBody s_is_stream) (defScope s_is_stream) .none q2_is_stream q3_is_stream q4_is_stream n_is_stream q5_is_stream q6_is_stream), w_is_stream⟩)
    (c_is_stream : PySem.W.codeIn K q5_is_stream "is_stream" = true)
    (k_is_stream : PySem.W.keepIn K (.ref f_is_stream) = true)
    (a_is_alike : PySem.W.nsIn K mainGlobals "is_alike" = some (some (.ref f_is_alike)))
    (l_is_alike : K.lookup f_is_alike = some ⟨q1_is_alike, o_is_alike, .func (PySem.W.fnOf "is_alike" "is_alike" (defArgs s_is_alike) (defBody s_is_alike) (defScope s_is_alike) .none q2_is_alike q3_is_alike q4_is_alike n_is_alike q5_is_alike q6_is_alike), w_is_alike⟩)
    (c_is_alike : PySem.W.codeIn K q5_is_alike "is_alike" = true)
    (k_is_alike : PySem.W.keepIn K (.ref f_is_alike) = true)
    (a_must_be_side : PySem.W.nsIn K mainGlobals "must_be_side" = some (some (.ref f_must_be_side)))
    (l_must_be_side : K.lookup f_must_be_side = some ⟨q1_must_be_side, o_must_be_side, .func (PySem.W.fnOf "must_be_side" "must_be_side" (defArgs s_must_be_side) (defBody s_must_be_side) (defScope s_must_be_side) .none q2_must_be_side q3_must_be_side q4_must_be_side n_must_be_side q5_must_be_side q6_must_be_side), w_must_be_side⟩)
    (c_must_be_side : PySem.W.codeIn K q5_must_be_side "must_be_side" = true)
    (k_must_be_side : PySem.W.keepIn K (.ref f_must_be_side) = true)
    (a_dues : PySem.W.nsIn K mainGlobals "dues" = some (some (.ref f_dues)))
    (l_dues : K.lookup f_dues = some ⟨q1_dues, o_dues, .func (PySem.W.fnOf "dues" "dues" (defArgs s_dues) (defBody s_dues) (defScope s_dues) .none q2_dues q3_dues q4_dues n_dues q5_dues q6_dues), w_dues⟩)
    (c_dues : PySem.W.codeIn K q5_dues "dues" = true)
    (k_dues : PySem.W.keepIn K (.ref f_dues) = true)
    (a_goings_on : PySem.W.nsIn K mainGlobals "goings_on" = some (some (.ref f_goings_on)))
    (l_goings_on : K.lookup f_goings_on = some ⟨q1_goings_on, o_goings_on, .func (PySem.W.fnOf "goings_on" "goings_on" (defArgs s_goings_on) (defBody s_goings_on) (defScope s_goings_on) .none q2_goings_on q3_goings_on q4_goings_on n_goings_on q5_goings_on q6_goings_on), w_goings_on⟩)
    (c_goings_on : PySem.W.codeIn K q5_goings_on "goings_on" = true)
    (k_goings_on : PySem.W.keepIn K (.ref f_goings_on) = true)
    (a_is_table : PySem.W.nsIn K mainGlobals "is_table" = some (some (.ref f_is_table)))
    (l_is_table : K.lookup f_is_table = some ⟨q1_is_table, o_is_table, .func (PySem.W.fnOf "is_table" "is_table" (defArgs s_is_table) (defBody s_is_table) (defScope s_is_table) .none q2_is_table q3_is_table q4_is_table n_is_table q5_is_table q6_is_table), w_is_table⟩)
    (c_is_table : PySem.W.codeIn K q5_is_table "is_table" = true)
    (k_is_table : PySem.W.keepIn K (.ref f_is_table) = true)
    (a_wrong_number : PySem.W.nsIn K mainGlobals "wrong_number" = some (some (.ref f_wrong_number)))
    (l_wrong_number : K.lookup f_wrong_number = some ⟨q1_wrong_number, o_wrong_number, .func (PySem.W.fnOf "wrong_number" "wrong_number" (defArgs s_wrong_number) (defBody s_wrong_number) (defScope s_wrong_number) .none q2_wrong_number q3_wrong_number q4_wrong_number n_wrong_number q5_wrong_number q6_wrong_number), w_wrong_number⟩)
    (c_wrong_number : PySem.W.codeIn K q5_wrong_number "wrong_number" = true)
    (k_wrong_number : PySem.W.keepIn K (.ref f_wrong_number) = true)
    (a_judged : PySem.W.nsIn K mainGlobals "judged" = some (some (.ref f_judged)))
    (l_judged : K.lookup f_judged = some ⟨q1_judged, o_judged, .func (PySem.W.fnOf "judged" "judged" (defArgs s_judged) (defBody s_judged) (defScope s_judged) .none q2_judged q3_judged q4_judged n_judged q5_judged q6_judged), w_judged⟩)
    (c_judged : PySem.W.codeIn K q5_judged "judged" = true)
    (k_judged : PySem.W.keepIn K (.ref f_judged) = true)
    (a_l_mix : PySem.W.nsIn K mainGlobals "_law_mix" = some (some (.ref f_l_mix)))
    (l_l_mix : K.lookup f_l_mix = some ⟨q1_l_mix, o_l_mix, .func (PySem.W.fnOf "_law_mix" "_law_mix" (defArgs s_l_mix) (defBody s_l_mix) (defScope s_l_mix) .none q2_l_mix q3_l_mix q4_l_mix n_l_mix q5_l_mix q6_l_mix), w_l_mix⟩)
    (c_l_mix : PySem.W.codeIn K q5_l_mix "_law_mix" = true)
    (k_l_mix : PySem.W.keepIn K (.ref f_l_mix) = true)
    (a_l_cell_at : PySem.W.nsIn K mainGlobals "_law_cell_at" = some (some (.ref f_l_cell_at)))
    (l_l_cell_at : K.lookup f_l_cell_at = some ⟨q1_l_cell_at, o_l_cell_at, .func (PySem.W.fnOf "_law_cell_at" "_law_cell_at" (defArgs s_l_cell_at) (defBody s_l_cell_at) (defScope s_l_cell_at) .none q2_l_cell_at q3_l_cell_at q4_l_cell_at n_l_cell_at q5_l_cell_at q6_l_cell_at), w_l_cell_at⟩)
    (c_l_cell_at : PySem.W.codeIn K q5_l_cell_at "_law_cell_at" = true)
    (k_l_cell_at : PySem.W.keepIn K (.ref f_l_cell_at) = true)
    (a_l_left : PySem.W.nsIn K mainGlobals "_law_left" = some (some (.ref f_l_left)))
    (l_l_left : K.lookup f_l_left = some ⟨q1_l_left, o_l_left, .func (PySem.W.fnOf "_law_left" "_law_left" (defArgs s_l_left) (defBody s_l_left) (defScope s_l_left) .none q2_l_left q3_l_left q4_l_left n_l_left q5_l_left q6_l_left), w_l_left⟩)
    (c_l_left : PySem.W.codeIn K q5_l_left "_law_left" = true)
    (k_l_left : PySem.W.keepIn K (.ref f_l_left) = true)
    (a_l_draw : PySem.W.nsIn K mainGlobals "_law_draw" = some (some (.ref f_l_draw)))
    (l_l_draw : K.lookup f_l_draw = some ⟨q1_l_draw, o_l_draw, .func (PySem.W.fnOf "_law_draw" "_law_draw" (defArgs s_l_draw) (defBody s_l_draw) (defScope s_l_draw) .none q2_l_draw q3_l_draw q4_l_draw n_l_draw q5_l_draw q6_l_draw), w_l_draw⟩)
    (c_l_draw : PySem.W.codeIn K q5_l_draw "_law_draw" = true)
    (k_l_draw : PySem.W.keepIn K (.ref f_l_draw) = true)
    (a_l_some : PySem.W.nsIn K mainGlobals "_law_some" = some (some (.ref f_l_some)))
    (l_l_some : K.lookup f_l_some = some ⟨q1_l_some, o_l_some, .func (PySem.W.fnOf "_law_some" "_law_some" (defArgs s_l_some) (defBody s_l_some) (defScope s_l_some) .none q2_l_some q3_l_some q4_l_some n_l_some q5_l_some q6_l_some), w_l_some⟩)
    (c_l_some : PySem.W.codeIn K q5_l_some "_law_some" = true)
    (k_l_some : PySem.W.keepIn K (.ref f_l_some) = true)
    (a_l_rule : PySem.W.nsIn K mainGlobals "_law_rule" = some (some (.ref f_l_rule)))
    (l_l_rule : K.lookup f_l_rule = some ⟨q1_l_rule, o_l_rule, .func (PySem.W.fnOf "_law_rule" "_law_rule" (defArgs s_l_rule) (defBody s_l_rule) (defScope s_l_rule) .none q2_l_rule q3_l_rule q4_l_rule n_l_rule q5_l_rule q6_l_rule), w_l_rule⟩)
    (c_l_rule : PySem.W.codeIn K q5_l_rule "_law_rule" = true)
    (k_l_rule : PySem.W.keepIn K (.ref f_l_rule) = true)
    (a_l_battle : PySem.W.nsIn K mainGlobals "_law_battle" = some (some (.ref f_l_battle)))
    (l_l_battle : K.lookup f_l_battle = some ⟨q1_l_battle, o_l_battle, .func (PySem.W.fnOf "_law_battle" "_law_battle" (defArgs s_l_battle) (defBody s_l_battle) (defScope s_l_battle) .none q2_l_battle q3_l_battle q4_l_battle n_l_battle q5_l_battle q6_l_battle), w_l_battle⟩)
    (c_l_battle : PySem.W.codeIn K q5_l_battle "_law_battle" = true)
    (k_l_battle : PySem.W.keepIn K (.ref f_l_battle) = true)
    (a_l_deep : PySem.W.nsIn K mainGlobals "_law_deep" = some (some (.ref f_l_deep)))
    (l_l_deep : K.lookup f_l_deep = some ⟨q1_l_deep, o_l_deep, .func (PySem.W.fnOf "_law_deep" "_law_deep" (defArgs s_l_deep) (defBody s_l_deep) (defScope s_l_deep) .none q2_l_deep q3_l_deep q4_l_deep n_l_deep q5_l_deep q6_l_deep), w_l_deep⟩)
    (c_l_deep : PySem.W.codeIn K q5_l_deep "_law_deep" = true)
    (k_l_deep : PySem.W.keepIn K (.ref f_l_deep) = true)
    (a_l_bent_rule : PySem.W.nsIn K mainGlobals "_law_bent_rule" = some (some (.ref f_l_bent_rule)))
    (l_l_bent_rule : K.lookup f_l_bent_rule = some ⟨q1_l_bent_rule, o_l_bent_rule, .func (PySem.W.fnOf "_law_bent_rule" "_law_bent_rule" (defArgs s_l_bent_rule) (defBody s_l_bent_rule) (defScope s_l_bent_rule) .none q2_l_bent_rule q3_l_bent_rule q4_l_bent_rule n_l_bent_rule q5_l_bent_rule q6_l_bent_rule), w_l_bent_rule⟩)
    (c_l_bent_rule : PySem.W.codeIn K q5_l_bent_rule "_law_bent_rule" = true)
    (k_l_bent_rule : PySem.W.keepIn K (.ref f_l_bent_rule) = true)
    (a_l_bent : PySem.W.nsIn K mainGlobals "_law_bent" = some (some (.ref f_l_bent)))
    (l_l_bent : K.lookup f_l_bent = some ⟨q1_l_bent, o_l_bent, .func (PySem.W.fnOf "_law_bent" "_law_bent" (defArgs s_l_bent) (defBody s_l_bent) (defScope s_l_bent) .none q2_l_bent q3_l_bent q4_l_bent n_l_bent q5_l_bent q6_l_bent), w_l_bent⟩)
    (c_l_bent : PySem.W.codeIn K q5_l_bent "_law_bent" = true)
    (k_l_bent : PySem.W.keepIn K (.ref f_l_bent) = true)
    (a_l_whole : PySem.W.nsIn K mainGlobals "_law_whole" = some (some (.ref f_l_whole)))
    (l_l_whole : K.lookup f_l_whole = some ⟨q1_l_whole, o_l_whole, .func (PySem.W.fnOf "_law_whole" "_law_whole" (defArgs s_l_whole) (defBody s_l_whole) (defScope s_l_whole) .none q2_l_whole q3_l_whole q4_l_whole n_l_whole q5_l_whole q6_l_whole), w_l_whole⟩)
    (c_l_whole : PySem.W.codeIn K q5_l_whole "_law_whole" = true)
    (k_l_whole : PySem.W.keepIn K (.ref f_l_whole) = true)
    (a_l_is_rows : PySem.W.nsIn K mainGlobals "_law_is_rows" = some (some (.ref f_l_is_rows)))
    (l_l_is_rows : K.lookup f_l_is_rows = some ⟨q1_l_is_rows, o_l_is_rows, .func (PySem.W.fnOf "_law_is_rows" "_law_is_rows" (defArgs s_l_is_rows) (defBody s_l_is_rows) (defScope s_l_is_rows) .none q2_l_is_rows q3_l_is_rows q4_l_is_rows n_l_is_rows q5_l_is_rows q6_l_is_rows), w_l_is_rows⟩)
    (c_l_is_rows : PySem.W.codeIn K q5_l_is_rows "_law_is_rows" = true)
    (k_l_is_rows : PySem.W.keepIn K (.ref f_l_is_rows) = true)
    (a_l_is_rule : PySem.W.nsIn K mainGlobals "_law_is_rule" = some (some (.ref f_l_is_rule)))
    (l_l_is_rule : K.lookup f_l_is_rule = some ⟨q1_l_is_rule, o_l_is_rule, .func (PySem.W.fnOf "_law_is_rule" "_law_is_rule" (defArgs s_l_is_rule) (defBody s_l_is_rule) (defScope s_l_is_rule) .none q2_l_is_rule q3_l_is_rule q4_l_is_rule n_l_is_rule q5_l_is_rule q6_l_is_rule), w_l_is_rule⟩)
    (c_l_is_rule : PySem.W.codeIn K q5_l_is_rule "_law_is_rule" = true)
    (k_l_is_rule : PySem.W.keepIn K (.ref f_l_is_rule) = true)
    (a_l_due : PySem.W.nsIn K mainGlobals "_law_due" = some (some (.ref f_l_due)))
    (l_l_due : K.lookup f_l_due = some ⟨q1_l_due, o_l_due, .func (PySem.W.fnOf "_law_due" "_law_due" (defArgs s_l_due) (defBody s_l_due) (defScope s_l_due) .none q2_l_due q3_l_due q4_l_due n_l_due q5_l_due q6_l_due), w_l_due⟩)
    (c_l_due : PySem.W.codeIn K q5_l_due "_law_due" = true)
    (k_l_due : PySem.W.keepIn K (.ref f_l_due) = true)
    (a_l_refused : PySem.W.nsIn K mainGlobals "_law_refused" = some (some (.ref f_l_refused)))
    (l_l_refused : K.lookup f_l_refused = some ⟨q1_l_refused, o_l_refused, .func (PySem.W.fnOf "_law_refused" "_law_refused" (defArgs s_l_refused) (defBody s_l_refused) (defScope s_l_refused) .none q2_l_refused q3_l_refused q4_l_refused n_l_refused q5_l_refused q6_l_refused), w_l_refused⟩)
    (c_l_refused : PySem.W.codeIn K q5_l_refused "_law_refused" = true)
    (k_l_refused : PySem.W.keepIn K (.ref f_l_refused) = true)
    (a_law : PySem.W.nsIn K mainGlobals "law" = some (some (.ref f_law)))
    (l_law : K.lookup f_law = some ⟨q1_law, o_law, .func (PySem.W.fnOf "law" "law" (defArgs s_law) (defBody s_law) (defScope s_law) .none q2_law q3_law q4_law n_law q5_law q6_law), w_law⟩)
    (c_law : PySem.W.codeIn K q5_law "law" = true)
    (k_law : PySem.W.keepIn K (.ref f_law) = true)
    (z_ValueError : PySem.W.nsIn K mainGlobals "ValueError" = some none)
    (z_abs : PySem.W.nsIn K mainGlobals "abs" = some none)
    (z_bool : PySem.W.nsIn K mainGlobals "bool" = some none)
    (z_int : PySem.W.nsIn K mainGlobals "int" = some none)
    (z_isinstance : PySem.W.nsIn K mainGlobals "isinstance" = some none)
    (z_len : PySem.W.nsIn K mainGlobals "len" = some none)
    (z_list : PySem.W.nsIn K mainGlobals "list" = some none)
    (z_max : PySem.W.nsIn K mainGlobals "max" = some none)
    (z_min : PySem.W.nsIn K mainGlobals "min" = some none)
    (z_range : PySem.W.nsIn K mainGlobals "range" = some none)
    (z_sum : PySem.W.nsIn K mainGlobals "sum" = some none)
    (z_tuple : PySem.W.nsIn K mainGlobals "tuple" = some none)
    (h_MOST_HOSTS : PySem.W.nsIn K mainGlobals "MOST_HOSTS" = some (some (.int 10 t_MOST_HOSTS)))
    (h_MOST_FIELDS : PySem.W.nsIn K mainGlobals "MOST_FIELDS" = some (some (.int 5 t_MOST_FIELDS)))
    (h_SIDES : PySem.W.nsIn K mainGlobals "SIDES" = some (some (.ref e_SIDES)))
    (lq_SIDES : K.lookup e_SIDES = some ⟨.type "list", none, .seq #[.str (PySem.Str.ofString "first") tk0_SIDES, .str (PySem.Str.ofString "second") tk1_SIDES] j0_SIDES, j1_SIDES⟩)
    (i_HostError : PySem.W.isClsIn K e_HostError = true)
    (t_HostError : PySem.W.typeIn K (.ref e_HostError) = some (.type "type"))
    (y_HostError : PySem.W.subIn K (.ref e_HostError) (.type "BaseException") = some true)
    (i_NoBattle : PySem.W.isClsIn K e_NoBattle = true)
    (t_NoBattle : PySem.W.typeIn K (.ref e_NoBattle) = some (.type "type"))
    (y_NoBattle : PySem.W.subIn K (.ref e_NoBattle) (.type "BaseException") = some true)
    (i_NoPlan : PySem.W.isClsIn K e_NoPlan = true)
    (t_NoPlan : PySem.W.typeIn K (.ref e_NoPlan) = some (.type "type"))
    (y_NoPlan : PySem.W.subIn K (.ref e_NoPlan) (.type "BaseException") = some true)
    (i_NoMix : PySem.W.isClsIn K e_NoMix = true)
    (t_NoMix : PySem.W.typeIn K (.ref e_NoMix) = some (.type "type"))
    (y_NoMix : PySem.W.subIn K (.ref e_NoMix) (.type "BaseException") = some true)
    (i_NoStream : PySem.W.isClsIn K e_NoStream = true)
    (t_NoStream : PySem.W.typeIn K (.ref e_NoStream) = some (.type "type"))
    (y_NoStream : PySem.W.subIn K (.ref e_NoStream) (.type "BaseException") = some true)
    (i_NoSide : PySem.W.isClsIn K e_NoSide = true)
    (t_NoSide : PySem.W.typeIn K (.ref e_NoSide) = some (.type "type"))
    (y_NoSide : PySem.W.subIn K (.ref e_NoSide) (.type "BaseException") = some true)
    (i_NoAlike : PySem.W.isClsIn K e_NoAlike = true)
    (t_NoAlike : PySem.W.typeIn K (.ref e_NoAlike) = some (.type "type"))
    (y_NoAlike : PySem.W.subIn K (.ref e_NoAlike) (.type "BaseException") = some true)
    (i_NoNumber : PySem.W.isClsIn K e_NoNumber = true)
    (t_NoNumber : PySem.W.typeIn K (.ref e_NoNumber) = some (.type "type"))
    (y_NoNumber : PySem.W.subIn K (.ref e_NoNumber) (.type "BaseException") = some true)
    (x_NoPlan : PySem.W.excIn K e_NoPlan [.type "ValueError", .type "Exception", .type "BaseException", .type "object"] "ValueError.__new__" = true)
    (k_NoPlan : PySem.W.keepIn K (.ref e_NoPlan) = true)
    (hg_NoPlan : PySem.W.findIn K (.ref e_NoPlan) "__getattribute__" = some (some (.builtin "BaseException.__getattribute__")))
    (hk_NoPlan : PySem.W.findIn K (.ref e_NoPlan) "__getattr__" = some none)
    (hd_NoPlan : PySem.W.hasDictIn K e_NoPlan = true)
    (ha_NoPlan : PySem.W.findIn K (.ref e_NoPlan) "__class__" = some (some (.builtin "object.__class__")))
    (hm_NoPlan : PySem.W.mroIn K e_NoPlan (.type "object") = some true)
    (v_NoPlan : PySem.W.subIn K (.ref e_NoPlan) (.type "ValueError") = some true)
    (s_NoPlan_HostError : PySem.W.subIn K (.ref e_NoPlan) (.ref e_HostError) = some true)
    (s_NoPlan_NoBattle : PySem.W.subIn K (.ref e_NoPlan) (.ref e_NoBattle) = some false)
    (s_NoPlan_NoPlan : PySem.W.subIn K (.ref e_NoPlan) (.ref e_NoPlan) = some true)
    (s_NoPlan_NoMix : PySem.W.subIn K (.ref e_NoPlan) (.ref e_NoMix) = some false)
    (s_NoPlan_NoStream : PySem.W.subIn K (.ref e_NoPlan) (.ref e_NoStream) = some false)
    (s_NoPlan_NoSide : PySem.W.subIn K (.ref e_NoPlan) (.ref e_NoSide) = some false)
    (s_NoPlan_NoAlike : PySem.W.subIn K (.ref e_NoPlan) (.ref e_NoAlike) = some false)
    (s_NoPlan_NoNumber : PySem.W.subIn K (.ref e_NoPlan) (.ref e_NoNumber) = some false)
    (x_NoSide : PySem.W.excIn K e_NoSide [.type "ValueError", .type "Exception", .type "BaseException", .type "object"] "ValueError.__new__" = true)
    (k_NoSide : PySem.W.keepIn K (.ref e_NoSide) = true)
    (hg_NoSide : PySem.W.findIn K (.ref e_NoSide) "__getattribute__" = some (some (.builtin "BaseException.__getattribute__")))
    (hk_NoSide : PySem.W.findIn K (.ref e_NoSide) "__getattr__" = some none)
    (hd_NoSide : PySem.W.hasDictIn K e_NoSide = true)
    (ha_NoSide : PySem.W.findIn K (.ref e_NoSide) "__class__" = some (some (.builtin "object.__class__")))
    (hm_NoSide : PySem.W.mroIn K e_NoSide (.type "object") = some true)
    (v_NoSide : PySem.W.subIn K (.ref e_NoSide) (.type "ValueError") = some true)
    (s_NoSide_HostError : PySem.W.subIn K (.ref e_NoSide) (.ref e_HostError) = some true)
    (s_NoSide_NoBattle : PySem.W.subIn K (.ref e_NoSide) (.ref e_NoBattle) = some false)
    (s_NoSide_NoPlan : PySem.W.subIn K (.ref e_NoSide) (.ref e_NoPlan) = some false)
    (s_NoSide_NoMix : PySem.W.subIn K (.ref e_NoSide) (.ref e_NoMix) = some false)
    (s_NoSide_NoStream : PySem.W.subIn K (.ref e_NoSide) (.ref e_NoStream) = some false)
    (s_NoSide_NoSide : PySem.W.subIn K (.ref e_NoSide) (.ref e_NoSide) = some true)
    (s_NoSide_NoAlike : PySem.W.subIn K (.ref e_NoSide) (.ref e_NoAlike) = some false)
    (s_NoSide_NoNumber : PySem.W.subIn K (.ref e_NoSide) (.ref e_NoNumber) = some false)
    (oc_NoBattle : K.lookup e_NoBattle = some (excClassObj xn_NoBattle xq_NoBattle e_NoBattle xN_NoBattle xb_NoBattle (.ref e_HostError :: [.type "ValueError", .type "Exception", .type "BaseException", .type "object"]) true xs_NoBattle xu_NoBattle xa_NoBattle xc_NoBattle xd_NoBattle x0_NoBattle x1_NoBattle x2_NoBattle x3_NoBattle x5_NoBattle "ValueError.__new__"))
    (sa_NoBattle : PySem.W.findIn K (.ref e_NoBattle) "__setattr__" = some (some (.builtin "object.__setattr__")))
    (ti_NoBattle : PySem.W.typeIn K (.ref f_NoBattle_init) = some (.type "function"))
    (no_NoBattle_field : PySem.W.findIn K (.ref e_NoBattle) "field" = some none)
    (rd_HostError : PySem.W.readsIn K e_HostError (.type "type") = true)
    (ga_HostError : PySem.W.specialIn K (.ref e_HostError) "__getattribute__" = some (some (.builtin "type.__getattribute__")))
    (fc_HostError : PySem.W.findCls K (.ref e_HostError) (.type "type") "__init__" = some (.val (.builtin "ValueError.__init__")))
    (k_NoBattle : PySem.W.keepIn K (.ref e_NoBattle) = true)
    (hg_NoBattle : PySem.W.findIn K (.ref e_NoBattle) "__getattribute__" = some (some (.builtin "BaseException.__getattribute__")))
    (hk_NoBattle : PySem.W.findIn K (.ref e_NoBattle) "__getattr__" = some none)
    (hd_NoBattle : PySem.W.hasDictIn K e_NoBattle = true)
    (ha_NoBattle : PySem.W.findIn K (.ref e_NoBattle) "__class__" = some (some (.builtin "object.__class__")))
    (hm_NoBattle : PySem.W.mroIn K e_NoBattle (.type "object") = some true)
    (v_NoBattle : PySem.W.subIn K (.ref e_NoBattle) (.type "ValueError") = some true)
    (s_NoBattle_HostError : PySem.W.subIn K (.ref e_NoBattle) (.ref e_HostError) = some true)
    (s_NoBattle_NoBattle : PySem.W.subIn K (.ref e_NoBattle) (.ref e_NoBattle) = some true)
    (s_NoBattle_NoPlan : PySem.W.subIn K (.ref e_NoBattle) (.ref e_NoPlan) = some false)
    (s_NoBattle_NoMix : PySem.W.subIn K (.ref e_NoBattle) (.ref e_NoMix) = some false)
    (s_NoBattle_NoStream : PySem.W.subIn K (.ref e_NoBattle) (.ref e_NoStream) = some false)
    (s_NoBattle_NoSide : PySem.W.subIn K (.ref e_NoBattle) (.ref e_NoSide) = some false)
    (s_NoBattle_NoAlike : PySem.W.subIn K (.ref e_NoBattle) (.ref e_NoAlike) = some false)
    (s_NoBattle_NoNumber : PySem.W.subIn K (.ref e_NoBattle) (.ref e_NoNumber) = some false)
    (ho_n : PySem.W.specialIn K (.builtin "object.__class__") "__get__" = some (some (.builtin "getset_descriptor.__get__")))
    (ho_t : PySem.W.takesIn K (.builtin "object.__class__") = some true) : ∃ fd : FuncData, (∀ (s : Shared) (v : Value), BindsTo s fd ⟨[v], []⟩ [("_law_script", v)]) ∧ ∀ base : Heap, K.In base → base.Ns mainGlobals mg → FnOk P w K mg base CX0 13 fa fd ["_law_script"] (sp_law K) := by
  obtain ⟨T, e1, e2⟩ := mk_txt X G h_HostError h_NoBattle h_NoPlan h_NoMix h_NoStream h_NoSide h_NoAlike h_NoNumber ic_NoBattle l_NoBattle_init c_NoBattle_init k_NoBattle_init a_is_number l_is_number c_is_number k_is_number a_are_numbers l_are_numbers c_are_numbers k_are_numbers a_is_rule l_is_rule c_is_rule k_is_rule a_is_field l_is_field c_is_field k_is_field a_look_battle l_look_battle c_look_battle k_look_battle a_paid l_paid c_paid k_paid a_is_plan l_is_plan c_is_plan k_is_plan a_pay l_pay c_pay k_pay a_won l_won c_won k_won a_gain l_gain c_gain k_gain a_rises_on l_rises_on c_rises_on k_rises_on a_rises l_rises c_rises k_rises a_is_row l_is_row c_is_row k_is_row a_is_stream l_is_stream c_is_stream k_is_stream a_is_alike l_is_alike c_is_alike k_is_alike a_must_be_side l_must_be_side c_must_be_side k_must_be_side a_dues l_dues c_dues k_dues a_goings_on l_goings_on c_goings_on k_goings_on a_is_table l_is_table c_is_table k_is_table a_wrong_number l_wrong_number c_wrong_number k_wrong_number a_judged l_judged c_judged k_judged a_l_mix l_l_mix c_l_mix k_l_mix a_l_cell_at l_l_cell_at c_l_cell_at k_l_cell_at a_l_left l_l_left c_l_left k_l_left a_l_draw l_l_draw c_l_draw k_l_draw a_l_some l_l_some c_l_some k_l_some a_l_rule l_l_rule c_l_rule k_l_rule a_l_battle l_l_battle c_l_battle k_l_battle a_l_deep l_l_deep c_l_deep k_l_deep a_l_bent_rule l_l_bent_rule c_l_bent_rule k_l_bent_rule a_l_bent l_l_bent c_l_bent k_l_bent a_l_whole l_l_whole c_l_whole k_l_whole a_l_is_rows l_l_is_rows c_l_is_rows k_l_is_rows a_l_is_rule l_l_is_rule c_l_is_rule k_l_is_rule a_l_due l_l_due c_l_due k_l_due a_l_refused l_l_refused c_l_refused k_l_refused a_law l_law c_law k_law z_ValueError z_abs z_bool z_int z_isinstance z_len z_list z_max z_min z_range z_sum z_tuple h_MOST_HOSTS h_MOST_FIELDS h_SIDES lq_SIDES i_HostError t_HostError y_HostError i_NoBattle t_NoBattle y_NoBattle i_NoPlan t_NoPlan y_NoPlan i_NoMix t_NoMix y_NoMix i_NoStream t_NoStream y_NoStream i_NoSide t_NoSide y_NoSide i_NoAlike t_NoAlike y_NoAlike i_NoNumber t_NoNumber y_NoNumber x_NoPlan k_NoPlan hg_NoPlan hk_NoPlan hd_NoPlan ha_NoPlan hm_NoPlan v_NoPlan s_NoPlan_HostError s_NoPlan_NoBattle s_NoPlan_NoPlan s_NoPlan_NoMix s_NoPlan_NoStream s_NoPlan_NoSide s_NoPlan_NoAlike s_NoPlan_NoNumber x_NoSide k_NoSide hg_NoSide hk_NoSide hd_NoSide ha_NoSide hm_NoSide v_NoSide s_NoSide_HostError s_NoSide_NoBattle s_NoSide_NoPlan s_NoSide_NoMix s_NoSide_NoStream s_NoSide_NoSide s_NoSide_NoAlike s_NoSide_NoNumber oc_NoBattle sa_NoBattle ti_NoBattle no_NoBattle_field rd_HostError ga_HostError fc_HostError k_NoBattle hg_NoBattle hk_NoBattle hd_NoBattle ha_NoBattle hm_NoBattle v_NoBattle s_NoBattle_HostError s_NoBattle_NoBattle s_NoBattle_NoPlan s_NoBattle_NoMix s_NoBattle_NoStream s_NoBattle_NoSide s_NoBattle_NoAlike s_NoBattle_NoNumber ho_n ho_t
  have e := hfa.symm.trans (PySem.W.mg_of X G a_law)
  cases e
  exact ⟨T.d_law, e2, fun base _ _ => e1 ▸ ok_law T⟩
end K05
open PySem PySem.W PyProof.Rows
set_option maxHeartbeats 0 in
theorem PySem.Challenge.cw_hostfields_k05_battles_looked_at_holds : PySem.Challenge.rw_hostfields_k05_battles_looked_at.Holds := by
  w_on; o_law; k_head; (case hw => w_witness2)
  k_fill
  refine L2.walk_of (l := PySem.Challenge.rw_hostfields_k05_battles_looked_at) (n := 63) (k := 13) (x := "_law_script") (CX := fun _ => L2.CX0) (sp := fun w => K05.sp_law _) rfl (by decide) rfl ⟨rfl, by decide, by decide⟩ (fun w h Y => PySem.W.kIn_of Y) ?F (fun _ _ a ns hl _ hS => ⟨a, ns, rfl, hS, hl, fun _ => rfl⟩) (fun _ _ _ _ _ h => h)
  case F =>
    intro w mg fa h KX G hmg
    refine' K05.all_mk KX G hmg ?h_HostError ?h_NoBattle ?h_NoPlan ?h_NoMix ?h_NoStream ?h_NoSide ?h_NoAlike ?h_NoNumber ?ic_NoBattle ?l_NoBattle_init ?c_NoBattle_init ?k_NoBattle_init ?a_is_number ?l_is_number ?c_is_number ?k_is_number ?a_are_numbers ?l_are_numbers ?c_are_numbers ?k_are_numbers ?a_is_rule ?l_is_rule ?c_is_rule ?k_is_rule ?a_is_field ?l_is_field ?c_is_field ?k_is_field ?a_look_battle ?l_look_battle ?c_look_battle ?k_look_battle ?a_paid ?l_paid ?c_paid ?k_paid ?a_is_plan ?l_is_plan ?c_is_plan ?k_is_plan ?a_pay ?l_pay ?c_pay ?k_pay ?a_won ?l_won ?c_won ?k_won ?a_gain ?l_gain ?c_gain ?k_gain ?a_rises_on ?l_rises_on ?c_rises_on ?k_rises_on ?a_rises ?l_rises ?c_rises ?k_rises ?a_is_row ?l_is_row ?c_is_row ?k_is_row ?a_is_stream ?l_is_stream ?c_is_stream ?k_is_stream ?a_is_alike ?l_is_alike ?c_is_alike ?k_is_alike ?a_must_be_side ?l_must_be_side ?c_must_be_side ?k_must_be_side ?a_dues ?l_dues ?c_dues ?k_dues ?a_goings_on ?l_goings_on ?c_goings_on ?k_goings_on ?a_is_table ?l_is_table ?c_is_table ?k_is_table ?a_wrong_number ?l_wrong_number ?c_wrong_number ?k_wrong_number ?a_judged ?l_judged ?c_judged ?k_judged ?a_l_mix ?l_l_mix ?c_l_mix ?k_l_mix ?a_l_cell_at ?l_l_cell_at ?c_l_cell_at ?k_l_cell_at ?a_l_left ?l_l_left ?c_l_left ?k_l_left ?a_l_draw ?l_l_draw ?c_l_draw ?k_l_draw ?a_l_some ?l_l_some ?c_l_some ?k_l_some ?a_l_rule ?l_l_rule ?c_l_rule ?k_l_rule ?a_l_battle ?l_l_battle ?c_l_battle ?k_l_battle ?a_l_deep ?l_l_deep ?c_l_deep ?k_l_deep ?a_l_bent_rule ?l_l_bent_rule ?c_l_bent_rule ?k_l_bent_rule ?a_l_bent ?l_l_bent ?c_l_bent ?k_l_bent ?a_l_whole ?l_l_whole ?c_l_whole ?k_l_whole ?a_l_is_rows ?l_l_is_rows ?c_l_is_rows ?k_l_is_rows ?a_l_is_rule ?l_l_is_rule ?c_l_is_rule ?k_l_is_rule ?a_l_due ?l_l_due ?c_l_due ?k_l_due ?a_l_refused ?l_l_refused ?c_l_refused ?k_l_refused ?a_law ?l_law ?c_law ?k_law ?z_ValueError ?z_abs ?z_bool ?z_int ?z_isinstance ?z_len ?z_list ?z_max ?z_min ?z_range ?z_sum ?z_tuple ?h_MOST_HOSTS ?h_MOST_FIELDS ?h_SIDES ?lq_SIDES ?i_HostError ?t_HostError ?y_HostError ?i_NoBattle ?t_NoBattle ?y_NoBattle ?i_NoPlan ?t_NoPlan ?y_NoPlan ?i_NoMix ?t_NoMix ?y_NoMix ?i_NoStream ?t_NoStream ?y_NoStream ?i_NoSide ?t_NoSide ?y_NoSide ?i_NoAlike ?t_NoAlike ?y_NoAlike ?i_NoNumber ?t_NoNumber ?y_NoNumber ?x_NoPlan ?k_NoPlan ?hg_NoPlan ?hk_NoPlan ?hd_NoPlan ?ha_NoPlan ?hm_NoPlan ?v_NoPlan ?s_NoPlan_HostError ?s_NoPlan_NoBattle ?s_NoPlan_NoPlan ?s_NoPlan_NoMix ?s_NoPlan_NoStream ?s_NoPlan_NoSide ?s_NoPlan_NoAlike ?s_NoPlan_NoNumber ?x_NoSide ?k_NoSide ?hg_NoSide ?hk_NoSide ?hd_NoSide ?ha_NoSide ?hm_NoSide ?v_NoSide ?s_NoSide_HostError ?s_NoSide_NoBattle ?s_NoSide_NoPlan ?s_NoSide_NoMix ?s_NoSide_NoStream ?s_NoSide_NoSide ?s_NoSide_NoAlike ?s_NoSide_NoNumber ?oc_NoBattle ?sa_NoBattle ?ti_NoBattle ?no_NoBattle_field ?rd_HostError ?ga_HostError ?fc_HostError ?k_NoBattle ?hg_NoBattle ?hk_NoBattle ?hd_NoBattle ?ha_NoBattle ?hm_NoBattle ?v_NoBattle ?s_NoBattle_HostError ?s_NoBattle_NoBattle ?s_NoBattle_NoPlan ?s_NoBattle_NoMix ?s_NoBattle_NoStream ?s_NoBattle_NoSide ?s_NoBattle_NoAlike ?s_NoBattle_NoNumber ?ho_n ?ho_t
    (case h_HostError => k_is); (case h_NoBattle => k_is); (case h_NoPlan => k_is); (case h_NoMix => k_is); (case h_NoStream => k_is); (case h_NoSide => k_is); (case h_NoAlike => k_is); (case h_NoNumber => k_is); (case ic_NoBattle => k_is); (case l_NoBattle_init => k_is); (case c_NoBattle_init => k_is); (case k_NoBattle_init => k_is); (case a_is_number => k_is); (case l_is_number => k_is); (case c_is_number => k_is); (case k_is_number => k_is); (case a_are_numbers => k_is); (case l_are_numbers => k_is); (case c_are_numbers => k_is); (case k_are_numbers => k_is); (case a_is_rule => k_is); (case l_is_rule => k_is); (case c_is_rule => k_is); (case k_is_rule => k_is); (case a_is_field => k_is); (case l_is_field => k_is); (case c_is_field => k_is); (case k_is_field => k_is); (case a_look_battle => k_is); (case l_look_battle => k_is); (case c_look_battle => k_is); (case k_look_battle => k_is); (case a_paid => k_is); (case l_paid => k_is); (case c_paid => k_is); (case k_paid => k_is); (case a_is_plan => k_is); (case l_is_plan => k_is); (case c_is_plan => k_is); (case k_is_plan => k_is); (case a_pay => k_is); (case l_pay => k_is); (case c_pay => k_is); (case k_pay => k_is); (case a_won => k_is); (case l_won => k_is); (case c_won => k_is); (case k_won => k_is); (case a_gain => k_is); (case l_gain => k_is); (case c_gain => k_is); (case k_gain => k_is); (case a_rises_on => k_is); (case l_rises_on => k_is); (case c_rises_on => k_is); (case k_rises_on => k_is); (case a_rises => k_is); (case l_rises => k_is); (case c_rises => k_is); (case k_rises => k_is); (case a_is_row => k_is); (case l_is_row => k_is); (case c_is_row => k_is); (case k_is_row => k_is); (case a_is_stream => k_is); (case l_is_stream => k_is); (case c_is_stream => k_is); (case k_is_stream => k_is); (case a_is_alike => k_is); (case l_is_alike => k_is); (case c_is_alike => k_is); (case k_is_alike => k_is); (case a_must_be_side => k_is); (case l_must_be_side => k_is); (case c_must_be_side => k_is); (case k_must_be_side => k_is); (case a_dues => k_is); (case l_dues => k_is); (case c_dues => k_is); (case k_dues => k_is); (case a_goings_on => k_is); (case l_goings_on => k_is); (case c_goings_on => k_is); (case k_goings_on => k_is); (case a_is_table => k_is); (case l_is_table => k_is); (case c_is_table => k_is); (case k_is_table => k_is); (case a_wrong_number => k_is); (case l_wrong_number => k_is); (case c_wrong_number => k_is); (case k_wrong_number => k_is); (case a_judged => k_is); (case l_judged => k_is); (case c_judged => k_is); (case k_judged => k_is); (case a_l_mix => k_is); (case l_l_mix => k_is); (case c_l_mix => k_is); (case k_l_mix => k_is); (case a_l_cell_at => k_is); (case l_l_cell_at => k_is); (case c_l_cell_at => k_is); (case k_l_cell_at => k_is); (case a_l_left => k_is); (case l_l_left => k_is); (case c_l_left => k_is); (case k_l_left => k_is); (case a_l_draw => k_is); (case l_l_draw => k_is); (case c_l_draw => k_is); (case k_l_draw => k_is); (case a_l_some => k_is); (case l_l_some => k_is); (case c_l_some => k_is); (case k_l_some => k_is); (case a_l_rule => k_is); (case l_l_rule => k_is); (case c_l_rule => k_is); (case k_l_rule => k_is); (case a_l_battle => k_is); (case l_l_battle => k_is); (case c_l_battle => k_is); (case k_l_battle => k_is); (case a_l_deep => k_is); (case l_l_deep => k_is); (case c_l_deep => k_is); (case k_l_deep => k_is); (case a_l_bent_rule => k_is); (case l_l_bent_rule => k_is); (case c_l_bent_rule => k_is); (case k_l_bent_rule => k_is); (case a_l_bent => k_is); (case l_l_bent => k_is); (case c_l_bent => k_is); (case k_l_bent => k_is); (case a_l_whole => k_is); (case l_l_whole => k_is); (case c_l_whole => k_is); (case k_l_whole => k_is); (case a_l_is_rows => k_is); (case l_l_is_rows => k_is); (case c_l_is_rows => k_is); (case k_l_is_rows => k_is); (case a_l_is_rule => k_is); (case l_l_is_rule => k_is); (case c_l_is_rule => k_is); (case k_l_is_rule => k_is); (case a_l_due => k_is); (case l_l_due => k_is); (case c_l_due => k_is); (case k_l_due => k_is); (case a_l_refused => k_is); (case l_l_refused => k_is); (case c_l_refused => k_is); (case k_l_refused => k_is); (case a_law => k_is); (case l_law => k_is); (case c_law => k_is); (case k_law => k_is); (case z_ValueError => k_is); (case z_abs => k_is); (case z_bool => k_is); (case z_int => k_is); (case z_isinstance => k_is); (case z_len => k_is); (case z_list => k_is); (case z_max => k_is); (case z_min => k_is); (case z_range => k_is); (case z_sum => k_is); (case z_tuple => k_is); (case h_MOST_HOSTS => k_is); (case h_MOST_FIELDS => k_is); (case h_SIDES => k_is); (case lq_SIDES => k_is); (case i_HostError => k_is); (case t_HostError => k_is); (case y_HostError => k_is); (case i_NoBattle => k_is); (case t_NoBattle => k_is); (case y_NoBattle => k_is); (case i_NoPlan => k_is); (case t_NoPlan => k_is); (case y_NoPlan => k_is); (case i_NoMix => k_is); (case t_NoMix => k_is); (case y_NoMix => k_is); (case i_NoStream => k_is); (case t_NoStream => k_is); (case y_NoStream => k_is); (case i_NoSide => k_is); (case t_NoSide => k_is); (case y_NoSide => k_is); (case i_NoAlike => k_is); (case t_NoAlike => k_is); (case y_NoAlike => k_is); (case i_NoNumber => k_is); (case t_NoNumber => k_is); (case y_NoNumber => k_is); (case x_NoPlan => k_exc); (case k_NoPlan => k_is); (case hg_NoPlan => k_is); (case hk_NoPlan => k_is); (case hd_NoPlan => k_is); (case ha_NoPlan => k_is); (case hm_NoPlan => k_is); (case v_NoPlan => k_is); (case s_NoPlan_HostError => k_is); (case s_NoPlan_NoBattle => k_is); (case s_NoPlan_NoPlan => k_is); (case s_NoPlan_NoMix => k_is); (case s_NoPlan_NoStream => k_is); (case s_NoPlan_NoSide => k_is); (case s_NoPlan_NoAlike => k_is); (case s_NoPlan_NoNumber => k_is); (case x_NoSide => k_exc); (case k_NoSide => k_is); (case hg_NoSide => k_is); (case hk_NoSide => k_is); (case hd_NoSide => k_is); (case ha_NoSide => k_is); (case hm_NoSide => k_is); (case v_NoSide => k_is); (case s_NoSide_HostError => k_is); (case s_NoSide_NoBattle => k_is); (case s_NoSide_NoPlan => k_is); (case s_NoSide_NoMix => k_is); (case s_NoSide_NoStream => k_is); (case s_NoSide_NoSide => k_is); (case s_NoSide_NoAlike => k_is); (case s_NoSide_NoNumber => k_is); (case oc_NoBattle => k_is); (case sa_NoBattle => k_is); (case ti_NoBattle => k_is); (case no_NoBattle_field => k_is); (case rd_HostError => k_is); (case ga_HostError => k_is); (case fc_HostError => k_is); (case k_NoBattle => k_is); (case hg_NoBattle => k_is); (case hk_NoBattle => k_is); (case hd_NoBattle => k_is); (case ha_NoBattle => k_is); (case hm_NoBattle => k_is); (case v_NoBattle => k_is); (case s_NoBattle_HostError => k_is); (case s_NoBattle_NoBattle => k_is); (case s_NoBattle_NoPlan => k_is); (case s_NoBattle_NoMix => k_is); (case s_NoBattle_NoStream => k_is); (case s_NoBattle_NoSide => k_is); (case s_NoBattle_NoAlike => k_is); (case s_NoBattle_NoNumber => k_is); (case ho_n => k_is); (case ho_t => k_is)

