import PyProof.Rows.All
import Wide.All
import OpenK.AllK
import Wide.FinOn
import HandS.ForMost
import HandS.Wide
import HandS.IsInst
import HandS.TupAny
import HandS.TryOnly
import HandS.Style
import HandS.Conv
import HandS.Exc
import HandS.ExcIs
import HandS.ExcOwn
import HandS.WordsExc
import KE.KExcIs
import PySem.Challenge.RW_hostfields_k71_plans_played
set_option Elab.async false
set_option linter.all false
set_option maxRecDepth 100000
set_option maxHeartbeats 4000000
/-! ## the engine: the readings, one step a lemma; «walk_at "go"» walks as far as it goes -/
namespace Hf
open PySem PySem.Spec PyProof.Rows L2
/-- every tracked object but the one at a is as it was -/
def But (a : Addr) (H H' : Hp) : Prop := ∀ b o, b ≠ a → H b = some o → H' b = some o
theorem But.same {a : Addr} {H H' : Hp} (e : Same H H') : But a H H' := fun b o _ h => e b o h
theorem But.refl (a : Addr) (H : Hp) : But a H H := fun _ _ _ h => h
theorem But.trans {a : Addr} {H H1 H2 : Hp} (x : But a H H1) (y : But a H1 H2) : But a H H2 := fun b o n h => y b o n (x b o n h)
theorem But.upd {a : Addr} {H H1 : Hp} {o : HO} (x : But a H H1) : But a H (upd H1 a o) := fun b u n h => by
  rw [upd_ne n]
  exact x b u n h
theorem But.new {a p : Addr} {H H1 : Hp} {o : HO} (x : But a H H1) (hp : H1 p = none) : But a H (L2.upd H1 p o) := fun b u n h => by
  have h1 := x b u n h
  rw [upd_ne (ne_of_none h1 hp)]
  exact h1
theorem But.to_same {a : Addr} {H H' : Hp} (x : But a H H') (n : H a = none) : Same H H' := fun b o h => x b o (ne_of_none h n) h
theorem Same.new {H : Hp} {p : Addr} {o : HO} (hp : H p = none) : Same H (upd H p o) := fun b u h => by
  rw [upd_ne (ne_of_none h hp)]
  exact h
theorem Same.newT {H0 H : Hp} {p : Addr} {o : HO} (e : Same H0 H) (hp : H p = none) : Same H0 (upd H p o) := e.trans (Same.new hp)
/-- a change at an object that H0 does not know -/
theorem Same.mut {H0 H : Hp} {p : Addr} {o : HO} (e : Same H0 H) (hp : H0 p = none) : Same H0 (upd H p o) := fun b u h => by
  rw [upd_ne (ne_of_none h hp)]
  exact e b u h
theorem Same.but {H0 H H1 : Hp} {p : Addr} (e : Same H0 H) (hp : H0 p = none) (x : But p H H1) : Same H0 H1 := fun b u h => x b u (ne_of_none h hp) (e b u h)
theorem Same.seqT {K : PySem.W.Frag} {H H' : Hp} {a : Addr} {xs : List V} (e : Same H H') (h : SqT K H a xs) : SqT K H' a xs := by
  rcases h with (h | ⟨o, h⟩) | h
  · exact .inl (.inl (e _ _ h))
  · exact .inl (.inr ⟨o, e _ _ h⟩)
  · exact .inr h
theorem But.seq {K : PySem.W.Frag} {H H' : Hp} {a b : Addr} {xs : List V} (e : But a H H') (n : b ≠ a) (h : SqL K H b xs) : SqL K H' b xs := by
  rcases h with (h | ⟨o, h⟩) | h
  · exact .inl (.inl (e _ _ n h))
  · exact .inl (.inr ⟨o, e _ _ n h⟩)
  · exact .inr h
theorem But.seqT {K : PySem.W.Frag} {H H' : Hp} {a b : Addr} {xs : List V} (e : But a H H') (n : b ≠ a) (h : SqT K H b xs) : SqT K H' b xs := by
  rcases h with (h | ⟨o, h⟩) | h
  · exact .inl (.inl (e _ _ n h))
  · exact .inl (.inr ⟨o, e _ _ n h⟩)
  · exact .inr h
/-- a guard: its way is barred where P is at hand -/
def Guard (_ : Prop) : Prop := True
theorem Guard.of {P : Prop} (_ : P) : Guard P := trivial
theorem lk_upd {H : Hp} {a b : Addr} {o u : HO} (n : b ≠ a) (h : H b = some u) : upd H a o b = some u := by
  rw [upd_ne n]
  exact h
theorem lk_new {H : Hp} {a b : Addr} {o u : HO} (n : H a = none) (h : H b = some u) : upd H a o b = some u := by
  rw [upd_ne (ne_of_none h n)]
  exact h
theorem lk_updG {H : Hp} {a b : Addr} {o u : HO} (_ : Guard (H a = none)) (n : b ≠ a) (h : H b = some u) : upd H a o b = some u := lk_upd n h
theorem lk_none {H H' : Hp} {a : Addr} (e : Same H H') (n : H' a = none) : H a = none := e.free n
theorem lkL_new {K : PySem.W.Frag} {H : Hp} {a b : Addr} {o : HO} {xs : List V} (n : H a = none) (h : SqL K H b xs) : SqL K (upd H a o) b xs := (Same.new n).seq h
theorem lkT_new {K : PySem.W.Frag} {H : Hp} {a b : Addr} {o : HO} {xs : List V} (n : H a = none) (h : SqT K H b xs) : SqT K (upd H a o) b xs := Same.seqT (Same.new n) h
theorem lkL_upd {K : PySem.W.Frag} {H : Hp} {a b : Addr} {o : HO} {xs : List V} (n : b ≠ a) (h : SqL K H b xs) : SqL K (upd H a o) b xs := But.seq (But.upd (But.refl a H)) n h
theorem lkT_upd {K : PySem.W.Frag} {H : Hp} {a b : Addr} {o : HO} {xs : List V} (n : b ≠ a) (h : SqT K H b xs) : SqT K (upd H a o) b xs := But.seqT (But.upd (But.refl a H)) n h
theorem lkL_updG {K : PySem.W.Frag} {H : Hp} {a b : Addr} {o : HO} {xs : List V} (_ : Guard (H a = none)) (n : b ≠ a) (h : SqL K H b xs) : SqL K (upd H a o) b xs := lkL_upd n h
theorem lkT_updG {K : PySem.W.Frag} {H : Hp} {a b : Addr} {o : HO} {xs : List V} (_ : Guard (H a = none)) (n : b ≠ a) (h : SqT K H b xs) : SqT K (upd H a o) b xs := lkT_upd n h
theorem ne_new {H : Hp} {a b : Addr} {o : HO} (n : H b = none) (h : H a = some o) : a ≠ b := ne_of_none h n
theorem ne_new' {H : Hp} {a b : Addr} {o : HO} (n : H b = none) (h : H a = some o) : b ≠ a := (ne_of_none h n).symm
theorem ne_at {α : Type} {a b : α} (h : a ≠ b) : b ≠ a := h.symm
/-! ### sizes -/
theorem sz4 {n : Nat} (h : n ≤ 1000000) : n ≤ sizeLine := Nat.le_trans h (by decide)
theorem sz4' {n : Nat} (h : n ≤ 1000000) : n < sizeLine := Nat.lt_of_le_of_lt h (by decide)
/-! ### two operators, wider -/
def CMulA (i j : Int) : Prop := CMul i j ∨ CMulW i j
theorem CMulA.ok {i j : Int} (h : CMulA i j) : IntMulOk i j := h.elim CMul.ok CMulW.ok
theorem op_mulA {X : Cx} : OpR X (binaryOp .Mult) (rI CMulA fun i j => .int (i * j)) := opI fun _ _ _ _ _ _ _ hc q => mul_int q hc.ok
def CDivA (_ j : Int) : Prop := j ≠ 0 ∧ j.natAbs.log2 < 9000
theorem op_fdivA {X : Cx} : OpR X (binaryOp .FloorDiv) (rI CDivA fun i j => .int (i.fdiv j)) := opI fun _ _ _ _ _ _ _ hc q => floordiv_int hc.1 q (.inl (PyProof.noPylong_of_log2 hc.2))
theorem mulL {i j : Int} (h : -(2 ^ 64) < i ∧ i < 2 ^ 64) : CMulA i j := .inl (.inl h)
theorem mulR {i j : Int} (h : -(2 ^ 64) < j ∧ j < 2 ^ 64) : CMulA i j := .inl (.inr h)
theorem log_lt {j : Int} {b : Nat} (h : j.natAbs < 2 ^ b) (h0 : 0 < b) (h9 : b ≤ 9000) : j.natAbs.log2 < 9000 := Nat.lt_of_lt_of_le (PySem.Flt.log2_lt_of h0 h) h9
theorem log_small {j : Int} (h : -(2 ^ 200) < j ∧ j < 2 ^ 200) : j.natAbs.log2 < 9000 := log_lt (b := 200) (by omega) (by decide) (by decide)
theorem mulW {i j : Int} {a b : Nat} (ha : i.natAbs < 2 ^ a) (hb : j.natAbs < 2 ^ b) (h0 : 0 < a) (h1 : 0 < b) (h : a + b ≤ 1000000) : CMulA i j := .inr (wide_mul ha hb h0 h1 h)
theorem divS {i j : Int} (h0 : j ≠ 0) (h : -(2 ^ 200) < j ∧ j < 2 ^ 200) : CDivA i j := ⟨h0, log_small h⟩
/-! ### the steps -/
section
variable {σ σ' : L2.St} {H : Hp} {Q : VK} {x y v : V} {i j : Int} {n : Nat} {nx bk ct : L2.St → Hp → Prop} {rt : VK} {K : PySem.W.Frag} {a p : Addr} {xs : List V}
theorem start_to {N : List Str} {vs : List V} {t : TS} {D : Ends} (e : start N vs = σ) (h : t D σ H) : t D (start N vs) H := by
  rw [e]
  exact h
theorem i_ends {t : TS} {rt : VK} (h : t ⟨fun _ H' => rt .non H', rt, fun _ _ => False, fun _ _ => False⟩ σ H) : t { nx := fun _ H' => rt .non H', rt := rt } σ H := h
theorem i_seq {t u : TS} (h : t ⟨u ⟨nx, rt, bk, ct⟩, rt, bk, ct⟩ σ H) : tSeq t u ⟨nx, rt, bk, ct⟩ σ H := h
theorem i_asg {te : TE} {g : TG} (h : te σ H fun x H1 => g x σ H1 nx) : tAsg te g ⟨nx, rt, bk, ct⟩ σ H := h
theorem i_gname {k : Nat} {Z : L2.St → Hp → Prop} (e : σ.set k (some v) = σ') (q : Z σ' H) : gName k v σ H Z := by
  subst e
  exact q
theorem i_ret {te : TE} (h : te σ H rt) : tRet te ⟨nx, rt, bk, ct⟩ σ H := h
theorem i_retN (h : rt .non H) : tRetN ⟨nx, rt, bk, ct⟩ σ H := h
theorem i_next (h : nx σ H) : tNext ⟨nx, rt, bk, ct⟩ σ H := h
theorem i_brk (h : bk σ H) : tBreak ⟨nx, rt, bk, ct⟩ σ H := h
theorem i_cnt (h : ct σ H) : tCont ⟨nx, rt, bk, ct⟩ σ H := h
theorem i_drop {te : TE} (h : te σ H fun _ H1 => nx σ H1) : tDrop te ⟨nx, rt, bk, ct⟩ σ H := h
theorem i_ifs {c : TT} {t u : TS} (h : c σ H fun b H1 => if b = true then t ⟨nx, rt, bk, ct⟩ σ H1 else u ⟨nx, rt, bk, ct⟩ σ H1) : tIfS c t u ⟨nx, rt, bk, ct⟩ σ H := h
theorem i_var {k : Nat} (h : σ[k]? = some (some v)) (q : Q v H) : tVar k σ H Q := ⟨v, h, q⟩
theorem i_c (q : Q v H) : tC v σ H Q := q
theorem i_op {r : R2} {ta tb : TE} (h : ta σ H fun x H1 => tb σ H1 fun y H2 => r x y H2 Q) : tOp r ta tb σ H Q := h
theorem i_un {r : V → Hp → VK → Prop} {ta : TE} (h : ta σ H fun x H1 => r x H1 Q) : tUn r ta σ H Q := h
theorem i_I0 {g : Int → Int → V} (q : Q (g i j) H) : rI0 g (.int i) (.int j) H Q := ⟨i, j, rfl, rfl, q⟩
theorem i_I {C : Int → Int → Prop} {g : Int → Int → V} (c : C i j) (q : Q (g i j) H) : rI C g (.int i) (.int j) H Q := ⟨i, j, rfl, rfl, c, q⟩
theorem i_pow {m : Int} (c : CPow i j) (e : i ^ j.toNat = m) (q : Q (.int m) H) : rI CPow (fun i j => .int (i ^ j.toNat)) (.int i) (.int j) H Q := ⟨i, j, rfl, rfl, c, by
  show Q (.int (i ^ j.toNat)) H
  rw [e]
  exact q⟩
theorem i_U {g : Int → V} (q : Q (g i) H) : rU g (.int i) H Q := ⟨i, rfl, q⟩
theorem i_eqI (q : Q (.bl (decide (i = j))) H) : rEq (.int i) (.int j) H Q := ⟨rfl, by
  have e : decide (V.int i = V.int j) = decide (i = j) := by
    by_cases h : i = j
    · rw [decide_eq_true h, decide_eq_true (congrArg V.int h)]
    · rw [decide_eq_false h, decide_eq_false fun z => h (V.int.inj z)]
  rw [e]
  exact q⟩
theorem i_neI (q : Q (.bl (!decide (i = j))) H) : rNe (.int i) (.int j) H Q := ⟨rfl, by
  have e : decide (V.int i = V.int j) = decide (i = j) := by
    by_cases h : i = j
    · rw [decide_eq_true h, decide_eq_true (congrArg V.int h)]
    · rw [decide_eq_false h, decide_eq_false fun z => h (V.int.inj z)]
  rw [e]
  exact q⟩
theorem i_eqB {c d : Bool} (q : Q (.bl (c == d)) H) : rEq (.bl c) (.bl d) H Q := ⟨rfl, by
  rw [dec_bl]
  exact q⟩
theorem i_neB {c d : Bool} (q : Q (.bl (!(c == d))) H) : rNe (.bl c) (.bl d) H Q := ⟨rfl, by
  rw [dec_bl]
  exact q⟩
theorem i_eqS {c d : Str} (q : Q (.bl (c == d)) H) : rEq (.str c) (.str d) H Q := ⟨rfl, by
  rw [dec_str]
  exact q⟩
theorem i_neS {c d : Str} (q : Q (.bl (!(c == d))) H) : rNe (.str c) (.str d) H Q := ⟨rfl, by
  rw [dec_str]
  exact q⟩
theorem i_test {te : TE} {P : Bool → Hp → Prop} (h : te σ H fun x H1 => ∃ k, x = .bl k ∧ P k H1) : tTest te σ H P := h
theorem i_B {te : TE} {P : Bool → Hp → Prop} (h : te σ H fun x H1 => ∃ k, x = .bl k ∧ P k H1) : tB te σ H P := h
theorem i_bl {b : Bool} {P : Bool → Prop} (q : P b) : ∃ k, V.bl b = .bl k ∧ P k := ⟨b, rfl, q⟩
theorem i_and {t u : TT} {P : Bool → Hp → Prop} (h : t σ H fun c H1 => if c = true then u σ H1 P else P false H1) : tAnd t u σ H P := h
theorem i_or {t u : TT} {P : Bool → Hp → Prop} (h : t σ H fun c H1 => if c = true then P true H1 else u σ H1 P) : tOr t u σ H P := h
theorem i_not {t : TT} {P : Bool → Hp → Prop} (h : t σ H fun c H1 => P (!c) H1) : tNot t σ H P := h
theorem i_andV {ta tb : TE} (h : ta σ H fun x H1 => ∃ c, x = .bl c ∧ if c = true then tb σ H1 Q else Q (.bl false) H1) : tAndV ta tb σ H Q := h
theorem i_orV {ta tb : TE} (h : ta σ H fun x H1 => ∃ c, x = .bl c ∧ if c = true then Q (.bl true) H1 else tb σ H1 Q) : tOrV ta tb σ H Q := h
theorem i_notV {ta : TE} (h : ta σ H fun x H1 => ∃ c, x = .bl c ∧ Q (.bl (!c)) H1) : tNotV ta σ H Q := h
theorem i_ife {t : TT} {ta tb : TE} (h : t σ H fun c H1 => if c = true then ta σ H1 Q else tb σ H1 Q) : tIf t ta tb σ H Q := h
theorem i_call {sp : Sp} {E : XK} {t : TA} (h : t σ H fun vs H1 => sp vs H1 Q E) : tCall sp [] E t σ H Q := by
  have e : (fun vs H1 => sp (vs ++ []) H1 Q E) = fun vs H1 => sp vs H1 Q E := by
    funext vs H1
    rw [List.append_nil]
  show t σ H (fun vs H1 => sp (vs ++ []) H1 Q E)
  rw [e]
  exact h
theorem i_cb {r : List V → Hp → VK → Prop} {t : TA} (h : t σ H fun vs H1 => r vs H1 Q) : tCB r t σ H Q := h
theorem i_nil {P : List V → Hp → Prop} (q : P [] H) : tNil σ H P := q
theorem i_cons {ta : TE} {tr : TA} {P : List V → Hp → Prop} (h : ta σ H fun x H1 => tr σ H1 fun xs H2 => P (x :: xs) H2) : tCons ta tr σ H P := h
theorem i_tup {t : TA} (h : t σ H fun xs H1 => xs.length ≤ sizeLine ∧ ∀ p, H1 p = none → Q (.ref p) (upd H1 p (.tup xs))) : tTup t σ H Q := h
theorem i_lst {t : TA} (h : t σ H fun xs H1 => xs.length ≤ sizeLine ∧ ∀ p, H1 p = none → Q (.ref p) (upd H1 p (.lst xs))) : tLst t σ H Q := h
theorem i_new {R : Addr → Prop} (hz : xs.length ≤ sizeLine) (q : ∀ p, H p = none → R p) : xs.length ≤ sizeLine ∧ ∀ p, H p = none → R p := ⟨hz, q⟩
theorem i_ixL (h : SqL K H p xs) (e : atI xs i = some v) (q : Q v H) : rIxL K (.ref p) (.int i) H Q := ⟨p, xs, i, v, rfl, rfl, h, e, q⟩
theorem i_ixT (h : SqT K H p xs) (e : atI xs i = some v) (q : Q v H) : rIxT K (.ref p) (.int i) H Q := ⟨p, xs, i, v, rfl, rfl, h, e, q⟩
theorem at_lt {α : Type} {xs : List α} {i : Int} (h0 : 0 ≤ i) (h1 : i < xs.length) : ∃ v, atI xs i = some v ∧ xs[i.toNat]? = some v := by
  have hk : i.toNat < xs.length := by omega
  refine ⟨xs[i.toNat], ?_, List.getElem?_eq_getElem hk⟩
  have e := atI_nat (xs := xs) (j := i.toNat) (v := xs[i.toNat]) (List.getElem?_eq_getElem hk)
  rw [Int.toNat_of_nonneg h0] at e
  exact e
/-- an item at an open place: one of those written -/
theorem i_ix2 {y1 y2 : V} (h : SqL K H p [y1, y2]) (h0 : 0 ≤ i) (h1 : i < 2) (q : ∀ v, v = y1 ∨ v = y2 → Q v H) : rIxL K (.ref p) (.int i) H Q := by
  rcases (by omega : i = 0 ∨ i = 1) with e | e <;> subst e
  · exact ⟨p, _, _, y1, rfl, rfl, h, rfl, q _ (.inl rfl)⟩
  · exact ⟨p, _, _, y2, rfl, rfl, h, rfl, q _ (.inr rfl)⟩
theorem i_ix2I {y1 y2 : Int} (h : SqL K H p [.int y1, .int y2]) (h0 : 0 ≤ i) (h1 : i < 2) (q : ∀ v, v = y1 ∨ v = y2 → Q (.int v) H) : rIxL K (.ref p) (.int i) H Q := by
  rcases (by omega : i = 0 ∨ i = 1) with e | e <;> subst e
  · exact ⟨p, _, _, .int y1, rfl, rfl, h, rfl, q _ (.inl rfl)⟩
  · exact ⟨p, _, _, .int y2, rfl, rfl, h, rfl, q _ (.inr rfl)⟩
theorem i_ix3I {y1 y2 y3 : Int} (h : SqL K H p [.int y1, .int y2, .int y3]) (h0 : 0 ≤ i) (h1 : i < 3) (q : ∀ v, v = y1 ∨ v = y2 ∨ v = y3 → Q (.int v) H) : rIxL K (.ref p) (.int i) H Q := by
  rcases (by omega : i = 0 ∨ i = 1 ∨ i = 2) with e | e | e <;> subst e
  · exact ⟨p, _, _, .int y1, rfl, rfl, h, rfl, q _ (.inl rfl)⟩
  · exact ⟨p, _, _, .int y2, rfl, rfl, h, rfl, q _ (.inr (.inl rfl))⟩
  · exact ⟨p, _, _, .int y3, rfl, rfl, h, rfl, q _ (.inr (.inr rfl))⟩
theorem i_ix4I {y1 y2 y3 y4 : Int} (h : SqL K H p [.int y1, .int y2, .int y3, .int y4]) (h0 : 0 ≤ i) (h1 : i < 4) (q : ∀ v, v = y1 ∨ v = y2 ∨ v = y3 ∨ v = y4 → Q (.int v) H) : rIxL K (.ref p) (.int i) H Q := by
  rcases (by omega : i = 0 ∨ i = 1 ∨ i = 2 ∨ i = 3) with e | e | e | e <;> subst e
  · exact ⟨p, _, _, .int y1, rfl, rfl, h, rfl, q _ (.inl rfl)⟩
  · exact ⟨p, _, _, .int y2, rfl, rfl, h, rfl, q _ (.inr (.inl rfl))⟩
  · exact ⟨p, _, _, .int y3, rfl, rfl, h, rfl, q _ (.inr (.inr (.inl rfl)))⟩
  · exact ⟨p, _, _, .int y4, rfl, rfl, h, rfl, q _ (.inr (.inr (.inr rfl)))⟩
theorem i_ix3R {y1 y2 y3 : Addr} (h : SqL K H p [.ref y1, .ref y2, .ref y3]) (h0 : 0 ≤ i) (h1 : i < 3) (q : ∀ v, v = y1 ∨ v = y2 ∨ v = y3 → Q (.ref v) H) : rIxL K (.ref p) (.int i) H Q := by
  rcases (by omega : i = 0 ∨ i = 1 ∨ i = 2) with e | e | e <;> subst e
  · exact ⟨p, _, _, .ref y1, rfl, rfl, h, rfl, q _ (.inl rfl)⟩
  · exact ⟨p, _, _, .ref y2, rfl, rfl, h, rfl, q _ (.inr (.inl rfl))⟩
  · exact ⟨p, _, _, .ref y3, rfl, rfl, h, rfl, q _ (.inr (.inr rfl))⟩
theorem i_ix4R {y1 y2 y3 y4 : Addr} (h : SqL K H p [.ref y1, .ref y2, .ref y3, .ref y4]) (h0 : 0 ≤ i) (h1 : i < 4) (q : ∀ v, v = y1 ∨ v = y2 ∨ v = y3 ∨ v = y4 → Q (.ref v) H) : rIxL K (.ref p) (.int i) H Q := by
  rcases (by omega : i = 0 ∨ i = 1 ∨ i = 2 ∨ i = 3) with e | e | e | e <;> subst e
  · exact ⟨p, _, _, .ref y1, rfl, rfl, h, rfl, q _ (.inl rfl)⟩
  · exact ⟨p, _, _, .ref y2, rfl, rfl, h, rfl, q _ (.inr (.inl rfl))⟩
  · exact ⟨p, _, _, .ref y3, rfl, rfl, h, rfl, q _ (.inr (.inr (.inl rfl)))⟩
  · exact ⟨p, _, _, .ref y4, rfl, rfl, h, rfl, q _ (.inr (.inr (.inr rfl)))⟩
theorem i_gtup {m : Nat} {t : TGs} {Z : L2.St → Hp → Prop} (h : SqT K H p xs) (e : xs.length = m) (q : t xs σ H Z) : gTup K m t (.ref p) σ H Z := ⟨p, xs, rfl, h, e, q⟩
theorem i_gtupL {m : Nat} {t : TGs} {Z : L2.St → Hp → Prop} (h : SqT K H p xs) (e : xs.length = m) (q : t xs σ H Z) : gTup K m t (.ref p) σ H Z := ⟨p, xs, rfl, h, e, q⟩
theorem i_gcons {t : TG} {u : TGs} {r : List V} {Z : L2.St → Hp → Prop} (h : t v σ H fun σ1 H1 => u r σ1 H1 Z) : gCons t u (v :: r) σ H Z := ⟨v, r, rfl, h⟩
theorem i_gnil {Z : L2.St → Hp → Prop} (h : Z σ H) : gNil [] σ H Z := ⟨rfl, h⟩
theorem i_gsub {to ti : TE} {t : TSet} {Z : L2.St → Hp → Prop} (h : to σ H fun o H1 => ti σ H1 fun i H2 => t o i v H2 fun H3 => Z σ H3) : gSub to ti t v σ H Z := h
theorem i_setL {k : Nat} {Z : Hp → Prop} (h : H p = some (.lst xs)) (e : ixN xs.length i = some k) (q : Z (upd H p (.lst (xs.set k v)))) : rSetL (.ref p) (.int i) v H Z := ⟨p, xs, i, k, rfl, rfl, h, e, q⟩
def par2 (k1 k2 : Nat) (σ : L2.St) (Z : L2.St → Hp → Prop) : List V → Hp → Prop := fun vs H1 => ∃ v w, vs = [v, w] ∧ Z ((σ.set k1 (some v)).set k2 (some w)) H1
theorem i_par {k1 k2 : Nat} {ta : TA} (h : ta σ H (par2 k1 k2 σ nx)) : tPar k1 k2 ta ⟨nx, rt, bk, ct⟩ σ H := h
theorem i_par2 {k1 k2 : Nat} {w : V} {Z : L2.St → Hp → Prop} (e : (σ.set k1 (some v)).set k2 (some w) = σ') (q : Z σ' H) : par2 k1 k2 σ Z [v, w] H := by
  subst e
  exact ⟨v, w, rfl, q⟩
theorem i_aug {k : Nat} {te : TE} {ti : TIp} (h : σ[k]? = some (some x)) (q : te σ H fun y H1 => ti x y H1 fun z H2 => gName k z σ H2 nx) : tAug k te ti ⟨nx, rt, bk, ct⟩ σ H := ⟨x, h, q⟩
theorem i_ip {f : Int → Int → Int} (q : Q (.int (f i j)) H) : ipI f (.int i) (.int j) H Q := ⟨i, j, rfl, rfl, q⟩
theorem i_for {wi : TI} {g : TG} {tb : TS} (h : wi σ H fun J H1 => ∃ W : Nat → Nat → L2.St → Hp → Prop, (∃ m, W 0 m σ H1) ∧ ∀ i m σ H, W i m σ H →
  (J.stop i H ∧ nx σ H) ∨ (J.go i H ∧ ∃ N : L2.St → Hp → Prop, (∀ σ' H', N σ' H' → ∃ m', m' < m ∧ W (i + 1) m' σ' H') ∧ ∀ x H', J.yld i H x H' → g x σ H' fun σ2 H2 => tb ⟨N, rt, nx, N⟩ σ2 H2)) : tFor wi g tb ⟨nx, rt, bk, ct⟩ σ H := h
theorem i_rng1 {ta : TA} {R : It → Hp → Prop} (h : ta σ H fun vs H1 => ∃ j : Int, vs = [.int j] ∧ -(2 ^ 62) ≤ j ∧ j < 2 ^ 62 ∧ R (Itr 0 j.toNat) H1) : iRng1 ta σ H R := h
theorem i_rng1' {R : Int → Prop} (h1 : -(2 ^ 62) ≤ j) (h2 : j < 2 ^ 62) (q : R j) : ∃ j' : Int, [V.int j] = [.int j'] ∧ -(2 ^ 62) ≤ j' ∧ j' < 2 ^ 62 ∧ R j' := ⟨j, rfl, h1, h2, q⟩
theorem i_rng2 {ta : TA} {R : It → Hp → Prop} (h : ta σ H fun vs H1 => ∃ i j : Int, vs = [.int i, .int j] ∧ (-(2 ^ 62) ≤ i ∧ i < 2 ^ 62 ∧ -(2 ^ 62) ≤ j ∧ j < 2 ^ 62) ∧ R (Itr i (j - i).toNat) H1) : iRng2 ta σ H R := h
theorem i_rng2' {R : Int → Int → Prop} (h : -(2 ^ 62) ≤ i ∧ i < 2 ^ 62 ∧ -(2 ^ 62) ≤ j ∧ j < 2 ^ 62) (q : R i j) : ∃ i' j' : Int, [V.int i, V.int j] = [.int i', .int j'] ∧ (-(2 ^ 62) ≤ i' ∧ i' < 2 ^ 62 ∧ -(2 ^ 62) ≤ j' ∧ j' < 2 ^ 62) ∧ R i' j' := ⟨i, j, rfl, h, q⟩
theorem i_ilist {tl : TE} {R : It → Hp → Prop} (h : tl σ H fun x H1 => ∃ a, x = .ref a ∧ (∃ xs, SqL K H1 a xs) ∧ R (Itl K a) H1) : iList K tl σ H R := h
theorem i_ilist' {R : Addr → Prop} (h : SqL K H p xs) (q : R p) : ∃ a, V.ref p = .ref a ∧ (∃ xs, SqL K H a xs) ∧ R a := ⟨p, rfl, ⟨xs, h⟩, q⟩
theorem i_itup {tl : TE} {R : It → Hp → Prop} (h : tl σ H fun x H1 => ∃ a, x = .ref a ∧ (∃ xs, SqT K H1 a xs) ∧ R (Itt K a) H1) : iTup K tl σ H R := h
theorem i_itup' {R : Addr → Prop} (h : SqT K H p xs) (q : R p) : ∃ a, V.ref p = .ref a ∧ (∃ xs, SqT K H a xs) ∧ R a := ⟨p, rfl, ⟨xs, h⟩, q⟩
/-- built-ins by values -/
theorem i_abs {R : Int → Prop} (q : R i) : ∃ i', [V.int i] = [.int i'] ∧ R i' := ⟨i, rfl, q⟩
theorem i_int2 {R : Int → Int → Prop} (q : R i j) : ∃ i' j', [V.int i, V.int j] = [.int i', .int j'] ∧ R i' j' := ⟨i, j, rfl, q⟩

theorem i_int1 {R : Int → Prop} {S : Prop} (q : R i) : (∃ i', [V.int i] = [.int i'] ∧ R i') ∨ S := .inl ⟨i, rfl, q⟩
theorem i_intb {b : Bool} {R : Bool → Prop} {S : Prop} (q : R b) : S ∨ ∃ k, [V.bl b] = [.bl k] ∧ R k := .inr ⟨b, rfl, q⟩
theorem i_lenL {R : List V → Prop} (h : SqL K H p xs) (q : R xs) : ∃ p' ys, [V.ref p] = [.ref p'] ∧ (SqL K H p' ys ∨ SqT K H p' ys) ∧ R ys := ⟨p, xs, rfl, .inl h, q⟩
theorem i_lenT {R : List V → Prop} (h : SqT K H p xs) (q : R xs) : ∃ p' ys, [V.ref p] = [.ref p'] ∧ (SqL K H p' ys ∨ SqT K H p' ys) ∧ R ys := ⟨p, xs, rfl, .inr h, q⟩
theorem i_isi {t : String} {c : String} {b : Bool} (ty : TyX K H x (.type t)) (h : kitB t c = some b) (q : Q (.bl b) H) : rIsi K [x, .ty c] H Q := ⟨x, .ty c, .type t, .type c, b, rfl, .ty c, ty, kit_ty h, q⟩
theorem i_append (h : H p = some (.lst xs)) (hz : xs.length < sizeLine) (q : Q .non (upd H p (.lst (xs ++ [v])))) : rAppend (.ref p) [v] H Q := ⟨p, xs, v, rfl, rfl, h, hz, q⟩
theorem i_appendM {H : Hp} {Q : VK} {p : Addr} {ms : List Int} {z : Int} (h : H p = some (.lst (ms.map V.int))) (hz : ms.length < sizeLine) (q : Q .non (upd H p (.lst ((ms ++ [z]).map V.int)))) : rAppend (.ref p) [.int z] H Q := ⟨p, _, _, rfl, rfl, h, by rw [List.length_map]; exact hz, by rw [List.map_append] at q; exact q⟩
theorem i_bm {T : String} {r : V → List V → Hp → VK → Prop} {to : TE} {t : TA} (h : to σ H fun x H1 => tyV K T x H1 ∧ t σ H1 fun xs H2 => r x xs H2 Q) : tBM K T r to t σ H Q := h
theorem i_bm0 {T : String} {r : V → List V → Hp → VK → Prop} {to : TE} (h : to σ H fun x H1 => tyV K T x H1 ∧ r x [] H1 Q) : tBM0 K T r to σ H Q := h
theorem i_bmL {A : Prop} (h : SqL K H p xs) (q : A) : tyV K "list" (.ref p) H ∧ A := ⟨.inl ⟨rfl, _, h⟩, q⟩
/-! ### ifs -/
theorem ite_d {p A B : Prop} {d : Decidable p} (h1 : p → A) (h2 : ¬ p → B) : if (@decide p d) = true then A else B := by
  by_cases h : p
  · rw [if_pos (decide_eq_true h)]
    exact h1 h
  · rw [if_neg (by rw [decide_eq_false h]; decide)]
    exact h2 h
theorem ite_nd {p A B : Prop} {d : Decidable p} (h1 : ¬ p → A) (h2 : p → B) : if (!(@decide p d)) = true then A else B := by
  by_cases h : p
  · rw [if_neg (by rw [decide_eq_true h]; decide)]
    exact h2 h
  · rw [if_pos (by rw [decide_eq_false h]; decide)]
    exact h1 h
theorem ite_b {b : Bool} {A B : Prop} (h1 : b = true → A) (h2 : b = false → B) : if b = true then A else B := by
  cases b
  · rw [if_neg (by decide)]
    exact h2 rfl
  · rw [if_pos rfl]
    exact h1 rfl
theorem ite_y {b : Bool} {A B : Prop} (e : b = true) (h : A) : if b = true then A else B := by
  rw [if_pos e]
  exact h
theorem ite_n {b : Bool} {A B : Prop} (e : b = false) (h : B) : if b = true then A else B := by
  rw [if_neg (by rw [e]; decide)]
  exact h
/-- both ways at once: what follows is asked of either -/
theorem ite_or {b : Bool} {R : Prop} {P : Bool → Prop} (h1 : b = true → P true → R) (h2 : b = false → P false → R) (hp : P b) : R := by
  cases b
  · exact h2 rfl hp
  · exact h1 rfl hp
end
end Hf
namespace Hf
open PySem PySem.Spec PyProof.Rows L2
theorem set_z {α : Type} {x y : α} {r : List α} : List.set (x :: r) 0 y = y :: r := rfl
theorem set_s {α : Type} {x y : α} {r r' : List α} {k : Nat} (h : List.set r k y = r') : List.set (x :: r) (k + 1) y = x :: r' := by
  rw [List.set_cons_succ, h]
theorem set_par {α : Type} {l l1 l2 : List α} {j k : Nat} {y z : α} (h1 : l.set j y = l1) (h2 : l1.set k z = l2) : (l.set j y).set k z = l2 := by
  rw [h1, h2]
theorem lk_same {H H' : Hp} {a : Addr} {o : HO} (e : Same H H') (h : H a = some o) : H' a = some o := e a o h
theorem lk_but {H H' : Hp} {a b : Addr} {o : HO} (e : But a H H') (n : b ≠ a) (h : H b = some o) : H' b = some o := e b o n h
end Hf

namespace Hf
open PySem PySem.Spec PyProof.Rows L2
/-! ### loops -/
section
variable {σ : L2.St} {H : Hp} {Q : VK} {nx bk ct : L2.St → Hp → Prop} {rt : VK} {K : PySem.W.Frag} {a : Addr} {xs : List V} {g : TG} {tb : TS} {lo : Int} {n : Nat}
theorem forR (Pv : Nat → L2.St → Hp → Prop) (h0 : Pv 0 σ H) (hd : ∀ σ H, Pv n σ H → nx σ H)
    (hs : ∀ (i : Nat) σ H, i < n → Pv i σ H → g (.int (lo + i)) σ H fun σ2 H2 => tb ⟨Pv (i + 1), rt, nx, Pv (i + 1)⟩ σ2 H2) :
    ∃ W : Nat → Nat → L2.St → Hp → Prop, (∃ m, W 0 m σ H) ∧ ∀ i m σ H, W i m σ H →
      ((Itr lo n).stop i H ∧ nx σ H) ∨ ((Itr lo n).go i H ∧ ∃ N : L2.St → Hp → Prop, (∀ σ' H', N σ' H' → ∃ m', m' < m ∧ W (i + 1) m' σ' H') ∧ ∀ x H', (Itr lo n).yld i H x H' → g x σ H' fun σ2 H2 => tb ⟨N, rt, nx, N⟩ σ2 H2) :=
  for_range (D := ⟨nx, rt, fun _ _ => False, fun _ _ => False⟩) Pv h0 hs hd
theorem forL (Pv : Nat → L2.St → Hp → Prop) (h0 : Pv 0 σ H) (hl : ∀ i σ H, i ≤ xs.length → Pv i σ H → SqL K H a xs) (hd : ∀ σ H, Pv xs.length σ H → nx σ H)
    (hs : ∀ i x σ H, xs[i]? = some x → Pv i σ H → g x σ H fun σ2 H2 => tb ⟨Pv (i + 1), rt, nx, Pv (i + 1)⟩ σ2 H2) :
    ∃ W : Nat → Nat → L2.St → Hp → Prop, (∃ m, W 0 m σ H) ∧ ∀ i m σ H, W i m σ H →
      ((Itl K a).stop i H ∧ nx σ H) ∨ ((Itl K a).go i H ∧ ∃ N : L2.St → Hp → Prop, (∀ σ' H', N σ' H' → ∃ m', m' < m ∧ W (i + 1) m' σ' H') ∧ ∀ x H', (Itl K a).yld i H x H' → g x σ H' fun σ2 H2 => tb ⟨N, rt, nx, N⟩ σ2 H2) :=
  for_list (D := ⟨nx, rt, fun _ _ => False, fun _ _ => False⟩) Pv h0 hl hs hd
theorem forT (Pv : Nat → L2.St → Hp → Prop) (h0 : Pv 0 σ H) (hl : ∀ i σ H, i ≤ xs.length → Pv i σ H → SqT K H a xs) (hd : ∀ σ H, Pv xs.length σ H → nx σ H)
    (hs : ∀ i x σ H, xs[i]? = some x → Pv i σ H → g x σ H fun σ2 H2 => tb ⟨Pv (i + 1), rt, nx, Pv (i + 1)⟩ σ2 H2) :
    ∃ W : Nat → Nat → L2.St → Hp → Prop, (∃ m, W 0 m σ H) ∧ ∀ i m σ H, W i m σ H →
      ((Itt K a).stop i H ∧ nx σ H) ∨ ((Itt K a).go i H ∧ ∃ N : L2.St → Hp → Prop, (∀ σ' H', N σ' H' → ∃ m', m' < m ∧ W (i + 1) m' σ' H') ∧ ∀ x H', (Itt K a).yld i H x H' → g x σ H' fun σ2 H2 => tb ⟨N, rt, nx, N⟩ σ2 H2) :=
  for_tup (D := ⟨nx, rt, fun _ _ => False, fun _ _ => False⟩) Pv h0 hl hs hd
/-- while: W by a measure; the test is read by hand, its two ways by turnW and the loop's end -/
theorem whileW {c : TT} (W : Nat → L2.St → Hp → Prop) (m : Nat) (h0 : W m σ H)
    (hs : ∀ m σ H, W m σ H → c σ H fun b H1 => if b = true then ∃ N : L2.St → Hp → Prop, (∀ σ' H', N σ' H' → ∃ m', m' < m ∧ W m' σ' H') ∧ tb ⟨N, rt, nx, N⟩ σ H1 else nx σ H1) : tWhile c tb ⟨nx, rt, bk, ct⟩ σ H :=
  ⟨W, ⟨m, h0⟩, hs⟩
theorem turnW {W : Nat → L2.St → Hp → Prop} {m : Nat} (h : tb ⟨fun σ' H' => ∃ m', m' < m ∧ W m' σ' H', rt, nx, fun σ' H' => ∃ m', m' < m ∧ W m' σ' H'⟩ σ H) :
    ∃ N : L2.St → Hp → Prop, (∀ σ' H', N σ' H' → ∃ m', m' < m ∧ W m' σ' H') ∧ tb ⟨N, rt, nx, N⟩ σ H := ⟨_, fun _ _ h => h, h⟩
end
theorem But.free {a p : Addr} {o : HO} {H H' : Hp} (hn : H' p = none) (e : But a H H') (ha : H' a = some o) : H p = none := by
  cases h : H p with
  | none => rfl
  | some u =>
    by_cases hp : p = a
    · rw [hp, ha] at hn
      cases hn
    · rw [e p u hp h] at hn
      cases hn
theorem Same.free' {p : Addr} {H H' : Hp} (hn : H' p = none) (e : Same H H') : H p = none := e.free hn
theorem But.newT {a p : Addr} {H H1 : Hp} {o : HO} (hp : H1 p = none) (x : But a H H1) : But a H (L2.upd H1 p o) := But.new x hp
theorem But.transT {a : Addr} {H H1 H2 : Hp} (y : But a H1 H2) (x : But a H H1) : But a H H2 := But.trans x y
theorem Same.transT {H H1 H2 : Hp} (y : Same H1 H2) (x : Same H H1) : Same H H2 := x.trans y
theorem Same.newT' {H H1 : Hp} {p : Addr} {o : HO} (hp : H1 p = none) (x : Same H H1) : Same H (upd H1 p o) := Same.newT x hp
theorem But.transS {a : Addr} {H H1 H2 : Hp} (y : Same H1 H2) (x : But a H H1) : But a H H2 := fun b o n h => y b o (x b o n h)
theorem Same.butT {H0 H H1 : Hp} {p : Addr} (x : But p H H1) (hp : H0 p = none) (e : Same H0 H) : Same H0 H1 := Same.but e hp x
/-! ### slices, sums of lists -/
theorem six_nn {n d : Nat} {k : Int} (h : 0 ≤ k) : HT.sIx n d (some k) = min k.toNat n := by
  obtain ⟨m, rfl⟩ := Int.eq_ofNat_of_zero_le h
  exact HT.sIx_nat n d m
theorem cut_to {xs : List V} {k : Int} (h : 0 ≤ k) : cutV xs none (some k) = xs.take k.toNat := by
  unfold cutV
  rw [six_nn h, HT.sIx_none, List.drop_zero, Nat.sub_zero]
  exact List.take_eq_take_iff.mpr (by omega)
theorem cut_from {xs : List V} {k : Int} (h : 0 ≤ k) : cutV xs (some k) none = xs.drop k.toNat := by
  unfold cutV
  rw [six_nn h, HT.sIx_none, List.take_of_length_le (by rw [List.length_drop]; omega)]
  by_cases c : k.toNat ≤ xs.length
  · rw [Nat.min_eq_left c]
  · rw [Nat.min_eq_right (show xs.length ≤ k.toNat by omega), List.drop_length, List.drop_eq_nil_of_le (show xs.length ≤ k.toNat by omega)]
theorem cut_mid {xs : List V} {j k : Int} (h : 0 ≤ j) (h' : 0 ≤ k) : cutV xs (some j) (some k) = (xs.drop j.toNat).take (k.toNat - j.toNat) := by
  unfold cutV
  rw [six_nn h, six_nn h']
  by_cases c : j.toNat ≤ xs.length
  · rw [Nat.min_eq_left c]
    refine List.take_eq_take_iff.mpr ?_
    rw [List.length_drop]
    omega
  · rw [Nat.min_eq_right (show xs.length ≤ j.toNat by omega), List.drop_length, List.drop_eq_nil_of_le (show xs.length ≤ j.toNat by omega), List.take_nil, List.take_nil]
section
variable {H : Hp} {Q : VK} {K : PySem.W.Frag} {p r : Addr} {xs ys : List V} {j k : Int} {lo hi : Option Int} {σ : L2.St}
theorem i_slTo (h : SqL K H p xs) (h0 : 0 ≤ k) (q : ∀ p', H p' = none → Q (.ref p') (upd H p' (.lst (xs.take k.toNat)))) : rSlL K (.ref p) none (some k) H Q := ⟨p, xs, rfl, h, by rw [cut_to h0]; exact q⟩
theorem i_slFrom (h : SqL K H p xs) (h0 : 0 ≤ k) (q : ∀ p', H p' = none → Q (.ref p') (upd H p' (.lst (xs.drop k.toNat)))) : rSlL K (.ref p) (some k) none H Q := ⟨p, xs, rfl, h, by rw [cut_from h0]; exact q⟩
theorem i_slMid (h : SqL K H p xs) (h0 : 0 ≤ j) (h1 : 0 ≤ k) (q : ∀ p', H p' = none → Q (.ref p') (upd H p' (.lst ((xs.drop j.toNat).take (k.toNat - j.toNat))))) : rSlL K (.ref p) (some j) (some k) H Q := ⟨p, xs, rfl, h, by rw [cut_mid h0 h1]; exact q⟩
theorem i_sl {R : V → Option Int → Option Int → Hp → VK → Prop} {te : TE} {tl th : TO} (h : te σ H fun x H1 => tl σ H1 fun l H2 => th σ H2 fun u H3 => R x l u H3 Q) : tSl R te tl th σ H Q := h
theorem i_nopart {P : Option Int → Hp → Prop} (q : P none H) : tNoPart σ H P := q
theorem i_part {te : TE} {P : Option Int → Hp → Prop} (h : te σ H fun x H1 => ∃ i, x = .int i ∧ P (some i) H1) : tPart te σ H P := h
theorem i_exint {i : Int} {R : Int → Prop} (q : R i) : ∃ i', V.int i = .int i' ∧ R i' := ⟨i, rfl, q⟩
theorem i_cat (h1 : H p = some (.lst xs)) (h2 : H r = some (.lst ys)) (hz : xs.length + ys.length ≤ sizeLine) (q : ∀ p', H p' = none → Q (.ref p') (upd H p' (.lst (xs ++ ys)))) : rCat (.ref p) (.ref r) H Q := ⟨p, r, xs, ys, rfl, rfl, h1, h2, hz, q⟩
theorem i_rep (h1 : H p = some (.lst xs)) (h2 : -(2 ^ 63) ≤ k ∧ k < 2 ^ 63) (hz : xs.length * k.toNat ≤ sizeLine) (q : ∀ p', H p' = none → Q (.ref p') (upd H p' (.lst (List.replicate k.toNat xs).flatten))) : rRep (.ref p) (.int k) H Q := ⟨p, k, xs, rfl, rfl, h1, h2.1, h2.2, hz, q⟩
theorem flat1 {α : Type} {x : α} : ∀ n : Nat, (List.replicate n [x]).flatten = List.replicate n x
  | 0 => rfl
  | n + 1 => by
    rw [List.replicate_succ, List.flatten_cons, flat1 n, List.replicate_succ]
    rfl
theorem i_rep1 {x : V} (h1 : H p = some (.lst [x])) (h2 : 0 ≤ k ∧ k ≤ 1000000) (q : ∀ p', H p' = none → Q (.ref p') (upd H p' (.lst (List.replicate k.toNat x)))) : rRep (.ref p) (.int k) H Q :=
  i_rep h1 (by omega) (sz4 (by show 1 * k.toNat ≤ 1000000; omega)) (by rw [flat1]; exact q)
end
/-- an if whose two ways meet: what holds behind it -/
theorem if_join {σ : L2.St} {H : Hp} {nx bk ct : L2.St → Hp → Prop} {rt : VK} {c : TT} {t u : TS} (P : L2.St → Hp → Prop) (h : ∀ nx' : L2.St → Hp → Prop, (∀ σ' H', P σ' H' → nx' σ' H') → tIfS c t u ⟨nx', rt, bk, ct⟩ σ H)
    (cont : ∀ σ' H', P σ' H' → nx σ' H') : tIfS c t u ⟨nx, rt, bk, ct⟩ σ H := h nx cont
/-- any statement, cut behind it -/
theorem st_join {σ : L2.St} {H : Hp} {nx bk ct : L2.St → Hp → Prop} {rt : VK} {t : TS} (P : L2.St → Hp → Prop) (h : ∀ nx' : L2.St → Hp → Prop, (∀ σ' H', P σ' H' → nx' σ' H') → t ⟨nx', rt, bk, ct⟩ σ H)
    (cont : ∀ σ' H', P σ' H' → nx σ' H') : t ⟨nx, rt, bk, ct⟩ σ H := h nx cont
theorem ints_at {ms : List Int} {i : Nat} {x : V} (h : (ms.map V.int)[i]? = some x) : ∃ z, x = .int z ∧ ms[i]? = some z := by
  rw [List.getElem?_map] at h
  cases e : ms[i]? with
  | none =>
    rw [e] at h
    cases h
  | some z =>
    rw [e] at h
    exact ⟨z, (Option.some.inj h).symm, rfl⟩
/-! ### equality of data -/
theorem i_eqT2 {K : PySem.W.Frag} {H : Hp} {Q : VK} {p r : Addr} {a b c d : Int} (h1 : SqT K H p [.int a, .int b]) (h2 : SqT K H r [.int c, .int d]) (q : Q (.bl (a == c && (b == d && true))) H) : rEqD K (.ref p) (.ref r) H Q :=
  ⟨.tuple [.int a, .int b], .tuple [.int c, .int d], .tup h1 (.cons (.int a) (.cons (.int b) .nil)), .tup h2 (.cons (.int c) (.cons (.int d) .nil)), rfl, rfl, by
    have e : PyData.eqv (.tuple [.int a, .int b]) (.tuple [.int c, .int d]) = (a == c && (b == d && true)) := by simp [PyData.eqv, PyData.eqvAll]
    rw [e]
    exact q⟩
/-! ### two objects that change -/
def But2 (a c : Addr) (H H' : Hp) : Prop := ∀ b o, b ≠ a → b ≠ c → H b = some o → H' b = some o
section
variable {a c b p : Addr} {H H' H1 H2 : Hp} {o u : HO} {K : PySem.W.Frag} {xs : List V}
theorem But2.refl (a c : Addr) (H : Hp) : But2 a c H H := fun _ _ _ _ h => h
theorem But2.transT (y : But2 a c H1 H2) (x : But2 a c H H1) : But2 a c H H2 := fun b o n m h => y b o n m (x b o n m h)
theorem But2.transS (y : Same H1 H2) (x : But2 a c H H1) : But2 a c H H2 := fun b o n m h => y b o (x b o n m h)
theorem But2.transL (y : But a H1 H2) (x : But2 a c H H1) : But2 a c H H2 := fun b o n m h => y b o n (x b o n m h)
theorem But2.transR (y : But c H1 H2) (x : But2 a c H H1) : But2 a c H H2 := fun b o n m h => y b o m (x b o n m h)
theorem But2.newT (hp : H1 p = none) (x : But2 a c H H1) : But2 a c H (L2.upd H1 p o) := fun b u n m h => by
  have h1 := x b u n m h
  rw [upd_ne (ne_of_none h1 hp)]
  exact h1
theorem But2.updL (x : But2 a c H H1) : But2 a c H (L2.upd H1 a o) := fun b u n m h => by
  rw [upd_ne n]
  exact x b u n m h
theorem But2.updR (x : But2 a c H H1) : But2 a c H (L2.upd H1 c o) := fun b u n m h => by
  rw [upd_ne m]
  exact x b u n m h
theorem lk_but2 (e : But2 a c H H') (n : b ≠ a) (m : b ≠ c) (h : H b = some o) : H' b = some o := e b o n m h
theorem But2.seq (e : But2 a c H H') (n : b ≠ a) (m : b ≠ c) (h : SqL K H b xs) : SqL K H' b xs := by
  rcases h with (h | ⟨o, h⟩) | h
  · exact .inl (.inl (e _ _ n m h))
  · exact .inl (.inr ⟨o, e _ _ n m h⟩)
  · exact .inr h
theorem But2.seqT (e : But2 a c H H') (n : b ≠ a) (m : b ≠ c) (h : SqT K H b xs) : SqT K H' b xs := by
  rcases h with (h | ⟨o, h⟩) | h
  · exact .inl (.inl (e _ _ n m h))
  · exact .inl (.inr ⟨o, e _ _ n m h⟩)
  · exact .inr h
theorem But2.free (hn : H' p = none) (e : But2 a c H H') (ha : H' a = some o) (hc : H' c = some u) : H p = none := by
  cases h : H p with
  | none => rfl
  | some v =>
    by_cases hp : p = a
    · rw [hp, ha] at hn
      cases hn
    · by_cases hq : p = c
      · rw [hq, hc] at hn
        cases hn
      · rw [e p v hp hq h] at hn
        cases hn
theorem But2.mut (hp : H p = none) (x : But2 a c H H1) : But2 a c H (L2.upd H1 p o) := fun b u n m h => by
  have e : b ≠ p := ne_of_none h hp
  exact lk_upd e (x b u n m h)
theorem But2.butT (y : But p H1 H2) (hp : H p = none) (x : But2 a c H H1) : But2 a c H H2 := fun b u n m h => y b u (ne_of_none h hp) (x b u n m h)
theorem Same.but2T {H0 : Hp} (x : But2 a c H H1) (ha : H0 a = none) (hc : H0 c = none) (e : Same H0 H) : Same H0 H1 := fun b u h => x b u (ne_of_none h ha) (ne_of_none h hc) (e b u h)
end
/-! ### len, by its number -/
def LenA (K : PySem.W.Frag) (H : Hp) (p : Addr) (n : Nat) : Prop := (∃ ys, SqL K H p ys ∧ ys.length = n) ∨ ∃ ys, SqT K H p ys ∧ ys.length = n
def rLenA (K : PySem.W.Frag) : List V → Hp → VK → Prop := fun xs H Q => ∃ p n, xs = [V.ref p] ∧ LenA K H p n ∧ Q (.int n) H
theorem call_lenA {X : Cx} : CallR X (.builtin "len") (rLenA X.K) := by
  intro pins s σ H xs us Q I r h
  obtain ⟨p, n, e, hl, q⟩ := h
  refine call_len_seq pins s σ H xs us Q I r ?_
  rcases hl with ⟨ys, h1, h2⟩ | ⟨ys, h1, h2⟩
  · exact ⟨p, ys, e, .inl h1, by rw [h2]; exact q⟩
  · exact ⟨p, ys, e, .inr h1, by rw [h2]; exact q⟩
section
variable {σ : L2.St} {H : Hp} {Q : VK} {K : PySem.W.Frag} {p r : Addr} {xs ys : List V} {ms ns : List Int} {i j k : Int} {n : Nat}
theorem i_lenA (h : LenA K H p n) (q : Q (.int n) H) : rLenA K [.ref p] H Q := ⟨p, n, rfl, h, q⟩
theorem lenA_map {α : Type} {f : α → V} {zs : List α} (h : SqL K H p (zs.map f)) : LenA K H p zs.length := .inl ⟨_, h, List.length_map _⟩
theorem lenA_L (h : SqL K H p xs) : LenA K H p xs.length := .inl ⟨_, h, rfl⟩
theorem lenA_T (h : SqT K H p xs) : LenA K H p xs.length := .inr ⟨_, h, rfl⟩
theorem i_ixM (h : SqL K H p (ms.map V.int)) (h0 : 0 ≤ i) (h1 : i < ms.length) (q : ∀ z, ms[i.toNat]? = some z → Q (.int z) H) : rIxL K (.ref p) (.int i) H Q := by
  obtain ⟨v, e1, e2⟩ := at_lt (xs := ms.map V.int) h0 (by rw [List.length_map]; exact h1)
  obtain ⟨z, e, e3⟩ := ints_at e2
  subst e
  exact i_ixL h e1 (q z e3)
theorem i_ixG (h : SqL K H p xs) (h0 : 0 ≤ i) (h1 : i < xs.length) (q : ∀ v, xs[i.toNat]? = some v → Q v H) : rIxL K (.ref p) (.int i) H Q := by
  obtain ⟨v, e1, e2⟩ := at_lt h0 h1
  exact i_ixL h e1 (q v e2)
theorem i_sum (h : SqL K H p (ns.map V.int)) (q : Q (.int ns.sum) H) : rSum K [.ref p] H Q := ⟨p, ns, rfl, h, q⟩
theorem i_slToM (h : SqL K H p (ms.map V.int)) (h0 : 0 ≤ k) (q : ∀ p', H p' = none → Q (.ref p') (upd H p' (.lst ((ms.take k.toNat).map V.int)))) : rSlL K (.ref p) none (some k) H Q := i_slTo h h0 (by rw [← List.map_take]; exact q)
theorem i_slFromM (h : SqL K H p (ms.map V.int)) (h0 : 0 ≤ k) (q : ∀ p', H p' = none → Q (.ref p') (upd H p' (.lst ((ms.drop k.toNat).map V.int)))) : rSlL K (.ref p) (some k) none H Q := i_slFrom h h0 (by rw [← List.map_drop]; exact q)
theorem i_slMidM (h : SqL K H p (ms.map V.int)) (h0 : 0 ≤ j) (h1 : 0 ≤ k) (q : ∀ p', H p' = none → Q (.ref p') (upd H p' (.lst (((ms.drop j.toNat).take (k.toNat - j.toNat)).map V.int)))) : rSlL K (.ref p) (some j) (some k) H Q := i_slMid h h0 h1 (by rw [← List.map_drop, ← List.map_take]; exact q)
theorem i_catM (h1 : H p = some (.lst (ms.map V.int))) (h2 : H r = some (.lst (ns.map V.int))) (hz : ms.length + ns.length ≤ 1000000) (q : ∀ p', H p' = none → Q (.ref p') (upd H p' (.lst ((ms ++ ns).map V.int)))) : rCat (.ref p) (.ref r) H Q :=
  i_cat h1 h2 (sz4 (by rw [List.length_map, List.length_map]; exact hz)) (by rw [← List.map_append]; exact q)
theorem i_repM {x : Int} (h1 : H p = some (.lst [.int x])) (h2 : 0 ≤ k ∧ k ≤ 1000000) (q : ∀ p', H p' = none → Q (.ref p') (upd H p' (.lst ((List.replicate k.toNat x).map V.int)))) : rRep (.ref p) (.int k) H Q :=
  i_rep1 h1 h2 (by rw [← List.map_replicate]; exact q)
theorem eqvAll_ints : ∀ ms ns : List Int, PyData.eqvAll (ms.map PyData.int) (ns.map PyData.int) = decide (ms = ns)
  | [], [] => by simp [PyData.eqvAll]
  | [], _ :: _ => by simp [PyData.eqvAll]
  | _ :: _, [] => by simp [PyData.eqvAll]
  | m :: ms, n :: ns => by
    rw [List.map_cons, List.map_cons, PyData.eqvAll, eqvAll_ints ms ns, PyData.eqv]
    by_cases h : m = n
    · subst h
      simp
    · simp [h]
theorem canLay_ints : ∀ ms : List Int, PyData.canLayAll0 (ms.map PyData.int) = true
  | [] => by simp [PyData.canLayAll0]
  | m :: ms => by
    rw [List.map_cons, PyData.canLayAll0, canLay_ints ms]
    simp [PyData.canLay0]
theorem depth_ints : ∀ ms : List Int, PyData.depthAll (ms.map PyData.int) ≤ 1
  | [] => by simp [PyData.depthAll]
  | m :: ms => by
    have := depth_ints ms
    rw [List.map_cons, PyData.depthAll]
    simp [PyData.depth]
    omega
theorem dp_ints : ∀ ms : List Int, DpAll K H (ms.map V.int) (ms.map PyData.int)
  | [] => .nil
  | m :: ms => .cons (.int m) (dp_ints ms)
theorem shaped_ints (ms : List Int) : SeqAt.shaped (.list (ms.map PyData.int)) = true := by
  unfold SeqAt.shaped
  have h1 := canLay_ints ms
  have h2 := depth_ints ms
  simp [PyData.canLay0, PyData.depth, h1]
  omega
theorem i_eqLI (h1 : SqL K H p (ms.map V.int)) (h2 : SqL K H r (ns.map V.int)) (q : Q (.bl (decide (ms = ns))) H) : rEqD K (.ref p) (.ref r) H Q :=
  ⟨_, _, .lst h1 (dp_ints ms), .lst h2 (dp_ints ns), shaped_ints ms, shaped_ints ns, by rw [PyData.eqv, eqvAll_ints]; exact q⟩
theorem i_neLI (h1 : SqL K H p (ms.map V.int)) (h2 : SqL K H r (ns.map V.int)) (q : Q (.bl (!decide (ms = ns))) H) : rNeD K (.ref p) (.ref r) H Q :=
  ⟨_, _, .lst h1 (dp_ints ms), .lst h2 (dp_ints ns), shaped_ints ms, shaped_ints ns, by rw [PyData.eqv, eqvAll_ints]; exact q⟩
theorem i_eqL0 (h1 : SqL K H p (ms.map V.int)) (h2 : SqL K H r []) (q : Q (.bl (decide (ms = []))) H) : rEqD K (.ref p) (.ref r) H Q := i_eqLI (ns := []) h1 h2 q
theorem i_eq00 (h1 : SqL K H p []) (h2 : SqL K H r []) (q : Q (.bl true) H) : rEqD K (.ref p) (.ref r) H Q := i_eqLI (ms := []) (ns := []) h1 h2 (by simpa using q)
theorem i_isn {P : Prop} (q : P) : V.non = V.non ∧ P := ⟨rfl, q⟩
theorem i_tru {P : Prop} (q : P) : True ∧ P := ⟨trivial, q⟩
theorem i_glst {m : Nat} {t : TGs} {Z : L2.St → Hp → Prop} (h : SqL K H p xs) (e : xs.length = m) (q : t xs σ H Z) : gLst K m t (.ref p) σ H Z := ⟨p, xs, rfl, h, e, q⟩
end
/-! ### comprehensions -/
section
variable {σ : L2.St} {H H1 : Hp} {Q : VK} {K : PySem.W.Frag} {D a : Addr} {wi : TI} {g : TG} {tt : TT} {te : TE} {vs : List Nat} {lo : Int} {n : Nat} {xs : List V} {Qd : Hp → Prop}
theorem i_lc (h : wi σ H fun J H1 => ∀ D, H1 D = none → ∃ W : Nat → Nat → Hp → Prop, (∃ m, W 0 m (upd H1 D (.lst []))) ∧ ∀ i m H, W i m H →
  (J.stop i H ∧ Q (.ref D) H) ∨ (J.go i H ∧ ∃ Nx : Hp → Prop, (∀ H', Nx H' → ∃ m', m' < m ∧ W (i + 1) m' H') ∧ ∀ x H', J.yld i H x H' → g x (wipe σ vs) H' fun σ2 H2 => wipe σ2 vs = wipe σ vs ∧ tt σ2 H2 fun b H3 =>
    if b = true then te σ2 H3 fun y H4 => ∃ acc, H4 D = some (.lst acc) ∧ acc.length < sizeLine ∧ Nx (upd H4 D (.lst (acc ++ [y]))) else Nx H3)) : tLc wi g tt te vs σ H Q := h
/-- the turn of a comprehension: what its target, test and element come to; Z is wanted of a kept element, Y where the test says no -/
def LcTurn (g : TG) (tt : TT) (te : TE) (vs : List Nat) (σ : L2.St) (x : V) (H : Hp) (Z : VK) (Y : Hp → Prop) : Prop :=
  g x (wipe σ vs) H fun σ2 H2 => wipe σ2 vs = wipe σ vs ∧ tt σ2 H2 fun b H3 => if b = true then te σ2 H3 Z else Y H3
/-- over a range; P: what holds behind i turns of the list made so far -/
theorem lcR (P : Nat → List V → Hp → Prop) (nD : H1 D = none) (h0 : P 0 [] (upd H1 D (.lst [])))
    (hs : ∀ i acc H (Z : VK) (Y : Hp → Prop), i < n → P i acc H → H D = some (.lst acc) → (∀ y H4, H4 D = some (.lst acc) → acc.length < sizeLine → P (i + 1) (acc ++ [y]) (upd H4 D (.lst (acc ++ [y]))) → Z y H4) →
      (∀ H4, H4 D = some (.lst acc) → P (i + 1) acc H4 → Y H4) → LcTurn g tt te vs σ (.int (lo + i)) H Z Y) (hd : ∀ acc H, P n acc H → H D = some (.lst acc) → Qd H) :
    ∃ W : Nat → Nat → Hp → Prop, (∃ m, W 0 m (upd H1 D (.lst []))) ∧ ∀ i m H, W i m H →
      ((Itr lo n).stop i H ∧ Qd H) ∨ ((Itr lo n).go i H ∧ ∃ Nx : Hp → Prop, (∀ H', Nx H' → ∃ m', m' < m ∧ W (i + 1) m' H') ∧ ∀ x H', (Itr lo n).yld i H x H' → g x (wipe σ vs) H' fun σ2 H2 => wipe σ2 vs = wipe σ vs ∧ tt σ2 H2 fun b H3 =>
        if b = true then te σ2 H3 fun y H4 => ∃ acc, H4 D = some (.lst acc) ∧ acc.length < sizeLine ∧ Nx (upd H4 D (.lst (acc ++ [y]))) else Nx H3) := by
  refine lc_range (fun i H => ∃ acc, P i acc H ∧ H D = some (.lst acc)) ⟨[], h0, upd_same⟩ (fun i H hi hp => ?_) (fun H hp => ?_)
  · obtain ⟨acc, hp, ha⟩ := hp
    exact hs i acc H _ _ hi hp ha (fun y H4 h1 h2 h3 => ⟨acc, h1, h2, _, h3, upd_same⟩) fun H4 h1 h2 => ⟨acc, h2, h1⟩
  · obtain ⟨acc, hp, ha⟩ := hp
    exact hd acc H hp ha
theorem lcL (P : Nat → List V → Hp → Prop) (nD : H1 D = none) (h0 : P 0 [] (upd H1 D (.lst []))) (hl : ∀ i acc H, i ≤ xs.length → P i acc H → H D = some (.lst acc) → SqL K H a xs)
    (hs : ∀ i x acc H (Z : VK) (Y : Hp → Prop), xs[i]? = some x → P i acc H → H D = some (.lst acc) → (∀ y H4, H4 D = some (.lst acc) → acc.length < sizeLine → P (i + 1) (acc ++ [y]) (upd H4 D (.lst (acc ++ [y]))) → Z y H4) →
      (∀ H4, H4 D = some (.lst acc) → P (i + 1) acc H4 → Y H4) → LcTurn g tt te vs σ x H Z Y) (hd : ∀ acc H, P xs.length acc H → H D = some (.lst acc) → Qd H) :
    ∃ W : Nat → Nat → Hp → Prop, (∃ m, W 0 m (upd H1 D (.lst []))) ∧ ∀ i m H, W i m H →
      ((Itl K a).stop i H ∧ Qd H) ∨ ((Itl K a).go i H ∧ ∃ Nx : Hp → Prop, (∀ H', Nx H' → ∃ m', m' < m ∧ W (i + 1) m' H') ∧ ∀ x H', (Itl K a).yld i H x H' → g x (wipe σ vs) H' fun σ2 H2 => wipe σ2 vs = wipe σ vs ∧ tt σ2 H2 fun b H3 =>
        if b = true then te σ2 H3 fun y H4 => ∃ acc, H4 D = some (.lst acc) ∧ acc.length < sizeLine ∧ Nx (upd H4 D (.lst (acc ++ [y]))) else Nx H3) := by
  refine lc_list (xs := xs) (fun i H => ∃ acc, P i acc H ∧ H D = some (.lst acc)) ⟨[], h0, upd_same⟩ (fun i H hi hp => ?_) (fun i x H hi hp => ?_) (fun H hp => ?_)
  · obtain ⟨acc, hp, ha⟩ := hp
    exact hl i acc H hi hp ha
  · obtain ⟨acc, hp, ha⟩ := hp
    exact hs i x acc H _ _ hi hp ha (fun y H4 h1 h2 h3 => ⟨acc, h1, h2, _, h3, upd_same⟩) fun H4 h1 h2 => ⟨acc, h2, h1⟩
  · obtain ⟨acc, hp, ha⟩ := hp
    exact hd acc H hp ha
/-- whole numbers, one for each turn -/
theorem lcR_int (f : Nat → Int) (nD : H1 D = none) (hn : n ≤ 1000000)
    (hs : ∀ i H (Z : VK) (Y : Hp → Prop), i < n → Same H1 H → (∀ H4, Same H H4 → Z (.int (f i)) H4) → LcTurn g tt te vs σ (.int (lo + i)) H Z Y)
    (hd : ∀ H, Same H1 H → H D = some (.lst (((List.range n).map f).map V.int)) → Qd H) :
    ∃ W : Nat → Nat → Hp → Prop, (∃ m, W 0 m (upd H1 D (.lst []))) ∧ ∀ i m H, W i m H →
      ((Itr lo n).stop i H ∧ Qd H) ∨ ((Itr lo n).go i H ∧ ∃ Nx : Hp → Prop, (∀ H', Nx H' → ∃ m', m' < m ∧ W (i + 1) m' H') ∧ ∀ x H', (Itr lo n).yld i H x H' → g x (wipe σ vs) H' fun σ2 H2 => wipe σ2 vs = wipe σ vs ∧ tt σ2 H2 fun b H3 =>
        if b = true then te σ2 H3 fun y H4 => ∃ acc, H4 D = some (.lst acc) ∧ acc.length < sizeLine ∧ Nx (upd H4 D (.lst (acc ++ [y]))) else Nx H3) := by
  refine lcR (fun i acc H => i ≤ n ∧ acc = ((List.range i).map f).map V.int ∧ Same H1 H) nD ⟨Nat.zero_le _, rfl, Same.new nD⟩ ?_ ?_
  · rintro i acc H Z Y hi ⟨_, rfl, hsame⟩ ha hz _
    refine hs i H Z Y hi hsame fun H4 h4 => hz _ H4 (h4 _ _ ha) (sz4' (by simp; omega)) ⟨hi, ?_, Same.mut (hsame.trans h4) nD⟩
    rw [List.range_succ, List.map_append, List.map_append]
    rfl
  · rintro acc H ⟨_, rfl, hsame⟩ ha
    exact hd H hsame ha
theorem lcL_int (f : Nat → Int) (nD : H1 D = none) (hn : xs.length ≤ 1000000) (hx : SqL K H1 a xs)
    (hs : ∀ i x H (Z : VK) (Y : Hp → Prop), xs[i]? = some x → Same H1 H → (∀ H4, Same H H4 → Z (.int (f i)) H4) → LcTurn g tt te vs σ x H Z Y)
    (hd : ∀ H, Same H1 H → H D = some (.lst (((List.range xs.length).map f).map V.int)) → Qd H) :
    ∃ W : Nat → Nat → Hp → Prop, (∃ m, W 0 m (upd H1 D (.lst []))) ∧ ∀ i m H, W i m H →
      ((Itl K a).stop i H ∧ Qd H) ∨ ((Itl K a).go i H ∧ ∃ Nx : Hp → Prop, (∀ H', Nx H' → ∃ m', m' < m ∧ W (i + 1) m' H') ∧ ∀ x H', (Itl K a).yld i H x H' → g x (wipe σ vs) H' fun σ2 H2 => wipe σ2 vs = wipe σ vs ∧ tt σ2 H2 fun b H3 =>
        if b = true then te σ2 H3 fun y H4 => ∃ acc, H4 D = some (.lst acc) ∧ acc.length < sizeLine ∧ Nx (upd H4 D (.lst (acc ++ [y]))) else Nx H3) := by
  refine lcL (xs := xs) (fun i acc H => i ≤ xs.length ∧ acc = ((List.range i).map f).map V.int ∧ Same H1 H) nD ⟨Nat.zero_le _, rfl, Same.new nD⟩ (fun i acc H _ hp _ => hp.2.2.seq hx) ?_ ?_
  · rintro i x acc H Z Y hi ⟨_, rfl, hsame⟩ ha hz _
    have hi' : i < xs.length := (List.getElem?_eq_some_iff.mp hi).1
    refine hs i x H Z Y hi hsame fun H4 h4 => hz _ H4 (h4 _ _ ha) (sz4' (by simp; omega)) ⟨hi', ?_, Same.mut (hsame.trans h4) nD⟩
    rw [List.range_succ, List.map_append, List.map_append]
    rfl
  · rintro acc H ⟨_, rfl, hsame⟩ ha
    exact hd H hsame ha
/-- over a range, kept where b says so -/
theorem lcR_fil (b : Nat → Bool) (f : Nat → Int) (nD : H1 D = none) (hn : n ≤ 1000000)
    (hs : ∀ i H (Z : VK) (Y : Hp → Prop), i < n → Same H1 H → (b i = true → ∀ H4, Same H H4 → Z (.int (f i)) H4) → (b i = false → ∀ H4, Same H H4 → Y H4) → LcTurn g tt te vs σ (.int (lo + i)) H Z Y)
    (hd : ∀ H, Same H1 H → H D = some (.lst ((((List.range n).filter b).map f).map V.int)) → Qd H) :
    ∃ W : Nat → Nat → Hp → Prop, (∃ m, W 0 m (upd H1 D (.lst []))) ∧ ∀ i m H, W i m H →
      ((Itr lo n).stop i H ∧ Qd H) ∨ ((Itr lo n).go i H ∧ ∃ Nx : Hp → Prop, (∀ H', Nx H' → ∃ m', m' < m ∧ W (i + 1) m' H') ∧ ∀ x H', (Itr lo n).yld i H x H' → g x (wipe σ vs) H' fun σ2 H2 => wipe σ2 vs = wipe σ vs ∧ tt σ2 H2 fun b H3 =>
        if b = true then te σ2 H3 fun y H4 => ∃ acc, H4 D = some (.lst acc) ∧ acc.length < sizeLine ∧ Nx (upd H4 D (.lst (acc ++ [y]))) else Nx H3) := by
  refine lcR (fun i acc H => i ≤ n ∧ acc = (((List.range i).filter b).map f).map V.int ∧ Same H1 H) nD ⟨Nat.zero_le _, rfl, Same.new nD⟩ ?_ ?_
  · rintro i acc H Z Y hi ⟨_, rfl, hsame⟩ ha hz hy
    refine hs i H Z Y hi hsame (fun hb H4 h4 => hz _ H4 (h4 _ _ ha) (sz4' ?_) ⟨hi, ?_, Same.mut (hsame.trans h4) nD⟩) (fun hb H4 h4 => hy H4 (h4 _ _ ha) ⟨hi, ?_, hsame.trans h4⟩)
    · have := List.length_filter_le b (List.range i)
      rw [List.length_range] at this
      simp only [List.length_map]
      omega
    · rw [List.range_succ, List.filter_append, List.map_append, List.map_append, List.filter_cons, if_pos hb]
      rfl
    · rw [List.range_succ, List.filter_append, List.map_append, List.map_append, List.filter_cons, if_neg (by rw [hb]; exact Bool.false_ne_true)]
      simp
  · rintro acc H ⟨_, rfl, hsame⟩ ha
    exact hd H hsame ha
/-- over a list, nothing kept -/
theorem lcL_nil (nD : H1 D = none) (hx : SqL K H1 a xs)
    (hs : ∀ (i : Nat) (x : V) H (Z : VK) (Y : Hp → Prop), xs[i]? = some x → Same H1 H → (∀ H4, Same H H4 → Y H4) → LcTurn g tt te vs σ x H Z Y)
    (hd : ∀ H, Same H1 H → H D = some (.lst []) → Qd H) :
    ∃ W : Nat → Nat → Hp → Prop, (∃ m, W 0 m (upd H1 D (.lst []))) ∧ ∀ i m H, W i m H →
      ((Itl K a).stop i H ∧ Qd H) ∨ ((Itl K a).go i H ∧ ∃ Nx : Hp → Prop, (∀ H', Nx H' → ∃ m', m' < m ∧ W (i + 1) m' H') ∧ ∀ x H', (Itl K a).yld i H x H' → g x (wipe σ vs) H' fun σ2 H2 => wipe σ2 vs = wipe σ vs ∧ tt σ2 H2 fun b H3 =>
        if b = true then te σ2 H3 fun y H4 => ∃ acc, H4 D = some (.lst acc) ∧ acc.length < sizeLine ∧ Nx (upd H4 D (.lst (acc ++ [y]))) else Nx H3) := by
  refine lcL (xs := xs) (fun i acc H => acc = [] ∧ Same H1 H) nD ⟨rfl, Same.new nD⟩ (fun i acc H _ hp _ => hp.2.seq hx) ?_ ?_
  · rintro i x acc H Z Y hi ⟨rfl, hsame⟩ ha _ hy
    exact hs i x H Z Y hi hsame fun H4 h4 => hy H4 (h4 _ _ ha) ⟨rfl, hsame.trans h4⟩
  · rintro acc H ⟨rfl, hsame⟩ ha
    exact hd H hsame ha
/-- over a list, a value for each, from the turn's number -/
theorem lcL_v (f : Nat → V) (nD : H1 D = none) (hn : xs.length ≤ 1000000) (hx : SqL K H1 a xs)
    (hs : ∀ (i : Nat) (x : V) H (Z : VK) (Y : Hp → Prop), xs[i]? = some x → Same H1 H → (∀ H4, Same H H4 → Z (f i) H4) → LcTurn g tt te vs σ x H Z Y)
    (hd : ∀ H, Same H1 H → H D = some (.lst ((List.range xs.length).map f)) → Qd H) :
    ∃ W : Nat → Nat → Hp → Prop, (∃ m, W 0 m (upd H1 D (.lst []))) ∧ ∀ i m H, W i m H →
      ((Itl K a).stop i H ∧ Qd H) ∨ ((Itl K a).go i H ∧ ∃ Nx : Hp → Prop, (∀ H', Nx H' → ∃ m', m' < m ∧ W (i + 1) m' H') ∧ ∀ x H', (Itl K a).yld i H x H' → g x (wipe σ vs) H' fun σ2 H2 => wipe σ2 vs = wipe σ vs ∧ tt σ2 H2 fun b H3 =>
        if b = true then te σ2 H3 fun y H4 => ∃ acc, H4 D = some (.lst acc) ∧ acc.length < sizeLine ∧ Nx (upd H4 D (.lst (acc ++ [y]))) else Nx H3) := by
  refine lcL (xs := xs) (fun i acc H => i ≤ xs.length ∧ acc = (List.range i).map f ∧ Same H1 H) nD ⟨Nat.zero_le _, rfl, Same.new nD⟩ (fun i acc H _ hp _ => hp.2.2.seq hx) ?_ ?_
  · rintro i x acc H Z Y hi ⟨_, rfl, hsame⟩ ha hz _
    have hi' : i < xs.length := (List.getElem?_eq_some_iff.mp hi).1
    refine hs i x H Z Y hi hsame fun H4 h4 => hz _ H4 (h4 _ _ ha) (sz4' (by simp; omega)) ⟨hi', ?_, Same.mut (hsame.trans h4) nD⟩
    rw [List.range_succ, List.map_append]
    rfl
  · rintro acc H ⟨_, rfl, hsame⟩ ha
    exact hd H hsame ha
/-- over a list, truths all true -/
theorem lcL_all (nD : H1 D = none) (hn : xs.length ≤ 1000000) (hx : SqL K H1 a xs)
    (hs : ∀ (i : Nat) (x : V) H (Z : VK) (Y : Hp → Prop), xs[i]? = some x → Same H1 H → (∀ H4, Same H H4 → Z (.bl true) H4) → LcTurn g tt te vs σ x H Z Y)
    (hd : ∀ H, Same H1 H → SqL K H D ((List.replicate xs.length true).map V.bl) → Qd H) :
    ∃ W : Nat → Nat → Hp → Prop, (∃ m, W 0 m (upd H1 D (.lst []))) ∧ ∀ i m H, W i m H →
      ((Itl K a).stop i H ∧ Qd H) ∨ ((Itl K a).go i H ∧ ∃ Nx : Hp → Prop, (∀ H', Nx H' → ∃ m', m' < m ∧ W (i + 1) m' H') ∧ ∀ x H', (Itl K a).yld i H x H' → g x (wipe σ vs) H' fun σ2 H2 => wipe σ2 vs = wipe σ vs ∧ tt σ2 H2 fun b H3 =>
        if b = true then te σ2 H3 fun y H4 => ∃ acc, H4 D = some (.lst acc) ∧ acc.length < sizeLine ∧ Nx (upd H4 D (.lst (acc ++ [y]))) else Nx H3) := by
  refine lcL_v (fun _ => .bl true) nD hn hx hs fun H hs' h => hd H hs' (.of ?_)
  rw [h, List.map_const', List.length_range, List.map_replicate]
theorem i_all {H : Hp} {Q : VK} {p : Addr} {m : Nat} (h : SqL K H p ((List.replicate m true).map V.bl)) (q : Q (.bl true) H) : rAll K [.ref p] H Q := by
  refine ⟨p, _, rfl, h, ?_⟩
  have e : (List.replicate m true).all id = true := by
    rw [List.all_eq_true]
    intro x hx
    rw [(List.mem_replicate.mp hx).2]
    rfl
  rw [e]
  exact q
theorem i_min {H : Hp} {Q : VK} {p : Addr} {ns : List Int} (h : SqL K H p (ns.map V.int)) (h0 : 0 < ns.length) (q : ∀ m, m ∈ ns → (∀ y, y ∈ ns → m ≤ y) → Q (.int m) H) : rMin K [.ref p] H Q := ⟨p, ns, rfl, h, h0, q⟩
theorem i_max {H : Hp} {Q : VK} {p : Addr} {ns : List Int} (h : SqL K H p (ns.map V.int)) (h0 : 0 < ns.length) (q : ∀ m, m ∈ ns → (∀ y, y ∈ ns → y ≤ m) → Q (.int m) H) : rMax K [.ref p] H Q := ⟨p, ns, rfl, h, h0, q⟩
theorem i_yes {P : Bool → Hp → Prop} (q : P true H) : tYes σ H P := q
theorem i_wipe {A : Prop} {σ2 : L2.St} (e : wipe σ2 vs = wipe σ vs) (q : A) : wipe σ2 vs = wipe σ vs ∧ A := ⟨e, q⟩
theorem i_turn {x : V} {Z : VK} {Y : Hp → Prop} {σ1 : L2.St} (e : wipe σ vs = σ1) (h : g x σ1 H fun σ2 H2 => wipe σ2 vs = σ1 ∧ tt σ2 H2 fun b H3 => if b = true then te σ2 H3 Z else Y H3) : LcTurn g tt te vs σ x H Z Y := by
  subst e
  exact h
theorem i_wiped {A : Prop} {σ1 σ2 : L2.St} (e : wipe σ2 vs = σ1) (q : A) : wipe σ2 vs = σ1 ∧ A := ⟨e, q⟩
end
theorem ixN_nn {n : Nat} {i : Int} (h0 : 0 ≤ i) (h1 : i < n) : ixN n i = some i.toNat := by
  unfold ixN
  rw [if_pos h0, if_pos h1]
theorem ixN_last {n : Nat} (h : 0 < n) : ixN n (-1) = some (n - 1) := by
  unfold ixN
  rw [if_neg (by decide), if_pos (by omega)]
  congr 1
  omega
theorem i_ixLast {K : PySem.W.Frag} {H : Hp} {p : Addr} {ms : List Int} {Q : VK} (h : SqL K H p (ms.map V.int)) (h1 : 0 < ms.length) (q : ∀ z, ms[ms.length - 1]? = some z → Q (.int z) H) : rIxL K (.ref p) (.int (-1)) H Q := by
  have e : ms[ms.length - 1]? = some ms[ms.length - 1] := List.getElem?_eq_getElem (by omega)
  refine ⟨p, _, -1, .int ms[ms.length - 1], rfl, rfl, h, ?_, q _ e⟩
  unfold atI
  rw [List.length_map, ixN_last h1, Option.bind_some, List.getElem?_map, e]
  rfl
theorem cut_init {xs : List V} : cutV xs none (some (-1)) = xs.dropLast := by
  unfold cutV
  rw [HT.sIx_none, List.drop_zero, Nat.sub_zero]
  have e : HT.sIx xs.length xs.length (some (-1)) = xs.length - 1 := by
    unfold HT.sIx
    simp
    omega
  rw [e, List.dropLast_eq_take]
theorem i_slInitM {K : PySem.W.Frag} {H : Hp} {p : Addr} {ms : List Int} {Q : VK} (h : SqL K H p (ms.map V.int)) (q : ∀ p', H p' = none → Q (.ref p') (upd H p' (.lst (ms.dropLast.map V.int)))) : rSlL K (.ref p) none (some (-1)) H Q := ⟨p, _, rfl, h, by rw [cut_init, ← List.map_dropLast]; exact q⟩
theorem i_setLast {H : Hp} {p : Addr} {ms : List Int} {z : Int} {Z : Hp → Prop} (h : H p = some (.lst (ms.map V.int))) (h1 : 0 < ms.length) (q : Z (upd H p (.lst ((ms.set (ms.length - 1) z).map V.int)))) : rSetL (.ref p) (.int (-1)) (.int z) H Z :=
  ⟨p, _, -1, ms.length - 1, rfl, rfl, h, by rw [List.length_map]; exact ixN_last h1, by rw [← List.map_set]; exact q⟩
theorem i_catM1 {H : Hp} {p r : Addr} {ms : List Int} {y : Int} {Q : VK} (h1 : H p = some (.lst (ms.map V.int))) (h2 : H r = some (.lst [.int y])) (hz : ms.length + 1 ≤ 1000000) (q : ∀ p', H p' = none → Q (.ref p') (upd H p' (.lst ((ms ++ [y]).map V.int)))) : rCat (.ref p) (.ref r) H Q := i_catM (ns := [y]) h1 h2 hz q
theorem fil_last (b : Nat → Bool) : ∀ n, (List.range n).filter b = [] ∨ ∃ k, k < n ∧ b k = true ∧ (∀ j, k < j → j < n → b j = false) ∧ ((List.range n).filter b)[((List.range n).filter b).length - 1]? = some k
  | 0 => .inl rfl
  | n + 1 => by
    rw [List.range_succ, List.filter_append]
    cases e : b n with
    | true =>
      refine .inr ⟨n, by omega, e, fun j h1 h2 => by omega, ?_⟩
      have : List.filter b [n] = [n] := by simp [e]
      rw [this, List.length_append]
      simp
    | false =>
      have : List.filter b [n] = [] := by simp [e]
      rw [this, List.append_nil]
      rcases fil_last b n with h | ⟨k, h1, h2, h3, h4⟩
      · exact .inl h
      · refine .inr ⟨k, by omega, h2, fun j g1 g2 => ?_, h4⟩
        by_cases c : j = n
        · subst c; exact e
        · exact h3 j g1 (by omega)
theorem fil_none {b : Nat → Bool} {n : Nat} (h : (List.range n).filter b = []) {j : Nat} (hj : j < n) : b j = false := by
  have := List.filter_eq_nil_iff.mp h j (List.mem_range.mpr hj)
  simpa using this
theorem i_reverse {H : Hp} {p : Addr} {ms : List Int} {Q : VK} (h : H p = some (.lst (ms.map V.int))) (q : Q .non (upd H p (.lst (ms.reverse.map V.int)))) : rReverse (.ref p) [] H Q := ⟨p, _, rfl, rfl, h, by rw [← List.map_reverse]; exact q⟩
theorem i_ne00 {K : PySem.W.Frag} {H : Hp} {Q : VK} {p r : Addr} (h1 : SqL K H p []) (h2 : SqL K H r []) (q : Q (.bl false) H) : rNeD K (.ref p) (.ref r) H Q := i_neLI (ms := []) (ns := []) h1 h2 (by simpa using q)
theorem i_min2 {K : Prop} {R : Int → Int → Prop} {i j : Int} (q : R i j) : ∃ i' j', [V.int i, V.int j] = [.int i', .int j'] ∧ R i' j' := ⟨i, j, rfl, q⟩
theorem i_setM {H : Hp} {p : Addr} {ms : List Int} {i z : Int} {Z : Hp → Prop} (h : H p = some (.lst (ms.map V.int))) (h0 : 0 ≤ i) (h1 : i < ms.length) (q : Z (upd H p (.lst ((ms.set i.toNat z).map V.int)))) : rSetL (.ref p) (.int i) (.int z) H Z :=
  ⟨p, _, i, i.toNat, rfl, rfl, h, ixN_nn h0 (by rw [List.length_map]; exact h1), by rw [← List.map_set]; exact q⟩
/-! ### the rules that name the written part, K told -/
def rListOf (K : PySem.W.Frag) : List V → Hp → VK → Prop := fun xs H Q => ∃ p ys, xs = [V.ref p] ∧ (SqL K H p ys ∨ SqT K H p ys) ∧ ∀ l, H l = none → Q (.ref l) (upd H l (.lst ys))
def rTupleOf (K : PySem.W.Frag) : List V → Hp → VK → Prop := fun xs H Q => ∃ p ys, xs = [V.ref p] ∧ ((SqL K H p ys ∧ ∀ l, H l = none → Q (.ref l) (upd H l (.tup ys))) ∨ (SqT K H p ys ∧ Q (.ref p) H))
section
variable {X : Cx} (K : PySem.W.Frag) (e : X.K = K)
include e
theorem sl_listK : SlR X (rSlL K) := by subst e; exact sl_list
theorem sl_tupK : SlR X (rSlA K) := by subst e; exact sl_tupA
theorem ix_listK : IxR X (rIxL K) := by subst e; exact ix_list
theorem ix_tupK : IxR X (rIxT K) := by subst e; exact ix_tup
theorem ix_seqK : IxR X (rIx K) := by subst e; exact ix_seq
theorem call_lenK : CallR X (.builtin "len") (rLenA K) := by subst e; exact call_lenA
theorem cr_sumK (hc : X.calm = true) : CallR X (.builtin "sum") (rSum K) := by subst e; exact cr_sum hc
theorem cr_minK (hc : X.calm = true) : CallR X (.builtin "min") (rMin K) := by subst e; exact cr_min hc
theorem cr_maxK (hc : X.calm = true) : CallR X (.builtin "max") (rMax K) := by subst e; exact cr_max hc
theorem cr_anyK (hc : X.calm = true) : CallR X (.builtin "any") (rAny K) := by subst e; exact cr_any hc
theorem cr_allK (hc : X.calm = true) : CallR X (.builtin "all") (rAll K) := by subst e; exact cr_all hc
theorem call_isiK' : CallR X (.builtin "isinstance") (rIsi K) := by subst e; exact call_isi
theorem call_listK : CallR X (.type "list") (rListOf K) := by subst e; exact call_list_of
theorem call_tupleK : CallR X (.type "tuple") (rTupleOf K) := by subst e; exact call_tuple_of
theorem op_eqDK (hu : X.A.units + 64 < cLine) : OpR X (compareOp .Eq) (rEqD K) := by subst e; exact op_eqD hu
theorem op_neDK (hu : X.A.units + 64 < cLine) : OpR X (compareOp .NotEq) (rNeD K) := by subst e; exact op_neD hu
theorem op_ltTK (hu : X.A.units < cLine) : OpR X (compareOp .Lt) (rLtT K) := by subst e; exact op_ltT hu
theorem op_catTK : OpR X (binaryOp .Add) (rCatT K) := by subst e; exact op_catT
theorem op_inK : OpR X (compareOp .In) (rIn K false) := by subst e; exact op_in_seq
theorem op_notInK : OpR X (compareOp .NotIn) (rIn K true) := by subst e; exact op_notIn_seq
theorem pi_listK {tg l : Expr} {tl : TE} (hl : PE X l tl) : PI X tg l (iList K tl) := by subst e; exact pi_list hl
theorem pi_tupK {tg l : Expr} {tl : TE} (hl : PE X l tl) : PI X tg l (iTup K tl) := by subst e; exact pi_tup hl
theorem pg_tupK {es : List Expr} {k : Nat} {t : TGs} {pos : Pos} (n : Nat) (hc : X.calm = true) (h : PGs X es t) (hn : (assignEach es X.env).length = n := by rfl) (hst : (assignEach es X.env).findIdx? (·.1) = none := by rfl) : PG X (.Tuple es k pos) (gTup K n t) := by subst e; exact pg_tup hc h hn hst
theorem pg_lstK {es : List Expr} {k : Nat} {t : TGs} {pos : Pos} (n : Nat) (hc : X.calm = true) (h : PGs X es t) (hn : (assignEach es X.env).length = n := by rfl) (hst : (assignEach es X.env).findIdx? (·.1) = none := by rfl) : PG X (.Tuple es k pos) (gLst K n t) := by subst e; exact pg_lst hc h hn hst
end
section
variable {H : Hp} {Q : VK} {K : PySem.W.Frag} {p : Addr} {xs : List V}
theorem i_listOf (h : SqL K H p xs) (q : ∀ l, H l = none → Q (.ref l) (upd H l (.lst xs))) : rListOf K [.ref p] H Q := ⟨p, xs, rfl, .inl h, q⟩
theorem i_listOfT (h : SqT K H p xs) (q : ∀ l, H l = none → Q (.ref l) (upd H l (.lst xs))) : rListOf K [.ref p] H Q := ⟨p, xs, rfl, .inr h, q⟩
end
theorem wipe_one {σ σ1 : L2.St} {k : Nat} (e : List.set σ k none = σ1) : wipe σ [k] = σ1 := e
theorem wipe_two {σ σ1 σ2 : L2.St} {j k : Nat} (e : List.set σ k none = σ1) (e2 : List.set σ1 j none = σ2) : wipe σ [j, k] = σ2 := by
  show List.set (List.set σ k none) j none = σ2
  rw [e, e2]
theorem wipe_three {σ σ1 σ2 σ3 : L2.St} {i j k : Nat} (e : List.set σ k none = σ1) (e2 : List.set σ1 j none = σ2) (e3 : List.set σ2 i none = σ3) : wipe σ [i, j, k] = σ3 := by
  show List.set (List.set (List.set σ k none) j none) i none = σ3
  rw [e, e2, e3]
/-- the heap is let go of but for what stood at first -/
theorem forget {P : Hp → Prop} {H H1 : Hp} (s : Same H H1) (h : ∀ H', Same H H' → P H') : P H1 := h H1 s
/-- the scope of a comprehension in a comprehension -/
def relS (scope sc : Scope) : Scope := { scope with names := scope.names.map fun (n, k) => if (k == .free && sc.kind == .function && sc.names.lookup n == some .cell) then (n, .cell) else (n, k) }
end Hf
/-! ## exceptions: caught, noted and asked behind the suite -/
namespace Hf
open PySem PySem.Spec PyProof.Rows L2
/-- at a: a caught exception of the class cls, its dict d -/
def exHO (a : Addr) (cls : Value) (d : Option Addr) : HO := .ext fun h => ∃ oe vs, h.get? a = some oe ∧ Zc cls d oe ∧ oe.data = .fields vs
theorem exHO_ok {P : Program} {w : World} {H : Hp} {h : Heap} {a : Addr} {cls : Value} {d : Option Addr} {oe : Obj} {vs : Array Value} (e : h.get? a = some oe) (hz : Zc cls d oe) (hd : oe.data = .fields vs) : ObjOk P w H h a (exHO a cls d) :=
  ⟨⟨oe, vs, e, hz, hd⟩, ⟨oe, e⟩, fun _ _ ⟨o, v, x, y, z⟩ k => ⟨o, v, k _ x, y, z⟩⟩
theorem exHO_at {P : Program} {w : World} {H : Hp} {h : Heap} {a : Addr} {cls : Value} {d : Option Addr} (ok : HOk P w H h) (e : H a = some (exHO a cls d)) : ∃ oe vs, h.get? a = some oe ∧ Zc cls d oe ∧ oe.data = .fields vs := by
  have x : ObjOk P w H h a (.ext fun h => ∃ oe vs, h.get? a = some oe ∧ Zc cls d oe ∧ oe.data = .fields vs) := ok a _ e
  exact x.1
/-- a pinned object of ours is taken up -/
theorem track {X : Cx} {pins : List (Addr × Obj)} {σ : L2.St} {H : Hp} {s : Shared} {a : Addr} {oe : Obj} {cls : Value} {d : Option Addr} {vs : Array Value} (I : Inv X ((a, oe) :: pins) σ H s) (hz : Zc cls d oe) (hd : oe.data = .fields vs)
    (n0 : X.s_0.heap.get? a = none) (np : ∀ p ∈ X.pn ++ pins, p.1 ≠ a) : Inv X pins σ (L2.upd H a (exHO a cls d)) s := by
  obtain ⟨ga, na, nL, nF, nc⟩ := I.pin (a, oe) (List.mem_append_right _ List.mem_cons_self)
  dsimp only at ga na nL nF nc
  have ncell : ∀ x c, X.env.cells.lookup x = some c → c ≠ a := fun x c e z => by
    obtain ⟨v, o, ho, hdc⟩ := I.cell x c e
    rw [z, ga] at ho
    cases ho
    exact nc _ hdc
  refine ⟨I.ok, I.os, I.bare, ⟨I.base.keep, I.base.slot, fun b o e n hx => ?_, I.base.there, fun b xs e => ?_, fun b o u e => ?_, fun b ps e => ?_⟩, I.loc, I.cell, ?_, fun x c e => ?_, fun p hp => ?_, fun b o e => ?_, I.len⟩
  · rw [upd_ne (fun z => by rw [z, n0] at e; cases e)]
    exact I.base.free b o e n hx
  · have q := I.base.tups b xs e
    rw [upd_ne (ne_of_none q na)]
    exact q
  · have q := I.base.frzs b o u e
    rw [upd_ne (ne_of_none q na)]
    exact q
  · obtain ⟨m, q⟩ := I.base.tbls b ps e
    exact ⟨m, by rw [upd_ne (ne_of_none q na)]; exact q⟩
  · rw [upd_ne (Ne.symm nL)]
    exact I.free
  · rw [upd_ne (ncell x c e)]
    exact I.freeC x c e
  · obtain ⟨e, n, r⟩ := I.pin p (by
      rcases List.mem_append.mp hp with h | h
      · exact List.mem_append_left _ h
      · exact List.mem_append_right _ (List.mem_cons_of_mem _ h))
    exact ⟨e, by rw [upd_ne (np p hp)]; exact n, r⟩
  · by_cases hb : b = a
    · subst hb
      rw [upd_same] at e
      cases e
      exact exHO_ok ga hz hd
    · rw [upd_ne hb] at e
      refine (I.hok b o e).stay (fun c u _ q => q) (fun c q => ?_) fun c xs q => ?_
      · rw [upd_ne (ne_of_none q na)]
        exact q
      · rw [upd_ne (ne_of_none q na)]
        exact q
/-- what follows the suite -/
def nxAs (i : Nat) (a : Addr) (cls : Value) (d : Option Addr) (nx : L2.St → Hp → Prop) : L2.St → Hp → Prop := fun σ' H' => nx (σ'.set i none) (L2.upd H' a (exHO a cls d))
def rtAs (a : Addr) (cls : Value) (d : Option Addr) (rt : VK) : VK := fun v H' => rt v (L2.upd H' a (exHO a cls d))
/-- what the clause 'except x as n' wishes of an exception of the body -/
def wAsT (K : PySem.W.Frag) (c : Value) (i : Nat) (ts : TS) (Wout : WX) (D : Ends) : WX := fun cls d σ H =>
  ∃ b, PySem.W.exmOne K cls c = some b ∧ (b = true → ∀ a, H a = none → ts { nx := nxAs i a cls d D.nx, rt := rtAs a cls d D.rt, bk := nxAs i a cls d D.bk, ct := nxAs i a cls d D.ct } (σ.set i (some (.ref a))) H) ∧
    (b = false → Wout cls d σ H)
def tTryAs (K : PySem.W.Frag) (c : Value) (i : Nat) (ts : TS) (Wout : WX) (tb : WX → TS) : TS := fun D σ H => tb (wAsT K c i ts Wout D) D σ H
section
variable {X : Cx} {x n : Str} {c : Value} {i : Nat} {body suite : List Stmt} {b₀ : Stmt} {np pos pos' : Pos} {tb : WX → TS} {ts : TS} {Wout : WX}
theorem ps_try_asT (hs : X.stack = X.env :: X.outer) (hf : X.env.frame = some X.env.locals) (hex : X.ex = []) (hN : X.N.Nodup) (hi : X.N[i]? = some n) (hln : X.env.kindOf n = some .local) (hc : Names X x c) (tk : Takes X Wout)
    (hb : ∀ (W : WX) (pn : List (Addr × Obj)) (xe : Value → Shared → Prop), Takes (X.tr pn xe) W → PassesOwn (model X.prog X.w) X.A X.env xe → PSs (X.tr pn xe) body (tb W))
    (hsu : ∀ (a : Addr) (oe : Obj) (pn : List (Addr × Obj)), PSs (X.suite a ((a, oe) :: pn)) (b₀ :: suite) ts) :
    PS X (.Try body [.ExceptHandler (some (.Name x np)) (some n) (b₀ :: suite) pos'] [] [] pos) (tTryAs X.K c i ts Wout tb) := by
  refine ⟨fun pins s σ H D I h => ?_⟩
  have ok := I.ok
  have hfr : X.A.frames = some (X.env :: X.outer) := by rw [ok.frames, hs]
  have hloc : Loc X.env.scope n := .inl hln
  refine wpAny_Try_except ?_
  refine wpAny_mono ((hb (wAsT X.K c i ts Wout D) (X.pn ++ pins) (fun e s₁ => wpAny (model X.prog X.w) X.A (noteFrame e X.env) (fun _ s₂ => wpAny (model X.prog X.w) X.A (setFlight e none) (fun _ s₃ =>
    wpAny (model X.prog X.w) X.A (handleBy e X.env [.ExceptHandler (some (.Name x np)) (some n) (b₀ :: suite) pos']) (SP X pins D) X.xe s₃) X.xe s₂) X.xe s₁) (fun u s' xx => ?_) PassesOwn.looking).run [] s σ H D (I.toTry _) h) (fun f s1 hsp => ?_) (fun e s1 he => he)
  · obtain ⟨a, B, sI, pins', σ', H', cls, d, rfl, J', nb, up, sky, na, os, ag, b, hb1, hyes, hno⟩ := xx
    have J : Inv X pins σ' H' sI := J'.ofTry ok
    have sky' : Sky B (X.env :: X.outer) a (Zc cls d) X.env.locals s'.heap := by rw [← hs]; exact sky
    show wpAny (model X.prog X.w) X.A (noteFrame (.ref a) X.env) _ _ _
    refine Sky.land Zc.steady hfr hf sky' fun h3 fl3 up3 => ?_
    have J3 : Inv X pins σ' H' { s' with heap := h3 } := J.landed nb fl3.1 (up.trans up3) os ag
    obtain ⟨oe3, vs3, he3, hz3, hd3⟩ := fl3.there
    have notFr : ∀ {h : Heap} {o : Obj} {vs : Array Value}, h.FunFrames B (X.env :: X.outer) → h.get? a = some o → o.data = .fields vs → a ∉ frs (X.env :: X.outer) := fun {h o vs} ff e dd hm => by
      obtain ⟨_, o', e', hnf⟩ := ff.mem hm
      rw [e] at e'; cases e'
      exact hnf _ dd
    have nfr := notFr fl3.2.2.1 he3 hd3
    have nL : a ≠ X.env.locals := fun z => nfr (List.mem_filterMap.mpr ⟨X.env, List.mem_cons_self, by rw [hf, z]⟩)
    have nF : a ∉ X.fs := fun hm => by
      obtain ⟨e, he, q⟩ := List.mem_filterMap.mp hm
      exact nfr (List.mem_filterMap.mpr ⟨e, List.mem_cons_of_mem _ he, q⟩)
    have nI : sI.heap.get? a = none := by
      cases q : sI.heap.get? a with
      | none => rfl
      | some o =>
        have z := nb a o q (by rw [hs]; exact nfr)
        rw [fl3.2.1] at z
        cases z
    have n0 : X.s_0.heap.get? a = none := by
      cases q : X.s_0.heap.get? a with
      | none => rfl
      | some o =>
        obtain ⟨o', z⟩ := J.base.there a o q (by rw [hex]; exact List.not_mem_nil)
        rw [nI] at z
        cases z
    have npin : ∀ p ∈ X.pn ++ pins, p.1 ≠ a := fun p hp z => by
      have q := (J.pin p hp).1
      rw [z, nI] at q
      cases q
    have S3 := J3.suite he3 hd3 na nL nF
    refine wpAny_handleBy_cons (codeAny_handlers_test ?_) (by intro q; cases q)
    have LT : PySem.W.Looks (model X.prog X.w) h3 (typeOf (.ref a)) cls := fun A Q E s k q => wpAny_typeOf_ref (k _ _ he3) (by rw [hz3.1]; exact q)
    have LM := PySem.W.exm_one (M := model X.prog X.w) (J3.kIn) LT hb1
    have test : ∀ {Q : Value → Shared → Prop} {E : Value → Shared → Prop}, Q c { s' with heap := h3 } → wpAny (model X.prog X.w) (X.A.mark (some (.ref a))) (eval (.Name x np) X.env) Q E { s' with heap := h3 } := fun {Q E} q => by
      obtain ⟨hg, hdbg, hm | ⟨hm, hv, hnn⟩⟩ := hc
      · exact ld_glob (X := X.suite a ((a, oe3) :: (X.pn ++ pins))) S3 hg hm q hdbg
      · exact ld_blt (X := X.suite a ((a, oe3) :: (X.pn ++ pins))) S3 hg hm hv q hnn hdbg
    refine test (LM.here ?_)
    cases b with
    | true =>
      refine codeAny_handlers_suite_as ?_
      refine HandSPX.lands_againZ fl3 fun h4 fl4 up4 => ?_
      have J4 : Inv X pins σ' H' { s' with heap := h4 } := J.landed nb fl4.1 ((up.trans up3).trans up4) os ag
      obtain ⟨oe4, vs4, he4, hz4, hd4⟩ := fl4.there
      have S4 := J4.suite he4 hd4 na nL nF
      refine store_ok (X := X.suite a ((a, oe4) :: (X.pn ++ pins))) (v := .ref a) S4 hN hi hloc rfl (fun s5 S5 => ?_) (.inr hln)
      refine wpAny_mono ((hsu a oe4 (X.pn ++ pins)).run [] s5 _ H' _ S5 (hyes rfl a na)) (fun f s6 hsp => ?_) (fun _ _ z => False.elim z)
      have end_ : ∀ {σ6 : L2.St} {H6 : Hp} {Q : Shared → Prop}, Inv (X.suite a ((a, oe4) :: (X.pn ++ pins))) [] σ6 H6 s6 → (∀ s7, Inv X pins (σ6.set i none) (L2.upd H6 a (exHO a cls d)) s7 → Q s7) →
          wpAny (model X.prog X.w) X.A (do bindName X.env n .none; unbindBehindTheSuite X.env n pos') (fun _ s7 => Q s7) X.xe s6 := fun {σ6 H6 Q} S6 hq => by
        have S7 : Inv X ((a, oe4) :: pins) σ6 H6 s6 := ⟨ok, S6.os, S6.bare, S6.base, S6.loc, S6.cell, S6.free, S6.freeC, fun p hp => S6.pin p (by
          show p ∈ (a, oe4) :: (X.pn ++ pins) ++ []
          rw [List.append_nil]
          rcases List.mem_append.mp hp with h | h
          · exact List.mem_cons_of_mem _ (List.mem_append_left _ h)
          · rcases List.mem_cons.mp h with h | h
            · rw [h]
              exact List.mem_cons_self
            · exact List.mem_cons_of_mem _ (List.mem_append_right _ h)), S6.hok, S6.len⟩
        exact gone_ok S7 hN hi hln fun s7 J7 => hq s7 (track J7 hz4 hd4 n0 npin)
      cases f with
      | next =>
        obtain ⟨σ6, H6, S6, q6⟩ := hsp
        exact end_ S6 fun s7 J7 => ⟨_, _, J7, q6⟩
      | brk =>
        obtain ⟨σ6, H6, S6, q6⟩ := hsp
        exact end_ S6 fun s7 J7 => ⟨_, _, J7, q6⟩
      | cont =>
        obtain ⟨σ6, H6, S6, q6⟩ := hsp
        exact end_ S6 fun s7 J7 => ⟨_, _, J7, q6⟩
      | ret u =>
        obtain ⟨v6, σ6, H6, S6, r6, q6⟩ := hsp
        exact end_ S6 fun s7 J7 => ⟨_, _, _, J7, r6, q6⟩
    | false =>
      show wpAny _ X.A (handleBy (.ref a) X.env []) _ _ _
      refine wpAny_handleBy_nil ?_
      obtain ⟨k1, k2, k3, oe, vs, T, oT, ts', he, hz, hd, h1, hr⟩ := id fl3
      unfold PySem.passOn
      refine wpAny_bind (wpAny_field he hd h1 ?_)
      rw [if_neg (show ¬ ((Value.ref T == Value.none) = true) from by simp)]
      have fin : wpAny (model X.prog X.w) X.A (setFlight (.ref a) X.env.frame) (fun _ s4 => wpAny (model X.prog X.w) X.A (throw (.ref a) : Sem Flow) (SP X pins D) X.xe s4) X.xe { s' with heap := h3 } := by
        rw [hf]
        refine HandSPX.setFlight_upZ fl3 fun h4 hh4 up4 => wpAny_throw (tk _ _ ?_)
        exact ⟨a, B, sI, pins, σ', H', cls, d, rfl, J, nb, (up.trans up3).trans up4, .inr (.inr (by rw [hs]; exact hh4)), na, os, ag, hno rfl⟩
      first
        | exact wpAny_bind (wpAny_pure (wpAny_bind fin))
        | exact wpAny_bind fin
  · cases f with
    | next =>
      obtain ⟨σ', H', J', q⟩ := hsp
      exact wpAny_execs_nil ⟨σ', H', J'.ofTry ok, q⟩
    | brk =>
      obtain ⟨σ', H', J', q⟩ := hsp
      exact ⟨σ', H', J'.ofTry ok, q⟩
    | cont =>
      obtain ⟨σ', H', J', q⟩ := hsp
      exact ⟨σ', H', J'.ofTry ok, q⟩
    | ret u =>
      obtain ⟨v, σ', H', J', r, q⟩ := hsp
      exact ⟨v, σ', H', J'.ofTry ok, r, q⟩
end
/-! ### isinstance -/
/-- isinstance(x, c): x a tracked exception, or any other thing -/
def rIsX (K : PySem.W.Frag) : List V → Hp → VK → Prop := fun xs H Q =>
  (∃ (a D : Addr) (d : Option Addr) (c : V) (cv : Value) (b : Bool), xs = [.ref a, c] ∧ H a = some (exHO a (.ref D) d) ∧ (∀ dd, d = some dd → ∃ fs, H dd = some (.xd fs)) ∧ ExcC K D ∧ (∀ u, RelV c u → u = cv) ∧ PySem.W.kitOne K (.ref D) cv = some b ∧ Q (.bl b) H) ∨ rIsi K xs H Q
theorem call_isX {X : Cx} : CallR X (.builtin "isinstance") (rIsX X.K) := by
  intro pins s σ H xs us Q I r h
  rcases h with ⟨a, D, d, c, cv, b, rfl, ha, hdd, C, hcv, e, q⟩ | h
  · cases r with
    | cons rx rr =>
      cases rr with
      | cons rt rr =>
        cases rr
        cases rx
        have ec := hcv _ rt
        subst ec
        obtain ⟨oe, vs, hget, hz, hv⟩ := exHO_at I.hok ha
        obtain ⟨od, J⟩ : ∃ od, PySem.W.InstAt s.heap a oe D od := by
          cases d with
          | none =>
            obtain ⟨oc, od, oda, osl⟩ := oe
            obtain ⟨h1, h2⟩ := hz
            dsimp only at h1 h2 hv
            subst h1 h2 hv
            exact ⟨none, hget, rfl, rfl, trivial⟩
          | some dd =>
            obtain ⟨fs, hfs⟩ := hdd dd rfl
            have x : ObjOk X.prog X.w H s.heap dd (.xd fs) := I.hok dd _ hfs
            obtain ⟨mA, ⟨o, es, ep, ho, _⟩, _⟩ := x
            obtain ⟨oc, od, oda, osl⟩ := oe
            obtain ⟨h1, h2⟩ := hz
            dsimp only at h1 h2 hv
            subst h1 h2 hv
            exact ⟨some o, hget, rfl, rfl, ho⟩
        have hcl : (PySem.W.clsIn X.K D).isSome = true := by
          obtain ⟨cd, hc, _⟩ := PySem.W.any_some C.hd
          rw [hc]
          rfl
        exact PySem.W.kia_one (PySem.W.kitx_exc hcl C.hg C.hk C.hs C.ha C.hn C.ht C.hm) I.kIn J e (fun z => nomatch z) fun tk => ⟨.bl b, H, I.kept (t' := tk) fun _ _ z => z, rfl, q⟩
  · exact call_isi pins s σ H xs us Q I r h
theorem call_isXK {X : Cx} (K : PySem.W.Frag) (e : X.K = K) : CallR X (.builtin "isinstance") (rIsX K) := by subst e; exact call_isX
section
variable {σ σ' : L2.St} {H : Hp} {Q : VK} {nx bk ct : L2.St → Hp → Prop} {rt : VK} {K : PySem.W.Frag} {a D C : Addr} {d : Option Addr} {cls c : Value} {b : Bool} {i : Nat}
theorem i_isXR (h : H a = some (exHO a (.ref D) none)) (e : ExcC K D) (k : PySem.W.kitOne K (.ref D) (.ref C) = some b) (q : Q (.bl b) H) : rIsX K [.ref a, .ref C] H Q :=
  .inl ⟨a, D, none, .ref C, .ref C, b, rfl, h, fun _ z => (nomatch z), e, fun _ z => z, k, q⟩
theorem i_isXT {T : String} (h : H a = some (exHO a (.ref D) none)) (e : ExcC K D) (k : PySem.W.kitOne K (.ref D) (.type T) = some b) (q : Q (.bl b) H) : rIsX K [.ref a, .ty T] H Q :=
  .inl ⟨a, D, none, .ty T, .type T, b, rfl, h, fun _ z => (nomatch z), e, fun _ z => z, k, q⟩
theorem i_isXRd {dd : Addr} {fs : List (Str × V)} (h : H a = some (exHO a (.ref D) (some dd))) (hd : H dd = some (.xd fs)) (e : ExcC K D) (k : PySem.W.kitOne K (.ref D) (.ref C) = some b) (q : Q (.bl b) H) : rIsX K [.ref a, .ref C] H Q :=
  .inl ⟨a, D, some dd, .ref C, .ref C, b, rfl, h, fun x z => by cases z; exact ⟨fs, hd⟩, e, fun _ z => z, k, q⟩
theorem i_isXTd {T : String} {dd : Addr} {fs : List (Str × V)} (h : H a = some (exHO a (.ref D) (some dd))) (hd : H dd = some (.xd fs)) (e : ExcC K D) (k : PySem.W.kitOne K (.ref D) (.type T) = some b) (q : Q (.bl b) H) : rIsX K [.ref a, .ty T] H Q :=
  .inl ⟨a, D, some dd, .ty T, .type T, b, rfl, h, fun x z => by cases z; exact ⟨fs, hd⟩, e, fun _ z => z, k, q⟩
theorem i_isXi {t : String} {x : V} {c : String} (ty : TyX K H x (.type t)) (h : kitB t c = some b) (q : Q (.bl b) H) : rIsX K [x, .ty c] H Q := .inr ⟨x, .ty c, .type t, .type c, b, rfl, .ty c, ty, kit_ty h, q⟩
theorem i_isXo {t : String} {x : V} (ty : TyX K H x (.type t)) (h : PySem.W.kitOne K (.type t) (.ref C) = some b) (q : Q (.bl b) H) : rIsX K [x, .ref C] H Q := .inr ⟨x, .ref C, .type t, .ref C, b, rfl, .own C, ty, h, q⟩
/-! ### the steps -/
theorem i_callS {sp : Sp} {E : L2.St → XK} {t : TA} (h : t σ H fun vs H1 => sp vs H1 Q (E σ)) : tCallS sp E t σ H Q := h
theorem i_try {ts : TS} {Wout : WX} {tb : WX → TS} (h : tb (wAsT K c i ts Wout ⟨nx, rt, bk, ct⟩) ⟨nx, rt, bk, ct⟩ σ H) : tTryAs K c i ts Wout tb ⟨nx, rt, bk, ct⟩ σ H := h
theorem i_caught {τ : Addr → L2.St} {ts : TS} {Wout : WX} (e : PySem.W.exmOne K cls c = some true) (s : ∀ a, List.set σ i (some (V.ref a)) = τ a) (h : ∀ a, H a = none → ts ⟨nxAs i a cls d nx, rtAs a cls d rt, nxAs i a cls d bk, nxAs i a cls d ct⟩ (τ a) H) : wAsT K c i ts Wout ⟨nx, rt, bk, ct⟩ cls d σ H :=
  ⟨true, e, fun _ a na => by
    show ts _ (List.set σ i (some (V.ref a))) H
    rw [s a]
    exact h a na, fun z => nomatch z⟩
theorem i_nxAs (s : List.set σ i none = σ') (q : nx σ' (L2.upd H a (exHO a cls d))) : nxAs i a cls d nx σ H := by
  subst s
  exact q
theorem i_rtAs {v : V} (q : rt v (L2.upd H a (exHO a cls d))) : rtAs a cls d rt v H := q
theorem i_isnR (q : Q (.bl false) H) : V.non = V.non ∧ Q (.bl (decide (V.ref a = V.non))) H := ⟨rfl, by
  rw [decide_eq_false (fun z => by cases z)]
  exact q⟩
theorem i_isnN (q : Q (.bl true) H) : V.non = V.non ∧ Q (.bl (decide (V.non = V.non))) H := ⟨rfl, by
  rw [decide_eq_true rfl]
  exact q⟩
end
/-! ### what is known of the classes -/
structure ClsT (K : PySem.W.Frag) (C : Addr) : Prop where
  ic : PySem.W.isClsIn K C = true
  ty : PySem.W.typeIn K (.ref C) = some (.type "type")
section
variable {K : PySem.W.Frag} {C D : Addr} {b : Bool}
theorem kit_clsT (c : ClsT K C) {t : Value} (h : PySem.W.subIn K t (.ref C) = some b) : PySem.W.kitCls K t (.ref C) = some b := by
  have h2 : (PySem.W.clsIn K C).isSome = true := c.ic
  show (if ((PySem.W.clsIn K C).isSome && PySem.W.typeIn K (.ref C) == some (.type "type")) = true then PySem.W.subIn K t (.ref C) else none) = some b
  rw [if_pos (by rw [h2, c.ty]; rfl)]
  exact h
theorem kit_t (c : ClsT K C) (h : PySem.W.subIn K (.ref D) (.ref C) = some true) : PySem.W.kitOne K (.ref D) (.ref C) = some true := by
  unfold PySem.W.kitOne
  split
  · rfl
  · exact kit_clsT c h
theorem kit_f (c : ClsT K C) (hs : PySem.W.subIn K (.ref D) (.ref D) = some true) (h : PySem.W.subIn K (.ref D) (.ref C) = some false) : PySem.W.kitOne K (.ref D) (.ref C) = some false := by
  unfold PySem.W.kitOne
  split
  · rename_i z
    have e : D = C := Value.ref.inj (beq_iff_eq.mp z)
    subst e
    rw [hs] at h
    cases h
  · exact kit_clsT c h
theorem kit_o (c : ClsT K C) {t : String} (h : PySem.W.subIn K (.type t) (.ref C) = some b) : PySem.W.kitOne K (.type t) (.ref C) = some b := by
  unfold PySem.W.kitOne
  rw [if_neg (by rw [beq_iff_eq]; exact fun z => nomatch z)]
  exact kit_clsT c h
theorem kit_v {T : String} (h : PySem.W.subIn K (.ref D) (.type T) = some b) (hm : PySem.W.kitMeta T = true) : PySem.W.kitOne K (.ref D) (.type T) = some b := by
  unfold PySem.W.kitOne
  rw [if_neg (by rw [beq_iff_eq]; exact fun z => nomatch z)]
  show (if PySem.W.kitMeta T = true then PySem.W.subIn K (.ref D) (.type T) else none) = some b
  rw [if_pos hm]
  exact h
theorem exm_t (c : ClsT K C) (hb : PySem.W.subIn K (.ref C) (.type "BaseException") = some true) (h : PySem.W.subIn K (.ref D) (.ref C) = some b) : PySem.W.exmOne K (.ref D) (.ref C) = some b := by
  show (if (PySem.W.subIn K (.ref C) (.type "BaseException") == some true) = true then PySem.W.kitCls K (.ref D) (.ref C) else none) = some b
  rw [if_pos (by rw [hb]; rfl)]
  exact kit_clsT c h
end
/-! ### counts of flat things -/
def rCntV (K : PySem.W.Frag) : V → List V → Hp → VK → Prop := fun x xs H Q => ∃ (p : Addr) (ys : List V) (y : V), x = .ref p ∧ xs = [y] ∧ SqL K H p ys ∧ flatV y = true ∧ ys.all flatV = true ∧ Q (.int (ys.countP fun z => eqV z y : Nat)) H
theorem cnt_flat {u : Value} {y : V} (ry : RelV y u) (fy : flatV y = true) : ∀ {ys : List V} {us : List Value}, Vals ys us → ys.all flatV = true → us.countP (eqU y) = ys.countP fun z => eqV z y
  | [], [], .nil, _ => rfl
  | z :: r, _ :: _, .cons rz t, f => by
    have f1 : flatV z = true := (List.all_eq_true.mp f) z List.mem_cons_self
    have f2 : r.all flatV = true := List.all_eq_true.mpr fun q hq => (List.all_eq_true.mp f) q (List.mem_cons_of_mem _ hq)
    rw [List.countP_cons, List.countP_cons, cnt_flat ry fy t f2, eqU_of rz f1]
theorem mt_lcountV {X : Cx} : MtR X "list.count" (rCntV X.K) := by
  intro pins s σ H x xs v us Q I rx rxs h
  obtain ⟨p, ys, y, rfl, rfl, hs, fy, fys, q⟩ := h
  cases rx
  obtain ⟨u, rfl, ru⟩ := rxs.one
  obtain ⟨its, rv, ⟨⟨cls, dd, data, sl⟩, n, ho, hc, hdn, hd⟩, hlen⟩ := I.list hs
  simp only at hc hd
  subst hc hd
  refine call_meets PySem.F.slot_list_count ⟨_, ho, rfl⟩ PySem.F.entry_list_count (PySem.F.args_list_count_2 _ _)
    (SeqAt.list_countAt p its.toArray n dd sl u (eqU y)) ⟨ho, fun u' hu' => mem_eqAt ru fy rv fys u' (by simpa using hu'), ?_⟩
  have ec : its.toArray.toList.countP (eqU y) = ys.countP fun z => eqV z y := cnt_flat ru fy rv fys
  refine ⟨.int _, H, I.tok _, ⟨s.toks, ?_⟩, q⟩
  show Value.int ((its.toArray.toList.countP (eqU y) : Nat) : Int) s.toks = Value.int _ s.toks
  rw [ec]
theorem mt_lcountVK {X : Cx} (K : PySem.W.Frag) (e : X.K = K) : MtR X "list.count" (rCntV K) := by subst e; exact mt_lcountV
theorem mt_indexK {X : Cx} (K : PySem.W.Frag) (e : X.K = K) : MtR X "list.index" (rIndex K) := by subst e; exact mt_index
theorem i_cntV {K : PySem.W.Frag} {H : Hp} {Q : VK} {p : Addr} {ys : List V} {y : V} {n : Nat} (h : SqL K H p ys) (f : flatV y = true) (g : ys.all flatV = true) (e : (ys.countP fun z => eqV z y) = n) (q : Q (.int (n : Nat)) H) : rCntV K (.ref p) [y] H Q :=
  ⟨p, ys, y, rfl, rfl, h, f, g, by rw [e]; exact q⟩
/-- the first place at which y stands -/
def firstAt (y : V) : List V → Nat → Option Nat
  | [], _ => none
  | z :: r, k => if eqV z y = true then some k else firstAt y r (k + 1)
theorem firstAt_is {y : V} : ∀ {ys : List V} {k j : Nat}, firstAt y ys k = some j → k ≤ j ∧ (∃ z, ys[j - k]? = some z ∧ eqV z y = true) ∧ ∀ (m : Nat) (z' : V), m < j - k → ys[m]? = some z' → eqV z' y = false
  | [], _, _, h => nomatch h
  | z :: r, k, j, h => by
    unfold firstAt at h
    split at h
    · rename_i c
      cases h
      rw [Nat.sub_self]
      exact ⟨Nat.le_refl _, ⟨z, rfl, c⟩, fun m z' hm => absurd hm (Nat.not_lt_zero _)⟩
    · rename_i c
      obtain ⟨h1, ⟨w, h2, h3⟩, h4⟩ := firstAt_is h
      refine ⟨by omega, ⟨w, ?_, h3⟩, fun m z' hm hz => ?_⟩
      · rw [show j - k = (j - (k + 1)) + 1 by omega, List.getElem?_cons_succ]
        exact h2
      · cases m with
        | zero =>
          rw [List.getElem?_cons_zero] at hz
          cases hz
          exact Bool.eq_false_iff.mpr c
        | succ m =>
          rw [List.getElem?_cons_succ] at hz
          exact h4 m z' (by omega) hz
theorem i_index {K : PySem.W.Frag} {H : Hp} {Q : VK} {p : Addr} {ys : List V} {y : V} {j : Nat} (h : SqL K H p ys) (f : flatV y = true) (g : ys.all flatV = true) (e : firstAt y ys 0 = some j) (q : Q (.int (j : Nat)) H) : rIndex K (.ref p) [y] H Q := by
  obtain ⟨_, ⟨z, h2, h3⟩, h4⟩ := firstAt_is e
  exact ⟨p, ys, y, j, z, rfl, rfl, h, f, g, h2, h3, h4, q⟩
/-! ### comprehensions over zip, kept where the second says so -/
def pickB : List V → List Bool → List V
  | x :: xs, c :: bs => if c = true then x :: pickB xs bs else pickB xs bs
  | _, _ => []
theorem pickB_more : ∀ {xs : List V} {bs : List Bool} {i : Nat} {x : V} {c : Bool}, xs[i]? = some x → bs[i]? = some c → pickB (xs.take (i + 1)) (bs.take (i + 1)) = pickB (xs.take i) (bs.take i) ++ (if c = true then [x] else [])
  | [], _, _, _, _, h, _ => by simp at h
  | _ :: _, [], _, _, _, _, h => by simp at h
  | y :: xs, d :: bs, 0, x, c, h1, h2 => by
    simp at h1 h2
    subst h1 h2
    simp [pickB]
  | y :: xs, d :: bs, i + 1, x, c, h1, h2 => by
    rw [List.getElem?_cons_succ] at h1 h2
    have ih := pickB_more h1 h2
    simp only [List.take_succ_cons, pickB]
    cases d
    · simp only [Bool.false_eq_true, if_false]
      exact ih
    · simp only [if_true, List.cons_append]
      rw [ih]
theorem pickB_len : ∀ (xs : List V) (bs : List Bool), (pickB xs bs).length ≤ xs.length
  | [], _ => by simp [pickB]
  | _ :: _, [] => by simp [pickB]
  | y :: xs, d :: bs => by
    have := pickB_len xs bs
    unfold pickB
    split
    · simp
      omega
    · simp
      omega
section
variable {σ : L2.St} {H H1 : Hp} {Q : VK} {K : PySem.W.Frag} {D a b : Addr} {wi : TI} {g : TG} {tt : TT} {te : TE} {vs : List Nat} {xs ys : List V} {Qd : Hp → Prop}
theorem lcZ_pick (bs : List Bool) (hb : ys = bs.map V.bl) (nD : H1 D = none) (hn : xs.length ≤ 1000) (hl : xs.length = bs.length) (hx : SqL K H1 a xs) (hy : SqL K H1 b ys)
    (hs : ∀ (i : Nat) (x : V) (c : Bool) (T : Addr) H (Z : VK) (Y : Hp → Prop), xs[i]? = some x → bs[i]? = some c → Same H1 H → H T = none → (c = true → ∀ H4, Same H H4 → Z x H4) → (c = false → ∀ H4, Same H H4 → Y H4) → LcTurn g tt te vs σ (.ref T) (L2.upd H T (.tup [x, .bl c])) Z Y)
    (hd : ∀ H, Same H1 H → H D = some (.lst (pickB xs bs)) → Qd H) :
    ∃ W : Nat → Nat → Hp → Prop, (∃ m, W 0 m (L2.upd H1 D (.lst []))) ∧ ∀ i m H, W i m H →
      ((Itz K a b).stop i H ∧ Qd H) ∨ ((Itz K a b).go i H ∧ ∃ Nx : Hp → Prop, (∀ H', Nx H' → ∃ m', m' < m ∧ W (i + 1) m' H') ∧ ∀ x H', (Itz K a b).yld i H x H' → g x (wipe σ vs) H' fun σ2 H2 => wipe σ2 vs = wipe σ vs ∧ tt σ2 H2 fun b H3 =>
        if b = true then te σ2 H3 fun y H4 => ∃ acc, H4 D = some (.lst acc) ∧ acc.length < sizeLine ∧ Nx (L2.upd H4 D (.lst (acc ++ [y]))) else Nx H3) := by
  subst hb
  let P : Nat → Hp → Prop := fun i H => Same H1 H ∧ H D = some (.lst (pickB (xs.take i) (bs.take i)))
  refine ⟨fun i m H => m = xs.length - i ∧ i ≤ xs.length ∧ P i H, ⟨xs.length, by simp, Nat.zero_le _, Same.new nD, by rw [List.take_zero, List.take_zero]; exact L2.upd_same⟩, ?_⟩
  rintro i m H ⟨rfl, hi, hsame, hD⟩
  by_cases hlt : i < xs.length
  · have hx' : xs[i]? = some xs[i] := List.getElem?_eq_getElem hlt
    have hlt2 : i < bs.length := by omega
    have hy' : bs[i]? = some bs[i] := List.getElem?_eq_getElem hlt2
    have qx : SqL K H a xs := hsame.seq hx
    have qy : SqL K H b (bs.map V.bl) := hsame.seq hy
    have hy'' : (bs.map V.bl)[i]? = some (V.bl bs[i]) := by rw [List.getElem?_map, hy']; rfl
    have hz : (pickB (xs.take i) (bs.take i)).length < sizeLine := sz4' (by
      have := pickB_len (xs.take i) (bs.take i)
      rw [List.length_take] at this
      omega)
    refine .inr ⟨⟨xs, _, _, _, qx, qy, hx', hy''⟩, P (i + 1), fun H' p' => ⟨xs.length - (i + 1), by omega, rfl, hlt, p'⟩, fun v H' y => ?_⟩
    obtain ⟨T, x', y', rfl, hT, rfl, f1, f2⟩ := y
    have e1 := (f1 xs qx).symm.trans hx'
    have e2 := (f2 _ qy).symm.trans hy''
    cases e1
    cases e2
    refine hs i xs[i] bs[i] T H _ _ hx' hy' hsame hT (fun hc H4 h4 => ⟨_, h4 _ _ hD, hz, Same.mut (hsame.trans h4) nD, ?_⟩) (fun hc H4 h4 => ⟨hsame.trans h4, ?_⟩)
    · rw [L2.upd_same, pickB_more hx' hy', if_pos hc]
    · rw [h4 _ _ hD, pickB_more hx' hy', if_neg (by rw [hc]; exact Bool.false_ne_true), List.append_nil]
  · have e : i = xs.length := by omega
    subst e
    refine .inl ⟨⟨xs, _, hsame.seq hx, hsame.seq hy, Or.inl (Nat.le_refl _)⟩, hd H hsame ?_⟩
    rw [hD, List.take_length, hl, List.take_length]
theorem i_izip {ta : TA} {R : It → Hp → Prop} (h : ta σ H fun vs H1 => ∃ a b xs ys, vs = [.ref a, .ref b] ∧ SqL K H1 a xs ∧ SqL K H1 b ys ∧ R (Itz K a b) H1) : iZip K ta σ H R := h
theorem i_izip' {R : Addr → Addr → Prop} (h1 : SqL K H a xs) (h2 : SqL K H b ys) (q : R a b) : ∃ a' b' xs ys, [V.ref a, V.ref b] = [.ref a', .ref b'] ∧ SqL K H a' xs ∧ SqL K H b' ys ∧ R a' b' := ⟨a, b, xs, ys, rfl, h1, h2, q⟩
end
theorem pi_zipK {X : Cx} (K : PySem.W.Frag) (eK : X.K = K) {e e2 : Expr} {ta : TA} {p pos tpos : Pos} {elts : List Expr} {kk : Nat} (hg : Gl X "zip") (hm : X.mg "zip" = none) (ha : PA X [e, e2] ta)
    (hs : starEach [e, e2] X.env = (false, eval e X.env) :: starEach [e2] X.env := by rfl) (hpl : (backTo pos (starEach [e2] X.env)).any (·.1) = false := by rfl) :
    PI X (.Tuple elts kk tpos) (.Call (.Name "zip" p) [e, e2] [] pos) (iZip K ta) := by subst eK; exact pi_zip hg hm ha hs hpl
/-! ### lists of one text -/
theorem shaped_str1 {x : Str} (hx : PyData.strOk x = true) : SeqAt.shaped (.list [PyData.str x]) = true := by
  unfold SeqAt.shaped
  simp [PyData.canLay0, PyData.canLayAll0, PyData.depth, PyData.depthAll, hx]
theorem eqv_str1 (x : Str) : PyData.eqv (.list [PyData.str x]) (.list [PyData.str x]) = true := by simp [PyData.eqv, PyData.eqvAll]
theorem i_neS1 {K : PySem.W.Frag} {H : Hp} {Q : VK} {p r : Addr} {x : Str} (h1 : SqL K H p [.str x]) (h2 : SqL K H r [.str x]) (hx : PyData.strOk x = true) (q : Q (.bl false) H) : rNeD K (.ref p) (.ref r) H Q :=
  ⟨_, _, .lst h1 (.cons (.str x) .nil), .lst h2 (.cons (.str x) .nil), shaped_str1 hx, shaped_str1 hx, by rw [eqv_str1]; exact q⟩
theorem i_neT2 {K : PySem.W.Frag} {H : Hp} {Q : VK} {p r : Addr} {a b c d : Int} (h1 : SqT K H p [.int a, .int b]) (h2 : SqT K H r [.int c, .int d]) (q : Q (.bl (!(a == c && (b == d && true)))) H) : rNeD K (.ref p) (.ref r) H Q :=
  ⟨.tuple [.int a, .int b], .tuple [.int c, .int d], .tup h1 (.cons (.int a) (.cons (.int b) .nil)), .tup h2 (.cons (.int c) (.cons (.int d) .nil)), rfl, rfl, by
    have e : PyData.eqv (.tuple [.int a, .int b]) (.tuple [.int c, .int d]) = (a == c && (b == d && true)) := by simp [PyData.eqv, PyData.eqvAll]
    rw [e]
    exact q⟩
end Hf
/-! ## instances, their fields; dicts whose keys are tuples of ints -/
namespace Hf
open PySem PySem.Spec PyProof.Rows L2
section
variable {σ σ' : L2.St} {H : Hp} {Q : VK} {x y v : V} {i j k : Int} {nx bk ct : L2.St → Hp → Prop} {rt : VK} {K : PySem.W.Frag} {a C dx p d : Addr} {fs : List (Str × V)} {f m : Str} {sp : Sp} {E : XK} {kvs : List (List Key × V)} {r : Option V}
def FldR (K : PySem.W.Frag) (f : Str) (x : V) (H : Hp) (Q : VK) : Prop := ∃ a C dx fs v, x = V.ref a ∧ H a = some (.ins C dx fs) ∧ Cls K C ∧ NoAttr K C f ∧ fs.lookup f = some v ∧ Q v H
theorem i_fld {ta : TE} (h : ta σ H fun x H1 => FldR K f x H1 Q) : tFld K ta f σ H Q := h
theorem i_fldR (h : H a = some (.ins C dx fs)) (c : Cls K C) (n : NoAttr K C f) (l : fs.lookup f = some v) (q : Q v H) : FldR K f (.ref a) H Q := ⟨a, C, dx, fs, v, rfl, h, c, n, l, q⟩
def SetR (K : PySem.W.Frag) (f : Str) (y x : V) (H : Hp) (Z : Hp → Prop) : Prop := ∃ a C dx fs, x = V.ref a ∧ H a = some (.ins C dx fs) ∧ Cls K C ∧ NoAttr K C f ∧ fs.length < 1000 ∧ Z (upd H a (.ins C dx (putF f y fs)))
theorem i_sfld {ta tv : TE} (h : tv σ H fun y H1 => ta σ H1 fun x H2 => SetR K f y x H2 (nx σ)) : sFld K ta tv f ⟨nx, rt, bk, ct⟩ σ H := h
theorem i_setR {Z : Hp → Prop} (h : H a = some (.ins C dx fs)) (c : Cls K C) (n : NoAttr K C f) (l : fs.length < 1000) (q : Z (upd H a (.ins C dx (putF f y fs)))) : SetR K f y (.ref a) H Z := ⟨a, C, dx, fs, rfl, h, c, n, l, q⟩
def MethR (C : Addr) (m : Str) (x : V) (H : Hp) (R : Prop) : Prop := ∃ a dx fs, x = V.ref a ∧ H a = some (.ins C dx fs) ∧ fs.lookup m = none ∧ R
theorem i_meth {ta : TE} {t : TA} (h : ta σ H fun x H1 => MethR C m x H1 (t σ H1 fun vs H2 => sp (x :: vs) H2 Q E)) : tMeth C m sp [] E ta t σ H Q := by
  have e : ∀ x : V, (fun vs H2 => sp (x :: (vs ++ [])) H2 Q E) = fun vs H2 => sp (x :: vs) H2 Q E := fun x => by
    funext vs H2
    rw [List.append_nil]
  show ta σ H (fun x H1 => ∃ a dx fs, x = .ref a ∧ H1 a = some (.ins C dx fs) ∧ fs.lookup m = none ∧ t σ H1 fun vs H2 => sp (x :: (vs ++ [])) H2 Q E)
  simp only [e]
  exact h
theorem i_methR {R : Prop} (h : H a = some (.ins C dx fs)) (l : fs.lookup m = none) (q : R) : MethR C m (.ref a) H R := ⟨a, dx, fs, rfl, h, l, q⟩
theorem i_make0 (h : ∀ x dx, H x = none → H dx = none → dx ≠ x → sp [.ref x] (upd (upd H dx (.own x)) x (.ins C dx [])) (fun v H2 => v = .non ∧ Q (.ref x) H2) E) : tMake C sp [] E tNil σ H Q := h
/-! ### dicts by tuples -/
def DgR (y x : V) (H : Hp) (R : Option V → Prop) : Prop := ∃ a o, x = V.ref a ∧ DGet H a y o ∧ R o
theorem i_dnotin {td ty : TE} (h : ty σ H fun y H1 => td σ H1 fun x H2 => DgR y x H2 fun o => Q (.bl (!o.isSome)) H2) : tDNotIn ty td σ H Q := h
theorem i_din {td ty : TE} (h : ty σ H fun y H1 => td σ H1 fun x H2 => DgR y x H2 fun o => Q (.bl o.isSome) H2) : tDIn ty td σ H Q := h
theorem i_dg3 {R : Option V → Prop} (h : H a = some (.dT kvs)) (e : H p = some (.tup [.int i, .int j, .int k])) (q : R (valV kvs [.inl i, .inl j, .inl k])) : DgR (.ref p) (.ref a) H R := ⟨a, _, rfl, DGet.t (k := [.inl i, .inl j, .inl k]) h e, q⟩
theorem i_dg2 {R : Option V → Prop} (h : H a = some (.dT kvs)) (e : H p = some (.tup [.int i, .int j])) (q : R (valV kvs [.inl i, .inl j])) : DgR (.ref p) (.ref a) H R := ⟨a, _, rfl, DGet.t (k := [.inl i, .inl j]) h e, q⟩
def DvR (x y : V) (H : Hp) (Q : VK) : Prop := ∃ a v, x = V.ref a ∧ DGet H a y (some v) ∧ Q v H
theorem i_dget {td ty : TE} (h : td σ H fun x H1 => ty σ H1 fun y H2 => DvR x y H2 Q) : tDGet td ty σ H Q := h
theorem i_dv3 (h : H a = some (.dT kvs)) (e : H p = some (.tup [.int i, .int j, .int k])) (l : valV kvs [.inl i, .inl j, .inl k] = some v) (q : Q v H) : DvR (.ref a) (.ref p) H Q := ⟨a, v, rfl, l ▸ DGet.t (k := [.inl i, .inl j, .inl k]) h e, q⟩
theorem i_dv2 (h : H a = some (.dT kvs)) (e : H p = some (.tup [.int i, .int j])) (l : valV kvs [.inl i, .inl j] = some v) (q : Q v H) : DvR (.ref a) (.ref p) H Q := ⟨a, v, rfl, l ▸ DGet.t (k := [.inl i, .inl j]) h e, q⟩
def DpR (v x y : V) (H : Hp) (Z : Hp → Prop) : Prop := ∃ a H4, x = V.ref a ∧ DPut H a y v H4 ∧ Z H4
theorem i_dput {td ty tv : TE} (h : tv σ H fun v H1 => td σ H1 fun x H2 => ty σ H2 fun y H3 => DpR v x y H3 (nx σ)) : sDPut td ty tv ⟨nx, rt, bk, ct⟩ σ H := h
theorem i_dp3 {Z : Hp → Prop} (h : H a = some (.dT kvs)) (e : H p = some (.tup [.int i, .int j, .int k])) (hz : kvs.length ≤ 1000000) (q : Z (upd H a (.dT (putK kvs [.inl i, .inl j, .inl k] v)))) : DpR v (.ref a) (.ref p) H Z := ⟨a, _, rfl, DPut.t (k := [.inl i, .inl j, .inl k]) h e (sz4' hz), q⟩
theorem i_dp2 {Z : Hp → Prop} (h : H a = some (.dT kvs)) (e : H p = some (.tup [.int i, .int j])) (hz : kvs.length ≤ 1000000) (q : Z (upd H a (.dT (putK kvs [.inl i, .inl j] v)))) : DpR v (.ref a) (.ref p) H Z := ⟨a, _, rfl, DPut.t (k := [.inl i, .inl j]) h e (sz4' hz), q⟩
theorem i_dnewT (h : ∀ p, H p = none → Q (.ref p) (upd H p (.dT []))) : tDNewT σ H Q := h
/-! ### list(range(..)) -/
theorem i_lstRg {te : L2.St → Hp → (Int → Int → Hp → Prop) → Prop} (h : te σ H fun a b H1 => RgOk a b ∧ ∀ q, H1 q = none → Q (.ref q) (upd H1 q (.lst (rgV a b)))) : tLstRg te σ H Q := h
theorem i_rg1 {ta : TE} {R : Int → Int → Hp → Prop} (h : ta σ H fun x H1 => ∃ n, x = .int n ∧ R 0 n H1) : tRg1 ta σ H R := h
theorem i_rg2 {ta tb : TE} {R : Int → Int → Hp → Prop} (h : ta σ H fun x H1 => tb σ H1 fun y H2 => ∃ i j, x = .int i ∧ y = .int j ∧ R i j H2) : tRg2 ta tb σ H R := h
theorem i_rg2' {R : Int → Int → Prop} (q : R i j) : ∃ i' j', V.int i = .int i' ∧ V.int j = .int j' ∧ R i' j' := ⟨i, j, rfl, rfl, q⟩
theorem i_rg1' {R : Int → Prop} (q : R i) : ∃ i', V.int i = .int i' ∧ R i' := ⟨i, rfl, q⟩
theorem i_rgok {R : Addr → Prop} (h0 : 0 ≤ i) (h1 : j ≤ 16777216) (h2 : i ≤ 16777216) (h3 : 0 ≤ j) (q : ∀ q, H q = none → R q) : RgOk i j ∧ ∀ q, H q = none → R q := ⟨.of_le h0 h1 h2 h3, q⟩
end
theorem rg_ints (a b : Int) : rgV a b = ((List.range (b - a).toNat).map fun i : Nat => a + (i : Int)).map V.int := by
  unfold rgV
  rw [List.map_map]
  rfl
theorem But.mut {a : Addr} {H H1 : Hp} {D : Addr} {o : HO} (hp : H D = none) (x : But a H H1) : But a H (L2.upd H1 D o) := fun b u n h => by
  rw [upd_ne (ne_of_none h hp)]
  exact x b u n h
theorem But.mutS {a : Addr} {H H1 H2 : Hp} {D : Addr} (y : But D H1 H2) (hp : H D = none) (x : But a H H1) : But a H H2 := fun b u n h => y b u (ne_of_none h hp) (x b u n h)
end Hf
/-! ## Dat -/
namespace Hf
open PySem PySem.Spec PyProof.Rows L2
/-! ### nested data, each list and tuple tracked -/
mutual
inductive Dq (H : Hp) : V → PyData → Prop
  | non : Dq H .non .none
  | bl (b : Bool) : Dq H (.bl b) (.bool b)
  | int (i : Int) : Dq H (.int i) (.int i)
  | str (x : Str) : Dq H (.str x) (.str x)
  | lst {a : Addr} {xs : List V} {ds : List PyData} : H a = some (.lst xs) → DqAll H xs ds → Dq H (.ref a) (.list ds)
  | tup {a : Addr} {xs : List V} {ds : List PyData} : H a = some (.tup xs) → DqAll H xs ds → Dq H (.ref a) (.tuple ds)
inductive DqAll (H : Hp) : List V → List PyData → Prop
  | nil : DqAll H [] []
  | cons {v : V} {vs : List V} {d : PyData} {ds : List PyData} : Dq H v d → DqAll H vs ds → DqAll H (v :: vs) (d :: ds)
end
mutual
theorem Dq.same {H H' : Hp} (s : Same H H') : ∀ {v : V} {d : PyData}, Dq H v d → Dq H' v d
  | _, _, .non => .non
  | _, _, .bl b => .bl b
  | _, _, .int i => .int i
  | _, _, .str x => .str x
  | _, _, .lst h q => .lst (s _ _ h) (DqAll.same s q)
  | _, _, .tup h q => .tup (s _ _ h) (DqAll.same s q)
theorem DqAll.same {H H' : Hp} (s : Same H H') : ∀ {vs : List V} {ds : List PyData}, DqAll H vs ds → DqAll H' vs ds
  | _, _, .nil => .nil
  | _, _, .cons h q => .cons (Dq.same s h) (DqAll.same s q)
end
mutual
theorem Dq.dp {K : PySem.W.Frag} {H : Hp} : ∀ {v : V} {d : PyData}, Dq H v d → Dp K H v d
  | _, _, .non => .non
  | _, _, .bl b => .bl b
  | _, _, .int i => .int i
  | _, _, .str x => .str x
  | _, _, .lst h q => .lst (SqL.of h) (DqAll.dp q)
  | _, _, .tup h q => .tup (SqT.of h) (DqAll.dp q)
theorem DqAll.dp {K : PySem.W.Frag} {H : Hp} : ∀ {vs : List V} {ds : List PyData}, DqAll H vs ds → DpAll K H vs ds
  | _, _, .nil => .nil
  | _, _, .cons h q => .cons (Dq.dp h) (DqAll.dp q)
end
mutual
theorem Dq.eqv {H : Hp} : ∀ {v : V} {d : PyData}, Dq H v d → PyData.eqv d d = true
  | _, _, .non => by simp [PyData.eqv]
  | _, _, .bl b => by simp [PyData.eqv]
  | _, _, .int i => by simp [PyData.eqv]
  | _, _, .str x => by simp [PyData.eqv]
  | _, _, .lst _ q => by rw [PyData.eqv]; exact DqAll.eqv q
  | _, _, .tup _ q => by rw [PyData.eqv]; exact DqAll.eqv q
theorem DqAll.eqv {H : Hp} : ∀ {vs : List V} {ds : List PyData}, DqAll H vs ds → PyData.eqvAll ds ds = true
  | _, _, .nil => by simp [PyData.eqvAll]
  | _, _, .cons h q => by rw [PyData.eqvAll, Dq.eqv h, DqAll.eqv q]; rfl
end
section
variable {H : Hp} {v : V} {vs : List V} {ds : List PyData} {i : Int} {x : Str}
theorem Dq.list_inv (h : Dq H v (.list ds)) : ∃ a xs, v = .ref a ∧ H a = some (.lst xs) ∧ DqAll H xs ds := by
  cases h with
  | lst h q => exact ⟨_, _, rfl, h, q⟩
theorem Dq.tuple_inv (h : Dq H v (.tuple ds)) : ∃ a xs, v = .ref a ∧ H a = some (.tup xs) ∧ DqAll H xs ds := by
  cases h with
  | tup h q => exact ⟨_, _, rfl, h, q⟩
theorem Dq.int_inv (h : Dq H v (.int i)) : v = .int i := by
  cases h
  rfl
theorem Dq.str_inv (h : Dq H v (.str x)) : v = .str x := by
  cases h
  rfl
theorem DqAll.len : ∀ {vs : List V} {ds : List PyData}, DqAll H vs ds → vs.length = ds.length
  | _, _, .nil => rfl
  | _, _, .cons _ q => by rw [List.length_cons, List.length_cons, DqAll.len q]
theorem DqAll.get : ∀ {vs : List V} {ds : List PyData}, DqAll H vs ds → ∀ {k : Nat} {d : PyData}, ds[k]? = some d → ∃ w, vs[k]? = some w ∧ Dq H w d
  | _, _, .nil, k, d, h => by simp at h
  | _, _, .cons h _, 0, d, e => by
    rw [List.getElem?_cons_zero] at e
    cases e
    exact ⟨_, rfl, h⟩
  | _, _, .cons _ q, k + 1, d, e => by
    rw [List.getElem?_cons_succ] at e
    obtain ⟨w, h1, h2⟩ := DqAll.get q e
    exact ⟨w, by rw [List.getElem?_cons_succ]; exact h1, h2⟩
theorem DqAll.get' : ∀ {vs : List V} {ds : List PyData}, DqAll H vs ds → ∀ {k : Nat} {w : V}, vs[k]? = some w → ∃ d, ds[k]? = some d ∧ Dq H w d
  | _, _, .nil, k, d, h => by simp at h
  | _, _, .cons h _, 0, d, e => by
    rw [List.getElem?_cons_zero] at e
    cases e
    exact ⟨_, rfl, h⟩
  | _, _, .cons _ q, k + 1, d, e => by
    rw [List.getElem?_cons_succ] at e
    obtain ⟨w, h1, h2⟩ := DqAll.get' q e
    exact ⟨w, by rw [List.getElem?_cons_succ]; exact h1, h2⟩
theorem dq_ints : ∀ ms : List Int, DqAll H (ms.map V.int) (ms.map PyData.int)
  | [] => .nil
  | m :: ms => .cons (.int m) (dq_ints ms)
theorem DqAll.ints : ∀ {vs : List V} {ms : List Int}, DqAll H vs (ms.map PyData.int) → vs = ms.map V.int
  | _, [], h => by cases h; rfl
  | _, m :: ms, h => by
    cases h with
    | cons h q =>
      rw [Dq.int_inv h, DqAll.ints q]
      rfl
theorem DqAll.snoc : ∀ {vs : List V} {ds : List PyData} {w : V} {d : PyData}, DqAll H vs ds → Dq H w d → DqAll H (vs ++ [w]) (ds ++ [d])
  | _, _, _, _, .nil, h => .cons h .nil
  | _, _, _, _, .cons h q, g => .cons h (DqAll.snoc q g)
end
/-- == of nested data -/
theorem i_eqDq {K : PySem.W.Frag} {H : Hp} {Q : VK} {v w : V} {d e : PyData} (h1 : Dq H v d) (h2 : Dq H w e) (s1 : SeqAt.shaped d = true) (s2 : SeqAt.shaped e = true) (q : Q (.bl (PyData.eqv d e)) H) : rEqD K v w H Q := ⟨d, e, h1.dp, h2.dp, s1, s2, q⟩
theorem i_neDq {K : PySem.W.Frag} {H : Hp} {Q : VK} {v w : V} {d : PyData} (h1 : Dq H v d) (h2 : Dq H w d) (s1 : SeqAt.shaped d = true) (q : Q (.bl false) H) : rNeD K v w H Q := ⟨d, d, h1.dp, h2.dp, s1, s1, by
  rw [h1.eqv]
  exact q⟩

/-! ### a heap without some of its objects -/
def hid (S : List Addr) (H : Hp) : Hp := fun b => if b ∈ S then none else H b
section
variable {S : List Addr} {H H' : Hp} {a b : Addr} {o : HO}
theorem hid_in (h : a ∈ S) : hid S H a = none := if_pos h
theorem hid_out (h : a ∉ S) : hid S H a = H a := if_neg h
theorem hid_same : Same (hid S H) H := fun b o h => by
  by_cases c : b ∈ S
  · rw [hid_in c] at h
    cases h
  · rw [hid_out c] at h
    exact h
theorem hid_mono (s : Same H H') : Same (hid S H) (hid S H') := fun b o h => by
  by_cases c : b ∈ S
  · rw [hid_in c] at h
    cases h
  · rw [hid_out c] at h ⊢
    exact s b o h
theorem hid_but (ha : a ∈ S) (s : But a H H') : Same (hid S H) (hid S H') := fun b o h => by
  by_cases c : b ∈ S
  · rw [hid_in c] at h
    cases h
  · rw [hid_out c] at h ⊢
    exact s b o (fun e => c (e ▸ ha)) h
theorem hid_upd (ha : a ∈ S) : Same (hid S H) (hid S (upd H a o)) := hid_but ha (But.upd (But.refl _ _))
theorem hid_lk (h : a ∉ S) (e : H a = some o) : hid S H a = some o := by
  rw [hid_out h]
  exact e
theorem not_in2 {a b c : Addr} (h1 : a ≠ b) (h2 : a ≠ c) : a ∉ [b, c] := by
  intro h
  rcases List.mem_cons.mp h with g | g
  · exact h1 g
  · exact h2 (List.mem_singleton.mp g)
theorem not_in1 {a b : Addr} (h1 : a ≠ b) : a ∉ [b] := fun h => h1 (List.mem_singleton.mp h)
end
theorem rng_map {α β : Type} (f : Nat → β) (g : α → β) (m : List α) (h : ∀ (i : Nat) (x : α), m[i]? = some x → f i = g x) : (List.range m.length).map f = m.map g := by
  apply List.ext_getElem?
  intro i
  rw [List.getElem?_map, List.getElem?_map]
  by_cases c : i < m.length
  · rw [List.getElem?_range c, List.getElem?_eq_getElem c]
    show some (f i) = some (g m[i])
    rw [h i _ (List.getElem?_eq_getElem c)]
  · rw [List.getElem?_eq_none (by rw [List.length_range]; omega), List.getElem?_eq_none (by omega)]
    rfl
theorem take_snoc {α : Type} {m : List α} {i : Nat} {x : α} (h : m[i]? = some x) : m.take (i + 1) = m.take i ++ [x] := by
  rw [List.take_add_one, h]
  rfl
theorem same_hid1 {G H : Hp} {a : Addr} (s : Same G H) (h1 : G a = none) : Same G (hid [a] H) := fun b o e => by
  rw [hid_out (not_in1 (ne_of_none e h1))]
  exact s b o e
theorem same_hid2 {G H : Hp} {a c : Addr} (s : Same G H) (h1 : G a = none) (h2 : G c = none) : Same G (hid [a, c] H) := fun b o e => by
  rw [hid_out (not_in2 (ne_of_none e h1) (ne_of_none e h2))]
  exact s b o e
theorem But.mutD {a : Addr} {H H1 : Hp} {D : Addr} {o : HO} (hp : H D = none) (x : But a H H1) : But a H (L2.upd H1 D o) := fun b u n h => by
  rw [upd_ne (ne_of_none h hp)]
  exact x b u n h
theorem But.mutSD {a : Addr} {H H1 H2 : Hp} {D : Addr} (y : But D H1 H2) (hp : H D = none) (x : But a H H1) : But a H H2 := fun b u n h => y b u (ne_of_none h hp) (x b u n h)
theorem DqAll.reverse {H : Hp} : ∀ {vs : List V} {ds : List PyData}, DqAll H vs ds → DqAll H vs.reverse ds.reverse
  | _, _, .nil => .nil
  | _, _, .cons h q => by
    rw [List.reverse_cons, List.reverse_cons]
    exact DqAll.snoc (DqAll.reverse q) h
theorem i_reverseV {H : Hp} {p : Addr} {xs : List V} {Q : VK} (h : H p = some (.lst xs)) (q : Q .non (upd H p (.lst xs.reverse))) : rReverse (.ref p) [] H Q := ⟨p, _, rfl, rfl, h, q⟩
theorem i_revV {K : PySem.W.Frag} {xs : List V} {p : Addr} {H : Hp} {R : Addr → List V → Prop} (h : SqL K H p xs) (q : R p xs) : ∃ a xs, V.ref p = .ref a ∧ SqL K H a xs ∧ R a xs := ⟨p, _, rfl, h, q⟩
theorem i_neL2 {K : PySem.W.Frag} {H : Hp} {Q : VK} {p r : Addr} {ms : List Int} {x y : Int} (h1 : SqL K H p (ms.map V.int)) (h2 : SqL K H r [.int x, .int y]) (q : Q (.bl (!decide (ms = [x, y]))) H) : rNeD K (.ref p) (.ref r) H Q := i_neLI (ns := [x, y]) h1 h2 q
theorem pe_revLK {X : L2.Cx} (K : PySem.W.Frag) (eK : X.K = K) {e : Expr} {te : TE} {k : Nat} {p1 p2 p3 pos : Pos} (he : PE X e te) : PE X (.Subscript e (.Slice none none (some (.UnaryOp .USub (.Constant (.int 1) k p1) p2)) p3) pos) (tRevL K te) := by
  subst eK
  exact pe_revL he
theorem i_rev {K : PySem.W.Frag} {te : TE} {σ : L2.St} {H : Hp} {Q : VK} (h : te σ H fun x H1 => ∃ a xs, x = .ref a ∧ SqL K H1 a xs ∧ ∀ p, H1 p = none → Q (.ref p) (upd H1 p (.lst xs.reverse))) : tRevL K te σ H Q := h
theorem i_rev' {K : PySem.W.Frag} {ms : List Int} {p : Addr} {H : Hp} {R : Addr → List V → Prop} (h : SqL K H p (ms.map V.int)) (q : R p (ms.map V.int)) : ∃ a xs, V.ref p = .ref a ∧ SqL K H a xs ∧ R a xs := ⟨p, _, rfl, h, q⟩
end Hf
/-! ## Mixes -/
namespace Hf
open PySem PySem.Spec PyProof.Rows L2
/-! ### mixes -/
def planD (p : List Int) : PyData := .list (p.map PyData.int)
def partD (pw : List Int × Int) : PyData := .tuple [planD pw.1, .int pw.2]
def mixD (m : List (List Int × Int)) : PyData := .list (m.map partD)
/-- a plan of so many hosts and fields -/
def PlanC (h : Int) (n : Nat) (p : List Int) : Prop := p.length = n ∧ p.sum = h ∧ ∀ x ∈ p, 0 ≤ x
structure MixOk (h : Int) (n : Nat) (m : List (List Int × Int)) : Prop where
  ne : 1 ≤ m.length ∧ m.length ≤ 100
  fl : 1 ≤ n ∧ n ≤ 8
  ho : 0 ≤ h ∧ h ≤ 40
  pl : ∀ pw ∈ m, PlanC h n pw.1 ∧ 1 ≤ pw.2
section
variable {H : Hp} {v : V} {m : List (List Int × Int)} {xs : List V}
/-- a part: its tuple, its plan's list -/
theorem part_inv {pw : List Int × Int} (h : Dq H v (partD pw)) : ∃ t p, v = .ref t ∧ H t = some (.tup [.ref p, .int pw.2]) ∧ H p = some (.lst (pw.1.map V.int)) := by
  obtain ⟨t, xs, rfl, h1, h2⟩ := h.tuple_inv
  cases h2 with
  | cons a b =>
    cases b with
    | cons c d =>
      cases d
      obtain ⟨p, ys, rfl, h3, h4⟩ := Dq.list_inv a
      obtain rfl := Dq.int_inv c
      obtain rfl := DqAll.ints h4
      exact ⟨t, p, rfl, h1, h3⟩
theorem mix_inv (h : Dq H v (mixD m)) : ∃ a xs, v = .ref a ∧ H a = some (.lst xs) ∧ xs.length = m.length ∧ ∀ (k : Nat) (w : V), xs[k]? = some w → ∃ pw t p, m[k]? = some pw ∧ w = .ref t ∧ H t = some (.tup [.ref p, .int pw.2]) ∧ H p = some (.lst (pw.1.map V.int)) := by
  obtain ⟨a, xs, rfl, h1, h2⟩ := h.list_inv
  refine ⟨a, xs, rfl, h1, by rw [h2.len, List.length_map], fun k w hw => ?_⟩
  obtain ⟨d, e, q⟩ := h2.get' hw
  rw [List.getElem?_map] at e
  cases g : m[k]? with
  | none => rw [g] at e; cases e
  | some pw =>
    rw [g] at e
    cases e
    obtain ⟨t, p, e1, e2, e3⟩ := part_inv q
    exact ⟨pw, t, p, rfl, e1, e2, e3⟩
end
theorem shaped_mix (m : List (List Int × Int)) : SeqAt.shaped (mixD m) = true := by
  have h1 : ∀ m : List (List Int × Int), PyData.canLayAll0 (m.map partD) = true := by
    intro m
    induction m with
    | nil => simp [PyData.canLayAll0]
    | cons pw m ih =>
      rw [List.map_cons, PyData.canLayAll0, ih]
      simp [partD, planD, PyData.canLay0, PyData.canLayAll0, canLay_ints]
  have h2 : ∀ m : List (List Int × Int), PyData.depthAll (m.map partD) ≤ 3 := by
    intro m
    induction m with
    | nil => simp [PyData.depthAll]
    | cons pw m ih =>
      have := depth_ints pw.1
      rw [List.map_cons, PyData.depthAll]
      simp [partD, planD, PyData.depth, PyData.depthAll]
      omega
  unfold SeqAt.shaped
  have a := h1 m
  have b := h2 m
  simp [mixD, PyData.canLay0, PyData.depth, a]
  omega

theorem dq_mix {G H : Hp} {a : Addr} {xs : List V} {m : List (List Int × Int)} (q : DqAll G xs (m.map partD)) (h : H a = some (.lst xs)) (s : Same G H) : Dq H (.ref a) (mixD m) := .lst h (DqAll.same s q)
theorem part_mk {H : Hp} {t p : Addr} {ms : List Int} {w : Int} (h1 : H t = some (.tup [.ref p, .int w])) (h2 : H p = some (.lst (ms.map V.int))) : Dq H (.ref t) (partD (ms, w)) := .tup h1 (.cons (.lst h2 (dq_ints ms)) (.cons (.int w) .nil))
/-- a part of a mix, by its place -/
theorem part_at {G : Hp} {xs : List V} {m : List (List Int × Int)} (q : DqAll G xs (m.map partD)) {k : Nat} {w : V} (hw : xs[k]? = some w) : ∃ pw t p, m[k]? = some pw ∧ w = .ref t ∧ G t = some (.tup [.ref p, .int pw.2]) ∧ G p = some (.lst (pw.1.map V.int)) := by
  obtain ⟨d, e, q⟩ := q.get' hw
  rw [List.getElem?_map] at e
  cases g : m[k]? with
  | none => rw [g] at e; cases e
  | some pw =>
    rw [g] at e
    cases e
    obtain ⟨t, p, e1, e2, e3⟩ := part_inv q
    exact ⟨pw, t, p, rfl, e1, e2, e3⟩
def whole (m : List (List Int × Int)) : Int := (m.map Prod.snd).sum
def due : List (List Int × Int) → Int → List Int
  | [], _ => []
  | pw :: r, k => if k < pw.2 then pw.1 else due r (k - pw.2)
theorem whole_cons {pw : List Int × Int} {r : List (List Int × Int)} : whole (pw :: r) = pw.2 + whole r := by
  unfold whole
  rw [List.map_cons, List.sum_cons]
theorem whole_app {m r : List (List Int × Int)} : whole (m ++ r) = whole m + whole r := by
  unfold whole
  rw [List.map_append, List.sum_append]
theorem drop_get {α : Type} {m : List α} {i : Nat} {x : α} (h : m[i]? = some x) : m.drop i = x :: m.drop (i + 1) := by
  obtain ⟨hi, rfl⟩ := List.getElem?_eq_some_iff.mp h
  exact List.drop_eq_getElem_cons hi
theorem MixOk.len (h n) {m} (k : MixOk h n m) : 1 ≤ m.length := k.ne.1
theorem MixOk.whole_pos {h n m} (k : MixOk h n m) : (m.length : Int) ≤ whole m := by
  have : ∀ r : List (List Int × Int), (∀ pw ∈ r, 1 ≤ pw.2) → (r.length : Int) ≤ whole r := by
    intro r
    induction r with
    | nil => intro _; exact Int.le_refl _
    | cons pw r ih =>
      intro g
      have := ih fun x hx => g x (List.mem_cons_of_mem _ hx)
      have := g pw (List.mem_cons_self)
      rw [whole_cons, List.length_cons]
      omega
  exact this m fun pw hp => (k.pl pw hp).2
/-- weights of a drawn mix -/
def WtOk (m : List (List Int × Int)) : Prop := m.length ≤ 20 ∧ ∀ pw ∈ m, pw.2 ≤ 10000000000000000000000000000
theorem WtOk.le {m} (k : WtOk m) : whole m ≤ 200000000000000000000000000000 := by
  have : ∀ r : List (List Int × Int), (∀ pw ∈ r, pw.2 ≤ 10000000000000000000000000000) → whole r ≤ 10000000000000000000000000000 * (r.length : Int) := by
    intro r
    induction r with
    | nil => intro _; exact Int.le_refl _
    | cons pw r ih =>
      intro g
      have := ih fun x hx => g x (List.mem_cons_of_mem _ hx)
      have := g pw (List.mem_cons_self)
      rw [whole_cons, List.length_cons]
      omega
  have h1 := this m k.2
  have h2 := k.1
  omega
theorem whole_nn : ∀ r : List (List Int × Int), (∀ pw ∈ r, 1 ≤ pw.2) → 0 ≤ whole r := by
  intro r
  induction r with
  | nil => intro _; exact Int.le_refl _
  | cons pw r ih =>
    intro g
    have := ih fun x hx => g x (List.mem_cons_of_mem _ hx)
    have := g pw (List.mem_cons_self)
    rw [whole_cons]
    omega
theorem MixOk.at {h : Int} {n : Nat} {m : List (List Int × Int)} {i : Nat} {pw : List Int × Int} (k : MixOk h n m) (e : m[i]? = some pw) : 0 ≤ whole (m.take i) ∧ 1 ≤ pw.2 ∧ whole (m.take (i + 1)) = whole (m.take i) + pw.2 ∧ whole (m.take i) + pw.2 ≤ whole m := by
  have h1 := whole_nn (m.take i) fun x hx => (k.pl x (List.mem_of_mem_take hx)).2
  have h2 := whole_nn (m.drop (i + 1)) fun x hx => (k.pl x (List.mem_of_mem_drop hx)).2
  have h3 : whole m = whole (m.take i) + whole (m.drop i) := by rw [← whole_app, List.take_append_drop]
  rw [drop_get e, whole_cons] at h3
  have h4 := (k.pl pw (List.mem_of_getElem? e)).2
  refine ⟨h1, h4, ?_, by omega⟩
  rw [take_snoc e, whole_app]
  simp [whole]
theorem MixOk.reverse {h : Int} {n : Nat} {m : List (List Int × Int)} (k : MixOk h n m) : MixOk h n m.reverse := ⟨by rw [List.length_reverse]; exact k.ne, k.fl, k.ho, fun pw hp => k.pl pw (List.mem_reverse.mp hp)⟩
theorem whole_reverse (m : List (List Int × Int)) : whole m.reverse = whole m := by
  induction m with
  | nil => rfl
  | cons pw m ih =>
    rw [List.reverse_cons, whole_app, whole_cons, ih]
    simp [whole]
    omega
theorem due_last : ∀ (m : List (List Int × Int)) {p : List Int} {w z : Int}, (∀ pw ∈ m, 1 ≤ pw.2) → whole m ≤ z → z < whole m + w → due (m ++ [(p, w)]) z = p
  | [], p, w, z, _, h1, h2 => by
    simp [whole] at h1 h2
    show due [(p, w)] z = p
    rw [due, if_pos h2]
  | pw :: m, p, w, z, h0, h1, h2 => by
    rw [whole_cons] at h1 h2
    have := whole_nn m fun x hx => h0 x (List.mem_cons_of_mem _ hx)
    show due (pw :: (m ++ [(p, w)])) z = p
    rw [due, if_neg (by omega)]
    exact due_last m (fun x hx => h0 x (List.mem_cons_of_mem _ hx)) (by omega) (by omega)
theorem DqAll.revm {H : Hp} {vs : List V} {m : List (List Int × Int)} (q : DqAll H vs (m.map partD)) : DqAll H vs.reverse (m.reverse.map partD) := by
  rw [List.map_reverse]
  exact q.reverse
theorem dq_two {H : Hp} {a t1 t2 p1 p2 : Addr} {w1 w2 x1 y1 x2 y2 : Int} (h : H a = some (.lst [.ref t1, .ref t2])) (h1 : H t1 = some (.tup [.ref p1, .int w1])) (h2 : H t2 = some (.tup [.ref p2, .int w2])) (h3 : H p1 = some (.lst [.int x1, .int y1])) (h4 : H p2 = some (.lst [.int x2, .int y2])) : Dq H (.ref a) (mixD [([x1, y1], w1), ([x2, y2], w2)]) :=
  .lst h (.cons (part_mk h1 h3) (.cons (part_mk h2 h4) .nil))
theorem MixOk.snoc {h : Int} {n : Nat} {m : List (List Int × Int)} {p : List Int} {w : Int} (k : MixOk h n m) (hp : PlanC h n p) (hw : 1 ≤ w) (hl : m.length ≤ 50) : MixOk h n (m ++ [(p, w)]) := ⟨by simp; omega, k.fl, k.ho, fun pw hpw => by
  rcases List.mem_append.mp hpw with g | g
  · exact k.pl pw g
  · rw [List.mem_singleton.mp g]
    exact ⟨hp, hw⟩⟩
theorem due_len {k : Nat} : ∀ (m : List (List Int × Int)) (z : Int), (∀ pw ∈ m, pw.1.length ≤ k) → (due m z).length ≤ k
  | [], _, _ => Nat.zero_le _
  | pw :: m, z, h => by
    rw [due]
    split
    · exact h pw (List.mem_cons_self)
    · exact due_len m _ fun x hx => h x (List.mem_cons_of_mem _ hx)
theorem MixOk.due_len {h : Int} {n : Nat} {m : List (List Int × Int)} (k : MixOk h n m) (z : Int) : (due m z).length ≤ 8 := Hf.due_len m z fun pw hp => by
  have := (k.pl pw hp).1.1
  have := k.fl.2
  omega
end Hf
namespace K71
open PySem PySem.Spec PyProof.Rows L2 Hf
local macro_rules | `(tactic| walk_at "g_ne") => `(tactic| first | assumption | (apply Hf.ne_at; assumption) | ((with_reducible refine' Hf.ne_new ?n9 ?h9); (case n9 => assumption); (case h9 => walk_at "g_lk")) | ((with_reducible refine' Hf.ne_new' ?n9 ?h9); (case n9 => assumption); (case h9 => walk_at "g_lk")) | fail "g_ne")
local macro_rules | `(tactic| walk_at "g_lk") => `(tactic| first | (with_reducible assumption) | (with_reducible exact L2.upd_same) | ((with_reducible refine' Hf.lk_new ?n9 ?h9); (case n9 => assumption); (case h9 => walk_at "g_lk")) | ((with_reducible refine' Hf.lk_updG ?g9 ?n9 ?h9); (case g9 => ((fail_if_success ((apply Hf.Guard.of); assumption)); exact trivial)); (case n9 => walk_at "g_ne"); (case h9 => walk_at "g_lk")) | ((with_reducible refine' Hf.lk_same ?n9 ?h9); (case n9 => assumption); (case h9 => walk_at "g_lk")) | ((with_reducible refine' Hf.lk_but ?m9 ?n9 ?h9); (case m9 => assumption); (case n9 => walk_at "g_ne"); (case h9 => walk_at "g_lk")) | ((with_reducible refine' Hf.lk_but2 ?m9 ?n9 ?n8 ?h9); (case m9 => assumption); (case n9 => walk_at "g_ne"); (case n8 => walk_at "g_ne"); (case h9 => walk_at "g_lk")) | fail "g_lk")
local macro_rules | `(tactic| walk_at "g_sq") => `(tactic| first | (with_reducible assumption) | (with_reducible exact L2.SqL.of L2.upd_same) | (with_reducible exact L2.SqT.of L2.upd_same) | (with_reducible exact L2.SqL.of (by assumption)) | (with_reducible exact L2.SqT.of (by assumption)) | ((with_reducible refine' Hf.lkL_new ?n9 ?h9); (case n9 => assumption); (case h9 => walk_at "g_sq")) | ((with_reducible refine' Hf.lkT_new ?n9 ?h9); (case n9 => assumption); (case h9 => walk_at "g_sq")) | ((with_reducible refine' Hf.lkL_updG ?g9 ?n9 ?h9); (case g9 => ((fail_if_success ((apply Hf.Guard.of); assumption)); exact trivial)); (case n9 => walk_at "g_ne"); (case h9 => walk_at "g_sq")) | ((with_reducible refine' Hf.lkT_updG ?g9 ?n9 ?h9); (case g9 => ((fail_if_success ((apply Hf.Guard.of); assumption)); exact trivial)); (case n9 => walk_at "g_ne"); (case h9 => walk_at "g_sq")) | ((with_reducible refine' L2.Same.seq ?n9 ?h9); (case n9 => assumption); (case h9 => walk_at "g_sq")) | ((with_reducible refine' Hf.Same.seqT ?n9 ?h9); (case n9 => assumption); (case h9 => walk_at "g_sq")) | ((with_reducible refine' Hf.But.seq ?m9 ?n9 ?h9); (case m9 => assumption); (case n9 => walk_at "g_ne"); (case h9 => walk_at "g_sq")) | ((with_reducible refine' Hf.But.seqT ?m9 ?n9 ?h9); (case m9 => assumption); (case n9 => walk_at "g_ne"); (case h9 => walk_at "g_sq")) | ((with_reducible refine' Hf.But2.seq ?m9 ?n9 ?n8 ?h9); (case m9 => assumption); (case n9 => walk_at "g_ne"); (case n8 => walk_at "g_ne"); (case h9 => walk_at "g_sq")) | ((with_reducible refine' Hf.But2.seqT ?m9 ?n9 ?n8 ?h9); (case m9 => assumption); (case n9 => walk_at "g_ne"); (case n8 => walk_at "g_ne"); (case h9 => walk_at "g_sq")) | fail "g_sq")
local macro_rules | `(tactic| walk_at "g_but") => `(tactic| first | exact Hf.But.refl _ _ | assumption | (refine Hf.But.newT (by assumption) ?_; walk_at "g_but") | (refine Hf.But.upd ?_; walk_at "g_but") | (refine Hf.But.transT (by assumption) ?_; walk_at "g_but") | (refine Hf.But.transS (by assumption) ?_; walk_at "g_but") | fail "g_but")
local macro_rules | `(tactic| walk_at "g_but2") => `(tactic| first | exact Hf.But2.refl _ _ _ | assumption | (refine Hf.But2.newT (by assumption) ?_; walk_at "g_but2") | (refine Hf.But2.updL ?_; walk_at "g_but2") | (refine Hf.But2.updR ?_; walk_at "g_but2") | (refine Hf.But2.transT (by assumption) ?_; walk_at "g_but2") | (refine Hf.But2.transS (by assumption) ?_; walk_at "g_but2") | (refine Hf.But2.transL (by assumption) ?_; walk_at "g_but2") | (refine Hf.But2.transR (by assumption) ?_; walk_at "g_but2") | (refine Hf.But2.mut (by assumption) ?_; walk_at "g_but2") | (refine Hf.But2.butT (by assumption) (by assumption) ?_; walk_at "g_but2") | fail "g_but2")
local macro_rules | `(tactic| walk_at "g_same") => `(tactic| first | exact L2.Same.refl _ | assumption | (refine Hf.Same.newT' (by assumption) ?_; walk_at "g_same") | (refine Hf.Same.mut ?_ (by walk_at "g_free"); walk_at "g_same") | (refine Hf.Same.butT (by assumption) (by walk_at "g_free") ?_; walk_at "g_same") | (refine Hf.Same.but2T (by assumption) (by walk_at "g_free") (by walk_at "g_free") ?_; walk_at "g_same") | (refine Hf.Same.transT (by assumption) ?_; walk_at "g_same") | fail "g_same")
local macro_rules | `(tactic| walk_at "g_free") => `(tactic| first | assumption | ((refine' Hf.Same.free' (by assumption) ?h7); (case h7 => walk_at "g_same")) | ((refine' Hf.But.free (by assumption) ?h7 ?h8); (case h7 => walk_at "g_but"); (case h8 => walk_at "g_lk")) | ((refine' Hf.But2.free (by assumption) ?h7 ?h8 ?h6); (case h7 => walk_at "g_but2"); (case h8 => walk_at "g_lk"); (case h6 => walk_at "g_lk")) | fail "g_free")
local macro_rules | `(tactic| walk_at "g_set") => `(tactic| first | exact Hf.set_z | exact (Hf.set_s Hf.set_z) | exact (Hf.set_s (Hf.set_s Hf.set_z)) | exact (Hf.set_s (Hf.set_s (Hf.set_s Hf.set_z))) | exact (Hf.set_s (Hf.set_s (Hf.set_s (Hf.set_s Hf.set_z)))) | exact (Hf.set_s (Hf.set_s (Hf.set_s (Hf.set_s (Hf.set_s Hf.set_z))))) | exact (Hf.set_s (Hf.set_s (Hf.set_s (Hf.set_s (Hf.set_s (Hf.set_s Hf.set_z)))))) | exact (Hf.set_s (Hf.set_s (Hf.set_s (Hf.set_s (Hf.set_s (Hf.set_s (Hf.set_s Hf.set_z))))))) | exact (Hf.set_s (Hf.set_s (Hf.set_s (Hf.set_s (Hf.set_s (Hf.set_s (Hf.set_s (Hf.set_s Hf.set_z)))))))) | exact (Hf.set_s (Hf.set_s (Hf.set_s (Hf.set_s (Hf.set_s (Hf.set_s (Hf.set_s (Hf.set_s (Hf.set_s Hf.set_z))))))))) | exact (Hf.set_s (Hf.set_s (Hf.set_s (Hf.set_s (Hf.set_s (Hf.set_s (Hf.set_s (Hf.set_s (Hf.set_s (Hf.set_s Hf.set_z)))))))))) | exact (Hf.set_s (Hf.set_s (Hf.set_s (Hf.set_s (Hf.set_s (Hf.set_s (Hf.set_s (Hf.set_s (Hf.set_s (Hf.set_s (Hf.set_s Hf.set_z))))))))))) | exact (Hf.set_s (Hf.set_s (Hf.set_s (Hf.set_s (Hf.set_s (Hf.set_s (Hf.set_s (Hf.set_s (Hf.set_s (Hf.set_s (Hf.set_s (Hf.set_s Hf.set_z)))))))))))) | exact (Hf.set_s (Hf.set_s (Hf.set_s (Hf.set_s (Hf.set_s (Hf.set_s (Hf.set_s (Hf.set_s (Hf.set_s (Hf.set_s (Hf.set_s (Hf.set_s (Hf.set_s Hf.set_z))))))))))))) | exact (Hf.set_s (Hf.set_s (Hf.set_s (Hf.set_s (Hf.set_s (Hf.set_s (Hf.set_s (Hf.set_s (Hf.set_s (Hf.set_s (Hf.set_s (Hf.set_s (Hf.set_s (Hf.set_s Hf.set_z)))))))))))))) | exact (Hf.set_s (Hf.set_s (Hf.set_s (Hf.set_s (Hf.set_s (Hf.set_s (Hf.set_s (Hf.set_s (Hf.set_s (Hf.set_s (Hf.set_s (Hf.set_s (Hf.set_s (Hf.set_s (Hf.set_s Hf.set_z))))))))))))))) | exact (Hf.set_s (Hf.set_s (Hf.set_s (Hf.set_s (Hf.set_s (Hf.set_s (Hf.set_s (Hf.set_s (Hf.set_s (Hf.set_s (Hf.set_s (Hf.set_s (Hf.set_s (Hf.set_s (Hf.set_s (Hf.set_s Hf.set_z)))))))))))))))) | exact (Hf.set_s (Hf.set_s (Hf.set_s (Hf.set_s (Hf.set_s (Hf.set_s (Hf.set_s (Hf.set_s (Hf.set_s (Hf.set_s (Hf.set_s (Hf.set_s (Hf.set_s (Hf.set_s (Hf.set_s (Hf.set_s (Hf.set_s Hf.set_z))))))))))))))))) | exact (Hf.set_s (Hf.set_s (Hf.set_s (Hf.set_s (Hf.set_s (Hf.set_s (Hf.set_s (Hf.set_s (Hf.set_s (Hf.set_s (Hf.set_s (Hf.set_s (Hf.set_s (Hf.set_s (Hf.set_s (Hf.set_s (Hf.set_s (Hf.set_s Hf.set_z)))))))))))))))))) | exact (Hf.set_s (Hf.set_s (Hf.set_s (Hf.set_s (Hf.set_s (Hf.set_s (Hf.set_s (Hf.set_s (Hf.set_s (Hf.set_s (Hf.set_s (Hf.set_s (Hf.set_s (Hf.set_s (Hf.set_s (Hf.set_s (Hf.set_s (Hf.set_s (Hf.set_s Hf.set_z))))))))))))))))))) | exact (Hf.set_s (Hf.set_s (Hf.set_s (Hf.set_s (Hf.set_s (Hf.set_s (Hf.set_s (Hf.set_s (Hf.set_s (Hf.set_s (Hf.set_s (Hf.set_s (Hf.set_s (Hf.set_s (Hf.set_s (Hf.set_s (Hf.set_s (Hf.set_s (Hf.set_s (Hf.set_s Hf.set_z)))))))))))))))))))) | exact (Hf.set_s (Hf.set_s (Hf.set_s (Hf.set_s (Hf.set_s (Hf.set_s (Hf.set_s (Hf.set_s (Hf.set_s (Hf.set_s (Hf.set_s (Hf.set_s (Hf.set_s (Hf.set_s (Hf.set_s (Hf.set_s (Hf.set_s (Hf.set_s (Hf.set_s (Hf.set_s (Hf.set_s Hf.set_z))))))))))))))))))))) | exact (Hf.set_s (Hf.set_s (Hf.set_s (Hf.set_s (Hf.set_s (Hf.set_s (Hf.set_s (Hf.set_s (Hf.set_s (Hf.set_s (Hf.set_s (Hf.set_s (Hf.set_s (Hf.set_s (Hf.set_s (Hf.set_s (Hf.set_s (Hf.set_s (Hf.set_s (Hf.set_s (Hf.set_s (Hf.set_s Hf.set_z)))))))))))))))))))))) | exact (Hf.set_s (Hf.set_s (Hf.set_s (Hf.set_s (Hf.set_s (Hf.set_s (Hf.set_s (Hf.set_s (Hf.set_s (Hf.set_s (Hf.set_s (Hf.set_s (Hf.set_s (Hf.set_s (Hf.set_s (Hf.set_s (Hf.set_s (Hf.set_s (Hf.set_s (Hf.set_s (Hf.set_s (Hf.set_s (Hf.set_s Hf.set_z))))))))))))))))))))))) | fail "g_set")
local macro_rules | `(tactic| walk_at "g_sz") => `(tactic| first | exact Hf.sz4 (by decide) | exact Hf.sz4' (by decide) | (refine Hf.sz4 ?_; simp; done) | (refine Hf.sz4 ?_; simp; omega) | (refine Hf.sz4 ?_; simp only [List.length_cons, List.length_nil, List.length_take, List.length_drop, List.length_map, List.length_append, List.length_replicate]; omega) | (refine Hf.sz4' ?_; simp; omega) | (refine Hf.sz4' ?_; omega) | (refine Hf.sz4 ?_; omega) | fail "g_sz")
local macro_rules | `(tactic| walk_at "g_at") => `(tactic| first | rfl | assumption | fail "g_at")
local macro_rules | `(tactic| walk_at "g_c") => `(tactic| first | assumption | omega | decide | (refine Hf.mulL ?_; omega) | (refine Hf.mulR ?_; omega) | (refine Hf.divS ?_ ?_ <;> omega) | (refine Hf.mulL ?_; split <;> omega) | (refine ⟨?_, ?_, ?_⟩ <;> first | omega | decide) | (refine ⟨?_, ?_⟩ <;> first | assumption | omega) | fail "g_c")
local macro_rules | `(tactic| walk_at "g_ixn") => `(tactic| first | (show L2.ixN _ _ = some 0; rfl) | (show L2.ixN _ _ = some 1; rfl) | (show L2.ixN _ _ = some 2; rfl) | (show L2.ixN _ _ = some 3; rfl) | (show L2.ixN _ _ = some 4; rfl) | (show L2.ixN _ _ = some 5; rfl) | (show L2.ixN _ _ = some 6; rfl) | (show L2.ixN _ _ = some 7; rfl) | assumption | fail "g_ixn")
local macro_rules | `(tactic| walk_at "g_pow") => `(tactic| first | (show (10 : Int) ^ (9 : Int).toNat = 1000000000; rfl) | (show (10 : Int) ^ (18 : Int).toNat = 1000000000000000000; rfl) | (show (10 : Int) ^ (20 : Int).toNat = 100000000000000000000; rfl) | (show (10 : Int) ^ (29 : Int).toNat = 100000000000000000000000000000; rfl) | (show (10 : Int) ^ (26 : Int).toNat = 100000000000000000000000000; rfl) | (show (10 : Int) ^ (10 : Int).toNat = 10000000000; rfl) | (show (10 : Int) ^ (19 : Int).toNat = 10000000000000000000; rfl) | (show (10 : Int) ^ (27 : Int).toNat = 1000000000000000000000000000; rfl) | (show (10 : Int) ^ (28 : Int).toNat = 10000000000000000000000000000; rfl) | (show (10 : Int) ^ (25 : Int).toNat = 10000000000000000000000000; rfl) | (show (10 : Int) ^ (30 : Int).toNat = 1000000000000000000000000000000; rfl) | (show (10 : Int) ^ (2 : Int).toNat = 100; rfl) | (show (10 : Int) ^ (3 : Int).toNat = 1000; rfl) | (show (_ : Int) ^ (3 : Int).toNat = _; rfl) | fail "g_pow")
local macro_rules | `(tactic| walk_at "g_ty") => `(tactic| first | exact .base .non | exact .base (.bl _) | exact .base (.int _) | exact .base (.str _) | exact .base (.lst (by walk_at "g_lk")) | exact .base (.tup (by walk_at "g_lk")) | exact .base (.dK (by walk_at "g_lk")) | exact .base (.dT (by walk_at "g_lk")) | fail "g_ty")
local macro_rules | `(tactic| walk_at "g_pre") => `(tactic| first | (with_reducible assumption) | walk_at "g_lk" | walk_at "g_sq" | walk_at "g_but" | walk_at "g_but2" | walk_at "g_same" | walk_at "g_free" | omega | (refine ⟨?_, ?_⟩ <;> omega) | exact .inl (by omega) | exact .inr (by omega) | assumption | fail "g_pre")
local macro_rules | `(tactic| walk_at "g_call") => `(tactic| fail "g_call: no rule")
local macro_rules | `(tactic| walk_at "g_val") => `(tactic| first
  | (with_reducible refine' Hf.i_I0 ?_)
  | ((with_reducible refine' Hf.i_pow ?k1 ?k2 ?_); (case k1 => walk_at "g_c"); (case k2 => walk_at "g_pow"))
  | ((with_reducible refine' Hf.i_I ?k1 ?_); (case k1 => walk_at "g_c"))
  | (with_reducible refine' Hf.i_U ?_)
  | (with_reducible refine' Hf.i_eqI ?_)
  | (with_reducible refine' Hf.i_neI ?_)
  | (with_reducible refine' Hf.i_eqB ?_)
  | (with_reducible refine' Hf.i_neB ?_)
  | (with_reducible refine' Hf.i_eqS ?_)
  | (with_reducible refine' Hf.i_neS ?_)
  | ((with_reducible refine' Hf.i_ixL ?k1 ?k2 ?_); (case k1 => walk_at "g_sq"); (case k2 => walk_at "g_at"))
  | ((with_reducible refine' Hf.i_ixT ?k1 ?k2 ?_); (case k1 => walk_at "g_sq"); (case k2 => walk_at "g_at"))
  | ((with_reducible refine' Hf.i_ix2I ?k1 ?k2 ?k3 ?_); (case k1 => walk_at "g_sq"); (case k2 => omega); (case k3 => omega); intro _ _)
  | ((with_reducible refine' Hf.i_ix3I ?k1 ?k2 ?k3 ?_); (case k1 => walk_at "g_sq"); (case k2 => omega); (case k3 => omega); intro _ _)
  | ((with_reducible refine' Hf.i_ix4I ?k1 ?k2 ?k3 ?_); (case k1 => walk_at "g_sq"); (case k2 => omega); (case k3 => omega); intro _ _)
  | ((with_reducible refine' Hf.i_ix3R ?k1 ?k2 ?k3 ?_); (case k1 => walk_at "g_sq"); (case k2 => omega); (case k3 => omega); intro _ _)
  | ((with_reducible refine' Hf.i_ix4R ?k1 ?k2 ?k3 ?_); (case k1 => walk_at "g_sq"); (case k2 => omega); (case k3 => omega); intro _ _)
  | (with_reducible refine' Hf.i_abs ?_)
  | (with_reducible refine' Hf.i_int2 ?_)
  | (with_reducible refine' Hf.i_int1 ?_)
  | (with_reducible refine' Hf.i_intb ?_)
  | ((with_reducible refine' Hf.i_isi ?k1 ?k2 ?_); (case k1 => walk_at "g_ty"); (case k2 => first | (show L2.kitB _ _ = some true; decide +kernel) | (show L2.kitB _ _ = some false; decide +kernel)))
  | ((with_reducible refine' Hf.i_lenL ?k1 ?_); (case k1 => walk_at "g_sq"))
  | ((with_reducible refine' Hf.i_lenT ?k1 ?_); (case k1 => walk_at "g_sq"))
  | ((with_reducible refine' Hf.i_appendM ?k1 ?k2 ?_); (case k1 => walk_at "g_lk"); (case k2 => walk_at "g_sz"))
  | ((with_reducible refine' Hf.i_append ?k1 ?k2 ?_); (case k1 => walk_at "g_lk"); (case k2 => walk_at "g_sz"))
  | ((with_reducible refine' Hf.i_bmL ?k1 ?_); (case k1 => walk_at "g_sq"))
  | ((with_reducible refine' Hf.i_setLast ?k1 ?k2 ?_); (case k1 => walk_at "g_lk"); (case k2 => first | omega | (simp; done) | (simp; omega)))
  | ((with_reducible refine' Hf.i_setM ?k1 ?k2 ?k3 ?_); (case k1 => walk_at "g_lk"); (case k2 => omega); (case k3 => first | omega | (simp; done) | (simp; omega)))
  | ((with_reducible refine' Hf.i_setL ?k1 ?k2 ?_); (case k1 => walk_at "g_lk"); (case k2 => walk_at "g_ixn"); (try dsimp only [List.set_cons_zero, List.set_cons_succ])) | fail "g_val")
local macro_rules | `(tactic| walk_at "g_val2") => `(tactic| first
  | ((with_reducible refine' Hf.i_slInitM ?k1 ?_); (case k1 => walk_at "g_sq"); intro _ _)
  | ((with_reducible refine' Hf.i_ixLast ?k1 ?k2 ?_); (case k1 => walk_at "g_sq"); (case k2 => first | omega | (simp; done) | (simp; omega)); intro _ _)
  | ((with_reducible refine' Hf.i_slToM ?k1 ?k2 ?_); (case k1 => walk_at "g_sq"); (case k2 => omega); intro _ _)
  | ((with_reducible refine' Hf.i_slFromM ?k1 ?k2 ?_); (case k1 => walk_at "g_sq"); (case k2 => omega); intro _ _)
  | ((with_reducible refine' Hf.i_slMidM ?k1 ?k2 ?k3 ?_); (case k1 => walk_at "g_sq"); (case k2 => omega); (case k3 => omega); intro _ _)
  | ((with_reducible refine' Hf.i_slTo ?k1 ?k2 ?_); (case k1 => walk_at "g_sq"); (case k2 => omega); intro _ _)
  | ((with_reducible refine' Hf.i_slFrom ?k1 ?k2 ?_); (case k1 => walk_at "g_sq"); (case k2 => omega); intro _ _)
  | ((with_reducible refine' Hf.i_slMid ?k1 ?k2 ?k3 ?_); (case k1 => walk_at "g_sq"); (case k2 => omega); (case k3 => omega); intro _ _)
  | ((with_reducible refine' Hf.i_eqT2 ?k1 ?k2 ?_); (case k1 => walk_at "g_sq"); (case k2 => walk_at "g_sq"))
  | (with_reducible refine' Hf.i_sl ?_)
  | ((with_reducible refine' Hf.i_lenA ?k1 ?_); (case k1 => first | exact Hf.lenA_map (by walk_at "g_sq") | exact Hf.lenA_L (by walk_at "g_sq") | exact Hf.lenA_T (by walk_at "g_sq")))
  | ((with_reducible refine' Hf.i_ixM ?k1 ?k2 ?k3 ?_); (case k1 => walk_at "g_sq"); (case k2 => omega); (case k3 => first | omega | (simp; omega)); intro _ _)
  | ((with_reducible refine' Hf.i_listOf ?k1 ?_); (case k1 => walk_at "g_sq"); intro _ _)
  | ((with_reducible refine' Hf.i_listOfT ?k1 ?_); (case k1 => walk_at "g_sq"); intro _ _)
  | ((with_reducible refine' Hf.i_sum ?k1 ?_); (case k1 => walk_at "g_sq"))
  | ((with_reducible refine' Hf.i_all ?k1 ?_); (case k1 => walk_at "g_sq"))
  | ((with_reducible refine' Hf.i_min ?k1 ?k2 ?_); (case k1 => walk_at "g_sq"); (case k2 => omega); intro _ _ _)
  | ((with_reducible refine' Hf.i_max ?k1 ?k2 ?_); (case k1 => walk_at "g_sq"); (case k2 => omega); intro _ _ _)
  | ((with_reducible refine' Hf.i_eqLI ?k1 ?k2 ?_); (case k1 => walk_at "g_sq"); (case k2 => walk_at "g_sq"))
  | ((with_reducible refine' Hf.i_neLI ?k1 ?k2 ?_); (case k1 => walk_at "g_sq"); (case k2 => walk_at "g_sq"))
  | ((with_reducible refine' Hf.i_eqL0 ?k1 ?k2 ?_); (case k1 => walk_at "g_sq"); (case k2 => walk_at "g_sq"))
  | ((with_reducible refine' Hf.i_eq00 ?k1 ?k2 ?_); (case k1 => walk_at "g_sq"); (case k2 => walk_at "g_sq"))
  | ((with_reducible refine' Hf.i_ne00 ?k1 ?k2 ?_); (case k1 => walk_at "g_sq"); (case k2 => walk_at "g_sq"))
  | ((with_reducible refine' Hf.i_reverse ?k1 ?_); (case k1 => walk_at "g_lk"))
  | ((with_reducible refine' Hf.i_glst ?k1 ?k2 ?_); (case k1 => walk_at "g_sq"); (case k2 => rfl))
  | (with_reducible refine' Hf.i_lc ?_)
  | ((with_reducible refine' Hf.i_turn ?k1 ?_); (case k1 => first | ((show L2.wipe _ [_] = _); (apply Hf.wipe_one); walk_at "g_set") | ((show L2.wipe _ [_, _] = _); (apply Hf.wipe_two); walk_at "g_set"; walk_at "g_set") | ((show L2.wipe _ [_, _, _] = _); (apply Hf.wipe_three); walk_at "g_set"; walk_at "g_set"; walk_at "g_set")))
  | ((with_reducible refine' Hf.i_wiped ?k1 ?_); (case k1 => rfl))
  | (with_reducible refine' Hf.i_yes ?_)
  | (with_reducible refine' Hf.i_nopart ?_)
  | (with_reducible refine' Hf.i_part ?_)
  | (with_reducible refine' Hf.i_exint ?_)
  | ((with_reducible refine' Hf.i_catM ?k1 ?k2 ?k3 ?_); (case k1 => walk_at "g_lk"); (case k2 => walk_at "g_lk"); (case k3 => (simp; omega)); intro _ _)
  | ((with_reducible refine' Hf.i_catM1 ?k1 ?k2 ?k3 ?_); (case k1 => walk_at "g_lk"); (case k2 => walk_at "g_lk"); (case k3 => first | omega | (simp; omega)); intro _ _)
  | ((with_reducible refine' Hf.i_cat ?k1 ?k2 ?k3 ?_); (case k1 => walk_at "g_lk"); (case k2 => walk_at "g_lk"); (case k3 => walk_at "g_sz"); intro _ _)
  | ((with_reducible refine' Hf.i_repM ?k1 ?k2 ?_); (case k1 => walk_at "g_lk"); (case k2 => omega); intro _ _)
  | ((with_reducible refine' Hf.i_rep1 ?k1 ?k2 ?_); (case k1 => walk_at "g_lk"); (case k2 => omega); intro _ _) | fail "g_val2")
local macro_rules | `(tactic| walk_at "g1") => `(tactic| first
  | ((with_reducible refine' Hf.i_var ?k1 ?_); (case k1 => rfl))
  | (with_reducible refine' Hf.i_c ?_)
  | (with_reducible refine' Hf.i_op ?_)
  | (with_reducible refine' Hf.i_cons ?_)
  | (with_reducible refine' Hf.i_nil ?_)
  | (with_reducible refine' Hf.i_seq ?_)
  | (with_reducible refine' Hf.i_asg ?_)
  | ((with_reducible refine' Hf.i_gname ?k1 ?_); (case k1 => walk_at "g_set"))
  | (with_reducible refine' Hf.i_ret ?_)
  | (with_reducible refine' Hf.i_next ?_)
  | (with_reducible refine' Hf.i_ifs ?_)
  | ((with_reducible refine' Hf.ite_y ?k1 ?_); (case k1 => rfl))
  | ((with_reducible refine' Hf.ite_n ?k1 ?_); (case k1 => rfl))
  | (with_reducible refine' Hf.i_test ?_)
  | (with_reducible refine' Hf.i_B ?_)
  | (with_reducible refine' Hf.i_bl ?_)
  | (with_reducible refine' Hf.i_call ?_)
  | (with_reducible refine' Hf.i_cb ?_)
  | (with_reducible refine' Hf.i_tup ?_)
  | (with_reducible refine' Hf.i_lst ?_)
  | ((with_reducible refine' Hf.i_new ?k1 ?_); (case k1 => walk_at "g_sz"); intro _ _)
  | (with_reducible refine' Hf.i_un ?_)
  | (with_reducible refine' Hf.i_and ?_)
  | (with_reducible refine' Hf.i_or ?_)
  | (with_reducible refine' Hf.i_not ?_)
  | (with_reducible refine' Hf.i_andV ?_)
  | (with_reducible refine' Hf.i_orV ?_)
  | (with_reducible refine' Hf.i_notV ?_)
  | (with_reducible refine' Hf.i_ife ?_)
  | (with_reducible refine' Hf.i_drop ?_)
  | (with_reducible refine' Hf.i_par ?_)
  | ((with_reducible refine' Hf.i_par2 ?k1 ?_); (case k1 => (apply Hf.set_par; walk_at "g_set"; walk_at "g_set")))
  | ((with_reducible refine' Hf.i_aug ?k1 ?_); (case k1 => rfl))
  | (with_reducible refine' Hf.i_ip ?_)
  | (with_reducible refine' Hf.i_bm ?_)
  | (with_reducible refine' Hf.i_bm0 ?_)
  | ((with_reducible refine' Hf.i_gtup ?k1 ?k2 ?_); (case k1 => walk_at "g_sq"); (case k2 => rfl))
  | (with_reducible refine' Hf.i_gcons ?_)
  | (with_reducible refine' Hf.i_gnil ?_)
  | (with_reducible refine' Hf.i_gsub ?_)
  | (with_reducible refine' Hf.i_for ?_)
  | (with_reducible refine' Hf.i_rng1 ?_)
  | ((with_reducible refine' Hf.i_rng1' ?k1 ?k2 ?_); (case k1 => omega); (case k2 => omega))
  | (with_reducible refine' Hf.i_rng2 ?_)
  | ((with_reducible refine' Hf.i_rng2' ?k1 ?_); (case k1 => omega))
  | (with_reducible refine' Hf.i_ilist ?_)
  | ((with_reducible refine' Hf.i_ilist' ?k1 ?_); (case k1 => walk_at "g_sq"))
  | (with_reducible refine' Hf.i_itup ?_)
  | ((with_reducible refine' Hf.i_itup' ?k1 ?_); (case k1 => walk_at "g_sq"))
  | (with_reducible refine' Hf.i_retN ?_)
  | (with_reducible refine' Hf.i_brk ?_)
  | (with_reducible refine' Hf.i_cnt ?_)
  | walk_at "g_val"
  | walk_at "g_val2"
  | walk_at "g_call"
  | (with_reducible refine' Hf.i_isn ?_)
  | (with_reducible refine' Hf.i_tru ?_)
  | dsimp only | fail "g1")
local macro_rules | `(tactic| walk_at "go") => `(tactic| repeat walk_at "g1")
local macro_rules | `(tactic| walk_at "goI") => `(tactic| repeat ((fail_if_success (with_reducible refine' Hf.i_ifs ?_)); walk_at "g1"))
local macro_rules | `(tactic| walk_at "goF") => `(tactic| repeat ((fail_if_success (with_reducible refine' Hf.i_for ?_)); walk_at "g1"))
local macro_rules | `(tactic| walk_at "g_kit") => `(tactic| fail "g_kit")
local macro_rules | `(tactic| walk_at "g_exc") => `(tactic| fail "g_exc")
local macro_rules | `(tactic| walk_at "g_exm") => `(tactic| fail "g_exm")
local macro_rules | `(tactic| walk_at "g_kitB") => `(tactic| first | (show L2.kitB _ _ = some true; decide +kernel) | (show L2.kitB _ _ = some false; decide +kernel))
local macro_rules | `(tactic| walk_at "g_val2") => `(tactic| first
  | ((with_reducible refine' Hf.i_isXi ?k1 ?k2 ?_); (case k1 => walk_at "g_ty"); (case k2 => walk_at "g_kitB"))
  | ((with_reducible refine' Hf.i_isXo ?k1 ?k2 ?_); (case k1 => walk_at "g_ty"); (case k2 => walk_at "g_kit"))
  | ((with_reducible refine' Hf.i_isXR ?k1 ?k2 ?k3 ?_); (case k1 => walk_at "g_lk"); (case k2 => walk_at "g_exc"); (case k3 => walk_at "g_kit"))
  | ((with_reducible refine' Hf.i_isXT ?k1 ?k2 ?k3 ?_); (case k1 => walk_at "g_lk"); (case k2 => walk_at "g_exc"); (case k3 => walk_at "g_kit"))
  | ((with_reducible refine' Hf.i_isXRd ?k1 ?k4 ?k2 ?k3 ?_); (case k1 => walk_at "g_lk"); (case k4 => walk_at "g_lk"); (case k2 => walk_at "g_exc"); (case k3 => walk_at "g_kit"))
  | ((with_reducible refine' Hf.i_isXTd ?k1 ?k4 ?k2 ?k3 ?_); (case k1 => walk_at "g_lk"); (case k4 => walk_at "g_lk"); (case k2 => walk_at "g_exc"); (case k3 => walk_at "g_kit"))
  | (with_reducible refine' Hf.i_callS ?_)
  | (with_reducible refine' Hf.i_try ?_)
  | ((with_reducible refine' Hf.i_caught ?k1 ?k2 ?_); (case k1 => walk_at "g_exm"); (case k2 => (intro _; walk_at "g_set")); intro _ _)
  | ((with_reducible refine' Hf.i_nxAs ?k1 ?_); (case k1 => walk_at "g_set"))
  | (with_reducible refine' Hf.i_rtAs ?_)
  | (with_reducible refine' Hf.i_izip ?_)
  | ((with_reducible refine' Hf.i_neT2 ?k1 ?k2 ?_); (case k1 => walk_at "g_sq"); (case k2 => walk_at "g_sq"))
  | ((with_reducible refine' Hf.i_neS1 ?k1 ?k2 ?k3 ?_); (case k1 => walk_at "g_sq"); (case k2 => walk_at "g_sq"); (case k3 => decide +kernel))
  | ((with_reducible refine' Hf.i_izip' ?k1 ?k2 ?_); (case k1 => walk_at "g_sq"); (case k2 => walk_at "g_sq"))
  | (with_reducible refine' Hf.i_isnR ?_)
  | (with_reducible refine' Hf.i_isnN ?_)
  | ((with_reducible refine' Hf.i_cntV ?k1 ?k2 ?k3 ?k4 ?_); (case k1 => walk_at "g_sq"); (case k2 => rfl); (case k3 => rfl); (case k4 => rfl))
  | ((with_reducible refine' Hf.i_index ?k1 ?k2 ?k3 ?k4 ?_); (case k1 => walk_at "g_sq"); (case k2 => rfl); (case k3 => rfl); (case k4 => rfl)) | fail "g_val2x")
local macro_rules | `(tactic| walk_at "g_no") => `(tactic| first | contradiction | omega | (simp_all; done) | fail "g_no")
local macro_rules | `(tactic| walk_at "g_but") => `(tactic| first | exact Hf.But.refl _ _ | assumption | (refine Hf.But.newT (by assumption) ?_; walk_at "g_but") | (refine Hf.But.upd ?_; walk_at "g_but") | (refine Hf.But.transT (by assumption) ?_; walk_at "g_but") | (refine Hf.But.transS (by assumption) ?_; walk_at "g_but") | (refine Hf.But.mut (by assumption) ?_; walk_at "g_but") | (refine Hf.But.mutS (by assumption) (by assumption) ?_; walk_at "g_but") | fail "g_but")
local macro_rules | `(tactic| walk_at "g_cls") => `(tactic| fail "g_cls")
local macro_rules | `(tactic| walk_at "g_val2") => `(tactic| first
  | (with_reducible refine' Hf.i_fld ?_)
  | ((with_reducible refine' Hf.i_fldR ?k1 ?k2 ?k3 ?k4 ?_); (case k1 => walk_at "g_lk"); (case k2 => walk_at "g_cls"); (case k3 => walk_at "g_cls"); (case k4 => first | rfl | decide +kernel))
  | (with_reducible refine' Hf.i_sfld ?_)
  | ((with_reducible refine' Hf.i_setR ?k1 ?k2 ?k3 ?k4 ?_); (case k1 => walk_at "g_lk"); (case k2 => walk_at "g_cls"); (case k3 => walk_at "g_cls"); (case k4 => decide))
  | (with_reducible refine' Hf.i_meth ?_)
  | ((with_reducible refine' Hf.i_methR ?k1 ?k4 ?_); (case k1 => walk_at "g_lk"); (case k4 => first | rfl | decide +kernel))
  | ((with_reducible refine' Hf.i_make0 ?_); intro _ _ _ _ _)
  | (with_reducible refine' Hf.i_dnotin ?_)
  | (with_reducible refine' Hf.i_din ?_)
  | ((with_reducible refine' Hf.i_dg3 ?k1 ?k2 ?_); (case k1 => walk_at "g_lk"); (case k2 => walk_at "g_lk"))
  | ((with_reducible refine' Hf.i_dg2 ?k1 ?k2 ?_); (case k1 => walk_at "g_lk"); (case k2 => walk_at "g_lk"))
  | (with_reducible refine' Hf.i_dget ?_)
  | ((with_reducible refine' Hf.i_dv3 ?k1 ?k2 ?k3 ?_); (case k1 => walk_at "g_lk"); (case k2 => walk_at "g_lk"); (case k3 => assumption))
  | ((with_reducible refine' Hf.i_dv2 ?k1 ?k2 ?k3 ?_); (case k1 => walk_at "g_lk"); (case k2 => walk_at "g_lk"); (case k3 => assumption))
  | (with_reducible refine' Hf.i_dput ?_)
  | ((with_reducible refine' Hf.i_dp3 ?k1 ?k2 ?k3 ?_); (case k1 => walk_at "g_lk"); (case k2 => walk_at "g_lk"); (case k3 => omega))
  | ((with_reducible refine' Hf.i_dp2 ?k1 ?k2 ?k3 ?_); (case k1 => walk_at "g_lk"); (case k2 => walk_at "g_lk"); (case k3 => omega))
  | ((with_reducible refine' Hf.i_dnewT ?_); intro _ _)
  | (with_reducible refine' Hf.i_lstRg ?_)
  | (with_reducible refine' Hf.i_rg1 ?_)
  | (with_reducible refine' Hf.i_rg2 ?_)
  | (with_reducible refine' Hf.i_rg2' ?_)
  | (with_reducible refine' Hf.i_rg1' ?_)
  | ((with_reducible refine' Hf.i_rgok ?k1 ?k2 ?k3 ?k4 ?_); (case k1 => omega); (case k2 => omega); (case k3 => omega); (case k4 => omega); intro _ _) | fail "g_val2o")
local macro_rules | `(tactic| walk_at "g_but") => `(tactic| first | exact Hf.But.refl _ _ | assumption | (refine Hf.But.newT (by assumption) ?_; walk_at "g_but") | (refine Hf.But.upd ?_; walk_at "g_but") | (refine Hf.But.mutD (by assumption) ?_; walk_at "g_but") | (refine Hf.But.mutSD (by assumption) (by walk_at "g_free") ?_; walk_at "g_but") | (refine Hf.But.transT (by assumption) ?_; walk_at "g_but") | (refine Hf.But.transS (by assumption) ?_; walk_at "g_but") | fail "g_but")
local macro_rules | `(tactic| walk_at "g_dq") => `(tactic| first | (with_reducible assumption) | ((with_reducible refine' Hf.Dq.same ?s9 ?d9); (case d9 => assumption); (case s9 => walk_at "g_same")) | ((with_reducible refine' Hf.dq_mix ?q9 ?h9 ?s9); (case q9 => assumption); (case h9 => walk_at "g_lk"); (case s9 => walk_at "g_same")) | ((with_reducible refine' Hf.Dq.same (Hf.hid_mono ?s9) ?d9); (case d9 => assumption); (case s9 => walk_at "g_same")) | ((with_reducible refine' Hf.dq_two ?h5 ?h6 ?h7 ?h8 ?h9); (case h5 => walk_at "g_lk"); (case h6 => walk_at "g_lk"); (case h7 => walk_at "g_lk"); (case h8 => walk_at "g_lk"); (case h9 => walk_at "g_lk")) | fail "g_dq")
local macro_rules | `(tactic| walk_at "g_pre") => `(tactic| walk_at "g_dq")
local macro_rules | `(tactic| walk_at "g_val2") => `(tactic| first
  | ((with_reducible refine' Hf.i_neDq ?k1 ?k2 ?k3 ?_); (case k1 => walk_at "g_dq"); (case k2 => walk_at "g_dq"); (case k3 => first | exact Hf.shaped_mix _))
  | ((with_reducible refine' Hf.i_neL2 ?k1 ?k2 ?_); (case k1 => walk_at "g_sq"); (case k2 => walk_at "g_sq"))
  | ((with_reducible refine' Hf.i_reverseV ?k1 ?_); (case k1 => walk_at "g_lk"))
  | (with_reducible refine' Hf.i_rev ?_)
  | ((with_reducible refine' Hf.i_revV ?k1 ?_); (case k1 => walk_at "g_sq"); intro _ _)
  | fail "g_val2d")
local macro_rules | `(tactic| walk_at "goO") => `(tactic| repeat (first | walk_at "g1" | (with_reducible refine' Hf.ite_y (decide_eq_true (by omega)) ?_) | (with_reducible refine' Hf.ite_n (decide_eq_false (by omega)) ?_)))

section
variable {P : Program} {w : World} {K : PySem.W.Frag} {mg : Str → Option Value} {base : Heap}
def topS (i : Nat) : Stmt := PySem.Challenge.pw_hostfields_k71_plans_played.main.body.getD i (.Pass ⟨0, 0, 0, 0⟩)
abbrev s_is_number : Stmt := topS 16
abbrev s_are_numbers : Stmt := topS 17
abbrev s_is_plan : Stmt := topS 18
abbrev s_is_mix : Stmt := topS 22
abbrev s_must_be_mix : Stmt := topS 24
abbrev s_whole_of : Stmt := topS 25
abbrev s_played : Stmt := topS 26
abbrev s_l_stirred : Stmt := topS 28
abbrev s_l_opened : Stmt := topS 29
abbrev s_l_draw : Stmt := topS 30
abbrev s_l_drawn_plan : Stmt := topS 31
abbrev s_l_drawn_mix : Stmt := topS 32
abbrev s_l_is_whole : Stmt := topS 33
abbrev s_l_kind_of : Stmt := topS 34
abbrev s_l_due_of : Stmt := topS 35
abbrev s_l_all_figured : Stmt := topS 36
abbrev s_l_caught_by : Stmt := topS 37
abbrev s_law : Stmt := topS 38
theorem sc_is_number : FnScope ["thing"] ["thing"] (defScope s_is_number) := ⟨rfl, rfl, rfl, by decide +kernel, rfl, by decide +kernel, by decide +kernel⟩
theorem sc_are_numbers : FnScope ["thing", "many", "number"] ["thing", "many"] (defScope s_are_numbers) := ⟨rfl, rfl, rfl, by decide +kernel, rfl, by decide +kernel, by decide +kernel⟩
theorem sc_is_plan : FnScope ["hosts", "many", "plan"] ["hosts", "many", "plan"] (defScope s_is_plan) := ⟨rfl, rfl, rfl, by decide +kernel, rfl, by decide +kernel, by decide +kernel⟩
theorem sc_is_mix : FnScope ["mix", "part", "many", "hosts", "plan", "weight"] ["mix"] (defScope s_is_mix) := ⟨rfl, rfl, rfl, by decide +kernel, rfl, by decide +kernel, by decide +kernel⟩
theorem sc_must_be_mix : FnScope ["mix"] ["mix"] (defScope s_must_be_mix) := ⟨rfl, rfl, rfl, by decide +kernel, rfl, by decide +kernel, by decide +kernel⟩
theorem sc_whole_of : FnScope ["mix", "plan", "weight"] ["mix"] (defScope s_whole_of) := ⟨rfl, rfl, rfl, by decide +kernel, rfl, by decide +kernel, by decide +kernel⟩
theorem sc_played : FnScope ["mix", "number", "whole", "at", "left"] ["mix", "number"] (defScope s_played) := ⟨rfl, rfl, rfl, by decide +kernel, rfl, by decide +kernel, by decide +kernel⟩
theorem sc_l_stirred : FnScope ["_law_number", "_law_k", "_law_mixed"] ["_law_number", "_law_k"] (defScope s_l_stirred) := ⟨rfl, rfl, rfl, by decide +kernel, rfl, by decide +kernel, by decide +kernel⟩
theorem sc_l_opened : FnScope ["_law_cell"] ["_law_cell"] (defScope s_l_opened) := ⟨rfl, rfl, rfl, by decide +kernel, rfl, by decide +kernel, by decide +kernel⟩
theorem sc_l_draw : FnScope ["_law_left", "_law_base", "_law_digit", "_law_number", "_law_turn", "_law_mixed"] ["_law_left", "_law_base"] (defScope s_l_draw) := ⟨rfl, rfl, rfl, by decide +kernel, rfl, by decide +kernel, by decide +kernel⟩
theorem sc_l_drawn_plan : FnScope ["_law_left", "_law_hosts", "_law_many", "_law_found", "_law_rest", "_law_k", "_law_sent"] ["_law_left", "_law_hosts", "_law_many"] (defScope s_l_drawn_plan) := ⟨rfl, rfl, rfl, by decide +kernel, rfl, by decide +kernel, by decide +kernel⟩
theorem sc_l_drawn_mix : FnScope ["_law_left", "_law_hosts", "_law_many", "_law_most", "_law_found", "_law_k", "_law_weight"] ["_law_left", "_law_hosts", "_law_many", "_law_most"] (defScope s_l_drawn_mix) := ⟨rfl, rfl, rfl, by decide +kernel, rfl, by decide +kernel, by decide +kernel⟩
theorem sc_l_is_whole : FnScope ["_law_told"] ["_law_told"] (defScope s_l_is_whole) := ⟨rfl, rfl, rfl, by decide +kernel, rfl, by decide +kernel, by decide +kernel⟩
theorem sc_l_kind_of : FnScope ["_law_caught", "_law_some", "_law_names"] ["_law_caught"] (defScope s_l_kind_of) := ⟨rfl, rfl, rfl, by decide +kernel, rfl, by decide +kernel, by decide +kernel⟩
theorem sc_l_due_of : FnScope ["_law_mix", "_law_number", "_law_plan", "_law_weight"] ["_law_mix", "_law_number"] (defScope s_l_due_of) := ⟨rfl, rfl, rfl, by decide +kernel, rfl, by decide +kernel, by decide +kernel⟩
theorem sc_l_all_figured : FnScope ["_law_left", "_law_mix", "_law_whole", "_law_found", "_law_at", "_law_plan", "_law_weight", "_law_k"] ["_law_left", "_law_mix", "_law_whole"] (defScope s_l_all_figured) := ⟨rfl, rfl, rfl, by decide +kernel, rfl, by decide +kernel, by decide +kernel⟩
theorem sc_l_caught_by : FnScope ["_law_mix", "_law_number", "_law_caught", "e"] ["_law_mix", "_law_number"] (defScope s_l_caught_by) := ⟨rfl, rfl, rfl, by decide +kernel, rfl, by decide +kernel, by decide +kernel⟩
theorem sc_law : FnScope ["_law_script", "_law_cell", "_law_left", "_law_hosts", "_law_mix", "_law_handed", "_law_whole", "_law_total", "_law_number", "_law_turn", "_law_told", "_law_far", "_law_plan", "_law_weight"] ["_law_script"] (defScope s_law) := ⟨rfl, rfl, rfl, by decide +kernel, rfl, by decide +kernel, by decide +kernel⟩
structure Txt (K : PySem.W.Frag) (mg : Str → Option Value) where
  a_is_number : Addr
  d_is_number : FuncData
  F_is_number : Fun K "is_number" "is_number" s_is_number a_is_number d_is_number
  g_is_number : mg "is_number" = some (.ref a_is_number)
  b_is_number : Binds K d_is_number ["thing"] []
  a_are_numbers : Addr
  d_are_numbers : FuncData
  F_are_numbers : Fun K "are_numbers" "are_numbers" s_are_numbers a_are_numbers d_are_numbers
  g_are_numbers : mg "are_numbers" = some (.ref a_are_numbers)
  b_are_numbers : Binds K d_are_numbers ["thing", "many"] []
  a_is_plan : Addr
  d_is_plan : FuncData
  F_is_plan : Fun K "is_plan" "is_plan" s_is_plan a_is_plan d_is_plan
  g_is_plan : mg "is_plan" = some (.ref a_is_plan)
  b_is_plan : Binds K d_is_plan ["hosts", "many", "plan"] []
  a_is_mix : Addr
  d_is_mix : FuncData
  F_is_mix : Fun K "is_mix" "is_mix" s_is_mix a_is_mix d_is_mix
  g_is_mix : mg "is_mix" = some (.ref a_is_mix)
  b_is_mix : Binds K d_is_mix ["mix"] []
  a_must_be_mix : Addr
  d_must_be_mix : FuncData
  F_must_be_mix : Fun K "must_be_mix" "must_be_mix" s_must_be_mix a_must_be_mix d_must_be_mix
  g_must_be_mix : mg "must_be_mix" = some (.ref a_must_be_mix)
  b_must_be_mix : Binds K d_must_be_mix ["mix"] []
  a_whole_of : Addr
  d_whole_of : FuncData
  F_whole_of : Fun K "whole_of" "whole_of" s_whole_of a_whole_of d_whole_of
  g_whole_of : mg "whole_of" = some (.ref a_whole_of)
  b_whole_of : Binds K d_whole_of ["mix"] []
  a_played : Addr
  d_played : FuncData
  F_played : Fun K "played" "played" s_played a_played d_played
  g_played : mg "played" = some (.ref a_played)
  b_played : Binds K d_played ["mix", "number"] []
  a_l_stirred : Addr
  d_l_stirred : FuncData
  F_l_stirred : Fun K "_law_stirred" "_law_stirred" s_l_stirred a_l_stirred d_l_stirred
  g_l_stirred : mg "_law_stirred" = some (.ref a_l_stirred)
  b_l_stirred : Binds K d_l_stirred ["_law_number", "_law_k"] []
  a_l_opened : Addr
  d_l_opened : FuncData
  F_l_opened : Fun K "_law_opened" "_law_opened" s_l_opened a_l_opened d_l_opened
  g_l_opened : mg "_law_opened" = some (.ref a_l_opened)
  b_l_opened : Binds K d_l_opened ["_law_cell"] []
  a_l_draw : Addr
  d_l_draw : FuncData
  F_l_draw : Fun K "_law_draw" "_law_draw" s_l_draw a_l_draw d_l_draw
  g_l_draw : mg "_law_draw" = some (.ref a_l_draw)
  b_l_draw : Binds K d_l_draw ["_law_left", "_law_base"] []
  a_l_drawn_plan : Addr
  d_l_drawn_plan : FuncData
  F_l_drawn_plan : Fun K "_law_drawn_plan" "_law_drawn_plan" s_l_drawn_plan a_l_drawn_plan d_l_drawn_plan
  g_l_drawn_plan : mg "_law_drawn_plan" = some (.ref a_l_drawn_plan)
  b_l_drawn_plan : Binds K d_l_drawn_plan ["_law_left", "_law_hosts", "_law_many"] []
  a_l_drawn_mix : Addr
  d_l_drawn_mix : FuncData
  F_l_drawn_mix : Fun K "_law_drawn_mix" "_law_drawn_mix" s_l_drawn_mix a_l_drawn_mix d_l_drawn_mix
  g_l_drawn_mix : mg "_law_drawn_mix" = some (.ref a_l_drawn_mix)
  b_l_drawn_mix : Binds K d_l_drawn_mix ["_law_left", "_law_hosts", "_law_many", "_law_most"] []
  a_l_is_whole : Addr
  d_l_is_whole : FuncData
  F_l_is_whole : Fun K "_law_is_whole" "_law_is_whole" s_l_is_whole a_l_is_whole d_l_is_whole
  g_l_is_whole : mg "_law_is_whole" = some (.ref a_l_is_whole)
  b_l_is_whole : Binds K d_l_is_whole ["_law_told"] []
  a_l_kind_of : Addr
  d_l_kind_of : FuncData
  F_l_kind_of : Fun K "_law_kind_of" "_law_kind_of" s_l_kind_of a_l_kind_of d_l_kind_of
  g_l_kind_of : mg "_law_kind_of" = some (.ref a_l_kind_of)
  b_l_kind_of : Binds K d_l_kind_of ["_law_caught"] []
  a_l_due_of : Addr
  d_l_due_of : FuncData
  F_l_due_of : Fun K "_law_due_of" "_law_due_of" s_l_due_of a_l_due_of d_l_due_of
  g_l_due_of : mg "_law_due_of" = some (.ref a_l_due_of)
  b_l_due_of : Binds K d_l_due_of ["_law_mix", "_law_number"] []
  a_l_all_figured : Addr
  d_l_all_figured : FuncData
  F_l_all_figured : Fun K "_law_all_figured" "_law_all_figured" s_l_all_figured a_l_all_figured d_l_all_figured
  g_l_all_figured : mg "_law_all_figured" = some (.ref a_l_all_figured)
  b_l_all_figured : Binds K d_l_all_figured ["_law_left", "_law_mix", "_law_whole"] []
  a_l_caught_by : Addr
  d_l_caught_by : FuncData
  F_l_caught_by : Fun K "_law_caught_by" "_law_caught_by" s_l_caught_by a_l_caught_by d_l_caught_by
  g_l_caught_by : mg "_law_caught_by" = some (.ref a_l_caught_by)
  b_l_caught_by : Binds K d_l_caught_by ["_law_mix", "_law_number"] []
  a_law : Addr
  d_law : FuncData
  F_law : Fun K "law" "law" s_law a_law d_law
  g_law : mg "law" = some (.ref a_law)
  b_law : Binds K d_law ["_law_script"] []
  z_ValueError : mg "ValueError" = none
  z_bool : mg "bool" = none
  z_int : mg "int" = none
  z_isinstance : mg "isinstance" = none
  z_len : mg "len" = none
  z_list : mg "list" = none
  z_min : mg "min" = none
  z_range : mg "range" = none
  z_sum : mg "sum" = none
  z_tuple : mg "tuple" = none
  t_MOST_HOSTS : Tok
  c_MOST_HOSTS : mg "MOST_HOSTS" = some (.int 40 t_MOST_HOSTS)
  t_MOST_FIELDS : Tok
  c_MOST_FIELDS : mg "MOST_FIELDS" = some (.int 8 t_MOST_FIELDS)
  e_HostError : Addr
  g_HostError : mg "HostError" = some (.ref e_HostError)
  i_HostError : PySem.W.isClsIn K e_HostError = true
  t_HostError : PySem.W.typeIn K (.ref e_HostError) = some (.type "type")
  y_HostError : PySem.W.subIn K (.ref e_HostError) (.type "BaseException") = some true
  e_NoBattle : Addr
  g_NoBattle : mg "NoBattle" = some (.ref e_NoBattle)
  i_NoBattle : PySem.W.isClsIn K e_NoBattle = true
  t_NoBattle : PySem.W.typeIn K (.ref e_NoBattle) = some (.type "type")
  y_NoBattle : PySem.W.subIn K (.ref e_NoBattle) (.type "BaseException") = some true
  e_NoPlan : Addr
  g_NoPlan : mg "NoPlan" = some (.ref e_NoPlan)
  i_NoPlan : PySem.W.isClsIn K e_NoPlan = true
  t_NoPlan : PySem.W.typeIn K (.ref e_NoPlan) = some (.type "type")
  y_NoPlan : PySem.W.subIn K (.ref e_NoPlan) (.type "BaseException") = some true
  e_NoMix : Addr
  g_NoMix : mg "NoMix" = some (.ref e_NoMix)
  i_NoMix : PySem.W.isClsIn K e_NoMix = true
  t_NoMix : PySem.W.typeIn K (.ref e_NoMix) = some (.type "type")
  y_NoMix : PySem.W.subIn K (.ref e_NoMix) (.type "BaseException") = some true
  e_NoStream : Addr
  g_NoStream : mg "NoStream" = some (.ref e_NoStream)
  i_NoStream : PySem.W.isClsIn K e_NoStream = true
  t_NoStream : PySem.W.typeIn K (.ref e_NoStream) = some (.type "type")
  y_NoStream : PySem.W.subIn K (.ref e_NoStream) (.type "BaseException") = some true
  e_NoSide : Addr
  g_NoSide : mg "NoSide" = some (.ref e_NoSide)
  i_NoSide : PySem.W.isClsIn K e_NoSide = true
  t_NoSide : PySem.W.typeIn K (.ref e_NoSide) = some (.type "type")
  y_NoSide : PySem.W.subIn K (.ref e_NoSide) (.type "BaseException") = some true
  e_NoAlike : Addr
  g_NoAlike : mg "NoAlike" = some (.ref e_NoAlike)
  i_NoAlike : PySem.W.isClsIn K e_NoAlike = true
  t_NoAlike : PySem.W.typeIn K (.ref e_NoAlike) = some (.type "type")
  y_NoAlike : PySem.W.subIn K (.ref e_NoAlike) (.type "BaseException") = some true
  e_NoNumber : Addr
  g_NoNumber : mg "NoNumber" = some (.ref e_NoNumber)
  i_NoNumber : PySem.W.isClsIn K e_NoNumber = true
  t_NoNumber : PySem.W.typeIn K (.ref e_NoNumber) = some (.type "type")
  y_NoNumber : PySem.W.subIn K (.ref e_NoNumber) (.type "BaseException") = some true
  e_TooGreat : Addr
  g_TooGreat : mg "TooGreat" = some (.ref e_TooGreat)
  i_TooGreat : PySem.W.isClsIn K e_TooGreat = true
  t_TooGreat : PySem.W.typeIn K (.ref e_TooGreat) = some (.type "type")
  y_TooGreat : PySem.W.subIn K (.ref e_TooGreat) (.type "BaseException") = some true
  e_NoEven : Addr
  g_NoEven : mg "NoEven" = some (.ref e_NoEven)
  i_NoEven : PySem.W.isClsIn K e_NoEven = true
  t_NoEven : PySem.W.typeIn K (.ref e_NoEven) = some (.type "type")
  y_NoEven : PySem.W.subIn K (.ref e_NoEven) (.type "BaseException") = some true
  e_NoText : Addr
  g_NoText : mg "NoText" = some (.ref e_NoText)
  i_NoText : PySem.W.isClsIn K e_NoText = true
  t_NoText : PySem.W.typeIn K (.ref e_NoText) = some (.type "type")
  y_NoText : PySem.W.subIn K (.ref e_NoText) (.type "BaseException") = some true
  e_NoRow : Addr
  g_NoRow : mg "NoRow" = some (.ref e_NoRow)
  i_NoRow : PySem.W.isClsIn K e_NoRow = true
  t_NoRow : PySem.W.typeIn K (.ref e_NoRow) = some (.type "type")
  y_NoRow : PySem.W.subIn K (.ref e_NoRow) (.type "BaseException") = some true
  e_NoName : Addr
  g_NoName : mg "NoName" = some (.ref e_NoName)
  i_NoName : PySem.W.isClsIn K e_NoName = true
  t_NoName : PySem.W.typeIn K (.ref e_NoName) = some (.type "type")
  y_NoName : PySem.W.subIn K (.ref e_NoName) (.type "BaseException") = some true
  e_NoPlace : Addr
  g_NoPlace : mg "NoPlace" = some (.ref e_NoPlace)
  i_NoPlace : PySem.W.isClsIn K e_NoPlace = true
  t_NoPlace : PySem.W.typeIn K (.ref e_NoPlace) = some (.type "type")
  y_NoPlace : PySem.W.subIn K (.ref e_NoPlace) (.type "BaseException") = some true
  x_NoNumber : PySem.W.excIn K e_NoNumber [.type "ValueError", .type "Exception", .type "BaseException", .type "object"] "ValueError.__new__" = true
  k_NoNumber : PySem.W.keepIn K (.ref e_NoNumber) = true
  hg_NoNumber : PySem.W.findIn K (.ref e_NoNumber) "__getattribute__" = some (some (.builtin "BaseException.__getattribute__"))
  hk_NoNumber : PySem.W.findIn K (.ref e_NoNumber) "__getattr__" = some none
  hd_NoNumber : PySem.W.hasDictIn K e_NoNumber = true
  ha_NoNumber : PySem.W.findIn K (.ref e_NoNumber) "__class__" = some (some (.builtin "object.__class__"))
  hm_NoNumber : PySem.W.mroIn K e_NoNumber (.type "object") = some true
  v_NoNumber : PySem.W.subIn K (.ref e_NoNumber) (.type "ValueError") = some true
  s_NoNumber_HostError : PySem.W.subIn K (.ref e_NoNumber) (.ref e_HostError) = some true
  s_NoNumber_NoBattle : PySem.W.subIn K (.ref e_NoNumber) (.ref e_NoBattle) = some false
  s_NoNumber_NoPlan : PySem.W.subIn K (.ref e_NoNumber) (.ref e_NoPlan) = some false
  s_NoNumber_NoMix : PySem.W.subIn K (.ref e_NoNumber) (.ref e_NoMix) = some false
  s_NoNumber_NoStream : PySem.W.subIn K (.ref e_NoNumber) (.ref e_NoStream) = some false
  s_NoNumber_NoSide : PySem.W.subIn K (.ref e_NoNumber) (.ref e_NoSide) = some false
  s_NoNumber_NoAlike : PySem.W.subIn K (.ref e_NoNumber) (.ref e_NoAlike) = some false
  s_NoNumber_NoNumber : PySem.W.subIn K (.ref e_NoNumber) (.ref e_NoNumber) = some true
  s_NoNumber_TooGreat : PySem.W.subIn K (.ref e_NoNumber) (.ref e_TooGreat) = some false
  s_NoNumber_NoEven : PySem.W.subIn K (.ref e_NoNumber) (.ref e_NoEven) = some false
  s_NoNumber_NoText : PySem.W.subIn K (.ref e_NoNumber) (.ref e_NoText) = some false
  s_NoNumber_NoRow : PySem.W.subIn K (.ref e_NoNumber) (.ref e_NoRow) = some false
  s_NoNumber_NoName : PySem.W.subIn K (.ref e_NoNumber) (.ref e_NoName) = some false
  s_NoNumber_NoPlace : PySem.W.subIn K (.ref e_NoNumber) (.ref e_NoPlace) = some false
  ho_n : PySem.W.specialIn K (.builtin "object.__class__") "__get__" = some (some (.builtin "getset_descriptor.__get__"))
  ho_t : PySem.W.takesIn K (.builtin "object.__class__") = some true
section
variable {K : PySem.W.Frag} {mg : Str → Option Value} (T : Txt K mg)
include T
theorem cl_HostError : ClsT K T.e_HostError := ⟨T.i_HostError, T.t_HostError⟩
theorem cl_NoBattle : ClsT K T.e_NoBattle := ⟨T.i_NoBattle, T.t_NoBattle⟩
theorem cl_NoPlan : ClsT K T.e_NoPlan := ⟨T.i_NoPlan, T.t_NoPlan⟩
theorem cl_NoMix : ClsT K T.e_NoMix := ⟨T.i_NoMix, T.t_NoMix⟩
theorem cl_NoStream : ClsT K T.e_NoStream := ⟨T.i_NoStream, T.t_NoStream⟩
theorem cl_NoSide : ClsT K T.e_NoSide := ⟨T.i_NoSide, T.t_NoSide⟩
theorem cl_NoAlike : ClsT K T.e_NoAlike := ⟨T.i_NoAlike, T.t_NoAlike⟩
theorem cl_NoNumber : ClsT K T.e_NoNumber := ⟨T.i_NoNumber, T.t_NoNumber⟩
theorem cl_TooGreat : ClsT K T.e_TooGreat := ⟨T.i_TooGreat, T.t_TooGreat⟩
theorem cl_NoEven : ClsT K T.e_NoEven := ⟨T.i_NoEven, T.t_NoEven⟩
theorem cl_NoText : ClsT K T.e_NoText := ⟨T.i_NoText, T.t_NoText⟩
theorem cl_NoRow : ClsT K T.e_NoRow := ⟨T.i_NoRow, T.t_NoRow⟩
theorem cl_NoName : ClsT K T.e_NoName := ⟨T.i_NoName, T.t_NoName⟩
theorem cl_NoPlace : ClsT K T.e_NoPlace := ⟨T.i_NoPlace, T.t_NoPlace⟩
theorem exc_NoNumber : L2.ExcC K T.e_NoNumber := ⟨T.hg_NoNumber, T.hk_NoNumber, T.y_NoNumber, T.hd_NoNumber, T.ha_NoNumber, T.ho_n, T.ho_t, T.hm_NoNumber⟩
theorem kit_NoNumber_ValueError : PySem.W.kitOne K (.ref T.e_NoNumber) (.type "ValueError") = some true := kit_v T.v_NoNumber (by decide +kernel)
theorem kit_NoNumber_HostError : PySem.W.kitOne K (.ref T.e_NoNumber) (.ref T.e_HostError) = some true := kit_t (cl_HostError T) T.s_NoNumber_HostError
theorem exm_NoNumber_HostError : PySem.W.exmOne K (.ref T.e_NoNumber) (.ref T.e_HostError) = some true := exm_t (cl_HostError T) T.y_HostError T.s_NoNumber_HostError
theorem kit_NoNumber_NoBattle : PySem.W.kitOne K (.ref T.e_NoNumber) (.ref T.e_NoBattle) = some false := kit_f (cl_NoBattle T) T.s_NoNumber_NoNumber T.s_NoNumber_NoBattle
theorem kit_NoNumber_NoPlan : PySem.W.kitOne K (.ref T.e_NoNumber) (.ref T.e_NoPlan) = some false := kit_f (cl_NoPlan T) T.s_NoNumber_NoNumber T.s_NoNumber_NoPlan
theorem kit_NoNumber_NoMix : PySem.W.kitOne K (.ref T.e_NoNumber) (.ref T.e_NoMix) = some false := kit_f (cl_NoMix T) T.s_NoNumber_NoNumber T.s_NoNumber_NoMix
theorem kit_NoNumber_NoStream : PySem.W.kitOne K (.ref T.e_NoNumber) (.ref T.e_NoStream) = some false := kit_f (cl_NoStream T) T.s_NoNumber_NoNumber T.s_NoNumber_NoStream
theorem kit_NoNumber_NoSide : PySem.W.kitOne K (.ref T.e_NoNumber) (.ref T.e_NoSide) = some false := kit_f (cl_NoSide T) T.s_NoNumber_NoNumber T.s_NoNumber_NoSide
theorem kit_NoNumber_NoAlike : PySem.W.kitOne K (.ref T.e_NoNumber) (.ref T.e_NoAlike) = some false := kit_f (cl_NoAlike T) T.s_NoNumber_NoNumber T.s_NoNumber_NoAlike
theorem kit_NoNumber_NoNumber : PySem.W.kitOne K (.ref T.e_NoNumber) (.ref T.e_NoNumber) = some true := kit_t (cl_NoNumber T) T.s_NoNumber_NoNumber
theorem exm_NoNumber_NoNumber : PySem.W.exmOne K (.ref T.e_NoNumber) (.ref T.e_NoNumber) = some true := exm_t (cl_NoNumber T) T.y_NoNumber T.s_NoNumber_NoNumber
theorem kit_NoNumber_TooGreat : PySem.W.kitOne K (.ref T.e_NoNumber) (.ref T.e_TooGreat) = some false := kit_f (cl_TooGreat T) T.s_NoNumber_NoNumber T.s_NoNumber_TooGreat
theorem kit_NoNumber_NoEven : PySem.W.kitOne K (.ref T.e_NoNumber) (.ref T.e_NoEven) = some false := kit_f (cl_NoEven T) T.s_NoNumber_NoNumber T.s_NoNumber_NoEven
theorem kit_NoNumber_NoText : PySem.W.kitOne K (.ref T.e_NoNumber) (.ref T.e_NoText) = some false := kit_f (cl_NoText T) T.s_NoNumber_NoNumber T.s_NoNumber_NoText
theorem kit_NoNumber_NoRow : PySem.W.kitOne K (.ref T.e_NoNumber) (.ref T.e_NoRow) = some false := kit_f (cl_NoRow T) T.s_NoNumber_NoNumber T.s_NoNumber_NoRow
theorem kit_NoNumber_NoName : PySem.W.kitOne K (.ref T.e_NoNumber) (.ref T.e_NoName) = some false := kit_f (cl_NoName T) T.s_NoNumber_NoNumber T.s_NoNumber_NoName
theorem kit_NoNumber_NoPlace : PySem.W.kitOne K (.ref T.e_NoNumber) (.ref T.e_NoPlace) = some false := kit_f (cl_NoPlace T) T.s_NoNumber_NoNumber T.s_NoNumber_NoPlace
end
local macro_rules | `(tactic| walk_at "g_kit") => `(tactic| first | (with_reducible exact kit_NoNumber_ValueError _) | (with_reducible exact kit_NoNumber_HostError _) | (with_reducible exact kit_NoNumber_NoBattle _) | (with_reducible exact kit_NoNumber_NoPlan _) | (with_reducible exact kit_NoNumber_NoMix _) | (with_reducible exact kit_NoNumber_NoStream _) | (with_reducible exact kit_NoNumber_NoSide _) | (with_reducible exact kit_NoNumber_NoAlike _) | (with_reducible exact kit_NoNumber_NoNumber _) | (with_reducible exact kit_NoNumber_TooGreat _) | (with_reducible exact kit_NoNumber_NoEven _) | (with_reducible exact kit_NoNumber_NoText _) | (with_reducible exact kit_NoNumber_NoRow _) | (with_reducible exact kit_NoNumber_NoName _) | (with_reducible exact kit_NoNumber_NoPlace _))
local macro_rules | `(tactic| walk_at "g_exc") => `(tactic| first | (with_reducible exact exc_NoNumber _))
local macro_rules | `(tactic| walk_at "g_exm") => `(tactic| first | (with_reducible exact exm_NoNumber_HostError _) | (with_reducible exact exm_NoNumber_NoNumber _))
def Left (n m : Int) : Prop := m = 1 ∨ (m = 0 ∧ 0 ≤ n ∧ n < 2147483629)

def sp_l_stirred (K : PySem.W.Frag) : Sp := fun vs H Q E => ∃ (n c : Int), vs = [.int n, .int c] ∧ (0 ≤ n ∧ n < 2147483629) ∧ (0 ≤ c ∧ c ≤ 1000000) ∧ ∀ (r : Int), (0 ≤ r ∧ r < 2147483587) → Q (.int r) H
theorem use_l_stirred {K : PySem.W.Frag} {H : Hp} {Q : VK} {E : XK} {n c : Int} (p0 : 0 ≤ n ∧ n < 2147483629) (p1 : 0 ≤ c ∧ c ≤ 1000000) (k : ∀ (r : Int), (0 ≤ r ∧ r < 2147483587) → Q (.int r) H) : sp_l_stirred K [.int n, .int c] H Q E := ⟨n, c, rfl, p0, p1, k⟩
theorem len_l_stirred {K : PySem.W.Frag} (vs : List V) (H : Hp) (Q : VK) (E : XK) (h : sp_l_stirred K vs H Q E) : vs.length = ["_law_number", "_law_k"].length := by
  obtain ⟨_, _, rfl, _⟩ := h
  rfl
local macro_rules | `(tactic| walk_at "g_call") => `(tactic| ((with_reducible refine' use_l_stirred ?c0 ?c1 ?_); (case c0 => walk_at "g_pre"); (case c1 => walk_at "g_pre"); intros))
theorem ok_l_stirred (T : Txt K mg) : FnOk P w K mg base CX0 1 T.a_l_stirred T.d_l_stirred ["_law_number", "_law_k"] (sp_l_stirred K) := by
  refine T.F_l_stirred.ok sc_l_stirred len_l_stirred (fun cdv A outer s H vs Q E hr h => ?_)
  refine ⟨_, (pss_cons (ps_set (i := 2) sc_l_stirred.nd rfl (Or.inl rfl) (pe_op op_mod (pe_op op_mulA (pe_op op_add (pe_op op_add (pe_op op_mulA (pv 0) (pv 0)) (pe_op op_mulA (pv 1) (pv 0))) (pe_op op_mulA (pe_op op_mulA pe_int (pv 1)) (pv 1))) pe_int) pe_int))
      (pss_one (ps_ret (pe_op op_mod (pe_op op_mulA (pv 2) (pv 2)) pe_int)))), ?_⟩
  try dsimp only [L2.cxOf, L2.Cx.nox, L2.Cx.wish, List.map_cons, List.map_nil]
  obtain ⟨n, c, rfl, p0, p1, k⟩ := h
  refine start_to (σ := [some _, some _, none]) rfl ?_
  walk_at "go"
  refine k _ ?_
  omega
def sp_l_opened (K : PySem.W.Frag) : Sp := fun vs H Q E => ∃ (c : Int), vs = [.int c] ∧ ∀ (n m : Int) (p : Addr), (Left n m) → (H p = none) → Q (.ref p) (upd H p (.lst [.int n, .int m, .int 0]))
theorem use_l_opened {K : PySem.W.Frag} {H : Hp} {Q : VK} {E : XK} {c : Int}  (k : ∀ (n m : Int) (p : Addr), (Left n m) → (H p = none) → Q (.ref p) (upd H p (.lst [.int n, .int m, .int 0]))) : sp_l_opened K [.int c] H Q E := ⟨c, rfl, k⟩
theorem len_l_opened {K : PySem.W.Frag} (vs : List V) (H : Hp) (Q : VK) (E : XK) (h : sp_l_opened K vs H Q E) : vs.length = ["_law_cell"].length := by
  obtain ⟨_, rfl, _⟩ := h
  rfl
local macro_rules | `(tactic| walk_at "g_call") => `(tactic| ((with_reducible refine' use_l_opened ?_); intros))
theorem ok_l_opened (T : Txt K mg) : FnOk P w K mg base CX0 1 T.a_l_opened T.d_l_opened ["_law_cell"] (sp_l_opened K) := by
  refine T.F_l_opened.ok sc_l_opened len_l_opened (fun cdv A outer s H vs Q E hr h => ?_)
  refine ⟨_, (pss_cons (ps_if (pt_cmpR op_lt (pv 0) (pe_op op_pow pe_int pe_int) (nomark _)) (pss_one (ps_ret (pe_lst (pa_cons (pe_op op_mod (pv 0) pe_int) (pa_cons pe_int (pa_cons pe_int pa_nil)))))) pss_nil)
      (pss_one (ps_ret (pe_lst (pa_cons (pe_op op_sub (pv 0) (pe_op op_pow pe_int pe_int)) (pa_cons pe_int (pa_cons pe_int pa_nil))))))), ?_⟩
  try dsimp only [L2.cxOf, L2.Cx.nox, L2.Cx.wish, List.map_cons, List.map_nil]
  obtain ⟨c, rfl, k⟩ := h
  refine start_to (σ := [some _]) rfl ?_
  walk_at "go"
  refine ite_d (fun c1 => ?_) (fun c1 => ?_)
  · walk_at "go"
    exact k _ _ _ (.inr ⟨rfl, by omega⟩) (by assumption)
  · walk_at "go"
    exact k _ _ _ (.inl rfl) (by assumption)

def sp_l_draw (K : PySem.W.Frag) : Sp := fun vs H Q E => ∃ (a : Addr) (n m c b : Int), vs = [.ref a, .int b] ∧ (H a = some (.lst [.int n, .int m, .int c])) ∧ (Left n m) ∧ (0 ≤ c ∧ c ≤ 100000) ∧ (0 < b ∧ b < 2 ^ 200) ∧ ∀ (d n' c' : Int) (H' : Hp), (0 ≤ d ∧ d < b) → (Left n' m) → (0 ≤ c' ∧ c' ≤ c + 4) → (But a H H') → (H' a = some (.lst [.int n', .int m, .int c'])) → Q (.int d) H'
theorem use_l_draw {K : PySem.W.Frag} {H : Hp} {Q : VK} {E : XK} {a : Addr} {n m c b : Int} (p0 : H a = some (.lst [.int n, .int m, .int c])) (p1 : Left n m) (p2 : 0 ≤ c ∧ c ≤ 100000) (p3 : 0 < b ∧ b < 2 ^ 200) (k : ∀ (d n' c' : Int) (H' : Hp), (0 ≤ d ∧ d < b) → (Left n' m) → (0 ≤ c' ∧ c' ≤ c + 4) → (But a H H') → (H' a = some (.lst [.int n', .int m, .int c'])) → Q (.int d) H') : sp_l_draw K [.ref a, .int b] H Q E := ⟨a, n, m, c, b, rfl, p0, p1, p2, p3, k⟩
theorem len_l_draw {K : PySem.W.Frag} (vs : List V) (H : Hp) (Q : VK) (E : XK) (h : sp_l_draw K vs H Q E) : vs.length = ["_law_left", "_law_base"].length := by
  obtain ⟨_, _, _, _, _, rfl, _⟩ := h
  rfl
local macro_rules | `(tactic| walk_at "g_call") => `(tactic| ((with_reducible refine' use_l_draw ?c0 ?c1 ?c2 ?c3 ?_); (case c0 => walk_at "g_pre"); (case c1 => walk_at "g_pre"); (case c2 => walk_at "g_pre"); (case c3 => walk_at "g_pre"); intros))
theorem ok_l_draw (T : Txt K mg) : FnOk P w K mg base CX0 2 T.a_l_draw T.d_l_draw ["_law_left", "_law_base"] (sp_l_draw K) := by
  have G_l_stirred := ok_l_stirred (P := P) (w := w) (base := base) T
  refine T.F_l_draw.ok sc_l_draw len_l_draw (fun cdv A outer s H vs Q E hr h => ?_)
  refine ⟨_, (pss_cons (ps_if (pt_cmpR op_eq (pe_ix (ix_listK K rfl) (pv 0) pe_int (fun _ _ => rfl)) pe_int (nomark _)) (pss_cons (ps_set (i := 2) sc_l_draw.nd rfl (Or.inl rfl) (pe_op op_mod (pe_ix (ix_listK K rfl) (pv 0) pe_int (fun _ _ => rfl)) (pv 1)))
      (pss_cons (ps_asg (pe_op op_fdivA (pe_ix (ix_listK K rfl) (pv 0) pe_int (fun _ _ => rfl)) (pv 1)) (pg_sub (pv 0) pe_int set_list))
      (pss_one (ps_ret (pv 2))))) pss_nil)
      (pss_cons (ps_set (i := 3) sc_l_draw.nd rfl (Or.inl rfl) pe_int)
      (pss_cons (ps_for PassesOwn.never rfl (pi_range1 rfl T.z_range (pa_cons (pe_ix (ix_listK K rfl) (pe_lst (pa_cons pe_int (pa_cons pe_int pa_nil))) (pe_callTy call_int1 (by rfl) T.z_int (by decide +kernel) (pa_cons (pe_cmpR op_gt (pv 1) (pe_op op_pow pe_int pe_int) (nomark _)) pa_nil)) (fun _ _ => rfl)) pa_nil)) (pg_name (i := 4) sc_l_draw.nd rfl (Or.inl rfl)) (pss_cons (ps_asg (pe_op op_add (pe_ix (ix_listK K rfl) (pv 0) pe_int (fun _ _ => rfl)) pe_int) (pg_sub (pv 0) pe_int set_list))
      (pss_cons (ps_set (i := 5) sc_l_draw.nd rfl (Or.inl rfl) (pe_call G_l_stirred (hr.mono (by decide)) (by rfl) T.g_l_stirred T.F_l_stirred.kp T.b_l_stirred .nil pass0 (pa_cons (pe_ix (ix_listK K rfl) (pv 0) pe_int (fun _ _ => rfl)) (pa_cons (pe_ix (ix_listK K rfl) (pv 0) pe_int (fun _ _ => rfl)) pa_nil))))
      (pss_one (ps_set (i := 3) sc_l_draw.nd rfl (Or.inl rfl) (pe_op op_add (pe_op op_mulA (pv 3) pe_int) (pe_op op_mod (pe_op op_mulA (pv 5) (pe_op op_add (pv 5) pe_int)) pe_int)))))))
      (pss_one (ps_ret (pe_op op_mod (pv 3) (pv 1))))))), ?_⟩
  try dsimp only [L2.cxOf, L2.Cx.nox, L2.Cx.wish, List.map_cons, List.map_nil]
  obtain ⟨a, n, m, c, b, rfl, p0, p1, p2, p3, k⟩ := h
  refine start_to (σ := [some _, some _, none, none, none, none]) rfl ?_
  walk_at "go"
  refine ite_d (fun c1 => ?_) (fun c1 => ?_)
  · walk_at "go"
    exact k _ _ _ _ ⟨Int.emod_nonneg _ (by omega), Int.emod_lt_of_pos _ (by omega)⟩ (.inl c1) (by omega) (But.upd (But.refl _ _)) upd_same
  · walk_at "go"
    rename_i p np t ht
    have hap : a ≠ p := ne_of_none p0 np
    rcases p1 with z | ⟨z, hn⟩
    · exact absurd z c1
    refine forR (fun i σ H1 => ∃ (x c' : Int) (y1 y2 y3 : Option V), σ = [some (.ref a), some (.int b), y1, some (.int x), y2, y3] ∧ c' = c + i ∧ But a H H1 ∧ H1 a = some (.lst [.int n, .int m, .int c'])) ?_ ?_ ?_
    · exact ⟨0, c, none, none, none, rfl, by omega, But.new (But.refl _ _) np, by rw [upd_ne hap]; exact p0⟩
    · rintro σ1 H1 ⟨x, c', y1, y2, y3, rfl, hc, hb, ha⟩
      walk_at "go"
      exact k _ _ _ _ ⟨Int.emod_nonneg _ (by omega), Int.emod_lt_of_pos _ (by omega)⟩ (.inr ⟨z, hn⟩) (by omega) hb ha
    · rintro i σ1 H1 hi ⟨x, c', y1, y2, y3, rfl, hc, hb, ha⟩
      walk_at "go"
      exact ⟨_, c' + 1, _, _, _, rfl, by omega, But.upd hb, upd_same⟩

def sp_is_number (K : PySem.W.Frag) : Sp := fun vs H Q E => ∃ (x : Int), vs = [.int x] ∧ Q (.bl true) H
theorem use_is_number {K : PySem.W.Frag} {H : Hp} {Q : VK} {E : XK} {x : Int}  (k : Q (.bl true) H) : sp_is_number K [.int x] H Q E := ⟨x, rfl, k⟩
theorem len_is_number {K : PySem.W.Frag} (vs : List V) (H : Hp) (Q : VK) (E : XK) (h : sp_is_number K vs H Q E) : vs.length = ["thing"].length := by
  obtain ⟨_, rfl, _⟩ := h
  rfl
local macro_rules | `(tactic| walk_at "g_call") => `(tactic| ((with_reducible refine' use_is_number ?_); intros))
theorem ok_is_number (T : Txt K mg) : FnOk P w K mg base CX0 1 T.a_is_number T.d_is_number ["thing"] (sp_is_number K) := by
  refine T.F_is_number.ok sc_is_number len_is_number (fun cdv A outer s H vs Q E hr h => ?_)
  refine ⟨_, (pss_one (ps_ret (pe_and (pe_callB (call_isXK K rfl) (by rfl) T.z_isinstance (by decide +kernel) (pa_cons (pv 0) (pa_cons (pe_bltn (v := .ty "int") rfl T.z_int (by decide +kernel) rfl) pa_nil))) (pe_one (pe_not (pe_callB (call_isXK K rfl) (by rfl) T.z_isinstance (by decide +kernel) (pa_cons (pv 0) (pa_cons (pe_bltn (v := .ty "bool") rfl T.z_bool (by decide +kernel) rfl) pa_nil)))))))), ?_⟩
  try dsimp only [L2.cxOf, L2.Cx.nox, L2.Cx.wish, List.map_cons, List.map_nil]
  obtain ⟨x, rfl, k⟩ := h
  refine start_to (σ := [some _]) rfl ?_
  walk_at "go"
  exact k
def sp_are_numbers (K : PySem.W.Frag) : Sp := fun vs H Q E => ∃ (a : Addr) (ms : List Int) (n : Int), vs = [.ref a, .int n] ∧ (H a = some (.lst (ms.map V.int))) ∧ (ms.length ≤ 1000) ∧ ((ms.length : Int) = n) ∧ ∀ (H' : Hp), (Same H H') → Q (.bl true) H'
theorem use_are_numbers {K : PySem.W.Frag} {H : Hp} {Q : VK} {E : XK} {a : Addr} {ms : List Int} {n : Int} (p0 : H a = some (.lst (ms.map V.int))) (p1 : ms.length ≤ 1000) (p2 : (ms.length : Int) = n) (k : ∀ (H' : Hp), (Same H H') → Q (.bl true) H') : sp_are_numbers K [.ref a, .int n] H Q E := ⟨a, ms, n, rfl, p0, p1, p2, k⟩
theorem len_are_numbers {K : PySem.W.Frag} (vs : List V) (H : Hp) (Q : VK) (E : XK) (h : sp_are_numbers K vs H Q E) : vs.length = ["thing", "many"].length := by
  obtain ⟨_, _, _, rfl, _⟩ := h
  rfl
local macro_rules | `(tactic| walk_at "g_call") => `(tactic| ((with_reducible refine' use_are_numbers ?c0 ?c1 ?c2 ?_); (case c0 => walk_at "g_pre"); (case c1 => walk_at "g_pre"); (case c2 => walk_at "g_pre"); intros))
theorem ok_are_numbers (T : Txt K mg) : FnOk P w K mg base CX0 2 T.a_are_numbers T.d_are_numbers ["thing", "many"] (sp_are_numbers K) := by
  have G_is_number := ok_is_number (P := P) (w := w) (base := base) T
  refine T.F_are_numbers.ok sc_are_numbers len_are_numbers (fun cdv A outer s H vs Q E hr h => ?_)
  refine ⟨_, (pss_cons (ps_if (PW.pt (pw_or (pt_not (pt_val (pe_callB (call_isXK K rfl) (by rfl) T.z_isinstance (by decide +kernel) (pa_cons (pv 0) (pa_cons (pe_bltn (v := .ty "list") rfl T.z_list (by decide +kernel) rfl) pa_nil))))) (pw_or1 (pt_cmpR op_ne (pe_callB (call_lenK K rfl) (by rfl) T.z_len (by decide +kernel) (pa_cons (pv 0) pa_nil)) (pv 1) (nomark _))))) (pss_one (ps_ret pe_bl)) pss_nil)
      (pss_one (ps_ret (pe_cmpR op_eq (pe_callB (call_lenK K rfl) (by rfl) T.z_len (by decide +kernel) (pa_cons (pe_lc (own := [("number", 2)]) rfl sc_are_numbers.nd (pi_listK K rfl (pv 0)) (blkOk_by (own := [("number", 2)]) (N := ["thing", "many", "number"]) (sc := defScope s_are_numbers) (by decide +kernel)) (fun _ _ _ _ _ => (pg_name (i := 2) sc_are_numbers.nd rfl (Or.inl rfl))) (fun _ _ _ _ _ => (pts_one (pt_not (pt_val (pe_call G_is_number (hr.mono (by decide)) (by rfl) T.g_is_number T.F_is_number.kp T.b_is_number .nil pass0 (pa_cons (pv 2) pa_nil)))))) (fun _ _ _ _ _ => (pv 2))) pa_nil)) pe_int (nomark _))))), ?_⟩
  try dsimp only [L2.cxOf, L2.Cx.nox, L2.Cx.wish, List.map_cons, List.map_nil]
  obtain ⟨a, ms, n, rfl, p0, p1, p2, k⟩ := h
  refine start_to (σ := [some _, some _, none]) rfl ?_
  walk_at "go"
  refine ite_n (by simp [p2]) ?_
  walk_at "go"
  intro D nD
  refine lcL_nil (xs := ms.map V.int) nD (SqL.of p0) ?_ ?_
  · intro i x H2 Z Y hx hs hy
    obtain ⟨z, rfl, hz⟩ := ints_at hx
    walk_at "go"
    exact hy _ (by walk_at "g_same")
  · intro H2 hs hD
    walk_at "go"
    exact k _ hs
def sp_is_plan (K : PySem.W.Frag) : Sp := fun vs H Q E => ∃ (h n : Int) (a : Addr) (ms : List Int), vs = [.int h, .int n, .ref a] ∧ (H a = some (.lst (ms.map V.int))) ∧ (ms.length ≤ 1000 ∧ 1 ≤ ms.length) ∧ ((ms.length : Int) = n ∧ ms.sum = h ∧ (∀ x ∈ ms, 0 ≤ x)) ∧ ∀ (H' : Hp), (Same H H') → Q (.bl true) H'
theorem use_is_plan {K : PySem.W.Frag} {H : Hp} {Q : VK} {E : XK} {h n : Int} {a : Addr} {ms : List Int} (p0 : H a = some (.lst (ms.map V.int))) (p1 : ms.length ≤ 1000 ∧ 1 ≤ ms.length) (p2 : (ms.length : Int) = n ∧ ms.sum = h ∧ (∀ x ∈ ms, 0 ≤ x)) (k : ∀ (H' : Hp), (Same H H') → Q (.bl true) H') : sp_is_plan K [.int h, .int n, .ref a] H Q E := ⟨h, n, a, ms, rfl, p0, p1, p2, k⟩
theorem len_is_plan {K : PySem.W.Frag} (vs : List V) (H : Hp) (Q : VK) (E : XK) (h : sp_is_plan K vs H Q E) : vs.length = ["hosts", "many", "plan"].length := by
  obtain ⟨_, _, _, _, rfl, _⟩ := h
  rfl
local macro_rules | `(tactic| walk_at "g_call") => `(tactic| ((with_reducible refine' use_is_plan ?c0 ?c1 ?c2 ?_); (case c0 => walk_at "g_pre"); (case c1 => walk_at "g_pre"); (case c2 => walk_at "g_pre"); intros))
theorem ok_is_plan (T : Txt K mg) : FnOk P w K mg base CX0 3 T.a_is_plan T.d_is_plan ["hosts", "many", "plan"] (sp_is_plan K) := by
  have G_are_numbers := ok_are_numbers (P := P) (w := w) (base := base) T
  refine T.F_is_plan.ok sc_is_plan len_is_plan (fun cdv A outer s H vs Q E hr h => ?_)
  refine ⟨_, (pss_one (ps_ret (pe_and (pe_call G_are_numbers (hr.mono (by decide)) (by rfl) T.g_are_numbers T.F_are_numbers.kp T.b_are_numbers .nil pass0 (pa_cons (pv 2) (pa_cons (pv 1) pa_nil))) (pe_and (pe_cmpR op_ge (pe_callB (cr_minK K rfl rfl) (by rfl) T.z_min (by decide +kernel) (pa_cons (pv 2) pa_nil)) pe_int (nomark _)) (pe_one (pe_cmpR op_eq (pe_callB (cr_sumK K rfl rfl) (by rfl) T.z_sum (by decide +kernel) (pa_cons (pv 2) pa_nil)) (pv 0) (nomark _))))))), ?_⟩
  try dsimp only [L2.cxOf, L2.Cx.nox, L2.Cx.wish, List.map_cons, List.map_nil]
  obtain ⟨h, n, a, ms, rfl, p0, ⟨p1, p1'⟩, ⟨p2, p3, p4⟩, k⟩ := h
  refine start_to (σ := [some _, some _, some _]) rfl ?_
  walk_at "go"
  rename_i H2 hs z hz1 hz2
  refine ite_y (decide_eq_true (p4 z hz1)) ?_
  walk_at "go"
  rw [decide_eq_true p3]
  exact k _ hs

def sp_is_mix (K : PySem.W.Frag) : Sp := fun vs H Q E => ∃ (v : V) (m : List (List Int × Int)) (h : Int) (n : Nat), vs = [v] ∧ (Dq H v (mixD m)) ∧ (MixOk h n m) ∧ ∀ (H' : Hp), (Same H H') → Q (.bl true) H'
theorem use_is_mix {K : PySem.W.Frag} {H : Hp} {Q : VK} {E : XK} {v : V} {m : List (List Int × Int)} {h : Int} {n : Nat} (p0 : Dq H v (mixD m)) (p1 : MixOk h n m) (k : ∀ (H' : Hp), (Same H H') → Q (.bl true) H') : sp_is_mix K [v] H Q E := ⟨v, m, h, n, rfl, p0, p1, k⟩
theorem len_is_mix {K : PySem.W.Frag} (vs : List V) (H : Hp) (Q : VK) (E : XK) (h : sp_is_mix K vs H Q E) : vs.length = ["mix"].length := by
  obtain ⟨_, _, _, _, rfl, _⟩ := h
  rfl
local macro_rules | `(tactic| walk_at "g_call") => `(tactic| ((with_reducible refine' use_is_mix ?c0 ?c1 ?_); (case c0 => walk_at "g_pre"); (case c1 => walk_at "g_pre"); intros))
theorem ok_is_mix (T : Txt K mg) : FnOk P w K mg base CX0 4 T.a_is_mix T.d_is_mix ["mix"] (sp_is_mix K) := by
  have G_is_number := ok_is_number (P := P) (w := w) (base := base) T
  have G_are_numbers := ok_are_numbers (P := P) (w := w) (base := base) T
  have G_is_plan := ok_is_plan (P := P) (w := w) (base := base) T
  refine T.F_is_mix.ok sc_is_mix len_is_mix (fun cdv A outer s H vs Q E hr h => ?_)
  refine ⟨_, (pss_cons (ps_if (PW.pt (pw_or (pt_not (pt_val (pe_callB (call_isXK K rfl) (by rfl) T.z_isinstance (by decide +kernel) (pa_cons (pv 0) (pa_cons (pe_bltn (v := .ty "list") rfl T.z_list (by decide +kernel) rfl) pa_nil))))) (pw_or1 (pt_cmpR op_eq (pe_callB (call_lenK K rfl) (by rfl) T.z_len (by decide +kernel) (pa_cons (pv 0) pa_nil)) pe_int (nomark _))))) (pss_one (ps_ret pe_bl)) pss_nil)
      (pss_cons (ps_for PassesOwn.never rfl (pi_listK K rfl (pv 0)) (pg_name (i := 1) sc_is_mix.nd rfl (Or.inl rfl)) (pss_cons (ps_if (PW.pt (pw_or (pt_not (pt_val (pe_callB (call_isXK K rfl) (by rfl) T.z_isinstance (by decide +kernel) (pa_cons (pv 1) (pa_cons (pe_bltn (v := .ty "tuple") rfl T.z_tuple (by decide +kernel) rfl) pa_nil))))) (pw_or (pt_cmpR op_ne (pe_callB (call_lenK K rfl) (by rfl) T.z_len (by decide +kernel) (pa_cons (pv 1) pa_nil)) pe_int (nomark _)) (pw_or1 (pt_not (pt_val (pe_callB (call_isXK K rfl) (by rfl) T.z_isinstance (by decide +kernel) (pa_cons (pe_ix (ix_tupK K rfl) (pv 1) pe_int (fun _ _ => rfl)) (pa_cons (pe_bltn (v := .ty "list") rfl T.z_list (by decide +kernel) rfl) pa_nil))))))))) (pss_one (ps_ret pe_bl)) pss_nil)
      (pss_one (ps_if (PW.pt (pw_or (pt_not (pt_val (pe_call G_is_number (hr.mono (by decide)) (by rfl) T.g_is_number T.F_is_number.kp T.b_is_number .nil pass0 (pa_cons (pe_ix (ix_tupK K rfl) (pv 1) pe_int (fun _ _ => rfl)) pa_nil)))) (pw_or (pt_cmpR op_lt (pe_ix (ix_tupK K rfl) (pv 1) pe_int (fun _ _ => rfl)) pe_int (nomark _)) (pw_or1 (pt_not (pt_val (pe_call G_are_numbers (hr.mono (by decide)) (by rfl) T.g_are_numbers T.F_are_numbers.kp T.b_are_numbers .nil pass0 (pa_cons (pe_ix (ix_tupK K rfl) (pv 1) pe_int (fun _ _ => rfl)) (pa_cons (pe_callB (call_lenK K rfl) (by rfl) T.z_len (by decide +kernel) (pa_cons (pe_ix (ix_tupK K rfl) (pv 1) pe_int (fun _ _ => rfl)) pa_nil)) pa_nil))))))))) (pss_one (ps_ret pe_bl)) pss_nil))))
      (pss_cons (ps_set (i := 2) sc_is_mix.nd rfl (Or.inr rfl) (pe_callB (call_lenK K rfl) (by rfl) T.z_len (by decide +kernel) (pa_cons (pe_ix (ix_tupK K rfl) (pe_ix (ix_listK K rfl) (pv 0) pe_int (fun _ _ => rfl)) pe_int (fun _ _ => rfl)) pa_nil)))
      (pss_cons (ps_set (i := 3) sc_is_mix.nd rfl (Or.inr rfl) (pe_callB (cr_sumK K rfl rfl) (by rfl) T.z_sum (by decide +kernel) (pa_cons (pe_ix (ix_tupK K rfl) (pe_ix (ix_listK K rfl) (pv 0) pe_int (fun _ _ => rfl)) pe_int (fun _ _ => rfl)) pa_nil)))
      (pss_cons (ps_if (PW.pt (pw_or (pt_cmpR op_lt (pv 2) pe_int (nomark _)) (pw_or (pt_cmpR op_gt (pv 2) (pe_glob (v := .int 8) rfl T.c_MOST_FIELDS ⟨_, rfl⟩) (nomark _)) (pw_or1 (pt_cmpR op_gt (pv 3) (pe_glob (v := .int 40) rfl T.c_MOST_HOSTS ⟨_, rfl⟩) (nomark _)))))) (pss_one (ps_ret pe_bl)) pss_nil)
      (pss_one (ps_ret (pe_cmpR op_eq (pe_callB (call_lenK K rfl) (by rfl) T.z_len (by decide +kernel) (pa_cons (pe_lc (own := [("plan", 4), ("weight", 5)]) rfl sc_is_mix.nd (pi_listK K rfl (pv 0)) (blkOk_by (own := [("plan", 4), ("weight", 5)]) (N := ["mix", "part", "many", "hosts", "plan", "weight"]) (sc := defScope s_is_mix) (by decide +kernel)) (fun _ _ _ _ _ => (pg_tupK K rfl 2 rfl (pgs_cons (pg_name (i := 4) sc_is_mix.nd rfl (Or.inl rfl)) (pgs_cons (pg_name (i := 5) sc_is_mix.nd rfl (Or.inl rfl)) pgs_nil)))) (fun _ _ _ _ _ => (pts_one (pt_not (pt_val (pe_call G_is_plan (hr.mono (by decide)) (by rfl) T.g_is_plan T.F_is_plan.kp T.b_is_plan .nil pass0 (pa_cons (pv 3) (pa_cons (pv 2) (pa_cons (pv 4) pa_nil)))))))) (fun _ _ _ _ _ => (pv 4))) pa_nil)) pe_int (nomark _))))))))), ?_⟩
  try dsimp only [L2.cxOf, L2.Cx.nox, L2.Cx.wish, List.map_cons, List.map_nil]
  obtain ⟨v, m, h, n, rfl, p0, p1, k⟩ := h
  obtain ⟨a, xs, rfl, q1, q2, q3⟩ := mix_inv p0
  refine start_to (σ := [some _, none, none, none, none, none]) rfl ?_
  have hm := p1.ne
  walk_at "go"
  refine ite_n (decide_eq_false (by omega)) ?_
  walk_at "go"
  refine forL (xs := xs) (fun i σ H1 => ∃ y1, σ = [some (.ref a), y1, none, none, none, none] ∧ Same H H1) ⟨_, rfl, by walk_at "g_same"⟩ ?_ ?_ ?_
  · rintro i σ H1 _ ⟨y1, rfl, h1⟩
    exact SqL.of (h1 _ _ q1)
  · rintro σ H1 ⟨y1, rfl, h1⟩
    obtain ⟨x0, hx0⟩ : ∃ x, xs[0]? = some x := ⟨xs[0]'(by omega), List.getElem?_eq_getElem _⟩
    obtain ⟨pw, t, p, e1, rfl, e2, e3⟩ := q3 0 x0 hx0
    obtain ⟨⟨g1, g2, g3⟩, g4⟩ := p1.pl pw (List.mem_of_getElem? e1)
    have hs := p1.fl
    have ho := p1.ho
    have e2' := h1 _ _ e2
    have e3' := h1 _ _ e3
    have q1' := h1 _ _ q1
    have hat : atI xs 0 = some (.ref t) := atI_nat hx0
    walk_at "goO"
    intro D nD
    refine lcL_nil (xs := xs) nD (SqL.of q1') ?_ ?_
    · intro i x H2 Z Y hx hs2 hy
      obtain ⟨pw', t', p', f1, rfl, f2, f3⟩ := q3 i x hx
      obtain ⟨⟨g1', g2', g3'⟩, _⟩ := p1.pl pw' (List.mem_of_getElem? f1)
      have f2' := hs2 _ _ (h1 _ _ f2)
      have f3' := hs2 _ _ (h1 _ _ f3)
      have b3 : (pw'.1.length : Int) = pw.1.length ∧ pw'.1.sum = pw.1.sum ∧ (∀ x ∈ pw'.1, 0 ≤ x) := ⟨by omega, by omega, g3'⟩
      have b4 : pw'.1.length ≤ 1000 ∧ 1 ≤ pw'.1.length := by omega
      clear f2 f3 e2 e3
      walk_at "goO"
      exact hy _ (by walk_at "g_same")
    · intro H2 hs2 hD
      clear e2 e3 q1
      walk_at "goO"
      exact k _ (by walk_at "g_same")
  · rintro i x σ H1 hx ⟨y1, rfl, h1⟩
    obtain ⟨pw, t, p, e1, rfl, e2, e3⟩ := q3 i x hx
    obtain ⟨⟨g1, g2, g3⟩, g4⟩ := p1.pl pw (List.mem_of_getElem? e1)
    have hs := p1.fl
    have e2' := h1 _ _ e2
    have e3' := h1 _ _ e3
    have b2 : pw.1.length ≤ 1000 := by omega
    walk_at "goO"
    exact ⟨_, rfl, by walk_at "g_same"⟩
def sp_must_be_mix (K : PySem.W.Frag) : Sp := fun vs H Q E => ∃ (v : V) (m : List (List Int × Int)) (h : Int) (n : Nat), vs = [v] ∧ (Dq H v (mixD m)) ∧ (MixOk h n m) ∧ ∀ (H' : Hp), (Same H H') → Q (.non) H'
theorem use_must_be_mix {K : PySem.W.Frag} {H : Hp} {Q : VK} {E : XK} {v : V} {m : List (List Int × Int)} {h : Int} {n : Nat} (p0 : Dq H v (mixD m)) (p1 : MixOk h n m) (k : ∀ (H' : Hp), (Same H H') → Q (.non) H') : sp_must_be_mix K [v] H Q E := ⟨v, m, h, n, rfl, p0, p1, k⟩
theorem len_must_be_mix {K : PySem.W.Frag} (vs : List V) (H : Hp) (Q : VK) (E : XK) (h : sp_must_be_mix K vs H Q E) : vs.length = ["mix"].length := by
  obtain ⟨_, _, _, _, rfl, _⟩ := h
  rfl
local macro_rules | `(tactic| walk_at "g_call") => `(tactic| ((with_reducible refine' use_must_be_mix ?c0 ?c1 ?_); (case c0 => walk_at "g_pre"); (case c1 => walk_at "g_pre"); intros))
theorem ok_must_be_mix (T : Txt K mg) : FnOk P w K mg base CX0 5 T.a_must_be_mix T.d_must_be_mix ["mix"] (sp_must_be_mix K) := by
  have G_is_mix := ok_is_mix (P := P) (w := w) (base := base) T
  refine T.F_must_be_mix.ok sc_must_be_mix len_must_be_mix (fun cdv A outer s H vs Q E hr h => ?_)
  refine ⟨_, (pss_one (ps_if (pt_not (pt_val (pe_call G_is_mix (hr.mono (by decide)) (by rfl) T.g_is_mix T.F_is_mix.kp T.b_is_mix .nil pass0 (pa_cons (pv 0) pa_nil)))) (pss_one ps_never) pss_nil)), ?_⟩
  try dsimp only [L2.cxOf, L2.Cx.nox, L2.Cx.wish, List.map_cons, List.map_nil]
  obtain ⟨v, m, h, n, rfl, p0, p1, k⟩ := h
  refine start_to (σ := [some _]) rfl ?_
  walk_at "go"
  exact k _ (by walk_at "g_same")
def sp_whole_of (K : PySem.W.Frag) : Sp := fun vs H Q E => ∃ (v : V) (m : List (List Int × Int)) (h : Int) (n : Nat), vs = [v] ∧ (Dq H v (mixD m)) ∧ (MixOk h n m) ∧ ∀ (H' : Hp), (Same H H') → Q (.int (whole m)) H'
theorem use_whole_of {K : PySem.W.Frag} {H : Hp} {Q : VK} {E : XK} {v : V} {m : List (List Int × Int)} {h : Int} {n : Nat} (p0 : Dq H v (mixD m)) (p1 : MixOk h n m) (k : ∀ (H' : Hp), (Same H H') → Q (.int (whole m)) H') : sp_whole_of K [v] H Q E := ⟨v, m, h, n, rfl, p0, p1, k⟩
theorem len_whole_of {K : PySem.W.Frag} (vs : List V) (H : Hp) (Q : VK) (E : XK) (h : sp_whole_of K vs H Q E) : vs.length = ["mix"].length := by
  obtain ⟨_, _, _, _, rfl, _⟩ := h
  rfl
local macro_rules | `(tactic| walk_at "g_call") => `(tactic| ((with_reducible refine' use_whole_of ?c0 ?c1 ?_); (case c0 => walk_at "g_pre"); (case c1 => walk_at "g_pre"); intros))
theorem ok_whole_of (T : Txt K mg) : FnOk P w K mg base CX0 6 T.a_whole_of T.d_whole_of ["mix"] (sp_whole_of K) := by
  have G_must_be_mix := ok_must_be_mix (P := P) (w := w) (base := base) T
  refine T.F_whole_of.ok sc_whole_of len_whole_of (fun cdv A outer s H vs Q E hr h => ?_)
  refine ⟨_, (pss_cons (ps_expr (pe_call G_must_be_mix (hr.mono (by decide)) (by rfl) T.g_must_be_mix T.F_must_be_mix.kp T.b_must_be_mix .nil pass0 (pa_cons (pv 0) pa_nil)))
      (pss_one (ps_ret (pe_callB (cr_sumK K rfl rfl) (by rfl) T.z_sum (by decide +kernel) (pa_cons (pe_lc (own := [("plan", 1), ("weight", 2)]) rfl sc_whole_of.nd (pi_listK K rfl (pv 0)) (blkOk_by (own := [("plan", 1), ("weight", 2)]) (N := ["mix", "plan", "weight"]) (sc := defScope s_whole_of) (by decide +kernel)) (fun _ _ _ _ _ => (pg_tupK K rfl 2 rfl (pgs_cons (pg_name (i := 1) sc_whole_of.nd rfl (Or.inl rfl)) (pgs_cons (pg_name (i := 2) sc_whole_of.nd rfl (Or.inl rfl)) pgs_nil)))) (fun _ _ _ _ _ => pts_nil) (fun _ _ _ _ _ => (pv 2))) pa_nil))))), ?_⟩
  try dsimp only [L2.cxOf, L2.Cx.nox, L2.Cx.wish, List.map_cons, List.map_nil]
  obtain ⟨v, m, h, n, rfl, p0, p1, k⟩ := h
  refine start_to (σ := [some _, none, none]) rfl ?_
  walk_at "go"
  rename_i H1 h1
  obtain ⟨a, xs, rfl, q1, q2, q3⟩ := mix_inv (p0.same h1)
  have hm := p1.ne
  walk_at "go"
  intro D nD
  refine lcL_int (xs := xs) (fun i => ((m[i]?).getD ([], 0)).2) nD (by omega) (SqL.of q1) ?_ ?_
  · intro i x H2 Z Y hx hs2 hz
    obtain ⟨pw, t, p, e1, rfl, e2, e3⟩ := q3 i x hx
    have e2' := hs2 _ _ e2
    walk_at "go"
    have := hz _ (Same.refl _)
    rw [e1] at this
    exact this
  · intro H2 hs2 hD
    rw [q2, rng_map _ Prod.snd m (fun i x e => by rw [e]; rfl)] at hD
    walk_at "go"
    exact k _ (by walk_at "g_same")
def sp_played (K : PySem.W.Frag) (e_NoNumber : Addr) : Sp := fun vs H Q E => ∃ (v : V) (m : List (List Int × Int)) (h : Int) (n : Nat) (z : Int), vs = [v, .int z] ∧ (Dq H v (mixD m)) ∧ (MixOk h n m) ∧ ((0 ≤ z ∧ z < whole m) → ∀ (p : Addr) (H' : Hp), (H' p = some (.lst ((due m z).map V.int))) → (H p = none) → (Same H H') → Q (.ref p) H') ∧ (¬ (0 ≤ z ∧ z < whole m) → ∀ H', Same H H' → E (.ref e_NoNumber) none H')
theorem use_played {K : PySem.W.Frag} {e_NoNumber : Addr} {H : Hp} {Q : VK} {E : XK} {v : V} {m : List (List Int × Int)} {h : Int} {n : Nat} {z : Int} (p0 : Dq H v (mixD m)) (p1 : MixOk h n m) (k : (0 ≤ z ∧ z < whole m) → ∀ (p : Addr) (H' : Hp), (H' p = some (.lst ((due m z).map V.int))) → (H p = none) → (Same H H') → Q (.ref p) H') (kx : ¬ (0 ≤ z ∧ z < whole m) → ∀ H', Same H H' → E (.ref e_NoNumber) none H') : sp_played K e_NoNumber [v, .int z] H Q E := ⟨v, m, h, n, z, rfl, p0, p1, k, kx⟩
theorem len_played {K : PySem.W.Frag} {e_NoNumber : Addr} (vs : List V) (H : Hp) (Q : VK) (E : XK) (h : sp_played K e_NoNumber vs H Q E) : vs.length = ["mix", "number"].length := by
  obtain ⟨_, _, _, _, _, rfl, _⟩ := h
  rfl
local macro_rules | `(tactic| walk_at "g_call") => `(tactic| ((with_reducible refine' use_played ?c0 ?c1 ?kk ?kx); (case c0 => walk_at "g_pre"); (case c1 => walk_at "g_pre"); first | ((case kx => (intro _; exfalso; walk_at "g_no")); intros) | ((case kk => (intro _; exfalso; walk_at "g_no")); intros) | skip))
theorem ok_played (T : Txt K mg) : FnOk P w K mg base (L2.CX P w) 7 T.a_played T.d_played ["mix", "number"] (sp_played K T.e_NoNumber) := by
  have G_whole_of := ok_whole_of (P := P) (w := w) (base := base) T
  refine T.F_played.okX sc_played len_played (fun cdv A outer s H vs Q E hr h => ?_)
  refine ⟨_, (pss_cons (ps_set (i := 2) sc_played.nd rfl (Or.inl rfl) (pe_call G_whole_of (hr.mono (by decide)) (by rfl) T.g_whole_of T.F_whole_of.kp T.b_whole_of .nil pass0 (pa_cons (pv 0) pa_nil)))
      (pss_cons (ps_if (PW.pt (pw_or (pt_cmpR op_lt (pv 1) pe_int (nomark _)) (pw_or1 (pt_cmpR op_ge (pv 1) (pv 2) (nomark _))))) (pss_one (ps_raise rfl (takes_of rfl rfl rfl rfl) (pmk_own PySem.F.excBase_ValueError T.x_NoNumber T.g_NoNumber T.k_NoNumber (raises_own T.y_NoNumber T.t_NoNumber) rfl))) pss_nil)
      (pss_cons (ps_set (i := 3) sc_played.nd rfl (Or.inl rfl) pe_int)
      (pss_cons (ps_set (i := 4) sc_played.nd rfl (Or.inl rfl) (pe_op op_sub (pv 1) (pe_ix (ix_tupK K rfl) (pe_ix (ix_listK K rfl) (pv 0) pe_int (fun _ _ => rfl)) pe_int (fun _ _ => rfl))))
      (pss_cons (ps_while (passes_of rfl) (pt_cmpR op_ge (pv 4) pe_int (nomark _)) (pss_cons (ps_aug (i := 3) sc_played.nd rfl (Or.inl rfl) pe_int ip_add)
      (pss_one (ps_aug (i := 4) sc_played.nd rfl (Or.inl rfl) (pe_ix (ix_tupK K rfl) (pe_ix (ix_listK K rfl) (pv 0) (pv 3) (fun _ _ => rfl)) pe_int (fun _ _ => rfl)) ip_sub))))
      (pss_one (ps_ret (pe_callTy (call_listK K rfl) (by rfl) T.z_list (by decide +kernel) (pa_cons (pe_ix (ix_tupK K rfl) (pe_ix (ix_listK K rfl) (pv 0) (pv 3) (fun _ _ => rfl)) pe_int (fun _ _ => rfl)) pa_nil))))))))), ?_⟩
  try dsimp only [L2.cxOf, L2.Cx.nox, L2.Cx.wish, List.map_cons, List.map_nil]
  obtain ⟨v, m, h, n, z, rfl, p0, p1, k, kx⟩ := h
  refine start_to (σ := [some _, some _, none, none, none]) rfl ?_
  walk_at "go"
  rename_i H1 h1
  refine ite_d (fun c1 => ?_) (fun c1 => ?_)
  · walk_at "go"
    exact kx (fun c => by omega) _ (by walk_at "g_same")
  walk_at "go"
  refine ite_d (fun c2 => ?_) (fun c2 => ?_)
  · walk_at "go"
    exact kx (fun c => by omega) _ (by walk_at "g_same")
  obtain ⟨a, xs, rfl, q1, q2, q3⟩ := mix_inv (p0.same h1)
  have hm := p1.ne
  obtain ⟨x0, hx0⟩ : ∃ x, xs[0]? = some x := ⟨xs[0]'(by omega), List.getElem?_eq_getElem _⟩
  obtain ⟨pw, t, p, e1, rfl, e2, e3⟩ := q3 0 x0 hx0
  have hat : atI xs 0 = some (.ref t) := atI_nat hx0
  walk_at "go"
  refine whileW (fun μ σ H2 => ∃ (i : Nat) (l : Int) (pw : List Int × Int), σ = [some (.ref a), some (.int z), some (.int (whole m)), some (.int i), some (.int l)] ∧ m[i]? = some pw ∧ due (m.drop i) (l + pw.2) = due m z ∧ l + pw.2 < whole (m.drop i) ∧ μ = m.length - i ∧ H2 = H1) _ ⟨0, _, pw, rfl, e1, by rw [List.drop_zero]; congr 1; omega, by rw [List.drop_zero]; omega, rfl, rfl⟩ ?_
  rintro μ σ1 H2 ⟨i, l, pw', rfl, f1, f2, f3, rfl, rfl⟩
  rw [drop_get f1] at f2 f3
  rw [whole_cons] at f3
  clear hat e2 e3 hx0
  walk_at "go"
  refine ite_d (fun c3 => turnW ?_) (fun c3 => ?_)
  · have hi : i + 1 < m.length := by
      by_cases c : i + 1 < m.length
      · exact c
      · rw [List.drop_eq_nil_of_le (show m.length ≤ i + 1 by omega)] at f3
        simp [whole] at f3
        omega
    obtain ⟨x1, hx1⟩ : ∃ x, xs[i + 1]? = some x := ⟨xs[i + 1]'(by omega), List.getElem?_eq_getElem _⟩
    obtain ⟨pw1, t1, p1', e1', rfl, e2', e3'⟩ := q3 (i + 1) x1 hx1
    have hat : atI xs ((i : Int) + 1) = some (.ref t1) := atI_nat hx1
    walk_at "go"
    refine ⟨m.length - (i + 1), by omega, i + 1, l - pw1.2, pw1, rfl, e1', ?_, by omega, rfl, rfl⟩
    rw [← f2]
    show _ = due (pw' :: _) _
    rw [due, if_neg (by omega)]
    congr 1
    omega
  · obtain ⟨hi, _⟩ := List.getElem?_eq_some_iff.mp f1
    obtain ⟨x1, hx1⟩ : ∃ x, xs[i]? = some x := ⟨xs[i]'(by omega), List.getElem?_eq_getElem _⟩
    obtain ⟨pw1, t1, p1', e1', rfl, e2', e3'⟩ := q3 i x1 hx1
    have hat : atI xs (i : Int) = some (.ref t1) := atI_nat hx1
    rw [e1'] at f1
    obtain rfl := Option.some.inj f1
    rw [due, if_pos (by omega)] at f2
    rw [f2] at e3'
    walk_at "go"
    exact k (by omega) _ _ upd_same (h1.free (by assumption)) (by walk_at "g_same")
def sp_l_drawn_plan (K : PySem.W.Frag) : Sp := fun vs H Q E => ∃ (a : Addr) (n m c h f : Int), vs = [.ref a, .int h, .int f] ∧ (H a = some (.lst [.int n, .int m, .int c])) ∧ (Left n m) ∧ (0 ≤ c ∧ c ≤ 50000) ∧ (0 ≤ h ∧ h ≤ 40 ∧ 1 ≤ f ∧ f ≤ 8) ∧ ∀ (b : Addr) (ps : List Int) (n' c' : Int) (H' : Hp), (H' a = some (.lst [.int n', .int m, .int c'])) → (H' b = some (.lst (ps.map V.int))) → (Left n' m) → (0 ≤ c' ∧ c' ≤ c + 100) → (But a H H') → (H b = none) → (PlanC h f.toNat ps) → (b ≠ a) → Q (.ref b) H'
theorem use_l_drawn_plan {K : PySem.W.Frag} {H : Hp} {Q : VK} {E : XK} {a : Addr} {n m c h f : Int} (p0 : H a = some (.lst [.int n, .int m, .int c])) (p1 : Left n m) (p2 : 0 ≤ c ∧ c ≤ 50000) (p3 : 0 ≤ h ∧ h ≤ 40 ∧ 1 ≤ f ∧ f ≤ 8) (k : ∀ (b : Addr) (ps : List Int) (n' c' : Int) (H' : Hp), (H' a = some (.lst [.int n', .int m, .int c'])) → (H' b = some (.lst (ps.map V.int))) → (Left n' m) → (0 ≤ c' ∧ c' ≤ c + 100) → (But a H H') → (H b = none) → (PlanC h f.toNat ps) → (b ≠ a) → Q (.ref b) H') : sp_l_drawn_plan K [.ref a, .int h, .int f] H Q E := ⟨a, n, m, c, h, f, rfl, p0, p1, p2, p3, k⟩
theorem len_l_drawn_plan {K : PySem.W.Frag} (vs : List V) (H : Hp) (Q : VK) (E : XK) (h : sp_l_drawn_plan K vs H Q E) : vs.length = ["_law_left", "_law_hosts", "_law_many"].length := by
  obtain ⟨_, _, _, _, _, _, rfl, _⟩ := h
  rfl
local macro_rules | `(tactic| walk_at "g_call") => `(tactic| ((with_reducible refine' use_l_drawn_plan ?c0 ?c1 ?c2 ?c3 ?_); (case c0 => walk_at "g_pre"); (case c1 => walk_at "g_pre"); (case c2 => walk_at "g_pre"); (case c3 => walk_at "g_pre"); intros))
theorem ok_l_drawn_plan (T : Txt K mg) : FnOk P w K mg base CX0 3 T.a_l_drawn_plan T.d_l_drawn_plan ["_law_left", "_law_hosts", "_law_many"] (sp_l_drawn_plan K) := by
  have G_l_draw := ok_l_draw (P := P) (w := w) (base := base) T
  refine T.F_l_drawn_plan.ok sc_l_drawn_plan len_l_drawn_plan (fun cdv A outer s H vs Q E hr h => ?_)
  refine ⟨_, (pss_cons (ps_set (i := 3) sc_l_drawn_plan.nd rfl (Or.inl rfl) (pe_lst pa_nil))
      (pss_cons (ps_set (i := 4) sc_l_drawn_plan.nd rfl (Or.inl rfl) (pv 1))
      (pss_cons (ps_for PassesOwn.never rfl (pi_range1 rfl T.z_range (pa_cons (pe_op op_sub (pv 2) pe_int) pa_nil)) (pg_name (i := 5) sc_l_drawn_plan.nd rfl (Or.inl rfl)) (pss_cons (ps_set (i := 6) sc_l_drawn_plan.nd rfl (Or.inl rfl) (pe_ix (ix_listK K rfl) (pe_lst (pa_cons (pe_call G_l_draw (hr.mono (by decide)) (by rfl) T.g_l_draw T.F_l_draw.kp T.b_l_draw .nil pass0 (pa_cons (pv 0) (pa_cons (pe_op op_add (pv 4) pe_int) pa_nil))) (pa_cons pe_int (pa_cons (pv 4) pa_nil)))) (pe_op op_fdiv (pe_call G_l_draw (hr.mono (by decide)) (by rfl) T.g_l_draw T.F_l_draw.kp T.b_l_draw .nil pass0 (pa_cons (pv 0) (pa_cons pe_int pa_nil))) pe_int) (fun _ _ => rfl)))
      (pss_cons (ps_expr (pe_bm PySem.F.plainAttrs_list PySem.F.slot_list_append PySem.F.type_list_append mt_append (pv 3) (pa_cons (pv 6) pa_nil)))
      (pss_one (ps_set (i := 4) sc_l_drawn_plan.nd rfl (Or.inl rfl) (pe_op op_sub (pv 4) (pv 6)))))))
      (pss_one (ps_ret (pe_op op_cat (pv 3) (pe_lst (pa_cons (pv 4) pa_nil)))))))), ?_⟩
  try dsimp only [L2.cxOf, L2.Cx.nox, L2.Cx.wish, List.map_cons, List.map_nil]
  obtain ⟨a, n, m, c, h, f, rfl, p0, p1, p2, p3, k⟩ := h
  refine start_to (σ := [some _, some _, some _, none, none, none, none]) rfl ?_
  walk_at "go"
  rename_i b nb
  have hb : b ≠ a := by walk_at "g_ne"
  refine forR (fun i σ H1 => ∃ (ps : List Int) (n' c' left : Int) (y1 y2 : Option V), σ = [some (.ref a), some (.int h), some (.int f), some (.ref b), some (.int left), y1, y2] ∧ H1 a = some (.lst [.int n', .int m, .int c']) ∧ H1 b = some (.lst (ps.map V.int)) ∧ Left n' m ∧ (0 ≤ c' ∧ c' ≤ c + 8 * i) ∧ But a H H1 ∧ (0 ≤ left ∧ left ≤ h) ∧ ps.length = i ∧ (∀ x ∈ ps, 0 ≤ x) ∧ ps.sum + left = h) ⟨[], n, c, _, _, _, rfl, by walk_at "g_lk", upd_same, p1, by omega, by walk_at "g_but", by omega, rfl, nofun, by simp⟩ ?_ ?_
  · rintro σ1 H1 ⟨ps, n', c', left, y1, y2, rfl, h1, h3, h2, h4, h6, h7, h8, h9, h10⟩
    walk_at "go"
    rename_i r1 n1 r2 n2
    have hb2 : r2 ≠ a := by walk_at "g_ne"
    refine k _ (ps ++ [left]) _ _ _ (by walk_at "g_lk") upd_same h2 (by omega) (by walk_at "g_but") (Hf.But.free (a := a) n2 (by walk_at "g_but") (by walk_at "g_lk")) ⟨by rw [List.length_append]; simp; omega, by rw [List.sum_append, List.sum_cons, List.sum_nil]; omega, ?_⟩ hb2
    intro x hx
    rcases List.mem_append.mp hx with g | g
    · exact h9 x g
    · rw [List.mem_singleton.mp g]; omega
  · rintro i σ1 H1 hi ⟨ps, n', c', left, y1, y2, rfl, h1, h3, h2, h4, h6, h7, h8, h9, h10⟩
    walk_at "go"
    rename_i d1 n1 c1 H2 a1 a2 a3 a4 a5 r1 a11 d2 n2 c2 H3 a6 a7 a8 a9 a10 v a17
    have hv : 0 ≤ v ∧ v ≤ left := by omega
    refine ⟨ps ++ [v], n2, c2, left - v, _, _, rfl, by walk_at "g_lk", upd_same, a7, by omega, by walk_at "g_but", by omega, by rw [List.length_append, h8]; rfl, ?_, by rw [List.sum_append, List.sum_cons, List.sum_nil]; omega⟩
    intro x hx
    rcases List.mem_append.mp hx with g | g
    · exact h9 x g
    · rw [List.mem_singleton.mp g]; omega
def sp_l_drawn_mix (K : PySem.W.Frag) : Sp := fun vs H Q E => ∃ (a : Addr) (n m c h f b : Int), vs = [.ref a, .int h, .int f, .int b] ∧ (H a = some (.lst [.int n, .int m, .int c])) ∧ (Left n m) ∧ (0 ≤ c ∧ c ≤ 1000) ∧ (0 ≤ h ∧ h ≤ 40 ∧ 1 ≤ f ∧ f ≤ 8) ∧ (1 ≤ b ∧ b ≤ 10) ∧ ∀ (mx : List (List Int × Int)) (G : Hp) (L : Addr) (xs : List V) (n' c' : Int) (H' : Hp), (H' a = some (.lst [.int n', .int m, .int c'])) → (H' L = some (.lst xs)) → (DqAll G xs (mx.map partD)) → (G L = none) → (G a = none) → (Same G H') → (Left n' m) → (0 ≤ c' ∧ c' ≤ 10000) → (MixOk h f.toNat mx) → (WtOk mx) → (H L = none) → (But a H H') → Q (.ref L) H'
theorem use_l_drawn_mix {K : PySem.W.Frag} {H : Hp} {Q : VK} {E : XK} {a : Addr} {n m c h f b : Int} (p0 : H a = some (.lst [.int n, .int m, .int c])) (p1 : Left n m) (p2 : 0 ≤ c ∧ c ≤ 1000) (p3 : 0 ≤ h ∧ h ≤ 40 ∧ 1 ≤ f ∧ f ≤ 8) (p4 : 1 ≤ b ∧ b ≤ 10) (k : ∀ (mx : List (List Int × Int)) (G : Hp) (L : Addr) (xs : List V) (n' c' : Int) (H' : Hp), (H' a = some (.lst [.int n', .int m, .int c'])) → (H' L = some (.lst xs)) → (DqAll G xs (mx.map partD)) → (G L = none) → (G a = none) → (Same G H') → (Left n' m) → (0 ≤ c' ∧ c' ≤ 10000) → (MixOk h f.toNat mx) → (WtOk mx) → (H L = none) → (But a H H') → Q (.ref L) H') : sp_l_drawn_mix K [.ref a, .int h, .int f, .int b] H Q E := ⟨a, n, m, c, h, f, b, rfl, p0, p1, p2, p3, p4, k⟩
theorem len_l_drawn_mix {K : PySem.W.Frag} (vs : List V) (H : Hp) (Q : VK) (E : XK) (h : sp_l_drawn_mix K vs H Q E) : vs.length = ["_law_left", "_law_hosts", "_law_many", "_law_most"].length := by
  obtain ⟨_, _, _, _, _, _, _, rfl, _⟩ := h
  rfl
local macro_rules | `(tactic| walk_at "g_call") => `(tactic| ((with_reducible refine' use_l_drawn_mix ?c0 ?c1 ?c2 ?c3 ?c4 ?_); (case c0 => walk_at "g_pre"); (case c1 => walk_at "g_pre"); (case c2 => walk_at "g_pre"); (case c3 => walk_at "g_pre"); (case c4 => walk_at "g_pre"); intros))
theorem ok_l_drawn_mix (T : Txt K mg) : FnOk P w K mg base CX0 4 T.a_l_drawn_mix T.d_l_drawn_mix ["_law_left", "_law_hosts", "_law_many", "_law_most"] (sp_l_drawn_mix K) := by
  have G_l_draw := ok_l_draw (P := P) (w := w) (base := base) T
  have G_l_drawn_plan := ok_l_drawn_plan (P := P) (w := w) (base := base) T
  refine T.F_l_drawn_mix.ok sc_l_drawn_mix len_l_drawn_mix (fun cdv A outer s H vs Q E hr h => ?_)
  refine ⟨_, (pss_cons (ps_set (i := 4) sc_l_drawn_mix.nd rfl (Or.inl rfl) (pe_lst pa_nil))
      (pss_cons (ps_for PassesOwn.never rfl (pi_range1 rfl T.z_range (pa_cons (pe_op op_add pe_int (pe_call G_l_draw (hr.mono (by decide)) (by rfl) T.g_l_draw T.F_l_draw.kp T.b_l_draw .nil pass0 (pa_cons (pv 0) (pa_cons (pv 3) pa_nil)))) pa_nil)) (pg_name (i := 5) sc_l_drawn_mix.nd rfl (Or.inl rfl)) (pss_cons (ps_set (i := 6) sc_l_drawn_mix.nd rfl (Or.inl rfl) (pe_ix (ix_listK K rfl) (pe_lst (pa_cons pe_int (pa_cons (pe_op op_add pe_int (pe_call G_l_draw (hr.mono (by decide)) (by rfl) T.g_l_draw T.F_l_draw.kp T.b_l_draw .nil pass0 (pa_cons (pv 0) (pa_cons pe_int pa_nil)))) (pa_cons (pe_op op_add pe_int (pe_call G_l_draw (hr.mono (by decide)) (by rfl) T.g_l_draw T.F_l_draw.kp T.b_l_draw .nil pass0 (pa_cons (pv 0) (pa_cons (pe_op op_pow pe_int pe_int) pa_nil)))) pa_nil)))) (pe_op op_fdiv (pe_call G_l_draw (hr.mono (by decide)) (by rfl) T.g_l_draw T.F_l_draw.kp T.b_l_draw .nil pass0 (pa_cons (pv 0) (pa_cons pe_int pa_nil))) pe_int) (fun _ _ => rfl)))
      (pss_one (ps_expr (pe_bm PySem.F.plainAttrs_list PySem.F.slot_list_append PySem.F.type_list_append mt_append (pv 4) (pa_cons (pe_tup (pa_cons (pe_call G_l_drawn_plan (hr.mono (by decide)) (by rfl) T.g_l_drawn_plan T.F_l_drawn_plan.kp T.b_l_drawn_plan .nil pass0 (pa_cons (pv 0) (pa_cons (pv 1) (pa_cons (pv 2) pa_nil)))) (pa_cons (pv 6) pa_nil))) pa_nil))))))
      (pss_cons (ps_if (pt_cmpR op_eq (pe_call G_l_draw (hr.mono (by decide)) (by rfl) T.g_l_draw T.F_l_draw.kp T.b_l_draw .nil pass0 (pa_cons (pv 0) (pa_cons pe_int pa_nil))) pe_int (nomark _)) (pss_one (ps_expr (pe_bm PySem.F.plainAttrs_list PySem.F.slot_list_append PySem.F.type_list_append mt_append (pv 4) (pa_cons (pe_tup (pa_cons (pe_callTy (call_listK K rfl) (by rfl) T.z_list (by decide +kernel) (pa_cons (pe_ix (ix_tupK K rfl) (pe_ix (ix_listK K rfl) (pv 4) pe_int (fun _ _ => rfl)) pe_int (fun _ _ => rfl)) pa_nil)) (pa_cons (pe_op op_add pe_int (pe_call G_l_draw (hr.mono (by decide)) (by rfl) T.g_l_draw T.F_l_draw.kp T.b_l_draw .nil pass0 (pa_cons (pv 0) (pa_cons pe_int pa_nil)))) pa_nil))) pa_nil)))) pss_nil)
      (pss_one (ps_ret (pv 4)))))), ?_⟩
  try dsimp only [L2.cxOf, L2.Cx.nox, L2.Cx.wish, List.map_cons, List.map_nil]
  obtain ⟨a, n, m, c, h, f, b, rfl, p0, p1, p2, p3, p4, k⟩ := h
  refine start_to (σ := [some _, some _, some _, some _, none, none, none]) rfl ?_
  walk_at "go"
  rename_i L nL d0 n0 c0 H0 a1 a2 a3 a4 a5
  have hLa : L ≠ a := by walk_at "g_ne"
  have e0 : H0 L = some (.lst []) := by walk_at "g_lk"
  refine forR (fun i σ H1 => ∃ (mx : List (List Int × Int)) (G : Hp) (xs : List V) (n' c' : Int) (y1 y2 : Option V), σ = [some (.ref a), some (.int h), some (.int f), some (.int b), some (.ref L), y1, y2] ∧ H1 a = some (.lst [.int n', .int m, .int c']) ∧ H1 L = some (.lst xs) ∧ DqAll G xs (mx.map partD) ∧ G L = none ∧ G a = none ∧ Same G H1 ∧ Left n' m ∧ (0 ≤ c' ∧ c' ≤ 1004 + 200 * i) ∧ mx.length = i ∧ (∀ pw ∈ mx, PlanC h f.toNat pw.1 ∧ 1 ≤ pw.2 ∧ pw.2 ≤ 10000000000000000000000000000) ∧ But a H H1) ⟨[], hid [L, a] H0, [], n0, c0, _, _, rfl, a5, e0, .nil, hid_in (by simp), hid_in (by simp), hid_same, a2, by omega, rfl, nofun, by walk_at "g_but"⟩ ?_ ?_
  · rintro σ1 H1 ⟨mx, G, xs, n', c', y1, y2, rfl, h1, h2, h3, h4, h5, h6, h7, h8, h9, h10, h11⟩
    have hl : xs.length = mx.length := by rw [h3.len, List.length_map]
    have hxs : xs.length ≤ 1000 := by omega
    obtain ⟨x0, hx0⟩ : ∃ x, xs[0]? = some x := ⟨xs[0]'(by omega), List.getElem?_eq_getElem _⟩
    obtain ⟨pw, t, p, g1, rfl, g2, g3⟩ := part_at h3 hx0
    have g2' := h6 _ _ g2
    have g3' := h6 _ _ g3
    have hat : atI xs 0 = some (.ref t) := atI_nat hx0
    have htL : t ≠ L := ne_of_none g2 h4
    have hta : t ≠ a := ne_of_none g2 h5
    have hpL : p ≠ L := ne_of_none g3 h4
    have hpa : p ≠ a := ne_of_none g3 h5
    have w0 : MixOk h f.toNat mx := ⟨by omega, by omega, by omega, fun pw hp => ⟨(h10 pw hp).1, (h10 pw hp).2.1⟩⟩
    walk_at "go"
    rename_i d3 n3 c3 H3 b1 b2 b3 b4 b5
    refine ite_d (fun e1 => ?_) (fun e1 => ?_)
    · walk_at "go"
      rename_i l b6 d4 n4 c4 H4 b7 b8 b9 b10 b11 T b12
      have e3 : H3 L = some (.lst xs) := by walk_at "g_lk"
      have e1 : H4 L = some (.lst xs) := by walk_at "g_lk"
      have tL : T ≠ L := ne_new' b12 e1
      have ta : T ≠ a := ne_new' b12 b11
      have lL : l ≠ L := ne_new' b6 e3
      have la : l ≠ a := ne_new' b6 b5
      have sG : Same G (upd (upd H4 T (.tup [.ref l, .int (1 + d4)])) L (.lst (xs ++ [.ref T]))) := by walk_at "g_same"
      refine k (mx ++ [(pw.1, 1 + d4)]) (hid [L, a] (upd (upd H4 T (.tup [.ref l, .int (1 + d4)])) L (.lst (xs ++ [.ref T])))) L (xs ++ [.ref T]) _ _ _ (by walk_at "g_lk") upd_same ?_ (hid_in (by simp)) (hid_in (by simp)) hid_same b8 (by omega) ⟨by simp; omega, by omega, by omega, ?_⟩ ⟨by simp; omega, ?_⟩ nL (by walk_at "g_but")
      · rw [List.map_append]
        exact DqAll.snoc (h3.same (same_hid2 sG h4 h5)) (part_mk (hid_lk (not_in2 tL ta) (by walk_at "g_lk")) (hid_lk (not_in2 lL la) (by walk_at "g_lk")))
      · intro pv hp
        rcases List.mem_append.mp hp with g | g
        · exact ⟨(h10 pv g).1, (h10 pv g).2.1⟩
        · rw [List.mem_singleton.mp g]
          exact ⟨(h10 pw (List.mem_of_getElem? g1)).1, by show 1 ≤ 1 + d4; omega⟩
      · intro pv hp
        rcases List.mem_append.mp hp with g | g
        · exact (h10 pv g).2.2
        · rw [List.mem_singleton.mp g]
          show 1 + d4 ≤ _
          omega
    · walk_at "go"
      exact k mx G L xs _ _ _ b5 (by walk_at "g_lk") h3 h4 h5 (by walk_at "g_same") b2 (by omega) w0 ⟨by omega, fun pw hp => (h10 pw hp).2.2⟩ nL (by walk_at "g_but")
  · rintro i σ1 H1 hi ⟨mx, G, xs, n', c', y1, y2, rfl, h1, h2, h3, h4, h5, h6, h7, h8, h9, h10, h11⟩
    have hl : xs.length = mx.length := by rw [h3.len, List.length_map]
    have hxs : xs.length ≤ 1000 := by omega
    walk_at "go"
    rename_i d1 n1 c1 H2 a1 a2 a3 a4 a5 d2 n2 c2 H3 a6 a7 a8 a9 a10 r1 a11 d3 n3 c3 H4 a12 a13 a14 a15 a16 v a17 B ps n5 c5 H5 b1 b2 b3 b4 b5 b6 b7 b8 T b9
    have e1 : H5 L = some (.lst xs) := by walk_at "g_lk"
    have tL : T ≠ L := ne_new' b9 e1
    have ta : T ≠ a := ne_new' b9 b1
    have e4 : H4 L = some (.lst xs) := by walk_at "g_lk"
    have bL : B ≠ L := ne_new' b6 e4
    have sG : Same G (upd (upd H5 T (.tup [.ref B, .int v])) L (.lst (xs ++ [.ref T]))) := by walk_at "g_same"
    have hv : 1 ≤ v ∧ v ≤ 10000000000000000000000000000 := by omega
    refine ⟨mx ++ [(ps, v)], hid [L, a] (upd (upd H5 T (.tup [.ref B, .int v])) L (.lst (xs ++ [.ref T]))), xs ++ [.ref T], n5, c5, _, _, rfl, by walk_at "g_lk", upd_same, ?_, hid_in (by simp), hid_in (by simp), hid_same, b3, by omega, by simp [h9], ?_, by walk_at "g_but"⟩
    · rw [List.map_append]
      exact DqAll.snoc (h3.same (same_hid2 sG h4 h5)) (part_mk (hid_lk (not_in2 tL ta) (by walk_at "g_lk")) (hid_lk (not_in2 bL b8) (by walk_at "g_lk")))
    · intro pw hp
      rcases List.mem_append.mp hp with g | g
      · exact h10 pw g
      · rw [List.mem_singleton.mp g]
        exact ⟨b7, hv⟩


def sp_l_kind_of (K : PySem.W.Frag) (e_NoNumber : Addr) : Sp := fun vs H Q E => ∃ (a : Addr), vs = [.ref a] ∧ (H a = some (exHO a (.ref e_NoNumber) none)) ∧ ∀ (H' : Hp), (Same H H') → Q (.str (PySem.Str.ofString "number")) H'
theorem use_l_kind_of {K : PySem.W.Frag} {e_NoNumber : Addr} {H : Hp} {Q : VK} {E : XK} {a : Addr} (p0 : H a = some (exHO a (.ref e_NoNumber) none)) (k : ∀ (H' : Hp), (Same H H') → Q (.str (PySem.Str.ofString "number")) H') : sp_l_kind_of K e_NoNumber [.ref a] H Q E := ⟨a, rfl, p0, k⟩
theorem len_l_kind_of {K : PySem.W.Frag} {e_NoNumber : Addr} (vs : List V) (H : Hp) (Q : VK) (E : XK) (h : sp_l_kind_of K e_NoNumber vs H Q E) : vs.length = ["_law_caught"].length := by
  obtain ⟨_, rfl, _⟩ := h
  rfl
local macro_rules | `(tactic| walk_at "g_call") => `(tactic| ((with_reducible refine' use_l_kind_of ?c0 ?_); (case c0 => walk_at "g_pre"); intros))
theorem ok_l_kind_of (T : Txt K mg) : FnOk P w K mg base CX0 1 T.a_l_kind_of T.d_l_kind_of ["_law_caught"] (sp_l_kind_of K T.e_NoNumber) := by
  refine T.F_l_kind_of.ok sc_l_kind_of len_l_kind_of (fun cdv A outer s H vs Q E hr h => ?_)
  refine ⟨_, (pss_cons (ps_set (i := 1) sc_l_kind_of.nd rfl (Or.inl rfl) (pe_lst (pa_cons (pe_callB (call_isXK K rfl) (by rfl) T.z_isinstance (by decide +kernel) (pa_cons (pv 0) (pa_cons (pe_glob (v := .ref T.e_NoBattle) rfl T.g_NoBattle rfl) pa_nil))) (pa_cons (pe_callB (call_isXK K rfl) (by rfl) T.z_isinstance (by decide +kernel) (pa_cons (pv 0) (pa_cons (pe_glob (v := .ref T.e_NoPlan) rfl T.g_NoPlan rfl) pa_nil))) (pa_cons (pe_callB (call_isXK K rfl) (by rfl) T.z_isinstance (by decide +kernel) (pa_cons (pv 0) (pa_cons (pe_glob (v := .ref T.e_NoMix) rfl T.g_NoMix rfl) pa_nil))) pa_nil)))))
      (pss_cons (ps_set (i := 1) sc_l_kind_of.nd rfl (Or.inl rfl) (pe_op op_cat (pv 1) (pe_lst (pa_cons (pe_callB (call_isXK K rfl) (by rfl) T.z_isinstance (by decide +kernel) (pa_cons (pv 0) (pa_cons (pe_glob (v := .ref T.e_NoStream) rfl T.g_NoStream rfl) pa_nil))) (pa_cons (pe_callB (call_isXK K rfl) (by rfl) T.z_isinstance (by decide +kernel) (pa_cons (pv 0) (pa_cons (pe_glob (v := .ref T.e_NoSide) rfl T.g_NoSide rfl) pa_nil))) (pa_cons (pe_callB (call_isXK K rfl) (by rfl) T.z_isinstance (by decide +kernel) (pa_cons (pv 0) (pa_cons (pe_glob (v := .ref T.e_NoAlike) rfl T.g_NoAlike rfl) pa_nil))) pa_nil))))))
      (pss_cons (ps_set (i := 1) sc_l_kind_of.nd rfl (Or.inl rfl) (pe_op op_cat (pv 1) (pe_lst (pa_cons (pe_callB (call_isXK K rfl) (by rfl) T.z_isinstance (by decide +kernel) (pa_cons (pv 0) (pa_cons (pe_glob (v := .ref T.e_NoNumber) rfl T.g_NoNumber rfl) pa_nil))) (pa_cons (pe_callB (call_isXK K rfl) (by rfl) T.z_isinstance (by decide +kernel) (pa_cons (pv 0) (pa_cons (pe_glob (v := .ref T.e_TooGreat) rfl T.g_TooGreat rfl) pa_nil))) (pa_cons (pe_callB (call_isXK K rfl) (by rfl) T.z_isinstance (by decide +kernel) (pa_cons (pv 0) (pa_cons (pe_glob (v := .ref T.e_NoEven) rfl T.g_NoEven rfl) pa_nil))) pa_nil))))))
      (pss_cons (ps_set (i := 1) sc_l_kind_of.nd rfl (Or.inl rfl) (pe_op op_cat (pv 1) (pe_lst (pa_cons (pe_callB (call_isXK K rfl) (by rfl) T.z_isinstance (by decide +kernel) (pa_cons (pv 0) (pa_cons (pe_glob (v := .ref T.e_NoText) rfl T.g_NoText rfl) pa_nil))) (pa_cons (pe_callB (call_isXK K rfl) (by rfl) T.z_isinstance (by decide +kernel) (pa_cons (pv 0) (pa_cons (pe_glob (v := .ref T.e_NoRow) rfl T.g_NoRow rfl) pa_nil))) (pa_cons (pe_callB (call_isXK K rfl) (by rfl) T.z_isinstance (by decide +kernel) (pa_cons (pv 0) (pa_cons (pe_glob (v := .ref T.e_NoName) rfl T.g_NoName rfl) pa_nil))) pa_nil))))))
      (pss_cons (ps_set (i := 1) sc_l_kind_of.nd rfl (Or.inl rfl) (pe_op op_cat (pv 1) (pe_lst (pa_cons (pe_callB (call_isXK K rfl) (by rfl) T.z_isinstance (by decide +kernel) (pa_cons (pv 0) (pa_cons (pe_glob (v := .ref T.e_NoPlace) rfl T.g_NoPlace rfl) pa_nil))) pa_nil))))
      (pss_cons (ps_set (i := 2) sc_l_kind_of.nd rfl (Or.inl rfl) (pe_lst (pa_cons pe_str (pa_cons pe_str (pa_cons pe_str (pa_cons pe_str (pa_cons pe_str (pa_cons pe_str (pa_cons pe_str (pa_cons pe_str (pa_cons pe_str (pa_cons pe_str (pa_cons pe_str (pa_cons pe_str pa_nil))))))))))))))
      (pss_cons (ps_if (pt_cmpR op_isN (pv 0) pe_non (nomark _)) (pss_one (ps_ret pe_str)) pss_nil)
      (pss_cons (ps_if (PW.pt (pw_or (pt_not (pt_val (pe_callB (call_isXK K rfl) (by rfl) T.z_isinstance (by decide +kernel) (pa_cons (pv 0) (pa_cons (pe_glob (v := .ref T.e_HostError) rfl T.g_HostError rfl) pa_nil))))) (pw_or (pt_not (pt_val (pe_callB (call_isXK K rfl) (by rfl) T.z_isinstance (by decide +kernel) (pa_cons (pv 0) (pa_cons (pe_bltn (v := .ty "ValueError") rfl T.z_ValueError (by decide +kernel) rfl) pa_nil))))) (pw_or1 (pt_cmpR op_ne (pe_bm PySem.F.plainAttrs_list PySem.F.slot_list_count PySem.F.type_list_count (mt_lcountVK K rfl) (pv 1) (pa_cons pe_bl pa_nil)) pe_int (nomark _)))))) (pss_one (ps_ret pe_str)) pss_nil)
      (pss_one (ps_ret (pe_ix (ix_listK K rfl) (pe_op op_cat (pv 2) (pe_lst (pa_cons pe_str pa_nil))) (pe_bm PySem.F.plainAttrs_list PySem.F.slot_list_index PySem.F.type_list_index (mt_indexK K rfl) (pv 1) (pa_cons pe_bl pa_nil)) (fun _ _ => rfl)))))))))))), ?_⟩
  try dsimp only [L2.cxOf, L2.Cx.nox, L2.Cx.wish, List.map_cons, List.map_nil]
  obtain ⟨a, rfl, p0, k⟩ := h
  refine start_to (σ := [some _, none, none]) rfl ?_
  walk_at "go"
  exact k _ (by walk_at "g_same")

def sp_l_is_whole (K : PySem.W.Frag) : Sp := fun vs H Q E => ∃ (i : Int), vs = [.int i] ∧ Q (.bl true) H
theorem use_l_is_whole {K : PySem.W.Frag} {H : Hp} {Q : VK} {E : XK} {i : Int}  (k : Q (.bl true) H) : sp_l_is_whole K [.int i] H Q E := ⟨i, rfl, k⟩
theorem len_l_is_whole {K : PySem.W.Frag} (vs : List V) (H : Hp) (Q : VK) (E : XK) (h : sp_l_is_whole K vs H Q E) : vs.length = ["_law_told"].length := by
  obtain ⟨_, rfl, _⟩ := h
  rfl
local macro_rules | `(tactic| walk_at "g_call") => `(tactic| ((with_reducible refine' use_l_is_whole ?_); intros))
theorem ok_l_is_whole (T : Txt K mg) : FnOk P w K mg base CX0 1 T.a_l_is_whole T.d_l_is_whole ["_law_told"] (sp_l_is_whole K) := by
  refine T.F_l_is_whole.ok sc_l_is_whole len_l_is_whole (fun cdv A outer s H vs Q E hr h => ?_)
  refine ⟨_, (pss_one (ps_ret (pe_and (pe_callB (call_isXK K rfl) (by rfl) T.z_isinstance (by decide +kernel) (pa_cons (pv 0) (pa_cons (pe_bltn (v := .ty "int") rfl T.z_int (by decide +kernel) rfl) pa_nil))) (pe_one (pe_not (pe_callB (call_isXK K rfl) (by rfl) T.z_isinstance (by decide +kernel) (pa_cons (pv 0) (pa_cons (pe_bltn (v := .ty "bool") rfl T.z_bool (by decide +kernel) rfl) pa_nil)))))))), ?_⟩
  try dsimp only [L2.cxOf, L2.Cx.nox, L2.Cx.wish, List.map_cons, List.map_nil]
  obtain ⟨i, rfl, k⟩ := h
  refine start_to (σ := [some _]) rfl ?_
  walk_at "go"
  exact k
def sp_l_due_of (K : PySem.W.Frag) : Sp := fun vs H Q E => ∃ (v : V) (m : List (List Int × Int)) (z : Int), vs = [v, .int z] ∧ (Dq H v (mixD m)) ∧ (0 ≤ z ∧ z < whole m) ∧ ∀ (p : Addr), (H p = some (.lst ((due m z).map V.int))) → Q (.ref p) H
theorem use_l_due_of {K : PySem.W.Frag} {H : Hp} {Q : VK} {E : XK} {v : V} {m : List (List Int × Int)} {z : Int} (p0 : Dq H v (mixD m)) (p1 : 0 ≤ z ∧ z < whole m) (k : ∀ (p : Addr), (H p = some (.lst ((due m z).map V.int))) → Q (.ref p) H) : sp_l_due_of K [v, .int z] H Q E := ⟨v, m, z, rfl, p0, p1, k⟩
theorem len_l_due_of {K : PySem.W.Frag} (vs : List V) (H : Hp) (Q : VK) (E : XK) (h : sp_l_due_of K vs H Q E) : vs.length = ["_law_mix", "_law_number"].length := by
  obtain ⟨_, _, _, rfl, _⟩ := h
  rfl
local macro_rules | `(tactic| walk_at "g_call") => `(tactic| ((with_reducible refine' use_l_due_of ?c0 ?c1 ?_); (case c0 => walk_at "g_pre"); (case c1 => walk_at "g_pre"); intros))
theorem ok_l_due_of (T : Txt K mg) : FnOk P w K mg base CX0 1 T.a_l_due_of T.d_l_due_of ["_law_mix", "_law_number"] (sp_l_due_of K) := by
  refine T.F_l_due_of.ok sc_l_due_of len_l_due_of (fun cdv A outer s H vs Q E hr h => ?_)
  refine ⟨_, (pss_cons (ps_for PassesOwn.never rfl (pi_listK K rfl (pv 0)) (pg_tupK K rfl 2 rfl (pgs_cons (pg_name (i := 2) sc_l_due_of.nd rfl (Or.inl rfl)) (pgs_cons (pg_name (i := 3) sc_l_due_of.nd rfl (Or.inl rfl)) pgs_nil))) (pss_cons (ps_if (pt_cmpR op_lt (pv 1) (pv 3) (nomark _)) (pss_one (ps_ret (pv 2))) pss_nil)
      (pss_one (ps_set (i := 1) sc_l_due_of.nd rfl (Or.inl rfl) (pe_op op_sub (pv 1) (pv 3))))))
      (pss_one (ps_ret pe_non))), ?_⟩
  try dsimp only [L2.cxOf, L2.Cx.nox, L2.Cx.wish, List.map_cons, List.map_nil]
  obtain ⟨v, m, z, rfl, p0, p1, k⟩ := h
  obtain ⟨a, xs, rfl, q1, q2, q3⟩ := mix_inv p0
  refine start_to (σ := [some _, some _, none, none]) rfl ?_
  walk_at "go"
  refine forL (xs := xs) (fun i σ H1 => ∃ (l : Int) (y1 y2 : Option V), σ = [some (.ref a), some (.int l), y1, y2] ∧ H1 = H ∧ due (m.drop i) l = due m z ∧ 0 ≤ l ∧ l < whole (m.drop i)) ⟨z, _, _, rfl, rfl, by rw [List.drop_zero], p1.1, by rw [List.drop_zero]; exact p1.2⟩ ?_ ?_ ?_
  · rintro i σ H1 _ ⟨l, y1, y2, rfl, rfl, h1, h2, h3⟩
    exact SqL.of q1
  · rintro σ H1 ⟨l, y1, y2, rfl, rfl, h1, h2, h3⟩
    rw [List.drop_eq_nil_of_le (by omega)] at h3
    simp [whole] at h3
    omega
  · rintro i x σ H1 hx ⟨l, y1, y2, rfl, rfl, h1, h2, h3⟩
    obtain ⟨pw, t, p, e1, rfl, e2, e3⟩ := q3 i x hx
    rw [drop_get e1] at h1 h3
    rw [whole_cons] at h3
    walk_at "go"
    refine ite_d (fun c1 => ?_) (fun c1 => ?_)
    · rw [due, if_pos c1] at h1
      rw [h1] at e3
      walk_at "go"
      exact k p e3
    · rw [due, if_neg c1] at h1
      walk_at "go"
      exact ⟨_, _, _, rfl, rfl, h1, by omega, by omega⟩
def sp_l_caught_by (K : PySem.W.Frag) : Sp := fun vs H Q E => ∃ (v : V) (m : List (List Int × Int)) (h : Int) (n : Nat) (z : Int), vs = [v, .int z] ∧ (Dq H v (mixD m)) ∧ (MixOk h n m) ∧ (¬ (0 ≤ z ∧ z < whole m)) ∧ ∀ (H' : Hp), (Same H H') → Q (.str (PySem.Str.ofString "number")) H'
theorem use_l_caught_by {K : PySem.W.Frag} {H : Hp} {Q : VK} {E : XK} {v : V} {m : List (List Int × Int)} {h : Int} {n : Nat} {z : Int} (p0 : Dq H v (mixD m)) (p1 : MixOk h n m) (p2 : ¬ (0 ≤ z ∧ z < whole m)) (k : ∀ (H' : Hp), (Same H H') → Q (.str (PySem.Str.ofString "number")) H') : sp_l_caught_by K [v, .int z] H Q E := ⟨v, m, h, n, z, rfl, p0, p1, p2, k⟩
theorem len_l_caught_by {K : PySem.W.Frag} (vs : List V) (H : Hp) (Q : VK) (E : XK) (h : sp_l_caught_by K vs H Q E) : vs.length = ["_law_mix", "_law_number"].length := by
  obtain ⟨_, _, _, _, _, rfl, _⟩ := h
  rfl
local macro_rules | `(tactic| walk_at "g_call") => `(tactic| ((with_reducible refine' use_l_caught_by ?c0 ?c1 ?c2 ?_); (case c0 => walk_at "g_pre"); (case c1 => walk_at "g_pre"); (case c2 => walk_at "g_pre"); intros))
theorem ok_l_caught_by (T : Txt K mg) : FnOk P w K mg base CX0 8 T.a_l_caught_by T.d_l_caught_by ["_law_mix", "_law_number"] (sp_l_caught_by K) := by
  have G_l_kind_of := ok_l_kind_of (P := P) (w := w) (base := base) T
  have G_played := ok_played (P := P) (w := w) (base := base) T
  refine T.F_l_caught_by.ok sc_l_caught_by len_l_caught_by (fun cdv A outer s H vs Q E hr h => ?_)
  refine ⟨_, (pss_cons (ps_set (i := 2) sc_l_caught_by.nd rfl (Or.inl rfl) pe_non)
      (pss_cons (ps_try_asT (i := 3) rfl rfl rfl sc_l_caught_by.nd rfl rfl ⟨rfl, by decide, Or.inl T.g_HostError⟩ takes0 (fun W pn xe tk po => (pss_one (ps_expr (pe_callS G_played (hr.mono (by decide)) (by rfl) T.g_played T.F_played.kp T.b_played (fun σ => passAt tk σ) (pa_cons (pv 0) (pa_cons (pv 1) pa_nil)))))) (fun a oe pn => (pss_one (ps_set (i := 2) sc_l_caught_by.nd rfl (Or.inl rfl) (pv 3)))))
      (pss_one (ps_ret (pe_call G_l_kind_of (hr.mono (by decide)) (by rfl) T.g_l_kind_of T.F_l_kind_of.kp T.b_l_kind_of .nil pass0 (pa_cons (pv 2) pa_nil)))))), ?_⟩
  try dsimp only [L2.cxOf, L2.Cx.nox, L2.Cx.wish, List.map_cons, List.map_nil]
  obtain ⟨v, m, h, n, z, rfl, p0, p1, p2, k⟩ := h
  refine start_to (σ := [some _, some _, none, none]) rfl ?_
  walk_at "go"
  exact k _ (by walk_at "g_same")
def sp_l_all_figured (K : PySem.W.Frag) : Sp := fun vs H Q E => ∃ (a : Addr) (v : V) (m : List (List Int × Int)) (h : Int) (n : Nat) (x y c : Int), vs = [.ref a, v, .int (whole m)] ∧ (H a = some (.lst [.int x, .int y, .int c])) ∧ (Left x y) ∧ (0 ≤ c ∧ c ≤ 50000) ∧ (Dq (hid [a] H) v (mixD m)) ∧ (MixOk h n m) ∧ (WtOk m) ∧ ∀ (L : Addr) (ns : List Int) (x' c' : Int) (H' : Hp), (H' a = some (.lst [.int x', .int y, .int c'])) → (H' L = some (.lst (ns.map V.int))) → (ns.length ≤ 1000 ∧ (∀ z ∈ ns, 0 ≤ z ∧ z < whole m)) → (Left x' y) → (0 ≤ c' ∧ c' ≤ c + 100) → (But a H H') → (H L = none) → Q (.ref L) H'
theorem use_l_all_figured {K : PySem.W.Frag} {H : Hp} {Q : VK} {E : XK} {a : Addr} {v : V} {m : List (List Int × Int)} {h : Int} {n : Nat} {x y c : Int} (p0 : H a = some (.lst [.int x, .int y, .int c])) (p1 : Left x y) (p2 : 0 ≤ c ∧ c ≤ 50000) (p3 : Dq (hid [a] H) v (mixD m)) (p4 : MixOk h n m) (p5 : WtOk m) (k : ∀ (L : Addr) (ns : List Int) (x' c' : Int) (H' : Hp), (H' a = some (.lst [.int x', .int y, .int c'])) → (H' L = some (.lst (ns.map V.int))) → (ns.length ≤ 1000 ∧ (∀ z ∈ ns, 0 ≤ z ∧ z < whole m)) → (Left x' y) → (0 ≤ c' ∧ c' ≤ c + 100) → (But a H H') → (H L = none) → Q (.ref L) H') : sp_l_all_figured K [.ref a, v, .int (whole m)] H Q E := ⟨a, v, m, h, n, x, y, c, rfl, p0, p1, p2, p3, p4, p5, k⟩
theorem len_l_all_figured {K : PySem.W.Frag} (vs : List V) (H : Hp) (Q : VK) (E : XK) (h : sp_l_all_figured K vs H Q E) : vs.length = ["_law_left", "_law_mix", "_law_whole"].length := by
  obtain ⟨_, _, _, _, _, _, _, _, rfl, _⟩ := h
  rfl
local macro_rules | `(tactic| walk_at "g_call") => `(tactic| ((with_reducible refine' use_l_all_figured ?c0 ?c1 ?c2 ?c3 ?c4 ?c5 ?_); (case c0 => walk_at "g_pre"); (case c1 => walk_at "g_pre"); (case c2 => walk_at "g_pre"); (case c3 => walk_at "g_pre"); (case c4 => walk_at "g_pre"); (case c5 => walk_at "g_pre"); intros))
theorem ok_l_all_figured (T : Txt K mg) : FnOk P w K mg base CX0 3 T.a_l_all_figured T.d_l_all_figured ["_law_left", "_law_mix", "_law_whole"] (sp_l_all_figured K) := by
  have G_l_draw := ok_l_draw (P := P) (w := w) (base := base) T
  refine T.F_l_all_figured.ok sc_l_all_figured len_l_all_figured (fun cdv A outer s H vs Q E hr h => ?_)
  refine ⟨_, (pss_cons (ps_if (pt_cmpR op_le (pv 2) pe_int (nomark _)) (pss_one (ps_ret (pe_listRg rfl (by rfl) T.z_list (prg_1 (by rfl) T.z_range (pv 2))))) pss_nil)
      (pss_cons (ps_set (i := 3) sc_l_all_figured.nd rfl (Or.inl rfl) (pe_lst pa_nil))
      (pss_cons (ps_set (i := 4) sc_l_all_figured.nd rfl (Or.inl rfl) pe_int)
      (pss_cons (ps_for PassesOwn.never rfl (pi_listK K rfl (pv 1)) (pg_tupK K rfl 2 rfl (pgs_cons (pg_name (i := 5) sc_l_all_figured.nd rfl (Or.inl rfl)) (pgs_cons (pg_name (i := 6) sc_l_all_figured.nd rfl (Or.inl rfl)) pgs_nil))) (pss_cons (ps_set (i := 3) sc_l_all_figured.nd rfl (Or.inl rfl) (pe_op op_cat (pv 3) (pe_lst (pa_cons (pv 4) (pa_cons (pe_op op_sub (pe_op op_add (pv 4) (pv 6)) pe_int) pa_nil)))))
      (pss_one (ps_set (i := 4) sc_l_all_figured.nd rfl (Or.inl rfl) (pe_op op_add (pv 4) (pv 6))))))
      (pss_one (ps_ret (pe_op op_cat (pv 3) (pe_lc (own := [("_law_k", 7)]) rfl sc_l_all_figured.nd (pi_range1 rfl T.z_range (pa_cons pe_int pa_nil)) (blkOk_by (own := [("_law_k", 7)]) (N := ["_law_left", "_law_mix", "_law_whole", "_law_found", "_law_at", "_law_plan", "_law_weight", "_law_k"]) (sc := defScope s_l_all_figured) (by decide +kernel)) (fun _ _ _ _ _ => (pg_name (i := 7) sc_l_all_figured.nd rfl (Or.inl rfl))) (fun _ _ _ _ _ => pts_nil) (fun _ _ _ _ _ => (pe_call G_l_draw (hr.mono (by decide)) (by rfl) T.g_l_draw T.F_l_draw.kp T.b_l_draw .nil pass0 (pa_cons (pv 0) (pa_cons (pv 2) pa_nil)))))))))))), ?_⟩
  try dsimp only [L2.cxOf, L2.Cx.nox, L2.Cx.wish, List.map_cons, List.map_nil]
  obtain ⟨a, v, m, h, n, x, y, c, rfl, p0, p1, p2, p3, p4, p5, k⟩ := h
  refine start_to (σ := [some _, some _, some _, none, none, none, none, none]) rfl ?_
  have hw := p4.whole_pos
  have hw2 := p5.le
  have hm := p4.ne
  walk_at "go"
  refine ite_d (fun c1 => ?_) (fun c1 => ?_)
  · walk_at "go"
    rename_i q nq
    rw [rg_ints]
    refine k _ _ _ _ _ (by walk_at "g_lk") upd_same ⟨by simp; omega, ?_⟩ p1 (by omega) (by walk_at "g_but") nq
    intro z hz
    obtain ⟨j, hj, rfl⟩ := List.mem_map.mp hz
    have := List.mem_range.mp hj
    omega
  · obtain ⟨A, xs, rfl, q1, q2, q3⟩ := mix_inv p3
    have q1' := hid_same _ _ q1
    have hA : A ≠ a := fun e => by
      rw [e, hid_in (by simp)] at q1
      cases q1
    walk_at "go"
    rename_i F nF
    refine forL (xs := xs) (fun i σ H1 => ∃ (F : Addr) (ns : List Int) (y1 y2 : Option V), σ = [some (.ref a), some (.ref A), some (.int (whole m)), some (.ref F), some (.int (whole (m.take i))), y1, y2, none] ∧ Same H H1 ∧ H1 F = some (.lst (ns.map V.int)) ∧ H F = none ∧ ns.length = 2 * i ∧ (∀ z ∈ ns, 0 ≤ z ∧ z < whole m)) ⟨F, [], _, _, rfl, by walk_at "g_same", upd_same, nF, rfl, nofun⟩ ?_ ?_ ?_
    · rintro i σ H1 _ ⟨F, ns, y1, y2, rfl, h1, h2, h5, h3, h4⟩
      exact SqL.of (h1 _ _ q1')
    · rintro σ H1 ⟨F, ns, y1, y2, rfl, h1, h2, h5, h3, h4⟩
      walk_at "go"
      intro D nD
      have ea := h1 _ _ p0
      have hDa : D ≠ a := ne_new' nD ea
      refine lcR (fun i acc H2 => ∃ (ms : List Int) (x' c' : Int), acc = ms.map V.int ∧ H2 a = some (.lst [.int x', .int y, .int c']) ∧ Left x' y ∧ (0 ≤ c' ∧ c' ≤ c + 4 * i) ∧ But a H1 H2 ∧ ms.length = i ∧ (∀ z ∈ ms, 0 ≤ z ∧ z < whole m)) nD ⟨[], x, c, rfl, by walk_at "g_lk", p1, by omega, by walk_at "g_but", rfl, nofun⟩ ?_ ?_
      · rintro i acc H2 Z Y hi ⟨ms, x', c', rfl, g1, g2, g3, g4, g5, g6⟩ hD hz _
        have hb : 0 < whole m ∧ whole m < 2 ^ 200 := by omega
        have hi' : i < 5 := by
          have : (5 : Int).toNat = 5 := rfl
          omega
        clear p3 q1 q3
        walk_at "go"
        rename_i d x2 c2 H3 a1 a2 a3 a4 a5
        refine hz _ _ (by walk_at "g_lk") (sz4' (by simp; omega)) ⟨ms ++ [d], x2, c2, by simp, by walk_at "g_lk", a2, by omega, by walk_at "g_but", by simp [g5], ?_⟩
        intro z hz
        rcases List.mem_append.mp hz with g | g
        · exact g6 z g
        · rw [List.mem_singleton.mp g]
          omega
      · rintro acc H2 ⟨ms, x', c', rfl, g1, g2, g3, g4, g5, g6⟩ hD
        have e1 : H2 F = some (.lst (ns.map V.int)) := by
          refine g4 _ _ (ne_new' h5 p0) h2
        walk_at "go"
        rename_i L nL
        refine k L (ns ++ ms) _ _ _ (by walk_at "g_lk") (by rw [List.map_append]; exact upd_same) ⟨by simp; omega, ?_⟩ g2 (by omega) (by walk_at "g_but") ?_
        · intro z hz
          rcases List.mem_append.mp hz with g | g
          · exact h4 z g
          · exact g6 z g
        · exact h1.free (Hf.But.free nL (by walk_at "g_but") (by walk_at "g_lk"))
    · rintro i x0 σ H1 hx ⟨F, ns, y1, y2, rfl, h1, h2, h5, h3, h4⟩
      obtain ⟨pw, t, p, e1, rfl, e2, e3⟩ := q3 i x0 hx
      have e2' := h1 _ _ (hid_same _ _ e2)
      have hi : i < 100 := by
        have := (List.getElem?_eq_some_iff.mp e1).1
        omega
      obtain ⟨b1, b2, b3, b4⟩ := p4.at e1
      clear e2 e3 q1 p3
      walk_at "go"
      rename_i r nr F2 nF2
      refine ⟨F2, ns ++ [whole (m.take i), whole (m.take i) + pw.2 - 1], _, _, by rw [b3], by walk_at "g_same", by rw [List.map_append]; exact upd_same, ?_, by simp; omega, ?_⟩
      · walk_at "g_free"
      · intro z hz
        rcases List.mem_append.mp hz with g | g
        · exact h4 z g
        · rcases List.mem_cons.mp g with g | g
          · omega
          · rw [List.mem_singleton.mp g]
            omega

def sp_law (K : PySem.W.Frag) : Sp := fun vs H Q E => ∃ (a : Addr) (ns : List Int), vs = [.ref a] ∧ (SqL K H a (ns.map V.int)) ∧ (ns.length ≤ 63) ∧ ∀ (H' : Hp), Q (.bl true) H'
theorem use_law {K : PySem.W.Frag} {H : Hp} {Q : VK} {E : XK} {a : Addr} {ns : List Int} (p0 : SqL K H a (ns.map V.int)) (p1 : ns.length ≤ 63) (k : ∀ (H' : Hp), Q (.bl true) H') : sp_law K [.ref a] H Q E := ⟨a, ns, rfl, p0, p1, k⟩
theorem len_law {K : PySem.W.Frag} (vs : List V) (H : Hp) (Q : VK) (E : XK) (h : sp_law K vs H Q E) : vs.length = ["_law_script"].length := by
  obtain ⟨_, _, rfl, _⟩ := h
  rfl
theorem ok_law (T : Txt K mg) : FnOk P w K mg base CX0 9 T.a_law T.d_law ["_law_script"] (sp_law K) := by
  have G_l_opened := ok_l_opened (P := P) (w := w) (base := base) T
  have G_l_drawn_mix := ok_l_drawn_mix (P := P) (w := w) (base := base) T
  have G_whole_of := ok_whole_of (P := P) (w := w) (base := base) T
  have G_l_all_figured := ok_l_all_figured (P := P) (w := w) (base := base) T
  have G_l_draw := ok_l_draw (P := P) (w := w) (base := base) T
  have G_l_is_whole := ok_l_is_whole (P := P) (w := w) (base := base) T
  have G_played := ok_played (P := P) (w := w) (base := base) T
  have G_l_caught_by := ok_l_caught_by (P := P) (w := w) (base := base) T
  have G_l_due_of := ok_l_due_of (P := P) (w := w) (base := base) T
  refine T.F_law.ok sc_law len_law (fun cdv A outer s H vs Q E hr h => ?_)
  refine ⟨_, (pss_cons (ps_for PassesOwn.never rfl (pi_listK K rfl (pe_op op_cat (pe_lst (pa_cons pe_int pa_nil)) (pe_slice (sl_listK K rfl) (pv 0) po_none (po_some pe_int)))) (pg_name (i := 1) sc_law.nd rfl (Or.inl rfl)) (pss_cons (ps_set (i := 2) sc_law.nd rfl (Or.inl rfl) (pe_call G_l_opened (hr.mono (by decide)) (by rfl) T.g_l_opened T.F_l_opened.kp T.b_l_opened .nil pass0 (pa_cons (pv 1) pa_nil)))
      (pss_cons (ps_set (i := 3) sc_law.nd rfl (Or.inl rfl) (pe_ix (ix_listK K rfl) (pe_lst (pa_cons (pe_call G_l_draw (hr.mono (by decide)) (by rfl) T.g_l_draw T.F_l_draw.kp T.b_l_draw .nil pass0 (pa_cons (pv 2) (pa_cons pe_int pa_nil))) (pa_cons pe_int (pa_cons (pe_call G_l_draw (hr.mono (by decide)) (by rfl) T.g_l_draw T.F_l_draw.kp T.b_l_draw .nil pass0 (pa_cons (pv 2) (pa_cons pe_int pa_nil))) pa_nil)))) (pe_op op_fdiv (pe_call G_l_draw (hr.mono (by decide)) (by rfl) T.g_l_draw T.F_l_draw.kp T.b_l_draw .nil pass0 (pa_cons (pv 2) (pa_cons pe_int pa_nil))) pe_int) (fun _ _ => rfl)))
      (pss_cons (ps_set (i := 4) sc_law.nd rfl (Or.inl rfl) (pe_call G_l_drawn_mix (hr.mono (by decide)) (by rfl) T.g_l_drawn_mix T.F_l_drawn_mix.kp T.b_l_drawn_mix .nil pass0 (pa_cons (pv 2) (pa_cons (pv 3) (pa_cons (pe_op op_add pe_int (pe_call G_l_draw (hr.mono (by decide)) (by rfl) T.g_l_draw T.F_l_draw.kp T.b_l_draw .nil pass0 (pa_cons (pv 2) (pa_cons pe_int pa_nil)))) (pa_cons pe_int pa_nil))))))
      (pss_cons (ps_setLc (i := 5) (own := [("_law_plan", 12), ("_law_weight", 13)]) rfl sc_law.nd rfl rfl (sw_true rfl rfl rfl (by decide +kernel)) (pi_listK K rfl (pv 4)) (blkOk_by (own := [("_law_plan", 12), ("_law_weight", 13)]) (N := ["_law_script", "_law_cell", "_law_left", "_law_hosts", "_law_mix", "_law_handed", "_law_whole", "_law_total", "_law_number", "_law_turn", "_law_told", "_law_far", "_law_plan", "_law_weight"]) (sc := defScope s_law) (by decide +kernel)) (fun _ _ _ _ _ => (pg_tupK K rfl 2 rfl (pgs_cons (pg_name (i := 12) sc_law.nd rfl (Or.inl rfl)) (pgs_cons (pg_name (i := 13) sc_law.nd rfl (Or.inl rfl)) pgs_nil)))) (fun _ _ _ _ _ => pts_nil) (fun _ _ _ _ _ => (pe_tup (pa_cons (pe_callTy (call_listK K rfl) (by rfl) T.z_list (by decide +kernel) (pa_cons (pv 12) pa_nil)) (pa_cons (pv 13) pa_nil)))))
      (pss_cons (ps_set (i := 6) sc_law.nd rfl (Or.inl rfl) (pe_callB (cr_sumK K rfl rfl) (by rfl) T.z_sum (by decide +kernel) (pa_cons (pe_lc (own := [("_law_plan", 12), ("_law_weight", 13)]) rfl sc_law.nd (pi_listK K rfl (pv 4)) (blkOk_by (own := [("_law_plan", 12), ("_law_weight", 13)]) (N := ["_law_script", "_law_cell", "_law_left", "_law_hosts", "_law_mix", "_law_handed", "_law_whole", "_law_total", "_law_number", "_law_turn", "_law_told", "_law_far", "_law_plan", "_law_weight"]) (sc := defScope s_law) (by decide +kernel)) (fun _ _ _ _ _ => (pg_tupK K rfl 2 rfl (pgs_cons (pg_name (i := 12) sc_law.nd rfl (Or.inl rfl)) (pgs_cons (pg_name (i := 13) sc_law.nd rfl (Or.inl rfl)) pgs_nil)))) (fun _ _ _ _ _ => pts_nil) (fun _ _ _ _ _ => (pv 13))) pa_nil)))
      (pss_cons (ps_set (i := 7) sc_law.nd rfl (Or.inl rfl) (pe_call G_whole_of (hr.mono (by decide)) (by rfl) T.g_whole_of T.F_whole_of.kp T.b_whole_of .nil pass0 (pa_cons (pv 5) pa_nil)))
      (pss_cons (ps_if (PW.pt (pw_or (pt_not (pt_val (pe_call G_l_is_whole (hr.mono (by decide)) (by rfl) T.g_l_is_whole T.F_l_is_whole.kp T.b_l_is_whole .nil pass0 (pa_cons (pv 7) pa_nil)))) (pw_or (pt_cmpR op_ne (pv 7) (pv 6) (nomark _)) (pw_or1 (pt_cmpR (op_neDK K rfl hr.units) (pv 5) (pv 4) (nomark _)))))) (pss_one (ps_ret pe_bl)) pss_nil)
      (pss_cons (ps_for PassesOwn.never rfl (pi_listK K rfl (pe_call G_l_all_figured (hr.mono (by decide)) (by rfl) T.g_l_all_figured T.F_l_all_figured.kp T.b_l_all_figured .nil pass0 (pa_cons (pv 2) (pa_cons (pv 4) (pa_cons (pv 6) pa_nil))))) (pg_name (i := 8) sc_law.nd rfl (Or.inl rfl)) (pss_one (ps_for PassesOwn.never rfl (pi_range1 rfl T.z_range (pa_cons pe_int pa_nil)) (pg_name (i := 9) sc_law.nd rfl (Or.inl rfl)) (pss_cons (ps_set (i := 10) sc_law.nd rfl (Or.inl rfl) (pe_call G_played (hr.mono (by decide)) (by rfl) T.g_played T.F_played.kp T.b_played .nil passL (pa_cons (pv 5) (pa_cons (pv 8) pa_nil))))
      (pss_cons (ps_if (PW.pt (pw_or (pt_cmpR (op_neDK K rfl hr.units) (pv 5) (pv 4) (nomark _)) (pw_or1 (pt_cmpR (op_neDK K rfl hr.units) (pe_call G_played (hr.mono (by decide)) (by rfl) T.g_played T.F_played.kp T.b_played .nil passL (pa_cons (pe_lst (pa_cons (pe_tup (pa_cons (pe_lst (pa_cons pe_int (pa_cons pe_int pa_nil))) (pa_cons pe_int pa_nil))) (pa_cons (pe_tup (pa_cons (pe_lst (pa_cons pe_int (pa_cons pe_int pa_nil))) (pa_cons pe_int pa_nil))) pa_nil))) (pa_cons pe_int pa_nil))) (pe_lst (pa_cons pe_int (pa_cons pe_int pa_nil))) (nomark _))))) (pss_one (ps_ret pe_bl)) pss_nil)
      (pss_cons (ps_if (PW.pt (pw_or (pt_cmpR (op_neDK K rfl hr.units) (pv 10) (pe_call G_l_due_of (hr.mono (by decide)) (by rfl) T.g_l_due_of T.F_l_due_of.kp T.b_l_due_of .nil pass0 (pa_cons (pv 4) (pa_cons (pv 8) pa_nil))) (nomark _)) (pw_or1 (pt_not (pt_val (pe_callB (call_isXK K rfl) (by rfl) T.z_isinstance (by decide +kernel) (pa_cons (pv 10) (pa_cons (pe_bltn (v := .ty "list") rfl T.z_list (by decide +kernel) rfl) pa_nil)))))))) (pss_one (ps_ret pe_bl)) pss_nil)
      (pss_one (ps_expr (pe_bm PySem.F.plainAttrs_list PySem.F.slot_list_append PySem.F.type_list_append mt_append (pv 10) (pa_cons pe_int pa_nil))))))))))
      (pss_cons (ps_set (i := 11) sc_law.nd rfl (Or.inl rfl) (pe_call G_l_draw (hr.mono (by decide)) (by rfl) T.g_l_draw T.F_l_draw.kp T.b_l_draw .nil pass0 (pa_cons (pv 2) (pa_cons (pe_op op_pow pe_int pe_int) pa_nil))))
      (pss_cons (ps_for PassesOwn.never rfl (pi_listK K rfl (pe_lst (pa_cons (pe_un un_neg pe_int) (pa_cons (pv 6) (pa_cons (pe_op op_sub (pe_un un_neg pe_int) (pv 11)) (pa_cons (pe_op op_add (pv 6) (pv 11)) pa_nil)))))) (pg_name (i := 8) sc_law.nd rfl (Or.inl rfl)) (pss_one (ps_if (pt_cmpR op_ne (pe_call G_l_caught_by (hr.mono (by decide)) (by rfl) T.g_l_caught_by T.F_l_caught_by.kp T.b_l_caught_by .nil pass0 (pa_cons (pv 5) (pa_cons (pv 8) pa_nil))) pe_str (nomark _)) (pss_one (ps_ret pe_bl)) pss_nil)))
      (pss_cons (ps_if (pt_cmpR (op_neDK K rfl hr.units) (pv 5) (pv 4) (nomark _)) (pss_one (ps_ret pe_bl)) pss_nil)
      (pss_cons (ps_expr (pe_bm0 PySem.F.plainAttrs_list PySem.F.slot_list_reverse PySem.F.type_list_reverse mt_reverse (pv 5)))
      (pss_cons (ps_for PassesOwn.never rfl (pi_listK K rfl (pe_lst (pa_cons pe_int (pa_cons (pe_op op_sub (pv 6) pe_int) pa_nil)))) (pg_name (i := 8) sc_law.nd rfl (Or.inl rfl)) (pss_one (ps_if (pt_cmpR (op_neDK K rfl hr.units) (pe_call G_played (hr.mono (by decide)) (by rfl) T.g_played T.F_played.kp T.b_played .nil passL (pa_cons (pv 5) (pa_cons (pv 8) pa_nil))) (pe_call G_l_due_of (hr.mono (by decide)) (by rfl) T.g_l_due_of T.F_l_due_of.kp T.b_l_due_of .nil pass0 (pa_cons (pe_revLK K rfl (pv 4)) (pa_cons (pv 8) pa_nil))) (nomark _)) (pss_one (ps_ret pe_bl)) pss_nil)))
      (pss_cons (ps_expr (pe_bm PySem.F.plainAttrs_list PySem.F.slot_list_append PySem.F.type_list_append mt_append (pv 5) (pa_cons (pe_tup (pa_cons (pe_callTy (call_listK K rfl) (by rfl) T.z_list (by decide +kernel) (pa_cons (pe_ix (ix_tupK K rfl) (pe_ix (ix_listK K rfl) (pv 4) pe_int (fun _ _ => rfl)) pe_int (fun _ _ => rfl)) pa_nil)) (pa_cons pe_int pa_nil))) pa_nil)))
      (pss_one (ps_if (PW.pt (pw_or (pt_cmpR op_ne (pe_call G_whole_of (hr.mono (by decide)) (by rfl) T.g_whole_of T.F_whole_of.kp T.b_whole_of .nil pass0 (pa_cons (pv 5) pa_nil)) (pe_op op_add (pv 6) pe_int) (nomark _)) (pw_or1 (pt_cmpR (op_neDK K rfl hr.units) (pe_call G_played (hr.mono (by decide)) (by rfl) T.g_played T.F_played.kp T.b_played .nil passL (pa_cons (pv 5) (pa_cons (pe_op op_add (pv 6) pe_int) pa_nil))) (pe_ix (ix_tupK K rfl) (pe_ix (ix_listK K rfl) (pv 4) pe_int (fun _ _ => rfl)) pe_int (fun _ _ => rfl)) (nomark _))))) (pss_one (ps_ret pe_bl)) pss_nil)))))))))))))))))
      (pss_one (ps_ret pe_bl))), ?_⟩
  try dsimp only [L2.cxOf, L2.Cx.nox, L2.Cx.wish, List.map_cons, List.map_nil]
  obtain ⟨a, ns, rfl, p0, p1, k⟩ := h
  refine start_to (σ := [some _, none, none, none, none, none, none, none, none, none, none, none, none, none]) rfl ?_
  walk_at "go"
  rename_i p1 hp1 p2 hp2 p3 hp3
  obtain ⟨ms, hms⟩ : ∃ ms : List Int, [V.int 3] ++ List.map V.int (List.take (Int.toNat 20) ns) = ms.map V.int := ⟨3 :: ns.take 20, rfl⟩
  rw [hms]
  refine forL (xs := ms.map V.int) (fun i σ H1 => ∃ y1 y2 y3 y4 y5 y6 y7 y8 y9 y10 y11 : Option V, σ = [some (.ref a), y1, y2, y3, y4, y5, y6, y7, y8, y9, y10, y11, none, none] ∧ H1 p3 = some (.lst (ms.map V.int))) ⟨_, _, _, _, _, _, _, _, _, _, _, rfl, upd_same⟩ ?_ ?_ ?_
  · rintro i σ H1 _ ⟨y1, y2, y3, y4, y5, y6, y7, y8, y9, y10, y11, rfl, h⟩
    exact SqL.of h
  · rintro σ H1 ⟨y1, y2, y3, y4, y5, y6, y7, y8, y9, y10, y11, rfl, h⟩
    walk_at "go"
    exact k _
  · rintro i x σ H1 hx ⟨y1, y2, y3, y4, y5, y6, y7, y8, y9, y10, y11, rfl, h⟩
    obtain ⟨z, rfl, _⟩ := ints_at hx
    clear hp1 hp2 hp3 p0 p1 hms hx
    walk_at "go"
    rename_i n m pL a1 a2 d1 n1 c1 H2 a3 a4 a5 a6 a7 d2 n2 c2 H3 a8 a9 a10 a11 a12 pp a13 d3 n3 c3 H4 a14 a15 a16 a17 a18 v av d4 n5 c5 H5 a19 a20 a21 a22 a23 mx G L xs n6 c6 H6 g1 g2 g3 g4 g5 g6 g7 g8 g9 g10 g11 g12
    have hp3 : p3 ≠ pL := ne_of_none h a2
    have j3 : H6 p3 = some (.lst (ms.map V.int)) := by walk_at "g_lk"
    have hL : L ≠ pL := ne_new' g11 a23
    clear a1 a2 a3 a4 a5 a6 a7 a8 a9 a10 a11 a12 a13 a14 a15 a16 a17 a18 av a19 a20 a21 a22 a23 g11 g12 h
    have hw := g9.whole_pos
    have hw2 := g10.le
    have hlen := g10.1
    have hlen1 := g9.ne
    have hxl : xs.length = mx.length := by rw [g3.len, List.length_map]
    intro D nD
    have hDp : D ≠ pL := ne_new' nD g1
    have hDL : D ≠ L := ne_new' nD g2
    have hpD : p3 ≠ D := ne_of_none j3 nD
    have nG : G D = none := g6.free nD
    refine lcL (xs := xs) (fun i acc H7 => DqAll (hid [D, pL] H7) acc ((mx.take i).map partD) ∧ Same H6 H7) nD ⟨.nil, Same.new nD⟩ (fun i acc H7 _ q _ => SqL.of (q.2 _ _ g2)) ?_ ?_
    · rintro i x acc H7 Z Y hx ⟨r1, r2⟩ hD hz _
      obtain ⟨pw, t, p, e1, rfl, e2, e3⟩ := part_at g3 hx
      have e2' := r2 _ _ (g6 _ _ e2)
      have e3' := r2 _ _ (g6 _ _ e3)
      have r3 := r2 _ _ g1
      have hi := (List.getElem?_eq_some_iff.mp e1).1
      have hac : acc.length = i := by rw [r1.len, List.length_map, List.length_take]; omega
      clear e2 e3
      walk_at "go"
      rename_i l nl T nT
      have b1 : T ≠ D := by walk_at "g_ne"
      have b2 : T ≠ pL := by walk_at "g_ne"
      have b3 : l ≠ D := by walk_at "g_ne"
      have b4 : l ≠ pL := by walk_at "g_ne"
      refine hz _ _ (by walk_at "g_lk") (sz4' (by omega)) ⟨?_, by walk_at "g_same"⟩
      rw [take_snoc e1, List.map_append]
      have s1 : Same (hid [D, pL] H7) (hid [D, pL] (upd (upd H7 l (.lst (pw.1.map V.int))) T (.tup [.ref l, .int pw.2]))) := hid_mono (by walk_at "g_same")
      have s2 := s1.trans (hid_upd (a := D) (o := .lst (acc ++ [.ref T])) (by simp))
      refine DqAll.snoc (r1.same s2) (part_mk (hid_lk (not_in2 b1 b2) (by walk_at "g_lk")) (hid_lk (not_in2 b3 b4) (by walk_at "g_lk")))
    rintro hs H7 ⟨r1, r2⟩ hD
    rw [hxl, List.take_length] at r1
    obtain ⟨Gd, hGd⟩ : ∃ Gd, Gd = hid [D, pL] H7 := ⟨_, rfl⟩
    rw [← hGd] at r1
    have u1 : Gd D = none := by rw [hGd]; exact hid_in (by simp)
    have u2 : Gd pL = none := by rw [hGd]; exact hid_in (by simp)
    have u3 : Same Gd H7 := by rw [hGd]; exact hid_same
    have j3' := r2 _ _ j3
    have g1' := r2 _ _ g1
    have g2' := r2 _ _ g2
    have g6' := g6.trans r2
    clear hGd r2 j3 g1 g2 g6 nD
    have hDl : hs.length = mx.length := by rw [r1.len, List.length_map]
    walk_at "go"
    intro D2 nD2
    refine lcL_int (xs := xs) (fun i => ((mx[i]?).getD ([], 0)).2) nD2 (by omega) (SqL.of g2') ?_ ?_
    · intro i x H8 Z Y hx hs2 hz
      obtain ⟨pw, t, p, e1, rfl, e2, e3⟩ := part_at g3 hx
      have e2' := hs2 _ _ (g6' _ _ e2)
      clear e2 e3
      walk_at "go"
      have := hz _ (Same.refl _)
      rw [e1] at this
      exact this
    intro H8 hs2 hD2
    rw [hxl, rng_map _ Prod.snd mx (fun i x e => by rw [e]; rfl)] at hD2
    have i1 := hs2 _ _ g1'
    have i2 := hs2 _ _ g2'
    have i3 := hs2 _ _ j3'
    have i4 := hs2 _ _ hD
    have i5 := g6'.trans hs2
    have i6 := u3.trans hs2
    clear hs2 nD2 g1' g2' j3' hD g6' u3
    walk_at "goF"
    rw [show (List.map Prod.snd mx).sum = whole mx from rfl]
    refine ite_n (by simp) ?_
    have i7 : Dq (hid [pL] H8) (.ref L) (mixD mx) := dq_mix g3 (hid_lk (not_in1 hL) i2) (same_hid1 i5 g5)
    have i8 : Dq H8 (.ref L) (mixD mx) := dq_mix g3 i2 i5
    have i9 : Dq H8 (.ref D) (mixD mx) := dq_mix r1 i4 i6
    clear hD2
    walk_at "go"
    rename_i H9 hs9 F fs n7 c7 H10 f1 f2 f3 f4 f5 f6 f7
    have k3 : H10 p3 = some (.lst (ms.map V.int)) := by walk_at "g_lk"
    have kL : H10 L = some (.lst xs) := by walk_at "g_lk"
    have kD : H10 D = some (.lst hs) := by walk_at "g_lk"
    have kG : Same G H10 := by walk_at "g_same"
    have kd' : Same Gd H10 := by walk_at "g_same"
    have kl : Dq H10 (.ref L) (mixD mx) := dq_mix g3 kL kG
    have kd : Dq H10 (.ref D) (mixD mx) := dq_mix r1 kD kd'
    clear i1 i2 i3 i4 i5 i6 i7 i8 i9 hs9 f6 f7
    have l1 : MixOk 15 2 [([7, 8], 2), ([8, 7], 1)] := ⟨by simp, by simp, by simp, by simp [PlanC]⟩
    have l2 : 0 ≤ (2 : Int) ∧ 2 < whole [([7, 8], 2), ([8, 7], 1)] := by simp [whole]
    refine forL (xs := fs.map V.int) (fun i σ H1 => ∃ y8 y9 y10 : Option V, σ = [some (.ref a), some (.int z), some (.ref pL), some (.int v), some (.ref L), some (.ref D), some (.int (whole mx)), some (.int (whole mx)), y8, y9, y10, y11, none, none] ∧ Same H10 H1) ⟨_, _, _, rfl, by walk_at "g_same"⟩ ?_ ?_ ?_
    · rintro i σ H1 _ ⟨y8, y9, y10, rfl, h1⟩
      exact SqL.of (h1 _ _ f2)
    rotate_left
    · rintro i x σ H1 hx ⟨y8, y9, y10, rfl, h1⟩
      obtain ⟨u, rfl, hu⟩ := ints_at hx
      have gu := f3.2 u (List.mem_of_getElem? hu)
      have gl := g9.due_len u
      clear f1 f2 k3 kL kD kG kd' r1 g3 u1 u2 nG
      walk_at "go"
      refine forR (fun i σ H1 => ∃ y9 y10 : Option V, σ = [some (.ref a), some (.int z), some (.ref pL), some (.int v), some (.ref L), some (.ref D), some (.int (whole mx)), some (.int (whole mx)), some (.int u), y9, y10, y11, none, none] ∧ Same H10 H1) ⟨_, _, rfl, by walk_at "g_same"⟩ ?_ ?_
      · rintro σ H2 ⟨y9, y10, rfl, h2⟩
        walk_at "go"
        exact ⟨_, _, _, rfl, h2⟩
      · rintro i σ H2 hi ⟨y9, y10, rfl, h2⟩
        clear h1
        walk_at "go"
        (try refine ite_n (by simp [due]) ?_)
        walk_at "go"
        (try refine ite_n (by simp [due]) ?_)
        walk_at "go"
        exact ⟨_, _, rfl, by walk_at "g_same"⟩
    rintro σ H11 ⟨y8, y9, y10, rfl, h1⟩
    have k3' := h1 _ _ k3
    have kL' := h1 _ _ kL
    have kD' := h1 _ _ kD
    have f1' := h1 _ _ f1
    have kG' := kG.trans h1
    have kd2 := kd'.trans h1
    clear k3 kL kD kG kd' kl kd f1 f2 h1 l1 l2
    walk_at "go"
    rename_i d5 n8 c8 H12 b1 b2 b3 b4 b5 q nq
    generalize hH : upd H12 q _ = H13
    have e1 : H13 q = some (.lst ([-1, whole mx, -1 - d5, whole mx + d5].map V.int)) := by rw [← hH]; exact upd_same
    have e2 : H13 p3 = some (.lst (ms.map V.int)) := by rw [← hH]; walk_at "g_lk"
    have e3 : H13 L = some (.lst xs) := by rw [← hH]; walk_at "g_lk"
    have e4 : H13 D = some (.lst hs) := by rw [← hH]; walk_at "g_lk"
    have e5 : Same G H13 := by rw [← hH]; walk_at "g_same"
    have e6 : Same Gd H13 := by rw [← hH]; walk_at "g_same"
    clear hH k3' kL' kD' kG' kd2 b2 b3 b4 b5 nq f1'
    have kl : Dq H13 (.ref L) (mixD mx) := dq_mix g3 e3 e5
    have kd : Dq H13 (.ref D) (mixD mx) := dq_mix r1 e4 e6
    refine forL (xs := [-1, whole mx, -1 - d5, whole mx + d5].map V.int) (fun i σ H1 => ∃ y8 y9 y10 : Option V, σ = [some (.ref a), some (.int z), some (.ref pL), some (.int v), some (.ref L), some (.ref D), some (.int (whole mx)), some (.int (whole mx)), y8, y9, y10, some (.int d5), none, none] ∧ Same H13 H1) ⟨_, _, _, rfl, by walk_at "g_same"⟩ ?_ ?_ ?_
    · rintro i σ H1 _ ⟨y8, y9, y10, rfl, h1⟩
      exact SqL.of (h1 _ _ e1)
    rotate_left
    · rintro i x σ H1 hx ⟨y8, y9, y10, rfl, h1⟩
      obtain ⟨u, rfl, hu⟩ := ints_at hx
      have gu : ¬ (0 ≤ u ∧ u < whole mx) := by
        have := List.mem_of_getElem? hu
        simp only [List.mem_cons, List.not_mem_nil, or_false] at this
        rcases this with e | e | e | e <;> omega
      clear e1 e2 e3 e4 e5 e6 r1 g3 u1 u2 nG
      walk_at "go"
      exact ⟨_, _, _, rfl, by walk_at "g_same"⟩
    rintro σ H14 ⟨y8, y9, y10, rfl, h1⟩
    have k3' := h1 _ _ e2
    have kL' := h1 _ _ e3
    have kD' := h1 _ _ e4
    have kG' := e5.trans h1
    have kd2 := e6.trans h1
    clear e1 e2 e3 e4 e5 e6
    obtain ⟨x0, hx0⟩ : ∃ x, xs[0]? = some x := ⟨xs[0]'(by omega), List.getElem?_eq_getElem _⟩
    obtain ⟨pw, t, p, m1, rfl, m2, m3⟩ := part_at g3 hx0
    have hat : atI xs 0 = some (.ref t) := atI_nat hx0
    have htD : t ≠ D := ne_of_none m2 nG
    have hpD2 : p ≠ D := ne_of_none m3 nG
    walk_at "go"
    rename_i q2 nq2
    generalize hH : upd _ q2 _ = H15
    have e1 : H15 q2 = some (.lst ([0, whole mx - 1].map V.int)) := by rw [← hH]; exact upd_same
    have e2 : H15 p3 = some (.lst (ms.map V.int)) := by rw [← hH]; walk_at "g_lk"
    have e3 : H15 L = some (.lst xs) := by rw [← hH]; walk_at "g_lk"
    have e4 : H15 D = some (.lst hs.reverse) := by rw [← hH]; walk_at "g_lk"
    have e5 : Same G H15 := by rw [← hH]; walk_at "g_same"
    have e6 : Same Gd H15 := by rw [← hH]; walk_at "g_same"
    have e7 := e5 _ _ m2
    have e8 := e5 _ _ m3
    have o1 := g9.reverse
    have o2 := whole_reverse mx
    have r1r := r1.revm
    have g3r := g3.revm
    clear hH k3' kL' kD' kG' kd2 nq2 kl kd b1 m2 m3 hx0 h1
    have kl : Dq H15 (.ref L) (mixD mx) := dq_mix g3 e3 e5
    have kd : Dq H15 (.ref D) (mixD mx.reverse) := dq_mix r1r e4 e6
    refine forL (xs := [0, whole mx - 1].map V.int) (fun i σ H1 => ∃ y8 y9 y10 : Option V, σ = [some (.ref a), some (.int z), some (.ref pL), some (.int v), some (.ref L), some (.ref D), some (.int (whole mx)), some (.int (whole mx)), y8, y9, y10, some (.int d5), none, none] ∧ Same H15 H1) ⟨_, _, _, rfl, by walk_at "g_same"⟩ ?_ ?_ ?_
    · rintro i σ H1 _ ⟨y8, y9, y10, rfl, h1⟩
      exact SqL.of (h1 _ _ e1)
    rotate_left
    · rintro i x σ H1 hx ⟨y8, y9, y10, rfl, h1⟩
      obtain ⟨u, rfl, hu⟩ := ints_at hx
      have gu : 0 ≤ u ∧ u < whole mx.reverse := by
        have := List.mem_of_getElem? hu
        simp only [List.mem_cons, List.not_mem_nil, or_false] at this
        rcases this with e | e <;> omega
      have e3' := h1 _ _ e3
      have e5' := e5.trans h1
      clear e1 e2 e3 e4 e6 e5 e7 e8 r1 r1r u1 u2 nG g3
      walk_at "go"
      (try refine ite_n (by simp) ?_)
      walk_at "go"
      exact ⟨_, _, _, rfl, by walk_at "g_same"⟩
    rintro σ H16 ⟨y8, y9, y10, rfl, h1⟩
    have k3' := h1 _ _ e2
    have kL' := h1 _ _ e3
    have kD' := h1 _ _ e4
    have kt' := h1 _ _ e7
    have kp' := h1 _ _ e8
    have kG' := e5.trans h1
    have kd2 := e6.trans h1
    have hpl := (g9.pl pw (List.mem_of_getElem? m1)).1
    have hpl8 : pw.1.length ≤ 8 := by
      have := hpl.1
      have := g9.fl.2
      omega
    have hrl : hs.reverse.length ≤ 1000 := by rw [List.length_reverse]; omega
    obtain ⟨M2, hM2⟩ : ∃ M2, M2 = mx.reverse ++ [(pw.1, 2)] := ⟨_, rfl⟩
    have w2 : whole M2 = whole mx + 2 := by
      rw [hM2, whole_app, o2]
      simp [whole]
    have ok2 : MixOk v (1 + d4).toNat M2 := by
      rw [hM2]
      exact o1.snoc hpl (by omega) (by rw [List.length_reverse]; omega)
    have due2 : due M2 (whole mx + 1) = pw.1 := by
      rw [hM2]
      exact due_last _ (fun x hx => (o1.pl x hx).2) (by omega) (by omega)
    have gw : 0 ≤ whole mx + 1 ∧ whole mx + 1 < whole M2 := by omega
    clear e1 e2 e3 e4 e5 e6 e7 e8 h1 kl kd
    walk_at "goI"
    rename_i l nl T nT
    generalize hH : upd _ D _ = H17
    have e1 : H17 p3 = some (.lst (ms.map V.int)) := by rw [← hH]; walk_at "g_lk"
    have e3 : H17 L = some (.lst xs) := by rw [← hH]; walk_at "g_lk"
    have e4 : H17 D = some (.lst (hs.reverse ++ [.ref T])) := by rw [← hH]; exact upd_same
    have e5 : H17 T = some (.tup [.ref l, .int 2]) := by rw [← hH]; walk_at "g_lk"
    have e6 : H17 l = some (.lst (pw.1.map V.int)) := by rw [← hH]; walk_at "g_lk"
    have e7 : H17 t = some (.tup [.ref p, .int pw.2]) := by rw [← hH]; walk_at "g_lk"
    have e8 : H17 p = some (.lst (pw.1.map V.int)) := by rw [← hH]; walk_at "g_lk"
    have e9 : Same Gd H17 := by rw [← hH]; walk_at "g_same"
    have kd : Dq H17 (.ref D) (mixD M2) := by
      rw [hM2]
      refine dq_mix (G := hid [D] H17) ?_ e4 hid_same
      rw [List.map_append]
      exact DqAll.snoc (r1r.same (same_hid1 e9 u1)) (part_mk (hid_lk (not_in1 (by walk_at "g_ne")) e5) (hid_lk (not_in1 (by walk_at "g_ne")) e6))
    clear hH k3' kL' kD' kG' kd2 kt' kp' hM2 o1 o2 r1 g3 r1r g3r
    walk_at "go"
    (try refine ite_n (by simp [w2]) ?_)
    walk_at "go"
    (try refine ite_n (by simp [due2]) ?_)
    walk_at "go"
    exact ⟨_, _, _, _, _, _, _, _, _, _, _, rfl, by walk_at "g_lk"⟩

end
theorem mk_txt {K : PySem.W.Frag} {h : Heap} {mg : Str → Option Value} {f_is_number : Addr} {o_is_number n_is_number : Option Addr} {w_is_number : Array (Option Value)} {q1_is_number q2_is_number q3_is_number q4_is_number q5_is_number q6_is_number : Value} {f_are_numbers : Addr} {o_are_numbers n_are_numbers : Option Addr} {w_are_numbers : Array (Option Value)} {q1_are_numbers q2_are_numbers q3_are_numbers q4_are_numbers q5_are_numbers q6_are_numbers : Value} {f_is_plan : Addr} {o_is_plan n_is_plan : Option Addr} {w_is_plan : Array (Option Value)} {q1_is_plan q2_is_plan q3_is_plan q4_is_plan q5_is_plan q6_is_plan : Value} {f_is_mix : Addr} {o_is_mix n_is_mix : Option Addr} {w_is_mix : Array (Option Value)} {q1_is_mix q2_is_mix q3_is_mix q4_is_mix q5_is_mix q6_is_mix : Value} {f_must_be_mix : Addr} {o_must_be_mix n_must_be_mix : Option Addr} {w_must_be_mix : Array (Option Value)} {q1_must_be_mix q2_must_be_mix q3_must_be_mix q4_must_be_mix q5_must_be_mix q6_must_be_mix : Value} {f_whole_of : Addr} {o_whole_of n_whole_of : Option Addr} {w_whole_of : Array (Option Value)} {q1_whole_of q2_whole_of q3_whole_of q4_whole_of q5_whole_of q6_whole_of : Value} {f_played : Addr} {o_played n_played : Option Addr} {w_played : Array (Option Value)} {q1_played q2_played q3_played q4_played q5_played q6_played : Value} {f_l_stirred : Addr} {o_l_stirred n_l_stirred : Option Addr} {w_l_stirred : Array (Option Value)} {q1_l_stirred q2_l_stirred q3_l_stirred q4_l_stirred q5_l_stirred q6_l_stirred : Value} {f_l_opened : Addr} {o_l_opened n_l_opened : Option Addr} {w_l_opened : Array (Option Value)} {q1_l_opened q2_l_opened q3_l_opened q4_l_opened q5_l_opened q6_l_opened : Value} {f_l_draw : Addr} {o_l_draw n_l_draw : Option Addr} {w_l_draw : Array (Option Value)} {q1_l_draw q2_l_draw q3_l_draw q4_l_draw q5_l_draw q6_l_draw : Value} {f_l_drawn_plan : Addr} {o_l_drawn_plan n_l_drawn_plan : Option Addr} {w_l_drawn_plan : Array (Option Value)} {q1_l_drawn_plan q2_l_drawn_plan q3_l_drawn_plan q4_l_drawn_plan q5_l_drawn_plan q6_l_drawn_plan : Value} {f_l_drawn_mix : Addr} {o_l_drawn_mix n_l_drawn_mix : Option Addr} {w_l_drawn_mix : Array (Option Value)} {q1_l_drawn_mix q2_l_drawn_mix q3_l_drawn_mix q4_l_drawn_mix q5_l_drawn_mix q6_l_drawn_mix : Value} {f_l_is_whole : Addr} {o_l_is_whole n_l_is_whole : Option Addr} {w_l_is_whole : Array (Option Value)} {q1_l_is_whole q2_l_is_whole q3_l_is_whole q4_l_is_whole q5_l_is_whole q6_l_is_whole : Value} {f_l_kind_of : Addr} {o_l_kind_of n_l_kind_of : Option Addr} {w_l_kind_of : Array (Option Value)} {q1_l_kind_of q2_l_kind_of q3_l_kind_of q4_l_kind_of q5_l_kind_of q6_l_kind_of : Value} {f_l_due_of : Addr} {o_l_due_of n_l_due_of : Option Addr} {w_l_due_of : Array (Option Value)} {q1_l_due_of q2_l_due_of q3_l_due_of q4_l_due_of q5_l_due_of q6_l_due_of : Value} {f_l_all_figured : Addr} {o_l_all_figured n_l_all_figured : Option Addr} {w_l_all_figured : Array (Option Value)} {q1_l_all_figured q2_l_all_figured q3_l_all_figured q4_l_all_figured q5_l_all_figured q6_l_all_figured : Value} {f_l_caught_by : Addr} {o_l_caught_by n_l_caught_by : Option Addr} {w_l_caught_by : Array (Option Value)} {q1_l_caught_by q2_l_caught_by q3_l_caught_by q4_l_caught_by q5_l_caught_by q6_l_caught_by : Value} {f_law : Addr} {o_law n_law : Option Addr} {w_law : Array (Option Value)} {q1_law q2_law q3_law q4_law q5_law q6_law : Value} {t_MOST_HOSTS : Tok} {t_MOST_FIELDS : Tok} {e_HostError : Addr} {e_NoBattle : Addr} {e_NoPlan : Addr} {e_NoMix : Addr} {e_NoStream : Addr} {e_NoSide : Addr} {e_NoAlike : Addr} {e_NoNumber : Addr} {e_TooGreat : Addr} {e_NoEven : Addr} {e_NoText : Addr} {e_NoRow : Addr} {e_NoName : Addr} {e_NoPlace : Addr} (X : K.In h) (G : h.Ns mainGlobals mg)
    (a_is_number : PySem.W.nsIn K mainGlobals "is_number" = some (some (.ref f_is_number)))
    (l_is_number : K.lookup f_is_number = some ⟨q1_is_number, o_is_number, .func (PySem.W.fnOf "is_number" "is_number" (defArgs s_is_number) (defBody s_is_number) (defScope s_is_number) .none q2_is_number q3_is_number q4_is_number n_is_number q5_is_number q6_is_number), w_is_number⟩)
    (c_is_number : PySem.W.codeIn K q5_is_number "is_number" = true)
    (k_is_number : PySem.W.keepIn K (.ref f_is_number) = true)
    (a_are_numbers : PySem.W.nsIn K mainGlobals "are_numbers" = some (some (.ref f_are_numbers)))
    (l_are_numbers : K.lookup f_are_numbers = some ⟨q1_are_numbers, o_are_numbers, .func (PySem.W.fnOf "are_numbers" "are_numbers" (defArgs s_are_numbers) (defBody s_are_numbers) (defScope s_are_numbers) .none q2_are_numbers q3_are_numbers q4_are_numbers n_are_numbers q5_are_numbers q6_are_numbers), w_are_numbers⟩)
    (c_are_numbers : PySem.W.codeIn K q5_are_numbers "are_numbers" = true)
    (k_are_numbers : PySem.W.keepIn K (.ref f_are_numbers) = true)
    (a_is_plan : PySem.W.nsIn K mainGlobals "is_plan" = some (some (.ref f_is_plan)))
    (l_is_plan : K.lookup f_is_plan = some ⟨q1_is_plan, o_is_plan, .func (PySem.W.fnOf "is_plan" "is_plan" (defArgs s_is_plan) (defBody s_is_plan) (defScope s_is_plan) .none q2_is_plan q3_is_plan q4_is_plan n_is_plan q5_is_plan q6_is_plan), w_is_plan⟩)
    (c_is_plan : PySem.W.codeIn K q5_is_plan "is_plan" = true)
    (k_is_plan : PySem.W.keepIn K (.ref f_is_plan) = true)
    (a_is_mix : PySem.W.nsIn K mainGlobals "is_mix" = some (some (.ref f_is_mix)))
    (l_is_mix : K.lookup f_is_mix = some ⟨q1_is_mix, o_is_mix, .func (PySem.W.fnOf "is_mix" "is_mix" (defArgs s_is_mix) (defBody s_is_mix) (defScope s_is_mix) .none q2_is_mix q3_is_mix q4_is_mix n_is_mix q5_is_mix q6_is_mix), w_is_mix⟩)
    (c_is_mix : PySem.W.codeIn K q5_is_mix "is_mix" = true)
    (k_is_mix : PySem.W.keepIn K (.ref f_is_mix) = true)
    (a_must_be_mix : PySem.W.nsIn K mainGlobals "must_be_mix" = some (some (.ref f_must_be_mix)))
    (l_must_be_mix : K.lookup f_must_be_mix = some ⟨q1_must_be_mix, o_must_be_mix, .func (PySem.W.fnOf "must_be_mix" "must_be_mix" (defArgs s_must_be_mix) (defBody s_must_be_mix) (defScope s_must_be_mix) .none q2_must_be_mix q3_must_be_mix q4_must_be_mix n_must_be_mix q5_must_be_mix q6_must_be_mix), w_must_be_mix⟩)
    (c_must_be_mix : PySem.W.codeIn K q5_must_be_mix "must_be_mix" = true)
    (k_must_be_mix : PySem.W.keepIn K (.ref f_must_be_mix) = true)
    (a_whole_of : PySem.W.nsIn K mainGlobals "whole_of" = some (some (.ref f_whole_of)))
    (l_whole_of : K.lookup f_whole_of = some ⟨q1_whole_of, o_whole_of, .func (PySem.W.fnOf "whole_of" "whole_of" (defArgs s_whole_of) (defBody s_whole_of) (defScope s_whole_of) .none q2_whole_of q3_whole_of q4_whole_of n_whole_of q5_whole_of q6_whole_of), w_whole_of⟩)
    (c_whole_of : PySem.W.codeIn K q5_whole_of "whole_of" = true)
    (k_whole_of : PySem.W.keepIn K (.ref f_whole_of) = true)
    (a_played : PySem.W.nsIn K mainGlobals "played" = some (some (.ref f_played)))
    (l_played : K.lookup f_played = some ⟨q1_played, o_played, .func (PySem.W.fnOf "played" "played" (defArgs s_played) (defBody s_played) (defScope s_played) .none q2_played q3_played q4_played n_played q5_played q6_played), w_played⟩)
    (c_played : PySem.W.codeIn K q5_played "played" = true)
    (k_played : PySem.W.keepIn K (.ref f_played) = true)
    (a_l_stirred : PySem.W.nsIn K mainGlobals "_law_stirred" = some (some (.ref f_l_stirred)))
    (l_l_stirred : K.lookup f_l_stirred = some ⟨q1_l_stirred, o_l_stirred, .func (PySem.W.fnOf "_law_stirred" "_law_stirred" (defArgs s_l_stirred) (defBody s_l_stirred) (defScope s_l_stirred) .none q2_l_stirred q3_l_stirred q4_l_stirred n_l_stirred q5_l_stirred q6_l_stirred), w_l_stirred⟩)
    (c_l_stirred : PySem.W.codeIn K q5_l_stirred "_law_stirred" = true)
    (k_l_stirred : PySem.W.keepIn K (.ref f_l_stirred) = true)
    (a_l_opened : PySem.W.nsIn K mainGlobals "_law_opened" = some (some (.ref f_l_opened)))
    (l_l_opened : K.lookup f_l_opened = some ⟨q1_l_opened, o_l_opened, .func (PySem.W.fnOf "_law_opened" "_law_opened" (defArgs s_l_opened) (defBody s_l_opened) (defScope s_l_opened) .none q2_l_opened q3_l_opened q4_l_opened n_l_opened q5_l_opened q6_l_opened), w_l_opened⟩)
    (c_l_opened : PySem.W.codeIn K q5_l_opened "_law_opened" = true)
    (k_l_opened : PySem.W.keepIn K (.ref f_l_opened) = true)
    (a_l_draw : PySem.W.nsIn K mainGlobals "_law_draw" = some (some (.ref f_l_draw)))
    (l_l_draw : K.lookup f_l_draw = some ⟨q1_l_draw, o_l_draw, .func (PySem.W.fnOf "_law_draw" "_law_draw" (defArgs s_l_draw) (defBody s_l_draw) (defScope s_l_draw) .none q2_l_draw q3_l_draw q4_l_draw n_l_draw q5_l_draw q6_l_draw), w_l_draw⟩)
    (c_l_draw : PySem.W.codeIn K q5_l_draw "_law_draw" = true)
    (k_l_draw : PySem.W.keepIn K (.ref f_l_draw) = true)
    (a_l_drawn_plan : PySem.W.nsIn K mainGlobals "_law_drawn_plan" = some (some (.ref f_l_drawn_plan)))
    (l_l_drawn_plan : K.lookup f_l_drawn_plan = some ⟨q1_l_drawn_plan, o_l_drawn_plan, .func (PySem.W.fnOf "_law_drawn_plan" "_law_drawn_plan" (defArgs s_l_drawn_plan) (defBody s_l_drawn_plan) (defScope s_l_drawn_plan) .none q2_l_drawn_plan q3_l_drawn_plan q4_l_drawn_plan n_l_drawn_plan q5_l_drawn_plan q6_l_drawn_plan), w_l_drawn_plan⟩)
    (c_l_drawn_plan : PySem.W.codeIn K q5_l_drawn_plan "_law_drawn_plan" = true)
    (k_l_drawn_plan : PySem.W.keepIn K (.ref f_l_drawn_plan) = true)
    (a_l_drawn_mix : PySem.W.nsIn K mainGlobals "_law_drawn_mix" = some (some (.ref f_l_drawn_mix)))
    (l_l_drawn_mix : K.lookup f_l_drawn_mix = some ⟨q1_l_drawn_mix, o_l_drawn_mix, .func (PySem.W.fnOf "_law_drawn_mix" "_law_drawn_mix" (defArgs s_l_drawn_mix) (defBody s_l_drawn_mix) (defScope s_l_drawn_mix) .none q2_l_drawn_mix q3_l_drawn_mix q4_l_drawn_mix n_l_drawn_mix q5_l_drawn_mix q6_l_drawn_mix), w_l_drawn_mix⟩)
    (c_l_drawn_mix : PySem.W.codeIn K q5_l_drawn_mix "_law_drawn_mix" = true)
    (k_l_drawn_mix : PySem.W.keepIn K (.ref f_l_drawn_mix) = true)
    (a_l_is_whole : PySem.W.nsIn K mainGlobals "_law_is_whole" = some (some (.ref f_l_is_whole)))
    (l_l_is_whole : K.lookup f_l_is_whole = some ⟨q1_l_is_whole, o_l_is_whole, .func (PySem.W.fnOf "_law_is_whole" "_law_is_whole" (defArgs s_l_is_whole) (defBody s_l_is_whole) (defScope s_l_is_whole) .none q2_l_is_whole q3_l_is_whole q4_l_is_whole n_l_is_whole q5_l_is_whole q6_l_is_whole), w_l_is_whole⟩)
    (c_l_is_whole : PySem.W.codeIn K q5_l_is_whole "_law_is_whole" = true)
    (k_l_is_whole : PySem.W.keepIn K (.ref f_l_is_whole) = true)
    (a_l_kind_of : PySem.W.nsIn K mainGlobals "_law_kind_of" = some (some (.ref f_l_kind_of)))
    (l_l_kind_of : K.lookup f_l_kind_of = some ⟨q1_l_kind_of, o_l_kind_of, .func (PySem.W.fnOf "_law_kind_of" "_law_kind_of" (defArgs s_l_kind_of) (defBody s_l_kind_of) (defScope s_l_kind_of) .none q2_l_kind_of q3_l_kind_of q4_l_kind_of n_l_kind_of q5_l_kind_of q6_l_kind_of), w_l_kind_of⟩)
    (c_l_kind_of : PySem.W.codeIn K q5_l_kind_of "_law_kind_of" = true)
    (k_l_kind_of : PySem.W.keepIn K (.ref f_l_kind_of) = true)
    (a_l_due_of : PySem.W.nsIn K mainGlobals "_law_due_of" = some (some (.ref f_l_due_of)))
    (l_l_due_of : K.lookup f_l_due_of = some ⟨q1_l_due_of, o_l_due_of, .func (PySem.W.fnOf "_law_due_of" "_law_due_of" (defArgs s_l_due_of) (defBody s_l_due_of) (defScope s_l_due_of) .none q2_l_due_of q3_l_due_of q4_l_due_of n_l_due_of q5_l_due_of q6_l_due_of), w_l_due_of⟩)
    (c_l_due_of : PySem.W.codeIn K q5_l_due_of "_law_due_of" = true)
    (k_l_due_of : PySem.W.keepIn K (.ref f_l_due_of) = true)
    (a_l_all_figured : PySem.W.nsIn K mainGlobals "_law_all_figured" = some (some (.ref f_l_all_figured)))
    (l_l_all_figured : K.lookup f_l_all_figured = some ⟨q1_l_all_figured, o_l_all_figured, .func (PySem.W.fnOf "_law_all_figured" "_law_all_figured" (defArgs s_l_all_figured) (defBody s_l_all_figured) (defScope s_l_all_figured) .none q2_l_all_figured q3_l_all_figured q4_l_all_figured n_l_all_figured q5_l_all_figured q6_l_all_figured), w_l_all_figured⟩)
    (c_l_all_figured : PySem.W.codeIn K q5_l_all_figured "_law_all_figured" = true)
    (k_l_all_figured : PySem.W.keepIn K (.ref f_l_all_figured) = true)
    (a_l_caught_by : PySem.W.nsIn K mainGlobals "_law_caught_by" = some (some (.ref f_l_caught_by)))
    (l_l_caught_by : K.lookup f_l_caught_by = some ⟨q1_l_caught_by, o_l_caught_by, .func (PySem.W.fnOf "_law_caught_by" "_law_caught_by" (defArgs s_l_caught_by) (defBody s_l_caught_by) (defScope s_l_caught_by) .none q2_l_caught_by q3_l_caught_by q4_l_caught_by n_l_caught_by q5_l_caught_by q6_l_caught_by), w_l_caught_by⟩)
    (c_l_caught_by : PySem.W.codeIn K q5_l_caught_by "_law_caught_by" = true)
    (k_l_caught_by : PySem.W.keepIn K (.ref f_l_caught_by) = true)
    (a_law : PySem.W.nsIn K mainGlobals "law" = some (some (.ref f_law)))
    (l_law : K.lookup f_law = some ⟨q1_law, o_law, .func (PySem.W.fnOf "law" "law" (defArgs s_law) (defBody s_law) (defScope s_law) .none q2_law q3_law q4_law n_law q5_law q6_law), w_law⟩)
    (c_law : PySem.W.codeIn K q5_law "law" = true)
    (k_law : PySem.W.keepIn K (.ref f_law) = true)
    (z_ValueError : PySem.W.nsIn K mainGlobals "ValueError" = some none)
    (z_bool : PySem.W.nsIn K mainGlobals "bool" = some none)
    (z_int : PySem.W.nsIn K mainGlobals "int" = some none)
    (z_isinstance : PySem.W.nsIn K mainGlobals "isinstance" = some none)
    (z_len : PySem.W.nsIn K mainGlobals "len" = some none)
    (z_list : PySem.W.nsIn K mainGlobals "list" = some none)
    (z_min : PySem.W.nsIn K mainGlobals "min" = some none)
    (z_range : PySem.W.nsIn K mainGlobals "range" = some none)
    (z_sum : PySem.W.nsIn K mainGlobals "sum" = some none)
    (z_tuple : PySem.W.nsIn K mainGlobals "tuple" = some none)
    (h_MOST_HOSTS : PySem.W.nsIn K mainGlobals "MOST_HOSTS" = some (some (.int 40 t_MOST_HOSTS)))
    (h_MOST_FIELDS : PySem.W.nsIn K mainGlobals "MOST_FIELDS" = some (some (.int 8 t_MOST_FIELDS)))
    (h_HostError : PySem.W.nsIn K mainGlobals "HostError" = some (some (.ref e_HostError)))
    (i_HostError : PySem.W.isClsIn K e_HostError = true)
    (t_HostError : PySem.W.typeIn K (.ref e_HostError) = some (.type "type"))
    (y_HostError : PySem.W.subIn K (.ref e_HostError) (.type "BaseException") = some true)
    (h_NoBattle : PySem.W.nsIn K mainGlobals "NoBattle" = some (some (.ref e_NoBattle)))
    (i_NoBattle : PySem.W.isClsIn K e_NoBattle = true)
    (t_NoBattle : PySem.W.typeIn K (.ref e_NoBattle) = some (.type "type"))
    (y_NoBattle : PySem.W.subIn K (.ref e_NoBattle) (.type "BaseException") = some true)
    (h_NoPlan : PySem.W.nsIn K mainGlobals "NoPlan" = some (some (.ref e_NoPlan)))
    (i_NoPlan : PySem.W.isClsIn K e_NoPlan = true)
    (t_NoPlan : PySem.W.typeIn K (.ref e_NoPlan) = some (.type "type"))
    (y_NoPlan : PySem.W.subIn K (.ref e_NoPlan) (.type "BaseException") = some true)
    (h_NoMix : PySem.W.nsIn K mainGlobals "NoMix" = some (some (.ref e_NoMix)))
    (i_NoMix : PySem.W.isClsIn K e_NoMix = true)
    (t_NoMix : PySem.W.typeIn K (.ref e_NoMix) = some (.type "type"))
    (y_NoMix : PySem.W.subIn K (.ref e_NoMix) (.type "BaseException") = some true)
    (h_NoStream : PySem.W.nsIn K mainGlobals "NoStream" = some (some (.ref e_NoStream)))
    (i_NoStream : PySem.W.isClsIn K e_NoStream = true)
    (t_NoStream : PySem.W.typeIn K (.ref e_NoStream) = some (.type "type"))
    (y_NoStream : PySem.W.subIn K (.ref e_NoStream) (.type "BaseException") = some true)
    (h_NoSide : PySem.W.nsIn K mainGlobals "NoSide" = some (some (.ref e_NoSide)))
    (i_NoSide : PySem.W.isClsIn K e_NoSide = true)
    (t_NoSide : PySem.W.typeIn K (.ref e_NoSide) = some (.type "type"))
    (y_NoSide : PySem.W.subIn K (.ref e_NoSide) (.type "BaseException") = some true)
    (h_NoAlike : PySem.W.nsIn K mainGlobals "NoAlike" = some (some (.ref e_NoAlike)))
    (i_NoAlike : PySem.W.isClsIn K e_NoAlike = true)
    (t_NoAlike : PySem.W.typeIn K (.ref e_NoAlike) = some (.type "type"))
    (y_NoAlike : PySem.W.subIn K (.ref e_NoAlike) (.type "BaseException") = some true)
    (h_NoNumber : PySem.W.nsIn K mainGlobals "NoNumber" = some (some (.ref e_NoNumber)))
    (i_NoNumber : PySem.W.isClsIn K e_NoNumber = true)
    (t_NoNumber : PySem.W.typeIn K (.ref e_NoNumber) = some (.type "type"))
    (y_NoNumber : PySem.W.subIn K (.ref e_NoNumber) (.type "BaseException") = some true)
    (h_TooGreat : PySem.W.nsIn K mainGlobals "TooGreat" = some (some (.ref e_TooGreat)))
    (i_TooGreat : PySem.W.isClsIn K e_TooGreat = true)
    (t_TooGreat : PySem.W.typeIn K (.ref e_TooGreat) = some (.type "type"))
    (y_TooGreat : PySem.W.subIn K (.ref e_TooGreat) (.type "BaseException") = some true)
    (h_NoEven : PySem.W.nsIn K mainGlobals "NoEven" = some (some (.ref e_NoEven)))
    (i_NoEven : PySem.W.isClsIn K e_NoEven = true)
    (t_NoEven : PySem.W.typeIn K (.ref e_NoEven) = some (.type "type"))
    (y_NoEven : PySem.W.subIn K (.ref e_NoEven) (.type "BaseException") = some true)
    (h_NoText : PySem.W.nsIn K mainGlobals "NoText" = some (some (.ref e_NoText)))
    (i_NoText : PySem.W.isClsIn K e_NoText = true)
    (t_NoText : PySem.W.typeIn K (.ref e_NoText) = some (.type "type"))
    (y_NoText : PySem.W.subIn K (.ref e_NoText) (.type "BaseException") = some true)
    (h_NoRow : PySem.W.nsIn K mainGlobals "NoRow" = some (some (.ref e_NoRow)))
    (i_NoRow : PySem.W.isClsIn K e_NoRow = true)
    (t_NoRow : PySem.W.typeIn K (.ref e_NoRow) = some (.type "type"))
    (y_NoRow : PySem.W.subIn K (.ref e_NoRow) (.type "BaseException") = some true)
    (h_NoName : PySem.W.nsIn K mainGlobals "NoName" = some (some (.ref e_NoName)))
    (i_NoName : PySem.W.isClsIn K e_NoName = true)
    (t_NoName : PySem.W.typeIn K (.ref e_NoName) = some (.type "type"))
    (y_NoName : PySem.W.subIn K (.ref e_NoName) (.type "BaseException") = some true)
    (h_NoPlace : PySem.W.nsIn K mainGlobals "NoPlace" = some (some (.ref e_NoPlace)))
    (i_NoPlace : PySem.W.isClsIn K e_NoPlace = true)
    (t_NoPlace : PySem.W.typeIn K (.ref e_NoPlace) = some (.type "type"))
    (y_NoPlace : PySem.W.subIn K (.ref e_NoPlace) (.type "BaseException") = some true)
    (x_NoNumber : PySem.W.excIn K e_NoNumber [.type "ValueError", .type "Exception", .type "BaseException", .type "object"] "ValueError.__new__" = true)
    (k_NoNumber : PySem.W.keepIn K (.ref e_NoNumber) = true)
    (hg_NoNumber : PySem.W.findIn K (.ref e_NoNumber) "__getattribute__" = some (some (.builtin "BaseException.__getattribute__")))
    (hk_NoNumber : PySem.W.findIn K (.ref e_NoNumber) "__getattr__" = some none)
    (hd_NoNumber : PySem.W.hasDictIn K e_NoNumber = true)
    (ha_NoNumber : PySem.W.findIn K (.ref e_NoNumber) "__class__" = some (some (.builtin "object.__class__")))
    (hm_NoNumber : PySem.W.mroIn K e_NoNumber (.type "object") = some true)
    (v_NoNumber : PySem.W.subIn K (.ref e_NoNumber) (.type "ValueError") = some true)
    (s_NoNumber_HostError : PySem.W.subIn K (.ref e_NoNumber) (.ref e_HostError) = some true)
    (s_NoNumber_NoBattle : PySem.W.subIn K (.ref e_NoNumber) (.ref e_NoBattle) = some false)
    (s_NoNumber_NoPlan : PySem.W.subIn K (.ref e_NoNumber) (.ref e_NoPlan) = some false)
    (s_NoNumber_NoMix : PySem.W.subIn K (.ref e_NoNumber) (.ref e_NoMix) = some false)
    (s_NoNumber_NoStream : PySem.W.subIn K (.ref e_NoNumber) (.ref e_NoStream) = some false)
    (s_NoNumber_NoSide : PySem.W.subIn K (.ref e_NoNumber) (.ref e_NoSide) = some false)
    (s_NoNumber_NoAlike : PySem.W.subIn K (.ref e_NoNumber) (.ref e_NoAlike) = some false)
    (s_NoNumber_NoNumber : PySem.W.subIn K (.ref e_NoNumber) (.ref e_NoNumber) = some true)
    (s_NoNumber_TooGreat : PySem.W.subIn K (.ref e_NoNumber) (.ref e_TooGreat) = some false)
    (s_NoNumber_NoEven : PySem.W.subIn K (.ref e_NoNumber) (.ref e_NoEven) = some false)
    (s_NoNumber_NoText : PySem.W.subIn K (.ref e_NoNumber) (.ref e_NoText) = some false)
    (s_NoNumber_NoRow : PySem.W.subIn K (.ref e_NoNumber) (.ref e_NoRow) = some false)
    (s_NoNumber_NoName : PySem.W.subIn K (.ref e_NoNumber) (.ref e_NoName) = some false)
    (s_NoNumber_NoPlace : PySem.W.subIn K (.ref e_NoNumber) (.ref e_NoPlace) = some false)
    (ho_n : PySem.W.specialIn K (.builtin "object.__class__") "__get__" = some (some (.builtin "getset_descriptor.__get__")))
    (ho_t : PySem.W.takesIn K (.builtin "object.__class__") = some true) : ∃ T : Txt K mg, T.a_law = f_law ∧ ∀ (s : Shared) (v : Value), BindsTo s T.d_law ⟨[v], []⟩ [("_law_script", v)] :=
  ⟨{ a_is_number := f_is_number,
      d_is_number := _,
      F_is_number := fun_mk (st := s_is_number) l_is_number c_is_number k_is_number,
      g_is_number := PySem.W.mg_of X G a_is_number,
      b_is_number := (fun_mk (st := s_is_number) l_is_number c_is_number k_is_number).binds fun _ _ _ _ _ _ us hl => match us, hl with | [_], _ => rfl,
      a_are_numbers := f_are_numbers,
      d_are_numbers := _,
      F_are_numbers := fun_mk (st := s_are_numbers) l_are_numbers c_are_numbers k_are_numbers,
      g_are_numbers := PySem.W.mg_of X G a_are_numbers,
      b_are_numbers := (fun_mk (st := s_are_numbers) l_are_numbers c_are_numbers k_are_numbers).binds fun _ _ _ _ _ _ us hl => match us, hl with | [_, _], _ => rfl,
      a_is_plan := f_is_plan,
      d_is_plan := _,
      F_is_plan := fun_mk (st := s_is_plan) l_is_plan c_is_plan k_is_plan,
      g_is_plan := PySem.W.mg_of X G a_is_plan,
      b_is_plan := (fun_mk (st := s_is_plan) l_is_plan c_is_plan k_is_plan).binds fun _ _ _ _ _ _ us hl => match us, hl with | [_, _, _], _ => rfl,
      a_is_mix := f_is_mix,
      d_is_mix := _,
      F_is_mix := fun_mk (st := s_is_mix) l_is_mix c_is_mix k_is_mix,
      g_is_mix := PySem.W.mg_of X G a_is_mix,
      b_is_mix := (fun_mk (st := s_is_mix) l_is_mix c_is_mix k_is_mix).binds fun _ _ _ _ _ _ us hl => match us, hl with | [_], _ => rfl,
      a_must_be_mix := f_must_be_mix,
      d_must_be_mix := _,
      F_must_be_mix := fun_mk (st := s_must_be_mix) l_must_be_mix c_must_be_mix k_must_be_mix,
      g_must_be_mix := PySem.W.mg_of X G a_must_be_mix,
      b_must_be_mix := (fun_mk (st := s_must_be_mix) l_must_be_mix c_must_be_mix k_must_be_mix).binds fun _ _ _ _ _ _ us hl => match us, hl with | [_], _ => rfl,
      a_whole_of := f_whole_of,
      d_whole_of := _,
      F_whole_of := fun_mk (st := s_whole_of) l_whole_of c_whole_of k_whole_of,
      g_whole_of := PySem.W.mg_of X G a_whole_of,
      b_whole_of := (fun_mk (st := s_whole_of) l_whole_of c_whole_of k_whole_of).binds fun _ _ _ _ _ _ us hl => match us, hl with | [_], _ => rfl,
      a_played := f_played,
      d_played := _,
      F_played := fun_mk (st := s_played) l_played c_played k_played,
      g_played := PySem.W.mg_of X G a_played,
      b_played := (fun_mk (st := s_played) l_played c_played k_played).binds fun _ _ _ _ _ _ us hl => match us, hl with | [_, _], _ => rfl,
      a_l_stirred := f_l_stirred,
      d_l_stirred := _,
      F_l_stirred := fun_mk (st := s_l_stirred) l_l_stirred c_l_stirred k_l_stirred,
      g_l_stirred := PySem.W.mg_of X G a_l_stirred,
      b_l_stirred := (fun_mk (st := s_l_stirred) l_l_stirred c_l_stirred k_l_stirred).binds fun _ _ _ _ _ _ us hl => match us, hl with | [_, _], _ => rfl,
      a_l_opened := f_l_opened,
      d_l_opened := _,
      F_l_opened := fun_mk (st := s_l_opened) l_l_opened c_l_opened k_l_opened,
      g_l_opened := PySem.W.mg_of X G a_l_opened,
      b_l_opened := (fun_mk (st := s_l_opened) l_l_opened c_l_opened k_l_opened).binds fun _ _ _ _ _ _ us hl => match us, hl with | [_], _ => rfl,
      a_l_draw := f_l_draw,
      d_l_draw := _,
      F_l_draw := fun_mk (st := s_l_draw) l_l_draw c_l_draw k_l_draw,
      g_l_draw := PySem.W.mg_of X G a_l_draw,
      b_l_draw := (fun_mk (st := s_l_draw) l_l_draw c_l_draw k_l_draw).binds fun _ _ _ _ _ _ us hl => match us, hl with | [_, _], _ => rfl,
      a_l_drawn_plan := f_l_drawn_plan,
      d_l_drawn_plan := _,
      F_l_drawn_plan := fun_mk (st := s_l_drawn_plan) l_l_drawn_plan c_l_drawn_plan k_l_drawn_plan,
      g_l_drawn_plan := PySem.W.mg_of X G a_l_drawn_plan,
      b_l_drawn_plan := (fun_mk (st := s_l_drawn_plan) l_l_drawn_plan c_l_drawn_plan k_l_drawn_plan).binds fun _ _ _ _ _ _ us hl => match us, hl with | [_, _, _], _ => rfl,
      a_l_drawn_mix := f_l_drawn_mix,
      d_l_drawn_mix := _,
      F_l_drawn_mix := fun_mk (st := s_l_drawn_mix) l_l_drawn_mix c_l_drawn_mix k_l_drawn_mix,
      g_l_drawn_mix := PySem.W.mg_of X G a_l_drawn_mix,
      b_l_drawn_mix := (fun_mk (st := s_l_drawn_mix) l_l_drawn_mix c_l_drawn_mix k_l_drawn_mix).binds fun _ _ _ _ _ _ us hl => match us, hl with | [_, _, _, _], _ => rfl,
      a_l_is_whole := f_l_is_whole,
      d_l_is_whole := _,
      F_l_is_whole := fun_mk (st := s_l_is_whole) l_l_is_whole c_l_is_whole k_l_is_whole,
      g_l_is_whole := PySem.W.mg_of X G a_l_is_whole,
      b_l_is_whole := (fun_mk (st := s_l_is_whole) l_l_is_whole c_l_is_whole k_l_is_whole).binds fun _ _ _ _ _ _ us hl => match us, hl with | [_], _ => rfl,
      a_l_kind_of := f_l_kind_of,
      d_l_kind_of := _,
      F_l_kind_of := fun_mk (st := s_l_kind_of) l_l_kind_of c_l_kind_of k_l_kind_of,
      g_l_kind_of := PySem.W.mg_of X G a_l_kind_of,
      b_l_kind_of := (fun_mk (st := s_l_kind_of) l_l_kind_of c_l_kind_of k_l_kind_of).binds fun _ _ _ _ _ _ us hl => match us, hl with | [_], _ => rfl,
      a_l_due_of := f_l_due_of,
      d_l_due_of := _,
      F_l_due_of := fun_mk (st := s_l_due_of) l_l_due_of c_l_due_of k_l_due_of,
      g_l_due_of := PySem.W.mg_of X G a_l_due_of,
      b_l_due_of := (fun_mk (st := s_l_due_of) l_l_due_of c_l_due_of k_l_due_of).binds fun _ _ _ _ _ _ us hl => match us, hl with | [_, _], _ => rfl,
      a_l_all_figured := f_l_all_figured,
      d_l_all_figured := _,
      F_l_all_figured := fun_mk (st := s_l_all_figured) l_l_all_figured c_l_all_figured k_l_all_figured,
      g_l_all_figured := PySem.W.mg_of X G a_l_all_figured,
      b_l_all_figured := (fun_mk (st := s_l_all_figured) l_l_all_figured c_l_all_figured k_l_all_figured).binds fun _ _ _ _ _ _ us hl => match us, hl with | [_, _, _], _ => rfl,
      a_l_caught_by := f_l_caught_by,
      d_l_caught_by := _,
      F_l_caught_by := fun_mk (st := s_l_caught_by) l_l_caught_by c_l_caught_by k_l_caught_by,
      g_l_caught_by := PySem.W.mg_of X G a_l_caught_by,
      b_l_caught_by := (fun_mk (st := s_l_caught_by) l_l_caught_by c_l_caught_by k_l_caught_by).binds fun _ _ _ _ _ _ us hl => match us, hl with | [_, _], _ => rfl,
      a_law := f_law,
      d_law := _,
      F_law := fun_mk (st := s_law) l_law c_law k_law,
      g_law := PySem.W.mg_of X G a_law,
      b_law := (fun_mk (st := s_law) l_law c_law k_law).binds fun _ _ _ _ _ _ us hl => match us, hl with | [_], _ => rfl,
      z_ValueError := PySem.W.mg_none_of X G z_ValueError,
      z_bool := PySem.W.mg_none_of X G z_bool,
      z_int := PySem.W.mg_none_of X G z_int,
      z_isinstance := PySem.W.mg_none_of X G z_isinstance,
      z_len := PySem.W.mg_none_of X G z_len,
      z_list := PySem.W.mg_none_of X G z_list,
      z_min := PySem.W.mg_none_of X G z_min,
      z_range := PySem.W.mg_none_of X G z_range,
      z_sum := PySem.W.mg_none_of X G z_sum,
      z_tuple := PySem.W.mg_none_of X G z_tuple,
      t_MOST_HOSTS := t_MOST_HOSTS,
      c_MOST_HOSTS := PySem.W.mg_of X G h_MOST_HOSTS,
      t_MOST_FIELDS := t_MOST_FIELDS,
      c_MOST_FIELDS := PySem.W.mg_of X G h_MOST_FIELDS,
      e_HostError := e_HostError,
      g_HostError := PySem.W.mg_of X G h_HostError,
      i_HostError := i_HostError,
      t_HostError := t_HostError,
      y_HostError := y_HostError,
      e_NoBattle := e_NoBattle,
      g_NoBattle := PySem.W.mg_of X G h_NoBattle,
      i_NoBattle := i_NoBattle,
      t_NoBattle := t_NoBattle,
      y_NoBattle := y_NoBattle,
      e_NoPlan := e_NoPlan,
      g_NoPlan := PySem.W.mg_of X G h_NoPlan,
      i_NoPlan := i_NoPlan,
      t_NoPlan := t_NoPlan,
      y_NoPlan := y_NoPlan,
      e_NoMix := e_NoMix,
      g_NoMix := PySem.W.mg_of X G h_NoMix,
      i_NoMix := i_NoMix,
      t_NoMix := t_NoMix,
      y_NoMix := y_NoMix,
      e_NoStream := e_NoStream,
      g_NoStream := PySem.W.mg_of X G h_NoStream,
      i_NoStream := i_NoStream,
      t_NoStream := t_NoStream,
      y_NoStream := y_NoStream,
      e_NoSide := e_NoSide,
      g_NoSide := PySem.W.mg_of X G h_NoSide,
      i_NoSide := i_NoSide,
      t_NoSide := t_NoSide,
      y_NoSide := y_NoSide,
      e_NoAlike := e_NoAlike,
      g_NoAlike := PySem.W.mg_of X G h_NoAlike,
      i_NoAlike := i_NoAlike,
      t_NoAlike := t_NoAlike,
      y_NoAlike := y_NoAlike,
      e_NoNumber := e_NoNumber,
      g_NoNumber := PySem.W.mg_of X G h_NoNumber,
      i_NoNumber := i_NoNumber,
      t_NoNumber := t_NoNumber,
      y_NoNumber := y_NoNumber,
      e_TooGreat := e_TooGreat,
      g_TooGreat := PySem.W.mg_of X G h_TooGreat,
      i_TooGreat := i_TooGreat,
      t_TooGreat := t_TooGreat,
      y_TooGreat := y_TooGreat,
      e_NoEven := e_NoEven,
      g_NoEven := PySem.W.mg_of X G h_NoEven,
      i_NoEven := i_NoEven,
      t_NoEven := t_NoEven,
      y_NoEven := y_NoEven,
      e_NoText := e_NoText,
      g_NoText := PySem.W.mg_of X G h_NoText,
      i_NoText := i_NoText,
      t_NoText := t_NoText,
      y_NoText := y_NoText,
      e_NoRow := e_NoRow,
      g_NoRow := PySem.W.mg_of X G h_NoRow,
      i_NoRow := i_NoRow,
      t_NoRow := t_NoRow,
      y_NoRow := y_NoRow,
      e_NoName := e_NoName,
      g_NoName := PySem.W.mg_of X G h_NoName,
      i_NoName := i_NoName,
      t_NoName := t_NoName,
      y_NoName := y_NoName,
      e_NoPlace := e_NoPlace,
      g_NoPlace := PySem.W.mg_of X G h_NoPlace,
      i_NoPlace := i_NoPlace,
      t_NoPlace := t_NoPlace,
      y_NoPlace := y_NoPlace,
      x_NoNumber := x_NoNumber,
      k_NoNumber := k_NoNumber,
      hg_NoNumber := hg_NoNumber,
      hk_NoNumber := hk_NoNumber,
      hd_NoNumber := hd_NoNumber,
      ha_NoNumber := ha_NoNumber,
      hm_NoNumber := hm_NoNumber,
      v_NoNumber := v_NoNumber,
      s_NoNumber_HostError := s_NoNumber_HostError,
      s_NoNumber_NoBattle := s_NoNumber_NoBattle,
      s_NoNumber_NoPlan := s_NoNumber_NoPlan,
      s_NoNumber_NoMix := s_NoNumber_NoMix,
      s_NoNumber_NoStream := s_NoNumber_NoStream,
      s_NoNumber_NoSide := s_NoNumber_NoSide,
      s_NoNumber_NoAlike := s_NoNumber_NoAlike,
      s_NoNumber_NoNumber := s_NoNumber_NoNumber,
      s_NoNumber_TooGreat := s_NoNumber_TooGreat,
      s_NoNumber_NoEven := s_NoNumber_NoEven,
      s_NoNumber_NoText := s_NoNumber_NoText,
      s_NoNumber_NoRow := s_NoNumber_NoRow,
      s_NoNumber_NoName := s_NoNumber_NoName,
      s_NoNumber_NoPlace := s_NoNumber_NoPlace,
      ho_n := ho_n,
      ho_t := ho_t }, rfl, fun _ _ => .of_eq rfl⟩
theorem all_mk {P : Program} {w : World} {K : PySem.W.Frag} {h : Heap} {mg : Str → Option Value} {fa : Addr} {f_is_number : Addr} {o_is_number n_is_number : Option Addr} {w_is_number : Array (Option Value)} {q1_is_number q2_is_number q3_is_number q4_is_number q5_is_number q6_is_number : Value} {f_are_numbers : Addr} {o_are_numbers n_are_numbers : Option Addr} {w_are_numbers : Array (Option Value)} {q1_are_numbers q2_are_numbers q3_are_numbers q4_are_numbers q5_are_numbers q6_are_numbers : Value} {f_is_plan : Addr} {o_is_plan n_is_plan : Option Addr} {w_is_plan : Array (Option Value)} {q1_is_plan q2_is_plan q3_is_plan q4_is_plan q5_is_plan q6_is_plan : Value} {f_is_mix : Addr} {o_is_mix n_is_mix : Option Addr} {w_is_mix : Array (Option Value)} {q1_is_mix q2_is_mix q3_is_mix q4_is_mix q5_is_mix q6_is_mix : Value} {f_must_be_mix : Addr} {o_must_be_mix n_must_be_mix : Option Addr} {w_must_be_mix : Array (Option Value)} {q1_must_be_mix q2_must_be_mix q3_must_be_mix q4_must_be_mix q5_must_be_mix q6_must_be_mix : Value} {f_whole_of : Addr} {o_whole_of n_whole_of : Option Addr} {w_whole_of : Array (Option Value)} {q1_whole_of q2_whole_of q3_whole_of q4_whole_of q5_whole_of q6_whole_of : Value} {f_played : Addr} {o_played n_played : Option Addr} {w_played : Array (Option Value)} {q1_played q2_played q3_played q4_played q5_played q6_played : Value} {f_l_stirred : Addr} {o_l_stirred n_l_stirred : Option Addr} {w_l_stirred : Array (Option Value)} {q1_l_stirred q2_l_stirred q3_l_stirred q4_l_stirred q5_l_stirred q6_l_stirred : Value} {f_l_opened : Addr} {o_l_opened n_l_opened : Option Addr} {w_l_opened : Array (Option Value)} {q1_l_opened q2_l_opened q3_l_opened q4_l_opened q5_l_opened q6_l_opened : Value} {f_l_draw : Addr} {o_l_draw n_l_draw : Option Addr} {w_l_draw : Array (Option Value)} {q1_l_draw q2_l_draw q3_l_draw q4_l_draw q5_l_draw q6_l_draw : Value} {f_l_drawn_plan : Addr} {o_l_drawn_plan n_l_drawn_plan : Option Addr} {w_l_drawn_plan : Array (Option Value)} {q1_l_drawn_plan q2_l_drawn_plan q3_l_drawn_plan q4_l_drawn_plan q5_l_drawn_plan q6_l_drawn_plan : Value} {f_l_drawn_mix : Addr} {o_l_drawn_mix n_l_drawn_mix : Option Addr} {w_l_drawn_mix : Array (Option Value)} {q1_l_drawn_mix q2_l_drawn_mix q3_l_drawn_mix q4_l_drawn_mix q5_l_drawn_mix q6_l_drawn_mix : Value} {f_l_is_whole : Addr} {o_l_is_whole n_l_is_whole : Option Addr} {w_l_is_whole : Array (Option Value)} {q1_l_is_whole q2_l_is_whole q3_l_is_whole q4_l_is_whole q5_l_is_whole q6_l_is_whole : Value} {f_l_kind_of : Addr} {o_l_kind_of n_l_kind_of : Option Addr} {w_l_kind_of : Array (Option Value)} {q1_l_kind_of q2_l_kind_of q3_l_kind_of q4_l_kind_of q5_l_kind_of q6_l_kind_of : Value} {f_l_due_of : Addr} {o_l_due_of n_l_due_of : Option Addr} {w_l_due_of : Array (Option Value)} {q1_l_due_of q2_l_due_of q3_l_due_of q4_l_due_of q5_l_due_of q6_l_due_of : Value} {f_l_all_figured : Addr} {o_l_all_figured n_l_all_figured : Option Addr} {w_l_all_figured : Array (Option Value)} {q1_l_all_figured q2_l_all_figured q3_l_all_figured q4_l_all_figured q5_l_all_figured q6_l_all_figured : Value} {f_l_caught_by : Addr} {o_l_caught_by n_l_caught_by : Option Addr} {w_l_caught_by : Array (Option Value)} {q1_l_caught_by q2_l_caught_by q3_l_caught_by q4_l_caught_by q5_l_caught_by q6_l_caught_by : Value} {f_law : Addr} {o_law n_law : Option Addr} {w_law : Array (Option Value)} {q1_law q2_law q3_law q4_law q5_law q6_law : Value} {t_MOST_HOSTS : Tok} {t_MOST_FIELDS : Tok} {e_HostError : Addr} {e_NoBattle : Addr} {e_NoPlan : Addr} {e_NoMix : Addr} {e_NoStream : Addr} {e_NoSide : Addr} {e_NoAlike : Addr} {e_NoNumber : Addr} {e_TooGreat : Addr} {e_NoEven : Addr} {e_NoText : Addr} {e_NoRow : Addr} {e_NoName : Addr} {e_NoPlace : Addr} (X : K.In h) (G : h.Ns mainGlobals mg) (hfa : mg "law" = some (.ref fa))
    (a_is_number : PySem.W.nsIn K mainGlobals "is_number" = some (some (.ref f_is_number)))
    (l_is_number : K.lookup f_is_number = some ⟨q1_is_number, o_is_number, .func (PySem.W.fnOf "is_number" "is_number" (defArgs s_is_number) (defBody s_is_number) (defScope s_is_number) .none q2_is_number q3_is_number q4_is_number n_is_number q5_is_number q6_is_number), w_is_number⟩)
    (c_is_number : PySem.W.codeIn K q5_is_number "is_number" = true)
    (k_is_number : PySem.W.keepIn K (.ref f_is_number) = true)
    (a_are_numbers : PySem.W.nsIn K mainGlobals "are_numbers" = some (some (.ref f_are_numbers)))
    (l_are_numbers : K.lookup f_are_numbers = some ⟨q1_are_numbers, o_are_numbers, .func (PySem.W.fnOf "are_numbers" "are_numbers" (defArgs s_are_numbers) (defBody s_are_numbers) (defScope s_are_numbers) .none q2_are_numbers q3_are_numbers q4_are_numbers n_are_numbers q5_are_numbers q6_are_numbers), w_are_numbers⟩)
    (c_are_numbers : PySem.W.codeIn K q5_are_numbers "are_numbers" = true)
    (k_are_numbers : PySem.W.keepIn K (.ref f_are_numbers) = true)
    (a_is_plan : PySem.W.nsIn K mainGlobals "is_plan" = some (some (.ref f_is_plan)))
    (l_is_plan : K.lookup f_is_plan = some ⟨q1_is_plan, o_is_plan, .func (PySem.W.fnOf "is_plan" "is_plan" (defArgs s_is_plan) (defBody s_is_plan) (defScope s_is_plan) .none q2_is_plan q3_is_plan q4_is_plan n_is_plan q5_is_plan q6_is_plan), w_is_plan⟩)
    (c_is_plan : PySem.W.codeIn K q5_is_plan "is_plan" = true)
    (k_is_plan : PySem.W.keepIn K (.ref f_is_plan) = true)
    (a_is_mix : PySem.W.nsIn K mainGlobals "is_mix" = some (some (.ref f_is_mix)))
    (l_is_mix : K.lookup f_is_mix = some ⟨q1_is_mix, o_is_mix, .func (PySem.W.fnOf "is_mix" "is_mix" (defArgs s_is_mix) (defBody s_is_mix) (defScope s_is_mix) .none q2_is_mix q3_is_mix q4_is_mix n_is_mix q5_is_mix q6_is_mix), w_is_mix⟩)
    (c_is_mix : PySem.W.codeIn K q5_is_mix "is_mix" = true)
    (k_is_mix : PySem.W.keepIn K (.ref f_is_mix) = true)
    (a_must_be_mix : PySem.W.nsIn K mainGlobals "must_be_mix" = some (some (.ref f_must_be_mix)))
    (l_must_be_mix : K.lookup f_must_be_mix = some ⟨q1_must_be_mix, o_must_be_mix, .func (PySem.W.fnOf "must_be_mix" "must_be_mix" (defArgs s_must_be_mix) (defBody s_must_be_mix) (defScope s_must_be_mix) .none q2_must_be_mix q3_must_be_mix q4_must_be_mix n_must_be_mix q5_must_be_mix q6_must_be_mix), w_must_be_mix⟩)
    (c_must_be_mix : PySem.W.codeIn K q5_must_be_mix "must_be_mix" = true)
    (k_must_be_mix : PySem.W.keepIn K (.ref f_must_be_mix) = true)
    (a_whole_of : PySem.W.nsIn K mainGlobals "whole_of" = some (some (.ref f_whole_of)))
    (l_whole_of : K.lookup f_whole_of = some ⟨q1_whole_of, o_whole_of, .func (PySem.W.fnOf "whole_of" "whole_of" (defArgs s_whole_of) (defBody s_whole_of) (defScope s_whole_of) .none q2_whole_of q3_whole_of q4_whole_of n_whole_of q5_whole_of q6_whole_of), w_whole_of⟩)
    (c_whole_of : PySem.W.codeIn K q5_whole_of "whole_of" = true)
    (k_whole_of : PySem.W.keepIn K (.ref f_whole_of) = true)
    (a_played : PySem.W.nsIn K mainGlobals "played" = some (some (.ref f_played)))
    (l_played : K.lookup f_played = some ⟨q1_played, o_played, .func (PySem.W.fnOf "played" "played" (defArgs s_played) (defBody s_played) (defScope s_played) .none q2_played q3_played q4_played n_played q5_played q6_played), w_played⟩)
    (c_played : PySem.W.codeIn K q5_played "played" = true)
    (k_played : PySem.W.keepIn K (.ref f_played) = true)
    (a_l_stirred : PySem.W.nsIn K mainGlobals "_law_stirred" = some (some (.ref f_l_stirred)))
    (l_l_stirred : K.lookup f_l_stirred = some ⟨q1_l_stirred, o_l_stirred, .func (PySem.W.fnOf "_law_stirred" "_law_stirred" (defArgs s_l_stirred) (defBody s_l_stirred) (defScope s_l_stirred) .none q2_l_stirred q3_l_stirred q4_l_stirred n_l_stirred q5_l_stirred q6_l_stirred), w_l_stirred⟩)
    (c_l_stirred : PySem.W.codeIn K q5_l_stirred "_law_stirred" = true)
    (k_l_stirred : PySem.W.keepIn K (.ref f_l_stirred) = true)
    (a_l_opened : PySem.W.nsIn K mainGlobals "_law_opened" = some (some (.ref f_l_opened)))
    (l_l_opened : K.lookup f_l_opened = some ⟨q1_l_opened, o_l_opened, .func (PySem.W.fnOf "_law_opened" "_law_opened" (defArgs s_l_opened) (defBody s_l_opened) (defScope s_l_opened) .none q2_l_opened q3_l_opened q4_l_opened n_l_opened q5_l_opened q6_l_opened), w_l_opened⟩)
    (c_l_opened : PySem.W.codeIn K q5_l_opened "_law_opened" = true)
    (k_l_opened : PySem.W.keepIn K (.ref f_l_opened) = true)
    (a_l_draw : PySem.W.nsIn K mainGlobals "_law_draw" = some (some (.ref f_l_draw)))
    (l_l_draw : K.lookup f_l_draw = some ⟨q1_l_draw, o_l_draw, .func (PySem.W.fnOf "_law_draw" "_law_draw" (defArgs s_l_draw) (defBody s_l_draw) (defScope s_l_draw) .none q2_l_draw q3_l_draw q4_l_draw n_l_draw q5_l_draw q6_l_draw), w_l_draw⟩)
    (c_l_draw : PySem.W.codeIn K q5_l_draw "_law_draw" = true)
    (k_l_draw : PySem.W.keepIn K (.ref f_l_draw) = true)
    (a_l_drawn_plan : PySem.W.nsIn K mainGlobals "_law_drawn_plan" = some (some (.ref f_l_drawn_plan)))
    (l_l_drawn_plan : K.lookup f_l_drawn_plan = some ⟨q1_l_drawn_plan, o_l_drawn_plan, .func (PySem.W.fnOf "_law_drawn_plan" "_law_drawn_plan" (defArgs s_l_drawn_plan) (defBody s_l_drawn_plan) (defScope s_l_drawn_plan) .none q2_l_drawn_plan q3_l_drawn_plan q4_l_drawn_plan n_l_drawn_plan q5_l_drawn_plan q6_l_drawn_plan), w_l_drawn_plan⟩)
    (c_l_drawn_plan : PySem.W.codeIn K q5_l_drawn_plan "_law_drawn_plan" = true)
    (k_l_drawn_plan : PySem.W.keepIn K (.ref f_l_drawn_plan) = true)
    (a_l_drawn_mix : PySem.W.nsIn K mainGlobals "_law_drawn_mix" = some (some (.ref f_l_drawn_mix)))
    (l_l_drawn_mix : K.lookup f_l_drawn_mix = some ⟨q1_l_drawn_mix, o_l_drawn_mix, .func (PySem.W.fnOf "_law_drawn_mix" "_law_drawn_mix" (defArgs s_l_drawn_mix) (defBody s_l_drawn_mix) (defScope s_l_drawn_mix) .none q2_l_drawn_mix q3_l_drawn_mix q4_l_drawn_mix n_l_drawn_mix q5_l_drawn_mix q6_l_drawn_mix), w_l_drawn_mix⟩)
    (c_l_drawn_mix : PySem.W.codeIn K q5_l_drawn_mix "_law_drawn_mix" = true)
    (k_l_drawn_mix : PySem.W.keepIn K (.ref f_l_drawn_mix) = true)
    (a_l_is_whole : PySem.W.nsIn K mainGlobals "_law_is_whole" = some (some (.ref f_l_is_whole)))
    (l_l_is_whole : K.lookup f_l_is_whole = some ⟨q1_l_is_whole, o_l_is_whole, .func (PySem.W.fnOf "_law_is_whole" "_law_is_whole" (defArgs s_l_is_whole) (defBody s_l_is_whole) (defScope s_l_is_whole) .none q2_l_is_whole q3_l_is_whole q4_l_is_whole n_l_is_whole q5_l_is_whole q6_l_is_whole), w_l_is_whole⟩)
    (c_l_is_whole : PySem.W.codeIn K q5_l_is_whole "_law_is_whole" = true)
    (k_l_is_whole : PySem.W.keepIn K (.ref f_l_is_whole) = true)
    (a_l_kind_of : PySem.W.nsIn K mainGlobals "_law_kind_of" = some (some (.ref f_l_kind_of)))
    (l_l_kind_of : K.lookup f_l_kind_of = some ⟨q1_l_kind_of, o_l_kind_of, .func (PySem.W.fnOf "_law_kind_of" "_law_kind_of" (defArgs s_l_kind_of) (defBody s_l_kind_of) (defScope s_l_kind_of) .none q2_l_kind_of q3_l_kind_of q4_l_kind_of n_l_kind_of q5_l_kind_of q6_l_kind_of), w_l_kind_of⟩)
    (c_l_kind_of : PySem.W.codeIn K q5_l_kind_of "_law_kind_of" = true)
    (k_l_kind_of : PySem.W.keepIn K (.ref f_l_kind_of) = true)
    (a_l_due_of : PySem.W.nsIn K mainGlobals "_law_due_of" = some (some (.ref f_l_due_of)))
    (l_l_due_of : K.lookup f_l_due_of = some ⟨q1_l_due_of, o_l_due_of, .func (PySem.W.fnOf "_law_due_of" "_law_due_of" (defArgs s_l_due_of) (defBody s_l_due_of) (defScope s_l_due_of) .none q2_l_due_of q3_l_due_of q4_l_due_of n_l_due_of q5_l_due_of q6_l_due_of), w_l_due_of⟩)
    (c_l_due_of : PySem.W.codeIn K q5_l_due_of "_law_due_of" = true)
    (k_l_due_of : PySem.W.keepIn K (.ref f_l_due_of) = true)
    (a_l_all_figured : PySem.W.nsIn K mainGlobals "_law_all_figured" = some (some (.ref f_l_all_figured)))
    (l_l_all_figured : K.lookup f_l_all_figured = some ⟨q1_l_all_figured, o_l_all_figured, .func (PySem.W.fnOf "_law_all_figured" "_law_all_figured" (defArgs s_l_all_figured) (defBody s_l_all_figured) (defScope s_l_all_figured) .none q2_l_all_figured q3_l_all_figured q4_l_all_figured n_l_all_figured q5_l_all_figured q6_l_all_figured), w_l_all_figured⟩)
    (c_l_all_figured : PySem.W.codeIn K q5_l_all_figured "_law_all_figured" = true)
    (k_l_all_figured : PySem.W.keepIn K (.ref f_l_all_figured) = true)
    (a_l_caught_by : PySem.W.nsIn K mainGlobals "_law_caught_by" = some (some (.ref f_l_caught_by)))
    (l_l_caught_by : K.lookup f_l_caught_by = some ⟨q1_l_caught_by, o_l_caught_by, .func (PySem.W.fnOf "_law_caught_by" "_law_caught_by" (defArgs s_l_caught_by) (defBody s_l_caught_by) (defScope s_l_caught_by) .none q2_l_caught_by q3_l_caught_by q4_l_caught_by n_l_caught_by q5_l_caught_by q6_l_caught_by), w_l_caught_by⟩)
    (c_l_caught_by : PySem.W.codeIn K q5_l_caught_by "_law_caught_by" = true)
    (k_l_caught_by : PySem.W.keepIn K (.ref f_l_caught_by) = true)
    (a_law : PySem.W.nsIn K mainGlobals "law" = some (some (.ref f_law)))
    (l_law : K.lookup f_law = some ⟨q1_law, o_law, .func (PySem.W.fnOf "law" "law" (defArgs s_law) (defBody s_law) (defScope s_law) .none q2_law q3_law q4_law n_law q5_law q6_law), w_law⟩)
    (c_law : PySem.W.codeIn K q5_law "law" = true)
    (k_law : PySem.W.keepIn K (.ref f_law) = true)
    (z_ValueError : PySem.W.nsIn K mainGlobals "ValueError" = some none)
    (z_bool : PySem.W.nsIn K mainGlobals "bool" = some none)
    (z_int : PySem.W.nsIn K mainGlobals "int" = some none)
    (z_isinstance : PySem.W.nsIn K mainGlobals "isinstance" = some none)
    (z_len : PySem.W.nsIn K mainGlobals "len" = some none)
    (z_list : PySem.W.nsIn K mainGlobals "list" = some none)
    (z_min : PySem.W.nsIn K mainGlobals "min" = some none)
    (z_range : PySem.W.nsIn K mainGlobals "range" = some none)
    (z_sum : PySem.W.nsIn K mainGlobals "sum" = some none)
    (z_tuple : PySem.W.nsIn K mainGlobals "tuple" = some none)
    (h_MOST_HOSTS : PySem.W.nsIn K mainGlobals "MOST_HOSTS" = some (some (.int 40 t_MOST_HOSTS)))
    (h_MOST_FIELDS : PySem.W.nsIn K mainGlobals "MOST_FIELDS" = some (some (.int 8 t_MOST_FIELDS)))
    (h_HostError : PySem.W.nsIn K mainGlobals "HostError" = some (some (.ref e_HostError)))
    (i_HostError : PySem.W.isClsIn K e_HostError = true)
    (t_HostError : PySem.W.typeIn K (.ref e_HostError) = some (.type "type"))
    (y_HostError : PySem.W.subIn K (.ref e_HostError) (.type "BaseException") = some true)
    (h_NoBattle : PySem.W.nsIn K mainGlobals "NoBattle" = some (some (.ref e_NoBattle)))
    (i_NoBattle : PySem.W.isClsIn K e_NoBattle = true)
    (t_NoBattle : PySem.W.typeIn K (.ref e_NoBattle) = some (.type "type"))
    (y_NoBattle : PySem.W.subIn K (.ref e_NoBattle) (.type "BaseException") = some true)
    (h_NoPlan : PySem.W.nsIn K mainGlobals "NoPlan" = some (some (.ref e_NoPlan)))
    (i_NoPlan : PySem.W.isClsIn K e_NoPlan = true)
    (t_NoPlan : PySem.W.typeIn K (.ref e_NoPlan) = some (.type "type"))
    (y_NoPlan : PySem.W.subIn K (.ref e_NoPlan) (.type "BaseException") = some true)
    (h_NoMix : PySem.W.nsIn K mainGlobals "NoMix" = some (some (.ref e_NoMix)))
    (i_NoMix : PySem.W.isClsIn K e_NoMix = true)
    (t_NoMix : PySem.W.typeIn K (.ref e_NoMix) = some (.type "type"))
    (y_NoMix : PySem.W.subIn K (.ref e_NoMix) (.type "BaseException") = some true)
    (h_NoStream : PySem.W.nsIn K mainGlobals "NoStream" = some (some (.ref e_NoStream)))
    (i_NoStream : PySem.W.isClsIn K e_NoStream = true)
    (t_NoStream : PySem.W.typeIn K (.ref e_NoStream) = some (.type "type"))
    (y_NoStream : PySem.W.subIn K (.ref e_NoStream) (.type "BaseException") = some true)
    (h_NoSide : PySem.W.nsIn K mainGlobals "NoSide" = some (some (.ref e_NoSide)))
    (i_NoSide : PySem.W.isClsIn K e_NoSide = true)
    (t_NoSide : PySem.W.typeIn K (.ref e_NoSide) = some (.type "type"))
    (y_NoSide : PySem.W.subIn K (.ref e_NoSide) (.type "BaseException") = some true)
    (h_NoAlike : PySem.W.nsIn K mainGlobals "NoAlike" = some (some (.ref e_NoAlike)))
    (i_NoAlike : PySem.W.isClsIn K e_NoAlike = true)
    (t_NoAlike : PySem.W.typeIn K (.ref e_NoAlike) = some (.type "type"))
    (y_NoAlike : PySem.W.subIn K (.ref e_NoAlike) (.type "BaseException") = some true)
    (h_NoNumber : PySem.W.nsIn K mainGlobals "NoNumber" = some (some (.ref e_NoNumber)))
    (i_NoNumber : PySem.W.isClsIn K e_NoNumber = true)
    (t_NoNumber : PySem.W.typeIn K (.ref e_NoNumber) = some (.type "type"))
    (y_NoNumber : PySem.W.subIn K (.ref e_NoNumber) (.type "BaseException") = some true)
    (h_TooGreat : PySem.W.nsIn K mainGlobals "TooGreat" = some (some (.ref e_TooGreat)))
    (i_TooGreat : PySem.W.isClsIn K e_TooGreat = true)
    (t_TooGreat : PySem.W.typeIn K (.ref e_TooGreat) = some (.type "type"))
    (y_TooGreat : PySem.W.subIn K (.ref e_TooGreat) (.type "BaseException") = some true)
    (h_NoEven : PySem.W.nsIn K mainGlobals "NoEven" = some (some (.ref e_NoEven)))
    (i_NoEven : PySem.W.isClsIn K e_NoEven = true)
    (t_NoEven : PySem.W.typeIn K (.ref e_NoEven) = some (.type "type"))
    (y_NoEven : PySem.W.subIn K (.ref e_NoEven) (.type "BaseException") = some true)
    (h_NoText : PySem.W.nsIn K mainGlobals "NoText" = some (some (.ref e_NoText)))
    (i_NoText : PySem.W.isClsIn K e_NoText = true)
    (t_NoText : PySem.W.typeIn K (.ref e_NoText) = some (.type "type"))
    (y_NoText : PySem.W.subIn K (.ref e_NoText) (.type "BaseException") = some true)
    (h_NoRow : PySem.W.nsIn K mainGlobals "NoRow" = some (some (.ref e_NoRow)))
    (i_NoRow : PySem.W.isClsIn K e_NoRow = true)
    (t_NoRow : PySem.W.typeIn K (.ref e_NoRow) = some (.type "type"))
    (y_NoRow : PySem.W.subIn K (.ref e_NoRow) (.type "BaseException") = some true)
    (h_NoName : PySem.W.nsIn K mainGlobals "NoName" = some (some (.ref e_NoName)))
    (i_NoName : PySem.W.isClsIn K e_NoName = true)
    (t_NoName : PySem.W.typeIn K (.ref e_NoName) = some (.type "type"))
    (y_NoName : PySem.W.subIn K (.ref e_NoName) (.type "BaseException") = some true)
    (h_NoPlace : PySem.W.nsIn K mainGlobals "NoPlace" = some (some (.ref e_NoPlace)))
    (i_NoPlace : PySem.W.isClsIn K e_NoPlace = true)
    (t_NoPlace : PySem.W.typeIn K (.ref e_NoPlace) = some (.type "type"))
    (y_NoPlace : PySem.W.subIn K (.ref e_NoPlace) (.type "BaseException") = some true)
    (x_NoNumber : PySem.W.excIn K e_NoNumber [.type "ValueError", .type "Exception", .type "BaseException", .type "object"] "ValueError.__new__" = true)
    (k_NoNumber : PySem.W.keepIn K (.ref e_NoNumber) = true)
    (hg_NoNumber : PySem.W.findIn K (.ref e_NoNumber) "__getattribute__" = some (some (.builtin "BaseException.__getattribute__")))
    (hk_NoNumber : PySem.W.findIn K (.ref e_NoNumber) "__getattr__" = some none)
    (hd_NoNumber : PySem.W.hasDictIn K e_NoNumber = true)
    (ha_NoNumber : PySem.W.findIn K (.ref e_NoNumber) "__class__" = some (some (.builtin "object.__class__")))
    (hm_NoNumber : PySem.W.mroIn K e_NoNumber (.type "object") = some true)
    (v_NoNumber : PySem.W.subIn K (.ref e_NoNumber) (.type "ValueError") = some true)
    (s_NoNumber_HostError : PySem.W.subIn K (.ref e_NoNumber) (.ref e_HostError) = some true)
    (s_NoNumber_NoBattle : PySem.W.subIn K (.ref e_NoNumber) (.ref e_NoBattle) = some false)
    (s_NoNumber_NoPlan : PySem.W.subIn K (.ref e_NoNumber) (.ref e_NoPlan) = some false)
    (s_NoNumber_NoMix : PySem.W.subIn K (.ref e_NoNumber) (.ref e_NoMix) = some false)
    (s_NoNumber_NoStream : PySem.W.subIn K (.ref e_NoNumber) (.ref e_NoStream) = some false)
    (s_NoNumber_NoSide : PySem.W.subIn K (.ref e_NoNumber) (.ref e_NoSide) = some false)
    (s_NoNumber_NoAlike : PySem.W.subIn K (.ref e_NoNumber) (.ref e_NoAlike) = some false)
    (s_NoNumber_NoNumber : PySem.W.subIn K (.ref e_NoNumber) (.ref e_NoNumber) = some true)
    (s_NoNumber_TooGreat : PySem.W.subIn K (.ref e_NoNumber) (.ref e_TooGreat) = some false)
    (s_NoNumber_NoEven : PySem.W.subIn K (.ref e_NoNumber) (.ref e_NoEven) = some false)
    (s_NoNumber_NoText : PySem.W.subIn K (.ref e_NoNumber) (.ref e_NoText) = some false)
    (s_NoNumber_NoRow : PySem.W.subIn K (.ref e_NoNumber) (.ref e_NoRow) = some false)
    (s_NoNumber_NoName : PySem.W.subIn K (.ref e_NoNumber) (.ref e_NoName) = some false)
    (s_NoNumber_NoPlace : PySem.W.subIn K (.ref e_NoNumber) (.ref e_NoPlace) = some false)
    (ho_n : PySem.W.specialIn K (.builtin "object.__class__") "__get__" = some (some (.builtin "getset_descriptor.__get__")))
    (ho_t : PySem.W.takesIn K (.builtin "object.__class__") = some true) : ∃ fd : FuncData, (∀ (s : Shared) (v : Value), BindsTo s fd ⟨[v], []⟩ [("_law_script", v)]) ∧ ∀ base : Heap, K.In base → base.Ns mainGlobals mg → FnOk P w K mg base CX0 9 fa fd ["_law_script"] (sp_law K) := by
  obtain ⟨T, e1, e2⟩ := mk_txt X G a_is_number l_is_number c_is_number k_is_number a_are_numbers l_are_numbers c_are_numbers k_are_numbers a_is_plan l_is_plan c_is_plan k_is_plan a_is_mix l_is_mix c_is_mix k_is_mix a_must_be_mix l_must_be_mix c_must_be_mix k_must_be_mix a_whole_of l_whole_of c_whole_of k_whole_of a_played l_played c_played k_played a_l_stirred l_l_stirred c_l_stirred k_l_stirred a_l_opened l_l_opened c_l_opened k_l_opened a_l_draw l_l_draw c_l_draw k_l_draw a_l_drawn_plan l_l_drawn_plan c_l_drawn_plan k_l_drawn_plan a_l_drawn_mix l_l_drawn_mix c_l_drawn_mix k_l_drawn_mix a_l_is_whole l_l_is_whole c_l_is_whole k_l_is_whole a_l_kind_of l_l_kind_of c_l_kind_of k_l_kind_of a_l_due_of l_l_due_of c_l_due_of k_l_due_of a_l_all_figured l_l_all_figured c_l_all_figured k_l_all_figured a_l_caught_by l_l_caught_by c_l_caught_by k_l_caught_by a_law l_law c_law k_law z_ValueError z_bool z_int z_isinstance z_len z_list z_min z_range z_sum z_tuple h_MOST_HOSTS h_MOST_FIELDS h_HostError i_HostError t_HostError y_HostError h_NoBattle i_NoBattle t_NoBattle y_NoBattle h_NoPlan i_NoPlan t_NoPlan y_NoPlan h_NoMix i_NoMix t_NoMix y_NoMix h_NoStream i_NoStream t_NoStream y_NoStream h_NoSide i_NoSide t_NoSide y_NoSide h_NoAlike i_NoAlike t_NoAlike y_NoAlike h_NoNumber i_NoNumber t_NoNumber y_NoNumber h_TooGreat i_TooGreat t_TooGreat y_TooGreat h_NoEven i_NoEven t_NoEven y_NoEven h_NoText i_NoText t_NoText y_NoText h_NoRow i_NoRow t_NoRow y_NoRow h_NoName i_NoName t_NoName y_NoName h_NoPlace i_NoPlace t_NoPlace y_NoPlace x_NoNumber k_NoNumber hg_NoNumber hk_NoNumber hd_NoNumber ha_NoNumber hm_NoNumber v_NoNumber s_NoNumber_HostError s_NoNumber_NoBattle s_NoNumber_NoPlan s_NoNumber_NoMix s_NoNumber_NoStream s_NoNumber_NoSide s_NoNumber_NoAlike s_NoNumber_NoNumber s_NoNumber_TooGreat s_NoNumber_NoEven s_NoNumber_NoText s_NoNumber_NoRow s_NoNumber_NoName s_NoNumber_NoPlace ho_n ho_t
  have e := hfa.symm.trans (PySem.W.mg_of X G a_law)
  cases e
  exact ⟨T.d_law, e2, fun base _ _ => e1 ▸ ok_law T⟩
end K71
open PySem PySem.W PyProof.Rows
set_option maxHeartbeats 0 in
theorem PySem.Challenge.cw_hostfields_k71_plans_played_holds : PySem.Challenge.rw_hostfields_k71_plans_played.Holds := by
  w_on; o_law; k_head; (case hw => w_witness2)
  k_fill
  refine L2.walk_of (l := PySem.Challenge.rw_hostfields_k71_plans_played) (n := 63) (k := 9) (x := "_law_script") (CX := fun _ => L2.CX0) (sp := fun w => K71.sp_law _) rfl (by decide) rfl ⟨rfl, by decide, by decide⟩ (fun w h Y => PySem.W.kIn_of Y) ?F (fun _ _ a ns hl _ hS => ⟨a, ns, rfl, hS, hl, fun _ => rfl⟩) (fun _ _ _ _ _ h => h)
  case F =>
    intro w mg fa h KX G hmg
    refine' K71.all_mk KX G hmg ?a_is_number ?l_is_number ?c_is_number ?k_is_number ?a_are_numbers ?l_are_numbers ?c_are_numbers ?k_are_numbers ?a_is_plan ?l_is_plan ?c_is_plan ?k_is_plan ?a_is_mix ?l_is_mix ?c_is_mix ?k_is_mix ?a_must_be_mix ?l_must_be_mix ?c_must_be_mix ?k_must_be_mix ?a_whole_of ?l_whole_of ?c_whole_of ?k_whole_of ?a_played ?l_played ?c_played ?k_played ?a_l_stirred ?l_l_stirred ?c_l_stirred ?k_l_stirred ?a_l_opened ?l_l_opened ?c_l_opened ?k_l_opened ?a_l_draw ?l_l_draw ?c_l_draw ?k_l_draw ?a_l_drawn_plan ?l_l_drawn_plan ?c_l_drawn_plan ?k_l_drawn_plan ?a_l_drawn_mix ?l_l_drawn_mix ?c_l_drawn_mix ?k_l_drawn_mix ?a_l_is_whole ?l_l_is_whole ?c_l_is_whole ?k_l_is_whole ?a_l_kind_of ?l_l_kind_of ?c_l_kind_of ?k_l_kind_of ?a_l_due_of ?l_l_due_of ?c_l_due_of ?k_l_due_of ?a_l_all_figured ?l_l_all_figured ?c_l_all_figured ?k_l_all_figured ?a_l_caught_by ?l_l_caught_by ?c_l_caught_by ?k_l_caught_by ?a_law ?l_law ?c_law ?k_law ?z_ValueError ?z_bool ?z_int ?z_isinstance ?z_len ?z_list ?z_min ?z_range ?z_sum ?z_tuple ?h_MOST_HOSTS ?h_MOST_FIELDS ?h_HostError ?i_HostError ?t_HostError ?y_HostError ?h_NoBattle ?i_NoBattle ?t_NoBattle ?y_NoBattle ?h_NoPlan ?i_NoPlan ?t_NoPlan ?y_NoPlan ?h_NoMix ?i_NoMix ?t_NoMix ?y_NoMix ?h_NoStream ?i_NoStream ?t_NoStream ?y_NoStream ?h_NoSide ?i_NoSide ?t_NoSide ?y_NoSide ?h_NoAlike ?i_NoAlike ?t_NoAlike ?y_NoAlike ?h_NoNumber ?i_NoNumber ?t_NoNumber ?y_NoNumber ?h_TooGreat ?i_TooGreat ?t_TooGreat ?y_TooGreat ?h_NoEven ?i_NoEven ?t_NoEven ?y_NoEven ?h_NoText ?i_NoText ?t_NoText ?y_NoText ?h_NoRow ?i_NoRow ?t_NoRow ?y_NoRow ?h_NoName ?i_NoName ?t_NoName ?y_NoName ?h_NoPlace ?i_NoPlace ?t_NoPlace ?y_NoPlace ?x_NoNumber ?k_NoNumber ?hg_NoNumber ?hk_NoNumber ?hd_NoNumber ?ha_NoNumber ?hm_NoNumber ?v_NoNumber ?s_NoNumber_HostError ?s_NoNumber_NoBattle ?s_NoNumber_NoPlan ?s_NoNumber_NoMix ?s_NoNumber_NoStream ?s_NoNumber_NoSide ?s_NoNumber_NoAlike ?s_NoNumber_NoNumber ?s_NoNumber_TooGreat ?s_NoNumber_NoEven ?s_NoNumber_NoText ?s_NoNumber_NoRow ?s_NoNumber_NoName ?s_NoNumber_NoPlace ?ho_n ?ho_t
    (case a_is_number => k_is); (case l_is_number => k_is); (case c_is_number => k_is); (case k_is_number => k_is); (case a_are_numbers => k_is); (case l_are_numbers => k_is); (case c_are_numbers => k_is); (case k_are_numbers => k_is); (case a_is_plan => k_is); (case l_is_plan => k_is); (case c_is_plan => k_is); (case k_is_plan => k_is); (case a_is_mix => k_is); (case l_is_mix => k_is); (case c_is_mix => k_is); (case k_is_mix => k_is); (case a_must_be_mix => k_is); (case l_must_be_mix => k_is); (case c_must_be_mix => k_is); (case k_must_be_mix => k_is); (case a_whole_of => k_is); (case l_whole_of => k_is); (case c_whole_of => k_is); (case k_whole_of => k_is); (case a_played => k_is); (case l_played => k_is); (case c_played => k_is); (case k_played => k_is); (case a_l_stirred => k_is); (case l_l_stirred => k_is); (case c_l_stirred => k_is); (case k_l_stirred => k_is); (case a_l_opened => k_is); (case l_l_opened => k_is); (case c_l_opened => k_is); (case k_l_opened => k_is); (case a_l_draw => k_is); (case l_l_draw => k_is); (case c_l_draw => k_is); (case k_l_draw => k_is); (case a_l_drawn_plan => k_is); (case l_l_drawn_plan => k_is); (case c_l_drawn_plan => k_is); (case k_l_drawn_plan => k_is); (case a_l_drawn_mix => k_is); (case l_l_drawn_mix => k_is); (case c_l_drawn_mix => k_is); (case k_l_drawn_mix => k_is); (case a_l_is_whole => k_is); (case l_l_is_whole => k_is); (case c_l_is_whole => k_is); (case k_l_is_whole => k_is); (case a_l_kind_of => k_is); (case l_l_kind_of => k_is); (case c_l_kind_of => k_is); (case k_l_kind_of => k_is); (case a_l_due_of => k_is); (case l_l_due_of => k_is); (case c_l_due_of => k_is); (case k_l_due_of => k_is); (case a_l_all_figured => k_is); (case l_l_all_figured => k_is); (case c_l_all_figured => k_is); (case k_l_all_figured => k_is); (case a_l_caught_by => k_is); (case l_l_caught_by => k_is); (case c_l_caught_by => k_is); (case k_l_caught_by => k_is); (case a_law => k_is); (case l_law => k_is); (case c_law => k_is); (case k_law => k_is); (case z_ValueError => k_is); (case z_bool => k_is); (case z_int => k_is); (case z_isinstance => k_is); (case z_len => k_is); (case z_list => k_is); (case z_min => k_is); (case z_range => k_is); (case z_sum => k_is); (case z_tuple => k_is); (case h_MOST_HOSTS => k_is); (case h_MOST_FIELDS => k_is); (case h_HostError => k_is); (case i_HostError => k_is); (case t_HostError => k_is); (case y_HostError => k_is); (case h_NoBattle => k_is); (case i_NoBattle => k_is); (case t_NoBattle => k_is); (case y_NoBattle => k_is); (case h_NoPlan => k_is); (case i_NoPlan => k_is); (case t_NoPlan => k_is); (case y_NoPlan => k_is); (case h_NoMix => k_is); (case i_NoMix => k_is); (case t_NoMix => k_is); (case y_NoMix => k_is); (case h_NoStream => k_is); (case i_NoStream => k_is); (case t_NoStream => k_is); (case y_NoStream => k_is); (case h_NoSide => k_is); (case i_NoSide => k_is); (case t_NoSide => k_is); (case y_NoSide => k_is); (case h_NoAlike => k_is); (case i_NoAlike => k_is); (case t_NoAlike => k_is); (case y_NoAlike => k_is); (case h_NoNumber => k_is); (case i_NoNumber => k_is); (case t_NoNumber => k_is); (case y_NoNumber => k_is); (case h_TooGreat => k_is); (case i_TooGreat => k_is); (case t_TooGreat => k_is); (case y_TooGreat => k_is); (case h_NoEven => k_is); (case i_NoEven => k_is); (case t_NoEven => k_is); (case y_NoEven => k_is); (case h_NoText => k_is); (case i_NoText => k_is); (case t_NoText => k_is); (case y_NoText => k_is); (case h_NoRow => k_is); (case i_NoRow => k_is); (case t_NoRow => k_is); (case y_NoRow => k_is); (case h_NoName => k_is); (case i_NoName => k_is); (case t_NoName => k_is); (case y_NoName => k_is); (case h_NoPlace => k_is); (case i_NoPlace => k_is); (case t_NoPlace => k_is); (case y_NoPlace => k_is); (case x_NoNumber => k_exc); (case k_NoNumber => k_is); (case hg_NoNumber => k_is); (case hk_NoNumber => k_is); (case hd_NoNumber => k_is); (case ha_NoNumber => k_is); (case hm_NoNumber => k_is); (case v_NoNumber => k_is); (case s_NoNumber_HostError => k_is); (case s_NoNumber_NoBattle => k_is); (case s_NoNumber_NoPlan => k_is); (case s_NoNumber_NoMix => k_is); (case s_NoNumber_NoStream => k_is); (case s_NoNumber_NoSide => k_is); (case s_NoNumber_NoAlike => k_is); (case s_NoNumber_NoNumber => k_is); (case s_NoNumber_TooGreat => k_is); (case s_NoNumber_NoEven => k_is); (case s_NoNumber_NoText => k_is); (case s_NoNumber_NoRow => k_is); (case s_NoNumber_NoName => k_is); (case s_NoNumber_NoPlace => k_is); (case ho_n => k_is); (case ho_t => k_is)

