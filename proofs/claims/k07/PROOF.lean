import PyProof.Rows.All
import Wide.All
import OpenK.AllK
import Wide.FinOn
import HandS.ForMost
import HandS.Wide
import HandS.IsInst
import HandS.TupAny
import HandS.TryOnly
import HandS.Style
import HandS.Conv
import PyProof.MaxThree
import HandS.SortInts
import PySem.Challenge.RW_hostfields_k07_whole_more_hosts_help
set_option Elab.async false
set_option linter.all false
set_option maxRecDepth 100000
set_option maxHeartbeats 4000000
/-! ## the engine: the readings, one step a lemma; «walk_at "go"» walks as far as it goes -/
namespace Hf
open PySem PySem.Spec PyProof.Rows L2
/-- every tracked object but the one at a is as it was -/
def But (a : Addr) (H H' : Hp) : Prop := ∀ b o, b ≠ a → H b = some o → H' b = some o
theorem But.same {a : Addr} {H H' : Hp} (e : Same H H') : But a H H' := fun b o _ h => e b o h
theorem But.refl (a : Addr) (H : Hp) : But a H H := fun _ _ _ h => h
theorem But.trans {a : Addr} {H H1 H2 : Hp} (x : But a H H1) (y : But a H1 H2) : But a H H2 := fun b o n h => y b o n (x b o n h)
theorem But.upd {a : Addr} {H H1 : Hp} {o : HO} (x : But a H H1) : But a H (upd H1 a o) := fun b u n h => by
  rw [upd_ne n]
  exact x b u n h
theorem But.new {a p : Addr} {H H1 : Hp} {o : HO} (x : But a H H1) (hp : H1 p = none) : But a H (L2.upd H1 p o) := fun b u n h => by
  have h1 := x b u n h
  rw [upd_ne (ne_of_none h1 hp)]
  exact h1
theorem But.to_same {a : Addr} {H H' : Hp} (x : But a H H') (n : H a = none) : Same H H' := fun b o h => x b o (ne_of_none h n) h
theorem Same.new {H : Hp} {p : Addr} {o : HO} (hp : H p = none) : Same H (upd H p o) := fun b u h => by
  rw [upd_ne (ne_of_none h hp)]
  exact h
theorem Same.newT {H0 H : Hp} {p : Addr} {o : HO} (e : Same H0 H) (hp : H p = none) : Same H0 (upd H p o) := e.trans (Same.new hp)
/-- a change at an object that H0 does not know -/
theorem Same.mut {H0 H : Hp} {p : Addr} {o : HO} (e : Same H0 H) (hp : H0 p = none) : Same H0 (upd H p o) := fun b u h => by
  rw [upd_ne (ne_of_none h hp)]
  exact e b u h
theorem Same.but {H0 H H1 : Hp} {p : Addr} (e : Same H0 H) (hp : H0 p = none) (x : But p H H1) : Same H0 H1 := fun b u h => x b u (ne_of_none h hp) (e b u h)
theorem Same.seqT {K : PySem.W.Frag} {H H' : Hp} {a : Addr} {xs : List V} (e : Same H H') (h : SqT K H a xs) : SqT K H' a xs := by
  rcases h with (h | ⟨o, h⟩) | h
  · exact .inl (.inl (e _ _ h))
  · exact .inl (.inr ⟨o, e _ _ h⟩)
  · exact .inr h
theorem But.seq {K : PySem.W.Frag} {H H' : Hp} {a b : Addr} {xs : List V} (e : But a H H') (n : b ≠ a) (h : SqL K H b xs) : SqL K H' b xs := by
  rcases h with (h | ⟨o, h⟩) | h
  · exact .inl (.inl (e _ _ n h))
  · exact .inl (.inr ⟨o, e _ _ n h⟩)
  · exact .inr h
theorem But.seqT {K : PySem.W.Frag} {H H' : Hp} {a b : Addr} {xs : List V} (e : But a H H') (n : b ≠ a) (h : SqT K H b xs) : SqT K H' b xs := by
  rcases h with (h | ⟨o, h⟩) | h
  · exact .inl (.inl (e _ _ n h))
  · exact .inl (.inr ⟨o, e _ _ n h⟩)
  · exact .inr h
/-- a guard: its way is barred where P is at hand -/
def Guard (_ : Prop) : Prop := True
theorem Guard.of {P : Prop} (_ : P) : Guard P := trivial
theorem lk_upd {H : Hp} {a b : Addr} {o u : HO} (n : b ≠ a) (h : H b = some u) : upd H a o b = some u := by
  rw [upd_ne n]
  exact h
theorem lk_new {H : Hp} {a b : Addr} {o u : HO} (n : H a = none) (h : H b = some u) : upd H a o b = some u := by
  rw [upd_ne (ne_of_none h n)]
  exact h
theorem lk_updG {H : Hp} {a b : Addr} {o u : HO} (_ : Guard (H a = none)) (n : b ≠ a) (h : H b = some u) : upd H a o b = some u := lk_upd n h
theorem lk_none {H H' : Hp} {a : Addr} (e : Same H H') (n : H' a = none) : H a = none := e.free n
theorem lkL_new {K : PySem.W.Frag} {H : Hp} {a b : Addr} {o : HO} {xs : List V} (n : H a = none) (h : SqL K H b xs) : SqL K (upd H a o) b xs := (Same.new n).seq h
theorem lkT_new {K : PySem.W.Frag} {H : Hp} {a b : Addr} {o : HO} {xs : List V} (n : H a = none) (h : SqT K H b xs) : SqT K (upd H a o) b xs := Same.seqT (Same.new n) h
theorem lkL_upd {K : PySem.W.Frag} {H : Hp} {a b : Addr} {o : HO} {xs : List V} (n : b ≠ a) (h : SqL K H b xs) : SqL K (upd H a o) b xs := But.seq (But.upd (But.refl a H)) n h
theorem lkT_upd {K : PySem.W.Frag} {H : Hp} {a b : Addr} {o : HO} {xs : List V} (n : b ≠ a) (h : SqT K H b xs) : SqT K (upd H a o) b xs := But.seqT (But.upd (But.refl a H)) n h
theorem lkL_updG {K : PySem.W.Frag} {H : Hp} {a b : Addr} {o : HO} {xs : List V} (_ : Guard (H a = none)) (n : b ≠ a) (h : SqL K H b xs) : SqL K (upd H a o) b xs := lkL_upd n h
theorem lkT_updG {K : PySem.W.Frag} {H : Hp} {a b : Addr} {o : HO} {xs : List V} (_ : Guard (H a = none)) (n : b ≠ a) (h : SqT K H b xs) : SqT K (upd H a o) b xs := lkT_upd n h
theorem ne_new {H : Hp} {a b : Addr} {o : HO} (n : H b = none) (h : H a = some o) : a ≠ b := ne_of_none h n
theorem ne_new' {H : Hp} {a b : Addr} {o : HO} (n : H b = none) (h : H a = some o) : b ≠ a := (ne_of_none h n).symm
theorem ne_at {α : Type} {a b : α} (h : a ≠ b) : b ≠ a := h.symm
/-! ### sizes -/
theorem sz4 {n : Nat} (h : n ≤ 1000000) : n ≤ sizeLine := Nat.le_trans h (by decide)
theorem sz4' {n : Nat} (h : n ≤ 1000000) : n < sizeLine := Nat.lt_of_le_of_lt h (by decide)
/-! ### two operators, wider -/
def CMulA (i j : Int) : Prop := CMul i j ∨ CMulW i j
theorem CMulA.ok {i j : Int} (h : CMulA i j) : IntMulOk i j := h.elim CMul.ok CMulW.ok
theorem op_mulA {X : Cx} : OpR X (binaryOp .Mult) (rI CMulA fun i j => .int (i * j)) := opI fun _ _ _ _ _ _ _ hc q => mul_int q hc.ok
def CDivA (_ j : Int) : Prop := j ≠ 0 ∧ j.natAbs.log2 < 9000
theorem op_fdivA {X : Cx} : OpR X (binaryOp .FloorDiv) (rI CDivA fun i j => .int (i.fdiv j)) := opI fun _ _ _ _ _ _ _ hc q => floordiv_int hc.1 q (.inl (PyProof.noPylong_of_log2 hc.2))
theorem mulL {i j : Int} (h : -(2 ^ 64) < i ∧ i < 2 ^ 64) : CMulA i j := .inl (.inl h)
theorem mulR {i j : Int} (h : -(2 ^ 64) < j ∧ j < 2 ^ 64) : CMulA i j := .inl (.inr h)
theorem log_lt {j : Int} {b : Nat} (h : j.natAbs < 2 ^ b) (h0 : 0 < b) (h9 : b ≤ 9000) : j.natAbs.log2 < 9000 := Nat.lt_of_lt_of_le (PySem.Flt.log2_lt_of h0 h) h9
theorem log_small {j : Int} (h : -(2 ^ 200) < j ∧ j < 2 ^ 200) : j.natAbs.log2 < 9000 := log_lt (b := 200) (by omega) (by decide) (by decide)
theorem mulW {i j : Int} {a b : Nat} (ha : i.natAbs < 2 ^ a) (hb : j.natAbs < 2 ^ b) (h0 : 0 < a) (h1 : 0 < b) (h : a + b ≤ 1000000) : CMulA i j := .inr (wide_mul ha hb h0 h1 h)
theorem divS {i j : Int} (h0 : j ≠ 0) (h : -(2 ^ 200) < j ∧ j < 2 ^ 200) : CDivA i j := ⟨h0, log_small h⟩
/-! ### the steps -/
section
variable {σ σ' : L2.St} {H : Hp} {Q : VK} {x y v : V} {i j : Int} {n : Nat} {nx bk ct : L2.St → Hp → Prop} {rt : VK} {K : PySem.W.Frag} {a p : Addr} {xs : List V}
theorem start_to {N : List Str} {vs : List V} {t : TS} {D : Ends} (e : start N vs = σ) (h : t D σ H) : t D (start N vs) H := by
  rw [e]
  exact h
theorem i_ends {t : TS} {rt : VK} (h : t ⟨fun _ H' => rt .non H', rt, fun _ _ => False, fun _ _ => False⟩ σ H) : t { nx := fun _ H' => rt .non H', rt := rt } σ H := h
theorem i_seq {t u : TS} (h : t ⟨u ⟨nx, rt, bk, ct⟩, rt, bk, ct⟩ σ H) : tSeq t u ⟨nx, rt, bk, ct⟩ σ H := h
theorem i_asg {te : TE} {g : TG} (h : te σ H fun x H1 => g x σ H1 nx) : tAsg te g ⟨nx, rt, bk, ct⟩ σ H := h
theorem i_gname {k : Nat} {Z : L2.St → Hp → Prop} (e : σ.set k (some v) = σ') (q : Z σ' H) : gName k v σ H Z := by
  subst e
  exact q
theorem i_ret {te : TE} (h : te σ H rt) : tRet te ⟨nx, rt, bk, ct⟩ σ H := h
theorem i_retN (h : rt .non H) : tRetN ⟨nx, rt, bk, ct⟩ σ H := h
theorem i_next (h : nx σ H) : tNext ⟨nx, rt, bk, ct⟩ σ H := h
theorem i_brk (h : bk σ H) : tBreak ⟨nx, rt, bk, ct⟩ σ H := h
theorem i_cnt (h : ct σ H) : tCont ⟨nx, rt, bk, ct⟩ σ H := h
theorem i_drop {te : TE} (h : te σ H fun _ H1 => nx σ H1) : tDrop te ⟨nx, rt, bk, ct⟩ σ H := h
theorem i_ifs {c : TT} {t u : TS} (h : c σ H fun b H1 => if b = true then t ⟨nx, rt, bk, ct⟩ σ H1 else u ⟨nx, rt, bk, ct⟩ σ H1) : tIfS c t u ⟨nx, rt, bk, ct⟩ σ H := h
theorem i_var {k : Nat} (h : σ[k]? = some (some v)) (q : Q v H) : tVar k σ H Q := ⟨v, h, q⟩
theorem i_c (q : Q v H) : tC v σ H Q := q
theorem i_op {r : R2} {ta tb : TE} (h : ta σ H fun x H1 => tb σ H1 fun y H2 => r x y H2 Q) : tOp r ta tb σ H Q := h
theorem i_un {r : V → Hp → VK → Prop} {ta : TE} (h : ta σ H fun x H1 => r x H1 Q) : tUn r ta σ H Q := h
theorem i_I0 {g : Int → Int → V} (q : Q (g i j) H) : rI0 g (.int i) (.int j) H Q := ⟨i, j, rfl, rfl, q⟩
theorem i_I {C : Int → Int → Prop} {g : Int → Int → V} (c : C i j) (q : Q (g i j) H) : rI C g (.int i) (.int j) H Q := ⟨i, j, rfl, rfl, c, q⟩
theorem i_pow {m : Int} (c : CPow i j) (e : i ^ j.toNat = m) (q : Q (.int m) H) : rI CPow (fun i j => .int (i ^ j.toNat)) (.int i) (.int j) H Q := ⟨i, j, rfl, rfl, c, by
  show Q (.int (i ^ j.toNat)) H
  rw [e]
  exact q⟩
theorem i_U {g : Int → V} (q : Q (g i) H) : rU g (.int i) H Q := ⟨i, rfl, q⟩
theorem i_eqI (q : Q (.bl (decide (i = j))) H) : rEq (.int i) (.int j) H Q := ⟨rfl, by
  have e : decide (V.int i = V.int j) = decide (i = j) := by
    by_cases h : i = j
    · rw [decide_eq_true h, decide_eq_true (congrArg V.int h)]
    · rw [decide_eq_false h, decide_eq_false fun z => h (V.int.inj z)]
  rw [e]
  exact q⟩
theorem i_neI (q : Q (.bl (!decide (i = j))) H) : rNe (.int i) (.int j) H Q := ⟨rfl, by
  have e : decide (V.int i = V.int j) = decide (i = j) := by
    by_cases h : i = j
    · rw [decide_eq_true h, decide_eq_true (congrArg V.int h)]
    · rw [decide_eq_false h, decide_eq_false fun z => h (V.int.inj z)]
  rw [e]
  exact q⟩
theorem i_eqB {c d : Bool} (q : Q (.bl (c == d)) H) : rEq (.bl c) (.bl d) H Q := ⟨rfl, by
  rw [dec_bl]
  exact q⟩
theorem i_neB {c d : Bool} (q : Q (.bl (!(c == d))) H) : rNe (.bl c) (.bl d) H Q := ⟨rfl, by
  rw [dec_bl]
  exact q⟩
theorem i_eqS {c d : Str} (q : Q (.bl (c == d)) H) : rEq (.str c) (.str d) H Q := ⟨rfl, by
  rw [dec_str]
  exact q⟩
theorem i_neS {c d : Str} (q : Q (.bl (!(c == d))) H) : rNe (.str c) (.str d) H Q := ⟨rfl, by
  rw [dec_str]
  exact q⟩
theorem i_test {te : TE} {P : Bool → Hp → Prop} (h : te σ H fun x H1 => ∃ k, x = .bl k ∧ P k H1) : tTest te σ H P := h
theorem i_B {te : TE} {P : Bool → Hp → Prop} (h : te σ H fun x H1 => ∃ k, x = .bl k ∧ P k H1) : tB te σ H P := h
theorem i_bl {b : Bool} {P : Bool → Prop} (q : P b) : ∃ k, V.bl b = .bl k ∧ P k := ⟨b, rfl, q⟩
theorem i_and {t u : TT} {P : Bool → Hp → Prop} (h : t σ H fun c H1 => if c = true then u σ H1 P else P false H1) : tAnd t u σ H P := h
theorem i_or {t u : TT} {P : Bool → Hp → Prop} (h : t σ H fun c H1 => if c = true then P true H1 else u σ H1 P) : tOr t u σ H P := h
theorem i_not {t : TT} {P : Bool → Hp → Prop} (h : t σ H fun c H1 => P (!c) H1) : tNot t σ H P := h
theorem i_andV {ta tb : TE} (h : ta σ H fun x H1 => ∃ c, x = .bl c ∧ if c = true then tb σ H1 Q else Q (.bl false) H1) : tAndV ta tb σ H Q := h
theorem i_orV {ta tb : TE} (h : ta σ H fun x H1 => ∃ c, x = .bl c ∧ if c = true then Q (.bl true) H1 else tb σ H1 Q) : tOrV ta tb σ H Q := h
theorem i_notV {ta : TE} (h : ta σ H fun x H1 => ∃ c, x = .bl c ∧ Q (.bl (!c)) H1) : tNotV ta σ H Q := h
theorem i_ife {t : TT} {ta tb : TE} (h : t σ H fun c H1 => if c = true then ta σ H1 Q else tb σ H1 Q) : tIf t ta tb σ H Q := h
theorem i_call {sp : Sp} {E : XK} {t : TA} (h : t σ H fun vs H1 => sp vs H1 Q E) : tCall sp [] E t σ H Q := by
  have e : (fun vs H1 => sp (vs ++ []) H1 Q E) = fun vs H1 => sp vs H1 Q E := by
    funext vs H1
    rw [List.append_nil]
  show t σ H (fun vs H1 => sp (vs ++ []) H1 Q E)
  rw [e]
  exact h
theorem i_cb {r : List V → Hp → VK → Prop} {t : TA} (h : t σ H fun vs H1 => r vs H1 Q) : tCB r t σ H Q := h
theorem i_nil {P : List V → Hp → Prop} (q : P [] H) : tNil σ H P := q
theorem i_cons {ta : TE} {tr : TA} {P : List V → Hp → Prop} (h : ta σ H fun x H1 => tr σ H1 fun xs H2 => P (x :: xs) H2) : tCons ta tr σ H P := h
theorem i_tup {t : TA} (h : t σ H fun xs H1 => xs.length ≤ sizeLine ∧ ∀ p, H1 p = none → Q (.ref p) (upd H1 p (.tup xs))) : tTup t σ H Q := h
theorem i_lst {t : TA} (h : t σ H fun xs H1 => xs.length ≤ sizeLine ∧ ∀ p, H1 p = none → Q (.ref p) (upd H1 p (.lst xs))) : tLst t σ H Q := h
theorem i_new {R : Addr → Prop} (hz : xs.length ≤ sizeLine) (q : ∀ p, H p = none → R p) : xs.length ≤ sizeLine ∧ ∀ p, H p = none → R p := ⟨hz, q⟩
theorem i_ixL (h : SqL K H p xs) (e : atI xs i = some v) (q : Q v H) : rIxL K (.ref p) (.int i) H Q := ⟨p, xs, i, v, rfl, rfl, h, e, q⟩
theorem i_ixT (h : SqT K H p xs) (e : atI xs i = some v) (q : Q v H) : rIxT K (.ref p) (.int i) H Q := ⟨p, xs, i, v, rfl, rfl, h, e, q⟩
theorem at_lt {α : Type} {xs : List α} {i : Int} (h0 : 0 ≤ i) (h1 : i < xs.length) : ∃ v, atI xs i = some v ∧ xs[i.toNat]? = some v := by
  have hk : i.toNat < xs.length := by omega
  refine ⟨xs[i.toNat], ?_, List.getElem?_eq_getElem hk⟩
  have e := atI_nat (xs := xs) (j := i.toNat) (v := xs[i.toNat]) (List.getElem?_eq_getElem hk)
  rw [Int.toNat_of_nonneg h0] at e
  exact e
/-- an item at an open place: one of those written -/
theorem i_ix2 {y1 y2 : V} (h : SqL K H p [y1, y2]) (h0 : 0 ≤ i) (h1 : i < 2) (q : ∀ v, v = y1 ∨ v = y2 → Q v H) : rIxL K (.ref p) (.int i) H Q := by
  rcases (by omega : i = 0 ∨ i = 1) with e | e <;> subst e
  · exact ⟨p, _, _, y1, rfl, rfl, h, rfl, q _ (.inl rfl)⟩
  · exact ⟨p, _, _, y2, rfl, rfl, h, rfl, q _ (.inr rfl)⟩
theorem i_ix2I {y1 y2 : Int} (h : SqL K H p [.int y1, .int y2]) (h0 : 0 ≤ i) (h1 : i < 2) (q : ∀ v, v = y1 ∨ v = y2 → Q (.int v) H) : rIxL K (.ref p) (.int i) H Q := by
  rcases (by omega : i = 0 ∨ i = 1) with e | e <;> subst e
  · exact ⟨p, _, _, .int y1, rfl, rfl, h, rfl, q _ (.inl rfl)⟩
  · exact ⟨p, _, _, .int y2, rfl, rfl, h, rfl, q _ (.inr rfl)⟩
theorem i_ix3I {y1 y2 y3 : Int} (h : SqL K H p [.int y1, .int y2, .int y3]) (h0 : 0 ≤ i) (h1 : i < 3) (q : ∀ v, v = y1 ∨ v = y2 ∨ v = y3 → Q (.int v) H) : rIxL K (.ref p) (.int i) H Q := by
  rcases (by omega : i = 0 ∨ i = 1 ∨ i = 2) with e | e | e <;> subst e
  · exact ⟨p, _, _, .int y1, rfl, rfl, h, rfl, q _ (.inl rfl)⟩
  · exact ⟨p, _, _, .int y2, rfl, rfl, h, rfl, q _ (.inr (.inl rfl))⟩
  · exact ⟨p, _, _, .int y3, rfl, rfl, h, rfl, q _ (.inr (.inr rfl))⟩
theorem i_ix4I {y1 y2 y3 y4 : Int} (h : SqL K H p [.int y1, .int y2, .int y3, .int y4]) (h0 : 0 ≤ i) (h1 : i < 4) (q : ∀ v, v = y1 ∨ v = y2 ∨ v = y3 ∨ v = y4 → Q (.int v) H) : rIxL K (.ref p) (.int i) H Q := by
  rcases (by omega : i = 0 ∨ i = 1 ∨ i = 2 ∨ i = 3) with e | e | e | e <;> subst e
  · exact ⟨p, _, _, .int y1, rfl, rfl, h, rfl, q _ (.inl rfl)⟩
  · exact ⟨p, _, _, .int y2, rfl, rfl, h, rfl, q _ (.inr (.inl rfl))⟩
  · exact ⟨p, _, _, .int y3, rfl, rfl, h, rfl, q _ (.inr (.inr (.inl rfl)))⟩
  · exact ⟨p, _, _, .int y4, rfl, rfl, h, rfl, q _ (.inr (.inr (.inr rfl)))⟩
theorem i_ix3R {y1 y2 y3 : Addr} (h : SqL K H p [.ref y1, .ref y2, .ref y3]) (h0 : 0 ≤ i) (h1 : i < 3) (q : ∀ v, v = y1 ∨ v = y2 ∨ v = y3 → Q (.ref v) H) : rIxL K (.ref p) (.int i) H Q := by
  rcases (by omega : i = 0 ∨ i = 1 ∨ i = 2) with e | e | e <;> subst e
  · exact ⟨p, _, _, .ref y1, rfl, rfl, h, rfl, q _ (.inl rfl)⟩
  · exact ⟨p, _, _, .ref y2, rfl, rfl, h, rfl, q _ (.inr (.inl rfl))⟩
  · exact ⟨p, _, _, .ref y3, rfl, rfl, h, rfl, q _ (.inr (.inr rfl))⟩
theorem i_ix4R {y1 y2 y3 y4 : Addr} (h : SqL K H p [.ref y1, .ref y2, .ref y3, .ref y4]) (h0 : 0 ≤ i) (h1 : i < 4) (q : ∀ v, v = y1 ∨ v = y2 ∨ v = y3 ∨ v = y4 → Q (.ref v) H) : rIxL K (.ref p) (.int i) H Q := by
  rcases (by omega : i = 0 ∨ i = 1 ∨ i = 2 ∨ i = 3) with e | e | e | e <;> subst e
  · exact ⟨p, _, _, .ref y1, rfl, rfl, h, rfl, q _ (.inl rfl)⟩
  · exact ⟨p, _, _, .ref y2, rfl, rfl, h, rfl, q _ (.inr (.inl rfl))⟩
  · exact ⟨p, _, _, .ref y3, rfl, rfl, h, rfl, q _ (.inr (.inr (.inl rfl)))⟩
  · exact ⟨p, _, _, .ref y4, rfl, rfl, h, rfl, q _ (.inr (.inr (.inr rfl)))⟩
theorem i_gtup {m : Nat} {t : TGs} {Z : L2.St → Hp → Prop} (h : SqT K H p xs) (e : xs.length = m) (q : t xs σ H Z) : gTup K m t (.ref p) σ H Z := ⟨p, xs, rfl, h, e, q⟩
theorem i_gtupL {m : Nat} {t : TGs} {Z : L2.St → Hp → Prop} (h : SqT K H p xs) (e : xs.length = m) (q : t xs σ H Z) : gTup K m t (.ref p) σ H Z := ⟨p, xs, rfl, h, e, q⟩
theorem i_gcons {t : TG} {u : TGs} {r : List V} {Z : L2.St → Hp → Prop} (h : t v σ H fun σ1 H1 => u r σ1 H1 Z) : gCons t u (v :: r) σ H Z := ⟨v, r, rfl, h⟩
theorem i_gnil {Z : L2.St → Hp → Prop} (h : Z σ H) : gNil [] σ H Z := ⟨rfl, h⟩
theorem i_gsub {to ti : TE} {t : TSet} {Z : L2.St → Hp → Prop} (h : to σ H fun o H1 => ti σ H1 fun i H2 => t o i v H2 fun H3 => Z σ H3) : gSub to ti t v σ H Z := h
theorem i_setL {k : Nat} {Z : Hp → Prop} (h : H p = some (.lst xs)) (e : ixN xs.length i = some k) (q : Z (upd H p (.lst (xs.set k v)))) : rSetL (.ref p) (.int i) v H Z := ⟨p, xs, i, k, rfl, rfl, h, e, q⟩
def par2 (k1 k2 : Nat) (σ : L2.St) (Z : L2.St → Hp → Prop) : List V → Hp → Prop := fun vs H1 => ∃ v w, vs = [v, w] ∧ Z ((σ.set k1 (some v)).set k2 (some w)) H1
theorem i_par {k1 k2 : Nat} {ta : TA} (h : ta σ H (par2 k1 k2 σ nx)) : tPar k1 k2 ta ⟨nx, rt, bk, ct⟩ σ H := h
theorem i_par2 {k1 k2 : Nat} {w : V} {Z : L2.St → Hp → Prop} (e : (σ.set k1 (some v)).set k2 (some w) = σ') (q : Z σ' H) : par2 k1 k2 σ Z [v, w] H := by
  subst e
  exact ⟨v, w, rfl, q⟩
theorem i_aug {k : Nat} {te : TE} {ti : TIp} (h : σ[k]? = some (some x)) (q : te σ H fun y H1 => ti x y H1 fun z H2 => gName k z σ H2 nx) : tAug k te ti ⟨nx, rt, bk, ct⟩ σ H := ⟨x, h, q⟩
theorem i_ip {f : Int → Int → Int} (q : Q (.int (f i j)) H) : ipI f (.int i) (.int j) H Q := ⟨i, j, rfl, rfl, q⟩
theorem i_for {wi : TI} {g : TG} {tb : TS} (h : wi σ H fun J H1 => ∃ W : Nat → Nat → L2.St → Hp → Prop, (∃ m, W 0 m σ H1) ∧ ∀ i m σ H, W i m σ H →
  (J.stop i H ∧ nx σ H) ∨ (J.go i H ∧ ∃ N : L2.St → Hp → Prop, (∀ σ' H', N σ' H' → ∃ m', m' < m ∧ W (i + 1) m' σ' H') ∧ ∀ x H', J.yld i H x H' → g x σ H' fun σ2 H2 => tb ⟨N, rt, nx, N⟩ σ2 H2)) : tFor wi g tb ⟨nx, rt, bk, ct⟩ σ H := h
theorem i_rng1 {ta : TA} {R : It → Hp → Prop} (h : ta σ H fun vs H1 => ∃ j : Int, vs = [.int j] ∧ -(2 ^ 62) ≤ j ∧ j < 2 ^ 62 ∧ R (Itr 0 j.toNat) H1) : iRng1 ta σ H R := h
theorem i_rng1' {R : Int → Prop} (h1 : -(2 ^ 62) ≤ j) (h2 : j < 2 ^ 62) (q : R j) : ∃ j' : Int, [V.int j] = [.int j'] ∧ -(2 ^ 62) ≤ j' ∧ j' < 2 ^ 62 ∧ R j' := ⟨j, rfl, h1, h2, q⟩
theorem i_rng2 {ta : TA} {R : It → Hp → Prop} (h : ta σ H fun vs H1 => ∃ i j : Int, vs = [.int i, .int j] ∧ (-(2 ^ 62) ≤ i ∧ i < 2 ^ 62 ∧ -(2 ^ 62) ≤ j ∧ j < 2 ^ 62) ∧ R (Itr i (j - i).toNat) H1) : iRng2 ta σ H R := h
theorem i_rng2' {R : Int → Int → Prop} (h : -(2 ^ 62) ≤ i ∧ i < 2 ^ 62 ∧ -(2 ^ 62) ≤ j ∧ j < 2 ^ 62) (q : R i j) : ∃ i' j' : Int, [V.int i, V.int j] = [.int i', .int j'] ∧ (-(2 ^ 62) ≤ i' ∧ i' < 2 ^ 62 ∧ -(2 ^ 62) ≤ j' ∧ j' < 2 ^ 62) ∧ R i' j' := ⟨i, j, rfl, h, q⟩
theorem i_ilist {tl : TE} {R : It → Hp → Prop} (h : tl σ H fun x H1 => ∃ a, x = .ref a ∧ (∃ xs, SqL K H1 a xs) ∧ R (Itl K a) H1) : iList K tl σ H R := h
theorem i_ilist' {R : Addr → Prop} (h : SqL K H p xs) (q : R p) : ∃ a, V.ref p = .ref a ∧ (∃ xs, SqL K H a xs) ∧ R a := ⟨p, rfl, ⟨xs, h⟩, q⟩
theorem i_itup {tl : TE} {R : It → Hp → Prop} (h : tl σ H fun x H1 => ∃ a, x = .ref a ∧ (∃ xs, SqT K H1 a xs) ∧ R (Itt K a) H1) : iTup K tl σ H R := h
theorem i_itup' {R : Addr → Prop} (h : SqT K H p xs) (q : R p) : ∃ a, V.ref p = .ref a ∧ (∃ xs, SqT K H a xs) ∧ R a := ⟨p, rfl, ⟨xs, h⟩, q⟩
/-- built-ins by values -/
theorem i_abs {R : Int → Prop} (q : R i) : ∃ i', [V.int i] = [.int i'] ∧ R i' := ⟨i, rfl, q⟩
theorem i_int2 {R : Int → Int → Prop} (q : R i j) : ∃ i' j', [V.int i, V.int j] = [.int i', .int j'] ∧ R i' j' := ⟨i, j, rfl, q⟩

theorem i_int1 {R : Int → Prop} {S : Prop} (q : R i) : (∃ i', [V.int i] = [.int i'] ∧ R i') ∨ S := .inl ⟨i, rfl, q⟩
theorem i_intb {b : Bool} {R : Bool → Prop} {S : Prop} (q : R b) : S ∨ ∃ k, [V.bl b] = [.bl k] ∧ R k := .inr ⟨b, rfl, q⟩
theorem i_lenL {R : List V → Prop} (h : SqL K H p xs) (q : R xs) : ∃ p' ys, [V.ref p] = [.ref p'] ∧ (SqL K H p' ys ∨ SqT K H p' ys) ∧ R ys := ⟨p, xs, rfl, .inl h, q⟩
theorem i_lenT {R : List V → Prop} (h : SqT K H p xs) (q : R xs) : ∃ p' ys, [V.ref p] = [.ref p'] ∧ (SqL K H p' ys ∨ SqT K H p' ys) ∧ R ys := ⟨p, xs, rfl, .inr h, q⟩
theorem i_isi {t : String} {c : String} {b : Bool} (ty : TyX K H x (.type t)) (h : kitB t c = some b) (q : Q (.bl b) H) : rIsi K [x, .ty c] H Q := ⟨x, .ty c, .type t, .type c, b, rfl, .ty c, ty, kit_ty h, q⟩
theorem i_append (h : H p = some (.lst xs)) (hz : xs.length < sizeLine) (q : Q .non (upd H p (.lst (xs ++ [v])))) : rAppend (.ref p) [v] H Q := ⟨p, xs, v, rfl, rfl, h, hz, q⟩
theorem i_appendM {H : Hp} {Q : VK} {p : Addr} {ms : List Int} {z : Int} (h : H p = some (.lst (ms.map V.int))) (hz : ms.length < sizeLine) (q : Q .non (upd H p (.lst ((ms ++ [z]).map V.int)))) : rAppend (.ref p) [.int z] H Q := ⟨p, _, _, rfl, rfl, h, by rw [List.length_map]; exact hz, by rw [List.map_append] at q; exact q⟩
theorem i_bm {T : String} {r : V → List V → Hp → VK → Prop} {to : TE} {t : TA} (h : to σ H fun x H1 => tyV K T x H1 ∧ t σ H1 fun xs H2 => r x xs H2 Q) : tBM K T r to t σ H Q := h
theorem i_bm0 {T : String} {r : V → List V → Hp → VK → Prop} {to : TE} (h : to σ H fun x H1 => tyV K T x H1 ∧ r x [] H1 Q) : tBM0 K T r to σ H Q := h
theorem i_bmL {A : Prop} (h : SqL K H p xs) (q : A) : tyV K "list" (.ref p) H ∧ A := ⟨.inl ⟨rfl, _, h⟩, q⟩
/-! ### ifs -/
theorem ite_d {p A B : Prop} {d : Decidable p} (h1 : p → A) (h2 : ¬ p → B) : if (@decide p d) = true then A else B := by
  by_cases h : p
  · rw [if_pos (decide_eq_true h)]
    exact h1 h
  · rw [if_neg (by rw [decide_eq_false h]; decide)]
    exact h2 h
theorem ite_nd {p A B : Prop} {d : Decidable p} (h1 : ¬ p → A) (h2 : p → B) : if (!(@decide p d)) = true then A else B := by
  by_cases h : p
  · rw [if_neg (by rw [decide_eq_true h]; decide)]
    exact h2 h
  · rw [if_pos (by rw [decide_eq_false h]; decide)]
    exact h1 h
theorem ite_b {b : Bool} {A B : Prop} (h1 : b = true → A) (h2 : b = false → B) : if b = true then A else B := by
  cases b
  · rw [if_neg (by decide)]
    exact h2 rfl
  · rw [if_pos rfl]
    exact h1 rfl
theorem ite_y {b : Bool} {A B : Prop} (e : b = true) (h : A) : if b = true then A else B := by
  rw [if_pos e]
  exact h
theorem ite_n {b : Bool} {A B : Prop} (e : b = false) (h : B) : if b = true then A else B := by
  rw [if_neg (by rw [e]; decide)]
  exact h
/-- both ways at once: what follows is asked of either -/
theorem ite_or {b : Bool} {R : Prop} {P : Bool → Prop} (h1 : b = true → P true → R) (h2 : b = false → P false → R) (hp : P b) : R := by
  cases b
  · exact h2 rfl hp
  · exact h1 rfl hp
end
end Hf
namespace Hf
open PySem PySem.Spec PyProof.Rows L2
theorem set_z {α : Type} {x y : α} {r : List α} : List.set (x :: r) 0 y = y :: r := rfl
theorem set_s {α : Type} {x y : α} {r r' : List α} {k : Nat} (h : List.set r k y = r') : List.set (x :: r) (k + 1) y = x :: r' := by
  rw [List.set_cons_succ, h]
theorem set_par {α : Type} {l l1 l2 : List α} {j k : Nat} {y z : α} (h1 : l.set j y = l1) (h2 : l1.set k z = l2) : (l.set j y).set k z = l2 := by
  rw [h1, h2]
theorem lk_same {H H' : Hp} {a : Addr} {o : HO} (e : Same H H') (h : H a = some o) : H' a = some o := e a o h
theorem lk_but {H H' : Hp} {a b : Addr} {o : HO} (e : But a H H') (n : b ≠ a) (h : H b = some o) : H' b = some o := e b o n h
end Hf

namespace Hf
open PySem PySem.Spec PyProof.Rows L2
/-! ### loops -/
section
variable {σ : L2.St} {H : Hp} {Q : VK} {nx bk ct : L2.St → Hp → Prop} {rt : VK} {K : PySem.W.Frag} {a : Addr} {xs : List V} {g : TG} {tb : TS} {lo : Int} {n : Nat}
theorem forR (Pv : Nat → L2.St → Hp → Prop) (h0 : Pv 0 σ H) (hd : ∀ σ H, Pv n σ H → nx σ H)
    (hs : ∀ (i : Nat) σ H, i < n → Pv i σ H → g (.int (lo + i)) σ H fun σ2 H2 => tb ⟨Pv (i + 1), rt, nx, Pv (i + 1)⟩ σ2 H2) :
    ∃ W : Nat → Nat → L2.St → Hp → Prop, (∃ m, W 0 m σ H) ∧ ∀ i m σ H, W i m σ H →
      ((Itr lo n).stop i H ∧ nx σ H) ∨ ((Itr lo n).go i H ∧ ∃ N : L2.St → Hp → Prop, (∀ σ' H', N σ' H' → ∃ m', m' < m ∧ W (i + 1) m' σ' H') ∧ ∀ x H', (Itr lo n).yld i H x H' → g x σ H' fun σ2 H2 => tb ⟨N, rt, nx, N⟩ σ2 H2) :=
  for_range (D := ⟨nx, rt, fun _ _ => False, fun _ _ => False⟩) Pv h0 hs hd
theorem forL (Pv : Nat → L2.St → Hp → Prop) (h0 : Pv 0 σ H) (hl : ∀ i σ H, i ≤ xs.length → Pv i σ H → SqL K H a xs) (hd : ∀ σ H, Pv xs.length σ H → nx σ H)
    (hs : ∀ i x σ H, xs[i]? = some x → Pv i σ H → g x σ H fun σ2 H2 => tb ⟨Pv (i + 1), rt, nx, Pv (i + 1)⟩ σ2 H2) :
    ∃ W : Nat → Nat → L2.St → Hp → Prop, (∃ m, W 0 m σ H) ∧ ∀ i m σ H, W i m σ H →
      ((Itl K a).stop i H ∧ nx σ H) ∨ ((Itl K a).go i H ∧ ∃ N : L2.St → Hp → Prop, (∀ σ' H', N σ' H' → ∃ m', m' < m ∧ W (i + 1) m' σ' H') ∧ ∀ x H', (Itl K a).yld i H x H' → g x σ H' fun σ2 H2 => tb ⟨N, rt, nx, N⟩ σ2 H2) :=
  for_list (D := ⟨nx, rt, fun _ _ => False, fun _ _ => False⟩) Pv h0 hl hs hd
theorem forT (Pv : Nat → L2.St → Hp → Prop) (h0 : Pv 0 σ H) (hl : ∀ i σ H, i ≤ xs.length → Pv i σ H → SqT K H a xs) (hd : ∀ σ H, Pv xs.length σ H → nx σ H)
    (hs : ∀ i x σ H, xs[i]? = some x → Pv i σ H → g x σ H fun σ2 H2 => tb ⟨Pv (i + 1), rt, nx, Pv (i + 1)⟩ σ2 H2) :
    ∃ W : Nat → Nat → L2.St → Hp → Prop, (∃ m, W 0 m σ H) ∧ ∀ i m σ H, W i m σ H →
      ((Itt K a).stop i H ∧ nx σ H) ∨ ((Itt K a).go i H ∧ ∃ N : L2.St → Hp → Prop, (∀ σ' H', N σ' H' → ∃ m', m' < m ∧ W (i + 1) m' σ' H') ∧ ∀ x H', (Itt K a).yld i H x H' → g x σ H' fun σ2 H2 => tb ⟨N, rt, nx, N⟩ σ2 H2) :=
  for_tup (D := ⟨nx, rt, fun _ _ => False, fun _ _ => False⟩) Pv h0 hl hs hd
/-- while: W by a measure; the test is read by hand, its two ways by turnW and the loop's end -/
theorem whileW {c : TT} (W : Nat → L2.St → Hp → Prop) (m : Nat) (h0 : W m σ H)
    (hs : ∀ m σ H, W m σ H → c σ H fun b H1 => if b = true then ∃ N : L2.St → Hp → Prop, (∀ σ' H', N σ' H' → ∃ m', m' < m ∧ W m' σ' H') ∧ tb ⟨N, rt, nx, N⟩ σ H1 else nx σ H1) : tWhile c tb ⟨nx, rt, bk, ct⟩ σ H :=
  ⟨W, ⟨m, h0⟩, hs⟩
theorem turnW {W : Nat → L2.St → Hp → Prop} {m : Nat} (h : tb ⟨fun σ' H' => ∃ m', m' < m ∧ W m' σ' H', rt, nx, fun σ' H' => ∃ m', m' < m ∧ W m' σ' H'⟩ σ H) :
    ∃ N : L2.St → Hp → Prop, (∀ σ' H', N σ' H' → ∃ m', m' < m ∧ W m' σ' H') ∧ tb ⟨N, rt, nx, N⟩ σ H := ⟨_, fun _ _ h => h, h⟩
end
theorem But.free {a p : Addr} {o : HO} {H H' : Hp} (hn : H' p = none) (e : But a H H') (ha : H' a = some o) : H p = none := by
  cases h : H p with
  | none => rfl
  | some u =>
    by_cases hp : p = a
    · rw [hp, ha] at hn
      cases hn
    · rw [e p u hp h] at hn
      cases hn
theorem Same.free' {p : Addr} {H H' : Hp} (hn : H' p = none) (e : Same H H') : H p = none := e.free hn
theorem But.newT {a p : Addr} {H H1 : Hp} {o : HO} (hp : H1 p = none) (x : But a H H1) : But a H (L2.upd H1 p o) := But.new x hp
theorem But.transT {a : Addr} {H H1 H2 : Hp} (y : But a H1 H2) (x : But a H H1) : But a H H2 := But.trans x y
theorem Same.transT {H H1 H2 : Hp} (y : Same H1 H2) (x : Same H H1) : Same H H2 := x.trans y
theorem Same.newT' {H H1 : Hp} {p : Addr} {o : HO} (hp : H1 p = none) (x : Same H H1) : Same H (upd H1 p o) := Same.newT x hp
theorem But.transS {a : Addr} {H H1 H2 : Hp} (y : Same H1 H2) (x : But a H H1) : But a H H2 := fun b o n h => y b o (x b o n h)
theorem Same.butT {H0 H H1 : Hp} {p : Addr} (x : But p H H1) (hp : H0 p = none) (e : Same H0 H) : Same H0 H1 := Same.but e hp x
/-! ### slices, sums of lists -/
theorem six_nn {n d : Nat} {k : Int} (h : 0 ≤ k) : HT.sIx n d (some k) = min k.toNat n := by
  obtain ⟨m, rfl⟩ := Int.eq_ofNat_of_zero_le h
  exact HT.sIx_nat n d m
theorem cut_to {xs : List V} {k : Int} (h : 0 ≤ k) : cutV xs none (some k) = xs.take k.toNat := by
  unfold cutV
  rw [six_nn h, HT.sIx_none, List.drop_zero, Nat.sub_zero]
  exact List.take_eq_take_iff.mpr (by omega)
theorem cut_from {xs : List V} {k : Int} (h : 0 ≤ k) : cutV xs (some k) none = xs.drop k.toNat := by
  unfold cutV
  rw [six_nn h, HT.sIx_none, List.take_of_length_le (by rw [List.length_drop]; omega)]
  by_cases c : k.toNat ≤ xs.length
  · rw [Nat.min_eq_left c]
  · rw [Nat.min_eq_right (show xs.length ≤ k.toNat by omega), List.drop_length, List.drop_eq_nil_of_le (show xs.length ≤ k.toNat by omega)]
theorem cut_mid {xs : List V} {j k : Int} (h : 0 ≤ j) (h' : 0 ≤ k) : cutV xs (some j) (some k) = (xs.drop j.toNat).take (k.toNat - j.toNat) := by
  unfold cutV
  rw [six_nn h, six_nn h']
  by_cases c : j.toNat ≤ xs.length
  · rw [Nat.min_eq_left c]
    refine List.take_eq_take_iff.mpr ?_
    rw [List.length_drop]
    omega
  · rw [Nat.min_eq_right (show xs.length ≤ j.toNat by omega), List.drop_length, List.drop_eq_nil_of_le (show xs.length ≤ j.toNat by omega), List.take_nil, List.take_nil]
section
variable {H : Hp} {Q : VK} {K : PySem.W.Frag} {p r : Addr} {xs ys : List V} {j k : Int} {lo hi : Option Int} {σ : L2.St}
theorem i_slTo (h : SqL K H p xs) (h0 : 0 ≤ k) (q : ∀ p', H p' = none → Q (.ref p') (upd H p' (.lst (xs.take k.toNat)))) : rSlL K (.ref p) none (some k) H Q := ⟨p, xs, rfl, h, by rw [cut_to h0]; exact q⟩
theorem i_slFrom (h : SqL K H p xs) (h0 : 0 ≤ k) (q : ∀ p', H p' = none → Q (.ref p') (upd H p' (.lst (xs.drop k.toNat)))) : rSlL K (.ref p) (some k) none H Q := ⟨p, xs, rfl, h, by rw [cut_from h0]; exact q⟩
theorem i_slMid (h : SqL K H p xs) (h0 : 0 ≤ j) (h1 : 0 ≤ k) (q : ∀ p', H p' = none → Q (.ref p') (upd H p' (.lst ((xs.drop j.toNat).take (k.toNat - j.toNat))))) : rSlL K (.ref p) (some j) (some k) H Q := ⟨p, xs, rfl, h, by rw [cut_mid h0 h1]; exact q⟩
theorem i_sl {R : V → Option Int → Option Int → Hp → VK → Prop} {te : TE} {tl th : TO} (h : te σ H fun x H1 => tl σ H1 fun l H2 => th σ H2 fun u H3 => R x l u H3 Q) : tSl R te tl th σ H Q := h
theorem i_nopart {P : Option Int → Hp → Prop} (q : P none H) : tNoPart σ H P := q
theorem i_part {te : TE} {P : Option Int → Hp → Prop} (h : te σ H fun x H1 => ∃ i, x = .int i ∧ P (some i) H1) : tPart te σ H P := h
theorem i_exint {i : Int} {R : Int → Prop} (q : R i) : ∃ i', V.int i = .int i' ∧ R i' := ⟨i, rfl, q⟩
theorem i_cat (h1 : H p = some (.lst xs)) (h2 : H r = some (.lst ys)) (hz : xs.length + ys.length ≤ sizeLine) (q : ∀ p', H p' = none → Q (.ref p') (upd H p' (.lst (xs ++ ys)))) : rCat (.ref p) (.ref r) H Q := ⟨p, r, xs, ys, rfl, rfl, h1, h2, hz, q⟩
theorem i_rep (h1 : H p = some (.lst xs)) (h2 : -(2 ^ 63) ≤ k ∧ k < 2 ^ 63) (hz : xs.length * k.toNat ≤ sizeLine) (q : ∀ p', H p' = none → Q (.ref p') (upd H p' (.lst (List.replicate k.toNat xs).flatten))) : rRep (.ref p) (.int k) H Q := ⟨p, k, xs, rfl, rfl, h1, h2.1, h2.2, hz, q⟩
theorem flat1 {α : Type} {x : α} : ∀ n : Nat, (List.replicate n [x]).flatten = List.replicate n x
  | 0 => rfl
  | n + 1 => by
    rw [List.replicate_succ, List.flatten_cons, flat1 n, List.replicate_succ]
    rfl
theorem i_rep1 {x : V} (h1 : H p = some (.lst [x])) (h2 : 0 ≤ k ∧ k ≤ 1000000) (q : ∀ p', H p' = none → Q (.ref p') (upd H p' (.lst (List.replicate k.toNat x)))) : rRep (.ref p) (.int k) H Q :=
  i_rep h1 (by omega) (sz4 (by show 1 * k.toNat ≤ 1000000; omega)) (by rw [flat1]; exact q)
end
/-- an if whose two ways meet: what holds behind it -/
theorem if_join {σ : L2.St} {H : Hp} {nx bk ct : L2.St → Hp → Prop} {rt : VK} {c : TT} {t u : TS} (P : L2.St → Hp → Prop) (h : ∀ nx' : L2.St → Hp → Prop, (∀ σ' H', P σ' H' → nx' σ' H') → tIfS c t u ⟨nx', rt, bk, ct⟩ σ H)
    (cont : ∀ σ' H', P σ' H' → nx σ' H') : tIfS c t u ⟨nx, rt, bk, ct⟩ σ H := h nx cont
/-- any statement, cut behind it -/
theorem st_join {σ : L2.St} {H : Hp} {nx bk ct : L2.St → Hp → Prop} {rt : VK} {t : TS} (P : L2.St → Hp → Prop) (h : ∀ nx' : L2.St → Hp → Prop, (∀ σ' H', P σ' H' → nx' σ' H') → t ⟨nx', rt, bk, ct⟩ σ H)
    (cont : ∀ σ' H', P σ' H' → nx σ' H') : t ⟨nx, rt, bk, ct⟩ σ H := h nx cont
theorem ints_at {ms : List Int} {i : Nat} {x : V} (h : (ms.map V.int)[i]? = some x) : ∃ z, x = .int z ∧ ms[i]? = some z := by
  rw [List.getElem?_map] at h
  cases e : ms[i]? with
  | none =>
    rw [e] at h
    cases h
  | some z =>
    rw [e] at h
    exact ⟨z, (Option.some.inj h).symm, rfl⟩
/-! ### equality of data -/
theorem i_eqT2 {K : PySem.W.Frag} {H : Hp} {Q : VK} {p r : Addr} {a b c d : Int} (h1 : SqT K H p [.int a, .int b]) (h2 : SqT K H r [.int c, .int d]) (q : Q (.bl (a == c && (b == d && true))) H) : rEqD K (.ref p) (.ref r) H Q :=
  ⟨.tuple [.int a, .int b], .tuple [.int c, .int d], .tup h1 (.cons (.int a) (.cons (.int b) .nil)), .tup h2 (.cons (.int c) (.cons (.int d) .nil)), rfl, rfl, by
    have e : PyData.eqv (.tuple [.int a, .int b]) (.tuple [.int c, .int d]) = (a == c && (b == d && true)) := by simp [PyData.eqv, PyData.eqvAll]
    rw [e]
    exact q⟩
/-! ### two objects that change -/
def But2 (a c : Addr) (H H' : Hp) : Prop := ∀ b o, b ≠ a → b ≠ c → H b = some o → H' b = some o
section
variable {a c b p : Addr} {H H' H1 H2 : Hp} {o u : HO} {K : PySem.W.Frag} {xs : List V}
theorem But2.refl (a c : Addr) (H : Hp) : But2 a c H H := fun _ _ _ _ h => h
theorem But2.transT (y : But2 a c H1 H2) (x : But2 a c H H1) : But2 a c H H2 := fun b o n m h => y b o n m (x b o n m h)
theorem But2.transS (y : Same H1 H2) (x : But2 a c H H1) : But2 a c H H2 := fun b o n m h => y b o (x b o n m h)
theorem But2.transL (y : But a H1 H2) (x : But2 a c H H1) : But2 a c H H2 := fun b o n m h => y b o n (x b o n m h)
theorem But2.transR (y : But c H1 H2) (x : But2 a c H H1) : But2 a c H H2 := fun b o n m h => y b o m (x b o n m h)
theorem But2.newT (hp : H1 p = none) (x : But2 a c H H1) : But2 a c H (L2.upd H1 p o) := fun b u n m h => by
  have h1 := x b u n m h
  rw [upd_ne (ne_of_none h1 hp)]
  exact h1
theorem But2.updL (x : But2 a c H H1) : But2 a c H (L2.upd H1 a o) := fun b u n m h => by
  rw [upd_ne n]
  exact x b u n m h
theorem But2.updR (x : But2 a c H H1) : But2 a c H (L2.upd H1 c o) := fun b u n m h => by
  rw [upd_ne m]
  exact x b u n m h
theorem lk_but2 (e : But2 a c H H') (n : b ≠ a) (m : b ≠ c) (h : H b = some o) : H' b = some o := e b o n m h
theorem But2.seq (e : But2 a c H H') (n : b ≠ a) (m : b ≠ c) (h : SqL K H b xs) : SqL K H' b xs := by
  rcases h with (h | ⟨o, h⟩) | h
  · exact .inl (.inl (e _ _ n m h))
  · exact .inl (.inr ⟨o, e _ _ n m h⟩)
  · exact .inr h
theorem But2.seqT (e : But2 a c H H') (n : b ≠ a) (m : b ≠ c) (h : SqT K H b xs) : SqT K H' b xs := by
  rcases h with (h | ⟨o, h⟩) | h
  · exact .inl (.inl (e _ _ n m h))
  · exact .inl (.inr ⟨o, e _ _ n m h⟩)
  · exact .inr h
theorem But2.free (hn : H' p = none) (e : But2 a c H H') (ha : H' a = some o) (hc : H' c = some u) : H p = none := by
  cases h : H p with
  | none => rfl
  | some v =>
    by_cases hp : p = a
    · rw [hp, ha] at hn
      cases hn
    · by_cases hq : p = c
      · rw [hq, hc] at hn
        cases hn
      · rw [e p v hp hq h] at hn
        cases hn
theorem But2.mut (hp : H p = none) (x : But2 a c H H1) : But2 a c H (L2.upd H1 p o) := fun b u n m h => by
  have e : b ≠ p := ne_of_none h hp
  exact lk_upd e (x b u n m h)
theorem But2.butT (y : But p H1 H2) (hp : H p = none) (x : But2 a c H H1) : But2 a c H H2 := fun b u n m h => y b u (ne_of_none h hp) (x b u n m h)
theorem Same.but2T {H0 : Hp} (x : But2 a c H H1) (ha : H0 a = none) (hc : H0 c = none) (e : Same H0 H) : Same H0 H1 := fun b u h => x b u (ne_of_none h ha) (ne_of_none h hc) (e b u h)
end
/-! ### len, by its number -/
def LenA (K : PySem.W.Frag) (H : Hp) (p : Addr) (n : Nat) : Prop := (∃ ys, SqL K H p ys ∧ ys.length = n) ∨ ∃ ys, SqT K H p ys ∧ ys.length = n
def rLenA (K : PySem.W.Frag) : List V → Hp → VK → Prop := fun xs H Q => ∃ p n, xs = [V.ref p] ∧ LenA K H p n ∧ Q (.int n) H
theorem call_lenA {X : Cx} : CallR X (.builtin "len") (rLenA X.K) := by
  intro pins s σ H xs us Q I r h
  obtain ⟨p, n, e, hl, q⟩ := h
  refine call_len_seq pins s σ H xs us Q I r ?_
  rcases hl with ⟨ys, h1, h2⟩ | ⟨ys, h1, h2⟩
  · exact ⟨p, ys, e, .inl h1, by rw [h2]; exact q⟩
  · exact ⟨p, ys, e, .inr h1, by rw [h2]; exact q⟩
section
variable {σ : L2.St} {H : Hp} {Q : VK} {K : PySem.W.Frag} {p r : Addr} {xs ys : List V} {ms ns : List Int} {i j k : Int} {n : Nat}
theorem i_lenA (h : LenA K H p n) (q : Q (.int n) H) : rLenA K [.ref p] H Q := ⟨p, n, rfl, h, q⟩
theorem lenA_map {α : Type} {f : α → V} {zs : List α} (h : SqL K H p (zs.map f)) : LenA K H p zs.length := .inl ⟨_, h, List.length_map _⟩
theorem lenA_L (h : SqL K H p xs) : LenA K H p xs.length := .inl ⟨_, h, rfl⟩
theorem lenA_T (h : SqT K H p xs) : LenA K H p xs.length := .inr ⟨_, h, rfl⟩
theorem i_ixM (h : SqL K H p (ms.map V.int)) (h0 : 0 ≤ i) (h1 : i < ms.length) (q : ∀ z, ms[i.toNat]? = some z → Q (.int z) H) : rIxL K (.ref p) (.int i) H Q := by
  obtain ⟨v, e1, e2⟩ := at_lt (xs := ms.map V.int) h0 (by rw [List.length_map]; exact h1)
  obtain ⟨z, e, e3⟩ := ints_at e2
  subst e
  exact i_ixL h e1 (q z e3)
theorem i_ixG (h : SqL K H p xs) (h0 : 0 ≤ i) (h1 : i < xs.length) (q : ∀ v, xs[i.toNat]? = some v → Q v H) : rIxL K (.ref p) (.int i) H Q := by
  obtain ⟨v, e1, e2⟩ := at_lt h0 h1
  exact i_ixL h e1 (q v e2)
theorem i_sum (h : SqL K H p (ns.map V.int)) (q : Q (.int ns.sum) H) : rSum K [.ref p] H Q := ⟨p, ns, rfl, h, q⟩
theorem i_slToM (h : SqL K H p (ms.map V.int)) (h0 : 0 ≤ k) (q : ∀ p', H p' = none → Q (.ref p') (upd H p' (.lst ((ms.take k.toNat).map V.int)))) : rSlL K (.ref p) none (some k) H Q := i_slTo h h0 (by rw [← List.map_take]; exact q)
theorem i_slFromM (h : SqL K H p (ms.map V.int)) (h0 : 0 ≤ k) (q : ∀ p', H p' = none → Q (.ref p') (upd H p' (.lst ((ms.drop k.toNat).map V.int)))) : rSlL K (.ref p) (some k) none H Q := i_slFrom h h0 (by rw [← List.map_drop]; exact q)
theorem i_slMidM (h : SqL K H p (ms.map V.int)) (h0 : 0 ≤ j) (h1 : 0 ≤ k) (q : ∀ p', H p' = none → Q (.ref p') (upd H p' (.lst (((ms.drop j.toNat).take (k.toNat - j.toNat)).map V.int)))) : rSlL K (.ref p) (some j) (some k) H Q := i_slMid h h0 h1 (by rw [← List.map_drop, ← List.map_take]; exact q)
theorem i_catM (h1 : H p = some (.lst (ms.map V.int))) (h2 : H r = some (.lst (ns.map V.int))) (hz : ms.length + ns.length ≤ 1000000) (q : ∀ p', H p' = none → Q (.ref p') (upd H p' (.lst ((ms ++ ns).map V.int)))) : rCat (.ref p) (.ref r) H Q :=
  i_cat h1 h2 (sz4 (by rw [List.length_map, List.length_map]; exact hz)) (by rw [← List.map_append]; exact q)
theorem i_repM {x : Int} (h1 : H p = some (.lst [.int x])) (h2 : 0 ≤ k ∧ k ≤ 1000000) (q : ∀ p', H p' = none → Q (.ref p') (upd H p' (.lst ((List.replicate k.toNat x).map V.int)))) : rRep (.ref p) (.int k) H Q :=
  i_rep1 h1 h2 (by rw [← List.map_replicate]; exact q)
theorem eqvAll_ints : ∀ ms ns : List Int, PyData.eqvAll (ms.map PyData.int) (ns.map PyData.int) = decide (ms = ns)
  | [], [] => by simp [PyData.eqvAll]
  | [], _ :: _ => by simp [PyData.eqvAll]
  | _ :: _, [] => by simp [PyData.eqvAll]
  | m :: ms, n :: ns => by
    rw [List.map_cons, List.map_cons, PyData.eqvAll, eqvAll_ints ms ns, PyData.eqv]
    by_cases h : m = n
    · subst h
      simp
    · simp [h]
theorem canLay_ints : ∀ ms : List Int, PyData.canLayAll0 (ms.map PyData.int) = true
  | [] => by simp [PyData.canLayAll0]
  | m :: ms => by
    rw [List.map_cons, PyData.canLayAll0, canLay_ints ms]
    simp [PyData.canLay0]
theorem depth_ints : ∀ ms : List Int, PyData.depthAll (ms.map PyData.int) ≤ 1
  | [] => by simp [PyData.depthAll]
  | m :: ms => by
    have := depth_ints ms
    rw [List.map_cons, PyData.depthAll]
    simp [PyData.depth]
    omega
theorem dp_ints : ∀ ms : List Int, DpAll K H (ms.map V.int) (ms.map PyData.int)
  | [] => .nil
  | m :: ms => .cons (.int m) (dp_ints ms)
theorem shaped_ints (ms : List Int) : SeqAt.shaped (.list (ms.map PyData.int)) = true := by
  unfold SeqAt.shaped
  have h1 := canLay_ints ms
  have h2 := depth_ints ms
  simp [PyData.canLay0, PyData.depth, h1]
  omega
theorem i_eqLI (h1 : SqL K H p (ms.map V.int)) (h2 : SqL K H r (ns.map V.int)) (q : Q (.bl (decide (ms = ns))) H) : rEqD K (.ref p) (.ref r) H Q :=
  ⟨_, _, .lst h1 (dp_ints ms), .lst h2 (dp_ints ns), shaped_ints ms, shaped_ints ns, by rw [PyData.eqv, eqvAll_ints]; exact q⟩
theorem i_neLI (h1 : SqL K H p (ms.map V.int)) (h2 : SqL K H r (ns.map V.int)) (q : Q (.bl (!decide (ms = ns))) H) : rNeD K (.ref p) (.ref r) H Q :=
  ⟨_, _, .lst h1 (dp_ints ms), .lst h2 (dp_ints ns), shaped_ints ms, shaped_ints ns, by rw [PyData.eqv, eqvAll_ints]; exact q⟩
theorem i_eqL0 (h1 : SqL K H p (ms.map V.int)) (h2 : SqL K H r []) (q : Q (.bl (decide (ms = []))) H) : rEqD K (.ref p) (.ref r) H Q := i_eqLI (ns := []) h1 h2 q
theorem i_eq00 (h1 : SqL K H p []) (h2 : SqL K H r []) (q : Q (.bl true) H) : rEqD K (.ref p) (.ref r) H Q := i_eqLI (ms := []) (ns := []) h1 h2 (by simpa using q)
theorem i_isn {P : Prop} (q : P) : V.non = V.non ∧ P := ⟨rfl, q⟩
theorem i_tru {P : Prop} (q : P) : True ∧ P := ⟨trivial, q⟩
theorem i_glst {m : Nat} {t : TGs} {Z : L2.St → Hp → Prop} (h : SqL K H p xs) (e : xs.length = m) (q : t xs σ H Z) : gLst K m t (.ref p) σ H Z := ⟨p, xs, rfl, h, e, q⟩
end
/-! ### comprehensions -/
section
variable {σ : L2.St} {H H1 : Hp} {Q : VK} {K : PySem.W.Frag} {D a : Addr} {wi : TI} {g : TG} {tt : TT} {te : TE} {vs : List Nat} {lo : Int} {n : Nat} {xs : List V} {Qd : Hp → Prop}
theorem i_lc (h : wi σ H fun J H1 => ∀ D, H1 D = none → ∃ W : Nat → Nat → Hp → Prop, (∃ m, W 0 m (upd H1 D (.lst []))) ∧ ∀ i m H, W i m H →
  (J.stop i H ∧ Q (.ref D) H) ∨ (J.go i H ∧ ∃ Nx : Hp → Prop, (∀ H', Nx H' → ∃ m', m' < m ∧ W (i + 1) m' H') ∧ ∀ x H', J.yld i H x H' → g x (wipe σ vs) H' fun σ2 H2 => wipe σ2 vs = wipe σ vs ∧ tt σ2 H2 fun b H3 =>
    if b = true then te σ2 H3 fun y H4 => ∃ acc, H4 D = some (.lst acc) ∧ acc.length < sizeLine ∧ Nx (upd H4 D (.lst (acc ++ [y]))) else Nx H3)) : tLc wi g tt te vs σ H Q := h
/-- the turn of a comprehension: what its target, test and element come to; Z is wanted of a kept element, Y where the test says no -/
def LcTurn (g : TG) (tt : TT) (te : TE) (vs : List Nat) (σ : L2.St) (x : V) (H : Hp) (Z : VK) (Y : Hp → Prop) : Prop :=
  g x (wipe σ vs) H fun σ2 H2 => wipe σ2 vs = wipe σ vs ∧ tt σ2 H2 fun b H3 => if b = true then te σ2 H3 Z else Y H3
/-- over a range; P: what holds behind i turns of the list made so far -/
theorem lcR (P : Nat → List V → Hp → Prop) (nD : H1 D = none) (h0 : P 0 [] (upd H1 D (.lst [])))
    (hs : ∀ i acc H (Z : VK) (Y : Hp → Prop), i < n → P i acc H → H D = some (.lst acc) → (∀ y H4, H4 D = some (.lst acc) → acc.length < sizeLine → P (i + 1) (acc ++ [y]) (upd H4 D (.lst (acc ++ [y]))) → Z y H4) →
      (∀ H4, H4 D = some (.lst acc) → P (i + 1) acc H4 → Y H4) → LcTurn g tt te vs σ (.int (lo + i)) H Z Y) (hd : ∀ acc H, P n acc H → H D = some (.lst acc) → Qd H) :
    ∃ W : Nat → Nat → Hp → Prop, (∃ m, W 0 m (upd H1 D (.lst []))) ∧ ∀ i m H, W i m H →
      ((Itr lo n).stop i H ∧ Qd H) ∨ ((Itr lo n).go i H ∧ ∃ Nx : Hp → Prop, (∀ H', Nx H' → ∃ m', m' < m ∧ W (i + 1) m' H') ∧ ∀ x H', (Itr lo n).yld i H x H' → g x (wipe σ vs) H' fun σ2 H2 => wipe σ2 vs = wipe σ vs ∧ tt σ2 H2 fun b H3 =>
        if b = true then te σ2 H3 fun y H4 => ∃ acc, H4 D = some (.lst acc) ∧ acc.length < sizeLine ∧ Nx (upd H4 D (.lst (acc ++ [y]))) else Nx H3) := by
  refine lc_range (fun i H => ∃ acc, P i acc H ∧ H D = some (.lst acc)) ⟨[], h0, upd_same⟩ (fun i H hi hp => ?_) (fun H hp => ?_)
  · obtain ⟨acc, hp, ha⟩ := hp
    exact hs i acc H _ _ hi hp ha (fun y H4 h1 h2 h3 => ⟨acc, h1, h2, _, h3, upd_same⟩) fun H4 h1 h2 => ⟨acc, h2, h1⟩
  · obtain ⟨acc, hp, ha⟩ := hp
    exact hd acc H hp ha
theorem lcL (P : Nat → List V → Hp → Prop) (nD : H1 D = none) (h0 : P 0 [] (upd H1 D (.lst []))) (hl : ∀ i acc H, i ≤ xs.length → P i acc H → H D = some (.lst acc) → SqL K H a xs)
    (hs : ∀ i x acc H (Z : VK) (Y : Hp → Prop), xs[i]? = some x → P i acc H → H D = some (.lst acc) → (∀ y H4, H4 D = some (.lst acc) → acc.length < sizeLine → P (i + 1) (acc ++ [y]) (upd H4 D (.lst (acc ++ [y]))) → Z y H4) →
      (∀ H4, H4 D = some (.lst acc) → P (i + 1) acc H4 → Y H4) → LcTurn g tt te vs σ x H Z Y) (hd : ∀ acc H, P xs.length acc H → H D = some (.lst acc) → Qd H) :
    ∃ W : Nat → Nat → Hp → Prop, (∃ m, W 0 m (upd H1 D (.lst []))) ∧ ∀ i m H, W i m H →
      ((Itl K a).stop i H ∧ Qd H) ∨ ((Itl K a).go i H ∧ ∃ Nx : Hp → Prop, (∀ H', Nx H' → ∃ m', m' < m ∧ W (i + 1) m' H') ∧ ∀ x H', (Itl K a).yld i H x H' → g x (wipe σ vs) H' fun σ2 H2 => wipe σ2 vs = wipe σ vs ∧ tt σ2 H2 fun b H3 =>
        if b = true then te σ2 H3 fun y H4 => ∃ acc, H4 D = some (.lst acc) ∧ acc.length < sizeLine ∧ Nx (upd H4 D (.lst (acc ++ [y]))) else Nx H3) := by
  refine lc_list (xs := xs) (fun i H => ∃ acc, P i acc H ∧ H D = some (.lst acc)) ⟨[], h0, upd_same⟩ (fun i H hi hp => ?_) (fun i x H hi hp => ?_) (fun H hp => ?_)
  · obtain ⟨acc, hp, ha⟩ := hp
    exact hl i acc H hi hp ha
  · obtain ⟨acc, hp, ha⟩ := hp
    exact hs i x acc H _ _ hi hp ha (fun y H4 h1 h2 h3 => ⟨acc, h1, h2, _, h3, upd_same⟩) fun H4 h1 h2 => ⟨acc, h2, h1⟩
  · obtain ⟨acc, hp, ha⟩ := hp
    exact hd acc H hp ha
/-- whole numbers, one for each turn -/
theorem lcR_int (f : Nat → Int) (nD : H1 D = none) (hn : n ≤ 1000000)
    (hs : ∀ i H (Z : VK) (Y : Hp → Prop), i < n → Same H1 H → (∀ H4, Same H H4 → Z (.int (f i)) H4) → LcTurn g tt te vs σ (.int (lo + i)) H Z Y)
    (hd : ∀ H, Same H1 H → H D = some (.lst (((List.range n).map f).map V.int)) → Qd H) :
    ∃ W : Nat → Nat → Hp → Prop, (∃ m, W 0 m (upd H1 D (.lst []))) ∧ ∀ i m H, W i m H →
      ((Itr lo n).stop i H ∧ Qd H) ∨ ((Itr lo n).go i H ∧ ∃ Nx : Hp → Prop, (∀ H', Nx H' → ∃ m', m' < m ∧ W (i + 1) m' H') ∧ ∀ x H', (Itr lo n).yld i H x H' → g x (wipe σ vs) H' fun σ2 H2 => wipe σ2 vs = wipe σ vs ∧ tt σ2 H2 fun b H3 =>
        if b = true then te σ2 H3 fun y H4 => ∃ acc, H4 D = some (.lst acc) ∧ acc.length < sizeLine ∧ Nx (upd H4 D (.lst (acc ++ [y]))) else Nx H3) := by
  refine lcR (fun i acc H => i ≤ n ∧ acc = ((List.range i).map f).map V.int ∧ Same H1 H) nD ⟨Nat.zero_le _, rfl, Same.new nD⟩ ?_ ?_
  · rintro i acc H Z Y hi ⟨_, rfl, hsame⟩ ha hz _
    refine hs i H Z Y hi hsame fun H4 h4 => hz _ H4 (h4 _ _ ha) (sz4' (by simp; omega)) ⟨hi, ?_, Same.mut (hsame.trans h4) nD⟩
    rw [List.range_succ, List.map_append, List.map_append]
    rfl
  · rintro acc H ⟨_, rfl, hsame⟩ ha
    exact hd H hsame ha
theorem lcL_int (f : Nat → Int) (nD : H1 D = none) (hn : xs.length ≤ 1000000) (hx : SqL K H1 a xs)
    (hs : ∀ i x H (Z : VK) (Y : Hp → Prop), xs[i]? = some x → Same H1 H → (∀ H4, Same H H4 → Z (.int (f i)) H4) → LcTurn g tt te vs σ x H Z Y)
    (hd : ∀ H, Same H1 H → H D = some (.lst (((List.range xs.length).map f).map V.int)) → Qd H) :
    ∃ W : Nat → Nat → Hp → Prop, (∃ m, W 0 m (upd H1 D (.lst []))) ∧ ∀ i m H, W i m H →
      ((Itl K a).stop i H ∧ Qd H) ∨ ((Itl K a).go i H ∧ ∃ Nx : Hp → Prop, (∀ H', Nx H' → ∃ m', m' < m ∧ W (i + 1) m' H') ∧ ∀ x H', (Itl K a).yld i H x H' → g x (wipe σ vs) H' fun σ2 H2 => wipe σ2 vs = wipe σ vs ∧ tt σ2 H2 fun b H3 =>
        if b = true then te σ2 H3 fun y H4 => ∃ acc, H4 D = some (.lst acc) ∧ acc.length < sizeLine ∧ Nx (upd H4 D (.lst (acc ++ [y]))) else Nx H3) := by
  refine lcL (xs := xs) (fun i acc H => i ≤ xs.length ∧ acc = ((List.range i).map f).map V.int ∧ Same H1 H) nD ⟨Nat.zero_le _, rfl, Same.new nD⟩ (fun i acc H _ hp _ => hp.2.2.seq hx) ?_ ?_
  · rintro i x acc H Z Y hi ⟨_, rfl, hsame⟩ ha hz _
    have hi' : i < xs.length := (List.getElem?_eq_some_iff.mp hi).1
    refine hs i x H Z Y hi hsame fun H4 h4 => hz _ H4 (h4 _ _ ha) (sz4' (by simp; omega)) ⟨hi', ?_, Same.mut (hsame.trans h4) nD⟩
    rw [List.range_succ, List.map_append, List.map_append]
    rfl
  · rintro acc H ⟨_, rfl, hsame⟩ ha
    exact hd H hsame ha
/-- over a range, kept where b says so -/
theorem lcR_fil (b : Nat → Bool) (f : Nat → Int) (nD : H1 D = none) (hn : n ≤ 1000000)
    (hs : ∀ i H (Z : VK) (Y : Hp → Prop), i < n → Same H1 H → (b i = true → ∀ H4, Same H H4 → Z (.int (f i)) H4) → (b i = false → ∀ H4, Same H H4 → Y H4) → LcTurn g tt te vs σ (.int (lo + i)) H Z Y)
    (hd : ∀ H, Same H1 H → H D = some (.lst ((((List.range n).filter b).map f).map V.int)) → Qd H) :
    ∃ W : Nat → Nat → Hp → Prop, (∃ m, W 0 m (upd H1 D (.lst []))) ∧ ∀ i m H, W i m H →
      ((Itr lo n).stop i H ∧ Qd H) ∨ ((Itr lo n).go i H ∧ ∃ Nx : Hp → Prop, (∀ H', Nx H' → ∃ m', m' < m ∧ W (i + 1) m' H') ∧ ∀ x H', (Itr lo n).yld i H x H' → g x (wipe σ vs) H' fun σ2 H2 => wipe σ2 vs = wipe σ vs ∧ tt σ2 H2 fun b H3 =>
        if b = true then te σ2 H3 fun y H4 => ∃ acc, H4 D = some (.lst acc) ∧ acc.length < sizeLine ∧ Nx (upd H4 D (.lst (acc ++ [y]))) else Nx H3) := by
  refine lcR (fun i acc H => i ≤ n ∧ acc = (((List.range i).filter b).map f).map V.int ∧ Same H1 H) nD ⟨Nat.zero_le _, rfl, Same.new nD⟩ ?_ ?_
  · rintro i acc H Z Y hi ⟨_, rfl, hsame⟩ ha hz hy
    refine hs i H Z Y hi hsame (fun hb H4 h4 => hz _ H4 (h4 _ _ ha) (sz4' ?_) ⟨hi, ?_, Same.mut (hsame.trans h4) nD⟩) (fun hb H4 h4 => hy H4 (h4 _ _ ha) ⟨hi, ?_, hsame.trans h4⟩)
    · have := List.length_filter_le b (List.range i)
      rw [List.length_range] at this
      simp only [List.length_map]
      omega
    · rw [List.range_succ, List.filter_append, List.map_append, List.map_append, List.filter_cons, if_pos hb]
      rfl
    · rw [List.range_succ, List.filter_append, List.map_append, List.map_append, List.filter_cons, if_neg (by rw [hb]; exact Bool.false_ne_true)]
      simp
  · rintro acc H ⟨_, rfl, hsame⟩ ha
    exact hd H hsame ha
/-- over a list, nothing kept -/
theorem lcL_nil (nD : H1 D = none) (hx : SqL K H1 a xs)
    (hs : ∀ (i : Nat) (x : V) H (Z : VK) (Y : Hp → Prop), xs[i]? = some x → Same H1 H → (∀ H4, Same H H4 → Y H4) → LcTurn g tt te vs σ x H Z Y)
    (hd : ∀ H, Same H1 H → H D = some (.lst []) → Qd H) :
    ∃ W : Nat → Nat → Hp → Prop, (∃ m, W 0 m (upd H1 D (.lst []))) ∧ ∀ i m H, W i m H →
      ((Itl K a).stop i H ∧ Qd H) ∨ ((Itl K a).go i H ∧ ∃ Nx : Hp → Prop, (∀ H', Nx H' → ∃ m', m' < m ∧ W (i + 1) m' H') ∧ ∀ x H', (Itl K a).yld i H x H' → g x (wipe σ vs) H' fun σ2 H2 => wipe σ2 vs = wipe σ vs ∧ tt σ2 H2 fun b H3 =>
        if b = true then te σ2 H3 fun y H4 => ∃ acc, H4 D = some (.lst acc) ∧ acc.length < sizeLine ∧ Nx (upd H4 D (.lst (acc ++ [y]))) else Nx H3) := by
  refine lcL (xs := xs) (fun i acc H => acc = [] ∧ Same H1 H) nD ⟨rfl, Same.new nD⟩ (fun i acc H _ hp _ => hp.2.seq hx) ?_ ?_
  · rintro i x acc H Z Y hi ⟨rfl, hsame⟩ ha _ hy
    exact hs i x H Z Y hi hsame fun H4 h4 => hy H4 (h4 _ _ ha) ⟨rfl, hsame.trans h4⟩
  · rintro acc H ⟨rfl, hsame⟩ ha
    exact hd H hsame ha
/-- over a list, a value for each, from the turn's number -/
theorem lcL_v (f : Nat → V) (nD : H1 D = none) (hn : xs.length ≤ 1000000) (hx : SqL K H1 a xs)
    (hs : ∀ (i : Nat) (x : V) H (Z : VK) (Y : Hp → Prop), xs[i]? = some x → Same H1 H → (∀ H4, Same H H4 → Z (f i) H4) → LcTurn g tt te vs σ x H Z Y)
    (hd : ∀ H, Same H1 H → H D = some (.lst ((List.range xs.length).map f)) → Qd H) :
    ∃ W : Nat → Nat → Hp → Prop, (∃ m, W 0 m (upd H1 D (.lst []))) ∧ ∀ i m H, W i m H →
      ((Itl K a).stop i H ∧ Qd H) ∨ ((Itl K a).go i H ∧ ∃ Nx : Hp → Prop, (∀ H', Nx H' → ∃ m', m' < m ∧ W (i + 1) m' H') ∧ ∀ x H', (Itl K a).yld i H x H' → g x (wipe σ vs) H' fun σ2 H2 => wipe σ2 vs = wipe σ vs ∧ tt σ2 H2 fun b H3 =>
        if b = true then te σ2 H3 fun y H4 => ∃ acc, H4 D = some (.lst acc) ∧ acc.length < sizeLine ∧ Nx (upd H4 D (.lst (acc ++ [y]))) else Nx H3) := by
  refine lcL (xs := xs) (fun i acc H => i ≤ xs.length ∧ acc = (List.range i).map f ∧ Same H1 H) nD ⟨Nat.zero_le _, rfl, Same.new nD⟩ (fun i acc H _ hp _ => hp.2.2.seq hx) ?_ ?_
  · rintro i x acc H Z Y hi ⟨_, rfl, hsame⟩ ha hz _
    have hi' : i < xs.length := (List.getElem?_eq_some_iff.mp hi).1
    refine hs i x H Z Y hi hsame fun H4 h4 => hz _ H4 (h4 _ _ ha) (sz4' (by simp; omega)) ⟨hi', ?_, Same.mut (hsame.trans h4) nD⟩
    rw [List.range_succ, List.map_append]
    rfl
  · rintro acc H ⟨_, rfl, hsame⟩ ha
    exact hd H hsame ha
/-- over a list, truths all true -/
theorem lcL_all (nD : H1 D = none) (hn : xs.length ≤ 1000000) (hx : SqL K H1 a xs)
    (hs : ∀ (i : Nat) (x : V) H (Z : VK) (Y : Hp → Prop), xs[i]? = some x → Same H1 H → (∀ H4, Same H H4 → Z (.bl true) H4) → LcTurn g tt te vs σ x H Z Y)
    (hd : ∀ H, Same H1 H → SqL K H D ((List.replicate xs.length true).map V.bl) → Qd H) :
    ∃ W : Nat → Nat → Hp → Prop, (∃ m, W 0 m (upd H1 D (.lst []))) ∧ ∀ i m H, W i m H →
      ((Itl K a).stop i H ∧ Qd H) ∨ ((Itl K a).go i H ∧ ∃ Nx : Hp → Prop, (∀ H', Nx H' → ∃ m', m' < m ∧ W (i + 1) m' H') ∧ ∀ x H', (Itl K a).yld i H x H' → g x (wipe σ vs) H' fun σ2 H2 => wipe σ2 vs = wipe σ vs ∧ tt σ2 H2 fun b H3 =>
        if b = true then te σ2 H3 fun y H4 => ∃ acc, H4 D = some (.lst acc) ∧ acc.length < sizeLine ∧ Nx (upd H4 D (.lst (acc ++ [y]))) else Nx H3) := by
  refine lcL_v (fun _ => .bl true) nD hn hx hs fun H hs' h => hd H hs' (.of ?_)
  rw [h, List.map_const', List.length_range, List.map_replicate]
theorem i_all {H : Hp} {Q : VK} {p : Addr} {m : Nat} (h : SqL K H p ((List.replicate m true).map V.bl)) (q : Q (.bl true) H) : rAll K [.ref p] H Q := by
  refine ⟨p, _, rfl, h, ?_⟩
  have e : (List.replicate m true).all id = true := by
    rw [List.all_eq_true]
    intro x hx
    rw [(List.mem_replicate.mp hx).2]
    rfl
  rw [e]
  exact q
theorem i_min {H : Hp} {Q : VK} {p : Addr} {ns : List Int} (h : SqL K H p (ns.map V.int)) (h0 : 0 < ns.length) (q : ∀ m, m ∈ ns → (∀ y, y ∈ ns → m ≤ y) → Q (.int m) H) : rMin K [.ref p] H Q := ⟨p, ns, rfl, h, h0, q⟩
theorem i_max {H : Hp} {Q : VK} {p : Addr} {ns : List Int} (h : SqL K H p (ns.map V.int)) (h0 : 0 < ns.length) (q : ∀ m, m ∈ ns → (∀ y, y ∈ ns → y ≤ m) → Q (.int m) H) : rMax K [.ref p] H Q := ⟨p, ns, rfl, h, h0, q⟩
theorem i_yes {P : Bool → Hp → Prop} (q : P true H) : tYes σ H P := q
theorem i_wipe {A : Prop} {σ2 : L2.St} (e : wipe σ2 vs = wipe σ vs) (q : A) : wipe σ2 vs = wipe σ vs ∧ A := ⟨e, q⟩
theorem i_turn {x : V} {Z : VK} {Y : Hp → Prop} {σ1 : L2.St} (e : wipe σ vs = σ1) (h : g x σ1 H fun σ2 H2 => wipe σ2 vs = σ1 ∧ tt σ2 H2 fun b H3 => if b = true then te σ2 H3 Z else Y H3) : LcTurn g tt te vs σ x H Z Y := by
  subst e
  exact h
theorem i_wiped {A : Prop} {σ1 σ2 : L2.St} (e : wipe σ2 vs = σ1) (q : A) : wipe σ2 vs = σ1 ∧ A := ⟨e, q⟩
end
theorem ixN_nn {n : Nat} {i : Int} (h0 : 0 ≤ i) (h1 : i < n) : ixN n i = some i.toNat := by
  unfold ixN
  rw [if_pos h0, if_pos h1]
theorem ixN_last {n : Nat} (h : 0 < n) : ixN n (-1) = some (n - 1) := by
  unfold ixN
  rw [if_neg (by decide), if_pos (by omega)]
  congr 1
  omega
theorem i_ixLast {K : PySem.W.Frag} {H : Hp} {p : Addr} {ms : List Int} {Q : VK} (h : SqL K H p (ms.map V.int)) (h1 : 0 < ms.length) (q : ∀ z, ms[ms.length - 1]? = some z → Q (.int z) H) : rIxL K (.ref p) (.int (-1)) H Q := by
  have e : ms[ms.length - 1]? = some ms[ms.length - 1] := List.getElem?_eq_getElem (by omega)
  refine ⟨p, _, -1, .int ms[ms.length - 1], rfl, rfl, h, ?_, q _ e⟩
  unfold atI
  rw [List.length_map, ixN_last h1, Option.bind_some, List.getElem?_map, e]
  rfl
theorem cut_init {xs : List V} : cutV xs none (some (-1)) = xs.dropLast := by
  unfold cutV
  rw [HT.sIx_none, List.drop_zero, Nat.sub_zero]
  have e : HT.sIx xs.length xs.length (some (-1)) = xs.length - 1 := by
    unfold HT.sIx
    simp
    omega
  rw [e, List.dropLast_eq_take]
theorem i_slInitM {K : PySem.W.Frag} {H : Hp} {p : Addr} {ms : List Int} {Q : VK} (h : SqL K H p (ms.map V.int)) (q : ∀ p', H p' = none → Q (.ref p') (upd H p' (.lst (ms.dropLast.map V.int)))) : rSlL K (.ref p) none (some (-1)) H Q := ⟨p, _, rfl, h, by rw [cut_init, ← List.map_dropLast]; exact q⟩
theorem i_setLast {H : Hp} {p : Addr} {ms : List Int} {z : Int} {Z : Hp → Prop} (h : H p = some (.lst (ms.map V.int))) (h1 : 0 < ms.length) (q : Z (upd H p (.lst ((ms.set (ms.length - 1) z).map V.int)))) : rSetL (.ref p) (.int (-1)) (.int z) H Z :=
  ⟨p, _, -1, ms.length - 1, rfl, rfl, h, by rw [List.length_map]; exact ixN_last h1, by rw [← List.map_set]; exact q⟩
theorem i_catM1 {H : Hp} {p r : Addr} {ms : List Int} {y : Int} {Q : VK} (h1 : H p = some (.lst (ms.map V.int))) (h2 : H r = some (.lst [.int y])) (hz : ms.length + 1 ≤ 1000000) (q : ∀ p', H p' = none → Q (.ref p') (upd H p' (.lst ((ms ++ [y]).map V.int)))) : rCat (.ref p) (.ref r) H Q := i_catM (ns := [y]) h1 h2 hz q
theorem fil_last (b : Nat → Bool) : ∀ n, (List.range n).filter b = [] ∨ ∃ k, k < n ∧ b k = true ∧ (∀ j, k < j → j < n → b j = false) ∧ ((List.range n).filter b)[((List.range n).filter b).length - 1]? = some k
  | 0 => .inl rfl
  | n + 1 => by
    rw [List.range_succ, List.filter_append]
    cases e : b n with
    | true =>
      refine .inr ⟨n, by omega, e, fun j h1 h2 => by omega, ?_⟩
      have : List.filter b [n] = [n] := by simp [e]
      rw [this, List.length_append]
      simp
    | false =>
      have : List.filter b [n] = [] := by simp [e]
      rw [this, List.append_nil]
      rcases fil_last b n with h | ⟨k, h1, h2, h3, h4⟩
      · exact .inl h
      · refine .inr ⟨k, by omega, h2, fun j g1 g2 => ?_, h4⟩
        by_cases c : j = n
        · subst c; exact e
        · exact h3 j g1 (by omega)
theorem fil_none {b : Nat → Bool} {n : Nat} (h : (List.range n).filter b = []) {j : Nat} (hj : j < n) : b j = false := by
  have := List.filter_eq_nil_iff.mp h j (List.mem_range.mpr hj)
  simpa using this
theorem i_reverse {H : Hp} {p : Addr} {ms : List Int} {Q : VK} (h : H p = some (.lst (ms.map V.int))) (q : Q .non (upd H p (.lst (ms.reverse.map V.int)))) : rReverse (.ref p) [] H Q := ⟨p, _, rfl, rfl, h, by rw [← List.map_reverse]; exact q⟩
theorem i_ne00 {K : PySem.W.Frag} {H : Hp} {Q : VK} {p r : Addr} (h1 : SqL K H p []) (h2 : SqL K H r []) (q : Q (.bl false) H) : rNeD K (.ref p) (.ref r) H Q := i_neLI (ms := []) (ns := []) h1 h2 (by simpa using q)
theorem i_min2 {K : Prop} {R : Int → Int → Prop} {i j : Int} (q : R i j) : ∃ i' j', [V.int i, V.int j] = [.int i', .int j'] ∧ R i' j' := ⟨i, j, rfl, q⟩
theorem i_setM {H : Hp} {p : Addr} {ms : List Int} {i z : Int} {Z : Hp → Prop} (h : H p = some (.lst (ms.map V.int))) (h0 : 0 ≤ i) (h1 : i < ms.length) (q : Z (upd H p (.lst ((ms.set i.toNat z).map V.int)))) : rSetL (.ref p) (.int i) (.int z) H Z :=
  ⟨p, _, i, i.toNat, rfl, rfl, h, ixN_nn h0 (by rw [List.length_map]; exact h1), by rw [← List.map_set]; exact q⟩
/-! ### the rules that name the written part, K told -/
def rListOf (K : PySem.W.Frag) : List V → Hp → VK → Prop := fun xs H Q => ∃ p ys, xs = [V.ref p] ∧ (SqL K H p ys ∨ SqT K H p ys) ∧ ∀ l, H l = none → Q (.ref l) (upd H l (.lst ys))
def rTupleOf (K : PySem.W.Frag) : List V → Hp → VK → Prop := fun xs H Q => ∃ p ys, xs = [V.ref p] ∧ ((SqL K H p ys ∧ ∀ l, H l = none → Q (.ref l) (upd H l (.tup ys))) ∨ (SqT K H p ys ∧ Q (.ref p) H))
section
variable {X : Cx} (K : PySem.W.Frag) (e : X.K = K)
include e
theorem sl_listK : SlR X (rSlL K) := by subst e; exact sl_list
theorem sl_tupK : SlR X (rSlA K) := by subst e; exact sl_tupA
theorem ix_listK : IxR X (rIxL K) := by subst e; exact ix_list
theorem ix_tupK : IxR X (rIxT K) := by subst e; exact ix_tup
theorem ix_seqK : IxR X (rIx K) := by subst e; exact ix_seq
theorem call_lenK : CallR X (.builtin "len") (rLenA K) := by subst e; exact call_lenA
theorem cr_sumK (hc : X.calm = true) : CallR X (.builtin "sum") (rSum K) := by subst e; exact cr_sum hc
theorem cr_minK (hc : X.calm = true) : CallR X (.builtin "min") (rMin K) := by subst e; exact cr_min hc
theorem cr_maxK (hc : X.calm = true) : CallR X (.builtin "max") (rMax K) := by subst e; exact cr_max hc
theorem cr_anyK (hc : X.calm = true) : CallR X (.builtin "any") (rAny K) := by subst e; exact cr_any hc
theorem cr_allK (hc : X.calm = true) : CallR X (.builtin "all") (rAll K) := by subst e; exact cr_all hc
theorem call_isiK' : CallR X (.builtin "isinstance") (rIsi K) := by subst e; exact call_isi
theorem call_listK : CallR X (.type "list") (rListOf K) := by subst e; exact call_list_of
theorem call_tupleK : CallR X (.type "tuple") (rTupleOf K) := by subst e; exact call_tuple_of
theorem op_eqDK (hu : X.A.units + 64 < cLine) : OpR X (compareOp .Eq) (rEqD K) := by subst e; exact op_eqD hu
theorem op_neDK (hu : X.A.units + 64 < cLine) : OpR X (compareOp .NotEq) (rNeD K) := by subst e; exact op_neD hu
theorem op_ltTK (hu : X.A.units < cLine) : OpR X (compareOp .Lt) (rLtT K) := by subst e; exact op_ltT hu
theorem op_catTK : OpR X (binaryOp .Add) (rCatT K) := by subst e; exact op_catT
theorem op_inK : OpR X (compareOp .In) (rIn K false) := by subst e; exact op_in_seq
theorem op_notInK : OpR X (compareOp .NotIn) (rIn K true) := by subst e; exact op_notIn_seq
theorem pi_listK {tg l : Expr} {tl : TE} (hl : PE X l tl) : PI X tg l (iList K tl) := by subst e; exact pi_list hl
theorem pi_tupK {tg l : Expr} {tl : TE} (hl : PE X l tl) : PI X tg l (iTup K tl) := by subst e; exact pi_tup hl
theorem pg_tupK {es : List Expr} {k : Nat} {t : TGs} {pos : Pos} (n : Nat) (hc : X.calm = true) (h : PGs X es t) (hn : (assignEach es X.env).length = n := by rfl) (hst : (assignEach es X.env).findIdx? (·.1) = none := by rfl) : PG X (.Tuple es k pos) (gTup K n t) := by subst e; exact pg_tup hc h hn hst
theorem pg_lstK {es : List Expr} {k : Nat} {t : TGs} {pos : Pos} (n : Nat) (hc : X.calm = true) (h : PGs X es t) (hn : (assignEach es X.env).length = n := by rfl) (hst : (assignEach es X.env).findIdx? (·.1) = none := by rfl) : PG X (.Tuple es k pos) (gLst K n t) := by subst e; exact pg_lst hc h hn hst
end
section
variable {H : Hp} {Q : VK} {K : PySem.W.Frag} {p : Addr} {xs : List V}
theorem i_listOf (h : SqL K H p xs) (q : ∀ l, H l = none → Q (.ref l) (upd H l (.lst xs))) : rListOf K [.ref p] H Q := ⟨p, xs, rfl, .inl h, q⟩
theorem i_listOfT (h : SqT K H p xs) (q : ∀ l, H l = none → Q (.ref l) (upd H l (.lst xs))) : rListOf K [.ref p] H Q := ⟨p, xs, rfl, .inr h, q⟩
end
theorem wipe_one {σ σ1 : L2.St} {k : Nat} (e : List.set σ k none = σ1) : wipe σ [k] = σ1 := e
theorem wipe_two {σ σ1 σ2 : L2.St} {j k : Nat} (e : List.set σ k none = σ1) (e2 : List.set σ1 j none = σ2) : wipe σ [j, k] = σ2 := by
  show List.set (List.set σ k none) j none = σ2
  rw [e, e2]
theorem wipe_three {σ σ1 σ2 σ3 : L2.St} {i j k : Nat} (e : List.set σ k none = σ1) (e2 : List.set σ1 j none = σ2) (e3 : List.set σ2 i none = σ3) : wipe σ [i, j, k] = σ3 := by
  show List.set (List.set (List.set σ k none) j none) i none = σ3
  rw [e, e2, e3]
/-- the heap is let go of but for what stood at first -/
theorem forget {P : Hp → Prop} {H H1 : Hp} (s : Same H H1) (h : ∀ H', Same H H' → P H') : P H1 := h H1 s
/-- the scope of a comprehension in a comprehension -/
def relS (scope sc : Scope) : Scope := { scope with names := scope.names.map fun (n, k) => if (k == .free && sc.kind == .function && sc.names.lookup n == some .cell) then (n, .cell) else (n, k) }
/-! ### a slot set, by its number -/
theorem set_n0 {α : Type} {y x0 : α} {r : List α} : List.set (x0 :: r) 0 y = y :: r := rfl
theorem set_n1 {α : Type} {y x0 x1 : α} {r : List α} : List.set (x0 :: x1 :: r) 1 y = x0 :: y :: r := rfl
theorem set_n2 {α : Type} {y x0 x1 x2 : α} {r : List α} : List.set (x0 :: x1 :: x2 :: r) 2 y = x0 :: x1 :: y :: r := rfl
theorem set_n3 {α : Type} {y x0 x1 x2 x3 : α} {r : List α} : List.set (x0 :: x1 :: x2 :: x3 :: r) 3 y = x0 :: x1 :: x2 :: y :: r := rfl
theorem set_n4 {α : Type} {y x0 x1 x2 x3 x4 : α} {r : List α} : List.set (x0 :: x1 :: x2 :: x3 :: x4 :: r) 4 y = x0 :: x1 :: x2 :: x3 :: y :: r := rfl
theorem set_n5 {α : Type} {y x0 x1 x2 x3 x4 x5 : α} {r : List α} : List.set (x0 :: x1 :: x2 :: x3 :: x4 :: x5 :: r) 5 y = x0 :: x1 :: x2 :: x3 :: x4 :: y :: r := rfl
theorem set_n6 {α : Type} {y x0 x1 x2 x3 x4 x5 x6 : α} {r : List α} : List.set (x0 :: x1 :: x2 :: x3 :: x4 :: x5 :: x6 :: r) 6 y = x0 :: x1 :: x2 :: x3 :: x4 :: x5 :: y :: r := rfl
theorem set_n7 {α : Type} {y x0 x1 x2 x3 x4 x5 x6 x7 : α} {r : List α} : List.set (x0 :: x1 :: x2 :: x3 :: x4 :: x5 :: x6 :: x7 :: r) 7 y = x0 :: x1 :: x2 :: x3 :: x4 :: x5 :: x6 :: y :: r := rfl
theorem set_n8 {α : Type} {y x0 x1 x2 x3 x4 x5 x6 x7 x8 : α} {r : List α} : List.set (x0 :: x1 :: x2 :: x3 :: x4 :: x5 :: x6 :: x7 :: x8 :: r) 8 y = x0 :: x1 :: x2 :: x3 :: x4 :: x5 :: x6 :: x7 :: y :: r := rfl
theorem set_n9 {α : Type} {y x0 x1 x2 x3 x4 x5 x6 x7 x8 x9 : α} {r : List α} : List.set (x0 :: x1 :: x2 :: x3 :: x4 :: x5 :: x6 :: x7 :: x8 :: x9 :: r) 9 y = x0 :: x1 :: x2 :: x3 :: x4 :: x5 :: x6 :: x7 :: x8 :: y :: r := rfl
theorem set_n10 {α : Type} {y x0 x1 x2 x3 x4 x5 x6 x7 x8 x9 x10 : α} {r : List α} : List.set (x0 :: x1 :: x2 :: x3 :: x4 :: x5 :: x6 :: x7 :: x8 :: x9 :: x10 :: r) 10 y = x0 :: x1 :: x2 :: x3 :: x4 :: x5 :: x6 :: x7 :: x8 :: x9 :: y :: r := rfl
theorem set_n11 {α : Type} {y x0 x1 x2 x3 x4 x5 x6 x7 x8 x9 x10 x11 : α} {r : List α} : List.set (x0 :: x1 :: x2 :: x3 :: x4 :: x5 :: x6 :: x7 :: x8 :: x9 :: x10 :: x11 :: r) 11 y = x0 :: x1 :: x2 :: x3 :: x4 :: x5 :: x6 :: x7 :: x8 :: x9 :: x10 :: y :: r := rfl
theorem set_n12 {α : Type} {y x0 x1 x2 x3 x4 x5 x6 x7 x8 x9 x10 x11 x12 : α} {r : List α} : List.set (x0 :: x1 :: x2 :: x3 :: x4 :: x5 :: x6 :: x7 :: x8 :: x9 :: x10 :: x11 :: x12 :: r) 12 y = x0 :: x1 :: x2 :: x3 :: x4 :: x5 :: x6 :: x7 :: x8 :: x9 :: x10 :: x11 :: y :: r := rfl
theorem set_n13 {α : Type} {y x0 x1 x2 x3 x4 x5 x6 x7 x8 x9 x10 x11 x12 x13 : α} {r : List α} : List.set (x0 :: x1 :: x2 :: x3 :: x4 :: x5 :: x6 :: x7 :: x8 :: x9 :: x10 :: x11 :: x12 :: x13 :: r) 13 y = x0 :: x1 :: x2 :: x3 :: x4 :: x5 :: x6 :: x7 :: x8 :: x9 :: x10 :: x11 :: x12 :: y :: r := rfl
theorem set_n14 {α : Type} {y x0 x1 x2 x3 x4 x5 x6 x7 x8 x9 x10 x11 x12 x13 x14 : α} {r : List α} : List.set (x0 :: x1 :: x2 :: x3 :: x4 :: x5 :: x6 :: x7 :: x8 :: x9 :: x10 :: x11 :: x12 :: x13 :: x14 :: r) 14 y = x0 :: x1 :: x2 :: x3 :: x4 :: x5 :: x6 :: x7 :: x8 :: x9 :: x10 :: x11 :: x12 :: x13 :: y :: r := rfl
theorem set_n15 {α : Type} {y x0 x1 x2 x3 x4 x5 x6 x7 x8 x9 x10 x11 x12 x13 x14 x15 : α} {r : List α} : List.set (x0 :: x1 :: x2 :: x3 :: x4 :: x5 :: x6 :: x7 :: x8 :: x9 :: x10 :: x11 :: x12 :: x13 :: x14 :: x15 :: r) 15 y = x0 :: x1 :: x2 :: x3 :: x4 :: x5 :: x6 :: x7 :: x8 :: x9 :: x10 :: x11 :: x12 :: x13 :: x14 :: y :: r := rfl
theorem set_n16 {α : Type} {y x0 x1 x2 x3 x4 x5 x6 x7 x8 x9 x10 x11 x12 x13 x14 x15 x16 : α} {r : List α} : List.set (x0 :: x1 :: x2 :: x3 :: x4 :: x5 :: x6 :: x7 :: x8 :: x9 :: x10 :: x11 :: x12 :: x13 :: x14 :: x15 :: x16 :: r) 16 y = x0 :: x1 :: x2 :: x3 :: x4 :: x5 :: x6 :: x7 :: x8 :: x9 :: x10 :: x11 :: x12 :: x13 :: x14 :: x15 :: y :: r := rfl
theorem set_n17 {α : Type} {y x0 x1 x2 x3 x4 x5 x6 x7 x8 x9 x10 x11 x12 x13 x14 x15 x16 x17 : α} {r : List α} : List.set (x0 :: x1 :: x2 :: x3 :: x4 :: x5 :: x6 :: x7 :: x8 :: x9 :: x10 :: x11 :: x12 :: x13 :: x14 :: x15 :: x16 :: x17 :: r) 17 y = x0 :: x1 :: x2 :: x3 :: x4 :: x5 :: x6 :: x7 :: x8 :: x9 :: x10 :: x11 :: x12 :: x13 :: x14 :: x15 :: x16 :: y :: r := rfl
theorem set_n18 {α : Type} {y x0 x1 x2 x3 x4 x5 x6 x7 x8 x9 x10 x11 x12 x13 x14 x15 x16 x17 x18 : α} {r : List α} : List.set (x0 :: x1 :: x2 :: x3 :: x4 :: x5 :: x6 :: x7 :: x8 :: x9 :: x10 :: x11 :: x12 :: x13 :: x14 :: x15 :: x16 :: x17 :: x18 :: r) 18 y = x0 :: x1 :: x2 :: x3 :: x4 :: x5 :: x6 :: x7 :: x8 :: x9 :: x10 :: x11 :: x12 :: x13 :: x14 :: x15 :: x16 :: x17 :: y :: r := rfl
theorem set_n19 {α : Type} {y x0 x1 x2 x3 x4 x5 x6 x7 x8 x9 x10 x11 x12 x13 x14 x15 x16 x17 x18 x19 : α} {r : List α} : List.set (x0 :: x1 :: x2 :: x3 :: x4 :: x5 :: x6 :: x7 :: x8 :: x9 :: x10 :: x11 :: x12 :: x13 :: x14 :: x15 :: x16 :: x17 :: x18 :: x19 :: r) 19 y = x0 :: x1 :: x2 :: x3 :: x4 :: x5 :: x6 :: x7 :: x8 :: x9 :: x10 :: x11 :: x12 :: x13 :: x14 :: x15 :: x16 :: x17 :: x18 :: y :: r := rfl
theorem set_n20 {α : Type} {y x0 x1 x2 x3 x4 x5 x6 x7 x8 x9 x10 x11 x12 x13 x14 x15 x16 x17 x18 x19 x20 : α} {r : List α} : List.set (x0 :: x1 :: x2 :: x3 :: x4 :: x5 :: x6 :: x7 :: x8 :: x9 :: x10 :: x11 :: x12 :: x13 :: x14 :: x15 :: x16 :: x17 :: x18 :: x19 :: x20 :: r) 20 y = x0 :: x1 :: x2 :: x3 :: x4 :: x5 :: x6 :: x7 :: x8 :: x9 :: x10 :: x11 :: x12 :: x13 :: x14 :: x15 :: x16 :: x17 :: x18 :: x19 :: y :: r := rfl
theorem set_n21 {α : Type} {y x0 x1 x2 x3 x4 x5 x6 x7 x8 x9 x10 x11 x12 x13 x14 x15 x16 x17 x18 x19 x20 x21 : α} {r : List α} : List.set (x0 :: x1 :: x2 :: x3 :: x4 :: x5 :: x6 :: x7 :: x8 :: x9 :: x10 :: x11 :: x12 :: x13 :: x14 :: x15 :: x16 :: x17 :: x18 :: x19 :: x20 :: x21 :: r) 21 y = x0 :: x1 :: x2 :: x3 :: x4 :: x5 :: x6 :: x7 :: x8 :: x9 :: x10 :: x11 :: x12 :: x13 :: x14 :: x15 :: x16 :: x17 :: x18 :: x19 :: x20 :: y :: r := rfl
theorem set_n22 {α : Type} {y x0 x1 x2 x3 x4 x5 x6 x7 x8 x9 x10 x11 x12 x13 x14 x15 x16 x17 x18 x19 x20 x21 x22 : α} {r : List α} : List.set (x0 :: x1 :: x2 :: x3 :: x4 :: x5 :: x6 :: x7 :: x8 :: x9 :: x10 :: x11 :: x12 :: x13 :: x14 :: x15 :: x16 :: x17 :: x18 :: x19 :: x20 :: x21 :: x22 :: r) 22 y = x0 :: x1 :: x2 :: x3 :: x4 :: x5 :: x6 :: x7 :: x8 :: x9 :: x10 :: x11 :: x12 :: x13 :: x14 :: x15 :: x16 :: x17 :: x18 :: x19 :: x20 :: x21 :: y :: r := rfl
theorem set_n23 {α : Type} {y x0 x1 x2 x3 x4 x5 x6 x7 x8 x9 x10 x11 x12 x13 x14 x15 x16 x17 x18 x19 x20 x21 x22 x23 : α} {r : List α} : List.set (x0 :: x1 :: x2 :: x3 :: x4 :: x5 :: x6 :: x7 :: x8 :: x9 :: x10 :: x11 :: x12 :: x13 :: x14 :: x15 :: x16 :: x17 :: x18 :: x19 :: x20 :: x21 :: x22 :: x23 :: r) 23 y = x0 :: x1 :: x2 :: x3 :: x4 :: x5 :: x6 :: x7 :: x8 :: x9 :: x10 :: x11 :: x12 :: x13 :: x14 :: x15 :: x16 :: x17 :: x18 :: x19 :: x20 :: x21 :: x22 :: y :: r := rfl
theorem set_n24 {α : Type} {y x0 x1 x2 x3 x4 x5 x6 x7 x8 x9 x10 x11 x12 x13 x14 x15 x16 x17 x18 x19 x20 x21 x22 x23 x24 : α} {r : List α} : List.set (x0 :: x1 :: x2 :: x3 :: x4 :: x5 :: x6 :: x7 :: x8 :: x9 :: x10 :: x11 :: x12 :: x13 :: x14 :: x15 :: x16 :: x17 :: x18 :: x19 :: x20 :: x21 :: x22 :: x23 :: x24 :: r) 24 y = x0 :: x1 :: x2 :: x3 :: x4 :: x5 :: x6 :: x7 :: x8 :: x9 :: x10 :: x11 :: x12 :: x13 :: x14 :: x15 :: x16 :: x17 :: x18 :: x19 :: x20 :: x21 :: x22 :: x23 :: y :: r := rfl
theorem set_n25 {α : Type} {y x0 x1 x2 x3 x4 x5 x6 x7 x8 x9 x10 x11 x12 x13 x14 x15 x16 x17 x18 x19 x20 x21 x22 x23 x24 x25 : α} {r : List α} : List.set (x0 :: x1 :: x2 :: x3 :: x4 :: x5 :: x6 :: x7 :: x8 :: x9 :: x10 :: x11 :: x12 :: x13 :: x14 :: x15 :: x16 :: x17 :: x18 :: x19 :: x20 :: x21 :: x22 :: x23 :: x24 :: x25 :: r) 25 y = x0 :: x1 :: x2 :: x3 :: x4 :: x5 :: x6 :: x7 :: x8 :: x9 :: x10 :: x11 :: x12 :: x13 :: x14 :: x15 :: x16 :: x17 :: x18 :: x19 :: x20 :: x21 :: x22 :: x23 :: x24 :: y :: r := rfl
theorem set_n26 {α : Type} {y x0 x1 x2 x3 x4 x5 x6 x7 x8 x9 x10 x11 x12 x13 x14 x15 x16 x17 x18 x19 x20 x21 x22 x23 x24 x25 x26 : α} {r : List α} : List.set (x0 :: x1 :: x2 :: x3 :: x4 :: x5 :: x6 :: x7 :: x8 :: x9 :: x10 :: x11 :: x12 :: x13 :: x14 :: x15 :: x16 :: x17 :: x18 :: x19 :: x20 :: x21 :: x22 :: x23 :: x24 :: x25 :: x26 :: r) 26 y = x0 :: x1 :: x2 :: x3 :: x4 :: x5 :: x6 :: x7 :: x8 :: x9 :: x10 :: x11 :: x12 :: x13 :: x14 :: x15 :: x16 :: x17 :: x18 :: x19 :: x20 :: x21 :: x22 :: x23 :: x24 :: x25 :: y :: r := rfl
theorem set_n27 {α : Type} {y x0 x1 x2 x3 x4 x5 x6 x7 x8 x9 x10 x11 x12 x13 x14 x15 x16 x17 x18 x19 x20 x21 x22 x23 x24 x25 x26 x27 : α} {r : List α} : List.set (x0 :: x1 :: x2 :: x3 :: x4 :: x5 :: x6 :: x7 :: x8 :: x9 :: x10 :: x11 :: x12 :: x13 :: x14 :: x15 :: x16 :: x17 :: x18 :: x19 :: x20 :: x21 :: x22 :: x23 :: x24 :: x25 :: x26 :: x27 :: r) 27 y = x0 :: x1 :: x2 :: x3 :: x4 :: x5 :: x6 :: x7 :: x8 :: x9 :: x10 :: x11 :: x12 :: x13 :: x14 :: x15 :: x16 :: x17 :: x18 :: x19 :: x20 :: x21 :: x22 :: x23 :: x24 :: x25 :: x26 :: y :: r := rfl
theorem set_n28 {α : Type} {y x0 x1 x2 x3 x4 x5 x6 x7 x8 x9 x10 x11 x12 x13 x14 x15 x16 x17 x18 x19 x20 x21 x22 x23 x24 x25 x26 x27 x28 : α} {r : List α} : List.set (x0 :: x1 :: x2 :: x3 :: x4 :: x5 :: x6 :: x7 :: x8 :: x9 :: x10 :: x11 :: x12 :: x13 :: x14 :: x15 :: x16 :: x17 :: x18 :: x19 :: x20 :: x21 :: x22 :: x23 :: x24 :: x25 :: x26 :: x27 :: x28 :: r) 28 y = x0 :: x1 :: x2 :: x3 :: x4 :: x5 :: x6 :: x7 :: x8 :: x9 :: x10 :: x11 :: x12 :: x13 :: x14 :: x15 :: x16 :: x17 :: x18 :: x19 :: x20 :: x21 :: x22 :: x23 :: x24 :: x25 :: x26 :: x27 :: y :: r := rfl
theorem set_n29 {α : Type} {y x0 x1 x2 x3 x4 x5 x6 x7 x8 x9 x10 x11 x12 x13 x14 x15 x16 x17 x18 x19 x20 x21 x22 x23 x24 x25 x26 x27 x28 x29 : α} {r : List α} : List.set (x0 :: x1 :: x2 :: x3 :: x4 :: x5 :: x6 :: x7 :: x8 :: x9 :: x10 :: x11 :: x12 :: x13 :: x14 :: x15 :: x16 :: x17 :: x18 :: x19 :: x20 :: x21 :: x22 :: x23 :: x24 :: x25 :: x26 :: x27 :: x28 :: x29 :: r) 29 y = x0 :: x1 :: x2 :: x3 :: x4 :: x5 :: x6 :: x7 :: x8 :: x9 :: x10 :: x11 :: x12 :: x13 :: x14 :: x15 :: x16 :: x17 :: x18 :: x19 :: x20 :: x21 :: x22 :: x23 :: x24 :: x25 :: x26 :: x27 :: x28 :: y :: r := rfl
end Hf
/-! ## Dat -/
namespace Hf
open PySem PySem.Spec PyProof.Rows L2
/-! ### nested data, each list and tuple tracked -/
mutual
inductive Dq (H : Hp) : V → PyData → Prop
  | non : Dq H .non .none
  | bl (b : Bool) : Dq H (.bl b) (.bool b)
  | int (i : Int) : Dq H (.int i) (.int i)
  | str (x : Str) : Dq H (.str x) (.str x)
  | lst {a : Addr} {xs : List V} {ds : List PyData} : H a = some (.lst xs) → DqAll H xs ds → Dq H (.ref a) (.list ds)
  | tup {a : Addr} {xs : List V} {ds : List PyData} : H a = some (.tup xs) → DqAll H xs ds → Dq H (.ref a) (.tuple ds)
inductive DqAll (H : Hp) : List V → List PyData → Prop
  | nil : DqAll H [] []
  | cons {v : V} {vs : List V} {d : PyData} {ds : List PyData} : Dq H v d → DqAll H vs ds → DqAll H (v :: vs) (d :: ds)
end
mutual
theorem Dq.same {H H' : Hp} (s : Same H H') : ∀ {v : V} {d : PyData}, Dq H v d → Dq H' v d
  | _, _, .non => .non
  | _, _, .bl b => .bl b
  | _, _, .int i => .int i
  | _, _, .str x => .str x
  | _, _, .lst h q => .lst (s _ _ h) (DqAll.same s q)
  | _, _, .tup h q => .tup (s _ _ h) (DqAll.same s q)
theorem DqAll.same {H H' : Hp} (s : Same H H') : ∀ {vs : List V} {ds : List PyData}, DqAll H vs ds → DqAll H' vs ds
  | _, _, .nil => .nil
  | _, _, .cons h q => .cons (Dq.same s h) (DqAll.same s q)
end
mutual
theorem Dq.dp {K : PySem.W.Frag} {H : Hp} : ∀ {v : V} {d : PyData}, Dq H v d → Dp K H v d
  | _, _, .non => .non
  | _, _, .bl b => .bl b
  | _, _, .int i => .int i
  | _, _, .str x => .str x
  | _, _, .lst h q => .lst (SqL.of h) (DqAll.dp q)
  | _, _, .tup h q => .tup (SqT.of h) (DqAll.dp q)
theorem DqAll.dp {K : PySem.W.Frag} {H : Hp} : ∀ {vs : List V} {ds : List PyData}, DqAll H vs ds → DpAll K H vs ds
  | _, _, .nil => .nil
  | _, _, .cons h q => .cons (Dq.dp h) (DqAll.dp q)
end
mutual
theorem Dq.eqv {H : Hp} : ∀ {v : V} {d : PyData}, Dq H v d → PyData.eqv d d = true
  | _, _, .non => by simp [PyData.eqv]
  | _, _, .bl b => by simp [PyData.eqv]
  | _, _, .int i => by simp [PyData.eqv]
  | _, _, .str x => by simp [PyData.eqv]
  | _, _, .lst _ q => by rw [PyData.eqv]; exact DqAll.eqv q
  | _, _, .tup _ q => by rw [PyData.eqv]; exact DqAll.eqv q
theorem DqAll.eqv {H : Hp} : ∀ {vs : List V} {ds : List PyData}, DqAll H vs ds → PyData.eqvAll ds ds = true
  | _, _, .nil => by simp [PyData.eqvAll]
  | _, _, .cons h q => by rw [PyData.eqvAll, Dq.eqv h, DqAll.eqv q]; rfl
end
section
variable {H : Hp} {v : V} {vs : List V} {ds : List PyData} {i : Int} {x : Str}
theorem Dq.list_inv (h : Dq H v (.list ds)) : ∃ a xs, v = .ref a ∧ H a = some (.lst xs) ∧ DqAll H xs ds := by
  cases h with
  | lst h q => exact ⟨_, _, rfl, h, q⟩
theorem Dq.tuple_inv (h : Dq H v (.tuple ds)) : ∃ a xs, v = .ref a ∧ H a = some (.tup xs) ∧ DqAll H xs ds := by
  cases h with
  | tup h q => exact ⟨_, _, rfl, h, q⟩
theorem Dq.int_inv (h : Dq H v (.int i)) : v = .int i := by
  cases h
  rfl
theorem Dq.str_inv (h : Dq H v (.str x)) : v = .str x := by
  cases h
  rfl
theorem DqAll.len : ∀ {vs : List V} {ds : List PyData}, DqAll H vs ds → vs.length = ds.length
  | _, _, .nil => rfl
  | _, _, .cons _ q => by rw [List.length_cons, List.length_cons, DqAll.len q]
theorem DqAll.get : ∀ {vs : List V} {ds : List PyData}, DqAll H vs ds → ∀ {k : Nat} {d : PyData}, ds[k]? = some d → ∃ w, vs[k]? = some w ∧ Dq H w d
  | _, _, .nil, k, d, h => by simp at h
  | _, _, .cons h _, 0, d, e => by
    rw [List.getElem?_cons_zero] at e
    cases e
    exact ⟨_, rfl, h⟩
  | _, _, .cons _ q, k + 1, d, e => by
    rw [List.getElem?_cons_succ] at e
    obtain ⟨w, h1, h2⟩ := DqAll.get q e
    exact ⟨w, by rw [List.getElem?_cons_succ]; exact h1, h2⟩
theorem DqAll.get' : ∀ {vs : List V} {ds : List PyData}, DqAll H vs ds → ∀ {k : Nat} {w : V}, vs[k]? = some w → ∃ d, ds[k]? = some d ∧ Dq H w d
  | _, _, .nil, k, d, h => by simp at h
  | _, _, .cons h _, 0, d, e => by
    rw [List.getElem?_cons_zero] at e
    cases e
    exact ⟨_, rfl, h⟩
  | _, _, .cons _ q, k + 1, d, e => by
    rw [List.getElem?_cons_succ] at e
    obtain ⟨w, h1, h2⟩ := DqAll.get' q e
    exact ⟨w, by rw [List.getElem?_cons_succ]; exact h1, h2⟩
theorem dq_ints : ∀ ms : List Int, DqAll H (ms.map V.int) (ms.map PyData.int)
  | [] => .nil
  | m :: ms => .cons (.int m) (dq_ints ms)
theorem DqAll.ints : ∀ {vs : List V} {ms : List Int}, DqAll H vs (ms.map PyData.int) → vs = ms.map V.int
  | _, [], h => by cases h; rfl
  | _, m :: ms, h => by
    cases h with
    | cons h q =>
      rw [Dq.int_inv h, DqAll.ints q]
      rfl
theorem DqAll.snoc : ∀ {vs : List V} {ds : List PyData} {w : V} {d : PyData}, DqAll H vs ds → Dq H w d → DqAll H (vs ++ [w]) (ds ++ [d])
  | _, _, _, _, .nil, h => .cons h .nil
  | _, _, _, _, .cons h q, g => .cons h (DqAll.snoc q g)
end
/-- == of nested data -/
theorem i_eqDq {K : PySem.W.Frag} {H : Hp} {Q : VK} {v w : V} {d e : PyData} (h1 : Dq H v d) (h2 : Dq H w e) (s1 : SeqAt.shaped d = true) (s2 : SeqAt.shaped e = true) (q : Q (.bl (PyData.eqv d e)) H) : rEqD K v w H Q := ⟨d, e, h1.dp, h2.dp, s1, s2, q⟩
theorem i_neDq {K : PySem.W.Frag} {H : Hp} {Q : VK} {v w : V} {d : PyData} (h1 : Dq H v d) (h2 : Dq H w d) (s1 : SeqAt.shaped d = true) (q : Q (.bl false) H) : rNeD K v w H Q := ⟨d, d, h1.dp, h2.dp, s1, s1, by
  rw [h1.eqv]
  exact q⟩

/-! ### a heap without some of its objects -/
def hid (S : List Addr) (H : Hp) : Hp := fun b => if b ∈ S then none else H b
section
variable {S : List Addr} {H H' : Hp} {a b : Addr} {o : HO}
theorem hid_in (h : a ∈ S) : hid S H a = none := if_pos h
theorem hid_out (h : a ∉ S) : hid S H a = H a := if_neg h
theorem hid_same : Same (hid S H) H := fun b o h => by
  by_cases c : b ∈ S
  · rw [hid_in c] at h
    cases h
  · rw [hid_out c] at h
    exact h
theorem hid_mono (s : Same H H') : Same (hid S H) (hid S H') := fun b o h => by
  by_cases c : b ∈ S
  · rw [hid_in c] at h
    cases h
  · rw [hid_out c] at h ⊢
    exact s b o h
theorem hid_but (ha : a ∈ S) (s : But a H H') : Same (hid S H) (hid S H') := fun b o h => by
  by_cases c : b ∈ S
  · rw [hid_in c] at h
    cases h
  · rw [hid_out c] at h ⊢
    exact s b o (fun e => c (e ▸ ha)) h
theorem hid_upd (ha : a ∈ S) : Same (hid S H) (hid S (upd H a o)) := hid_but ha (But.upd (But.refl _ _))
theorem hid_lk (h : a ∉ S) (e : H a = some o) : hid S H a = some o := by
  rw [hid_out h]
  exact e
theorem not_in2 {a b c : Addr} (h1 : a ≠ b) (h2 : a ≠ c) : a ∉ [b, c] := by
  intro h
  rcases List.mem_cons.mp h with g | g
  · exact h1 g
  · exact h2 (List.mem_singleton.mp g)
theorem not_in1 {a b : Addr} (h1 : a ≠ b) : a ∉ [b] := fun h => h1 (List.mem_singleton.mp h)
end
theorem rng_map {α β : Type} (f : Nat → β) (g : α → β) (m : List α) (h : ∀ (i : Nat) (x : α), m[i]? = some x → f i = g x) : (List.range m.length).map f = m.map g := by
  apply List.ext_getElem?
  intro i
  rw [List.getElem?_map, List.getElem?_map]
  by_cases c : i < m.length
  · rw [List.getElem?_range c, List.getElem?_eq_getElem c]
    show some (f i) = some (g m[i])
    rw [h i _ (List.getElem?_eq_getElem c)]
  · rw [List.getElem?_eq_none (by rw [List.length_range]; omega), List.getElem?_eq_none (by omega)]
    rfl
theorem take_snoc {α : Type} {m : List α} {i : Nat} {x : α} (h : m[i]? = some x) : m.take (i + 1) = m.take i ++ [x] := by
  rw [List.take_add_one, h]
  rfl
theorem same_hid1 {G H : Hp} {a : Addr} (s : Same G H) (h1 : G a = none) : Same G (hid [a] H) := fun b o e => by
  rw [hid_out (not_in1 (ne_of_none e h1))]
  exact s b o e
theorem same_hid2 {G H : Hp} {a c : Addr} (s : Same G H) (h1 : G a = none) (h2 : G c = none) : Same G (hid [a, c] H) := fun b o e => by
  rw [hid_out (not_in2 (ne_of_none e h1) (ne_of_none e h2))]
  exact s b o e
theorem But.mutD {a : Addr} {H H1 : Hp} {D : Addr} {o : HO} (hp : H D = none) (x : But a H H1) : But a H (L2.upd H1 D o) := fun b u n h => by
  rw [upd_ne (ne_of_none h hp)]
  exact x b u n h
theorem But.mutSD {a : Addr} {H H1 H2 : Hp} {D : Addr} (y : But D H1 H2) (hp : H D = none) (x : But a H H1) : But a H H2 := fun b u n h => y b u (ne_of_none h hp) (x b u n h)
theorem DqAll.reverse {H : Hp} : ∀ {vs : List V} {ds : List PyData}, DqAll H vs ds → DqAll H vs.reverse ds.reverse
  | _, _, .nil => .nil
  | _, _, .cons h q => by
    rw [List.reverse_cons, List.reverse_cons]
    exact DqAll.snoc (DqAll.reverse q) h
theorem i_reverseV {H : Hp} {p : Addr} {xs : List V} {Q : VK} (h : H p = some (.lst xs)) (q : Q .non (upd H p (.lst xs.reverse))) : rReverse (.ref p) [] H Q := ⟨p, _, rfl, rfl, h, q⟩
theorem i_revV {K : PySem.W.Frag} {xs : List V} {p : Addr} {H : Hp} {R : Addr → List V → Prop} (h : SqL K H p xs) (q : R p xs) : ∃ a xs, V.ref p = .ref a ∧ SqL K H a xs ∧ R a xs := ⟨p, _, rfl, h, q⟩
theorem i_neL2 {K : PySem.W.Frag} {H : Hp} {Q : VK} {p r : Addr} {ms : List Int} {x y : Int} (h1 : SqL K H p (ms.map V.int)) (h2 : SqL K H r [.int x, .int y]) (q : Q (.bl (!decide (ms = [x, y]))) H) : rNeD K (.ref p) (.ref r) H Q := i_neLI (ns := [x, y]) h1 h2 q
theorem pe_revLK {X : L2.Cx} (K : PySem.W.Frag) (eK : X.K = K) {e : Expr} {te : TE} {k : Nat} {p1 p2 p3 pos : Pos} (he : PE X e te) : PE X (.Subscript e (.Slice none none (some (.UnaryOp .USub (.Constant (.int 1) k p1) p2)) p3) pos) (tRevL K te) := by
  subst eK
  exact pe_revL he
theorem i_rev {K : PySem.W.Frag} {te : TE} {σ : L2.St} {H : Hp} {Q : VK} (h : te σ H fun x H1 => ∃ a xs, x = .ref a ∧ SqL K H1 a xs ∧ ∀ p, H1 p = none → Q (.ref p) (upd H1 p (.lst xs.reverse))) : tRevL K te σ H Q := h
theorem i_rev' {K : PySem.W.Frag} {ms : List Int} {p : Addr} {H : Hp} {R : Addr → List V → Prop} (h : SqL K H p (ms.map V.int)) (q : R p (ms.map V.int)) : ∃ a xs, V.ref p = .ref a ∧ SqL K H a xs ∧ R a xs := ⟨p, _, rfl, h, q⟩
theorem DqAll.take {H : Hp} : ∀ (n : Nat) {vs : List V} {ds : List PyData}, DqAll H vs ds → DqAll H (vs.take n) (ds.take n)
  | 0, _, _, _ => .nil
  | _ + 1, _, _, .nil => .nil
  | n + 1, _, _, .cons h q => .cons h (DqAll.take n q)
theorem DqAll.drop {H : Hp} : ∀ (n : Nat) {vs : List V} {ds : List PyData}, DqAll H vs ds → DqAll H (vs.drop n) (ds.drop n)
  | 0, _, _, q => q
  | _ + 1, _, _, .nil => .nil
  | n + 1, _, _, .cons _ q => DqAll.drop n q
end Hf
/-! ## Mixes -/
namespace Hf
open PySem PySem.Spec PyProof.Rows L2
/-! ### mixes -/
def planD (p : List Int) : PyData := .list (p.map PyData.int)
def partD (pw : List Int × Int) : PyData := .tuple [planD pw.1, .int pw.2]
def mixD (m : List (List Int × Int)) : PyData := .list (m.map partD)
/-- a plan of so many hosts and fields -/
def PlanC (h : Int) (n : Nat) (p : List Int) : Prop := p.length = n ∧ p.sum = h ∧ ∀ x ∈ p, 0 ≤ x
structure MixOk (h : Int) (n : Nat) (m : List (List Int × Int)) : Prop where
  ne : 1 ≤ m.length ∧ m.length ≤ 100
  fl : 1 ≤ n ∧ n ≤ 8
  ho : 0 ≤ h ∧ h ≤ 40
  pl : ∀ pw ∈ m, PlanC h n pw.1 ∧ 1 ≤ pw.2
section
variable {H : Hp} {v : V} {m : List (List Int × Int)} {xs : List V}
/-- a part: its tuple, its plan's list -/
theorem part_inv {pw : List Int × Int} (h : Dq H v (partD pw)) : ∃ t p, v = .ref t ∧ H t = some (.tup [.ref p, .int pw.2]) ∧ H p = some (.lst (pw.1.map V.int)) := by
  obtain ⟨t, xs, rfl, h1, h2⟩ := h.tuple_inv
  cases h2 with
  | cons a b =>
    cases b with
    | cons c d =>
      cases d
      obtain ⟨p, ys, rfl, h3, h4⟩ := Dq.list_inv a
      obtain rfl := Dq.int_inv c
      obtain rfl := DqAll.ints h4
      exact ⟨t, p, rfl, h1, h3⟩
theorem mix_inv (h : Dq H v (mixD m)) : ∃ a xs, v = .ref a ∧ H a = some (.lst xs) ∧ xs.length = m.length ∧ ∀ (k : Nat) (w : V), xs[k]? = some w → ∃ pw t p, m[k]? = some pw ∧ w = .ref t ∧ H t = some (.tup [.ref p, .int pw.2]) ∧ H p = some (.lst (pw.1.map V.int)) := by
  obtain ⟨a, xs, rfl, h1, h2⟩ := h.list_inv
  refine ⟨a, xs, rfl, h1, by rw [h2.len, List.length_map], fun k w hw => ?_⟩
  obtain ⟨d, e, q⟩ := h2.get' hw
  rw [List.getElem?_map] at e
  cases g : m[k]? with
  | none => rw [g] at e; cases e
  | some pw =>
    rw [g] at e
    cases e
    obtain ⟨t, p, e1, e2, e3⟩ := part_inv q
    exact ⟨pw, t, p, rfl, e1, e2, e3⟩
end
theorem shaped_mix (m : List (List Int × Int)) : SeqAt.shaped (mixD m) = true := by
  have h1 : ∀ m : List (List Int × Int), PyData.canLayAll0 (m.map partD) = true := by
    intro m
    induction m with
    | nil => simp [PyData.canLayAll0]
    | cons pw m ih =>
      rw [List.map_cons, PyData.canLayAll0, ih]
      simp [partD, planD, PyData.canLay0, PyData.canLayAll0, canLay_ints]
  have h2 : ∀ m : List (List Int × Int), PyData.depthAll (m.map partD) ≤ 3 := by
    intro m
    induction m with
    | nil => simp [PyData.depthAll]
    | cons pw m ih =>
      have := depth_ints pw.1
      rw [List.map_cons, PyData.depthAll]
      simp [partD, planD, PyData.depth, PyData.depthAll]
      omega
  unfold SeqAt.shaped
  have a := h1 m
  have b := h2 m
  simp [mixD, PyData.canLay0, PyData.depth, a]
  omega

theorem dq_mix {G H : Hp} {a : Addr} {xs : List V} {m : List (List Int × Int)} (q : DqAll G xs (m.map partD)) (h : H a = some (.lst xs)) (s : Same G H) : Dq H (.ref a) (mixD m) := .lst h (DqAll.same s q)
theorem part_mk {H : Hp} {t p : Addr} {ms : List Int} {w : Int} (h1 : H t = some (.tup [.ref p, .int w])) (h2 : H p = some (.lst (ms.map V.int))) : Dq H (.ref t) (partD (ms, w)) := .tup h1 (.cons (.lst h2 (dq_ints ms)) (.cons (.int w) .nil))
/-- a part of a mix, by its place -/
theorem part_at {G : Hp} {xs : List V} {m : List (List Int × Int)} (q : DqAll G xs (m.map partD)) {k : Nat} {w : V} (hw : xs[k]? = some w) : ∃ pw t p, m[k]? = some pw ∧ w = .ref t ∧ G t = some (.tup [.ref p, .int pw.2]) ∧ G p = some (.lst (pw.1.map V.int)) := by
  obtain ⟨d, e, q⟩ := q.get' hw
  rw [List.getElem?_map] at e
  cases g : m[k]? with
  | none => rw [g] at e; cases e
  | some pw =>
    rw [g] at e
    cases e
    obtain ⟨t, p, e1, e2, e3⟩ := part_inv q
    exact ⟨pw, t, p, rfl, e1, e2, e3⟩
def whole (m : List (List Int × Int)) : Int := (m.map Prod.snd).sum
def due : List (List Int × Int) → Int → List Int
  | [], _ => []
  | pw :: r, k => if k < pw.2 then pw.1 else due r (k - pw.2)
theorem whole_cons {pw : List Int × Int} {r : List (List Int × Int)} : whole (pw :: r) = pw.2 + whole r := by
  unfold whole
  rw [List.map_cons, List.sum_cons]
theorem whole_app {m r : List (List Int × Int)} : whole (m ++ r) = whole m + whole r := by
  unfold whole
  rw [List.map_append, List.sum_append]
theorem drop_get {α : Type} {m : List α} {i : Nat} {x : α} (h : m[i]? = some x) : m.drop i = x :: m.drop (i + 1) := by
  obtain ⟨hi, rfl⟩ := List.getElem?_eq_some_iff.mp h
  exact List.drop_eq_getElem_cons hi
theorem MixOk.len (h n) {m} (k : MixOk h n m) : 1 ≤ m.length := k.ne.1
theorem MixOk.whole_pos {h n m} (k : MixOk h n m) : (m.length : Int) ≤ whole m := by
  have : ∀ r : List (List Int × Int), (∀ pw ∈ r, 1 ≤ pw.2) → (r.length : Int) ≤ whole r := by
    intro r
    induction r with
    | nil => intro _; exact Int.le_refl _
    | cons pw r ih =>
      intro g
      have := ih fun x hx => g x (List.mem_cons_of_mem _ hx)
      have := g pw (List.mem_cons_self)
      rw [whole_cons, List.length_cons]
      omega
  exact this m fun pw hp => (k.pl pw hp).2
/-- weights of a drawn mix -/
def WtOk (m : List (List Int × Int)) : Prop := m.length ≤ 20 ∧ ∀ pw ∈ m, pw.2 ≤ 10000000000000000000000000000
theorem WtOk.le {m} (k : WtOk m) : whole m ≤ 200000000000000000000000000000 := by
  have : ∀ r : List (List Int × Int), (∀ pw ∈ r, pw.2 ≤ 10000000000000000000000000000) → whole r ≤ 10000000000000000000000000000 * (r.length : Int) := by
    intro r
    induction r with
    | nil => intro _; exact Int.le_refl _
    | cons pw r ih =>
      intro g
      have := ih fun x hx => g x (List.mem_cons_of_mem _ hx)
      have := g pw (List.mem_cons_self)
      rw [whole_cons, List.length_cons]
      omega
  have h1 := this m k.2
  have h2 := k.1
  omega
theorem whole_nn : ∀ r : List (List Int × Int), (∀ pw ∈ r, 1 ≤ pw.2) → 0 ≤ whole r := by
  intro r
  induction r with
  | nil => intro _; exact Int.le_refl _
  | cons pw r ih =>
    intro g
    have := ih fun x hx => g x (List.mem_cons_of_mem _ hx)
    have := g pw (List.mem_cons_self)
    rw [whole_cons]
    omega
theorem MixOk.at {h : Int} {n : Nat} {m : List (List Int × Int)} {i : Nat} {pw : List Int × Int} (k : MixOk h n m) (e : m[i]? = some pw) : 0 ≤ whole (m.take i) ∧ 1 ≤ pw.2 ∧ whole (m.take (i + 1)) = whole (m.take i) + pw.2 ∧ whole (m.take i) + pw.2 ≤ whole m := by
  have h1 := whole_nn (m.take i) fun x hx => (k.pl x (List.mem_of_mem_take hx)).2
  have h2 := whole_nn (m.drop (i + 1)) fun x hx => (k.pl x (List.mem_of_mem_drop hx)).2
  have h3 : whole m = whole (m.take i) + whole (m.drop i) := by rw [← whole_app, List.take_append_drop]
  rw [drop_get e, whole_cons] at h3
  have h4 := (k.pl pw (List.mem_of_getElem? e)).2
  refine ⟨h1, h4, ?_, by omega⟩
  rw [take_snoc e, whole_app]
  simp [whole]
theorem MixOk.reverse {h : Int} {n : Nat} {m : List (List Int × Int)} (k : MixOk h n m) : MixOk h n m.reverse := ⟨by rw [List.length_reverse]; exact k.ne, k.fl, k.ho, fun pw hp => k.pl pw (List.mem_reverse.mp hp)⟩
theorem whole_reverse (m : List (List Int × Int)) : whole m.reverse = whole m := by
  induction m with
  | nil => rfl
  | cons pw m ih =>
    rw [List.reverse_cons, whole_app, whole_cons, ih]
    simp [whole]
    omega
theorem due_last : ∀ (m : List (List Int × Int)) {p : List Int} {w z : Int}, (∀ pw ∈ m, 1 ≤ pw.2) → whole m ≤ z → z < whole m + w → due (m ++ [(p, w)]) z = p
  | [], p, w, z, _, h1, h2 => by
    simp [whole] at h1 h2
    show due [(p, w)] z = p
    rw [due, if_pos h2]
  | pw :: m, p, w, z, h0, h1, h2 => by
    rw [whole_cons] at h1 h2
    have := whole_nn m fun x hx => h0 x (List.mem_cons_of_mem _ hx)
    show due (pw :: (m ++ [(p, w)])) z = p
    rw [due, if_neg (by omega)]
    exact due_last m (fun x hx => h0 x (List.mem_cons_of_mem _ hx)) (by omega) (by omega)
theorem DqAll.revm {H : Hp} {vs : List V} {m : List (List Int × Int)} (q : DqAll H vs (m.map partD)) : DqAll H vs.reverse (m.reverse.map partD) := by
  rw [List.map_reverse]
  exact q.reverse
theorem dq_two {H : Hp} {a t1 t2 p1 p2 : Addr} {w1 w2 x1 y1 x2 y2 : Int} (h : H a = some (.lst [.ref t1, .ref t2])) (h1 : H t1 = some (.tup [.ref p1, .int w1])) (h2 : H t2 = some (.tup [.ref p2, .int w2])) (h3 : H p1 = some (.lst [.int x1, .int y1])) (h4 : H p2 = some (.lst [.int x2, .int y2])) : Dq H (.ref a) (mixD [([x1, y1], w1), ([x2, y2], w2)]) :=
  .lst h (.cons (part_mk h1 h3) (.cons (part_mk h2 h4) .nil))
theorem MixOk.snoc {h : Int} {n : Nat} {m : List (List Int × Int)} {p : List Int} {w : Int} (k : MixOk h n m) (hp : PlanC h n p) (hw : 1 ≤ w) (hl : m.length ≤ 50) : MixOk h n (m ++ [(p, w)]) := ⟨by simp; omega, k.fl, k.ho, fun pw hpw => by
  rcases List.mem_append.mp hpw with g | g
  · exact k.pl pw g
  · rw [List.mem_singleton.mp g]
    exact ⟨hp, hw⟩⟩
theorem due_len {k : Nat} : ∀ (m : List (List Int × Int)) (z : Int), (∀ pw ∈ m, pw.1.length ≤ k) → (due m z).length ≤ k
  | [], _, _ => Nat.zero_le _
  | pw :: m, z, h => by
    rw [due]
    split
    · exact h pw (List.mem_cons_self)
    · exact due_len m _ fun x hx => h x (List.mem_cons_of_mem _ hx)
theorem MixOk.due_len {h : Int} {n : Nat} {m : List (List Int × Int)} (k : MixOk h n m) (z : Int) : (due m z).length ≤ 8 := Hf.due_len m z fun pw hp => by
  have := (k.pl pw hp).1.1
  have := k.fl.2
  omega
end Hf
/-! ## what is new -/
namespace Hf
open PySem PySem.Spec PyProof.Rows L2
/-! ### what is new -/
/-- what stands in G does not stand in H -/
def Newly (H G : Hp) : Prop := ∀ b o, H b = some o → G b = none
/-- what stands in H' and not in H, but for S -/
def fr (S : List Addr) (H H' : Hp) : Hp := fun b => if b ∈ S then none else match H b with
  | none => H' b
  | some _ => none
section
variable {S : List Addr} {H H' H1 H2 G : Hp} {a p : Addr} {o u : HO}
theorem fr_same : Same (fr S H H') H' := fun b o h => by
  unfold fr at h
  split at h
  · cases h
  · split at h
    · exact h
    · cases h
theorem fr_newly : Newly H (fr S H H') := fun b o h => by
  unfold fr
  split
  · rfl
  · rw [h]
theorem fr_in (h : a ∈ S) : fr S H H' a = none := if_pos h
theorem fr_lk (n : a ∉ S) (h : H a = none) (e : H' a = some o) : fr S H H' a = some o := by
  unfold fr
  rw [if_neg n, h]
  exact e
theorem fr_lk0 (h : H a = none) (e : H' a = some o) : fr [] H H' a = some o := fr_lk (by simp) h e
theorem fr_lk1 (n : a ≠ p) (h : H a = none) (e : H' a = some o) : fr [p] H H' a = some o := fr_lk (not_in1 n) h e
theorem fr_lk2 {q : Addr} (n : a ≠ p) (m : a ≠ q) (h : H a = none) (e : H' a = some o) : fr [p, q] H H' a = some o := fr_lk (not_in2 n m) h e
theorem fr_mono (s : Same H1 H2) : Same (fr S H H1) (fr S H H2) := fun b o h => by
  unfold fr at h ⊢
  split
  · next c => rw [if_pos c] at h; cases h
  · next c =>
    rw [if_neg c] at h
    split
    · next c2 => rw [c2] at h; exact s _ _ h
    · next c2 => rw [c2] at h; cases h
theorem fr_sub : Same (fr S H H') (fr [] H H') := fun b o h => by
  unfold fr at h ⊢
  split at h
  · cases h
  · rw [if_neg (by simp)]
    exact h
theorem fr_but (ha : a ∈ S) (s : But a H1 H2) : Same (fr S H H1) (fr S H H2) := fun b o h => by
  unfold fr at h ⊢
  split
  · next c => rw [if_pos c] at h; cases h
  · next c =>
    rw [if_neg c] at h
    split
    · next c2 => rw [c2] at h; exact s _ _ (fun e => c (e ▸ ha)) h
    · next c2 => rw [c2] at h; cases h
theorem fr_butK (ha : H a = some o) (s : But a H1 H2) : Same (fr S H H1) (fr S H H2) := fun b u h => by
  unfold fr at h ⊢
  split
  · next c => rw [if_pos c] at h; cases h
  · next c =>
    rw [if_neg c] at h
    split
    · next c2 => rw [c2] at h; exact s _ _ (fun e => by rw [e, ha] at c2; cases c2) h
    · next c2 => rw [c2] at h; cases h
theorem fr_upd (ha : a ∈ S) : Same (fr S H H1) (fr S H (upd H1 a o)) := fr_but ha (But.upd (But.refl _ _))
/-- all of G is new, and in H' -/
theorem Newly.same (n : Newly H G) (s : Same G H') : Same G (fr [] H H') := fun b o h => by
  refine fr_lk0 ?_ (s _ _ h)
  cases e : H b with
  | none => rfl
  | some u => rw [n b u e] at h; cases h
theorem Newly.same1 (n : Newly H G) (s : Same G H') (hp : G p = none) : Same G (fr [p] H H') := fun b o h => by
  refine fr_lk1 (ne_of_none h hp) ?_ (s _ _ h)
  cases e : H b with
  | none => rfl
  | some u => rw [n b u e] at h; cases h
theorem Newly.same2 {q : Addr} (n : Newly H G) (s : Same G H') (hp : G p = none) (hq : G q = none) : Same G (fr [p, q] H H') := fun b o h => by
  refine fr_lk2 (ne_of_none h hp) (ne_of_none h hq) ?_ (s _ _ h)
  cases e : H b with
  | none => rfl
  | some u => rw [n b u e] at h; cases h
theorem Newly.free (n : Newly H G) (h : H p = some o) : G p = none := n p o h
theorem Newly.back (n : Newly H1 G) (s : Same H H1) : Newly H G := fun b o h => n b o (s b o h)
theorem Newly.backB (n : Newly H1 G) (s : But a H H1) (h : G a = none) : Newly H G := fun b o e => by
  by_cases c : b = a
  · rw [c]; exact h
  · exact n b o (s b o c e)
end
/-! ### the purse of draws: where it stands and how often it was drawn from -/
def Left (n m : Int) : Prop := m = 1 ∨ (m = 0 ∧ 0 ≤ n ∧ n < 2147483629)
def Pk (a : Addr) (m : Int) (H : Hp) (c0 : Int) : Prop := ∃ n c, H a = some (.lst [.int n, .int m, .int c]) ∧ Left n m ∧ 0 ≤ c ∧ c ≤ c0
section
variable {a b p : Addr} {m c0 c1 : Int} {H H' H1 G : Hp} {o : HO}
theorem Pk.mono (h : Pk a m H c0) (e : c0 ≤ c1) : Pk a m H c1 := by
  obtain ⟨n, c, h1, h2, h3, h4⟩ := h
  exact ⟨n, c, h1, h2, h3, by omega⟩
theorem Pk.cast (h : Pk a m H c0) (e : c0 = c1) : Pk a m H c1 := e ▸ h
theorem Pk.same (h : Pk a m H c0) (s : Same H H') : Pk a m H' c0 := by
  obtain ⟨n, c, h1, h2, h3⟩ := h
  exact ⟨n, c, s _ _ h1, h2, h3⟩
theorem Pk.new (h : Pk a m H c0) (hp : H p = none) : Pk a m (upd H p o) c0 := h.same (Same.new hp)
theorem Pk.upd (h : Pk a m H c0) (hp : p ≠ a) : Pk a m (upd H p o) c0 := by
  obtain ⟨n, c, h1, h2, h3⟩ := h
  exact ⟨n, c, by rw [upd_ne hp.symm]; exact h1, h2, h3⟩
theorem Pk.but (h : Pk a m H c0) (s : But p H H') (hp : p ≠ a) : Pk a m H' c0 := by
  obtain ⟨n, c, h1, h2, h3⟩ := h
  exact ⟨n, c, s _ _ hp.symm h1, h2, h3⟩
theorem Pk.newT (hp : H p = none) (h : Pk a m H c0) : Pk a m (L2.upd H p o) c0 := h.new hp
theorem Pk.sameT (s : Same H H') (h : Pk a m H c0) : Pk a m H' c0 := h.same s
theorem Pk.ne (n : H p = none) (h : Pk a m H c0) : p ≠ a := by
  obtain ⟨_, _, h1, _⟩ := h
  exact (ne_of_none h1 n).symm
theorem Pk.neo (n : G a = none) (h : G p = some o) : p ≠ a := ne_of_none h n
theorem Pk.some (h : Pk a m H c0) : ∃ o, H a = some o := by
  obtain ⟨_, _, h1, _⟩ := h
  exact ⟨_, h1⟩
theorem Pk.free (hn : H' p = none) (e : But a H H') (h : Pk a m H' c0) : H p = none := by
  obtain ⟨_, _, h1, _⟩ := h
  exact But.free hn e h1
theorem Newly.pk (n : Newly H G) (h : Pk a m H c0) : G a = none := by
  obtain ⟨_, _, h1, _⟩ := h
  exact n.free h1
theorem fr_butP {S : List Addr} {H2 : Hp} (h : Pk a m H c0) (s : But a H1 H2) : Same (fr S H H1) (fr S H H2) := by
  obtain ⟨_, _, h1, _⟩ := h
  exact fr_butK h1 s
theorem Newly.backP (n : Newly H1 G) (s : But a H H1) (h : Pk a m H1 c0) : Newly H G := n.backB s (n.pk h)
theorem pk_new {n z : Int} {p : Addr} (h : Left n z) : Pk p z (L2.upd H p (.lst [.int n, .int z, .int 0])) 0 := ⟨n, 0, upd_same, h, Int.le_refl _, Int.le_refl _⟩
end
/-! ### comprehensions that draw -/
section
variable {σ : L2.St} {H H1 : Hp} {Q : VK} {K : PySem.W.Frag} {D a l : Addr} {wi : TI} {g : TG} {tt : TT} {te : TE} {vs : List Nat} {lo : Int} {n : Nat} {xs : List V} {Qd : Hp → Prop}
theorem inc_snoc {c0 inc : Int} {i : Nat} : c0 + inc * (i : Int) + inc = c0 + inc * ((i + 1 : Nat) : Int) := by
  rw [show ((i + 1 : Nat) : Int) = (i : Int) + 1 from rfl, Int.mul_add, Int.mul_one]
  omega
theorem lcR_pk {m c0 : Int} (Pz : Int → Prop) (inc : Int) (hp : Pk a m H1 c0) (nD : H1 D = none) (hn : n ≤ 1000000)
    (hs : ∀ (i : Nat) H (Z : VK) (Y : Hp → Prop), i < n → Pk a m H (c0 + inc * (i : Int)) → But a H1 H → (∀ z H4, Pz z → Pk a m H4 (c0 + inc * (i : Int) + inc) → But a H H4 → Z (.int z) H4) → LcTurn g tt te vs σ (.int (lo + i)) H Z Y)
    (hd : ∀ (ms : List Int) H, ms.length = n → (∀ z ∈ ms, Pz z) → H D = some (.lst (ms.map V.int)) → Pk a m H (c0 + inc * (n : Int)) → But a H1 H → Qd H) :
    ∃ W : Nat → Nat → Hp → Prop, (∃ m, W 0 m (upd H1 D (.lst []))) ∧ ∀ i m H, W i m H →
      ((Itr lo n).stop i H ∧ Qd H) ∨ ((Itr lo n).go i H ∧ ∃ Nx : Hp → Prop, (∀ H', Nx H' → ∃ m', m' < m ∧ W (i + 1) m' H') ∧ ∀ x H', (Itr lo n).yld i H x H' → g x (wipe σ vs) H' fun σ2 H2 => wipe σ2 vs = wipe σ vs ∧ tt σ2 H2 fun b H3 =>
        if b = true then te σ2 H3 fun y H4 => ∃ acc, H4 D = some (.lst acc) ∧ acc.length < sizeLine ∧ Nx (upd H4 D (.lst (acc ++ [y]))) else Nx H3) := by
  have hDa : D ≠ a := hp.ne nD
  refine lcR (fun i acc H => ∃ ms : List Int, acc = ms.map V.int ∧ ms.length = i ∧ (∀ z ∈ ms, Pz z) ∧ Pk a m H (c0 + inc * (i : Int)) ∧ But a H1 H) nD ⟨[], rfl, rfl, nofun, (hp.new nD).cast (by simp), But.newT nD (But.refl _ _)⟩ ?_ ?_
  · rintro i acc H Z Y hi ⟨ms, rfl, h1, h2, h3, h4⟩ hD hz _
    refine hs i H Z Y hi h3 h4 fun z H4 k1 k2 k3 => hz _ _ (k3 _ _ hDa hD) (sz4' (by rw [List.length_map]; omega)) ⟨ms ++ [z], by rw [List.map_append]; rfl, by rw [List.length_append, h1]; rfl, ?_, (k2.upd hDa).cast inc_snoc, ?_⟩
    · intro x hx
      rcases List.mem_append.mp hx with e | e
      · exact h2 x e
      · rw [List.mem_singleton.mp e]; exact k1
    · intro b o hb e
      have := k3 _ _ hb (h4 _ _ hb e)
      rw [upd_ne (ne_of_none e nD)]
      exact this
  · rintro acc H ⟨ms, rfl, h1, h2, h3, h4⟩ hD
    exact hd ms H h1 h2 hD h3 h4
theorem lcR_dq {α : Type} {m c0 : Int} (F : α → PyData) (Pz : α → Prop) (inc : Int) (hp : Pk a m H1 c0) (nD : H1 D = none) (hn : n ≤ 1000000)
    (hs : ∀ (i : Nat) H (Z : VK) (Y : Hp → Prop), i < n → Pk a m H (c0 + inc * (i : Int)) → But a H1 H → (∀ x v G H4, Pz x → Dq G v (F x) → Newly H G → Same G H4 → Pk a m H4 (c0 + inc * (i : Int) + inc) → But a H H4 → Z v H4) → LcTurn g tt te vs σ (.int (lo + i)) H Z Y)
    (hd : ∀ (xs : List α) G H, xs.length = n → (∀ x ∈ xs, Pz x) → Dq G (.ref D) (.list (xs.map F)) → Newly H1 G → Same G H → Pk a m H (c0 + inc * (n : Int)) → But a H1 H → Qd H) :
    ∃ W : Nat → Nat → Hp → Prop, (∃ m, W 0 m (upd H1 D (.lst []))) ∧ ∀ i m H, W i m H →
      ((Itr lo n).stop i H ∧ Qd H) ∨ ((Itr lo n).go i H ∧ ∃ Nx : Hp → Prop, (∀ H', Nx H' → ∃ m', m' < m ∧ W (i + 1) m' H') ∧ ∀ x H', (Itr lo n).yld i H x H' → g x (wipe σ vs) H' fun σ2 H2 => wipe σ2 vs = wipe σ vs ∧ tt σ2 H2 fun b H3 =>
        if b = true then te σ2 H3 fun y H4 => ∃ acc, H4 D = some (.lst acc) ∧ acc.length < sizeLine ∧ Nx (upd H4 D (.lst (acc ++ [y]))) else Nx H3) := by
  have hDa : D ≠ a := hp.ne nD
  refine lcR (fun i acc H => ∃ xs : List α, DqAll (fr [D] H1 H) acc (xs.map F) ∧ xs.length = i ∧ (∀ x ∈ xs, Pz x) ∧ Pk a m H (c0 + inc * (i : Int)) ∧ But a H1 H) nD ⟨[], .nil, rfl, nofun, (hp.new nD).cast (by simp), But.newT nD (But.refl _ _)⟩ ?_ ?_
  · rintro i acc H Z Y hi ⟨xs, h0, h1, h2, h3, h4⟩ hD hz _
    refine hs i H Z Y hi h3 h4 fun x v G H4 k1 k2 k3 k4 k5 k6 => ?_
    have gD : G D = none := k3.free hD
    refine hz _ _ (k6 _ _ hDa hD) (sz4' (by rw [h0.len, List.length_map]; omega)) ⟨xs ++ [x], ?_, by rw [List.length_append, h1]; rfl, ?_, (k5.upd hDa).cast inc_snoc, ?_⟩
    · rw [List.map_append]
      exact DqAll.snoc ((h0.same (fr_butP hp k6)).same (fr_upd (by simp))) (k2.same (Newly.same1 (k3.backP h4 h3) (Same.mut k4 gD) gD))
    · intro y hy
      rcases List.mem_append.mp hy with e | e
      · exact h2 y e
      · rw [List.mem_singleton.mp e]; exact k1
    · intro b o hb e
      have := k6 _ _ hb (h4 _ _ hb e)
      rw [upd_ne (ne_of_none e nD)]
      exact this
  · rintro acc H ⟨xs, h0, h1, h2, h3, h4⟩ hD
    exact hd xs (fr [] H1 H) H h1 h2 (.lst (fr_lk0 nD hD) (h0.same fr_sub)) fr_newly fr_same h3 h4
/-- new data for each item of a list, nothing changed -/
theorem lcL_new (f : Nat → PyData) (nD : H1 D = none) (hn : xs.length ≤ 1000000) (hx : SqL K H1 l xs)
    (hs : ∀ (i : Nat) (x : V) H (Z : VK) (Y : Hp → Prop), xs[i]? = some x → Same H1 H → (∀ v G H4, Dq G v (f i) → Newly H G → Same G H4 → Same H H4 → Z v H4) → LcTurn g tt te vs σ x H Z Y)
    (hd : ∀ G H, Dq G (.ref D) (.list ((List.range xs.length).map f)) → Newly H1 G → Same G H → Same H1 H → Qd H) :
    ∃ W : Nat → Nat → Hp → Prop, (∃ m, W 0 m (upd H1 D (.lst []))) ∧ ∀ i m H, W i m H →
      ((Itl K l).stop i H ∧ Qd H) ∨ ((Itl K l).go i H ∧ ∃ Nx : Hp → Prop, (∀ H', Nx H' → ∃ m', m' < m ∧ W (i + 1) m' H') ∧ ∀ x H', (Itl K l).yld i H x H' → g x (wipe σ vs) H' fun σ2 H2 => wipe σ2 vs = wipe σ vs ∧ tt σ2 H2 fun b H3 =>
        if b = true then te σ2 H3 fun y H4 => ∃ acc, H4 D = some (.lst acc) ∧ acc.length < sizeLine ∧ Nx (upd H4 D (.lst (acc ++ [y]))) else Nx H3) := by
  refine lcL (xs := xs) (fun i acc H => DqAll (fr [D] H1 H) acc ((List.range i).map f) ∧ acc.length = i ∧ Same H1 H) nD ⟨.nil, rfl, Same.new nD⟩ (fun i acc H _ q _ => q.2.2.seq hx) ?_ ?_
  · rintro i x acc H Z Y hi ⟨h0, h1, h2⟩ hD hz _
    have hi' : i < xs.length := (List.getElem?_eq_some_iff.mp hi).1
    refine hs i x H Z Y hi h2 fun v G H4 k2 k3 k4 k6 => ?_
    have gD : G D = none := k3.free hD
    refine hz _ _ (k6 _ _ hD) (sz4' (by omega)) ⟨?_, by rw [List.length_append, h1]; rfl, Same.mut (h2.trans k6) nD⟩
    rw [List.range_succ, List.map_append]
    exact DqAll.snoc ((h0.same (fr_mono k6)).same (fr_upd (by simp))) (k2.same (Newly.same1 (k3.back h2) (Same.mut k4 gD) gD))
  · rintro acc H ⟨h0, h1, h2⟩ hD
    exact hd (fr [] H1 H) H (.lst (fr_lk0 nD hD) (h0.same fr_sub)) fr_newly fr_same h2
theorem lcT (P : Nat → List V → Hp → Prop) (nD : H1 D = none) (h0 : P 0 [] (upd H1 D (.lst []))) (hl : ∀ i acc H, i ≤ xs.length → P i acc H → H D = some (.lst acc) → SqT K H l xs)
    (hs : ∀ i x acc H (Z : VK) (Y : Hp → Prop), xs[i]? = some x → P i acc H → H D = some (.lst acc) → (∀ y H4, H4 D = some (.lst acc) → acc.length < sizeLine → P (i + 1) (acc ++ [y]) (upd H4 D (.lst (acc ++ [y]))) → Z y H4) →
      (∀ H4, H4 D = some (.lst acc) → P (i + 1) acc H4 → Y H4) → LcTurn g tt te vs σ x H Z Y) (hd : ∀ acc H, P xs.length acc H → H D = some (.lst acc) → Qd H) :
    ∃ W : Nat → Nat → Hp → Prop, (∃ m, W 0 m (upd H1 D (.lst []))) ∧ ∀ i m H, W i m H →
      ((Itt K l).stop i H ∧ Qd H) ∨ ((Itt K l).go i H ∧ ∃ Nx : Hp → Prop, (∀ H', Nx H' → ∃ m', m' < m ∧ W (i + 1) m' H') ∧ ∀ x H', (Itt K l).yld i H x H' → g x (wipe σ vs) H' fun σ2 H2 => wipe σ2 vs = wipe σ vs ∧ tt σ2 H2 fun b H3 =>
        if b = true then te σ2 H3 fun y H4 => ∃ acc, H4 D = some (.lst acc) ∧ acc.length < sizeLine ∧ Nx (upd H4 D (.lst (acc ++ [y]))) else Nx H3) := by
  refine lc_tup (xs := xs) (fun i H => ∃ acc, P i acc H ∧ H D = some (.lst acc)) ⟨[], h0, upd_same⟩ (fun i H hi hp => ?_) (fun i x H hi hp => ?_) (fun H hp => ?_)
  · obtain ⟨acc, hp, ha⟩ := hp
    exact hl i acc H hi hp ha
  · obtain ⟨acc, hp, ha⟩ := hp
    exact hs i x acc H _ _ hi hp ha (fun y H4 h1 h2 h3 => ⟨acc, h1, h2, _, h3, upd_same⟩) fun H4 h1 h2 => ⟨acc, h2, h1⟩
  · obtain ⟨acc, hp, ha⟩ := hp
    exact hd acc H hp ha
theorem lcT_new (f : Nat → PyData) (nD : H1 D = none) (hn : xs.length ≤ 1000000) (hx : SqT K H1 l xs)
    (hs : ∀ (i : Nat) (x : V) H (Z : VK) (Y : Hp → Prop), xs[i]? = some x → Same H1 H → (∀ v G H4, Dq G v (f i) → Newly H G → Same G H4 → Same H H4 → Z v H4) → LcTurn g tt te vs σ x H Z Y)
    (hd : ∀ G H, Dq G (.ref D) (.list ((List.range xs.length).map f)) → Newly H1 G → Same G H → Same H1 H → Qd H) :
    ∃ W : Nat → Nat → Hp → Prop, (∃ m, W 0 m (upd H1 D (.lst []))) ∧ ∀ i m H, W i m H →
      ((Itt K l).stop i H ∧ Qd H) ∨ ((Itt K l).go i H ∧ ∃ Nx : Hp → Prop, (∀ H', Nx H' → ∃ m', m' < m ∧ W (i + 1) m' H') ∧ ∀ x H', (Itt K l).yld i H x H' → g x (wipe σ vs) H' fun σ2 H2 => wipe σ2 vs = wipe σ vs ∧ tt σ2 H2 fun b H3 =>
        if b = true then te σ2 H3 fun y H4 => ∃ acc, H4 D = some (.lst acc) ∧ acc.length < sizeLine ∧ Nx (upd H4 D (.lst (acc ++ [y]))) else Nx H3) := by
  refine lcT (xs := xs) (fun i acc H => DqAll (fr [D] H1 H) acc ((List.range i).map f) ∧ acc.length = i ∧ Same H1 H) nD ⟨.nil, rfl, Same.new nD⟩ (fun i acc H _ q _ => Same.seqT q.2.2 hx) ?_ ?_
  · rintro i x acc H Z Y hi ⟨h0, h1, h2⟩ hD hz _
    have hi' : i < xs.length := (List.getElem?_eq_some_iff.mp hi).1
    refine hs i x H Z Y hi h2 fun v G H4 k2 k3 k4 k6 => ?_
    have gD : G D = none := k3.free hD
    refine hz _ _ (k6 _ _ hD) (sz4' (by omega)) ⟨?_, by rw [List.length_append, h1]; rfl, Same.mut (h2.trans k6) nD⟩
    rw [List.range_succ, List.map_append]
    exact DqAll.snoc ((h0.same (fr_mono k6)).same (fr_upd (by simp))) (k2.same (Newly.same1 (k3.back h2) (Same.mut k4 gD) gD))
  · rintro acc H ⟨h0, h1, h2⟩ hD
    exact hd (fr [] H1 H) H (.lst (fr_lk0 nD hD) (h0.same fr_sub)) fr_newly fr_same h2
theorem lcR_new (f : Nat → PyData) (nD : H1 D = none) (hn : n ≤ 1000000)
    (hs : ∀ (i : Nat) H (Z : VK) (Y : Hp → Prop), i < n → Same H1 H → (∀ v G H4, Dq G v (f i) → Newly H G → Same G H4 → Same H H4 → Z v H4) → LcTurn g tt te vs σ (.int (lo + i)) H Z Y)
    (hd : ∀ G H, Dq G (.ref D) (.list ((List.range n).map f)) → Newly H1 G → Same G H → Same H1 H → Qd H) :
    ∃ W : Nat → Nat → Hp → Prop, (∃ m, W 0 m (upd H1 D (.lst []))) ∧ ∀ i m H, W i m H →
      ((Itr lo n).stop i H ∧ Qd H) ∨ ((Itr lo n).go i H ∧ ∃ Nx : Hp → Prop, (∀ H', Nx H' → ∃ m', m' < m ∧ W (i + 1) m' H') ∧ ∀ x H', (Itr lo n).yld i H x H' → g x (wipe σ vs) H' fun σ2 H2 => wipe σ2 vs = wipe σ vs ∧ tt σ2 H2 fun b H3 =>
        if b = true then te σ2 H3 fun y H4 => ∃ acc, H4 D = some (.lst acc) ∧ acc.length < sizeLine ∧ Nx (upd H4 D (.lst (acc ++ [y]))) else Nx H3) := by
  refine lcR (fun i acc H => DqAll (fr [D] H1 H) acc ((List.range i).map f) ∧ acc.length = i ∧ Same H1 H) nD ⟨.nil, rfl, Same.new nD⟩ ?_ ?_
  · rintro i acc H Z Y hi ⟨h0, h1, h2⟩ hD hz _
    refine hs i H Z Y hi h2 fun v G H4 k2 k3 k4 k6 => ?_
    have gD : G D = none := k3.free hD
    refine hz _ _ (k6 _ _ hD) (sz4' (by omega)) ⟨?_, by rw [List.length_append, h1]; rfl, Same.mut (h2.trans k6) nD⟩
    rw [List.range_succ, List.map_append]
    exact DqAll.snoc ((h0.same (fr_mono k6)).same (fr_upd (by simp))) (k2.same (Newly.same1 (k3.back h2) (Same.mut k4 gD) gD))
  · rintro acc H ⟨h0, h1, h2⟩ hD
    exact hd (fr [] H1 H) H (.lst (fr_lk0 nD hD) (h0.same fr_sub)) fr_newly fr_same h2
/-! ### tuple of a list -/
theorem i_tupOfL {p : Addr} (h : SqL K H p xs) (q : ∀ l, H l = none → Q (.ref l) (upd H l (.tup xs))) : rTupleOf K [.ref p] H Q := ⟨p, xs, rfl, .inl ⟨h, q⟩⟩
end
/-! ### how deep data are -/
mutual
def dep : PyData → Nat
  | .list xs => depA xs + 1
  | .tuple xs => depA xs + 1
  | _ => 0
def depA : List PyData → Nat
  | [] => 0
  | d :: ds => max (dep d) (depA ds)
end
/-! how wide -/
mutual
def wid : PyData → Nat
  | .list xs => max xs.length (widA xs)
  | .tuple xs => max xs.length (widA xs)
  | _ => 0
def widA : List PyData → Nat
  | [] => 0
  | d :: ds => max (wid d) (widA ds)
end
theorem widA_mem : ∀ {ds : List PyData} {d : PyData}, d ∈ ds → wid d ≤ widA ds
  | e :: ds, d, h => by
    rw [widA]
    rcases List.mem_cons.mp h with z | z
    · rw [z]; omega
    · have := widA_mem z
      omega
theorem widA_le {k : Nat} : ∀ {ds : List PyData}, (∀ d ∈ ds, wid d ≤ k) → widA ds ≤ k
  | [], _ => Nat.zero_le _
  | e :: ds, h => by
    rw [widA]
    have := h e List.mem_cons_self
    have := widA_le fun d hd => h d (List.mem_cons_of_mem _ hd)
    omega
theorem depA_mem : ∀ {ds : List PyData} {d : PyData}, d ∈ ds → dep d ≤ depA ds
  | e :: ds, d, h => by
    rw [depA]
    rcases List.mem_cons.mp h with z | z
    · rw [z]; omega
    · have := depA_mem z
      omega
theorem depA_le {k : Nat} : ∀ {ds : List PyData}, (∀ d ∈ ds, dep d ≤ k) → depA ds ≤ k
  | [], _ => Nat.zero_le _
  | e :: ds, h => by
    rw [depA]
    have := h e List.mem_cons_self
    have := depA_le fun d hd => h d (List.mem_cons_of_mem _ hd)
    omega
/-- no object at all -/
def noH : Hp := fun _ => none
theorem noH_newly {H : Hp} : Newly H noH := fun _ _ _ => rfl
theorem noH_same {H : Hp} : Same noH H := fun _ _ h => by cases h
theorem rng_get {α : Type} {x : α} (ds : List α) : (List.range ds.length).map (fun i => (ds[i]?).getD x) = ds := by
  apply List.ext_getElem?
  intro i
  rw [List.getElem?_map]
  by_cases c : i < ds.length
  · rw [List.getElem?_range c, List.getElem?_eq_getElem c]
    show some ((ds[i]?).getD x) = _
    rw [List.getElem?_eq_getElem c]
    rfl
  · rw [List.getElem?_eq_none (by rw [List.length_range]; omega), List.getElem?_eq_none (by omega)]
    rfl
/-- int of a truth that is known -/
theorem i_intY {b : Bool} {R : Bool → Prop} {S : Prop} (e : b = true) (q : R true) : S ∨ ∃ k, [V.bl b] = [.bl k] ∧ R k := by
  subst e
  exact .inr ⟨true, rfl, q⟩
theorem i_intN {b : Bool} {R : Bool → Prop} {S : Prop} (e : b = false) (q : R false) : S ∨ ∃ k, [V.bl b] = [.bl k] ∧ R k := by
  subst e
  exact .inr ⟨false, rfl, q⟩
/-! ### data that compare -/
mutual
theorem depth_dep : ∀ {d : PyData}, d.canLay0 = true → d.depth = dep d
  | .none, _ => by simp [PyData.depth, dep]
  | .bool _, _ => by simp [PyData.depth, dep]
  | .int _, _ => by simp [PyData.depth, dep]
  | .str _, _ => by simp [PyData.depth, dep]
  | .list xs, h => by
    have := depthA_dep (ds := xs) (by simpa [PyData.canLay0] using h)
    simp [PyData.depth, dep, this]
  | .tuple xs, h => by
    have := depthA_dep (ds := xs) (by simpa [PyData.canLay0] using h)
    simp [PyData.depth, dep, this]
  | .dict _, h => by simp [PyData.canLay0] at h
theorem depthA_dep : ∀ {ds : List PyData}, PyData.canLayAll0 ds = true → PyData.depthAll ds = depA ds
  | [], _ => by simp [PyData.depthAll, depA]
  | d :: ds, h => by
    rw [PyData.canLayAll0, Bool.and_eq_true] at h
    rw [PyData.depthAll, depA, depth_dep h.1, depthA_dep h.2]
end
theorem shaped_of {d : PyData} (h : d.canLay0 = true) (h2 : dep d ≤ 64) : SeqAt.shaped d = true := by
  unfold SeqAt.shaped
  rw [h, depth_dep h, Bool.true_and, decide_eq_true h2]
theorem lay_all : ∀ {ds : List PyData}, (∀ d ∈ ds, d.canLay0 = true) → PyData.canLayAll0 ds = true
  | [], _ => by simp [PyData.canLayAll0]
  | d :: ds, h => by
    rw [PyData.canLayAll0, h d List.mem_cons_self, lay_all fun e he => h e (List.mem_cons_of_mem _ he)]
    rfl
theorem lay_mem : ∀ {ds : List PyData} {d : PyData}, PyData.canLayAll0 ds = true → d ∈ ds → d.canLay0 = true
  | e :: ds, d, h, hd => by
    rw [PyData.canLayAll0, Bool.and_eq_true] at h
    rcases List.mem_cons.mp hd with z | z
    · rw [z]; exact h.1
    · exact lay_mem h.2 z
theorem lay_plan (r : List Int) : (planD r).canLay0 = true := by simp [planD, PyData.canLay0, canLay_ints]
theorem dep_ints (r : List Int) : depA (r.map PyData.int) = 0 := by
  have := depA_le (k := 0) (ds := r.map PyData.int) fun d hd => by
    obtain ⟨x, _, rfl⟩ := List.mem_map.mp hd
    simp [dep]
  omega
theorem wid_ints (r : List Int) : widA (r.map PyData.int) = 0 := by
  have := widA_le (k := 0) (ds := r.map PyData.int) fun d hd => by
    obtain ⟨x, _, rfl⟩ := List.mem_map.mp hd
    simp [wid]
  omega
theorem dep_plan (r : List Int) : dep (planD r) = 1 := by simp [planD, dep, dep_ints]
theorem wid_plan (r : List Int) : wid (planD r) = r.length := by simp [planD, wid, wid_ints]
theorem dep_rows (rs : List (List Int)) : dep (.list (rs.map planD)) ≤ 2 := by
  have := depA_le (k := 1) (ds := rs.map planD) fun d hd => by
    obtain ⟨x, _, rfl⟩ := List.mem_map.mp hd
    rw [dep_plan]
    omega
  rw [dep]
  omega
theorem wid_rows {k : Nat} (rs : List (List Int)) (h : rs.length ≤ k) (h2 : ∀ r ∈ rs, r.length ≤ k) : wid (.list (rs.map planD)) ≤ k := by
  have := widA_le (k := k) (ds := rs.map planD) fun d hd => by
    obtain ⟨x, hx, rfl⟩ := List.mem_map.mp hd
    rw [wid_plan]
    exact h2 x hx
  rw [wid, List.length_map]
  omega
theorem lay_rows (rs : List (List Int)) : PyData.canLay0 (.list (rs.map planD)) = true := by
  rw [PyData.canLay0]
  exact lay_all fun d hd => by
    obtain ⟨x, _, rfl⟩ := List.mem_map.mp hd
    exact lay_plan x
/-- what is in G, new to H, is apart from what H has -/
theorem Newly.sep {H G G1 : Hp} {p : Addr} {o : HO} (n : Newly H G) (s : Same G1 H) (h : G p = some o) : G1 p = none := by
  cases e : G1 p with
  | none => rfl
  | some u =>
    have := n p u (s _ _ e)
    rw [this] at h
    cases h
theorem Same.updB {G H : Hp} {P : Addr} {o : HO} (s : Same G H) : Same (upd G P o) (upd H P o) := fun b u h => by
  by_cases c : b = P
  · rw [c, upd_same] at h ⊢
    exact h
  · rw [upd_ne c] at h ⊢
    exact s _ _ h
end Hf
/-! ## battles -/
namespace Hf
open PySem PySem.Spec PyProof.Rows L2
inductive Fld where
  | more (w t : Int)
  | lead (w l : Int)
  | tab (rows : List (List Int))
instance : Inhabited Fld := ⟨.more 1 0⟩
def fldD : Fld → PyData
  | .more w t => .tuple [.str (PySem.Str.ofString "more"), .int w, .int t]
  | .lead w l => .tuple [.str (PySem.Str.ofString "lead"), .int w, .int l]
  | .tab rows => .tuple [.str (PySem.Str.ofString "table"), .list (rows.map planD)]
def batD (f s : Int) (fs : List Fld) : PyData := .tuple [.int f, .int s, .list (fs.map fldD)]
def Sm (x : Int) : Prop := -(2 ^ 110) < x ∧ x < 2 ^ 110
def FldOk (f s : Int) : Fld → Prop
  | .more w t => 1 ≤ w ∧ 0 - w ≤ t ∧ t ≤ w
  | .lead w _ => 1 ≤ w
  | .tab rows => (rows.length : Int) = f + 1 ∧ ∀ r ∈ rows, (r.length : Int) = s + 1
/-- its numbers are not great -/
def FldSm : Fld → Prop
  | .more w t => Sm w ∧ Sm t
  | .lead w l => Sm w ∧ Sm l
  | .tab rows => ∀ r ∈ rows, ∀ x ∈ r, Sm x
structure BatOk (f s : Int) (fs : List Fld) : Prop where
  hf : 0 ≤ f ∧ f ≤ 10
  hs : 0 ≤ s ∧ s ≤ 10
  ne : 1 ≤ fs.length ∧ fs.length ≤ 5
  ok : ∀ x ∈ fs, FldOk f s x
def paidV : Fld → Int → Int → Int
  | .more w t, x, y => if x = y then t else if x > y then w else 0 - w
  | .lead w l, x, y => if x ≥ y + l then w else 0 - w
  | .tab rows, x, y => (((rows[x.toNat]?).getD [])[y.toNat]?).getD 0
section
variable {H : Hp} {v : V}
theorem fld_more {w t : Int} (h : Dq H v (fldD (.more w t))) : ∃ a, v = .ref a ∧ H a = some (.tup [.str (PySem.Str.ofString "more"), .int w, .int t]) := by
  obtain ⟨a, xs, rfl, h1, h2⟩ := Dq.tuple_inv h
  cases h2 with
  | cons a b =>
    cases b with
    | cons c d =>
      cases d with
      | cons e f =>
        cases f
        obtain rfl := Dq.str_inv a
        obtain rfl := Dq.int_inv c
        obtain rfl := Dq.int_inv e
        exact ⟨_, rfl, h1⟩
theorem fld_lead {w t : Int} (h : Dq H v (fldD (.lead w t))) : ∃ a, v = .ref a ∧ H a = some (.tup [.str (PySem.Str.ofString "lead"), .int w, .int t]) := by
  obtain ⟨a, xs, rfl, h1, h2⟩ := Dq.tuple_inv h
  cases h2 with
  | cons a b =>
    cases b with
    | cons c d =>
      cases d with
      | cons e f =>
        cases f
        obtain rfl := Dq.str_inv a
        obtain rfl := Dq.int_inv c
        obtain rfl := Dq.int_inv e
        exact ⟨_, rfl, h1⟩
theorem fld_tab {rows : List (List Int)} (h : Dq H v (fldD (.tab rows))) : ∃ a p xs, v = .ref a ∧ H a = some (.tup [.str (PySem.Str.ofString "table"), .ref p]) ∧ H p = some (.lst xs) ∧ DqAll H xs (rows.map planD) := by
  obtain ⟨a, xs, rfl, h1, h2⟩ := Dq.tuple_inv h
  cases h2 with
  | cons a b =>
    cases b with
    | cons c d =>
      cases d
      obtain rfl := Dq.str_inv a
      obtain ⟨p, ys, rfl, h3, h4⟩ := Dq.list_inv c
      exact ⟨_, p, ys, rfl, h1, h3, h4⟩
theorem row_at {xs : List V} {rows : List (List Int)} (q : DqAll H xs (rows.map planD)) {k : Nat} {w : V} (hw : xs[k]? = some w) : ∃ r p, rows[k]? = some r ∧ w = .ref p ∧ H p = some (.lst (r.map V.int)) := by
  obtain ⟨d, e, q⟩ := q.get' hw
  rw [List.getElem?_map] at e
  cases g : rows[k]? with
  | none => rw [g] at e; cases e
  | some r =>
    rw [g] at e
    cases e
    obtain ⟨p, ys, rfl, h3, h4⟩ := Dq.list_inv q
    obtain rfl := DqAll.ints h4
    exact ⟨r, p, rfl, rfl, h3⟩
theorem bat_inv {f s : Int} {fs : List Fld} (h : Dq H v (batD f s fs)) : ∃ a p xs, v = .ref a ∧ H a = some (.tup [.int f, .int s, .ref p]) ∧ H p = some (.lst xs) ∧ DqAll H xs (fs.map fldD) := by
  obtain ⟨a, xs, rfl, h1, h2⟩ := Dq.tuple_inv h
  cases h2 with
  | cons a b =>
    cases b with
    | cons c d =>
      cases d with
      | cons e f =>
        cases f
        obtain rfl := Dq.int_inv a
        obtain rfl := Dq.int_inv c
        obtain ⟨p, ys, rfl, h3, h4⟩ := Dq.list_inv e
        exact ⟨_, p, ys, rfl, h1, h3, h4⟩
theorem fld_at {xs : List V} {fs : List Fld} (q : DqAll H xs (fs.map fldD)) {k : Nat} {w : V} (hw : xs[k]? = some w) : ∃ f, fs[k]? = some f ∧ Dq H w (fldD f) := by
  obtain ⟨d, e, q⟩ := q.get' hw
  rw [List.getElem?_map] at e
  cases g : fs[k]? with
  | none => rw [g] at e; cases e
  | some r =>
    rw [g] at e
    cases e
    exact ⟨r, rfl, q⟩
theorem more_mk {a : Addr} {w t : Int} (h : H a = some (.tup [.str (PySem.Str.ofString "more"), .int w, .int t])) : Dq H (.ref a) (fldD (.more w t)) := .tup h (.cons (.str _) (.cons (.int _) (.cons (.int _) .nil)))
theorem lead_mk {a : Addr} {w t : Int} (h : H a = some (.tup [.str (PySem.Str.ofString "lead"), .int w, .int t])) : Dq H (.ref a) (fldD (.lead w t)) := .tup h (.cons (.str _) (.cons (.int _) (.cons (.int _) .nil)))
theorem tab_mk {a p : Addr} {xs : List V} {rows : List (List Int)} (h : H a = some (.tup [.str (PySem.Str.ofString "table"), .ref p])) (h1 : H p = some (.lst xs)) (h2 : DqAll H xs (rows.map planD)) : Dq H (.ref a) (fldD (.tab rows)) := .tup h (.cons (.str _) (.cons (.lst h1 h2) .nil))
theorem tab_mk' {a : Addr} {v : V} {rows : List (List Int)} (h : H a = some (.tup [.str (PySem.Str.ofString "table"), v])) (h1 : Dq H v (.list (rows.map planD))) : Dq H (.ref a) (fldD (.tab rows)) := .tup h (.cons (.str _) (.cons h1 .nil))
theorem bat_mk' {a : Addr} {v : V} {f s : Int} {fs : List Fld} (h : H a = some (.tup [.int f, .int s, v])) (h1 : Dq H v (.list (fs.map fldD))) : Dq H (.ref a) (batD f s fs) := .tup h (.cons (.int _) (.cons (.int _) (.cons h1 .nil)))
theorem bat_mk {a p : Addr} {xs : List V} {f s : Int} {fs : List Fld} (h : H a = some (.tup [.int f, .int s, .ref p])) (h1 : H p = some (.lst xs)) (h2 : DqAll H xs (fs.map fldD)) : Dq H (.ref a) (batD f s fs) := .tup h (.cons (.int _) (.cons (.int _) (.cons (.lst h1 h2) .nil)))
theorem row_mk {p : Addr} {r : List Int} (h : H p = some (.lst (r.map V.int))) : Dq H (.ref p) (planD r) := .lst h (dq_ints r)
end
theorem BatOk.at {f s : Int} {fs : List Fld} (k : BatOk f s fs) {i : Nat} {x : Fld} (e : fs[i]? = some x) : FldOk f s x := k.ok x (List.mem_of_getElem? e)
theorem DqAll.rep {H : Hp} {v : V} {d : PyData} (h : Dq H v d) : ∀ n : Nat, DqAll H (List.replicate n v) (List.replicate n d)
  | 0 => .nil
  | n + 1 => .cons h (DqAll.rep h n)
theorem lay_fld (fl : Fld) : (fldD fl).canLay0 = true := by
  cases fl with
  | more w t => simp [fldD, PyData.canLay0, PyData.canLayAll0]; decide +kernel
  | lead w t => simp [fldD, PyData.canLay0, PyData.canLayAll0]; decide +kernel
  | tab rows =>
    simp [fldD, PyData.canLay0, PyData.canLayAll0, lay_rows]
    exact ⟨by decide +kernel, by have := lay_rows rows; rwa [PyData.canLay0] at this⟩
theorem lay_bat (f s : Int) (fs : List Fld) : (batD f s fs).canLay0 = true := by
  have : PyData.canLay0 (.list (fs.map fldD)) = true := by
    rw [PyData.canLay0]
    exact lay_all fun d hd => by
      obtain ⟨x, _, rfl⟩ := List.mem_map.mp hd
      exact lay_fld x
  rw [PyData.canLay0] at this
  simp [batD, PyData.canLay0, PyData.canLayAll0, this]
theorem dep_fld (fl : Fld) : dep (fldD fl) ≤ 3 := by
  cases fl with
  | more w t => simp [fldD, dep, depA]
  | lead w t => simp [fldD, dep, depA]
  | tab rows =>
    have := dep_rows rows
    simp only [fldD, dep, depA] at this ⊢
    omega
theorem dep_bat (f s : Int) (fs : List Fld) : dep (batD f s fs) ≤ 5 := by
  have := depA_le (k := 3) (ds := fs.map fldD) fun d hd => by
    obtain ⟨x, _, rfl⟩ := List.mem_map.mp hd
    exact dep_fld x
  simp only [batD, dep, depA] at this ⊢
  omega
theorem wid_fld {f s : Int} {fl : Fld} (hf : f ≤ 10) (hs : s ≤ 10) (k : FldOk f s fl) : wid (fldD fl) ≤ 20 := by
  cases fl with
  | more w t => rw [fldD]; simp [wid, widA]
  | lead w t => rw [fldD]; simp [wid, widA]
  | tab rows =>
    obtain ⟨h1, h2⟩ := k
    have := wid_rows (k := 20) rows (by omega) (fun r hr => by have := h2 r hr; omega)
    simp only [fldD, wid, widA, List.length_cons, List.length_nil] at this ⊢
    omega
theorem wid_bat {f s : Int} {fs : List Fld} (hf : f ≤ 10) (hs : s ≤ 10) (hl : fs.length ≤ 20) (k : ∀ x ∈ fs, FldOk f s x) : wid (batD f s fs) ≤ 20 := by
  have := widA_le (k := 20) (ds := fs.map fldD) fun d hd => by
    obtain ⟨x, hx, rfl⟩ := List.mem_map.mp hd
    exact wid_fld hf hs (k x hx)
  simp only [batD, wid, widA, List.length_cons, List.length_nil, List.length_map] at this ⊢
  omega
theorem shaped_bat (f s : Int) (fs : List Fld) : SeqAt.shaped (batD f s fs) = true := shaped_of (lay_bat f s fs) (Nat.le_trans (dep_bat f s fs) (by decide))
/-- a row changed through its address, whichever rows it is -/
theorem rows_set {G : Hp} {xs : List V} {rs : List (List Int)} {P : Addr} {r r' : List Int} (q : DqAll G xs (rs.map planD)) (hP : G P = some (.lst (r.map V.int))) (hl : r'.length = r.length) :
    ∃ rs' : List (List Int), DqAll (upd G P (.lst (r'.map V.int))) xs (rs'.map planD) ∧ rs'.length = rs.length ∧ ∀ L, (∀ z ∈ rs, z.length = L) → ∀ z ∈ rs', z.length = L := by
  induction rs generalizing xs with
  | nil =>
    cases q
    exact ⟨[], .nil, rfl, fun _ _ => nofun⟩
  | cons r0 rs ih =>
    cases q with
    | cons h q =>
      obtain ⟨rs', g1, g2, g3⟩ := ih q
      obtain ⟨p, ys, rfl, h3, h4⟩ := Dq.list_inv h
      obtain rfl := DqAll.ints h4
      by_cases c : p = P
      · subst c
        refine ⟨r' :: rs', .cons (row_mk upd_same) g1, by rw [List.length_cons, g2, List.length_cons], fun L hL z hz => ?_⟩
        rcases List.mem_cons.mp hz with e | e
        · rw [h3] at hP
          have e2 := congrArg List.length (HO.lst.inj (Option.some.inj hP))
          rw [List.length_map, List.length_map] at e2
          rw [e, hl, ← e2]
          exact hL r0 List.mem_cons_self
        · exact g3 L (fun z hz => hL z (List.mem_cons_of_mem _ hz)) z e
      · refine ⟨r0 :: rs', .cons (row_mk (lk_upd c h3)) g1, by rw [List.length_cons, g2, List.length_cons], fun L hL z hz => ?_⟩
        rcases List.mem_cons.mp hz with e | e
        · rw [e]; exact hL r0 List.mem_cons_self
        · exact g3 L (fun z hz => hL z (List.mem_cons_of_mem _ hz)) z e
/-! ### what is won -/
def fldAt (fs : List Fld) (k : Int) : Fld := (fs[k.toNat]?).getD default
def nAt (ms : List Int) (k : Int) : Int := (ms[k.toNat]?).getD 0
def gainV (fs : List Fld) (ms ns : List Int) : Int := ((List.range fs.length).map fun i : Nat => paidV (fldAt fs i) (nAt ms i) (nAt ns i)).sum
def RiseP (fl : Fld) (f s : Int) : Prop := ∀ x y : Int, 0 ≤ x → x ≤ f → 0 ≤ y → y ≤ s → (x < f → paidV fl x y ≤ paidV fl (x + 1) y) ∧ (y < s → paidV fl x (y + 1) ≤ paidV fl x y)
def RiseA (fs : List Fld) (f s : Int) : Prop := ∀ x ∈ fs, RiseP x f s
def PlainF : Fld → Prop
  | .tab _ => False
  | _ => True
theorem rise_plain {f s : Int} {fl : Fld} (k : FldOk f s fl) (h : PlainF fl) : RiseP fl f s := by
  intro x y _ _ _ _
  cases fl with
  | more w t =>
    obtain ⟨h1, h2, h3⟩ := k
    refine ⟨fun _ => ?_, fun _ => ?_⟩
    · show (if x = y then t else if x > y then w else 0 - w) ≤ (if x + 1 = y then t else if x + 1 > y then w else 0 - w)
      split <;> split <;> (try split) <;> (try split) <;> omega
    · show (if x = y + 1 then t else if x > y + 1 then w else 0 - w) ≤ (if x = y then t else if x > y then w else 0 - w)
      split <;> split <;> (try split) <;> (try split) <;> omega
  | lead w l =>
    have h1 : 1 ≤ w := k
    refine ⟨fun _ => ?_, fun _ => ?_⟩
    · show (if x ≥ y + l then w else 0 - w) ≤ (if x + 1 ≥ y + l then w else 0 - w)
      split <;> split <;> omega
    · show (if x ≥ y + 1 + l then w else 0 - w) ≤ (if x ≥ y + l then w else 0 - w)
      split <;> split <;> omega
  | tab _ => exact h.elim
theorem rise_pw {fl : Fld} {f s y : Int} (h : RiseP fl f s) (hy : 0 ≤ y ∧ y ≤ s) : ∀ n : Nat, (n : Int) ≤ f + 1 → ((List.range n).map fun i : Nat => paidV fl i y).Pairwise fun a b => a ≤ b := by
  have mono : ∀ d i : Nat, ((i + d : Nat) : Int) ≤ f → paidV fl i y ≤ paidV fl ((i + d : Nat) : Int) y := by
    intro d
    induction d with
    | zero => intro i _; exact Int.le_refl _
    | succ d ih =>
      intro i hi
      have h1 := ih i (by omega)
      have h2 := (h ((i + d : Nat) : Int) y (by omega) (by omega) hy.1 hy.2).1 (by omega)
      have e : ((i + (d + 1) : Nat) : Int) = ((i + d : Nat) : Int) + 1 := rfl
      rw [e]
      omega
  intro n hn
  rw [List.pairwise_map]
  refine List.Pairwise.imp_of_mem ?_ (List.pairwise_lt_range (n := n))
  intro a b ha hb hab
  have := mono (b - a) a (by have := List.mem_range.mp hb; omega)
  rw [show a + (b - a) = b by omega] at this
  exact this
def EvenP (fs : List Fld) (f s : Int) : Prop := f = s ∧ ∀ fl ∈ fs, ∀ x y : Int, 0 ≤ x → x ≤ f → 0 ≤ y → y ≤ x → paidV fl x y = 0 - paidV fl y x
/-! ### the sides exchanged -/
def exF (s : Int) : Fld → Fld
  | .more w t => .more w (0 - t)
  | .lead w l => .lead w (1 - l)
  | .tab rows => .tab ((List.range (s + 1).toNat).map fun y => rows.map fun r => 0 - (r[y]?).getD 0)
theorem exF_ok {f s : Int} {fl : Fld} (hf : 0 ≤ f) (hs : 0 ≤ s) (k : FldOk f s fl) : FldOk s f (exF s fl) := by
  cases fl with
  | more w t =>
    obtain ⟨h1, h2, h3⟩ := k
    exact ⟨h1, by omega, by omega⟩
  | lead w l => exact k
  | tab rows =>
    obtain ⟨h1, h2⟩ := k
    refine ⟨?_, ?_⟩
    · rw [List.length_map, List.length_range]
      omega
    · intro r hr
      obtain ⟨y, _, rfl⟩ := List.mem_map.mp hr
      rw [List.length_map]
      exact h1
theorem ex_ok {f s : Int} {fs : List Fld} (k : BatOk f s fs) : BatOk s f (fs.map (exF s)) := ⟨k.hs, k.hf, by rw [List.length_map]; exact k.ne, fun x hx => by
  obtain ⟨y, hy, rfl⟩ := List.mem_map.mp hx
  exact exF_ok k.hf.1 k.hs.1 (k.ok y hy)⟩
theorem ex_paid {f s : Int} {fl : Fld} (k : FldOk f s fl) {x y : Int} (hx : 0 ≤ x ∧ x ≤ f) (hy : 0 ≤ y ∧ y ≤ s) : paidV (exF s fl) y x = 0 - paidV fl x y := by
  cases fl with
  | more w t =>
    show (if y = x then 0 - t else if y > x then w else 0 - w) = 0 - (if x = y then t else if x > y then w else 0 - w)
    split <;> split <;> (try split) <;> (try split) <;> omega
  | lead w l =>
    show (if y ≥ x + (1 - l) then w else 0 - w) = 0 - (if x ≥ y + l then w else 0 - w)
    split <;> split <;> omega
  | tab rows =>
    obtain ⟨h1, h2⟩ := k
    show (((((List.range (s + 1).toNat).map fun y => rows.map fun r => 0 - (r[y]?).getD 0)[y.toNat]?).getD [])[x.toNat]?).getD 0 = 0 - ((((rows[x.toNat]?).getD [])[y.toNat]?).getD 0)
    rw [List.getElem?_map, List.getElem?_range (by omega)]
    show (((rows.map fun r => 0 - (r[y.toNat]?).getD 0)[x.toNat]?).getD 0) = _
    rw [List.getElem?_map]
    have hx' : x.toNat < rows.length := by omega
    rw [List.getElem?_eq_getElem hx']
    rfl
theorem ex_rise1 {f s : Int} {fl : Fld} (k : FldOk f s fl) (h : RiseP fl f s) : RiseP (exF s fl) s f := by
  intro y x h1 h2 h3 h4
  obtain ⟨g1, g2⟩ := h x y h3 h4 h1 h2
  refine ⟨fun c => ?_, fun c => ?_⟩
  · rw [ex_paid k ⟨h3, h4⟩ ⟨h1, h2⟩, ex_paid k ⟨h3, h4⟩ (y := y + 1) (by omega)]
    have := g2 c
    omega
  · rw [ex_paid k ⟨h3, h4⟩ ⟨h1, h2⟩, ex_paid k (x := x + 1) (by omega) ⟨h1, h2⟩]
    have := g1 c
    omega
theorem ex_rise2 {f s : Int} {fl : Fld} (k : FldOk f s fl) (h : RiseP (exF s fl) s f) : RiseP fl f s := by
  intro x y h1 h2 h3 h4
  obtain ⟨g1, g2⟩ := h y x h3 h4 h1 h2
  refine ⟨fun c => ?_, fun c => ?_⟩
  · have := g2 c
    rw [ex_paid k ⟨h1, h2⟩ ⟨h3, h4⟩, ex_paid k (x := x + 1) (by omega) ⟨h3, h4⟩] at this
    omega
  · have := g1 c
    rw [ex_paid k ⟨h1, h2⟩ ⟨h3, h4⟩, ex_paid k ⟨h1, h2⟩ (y := y + 1) (by omega)] at this
    omega
theorem ex_rise {f s : Int} {fs : List Fld} (k : BatOk f s fs) : RiseA (fs.map (exF s)) s f ↔ RiseA fs f s := by
  refine ⟨fun h x hx => ex_rise2 (k.ok x hx) (h _ (List.mem_map_of_mem hx)), fun h x hx => ?_⟩
  obtain ⟨y, hy, rfl⟩ := List.mem_map.mp hx
  exact ex_rise1 (k.ok y hy) (h y hy)
theorem ex_even {f s : Int} {fs : List Fld} (k : BatOk f s fs) : EvenP (fs.map (exF s)) s f ↔ EvenP fs f s := by
  refine ⟨fun h => ⟨h.1.symm, fun fl hfl x y h1 h2 h3 h4 => ?_⟩, fun h => ⟨h.1.symm, fun fl hfl x y h1 h2 h3 h4 => ?_⟩⟩
  · have := h.2 _ (List.mem_map_of_mem hfl) x y h1 (by have := h.1; omega) h3 h4
    have e := h.1
    rw [ex_paid (k.ok fl hfl) (x := y) (by omega) (by omega), ex_paid (k.ok fl hfl) (x := x) (by omega) (by omega)] at this
    omega
  · obtain ⟨fl', hf', rfl⟩ := List.mem_map.mp hfl
    have e := h.1
    have := h.2 _ hf' x y h1 (by omega) h3 h4
    rw [ex_paid (k.ok fl' hf') (x := y) (by omega) (by omega), ex_paid (k.ok fl' hf') (x := x) (by omega) (by omega)]
    omega
theorem sum_neg : ∀ (n : Nat) (g h : Nat → Int), (∀ i, i < n → h i = 0 - g i) → ((List.range n).map h).sum = 0 - ((List.range n).map g).sum := by
  intro n
  induction n with
  | zero => intro g h _; rfl
  | succ n ih =>
    intro g h e
    rw [List.range_succ, List.map_append, List.map_append, List.sum_append, List.sum_append, ih g h fun i hi => e i (by omega)]
    simp only [List.map_cons, List.map_nil, List.sum_cons, List.sum_nil]
    have := e n (by omega)
    omega
theorem plan_le {h : Int} {n : Nat} {p : List Int} (k : PlanC h n p) (i : Int) : 0 ≤ nAt p i ∧ nAt p i ≤ h := by
  have key : ∀ q : List Int, (∀ x ∈ q, 0 ≤ x) → 0 ≤ q.sum ∧ ∀ x ∈ q, x ≤ q.sum := by
    intro q
    induction q with
    | nil => intro _; exact ⟨Int.le_refl _, nofun⟩
    | cons x q ih =>
      intro g
      obtain ⟨e1, e2⟩ := ih fun z hz => g z (List.mem_cons_of_mem _ hz)
      have := g x (List.mem_cons_self)
      rw [List.sum_cons]
      refine ⟨by omega, fun z hz => ?_⟩
      rcases List.mem_cons.mp hz with e | e
      · omega
      · have := e2 z e
        omega
  obtain ⟨k1, k2, k3⟩ := k
  obtain ⟨e1, e2⟩ := key p k3
  unfold nAt
  cases g : p[i.toNat]? with
  | none => exact ⟨Int.le_refl _, by show 0 ≤ h; omega⟩
  | some z =>
    have hz := List.mem_of_getElem? g
    exact ⟨k3 z hz, by have := e2 z hz; show z ≤ h; omega⟩
theorem fldAt_ex {s : Int} {fs : List Fld} {i : Int} (hi : i.toNat < fs.length) : fldAt (fs.map (exF s)) i = exF s (fldAt fs i) := by
  unfold fldAt
  rw [List.getElem?_map, List.getElem?_eq_getElem hi]
  rfl
theorem fldAt_ok {f s : Int} {fs : List Fld} (k : BatOk f s fs) {i : Int} (hi : i.toNat < fs.length) : FldOk f s (fldAt fs i) := by
  unfold fldAt
  rw [List.getElem?_eq_getElem hi]
  exact k.ok _ (List.getElem_mem _)
theorem ex_gain {f s : Int} {fs : List Fld} (k : BatOk f s fs) {ms ns : List Int} (h1 : PlanC f fs.length ms) (h2 : PlanC s fs.length ns) : gainV (fs.map (exF s)) ns ms = 0 - gainV fs ms ns := by
  unfold gainV
  rw [List.length_map]
  refine sum_neg _ _ _ fun i hi => ?_
  have e : fldAt (fs.map (exF s)) i = exF s (fldAt fs i) := by
    unfold fldAt
    rw [List.getElem?_map, List.getElem?_eq_getElem (show (i : Int).toNat < fs.length by omega)]
    rfl
  have hk : FldOk f s (fldAt fs i) := by
    unfold fldAt
    rw [List.getElem?_eq_getElem (show (i : Int).toNat < fs.length by omega)]
    exact k.ok _ (List.getElem_mem _)
  rw [e]
  exact ex_paid hk (plan_le h1 i) (plan_le h2 i)
/-! ### min of three -/
def rMin3 : List V → Hp → VK → Prop := fun xs H Q => ∃ i j k, xs = [.int i, .int j, .int k] ∧ Q (.int (if j < i then (if k < j then k else j) else (if k < i then k else i))) H
theorem call_min3I {X : Cx} (hc : X.calm = true) : CallR X (.builtin "min") rMin3 := by
  intro pins s σ H xs us Q I r h
  obtain ⟨i, j, k, rfl, q⟩ := h
  cases r with
  | cons r1 r =>
    cases r with
    | cons r2 r =>
      cases r with
      | cons r3 r =>
        cases r
        obtain ⟨t1, rfl⟩ := r1
        obtain ⟨t2, rfl⟩ := r2
        obtain ⟨t3, rfl⟩ := r3
        refine min_three_ints (I.ok.hd hc) fun h' tk kk => ⟨_, H, I.kept kk, ?_, q⟩
        split <;> split <;> exact ⟨_, rfl⟩
theorem i_min3 {i j k : Int} {H : Hp} {Q : VK} (q : Q (.int (if j < i then (if k < j then k else j) else (if k < i then k else i))) H) : rMin3 [.int i, .int j, .int k] H Q := ⟨i, j, k, rfl, q⟩
end Hf
/-! ## sorted of what rises already; slices from behind -/
namespace Hf
open PySem PySem.Spec PyProof.Rows L2
section
variable {σ : L2.St} {H : Hp} {Q : VK} {K : PySem.W.Frag} {p r : Addr} {ns ms : List Int} {xs zs : List V}
theorem i_sortedI (h : SqL K H p (ns.map V.int)) (hd : ns.Pairwise fun a b => a ≤ b) (q : ∀ p', H p' = none → Q (.ref p') (L2.upd H p' (.lst (ns.map V.int)))) : rSortedI K [.ref p] H Q :=
  ⟨p, ns, rfl, h, fun ns' p' hp ho hn => by
    have e : ns' = ns := List.Perm.eq_of_pairwise (le := fun a b : Int => a ≤ b) (fun a b _ _ h1 h2 => by
      have h1' : a ≤ b := h1
      have h2' : b ≤ a := h2
      omega) ho hd hp
    rw [e]
    exact q p' hn⟩
theorem cut_neg {xs : List V} {k : Int} (h : k < 0) : cutV xs (some k) none = xs.drop (k + (xs.length : Int)).toNat := by
  unfold cutV
  have e : HT.sIx xs.length 0 (some k) = (k + (xs.length : Int)).toNat := if_pos h
  rw [e, HT.sIx_none, List.take_of_length_le (by rw [List.length_drop]; omega)]
theorem i_slNeg {k : Int} (h : SqL K H p xs) (h0 : k < 0) (q : ∀ p', H p' = none → Q (.ref p') (upd H p' (.lst (xs.drop (k + (xs.length : Int)).toNat)))) : rSlL K (.ref p) (some k) none H Q := ⟨p, xs, rfl, h, by rw [cut_neg h0]; exact q⟩
end
end Hf
namespace K07
open PySem PySem.Spec PyProof.Rows L2 Hf
local macro_rules | `(tactic| walk_at "g_ne") => `(tactic| first | (with_reducible assumption) | (apply Hf.ne_at; (with_reducible assumption)) | ((with_reducible refine' Hf.ne_new ?n9 ?h9); (case n9 => (with_reducible assumption)); (case h9 => walk_at "g_lk")) | ((with_reducible refine' Hf.ne_new' ?n9 ?h9); (case n9 => (with_reducible assumption)); (case h9 => walk_at "g_lk")) | fail "g_ne")
local macro_rules | `(tactic| walk_at "g_lk") => `(tactic| first | (with_reducible assumption) | (with_reducible exact L2.upd_same) | ((with_reducible refine' Hf.lk_new ?n9 ?h9); (case n9 => (with_reducible assumption)); (case h9 => walk_at "g_lk")) | ((with_reducible refine' Hf.lk_updG ?g9 ?n9 ?h9); (case g9 => ((fail_if_success ((apply Hf.Guard.of); (with_reducible assumption))); exact trivial)); (case n9 => walk_at "g_ne"); (case h9 => walk_at "g_lk")) | ((with_reducible refine' Hf.lk_same ?n9 ?h9); (case n9 => (with_reducible assumption)); (case h9 => walk_at "g_lk")) | ((with_reducible refine' Hf.lk_but ?m9 ?n9 ?h9); (case m9 => (with_reducible assumption)); (case n9 => walk_at "g_ne"); (case h9 => walk_at "g_lk")) | ((with_reducible refine' Hf.lk_but2 ?m9 ?n9 ?n8 ?h9); (case m9 => (with_reducible assumption)); (case n9 => walk_at "g_ne"); (case n8 => walk_at "g_ne"); (case h9 => walk_at "g_lk")) | fail "g_lk")
local macro_rules | `(tactic| walk_at "g_sq") => `(tactic| first | (with_reducible assumption) | (with_reducible exact L2.SqL.of L2.upd_same) | (with_reducible exact L2.SqT.of L2.upd_same) | (with_reducible exact L2.SqL.of (by with_reducible assumption)) | (with_reducible exact L2.SqT.of (by with_reducible assumption)) | ((with_reducible refine' Hf.lkL_new ?n9 ?h9); (case n9 => (with_reducible assumption)); (case h9 => walk_at "g_sq")) | ((with_reducible refine' Hf.lkT_new ?n9 ?h9); (case n9 => (with_reducible assumption)); (case h9 => walk_at "g_sq")) | ((with_reducible refine' Hf.lkL_updG ?g9 ?n9 ?h9); (case g9 => ((fail_if_success ((apply Hf.Guard.of); (with_reducible assumption))); exact trivial)); (case n9 => walk_at "g_ne"); (case h9 => walk_at "g_sq")) | ((with_reducible refine' Hf.lkT_updG ?g9 ?n9 ?h9); (case g9 => ((fail_if_success ((apply Hf.Guard.of); (with_reducible assumption))); exact trivial)); (case n9 => walk_at "g_ne"); (case h9 => walk_at "g_sq")) | ((with_reducible refine' L2.Same.seq ?n9 ?h9); (case n9 => (with_reducible assumption)); (case h9 => walk_at "g_sq")) | ((with_reducible refine' Hf.Same.seqT ?n9 ?h9); (case n9 => (with_reducible assumption)); (case h9 => walk_at "g_sq")) | ((with_reducible refine' Hf.But.seq ?m9 ?n9 ?h9); (case m9 => (with_reducible assumption)); (case n9 => walk_at "g_ne"); (case h9 => walk_at "g_sq")) | ((with_reducible refine' Hf.But.seqT ?m9 ?n9 ?h9); (case m9 => (with_reducible assumption)); (case n9 => walk_at "g_ne"); (case h9 => walk_at "g_sq")) | ((with_reducible refine' Hf.But2.seq ?m9 ?n9 ?n8 ?h9); (case m9 => (with_reducible assumption)); (case n9 => walk_at "g_ne"); (case n8 => walk_at "g_ne"); (case h9 => walk_at "g_sq")) | ((with_reducible refine' Hf.But2.seqT ?m9 ?n9 ?n8 ?h9); (case m9 => (with_reducible assumption)); (case n9 => walk_at "g_ne"); (case n8 => walk_at "g_ne"); (case h9 => walk_at "g_sq")) | fail "g_sq")
local macro_rules | `(tactic| walk_at "g_but") => `(tactic| first | (with_reducible exact Hf.But.refl _ _) | (with_reducible assumption) | (with_reducible refine Hf.But.newT (by with_reducible assumption) ?_; walk_at "g_but") | (with_reducible refine Hf.But.upd ?_; walk_at "g_but") | (with_reducible refine Hf.But.transT (by with_reducible assumption) ?_; walk_at "g_but") | (with_reducible refine Hf.But.transS (by with_reducible assumption) ?_; walk_at "g_but") | fail "g_but")
local macro_rules | `(tactic| walk_at "g_but2") => `(tactic| first | (with_reducible exact Hf.But2.refl _ _ _) | (with_reducible assumption) | (with_reducible refine Hf.But2.newT (by with_reducible assumption) ?_; walk_at "g_but2") | (with_reducible refine Hf.But2.updL ?_; walk_at "g_but2") | (with_reducible refine Hf.But2.updR ?_; walk_at "g_but2") | (with_reducible refine Hf.But2.transT (by with_reducible assumption) ?_; walk_at "g_but2") | (with_reducible refine Hf.But2.transS (by with_reducible assumption) ?_; walk_at "g_but2") | (with_reducible refine Hf.But2.transL (by with_reducible assumption) ?_; walk_at "g_but2") | (with_reducible refine Hf.But2.transR (by with_reducible assumption) ?_; walk_at "g_but2") | (with_reducible refine Hf.But2.mut (by with_reducible assumption) ?_; walk_at "g_but2") | (with_reducible refine Hf.But2.butT (by with_reducible assumption) (by with_reducible assumption) ?_; walk_at "g_but2") | fail "g_but2")
local macro_rules | `(tactic| walk_at "g_same") => `(tactic| first | (with_reducible exact L2.Same.refl _) | (with_reducible assumption) | (with_reducible refine Hf.Same.newT' (by with_reducible assumption) ?_; walk_at "g_same") | (with_reducible refine Hf.Same.mut ?_ (by walk_at "g_free"); walk_at "g_same") | (with_reducible refine Hf.Same.butT (by with_reducible assumption) (by walk_at "g_free") ?_; walk_at "g_same") | (with_reducible refine Hf.Same.but2T (by with_reducible assumption) (by walk_at "g_free") (by walk_at "g_free") ?_; walk_at "g_same") | (with_reducible refine Hf.Same.transT (by with_reducible assumption) ?_; walk_at "g_same") | fail "g_same")
local macro_rules | `(tactic| walk_at "g_free") => `(tactic| first | (with_reducible assumption) | ((with_reducible refine' Hf.Same.free' (by with_reducible assumption) ?h7); (case h7 => walk_at "g_same")) | ((with_reducible refine' Hf.But.free (by with_reducible assumption) ?h7 ?h8); (case h7 => walk_at "g_but"); (case h8 => walk_at "g_lk")) | ((with_reducible refine' Hf.But2.free (by with_reducible assumption) ?h7 ?h8 ?h6); (case h7 => walk_at "g_but2"); (case h8 => walk_at "g_lk"); (case h6 => walk_at "g_lk")) | fail "g_free")
local macro_rules | `(tactic| walk_at "g_set") => `(tactic| first | (with_reducible exact Hf.set_n0) | (with_reducible exact Hf.set_n1) | (with_reducible exact Hf.set_n2) | (with_reducible exact Hf.set_n3) | (with_reducible exact Hf.set_n4) | (with_reducible exact Hf.set_n5) | (with_reducible exact Hf.set_n6) | (with_reducible exact Hf.set_n7) | (with_reducible exact Hf.set_n8) | (with_reducible exact Hf.set_n9) | (with_reducible exact Hf.set_n10) | (with_reducible exact Hf.set_n11) | (with_reducible exact Hf.set_n12) | (with_reducible exact Hf.set_n13) | (with_reducible exact Hf.set_n14) | (with_reducible exact Hf.set_n15) | (with_reducible exact Hf.set_n16) | (with_reducible exact Hf.set_n17) | (with_reducible exact Hf.set_n18) | (with_reducible exact Hf.set_n19) | (with_reducible exact Hf.set_n20) | (with_reducible exact Hf.set_n21) | (with_reducible exact Hf.set_n22) | (with_reducible exact Hf.set_n23) | (with_reducible exact Hf.set_n24) | (with_reducible exact Hf.set_n25) | (with_reducible exact Hf.set_n26) | (with_reducible exact Hf.set_n27) | (with_reducible exact Hf.set_n28) | (with_reducible exact Hf.set_n29) | fail "g_set")
local macro_rules | `(tactic| walk_at "g_sz") => `(tactic| first | exact Hf.sz4 (by decide) | exact Hf.sz4' (by decide) | (refine Hf.sz4 ?_; simp; done) | (refine Hf.sz4 ?_; simp; omega) | (refine Hf.sz4 ?_; simp only [List.length_cons, List.length_nil, List.length_take, List.length_drop, List.length_map, List.length_append, List.length_replicate]; omega) | (refine Hf.sz4' ?_; simp; omega) | (refine Hf.sz4' ?_; omega) | (refine Hf.sz4 ?_; omega) | fail "g_sz")
local macro_rules | `(tactic| walk_at "g_at") => `(tactic| first | rfl | assumption | fail "g_at")
local macro_rules | `(tactic| walk_at "g_c") => `(tactic| first | assumption | omega | decide | (refine Hf.mulL ?_; omega) | (refine Hf.mulR ?_; omega) | (refine Hf.divS ?_ ?_ <;> omega) | (refine Hf.mulL ?_; split <;> omega) | (refine ⟨?_, ?_, ?_⟩ <;> first | omega | decide) | (refine ⟨?_, ?_⟩ <;> first | assumption | omega) | fail "g_c")
local macro_rules | `(tactic| walk_at "g_ixn") => `(tactic| first | (show L2.ixN _ _ = some 0; rfl) | (show L2.ixN _ _ = some 1; rfl) | (show L2.ixN _ _ = some 2; rfl) | (show L2.ixN _ _ = some 3; rfl) | (show L2.ixN _ _ = some 4; rfl) | (show L2.ixN _ _ = some 5; rfl) | (show L2.ixN _ _ = some 6; rfl) | (show L2.ixN _ _ = some 7; rfl) | assumption | fail "g_ixn")
local macro_rules | `(tactic| walk_at "g_pow") => `(tactic| first | (show (10 : Int) ^ (9 : Int).toNat = 1000000000; rfl) | (show (10 : Int) ^ (18 : Int).toNat = 1000000000000000000; rfl) | (show (10 : Int) ^ (20 : Int).toNat = 100000000000000000000; rfl) | (show (10 : Int) ^ (29 : Int).toNat = 100000000000000000000000000000; rfl) | (show (10 : Int) ^ (26 : Int).toNat = 100000000000000000000000000; rfl) | (show (10 : Int) ^ (10 : Int).toNat = 10000000000; rfl) | (show (10 : Int) ^ (19 : Int).toNat = 10000000000000000000; rfl) | (show (10 : Int) ^ (27 : Int).toNat = 1000000000000000000000000000; rfl) | (show (10 : Int) ^ (28 : Int).toNat = 10000000000000000000000000000; rfl) | (show (10 : Int) ^ (25 : Int).toNat = 10000000000000000000000000; rfl) | (show (10 : Int) ^ (30 : Int).toNat = 1000000000000000000000000000000; rfl) | (show (10 : Int) ^ (2 : Int).toNat = 100; rfl) | (show (10 : Int) ^ (3 : Int).toNat = 1000; rfl) | (show (_ : Int) ^ (3 : Int).toNat = _; rfl) | fail "g_pow")
local macro_rules | `(tactic| walk_at "g_ty") => `(tactic| first | exact .base .non | exact .base (.bl _) | exact .base (.int _) | exact .base (.str _) | exact .base (.lst (by walk_at "g_lk")) | exact .base (.tup (by walk_at "g_lk")) | exact .base (.dK (by walk_at "g_lk")) | exact .base (.dT (by walk_at "g_lk")) | fail "g_ty")
local macro_rules | `(tactic| walk_at "g_pre") => `(tactic| first | (with_reducible assumption) | walk_at "g_lk" | walk_at "g_sq" | walk_at "g_but" | walk_at "g_but2" | walk_at "g_same" | walk_at "g_free" | omega | (refine ⟨?_, ?_⟩ <;> omega) | exact .inl (by omega) | exact .inr (by omega) | (with_reducible assumption) | fail "g_pre")
local macro_rules | `(tactic| walk_at "g_call") => `(tactic| fail "g_call: no rule")
local macro_rules | `(tactic| walk_at "g_val") => `(tactic| first
  | (with_reducible refine' Hf.i_I0 ?_)
  | ((with_reducible refine' Hf.i_pow ?k1 ?k2 ?_); (case k1 => walk_at "g_c"); (case k2 => walk_at "g_pow"))
  | ((with_reducible refine' Hf.i_I ?k1 ?_); (case k1 => walk_at "g_c"))
  | (with_reducible refine' Hf.i_U ?_)
  | (with_reducible refine' Hf.i_eqI ?_)
  | (with_reducible refine' Hf.i_neI ?_)
  | (with_reducible refine' Hf.i_eqB ?_)
  | (with_reducible refine' Hf.i_neB ?_)
  | (with_reducible refine' Hf.i_eqS ?_)
  | (with_reducible refine' Hf.i_neS ?_)
  | ((with_reducible refine' Hf.i_ixL ?k1 ?k2 ?_); (case k1 => walk_at "g_sq"); (case k2 => walk_at "g_at"))
  | ((with_reducible refine' Hf.i_ixT ?k1 ?k2 ?_); (case k1 => walk_at "g_sq"); (case k2 => walk_at "g_at"))
  | ((with_reducible refine' Hf.i_ix2I ?k1 ?k2 ?k3 ?_); (case k1 => walk_at "g_sq"); (case k2 => omega); (case k3 => omega); intro _ _)
  | ((with_reducible refine' Hf.i_ix3I ?k1 ?k2 ?k3 ?_); (case k1 => walk_at "g_sq"); (case k2 => omega); (case k3 => omega); intro _ _)
  | ((with_reducible refine' Hf.i_ix4I ?k1 ?k2 ?k3 ?_); (case k1 => walk_at "g_sq"); (case k2 => omega); (case k3 => omega); intro _ _)
  | ((with_reducible refine' Hf.i_ix3R ?k1 ?k2 ?k3 ?_); (case k1 => walk_at "g_sq"); (case k2 => omega); (case k3 => omega); intro _ _)
  | ((with_reducible refine' Hf.i_ix4R ?k1 ?k2 ?k3 ?_); (case k1 => walk_at "g_sq"); (case k2 => omega); (case k3 => omega); intro _ _)
  | (with_reducible refine' Hf.i_abs ?_)
  | (with_reducible refine' Hf.i_int2 ?_)
  | (with_reducible refine' Hf.i_int1 ?_)
  | (with_reducible refine' Hf.i_intb ?_)
  | ((with_reducible refine' Hf.i_isi ?k1 ?k2 ?_); (case k1 => walk_at "g_ty"); (case k2 => first | (show L2.kitB _ _ = some true; decide +kernel) | (show L2.kitB _ _ = some false; decide +kernel)))
  | ((with_reducible refine' Hf.i_lenL ?k1 ?_); (case k1 => walk_at "g_sq"))
  | ((with_reducible refine' Hf.i_lenT ?k1 ?_); (case k1 => walk_at "g_sq"))
  | ((with_reducible refine' Hf.i_appendM ?k1 ?k2 ?_); (case k1 => walk_at "g_lk"); (case k2 => walk_at "g_sz"))
  | ((with_reducible refine' Hf.i_append ?k1 ?k2 ?_); (case k1 => walk_at "g_lk"); (case k2 => walk_at "g_sz"))
  | ((with_reducible refine' Hf.i_bmL ?k1 ?_); (case k1 => walk_at "g_sq"))
  | ((with_reducible refine' Hf.i_setLast ?k1 ?k2 ?_); (case k1 => walk_at "g_lk"); (case k2 => first | omega | (simp; done) | (simp; omega)))
  | ((with_reducible refine' Hf.i_setM ?k1 ?k2 ?k3 ?_); (case k1 => walk_at "g_lk"); (case k2 => omega); (case k3 => first | omega | (simp; done) | (simp; omega)))
  | ((with_reducible refine' Hf.i_setL ?k1 ?k2 ?_); (case k1 => walk_at "g_lk"); (case k2 => walk_at "g_ixn"); (try dsimp only [List.set_cons_zero, List.set_cons_succ])) | fail "g_val")
local macro_rules | `(tactic| walk_at "g_val2") => `(tactic| first
  | ((with_reducible refine' Hf.i_slInitM ?k1 ?_); (case k1 => walk_at "g_sq"); intro _ _)
  | ((with_reducible refine' Hf.i_ixLast ?k1 ?k2 ?_); (case k1 => walk_at "g_sq"); (case k2 => first | omega | (simp; done) | (simp; omega)); intro _ _)
  | ((with_reducible refine' Hf.i_slToM ?k1 ?k2 ?_); (case k1 => walk_at "g_sq"); (case k2 => omega); intro _ _)
  | ((with_reducible refine' Hf.i_slFromM ?k1 ?k2 ?_); (case k1 => walk_at "g_sq"); (case k2 => omega); intro _ _)
  | ((with_reducible refine' Hf.i_slMidM ?k1 ?k2 ?k3 ?_); (case k1 => walk_at "g_sq"); (case k2 => omega); (case k3 => omega); intro _ _)
  | ((with_reducible refine' Hf.i_slTo ?k1 ?k2 ?_); (case k1 => walk_at "g_sq"); (case k2 => omega); intro _ _)
  | ((with_reducible refine' Hf.i_slFrom ?k1 ?k2 ?_); (case k1 => walk_at "g_sq"); (case k2 => omega); intro _ _)
  | ((with_reducible refine' Hf.i_slMid ?k1 ?k2 ?k3 ?_); (case k1 => walk_at "g_sq"); (case k2 => omega); (case k3 => omega); intro _ _)
  | ((with_reducible refine' Hf.i_eqT2 ?k1 ?k2 ?_); (case k1 => walk_at "g_sq"); (case k2 => walk_at "g_sq"))
  | (with_reducible refine' Hf.i_sl ?_)
  | ((with_reducible refine' Hf.i_lenA ?k1 ?_); (case k1 => first | exact Hf.lenA_map (by walk_at "g_sq") | exact Hf.lenA_L (by walk_at "g_sq") | exact Hf.lenA_T (by walk_at "g_sq")))
  | ((with_reducible refine' Hf.i_ixM ?k1 ?k2 ?k3 ?_); (case k1 => walk_at "g_sq"); (case k2 => omega); (case k3 => first | omega | (simp; omega)); intro _ _)
  | ((with_reducible refine' Hf.i_listOf ?k1 ?_); (case k1 => walk_at "g_sq"); intro _ _)
  | ((with_reducible refine' Hf.i_listOfT ?k1 ?_); (case k1 => walk_at "g_sq"); intro _ _)
  | ((with_reducible refine' Hf.i_sum ?k1 ?_); (case k1 => walk_at "g_sq"))
  | ((with_reducible refine' Hf.i_all ?k1 ?_); (case k1 => walk_at "g_sq"))
  | ((with_reducible refine' Hf.i_min ?k1 ?k2 ?_); (case k1 => walk_at "g_sq"); (case k2 => omega); intro _ _ _)
  | ((with_reducible refine' Hf.i_max ?k1 ?k2 ?_); (case k1 => walk_at "g_sq"); (case k2 => omega); intro _ _ _)
  | ((with_reducible refine' Hf.i_eqLI ?k1 ?k2 ?_); (case k1 => walk_at "g_sq"); (case k2 => walk_at "g_sq"))
  | ((with_reducible refine' Hf.i_neLI ?k1 ?k2 ?_); (case k1 => walk_at "g_sq"); (case k2 => walk_at "g_sq"))
  | ((with_reducible refine' Hf.i_eqL0 ?k1 ?k2 ?_); (case k1 => walk_at "g_sq"); (case k2 => walk_at "g_sq"))
  | ((with_reducible refine' Hf.i_eq00 ?k1 ?k2 ?_); (case k1 => walk_at "g_sq"); (case k2 => walk_at "g_sq"))
  | ((with_reducible refine' Hf.i_ne00 ?k1 ?k2 ?_); (case k1 => walk_at "g_sq"); (case k2 => walk_at "g_sq"))
  | ((with_reducible refine' Hf.i_reverse ?k1 ?_); (case k1 => walk_at "g_lk"))
  | ((with_reducible refine' Hf.i_glst ?k1 ?k2 ?_); (case k1 => walk_at "g_sq"); (case k2 => rfl))
  | (with_reducible refine' Hf.i_lc ?_)
  | ((with_reducible refine' Hf.i_turn ?k1 ?_); (case k1 => first | ((show L2.wipe _ [_] = _); (apply Hf.wipe_one); walk_at "g_set") | ((show L2.wipe _ [_, _] = _); (apply Hf.wipe_two); walk_at "g_set"; walk_at "g_set") | ((show L2.wipe _ [_, _, _] = _); (apply Hf.wipe_three); walk_at "g_set"; walk_at "g_set"; walk_at "g_set")))
  | ((with_reducible refine' Hf.i_wiped ?k1 ?_); (case k1 => rfl))
  | (with_reducible refine' Hf.i_yes ?_)
  | (with_reducible refine' Hf.i_nopart ?_)
  | (with_reducible refine' Hf.i_part ?_)
  | (with_reducible refine' Hf.i_exint ?_)
  | ((with_reducible refine' Hf.i_catM ?k1 ?k2 ?k3 ?_); (case k1 => walk_at "g_lk"); (case k2 => walk_at "g_lk"); (case k3 => (simp; omega)); intro _ _)
  | ((with_reducible refine' Hf.i_catM1 ?k1 ?k2 ?k3 ?_); (case k1 => walk_at "g_lk"); (case k2 => walk_at "g_lk"); (case k3 => first | omega | (simp; omega)); intro _ _)
  | ((with_reducible refine' Hf.i_cat ?k1 ?k2 ?k3 ?_); (case k1 => walk_at "g_lk"); (case k2 => walk_at "g_lk"); (case k3 => walk_at "g_sz"); intro _ _)
  | ((with_reducible refine' Hf.i_repM ?k1 ?k2 ?_); (case k1 => walk_at "g_lk"); (case k2 => omega); intro _ _)
  | ((with_reducible refine' Hf.i_rep1 ?k1 ?k2 ?_); (case k1 => walk_at "g_lk"); (case k2 => omega); intro _ _) | fail "g_val2")
local macro_rules | `(tactic| walk_at "g1") => `(tactic| first
  | ((with_reducible refine' Hf.i_var ?k1 ?_); (case k1 => rfl))
  | (with_reducible refine' Hf.i_c ?_)
  | (with_reducible refine' Hf.i_op ?_)
  | (with_reducible refine' Hf.i_cons ?_)
  | (with_reducible refine' Hf.i_nil ?_)
  | (with_reducible refine' Hf.i_seq ?_)
  | (with_reducible refine' Hf.i_asg ?_)
  | ((with_reducible refine' Hf.i_gname ?k1 ?_); (case k1 => walk_at "g_set"))
  | (with_reducible refine' Hf.i_ret ?_)
  | (with_reducible refine' Hf.i_next ?_)
  | (with_reducible refine' Hf.i_ifs ?_)
  | ((with_reducible refine' Hf.ite_y ?k1 ?_); (case k1 => rfl))
  | ((with_reducible refine' Hf.ite_n ?k1 ?_); (case k1 => rfl))
  | (with_reducible refine' Hf.i_test ?_)
  | (with_reducible refine' Hf.i_B ?_)
  | (with_reducible refine' Hf.i_bl ?_)
  | (with_reducible refine' Hf.i_call ?_)
  | (with_reducible refine' Hf.i_cb ?_)
  | (with_reducible refine' Hf.i_tup ?_)
  | (with_reducible refine' Hf.i_lst ?_)
  | ((with_reducible refine' Hf.i_new ?k1 ?_); (case k1 => walk_at "g_sz"); intro _ _)
  | (with_reducible refine' Hf.i_un ?_)
  | (with_reducible refine' Hf.i_and ?_)
  | (with_reducible refine' Hf.i_or ?_)
  | (with_reducible refine' Hf.i_not ?_)
  | (with_reducible refine' Hf.i_andV ?_)
  | (with_reducible refine' Hf.i_orV ?_)
  | (with_reducible refine' Hf.i_notV ?_)
  | (with_reducible refine' Hf.i_ife ?_)
  | (with_reducible refine' Hf.i_drop ?_)
  | (with_reducible refine' Hf.i_par ?_)
  | ((with_reducible refine' Hf.i_par2 ?k1 ?_); (case k1 => (apply Hf.set_par; walk_at "g_set"; walk_at "g_set")))
  | ((with_reducible refine' Hf.i_aug ?k1 ?_); (case k1 => rfl))
  | (with_reducible refine' Hf.i_ip ?_)
  | (with_reducible refine' Hf.i_bm ?_)
  | (with_reducible refine' Hf.i_bm0 ?_)
  | ((with_reducible refine' Hf.i_gtup ?k1 ?k2 ?_); (case k1 => walk_at "g_sq"); (case k2 => rfl))
  | (with_reducible refine' Hf.i_gcons ?_)
  | (with_reducible refine' Hf.i_gnil ?_)
  | (with_reducible refine' Hf.i_gsub ?_)
  | (with_reducible refine' Hf.i_for ?_)
  | (with_reducible refine' Hf.i_rng1 ?_)
  | ((with_reducible refine' Hf.i_rng1' ?k1 ?k2 ?_); (case k1 => omega); (case k2 => omega))
  | (with_reducible refine' Hf.i_rng2 ?_)
  | ((with_reducible refine' Hf.i_rng2' ?k1 ?_); (case k1 => omega))
  | (with_reducible refine' Hf.i_ilist ?_)
  | ((with_reducible refine' Hf.i_ilist' ?k1 ?_); (case k1 => walk_at "g_sq"))
  | (with_reducible refine' Hf.i_itup ?_)
  | ((with_reducible refine' Hf.i_itup' ?k1 ?_); (case k1 => walk_at "g_sq"))
  | (with_reducible refine' Hf.i_retN ?_)
  | (with_reducible refine' Hf.i_brk ?_)
  | (with_reducible refine' Hf.i_cnt ?_)
  | walk_at "g_val"
  | walk_at "g_val2"
  | walk_at "g_call"
  | (with_reducible refine' Hf.i_isn ?_)
  | (with_reducible refine' Hf.i_tru ?_)
  | dsimp only | fail "g1")
local macro_rules | `(tactic| walk_at "go") => `(tactic| repeat walk_at "g1")
local macro_rules | `(tactic| walk_at "goI") => `(tactic| repeat ((fail_if_success (with_reducible refine' Hf.i_ifs ?_)); walk_at "g1"))
local macro_rules | `(tactic| walk_at "goF") => `(tactic| repeat ((fail_if_success (with_reducible refine' Hf.i_for ?_)); walk_at "g1"))
local macro_rules | `(tactic| walk_at "g_but") => `(tactic| first | (with_reducible exact Hf.But.refl _ _) | (with_reducible assumption) | (with_reducible refine Hf.But.newT (by with_reducible assumption) ?_; walk_at "g_but") | (with_reducible refine Hf.But.upd ?_; walk_at "g_but") | (with_reducible refine Hf.But.mutD (by with_reducible assumption) ?_; walk_at "g_but") | (with_reducible refine Hf.But.mutSD (by with_reducible assumption) (by walk_at "g_free") ?_; walk_at "g_but") | (with_reducible refine Hf.But.transT (by with_reducible assumption) ?_; walk_at "g_but") | (with_reducible refine Hf.But.transS (by with_reducible assumption) ?_; walk_at "g_but") | fail "g_but")
local macro_rules | `(tactic| walk_at "g_dq") => `(tactic| first | (with_reducible assumption) | ((with_reducible refine' Hf.Dq.same ?s9 ?d9); (case d9 => (with_reducible assumption)); (case s9 => walk_at "g_same")) | ((with_reducible refine' Hf.dq_mix ?q9 ?h9 ?s9); (case q9 => (with_reducible assumption)); (case h9 => walk_at "g_lk"); (case s9 => walk_at "g_same")) | ((with_reducible refine' Hf.Dq.same (Hf.hid_mono ?s9) ?d9); (case d9 => (with_reducible assumption)); (case s9 => walk_at "g_same")) | ((with_reducible refine' Hf.dq_two ?h5 ?h6 ?h7 ?h8 ?h9); (case h5 => walk_at "g_lk"); (case h6 => walk_at "g_lk"); (case h7 => walk_at "g_lk"); (case h8 => walk_at "g_lk"); (case h9 => walk_at "g_lk")) | fail "g_dq")
local macro_rules | `(tactic| walk_at "g_pre") => `(tactic| walk_at "g_dq")
local macro_rules | `(tactic| walk_at "g_val2") => `(tactic| first
  | ((with_reducible refine' Hf.i_neDq ?k1 ?k2 ?k3 ?_); (case k1 => walk_at "g_dq"); (case k2 => walk_at "g_dq"); (case k3 => first | exact Hf.shaped_mix _))
  | ((with_reducible refine' Hf.i_neL2 ?k1 ?k2 ?_); (case k1 => walk_at "g_sq"); (case k2 => walk_at "g_sq"))
  | ((with_reducible refine' Hf.i_reverseV ?k1 ?_); (case k1 => walk_at "g_lk"))
  | (with_reducible refine' Hf.i_rev ?_)
  | ((with_reducible refine' Hf.i_revV ?k1 ?_); (case k1 => walk_at "g_sq"); intro _ _)
  | fail "g_val2d")
local macro_rules | `(tactic| walk_at "goO") => `(tactic| repeat (first | walk_at "g1" | (with_reducible refine' Hf.ite_y (decide_eq_true (by omega)) ?_) | (with_reducible refine' Hf.ite_n (decide_eq_false (by omega)) ?_)))
local macro_rules | `(tactic| walk_at "g_val2") => `(tactic| first
  | (with_reducible refine' Hf.i_min2 ?_)
  | (with_reducible refine' Hf.i_min3 ?_)
  | fail "g_val2b")
local macro_rules | `(tactic| walk_at "g_free") => `(tactic| first | (with_reducible assumption) | ((with_reducible refine' Hf.Newly.free ?n7 ?h7); (case n7 => (with_reducible assumption)); (case h7 => walk_at "g_lk")) | ((with_reducible refine' Hf.Same.free' (by with_reducible assumption) ?h7); (case h7 => walk_at "g_same")) | ((with_reducible refine' Hf.But.free (by with_reducible assumption) ?h7 ?h8); (case h7 => walk_at "g_but"); (case h8 => walk_at "g_lk")) | fail "g_free")
local macro_rules | `(tactic| walk_at "g_pk") => `(tactic| first | (with_reducible assumption) | ((with_reducible refine' Hf.Pk.newT ?n9 ?h9); (case n9 => (with_reducible assumption)); (case h9 => walk_at "g_pk")) | ((with_reducible refine' Hf.Pk.sameT ?n9 ?h9); (case n9 => (with_reducible assumption)); (case h9 => walk_at "g_pk")) | fail "g_pk")
local macro_rules | `(tactic| walk_at "g_pre") => `(tactic| walk_at "g_pk")
local macro_rules | `(tactic| walk_at "g_free") => `(tactic| first | ((with_reducible refine' Hf.Pk.free (by with_reducible assumption) ?h7 ?h8); (case h8 => walk_at "g_pk"); (case h7 => walk_at "g_but")) | fail "macp")
local macro_rules | `(tactic| walk_at "g_free") => `(tactic| first | ((with_reducible refine' Hf.Newly.pk ?n7 ?h7); (case n7 => (with_reducible assumption)); (case h7 => walk_at "g_pk")) | fail "macp")
local macro_rules | `(tactic| walk_at "g_ne") => `(tactic| first | ((with_reducible refine' Hf.Pk.ne ?n9 ?h9); (case n9 => (with_reducible assumption)); (case h9 => walk_at "g_pk")) | fail "macp")
local macro_rules | `(tactic| walk_at "g_ne") => `(tactic| first | ((with_reducible refine' Hf.Pk.neo ?n9 ?h9); (case n9 => (with_reducible assumption)); (case h9 => (with_reducible assumption))) | fail "macp")
local macro_rules | `(tactic| walk_at "g_val2") => `(tactic| first | ((with_reducible refine' Hf.i_tupOfL ?k1 ?_); (case k1 => walk_at "g_sq"); intro _ _) | fail "macp")
local macro_rules | `(tactic| walk_at "g_val") => `(tactic| first | ((with_reducible refine' Hf.i_intY ?k1 ?_); (case k1 => exact decide_eq_true (by omega))) | ((with_reducible refine' Hf.i_intN ?k1 ?_); (case k1 => exact decide_eq_false (by omega))) | fail "g_valp")
local macro_rules | `(tactic| walk_at "g_val2") => `(tactic| first | ((with_reducible refine' Hf.i_neDq ?k1 ?k2 ?k3 ?_); (case k1 => walk_at "g_dq"); (case k2 => walk_at "g_dq"); (case k3 => first | exact Hf.shaped_bat _ _ _ | exact Hf.shaped_mix _ | assumption)) | fail "macp")
local macro_rules | `(tactic| walk_at "g_val2") => `(tactic| first
  | ((with_reducible refine' Hf.i_sortedI ?k1 ?k2 ?_); (case k1 => walk_at "g_sq"); (case k2 => assumption); intro _ _)
  | ((with_reducible refine' Hf.i_slNeg ?k1 ?k2 ?_); (case k1 => walk_at "g_sq"); (case k2 => omega); intro _ _) | fail "g_val2t")

section
variable {P : Program} {w : World} {K : PySem.W.Frag} {mg : Str → Option Value} {base : Heap}
def topS (i : Nat) : Stmt := PySem.Challenge.pw_hostfields_k07_whole_more_hosts_help.main.body.getD i (.Pass ⟨0, 0, 0, 0⟩)
abbrev s_is_number : Stmt := topS 7
abbrev s_are_numbers : Stmt := topS 8
abbrev s_is_rule : Stmt := topS 9
abbrev s_is_field : Stmt := topS 10
abbrev s_look_battle : Stmt := topS 11
abbrev s_paid : Stmt := topS 12
abbrev s_pay : Stmt := topS 13
abbrev s_rises_on : Stmt := topS 14
abbrev s_rises : Stmt := topS 15
abbrev s_l_mix : Stmt := topS 17
abbrev s_l_cell_at : Stmt := topS 18
abbrev s_l_left : Stmt := topS 19
abbrev s_l_draw : Stmt := topS 20
abbrev s_l_some : Stmt := topS 21
abbrev s_l_rule : Stmt := topS 22
abbrev s_l_battle : Stmt := topS 23
abbrev s_l_deep : Stmt := topS 24
abbrev s_l_paid : Stmt := topS 25
abbrev s_l_rises : Stmt := topS 26
abbrev s_l_rising : Stmt := topS 27
abbrev s_law : Stmt := topS 28
theorem sc_is_number : FnScope ["thing"] ["thing"] (defScope s_is_number) := ⟨rfl, rfl, rfl, by decide +kernel, rfl, by decide +kernel, by decide +kernel⟩
theorem sc_are_numbers : FnScope ["thing", "many", "number"] ["thing", "many"] (defScope s_are_numbers) := ⟨rfl, rfl, rfl, by decide +kernel, rfl, by decide +kernel, by decide +kernel⟩
theorem sc_is_rule : FnScope ["field"] ["field"] (defScope s_is_rule) := ⟨rfl, rfl, rfl, by decide +kernel, rfl, by decide +kernel, by decide +kernel⟩
theorem sc_is_field : FnScope ["field", "first", "second", "row"] ["field", "first", "second"] (defScope s_is_field) := ⟨rfl, rfl, rfl, by decide +kernel, rfl, by decide +kernel, by decide +kernel⟩
theorem sc_look_battle : FnScope ["battle", "first", "second", "fields", "k"] ["battle"] (defScope s_look_battle) := ⟨rfl, rfl, rfl, by decide +kernel, rfl, by decide +kernel, by decide +kernel⟩
theorem sc_paid : FnScope ["field", "x", "y"] ["field", "x", "y"] (defScope s_paid) := ⟨rfl, rfl, rfl, by decide +kernel, rfl, by decide +kernel, by decide +kernel⟩
theorem sc_pay : FnScope ["battle", "field", "x", "y", "first", "second", "fields"] ["battle", "field", "x", "y"] (defScope s_pay) := ⟨rfl, rfl, rfl, by decide +kernel, rfl, by decide +kernel, by decide +kernel⟩
theorem sc_rises_on : FnScope ["field", "first", "second", "x", "y"] ["field", "first", "second"] (defScope s_rises_on) := ⟨rfl, rfl, rfl, by decide +kernel, rfl, by decide +kernel, by decide +kernel⟩
theorem sc_rises : FnScope ["battle", "field"] ["battle"] (defScope s_rises) := ⟨rfl, rfl, rfl, by decide +kernel, rfl, by decide +kernel, by decide +kernel⟩
theorem sc_l_mix : FnScope ["_law_number", "_law_k", "_law_mixed"] ["_law_number", "_law_k"] (defScope s_l_mix) := ⟨rfl, rfl, rfl, by decide +kernel, rfl, by decide +kernel, by decide +kernel⟩
theorem sc_l_cell_at : FnScope ["_law_script", "_law_k"] ["_law_script", "_law_k"] (defScope s_l_cell_at) := ⟨rfl, rfl, rfl, by decide +kernel, rfl, by decide +kernel, by decide +kernel⟩
theorem sc_l_left : FnScope ["_law_script", "_law_k", "_law_cell"] ["_law_script", "_law_k"] (defScope s_l_left) := ⟨rfl, rfl, rfl, by decide +kernel, rfl, by decide +kernel, by decide +kernel⟩
theorem sc_l_draw : FnScope ["_law_left_here", "_law_base", "_law_mixed", "_law_digit"] ["_law_left_here", "_law_base"] (defScope s_l_draw) := ⟨rfl, rfl, rfl, by decide +kernel, rfl, by decide +kernel, by decide +kernel⟩
theorem sc_l_some : FnScope ["_law_left_here", "_law_far"] ["_law_left_here"] (defScope s_l_some) := ⟨rfl, rfl, rfl, by decide +kernel, rfl, by decide +kernel, by decide +kernel⟩
theorem sc_l_rule : FnScope ["_law_left_here", "_law_first", "_law_second", "_law_kind", "_law_worth", "_law_x", "_law_y"] ["_law_left_here", "_law_first", "_law_second"] (defScope s_l_rule) := ⟨rfl, rfl, rfl, by decide +kernel, rfl, by decide +kernel, by decide +kernel⟩
theorem sc_l_battle : FnScope ["_law_left_here", "_law_most", "_law_fields", "_law_first", "_law_second", "_law_k"] ["_law_left_here", "_law_most", "_law_fields"] (defScope s_l_battle) := ⟨rfl, rfl, rfl, by decide +kernel, rfl, by decide +kernel, by decide +kernel⟩
theorem sc_l_deep : FnScope ["_law_thing", "_law_part"] ["_law_thing"] (defScope s_l_deep) := ⟨rfl, rfl, rfl, by decide +kernel, rfl, by decide +kernel, by decide +kernel⟩
theorem sc_l_paid : FnScope ["_law_field", "_law_x", "_law_y"] ["_law_field", "_law_x", "_law_y"] (defScope s_l_paid) := ⟨rfl, rfl, rfl, by decide +kernel, rfl, by decide +kernel, by decide +kernel⟩
theorem sc_l_rises : FnScope ["_law_battle_here", "_law_first", "_law_second", "_law_fields", "_law_one", "_law_x", "_law_y", "_law_here"] ["_law_battle_here"] (defScope s_l_rises) := ⟨rfl, rfl, rfl, by decide +kernel, rfl, by decide +kernel, by decide +kernel⟩
theorem sc_l_rising : FnScope ["_law_left_here", "_law_first", "_law_second", "_law_steps", "_law_rows", "_law_x", "_law_side", "_law_k", "_law_y"] ["_law_left_here", "_law_first", "_law_second"] (defScope s_l_rising) := ⟨rfl, rfl, rfl, by decide +kernel, rfl, by decide +kernel, by decide +kernel⟩
theorem sc_law : FnScope ["_law_script", "_law_cell", "_law_left_here", "_law_battle_here", "_law_first", "_law_second", "_law_fields", "_law_rows", "_law_bent", "_law_x", "_law_y", "_law_plain", "_law_listed", "_law_some_here", "_law_asked", "_law_handed", "_law_told", "_law_k", "_law_wins", "_law_field", "_law_one"] ["_law_script"] (defScope s_law) := ⟨rfl, rfl, rfl, by decide +kernel, rfl, by decide +kernel, by decide +kernel⟩
structure Txt (K : PySem.W.Frag) (mg : Str → Option Value) where
  a_is_number : Addr
  d_is_number : FuncData
  F_is_number : Fun K "is_number" "is_number" s_is_number a_is_number d_is_number
  g_is_number : mg "is_number" = some (.ref a_is_number)
  b_is_number : Binds K d_is_number ["thing"] []
  a_are_numbers : Addr
  d_are_numbers : FuncData
  F_are_numbers : Fun K "are_numbers" "are_numbers" s_are_numbers a_are_numbers d_are_numbers
  g_are_numbers : mg "are_numbers" = some (.ref a_are_numbers)
  b_are_numbers : Binds K d_are_numbers ["thing", "many"] []
  a_is_rule : Addr
  d_is_rule : FuncData
  F_is_rule : Fun K "is_rule" "is_rule" s_is_rule a_is_rule d_is_rule
  g_is_rule : mg "is_rule" = some (.ref a_is_rule)
  b_is_rule : Binds K d_is_rule ["field"] []
  a_is_field : Addr
  d_is_field : FuncData
  F_is_field : Fun K "is_field" "is_field" s_is_field a_is_field d_is_field
  g_is_field : mg "is_field" = some (.ref a_is_field)
  b_is_field : Binds K d_is_field ["field", "first", "second"] []
  a_look_battle : Addr
  d_look_battle : FuncData
  F_look_battle : Fun K "look_battle" "look_battle" s_look_battle a_look_battle d_look_battle
  g_look_battle : mg "look_battle" = some (.ref a_look_battle)
  b_look_battle : Binds K d_look_battle ["battle"] []
  a_paid : Addr
  d_paid : FuncData
  F_paid : Fun K "paid" "paid" s_paid a_paid d_paid
  g_paid : mg "paid" = some (.ref a_paid)
  b_paid : Binds K d_paid ["field", "x", "y"] []
  a_pay : Addr
  d_pay : FuncData
  F_pay : Fun K "pay" "pay" s_pay a_pay d_pay
  g_pay : mg "pay" = some (.ref a_pay)
  b_pay : Binds K d_pay ["battle", "field", "x", "y"] []
  a_rises_on : Addr
  d_rises_on : FuncData
  F_rises_on : Fun K "rises_on" "rises_on" s_rises_on a_rises_on d_rises_on
  g_rises_on : mg "rises_on" = some (.ref a_rises_on)
  b_rises_on : Binds K d_rises_on ["field", "first", "second"] []
  a_rises : Addr
  d_rises : FuncData
  F_rises : Fun K "rises" "rises" s_rises a_rises d_rises
  g_rises : mg "rises" = some (.ref a_rises)
  b_rises : Binds K d_rises ["battle"] []
  a_l_mix : Addr
  d_l_mix : FuncData
  F_l_mix : Fun K "_law_mix" "_law_mix" s_l_mix a_l_mix d_l_mix
  g_l_mix : mg "_law_mix" = some (.ref a_l_mix)
  b_l_mix : Binds K d_l_mix ["_law_number", "_law_k"] []
  a_l_cell_at : Addr
  d_l_cell_at : FuncData
  F_l_cell_at : Fun K "_law_cell_at" "_law_cell_at" s_l_cell_at a_l_cell_at d_l_cell_at
  g_l_cell_at : mg "_law_cell_at" = some (.ref a_l_cell_at)
  b_l_cell_at : Binds K d_l_cell_at ["_law_script", "_law_k"] []
  a_l_left : Addr
  d_l_left : FuncData
  F_l_left : Fun K "_law_left" "_law_left" s_l_left a_l_left d_l_left
  g_l_left : mg "_law_left" = some (.ref a_l_left)
  b_l_left : Binds K d_l_left ["_law_script", "_law_k"] []
  a_l_draw : Addr
  d_l_draw : FuncData
  F_l_draw : Fun K "_law_draw" "_law_draw" s_l_draw a_l_draw d_l_draw
  g_l_draw : mg "_law_draw" = some (.ref a_l_draw)
  b_l_draw : Binds K d_l_draw ["_law_left_here", "_law_base"] []
  a_l_some : Addr
  d_l_some : FuncData
  F_l_some : Fun K "_law_some" "_law_some" s_l_some a_l_some d_l_some
  g_l_some : mg "_law_some" = some (.ref a_l_some)
  b_l_some : Binds K d_l_some ["_law_left_here"] []
  a_l_rule : Addr
  d_l_rule : FuncData
  F_l_rule : Fun K "_law_rule" "_law_rule" s_l_rule a_l_rule d_l_rule
  g_l_rule : mg "_law_rule" = some (.ref a_l_rule)
  b_l_rule : Binds K d_l_rule ["_law_left_here", "_law_first", "_law_second"] []
  a_l_battle : Addr
  d_l_battle : FuncData
  F_l_battle : Fun K "_law_battle" "_law_battle" s_l_battle a_l_battle d_l_battle
  g_l_battle : mg "_law_battle" = some (.ref a_l_battle)
  b_l_battle : Binds K d_l_battle ["_law_left_here", "_law_most", "_law_fields"] []
  a_l_deep : Addr
  d_l_deep : FuncData
  F_l_deep : Fun K "_law_deep" "_law_deep" s_l_deep a_l_deep d_l_deep
  g_l_deep : mg "_law_deep" = some (.ref a_l_deep)
  b_l_deep : Binds K d_l_deep ["_law_thing"] []
  a_l_paid : Addr
  d_l_paid : FuncData
  F_l_paid : Fun K "_law_paid" "_law_paid" s_l_paid a_l_paid d_l_paid
  g_l_paid : mg "_law_paid" = some (.ref a_l_paid)
  b_l_paid : Binds K d_l_paid ["_law_field", "_law_x", "_law_y"] []
  a_l_rises : Addr
  d_l_rises : FuncData
  F_l_rises : Fun K "_law_rises" "_law_rises" s_l_rises a_l_rises d_l_rises
  g_l_rises : mg "_law_rises" = some (.ref a_l_rises)
  b_l_rises : Binds K d_l_rises ["_law_battle_here"] []
  a_l_rising : Addr
  d_l_rising : FuncData
  F_l_rising : Fun K "_law_rising" "_law_rising" s_l_rising a_l_rising d_l_rising
  g_l_rising : mg "_law_rising" = some (.ref a_l_rising)
  b_l_rising : Binds K d_l_rising ["_law_left_here", "_law_first", "_law_second"] []
  a_law : Addr
  d_law : FuncData
  F_law : Fun K "law" "law" s_law a_law d_law
  g_law : mg "law" = some (.ref a_law)
  b_law : Binds K d_law ["_law_script"] []
  z_bool : mg "bool" = none
  z_int : mg "int" = none
  z_isinstance : mg "isinstance" = none
  z_len : mg "len" = none
  z_list : mg "list" = none
  z_max : mg "max" = none
  z_min : mg "min" = none
  z_range : mg "range" = none
  z_sorted : mg "sorted" = none
  z_sum : mg "sum" = none
  z_tuple : mg "tuple" = none
  t_MOST_HOSTS : Tok
  c_MOST_HOSTS : mg "MOST_HOSTS" = some (.int 10 t_MOST_HOSTS)
  t_MOST_FIELDS : Tok
  c_MOST_FIELDS : mg "MOST_FIELDS" = some (.int 5 t_MOST_FIELDS)
def sp_l_mix (K : PySem.W.Frag) : Sp := fun vs H Q E => ∃ (n c : Int), vs = [.int n, .int c] ∧ (0 ≤ n ∧ n < 2147483629) ∧ (0 ≤ c ∧ c ≤ 1000000) ∧ ∀ (r : Int), (0 ≤ r ∧ r < 2147483587) → Q (.int r) H
theorem use_l_mix {K : PySem.W.Frag} {H : Hp} {Q : VK} {E : XK} {n c : Int} (p0 : 0 ≤ n ∧ n < 2147483629) (p1 : 0 ≤ c ∧ c ≤ 1000000) (k : ∀ (r : Int), (0 ≤ r ∧ r < 2147483587) → Q (.int r) H) : sp_l_mix K [.int n, .int c] H Q E := ⟨n, c, rfl, p0, p1, k⟩
theorem len_l_mix {K : PySem.W.Frag} (vs : List V) (H : Hp) (Q : VK) (E : XK) (h : sp_l_mix K vs H Q E) : vs.length = ["_law_number", "_law_k"].length := by
  obtain ⟨_, _, rfl, _⟩ := h
  rfl
local macro_rules | `(tactic| walk_at "g_call") => `(tactic| ((with_reducible refine' use_l_mix ?c0 ?c1 ?_); (case c0 => walk_at "g_pre"); (case c1 => walk_at "g_pre"); intros))
theorem ok_l_mix (T : Txt K mg) : FnOk P w K mg base CX0 1 T.a_l_mix T.d_l_mix ["_law_number", "_law_k"] (sp_l_mix K) := by
  refine T.F_l_mix.ok sc_l_mix len_l_mix (fun cdv A outer s H vs Q E hr h => ?_)
  refine ⟨_, (pss_cons (ps_set (i := 2) sc_l_mix.nd rfl (Or.inl rfl) (pe_op op_mod (pe_op op_mulA (pe_op op_add (pe_op op_add (pe_op op_mulA (pv 0) (pv 0)) (pe_op op_mulA (pv 1) (pv 0))) (pe_op op_mulA (pe_op op_mulA pe_int (pv 1)) (pv 1))) pe_int) pe_int))
      (pss_one (ps_ret (pe_op op_mod (pe_op op_mulA (pv 2) (pv 2)) pe_int)))), ?_⟩
  try dsimp only [L2.cxOf, L2.Cx.nox, L2.Cx.wish, List.map_cons, List.map_nil]
  obtain ⟨n, c, rfl, p0, p1, k⟩ := h
  refine start_to (σ := [some _, some _, none]) rfl ?_
  walk_at "go"
  refine k _ ?_
  omega
def sp_l_cell_at (K : PySem.W.Frag) : Sp := fun vs H Q E => ∃ (a : Addr) (z : Int), vs = [.ref a, .int 0] ∧ (H a = some (.lst [.int z])) ∧ Q (.int z) H
theorem use_l_cell_at {K : PySem.W.Frag} {H : Hp} {Q : VK} {E : XK} {a : Addr} {z : Int} (p0 : H a = some (.lst [.int z])) (k : Q (.int z) H) : sp_l_cell_at K [.ref a, .int 0] H Q E := ⟨a, z, rfl, p0, k⟩
theorem len_l_cell_at {K : PySem.W.Frag} (vs : List V) (H : Hp) (Q : VK) (E : XK) (h : sp_l_cell_at K vs H Q E) : vs.length = ["_law_script", "_law_k"].length := by
  obtain ⟨_, _, rfl, _⟩ := h
  rfl
local macro_rules | `(tactic| walk_at "g_call") => `(tactic| ((with_reducible refine' use_l_cell_at ?c0 ?_); (case c0 => walk_at "g_pre"); intros))
theorem ok_l_cell_at (T : Txt K mg) : FnOk P w K mg base CX0 1 T.a_l_cell_at T.d_l_cell_at ["_law_script", "_law_k"] (sp_l_cell_at K) := by
  refine T.F_l_cell_at.ok sc_l_cell_at len_l_cell_at (fun cdv A outer s H vs Q E hr h => ?_)
  refine ⟨_, (pss_cons (ps_if (pt_cmpR op_lt (pv 1) (pe_callB (call_lenK K rfl) (by rfl) T.z_len (by decide +kernel) (pa_cons (pv 0) pa_nil)) (nomark _)) (pss_one (ps_ret (pe_ix (ix_listK K rfl) (pv 0) (pv 1) (fun _ _ => rfl)))) pss_nil)
      (pss_one (ps_ret pe_int))), ?_⟩
  try dsimp only [L2.cxOf, L2.Cx.nox, L2.Cx.wish, List.map_cons, List.map_nil]
  obtain ⟨a, z, rfl, p0, k⟩ := h
  refine start_to (σ := [some _, some _]) rfl ?_
  walk_at "go"
  exact k
def sp_l_left (K : PySem.W.Frag) : Sp := fun vs H Q E => ∃ (a : Addr) (z : Int), vs = [.ref a, .int 0] ∧ (H a = some (.lst [.int z])) ∧ ∀ (m : Int) (p : Addr) (H' : Hp), (Pk p m H' 0) → (Same H H') → (H p = none) → Q (.ref p) H'
theorem use_l_left {K : PySem.W.Frag} {H : Hp} {Q : VK} {E : XK} {a : Addr} {z : Int} (p0 : H a = some (.lst [.int z])) (k : ∀ (m : Int) (p : Addr) (H' : Hp), (Pk p m H' 0) → (Same H H') → (H p = none) → Q (.ref p) H') : sp_l_left K [.ref a, .int 0] H Q E := ⟨a, z, rfl, p0, k⟩
theorem len_l_left {K : PySem.W.Frag} (vs : List V) (H : Hp) (Q : VK) (E : XK) (h : sp_l_left K vs H Q E) : vs.length = ["_law_script", "_law_k"].length := by
  obtain ⟨_, _, rfl, _⟩ := h
  rfl
local macro_rules | `(tactic| walk_at "g_call") => `(tactic| ((with_reducible refine' use_l_left ?c0 ?_); (case c0 => walk_at "g_pre"); intros))
theorem ok_l_left (T : Txt K mg) : FnOk P w K mg base CX0 2 T.a_l_left T.d_l_left ["_law_script", "_law_k"] (sp_l_left K) := by
  have G_l_cell_at := ok_l_cell_at (P := P) (w := w) (base := base) T
  refine T.F_l_left.ok sc_l_left len_l_left (fun cdv A outer s H vs Q E hr h => ?_)
  refine ⟨_, (pss_cons (ps_set (i := 2) sc_l_left.nd rfl (Or.inl rfl) (pe_call G_l_cell_at (hr.mono (by first | decide | omega)) (by rfl) T.g_l_cell_at T.F_l_cell_at.kp T.b_l_cell_at .nil pass0 (pa_cons (pv 0) (pa_cons (pv 1) pa_nil))))
      (pss_cons (ps_if (pt_cmpR op_lt (pv 2) (pe_op op_pow pe_int pe_int) (nomark _)) (pss_one (ps_ret (pe_lst (pa_cons (pe_op op_mod (pv 2) pe_int) (pa_cons pe_int (pa_cons pe_int pa_nil)))))) pss_nil)
      (pss_one (ps_ret (pe_lst (pa_cons (pe_op op_sub (pv 2) (pe_op op_pow pe_int pe_int)) (pa_cons pe_int (pa_cons pe_int pa_nil)))))))), ?_⟩
  try dsimp only [L2.cxOf, L2.Cx.nox, L2.Cx.wish, List.map_cons, List.map_nil]
  obtain ⟨a, z, rfl, p0, k⟩ := h
  refine start_to (σ := [some _, some _, none]) rfl ?_
  walk_at "go"
  refine ite_d (fun c1 => ?_) (fun c1 => ?_)
  · walk_at "go"
    exact k _ _ _ (pk_new (.inr ⟨rfl, by omega⟩)) (by walk_at "g_same") (by assumption)
  · walk_at "go"
    exact k _ _ _ (pk_new (.inl rfl)) (by walk_at "g_same") (by assumption)
def sp_l_draw (K : PySem.W.Frag) : Sp := fun vs H Q E => ∃ (a : Addr) (m c b : Int), vs = [.ref a, .int b] ∧ (Pk a m H c) ∧ (c ≤ 100000) ∧ (0 < b ∧ b < 2 ^ 200) ∧ ∀ (d : Int) (H' : Hp), (0 ≤ d ∧ d < b) → (Pk a m H' (c + 4)) → (But a H H') → Q (.int d) H'
theorem use_l_draw {K : PySem.W.Frag} {H : Hp} {Q : VK} {E : XK} {a : Addr} {m c b : Int} (p0 : Pk a m H c) (p1 : c ≤ 100000) (p2 : 0 < b ∧ b < 2 ^ 200) (k : ∀ (d : Int) (H' : Hp), (0 ≤ d ∧ d < b) → (Pk a m H' (c + 4)) → (But a H H') → Q (.int d) H') : sp_l_draw K [.ref a, .int b] H Q E := ⟨a, m, c, b, rfl, p0, p1, p2, k⟩
theorem len_l_draw {K : PySem.W.Frag} (vs : List V) (H : Hp) (Q : VK) (E : XK) (h : sp_l_draw K vs H Q E) : vs.length = ["_law_left_here", "_law_base"].length := by
  obtain ⟨_, _, _, _, rfl, _⟩ := h
  rfl
local macro_rules | `(tactic| walk_at "g_call") => `(tactic| ((with_reducible refine' use_l_draw ?c0 ?c1 ?c2 ?_); (case c0 => walk_at "g_pre"); (case c1 => walk_at "g_pre"); (case c2 => walk_at "g_pre"); intros))
theorem ok_l_draw (T : Txt K mg) : FnOk P w K mg base CX0 2 T.a_l_draw T.d_l_draw ["_law_left_here", "_law_base"] (sp_l_draw K) := by
  have G_l_mix := ok_l_mix (P := P) (w := w) (base := base) T
  refine T.F_l_draw.ok sc_l_draw len_l_draw (fun cdv A outer s H vs Q E hr h => ?_)
  refine ⟨_, (pss_cons (ps_asg (pe_op op_add (pe_ix (ix_listK K rfl) (pv 0) pe_int (fun _ _ => rfl)) pe_int) (pg_sub (pv 0) pe_int set_list))
      (pss_cons (ps_if (pt_cmpR op_eq (pe_ix (ix_listK K rfl) (pv 0) pe_int (fun _ _ => rfl)) pe_int (nomark _)) (pss_cons (ps_set (i := 2) sc_l_draw.nd rfl (Or.inl rfl) (pe_call G_l_mix (hr.mono (by first | decide | omega)) (by rfl) T.g_l_mix T.F_l_mix.kp T.b_l_mix .nil pass0 (pa_cons (pe_ix (ix_listK K rfl) (pv 0) pe_int (fun _ _ => rfl)) (pa_cons (pe_ix (ix_listK K rfl) (pv 0) pe_int (fun _ _ => rfl)) pa_nil))))
      (pss_cons (ps_if (pt_cmpR op_gt (pv 1) (pe_op op_pow pe_int pe_int) (nomark _)) (pss_one (ps_ret (pe_op op_mod (pe_op op_mulA (pv 2) (pe_op op_add (pe_op op_pow (pe_call G_l_mix (hr.mono (by first | decide | omega)) (by rfl) T.g_l_mix T.F_l_mix.kp T.b_l_mix .nil pass0 (pa_cons (pe_ix (ix_listK K rfl) (pv 0) pe_int (fun _ _ => rfl)) (pa_cons (pe_op op_add (pe_ix (ix_listK K rfl) (pv 0) pe_int (fun _ _ => rfl)) pe_int) pa_nil))) pe_int) pe_int)) (pv 1)))) pss_nil)
      (pss_one (ps_ret (pe_op op_mod (pe_op op_mod (pe_op op_mulA (pv 2) (pe_op op_add (pv 2) pe_int)) pe_int) (pv 1)))))) pss_nil)
      (pss_cons (ps_set (i := 3) sc_l_draw.nd rfl (Or.inl rfl) (pe_op op_mod (pe_ix (ix_listK K rfl) (pv 0) pe_int (fun _ _ => rfl)) (pv 1)))
      (pss_cons (ps_asg (pe_op op_fdivA (pe_ix (ix_listK K rfl) (pv 0) pe_int (fun _ _ => rfl)) (pv 1)) (pg_sub (pv 0) pe_int set_list))
      (pss_one (ps_ret (pv 3))))))), ?_⟩
  try dsimp only [L2.cxOf, L2.Cx.nox, L2.Cx.wish, List.map_cons, List.map_nil]
  obtain ⟨a, m, c0, b, rfl, ⟨n, c, p0, p1, p2, p4⟩, p5, p3, k⟩ := h
  refine start_to (σ := [some _, some _, none, none]) rfl ?_
  walk_at "go"
  refine ite_d (fun c1 => ?_) (fun c1 => ?_)
  · rcases p1 with z | ⟨z, hn⟩
    · omega
    walk_at "go"
    rename_i x1 y1
    refine ite_d (fun c2 => ?_) (fun c2 => ?_)
    · walk_at "go"
      exact k _ _ ⟨Int.emod_nonneg _ (by omega), Int.emod_lt_of_pos _ (by omega)⟩ ⟨_, _, upd_same, .inr ⟨c1, hn⟩, by omega, by omega⟩ (by walk_at "g_but")
    · walk_at "go"
      exact k _ _ ⟨Int.emod_nonneg _ (by omega), Int.emod_lt_of_pos _ (by omega)⟩ ⟨_, _, upd_same, .inr ⟨c1, hn⟩, by omega, by omega⟩ (by walk_at "g_but")
  · rcases p1 with z | ⟨z, hn⟩
    · walk_at "go"
      exact k _ _ ⟨Int.emod_nonneg _ (by omega), Int.emod_lt_of_pos _ (by omega)⟩ ⟨_, _, upd_same, .inl z, by omega, by omega⟩ (by walk_at "g_but")
    · omega

def sp_l_some (K : PySem.W.Frag) : Sp := fun vs H Q E => ∃ (a : Addr) (m c : Int), vs = [.ref a] ∧ (Pk a m H c) ∧ (c ≤ 90000) ∧ ∀ (d : Int) (H' : Hp), (Sm d) → (Pk a m H' (c + 8)) → (But a H H') → Q (.int d) H'
theorem use_l_some {K : PySem.W.Frag} {H : Hp} {Q : VK} {E : XK} {a : Addr} {m c : Int} (p0 : Pk a m H c) (p1 : c ≤ 90000) (k : ∀ (d : Int) (H' : Hp), (Sm d) → (Pk a m H' (c + 8)) → (But a H H') → Q (.int d) H') : sp_l_some K [.ref a] H Q E := ⟨a, m, c, rfl, p0, p1, k⟩
theorem len_l_some {K : PySem.W.Frag} (vs : List V) (H : Hp) (Q : VK) (E : XK) (h : sp_l_some K vs H Q E) : vs.length = ["_law_left_here"].length := by
  obtain ⟨_, _, _, rfl, _⟩ := h
  rfl
local macro_rules | `(tactic| walk_at "g_call") => `(tactic| ((with_reducible refine' use_l_some ?c0 ?c1 ?_); (case c0 => walk_at "g_pre"); (case c1 => walk_at "g_pre"); intros))
theorem ok_l_some (T : Txt K mg) : FnOk P w K mg base CX0 3 T.a_l_some T.d_l_some ["_law_left_here"] (sp_l_some K) := by
  have G_l_draw := ok_l_draw (P := P) (w := w) (base := base) T
  refine T.F_l_some.ok sc_l_some len_l_some (fun cdv A outer s H vs Q E hr h => ?_)
  refine ⟨_, (pss_cons (ps_set (i := 1) sc_l_some.nd rfl (Or.inl rfl) (pe_ix (ix_listK K rfl) (pe_lst (pa_cons pe_int (pa_cons pe_int (pa_cons (pe_op op_pow pe_int pe_int) pa_nil)))) (pe_call G_l_draw (hr.mono (by first | decide | omega)) (by rfl) T.g_l_draw T.F_l_draw.kp T.b_l_draw .nil pass0 (pa_cons (pv 0) (pa_cons pe_int pa_nil))) (fun _ _ => rfl)))
      (pss_one (ps_ret (pe_op op_sub (pe_call G_l_draw (hr.mono (by first | decide | omega)) (by rfl) T.g_l_draw T.F_l_draw.kp T.b_l_draw .nil pass0 (pa_cons (pv 0) (pa_cons (pe_op op_add (pe_op op_mulA pe_int (pv 1)) pe_int) pa_nil))) (pv 1))))), ?_⟩
  try dsimp only [L2.cxOf, L2.Cx.nox, L2.Cx.wish, List.map_cons, List.map_nil]
  obtain ⟨a, m, c, rfl, p0, p1, k⟩ := h
  refine start_to (σ := [some _, none]) rfl ?_
  walk_at "go"
  rename_i r nr d1 H1 e1 e2 e3 v hv d2 H2 e4 e5 e6
  exact k _ _ ⟨by omega, by omega⟩ (e5.mono (by omega)) (by walk_at "g_but")
def sp_l_rule (K : PySem.W.Frag) : Sp := fun vs H Q E => ∃ (a : Addr) (m c f s : Int), vs = [.ref a, .int f, .int s] ∧ (Pk a m H c) ∧ (c ≤ 80000) ∧ (0 ≤ f ∧ f ≤ 10 ∧ 0 ≤ s ∧ s ≤ 10) ∧ ∀ (v : V) (fl : Fld) (G : Hp) (H' : Hp), (Dq G v (fldD fl)) → (FldOk f s fl ∧ FldSm fl) → (Newly H G) → (Same G H') → (Pk a m H' (c + 1500)) → (But a H H') → Q (v) H'
theorem use_l_rule {K : PySem.W.Frag} {H : Hp} {Q : VK} {E : XK} {a : Addr} {m c f s : Int} (p0 : Pk a m H c) (p1 : c ≤ 80000) (p2 : 0 ≤ f ∧ f ≤ 10 ∧ 0 ≤ s ∧ s ≤ 10) (k : ∀ (v : V) (fl : Fld) (G : Hp) (H' : Hp), (Dq G v (fldD fl)) → (FldOk f s fl ∧ FldSm fl) → (Newly H G) → (Same G H') → (Pk a m H' (c + 1500)) → (But a H H') → Q (v) H') : sp_l_rule K [.ref a, .int f, .int s] H Q E := ⟨a, m, c, f, s, rfl, p0, p1, p2, k⟩
theorem len_l_rule {K : PySem.W.Frag} (vs : List V) (H : Hp) (Q : VK) (E : XK) (h : sp_l_rule K vs H Q E) : vs.length = ["_law_left_here", "_law_first", "_law_second"].length := by
  obtain ⟨_, _, _, _, _, rfl, _⟩ := h
  rfl
local macro_rules | `(tactic| walk_at "g_call") => `(tactic| ((with_reducible refine' use_l_rule ?c0 ?c1 ?c2 ?_); (case c0 => walk_at "g_pre"); (case c1 => walk_at "g_pre"); (case c2 => walk_at "g_pre"); intros))
theorem ok_l_rule (T : Txt K mg) : FnOk P w K mg base CX0 4 T.a_l_rule T.d_l_rule ["_law_left_here", "_law_first", "_law_second"] (sp_l_rule K) := by
  have G_l_draw := ok_l_draw (P := P) (w := w) (base := base) T
  have G_l_some := ok_l_some (P := P) (w := w) (base := base) T
  refine T.F_l_rule.ok sc_l_rule len_l_rule (fun cdv A outer s H vs Q E hr h => ?_)
  refine ⟨_, (pss_cons (ps_set (i := 3) sc_l_rule.nd rfl (Or.inl rfl) (pe_call G_l_draw (hr.mono (by first | decide | omega)) (by rfl) T.g_l_draw T.F_l_draw.kp T.b_l_draw .nil pass0 (pa_cons (pv 0) (pa_cons pe_int pa_nil))))
      (pss_cons (ps_set (i := 4) sc_l_rule.nd rfl (Or.inl rfl) (pe_op op_add pe_int (pe_call G_l_draw (hr.mono (by first | decide | omega)) (by rfl) T.g_l_draw T.F_l_draw.kp T.b_l_draw .nil pass0 (pa_cons (pv 0) (pa_cons (pe_ix (ix_listK K rfl) (pe_lst (pa_cons pe_int (pa_cons pe_int (pa_cons (pe_op op_pow pe_int pe_int) pa_nil)))) (pe_call G_l_draw (hr.mono (by first | decide | omega)) (by rfl) T.g_l_draw T.F_l_draw.kp T.b_l_draw .nil pass0 (pa_cons (pv 0) (pa_cons pe_int pa_nil))) (fun _ _ => rfl)) pa_nil)))))
      (pss_cons (ps_if (pt_cmpR op_lt (pv 3) pe_int (nomark _)) (pss_one (ps_ret (pe_tup (pa_cons pe_str (pa_cons (pv 4) (pa_cons (pe_op op_sub (pe_call G_l_draw (hr.mono (by first | decide | omega)) (by rfl) T.g_l_draw T.F_l_draw.kp T.b_l_draw .nil pass0 (pa_cons (pv 0) (pa_cons (pe_op op_add (pe_op op_mulA pe_int (pv 4)) pe_int) pa_nil))) (pv 4)) pa_nil)))))) pss_nil)
      (pss_cons (ps_if (pt_cmpR op_eq (pv 3) pe_int (nomark _)) (pss_one (ps_ret (pe_tup (pa_cons pe_str (pa_cons (pv 4) (pa_cons (pe_op op_sub (pe_call G_l_draw (hr.mono (by first | decide | omega)) (by rfl) T.g_l_draw T.F_l_draw.kp T.b_l_draw .nil pass0 (pa_cons (pv 0) (pa_cons (pe_ix (ix_listK K rfl) (pe_lst (pa_cons pe_int (pa_cons pe_int pa_nil))) (pe_call G_l_draw (hr.mono (by first | decide | omega)) (by rfl) T.g_l_draw T.F_l_draw.kp T.b_l_draw .nil pass0 (pa_cons (pv 0) (pa_cons pe_int pa_nil))) (fun _ _ => rfl)) pa_nil))) pe_int) pa_nil)))))) pss_nil)
      (pss_cons (ps_if (pt_cmpR op_eq (pv 3) pe_int (nomark _)) (pss_one (ps_ret (pe_tup (pa_cons pe_str (pa_cons (pe_lc (own := [("_law_x", 5)]) rfl sc_l_rule.nd (pi_range1 rfl T.z_range (pa_cons (pe_op op_add (pv 1) pe_int) pa_nil)) (blkOk_by (own := [("_law_x", 5)]) (N := ["_law_left_here", "_law_first", "_law_second", "_law_kind", "_law_worth", "_law_x", "_law_y"]) (sc := defScope s_l_rule) (by decide +kernel)) (fun _ _ _ _ _ => (pg_name (i := 5) sc_l_rule.nd rfl (Or.inl rfl))) (fun _ _ _ _ _ => pts_nil) (fun _ _ _ _ _ => (pe_lc (own := [("_law_y", 6)]) rfl sc_l_rule.nd (pi_range1 rfl T.z_range (pa_cons (pe_op op_add (pv 2) pe_int) pa_nil)) (blkOk_by (own := [("_law_y", 6)]) (N := ["_law_left_here", "_law_first", "_law_second", "_law_kind", "_law_worth", "_law_x", "_law_y"]) (sc := (Hf.relS { kind := PySem.ScopeKind.function, names := [ (PySem.Str.ofString ".0", PySem.NameKind.local), (PySem.Str.ofString "_law_x", PySem.NameKind.local), (PySem.Str.ofString "range", PySem.NameKind.globalImplicit), (PySem.Str.ofString "_law_left_here", PySem.NameKind.free), (PySem.Str.ofString "_law_second", PySem.NameKind.free)], isGenerator := false, isCoroutine := false, more := [] : PySem.Scope } (defScope s_l_rule))) (by decide +kernel)) (fun _ _ _ _ _ => (pg_name (i := 6) sc_l_rule.nd rfl (Or.inl rfl))) (fun _ _ _ _ _ => pts_nil) (fun _ _ _ _ _ => (pe_op op_sub (pe_call G_l_draw (hr.mono (by first | decide | omega)) (by rfl) T.g_l_draw T.F_l_draw.kp T.b_l_draw .nil pass0 (pa_cons (pv 0) (pa_cons pe_int pa_nil))) pe_int))))) pa_nil))))) pss_nil)
      (pss_one (ps_ret (pe_tup (pa_cons pe_str (pa_cons (pe_lc (own := [("_law_x", 5)]) rfl sc_l_rule.nd (pi_range1 rfl T.z_range (pa_cons (pe_op op_add (pv 1) pe_int) pa_nil)) (blkOk_by (own := [("_law_x", 5)]) (N := ["_law_left_here", "_law_first", "_law_second", "_law_kind", "_law_worth", "_law_x", "_law_y"]) (sc := defScope s_l_rule) (by decide +kernel)) (fun _ _ _ _ _ => (pg_name (i := 5) sc_l_rule.nd rfl (Or.inl rfl))) (fun _ _ _ _ _ => pts_nil) (fun _ _ _ _ _ => (pe_lc (own := [("_law_y", 6)]) rfl sc_l_rule.nd (pi_range1 rfl T.z_range (pa_cons (pe_op op_add (pv 2) pe_int) pa_nil)) (blkOk_by (own := [("_law_y", 6)]) (N := ["_law_left_here", "_law_first", "_law_second", "_law_kind", "_law_worth", "_law_x", "_law_y"]) (sc := (Hf.relS { kind := PySem.ScopeKind.function, names := [ (PySem.Str.ofString ".0", PySem.NameKind.local), (PySem.Str.ofString "_law_x", PySem.NameKind.local), (PySem.Str.ofString "range", PySem.NameKind.globalImplicit), (PySem.Str.ofString "_law_left_here", PySem.NameKind.free), (PySem.Str.ofString "_law_second", PySem.NameKind.free)], isGenerator := false, isCoroutine := false, more := [] : PySem.Scope } (defScope s_l_rule))) (by decide +kernel)) (fun _ _ _ _ _ => (pg_name (i := 6) sc_l_rule.nd rfl (Or.inl rfl))) (fun _ _ _ _ _ => pts_nil) (fun _ _ _ _ _ => (pe_call G_l_some (hr.mono (by first | decide | omega)) (by rfl) T.g_l_some T.F_l_some.kp T.b_l_some .nil pass0 (pa_cons (pv 0) pa_nil)))))) pa_nil)))))))))), ?_⟩
  try dsimp only [L2.cxOf, L2.Cx.nox, L2.Cx.wish, List.map_cons, List.map_nil]
  obtain ⟨a, m, c, f, s, rfl, p0, p1, p2, k⟩ := h
  refine start_to (σ := [some _, some _, some _, none, none, none, none]) rfl ?_
  walk_at "go"
  rename_i d1 H1 e1 e2 e3 r nr d2 H2 e4 e5 e6 v hv w0 H3 e7 e8 e9
  generalize hw : 1 + w0 = w
  have hw1 : 1 ≤ w ∧ w ≤ 10000000000000000000000000000 := by omega
  have b3 : But a H H3 := by walk_at "g_but"
  have p3 : Pk a m H3 (c + 12) := e8.mono (by omega)
  clear e2 e3 e5 e6 e8 e9 nr e7 hv hw
  refine ite_d (fun c1 => ?_) (fun c1 => ?_)
  · walk_at "go"
    rename_i d3 H4 u1 u2 u3 q nq
    have hq : H q = none := by walk_at "g_free"
    exact k _ (.more w (d3 - w)) (fr [] H (upd H4 q _)) _ (more_mk (fr_lk0 hq upd_same)) ⟨⟨by omega, by omega, by omega⟩, ⟨by omega, by omega⟩, ⟨by omega, by omega⟩⟩ fr_newly fr_same (Pk.mono (by walk_at "g_pk") (by omega)) (by walk_at "g_but")
  walk_at "go"
  refine ite_d (fun c2 => ?_) (fun c2 => ?_)
  · walk_at "go"
    rename_i r nr d3 H4 u1 u2 u3 v2 hv2 d4 H5 u4 u5 u6 q nq
    have hq : H q = none := by walk_at "g_free"
    exact k _ (.lead w (d4 - 2)) (fr [] H (upd H5 q _)) _ (lead_mk (fr_lk0 hq upd_same)) ⟨show 1 ≤ w by omega, ⟨by omega, by omega⟩, ⟨by omega, by omega⟩⟩ fr_newly fr_same (Pk.mono (by walk_at "g_pk") (by omega)) (by walk_at "g_but")
  walk_at "go"
  refine ite_d (fun c3 => ?_) (fun c3 => ?_)
  · walk_at "go"
    intro D nD
    refine lcR_dq planD (fun r => (r.length : Int) = s + 1 ∧ ∀ x ∈ r, Sm x) 44 (by walk_at "g_pk") nD (by omega) ?_ ?_
    · intro i H4 Z Y hi hp hb hz
      walk_at "go"
      intro D2 nD2
      refine lcR_pk Sm 4 (by walk_at "g_pk") nD2 (by omega) ?_ ?_
      · intro j H5 Z2 Y2 hj hp2 hb2 hz2
        walk_at "go"
        rename_i d5 H6 u1 u2 u3
        exact hz2 _ _ ⟨by omega, by omega⟩ u2 u3
      · intro ms H5 h1 h2 h3 h4 h5
        walk_at "go"
        exact hz ms (.ref D2) (fr [] H4 H5) H5 ⟨by omega, h2⟩ (row_mk (fr_lk0 nD2 h3)) fr_newly fr_same (h4.mono (by omega)) h5
    · intro rs G H4 h1 h2 h3 h4 h5 h6 h7
      walk_at "go"
      rename_i q nq
      have hq : H q = none := by walk_at "g_free"
      have nG : Newly H G := h4.backP b3 p3
      exact k _ (.tab rs) (fr [] H (upd H4 q _)) _ (tab_mk' (fr_lk0 hq upd_same) (h3.same (nG.same (by walk_at "g_same")))) ⟨⟨by omega, fun r hr => (h2 r hr).1⟩, fun r hr => (h2 r hr).2⟩ fr_newly fr_same (Pk.mono (by walk_at "g_pk") (by omega)) (by walk_at "g_but")
  · walk_at "go"
    intro D nD
    refine lcR_dq planD (fun r => (r.length : Int) = s + 1 ∧ ∀ x ∈ r, Sm x) 88 (by walk_at "g_pk") nD (by omega) ?_ ?_
    · intro i H4 Z Y hi hp hb hz
      walk_at "go"
      intro D2 nD2
      refine lcR_pk Sm 8 (by walk_at "g_pk") nD2 (by omega) ?_ ?_
      · intro j H5 Z2 Y2 hj hp2 hb2 hz2
        walk_at "go"
        rename_i d5 H6 u1 u2 u3
        exact hz2 _ _ u1 u2 u3
      · intro ms H5 h1 h2 h3 h4 h5
        walk_at "go"
        exact hz ms (.ref D2) (fr [] H4 H5) H5 ⟨by omega, h2⟩ (row_mk (fr_lk0 nD2 h3)) fr_newly fr_same (h4.mono (by omega)) h5
    · intro rs G H4 h1 h2 h3 h4 h5 h6 h7
      walk_at "go"
      rename_i q nq
      have hq : H q = none := by walk_at "g_free"
      have nG : Newly H G := h4.backP b3 p3
      exact k _ (.tab rs) (fr [] H (upd H4 q _)) _ (tab_mk' (fr_lk0 hq upd_same) (h3.same (nG.same (by walk_at "g_same")))) ⟨⟨by omega, fun r hr => (h2 r hr).1⟩, fun r hr => (h2 r hr).2⟩ fr_newly fr_same (Pk.mono (by walk_at "g_pk") (by omega)) (by walk_at "g_but")
def sp_l_battle (K : PySem.W.Frag) : Sp := fun vs H Q E => ∃ (a : Addr) (m c u y : Int), vs = [.ref a, .int u, .int y] ∧ (Pk a m H c) ∧ (c ≤ 70000) ∧ (0 ≤ u ∧ u ≤ 10 ∧ 1 ≤ y ∧ y ≤ 5) ∧ ∀ (v : V) (f s : Int) (fs : List Fld) (G : Hp) (H' : Hp), (Dq G v (batD f s fs)) → (BatOk f s fs) → (f ≤ u ∧ s ≤ u ∧ fs.length ≤ y) → (∀ x ∈ fs, FldSm x) → (Newly H G) → (Same G H') → (Pk a m H' (c + 8000)) → (But a H H') → Q (v) H'
theorem use_l_battle {K : PySem.W.Frag} {H : Hp} {Q : VK} {E : XK} {a : Addr} {m c u y : Int} (p0 : Pk a m H c) (p1 : c ≤ 70000) (p2 : 0 ≤ u ∧ u ≤ 10 ∧ 1 ≤ y ∧ y ≤ 5) (k : ∀ (v : V) (f s : Int) (fs : List Fld) (G : Hp) (H' : Hp), (Dq G v (batD f s fs)) → (BatOk f s fs) → (f ≤ u ∧ s ≤ u ∧ fs.length ≤ y) → (∀ x ∈ fs, FldSm x) → (Newly H G) → (Same G H') → (Pk a m H' (c + 8000)) → (But a H H') → Q (v) H') : sp_l_battle K [.ref a, .int u, .int y] H Q E := ⟨a, m, c, u, y, rfl, p0, p1, p2, k⟩
theorem len_l_battle {K : PySem.W.Frag} (vs : List V) (H : Hp) (Q : VK) (E : XK) (h : sp_l_battle K vs H Q E) : vs.length = ["_law_left_here", "_law_most", "_law_fields"].length := by
  obtain ⟨_, _, _, _, _, rfl, _⟩ := h
  rfl
local macro_rules | `(tactic| walk_at "g_call") => `(tactic| ((with_reducible refine' use_l_battle ?c0 ?c1 ?c2 ?_); (case c0 => walk_at "g_pre"); (case c1 => walk_at "g_pre"); (case c2 => walk_at "g_pre"); intros))
theorem ok_l_battle (T : Txt K mg) : FnOk P w K mg base CX0 5 T.a_l_battle T.d_l_battle ["_law_left_here", "_law_most", "_law_fields"] (sp_l_battle K) := by
  have G_l_draw := ok_l_draw (P := P) (w := w) (base := base) T
  have G_l_rule := ok_l_rule (P := P) (w := w) (base := base) T
  refine T.F_l_battle.ok sc_l_battle len_l_battle (fun cdv A outer s H vs Q E hr h => ?_)
  refine ⟨_, (pss_cons (ps_set (i := 3) sc_l_battle.nd rfl (Or.inr rfl) (pe_call G_l_draw (hr.mono (by first | decide | omega)) (by rfl) T.g_l_draw T.F_l_draw.kp T.b_l_draw .nil pass0 (pa_cons (pv 0) (pa_cons (pe_op op_add (pv 1) pe_int) pa_nil))))
      (pss_cons (ps_set (i := 4) sc_l_battle.nd rfl (Or.inr rfl) (pe_call G_l_draw (hr.mono (by first | decide | omega)) (by rfl) T.g_l_draw T.F_l_draw.kp T.b_l_draw .nil pass0 (pa_cons (pv 0) (pa_cons (pe_op op_add (pv 1) pe_int) pa_nil))))
      (pss_one (ps_ret (pe_tup (pa_cons (pv 3) (pa_cons (pv 4) (pa_cons (pe_lc (own := [("_law_k", 5)]) rfl sc_l_battle.nd (pi_range1 rfl T.z_range (pa_cons (pe_op op_add pe_int (pe_call G_l_draw (hr.mono (by first | decide | omega)) (by rfl) T.g_l_draw T.F_l_draw.kp T.b_l_draw .nil pass0 (pa_cons (pv 0) (pa_cons (pv 2) pa_nil)))) pa_nil)) (blkOk_by (own := [("_law_k", 5)]) (N := ["_law_left_here", "_law_most", "_law_fields", "_law_first", "_law_second", "_law_k"]) (sc := defScope s_l_battle) (by decide +kernel)) (fun _ _ _ _ _ => (pg_name (i := 5) sc_l_battle.nd rfl (Or.inl rfl))) (fun _ _ _ _ _ => pts_nil) (fun _ _ _ _ _ => (pe_call G_l_rule (hr.mono (by first | decide | omega)) (by rfl) T.g_l_rule T.F_l_rule.kp T.b_l_rule .nil pass0 (pa_cons (pv 0) (pa_cons (pv 3) (pa_cons (pv 4) pa_nil)))))) pa_nil)))))))), ?_⟩
  try dsimp only [L2.cxOf, L2.Cx.nox, L2.Cx.wish, List.map_cons, List.map_nil]
  obtain ⟨a, m, c, u, y, rfl, p0, p1, p2, k⟩ := h
  refine start_to (σ := [some _, some _, some _, none, none, none]) rfl ?_
  walk_at "go"
  rename_i f H1 e1 e2 e3 s H2 e4 e5 e6 t H3 e7 e8 e9
  have b3 : But a H H3 := by walk_at "g_but"
  intro D nD
  refine lcR_dq fldD (fun x => FldOk f s x ∧ FldSm x) 1500 e8 nD (by omega) ?_ ?_
  · intro i H4 Z Y hi hp hb hz
    have hb0 : 0 ≤ f ∧ f ≤ 10 ∧ 0 ≤ s ∧ s ≤ 10 := by omega
    clear e2 e3 e5 e6 e8 e9
    walk_at "go"
    rename_i v fl G H5 u1 u2 u3 u4 u5 u6
    exact hz fl v G H5 u2 u1 u3 u4 u5 u6
  · intro fs G H4 h1 h2 h3 h4 h5 h6 h7
    have nG : Newly H G := h4.backP b3 e8
    clear e2 e3 e5 e6 e9
    walk_at "go"
    rename_i q nq
    have hq : H q = none := Pk.free nq (But.trans b3 h7) h6
    exact k _ f s fs (fr [] H (upd H4 q _)) _ (bat_mk' (fr_lk0 hq upd_same) (h3.same (nG.same (by walk_at "g_same")))) ⟨by omega, by omega, by omega, fun x hx => (h2 x hx).1⟩ (by omega) (fun x hx => (h2 x hx).2) fr_newly fr_same (Pk.mono (by walk_at "g_pk") (by omega)) (by walk_at "g_but")

def sp_l_deep (K : PySem.W.Frag) (n : Nat) : Sp := fun vs H Q E => ∃ (v : V) (d : PyData), vs = [v] ∧ (Dq H v d) ∧ (dep d < n ∧ wid d ≤ 1000) ∧ ∀ (w : V) (G H' : Hp), (Dq G w d) → (Newly H G) → (Same G H') → (Same H H') → Q (w) H'
theorem use_l_deep {K : PySem.W.Frag} {n : Nat} {H : Hp} {Q : VK} {E : XK} {v : V} {d : PyData} (p0 : Dq H v d) (p1 : dep d < n ∧ wid d ≤ 1000) (k : ∀ (w : V) (G H' : Hp), (Dq G w d) → (Newly H G) → (Same G H') → (Same H H') → Q (w) H') : sp_l_deep K n [v] H Q E := ⟨v, d, rfl, p0, p1, k⟩
theorem len_l_deep {K : PySem.W.Frag} {n : Nat} (vs : List V) (H : Hp) (Q : VK) (E : XK) (h : sp_l_deep K n vs H Q E) : vs.length = ["_law_thing"].length := by
  obtain ⟨_, _, rfl, _⟩ := h
  rfl
local macro_rules | `(tactic| walk_at "g_call") => `(tactic| ((with_reducible refine' use_l_deep ?c0 ?c1 ?_); (case c0 => walk_at "g_pre"); (case c1 => walk_at "g_pre"); intros))
theorem okn_l_deep (T : Txt K mg) (n : Nat) : FnOk P w K mg base CX0 n T.a_l_deep T.d_l_deep ["_law_thing"] (sp_l_deep K n) := by
  induction n with
  | zero => exact ⟨len_l_deep, fun A outer s H args us vs Q E hr he hb hv h => by
      obtain ⟨v, d, _, _, ⟨z, _⟩, _⟩ := h
      omega⟩
  | succ n ih =>
  have G_l_deep := ih
  refine T.F_l_deep.ok sc_l_deep len_l_deep (fun cdv A outer s H vs Q E hr h => ?_)
  refine ⟨_, (pss_cons (ps_if (pt_val (pe_callB (call_isiK' K rfl) (by rfl) T.z_isinstance (by decide +kernel) (pa_cons (pv 0) (pa_cons (pe_bltn (v := .ty "list") rfl T.z_list (by decide +kernel) rfl) pa_nil)))) (pss_one (ps_ret (pe_lc (own := [("_law_part", 1)]) rfl sc_l_deep.nd (pi_listK K rfl (pv 0)) (blkOk_by (own := [("_law_part", 1)]) (N := ["_law_thing", "_law_part"]) (sc := defScope s_l_deep) (by decide +kernel)) (fun _ _ _ _ _ => (pg_name (i := 1) sc_l_deep.nd rfl (Or.inl rfl))) (fun _ _ _ _ _ => pts_nil) (fun _ _ _ _ _ => (pe_call G_l_deep (hr.mono (by first | decide | omega)) (by rfl) T.g_l_deep T.F_l_deep.kp T.b_l_deep .nil pass0 (pa_cons (pv 1) pa_nil)))))) pss_nil)
      (pss_cons (ps_if (pt_val (pe_callB (call_isiK' K rfl) (by rfl) T.z_isinstance (by decide +kernel) (pa_cons (pv 0) (pa_cons (pe_bltn (v := .ty "tuple") rfl T.z_tuple (by decide +kernel) rfl) pa_nil)))) (pss_one (ps_ret (pe_callTy (call_tupleK K rfl) (by rfl) T.z_tuple (by decide +kernel) (pa_cons (pe_lc (own := [("_law_part", 1)]) rfl sc_l_deep.nd (pi_tupK K rfl (pv 0)) (blkOk_by (own := [("_law_part", 1)]) (N := ["_law_thing", "_law_part"]) (sc := defScope s_l_deep) (by decide +kernel)) (fun _ _ _ _ _ => (pg_name (i := 1) sc_l_deep.nd rfl (Or.inl rfl))) (fun _ _ _ _ _ => pts_nil) (fun _ _ _ _ _ => (pe_call G_l_deep (hr.mono (by first | decide | omega)) (by rfl) T.g_l_deep T.F_l_deep.kp T.b_l_deep .nil pass0 (pa_cons (pv 1) pa_nil)))) pa_nil)))) pss_nil)
      (pss_one (ps_ret (pv 0))))), ?_⟩
  try dsimp only [L2.cxOf, L2.Cx.nox, L2.Cx.wish, List.map_cons, List.map_nil]
  obtain ⟨v, d, rfl, p0, ⟨p1, p2⟩, k⟩ := h
  refine start_to (σ := [some _, none]) rfl ?_
  cases p0 with
  | non => walk_at "go"; exact k _ noH _ .non noH_newly noH_same (by walk_at "g_same")
  | bl b => walk_at "go"; exact k _ noH _ (.bl b) noH_newly noH_same (by walk_at "g_same")
  | int i => walk_at "go"; exact k _ noH _ (.int i) noH_newly noH_same (by walk_at "g_same")
  | str x => walk_at "go"; exact k _ noH _ (.str x) noH_newly noH_same (by walk_at "g_same")
  | @lst a xs ds h q =>
    rw [dep] at p1
    rw [wid] at p2
    have hl := q.len
    walk_at "go"
    intro D nD
    refine lcL_new (xs := xs) (fun i => (ds[i]?).getD .none) nD (by omega) (SqL.of h) ?_ ?_
    · intro i x H2 Z Y hx hs hz
      obtain ⟨d, e, q2⟩ := q.get' hx
      have e1 := depA_mem (List.mem_of_getElem? e)
      have e2 := widA_mem (List.mem_of_getElem? e)
      have q3 := q2.same hs
      have b1 : dep d < n ∧ wid d ≤ 1000 := by omega
      walk_at "go"
      rename_i w G H3 u1 u2 u3 u4
      exact hz w G H3 (by rw [e]; exact u1) u2 u3 u4
    · intro G H2 h1 h2 h3 h4
      rw [hl, rng_get] at h1
      walk_at "go"
      exact k _ G _ h1 h2 h3 h4
  | @tup a xs ds h q =>
    rw [dep] at p1
    rw [wid] at p2
    have hl := q.len
    walk_at "go"
    intro D nD
    refine lcT_new (xs := xs) (fun i => (ds[i]?).getD .none) nD (by omega) (SqT.of h) ?_ ?_
    · intro i x H2 Z Y hx hs hz
      obtain ⟨d, e, q2⟩ := q.get' hx
      have e1 := depA_mem (List.mem_of_getElem? e)
      have e2 := widA_mem (List.mem_of_getElem? e)
      have q3 := q2.same hs
      have b1 : dep d < n ∧ wid d ≤ 1000 := by omega
      walk_at "go"
      rename_i w G H3 u1 u2 u3 u4
      exact hz w G H3 (by rw [e]; exact u1) u2 u3 u4
    · intro G H2 h1 h2 h3 h4
      rw [hl, rng_get] at h1
      obtain ⟨l, ys, e1, e2, e3⟩ := h1.list_inv
      cases e1
      have e2' := h3 _ _ e2
      walk_at "go"
      rename_i t nt
      have ht : H t = none := h4.free nt
      exact k _ (fr [] H (upd H2 t _)) _ (.tup (fr_lk0 ht upd_same) (e3.same (h2.same (by walk_at "g_same")))) fr_newly fr_same (by walk_at "g_same")
theorem ok_l_deep (T : Txt K mg) : FnOk P w K mg base CX0 12 T.a_l_deep T.d_l_deep ["_law_thing"] (sp_l_deep K 12) := okn_l_deep T 12

def sp_is_number (K : PySem.W.Frag) : Sp := fun vs H Q E => ∃ (x : Int), vs = [.int x] ∧ Q (.bl true) H
theorem use_is_number {K : PySem.W.Frag} {H : Hp} {Q : VK} {E : XK} {x : Int}  (k : Q (.bl true) H) : sp_is_number K [.int x] H Q E := ⟨x, rfl, k⟩
theorem len_is_number {K : PySem.W.Frag} (vs : List V) (H : Hp) (Q : VK) (E : XK) (h : sp_is_number K vs H Q E) : vs.length = ["thing"].length := by
  obtain ⟨_, rfl, _⟩ := h
  rfl
local macro_rules | `(tactic| walk_at "g_call") => `(tactic| ((with_reducible refine' use_is_number ?_); intros))
theorem ok_is_number (T : Txt K mg) : FnOk P w K mg base CX0 1 T.a_is_number T.d_is_number ["thing"] (sp_is_number K) := by
  refine T.F_is_number.ok sc_is_number len_is_number (fun cdv A outer s H vs Q E hr h => ?_)
  refine ⟨_, (pss_one (ps_ret (pe_and (pe_callB (call_isiK' K rfl) (by rfl) T.z_isinstance (by decide +kernel) (pa_cons (pv 0) (pa_cons (pe_bltn (v := .ty "int") rfl T.z_int (by decide +kernel) rfl) pa_nil))) (pe_one (pe_not (pe_callB (call_isiK' K rfl) (by rfl) T.z_isinstance (by decide +kernel) (pa_cons (pv 0) (pa_cons (pe_bltn (v := .ty "bool") rfl T.z_bool (by decide +kernel) rfl) pa_nil)))))))), ?_⟩
  try dsimp only [L2.cxOf, L2.Cx.nox, L2.Cx.wish, List.map_cons, List.map_nil]
  obtain ⟨x, rfl, k⟩ := h
  refine start_to (σ := [some _]) rfl ?_
  walk_at "go"
  exact k
def sp_are_numbers (K : PySem.W.Frag) : Sp := fun vs H Q E => ∃ (a : Addr) (ms : List Int) (n : Int), vs = [.ref a, .int n] ∧ (H a = some (.lst (ms.map V.int))) ∧ (ms.length ≤ 1000) ∧ ((ms.length : Int) = n) ∧ ∀ (H' : Hp), (Same H H') → Q (.bl true) H'
theorem use_are_numbers {K : PySem.W.Frag} {H : Hp} {Q : VK} {E : XK} {a : Addr} {ms : List Int} {n : Int} (p0 : H a = some (.lst (ms.map V.int))) (p1 : ms.length ≤ 1000) (p2 : (ms.length : Int) = n) (k : ∀ (H' : Hp), (Same H H') → Q (.bl true) H') : sp_are_numbers K [.ref a, .int n] H Q E := ⟨a, ms, n, rfl, p0, p1, p2, k⟩
theorem len_are_numbers {K : PySem.W.Frag} (vs : List V) (H : Hp) (Q : VK) (E : XK) (h : sp_are_numbers K vs H Q E) : vs.length = ["thing", "many"].length := by
  obtain ⟨_, _, _, rfl, _⟩ := h
  rfl
local macro_rules | `(tactic| walk_at "g_call") => `(tactic| ((with_reducible refine' use_are_numbers ?c0 ?c1 ?c2 ?_); (case c0 => walk_at "g_pre"); (case c1 => walk_at "g_pre"); (case c2 => walk_at "g_pre"); intros))
theorem ok_are_numbers (T : Txt K mg) : FnOk P w K mg base CX0 2 T.a_are_numbers T.d_are_numbers ["thing", "many"] (sp_are_numbers K) := by
  have G_is_number := ok_is_number (P := P) (w := w) (base := base) T
  refine T.F_are_numbers.ok sc_are_numbers len_are_numbers (fun cdv A outer s H vs Q E hr h => ?_)
  refine ⟨_, (pss_cons (ps_if (PW.pt (pw_or (pt_not (pt_val (pe_callB (call_isiK' K rfl) (by rfl) T.z_isinstance (by decide +kernel) (pa_cons (pv 0) (pa_cons (pe_bltn (v := .ty "list") rfl T.z_list (by decide +kernel) rfl) pa_nil))))) (pw_or1 (pt_cmpR op_ne (pe_callB (call_lenK K rfl) (by rfl) T.z_len (by decide +kernel) (pa_cons (pv 0) pa_nil)) (pv 1) (nomark _))))) (pss_one (ps_ret pe_bl)) pss_nil)
      (pss_one (ps_ret (pe_cmpR op_eq (pe_callB (call_lenK K rfl) (by rfl) T.z_len (by decide +kernel) (pa_cons (pe_lc (own := [("number", 2)]) rfl sc_are_numbers.nd (pi_listK K rfl (pv 0)) (blkOk_by (own := [("number", 2)]) (N := ["thing", "many", "number"]) (sc := defScope s_are_numbers) (by decide +kernel)) (fun _ _ _ _ _ => (pg_name (i := 2) sc_are_numbers.nd rfl (Or.inl rfl))) (fun _ _ _ _ _ => (pts_one (pt_not (pt_val (pe_call G_is_number (hr.mono (by first | decide | omega)) (by rfl) T.g_is_number T.F_is_number.kp T.b_is_number .nil pass0 (pa_cons (pv 2) pa_nil)))))) (fun _ _ _ _ _ => (pv 2))) pa_nil)) pe_int (nomark _))))), ?_⟩
  try dsimp only [L2.cxOf, L2.Cx.nox, L2.Cx.wish, List.map_cons, List.map_nil]
  obtain ⟨a, ms, n, rfl, p0, p1, p2, k⟩ := h
  refine start_to (σ := [some _, some _, none]) rfl ?_
  walk_at "go"
  refine ite_n (by simp [p2]) ?_
  walk_at "go"
  intro D nD
  refine lcL_nil (xs := ms.map V.int) nD (SqL.of p0) ?_ ?_
  · intro i x H2 Z Y hx hs hy
    obtain ⟨z, rfl, hz⟩ := ints_at hx
    walk_at "go"
    exact hy _ (by walk_at "g_same")
  · intro H2 hs hD
    walk_at "go"
    exact k _ hs

def sp_paid (K : PySem.W.Frag) : Sp := fun vs H Q E => ∃ (v : V) (fl : Fld) (f s x y : Int), vs = [v, .int x, .int y] ∧ (Dq H v (fldD fl)) ∧ (FldOk f s fl) ∧ (0 ≤ x ∧ x ≤ f ∧ 0 ≤ y ∧ y ≤ s) ∧ Q (.int (paidV fl x y)) H
theorem use_paid {K : PySem.W.Frag} {H : Hp} {Q : VK} {E : XK} {v : V} {fl : Fld} {f s x y : Int} (p0 : Dq H v (fldD fl)) (p1 : FldOk f s fl) (p2 : 0 ≤ x ∧ x ≤ f ∧ 0 ≤ y ∧ y ≤ s) (k : Q (.int (paidV fl x y)) H) : sp_paid K [v, .int x, .int y] H Q E := ⟨v, fl, f, s, x, y, rfl, p0, p1, p2, k⟩
theorem len_paid {K : PySem.W.Frag} (vs : List V) (H : Hp) (Q : VK) (E : XK) (h : sp_paid K vs H Q E) : vs.length = ["field", "x", "y"].length := by
  obtain ⟨_, _, _, _, _, _, rfl, _⟩ := h
  rfl
local macro_rules | `(tactic| walk_at "g_call") => `(tactic| ((with_reducible refine' use_paid ?c0 ?c1 ?c2 ?_); (case c0 => walk_at "g_pre"); (case c1 => walk_at "g_pre"); (case c2 => walk_at "g_pre"); intros))
theorem ok_paid (T : Txt K mg) : FnOk P w K mg base CX0 1 T.a_paid T.d_paid ["field", "x", "y"] (sp_paid K) := by
  refine T.F_paid.ok sc_paid len_paid (fun cdv A outer s H vs Q E hr h => ?_)
  refine ⟨_, (pss_cons (ps_if (pt_cmpR op_eq (pe_ix (ix_tupK K rfl) (pv 0) pe_int (fun _ _ => rfl)) pe_str (nomark _)) (pss_one (ps_ret (pe_ix (ix_listK K rfl) (pe_ix (ix_listK K rfl) (pe_ix (ix_tupK K rfl) (pv 0) pe_int (fun _ _ => rfl)) (pv 1) (fun _ _ => rfl)) (pv 2) (fun _ _ => rfl)))) pss_nil)
      (pss_cons (ps_if (pt_cmpR op_eq (pe_ix (ix_tupK K rfl) (pv 0) pe_int (fun _ _ => rfl)) pe_str (nomark _)) (pss_one (ps_ret (pe_ifExp (pt_cmpR op_ge (pv 1) (pe_op op_add (pv 2) (pe_ix (ix_tupK K rfl) (pv 0) pe_int (fun _ _ => rfl))) (nomark _)) (pe_ix (ix_tupK K rfl) (pv 0) pe_int (fun _ _ => rfl)) (pe_op op_sub pe_int (pe_ix (ix_tupK K rfl) (pv 0) pe_int (fun _ _ => rfl)))))) pss_nil)
      (pss_cons (ps_if (pt_cmpR op_eq (pv 1) (pv 2) (nomark _)) (pss_one (ps_ret (pe_ix (ix_tupK K rfl) (pv 0) pe_int (fun _ _ => rfl)))) pss_nil)
      (pss_one (ps_ret (pe_ifExp (pt_cmpR op_gt (pv 1) (pv 2) (nomark _)) (pe_ix (ix_tupK K rfl) (pv 0) pe_int (fun _ _ => rfl)) (pe_op op_sub pe_int (pe_ix (ix_tupK K rfl) (pv 0) pe_int (fun _ _ => rfl))))))))), ?_⟩
  try dsimp only [L2.cxOf, L2.Cx.nox, L2.Cx.wish, List.map_cons, List.map_nil]
  obtain ⟨v, fl, f, s, x, y, rfl, p0, p1, p2, k⟩ := h
  refine start_to (σ := [some _, some _, some _]) rfl ?_
  cases fl with
  | more w t =>
    obtain ⟨a, rfl, h1⟩ := fld_more p0
    walk_at "go"
    have k' : Q (.int (if x = y then t else if x > y then w else 0 - w)) H := k
    refine ite_d (fun c1 => ?_) (fun c1 => ?_)
    · rw [if_pos c1] at k'
      walk_at "go"
      exact k'
    · rw [if_neg c1] at k'
      walk_at "go"
      refine ite_d (fun c2 => ?_) (fun c2 => ?_)
      · rw [if_pos c2] at k'
        walk_at "go"
        exact k'
      · rw [if_neg c2] at k'
        walk_at "go"
        exact k'
  | lead w l =>
    obtain ⟨a, rfl, h1⟩ := fld_lead p0
    walk_at "go"
    have k' : Q (.int (if x ≥ y + l then w else 0 - w)) H := k
    refine ite_d (fun c2 => ?_) (fun c2 => ?_)
    · rw [if_pos c2] at k'
      walk_at "go"
      exact k'
    · rw [if_neg c2] at k'
      walk_at "go"
      exact k'
  | tab rows =>
    obtain ⟨a, p, xs, rfl, h1, h2, h3⟩ := fld_tab p0
    obtain ⟨g1, g2⟩ := p1
    have hl : xs.length = rows.length := by rw [h3.len, List.length_map]
    obtain ⟨w, hat, hw⟩ := at_lt (xs := xs) (i := x) (by omega) (by omega)
    obtain ⟨r, q, e1, rfl, e2⟩ := row_at h3 hw
    have hr := g2 r (List.mem_of_getElem? e1)
    walk_at "go"
    rename_i z hz
    have k' : Q (.int ((((rows[x.toNat]?).getD [])[y.toNat]?).getD 0)) H := k
    rw [e1] at k'
    have k2 : Q (.int ((r[y.toNat]?).getD 0)) H := k'
    rw [hz] at k2
    exact k2
def sp_is_rule (K : PySem.W.Frag) : Sp := fun vs H Q E => ∃ (a : Addr) (x : Str) (w t : Int), vs = [.ref a] ∧ (H a = some (.tup [.str x, .int w, .int t])) ∧ (1 ≤ w) ∧ Q (.bl true) H
theorem use_is_rule {K : PySem.W.Frag} {H : Hp} {Q : VK} {E : XK} {a : Addr} {x : Str} {w t : Int} (p0 : H a = some (.tup [.str x, .int w, .int t])) (p1 : 1 ≤ w) (k : Q (.bl true) H) : sp_is_rule K [.ref a] H Q E := ⟨a, x, w, t, rfl, p0, p1, k⟩
theorem len_is_rule {K : PySem.W.Frag} (vs : List V) (H : Hp) (Q : VK) (E : XK) (h : sp_is_rule K vs H Q E) : vs.length = ["field"].length := by
  obtain ⟨_, _, _, _, rfl, _⟩ := h
  rfl
local macro_rules | `(tactic| walk_at "g_call") => `(tactic| ((with_reducible refine' use_is_rule ?c0 ?c1 ?_); (case c0 => walk_at "g_pre"); (case c1 => walk_at "g_pre"); intros))
theorem ok_is_rule (T : Txt K mg) : FnOk P w K mg base CX0 2 T.a_is_rule T.d_is_rule ["field"] (sp_is_rule K) := by
  have G_is_number := ok_is_number (P := P) (w := w) (base := base) T
  refine T.F_is_rule.ok sc_is_rule len_is_rule (fun cdv A outer s H vs Q E hr h => ?_)
  refine ⟨_, (pss_one (ps_ret (pe_and (pe_cmpR op_eq (pe_callB (call_lenK K rfl) (by rfl) T.z_len (by decide +kernel) (pa_cons (pv 0) pa_nil)) pe_int (nomark _)) (pe_and (pe_call G_is_number (hr.mono (by first | decide | omega)) (by rfl) T.g_is_number T.F_is_number.kp T.b_is_number .nil pass0 (pa_cons (pe_ix (ix_tupK K rfl) (pv 0) pe_int (fun _ _ => rfl)) pa_nil)) (pe_and (pe_call G_is_number (hr.mono (by first | decide | omega)) (by rfl) T.g_is_number T.F_is_number.kp T.b_is_number .nil pass0 (pa_cons (pe_ix (ix_tupK K rfl) (pv 0) pe_int (fun _ _ => rfl)) pa_nil)) (pe_one (pe_cmpR op_ge (pe_ix (ix_tupK K rfl) (pv 0) pe_int (fun _ _ => rfl)) pe_int (nomark _)))))))), ?_⟩
  try dsimp only [L2.cxOf, L2.Cx.nox, L2.Cx.wish, List.map_cons, List.map_nil]
  obtain ⟨a, x, w, t, rfl, p0, p1, k⟩ := h
  refine start_to (σ := [some _]) rfl ?_
  walk_at "goO"
  rw [decide_eq_true p1]
  exact k
def sp_is_field (K : PySem.W.Frag) : Sp := fun vs H Q E => ∃ (v : V) (fl : Fld) (f s : Int), vs = [v, .int f, .int s] ∧ (Dq H v (fldD fl)) ∧ (FldOk f s fl) ∧ (0 ≤ f ∧ f ≤ 10 ∧ 0 ≤ s ∧ s ≤ 10) ∧ ∀ (H' : Hp), (Same H H') → Q (.bl true) H'
theorem use_is_field {K : PySem.W.Frag} {H : Hp} {Q : VK} {E : XK} {v : V} {fl : Fld} {f s : Int} (p0 : Dq H v (fldD fl)) (p1 : FldOk f s fl) (p2 : 0 ≤ f ∧ f ≤ 10 ∧ 0 ≤ s ∧ s ≤ 10) (k : ∀ (H' : Hp), (Same H H') → Q (.bl true) H') : sp_is_field K [v, .int f, .int s] H Q E := ⟨v, fl, f, s, rfl, p0, p1, p2, k⟩
theorem len_is_field {K : PySem.W.Frag} (vs : List V) (H : Hp) (Q : VK) (E : XK) (h : sp_is_field K vs H Q E) : vs.length = ["field", "first", "second"].length := by
  obtain ⟨_, _, _, _, rfl, _⟩ := h
  rfl
local macro_rules | `(tactic| walk_at "g_call") => `(tactic| ((with_reducible refine' use_is_field ?c0 ?c1 ?c2 ?_); (case c0 => walk_at "g_pre"); (case c1 => walk_at "g_pre"); (case c2 => walk_at "g_pre"); intros))
theorem ok_is_field (T : Txt K mg) : FnOk P w K mg base CX0 3 T.a_is_field T.d_is_field ["field", "first", "second"] (sp_is_field K) := by
  have G_is_rule := ok_is_rule (P := P) (w := w) (base := base) T
  have G_are_numbers := ok_are_numbers (P := P) (w := w) (base := base) T
  refine T.F_is_field.ok sc_is_field len_is_field (fun cdv A outer s H vs Q E hr h => ?_)
  refine ⟨_, (pss_cons (ps_if (pt_cmpR op_eq (pe_callB (call_lenK K rfl) (by rfl) T.z_len (by decide +kernel) (pa_cons (pv 0) pa_nil)) pe_int (nomark _)) (pss_one (ps_ret pe_bl)) pss_nil)
      (pss_cons (ps_if (pt_cmpR op_eq (pe_ix (ix_tupK K rfl) (pv 0) pe_int (fun _ _ => rfl)) pe_str (nomark _)) (pss_one (ps_ret (pe_and (pe_call G_is_rule (hr.mono (by first | decide | omega)) (by rfl) T.g_is_rule T.F_is_rule.kp T.b_is_rule .nil pass0 (pa_cons (pv 0) pa_nil)) (pe_and (pe_cmpR op_le (pe_op op_sub pe_int (pe_ix (ix_tupK K rfl) (pv 0) pe_int (fun _ _ => rfl))) (pe_ix (ix_tupK K rfl) (pv 0) pe_int (fun _ _ => rfl)) (nomark _)) (pe_one (pe_cmpR op_le (pe_ix (ix_tupK K rfl) (pv 0) pe_int (fun _ _ => rfl)) (pe_ix (ix_tupK K rfl) (pv 0) pe_int (fun _ _ => rfl)) (nomark _))))))) pss_nil)
      (pss_cons (ps_if (pt_cmpR op_eq (pe_ix (ix_tupK K rfl) (pv 0) pe_int (fun _ _ => rfl)) pe_str (nomark _)) (pss_one (ps_ret (pe_call G_is_rule (hr.mono (by first | decide | omega)) (by rfl) T.g_is_rule T.F_is_rule.kp T.b_is_rule .nil pass0 (pa_cons (pv 0) pa_nil)))) pss_nil)
      (pss_cons (ps_if (PW.pt (pw_or (pt_cmpR op_ne (pe_ix (ix_tupK K rfl) (pv 0) pe_int (fun _ _ => rfl)) pe_str (nomark _)) (pw_or (pt_cmpR op_ne (pe_callB (call_lenK K rfl) (by rfl) T.z_len (by decide +kernel) (pa_cons (pv 0) pa_nil)) pe_int (nomark _)) (pw_or (pt_not (pt_val (pe_callB (call_isiK' K rfl) (by rfl) T.z_isinstance (by decide +kernel) (pa_cons (pe_ix (ix_tupK K rfl) (pv 0) pe_int (fun _ _ => rfl)) (pa_cons (pe_bltn (v := .ty "list") rfl T.z_list (by decide +kernel) rfl) pa_nil))))) (pw_or1 (pt_cmpR op_ne (pe_callB (call_lenK K rfl) (by rfl) T.z_len (by decide +kernel) (pa_cons (pe_ix (ix_tupK K rfl) (pv 0) pe_int (fun _ _ => rfl)) pa_nil)) (pe_op op_add (pv 1) pe_int) (nomark _))))))) (pss_one (ps_ret pe_bl)) pss_nil)
      (pss_one (ps_ret (pe_cmpR op_eq (pe_callB (call_lenK K rfl) (by rfl) T.z_len (by decide +kernel) (pa_cons (pe_lc (own := [("row", 3)]) rfl sc_is_field.nd (pi_listK K rfl (pe_ix (ix_tupK K rfl) (pv 0) pe_int (fun _ _ => rfl))) (blkOk_by (own := [("row", 3)]) (N := ["field", "first", "second", "row"]) (sc := defScope s_is_field) (by decide +kernel)) (fun _ _ _ _ _ => (pg_name (i := 3) sc_is_field.nd rfl (Or.inl rfl))) (fun _ _ _ _ _ => (pts_one (pt_not (pt_val (pe_call G_are_numbers (hr.mono (by first | decide | omega)) (by rfl) T.g_are_numbers T.F_are_numbers.kp T.b_are_numbers .nil pass0 (pa_cons (pv 3) (pa_cons (pe_op op_add (pv 2) pe_int) pa_nil))))))) (fun _ _ _ _ _ => (pv 3))) pa_nil)) pe_int (nomark _)))))))), ?_⟩
  try dsimp only [L2.cxOf, L2.Cx.nox, L2.Cx.wish, List.map_cons, List.map_nil]
  obtain ⟨v, fl, f, s, rfl, p0, p1, p2, k⟩ := h
  refine start_to (σ := [some _, some _, some _, none]) rfl ?_
  cases fl with
  | more w t =>
    obtain ⟨a, rfl, h1⟩ := fld_more p0
    obtain ⟨g1, g2, g3⟩ := p1
    walk_at "goO"
    rw [decide_eq_true g3]
    exact k _ (by walk_at "g_same")
  | lead w l =>
    obtain ⟨a, rfl, h1⟩ := fld_lead p0
    have g1 : 1 ≤ w := p1
    walk_at "goO"
    exact k _ (by walk_at "g_same")
  | tab rows =>
    obtain ⟨a, p, xs, rfl, h1, h2, h3⟩ := fld_tab p0
    obtain ⟨g1, g2⟩ := p1
    have hl : xs.length = rows.length := by rw [h3.len, List.length_map]
    walk_at "goO"
    refine ite_n (by simp; omega) ?_
    walk_at "goO"
    intro D nD
    refine lcL_nil (xs := xs) nD (SqL.of h2) ?_ ?_
    · intro i x H2 Z Y hx hs2 hy
      obtain ⟨r, q, e1, rfl, e2⟩ := row_at h3 hx
      have e2' := hs2 _ _ e2
      have b1 := g2 r (List.mem_of_getElem? e1)
      have b2 : r.length ≤ 1000 := by omega
      walk_at "goO"
      exact hy _ (by walk_at "g_same")
    · intro H2 hs2 hD
      clear h1 h2
      walk_at "goO"
      exact k _ (by walk_at "g_same")
def sp_look_battle (K : PySem.W.Frag) : Sp := fun vs H Q E => ∃ (v : V) (f s : Int) (fs : List Fld), vs = [v] ∧ (Dq H v (batD f s fs)) ∧ (BatOk f s fs) ∧ ∀ (H' : Hp), (Same H H') → Q (.non) H'
theorem use_look_battle {K : PySem.W.Frag} {H : Hp} {Q : VK} {E : XK} {v : V} {f s : Int} {fs : List Fld} (p0 : Dq H v (batD f s fs)) (p1 : BatOk f s fs) (k : ∀ (H' : Hp), (Same H H') → Q (.non) H') : sp_look_battle K [v] H Q E := ⟨v, f, s, fs, rfl, p0, p1, k⟩
theorem len_look_battle {K : PySem.W.Frag} (vs : List V) (H : Hp) (Q : VK) (E : XK) (h : sp_look_battle K vs H Q E) : vs.length = ["battle"].length := by
  obtain ⟨_, _, _, _, rfl, _⟩ := h
  rfl
local macro_rules | `(tactic| walk_at "g_call") => `(tactic| ((with_reducible refine' use_look_battle ?c0 ?c1 ?_); (case c0 => walk_at "g_pre"); (case c1 => walk_at "g_pre"); intros))
theorem ok_look_battle (T : Txt K mg) : FnOk P w K mg base CX0 4 T.a_look_battle T.d_look_battle ["battle"] (sp_look_battle K) := by
  have G_is_field := ok_is_field (P := P) (w := w) (base := base) T
  refine T.F_look_battle.ok sc_look_battle len_look_battle (fun cdv A outer s H vs Q E hr h => ?_)
  refine ⟨_, (pss_cons (ps_asg (pv 0) (pg_tupK K rfl 3 rfl (pgs_cons (pg_name (i := 1) sc_look_battle.nd rfl (Or.inl rfl)) (pgs_cons (pg_name (i := 2) sc_look_battle.nd rfl (Or.inl rfl)) (pgs_cons (pg_name (i := 3) sc_look_battle.nd rfl (Or.inl rfl)) pgs_nil)))))
      (pss_cons (ps_if (PW.pt (pw_or (pt_cmpR op_lt (pe_callB (call_min2 rfl) (by rfl) T.z_min (by decide +kernel) (pa_cons (pv 1) (pa_cons (pv 2) pa_nil))) pe_int (nomark _)) (pw_or (pt_cmpR op_gt (pe_callB (call_max2 rfl) (by rfl) T.z_max (by decide +kernel) (pa_cons (pv 1) (pa_cons (pv 2) pa_nil))) (pe_glob (v := .int 10) rfl T.c_MOST_HOSTS ⟨_, rfl⟩) (nomark _)) (pw_or (pt_cmpR op_lt (pe_callB (call_lenK K rfl) (by rfl) T.z_len (by decide +kernel) (pa_cons (pv 3) pa_nil)) pe_int (nomark _)) (pw_or1 (pt_cmpR op_gt (pe_callB (call_lenK K rfl) (by rfl) T.z_len (by decide +kernel) (pa_cons (pv 3) pa_nil)) (pe_glob (v := .int 5) rfl T.c_MOST_FIELDS ⟨_, rfl⟩) (nomark _))))))) (pss_one ps_never) pss_nil)
      (pss_one (ps_for PassesOwn.never rfl (pi_range1 rfl T.z_range (pa_cons (pe_callB (call_lenK K rfl) (by rfl) T.z_len (by decide +kernel) (pa_cons (pv 3) pa_nil)) pa_nil)) (pg_name (i := 4) sc_look_battle.nd rfl (Or.inl rfl)) (pss_one (ps_if (pt_not (pt_val (pe_call G_is_field (hr.mono (by first | decide | omega)) (by rfl) T.g_is_field T.F_is_field.kp T.b_is_field .nil pass0 (pa_cons (pe_ix (ix_listK K rfl) (pv 3) (pv 4) (fun _ _ => rfl)) (pa_cons (pv 1) (pa_cons (pv 2) pa_nil)))))) (pss_one ps_never) pss_nil)))))), ?_⟩
  try dsimp only [L2.cxOf, L2.Cx.nox, L2.Cx.wish, List.map_cons, List.map_nil]
  obtain ⟨v, f, s, fs, rfl, p0, p1, k⟩ := h
  obtain ⟨a, p, xs, rfl, h1, h2, h3⟩ := bat_inv p0
  have hl : xs.length = fs.length := by rw [h3.len, List.length_map]
  have b1 := p1.hf
  have b2 := p1.hs
  have b3 := p1.ne
  refine start_to (σ := [some _, none, none, none, none]) rfl ?_
  walk_at "goO"
  refine forR (fun i σ H1 => ∃ y1, σ = [some (.ref a), some (.int f), some (.int s), some (.ref p), y1] ∧ Same H H1) ⟨_, rfl, by walk_at "g_same"⟩ ?_ ?_
  · rintro σ1 H1 ⟨y1, rfl, g1⟩
    walk_at "goO"
    exact k _ (by walk_at "g_same")
  · rintro i σ1 H1 hi ⟨y1, rfl, g1⟩
    obtain ⟨w, hat, hw⟩ := at_lt (xs := xs) (i := 0 + (i : Int)) (by omega) (by omega)
    obtain ⟨fl, e1, e2⟩ := fld_at h3 hw
    have b4 := p1.at e1
    have b5 : 0 ≤ f ∧ f ≤ 10 ∧ 0 ≤ s ∧ s ≤ 10 := by omega
    walk_at "goO"
    exact ⟨_, rfl, by walk_at "g_same"⟩
def sp_pay (K : PySem.W.Frag) : Sp := fun vs H Q E => ∃ (v : V) (f s : Int) (fs : List Fld) (j x y : Int), vs = [v, .int j, .int x, .int y] ∧ (Dq H v (batD f s fs)) ∧ (BatOk f s fs) ∧ (0 ≤ j ∧ j < fs.length ∧ 0 ≤ x ∧ x ≤ f ∧ 0 ≤ y ∧ y ≤ s) ∧ ∀ (H' : Hp), (Same H H') → Q (.int (paidV (fldAt fs j) x y)) H'
theorem use_pay {K : PySem.W.Frag} {H : Hp} {Q : VK} {E : XK} {v : V} {f s : Int} {fs : List Fld} {j x y : Int} (p0 : Dq H v (batD f s fs)) (p1 : BatOk f s fs) (p2 : 0 ≤ j ∧ j < fs.length ∧ 0 ≤ x ∧ x ≤ f ∧ 0 ≤ y ∧ y ≤ s) (k : ∀ (H' : Hp), (Same H H') → Q (.int (paidV (fldAt fs j) x y)) H') : sp_pay K [v, .int j, .int x, .int y] H Q E := ⟨v, f, s, fs, j, x, y, rfl, p0, p1, p2, k⟩
theorem len_pay {K : PySem.W.Frag} (vs : List V) (H : Hp) (Q : VK) (E : XK) (h : sp_pay K vs H Q E) : vs.length = ["battle", "field", "x", "y"].length := by
  obtain ⟨_, _, _, _, _, _, _, rfl, _⟩ := h
  rfl
local macro_rules | `(tactic| walk_at "g_call") => `(tactic| ((with_reducible refine' use_pay ?c0 ?c1 ?c2 ?_); (case c0 => walk_at "g_pre"); (case c1 => walk_at "g_pre"); (case c2 => walk_at "g_pre"); intros))
theorem ok_pay (T : Txt K mg) : FnOk P w K mg base CX0 5 T.a_pay T.d_pay ["battle", "field", "x", "y"] (sp_pay K) := by
  have G_look_battle := ok_look_battle (P := P) (w := w) (base := base) T
  have G_paid := ok_paid (P := P) (w := w) (base := base) T
  refine T.F_pay.ok sc_pay len_pay (fun cdv A outer s H vs Q E hr h => ?_)
  refine ⟨_, (pss_cons (ps_expr (pe_call G_look_battle (hr.mono (by first | decide | omega)) (by rfl) T.g_look_battle T.F_look_battle.kp T.b_look_battle .nil pass0 (pa_cons (pv 0) pa_nil)))
      (pss_cons (ps_asg (pv 0) (pg_tupK K rfl 3 rfl (pgs_cons (pg_name (i := 4) sc_pay.nd rfl (Or.inl rfl)) (pgs_cons (pg_name (i := 5) sc_pay.nd rfl (Or.inl rfl)) (pgs_cons (pg_name (i := 6) sc_pay.nd rfl (Or.inl rfl)) pgs_nil)))))
      (pss_cons (ps_if (PW.pt (pw_or (pt_cmpR op_lt (pe_callB (call_min3I rfl) (by rfl) T.z_min (by decide +kernel) (pa_cons (pv 1) (pa_cons (pv 2) (pa_cons (pv 3) pa_nil)))) pe_int (nomark _)) (pw_or (pt_cmpR op_ge (pv 1) (pe_callB (call_lenK K rfl) (by rfl) T.z_len (by decide +kernel) (pa_cons (pv 6) pa_nil)) (nomark _)) (pw_or (pt_cmpR op_gt (pv 2) (pv 4) (nomark _)) (pw_or1 (pt_cmpR op_gt (pv 3) (pv 5) (nomark _))))))) (pss_one ps_never) pss_nil)
      (pss_one (ps_ret (pe_call G_paid (hr.mono (by first | decide | omega)) (by rfl) T.g_paid T.F_paid.kp T.b_paid .nil pass0 (pa_cons (pe_ix (ix_listK K rfl) (pv 6) (pv 1) (fun _ _ => rfl)) (pa_cons (pv 2) (pa_cons (pv 3) pa_nil))))))))), ?_⟩
  try dsimp only [L2.cxOf, L2.Cx.nox, L2.Cx.wish, List.map_cons, List.map_nil]
  obtain ⟨v, f, s, fs, j, x, y, rfl, p0, p1, p2, k⟩ := h
  refine start_to (σ := [some _, some _, some _, some _, none, none, none]) rfl ?_
  walk_at "goF"
  rename_i H1 g1
  obtain ⟨a, p, xs, rfl, h1, h2, h3⟩ := bat_inv (p0.same g1)
  have hl : xs.length = fs.length := by rw [h3.len, List.length_map]
  walk_at "goO"
  obtain ⟨w, hat, hw⟩ := at_lt (xs := xs) (i := j) (by omega) (by omega)
  obtain ⟨fl, e1, e2⟩ := fld_at h3 hw
  have b4 := p1.at e1
  have b6 : 0 ≤ x ∧ x ≤ f ∧ 0 ≤ y ∧ y ≤ s := by omega
  have e3 : fldAt fs j = fl := by
    unfold fldAt
    rw [e1]
    rfl
  rw [e3] at k
  walk_at "goO"
  exact k _ g1
def RiseTo (fl : Fld) (f s i j : Int) : Prop := ∀ x y : Int, 0 ≤ x → x ≤ f → 0 ≤ y → y ≤ s → (x < i ∨ x = i ∧ y < j) → (x < f → paidV fl x y ≤ paidV fl (x + 1) y) ∧ (y < s → paidV fl x (y + 1) ≤ paidV fl x y)
def sp_rises_on (K : PySem.W.Frag) : Sp := fun vs H Q E => ∃ (v : V) (fl : Fld) (f s : Int), vs = [v, .int f, .int s] ∧ (Dq H v (fldD fl)) ∧ (FldOk f s fl) ∧ (0 ≤ f ∧ f ≤ 10 ∧ 0 ≤ s ∧ s ≤ 10) ∧ ∀ (b : Bool), (b = true ↔ RiseP fl f s) → Q (.bl b) H
theorem use_rises_on {K : PySem.W.Frag} {H : Hp} {Q : VK} {E : XK} {v : V} {fl : Fld} {f s : Int} (p0 : Dq H v (fldD fl)) (p1 : FldOk f s fl) (p2 : 0 ≤ f ∧ f ≤ 10 ∧ 0 ≤ s ∧ s ≤ 10) (k : ∀ (b : Bool), (b = true ↔ RiseP fl f s) → Q (.bl b) H) : sp_rises_on K [v, .int f, .int s] H Q E := ⟨v, fl, f, s, rfl, p0, p1, p2, k⟩
theorem len_rises_on {K : PySem.W.Frag} (vs : List V) (H : Hp) (Q : VK) (E : XK) (h : sp_rises_on K vs H Q E) : vs.length = ["field", "first", "second"].length := by
  obtain ⟨_, _, _, _, rfl, _⟩ := h
  rfl
local macro_rules | `(tactic| walk_at "g_call") => `(tactic| ((with_reducible refine' use_rises_on ?c0 ?c1 ?c2 ?_); (case c0 => walk_at "g_pre"); (case c1 => walk_at "g_pre"); (case c2 => walk_at "g_pre"); intros))
theorem ok_rises_on (T : Txt K mg) : FnOk P w K mg base CX0 2 T.a_rises_on T.d_rises_on ["field", "first", "second"] (sp_rises_on K) := by
  have G_paid := ok_paid (P := P) (w := w) (base := base) T
  refine T.F_rises_on.ok sc_rises_on len_rises_on (fun cdv A outer s H vs Q E hr h => ?_)
  refine ⟨_, (pss_cons (ps_for PassesOwn.never rfl (pi_range1 rfl T.z_range (pa_cons (pe_op op_add (pv 1) pe_int) pa_nil)) (pg_name (i := 3) sc_rises_on.nd rfl (Or.inl rfl)) (pss_one (ps_for PassesOwn.never rfl (pi_range1 rfl T.z_range (pa_cons (pe_op op_add (pv 2) pe_int) pa_nil)) (pg_name (i := 4) sc_rises_on.nd rfl (Or.inl rfl)) (pss_cons (ps_if (PW.pt (pw_and (pt_cmpR op_lt (pv 3) (pv 1) (nomark _)) (pw_and1 (pt_cmpR op_lt (pe_call G_paid (hr.mono (by first | decide | omega)) (by rfl) T.g_paid T.F_paid.kp T.b_paid .nil pass0 (pa_cons (pv 0) (pa_cons (pe_op op_add (pv 3) pe_int) (pa_cons (pv 4) pa_nil)))) (pe_call G_paid (hr.mono (by first | decide | omega)) (by rfl) T.g_paid T.F_paid.kp T.b_paid .nil pass0 (pa_cons (pv 0) (pa_cons (pv 3) (pa_cons (pv 4) pa_nil)))) (nomark _))))) (pss_one (ps_ret pe_bl)) pss_nil)
      (pss_one (ps_if (PW.pt (pw_and (pt_cmpR op_lt (pv 4) (pv 2) (nomark _)) (pw_and1 (pt_cmpR op_gt (pe_call G_paid (hr.mono (by first | decide | omega)) (by rfl) T.g_paid T.F_paid.kp T.b_paid .nil pass0 (pa_cons (pv 0) (pa_cons (pv 3) (pa_cons (pe_op op_add (pv 4) pe_int) pa_nil)))) (pe_call G_paid (hr.mono (by first | decide | omega)) (by rfl) T.g_paid T.F_paid.kp T.b_paid .nil pass0 (pa_cons (pv 0) (pa_cons (pv 3) (pa_cons (pv 4) pa_nil)))) (nomark _))))) (pss_one (ps_ret pe_bl)) pss_nil))))))
      (pss_one (ps_ret pe_bl))), ?_⟩
  try dsimp only [L2.cxOf, L2.Cx.nox, L2.Cx.wish, List.map_cons, List.map_nil]
  obtain ⟨v, fl, f, s, rfl, p0, p1, p2, k⟩ := h
  refine start_to (σ := [some _, some _, some _, none, none]) rfl ?_
  walk_at "go"
  refine forR (fun i σ H1 => ∃ y1 y2, σ = [some v, some (.int f), some (.int s), y1, y2] ∧ H1 = H ∧ RiseTo fl f s i 0) ⟨_, _, rfl, rfl, fun x y h1 h2 h3 h4 h5 => by omega⟩ ?_ ?_
  · rintro σ1 H1 ⟨y1, y2, rfl, rfl, g⟩
    walk_at "go"
    exact k true ⟨fun _ x y h1 h2 h3 h4 => g x y h1 h2 h3 h4 (.inl (by omega)), fun _ => rfl⟩
  · rintro i σ1 H1 hi ⟨y1, y2, rfl, rfl, g⟩
    rw [Int.zero_add]
    walk_at "go"
    refine forR (fun j σ H2 => ∃ y2, σ = [some v, some (.int f), some (.int s), some (.int i), y2] ∧ H2 = H1 ∧ RiseTo fl f s i j) ⟨_, rfl, rfl, g⟩ ?_ ?_
    · rintro σ2 H2 ⟨y2, rfl, rfl, g2⟩
      walk_at "go"
      exact ⟨_, _, rfl, rfl, fun x y h1 h2 h3 h4 h5 => g2 x y h1 h2 h3 h4 (by omega)⟩
    · rintro j σ2 H2 hj ⟨y2, rfl, rfl, g2⟩
      have i1 : (i : Int) ≤ f := by omega
      have j1 : (j : Int) ≤ s := by omega
      rw [Int.zero_add]
      walk_at "goI"
      refine if_join (fun σ' H' => σ' = [some v, some (.int f), some (.int s), some (.int i), some (.int j)] ∧ H' = H2 ∧ ((i : Int) < f → paidV fl i j ≤ paidV fl (i + 1) j)) (fun nx' hn => ?_) ?_
      · walk_at "go"
        refine ite_d (fun c1 => ?_) (fun c1 => ?_)
        · walk_at "go"
          refine ite_d (fun c2 => ?_) (fun c2 => ?_)
          · walk_at "go"
            refine k false ⟨nofun, fun h => ?_⟩
            have := (h i j (by omega) i1 (by omega) j1).1 c1
            omega
          · walk_at "go"
            exact hn _ _ ⟨rfl, rfl, fun _ => by omega⟩
        · walk_at "go"
          exact hn _ _ ⟨rfl, rfl, fun h => absurd h c1⟩
      rintro σ3 H3 ⟨rfl, rfl, g3⟩
      walk_at "goI"
      have fin : ((j : Int) < s → paidV fl i (j + 1) ≤ paidV fl i j) → RiseTo fl f s i (j + 1) := fun g4 x y h1 h2 h3 h4 h5 => by
        by_cases c : x = i ∧ y = j
        · obtain ⟨rfl, rfl⟩ := c
          exact ⟨g3, g4⟩
        · exact g2 x y h1 h2 h3 h4 (by omega)
      walk_at "go"
      refine ite_d (fun c1 => ?_) (fun c1 => ?_)
      · walk_at "go"
        refine ite_d (fun c2 => ?_) (fun c2 => ?_)
        · walk_at "go"
          refine k false ⟨nofun, fun h => ?_⟩
          have := (h i j (by omega) i1 (by omega) j1).2 c1
          omega
        · walk_at "go"
          exact ⟨_, rfl, rfl, fin fun _ => by omega⟩
      · walk_at "go"
        exact ⟨_, rfl, rfl, fin fun h => absurd h c1⟩
def sp_rises (K : PySem.W.Frag) : Sp := fun vs H Q E => ∃ (v : V) (f s : Int) (fs : List Fld), vs = [v] ∧ (Dq H v (batD f s fs)) ∧ (BatOk f s fs) ∧ ∀ (b : Bool) (H' : Hp), (b = true ↔ RiseA fs f s) → (Same H H') → Q (.bl b) H'
theorem use_rises {K : PySem.W.Frag} {H : Hp} {Q : VK} {E : XK} {v : V} {f s : Int} {fs : List Fld} (p0 : Dq H v (batD f s fs)) (p1 : BatOk f s fs) (k : ∀ (b : Bool) (H' : Hp), (b = true ↔ RiseA fs f s) → (Same H H') → Q (.bl b) H') : sp_rises K [v] H Q E := ⟨v, f, s, fs, rfl, p0, p1, k⟩
theorem len_rises {K : PySem.W.Frag} (vs : List V) (H : Hp) (Q : VK) (E : XK) (h : sp_rises K vs H Q E) : vs.length = ["battle"].length := by
  obtain ⟨_, _, _, _, rfl, _⟩ := h
  rfl
local macro_rules | `(tactic| walk_at "g_call") => `(tactic| ((with_reducible refine' use_rises ?c0 ?c1 ?_); (case c0 => walk_at "g_pre"); (case c1 => walk_at "g_pre"); intros))
theorem ok_rises (T : Txt K mg) : FnOk P w K mg base CX0 5 T.a_rises T.d_rises ["battle"] (sp_rises K) := by
  have G_look_battle := ok_look_battle (P := P) (w := w) (base := base) T
  have G_rises_on := ok_rises_on (P := P) (w := w) (base := base) T
  refine T.F_rises.ok sc_rises len_rises (fun cdv A outer s H vs Q E hr h => ?_)
  refine ⟨_, (pss_cons (ps_expr (pe_call G_look_battle (hr.mono (by first | decide | omega)) (by rfl) T.g_look_battle T.F_look_battle.kp T.b_look_battle .nil pass0 (pa_cons (pv 0) pa_nil)))
      (pss_one (ps_ret (pe_cmpR op_eq (pe_callB (call_lenK K rfl) (by rfl) T.z_len (by decide +kernel) (pa_cons (pe_lc (own := [("field", 1)]) rfl sc_rises.nd (pi_listK K rfl (pe_ix (ix_tupK K rfl) (pv 0) pe_int (fun _ _ => rfl))) (blkOk_by (own := [("field", 1)]) (N := ["battle", "field"]) (sc := defScope s_rises) (by decide +kernel)) (fun _ _ _ _ _ => (pg_name (i := 1) sc_rises.nd rfl (Or.inl rfl))) (fun _ _ _ _ _ => (pts_one (pt_not (pt_val (pe_call G_rises_on (hr.mono (by first | decide | omega)) (by rfl) T.g_rises_on T.F_rises_on.kp T.b_rises_on .nil pass0 (pa_cons (pv 1) (pa_cons (pe_ix (ix_tupK K rfl) (pv 0) pe_int (fun _ _ => rfl)) (pa_cons (pe_ix (ix_tupK K rfl) (pv 0) pe_int (fun _ _ => rfl)) pa_nil)))))))) (fun _ _ _ _ _ => (pv 1))) pa_nil)) pe_int (nomark _))))), ?_⟩
  try dsimp only [L2.cxOf, L2.Cx.nox, L2.Cx.wish, List.map_cons, List.map_nil]
  obtain ⟨v, f, s, fs, rfl, p0, p1, k⟩ := h
  refine start_to (σ := [some _, none]) rfl ?_
  walk_at "goO"
  rename_i H1 g1
  obtain ⟨a, p, xs, rfl, h1, h2, h3⟩ := bat_inv (p0.same g1)
  have hl : xs.length = fs.length := by rw [h3.len, List.length_map]
  have b1 := p1.hf
  have b2 := p1.hs
  have b3 := p1.ne
  walk_at "goO"
  intro D nD
  refine lcL (xs := xs) (fun i acc H2 => Same H1 H2 ∧ acc.length ≤ i ∧ (acc = [] ↔ ∀ k fl, k < i → fs[k]? = some fl → RiseP fl f s)) nD ⟨Same.new nD, Nat.le_refl _, by simp⟩ (fun i acc H2 _ q _ => SqL.of (q.1 _ _ h2)) ?_ ?_
  · rintro i x acc H2 Z Y hx ⟨r1, r3, r2⟩ hD hz hy
    obtain ⟨fl, e1, e2⟩ := fld_at h3 hx
    have e2' := e2.same r1
    have b4 := p1.at e1
    have b5 : 0 ≤ f ∧ f ≤ 10 ∧ 0 ≤ s ∧ s ≤ 10 := by omega
    have hi := (List.getElem?_eq_some_iff.mp hx).1
    have h1' := r1 _ _ h1
    walk_at "goO"
    rename_i b hb
    cases b with
    | true =>
      walk_at "goO"
      refine hy _ hD ⟨r1, by omega, ?_⟩
      rw [r2]
      refine ⟨fun q k fl' hk he => ?_, fun q k fl' hk he => q k fl' (by omega) he⟩
      by_cases c : k = i
      · subst c
        rw [e1] at he
        obtain rfl := Option.some.inj he
        exact hb.mp rfl
      · exact q k fl' (by omega) he
    | false =>
      walk_at "goO"
      refine hz _ _ hD (sz4' (by omega)) ⟨Same.mut r1 nD, by rw [List.length_append]; show _ + 1 ≤ _; omega, ?_⟩
      · refine ⟨fun q => by simp at q, fun q => ?_⟩
        have := hb.mpr (q i fl (by omega) e1)
        cases this
  · rintro acc H2 ⟨r1, r3, r2⟩ hD
    walk_at "go"
    refine k _ _ ?_ (by walk_at "g_same")
    rw [decide_eq_true_iff]
    have e : ((acc.length : Int) = 0) ↔ acc = [] := by rw [← List.length_eq_zero_iff]; omega
    rw [e, r2]
    refine ⟨fun q x hx => ?_, fun q k fl _ he => q fl (List.mem_of_getElem? he)⟩
    obtain ⟨k, hk, rfl⟩ := List.mem_iff_getElem.mp hx
    exact q k _ (by omega) (List.getElem?_eq_getElem hk)
def EvenTo (fl : Fld) (f i j : Int) : Prop := ∀ x y : Int, 0 ≤ x → x ≤ f → 0 ≤ y → y ≤ x → (x < i ∨ x = i ∧ y < j) → paidV fl x y = 0 - paidV fl y x

def sp_l_paid (K : PySem.W.Frag) : Sp := fun vs H Q E => ∃ (v : V) (fl : Fld) (f s x y : Int), vs = [v, .int x, .int y] ∧ (Dq H v (fldD fl)) ∧ (FldOk f s fl) ∧ (0 ≤ x ∧ x ≤ f ∧ 0 ≤ y ∧ y ≤ s) ∧ ∀ (H' : Hp), (Same H H') → Q (.int (paidV fl x y)) H'
theorem use_l_paid {K : PySem.W.Frag} {H : Hp} {Q : VK} {E : XK} {v : V} {fl : Fld} {f s x y : Int} (p0 : Dq H v (fldD fl)) (p1 : FldOk f s fl) (p2 : 0 ≤ x ∧ x ≤ f ∧ 0 ≤ y ∧ y ≤ s) (k : ∀ (H' : Hp), (Same H H') → Q (.int (paidV fl x y)) H') : sp_l_paid K [v, .int x, .int y] H Q E := ⟨v, fl, f, s, x, y, rfl, p0, p1, p2, k⟩
theorem len_l_paid {K : PySem.W.Frag} (vs : List V) (H : Hp) (Q : VK) (E : XK) (h : sp_l_paid K vs H Q E) : vs.length = ["_law_field", "_law_x", "_law_y"].length := by
  obtain ⟨_, _, _, _, _, _, rfl, _⟩ := h
  rfl
local macro_rules | `(tactic| walk_at "g_call") => `(tactic| ((with_reducible refine' use_l_paid ?c0 ?c1 ?c2 ?_); (case c0 => walk_at "g_pre"); (case c1 => walk_at "g_pre"); (case c2 => walk_at "g_pre"); intros))
theorem ok_l_paid (T : Txt K mg) : FnOk P w K mg base CX0 1 T.a_l_paid T.d_l_paid ["_law_field", "_law_x", "_law_y"] (sp_l_paid K) := by
  refine T.F_l_paid.ok sc_l_paid len_l_paid (fun cdv A outer s H vs Q E hr h => ?_)
  refine ⟨_, (pss_cons (ps_if (pt_cmpR op_eq (pe_ix (ix_tupK K rfl) (pv 0) pe_int (fun _ _ => rfl)) pe_str (nomark _)) (pss_one (ps_ret (pe_ix (ix_listK K rfl) (pe_ix (ix_listK K rfl) (pe_ix (ix_tupK K rfl) (pv 0) pe_int (fun _ _ => rfl)) (pv 1) (fun _ _ => rfl)) (pv 2) (fun _ _ => rfl)))) pss_nil)
      (pss_cons (ps_if (pt_cmpR op_eq (pe_ix (ix_tupK K rfl) (pv 0) pe_int (fun _ _ => rfl)) pe_str (nomark _)) (pss_one (ps_ret (pe_ix (ix_listK K rfl) (pe_lst (pa_cons (pe_op op_sub pe_int (pe_ix (ix_tupK K rfl) (pv 0) pe_int (fun _ _ => rfl))) (pa_cons (pe_ix (ix_tupK K rfl) (pv 0) pe_int (fun _ _ => rfl)) pa_nil))) (pe_callTy call_int1 (by rfl) T.z_int (by decide +kernel) (pa_cons (pe_cmpR op_ge (pe_op op_sub (pv 1) (pv 2)) (pe_ix (ix_tupK K rfl) (pv 0) pe_int (fun _ _ => rfl)) (nomark _)) pa_nil)) (fun _ _ => rfl)))) pss_nil)
      (pss_one (ps_ret (pe_ix (ix_listK K rfl) (pe_lst (pa_cons (pe_op op_sub pe_int (pe_ix (ix_tupK K rfl) (pv 0) pe_int (fun _ _ => rfl))) (pa_cons (pe_ix (ix_tupK K rfl) (pv 0) pe_int (fun _ _ => rfl)) (pa_cons (pe_ix (ix_tupK K rfl) (pv 0) pe_int (fun _ _ => rfl)) pa_nil)))) (pe_op op_add (pe_callTy call_int1 (by rfl) T.z_int (by decide +kernel) (pa_cons (pe_cmpR op_ge (pv 1) (pv 2) (nomark _)) pa_nil)) (pe_callTy call_int1 (by rfl) T.z_int (by decide +kernel) (pa_cons (pe_cmpR op_gt (pv 1) (pv 2) (nomark _)) pa_nil))) (fun _ _ => rfl)))))), ?_⟩
  try dsimp only [L2.cxOf, L2.Cx.nox, L2.Cx.wish, List.map_cons, List.map_nil]
  obtain ⟨v, fl, f, s, x, y, rfl, p0, p1, p2, k⟩ := h
  refine start_to (σ := [some _, some _, some _]) rfl ?_
  cases fl with
  | more w t =>
    obtain ⟨a, rfl, h1⟩ := fld_more p0
    have k' : ∀ H', Same H H' → Q (.int (if x = y then t else if x > y then w else 0 - w)) H' := k
    rcases (by omega : x < y ∨ x = y ∨ x > y) with c | c | c
    · rw [if_neg (by omega), if_neg (by omega)] at k'
      walk_at "go"
      exact k' _ (by walk_at "g_same")
    · rw [if_pos (by omega)] at k'
      walk_at "go"
      exact k' _ (by walk_at "g_same")
    · rw [if_neg (by omega), if_pos (by omega)] at k'
      walk_at "go"
      exact k' _ (by walk_at "g_same")
  | lead w l =>
    obtain ⟨a, rfl, h1⟩ := fld_lead p0
    have k' : ∀ H', Same H H' → Q (.int (if x ≥ y + l then w else 0 - w)) H' := k
    rcases (by omega : x - y ≥ l ∨ ¬ (x - y ≥ l)) with c | c
    · rw [if_pos (by omega)] at k'
      walk_at "go"
      exact k' _ (by walk_at "g_same")
    · rw [if_neg (by omega)] at k'
      walk_at "go"
      exact k' _ (by walk_at "g_same")
  | tab rows =>
    obtain ⟨a, p, xs, rfl, h1, h2, h3⟩ := fld_tab p0
    obtain ⟨g1, g2⟩ := p1
    have hl : xs.length = rows.length := by rw [h3.len, List.length_map]
    obtain ⟨w, hat, hw⟩ := at_lt (xs := xs) (i := x) (by omega) (by omega)
    obtain ⟨r, q, e1, rfl, e2⟩ := row_at h3 hw
    have hr := g2 r (List.mem_of_getElem? e1)
    walk_at "go"
    rename_i z hz
    have k' : Q (.int ((((rows[x.toNat]?).getD [])[y.toNat]?).getD 0)) H := k _ (Same.refl _)
    rw [e1] at k'
    have k2 : Q (.int ((r[y.toNat]?).getD 0)) H := k'
    rw [hz] at k2
    exact k2
def BackTo (fl : Fld) (f s i j : Int) : Prop := ∀ x y : Int, 0 ≤ x → x ≤ f → 0 ≤ y → y ≤ s → (x < i ∨ x = i ∧ y < j) → (x > 0 → paidV fl (x - 1) y ≤ paidV fl x y) ∧ (y > 0 → paidV fl x y ≤ paidV fl x (y - 1))
theorem back_rise {fl : Fld} {f s : Int} : BackTo fl f s (f + 1) 0 ↔ RiseP fl f s := by
  refine ⟨fun h x y h1 h2 h3 h4 => ⟨fun c => ?_, fun c => ?_⟩, fun h x y h1 h2 h3 h4 _ => ⟨fun c => ?_, fun c => ?_⟩⟩
  · have := (h (x + 1) y (by omega) (by omega) h3 h4 (.inl (by omega))).1 (by omega)
    rw [show x + 1 - 1 = x by omega] at this
    exact this
  · have := (h x (y + 1) h1 h2 (by omega) (by omega) (.inl (by omega))).2 (by omega)
    rw [show y + 1 - 1 = y by omega] at this
    exact this
  · have := (h (x - 1) y (by omega) (by omega) h3 h4).1 (by omega)
    rw [show x - 1 + 1 = x by omega] at this
    exact this
  · have := (h x (y - 1) h1 h2 (by omega) (by omega)).2 (by omega)
    rw [show y - 1 + 1 = y by omega] at this
    exact this
def sp_l_rises (K : PySem.W.Frag) : Sp := fun vs H Q E => ∃ (v : V) (f s : Int) (fs : List Fld), vs = [v] ∧ (Dq H v (batD f s fs)) ∧ (BatOk f s fs) ∧ ∀ (b : Bool) (H' : Hp), (b = true ↔ RiseA fs f s) → (Same H H') → Q (.bl b) H'
theorem use_l_rises {K : PySem.W.Frag} {H : Hp} {Q : VK} {E : XK} {v : V} {f s : Int} {fs : List Fld} (p0 : Dq H v (batD f s fs)) (p1 : BatOk f s fs) (k : ∀ (b : Bool) (H' : Hp), (b = true ↔ RiseA fs f s) → (Same H H') → Q (.bl b) H') : sp_l_rises K [v] H Q E := ⟨v, f, s, fs, rfl, p0, p1, k⟩
theorem len_l_rises {K : PySem.W.Frag} (vs : List V) (H : Hp) (Q : VK) (E : XK) (h : sp_l_rises K vs H Q E) : vs.length = ["_law_battle_here"].length := by
  obtain ⟨_, _, _, _, rfl, _⟩ := h
  rfl
local macro_rules | `(tactic| walk_at "g_call") => `(tactic| ((with_reducible refine' use_l_rises ?c0 ?c1 ?_); (case c0 => walk_at "g_pre"); (case c1 => walk_at "g_pre"); intros))
theorem ok_l_rises (T : Txt K mg) : FnOk P w K mg base CX0 2 T.a_l_rises T.d_l_rises ["_law_battle_here"] (sp_l_rises K) := by
  have G_l_paid := ok_l_paid (P := P) (w := w) (base := base) T
  refine T.F_l_rises.ok sc_l_rises len_l_rises (fun cdv A outer s H vs Q E hr h => ?_)
  refine ⟨_, (pss_cons (ps_asg (pv 0) (pg_tupK K rfl 3 rfl (pgs_cons (pg_name (i := 1) sc_l_rises.nd rfl (Or.inl rfl)) (pgs_cons (pg_name (i := 2) sc_l_rises.nd rfl (Or.inl rfl)) (pgs_cons (pg_name (i := 3) sc_l_rises.nd rfl (Or.inl rfl)) pgs_nil)))))
      (pss_cons (ps_for PassesOwn.never rfl (pi_listK K rfl (pv 3)) (pg_name (i := 4) sc_l_rises.nd rfl (Or.inl rfl)) (pss_one (ps_for PassesOwn.never rfl (pi_range1 rfl T.z_range (pa_cons (pe_op op_add (pv 1) pe_int) pa_nil)) (pg_name (i := 5) sc_l_rises.nd rfl (Or.inl rfl)) (pss_one (ps_for PassesOwn.never rfl (pi_range1 rfl T.z_range (pa_cons (pe_op op_add (pv 2) pe_int) pa_nil)) (pg_name (i := 6) sc_l_rises.nd rfl (Or.inl rfl)) (pss_cons (ps_set (i := 7) sc_l_rises.nd rfl (Or.inl rfl) (pe_call G_l_paid (hr.mono (by first | decide | omega)) (by rfl) T.g_l_paid T.F_l_paid.kp T.b_l_paid .nil pass0 (pa_cons (pv 4) (pa_cons (pv 5) (pa_cons (pv 6) pa_nil)))))
      (pss_one (ps_if (PW.pt (pw_or (PW.pt (pw_and (pt_cmpR op_gt (pv 5) pe_int (nomark _)) (pw_and1 (pt_cmpR op_gt (pe_call G_l_paid (hr.mono (by first | decide | omega)) (by rfl) T.g_l_paid T.F_l_paid.kp T.b_l_paid .nil pass0 (pa_cons (pv 4) (pa_cons (pe_op op_sub (pv 5) pe_int) (pa_cons (pv 6) pa_nil)))) (pv 7) (nomark _))))) (pw_or1 (PW.pt (pw_and (pt_cmpR op_gt (pv 6) pe_int (nomark _)) (pw_and1 (pt_cmpR op_lt (pe_call G_l_paid (hr.mono (by first | decide | omega)) (by rfl) T.g_l_paid T.F_l_paid.kp T.b_l_paid .nil pass0 (pa_cons (pv 4) (pa_cons (pv 5) (pa_cons (pe_op op_sub (pv 6) pe_int) pa_nil)))) (pv 7) (nomark _)))))))) (pss_one (ps_ret pe_bl)) pss_nil))))))))
      (pss_one (ps_ret pe_bl)))), ?_⟩
  try dsimp only [L2.cxOf, L2.Cx.nox, L2.Cx.wish, List.map_cons, List.map_nil]
  obtain ⟨v, f, s, fs, rfl, p0, p1, k⟩ := h
  refine start_to (σ := [some _, none, none, none, none, none, none, none]) rfl ?_
  obtain ⟨a, p, xs, rfl, h1, h2, h3⟩ := bat_inv p0
  have hl : xs.length = fs.length := by rw [h3.len, List.length_map]
  have b1 := p1.hf
  have b2 := p1.hs
  have b3 := p1.ne
  walk_at "go"
  refine forL (xs := xs) (fun i σ H1 => ∃ y4 y5 y6 y7, σ = [some (.ref a), some (.int f), some (.int s), some (.ref p), y4, y5, y6, y7] ∧ Same H H1 ∧ ∀ k fl, k < i → fs[k]? = some fl → RiseP fl f s) ⟨_, _, _, _, rfl, by walk_at "g_same", nofun⟩ ?_ ?_ ?_
  · rintro i σ H1 _ ⟨y4, y5, y6, y7, rfl, g, _⟩
    exact SqL.of (g _ _ h2)
  · rintro σ H1 ⟨y4, y5, y6, y7, rfl, g, g2⟩
    walk_at "go"
    refine k true _ ⟨fun _ x hx => ?_, fun _ => rfl⟩ g
    obtain ⟨j, hj, rfl⟩ := List.mem_iff_getElem.mp hx
    exact g2 j _ (by omega) (List.getElem?_eq_getElem hj)
  · rintro i x σ H1 hx ⟨y4, y5, y6, y7, rfl, g, g2⟩
    obtain ⟨fl, e1, e2⟩ := fld_at h3 hx
    have b4 := p1.at e1
    clear h1 h2
    walk_at "go"
    refine forR (fun i' σ H1' => ∃ y5 y6 y7, σ = [some (.ref a), some (.int f), some (.int s), some (.ref p), some x, y5, y6, y7] ∧ Same H H1' ∧ BackTo fl f s i' 0) ⟨_, _, _, rfl, g, fun x y h1 h2 h3 h4 h5 => by omega⟩ ?_ ?_
    · rintro σ1 H2 ⟨y5, y6, y7, rfl, g3, g4⟩
      walk_at "go"
      refine ⟨_, _, _, _, rfl, g3, fun k fl' hk he => ?_⟩
      by_cases c : k = i
      · subst c
        rw [e1] at he
        obtain rfl := Option.some.inj he
        rw [show (((f + 1).toNat : Nat) : Int) = f + 1 by omega] at g4
        exact back_rise.mp g4
      · exact g2 k fl' (by omega) he
    · rintro i' σ1 H2 hi ⟨y5, y6, y7, rfl, g3, g4⟩
      rw [Int.zero_add]
      walk_at "go"
      refine forR (fun j σ H3 => ∃ y6 y7, σ = [some (.ref a), some (.int f), some (.int s), some (.ref p), some x, some (.int i'), y6, y7] ∧ Same H H3 ∧ BackTo fl f s i' j) ⟨_, _, rfl, g3, g4⟩ ?_ ?_
      · rintro σ2 H3 ⟨y6, y7, rfl, g5, g6⟩
        walk_at "go"
        exact ⟨_, _, _, rfl, g5, fun x y h1 h2 h3 h4 h5 => g6 x y h1 h2 h3 h4 (by omega)⟩
      · rintro j σ2 H3 hj ⟨y6, y7, rfl, g5, g6⟩
        have i1 : (i' : Int) ≤ f := by omega
        have j1 : (j : Int) ≤ s := by omega
        have e2' := e2.same g5
        rw [Int.zero_add]
        have bad : ¬ (((i' : Int) > 0 → paidV fl ((i' : Int) - 1) j ≤ paidV fl i' j) ∧ ((j : Int) > 0 → paidV fl i' j ≤ paidV fl i' ((j : Int) - 1))) → ¬ RiseA fs f s := fun h q => h (back_rise.mpr (q fl (List.mem_of_getElem? e1)) i' j (by omega) i1 (by omega) j1 (.inl (by omega)))
        have fin : (((i' : Int) > 0 → paidV fl ((i' : Int) - 1) j ≤ paidV fl i' j) ∧ ((j : Int) > 0 → paidV fl i' j ≤ paidV fl i' ((j : Int) - 1))) → BackTo fl f s i' (j + 1 : Nat) := fun h x y h1 h2 h3 h4 h5 => by
          by_cases c : x = i' ∧ y = j
          · obtain ⟨rfl, rfl⟩ := c
            exact h
          · exact g6 x y h1 h2 h3 h4 (by omega)
        walk_at "go"
        refine ite_d (fun c1 => ?_) (fun c1 => ?_)
        · walk_at "go"
          refine ite_d (fun c2 => ?_) (fun c2 => ?_)
          · walk_at "go"
            exact k false _ ⟨nofun, fun h => absurd h (bad fun q => by have := q.1 c1; omega)⟩ (by walk_at "g_same")
          · walk_at "go"
            refine ite_d (fun c3 => ?_) (fun c3 => ?_)
            · walk_at "go"
              refine ite_d (fun c4 => ?_) (fun c4 => ?_)
              · walk_at "go"
                exact k false _ ⟨nofun, fun h => absurd h (bad fun q => by have := q.2 c3; omega)⟩ (by walk_at "g_same")
              · walk_at "go"
                exact ⟨_, _, rfl, by walk_at "g_same", fin ⟨fun _ => by omega, fun _ => by omega⟩⟩
            · walk_at "go"
              exact ⟨_, _, rfl, by walk_at "g_same", fin ⟨fun _ => by omega, fun h => absurd h c3⟩⟩
        · walk_at "go"
          refine ite_d (fun c3 => ?_) (fun c3 => ?_)
          · walk_at "go"
            refine ite_d (fun c4 => ?_) (fun c4 => ?_)
            · walk_at "go"
              exact k false _ ⟨nofun, fun h => absurd h (bad fun q => by have := q.2 c3; omega)⟩ (by walk_at "g_same")
            · walk_at "go"
              exact ⟨_, _, rfl, by walk_at "g_same", fin ⟨fun h => absurd h c1, fun _ => by omega⟩⟩
          · walk_at "go"
            exact ⟨_, _, rfl, by walk_at "g_same", fin ⟨fun h => absurd h c1, fun h => absurd h c3⟩⟩
def sp_l_rising (K : PySem.W.Frag) : Sp := fun vs H Q E => ∃ (a : Addr) (m c f s : Int), vs = [.ref a, .int f, .int s] ∧ (Pk a m H c) ∧ (c ≤ 80000) ∧ (0 ≤ f ∧ f ≤ 10 ∧ 0 ≤ s ∧ s ≤ 10) ∧ ∀ (v : V) (rs : List (List Int)) (G : Hp) (H' : Hp), (Dq G v (.list (rs.map planD))) → (FldOk f s (.tab rs)) → (Newly H G) → (Same G H') → (Pk a m H' (c + 200)) → (But a H H') → Q (v) H'
theorem use_l_rising {K : PySem.W.Frag} {H : Hp} {Q : VK} {E : XK} {a : Addr} {m c f s : Int} (p0 : Pk a m H c) (p1 : c ≤ 80000) (p2 : 0 ≤ f ∧ f ≤ 10 ∧ 0 ≤ s ∧ s ≤ 10) (k : ∀ (v : V) (rs : List (List Int)) (G : Hp) (H' : Hp), (Dq G v (.list (rs.map planD))) → (FldOk f s (.tab rs)) → (Newly H G) → (Same G H') → (Pk a m H' (c + 200)) → (But a H H') → Q (v) H') : sp_l_rising K [.ref a, .int f, .int s] H Q E := ⟨a, m, c, f, s, rfl, p0, p1, p2, k⟩
theorem len_l_rising {K : PySem.W.Frag} (vs : List V) (H : Hp) (Q : VK) (E : XK) (h : sp_l_rising K vs H Q E) : vs.length = ["_law_left_here", "_law_first", "_law_second"].length := by
  obtain ⟨_, _, _, _, _, rfl, _⟩ := h
  rfl
local macro_rules | `(tactic| walk_at "g_call") => `(tactic| ((with_reducible refine' use_l_rising ?c0 ?c1 ?c2 ?_); (case c0 => walk_at "g_pre"); (case c1 => walk_at "g_pre"); (case c2 => walk_at "g_pre"); intros))
theorem ok_l_rising (T : Txt K mg) : FnOk P w K mg base CX0 3 T.a_l_rising T.d_l_rising ["_law_left_here", "_law_first", "_law_second"] (sp_l_rising K) := by
  have G_l_draw := ok_l_draw (P := P) (w := w) (base := base) T
  refine T.F_l_rising.ok sc_l_rising len_l_rising (fun cdv A outer s H vs Q E hr h => ?_)
  refine ⟨_, (pss_cons (ps_set (i := 3) sc_l_rising.nd rfl (Or.inr rfl) (pe_lc (own := [("_law_side", 6)]) rfl sc_l_rising.nd (pi_range1 rfl T.z_range (pa_cons pe_int pa_nil)) (blkOk_by (own := [("_law_side", 6)]) (N := ["_law_left_here", "_law_first", "_law_second", "_law_steps", "_law_rows", "_law_x", "_law_side", "_law_k", "_law_y"]) (sc := defScope s_l_rising) (by decide +kernel)) (fun _ _ _ _ _ => (pg_name (i := 6) sc_l_rising.nd rfl (Or.inl rfl))) (fun _ _ _ _ _ => pts_nil) (fun _ _ _ _ _ => (pe_lc (own := [("_law_k", 7)]) rfl sc_l_rising.nd (pi_range1 rfl T.z_range (pa_cons pe_int pa_nil)) (blkOk_by (own := [("_law_k", 7)]) (N := ["_law_left_here", "_law_first", "_law_second", "_law_steps", "_law_rows", "_law_x", "_law_side", "_law_k", "_law_y"]) (sc := (Hf.relS { kind := PySem.ScopeKind.function, names := [ (PySem.Str.ofString ".0", PySem.NameKind.local), (PySem.Str.ofString "_law_side", PySem.NameKind.local), (PySem.Str.ofString "range", PySem.NameKind.globalImplicit), (PySem.Str.ofString "_law_left_here", PySem.NameKind.free)], isGenerator := false, isCoroutine := false, more := [] : PySem.Scope } (defScope s_l_rising))) (by decide +kernel)) (fun _ _ _ _ _ => (pg_name (i := 7) sc_l_rising.nd rfl (Or.inl rfl))) (fun _ _ _ _ _ => pts_nil) (fun _ _ _ _ _ => (pe_call G_l_draw (hr.mono (by first | decide | omega)) (by rfl) T.g_l_draw T.F_l_draw.kp T.b_l_draw .nil pass0 (pa_cons (pv 0) (pa_cons pe_int pa_nil))))))))
      (pss_cons (ps_set (i := 4) sc_l_rising.nd rfl (Or.inl rfl) (pe_lst pa_nil))
      (pss_cons (ps_for PassesOwn.never rfl (pi_range1 rfl T.z_range (pa_cons (pe_op op_add (pv 1) pe_int) pa_nil)) (pg_name (i := 5) sc_l_rising.nd rfl (Or.inr rfl)) (pss_one (ps_expr (pe_bm PySem.F.plainAttrs_list PySem.F.slot_list_append PySem.F.type_list_append mt_append (pv 4) (pa_cons (pe_lc (own := [("_law_y", 8)]) rfl sc_l_rising.nd (pi_range1 rfl T.z_range (pa_cons (pe_op op_add (pv 2) pe_int) pa_nil)) (blkOk_by (own := [("_law_y", 8)]) (N := ["_law_left_here", "_law_first", "_law_second", "_law_steps", "_law_rows", "_law_x", "_law_side", "_law_k", "_law_y"]) (sc := defScope s_l_rising) (by decide +kernel)) (fun _ _ _ _ _ => (pg_name (i := 8) sc_l_rising.nd rfl (Or.inl rfl))) (fun _ _ _ _ _ => pts_nil) (fun _ _ _ _ _ => (pe_op op_sub (pe_callB (cr_sumK K rfl rfl) (by rfl) T.z_sum (by decide +kernel) (pa_cons (pe_slice (sl_listK K rfl) (pe_ix (ix_listK K rfl) (pv 3) pe_int (fun _ _ => rfl)) po_none (po_some (pv 5))) pa_nil)) (pe_callB (cr_sumK K rfl rfl) (by rfl) T.z_sum (by decide +kernel) (pa_cons (pe_slice (sl_listK K rfl) (pe_ix (ix_listK K rfl) (pv 3) pe_int (fun _ _ => rfl)) po_none (po_some (pv 8))) pa_nil))))) pa_nil)))))
      (pss_one (ps_ret (pv 4)))))), ?_⟩
  try dsimp only [L2.cxOf, L2.Cx.nox, L2.Cx.wish, List.map_cons, List.map_nil]
  obtain ⟨a, m, c, f, s, rfl, p0, p1, p2, k⟩ := h
  refine start_to (σ := [some _, some _, some _, none, none, none, none, none, none]) rfl ?_
  walk_at "go"
  intro D nD
  refine lcR_dq planD (fun r => True) 84 p0 nD (by decide) ?_ ?_
  · intro i H4 Z Y hi hp hb hz
    walk_at "go"
    intro D2 nD2
    refine lcR_pk (fun _ => True) 4 (by walk_at "g_pk") nD2 (by decide) ?_ ?_
    · intro j H5 Z2 Y2 hj hp2 hb2 hz2
      walk_at "go"
      rename_i d5 H6 u1 u2 u3
      exact hz2 _ _ trivial u2 u3
    · intro ms H5 h1 h2 h3 h4 h5
      walk_at "go"
      exact hz ms (.ref D2) (fr [] H4 H5) H5 trivial (row_mk (fr_lk0 nD2 h3)) fr_newly fr_same (h4.mono (by omega)) h5
  · intro st G H2 h1 h2 h3 h4 h5 h6 h7
    obtain ⟨S, xs, e1, e2, e3⟩ := h3.list_inv
    cases e1
    have hl : xs.length = 2 := by rw [e3.len, List.length_map, h1]; rfl
    obtain ⟨x0, hx0⟩ : ∃ x, xs[0]? = some x := ⟨xs[0]'(by omega), List.getElem?_eq_getElem _⟩
    obtain ⟨x1, hx1⟩ : ∃ x, xs[1]? = some x := ⟨xs[1]'(by omega), List.getElem?_eq_getElem _⟩
    obtain ⟨r0, q0, _, rfl, f0⟩ := row_at e3 hx0
    obtain ⟨r1, q1, _, rfl, f1⟩ := row_at e3 hx1
    have hat0 : atI xs 0 = some (.ref q0) := atI_nat hx0
    have hat1 : atI xs 1 = some (.ref q1) := atI_nat hx1
    have i1 := h5 _ _ e2
    have i2 := h5 _ _ f0
    have i3 := h5 _ _ f1
    walk_at "go"
    rename_i R nR
    have hR : H R = none := by walk_at "g_free"
    refine forR (fun i σ H3 => ∃ (xs : List V) (rs : List (List Int)) (y5 : Option V), σ = [some (.ref a), some (.int f), some (.int s), some (.ref D), some (.ref R), y5, none, none, none] ∧ H3 R = some (.lst xs) ∧ DqAll (fr [R] H2 H3) xs (rs.map planD) ∧ rs.length = i ∧ (∀ r ∈ rs, (r.length : Int) = s + 1) ∧ Same H2 H3) ⟨[], [], _, rfl, upd_same, .nil, rfl, nofun, by walk_at "g_same"⟩ ?_ ?_
    · rintro σ1 H3 ⟨ys, rs, y5, rfl, g1, g2, g3, g4, g5⟩
      walk_at "go"
      refine k _ rs (fr [] H H3) _ (.lst (fr_lk0 hR g1) (g2.same ?_)) ⟨by omega, g4⟩ fr_newly fr_same (Pk.mono (h6.same g5) (by omega)) (by walk_at "g_but")
      exact Newly.same (fr_newly.backP h7 h6) fr_same
    · rintro i σ1 H3 hi ⟨ys, rs, y5, rfl, g1, g2, g3, g4, g5⟩
      have j1 := g5 _ _ i1
      have j2 := g5 _ _ i2
      have j3 := g5 _ _ i3
      have hyl : ys.length = i := by rw [g2.len, List.length_map, g3]
      clear i1 i2 i3
      walk_at "go"
      intro D2 nD2
      have hDR : D2 ≠ R := ne_new' nD2 g1
      have hD2 : H2 D2 = none := g5.free nD2
      refine lcR_int (fun j => (r0.take (0 + (i : Int)).toNat).sum - (r1.take (0 + (j : Int)).toNat).sum) nD2 (by omega) ?_ ?_
      · intro j H4 Z Y hj hs hz
        have j1' := hs _ _ j1
        have j2' := hs _ _ j2
        have j3' := hs _ _ j3
        clear j1 j2 j3
        walk_at "go"
        exact hz _ (by walk_at "g_same")
      · intro H4 hs hD
        walk_at "go"
        refine ⟨ys ++ [.ref D2], rs ++ [(List.range (s + 1).toNat).map (fun j : Nat => (r0.take (0 + (i : Int)).toNat).sum - (r1.take (0 + (j : Int)).toNat).sum)], _, rfl, upd_same, ?_, by rw [List.length_append, g3]; rfl, ?_, by walk_at "g_same"⟩
        · rw [List.map_append]
          exact DqAll.snoc ((g2.same (fr_mono hs)).same (fr_upd (by simp))) (row_mk (fr_lk1 hDR hD2 (by walk_at "g_lk")))
        · intro r hr
          rcases List.mem_append.mp hr with e | e
          · exact g4 r e
          · rw [List.mem_singleton.mp e, List.length_map, List.length_range]
            omega
theorem last5 {f s : Int} {gs : List Fld} {k : Nat} (hf : 0 ≤ f ∧ f ≤ 10) (hs : 0 ≤ s ∧ s ≤ 10) (h0 : 1 ≤ gs.length) (hk : k = (-5 + (gs.length : Int)).toNat) (ok : ∀ g ∈ gs, FldOk f s g) : BatOk f s (gs.drop k) :=
  ⟨hf, hs, by rw [List.length_drop]; omega, fun x hx => ok x (List.mem_of_mem_drop hx)⟩
def sp_law (K : PySem.W.Frag) : Sp := fun vs H Q E => ∃ (a : Addr) (ns : List Int), vs = [.ref a] ∧ (SqL K H a (ns.map V.int)) ∧ (ns.length ≤ 63) ∧ ∀ (H' : Hp), Q (.bl true) H'
theorem use_law {K : PySem.W.Frag} {H : Hp} {Q : VK} {E : XK} {a : Addr} {ns : List Int} (p0 : SqL K H a (ns.map V.int)) (p1 : ns.length ≤ 63) (k : ∀ (H' : Hp), Q (.bl true) H') : sp_law K [.ref a] H Q E := ⟨a, ns, rfl, p0, p1, k⟩
theorem len_law {K : PySem.W.Frag} (vs : List V) (H : Hp) (Q : VK) (E : XK) (h : sp_law K vs H Q E) : vs.length = ["_law_script"].length := by
  obtain ⟨_, _, rfl, _⟩ := h
  rfl
theorem ok_law (T : Txt K mg) : FnOk P w K mg base CX0 13 T.a_law T.d_law ["_law_script"] (sp_law K) := by
  have G_l_left := ok_l_left (P := P) (w := w) (base := base) T
  have G_l_battle := ok_l_battle (P := P) (w := w) (base := base) T
  have G_l_rising := ok_l_rising (P := P) (w := w) (base := base) T
  have G_l_deep := ok_l_deep (P := P) (w := w) (base := base) T
  have G_l_draw := ok_l_draw (P := P) (w := w) (base := base) T
  have G_rises := ok_rises (P := P) (w := w) (base := base) T
  have G_pay := ok_pay (P := P) (w := w) (base := base) T
  have G_l_rises := ok_l_rises (P := P) (w := w) (base := base) T
  refine T.F_law.ok sc_law len_law (fun cdv A outer s H vs Q E hr h => ?_)
  refine ⟨_, (pss_cons (ps_for PassesOwn.never rfl (pi_listK K rfl (pe_op op_cat (pe_lst (pa_cons pe_int pa_nil)) (pe_slice (sl_listK K rfl) (pv 0) po_none (po_some pe_int)))) (pg_name (i := 1) sc_law.nd rfl (Or.inl rfl)) (pss_cons (ps_set (i := 2) sc_law.nd rfl (Or.inl rfl) (pe_call G_l_left (hr.mono (by first | decide | omega)) (by rfl) T.g_l_left T.F_l_left.kp T.b_l_left .nil pass0 (pa_cons (pe_lst (pa_cons (pv 1) pa_nil)) (pa_cons pe_int pa_nil))))
      (pss_cons (ps_set (i := 3) sc_law.nd rfl (Or.inl rfl) (pe_call G_l_battle (hr.mono (by first | decide | omega)) (by rfl) T.g_l_battle T.F_l_battle.kp T.b_l_battle .nil pass0 (pa_cons (pv 2) (pa_cons (pe_ix (ix_listK K rfl) (pe_lst (pa_cons pe_int (pa_cons pe_int pa_nil))) (pe_call G_l_draw (hr.mono (by first | decide | omega)) (by rfl) T.g_l_draw T.F_l_draw.kp T.b_l_draw .nil pass0 (pa_cons (pv 2) (pa_cons pe_int pa_nil))) (fun _ _ => rfl)) (pa_cons pe_int pa_nil)))))
      (pss_cons (ps_asg (pv 3) (pg_tupK K rfl 3 rfl (pgs_cons (pg_name (i := 4) sc_law.nd rfl (Or.inr rfl)) (pgs_cons (pg_name (i := 5) sc_law.nd rfl (Or.inr rfl)) (pgs_cons (pg_name (i := 6) sc_law.nd rfl (Or.inl rfl)) pgs_nil)))))
      (pss_cons (ps_set (i := 7) sc_law.nd rfl (Or.inl rfl) (pe_call G_l_rising (hr.mono (by first | decide | omega)) (by rfl) T.g_l_rising T.F_l_rising.kp T.b_l_rising .nil pass0 (pa_cons (pv 2) (pa_cons (pv 4) (pa_cons (pv 5) pa_nil)))))
      (pss_cons (ps_set (i := 8) sc_law.nd rfl (Or.inl rfl) (pe_call G_l_deep (hr.mono (by first | decide | omega)) (by rfl) T.g_l_deep T.F_l_deep.kp T.b_l_deep .nil pass0 (pa_cons (pv 7) pa_nil)))
      (pss_cons (ps_set (i := 9) sc_law.nd rfl (Or.inl rfl) (pe_call G_l_draw (hr.mono (by first | decide | omega)) (by rfl) T.g_l_draw T.F_l_draw.kp T.b_l_draw .nil pass0 (pa_cons (pv 2) (pa_cons (pe_op op_add (pv 4) pe_int) pa_nil))))
      (pss_cons (ps_set (i := 10) sc_law.nd rfl (Or.inr rfl) (pe_call G_l_draw (hr.mono (by first | decide | omega)) (by rfl) T.g_l_draw T.F_l_draw.kp T.b_l_draw .nil pass0 (pa_cons (pv 2) (pa_cons (pe_op op_add (pv 5) pe_int) pa_nil))))
      (pss_cons (ps_asg (pe_op op_add (pe_ix (ix_listK K rfl) (pe_ix (ix_listK K rfl) (pv 8) (pv 9) (fun _ _ => rfl)) (pv 10) (fun _ _ => rfl)) (pe_ix (ix_listK K rfl) (pe_lst (pa_cons pe_int (pa_cons (pe_un un_neg pe_int) (pa_cons pe_int (pa_cons (pe_un un_neg pe_int) pa_nil))))) (pe_call G_l_draw (hr.mono (by first | decide | omega)) (by rfl) T.g_l_draw T.F_l_draw.kp T.b_l_draw .nil pass0 (pa_cons (pv 2) (pa_cons pe_int pa_nil))) (fun _ _ => rfl))) (pg_sub (pe_ix (ix_listK K rfl) (pv 8) (pv 9) (fun _ _ => rfl)) (pv 10) set_list))
      (pss_cons (ps_setLc (i := 11) (own := [("_law_field", 19)]) rfl sc_law.nd rfl rfl (sw_true rfl rfl rfl (by decide +kernel)) (pi_listK K rfl (pv 6)) (blkOk_by (own := [("_law_field", 19)]) (N := ["_law_script", "_law_cell", "_law_left_here", "_law_battle_here", "_law_first", "_law_second", "_law_fields", "_law_rows", "_law_bent", "_law_x", "_law_y", "_law_plain", "_law_listed", "_law_some_here", "_law_asked", "_law_handed", "_law_told", "_law_k", "_law_wins", "_law_field", "_law_one"]) (sc := defScope s_law) (by decide +kernel)) (fun _ _ _ _ _ => (pg_name (i := 19) sc_law.nd rfl (Or.inl rfl))) (fun _ _ _ _ _ => (pts_one (pt_cmpR op_ne (pe_ix (ix_tupK K rfl) (pv 19) pe_int (fun _ _ => rfl)) pe_str (nomark _)))) (fun _ _ _ _ _ => (pv 19)))
      (pss_cons (ps_set (i := 12) sc_law.nd rfl (Or.inr rfl) (pe_lst (pa_cons (pv 6) (pa_cons (pe_op op_cat (pv 11) (pe_lst (pa_cons (pe_tup (pa_cons pe_str (pa_cons (pv 7) pa_nil))) pa_nil))) (pa_cons (pe_op op_cat (pv 11) (pe_lst (pa_cons (pe_tup (pa_cons pe_str (pa_cons (pv 8) pa_nil))) pa_nil))) (pa_cons (pe_op op_cat (pe_slice (sl_listK K rfl) (pv 11) po_none (po_some pe_int)) (pe_lst (pa_cons (pe_tup (pa_cons pe_str (pa_cons pe_int (pa_cons pe_int pa_nil)))) pa_nil))) pa_nil))))))
      (pss_cons (ps_for PassesOwn.never rfl (pi_listK K rfl (pv 12)) (pg_name (i := 13) sc_law.nd rfl (Or.inl rfl)) (pss_cons (ps_set (i := 14) sc_law.nd rfl (Or.inl rfl) (pe_tup (pa_cons (pv 4) (pa_cons (pv 5) (pa_cons (pe_slice (sl_listK K rfl) (pv 13) (po_some (pe_un un_neg pe_int)) po_none) pa_nil)))))
      (pss_cons (ps_set (i := 15) sc_law.nd rfl (Or.inl rfl) (pe_call G_l_deep (hr.mono (by first | decide | omega)) (by rfl) T.g_l_deep T.F_l_deep.kp T.b_l_deep .nil pass0 (pa_cons (pv 14) pa_nil)))
      (pss_cons (ps_set (i := 16) sc_law.nd rfl (Or.inl rfl) (pe_call G_rises (hr.mono (by first | decide | omega)) (by rfl) T.g_rises T.F_rises.kp T.b_rises .nil pass0 (pa_cons (pv 15) pa_nil)))
      (pss_one (ps_if (PW.pt (pw_or (pt_not (pt_val (pe_callB (call_isiK' K rfl) (by rfl) T.z_isinstance (by decide +kernel) (pa_cons (pv 16) (pa_cons (pe_bltn (v := .ty "bool") rfl T.z_bool (by decide +kernel) rfl) pa_nil))))) (pw_or (pt_cmpR op_ne (pv 16) (pe_call G_l_rises (hr.mono (by first | decide | omega)) (by rfl) T.g_l_rises T.F_l_rises.kp T.b_l_rises .nil pass0 (pa_cons (pv 14) pa_nil)) (nomark _)) (pw_or1 (pt_cmpR (op_neDK K rfl hr.units) (pv 15) (pv 14) (nomark _)))))) (pss_one (ps_ret pe_bl)) pss_nil))))))
      (pss_cons (ps_if (pt_not (pt_val (pe_call G_rises (hr.mono (by first | decide | omega)) (by rfl) T.g_rises T.F_rises.kp T.b_rises .nil pass0 (pa_cons (pe_tup (pa_cons (pv 4) (pa_cons (pv 5) (pa_cons (pe_ix (ix_listK K rfl) (pv 12) pe_int (fun _ _ => rfl)) pa_nil)))) pa_nil)))) (pss_one (ps_ret pe_bl)) pss_nil)
      (pss_cons (ps_set (i := 17) sc_law.nd rfl (Or.inr rfl) (pe_call G_l_draw (hr.mono (by first | decide | omega)) (by rfl) T.g_l_draw T.F_l_draw.kp T.b_l_draw .nil pass0 (pa_cons (pv 2) (pa_cons (pe_callB (call_lenK K rfl) (by rfl) T.z_len (by decide +kernel) (pa_cons (pe_ix (ix_listK K rfl) (pv 12) pe_int (fun _ _ => rfl)) pa_nil)) pa_nil))))
      (pss_cons (ps_setLc (i := 18) (own := [("_law_one", 20)]) rfl sc_law.nd rfl rfl (sw_true rfl rfl rfl (by decide +kernel)) (pi_range1 rfl T.z_range (pa_cons (pe_op op_add (pv 4) pe_int) pa_nil)) (blkOk_by (own := [("_law_one", 20)]) (N := ["_law_script", "_law_cell", "_law_left_here", "_law_battle_here", "_law_first", "_law_second", "_law_fields", "_law_rows", "_law_bent", "_law_x", "_law_y", "_law_plain", "_law_listed", "_law_some_here", "_law_asked", "_law_handed", "_law_told", "_law_k", "_law_wins", "_law_field", "_law_one"]) (sc := defScope s_law) (by decide +kernel)) (fun _ _ _ _ _ => (pg_name (i := 20) sc_law.nd rfl (Or.inl rfl))) (fun _ _ _ _ _ => pts_nil) (fun _ _ _ _ _ => (pe_call G_pay (hr.mono (by first | decide | omega)) (by rfl) T.g_pay T.F_pay.kp T.b_pay .nil pass0 (pa_cons (pe_tup (pa_cons (pv 4) (pa_cons (pv 5) (pa_cons (pe_ix (ix_listK K rfl) (pv 12) pe_int (fun _ _ => rfl)) pa_nil)))) (pa_cons (pv 17) (pa_cons (pv 20) (pa_cons (pv 10) pa_nil)))))))
      (pss_one (ps_if (pt_cmpR (op_neDK K rfl hr.units) (pv 18) (pe_callB cr_sortedI (by rfl) T.z_sorted (by decide +kernel) (pa_cons (pv 18) pa_nil)) (nomark _)) (pss_one (ps_ret pe_bl)) pss_nil)))))))))))))))))
      (pss_one (ps_ret pe_bl))), ?_⟩
  try dsimp only [L2.cxOf, L2.Cx.nox, L2.Cx.wish, List.map_cons, List.map_nil]
  obtain ⟨a, ns, rfl, p0, p1, k⟩ := h
  refine start_to (σ := [some _, none, none, none, none, none, none, none, none, none, none, none, none, none, none, none, none, none, none, none, none]) rfl ?_
  walk_at "go"
  rename_i p1 hp1 p2 hp2 p3 hp3
  obtain ⟨ms, hms⟩ : ∃ ms : List Int, [V.int 0] ++ List.map V.int (List.take (Int.toNat 40) ns) = ms.map V.int := ⟨0 :: ns.take 40, rfl⟩
  rw [hms]
  refine forL (xs := ms.map V.int) (fun i σ H1 => ∃ y1 y2 y3 y4 y5 y6 y7 y8 y9 y10 y11 y12 y13 y14 y15 y16 y17 y18 : Option V, σ = [some (.ref a), y1, y2, y3, y4, y5, y6, y7, y8, y9, y10, y11, y12, y13, y14, y15, y16, y17, y18, none, none] ∧ H1 p3 = some (.lst (ms.map V.int))) ⟨_, _, _, _, _, _, _, _, _, _, _, _, _, _, _, _, _, _, rfl, upd_same⟩ ?_ ?_ ?_
  · rintro i σ H1 _ ⟨y1, y2, y3, y4, y5, y6, y7, y8, y9, y10, y11, y12, y13, y14, y15, y16, y17, y18, rfl, h⟩
    exact SqL.of h
  · rintro σ H1 ⟨y1, y2, y3, y4, y5, y6, y7, y8, y9, y10, y11, y12, y13, y14, y15, y16, y17, y18, rfl, h⟩
    walk_at "go"
    exact k _
  · rintro i x σ H1 hx ⟨y1, y2, y3, y4, y5, y6, y7, y8, y9, y10, y11, y12, y13, y14, y15, y16, y17, y18, rfl, h⟩
    obtain ⟨z, rfl, _⟩ := ints_at hx
    clear hp1 hp2 hp3 p0 p1 hms hx
    walk_at "go"
    rename_i p4 u0 m pL H2 u1 u2 u3 p5 u4 d1 H3 u5 u6 u7 vv u8 v f s fs G1 H4 b1 b2 b3 b4 b5 b6 b7 b8
    have hp3 : p3 ≠ pL := (ne_of_none (lk_new u0 h) u3)
    have j3 : H4 p3 = some (.lst (ms.map V.int)) := by walk_at "g_lk"
    have gL : G1 pL = none := b5.pk u6
    clear u0 u1 u2 u3 u4 u5 u6 u7 u8 b3 b4 b5 b8 h
    obtain ⟨bt, bp, xs, rfl, bh1, bh2, bh3⟩ := bat_inv b1
    have bh1' := b6 _ _ bh1
    have hl : xs.length = fs.length := by rw [bh3.len, List.length_map]
    have hf := b2.hf
    have hs := b2.hs
    have hne := b2.ne
    have hb5 : 0 ≤ f ∧ f ≤ 10 ∧ 0 ≤ s ∧ s ≤ 10 := by omega
    clear b1 bh1
    walk_at "go"
    rename_i v2 rs G2 H5 c1 c2 c3 c4 c5 c6
    have hdw : dep (.list (rs.map planD)) < 12 ∧ wid (.list (rs.map planD)) ≤ 1000 := by
      obtain ⟨z1, z2⟩ := c2
      have := dep_rows rs
      have := wid_rows (k := 20) rs (by omega) (fun r hr => by have := z2 r hr; omega)
      omega
    walk_at "go"
    rename_i v3 G3 H6 e1 e2 e3 e4 x H7 e5 e6 e7 y H8 e8 e9 e10
    have g1 : Same G1 H8 := by walk_at "g_same"
    have g2L : G2 pL = none := c3.pk b7
    have g2 : Same G2 H8 := by walk_at "g_same"
    have g3L : G3 pL = none := e2.pk c5
    have g3 : Same G3 H8 := by walk_at "g_same"
    have g12 : ∀ {P : Addr} {o : HO}, G3 P = some o → G1 P = none ∧ G2 P = none := fun h => ⟨e2.sep (by walk_at "g_same") h, e2.sep c4 h⟩
    have j3' : H8 p3 = some (.lst (ms.map V.int)) := by walk_at "g_lk"
    obtain ⟨B, ys, rfl, t1, t2⟩ := e1.list_inv
    obtain ⟨z1, z2⟩ := c2
    have hyl : ys.length = rs.length := by rw [t2.len, List.length_map]
    obtain ⟨w, hat, hw⟩ := at_lt (xs := ys) (i := x) (by omega) (by omega)
    obtain ⟨r, P, q1, rfl, q2⟩ := row_at t2 hw
    have hrl := z2 r (List.mem_of_getElem? q1)
    have g1P := (g12 q2).1
    have g2P := (g12 q2).2
    have hPL : P ≠ pL := ne_of_none q2 g3L
    have hBL : B ≠ pL := ne_of_none t1 g3L
    have hP3 : p3 ≠ P := fun e => by
      have := e2 _ _ (show H5 p3 = some _ by walk_at "g_lk")
      rw [e, q2] at this
      cases this
    have t1' := g3 _ _ t1
    have q2' := g3 _ _ q2
    clear b6 b7 c3 c4 c5 c6 e2 e3 e4 e6 e7 e10 j3 bh1'
    walk_at "go"
    rename_i zz hzz p6 n6 d2 H9 e11 e12 e13 dv hdv
    obtain ⟨rs', s1, s2, s3⟩ := rows_set t2 q2 (r' := r.set y.toNat (zz + dv)) (by rw [List.length_set])
    have s4 : FldOk f s (.tab rs') := ⟨by omega, fun q hq => by
      have := s3 (s + 1).toNat (fun z hz => by have := z2 z hz; omega) q hq
      omega⟩
    have s5 : FldOk f s (.tab rs) := ⟨z1, z2⟩
    have k1 : Same G1 H9 := by walk_at "g_same"
    have k2 : Same G2 H9 := by walk_at "g_same"
    have k3 : Same G3 H9 := by walk_at "g_same"
    generalize hG : upd G3 P (.lst ((r.set y.toNat (zz + dv)).map V.int)) = G4 at s1
    have g4B : G4 B = some (.lst ys) := by
      rw [← hG]
      refine lk_upd (fun e => ?_) t1
      rw [← e, t1] at q2
      have := HO.lst.inj (Option.some.inj q2)
      rw [this] at hw
      obtain ⟨z, e3, _⟩ := ints_at hw
      cases e3
    have g4L : G4 pL = none := by rw [← hG, upd_ne hPL.symm]; exact g3L
    generalize hH : upd H9 P (.lst ((r.set y.toNat (zz + dv)).map V.int)) = H10
    have l1 : Same G1 H10 := by rw [← hH]; exact Same.mut k1 g1P
    have l2 : Same G2 H10 := by rw [← hH]; exact Same.mut k2 g2P
    have l4 : Same G4 H10 := by rw [← hH, ← hG]; exact Same.updB k3
    have j4 : H10 p3 = some (.lst (ms.map V.int)) := by rw [← hH]; walk_at "g_lk"
    have pk : Pk pL m H10 9000 := by rw [← hH]; exact (e12.upd hPL).mono (by omega)
    have hbp := l1 _ _ bh2
    clear hG hH k1 k2 k3 g1 g2 g3 g12 j3' e1 t1 t2 hat hw q1 q2 g1P g2P hPL hBL hP3 t1' q2' n6 e11 e12 e13 hdv hzz e9 s3 z1 z2 hrl hyl
    walk_at "go"
    intro D nD
    refine lcL (xs := xs) (fun i acc H => ∃ gs : List Fld, DqAll G1 acc (gs.map fldD) ∧ gs.length ≤ i ∧ (∀ g ∈ gs, FldOk f s g ∧ PlainF g) ∧ Same H10 H) nD ⟨[], .nil, Nat.le_refl _, nofun, Same.new nD⟩ (fun i acc H _ q _ => SqL.of (by obtain ⟨_, _, _, _, q⟩ := q; exact q _ _ hbp)) ?_ ?_
    · rintro i x acc H11 Z Y hx ⟨gs, r1, r2, r3, r4⟩ hD hz hy
      obtain ⟨fl, f1, f2⟩ := fld_at bh3 hx
      have b4 := b2.at f1
      have f2' := f2.same (l1.trans r4)
      have hi := (List.getElem?_eq_some_iff.mp hx).1
      have hsz : acc.length < sizeLine := sz4' (by rw [r1.len, List.length_map]; omega)
      have add : PlainF fl → ∃ gs : List Fld, DqAll G1 (acc ++ [x]) (gs.map fldD) ∧ gs.length ≤ i + 1 ∧ (∀ g ∈ gs, FldOk f s g ∧ PlainF g) ∧ Same H10 (upd H11 D (.lst (acc ++ [x]))) := fun hp => ⟨gs ++ [fl], by rw [List.map_append]; exact DqAll.snoc r1 f2, by rw [List.length_append]; show gs.length + 1 ≤ _; omega, fun g hg => by
        rcases List.mem_append.mp hg with e | e
        · exact r3 g e
        · rw [List.mem_singleton.mp e]; exact ⟨b4, hp⟩, Same.mut r4 nD⟩
      cases fl with
      | more w t =>
        obtain ⟨q, rfl, h1⟩ := fld_more f2'
        walk_at "go"
        exact hz _ _ hD hsz (add trivial)
      | lead w t =>
        obtain ⟨q, rfl, h1⟩ := fld_lead f2'
        walk_at "go"
        exact hz _ _ hD hsz (add trivial)
      | tab rows =>
        obtain ⟨q, p', ys', rfl, h1, h2, h3⟩ := fld_tab f2'
        walk_at "go"
        exact hy _ hD ⟨gs, r1, by omega, r3, r4⟩
    rintro acc H11 ⟨gs, r1, r2, r3, r4⟩ hD
    have m1 := l1.trans r4
    have m2 := l2.trans r4
    have m4 := l4.trans r4
    have j5 := r4 _ _ j4
    have pk2 := pk.same r4
    have hbp2 := m1 _ _ bh2
    have hal : acc.length = gs.length := by rw [r1.len, List.length_map]
    have hal5 : acc.length ≤ 5 := by omega
    clear l1 l2 l4 r4 j4 pk hbp nD
    walk_at "go"
    rename_i T1 nT1 L1 nL1 C1 nC1 T2 nT2 L2 nL2 C2 nC2 S nS T3 nT3 L3 nL3 C3 nC3 LL nLL
    generalize hH : upd _ LL _ = H12
    have pkL : Pk pL m H12 9000 := by rw [← hH]; walk_at "g_pk"
    have eLL : H12 LL = some (.lst [.ref bp, .ref C1, .ref C2, .ref C3]) := by rw [← hH]; exact upd_same
    have sH : Same H11 H12 := by rw [← hH]; walk_at "g_same"
    have eC1 : H12 C1 = some (.lst (acc ++ [.ref T1])) := by rw [← hH]; walk_at "g_lk"
    have eT1 : H12 T1 = some (.tup [.str (PySem.Str.ofString "table"), v2]) := by rw [← hH]; walk_at "g_lk"
    have eC2 : H12 C2 = some (.lst (acc ++ [.ref T2])) := by rw [← hH]; walk_at "g_lk"
    have eT2 : H12 T2 = some (.tup [.str (PySem.Str.ofString "table"), .ref B]) := by rw [← hH]; walk_at "g_lk"
    have eC3 : H12 C3 = some (.lst (acc.take (Int.toNat 4) ++ [.ref T3])) := by rw [← hH]; walk_at "g_lk"
    have eT3 : H12 T3 = some (.tup [.str (PySem.Str.ofString "more"), .int 1, .int 0]) := by rw [← hH]; walk_at "g_lk"
    have aC1 : C1 ≠ pL := by walk_at "g_ne"
    have aT1 : T1 ≠ pL := by walk_at "g_ne"
    have aC2 : C2 ≠ pL := by walk_at "g_ne"
    have aT2 : T2 ≠ pL := by walk_at "g_ne"
    have aC3 : C3 ≠ pL := by walk_at "g_ne"
    have aT3 : T3 ≠ pL := by walk_at "g_ne"
    have abp : bp ≠ pL := ne_of_none bh2 gL
    have m1' := m1.trans sH
    have m2' := m2.trans sH
    have m4' := m4.trans sH
    have j6 := sH _ _ j5
    clear hH nT1 nL1 nC1 nT2 nL2 nC2 nS nT3 nL3 nC3 nLL sH m1 m2 m4 j5 pk2 hbp2 hD
    obtain ⟨G5, hG5⟩ : ∃ G5, G5 = hid [pL] H12 := ⟨_, rfl⟩
    have sG : Same G5 H12 := by rw [hG5]; exact hid_same
    have gG : G5 pL = none := by rw [hG5]; exact hid_in (by simp)
    have t1 : Same G1 G5 := by rw [hG5]; exact same_hid1 m1' gL
    have t2 : Same G2 G5 := by rw [hG5]; exact same_hid1 m2' g2L
    have t4 : Same G4 G5 := by rw [hG5]; exact same_hid1 m4' g4L
    have fT1 : Dq G5 (.ref T1) (fldD (.tab rs)) := tab_mk' (by rw [hG5]; exact hid_lk (not_in1 aT1) eT1) (c1.same t2)
    have fT2 : Dq G5 (.ref T2) (fldD (.tab rs')) := tab_mk' (by rw [hG5]; exact hid_lk (not_in1 aT2) eT2) (.lst (t4 _ _ g4B) (s1.same t4))
    have fT3 : Dq G5 (.ref T3) (fldD (.more 1 0)) := more_mk (by rw [hG5]; exact hid_lk (not_in1 aT3) eT3)
    have r1' := r1.same t1
    have hacc4 : DqAll G5 (acc.take (Int.toNat 4)) ((gs.take 4).map fldD) := by
      rw [List.map_take]
      exact r1'.take 4
    have w0 : Dq G5 (.ref bp) (.list (fs.map fldD)) := .lst (by rw [hG5]; exact hid_lk (not_in1 abp) (m1' _ _ bh2)) (bh3.same t1)
    have w1 : Dq G5 (.ref C1) (.list ((gs ++ [Fld.tab rs]).map fldD)) := .lst (by rw [hG5]; exact hid_lk (not_in1 aC1) eC1) (by rw [List.map_append]; exact r1'.snoc fT1)
    have w2 : Dq G5 (.ref C2) (.list ((gs ++ [Fld.tab rs']).map fldD)) := .lst (by rw [hG5]; exact hid_lk (not_in1 aC2) eC2) (by rw [List.map_append]; exact r1'.snoc fT2)
    have w3 : Dq G5 (.ref C3) (.list ((gs.take 4 ++ [Fld.more 1 0]).map fldD)) := .lst (by rw [hG5]; exact hid_lk (not_in1 aC3) eC3) (by rw [List.map_append]; exact hacc4.snoc fT3)
    obtain ⟨gs3, hg3⟩ : ∃ gs3, gs3 = gs.take 4 ++ [Fld.more 1 0] := ⟨_, rfl⟩
    rw [← hg3] at w3
    have okm : FldOk f s (.more 1 0) := ⟨by decide, by decide, by decide⟩
    have ok3 : ∀ g ∈ gs3, FldOk f s g ∧ PlainF g := fun g hg => by
      rw [hg3] at hg
      rcases List.mem_append.mp hg with e | e
      · exact r3 g (List.mem_of_mem_take e)
      · rw [List.mem_singleton.mp e]; exact ⟨okm, trivial⟩
    have ln3 : 1 ≤ gs3.length ∧ gs3.length ≤ 5 := by
      rw [hg3, List.length_append, List.length_take]
      show 1 ≤ _ + 1 ∧ _ + 1 ≤ 5
      omega
    have hall : ∀ (i : Nat) (x : V), [V.ref bp, V.ref C1, V.ref C2, V.ref C3][i]? = some x → ∃ (l : Addr) (gs : List Fld), x = .ref l ∧ Dq G5 (.ref l) (.list (gs.map fldD)) ∧ 1 ≤ gs.length ∧ gs.length ≤ 10 ∧ ∀ g ∈ gs, FldOk f s g := fun i x hx => by
      have hm := List.mem_of_getElem? hx
      simp only [List.mem_cons, List.not_mem_nil, or_false] at hm
      rcases hm with e | e | e | e
      · exact ⟨bp, fs, e, w0, by omega, by omega, b2.ok⟩
      · exact ⟨C1, _, e, w1, by rw [List.length_append]; show 1 ≤ _ + 1; omega, by rw [List.length_append]; show _ + 1 ≤ 10; omega, fun g hg => by
          rcases List.mem_append.mp hg with z | z
          · exact (r3 g z).1
          · rw [List.mem_singleton.mp z]; exact s5⟩
      · exact ⟨C2, _, e, w2, by rw [List.length_append]; show 1 ≤ _ + 1; omega, by rw [List.length_append]; show _ + 1 ≤ 10; omega, fun g hg => by
          rcases List.mem_append.mp hg with z | z
          · exact (r3 g z).1
          · rw [List.mem_singleton.mp z]; exact s4⟩
      · exact ⟨C3, gs3, e, w3, by omega, by omega, fun g hg => (ok3 g hg).1⟩
    obtain ⟨zs3, q3, q3'⟩ : ∃ zs3, G5 C3 = some (.lst zs3) ∧ DqAll G5 zs3 (gs3.map fldD) := by
      obtain ⟨_, zs3, e, h1, h2⟩ := w3.list_inv
      cases e
      exact ⟨zs3, h1, h2⟩
    have hzl : zs3.length = gs3.length := by rw [q3'.len, List.length_map]
    clear eC1 eT1 eC2 eT2 eC3 eT3 aC1 aT1 aC2 aT2 aC3 aT3 abp m1' m2' m4' hG5 t1 t2 t4 fT1 fT2 fT3 r1' hacc4 w0 w1 w2 hg3 r1 r2 r3 g4B g4L s1 s2 s4 s5 c1 hdw bh2 bh3 gL g2L g3L hal hal5
    refine forL (xs := [V.ref bp, V.ref C1, V.ref C2, V.ref C3]) (fun i σ H1 => ∃ y13 y14 y15 y16 : Option V, σ = [some (.ref a), some (.int z), some (.ref pL), some (.ref bt), some (.int f), some (.int s), some (.ref bp), some v2, some (.ref B), some (.int x), some (.int y), some (.ref D), some (.ref LL), y13, y14, y15, y16, y17, y18, none, none] ∧ Same H12 H1) ⟨_, _, _, _, rfl, by walk_at "g_same"⟩ ?_ ?_ ?_
    · rintro i σ H1 _ ⟨y13, y14, y15, y16, rfl, h1⟩
      exact SqL.of (h1 _ _ eLL)
    rotate_left
    · rintro i x' σ H1 hx ⟨y13, y14, y15, y16, rfl, h1⟩
      obtain ⟨l, gs2, rfl, w1, w2, w3', w4⟩ := hall i x' hx
      obtain ⟨_, zs, e, q1, q2⟩ := w1.list_inv
      cases e
      have hsG := sG.trans h1
      have q1' := hsG _ _ q1
      have hzs : zs.length = gs2.length := by rw [q2.len, List.length_map]
      clear hall
      walk_at "go"
      rename_i S' nS' q nq
      generalize hH : upd _ q _ = H13
      obtain ⟨kk, hkk⟩ : ∃ kk : Nat, kk = (-5 + (zs.length : Int)).toNat := ⟨_, rfl⟩
      have okb : BatOk f s (gs2.drop kk) := last5 hf hs w2 (by omega) w4
      have hask : Dq H13 (.ref q) (batD f s (gs2.drop kk)) := by
        rw [← hH]
        refine bat_mk (xs := zs.drop kk) upd_same (by rw [hkk]; walk_at "g_lk") ?_
        rw [List.map_drop]
        exact (q2.drop kk).same (by walk_at "g_same")
      have h13 : Same H12 H13 := by rw [← hH]; walk_at "g_same"
      have hdw : dep (batD f s (gs2.drop kk)) < 12 ∧ wid (batD f s (gs2.drop kk)) ≤ 1000 := by
        have := dep_bat f s (gs2.drop kk)
        have := wid_bat (f := f) (s := s) (fs := gs2.drop kk) hf.2 hs.2 (by rw [List.length_drop]; omega) okb.ok
        omega
      clear hH nS' nq q1' hsG h1 q2 w1 w4
      walk_at "go"
      rename_i w Gw H14 o1 o2 o3 o4 b1 H15 o5 o6 b3 H16 o7 o8
      obtain rfl : b1 = b3 := Bool.eq_iff_iff.mpr (o5.trans o7.symm)
      rw [beq_self_eq_true]
      walk_at "go"
      exact ⟨_, _, _, _, rfl, by walk_at "g_same"⟩
    rintro σ H13 ⟨y13, y14, y15, y16, rfl, h1⟩
    have okb3 : BatOk f s gs3 := ⟨hf, hs, ln3, fun g hg => (ok3 g hg).1⟩
    have eLL' := h1 _ _ eLL
    have q3H := h1 _ _ (sG _ _ q3)
    have pk3 := pkL.same h1
    have j7 := h1 _ _ j6
    have sG2 := sG.trans h1
    have q3d := q3'.same sG2
    have hC3 : C3 ≠ pL := ne_of_none q3 gG
    have hLLp : LL ≠ pL := fun e => by
      obtain ⟨_, _, g, _⟩ := pkL
      rw [e, g] at eLL
      cases HO.lst.inj (Option.some.inj eLL)
    clear hall eLL pkL j6 w3
    walk_at "go"
    rename_i q nq
    have hq : Dq (upd H13 q (.tup [.int f, .int s, .ref C3])) (.ref q) (batD f s gs3) := bat_mk (xs := zs3) upd_same (by walk_at "g_lk") (q3d.same (by walk_at "g_same"))
    walk_at "go"
    rename_i b1 H14 o1 o2
    obtain rfl : b1 = true := o1.mpr fun x hx => rise_plain (ok3 x hx).1 (ok3 x hx).2
    walk_at "go"
    rename_i dk H15 u1 u2 u3
    have sG3 : Same G5 H15 := by walk_at "g_same"
    have v1 : H15 LL = some (.lst [.ref bp, .ref C1, .ref C2, .ref C3]) := by walk_at "g_lk"
    have v2' : H15 C3 = some (.lst zs3) := sG3 _ _ q3
    have v3 : H15 p3 = some (.lst (ms.map V.int)) := by walk_at "g_lk"
    have v4 := q3'.same sG3
    clear hq o2 nq eLL' q3H pk3 j7 sG2 q3d u2 u3 sG h1
    intro D2 nD2
    refine lcR_int (fun i => paidV (fldAt gs3 dk) i y) nD2 (by omega) ?_ ?_
    · intro i H16 Z Y hi hs2 hz
      rw [Int.zero_add]
      have v1' := hs2 _ _ v1
      have v2'' := hs2 _ _ v2'
      have v4' := v4.same hs2
      clear v1 v2' v3 v4
      walk_at "go"
      rename_i q2 nq2
      have hq2 : Dq (upd H16 q2 (.tup [.int f, .int s, .ref C3])) (.ref q2) (batD f s gs3) := bat_mk (xs := zs3) upd_same (by walk_at "g_lk") (v4'.same (by walk_at "g_same"))
      walk_at "go"
      exact hz _ (by walk_at "g_same")
    · intro H16 hs2 hD
      have hpw := rise_pw (y := y) (rise_plain (okb3.ok _ (List.getElem_mem (show dk.toNat < gs3.length by omega))) (ok3 _ (List.getElem_mem (show dk.toNat < gs3.length by omega))).2) (by omega) (f + 1).toNat (by omega)
      have e : gs3[dk.toNat] = fldAt gs3 dk := by
        unfold fldAt
        rw [List.getElem?_eq_getElem (show dk.toNat < gs3.length by omega)]
        rfl
      rw [e] at hpw
      have v3' := hs2 _ _ v3
      clear v1 v2' v3 v4
      walk_at "go"
      refine ite_n (by simp) ?_
      walk_at "go"
      exact ⟨_, _, _, _, _, _, _, _, _, _, _, _, _, _, _, _, _, _, rfl, by walk_at "g_lk"⟩

end
theorem mk_txt {K : PySem.W.Frag} {h : Heap} {mg : Str → Option Value} {f_is_number : Addr} {o_is_number n_is_number : Option Addr} {w_is_number : Array (Option Value)} {q1_is_number q2_is_number q3_is_number q4_is_number q5_is_number q6_is_number : Value} {f_are_numbers : Addr} {o_are_numbers n_are_numbers : Option Addr} {w_are_numbers : Array (Option Value)} {q1_are_numbers q2_are_numbers q3_are_numbers q4_are_numbers q5_are_numbers q6_are_numbers : Value} {f_is_rule : Addr} {o_is_rule n_is_rule : Option Addr} {w_is_rule : Array (Option Value)} {q1_is_rule q2_is_rule q3_is_rule q4_is_rule q5_is_rule q6_is_rule : Value} {f_is_field : Addr} {o_is_field n_is_field : Option Addr} {w_is_field : Array (Option Value)} {q1_is_field q2_is_field q3_is_field q4_is_field q5_is_field q6_is_field : Value} {f_look_battle : Addr} {o_look_battle n_look_battle : Option Addr} {w_look_battle : Array (Option Value)} {q1_look_battle q2_look_battle q3_look_battle q4_look_battle q5_look_battle q6_look_battle : Value} {f_paid : Addr} {o_paid n_paid : Option Addr} {w_paid : Array (Option Value)} {q1_paid q2_paid q3_paid q4_paid q5_paid q6_paid : Value} {f_pay : Addr} {o_pay n_pay : Option Addr} {w_pay : Array (Option Value)} {q1_pay q2_pay q3_pay q4_pay q5_pay q6_pay : Value} {f_rises_on : Addr} {o_rises_on n_rises_on : Option Addr} {w_rises_on : Array (Option Value)} {q1_rises_on q2_rises_on q3_rises_on q4_rises_on q5_rises_on q6_rises_on : Value} {f_rises : Addr} {o_rises n_rises : Option Addr} {w_rises : Array (Option Value)} {q1_rises q2_rises q3_rises q4_rises q5_rises q6_rises : Value} {f_l_mix : Addr} {o_l_mix n_l_mix : Option Addr} {w_l_mix : Array (Option Value)} {q1_l_mix q2_l_mix q3_l_mix q4_l_mix q5_l_mix q6_l_mix : Value} {f_l_cell_at : Addr} {o_l_cell_at n_l_cell_at : Option Addr} {w_l_cell_at : Array (Option Value)} {q1_l_cell_at q2_l_cell_at q3_l_cell_at q4_l_cell_at q5_l_cell_at q6_l_cell_at : Value} {f_l_left : Addr} {o_l_left n_l_left : Option Addr} {w_l_left : Array (Option Value)} {q1_l_left q2_l_left q3_l_left q4_l_left q5_l_left q6_l_left : Value} {f_l_draw : Addr} {o_l_draw n_l_draw : Option Addr} {w_l_draw : Array (Option Value)} {q1_l_draw q2_l_draw q3_l_draw q4_l_draw q5_l_draw q6_l_draw : Value} {f_l_some : Addr} {o_l_some n_l_some : Option Addr} {w_l_some : Array (Option Value)} {q1_l_some q2_l_some q3_l_some q4_l_some q5_l_some q6_l_some : Value} {f_l_rule : Addr} {o_l_rule n_l_rule : Option Addr} {w_l_rule : Array (Option Value)} {q1_l_rule q2_l_rule q3_l_rule q4_l_rule q5_l_rule q6_l_rule : Value} {f_l_battle : Addr} {o_l_battle n_l_battle : Option Addr} {w_l_battle : Array (Option Value)} {q1_l_battle q2_l_battle q3_l_battle q4_l_battle q5_l_battle q6_l_battle : Value} {f_l_deep : Addr} {o_l_deep n_l_deep : Option Addr} {w_l_deep : Array (Option Value)} {q1_l_deep q2_l_deep q3_l_deep q4_l_deep q5_l_deep q6_l_deep : Value} {f_l_paid : Addr} {o_l_paid n_l_paid : Option Addr} {w_l_paid : Array (Option Value)} {q1_l_paid q2_l_paid q3_l_paid q4_l_paid q5_l_paid q6_l_paid : Value} {f_l_rises : Addr} {o_l_rises n_l_rises : Option Addr} {w_l_rises : Array (Option Value)} {q1_l_rises q2_l_rises q3_l_rises q4_l_rises q5_l_rises q6_l_rises : Value} {f_l_rising : Addr} {o_l_rising n_l_rising : Option Addr} {w_l_rising : Array (Option Value)} {q1_l_rising q2_l_rising q3_l_rising q4_l_rising q5_l_rising q6_l_rising : Value} {f_law : Addr} {o_law n_law : Option Addr} {w_law : Array (Option Value)} {q1_law q2_law q3_law q4_law q5_law q6_law : Value} {t_MOST_HOSTS : Tok} {t_MOST_FIELDS : Tok} (X : K.In h) (G : h.Ns mainGlobals mg)
    (a_is_number : PySem.W.nsIn K mainGlobals "is_number" = some (some (.ref f_is_number)))
    (l_is_number : K.lookup f_is_number = some ⟨q1_is_number, o_is_number, .func (PySem.W.fnOf "is_number" "is_number" (defArgs s_is_number) (defBody s_is_number) (defScope s_is_number) .none q2_is_number q3_is_number q4_is_number n_is_number q5_is_number q6_is_number), w_is_number⟩)
    (c_is_number : PySem.W.codeIn K q5_is_number "is_number" = true)
    (k_is_number : PySem.W.keepIn K (.ref f_is_number) = true)
    (a_are_numbers : PySem.W.nsIn K mainGlobals "are_numbers" = some (some (.ref f_are_numbers)))
    (l_are_numbers : K.lookup f_are_numbers = some ⟨q1_are_numbers, o_are_numbers, .func (PySem.W.fnOf "are_numbers" "are_numbers" (defArgs s_are_numbers) (defBody s_are_numbers) (defScope s_are_numbers) .none q2_are_numbers q3_are_numbers q4_are_numbers n_are_numbers q5_are_numbers q6_are_numbers), w_are_numbers⟩)
    (c_are_numbers : PySem.W.codeIn K q5_are_numbers "are_numbers" = true)
    (k_are_numbers : PySem.W.keepIn K (.ref f_are_numbers) = true)
    (a_is_rule : PySem.W.nsIn K mainGlobals "is_rule" = some (some (.ref f_is_rule)))
    (l_is_rule : K.lookup f_is_rule = some ⟨q1_is_rule, o_is_rule, .func (PySem.W.fnOf "is_rule" "is_rule" (defArgs s_is_rule) (defBody s_is_rule) (defScope s_is_rule) .none q2_is_rule q3_is_rule q4_is_rule n_is_rule q5_is_rule q6_is_rule), w_is_rule⟩)
    (c_is_rule : PySem.W.codeIn K q5_is_rule "is_rule" = true)
    (k_is_rule : PySem.W.keepIn K (.ref f_is_rule) = true)
    (a_is_field : PySem.W.nsIn K mainGlobals "is_field" = some (some (.ref f_is_field)))
    (l_is_field : K.lookup f_is_field = some ⟨q1_is_field, o_is_field, .func (PySem.W.fnOf "is_field" "is_field" (defArgs s_is_field) (defBody s_is_field) (defScope s_is_field) .none q2_is_field q3_is_field q4_is_field n_is_field q5_is_field q6_is_field), w_is_field⟩)
    (c_is_field : PySem.W.codeIn K q5_is_field "is_field" = true)
    (k_is_field : PySem.W.keepIn K (.ref f_is_field) = true)
    (a_look_battle : PySem.W.nsIn K mainGlobals "look_battle" = some (some (.ref f_look_battle)))
    (l_look_battle : K.lookup f_look_battle = some ⟨q1_look_battle, o_look_battle, .func (PySem.W.fnOf "look_battle" "look_battle" (defArgs s_look_battle) (defBody s_look_battle) (defScope s_look_battle) .none q2_look_battle q3_look_battle q4_look_battle n_look_battle q5_look_battle q6_look_battle), w_look_battle⟩)
    (c_look_battle : PySem.W.codeIn K q5_look_battle "look_battle" = true)
    (k_look_battle : PySem.W.keepIn K (.ref f_look_battle) = true)
    (a_paid : PySem.W.nsIn K mainGlobals "paid" = some (some (.ref f_paid)))
    (l_paid : K.lookup f_paid = some ⟨q1_paid, o_paid, .func (PySem.W.fnOf "paid" "paid" (defArgs s_paid) (defBody s_paid) (defScope s_paid) .none q2_paid q3_paid q4_paid n_paid q5_paid q6_paid), w_paid⟩)
    (c_paid : PySem.W.codeIn K q5_paid "paid" = true)
    (k_paid : PySem.W.keepIn K (.ref f_paid) = true)
    (a_pay : PySem.W.nsIn K mainGlobals "pay" = some (some (.ref f_pay)))
    (l_pay : K.lookup f_pay = some ⟨q1_pay, o_pay, .func (PySem.W.fnOf "pay" "pay" (defArgs s_pay) (defBody s_pay) (defScope s_pay) .none q2_pay q3_pay q4_pay n_pay q5_pay q6_pay), w_pay⟩)
    (c_pay : PySem.W.codeIn K q5_pay "pay" = true)
    (k_pay : PySem.W.keepIn K (.ref f_pay) = true)
    (a_rises_on : PySem.W.nsIn K mainGlobals "rises_on" = some (some (.ref f_rises_on)))
    (l_rises_on : K.lookup f_rises_on = some ⟨q1_rises_on, o_rises_on, .func (PySem.W.fnOf "rises_on" "rises_on" (defArgs s_rises_on) (defBody s_rises_on) (defScope s_rises_on) .none q2_rises_on q3_rises_on q4_rises_on n_rises_on q5_rises_on q6_rises_on), w_rises_on⟩)
    (c_rises_on : PySem.W.codeIn K q5_rises_on "rises_on" = true)
    (k_rises_on : PySem.W.keepIn K (.ref f_rises_on) = true)
    (a_rises : PySem.W.nsIn K mainGlobals "rises" = some (some (.ref f_rises)))
    (l_rises : K.lookup f_rises = some ⟨q1_rises, o_rises, .func (PySem.W.fnOf "rises" "rises" (defArgs s_rises) (defBody s_rises) (defScope s_rises) .none q2_rises q3_rises q4_rises n_rises q5_rises q6_rises), w_rises⟩)
    (c_rises : PySem.W.codeIn K q5_rises "rises" = true)
    (k_rises : PySem.W.keepIn K (.ref f_rises) = true)
    (a_l_mix : PySem.W.nsIn K mainGlobals "_law_mix" = some (some (.ref f_l_mix)))
    (l_l_mix : K.lookup f_l_mix = some ⟨q1_l_mix, o_l_mix, .func (PySem.W.fnOf "_law_mix" "_law_mix" (defArgs s_l_mix) (defBody s_l_mix) (defScope s_l_mix) .none q2_l_mix q3_l_mix q4_l_mix n_l_mix q5_l_mix q6_l_mix), w_l_mix⟩)
    (c_l_mix : PySem.W.codeIn K q5_l_mix "_law_mix" = true)
    (k_l_mix : PySem.W.keepIn K (.ref f_l_mix) = true)
    (a_l_cell_at : PySem.W.nsIn K mainGlobals "_law_cell_at" = some (some (.ref f_l_cell_at)))
    (l_l_cell_at : K.lookup f_l_cell_at = some ⟨q1_l_cell_at, o_l_cell_at, .func (PySem.W.fnOf "_law_cell_at" "_law_cell_at" (defArgs s_l_cell_at) (defBody s_l_cell_at) (defScope s_l_cell_at) .none q2_l_cell_at q3_l_cell_at q4_l_cell_at n_l_cell_at q5_l_cell_at q6_l_cell_at), w_l_cell_at⟩)
    (c_l_cell_at : PySem.W.codeIn K q5_l_cell_at "_law_cell_at" = true)
    (k_l_cell_at : PySem.W.keepIn K (.ref f_l_cell_at) = true)
    (a_l_left : PySem.W.nsIn K mainGlobals "_law_left" = some (some (.ref f_l_left)))
    (l_l_left : K.lookup f_l_left = some ⟨q1_l_left, o_l_left, .func (PySem.W.fnOf "_law_left" "_law_left" (defArgs s_l_left) (defBody s_l_left) (defScope s_l_left) .none q2_l_left q3_l_left q4_l_left n_l_left q5_l_left q6_l_left), w_l_left⟩)
    (c_l_left : PySem.W.codeIn K q5_l_left "_law_left" = true)
    (k_l_left : PySem.W.keepIn K (.ref f_l_left) = true)
    (a_l_draw : PySem.W.nsIn K mainGlobals "_law_draw" = some (some (.ref f_l_draw)))
    (l_l_draw : K.lookup f_l_draw = some ⟨q1_l_draw, o_l_draw, .func (PySem.W.fnOf "_law_draw" "_law_draw" (defArgs s_l_draw) (defBody s_l_draw) (defScope s_l_draw) .none q2_l_draw q3_l_draw q4_l_draw n_l_draw q5_l_draw q6_l_draw), w_l_draw⟩)
    (c_l_draw : PySem.W.codeIn K q5_l_draw "_law_draw" = true)
    (k_l_draw : PySem.W.keepIn K (.ref f_l_draw) = true)
    (a_l_some : PySem.W.nsIn K mainGlobals "_law_some" = some (some (.ref f_l_some)))
    (l_l_some : K.lookup f_l_some = some ⟨q1_l_some, o_l_some, .func (PySem.W.fnOf "_law_some" "_law_some" (defArgs s_l_some) (defBody s_l_some) (defScope s_l_some) .none q2_l_some q3_l_some q4_l_some n_l_some q5_l_some q6_l_some), w_l_some⟩)
    (c_l_some : PySem.W.codeIn K q5_l_some "_law_some" = true)
    (k_l_some : PySem.W.keepIn K (.ref f_l_some) = true)
    (a_l_rule : PySem.W.nsIn K mainGlobals "_law_rule" = some (some (.ref f_l_rule)))
    (l_l_rule : K.lookup f_l_rule = some ⟨q1_l_rule, o_l_rule, .func (PySem.W.fnOf "_law_rule" "_law_rule" (defArgs s_l_rule) (defBody s_l_rule) (defScope s_l_rule) .none q2_l_rule q3_l_rule q4_l_rule n_l_rule q5_l_rule q6_l_rule), w_l_rule⟩)
    (c_l_rule : PySem.W.codeIn K q5_l_rule "_law_rule" = true)
    (k_l_rule : PySem.W.keepIn K (.ref f_l_rule) = true)
    (a_l_battle : PySem.W.nsIn K mainGlobals "_law_battle" = some (some (.ref f_l_battle)))
    (l_l_battle : K.lookup f_l_battle = some ⟨q1_l_battle, o_l_battle, .func (PySem.W.fnOf "_law_battle" "_law_battle" (defArgs s_l_battle) (defBody s_l_battle) (defScope s_l_battle) .none q2_l_battle q3_l_battle q4_l_battle n_l_battle q5_l_battle q6_l_battle), w_l_battle⟩)
    (c_l_battle : PySem.W.codeIn K q5_l_battle "_law_battle" = true)
    (k_l_battle : PySem.W.keepIn K (.ref f_l_battle) = true)
    (a_l_deep : PySem.W.nsIn K mainGlobals "_law_deep" = some (some (.ref f_l_deep)))
    (l_l_deep : K.lookup f_l_deep = some ⟨q1_l_deep, o_l_deep, .func (PySem.W.fnOf "_law_deep" "_law_deep" (defArgs s_l_deep) (defBody s_l_deep) (defScope s_l_deep) .none q2_l_deep q3_l_deep q4_l_deep n_l_deep q5_l_deep q6_l_deep), w_l_deep⟩)
    (c_l_deep : PySem.W.codeIn K q5_l_deep "_law_deep" = true)
    (k_l_deep : PySem.W.keepIn K (.ref f_l_deep) = true)
    (a_l_paid : PySem.W.nsIn K mainGlobals "_law_paid" = some (some (.ref f_l_paid)))
    (l_l_paid : K.lookup f_l_paid = some ⟨q1_l_paid, o_l_paid, .func (PySem.W.fnOf "_law_paid" "_law_paid" (defArgs s_l_paid) (defBody s_l_paid) (defScope s_l_paid) .none q2_l_paid q3_l_paid q4_l_paid n_l_paid q5_l_paid q6_l_paid), w_l_paid⟩)
    (c_l_paid : PySem.W.codeIn K q5_l_paid "_law_paid" = true)
    (k_l_paid : PySem.W.keepIn K (.ref f_l_paid) = true)
    (a_l_rises : PySem.W.nsIn K mainGlobals "_law_rises" = some (some (.ref f_l_rises)))
    (l_l_rises : K.lookup f_l_rises = some ⟨q1_l_rises, o_l_rises, .func (PySem.W.fnOf "_law_rises" "_law_rises" (defArgs s_l_rises) (defBody s_l_rises) (defScope s_l_rises) .none q2_l_rises q3_l_rises q4_l_rises n_l_rises q5_l_rises q6_l_rises), w_l_rises⟩)
    (c_l_rises : PySem.W.codeIn K q5_l_rises "_law_rises" = true)
    (k_l_rises : PySem.W.keepIn K (.ref f_l_rises) = true)
    (a_l_rising : PySem.W.nsIn K mainGlobals "_law_rising" = some (some (.ref f_l_rising)))
    (l_l_rising : K.lookup f_l_rising = some ⟨q1_l_rising, o_l_rising, .func (PySem.W.fnOf "_law_rising" "_law_rising" (defArgs s_l_rising) (defBody s_l_rising) (defScope s_l_rising) .none q2_l_rising q3_l_rising q4_l_rising n_l_rising q5_l_rising q6_l_rising), w_l_rising⟩)
    (c_l_rising : PySem.W.codeIn K q5_l_rising "_law_rising" = true)
    (k_l_rising : PySem.W.keepIn K (.ref f_l_rising) = true)
    (a_law : PySem.W.nsIn K mainGlobals "law" = some (some (.ref f_law)))
    (l_law : K.lookup f_law = some ⟨q1_law, o_law, .func (PySem.W.fnOf "law" "law" (defArgs s_law) (defBody s_law) (defScope s_law) .none q2_law q3_law q4_law n_law q5_law q6_law), w_law⟩)
    (c_law : PySem.W.codeIn K q5_law "law" = true)
    (k_law : PySem.W.keepIn K (.ref f_law) = true)
    (z_bool : PySem.W.nsIn K mainGlobals "bool" = some none)
    (z_int : PySem.W.nsIn K mainGlobals "int" = some none)
    (z_isinstance : PySem.W.nsIn K mainGlobals "isinstance" = some none)
    (z_len : PySem.W.nsIn K mainGlobals "len" = some none)
    (z_list : PySem.W.nsIn K mainGlobals "list" = some none)
    (z_max : PySem.W.nsIn K mainGlobals "max" = some none)
    (z_min : PySem.W.nsIn K mainGlobals "min" = some none)
    (z_range : PySem.W.nsIn K mainGlobals "range" = some none)
    (z_sorted : PySem.W.nsIn K mainGlobals "sorted" = some none)
    (z_sum : PySem.W.nsIn K mainGlobals "sum" = some none)
    (z_tuple : PySem.W.nsIn K mainGlobals "tuple" = some none)
    (h_MOST_HOSTS : PySem.W.nsIn K mainGlobals "MOST_HOSTS" = some (some (.int 10 t_MOST_HOSTS)))
    (h_MOST_FIELDS : PySem.W.nsIn K mainGlobals "MOST_FIELDS" = some (some (.int 5 t_MOST_FIELDS))) : ∃ T : Txt K mg, T.a_law = f_law ∧ ∀ (s : Shared) (v : Value), BindsTo s T.d_law ⟨[v], []⟩ [("_law_script", v)] :=
  ⟨{ a_is_number := f_is_number,
      d_is_number := _,
      F_is_number := fun_mk (st := s_is_number) l_is_number c_is_number k_is_number,
      g_is_number := PySem.W.mg_of X G a_is_number,
      b_is_number := (fun_mk (st := s_is_number) l_is_number c_is_number k_is_number).binds fun _ _ _ _ _ _ us hl => match us, hl with | [_], _ => rfl,
      a_are_numbers := f_are_numbers,
      d_are_numbers := _,
      F_are_numbers := fun_mk (st := s_are_numbers) l_are_numbers c_are_numbers k_are_numbers,
      g_are_numbers := PySem.W.mg_of X G a_are_numbers,
      b_are_numbers := (fun_mk (st := s_are_numbers) l_are_numbers c_are_numbers k_are_numbers).binds fun _ _ _ _ _ _ us hl => match us, hl with | [_, _], _ => rfl,
      a_is_rule := f_is_rule,
      d_is_rule := _,
      F_is_rule := fun_mk (st := s_is_rule) l_is_rule c_is_rule k_is_rule,
      g_is_rule := PySem.W.mg_of X G a_is_rule,
      b_is_rule := (fun_mk (st := s_is_rule) l_is_rule c_is_rule k_is_rule).binds fun _ _ _ _ _ _ us hl => match us, hl with | [_], _ => rfl,
      a_is_field := f_is_field,
      d_is_field := _,
      F_is_field := fun_mk (st := s_is_field) l_is_field c_is_field k_is_field,
      g_is_field := PySem.W.mg_of X G a_is_field,
      b_is_field := (fun_mk (st := s_is_field) l_is_field c_is_field k_is_field).binds fun _ _ _ _ _ _ us hl => match us, hl with | [_, _, _], _ => rfl,
      a_look_battle := f_look_battle,
      d_look_battle := _,
      F_look_battle := fun_mk (st := s_look_battle) l_look_battle c_look_battle k_look_battle,
      g_look_battle := PySem.W.mg_of X G a_look_battle,
      b_look_battle := (fun_mk (st := s_look_battle) l_look_battle c_look_battle k_look_battle).binds fun _ _ _ _ _ _ us hl => match us, hl with | [_], _ => rfl,
      a_paid := f_paid,
      d_paid := _,
      F_paid := fun_mk (st := s_paid) l_paid c_paid k_paid,
      g_paid := PySem.W.mg_of X G a_paid,
      b_paid := (fun_mk (st := s_paid) l_paid c_paid k_paid).binds fun _ _ _ _ _ _ us hl => match us, hl with | [_, _, _], _ => rfl,
      a_pay := f_pay,
      d_pay := _,
      F_pay := fun_mk (st := s_pay) l_pay c_pay k_pay,
      g_pay := PySem.W.mg_of X G a_pay,
      b_pay := (fun_mk (st := s_pay) l_pay c_pay k_pay).binds fun _ _ _ _ _ _ us hl => match us, hl with | [_, _, _, _], _ => rfl,
      a_rises_on := f_rises_on,
      d_rises_on := _,
      F_rises_on := fun_mk (st := s_rises_on) l_rises_on c_rises_on k_rises_on,
      g_rises_on := PySem.W.mg_of X G a_rises_on,
      b_rises_on := (fun_mk (st := s_rises_on) l_rises_on c_rises_on k_rises_on).binds fun _ _ _ _ _ _ us hl => match us, hl with | [_, _, _], _ => rfl,
      a_rises := f_rises,
      d_rises := _,
      F_rises := fun_mk (st := s_rises) l_rises c_rises k_rises,
      g_rises := PySem.W.mg_of X G a_rises,
      b_rises := (fun_mk (st := s_rises) l_rises c_rises k_rises).binds fun _ _ _ _ _ _ us hl => match us, hl with | [_], _ => rfl,
      a_l_mix := f_l_mix,
      d_l_mix := _,
      F_l_mix := fun_mk (st := s_l_mix) l_l_mix c_l_mix k_l_mix,
      g_l_mix := PySem.W.mg_of X G a_l_mix,
      b_l_mix := (fun_mk (st := s_l_mix) l_l_mix c_l_mix k_l_mix).binds fun _ _ _ _ _ _ us hl => match us, hl with | [_, _], _ => rfl,
      a_l_cell_at := f_l_cell_at,
      d_l_cell_at := _,
      F_l_cell_at := fun_mk (st := s_l_cell_at) l_l_cell_at c_l_cell_at k_l_cell_at,
      g_l_cell_at := PySem.W.mg_of X G a_l_cell_at,
      b_l_cell_at := (fun_mk (st := s_l_cell_at) l_l_cell_at c_l_cell_at k_l_cell_at).binds fun _ _ _ _ _ _ us hl => match us, hl with | [_, _], _ => rfl,
      a_l_left := f_l_left,
      d_l_left := _,
      F_l_left := fun_mk (st := s_l_left) l_l_left c_l_left k_l_left,
      g_l_left := PySem.W.mg_of X G a_l_left,
      b_l_left := (fun_mk (st := s_l_left) l_l_left c_l_left k_l_left).binds fun _ _ _ _ _ _ us hl => match us, hl with | [_, _], _ => rfl,
      a_l_draw := f_l_draw,
      d_l_draw := _,
      F_l_draw := fun_mk (st := s_l_draw) l_l_draw c_l_draw k_l_draw,
      g_l_draw := PySem.W.mg_of X G a_l_draw,
      b_l_draw := (fun_mk (st := s_l_draw) l_l_draw c_l_draw k_l_draw).binds fun _ _ _ _ _ _ us hl => match us, hl with | [_, _], _ => rfl,
      a_l_some := f_l_some,
      d_l_some := _,
      F_l_some := fun_mk (st := s_l_some) l_l_some c_l_some k_l_some,
      g_l_some := PySem.W.mg_of X G a_l_some,
      b_l_some := (fun_mk (st := s_l_some) l_l_some c_l_some k_l_some).binds fun _ _ _ _ _ _ us hl => match us, hl with | [_], _ => rfl,
      a_l_rule := f_l_rule,
      d_l_rule := _,
      F_l_rule := fun_mk (st := s_l_rule) l_l_rule c_l_rule k_l_rule,
      g_l_rule := PySem.W.mg_of X G a_l_rule,
      b_l_rule := (fun_mk (st := s_l_rule) l_l_rule c_l_rule k_l_rule).binds fun _ _ _ _ _ _ us hl => match us, hl with | [_, _, _], _ => rfl,
      a_l_battle := f_l_battle,
      d_l_battle := _,
      F_l_battle := fun_mk (st := s_l_battle) l_l_battle c_l_battle k_l_battle,
      g_l_battle := PySem.W.mg_of X G a_l_battle,
      b_l_battle := (fun_mk (st := s_l_battle) l_l_battle c_l_battle k_l_battle).binds fun _ _ _ _ _ _ us hl => match us, hl with | [_, _, _], _ => rfl,
      a_l_deep := f_l_deep,
      d_l_deep := _,
      F_l_deep := fun_mk (st := s_l_deep) l_l_deep c_l_deep k_l_deep,
      g_l_deep := PySem.W.mg_of X G a_l_deep,
      b_l_deep := (fun_mk (st := s_l_deep) l_l_deep c_l_deep k_l_deep).binds fun _ _ _ _ _ _ us hl => match us, hl with | [_], _ => rfl,
      a_l_paid := f_l_paid,
      d_l_paid := _,
      F_l_paid := fun_mk (st := s_l_paid) l_l_paid c_l_paid k_l_paid,
      g_l_paid := PySem.W.mg_of X G a_l_paid,
      b_l_paid := (fun_mk (st := s_l_paid) l_l_paid c_l_paid k_l_paid).binds fun _ _ _ _ _ _ us hl => match us, hl with | [_, _, _], _ => rfl,
      a_l_rises := f_l_rises,
      d_l_rises := _,
      F_l_rises := fun_mk (st := s_l_rises) l_l_rises c_l_rises k_l_rises,
      g_l_rises := PySem.W.mg_of X G a_l_rises,
      b_l_rises := (fun_mk (st := s_l_rises) l_l_rises c_l_rises k_l_rises).binds fun _ _ _ _ _ _ us hl => match us, hl with | [_], _ => rfl,
      a_l_rising := f_l_rising,
      d_l_rising := _,
      F_l_rising := fun_mk (st := s_l_rising) l_l_rising c_l_rising k_l_rising,
      g_l_rising := PySem.W.mg_of X G a_l_rising,
      b_l_rising := (fun_mk (st := s_l_rising) l_l_rising c_l_rising k_l_rising).binds fun _ _ _ _ _ _ us hl => match us, hl with | [_, _, _], _ => rfl,
      a_law := f_law,
      d_law := _,
      F_law := fun_mk (st := s_law) l_law c_law k_law,
      g_law := PySem.W.mg_of X G a_law,
      b_law := (fun_mk (st := s_law) l_law c_law k_law).binds fun _ _ _ _ _ _ us hl => match us, hl with | [_], _ => rfl,
      z_bool := PySem.W.mg_none_of X G z_bool,
      z_int := PySem.W.mg_none_of X G z_int,
      z_isinstance := PySem.W.mg_none_of X G z_isinstance,
      z_len := PySem.W.mg_none_of X G z_len,
      z_list := PySem.W.mg_none_of X G z_list,
      z_max := PySem.W.mg_none_of X G z_max,
      z_min := PySem.W.mg_none_of X G z_min,
      z_range := PySem.W.mg_none_of X G z_range,
      z_sorted := PySem.W.mg_none_of X G z_sorted,
      z_sum := PySem.W.mg_none_of X G z_sum,
      z_tuple := PySem.W.mg_none_of X G z_tuple,
      t_MOST_HOSTS := t_MOST_HOSTS,
      c_MOST_HOSTS := PySem.W.mg_of X G h_MOST_HOSTS,
      t_MOST_FIELDS := t_MOST_FIELDS,
      c_MOST_FIELDS := PySem.W.mg_of X G h_MOST_FIELDS }, rfl, fun _ _ => .of_eq rfl⟩
theorem all_mk {P : Program} {w : World} {K : PySem.W.Frag} {h : Heap} {mg : Str → Option Value} {fa : Addr} {f_is_number : Addr} {o_is_number n_is_number : Option Addr} {w_is_number : Array (Option Value)} {q1_is_number q2_is_number q3_is_number q4_is_number q5_is_number q6_is_number : Value} {f_are_numbers : Addr} {o_are_numbers n_are_numbers : Option Addr} {w_are_numbers : Array (Option Value)} {q1_are_numbers q2_are_numbers q3_are_numbers q4_are_numbers q5_are_numbers q6_are_numbers : Value} {f_is_rule : Addr} {o_is_rule n_is_rule : Option Addr} {w_is_rule : Array (Option Value)} {q1_is_rule q2_is_rule q3_is_rule q4_is_rule q5_is_rule q6_is_rule : Value} {f_is_field : Addr} {o_is_field n_is_field : Option Addr} {w_is_field : Array (Option Value)} {q1_is_field q2_is_field q3_is_field q4_is_field q5_is_field q6_is_field : Value} {f_look_battle : Addr} {o_look_battle n_look_battle : Option Addr} {w_look_battle : Array (Option Value)} {q1_look_battle q2_look_battle q3_look_battle q4_look_battle q5_look_battle q6_look_battle : Value} {f_paid : Addr} {o_paid n_paid : Option Addr} {w_paid : Array (Option Value)} {q1_paid q2_paid q3_paid q4_paid q5_paid q6_paid : Value} {f_pay : Addr} {o_pay n_pay : Option Addr} {w_pay : Array (Option Value)} {q1_pay q2_pay q3_pay q4_pay q5_pay q6_pay : Value} {f_rises_on : Addr} {o_rises_on n_rises_on : Option Addr} {w_rises_on : Array (Option Value)} {q1_rises_on q2_rises_on q3_rises_on q4_rises_on q5_rises_on q6_rises_on : Value} {f_rises : Addr} {o_rises n_rises : Option Addr} {w_rises : Array (Option Value)} {q1_rises q2_rises q3_rises q4_rises q5_rises q6_rises : Value} {f_l_mix : Addr} {o_l_mix n_l_mix : Option Addr} {w_l_mix : Array (Option Value)} {q1_l_mix q2_l_mix q3_l_mix q4_l_mix q5_l_mix q6_l_mix : Value} {f_l_cell_at : Addr} {o_l_cell_at n_l_cell_at : Option Addr} {w_l_cell_at : Array (Option Value)} {q1_l_cell_at q2_l_cell_at q3_l_cell_at q4_l_cell_at q5_l_cell_at q6_l_cell_at : Value} {f_l_left : Addr} {o_l_left n_l_left : Option Addr} {w_l_left : Array (Option Value)} {q1_l_left q2_l_left q3_l_left q4_l_left q5_l_left q6_l_left : Value} {f_l_draw : Addr} {o_l_draw n_l_draw : Option Addr} {w_l_draw : Array (Option Value)} {q1_l_draw q2_l_draw q3_l_draw q4_l_draw q5_l_draw q6_l_draw : Value} {f_l_some : Addr} {o_l_some n_l_some : Option Addr} {w_l_some : Array (Option Value)} {q1_l_some q2_l_some q3_l_some q4_l_some q5_l_some q6_l_some : Value} {f_l_rule : Addr} {o_l_rule n_l_rule : Option Addr} {w_l_rule : Array (Option Value)} {q1_l_rule q2_l_rule q3_l_rule q4_l_rule q5_l_rule q6_l_rule : Value} {f_l_battle : Addr} {o_l_battle n_l_battle : Option Addr} {w_l_battle : Array (Option Value)} {q1_l_battle q2_l_battle q3_l_battle q4_l_battle q5_l_battle q6_l_battle : Value} {f_l_deep : Addr} {o_l_deep n_l_deep : Option Addr} {w_l_deep : Array (Option Value)} {q1_l_deep q2_l_deep q3_l_deep q4_l_deep q5_l_deep q6_l_deep : Value} {f_l_paid : Addr} {o_l_paid n_l_paid : Option Addr} {w_l_paid : Array (Option Value)} {q1_l_paid q2_l_paid q3_l_paid q4_l_paid q5_l_paid q6_l_paid : Value} {f_l_rises : Addr} {o_l_rises n_l_rises : Option Addr} {w_l_rises : Array (Option Value)} {q1_l_rises q2_l_rises q3_l_rises q4_l_rises q5_l_rises q6_l_rises : Value} {f_l_rising : Addr} {o_l_rising n_l_rising : Option Addr} {w_l_rising : Array (Option Value)} {q1_l_rising q2_l_rising q3_l_rising q4_l_rising q5_l_rising q6_l_rising : Value} {f_law : Addr} {o_law n_law : Option Addr} {w_law : Array (Option Value)} {q1_law q2_law q3_law q4_law q5_law q6_law : Value} {t_MOST_HOSTS : Tok} {t_MOST_FIELDS : Tok} (X : K.In h) (G : h.Ns mainGlobals mg) (hfa : mg "law" = some (.ref fa))
    (a_is_number : PySem.W.nsIn K mainGlobals "is_number" = some (some (.ref f_is_number)))
    (l_is_number : K.lookup f_is_number = some ⟨q1_is_number, o_is_number, .func (PySem.W.fnOf "is_number" "is_number" (defArgs s_is_number) (defBody s_is_number) (defScope s_is_number) .none q2_is_number q3_is_number q4_is_number n_is_number q5_is_number q6_is_number), w_is_number⟩)
    (c_is_number : PySem.W.codeIn K q5_is_number "is_number" = true)
    (k_is_number : PySem.W.keepIn K (.ref f_is_number) = true)
    (a_are_numbers : PySem.W.nsIn K mainGlobals "are_numbers" = some (some (.ref f_are_numbers)))
    (l_are_numbers : K.lookup f_are_numbers = some ⟨q1_are_numbers, o_are_numbers, .func (PySem.W.fnOf "are_numbers" "are_numbers" (defArgs s_are_numbers) (defBody s_are_numbers) (defScope s_are_numbers) .none q2_are_numbers q3_are_numbers q4_are_numbers n_are_numbers q5_are_numbers q6_are_numbers), w_are_numbers⟩)
    (c_are_numbers : PySem.W.codeIn K q5_are_numbers "are_numbers" = true)
    (k_are_numbers : PySem.W.keepIn K (.ref f_are_numbers) = true)
    (a_is_rule : PySem.W.nsIn K mainGlobals "is_rule" = some (some (.ref f_is_rule)))
    (l_is_rule : K.lookup f_is_rule = some ⟨q1_is_rule, o_is_rule, .func (PySem.W.fnOf "is_rule" "is_rule" (defArgs s_is_rule) (defBody s_is_rule) (defScope s_is_rule) .none q2_is_rule q3_is_rule q4_is_rule n_is_rule q5_is_rule q6_is_rule), w_is_rule⟩)
    (c_is_rule : PySem.W.codeIn K q5_is_rule "is_rule" = true)
    (k_is_rule : PySem.W.keepIn K (.ref f_is_rule) = true)
    (a_is_field : PySem.W.nsIn K mainGlobals "is_field" = some (some (.ref f_is_field)))
    (l_is_field : K.lookup f_is_field = some ⟨q1_is_field, o_is_field, .func (PySem.W.fnOf "is_field" "is_field" (defArgs s_is_field) (defBody s_is_field) (defScope s_is_field) .none q2_is_field q3_is_field q4_is_field n_is_field q5_is_field q6_is_field), w_is_field⟩)
    (c_is_field : PySem.W.codeIn K q5_is_field "is_field" = true)
    (k_is_field : PySem.W.keepIn K (.ref f_is_field) = true)
    (a_look_battle : PySem.W.nsIn K mainGlobals "look_battle" = some (some (.ref f_look_battle)))
    (l_look_battle : K.lookup f_look_battle = some ⟨q1_look_battle, o_look_battle, .func (PySem.W.fnOf "look_battle" "look_battle" (defArgs s_look_battle) (defBody s_look_battle) (defScope s_look_battle) .none q2_look_battle q3_look_battle q4_look_battle n_look_battle q5_look_battle q6_look_battle), w_look_battle⟩)
    (c_look_battle : PySem.W.codeIn K q5_look_battle "look_battle" = true)
    (k_look_battle : PySem.W.keepIn K (.ref f_look_battle) = true)
    (a_paid : PySem.W.nsIn K mainGlobals "paid" = some (some (.ref f_paid)))
    (l_paid : K.lookup f_paid = some ⟨q1_paid, o_paid, .func (PySem.W.fnOf "paid" "paid" (defArgs s_paid) (defBody s_paid) (defScope s_paid) .none q2_paid q3_paid q4_paid n_paid q5_paid q6_paid), w_paid⟩)
    (c_paid : PySem.W.codeIn K q5_paid "paid" = true)
    (k_paid : PySem.W.keepIn K (.ref f_paid) = true)
    (a_pay : PySem.W.nsIn K mainGlobals "pay" = some (some (.ref f_pay)))
    (l_pay : K.lookup f_pay = some ⟨q1_pay, o_pay, .func (PySem.W.fnOf "pay" "pay" (defArgs s_pay) (defBody s_pay) (defScope s_pay) .none q2_pay q3_pay q4_pay n_pay q5_pay q6_pay), w_pay⟩)
    (c_pay : PySem.W.codeIn K q5_pay "pay" = true)
    (k_pay : PySem.W.keepIn K (.ref f_pay) = true)
    (a_rises_on : PySem.W.nsIn K mainGlobals "rises_on" = some (some (.ref f_rises_on)))
    (l_rises_on : K.lookup f_rises_on = some ⟨q1_rises_on, o_rises_on, .func (PySem.W.fnOf "rises_on" "rises_on" (defArgs s_rises_on) (defBody s_rises_on) (defScope s_rises_on) .none q2_rises_on q3_rises_on q4_rises_on n_rises_on q5_rises_on q6_rises_on), w_rises_on⟩)
    (c_rises_on : PySem.W.codeIn K q5_rises_on "rises_on" = true)
    (k_rises_on : PySem.W.keepIn K (.ref f_rises_on) = true)
    (a_rises : PySem.W.nsIn K mainGlobals "rises" = some (some (.ref f_rises)))
    (l_rises : K.lookup f_rises = some ⟨q1_rises, o_rises, .func (PySem.W.fnOf "rises" "rises" (defArgs s_rises) (defBody s_rises) (defScope s_rises) .none q2_rises q3_rises q4_rises n_rises q5_rises q6_rises), w_rises⟩)
    (c_rises : PySem.W.codeIn K q5_rises "rises" = true)
    (k_rises : PySem.W.keepIn K (.ref f_rises) = true)
    (a_l_mix : PySem.W.nsIn K mainGlobals "_law_mix" = some (some (.ref f_l_mix)))
    (l_l_mix : K.lookup f_l_mix = some ⟨q1_l_mix, o_l_mix, .func (PySem.W.fnOf "_law_mix" "_law_mix" (defArgs s_l_mix) (defBody s_l_mix) (defScope s_l_mix) .none q2_l_mix q3_l_mix q4_l_mix n_l_mix q5_l_mix q6_l_mix), w_l_mix⟩)
    (c_l_mix : PySem.W.codeIn K q5_l_mix "_law_mix" = true)
    (k_l_mix : PySem.W.keepIn K (.ref f_l_mix) = true)
    (a_l_cell_at : PySem.W.nsIn K mainGlobals "_law_cell_at" = some (some (.ref f_l_cell_at)))
    (l_l_cell_at : K.lookup f_l_cell_at = some ⟨q1_l_cell_at, o_l_cell_at, .func (PySem.W.fnOf "_law_cell_at" "_law_cell_at" (defArgs s_l_cell_at) (defBody s_l_cell_at) (defScope s_l_cell_at) .none q2_l_cell_at q3_l_cell_at q4_l_cell_at n_l_cell_at q5_l_cell_at q6_l_cell_at), w_l_cell_at⟩)
    (c_l_cell_at : PySem.W.codeIn K q5_l_cell_at "_law_cell_at" = true)
    (k_l_cell_at : PySem.W.keepIn K (.ref f_l_cell_at) = true)
    (a_l_left : PySem.W.nsIn K mainGlobals "_law_left" = some (some (.ref f_l_left)))
    (l_l_left : K.lookup f_l_left = some ⟨q1_l_left, o_l_left, .func (PySem.W.fnOf "_law_left" "_law_left" (defArgs s_l_left) (defBody s_l_left) (defScope s_l_left) .none q2_l_left q3_l_left q4_l_left n_l_left q5_l_left q6_l_left), w_l_left⟩)
    (c_l_left : PySem.W.codeIn K q5_l_left "_law_left" = true)
    (k_l_left : PySem.W.keepIn K (.ref f_l_left) = true)
    (a_l_draw : PySem.W.nsIn K mainGlobals "_law_draw" = some (some (.ref f_l_draw)))
    (l_l_draw : K.lookup f_l_draw = some ⟨q1_l_draw, o_l_draw, .func (PySem.W.fnOf "_law_draw" "_law_draw" (defArgs s_l_draw) (defBody s_l_draw) (defScope s_l_draw) .none q2_l_draw q3_l_draw q4_l_draw n_l_draw q5_l_draw q6_l_draw), w_l_draw⟩)
    (c_l_draw : PySem.W.codeIn K q5_l_draw "_law_draw" = true)
    (k_l_draw : PySem.W.keepIn K (.ref f_l_draw) = true)
    (a_l_some : PySem.W.nsIn K mainGlobals "_law_some" = some (some (.ref f_l_some)))
    (l_l_some : K.lookup f_l_some = some ⟨q1_l_some, o_l_some, .func (PySem.W.fnOf "_law_some" "_law_some" (defArgs s_l_some) (defBody s_l_some) (defScope s_l_some) .none q2_l_some q3_l_some q4_l_some n_l_some q5_l_some q6_l_some), w_l_some⟩)
    (c_l_some : PySem.W.codeIn K q5_l_some "_law_some" = true)
    (k_l_some : PySem.W.keepIn K (.ref f_l_some) = true)
    (a_l_rule : PySem.W.nsIn K mainGlobals "_law_rule" = some (some (.ref f_l_rule)))
    (l_l_rule : K.lookup f_l_rule = some ⟨q1_l_rule, o_l_rule, .func (PySem.W.fnOf "_law_rule" "_law_rule" (defArgs s_l_rule) (defBody s_l_rule) (defScope s_l_rule) .none q2_l_rule q3_l_rule q4_l_rule n_l_rule q5_l_rule q6_l_rule), w_l_rule⟩)
    (c_l_rule : PySem.W.codeIn K q5_l_rule "_law_rule" = true)
    (k_l_rule : PySem.W.keepIn K (.ref f_l_rule) = true)
    (a_l_battle : PySem.W.nsIn K mainGlobals "_law_battle" = some (some (.ref f_l_battle)))
    (l_l_battle : K.lookup f_l_battle = some ⟨q1_l_battle, o_l_battle, .func (PySem.W.fnOf "_law_battle" "_law_battle" (defArgs s_l_battle) (defBody s_l_battle) (defScope s_l_battle) .none q2_l_battle q3_l_battle q4_l_battle n_l_battle q5_l_battle q6_l_battle), w_l_battle⟩)
    (c_l_battle : PySem.W.codeIn K q5_l_battle "_law_battle" = true)
    (k_l_battle : PySem.W.keepIn K (.ref f_l_battle) = true)
    (a_l_deep : PySem.W.nsIn K mainGlobals "_law_deep" = some (some (.ref f_l_deep)))
    (l_l_deep : K.lookup f_l_deep = some ⟨q1_l_deep, o_l_deep, .func (PySem.W.fnOf "_law_deep" "_law_deep" (defArgs s_l_deep) (defBody s_l_deep) (defScope s_l_deep) .none q2_l_deep q3_l_deep q4_l_deep n_l_deep q5_l_deep q6_l_deep), w_l_deep⟩)
    (c_l_deep : PySem.W.codeIn K q5_l_deep "_law_deep" = true)
    (k_l_deep : PySem.W.keepIn K (.ref f_l_deep) = true)
    (a_l_paid : PySem.W.nsIn K mainGlobals "_law_paid" = some (some (.ref f_l_paid)))
    (l_l_paid : K.lookup f_l_paid = some ⟨q1_l_paid, o_l_paid, .func (PySem.W.fnOf "_law_paid" "_law_paid" (defArgs s_l_paid) (defBody s_l_paid) (defScope s_l_paid) .none q2_l_paid q3_l_paid q4_l_paid n_l_paid q5_l_paid q6_l_paid), w_l_paid⟩)
    (c_l_paid : PySem.W.codeIn K q5_l_paid "_law_paid" = true)
    (k_l_paid : PySem.W.keepIn K (.ref f_l_paid) = true)
    (a_l_rises : PySem.W.nsIn K mainGlobals "_law_rises" = some (some (.ref f_l_rises)))
    (l_l_rises : K.lookup f_l_rises = some ⟨q1_l_rises, o_l_rises, .func (PySem.W.fnOf "_law_rises" "_law_rises" (defArgs s_l_rises) (defBody s_l_rises) (defScope s_l_rises) .none q2_l_rises q3_l_rises q4_l_rises n_l_rises q5_l_rises q6_l_rises), w_l_rises⟩)
    (c_l_rises : PySem.W.codeIn K q5_l_rises "_law_rises" = true)
    (k_l_rises : PySem.W.keepIn K (.ref f_l_rises) = true)
    (a_l_rising : PySem.W.nsIn K mainGlobals "_law_rising" = some (some (.ref f_l_rising)))
    (l_l_rising : K.lookup f_l_rising = some ⟨q1_l_rising, o_l_rising, .func (PySem.W.fnOf "_law_rising" "_law_rising" (defArgs s_l_rising) (defBody s_l_rising) (defScope s_l_rising) .none q2_l_rising q3_l_rising q4_l_rising n_l_rising q5_l_rising q6_l_rising), w_l_rising⟩)
    (c_l_rising : PySem.W.codeIn K q5_l_rising "_law_rising" = true)
    (k_l_rising : PySem.W.keepIn K (.ref f_l_rising) = true)
    (a_law : PySem.W.nsIn K mainGlobals "law" = some (some (.ref f_law)))
    (l_law : K.lookup f_law = some ⟨q1_law, o_law, .func (PySem.W.fnOf "law" "law" (defArgs s_law) (defBody s_law) (defScope s_law) .none q2_law q3_law q4_law n_law q5_law q6_law), w_law⟩)
    (c_law : PySem.W.codeIn K q5_law "law" = true)
    (k_law : PySem.W.keepIn K (.ref f_law) = true)
    (z_bool : PySem.W.nsIn K mainGlobals "bool" = some none)
    (z_int : PySem.W.nsIn K mainGlobals "int" = some none)
    (z_isinstance : PySem.W.nsIn K mainGlobals "isinstance" = some none)
    (z_len : PySem.W.nsIn K mainGlobals "len" = some none)
    (z_list : PySem.W.nsIn K mainGlobals "list" = some none)
    (z_max : PySem.W.nsIn K mainGlobals "max" = some none)
    (z_min : PySem.W.nsIn K mainGlobals "min" = some none)
    (z_range : PySem.W.nsIn K mainGlobals "range" = some none)
    (z_sorted : PySem.W.nsIn K mainGlobals "sorted" = some none)
    (z_sum : PySem.W.nsIn K mainGlobals "sum" = some none)
    (z_tuple : PySem.W.nsIn K mainGlobals "tuple" = some none)
    (h_MOST_HOSTS : PySem.W.nsIn K mainGlobals "MOST_HOSTS" = some (some (.int 10 t_MOST_HOSTS)))
    (h_MOST_FIELDS : PySem.W.nsIn K mainGlobals "MOST_FIELDS" = some (some (.int 5 t_MOST_FIELDS))) : ∃ fd : FuncData, (∀ (s : Shared) (v : Value), BindsTo s fd ⟨[v], []⟩ [("_law_script", v)]) ∧ ∀ base : Heap, K.In base → base.Ns mainGlobals mg → FnOk P w K mg base CX0 13 fa fd ["_law_script"] (sp_law K) := by
  obtain ⟨T, e1, e2⟩ := mk_txt X G a_is_number l_is_number c_is_number k_is_number a_are_numbers l_are_numbers c_are_numbers k_are_numbers a_is_rule l_is_rule c_is_rule k_is_rule a_is_field l_is_field c_is_field k_is_field a_look_battle l_look_battle c_look_battle k_look_battle a_paid l_paid c_paid k_paid a_pay l_pay c_pay k_pay a_rises_on l_rises_on c_rises_on k_rises_on a_rises l_rises c_rises k_rises a_l_mix l_l_mix c_l_mix k_l_mix a_l_cell_at l_l_cell_at c_l_cell_at k_l_cell_at a_l_left l_l_left c_l_left k_l_left a_l_draw l_l_draw c_l_draw k_l_draw a_l_some l_l_some c_l_some k_l_some a_l_rule l_l_rule c_l_rule k_l_rule a_l_battle l_l_battle c_l_battle k_l_battle a_l_deep l_l_deep c_l_deep k_l_deep a_l_paid l_l_paid c_l_paid k_l_paid a_l_rises l_l_rises c_l_rises k_l_rises a_l_rising l_l_rising c_l_rising k_l_rising a_law l_law c_law k_law z_bool z_int z_isinstance z_len z_list z_max z_min z_range z_sorted z_sum z_tuple h_MOST_HOSTS h_MOST_FIELDS
  have e := hfa.symm.trans (PySem.W.mg_of X G a_law)
  cases e
  exact ⟨T.d_law, e2, fun base _ _ => e1 ▸ ok_law T⟩
end K07
open PySem PySem.W PyProof.Rows
set_option maxHeartbeats 0 in
theorem PySem.Challenge.cw_hostfields_k07_whole_more_hosts_help_holds : PySem.Challenge.rw_hostfields_k07_whole_more_hosts_help.Holds := by
  w_on; o_law; k_head; (case hw => w_witness2)
  k_fill
  refine L2.walk_of (l := PySem.Challenge.rw_hostfields_k07_whole_more_hosts_help) (n := 63) (k := 13) (x := "_law_script") (CX := fun _ => L2.CX0) (sp := fun w => K07.sp_law _) rfl (by decide) rfl ⟨rfl, by decide, by decide⟩ (fun w h Y => PySem.W.kIn_of Y) ?F (fun _ _ a ns hl _ hS => ⟨a, ns, rfl, hS, hl, fun _ => rfl⟩) (fun _ _ _ _ _ h => h)
  case F =>
    intro w mg fa h KX G hmg
    refine' K07.all_mk KX G hmg ?a_is_number ?l_is_number ?c_is_number ?k_is_number ?a_are_numbers ?l_are_numbers ?c_are_numbers ?k_are_numbers ?a_is_rule ?l_is_rule ?c_is_rule ?k_is_rule ?a_is_field ?l_is_field ?c_is_field ?k_is_field ?a_look_battle ?l_look_battle ?c_look_battle ?k_look_battle ?a_paid ?l_paid ?c_paid ?k_paid ?a_pay ?l_pay ?c_pay ?k_pay ?a_rises_on ?l_rises_on ?c_rises_on ?k_rises_on ?a_rises ?l_rises ?c_rises ?k_rises ?a_l_mix ?l_l_mix ?c_l_mix ?k_l_mix ?a_l_cell_at ?l_l_cell_at ?c_l_cell_at ?k_l_cell_at ?a_l_left ?l_l_left ?c_l_left ?k_l_left ?a_l_draw ?l_l_draw ?c_l_draw ?k_l_draw ?a_l_some ?l_l_some ?c_l_some ?k_l_some ?a_l_rule ?l_l_rule ?c_l_rule ?k_l_rule ?a_l_battle ?l_l_battle ?c_l_battle ?k_l_battle ?a_l_deep ?l_l_deep ?c_l_deep ?k_l_deep ?a_l_paid ?l_l_paid ?c_l_paid ?k_l_paid ?a_l_rises ?l_l_rises ?c_l_rises ?k_l_rises ?a_l_rising ?l_l_rising ?c_l_rising ?k_l_rising ?a_law ?l_law ?c_law ?k_law ?z_bool ?z_int ?z_isinstance ?z_len ?z_list ?z_max ?z_min ?z_range ?z_sorted ?z_sum ?z_tuple ?h_MOST_HOSTS ?h_MOST_FIELDS
    (case a_is_number => k_is); (case l_is_number => k_is); (case c_is_number => k_is); (case k_is_number => k_is); (case a_are_numbers => k_is); (case l_are_numbers => k_is); (case c_are_numbers => k_is); (case k_are_numbers => k_is); (case a_is_rule => k_is); (case l_is_rule => k_is); (case c_is_rule => k_is); (case k_is_rule => k_is); (case a_is_field => k_is); (case l_is_field => k_is); (case c_is_field => k_is); (case k_is_field => k_is); (case a_look_battle => k_is); (case l_look_battle => k_is); (case c_look_battle => k_is); (case k_look_battle => k_is); (case a_paid => k_is); (case l_paid => k_is); (case c_paid => k_is); (case k_paid => k_is); (case a_pay => k_is); (case l_pay => k_is); (case c_pay => k_is); (case k_pay => k_is); (case a_rises_on => k_is); (case l_rises_on => k_is); (case c_rises_on => k_is); (case k_rises_on => k_is); (case a_rises => k_is); (case l_rises => k_is); (case c_rises => k_is); (case k_rises => k_is); (case a_l_mix => k_is); (case l_l_mix => k_is); (case c_l_mix => k_is); (case k_l_mix => k_is); (case a_l_cell_at => k_is); (case l_l_cell_at => k_is); (case c_l_cell_at => k_is); (case k_l_cell_at => k_is); (case a_l_left => k_is); (case l_l_left => k_is); (case c_l_left => k_is); (case k_l_left => k_is); (case a_l_draw => k_is); (case l_l_draw => k_is); (case c_l_draw => k_is); (case k_l_draw => k_is); (case a_l_some => k_is); (case l_l_some => k_is); (case c_l_some => k_is); (case k_l_some => k_is); (case a_l_rule => k_is); (case l_l_rule => k_is); (case c_l_rule => k_is); (case k_l_rule => k_is); (case a_l_battle => k_is); (case l_l_battle => k_is); (case c_l_battle => k_is); (case k_l_battle => k_is); (case a_l_deep => k_is); (case l_l_deep => k_is); (case c_l_deep => k_is); (case k_l_deep => k_is); (case a_l_paid => k_is); (case l_l_paid => k_is); (case c_l_paid => k_is); (case k_l_paid => k_is); (case a_l_rises => k_is); (case l_l_rises => k_is); (case c_l_rises => k_is); (case k_l_rises => k_is); (case a_l_rising => k_is); (case l_l_rising => k_is); (case c_l_rising => k_is); (case k_l_rising => k_is); (case a_law => k_is); (case l_law => k_is); (case c_law => k_is); (case k_law => k_is); (case z_bool => k_is); (case z_int => k_is); (case z_isinstance => k_is); (case z_len => k_is); (case z_list => k_is); (case z_max => k_is); (case z_min => k_is); (case z_range => k_is); (case z_sorted => k_is); (case z_sum => k_is); (case z_tuple => k_is); (case h_MOST_HOSTS => k_is); (case h_MOST_FIELDS => k_is)

