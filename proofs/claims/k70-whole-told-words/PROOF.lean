import PyProof.Rows.All
import Wide.All
import OpenK.AllK
import Wide.FinOn
import HandS.ForMost
import HandS.SortInts
import HandS.Style
import HandS.IsInst
import HandS.Flow
import HandS.Conv
import HandS.Codes
import PyProof.Draws
import PyProof.EnumMake
import HandS.Walk
import HandS.Strs
import HandS.More
import HandS.Text
import HandS.Small
import HandS.SortKw
import KE.SortKeyed
import HandS.DictComp
import HandS.Zip
import HandS.Finally
import PySem.Challenge.RW_watchedways_k70_whole_told_words
set_option Elab.async false
set_option linter.all false
set_option maxRecDepth 100000
set_option maxHeartbeats 4000000
/-! Readings by their heads: one lemma a combinator, so that a reading is walked by its own shape. -/
namespace Rd
open PySem PySem.Spec PyProof.Rows L2
variable {X : Cx} {D : Ends} {σ : L2.St} {H : Hp} {K : PySem.W.Frag}
/-- a new object is laid -/
def NewQ (o : HO) (Q : VK) (H : Hp) : Prop := ∀ p, H p = none → Q (.ref p) (upd H p o)
theorem new {o : HO} {Q : VK} (h : ∀ (p : Addr) (G : Hp), H p = none → G p = some o → Same H G → Q (.ref p) G) : NewQ o Q H :=
  fun p hp => h p _ hp upd_same fun b u e => by rw [upd_ne (ne_of_none e hp)]; exact e
theorem seq {t u : TS} (h : t { D with nx := u D } σ H) : tSeq t u D σ H := h
theorem cut {t u : TS} (Mid : L2.St → Hp → Prop) (h : t { D with nx := Mid } σ H) (h2 : ∀ σ' H', Mid σ' H' → u D σ' H') : C8.tCut t u D σ H := ⟨Mid, h, h2⟩
theorem nxt (h : D.nx σ H) : tNext D σ H := h
theorem asg {te : TE} {g : TG} (h : te σ H fun x H1 => g x σ H1 D.nx) : tAsg te g D σ H := h
theorem name {i : Nat} {v : V} {Q : L2.St → Hp → Prop} (h : Q (σ.set i (some v)) H) : gName i v σ H Q := h
theorem ret {te : TE} (h : te σ H D.rt) : tRet te D σ H := h
theorem retN (h : D.rt .non H) : tRetN D σ H := h
theorem drop {te : TE} (h : te σ H fun _ H1 => D.nx σ H1) : tDrop te D σ H := h
theorem ifS {c : TT} {t u : TS} (h : c σ H fun b H1 => if b = true then t D σ H1 else u D σ H1) : tIfS c t u D σ H := h
theorem brk (h : D.bk σ H) : tBreak D σ H := h
theorem cont (h : D.ct σ H) : tCont D σ H := h
theorem var {i : Nat} {v : V} {Q : VK} (e : σ[i]? = some (some v)) (h : Q v H) : tVar i σ H Q := ⟨v, e, h⟩
theorem con {v : V} {Q : VK} (h : Q v H) : tC v σ H Q := h
theorem op {r : R2} {ta tb : TE} {Q : VK} (h : ta σ H fun x H1 => tb σ H1 fun y H2 => r x y H2 Q) : tOp r ta tb σ H Q := h
theorem un {r : V → Hp → VK → Prop} {ta : TE} {Q : VK} (h : ta σ H fun x H1 => r x H1 Q) : tUn r ta σ H Q := h
theorem test {t : TE} {Q : Bool → Hp → Prop} (h : t σ H fun x H' => ∃ k, x = .bl k ∧ Q k H') : tTest t σ H Q := h
theorem tstB {t : TE} {Q : Bool → Hp → Prop} (h : t σ H fun x H' => ∃ k, x = .bl k ∧ Q k H') : tB t σ H Q := h
theorem bl {k : Bool} {Q : Bool → Hp → Prop} (h : Q k H) : ∃ k', V.bl k = .bl k' ∧ Q k' H := ⟨k, rfl, h⟩
theorem and {t u : TT} {Q : Bool → Hp → Prop} (h : t σ H fun c H1 => if c = true then u σ H1 Q else Q false H1) : tAnd t u σ H Q := h
theorem or {t u : TT} {Q : Bool → Hp → Prop} (h : t σ H fun c H1 => if c = true then Q true H1 else u σ H1 Q) : tOr t u σ H Q := h
theorem not {t : TT} {Q : Bool → Hp → Prop} (h : t σ H fun c H1 => Q (!c) H1) : tNot t σ H Q := h
theorem andV {ta tb : TE} {Q : VK} (h : ta σ H fun x H1 => ∃ c, x = .bl c ∧ if c = true then tb σ H1 Q else Q (.bl false) H1) : tAndV ta tb σ H Q := h
theorem orV {ta tb : TE} {Q : VK} (h : ta σ H fun x H1 => ∃ c, x = .bl c ∧ if c = true then Q (.bl true) H1 else tb σ H1 Q) : tOrV ta tb σ H Q := h
theorem notV {ta : TE} {Q : VK} (h : ta σ H fun x H1 => ∃ c, x = .bl c ∧ Q (.bl (!c)) H1) : tNotV ta σ H Q := h
theorem ifE {t : TT} {ta tb : TE} {Q : VK} (h : t σ H fun c H1 => if c = true then ta σ H1 Q else tb σ H1 Q) : tIf t ta tb σ H Q := h
theorem nil {Q : List V → Hp → Prop} (h : Q [] H) : tNil σ H Q := h
theorem cons {ta : TE} {tr : TA} {Q : List V → Hp → Prop} (h : ta σ H fun x H1 => tr σ H1 fun xs H2 => Q (x :: xs) H2) : tCons ta tr σ H Q := h
theorem tup {t : TA} {Q : VK} (h : t σ H fun xs H1 => xs.length ≤ sizeLine ∧ NewQ (.tup xs) Q H1) : tTup t σ H Q := h
theorem lst {t : TA} {Q : VK} (h : t σ H fun xs H1 => xs.length ≤ sizeLine ∧ NewQ (.lst xs) Q H1) : tLst t σ H Q := h
theorem cb {r : List V → Hp → VK → Prop} {t : TA} {Q : VK} (h : t σ H fun vs H1 => r vs H1 Q) : tCB r t σ H Q := h
theorem call {sp : Sp} {dvs : List V} {E : XK} {t : TA} {Q : VK} (h : t σ H fun vs H1 => sp (vs ++ dvs) H1 Q E) : tCall sp dvs E t σ H Q := h
theorem chain {r r' : R2} {ta tb tc : TE} {Q : VK} (h : ta σ H fun x H1 => tb σ H1 fun y H2 => r x y H2 fun z H3 => ∃ k, z = .bl k ∧ (if k = true then tc σ H3 fun w' H4 => r' y w' H4 Q else Q (.bl false) H3)) : tChain r r' ta tb tc σ H Q := h
theorem blE {k : Bool} {P : Bool → Prop} (h : P k) : ∃ k', V.bl k = .bl k' ∧ P k' := ⟨k, rfl, h⟩
theorem i0 {g : Int → Int → V} {i j : Int} {Q : VK} (h : Q (g i j) H) : rI0 g (.int i) (.int j) H Q := ⟨i, j, rfl, rfl, h⟩
theorem iC {C : Int → Int → Prop} {g : Int → Int → V} {i j : Int} {Q : VK} (c : C i j) (h : Q (g i j) H) : rI C g (.int i) (.int j) H Q := ⟨i, j, rfl, rfl, c, h⟩
theorem u1 {g : Int → V} {i : Int} {Q : VK} (h : Q (g i) H) : rU g (.int i) H Q := ⟨i, rfl, h⟩
theorem eqI {i j : Int} {Q : VK} (h : Q (.bl (decide (i = j))) H) : rEq (.int i) (.int j) H Q := ⟨rfl, by rw [show decide (V.int i = V.int j) = decide (i = j) by simp]; exact h⟩
theorem neI {i j : Int} {Q : VK} (h : Q (.bl (!decide (i = j))) H) : rNe (.int i) (.int j) H Q := ⟨rfl, by rw [show decide (V.int i = V.int j) = decide (i = j) by simp]; exact h⟩
theorem eqB {i j : Bool} {Q : VK} (h : Q (.bl (i == j)) H) : rEq (.bl i) (.bl j) H Q := ⟨rfl, by rw [dec_bl]; exact h⟩
theorem neB {i j : Bool} {Q : VK} (h : Q (.bl (i != j)) H) : rNe (.bl i) (.bl j) H Q := ⟨rfl, by rw [dec_bl]; exact h⟩
theorem eqS {i j : Str} {Q : VK} (h : Q (.bl (decide (i = j))) H) : rEq (.str i) (.str j) H Q := ⟨rfl, by rw [show decide (V.str i = V.str j) = decide (i = j) by simp]; exact h⟩
theorem neS {i j : Str} {Q : VK} (h : Q (.bl (!decide (i = j))) H) : rNe (.str i) (.str j) H Q := ⟨rfl, by rw [show decide (V.str i = V.str j) = decide (i = j) by simp]; exact h⟩
theorem iteb {c A B : Prop} [Decidable c] (h : if c then A else B) : if decide c = true then A else B := by
  by_cases q : c
  · rw [if_pos q] at h; rw [if_pos (decide_eq_true q)]; exact h
  · rw [if_neg q] at h; rw [if_neg (by simpa using q)]; exact h
theorem iten {c A B : Prop} [Decidable c] (h : if c then B else A) : if (!decide c) = true then A else B := by
  by_cases q : c
  · rw [if_pos q] at h; rw [if_neg (by simpa using q)]; exact h
  · rw [if_neg q] at h; rw [if_pos (by simpa using q)]; exact h
theorem itbn {b : Bool} {A B : Prop} (h : if b = true then B else A) : if (!b) = true then A else B := by
  cases b with
  | true => rw [if_neg (by decide)]; rw [if_pos rfl] at h; exact h
  | false => rw [if_pos (by rfl : (!false) = true)]; rw [if_neg (by decide)] at h; exact h
theorem a1 {a : Int} {P : Int → Prop} (h : P a) : ∃ i, [V.int a] = [V.int i] ∧ P i := ⟨a, rfl, h⟩
theorem a2 {a b : Int} {P : Int → Int → Prop} (h : P a b) : ∃ i j, [V.int a, V.int b] = [V.int i, V.int j] ∧ P i j := ⟨a, b, rfl, h⟩
theorem v2 {a b : V} {P : V → V → Prop} (h : P a b) : ∃ i j, [a, b] = [i, j] ∧ P i j := ⟨a, b, rfl, h⟩
theorem int1 {a : Int} {P : Int → Prop} {R : Prop} (h : P a) : (∃ i, [V.int a] = [V.int i] ∧ P i) ∨ R := .inl ⟨a, rfl, h⟩
theorem par {i j : Nat} {ta : TA} (h : ta σ H fun vs H1 => ∃ v w, vs = [v, w] ∧ D.nx ((σ.set i (some v)).set j (some w)) H1) : tPar i j ta D σ H := h
theorem sub {to ti : TE} {t : TSet} {v : V} {Q : L2.St → Hp → Prop} (h : to σ H fun o H1 => ti σ H1 fun i H2 => t o i v H2 fun H3 => Q σ H3) : gSub to ti t v σ H Q := h
theorem forS {wi : TI} {g : TG} {tb : TS} (h : wi σ H fun J H1 => ∃ W : Nat → Nat → L2.St → Hp → Prop, (∃ m, W 0 m σ H1) ∧ ∀ i m σ H, W i m σ H →
  (J.stop i H ∧ D.nx σ H) ∨ (J.go i H ∧ ∃ N : L2.St → Hp → Prop, (∀ σ' H', N σ' H' → ∃ m', m' < m ∧ W (i + 1) m' σ' H') ∧ ∀ x H', J.yld i H x H' → g x σ H' fun σ2 H2 => tb { D with nx := N, ct := N, bk := D.nx } σ2 H2)) : tFor wi g tb D σ H := h
theorem iter {tl : TE} {R : It → Hp → Prop} (h : tl σ H fun x H1 => ∃ a, x = .ref a ∧ (∃ xs, SqL K H1 a xs) ∧ R (Itl K a) H1) : iList K tl σ H R := h
theorem iterT {tl : TE} {R : It → Hp → Prop} (h : tl σ H fun x H1 => ∃ a, x = .ref a ∧ (∃ xs, SqT K H1 a xs) ∧ R (Itt K a) H1) : iTup K tl σ H R := h
theorem rng1 {ta : TA} {R : It → Hp → Prop} (h : ta σ H fun vs H1 => ∃ j : Int, vs = [.int j] ∧ -(2 ^ 62) ≤ j ∧ j < 2 ^ 62 ∧ R (Itr 0 j.toNat) H1) : iRng1 ta σ H R := h
theorem refE {a : Addr} {P : Addr → Prop} (h : P a) : ∃ b, V.ref a = .ref b ∧ P b := ⟨a, rfl, h⟩
theorem aug {i : Nat} {te : TE} {ti : TIp} {x : V} (e : σ[i]? = some (some x)) (h : te σ H fun y H1 => ti x y H1 fun z H2 => D.nx (σ.set i (some z)) H2) : tAug i te ti D σ H := ⟨x, e, h⟩
theorem ipi {f : Int → Int → Int} {i j : Int} {Q : VK} (h : Q (.int (f i j)) H) : ipI f (.int i) (.int j) H Q := ⟨i, j, rfl, rfl, h⟩
theorem whl {c : TT} {tb : TS} (W : Nat → L2.St → Hp → Prop) (h0 : ∃ m, W m σ H) (hs : ∀ m σ H, W m σ H → c σ H fun b H1 => if b = true then ∃ N : L2.St → Hp → Prop, (∀ σ' H', N σ' H' → ∃ m', m' < m ∧ W m' σ' H') ∧ tb { D with nx := N, ct := N, bk := D.nx } σ H1 else D.nx σ H1) : tWhile c tb D σ H := ⟨W, h0, hs⟩
theorem whN {m : Nat} {W : Nat → L2.St → Hp → Prop} {P : (L2.St → Hp → Prop) → Prop} (h : P (fun σ' H' => ∃ m', m' < m ∧ W m' σ' H')) : ∃ N, (∀ σ' H', N σ' H' → ∃ m', m' < m ∧ W m' σ' H') ∧ P N := ⟨_, fun _ _ h => h, h⟩
/-- an item of a list at a place -/
theorem ixL {p : Addr} {xs : List V} {i : Int} {v : V} {Q : VK} (hp : SqL K H p xs) (e : atI xs i = some v) (h : Q v H) : rIxL K (.ref p) (.int i) H Q := ⟨p, xs, i, v, rfl, rfl, hp, e, h⟩
theorem ixT {p : Addr} {xs : List V} {i : Int} {v : V} {Q : VK} (hp : SqT K H p xs) (e : atI xs i = some v) (h : Q v H) : rIxT K (.ref p) (.int i) H Q := ⟨p, xs, i, v, rfl, rfl, hp, e, h⟩
theorem setL {p : Addr} {xs : List V} {k : Int} {j : Nat} {v : V} {Q : Hp → Prop} (hp : H p = some (.lst xs)) (e : ixN xs.length k = some j) (h : Q (upd H p (.lst (xs.set j v)))) : rSetL (.ref p) (.int k) v H Q := ⟨p, xs, k, j, rfl, rfl, hp, e, h⟩
/-- a store into a list: behind it a heap G of which this is known -/
theorem setG {p : Addr} {xs ys : List V} {k : Int} {j : Nat} {v : V} {Q : Hp → Prop} (hp : H p = some (.lst xs)) (e : ixN xs.length k = some j) (hy : xs.set j v = ys) (h : ∀ G : Hp, G p = some (.lst ys) → (∀ b, b ≠ p → G b = H b) → Q G) : rSetL (.ref p) (.int k) v H Q :=
  ⟨p, xs, k, j, rfl, rfl, hp, e, hy ▸ h _ upd_same fun b hb => upd_ne hb⟩
/-! ### calls of built-ins and methods, by name -/
def nLen (K : PySem.W.Frag) : List V → Hp → VK → Prop := fun xs H Q => ∃ p ys, xs = [.ref p] ∧ (SqL K H p ys ∨ SqT K H p ys) ∧ Q (.int ys.length) H
theorem c_len : CallR X (.builtin "len") (nLen X.K) := call_len_seq
theorem len {p : Addr} {ys : List V} {Q : VK} (hp : SqL K H p ys ∨ SqT K H p ys) (h : Q (.int ys.length) H) : nLen K [.ref p] H Q := ⟨p, ys, rfl, hp, h⟩
def nLenS : List V → Hp → VK → Prop := fun xs H Q => ∃ z : Str, xs = [.str z] ∧ z.length ≤ sizeLine ∧ Q (.int z.length) H
theorem c_lenS : CallR X (.builtin "len") nLenS := call_len_str
theorem lenStr {z : Str} {Q : VK} (hz : z.length ≤ sizeLine) (h : Q (.int z.length) H) : nLenS [.str z] H Q := ⟨z, rfl, hz, h⟩
def nListOf (K : PySem.W.Frag) : List V → Hp → VK → Prop := fun xs H Q => ∃ p ys, xs = [.ref p] ∧ (SqL K H p ys ∨ SqT K H p ys) ∧ NewQ (.lst ys) Q H
theorem c_listOf : CallR X (.type "list") (nListOf X.K) := call_list_of
theorem listOf {p : Addr} {ys : List V} {Q : VK} (hp : SqL K H p ys ∨ SqT K H p ys) (h : NewQ (.lst ys) Q H) : nListOf K [.ref p] H Q := ⟨p, ys, rfl, hp, h⟩
def nTupOf (K : PySem.W.Frag) : List V → Hp → VK → Prop := fun xs H Q => ∃ p ys, xs = [.ref p] ∧ ((SqL K H p ys ∧ NewQ (.tup ys) Q H) ∨ (SqT K H p ys ∧ Q (.ref p) H))
theorem c_tupOf : CallR X (.type "tuple") (nTupOf X.K) := call_tuple_of
theorem tupOf {p : Addr} {ys : List V} {Q : VK} (hp : SqL K H p ys) (h : NewQ (.tup ys) Q H) : nTupOf K [.ref p] H Q := ⟨p, ys, rfl, .inl ⟨hp, h⟩⟩
def nInt : List V → Hp → VK → Prop := fun xs H Q => (∃ i, xs = [.int i] ∧ Q (.int i) H) ∨ ∃ k, xs = [.bl k] ∧ Q (.int (if k then 1 else 0)) H
theorem c_int : CallR X (.type "int") nInt := call_int1
theorem int {i : Int} {Q : VK} (h : Q (.int i) H) : nInt [.int i] H Q := .inl ⟨i, rfl, h⟩
theorem intB {k : Bool} {Q : VK} (h : Q (.int (if k then 1 else 0)) H) : nInt [.bl k] H Q := .inr ⟨k, rfl, h⟩
def nAbs : List V → Hp → VK → Prop := fun xs H Q => ∃ i, xs = [.int i] ∧ Q (.int (if i < 0 then -i else i)) H
theorem c_abs : CallR X (.builtin "abs") nAbs := call_abs
theorem abs {i : Int} {Q : VK} (h : Q (.int (i.natAbs : Int)) H) : nAbs [.int i] H Q := ⟨i, rfl, by rw [show (if i < 0 then -i else i) = (i.natAbs : Int) by split <;> omega]; exact h⟩
def nMax2 : List V → Hp → VK → Prop := fun xs H Q => ∃ i j, xs = [.int i, .int j] ∧ Q (.int (if j > i then j else i)) H
theorem c_max2 (hc : X.calm = true) : CallR X (.builtin "max") nMax2 := call_max2 hc
theorem max2 {i j : Int} {Q : VK} (h : Q (.int (max i j)) H) : nMax2 [.int i, .int j] H Q := ⟨i, j, rfl, by rw [show (if j > i then j else i) = max i j by rw [Int.max_def]; split <;> split <;> omega]; exact h⟩
def nMin2 : List V → Hp → VK → Prop := fun xs H Q => ∃ i j, xs = [.int i, .int j] ∧ Q (.int (if j < i then j else i)) H
theorem c_min2 (hc : X.calm = true) : CallR X (.builtin "min") nMin2 := call_min2 hc
theorem min2 {i j : Int} {Q : VK} (h : Q (.int (min i j)) H) : nMin2 [.int i, .int j] H Q := ⟨i, j, rfl, by rw [show (if j < i then j else i) = min i j by rw [Int.min_def]; split <;> split <;> omega]; exact h⟩
theorem bm {T : String} {r : V → List V → Hp → VK → Prop} {to : TE} {t : TA} {Q : VK} (h : to σ H fun x H1 => tyV K T x H1 ∧ t σ H1 fun xs H2 => r x xs H2 Q) : tBM K T r to t σ H Q := h
theorem bm0 {T : String} {r : V → List V → Hp → VK → Prop} {to : TE} {Q : VK} (h : to σ H fun x H1 => tyV K T x H1 ∧ r x [] H1 Q) : tBM0 K T r to σ H Q := h
theorem tyL {a : Addr} {xs : List V} {R : Prop} (h : SqL K H a xs) (r : R) : tyV K "list" (.ref a) H ∧ R := ⟨.inl ⟨rfl, _, h⟩, r⟩
theorem app {l : Addr} {xs : List V} {y : V} {Q : VK} (hp : H l = some (.lst xs)) (hz : xs.length < sizeLine) (h : ∀ G : Hp, G l = some (.lst (xs ++ [y])) → (∀ b, b ≠ l → G b = H b) → Q .non G) : rAppend (.ref l) [y] H Q :=
  ⟨l, xs, y, rfl, rfl, hp, hz, h _ upd_same fun b hb => upd_ne hb⟩
theorem popAt {l : Addr} {xs : List V} {i : Int} {y : V} {Q : VK} (hp : H l = some (.lst xs)) (h0 : 0 ≤ i) (h1 : i < xs.length) (hz : xs.length < 2 ^ 63) (hy : xs[i.toNat]? = some y) (h : ∀ G : Hp, G l = some (.lst (xs.eraseIdx i.toNat)) → (∀ b, b ≠ l → G b = H b) → Q y G) : rPopAt (.ref l) [.int i] H Q :=
  ⟨l, xs, i, i.toNat, y, rfl, rfl, hp, by omega, by omega, by unfold seqIndex?; rw [if_pos (by simp; omega)] <;> simp <;> omega, hy, h _ upd_same fun b hb => upd_ne hb⟩
theorem sl {r : V → Option Int → Option Int → Hp → VK → Prop} {te : TE} {tl th : TO} {Q : VK} (h : te σ H fun x H1 => tl σ H1 fun l H2 => th σ H2 fun u H3 => r x l u H3 Q) : tSl r te tl th σ H Q := h
theorem slL {a : Addr} {xs : List V} {lo hi : Option Int} {Q : VK} (hp : SqL K H a xs) (h : NewQ (.lst (cutV xs lo hi)) Q H) : rSlL K (.ref a) lo hi H Q := ⟨a, xs, rfl, hp, h⟩
theorem slS {z : Str} {lo hi : Option Int} {Q : VK} (hz : z.length ≤ sizeLine) (h : Q (.str (cutS z lo hi)) H) : rSlS (.str z) lo hi H Q := ⟨z, rfl, hz, h⟩
theorem cat {l b : Addr} {xs zs : List V} {Q : VK} (h1 : H l = some (.lst xs)) (h2 : H b = some (.lst zs)) (hz : xs.length + zs.length ≤ sizeLine) (h : NewQ (.lst (xs ++ zs)) Q H) : rCat (.ref l) (.ref b) H Q := ⟨l, b, xs, zs, rfl, rfl, h1, h2, hz, h⟩
theorem rep {l : Addr} {xs : List V} {k : Int} {Q : VK} (h1 : H l = some (.lst xs)) (h0 : -(2 ^ 63) ≤ k) (hk : k < 2 ^ 63) (hz : xs.length * k.toNat ≤ sizeLine) (h : NewQ (.lst (List.replicate k.toNat xs).flatten) Q H) : rRep (.ref l) (.int k) H Q := ⟨l, k, xs, rfl, rfl, h1, h0, hk, hz, h⟩
theorem revL {te : TE} {Q : VK} (h : te σ H fun x H1 => ∃ a xs, x = .ref a ∧ SqL K H1 a xs ∧ NewQ (.lst xs.reverse) Q H1) : tRevL K te σ H Q := h
theorem refX {a : Addr} {xs : List V} {P : List V → Prop} (h : SqL K H a xs) (q : P xs) : ∃ b ys, V.ref a = .ref b ∧ SqL K H b ys ∧ P ys := ⟨a, xs, rfl, h, q⟩
theorem sum {a : Addr} {ns : List Int} {Q : VK} (hp : SqL K H a (ns.map V.int)) (h : Q (.int ns.sum) H) : rSum K [.ref a] H Q := ⟨a, ns, rfl, hp, h⟩
theorem all {a : Addr} {bs : List Bool} {Q : VK} (hp : SqL K H a (bs.map V.bl)) (h : Q (.bl (bs.all id)) H) : rAll K [.ref a] H Q := ⟨a, bs, rfl, hp, h⟩
theorem any {a : Addr} {bs : List Bool} {Q : VK} (hp : SqL K H a (bs.map V.bl)) (h : Q (.bl (bs.any id)) H) : rAny K [.ref a] H Q := ⟨a, bs, rfl, hp, h⟩
theorem sortedI {a : Addr} {ns : List Int} {Q : VK} (hp : SqL K H a (ns.map V.int)) (h : ∀ (ms : List Int) (p : Addr) (G : Hp), ms.Perm ns → ms.Pairwise (· ≤ ·) → G p = some (.lst (ms.map V.int)) → Same H G → H p = none → Q (.ref p) G) : rSortedI K [.ref a] H Q :=
  ⟨a, ns, rfl, hp, fun ms p h1 h2 h3 => h ms p _ h1 h2 upd_same (fun b u e => by rw [upd_ne (ne_of_none e h3)]; exact e) h3⟩
theorem inS {neg : Bool} {x : V} {p : Addr} {xs : List V} {Q : VK} (hp : SqL K H p xs ∨ SqT K H p xs) (h1 : flatV x = true) (h2 : xs.all flatV = true) (h : Q (.bl (if neg then !inV x xs else inV x xs)) H) : rIn K neg x (.ref p) H Q := ⟨p, xs, rfl, hp, h1, h2, h⟩
theorem part {te : TE} {Q : Option Int → Hp → Prop} (h : te σ H fun x H1 => ∃ i, x = .int i ∧ Q (some i) H1) : tPart te σ H Q := h
theorem noPart {Q : Option Int → Hp → Prop} (h : Q none H) : tNoPart σ H Q := h
theorem poS {te : TE} {Q : Option Int → Hp → Prop} {i : Int} (h : te σ H fun x H1 => ∃ i, x = .int i ∧ Q (some i) H1) : te σ H fun x H1 => ∃ i, x = .int i ∧ Q (some i) H1 := h
theorem tupT {a : Addr} {xs : List V} {n : Nat} {t : TGs} {Q : L2.St → Hp → Prop} (hp : SqT K H a xs) (hn : xs.length = n) (h : t xs σ H Q) : gTup K n t (.ref a) σ H Q := ⟨a, xs, rfl, hp, hn, h⟩
theorem gcons {t : TG} {u : TGs} {v : V} {r : List V} {Q : L2.St → Hp → Prop} (h : t v σ H fun σ' H' => u r σ' H' Q) : gCons t u (v :: r) σ H Q := ⟨v, r, rfl, h⟩
theorem gnil {Q : L2.St → Hp → Prop} (h : Q σ H) : gNil [] σ H Q := ⟨rfl, h⟩
theorem last2 {ms : List Int} (h : 2 ≤ ms.length) : ∃ s b a, ms = s ++ [b, a] := by
  rcases List.eq_nil_or_concat ms with e | ⟨t, a, e⟩
  · subst e; simp at h
  · rcases List.eq_nil_or_concat t with e2 | ⟨s, b, e2⟩
    · subst e2; subst e; simp at h
    · exact ⟨s, b, a, by rw [e, e2]; simp⟩
theorem cut_last2 (s : List Int) (b a : Int) : cutV ((s ++ [b, a]).map V.int) (some (-2)) none = [b, a].map V.int := by
  have e : HT.sIx ((s ++ [b, a]).map V.int).length 0 (some (-2)) = (s.map V.int).length := by
    unfold HT.sIx
    simp
    omega
  have e2 : HT.sIx ((s ++ [b, a]).map V.int).length ((s ++ [b, a]).map V.int).length none = ((s ++ [b, a]).map V.int).length := rfl
  unfold cutV
  rw [e, e2, List.map_append, List.drop_left, List.length_append]
  exact List.take_of_length_le (by simp)
theorem rep_map (k : Nat) (b : Bool) : (List.replicate k [V.bl b]).flatten = (List.replicate k b).map V.bl := by
  induction k with
  | zero => rfl
  | succ k ih => rw [List.replicate_succ, List.flatten_cons, ih, List.replicate_succ]; rfl
theorem map_set {α β : Type} (f : α → β) (l : List α) (i : Nat) (x : α) : (l.map f).set i (f x) = (l.set i x).map f := by rw [List.map_set]
theorem enx {a b c : L2.St → Hp → Prop} {r : VK} (h : a σ H) : (Ends.mk a r b c).nx σ H := h
theorem ebk {a b c : L2.St → Hp → Prop} {r : VK} (h : b σ H) : (Ends.mk a r b c).bk σ H := h
theorem ect {a b c : L2.St → Hp → Prop} {r : VK} (h : c σ H) : (Ends.mk a r b c).ct σ H := h
theorem ert {a b c : L2.St → Hp → Prop} {r : VK} {v : V} (h : r v H) : (Ends.mk a r b c).rt v H := h
theorem intE {i : Int} {P : Int → Prop} (h : P i) : ∃ j, V.int i = .int j ∧ P j := ⟨i, rfl, h⟩
theorem atI_of {α : Type} {xs : List α} {i : Int} {v : α} (h0 : 0 ≤ i) (e : xs[i.toNat]? = some v) : atI xs i = some v := by
  have h := atI_nat e
  rw [show ((i.toNat : Nat) : Int) = i by omega] at h
  exact h
theorem ixN_of {n : Nat} {i : Int} (h0 : 0 ≤ i) (h1 : i < n) : ixN n i = some i.toNat := by
  unfold ixN
  rw [if_pos h0, if_pos h1]
theorem map_int {ns : List Int} {i : Nat} (h : i < ns.length) : (ns.map V.int)[i]? = some (.int ns[i]) := by simp [h]
theorem map_get {ns : List Int} {i : Nat} {x : V} (h : (ns.map V.int)[i]? = some x) : ∃ n, ns[i]? = some n ∧ x = .int n := by
  rw [List.getElem?_map] at h
  cases e : ns[i]? with
  | none => rw [e] at h; cases h
  | some z => rw [e] at h; exact ⟨z, rfl, (Option.some.inj h).symm⟩
theorem take_snoc {α : Type} {l : List α} {i : Nat} {x : α} (h : l[i]? = some x) : l.take (i + 1) = l.take i ++ [x] := by
  rw [List.take_succ, h]
  rfl
theorem upd_at {a : Addr} {o : HO} {b : Addr} (h : b = a) : upd H a o b = some o := by subst h; exact upd_same
/-- all but what stands at a is kept -/
def But (a : Addr) (H H' : Hp) : Prop := ∀ b o, b ≠ a → H b = some o → H' b = some o
theorem But.refl (a : Addr) (H : Hp) : But a H H := fun _ _ _ e => e
theorem But.trans {a : Addr} {H H1 H2 : Hp} (x : But a H H1) (y : But a H1 H2) : But a H H2 := fun b o n e => y b o n (x b o n e)
theorem But.same {a : Addr} {H H1 H2 : Hp} (x : But a H H1) (y : Same H1 H2) : But a H H2 := fun b o n e => y b o (x b o n e)
theorem But.of {a : Addr} {H H1 : Hp} (y : Same H H1) : But a H H1 := fun b o _ e => y b o e
theorem But.free {a : Addr} {H H1 : Hp} (x : But a H H1) {l : Addr} (n : l ≠ a) (h : H1 l = none) : H l = none := by
  cases q : H l with
  | none => rfl
  | some o =>
    have := x l o n q
    rw [h] at this
    cases this
theorem But.upd {a : Addr} {H H1 : Hp} {o : HO} (x : But a H H1) : But a H (upd H1 a o) := fun b u n e => by rw [upd_ne n]; exact x b u n e
theorem same_upd {H : Hp} {p : Addr} {o : HO} (h : H p = none) : Same H (upd H p o) := fun b u e => by rw [upd_ne (ne_of_none e h)]; exact e
end Rd

/-! Further rules: enumerate and sorted of a tuple; one of two ways to walk. -/
namespace Ru
open PySem PyProof.Rows
open PySem.AutoSeq1 (wpAny_loadPart')
section
variable {prog : Program} {w : World} {A : Around} {E : Value → Shared → Prop} {s : Shared}
theorem nextOf_tup {it t : Addr} {i : Nat} {items : Array Value} {x : Value} {Q : Value → Shared → Prop} (hit : s.heap.IsTupleIter it t i) (ht : s.heap.IsTuple t items) (hx : items[i]? = some x)
    (hQ : ∀ h', h'.IsTupleIter it t (i + 1) → Heap.SameBut it s.heap h' → Q x { s with heap := h' }) : wpAny (model prog w) A (Builtin.SmallTypes.nextOf (.ref it)) Q E s := by
  obtain ⟨oi, hoi, hci, hdi⟩ := id hit
  obtain ⟨ot, hot, _, nt, hdt⟩ := ht
  unfold Builtin.SmallTypes.nextOf
  refine wpAny_bind (wpAny_callSpecial?_slot (name := Str.ofString "__next__") hit.typeIs F.slot_tuple_iterator_next (wpAny_call_entry F.slot_tuple_iterator_next hit.typeIs F.entry_tuple_iterator_next ?_ (F.args_tuple_iterator_next_1 _)))
  show wpAny _ _ (field (.ref it) 0 >>= _) _ _ s
  refine wpAny_bind (wpAny_field hoi hdi (x := .ref t) rfl ?_)
  show wpAny _ _ (if (Value.ref t == Value.none) = true then _ else _) _ _ s
  rw [if_neg (show ¬ ((Value.ref t == Value.none) = true) from Bool.false_ne_true)]
  show wpAny _ _ (field (.ref it) 1 >>= _) _ _ s
  refine wpAny_bind (wpAny_field hoi hdi (x := .int i 0) rfl ?_)
  show wpAny _ _ (seqItems? (.ref t) >>= _) _ _ s
  refine wpAny_bind (wpAny_seqItems hot hdt ?_)
  simp only [Int.toNat_natCast, hx]
  refine wpAny_bind (wpAny_setField hoi hdi (by simp) (wpAny_pure ⟨x, rfl, wpAny_pure (hQ _ ?_ (Heap.SameBut.update ..))⟩))
  exact ⟨_, Heap.get?_update_self _ hoi (Obj.isFreed_of_fields (Obj.data_mapFields hdi _)), (Obj.cls_mapFields ..).trans hci, by rw [Obj.data_mapFields hdi]; simp [rawInt]⟩
theorem nextOf_tup_end {it t : Addr} {i : Nat} {items : Array Value} {Q : Value → Shared → Prop} (hh : A.handled = none) (hit : s.heap.IsTupleIter it t i) (ht : s.heap.IsTuple t items) (hx : items[i]? = none)
    (hE : ∀ h' e, Heap.ExtBut it s.heap h' → (∃ o, h'.get? e = some o ∧ o.cls = .type "StopIteration") → E (.ref e) { s with heap := h' }) : wpAny (model prog w) A (Builtin.SmallTypes.nextOf (.ref it)) Q E s := by
  obtain ⟨oi, hoi, hci, hdi⟩ := id hit
  obtain ⟨ot, hot, _, nt, hdt⟩ := ht
  unfold Builtin.SmallTypes.nextOf
  refine wpAny_bind (wpAny_callSpecial?_slot (name := Str.ofString "__next__") hit.typeIs F.slot_tuple_iterator_next (wpAny_call_entry F.slot_tuple_iterator_next hit.typeIs F.entry_tuple_iterator_next ?_ (F.args_tuple_iterator_next_1 _)))
  show wpAny _ _ (field (.ref it) 0 >>= _) _ _ s
  refine wpAny_bind (wpAny_field hoi hdi (x := .ref t) rfl ?_)
  show wpAny _ _ (if (Value.ref t == Value.none) = true then _ else _) _ _ s
  rw [if_neg (show ¬ ((Value.ref t == Value.none) = true) from Bool.false_ne_true)]
  show wpAny _ _ (field (.ref it) 1 >>= _) _ _ s
  refine wpAny_bind (wpAny_field hoi hdi (x := .int i 0) rfl ?_)
  show wpAny _ _ (seqItems? (.ref t) >>= _) _ _ s
  refine wpAny_bind (wpAny_seqItems hot hdt ?_)
  simp only [Int.toNat_natCast, hx]
  refine wpAny_bind (wpAny_rule (wpAny_bind (wpAny_setField hoi hdi (by simp) ?_)))
  show wpAny _ _ (newExc (.type "StopIteration") [] >>= _) _ _ _
  refine wpAny_bind ?_
  simp only [newExc, newTuple]
  refine wpAny_bind (wpAny_newObj_type ?_ (by size_fits))
  refine wpAny_bind (m := firstArgMember _ _) (wpAny_of_eq (a := Value.none) (by first | rfl | (simp only [firstArgMember]; rfl)) ?_)
  refine wpAny_newObj_type ?_ (by size_fits)
  simp only [raiseNew]
  refine wpAny_bind (wpAny_handled ?_)
  first | rw [show A.in1.handled = none from hh] | rw [hh]
  refine wpAny_bind (wpAny_pure (wpAny_throw ?_))
  exact hE _ _ (((Heap.SameBut.update ..).extBut.push _).push _) ⟨_, Heap.get?_push_size _ rfl, rfl⟩
end
theorem draws_tup {prog : Program} {w : World} {A : Around} (hh : A.handled = none) (it t : Addr) (hne : t ≠ it) (items : Array Value) :
    Draws prog w A it [it, t] items.size (fun i v => items[i]? = some v) (fun i h => h.IsTupleIter it t i ∧ h.IsTuple t items) where
  live := fun _ _ st => let ⟨o, ho, _⟩ := st.1; ⟨o, ho⟩
  frame := fun _ _ _ st hk => ⟨let ⟨o, ho, r⟩ := st.1; ⟨o, hk it (by simp) o ho, r⟩, let ⟨o, ho, r⟩ := st.2; ⟨o, hk t (by simp) o ho, r⟩⟩
  item := fun i s Q E hi st hQ => by
    refine nextOf_tup st.1 st.2 (x := items[i]) (by simp [hi]) fun h' k1 k2 => ?_
    exact hQ _ h' s.toks (by simp [hi]) ⟨k1, st.2.extBut k2.extBut hne⟩ k2
  done := fun s Q E st hE => nextOf_tup_end hh st.1 st.2 (by simp) hE
theorem meets_enum_tup (l : Addr) (items : Array Value) (n : Nat) (dct : Option Addr) (sl : Array (Option Value)) :
    Meets (Builtin.«enumerate.__new__» ⟨[.type "enumerate", .ref l], []⟩) (fun _ R s => s.heap.get? l = some { cls := .type "tuple", dict := dct, data := .seq items n, slots := sl } ∧
      R (.ok (.ret (.ref (s.heap.push { cls := .type "tuple_iterator", data := .fields #[.ref l, .int 0 0] }).objs.size)))
        { s with heap := (s.heap.push { cls := .type "tuple_iterator", data := .fields #[.ref l, .int 0 0] }).push { cls := .type "enumerate", data := .fields #[.none, .bool false, .ref s.heap.objs.size, rawInt 0, .none, .none] } }) :=
  .of_wp fun prog w A R s h => by
    obtain ⟨hp, g, d, tk, os⟩ := s
    obtain ⟨hl, h⟩ := h
    have hsub := sub_enumerate
    have hL : Heap.IsTuple (Shared.heap ⟨hp, g, d, tk, os⟩) l items := ⟨_, hl, rfl, n, rfl⟩
    wp_walk using wpAny_loadPart' hl
    refine wpAny_stack_any fun st => wpAny_pure ?_
    split
    · rename_i c _ _ _ _ _
      cases (c == Value.type "enumerate")
      · wp_walk using wpAny_loadPart' hl, wpAny_pyIter_tuple hL
        exact ⟨_, rfl, h⟩
      · wp_walk using wpAny_loadPart' hl, wpAny_pyIter_tuple hL
        exact ⟨_, rfl, h⟩
    · wp_walk using wpAny_loadPart' hl, wpAny_pyIter_tuple hL
      exact ⟨_, rfl, h⟩
section
variable {prog : Program} {w : World} {A : Around} {E : Value → Shared → Prop} {s : Shared}
theorem call_enum_tup {l : Addr} {items : Array Value} {Q : Value → Shared → Prop} (hL : s.heap.IsTuple l items)
    (h : ∀ h', IsEnum h' (s.heap.objs.size + 1) s.heap.objs.size 0 .none → h'.IsTupleIter s.heap.objs.size l 0 → h'.objs.size = s.heap.objs.size + 2 → (∀ b o, s.heap.get? b = some o → h'.get? b = some o) → Q (.ref (s.heap.objs.size + 1)) { s with heap := h' }) :
    wpAny (model prog w) A (call (.type "enumerate") [.ref l]) Q E s := by
  obtain ⟨⟨c, dct, dt, sl⟩, hl, hc, n, hd⟩ := hL
  replace hc : c = .type "tuple" := hc
  replace hd : dt = .seq items n := hd
  subst hc hd
  refine callType_new F.called_enumerate (by decide) (F.typeCall_enumerate_1 _) (F.newCall_enumerate_1 _) (fun obj => F.args_object_init_2 obj _) F.entry_enumerate_new (meets_enum_tup l items n dct sl) ⟨hl, ?_⟩
  have hz : (s.heap.push { cls := .type "tuple_iterator", data := .fields #[.ref l, .int 0 0] }).objs.size = s.heap.objs.size + 1 := Heap.size_push ..
  show _ ∧ _
  rw [hz]
  have he : IsEnum ((s.heap.push { cls := .type "tuple_iterator", data := .fields #[.ref l, .int 0 0] }).push { cls := .type "enumerate", data := .fields #[.none, .bool false, .ref s.heap.objs.size, rawInt 0, .none, .none] }) (s.heap.objs.size + 1) s.heap.objs.size 0 .none := by
    have q := Heap.get?_push_size (s.heap.push { cls := .type "tuple_iterator", data := .fields #[.ref l, .int 0 0] }) (o := { cls := .type "enumerate", data := .fields #[.none, .bool false, .ref s.heap.objs.size, rawInt 0, .none, .none] }) rfl
    rw [hz] at q
    exact q
  exact ⟨⟨_, he, rfl⟩, h _ he ⟨_, Heap.get?_push_of_some _ (Heap.get?_push_size _ rfl), rfl, rfl⟩ (by rw [Heap.size_push, hz]) fun b o x => Heap.get?_push_of_some _ (Heap.get?_push_of_some _ x)⟩
/-- a tuple is collected into a new list -/
theorem collect_tup {l : Addr} {vs : List Value} {Q : List Value → Shared → Prop} (hl : s.heap.IsTuple l vs.toArray) (hsz : vs.length ≤ sizeLine)
    (h : Q vs { s with heap := (s.heap.push (seqObj "list" #[] 0)).update s.heap.objs.size (Obj.mapSeq (· ++ vs.toArray)) }) : wpAny (model prog w) A (collect (.ref l)) Q E s := by
  obtain ⟨o, ho, hc, n, hd⟩ := id hl
  unfold collect
  refine wpAny_bind (wpAny_runValue (codeAny_builtin entry_proto_collect' ?_))
  show wpAny _ _ (do again (.builtin "list.__iadd__" ⟨[← newList [], .ref l], []⟩)) _ _ s
  refine wpAny_bind (wpAny_newList (wpAny_pure ⟨Code.quiet_builtin _ (by decide +kernel), codeAny_builtin entry_list_iadd' ?_⟩))
  show wpAny _ _ (Builtin.List.listExtendWith (.ref s.heap.objs.size) (.ref l) (.ref s.heap.objs.size)) _ _ { s with heap := s.heap.push (seqObj "list" #[] 0) }
  unfold Builtin.List.listExtendWith
  have ho' : (s.heap.push (seqObj "list" #[] 0)).get? l = some o := Heap.get?_push_of_some _ ho
  refine wpAny_bind (wpAny_typeOf (T := "tuple") ⟨o, ho', hc⟩ ?_)
  have ht : (Value.type "tuple" == Value.type "tuple") = true := by rfl
  rw [if_pos (by rw [ht]; simp)]
  refine wpAny_bind (listItems_at ho' hd ?_)
  refine wpAny_bind (listItems_at (xs := #[]) (n := 0) (Heap.get?_push_size _ rfl) rfl ?_)
  rw [if_neg (by simp)]
  refine wpAny_bind (listUpdate_at (xs := #[]) (n := 0) (Heap.get?_push_size _ rfl) rfl ?_ (Nat.zero_le _) (by show (#[] ++ vs.toArray).size ≤ sizeLine + 1; simp only [Array.size_append, List.size_toArray, List.length_nil]; omega))
  refine wpAny_pure ?_
  show wpAny (model prog w) A (do
      let o ← load s.heap.objs.size
      match o.data with
      | .seq xs _ => pure xs.toList
      | _ => unsupported "internal:collect") Q E { s with heap := (s.heap.push (seqObj "list" #[] 0)).update s.heap.objs.size (Obj.mapSeq (· ++ vs.toArray)) }
  refine wpAny_bind (wpAny_load (get?_update_seq (Heap.get?_push_size _ rfl) _) ?_)
  show wpAny _ _ (pure ((#[] : Array Value) ++ vs.toArray).toList) Q E _
  rw [show ((#[] : Array Value) ++ vs.toArray).toList = vs by simp]
  exact wpAny_pure h
end

section
variable {prog : Program} {w : World} {A : Around} {E : Value → Shared → Prop} {s : Shared}
open SrtO in
/-- sorted of a tuple: the new list stands at size + 1 -/
theorem sorted_tup {l : Addr} {vs : List Value} {ltv : Value → Value → Bool} {Q : Value → Shared → Prop} (O : Swo ltv) (hl : s.heap.IsTuple l vs.toArray) (hz : vs.length ≤ sizeLine)
    (hS : 2 ≤ vs.length → ∀ (g : Heap) (a : Addr), g.get? a = some (seqObj "list" vs.toArray 0) → (∀ b o, s.heap.get? b = some o → b ≠ a ∧ g.get? b = some o) → SortableO prog w A.in1.in1 { s with heap := g } a vs ltv)
    (h : ∀ out : List Value, Srtd ltv out → Stb ltv out vs → Q (.ref (s.heap.objs.size + 1)) { s with heap := sortedAll s.heap vs out.toArray }) : wpAny (model prog w) A (call (.builtin "sorted") [.ref l]) Q E s := by
  refine Calls.call_function_entry kind_sorted plain_sorted entry_sorted (args_sorted1 _) ?_
  unfold Builtin.«sorted»
  refine wpAny_bind (m := checkCount "sorted" 1 1 _) (wpAny_pure ?_)
  refine wpAny_bind (collect_tup hl hz ?_)
  refine wpAny_bind (wpAny_newList ?_ hz)
  have e1 : ((s.heap.push (seqObj "list" #[] 0)).update s.heap.objs.size (Obj.mapSeq (· ++ vs.toArray))).objs.size = s.heap.objs.size + 1 := by rw [Heap.size_update, size_push']
  have e2 : (((s.heap.push (seqObj "list" #[] 0)).update s.heap.objs.size (Obj.mapSeq (· ++ vs.toArray))).push (seqObj "list" vs.toArray 0)).get? (s.heap.objs.size + 1) = some (seqObj "list" vs.toArray 0) := by
    rw [← e1]
    exact Heap.get?_push_size _ rfl
  have e3 : ∀ b o, s.heap.get? b = some o → b ≠ s.heap.objs.size + 1 ∧ (((s.heap.push (seqObj "list" #[] 0)).update s.heap.objs.size (Obj.mapSeq (· ++ vs.toArray))).push (seqObj "list" vs.toArray 0)).get? b = some o := fun b o q => by
    have lt : b < s.heap.objs.size := Heap.lt_size q
    refine ⟨Nat.ne_of_lt (Nat.lt_succ_of_lt lt), Heap.get?_push_of_some _ ?_⟩
    rw [Heap.get?_update_ne _ _ _ _ (Nat.ne_of_lt lt)]
    exact Heap.get?_push_of_some _ q
  show wpAny _ _ _ _ _ { s with heap := ((s.heap.push (seqObj "list" #[] 0)).update s.heap.objs.size (Obj.mapSeq (· ++ vs.toArray))).push (seqObj "list" vs.toArray 0) }
  rw [e1]
  refine wpAny_bind (wpAny_holding (wpAny_call_entry slot_list_sort ⟨_, e2, rfl⟩ entry_list_sort (list_sort_ord O e2 hz (fun h2 => hS h2 _ _ e2 e3) fun out hs hb => ⟨_, rfl, ?_⟩) (args_list_sort _)))
  exact wpAny_pure ⟨_, rfl, h out hs hb⟩
end
end Ru
namespace Ru
open PySem PySem.Spec PyProof.Rows L2
/-- one of two ways to walk -/
theorem pi_or {X : Cx} {tg e : Expr} {t u : TI} (a : PI X tg e t) (b : PI X tg e u) : PI X tg e (fun σ H R => t σ H R ∨ u σ H R) := ⟨fun pins s σ H R I h => h.elim (a.run pins s σ H R I) (b.run pins s σ H R I)⟩
theorem callR_or {X : Cx} {f : Value} {r r' : List V → Hp → VK → Prop} (a : CallR X f r) (b : CallR X f r') : CallR X f (fun vs H Q => r vs H Q ∨ r' vs H Q) := fun pins s σ H vs us Q I rv h => h.elim (a pins s σ H vs us Q I rv) (b pins s σ H vs us Q I rv)
/-- sorted(t), t a tuple of ints -/
def rSortedTup (K : PySem.W.Frag) : List V → Hp → VK → Prop := fun vs H Q => ∃ (a : Addr) (ns : List Int), vs = [V.ref a] ∧ SqT K H a (ns.map V.int) ∧
  ∀ (ms : List Int) (p : Addr), ms.Perm ns → ms.Pairwise (· ≤ ·) → H p = none → Q (.ref p) (upd H p (.lst (ms.map V.int)))
theorem cr_sortedTup {X : Cx} : CallR X (.builtin "sorted") (rSortedTup X.K) := by
  intro pins s σ H vs us Q I r h
  obtain ⟨a, ns, rfl, hs, q⟩ := h
  obtain ⟨its, rv, hl, hz⟩ := I.tuple hs
  rw [Vals.ref1 r]
  have hi := rv.ints
  refine sorted_tup SrtO.swo_int (show s.heap.IsTuple a its.toArray from hl) (by rw [← rv.length]; exact hz) (fun h2 g b _ _ => SrtO.ints_sortable hi h2) fun out h1 h2 => ?_
  obtain ⟨k1, k2, k3⟩ := SrtO.ints_out hi h1 h2
  obtain ⟨ep, he⟩ := PyProof.Rows.sortedAll_at s.heap its out.toArray
  have ln : ((out.map SrtO.iv).map V.int).length ≤ sizeLine := by
    rw [List.length_map, k2.length_eq]
    rw [List.length_map] at hz
    exact hz
  exact ⟨.ref _, upd H (s.heap.objs.size + 1) (.lst ((out.map SrtO.iv).map V.int)), I.laid (t' := s.toks) (fun _ _ => PyProof.Rows.sortedAll_old) (Nat.le_succ _) ⟨ln, out, ep, vals_of_ints k1, he⟩, rfl, q _ _ k2 k3 (I.hok.fresh (Nat.le_succ _))⟩
/-- enumerate of a tuple: each item in a new pair -/
def IteT (K : PySem.W.Frag) (a : Addr) : It :=
  ⟨fun i H => ∃ (xs : List V) (x : V), SqT K H a xs ∧ xs[i]? = some x, fun i H v H' => ∃ T x, v = .ref T ∧ H T = none ∧ H' = upd H T (.tup [.int (i : Nat), x]) ∧ ∀ xs, SqT K H a xs → xs[i]? = some x, fun i H => ∃ xs : List V, SqT K H a xs ∧ xs.length = i⟩
theorem turn_enumT {P : Program} {w : World} {K : PySem.W.Frag} {elts : List Expr} {kk : Nat} {tpos : Pos} (a e it : Addr) :
    Turn P w K (.Tuple elts kk tpos) (IteT K a) [e, it] e (fun i h => (∃ old, IsEnum h e it ((i : Nat) : Int) old) ∧ h.IsTupleIter it a i ∧ e ≠ it) where
  mem := by simp
  obj := fun i h st b hb => by
    obtain ⟨⟨old, he⟩, ⟨o, ho, hc, hd⟩, _⟩ := st
    have z : b = e ∨ b = it := by simpa using hb
    rcases z with z | z
    · rw [z]; exact ⟨_, he, fun v q => nomatch q⟩
    · rw [z]; exact ⟨o, ho, fun v q => by rw [hd] at q; cases q⟩
  keep := fun i h h' st k => let ⟨⟨old, he⟩, ⟨o, ho, r⟩, hne⟩ := st; ⟨⟨old, k e (by simp) _ he⟩, ⟨o, k it (by simp) o ho, r⟩, hne⟩
  item := by
    intro X hP hw hK hc i pins s σ H E I hf st hg
    subst hP hw hK
    obtain ⟨⟨old, he⟩, hit, hne⟩ := st
    obtain ⟨xs, x, hq, hx⟩ := hg
    obtain ⟨its, rv, p, hz⟩ := I.tuple hq
    obtain ⟨u, hu, ru⟩ := rv.get hx
    have hel : e < s.heap.objs.size := Heap.lt_size he
    have hil : it < s.heap.objs.size := by obtain ⟨_, q, _⟩ := hit; exact Heap.lt_size q
    have hat : a ≠ it := fun z => by
      obtain ⟨o, q1, q2, _⟩ := hit
      obtain ⟨o', q3, q4, _⟩ := (show s.heap.IsTuple a its.toArray from p)
      rw [← z, q3] at q1
      cases q1
      rw [q4] at q2
      exact absurd (Value.type.inj q2) (by decide)
    have hea : e ≠ a := fun z => by
      obtain ⟨o', q3, q4, _⟩ := (show s.heap.IsTuple a its.toArray from p)
      rw [← z, he] at q3
      cases q3
      exact absurd (Value.type.inj q4) (by decide)
    have hlt : i < its.toArray.size := by
      have := (List.getElem?_eq_some_iff.mp hu).1
      simpa using this
    refine wpAny_pyNext_enum_itemD (draws_tup (prog := X.prog) (w := X.w) (A := X.A.in1) (I.ok.hd hc) it a hat its.toArray) he ⟨hit, p⟩ hlt hne (by simp [hne, hea]) fun y h' tk hy ho st' hT hsz hk => ?_
    have hy' : y = u := by
      have z : its.toArray[i]? = some u := by simpa using hu
      rw [z] at hy
      exact (Option.some.inj hy).symm
    subst hy'
    refine ⟨_, rfl, wpAny_letOwnedTupleGo_enum (s := { s with heap := h', toks := tk + 1 }) ho fun h'' he' sb => ?_⟩
    have hT2 : h''.get? s.heap.objs.size = some { cls := .type "tuple", data := .seq #[.int i tk, y] } := (sb.2 _ (Nat.ne_of_gt hel)).trans hT
    have new : ObjOk X.prog X.w (upd H s.heap.objs.size (.tup [.int (i : Nat), x])) h'' s.heap.objs.size (.tup [.int (i : Nat), x]) :=
      ⟨by show 2 ≤ sizeLine; decide, [.int i tk, y], .cons ⟨_, rfl⟩ (.cons ru .nil), ⟨_, hT2, rfl, _, rfl⟩⟩
    have I1 : Inv X pins σ (upd H s.heap.objs.size (.tup [.int (i : Nat), x])) { s with heap := h'', toks := tk + 1 } :=
      I.turnedNew (ch := [e, it]) (fun b ob hb q => (sb.2 b (fun z => hb (by simp [z]))).trans (hk b ob (fun z => hb (by simp [z])) (fun z => hb (by simp [z])) q)) hf (Nat.le_refl _) new
    refine ⟨.ref s.heap.objs.size, _, I1, rfl, ⟨_, x, rfl, I.hok.fresh (Nat.le_refl _), rfl, fun ys hy => by rw [I.tuple_inj hy hq]; exact hx⟩, ⟨⟨y, ?_⟩, ?_, hne⟩, fun b hb => ?_⟩
    · have e1 : ((i + 1 : Nat) : Int) = (i : Int) + 1 := by omega
      rw [e1]; exact he'
    · obtain ⟨o, q, r⟩ := st'.1
      exact ⟨o, (sb.2 it (Ne.symm hne)).trans q, r⟩
    · have hb' : b < s.heap.objs.size := by
        have z : b = e ∨ b = it := by simpa using hb
        rcases z with z | z
        · rw [z]; exact hel
        · rw [z]; exact hil
      rw [upd_ne (Nat.ne_of_lt hb')]
      exact (hf b hb).1
  done := by
    intro X hP hw hK hc i pins s σ H E I hf st hg
    subst hP hw hK
    obtain ⟨⟨old, he⟩, hit, hne⟩ := st
    obtain ⟨xs, hq, hx⟩ := hg
    obtain ⟨its, rv, p, hz⟩ := I.tuple hq
    obtain ⟨f0, f1, f2, f3, f4, f5⟩ := hf it (by simp)
    have hl := rv.length
    have hat : a ≠ it := fun z => by
      obtain ⟨o, q1, q2, _⟩ := hit
      obtain ⟨o', q3, q4, _⟩ := (show s.heap.IsTuple a its.toArray from p)
      rw [← z, q3] at q1
      cases q1
      rw [q4] at q2
      exact absurd (Value.type.inj q2) (by decide)
    have hn : i = its.toArray.size := by simp; omega
    refine wpAny_pyNext_enum_endD (draws_tup (prog := X.prog) (w := X.w) (A := X.A.in1) (I.ok.hd hc) it a hat its.toArray) he (by rw [hn] at hit; exact ⟨hit, p⟩) fun h' eb => ⟨rfl, ?_⟩
    obtain ⟨g0, g1, g2, g3, g4, g5⟩ := hf e (by simp)
    obtain ⟨f0, f1, f2, f3, f4, f5⟩ := hf it (by simp)
    exact I.turned (t' := s.toks) (fun b o hb q => eb b o hb q) f0 f1 f3 f4 f5
  self := fun A i s Q E st h => let ⟨⟨_, he⟩, _⟩ := st; wpAny_pyIter_enum he h
def iEnumT (K : PySem.W.Frag) (ta : TA) : TI := fun σ H R => ta σ H fun vs H1 => ∃ a xs, vs = [.ref a] ∧ SqT K H1 a xs ∧ R (IteT K a) H1
theorem pi_enumT {X : Cx} {e : Expr} {ta : TA} {p pos tpos : Pos} {elts : List Expr} {kk : Nat} (hg : Gl X "enumerate") (hm : X.mg "enumerate" = none) (ha : PA X [e] ta) (hs : starEach [e] X.env = [(false, eval e X.env)] := by rfl) :
    PI X (.Tuple elts kk tpos) (.Call (.Name "enumerate" p) [e] [] pos) (iEnumT X.K ta) := by
  refine ⟨fun pins s σ H R I h => ?_⟩
  refine Call_ (ld_blt I hg hm boot_enumerate (PyProof.Rows.callWith_type1 (thn (ha.run pos pins s σ H _ I h) fun us s1 ⟨vs, H1, I1, r1, q1⟩ => ?_) hs rfl))
  obtain ⟨a, xs, ex, hq, q⟩ := q1
  subst ex
  cases r1 with
  | cons r rr =>
    cases rr
    cases r
    obtain ⟨its, rv, p', hz⟩ := I1.tuple hq
    refine call_enum_tup (show s1.heap.IsTuple a its.toArray from p') fun h' he hit hsz hk => wpAny_pyIter_enum he ?_
    have I2 : Inv X pins σ H1 { s1 with heap := h' } := I1.kept (t' := s1.toks) hk
    refine ⟨s1.heap.objs.size + 1, [s1.heap.objs.size + 1, s1.heap.objs.size], _, _, H1, rfl, I2, turn_enumT a (s1.heap.objs.size + 1) s1.heap.objs.size, ⟨⟨.none, he⟩, hit, Nat.succ_ne_self _⟩, fun b hb => ?_, q⟩
    have z : b = s1.heap.objs.size + 1 ∨ b = s1.heap.objs.size := by simpa using hb
    have hle : s1.heap.objs.size ≤ b := by
      rcases z with z | z
      · rw [z]; exact Nat.le_add_right _ _
      · rw [z]; exact Nat.le_refl _
    exact I1.fpOk hle (I1.hok.fresh hle)
/-- a loop over enumerate of a list that stands still -/
theorem for_enum {K : PySem.W.Frag} {a : Addr} {xs : List V} {g : TG} {tb : TS} {D : Ends} {σ : L2.St} {H : Hp} (Pv : Nat → L2.St → Hp → Prop) (h0 : Pv 0 σ H) (hl : ∀ i σ H, i ≤ xs.length → Pv i σ H → SqL K H a xs)
    (hs : ∀ i x σ H (T : Addr), xs[i]? = some x → Pv i σ H → H T = none → g (.ref T) σ (upd H T (.tup [.int (i : Nat), x])) fun σ2 H2 => tb { D with nx := Pv (i + 1), ct := Pv (i + 1), bk := D.nx } σ2 H2) (hd : ∀ σ H, Pv xs.length σ H → D.nx σ H) :
    ∃ W : Nat → Nat → L2.St → Hp → Prop, (∃ m, W 0 m σ H) ∧ ∀ i m σ H, W i m σ H →
      ((Ite K a).stop i H ∧ D.nx σ H) ∨ ((Ite K a).go i H ∧ ∃ N : L2.St → Hp → Prop, (∀ σ' H', N σ' H' → ∃ m', m' < m ∧ W (i + 1) m' σ' H') ∧ ∀ x H', (Ite K a).yld i H x H' → g x σ H' fun σ2 H2 => tb { D with nx := N, ct := N, bk := D.nx } σ2 H2) := by
  refine ⟨fun i m σ H => m = xs.length - i ∧ i ≤ xs.length ∧ Pv i σ H, ⟨xs.length, by simp, Nat.zero_le _, h0⟩, ?_⟩
  rintro i m σ H ⟨rfl, hi, p⟩
  have q := hl i σ H hi p
  by_cases lt : i < xs.length
  · refine .inr ⟨⟨xs, xs[i], q, by simp [lt]⟩, Pv (i + 1), fun σ' H' p' => ⟨xs.length - (i + 1), by omega, rfl, lt, p'⟩, fun x H' y => ?_⟩
    obtain ⟨T, z, rfl, hT, rfl, y⟩ := y
    exact hs i z σ H T (y xs q) p hT
  · have e : i = xs.length := by omega
    subst e
    exact .inl ⟨⟨xs, q, Nat.le_refl _⟩, hd σ H p⟩
theorem for_enumT {K : PySem.W.Frag} {a : Addr} {xs : List V} {g : TG} {tb : TS} {D : Ends} {σ : L2.St} {H : Hp} (Pv : Nat → L2.St → Hp → Prop) (h0 : Pv 0 σ H) (hl : ∀ i σ H, i ≤ xs.length → Pv i σ H → SqT K H a xs)
    (hs : ∀ i x σ H (T : Addr), xs[i]? = some x → Pv i σ H → H T = none → g (.ref T) σ (upd H T (.tup [.int (i : Nat), x])) fun σ2 H2 => tb { D with nx := Pv (i + 1), ct := Pv (i + 1), bk := D.nx } σ2 H2) (hd : ∀ σ H, Pv xs.length σ H → D.nx σ H) :
    ∃ W : Nat → Nat → L2.St → Hp → Prop, (∃ m, W 0 m σ H) ∧ ∀ i m σ H, W i m σ H →
      ((IteT K a).stop i H ∧ D.nx σ H) ∨ ((IteT K a).go i H ∧ ∃ N : L2.St → Hp → Prop, (∀ σ' H', N σ' H' → ∃ m', m' < m ∧ W (i + 1) m' σ' H') ∧ ∀ x H', (IteT K a).yld i H x H' → g x σ H' fun σ2 H2 => tb { D with nx := N, ct := N, bk := D.nx } σ2 H2) := by
  refine ⟨fun i m σ H => m = xs.length - i ∧ i ≤ xs.length ∧ Pv i σ H, ⟨xs.length, by simp, Nat.zero_le _, h0⟩, ?_⟩
  rintro i m σ H ⟨rfl, hi, p⟩
  have q := hl i σ H hi p
  by_cases lt : i < xs.length
  · refine .inr ⟨⟨xs, xs[i], q, by simp [lt]⟩, Pv (i + 1), fun σ' H' p' => ⟨xs.length - (i + 1), by omega, rfl, lt, p'⟩, fun x H' y => ?_⟩
    obtain ⟨T, z, rfl, hT, rfl, y⟩ := y
    exact hs i z σ H T (y xs q) p hT
  · have e : i = xs.length := by omega
    subst e
    exact .inl ⟨⟨xs, q, rfl⟩, hd σ H p⟩
/-! ### a row: a list or a tuple -/
def SqR (K : PySem.W.Frag) (H : Hp) (a : Addr) (xs : List V) : Prop := SqL K H a xs ∨ SqT K H a xs
theorem same_tup {K : PySem.W.Frag} {H H' : Hp} {a : Addr} {xs : List V} (e : Same H H') (h : SqT K H a xs) : SqT K H' a xs := by
  rcases h with (h | ⟨o, h⟩) | h
  · exact .inl (.inl (e _ _ h))
  · exact .inl (.inr ⟨o, e _ _ h⟩)
  · exact .inr h
theorem SqR.same {K : PySem.W.Frag} {H H' : Hp} {a : Addr} {xs : List V} (e : Same H H') (h : SqR K H a xs) : SqR K H' a xs := h.imp e.seq (same_tup e)
/-- a loop over a row that stands still -/
theorem for_row {K : PySem.W.Frag} {a : Addr} {xs : List V} {g : TG} {tb : TS} {D : Ends} {σ : L2.St} {H : Hp} {ta : TE} (ea : ∀ Q, Q (.ref a) H → ta σ H Q) (Pv : Nat → L2.St → Hp → Prop) {Hb : Hp} (hr : SqR K Hb a xs) (h0 : Pv 0 σ H) (hl : ∀ i σ H', i ≤ xs.length → Pv i σ H' → Same Hb H')
    (hs : ∀ i x σ H, xs[i]? = some x → Pv i σ H → g x σ H fun σ2 H2 => tb { D with nx := Pv (i + 1), ct := Pv (i + 1), bk := D.nx } σ2 H2) (hd : ∀ σ H, Pv xs.length σ H → D.nx σ H) :
    tFor (fun σ H R => iList K ta σ H R ∨ iTup K ta σ H R) g tb D σ H := by
  rcases hr with hr | hr
  · exact .inl (ea _ ⟨a, rfl, ⟨_, (hl 0 σ H (Nat.zero_le _) h0).seq hr⟩, for_list (K := K) (a := a) (xs := xs) Pv h0 (fun i σ H' hi p => (hl i σ H' hi p).seq hr) hs hd⟩)
  · exact .inr (ea _ ⟨a, rfl, ⟨_, same_tup (hl 0 σ H (Nat.zero_le _) h0) hr⟩, for_tup (K := K) (a := a) (xs := xs) Pv h0 (fun i σ H' hi p => same_tup (hl i σ H' hi p) hr) hs hd⟩)
/-- .. over enumerate of a row -/
theorem for_enumR {K : PySem.W.Frag} {a : Addr} {xs : List V} {g : TG} {tb : TS} {D : Ends} {σ : L2.St} {H : Hp} {ta : TA} (ea : ∀ Q, Q [.ref a] H → ta σ H Q) (Pv : Nat → L2.St → Hp → Prop) {Hb : Hp} (hr : SqR K Hb a xs) (h0 : Pv 0 σ H) (hl : ∀ i σ H', i ≤ xs.length → Pv i σ H' → Same Hb H')
    (hs : ∀ i x σ H (T : Addr), xs[i]? = some x → Pv i σ H → H T = none → g (.ref T) σ (upd H T (.tup [.int (i : Nat), x])) fun σ2 H2 => tb { D with nx := Pv (i + 1), ct := Pv (i + 1), bk := D.nx } σ2 H2) (hd : ∀ σ H, Pv xs.length σ H → D.nx σ H) :
    tFor (fun σ H R => iEnum K ta σ H R ∨ iEnumT K ta σ H R) g tb D σ H := by
  rcases hr with hr | hr
  · exact .inl (ea _ ⟨a, _, rfl, (hl 0 σ H (Nat.zero_le _) h0).seq hr, for_enum (K := K) (a := a) (xs := xs) Pv h0 (fun i σ H' hi p => (hl i σ H' hi p).seq hr) hs hd⟩)
  · exact .inr (ea _ ⟨a, _, rfl, same_tup (hl 0 σ H (Nat.zero_le _) h0) hr, for_enumT (K := K) (a := a) (xs := xs) Pv h0 (fun i σ H' hi p => same_tup (hl i σ H' hi p) hr) hs hd⟩)
theorem ty_L {K : PySem.W.Frag} {H : Hp} {a : Addr} {xs : List V} (h : SqL K H a xs) : TyX K H (.ref a) (.type "list") := by
  rcases h with (h | ⟨o, h⟩) | ⟨o, its, n, h1, h2, _⟩
  · exact .base (.lst h)
  · exact .base (.frz h)
  · exact .kList h1 h2
theorem ty_T {K : PySem.W.Frag} {H : Hp} {a : Addr} {xs : List V} (h : SqT K H a xs) : TyX K H (.ref a) (.type "tuple") := by
  rcases h with (h | ⟨o, h⟩) | ⟨o, its, n, h1, h2, _⟩
  · exact .base (.tup h)
  · exact .fTuple h
  · exact .kTuple h1 h2
/-- isinstance(row, (list, tuple)) -/
theorem isRow {K : PySem.W.Frag} {H : Hp} {a tp : Addr} {xs : List V} {Q : VK} (h : SqR K H a xs) (ht : H tp = some (.tup [.ty "list", .ty "tuple"])) (q : Q (.bl true) H) : rIsiT K [.ref a, .ref tp] H Q := by
  have pc : Paired ClsV [.ty "list", .ty "tuple"] [.type "list", .type "tuple"] := .cons (.ty _) (.cons (.ty _) .nil)
  rcases h with h | h
  · exact ⟨_, tp, _, _, _, true, rfl, ht, pc, ty_L h, kitAny_cons (kit_ty (r := true) (by decide +kernel)) (fun z => nomatch z) (fun _ => rfl), q⟩
  · exact ⟨_, tp, _, _, _, true, rfl, ht, pc, ty_T h, kitAny_cons (kit_ty (r := false) (by decide +kernel)) (fun _ => kitAny_cons (kit_ty (r := true) (by decide +kernel)) (fun z => nomatch z) (fun _ => rfl)) (fun z => nomatch z), q⟩
theorem sortedR {K : PySem.W.Frag} {H : Hp} {a : Addr} {ns : List Int} {Q : VK} (hp : SqR K H a (ns.map V.int)) (h : ∀ (ms : List Int) (p : Addr) (G : Hp), ms.Perm ns → ms.Pairwise (· ≤ ·) → G p = some (.lst (ms.map V.int)) → Same H G → H p = none → Q (.ref p) G) : rSortedI K [.ref a] H Q ∨ rSortedTup K [.ref a] H Q :=
  hp.imp (fun q => Rd.sortedI q h) fun q => ⟨a, ns, rfl, q, fun ms p h1 h2 h3 => h ms p _ h1 h2 upd_same (fun b u e => by rw [upd_ne (ne_of_none e h3)]; exact e) h3⟩
end Ru

/-! Readings of texts, comprehensions and own objects by their heads; letters. -/
namespace Rd
open PySem PySem.Spec PyProof.Rows L2
variable {X : Cx} {D : Ends} {σ : L2.St} {H : Hp} {K : PySem.W.Frag}
/-! ### texts -/
def nAddS : R2 := fun x y H Q => ∃ i j, x = .str i ∧ y = .str j ∧ i.length + j.length ≤ sizeLine ∧ Q (.str (i ++ j)) H
theorem o_addS : OpR X (binaryOp .Add) nAddS := op_add_str
theorem addS {i j : Str} {Q : VK} (hz : i.length + j.length ≤ sizeLine) (h : Q (.str (i ++ j)) H) : nAddS (.str i) (.str j) H Q := ⟨i, j, rfl, rfl, hz, h⟩
def nInC : R2 := fun x y H Q => ∃ (c : Nat) (z : Str), x = .str ⟨#[c]⟩ ∧ y = .str z ∧ Q (.bl (decide (c ∈ z.cps.toList))) H
theorem o_inC : OpR X (compareOp .In) nInC := op_in_sign
theorem inC {c : Nat} {z : Str} {Q : VK} (h : Q (.bl (decide (c ∈ z.cps.toList))) H) : nInC (.str ⟨#[c]⟩) (.str z) H Q := ⟨c, z, rfl, rfl, h⟩
theorem inCT {c : Nat} {z : Str} {Q : VK} (e : c ∈ z.cps.toList) (h : Q (.bl true) H) : nInC (.str ⟨#[c]⟩) (.str z) H Q := inC (by rw [decide_eq_true e]; exact h)
theorem nodup_take {α : Type} {l : List α} {i : Nat} {x : α} (nd : l.Nodup) (h : l[i]? = some x) : x ∉ l.take i := by
  intro m
  obtain ⟨j, hj, e⟩ := List.getElem_of_mem m
  rw [List.length_take] at hj
  have e2 : l[j]? = some x := by rw [← e, List.getElem_take]; exact List.getElem?_eq_getElem (by omega)
  have := (List.getElem?_inj (by omega) nd).mp (e2.trans h.symm)
  omega
theorem ixS {z : Str} {i : Int} {c : Nat} {Q : VK} (hz : z.length ≤ sizeLine) (e : atI z.cps.toList i = some c) (h : Q (.str ⟨#[c]⟩) H) : rIxS (.str z) (.int i) H Q := ⟨z, i, c, rfl, rfl, hz, e, h⟩
theorem inStrs {neg : Bool} {z : Str} {p : Addr} {ws : List Str} {Q : VK} (hp : SqL K H p (ws.map V.str) ∨ SqT K H p (ws.map V.str)) (h : Q (.bl (if neg then !decide (z ∈ ws) else decide (z ∈ ws))) H) : rIn K neg (.str z) (.ref p) H Q := by
  have e : inV (.str z) (ws.map V.str) = decide (z ∈ ws) := by
    unfold inV
    rw [List.any_map, Bool.eq_iff_iff, List.any_eq_true, decide_eq_true_iff]
    constructor
    · rintro ⟨y, hy, q⟩
      have : y = z := by simpa [eqV] using q
      exact this ▸ hy
    · intro hz
      exact ⟨z, hz, by simp [eqV]⟩
  exact Rd.inS hp rfl (flat_strs ws) (by rw [e]; exact h)
theorem inStrsY {z : Str} {p : Addr} {ws : List Str} {Q : VK} (hp : SqL K H p (ws.map V.str) ∨ SqT K H p (ws.map V.str)) (h : Q (.bl (decide (z ∈ ws))) H) : rIn K false (.str z) (.ref p) H Q := inStrs hp h
theorem inStrsN {z : Str} {p : Addr} {ws : List Str} {Q : VK} (hp : SqL K H p (ws.map V.str) ∨ SqT K H p (ws.map V.str)) (h : Q (.bl (!decide (z ∈ ws))) H) : rIn K true (.str z) (.ref p) H Q := inStrs hp h
theorem inInts {neg : Bool} {z : Int} {p : Addr} {ws : List Int} {Q : VK} (hp : SqL K H p (ws.map V.int) ∨ SqT K H p (ws.map V.int)) (h : Q (.bl (if neg then !decide (z ∈ ws) else decide (z ∈ ws))) H) : rIn K neg (.int z) (.ref p) H Q := by
  have e : inV (.int z) (ws.map V.int) = decide (z ∈ ws) := by
    unfold inV
    rw [List.any_map, Bool.eq_iff_iff, List.any_eq_true, decide_eq_true_iff]
    constructor
    · rintro ⟨y, hy, q⟩
      have : y = z := by simpa [eqV] using q
      exact this ▸ hy
    · intro hz
      exact ⟨z, hz, by simp [eqV]⟩
  exact Rd.inS hp rfl (by rw [List.all_map]; exact List.all_eq_true.mpr fun _ _ => rfl) (by rw [e]; exact h)
theorem inIntsY {z : Int} {p : Addr} {ws : List Int} {Q : VK} (hp : SqL K H p (ws.map V.int) ∨ SqT K H p (ws.map V.int)) (h : Q (.bl (decide (z ∈ ws))) H) : rIn K false (.int z) (.ref p) H Q := inInts hp h
theorem inIntsN {z : Int} {p : Addr} {ws : List Int} {Q : VK} (hp : SqL K H p (ws.map V.int) ∨ SqT K H p (ws.map V.int)) (h : Q (.bl (!decide (z ∈ ws))) H) : rIn K true (.int z) (.ref p) H Q := inInts hp h
theorem map_str {ns : List Str} {i : Nat} (h : i < ns.length) : (ns.map V.str)[i]? = some (.str ns[i]) := by simp [h]
theorem map_strG {ns : List Str} {i : Nat} {x : V} (h : (ns.map V.str)[i]? = some x) : ∃ n, ns[i]? = some n ∧ x = .str n := by
  rw [List.getElem?_map] at h
  cases e : ns[i]? with
  | none => rw [e] at h; cases h
  | some z => rw [e] at h; exact ⟨z, rfl, (Option.some.inj h).symm⟩
theorem map_refG {ns : List Addr} {i : Nat} {x : V} (h : (ns.map V.ref)[i]? = some x) : ∃ n, ns[i]? = some n ∧ x = .ref n := by
  rw [List.getElem?_map] at h
  cases e : ns[i]? with
  | none => rw [e] at h; cases h
  | some z => rw [e] at h; exact ⟨z, rfl, (Option.some.inj h).symm⟩
theorem map_ref {ns : List Addr} {i : Nat} (h : i < ns.length) : (ns.map V.ref)[i]? = some (.ref ns[i]) := by simp [h]
theorem ins {l : Addr} {xs : List V} {i : Int} {y : V} {Q : VK} (hp : H l = some (.lst xs)) (hz : xs.length < sizeLine) (h0 : 0 ≤ i) (h1 : i < 2 ^ 63) (h : ∀ G : Hp, G l = some (.lst (xs.take i.toNat ++ [y] ++ xs.drop i.toNat)) → (∀ b, b ≠ l → G b = H b) → Q .non G) :
    ∃ (l' : Addr) (xs' : List V) (i' : Int) (y' : V), V.ref l = .ref l' ∧ [V.int i, y] = [.int i', y'] ∧ H l' = some (.lst xs') ∧ xs'.length < sizeLine ∧ 0 ≤ i' ∧ i' < 2 ^ 63 ∧ Q .non (upd H l' (.lst (xs'.take i'.toNat ++ [y'] ++ xs'.drop i'.toNat))) :=
  ⟨l, xs, i, y, rfl, rfl, hp, hz, h0, h1, h _ upd_same fun b hb => upd_ne hb⟩
def nInsert : V → List V → Hp → VK → Prop := fun x vs H Q => ∃ (l : Addr) (xs : List V) (i : Int) (y : V), x = .ref l ∧ vs = [.int i, y] ∧ H l = some (.lst xs) ∧ xs.length < sizeLine ∧ 0 ≤ i ∧ i < 2 ^ 63 ∧
    Q .non (upd H l (.lst (xs.take i.toNat ++ [y] ++ xs.drop i.toNat)))
theorem m_insert : MtR X "list.insert" nInsert := mt_insert
theorem insert {l : Addr} {xs : List V} {i : Int} {y : V} {Q : VK} (hp : H l = some (.lst xs)) (hz : xs.length < sizeLine) (h0 : 0 ≤ i) (h1 : i < 2 ^ 63) (h : ∀ G : Hp, G l = some (.lst (xs.take i.toNat ++ [y] ++ xs.drop i.toNat)) → (∀ b, b ≠ l → G b = H b) → Q .non G) : nInsert (.ref l) [.int i, y] H Q :=
  ins hp hz h0 h1 h
/-! ### equal lists of texts -/
theorem dpAll_strs : ∀ ns : List Str, DpAll K H (ns.map V.str) (ns.map PyData.str)
  | [] => .nil
  | n :: ns => .cons (.str n) (dpAll_strs ns)
theorem canLay_strs : ∀ ns : List Str, (∀ z ∈ ns, PyData.strOk z = true) → PyData.canLayAll0 (ns.map PyData.str) = true
  | [], _ => rfl
  | n :: ns, h => by
    show (PyData.canLay0 (.str n) && PyData.canLayAll0 (ns.map PyData.str)) = true
    rw [canLay_strs ns fun z hz => h z (List.mem_cons_of_mem _ hz)]
    show (PyData.strOk n && true) = true
    rw [h n List.mem_cons_self]
    rfl
theorem depth_strs : ∀ ns : List Str, PyData.depthAll (ns.map PyData.str) = 0
  | [] => rfl
  | n :: ns => by
    show max (PyData.depth (.str n)) (PyData.depthAll (ns.map PyData.str)) = 0
    rw [depth_strs ns]
    rfl
theorem shaped_strs {ns : List Str} (h : ∀ z ∈ ns, PyData.strOk z = true) : SeqAt.shaped (.list (ns.map PyData.str)) = true := by
  have h1 : PyData.canLay0 (.list (ns.map PyData.str)) = true := canLay_strs ns h
  have h2 : PyData.depth (.list (ns.map PyData.str)) = 1 := by
    show PyData.depthAll (ns.map PyData.str) + 1 = 1
    rw [depth_strs]
  unfold SeqAt.shaped
  rw [h1, h2]
  rfl
theorem eqStrs {a b : Addr} {ns : List Str} {Q : VK} (h1 : SqL K H a (ns.map V.str)) (h2 : SqL K H b (ns.map V.str)) (h : ∀ z ∈ ns, PyData.strOk z = true) (q : Q (.bl true) H) : rEqD K (.ref a) (.ref b) H Q := by
  refine ⟨_, _, .lst h1 (dpAll_strs ns), .lst h2 (dpAll_strs ns), shaped_strs h, shaped_strs h, ?_⟩
  rw [SeqAt.eqv_refl _ (SeqAt.canLay_of_shaped (shaped_strs h))]
  exact q
theorem neStrs {a b : Addr} {ns : List Str} {Q : VK} (h1 : SqL K H a (ns.map V.str)) (h2 : SqL K H b (ns.map V.str)) (h : ∀ z ∈ ns, PyData.strOk z = true) (q : Q (.bl false) H) : rNeD K (.ref a) (.ref b) H Q := by
  refine ⟨_, _, .lst h1 (dpAll_strs ns), .lst h2 (dpAll_strs ns), shaped_strs h, shaped_strs h, ?_⟩
  rw [SeqAt.eqv_refl _ (SeqAt.canLay_of_shaped (shaped_strs h))]
  exact q
/-! ### equal lists of ints -/
theorem dpAll_ints : ∀ ns : List Int, DpAll K H (ns.map V.int) (ns.map PyData.int)
  | [] => .nil
  | n :: ns => .cons (.int n) (dpAll_ints ns)
theorem canLay_ints : ∀ ns : List Int, PyData.canLayAll0 (ns.map PyData.int) = true
  | [] => rfl
  | n :: ns => by
    show (PyData.canLay0 (.int n) && PyData.canLayAll0 (ns.map PyData.int)) = true
    rw [canLay_ints ns]
    rfl
theorem depth_ints : ∀ ns : List Int, PyData.depthAll (ns.map PyData.int) = 0
  | [] => rfl
  | n :: ns => by
    show max (PyData.depth (.int n)) (PyData.depthAll (ns.map PyData.int)) = 0
    rw [depth_ints ns]
    rfl
theorem shaped_ints (ns : List Int) : SeqAt.shaped (.list (ns.map PyData.int)) = true := by
  have h1 : PyData.canLay0 (.list (ns.map PyData.int)) = true := canLay_ints ns
  have h2 : PyData.depth (.list (ns.map PyData.int)) = 1 := by
    show PyData.depthAll (ns.map PyData.int) + 1 = 1
    rw [depth_ints]
  unfold SeqAt.shaped
  rw [h1, h2]
  rfl
theorem eqv_ints : ∀ (xs ys : List Int), PyData.eqvAll (xs.map PyData.int) (ys.map PyData.int) = decide (xs = ys)
  | [], [] => rfl
  | [], _ :: _ => rfl
  | _ :: _, [] => rfl
  | x :: xs, y :: ys => by
    show (PyData.eqv (.int x) (.int y) && PyData.eqvAll (xs.map PyData.int) (ys.map PyData.int)) = _
    rw [eqv_ints xs ys, Bool.eq_iff_iff]
    show ((x == y) && decide (xs = ys)) = true ↔ _
    simp
theorem eqInts {a b : Addr} {ns ms : List Int} {Q : VK} (h1 : SqL K H a (ns.map V.int)) (h2 : SqL K H b (ms.map V.int)) (q : Q (.bl (decide (ns = ms))) H) : rEqD K (.ref a) (.ref b) H Q := by
  refine ⟨_, _, .lst h1 (dpAll_ints ns), .lst h2 (dpAll_ints ms), shaped_ints ns, shaped_ints ms, ?_⟩
  show Q (.bl (PyData.eqvAll (ns.map PyData.int) (ms.map PyData.int))) H
  rw [eqv_ints]
  exact q
theorem neInts {a b : Addr} {ns ms : List Int} {Q : VK} (h1 : SqL K H a (ns.map V.int)) (h2 : SqL K H b (ms.map V.int)) (q : Q (.bl (!decide (ns = ms))) H) : rNeD K (.ref a) (.ref b) H Q := by
  refine ⟨_, _, .lst h1 (dpAll_ints ns), .lst h2 (dpAll_ints ms), shaped_ints ns, shaped_ints ms, ?_⟩
  show Q (.bl (!PyData.eqvAll (ns.map PyData.int) (ms.map PyData.int))) H
  rw [eqv_ints]
  exact q
/-! ### comprehensions -/
def Lc (J : It) (g : TG) (tt : TT) (te : TE) (vs : List Nat) (σ : L2.St) (H1 : Hp) (Q : VK) : Prop := ∀ D, H1 D = none → ∃ W : Nat → Nat → Hp → Prop, (∃ m, W 0 m (upd H1 D (.lst []))) ∧ ∀ i m H, W i m H →
  (J.stop i H ∧ Q (.ref D) H) ∨ (J.go i H ∧ ∃ Nx : Hp → Prop, (∀ H', Nx H' → ∃ m', m' < m ∧ W (i + 1) m' H') ∧ ∀ x H', J.yld i H x H' → g x (wipe σ vs) H' fun σ2 H2 => wipe σ2 vs = wipe σ vs ∧ tt σ2 H2 fun b H3 =>
    if b = true then te σ2 H3 fun y H4 => ∃ acc, H4 D = some (.lst acc) ∧ acc.length < sizeLine ∧ Nx (upd H4 D (.lst (acc ++ [y]))) else Nx H3)
theorem lc {wi : TI} {g : TG} {tt : TT} {te : TE} {vs : List Nat} {Q : VK} (h : wi σ H fun J H1 => Lc J g tt te vs σ H1 Q) : tLc wi g tt te vs σ H Q := h
theorem istr {te : TE} {R : It → Hp → Prop} (h : te σ H fun v H1 => ∃ x, v = .str x ∧ R (Its x) H1) : iStr te σ H R := h
theorem strE {z : Str} {P : Str → Prop} (h : P z) : ∃ x, V.str z = .str x ∧ P x := ⟨z, rfl, h⟩
theorem tyes {Q : Bool → Hp → Prop} (h : Q true H) : tYes σ H Q := h
/-- the state of a comprehension: the list at D holds acc, all ahead of it stands -/
def LcP (D : Addr) (H1 : Hp) (R : Nat → List V → Hp → Prop) : Nat → Hp → Prop := fun i H => ∃ acc, H D = some (.lst acc) ∧ Same H1 H ∧ R i acc H
def LcPush (D : Addr) (H1 : Hp) (R : Nat → List V → Hp → Prop) (i : Nat) (y : V) (H4 : Hp) : Prop := ∃ acc, H4 D = some (.lst acc) ∧ acc.length < sizeLine ∧ LcP D H1 R (i + 1) (upd H4 D (.lst (acc ++ [y])))
theorem lcPush {D : Addr} {H1 H4 : Hp} {R : Nat → List V → Hp → Prop} {i : Nat} {y : V} {acc : List V} (hD : H4 D = some (.lst acc)) (nD : H1 D = none) (s1 : Same H1 H4) (hz : acc.length < sizeLine) (r : ∀ G : Hp, G D = some (.lst (acc ++ [y])) → (∀ b, b ≠ D → G b = H4 b) → R (i + 1) (acc ++ [y]) G) : LcPush D H1 R i y H4 :=
  ⟨acc, hD, hz, acc ++ [y], upd_same, fun b o e => by rw [upd_ne (ne_of_none e nD)]; exact s1 b o e, r _ upd_same fun b hb => upd_ne hb⟩
theorem lcS {J : It} {n : Nat} {G : Hp → Prop} {Y : Nat → Hp → V → Hp → Prop} (w : Walk J n G Y) {g : TG} {tt : TT} {te : TE} {vs : List Nat} {H1 : Hp} {Q : VK} (hG : ∀ H, Same H1 H → G H) (R : Addr → Nat → List V → Hp → Prop)
    (r0 : ∀ (D : Addr) (G : Hp), H1 D = none → G D = some (.lst []) → Same H1 G → R D 0 [] G)
    (hs : ∀ (D : Addr) i x H H' acc, H1 D = none → i < n → H D = some (.lst acc) → Same H1 H → R D i acc H → Y i H x H' → g x (wipe σ vs) H' fun σ2 H2 => wipe σ2 vs = wipe σ vs ∧ tt σ2 H2 fun b H3 =>
      if b = true then te σ2 H3 fun y H4 => LcPush D H1 (R D) i y H4 else LcP D H1 (R D) (i + 1) H3)
    (hd : ∀ (D : Addr) acc H, H1 D = none → H D = some (.lst acc) → Same H1 H → R D n acc H → Q (.ref D) H) : Lc J g tt te vs σ H1 Q := fun D nD =>
  lc_it w (LcP D H1 (R D)) ⟨[], upd_same, same_upd nD, r0 D _ nD upd_same (same_upd nD)⟩ (fun i H hi ⟨acc, h1, h2, h3⟩ => hG H h2)
    (fun i x H H' hi ⟨acc, h1, h2, h3⟩ y => hs D i x H H' acc nD hi h1 h2 h3 y) (fun H ⟨acc, h1, h2, h3⟩ => hd D acc H nD h1 h2 h3)
/-- .. over a row: a list or a tuple -/
theorem lcRow {a : Addr} {xs : List V} {ta : TE} {g : TG} {tt : TT} {te : TE} {vs : List Nat} {H1 : Hp} {Q : VK} (ea : ∀ Q : VK, Q (.ref a) H1 → ta σ H1 Q) (hr : Ru.SqR K H1 a xs) (R : Addr → Nat → List V → Hp → Prop)
    (r0 : ∀ (D : Addr) (G : Hp), H1 D = none → G D = some (.lst []) → Same H1 G → R D 0 [] G)
    (hs : ∀ (D : Addr) i x H acc, H1 D = none → i < xs.length → H D = some (.lst acc) → Same H1 H → R D i acc H → xs[i]? = some x → g x (wipe σ vs) H fun σ2 H2 => wipe σ2 vs = wipe σ vs ∧ tt σ2 H2 fun b H3 =>
      if b = true then te σ2 H3 fun y H4 => LcPush D H1 (R D) i y H4 else LcP D H1 (R D) (i + 1) H3)
    (hd : ∀ (D : Addr) acc H, H1 D = none → H D = some (.lst acc) → Same H1 H → R D xs.length acc H → Q (.ref D) H) : (fun σ H R => iList K ta σ H R ∨ iTup K ta σ H R) σ H1 fun J H1 => Lc J g tt te vs σ H1 Q := by
  rcases hr with hr | hr
  · exact .inl (ea _ ⟨a, rfl, ⟨_, hr⟩, lcS walk_list (fun _ s => s.seq hr) R r0 (fun D i x H H' acc nD hi hD sm r ⟨e, hx⟩ => by cases e; exact hs D i x H acc nD hi hD sm r hx) hd⟩)
  · exact .inr (ea _ ⟨a, rfl, ⟨_, hr⟩, lcS walk_tup (fun _ s => Ru.same_tup s hr) R r0 (fun D i x H H' acc nD hi hD sm r ⟨e, hx⟩ => by cases e; exact hs D i x H acc nD hi hD sm r hx) hd⟩)
theorem wipeE {A B : L2.St} {P : Prop} (e : A = B) (h : P) : A = B ∧ P := ⟨e, h⟩
/-! ### list(range(..)) -/
theorem lstRg {te : L2.St → Hp → (Int → Int → Hp → Prop) → Prop} {Q : VK} (h : te σ H fun a b H1 => RgOk a b ∧ NewQ (.lst (rgV a b)) Q H1) : tLstRg te σ H Q := h
theorem tupRg {te : L2.St → Hp → (Int → Int → Hp → Prop) → Prop} {Q : VK} (h : te σ H fun a b H1 => RgOk a b ∧ NewQ (.tup (rgV a b)) Q H1) : tTupRg te σ H Q := h
theorem rg1 {ta : TE} {Q : Int → Int → Hp → Prop} (h : ta σ H fun x H1 => ∃ n, x = .int n ∧ Q 0 n H1) : tRg1 ta σ H Q := h
theorem rg2 {ta tb : TE} {Q : Int → Int → Hp → Prop} (h : ta σ H fun x H1 => tb σ H1 fun y H2 => ∃ i j, x = .int i ∧ y = .int j ∧ Q i j H2) : tRg2 ta tb σ H Q := h
theorem intE2 {i j : Int} {P : Int → Int → Prop} (h : P i j) : ∃ a b, V.int i = .int a ∧ V.int j = .int b ∧ P a b := ⟨i, j, rfl, rfl, h⟩
theorem rgV0 (n : Nat) : rgV 0 (n : Int) = ((List.range n).map fun i : Nat => (i : Int)).map V.int := by
  unfold rgV
  rw [List.map_map, show ((n : Int) - 0).toNat = n by omega]
  refine List.map_congr_left fun i _ => ?_
  show V.int (0 + (i : Nat)) = V.int (i : Int)
  rw [Int.zero_add]
/-! ### dicts with ints as keys -/
theorem dnew {Q : VK} (h : ∀ (p : Addr) (G : Hp), H p = none → G p = some (.dK []) → Same H G → Q (.ref p) G) : tDNewK σ H Q :=
  fun p hp => h p _ hp upd_same fun b u e => by rw [upd_ne (ne_of_none e hp)]; exact e
theorem dgetH {td ty : TE} {Q : VK} (h : td σ H fun x H1 => ty σ H1 fun y H2 => ∃ a v, x = .ref a ∧ DGet H2 a y (some v) ∧ Q v H2) : tDGet td ty σ H Q := h
theorem dget {a : Addr} {kvs : List (Key × V)} {k : Int} {v : V} {P : V → Prop} (e : H a = some (.dK kvs)) (hv : valV kvs (.inl k) = some v) (q : P v) : ∃ a' v', V.ref a = .ref a' ∧ DGet H a' (.int k) (some v') ∧ P v' :=
  ⟨a, v, rfl, hv ▸ DGet.k (k := .inl k) e, q⟩
theorem dgetF {a : Addr} {o : Obj} {kvs : List (Key × V)} {k : Int} {v : V} {P : V → Prop} (e : H a = some (.frz o (.dK kvs))) (hv : valV kvs (.inl k) = some v) (q : P v) : ∃ a' v', V.ref a = .ref a' ∧ DGet H a' (.int k) (some v') ∧ P v' :=
  ⟨a, v, rfl, .inl ⟨kvs, .inl k, .inr ⟨o, e⟩, rfl, hv.symm⟩, q⟩
theorem dinH {ty td : TE} {Q : VK} (h : ty σ H fun y H1 => td σ H1 fun x H2 => ∃ a o, x = .ref a ∧ DGet H2 a y o ∧ Q (.bl o.isSome) H2) : tDIn ty td σ H Q := h
theorem dninH {ty td : TE} {Q : VK} (h : ty σ H fun y H1 => td σ H1 fun x H2 => ∃ a o, x = .ref a ∧ DGet H2 a y o ∧ Q (.bl (!o.isSome)) H2) : tDNotIn ty td σ H Q := h
theorem dany {a : Addr} {kvs : List (Key × V)} {k : Int} {P : Option V → Prop} (e : H a = some (.dK kvs)) (q : P (valV kvs (.inl k))) : ∃ a' o, V.ref a = .ref a' ∧ DGet H a' (.int k) o ∧ P o :=
  ⟨a, _, rfl, DGet.k (k := .inl k) e, q⟩
theorem dput {a : Addr} {kvs : List (Key × V)} {k : Int} {v : V} {Q : Hp → Prop} (e : H a = some (.dK kvs)) (hl : kvs.length < sizeLine) (h : ∀ G : Hp, G a = some (.dK (putK kvs (.inl k) v)) → (∀ b, b ≠ a → G b = H b) → Q G) : rSetD (.ref a) (.int k) v H Q :=
  ⟨a, _, rfl, DPut.k (k := .inl k) e hl, h _ upd_same fun b hb => upd_ne hb⟩
theorem dget1H {td ty : TE} {Q : VK} (h : td σ H fun x H1 => ∃ a, x = .ref a ∧ IsD H1 a ∧ ty σ H1 fun y H2 => ∃ o, DGet H2 a y o ∧ Q (o.getD .non) H2) : tDGet1 td ty σ H Q := h
theorem isD {a : Addr} {kvs : List (Key × V)} {P : Addr → Prop} (e : H a = some (.dK kvs)) (q : P a) : ∃ a', V.ref a = .ref a' ∧ IsD H a' ∧ P a' := ⟨a, rfl, .inl ⟨kvs, .inl e⟩, q⟩
theorem dgetO {a : Addr} {kvs : List (Key × V)} {k : Int} {P : Option V → Prop} (e : H a = some (.dK kvs)) (q : P (valV kvs (.inl k))) : ∃ o, DGet H a (.int k) o ∧ P o := ⟨_, DGet.k (k := .inl k) e, q⟩
/-- a for over the keys of a dict that is written nowhere in it -/
theorem forD {td : TE} {g : TG} {tb : TS} {a : Addr} {kvs : List (Key × V)} (hd : H a = some (.dK kvs)) (et : ∀ (H1 : Hp) (Q : VK), Q (.ref a) H1 → td σ H1 Q) (Pv : Nat → L2.St → Hp → Prop)
    (h0 : ∀ od, Pv 0 σ (upd H a (.frz od (.dK kvs)))) (hs : ∀ od i k v σ H, kvs[i]? = some (k, v) → H a = some (.frz od (.dK kvs)) → Pv i σ H → g (kV k) σ H fun σ2 H2 => tb { nx := fun σ' H' => H' a = some (.frz od (.dK kvs)) ∧ Pv (i + 1) σ' H', rt := fun v H' => H' a = some (.frz od (.dK kvs)) ∧ D.rt v (upd H' a (.dK kvs)), bk := fun σ' H' => H' a = some (.frz od (.dK kvs)) ∧ D.nx σ' (upd H' a (.dK kvs)), ct := fun σ' H' => H' a = some (.frz od (.dK kvs)) ∧ Pv (i + 1) σ' H' } σ2 H2)
    (hn : ∀ od σ H, H a = some (.frz od (.dK kvs)) → Pv kvs.length σ H → D.nx σ (upd H a (.dK kvs))) : tLock (tFor (iKeys td) g tb) D σ H := by
  refine ⟨a, .dK kvs, hd, trivial, fun od => ?_⟩
  refine et _ _ ⟨a, od, rfl, .inl ⟨kvs, upd_same, ?_⟩⟩
  exact for_it walk_keys (fun i σ H => H a = some (.frz od (.dK kvs)) ∧ Pv i σ H) ⟨upd_same, h0 od⟩ (fun i σ H _ h => h.1)
    (fun i x σ H H' hi ⟨h1, h2⟩ ⟨e, k, v, hk, hx⟩ => by cases e; cases hx; exact hs od i k v σ H hk h1 h2) (fun σ H ⟨h1, h2⟩ => ⟨h1, hn od σ H h1 h2⟩)
def nListD : List V → Hp → VK → Prop := fun xs H Q => ∃ p kvs, xs = [.ref p] ∧ H p = some (.dK kvs) ∧ ∀ q, H q = none → Q (.ref q) (upd H q (.lst (kvs.map fun kv => kV kv.1)))
theorem listD {a : Addr} {kvs : List (Key × V)} {Q : VK} (e : H a = some (.dK kvs)) (h : NewQ (.lst (kvs.map fun kv => kV kv.1)) Q H) : rListD [.ref a] H Q := ⟨a, kvs, rfl, e, h⟩
/-! ### joins -/
theorem m1 {r : V → List V → Hp → VK → Prop} {to te : TE} {Q : VK} (h : to σ H fun x H1 => (∃ a, x = .str a) ∧ te σ H1 fun y H2 => r x [y] H2 Q) : tM1 r to te σ H Q := h
theorem strX {a : Str} {R : Prop} (h : R) : (∃ b, V.str a = .str b) ∧ R := ⟨⟨a, rfl⟩, h⟩
theorem join {a : Str} {p : Addr} {ys : List Str} {Q : VK} (hp : SqL K H p (ys.map V.str) ∨ SqT K H p (ys.map V.str)) (hz : (ys.map (·.length)).sum + ys.length * a.length ≤ 16777216) (h : Q (.str (Txt.join a ys)) H) :
    ∃ a' p', ∃ ys' : List Str, V.str a = .str a' ∧ [V.ref p] = [.ref p'] ∧ (SqL K H p' (ys'.map V.str) ∨ SqT K H p' (ys'.map V.str)) ∧ (ys'.map (·.length)).sum + ys'.length * a'.length ≤ 16777216 ∧ Q (.str (Txt.join a' ys')) H := ⟨a, p, ys, rfl, rfl, hp, hz, h⟩
/-! ### own objects -/
def FldG (K : PySem.W.Frag) (f : Str) : V → Hp → VK → Prop := fun x H1 Q => ∃ a C dx fs v, x = .ref a ∧ H1 a = some (.ins C dx fs) ∧ Cls K C ∧ NoAttr K C f ∧ fs.lookup f = some v ∧ Q v H1
theorem fldH {ta : TE} {f : Str} {Q : VK} (h : ta σ H fun x H1 => FldG K f x H1 Q) : tFld K ta f σ H Q := h
theorem fld {f : Str} {a C dx : Addr} {fs : List (Str × V)} {v : V} {Q : VK} (e : H a = some (.ins C dx fs)) (c : Cls K C) (n : NoAttr K C f) (l : fs.lookup f = some v) (q : Q v H) : FldG K f (.ref a) H Q := ⟨a, C, dx, fs, v, rfl, e, c, n, l, q⟩
def FldS (K : PySem.W.Frag) (f : Str) (y : V) : V → Hp → (Hp → Prop) → Prop := fun x H2 Q => ∃ a C dx fs, x = .ref a ∧ H2 a = some (.ins C dx fs) ∧ Cls K C ∧ NoAttr K C f ∧ fs.length < 1000 ∧ Q (upd H2 a (.ins C dx (putF f y fs)))
theorem sfldH {ta tv : TE} {f : Str} (h : tv σ H fun y H1 => ta σ H1 fun x H2 => FldS K f y x H2 (D.nx σ)) : sFld K ta tv f D σ H := h
theorem sfld {f : Str} {a C dx : Addr} {fs fs' : List (Str × V)} {y : V} {Q : Hp → Prop} (e : H a = some (.ins C dx fs)) (c : Cls K C) (n : NoAttr K C f) (l : fs.length < 1000) (hf : putF f y fs = fs') (q : ∀ G : Hp, G a = some (.ins C dx fs') → (∀ b, b ≠ a → G b = H b) → Q G) : FldS K f y (.ref a) H Q :=
  ⟨a, C, dx, fs, rfl, e, c, n, l, hf ▸ q _ upd_same fun b hb => upd_ne hb⟩
def MkG (C : Addr) (sp : Sp) (dvs : List V) (E : XK) (vs : List V) (H1 : Hp) (Q : VK) : Prop := ∀ x dx, H1 x = none → H1 dx = none → dx ≠ x → sp (.ref x :: (vs ++ dvs)) (upd (upd H1 dx (.own x)) x (.ins C dx [])) (fun v H2 => v = .non ∧ Q (.ref x) H2) E
theorem mkH {C : Addr} {sp : Sp} {dvs : List V} {E : XK} {t : TA} {Q : VK} (h : t σ H fun vs H1 => MkG C sp dvs E vs H1 Q) : tMake C sp dvs E t σ H Q := h
theorem mk {C : Addr} {sp : Sp} {dvs : List V} {E : XK} {vs : List V} {Q : VK} (h : ∀ (x dx : Addr) (G : Hp), H x = none → H dx = none → dx ≠ x → G x = some (.ins C dx []) → Same H G → (∀ b, b ≠ x → b ≠ dx → G b = H b) → sp (.ref x :: (vs ++ dvs)) G (fun v H2 => v = .non ∧ Q (.ref x) H2) E) : MkG C sp dvs E vs H Q := fun x dx hx hd hne =>
  h x dx _ hx hd hne upd_same (fun b o e => by rw [upd_ne (ne_of_none e hx), upd_ne (ne_of_none e hd)]; exact e) fun b h1 h2 => by rw [upd_ne h1, upd_ne h2]
def MethG (C : Addr) (m : Str) (x : V) (H : Hp) (Q : Prop) : Prop := ∃ a dx fs, x = .ref a ∧ H a = some (.ins C dx fs) ∧ fs.lookup m = none ∧ Q
theorem methH {C : Addr} {m : Str} {sp : Sp} {dvs : List V} {E : XK} {ta : TE} {t : TA} {Q : VK} (h : ta σ H fun x H1 => MethG C m x H1 (t σ H1 fun vs H2 => sp (x :: (vs ++ dvs)) H2 Q E)) : tMeth C m sp dvs E ta t σ H Q := h
theorem meth {C : Addr} {m : Str} {a dx : Addr} {fs : List (Str × V)} {Q : Prop} (e : H a = some (.ins C dx fs)) (l : fs.lookup m = none) (q : Q) : MethG C m (.ref a) H Q := ⟨a, dx, fs, rfl, e, l, q⟩
/-! ### isinstance -/
theorem isi {x : V} {a b : String} {r : Bool} {Q : VK} (ht : TyX K H x (.type a)) (h : kitB a b = some r) (q : Q (.bl r) H) : rIsi K [x, .ty b] H Q := ⟨_, _, _, _, r, rfl, .ty b, ht, kit_ty h, q⟩
theorem isiStr {z : Str} {Q : VK} (q : Q (.bl true) H) : rIsi K [.str z, .ty "str"] H Q := isi (.base (.str z)) (by decide +kernel) q
theorem isiB {z : Bool} {Q : VK} (q : Q (.bl true) H) : rIsi K [.bl z, .ty "bool"] H Q := isi (.base (.bl z)) (by decide +kernel) q
theorem isiI {z : Int} {Q : VK} (q : Q (.bl true) H) : rIsi K [.int z, .ty "int"] H Q := isi (.base (.int z)) (by decide +kernel) q
theorem isiIB {z : Int} {Q : VK} (q : Q (.bl false) H) : rIsi K [.int z, .ty "bool"] H Q := isi (.base (.int z)) (by decide +kernel) q
end Rd
namespace W
open PySem PySem.Spec PyProof.Rows L2
theorem kit_self {K : PySem.W.Frag} {C : Addr} : PySem.W.kitOne K (.ref C) (.ref C) = some true := by
  unfold PySem.W.kitOne
  simp
/-- what isinstance asks of an own class -/
structure OwnTy (K : PySem.W.Frag) (C : Addr) : Prop where
  ha : PySem.W.findIn K (.ref C) "__class__" = some (some (.builtin "object.__class__"))
  hn : PySem.W.specialIn K (.builtin "object.__class__") "__get__" = some (some (.builtin "getset_descriptor.__get__"))
  htk : PySem.W.takesIn K (.builtin "object.__class__") = some true
  hm : PySem.W.mroIn K C (.type "object") = some true
  me : PySem.W.kitOne K (.ref C) (.ref C) = some true
theorem isiOwn {K : PySem.W.Frag} {H : Hp} {a C dx : Addr} {fs : List (Str × V)} {Q : VK} (c : Cls K C) (o : OwnTy K C) (e : H a = some (.ins C dx fs)) (q : Q (.bl true) H) : rIsi K [.ref a, .ref C] H Q :=
  ⟨_, _, _, _, true, rfl, .own C, .base (.ins e c o.ha o.hn o.htk o.hm), o.me, q⟩
end W
/-! ### letters -/
namespace Lt
open PySem PySem.Spec PyProof.Rows L2
def Abc : Str := "abcdefghijklmnopqrstuvwxyz"
def Let (z : Str) : Prop := ∀ c ∈ z.cps.toList, c ∈ Abc.cps.toList
theorem Let.app {a b : Str} (x : Let a) (y : Let b) : Let (a ++ b) := fun c h => by
  have : c ∈ a.cps.toList ++ b.cps.toList := by
    rw [← Array.toList_append]
    exact h
  exact (List.mem_append.mp this).elim (x c) (y c)
theorem len_app (a b : Str) : (a ++ b).length = a.length + b.length := Array.size_append
theorem Let.cut {z : Str} (x : Let z) (lo hi : Option Int) : Let (cutS z lo hi) := fun c h => x c (List.mem_of_mem_drop (List.mem_of_mem_take (show c ∈ (z.cps.toList.drop _).take _ from by simpa [cutS] using h)))
theorem Let.one {c : Nat} (h : c ∈ Abc.cps.toList) : Let ⟨#[c]⟩ := fun d hd => by
  have : d = c := by simpa using hd
  exact this ▸ h
theorem Let.empty : Let "" := fun c h => by exact absurd h (by decide +revert)
theorem Let.ok {z : Str} (x : Let z) : PyData.strOk z = true := by
  unfold PyData.strOk
  rw [Array.all_eq_true']
  intro c hc
  have h := x c (by simpa using hc)
  have : ∀ c ∈ Abc.cps.toList, decide (c < 0x110000) = true := by decide +kernel
  exact this c h
theorem Let.char {z : Str} (x : Let z) {c : Nat} {i : Nat} (h : z.cps.toList[i]? = some c) : c ∈ Abc.cps.toList := x c (List.mem_of_getElem? h)
theorem cut_len {z : Str} {a b : Nat} (h : a ≤ b) (hb : b ≤ z.length) : (cutS z (some (a : Int)) (some (b : Int))).length = b - a := by
  show (((z.cps.toList.drop (HT.sIx z.length 0 (some (a : Int)))).take (HT.sIx z.length z.length (some (b : Int)) - HT.sIx z.length 0 (some (a : Int)))).toArray).size = b - a
  rw [List.size_toArray, List.length_take, List.length_drop, Array.length_toList, HT.sIx_nat, HT.sIx_nat]
  unfold Str.length at hb ⊢
  omega
theorem cut_lenI {z : Str} {a b : Int} (h0 : 0 ≤ a) (h : a ≤ b) (hb : b ≤ z.length) : ((cutS z (some a) (some b)).length : Int) = b - a := by
  have := cut_len (z := z) (a := a.toNat) (b := b.toNat) (by omega) (by omega)
  rw [show ((a.toNat : Nat) : Int) = a by omega, show ((b.toNat : Nat) : Int) = b by omega] at this
  omega
theorem cut_from {z : Str} {a : Int} (h0 : 0 ≤ a) (h : a ≤ z.length) : ((cutS z (some a) none).length : Int) = z.length - a := by
  have e : (cutS z (some a) none).length = z.length - a.toNat := by
    show (((z.cps.toList.drop (HT.sIx z.length 0 (some a))).take (HT.sIx z.length z.length none - HT.sIx z.length 0 (some a))).toArray).size = _
    have e1 : HT.sIx z.length 0 (some a) = a.toNat := by
      have := HT.sIx_nat z.length 0 a.toNat
      rw [show ((a.toNat : Nat) : Int) = a by omega] at this
      rw [this]
      omega
    rw [List.size_toArray, List.length_take, List.length_drop, Array.length_toList, e1]
    show min (z.length - a.toNat) (z.cps.size - a.toNat) = _
    unfold Str.length
    omega
  omega
theorem cut_to {z : Str} {b : Int} (h0 : 0 ≤ b) : ((cutS z none (some b)).length : Int) = min b z.length := by
  have e : (cutS z none (some b)).length = min b.toNat z.length := by
    show (((z.cps.toList.drop (HT.sIx z.length 0 none)).take (HT.sIx z.length z.length (some b) - HT.sIx z.length 0 none)).toArray).size = _
    have e1 : HT.sIx z.length z.length (some b) = min b.toNat z.length := by
      have := HT.sIx_nat z.length z.length b.toNat
      rw [show ((b.toNat : Nat) : Int) = b by omega] at this
      exact this
    have e2 : HT.sIx z.length 0 none = 0 := rfl
    rw [List.size_toArray, List.length_take, List.length_drop, Array.length_toList, e1, e2]
    unfold Str.length
    omega
  omega
theorem join_let : ∀ ys : List Str, (∀ y ∈ ys, Let y) → Let (Str.join "" ys) ∧ (Str.join "" ys).length = (ys.map (·.length)).sum
  | [], _ => ⟨fun c h => by exact absurd h (by decide +revert), by decide +kernel⟩
  | [y], h => ⟨h y (by simp), by simp [Str.join]⟩
  | y :: z :: r, h => by
    have ih := join_let (z :: r) fun x hx => h x (List.mem_cons_of_mem _ hx)
    have e : Str.join "" (y :: z :: r) = y ++ "" ++ Str.join "" (z :: r) := rfl
    rw [e]
    refine ⟨((h y List.mem_cons_self).app Let.empty).app ih.1, ?_⟩
    rw [len_app, len_app, ih.2, show (Str.ofString "").length = 0 by decide +kernel]
    show y.length + 0 + _ = (y.length :: (z :: r).map (·.length)).sum
    rw [List.sum_cons]
    rfl
theorem join_one {ys : List Str} {n : Nat} (hl : ys.length = n) (h : ∀ y ∈ ys, Let y ∧ y.length = 1) : Let (Txt.join "" ys) ∧ (Txt.join "" ys).length = n ∧ (ys.map (·.length)).sum = n := by
  have j := join_let ys fun y hy => (h y hy).1
  have e : (ys.map (·.length)).sum = ys.length := by
    clear j hl
    induction ys with
    | nil => rfl
    | cons y r ih => rw [List.map_cons, List.sum_cons, ih fun x hx => h x (List.mem_cons_of_mem _ hx), (h y List.mem_cons_self).2, List.length_cons]; omega
  rw [TL.join_eq]
  exact ⟨j.1, by rw [j.2, e, hl], by rw [e, hl]⟩
theorem ne_of_len {z : Str} (h : 0 < z.length) : ¬ z = "" := fun e => by
  subst e
  exact absurd h (by decide +revert)
theorem len_of_ne {z : Str} (h : ¬ z = "") : 0 < z.length := by
  rcases Nat.eq_zero_or_pos z.length with e | e
  · exfalso
    refine h ?_
    have : z.cps = #[] := Array.eq_empty_of_size_eq_zero e
    cases z
    simp only at this
    subst this
    decide +kernel
  · exact e
/-- a word: some letters, at least one, at most n -/
structure Wd (n : Int) (z : Str) : Prop where
  ok : Let z
  l0 : 1 ≤ z.length
  l1 : (z.length : Int) ≤ n
theorem Wd.mono {n m : Int} {z : Str} (h : Wd n z) (k : n ≤ m) : Wd m z := ⟨h.ok, h.l0, Int.le_trans h.l1 k⟩
theorem Wd.line {n : Int} {z : Str} (h : Wd n z) (k : n ≤ 1000000) : z.length ≤ sizeLine := by
  have := h.l1
  rw [sizeLine_eq]
  omega
end Lt
namespace W
open PySem PySem.Spec PyProof.Rows L2
/-! ### the tape, books -/
def Tape (H : Hp) (t c : Addr) : Prop := ∃ (ns : List Int) (x y z u : Int), t ≠ c ∧ H t = some (.lst [.ref c, .int x, .int y, .int z, .int u]) ∧ H c = some (.lst (ns.map V.int)) ∧ 0 ≤ x ∧ x ≤ ns.length ∧ 0 ≤ z ∧ z < 2147483647
theorem Tape.same {H H' : Hp} {t c : Addr} (h : Tape H t c) (s : Same H H') : Tape H' t c := by
  obtain ⟨ns, x, y, z, u, n, h1, h2, r⟩ := h
  exact ⟨ns, x, y, z, u, n, s _ _ h1, s _ _ h2, r⟩
theorem Tape.off {H H' : Hp} {t c l : Addr} (h : Tape H t c) (h1 : l ≠ t) (h2 : l ≠ c) (e : ∀ b, b ≠ l → H' b = H b) : Tape H' t c := by
  obtain ⟨ns, x, y, z, u, n, g1, g2, r⟩ := h
  exact ⟨ns, x, y, z, u, n, by rw [e t h1.symm]; exact g1, by rw [e c h2.symm]; exact g2, r⟩
theorem Tape.new {H : Hp} {t c l : Addr} (h : Tape H t c) (n : H l = none) : l ≠ t ∧ l ≠ c := by
  obtain ⟨ns, x, y, z, u, _, g1, g2, r⟩ := h
  exact ⟨(ne_of_none g1 n).symm, (ne_of_none g2 n).symm⟩
theorem _root_.Rd.tape_same {H H' : Hp} {t c : Addr} (s : Same H H') (h : Tape H t c) : Tape H' t c := h.same s
theorem _root_.Rd.ntT {H : Hp} {t c l : Addr} (n : H l = none) (h : Tape H t c) : l ≠ t := (h.new n).1
theorem _root_.Rd.ntT' {H : Hp} {t c l : Addr} (n : H l = none) (h : Tape H t c) : l ≠ c := (h.new n).2
/-- some watches: no two alike, at most twelve, each of some letters -/
structure Watches (ws : List Str) : Prop where
  nd : ws.Nodup
  l1 : ws.length ≤ 12
  ok : ∀ z ∈ ws, Lt.Wd 12 z
/-- a book of the watches ws stands at b -/
def BookAt (C : Addr) (H : Hp) (b : Addr) (ws : List Str) : Prop := ∃ dx t, H b = some (.ins C dx [("watches", .ref t)]) ∧ H t = some (.tup (ws.map V.str))
theorem BookAt.same {C : Addr} {H H' : Hp} {b : Addr} {ws : List Str} (h : BookAt C H b ws) (s : Same H H') : BookAt C H' b ws := let ⟨dx, t, h1, h2⟩ := h; ⟨dx, t, s _ _ h1, s _ _ h2⟩
theorem BookAt.but {C t c : Addr} {H H' : Hp} {b : Addr} {ws : List Str} (h : BookAt C H b ws) (tp : Tape H t c) (s : Rd.But t H H') : BookAt C H' b ws := by
  obtain ⟨dx, q, h1, h2⟩ := h
  obtain ⟨ns, x, y, z, u, _, g1, g2, r⟩ := tp
  exact ⟨dx, q, s _ _ (ne_of h1 g1 (fun e => nomatch e)) h1, s _ _ (ne_of h2 g1 (fun e => nomatch e)) h2⟩
theorem snoc_nodup {α : Type} {ws : List α} {y : α} (nd : ws.Nodup) (q : ¬ y ∈ ws) : (ws ++ [y]).Nodup := by
  rw [List.nodup_append]
  exact ⟨nd, by simp, fun x hx z hz e => q (by simp at hz; rw [← hz, ← e]; exact hx)⟩
theorem _root_.Rd.book_same {C : Addr} {H H' : Hp} {b : Addr} {ws : List Str} (s : Same H H') (h : BookAt C H b ws) : BookAt C H' b ws := h.same s
theorem _root_.Rd.book_but {C t c : Addr} {H H' : Hp} {b : Addr} {ws : List Str} (s : Rd.But t H H') (tp : Tape H t c) (h : BookAt C H b ws) : BookAt C H' b ws := h.but tp s
end W
/-! ### what is kept, for the search by hypotheses -/
namespace Rd
open PySem PySem.Spec PyProof.Rows L2
variable {H H' : Hp} {K : PySem.W.Frag}
theorem neN {H : Hp} {a b : Addr} {o : HO} (h' : H b = none) (h : H a = some o) : a ≠ b := ne_of_none h h'
theorem neN' {H : Hp} {a b : Addr} {o : HO} (h' : H b = none) (h : H a = some o) : b ≠ a := (ne_of_none h h').symm
theorem same_tr {H H1 H2 : Hp} (b : Same H1 H2) (a : Same H H1) : Same H H2 := a.trans b
theorem but_tr {t : Addr} {H H1 H2 : Hp} (b : But t H1 H2) (a : But t H H1) : But t H H2 := a.trans b
theorem but_sm {t : Addr} {H H1 H2 : Hp} (b : Same H1 H2) (a : But t H H1) : But t H H2 := a.same b
theorem same_of2 {l : Addr} {H0 H H' : Hp} (off : ∀ b, b ≠ l → H' b = H b) (n : H0 l = none) (s : Same H0 H) : Same H0 H' := fun b o e => by rw [off b (ne_of_none e n)]; exact s b o e
theorem but_of2 {t l : Addr} {H0 H H' : Hp} (off : ∀ b, b ≠ l → H' b = H b) (n : H0 l = none) (s : But t H0 H) : But t H0 H' := fun b o h e => by rw [off b (ne_of_none e n)]; exact s b o h e
theorem at_same {a : Addr} {o : HO} (s : Same H H') (e : H a = some o) : H' a = some o := s a o e
theorem at_but {t a : Addr} {o : HO} (b : But t H H') (n : a ≠ t) (e : H a = some o) : H' a = some o := b a o n e
theorem at_off {l a : Addr} {o : HO} (off : ∀ b, b ≠ l → H' b = H b) (n : a ≠ l) (e : H a = some o) : H' a = some o := by rw [off a n]; exact e
theorem same_off {l : Addr} {H0 : Hp} (s : Same H0 H) (n : H0 l = none) (off : ∀ b, b ≠ l → H' b = H b) : Same H0 H' := fun b o e => by rw [off b (ne_of_none e n)]; exact s b o e
theorem but_off' {t l : Addr} {H0 : Hp} (s : But t H0 H) (n : H0 l = none) (off : ∀ b, b ≠ l → H' b = H b) : But t H0 H' := fun b o h e => by rw [off b (ne_of_none e n)]; exact s b o h e
theorem lenS {p : Addr} {ys : List Str} {H : Hp} {Q : VK} (hp : SqL K H p (ys.map V.str) ∨ SqT K H p (ys.map V.str)) (h : Q (.int (ys.length : Nat)) H) : nLen K [.ref p] H Q := ⟨p, _, rfl, hp, by rw [List.length_map]; exact h⟩
theorem lenI {p : Addr} {ys : List Int} {H : Hp} {Q : VK} (hp : SqL K H p (ys.map V.int) ∨ SqT K H p (ys.map V.int)) (h : Q (.int (ys.length : Nat)) H) : nLen K [.ref p] H Q := ⟨p, _, rfl, hp, by rw [List.length_map]; exact h⟩
theorem lenR {p : Addr} {ys : List Addr} {H : Hp} {Q : VK} (hp : SqL K H p (ys.map V.ref) ∨ SqT K H p (ys.map V.ref)) (h : Q (.int (ys.length : Nat)) H) : nLen K [.ref p] H Q := ⟨p, _, rfl, hp, by rw [List.length_map]; exact h⟩
end Rd

/-! Plain law: spots of a word, joined by watches that occur. -/
namespace Mw
open PySem PySem.Spec PyProof.Rows L2
/-- led on from x -/
inductive Star (R : Nat → Nat → Prop) (x : Nat) : Nat → Prop where
  | refl : Star R x x
  | step {y z : Nat} (h : Star R x y) (r : R y z) : Star R x z
theorem Star.one {R : Nat → Nat → Prop} {x y : Nat} (r : R x y) : Star R x y := .step .refl r
theorem Star.trans {R : Nat → Nat → Prop} {x y z : Nat} (a : Star R x y) (b : Star R y z) : Star R x z := by
  induction b with
  | refl => exact a
  | step _ r ih => exact .step ih r
theorem Star.symm {R : Nat → Nat → Prop} (s : ∀ x y, R x y → R y x) {x y : Nat} (a : Star R x y) : Star R y x := by
  induction a with
  | refl => exact .refl
  | step _ r ih => exact (Star.one (s _ _ r)).trans ih
theorem Star.mono {R S : Nat → Nat → Prop} (s : ∀ x y, R x y → S x y) {x y : Nat} (a : Star R x y) : Star S x y := by
  induction a with
  | refl => exact .refl
  | step _ r ih => exact .step ih (s _ _ r)
theorem Star.iff {R S : Nat → Nat → Prop} (s : ∀ x y, R x y ↔ S x y) {x y : Nat} : Star R x y ↔ Star S x y := ⟨Star.mono fun x y => (s x y).mp, Star.mono fun x y => (s x y).mpr⟩
/-- W occurs in z from s -/
def Occ (W z : Str) (s : Nat) : Prop := s + W.length ≤ z.length ∧ cutS z (some (s : Int)) (some ((s : Int) + (W.length : Int))) = W
/-- two spots joined by W, W from a spot below m -/
def EdgeB (W z : Str) (m : Nat) (i j : Nat) : Prop := (i < m ∧ Occ W z i ∧ j = i + W.length) ∨ (j < m ∧ Occ W z j ∧ i = j + W.length)
def Edge (W z : Str) (i j : Nat) : Prop := (Occ W z i ∧ j = i + W.length) ∨ (Occ W z j ∧ i = j + W.length)
def Adj (ws : List Str) (z : Str) (i j : Nat) : Prop := ∃ W ∈ ws, Edge W z i j
def AdjB (ws : List Str) (W z : Str) (m : Nat) (i j : Nat) : Prop := Adj ws z i j ∨ EdgeB W z m i j
/-- the watches tell the word -/
def Told (ws : List Str) (z : Str) : Prop := Star (Adj ws z) 0 z.length
theorem Edge.symm {W z : Str} {i j : Nat} (h : Edge W z i j) : Edge W z j i := h.elim .inr .inl
theorem Adj.symm {ws : List Str} {z : Str} (i j : Nat) (h : Adj ws z i j) : Adj ws z j i := let ⟨W, m, e⟩ := h; ⟨W, m, e.symm⟩
theorem EdgeB.symm {W z : Str} {m i j : Nat} (h : EdgeB W z m i j) : EdgeB W z m j i := h.elim .inr .inl
theorem AdjB.symm {ws : List Str} {W z : Str} {m : Nat} (i j : Nat) (h : AdjB ws W z m i j) : AdjB ws W z m j i := h.elim (fun h => .inl (Adj.symm _ _ h)) fun h => .inr h.symm
theorem Adj.le {ws : List Str} {z : Str} {i j : Nat} (h : Adj ws z i j) : i ≤ z.length ∧ j ≤ z.length := by
  obtain ⟨W, _, ⟨o, e⟩ | ⟨o, e⟩⟩ := h <;> have := o.1 <;> omega
theorem adj_nil {z : Str} {i j : Nat} : ¬ Adj [] z i j := fun ⟨_, h, _⟩ => by simp at h
theorem adjB_zero {ws : List Str} {W z : Str} {i j : Nat} : AdjB ws W z 0 i j ↔ Adj ws z i j := ⟨fun h => h.elim id fun h => by rcases h with ⟨h, _⟩ | ⟨h, _⟩ <;> omega, .inl⟩
theorem adjB_all {ws : List Str} {W z : Str} {i j : Nat} {n : Nat} (hn : (n : Int) = ((z.length : Int) - (W.length : Int) + 1).toNat) : AdjB ws W z n i j ↔ Adj (ws ++ [W]) z i j := by
  constructor
  · rintro (⟨V, h, e⟩ | ⟨_, o, e⟩ | ⟨_, o, e⟩)
    · exact ⟨V, List.mem_append.mpr (.inl h), e⟩
    · exact ⟨W, List.mem_append.mpr (.inr (by simp)), .inl ⟨o, e⟩⟩
    · exact ⟨W, List.mem_append.mpr (.inr (by simp)), .inr ⟨o, e⟩⟩
  · rintro ⟨V, h, e⟩
    rcases List.mem_append.mp h with h | h
    · exact .inl ⟨V, h, e⟩
    · simp at h
      subst h
      rcases e with ⟨o, e⟩ | ⟨o, e⟩
      · exact .inr (.inl ⟨by have := o.1; omega, o, e⟩)
      · exact .inr (.inr ⟨by have := o.1; omega, o, e⟩)
theorem adjB_no {ws : List Str} {W z : Str} {m : Nat} {i j : Nat} (h : ¬ Occ W z m) : AdjB ws W z (m + 1) i j ↔ AdjB ws W z m i j := by
  unfold AdjB EdgeB
  constructor
  · rintro (a | ⟨l, o, e⟩ | ⟨l, o, e⟩)
    · exact .inl a
    · rcases Nat.lt_succ_iff_lt_or_eq.mp l with l | l
      · exact .inr (.inl ⟨l, o, e⟩)
      · exact absurd (l ▸ o) h
    · rcases Nat.lt_succ_iff_lt_or_eq.mp l with l | l
      · exact .inr (.inr ⟨l, o, e⟩)
      · exact absurd (l ▸ o) h
  · rintro (a | ⟨l, o, e⟩ | ⟨l, o, e⟩)
    · exact .inl a
    · exact .inr (.inl ⟨by omega, o, e⟩)
    · exact .inr (.inr ⟨by omega, o, e⟩)
theorem adjB_yes {ws : List Str} {W z : Str} {m : Nat} {i j : Nat} (h : Occ W z m) : AdjB ws W z (m + 1) i j ↔ AdjB ws W z m i j ∨ (i = m ∧ j = m + W.length) ∨ (j = m ∧ i = m + W.length) := by
  unfold AdjB EdgeB
  constructor
  · rintro (a | ⟨l, o, e⟩ | ⟨l, o, e⟩)
    · exact .inl (.inl a)
    · rcases Nat.lt_succ_iff_lt_or_eq.mp l with l | l
      · exact .inl (.inr (.inl ⟨l, o, e⟩))
      · exact .inr (.inl ⟨l, by omega⟩)
    · rcases Nat.lt_succ_iff_lt_or_eq.mp l with l | l
      · exact .inl (.inr (.inr ⟨l, o, e⟩))
      · exact .inr (.inr ⟨l, by omega⟩)
  · rintro ((a | ⟨l, o, e⟩ | ⟨l, o, e⟩) | ⟨l, e⟩ | ⟨l, e⟩)
    · exact .inl a
    · exact .inr (.inl ⟨by omega, o, e⟩)
    · exact .inr (.inr ⟨by omega, o, e⟩)
    · subst l; exact .inr (.inl ⟨by omega, h, e⟩)
    · subst l; exact .inr (.inr ⟨by omega, h, e⟩)
/-! ### no two alike among few -/
theorem nodup_le {α : Type} [DecidableEq α] : ∀ (l m : List α), l.Nodup → (∀ x ∈ l, x ∈ m) → l.length ≤ m.length
  | [], _, _, _ => Nat.zero_le _
  | a :: t, m, nd, h => by
    have ⟨h1, h2⟩ := List.nodup_cons.mp nd
    have ha := h a List.mem_cons_self
    have := nodup_le t (m.erase a) h2 fun x hx => (List.mem_erase_of_ne fun e : x = a => h1 (by rw [← e]; exact hx)).mpr (h x (List.mem_cons_of_mem _ hx))
    rw [List.length_erase_of_mem ha] at this
    have := List.length_pos_of_mem ha
    rw [List.length_cons]
    omega
theorem nodup_range {l : List Int} {n : Nat} (nd : l.Nodup) (h : ∀ x ∈ l, 0 ≤ x ∧ x ≤ n) : l.length ≤ n + 1 := by
  have := nodup_le l ((List.range (n + 1)).map fun i : Nat => (i : Int)) nd fun x hx => by
    have := h x hx
    exact List.mem_map.mpr ⟨x.toNat, List.mem_range.mpr (by omega), by omega⟩
  rw [List.length_map, List.length_range] at this
  exact this
/-! ### marks -/
/-- alike marks are led to one another, and the other way round -/
def Lab (R : Nat → Nat → Prop) (n : Nat) (ms : List Int) : Prop := ms.length = n + 1 ∧ ∀ i j (x y : Int), ms[i]? = some x → ms[j]? = some y → (x = y ↔ Star R i j)
theorem Lab.start {n : Nat} {R : Nat → Nat → Prop} (hR : ∀ i j, ¬ R i j) : Lab R n ((List.range (n + 1)).map fun i : Nat => (i : Int)) := by
  refine ⟨by simp, fun i j x y hx hy => ?_⟩
  have e1 : x = i := by
    rw [List.getElem?_map] at hx
    cases q : (List.range (n + 1))[i]? with
    | none => rw [q] at hx; cases hx
    | some k =>
      rw [q] at hx
      have : i = k := by
        have := List.getElem?_eq_some_iff.mp q
        obtain ⟨h, e⟩ := this
        simpa using e
      subst this
      exact (Option.some.inj hx).symm
  have e2 : y = j := by
    rw [List.getElem?_map] at hy
    cases q : (List.range (n + 1))[j]? with
    | none => rw [q] at hy; cases hy
    | some k =>
      rw [q] at hy
      have : j = k := by
        have := List.getElem?_eq_some_iff.mp q
        obtain ⟨h, e⟩ := this
        simpa using e
      subst this
      exact (Option.some.inj hy).symm
  subst e1 e2
  constructor
  · intro h
    have : i = j := by omega
    exact this ▸ .refl
  · intro h
    cases h with
    | refl => rfl
    | step _ r => exact absurd r (hR _ _)
theorem Lab.iff {R S : Nat → Nat → Prop} {n : Nat} {ms : List Int} (h : Lab R n ms) (s : ∀ x y, R x y ↔ S x y) : Lab S n ms := ⟨h.1, fun i j x y hx hy => (h.2 i j x y hx hy).trans (Star.iff s)⟩
/-- one more pair: alike already -/
theorem Lab.same {R S : Nat → Nat → Prop} {n : Nat} {ms : List Int} (h : Lab R n ms) {a b : Nat} {x : Int} (ha : ms[a]? = some x) (hb : ms[b]? = some x) (sy : ∀ x y, R x y → R y x) (s : ∀ i j, S i j ↔ R i j ∨ (i = a ∧ j = b) ∨ (j = a ∧ i = b)) : Lab S n ms := by
  refine ⟨h.1, fun i j u v hu hv => (h.2 i j u v hu hv).trans ⟨Star.mono fun i j r => (s i j).mpr (.inl r), fun q => ?_⟩⟩
  have ab : Star R a b := (h.2 a b x x ha hb).mp rfl
  clear hv
  induction q with
  | refl => exact .refl
  | step _ r ih =>
    rcases (s _ _).mp r with r | ⟨rfl, rfl⟩ | ⟨rfl, rfl⟩
    · exact .step ih r
    · exact ih.trans ab
    · exact ih.trans (ab.symm sy)
/-- .. not alike: the one mark gives way to the other -/
theorem Lab.join {R S : Nat → Nat → Prop} {n : Nat} {ms : List Int} (h : Lab R n ms) {a b : Nat} {x y : Int} (ha : ms[a]? = some x) (hb : ms[b]? = some y) (hR : ∀ i j, R i j → i ≤ n ∧ j ≤ n) (sy : ∀ x y, R x y → R y x) (s : ∀ i j, S i j ↔ R i j ∨ (i = a ∧ j = b) ∨ (j = a ∧ i = b)) :
    Lab S n (ms.map fun m => if m = y then x else m) := by
  refine ⟨by rw [List.length_map]; exact h.1, fun i j u v hu hv => ?_⟩
  have get : ∀ {i : Nat} {u : Int}, (ms.map fun m => if m = y then x else m)[i]? = some u → ∃ u0, ms[i]? = some u0 ∧ u = if u0 = y then x else u0 := fun {i u} hu => by
    rw [List.getElem?_map] at hu
    cases q : ms[i]? with
    | none => rw [q] at hu; cases hu
    | some k => rw [q] at hu; exact ⟨k, rfl, (Option.some.inj hu).symm⟩
  obtain ⟨u0, hu0, eu⟩ := get hu
  obtain ⟨v0, hv0, ev⟩ := get hv
  have up : ∀ {i j : Nat}, Star R i j → Star S i j := fun q => q.mono fun i j r => (s i j).mpr (.inl r)
  have ab : Star S a b := .one ((s a b).mpr (.inr (.inl ⟨rfl, rfl⟩)))
  have ba : Star S b a := .one ((s b a).mpr (.inr (.inr ⟨rfl, rfl⟩)))
  constructor
  · intro e
    by_cases c1 : u0 = y
    · have ib : Star S i b := up ((h.2 i b u0 y hu0 hb).mp c1)
      by_cases c2 : v0 = y
      · exact up ((h.2 i j u0 v0 hu0 hv0).mp (c1.trans c2.symm))
      · rw [if_pos c1] at eu
        rw [if_neg c2] at ev
        have aj : Star S a j := up ((h.2 a j x v0 ha hv0).mp (by omega))
        exact (ib.trans ba).trans aj
    · rw [if_neg c1] at eu
      by_cases c2 : v0 = y
      · rw [if_pos c2] at ev
        have bj : Star S b j := up ((h.2 b j y v0 hb hv0).mp c2.symm)
        have ia : Star S i a := up ((h.2 i a u0 x hu0 ha).mp (by omega))
        exact (ia.trans ab).trans bj
      · rw [if_neg c2] at ev
        exact up ((h.2 i j u0 v0 hu0 hv0).mp (by omega))
  · intro q
    have la : a ≤ n := by have := (List.getElem?_eq_some_iff.mp ha).1; have := h.1; omega
    have lb : b ≤ n := by have := (List.getElem?_eq_some_iff.mp hb).1; have := h.1; omega
    -- every spot on the way has its mark
    have key : ∀ {k : Nat}, Star S i k → ∀ w0 : Int, ms[k]? = some w0 → (if u0 = y then x else u0) = if w0 = y then x else w0 := by
      intro k q
      induction q with
      | refl =>
        intro w0 hw
        rw [hu0] at hw
        cases hw
        rfl
      | @step k l _ r ih =>
        intro w0 hw
        have inR : ∀ m : Nat, m ≤ n → ∃ m0, ms[m]? = some m0 := fun m hm => ⟨_, List.getElem?_eq_getElem (by have := h.1; omega)⟩
        rcases (s _ _).mp r with r | ⟨rfl, rfl⟩ | ⟨rfl, rfl⟩
        · obtain ⟨k0, hk⟩ := inR k (hR _ _ r).1
          rw [ih k0 hk, (h.2 k l k0 w0 hk hw).mpr (.one r)]
        · rw [ih x ha]
          rw [hb] at hw
          cases hw
          rw [if_pos rfl]
          split <;> rfl
        · rw [ih y hb]
          rw [ha] at hw
          cases hw
          rw [if_pos rfl]
          split <;> rfl
    rw [eu, ev]
    exact key q v0 hv0
end Mw

/-! Sorting of data of any depth, and by an own key function. -/
namespace Rs
open PySem PySem.W PyProof.Rows
theorem nsOne {h : Heap} {L : Addr} {m m' : Str → Option Value} : h.Ns L m → h.Ns L m' → m = m' := by
  rintro ⟨o, es, ep, e, d, _, r⟩ ⟨o', es', ep', e', d', _, r'⟩
  have : o = o' := Option.some.inj (e.symm.trans e')
  subst this
  rw [d] at d'
  injection d' with d1 d2
  subst d1
  funext x
  exact (r x).symm.trans (r' x)
theorem each_split {α β γ : Type} {R : α → γ → Prop} {S : γ → β → Prop} : ∀ {as : List α} {bs : List β}, EachIs (fun a b => ∃ c, R a c ∧ S c b) as bs → ∃ cs : List γ, EachIs R as cs ∧ EachIs S cs bs
  | _, _, .nil => ⟨[], .nil, .nil⟩
  | _, _, .cons ⟨c, h1, h2⟩ t => let ⟨cs, q1, q2⟩ := each_split t; ⟨c :: cs, .cons h1 q1, .cons h2 q2⟩
theorem each_get {α β : Type} {R : α → β → Prop} : ∀ {as : List α} {bs : List β}, EachIs R as bs → ∀ {i : Nat} {a : α}, as[i]? = some a → ∃ b, bs[i]? = some b ∧ R a b
  | _, _, .nil, _, _, h => by simp at h
  | _, _, .cons h t, 0, _, e => by
    simp at e
    subst e
    exact ⟨_, rfl, h⟩
  | _, _, .cons h t, i + 1, _, e => each_get t (i := i) (by simpa using e)
end Rs
namespace Rs
open PySem PySem.Spec PyProof.Rows L2 PySem.W
theorem each_vals {R : V → β → Prop} : ∀ {xs : List V} {us : List Value} {bs : List β}, Vals xs us → EachIs R xs bs → EachIs (fun u b => ∃ x, RelV x u ∧ R x b) us bs
  | _, _, _, .nil, .nil => .nil
  | _, _, _, .cons r rr, .cons h t => .cons ⟨_, r, h⟩ (each_vals rr t)
theorem vals_each {R : V → β → Prop} : ∀ {us : List Value} {bs : List β}, EachIs (fun u b => ∃ x, RelV x u ∧ R x b) us bs → ∃ xs : List V, Vals xs us ∧ EachIs R xs bs
  | _, _, .nil => ⟨[], .nil, .nil⟩
  | _, _, .cons ⟨x, r, h⟩ t => let ⟨xs, q1, q2⟩ := vals_each t; ⟨x :: xs, .cons r q1, .cons h q2⟩
/-- what is asked of the keys: alike, all tuples with an item or none a tuple, not deep -/
structure Keys (ds : List PyData) : Prop where
  al : AllAlike ds
  so : Sortable ds
  dp : ∀ d ∈ ds, d.depth ≤ 50
section
variable {X : Cx}
/-- sorted(xs), data of any depth -/
def rSortD (K : PySem.W.Frag) : List V → Hp → VK → Prop := fun vs H Q => ∃ (a : Addr) (xs : List V) (β : Type) (bs : List β) (k : β → PyData) (R : V → β → Prop), vs = [V.ref a] ∧ SqL K H a xs ∧ EachIs (fun x b => Dp K H x (k b) ∧ R x b) xs bs ∧ Keys (bs.map k) ∧
  ∀ (out : List V) (p : Addr) (G : Hp), EachIs (fun x b => Dp K H x (k b) ∧ R x b) out (bs.mergeSort (dataLe false k)) → H p = none → G p = some (.lst out) → Same H G → Q (.ref p) G
theorem cr_sortD (hu : X.A.units + 64 < cLine) : CallR X (.builtin "sorted") (rSortD X.K) := by
  intro pins s σ H vs us Q I r h
  obtain ⟨a, xs, β, bs, k, R, rfl, hs, he, hk, q⟩ := h
  obtain ⟨its, rv, hl, hz⟩ := I.list hs
  obtain rfl := Vals.ref1 r
  have hz' : its.length ≤ sizeLine := by rw [← rv.length]; exact hz
  have h1 : EachIs (fun u b => ∃ x, RelV x u ∧ (Dp X.K H x (k b) ∧ R x b)) its bs := each_vals rv he
  have h2 : EachIs (fun u b => ∃ as, Reads s.heap u (k b) as) its bs := h1.mono fun u b ⟨x, rx, hx, _⟩ => Dp.reads I (k b) x u hx rx
  have h3 : EachIs (fun u d => ∃ as, Reads (sortingHeap (copyHeap s.heap its) (s.heap.objs.size + 1) its) u d as) its (bs.map k) := by
    have : ∀ {as : List Value} {bs : List β}, EachIs (fun u b => ∃ as, Reads s.heap u (k b) as) as bs → EachIs (fun u d => ∃ as, Reads (sortingHeap (copyHeap s.heap its) (s.heap.objs.size + 1) its) u d as) as (bs.map k) := by
      intro as bs h
      induction h with
      | nil => exact .nil
      | cons h _ ih =>
        obtain ⟨as, r⟩ := h
        exact .cons ⟨as, PyProof.Rows.Reads.keeps (fun b o e => sorting_copy_old e) r⟩ ih
    exact this h2
  have SA : SortsAt X.prog X.w X.A.in1.in1 { s with heap := sortingHeap (copyHeap s.heap its) (s.heap.objs.size + 1) its } (dataKind (sortingHeap (copyHeap s.heap its) (s.heap.objs.size + 1) its) (bs.map k)) its := SortsAt.data (s := { s with heap := sortingHeap (copyHeap s.heap its) (s.heap.objs.size + 1) its }) h3 hk.al hk.so fun d hd => by
    have := hk.dp d hd
    simp only [units_in1]
    omega
  refine sorted_vals hl.isList SA hz' ?_
  have out := sortVals_each (κ := dataKind (sortingHeap (copyHeap s.heap its) (s.heap.objs.size + 1) its) (bs.map k)) (rev := false) (fun b => keyToks (k b)) h1 (each_of_map k (each_keys hk.al h3))
  obtain ⟨ys, ry, hy⟩ := vals_each out
  obtain ⟨ep, he'⟩ := PyProof.Rows.sortedAll_at s.heap its (sortVals (dataKind (sortingHeap (copyHeap s.heap its) (s.heap.objs.size + 1) its) (bs.map k)) false its its).toArray
  have hlen : ys.length ≤ sizeLine := by
    rw [ry.length, sortVals_length false rfl]
    exact hz'
  have hf := I.hok.fresh (Nat.le_succ s.heap.objs.size)
  exact ⟨.ref _, upd H (s.heap.objs.size + 1) (.lst ys), I.laid (t' := s.toks) (fun _ _ => PyProof.Rows.sortedAll_old) (Nat.le_succ _) ⟨hlen, _, ep, ry, he'⟩, rfl, q ys _ _ hy hf upd_same (Rd.same_upd hf)⟩
end
end Rs
namespace Rs
open PySem PySem.Spec PyProof.Rows L2 PySem.W
theorem room2 {k : Nat} {A : Around} (r : Room (k + 1) A) : Room k A.in1.in1 :=
  ⟨r.hd, by have := r.dp; show A.depth + 3 * k + 5 < _; omega, by have := r.un; show A.units + 1 + 1 + 16 * k + 200 < _; omega⟩
theorem each_imp {α β : Type} {R S : α → β → Prop} (h : ∀ a b, R a b → S a b) : ∀ {as : List α} {bs : List β}, EachIs R as bs → EachIs S as bs
  | _, _, .nil => .nil
  | _, _, .cons q t => .cons (h _ _ q) (each_imp h t)
theorem each_reads {X : Cx} {pins : List (Addr × Obj)} {σ : L2.St} {H : Hp} {s : Shared} (I : Inv X pins σ H s) {β : Type} {k : β → PyData} : ∀ {us : List Value} {vs : List V} {bs : List β}, Vals vs us → EachIs (fun x b => Dp X.K H x (k b)) vs bs → EachIs (fun u d => ∃ as, Reads s.heap u d as) us (bs.map k)
  | _, _, _, .nil, .nil => .nil
  | _, _, _, .cons r rr, .cons h t => .cons (Dp.reads I _ _ _ h r) (each_reads I rr t)
mutual
theorem Dp.same {K : PySem.W.Frag} {H H' : Hp} (s : Same H H') : ∀ (d : PyData) (v : V), Dp K H v d → Dp K H' v d
  | .none, _, h => by cases h; exact .non
  | .bool b, _, h => by cases h; exact .bl b
  | .int i, _, h => by cases h; exact .int i
  | .str x, _, h => by cases h; exact .str x
  | .list ds, _, h => by
    cases h with
    | lst hs ha => exact .lst (s.seq hs) (Dp.sameAll s ds _ ha)
  | .tuple ds, _, h => by
    cases h with
    | tup hs ha => exact .tup (Ru.same_tup s hs) (Dp.sameAll s ds _ ha)
  | .dict _, _, h => by cases h
theorem Dp.sameAll {K : PySem.W.Frag} {H H' : Hp} (s : Same H H') : ∀ (ds : List PyData) (vs : List V), DpAll K H vs ds → DpAll K H' vs ds
  | [], _, h => by cases h; exact .nil
  | d :: ds, _, h => by
    cases h with
    | cons h1 h2 => exact .cons (Dp.same s d _ h1) (Dp.sameAll s ds _ h2)
end
theorem each_snocK {β : Type} {R : V → β → Prop} {x : V} {y : β} (hxy : R x y) : ∀ {as : List V} {bs : List β}, EachIs R as bs → EachIs R (as ++ [x]) (bs ++ [y])
  | _, _, .nil => .cons hxy .nil
  | _, _, .cons h t => .cons h (each_snocK hxy t)
def rSortK (f : Addr) (sp : Sp) (K : PySem.W.Frag) : List V → List V → Hp → VK → Prop := fun vs zs H Q => ∃ (a : Addr) (xs : List V) (β : Type) (bs : List β) (k : β → PyData) (R : V → β → Prop), vs = [V.ref a] ∧ zs = [V.ref f] ∧ SqL K H a xs ∧ EachIs R xs bs ∧ Keys (bs.map k) ∧
  (∀ x b H1, Same H H1 → b ∈ bs → R x b → sp [x] H1 (fun v H2 => Same H1 H2 ∧ Dp K H2 v (k b)) (fun _ _ _ => False)) ∧
  ∀ (out : List V) (p : Addr) (G : Hp), EachIs R out (bs.mergeSort (dataLe false k)) → H p = none → G p = some (.lst out) → Same H G → Q (.ref p) G
section
variable {X : Cx} {f : Addr} {fd : FuncData} {ps : List Str} {sp : Sp} {k : Nat}
theorem cr_sortK (F : FnOk X.prog X.w X.K X.mg X.base CX0 k f fd ps sp) (hr : Room (k + 1) X.A) (hb : Binds X.K fd ps []) : CallRK X (.builtin "sorted") [Str.ofString "key"] (rSortK f sp X.K) := by
  intro pins s σ H vs zs us ws Q I r rz h
  obtain ⟨a, xs, β, bs, key, R, rfl, rfl, hs, he, hk, hkey, q⟩ := h
  obtain ⟨its, rv, hl, hz⟩ := I.list hs
  obtain rfl := Vals.ref1 r
  obtain rfl := Vals.ref1 rz
  have hz' : its.length ≤ sizeLine := by rw [← rv.length]; exact hz
  have hbl : its.length = bs.length := by rw [← rv.length, he.length]
  refine sorted_of_sort hl.isList hz' (ksk_s1 _ _) (fun _ => ksk_l1 _ _) fun E' => ?_
  show wpAny _ _ (Builtin.«list.sort» ⟨[.ref (s.heap.objs.size + 1)], [(Str.ofString "key", .ref f)]⟩) _ E' { s with heap := copyHeap s.heap its }
  rw [ksk_t1]
  unfold ksk_tree
  have hcs : (copyHeap s.heap its).objs.size = s.heap.objs.size + 2 := by
    unfold copyHeap
    rw [size_push', Heap.size_update, size_push']
  have ho := copyHeap_at s.heap its
  refine wpAny_bind (listItems_at ho rfl ?_)
  refine wpAny_bind (listUpdate_at ho rfl ?_ (by rw [List.size_toArray]; exact hz') (Nat.zero_le _))
  obtain ⟨e1, ho1⟩ : ∃ e1, ((copyHeap s.heap its).update (s.heap.objs.size + 1) (Obj.mapSeq fun _ => #[])).get? (s.heap.objs.size + 1) = some (seqObj "list" #[] e1) := ⟨_, get?_update_seq ho fun _ => #[]⟩
  refine wpAny_bind (seqEpoch_at ho1 rfl ?_)
  refine wpAny_bind (wpAny_newTuple ?_ (by show its.length ≤ _; exact hz'))
  refine wpAny_bind (wpAny_newList ?_ (Nat.zero_le _))
  refine wpAny_holding ?_
  have hks : (((copyHeap s.heap its).update (s.heap.objs.size + 1) (Obj.mapSeq fun _ => #[])).push (seqObj "tuple" its.toArray 0)).objs.size = s.heap.objs.size + 3 := by
    rw [size_push', Heap.size_update, hcs]
  have hoa : (sortingHeap (copyHeap s.heap its) (s.heap.objs.size + 1) its).get? (s.heap.objs.size + 1) = some (seqObj "list" #[] e1) :=
    Heap.get?_push_of_some _ (Heap.get?_push_of_some _ ho1)
  have hok : (sortingHeap (copyHeap s.heap its) (s.heap.objs.size + 1) its).get? (s.heap.objs.size + 3) = some (seqObj "list" #[] 0) := by
    rw [← hks]
    exact Heap.get?_push_size _ rfl
  show wpAny _ _ (ksk_rest (s.heap.objs.size + 1) (.ref f) false its.toArray e1 (.ref (((copyHeap s.heap its).update (s.heap.objs.size + 1) (Obj.mapSeq fun _ => #[])).push (seqObj "tuple" its.toArray 0)).objs.size)) _ E' { s with heap := sortingHeap (copyHeap s.heap its) (s.heap.objs.size + 1) its }
  rw [hks]
  have hk0 : ∀ b o, s.heap.get? b = some o → (sortingHeap (copyHeap s.heap its) (s.heap.objs.size + 1) its).get? b = some o := fun b o q => sorting_copy_old q
  generalize sortingHeap (copyHeap s.heap its) (s.heap.objs.size + 1) its = g0 at hoa hok hk0
  have old : ∀ b o, s.heap.get? b = some o → b < s.heap.objs.size := fun b o e => Heap.lt_size e
  have nL : @LT.lt Nat _ X.env.locals s.heap.objs.size := I.lt
  have up : ∀ c i : Nat, c < s.heap.objs.size → c ≠ s.heap.objs.size + i := fun c i h => by omega
  have pu : ∀ c i : Nat, c < s.heap.objs.size → s.heap.objs.size + i ≠ c := fun c i h => by omega
  have le0 : ∀ i : Nat, X.s_0.heap.objs.size ≤ s.heap.objs.size + i := fun i => Nat.le_trans I.sz (Nat.le_add_right _ _)
  have n13 : ¬ s.heap.objs.size + 1 = s.heap.objs.size + 3 := by omega
  have n31 : ¬ s.heap.objs.size + 3 = s.heap.objs.size + 1 := by omega
  have nC : ∀ x c, X.env.cells.lookup x = some c → c < s.heap.objs.size := fun x c e => by
    obtain ⟨v, o, ho, _⟩ := I.cell x c e
    exact Heap.lt_size ho
  have nP : ∀ p ∈ X.pn ++ pins, p.1 < s.heap.objs.size := fun p hp => Heap.lt_size (I.pin p hp).1
  have sz := I.sz
  unfold ksk_rest
  refine wpAny_bind (wpAny_rule ?_)
  first
    | rw [List.forIn_toArray]
    | (rw [← Array.forIn_toList]; simp only [List.toList_toArray])
    | rw [← Array.forIn_toList]
  refine wpAny_bind (ksk_fold (fun i s' => ∃ (Hc : Hp) (ks : List V) (kA : Array Value) (e : Nat), Inv X (pins ++ [(s.heap.objs.size + 3, seqObj "list" kA e), (s.heap.objs.size + 1, seqObj "list" #[] e1)]) σ Hc s' ∧ Same H Hc ∧ Vals ks kA.toList ∧
      EachIs (fun x b => Dp X.K Hc x (key b)) ks (bs.take i)) its 0 { s with heap := g0 } ?start ?step ?done)
  case start =>
    have I1 : Inv X pins σ H { s with heap := g0 } := I.kept (t' := s.toks) hk0
    have hf1 := I.hok.fresh (a := s.heap.objs.size + 1) (by omega)
    have hf3 := I.hok.fresh (a := s.heap.objs.size + 3) (by omega)
    refine ⟨H, [], #[], 0, I1.pins_of fun p hp => ?_, Same.refl _, .nil, by rw [List.take_zero]; exact .nil⟩
    rcases List.mem_append.mp hp with hp | hp
    · exact I1.pin p (List.mem_append_right _ hp)
    · rcases List.mem_cons.mp hp with rfl | hp
      · exact ⟨hok, hf3, pu _ 3 nL, I.nofs (by show _ ≤ s.heap.objs.size + 3; omega), fun v => by simp [seqObj]⟩
      · rw [List.mem_singleton.mp hp]
        exact ⟨hoa, hf1, pu _ 1 nL, I.nofs (by show _ ≤ s.heap.objs.size + 1; omega), fun v => by simp [seqObj]⟩
  case step =>
    rintro j u s' hu ⟨Hc, ks, kA, e, I', sm, rk, hke⟩
    simp only [Nat.zero_add] at hke ⊢
    have hj : j < its.length := (List.getElem?_eq_some_iff.mp hu).1
    obtain ⟨b, hbj⟩ : ∃ b, bs[j]? = some b := ⟨_, List.getElem?_eq_getElem (by omega)⟩
    obtain ⟨b', hbj', x, rx, hR⟩ := each_get (each_vals rv he) hu
    obtain rfl : b' = b := by rw [hbj] at hbj'; exact (Option.some.inj hbj').symm
    have hkl : kA.size ≤ its.length := by
      have h1 : ks.length = kA.size := rk.length.trans (by simp)
      have h2 := hke.length
      rw [List.length_take] at h2
      rw [← h1, h2]
      exact Nat.le_trans (Nat.min_le_right _ _) (Nat.le_of_eq hbl.symm)
    have hsp := hkey x b' Hc sm (List.mem_of_getElem? hbj) hR
    have run := F.run X.A.in1.in1 X.stack s' Hc ⟨[u], []⟩ [u] [x] _ _ (room2 hr) I'.env0.in1.in1 (by
      have := hb s' [u] I'.kIn (by have := F.len _ _ _ _ hsp; simpa using this)
      simpa using this) (.cons rx .nil) hsp
    refine wpAny_bind (wpAny_attempt (wpAny_mono (Q := fun v s2 => EP X (pins ++ [(s.heap.objs.size + 3, seqObj "list" kA e), (s.heap.objs.size + 1, seqObj "list" #[] e1)]) σ (fun v H2 => Same Hc H2 ∧ Dp X.K H2 v (key b')) v s2) (E := fun _ _ => False) (wpAny_call (codeAny_mono run fun r s2 hq => ?_)) (fun v s2 he => ?_) fun _ _ hF => hF.elim))
    · cases r with
      | error e => exact hq
      | ok fl =>
        cases fl with
        | ret u => exact I'.after hq
        | next => exact False.elim hq
        | brk => exact False.elim hq
        | cont => exact False.elim hq
    · obtain ⟨kv, H2, I2, rkv, sm2, hd⟩ := he
      have pk := I2.pin (s.heap.objs.size + 3, seqObj "list" kA e) (List.mem_append_right _ (List.mem_append_right _ (.head _)))
      have pa := I2.pin (s.heap.objs.size + 1, seqObj "list" #[] e1) (List.mem_append_right _ (List.mem_append_right _ (.tail _ (.head _))))
      have s1 := Heap.SameBut.update s2.heap (s.heap.objs.size + 3) (Obj.mapSeq (·.push v))
      obtain ⟨c2, hc2⟩ : ∃ c2, (s2.heap.update (s.heap.objs.size + 3) (Obj.mapSeq (·.push v))).get? (s.heap.objs.size + 3) = some (seqObj "list" (kA.push v) c2) := ⟨_, get?_update_seq pk.1 (·.push v)⟩
      have I3 : Inv X pins σ H2 s2 := I2.pins_of fun p hp => I2.pin p (List.mem_append_right _ (List.mem_append_left _ hp))
      have I4 : Inv X pins σ H2 { s2 with heap := s2.heap.update (s.heap.objs.size + 3) (Obj.mapSeq (·.push v)), toks := s2.toks } := I3.turned (it := s.heap.objs.size + 3) (fun b o n q => (s1.2 b n).trans q) pk.2.1 pk.2.2.1 (.inr (le0 3)) (fun x c q => up _ 3 (nC x c q)) fun p hp => up _ 3 (nP p hp)
      try dsimp only
      refine wpAny_bind (listUpdate_at pk.1 rfl ?_ (Nat.le_trans hkl hz') (Nat.le_trans (Nat.le_of_eq (Array.size_push ..)) (Nat.succ_le_succ (Nat.le_trans hkl hz'))))
      refine wpAny_pure ⟨rfl, H2, ks ++ [kv], kA.push v, c2, I4.pins_of fun p hp => ?_, sm.trans sm2, ?_, ?_⟩
      · rcases List.mem_append.mp hp with hp | hp
        · exact I4.pin p (List.mem_append_right _ hp)
        · rcases List.mem_cons.mp hp with rfl | hp
          · exact ⟨hc2, pk.2.1, pk.2.2.1, pk.2.2.2.1, fun v => by simp [seqObj]⟩
          · rw [List.mem_singleton.mp hp]
            exact ⟨(s1.2 _ n13).trans pa.1, pa.2⟩
      · rw [Array.toList_push]
        exact rk.append (.cons rkv .nil)
      · have ek : bs.take (j + 1) = bs.take j ++ [b'] := by rw [List.take_add_one, hbj]; simp
        rw [ek]
        exact each_snocK (R := fun x b => Dp X.K H2 x (key b)) hd (each_imp (R := fun x b => Dp X.K Hc x (key b)) (fun x b q => Dp.same sm2 _ _ q) hke)
  case done =>
    rintro s' ⟨Hc, ks, kA, e, I', sm, rk, hke⟩
    have hke' : EachIs (fun x b => Dp X.K Hc x (key b)) ks bs := by
      have e3 : bs.take (0 + its.length) = bs := List.take_of_length_le (by omega)
      rw [e3] at hke
      exact hke
    have pk := I'.pin (s.heap.objs.size + 3, seqObj "list" kA e) (List.mem_append_right _ (List.mem_append_right _ (.head _)))
    have pa := I'.pin (s.heap.objs.size + 1, seqObj "list" #[] e1) (List.mem_append_right _ (List.mem_append_right _ (.tail _ (.head _))))
    have hsz : kA.size = its.length := by
      have h1 : ks.length = kA.size := rk.length.trans (by simp)
      have h2 := hke'.length
      exact h1.symm.trans (h2.trans hbl.symm)
    have rd := each_reads I' rk hke'
    try dsimp only
    refine wpAny_bind (listItems_at pk.1 rfl ?_)
    have SA : SortsAt X.prog X.w X.A.in1.in1 s' (dataKind s'.heap (bs.map key)) kA.toList := SortsAt.data rd hk.al hk.so fun d hd => by
      have h1 := hk.dp d hd
      have h2 := hr.un
      simp only [units_in1]
      omega
    obtain ⟨m, Fr0⟩ := I'.fr
    have hiB : ∀ i : Nat, X.base.get? (s.heap.objs.size + i) = none := fun i => by
      cases q : X.base.get? (s.heap.objs.size + i) with
      | none => rfl
      | some o =>
        exact absurd (Nat.lt_of_le_of_lt (Nat.le_add_right _ _) (Heap.lt_size (I.bk _ o q))) (Nat.lt_irrefl _)
    let rs := (allNews X.base s'.heap X.env.locals).filter fun p => decide (p.1 ≠ s.heap.objs.size + 3 ∧ p.1 ≠ s.heap.objs.size + 1)
    have hrs : ∀ p ∈ rs, p.1 ≠ s.heap.objs.size + 3 ∧ p.1 ≠ s.heap.objs.size + 1 := fun p hp => of_decide_eq_true (List.mem_filter.mp hp).2
    have N0 : News X.base X.env.locals s'.heap (rs ++ [(s.heap.objs.size + 3, seqObj "list" kA e), (s.heap.objs.size + 1, seqObj "list" #[] e1)]) := fun p hp => by
      rcases List.mem_append.mp hp with hp | hp
      · exact news_all p (List.mem_filter.mp hp).1
      · rcases List.mem_cons.mp hp with rfl | hp
        · exact ⟨pk.1, pk.2.2.1, hiB 3⟩
        · rw [List.mem_singleton.mp hp]
          exact ⟨pa.1, pa.2.2.1, hiB 1⟩
    refine key_end (κ := dataKind s'.heap (bs.map key)) Fr0 N0 n31 (fun p hp => (hrs p hp).1) (fun p hp => (hrs p hp).2) SA hsz hz' fun h' tk ep F' N' => ⟨rfl, ?_⟩
    have kp : ∀ c o, c ≠ X.env.locals → c ≠ s.heap.objs.size + 3 → c ≠ s.heap.objs.size + 1 → s'.heap.get? c = some o → h'.get? c = some o := fun c o n0 n1 n2 q => by
      cases z : X.base.get? c with
      | some u =>
        have := I'.bk c u z
        rw [q] at this
        cases this
        exact F'.keep c _ z
      | none => exact (N' (c, o) (List.mem_cons_of_mem _ (List.mem_filter.mpr ⟨mem_allNews n0 z q, decide_eq_true ⟨n1, n2⟩⟩))).1
    have ha' := (N' _ List.mem_cons_self).1
    have out := sortVals_each (κ := dataKind s'.heap (bs.map key)) (rev := false) (fun b => keyToks (key b)) (each_vals rv he) (each_of_map key (each_keys hk.al rd))
    obtain ⟨ys, ry, hy⟩ := vals_each out
    have hlen : ys.length ≤ sizeLine := by
      rw [ry.length, sortVals_length false (by rw [Array.length_toList]; exact hsz)]
      exact hz'
    have I3 : Inv X pins σ Hc s' := I'.pins_of fun p hp => I'.pin p (List.mem_append_right _ (List.mem_append_left _ hp))
    have fin : Inv X pins σ (upd Hc (s.heap.objs.size + 1) (.lst ys)) { s' with heap := h', gens := s'.gens, drawn := s'.drawn, toks := tk } := by
      have hna : Hc (s.heap.objs.size + 1) = none := pa.2.1
      have hnk : Hc (s.heap.objs.size + 3) = none := pk.2.1
      refine I3.step (ch := [s.heap.objs.size + 3, s.heap.objs.size + 1]) (fun b hb => ?_) (fun b o nl _ hc q _ => kp b o nl (fun z => hc (by simp [z])) (fun z => hc (by simp [z])) q) (fun b o nl _ hc q _ => ⟨o.slots, kp b o nl (fun z => hc (by simp [z])) (fun z => hc (by simp [z])) q⟩)
        (fun b o hc q n => ?_) (fun b o hc q => ?_) (fun b xs q => by rw [upd_ne (ne_of_none q hna)]; exact q) (fun b o u q => by rw [upd_ne (ne_of_none q hna)]; exact q) (fun b ps q => ⟨#[], by rw [upd_ne (ne_of_none q hna), q]; simp⟩) (fun m hm => ?_) (fun b u q => ?_) I3.bare
      · have : b = s.heap.objs.size + 3 ∨ b = s.heap.objs.size + 1 := by simpa using hb
        rcases this with rfl | rfl
        · exact ⟨.inr (le0 3), pu _ 3 nL, fun x c q => up _ 3 (nC x c q), fun p hp => up _ 3 (nP p hp)⟩
        · exact ⟨.inr (le0 1), pu _ 1 nL, fun x c q => up _ 1 (nC x c q), fun p hp => up _ 1 (nP p hp)⟩
      · rw [upd_ne (fun z => hc (by simp [z]))]
        exact n
      · by_cases hbl : b = X.env.locals
        · obtain ⟨o', _, _, ho', _⟩ := F'.ns
          exact ⟨o', by rw [hbl]; exact ho'⟩
        · exact ⟨o, kp b o hbl (fun z => hc (by simp [z])) (fun z => hc (by simp [z])) q⟩
      · rw [nsOne hm Fr0.ns]
        exact F'.ns
      · by_cases hba : b = s.heap.objs.size + 1
        · subst hba
          rw [upd_same] at q
          cases q
          exact ⟨hlen, _, ep, ry, ha'⟩
        · rw [upd_ne hba] at q
          refine (I3.hok b u q).stay (fun c v hc r => kp c v ?_ ?_ ?_ r) (fun c r => by rw [upd_ne (ne_of_none r hna)]; exact r) fun c xs r => by rw [upd_ne (ne_of_none r hna)]; exact r
          · rcases hc with z | z
            · rw [z]; exact ne_of_none q I3.free
            · exact ne_of_none z I3.free
          · rcases hc with z | z
            · rw [z]; exact ne_of_none q hnk
            · exact ne_of_none z hnk
          · rcases hc with z | z
            · rw [z]; exact hba
            · exact ne_of_none z hna
    exact ⟨.ref _, _, fin, rfl, q ys _ _ hy (I.hok.fresh (by omega)) upd_same fun b o z => by rw [upd_ne (ne_of_none (sm b o z) pa.2.1)]; exact sm b o z⟩
end
end Rs

/-! Further readings: zip of tuples, comprehensions that make dicts, locks, sorting. -/
namespace Rw
open PySem PySem.Spec PyProof.Rows L2 Rd
variable {X : Cx} {D : Ends} {σ : L2.St} {H : Hp} {K : PySem.W.Frag}
theorem walk_zipT {a b : Addr} {xs ys : List V} {n : Nat} (hn : n = min xs.length ys.length) : Walk (RZ.ItzT K a b) n (fun H => SqT K H a xs ∧ SqT K H b ys) (YPair (fun i => xs[i]?) (fun i => ys[i]?)) := by
  subst hn
  refine ⟨fun i H hi q => ⟨xs, ys, xs[i]'(by omega), ys[i]'(by omega), q.1, q.2, List.getElem?_eq_getElem _, List.getElem?_eq_getElem _⟩, fun H q => ⟨xs, ys, q.1, q.2, by omega⟩, ?_⟩
  rintro i H v H' _ q ⟨T, x, y, h1, h2, h3, h4, h5⟩
  exact ⟨T, x, y, h1, h2, h3, h4 xs q.1, h5 ys q.2⟩
theorem zipH {ta : TA} {R : It → Hp → Prop} (h : ta σ H fun vs H1 => ∃ a b xs ys, vs = [.ref a, .ref b] ∧ ((SqL K H1 a xs ∧ SqL K H1 b ys ∧ R (Itz K a b) H1) ∨ (SqT K H1 a xs ∧ SqT K H1 b ys ∧ R (RZ.ItzT K a b) H1))) : RZ.iZipA K ta σ H R := h
theorem zipT {a b : Addr} {xs ys : List V} {P Q : Addr → Addr → Prop} (h1 : SqT K H a xs) (h2 : SqT K H b ys) (h : Q a b) : ∃ a' b' xs ys, [V.ref a, V.ref b] = [.ref a', .ref b'] ∧ ((SqL K H a' xs ∧ SqL K H b' ys ∧ P a' b') ∨ (SqT K H a' xs ∧ SqT K H b' ys ∧ Q a' b')) :=
  ⟨a, b, xs, ys, rfl, .inr ⟨h1, h2, h⟩⟩
theorem slT {a : Addr} {xs : List V} {lo hi : Option Int} {Q : VK} (hp : SqT K H a xs) (hw : ¬ (HT.sIx xs.length 0 lo = 0 ∧ HT.sIx xs.length xs.length hi = xs.length)) (h : NewQ (.tup (cutV xs lo hi)) Q H) : rSlT K (.ref a) lo hi H Q := ⟨a, xs, rfl, hp, hw, h⟩
theorem sl1 {a : Addr} {xs : List V} {Q : VK} (hp : SqT K H a xs) (n0 : xs ≠ []) (h : NewQ (.tup xs.tail) Q H) : rSlT K (.ref a) (some 1) none H Q := by
  have l : 1 ≤ xs.length := Nat.one_le_iff_ne_zero.mpr fun e => n0 (List.eq_nil_of_length_eq_zero e)
  have e1 : HT.sIx xs.length 0 (some ((1 : Nat) : Int)) = 1 := by rw [HT.sIx_nat]; omega
  refine slT hp (fun ⟨e, _⟩ => ?_) ?_
  · have e' : HT.sIx xs.length 0 (some ((1 : Nat) : Int)) = 0 := e
    omega
  · have e : cutV xs (some 1) none = xs.tail := by
      show (xs.drop (HT.sIx xs.length 0 (some ((1 : Nat) : Int)))).take (xs.length - HT.sIx xs.length 0 (some ((1 : Nat) : Int))) = xs.tail
      rw [e1, List.drop_one]
      exact List.take_of_length_le (by rw [List.length_tail]; exact Nat.le_refl _)
    rw [e]
    exact h
/-! ### locks -/
def LkE (t : TE) (d : Addr) (u : HO) (σ : L2.St) (H : Hp) (Q : VK) : Prop := ∀ od, t σ (upd H d (.frz od u)) fun v H' => H' d = some (.frz od u) ∧ Q v (upd H' d u)
theorem lockE {t : TE} {d : Addr} {u : HO} {Q : VK} (e : H d = some u) (m : Mut (some u)) (h : ∀ (od : Obj) (G : Hp), G d = some (.frz od u) → (∀ b, b ≠ d → G b = H b) → t σ G fun v H' => H' d = some (.frz od u) ∧ Q v (upd H' d u)) : tLockE t σ H Q :=
  ⟨d, u, e, m, fun od => h od _ upd_same fun b hb => upd_ne hb⟩
theorem itemsH {td : TE} {R : It → Hp → Prop} (h : td σ H fun x H1 => ∃ d o kvs, x = .ref d ∧ H1 d = some (.frz o (.dK kvs)) ∧ R (Iti d o kvs) H1) : iItems td σ H R := h
theorem itemsX {d : Addr} {od : Obj} {kvs : List (Key × V)} {P : Addr → Obj → List (Key × V) → Prop} (e : H d = some (.frz od (.dK kvs))) (h : P d od kvs) : ∃ d' o kvs, V.ref d = .ref d' ∧ H d' = some (.frz o (.dK kvs)) ∧ P d' o kvs := ⟨d, od, kvs, rfl, e, h⟩
theorem keysH {td : TE} {R : It → Hp → Prop} (h : td σ H fun x H1 => ∃ d o, x = .ref d ∧ ((∃ kvs, H1 d = some (.frz o (.dK kvs)) ∧ R (Itk d o kvs) H1) ∨ ∃ kvs, H1 d = some (.frz o (.dT kvs)) ∧ R (Itkt d o kvs) H1)) : iKeys td σ H R := h
theorem keysX {d : Addr} {od : Obj} {kvs : List (Key × V)} {P : Addr → Obj → List (Key × V) → Prop} {P' : Addr → Obj → List (List Key × V) → Prop} (e : H d = some (.frz od (.dK kvs))) (h : P d od kvs) : ∃ d' o, V.ref d = .ref d' ∧ ((∃ kvs, H d' = some (.frz o (.dK kvs)) ∧ P d' o kvs) ∨ ∃ kvs, H d' = some (.frz o (.dT kvs)) ∧ P' d' o kvs) := ⟨d, od, rfl, .inl ⟨kvs, e, h⟩⟩
/-! ### dict comprehensions -/
section
variable {X : Cx}
theorem ps_setDc {i : Nat} {y : Str} {py : Pos} {kx vx tg iter : Expr} {ifs : List Expr} {scope : Scope} {own : List (Str × Nat)} {pos spos : Pos} {wi : TI} {g : TG} {tt : TT} {tk tv : TE} (hc : X.calm = true) (hN : X.N.Nodup) (hy : X.N[i]? = some y) (hyl : X.env.scope.names.lookup y = some .local)
    (hsw : swapsWith (.DictComp kx vx [⟨tg, iter, ifs, 0⟩] scope pos) (some (.Name y py)) spos.line X.env = pure true) (hi : PI X tg iter wi) (ok : BlkOk X.N X.env.scope scope own)
    (hg : ∀ (s : Shared) (H : Hp) (C : Addr) (cl : List (Str × Addr)) (fp : List Addr), PG (X.blk s H scope (compEnvC scope cl C X.env) fp) tg g)
    (ht : ∀ (s : Shared) (H : Hp) (C : Addr) (cl : List (Str × Addr)) (fp : List Addr), PTs (X.blk s H scope (compEnvC scope cl C X.env) fp) ifs tt)
    (hk : ∀ (s : Shared) (H : Hp) (C : Addr) (cl : List (Str × Addr)) (fp : List Addr), PE (X.blk s H scope (compEnvC scope cl C X.env) fp) kx tk)
    (he : ∀ (s : Shared) (H : Hp) (C : Addr) (cl : List (Str × Addr)) (fp : List Addr), PE (X.blk s H scope (compEnvC scope cl C X.env) fp) vx tv) (hs : ∀ x, foldedSetIterable iter X.env x = pure x := by intro _; rfl) :
    PS X (.Assign [.Name y py] (.DictComp kx vx [⟨tg, iter, ifs, 0⟩] scope pos) spos) (tAsg (tDc wi g tt tk tv (own.map (·.2))) (gName i)) := by
  refine ⟨fun pins s σ H D I h => ?_⟩
  have h' : tDc wi g tt tk tv (own.map (·.2)) σ H (fun x H1 => gName i x σ H1 D.nx) := h
  rw [exec_Assign_Name_used _ _ _ _ hsw]
  refine wpAny_bind (wpAny_standAt (wpAny_bind ?_))
  show wpAny _ _ (comprehension (.DictComp kx vx [⟨tg, iter, ifs, 0⟩] scope pos) scope X.env (firstIterPos [⟨tg, iter, ifs, 0⟩] pos) newDict false (eval iter X.env) (some (assign (.Name y py) X.env)) >>= fun _ => pure ()) _ _ s
  refine wpAny_bind (thn (dc_core (use := some (assign (.Name y py) X.env)) (Qf := fun _ s' => SP X pins D .next s') hc hN I hi ok hg ht hk he hs h' fun L C s1 m H1 I1 q hn f => ?_) fun _ s2 hq => wpAny_pure (wpAny_pure hq))
  refine (wpAny_assign_Name (store_ok2 (v := V.ref L) I1 hN hy (.inl hyl) rfl (fun s2 I2 w => ?_) (.inr hyl)) : wpAny _ _ (assign (.Name y py) X.env (.ref L)) _ _ _)
  obtain ⟨b, sb, hb⟩ := w
  obtain ⟨f0, f1, f2, f3, f4, f5⟩ := f
  have ne : C ≠ b := hb.elim (fun z => z ▸ f1) fun z e => f4 y b z e.symm
  exact ⟨m, hn.sameBut sb ne, fun h3 sb3 => ⟨_, H1, I2.turned (t' := s2.toks) (fun c o n e => (sb3.2 c n).trans e) f0 f1 f3 f4 f5, q⟩⟩
theorem sw_dc {kx vx : Expr} {gs : List Comprehension} {scope : Scope} {pos py : Pos} {y : Str} {l : Nat} {env : Env} (hk : env.scope.kind = .function) (hy : env.scope.names.lookup y = some .local) (hl : (py.line == pos.line) = true)
    (ha : (scope.names.any fun (n, k) => n == y && (k == .local || k == .cell)) = false) : swapsWith (.DictComp kx vx gs scope pos) (some (.Name y py)) l env = pure true := by
  have k1 : env.kindOf y = some .local := hy
  have k2 : env.blockKind = .function := by unfold Env.blockKind; rw [hk]; rfl
  unfold swapsWith
  simp only [k2, k1, ha, Expr.pos, hl]
  rfl
end
def Dc (J : It) (g : TG) (tt : TT) (tk tv : TE) (vs : List Nat) (σ : L2.St) (H1 : Hp) (Q : VK) : Prop := ∀ D, H1 D = none → ∃ W : Nat → Nat → Hp → Prop, (∃ m, W 0 m (upd H1 D (.dK []))) ∧ ∀ i m H, W i m H →
  (J.stop i H ∧ Q (.ref D) H) ∨ (J.go i H ∧ ∃ Nx : Hp → Prop, (∀ H', Nx H' → ∃ m', m' < m ∧ W (i + 1) m' H') ∧ ∀ x H', J.yld i H x H' → g x (wipe σ vs) H' fun σ2 H2 => wipe σ2 vs = wipe σ vs ∧ tt σ2 H2 fun b H3 =>
    if b = true then tk σ2 H3 fun y H4 => tv σ2 H4 fun z H5 => ∃ kvs k, y = kV k ∧ H5 D = some (.dK kvs) ∧ kvs.length < sizeLine ∧ Nx (upd H5 D (.dK (putK kvs k z))) else Nx H3)
theorem dc {wi : TI} {g : TG} {tt : TT} {tk tv : TE} {vs : List Nat} {Q : VK} (h : wi σ H fun J H1 => Dc J g tt tk tv vs σ H1 Q) : tDc wi g tt tk tv vs σ H Q := h
def DcPut (D : Addr) (H1 : Hp) (R : Nat → List (Key × V) → Hp → Prop) (i : Nat) (y z : V) (H5 : Hp) : Prop := ∃ kvs k, y = kV k ∧ H5 D = some (.dK kvs) ∧ kvs.length < sizeLine ∧ ∃ kvs', upd H5 D (.dK (putK kvs k z)) D = some (.dK kvs') ∧ Same H1 (upd H5 D (.dK (putK kvs k z))) ∧ R (i + 1) kvs' (upd H5 D (.dK (putK kvs k z)))
def DcNo (D : Addr) (H1 : Hp) (R : Nat → List (Key × V) → Hp → Prop) (i : Nat) (H3 : Hp) : Prop := ∃ kvs', H3 D = some (.dK kvs') ∧ Same H1 H3 ∧ R (i + 1) kvs' H3
theorem dcPut {D : Addr} {H1 H5 : Hp} {R : Nat → List (Key × V) → Hp → Prop} {i : Nat} {k : Key} {z : V} {kvs : List (Key × V)} (hD : H5 D = some (.dK kvs)) (nD : H1 D = none) (s : Same H1 H5) (hz : kvs.length < sizeLine) (r : ∀ G : Hp, G D = some (.dK (putK kvs k z)) → (∀ b, b ≠ D → G b = H5 b) → R (i + 1) (putK kvs k z) G) : DcPut D H1 R i (kV k) z H5 :=
  ⟨kvs, k, rfl, hD, hz, _, upd_same, fun b o e => by rw [upd_ne (ne_of_none e nD)]; exact s b o e, r _ upd_same fun b hb => upd_ne hb⟩
theorem dcS {J : It} {n : Nat} {G : Hp → Prop} {Y : Nat → Hp → V → Hp → Prop} (w : Walk J n G Y) {g : TG} {tt : TT} {tk tv : TE} {vs : List Nat} {H1 : Hp} {Q : VK} (hG : ∀ H, Same H1 H → G H) (R : Addr → Nat → List (Key × V) → Hp → Prop)
    (r0 : ∀ (D : Addr) (G : Hp), H1 D = none → G D = some (.dK []) → Same H1 G → R D 0 [] G)
    (hs : ∀ (D : Addr) i x H H' kvs, H1 D = none → i < n → H D = some (.dK kvs) → Same H1 H → R D i kvs H → Y i H x H' → g x (wipe σ vs) H' fun σ2 H2 => wipe σ2 vs = wipe σ vs ∧ tt σ2 H2 fun b H3 =>
      if b = true then tk σ2 H3 fun y H4 => tv σ2 H4 fun z H5 => DcPut D H1 (R D) i y z H5 else DcNo D H1 (R D) i H3)
    (hd : ∀ (D : Addr) kvs H, H1 D = none → H D = some (.dK kvs) → Same H1 H → R D n kvs H → Q (.ref D) H) : Dc J g tt tk tv vs σ H1 Q := fun D nD => by
  refine ⟨fun i m H => m = n - i ∧ i ≤ n ∧ ∃ kvs, H D = some (.dK kvs) ∧ Same H1 H ∧ R D i kvs H, ⟨n, by simp, Nat.zero_le _, [], upd_same, same_upd nD, r0 D _ nD upd_same (same_upd nD)⟩, ?_⟩
  rintro i m H ⟨rfl, hi, kvs, h1, h2, h3⟩
  have q := hG H h2
  by_cases hlt : i < n
  · refine .inr ⟨w.goes i H hlt q, fun H => ∃ kvs, H D = some (.dK kvs) ∧ Same H1 H ∧ R D (i + 1) kvs H, fun H' p' => ⟨n - (i + 1), by omega, rfl, hlt, p'⟩, fun x H' y => ?_⟩
    exact hs D i x H H' kvs nD hlt h1 h2 h3 (w.yields i H x H' hlt q y)
  · have e : i = n := by omega
    subst e
    exact .inl ⟨w.stops H q, hd D kvs H nD h1 h2 h3⟩
/-! ### sorted -/
theorem sortD {β : Type} {a : Addr} {xs : List V} {bs : List β} {Q : VK} (k : β → PyData) (R : V → β → Prop) (hs : SqL K H a xs) (he : PySem.W.EachIs (fun x b => Dp K H x (k b) ∧ R x b) xs bs) (hk : Rs.Keys (bs.map k))
    (h : ∀ (out : List V) (p : Addr) (G : Hp), PySem.W.EachIs (fun x b => Dp K H x (k b) ∧ R x b) out (bs.mergeSort (PySem.W.dataLe false k)) → H p = none → G p = some (.lst out) → Same H G → Q (.ref p) G) : Rs.rSortD K [.ref a] H Q :=
  ⟨a, xs, β, bs, k, R, rfl, hs, he, hk, h⟩
def SortK (f : Addr) (sp : Sp) (K : PySem.W.Frag) (vs zs : List V) (H : Hp) (Q : VK) : Prop := Rs.rSortK f sp K vs zs H Q
theorem ckw {r : List V → List V → Hp → VK → Prop} {t tk : TA} {Q : VK} (h : t σ H fun vs H1 => tk σ H1 fun zs H2 => r vs zs H2 Q) : tCKw r t tk σ H Q := h
theorem sortK {β : Type} {f : Addr} {sp : Sp} {a : Addr} {xs : List V} {bs : List β} {Q : VK} (k : β → PyData) (R : V → β → Prop) (hs : SqL K H a xs) (he : PySem.W.EachIs R xs bs) (hk : Rs.Keys (bs.map k))
    (hf : ∀ x b H1, Same H H1 → b ∈ bs → R x b → sp [x] H1 (fun v H2 => Same H1 H2 ∧ Dp K H2 v (k b)) (fun _ _ _ => False))
    (h : ∀ (out : List V) (p : Addr) (G : Hp), PySem.W.EachIs R out (bs.mergeSort (PySem.W.dataLe false k)) → H p = none → G p = some (.lst out) → Same H G → Q (.ref p) G) : Rs.rSortK f sp K [.ref a] [.ref f] H Q :=
  ⟨a, xs, β, bs, k, R, rfl, rfl, hs, he, hk, hf, h⟩
def DClr : V → List V → Hp → VK → Prop := rDClear
theorem clr {a : Addr} {kvs : List (Key × V)} {Q : VK} (e : H a = some (.dK kvs)) (h : ∀ G : Hp, G a = some (.dK []) → (∀ b, b ≠ a → G b = H b) → Q .non G) : rDClear (.ref a) [] H Q := ⟨a, kvs, rfl, rfl, e, h _ upd_same fun b hb => upd_ne hb⟩
end Rw
namespace Rd
open PySem PySem.Spec PyProof.Rows L2
variable {σ : L2.St} {H : Hp} {K : PySem.W.Frag}
theorem notT {ta : TE} {Q : VK} (h : ta σ H fun x H1 => ∃ k, TruV K x H1 k ∧ Q (.bl (!k)) H1) : tNotT K ta σ H Q := h
theorem yes {c A B : Prop} {i : Decidable c} (h : c) (a : A) : @ite Prop c i A B := by rw [if_pos h]; exact a
theorem no {c A B : Prop} {i : Decidable c} (h : ¬ c) (a : B) : @ite Prop c i A B := by rw [if_neg h]; exact a
theorem ifX {x : V} {i : Decidable (x = V.non)} {A B : Prop} (n : x ≠ .non) (h : B) : @ite Prop (x = V.non) i A B := by rw [if_neg n]; exact h
theorem ifR {a : Addr} {i : Decidable (V.ref a = V.non)} {A B : Prop} (h : B) : @ite Prop (V.ref a = V.non) i A B := ifX (by intro e; cases e) h
theorem ifI {a : Int} {i : Decidable (V.int a = V.non)} {A B : Prop} (h : B) : @ite Prop (V.int a = V.non) i A B := ifX (by intro e; cases e) h
theorem ifT {a : Str} {i : Decidable (V.str a = V.non)} {A B : Prop} (h : B) : @ite Prop (V.str a = V.non) i A B := ifX (by intro e; cases e) h
theorem ifN {i : Decidable (V.non = V.non)} {A B : Prop} (h : A) : @ite Prop (V.non = V.non) i A B := by rw [if_pos rfl]; exact h
theorem orTH {ta tb : TE} {Q : VK} (h : ta σ H fun x H1 => ∃ k, TruV K x H1 k ∧ if k = true then Q x H1 else tb σ H1 Q) : tOrT K ta tb σ H Q := h
end Rd

/-! The number of unlike texts: len(set(xs)) where no text stands twice. -/
namespace Re
open PySem PySem.Spec PyProof.Rows L2
section
variable {prog : Program} {w : World} {A : Around} {R : Result → Shared → Prop} {I : Addr} {fp wr : List Addr} {G : Array GenState → Array GenState → Prop} {P : Nat → Value → Prop} {St : Nat → Shared → Prop}
def Upto (xs : List Str) (i : Nat) : Str → Bool := fun y => (xs.take i).any (· == y)
theorem upto_step {xs : List Str} {i : Nat} {x : Str} (h : xs[i]? = some x) (y : Str) : (Upto xs i y || decide (y = x)) = Upto xs (i + 1) y := by
  unfold Upto
  rw [Rd.take_snoc h, List.any_append, Bool.eq_iff_iff]
  simp only [Bool.or_eq_true, decide_eq_true_eq, List.any_cons, List.any_nil, Bool.or_false, beq_iff_eq]
  exact or_congr_right eq_comm
theorem upto_new {xs : List Str} {i : Nat} {x : Str} (nd : xs.Nodup) (h : xs[i]? = some x) : Upto xs i x = false := by
  refine Bool.eq_false_iff.mpr fun q => ?_
  obtain ⟨y, m, e⟩ := List.any_eq_true.mp q
  rw [beq_iff_eq] at e
  subst e
  exact Rd.nodup_take nd h m
/-- the loop that fills a set with unlike texts -/
theorem fill {xs : List Str} (W : WalksS prog w A.in1 I fp wr G xs.length P St) (D : Addr) (out : D ∉ fp) (nd : xs.Nodup) (room : xs.length + 1 < scanBound)
    (val : ∀ i v, P i v → ∃ x t, xs[i]? = some x ∧ v = .str x t) (left : Nat) : ∀ (i : Nat) (s : Shared), xs.length - i = left → i ≤ xs.length → St i s → s.heap.SetOf (strKind prog w) D (Upto xs i) i →
      (∀ s', Moved (D :: wr) G s s' → s'.heap.SetOf (strKind prog w) D (Upto xs xs.length) xs.length → R (.ok (.ret .none)) s') → codeAny (model prog w) A (.builtin "set.update.loop" ⟨[.ref D, .ref I], []⟩) R s := by
  have more : ∀ b ∈ wr, b ∈ D :: wr := fun b h => .tail _ h
  have stay : ∀ {s s' : Shared} {i : Nat}, Moved wr G s s' → s.heap.SetOf (strKind prog w) D (Upto xs i) i → s'.heap.SetOf (strKind prog w) D (Upto xs i) i :=
    fun m ⟨o, es, ep, t, h, r⟩ => ⟨o, es, ep, t, m.heap D _ (fun z => out (W.sub _ z)) h, r⟩
  induction left with
  | zero =>
    intro i s e le st hD k
    obtain rfl : i = xs.length := by omega
    refine codeAny_builtin F.entry_set_update_loop ?_
    rw [Around.under_plainId F.plain_set_update_loop _]
    show wpAny _ A.in1 (pyNext (.ref I) >>= _) _ _ s
    exact wpAny_bind (W.done s _ _ st fun s' m => wpAny_pure (k s' (m.mono more) (stay m hD)))
  | succ left ih =>
    intro i s e le st hD k
    have lt : i < xs.length := by omega
    refine codeAny_builtin F.entry_set_update_loop ?_
    rw [Around.under_plainId F.plain_set_update_loop _]
    show wpAny _ A.in1 (pyNext (.ref I) >>= _) _ _ s
    refine wpAny_bind (W.item i s _ _ lt st fun v s' hv st' m => ?_)
    obtain ⟨x, t, hx, rfl⟩ := val i v hv
    have hD' := stay m hD
    show wpAny _ A.in1 (holding [Value.str x t] (setAdd D (.str x t)) >>= _) _ _ s'
    refine wpAny_bind (wpAny_holding ?_)
    unfold setAdd
    refine wpAny_holding (wpAny_bind ((strKind prog w).pyHash (k := x) (strKind_is _ _ _ _) ?_))
    refine wpAny_setAddHashed_of (knd := strKind prog w) (s := { s' with toks := s'.toks + 1 }) (strKind_is _ _ _ _) rfl hD' (by omega) fun h' but hN => ?_
    rw [upto_new nd hx] at hN
    refine wpAny_pure ⟨plainId_quiet F.plain_set_update_loop _, ih (i + 1) _ (by omega) lt (W.frame _ s' _ _ st' (Nat.le_succ _) fun b hb o e => ?_) (SetOf_congr hN (upto_step hx) rfl) fun s2 m2 hS2 => ?_⟩
    · rw [but.2 b fun q => out (q ▸ hb)]
      exact e
    · refine k s2 (Moved.trans W.gtrans ((m.mono more).then_heap (Nat.le_succ _) fun b o hb e => ?_) m2) hS2
      rw [but.2 b fun q => hb (q ▸ .head _)]
      exact e
end
section
variable {prog : Program} {w : World} {A : Around} {E : Value → Shared → Prop} {s : Shared}
def bareSet (led : Bool) : Obj := { cls := .type "set", dict := none, data := .set #[] 0 (.fresh 0 0 led) }
/-- what set(..) leaves -/
def Left (prog : Program) (w : World) (s : Shared) (xs : List Str) (s' : Shared) : Prop := ∃ (h' : Heap) (tk : Nat), s' = { s with heap := h', toks := tk } ∧ h'.SetOf (strKind prog w) s.heap.objs.size (Upto xs xs.length) xs.length ∧ ∀ b o, b < s.heap.objs.size → s.heap.get? b = some o → h'.get? b = some o
theorem bare_of {h : Heap} {a : Addr} {led : Bool} (e : h.get? a = some (bareSet led)) (xs : List Str) : h.SetOf (strKind prog w) a (Upto xs 0) 0 :=
  SetOf_congr ((setObjOf_fresh (knd := strKind prog w) led).setOf e (by unfold scanBound; omega)) (fun _ => rfl) rfl
/-- set.__init__ over a list of unlike texts -/
theorem fill_list {led : Bool} {l : Addr} {items : Array Value} {xs : List Str} (hh : A.handled = none) (hl : s.heap.IsList l items) (hi : StrsAre items.toList xs) (nd : xs.Nodup) (room : xs.length + 1 < scanBound) {Q : PySem.Fin → Shared → Prop}
    (h : ∀ s', Left prog w s xs s' → wpAny (model prog w) A (ret Value.none) Q E s') :
    wpAny (model prog w) A (Builtin.«set.__init__» ⟨[.ref s.heap.objs.size, .ref l], []⟩) Q E { s with heap := s.heap.push (bareSet led) } := by
  have hD : (s.heap.push (bareSet led)).get? s.heap.objs.size = some (bareSet led) := Heap.get?_push_size _ rfl
  have hT : Shared.TypeIs { s with heap := s.heap.push (bareSet led) } (.ref s.heap.objs.size) "set" := ⟨_, hD, rfl⟩
  have big : l < s.heap.objs.size := let ⟨_, e, _⟩ := hl; Heap.lt_size e
  have hl1 : (s.heap.push (bareSet led)).IsList l items := hl.push _
  obtain ⟨ol, hol, hcl, nl, hdl⟩ := hl1
  obtain ⟨ocls, odict, odata, oslots⟩ := ol
  simp only at hcl hdl
  subst hcl
  subst hdl
  have hsls := PySem.F.sub_list_set
  have hslf := PySem.F.sub_list_frozenset
  have hne : (Value.type "list" == Value.type "dict") = false := by decide
  have hl1 : (s.heap.push (bareSet led)).IsList l items := hl.push _
  unfold Builtin.«set.__init__» noKeywords Builtin.Frozenset.updateFrom
  generalize hPI : pyIter = PI
  wp_walk
  subst hPI
  have hz : (s.heap.push (bareSet led)).objs.size = s.heap.objs.size + 1 := Heap.size_push ..
  have n1 : l ≠ (s.heap.push (bareSet led)).objs.size := by rw [hz]; exact Nat.ne_of_lt (Nat.lt_succ_of_lt big)
  have sz : xs.length = items.size := by rw [← StrsAre.len_eq hi, Array.length_toList]
  have val : ∀ (i : Nat) (v : Value), items[i]? = some v → ∃ x t, xs[i]? = some x ∧ v = .str x t := fun i v hv => by
    obtain ⟨t, e⟩ := SS.strs_at hi i v (by rw [Array.getElem?_toList]; exact hv)
    have lt : i < xs.length := by rw [sz]; exact (Array.getElem?_eq_some_iff.mp hv).1
    refine ⟨xs[i], t, List.getElem?_eq_getElem lt, ?_⟩
    rw [e, List.getD_eq_getElem?_getD, List.getElem?_eq_getElem lt]
    rfl
  refine wpAny_pyIter_list hl1 (wpAny_bind (wpAny_runValue ?_))
  have hh1 : A.in1.handled = none := by simp [hh]
  have W := (Walks.list (prog := prog) (w := w) hh1 _ l n1 items).toS
  rw [← sz] at W
  refine fill W s.heap.objs.size (by rw [hz, List.mem_cons, List.mem_singleton, not_or]; exact ⟨Nat.ne_of_lt (Nat.lt_succ_self _), Nat.ne_of_gt big⟩) nd room val (xs.length - 0) 0 _ rfl (Nat.zero_le _) ⟨⟨_, Heap.get?_push_size _ rfl, rfl, rfl⟩, hl1.push _⟩ (bare_of (led := led) (Heap.get?_push_of_some _ hD) xs) ?_
  intro s' m hS'
  refine wpAny_pure (h s' ⟨s'.heap, s'.toks, ?_, hS', fun b o lt e => m.heap b o ?_ (Heap.get?_push_of_some _ (Heap.get?_push_of_some _ e))⟩)
  · obtain ⟨h', g', d', tk', os'⟩ := s'
    have e1 : g' = s.gens := m.gens
    have e2 : d' = s.drawn := m.drawn
    have e3 : os' = s.os := m.os
    rw [e1, e2, e3]
  · rw [hz, List.mem_cons, List.mem_singleton, not_or]
    exact ⟨Nat.ne_of_lt lt, Nat.ne_of_lt (Nat.lt_succ_of_lt lt)⟩
/-- set(xs) -/
theorem call_set {l : Addr} {items : Array Value} {xs : List Str} {Q : Value → Shared → Prop} (hh : A.handled = none) (hl : s.heap.IsList l items) (hi : StrsAre items.toList xs) (nd : xs.Nodup) (room : xs.length + 1 < scanBound)
    (h : ∀ s', Left prog w s xs s' → Q (.ref s.heap.objs.size) s') : wpAny (model prog w) A (call (.type "set") [.ref l]) Q E s := by
  obtain ⟨c, tl, hmro⟩ := PySem.F.called_set.mro
  have hmade := PySem.F.called_set.made
  have hsub := PySem.F.called_set.sub
  refine wpAny_call (codeAny_of_tree ?_)
  show wpAny _ _ (callAny (.type "set") _) _ _ _
  refine wpAny_pure ⟨Code.quiet_builtin _ (by decide +kernel), codeAny_builtin PySem.F.entry_type_call ?_⟩
  rw [Around.under_plain (weight_type_call_type "set" [.ref l] []) rfl]
  have h1 := PySem.F.called_set.notType
  have h2 := PySem.F.called_set.canCreate
  have hct := PySem.F.typeCall_set_1 (.ref l)
  repeat (any_goals (first | assumption | wp_step))
  refine codeAny_mono (code_set_new_1 (.ref l) (E := E) (Q₁ := fun y s1 => ∃ led : Bool, y = .ref s.heap.objs.size ∧ s1 = { s with heap := s.heap.push (bareSet led) }) fun led => ⟨led, rfl, rfl⟩) fun r s1 hr => ?_
  match r, hr with
  | .ok (.ret y), ⟨led, hy, hs⟩ =>
    subst hy
    subst hs
    have hD : (s.heap.push (bareSet led)).get? s.heap.objs.size = some (bareSet led) := Heap.get?_push_size _ rfl
    have hT : Shared.TypeIs { s with heap := s.heap.push (bareSet led) } (.ref s.heap.objs.size) "set" := ⟨_, hD, rfl⟩
    have hli := PySem.F.called_set.init.lookup
    have hbi := PySem.F.called_set.init.bind (.ref s.heap.objs.size)
    repeat (any_goals (first | assumption | wp_step))
    refine codeAny_mono (codeAny_call_builtin (R := wants (fun r s2 => r = .none ∧ Left prog w s xs s2) E) PySem.F.called_set.init.plain PySem.F.entry_set_init (check_set_init_1 hT ?_)) fun r2 s2 hr2 => ?_
    · refine fill_list (by simp [hh]) hl hi nd room fun s' hL => ?_
      exact wpAny_pure ⟨rfl, hL⟩
    · match r2, hr2 with
      | .ok (.ret v), ⟨hv, hL⟩ =>
        subst hv
        repeat (any_goals (first | assumption | wp_step))
        exact h _ hL
      | .error e, q => exact q
  | .error e, q => exact q
/-- len(set(xs)), no text of xs twice -/
def tLenSet (K : PySem.W.Frag) (ta : TE) : TE := fun σ H Q => ta σ H fun x H1 => ∃ (l : Addr) (xs : List Str), x = .ref l ∧ SqL K H1 l (xs.map V.str) ∧ xs.Nodup ∧ xs.length ≤ 1000 ∧ Q (.int xs.length) H1
theorem lenSet {K : PySem.W.Frag} {σ : L2.St} {H : Hp} {ta : TE} {Q : VK} (h : ta σ H fun x H1 => ∃ (l : Addr) (xs : List Str), x = .ref l ∧ SqL K H1 l (xs.map V.str) ∧ xs.Nodup ∧ xs.length ≤ 1000 ∧ Q (.int xs.length) H1) : tLenSet K ta σ H Q := h
end
section
variable {X : Cx}
theorem pe_lenSet {a : Expr} {ta : TE} {p p2 q pos : Pos} (hc : X.calm = true) (hg : Gl X "len") (hm : X.mg "len" = none) (hg2 : Gl X "set") (hm2 : X.mg "set" = none) (ha : PE X a ta)
    (na : starEach [a] X.env = (false, eval a X.env) :: starEach [] X.env := by rfl) : PE X (.Call (.Name "len" p) [.Call (.Name "set" p2) [a] [] q] [] pos) (tLenSet X.K ta) := by
  refine ⟨fun pins s σ H Q I h => Call_ (ld_blt I hg hm boot_len (callWith_builtin1 (args_cons (Call_ (ld_blt I hg2 hm2 boot_set (callWith_type1 (args_cons (thn (ha.run pins s σ H _ I h) fun v s1 ⟨x, H1, I1, r1, q1⟩ => args_nil ?_) na) na rfl))) rfl) rfl rfl))⟩
  obtain ⟨l, xs, rfl, hq, nd, few, q1⟩ := q1
  cases r1
  obtain ⟨its, r, pl, hz⟩ := I1.list hq
  refine call_set (I1.ok.hd hc) pl.isList (by simpa using strsAre_of r) nd (by unfold scanBound; omega) ?_
  rintro _ ⟨h', tk, rfl, hS, keep⟩
  refine args_nil ?_
  obtain ⟨o, es, ep, t, ho, hex, hd, _, _, _, hf, hn⟩ := hS
  have I2 : Inv X pins σ H1 { s1 with heap := h', toks := tk } := I1.kept fun b o e => keep b o (Heap.lt_size e) e
  exact call_len_set ho hex hd hf (by rw [hn]; omega) ⟨.int xs.length, H1, I2.tok _, ⟨_, by rw [hn]⟩, q1⟩
end
/-! ### list(text) -/
theorem vals_get : ∀ {xs : List V} {us : List Value}, xs.length = us.length → (∀ (i : Nat) (x : V) (u : Value), xs[i]? = some x → us[i]? = some u → RelV x u) → Vals xs us
  | [], [], _, _ => .nil
  | x :: xs, u :: us, l, h => .cons (h 0 x u rfl rfl) (vals_get (by simpa using l) fun i y v a b => h (i + 1) y v (by simpa using a) (by simpa using b))
def Signs (z : Str) : List Str := z.cps.toList.map fun c => (⟨#[c]⟩ : Str)
def rListStr : List V → Hp → VK → Prop := fun xs H Q => ∃ z : Str, xs = [.str z] ∧ z.length ≤ sizeLine ∧ Rd.NewQ (.lst ((Signs z).map V.str)) Q H
theorem listStr {z : Str} {H : Hp} {Q : VK} (l : z.length ≤ sizeLine) (h : Rd.NewQ (.lst ((Signs z).map V.str)) Q H) : rListStr [.str z] H Q := ⟨z, rfl, l, h⟩
section
variable {X : Cx}
theorem cr_listStr (hc : X.calm = true) : CallR X (.type "list") rListStr := by
  intro pins s σ H xs us Q I r h
  obtain ⟨z, rfl, l, q⟩ := h
  cases r with
  | cons ry rt =>
    cases rt
    obtain ⟨t, rfl⟩ := ry
    refine call_list_str (I.ok.hd hc) z t (fun h' tk acc c keep e its => ?_) l
    have sz : ((Signs z).map V.str).length = acc.toList.length := by
      unfold Signs
      rw [List.length_map, List.length_map, Array.length_toList, Array.length_toList, its.1]
    have v : Vals ((Signs z).map V.str) acc.toList := vals_get sz fun i x u hx hu => by
      obtain ⟨d, k, hd, rfl⟩ := its.2 i u (by rw [← Array.getElem?_toList]; exact hu)
      unfold Signs at hx
      rw [List.getElem?_map, List.getElem?_map, Array.getElem?_toList, hd] at hx
      cases hx
      exact ⟨k, rfl⟩
    have few : ((Signs z).map V.str).length ≤ sizeLine := by
      unfold Signs
      rw [List.length_map, List.length_map]
      exact l
    exact ⟨.ref s.heap.objs.size, _, I.laid (t' := tk) keep (Nat.le_refl _) (show ObjOk X.prog X.w _ h' _ (.lst ((Signs z).map V.str)) from ⟨few, acc.toList, c, v, e⟩), rfl, q _ (I.hok.fresh (Nat.le_refl _))⟩
end
/-! ### comprehensions with two fors -/
section
variable {σ : L2.St}
def Inner (D : Addr) (H1 : Hp) (R : Nat → List V → Hp → Prop) (i : Nat) (g1 : TG) (tt1 : TT) (te : TE) (vs1 : List Nat) (σ2 : L2.St) (J1 : It) (H4 : Hp) : Prop := ∃ W1 : Nat → Nat → Hp → Prop, (∃ m, W1 0 m H4) ∧ ∀ j k H, W1 j k H →
  (J1.stop j H ∧ Rd.LcP D H1 R (i + 1) H) ∨ (J1.go j H ∧ ∃ Nx1 : Hp → Prop, (∀ H', Nx1 H' → ∃ k', k' < k ∧ W1 (j + 1) k' H') ∧ ∀ x H', J1.yld j H x H' → g1 x (wipe σ2 vs1) H' fun σ3 H5 => wipe σ3 vs1 = wipe σ2 vs1 ∧ tt1 σ3 H5 fun b H6 =>
    if b = true then te σ3 H6 fun y H7 => ∃ acc, H7 D = some (.lst acc) ∧ acc.length < sizeLine ∧ Nx1 (upd H7 D (.lst (acc ++ [y]))) else Nx1 H6)
def Lc2 (J : It) (g : TG) (tt : TT) (wi1 : TI) (g1 : TG) (tt1 : TT) (te : TE) (vs vs1 : List Nat) (σ : L2.St) (H1 : Hp) (Q : VK) : Prop := ∀ D, H1 D = none → ∃ W : Nat → Nat → Hp → Prop, (∃ m, W 0 m (upd H1 D (.lst []))) ∧ ∀ i m H, W i m H →
      (J.stop i H ∧ Q (.ref D) H) ∨ (J.go i H ∧ ∃ Nx : Hp → Prop, (∀ H', Nx H' → ∃ m', m' < m ∧ W (i + 1) m' H') ∧ ∀ x H', J.yld i H x H' → g x (wipe σ vs) H' fun σ2 H2 => wipe σ2 vs = wipe σ vs ∧ tt σ2 H2 fun b H3 =>
        if b = true then wi1 σ2 H3 fun J1 H4 => ∃ W1 : Nat → Nat → Hp → Prop, (∃ m, W1 0 m H4) ∧ ∀ j k H, W1 j k H →
          (J1.stop j H ∧ Nx H) ∨ (J1.go j H ∧ ∃ Nx1 : Hp → Prop, (∀ H', Nx1 H' → ∃ k', k' < k ∧ W1 (j + 1) k' H') ∧ ∀ x H', J1.yld j H x H' → g1 x (wipe σ2 vs1) H' fun σ3 H5 => wipe σ3 vs1 = wipe σ2 vs1 ∧ tt1 σ3 H5 fun b H6 =>
            if b = true then te σ3 H6 fun y H7 => ∃ acc, H7 D = some (.lst acc) ∧ acc.length < sizeLine ∧ Nx1 (upd H7 D (.lst (acc ++ [y]))) else Nx1 H6)
        else Nx H3)
theorem lc2S {J : It} {n : Nat} {G : Hp → Prop} {Y : Nat → Hp → V → Hp → Prop} (w : Walk J n G Y) {g : TG} {tt : TT} {wi1 : TI} {g1 : TG} {tt1 : TT} {te : TE} {vs vs1 : List Nat} {H1 : Hp} {Q : VK} (hG : ∀ H, Same H1 H → G H) (R : Addr → Nat → List V → Hp → Prop)
    (r0 : ∀ (D : Addr) (G : Hp), H1 D = none → G D = some (.lst []) → Same H1 G → R D 0 [] G)
    (hs : ∀ (D : Addr) i x H H' acc, H1 D = none → i < n → H D = some (.lst acc) → Same H1 H → R D i acc H → Y i H x H' → g x (wipe σ vs) H' fun σ2 H2 => wipe σ2 vs = wipe σ vs ∧ tt σ2 H2 fun b H3 =>
      if b = true then wi1 σ2 H3 fun J1 H4 => Inner D H1 (R D) i g1 tt1 te vs1 σ2 J1 H4 else Rd.LcP D H1 (R D) (i + 1) H3)
    (hd : ∀ (D : Addr) acc H, H1 D = none → H D = some (.lst acc) → Same H1 H → R D n acc H → Q (.ref D) H) :
    Lc2 J g tt wi1 g1 tt1 te vs vs1 σ H1 Q := by
  intro D nD
  refine ⟨fun i m H => m = n - i ∧ i ≤ n ∧ Rd.LcP D H1 (R D) i H, ⟨n, by simp, Nat.zero_le _, [], upd_same, Rd.same_upd nD, r0 D _ nD upd_same (Rd.same_upd nD)⟩, ?_⟩
  rintro i m H ⟨rfl, hi, acc, h1, h2, h3⟩
  by_cases lt : i < n
  · exact .inr ⟨w.goes i H lt (hG H h2), Rd.LcP D H1 (R D) (i + 1), fun H' p => ⟨n - (i + 1), by omega, rfl, lt, p⟩, fun x H' y => hs D i x H H' acc nD lt h1 h2 h3 (w.yields i H x H' lt (hG H h2) y)⟩
  · obtain rfl : i = n := by omega
    exact .inl ⟨w.stops H (hG H h2), hd D acc H nD h1 h2 h3⟩
theorem innerS {D : Addr} {H1 H4 : Hp} {R : Nat → List V → Hp → Prop} {i : Nat} {g1 : TG} {tt1 : TT} {te : TE} {vs1 : List Nat} {σ2 : L2.St} {J1 : It} {n : Nat} {G : Hp → Prop} {Y : Nat → Hp → V → Hp → Prop} (w : Walk J1 n G Y) (R1 : Nat → List V → Hp → Prop) (h0 : Rd.LcP D H1 R1 0 H4) (hG : ∀ H, Same H1 H → G H)
    (hs : ∀ j x H H' acc, j < n → H D = some (.lst acc) → Same H1 H → R1 j acc H → Y j H x H' → g1 x (wipe σ2 vs1) H' fun σ3 H5 => wipe σ3 vs1 = wipe σ2 vs1 ∧ tt1 σ3 H5 fun b H6 =>
      if b = true then te σ3 H6 fun y H7 => Rd.LcPush D H1 R1 j y H7 else Rd.LcP D H1 R1 (j + 1) H6)
    (hd : ∀ acc H, H D = some (.lst acc) → Same H1 H → R1 n acc H → R (i + 1) acc H) : Inner D H1 R i g1 tt1 te vs1 σ2 J1 H4 := by
  refine ⟨fun j k H => k = n - j ∧ j ≤ n ∧ Rd.LcP D H1 R1 j H, ⟨n, by simp, Nat.zero_le _, h0⟩, ?_⟩
  rintro j k H ⟨rfl, hj, acc, h1, h2, h3⟩
  by_cases lt : j < n
  · exact .inr ⟨w.goes j H lt (hG H h2), Rd.LcP D H1 R1 (j + 1), fun H' p => ⟨n - (j + 1), by omega, rfl, lt, p⟩, fun x H' y => hs j x H H' acc lt h1 h2 h3 (w.yields j H x H' lt (hG H h2) y)⟩
  · obtain rfl : j = n := by omega
    exact .inl ⟨w.stops H (hG H h2), acc, h1, h2, hd acc H h1 h2 h3⟩
theorem lc2 {wi : TI} {g : TG} {tt : TT} {wi1 : TI} {g1 : TG} {tt1 : TT} {te : TE} {vs vs1 : List Nat} {H : Hp} {Q : VK} (h : wi σ H fun J H1 => Lc2 J g tt wi1 g1 tt1 te vs vs1 σ H1 Q) : tLc2 wi g tt wi1 g1 tt1 te vs vs1 σ H Q := h
end
/-! ### text[::-1] -/
def revS (z : Str) : Str := ⟨z.cps.reverse⟩
theorem revS_list (z : Str) : (revS z).cps.toList = z.cps.toList.reverse := by
  unfold revS
  simp
theorem rev_by (z : Str) (u : Tok) : Txt.sliceBy z none none (-1, u) = revS z := by
  refine PySem.W.str_of_cps ?_
  rw [step_rev_list, revS_list]
  refine List.ext_getElem? fun i => ?_
  rw [List.getElem?_map]
  rcases Nat.lt_or_ge i z.length with h | h
  · have l : z.cps.toList.length = z.length := Array.length_toList
    rw [List.getElem?_range h, List.getElem?_reverse (by omega), l, Array.getElem?_toList]
    have h2 : z.length - 1 - i < z.cps.size := by
      show _ < z.length
      omega
    simp [Array.getD, h2]
  · have l : z.cps.toList.length = z.length := Array.length_toList
    rw [List.getElem?_eq_none (by rw [List.length_range]; exact h), List.getElem?_eq_none (by rw [List.length_reverse]; omega)]
    rfl
def tRevS (te : TE) : TE := fun σ H Q => te σ H fun x H1 => ∃ z, x = .str z ∧ z.length ≤ sizeLine ∧ Q (.str (revS z)) H1
theorem revT {σ : L2.St} {te : TE} {H : Hp} {Q : VK} (h : te σ H fun x H1 => ∃ z, x = .str z ∧ z.length ≤ sizeLine ∧ Q (.str (revS z)) H1) : tRevS te σ H Q := h
section
variable {X : Cx}
theorem pe_revS {e : Expr} {te : TE} {k : Nat} {p1 p2 p3 pos : Pos} (he : PE X e te) : PE X (.Subscript e (.Slice none none (some (.UnaryOp .USub (.Constant (.int 1) k p1) p2)) p3) pos) (tRevS te) := by
  refine ⟨fun pins s σ H Q I h => Subscript_ (thn (he.run pins s σ H _ I h) fun v s1 ⟨x, H1, I1, r1, z, ex, few, q⟩ => ?_)⟩
  subst ex
  obtain ⟨t, rfl⟩ := r1
  have minus : PO X (some (.UnaryOp .USub (.Constant (.int 1) k p1) p2)) (tPart (tUn (rU fun i => .int (-i)) (tC (.int 1)))) := po_some (pe_un un_neg pe_int)
  refine wpAny_Slice (thn (po_none.run pins s1 σ H1 (fun o H2 => o = none ∧ H2 = H1) I1 ⟨rfl, rfl⟩) fun vl s2 ⟨l, H2, I2, pl, el, e2⟩ => ?_)
  subst el e2
  refine thn (po_none.run pins s2 σ H2 (fun o H3 => o = none ∧ H3 = H2) I2 ⟨rfl, rfl⟩) fun vu s3 ⟨u, H3, I3, pu, eu, e3⟩ => ?_
  subst eu e3
  refine thn (minus.run pins s3 σ H3 (fun o H4 => o = some (-1) ∧ H4 = H3) I3 ⟨1, rfl, -1, rfl, rfl, rfl⟩) fun vs s4 ⟨o, H4, I4, ps, eo, e4⟩ => ?_
  subst eo e4
  have I5 : Inv X pins σ H4 { s4 with heap := s4.heap.push { cls := .type "slice", data := .fields #[vl, vu, vs] } } := I4.kept (t' := s4.toks) fun b ob q => Heap.get?_push_of_some _ q
  obtain ⟨a1, rfl, h1⟩ := IsPart.raw pl
  obtain ⟨a2, rfl, h2⟩ := IsPart.raw pu
  obtain ⟨a3, rfl, h3⟩ := IsPart.raw ps
  obtain rfl : a1 = none := Option.map_eq_none_iff.mp h1
  obtain rfl : a2 = none := Option.map_eq_none_iff.mp h2
  obtain ⟨⟨m, uk⟩, rfl, rfl⟩ := Option.map_eq_some_iff.mp h3
  refine tail_any (ops := [.ref s4.heap.objs.size, .str z t]) (typeIs_str _ _ _) PySem.F.slot_str_getitem.lookup (wpAny_getItem_str_slice (l := none) (u := none) (st := some (-1, uk)) ⟨_, Heap.get?_push_size _ rfl, rfl, rfl⟩ rfl (post_val_or_str ⟨?_, fun t' c => ?_⟩)) (by with_unfolding_all rfl)
  · show (Txt.sliceBy z none none (-1, uk)).length ≤ _
    rw [step_rev_len]
    exact few
  · show EP X pins σ Q (.str (Txt.sliceBy z none none (-1, uk)) t') _
    rw [rev_by]
    exact ⟨.str (revS z), H4, I5.tok _, ⟨_, rfl⟩, q⟩
end
end Re

namespace W
open PySem PySem.Spec PyProof.Rows L2
def top (i : Nat) : Stmt := PySem.Challenge.pw_watchedways_k70_whole_told_words.main.body.getD i (.Pass ⟨0, 0, 0, 0⟩)
abbrev s_is_integer : Stmt := top 10
abbrev s_is_letters : Stmt := top 11
abbrev s_is_watch : Stmt := top 12
abbrev s_text_key : Stmt := top 13
abbrev s_in_order : Stmt := top 14
abbrev s_Book_init : Stmt := inClass (top 17) 0
abbrev s_check_book : Stmt := top 18
abbrev s_links_of : Stmt := top 20
abbrev s_grown : Stmt := top 21
abbrev s_leads : Stmt := top 22
abbrev s_told_words : Stmt := top 26
abbrev s_l_tape : Stmt := top 28
abbrev s_l_pick : Stmt := top 29
abbrev s_l_letters : Stmt := top 30
abbrev s_l_word : Stmt := top 31
abbrev s_l_piece : Stmt := top 32
abbrev s_l_pathed : Stmt := top 33
abbrev s_l_watches : Stmt := top 34
abbrev s_l_marks : Stmt := top 35
abbrev s_l_told : Stmt := top 36
abbrev s_l_in_order : Stmt := top 38
abbrev s_l_all_words : Stmt := top 42
abbrev s_law : Stmt := top 43
theorem sc_is_integer : FnScope ["value"] ["value"] (defScope s_is_integer) := ⟨rfl, rfl, rfl, by decide +kernel, rfl, by decide +kernel, by decide +kernel⟩
theorem sc_is_letters : FnScope ["value", "letter"] ["value"] (defScope s_is_letters) := ⟨rfl, rfl, rfl, by decide +kernel, rfl, by decide +kernel, by decide +kernel⟩
theorem sc_is_watch : FnScope ["thing"] ["thing"] (defScope s_is_watch) := ⟨rfl, rfl, rfl, by decide +kernel, rfl, by decide +kernel, by decide +kernel⟩
theorem sc_text_key : FnScope ["text"] ["text"] (defScope s_text_key) := ⟨rfl, rfl, rfl, by decide +kernel, rfl, by decide +kernel, by decide +kernel⟩
theorem sc_in_order : FnScope ["texts"] ["texts"] (defScope s_in_order) := ⟨rfl, rfl, rfl, by decide +kernel, rfl, by decide +kernel, by decide +kernel⟩
theorem sc_Book_init : FnScope ["self", "watches", "found", "at", "watch"] ["self", "watches"] (defScope s_Book_init) := ⟨rfl, rfl, rfl, by decide +kernel, rfl, by decide +kernel, by decide +kernel⟩
theorem sc_check_book : FnScope ["book"] ["book"] (defScope s_check_book) := ⟨rfl, rfl, rfl, by decide +kernel, rfl, by decide +kernel, by decide +kernel⟩
theorem sc_links_of : FnScope ["watches", "word", "spot", "found", "watch", "row"] ["watches", "word"] (defScope s_links_of) := ⟨rfl, rfl, rfl, by decide +kernel, rfl, by decide +kernel, by decide +kernel⟩
theorem sc_grown : FnScope ["links", "spots", "found", "at", "spot"] ["links", "spots"] (defScope s_grown) := ⟨rfl, rfl, rfl, by decide +kernel, rfl, by decide +kernel, by decide +kernel⟩
theorem sc_leads : FnScope ["watches", "word"] ["watches", "word"] (defScope s_leads) := ⟨rfl, rfl, rfl, by decide +kernel, rfl, by decide +kernel, by decide +kernel⟩
theorem sc_told_words : FnScope ["book", "letters", "most", "found", "words", "size", "word", "letter"] ["book", "letters", "most"] (defScope s_told_words) := ⟨rfl, rfl, rfl, by decide +kernel, rfl, by decide +kernel, by decide +kernel⟩
theorem sc_l_tape : FnScope ["_law_script"] ["_law_script"] (defScope s_l_tape) := ⟨rfl, rfl, rfl, by decide +kernel, rfl, by decide +kernel, by decide +kernel⟩
theorem sc_l_pick : FnScope ["_law_tape_here", "_law_size", "_law_digit", "_law_cell", "_law_mixed"] ["_law_tape_here", "_law_size"] (defScope s_l_pick) := ⟨rfl, rfl, rfl, by decide +kernel, rfl, by decide +kernel, by decide +kernel⟩
theorem sc_l_letters : FnScope ["_law_tape_here", "_law_letters_here", "_law_start", "_law_step", "_law_found", "_law_k"] ["_law_tape_here"] (defScope s_l_letters) := ⟨rfl, rfl, rfl, by decide +kernel, rfl, by decide +kernel, by decide +kernel⟩
theorem sc_l_word : FnScope ["_law_tape_here", "_law_letters_here", "_law_least", "_law_most", "_law_word_here", "_law_k"] ["_law_tape_here", "_law_letters_here", "_law_least", "_law_most"] (defScope s_l_word) := ⟨rfl, rfl, rfl, by decide +kernel, rfl, by decide +kernel, by decide +kernel⟩
theorem sc_l_piece : FnScope ["_law_tape_here", "_law_word_here", "_law_start", "_law_size"] ["_law_tape_here", "_law_word_here"] (defScope s_l_piece) := ⟨rfl, rfl, rfl, by decide +kernel, rfl, by decide +kernel, by decide +kernel⟩
theorem sc_l_pathed : FnScope ["_law_tape_here", "_law_word_here", "_law_watches_here", "_law_spot", "_law_k", "_law_other", "_law_watch"] ["_law_tape_here", "_law_word_here"] (defScope s_l_pathed) := ⟨rfl, rfl, rfl, by decide +kernel, rfl, by decide +kernel, by decide +kernel⟩
theorem sc_l_watches : FnScope ["_law_tape_here", "_law_word_here", "_law_letters_here", "_law_most", "_law_kind", "_law_watches_here", "_law_k", "_law_watch"] ["_law_tape_here", "_law_word_here", "_law_letters_here", "_law_most"] (defScope s_l_watches) := ⟨rfl, rfl, rfl, by decide +kernel, rfl, by decide +kernel, by decide +kernel⟩
theorem sc_l_marks : FnScope ["_law_watches_here", "_law_word_here", "_law_marks_here", "_law_watch", "_law_spot", "_law_old", "_law_at"] ["_law_watches_here", "_law_word_here"] (defScope s_l_marks) := ⟨rfl, rfl, rfl, by decide +kernel, rfl, by decide +kernel, by decide +kernel⟩
theorem sc_l_told : FnScope ["_law_watches_here", "_law_word_here", "_law_marks_here"] ["_law_watches_here", "_law_word_here"] (defScope s_l_told) := ⟨rfl, rfl, rfl, by decide +kernel, rfl, by decide +kernel, by decide +kernel⟩
theorem sc_l_in_order : FnScope ["_law_texts", "_law_pair", "_law_text"] ["_law_texts"] (defScope s_l_in_order) := ⟨rfl, rfl, rfl, by decide +kernel, rfl, by decide +kernel, by decide +kernel⟩
theorem sc_l_all_words : FnScope ["_law_letters_here", "_law_most", "_law_words", "_law_found", "_law_size", "_law_longer", "_law_word_here", "_law_letter"] ["_law_letters_here", "_law_most"] (defScope s_l_all_words) := ⟨rfl, rfl, rfl, by decide +kernel, rfl, by decide +kernel, by decide +kernel⟩
theorem sc_law : FnScope ["_law_script", "_law_tape_here", "_law_strange", "_law_letters_here", "_law_most", "_law_word_here", "_law_watches_here", "_law_at", "_law_other", "_law_due", "_law_book", "_law_told_here", "_law_watch", "_law_rest", "_law_one"] ["_law_script"] (defScope s_law) := ⟨rfl, rfl, rfl, by decide +kernel, rfl, by decide +kernel, by decide +kernel⟩
structure Txt (K : PySem.W.Frag) (mg : Str → Option Value) where
  C_Book : Addr
  c_Book : mg "Book" = some (.ref C_Book)
  cl_Book : Cls K C_Book
  ty_Book : OwnTy K C_Book
  na_Book_watches : NoAttr K C_Book "watches"
  f_is_integer : Addr
  fd_is_integer : FuncData
  F_is_integer : Fun K "is_integer" "is_integer" s_is_integer f_is_integer fd_is_integer
  g_is_integer : mg "is_integer" = some (.ref f_is_integer)
  b_is_integer : Binds K fd_is_integer ["value"] []
  f_is_letters : Addr
  fd_is_letters : FuncData
  F_is_letters : Fun K "is_letters" "is_letters" s_is_letters f_is_letters fd_is_letters
  g_is_letters : mg "is_letters" = some (.ref f_is_letters)
  b_is_letters : Binds K fd_is_letters ["value"] []
  f_is_watch : Addr
  fd_is_watch : FuncData
  F_is_watch : Fun K "is_watch" "is_watch" s_is_watch f_is_watch fd_is_watch
  g_is_watch : mg "is_watch" = some (.ref f_is_watch)
  b_is_watch : Binds K fd_is_watch ["thing"] []
  f_text_key : Addr
  fd_text_key : FuncData
  F_text_key : Fun K "text_key" "text_key" s_text_key f_text_key fd_text_key
  g_text_key : mg "text_key" = some (.ref f_text_key)
  b_text_key : Binds K fd_text_key ["text"] []
  f_in_order : Addr
  fd_in_order : FuncData
  F_in_order : Fun K "in_order" "in_order" s_in_order f_in_order fd_in_order
  g_in_order : mg "in_order" = some (.ref f_in_order)
  b_in_order : Binds K fd_in_order ["texts"] []
  f_Book_init : Addr
  fd_Book_init : FuncData
  F_Book_init : Fun K "__init__" "Book.__init__" s_Book_init f_Book_init fd_Book_init
  M_Book : Mk K C_Book f_Book_init
  b_Book_init : Binds K fd_Book_init ["self", "watches"] []
  f_check_book : Addr
  fd_check_book : FuncData
  F_check_book : Fun K "check_book" "check_book" s_check_book f_check_book fd_check_book
  g_check_book : mg "check_book" = some (.ref f_check_book)
  b_check_book : Binds K fd_check_book ["book"] []
  f_links_of : Addr
  fd_links_of : FuncData
  F_links_of : Fun K "links_of" "links_of" s_links_of f_links_of fd_links_of
  g_links_of : mg "links_of" = some (.ref f_links_of)
  b_links_of : Binds K fd_links_of ["watches", "word"] []
  f_grown : Addr
  fd_grown : FuncData
  F_grown : Fun K "grown" "grown" s_grown f_grown fd_grown
  g_grown : mg "grown" = some (.ref f_grown)
  b_grown : Binds K fd_grown ["links", "spots"] []
  f_leads : Addr
  fd_leads : FuncData
  F_leads : Fun K "leads" "leads" s_leads f_leads fd_leads
  g_leads : mg "leads" = some (.ref f_leads)
  b_leads : Binds K fd_leads ["watches", "word"] []
  f_told_words : Addr
  fd_told_words : FuncData
  F_told_words : Fun K "told_words" "told_words" s_told_words f_told_words fd_told_words
  g_told_words : mg "told_words" = some (.ref f_told_words)
  b_told_words : Binds K fd_told_words ["book", "letters", "most"] []
  f_l_tape : Addr
  fd_l_tape : FuncData
  F_l_tape : Fun K "_law_tape" "_law_tape" s_l_tape f_l_tape fd_l_tape
  g_l_tape : mg "_law_tape" = some (.ref f_l_tape)
  b_l_tape : Binds K fd_l_tape ["_law_script"] []
  f_l_pick : Addr
  fd_l_pick : FuncData
  F_l_pick : Fun K "_law_pick" "_law_pick" s_l_pick f_l_pick fd_l_pick
  g_l_pick : mg "_law_pick" = some (.ref f_l_pick)
  b_l_pick : Binds K fd_l_pick ["_law_tape_here", "_law_size"] []
  f_l_letters : Addr
  fd_l_letters : FuncData
  F_l_letters : Fun K "_law_letters" "_law_letters" s_l_letters f_l_letters fd_l_letters
  g_l_letters : mg "_law_letters" = some (.ref f_l_letters)
  b_l_letters : Binds K fd_l_letters ["_law_tape_here"] []
  f_l_word : Addr
  fd_l_word : FuncData
  F_l_word : Fun K "_law_word" "_law_word" s_l_word f_l_word fd_l_word
  g_l_word : mg "_law_word" = some (.ref f_l_word)
  b_l_word : Binds K fd_l_word ["_law_tape_here", "_law_letters_here", "_law_least", "_law_most"] []
  f_l_piece : Addr
  fd_l_piece : FuncData
  F_l_piece : Fun K "_law_piece" "_law_piece" s_l_piece f_l_piece fd_l_piece
  g_l_piece : mg "_law_piece" = some (.ref f_l_piece)
  b_l_piece : Binds K fd_l_piece ["_law_tape_here", "_law_word_here"] []
  f_l_pathed : Addr
  fd_l_pathed : FuncData
  F_l_pathed : Fun K "_law_pathed" "_law_pathed" s_l_pathed f_l_pathed fd_l_pathed
  g_l_pathed : mg "_law_pathed" = some (.ref f_l_pathed)
  b_l_pathed : Binds K fd_l_pathed ["_law_tape_here", "_law_word_here"] []
  f_l_watches : Addr
  fd_l_watches : FuncData
  F_l_watches : Fun K "_law_watches" "_law_watches" s_l_watches f_l_watches fd_l_watches
  g_l_watches : mg "_law_watches" = some (.ref f_l_watches)
  b_l_watches : Binds K fd_l_watches ["_law_tape_here", "_law_word_here", "_law_letters_here", "_law_most"] []
  f_l_marks : Addr
  fd_l_marks : FuncData
  F_l_marks : Fun K "_law_marks" "_law_marks" s_l_marks f_l_marks fd_l_marks
  g_l_marks : mg "_law_marks" = some (.ref f_l_marks)
  b_l_marks : Binds K fd_l_marks ["_law_watches_here", "_law_word_here"] []
  f_l_told : Addr
  fd_l_told : FuncData
  F_l_told : Fun K "_law_told" "_law_told" s_l_told f_l_told fd_l_told
  g_l_told : mg "_law_told" = some (.ref f_l_told)
  b_l_told : Binds K fd_l_told ["_law_watches_here", "_law_word_here"] []
  f_l_in_order : Addr
  fd_l_in_order : FuncData
  F_l_in_order : Fun K "_law_in_order" "_law_in_order" s_l_in_order f_l_in_order fd_l_in_order
  g_l_in_order : mg "_law_in_order" = some (.ref f_l_in_order)
  b_l_in_order : Binds K fd_l_in_order ["_law_texts"] []
  f_l_all_words : Addr
  fd_l_all_words : FuncData
  F_l_all_words : Fun K "_law_all_words" "_law_all_words" s_l_all_words f_l_all_words fd_l_all_words
  g_l_all_words : mg "_law_all_words" = some (.ref f_l_all_words)
  b_l_all_words : Binds K fd_l_all_words ["_law_letters_here", "_law_most"] []
  f_law : Addr
  fd_law : FuncData
  F_law : Fun K "law" "law" s_law f_law fd_law
  g_law : mg "law" = some (.ref f_law)
  b_law : Binds K fd_law ["_law_script"] []
  n_isinstance : mg "isinstance" = none
  n_int : mg "int" = none
  n_bool : mg "bool" = none
  n_str : mg "str" = none
  n_all : mg "all" = none
  n_len : mg "len" = none
  n_sorted : mg "sorted" = none
  n_enumerate : mg "enumerate" = none
  n_tuple : mg "tuple" = none
  n_list : mg "list" = none
  n_range : mg "range" = none
  n_set : mg "set" = none
  n_min : mg "min" = none
  n_max : mg "max" = none
  t_LETTERS : Tok
  m_LETTERS : mg "LETTERS" = some (.str "abcdefghijklmnopqrstuvwxyz" t_LETTERS)
  t_MOST_WATCH : Tok
  m_MOST_WATCH : mg "MOST_WATCH" = some (.int 12 t_MOST_WATCH)
  t_MOST_WATCHES : Tok
  m_MOST_WATCHES : mg "MOST_WATCHES" = some (.int 12 t_MOST_WATCHES)
  t_MOST_LETTERS : Tok
  m_MOST_LETTERS : mg "MOST_LETTERS" = some (.int 3 t_MOST_LETTERS)
  t_MOST_SIZE : Tok
  m_MOST_SIZE : mg "MOST_SIZE" = some (.int 6 t_MOST_SIZE)
end W

local macro_rules | `(tactic| walk_at "rd") => `(tactic| repeat (first
  | with_reducible refine Rd.seq ?_ | with_reducible refine Rd.asg ?_ | with_reducible refine Rd.name ?_ | with_reducible refine Rd.var rfl ?_ | with_reducible refine Rd.con ?_ | with_reducible refine Rd.op ?_
  | with_reducible refine Rd.ret ?_ | with_reducible refine Rd.ifS ?_ | with_reducible refine Rd.test ?_ | with_reducible refine Rd.tstB ?_ | with_reducible refine Rd.bl ?_ | with_reducible refine Rd.blE ?_
  | with_reducible refine Rd.nil ?_ | with_reducible refine Rd.cons ?_ | with_reducible refine Rd.cb ?_ | with_reducible refine Rd.call ?_ | with_reducible refine Rd.un ?_
  | with_reducible refine Rd.i0 ?_ | with_reducible refine Rd.u1 ?_ | with_reducible refine Rd.eqI ?_ | with_reducible refine Rd.neI ?_ | with_reducible refine Rd.eqB ?_ | with_reducible refine Rd.neB ?_ | with_reducible refine Rd.eqS ?_ | with_reducible refine Rd.neS ?_
  | with_reducible refine Rd.and ?_ | with_reducible refine Rd.or ?_ | with_reducible refine Rd.not ?_ | with_reducible refine Rd.andV ?_ | with_reducible refine Rd.orV ?_ | with_reducible refine Rd.notV ?_ | with_reducible refine Rd.ifE ?_ | with_reducible refine Rd.chain ?_
  | with_reducible refine Rd.tup ?_ | with_reducible refine Rd.lst ?_ | with_reducible refine Rd.nxt ?_ | with_reducible refine Rd.retN ?_ | with_reducible refine Rd.drop ?_ | with_reducible refine Rd.brk ?_ | with_reducible refine Rd.cont ?_
  | with_reducible refine Rd.a1 ?_ | with_reducible refine Rd.a2 ?_ | with_reducible refine Rd.v2 ?_ | with_reducible refine Rd.int ?_ | with_reducible refine Rd.abs ?_ | with_reducible refine Rd.max2 ?_ | with_reducible refine Rd.min2 ?_ | with_reducible refine Rd.bm ?_ | with_reducible refine Rd.bm0 ?_ | with_reducible refine Rd.sl ?_ | with_reducible refine Rd.part ?_ | with_reducible refine Rd.noPart ?_ | with_reducible refine Rd.intE ?_ | with_reducible refine Rd.revL ?_ | with_reducible refine Rd.enx ?_ | with_reducible refine Rd.ebk ?_ | with_reducible refine Rd.ect ?_ | with_reducible refine Rd.ert ?_ | with_reducible refine Rd.gcons ?_ | with_reducible refine Rd.gnil ?_ | with_reducible refine Rd.par ?_ | with_reducible refine Rd.sub ?_ | with_reducible refine Rd.iter ?_ | with_reducible refine Rd.iterT ?_ | with_reducible refine Rd.rng1 ?_ | with_reducible refine Rd.refE ?_ | with_reducible refine Rd.aug rfl ?_ | with_reducible refine Rd.ipi ?_ | with_reducible refine Rd.lc ?_ | with_reducible refine Rd.tyes ?_ | with_reducible refine Rd.fldH ?_ | with_reducible refine Rd.sfldH ?_ | with_reducible refine Rd.mkH ?_ | with_reducible refine Rd.methH ?_ | with_reducible refine Rd.istr ?_ | with_reducible refine Rd.strE ?_ | with_reducible refine Rd.lstRg ?_ | with_reducible refine Rd.m1 ?_ | with_reducible refine Rd.dgetH ?_ | with_reducible refine Rd.dinH ?_ | with_reducible refine Rd.dninH ?_ | with_reducible refine Rd.dget1H ?_ | with_reducible refine Rd.strX ?_ | with_reducible refine Rd.tupRg ?_ | with_reducible refine Rd.rg1 ?_ | with_reducible refine Rd.rg2 ?_ | with_reducible refine Rd.intE2 ?_ | with_reducible refine Rw.zipH ?_ | with_reducible refine Rw.itemsH ?_ | with_reducible refine Rw.keysH ?_ | with_reducible refine Rw.dc ?_ | with_reducible refine Rw.ckw ?_ | with_reducible refine Rd.notT ?_
  | with_reducible refine L2.iteT ?_ | with_reducible refine L2.iteF ?_
  | with_reducible refine Rd.iteb ?_ | with_reducible refine Rd.iten ?_ | with_reducible refine Rd.itbn ?_))

local macro_rules | `(tactic| walk_at "yes") => `(tactic| (refine (if_pos (by first | assumption | omega)).mpr ?_))
local macro_rules | `(tactic| walk_at "no") => `(tactic| (refine (if_neg (by first | assumption | omega)).mpr ?_))

local macro_rules | `(tactic| k_extra "ne") => `(tactic| first
  | with_reducible assumption | with_reducible exact Ne.symm (by with_reducible assumption) | with_reducible exact Rd.ntT (by with_reducible assumption) (by k_extra "tape")
  | with_reducible exact Rd.neN (by with_reducible assumption) (by k_extra "at") | with_reducible exact Rd.neN' (by with_reducible assumption) (by k_extra "at"))
local macro_rules | `(tactic| k_extra "tape") => `(tactic| first
  | with_reducible assumption | with_reducible exact Rd.tape_same (by with_reducible assumption) (by k_extra "tape"))
local macro_rules | `(tactic| k_extra "at") => `(tactic| first
  | with_reducible assumption
  | with_reducible exact Rd.at_same (by with_reducible assumption) (by k_extra "at")
  | with_reducible exact Rd.at_off (by with_reducible assumption) (by k_extra "ne") (by k_extra "at")
  | with_reducible exact Rd.at_but (by with_reducible assumption) (by k_extra "ne") (by k_extra "at"))
local macro_rules | `(tactic| k_extra "bk") => `(tactic| first
  | with_reducible assumption
  | with_reducible exact Rd.book_same (by with_reducible assumption) (by k_extra "bk")
  | with_reducible exact Rd.book_but (by with_reducible assumption) (by k_extra "tape") (by k_extra "bk"))
local macro_rules | `(tactic| k_extra "sqL") => `(tactic| first
  | with_reducible assumption | with_reducible exact L2.Same.seq (by with_reducible assumption) (by k_extra "sqL"))
local macro_rules | `(tactic| k_extra "sqT") => `(tactic| first
  | with_reducible assumption | with_reducible exact Ru.same_tup (by with_reducible assumption) (by k_extra "sqT"))
local macro_rules | `(tactic| k_extra "sq") => `(tactic| first
  | with_reducible assumption | (with_reducible show L2.SqL _ _ _ _; first | exact L2.SqL.of (by k_extra "at") | k_extra "sqL") | (with_reducible show L2.SqT _ _ _ _; first | exact L2.SqT.of (by k_extra "at") | k_extra "sqT"))
local macro_rules | `(tactic| k_extra "row") => `(tactic| first
  | with_reducible assumption | exact Or.inl (L2.SqL.of (by k_extra "at")) | exact Or.inr (L2.SqT.of (by k_extra "at")) | exact Or.inl (by k_extra "sqL") | exact Or.inr (by k_extra "sqT"))
local macro_rules | `(tactic| k_extra "same") => `(tactic| first
  | with_reducible exact L2.Same.refl _ | with_reducible assumption
  | with_reducible exact Rd.same_tr (by with_reducible assumption) (by k_extra "same")
  | with_reducible exact Rd.same_of2 (by with_reducible assumption) (by with_reducible assumption) (by k_extra "same"))
local macro_rules | `(tactic| k_extra "but") => `(tactic| first
  | with_reducible exact Rd.But.refl _ _ | with_reducible assumption
  | with_reducible exact Rd.but_tr (by with_reducible assumption) (by k_extra "but")
  | with_reducible exact Rd.but_sm (by with_reducible assumption) (by k_extra "but")
  | with_reducible exact Rd.but_of2 (by with_reducible assumption) (by with_reducible assumption) (by k_extra "but"))
local macro_rules | `(tactic| k_extra "sz") => `(tactic| first
  | with_reducible assumption | with_reducible exact Lt.Wd.line (by with_reducible assumption) (by decide) | (rw [PySem.sizeLine_eq]; omega)
  | (simp only [List.length_map, List.length_append, List.length_cons, List.length_nil, List.length_take] <;> rw [PySem.sizeLine_eq] <;> omega) | exact Nat.le_of_ble_eq_true rfl)
local macro_rules | `(tactic| k_extra "go1") => `(tactic| first
  | (with_reducible show Rd.nLenS _ _ _; refine Rd.lenStr (by k_extra "sz") ?_)
  | (with_reducible show Rd.nLen _ _ _ _; first | refine Rd.lenS (by k_extra "row") ?_ | refine Rd.lenI (by k_extra "row") ?_ | refine Rd.lenR (by k_extra "row") ?_)
  | (with_reducible show L2.rSlS _ _ _ _ _; refine Rd.slS (by k_extra "sz") ?_)
  | (with_reducible show L2.tyV _ "list" _ _ ∧ _; refine Rd.tyL (by k_extra "sq") ?_)
  | (with_reducible show Rd.nAddS _ _ _ _; refine Rd.addS (by k_extra "sz") ?_)
  | (with_reducible show L2.rIsi _ _ _ _; first | with_reducible refine Rd.isiStr ?_ | with_reducible refine Rd.isiB ?_ | with_reducible refine Rd.isiI ?_ | with_reducible refine Rd.isiIB ?_)
  | (with_reducible show L2.rIn _ _ _ _ _ _; first | refine Rd.inStrsY (by k_extra "row") ?_ | refine Rd.inStrsN (by k_extra "row") ?_ | refine Rd.inIntsY (by k_extra "row") ?_ | refine Rd.inIntsN (by k_extra "row") ?_)
  | with_reducible refine And.intro (Eq.refl L2.V.non) ?_ | with_reducible refine Rd.ifN ?_ | with_reducible refine Rd.ifR ?_ | with_reducible refine Rd.ifI ?_ | with_reducible refine Rd.ifT ?_)
local macro_rules | `(tactic| walk_at "go") => `(tactic| (walk_at "rd"; repeat (k_extra "go1"; walk_at "rd")))

namespace W
open PySem PySem.Spec PyProof.Rows L2
section
variable {P : Program} {w : World} {K : PySem.W.Frag} {mg : Str → Option Value} {base : Heap}
/-! ### the tape: a list of the cells (never written) and four ints; what is drawn lies below the size -/
/-- a tape stands at t, its cells at c -/
def sp_l_tape (K : PySem.W.Frag) : Sp := fun vs H Q _ => ∃ (a : Addr) (ns : List Int), vs = [.ref a] ∧ SqL K H a (ns.map V.int) ∧ ∀ t c H', Tape H' t c → Same H H' → H t = none → H c = none → Q (.ref t) H'
def sp_l_pick (K : PySem.W.Frag) : Sp := fun vs H Q _ => ∃ (t c : Addr) (n : Int), vs = [.ref t, .int n] ∧ Tape H t c ∧ 0 < n ∧ n < 1073741824 ∧ ∀ r H', 0 ≤ r → r < n → Tape H' t c → Rd.But t H H' → Q (.int r) H'
theorem ok_l_tape (T : Txt K mg) : FnOk P w K mg base CX0 1 T.f_l_tape T.fd_l_tape ["_law_script"] (sp_l_tape K) := by
  refine T.F_l_tape.ok sc_l_tape (fun vs H Q E h => ?_) (fun cdv A outer s H vs Q E hr h => ?_)
  · obtain ⟨a, ns, rfl, _⟩ := h
    rfl
  · obtain ⟨a, ns, rfl, hS, k⟩ := h
    refine ⟨_, (pss_one (ps_ret (pe_lst (pa_cons (pe_callTy (T := "list") (r := Rd.nListOf K) Rd.c_listOf (by rfl) T.n_list (by decide +kernel) (pa_cons (pv 0) pa_nil)) (pa_cons pe_int (pa_cons pe_int (pa_cons pe_int (pa_cons pe_int pa_nil)))))))), ?_⟩
    walk_at "rd"
    refine Rd.listOf (.inl hS) (Rd.new fun c G hc gc s1 => ?_)
    walk_at "rd"
    refine ⟨Nat.le_of_ble_eq_true rfl, Rd.new fun t G2 ht gt s2 => ?_⟩
    have tc : c ≠ t := ne_of_none gc ht
    exact k t c _ ⟨ns, 0, 0, 1, 0, tc.symm, gt, s2 _ _ gc, by decide, by omega, by decide, by decide⟩ (s1.trans s2) (s1.free ht) hc
theorem ok_l_pick (T : Txt K mg) : FnOk P w K mg base CX0 1 T.f_l_pick T.fd_l_pick ["_law_tape_here", "_law_size"] (sp_l_pick K) := by
  refine T.F_l_pick.ok sc_l_pick (fun vs H Q E h => ?_) (fun cdv A outer s H vs Q E hr h => ?_)
  · obtain ⟨t, c, n, rfl, _⟩ := h
    rfl
  · obtain ⟨t, c, n, rfl, ⟨ns, x, y, z, u, tc, h1, h2, x0, x1, z0, z1⟩, n0, n1, k⟩ := h
    refine ⟨_, (pss_cons (ps_if (pt_cmpR op_gt (pe_ix (r := rIxL K) ix_list (pv 0) pe_int (fun _ _ => rfl)) pe_int (nomark _))
  (pss_cons (ps_set (i := 2) sc_l_pick.nd rfl (.inl rfl) (pe_op op_mod (pe_callTy (T := "int") (r := _) Rd.c_int (by rfl) T.n_int (by decide +kernel) (pa_cons (pe_ix (r := rIxL K) ix_list (pv 0) pe_int (fun _ _ => rfl)) pa_nil)) (pv 1)))
  (pss_cons (ps_asg (pe_op op_fdiv (pe_ix (r := rIxL K) ix_list (pv 0) pe_int (fun _ _ => rfl)) (pv 1)) (pg_sub (pv 0) pe_int set_list))
  (pss_one (ps_ret (pv 2)))))
  pss_nil)
  (pss_cons (ps_asg (pe_op op_add (pe_ix (r := rIxL K) ix_list (pv 0) pe_int (fun _ _ => rfl)) pe_int) (pg_sub (pv 0) pe_int set_list))
  (pss_cons (ps_set (i := 3) sc_l_pick.nd rfl (.inl rfl) pe_int)
  (C8.pss_cut (ps_if (pt_cmpR op_lt (pe_ix (r := rIxL K) ix_list (pv 0) pe_int (fun _ _ => rfl)) (pe_callB (id := "len") (r := Rd.nLen K) Rd.c_len (by rfl) T.n_len (by decide +kernel) (pa_cons (pe_ix ix_list (pv 0) pe_int (fun _ _ => rfl)) pa_nil)) (nomark _))
  (pss_cons (ps_set (i := 3) sc_l_pick.nd rfl (.inl rfl) (pe_ix (r := rIxL K) ix_list (pe_ix ix_list (pv 0) pe_int (fun _ _ => rfl)) (pe_ix (r := rIxL K) ix_list (pv 0) pe_int (fun _ _ => rfl)) (fun _ _ => rfl)))
  (pss_one (ps_asg (pe_op op_add (pe_ix (r := rIxL K) ix_list (pv 0) pe_int (fun _ _ => rfl)) pe_int) (pg_sub (pv 0) pe_int set_list))))
  pss_nil)
  (pss_cons (ps_if (pt_cmpR op_ge (pv 3) (pe_op op_pow pe_int pe_int) (nomark _))
  (pss_cons (ps_asg (pe_op op_fdiv (pv 3) (pv 1)) (pg_sub (pv 0) pe_int set_list))
  (pss_one (ps_ret (pe_op op_mod (pe_callTy (T := "int") (r := _) Rd.c_int (by rfl) T.n_int (by decide +kernel) (pa_cons (pv 3) pa_nil)) (pv 1)))))
  pss_nil)
  (pss_cons (ps_set (i := 4) sc_l_pick.nd rfl (.inl rfl) (pe_op op_mod (pe_callTy (T := "int") (r := _) Rd.c_int (by rfl) T.n_int (by decide +kernel) (pa_cons (pe_op op_add (pe_op op_add (pe_op op_mul (pe_ix (r := rIxL K) ix_list (pv 0) pe_int (fun _ _ => rfl)) pe_int) (pe_op op_mod (pe_callTy (T := "int") (r := _) Rd.c_int (by rfl) T.n_int (by decide +kernel) (pa_cons (pv 3) pa_nil)) pe_int)) (pe_op op_mul (pe_ix (r := rIxL K) ix_list (pv 0) pe_int (fun _ _ => rfl)) pe_int)) pa_nil)) pe_int))
  (pss_cons (ps_set (i := 4) sc_l_pick.nd rfl (.inl rfl) (pe_op op_mod (pe_callTy (T := "int") (r := _) Rd.c_int (by rfl) T.n_int (by decide +kernel) (pa_cons (pe_op op_mul (pv 4) (pe_op op_add (pe_op op_fdiv (pv 4) pe_int) pe_int)) pa_nil)) pe_int))
  (pss_cons (ps_asg (pv 4) (pg_sub (pv 0) pe_int set_list))
  (pss_one (ps_ret (pe_op op_mod (pe_callTy (T := "int") (r := _) Rd.c_int (by rfl) T.n_int (by decide +kernel) (pa_cons (pe_op op_fdiv (pv 4) pe_int) pa_nil)) (pv 1)))))))))))), ?_⟩
    walk_at "rd"
    refine Rd.ixL (.of h1) (atI_nat (j := 2) rfl) ?_
    walk_at "rd"
    refine ite2 (fun q => ?_) (fun q => ?_)
    · walk_at "rd"
      refine Rd.ixL (.of h1) (atI_nat (j := 2) rfl) ?_
      walk_at "rd"
      refine Rd.iC n0 ?_
      walk_at "rd"
      refine Rd.ixL (.of h1) (atI_nat (j := 2) rfl) ?_
      walk_at "rd"
      refine Rd.iC ⟨n0, n1⟩ ?_
      walk_at "rd"
      refine Rd.setG h1 (show ixN 5 2 = some 2 by decide) rfl fun G g1 gb => ?_
      walk_at "rd"
      exact k _ _ (Int.emod_nonneg _ (by omega)) (Int.emod_lt_of_pos _ n0) ⟨ns, x, _, z, u, tc, g1, by rw [gb _ tc.symm]; exact h2, x0, x1, z0, z1⟩ (fun b o hb e => by rw [gb b hb]; exact e)
    · walk_at "rd"
      refine Rd.ixL (.of h1) (atI_nat (j := 4) rfl) ?_
      walk_at "rd"
      refine Rd.setG h1 (show ixN 5 4 = some 4 by decide) rfl fun G g1 gb => ?_
      have g2 : G c = some (.lst (ns.map V.int)) := by rw [gb _ tc.symm]; exact h2
      walk_at "rd"
      -- the cell m is read (or 0)
      refine Rd.cut (fun σ G' => ∃ x' m : Int, σ = [some (.ref t), some (.int n), none, some (.int m), none] ∧ 0 ≤ x' ∧ x' ≤ ns.length ∧ G' t = some (.lst [.ref c, .int x', .int y, .int z, .int (u + 1)]) ∧ (∀ b, b ≠ t → G' b = H b)) ?_ ?_
      · walk_at "rd"
        refine Rd.ixL (.of g1) (atI_nat (j := 1) rfl) ?_
        walk_at "rd"
        refine Rd.ixL (.of g1) (atI_nat (j := 0) rfl) ?_
        walk_at "rd"
        refine Rd.len (.inl (.of g2)) ?_
        rw [List.length_map]
        walk_at "rd"
        refine ite2 (fun q2 => ?_) (fun q2 => ?_)
        · walk_at "rd"
          refine Rd.ixL (.of g1) (atI_nat (j := 0) rfl) ?_
          walk_at "rd"
          refine Rd.ixL (.of g1) (atI_nat (j := 1) rfl) ?_
          have hx : x.toNat < ns.length := by omega
          refine Rd.ixL (.of g2) (Rd.atI_of x0 (Rd.map_int hx)) ?_
          walk_at "rd"
          refine Rd.ixL (.of g1) (atI_nat (j := 1) rfl) ?_
          walk_at "rd"
          refine Rd.setG g1 (show ixN 5 1 = some 1 by decide) rfl fun G2 k1 kb => ?_
          walk_at "rd"
          exact ⟨x + 1, _, rfl, by omega, by omega, k1, fun b hb => (kb b hb).trans (gb b hb)⟩
        · walk_at "rd"
          exact ⟨x, 0, rfl, x0, x1, g1, gb⟩
      · rintro _ G' ⟨x', m, rfl, x'0, x'1, e1, eb⟩
        have e2 : G' c = some (.lst (ns.map V.int)) := by rw [eb _ tc.symm]; exact h2
        walk_at "rd"
        refine Rd.iC ⟨by decide, by decide, by decide⟩ ?_
        walk_at "rd"
        refine ite2 (fun q2 => ?_) (fun q2 => ?_)
        · walk_at "rd"
          refine Rd.iC ⟨n0, n1⟩ ?_
          walk_at "rd"
          refine Rd.setG e1 (show ixN 5 2 = some 2 by decide) rfl fun G2 k1 kb => ?_
          walk_at "rd"
          refine Rd.iC n0 ?_
          walk_at "rd"
          exact k _ _ (Int.emod_nonneg _ (by omega)) (Int.emod_lt_of_pos _ n0) ⟨ns, x', _, z, u + 1, tc, k1, by rw [kb _ tc.symm]; exact e2, x'0, x'1, z0, z1⟩ (fun b o hb e => by rw [kb b hb, eb b hb]; exact e)
        · walk_at "rd"
          refine Rd.ixL (.of e1) (atI_nat (j := 3) rfl) ?_
          walk_at "rd"
          refine Rd.iC (.inr (by decide)) ?_
          walk_at "rd"
          refine Rd.iC (by decide) ?_
          walk_at "rd"
          refine Rd.ixL (.of e1) (atI_nat (j := 4) rfl) ?_
          walk_at "rd"
          refine Rd.iC (.inr (by decide)) ?_
          walk_at "rd"
          refine Rd.iC (by decide) ?_
          generalize hM : (z * 48271 + m % 2147483629 + (u + 1) * 69621) % 2147483647 = M
          have M0 : 0 ≤ M := by rw [← hM]; exact Int.emod_nonneg _ (by decide)
          have M1 : M < 2147483647 := by rw [← hM]; exact Int.emod_lt_of_pos _ (by decide)
          walk_at "rd"
          refine Rd.iC ⟨by decide, by decide⟩ ?_
          walk_at "rd"
          refine Rd.iC (.inl ⟨by omega, by omega⟩) ?_
          walk_at "rd"
          refine Rd.iC (by decide) ?_
          generalize hN : M * (M / 1009 + 40692) % 2147483399 = N
          have N0 : 0 ≤ N := by rw [← hN]; exact Int.emod_nonneg _ (by decide)
          have N1 : N < 2147483399 := by rw [← hN]; exact Int.emod_lt_of_pos _ (by decide)
          walk_at "rd"
          refine Rd.setG e1 (show ixN 5 3 = some 3 by decide) rfl fun G2 k1 kb => ?_
          walk_at "rd"
          refine Rd.iC ⟨by decide, by decide⟩ ?_
          walk_at "rd"
          refine Rd.iC n0 ?_
          walk_at "rd"
          exact k _ _ (Int.emod_nonneg _ (by omega)) (Int.emod_lt_of_pos _ n0) ⟨ns, x', y, N, u + 1, tc, k1, by rw [kb _ tc.symm]; exact e2, x'0, x'1, N0, by omega⟩ (fun b o hb e => by rw [kb b hb, eb b hb]; exact e)
theorem pickR {K : PySem.W.Frag} {H : Hp} {t c : Addr} {n : Int} {Q : VK} {E : XK} (T : Tape H t c) (h0 : 0 < n) (h1 : n < 1073741824) (k : ∀ r H', 0 ≤ r → r < n → Tape H' t c → Rd.But t H H' → Q (.int r) H') : sp_l_pick K [.ref t, .int n] H Q E := ⟨t, c, n, rfl, T, h0, h1, k⟩
/-! ### what stays when only the tape is written -/
theorem but_L {K : PySem.W.Frag} {H H' : Hp} {t a : Addr} {xs : List V} (e : Rd.But t H H') (n : a ≠ t) (h : SqL K H a xs) : SqL K H' a xs := by
  rcases h with (h | ⟨o, h⟩) | h
  · exact .inl (.inl (e _ _ n h))
  · exact .inl (.inr ⟨o, e _ _ n h⟩)
  · exact .inr h
theorem but_T {K : PySem.W.Frag} {H H' : Hp} {t a : Addr} {xs : List V} (e : Rd.But t H H') (n : a ≠ t) (h : SqT K H a xs) : SqT K H' a xs := by
  rcases h with (h | ⟨o, h⟩) | h
  · exact .inl (.inl (e _ _ n h))
  · exact .inl (.inr ⟨o, e _ _ n h⟩)
  · exact .inr h
theorem but_R {K : PySem.W.Frag} {H H' : Hp} {t a : Addr} {xs : List V} (e : Rd.But t H H') (n : a ≠ t) (h : Ru.SqR K H a xs) : Ru.SqR K H' a xs := h.imp (but_L e n) (but_T e n)

end
end W

namespace W
open PySem PySem.Spec PyProof.Rows L2
section
variable {P : Program} {w : World} {K : PySem.W.Frag} {mg : Str → Option Value} {base : Heap}
/-! ### words and watches of letters -/
def sp_is_letters (K : PySem.W.Frag) : Sp := fun vs H Q _ => ∃ z : Str, vs = [.str z] ∧ Lt.Let z ∧ z.length ≤ 1000000 ∧ ∀ H', Same H H' → Q (.bl true) H'
def sp_is_word (K : PySem.W.Frag) : Sp := fun vs H Q _ => ∃ z : Str, vs = [.str z] ∧ Lt.Wd 40 z ∧ ∀ H', Same H H' → Q (.bl true) H'
def sp_is_watch (K : PySem.W.Frag) : Sp := fun vs H Q _ => ∃ z : Str, vs = [.str z] ∧ Lt.Wd 12 z ∧ ∀ H', Same H H' → Q (.bl true) H'
theorem ok_is_letters (T : Txt K mg) : FnOk P w K mg base CX0 1 T.f_is_letters T.fd_is_letters ["value"] (sp_is_letters K) := by
  refine T.F_is_letters.ok sc_is_letters (fun vs H Q E h => ?_) (fun cdv A outer s H vs Q E hr h => ?_)
  · obtain ⟨z, rfl, _⟩ := h
    rfl
  · obtain ⟨z, rfl, hz, hl, k⟩ := h
    refine ⟨_, (pss_one (ps_ret (pe_and (pe_callB (id := "isinstance") (r := rIsi K) call_isi (by rfl) T.n_isinstance (by decide +kernel) (pa_cons (pv 0) (pa_cons (pe_bltn (v := .ty "str") (u := .type "str") (by rfl) T.n_str (by decide +kernel) rfl) pa_nil))) (pe_one (pe_callB (id := "all") (r := rAll K) (cr_all rfl) (by rfl) T.n_all (by decide +kernel) (pa_cons (pe_lc (own := [("letter", 1)]) (g := gName 1) (tt := tYes) rfl sc_is_letters.nd (pi_str (pv 0)) (blkOk_by (own := [("letter", 1)]) (N := ["value", "letter"]) (sc := defScope s_is_letters) (by decide +kernel)) (fun _ _ _ _ _ => (pg_name (i := 1) sc_is_letters.nd rfl (.inl rfl))) (fun _ _ _ _ _ => pts_nil) (fun _ _ _ _ _ => (pe_cmpR Rd.o_inC (pv 1) (pe_glob (v := .str "abcdefghijklmnopqrstuvwxyz") rfl T.m_LETTERS ⟨_, rfl⟩) rfl))) pa_nil)))))), ?_⟩
    walk_at "rd"
    refine Rd.isiStr ?_
    walk_at "rd"
    refine Rd.lcS walk_str (fun _ _ => trivial) (fun _ i acc _ => acc = (List.replicate i true).map V.bl) (fun _ _ _ _ _ => rfl) ?_ ?_
    · rintro D i x G _ acc nD hi hD sm rfl ⟨rfl, c, hc, rfl⟩
      walk_at "rd"
      refine ⟨rfl, Rd.tyes ?_⟩
      walk_at "rd"
      have hc2 : c ∈ Lt.Abc.cps.toList := hz.char (i := i) (by simpa using hc)
      refine Rd.inCT hc2 ?_
      have hi2 : i < z.length := hi
      refine Rd.lcPush hD nD sm (by rw [List.length_map, List.length_replicate, sizeLine_eq]; omega) fun G _ _ => ?_
      rw [List.replicate_succ', List.map_append]
      rfl
    · rintro D acc G nD hD sm rfl
      refine Rd.all (.of hD) ?_
      rw [show (List.replicate z.cps.size true).all id = true by simp]
      exact k _ sm
theorem ok_is_watch (T : Txt K mg) : FnOk P w K mg base CX0 2 T.f_is_watch T.fd_is_watch ["thing"] (sp_is_watch K) := by
  refine T.F_is_watch.ok sc_is_watch (fun vs H Q E h => ?_) (fun cdv A outer s H vs Q E hr h => ?_)
  · obtain ⟨z, rfl, _⟩ := h
    rfl
  · obtain ⟨z, rfl, hz, k⟩ := h
    refine ⟨_, (pss_one (ps_ret (pe_and (pe_call (ok_is_letters T) (hr.mono (by decide)) rfl T.g_is_letters T.F_is_letters.kp T.b_is_letters .nil pass0 (pa_cons (pv 0) pa_nil)) (pe_one (pe_chain op_le op_le pe_int (pe_callB (id := "len") (r := _) Rd.c_lenS (by rfl) T.n_len (by decide +kernel) (pa_cons (pv 0) pa_nil)) (pe_glob (v := .int 12) rfl T.m_MOST_WATCH ⟨_, rfl⟩)))))), ?_⟩
    have h0 := hz.l0
    have h1 := hz.l1
    walk_at "rd"
    refine ⟨z, rfl, hz.ok, by omega, fun H1 s1 => ?_⟩
    walk_at "rd"
    refine Rd.lenStr (hz.line (by decide)) ?_
    walk_at "rd"
    walk_at "yes"
    walk_at "rd"
    rw [decide_eq_true (by omega)]
    exact k _ s1

end
end W

namespace W
open PySem PySem.Spec PyProof.Rows L2
section
variable {P : Program} {w : World} {K : PySem.W.Frag} {mg : Str → Option Value} {base : Heap}
def sp_is_integer (K : PySem.W.Frag) : Sp := fun vs H Q _ => ∃ i : Int, vs = [.int i] ∧ Q (.bl true) H
theorem ok_is_integer (T : Txt K mg) : FnOk P w K mg base CX0 1 T.f_is_integer T.fd_is_integer ["value"] (sp_is_integer K) := by
  refine T.F_is_integer.ok sc_is_integer (fun vs H Q E h => ?_) (fun cdv A outer s H vs Q E hr h => ?_)
  · obtain ⟨i, rfl, _⟩ := h
    rfl
  · obtain ⟨i, rfl, k⟩ := h
    refine ⟨_, (pss_one (ps_ret (pe_and (pe_callB (id := "isinstance") (r := rIsi K) call_isi (by rfl) T.n_isinstance (by decide +kernel) (pa_cons (pv 0) (pa_cons (pe_bltn (v := .ty "int") (u := .type "int") (by rfl) T.n_int (by decide +kernel) rfl) pa_nil))) (pe_one (pe_not (pe_callB (id := "isinstance") (r := rIsi K) call_isi (by rfl) T.n_isinstance (by decide +kernel) (pa_cons (pv 0) (pa_cons (pe_bltn (v := .ty "bool") (u := .type "bool") (by rfl) T.n_bool (by decide +kernel) rfl) pa_nil)))))))), ?_⟩
    walk_at "rd"
    refine Rd.isiI ?_
    walk_at "rd"
    refine Rd.isiIB ?_
    walk_at "rd"
    exact k

end
end W

namespace W
open PySem PySem.Spec PyProof.Rows L2
section
variable {P : Program} {w : World} {K : PySem.W.Frag} {mg : Str → Option Value} {base : Heap}
/-! ### texts in order -/
def keyD (z : Str) : PyData := .tuple [.int (z.length : Nat), .str z]
def inOrder (zs : List Str) : List Str := zs.mergeSort (PySem.W.dataLe false keyD)
theorem keys_ok (zs : List Str) : Rs.Keys (zs.map keyD) where
  al d hd d' hd' := by
    obtain ⟨e, _, rfl⟩ := List.mem_map.mp hd
    obtain ⟨f, _, rfl⟩ := List.mem_map.mp hd'
    unfold keyD
    simp [PySem.W.alike, PySem.W.alikeAll]
  so := .inl fun d hd => by
    obtain ⟨e, _, rfl⟩ := List.mem_map.mp hd
    exact ⟨_, _, rfl⟩
  dp d hd := by
    obtain ⟨e, _, rfl⟩ := List.mem_map.mp hd
    show 1 ≤ 50
    decide
def sp_text_key (K : PySem.W.Frag) : Sp := fun vs H Q _ => ∃ z : Str, vs = [.str z] ∧ z.length ≤ 1000 ∧ ∀ (p : Addr) H', Same H H' → H' p = some (.tup [.int (z.length : Nat), .str z]) → Q (.ref p) H'
theorem ok_text_key (T : Txt K mg) : FnOk P w K mg base CX0 1 T.f_text_key T.fd_text_key ["text"] (sp_text_key K) := by
  refine T.F_text_key.ok sc_text_key (fun vs H Q E h => ?_) (fun cdv A outer s H vs Q E hr h => ?_)
  · obtain ⟨z, rfl, _⟩ := h
    rfl
  · obtain ⟨z, rfl, l, k⟩ := h
    refine ⟨_, (pss_one (ps_ret (pe_tup (pa_cons (pe_callB (id := "len") (r := _) Rd.c_lenS (by rfl) T.n_len (by decide +kernel) (pa_cons (pv 0) pa_nil)) (pa_cons (pv 0) pa_nil))))), ?_⟩
    have zl : z.length ≤ sizeLine := by rw [sizeLine_eq]; omega
    walk_at "go"
    refine ⟨Nat.le_of_ble_eq_true rfl, Rd.new fun p G np gp sG => ?_⟩
    exact k p G sG gp
theorem each_strs : ∀ zs : List Str, PySem.W.EachIs (fun x z => x = V.str z) (zs.map V.str) zs
  | [] => .nil
  | z :: zs => .cons rfl (each_strs zs)
theorem strs_each : ∀ {xs : List V} {zs : List Str}, PySem.W.EachIs (fun x z => x = V.str z) xs zs → xs = zs.map V.str
  | _, _, .nil => rfl
  | _, _, .cons h t => by rw [h, strs_each t]; rfl
def sp_in_order (K : PySem.W.Frag) : Sp := fun vs H Q _ => ∃ (a : Addr) (zs : List Str), vs = [.ref a] ∧ SqL K H a (zs.map V.str) ∧ (∀ z ∈ zs, z.length ≤ 1000) ∧ ∀ (l : Addr) H', Same H H' → H l = none → H' l = some (.lst ((inOrder zs).map V.str)) → Q (.ref l) H'
theorem ok_in_order (T : Txt K mg) : FnOk P w K mg base CX0 3 T.f_in_order T.fd_in_order ["texts"] (sp_in_order K) := by
  refine T.F_in_order.ok sc_in_order (fun vs H Q E h => ?_) (fun cdv A outer s H vs Q E hr h => ?_)
  · obtain ⟨a, zs, rfl, _⟩ := h
    rfl
  · obtain ⟨a, zs, rfl, hS, hz, k⟩ := h
    refine ⟨_, (pss_one (ps_ret (pe_callBK (id := "sorted") (ks := [Str.ofString "key"]) (r := Rs.rSortK T.f_text_key (sp_text_key K) K) (Rs.cr_sortK (ok_text_key T) (hr.mono (by decide)) T.b_text_key) (by rfl) T.n_sorted (by decide +kernel) (pa_cons (pv 0) pa_nil) (pk_cons (pe_glob (v := .ref T.f_text_key) rfl T.g_text_key rfl) pk_nil)))), ?_⟩
    walk_at "go"
    refine Rw.sortK keyD (fun x z => x = V.str z) hS (each_strs zs) (keys_ok zs) (fun x z H1 s1 m e => ?_) fun out p G ho np gp sG => ?_
    · subst e
      exact ⟨z, rfl, hz z m, fun q H2 s2 gq => ⟨s2, .tup (.of gq) (.cons (.int _) (.cons (.str _) .nil))⟩⟩
    · rw [strs_each ho] at gp
      exact k p G sG np gp

end
end W

namespace W
open PySem PySem.Spec PyProof.Rows L2
section
variable {P : Program} {w : World} {K : PySem.W.Frag} {mg : Str → Option Value} {base : Heap}
/-! ### books -/
def sp_Book_init (K : PySem.W.Frag) (C : Addr) : Sp := fun vs H Q _ => ∃ (b a : Addr) (ws : List Str), vs = [.ref b, .ref a] ∧ (∃ dx, H b = some (.ins C dx [])) ∧ Ru.SqR K H a (ws.map V.str) ∧ Watches ws ∧ ∀ H', BookAt C H' b ws → Rd.But b H H' → Q .non H'
def sp_check_book (K : PySem.W.Frag) (C : Addr) : Sp := fun vs H Q _ => ∃ (b : Addr) (ws : List Str), vs = [.ref b] ∧ BookAt C H b ws ∧ Q (.ref b) H
theorem ok_Book_init (T : Txt K mg) : FnOk P w K mg base CX0 4 T.f_Book_init T.fd_Book_init ["self", "watches"] (sp_Book_init K T.C_Book) := by
  refine T.F_Book_init.ok sc_Book_init (fun vs H Q E h => ?_) (fun cdv A outer s H vs Q E hr h => ?_)
  · obtain ⟨b, a, ws, rfl, _⟩ := h
    rfl
  · obtain ⟨b, a, ws, rfl, ⟨dx, hb⟩, hS, L, k⟩ := h
    refine ⟨_, (pss_cons (ps_if (PW.pt (pw_or (pt_not (pt_val (pe_callB (id := "isinstance") (r := rIsiT K) call_isiT (by rfl) T.n_isinstance (by decide +kernel) (pa_cons (pv 1) (pa_cons (pe_tup (pa_cons (pe_bltn (v := .ty "list") (u := .type "list") (by rfl) T.n_list (by decide +kernel) rfl) (pa_cons (pe_bltn (v := .ty "tuple") (u := .type "tuple") (by rfl) T.n_tuple (by decide +kernel) rfl) pa_nil))) pa_nil))))) (pw_or1 (pt_cmpR op_gt (pe_callB (id := "len") (r := Rd.nLen K) Rd.c_len (by rfl) T.n_len (by decide +kernel) (pa_cons (pv 1) pa_nil)) (pe_glob (v := .int 12) rfl T.m_MOST_WATCHES ⟨_, rfl⟩) (nomark _)))))
  (pss_one ps_never)
  pss_nil)
  (pss_cons (ps_set (i := 2) sc_Book_init.nd rfl (.inl rfl) (pe_lst pa_nil))
  (pss_cons (ps_for PassesOwn.never rfl (Ru.pi_or (pi_enum (by rfl) T.n_enumerate (pa_cons (pv 1) pa_nil)) (Ru.pi_enumT (by rfl) T.n_enumerate (pa_cons (pv 1) pa_nil))) (pg_tup rfl (pgs_cons (pg_name (i := 3) sc_Book_init.nd rfl (.inl rfl)) (pgs_cons (pg_name (i := 4) sc_Book_init.nd rfl (.inl rfl)) pgs_nil)))
  (pss_cons (ps_if (PW.pt (pw_or (pt_not (pt_val (pe_call (ok_is_watch T) (hr.mono (by decide)) rfl T.g_is_watch T.F_is_watch.kp T.b_is_watch .nil pass0 (pa_cons (pv 4) pa_nil)))) (pw_or1 (pt_cmpR (r := rIn K false) op_in_seq (pv 4) (pv 2) (by rfl)))))
  (pss_one ps_never)
  pss_nil)
  (pss_one (ps_expr (pe_bm PySem.F.plainAttrs_list PySem.F.slot_list_append PySem.F.type_list_append mt_append (pv 2) (pa_cons (pv 4) pa_nil))))))
  (pss_one (ps_fld (pv 0) (pe_callTy (T := "tuple") (r := Rd.nTupOf K) Rd.c_tupOf (by rfl) T.n_tuple (by decide +kernel) (pa_cons (pv 2) pa_nil)) rfl))))), ?_⟩
    have l1 := L.l1
    walk_at "rd"
    refine ⟨Nat.le_of_ble_eq_true rfl, Rd.new fun p G hp gp sG => ?_⟩
    walk_at "rd"
    refine Ru.isRow (hS.same sG) gp ?_
    walk_at "rd"
    refine Rd.len (hS.same sG) ?_
    rw [List.length_map]
    walk_at "rd"
    walk_at "no"
    walk_at "rd"
    refine ⟨Nat.zero_le _, Rd.new fun f G2 nf gf s2 => ?_⟩
    walk_at "rd"
    refine Ru.for_enumR (a := a) (xs := ws.map V.str) (fun Q q => ?_) (fun i σ H' => ∃ x y, σ = [some (.ref b), some (.ref a), some (.ref f), x, y] ∧ H' f = some (.lst ((ws.take i).map V.str)) ∧ Same G H') (hS.same sG) ⟨_, _, rfl, gf, s2⟩ (fun i σ H' _ ⟨_, _, _, _, z⟩ => z) ?_ ?_
    · walk_at "rd"
      exact q
    · rintro i x _ H' t hx ⟨_, _, rfl, hf, sm⟩ hT
      obtain ⟨z, hz, rfl⟩ := Rd.map_strG hx
      have sT := Rd.same_upd (o := .tup [.int (i : Nat), .str z]) hT
      refine Rd.tupT (.of upd_same) rfl ?_
      walk_at "rd"
      refine ⟨z, rfl, L.ok z (List.mem_of_getElem? hz), fun H1 s1 => ?_⟩
      have hf1 := s1 _ _ (sT _ _ hf)
      walk_at "rd"
      refine Rd.inStrsY (.inl (.of hf1)) ?_
      rw [decide_eq_false (Rd.nodup_take L.nd hz)]
      walk_at "rd"
      refine Rd.tyL (.of hf1) ?_
      walk_at "rd"
      refine Rd.app hf1 (by rw [List.length_map, List.length_take, sizeLine_eq]; omega) fun G3 g3 off3 => ?_
      walk_at "rd"
      refine ⟨_, _, rfl, ?_, fun c o e => ?_⟩
      · rw [Rd.take_snoc hz, List.map_append]
        exact g3
      · rw [off3 c (ne_of_none e nf)]
        exact s1 _ _ (sT _ _ (sm _ _ e))
    · rintro _ H' ⟨_, _, rfl, hf, sm⟩
      rw [List.length_map, List.take_length] at hf
      walk_at "rd"
      refine Rd.tupOf (.of hf) (Rd.new fun t G3 nt gt s3 => ?_)
      walk_at "rd"
      have hb3 := s3 _ _ (sm _ _ (sG _ _ hb))
      refine Rd.sfld hb3 T.cl_Book T.na_Book_watches (by decide) rfl fun G4 g4 off4 => ?_
      walk_at "rd"
      refine k _ ⟨dx, t, g4, ?_⟩ fun c o n e => ?_
      · rw [off4 t (ne_of gt hb3 (fun e => nomatch e))]
        exact gt
      · rw [off4 c n]
        exact s3 _ _ (sm _ _ (sG _ _ e))
theorem ok_check_book (T : Txt K mg) : FnOk P w K mg base CX0 4 T.f_check_book T.fd_check_book ["book"] (sp_check_book K T.C_Book) := by
  refine T.F_check_book.ok sc_check_book (fun vs H Q E h => ?_) (fun cdv A outer s H vs Q E hr h => ?_)
  · obtain ⟨b, ws, rfl, _⟩ := h
    rfl
  · obtain ⟨b, ws, rfl, ⟨dx, t, hb, ht⟩, k⟩ := h
    refine ⟨_, (pss_cons (ps_if (pt_not (pt_val (pe_callB (id := "isinstance") (r := rIsi K) call_isi (by rfl) T.n_isinstance (by decide +kernel) (pa_cons (pv 0) (pa_cons (pe_glob (v := .ref T.C_Book) rfl T.c_Book rfl) pa_nil)))))
  (pss_one ps_never)
  pss_nil)
  (pss_one (ps_ret (pv 0)))), ?_⟩
    walk_at "rd"
    refine isiOwn T.cl_Book T.ty_Book hb ?_
    walk_at "rd"
    exact k

end
end W

namespace W
open PySem PySem.Spec PyProof.Rows L2
section
variable {P : Program} {w : World} {K : PySem.W.Frag} {mg : Str → Option Value} {base : Heap}
/-! ### the roads of a word: lists of spots -/
def Links (K : PySem.W.Frag) (H : Hp) (p : Addr) (n : Nat) (A : Nat → Nat → Prop) : Prop := ∃ rs : List Addr, SqL K H p (rs.map V.ref) ∧ rs.length = n + 1 ∧ ∀ i r, rs[i]? = some r → ∃ ms : List Int, SqL K H r (ms.map V.int) ∧ (ms.Pairwise (· ≤ ·) ∧ ms.length ≤ 1000000) ∧ ∀ x, x ∈ ms ↔ ∃ j : Nat, x = j ∧ A i j
theorem Links.same {K : PySem.W.Frag} {H H' : Hp} {p : Addr} {n : Nat} {A : Nat → Nat → Prop} (h : Links K H p n A) (s : Same H H') : Links K H' p n A := by
  obtain ⟨rs, h1, h2, h3⟩ := h
  exact ⟨rs, s.seq h1, h2, fun i r e => let ⟨ms, k1, k2⟩ := h3 i r e; ⟨ms, s.seq k1, k2⟩⟩
def Rows (H : Hp) (rs : List Addr) (F : Nat → List Int) : Prop := rs.Nodup ∧ ∀ (i : Nat) r, rs[i]? = some r → H r = some (.lst ((F i).map V.int))
theorem Rows.put {H G : Hp} {rs : List Addr} {F : Nat → List Int} (h : Rows H rs F) {i : Nat} {r : Addr} {x : Int} (hi : rs[i]? = some r) (g : G r = some (.lst ((F i).map V.int ++ [.int x]))) (off : ∀ b, b ≠ r → G b = H b) : Rows G rs (fun j => if j = i then F i ++ [x] else F j) := by
  refine ⟨h.1, fun j q hj => ?_⟩
  by_cases c : j = i
  · subst c
    rw [hi] at hj
    cases hj
    show G r = some (.lst ((if j = j then F j ++ [x] else F j).map V.int))
    rw [if_pos rfl, List.map_append]
    exact g
  · have n : q ≠ r := fun e => by
      subst e
      exact c ((List.getElem?_inj (List.getElem?_eq_some_iff.mp hj).1 h.1).mp (hj.trans hi.symm))
    show G q = some (.lst ((if j = i then F i ++ [x] else F j).map V.int))
    rw [if_neg c, off q n]
    exact h.2 j q hj
def sp_links_of (K : PySem.W.Frag) : Sp := fun vs H Q _ => ∃ (a : Addr) (ws : List Str) (z : Str), vs = [.ref a, .str z] ∧ Ru.SqR K H a (ws.map V.str) ∧ (∀ W ∈ ws, 1 ≤ W.length ∧ W.length ≤ 1000) ∧ ws.length ≤ 100 ∧ z.length ≤ 1000 ∧ ∀ p H', Links K H' p z.length (Mw.Adj ws z) → Same H H' → H p = none → Q (.ref p) H'
/-- the rows so far: f the list of them, G0 what stood ahead -/
structure SoFar (G0 H : Hp) (f : Addr) (rs : List Addr) (n : Nat) (F : Nat → List Int) : Prop where
  sm : Same G0 H
  hf : H f = some (.lst (rs.map V.ref))
  ro : Rows H rs F
  ln : rs.length = n + 1
  nr : ∀ r ∈ rs, G0 r = none ∧ r ≠ f
theorem SoFar.put {G0 H G : Hp} {f : Addr} {rs : List Addr} {n : Nat} {F : Nat → List Int} (h : SoFar G0 H f rs n F) {i : Nat} {r : Addr} {x : Int} (hi : rs[i]? = some r) (g : G r = some (.lst ((F i).map V.int ++ [.int x]))) (off : ∀ b, b ≠ r → G b = H b) : SoFar G0 G f rs n (fun j => if j = i then F i ++ [x] else F j) := by
  have m := h.nr r (List.mem_of_getElem? hi)
  refine ⟨fun b o e => ?_, ?_, h.ro.put hi g off, h.ln, h.nr⟩
  · rw [off b (ne_of_none e m.1)]
    exact h.sm b o e
  · rw [off f m.2.symm]
    exact h.hf
theorem SoFar.row {G0 H : Hp} {f : Addr} {rs : List Addr} {n : Nat} {F : Nat → List Int} (h : SoFar G0 H f rs n F) {i : Nat} (hi : i ≤ n) : ∃ r, rs[i]? = some r ∧ H r = some (.lst ((F i).map V.int)) ∧ atI (rs.map V.ref) (i : Int) = some (.ref r) := by
  have l : i < rs.length := by have := h.ln; omega
  exact ⟨rs[i], List.getElem?_eq_getElem l, h.ro.2 i _ (List.getElem?_eq_getElem l), atI_nat (Rd.map_ref l)⟩
theorem ok_links_of (T : Txt K mg) : FnOk P w K mg base CX0 1 T.f_links_of T.fd_links_of ["watches", "word"] (sp_links_of K) := by
  refine T.F_links_of.ok sc_links_of (fun vs H Q E h => ?_) (fun cdv A outer s H vs Q E hr h => ?_)
  · obtain ⟨a, ws, z, rfl, _⟩ := h
    rfl
  · obtain ⟨a, ws, z, rfl, hS, hw, l1, l2, k⟩ := h
    refine ⟨_, (pss_cons (ps_setLc (i := 3) (own := [("spot", 2)]) (g := gName 2) (tt := tYes) rfl sc_links_of.nd rfl rfl (sw_true rfl rfl rfl (by decide +kernel)) (pi_range1 rfl T.n_range (pa_cons (pe_op op_add (pe_callB (id := "len") (r := _) Rd.c_lenS (by rfl) T.n_len (by decide +kernel) (pa_cons (pv 1) pa_nil)) pe_int) pa_nil)) (blkOk_by (own := [("spot", 2)]) (N := ["watches", "word", "spot", "found", "watch", "row"]) (sc := defScope s_links_of) (by decide +kernel)) (fun _ _ _ _ _ => (pg_name (i := 2) sc_links_of.nd rfl (.inl rfl))) (fun _ _ _ _ _ => pts_nil) (fun _ _ _ _ _ => (pe_lst pa_nil)))
  (pss_cons (ps_for PassesOwn.never rfl (Ru.pi_or (pi_list (pv 0)) (pi_tup (pv 0))) (pg_name (i := 4) sc_links_of.nd rfl (.inl rfl))
  (pss_one (ps_for PassesOwn.never rfl (pi_range1 rfl T.n_range (pa_cons (pe_op op_add (pe_op op_sub (pe_callB (id := "len") (r := _) Rd.c_lenS (by rfl) T.n_len (by decide +kernel) (pa_cons (pv 1) pa_nil)) (pe_callB (id := "len") (r := _) Rd.c_lenS (by rfl) T.n_len (by decide +kernel) (pa_cons (pv 4) pa_nil))) pe_int) pa_nil)) (pg_name (i := 2) sc_links_of.nd rfl (.inl rfl))
  (pss_one (ps_if (pt_cmpR op_eq (pe_slice sl_str (pv 1) (po_some (pv 2)) (po_some (pe_op op_add (pv 2) (pe_callB (id := "len") (r := _) Rd.c_lenS (by rfl) T.n_len (by decide +kernel) (pa_cons (pv 4) pa_nil))))) (pv 4) (nomark _))
  (pss_cons (ps_expr (pe_bm PySem.F.plainAttrs_list PySem.F.slot_list_append PySem.F.type_list_append mt_append (pe_ix (r := rIxL K) ix_list (pv 3) (pv 2) (fun _ _ => rfl)) (pa_cons (pe_op op_add (pv 2) (pe_callB (id := "len") (r := _) Rd.c_lenS (by rfl) T.n_len (by decide +kernel) (pa_cons (pv 4) pa_nil))) pa_nil)))
  (pss_one (ps_expr (pe_bm PySem.F.plainAttrs_list PySem.F.slot_list_append PySem.F.type_list_append mt_append (pe_ix (r := rIxL K) ix_list (pv 3) (pe_op op_add (pv 2) (pe_callB (id := "len") (r := _) Rd.c_lenS (by rfl) T.n_len (by decide +kernel) (pa_cons (pv 4) pa_nil))) (fun _ _ => rfl)) (pa_cons (pv 2) pa_nil)))))
  pss_nil)))))
  (pss_one (ps_ret (pe_lc (own := [("row", 5)]) (g := gName 5) (tt := tYes) rfl sc_links_of.nd (pi_list (pv 3)) (blkOk_by (own := [("row", 5)]) (N := ["watches", "word", "spot", "found", "watch", "row"]) (sc := defScope s_links_of) (by decide +kernel)) (fun _ _ _ _ _ => (pg_name (i := 5) sc_links_of.nd rfl (.inl rfl))) (fun _ _ _ _ _ => pts_nil) (fun _ _ _ _ _ => (pe_callB (id := "sorted") (r := rSortedI K) cr_sortedI (by rfl) T.n_sorted (by decide +kernel) (pa_cons (pv 5) pa_nil)))))))), ?_⟩
    have zl : z.length ≤ sizeLine := by rw [sizeLine_eq]; omega
    walk_at "rd"
    refine Rd.lenStr zl ?_
    walk_at "rd"
    refine ⟨by omega, by omega, ?_⟩
    rw [show ((z.length : Int) + 1).toNat = z.length + 1 by omega]
    refine Rd.lcS walk_range (fun _ _ => trivial) (fun D i acc Hc => ∃ rs : List Addr, acc = rs.map V.ref ∧ rs.length = i ∧ rs.Nodup ∧ (∀ r ∈ rs, H r = none ∧ r ≠ D) ∧ ∀ r ∈ rs, Hc r = some (.lst [])) (fun _ _ _ _ _ => ⟨[], rfl, rfl, .nil, fun _ h => by simp at h, fun _ h => by simp at h⟩) ?_ ?_
    · rintro D i x G _ acc nD hi hD sm ⟨rs, rfl, ln, nd, h1, h2⟩ ⟨rfl, rfl⟩
      walk_at "rd"
      refine ⟨rfl, Rd.tyes ?_⟩
      walk_at "rd"
      refine ⟨Nat.zero_le _, Rd.new fun r G1 nr gr s1 => ?_⟩
      refine Rd.lcPush (s1 _ _ hD) nD (sm.trans s1) (by rw [List.length_map, ln, sizeLine_eq]; omega) fun G2 g2 off2 => ?_
      have rD : r ≠ D := (ne_of_none hD nr).symm
      have out : ∀ q ∈ rs, q ≠ r := fun q hq => ne_of_none (h2 q hq) nr
      refine ⟨rs ++ [r], by rw [List.map_append]; rfl, by rw [List.length_append, ln]; rfl, ?_, fun q hq => ?_, fun q hq => ?_⟩
      · rw [List.nodup_append]
        exact ⟨nd, by simp, fun q hq y hy e => out q hq (by simp at hy; rw [e, hy])⟩
      · rcases List.mem_append.mp hq with h | h
        · exact h1 q h
        · simp at h
          subst h
          exact ⟨sm.free nr, rD⟩
      · rcases List.mem_append.mp hq with h | h
        · rw [off2 q (h1 q h).2]
          exact s1 _ _ (h2 q h)
        · simp at h
          subst h
          rw [off2 q rD]
          exact gr
    · rintro f acc G nf hf sm ⟨rs, rfl, ln, nd, h1, h2⟩
      walk_at "rd"
      have sf0 : SoFar H G f rs z.length (fun _ => []) := ⟨sm, hf, ⟨nd, fun i r e => h2 r (List.mem_of_getElem? e)⟩, ln, h1⟩
      refine Ru.for_row (a := a) (xs := ws.map V.str) (fun Q q => ?_) (fun k σ H' => ∃ o1 o2 F, σ = [some (.ref a), some (.str z), o1, some (.ref f), o2, none] ∧ SoFar H H' f rs z.length F ∧ (∀ i, i ≤ z.length → ∀ x, x ∈ F i ↔ ∃ j : Nat, x = j ∧ Mw.Adj (ws.take k) z i j) ∧ ∀ i, (F i).length ≤ 2 * (k * (z.length + 1))) hS
        ⟨_, _, _, rfl, sf0, fun i _ x => ⟨fun h => by simp at h, fun ⟨j, _, h⟩ => absurd h Mw.adj_nil⟩, fun i => Nat.zero_le _⟩ (fun i σ H' _ ⟨_, _, _, _, z, _⟩ => z.sm) ?_ ?_
      · walk_at "rd"
        exact q
      · rintro k x _ H' hx ⟨o1, o2, F, rfl, sf, hF, lF⟩
        obtain ⟨W, hW, rfl⟩ := Rd.map_strG hx
        have wl := hw W (List.mem_of_getElem? hW)
        have wz : W.length ≤ sizeLine := by rw [sizeLine_eq]; omega
        have kl : k < ws.length := (List.getElem?_eq_some_iff.mp hW).1
        walk_at "rd"
        refine Rd.forS ?_
        walk_at "rd"
        refine Rd.lenStr zl ?_
        walk_at "rd"
        refine Rd.lenStr wz ?_
        walk_at "rd"
        refine ⟨by omega, by omega, ?_⟩
        refine for_range (lo := 0) (n := ((z.length : Int) - (W.length : Int) + 1).toNat) (fun m σ H' => ∃ o1 F, σ = [some (.ref a), some (.str z), o1, some (.ref f), some (.str W), none] ∧ SoFar H H' f rs z.length F ∧ (∀ i, i ≤ z.length → ∀ x, x ∈ F i ↔ ∃ j : Nat, x = j ∧ Mw.AdjB (ws.take k) W z m i j) ∧ ∀ i, (F i).length ≤ 2 * (k * (z.length + 1) + m))
          ⟨_, F, rfl, sf, fun i hi x => (hF i hi x).trans (exists_congr fun j => and_congr_right fun _ => Mw.adjB_zero.symm), lF⟩ ?_ ?_
        · rintro m _ H1 hm ⟨o1, F, rfl, sf, hF, lF⟩
          have mz : m + W.length ≤ z.length := by omega
          have kz : k * (z.length + 1) ≤ 100 * 1001 := Nat.mul_le_mul (by omega) (by omega)
          have small : ∀ i, (F i).length < sizeLine := fun i => by have := lF i; rw [sizeLine_eq]; omega
          walk_at "rd"
          rw [Int.zero_add]
          refine Rd.lenStr wz ?_
          walk_at "rd"
          refine Rd.slS zl ?_
          walk_at "rd"
          refine ite2 (fun q => ?_) (fun q => ?_)
          · have oc : Mw.Occ W z m := ⟨mz, q⟩
            walk_at "rd"
            obtain ⟨r, e1, e2, e3⟩ := sf.row (i := m) (by omega)
            refine Rd.ixL (.of sf.hf) e3 ?_
            refine Rd.tyL (.of e2) ?_
            walk_at "rd"
            refine Rd.lenStr wz ?_
            walk_at "rd"
            refine Rd.app e2 (by rw [List.length_map]; exact small m) fun G1 g1 off1 => ?_
            have sf1 := sf.put e1 g1 off1
            walk_at "rd"
            refine Rd.lenStr wz ?_
            walk_at "rd"
            obtain ⟨r', d1, d2, d3⟩ := sf1.row (i := m + W.length) mz
            rw [show ((m + W.length : Nat) : Int) = (m : Int) + (W.length : Int) by omega] at d3
            have ne : ¬ m + W.length = m := by omega
            rw [if_neg ne] at d2
            refine Rd.ixL (.of sf1.hf) d3 ?_
            refine Rd.tyL (.of d2) ?_
            walk_at "rd"
            refine Rd.app d2 (by rw [List.length_map]; exact small _) fun G2 g2 off2 => ?_
            have sf2 := sf1.put (x := (m : Int)) d1 (by rw [if_neg ne]; exact g2) off2
            walk_at "rd"
            refine ⟨_, _, rfl, sf2, fun i hi x => ?_, fun i => ?_⟩
            · have base := hF i hi x
              have yes : ∀ j, Mw.AdjB (ws.take k) W z (m + 1) i j ↔ Mw.AdjB (ws.take k) W z m i j ∨ (i = m ∧ j = m + W.length) ∨ (j = m ∧ i = m + W.length) := fun j => Mw.adjB_yes oc
              simp only [yes]
              by_cases c1 : i = m + W.length
              · subst c1
                rw [if_pos rfl, if_neg ne, List.mem_append, base]
                constructor
                · rintro (⟨j, h1, h2⟩ | h)
                  · exact ⟨j, h1, .inl h2⟩
                  · exact ⟨m, by simpa using h, .inr (.inr ⟨rfl, rfl⟩)⟩
                · rintro ⟨j, h1, h2 | ⟨h2, _⟩ | ⟨h2, _⟩⟩
                  · exact .inl ⟨j, h1, h2⟩
                  · omega
                  · exact .inr (by simp; omega)
              · rw [if_neg c1]
                by_cases c2 : i = m
                · subst c2
                  rw [if_pos rfl, List.mem_append, base]
                  constructor
                  · rintro (⟨j, h1, h2⟩ | h)
                    · exact ⟨j, h1, .inl h2⟩
                    · exact ⟨_, by simpa using h, .inr (.inl ⟨rfl, rfl⟩)⟩
                  · rintro ⟨j, h1, h2 | ⟨_, h2⟩ | ⟨_, h2⟩⟩
                    · exact .inl ⟨j, h1, h2⟩
                    · exact .inr (by simp; omega)
                    · omega
                · rw [if_neg c2, base]
                  constructor
                  · rintro ⟨j, h1, h2⟩
                    exact ⟨j, h1, .inl h2⟩
                  · rintro ⟨j, h1, h2 | ⟨h2, _⟩ | ⟨_, h2⟩⟩
                    · exact ⟨j, h1, h2⟩
                    · exact absurd h2 c2
                    · exact absurd h2 c1
            · have b1 := lF i
              have b2 := lF m
              have b3 := lF (m + W.length)
              show (if i = m + W.length then (if m + W.length = m then F m ++ [(m : Int) + (W.length : Int)] else F (m + W.length)) ++ [(m : Int)] else if i = m then F m ++ [(m : Int) + (W.length : Int)] else F i).length ≤ _
              rw [if_neg ne]
              split
              · rw [List.length_append, List.length_singleton]; omega
              · split
                · rw [List.length_append, List.length_singleton]; omega
                · omega
          · have oc : ¬ Mw.Occ W z m := fun h => q h.2
            walk_at "rd"
            exact ⟨_, F, rfl, sf, fun i hi x => (hF i hi x).trans (exists_congr fun j => and_congr_right fun _ => (Mw.adjB_no oc).symm), fun i => by have := lF i; omega⟩
        · rintro _ H1 ⟨o1, F, rfl, sf, hF, lF⟩
          walk_at "rd"
          refine ⟨_, _, F, rfl, sf, fun i hi x => (hF i hi x).trans (exists_congr fun j => and_congr_right fun _ => ?_), fun i => ?_⟩
          · rw [Rd.take_snoc hW]
            exact Mw.adjB_all (by omega)
          · have := lF i
            have e : (k + 1) * (z.length + 1) = k * (z.length + 1) + (z.length + 1) := Nat.succ_mul _ _
            omega
      · rintro _ G1 ⟨o1, o2, F, rfl, sf, hF, lF⟩
        rw [List.length_map, List.take_length] at hF
        have big : ∀ i, (F i).length ≤ 1000000 := fun i => by
          have h1 := lF i
          rw [List.length_map] at h1
          have h2 : ws.length * (z.length + 1) ≤ 100 * 1001 := Nat.mul_le_mul l1 (by omega)
          omega
        walk_at "rd"
        refine ⟨⟨_, .of sf.hf⟩, Rd.lcS walk_list (fun _ s => .of (s _ _ sf.hf)) (fun D i acc Hc => ∃ qs : List Addr, acc = qs.map V.ref ∧ qs.length = i ∧ (∀ q ∈ qs, q ≠ D) ∧ ∀ j q, qs[j]? = some q → ∃ ms : List Int, Hc q = some (.lst (ms.map V.int)) ∧ ms.Pairwise (· ≤ ·) ∧ ms.Perm (F j)) (fun _ _ _ _ _ => ⟨[], rfl, rfl, fun _ h => by simp at h, fun _ _ h => by simp at h⟩) ?_ ?_⟩
        · rintro D i x G2 _ acc nD hi hD sm2 ⟨qs, rfl, ql, qD, hq⟩ ⟨rfl, hx⟩
          obtain ⟨r, hr, rfl⟩ := Rd.map_refG hx
          walk_at "rd"
          refine ⟨rfl, Rd.tyes ?_⟩
          walk_at "rd"
          refine Rd.sortedI (.of (sm2 _ _ (sf.ro.2 i r hr))) fun ms p G3 pm ps gp s3 np => ?_
          have pD : p ≠ D := (ne_of_none hD np).symm
          refine Rd.lcPush (s3 _ _ hD) nD (sm2.trans s3) (by rw [List.length_map, ql, sizeLine_eq]; rw [List.length_map, ln] at hi; omega) fun G4 g4 off4 => ?_
          refine ⟨qs ++ [p], by rw [List.map_append]; rfl, by rw [List.length_append, ql]; rfl, fun q h => ?_, fun j q h => ?_⟩
          · rcases List.mem_append.mp h with h | h
            · exact qD q h
            · simp at h
              rw [h]
              exact pD
          · rcases Nat.lt_or_ge j qs.length with l | l
            · rw [List.getElem?_append_left l] at h
              obtain ⟨ms', h1, h2, h3⟩ := hq j q h
              exact ⟨ms', by rw [off4 q (qD q (List.mem_of_getElem? h))]; exact s3 _ _ h1, h2, h3⟩
            · rw [List.getElem?_append_right l] at h
              have e : j = i := by
                have := (List.getElem?_eq_some_iff.mp h).1
                simp at this
                omega
              subst e
              rw [ql, Nat.sub_self] at h
              cases h
              exact ⟨ms, by rw [off4 _ pD]; exact gp, ps, pm⟩
        · rintro D acc G2 nD hD sm2 ⟨qs, rfl, ql, qD, hq⟩
          rw [List.length_map, ln] at ql
          refine k D G2 ⟨qs, .of hD, ql, fun i q h => ?_⟩ (sf.sm.trans sm2) (sf.sm.free nD)
          obtain ⟨ms, h1, h2, h3⟩ := hq i q h
          exact ⟨ms, .of h1, ⟨h2, by rw [h3.length_eq]; exact big i⟩, fun x => h3.mem_iff.trans (hF i (by have := (List.getElem?_eq_some_iff.mp h).1; omega) x)⟩

end
end W

namespace W
open PySem PySem.Spec PyProof.Rows L2
section
variable {P : Program} {w : World} {K : PySem.W.Frag} {mg : Str → Option Value} {base : Heap}
/-! ### grown: all that is led to -/
def sp_grown (K : PySem.W.Frag) : Sp := fun vs H Q _ => ∃ (p q : Addr) (n : Nat) (A : Nat → Nat → Prop) (ss : List Int), vs = [.ref p, .ref q] ∧ Links K H p n A ∧ SqL K H q (ss.map V.int) ∧ n ≤ 1000 ∧ (∀ i j, A i j → j ≤ n) ∧ ss.Nodup ∧ (∀ s ∈ ss, 0 ≤ s ∧ s ≤ n) ∧
  ∀ (r : Addr) (gs : List Int) H', H' r = some (.lst (gs.map V.int)) → gs.Nodup → (∀ x, x ∈ gs ↔ ∃ i : Nat, x = i ∧ ∃ s : Nat, (s : Int) ∈ ss ∧ Mw.Star A s i) → Same H H' → H r = none → Q (.ref r) H'
theorem ok_grown (T : Txt K mg) : FnOk P w K mg base CX0 1 T.f_grown T.fd_grown ["links", "spots"] (sp_grown K) := by
  refine T.F_grown.ok sc_grown (fun vs H Q E h => ?_) (fun cdv A outer s H vs Q E hr h => ?_)
  · obtain ⟨p, q, n, A, ss, rfl, _⟩ := h
    rfl
  · obtain ⟨p, q, n, A, ss, rfl, hL, hq, hn, hA, nd, hs, k⟩ := h
    refine ⟨_, (pss_cons (ps_set (i := 2) sc_grown.nd rfl (.inl rfl) (pe_callTy (T := "list") (r := Rd.nListOf K) Rd.c_listOf (by rfl) T.n_list (by decide +kernel) (pa_cons (pv 1) pa_nil)))
  (pss_cons (ps_set (i := 3) sc_grown.nd rfl (.inl rfl) pe_int)
  (pss_cons (ps_while PassesOwn.never (pt_cmpR op_lt (pv 3) (pe_callB (id := "len") (r := Rd.nLen K) Rd.c_len (by rfl) T.n_len (by decide +kernel) (pa_cons (pv 2) pa_nil)) (nomark _))
  (pss_cons (ps_for PassesOwn.never rfl (pi_list (pe_ix (r := rIxL K) ix_list (pv 0) (pe_ix (r := rIxL K) ix_list (pv 2) (pv 3) (fun _ _ => rfl)) (fun _ _ => rfl))) (pg_name (i := 4) sc_grown.nd rfl (.inl rfl))
  (pss_one (ps_if (pt_cmpR (r := rIn K true) op_notIn_seq (pv 4) (pv 2) (by rfl))
  (pss_one (ps_expr (pe_bm PySem.F.plainAttrs_list PySem.F.slot_list_append PySem.F.type_list_append mt_append (pv 2) (pa_cons (pv 4) pa_nil))))
  pss_nil)))
  (pss_one (ps_aug (i := 3) sc_grown.nd rfl (.inl rfl) pe_int ip_add))))
  (pss_one (ps_ret (pv 2)))))), ?_⟩
    walk_at "rd"
    refine Rd.listOf (.inl hq) (Rd.new fun f G nf gf sG => ?_)
    walk_at "rd"
    obtain ⟨rs, hp, rl, hr⟩ := hL
    refine Rd.whl (fun m σ H' => ∃ (gs : List Int) (at_ : Nat) (o : Option V), σ = [some (.ref p), some (.ref q), some (.ref f), some (.int at_), o] ∧ H' f = some (.lst (gs.map V.int)) ∧ Same H H' ∧ gs.Nodup ∧ (∀ x ∈ gs, ∃ i : Nat, x = i ∧ i ≤ n ∧ ∃ s : Nat, (s : Int) ∈ ss ∧ Mw.Star A s i) ∧ (∀ x ∈ ss, x ∈ gs) ∧ at_ ≤ gs.length ∧ (∀ (k : Nat) (i j : Nat), k < at_ → gs[k]? = some (i : Int) → A i j → (j : Int) ∈ gs) ∧ m = n + 1 - at_)
      ⟨n + 1, ss, 0, none, rfl, gf, sG, nd, fun x hx => ⟨x.toNat, by have := hs x hx; omega, by have := hs x hx; omega, x.toNat, by have := hs x hx; rw [show ((x.toNat : Nat) : Int) = x by omega]; exact hx, .refl⟩, fun x h => h, Nat.zero_le _, fun k i j h => by omega, rfl⟩ ?_
    rintro m _ H1 ⟨gs, at_, o, rfl, hf, sm, gnd, hg, hss, la, cl, rfl⟩
    have gl : gs.length ≤ n + 1 := Mw.nodup_range gnd fun x hx => by obtain ⟨i, e, l, _⟩ := hg x hx; omega
    walk_at "rd"
    refine Rd.len (.inl (.of hf)) ?_
    rw [List.length_map]
    walk_at "rd"
    refine ite2 (fun c => ?_) (fun c => ?_)
    · refine Rd.whN ?_
      walk_at "rd"
      have al : at_ < gs.length := by omega
      obtain ⟨i, ei, il, si⟩ := hg _ (List.getElem_mem al)
      have hrow : i < rs.length := by omega
      obtain ⟨ms, m1, _, m2⟩ := hr i _ (List.getElem?_eq_getElem hrow)
      refine Rd.forS ?_
      walk_at "rd"
      refine Rd.ixL (.of hf) (atI_nat (Rd.map_int al)) ?_
      refine Rd.ixL (sm.seq hp) (by rw [ei]; exact atI_nat (Rd.map_ref hrow)) ?_
      walk_at "rd"
      refine ⟨⟨_, sm.seq m1⟩, for_list (K := K) (a := rs[i]) (xs := ms.map V.int) (fun t σ H' => ∃ (gs' : List Int) (o : Option V), σ = [some (.ref p), some (.ref q), some (.ref f), some (.int at_), o] ∧ H' f = some (.lst (gs'.map V.int)) ∧ Same H H' ∧ gs'.Nodup ∧ (∀ x ∈ gs', ∃ i : Nat, x = i ∧ i ≤ n ∧ ∃ s : Nat, (s : Int) ∈ ss ∧ Mw.Star A s i) ∧ (∃ ex, gs' = gs ++ ex) ∧ ∀ x ∈ ms.take t, x ∈ gs')
        ⟨gs, _, rfl, hf, sm, gnd, hg, ⟨[], by simp⟩, fun x h => by simp at h⟩ (fun t σ H' _ ⟨_, _, _, _, s, _⟩ => s.seq m1) ?_ ?_⟩
      · rintro t y0 _ H2 hy0 ⟨gs', o, rfl, hf2, sm2, gnd2, hg2, ⟨ex, he⟩, ht⟩
        obtain ⟨y, hy, rfl⟩ := Rd.map_get hy0
        obtain ⟨j, ej, aj⟩ := (m2 y).mp (List.mem_of_getElem? hy)
        have gl2 : gs'.length ≤ n + 1 := Mw.nodup_range gnd2 fun x hx => by obtain ⟨i, e, l, _⟩ := hg2 x hx; omega
        walk_at "rd"
        refine Rd.inIntsN (.inl (.of hf2)) ?_
        walk_at "rd"
        refine ite2 (fun c2 => ?_) (fun c2 => ?_)
        · walk_at "rd"
          refine ⟨gs', _, rfl, hf2, sm2, gnd2, hg2, ⟨ex, he⟩, fun x hx => ?_⟩
          rw [Rd.take_snoc hy] at hx
          rcases List.mem_append.mp hx with h | h
          · exact ht x h
          · simp at h
            rw [h]
            exact c2
        · walk_at "rd"
          refine Rd.tyL (.of hf2) ?_
          walk_at "rd"
          refine Rd.app hf2 (by rw [List.length_map, sizeLine_eq]; omega) fun G3 g3 off3 => ?_
          walk_at "rd"
          refine ⟨gs' ++ [y], _, rfl, by rw [List.map_append]; exact g3, fun b o e => ?_, ?_, fun x hx => ?_, ⟨ex ++ [y], by rw [he, List.append_assoc]⟩, fun x hx => ?_⟩
          · rw [off3 b (ne_of_none e nf)]
            exact sm2 b o e
          · rw [List.nodup_append]
            exact ⟨gnd2, by simp, fun x hx z hz e => c2 (by simp at hz; rw [← hz, ← e]; exact hx)⟩
          · rcases List.mem_append.mp hx with h | h
            · exact hg2 x h
            · simp at h
              obtain ⟨s, h1, h2⟩ := si
              exact ⟨j, by rw [h, ej], hA _ _ aj, s, h1, .step h2 aj⟩
          · rw [Rd.take_snoc hy] at hx
            rcases List.mem_append.mp hx with h | h
            · exact List.mem_append.mpr (.inl (ht x h))
            · exact List.mem_append.mpr (.inr h)
      · rintro _ H2 ⟨gs', o, rfl, hf2, sm2, gnd2, hg2, ⟨ex, he⟩, ht⟩
        rw [List.length_map, List.take_length] at ht
        have gl2 : gs'.length ≤ n + 1 := Mw.nodup_range gnd2 fun x hx => by obtain ⟨i, e, l, _⟩ := hg2 x hx; omega
        have lex : gs'.length = gs.length + ex.length := by rw [he, List.length_append]
        walk_at "rd"
        refine ⟨n + 1 - (at_ + 1), by omega, gs', at_ + 1, o, by rw [Int.natCast_add]; rfl, hf2, sm2, gnd2, hg2, fun x hx => by rw [he]; exact List.mem_append.mpr (.inl (hss x hx)), by omega, fun k i' j hk e a => ?_, rfl⟩
        · have kl : k < gs.length := by omega
          have e' : gs[k]? = some (i' : Int) := by
            rw [he, List.getElem?_append_left kl] at e
            exact e
          rcases Nat.lt_succ_iff_lt_or_eq.mp hk with l | l
          · rw [he]
            exact List.mem_append.mpr (.inl (cl k i' j l e' a))
          · subst l
            have : (i' : Int) = (i : Int) := by
              rw [List.getElem?_eq_getElem al] at e'
              rw [← ei]
              exact (Option.some.inj e').symm
            have : i' = i := by omega
            subst this
            exact ht _ ((m2 _).mpr ⟨j, rfl, a⟩)
    · walk_at "rd"
      have e : at_ = gs.length := by omega
      refine k f gs H1 hf gnd (fun x => ⟨fun hx => ?_, ?_⟩) sm nf
      · obtain ⟨i, e1, _, s, h1, h2⟩ := hg x hx
        exact ⟨i, e1, s, h1, h2⟩
      · rintro ⟨i, rfl, s, h1, h2⟩
        induction h2 with
        | refl => exact hss _ h1
        | step _ a ih =>
          obtain ⟨k, hk, e2⟩ := List.getElem_of_mem ih
          exact cl k _ _ (by omega) (by rw [List.getElem?_eq_getElem hk, e2]) a

/-! ### leads, leads_all, tells -/
def sp_leads (K : PySem.W.Frag) : Sp := fun vs H Q _ => ∃ (a : Addr) (ws : List Str) (z : Str), vs = [.ref a, .str z] ∧ Ru.SqR K H a (ws.map V.str) ∧ (∀ W ∈ ws, 1 ≤ W.length ∧ W.length ≤ 1000) ∧ ws.length ≤ 100 ∧ z.length ≤ 1000 ∧ ∀ (b : Bool) H', Same H H' → (b = true ↔ Mw.Told ws z) → Q (.bl b) H'
def sp_check_words (K : PySem.W.Frag) : Sp := fun vs H Q _ => ∃ (a : Addr) (zs : List Str), vs = [.ref a] ∧ Ru.SqR K H a (zs.map V.str) ∧ zs.length ≤ 20 ∧ (∀ z ∈ zs, Lt.Wd 40 z) ∧ ∀ H', Same H H' → Q .non H'
def sp_leads_all (K : PySem.W.Frag) : Sp := fun vs H Q _ => ∃ (a b : Addr) (ws zs : List Str), vs = [.ref a, .ref b] ∧ Ru.SqR K H a (ws.map V.str) ∧ (∀ W ∈ ws, 1 ≤ W.length ∧ W.length ≤ 1000) ∧ ws.length ≤ 100 ∧ Ru.SqR K H b (zs.map V.str) ∧ (∀ z ∈ zs, z.length ≤ 1000) ∧ zs.length ≤ 1000 ∧ ∀ (b : Bool) H', Same H H' → (b = true ↔ ∀ z ∈ zs, Mw.Told ws z) → Q (.bl b) H'
def sp_tells (K : PySem.W.Frag) (C : Addr) : Sp := fun vs H Q _ => ∃ (a b : Addr) (ws zs : List Str), vs = [.ref a, .ref b] ∧ BookAt C H a ws ∧ Watches ws ∧ Ru.SqR K H b (zs.map V.str) ∧ zs.length ≤ 20 ∧ (∀ z ∈ zs, Lt.Wd 40 z) ∧ ∀ (b : Bool) H', Same H H' → (b = true ↔ ∀ z ∈ zs, Mw.Told ws z) → Q (.bl b) H'
theorem ok_leads (T : Txt K mg) : FnOk P w K mg base CX0 2 T.f_leads T.fd_leads ["watches", "word"] (sp_leads K) := by
  refine T.F_leads.ok sc_leads (fun vs H Q E h => ?_) (fun cdv A outer s H vs Q E hr h => ?_)
  · obtain ⟨a, ws, z, rfl, _⟩ := h
    rfl
  · obtain ⟨a, ws, z, rfl, hS, hw, l1, l2, k⟩ := h
    refine ⟨_, (pss_one (ps_ret (pe_cmpR (r := rIn K false) op_in_seq (pe_callB (id := "len") (r := _) Rd.c_lenS (by rfl) T.n_len (by decide +kernel) (pa_cons (pv 1) pa_nil)) (pe_call (ok_grown T) (hr.mono (by decide)) rfl T.g_grown T.F_grown.kp T.b_grown .nil pass0 (pa_cons (pe_call (ok_links_of T) (hr.mono (by decide)) rfl T.g_links_of T.F_links_of.kp T.b_links_of .nil pass0 (pa_cons (pv 0) (pa_cons (pv 1) pa_nil))) (pa_cons (pe_lst (pa_cons pe_int pa_nil)) pa_nil))) (by rfl)))), ?_⟩
    walk_at "rd"
    refine Rd.lenStr (by rw [sizeLine_eq]; omega) ?_
    walk_at "rd"
    refine ⟨a, ws, z, rfl, hS, hw, l1, l2, fun p H1 hL s1 _ => ?_⟩
    walk_at "rd"
    refine ⟨Nat.le_of_ble_eq_true rfl, Rd.new fun q G2 nq gq s2 => ?_⟩
    refine ⟨p, q, z.length, Mw.Adj ws z, [0], rfl, hL.same s2, .of gq, l2, fun i j h => h.le.2, by simp, fun s h => by simp at h; omega, fun r gs H3 hr gnd hg s3 _ => ?_⟩
    refine Rd.inIntsY (.inl (.of hr)) ?_
    refine k _ _ ((s1.trans s2).trans s3) ?_
    rw [decide_eq_true_iff, hg]
    constructor
    · rintro ⟨i, e, s, hs, h⟩
      have e1 : i = z.length := by omega
      have e2 : s = 0 := by simp at hs; omega
      subst e1 e2
      exact h
    · intro h
      exact ⟨z.length, rfl, 0, by simp, h⟩
theorem all_told {ws : List Str} : ∀ (zs : List Str) (bs : List Bool), bs.length = zs.length → (∀ (i : Nat) z b, zs[i]? = some z → bs[i]? = some b → (b = true ↔ Mw.Told ws z)) → (bs.all id = true ↔ ∀ z ∈ zs, Mw.Told ws z)
  | [], [], _, _ => by simp
  | z :: zs, b :: bs, l, h => by
    have h0 := h 0 z b rfl rfl
    have ih := all_told zs bs (by simpa using l) fun i z b e1 e2 => h (i + 1) z b (by simpa using e1) (by simpa using e2)
    rw [List.all_cons, Bool.and_eq_true, List.forall_mem_cons, ← ih, ← h0]
    rfl
end
end W

namespace W
open PySem PySem.Spec PyProof.Rows L2
section
variable {P : Program} {w : World} {K : PySem.W.Frag} {mg : Str → Option Value} {base : Heap}
/-! ### marks of spots: alike where watches lead -/
def sp_l_marks (K : PySem.W.Frag) : Sp := fun vs H Q _ => ∃ (a : Addr) (ws : List Str) (z : Str), vs = [.ref a, .str z] ∧ SqL K H a (ws.map V.str) ∧ (∀ W ∈ ws, 1 ≤ W.length ∧ W.length ≤ 1000) ∧ ws.length ≤ 100 ∧ z.length ≤ 1000 ∧ ∀ (l : Addr) (ms : List Int) H', Same H H' → H l = none → H' l = some (.lst (ms.map V.int)) → Mw.Lab (Mw.Adj ws z) z.length ms → Q (.ref l) H'
def sp_l_told (K : PySem.W.Frag) : Sp := fun vs H Q _ => ∃ (a : Addr) (ws : List Str) (z : Str), vs = [.ref a, .str z] ∧ SqL K H a (ws.map V.str) ∧ (∀ W ∈ ws, 1 ≤ W.length ∧ W.length ≤ 1000) ∧ ws.length ≤ 100 ∧ z.length ≤ 1000 ∧ ∀ (b : Bool) H', Same H H' → (b = true ↔ Mw.Told ws z) → Q (.bl b) H'
theorem ok_l_marks (T : Txt K mg) : FnOk P w K mg base CX0 1 T.f_l_marks T.fd_l_marks ["_law_watches_here", "_law_word_here"] (sp_l_marks K) := by
  refine T.F_l_marks.ok sc_l_marks (fun vs H Q E h => ?_) (fun cdv A outer s H vs Q E hr h => ?_)
  · obtain ⟨a, ws, z, rfl, _⟩ := h
    rfl
  · obtain ⟨a, ws, z, rfl, hS, hw, l1, l2, k⟩ := h
    refine ⟨_, (pss_cons (ps_set (i := 2) sc_l_marks.nd rfl (.inl rfl) (pe_listRg rfl (by rfl) T.n_list (prg_1 (by rfl) T.n_range (pe_op op_add (pe_callB (id := "len") (r := _) Rd.c_lenS (by rfl) T.n_len (by decide +kernel) (pa_cons (pv 1) pa_nil)) pe_int))))
  (pss_cons (ps_for PassesOwn.never rfl (pi_list (pv 0)) (pg_name (i := 3) sc_l_marks.nd rfl (.inl rfl))
  (pss_one (ps_for PassesOwn.never rfl (pi_range1 rfl T.n_range (pa_cons (pe_op op_add (pe_op op_sub (pe_callB (id := "len") (r := _) Rd.c_lenS (by rfl) T.n_len (by decide +kernel) (pa_cons (pv 1) pa_nil)) (pe_callB (id := "len") (r := _) Rd.c_lenS (by rfl) T.n_len (by decide +kernel) (pa_cons (pv 3) pa_nil))) pe_int) pa_nil)) (pg_name (i := 4) sc_l_marks.nd rfl (.inl rfl))
  (pss_one (ps_if (PW.pt (pw_and (pt_cmpR op_eq (pe_slice sl_str (pv 1) (po_some (pv 4)) (po_some (pe_op op_add (pv 4) (pe_callB (id := "len") (r := _) Rd.c_lenS (by rfl) T.n_len (by decide +kernel) (pa_cons (pv 3) pa_nil))))) (pv 3) (nomark _)) (pw_and1 (pt_cmpR op_ne (pe_ix (r := rIxL K) ix_list (pv 2) (pv 4) (fun _ _ => rfl)) (pe_ix (r := rIxL K) ix_list (pv 2) (pe_op op_add (pv 4) (pe_callB (id := "len") (r := _) Rd.c_lenS (by rfl) T.n_len (by decide +kernel) (pa_cons (pv 3) pa_nil))) (fun _ _ => rfl)) (nomark _)))))
  (pss_cons (ps_set (i := 5) sc_l_marks.nd rfl (.inl rfl) (pe_ix (r := rIxL K) ix_list (pv 2) (pe_op op_add (pv 4) (pe_callB (id := "len") (r := _) Rd.c_lenS (by rfl) T.n_len (by decide +kernel) (pa_cons (pv 3) pa_nil))) (fun _ _ => rfl)))
  (pss_one (ps_for PassesOwn.never rfl (pi_range1 rfl T.n_range (pa_cons (pe_callB (id := "len") (r := Rd.nLen K) Rd.c_len (by rfl) T.n_len (by decide +kernel) (pa_cons (pv 2) pa_nil)) pa_nil)) (pg_name (i := 6) sc_l_marks.nd rfl (.inl rfl))
  (pss_one (ps_if (pt_cmpR op_eq (pe_ix (r := rIxL K) ix_list (pv 2) (pv 6) (fun _ _ => rfl)) (pv 5) (nomark _))
  (pss_one (ps_asg (pe_ix (r := rIxL K) ix_list (pv 2) (pv 4) (fun _ _ => rfl)) (pg_sub (pv 2) (pv 6) set_list)))
  pss_nil)))))
  pss_nil)))))
  (pss_one (ps_ret (pv 2))))), ?_⟩
    have zl : z.length ≤ sizeLine := by rw [sizeLine_eq]; omega
    walk_at "rd"
    refine Rd.lenStr zl ?_
    walk_at "rd"
    refine ⟨RgOk.of_le (by decide) (by omega) (by decide) (by omega), Rd.new fun l G nl gl sG => ?_⟩
    rw [show (z.length : Int) + 1 = ((z.length + 1 : Nat) : Int) by omega, Rd.rgV0] at gl
    have la : ∀ {H'}, Same H H' → SqL K H' a (ws.map V.str) := fun s => s.seq hS
    walk_at "rd"
    refine Rd.forS ?_
    walk_at "rd"
    refine ⟨⟨_, la sG⟩, for_list (K := K) (a := a) (xs := ws.map V.str) (fun k σ H' => ∃ (ms : List Int) (o1 o2 o3 o4 : Option V), σ = [some (.ref a), some (.str z), some (.ref l), o1, o2, o3, o4] ∧ H' l = some (.lst (ms.map V.int)) ∧ Same H H' ∧ Mw.Lab (Mw.Adj (ws.take k) z) z.length ms)
      ⟨_, none, none, none, none, rfl, gl, sG, Mw.Lab.start fun i j => Mw.adj_nil⟩ (fun k σ H' _ ⟨_, _, _, _, _, _, _, s, _⟩ => la s) ?_ ?_⟩
    · rintro k x _ H1 hx ⟨ms, o1, o2, o3, o4, rfl, gl1, s1, L⟩
      obtain ⟨W, hW, rfl⟩ := Rd.map_strG hx
      have wl := hw W (List.mem_of_getElem? hW)
      have wz : W.length ≤ sizeLine := by rw [sizeLine_eq]; omega
      walk_at "rd"
      refine Rd.forS ?_
      walk_at "rd"
      refine Rd.lenStr zl ?_
      walk_at "rd"
      refine Rd.lenStr wz ?_
      walk_at "rd"
      refine ⟨by omega, by omega, ?_⟩
      refine for_range (lo := 0) (n := ((z.length : Int) - (W.length : Int) + 1).toNat) (fun m σ H' => ∃ (ms : List Int) (o2 o3 o4 : Option V), σ = [some (.ref a), some (.str z), some (.ref l), some (.str W), o2, o3, o4] ∧ H' l = some (.lst (ms.map V.int)) ∧ Same H H' ∧ Mw.Lab (Mw.AdjB (ws.take k) W z m) z.length ms)
        ⟨ms, _, _, _, rfl, gl1, s1, L.iff fun i j => Mw.adjB_zero.symm⟩ ?_ ?_
      · rintro m _ H2 hm ⟨ms, o2, o3, o4, rfl, gl2, s2, L⟩
        have mz : m + W.length ≤ z.length := by omega
        have ml := L.1
        walk_at "rd"
        rw [Int.zero_add]
        refine Rd.lenStr wz ?_
        walk_at "rd"
        refine Rd.slS zl ?_
        walk_at "rd"
        refine ite2 (fun q => ?_) (fun q => ?_)
        · have oc : Mw.Occ W z m := ⟨mz, q⟩
          have mi : m < ms.length := by omega
          have mj : m + W.length < ms.length := by omega
          have ei : ms[m]? = some ms[m] := List.getElem?_eq_getElem mi
          have ej : ms[m + W.length]? = some ms[m + W.length] := List.getElem?_eq_getElem mj
          generalize ms[m] = x at ei
          generalize ms[m + W.length] = y at ej
          have at1 : atI (ms.map V.int) (m : Int) = some (.int x) := atI_nat (by rw [List.getElem?_map, ei]; rfl)
          have at2 : atI (ms.map V.int) ((m : Int) + (W.length : Int)) = some (.int y) := by
            rw [show (m : Int) + (W.length : Int) = ((m + W.length : Nat) : Int) by omega]
            exact atI_nat (by rw [List.getElem?_map, ej]; rfl)
          walk_at "rd"
          refine Rd.ixL (.of gl2) at1 ?_
          walk_at "rd"
          refine Rd.lenStr wz ?_
          walk_at "rd"
          refine Rd.ixL (.of gl2) at2 ?_
          walk_at "rd"
          refine ite2 (fun c => ?_) (fun c => ?_)
          · walk_at "rd"
            subst c
            exact ⟨ms, _, _, _, rfl, gl2, s2, L.same ei ej Mw.AdjB.symm fun i j => Mw.adjB_yes oc⟩
          · walk_at "rd"
            refine Rd.lenStr wz ?_
            walk_at "rd"
            refine Rd.ixL (.of gl2) at2 ?_
            walk_at "rd"
            refine Rd.forS ?_
            walk_at "rd"
            refine Rd.len (.inl (.of gl2)) ?_
            rw [List.length_map]
            walk_at "rd"
            refine ⟨by omega, by omega, ?_⟩
            refine for_range (lo := 0) (n := ((ms.length : Nat) : Int).toNat) (fun j σ H' => ∃ (ns : List Int) (o4 : Option V), σ = [some (.ref a), some (.str z), some (.ref l), some (.str W), some (.int (m : Int)), some (.int y), o4] ∧ H' l = some (.lst (ns.map V.int)) ∧ Same H H' ∧ ns.length = ms.length ∧ ∀ (i : Nat) v, ms[i]? = some v → ns[i]? = some (if i < j then (if v = y then x else v) else v))
              ⟨ms, _, rfl, gl2, s2, rfl, fun i v h => by rw [if_neg (Nat.not_lt_zero i)]; exact h⟩ ?_ ?_
            · rintro j _ H3 hj ⟨ns, o4, rfl, gl3, s3, nl2, hn⟩
              have jl : j < ms.length := by omega
              have e3 := hn j _ (List.getElem?_eq_getElem jl)
              rw [if_neg (Nat.lt_irrefl j)] at e3
              have e4 : ns[m]? = some x := by
                have := hn m x ei
                rw [this, if_neg c]
                split <;> rfl
              walk_at "rd"
              rw [Int.zero_add]
              refine Rd.ixL (.of gl3) (atI_nat (j := j) (by rw [List.getElem?_map, e3]; rfl)) ?_
              walk_at "rd"
              refine ite2 (fun c2 => ?_) (fun c2 => ?_)
              · walk_at "rd"
                refine Rd.ixL (.of gl3) (atI_nat (j := m) (by rw [List.getElem?_map, e4]; rfl)) ?_
                walk_at "rd"
                refine Rd.setG gl3 (Rd.ixN_of (by omega) (by rw [List.length_map]; omega)) (Rd.map_set V.int ns (j : Int).toNat x) fun G4 g4 off4 => ?_
                walk_at "rd"
                refine ⟨ns.set (j : Int).toNat x, _, rfl, g4, fun b o e => ?_, by rw [List.length_set]; exact nl2, fun i v h => ?_⟩
                · rw [off4 b (ne_of_none e nl)]
                  exact s3 b o e
                · rw [Int.toNat_natCast, List.getElem?_set]
                  by_cases cj : j = i
                  · subst cj
                    rw [List.getElem?_eq_getElem jl] at h
                    cases h
                    rw [if_pos rfl, if_pos (by omega), if_pos (Nat.lt_succ_self j), if_pos c2]
                  · rw [if_neg cj, hn i v h]
                    by_cases ci : i < j
                    · rw [if_pos ci, if_pos (show i < j + 1 by omega)]
                    · rw [if_neg ci, if_neg (show ¬ i < j + 1 by omega)]
              · walk_at "rd"
                refine ⟨ns, _, rfl, gl3, s3, nl2, fun i v h => ?_⟩
                rw [hn i v h]
                by_cases cj : j = i
                · subst cj
                  rw [List.getElem?_eq_getElem jl] at h
                  cases h
                  rw [if_neg (Nat.lt_irrefl j), if_pos (Nat.lt_succ_self j), if_neg c2]
                · by_cases ci : i < j
                  · rw [if_pos ci, if_pos (show i < j + 1 by omega)]
                  · rw [if_neg ci, if_neg (show ¬ i < j + 1 by omega)]
            · rintro _ H3 ⟨ns, o4, rfl, gl3, s3, nl2, hn⟩
              have e : ns = ms.map fun v => if v = y then x else v := by
                refine List.ext_getElem? fun i => ?_
                rw [List.getElem?_map]
                cases h : ms[i]? with
                | none =>
                  have := List.getElem?_eq_none_iff.mp h
                  exact List.getElem?_eq_none_iff.mpr (by omega)
                | some v =>
                  have hi := (List.getElem?_eq_some_iff.mp h).1
                  rw [hn i v h, if_pos (by omega)]
                  rfl
              subst e
              walk_at "rd"
              exact ⟨_, _, _, _, rfl, gl3, s3, L.join ei ej (fun i j h => h.elim (fun h => h.le) fun h => by rcases h with ⟨_, o, e⟩ | ⟨_, o, e⟩ <;> have := o.1 <;> omega) Mw.AdjB.symm fun i j => Mw.adjB_yes oc⟩
        · walk_at "rd"
          exact ⟨ms, _, _, _, rfl, gl2, s2, L.iff fun i j => (Mw.adjB_no fun h => q h.2).symm⟩
      · rintro _ H2 ⟨ms, o2, o3, o4, rfl, gl2, s2, L⟩
        walk_at "rd"
        refine ⟨ms, _, _, _, _, rfl, gl2, s2, L.iff fun i j => ?_⟩
        rw [Rd.take_snoc hW]
        exact Mw.adjB_all (by omega)
    · rintro _ H1 ⟨ms, o1, o2, o3, o4, rfl, gl1, s1, L⟩
      rw [List.length_map, List.take_length] at L
      walk_at "rd"
      exact k l ms H1 s1 nl gl1 L
theorem ok_l_told (T : Txt K mg) : FnOk P w K mg base CX0 2 T.f_l_told T.fd_l_told ["_law_watches_here", "_law_word_here"] (sp_l_told K) := by
  refine T.F_l_told.ok sc_l_told (fun vs H Q E h => ?_) (fun cdv A outer s H vs Q E hr h => ?_)
  · obtain ⟨a, ws, z, rfl, _⟩ := h
    rfl
  · obtain ⟨a, ws, z, rfl, hS, hw, l1, l2, k⟩ := h
    refine ⟨_, (pss_cons (ps_set (i := 2) sc_l_told.nd rfl (.inl rfl) (pe_call (ok_l_marks T) (hr.mono (by decide)) rfl T.g_l_marks T.F_l_marks.kp T.b_l_marks .nil pass0 (pa_cons (pv 0) (pa_cons (pv 1) pa_nil))))
  (pss_one (ps_ret (pe_cmpR op_eq (pe_ix (r := rIxL K) ix_list (pv 2) pe_int (fun _ _ => rfl)) (pe_ix (r := rIxL K) ix_list (pv 2) (pe_callB (id := "len") (r := _) Rd.c_lenS (by rfl) T.n_len (by decide +kernel) (pa_cons (pv 1) pa_nil)) (fun _ _ => rfl)) (nomark _))))), ?_⟩
    walk_at "rd"
    refine ⟨a, ws, z, rfl, hS, hw, l1, l2, fun l ms H1 s1 nl gl L => ?_⟩
    have ml := L.1
    have e0 : ms[0]? = some ms[0] := List.getElem?_eq_getElem (by omega)
    have e1 : ms[z.length]? = some ms[z.length] := List.getElem?_eq_getElem (by omega)
    walk_at "rd"
    refine Rd.ixL (.of gl) (atI_nat (j := 0) (by rw [List.getElem?_map, e0]; rfl)) ?_
    walk_at "rd"
    refine Rd.lenStr (by rw [sizeLine_eq]; omega) ?_
    walk_at "rd"
    refine Rd.ixL (.of gl) (atI_nat (j := z.length) (by rw [List.getElem?_map, e1]; rfl)) ?_
    walk_at "rd"
    refine k _ _ s1 ?_
    rw [decide_eq_true_iff]
    exact L.2 0 z.length _ _ e0 e1

end
end W

namespace W
open PySem PySem.Spec PyProof.Rows L2
section
variable {P : Program} {w : World} {K : PySem.W.Frag} {mg : Str → Option Value} {base : Heap}
/-! ### unlike letters drawn -/
def sp_l_letters (K : PySem.W.Frag) : Sp := fun vs H Q _ => ∃ t c : Addr, vs = [.ref t] ∧ Tape H t c ∧ ∀ (z : Str) H', Lt.Let z → 1 ≤ z.length → z.length ≤ 3 → z.cps.toList.Nodup → Tape H' t c → Rd.But t H H' → Q (.str z) H'
theorem abc_get {i : Int} (h0 : 0 ≤ i) (h1 : i < 26) : ∃ c, atI Lt.Abc.cps.toList i = some c ∧ c ∈ Lt.Abc.cps.toList := by
  have l : Lt.Abc.cps.toList.length = 26 := by decide +kernel
  have hi : i.toNat < Lt.Abc.cps.toList.length := by omega
  exact ⟨_, Rd.atI_of h0 (List.getElem?_eq_getElem hi), List.getElem_mem hi⟩
theorem abc_nd : Lt.Abc.cps.toList.Nodup := by decide +kernel
theorem abc_at {i : Int} (h0 : 0 ≤ i) (h1 : i < 26) : ∃ c, Lt.Abc.cps.toList[i.toNat]? = some c ∧ c ∈ Lt.Abc.cps.toList := by
  have l : Lt.Abc.cps.toList.length = 26 := by decide +kernel
  have hi : i.toNat < Lt.Abc.cps.toList.length := by omega
  exact ⟨_, List.getElem?_eq_getElem hi, List.getElem_mem hi⟩
theorem abc_inj {a b : Int} {c : Nat} (a0 : 0 ≤ a) (b0 : 0 ≤ b) (ha : Lt.Abc.cps.toList[a.toNat]? = some c) (hb : Lt.Abc.cps.toList[b.toNat]? = some c) : a = b := by
  have go : ∀ {m n : Nat}, Lt.Abc.cps.toList[m]? = some c → Lt.Abc.cps.toList[n]? = some c → ¬ m < n := fun {m n} h1 h2 lt => Rd.nodup_take abc_nd h2 (List.mem_of_getElem? (by rw [List.getElem?_take, if_pos lt]; exact h1))
  have h1 := go ha hb
  have h2 := go hb ha
  omega
theorem ok_l_letters (T : Txt K mg) : FnOk P w K mg base CX0 2 T.f_l_letters T.fd_l_letters ["_law_tape_here"] (sp_l_letters K) := by
  refine T.F_l_letters.ok sc_l_letters (fun vs H Q E h => ?_) (fun cdv A outer s H vs Q E hr h => ?_)
  · obtain ⟨t, c, rfl, _⟩ := h
    rfl
  · obtain ⟨t, c, rfl, tp, k⟩ := h
    refine ⟨_, (pss_cons (ps_set (i := 1) sc_l_letters.nd rfl (.inl rfl) pe_str)
  (pss_cons (ps_set (i := 2) sc_l_letters.nd rfl (.inl rfl) (pe_call (ok_l_pick T) (hr.mono (by decide)) rfl T.g_l_pick T.F_l_pick.kp T.b_l_pick .nil pass0 (pa_cons (pv 0) (pa_cons pe_int pa_nil))))
  (pss_cons (ps_set (i := 3) sc_l_letters.nd rfl (.inl rfl) (pe_ix (r := rIxL K) ix_list (pe_lst (pa_cons pe_int (pa_cons pe_int (pa_cons pe_int (pa_cons pe_int (pa_cons pe_int (pa_cons pe_int (pa_cons pe_int (pa_cons pe_int pa_nil))))))))) (pe_call (ok_l_pick T) (hr.mono (by decide)) rfl T.g_l_pick T.F_l_pick.kp T.b_l_pick .nil pass0 (pa_cons (pv 0) (pa_cons pe_int pa_nil))) (fun _ _ => rfl)))
  (pss_cons (ps_set (i := 4) sc_l_letters.nd rfl (.inl rfl) pe_str)
  (pss_cons (ps_for PassesOwn.never rfl (pi_range1 rfl T.n_range (pa_cons (pe_op op_add pe_int (pe_call (ok_l_pick T) (hr.mono (by decide)) rfl T.g_l_pick T.F_l_pick.kp T.b_l_pick .nil pass0 (pa_cons (pv 0) (pa_cons pe_int pa_nil)))) pa_nil)) (pg_name (i := 5) sc_l_letters.nd rfl (.inl rfl))
  (pss_one (ps_set (i := 4) sc_l_letters.nd rfl (.inl rfl) (pe_op Rd.o_addS (pv 4) (pe_ix ix_str (pv 1) (pe_op op_mod (pe_callTy (T := "int") (r := _) Rd.c_int (by rfl) T.n_int (by decide +kernel) (pa_cons (pe_op op_add (pv 2) (pe_op op_mul (pv 3) (pv 5))) pa_nil)) pe_int) (fun _ _ => rfl))))))
  (pss_one (ps_ret (pv 4)))))))), ?_⟩
    walk_at "rd"
    refine pickR tp (by decide) (by decide) fun st H1 st0 st1 tp1 b1 => ?_
    walk_at "rd"
    refine ⟨Nat.le_of_ble_eq_true rfl, Rd.new fun p G2 np gp s2 => ?_⟩
    walk_at "rd"
    refine pickR (tp1.same s2) (by decide) (by decide) fun sp H3 sp0 sp1 tp3 b3 => ?_
    have pt : p ≠ t := (tp1.new np).1
    obtain ⟨step, hm, m0, m1⟩ : ∃ m, [V.int 1, .int 3, .int 5, .int 7, .int 9, .int 11, .int 15, .int 17][sp.toNat]? = some (.int m) ∧ (m = 1 ∨ m = 3 ∨ m = 5 ∨ m = 7 ∨ m = 9 ∨ m = 11 ∨ m = 15 ∨ m = 17) ∧ m ≤ 17 := by
      have : sp.toNat = 0 ∨ sp.toNat = 1 ∨ sp.toNat = 2 ∨ sp.toNat = 3 ∨ sp.toNat = 4 ∨ sp.toNat = 5 ∨ sp.toNat = 6 ∨ sp.toNat = 7 := by omega
      rcases this with e | e | e | e | e | e | e | e <;> rw [e] <;> exact ⟨_, rfl, by decide, by decide⟩
    refine Rd.ixL (.of (b3 p _ pt gp)) (Rd.atI_of sp0 hm) ?_
    walk_at "rd"
    refine Rd.forS ?_
    walk_at "rd"
    refine pickR tp3 (by decide) (by decide) fun r H4 r0 r1 tp4 b4 => ?_
    walk_at "rd"
    refine ⟨by omega, by omega, ?_⟩
    refine for_range (lo := 0) (n := (1 + r).toNat) (fun i σ H' => ∃ (z : Str) (o : Option V), σ = [some (.ref t), some (.str Lt.Abc), some (.int st), some (.int step), some (.str z), o] ∧ Lt.Let z ∧ z.length = i ∧ H' = H4 ∧ z.cps.toList.Nodup ∧ ∀ d ∈ z.cps.toList, ∃ j : Nat, j < i ∧ Lt.Abc.cps.toList[((st + step * (j : Int)) % 26).toNat]? = some d)
      ⟨"", none, rfl, Lt.Let.empty, rfl, rfl, .nil, fun d h => by cases (show d ∈ ([] : List Nat) from h)⟩ ?_ ?_
    · rintro i _ H' hi ⟨z, o, rfl, hz, zl, rfl, zn, zj⟩
      walk_at "rd"
      refine Rd.iC (.inl ⟨by omega, by omega⟩) ?_
      walk_at "rd"
      refine Rd.iC (by decide) ?_
      rw [Int.zero_add]
      have e0 := Int.emod_nonneg (st + step * (i : Int)) (show (26 : Int) ≠ 0 by decide)
      have e1 := Int.emod_lt_of_pos (st + step * (i : Int)) (show (0 : Int) < 26 by decide)
      obtain ⟨ch, e', hc⟩ := abc_at e0 e1
      have e := Rd.atI_of e0 e'
      have fresh : ch ∉ z.cps.toList := fun m => by
        obtain ⟨j, hj, ej⟩ := zj ch m
        have f0 := Int.emod_nonneg (st + step * (j : Int)) (show (26 : Int) ≠ 0 by decide)
        have f1 := Int.emod_lt_of_pos (st + step * (j : Int)) (show (0 : Int) < 26 by decide)
        have same := abc_inj f0 e0 ej e'
        have i2 : i = 1 ∨ i = 2 := by omega
        have j2 : j = 0 ∨ j = 1 := by omega
        rcases i2 with rfl | rfl <;> rcases j2 with rfl | rfl <;> rcases m0 with rfl | rfl | rfl | rfl | rfl | rfl | rfl | rfl <;> omega
      refine Rd.ixS (by decide +kernel) e ?_
      refine Rd.addS (by rw [sizeLine_eq]; show z.length + 1 ≤ _; omega) ?_
      walk_at "rd"
      have ap : (z ++ (⟨#[ch]⟩ : Str)).cps.toList = z.cps.toList ++ [ch] := by
        show (z.cps ++ #[ch]).toList = _
        simp
      refine ⟨_, _, rfl, hz.app (Lt.Let.one hc), ?_, rfl, ?_, fun d h => ?_⟩
      · rw [Lt.len_app, zl]
        rfl
      · rw [ap]
        exact snoc_nodup zn fresh
      · rw [ap, List.mem_append, List.mem_singleton] at h
        rcases h with h | rfl
        · obtain ⟨j, hj, ej⟩ := zj d h
          exact ⟨j, by omega, ej⟩
        · exact ⟨i, Nat.lt_succ_self i, e'⟩
    · rintro _ H' ⟨z, o, rfl, hz, zl, rfl, zn, zj⟩
      walk_at "rd"
      exact k z _ hz (by omega) (by omega) zn tp4 (((b1.same s2).trans b3).trans b4)

end
end W

namespace W
open PySem PySem.Spec PyProof.Rows L2
section
variable {P : Program} {w : World} {K : PySem.W.Frag} {mg : Str → Option Value} {base : Heap}
/-! ### words and watches drawn -/
theorem but_off {t l : Addr} {H H1 G : Hp} (b : Rd.But t H H1) (n : H l = none) (off : ∀ q, q ≠ l → G q = H1 q) : Rd.But t H G := fun q o h e => by rw [off q (ne_of_none e n)]; exact b q o h e
theorem cut_toI {xs : List V} {m : Int} (h : 0 ≤ m) : cutV xs none (some m) = xs.take m.toNat := by
  have e : HT.sIx xs.length xs.length (some m) = min m.toNat xs.length := by
    have := HT.sIx_nat xs.length xs.length m.toNat
    rw [show ((m.toNat : Nat) : Int) = m by omega] at this
    exact this
  have e0 : HT.sIx xs.length 0 none = 0 := rfl
  unfold cutV
  rw [e, e0, List.drop_zero, Nat.sub_zero]
  rcases Nat.le_total m.toNat xs.length with l | l
  · rw [Nat.min_eq_left l]
  · rw [Nat.min_eq_right l, List.take_length, List.take_of_length_le l]
def sp_l_word (K : PySem.W.Frag) : Sp := fun vs H Q _ => ∃ (t c : Addr) (L : Str) (lo hi : Int), vs = [.ref t, .str L, .int lo, .int hi] ∧ Tape H t c ∧ Lt.Let L ∧ 1 ≤ L.length ∧ L.length ≤ 1000 ∧ 0 ≤ lo ∧ lo ≤ hi ∧ hi ≤ 1000 ∧ ∀ (z : Str) H', Lt.Let z → lo ≤ (z.length : Int) → (z.length : Int) ≤ hi → Tape H' t c → Rd.But t H H' → Q (.str z) H'
def sp_l_piece (K : PySem.W.Frag) : Sp := fun vs H Q _ => ∃ (t c : Addr) (z : Str), vs = [.ref t, .str z] ∧ Tape H t c ∧ Lt.Let z ∧ 1 ≤ z.length ∧ z.length ≤ 1000 ∧ ∀ (y : Str) H', Lt.Wd 12 y → Tape H' t c → Rd.But t H H' → Q (.str y) H'
def sp_l_pathed (K : PySem.W.Frag) : Sp := fun vs H Q _ => ∃ (t c : Addr) (z : Str), vs = [.ref t, .str z] ∧ Tape H t c ∧ Lt.Let z ∧ z.length ≤ 1000 ∧ ∀ (l : Addr) (ws : List Str) H', Tape H' t c → Rd.But t H H' → H l = none → H' l = some (.lst (ws.map V.str)) → ws.Nodup → ws.length ≤ 8 → (∀ y ∈ ws, Lt.Wd 12 y) → Q (.ref l) H'
def sp_l_watches (K : PySem.W.Frag) : Sp := fun vs H Q _ => ∃ (t c : Addr) (z L : Str) (most : Int), vs = [.ref t, .str z, .str L, .int most] ∧ Tape H t c ∧ Lt.Let z ∧ 1 ≤ z.length ∧ z.length ≤ 1000 ∧ Lt.Let L ∧ 1 ≤ L.length ∧ L.length ≤ 1000 ∧ 0 ≤ most ∧ most ≤ 12 ∧ ∀ (l : Addr) (ws : List Str) H', Tape H' t c → Rd.But t H H' → H l = none → H' l = some (.lst (ws.map V.str)) → Watches ws → (ws.length : Int) ≤ most → Q (.ref l) H'
theorem let_get {z : Str} (h : Lt.Let z) {i : Int} (h0 : 0 ≤ i) (h1 : i < z.length) : ∃ c, atI z.cps.toList i = some c ∧ c ∈ Lt.Abc.cps.toList := by
  have hi : i.toNat < z.cps.toList.length := by rw [Array.length_toList]; unfold Str.length at h1; omega
  exact ⟨_, Rd.atI_of h0 (List.getElem?_eq_getElem hi), h _ (List.getElem_mem hi)⟩
theorem ok_l_word (T : Txt K mg) : FnOk P w K mg base CX0 2 T.f_l_word T.fd_l_word ["_law_tape_here", "_law_letters_here", "_law_least", "_law_most"] (sp_l_word K) := by
  refine T.F_l_word.ok sc_l_word (fun vs H Q E h => ?_) (fun cdv A outer s H vs Q E hr h => ?_)
  · obtain ⟨t, c, L, lo, hi, rfl, _⟩ := h
    rfl
  · obtain ⟨t, c, L, lo, hi, rfl, tp, hL, L0, L1, a0, a1, a2, k⟩ := h
    refine ⟨_, (pss_cons (ps_set (i := 4) sc_l_word.nd rfl (.inl rfl) pe_str)
  (pss_cons (ps_for PassesOwn.never rfl (pi_range1 rfl T.n_range (pa_cons (pe_op op_add (pv 2) (pe_call (ok_l_pick T) (hr.mono (by decide)) rfl T.g_l_pick T.F_l_pick.kp T.b_l_pick .nil pass0 (pa_cons (pv 0) (pa_cons (pe_op op_add (pe_op op_sub (pv 3) (pv 2)) pe_int) pa_nil)))) pa_nil)) (pg_name (i := 5) sc_l_word.nd rfl (.inl rfl))
  (pss_one (ps_set (i := 4) sc_l_word.nd rfl (.inl rfl) (pe_op Rd.o_addS (pv 4) (pe_ix ix_str (pv 1) (pe_call (ok_l_pick T) (hr.mono (by decide)) rfl T.g_l_pick T.F_l_pick.kp T.b_l_pick .nil pass0 (pa_cons (pv 0) (pa_cons (pe_callB (id := "len") (r := _) Rd.c_lenS (by rfl) T.n_len (by decide +kernel) (pa_cons (pv 1) pa_nil)) pa_nil))) (fun _ _ => rfl))))))
  (pss_one (ps_ret (pv 4))))), ?_⟩
    have Ll : L.length ≤ sizeLine := by rw [sizeLine_eq]; omega
    walk_at "rd"
    refine Rd.forS ?_
    walk_at "rd"
    refine pickR tp (by omega) (by omega) fun r H4 r0 r1 tp4 b4 => ?_
    walk_at "rd"
    refine ⟨by omega, by omega, ?_⟩
    refine for_range (lo := 0) (n := (lo + r).toNat) (fun i σ H' => ∃ (z : Str) (o : Option V), σ = [some (.ref t), some (.str L), some (.int lo), some (.int hi), some (.str z), o] ∧ Lt.Let z ∧ z.length = i ∧ Tape H' t c ∧ Rd.But t H H')
      ⟨"", none, rfl, Lt.Let.empty, rfl, tp4, b4⟩ ?_ ?_
    · rintro i _ H' hi ⟨z, o, rfl, hz, zl, tp5, b5⟩
      walk_at "rd"
      refine Rd.lenStr Ll ?_
      walk_at "rd"
      refine pickR tp5 (by omega) (by omega) fun r2 H6 r20 r21 tp6 b6 => ?_
      walk_at "rd"
      obtain ⟨ch, e, hc⟩ := let_get hL r20 r21
      refine Rd.ixS Ll e ?_
      refine Rd.addS (by rw [sizeLine_eq]; show z.length + 1 ≤ _; omega) ?_
      walk_at "rd"
      refine ⟨_, _, rfl, hz.app (Lt.Let.one hc), ?_, tp6, b5.trans b6⟩
      rw [Lt.len_app, zl]
      rfl
    · rintro _ H' ⟨z, o, rfl, hz, zl, tp5, b5⟩
      walk_at "rd"
      exact k z _ hz (by omega) (by omega) tp5 b5
theorem ok_l_piece (T : Txt K mg) : FnOk P w K mg base CX0 2 T.f_l_piece T.fd_l_piece ["_law_tape_here", "_law_word_here"] (sp_l_piece K) := by
  refine T.F_l_piece.ok sc_l_piece (fun vs H Q E h => ?_) (fun cdv A outer s H vs Q E hr h => ?_)
  · obtain ⟨t, c, z, rfl, _⟩ := h
    rfl
  · obtain ⟨t, c, z, rfl, tp, hz, z0, z1, k⟩ := h
    refine ⟨_, (pss_cons (ps_set (i := 2) sc_l_piece.nd rfl (.inl rfl) (pe_call (ok_l_pick T) (hr.mono (by decide)) rfl T.g_l_pick T.F_l_pick.kp T.b_l_pick .nil pass0 (pa_cons (pv 0) (pa_cons (pe_callB (id := "len") (r := _) Rd.c_lenS (by rfl) T.n_len (by decide +kernel) (pa_cons (pv 1) pa_nil)) pa_nil))))
  (pss_cons (ps_set (i := 3) sc_l_piece.nd rfl (.inl rfl) (pe_op op_add pe_int (pe_call (ok_l_pick T) (hr.mono (by decide)) rfl T.g_l_pick T.F_l_pick.kp T.b_l_pick .nil pass0 (pa_cons (pv 0) (pa_cons (pe_callB (id := "min") (r := _) (Rd.c_min2 rfl) (by rfl) T.n_min (by decide +kernel) (pa_cons (pe_op op_sub (pe_callB (id := "len") (r := _) Rd.c_lenS (by rfl) T.n_len (by decide +kernel) (pa_cons (pv 1) pa_nil)) (pv 2)) (pa_cons pe_int pa_nil))) pa_nil)))))
  (pss_one (ps_ret (pe_slice sl_str (pv 1) (po_some (pv 2)) (po_some (pe_op op_add (pv 2) (pv 3)))))))), ?_⟩
    have zl : z.length ≤ sizeLine := by rw [sizeLine_eq]; omega
    walk_at "rd"
    refine Rd.lenStr zl ?_
    walk_at "rd"
    refine pickR tp (by omega) (by omega) fun st H1 st0 st1 tp1 b1 => ?_
    walk_at "rd"
    refine Rd.lenStr zl ?_
    walk_at "rd"
    refine pickR tp1 (by omega) (by omega) fun sz H2 sz0 sz1 tp2 b2 => ?_
    walk_at "rd"
    refine Rd.slS zl ?_
    walk_at "rd"
    have e := Lt.cut_lenI (z := z) (a := st) (b := st + (1 + sz)) st0 (by omega) (by omega)
    exact k _ _ ⟨hz.cut _ _, by omega, by omega⟩ tp2 (b1.trans b2)
theorem ok_l_pathed (T : Txt K mg) : FnOk P w K mg base CX0 2 T.f_l_pathed T.fd_l_pathed ["_law_tape_here", "_law_word_here"] (sp_l_pathed K) := by
  refine T.F_l_pathed.ok sc_l_pathed (fun vs H Q E h => ?_) (fun cdv A outer s H vs Q E hr h => ?_)
  · obtain ⟨t, c, z, rfl, _⟩ := h
    rfl
  · obtain ⟨t, c, z, rfl, tp, hz, z1, k⟩ := h
    refine ⟨_, (pss_cons (ps_set (i := 2) sc_l_pathed.nd rfl (.inl rfl) (pe_lst pa_nil))
  (pss_cons (ps_set (i := 3) sc_l_pathed.nd rfl (.inl rfl) pe_int)
  (pss_cons (ps_for PassesOwn.never rfl (pi_range1 rfl T.n_range (pa_cons pe_int pa_nil)) (pg_name (i := 4) sc_l_pathed.nd rfl (.inl rfl))
  (pss_cons (ps_set (i := 5) sc_l_pathed.nd rfl (.inl rfl) (pe_call (ok_l_pick T) (hr.mono (by decide)) rfl T.g_l_pick T.F_l_pick.kp T.b_l_pick .nil pass0 (pa_cons (pv 0) (pa_cons (pe_op op_add (pe_callB (id := "len") (r := _) Rd.c_lenS (by rfl) T.n_len (by decide +kernel) (pa_cons (pv 1) pa_nil)) pe_int) pa_nil))))
  (C8.pss_cut (ps_if (PW.pt (pw_or (pt_cmpR op_eq (pv 4) pe_int (nomark _)) (pw_or1 (pt_cmpR op_eq (pe_call (ok_l_pick T) (hr.mono (by decide)) rfl T.g_l_pick T.F_l_pick.kp T.b_l_pick .nil pass0 (pa_cons (pv 0) (pa_cons pe_int pa_nil))) pe_int (nomark _)))))
  (pss_one (ps_set (i := 5) sc_l_pathed.nd rfl (.inl rfl) (pe_callB (id := "len") (r := _) Rd.c_lenS (by rfl) T.n_len (by decide +kernel) (pa_cons (pv 1) pa_nil))))
  pss_nil)
  (C8.pss_cut (ps_if (pt_cmpR op_gt (pe_op op_sub (pv 5) (pv 3)) pe_int (nomark _))
  (pss_one (ps_set (i := 5) sc_l_pathed.nd rfl (.inl rfl) (pe_op op_add (pv 3) pe_int)))
  pss_nil)
  (C8.pss_cut (ps_if (pt_cmpR op_gt (pe_op op_sub (pv 3) (pv 5)) pe_int (nomark _))
  (pss_one (ps_set (i := 5) sc_l_pathed.nd rfl (.inl rfl) (pe_op op_sub (pv 3) pe_int)))
  pss_nil)
  (pss_cons (ps_set (i := 6) sc_l_pathed.nd rfl (.inl rfl) (pe_slice sl_str (pv 1) (po_some (pe_callB (id := "min") (r := _) (Rd.c_min2 rfl) (by rfl) T.n_min (by decide +kernel) (pa_cons (pv 3) (pa_cons (pv 5) pa_nil)))) (po_some (pe_callB (id := "max") (r := _) (Rd.c_max2 rfl) (by rfl) T.n_max (by decide +kernel) (pa_cons (pv 3) (pa_cons (pv 5) pa_nil))))))
  (C8.pss_cut (ps_if (PW.pt (pw_and (pt_cmpR op_ne (pv 6) pe_str (nomark _)) (pw_and1 (pt_cmpR (r := rIn K true) op_notIn_seq (pv 6) (pv 2) (by rfl)))))
  (pss_one (ps_expr (pe_bm PySem.F.plainAttrs_list PySem.F.slot_list_append PySem.F.type_list_append mt_append (pv 2) (pa_cons (pv 6) pa_nil))))
  pss_nil)
  (pss_cons (ps_set (i := 3) sc_l_pathed.nd rfl (.inl rfl) (pv 5))
  (pss_one (ps_if (pt_cmpR op_eq (pv 3) (pe_callB (id := "len") (r := _) Rd.c_lenS (by rfl) T.n_len (by decide +kernel) (pa_cons (pv 1) pa_nil)) (nomark _))
  (pss_one ps_break)
  pss_nil))))))))))
  (pss_one (ps_ret (pv 2)))))), ?_⟩
    have zl : z.length ≤ sizeLine := by rw [sizeLine_eq]; omega
    walk_at "rd"
    refine ⟨Nat.zero_le _, Rd.new fun l G0 nl gl s0 => ?_⟩
    have ⟨lt, lc⟩ := tp.new nl
    walk_at "rd"
    refine Rd.forS ?_
    walk_at "rd"
    refine ⟨by decide, by decide, ?_⟩
    refine for_range (lo := 0) (n := 8) (fun i σ H' => ∃ (ws : List Str) (spot : Int) (o1 o2 o3 : Option V), σ = [some (.ref t), some (.str z), some (.ref l), some (.int spot), o1, o2, o3] ∧ 0 ≤ spot ∧ spot ≤ z.length ∧ Tape H' t c ∧ Rd.But t H H' ∧ H' l = some (.lst (ws.map V.str)) ∧ ws.Nodup ∧ ws.length ≤ i ∧ ∀ y ∈ ws, Lt.Wd 12 y)
      ⟨[], 0, none, none, none, rfl, by decide, by omega, tp.same s0, Rd.But.of s0, gl, .nil, Nat.le_refl _, fun _ h => by simp at h⟩ ?_ ?_
    · rintro i _ H1 hi ⟨ws, spot, o1, o2, o3, rfl, p0, p1, tp1, b1, gl1, nd, wl, hw⟩
      walk_at "rd"
      refine Rd.lenStr zl ?_
      walk_at "rd"
      refine pickR tp1 (by omega) (by omega) fun ot H2 ot0 ot1 tp2 b2 => ?_
      have gl2 := b2 l _ lt gl1
      walk_at "rd"
      refine Rd.cut (fun σ H' => ∃ ot : Int, σ = [some (.ref t), some (.str z), some (.ref l), some (.int spot), some (.int (0 + (i : Int))), some (.int ot), o3] ∧ 0 ≤ ot ∧ ot ≤ z.length ∧ Tape H' t c ∧ Rd.But t H H' ∧ H' l = some (.lst (ws.map V.str))) ?_ ?_
      · walk_at "rd"
        refine ite2 (fun q => ?_) (fun q => ?_)
        · walk_at "rd"
          refine Rd.lenStr zl ?_
          walk_at "rd"
          exact ⟨_, rfl, by omega, by omega, tp2, b1.trans b2, gl2⟩
        · walk_at "rd"
          refine pickR tp2 (by decide) (by decide) fun r H3 r0 r1 tp3 b3 => ?_
          have gl3 := b3 l _ lt gl2
          walk_at "rd"
          refine ite2 (fun q => ?_) (fun q => ?_)
          · walk_at "rd"
            refine Rd.lenStr zl ?_
            walk_at "rd"
            exact ⟨_, rfl, by omega, by omega, tp3, (b1.trans b2).trans b3, gl3⟩
          · walk_at "rd"
            exact ⟨_, rfl, by omega, by omega, tp3, (b1.trans b2).trans b3, gl3⟩
      · rintro _ H3 ⟨ot, rfl, ot0, ot1, tp3, b3, gl3⟩
        walk_at "rd"
        refine Rd.cut (fun σ H' => ∃ ot : Int, σ = [some (.ref t), some (.str z), some (.ref l), some (.int spot), some (.int (0 + (i : Int))), some (.int ot), o3] ∧ 0 ≤ ot ∧ ot ≤ z.length ∧ ot ≤ spot + 12 ∧ H' = H3) ?_ ?_
        · walk_at "rd"
          refine ite2 (fun q => ?_) (fun q => ?_)
          · walk_at "rd"
            exact ⟨_, rfl, by omega, by omega, by omega, rfl⟩
          · walk_at "rd"
            exact ⟨_, rfl, by omega, by omega, by omega, rfl⟩
        · rintro _ H3 ⟨ot, rfl, ot0, ot1, ot2, rfl⟩
          walk_at "rd"
          refine Rd.cut (fun σ H' => ∃ ot : Int, σ = [some (.ref t), some (.str z), some (.ref l), some (.int spot), some (.int (0 + (i : Int))), some (.int ot), o3] ∧ 0 ≤ ot ∧ ot ≤ z.length ∧ ot ≤ spot + 12 ∧ spot ≤ ot + 12 ∧ H' = H3) ?_ ?_
          · walk_at "rd"
            refine ite2 (fun q => ?_) (fun q => ?_)
            · walk_at "rd"
              exact ⟨_, rfl, by omega, by omega, by omega, by omega, rfl⟩
            · walk_at "rd"
              exact ⟨_, rfl, by omega, by omega, by omega, by omega, rfl⟩
          · rintro _ H3 ⟨ot, rfl, ot0, ot1, ot2, ot3, rfl⟩
            walk_at "rd"
            refine Rd.slS zl ?_
            walk_at "rd"
            have cl := Lt.cut_lenI (z := z) (a := min spot ot) (b := max spot ot) (by omega) (by omega) (by omega)
            have cL := hz.cut (some (min spot ot)) (some (max spot ot))
            generalize cutS z (some (min spot ot)) (some (max spot ot)) = y at cl cL
            refine Rd.cut (fun σ H' => ∃ ws : List Str, σ = [some (.ref t), some (.str z), some (.ref l), some (.int spot), some (.int (0 + (i : Int))), some (.int ot), some (.str y)] ∧ Tape H' t c ∧ Rd.But t H H' ∧ H' l = some (.lst (ws.map V.str)) ∧ ws.Nodup ∧ ws.length ≤ i + 1 ∧ ∀ y ∈ ws, Lt.Wd 12 y) ?_ ?_
            · walk_at "rd"
              refine ite2 (fun q => ?_) (fun q => ?_)
              · walk_at "rd"
                exact ⟨ws, rfl, tp3, b3, gl3, nd, by omega, hw⟩
              · walk_at "rd"
                refine Rd.inStrsN (.inl (.of gl3)) ?_
                walk_at "rd"
                refine ite2 (fun q2 => ?_) (fun q2 => ?_)
                · walk_at "rd"
                  exact ⟨ws, rfl, tp3, b3, gl3, nd, by omega, hw⟩
                · walk_at "rd"
                  refine Rd.tyL (.of gl3) ?_
                  walk_at "rd"
                  refine Rd.app gl3 (by rw [List.length_map, sizeLine_eq]; omega) fun G4 g4 off4 => ?_
                  walk_at "rd"
                  have y0 := Lt.len_of_ne q
                  refine ⟨ws ++ [y], rfl, tp3.off lt lc off4, but_off b3 nl off4, by rw [List.map_append]; exact g4, ?_, by rw [List.length_append]; exact Nat.succ_le_succ wl, fun x hx => ?_⟩
                  · rw [List.nodup_append]
                    exact ⟨nd, by simp, fun x hx z hz e => q2 (by simp at hz; rw [← hz, ← e]; exact hx)⟩
                  · rcases List.mem_append.mp hx with h | h
                    · exact hw x h
                    · simp at h
                      rw [h]
                      exact ⟨cL, by omega, by omega⟩
            · rintro _ H4 ⟨ws, rfl, tp4, b4, gl4, nd, wl, hw⟩
              walk_at "rd"
              refine Rd.lenStr zl ?_
              walk_at "rd"
              refine ite2 (fun q => ?_) (fun q => ?_)
              · walk_at "rd"
                exact k l ws H4 tp4 b4 nl gl4 nd (by omega) hw
              · walk_at "rd"
                exact ⟨ws, ot, _, _, _, rfl, ot0, ot1, tp4, b4, gl4, nd, wl, hw⟩
    · rintro _ H1 ⟨ws, spot, o1, o2, o3, rfl, p0, p1, tp1, b1, gl1, nd, wl, hw⟩
      walk_at "rd"
      exact k l ws H1 tp1 b1 nl gl1 nd wl hw
theorem ok_l_watches (T : Txt K mg) : FnOk P w K mg base CX0 3 T.f_l_watches T.fd_l_watches ["_law_tape_here", "_law_word_here", "_law_letters_here", "_law_most"] (sp_l_watches K) := by
  refine T.F_l_watches.ok sc_l_watches (fun vs H Q E h => ?_) (fun cdv A outer s H vs Q E hr h => ?_)
  · obtain ⟨t, c, z, L, most, rfl, _⟩ := h
    rfl
  · obtain ⟨t, c, z, L, most, rfl, tp, hz, z0, z1, hL, L0, L1, m0, m1, k⟩ := h
    refine ⟨_, (pss_cons (ps_set (i := 4) sc_l_watches.nd rfl (.inl rfl) (pe_call (ok_l_pick T) (hr.mono (by decide)) rfl T.g_l_pick T.F_l_pick.kp T.b_l_pick .nil pass0 (pa_cons (pv 0) (pa_cons pe_int pa_nil))))
  (pss_cons (ps_set (i := 5) sc_l_watches.nd rfl (.inl rfl) (pe_lst pa_nil))
  (C8.pss_cut (ps_if (PW.pt (pw_and (pt_cmpR op_gt (pv 4) pe_int (nomark _)) (pw_and1 (pt_cmpR op_gt (pe_callB (id := "len") (r := _) Rd.c_lenS (by rfl) T.n_len (by decide +kernel) (pa_cons (pv 1) pa_nil)) pe_int (nomark _)))))
  (pss_one (ps_set (i := 5) sc_l_watches.nd rfl (.inl rfl) (pe_call (ok_l_pathed T) (hr.mono (by decide)) rfl T.g_l_pathed T.F_l_pathed.kp T.b_l_pathed .nil pass0 (pa_cons (pv 0) (pa_cons (pv 1) pa_nil)))))
  pss_nil)
  (C8.pss_cut (ps_if (PW.pt (pw_and (pt_cmpR op_eq (pv 4) pe_int (nomark _)) (pw_and1 (pt_cmpR op_gt (pe_callB (id := "len") (r := Rd.nLen K) Rd.c_len (by rfl) T.n_len (by decide +kernel) (pa_cons (pv 5) pa_nil)) pe_int (nomark _)))))
  (pss_one (ps_expr (pe_bm PySem.F.plainAttrs_list PySem.F.slot_list_pop PySem.F.type_list_pop mt_popAt (pv 5) (pa_cons (pe_call (ok_l_pick T) (hr.mono (by decide)) rfl T.g_l_pick T.F_l_pick.kp T.b_l_pick .nil pass0 (pa_cons (pv 0) (pa_cons (pe_callB (id := "len") (r := Rd.nLen K) Rd.c_len (by rfl) T.n_len (by decide +kernel) (pa_cons (pv 5) pa_nil)) pa_nil))) pa_nil))))
  pss_nil)
  (pss_cons (ps_for PassesOwn.never rfl (pi_range1 rfl T.n_range (pa_cons (pe_call (ok_l_pick T) (hr.mono (by decide)) rfl T.g_l_pick T.F_l_pick.kp T.b_l_pick .nil pass0 (pa_cons (pv 0) (pa_cons pe_int pa_nil))) pa_nil)) (pg_name (i := 6) sc_l_watches.nd rfl (.inl rfl))
  (pss_cons (ps_set (i := 7) sc_l_watches.nd rfl (.inl rfl) (pe_call (ok_l_piece T) (hr.mono (by decide)) rfl T.g_l_piece T.F_l_piece.kp T.b_l_piece .nil pass0 (pa_cons (pv 0) (pa_cons (pv 1) pa_nil))))
  (C8.pss_cut (ps_if (pt_cmpR op_eq (pe_call (ok_l_pick T) (hr.mono (by decide)) rfl T.g_l_pick T.F_l_pick.kp T.b_l_pick .nil pass0 (pa_cons (pv 0) (pa_cons pe_int pa_nil))) pe_int (nomark _))
  (pss_one (ps_set (i := 7) sc_l_watches.nd rfl (.inl rfl) (pe_call (ok_l_word T) (hr.mono (by decide)) rfl T.g_l_word T.F_l_word.kp T.b_l_word .nil pass0 (pa_cons (pv 0) (pa_cons (pv 2) (pa_cons pe_int (pa_cons pe_int pa_nil)))))))
  pss_nil)
  (pss_one (ps_if (pt_cmpR (r := rIn K true) op_notIn_seq (pv 7) (pv 5) (by rfl))
  (pss_one (ps_expr (pe_bm PySem.F.plainAttrs_list PySem.F.slot_list_insert PySem.F.type_list_insert Rd.m_insert (pv 5) (pa_cons (pe_call (ok_l_pick T) (hr.mono (by decide)) rfl T.g_l_pick T.F_l_pick.kp T.b_l_pick .nil pass0 (pa_cons (pv 0) (pa_cons (pe_op op_add (pe_callB (id := "len") (r := Rd.nLen K) Rd.c_len (by rfl) T.n_len (by decide +kernel) (pa_cons (pv 5) pa_nil)) pe_int) pa_nil))) (pa_cons (pv 7) pa_nil)))))
  pss_nil)))))
  (pss_one (ps_ret (pe_slice (r := rSlL K) sl_list (pv 5) po_none (po_some (pv 3)))))))))), ?_⟩
    have zl : z.length ≤ sizeLine := by rw [sizeLine_eq]; omega
    walk_at "rd"
    refine pickR tp (by decide) (by decide) fun kind H1 k0 k1 tp1 b1 => ?_
    walk_at "rd"
    refine ⟨Nat.zero_le _, Rd.new fun l0 G2 nl0 gl0 s2 => ?_⟩
    walk_at "rd"
    -- the list so far: l, not there at first
    refine Rd.cut (fun σ H' => ∃ (l : Addr) (ws : List Str), σ = [some (.ref t), some (.str z), some (.str L), some (.int most), some (.int kind), some (.ref l), none, none] ∧ Tape H' t c ∧ Rd.But t H H' ∧ H l = none ∧ H' l = some (.lst (ws.map V.str)) ∧ ws.Nodup ∧ ws.length ≤ 8 ∧ ∀ y ∈ ws, Lt.Wd 12 y) ?_ ?_
    · have no : ∃ (l : Addr) (ws : List Str), [some (V.ref t), some (.str z), some (.str L), some (.int most), some (.int kind), some (.ref l0), none, none] = [some (.ref t), some (.str z), some (.str L), some (.int most), some (.int kind), some (.ref l), none, none] ∧ Tape G2 t c ∧ Rd.But t H G2 ∧ H l = none ∧ G2 l = some (.lst (ws.map V.str)) ∧ ws.Nodup ∧ ws.length ≤ 8 ∧ ∀ y ∈ ws, Lt.Wd 12 y :=
        ⟨l0, [], rfl, tp1.same s2, b1.same s2, b1.free (tp1.new nl0).1 nl0, gl0, .nil, Nat.zero_le _, fun _ h => by simp at h⟩
      walk_at "rd"
      refine ite2 (fun q => ?_) (fun q => ?_)
      · walk_at "rd"
        refine Rd.lenStr zl ?_
        walk_at "rd"
        refine ite2 (fun q => ?_) (fun q => ?_)
        · walk_at "rd"
          refine ⟨t, c, z, rfl, tp1.same s2, hz, z1, fun l ws H3 tp3 b3 nl gl nd wl hw => ?_⟩
          walk_at "rd"
          have nl1 := s2.free nl
          exact ⟨l, ws, rfl, tp3, (b1.same s2).trans b3, b1.free (tp1.new nl1).1 nl1, gl, nd, wl, hw⟩
        · walk_at "rd"
          exact no
      · walk_at "rd"
        exact no
    · rintro _ H3 ⟨l, ws, rfl, tp3, b3, nl, gl3, nd, wl, hw⟩
      have ⟨lt, lc⟩ := tp.new nl
      walk_at "rd"
      refine Rd.cut (fun σ H' => ∃ (ws : List Str), σ = [some (.ref t), some (.str z), some (.str L), some (.int most), some (.int kind), some (.ref l), none, none] ∧ Tape H' t c ∧ Rd.But t H H' ∧ H' l = some (.lst (ws.map V.str)) ∧ ws.Nodup ∧ ws.length ≤ 8 ∧ ∀ y ∈ ws, Lt.Wd 12 y) ?_ ?_
      · walk_at "rd"
        refine ite2 (fun q => ?_) (fun q => ?_)
        · walk_at "rd"
          refine Rd.len (.inl (.of gl3)) ?_
          rw [List.length_map]
          walk_at "rd"
          refine ite2 (fun q => ?_) (fun q => ?_)
          · walk_at "rd"
            refine Rd.tyL (.of gl3) ?_
            walk_at "rd"
            refine Rd.len (.inl (.of gl3)) ?_
            rw [List.length_map]
            walk_at "rd"
            refine pickR tp3 (by omega) (by omega) fun r H4 r0 r1 tp4 b4 => ?_
            walk_at "rd"
            have gl4 := b4 l _ lt gl3
            have rl : r.toNat < ws.length := by omega
            refine Rd.popAt gl4 r0 (by rw [List.length_map]; omega) (by rw [List.length_map]; omega) (Rd.map_str rl) fun G5 g5 off5 => ?_
            walk_at "rd"
            refine ⟨ws.eraseIdx r.toNat, rfl, tp4.off lt lc off5, but_off (b3.trans b4) nl off5, ?_, nd.sublist (List.eraseIdx_sublist _ _), Nat.le_trans (List.length_eraseIdx_le _ _) wl, fun y hy => hw y (List.mem_of_mem_eraseIdx hy)⟩
            rw [g5]
            congr 2
            simp [List.eraseIdx_eq_take_drop_succ]
          · walk_at "rd"
            exact ⟨ws, rfl, tp3, b3, gl3, nd, wl, hw⟩
        · walk_at "rd"
          exact ⟨ws, rfl, tp3, b3, gl3, nd, wl, hw⟩
      · rintro _ H4 ⟨ws, rfl, tp4, b4, gl4, nd, wl, hw⟩
        walk_at "rd"
        refine Rd.forS ?_
        walk_at "rd"
        refine pickR tp4 (by decide) (by decide) fun r H5 r0 r1 tp5 b5 => ?_
        walk_at "rd"
        refine ⟨by omega, by omega, ?_⟩
        refine for_range (lo := 0) (n := r.toNat) (fun i σ H' => ∃ (ws : List Str) (o1 o2 : Option V), σ = [some (.ref t), some (.str z), some (.str L), some (.int most), some (.int kind), some (.ref l), o1, o2] ∧ Tape H' t c ∧ Rd.But t H H' ∧ H' l = some (.lst (ws.map V.str)) ∧ ws.Nodup ∧ ws.length ≤ 8 + i ∧ ∀ y ∈ ws, Lt.Wd 12 y)
          ⟨ws, none, none, rfl, tp5, b4.trans b5, b5 l _ lt gl4, nd, wl, hw⟩ ?_ ?_
        · rintro i _ H6 hi ⟨ws, o1, o2, rfl, tp6, b6, gl6, nd, wl, hw⟩
          walk_at "rd"
          refine ⟨t, c, z, rfl, tp6, hz, z0, z1, fun y H7 hy tp7 b7 => ?_⟩
          have gl7 := b7 l _ lt gl6
          walk_at "rd"
          refine Rd.cut (fun σ H' => ∃ (y : Str), σ = [some (.ref t), some (.str z), some (.str L), some (.int most), some (.int kind), some (.ref l), some (.int (0 + (i : Int))), some (.str y)] ∧ Tape H' t c ∧ Rd.But t H H' ∧ H' l = some (.lst (ws.map V.str)) ∧ Lt.Wd 12 y) ?_ ?_
          · walk_at "rd"
            refine pickR tp7 (by decide) (by decide) fun r8 H8 _ _ tp8 b8 => ?_
            have gl8 := b8 l _ lt gl7
            walk_at "rd"
            refine ite2 (fun q => ?_) (fun q => ?_)
            · walk_at "rd"
              refine ⟨t, c, L, 1, 4, rfl, tp8, hL, L0, L1, by decide, by decide, by decide, fun y' H9 hy' y0 y1 tp9 b9 => ?_⟩
              walk_at "rd"
              exact ⟨y', rfl, tp9, ((b6.trans b7).trans b8).trans b9, b9 l _ lt gl8, hy', by omega, by omega⟩
            · walk_at "rd"
              exact ⟨y, rfl, tp8, (b6.trans b7).trans b8, gl8, hy⟩
          · rintro _ H9 ⟨y, rfl, tp9, b9, gl9, hy⟩
            walk_at "rd"
            refine Rd.inStrsN (.inl (.of gl9)) ?_
            walk_at "rd"
            refine ite2 (fun q => ?_) (fun q => ?_)
            · walk_at "rd"
              exact ⟨ws, _, _, rfl, tp9, b9, gl9, nd, by omega, hw⟩
            · walk_at "rd"
              refine Rd.tyL (.of gl9) ?_
              walk_at "rd"
              refine Rd.len (.inl (.of gl9)) ?_
              rw [List.length_map]
              walk_at "rd"
              refine pickR tp9 (by omega) (by omega) fun p G1 p0 p1 tq bq => ?_
              walk_at "rd"
              have glq := bq l _ lt gl9
              refine Rd.insert glq (by rw [List.length_map, sizeLine_eq]; omega) p0 (by omega) fun G2 g2 off2 => ?_
              walk_at "rd"
              have mem : ∀ x, x ∈ ws.take p.toNat ++ [y] ++ ws.drop p.toNat ↔ x ∈ ws ∨ x = y := fun x => by
                rw [List.mem_append, List.mem_append, List.mem_singleton]
                constructor
                · rintro ((h | h) | h)
                  · exact .inl (List.mem_of_mem_take h)
                  · exact .inr h
                  · exact .inl (List.mem_of_mem_drop h)
                · rintro (h | h)
                  · rw [← List.take_append_drop p.toNat ws] at h
                    rcases List.mem_append.mp h with h | h
                    · exact .inl (.inl h)
                    · exact .inr h
                  · exact .inl (.inr h)
              refine ⟨ws.take p.toNat ++ [y] ++ ws.drop p.toNat, _, _, rfl, tq.off lt lc off2, but_off (b9.trans bq) nl off2, ?_, ?_, ?_, fun x hx => ?_⟩
              · rw [g2, List.map_append, List.map_append, List.map_take, List.map_drop]
                rfl
              · have nd2 := nd
                rw [← List.take_append_drop p.toNat ws, List.nodup_append] at nd2
                obtain ⟨n1, n2, n3⟩ := nd2
                rw [List.nodup_append, List.nodup_append]
                refine ⟨⟨n1, by simp, fun x hx w hw e => q ?_⟩, n2, fun x hx w hw e => ?_⟩
                · simp at hw
                  rw [← hw, ← e]
                  exact List.mem_of_mem_take hx
                · rcases List.mem_append.mp hx with h | h
                  · exact n3 x h w hw e
                  · simp at h
                    rw [h] at e
                    rw [e] at q
                    exact q (List.mem_of_mem_drop hw)
              · rw [List.length_append, List.length_append, List.length_take, List.length_drop, List.length_singleton]
                omega
              · rcases (mem x).mp hx with h | h
                · exact hw x h
                · rw [h]
                  exact hy
        · rintro _ H6 ⟨ws, o1, o2, rfl, tp6, b6, gl6, nd, wl, hw⟩
          walk_at "rd"
          refine Rd.slL (.of gl6) (Rd.new fun d G7 ndw gd s7 => ?_)
          have ec : cutV (ws.map V.str) none (some most) = (ws.take most.toNat).map V.str := by
            rw [List.map_take]
            exact cut_toI m0
          rw [ec] at gd
          have dt := (tp6.new ndw).1
          refine k d (ws.take most.toNat) G7 (tp6.same s7) (b6.same s7) (b6.free dt ndw) gd ⟨nd.sublist (List.take_sublist _ _), ?_, fun y hy => hw y (List.mem_of_mem_take hy)⟩ ?_ <;> rw [List.length_take] <;> omega

end
end W

namespace W
open PySem PySem.Spec PyProof.Rows L2
section
variable {P : Program} {w : World} {K : PySem.W.Frag} {mg : Str → Option Value} {base : Heap}
/-! ### all the words that a book tells -/
def wordsOf (L : Str) : Nat → List Str
  | 0 => [""]
  | k + 1 => (wordsOf L k).flatMap fun w => (Re.Signs L).map fun c => w ++ c
def allOf (L : Str) : Nat → List Str
  | 0 => []
  | k + 1 => allOf L k ++ wordsOf L (k + 1)
open Classical in
noncomputable def toldIn (ws zs : List Str) : List Str := zs.filter fun z => decide (Mw.Told ws z)
theorem signs_len (L : Str) : (Re.Signs L).length = L.length := by
  unfold Re.Signs
  rw [List.length_map, Array.length_toList]
  rfl
theorem signs_one {L : Str} : ∀ c ∈ Re.Signs L, c.length = 1 := fun c m => by
  obtain ⟨d, _, rfl⟩ := List.mem_map.mp m
  rfl
theorem signs_nodup {L : Str} (nd : L.cps.toList.Nodup) : (Re.Signs L).Nodup := by
  unfold Re.Signs
  refine List.Pairwise.map _ (fun a b h e => h ?_) nd
  have : (#[a] : Array Nat) = #[b] := congrArg Str.cps e
  simpa using this
theorem wordsOf_len {L : Str} : ∀ {k : Nat}, ∀ z ∈ wordsOf L k, z.length = k
  | 0, z, m => by
    rw [List.mem_singleton.mp m]
    rfl
  | k + 1, z, m => by
    obtain ⟨w, hw, m⟩ := List.mem_flatMap.mp m
    obtain ⟨c, hc, rfl⟩ := List.mem_map.mp m
    rw [Lt.len_app, wordsOf_len w hw, signs_one c hc]
theorem flat_le {L : Str} (h : L.length ≤ 3) : ∀ ws : List Str, (ws.flatMap fun w => (Re.Signs L).map fun c => w ++ c).length ≤ ws.length * 3
  | [] => Nat.le_refl _
  | w :: ws => by
    have := flat_le h ws
    rw [List.flatMap_cons, List.length_append, List.length_map, signs_len, List.length_cons]
    omega
theorem told_step {ws zs : List Str} {i : Nat} {W : Str} (h : zs[i]? = some W) : toldIn ws (zs.take (i + 1)) = toldIn ws (zs.take i) ++ toldIn ws [W] := by
  unfold toldIn
  rw [Rd.take_snoc h, List.filter_append]
theorem told_yes {ws : List Str} {W : Str} (h : Mw.Told ws W) : toldIn ws [W] = [W] := by
  simp [toldIn, h]
theorem told_no {ws : List Str} {W : Str} (h : ¬ Mw.Told ws W) : toldIn ws [W] = [] := by
  simp [toldIn, h]
theorem told_few (ws zs : List Str) : (toldIn ws zs).length ≤ zs.length := List.length_filter_le ..
theorem wordsOf_count {L : Str} (h : L.length ≤ 3) : ∀ k : Nat, (wordsOf L k).length ≤ 3 ^ k
  | 0 => Nat.le_refl _
  | k + 1 => by
    have ih := wordsOf_count h k
    have e : ∀ ws : List Str, (ws.flatMap fun w => (Re.Signs L).map fun c => w ++ c).length ≤ ws.length * 3 := by
      intro ws
      induction ws with
      | nil => exact Nat.le_refl _
      | cons w ws ih =>
        rw [List.flatMap_cons, List.length_append, List.length_map, signs_len, List.length_cons]
        omega
    have := e (wordsOf L k)
    show ((wordsOf L k).flatMap _).length ≤ 3 ^ k * 3
    omega
theorem allOf_count {L : Str} (h : L.length ≤ 3) : ∀ k : Nat, k ≤ 6 → (allOf L k).length ≤ k * 729
  | 0, _ => Nat.le_refl _
  | k + 1, hk => by
    have ih := allOf_count h k (by omega)
    have h1 := wordsOf_count h (k + 1)
    have h2 : 3 ^ (k + 1) ≤ 3 ^ 6 := Nat.pow_le_pow_right (by decide) hk
    show (allOf L k ++ wordsOf L (k + 1)).length ≤ _
    rw [List.length_append]
    omega
theorem allOf_len {L : Str} : ∀ {k : Nat}, ∀ z ∈ allOf L k, z.length ≤ k
  | 0, z, m => by cases m
  | k + 1, z, m => by
    rcases List.mem_append.mp m with m | m
    · have := allOf_len z m
      omega
    · exact Nat.le_of_eq (wordsOf_len z m)
def sp_told_words (K : PySem.W.Frag) (C : Addr) : Sp := fun vs H Q _ => ∃ (b : Addr) (L : Str) (m : Nat) (ws : List Str), vs = [.ref b, .str L, .int (m : Nat)] ∧ BookAt C H b ws ∧ Watches ws ∧ Lt.Let L ∧ 1 ≤ L.length ∧ L.length ≤ 3 ∧ L.cps.toList.Nodup ∧ 1 ≤ m ∧ m ≤ 6 ∧
  ∀ (l : Addr) H', Same H H' → H l = none → H' l = some (.lst ((inOrder (toldIn ws (allOf L m))).map V.str)) → Q (.ref l) H'
theorem ok_told_words (T : Txt K mg) : FnOk P w K mg base CX0 5 T.f_told_words T.fd_told_words ["book", "letters", "most"] (sp_told_words K T.C_Book) := by
  refine T.F_told_words.ok sc_told_words (fun vs H Q E h => ?_) (fun cdv A outer s H vs Q E hr h => ?_)
  · obtain ⟨b, L, m, ws, rfl, _⟩ := h
    rfl
  · obtain ⟨b, L, m, ws, rfl, hB, Wt, hL, L0, L1, nd, m0, m1, k⟩ := h
    refine ⟨_, (pss_cons (ps_expr (pe_call (ok_check_book T) (hr.mono (by decide)) rfl T.g_check_book T.F_check_book.kp T.b_check_book .nil pass0 (pa_cons (pv 0) pa_nil)))
  (pss_cons (ps_if (PW.pt (pw_or (pt_not (pt_val (pe_call (ok_is_letters T) (hr.mono (by decide)) rfl T.g_is_letters T.F_is_letters.kp T.b_is_letters .nil pass0 (pa_cons (pv 1) pa_nil)))) (pw_or (pt_not (pt_chain op_le op_le pe_int (pe_callB (id := "len") (r := _) Rd.c_lenS (by rfl) T.n_len (by decide +kernel) (pa_cons (pv 1) pa_nil)) (pe_glob (v := .int 3) rfl T.m_MOST_LETTERS ⟨_, rfl⟩))) (pw_or1 (pt_cmpR op_ne (Re.pe_lenSet rfl (by rfl) T.n_len (by rfl) T.n_set (pe_callTy (T := "list") (r := Re.rListStr) (Re.cr_listStr rfl) (by rfl) T.n_list (by decide +kernel) (pa_cons (pv 1) pa_nil))) (pe_callB (id := "len") (r := _) Rd.c_lenS (by rfl) T.n_len (by decide +kernel) (pa_cons (pv 1) pa_nil)) (nomark _))))))
  (pss_one ps_never)
  pss_nil)
  (pss_cons (ps_if (PW.pt (pw_or (pt_not (pt_val (pe_call (ok_is_integer T) (hr.mono (by decide)) rfl T.g_is_integer T.F_is_integer.kp T.b_is_integer .nil pass0 (pa_cons (pv 2) pa_nil)))) (pw_or1 (pt_not (pt_chain op_le op_le pe_int (pv 2) (pe_glob (v := .int 6) rfl T.m_MOST_SIZE ⟨_, rfl⟩))))))
  (pss_one ps_never)
  pss_nil)
  (pss_cons (ps_set (i := 3) sc_told_words.nd rfl (.inl rfl) (pe_lst pa_nil))
  (pss_cons (ps_set (i := 4) sc_told_words.nd rfl (.inl rfl) (pe_lst (pa_cons pe_str pa_nil)))
  (pss_cons (ps_for PassesOwn.never rfl (pi_range1 rfl T.n_range (pa_cons (pv 2) pa_nil)) (pg_name (i := 5) sc_told_words.nd rfl (.inl rfl))
  (pss_cons (ps_setLc2 (i := 4) (own := [("word", 6), ("letter", 7)]) (vs1 := [7]) (g := gName 6) (g1 := gName 7) (tt := tYes) (tt1 := tYes) rfl sc_told_words.nd rfl rfl (sw_true rfl rfl rfl (by decide +kernel)) (pi_list (pv 4)) (blkOk_by (own := [("word", 6), ("letter", 7)]) (N := ["book", "letters", "most", "found", "words", "size", "word", "letter"]) (sc := defScope s_told_words) (by decide +kernel)) (by decide) (fun _ _ _ _ _ => (pg_name (i := 6) sc_told_words.nd rfl (.inl rfl))) (fun _ _ _ _ _ => pts_nil) (fun _ _ _ _ _ => (pi_str (pv 1))) (fun _ _ _ _ _ => (pg_name (i := 7) sc_told_words.nd rfl (.inl rfl))) (fun _ _ _ _ _ => pts_nil) (fun _ _ _ _ _ => (pe_op Rd.o_addS (pv 6) (pv 7))))
  (pss_one (ps_expr (pe_bm PySem.F.plainAttrs_list PySem.F.slot_list_extend PySem.F.type_list_extend mt_extend (pv 3) (pa_cons (pe_lc (own := [("word", 6)]) (g := gName 6)  rfl sc_told_words.nd (pi_list (pv 4)) (blkOk_by (own := [("word", 6)]) (N := ["book", "letters", "most", "found", "words", "size", "word", "letter"]) (sc := defScope s_told_words) (by decide +kernel)) (fun _ _ _ _ _ => (pg_name (i := 6) sc_told_words.nd rfl (.inl rfl))) (fun _ _ _ _ _ => pts_one (pt_val (pe_call (ok_leads T) (hr.mono (by decide)) rfl T.g_leads T.F_leads.kp T.b_leads .nil pass0 (pa_cons (pe_fld (pv 0) rfl : PE _ _ (tFld K _ _)) (pa_cons (pv 6) pa_nil))))) (fun _ _ _ _ _ => (pv 6))) pa_nil))))))
  (pss_one (ps_ret (pe_call (ok_in_order T) (hr.mono (by decide)) rfl T.g_in_order T.F_in_order.kp T.b_in_order .nil pass0 (pa_cons (pv 3) pa_nil)))))))))), ?_⟩
    have zl : L.length ≤ sizeLine := by rw [sizeLine_eq]; omega
    walk_at "rd"
    refine ⟨b, ws, rfl, hB, ?_⟩
    walk_at "go"
    refine ⟨L, rfl, hL, by omega, fun H1 s1 => ?_⟩
    walk_at "go"
    refine Rd.yes (by omega) ?_
    walk_at "go"
    refine Rd.yes (by omega) ?_
    walk_at "go"
    refine Re.lenSet ?_
    walk_at "go"
    refine Re.listStr zl (Rd.new fun q G nq gq sq => ?_)
    refine ⟨q, _, rfl, .of gq, signs_nodup nd, by rw [signs_len]; omega, ?_⟩
    walk_at "go"
    refine Rd.yes (by rw [signs_len]) ?_
    walk_at "go"
    refine ⟨_, rfl, ?_⟩
    walk_at "go"
    refine Rd.yes (by omega) ?_
    walk_at "go"
    refine Rd.yes (by omega) ?_
    walk_at "go"
    refine ⟨Nat.zero_le _, Rd.new fun f G1 nf gf sf => ?_⟩
    walk_at "go"
    refine ⟨Nat.le_of_ble_eq_true rfl, Rd.new fun v G2 nv gv sv => ?_⟩
    have nf0 : H f = none := (s1.trans sq).free nf
    have fv : f ≠ v := ne_of_none gf nv
    have s02 : Same H G2 := ((s1.trans sq).trans sf).trans sv
    have gf2 := sv _ _ gf
    clear s1 sq sf sv gf nf gq nq
    walk_at "go"
    refine Rd.forS ?_
    walk_at "go"
    refine ⟨by omega, by omega, ?_⟩
    obtain ⟨dx, t, hb, ht⟩ := id hB
    have wl := Wt.l1
    refine for_range (lo := 0) (n := ((m : Nat) : Int).toNat) (fun i σ H' => ∃ (wa : Addr) (o5 o6 o7 : Option V), σ = [some (.ref b), some (.str L), some (.int (m : Nat)), some (.ref f), some (.ref wa), o5, o6, o7] ∧ Same H H' ∧ H' f = some (.lst ((toldIn ws (allOf L i)).map V.str)) ∧ H' wa = some (.lst ((wordsOf L i).map V.str)) ∧ f ≠ wa)
      ⟨v, _, _, _, rfl, s02, gf2, gv, fv⟩ ?_ ?_
    · clear gf2 gv fv s02
      rintro i _ H2 hi ⟨wa, o5, o6, o7, rfl, s2, gf, gw, ne⟩
      walk_at "go"
      refine Re.lc2 ?_
      walk_at "go"
      refine ⟨⟨_, .of gw⟩, Re.lc2S walk_list (fun _ s => .of (s _ _ gw)) (fun D j acc Hc => acc = (((wordsOf L i).take j).flatMap fun w => (Re.Signs L).map fun c => w ++ c).map V.str) (fun _ _ _ _ _ => rfl) ?_ ?_⟩
      · rintro D j x H3 _ acc nD hj hD sm rfl ⟨rfl, hx⟩
        obtain ⟨w, hw, rfl⟩ := Rd.map_strG hx
        have wlen := wordsOf_len w (List.mem_of_getElem? hw)
        walk_at "go"
        refine ⟨rfl, Rd.tyes ?_⟩
        walk_at "go"
        have c3 : 3 ^ i ≤ 3 ^ 6 := Nat.pow_le_pow_right (by decide) (by omega)
        have c1 := wordsOf_count L1 i
        have c2 := flat_le L1 ((wordsOf L i).take j)
        rw [List.length_take] at c2
        refine Re.innerS walk_str (fun t acc _ => acc = ((((wordsOf L i).take j).flatMap fun w => (Re.Signs L).map fun c => w ++ c) ++ ((Re.Signs L).take t).map fun c => w ++ c).map V.str) ⟨_, hD, sm, by simp⟩ (fun _ _ => trivial) ?_ ?_
        · rintro t x H4 _ acc ht hD4 sm4 rfl ⟨rfl, c, hc, rfl⟩
          have hs : (Re.Signs L)[t]? = some ⟨#[c]⟩ := by
            unfold Re.Signs
            rw [List.getElem?_map, Array.getElem?_toList, hc]
            rfl
          have tl : t < L.length := ht
          walk_at "go"
          refine ⟨rfl, Rd.tyes ?_⟩
          walk_at "go"
          have one : (⟨#[c]⟩ : Str).length = 1 := rfl
          refine Rd.addS (by rw [sizeLine_eq]; omega) ?_
          refine Rd.lcPush hD4 nD sm4 ?_ fun G g off => ?_
          · rw [List.length_map, List.length_append, List.length_map, List.length_take, sizeLine_eq]
            omega
          · rw [Rd.take_snoc hs]
            simp
        · rintro acc H4 hD4 sm4 rfl
          have full : (Re.Signs L).take L.cps.size = Re.Signs L := List.take_of_length_le (by rw [signs_len]; exact Nat.le_refl _)
          show _ = List.map V.str (((wordsOf L i).take (j + 1)).flatMap _)
          rw [full, Rd.take_snoc hw, List.flatMap_append]
          simp
      · rintro D acc H3 nD hD sm rfl
        rw [List.length_map, List.take_length] at hD
        replace hD : H3 D = some (.lst ((wordsOf L (i + 1)).map V.str)) := hD
        have c3 : 3 ^ (i + 1) ≤ 3 ^ 6 := Nat.pow_le_pow_right (by decide) (by omega)
        have c1 := wordsOf_count L1 (i + 1)
        have c0 := allOf_count L1 i (by omega)
        have s3 := s2.trans sm
        have gf3 := sm _ _ gf
        have nDf : f ≠ D := ne_of_none gf nD
        clear s2 sm gf gw ne nD
        walk_at "go"
        refine ⟨⟨_, .of hD⟩, Rd.lcS walk_list (fun _ s => .of (s _ _ hD)) (fun D2 j acc Hc => acc = (toldIn ws ((wordsOf L (i + 1)).take j)).map V.str) (fun _ _ _ _ _ => rfl) ?_ ?_⟩
        · rintro D2 j x H4 _ acc nD2 hj hD2 sm2 rfl ⟨rfl, hx⟩
          obtain ⟨w, hw, rfl⟩ := Rd.map_strG hx
          have wlen := wordsOf_len w (List.mem_of_getElem? hw)
          have few := told_few ws ((wordsOf L (i + 1)).take j)
          rw [List.length_take] at few
          walk_at "go"
          refine ⟨rfl, ?_⟩
          walk_at "go"
          refine Rd.fld (sm2 _ _ (s3 _ _ hb)) T.cl_Book T.na_Book_watches rfl ?_
          walk_at "go"
          refine ⟨t, ws, w, rfl, .inr (.of (sm2 _ _ (s3 _ _ ht))), fun W m => ⟨(Wt.ok W m).l0, by have := (Wt.ok W m).l1; omega⟩, by omega, by omega, fun b1 H5 s5 e => ?_⟩
          walk_at "go"
          cases b1 with
          | true =>
            walk_at "go"
            refine Rd.lcPush (s5 _ _ hD2) nD2 (sm2.trans s5) (by rw [List.length_map, sizeLine_eq]; omega) fun G g off => ?_
            rw [told_step hw, told_yes (e.mp rfl), List.map_append]
            rfl
          | false =>
            walk_at "go"
            refine ⟨_, s5 _ _ hD2, sm2.trans s5, ?_⟩
            dsimp only
            rw [told_step hw, told_no (fun q => by simpa using e.mpr q), List.append_nil]
        · rintro D2 acc H4 nD2 hD2 sm2 rfl
          rw [List.length_map, List.take_length] at hD2
          have few2 := told_few ws (wordsOf L (i + 1))
          have few1 := told_few ws (allOf L i)
          walk_at "go"
          refine ⟨f, D2, _, _, rfl, rfl, sm2 _ _ gf3, hD2, by rw [List.length_map, List.length_map, sizeLine_eq]; omega, ?_⟩
          have off : ∀ b, b ≠ f → upd H4 f (.lst ((toldIn ws (allOf L i)).map V.str ++ (toldIn ws (wordsOf L (i + 1))).map V.str)) b = H4 b := fun b q => upd_ne q
          have at' : upd H4 f (.lst ((toldIn ws (allOf L i)).map V.str ++ (toldIn ws (wordsOf L (i + 1))).map V.str)) f = some (.lst ((toldIn ws (allOf L i)).map V.str ++ (toldIn ws (wordsOf L (i + 1))).map V.str)) := upd_same
          generalize upd H4 f (.lst ((toldIn ws (allOf L i)).map V.str ++ (toldIn ws (wordsOf L (i + 1))).map V.str)) = G5 at off at'
          walk_at "go"
          refine ⟨D, _, _, _, rfl, Rd.same_off (s3.trans sm2) nf0 off, ?_, by rw [off _ nDf.symm]; exact sm2 _ _ hD, nDf⟩
          rw [at', ← List.map_append]
          show some (HO.lst _) = some (.lst ((toldIn ws (allOf L i ++ wordsOf L (i + 1))).map V.str))
          unfold toldIn
          rw [List.filter_append]
    · rintro _ H2 ⟨wa, o5, o6, o7, rfl, s2, gf, gw, ne⟩
      have cf := told_few ws (allOf L m)
      walk_at "go"
      refine ⟨f, _, rfl, .of gf, fun z mz => ?_, fun l H3 s3 nl gl => ?_⟩
      · have := allOf_len z (List.mem_filter.mp (show z ∈ (allOf L m).filter _ from mz)).1
        omega
      · walk_at "go"
        exact k l H3 (s2.trans s3) (s2.free nl) gl

end
end W

namespace W
open PySem PySem.Spec PyProof.Rows L2
section
variable {P : Program} {w : World} {K : PySem.W.Frag} {mg : Str → Option Value} {base : Heap}
/-! ### the same words in the same order -/
theorem keyD_inj {a b : Str} (h1 : PySem.W.dataLe false keyD a b = true) (h2 : PySem.W.dataLe false keyD b a = true) : a = b := by
  replace h1 : (!PySem.W.dataLt (keyD b) (keyD a)) = true := h1
  replace h2 : (!PySem.W.dataLt (keyD a) (keyD b)) = true := h2
  rw [Bool.not_eq_true'] at h1 h2
  have e : PySem.W.keyToks (keyD a) = PySem.W.keyToks (keyD b) := PyProof.Rows.lex_total _ _ h2 h1
  refine PySem.W.str_of_cps ?_
  unfold keyD at e
  simp [PySem.W.keyToks, PySem.W.keyToksAll] at e
  first
    | exact e.2
    | (rw [e.2])
theorem inOrder_perm {zs us : List Str} (p : zs.Perm us) : inOrder zs = inOrder us :=
  List.Perm.eq_of_pairwise (le := fun a b => PySem.W.dataLe false keyD a b = true) (fun a b _ _ => keyD_inj) (PySem.W.sort_pairwise (PySem.W.sortLe_total _ _ _) zs) (PySem.W.sort_pairwise (PySem.W.sortLe_total _ _ _) us)
    (((List.mergeSort_perm zs _).trans p).trans (List.mergeSort_perm us _).symm)
theorem flat_perm {α β : Type} {f g : α → List β} : ∀ {l m : List α}, l.Perm m → (∀ a, (f a).Perm (g a)) → (l.flatMap f).Perm (m.flatMap g) := by
  intro l m p h
  refine (List.Perm.flatMap_right f p).trans ?_
  clear p
  induction m with
  | nil => exact .nil
  | cons a m ih =>
    rw [List.flatMap_cons, List.flatMap_cons]
    exact (h a).append ih
theorem wordsOf_perm {L M : Str} (h : (Re.Signs L).Perm (Re.Signs M)) : ∀ k : Nat, (wordsOf L k).Perm (wordsOf M k)
  | 0 => .refl _
  | k + 1 => flat_perm (wordsOf_perm h k) fun w => h.map _
theorem allOf_perm {L M : Str} (h : (Re.Signs L).Perm (Re.Signs M)) : ∀ k : Nat, (allOf L k).Perm (allOf M k)
  | 0 => .refl _
  | k + 1 => (allOf_perm h k).append (wordsOf_perm h (k + 1))
theorem told_perm {ws zs us : List Str} (h : zs.Perm us) : (toldIn ws zs).Perm (toldIn ws us) := h.filter _
theorem toldIn_congr {ws us : List Str} (h : ∀ z, Mw.Told ws z ↔ Mw.Told us z) (zs : List Str) : toldIn ws zs = toldIn us zs := by
  unfold toldIn
  exact List.filter_congr fun z _ => decide_eq_decide.mpr (h z)
theorem told_mono {ws us : List Str} (h : ∀ W ∈ ws, W ∈ us) {z : Str} (t : Mw.Told ws z) : Mw.Told us z := Mw.Star.mono (fun _ _ ⟨W, m, e⟩ => ⟨W, h W m, e⟩) t
/-! ### a watch that the others tell -/
theorem cut_cut {z W : Str} {s i n : Nat} (o : Mw.Occ W z s) (h : i + n ≤ W.length) : cutS W (some (i : Int)) (some ((i : Int) + (n : Int))) = cutS z (some ((s + i : Nat) : Int)) (some (((s + i : Nat) : Int) + (n : Int))) := by
  obtain ⟨h1, h2⟩ := o
  have zl : z.cps.toList.length = z.length := Array.length_toList
  have key : ∀ (x : Str) (a b : Nat), a ≤ b → b ≤ x.length → (cutS x (some (a : Int)) (some (b : Int))).cps.toList = (x.cps.toList.drop a).take (b - a) := fun x a b hab hb => by
    show ((((x.cps.toList.drop (HT.sIx x.length 0 (some (a : Int)))).take (HT.sIx x.length x.length (some (b : Int)) - HT.sIx x.length 0 (some (a : Int)))).toArray).toList) = _
    rw [HT.sIx_nat, HT.sIx_nat]
    have ma : min a x.length = a := Nat.min_eq_left (by omega)
    have mb : min b x.length = b := Nat.min_eq_left hb
    rw [ma, mb]
  have e1 : (W.cps.toList) = (z.cps.toList.drop s).take W.length := by
    have := congrArg (fun x : Str => x.cps.toList) h2
    rw [show (s : Int) + (W.length : Int) = ((s + W.length : Nat) : Int) by omega, key z s (s + W.length) (by omega) h1] at this
    rw [← this, show s + W.length - s = W.length by omega]
  refine PySem.W.str_of_cps ?_
  rw [show (i : Int) + (n : Int) = ((i + n : Nat) : Int) by omega, show (((s + i : Nat) : Int) + (n : Int)) = ((s + i + n : Nat) : Int) by omega, key W i (i + n) (by omega) h, key z (s + i) (s + i + n) (by omega) (by omega), e1, List.drop_take, List.drop_drop, List.take_take,
    show i + n - i = n by omega, show s + i + n - (s + i) = n by omega, Nat.min_eq_left (by omega)]
theorem adj_shift {us : List Str} {z W : Str} {s : Nat} (o : Mw.Occ W z s) {i j : Nat} (a : Mw.Adj us W i j) : Mw.Adj us z (s + i) (s + j) := by
  have one : ∀ {U : Str} {i : Nat}, Mw.Occ U W i → Mw.Occ U z (s + i) := fun {U i} h => by
    have := o.1
    have := h.1
    exact ⟨by omega, (cut_cut o h.1).symm.trans h.2⟩
  obtain ⟨U, m, e⟩ := a
  refine ⟨U, m, ?_⟩
  rcases e with ⟨h, e⟩ | ⟨h, e⟩
  · exact .inl ⟨one h, by omega⟩
  · exact .inr ⟨one h, by omega⟩
theorem star_shift {us : List Str} {z W : Str} {s : Nat} (o : Mw.Occ W z s) {i j : Nat} (a : Mw.Star (Mw.Adj us W) i j) : Mw.Star (Mw.Adj us z) (s + i) (s + j) := by
  induction a with
  | refl => exact .refl
  | step _ r ih => exact .step ih (adj_shift o r)
theorem told_drop {ws us : List Str} (h : ∀ W ∈ ws, Mw.Told us W) {z : Str} (t : Mw.Told ws z) : Mw.Told us z := by
  have one : ∀ i j, Mw.Adj ws z i j → Mw.Star (Mw.Adj us z) i j := fun i j ⟨W, m, e⟩ => by
    rcases e with ⟨o, e⟩ | ⟨o, e⟩
    · have := star_shift o (h W m)
      rw [Nat.add_zero] at this
      rw [e]
      exact this
    · have := star_shift o (h W m)
      rw [Nat.add_zero] at this
      rw [e]
      exact Mw.Star.symm (fun _ _ => Mw.Adj.symm _ _) this
  unfold Mw.Told at t ⊢
  have go : ∀ n, Mw.Star (Mw.Adj ws z) 0 n → Mw.Star (Mw.Adj us z) 0 n := fun n t => by
    induction t with
    | refl => exact .refl
    | step _ r ih => exact ih.trans (one _ _ r)
  exact go _ t

end
end W

namespace W
open PySem PySem.Spec PyProof.Rows L2
section
variable {P : Program} {w : World} {K : PySem.W.Frag} {mg : Str → Option Value} {base : Heap}
/-! ### the law's own order and words -/
def sp_l_in_order (K : PySem.W.Frag) : Sp := fun vs H Q _ => ∃ (a : Addr) (zs : List Str), vs = [.ref a] ∧ SqL K H a (zs.map V.str) ∧ zs.length ≤ 10000 ∧ (∀ z ∈ zs, z.length ≤ 1000) ∧ ∀ (l : Addr) H', Same H H' → H l = none → H' l = some (.lst ((inOrder zs).map V.str)) → Q (.ref l) H'
def sp_l_all_words (K : PySem.W.Frag) : Sp := fun vs H Q _ => ∃ (L : Str) (m : Nat), vs = [.str L, .int (m : Nat)] ∧ 1 ≤ L.length ∧ L.length ≤ 3 ∧ 1 ≤ m ∧ m ≤ 6 ∧ ∀ (l : Addr) H', Same H H' → H l = none → H' l = some (.lst ((allOf L m).map V.str)) → Q (.ref l) H'
def PairAt (H : Hp) (x : V) (z : Str) : Prop := ∃ T : Addr, x = .ref T ∧ H T = some (.tup [.int (z.length : Nat), .str z])
theorem pairs_keep {H H' : Hp} (s : ∀ b xs, H b = some (.tup xs) → H' b = some (.tup xs)) : ∀ {as : List V} {zs : List Str}, PySem.W.EachIs (PairAt H) as zs → PySem.W.EachIs (PairAt H') as zs
  | _, _, .nil => .nil
  | _, _, .cons ⟨T, e, h⟩ t => .cons ⟨T, e, s _ _ h⟩ (pairs_keep s t)
theorem pairs_dp {K : PySem.W.Frag} {H : Hp} : ∀ {as : List V} {zs : List Str}, PySem.W.EachIs (PairAt H) as zs → PySem.W.EachIs (fun x z => Dp K H x (keyD z) ∧ PairAt H x z) as zs
  | _, _, .nil => .nil
  | _, _, .cons ⟨T, e, h⟩ t => .cons ⟨by rw [e]; exact .tup (.of h) (.cons (.int _) (.cons (.str _) .nil)), T, e, h⟩ (pairs_dp t)
theorem pairs_of {K : PySem.W.Frag} {H H' : Hp} (s : Same H H') : ∀ {as : List V} {zs : List Str}, PySem.W.EachIs (fun x z => Dp K H x (keyD z) ∧ PairAt H x z) as zs → PySem.W.EachIs (PairAt H') as zs
  | _, _, .nil => .nil
  | _, _, .cons ⟨_, T, e, h⟩ t => .cons ⟨T, e, s _ _ h⟩ (pairs_of s t)
theorem each_snoc2 {β : Type} {R : V → β → Prop} {x : V} {y : β} (hxy : R x y) : ∀ {as : List V} {bs : List β}, PySem.W.EachIs R as bs → PySem.W.EachIs R (as ++ [x]) (bs ++ [y])
  | _, _, .nil => .cons hxy .nil
  | _, _, .cons h t => .cons h (each_snoc2 hxy t)
theorem ok_l_in_order (T : Txt K mg) : FnOk P w K mg base CX0 1 T.f_l_in_order T.fd_l_in_order ["_law_texts"] (sp_l_in_order K) := by
  refine T.F_l_in_order.ok sc_l_in_order (fun vs H Q E h => ?_) (fun cdv A outer s H vs Q E hr h => ?_)
  · obtain ⟨a, zs, rfl, _⟩ := h
    rfl
  · obtain ⟨a, zs, rfl, hS, few, hz, k⟩ := h
    refine ⟨_, (pss_one (ps_ret (pe_lc (own := [("_law_pair", 1)]) (g := gName 1) (tt := tYes) rfl sc_l_in_order.nd (pi_list (pe_callB (id := "sorted") (r := Rs.rSortD K) (Rs.cr_sortD hr.units) (by rfl) T.n_sorted (by decide +kernel) (pa_cons (pe_lc (own := [("_law_text", 2)]) (g := gName 2) (tt := tYes) rfl sc_l_in_order.nd (pi_list (pv 0)) (blkOk_by (own := [("_law_text", 2)]) (N := ["_law_texts", "_law_pair", "_law_text"]) (sc := defScope s_l_in_order) (by decide +kernel)) (fun _ _ _ _ _ => (pg_name (i := 2) sc_l_in_order.nd rfl (.inl rfl))) (fun _ _ _ _ _ => pts_nil) (fun _ _ _ _ _ => (pe_tup (pa_cons (pe_callB (id := "len") (r := _) Rd.c_lenS (by rfl) T.n_len (by decide +kernel) (pa_cons (pv 2) pa_nil)) (pa_cons (pv 2) pa_nil))))) pa_nil))) (blkOk_by (own := [("_law_pair", 1)]) (N := ["_law_texts", "_law_pair", "_law_text"]) (sc := defScope s_l_in_order) (by decide +kernel)) (fun _ _ _ _ _ => (pg_name (i := 1) sc_l_in_order.nd rfl (.inl rfl))) (fun _ _ _ _ _ => pts_nil) (fun _ _ _ _ _ => (pe_ix (r := rIxT K) ix_tup (pv 1) pe_int (fun _ _ => rfl)))))), ?_⟩
    walk_at "go"
    refine ⟨⟨_, hS⟩, Rd.lcS walk_list (fun _ s => s.seq hS) (fun D i acc Hc => acc.length = i ∧ PySem.W.EachIs (PairAt Hc) acc (zs.take i)) (fun _ _ _ _ _ => ⟨rfl, .nil⟩) ?_ ?_⟩
    · rintro D i x H1 _ acc nD hi hD sm ⟨al, ha⟩ ⟨rfl, hx⟩
      obtain ⟨z, hz', rfl⟩ := Rd.map_strG hx
      rw [List.length_map] at hi
      have zl := hz z (List.mem_of_getElem? hz')
      walk_at "go"
      refine ⟨rfl, Rd.tyes ?_⟩
      walk_at "go"
      refine ⟨Nat.le_of_ble_eq_true rfl, Rd.new fun T G nT gT sT => ?_⟩
      refine Rd.lcPush (sT _ _ hD) nD (sm.trans sT) (by rw [sizeLine_eq]; omega) fun G8 g8 off8 => ?_
      have kp : ∀ c xs, G c = some (.tup xs) → G8 c = some (.tup xs) := fun c xs q => by rw [off8 c (ne_of q (sT _ _ hD) (fun z => nomatch z))]; exact q
      refine ⟨by rw [List.length_append, al]; rfl, ?_⟩
      rw [Rd.take_snoc hz']
      exact each_snoc2 ⟨T, rfl, kp _ _ gT⟩ (pairs_keep (fun c xs q => kp _ _ (sT _ _ q)) ha)
    · rintro D acc H1 nD hD sm ⟨al, ha⟩
      rw [List.length_map, List.take_length] at ha
      walk_at "go"
      refine Rw.sortD keyD (PairAt H1) (.of hD) (pairs_dp ha) (keys_ok zs) fun out p G ho np gp sG => ?_
      have ho' : PySem.W.EachIs (PairAt G) out (inOrder zs) := pairs_of sG ho
      have ol : out.length = zs.length := by rw [ho'.length]; exact List.length_mergeSort _
      have sHG : Same H G := sm.trans sG
      clear ho sG sm hD nD ha
      walk_at "go"
      refine ⟨⟨_, .of gp⟩, Rd.lcS walk_list (fun _ s => .of (s _ _ gp)) (fun D i acc Hc => acc = ((inOrder zs).take i).map V.str) (fun _ _ _ _ _ => rfl) ?_ ?_⟩
      · rintro D i x H2 _ acc nD hi hD sm rfl ⟨rfl, hx⟩
        obtain ⟨z, hz2, T, rfl, gT⟩ := Rs.each_get ho' hx
        have gT2 := sm _ _ gT
        walk_at "go"
        refine ⟨rfl, Rd.tyes ?_⟩
        walk_at "go"
        refine Rd.ixT (.of gT2) rfl ?_
        refine Rd.lcPush hD nD sm (by rw [List.length_map, List.length_take, sizeLine_eq]; omega) fun G8 g8 off8 => ?_
        rw [Rd.take_snoc hz2, List.map_append]
        rfl
      · rintro D acc H2 nD hD sm rfl
        rw [ho'.length, List.take_length] at hD
        walk_at "go"
        exact k D H2 (sHG.trans sm) (sHG.free nD) hD
theorem ok_l_all_words (T : Txt K mg) : FnOk P w K mg base CX0 1 T.f_l_all_words T.fd_l_all_words ["_law_letters_here", "_law_most"] (sp_l_all_words K) := by
  refine T.F_l_all_words.ok sc_l_all_words (fun vs H Q E h => ?_) (fun cdv A outer s H vs Q E hr h => ?_)
  · obtain ⟨L, m, rfl, _⟩ := h
    rfl
  · obtain ⟨L, m, rfl, L0, L1, m0, m1, k⟩ := h
    refine ⟨_, (pss_cons (ps_set (i := 2) sc_l_all_words.nd rfl (.inl rfl) (pe_lst (pa_cons pe_str pa_nil)))
  (pss_cons (ps_set (i := 3) sc_l_all_words.nd rfl (.inl rfl) (pe_lst pa_nil))
  (pss_cons (ps_for PassesOwn.never rfl (pi_range1 rfl T.n_range (pa_cons (pv 1) pa_nil)) (pg_name (i := 4) sc_l_all_words.nd rfl (.inl rfl))
  (pss_cons (ps_set (i := 5) sc_l_all_words.nd rfl (.inl rfl) (pe_lst pa_nil))
  (pss_cons (ps_for PassesOwn.never rfl (pi_list (pv 2)) (pg_name (i := 6) sc_l_all_words.nd rfl (.inl rfl))
  (pss_one (ps_for PassesOwn.never rfl (pi_str (pv 0)) (pg_name (i := 7) sc_l_all_words.nd rfl (.inl rfl))
  (pss_one (ps_expr (pe_bm PySem.F.plainAttrs_list PySem.F.slot_list_append PySem.F.type_list_append mt_append (pv 5) (pa_cons (pe_op Rd.o_addS (pv 6) (pv 7)) pa_nil)))))))
  (pss_cons (ps_set (i := 2) sc_l_all_words.nd rfl (.inl rfl) (pv 5))
  (pss_one (ps_set (i := 3) sc_l_all_words.nd rfl (.inl rfl) (pe_op op_cat (pv 3) (pv 2))))))))
  (pss_one (ps_ret (pv 3)))))), ?_⟩
    walk_at "go"
    refine ⟨Nat.le_of_ble_eq_true rfl, Rd.new fun w0 G1 nw gw sw => ?_⟩
    walk_at "go"
    refine ⟨Nat.zero_le _, Rd.new fun f0 G2 nf gf sf => ?_⟩
    walk_at "go"
    refine Rd.forS ?_
    walk_at "go"
    refine ⟨by omega, by omega, ?_⟩
    have zl : L.length ≤ sizeLine := by rw [sizeLine_eq]; omega
    refine for_range (lo := 0) (n := ((m : Nat) : Int).toNat) (fun i σ H' => ∃ (wa fa : Addr) (o4 o5 o6 o7 : Option V), σ = [some (.str L), some (.int (m : Nat)), some (.ref wa), some (.ref fa), o4, o5, o6, o7] ∧ Same H H' ∧ H' wa = some (.lst ((wordsOf L i).map V.str)) ∧ H' fa = some (.lst ((allOf L i).map V.str)) ∧ H fa = none)
      ⟨w0, f0, _, _, _, _, rfl, sw.trans sf, sf _ _ gw, gf, sw.free nf⟩ ?_ ?_
    · clear sw sf gw gf nw nf
      rintro i _ H2 hi ⟨wa, fa, o4, o5, o6, o7, rfl, s2, gw, gf, nfa⟩
      have c3 : 3 ^ (i + 1) ≤ 3 ^ 6 := Nat.pow_le_pow_right (by decide) (by omega)
      have c4 : 3 ^ i ≤ 3 ^ 6 := Nat.pow_le_pow_right (by decide) (by omega)
      have c1 := wordsOf_count L1 (i + 1)
      have c5 := wordsOf_count L1 i
      have c0 := allOf_count L1 i (by omega)
      walk_at "go"
      refine ⟨Nat.zero_le _, Rd.new fun la G3 nl gl s3 => ?_⟩
      have s23 := s2.trans s3
      have gw3 := s3 _ _ gw
      have gf3 := s3 _ _ gf
      have wla : wa ≠ la := ne_of_none gw nl
      have fla : fa ≠ la := ne_of_none gf nl
      have nla : H la = none := s2.free nl
      clear s2 s3 gw gf nl
      walk_at "go"
      refine Rd.forS ?_
      walk_at "go"
      refine ⟨⟨_, .of gw3⟩, for_list (K := K) (a := wa) (xs := (wordsOf L i).map V.str) (fun j σ H' => ∃ (o6 o7 : Option V), σ = [some (.str L), some (.int (m : Nat)), some (.ref wa), some (.ref fa), some (.int (i : Nat)), some (.ref la), o6, o7] ∧ Same H H' ∧ H' wa = some (.lst ((wordsOf L i).map V.str)) ∧ H' fa = some (.lst ((allOf L i).map V.str)) ∧ H' la = some (.lst ((((wordsOf L i).take j).flatMap fun w => (Re.Signs L).map fun c => w ++ c).map V.str)))
        ⟨_, _, by rw [Int.zero_add]; rfl, s23, gw3, gf3, gl⟩ (fun j σ H' _ ⟨_, _, _, _, e, _⟩ => .of e) ?_ ?_⟩
      · clear s23 gw3 gf3 gl
        rintro j x _ H3 hx ⟨o6, o7, rfl, s3, gw3, gf3, gl3⟩
        obtain ⟨w, hw, rfl⟩ := Rd.map_strG hx
        have wlen := wordsOf_len w (List.mem_of_getElem? hw)
        have c2 := flat_le L1 ((wordsOf L i).take j)
        rw [List.length_take] at c2
        walk_at "go"
        refine Rd.forS ?_
        walk_at "go"
        refine for_it walk_str (fun t σ H' => ∃ o7 : Option V, σ = [some (.str L), some (.int (m : Nat)), some (.ref wa), some (.ref fa), some (.int (i : Nat)), some (.ref la), some (.str w), o7] ∧ Same H H' ∧ H' wa = some (.lst ((wordsOf L i).map V.str)) ∧ H' fa = some (.lst ((allOf L i).map V.str)) ∧ H' la = some (.lst (((((wordsOf L i).take j).flatMap fun w => (Re.Signs L).map fun c => w ++ c) ++ ((Re.Signs L).take t).map fun c => w ++ c).map V.str)))
          ⟨_, rfl, s3, gw3, gf3, by simpa using gl3⟩ (fun _ _ _ _ _ => trivial) ?_ ?_
        · clear s3 gw3 gf3 gl3
          rintro t x _ H4 _ ht ⟨o7, rfl, s4, gw4, gf4, gl4⟩ ⟨rfl, c, hc, rfl⟩
          have hs : (Re.Signs L)[t]? = some ⟨#[c]⟩ := by
            unfold Re.Signs
            rw [List.getElem?_map, Array.getElem?_toList, hc]
            rfl
          have tl : t < L.length := ht
          have one : (⟨#[c]⟩ : Str).length = 1 := rfl
          walk_at "go"
          refine Rd.app gl4 (by rw [List.length_map, List.length_append, List.length_map, List.length_take, sizeLine_eq]; omega) fun G5 g5 off5 => ?_
          walk_at "go"
          refine ⟨_, rfl, Rd.same_off s4 nla off5, by rw [off5 _ wla]; exact gw4, by rw [off5 _ fla]; exact gf4, ?_⟩
          rw [g5, Rd.take_snoc hs]
          simp
        · rintro _ H4 ⟨o7, rfl, s4, gw4, gf4, gl4⟩
          have full : (Re.Signs L).take L.cps.size = Re.Signs L := List.take_of_length_le (by rw [signs_len]; exact Nat.le_refl _)
          rw [full] at gl4
          walk_at "go"
          refine ⟨_, _, rfl, s4, gw4, gf4, ?_⟩
          rw [gl4, Rd.take_snoc hw, List.flatMap_append]
          simp
      · rintro _ H3 ⟨o6, o7, rfl, s3, gw3, gf3, gl3⟩
        rw [List.length_map, List.take_length] at gl3
        replace gl3 : H3 la = some (.lst ((wordsOf L (i + 1)).map V.str)) := gl3
        walk_at "go"
        refine Rd.cat gf3 gl3 (by rw [List.length_map, List.length_map, sizeLine_eq]; omega) (Rd.new fun f2 G4 nf2 gf2 s4 => ?_)
        walk_at "go"
        refine ⟨la, f2, _, _, _, _, rfl, s3.trans s4, s4 _ _ gl3, ?_, s3.free nf2⟩
        rw [gf2, ← List.map_append]
        rfl
    · rintro _ H2 ⟨wa, fa, o4, o5, o6, o7, rfl, s2, gw, gf, nfa⟩
      walk_at "go"
      exact k fa H2 s2 nfa gf

end
end W

namespace W
open PySem PySem.Spec PyProof.Rows L2
section
variable {P : Program} {w : World} {K : PySem.W.Frag} {mg : Str → Option Value} {base : Heap}
/-! ### the law -/
theorem set_nodup {ws : List Str} {y : Str} {i : Nat} (nd : ws.Nodup) (h : y ∉ ws) : (ws.set i y).Nodup := by
  induction ws generalizing i with
  | nil => exact nd
  | cons w ws ih =>
    rw [List.nodup_cons] at nd
    rw [List.mem_cons, not_or] at h
    cases i with
    | zero => exact List.nodup_cons.mpr ⟨h.2, nd.2⟩
    | succ i =>
      refine List.nodup_cons.mpr ⟨fun m => ?_, ih nd.2 h.2⟩
      rcases List.mem_or_eq_of_mem_set m with m | m
      · exact nd.1 m
      · exact h.1 m.symm
theorem wordsOf_let {L : Str} (h : Lt.Let L) : ∀ {k : Nat}, ∀ z ∈ wordsOf L k, Lt.Let z
  | 0, z, m => by
    rw [List.mem_singleton.mp m]
    exact Lt.Let.empty
  | k + 1, z, m => by
    obtain ⟨w, hw, m⟩ := List.mem_flatMap.mp m
    obtain ⟨c, hc, rfl⟩ := List.mem_map.mp m
    obtain ⟨d, hd, rfl⟩ := List.mem_map.mp hc
    exact (wordsOf_let h w hw).app (Lt.Let.one (h d hd))
theorem allOf_let {L : Str} (h : Lt.Let L) : ∀ {k : Nat}, ∀ z ∈ allOf L k, Lt.Let z
  | 0, z, m => by cases m
  | k + 1, z, m => (List.mem_append.mp m).elim (allOf_let h z) (wordsOf_let h z)
theorem signs_rev (L : Str) : Re.Signs (Re.revS L) = (Re.Signs L).reverse := by
  unfold Re.Signs
  rw [Re.revS_list, List.map_reverse]
theorem rev_len (L : Str) : (Re.revS L).length = L.length := Array.size_reverse
theorem rev_let {L : Str} (h : Lt.Let L) : Lt.Let (Re.revS L) := fun c m => h c (by rw [Re.revS_list] at m; exact List.mem_reverse.mp m)
theorem rev_nodup {L : Str} (h : L.cps.toList.Nodup) : (Re.revS L).cps.toList.Nodup := by
  rw [Re.revS_list]
  exact (List.reverse_perm _).nodup_iff.mpr h
theorem rev_due (ws : List Str) (L : Str) (m : Nat) : inOrder (toldIn ws (allOf (Re.revS L) m)) = inOrder (toldIn ws (allOf L m)) := inOrder_perm (told_perm (allOf_perm (by rw [signs_rev]; exact List.reverse_perm _) m))
theorem cut_all (z : Str) : cutS z (some ((0 : Nat) : Int)) (some (((0 : Nat) : Int) + (z.length : Int))) = z := by
  show (⟨((z.cps.toList.drop (HT.sIx z.length 0 (some ((0 : Nat) : Int)))).take (HT.sIx z.length z.length (some (((0 : Nat) : Int) + (z.length : Int))) - HT.sIx z.length 0 (some ((0 : Nat) : Int)))).toArray⟩ : Str) = z
  rw [show ((0 : Nat) : Int) + (z.length : Int) = ((z.length : Nat) : Int) by omega, HT.sIx_nat, HT.sIx_nat]
  have e : (z.cps.toList.drop (min 0 z.length)).take (min z.length z.length - min 0 z.length) = z.cps.toList := by
    rw [Nat.zero_min, Nat.min_self, List.drop_zero, Nat.sub_zero]
    exact List.take_of_length_le (by rw [Array.length_toList]; exact Nat.le_refl _)
  rw [e]
theorem told_self {us : List Str} {z : Str} (h : z ∈ us) : Mw.Told us z := .one ⟨z, h, .inl ⟨⟨by omega, cut_all z⟩, by omega⟩⟩
def butW (ws : List Str) (W : Str) : List Str := ws.filter fun V => !decide (V = W)
theorem rest_due {ws : List Str} {W : Str} (t : Mw.Told (butW ws W) W) (zs : List Str) : toldIn (butW ws W) zs = toldIn ws zs := toldIn_congr (fun z => ⟨told_mono fun V m => (List.mem_filter.mp m).1, told_drop fun V m => by
  by_cases c : V = W
  · rw [c]
    exact t
  · exact told_self (List.mem_filter.mpr ⟨m, by rw [decide_eq_false c]; rfl⟩)⟩) zs
theorem rev_told (ws zs : List Str) : toldIn ws.reverse zs = toldIn ws zs := toldIn_congr (fun z => ⟨told_mono fun V m => List.mem_reverse.mp m, told_mono fun V m => List.mem_reverse.mpr m⟩) zs
theorem rev_watches {ws : List Str} (h : Watches ws) : Watches ws.reverse := ⟨(List.reverse_perm ws).nodup_iff.mpr h.nd, by rw [List.length_reverse]; exact h.l1, fun z m => h.ok z (List.mem_reverse.mp m)⟩
theorem but_watches {ws : List Str} (h : Watches ws) (W : Str) : Watches (butW ws W) := ⟨List.Pairwise.sublist List.filter_sublist h.nd, Nat.le_trans (List.length_filter_le ..) h.l1, fun z m => h.ok z (List.mem_filter.mp m).1⟩
def sp_law (K : PySem.W.Frag) : Sp := fun vs H Q _ => ∃ (a : Addr) (ns : List Int), vs = [.ref a] ∧ SqL K H a (ns.map V.int) ∧ ns.length ≤ 63 ∧ ∀ H', Q (.bl true) H'
theorem ok_law (T : Txt K mg) : FnOk P w K mg base CX0 6 T.f_law T.fd_law ["_law_script"] (sp_law K) := by
  refine T.F_law.ok sc_law (fun vs H Q E h => ?_) (fun cdv A outer s H vs Q E hr h => ?_)
  · obtain ⟨a, ns, rfl, _⟩ := h
    rfl
  · obtain ⟨a, ns, rfl, hS, hlen, k⟩ := h
    refine ⟨_, (pss_cons (ps_set (i := 1) sc_law.nd rfl (.inl rfl) (pe_call (ok_l_tape T) (hr.mono (by decide)) rfl T.g_l_tape T.F_l_tape.kp T.b_l_tape .nil pass0 (pa_cons (pv 0) pa_nil)))
  (pss_cons (ps_set (i := 2) sc_law.nd rfl (.inl rfl) (pe_cmpR op_eq (pe_call (ok_l_pick T) (hr.mono (by decide)) rfl T.g_l_pick T.F_l_pick.kp T.b_l_pick .nil pass0 (pa_cons (pv 1) (pa_cons pe_int pa_nil))) pe_int (nomark _)))
  (pss_cons (ps_set (i := 3) sc_law.nd rfl (.inl rfl) (pe_call (ok_l_letters T) (hr.mono (by decide)) rfl T.g_l_letters T.F_l_letters.kp T.b_l_letters .nil pass0 (pa_cons (pv 1) pa_nil)))
  (pss_cons (ps_set (i := 4) sc_law.nd rfl (.inl rfl) (pe_op op_add pe_int (pe_call (ok_l_pick T) (hr.mono (by decide)) rfl T.g_l_pick T.F_l_pick.kp T.b_l_pick .nil pass0 (pa_cons (pv 1) (pa_cons (pe_op op_sub pe_int (pe_callB (id := "len") (r := _) Rd.c_lenS (by rfl) T.n_len (by decide +kernel) (pa_cons (pv 3) pa_nil))) pa_nil)))))
  (C8.pss_cut (ps_if (PW.pt (pw_and (pt_cmpR op_lt (pe_callB (id := "len") (r := _) Rd.c_lenS (by rfl) T.n_len (by decide +kernel) (pa_cons (pv 3) pa_nil)) pe_int (nomark _)) (pw_and1 (pt_cmpR op_eq (pe_call (ok_l_pick T) (hr.mono (by decide)) rfl T.g_l_pick T.F_l_pick.kp T.b_l_pick .nil pass0 (pa_cons (pv 1) (pa_cons pe_int pa_nil))) pe_int (nomark _)))))
  (pss_one (ps_set (i := 4) sc_law.nd rfl (.inl rfl) pe_int))
  pss_nil)
  (pss_cons (ps_set (i := 5) sc_law.nd rfl (.inl rfl) (pe_call (ok_l_word T) (hr.mono (by decide)) rfl T.g_l_word T.F_l_word.kp T.b_l_word .nil pass0 (pa_cons (pv 1) (pa_cons (pv 3) (pa_cons pe_int (pa_cons pe_int pa_nil))))))
  (pss_cons (ps_set (i := 6) sc_law.nd rfl (.inr rfl) (pe_call (ok_l_watches T) (hr.mono (by decide)) rfl T.g_l_watches T.F_l_watches.kp T.b_l_watches .nil pass0 (pa_cons (pv 1) (pa_cons (pv 5) (pa_cons (pv 3) (pa_cons pe_int pa_nil))))))
  (C8.pss_cut (ps_if (PW.pt (pw_and (pt_val (pv 2)) (pw_and1 (pt_cmpR op_gt (pe_callB (id := "len") (r := Rd.nLen K) Rd.c_len (by rfl) T.n_len (by decide +kernel) (pa_cons (pv 6) pa_nil)) pe_int (nomark _)))))
  (pss_cons (ps_set (i := 7) sc_law.nd rfl (.inl rfl) (pe_call (ok_l_pick T) (hr.mono (by decide)) rfl T.g_l_pick T.F_l_pick.kp T.b_l_pick .nil pass0 (pa_cons (pv 1) (pa_cons (pe_callB (id := "len") (r := Rd.nLen K) Rd.c_len (by rfl) T.n_len (by decide +kernel) (pa_cons (pv 6) pa_nil)) pa_nil))))
  (pss_cons (ps_set (i := 8) sc_law.nd rfl (.inl rfl) (pe_op Rd.o_addS (pe_slice sl_str (pe_ix (r := rIxL K) ix_list (pv 6) (pv 7) (fun _ _ => rfl)) (po_some pe_int) po_none) (pe_ix ix_str pe_str (pe_call (ok_l_pick T) (hr.mono (by decide)) rfl T.g_l_pick T.F_l_pick.kp T.b_l_pick .nil pass0 (pa_cons (pv 1) (pa_cons pe_int pa_nil))) (fun _ _ => rfl))))
  (pss_one (ps_if (pt_cmpR (r := rIn K true) op_notIn_seq (pv 8) (pv 6) (by rfl))
  (pss_one (ps_asg (pv 8) (pg_sub (pv 6) (pv 7) set_list)))
  pss_nil))))
  pss_nil)
  (pss_cons (ps_set (i := 9) sc_law.nd rfl (.inl rfl) (pe_call (ok_l_in_order T) (hr.mono (by decide)) rfl T.g_l_in_order T.F_l_in_order.kp T.b_l_in_order .nil pass0 (pa_cons (pe_lc (own := [("_law_one", 14)]) (g := gName 14)  rfl sc_law.nd (pi_list (pe_call (ok_l_all_words T) (hr.mono (by decide)) rfl T.g_l_all_words T.F_l_all_words.kp T.b_l_all_words .nil pass0 (pa_cons (pv 3) (pa_cons (pv 4) pa_nil)))) (blkOk_by (own := [("_law_one", 14)]) (N := ["_law_script", "_law_tape_here", "_law_strange", "_law_letters_here", "_law_most", "_law_word_here", "_law_watches_here", "_law_at", "_law_other", "_law_due", "_law_book", "_law_told_here", "_law_watch", "_law_rest", "_law_one"]) (sc := defScope s_law) (by decide +kernel)) (fun _ _ _ _ _ => (pg_name (i := 14) sc_law.nd rfl (.inl rfl))) (fun _ _ _ _ _ => pts_one (pt_val (pe_call (ok_l_told T) (hr.mono (by decide)) rfl T.g_l_told T.F_l_told.kp T.b_l_told .nil pass0 (pa_cons (pv 6) (pa_cons (pv 14) pa_nil))))) (fun _ _ _ _ _ => (pv 14))) pa_nil)))
  (pss_cons (ps_set (i := 10) sc_law.nd rfl (.inl rfl) (pe_make T.M_Book (ok_Book_init T) (hr.mono (by decide)) rfl T.c_Book T.b_Book_init .nil pass0 (pa_cons (pv 6) pa_nil)))
  (pss_cons (ps_set (i := 11) sc_law.nd rfl (.inl rfl) (pe_call (ok_told_words T) (hr.mono (by decide)) rfl T.g_told_words T.F_told_words.kp T.b_told_words .nil pass0 (pa_cons (pv 10) (pa_cons (pv 3) (pa_cons (pv 4) pa_nil)))))
  (pss_cons (ps_if (PW.pt (pw_or (pt_cmpR (r := rNeD K) (op_neD hr.units) (pv 11) (pv 9) (nomark _)) (pw_or1 (pt_not (pt_val (pe_callB (id := "isinstance") (r := rIsi K) call_isi (by rfl) T.n_isinstance (by decide +kernel) (pa_cons (pv 11) (pa_cons (pe_bltn (v := .ty "list") (u := .type "list") (by rfl) T.n_list (by decide +kernel) rfl) pa_nil))))))))
  (pss_one (ps_ret pe_bl))
  pss_nil)
  (pss_cons (ps_expr (pe_bm PySem.F.plainAttrs_list PySem.F.slot_list_append PySem.F.type_list_append mt_append (pv 11) (pa_cons pe_str pa_nil)))
  (pss_cons (ps_if (PW.pt (pw_or (pt_cmpR (r := rNeD K) (op_neD hr.units) (pe_call (ok_told_words T) (hr.mono (by decide)) rfl T.g_told_words T.F_told_words.kp T.b_told_words .nil pass0 (pa_cons (pv 10) (pa_cons (Re.pe_revS (pv 3)) (pa_cons (pv 4) pa_nil)))) (pv 9) (nomark _)) (pw_or1 (pt_cmpR (r := rNeD K) (op_neD hr.units) (pe_call (ok_told_words T) (hr.mono (by decide)) rfl T.g_told_words T.F_told_words.kp T.b_told_words .nil pass0 (pa_cons (pe_make T.M_Book (ok_Book_init T) (hr.mono (by decide)) rfl T.c_Book T.b_Book_init .nil pass0 (pa_cons (pe_revL (pv 6)) pa_nil)) (pa_cons (pv 3) (pa_cons (pv 4) pa_nil)))) (pv 9) (nomark _)))))
  (pss_one (ps_ret pe_bl))
  pss_nil)
  (pss_cons (ps_for PassesOwn.never rfl (pi_list (pe_slice (r := rSlL K) sl_list (pv 6) po_none (po_some pe_int))) (pg_name (i := 12) sc_law.nd rfl (.inr rfl))
  (pss_cons (ps_setLc (i := 13) (own := [("_law_one", 14)]) (g := gName 14)  rfl sc_law.nd rfl rfl (sw_true rfl rfl rfl (by decide +kernel)) (pi_list (pv 6)) (blkOk_by (own := [("_law_one", 14)]) (N := ["_law_script", "_law_tape_here", "_law_strange", "_law_letters_here", "_law_most", "_law_word_here", "_law_watches_here", "_law_at", "_law_other", "_law_due", "_law_book", "_law_told_here", "_law_watch", "_law_rest", "_law_one"]) (sc := defScope s_law) (by decide +kernel)) (fun _ _ _ _ _ => (pg_name (i := 14) sc_law.nd rfl (.inl rfl))) (fun _ _ _ _ _ => pts_one (pt_cmpR op_ne (pv 14) (pv 12) (nomark _))) (fun _ _ _ _ _ => (pv 14)))
  (pss_one (ps_if (PW.pt (pw_and (pt_val (pe_call (ok_l_told T) (hr.mono (by decide)) rfl T.g_l_told T.F_l_told.kp T.b_l_told .nil pass0 (pa_cons (pv 13) (pa_cons (pv 12) pa_nil)))) (pw_and1 (pt_cmpR (r := rNeD K) (op_neD hr.units) (pe_call (ok_told_words T) (hr.mono (by decide)) rfl T.g_told_words T.F_told_words.kp T.b_told_words .nil pass0 (pa_cons (pe_make T.M_Book (ok_Book_init T) (hr.mono (by decide)) rfl T.c_Book T.b_Book_init .nil pass0 (pa_cons (pv 13) pa_nil)) (pa_cons (pv 3) (pa_cons (pv 4) pa_nil)))) (pv 9) (nomark _)))))
  (pss_one (ps_ret pe_bl))
  pss_nil))))
  (pss_one (ps_ret (pe_cmpR (r := rEqD K) (op_eqD hr.units) (pe_call (ok_told_words T) (hr.mono (by decide)) rfl T.g_told_words T.F_told_words.kp T.b_told_words .nil pass0 (pa_cons (pv 10) (pa_cons (pv 3) (pa_cons (pv 4) pa_nil)))) (pv 9) (nomark _))))))))))))))))))), ?_⟩
    walk_at "rd"
    refine ⟨a, ns, rfl, hS, fun t c H1 tp1 s1 _ _ => ?_⟩
    walk_at "rd"
    refine pickR tp1 (by decide) (by decide) fun g H2 g0 g1 tp2 b2 => ?_
    walk_at "rd"
    refine ⟨t, c, rfl, tp2, fun L H3 hL L0 L1 Ln tp3 b3 => ?_⟩
    walk_at "go"
    refine pickR tp3 (by omega) (by omega) fun mm H4 m0 m1 tp4 b4 => ?_
    walk_at "rd"
    refine Rd.cut (fun σ H' => ∃ m : Nat, σ = [some (.ref a), some (.ref t), some (.bl (decide (g = 0))), some (.str L), some (.int (m : Nat)), none, none, none, none, none, none, none, none, none, none] ∧ 1 ≤ m ∧ m ≤ 6 ∧ Tape H' t c) ?_ ?_
    · have e0 : ((1 : Int) + mm) = (((1 + mm).toNat : Nat) : Int) := by omega
      walk_at "go"
      refine ite2 (fun q => ?_) (fun q => ?_)
      · walk_at "go"
        refine pickR tp4 (by decide) (by decide) fun r H5 r0 r1 tp5 b5 => ?_
        walk_at "go"
        refine ite2 (fun q => ?_) (fun q => ?_)
        · walk_at "go"
          exact ⟨6, rfl, by decide, by decide, tp5⟩
        · walk_at "go"
          exact ⟨(1 + mm).toNat, by rw [← e0]; rfl, by omega, by omega, tp5⟩
      · walk_at "go"
        exact ⟨(1 + mm).toNat, by rw [← e0]; rfl, by omega, by omega, tp4⟩
    · clear tp1 tp2 tp3 tp4 b2 b3 b4
      rintro _ H5 ⟨m, rfl, m0, m1, tp5⟩
      walk_at "rd"
      refine ⟨t, c, L, 1, 8, rfl, tp5, hL, L0, by omega, by decide, by decide, by decide, fun z H6 hz z0 z1 tp6 b6 => ?_⟩
      walk_at "rd"
      refine ⟨t, c, z, L, 8, rfl, tp6, hz, by omega, by omega, hL, L0, by omega, by decide, by decide, fun l ws H7 tp7 b7 nl gl Wt w8 => ?_⟩
      have ⟨lt, lc⟩ := tp6.new nl
      walk_at "rd"
      refine Rd.cut (fun σ H' => ∃ (ws : List Str) (o7 o8 : Option V), σ = [some (.ref a), some (.ref t), some (.bl (decide (g = 0))), some (.str L), some (.int (m : Nat)), some (.str z), some (.ref l), o7, o8, none, none, none, none, none, none] ∧ H' l = some (.lst (ws.map V.str)) ∧ Watches ws ∧ ws.length ≤ 8) ?_ ?_
      · walk_at "go"
        refine ite2 (fun q => ?_) (fun q => ?_)
        · walk_at "go"
          refine ite2 (fun q2 => ?_) (fun q2 => ?_)
          · walk_at "go"
            refine pickR tp7 (by omega) (by omega) fun r H8 r0 r1 tp8 b8 => ?_
            have gl8 := b8 _ _ lt gl
            have sl : r.toNat < ws.length := by omega
            have w1 := Wt.ok _ (List.getElem_mem sl)
            have l0 := w1.l0
            have l1 := w1.l1
            walk_at "go"
            refine Rd.ixL (.of gl8) (Rd.atI_of r0 (Rd.map_str sl)) ?_
            generalize ws[r.toNat] = w at w1 l0 l1
            walk_at "go"
            refine pickR tp8 (by decide) (by decide) fun r2 H9 r20 r21 tp9 b9 => ?_
            obtain ⟨ch, e, hc⟩ : ∃ ch, atI ("abcdefgh" : Str).cps.toList r2 = some ch ∧ ch ∈ Lt.Abc.cps.toList := by
              have l8 : ("abcdefgh" : Str).cps.toList.length = 8 := by decide +kernel
              have hi : r2.toNat < ("abcdefgh" : Str).cps.toList.length := by omega
              exact ⟨_, Rd.atI_of r20 (List.getElem?_eq_getElem hi), (by decide +kernel : ∀ c ∈ ("abcdefgh" : Str).cps.toList, c ∈ Lt.Abc.cps.toList) _ (List.getElem_mem hi)⟩
            refine Rd.ixS (by decide +kernel) e ?_
            have e1 := Lt.cut_from (z := w) (a := 1) (by decide) (by omega)
            have one : (⟨#[ch]⟩ : Str).length = 1 := rfl
            have la := Lt.len_app (cutS w (some 1) none) ⟨#[ch]⟩
            have ok2 : Lt.Wd 12 (cutS w (some 1) none ++ ⟨#[ch]⟩) := ⟨(w1.ok.cut _ _).app (Lt.Let.one hc), by omega, by omega⟩
            refine Rd.addS (by rw [sizeLine_eq]; omega) ?_
            generalize cutS w (some 1) none ++ (⟨#[ch]⟩ : Str) = y at ok2
            have gl9 := b9 _ _ lt gl8
            walk_at "go"
            refine ite2 (fun q3 => ?_) (fun q3 => ?_)
            · walk_at "go"
              exact ⟨ws, _, _, rfl, gl9, Wt, by omega⟩
            · walk_at "go"
              refine Rd.setG gl9 (Rd.ixN_of r0 (by rw [List.length_map]; omega)) (Rd.map_set V.str ws r.toNat y) fun G g off => ?_
              walk_at "go"
              refine ⟨ws.set r.toNat y, _, _, rfl, g, ⟨set_nodup Wt.nd q3, by rw [List.length_set]; omega, fun x hx => ?_⟩, by rw [List.length_set]; omega⟩
              rcases List.mem_or_eq_of_mem_set hx with h | h
              · exact Wt.ok x h
              · rw [h]
                exact ok2
          · walk_at "go"
            exact ⟨ws, _, _, rfl, gl, Wt, by omega⟩
        · walk_at "go"
          exact ⟨ws, _, _, rfl, gl, Wt, by omega⟩
      · clear tp5 tp6 tp7 b6 b7 gl Wt w8
        rintro _ H8 ⟨ws, o7, o8, rfl, gl, Wt, w8⟩
        have sm : ∀ W ∈ ws, 1 ≤ W.length ∧ W.length ≤ 1000 := fun W m => ⟨(Wt.ok W m).l0, by have := (Wt.ok W m).l1; omega⟩
        have c0 := allOf_count L1 m m1
        walk_at "go"
        refine ⟨L, m, rfl, L0, L1, m0, m1, fun A H9 s9 nA gA => ?_⟩
        have gl9 := s9 _ _ gl
        clear gl s9 nA
        walk_at "go"
        refine ⟨⟨_, .of gA⟩, Rd.lcS walk_list (fun _ s => .of (s _ _ gA)) (fun D j acc Hc => acc = (toldIn ws ((allOf L m).take j)).map V.str) (fun _ _ _ _ _ => rfl) ?_ ?_⟩
        · rintro D2 j x H4 _ acc nD2 hj hD2 sm2 rfl ⟨rfl, hx⟩
          obtain ⟨w, hw, rfl⟩ := Rd.map_strG hx
          have wlen := allOf_len w (List.mem_of_getElem? hw)
          have few := told_few ws ((allOf L m).take j)
          rw [List.length_take] at few
          walk_at "go"
          refine ⟨rfl, ?_⟩
          walk_at "go"
          refine ⟨l, ws, w, rfl, .of (sm2 _ _ gl9), sm, by omega, by omega, fun b1 H5 s5 e => ?_⟩
          walk_at "go"
          cases b1 with
          | true =>
            walk_at "go"
            refine Rd.lcPush (s5 _ _ hD2) nD2 (sm2.trans s5) (by rw [List.length_map, sizeLine_eq]; omega) fun G g off => ?_
            rw [told_step hw, told_yes (e.mp rfl), List.map_append]
            rfl
          | false =>
            walk_at "go"
            refine ⟨_, s5 _ _ hD2, sm2.trans s5, ?_⟩
            dsimp only
            rw [told_step hw, told_no (fun q => by simpa using e.mpr q), List.append_nil]
        · rintro D2 acc H4 nD2 hD2 sm2 rfl
          rw [List.length_map, List.take_length] at hD2
          have few := told_few ws (allOf L m)
          have gl4 := sm2 _ _ gl9
          clear sm2 nD2 gl9 gA
          walk_at "go"
          refine ⟨D2, toldIn ws (allOf L m), rfl, .of hD2, by omega, fun z mz => ?_, fun due H5 s5 nd gd => ?_⟩
          · have := allOf_len z (List.mem_filter.mp (show z ∈ (allOf L m).filter _ from mz)).1
            omega
          · have gl5 := s5 _ _ gl4
            clear s5 nd gl4 hD2
            walk_at "go"
            refine Rd.mk fun x dx G2 nx ndx ne gx s2 off2 => ?_
            refine ⟨x, l, ws, rfl, ⟨dx, gx⟩, .inl (.of (s2 _ _ gl5)), Wt, fun G3 hB b3 => ⟨rfl, ?_⟩⟩
            have s13 : Same H5 G3 := fun c o e => b3 c o (ne_of_none e nx) (s2 _ _ e)
            have gd3 := s13 _ _ gd
            have gl3 := s13 _ _ gl5
            have okD : ∀ z ∈ inOrder (toldIn ws (allOf L m)), PyData.strOk z = true := fun z mz => (allOf_let hL z (List.mem_filter.mp (show z ∈ (allOf L m).filter _ from List.mem_mergeSort.mp mz)).1).ok
            have lenD : (inOrder (toldIn ws (allOf L m))).length ≤ 4374 := by
              rw [show (inOrder (toldIn ws (allOf L m))).length = (toldIn ws (allOf L m)).length from List.length_mergeSort _]
              omega
            clear s13 b3 s2 off2 gd gl5 gx nx ndx
            generalize hDue : inOrder (toldIn ws (allOf L m)) = Due at gd3 okD lenD
            walk_at "go"
            refine ⟨x, L, m, ws, rfl, hB, Wt, hL, L0, L1, Ln, m0, m1, fun p H6 s6 np gp => ?_⟩
            rw [hDue] at gp
            walk_at "go"
            refine Rd.neStrs (.of gp) (.of (s6 _ _ gd3)) okD ?_
            walk_at "go"
            refine Rd.isi (Ru.ty_L (.of gp)) (by decide +kernel : kitB "list" "list" = some true) ?_
            walk_at "go"
            refine Rd.app gp (by rw [List.length_map, sizeLine_eq]; omega) fun G7 g7 off7 => ?_
            have s37 : Same G3 G7 := Rd.same_off s6 np off7
            clear s6 np gp g7 off7
            walk_at "go"
            have Ll : L.length ≤ sizeLine := by rw [sizeLine_eq]; omega
            refine Re.revT ?_
            walk_at "go"
            refine ⟨Ll, ?_⟩
            walk_at "go"
            refine ⟨x, Re.revS L, m, ws, rfl, hB.same s37, Wt, rev_let hL, by rw [rev_len]; exact L0, by rw [rev_len]; exact L1, rev_nodup Ln, m0, m1, fun p2 H8 s8 np2 gp2 => ?_⟩
            rw [rev_due, hDue] at gp2
            have s38 := s37.trans s8
            clear s37 s8 np2
            walk_at "go"
            refine Rd.neStrs (.of gp2) (.of (s38 _ _ gd3)) okD ?_
            clear gp2
            walk_at "go"
            refine ⟨_, _, rfl, .of (s38 _ _ gl3), Rd.new fun q9 H9 nq9 gq9 s9 => ?_⟩
            rw [← List.map_reverse] at gq9
            have s39 := s38.trans s9
            clear s38 s9 nq9
            walk_at "go"
            refine Rd.mk fun x2 dx2 G4 nx2 ndx2 ne2 gx2 s4 off4 => ?_
            refine ⟨x2, q9, ws.reverse, rfl, ⟨dx2, gx2⟩, .inl (.of (s4 _ _ gq9)), rev_watches Wt, fun G5 hB2 b5 => ⟨rfl, ?_⟩⟩
            have s35 : Same G3 G5 := fun c o e => b5 c o (ne_of_none (s39 _ _ e) nx2) (s4 _ _ (s39 _ _ e))
            clear s39 b5 s4 off4 gq9 gx2 nx2 ndx2
            walk_at "go"
            refine ⟨x2, L, m, ws.reverse, rfl, hB2, rev_watches Wt, hL, L0, L1, Ln, m0, m1, fun p3 H10 s10 np3 gp3 => ?_⟩
            rw [rev_told, hDue] at gp3
            have s310 := s35.trans s10
            clear s35 s10 np3 hB2
            walk_at "go"
            refine Rd.neStrs (.of gp3) (.of (s310 _ _ gd3)) okD ?_
            clear gp3
            walk_at "go"
            refine Rd.forS ?_
            walk_at "go"
            refine Rd.slL (.of (s310 _ _ gl3)) (Rd.new fun q4 H11 nq4 gq4 s11 => ?_)
            rw [cut_toI (by decide), ← List.map_take] at gq4
            have hB11 := hB.same (s310.trans s11)
            have gl11 := (s310.trans s11) _ _ gl3
            have gd11 := (s310.trans s11) _ _ gd3
            clear s310 s11 nq4 gl3 gd3 hB
            walk_at "go"
            refine ⟨⟨_, .of gq4⟩, for_list (K := K) (a := q4) (xs := (ws.take (3 : Int).toNat).map V.str) (fun i σ H' => ∃ (o12 o13 : Option V), σ = [some (.ref a), some (.ref t), some (.bl (decide (g = 0))), some (.str L), some (.int (m : Nat)), some (.str z), some (.ref l), o7, o8, some (.ref due), some (.ref x), some (.ref p), o12, o13, none] ∧ Same H11 H')
              ⟨_, _, rfl, Same.refl _⟩ (fun i σ H' _ ⟨_, _, _, s⟩ => .of (s _ _ gq4)) ?_ ?_⟩
            · rintro i xv _ H12 hx ⟨o12, o13, rfl, s12⟩
              obtain ⟨W, hW, rfl⟩ := Rd.map_strG hx
              have Wm : W ∈ ws := List.mem_of_mem_take (List.mem_of_getElem? hW)
              have WL := Wt.ok W Wm
              have w1 := WL.l1
              have gl12 := s12 _ _ gl11
              walk_at "go"
              refine ⟨⟨_, .of gl12⟩, Rd.lcS walk_list (fun _ s => .of (s _ _ gl12)) (fun D i acc Hc => acc = ((ws.take i).filter fun V => !decide (V = W)).map V.str) (fun _ _ _ _ _ => rfl) ?_ ?_⟩
              · rintro D i x9 G1 _ acc nD hi hD sm9 rfl ⟨rfl, hx9⟩
                obtain ⟨y, hy, rfl⟩ := Rd.map_strG hx9
                walk_at "go"
                refine ⟨rfl, ?_⟩
                walk_at "go"
                refine ite2 (fun q => ?_) (fun q => ?_)
                · walk_at "go"
                  refine ⟨_, hD, sm9, ?_⟩
                  dsimp only
                  rw [Rd.take_snoc hy, List.filter_append]
                  simp [q]
                · walk_at "go"
                  refine Rd.lcPush hD nD sm9 ?_ fun G2 g2 off2 => ?_
                  · rw [List.length_map, sizeLine_eq]
                    have := List.length_filter_le (fun V => !decide (V = W)) (ws.take i)
                    rw [List.length_take] at this
                    omega
                  · rw [Rd.take_snoc hy, List.filter_append]
                    simp [q]
              · rintro D acc G1 nD hD sm9 rfl
                rw [List.length_map, List.take_length] at hD
                replace hD : G1 D = some (.lst ((butW ws W).map V.str)) := hD
                have Bw := but_watches Wt W
                have bl := Bw.l1
                walk_at "go"
                refine ⟨D, butW ws W, W, rfl, .of hD, fun V mV => ⟨(Bw.ok V mV).l0, by have := (Bw.ok V mV).l1; omega⟩, by omega, by omega, fun b1 H13 s13 e => ?_⟩
                have s1113 := (s12.trans sm9).trans s13
                have hD13 := s13 _ _ hD
                clear s12 sm9 s13 hD nD
                walk_at "go"
                cases b1 with
                | false =>
                  walk_at "go"
                  exact ⟨_, _, rfl, s1113⟩
                | true =>
                  walk_at "go"
                  refine Rd.mk fun x6 dx6 G6 nx6 ndx6 ne6 gx6 s6 off6 => ?_
                  refine ⟨x6, D, butW ws W, rfl, ⟨dx6, gx6⟩, .inl (.of (s6 _ _ hD13)), Bw, fun G7 hB7 b7 => ⟨rfl, ?_⟩⟩
                  have s117 : Same H11 G7 := fun c o e => b7 c o (ne_of_none (s1113 _ _ e) nx6) (s6 _ _ (s1113 _ _ e))
                  walk_at "go"
                  refine ⟨x6, L, m, butW ws W, rfl, hB7, Bw, hL, L0, L1, Ln, m0, m1, fun p6 H16 s16 np6 gp6 => ?_⟩
                  rw [rest_due (e.mp rfl), hDue] at gp6
                  walk_at "go"
                  refine Rd.neStrs (.of gp6) (.of (s16 _ _ (s117 _ _ gd11))) okD ?_
                  walk_at "go"
                  exact ⟨_, _, rfl, s117.trans s16⟩
            · rintro _ H12 ⟨o12, o13, rfl, s12⟩
              walk_at "go"
              refine ⟨x, L, m, ws, rfl, hB11.same s12, Wt, hL, L0, L1, Ln, m0, m1, fun p6 H16 s16 np6 gp6 => ?_⟩
              rw [hDue] at gp6
              walk_at "go"
              refine Rd.eqStrs (.of gp6) (.of (s16 _ _ (s12 _ _ gd11))) okD ?_
              exact k _

end
end W

namespace W
open PySem PySem.Spec PyProof.Rows L2
theorem all_mk {l : PySem.W.OpenLaw} {w : World} {K : PySem.W.Frag} {h : Heap} {mg : Str → Option Value} {fa : Addr} (X : K.In h) (G : h.Ns mainGlobals mg) (hfa : mg "law" = some (.ref fa))
    {f1 f2 f3 f4 f5 f6 f7 f8 f9 f10 f11 f12 f13 f14 f15 f16 f17 f18 f19 f20 f21 f22 f23 C0 : Addr} {od1 an1 od2 an2 od3 an3 od4 an4 od5 an5 od6 an6 od7 an7 od8 an8 od9 an9 od10 an10 od11 an11 od12 an12 od13 an13 od14 an14 od15 an15 od16 an16 od17 an17 od18 an18 od19 an19 od20 an20 od21 an21 od22 an22 od23 an23 : Option Addr} {sl1 sl2 sl3 sl4 sl5 sl6 sl7 sl8 sl9 sl10 sl11 sl12 sl13 sl14 sl15 sl16 sl17 sl18 sl19 sl20 sl21 sl22 sl23 : Array (Option Value)} {oc1 kV1 dc1 pm1 cd1 ct1 oc2 kV2 dc2 pm2 cd2 ct2 oc3 kV3 dc3 pm3 cd3 ct3 oc4 kV4 dc4 pm4 cd4 ct4 oc5 kV5 dc5 pm5 cd5 ct5 oc6 kV6 dc6 pm6 cd6 ct6 oc7 kV7 dc7 pm7 cd7 ct7 oc8 kV8 dc8 pm8 cd8 ct8 oc9 kV9 dc9 pm9 cd9 ct9 oc10 kV10 dc10 pm10 cd10 ct10 oc11 kV11 dc11 pm11 cd11 ct11 oc12 kV12 dc12 pm12 cd12 ct12 oc13 kV13 dc13 pm13 cd13 ct13 oc14 kV14 dc14 pm14 cd14 ct14 oc15 kV15 dc15 pm15 cd15 ct15 oc16 kV16 dc16 pm16 cd16 ct16 oc17 kV17 dc17 pm17 cd17 ct17 oc18 kV18 dc18 pm18 cd18 ct18 oc19 kV19 dc19 pm19 cd19 ct19 oc20 kV20 dc20 pm20 cd20 ct20 oc21 kV21 dc21 pm21 cd21 ct21 oc22 kV22 dc22 pm22 cd22 ct22 oc23 kV23 dc23 pm23 cd23 ct23 : Value}
    (u0 : PySem.W.nsIn K mainGlobals "Book" = some (some (.ref C0)))
    (pg0 : PySem.W.plainGet K C0 Str.empty = true) (hd0 : PySem.W.hasDictIn K C0 = true) (po0 : PySem.W.plainOver K C0 = true) (sa0 : PySem.W.findIn K (.ref C0) "__setattr__" = some (some (.builtin "object.__setattr__")))
    (wc0 : PySem.W.findIn K (.ref C0) "__class__" = some (some (.builtin "object.__class__"))) (wm0 : PySem.W.mroIn K C0 (.type "object") = some true)
    (wn0 : PySem.W.specialIn K (.builtin "object.__class__") "__get__" = some (some (.builtin "getset_descriptor.__get__"))) (wt0 : PySem.W.takesIn K (.builtin "object.__class__") = some true)
    (na0_0 : PySem.W.findIn K (.ref C0) "watches" = some none)
    (a1 : PySem.W.nsIn K mainGlobals "is_integer" = some (some (.ref f1)))
    (l1 : K.lookup f1 = some ⟨oc1, od1, .func (PySem.W.fnOf "is_integer" "is_integer" (defArgs s_is_integer) (defBody s_is_integer) (defScope s_is_integer) .none kV1 dc1 pm1 an1 cd1 ct1), sl1⟩) (c1 : PySem.W.codeIn K cd1 "is_integer" = true) (k1 : PySem.W.keepIn K (.ref f1) = true)
    (a2 : PySem.W.nsIn K mainGlobals "is_letters" = some (some (.ref f2)))
    (l2 : K.lookup f2 = some ⟨oc2, od2, .func (PySem.W.fnOf "is_letters" "is_letters" (defArgs s_is_letters) (defBody s_is_letters) (defScope s_is_letters) .none kV2 dc2 pm2 an2 cd2 ct2), sl2⟩) (c2 : PySem.W.codeIn K cd2 "is_letters" = true) (k2 : PySem.W.keepIn K (.ref f2) = true)
    (a3 : PySem.W.nsIn K mainGlobals "is_watch" = some (some (.ref f3)))
    (l3 : K.lookup f3 = some ⟨oc3, od3, .func (PySem.W.fnOf "is_watch" "is_watch" (defArgs s_is_watch) (defBody s_is_watch) (defScope s_is_watch) .none kV3 dc3 pm3 an3 cd3 ct3), sl3⟩) (c3 : PySem.W.codeIn K cd3 "is_watch" = true) (k3 : PySem.W.keepIn K (.ref f3) = true)
    (a4 : PySem.W.nsIn K mainGlobals "text_key" = some (some (.ref f4)))
    (l4 : K.lookup f4 = some ⟨oc4, od4, .func (PySem.W.fnOf "text_key" "text_key" (defArgs s_text_key) (defBody s_text_key) (defScope s_text_key) .none kV4 dc4 pm4 an4 cd4 ct4), sl4⟩) (c4 : PySem.W.codeIn K cd4 "text_key" = true) (k4 : PySem.W.keepIn K (.ref f4) = true)
    (a5 : PySem.W.nsIn K mainGlobals "in_order" = some (some (.ref f5)))
    (l5 : K.lookup f5 = some ⟨oc5, od5, .func (PySem.W.fnOf "in_order" "in_order" (defArgs s_in_order) (defBody s_in_order) (defScope s_in_order) .none kV5 dc5 pm5 an5 cd5 ct5), sl5⟩) (c5 : PySem.W.codeIn K cd5 "in_order" = true) (k5 : PySem.W.keepIn K (.ref f5) = true)
    (a6 : PySem.W.findIn K (.ref C0) "__init__" = some (some (.ref f6))) (i6 : PySem.W.isFn K (.ref f6) = true)
    (mk0 : PySem.W.makesIn K C0 = true) (kc0 : PySem.W.keepIn K (.ref C0) = true)
    (l6 : K.lookup f6 = some ⟨oc6, od6, .func (PySem.W.fnOf "__init__" "Book.__init__" (defArgs s_Book_init) (defBody s_Book_init) (defScope s_Book_init) .none kV6 dc6 pm6 an6 cd6 ct6), sl6⟩) (c6 : PySem.W.codeIn K cd6 "Book.__init__" = true) (k6 : PySem.W.keepIn K (.ref f6) = true)
    (a7 : PySem.W.nsIn K mainGlobals "check_book" = some (some (.ref f7)))
    (l7 : K.lookup f7 = some ⟨oc7, od7, .func (PySem.W.fnOf "check_book" "check_book" (defArgs s_check_book) (defBody s_check_book) (defScope s_check_book) .none kV7 dc7 pm7 an7 cd7 ct7), sl7⟩) (c7 : PySem.W.codeIn K cd7 "check_book" = true) (k7 : PySem.W.keepIn K (.ref f7) = true)
    (a8 : PySem.W.nsIn K mainGlobals "links_of" = some (some (.ref f8)))
    (l8 : K.lookup f8 = some ⟨oc8, od8, .func (PySem.W.fnOf "links_of" "links_of" (defArgs s_links_of) (defBody s_links_of) (defScope s_links_of) .none kV8 dc8 pm8 an8 cd8 ct8), sl8⟩) (c8 : PySem.W.codeIn K cd8 "links_of" = true) (k8 : PySem.W.keepIn K (.ref f8) = true)
    (a9 : PySem.W.nsIn K mainGlobals "grown" = some (some (.ref f9)))
    (l9 : K.lookup f9 = some ⟨oc9, od9, .func (PySem.W.fnOf "grown" "grown" (defArgs s_grown) (defBody s_grown) (defScope s_grown) .none kV9 dc9 pm9 an9 cd9 ct9), sl9⟩) (c9 : PySem.W.codeIn K cd9 "grown" = true) (k9 : PySem.W.keepIn K (.ref f9) = true)
    (a10 : PySem.W.nsIn K mainGlobals "leads" = some (some (.ref f10)))
    (l10 : K.lookup f10 = some ⟨oc10, od10, .func (PySem.W.fnOf "leads" "leads" (defArgs s_leads) (defBody s_leads) (defScope s_leads) .none kV10 dc10 pm10 an10 cd10 ct10), sl10⟩) (c10 : PySem.W.codeIn K cd10 "leads" = true) (k10 : PySem.W.keepIn K (.ref f10) = true)
    (a11 : PySem.W.nsIn K mainGlobals "told_words" = some (some (.ref f11)))
    (l11 : K.lookup f11 = some ⟨oc11, od11, .func (PySem.W.fnOf "told_words" "told_words" (defArgs s_told_words) (defBody s_told_words) (defScope s_told_words) .none kV11 dc11 pm11 an11 cd11 ct11), sl11⟩) (c11 : PySem.W.codeIn K cd11 "told_words" = true) (k11 : PySem.W.keepIn K (.ref f11) = true)
    (a12 : PySem.W.nsIn K mainGlobals "_law_tape" = some (some (.ref f12)))
    (l12 : K.lookup f12 = some ⟨oc12, od12, .func (PySem.W.fnOf "_law_tape" "_law_tape" (defArgs s_l_tape) (defBody s_l_tape) (defScope s_l_tape) .none kV12 dc12 pm12 an12 cd12 ct12), sl12⟩) (c12 : PySem.W.codeIn K cd12 "_law_tape" = true) (k12 : PySem.W.keepIn K (.ref f12) = true)
    (a13 : PySem.W.nsIn K mainGlobals "_law_pick" = some (some (.ref f13)))
    (l13 : K.lookup f13 = some ⟨oc13, od13, .func (PySem.W.fnOf "_law_pick" "_law_pick" (defArgs s_l_pick) (defBody s_l_pick) (defScope s_l_pick) .none kV13 dc13 pm13 an13 cd13 ct13), sl13⟩) (c13 : PySem.W.codeIn K cd13 "_law_pick" = true) (k13 : PySem.W.keepIn K (.ref f13) = true)
    (a14 : PySem.W.nsIn K mainGlobals "_law_letters" = some (some (.ref f14)))
    (l14 : K.lookup f14 = some ⟨oc14, od14, .func (PySem.W.fnOf "_law_letters" "_law_letters" (defArgs s_l_letters) (defBody s_l_letters) (defScope s_l_letters) .none kV14 dc14 pm14 an14 cd14 ct14), sl14⟩) (c14 : PySem.W.codeIn K cd14 "_law_letters" = true) (k14 : PySem.W.keepIn K (.ref f14) = true)
    (a15 : PySem.W.nsIn K mainGlobals "_law_word" = some (some (.ref f15)))
    (l15 : K.lookup f15 = some ⟨oc15, od15, .func (PySem.W.fnOf "_law_word" "_law_word" (defArgs s_l_word) (defBody s_l_word) (defScope s_l_word) .none kV15 dc15 pm15 an15 cd15 ct15), sl15⟩) (c15 : PySem.W.codeIn K cd15 "_law_word" = true) (k15 : PySem.W.keepIn K (.ref f15) = true)
    (a16 : PySem.W.nsIn K mainGlobals "_law_piece" = some (some (.ref f16)))
    (l16 : K.lookup f16 = some ⟨oc16, od16, .func (PySem.W.fnOf "_law_piece" "_law_piece" (defArgs s_l_piece) (defBody s_l_piece) (defScope s_l_piece) .none kV16 dc16 pm16 an16 cd16 ct16), sl16⟩) (c16 : PySem.W.codeIn K cd16 "_law_piece" = true) (k16 : PySem.W.keepIn K (.ref f16) = true)
    (a17 : PySem.W.nsIn K mainGlobals "_law_pathed" = some (some (.ref f17)))
    (l17 : K.lookup f17 = some ⟨oc17, od17, .func (PySem.W.fnOf "_law_pathed" "_law_pathed" (defArgs s_l_pathed) (defBody s_l_pathed) (defScope s_l_pathed) .none kV17 dc17 pm17 an17 cd17 ct17), sl17⟩) (c17 : PySem.W.codeIn K cd17 "_law_pathed" = true) (k17 : PySem.W.keepIn K (.ref f17) = true)
    (a18 : PySem.W.nsIn K mainGlobals "_law_watches" = some (some (.ref f18)))
    (l18 : K.lookup f18 = some ⟨oc18, od18, .func (PySem.W.fnOf "_law_watches" "_law_watches" (defArgs s_l_watches) (defBody s_l_watches) (defScope s_l_watches) .none kV18 dc18 pm18 an18 cd18 ct18), sl18⟩) (c18 : PySem.W.codeIn K cd18 "_law_watches" = true) (k18 : PySem.W.keepIn K (.ref f18) = true)
    (a19 : PySem.W.nsIn K mainGlobals "_law_marks" = some (some (.ref f19)))
    (l19 : K.lookup f19 = some ⟨oc19, od19, .func (PySem.W.fnOf "_law_marks" "_law_marks" (defArgs s_l_marks) (defBody s_l_marks) (defScope s_l_marks) .none kV19 dc19 pm19 an19 cd19 ct19), sl19⟩) (c19 : PySem.W.codeIn K cd19 "_law_marks" = true) (k19 : PySem.W.keepIn K (.ref f19) = true)
    (a20 : PySem.W.nsIn K mainGlobals "_law_told" = some (some (.ref f20)))
    (l20 : K.lookup f20 = some ⟨oc20, od20, .func (PySem.W.fnOf "_law_told" "_law_told" (defArgs s_l_told) (defBody s_l_told) (defScope s_l_told) .none kV20 dc20 pm20 an20 cd20 ct20), sl20⟩) (c20 : PySem.W.codeIn K cd20 "_law_told" = true) (k20 : PySem.W.keepIn K (.ref f20) = true)
    (a21 : PySem.W.nsIn K mainGlobals "_law_in_order" = some (some (.ref f21)))
    (l21 : K.lookup f21 = some ⟨oc21, od21, .func (PySem.W.fnOf "_law_in_order" "_law_in_order" (defArgs s_l_in_order) (defBody s_l_in_order) (defScope s_l_in_order) .none kV21 dc21 pm21 an21 cd21 ct21), sl21⟩) (c21 : PySem.W.codeIn K cd21 "_law_in_order" = true) (k21 : PySem.W.keepIn K (.ref f21) = true)
    (a22 : PySem.W.nsIn K mainGlobals "_law_all_words" = some (some (.ref f22)))
    (l22 : K.lookup f22 = some ⟨oc22, od22, .func (PySem.W.fnOf "_law_all_words" "_law_all_words" (defArgs s_l_all_words) (defBody s_l_all_words) (defScope s_l_all_words) .none kV22 dc22 pm22 an22 cd22 ct22), sl22⟩) (c22 : PySem.W.codeIn K cd22 "_law_all_words" = true) (k22 : PySem.W.keepIn K (.ref f22) = true)
    (a23 : PySem.W.nsIn K mainGlobals "law" = some (some (.ref f23)))
    (l23 : K.lookup f23 = some ⟨oc23, od23, .func (PySem.W.fnOf "law" "law" (defArgs s_law) (defBody s_law) (defScope s_law) .none kV23 dc23 pm23 an23 cd23 ct23), sl23⟩) (c23 : PySem.W.codeIn K cd23 "law" = true) (k23 : PySem.W.keepIn K (.ref f23) = true)
    (z0 : PySem.W.nsIn K mainGlobals "isinstance" = some none)
    (z1 : PySem.W.nsIn K mainGlobals "int" = some none)
    (z2 : PySem.W.nsIn K mainGlobals "bool" = some none)
    (z3 : PySem.W.nsIn K mainGlobals "str" = some none)
    (z4 : PySem.W.nsIn K mainGlobals "all" = some none)
    (z5 : PySem.W.nsIn K mainGlobals "len" = some none)
    (z6 : PySem.W.nsIn K mainGlobals "sorted" = some none)
    (z7 : PySem.W.nsIn K mainGlobals "enumerate" = some none)
    (z8 : PySem.W.nsIn K mainGlobals "tuple" = some none)
    (z9 : PySem.W.nsIn K mainGlobals "list" = some none)
    (z10 : PySem.W.nsIn K mainGlobals "range" = some none)
    (z11 : PySem.W.nsIn K mainGlobals "set" = some none)
    (z12 : PySem.W.nsIn K mainGlobals "min" = some none)
    (z13 : PySem.W.nsIn K mainGlobals "max" = some none)
    {t0 : Tok} (y0 : PySem.W.nsIn K mainGlobals "LETTERS" = some (some (.str "abcdefghijklmnopqrstuvwxyz" t0)))
    {t1 : Tok} (y1 : PySem.W.nsIn K mainGlobals "MOST_WATCH" = some (some (.int 12 t1)))
    {t2 : Tok} (y2 : PySem.W.nsIn K mainGlobals "MOST_WATCHES" = some (some (.int 12 t2)))
    {t3 : Tok} (y3 : PySem.W.nsIn K mainGlobals "MOST_LETTERS" = some (some (.int 3 t3)))
    {t4 : Tok} (y4 : PySem.W.nsIn K mainGlobals "MOST_SIZE" = some (some (.int 6 t4)))
    : ∃ fd : FuncData, (∀ (s : Shared) (v : Value), BindsTo s fd ⟨[v], []⟩ [("_law_script", v)]) ∧ ∀ base : Heap, K.In base → base.Ns mainGlobals mg → FnOk l.prog w K mg base CX0 6 fa fd ["_law_script"] (sp_law K) := by
  have e := hfa.symm.trans (PySem.W.mg_of X G a23)
  cases e
  have F1 := fun_mk (st := s_is_integer) l1 c1 k1
  have F2 := fun_mk (st := s_is_letters) l2 c2 k2
  have F3 := fun_mk (st := s_is_watch) l3 c3 k3
  have F4 := fun_mk (st := s_text_key) l4 c4 k4
  have F5 := fun_mk (st := s_in_order) l5 c5 k5
  have F6 := fun_mk (st := s_Book_init) l6 c6 k6
  have F7 := fun_mk (st := s_check_book) l7 c7 k7
  have F8 := fun_mk (st := s_links_of) l8 c8 k8
  have F9 := fun_mk (st := s_grown) l9 c9 k9
  have F10 := fun_mk (st := s_leads) l10 c10 k10
  have F11 := fun_mk (st := s_told_words) l11 c11 k11
  have F12 := fun_mk (st := s_l_tape) l12 c12 k12
  have F13 := fun_mk (st := s_l_pick) l13 c13 k13
  have F14 := fun_mk (st := s_l_letters) l14 c14 k14
  have F15 := fun_mk (st := s_l_word) l15 c15 k15
  have F16 := fun_mk (st := s_l_piece) l16 c16 k16
  have F17 := fun_mk (st := s_l_pathed) l17 c17 k17
  have F18 := fun_mk (st := s_l_watches) l18 c18 k18
  have F19 := fun_mk (st := s_l_marks) l19 c19 k19
  have F20 := fun_mk (st := s_l_told) l20 c20 k20
  have F21 := fun_mk (st := s_l_in_order) l21 c21 k21
  have F22 := fun_mk (st := s_l_all_words) l22 c22 k22
  have F23 := fun_mk (st := s_law) l23 c23 k23
  let T : Txt K mg := {
    C_Book := C0, c_Book := PySem.W.mg_of X G u0,
    cl_Book := ⟨pg0, hd0, po0, sa0⟩, ty_Book := ⟨wc0, wn0, wt0, wm0, kit_self⟩,
    na_Book_watches := na0_0,
    f_is_integer := f1, fd_is_integer := _, F_is_integer := F1, g_is_integer := PySem.W.mg_of X G a1, b_is_integer := F1.binds (ps := ["value"]) fun _ _ _ _ _ _ us hl => match us, hl with | [_], _ => rfl,
    f_is_letters := f2, fd_is_letters := _, F_is_letters := F2, g_is_letters := PySem.W.mg_of X G a2, b_is_letters := F2.binds (ps := ["value"]) fun _ _ _ _ _ _ us hl => match us, hl with | [_], _ => rfl,
    f_is_watch := f3, fd_is_watch := _, F_is_watch := F3, g_is_watch := PySem.W.mg_of X G a3, b_is_watch := F3.binds (ps := ["thing"]) fun _ _ _ _ _ _ us hl => match us, hl with | [_], _ => rfl,
    f_text_key := f4, fd_text_key := _, F_text_key := F4, g_text_key := PySem.W.mg_of X G a4, b_text_key := F4.binds (ps := ["text"]) fun _ _ _ _ _ _ us hl => match us, hl with | [_], _ => rfl,
    f_in_order := f5, fd_in_order := _, F_in_order := F5, g_in_order := PySem.W.mg_of X G a5, b_in_order := F5.binds (ps := ["texts"]) fun _ _ _ _ _ _ us hl => match us, hl with | [_], _ => rfl,
    f_Book_init := f6, fd_Book_init := _, F_Book_init := F6, M_Book := ⟨mk0, a6, i6, kc0⟩, b_Book_init := F6.binds (ps := ["self", "watches"]) fun _ _ _ _ _ _ us hl => match us, hl with | [_, _], _ => rfl,
    f_check_book := f7, fd_check_book := _, F_check_book := F7, g_check_book := PySem.W.mg_of X G a7, b_check_book := F7.binds (ps := ["book"]) fun _ _ _ _ _ _ us hl => match us, hl with | [_], _ => rfl,
    f_links_of := f8, fd_links_of := _, F_links_of := F8, g_links_of := PySem.W.mg_of X G a8, b_links_of := F8.binds (ps := ["watches", "word"]) fun _ _ _ _ _ _ us hl => match us, hl with | [_, _], _ => rfl,
    f_grown := f9, fd_grown := _, F_grown := F9, g_grown := PySem.W.mg_of X G a9, b_grown := F9.binds (ps := ["links", "spots"]) fun _ _ _ _ _ _ us hl => match us, hl with | [_, _], _ => rfl,
    f_leads := f10, fd_leads := _, F_leads := F10, g_leads := PySem.W.mg_of X G a10, b_leads := F10.binds (ps := ["watches", "word"]) fun _ _ _ _ _ _ us hl => match us, hl with | [_, _], _ => rfl,
    f_told_words := f11, fd_told_words := _, F_told_words := F11, g_told_words := PySem.W.mg_of X G a11, b_told_words := F11.binds (ps := ["book", "letters", "most"]) fun _ _ _ _ _ _ us hl => match us, hl with | [_, _, _], _ => rfl,
    f_l_tape := f12, fd_l_tape := _, F_l_tape := F12, g_l_tape := PySem.W.mg_of X G a12, b_l_tape := F12.binds (ps := ["_law_script"]) fun _ _ _ _ _ _ us hl => match us, hl with | [_], _ => rfl,
    f_l_pick := f13, fd_l_pick := _, F_l_pick := F13, g_l_pick := PySem.W.mg_of X G a13, b_l_pick := F13.binds (ps := ["_law_tape_here", "_law_size"]) fun _ _ _ _ _ _ us hl => match us, hl with | [_, _], _ => rfl,
    f_l_letters := f14, fd_l_letters := _, F_l_letters := F14, g_l_letters := PySem.W.mg_of X G a14, b_l_letters := F14.binds (ps := ["_law_tape_here"]) fun _ _ _ _ _ _ us hl => match us, hl with | [_], _ => rfl,
    f_l_word := f15, fd_l_word := _, F_l_word := F15, g_l_word := PySem.W.mg_of X G a15, b_l_word := F15.binds (ps := ["_law_tape_here", "_law_letters_here", "_law_least", "_law_most"]) fun _ _ _ _ _ _ us hl => match us, hl with | [_, _, _, _], _ => rfl,
    f_l_piece := f16, fd_l_piece := _, F_l_piece := F16, g_l_piece := PySem.W.mg_of X G a16, b_l_piece := F16.binds (ps := ["_law_tape_here", "_law_word_here"]) fun _ _ _ _ _ _ us hl => match us, hl with | [_, _], _ => rfl,
    f_l_pathed := f17, fd_l_pathed := _, F_l_pathed := F17, g_l_pathed := PySem.W.mg_of X G a17, b_l_pathed := F17.binds (ps := ["_law_tape_here", "_law_word_here"]) fun _ _ _ _ _ _ us hl => match us, hl with | [_, _], _ => rfl,
    f_l_watches := f18, fd_l_watches := _, F_l_watches := F18, g_l_watches := PySem.W.mg_of X G a18, b_l_watches := F18.binds (ps := ["_law_tape_here", "_law_word_here", "_law_letters_here", "_law_most"]) fun _ _ _ _ _ _ us hl => match us, hl with | [_, _, _, _], _ => rfl,
    f_l_marks := f19, fd_l_marks := _, F_l_marks := F19, g_l_marks := PySem.W.mg_of X G a19, b_l_marks := F19.binds (ps := ["_law_watches_here", "_law_word_here"]) fun _ _ _ _ _ _ us hl => match us, hl with | [_, _], _ => rfl,
    f_l_told := f20, fd_l_told := _, F_l_told := F20, g_l_told := PySem.W.mg_of X G a20, b_l_told := F20.binds (ps := ["_law_watches_here", "_law_word_here"]) fun _ _ _ _ _ _ us hl => match us, hl with | [_, _], _ => rfl,
    f_l_in_order := f21, fd_l_in_order := _, F_l_in_order := F21, g_l_in_order := PySem.W.mg_of X G a21, b_l_in_order := F21.binds (ps := ["_law_texts"]) fun _ _ _ _ _ _ us hl => match us, hl with | [_], _ => rfl,
    f_l_all_words := f22, fd_l_all_words := _, F_l_all_words := F22, g_l_all_words := PySem.W.mg_of X G a22, b_l_all_words := F22.binds (ps := ["_law_letters_here", "_law_most"]) fun _ _ _ _ _ _ us hl => match us, hl with | [_, _], _ => rfl,
    f_law := fa, fd_law := _, F_law := F23, g_law := PySem.W.mg_of X G a23, b_law := F23.binds (ps := ["_law_script"]) fun _ _ _ _ _ _ us hl => match us, hl with | [_], _ => rfl,
    n_isinstance := PySem.W.mg_none_of X G z0,
    n_int := PySem.W.mg_none_of X G z1,
    n_bool := PySem.W.mg_none_of X G z2,
    n_str := PySem.W.mg_none_of X G z3,
    n_all := PySem.W.mg_none_of X G z4,
    n_len := PySem.W.mg_none_of X G z5,
    n_sorted := PySem.W.mg_none_of X G z6,
    n_enumerate := PySem.W.mg_none_of X G z7,
    n_tuple := PySem.W.mg_none_of X G z8,
    n_list := PySem.W.mg_none_of X G z9,
    n_range := PySem.W.mg_none_of X G z10,
    n_set := PySem.W.mg_none_of X G z11,
    n_min := PySem.W.mg_none_of X G z12,
    n_max := PySem.W.mg_none_of X G z13,
    t_LETTERS := t0, m_LETTERS := PySem.W.mg_of X G y0,
    t_MOST_WATCH := t1, m_MOST_WATCH := PySem.W.mg_of X G y1,
    t_MOST_WATCHES := t2, m_MOST_WATCHES := PySem.W.mg_of X G y2,
    t_MOST_LETTERS := t3, m_MOST_LETTERS := PySem.W.mg_of X G y3,
    t_MOST_SIZE := t4, m_MOST_SIZE := PySem.W.mg_of X G y4 }
  exact ⟨_, fun s v => .of_eq rfl, fun base _ _ => ok_law T⟩
theorem walk {l : PySem.W.OpenLaw} {q : Program} {loose : List Str} {XP : (Str → Option Value) → Heap → Prop} {YP : World → Heap → Prop} {d : DefRec} {K : Params → PySem.W.Frag} (hn : l.most = some 63) (hdf : d.params.defaults = [])
    (hY : ∀ (w : World) (h : Heap), YP w h → (K w.params).In h)
    (F : ∀ (w : World) (mg : Str → Option Value) (fa : Addr) (h : Heap), (K w.params).In h → h.Ns mainGlobals mg → mg d.name = some (.ref fa) →
      ∃ fd : FuncData, (∀ (s : Shared) (u : Value), BindsTo s fd ⟨[u], []⟩ [("_law_script", u)]) ∧ ∀ base : Heap, (K w.params).In base → base.Ns mainGlobals mg → FnOk l.prog w (K w.params) mg base CX0 6 fa fd ["_law_script"] (sp_law (K w.params))) :
    PySem.W.WalkO q loose XP YP l.row.toRowW d [] (fun f vs => PySem.call f vs) :=
  L2.walk_of (n := 63) (k := 6) (x := "_law_script") (CX := fun _ => CX0) (sp := fun w => sp_law (K w.params)) hn (by decide) hdf ⟨rfl, by decide, by decide⟩ hY F (fun _ _ a ns hl _ hS => ⟨a, ns, rfl, hS, hl, fun _ => rfl⟩) fun _ _ _ _ _ z => z
end W
open PySem PySem.W PyProof.Rows
set_option maxRecDepth 100000 in
set_option maxHeartbeats 0 in
theorem PySem.Challenge.cw_watchedways_k70_whole_told_words_holds : PySem.Challenge.rw_watchedways_k70_whole_told_words.Holds := by
  w_on; o_law; k_head; (case hw => w_witness2)
  k_fill
  refine W.walk (l := PySem.Challenge.rw_watchedways_k70_whole_told_words) rfl rfl (fun w h Y => PySem.W.kIn_of Y) ?F
  case F =>
    intro w mg fa h KX G hmg
    refine' W.all_mk KX G hmg ?u0 ?pg0 ?hd0 ?po0 ?sa0 ?wc0 ?wm0 ?wn0 ?wt0 ?na0_0 ?a1 ?l1 ?c1 ?k1 ?a2 ?l2 ?c2 ?k2 ?a3 ?l3 ?c3 ?k3 ?a4 ?l4 ?c4 ?k4 ?a5 ?l5 ?c5 ?k5 ?a6 ?i6 ?mk0 ?kc0 ?l6 ?c6 ?k6 ?a7 ?l7 ?c7 ?k7 ?a8 ?l8 ?c8 ?k8 ?a9 ?l9 ?c9 ?k9 ?a10 ?l10 ?c10 ?k10 ?a11 ?l11 ?c11 ?k11 ?a12 ?l12 ?c12 ?k12 ?a13 ?l13 ?c13 ?k13 ?a14 ?l14 ?c14 ?k14 ?a15 ?l15 ?c15 ?k15 ?a16 ?l16 ?c16 ?k16 ?a17 ?l17 ?c17 ?k17 ?a18 ?l18 ?c18 ?k18 ?a19 ?l19 ?c19 ?k19 ?a20 ?l20 ?c20 ?k20 ?a21 ?l21 ?c21 ?k21 ?a22 ?l22 ?c22 ?k22 ?a23 ?l23 ?c23 ?k23 ?z0 ?z1 ?z2 ?z3 ?z4 ?z5 ?z6 ?z7 ?z8 ?z9 ?z10 ?z11 ?z12 ?z13 ?y0 ?y1 ?y2 ?y3 ?y4
    (case u0 => k_is); (case pg0 => k_is); (case hd0 => k_is); (case po0 => k_is); (case sa0 => k_is); (case wc0 => k_is); (case wm0 => k_is); (case wn0 => k_is); (case wt0 => k_is); (case na0_0 => k_is); (case a1 => k_is); (case l1 => k_is); (case c1 => k_is); (case k1 => k_is); (case a2 => k_is); (case l2 => k_is); (case c2 => k_is); (case k2 => k_is); (case a3 => k_is); (case l3 => k_is); (case c3 => k_is); (case k3 => k_is); (case a4 => k_is); (case l4 => k_is); (case c4 => k_is); (case k4 => k_is); (case a5 => k_is); (case l5 => k_is); (case c5 => k_is); (case k5 => k_is); (case a6 => k_is); (case i6 => k_is); (case mk0 => k_is); (case kc0 => k_is); (case l6 => k_is); (case c6 => k_is); (case k6 => k_is); (case a7 => k_is); (case l7 => k_is); (case c7 => k_is); (case k7 => k_is); (case a8 => k_is); (case l8 => k_is); (case c8 => k_is); (case k8 => k_is); (case a9 => k_is); (case l9 => k_is); (case c9 => k_is); (case k9 => k_is); (case a10 => k_is); (case l10 => k_is); (case c10 => k_is); (case k10 => k_is); (case a11 => k_is); (case l11 => k_is); (case c11 => k_is); (case k11 => k_is); (case a12 => k_is); (case l12 => k_is); (case c12 => k_is); (case k12 => k_is); (case a13 => k_is); (case l13 => k_is); (case c13 => k_is); (case k13 => k_is); (case a14 => k_is); (case l14 => k_is); (case c14 => k_is); (case k14 => k_is); (case a15 => k_is); (case l15 => k_is); (case c15 => k_is); (case k15 => k_is); (case a16 => k_is); (case l16 => k_is); (case c16 => k_is); (case k16 => k_is); (case a17 => k_is); (case l17 => k_is); (case c17 => k_is); (case k17 => k_is); (case a18 => k_is); (case l18 => k_is); (case c18 => k_is); (case k18 => k_is); (case a19 => k_is); (case l19 => k_is); (case c19 => k_is); (case k19 => k_is); (case a20 => k_is); (case l20 => k_is); (case c20 => k_is); (case k20 => k_is); (case a21 => k_is); (case l21 => k_is); (case c21 => k_is); (case k21 => k_is); (case a22 => k_is); (case l22 => k_is); (case c22 => k_is); (case k22 => k_is); (case a23 => k_is); (case l23 => k_is); (case c23 => k_is); (case k23 => k_is); (case z0 => k_is); (case z1 => k_is); (case z2 => k_is); (case z3 => k_is); (case z4 => k_is); (case z5 => k_is); (case z6 => k_is); (case z7 => k_is); (case z8 => k_is); (case z9 => k_is); (case z10 => k_is); (case z11 => k_is); (case z12 => k_is); (case z13 => k_is); (case y0 => k_is); (case y1 => k_is); (case y2 => k_is); (case y3 => k_is); (case y4 => k_is)
