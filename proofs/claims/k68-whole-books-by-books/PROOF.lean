import PyProof.Rows.All
import Wide.All
import OpenK.AllK
import Wide.FinOn
import HandS.ForMost
import HandS.SortInts
import HandS.Style
import HandS.IsInst
import HandS.Flow
import HandS.Conv
import HandS.Codes
import PyProof.Draws
import PyProof.EnumMake
import HandS.Walk
import HandS.Strs
import HandS.More
import HandS.Text
import HandS.Small
import HandS.SortKw
import KE.SortKeyed
import HandS.DictComp
import HandS.Zip
import HandS.Finally
import PySem.Challenge.RW_watchedways_k68_whole_books_by_books
set_option Elab.async false
set_option linter.all false
set_option maxRecDepth 100000
set_option maxHeartbeats 4000000
/-! Readings by their heads: one lemma a combinator, so that a reading is walked by its own shape. -/
namespace Rd
open PySem PySem.Spec PyProof.Rows L2
variable {X : Cx} {D : Ends} {σ : L2.St} {H : Hp} {K : PySem.W.Frag}
/-- a new object is laid -/
def NewQ (o : HO) (Q : VK) (H : Hp) : Prop := ∀ p, H p = none → Q (.ref p) (upd H p o)
theorem new {o : HO} {Q : VK} (h : ∀ (p : Addr) (G : Hp), H p = none → G p = some o → Same H G → Q (.ref p) G) : NewQ o Q H :=
  fun p hp => h p _ hp upd_same fun b u e => by rw [upd_ne (ne_of_none e hp)]; exact e
theorem seq {t u : TS} (h : t { D with nx := u D } σ H) : tSeq t u D σ H := h
theorem cut {t u : TS} (Mid : L2.St → Hp → Prop) (h : t { D with nx := Mid } σ H) (h2 : ∀ σ' H', Mid σ' H' → u D σ' H') : C8.tCut t u D σ H := ⟨Mid, h, h2⟩
theorem nxt (h : D.nx σ H) : tNext D σ H := h
theorem asg {te : TE} {g : TG} (h : te σ H fun x H1 => g x σ H1 D.nx) : tAsg te g D σ H := h
theorem name {i : Nat} {v : V} {Q : L2.St → Hp → Prop} (h : Q (σ.set i (some v)) H) : gName i v σ H Q := h
theorem ret {te : TE} (h : te σ H D.rt) : tRet te D σ H := h
theorem retN (h : D.rt .non H) : tRetN D σ H := h
theorem drop {te : TE} (h : te σ H fun _ H1 => D.nx σ H1) : tDrop te D σ H := h
theorem ifS {c : TT} {t u : TS} (h : c σ H fun b H1 => if b = true then t D σ H1 else u D σ H1) : tIfS c t u D σ H := h
theorem brk (h : D.bk σ H) : tBreak D σ H := h
theorem cont (h : D.ct σ H) : tCont D σ H := h
theorem var {i : Nat} {v : V} {Q : VK} (e : σ[i]? = some (some v)) (h : Q v H) : tVar i σ H Q := ⟨v, e, h⟩
theorem con {v : V} {Q : VK} (h : Q v H) : tC v σ H Q := h
theorem op {r : R2} {ta tb : TE} {Q : VK} (h : ta σ H fun x H1 => tb σ H1 fun y H2 => r x y H2 Q) : tOp r ta tb σ H Q := h
theorem un {r : V → Hp → VK → Prop} {ta : TE} {Q : VK} (h : ta σ H fun x H1 => r x H1 Q) : tUn r ta σ H Q := h
theorem test {t : TE} {Q : Bool → Hp → Prop} (h : t σ H fun x H' => ∃ k, x = .bl k ∧ Q k H') : tTest t σ H Q := h
theorem tstB {t : TE} {Q : Bool → Hp → Prop} (h : t σ H fun x H' => ∃ k, x = .bl k ∧ Q k H') : tB t σ H Q := h
theorem bl {k : Bool} {Q : Bool → Hp → Prop} (h : Q k H) : ∃ k', V.bl k = .bl k' ∧ Q k' H := ⟨k, rfl, h⟩
theorem and {t u : TT} {Q : Bool → Hp → Prop} (h : t σ H fun c H1 => if c = true then u σ H1 Q else Q false H1) : tAnd t u σ H Q := h
theorem or {t u : TT} {Q : Bool → Hp → Prop} (h : t σ H fun c H1 => if c = true then Q true H1 else u σ H1 Q) : tOr t u σ H Q := h
theorem not {t : TT} {Q : Bool → Hp → Prop} (h : t σ H fun c H1 => Q (!c) H1) : tNot t σ H Q := h
theorem andV {ta tb : TE} {Q : VK} (h : ta σ H fun x H1 => ∃ c, x = .bl c ∧ if c = true then tb σ H1 Q else Q (.bl false) H1) : tAndV ta tb σ H Q := h
theorem orV {ta tb : TE} {Q : VK} (h : ta σ H fun x H1 => ∃ c, x = .bl c ∧ if c = true then Q (.bl true) H1 else tb σ H1 Q) : tOrV ta tb σ H Q := h
theorem notV {ta : TE} {Q : VK} (h : ta σ H fun x H1 => ∃ c, x = .bl c ∧ Q (.bl (!c)) H1) : tNotV ta σ H Q := h
theorem ifE {t : TT} {ta tb : TE} {Q : VK} (h : t σ H fun c H1 => if c = true then ta σ H1 Q else tb σ H1 Q) : tIf t ta tb σ H Q := h
theorem nil {Q : List V → Hp → Prop} (h : Q [] H) : tNil σ H Q := h
theorem cons {ta : TE} {tr : TA} {Q : List V → Hp → Prop} (h : ta σ H fun x H1 => tr σ H1 fun xs H2 => Q (x :: xs) H2) : tCons ta tr σ H Q := h
theorem tup {t : TA} {Q : VK} (h : t σ H fun xs H1 => xs.length ≤ sizeLine ∧ NewQ (.tup xs) Q H1) : tTup t σ H Q := h
theorem lst {t : TA} {Q : VK} (h : t σ H fun xs H1 => xs.length ≤ sizeLine ∧ NewQ (.lst xs) Q H1) : tLst t σ H Q := h
theorem cb {r : List V → Hp → VK → Prop} {t : TA} {Q : VK} (h : t σ H fun vs H1 => r vs H1 Q) : tCB r t σ H Q := h
theorem call {sp : Sp} {dvs : List V} {E : XK} {t : TA} {Q : VK} (h : t σ H fun vs H1 => sp (vs ++ dvs) H1 Q E) : tCall sp dvs E t σ H Q := h
theorem chain {r r' : R2} {ta tb tc : TE} {Q : VK} (h : ta σ H fun x H1 => tb σ H1 fun y H2 => r x y H2 fun z H3 => ∃ k, z = .bl k ∧ (if k = true then tc σ H3 fun w' H4 => r' y w' H4 Q else Q (.bl false) H3)) : tChain r r' ta tb tc σ H Q := h
theorem blE {k : Bool} {P : Bool → Prop} (h : P k) : ∃ k', V.bl k = .bl k' ∧ P k' := ⟨k, rfl, h⟩
theorem i0 {g : Int → Int → V} {i j : Int} {Q : VK} (h : Q (g i j) H) : rI0 g (.int i) (.int j) H Q := ⟨i, j, rfl, rfl, h⟩
theorem iC {C : Int → Int → Prop} {g : Int → Int → V} {i j : Int} {Q : VK} (c : C i j) (h : Q (g i j) H) : rI C g (.int i) (.int j) H Q := ⟨i, j, rfl, rfl, c, h⟩
theorem u1 {g : Int → V} {i : Int} {Q : VK} (h : Q (g i) H) : rU g (.int i) H Q := ⟨i, rfl, h⟩
theorem eqI {i j : Int} {Q : VK} (h : Q (.bl (decide (i = j))) H) : rEq (.int i) (.int j) H Q := ⟨rfl, by rw [show decide (V.int i = V.int j) = decide (i = j) by simp]; exact h⟩
theorem neI {i j : Int} {Q : VK} (h : Q (.bl (!decide (i = j))) H) : rNe (.int i) (.int j) H Q := ⟨rfl, by rw [show decide (V.int i = V.int j) = decide (i = j) by simp]; exact h⟩
theorem eqB {i j : Bool} {Q : VK} (h : Q (.bl (i == j)) H) : rEq (.bl i) (.bl j) H Q := ⟨rfl, by rw [dec_bl]; exact h⟩
theorem neB {i j : Bool} {Q : VK} (h : Q (.bl (i != j)) H) : rNe (.bl i) (.bl j) H Q := ⟨rfl, by rw [dec_bl]; exact h⟩
theorem eqS {i j : Str} {Q : VK} (h : Q (.bl (decide (i = j))) H) : rEq (.str i) (.str j) H Q := ⟨rfl, by rw [show decide (V.str i = V.str j) = decide (i = j) by simp]; exact h⟩
theorem neS {i j : Str} {Q : VK} (h : Q (.bl (!decide (i = j))) H) : rNe (.str i) (.str j) H Q := ⟨rfl, by rw [show decide (V.str i = V.str j) = decide (i = j) by simp]; exact h⟩
theorem iteb {c A B : Prop} [Decidable c] (h : if c then A else B) : if decide c = true then A else B := by
  by_cases q : c
  · rw [if_pos q] at h; rw [if_pos (decide_eq_true q)]; exact h
  · rw [if_neg q] at h; rw [if_neg (by simpa using q)]; exact h
theorem iten {c A B : Prop} [Decidable c] (h : if c then B else A) : if (!decide c) = true then A else B := by
  by_cases q : c
  · rw [if_pos q] at h; rw [if_neg (by simpa using q)]; exact h
  · rw [if_neg q] at h; rw [if_pos (by simpa using q)]; exact h
theorem itbn {b : Bool} {A B : Prop} (h : if b = true then B else A) : if (!b) = true then A else B := by
  cases b with
  | true => rw [if_neg (by decide)]; rw [if_pos rfl] at h; exact h
  | false => rw [if_pos (by rfl : (!false) = true)]; rw [if_neg (by decide)] at h; exact h
theorem a1 {a : Int} {P : Int → Prop} (h : P a) : ∃ i, [V.int a] = [V.int i] ∧ P i := ⟨a, rfl, h⟩
theorem a2 {a b : Int} {P : Int → Int → Prop} (h : P a b) : ∃ i j, [V.int a, V.int b] = [V.int i, V.int j] ∧ P i j := ⟨a, b, rfl, h⟩
theorem v2 {a b : V} {P : V → V → Prop} (h : P a b) : ∃ i j, [a, b] = [i, j] ∧ P i j := ⟨a, b, rfl, h⟩
theorem int1 {a : Int} {P : Int → Prop} {R : Prop} (h : P a) : (∃ i, [V.int a] = [V.int i] ∧ P i) ∨ R := .inl ⟨a, rfl, h⟩
theorem par {i j : Nat} {ta : TA} (h : ta σ H fun vs H1 => ∃ v w, vs = [v, w] ∧ D.nx ((σ.set i (some v)).set j (some w)) H1) : tPar i j ta D σ H := h
theorem sub {to ti : TE} {t : TSet} {v : V} {Q : L2.St → Hp → Prop} (h : to σ H fun o H1 => ti σ H1 fun i H2 => t o i v H2 fun H3 => Q σ H3) : gSub to ti t v σ H Q := h
theorem forS {wi : TI} {g : TG} {tb : TS} (h : wi σ H fun J H1 => ∃ W : Nat → Nat → L2.St → Hp → Prop, (∃ m, W 0 m σ H1) ∧ ∀ i m σ H, W i m σ H →
  (J.stop i H ∧ D.nx σ H) ∨ (J.go i H ∧ ∃ N : L2.St → Hp → Prop, (∀ σ' H', N σ' H' → ∃ m', m' < m ∧ W (i + 1) m' σ' H') ∧ ∀ x H', J.yld i H x H' → g x σ H' fun σ2 H2 => tb { D with nx := N, ct := N, bk := D.nx } σ2 H2)) : tFor wi g tb D σ H := h
theorem iter {tl : TE} {R : It → Hp → Prop} (h : tl σ H fun x H1 => ∃ a, x = .ref a ∧ (∃ xs, SqL K H1 a xs) ∧ R (Itl K a) H1) : iList K tl σ H R := h
theorem iterT {tl : TE} {R : It → Hp → Prop} (h : tl σ H fun x H1 => ∃ a, x = .ref a ∧ (∃ xs, SqT K H1 a xs) ∧ R (Itt K a) H1) : iTup K tl σ H R := h
theorem rng1 {ta : TA} {R : It → Hp → Prop} (h : ta σ H fun vs H1 => ∃ j : Int, vs = [.int j] ∧ -(2 ^ 62) ≤ j ∧ j < 2 ^ 62 ∧ R (Itr 0 j.toNat) H1) : iRng1 ta σ H R := h
theorem refE {a : Addr} {P : Addr → Prop} (h : P a) : ∃ b, V.ref a = .ref b ∧ P b := ⟨a, rfl, h⟩
theorem aug {i : Nat} {te : TE} {ti : TIp} {x : V} (e : σ[i]? = some (some x)) (h : te σ H fun y H1 => ti x y H1 fun z H2 => D.nx (σ.set i (some z)) H2) : tAug i te ti D σ H := ⟨x, e, h⟩
theorem ipi {f : Int → Int → Int} {i j : Int} {Q : VK} (h : Q (.int (f i j)) H) : ipI f (.int i) (.int j) H Q := ⟨i, j, rfl, rfl, h⟩
theorem whl {c : TT} {tb : TS} (W : Nat → L2.St → Hp → Prop) (h0 : ∃ m, W m σ H) (hs : ∀ m σ H, W m σ H → c σ H fun b H1 => if b = true then ∃ N : L2.St → Hp → Prop, (∀ σ' H', N σ' H' → ∃ m', m' < m ∧ W m' σ' H') ∧ tb { D with nx := N, ct := N, bk := D.nx } σ H1 else D.nx σ H1) : tWhile c tb D σ H := ⟨W, h0, hs⟩
theorem whN {m : Nat} {W : Nat → L2.St → Hp → Prop} {P : (L2.St → Hp → Prop) → Prop} (h : P (fun σ' H' => ∃ m', m' < m ∧ W m' σ' H')) : ∃ N, (∀ σ' H', N σ' H' → ∃ m', m' < m ∧ W m' σ' H') ∧ P N := ⟨_, fun _ _ h => h, h⟩
/-- an item of a list at a place -/
theorem ixL {p : Addr} {xs : List V} {i : Int} {v : V} {Q : VK} (hp : SqL K H p xs) (e : atI xs i = some v) (h : Q v H) : rIxL K (.ref p) (.int i) H Q := ⟨p, xs, i, v, rfl, rfl, hp, e, h⟩
theorem ixT {p : Addr} {xs : List V} {i : Int} {v : V} {Q : VK} (hp : SqT K H p xs) (e : atI xs i = some v) (h : Q v H) : rIxT K (.ref p) (.int i) H Q := ⟨p, xs, i, v, rfl, rfl, hp, e, h⟩
theorem setL {p : Addr} {xs : List V} {k : Int} {j : Nat} {v : V} {Q : Hp → Prop} (hp : H p = some (.lst xs)) (e : ixN xs.length k = some j) (h : Q (upd H p (.lst (xs.set j v)))) : rSetL (.ref p) (.int k) v H Q := ⟨p, xs, k, j, rfl, rfl, hp, e, h⟩
/-- a store into a list: behind it a heap G of which this is known -/
theorem setG {p : Addr} {xs ys : List V} {k : Int} {j : Nat} {v : V} {Q : Hp → Prop} (hp : H p = some (.lst xs)) (e : ixN xs.length k = some j) (hy : xs.set j v = ys) (h : ∀ G : Hp, G p = some (.lst ys) → (∀ b, b ≠ p → G b = H b) → Q G) : rSetL (.ref p) (.int k) v H Q :=
  ⟨p, xs, k, j, rfl, rfl, hp, e, hy ▸ h _ upd_same fun b hb => upd_ne hb⟩
/-! ### calls of built-ins and methods, by name -/
def nLen (K : PySem.W.Frag) : List V → Hp → VK → Prop := fun xs H Q => ∃ p ys, xs = [.ref p] ∧ (SqL K H p ys ∨ SqT K H p ys) ∧ Q (.int ys.length) H
theorem c_len : CallR X (.builtin "len") (nLen X.K) := call_len_seq
theorem len {p : Addr} {ys : List V} {Q : VK} (hp : SqL K H p ys ∨ SqT K H p ys) (h : Q (.int ys.length) H) : nLen K [.ref p] H Q := ⟨p, ys, rfl, hp, h⟩
def nLenS : List V → Hp → VK → Prop := fun xs H Q => ∃ z : Str, xs = [.str z] ∧ z.length ≤ sizeLine ∧ Q (.int z.length) H
theorem c_lenS : CallR X (.builtin "len") nLenS := call_len_str
theorem lenStr {z : Str} {Q : VK} (hz : z.length ≤ sizeLine) (h : Q (.int z.length) H) : nLenS [.str z] H Q := ⟨z, rfl, hz, h⟩
def nListOf (K : PySem.W.Frag) : List V → Hp → VK → Prop := fun xs H Q => ∃ p ys, xs = [.ref p] ∧ (SqL K H p ys ∨ SqT K H p ys) ∧ NewQ (.lst ys) Q H
theorem c_listOf : CallR X (.type "list") (nListOf X.K) := call_list_of
theorem listOf {p : Addr} {ys : List V} {Q : VK} (hp : SqL K H p ys ∨ SqT K H p ys) (h : NewQ (.lst ys) Q H) : nListOf K [.ref p] H Q := ⟨p, ys, rfl, hp, h⟩
def nTupOf (K : PySem.W.Frag) : List V → Hp → VK → Prop := fun xs H Q => ∃ p ys, xs = [.ref p] ∧ ((SqL K H p ys ∧ NewQ (.tup ys) Q H) ∨ (SqT K H p ys ∧ Q (.ref p) H))
theorem c_tupOf : CallR X (.type "tuple") (nTupOf X.K) := call_tuple_of
theorem tupOf {p : Addr} {ys : List V} {Q : VK} (hp : SqL K H p ys) (h : NewQ (.tup ys) Q H) : nTupOf K [.ref p] H Q := ⟨p, ys, rfl, .inl ⟨hp, h⟩⟩
def nInt : List V → Hp → VK → Prop := fun xs H Q => (∃ i, xs = [.int i] ∧ Q (.int i) H) ∨ ∃ k, xs = [.bl k] ∧ Q (.int (if k then 1 else 0)) H
theorem c_int : CallR X (.type "int") nInt := call_int1
theorem int {i : Int} {Q : VK} (h : Q (.int i) H) : nInt [.int i] H Q := .inl ⟨i, rfl, h⟩
theorem intB {k : Bool} {Q : VK} (h : Q (.int (if k then 1 else 0)) H) : nInt [.bl k] H Q := .inr ⟨k, rfl, h⟩
def nAbs : List V → Hp → VK → Prop := fun xs H Q => ∃ i, xs = [.int i] ∧ Q (.int (if i < 0 then -i else i)) H
theorem c_abs : CallR X (.builtin "abs") nAbs := call_abs
theorem abs {i : Int} {Q : VK} (h : Q (.int (i.natAbs : Int)) H) : nAbs [.int i] H Q := ⟨i, rfl, by rw [show (if i < 0 then -i else i) = (i.natAbs : Int) by split <;> omega]; exact h⟩
def nMax2 : List V → Hp → VK → Prop := fun xs H Q => ∃ i j, xs = [.int i, .int j] ∧ Q (.int (if j > i then j else i)) H
theorem c_max2 (hc : X.calm = true) : CallR X (.builtin "max") nMax2 := call_max2 hc
theorem max2 {i j : Int} {Q : VK} (h : Q (.int (max i j)) H) : nMax2 [.int i, .int j] H Q := ⟨i, j, rfl, by rw [show (if j > i then j else i) = max i j by rw [Int.max_def]; split <;> split <;> omega]; exact h⟩
def nMin2 : List V → Hp → VK → Prop := fun xs H Q => ∃ i j, xs = [.int i, .int j] ∧ Q (.int (if j < i then j else i)) H
theorem c_min2 (hc : X.calm = true) : CallR X (.builtin "min") nMin2 := call_min2 hc
theorem min2 {i j : Int} {Q : VK} (h : Q (.int (min i j)) H) : nMin2 [.int i, .int j] H Q := ⟨i, j, rfl, by rw [show (if j < i then j else i) = min i j by rw [Int.min_def]; split <;> split <;> omega]; exact h⟩
theorem bm {T : String} {r : V → List V → Hp → VK → Prop} {to : TE} {t : TA} {Q : VK} (h : to σ H fun x H1 => tyV K T x H1 ∧ t σ H1 fun xs H2 => r x xs H2 Q) : tBM K T r to t σ H Q := h
theorem bm0 {T : String} {r : V → List V → Hp → VK → Prop} {to : TE} {Q : VK} (h : to σ H fun x H1 => tyV K T x H1 ∧ r x [] H1 Q) : tBM0 K T r to σ H Q := h
theorem tyL {a : Addr} {xs : List V} {R : Prop} (h : SqL K H a xs) (r : R) : tyV K "list" (.ref a) H ∧ R := ⟨.inl ⟨rfl, _, h⟩, r⟩
theorem app {l : Addr} {xs : List V} {y : V} {Q : VK} (hp : H l = some (.lst xs)) (hz : xs.length < sizeLine) (h : ∀ G : Hp, G l = some (.lst (xs ++ [y])) → (∀ b, b ≠ l → G b = H b) → Q .non G) : rAppend (.ref l) [y] H Q :=
  ⟨l, xs, y, rfl, rfl, hp, hz, h _ upd_same fun b hb => upd_ne hb⟩
theorem popAt {l : Addr} {xs : List V} {i : Int} {y : V} {Q : VK} (hp : H l = some (.lst xs)) (h0 : 0 ≤ i) (h1 : i < xs.length) (hz : xs.length < 2 ^ 63) (hy : xs[i.toNat]? = some y) (h : ∀ G : Hp, G l = some (.lst (xs.eraseIdx i.toNat)) → (∀ b, b ≠ l → G b = H b) → Q y G) : rPopAt (.ref l) [.int i] H Q :=
  ⟨l, xs, i, i.toNat, y, rfl, rfl, hp, by omega, by omega, by unfold seqIndex?; rw [if_pos (by simp; omega)] <;> simp <;> omega, hy, h _ upd_same fun b hb => upd_ne hb⟩
theorem sl {r : V → Option Int → Option Int → Hp → VK → Prop} {te : TE} {tl th : TO} {Q : VK} (h : te σ H fun x H1 => tl σ H1 fun l H2 => th σ H2 fun u H3 => r x l u H3 Q) : tSl r te tl th σ H Q := h
theorem slL {a : Addr} {xs : List V} {lo hi : Option Int} {Q : VK} (hp : SqL K H a xs) (h : NewQ (.lst (cutV xs lo hi)) Q H) : rSlL K (.ref a) lo hi H Q := ⟨a, xs, rfl, hp, h⟩
theorem slS {z : Str} {lo hi : Option Int} {Q : VK} (hz : z.length ≤ sizeLine) (h : Q (.str (cutS z lo hi)) H) : rSlS (.str z) lo hi H Q := ⟨z, rfl, hz, h⟩
theorem cat {l b : Addr} {xs zs : List V} {Q : VK} (h1 : H l = some (.lst xs)) (h2 : H b = some (.lst zs)) (hz : xs.length + zs.length ≤ sizeLine) (h : NewQ (.lst (xs ++ zs)) Q H) : rCat (.ref l) (.ref b) H Q := ⟨l, b, xs, zs, rfl, rfl, h1, h2, hz, h⟩
theorem rep {l : Addr} {xs : List V} {k : Int} {Q : VK} (h1 : H l = some (.lst xs)) (h0 : -(2 ^ 63) ≤ k) (hk : k < 2 ^ 63) (hz : xs.length * k.toNat ≤ sizeLine) (h : NewQ (.lst (List.replicate k.toNat xs).flatten) Q H) : rRep (.ref l) (.int k) H Q := ⟨l, k, xs, rfl, rfl, h1, h0, hk, hz, h⟩
theorem revL {te : TE} {Q : VK} (h : te σ H fun x H1 => ∃ a xs, x = .ref a ∧ SqL K H1 a xs ∧ NewQ (.lst xs.reverse) Q H1) : tRevL K te σ H Q := h
theorem refX {a : Addr} {xs : List V} {P : List V → Prop} (h : SqL K H a xs) (q : P xs) : ∃ b ys, V.ref a = .ref b ∧ SqL K H b ys ∧ P ys := ⟨a, xs, rfl, h, q⟩
theorem sum {a : Addr} {ns : List Int} {Q : VK} (hp : SqL K H a (ns.map V.int)) (h : Q (.int ns.sum) H) : rSum K [.ref a] H Q := ⟨a, ns, rfl, hp, h⟩
theorem all {a : Addr} {bs : List Bool} {Q : VK} (hp : SqL K H a (bs.map V.bl)) (h : Q (.bl (bs.all id)) H) : rAll K [.ref a] H Q := ⟨a, bs, rfl, hp, h⟩
theorem any {a : Addr} {bs : List Bool} {Q : VK} (hp : SqL K H a (bs.map V.bl)) (h : Q (.bl (bs.any id)) H) : rAny K [.ref a] H Q := ⟨a, bs, rfl, hp, h⟩
theorem sortedI {a : Addr} {ns : List Int} {Q : VK} (hp : SqL K H a (ns.map V.int)) (h : ∀ (ms : List Int) (p : Addr) (G : Hp), ms.Perm ns → ms.Pairwise (· ≤ ·) → G p = some (.lst (ms.map V.int)) → Same H G → H p = none → Q (.ref p) G) : rSortedI K [.ref a] H Q :=
  ⟨a, ns, rfl, hp, fun ms p h1 h2 h3 => h ms p _ h1 h2 upd_same (fun b u e => by rw [upd_ne (ne_of_none e h3)]; exact e) h3⟩
theorem inS {neg : Bool} {x : V} {p : Addr} {xs : List V} {Q : VK} (hp : SqL K H p xs ∨ SqT K H p xs) (h1 : flatV x = true) (h2 : xs.all flatV = true) (h : Q (.bl (if neg then !inV x xs else inV x xs)) H) : rIn K neg x (.ref p) H Q := ⟨p, xs, rfl, hp, h1, h2, h⟩
theorem part {te : TE} {Q : Option Int → Hp → Prop} (h : te σ H fun x H1 => ∃ i, x = .int i ∧ Q (some i) H1) : tPart te σ H Q := h
theorem noPart {Q : Option Int → Hp → Prop} (h : Q none H) : tNoPart σ H Q := h
theorem poS {te : TE} {Q : Option Int → Hp → Prop} {i : Int} (h : te σ H fun x H1 => ∃ i, x = .int i ∧ Q (some i) H1) : te σ H fun x H1 => ∃ i, x = .int i ∧ Q (some i) H1 := h
theorem tupT {a : Addr} {xs : List V} {n : Nat} {t : TGs} {Q : L2.St → Hp → Prop} (hp : SqT K H a xs) (hn : xs.length = n) (h : t xs σ H Q) : gTup K n t (.ref a) σ H Q := ⟨a, xs, rfl, hp, hn, h⟩
theorem gcons {t : TG} {u : TGs} {v : V} {r : List V} {Q : L2.St → Hp → Prop} (h : t v σ H fun σ' H' => u r σ' H' Q) : gCons t u (v :: r) σ H Q := ⟨v, r, rfl, h⟩
theorem gnil {Q : L2.St → Hp → Prop} (h : Q σ H) : gNil [] σ H Q := ⟨rfl, h⟩
theorem last2 {ms : List Int} (h : 2 ≤ ms.length) : ∃ s b a, ms = s ++ [b, a] := by
  rcases List.eq_nil_or_concat ms with e | ⟨t, a, e⟩
  · subst e; simp at h
  · rcases List.eq_nil_or_concat t with e2 | ⟨s, b, e2⟩
    · subst e2; subst e; simp at h
    · exact ⟨s, b, a, by rw [e, e2]; simp⟩
theorem cut_last2 (s : List Int) (b a : Int) : cutV ((s ++ [b, a]).map V.int) (some (-2)) none = [b, a].map V.int := by
  have e : HT.sIx ((s ++ [b, a]).map V.int).length 0 (some (-2)) = (s.map V.int).length := by
    unfold HT.sIx
    simp
    omega
  have e2 : HT.sIx ((s ++ [b, a]).map V.int).length ((s ++ [b, a]).map V.int).length none = ((s ++ [b, a]).map V.int).length := rfl
  unfold cutV
  rw [e, e2, List.map_append, List.drop_left, List.length_append]
  exact List.take_of_length_le (by simp)
theorem rep_map (k : Nat) (b : Bool) : (List.replicate k [V.bl b]).flatten = (List.replicate k b).map V.bl := by
  induction k with
  | zero => rfl
  | succ k ih => rw [List.replicate_succ, List.flatten_cons, ih, List.replicate_succ]; rfl
theorem map_set {α β : Type} (f : α → β) (l : List α) (i : Nat) (x : α) : (l.map f).set i (f x) = (l.set i x).map f := by rw [List.map_set]
theorem enx {a b c : L2.St → Hp → Prop} {r : VK} (h : a σ H) : (Ends.mk a r b c).nx σ H := h
theorem ebk {a b c : L2.St → Hp → Prop} {r : VK} (h : b σ H) : (Ends.mk a r b c).bk σ H := h
theorem ect {a b c : L2.St → Hp → Prop} {r : VK} (h : c σ H) : (Ends.mk a r b c).ct σ H := h
theorem ert {a b c : L2.St → Hp → Prop} {r : VK} {v : V} (h : r v H) : (Ends.mk a r b c).rt v H := h
theorem intE {i : Int} {P : Int → Prop} (h : P i) : ∃ j, V.int i = .int j ∧ P j := ⟨i, rfl, h⟩
theorem atI_of {α : Type} {xs : List α} {i : Int} {v : α} (h0 : 0 ≤ i) (e : xs[i.toNat]? = some v) : atI xs i = some v := by
  have h := atI_nat e
  rw [show ((i.toNat : Nat) : Int) = i by omega] at h
  exact h
theorem ixN_of {n : Nat} {i : Int} (h0 : 0 ≤ i) (h1 : i < n) : ixN n i = some i.toNat := by
  unfold ixN
  rw [if_pos h0, if_pos h1]
theorem map_int {ns : List Int} {i : Nat} (h : i < ns.length) : (ns.map V.int)[i]? = some (.int ns[i]) := by simp [h]
theorem map_get {ns : List Int} {i : Nat} {x : V} (h : (ns.map V.int)[i]? = some x) : ∃ n, ns[i]? = some n ∧ x = .int n := by
  rw [List.getElem?_map] at h
  cases e : ns[i]? with
  | none => rw [e] at h; cases h
  | some z => rw [e] at h; exact ⟨z, rfl, (Option.some.inj h).symm⟩
theorem take_snoc {α : Type} {l : List α} {i : Nat} {x : α} (h : l[i]? = some x) : l.take (i + 1) = l.take i ++ [x] := by
  rw [List.take_succ, h]
  rfl
theorem upd_at {a : Addr} {o : HO} {b : Addr} (h : b = a) : upd H a o b = some o := by subst h; exact upd_same
/-- all but what stands at a is kept -/
def But (a : Addr) (H H' : Hp) : Prop := ∀ b o, b ≠ a → H b = some o → H' b = some o
theorem But.refl (a : Addr) (H : Hp) : But a H H := fun _ _ _ e => e
theorem But.trans {a : Addr} {H H1 H2 : Hp} (x : But a H H1) (y : But a H1 H2) : But a H H2 := fun b o n e => y b o n (x b o n e)
theorem But.same {a : Addr} {H H1 H2 : Hp} (x : But a H H1) (y : Same H1 H2) : But a H H2 := fun b o n e => y b o (x b o n e)
theorem But.of {a : Addr} {H H1 : Hp} (y : Same H H1) : But a H H1 := fun b o _ e => y b o e
theorem But.free {a : Addr} {H H1 : Hp} (x : But a H H1) {l : Addr} (n : l ≠ a) (h : H1 l = none) : H l = none := by
  cases q : H l with
  | none => rfl
  | some o =>
    have := x l o n q
    rw [h] at this
    cases this
theorem But.upd {a : Addr} {H H1 : Hp} {o : HO} (x : But a H H1) : But a H (upd H1 a o) := fun b u n e => by rw [upd_ne n]; exact x b u n e
theorem same_upd {H : Hp} {p : Addr} {o : HO} (h : H p = none) : Same H (upd H p o) := fun b u e => by rw [upd_ne (ne_of_none e h)]; exact e
end Rd

/-! Further rules: enumerate and sorted of a tuple; one of two ways to walk. -/
namespace Ru
open PySem PyProof.Rows
open PySem.AutoSeq1 (wpAny_loadPart')
section
variable {prog : Program} {w : World} {A : Around} {E : Value → Shared → Prop} {s : Shared}
theorem nextOf_tup {it t : Addr} {i : Nat} {items : Array Value} {x : Value} {Q : Value → Shared → Prop} (hit : s.heap.IsTupleIter it t i) (ht : s.heap.IsTuple t items) (hx : items[i]? = some x)
    (hQ : ∀ h', h'.IsTupleIter it t (i + 1) → Heap.SameBut it s.heap h' → Q x { s with heap := h' }) : wpAny (model prog w) A (Builtin.SmallTypes.nextOf (.ref it)) Q E s := by
  obtain ⟨oi, hoi, hci, hdi⟩ := id hit
  obtain ⟨ot, hot, _, nt, hdt⟩ := ht
  unfold Builtin.SmallTypes.nextOf
  refine wpAny_bind (wpAny_callSpecial?_slot (name := Str.ofString "__next__") hit.typeIs F.slot_tuple_iterator_next (wpAny_call_entry F.slot_tuple_iterator_next hit.typeIs F.entry_tuple_iterator_next ?_ (F.args_tuple_iterator_next_1 _)))
  show wpAny _ _ (field (.ref it) 0 >>= _) _ _ s
  refine wpAny_bind (wpAny_field hoi hdi (x := .ref t) rfl ?_)
  show wpAny _ _ (if (Value.ref t == Value.none) = true then _ else _) _ _ s
  rw [if_neg (show ¬ ((Value.ref t == Value.none) = true) from Bool.false_ne_true)]
  show wpAny _ _ (field (.ref it) 1 >>= _) _ _ s
  refine wpAny_bind (wpAny_field hoi hdi (x := .int i 0) rfl ?_)
  show wpAny _ _ (seqItems? (.ref t) >>= _) _ _ s
  refine wpAny_bind (wpAny_seqItems hot hdt ?_)
  simp only [Int.toNat_natCast, hx]
  refine wpAny_bind (wpAny_setField hoi hdi (by simp) (wpAny_pure ⟨x, rfl, wpAny_pure (hQ _ ?_ (Heap.SameBut.update ..))⟩))
  exact ⟨_, Heap.get?_update_self _ hoi (Obj.isFreed_of_fields (Obj.data_mapFields hdi _)), (Obj.cls_mapFields ..).trans hci, by rw [Obj.data_mapFields hdi]; simp [rawInt]⟩
theorem nextOf_tup_end {it t : Addr} {i : Nat} {items : Array Value} {Q : Value → Shared → Prop} (hh : A.handled = none) (hit : s.heap.IsTupleIter it t i) (ht : s.heap.IsTuple t items) (hx : items[i]? = none)
    (hE : ∀ h' e, Heap.ExtBut it s.heap h' → (∃ o, h'.get? e = some o ∧ o.cls = .type "StopIteration") → E (.ref e) { s with heap := h' }) : wpAny (model prog w) A (Builtin.SmallTypes.nextOf (.ref it)) Q E s := by
  obtain ⟨oi, hoi, hci, hdi⟩ := id hit
  obtain ⟨ot, hot, _, nt, hdt⟩ := ht
  unfold Builtin.SmallTypes.nextOf
  refine wpAny_bind (wpAny_callSpecial?_slot (name := Str.ofString "__next__") hit.typeIs F.slot_tuple_iterator_next (wpAny_call_entry F.slot_tuple_iterator_next hit.typeIs F.entry_tuple_iterator_next ?_ (F.args_tuple_iterator_next_1 _)))
  show wpAny _ _ (field (.ref it) 0 >>= _) _ _ s
  refine wpAny_bind (wpAny_field hoi hdi (x := .ref t) rfl ?_)
  show wpAny _ _ (if (Value.ref t == Value.none) = true then _ else _) _ _ s
  rw [if_neg (show ¬ ((Value.ref t == Value.none) = true) from Bool.false_ne_true)]
  show wpAny _ _ (field (.ref it) 1 >>= _) _ _ s
  refine wpAny_bind (wpAny_field hoi hdi (x := .int i 0) rfl ?_)
  show wpAny _ _ (seqItems? (.ref t) >>= _) _ _ s
  refine wpAny_bind (wpAny_seqItems hot hdt ?_)
  simp only [Int.toNat_natCast, hx]
  refine wpAny_bind (wpAny_rule (wpAny_bind (wpAny_setField hoi hdi (by simp) ?_)))
  show wpAny _ _ (newExc (.type "StopIteration") [] >>= _) _ _ _
  refine wpAny_bind ?_
  simp only [newExc, newTuple]
  refine wpAny_bind (wpAny_newObj_type ?_ (by size_fits))
  refine wpAny_bind (m := firstArgMember _ _) (wpAny_of_eq (a := Value.none) (by first | rfl | (simp only [firstArgMember]; rfl)) ?_)
  refine wpAny_newObj_type ?_ (by size_fits)
  simp only [raiseNew]
  refine wpAny_bind (wpAny_handled ?_)
  first | rw [show A.in1.handled = none from hh] | rw [hh]
  refine wpAny_bind (wpAny_pure (wpAny_throw ?_))
  exact hE _ _ (((Heap.SameBut.update ..).extBut.push _).push _) ⟨_, Heap.get?_push_size _ rfl, rfl⟩
end
theorem draws_tup {prog : Program} {w : World} {A : Around} (hh : A.handled = none) (it t : Addr) (hne : t ≠ it) (items : Array Value) :
    Draws prog w A it [it, t] items.size (fun i v => items[i]? = some v) (fun i h => h.IsTupleIter it t i ∧ h.IsTuple t items) where
  live := fun _ _ st => let ⟨o, ho, _⟩ := st.1; ⟨o, ho⟩
  frame := fun _ _ _ st hk => ⟨let ⟨o, ho, r⟩ := st.1; ⟨o, hk it (by simp) o ho, r⟩, let ⟨o, ho, r⟩ := st.2; ⟨o, hk t (by simp) o ho, r⟩⟩
  item := fun i s Q E hi st hQ => by
    refine nextOf_tup st.1 st.2 (x := items[i]) (by simp [hi]) fun h' k1 k2 => ?_
    exact hQ _ h' s.toks (by simp [hi]) ⟨k1, st.2.extBut k2.extBut hne⟩ k2
  done := fun s Q E st hE => nextOf_tup_end hh st.1 st.2 (by simp) hE
theorem meets_enum_tup (l : Addr) (items : Array Value) (n : Nat) (dct : Option Addr) (sl : Array (Option Value)) :
    Meets (Builtin.«enumerate.__new__» ⟨[.type "enumerate", .ref l], []⟩) (fun _ R s => s.heap.get? l = some { cls := .type "tuple", dict := dct, data := .seq items n, slots := sl } ∧
      R (.ok (.ret (.ref (s.heap.push { cls := .type "tuple_iterator", data := .fields #[.ref l, .int 0 0] }).objs.size)))
        { s with heap := (s.heap.push { cls := .type "tuple_iterator", data := .fields #[.ref l, .int 0 0] }).push { cls := .type "enumerate", data := .fields #[.none, .bool false, .ref s.heap.objs.size, rawInt 0, .none, .none] } }) :=
  .of_wp fun prog w A R s h => by
    obtain ⟨hp, g, d, tk, os⟩ := s
    obtain ⟨hl, h⟩ := h
    have hsub := sub_enumerate
    have hL : Heap.IsTuple (Shared.heap ⟨hp, g, d, tk, os⟩) l items := ⟨_, hl, rfl, n, rfl⟩
    wp_walk using wpAny_loadPart' hl
    refine wpAny_stack_any fun st => wpAny_pure ?_
    split
    · rename_i c _ _ _ _ _
      cases (c == Value.type "enumerate")
      · wp_walk using wpAny_loadPart' hl, wpAny_pyIter_tuple hL
        exact ⟨_, rfl, h⟩
      · wp_walk using wpAny_loadPart' hl, wpAny_pyIter_tuple hL
        exact ⟨_, rfl, h⟩
    · wp_walk using wpAny_loadPart' hl, wpAny_pyIter_tuple hL
      exact ⟨_, rfl, h⟩
section
variable {prog : Program} {w : World} {A : Around} {E : Value → Shared → Prop} {s : Shared}
theorem call_enum_tup {l : Addr} {items : Array Value} {Q : Value → Shared → Prop} (hL : s.heap.IsTuple l items)
    (h : ∀ h', IsEnum h' (s.heap.objs.size + 1) s.heap.objs.size 0 .none → h'.IsTupleIter s.heap.objs.size l 0 → h'.objs.size = s.heap.objs.size + 2 → (∀ b o, s.heap.get? b = some o → h'.get? b = some o) → Q (.ref (s.heap.objs.size + 1)) { s with heap := h' }) :
    wpAny (model prog w) A (call (.type "enumerate") [.ref l]) Q E s := by
  obtain ⟨⟨c, dct, dt, sl⟩, hl, hc, n, hd⟩ := hL
  replace hc : c = .type "tuple" := hc
  replace hd : dt = .seq items n := hd
  subst hc hd
  refine callType_new F.called_enumerate (by decide) (F.typeCall_enumerate_1 _) (F.newCall_enumerate_1 _) (fun obj => F.args_object_init_2 obj _) F.entry_enumerate_new (meets_enum_tup l items n dct sl) ⟨hl, ?_⟩
  have hz : (s.heap.push { cls := .type "tuple_iterator", data := .fields #[.ref l, .int 0 0] }).objs.size = s.heap.objs.size + 1 := Heap.size_push ..
  show _ ∧ _
  rw [hz]
  have he : IsEnum ((s.heap.push { cls := .type "tuple_iterator", data := .fields #[.ref l, .int 0 0] }).push { cls := .type "enumerate", data := .fields #[.none, .bool false, .ref s.heap.objs.size, rawInt 0, .none, .none] }) (s.heap.objs.size + 1) s.heap.objs.size 0 .none := by
    have q := Heap.get?_push_size (s.heap.push { cls := .type "tuple_iterator", data := .fields #[.ref l, .int 0 0] }) (o := { cls := .type "enumerate", data := .fields #[.none, .bool false, .ref s.heap.objs.size, rawInt 0, .none, .none] }) rfl
    rw [hz] at q
    exact q
  exact ⟨⟨_, he, rfl⟩, h _ he ⟨_, Heap.get?_push_of_some _ (Heap.get?_push_size _ rfl), rfl, rfl⟩ (by rw [Heap.size_push, hz]) fun b o x => Heap.get?_push_of_some _ (Heap.get?_push_of_some _ x)⟩
/-- a tuple is collected into a new list -/
theorem collect_tup {l : Addr} {vs : List Value} {Q : List Value → Shared → Prop} (hl : s.heap.IsTuple l vs.toArray) (hsz : vs.length ≤ sizeLine)
    (h : Q vs { s with heap := (s.heap.push (seqObj "list" #[] 0)).update s.heap.objs.size (Obj.mapSeq (· ++ vs.toArray)) }) : wpAny (model prog w) A (collect (.ref l)) Q E s := by
  obtain ⟨o, ho, hc, n, hd⟩ := id hl
  unfold collect
  refine wpAny_bind (wpAny_runValue (codeAny_builtin entry_proto_collect' ?_))
  show wpAny _ _ (do again (.builtin "list.__iadd__" ⟨[← newList [], .ref l], []⟩)) _ _ s
  refine wpAny_bind (wpAny_newList (wpAny_pure ⟨Code.quiet_builtin _ (by decide +kernel), codeAny_builtin entry_list_iadd' ?_⟩))
  show wpAny _ _ (Builtin.List.listExtendWith (.ref s.heap.objs.size) (.ref l) (.ref s.heap.objs.size)) _ _ { s with heap := s.heap.push (seqObj "list" #[] 0) }
  unfold Builtin.List.listExtendWith
  have ho' : (s.heap.push (seqObj "list" #[] 0)).get? l = some o := Heap.get?_push_of_some _ ho
  refine wpAny_bind (wpAny_typeOf (T := "tuple") ⟨o, ho', hc⟩ ?_)
  have ht : (Value.type "tuple" == Value.type "tuple") = true := by rfl
  rw [if_pos (by rw [ht]; simp)]
  refine wpAny_bind (listItems_at ho' hd ?_)
  refine wpAny_bind (listItems_at (xs := #[]) (n := 0) (Heap.get?_push_size _ rfl) rfl ?_)
  rw [if_neg (by simp)]
  refine wpAny_bind (listUpdate_at (xs := #[]) (n := 0) (Heap.get?_push_size _ rfl) rfl ?_ (Nat.zero_le _) (by show (#[] ++ vs.toArray).size ≤ sizeLine + 1; simp only [Array.size_append, List.size_toArray, List.length_nil]; omega))
  refine wpAny_pure ?_
  show wpAny (model prog w) A (do
      let o ← load s.heap.objs.size
      match o.data with
      | .seq xs _ => pure xs.toList
      | _ => unsupported "internal:collect") Q E { s with heap := (s.heap.push (seqObj "list" #[] 0)).update s.heap.objs.size (Obj.mapSeq (· ++ vs.toArray)) }
  refine wpAny_bind (wpAny_load (get?_update_seq (Heap.get?_push_size _ rfl) _) ?_)
  show wpAny _ _ (pure ((#[] : Array Value) ++ vs.toArray).toList) Q E _
  rw [show ((#[] : Array Value) ++ vs.toArray).toList = vs by simp]
  exact wpAny_pure h
end

section
variable {prog : Program} {w : World} {A : Around} {E : Value → Shared → Prop} {s : Shared}
open SrtO in
/-- sorted of a tuple: the new list stands at size + 1 -/
theorem sorted_tup {l : Addr} {vs : List Value} {ltv : Value → Value → Bool} {Q : Value → Shared → Prop} (O : Swo ltv) (hl : s.heap.IsTuple l vs.toArray) (hz : vs.length ≤ sizeLine)
    (hS : 2 ≤ vs.length → ∀ (g : Heap) (a : Addr), g.get? a = some (seqObj "list" vs.toArray 0) → (∀ b o, s.heap.get? b = some o → b ≠ a ∧ g.get? b = some o) → SortableO prog w A.in1.in1 { s with heap := g } a vs ltv)
    (h : ∀ out : List Value, Srtd ltv out → Stb ltv out vs → Q (.ref (s.heap.objs.size + 1)) { s with heap := sortedAll s.heap vs out.toArray }) : wpAny (model prog w) A (call (.builtin "sorted") [.ref l]) Q E s := by
  refine Calls.call_function_entry kind_sorted plain_sorted entry_sorted (args_sorted1 _) ?_
  unfold Builtin.«sorted»
  refine wpAny_bind (m := checkCount "sorted" 1 1 _) (wpAny_pure ?_)
  refine wpAny_bind (collect_tup hl hz ?_)
  refine wpAny_bind (wpAny_newList ?_ hz)
  have e1 : ((s.heap.push (seqObj "list" #[] 0)).update s.heap.objs.size (Obj.mapSeq (· ++ vs.toArray))).objs.size = s.heap.objs.size + 1 := by rw [Heap.size_update, size_push']
  have e2 : (((s.heap.push (seqObj "list" #[] 0)).update s.heap.objs.size (Obj.mapSeq (· ++ vs.toArray))).push (seqObj "list" vs.toArray 0)).get? (s.heap.objs.size + 1) = some (seqObj "list" vs.toArray 0) := by
    rw [← e1]
    exact Heap.get?_push_size _ rfl
  have e3 : ∀ b o, s.heap.get? b = some o → b ≠ s.heap.objs.size + 1 ∧ (((s.heap.push (seqObj "list" #[] 0)).update s.heap.objs.size (Obj.mapSeq (· ++ vs.toArray))).push (seqObj "list" vs.toArray 0)).get? b = some o := fun b o q => by
    have lt : b < s.heap.objs.size := Heap.lt_size q
    refine ⟨Nat.ne_of_lt (Nat.lt_succ_of_lt lt), Heap.get?_push_of_some _ ?_⟩
    rw [Heap.get?_update_ne _ _ _ _ (Nat.ne_of_lt lt)]
    exact Heap.get?_push_of_some _ q
  show wpAny _ _ _ _ _ { s with heap := ((s.heap.push (seqObj "list" #[] 0)).update s.heap.objs.size (Obj.mapSeq (· ++ vs.toArray))).push (seqObj "list" vs.toArray 0) }
  rw [e1]
  refine wpAny_bind (wpAny_holding (wpAny_call_entry slot_list_sort ⟨_, e2, rfl⟩ entry_list_sort (list_sort_ord O e2 hz (fun h2 => hS h2 _ _ e2 e3) fun out hs hb => ⟨_, rfl, ?_⟩) (args_list_sort _)))
  exact wpAny_pure ⟨_, rfl, h out hs hb⟩
end
end Ru
namespace Ru
open PySem PySem.Spec PyProof.Rows L2
/-- one of two ways to walk -/
theorem pi_or {X : Cx} {tg e : Expr} {t u : TI} (a : PI X tg e t) (b : PI X tg e u) : PI X tg e (fun σ H R => t σ H R ∨ u σ H R) := ⟨fun pins s σ H R I h => h.elim (a.run pins s σ H R I) (b.run pins s σ H R I)⟩
theorem callR_or {X : Cx} {f : Value} {r r' : List V → Hp → VK → Prop} (a : CallR X f r) (b : CallR X f r') : CallR X f (fun vs H Q => r vs H Q ∨ r' vs H Q) := fun pins s σ H vs us Q I rv h => h.elim (a pins s σ H vs us Q I rv) (b pins s σ H vs us Q I rv)
/-- sorted(t), t a tuple of ints -/
def rSortedTup (K : PySem.W.Frag) : List V → Hp → VK → Prop := fun vs H Q => ∃ (a : Addr) (ns : List Int), vs = [V.ref a] ∧ SqT K H a (ns.map V.int) ∧
  ∀ (ms : List Int) (p : Addr), ms.Perm ns → ms.Pairwise (· ≤ ·) → H p = none → Q (.ref p) (upd H p (.lst (ms.map V.int)))
theorem cr_sortedTup {X : Cx} : CallR X (.builtin "sorted") (rSortedTup X.K) := by
  intro pins s σ H vs us Q I r h
  obtain ⟨a, ns, rfl, hs, q⟩ := h
  obtain ⟨its, rv, hl, hz⟩ := I.tuple hs
  rw [Vals.ref1 r]
  have hi := rv.ints
  refine sorted_tup SrtO.swo_int (show s.heap.IsTuple a its.toArray from hl) (by rw [← rv.length]; exact hz) (fun h2 g b _ _ => SrtO.ints_sortable hi h2) fun out h1 h2 => ?_
  obtain ⟨k1, k2, k3⟩ := SrtO.ints_out hi h1 h2
  obtain ⟨ep, he⟩ := PyProof.Rows.sortedAll_at s.heap its out.toArray
  have ln : ((out.map SrtO.iv).map V.int).length ≤ sizeLine := by
    rw [List.length_map, k2.length_eq]
    rw [List.length_map] at hz
    exact hz
  exact ⟨.ref _, upd H (s.heap.objs.size + 1) (.lst ((out.map SrtO.iv).map V.int)), I.laid (t' := s.toks) (fun _ _ => PyProof.Rows.sortedAll_old) (Nat.le_succ _) ⟨ln, out, ep, vals_of_ints k1, he⟩, rfl, q _ _ k2 k3 (I.hok.fresh (Nat.le_succ _))⟩
/-- enumerate of a tuple: each item in a new pair -/
def IteT (K : PySem.W.Frag) (a : Addr) : It :=
  ⟨fun i H => ∃ (xs : List V) (x : V), SqT K H a xs ∧ xs[i]? = some x, fun i H v H' => ∃ T x, v = .ref T ∧ H T = none ∧ H' = upd H T (.tup [.int (i : Nat), x]) ∧ ∀ xs, SqT K H a xs → xs[i]? = some x, fun i H => ∃ xs : List V, SqT K H a xs ∧ xs.length = i⟩
theorem turn_enumT {P : Program} {w : World} {K : PySem.W.Frag} {elts : List Expr} {kk : Nat} {tpos : Pos} (a e it : Addr) :
    Turn P w K (.Tuple elts kk tpos) (IteT K a) [e, it] e (fun i h => (∃ old, IsEnum h e it ((i : Nat) : Int) old) ∧ h.IsTupleIter it a i ∧ e ≠ it) where
  mem := by simp
  obj := fun i h st b hb => by
    obtain ⟨⟨old, he⟩, ⟨o, ho, hc, hd⟩, _⟩ := st
    have z : b = e ∨ b = it := by simpa using hb
    rcases z with z | z
    · rw [z]; exact ⟨_, he, fun v q => nomatch q⟩
    · rw [z]; exact ⟨o, ho, fun v q => by rw [hd] at q; cases q⟩
  keep := fun i h h' st k => let ⟨⟨old, he⟩, ⟨o, ho, r⟩, hne⟩ := st; ⟨⟨old, k e (by simp) _ he⟩, ⟨o, k it (by simp) o ho, r⟩, hne⟩
  item := by
    intro X hP hw hK hc i pins s σ H E I hf st hg
    subst hP hw hK
    obtain ⟨⟨old, he⟩, hit, hne⟩ := st
    obtain ⟨xs, x, hq, hx⟩ := hg
    obtain ⟨its, rv, p, hz⟩ := I.tuple hq
    obtain ⟨u, hu, ru⟩ := rv.get hx
    have hel : e < s.heap.objs.size := Heap.lt_size he
    have hil : it < s.heap.objs.size := by obtain ⟨_, q, _⟩ := hit; exact Heap.lt_size q
    have hat : a ≠ it := fun z => by
      obtain ⟨o, q1, q2, _⟩ := hit
      obtain ⟨o', q3, q4, _⟩ := (show s.heap.IsTuple a its.toArray from p)
      rw [← z, q3] at q1
      cases q1
      rw [q4] at q2
      exact absurd (Value.type.inj q2) (by decide)
    have hea : e ≠ a := fun z => by
      obtain ⟨o', q3, q4, _⟩ := (show s.heap.IsTuple a its.toArray from p)
      rw [← z, he] at q3
      cases q3
      exact absurd (Value.type.inj q4) (by decide)
    have hlt : i < its.toArray.size := by
      have := (List.getElem?_eq_some_iff.mp hu).1
      simpa using this
    refine wpAny_pyNext_enum_itemD (draws_tup (prog := X.prog) (w := X.w) (A := X.A.in1) (I.ok.hd hc) it a hat its.toArray) he ⟨hit, p⟩ hlt hne (by simp [hne, hea]) fun y h' tk hy ho st' hT hsz hk => ?_
    have hy' : y = u := by
      have z : its.toArray[i]? = some u := by simpa using hu
      rw [z] at hy
      exact (Option.some.inj hy).symm
    subst hy'
    refine ⟨_, rfl, wpAny_letOwnedTupleGo_enum (s := { s with heap := h', toks := tk + 1 }) ho fun h'' he' sb => ?_⟩
    have hT2 : h''.get? s.heap.objs.size = some { cls := .type "tuple", data := .seq #[.int i tk, y] } := (sb.2 _ (Nat.ne_of_gt hel)).trans hT
    have new : ObjOk X.prog X.w (upd H s.heap.objs.size (.tup [.int (i : Nat), x])) h'' s.heap.objs.size (.tup [.int (i : Nat), x]) :=
      ⟨by show 2 ≤ sizeLine; decide, [.int i tk, y], .cons ⟨_, rfl⟩ (.cons ru .nil), ⟨_, hT2, rfl, _, rfl⟩⟩
    have I1 : Inv X pins σ (upd H s.heap.objs.size (.tup [.int (i : Nat), x])) { s with heap := h'', toks := tk + 1 } :=
      I.turnedNew (ch := [e, it]) (fun b ob hb q => (sb.2 b (fun z => hb (by simp [z]))).trans (hk b ob (fun z => hb (by simp [z])) (fun z => hb (by simp [z])) q)) hf (Nat.le_refl _) new
    refine ⟨.ref s.heap.objs.size, _, I1, rfl, ⟨_, x, rfl, I.hok.fresh (Nat.le_refl _), rfl, fun ys hy => by rw [I.tuple_inj hy hq]; exact hx⟩, ⟨⟨y, ?_⟩, ?_, hne⟩, fun b hb => ?_⟩
    · have e1 : ((i + 1 : Nat) : Int) = (i : Int) + 1 := by omega
      rw [e1]; exact he'
    · obtain ⟨o, q, r⟩ := st'.1
      exact ⟨o, (sb.2 it (Ne.symm hne)).trans q, r⟩
    · have hb' : b < s.heap.objs.size := by
        have z : b = e ∨ b = it := by simpa using hb
        rcases z with z | z
        · rw [z]; exact hel
        · rw [z]; exact hil
      rw [upd_ne (Nat.ne_of_lt hb')]
      exact (hf b hb).1
  done := by
    intro X hP hw hK hc i pins s σ H E I hf st hg
    subst hP hw hK
    obtain ⟨⟨old, he⟩, hit, hne⟩ := st
    obtain ⟨xs, hq, hx⟩ := hg
    obtain ⟨its, rv, p, hz⟩ := I.tuple hq
    obtain ⟨f0, f1, f2, f3, f4, f5⟩ := hf it (by simp)
    have hl := rv.length
    have hat : a ≠ it := fun z => by
      obtain ⟨o, q1, q2, _⟩ := hit
      obtain ⟨o', q3, q4, _⟩ := (show s.heap.IsTuple a its.toArray from p)
      rw [← z, q3] at q1
      cases q1
      rw [q4] at q2
      exact absurd (Value.type.inj q2) (by decide)
    have hn : i = its.toArray.size := by simp; omega
    refine wpAny_pyNext_enum_endD (draws_tup (prog := X.prog) (w := X.w) (A := X.A.in1) (I.ok.hd hc) it a hat its.toArray) he (by rw [hn] at hit; exact ⟨hit, p⟩) fun h' eb => ⟨rfl, ?_⟩
    obtain ⟨g0, g1, g2, g3, g4, g5⟩ := hf e (by simp)
    obtain ⟨f0, f1, f2, f3, f4, f5⟩ := hf it (by simp)
    exact I.turned (t' := s.toks) (fun b o hb q => eb b o hb q) f0 f1 f3 f4 f5
  self := fun A i s Q E st h => let ⟨⟨_, he⟩, _⟩ := st; wpAny_pyIter_enum he h
def iEnumT (K : PySem.W.Frag) (ta : TA) : TI := fun σ H R => ta σ H fun vs H1 => ∃ a xs, vs = [.ref a] ∧ SqT K H1 a xs ∧ R (IteT K a) H1
theorem pi_enumT {X : Cx} {e : Expr} {ta : TA} {p pos tpos : Pos} {elts : List Expr} {kk : Nat} (hg : Gl X "enumerate") (hm : X.mg "enumerate" = none) (ha : PA X [e] ta) (hs : starEach [e] X.env = [(false, eval e X.env)] := by rfl) :
    PI X (.Tuple elts kk tpos) (.Call (.Name "enumerate" p) [e] [] pos) (iEnumT X.K ta) := by
  refine ⟨fun pins s σ H R I h => ?_⟩
  refine Call_ (ld_blt I hg hm boot_enumerate (PyProof.Rows.callWith_type1 (thn (ha.run pos pins s σ H _ I h) fun us s1 ⟨vs, H1, I1, r1, q1⟩ => ?_) hs rfl))
  obtain ⟨a, xs, ex, hq, q⟩ := q1
  subst ex
  cases r1 with
  | cons r rr =>
    cases rr
    cases r
    obtain ⟨its, rv, p', hz⟩ := I1.tuple hq
    refine call_enum_tup (show s1.heap.IsTuple a its.toArray from p') fun h' he hit hsz hk => wpAny_pyIter_enum he ?_
    have I2 : Inv X pins σ H1 { s1 with heap := h' } := I1.kept (t' := s1.toks) hk
    refine ⟨s1.heap.objs.size + 1, [s1.heap.objs.size + 1, s1.heap.objs.size], _, _, H1, rfl, I2, turn_enumT a (s1.heap.objs.size + 1) s1.heap.objs.size, ⟨⟨.none, he⟩, hit, Nat.succ_ne_self _⟩, fun b hb => ?_, q⟩
    have z : b = s1.heap.objs.size + 1 ∨ b = s1.heap.objs.size := by simpa using hb
    have hle : s1.heap.objs.size ≤ b := by
      rcases z with z | z
      · rw [z]; exact Nat.le_add_right _ _
      · rw [z]; exact Nat.le_refl _
    exact I1.fpOk hle (I1.hok.fresh hle)
/-- a loop over enumerate of a list that stands still -/
theorem for_enum {K : PySem.W.Frag} {a : Addr} {xs : List V} {g : TG} {tb : TS} {D : Ends} {σ : L2.St} {H : Hp} (Pv : Nat → L2.St → Hp → Prop) (h0 : Pv 0 σ H) (hl : ∀ i σ H, i ≤ xs.length → Pv i σ H → SqL K H a xs)
    (hs : ∀ i x σ H (T : Addr), xs[i]? = some x → Pv i σ H → H T = none → g (.ref T) σ (upd H T (.tup [.int (i : Nat), x])) fun σ2 H2 => tb { D with nx := Pv (i + 1), ct := Pv (i + 1), bk := D.nx } σ2 H2) (hd : ∀ σ H, Pv xs.length σ H → D.nx σ H) :
    ∃ W : Nat → Nat → L2.St → Hp → Prop, (∃ m, W 0 m σ H) ∧ ∀ i m σ H, W i m σ H →
      ((Ite K a).stop i H ∧ D.nx σ H) ∨ ((Ite K a).go i H ∧ ∃ N : L2.St → Hp → Prop, (∀ σ' H', N σ' H' → ∃ m', m' < m ∧ W (i + 1) m' σ' H') ∧ ∀ x H', (Ite K a).yld i H x H' → g x σ H' fun σ2 H2 => tb { D with nx := N, ct := N, bk := D.nx } σ2 H2) := by
  refine ⟨fun i m σ H => m = xs.length - i ∧ i ≤ xs.length ∧ Pv i σ H, ⟨xs.length, by simp, Nat.zero_le _, h0⟩, ?_⟩
  rintro i m σ H ⟨rfl, hi, p⟩
  have q := hl i σ H hi p
  by_cases lt : i < xs.length
  · refine .inr ⟨⟨xs, xs[i], q, by simp [lt]⟩, Pv (i + 1), fun σ' H' p' => ⟨xs.length - (i + 1), by omega, rfl, lt, p'⟩, fun x H' y => ?_⟩
    obtain ⟨T, z, rfl, hT, rfl, y⟩ := y
    exact hs i z σ H T (y xs q) p hT
  · have e : i = xs.length := by omega
    subst e
    exact .inl ⟨⟨xs, q, Nat.le_refl _⟩, hd σ H p⟩
theorem for_enumT {K : PySem.W.Frag} {a : Addr} {xs : List V} {g : TG} {tb : TS} {D : Ends} {σ : L2.St} {H : Hp} (Pv : Nat → L2.St → Hp → Prop) (h0 : Pv 0 σ H) (hl : ∀ i σ H, i ≤ xs.length → Pv i σ H → SqT K H a xs)
    (hs : ∀ i x σ H (T : Addr), xs[i]? = some x → Pv i σ H → H T = none → g (.ref T) σ (upd H T (.tup [.int (i : Nat), x])) fun σ2 H2 => tb { D with nx := Pv (i + 1), ct := Pv (i + 1), bk := D.nx } σ2 H2) (hd : ∀ σ H, Pv xs.length σ H → D.nx σ H) :
    ∃ W : Nat → Nat → L2.St → Hp → Prop, (∃ m, W 0 m σ H) ∧ ∀ i m σ H, W i m σ H →
      ((IteT K a).stop i H ∧ D.nx σ H) ∨ ((IteT K a).go i H ∧ ∃ N : L2.St → Hp → Prop, (∀ σ' H', N σ' H' → ∃ m', m' < m ∧ W (i + 1) m' σ' H') ∧ ∀ x H', (IteT K a).yld i H x H' → g x σ H' fun σ2 H2 => tb { D with nx := N, ct := N, bk := D.nx } σ2 H2) := by
  refine ⟨fun i m σ H => m = xs.length - i ∧ i ≤ xs.length ∧ Pv i σ H, ⟨xs.length, by simp, Nat.zero_le _, h0⟩, ?_⟩
  rintro i m σ H ⟨rfl, hi, p⟩
  have q := hl i σ H hi p
  by_cases lt : i < xs.length
  · refine .inr ⟨⟨xs, xs[i], q, by simp [lt]⟩, Pv (i + 1), fun σ' H' p' => ⟨xs.length - (i + 1), by omega, rfl, lt, p'⟩, fun x H' y => ?_⟩
    obtain ⟨T, z, rfl, hT, rfl, y⟩ := y
    exact hs i z σ H T (y xs q) p hT
  · have e : i = xs.length := by omega
    subst e
    exact .inl ⟨⟨xs, q, rfl⟩, hd σ H p⟩
/-! ### a row: a list or a tuple -/
def SqR (K : PySem.W.Frag) (H : Hp) (a : Addr) (xs : List V) : Prop := SqL K H a xs ∨ SqT K H a xs
theorem same_tup {K : PySem.W.Frag} {H H' : Hp} {a : Addr} {xs : List V} (e : Same H H') (h : SqT K H a xs) : SqT K H' a xs := by
  rcases h with (h | ⟨o, h⟩) | h
  · exact .inl (.inl (e _ _ h))
  · exact .inl (.inr ⟨o, e _ _ h⟩)
  · exact .inr h
theorem SqR.same {K : PySem.W.Frag} {H H' : Hp} {a : Addr} {xs : List V} (e : Same H H') (h : SqR K H a xs) : SqR K H' a xs := h.imp e.seq (same_tup e)
/-- a loop over a row that stands still -/
theorem for_row {K : PySem.W.Frag} {a : Addr} {xs : List V} {g : TG} {tb : TS} {D : Ends} {σ : L2.St} {H : Hp} {ta : TE} (ea : ∀ Q, Q (.ref a) H → ta σ H Q) (Pv : Nat → L2.St → Hp → Prop) {Hb : Hp} (hr : SqR K Hb a xs) (h0 : Pv 0 σ H) (hl : ∀ i σ H', i ≤ xs.length → Pv i σ H' → Same Hb H')
    (hs : ∀ i x σ H, xs[i]? = some x → Pv i σ H → g x σ H fun σ2 H2 => tb { D with nx := Pv (i + 1), ct := Pv (i + 1), bk := D.nx } σ2 H2) (hd : ∀ σ H, Pv xs.length σ H → D.nx σ H) :
    tFor (fun σ H R => iList K ta σ H R ∨ iTup K ta σ H R) g tb D σ H := by
  rcases hr with hr | hr
  · exact .inl (ea _ ⟨a, rfl, ⟨_, (hl 0 σ H (Nat.zero_le _) h0).seq hr⟩, for_list (K := K) (a := a) (xs := xs) Pv h0 (fun i σ H' hi p => (hl i σ H' hi p).seq hr) hs hd⟩)
  · exact .inr (ea _ ⟨a, rfl, ⟨_, same_tup (hl 0 σ H (Nat.zero_le _) h0) hr⟩, for_tup (K := K) (a := a) (xs := xs) Pv h0 (fun i σ H' hi p => same_tup (hl i σ H' hi p) hr) hs hd⟩)
/-- .. over enumerate of a row -/
theorem for_enumR {K : PySem.W.Frag} {a : Addr} {xs : List V} {g : TG} {tb : TS} {D : Ends} {σ : L2.St} {H : Hp} {ta : TA} (ea : ∀ Q, Q [.ref a] H → ta σ H Q) (Pv : Nat → L2.St → Hp → Prop) {Hb : Hp} (hr : SqR K Hb a xs) (h0 : Pv 0 σ H) (hl : ∀ i σ H', i ≤ xs.length → Pv i σ H' → Same Hb H')
    (hs : ∀ i x σ H (T : Addr), xs[i]? = some x → Pv i σ H → H T = none → g (.ref T) σ (upd H T (.tup [.int (i : Nat), x])) fun σ2 H2 => tb { D with nx := Pv (i + 1), ct := Pv (i + 1), bk := D.nx } σ2 H2) (hd : ∀ σ H, Pv xs.length σ H → D.nx σ H) :
    tFor (fun σ H R => iEnum K ta σ H R ∨ iEnumT K ta σ H R) g tb D σ H := by
  rcases hr with hr | hr
  · exact .inl (ea _ ⟨a, _, rfl, (hl 0 σ H (Nat.zero_le _) h0).seq hr, for_enum (K := K) (a := a) (xs := xs) Pv h0 (fun i σ H' hi p => (hl i σ H' hi p).seq hr) hs hd⟩)
  · exact .inr (ea _ ⟨a, _, rfl, same_tup (hl 0 σ H (Nat.zero_le _) h0) hr, for_enumT (K := K) (a := a) (xs := xs) Pv h0 (fun i σ H' hi p => same_tup (hl i σ H' hi p) hr) hs hd⟩)
theorem ty_L {K : PySem.W.Frag} {H : Hp} {a : Addr} {xs : List V} (h : SqL K H a xs) : TyX K H (.ref a) (.type "list") := by
  rcases h with (h | ⟨o, h⟩) | ⟨o, its, n, h1, h2, _⟩
  · exact .base (.lst h)
  · exact .base (.frz h)
  · exact .kList h1 h2
theorem ty_T {K : PySem.W.Frag} {H : Hp} {a : Addr} {xs : List V} (h : SqT K H a xs) : TyX K H (.ref a) (.type "tuple") := by
  rcases h with (h | ⟨o, h⟩) | ⟨o, its, n, h1, h2, _⟩
  · exact .base (.tup h)
  · exact .fTuple h
  · exact .kTuple h1 h2
/-- isinstance(row, (list, tuple)) -/
theorem isRow {K : PySem.W.Frag} {H : Hp} {a tp : Addr} {xs : List V} {Q : VK} (h : SqR K H a xs) (ht : H tp = some (.tup [.ty "list", .ty "tuple"])) (q : Q (.bl true) H) : rIsiT K [.ref a, .ref tp] H Q := by
  have pc : Paired ClsV [.ty "list", .ty "tuple"] [.type "list", .type "tuple"] := .cons (.ty _) (.cons (.ty _) .nil)
  rcases h with h | h
  · exact ⟨_, tp, _, _, _, true, rfl, ht, pc, ty_L h, kitAny_cons (kit_ty (r := true) (by decide +kernel)) (fun z => nomatch z) (fun _ => rfl), q⟩
  · exact ⟨_, tp, _, _, _, true, rfl, ht, pc, ty_T h, kitAny_cons (kit_ty (r := false) (by decide +kernel)) (fun _ => kitAny_cons (kit_ty (r := true) (by decide +kernel)) (fun z => nomatch z) (fun _ => rfl)) (fun z => nomatch z), q⟩
theorem sortedR {K : PySem.W.Frag} {H : Hp} {a : Addr} {ns : List Int} {Q : VK} (hp : SqR K H a (ns.map V.int)) (h : ∀ (ms : List Int) (p : Addr) (G : Hp), ms.Perm ns → ms.Pairwise (· ≤ ·) → G p = some (.lst (ms.map V.int)) → Same H G → H p = none → Q (.ref p) G) : rSortedI K [.ref a] H Q ∨ rSortedTup K [.ref a] H Q :=
  hp.imp (fun q => Rd.sortedI q h) fun q => ⟨a, ns, rfl, q, fun ms p h1 h2 h3 => h ms p _ h1 h2 upd_same (fun b u e => by rw [upd_ne (ne_of_none e h3)]; exact e) h3⟩
end Ru

/-! Readings of texts, comprehensions and own objects by their heads; letters. -/
namespace Rd
open PySem PySem.Spec PyProof.Rows L2
variable {X : Cx} {D : Ends} {σ : L2.St} {H : Hp} {K : PySem.W.Frag}
/-! ### texts -/
def nAddS : R2 := fun x y H Q => ∃ i j, x = .str i ∧ y = .str j ∧ i.length + j.length ≤ sizeLine ∧ Q (.str (i ++ j)) H
theorem o_addS : OpR X (binaryOp .Add) nAddS := op_add_str
theorem addS {i j : Str} {Q : VK} (hz : i.length + j.length ≤ sizeLine) (h : Q (.str (i ++ j)) H) : nAddS (.str i) (.str j) H Q := ⟨i, j, rfl, rfl, hz, h⟩
def nInC : R2 := fun x y H Q => ∃ (c : Nat) (z : Str), x = .str ⟨#[c]⟩ ∧ y = .str z ∧ Q (.bl (decide (c ∈ z.cps.toList))) H
theorem o_inC : OpR X (compareOp .In) nInC := op_in_sign
theorem inC {c : Nat} {z : Str} {Q : VK} (h : Q (.bl (decide (c ∈ z.cps.toList))) H) : nInC (.str ⟨#[c]⟩) (.str z) H Q := ⟨c, z, rfl, rfl, h⟩
theorem inCT {c : Nat} {z : Str} {Q : VK} (e : c ∈ z.cps.toList) (h : Q (.bl true) H) : nInC (.str ⟨#[c]⟩) (.str z) H Q := inC (by rw [decide_eq_true e]; exact h)
theorem nodup_take {α : Type} {l : List α} {i : Nat} {x : α} (nd : l.Nodup) (h : l[i]? = some x) : x ∉ l.take i := by
  intro m
  obtain ⟨j, hj, e⟩ := List.getElem_of_mem m
  rw [List.length_take] at hj
  have e2 : l[j]? = some x := by rw [← e, List.getElem_take]; exact List.getElem?_eq_getElem (by omega)
  have := (List.getElem?_inj (by omega) nd).mp (e2.trans h.symm)
  omega
theorem ixS {z : Str} {i : Int} {c : Nat} {Q : VK} (hz : z.length ≤ sizeLine) (e : atI z.cps.toList i = some c) (h : Q (.str ⟨#[c]⟩) H) : rIxS (.str z) (.int i) H Q := ⟨z, i, c, rfl, rfl, hz, e, h⟩
theorem inStrs {neg : Bool} {z : Str} {p : Addr} {ws : List Str} {Q : VK} (hp : SqL K H p (ws.map V.str) ∨ SqT K H p (ws.map V.str)) (h : Q (.bl (if neg then !decide (z ∈ ws) else decide (z ∈ ws))) H) : rIn K neg (.str z) (.ref p) H Q := by
  have e : inV (.str z) (ws.map V.str) = decide (z ∈ ws) := by
    unfold inV
    rw [List.any_map, Bool.eq_iff_iff, List.any_eq_true, decide_eq_true_iff]
    constructor
    · rintro ⟨y, hy, q⟩
      have : y = z := by simpa [eqV] using q
      exact this ▸ hy
    · intro hz
      exact ⟨z, hz, by simp [eqV]⟩
  exact Rd.inS hp rfl (flat_strs ws) (by rw [e]; exact h)
theorem inStrsY {z : Str} {p : Addr} {ws : List Str} {Q : VK} (hp : SqL K H p (ws.map V.str) ∨ SqT K H p (ws.map V.str)) (h : Q (.bl (decide (z ∈ ws))) H) : rIn K false (.str z) (.ref p) H Q := inStrs hp h
theorem inStrsN {z : Str} {p : Addr} {ws : List Str} {Q : VK} (hp : SqL K H p (ws.map V.str) ∨ SqT K H p (ws.map V.str)) (h : Q (.bl (!decide (z ∈ ws))) H) : rIn K true (.str z) (.ref p) H Q := inStrs hp h
theorem inInts {neg : Bool} {z : Int} {p : Addr} {ws : List Int} {Q : VK} (hp : SqL K H p (ws.map V.int) ∨ SqT K H p (ws.map V.int)) (h : Q (.bl (if neg then !decide (z ∈ ws) else decide (z ∈ ws))) H) : rIn K neg (.int z) (.ref p) H Q := by
  have e : inV (.int z) (ws.map V.int) = decide (z ∈ ws) := by
    unfold inV
    rw [List.any_map, Bool.eq_iff_iff, List.any_eq_true, decide_eq_true_iff]
    constructor
    · rintro ⟨y, hy, q⟩
      have : y = z := by simpa [eqV] using q
      exact this ▸ hy
    · intro hz
      exact ⟨z, hz, by simp [eqV]⟩
  exact Rd.inS hp rfl (by rw [List.all_map]; exact List.all_eq_true.mpr fun _ _ => rfl) (by rw [e]; exact h)
theorem inIntsY {z : Int} {p : Addr} {ws : List Int} {Q : VK} (hp : SqL K H p (ws.map V.int) ∨ SqT K H p (ws.map V.int)) (h : Q (.bl (decide (z ∈ ws))) H) : rIn K false (.int z) (.ref p) H Q := inInts hp h
theorem inIntsN {z : Int} {p : Addr} {ws : List Int} {Q : VK} (hp : SqL K H p (ws.map V.int) ∨ SqT K H p (ws.map V.int)) (h : Q (.bl (!decide (z ∈ ws))) H) : rIn K true (.int z) (.ref p) H Q := inInts hp h
theorem map_str {ns : List Str} {i : Nat} (h : i < ns.length) : (ns.map V.str)[i]? = some (.str ns[i]) := by simp [h]
theorem map_strG {ns : List Str} {i : Nat} {x : V} (h : (ns.map V.str)[i]? = some x) : ∃ n, ns[i]? = some n ∧ x = .str n := by
  rw [List.getElem?_map] at h
  cases e : ns[i]? with
  | none => rw [e] at h; cases h
  | some z => rw [e] at h; exact ⟨z, rfl, (Option.some.inj h).symm⟩
theorem map_refG {ns : List Addr} {i : Nat} {x : V} (h : (ns.map V.ref)[i]? = some x) : ∃ n, ns[i]? = some n ∧ x = .ref n := by
  rw [List.getElem?_map] at h
  cases e : ns[i]? with
  | none => rw [e] at h; cases h
  | some z => rw [e] at h; exact ⟨z, rfl, (Option.some.inj h).symm⟩
theorem map_ref {ns : List Addr} {i : Nat} (h : i < ns.length) : (ns.map V.ref)[i]? = some (.ref ns[i]) := by simp [h]
theorem ins {l : Addr} {xs : List V} {i : Int} {y : V} {Q : VK} (hp : H l = some (.lst xs)) (hz : xs.length < sizeLine) (h0 : 0 ≤ i) (h1 : i < 2 ^ 63) (h : ∀ G : Hp, G l = some (.lst (xs.take i.toNat ++ [y] ++ xs.drop i.toNat)) → (∀ b, b ≠ l → G b = H b) → Q .non G) :
    ∃ (l' : Addr) (xs' : List V) (i' : Int) (y' : V), V.ref l = .ref l' ∧ [V.int i, y] = [.int i', y'] ∧ H l' = some (.lst xs') ∧ xs'.length < sizeLine ∧ 0 ≤ i' ∧ i' < 2 ^ 63 ∧ Q .non (upd H l' (.lst (xs'.take i'.toNat ++ [y'] ++ xs'.drop i'.toNat))) :=
  ⟨l, xs, i, y, rfl, rfl, hp, hz, h0, h1, h _ upd_same fun b hb => upd_ne hb⟩
def nInsert : V → List V → Hp → VK → Prop := fun x vs H Q => ∃ (l : Addr) (xs : List V) (i : Int) (y : V), x = .ref l ∧ vs = [.int i, y] ∧ H l = some (.lst xs) ∧ xs.length < sizeLine ∧ 0 ≤ i ∧ i < 2 ^ 63 ∧
    Q .non (upd H l (.lst (xs.take i.toNat ++ [y] ++ xs.drop i.toNat)))
theorem m_insert : MtR X "list.insert" nInsert := mt_insert
theorem insert {l : Addr} {xs : List V} {i : Int} {y : V} {Q : VK} (hp : H l = some (.lst xs)) (hz : xs.length < sizeLine) (h0 : 0 ≤ i) (h1 : i < 2 ^ 63) (h : ∀ G : Hp, G l = some (.lst (xs.take i.toNat ++ [y] ++ xs.drop i.toNat)) → (∀ b, b ≠ l → G b = H b) → Q .non G) : nInsert (.ref l) [.int i, y] H Q :=
  ins hp hz h0 h1 h
/-! ### equal lists of texts -/
theorem dpAll_strs : ∀ ns : List Str, DpAll K H (ns.map V.str) (ns.map PyData.str)
  | [] => .nil
  | n :: ns => .cons (.str n) (dpAll_strs ns)
theorem canLay_strs : ∀ ns : List Str, (∀ z ∈ ns, PyData.strOk z = true) → PyData.canLayAll0 (ns.map PyData.str) = true
  | [], _ => rfl
  | n :: ns, h => by
    show (PyData.canLay0 (.str n) && PyData.canLayAll0 (ns.map PyData.str)) = true
    rw [canLay_strs ns fun z hz => h z (List.mem_cons_of_mem _ hz)]
    show (PyData.strOk n && true) = true
    rw [h n List.mem_cons_self]
    rfl
theorem depth_strs : ∀ ns : List Str, PyData.depthAll (ns.map PyData.str) = 0
  | [] => rfl
  | n :: ns => by
    show max (PyData.depth (.str n)) (PyData.depthAll (ns.map PyData.str)) = 0
    rw [depth_strs ns]
    rfl
theorem shaped_strs {ns : List Str} (h : ∀ z ∈ ns, PyData.strOk z = true) : SeqAt.shaped (.list (ns.map PyData.str)) = true := by
  have h1 : PyData.canLay0 (.list (ns.map PyData.str)) = true := canLay_strs ns h
  have h2 : PyData.depth (.list (ns.map PyData.str)) = 1 := by
    show PyData.depthAll (ns.map PyData.str) + 1 = 1
    rw [depth_strs]
  unfold SeqAt.shaped
  rw [h1, h2]
  rfl
theorem eqStrs {a b : Addr} {ns : List Str} {Q : VK} (h1 : SqL K H a (ns.map V.str)) (h2 : SqL K H b (ns.map V.str)) (h : ∀ z ∈ ns, PyData.strOk z = true) (q : Q (.bl true) H) : rEqD K (.ref a) (.ref b) H Q := by
  refine ⟨_, _, .lst h1 (dpAll_strs ns), .lst h2 (dpAll_strs ns), shaped_strs h, shaped_strs h, ?_⟩
  rw [SeqAt.eqv_refl _ (SeqAt.canLay_of_shaped (shaped_strs h))]
  exact q
theorem neStrs {a b : Addr} {ns : List Str} {Q : VK} (h1 : SqL K H a (ns.map V.str)) (h2 : SqL K H b (ns.map V.str)) (h : ∀ z ∈ ns, PyData.strOk z = true) (q : Q (.bl false) H) : rNeD K (.ref a) (.ref b) H Q := by
  refine ⟨_, _, .lst h1 (dpAll_strs ns), .lst h2 (dpAll_strs ns), shaped_strs h, shaped_strs h, ?_⟩
  rw [SeqAt.eqv_refl _ (SeqAt.canLay_of_shaped (shaped_strs h))]
  exact q
/-! ### equal lists of ints -/
theorem dpAll_ints : ∀ ns : List Int, DpAll K H (ns.map V.int) (ns.map PyData.int)
  | [] => .nil
  | n :: ns => .cons (.int n) (dpAll_ints ns)
theorem canLay_ints : ∀ ns : List Int, PyData.canLayAll0 (ns.map PyData.int) = true
  | [] => rfl
  | n :: ns => by
    show (PyData.canLay0 (.int n) && PyData.canLayAll0 (ns.map PyData.int)) = true
    rw [canLay_ints ns]
    rfl
theorem depth_ints : ∀ ns : List Int, PyData.depthAll (ns.map PyData.int) = 0
  | [] => rfl
  | n :: ns => by
    show max (PyData.depth (.int n)) (PyData.depthAll (ns.map PyData.int)) = 0
    rw [depth_ints ns]
    rfl
theorem shaped_ints (ns : List Int) : SeqAt.shaped (.list (ns.map PyData.int)) = true := by
  have h1 : PyData.canLay0 (.list (ns.map PyData.int)) = true := canLay_ints ns
  have h2 : PyData.depth (.list (ns.map PyData.int)) = 1 := by
    show PyData.depthAll (ns.map PyData.int) + 1 = 1
    rw [depth_ints]
  unfold SeqAt.shaped
  rw [h1, h2]
  rfl
theorem eqv_ints : ∀ (xs ys : List Int), PyData.eqvAll (xs.map PyData.int) (ys.map PyData.int) = decide (xs = ys)
  | [], [] => rfl
  | [], _ :: _ => rfl
  | _ :: _, [] => rfl
  | x :: xs, y :: ys => by
    show (PyData.eqv (.int x) (.int y) && PyData.eqvAll (xs.map PyData.int) (ys.map PyData.int)) = _
    rw [eqv_ints xs ys, Bool.eq_iff_iff]
    show ((x == y) && decide (xs = ys)) = true ↔ _
    simp
theorem eqInts {a b : Addr} {ns ms : List Int} {Q : VK} (h1 : SqL K H a (ns.map V.int)) (h2 : SqL K H b (ms.map V.int)) (q : Q (.bl (decide (ns = ms))) H) : rEqD K (.ref a) (.ref b) H Q := by
  refine ⟨_, _, .lst h1 (dpAll_ints ns), .lst h2 (dpAll_ints ms), shaped_ints ns, shaped_ints ms, ?_⟩
  show Q (.bl (PyData.eqvAll (ns.map PyData.int) (ms.map PyData.int))) H
  rw [eqv_ints]
  exact q
theorem neInts {a b : Addr} {ns ms : List Int} {Q : VK} (h1 : SqL K H a (ns.map V.int)) (h2 : SqL K H b (ms.map V.int)) (q : Q (.bl (!decide (ns = ms))) H) : rNeD K (.ref a) (.ref b) H Q := by
  refine ⟨_, _, .lst h1 (dpAll_ints ns), .lst h2 (dpAll_ints ms), shaped_ints ns, shaped_ints ms, ?_⟩
  show Q (.bl (!PyData.eqvAll (ns.map PyData.int) (ms.map PyData.int))) H
  rw [eqv_ints]
  exact q
/-! ### comprehensions -/
def Lc (J : It) (g : TG) (tt : TT) (te : TE) (vs : List Nat) (σ : L2.St) (H1 : Hp) (Q : VK) : Prop := ∀ D, H1 D = none → ∃ W : Nat → Nat → Hp → Prop, (∃ m, W 0 m (upd H1 D (.lst []))) ∧ ∀ i m H, W i m H →
  (J.stop i H ∧ Q (.ref D) H) ∨ (J.go i H ∧ ∃ Nx : Hp → Prop, (∀ H', Nx H' → ∃ m', m' < m ∧ W (i + 1) m' H') ∧ ∀ x H', J.yld i H x H' → g x (wipe σ vs) H' fun σ2 H2 => wipe σ2 vs = wipe σ vs ∧ tt σ2 H2 fun b H3 =>
    if b = true then te σ2 H3 fun y H4 => ∃ acc, H4 D = some (.lst acc) ∧ acc.length < sizeLine ∧ Nx (upd H4 D (.lst (acc ++ [y]))) else Nx H3)
theorem lc {wi : TI} {g : TG} {tt : TT} {te : TE} {vs : List Nat} {Q : VK} (h : wi σ H fun J H1 => Lc J g tt te vs σ H1 Q) : tLc wi g tt te vs σ H Q := h
theorem istr {te : TE} {R : It → Hp → Prop} (h : te σ H fun v H1 => ∃ x, v = .str x ∧ R (Its x) H1) : iStr te σ H R := h
theorem strE {z : Str} {P : Str → Prop} (h : P z) : ∃ x, V.str z = .str x ∧ P x := ⟨z, rfl, h⟩
theorem tyes {Q : Bool → Hp → Prop} (h : Q true H) : tYes σ H Q := h
/-- the state of a comprehension: the list at D holds acc, all ahead of it stands -/
def LcP (D : Addr) (H1 : Hp) (R : Nat → List V → Hp → Prop) : Nat → Hp → Prop := fun i H => ∃ acc, H D = some (.lst acc) ∧ Same H1 H ∧ R i acc H
def LcPush (D : Addr) (H1 : Hp) (R : Nat → List V → Hp → Prop) (i : Nat) (y : V) (H4 : Hp) : Prop := ∃ acc, H4 D = some (.lst acc) ∧ acc.length < sizeLine ∧ LcP D H1 R (i + 1) (upd H4 D (.lst (acc ++ [y])))
theorem lcPush {D : Addr} {H1 H4 : Hp} {R : Nat → List V → Hp → Prop} {i : Nat} {y : V} {acc : List V} (hD : H4 D = some (.lst acc)) (nD : H1 D = none) (s1 : Same H1 H4) (hz : acc.length < sizeLine) (r : ∀ G : Hp, G D = some (.lst (acc ++ [y])) → (∀ b, b ≠ D → G b = H4 b) → R (i + 1) (acc ++ [y]) G) : LcPush D H1 R i y H4 :=
  ⟨acc, hD, hz, acc ++ [y], upd_same, fun b o e => by rw [upd_ne (ne_of_none e nD)]; exact s1 b o e, r _ upd_same fun b hb => upd_ne hb⟩
theorem lcS {J : It} {n : Nat} {G : Hp → Prop} {Y : Nat → Hp → V → Hp → Prop} (w : Walk J n G Y) {g : TG} {tt : TT} {te : TE} {vs : List Nat} {H1 : Hp} {Q : VK} (hG : ∀ H, Same H1 H → G H) (R : Addr → Nat → List V → Hp → Prop)
    (r0 : ∀ (D : Addr) (G : Hp), H1 D = none → G D = some (.lst []) → Same H1 G → R D 0 [] G)
    (hs : ∀ (D : Addr) i x H H' acc, H1 D = none → i < n → H D = some (.lst acc) → Same H1 H → R D i acc H → Y i H x H' → g x (wipe σ vs) H' fun σ2 H2 => wipe σ2 vs = wipe σ vs ∧ tt σ2 H2 fun b H3 =>
      if b = true then te σ2 H3 fun y H4 => LcPush D H1 (R D) i y H4 else LcP D H1 (R D) (i + 1) H3)
    (hd : ∀ (D : Addr) acc H, H1 D = none → H D = some (.lst acc) → Same H1 H → R D n acc H → Q (.ref D) H) : Lc J g tt te vs σ H1 Q := fun D nD =>
  lc_it w (LcP D H1 (R D)) ⟨[], upd_same, same_upd nD, r0 D _ nD upd_same (same_upd nD)⟩ (fun i H hi ⟨acc, h1, h2, h3⟩ => hG H h2)
    (fun i x H H' hi ⟨acc, h1, h2, h3⟩ y => hs D i x H H' acc nD hi h1 h2 h3 y) (fun H ⟨acc, h1, h2, h3⟩ => hd D acc H nD h1 h2 h3)
/-- .. over a row: a list or a tuple -/
theorem lcRow {a : Addr} {xs : List V} {ta : TE} {g : TG} {tt : TT} {te : TE} {vs : List Nat} {H1 : Hp} {Q : VK} (ea : ∀ Q : VK, Q (.ref a) H1 → ta σ H1 Q) (hr : Ru.SqR K H1 a xs) (R : Addr → Nat → List V → Hp → Prop)
    (r0 : ∀ (D : Addr) (G : Hp), H1 D = none → G D = some (.lst []) → Same H1 G → R D 0 [] G)
    (hs : ∀ (D : Addr) i x H acc, H1 D = none → i < xs.length → H D = some (.lst acc) → Same H1 H → R D i acc H → xs[i]? = some x → g x (wipe σ vs) H fun σ2 H2 => wipe σ2 vs = wipe σ vs ∧ tt σ2 H2 fun b H3 =>
      if b = true then te σ2 H3 fun y H4 => LcPush D H1 (R D) i y H4 else LcP D H1 (R D) (i + 1) H3)
    (hd : ∀ (D : Addr) acc H, H1 D = none → H D = some (.lst acc) → Same H1 H → R D xs.length acc H → Q (.ref D) H) : (fun σ H R => iList K ta σ H R ∨ iTup K ta σ H R) σ H1 fun J H1 => Lc J g tt te vs σ H1 Q := by
  rcases hr with hr | hr
  · exact .inl (ea _ ⟨a, rfl, ⟨_, hr⟩, lcS walk_list (fun _ s => s.seq hr) R r0 (fun D i x H H' acc nD hi hD sm r ⟨e, hx⟩ => by cases e; exact hs D i x H acc nD hi hD sm r hx) hd⟩)
  · exact .inr (ea _ ⟨a, rfl, ⟨_, hr⟩, lcS walk_tup (fun _ s => Ru.same_tup s hr) R r0 (fun D i x H H' acc nD hi hD sm r ⟨e, hx⟩ => by cases e; exact hs D i x H acc nD hi hD sm r hx) hd⟩)
theorem wipeE {A B : L2.St} {P : Prop} (e : A = B) (h : P) : A = B ∧ P := ⟨e, h⟩
/-! ### list(range(..)) -/
theorem lstRg {te : L2.St → Hp → (Int → Int → Hp → Prop) → Prop} {Q : VK} (h : te σ H fun a b H1 => RgOk a b ∧ NewQ (.lst (rgV a b)) Q H1) : tLstRg te σ H Q := h
theorem tupRg {te : L2.St → Hp → (Int → Int → Hp → Prop) → Prop} {Q : VK} (h : te σ H fun a b H1 => RgOk a b ∧ NewQ (.tup (rgV a b)) Q H1) : tTupRg te σ H Q := h
theorem rg1 {ta : TE} {Q : Int → Int → Hp → Prop} (h : ta σ H fun x H1 => ∃ n, x = .int n ∧ Q 0 n H1) : tRg1 ta σ H Q := h
theorem rg2 {ta tb : TE} {Q : Int → Int → Hp → Prop} (h : ta σ H fun x H1 => tb σ H1 fun y H2 => ∃ i j, x = .int i ∧ y = .int j ∧ Q i j H2) : tRg2 ta tb σ H Q := h
theorem intE2 {i j : Int} {P : Int → Int → Prop} (h : P i j) : ∃ a b, V.int i = .int a ∧ V.int j = .int b ∧ P a b := ⟨i, j, rfl, rfl, h⟩
theorem rgV0 (n : Nat) : rgV 0 (n : Int) = ((List.range n).map fun i : Nat => (i : Int)).map V.int := by
  unfold rgV
  rw [List.map_map, show ((n : Int) - 0).toNat = n by omega]
  refine List.map_congr_left fun i _ => ?_
  show V.int (0 + (i : Nat)) = V.int (i : Int)
  rw [Int.zero_add]
/-! ### dicts with ints as keys -/
theorem dnew {Q : VK} (h : ∀ (p : Addr) (G : Hp), H p = none → G p = some (.dK []) → Same H G → Q (.ref p) G) : tDNewK σ H Q :=
  fun p hp => h p _ hp upd_same fun b u e => by rw [upd_ne (ne_of_none e hp)]; exact e
theorem dgetH {td ty : TE} {Q : VK} (h : td σ H fun x H1 => ty σ H1 fun y H2 => ∃ a v, x = .ref a ∧ DGet H2 a y (some v) ∧ Q v H2) : tDGet td ty σ H Q := h
theorem dget {a : Addr} {kvs : List (Key × V)} {k : Int} {v : V} {P : V → Prop} (e : H a = some (.dK kvs)) (hv : valV kvs (.inl k) = some v) (q : P v) : ∃ a' v', V.ref a = .ref a' ∧ DGet H a' (.int k) (some v') ∧ P v' :=
  ⟨a, v, rfl, hv ▸ DGet.k (k := .inl k) e, q⟩
theorem dgetF {a : Addr} {o : Obj} {kvs : List (Key × V)} {k : Int} {v : V} {P : V → Prop} (e : H a = some (.frz o (.dK kvs))) (hv : valV kvs (.inl k) = some v) (q : P v) : ∃ a' v', V.ref a = .ref a' ∧ DGet H a' (.int k) (some v') ∧ P v' :=
  ⟨a, v, rfl, .inl ⟨kvs, .inl k, .inr ⟨o, e⟩, rfl, hv.symm⟩, q⟩
theorem dinH {ty td : TE} {Q : VK} (h : ty σ H fun y H1 => td σ H1 fun x H2 => ∃ a o, x = .ref a ∧ DGet H2 a y o ∧ Q (.bl o.isSome) H2) : tDIn ty td σ H Q := h
theorem dninH {ty td : TE} {Q : VK} (h : ty σ H fun y H1 => td σ H1 fun x H2 => ∃ a o, x = .ref a ∧ DGet H2 a y o ∧ Q (.bl (!o.isSome)) H2) : tDNotIn ty td σ H Q := h
theorem dany {a : Addr} {kvs : List (Key × V)} {k : Int} {P : Option V → Prop} (e : H a = some (.dK kvs)) (q : P (valV kvs (.inl k))) : ∃ a' o, V.ref a = .ref a' ∧ DGet H a' (.int k) o ∧ P o :=
  ⟨a, _, rfl, DGet.k (k := .inl k) e, q⟩
theorem dput {a : Addr} {kvs : List (Key × V)} {k : Int} {v : V} {Q : Hp → Prop} (e : H a = some (.dK kvs)) (hl : kvs.length < sizeLine) (h : ∀ G : Hp, G a = some (.dK (putK kvs (.inl k) v)) → (∀ b, b ≠ a → G b = H b) → Q G) : rSetD (.ref a) (.int k) v H Q :=
  ⟨a, _, rfl, DPut.k (k := .inl k) e hl, h _ upd_same fun b hb => upd_ne hb⟩
theorem dget1H {td ty : TE} {Q : VK} (h : td σ H fun x H1 => ∃ a, x = .ref a ∧ IsD H1 a ∧ ty σ H1 fun y H2 => ∃ o, DGet H2 a y o ∧ Q (o.getD .non) H2) : tDGet1 td ty σ H Q := h
theorem isD {a : Addr} {kvs : List (Key × V)} {P : Addr → Prop} (e : H a = some (.dK kvs)) (q : P a) : ∃ a', V.ref a = .ref a' ∧ IsD H a' ∧ P a' := ⟨a, rfl, .inl ⟨kvs, .inl e⟩, q⟩
theorem dgetO {a : Addr} {kvs : List (Key × V)} {k : Int} {P : Option V → Prop} (e : H a = some (.dK kvs)) (q : P (valV kvs (.inl k))) : ∃ o, DGet H a (.int k) o ∧ P o := ⟨_, DGet.k (k := .inl k) e, q⟩
/-- a for over the keys of a dict that is written nowhere in it -/
theorem forD {td : TE} {g : TG} {tb : TS} {a : Addr} {kvs : List (Key × V)} (hd : H a = some (.dK kvs)) (et : ∀ (H1 : Hp) (Q : VK), Q (.ref a) H1 → td σ H1 Q) (Pv : Nat → L2.St → Hp → Prop)
    (h0 : ∀ od, Pv 0 σ (upd H a (.frz od (.dK kvs)))) (hs : ∀ od i k v σ H, kvs[i]? = some (k, v) → H a = some (.frz od (.dK kvs)) → Pv i σ H → g (kV k) σ H fun σ2 H2 => tb { nx := fun σ' H' => H' a = some (.frz od (.dK kvs)) ∧ Pv (i + 1) σ' H', rt := fun v H' => H' a = some (.frz od (.dK kvs)) ∧ D.rt v (upd H' a (.dK kvs)), bk := fun σ' H' => H' a = some (.frz od (.dK kvs)) ∧ D.nx σ' (upd H' a (.dK kvs)), ct := fun σ' H' => H' a = some (.frz od (.dK kvs)) ∧ Pv (i + 1) σ' H' } σ2 H2)
    (hn : ∀ od σ H, H a = some (.frz od (.dK kvs)) → Pv kvs.length σ H → D.nx σ (upd H a (.dK kvs))) : tLock (tFor (iKeys td) g tb) D σ H := by
  refine ⟨a, .dK kvs, hd, trivial, fun od => ?_⟩
  refine et _ _ ⟨a, od, rfl, .inl ⟨kvs, upd_same, ?_⟩⟩
  exact for_it walk_keys (fun i σ H => H a = some (.frz od (.dK kvs)) ∧ Pv i σ H) ⟨upd_same, h0 od⟩ (fun i σ H _ h => h.1)
    (fun i x σ H H' hi ⟨h1, h2⟩ ⟨e, k, v, hk, hx⟩ => by cases e; cases hx; exact hs od i k v σ H hk h1 h2) (fun σ H ⟨h1, h2⟩ => ⟨h1, hn od σ H h1 h2⟩)
def nListD : List V → Hp → VK → Prop := fun xs H Q => ∃ p kvs, xs = [.ref p] ∧ H p = some (.dK kvs) ∧ ∀ q, H q = none → Q (.ref q) (upd H q (.lst (kvs.map fun kv => kV kv.1)))
theorem listD {a : Addr} {kvs : List (Key × V)} {Q : VK} (e : H a = some (.dK kvs)) (h : NewQ (.lst (kvs.map fun kv => kV kv.1)) Q H) : rListD [.ref a] H Q := ⟨a, kvs, rfl, e, h⟩
/-! ### joins -/
theorem m1 {r : V → List V → Hp → VK → Prop} {to te : TE} {Q : VK} (h : to σ H fun x H1 => (∃ a, x = .str a) ∧ te σ H1 fun y H2 => r x [y] H2 Q) : tM1 r to te σ H Q := h
theorem strX {a : Str} {R : Prop} (h : R) : (∃ b, V.str a = .str b) ∧ R := ⟨⟨a, rfl⟩, h⟩
theorem join {a : Str} {p : Addr} {ys : List Str} {Q : VK} (hp : SqL K H p (ys.map V.str) ∨ SqT K H p (ys.map V.str)) (hz : (ys.map (·.length)).sum + ys.length * a.length ≤ 16777216) (h : Q (.str (Txt.join a ys)) H) :
    ∃ a' p', ∃ ys' : List Str, V.str a = .str a' ∧ [V.ref p] = [.ref p'] ∧ (SqL K H p' (ys'.map V.str) ∨ SqT K H p' (ys'.map V.str)) ∧ (ys'.map (·.length)).sum + ys'.length * a'.length ≤ 16777216 ∧ Q (.str (Txt.join a' ys')) H := ⟨a, p, ys, rfl, rfl, hp, hz, h⟩
/-! ### own objects -/
def FldG (K : PySem.W.Frag) (f : Str) : V → Hp → VK → Prop := fun x H1 Q => ∃ a C dx fs v, x = .ref a ∧ H1 a = some (.ins C dx fs) ∧ Cls K C ∧ NoAttr K C f ∧ fs.lookup f = some v ∧ Q v H1
theorem fldH {ta : TE} {f : Str} {Q : VK} (h : ta σ H fun x H1 => FldG K f x H1 Q) : tFld K ta f σ H Q := h
theorem fld {f : Str} {a C dx : Addr} {fs : List (Str × V)} {v : V} {Q : VK} (e : H a = some (.ins C dx fs)) (c : Cls K C) (n : NoAttr K C f) (l : fs.lookup f = some v) (q : Q v H) : FldG K f (.ref a) H Q := ⟨a, C, dx, fs, v, rfl, e, c, n, l, q⟩
def FldS (K : PySem.W.Frag) (f : Str) (y : V) : V → Hp → (Hp → Prop) → Prop := fun x H2 Q => ∃ a C dx fs, x = .ref a ∧ H2 a = some (.ins C dx fs) ∧ Cls K C ∧ NoAttr K C f ∧ fs.length < 1000 ∧ Q (upd H2 a (.ins C dx (putF f y fs)))
theorem sfldH {ta tv : TE} {f : Str} (h : tv σ H fun y H1 => ta σ H1 fun x H2 => FldS K f y x H2 (D.nx σ)) : sFld K ta tv f D σ H := h
theorem sfld {f : Str} {a C dx : Addr} {fs fs' : List (Str × V)} {y : V} {Q : Hp → Prop} (e : H a = some (.ins C dx fs)) (c : Cls K C) (n : NoAttr K C f) (l : fs.length < 1000) (hf : putF f y fs = fs') (q : ∀ G : Hp, G a = some (.ins C dx fs') → (∀ b, b ≠ a → G b = H b) → Q G) : FldS K f y (.ref a) H Q :=
  ⟨a, C, dx, fs, rfl, e, c, n, l, hf ▸ q _ upd_same fun b hb => upd_ne hb⟩
def MkG (C : Addr) (sp : Sp) (dvs : List V) (E : XK) (vs : List V) (H1 : Hp) (Q : VK) : Prop := ∀ x dx, H1 x = none → H1 dx = none → dx ≠ x → sp (.ref x :: (vs ++ dvs)) (upd (upd H1 dx (.own x)) x (.ins C dx [])) (fun v H2 => v = .non ∧ Q (.ref x) H2) E
theorem mkH {C : Addr} {sp : Sp} {dvs : List V} {E : XK} {t : TA} {Q : VK} (h : t σ H fun vs H1 => MkG C sp dvs E vs H1 Q) : tMake C sp dvs E t σ H Q := h
theorem mk {C : Addr} {sp : Sp} {dvs : List V} {E : XK} {vs : List V} {Q : VK} (h : ∀ (x dx : Addr) (G : Hp), H x = none → H dx = none → dx ≠ x → G x = some (.ins C dx []) → Same H G → (∀ b, b ≠ x → b ≠ dx → G b = H b) → sp (.ref x :: (vs ++ dvs)) G (fun v H2 => v = .non ∧ Q (.ref x) H2) E) : MkG C sp dvs E vs H Q := fun x dx hx hd hne =>
  h x dx _ hx hd hne upd_same (fun b o e => by rw [upd_ne (ne_of_none e hx), upd_ne (ne_of_none e hd)]; exact e) fun b h1 h2 => by rw [upd_ne h1, upd_ne h2]
def MethG (C : Addr) (m : Str) (x : V) (H : Hp) (Q : Prop) : Prop := ∃ a dx fs, x = .ref a ∧ H a = some (.ins C dx fs) ∧ fs.lookup m = none ∧ Q
theorem methH {C : Addr} {m : Str} {sp : Sp} {dvs : List V} {E : XK} {ta : TE} {t : TA} {Q : VK} (h : ta σ H fun x H1 => MethG C m x H1 (t σ H1 fun vs H2 => sp (x :: (vs ++ dvs)) H2 Q E)) : tMeth C m sp dvs E ta t σ H Q := h
theorem meth {C : Addr} {m : Str} {a dx : Addr} {fs : List (Str × V)} {Q : Prop} (e : H a = some (.ins C dx fs)) (l : fs.lookup m = none) (q : Q) : MethG C m (.ref a) H Q := ⟨a, dx, fs, rfl, e, l, q⟩
/-! ### isinstance -/
theorem isi {x : V} {a b : String} {r : Bool} {Q : VK} (ht : TyX K H x (.type a)) (h : kitB a b = some r) (q : Q (.bl r) H) : rIsi K [x, .ty b] H Q := ⟨_, _, _, _, r, rfl, .ty b, ht, kit_ty h, q⟩
theorem isiStr {z : Str} {Q : VK} (q : Q (.bl true) H) : rIsi K [.str z, .ty "str"] H Q := isi (.base (.str z)) (by decide +kernel) q
theorem isiB {z : Bool} {Q : VK} (q : Q (.bl true) H) : rIsi K [.bl z, .ty "bool"] H Q := isi (.base (.bl z)) (by decide +kernel) q
theorem isiI {z : Int} {Q : VK} (q : Q (.bl true) H) : rIsi K [.int z, .ty "int"] H Q := isi (.base (.int z)) (by decide +kernel) q
theorem isiIB {z : Int} {Q : VK} (q : Q (.bl false) H) : rIsi K [.int z, .ty "bool"] H Q := isi (.base (.int z)) (by decide +kernel) q
end Rd
namespace W
open PySem PySem.Spec PyProof.Rows L2
theorem kit_self {K : PySem.W.Frag} {C : Addr} : PySem.W.kitOne K (.ref C) (.ref C) = some true := by
  unfold PySem.W.kitOne
  simp
/-- what isinstance asks of an own class -/
structure OwnTy (K : PySem.W.Frag) (C : Addr) : Prop where
  ha : PySem.W.findIn K (.ref C) "__class__" = some (some (.builtin "object.__class__"))
  hn : PySem.W.specialIn K (.builtin "object.__class__") "__get__" = some (some (.builtin "getset_descriptor.__get__"))
  htk : PySem.W.takesIn K (.builtin "object.__class__") = some true
  hm : PySem.W.mroIn K C (.type "object") = some true
  me : PySem.W.kitOne K (.ref C) (.ref C) = some true
theorem isiOwn {K : PySem.W.Frag} {H : Hp} {a C dx : Addr} {fs : List (Str × V)} {Q : VK} (c : Cls K C) (o : OwnTy K C) (e : H a = some (.ins C dx fs)) (q : Q (.bl true) H) : rIsi K [.ref a, .ref C] H Q :=
  ⟨_, _, _, _, true, rfl, .own C, .base (.ins e c o.ha o.hn o.htk o.hm), o.me, q⟩
end W
/-! ### letters -/
namespace Lt
open PySem PySem.Spec PyProof.Rows L2
def Abc : Str := "abcdefghijklmnopqrstuvwxyz"
def Let (z : Str) : Prop := ∀ c ∈ z.cps.toList, c ∈ Abc.cps.toList
theorem Let.app {a b : Str} (x : Let a) (y : Let b) : Let (a ++ b) := fun c h => by
  have : c ∈ a.cps.toList ++ b.cps.toList := by
    rw [← Array.toList_append]
    exact h
  exact (List.mem_append.mp this).elim (x c) (y c)
theorem len_app (a b : Str) : (a ++ b).length = a.length + b.length := Array.size_append
theorem Let.cut {z : Str} (x : Let z) (lo hi : Option Int) : Let (cutS z lo hi) := fun c h => x c (List.mem_of_mem_drop (List.mem_of_mem_take (show c ∈ (z.cps.toList.drop _).take _ from by simpa [cutS] using h)))
theorem Let.one {c : Nat} (h : c ∈ Abc.cps.toList) : Let ⟨#[c]⟩ := fun d hd => by
  have : d = c := by simpa using hd
  exact this ▸ h
theorem Let.empty : Let "" := fun c h => by exact absurd h (by decide +revert)
theorem Let.ok {z : Str} (x : Let z) : PyData.strOk z = true := by
  unfold PyData.strOk
  rw [Array.all_eq_true']
  intro c hc
  have h := x c (by simpa using hc)
  have : ∀ c ∈ Abc.cps.toList, decide (c < 0x110000) = true := by decide +kernel
  exact this c h
theorem Let.char {z : Str} (x : Let z) {c : Nat} {i : Nat} (h : z.cps.toList[i]? = some c) : c ∈ Abc.cps.toList := x c (List.mem_of_getElem? h)
theorem cut_len {z : Str} {a b : Nat} (h : a ≤ b) (hb : b ≤ z.length) : (cutS z (some (a : Int)) (some (b : Int))).length = b - a := by
  show (((z.cps.toList.drop (HT.sIx z.length 0 (some (a : Int)))).take (HT.sIx z.length z.length (some (b : Int)) - HT.sIx z.length 0 (some (a : Int)))).toArray).size = b - a
  rw [List.size_toArray, List.length_take, List.length_drop, Array.length_toList, HT.sIx_nat, HT.sIx_nat]
  unfold Str.length at hb ⊢
  omega
theorem cut_lenI {z : Str} {a b : Int} (h0 : 0 ≤ a) (h : a ≤ b) (hb : b ≤ z.length) : ((cutS z (some a) (some b)).length : Int) = b - a := by
  have := cut_len (z := z) (a := a.toNat) (b := b.toNat) (by omega) (by omega)
  rw [show ((a.toNat : Nat) : Int) = a by omega, show ((b.toNat : Nat) : Int) = b by omega] at this
  omega
theorem cut_from {z : Str} {a : Int} (h0 : 0 ≤ a) (h : a ≤ z.length) : ((cutS z (some a) none).length : Int) = z.length - a := by
  have e : (cutS z (some a) none).length = z.length - a.toNat := by
    show (((z.cps.toList.drop (HT.sIx z.length 0 (some a))).take (HT.sIx z.length z.length none - HT.sIx z.length 0 (some a))).toArray).size = _
    have e1 : HT.sIx z.length 0 (some a) = a.toNat := by
      have := HT.sIx_nat z.length 0 a.toNat
      rw [show ((a.toNat : Nat) : Int) = a by omega] at this
      rw [this]
      omega
    rw [List.size_toArray, List.length_take, List.length_drop, Array.length_toList, e1]
    show min (z.length - a.toNat) (z.cps.size - a.toNat) = _
    unfold Str.length
    omega
  omega
theorem cut_to {z : Str} {b : Int} (h0 : 0 ≤ b) : ((cutS z none (some b)).length : Int) = min b z.length := by
  have e : (cutS z none (some b)).length = min b.toNat z.length := by
    show (((z.cps.toList.drop (HT.sIx z.length 0 none)).take (HT.sIx z.length z.length (some b) - HT.sIx z.length 0 none)).toArray).size = _
    have e1 : HT.sIx z.length z.length (some b) = min b.toNat z.length := by
      have := HT.sIx_nat z.length z.length b.toNat
      rw [show ((b.toNat : Nat) : Int) = b by omega] at this
      exact this
    have e2 : HT.sIx z.length 0 none = 0 := rfl
    rw [List.size_toArray, List.length_take, List.length_drop, Array.length_toList, e1, e2]
    unfold Str.length
    omega
  omega
theorem join_let : ∀ ys : List Str, (∀ y ∈ ys, Let y) → Let (Str.join "" ys) ∧ (Str.join "" ys).length = (ys.map (·.length)).sum
  | [], _ => ⟨fun c h => by exact absurd h (by decide +revert), by decide +kernel⟩
  | [y], h => ⟨h y (by simp), by simp [Str.join]⟩
  | y :: z :: r, h => by
    have ih := join_let (z :: r) fun x hx => h x (List.mem_cons_of_mem _ hx)
    have e : Str.join "" (y :: z :: r) = y ++ "" ++ Str.join "" (z :: r) := rfl
    rw [e]
    refine ⟨((h y List.mem_cons_self).app Let.empty).app ih.1, ?_⟩
    rw [len_app, len_app, ih.2, show (Str.ofString "").length = 0 by decide +kernel]
    show y.length + 0 + _ = (y.length :: (z :: r).map (·.length)).sum
    rw [List.sum_cons]
    rfl
theorem join_one {ys : List Str} {n : Nat} (hl : ys.length = n) (h : ∀ y ∈ ys, Let y ∧ y.length = 1) : Let (Txt.join "" ys) ∧ (Txt.join "" ys).length = n ∧ (ys.map (·.length)).sum = n := by
  have j := join_let ys fun y hy => (h y hy).1
  have e : (ys.map (·.length)).sum = ys.length := by
    clear j hl
    induction ys with
    | nil => rfl
    | cons y r ih => rw [List.map_cons, List.sum_cons, ih fun x hx => h x (List.mem_cons_of_mem _ hx), (h y List.mem_cons_self).2, List.length_cons]; omega
  rw [TL.join_eq]
  exact ⟨j.1, by rw [j.2, e, hl], by rw [e, hl]⟩
theorem ne_of_len {z : Str} (h : 0 < z.length) : ¬ z = "" := fun e => by
  subst e
  exact absurd h (by decide +revert)
theorem len_of_ne {z : Str} (h : ¬ z = "") : 0 < z.length := by
  rcases Nat.eq_zero_or_pos z.length with e | e
  · exfalso
    refine h ?_
    have : z.cps = #[] := Array.eq_empty_of_size_eq_zero e
    cases z
    simp only at this
    subst this
    decide +kernel
  · exact e
/-- a word: some letters, at least one, at most n -/
structure Wd (n : Int) (z : Str) : Prop where
  ok : Let z
  l0 : 1 ≤ z.length
  l1 : (z.length : Int) ≤ n
theorem Wd.mono {n m : Int} {z : Str} (h : Wd n z) (k : n ≤ m) : Wd m z := ⟨h.ok, h.l0, Int.le_trans h.l1 k⟩
theorem Wd.line {n : Int} {z : Str} (h : Wd n z) (k : n ≤ 1000000) : z.length ≤ sizeLine := by
  have := h.l1
  rw [sizeLine_eq]
  omega
end Lt
namespace W
open PySem PySem.Spec PyProof.Rows L2
/-! ### the tape, books -/
def Tape (H : Hp) (t c : Addr) : Prop := ∃ (ns : List Int) (x y z u : Int), t ≠ c ∧ H t = some (.lst [.ref c, .int x, .int y, .int z, .int u]) ∧ H c = some (.lst (ns.map V.int)) ∧ 0 ≤ x ∧ x ≤ ns.length ∧ 0 ≤ z ∧ z < 2147483647
theorem Tape.same {H H' : Hp} {t c : Addr} (h : Tape H t c) (s : Same H H') : Tape H' t c := by
  obtain ⟨ns, x, y, z, u, n, h1, h2, r⟩ := h
  exact ⟨ns, x, y, z, u, n, s _ _ h1, s _ _ h2, r⟩
theorem Tape.off {H H' : Hp} {t c l : Addr} (h : Tape H t c) (h1 : l ≠ t) (h2 : l ≠ c) (e : ∀ b, b ≠ l → H' b = H b) : Tape H' t c := by
  obtain ⟨ns, x, y, z, u, n, g1, g2, r⟩ := h
  exact ⟨ns, x, y, z, u, n, by rw [e t h1.symm]; exact g1, by rw [e c h2.symm]; exact g2, r⟩
theorem Tape.new {H : Hp} {t c l : Addr} (h : Tape H t c) (n : H l = none) : l ≠ t ∧ l ≠ c := by
  obtain ⟨ns, x, y, z, u, _, g1, g2, r⟩ := h
  exact ⟨(ne_of_none g1 n).symm, (ne_of_none g2 n).symm⟩
theorem _root_.Rd.tape_same {H H' : Hp} {t c : Addr} (s : Same H H') (h : Tape H t c) : Tape H' t c := h.same s
theorem _root_.Rd.ntT {H : Hp} {t c l : Addr} (n : H l = none) (h : Tape H t c) : l ≠ t := (h.new n).1
theorem _root_.Rd.ntT' {H : Hp} {t c l : Addr} (n : H l = none) (h : Tape H t c) : l ≠ c := (h.new n).2
/-- some watches: no two alike, at most twelve, each of some letters -/
structure Watches (ws : List Str) : Prop where
  nd : ws.Nodup
  l1 : ws.length ≤ 12
  ok : ∀ z ∈ ws, Lt.Wd 12 z
/-- a book of the watches ws stands at b -/
def BookAt (C : Addr) (H : Hp) (b : Addr) (ws : List Str) : Prop := ∃ dx t, H b = some (.ins C dx [("watches", .ref t)]) ∧ H t = some (.tup (ws.map V.str))
theorem BookAt.same {C : Addr} {H H' : Hp} {b : Addr} {ws : List Str} (h : BookAt C H b ws) (s : Same H H') : BookAt C H' b ws := let ⟨dx, t, h1, h2⟩ := h; ⟨dx, t, s _ _ h1, s _ _ h2⟩
theorem BookAt.but {C t c : Addr} {H H' : Hp} {b : Addr} {ws : List Str} (h : BookAt C H b ws) (tp : Tape H t c) (s : Rd.But t H H') : BookAt C H' b ws := by
  obtain ⟨dx, q, h1, h2⟩ := h
  obtain ⟨ns, x, y, z, u, _, g1, g2, r⟩ := tp
  exact ⟨dx, q, s _ _ (ne_of h1 g1 (fun e => nomatch e)) h1, s _ _ (ne_of h2 g1 (fun e => nomatch e)) h2⟩
theorem snoc_nodup {α : Type} {ws : List α} {y : α} (nd : ws.Nodup) (q : ¬ y ∈ ws) : (ws ++ [y]).Nodup := by
  rw [List.nodup_append]
  exact ⟨nd, by simp, fun x hx z hz e => q (by simp at hz; rw [← hz, ← e]; exact hx)⟩
theorem _root_.Rd.book_same {C : Addr} {H H' : Hp} {b : Addr} {ws : List Str} (s : Same H H') (h : BookAt C H b ws) : BookAt C H' b ws := h.same s
theorem _root_.Rd.book_but {C t c : Addr} {H H' : Hp} {b : Addr} {ws : List Str} (s : Rd.But t H H') (tp : Tape H t c) (h : BookAt C H b ws) : BookAt C H' b ws := h.but tp s
end W
/-! ### what is kept, for the search by hypotheses -/
namespace Rd
open PySem PySem.Spec PyProof.Rows L2
variable {H H' : Hp} {K : PySem.W.Frag}
theorem neN {H : Hp} {a b : Addr} {o : HO} (h' : H b = none) (h : H a = some o) : a ≠ b := ne_of_none h h'
theorem neN' {H : Hp} {a b : Addr} {o : HO} (h' : H b = none) (h : H a = some o) : b ≠ a := (ne_of_none h h').symm
theorem same_tr {H H1 H2 : Hp} (b : Same H1 H2) (a : Same H H1) : Same H H2 := a.trans b
theorem but_tr {t : Addr} {H H1 H2 : Hp} (b : But t H1 H2) (a : But t H H1) : But t H H2 := a.trans b
theorem but_sm {t : Addr} {H H1 H2 : Hp} (b : Same H1 H2) (a : But t H H1) : But t H H2 := a.same b
theorem same_of2 {l : Addr} {H0 H H' : Hp} (off : ∀ b, b ≠ l → H' b = H b) (n : H0 l = none) (s : Same H0 H) : Same H0 H' := fun b o e => by rw [off b (ne_of_none e n)]; exact s b o e
theorem but_of2 {t l : Addr} {H0 H H' : Hp} (off : ∀ b, b ≠ l → H' b = H b) (n : H0 l = none) (s : But t H0 H) : But t H0 H' := fun b o h e => by rw [off b (ne_of_none e n)]; exact s b o h e
theorem at_same {a : Addr} {o : HO} (s : Same H H') (e : H a = some o) : H' a = some o := s a o e
theorem at_but {t a : Addr} {o : HO} (b : But t H H') (n : a ≠ t) (e : H a = some o) : H' a = some o := b a o n e
theorem at_off {l a : Addr} {o : HO} (off : ∀ b, b ≠ l → H' b = H b) (n : a ≠ l) (e : H a = some o) : H' a = some o := by rw [off a n]; exact e
theorem same_off {l : Addr} {H0 : Hp} (s : Same H0 H) (n : H0 l = none) (off : ∀ b, b ≠ l → H' b = H b) : Same H0 H' := fun b o e => by rw [off b (ne_of_none e n)]; exact s b o e
theorem but_off' {t l : Addr} {H0 : Hp} (s : But t H0 H) (n : H0 l = none) (off : ∀ b, b ≠ l → H' b = H b) : But t H0 H' := fun b o h e => by rw [off b (ne_of_none e n)]; exact s b o h e
theorem lenS {p : Addr} {ys : List Str} {H : Hp} {Q : VK} (hp : SqL K H p (ys.map V.str) ∨ SqT K H p (ys.map V.str)) (h : Q (.int (ys.length : Nat)) H) : nLen K [.ref p] H Q := ⟨p, _, rfl, hp, by rw [List.length_map]; exact h⟩
theorem lenI {p : Addr} {ys : List Int} {H : Hp} {Q : VK} (hp : SqL K H p (ys.map V.int) ∨ SqT K H p (ys.map V.int)) (h : Q (.int (ys.length : Nat)) H) : nLen K [.ref p] H Q := ⟨p, _, rfl, hp, by rw [List.length_map]; exact h⟩
theorem lenR {p : Addr} {ys : List Addr} {H : Hp} {Q : VK} (hp : SqL K H p (ys.map V.ref) ∨ SqT K H p (ys.map V.ref)) (h : Q (.int (ys.length : Nat)) H) : nLen K [.ref p] H Q := ⟨p, _, rfl, hp, by rw [List.length_map]; exact h⟩
end Rd

/-! Plain law: spots of a word, joined by watches that occur. -/
namespace Mw
open PySem PySem.Spec PyProof.Rows L2
/-- led on from x -/
inductive Star (R : Nat → Nat → Prop) (x : Nat) : Nat → Prop where
  | refl : Star R x x
  | step {y z : Nat} (h : Star R x y) (r : R y z) : Star R x z
theorem Star.one {R : Nat → Nat → Prop} {x y : Nat} (r : R x y) : Star R x y := .step .refl r
theorem Star.trans {R : Nat → Nat → Prop} {x y z : Nat} (a : Star R x y) (b : Star R y z) : Star R x z := by
  induction b with
  | refl => exact a
  | step _ r ih => exact .step ih r
theorem Star.symm {R : Nat → Nat → Prop} (s : ∀ x y, R x y → R y x) {x y : Nat} (a : Star R x y) : Star R y x := by
  induction a with
  | refl => exact .refl
  | step _ r ih => exact (Star.one (s _ _ r)).trans ih
theorem Star.mono {R S : Nat → Nat → Prop} (s : ∀ x y, R x y → S x y) {x y : Nat} (a : Star R x y) : Star S x y := by
  induction a with
  | refl => exact .refl
  | step _ r ih => exact .step ih (s _ _ r)
theorem Star.iff {R S : Nat → Nat → Prop} (s : ∀ x y, R x y ↔ S x y) {x y : Nat} : Star R x y ↔ Star S x y := ⟨Star.mono fun x y => (s x y).mp, Star.mono fun x y => (s x y).mpr⟩
/-- W occurs in z from s -/
def Occ (W z : Str) (s : Nat) : Prop := s + W.length ≤ z.length ∧ cutS z (some (s : Int)) (some ((s : Int) + (W.length : Int))) = W
/-- two spots joined by W, W from a spot below m -/
def EdgeB (W z : Str) (m : Nat) (i j : Nat) : Prop := (i < m ∧ Occ W z i ∧ j = i + W.length) ∨ (j < m ∧ Occ W z j ∧ i = j + W.length)
def Edge (W z : Str) (i j : Nat) : Prop := (Occ W z i ∧ j = i + W.length) ∨ (Occ W z j ∧ i = j + W.length)
def Adj (ws : List Str) (z : Str) (i j : Nat) : Prop := ∃ W ∈ ws, Edge W z i j
def AdjB (ws : List Str) (W z : Str) (m : Nat) (i j : Nat) : Prop := Adj ws z i j ∨ EdgeB W z m i j
/-- the watches tell the word -/
def Told (ws : List Str) (z : Str) : Prop := Star (Adj ws z) 0 z.length
theorem Edge.symm {W z : Str} {i j : Nat} (h : Edge W z i j) : Edge W z j i := h.elim .inr .inl
theorem Adj.symm {ws : List Str} {z : Str} (i j : Nat) (h : Adj ws z i j) : Adj ws z j i := let ⟨W, m, e⟩ := h; ⟨W, m, e.symm⟩
theorem EdgeB.symm {W z : Str} {m i j : Nat} (h : EdgeB W z m i j) : EdgeB W z m j i := h.elim .inr .inl
theorem AdjB.symm {ws : List Str} {W z : Str} {m : Nat} (i j : Nat) (h : AdjB ws W z m i j) : AdjB ws W z m j i := h.elim (fun h => .inl (Adj.symm _ _ h)) fun h => .inr h.symm
theorem Adj.le {ws : List Str} {z : Str} {i j : Nat} (h : Adj ws z i j) : i ≤ z.length ∧ j ≤ z.length := by
  obtain ⟨W, _, ⟨o, e⟩ | ⟨o, e⟩⟩ := h <;> have := o.1 <;> omega
theorem adj_nil {z : Str} {i j : Nat} : ¬ Adj [] z i j := fun ⟨_, h, _⟩ => by simp at h
theorem adjB_zero {ws : List Str} {W z : Str} {i j : Nat} : AdjB ws W z 0 i j ↔ Adj ws z i j := ⟨fun h => h.elim id fun h => by rcases h with ⟨h, _⟩ | ⟨h, _⟩ <;> omega, .inl⟩
theorem adjB_all {ws : List Str} {W z : Str} {i j : Nat} {n : Nat} (hn : (n : Int) = ((z.length : Int) - (W.length : Int) + 1).toNat) : AdjB ws W z n i j ↔ Adj (ws ++ [W]) z i j := by
  constructor
  · rintro (⟨V, h, e⟩ | ⟨_, o, e⟩ | ⟨_, o, e⟩)
    · exact ⟨V, List.mem_append.mpr (.inl h), e⟩
    · exact ⟨W, List.mem_append.mpr (.inr (by simp)), .inl ⟨o, e⟩⟩
    · exact ⟨W, List.mem_append.mpr (.inr (by simp)), .inr ⟨o, e⟩⟩
  · rintro ⟨V, h, e⟩
    rcases List.mem_append.mp h with h | h
    · exact .inl ⟨V, h, e⟩
    · simp at h
      subst h
      rcases e with ⟨o, e⟩ | ⟨o, e⟩
      · exact .inr (.inl ⟨by have := o.1; omega, o, e⟩)
      · exact .inr (.inr ⟨by have := o.1; omega, o, e⟩)
theorem adjB_no {ws : List Str} {W z : Str} {m : Nat} {i j : Nat} (h : ¬ Occ W z m) : AdjB ws W z (m + 1) i j ↔ AdjB ws W z m i j := by
  unfold AdjB EdgeB
  constructor
  · rintro (a | ⟨l, o, e⟩ | ⟨l, o, e⟩)
    · exact .inl a
    · rcases Nat.lt_succ_iff_lt_or_eq.mp l with l | l
      · exact .inr (.inl ⟨l, o, e⟩)
      · exact absurd (l ▸ o) h
    · rcases Nat.lt_succ_iff_lt_or_eq.mp l with l | l
      · exact .inr (.inr ⟨l, o, e⟩)
      · exact absurd (l ▸ o) h
  · rintro (a | ⟨l, o, e⟩ | ⟨l, o, e⟩)
    · exact .inl a
    · exact .inr (.inl ⟨by omega, o, e⟩)
    · exact .inr (.inr ⟨by omega, o, e⟩)
theorem adjB_yes {ws : List Str} {W z : Str} {m : Nat} {i j : Nat} (h : Occ W z m) : AdjB ws W z (m + 1) i j ↔ AdjB ws W z m i j ∨ (i = m ∧ j = m + W.length) ∨ (j = m ∧ i = m + W.length) := by
  unfold AdjB EdgeB
  constructor
  · rintro (a | ⟨l, o, e⟩ | ⟨l, o, e⟩)
    · exact .inl (.inl a)
    · rcases Nat.lt_succ_iff_lt_or_eq.mp l with l | l
      · exact .inl (.inr (.inl ⟨l, o, e⟩))
      · exact .inr (.inl ⟨l, by omega⟩)
    · rcases Nat.lt_succ_iff_lt_or_eq.mp l with l | l
      · exact .inl (.inr (.inr ⟨l, o, e⟩))
      · exact .inr (.inr ⟨l, by omega⟩)
  · rintro ((a | ⟨l, o, e⟩ | ⟨l, o, e⟩) | ⟨l, e⟩ | ⟨l, e⟩)
    · exact .inl a
    · exact .inr (.inl ⟨by omega, o, e⟩)
    · exact .inr (.inr ⟨by omega, o, e⟩)
    · subst l; exact .inr (.inl ⟨by omega, h, e⟩)
    · subst l; exact .inr (.inr ⟨by omega, h, e⟩)
/-! ### no two alike among few -/
theorem nodup_le {α : Type} [DecidableEq α] : ∀ (l m : List α), l.Nodup → (∀ x ∈ l, x ∈ m) → l.length ≤ m.length
  | [], _, _, _ => Nat.zero_le _
  | a :: t, m, nd, h => by
    have ⟨h1, h2⟩ := List.nodup_cons.mp nd
    have ha := h a List.mem_cons_self
    have := nodup_le t (m.erase a) h2 fun x hx => (List.mem_erase_of_ne fun e : x = a => h1 (by rw [← e]; exact hx)).mpr (h x (List.mem_cons_of_mem _ hx))
    rw [List.length_erase_of_mem ha] at this
    have := List.length_pos_of_mem ha
    rw [List.length_cons]
    omega
theorem nodup_range {l : List Int} {n : Nat} (nd : l.Nodup) (h : ∀ x ∈ l, 0 ≤ x ∧ x ≤ n) : l.length ≤ n + 1 := by
  have := nodup_le l ((List.range (n + 1)).map fun i : Nat => (i : Int)) nd fun x hx => by
    have := h x hx
    exact List.mem_map.mpr ⟨x.toNat, List.mem_range.mpr (by omega), by omega⟩
  rw [List.length_map, List.length_range] at this
  exact this
/-! ### marks -/
/-- alike marks are led to one another, and the other way round -/
def Lab (R : Nat → Nat → Prop) (n : Nat) (ms : List Int) : Prop := ms.length = n + 1 ∧ ∀ i j (x y : Int), ms[i]? = some x → ms[j]? = some y → (x = y ↔ Star R i j)
theorem Lab.start {n : Nat} {R : Nat → Nat → Prop} (hR : ∀ i j, ¬ R i j) : Lab R n ((List.range (n + 1)).map fun i : Nat => (i : Int)) := by
  refine ⟨by simp, fun i j x y hx hy => ?_⟩
  have e1 : x = i := by
    rw [List.getElem?_map] at hx
    cases q : (List.range (n + 1))[i]? with
    | none => rw [q] at hx; cases hx
    | some k =>
      rw [q] at hx
      have : i = k := by
        have := List.getElem?_eq_some_iff.mp q
        obtain ⟨h, e⟩ := this
        simpa using e
      subst this
      exact (Option.some.inj hx).symm
  have e2 : y = j := by
    rw [List.getElem?_map] at hy
    cases q : (List.range (n + 1))[j]? with
    | none => rw [q] at hy; cases hy
    | some k =>
      rw [q] at hy
      have : j = k := by
        have := List.getElem?_eq_some_iff.mp q
        obtain ⟨h, e⟩ := this
        simpa using e
      subst this
      exact (Option.some.inj hy).symm
  subst e1 e2
  constructor
  · intro h
    have : i = j := by omega
    exact this ▸ .refl
  · intro h
    cases h with
    | refl => rfl
    | step _ r => exact absurd r (hR _ _)
theorem Lab.iff {R S : Nat → Nat → Prop} {n : Nat} {ms : List Int} (h : Lab R n ms) (s : ∀ x y, R x y ↔ S x y) : Lab S n ms := ⟨h.1, fun i j x y hx hy => (h.2 i j x y hx hy).trans (Star.iff s)⟩
/-- one more pair: alike already -/
theorem Lab.same {R S : Nat → Nat → Prop} {n : Nat} {ms : List Int} (h : Lab R n ms) {a b : Nat} {x : Int} (ha : ms[a]? = some x) (hb : ms[b]? = some x) (sy : ∀ x y, R x y → R y x) (s : ∀ i j, S i j ↔ R i j ∨ (i = a ∧ j = b) ∨ (j = a ∧ i = b)) : Lab S n ms := by
  refine ⟨h.1, fun i j u v hu hv => (h.2 i j u v hu hv).trans ⟨Star.mono fun i j r => (s i j).mpr (.inl r), fun q => ?_⟩⟩
  have ab : Star R a b := (h.2 a b x x ha hb).mp rfl
  clear hv
  induction q with
  | refl => exact .refl
  | step _ r ih =>
    rcases (s _ _).mp r with r | ⟨rfl, rfl⟩ | ⟨rfl, rfl⟩
    · exact .step ih r
    · exact ih.trans ab
    · exact ih.trans (ab.symm sy)
/-- .. not alike: the one mark gives way to the other -/
theorem Lab.join {R S : Nat → Nat → Prop} {n : Nat} {ms : List Int} (h : Lab R n ms) {a b : Nat} {x y : Int} (ha : ms[a]? = some x) (hb : ms[b]? = some y) (hR : ∀ i j, R i j → i ≤ n ∧ j ≤ n) (sy : ∀ x y, R x y → R y x) (s : ∀ i j, S i j ↔ R i j ∨ (i = a ∧ j = b) ∨ (j = a ∧ i = b)) :
    Lab S n (ms.map fun m => if m = y then x else m) := by
  refine ⟨by rw [List.length_map]; exact h.1, fun i j u v hu hv => ?_⟩
  have get : ∀ {i : Nat} {u : Int}, (ms.map fun m => if m = y then x else m)[i]? = some u → ∃ u0, ms[i]? = some u0 ∧ u = if u0 = y then x else u0 := fun {i u} hu => by
    rw [List.getElem?_map] at hu
    cases q : ms[i]? with
    | none => rw [q] at hu; cases hu
    | some k => rw [q] at hu; exact ⟨k, rfl, (Option.some.inj hu).symm⟩
  obtain ⟨u0, hu0, eu⟩ := get hu
  obtain ⟨v0, hv0, ev⟩ := get hv
  have up : ∀ {i j : Nat}, Star R i j → Star S i j := fun q => q.mono fun i j r => (s i j).mpr (.inl r)
  have ab : Star S a b := .one ((s a b).mpr (.inr (.inl ⟨rfl, rfl⟩)))
  have ba : Star S b a := .one ((s b a).mpr (.inr (.inr ⟨rfl, rfl⟩)))
  constructor
  · intro e
    by_cases c1 : u0 = y
    · have ib : Star S i b := up ((h.2 i b u0 y hu0 hb).mp c1)
      by_cases c2 : v0 = y
      · exact up ((h.2 i j u0 v0 hu0 hv0).mp (c1.trans c2.symm))
      · rw [if_pos c1] at eu
        rw [if_neg c2] at ev
        have aj : Star S a j := up ((h.2 a j x v0 ha hv0).mp (by omega))
        exact (ib.trans ba).trans aj
    · rw [if_neg c1] at eu
      by_cases c2 : v0 = y
      · rw [if_pos c2] at ev
        have bj : Star S b j := up ((h.2 b j y v0 hb hv0).mp c2.symm)
        have ia : Star S i a := up ((h.2 i a u0 x hu0 ha).mp (by omega))
        exact (ia.trans ab).trans bj
      · rw [if_neg c2] at ev
        exact up ((h.2 i j u0 v0 hu0 hv0).mp (by omega))
  · intro q
    have la : a ≤ n := by have := (List.getElem?_eq_some_iff.mp ha).1; have := h.1; omega
    have lb : b ≤ n := by have := (List.getElem?_eq_some_iff.mp hb).1; have := h.1; omega
    -- every spot on the way has its mark
    have key : ∀ {k : Nat}, Star S i k → ∀ w0 : Int, ms[k]? = some w0 → (if u0 = y then x else u0) = if w0 = y then x else w0 := by
      intro k q
      induction q with
      | refl =>
        intro w0 hw
        rw [hu0] at hw
        cases hw
        rfl
      | @step k l _ r ih =>
        intro w0 hw
        have inR : ∀ m : Nat, m ≤ n → ∃ m0, ms[m]? = some m0 := fun m hm => ⟨_, List.getElem?_eq_getElem (by have := h.1; omega)⟩
        rcases (s _ _).mp r with r | ⟨rfl, rfl⟩ | ⟨rfl, rfl⟩
        · obtain ⟨k0, hk⟩ := inR k (hR _ _ r).1
          rw [ih k0 hk, (h.2 k l k0 w0 hk hw).mpr (.one r)]
        · rw [ih x ha]
          rw [hb] at hw
          cases hw
          rw [if_pos rfl]
          split <;> rfl
        · rw [ih y hb]
          rw [ha] at hw
          cases hw
          rw [if_pos rfl]
          split <;> rfl
    rw [eu, ev]
    exact key q v0 hv0
end Mw

/-! Plain law: distances, the least of the shortest ways. -/
namespace Mz
open PySem PySem.Spec PyProof.Rows L2
/-- k steps from x to y -/
def Steps (A : Nat → Nat → Prop) : Nat → Nat → Nat → Prop
  | 0, x, y => x = y
  | k + 1, x, z => ∃ y, Steps A k x y ∧ A y z
/-- k steps and no fewer -/
def Dist (A : Nat → Nat → Prop) (x y k : Nat) : Prop := Steps A k x y ∧ ∀ j, j < k → ¬ Steps A j x y
variable {A : Nat → Nat → Prop}
theorem Steps.trans : ∀ {k j x y z : Nat}, Steps A j x y → Steps A k y z → Steps A (j + k) x z
  | 0, j, x, y, z, a, b => by cases b; exact a
  | k + 1, j, x, y, z, a, ⟨u, b, r⟩ => ⟨u, Steps.trans a b, r⟩
theorem Steps.one {x y : Nat} (r : A x y) : Steps A 1 x y := ⟨x, rfl, r⟩
theorem Steps.cons {k x y z : Nat} (r : A x y) (b : Steps A k y z) : Steps A (k + 1) x z := by
  have := Steps.trans (Steps.one r) b
  rwa [Nat.add_comm] at this
theorem Steps.uncons : ∀ {k x z : Nat}, Steps A (k + 1) x z → ∃ y, A x y ∧ Steps A k y z
  | 0, x, z, ⟨y, e, r⟩ => by cases e; exact ⟨z, r, rfl⟩
  | k + 1, x, z, ⟨y, s, r⟩ => let ⟨u, a, b⟩ := Steps.uncons s; ⟨u, a, y, b, r⟩
theorem Steps.symm (sy : ∀ x y, A x y → A y x) : ∀ {k x y : Nat}, Steps A k x y → Steps A k y x
  | 0, _, _, e => Eq.symm e
  | k + 1, x, z, ⟨y, s, r⟩ => Steps.cons (sy _ _ r) (Steps.symm sy s)
theorem Dist.inj {x y k j : Nat} (a : Dist A x y k) (b : Dist A x y j) : k = j := by
  rcases Nat.lt_trichotomy k j with h | h | h
  · exact absurd a.1 (b.2 k h)
  · exact h
  · exact absurd b.1 (a.2 j h)
theorem Steps.dist {x y : Nat} : ∀ {k : Nat}, Steps A k x y → ∃ d, d ≤ k ∧ Dist A x y d := by
  intro k
  induction k using Nat.strongRecOn with
  | _ k ih =>
    intro h
    by_cases c : ∃ j, j < k ∧ Steps A j x y
    · obtain ⟨j, hj, s⟩ := c
      obtain ⟨d, h1, h2⟩ := ih j hj s
      exact ⟨d, by omega, h2⟩
    · exact ⟨k, Nat.le_refl _, h, fun j hj s => c ⟨j, hj, s⟩⟩
theorem Dist.symm (sy : ∀ x y, A x y → A y x) {x y k : Nat} (h : Dist A x y k) : Dist A y x k := ⟨h.1.symm sy, fun j hj s => h.2 j hj (s.symm sy)⟩
theorem Dist.zero {x : Nat} : Dist A x x 0 := ⟨rfl, fun j h => by omega⟩
theorem Dist.zero_iff {x y : Nat} : Dist A x y 0 ↔ x = y := ⟨fun h => h.1, fun h => h ▸ Dist.zero⟩
/-- one step on from a spot k away, not nearer: k + 1 away -/
theorem Dist.next {x y z k : Nat} (h : Dist A x y k) (r : A y z) (no : ∀ j, j ≤ k → ¬ Dist A x z j) : Dist A x z (k + 1) :=
  ⟨⟨y, h.1, r⟩, fun j hj s => let ⟨d, h1, h2⟩ := s.dist; no d (by omega) h2⟩
/-- the spot ahead on a shortest way -/
theorem Dist.pred {x z k : Nat} (h : Dist A x z (k + 1)) : ∃ y, Dist A x y k ∧ A y z := by
  obtain ⟨y, s, r⟩ := h.1
  exact ⟨y, ⟨s, fun j hj s' => h.2 (j + 1) (by omega) ⟨y, s', r⟩⟩, r⟩
theorem Dist.all {x : Nat} : ∀ {k z : Nat}, Dist A x z k → ∀ j, j ≤ k → ∃ y, Dist A x y j
  | 0, z, h, j, hj => ⟨z, by rw [show j = 0 by omega]; exact h⟩
  | k + 1, z, h, j, hj => by
    by_cases c : j = k + 1
    · exact ⟨z, by rw [c]; exact h⟩
    · obtain ⟨y, hy, _⟩ := h.pred
      exact hy.all j (by omega)
theorem Steps.le {n : Nat} (hA : ∀ i j, A i j → j ≤ n) : ∀ {k x y : Nat}, x ≤ n → Steps A k x y → y ≤ n
  | 0, _, _, h, e => by cases e; exact h
  | _ + 1, _, _, _, ⟨_, _, r⟩ => hA _ _ r
/-- a shortest way within the spots 0 .. n has at most n steps -/
theorem Dist.le {n x z k : Nat} (hA : ∀ i j, A i j → j ≤ n) (hx : x ≤ n) (h : Dist A x z k) : k ≤ n := by
  have ex : ∀ m, m ≤ k + 1 → ∃ l : List Int, l.length = m ∧ l.Nodup ∧ ∀ v ∈ l, 0 ≤ v ∧ v ≤ n ∧ ∃ j, j < m ∧ Dist A x v.toNat j := by
    intro m
    induction m with
    | zero => exact fun _ => ⟨[], rfl, .nil, fun v h => by simp at h⟩
    | succ m ih =>
      intro hm
      obtain ⟨l, h1, h2, h3⟩ := ih (by omega)
      obtain ⟨y, hy⟩ := h.all m (by omega)
      have yl : y ≤ n := Steps.le hA hx hy.1
      refine ⟨(y : Int) :: l, by rw [List.length_cons, h1], List.nodup_cons.mpr ⟨fun q => ?_, h2⟩, fun v hv => ?_⟩
      · obtain ⟨_, _, j, hj, d⟩ := h3 _ q
        have := d.inj hy
        omega
      · rcases List.mem_cons.mp hv with rfl | hv
        · exact ⟨by omega, by omega, m, by omega, hy⟩
        · obtain ⟨a, b, j, hj, d⟩ := h3 v hv
          exact ⟨a, b, j, by omega, d⟩
  obtain ⟨l, h1, h2, h3⟩ := ex (k + 1) (Nat.le_refl _)
  have := Mw.nodup_range h2 fun v hv => ⟨(h3 v hv).1, (h3 v hv).2.1⟩
  omega
theorem star_steps {x y : Nat} : Mw.Star A x y ↔ ∃ k, Steps A k x y := by
  constructor
  · intro h
    induction h with
    | refl => exact ⟨0, rfl⟩
    | step _ r ih => let ⟨k, s⟩ := ih; exact ⟨k + 1, _, s, r⟩
  · rintro ⟨k, s⟩
    induction k generalizing y with
    | zero => cases s; exact .refl
    | succ k ih => let ⟨u, s, r⟩ := s; exact .step (ih s) r
theorem star_dist {x y : Nat} : Mw.Star A x y ↔ ∃ k, Dist A x y k := star_steps.trans ⟨fun ⟨_, s⟩ => let ⟨d, _, h⟩ := s.dist; ⟨d, h⟩, fun ⟨k, h⟩ => ⟨k, h.1⟩⟩
/-- the least of the shortest ways from x to n, step by step -/
inductive Gr (A : Nat → Nat → Prop) (n : Nat) : Nat → List Nat → Prop where
  | stop : Gr A n n [n]
  | step {x w d : Nat} {P : List Nat} (hx : Dist A x n (d + 1)) (r : A x w) (hw : Dist A w n d) (least : ∀ v, A x v → Dist A v n d → w ≤ v) (h : Gr A n w P) : Gr A n x (x :: P)
theorem Gr.inj {n : Nat} : ∀ {P P' : List Nat} {x : Nat}, Gr A n x P → Gr A n x P' → P = P' := by
  intro P P' x a
  induction a generalizing P' with
  | stop =>
    intro b
    cases b with
    | stop => rfl
    | step hx _ _ _ _ => have := hx.inj Dist.zero; omega
  | @step x w d P hx r hw least h ih =>
    intro b
    cases b with
    | stop => have := hx.inj Dist.zero; omega
    | @step _ w' d' P' hx' r' hw' least' h' =>
      have e : d = d' := by have := hx.inj hx'; omega
      subst e
      have : w = w' := by
        have := least w' r' hw'
        have := least' w r hw
        omega
      subst this
      rw [ih h']
/-- a least one is there -/
theorem least_of {P : Nat → Prop} {m : Nat} (h : P m) : ∃ w, P w ∧ ∀ v, P v → w ≤ v := by
  induction m using Nat.strongRecOn with
  | _ m ih =>
    by_cases c : ∃ v, v < m ∧ P v
    · obtain ⟨v, l, p⟩ := c
      exact ih v l p
    · exact ⟨m, h, fun v p => by
        rcases Nat.lt_or_ge v m with l | l
        · exact absurd ⟨v, l, p⟩ c
        · exact l⟩
/-! ### the order of ways -/
/-- not after, as tuples of one length are ordered -/
def lle : List Nat → List Nat → Prop
  | [], _ => True
  | _ :: _, [] => False
  | a :: p, b :: q => a < b ∨ (a = b ∧ lle p q)
theorem lle.refl : ∀ p, lle p p
  | [] => trivial
  | a :: p => .inr ⟨rfl, lle.refl p⟩
theorem lle.trans : ∀ {p q r}, lle p q → lle q r → lle p r
  | [], _, _, _, _ => trivial
  | _ :: _, [], _, h, _ => h.elim
  | _ :: _, _ :: _, [], _, h => h.elim
  | a :: p, b :: q, c :: r, h, k => by
    rcases h with h | ⟨rfl, h⟩
    · rcases k with k | ⟨rfl, k⟩
      · exact .inl (by omega)
      · exact .inl h
    · rcases k with k | ⟨rfl, k⟩
      · exact .inl k
      · exact .inr ⟨rfl, lle.trans h k⟩
theorem lle.total : ∀ p q, lle p q ∨ lle q p
  | [], _ => .inl trivial
  | _ :: _, [] => .inr trivial
  | a :: p, b :: q => by
    rcases Nat.lt_trichotomy a b with h | h | h
    · exact .inl (.inl h)
    · rcases lle.total p q with k | k
      · exact .inl (.inr ⟨h, k⟩)
      · exact .inr (.inr ⟨h.symm, k⟩)
    · exact .inr (.inl h)
theorem lle.anti : ∀ {p q}, lle p q → lle q p → p = q
  | [], [], _, _ => rfl
  | [], _ :: _, _, h => h.elim
  | _ :: _, [], h, _ => h.elim
  | a :: p, b :: q, h, k => by
    rcases h with h | ⟨rfl, h⟩
    · rcases k with k | ⟨k, _⟩ <;> omega
    · rcases k with k | ⟨_, k⟩
      · omega
      · rw [lle.anti h k]
theorem lle.snoc {v : Nat} : ∀ {p q : List Nat}, p.length = q.length → lle p q → lle (p ++ [v]) (q ++ [v])
  | [], [], _, _ => .inr ⟨rfl, trivial⟩
  | [], _ :: _, h, _ => by simp at h
  | _ :: _, [], h, _ => by simp at h
  | a :: p, b :: q, h, k => k.elim .inl fun ⟨e, k⟩ => .inr ⟨e, lle.snoc (by simpa using h) k⟩
theorem lle.unpre {q r : List Nat} : ∀ {p : List Nat}, lle (p ++ q) (p ++ r) → lle q r
  | [], h => h
  | a :: p, h => h.elim (fun h => by omega) fun ⟨_, h⟩ => lle.unpre (p := p) h
/-- a way from x to y -/
inductive Way (A : Nat → Nat → Prop) : Nat → Nat → List Nat → Prop where
  | one (x : Nat) : Way A x x [x]
  | cons {x w y : Nat} {P : List Nat} (r : A x w) (h : Way A w y P) : Way A x y (x :: P)
theorem Way.head {x y : Nat} {P : List Nat} (h : Way A x y P) : ∃ t, P = x :: t := by cases h <;> exact ⟨_, rfl⟩
theorem Way.snoc {x y z : Nat} {P : List Nat} (h : Way A x y P) (r : A y z) : Way A x z (P ++ [z]) := by
  induction h with
  | one x => exact .cons r (.one z)
  | cons r' _ ih => exact .cons r' (ih r)
theorem Way.unsnoc {x z : Nat} {P : List Nat} (h : Way A x z P) : P = [x] ∧ x = z ∨ ∃ y P', P = P' ++ [z] ∧ Way A x y P' ∧ A y z := by
  induction h with
  | one x => exact .inl ⟨rfl, rfl⟩
  | @cons x w z P r h ih =>
    rcases ih with ⟨rfl, rfl⟩ | ⟨y, P', rfl, h', r'⟩
    · exact .inr ⟨x, [x], rfl, .one x, r⟩
    · exact .inr ⟨y, x :: P', rfl, .cons r h', r'⟩
theorem Way.steps {x y : Nat} {P : List Nat} (h : Way A x y P) : ∃ k, P.length = k + 1 ∧ Steps A k x y := by
  induction h with
  | one x => exact ⟨0, rfl, rfl⟩
  | cons r _ ih => obtain ⟨k, e, s⟩ := ih; exact ⟨k + 1, by rw [List.length_cons, e], Steps.cons r s⟩
theorem Steps.way : ∀ {k x y : Nat}, Steps A k x y → ∃ P, Way A x y P ∧ P.length = k + 1
  | 0, x, y, e => by cases e; exact ⟨[x], .one x, rfl⟩
  | k + 1, x, z, ⟨y, s, r⟩ => let ⟨P, w, l⟩ := Steps.way s; ⟨P ++ [z], w.snoc r, by rw [List.length_append, l]; rfl⟩
/-- the least of the shortest ways -/
structure Best (A : Nat → Nat → Prop) (x y d : Nat) (P : List Nat) : Prop where
  way : Way A x y P
  ln : P.length = d + 1
  least : ∀ P', Way A x y P' → P'.length = d + 1 → lle P P'
theorem Best.tail {n x w d : Nat} {P : List Nat} (h : Best A x n (d + 1) (x :: P)) (r : A x w) (hw : Way A w n P) : Best A w n d P :=
  ⟨hw, by simpa using h.ln, fun P' h1 h2 => (h.least (x :: P') (.cons r h1) (by rw [List.length_cons, h2])).elim (fun q => by omega) fun q => q.2⟩
/-- .. is found step by step -/
theorem Best.gr {n : Nat} : ∀ {P : List Nat} {x d : Nat}, Dist A x n d → Best A x n d P → Gr A n x P
  | [], x, d, _, h => by have := h.ln; simp at this
  | [a], x, d, hd, h => by
    have l := h.ln
    have hw := h.way
    cases hw with
    | one => exact .stop
    | cons _ q => cases q
  | a :: b :: P, x, d, hd, h => by
    have l := h.ln
    have hw := h.way
    cases hw with
    | @cons _ w _ _ r q =>
      obtain ⟨t, e⟩ := q.head
      cases e
      obtain ⟨k, e1, s⟩ := q.steps
      cases d with
      | zero => simp at l
      | succ d =>
        have ek : k = d := by
          simp only [List.length_cons] at l e1
          omega
        subst ek
        have dw : Dist A b n k := ⟨s, fun j hj s' => hd.2 (j + 1) (by omega) (Steps.cons r s')⟩
        refine .step hd r dw (fun v rv dv => ?_) (Best.gr dw (h.tail r q))
        obtain ⟨P', w', l'⟩ := dv.1.way
        obtain ⟨t', e'⟩ := w'.head
        subst e'
        rcases h.least (a :: v :: t') (.cons rv w') (by rw [List.length_cons, l']) with z | ⟨_, z⟩
        · omega
        · rcases z with z | ⟨z, _⟩ <;> omega
/-- one step on: the least over the spots ahead -/
theorem Best.next {x z d : Nat} {P : List Nat} {y : Nat} (hP : Best A x y d P) (r : A y z)
    (least : ∀ y' P', Best A x y' d P' → A y' z → lle (P ++ [z]) (P' ++ [z])) (ex : ∀ y', Steps A d x y' → A y' z → ∃ P', Best A x y' d P') : Best A x z (d + 1) (P ++ [z]) := by
  refine ⟨hP.way.snoc r, by rw [List.length_append, hP.ln]; rfl, fun P' h1 h2 => ?_⟩
  rcases h1.unsnoc with ⟨rfl, rfl⟩ | ⟨y', Q, rfl, hq, r'⟩
  · simp at h2
  · obtain ⟨k, e, s⟩ := hq.steps
    rw [List.length_append, e] at h2
    have ek : k = d := by simp at h2; omega
    subst ek
    obtain ⟨P2, b2⟩ := ex y' s r'
    exact (least y' P2 b2 r').trans (lle.snoc (by rw [b2.ln, e]) (b2.least Q hq e))
end Mz

/-! Sorting of data of any depth, and by an own key function. -/
namespace Rs
open PySem PySem.W PyProof.Rows
theorem nsOne {h : Heap} {L : Addr} {m m' : Str → Option Value} : h.Ns L m → h.Ns L m' → m = m' := by
  rintro ⟨o, es, ep, e, d, _, r⟩ ⟨o', es', ep', e', d', _, r'⟩
  have : o = o' := Option.some.inj (e.symm.trans e')
  subst this
  rw [d] at d'
  injection d' with d1 d2
  subst d1
  funext x
  exact (r x).symm.trans (r' x)
theorem each_split {α β γ : Type} {R : α → γ → Prop} {S : γ → β → Prop} : ∀ {as : List α} {bs : List β}, EachIs (fun a b => ∃ c, R a c ∧ S c b) as bs → ∃ cs : List γ, EachIs R as cs ∧ EachIs S cs bs
  | _, _, .nil => ⟨[], .nil, .nil⟩
  | _, _, .cons ⟨c, h1, h2⟩ t => let ⟨cs, q1, q2⟩ := each_split t; ⟨c :: cs, .cons h1 q1, .cons h2 q2⟩
theorem each_get {α β : Type} {R : α → β → Prop} : ∀ {as : List α} {bs : List β}, EachIs R as bs → ∀ {i : Nat} {a : α}, as[i]? = some a → ∃ b, bs[i]? = some b ∧ R a b
  | _, _, .nil, _, _, h => by simp at h
  | _, _, .cons h t, 0, _, e => by
    simp at e
    subst e
    exact ⟨_, rfl, h⟩
  | _, _, .cons h t, i + 1, _, e => each_get t (i := i) (by simpa using e)
end Rs
namespace Rs
open PySem PySem.Spec PyProof.Rows L2 PySem.W
theorem each_vals {R : V → β → Prop} : ∀ {xs : List V} {us : List Value} {bs : List β}, Vals xs us → EachIs R xs bs → EachIs (fun u b => ∃ x, RelV x u ∧ R x b) us bs
  | _, _, _, .nil, .nil => .nil
  | _, _, _, .cons r rr, .cons h t => .cons ⟨_, r, h⟩ (each_vals rr t)
theorem vals_each {R : V → β → Prop} : ∀ {us : List Value} {bs : List β}, EachIs (fun u b => ∃ x, RelV x u ∧ R x b) us bs → ∃ xs : List V, Vals xs us ∧ EachIs R xs bs
  | _, _, .nil => ⟨[], .nil, .nil⟩
  | _, _, .cons ⟨x, r, h⟩ t => let ⟨xs, q1, q2⟩ := vals_each t; ⟨x :: xs, .cons r q1, .cons h q2⟩
/-- what is asked of the keys: alike, all tuples with an item or none a tuple, not deep -/
structure Keys (ds : List PyData) : Prop where
  al : AllAlike ds
  so : Sortable ds
  dp : ∀ d ∈ ds, d.depth ≤ 50
section
variable {X : Cx}
/-- sorted(xs), data of any depth -/
def rSortD (K : PySem.W.Frag) : List V → Hp → VK → Prop := fun vs H Q => ∃ (a : Addr) (xs : List V) (β : Type) (bs : List β) (k : β → PyData) (R : V → β → Prop), vs = [V.ref a] ∧ SqL K H a xs ∧ EachIs (fun x b => Dp K H x (k b) ∧ R x b) xs bs ∧ Keys (bs.map k) ∧
  ∀ (out : List V) (p : Addr) (G : Hp), EachIs (fun x b => Dp K H x (k b) ∧ R x b) out (bs.mergeSort (dataLe false k)) → H p = none → G p = some (.lst out) → Same H G → Q (.ref p) G
theorem cr_sortD (hu : X.A.units + 64 < cLine) : CallR X (.builtin "sorted") (rSortD X.K) := by
  intro pins s σ H vs us Q I r h
  obtain ⟨a, xs, β, bs, k, R, rfl, hs, he, hk, q⟩ := h
  obtain ⟨its, rv, hl, hz⟩ := I.list hs
  obtain rfl := Vals.ref1 r
  have hz' : its.length ≤ sizeLine := by rw [← rv.length]; exact hz
  have h1 : EachIs (fun u b => ∃ x, RelV x u ∧ (Dp X.K H x (k b) ∧ R x b)) its bs := each_vals rv he
  have h2 : EachIs (fun u b => ∃ as, Reads s.heap u (k b) as) its bs := h1.mono fun u b ⟨x, rx, hx, _⟩ => Dp.reads I (k b) x u hx rx
  have h3 : EachIs (fun u d => ∃ as, Reads (sortingHeap (copyHeap s.heap its) (s.heap.objs.size + 1) its) u d as) its (bs.map k) := by
    have : ∀ {as : List Value} {bs : List β}, EachIs (fun u b => ∃ as, Reads s.heap u (k b) as) as bs → EachIs (fun u d => ∃ as, Reads (sortingHeap (copyHeap s.heap its) (s.heap.objs.size + 1) its) u d as) as (bs.map k) := by
      intro as bs h
      induction h with
      | nil => exact .nil
      | cons h _ ih =>
        obtain ⟨as, r⟩ := h
        exact .cons ⟨as, PyProof.Rows.Reads.keeps (fun b o e => sorting_copy_old e) r⟩ ih
    exact this h2
  have SA : SortsAt X.prog X.w X.A.in1.in1 { s with heap := sortingHeap (copyHeap s.heap its) (s.heap.objs.size + 1) its } (dataKind (sortingHeap (copyHeap s.heap its) (s.heap.objs.size + 1) its) (bs.map k)) its := SortsAt.data (s := { s with heap := sortingHeap (copyHeap s.heap its) (s.heap.objs.size + 1) its }) h3 hk.al hk.so fun d hd => by
    have := hk.dp d hd
    simp only [units_in1]
    omega
  refine sorted_vals hl.isList SA hz' ?_
  have out := sortVals_each (κ := dataKind (sortingHeap (copyHeap s.heap its) (s.heap.objs.size + 1) its) (bs.map k)) (rev := false) (fun b => keyToks (k b)) h1 (each_of_map k (each_keys hk.al h3))
  obtain ⟨ys, ry, hy⟩ := vals_each out
  obtain ⟨ep, he'⟩ := PyProof.Rows.sortedAll_at s.heap its (sortVals (dataKind (sortingHeap (copyHeap s.heap its) (s.heap.objs.size + 1) its) (bs.map k)) false its its).toArray
  have hlen : ys.length ≤ sizeLine := by
    rw [ry.length, sortVals_length false rfl]
    exact hz'
  have hf := I.hok.fresh (Nat.le_succ s.heap.objs.size)
  exact ⟨.ref _, upd H (s.heap.objs.size + 1) (.lst ys), I.laid (t' := s.toks) (fun _ _ => PyProof.Rows.sortedAll_old) (Nat.le_succ _) ⟨hlen, _, ep, ry, he'⟩, rfl, q ys _ _ hy hf upd_same (Rd.same_upd hf)⟩
end
end Rs
namespace Rs
open PySem PySem.Spec PyProof.Rows L2 PySem.W
theorem room2 {k : Nat} {A : Around} (r : Room (k + 1) A) : Room k A.in1.in1 :=
  ⟨r.hd, by have := r.dp; show A.depth + 3 * k + 5 < _; omega, by have := r.un; show A.units + 1 + 1 + 16 * k + 200 < _; omega⟩
theorem each_imp {α β : Type} {R S : α → β → Prop} (h : ∀ a b, R a b → S a b) : ∀ {as : List α} {bs : List β}, EachIs R as bs → EachIs S as bs
  | _, _, .nil => .nil
  | _, _, .cons q t => .cons (h _ _ q) (each_imp h t)
theorem each_reads {X : Cx} {pins : List (Addr × Obj)} {σ : L2.St} {H : Hp} {s : Shared} (I : Inv X pins σ H s) {β : Type} {k : β → PyData} : ∀ {us : List Value} {vs : List V} {bs : List β}, Vals vs us → EachIs (fun x b => Dp X.K H x (k b)) vs bs → EachIs (fun u d => ∃ as, Reads s.heap u d as) us (bs.map k)
  | _, _, _, .nil, .nil => .nil
  | _, _, _, .cons r rr, .cons h t => .cons (Dp.reads I _ _ _ h r) (each_reads I rr t)
mutual
theorem Dp.same {K : PySem.W.Frag} {H H' : Hp} (s : Same H H') : ∀ (d : PyData) (v : V), Dp K H v d → Dp K H' v d
  | .none, _, h => by cases h; exact .non
  | .bool b, _, h => by cases h; exact .bl b
  | .int i, _, h => by cases h; exact .int i
  | .str x, _, h => by cases h; exact .str x
  | .list ds, _, h => by
    cases h with
    | lst hs ha => exact .lst (s.seq hs) (Dp.sameAll s ds _ ha)
  | .tuple ds, _, h => by
    cases h with
    | tup hs ha => exact .tup (Ru.same_tup s hs) (Dp.sameAll s ds _ ha)
  | .dict _, _, h => by cases h
theorem Dp.sameAll {K : PySem.W.Frag} {H H' : Hp} (s : Same H H') : ∀ (ds : List PyData) (vs : List V), DpAll K H vs ds → DpAll K H' vs ds
  | [], _, h => by cases h; exact .nil
  | d :: ds, _, h => by
    cases h with
    | cons h1 h2 => exact .cons (Dp.same s d _ h1) (Dp.sameAll s ds _ h2)
end
theorem each_snocK {β : Type} {R : V → β → Prop} {x : V} {y : β} (hxy : R x y) : ∀ {as : List V} {bs : List β}, EachIs R as bs → EachIs R (as ++ [x]) (bs ++ [y])
  | _, _, .nil => .cons hxy .nil
  | _, _, .cons h t => .cons h (each_snocK hxy t)
def rSortK (f : Addr) (sp : Sp) (K : PySem.W.Frag) : List V → List V → Hp → VK → Prop := fun vs zs H Q => ∃ (a : Addr) (xs : List V) (β : Type) (bs : List β) (k : β → PyData) (R : V → β → Prop), vs = [V.ref a] ∧ zs = [V.ref f] ∧ SqL K H a xs ∧ EachIs R xs bs ∧ Keys (bs.map k) ∧
  (∀ x b H1, Same H H1 → b ∈ bs → R x b → sp [x] H1 (fun v H2 => Same H1 H2 ∧ Dp K H2 v (k b)) (fun _ _ _ => False)) ∧
  ∀ (out : List V) (p : Addr) (G : Hp), EachIs R out (bs.mergeSort (dataLe false k)) → H p = none → G p = some (.lst out) → Same H G → Q (.ref p) G
section
variable {X : Cx} {f : Addr} {fd : FuncData} {ps : List Str} {sp : Sp} {k : Nat}
theorem cr_sortK (F : FnOk X.prog X.w X.K X.mg X.base CX0 k f fd ps sp) (hr : Room (k + 1) X.A) (hb : Binds X.K fd ps []) : CallRK X (.builtin "sorted") [Str.ofString "key"] (rSortK f sp X.K) := by
  intro pins s σ H vs zs us ws Q I r rz h
  obtain ⟨a, xs, β, bs, key, R, rfl, rfl, hs, he, hk, hkey, q⟩ := h
  obtain ⟨its, rv, hl, hz⟩ := I.list hs
  obtain rfl := Vals.ref1 r
  obtain rfl := Vals.ref1 rz
  have hz' : its.length ≤ sizeLine := by rw [← rv.length]; exact hz
  have hbl : its.length = bs.length := by rw [← rv.length, he.length]
  refine sorted_of_sort hl.isList hz' (ksk_s1 _ _) (fun _ => ksk_l1 _ _) fun E' => ?_
  show wpAny _ _ (Builtin.«list.sort» ⟨[.ref (s.heap.objs.size + 1)], [(Str.ofString "key", .ref f)]⟩) _ E' { s with heap := copyHeap s.heap its }
  rw [ksk_t1]
  unfold ksk_tree
  have hcs : (copyHeap s.heap its).objs.size = s.heap.objs.size + 2 := by
    unfold copyHeap
    rw [size_push', Heap.size_update, size_push']
  have ho := copyHeap_at s.heap its
  refine wpAny_bind (listItems_at ho rfl ?_)
  refine wpAny_bind (listUpdate_at ho rfl ?_ (by rw [List.size_toArray]; exact hz') (Nat.zero_le _))
  obtain ⟨e1, ho1⟩ : ∃ e1, ((copyHeap s.heap its).update (s.heap.objs.size + 1) (Obj.mapSeq fun _ => #[])).get? (s.heap.objs.size + 1) = some (seqObj "list" #[] e1) := ⟨_, get?_update_seq ho fun _ => #[]⟩
  refine wpAny_bind (seqEpoch_at ho1 rfl ?_)
  refine wpAny_bind (wpAny_newTuple ?_ (by show its.length ≤ _; exact hz'))
  refine wpAny_bind (wpAny_newList ?_ (Nat.zero_le _))
  refine wpAny_holding ?_
  have hks : (((copyHeap s.heap its).update (s.heap.objs.size + 1) (Obj.mapSeq fun _ => #[])).push (seqObj "tuple" its.toArray 0)).objs.size = s.heap.objs.size + 3 := by
    rw [size_push', Heap.size_update, hcs]
  have hoa : (sortingHeap (copyHeap s.heap its) (s.heap.objs.size + 1) its).get? (s.heap.objs.size + 1) = some (seqObj "list" #[] e1) :=
    Heap.get?_push_of_some _ (Heap.get?_push_of_some _ ho1)
  have hok : (sortingHeap (copyHeap s.heap its) (s.heap.objs.size + 1) its).get? (s.heap.objs.size + 3) = some (seqObj "list" #[] 0) := by
    rw [← hks]
    exact Heap.get?_push_size _ rfl
  show wpAny _ _ (ksk_rest (s.heap.objs.size + 1) (.ref f) false its.toArray e1 (.ref (((copyHeap s.heap its).update (s.heap.objs.size + 1) (Obj.mapSeq fun _ => #[])).push (seqObj "tuple" its.toArray 0)).objs.size)) _ E' { s with heap := sortingHeap (copyHeap s.heap its) (s.heap.objs.size + 1) its }
  rw [hks]
  have hk0 : ∀ b o, s.heap.get? b = some o → (sortingHeap (copyHeap s.heap its) (s.heap.objs.size + 1) its).get? b = some o := fun b o q => sorting_copy_old q
  generalize sortingHeap (copyHeap s.heap its) (s.heap.objs.size + 1) its = g0 at hoa hok hk0
  have old : ∀ b o, s.heap.get? b = some o → b < s.heap.objs.size := fun b o e => Heap.lt_size e
  have nL : @LT.lt Nat _ X.env.locals s.heap.objs.size := I.lt
  have up : ∀ c i : Nat, c < s.heap.objs.size → c ≠ s.heap.objs.size + i := fun c i h => by omega
  have pu : ∀ c i : Nat, c < s.heap.objs.size → s.heap.objs.size + i ≠ c := fun c i h => by omega
  have le0 : ∀ i : Nat, X.s_0.heap.objs.size ≤ s.heap.objs.size + i := fun i => Nat.le_trans I.sz (Nat.le_add_right _ _)
  have n13 : ¬ s.heap.objs.size + 1 = s.heap.objs.size + 3 := by omega
  have n31 : ¬ s.heap.objs.size + 3 = s.heap.objs.size + 1 := by omega
  have nC : ∀ x c, X.env.cells.lookup x = some c → c < s.heap.objs.size := fun x c e => by
    obtain ⟨v, o, ho, _⟩ := I.cell x c e
    exact Heap.lt_size ho
  have nP : ∀ p ∈ X.pn ++ pins, p.1 < s.heap.objs.size := fun p hp => Heap.lt_size (I.pin p hp).1
  have sz := I.sz
  unfold ksk_rest
  refine wpAny_bind (wpAny_rule ?_)
  first
    | rw [List.forIn_toArray]
    | (rw [← Array.forIn_toList]; simp only [List.toList_toArray])
    | rw [← Array.forIn_toList]
  refine wpAny_bind (ksk_fold (fun i s' => ∃ (Hc : Hp) (ks : List V) (kA : Array Value) (e : Nat), Inv X (pins ++ [(s.heap.objs.size + 3, seqObj "list" kA e), (s.heap.objs.size + 1, seqObj "list" #[] e1)]) σ Hc s' ∧ Same H Hc ∧ Vals ks kA.toList ∧
      EachIs (fun x b => Dp X.K Hc x (key b)) ks (bs.take i)) its 0 { s with heap := g0 } ?start ?step ?done)
  case start =>
    have I1 : Inv X pins σ H { s with heap := g0 } := I.kept (t' := s.toks) hk0
    have hf1 := I.hok.fresh (a := s.heap.objs.size + 1) (by omega)
    have hf3 := I.hok.fresh (a := s.heap.objs.size + 3) (by omega)
    refine ⟨H, [], #[], 0, I1.pins_of fun p hp => ?_, Same.refl _, .nil, by rw [List.take_zero]; exact .nil⟩
    rcases List.mem_append.mp hp with hp | hp
    · exact I1.pin p (List.mem_append_right _ hp)
    · rcases List.mem_cons.mp hp with rfl | hp
      · exact ⟨hok, hf3, pu _ 3 nL, I.nofs (by show _ ≤ s.heap.objs.size + 3; omega), fun v => by simp [seqObj]⟩
      · rw [List.mem_singleton.mp hp]
        exact ⟨hoa, hf1, pu _ 1 nL, I.nofs (by show _ ≤ s.heap.objs.size + 1; omega), fun v => by simp [seqObj]⟩
  case step =>
    rintro j u s' hu ⟨Hc, ks, kA, e, I', sm, rk, hke⟩
    simp only [Nat.zero_add] at hke ⊢
    have hj : j < its.length := (List.getElem?_eq_some_iff.mp hu).1
    obtain ⟨b, hbj⟩ : ∃ b, bs[j]? = some b := ⟨_, List.getElem?_eq_getElem (by omega)⟩
    obtain ⟨b', hbj', x, rx, hR⟩ := each_get (each_vals rv he) hu
    obtain rfl : b' = b := by rw [hbj] at hbj'; exact (Option.some.inj hbj').symm
    have hkl : kA.size ≤ its.length := by
      have h1 : ks.length = kA.size := rk.length.trans (by simp)
      have h2 := hke.length
      rw [List.length_take] at h2
      rw [← h1, h2]
      exact Nat.le_trans (Nat.min_le_right _ _) (Nat.le_of_eq hbl.symm)
    have hsp := hkey x b' Hc sm (List.mem_of_getElem? hbj) hR
    have run := F.run X.A.in1.in1 X.stack s' Hc ⟨[u], []⟩ [u] [x] _ _ (room2 hr) I'.env0.in1.in1 (by
      have := hb s' [u] I'.kIn (by have := F.len _ _ _ _ hsp; simpa using this)
      simpa using this) (.cons rx .nil) hsp
    refine wpAny_bind (wpAny_attempt (wpAny_mono (Q := fun v s2 => EP X (pins ++ [(s.heap.objs.size + 3, seqObj "list" kA e), (s.heap.objs.size + 1, seqObj "list" #[] e1)]) σ (fun v H2 => Same Hc H2 ∧ Dp X.K H2 v (key b')) v s2) (E := fun _ _ => False) (wpAny_call (codeAny_mono run fun r s2 hq => ?_)) (fun v s2 he => ?_) fun _ _ hF => hF.elim))
    · cases r with
      | error e => exact hq
      | ok fl =>
        cases fl with
        | ret u => exact I'.after hq
        | next => exact False.elim hq
        | brk => exact False.elim hq
        | cont => exact False.elim hq
    · obtain ⟨kv, H2, I2, rkv, sm2, hd⟩ := he
      have pk := I2.pin (s.heap.objs.size + 3, seqObj "list" kA e) (List.mem_append_right _ (List.mem_append_right _ (.head _)))
      have pa := I2.pin (s.heap.objs.size + 1, seqObj "list" #[] e1) (List.mem_append_right _ (List.mem_append_right _ (.tail _ (.head _))))
      have s1 := Heap.SameBut.update s2.heap (s.heap.objs.size + 3) (Obj.mapSeq (·.push v))
      obtain ⟨c2, hc2⟩ : ∃ c2, (s2.heap.update (s.heap.objs.size + 3) (Obj.mapSeq (·.push v))).get? (s.heap.objs.size + 3) = some (seqObj "list" (kA.push v) c2) := ⟨_, get?_update_seq pk.1 (·.push v)⟩
      have I3 : Inv X pins σ H2 s2 := I2.pins_of fun p hp => I2.pin p (List.mem_append_right _ (List.mem_append_left _ hp))
      have I4 : Inv X pins σ H2 { s2 with heap := s2.heap.update (s.heap.objs.size + 3) (Obj.mapSeq (·.push v)), toks := s2.toks } := I3.turned (it := s.heap.objs.size + 3) (fun b o n q => (s1.2 b n).trans q) pk.2.1 pk.2.2.1 (.inr (le0 3)) (fun x c q => up _ 3 (nC x c q)) fun p hp => up _ 3 (nP p hp)
      try dsimp only
      refine wpAny_bind (listUpdate_at pk.1 rfl ?_ (Nat.le_trans hkl hz') (Nat.le_trans (Nat.le_of_eq (Array.size_push ..)) (Nat.succ_le_succ (Nat.le_trans hkl hz'))))
      refine wpAny_pure ⟨rfl, H2, ks ++ [kv], kA.push v, c2, I4.pins_of fun p hp => ?_, sm.trans sm2, ?_, ?_⟩
      · rcases List.mem_append.mp hp with hp | hp
        · exact I4.pin p (List.mem_append_right _ hp)
        · rcases List.mem_cons.mp hp with rfl | hp
          · exact ⟨hc2, pk.2.1, pk.2.2.1, pk.2.2.2.1, fun v => by simp [seqObj]⟩
          · rw [List.mem_singleton.mp hp]
            exact ⟨(s1.2 _ n13).trans pa.1, pa.2⟩
      · rw [Array.toList_push]
        exact rk.append (.cons rkv .nil)
      · have ek : bs.take (j + 1) = bs.take j ++ [b'] := by rw [List.take_add_one, hbj]; simp
        rw [ek]
        exact each_snocK (R := fun x b => Dp X.K H2 x (key b)) hd (each_imp (R := fun x b => Dp X.K Hc x (key b)) (fun x b q => Dp.same sm2 _ _ q) hke)
  case done =>
    rintro s' ⟨Hc, ks, kA, e, I', sm, rk, hke⟩
    have hke' : EachIs (fun x b => Dp X.K Hc x (key b)) ks bs := by
      have e3 : bs.take (0 + its.length) = bs := List.take_of_length_le (by omega)
      rw [e3] at hke
      exact hke
    have pk := I'.pin (s.heap.objs.size + 3, seqObj "list" kA e) (List.mem_append_right _ (List.mem_append_right _ (.head _)))
    have pa := I'.pin (s.heap.objs.size + 1, seqObj "list" #[] e1) (List.mem_append_right _ (List.mem_append_right _ (.tail _ (.head _))))
    have hsz : kA.size = its.length := by
      have h1 : ks.length = kA.size := rk.length.trans (by simp)
      have h2 := hke'.length
      exact h1.symm.trans (h2.trans hbl.symm)
    have rd := each_reads I' rk hke'
    try dsimp only
    refine wpAny_bind (listItems_at pk.1 rfl ?_)
    have SA : SortsAt X.prog X.w X.A.in1.in1 s' (dataKind s'.heap (bs.map key)) kA.toList := SortsAt.data rd hk.al hk.so fun d hd => by
      have h1 := hk.dp d hd
      have h2 := hr.un
      simp only [units_in1]
      omega
    obtain ⟨m, Fr0⟩ := I'.fr
    have hiB : ∀ i : Nat, X.base.get? (s.heap.objs.size + i) = none := fun i => by
      cases q : X.base.get? (s.heap.objs.size + i) with
      | none => rfl
      | some o =>
        exact absurd (Nat.lt_of_le_of_lt (Nat.le_add_right _ _) (Heap.lt_size (I.bk _ o q))) (Nat.lt_irrefl _)
    let rs := (allNews X.base s'.heap X.env.locals).filter fun p => decide (p.1 ≠ s.heap.objs.size + 3 ∧ p.1 ≠ s.heap.objs.size + 1)
    have hrs : ∀ p ∈ rs, p.1 ≠ s.heap.objs.size + 3 ∧ p.1 ≠ s.heap.objs.size + 1 := fun p hp => of_decide_eq_true (List.mem_filter.mp hp).2
    have N0 : News X.base X.env.locals s'.heap (rs ++ [(s.heap.objs.size + 3, seqObj "list" kA e), (s.heap.objs.size + 1, seqObj "list" #[] e1)]) := fun p hp => by
      rcases List.mem_append.mp hp with hp | hp
      · exact news_all p (List.mem_filter.mp hp).1
      · rcases List.mem_cons.mp hp with rfl | hp
        · exact ⟨pk.1, pk.2.2.1, hiB 3⟩
        · rw [List.mem_singleton.mp hp]
          exact ⟨pa.1, pa.2.2.1, hiB 1⟩
    refine key_end (κ := dataKind s'.heap (bs.map key)) Fr0 N0 n31 (fun p hp => (hrs p hp).1) (fun p hp => (hrs p hp).2) SA hsz hz' fun h' tk ep F' N' => ⟨rfl, ?_⟩
    have kp : ∀ c o, c ≠ X.env.locals → c ≠ s.heap.objs.size + 3 → c ≠ s.heap.objs.size + 1 → s'.heap.get? c = some o → h'.get? c = some o := fun c o n0 n1 n2 q => by
      cases z : X.base.get? c with
      | some u =>
        have := I'.bk c u z
        rw [q] at this
        cases this
        exact F'.keep c _ z
      | none => exact (N' (c, o) (List.mem_cons_of_mem _ (List.mem_filter.mpr ⟨mem_allNews n0 z q, decide_eq_true ⟨n1, n2⟩⟩))).1
    have ha' := (N' _ List.mem_cons_self).1
    have out := sortVals_each (κ := dataKind s'.heap (bs.map key)) (rev := false) (fun b => keyToks (key b)) (each_vals rv he) (each_of_map key (each_keys hk.al rd))
    obtain ⟨ys, ry, hy⟩ := vals_each out
    have hlen : ys.length ≤ sizeLine := by
      rw [ry.length, sortVals_length false (by rw [Array.length_toList]; exact hsz)]
      exact hz'
    have I3 : Inv X pins σ Hc s' := I'.pins_of fun p hp => I'.pin p (List.mem_append_right _ (List.mem_append_left _ hp))
    have fin : Inv X pins σ (upd Hc (s.heap.objs.size + 1) (.lst ys)) { s' with heap := h', gens := s'.gens, drawn := s'.drawn, toks := tk } := by
      have hna : Hc (s.heap.objs.size + 1) = none := pa.2.1
      have hnk : Hc (s.heap.objs.size + 3) = none := pk.2.1
      refine I3.step (ch := [s.heap.objs.size + 3, s.heap.objs.size + 1]) (fun b hb => ?_) (fun b o nl _ hc q _ => kp b o nl (fun z => hc (by simp [z])) (fun z => hc (by simp [z])) q) (fun b o nl _ hc q _ => ⟨o.slots, kp b o nl (fun z => hc (by simp [z])) (fun z => hc (by simp [z])) q⟩)
        (fun b o hc q n => ?_) (fun b o hc q => ?_) (fun b xs q => by rw [upd_ne (ne_of_none q hna)]; exact q) (fun b o u q => by rw [upd_ne (ne_of_none q hna)]; exact q) (fun b ps q => ⟨#[], by rw [upd_ne (ne_of_none q hna), q]; simp⟩) (fun m hm => ?_) (fun b u q => ?_) I3.bare
      · have : b = s.heap.objs.size + 3 ∨ b = s.heap.objs.size + 1 := by simpa using hb
        rcases this with rfl | rfl
        · exact ⟨.inr (le0 3), pu _ 3 nL, fun x c q => up _ 3 (nC x c q), fun p hp => up _ 3 (nP p hp)⟩
        · exact ⟨.inr (le0 1), pu _ 1 nL, fun x c q => up _ 1 (nC x c q), fun p hp => up _ 1 (nP p hp)⟩
      · rw [upd_ne (fun z => hc (by simp [z]))]
        exact n
      · by_cases hbl : b = X.env.locals
        · obtain ⟨o', _, _, ho', _⟩ := F'.ns
          exact ⟨o', by rw [hbl]; exact ho'⟩
        · exact ⟨o, kp b o hbl (fun z => hc (by simp [z])) (fun z => hc (by simp [z])) q⟩
      · rw [nsOne hm Fr0.ns]
        exact F'.ns
      · by_cases hba : b = s.heap.objs.size + 1
        · subst hba
          rw [upd_same] at q
          cases q
          exact ⟨hlen, _, ep, ry, ha'⟩
        · rw [upd_ne hba] at q
          refine (I3.hok b u q).stay (fun c v hc r => kp c v ?_ ?_ ?_ r) (fun c r => by rw [upd_ne (ne_of_none r hna)]; exact r) fun c xs r => by rw [upd_ne (ne_of_none r hna)]; exact r
          · rcases hc with z | z
            · rw [z]; exact ne_of_none q I3.free
            · exact ne_of_none z I3.free
          · rcases hc with z | z
            · rw [z]; exact ne_of_none q hnk
            · exact ne_of_none z hnk
          · rcases hc with z | z
            · rw [z]; exact hba
            · exact ne_of_none z hna
    exact ⟨.ref _, _, fin, rfl, q ys _ _ hy (I.hok.fresh (by omega)) upd_same fun b o z => by rw [upd_ne (ne_of_none (sm b o z) pa.2.1)]; exact sm b o z⟩
end
end Rs

/-! Further readings: zip of tuples, comprehensions that make dicts, locks, sorting. -/
namespace Rw
open PySem PySem.Spec PyProof.Rows L2 Rd
variable {X : Cx} {D : Ends} {σ : L2.St} {H : Hp} {K : PySem.W.Frag}
theorem walk_zipT {a b : Addr} {xs ys : List V} {n : Nat} (hn : n = min xs.length ys.length) : Walk (RZ.ItzT K a b) n (fun H => SqT K H a xs ∧ SqT K H b ys) (YPair (fun i => xs[i]?) (fun i => ys[i]?)) := by
  subst hn
  refine ⟨fun i H hi q => ⟨xs, ys, xs[i]'(by omega), ys[i]'(by omega), q.1, q.2, List.getElem?_eq_getElem _, List.getElem?_eq_getElem _⟩, fun H q => ⟨xs, ys, q.1, q.2, by omega⟩, ?_⟩
  rintro i H v H' _ q ⟨T, x, y, h1, h2, h3, h4, h5⟩
  exact ⟨T, x, y, h1, h2, h3, h4 xs q.1, h5 ys q.2⟩
theorem zipH {ta : TA} {R : It → Hp → Prop} (h : ta σ H fun vs H1 => ∃ a b xs ys, vs = [.ref a, .ref b] ∧ ((SqL K H1 a xs ∧ SqL K H1 b ys ∧ R (Itz K a b) H1) ∨ (SqT K H1 a xs ∧ SqT K H1 b ys ∧ R (RZ.ItzT K a b) H1))) : RZ.iZipA K ta σ H R := h
theorem zipT {a b : Addr} {xs ys : List V} {P Q : Addr → Addr → Prop} (h1 : SqT K H a xs) (h2 : SqT K H b ys) (h : Q a b) : ∃ a' b' xs ys, [V.ref a, V.ref b] = [.ref a', .ref b'] ∧ ((SqL K H a' xs ∧ SqL K H b' ys ∧ P a' b') ∨ (SqT K H a' xs ∧ SqT K H b' ys ∧ Q a' b')) :=
  ⟨a, b, xs, ys, rfl, .inr ⟨h1, h2, h⟩⟩
theorem slT {a : Addr} {xs : List V} {lo hi : Option Int} {Q : VK} (hp : SqT K H a xs) (hw : ¬ (HT.sIx xs.length 0 lo = 0 ∧ HT.sIx xs.length xs.length hi = xs.length)) (h : NewQ (.tup (cutV xs lo hi)) Q H) : rSlT K (.ref a) lo hi H Q := ⟨a, xs, rfl, hp, hw, h⟩
theorem sl1 {a : Addr} {xs : List V} {Q : VK} (hp : SqT K H a xs) (n0 : xs ≠ []) (h : NewQ (.tup xs.tail) Q H) : rSlT K (.ref a) (some 1) none H Q := by
  have l : 1 ≤ xs.length := Nat.one_le_iff_ne_zero.mpr fun e => n0 (List.eq_nil_of_length_eq_zero e)
  have e1 : HT.sIx xs.length 0 (some ((1 : Nat) : Int)) = 1 := by rw [HT.sIx_nat]; omega
  refine slT hp (fun ⟨e, _⟩ => ?_) ?_
  · have e' : HT.sIx xs.length 0 (some ((1 : Nat) : Int)) = 0 := e
    omega
  · have e : cutV xs (some 1) none = xs.tail := by
      show (xs.drop (HT.sIx xs.length 0 (some ((1 : Nat) : Int)))).take (xs.length - HT.sIx xs.length 0 (some ((1 : Nat) : Int))) = xs.tail
      rw [e1, List.drop_one]
      exact List.take_of_length_le (by rw [List.length_tail]; exact Nat.le_refl _)
    rw [e]
    exact h
/-! ### locks -/
def LkE (t : TE) (d : Addr) (u : HO) (σ : L2.St) (H : Hp) (Q : VK) : Prop := ∀ od, t σ (upd H d (.frz od u)) fun v H' => H' d = some (.frz od u) ∧ Q v (upd H' d u)
theorem lockE {t : TE} {d : Addr} {u : HO} {Q : VK} (e : H d = some u) (m : Mut (some u)) (h : ∀ (od : Obj) (G : Hp), G d = some (.frz od u) → (∀ b, b ≠ d → G b = H b) → t σ G fun v H' => H' d = some (.frz od u) ∧ Q v (upd H' d u)) : tLockE t σ H Q :=
  ⟨d, u, e, m, fun od => h od _ upd_same fun b hb => upd_ne hb⟩
theorem itemsH {td : TE} {R : It → Hp → Prop} (h : td σ H fun x H1 => ∃ d o kvs, x = .ref d ∧ H1 d = some (.frz o (.dK kvs)) ∧ R (Iti d o kvs) H1) : iItems td σ H R := h
theorem itemsX {d : Addr} {od : Obj} {kvs : List (Key × V)} {P : Addr → Obj → List (Key × V) → Prop} (e : H d = some (.frz od (.dK kvs))) (h : P d od kvs) : ∃ d' o kvs, V.ref d = .ref d' ∧ H d' = some (.frz o (.dK kvs)) ∧ P d' o kvs := ⟨d, od, kvs, rfl, e, h⟩
theorem keysH {td : TE} {R : It → Hp → Prop} (h : td σ H fun x H1 => ∃ d o, x = .ref d ∧ ((∃ kvs, H1 d = some (.frz o (.dK kvs)) ∧ R (Itk d o kvs) H1) ∨ ∃ kvs, H1 d = some (.frz o (.dT kvs)) ∧ R (Itkt d o kvs) H1)) : iKeys td σ H R := h
theorem keysX {d : Addr} {od : Obj} {kvs : List (Key × V)} {P : Addr → Obj → List (Key × V) → Prop} {P' : Addr → Obj → List (List Key × V) → Prop} (e : H d = some (.frz od (.dK kvs))) (h : P d od kvs) : ∃ d' o, V.ref d = .ref d' ∧ ((∃ kvs, H d' = some (.frz o (.dK kvs)) ∧ P d' o kvs) ∨ ∃ kvs, H d' = some (.frz o (.dT kvs)) ∧ P' d' o kvs) := ⟨d, od, rfl, .inl ⟨kvs, e, h⟩⟩
/-! ### dict comprehensions -/
section
variable {X : Cx}
theorem ps_setDc {i : Nat} {y : Str} {py : Pos} {kx vx tg iter : Expr} {ifs : List Expr} {scope : Scope} {own : List (Str × Nat)} {pos spos : Pos} {wi : TI} {g : TG} {tt : TT} {tk tv : TE} (hc : X.calm = true) (hN : X.N.Nodup) (hy : X.N[i]? = some y) (hyl : X.env.scope.names.lookup y = some .local)
    (hsw : swapsWith (.DictComp kx vx [⟨tg, iter, ifs, 0⟩] scope pos) (some (.Name y py)) spos.line X.env = pure true) (hi : PI X tg iter wi) (ok : BlkOk X.N X.env.scope scope own)
    (hg : ∀ (s : Shared) (H : Hp) (C : Addr) (cl : List (Str × Addr)) (fp : List Addr), PG (X.blk s H scope (compEnvC scope cl C X.env) fp) tg g)
    (ht : ∀ (s : Shared) (H : Hp) (C : Addr) (cl : List (Str × Addr)) (fp : List Addr), PTs (X.blk s H scope (compEnvC scope cl C X.env) fp) ifs tt)
    (hk : ∀ (s : Shared) (H : Hp) (C : Addr) (cl : List (Str × Addr)) (fp : List Addr), PE (X.blk s H scope (compEnvC scope cl C X.env) fp) kx tk)
    (he : ∀ (s : Shared) (H : Hp) (C : Addr) (cl : List (Str × Addr)) (fp : List Addr), PE (X.blk s H scope (compEnvC scope cl C X.env) fp) vx tv) (hs : ∀ x, foldedSetIterable iter X.env x = pure x := by intro _; rfl) :
    PS X (.Assign [.Name y py] (.DictComp kx vx [⟨tg, iter, ifs, 0⟩] scope pos) spos) (tAsg (tDc wi g tt tk tv (own.map (·.2))) (gName i)) := by
  refine ⟨fun pins s σ H D I h => ?_⟩
  have h' : tDc wi g tt tk tv (own.map (·.2)) σ H (fun x H1 => gName i x σ H1 D.nx) := h
  rw [exec_Assign_Name_used _ _ _ _ hsw]
  refine wpAny_bind (wpAny_standAt (wpAny_bind ?_))
  show wpAny _ _ (comprehension (.DictComp kx vx [⟨tg, iter, ifs, 0⟩] scope pos) scope X.env (firstIterPos [⟨tg, iter, ifs, 0⟩] pos) newDict false (eval iter X.env) (some (assign (.Name y py) X.env)) >>= fun _ => pure ()) _ _ s
  refine wpAny_bind (thn (dc_core (use := some (assign (.Name y py) X.env)) (Qf := fun _ s' => SP X pins D .next s') hc hN I hi ok hg ht hk he hs h' fun L C s1 m H1 I1 q hn f => ?_) fun _ s2 hq => wpAny_pure (wpAny_pure hq))
  refine (wpAny_assign_Name (store_ok2 (v := V.ref L) I1 hN hy (.inl hyl) rfl (fun s2 I2 w => ?_) (.inr hyl)) : wpAny _ _ (assign (.Name y py) X.env (.ref L)) _ _ _)
  obtain ⟨b, sb, hb⟩ := w
  obtain ⟨f0, f1, f2, f3, f4, f5⟩ := f
  have ne : C ≠ b := hb.elim (fun z => z ▸ f1) fun z e => f4 y b z e.symm
  exact ⟨m, hn.sameBut sb ne, fun h3 sb3 => ⟨_, H1, I2.turned (t' := s2.toks) (fun c o n e => (sb3.2 c n).trans e) f0 f1 f3 f4 f5, q⟩⟩
theorem sw_dc {kx vx : Expr} {gs : List Comprehension} {scope : Scope} {pos py : Pos} {y : Str} {l : Nat} {env : Env} (hk : env.scope.kind = .function) (hy : env.scope.names.lookup y = some .local) (hl : (py.line == pos.line) = true)
    (ha : (scope.names.any fun (n, k) => n == y && (k == .local || k == .cell)) = false) : swapsWith (.DictComp kx vx gs scope pos) (some (.Name y py)) l env = pure true := by
  have k1 : env.kindOf y = some .local := hy
  have k2 : env.blockKind = .function := by unfold Env.blockKind; rw [hk]; rfl
  unfold swapsWith
  simp only [k2, k1, ha, Expr.pos, hl]
  rfl
end
def Dc (J : It) (g : TG) (tt : TT) (tk tv : TE) (vs : List Nat) (σ : L2.St) (H1 : Hp) (Q : VK) : Prop := ∀ D, H1 D = none → ∃ W : Nat → Nat → Hp → Prop, (∃ m, W 0 m (upd H1 D (.dK []))) ∧ ∀ i m H, W i m H →
  (J.stop i H ∧ Q (.ref D) H) ∨ (J.go i H ∧ ∃ Nx : Hp → Prop, (∀ H', Nx H' → ∃ m', m' < m ∧ W (i + 1) m' H') ∧ ∀ x H', J.yld i H x H' → g x (wipe σ vs) H' fun σ2 H2 => wipe σ2 vs = wipe σ vs ∧ tt σ2 H2 fun b H3 =>
    if b = true then tk σ2 H3 fun y H4 => tv σ2 H4 fun z H5 => ∃ kvs k, y = kV k ∧ H5 D = some (.dK kvs) ∧ kvs.length < sizeLine ∧ Nx (upd H5 D (.dK (putK kvs k z))) else Nx H3)
theorem dc {wi : TI} {g : TG} {tt : TT} {tk tv : TE} {vs : List Nat} {Q : VK} (h : wi σ H fun J H1 => Dc J g tt tk tv vs σ H1 Q) : tDc wi g tt tk tv vs σ H Q := h
def DcPut (D : Addr) (H1 : Hp) (R : Nat → List (Key × V) → Hp → Prop) (i : Nat) (y z : V) (H5 : Hp) : Prop := ∃ kvs k, y = kV k ∧ H5 D = some (.dK kvs) ∧ kvs.length < sizeLine ∧ ∃ kvs', upd H5 D (.dK (putK kvs k z)) D = some (.dK kvs') ∧ Same H1 (upd H5 D (.dK (putK kvs k z))) ∧ R (i + 1) kvs' (upd H5 D (.dK (putK kvs k z)))
def DcNo (D : Addr) (H1 : Hp) (R : Nat → List (Key × V) → Hp → Prop) (i : Nat) (H3 : Hp) : Prop := ∃ kvs', H3 D = some (.dK kvs') ∧ Same H1 H3 ∧ R (i + 1) kvs' H3
theorem dcPut {D : Addr} {H1 H5 : Hp} {R : Nat → List (Key × V) → Hp → Prop} {i : Nat} {k : Key} {z : V} {kvs : List (Key × V)} (hD : H5 D = some (.dK kvs)) (nD : H1 D = none) (s : Same H1 H5) (hz : kvs.length < sizeLine) (r : ∀ G : Hp, G D = some (.dK (putK kvs k z)) → (∀ b, b ≠ D → G b = H5 b) → R (i + 1) (putK kvs k z) G) : DcPut D H1 R i (kV k) z H5 :=
  ⟨kvs, k, rfl, hD, hz, _, upd_same, fun b o e => by rw [upd_ne (ne_of_none e nD)]; exact s b o e, r _ upd_same fun b hb => upd_ne hb⟩
theorem dcS {J : It} {n : Nat} {G : Hp → Prop} {Y : Nat → Hp → V → Hp → Prop} (w : Walk J n G Y) {g : TG} {tt : TT} {tk tv : TE} {vs : List Nat} {H1 : Hp} {Q : VK} (hG : ∀ H, Same H1 H → G H) (R : Addr → Nat → List (Key × V) → Hp → Prop)
    (r0 : ∀ (D : Addr) (G : Hp), H1 D = none → G D = some (.dK []) → Same H1 G → R D 0 [] G)
    (hs : ∀ (D : Addr) i x H H' kvs, H1 D = none → i < n → H D = some (.dK kvs) → Same H1 H → R D i kvs H → Y i H x H' → g x (wipe σ vs) H' fun σ2 H2 => wipe σ2 vs = wipe σ vs ∧ tt σ2 H2 fun b H3 =>
      if b = true then tk σ2 H3 fun y H4 => tv σ2 H4 fun z H5 => DcPut D H1 (R D) i y z H5 else DcNo D H1 (R D) i H3)
    (hd : ∀ (D : Addr) kvs H, H1 D = none → H D = some (.dK kvs) → Same H1 H → R D n kvs H → Q (.ref D) H) : Dc J g tt tk tv vs σ H1 Q := fun D nD => by
  refine ⟨fun i m H => m = n - i ∧ i ≤ n ∧ ∃ kvs, H D = some (.dK kvs) ∧ Same H1 H ∧ R D i kvs H, ⟨n, by simp, Nat.zero_le _, [], upd_same, same_upd nD, r0 D _ nD upd_same (same_upd nD)⟩, ?_⟩
  rintro i m H ⟨rfl, hi, kvs, h1, h2, h3⟩
  have q := hG H h2
  by_cases hlt : i < n
  · refine .inr ⟨w.goes i H hlt q, fun H => ∃ kvs, H D = some (.dK kvs) ∧ Same H1 H ∧ R D (i + 1) kvs H, fun H' p' => ⟨n - (i + 1), by omega, rfl, hlt, p'⟩, fun x H' y => ?_⟩
    exact hs D i x H H' kvs nD hlt h1 h2 h3 (w.yields i H x H' hlt q y)
  · have e : i = n := by omega
    subst e
    exact .inl ⟨w.stops H q, hd D kvs H nD h1 h2 h3⟩
/-! ### sorted -/
theorem sortD {β : Type} {a : Addr} {xs : List V} {bs : List β} {Q : VK} (k : β → PyData) (R : V → β → Prop) (hs : SqL K H a xs) (he : PySem.W.EachIs (fun x b => Dp K H x (k b) ∧ R x b) xs bs) (hk : Rs.Keys (bs.map k))
    (h : ∀ (out : List V) (p : Addr) (G : Hp), PySem.W.EachIs (fun x b => Dp K H x (k b) ∧ R x b) out (bs.mergeSort (PySem.W.dataLe false k)) → H p = none → G p = some (.lst out) → Same H G → Q (.ref p) G) : Rs.rSortD K [.ref a] H Q :=
  ⟨a, xs, β, bs, k, R, rfl, hs, he, hk, h⟩
def SortK (f : Addr) (sp : Sp) (K : PySem.W.Frag) (vs zs : List V) (H : Hp) (Q : VK) : Prop := Rs.rSortK f sp K vs zs H Q
theorem ckw {r : List V → List V → Hp → VK → Prop} {t tk : TA} {Q : VK} (h : t σ H fun vs H1 => tk σ H1 fun zs H2 => r vs zs H2 Q) : tCKw r t tk σ H Q := h
theorem sortK {β : Type} {f : Addr} {sp : Sp} {a : Addr} {xs : List V} {bs : List β} {Q : VK} (k : β → PyData) (R : V → β → Prop) (hs : SqL K H a xs) (he : PySem.W.EachIs R xs bs) (hk : Rs.Keys (bs.map k))
    (hf : ∀ x b H1, Same H H1 → b ∈ bs → R x b → sp [x] H1 (fun v H2 => Same H1 H2 ∧ Dp K H2 v (k b)) (fun _ _ _ => False))
    (h : ∀ (out : List V) (p : Addr) (G : Hp), PySem.W.EachIs R out (bs.mergeSort (PySem.W.dataLe false k)) → H p = none → G p = some (.lst out) → Same H G → Q (.ref p) G) : Rs.rSortK f sp K [.ref a] [.ref f] H Q :=
  ⟨a, xs, β, bs, k, R, rfl, rfl, hs, he, hk, hf, h⟩
def DClr : V → List V → Hp → VK → Prop := rDClear
theorem clr {a : Addr} {kvs : List (Key × V)} {Q : VK} (e : H a = some (.dK kvs)) (h : ∀ G : Hp, G a = some (.dK []) → (∀ b, b ≠ a → G b = H b) → Q .non G) : rDClear (.ref a) [] H Q := ⟨a, kvs, rfl, rfl, e, h _ upd_same fun b hb => upd_ne hb⟩
end Rw
namespace Rd
open PySem PySem.Spec PyProof.Rows L2
variable {σ : L2.St} {H : Hp} {K : PySem.W.Frag}
theorem notT {ta : TE} {Q : VK} (h : ta σ H fun x H1 => ∃ k, TruV K x H1 k ∧ Q (.bl (!k)) H1) : tNotT K ta σ H Q := h
theorem yes {c A B : Prop} {i : Decidable c} (h : c) (a : A) : @ite Prop c i A B := by rw [if_pos h]; exact a
theorem no {c A B : Prop} {i : Decidable c} (h : ¬ c) (a : B) : @ite Prop c i A B := by rw [if_neg h]; exact a
theorem ifX {x : V} {i : Decidable (x = V.non)} {A B : Prop} (n : x ≠ .non) (h : B) : @ite Prop (x = V.non) i A B := by rw [if_neg n]; exact h
theorem ifR {a : Addr} {i : Decidable (V.ref a = V.non)} {A B : Prop} (h : B) : @ite Prop (V.ref a = V.non) i A B := ifX (by intro e; cases e) h
theorem ifI {a : Int} {i : Decidable (V.int a = V.non)} {A B : Prop} (h : B) : @ite Prop (V.int a = V.non) i A B := ifX (by intro e; cases e) h
theorem ifT {a : Str} {i : Decidable (V.str a = V.non)} {A B : Prop} (h : B) : @ite Prop (V.str a = V.non) i A B := ifX (by intro e; cases e) h
theorem ifN {i : Decidable (V.non = V.non)} {A B : Prop} (h : A) : @ite Prop (V.non = V.non) i A B := by rw [if_pos rfl]; exact h
theorem orTH {ta tb : TE} {Q : VK} (h : ta σ H fun x H1 => ∃ k, TruV K x H1 k ∧ if k = true then Q x H1 else tb σ H1 Q) : tOrT K ta tb σ H Q := h
end Rd

namespace W
open PySem PySem.Spec PyProof.Rows L2
def top (i : Nat) : Stmt := PySem.Challenge.pw_watchedways_k68_whole_books_by_books.main.body.getD i (.Pass ⟨0, 0, 0, 0⟩)
abbrev s_is_letters : Stmt := top 10
abbrev s_is_word : Stmt := top 11
abbrev s_is_watch : Stmt := top 12
abbrev s_check_word : Stmt := top 13
abbrev s_Book_init : Stmt := inClass (top 16) 0
abbrev s_check_book : Stmt := top 17
abbrev s_links_of : Stmt := top 19
abbrev s_grown : Stmt := top 20
abbrev s_leads : Stmt := top 21
abbrev s_distances : Stmt := top 22
abbrev s_shortest : Stmt := top 23
abbrev s_steps_between : Stmt := top 25
abbrev s_rule_by : Stmt := top 26
abbrev s_rule : Stmt := top 27
abbrev s_leads_all : Stmt := top 29
abbrev s_tells_book : Stmt := top 30
abbrev s_rules_for : Stmt := top 31
abbrev s_l_flag : Stmt := top 33
abbrev s_l_tape : Stmt := top 34
abbrev s_l_pick : Stmt := top 35
abbrev s_l_letters : Stmt := top 36
abbrev s_l_word : Stmt := top 37
abbrev s_l_piece : Stmt := top 38
abbrev s_l_pathed : Stmt := top 39
abbrev s_l_watches : Stmt := top 40
abbrev s_l_marks : Stmt := top 41
abbrev s_l_told : Stmt := top 42
abbrev s_l_joined : Stmt := top 44
abbrev s_l_spots : Stmt := top 45
abbrev s_l_fewest : Stmt := top 46
abbrev s_l_rule_right : Stmt := top 47
abbrev s_law : Stmt := top 48
theorem sc_is_letters : FnScope ["value", "letter"] ["value"] (defScope s_is_letters) := ⟨rfl, rfl, rfl, by decide +kernel, rfl, by decide +kernel, by decide +kernel⟩
theorem sc_is_word : FnScope ["thing"] ["thing"] (defScope s_is_word) := ⟨rfl, rfl, rfl, by decide +kernel, rfl, by decide +kernel, by decide +kernel⟩
theorem sc_is_watch : FnScope ["thing"] ["thing"] (defScope s_is_watch) := ⟨rfl, rfl, rfl, by decide +kernel, rfl, by decide +kernel, by decide +kernel⟩
theorem sc_check_word : FnScope ["word"] ["word"] (defScope s_check_word) := ⟨rfl, rfl, rfl, by decide +kernel, rfl, by decide +kernel, by decide +kernel⟩
theorem sc_Book_init : FnScope ["self", "watches", "found", "at", "watch"] ["self", "watches"] (defScope s_Book_init) := ⟨rfl, rfl, rfl, by decide +kernel, rfl, by decide +kernel, by decide +kernel⟩
theorem sc_check_book : FnScope ["book"] ["book"] (defScope s_check_book) := ⟨rfl, rfl, rfl, by decide +kernel, rfl, by decide +kernel, by decide +kernel⟩
theorem sc_links_of : FnScope ["watches", "word", "spot", "found", "watch", "row"] ["watches", "word"] (defScope s_links_of) := ⟨rfl, rfl, rfl, by decide +kernel, rfl, by decide +kernel, by decide +kernel⟩
theorem sc_grown : FnScope ["links", "spots", "found", "at", "spot"] ["links", "spots"] (defScope s_grown) := ⟨rfl, rfl, rfl, by decide +kernel, rfl, by decide +kernel, by decide +kernel⟩
theorem sc_leads : FnScope ["watches", "word"] ["watches", "word"] (defScope s_leads) := ⟨rfl, rfl, rfl, by decide +kernel, rfl, by decide +kernel, by decide +kernel⟩
theorem sc_distances : FnScope ["links", "found", "row", "later", "spot", "other"] ["links"] (defScope s_distances) := ⟨rfl, rfl, rfl, by decide +kernel, rfl, by decide +kernel, by decide +kernel⟩
theorem sc_shortest : FnScope ["watches", "word", "links", "far", "found", "spot", "other"] ["watches", "word"] (defScope s_shortest) := ⟨rfl, rfl, rfl, by decide +kernel, rfl, by decide +kernel, by decide +kernel⟩
theorem sc_steps_between : FnScope ["word", "spots", "steps", "one", "other"] ["word", "spots"] (defScope s_steps_between) := ⟨rfl, rfl, rfl, by decide +kernel, rfl, by decide +kernel, by decide +kernel⟩
theorem sc_rule_by : FnScope ["watches", "word", "spots"] ["watches", "word"] (defScope s_rule_by) := ⟨rfl, rfl, rfl, by decide +kernel, rfl, by decide +kernel, by decide +kernel⟩
theorem sc_rule : FnScope ["book", "word"] ["book", "word"] (defScope s_rule) := ⟨rfl, rfl, rfl, by decide +kernel, rfl, by decide +kernel, by decide +kernel⟩
theorem sc_leads_all : FnScope ["watches", "words", "word"] ["watches", "words"] (defScope s_leads_all) := ⟨rfl, rfl, rfl, by decide +kernel, rfl, by decide +kernel, by decide +kernel⟩
theorem sc_tells_book : FnScope ["one", "other"] ["one", "other"] (defScope s_tells_book) := ⟨rfl, rfl, rfl, by decide +kernel, rfl, by decide +kernel, by decide +kernel⟩
theorem sc_rules_for : FnScope ["one", "other", "rules", "watch", "steps"] ["one", "other"] (defScope s_rules_for) := ⟨rfl, rfl, rfl, by decide +kernel, rfl, by decide +kernel, by decide +kernel⟩
theorem sc_l_flag : FnScope ["_law_told_here", "_law_due"] ["_law_told_here", "_law_due"] (defScope s_l_flag) := ⟨rfl, rfl, rfl, by decide +kernel, rfl, by decide +kernel, by decide +kernel⟩
theorem sc_l_tape : FnScope ["_law_script"] ["_law_script"] (defScope s_l_tape) := ⟨rfl, rfl, rfl, by decide +kernel, rfl, by decide +kernel, by decide +kernel⟩
theorem sc_l_pick : FnScope ["_law_tape_here", "_law_size", "_law_digit", "_law_cell", "_law_mixed"] ["_law_tape_here", "_law_size"] (defScope s_l_pick) := ⟨rfl, rfl, rfl, by decide +kernel, rfl, by decide +kernel, by decide +kernel⟩
theorem sc_l_letters : FnScope ["_law_tape_here", "_law_letters_here", "_law_start", "_law_step", "_law_found", "_law_k"] ["_law_tape_here"] (defScope s_l_letters) := ⟨rfl, rfl, rfl, by decide +kernel, rfl, by decide +kernel, by decide +kernel⟩
theorem sc_l_word : FnScope ["_law_tape_here", "_law_letters_here", "_law_least", "_law_most", "_law_word_here", "_law_k"] ["_law_tape_here", "_law_letters_here", "_law_least", "_law_most"] (defScope s_l_word) := ⟨rfl, rfl, rfl, by decide +kernel, rfl, by decide +kernel, by decide +kernel⟩
theorem sc_l_piece : FnScope ["_law_tape_here", "_law_word_here", "_law_start", "_law_size"] ["_law_tape_here", "_law_word_here"] (defScope s_l_piece) := ⟨rfl, rfl, rfl, by decide +kernel, rfl, by decide +kernel, by decide +kernel⟩
theorem sc_l_pathed : FnScope ["_law_tape_here", "_law_word_here", "_law_watches_here", "_law_spot", "_law_k", "_law_other", "_law_watch"] ["_law_tape_here", "_law_word_here"] (defScope s_l_pathed) := ⟨rfl, rfl, rfl, by decide +kernel, rfl, by decide +kernel, by decide +kernel⟩
theorem sc_l_watches : FnScope ["_law_tape_here", "_law_word_here", "_law_letters_here", "_law_most", "_law_kind", "_law_watches_here", "_law_k", "_law_watch"] ["_law_tape_here", "_law_word_here", "_law_letters_here", "_law_most"] (defScope s_l_watches) := ⟨rfl, rfl, rfl, by decide +kernel, rfl, by decide +kernel, by decide +kernel⟩
theorem sc_l_marks : FnScope ["_law_watches_here", "_law_word_here", "_law_marks_here", "_law_watch", "_law_spot", "_law_old", "_law_at"] ["_law_watches_here", "_law_word_here"] (defScope s_l_marks) := ⟨rfl, rfl, rfl, by decide +kernel, rfl, by decide +kernel, by decide +kernel⟩
theorem sc_l_told : FnScope ["_law_watches_here", "_law_word_here", "_law_marks_here"] ["_law_watches_here", "_law_word_here"] (defScope s_l_told) := ⟨rfl, rfl, rfl, by decide +kernel, rfl, by decide +kernel, by decide +kernel⟩
theorem sc_l_joined : FnScope ["_law_tape_here", "_law_watches_here", "_law_word_here", "_law_made", "_law_k", "_law_kind", "_law_one"] ["_law_tape_here", "_law_watches_here", "_law_word_here"] (defScope s_l_joined) := ⟨rfl, rfl, rfl, by decide +kernel, rfl, by decide +kernel, by decide +kernel⟩
theorem sc_l_spots : FnScope ["_law_word_here", "_law_steps", "_law_spots_here", "_law_step", "_law_other", "_law_low"] ["_law_word_here", "_law_steps"] (defScope s_l_spots) := ⟨rfl, rfl, rfl, by decide +kernel, rfl, by decide +kernel, by decide +kernel⟩
theorem sc_l_fewest : FnScope ["_law_watches_here", "_law_word_here", "_law_reached", "_law_count", "_law_more", "_law_watch", "_law_spot", "_law_pair"] ["_law_watches_here", "_law_word_here"] (defScope s_l_fewest) := ⟨rfl, rfl, rfl, by decide +kernel, rfl, by decide +kernel, by decide +kernel⟩
theorem sc_l_rule_right : FnScope ["_law_watches_here", "_law_watch", "_law_steps", "_law_step", "_law_spots_here"] ["_law_watches_here", "_law_watch", "_law_steps"] (defScope s_l_rule_right) := ⟨rfl, rfl, rfl, by decide +kernel, rfl, by decide +kernel, by decide +kernel⟩
theorem sc_law : FnScope ["_law_script", "_law_tape_here", "_law_letters_here", "_law_word_here", "_law_watches_here", "_law_others", "_law_one", "_law_other", "_law_told_here", "_law_kept", "_law_sure", "_law_watch", "_law_due", "_law_again", "_law_key"] ["_law_script"] (defScope s_law) := ⟨rfl, rfl, rfl, by decide +kernel, rfl, by decide +kernel, by decide +kernel⟩
structure Txt (K : PySem.W.Frag) (mg : Str → Option Value) where
  C_Book : Addr
  c_Book : mg "Book" = some (.ref C_Book)
  cl_Book : Cls K C_Book
  ty_Book : OwnTy K C_Book
  na_Book_watches : NoAttr K C_Book "watches"
  f_is_letters : Addr
  fd_is_letters : FuncData
  F_is_letters : Fun K "is_letters" "is_letters" s_is_letters f_is_letters fd_is_letters
  g_is_letters : mg "is_letters" = some (.ref f_is_letters)
  b_is_letters : Binds K fd_is_letters ["value"] []
  f_is_word : Addr
  fd_is_word : FuncData
  F_is_word : Fun K "is_word" "is_word" s_is_word f_is_word fd_is_word
  g_is_word : mg "is_word" = some (.ref f_is_word)
  b_is_word : Binds K fd_is_word ["thing"] []
  f_is_watch : Addr
  fd_is_watch : FuncData
  F_is_watch : Fun K "is_watch" "is_watch" s_is_watch f_is_watch fd_is_watch
  g_is_watch : mg "is_watch" = some (.ref f_is_watch)
  b_is_watch : Binds K fd_is_watch ["thing"] []
  f_check_word : Addr
  fd_check_word : FuncData
  F_check_word : Fun K "check_word" "check_word" s_check_word f_check_word fd_check_word
  g_check_word : mg "check_word" = some (.ref f_check_word)
  b_check_word : Binds K fd_check_word ["word"] []
  f_Book_init : Addr
  fd_Book_init : FuncData
  F_Book_init : Fun K "__init__" "Book.__init__" s_Book_init f_Book_init fd_Book_init
  M_Book : Mk K C_Book f_Book_init
  b_Book_init : Binds K fd_Book_init ["self", "watches"] []
  f_check_book : Addr
  fd_check_book : FuncData
  F_check_book : Fun K "check_book" "check_book" s_check_book f_check_book fd_check_book
  g_check_book : mg "check_book" = some (.ref f_check_book)
  b_check_book : Binds K fd_check_book ["book"] []
  f_links_of : Addr
  fd_links_of : FuncData
  F_links_of : Fun K "links_of" "links_of" s_links_of f_links_of fd_links_of
  g_links_of : mg "links_of" = some (.ref f_links_of)
  b_links_of : Binds K fd_links_of ["watches", "word"] []
  f_grown : Addr
  fd_grown : FuncData
  F_grown : Fun K "grown" "grown" s_grown f_grown fd_grown
  g_grown : mg "grown" = some (.ref f_grown)
  b_grown : Binds K fd_grown ["links", "spots"] []
  f_leads : Addr
  fd_leads : FuncData
  F_leads : Fun K "leads" "leads" s_leads f_leads fd_leads
  g_leads : mg "leads" = some (.ref f_leads)
  b_leads : Binds K fd_leads ["watches", "word"] []
  f_distances : Addr
  fd_distances : FuncData
  F_distances : Fun K "distances" "distances" s_distances f_distances fd_distances
  g_distances : mg "distances" = some (.ref f_distances)
  b_distances : Binds K fd_distances ["links"] []
  f_shortest : Addr
  fd_shortest : FuncData
  F_shortest : Fun K "shortest" "shortest" s_shortest f_shortest fd_shortest
  g_shortest : mg "shortest" = some (.ref f_shortest)
  b_shortest : Binds K fd_shortest ["watches", "word"] []
  f_steps_between : Addr
  fd_steps_between : FuncData
  F_steps_between : Fun K "steps_between" "steps_between" s_steps_between f_steps_between fd_steps_between
  g_steps_between : mg "steps_between" = some (.ref f_steps_between)
  b_steps_between : Binds K fd_steps_between ["word", "spots"] []
  f_rule_by : Addr
  fd_rule_by : FuncData
  F_rule_by : Fun K "rule_by" "rule_by" s_rule_by f_rule_by fd_rule_by
  g_rule_by : mg "rule_by" = some (.ref f_rule_by)
  b_rule_by : Binds K fd_rule_by ["watches", "word"] []
  f_rule : Addr
  fd_rule : FuncData
  F_rule : Fun K "rule" "rule" s_rule f_rule fd_rule
  g_rule : mg "rule" = some (.ref f_rule)
  b_rule : Binds K fd_rule ["book", "word"] []
  f_leads_all : Addr
  fd_leads_all : FuncData
  F_leads_all : Fun K "leads_all" "leads_all" s_leads_all f_leads_all fd_leads_all
  g_leads_all : mg "leads_all" = some (.ref f_leads_all)
  b_leads_all : Binds K fd_leads_all ["watches", "words"] []
  f_tells_book : Addr
  fd_tells_book : FuncData
  F_tells_book : Fun K "tells_book" "tells_book" s_tells_book f_tells_book fd_tells_book
  g_tells_book : mg "tells_book" = some (.ref f_tells_book)
  b_tells_book : Binds K fd_tells_book ["one", "other"] []
  f_rules_for : Addr
  fd_rules_for : FuncData
  F_rules_for : Fun K "rules_for" "rules_for" s_rules_for f_rules_for fd_rules_for
  g_rules_for : mg "rules_for" = some (.ref f_rules_for)
  b_rules_for : Binds K fd_rules_for ["one", "other"] []
  f_l_flag : Addr
  fd_l_flag : FuncData
  F_l_flag : Fun K "_law_flag" "_law_flag" s_l_flag f_l_flag fd_l_flag
  g_l_flag : mg "_law_flag" = some (.ref f_l_flag)
  b_l_flag : Binds K fd_l_flag ["_law_told_here", "_law_due"] []
  f_l_tape : Addr
  fd_l_tape : FuncData
  F_l_tape : Fun K "_law_tape" "_law_tape" s_l_tape f_l_tape fd_l_tape
  g_l_tape : mg "_law_tape" = some (.ref f_l_tape)
  b_l_tape : Binds K fd_l_tape ["_law_script"] []
  f_l_pick : Addr
  fd_l_pick : FuncData
  F_l_pick : Fun K "_law_pick" "_law_pick" s_l_pick f_l_pick fd_l_pick
  g_l_pick : mg "_law_pick" = some (.ref f_l_pick)
  b_l_pick : Binds K fd_l_pick ["_law_tape_here", "_law_size"] []
  f_l_letters : Addr
  fd_l_letters : FuncData
  F_l_letters : Fun K "_law_letters" "_law_letters" s_l_letters f_l_letters fd_l_letters
  g_l_letters : mg "_law_letters" = some (.ref f_l_letters)
  b_l_letters : Binds K fd_l_letters ["_law_tape_here"] []
  f_l_word : Addr
  fd_l_word : FuncData
  F_l_word : Fun K "_law_word" "_law_word" s_l_word f_l_word fd_l_word
  g_l_word : mg "_law_word" = some (.ref f_l_word)
  b_l_word : Binds K fd_l_word ["_law_tape_here", "_law_letters_here", "_law_least", "_law_most"] []
  f_l_piece : Addr
  fd_l_piece : FuncData
  F_l_piece : Fun K "_law_piece" "_law_piece" s_l_piece f_l_piece fd_l_piece
  g_l_piece : mg "_law_piece" = some (.ref f_l_piece)
  b_l_piece : Binds K fd_l_piece ["_law_tape_here", "_law_word_here"] []
  f_l_pathed : Addr
  fd_l_pathed : FuncData
  F_l_pathed : Fun K "_law_pathed" "_law_pathed" s_l_pathed f_l_pathed fd_l_pathed
  g_l_pathed : mg "_law_pathed" = some (.ref f_l_pathed)
  b_l_pathed : Binds K fd_l_pathed ["_law_tape_here", "_law_word_here"] []
  f_l_watches : Addr
  fd_l_watches : FuncData
  F_l_watches : Fun K "_law_watches" "_law_watches" s_l_watches f_l_watches fd_l_watches
  g_l_watches : mg "_law_watches" = some (.ref f_l_watches)
  b_l_watches : Binds K fd_l_watches ["_law_tape_here", "_law_word_here", "_law_letters_here", "_law_most"] []
  f_l_marks : Addr
  fd_l_marks : FuncData
  F_l_marks : Fun K "_law_marks" "_law_marks" s_l_marks f_l_marks fd_l_marks
  g_l_marks : mg "_law_marks" = some (.ref f_l_marks)
  b_l_marks : Binds K fd_l_marks ["_law_watches_here", "_law_word_here"] []
  f_l_told : Addr
  fd_l_told : FuncData
  F_l_told : Fun K "_law_told" "_law_told" s_l_told f_l_told fd_l_told
  g_l_told : mg "_law_told" = some (.ref f_l_told)
  b_l_told : Binds K fd_l_told ["_law_watches_here", "_law_word_here"] []
  f_l_joined : Addr
  fd_l_joined : FuncData
  F_l_joined : Fun K "_law_joined" "_law_joined" s_l_joined f_l_joined fd_l_joined
  g_l_joined : mg "_law_joined" = some (.ref f_l_joined)
  b_l_joined : Binds K fd_l_joined ["_law_tape_here", "_law_watches_here", "_law_word_here"] []
  f_l_spots : Addr
  fd_l_spots : FuncData
  F_l_spots : Fun K "_law_spots" "_law_spots" s_l_spots f_l_spots fd_l_spots
  g_l_spots : mg "_law_spots" = some (.ref f_l_spots)
  b_l_spots : Binds K fd_l_spots ["_law_word_here", "_law_steps"] []
  f_l_fewest : Addr
  fd_l_fewest : FuncData
  F_l_fewest : Fun K "_law_fewest" "_law_fewest" s_l_fewest f_l_fewest fd_l_fewest
  g_l_fewest : mg "_law_fewest" = some (.ref f_l_fewest)
  b_l_fewest : Binds K fd_l_fewest ["_law_watches_here", "_law_word_here"] []
  f_l_rule_right : Addr
  fd_l_rule_right : FuncData
  F_l_rule_right : Fun K "_law_rule_right" "_law_rule_right" s_l_rule_right f_l_rule_right fd_l_rule_right
  g_l_rule_right : mg "_law_rule_right" = some (.ref f_l_rule_right)
  b_l_rule_right : Binds K fd_l_rule_right ["_law_watches_here", "_law_watch", "_law_steps"] []
  f_law : Addr
  fd_law : FuncData
  F_law : Fun K "law" "law" s_law f_law fd_law
  g_law : mg "law" = some (.ref f_law)
  b_law : Binds K fd_law ["_law_script"] []
  n_isinstance : mg "isinstance" = none
  n_str : mg "str" = none
  n_all : mg "all" = none
  n_len : mg "len" = none
  n_enumerate : mg "enumerate" = none
  n_tuple : mg "tuple" = none
  n_list : mg "list" = none
  n_range : mg "range" = none
  n_sorted : mg "sorted" = none
  n_zip : mg "zip" = none
  n_bool : mg "bool" = none
  n_int : mg "int" = none
  n_min : mg "min" = none
  n_max : mg "max" = none
  n_dict : mg "dict" = none
  t_LETTERS : Tok
  m_LETTERS : mg "LETTERS" = some (.str "abcdefghijklmnopqrstuvwxyz" t_LETTERS)
  t_MOST_WORD : Tok
  m_MOST_WORD : mg "MOST_WORD" = some (.int 40 t_MOST_WORD)
  t_MOST_WATCH : Tok
  m_MOST_WATCH : mg "MOST_WATCH" = some (.int 12 t_MOST_WATCH)
  t_MOST_WATCHES : Tok
  m_MOST_WATCHES : mg "MOST_WATCHES" = some (.int 12 t_MOST_WATCHES)
end W

local macro_rules | `(tactic| walk_at "rd") => `(tactic| repeat (first
  | with_reducible refine Rd.seq ?_ | with_reducible refine Rd.asg ?_ | with_reducible refine Rd.name ?_ | with_reducible refine Rd.var rfl ?_ | with_reducible refine Rd.con ?_ | with_reducible refine Rd.op ?_
  | with_reducible refine Rd.ret ?_ | with_reducible refine Rd.ifS ?_ | with_reducible refine Rd.test ?_ | with_reducible refine Rd.tstB ?_ | with_reducible refine Rd.bl ?_ | with_reducible refine Rd.blE ?_
  | with_reducible refine Rd.nil ?_ | with_reducible refine Rd.cons ?_ | with_reducible refine Rd.cb ?_ | with_reducible refine Rd.call ?_ | with_reducible refine Rd.un ?_
  | with_reducible refine Rd.i0 ?_ | with_reducible refine Rd.u1 ?_ | with_reducible refine Rd.eqI ?_ | with_reducible refine Rd.neI ?_ | with_reducible refine Rd.eqB ?_ | with_reducible refine Rd.neB ?_ | with_reducible refine Rd.eqS ?_ | with_reducible refine Rd.neS ?_
  | with_reducible refine Rd.and ?_ | with_reducible refine Rd.or ?_ | with_reducible refine Rd.not ?_ | with_reducible refine Rd.andV ?_ | with_reducible refine Rd.orV ?_ | with_reducible refine Rd.notV ?_ | with_reducible refine Rd.ifE ?_ | with_reducible refine Rd.chain ?_
  | with_reducible refine Rd.tup ?_ | with_reducible refine Rd.lst ?_ | with_reducible refine Rd.nxt ?_ | with_reducible refine Rd.retN ?_ | with_reducible refine Rd.drop ?_ | with_reducible refine Rd.brk ?_ | with_reducible refine Rd.cont ?_
  | with_reducible refine Rd.a1 ?_ | with_reducible refine Rd.a2 ?_ | with_reducible refine Rd.v2 ?_ | with_reducible refine Rd.int ?_ | with_reducible refine Rd.abs ?_ | with_reducible refine Rd.max2 ?_ | with_reducible refine Rd.min2 ?_ | with_reducible refine Rd.bm ?_ | with_reducible refine Rd.bm0 ?_ | with_reducible refine Rd.sl ?_ | with_reducible refine Rd.part ?_ | with_reducible refine Rd.noPart ?_ | with_reducible refine Rd.intE ?_ | with_reducible refine Rd.revL ?_ | with_reducible refine Rd.enx ?_ | with_reducible refine Rd.ebk ?_ | with_reducible refine Rd.ect ?_ | with_reducible refine Rd.ert ?_ | with_reducible refine Rd.gcons ?_ | with_reducible refine Rd.gnil ?_ | with_reducible refine Rd.par ?_ | with_reducible refine Rd.sub ?_ | with_reducible refine Rd.iter ?_ | with_reducible refine Rd.iterT ?_ | with_reducible refine Rd.rng1 ?_ | with_reducible refine Rd.refE ?_ | with_reducible refine Rd.aug rfl ?_ | with_reducible refine Rd.ipi ?_ | with_reducible refine Rd.lc ?_ | with_reducible refine Rd.tyes ?_ | with_reducible refine Rd.fldH ?_ | with_reducible refine Rd.sfldH ?_ | with_reducible refine Rd.mkH ?_ | with_reducible refine Rd.methH ?_ | with_reducible refine Rd.istr ?_ | with_reducible refine Rd.strE ?_ | with_reducible refine Rd.lstRg ?_ | with_reducible refine Rd.m1 ?_ | with_reducible refine Rd.dgetH ?_ | with_reducible refine Rd.dinH ?_ | with_reducible refine Rd.dninH ?_ | with_reducible refine Rd.dget1H ?_ | with_reducible refine Rd.strX ?_ | with_reducible refine Rd.tupRg ?_ | with_reducible refine Rd.rg1 ?_ | with_reducible refine Rd.rg2 ?_ | with_reducible refine Rd.intE2 ?_ | with_reducible refine Rw.zipH ?_ | with_reducible refine Rw.itemsH ?_ | with_reducible refine Rw.keysH ?_ | with_reducible refine Rw.dc ?_ | with_reducible refine Rw.ckw ?_ | with_reducible refine Rd.notT ?_
  | with_reducible refine L2.iteT ?_ | with_reducible refine L2.iteF ?_
  | with_reducible refine Rd.iteb ?_ | with_reducible refine Rd.iten ?_ | with_reducible refine Rd.itbn ?_))

local macro_rules | `(tactic| walk_at "yes") => `(tactic| (refine (if_pos (by first | assumption | omega)).mpr ?_))
local macro_rules | `(tactic| walk_at "no") => `(tactic| (refine (if_neg (by first | assumption | omega)).mpr ?_))

local macro_rules | `(tactic| k_extra "ne") => `(tactic| first
  | with_reducible assumption | with_reducible exact Ne.symm (by with_reducible assumption) | with_reducible exact Rd.ntT (by with_reducible assumption) (by k_extra "tape")
  | with_reducible exact Rd.neN (by with_reducible assumption) (by k_extra "at") | with_reducible exact Rd.neN' (by with_reducible assumption) (by k_extra "at"))
local macro_rules | `(tactic| k_extra "tape") => `(tactic| first
  | with_reducible assumption | with_reducible exact Rd.tape_same (by with_reducible assumption) (by k_extra "tape"))
local macro_rules | `(tactic| k_extra "at") => `(tactic| first
  | with_reducible assumption
  | with_reducible exact Rd.at_same (by with_reducible assumption) (by k_extra "at")
  | with_reducible exact Rd.at_off (by with_reducible assumption) (by k_extra "ne") (by k_extra "at")
  | with_reducible exact Rd.at_but (by with_reducible assumption) (by k_extra "ne") (by k_extra "at"))
local macro_rules | `(tactic| k_extra "bk") => `(tactic| first
  | with_reducible assumption
  | with_reducible exact Rd.book_same (by with_reducible assumption) (by k_extra "bk")
  | with_reducible exact Rd.book_but (by with_reducible assumption) (by k_extra "tape") (by k_extra "bk"))
local macro_rules | `(tactic| k_extra "sqL") => `(tactic| first
  | with_reducible assumption | with_reducible exact L2.Same.seq (by with_reducible assumption) (by k_extra "sqL"))
local macro_rules | `(tactic| k_extra "sqT") => `(tactic| first
  | with_reducible assumption | with_reducible exact Ru.same_tup (by with_reducible assumption) (by k_extra "sqT"))
local macro_rules | `(tactic| k_extra "sq") => `(tactic| first
  | with_reducible assumption | (with_reducible show L2.SqL _ _ _ _; first | exact L2.SqL.of (by k_extra "at") | k_extra "sqL") | (with_reducible show L2.SqT _ _ _ _; first | exact L2.SqT.of (by k_extra "at") | k_extra "sqT"))
local macro_rules | `(tactic| k_extra "row") => `(tactic| first
  | with_reducible assumption | exact Or.inl (L2.SqL.of (by k_extra "at")) | exact Or.inr (L2.SqT.of (by k_extra "at")) | exact Or.inl (by k_extra "sqL") | exact Or.inr (by k_extra "sqT"))
local macro_rules | `(tactic| k_extra "same") => `(tactic| first
  | with_reducible exact L2.Same.refl _ | with_reducible assumption
  | with_reducible exact Rd.same_tr (by with_reducible assumption) (by k_extra "same")
  | with_reducible exact Rd.same_of2 (by with_reducible assumption) (by with_reducible assumption) (by k_extra "same"))
local macro_rules | `(tactic| k_extra "but") => `(tactic| first
  | with_reducible exact Rd.But.refl _ _ | with_reducible assumption
  | with_reducible exact Rd.but_tr (by with_reducible assumption) (by k_extra "but")
  | with_reducible exact Rd.but_sm (by with_reducible assumption) (by k_extra "but")
  | with_reducible exact Rd.but_of2 (by with_reducible assumption) (by with_reducible assumption) (by k_extra "but"))
local macro_rules | `(tactic| k_extra "sz") => `(tactic| first
  | with_reducible assumption | with_reducible exact Lt.Wd.line (by with_reducible assumption) (by decide) | (rw [PySem.sizeLine_eq]; omega)
  | (simp only [List.length_map, List.length_append, List.length_cons, List.length_nil, List.length_take] <;> rw [PySem.sizeLine_eq] <;> omega) | exact Nat.le_of_ble_eq_true rfl)
local macro_rules | `(tactic| k_extra "go1") => `(tactic| first
  | (with_reducible show Rd.nLenS _ _ _; refine Rd.lenStr (by k_extra "sz") ?_)
  | (with_reducible show Rd.nLen _ _ _ _; first | refine Rd.lenS (by k_extra "row") ?_ | refine Rd.lenI (by k_extra "row") ?_ | refine Rd.lenR (by k_extra "row") ?_)
  | (with_reducible show L2.rSlS _ _ _ _ _; refine Rd.slS (by k_extra "sz") ?_)
  | (with_reducible show L2.tyV _ "list" _ _ ∧ _; refine Rd.tyL (by k_extra "sq") ?_)
  | (with_reducible show Rd.nAddS _ _ _ _; refine Rd.addS (by k_extra "sz") ?_)
  | (with_reducible show L2.rIsi _ _ _ _; first | with_reducible refine Rd.isiStr ?_ | with_reducible refine Rd.isiB ?_ | with_reducible refine Rd.isiI ?_ | with_reducible refine Rd.isiIB ?_)
  | (with_reducible show L2.rIn _ _ _ _ _ _; first | refine Rd.inStrsY (by k_extra "row") ?_ | refine Rd.inStrsN (by k_extra "row") ?_ | refine Rd.inIntsY (by k_extra "row") ?_ | refine Rd.inIntsN (by k_extra "row") ?_)
  | with_reducible refine And.intro (Eq.refl L2.V.non) ?_ | with_reducible refine Rd.ifN ?_ | with_reducible refine Rd.ifR ?_ | with_reducible refine Rd.ifI ?_ | with_reducible refine Rd.ifT ?_)
local macro_rules | `(tactic| walk_at "go") => `(tactic| (walk_at "rd"; repeat (k_extra "go1"; walk_at "rd")))

namespace W
open PySem PySem.Spec PyProof.Rows L2
section
variable {P : Program} {w : World} {K : PySem.W.Frag} {mg : Str → Option Value} {base : Heap}
/-! ### the tape: a list of the cells (never written) and four ints; what is drawn lies below the size -/
/-- a tape stands at t, its cells at c -/
def sp_l_tape (K : PySem.W.Frag) : Sp := fun vs H Q _ => ∃ (a : Addr) (ns : List Int), vs = [.ref a] ∧ SqL K H a (ns.map V.int) ∧ ∀ t c H', Tape H' t c → Same H H' → H t = none → H c = none → Q (.ref t) H'
def sp_l_pick (K : PySem.W.Frag) : Sp := fun vs H Q _ => ∃ (t c : Addr) (n : Int), vs = [.ref t, .int n] ∧ Tape H t c ∧ 0 < n ∧ n < 1073741824 ∧ ∀ r H', 0 ≤ r → r < n → Tape H' t c → Rd.But t H H' → Q (.int r) H'
theorem ok_l_tape (T : Txt K mg) : FnOk P w K mg base CX0 1 T.f_l_tape T.fd_l_tape ["_law_script"] (sp_l_tape K) := by
  refine T.F_l_tape.ok sc_l_tape (fun vs H Q E h => ?_) (fun cdv A outer s H vs Q E hr h => ?_)
  · obtain ⟨a, ns, rfl, _⟩ := h
    rfl
  · obtain ⟨a, ns, rfl, hS, k⟩ := h
    refine ⟨_, (pss_one (ps_ret (pe_lst (pa_cons (pe_callTy (T := "list") (r := Rd.nListOf K) Rd.c_listOf (by rfl) T.n_list (by decide +kernel) (pa_cons (pv 0) pa_nil)) (pa_cons pe_int (pa_cons pe_int (pa_cons pe_int (pa_cons pe_int pa_nil)))))))), ?_⟩
    walk_at "rd"
    refine Rd.listOf (.inl hS) (Rd.new fun c G hc gc s1 => ?_)
    walk_at "rd"
    refine ⟨Nat.le_of_ble_eq_true rfl, Rd.new fun t G2 ht gt s2 => ?_⟩
    have tc : c ≠ t := ne_of_none gc ht
    exact k t c _ ⟨ns, 0, 0, 1, 0, tc.symm, gt, s2 _ _ gc, by decide, by omega, by decide, by decide⟩ (s1.trans s2) (s1.free ht) hc
theorem ok_l_pick (T : Txt K mg) : FnOk P w K mg base CX0 1 T.f_l_pick T.fd_l_pick ["_law_tape_here", "_law_size"] (sp_l_pick K) := by
  refine T.F_l_pick.ok sc_l_pick (fun vs H Q E h => ?_) (fun cdv A outer s H vs Q E hr h => ?_)
  · obtain ⟨t, c, n, rfl, _⟩ := h
    rfl
  · obtain ⟨t, c, n, rfl, ⟨ns, x, y, z, u, tc, h1, h2, x0, x1, z0, z1⟩, n0, n1, k⟩ := h
    refine ⟨_, (pss_cons (ps_if (pt_cmpR op_gt (pe_ix (r := rIxL K) ix_list (pv 0) pe_int (fun _ _ => rfl)) pe_int (nomark _))
  (pss_cons (ps_set (i := 2) sc_l_pick.nd rfl (.inl rfl) (pe_op op_mod (pe_callTy (T := "int") (r := _) Rd.c_int (by rfl) T.n_int (by decide +kernel) (pa_cons (pe_ix (r := rIxL K) ix_list (pv 0) pe_int (fun _ _ => rfl)) pa_nil)) (pv 1)))
  (pss_cons (ps_asg (pe_op op_fdiv (pe_ix (r := rIxL K) ix_list (pv 0) pe_int (fun _ _ => rfl)) (pv 1)) (pg_sub (pv 0) pe_int set_list))
  (pss_one (ps_ret (pv 2)))))
  pss_nil)
  (pss_cons (ps_asg (pe_op op_add (pe_ix (r := rIxL K) ix_list (pv 0) pe_int (fun _ _ => rfl)) pe_int) (pg_sub (pv 0) pe_int set_list))
  (pss_cons (ps_set (i := 3) sc_l_pick.nd rfl (.inl rfl) pe_int)
  (C8.pss_cut (ps_if (pt_cmpR op_lt (pe_ix (r := rIxL K) ix_list (pv 0) pe_int (fun _ _ => rfl)) (pe_callB (id := "len") (r := Rd.nLen K) Rd.c_len (by rfl) T.n_len (by decide +kernel) (pa_cons (pe_ix ix_list (pv 0) pe_int (fun _ _ => rfl)) pa_nil)) (nomark _))
  (pss_cons (ps_set (i := 3) sc_l_pick.nd rfl (.inl rfl) (pe_ix (r := rIxL K) ix_list (pe_ix ix_list (pv 0) pe_int (fun _ _ => rfl)) (pe_ix (r := rIxL K) ix_list (pv 0) pe_int (fun _ _ => rfl)) (fun _ _ => rfl)))
  (pss_one (ps_asg (pe_op op_add (pe_ix (r := rIxL K) ix_list (pv 0) pe_int (fun _ _ => rfl)) pe_int) (pg_sub (pv 0) pe_int set_list))))
  pss_nil)
  (pss_cons (ps_if (pt_cmpR op_ge (pv 3) (pe_op op_pow pe_int pe_int) (nomark _))
  (pss_cons (ps_asg (pe_op op_fdiv (pv 3) (pv 1)) (pg_sub (pv 0) pe_int set_list))
  (pss_one (ps_ret (pe_op op_mod (pe_callTy (T := "int") (r := _) Rd.c_int (by rfl) T.n_int (by decide +kernel) (pa_cons (pv 3) pa_nil)) (pv 1)))))
  pss_nil)
  (pss_cons (ps_set (i := 4) sc_l_pick.nd rfl (.inl rfl) (pe_op op_mod (pe_callTy (T := "int") (r := _) Rd.c_int (by rfl) T.n_int (by decide +kernel) (pa_cons (pe_op op_add (pe_op op_add (pe_op op_mul (pe_ix (r := rIxL K) ix_list (pv 0) pe_int (fun _ _ => rfl)) pe_int) (pe_op op_mod (pe_callTy (T := "int") (r := _) Rd.c_int (by rfl) T.n_int (by decide +kernel) (pa_cons (pv 3) pa_nil)) pe_int)) (pe_op op_mul (pe_ix (r := rIxL K) ix_list (pv 0) pe_int (fun _ _ => rfl)) pe_int)) pa_nil)) pe_int))
  (pss_cons (ps_set (i := 4) sc_l_pick.nd rfl (.inl rfl) (pe_op op_mod (pe_callTy (T := "int") (r := _) Rd.c_int (by rfl) T.n_int (by decide +kernel) (pa_cons (pe_op op_mul (pv 4) (pe_op op_add (pe_op op_fdiv (pv 4) pe_int) pe_int)) pa_nil)) pe_int))
  (pss_cons (ps_asg (pv 4) (pg_sub (pv 0) pe_int set_list))
  (pss_one (ps_ret (pe_op op_mod (pe_callTy (T := "int") (r := _) Rd.c_int (by rfl) T.n_int (by decide +kernel) (pa_cons (pe_op op_fdiv (pv 4) pe_int) pa_nil)) (pv 1)))))))))))), ?_⟩
    walk_at "rd"
    refine Rd.ixL (.of h1) (atI_nat (j := 2) rfl) ?_
    walk_at "rd"
    refine ite2 (fun q => ?_) (fun q => ?_)
    · walk_at "rd"
      refine Rd.ixL (.of h1) (atI_nat (j := 2) rfl) ?_
      walk_at "rd"
      refine Rd.iC n0 ?_
      walk_at "rd"
      refine Rd.ixL (.of h1) (atI_nat (j := 2) rfl) ?_
      walk_at "rd"
      refine Rd.iC ⟨n0, n1⟩ ?_
      walk_at "rd"
      refine Rd.setG h1 (show ixN 5 2 = some 2 by decide) rfl fun G g1 gb => ?_
      walk_at "rd"
      exact k _ _ (Int.emod_nonneg _ (by omega)) (Int.emod_lt_of_pos _ n0) ⟨ns, x, _, z, u, tc, g1, by rw [gb _ tc.symm]; exact h2, x0, x1, z0, z1⟩ (fun b o hb e => by rw [gb b hb]; exact e)
    · walk_at "rd"
      refine Rd.ixL (.of h1) (atI_nat (j := 4) rfl) ?_
      walk_at "rd"
      refine Rd.setG h1 (show ixN 5 4 = some 4 by decide) rfl fun G g1 gb => ?_
      have g2 : G c = some (.lst (ns.map V.int)) := by rw [gb _ tc.symm]; exact h2
      walk_at "rd"
      -- the cell m is read (or 0)
      refine Rd.cut (fun σ G' => ∃ x' m : Int, σ = [some (.ref t), some (.int n), none, some (.int m), none] ∧ 0 ≤ x' ∧ x' ≤ ns.length ∧ G' t = some (.lst [.ref c, .int x', .int y, .int z, .int (u + 1)]) ∧ (∀ b, b ≠ t → G' b = H b)) ?_ ?_
      · walk_at "rd"
        refine Rd.ixL (.of g1) (atI_nat (j := 1) rfl) ?_
        walk_at "rd"
        refine Rd.ixL (.of g1) (atI_nat (j := 0) rfl) ?_
        walk_at "rd"
        refine Rd.len (.inl (.of g2)) ?_
        rw [List.length_map]
        walk_at "rd"
        refine ite2 (fun q2 => ?_) (fun q2 => ?_)
        · walk_at "rd"
          refine Rd.ixL (.of g1) (atI_nat (j := 0) rfl) ?_
          walk_at "rd"
          refine Rd.ixL (.of g1) (atI_nat (j := 1) rfl) ?_
          have hx : x.toNat < ns.length := by omega
          refine Rd.ixL (.of g2) (Rd.atI_of x0 (Rd.map_int hx)) ?_
          walk_at "rd"
          refine Rd.ixL (.of g1) (atI_nat (j := 1) rfl) ?_
          walk_at "rd"
          refine Rd.setG g1 (show ixN 5 1 = some 1 by decide) rfl fun G2 k1 kb => ?_
          walk_at "rd"
          exact ⟨x + 1, _, rfl, by omega, by omega, k1, fun b hb => (kb b hb).trans (gb b hb)⟩
        · walk_at "rd"
          exact ⟨x, 0, rfl, x0, x1, g1, gb⟩
      · rintro _ G' ⟨x', m, rfl, x'0, x'1, e1, eb⟩
        have e2 : G' c = some (.lst (ns.map V.int)) := by rw [eb _ tc.symm]; exact h2
        walk_at "rd"
        refine Rd.iC ⟨by decide, by decide, by decide⟩ ?_
        walk_at "rd"
        refine ite2 (fun q2 => ?_) (fun q2 => ?_)
        · walk_at "rd"
          refine Rd.iC ⟨n0, n1⟩ ?_
          walk_at "rd"
          refine Rd.setG e1 (show ixN 5 2 = some 2 by decide) rfl fun G2 k1 kb => ?_
          walk_at "rd"
          refine Rd.iC n0 ?_
          walk_at "rd"
          exact k _ _ (Int.emod_nonneg _ (by omega)) (Int.emod_lt_of_pos _ n0) ⟨ns, x', _, z, u + 1, tc, k1, by rw [kb _ tc.symm]; exact e2, x'0, x'1, z0, z1⟩ (fun b o hb e => by rw [kb b hb, eb b hb]; exact e)
        · walk_at "rd"
          refine Rd.ixL (.of e1) (atI_nat (j := 3) rfl) ?_
          walk_at "rd"
          refine Rd.iC (.inr (by decide)) ?_
          walk_at "rd"
          refine Rd.iC (by decide) ?_
          walk_at "rd"
          refine Rd.ixL (.of e1) (atI_nat (j := 4) rfl) ?_
          walk_at "rd"
          refine Rd.iC (.inr (by decide)) ?_
          walk_at "rd"
          refine Rd.iC (by decide) ?_
          generalize hM : (z * 48271 + m % 2147483629 + (u + 1) * 69621) % 2147483647 = M
          have M0 : 0 ≤ M := by rw [← hM]; exact Int.emod_nonneg _ (by decide)
          have M1 : M < 2147483647 := by rw [← hM]; exact Int.emod_lt_of_pos _ (by decide)
          walk_at "rd"
          refine Rd.iC ⟨by decide, by decide⟩ ?_
          walk_at "rd"
          refine Rd.iC (.inl ⟨by omega, by omega⟩) ?_
          walk_at "rd"
          refine Rd.iC (by decide) ?_
          generalize hN : M * (M / 1009 + 40692) % 2147483399 = N
          have N0 : 0 ≤ N := by rw [← hN]; exact Int.emod_nonneg _ (by decide)
          have N1 : N < 2147483399 := by rw [← hN]; exact Int.emod_lt_of_pos _ (by decide)
          walk_at "rd"
          refine Rd.setG e1 (show ixN 5 3 = some 3 by decide) rfl fun G2 k1 kb => ?_
          walk_at "rd"
          refine Rd.iC ⟨by decide, by decide⟩ ?_
          walk_at "rd"
          refine Rd.iC n0 ?_
          walk_at "rd"
          exact k _ _ (Int.emod_nonneg _ (by omega)) (Int.emod_lt_of_pos _ n0) ⟨ns, x', y, N, u + 1, tc, k1, by rw [kb _ tc.symm]; exact e2, x'0, x'1, N0, by omega⟩ (fun b o hb e => by rw [kb b hb, eb b hb]; exact e)
theorem pickR {K : PySem.W.Frag} {H : Hp} {t c : Addr} {n : Int} {Q : VK} {E : XK} (T : Tape H t c) (h0 : 0 < n) (h1 : n < 1073741824) (k : ∀ r H', 0 ≤ r → r < n → Tape H' t c → Rd.But t H H' → Q (.int r) H') : sp_l_pick K [.ref t, .int n] H Q E := ⟨t, c, n, rfl, T, h0, h1, k⟩
/-! ### what stays when only the tape is written -/
theorem but_L {K : PySem.W.Frag} {H H' : Hp} {t a : Addr} {xs : List V} (e : Rd.But t H H') (n : a ≠ t) (h : SqL K H a xs) : SqL K H' a xs := by
  rcases h with (h | ⟨o, h⟩) | h
  · exact .inl (.inl (e _ _ n h))
  · exact .inl (.inr ⟨o, e _ _ n h⟩)
  · exact .inr h
theorem but_T {K : PySem.W.Frag} {H H' : Hp} {t a : Addr} {xs : List V} (e : Rd.But t H H') (n : a ≠ t) (h : SqT K H a xs) : SqT K H' a xs := by
  rcases h with (h | ⟨o, h⟩) | h
  · exact .inl (.inl (e _ _ n h))
  · exact .inl (.inr ⟨o, e _ _ n h⟩)
  · exact .inr h
theorem but_R {K : PySem.W.Frag} {H H' : Hp} {t a : Addr} {xs : List V} (e : Rd.But t H H') (n : a ≠ t) (h : Ru.SqR K H a xs) : Ru.SqR K H' a xs := h.imp (but_L e n) (but_T e n)

end
end W

namespace W
open PySem PySem.Spec PyProof.Rows L2
section
variable {P : Program} {w : World} {K : PySem.W.Frag} {mg : Str → Option Value} {base : Heap}
def sp_l_flag (K : PySem.W.Frag) : Sp := fun vs H Q _ => ∃ a b : Bool, vs = [.bl a, .bl b] ∧ Q (.bl (a == b)) H
theorem flagR {K : PySem.W.Frag} {H : Hp} {a b : Bool} {Q : VK} {E : XK} (k : Q (.bl (a == b)) H) : sp_l_flag K [.bl a, .bl b] H Q E := ⟨a, b, rfl, k⟩
theorem ok_l_flag (T : Txt K mg) : FnOk P w K mg base CX0 1 T.f_l_flag T.fd_l_flag ["_law_told_here", "_law_due"] (sp_l_flag K) := by
  refine T.F_l_flag.ok sc_l_flag (fun vs H Q E h => ?_) (fun cdv A outer s H vs Q E hr h => ?_)
  · obtain ⟨a, b, rfl, _⟩ := h
    rfl
  · obtain ⟨a, b, rfl, k⟩ := h
    refine ⟨_, (pss_one (ps_ret (pe_and (pe_callB (id := "isinstance") (r := rIsi K) call_isi (by rfl) T.n_isinstance (by decide +kernel) (pa_cons (pv 0) (pa_cons (pe_bltn (v := .ty "bool") (u := .type "bool") (by rfl) T.n_bool (by decide +kernel) rfl) pa_nil))) (pe_one (pe_cmpR op_eq (pv 0) (pv 1) (nomark _)))))), ?_⟩
    walk_at "rd"
    refine Rd.isiB ?_
    walk_at "rd"
    exact k

end
end W

namespace W
open PySem PySem.Spec PyProof.Rows L2
section
variable {P : Program} {w : World} {K : PySem.W.Frag} {mg : Str → Option Value} {base : Heap}
/-! ### words and watches of letters -/
def sp_is_letters (K : PySem.W.Frag) : Sp := fun vs H Q _ => ∃ z : Str, vs = [.str z] ∧ Lt.Let z ∧ z.length ≤ 1000000 ∧ ∀ H', Same H H' → Q (.bl true) H'
def sp_is_word (K : PySem.W.Frag) : Sp := fun vs H Q _ => ∃ z : Str, vs = [.str z] ∧ Lt.Wd 40 z ∧ ∀ H', Same H H' → Q (.bl true) H'
def sp_is_watch (K : PySem.W.Frag) : Sp := fun vs H Q _ => ∃ z : Str, vs = [.str z] ∧ Lt.Wd 12 z ∧ ∀ H', Same H H' → Q (.bl true) H'
theorem ok_is_letters (T : Txt K mg) : FnOk P w K mg base CX0 1 T.f_is_letters T.fd_is_letters ["value"] (sp_is_letters K) := by
  refine T.F_is_letters.ok sc_is_letters (fun vs H Q E h => ?_) (fun cdv A outer s H vs Q E hr h => ?_)
  · obtain ⟨z, rfl, _⟩ := h
    rfl
  · obtain ⟨z, rfl, hz, hl, k⟩ := h
    refine ⟨_, (pss_one (ps_ret (pe_and (pe_callB (id := "isinstance") (r := rIsi K) call_isi (by rfl) T.n_isinstance (by decide +kernel) (pa_cons (pv 0) (pa_cons (pe_bltn (v := .ty "str") (u := .type "str") (by rfl) T.n_str (by decide +kernel) rfl) pa_nil))) (pe_one (pe_callB (id := "all") (r := rAll K) (cr_all rfl) (by rfl) T.n_all (by decide +kernel) (pa_cons (pe_lc (own := [("letter", 1)]) (g := gName 1) (tt := tYes) rfl sc_is_letters.nd (pi_str (pv 0)) (blkOk_by (own := [("letter", 1)]) (N := ["value", "letter"]) (sc := defScope s_is_letters) (by decide +kernel)) (fun _ _ _ _ _ => (pg_name (i := 1) sc_is_letters.nd rfl (.inl rfl))) (fun _ _ _ _ _ => pts_nil) (fun _ _ _ _ _ => (pe_cmpR Rd.o_inC (pv 1) (pe_glob (v := .str "abcdefghijklmnopqrstuvwxyz") rfl T.m_LETTERS ⟨_, rfl⟩) rfl))) pa_nil)))))), ?_⟩
    walk_at "rd"
    refine Rd.isiStr ?_
    walk_at "rd"
    refine Rd.lcS walk_str (fun _ _ => trivial) (fun _ i acc _ => acc = (List.replicate i true).map V.bl) (fun _ _ _ _ _ => rfl) ?_ ?_
    · rintro D i x G _ acc nD hi hD sm rfl ⟨rfl, c, hc, rfl⟩
      walk_at "rd"
      refine ⟨rfl, Rd.tyes ?_⟩
      walk_at "rd"
      have hc2 : c ∈ Lt.Abc.cps.toList := hz.char (i := i) (by simpa using hc)
      refine Rd.inCT hc2 ?_
      have hi2 : i < z.length := hi
      refine Rd.lcPush hD nD sm (by rw [List.length_map, List.length_replicate, sizeLine_eq]; omega) fun G _ _ => ?_
      rw [List.replicate_succ', List.map_append]
      rfl
    · rintro D acc G nD hD sm rfl
      refine Rd.all (.of hD) ?_
      rw [show (List.replicate z.cps.size true).all id = true by simp]
      exact k _ sm
theorem ok_is_word (T : Txt K mg) : FnOk P w K mg base CX0 2 T.f_is_word T.fd_is_word ["thing"] (sp_is_word K) := by
  refine T.F_is_word.ok sc_is_word (fun vs H Q E h => ?_) (fun cdv A outer s H vs Q E hr h => ?_)
  · obtain ⟨z, rfl, _⟩ := h
    rfl
  · obtain ⟨z, rfl, hz, k⟩ := h
    refine ⟨_, (pss_one (ps_ret (pe_and (pe_call (ok_is_letters T) (hr.mono (by decide)) rfl T.g_is_letters T.F_is_letters.kp T.b_is_letters .nil pass0 (pa_cons (pv 0) pa_nil)) (pe_one (pe_chain op_le op_le pe_int (pe_callB (id := "len") (r := _) Rd.c_lenS (by rfl) T.n_len (by decide +kernel) (pa_cons (pv 0) pa_nil)) (pe_glob (v := .int 40) rfl T.m_MOST_WORD ⟨_, rfl⟩)))))), ?_⟩
    have h0 := hz.l0
    have h1 := hz.l1
    walk_at "rd"
    refine ⟨z, rfl, hz.ok, by omega, fun H1 s1 => ?_⟩
    walk_at "rd"
    refine Rd.lenStr (hz.line (by decide)) ?_
    walk_at "rd"
    walk_at "yes"
    walk_at "rd"
    rw [decide_eq_true (by omega)]
    exact k _ s1
theorem ok_is_watch (T : Txt K mg) : FnOk P w K mg base CX0 2 T.f_is_watch T.fd_is_watch ["thing"] (sp_is_watch K) := by
  refine T.F_is_watch.ok sc_is_watch (fun vs H Q E h => ?_) (fun cdv A outer s H vs Q E hr h => ?_)
  · obtain ⟨z, rfl, _⟩ := h
    rfl
  · obtain ⟨z, rfl, hz, k⟩ := h
    refine ⟨_, (pss_one (ps_ret (pe_and (pe_call (ok_is_letters T) (hr.mono (by decide)) rfl T.g_is_letters T.F_is_letters.kp T.b_is_letters .nil pass0 (pa_cons (pv 0) pa_nil)) (pe_one (pe_chain op_le op_le pe_int (pe_callB (id := "len") (r := _) Rd.c_lenS (by rfl) T.n_len (by decide +kernel) (pa_cons (pv 0) pa_nil)) (pe_glob (v := .int 12) rfl T.m_MOST_WATCH ⟨_, rfl⟩)))))), ?_⟩
    have h0 := hz.l0
    have h1 := hz.l1
    walk_at "rd"
    refine ⟨z, rfl, hz.ok, by omega, fun H1 s1 => ?_⟩
    walk_at "rd"
    refine Rd.lenStr (hz.line (by decide)) ?_
    walk_at "rd"
    walk_at "yes"
    walk_at "rd"
    rw [decide_eq_true (by omega)]
    exact k _ s1

end
end W

namespace W
open PySem PySem.Spec PyProof.Rows L2
section
variable {P : Program} {w : World} {K : PySem.W.Frag} {mg : Str → Option Value} {base : Heap}
def sp_check_word (K : PySem.W.Frag) : Sp := fun vs H Q _ => ∃ z : Str, vs = [.str z] ∧ Lt.Wd 40 z ∧ ∀ H', Same H H' → Q (.str z) H'
theorem ok_check_word (T : Txt K mg) : FnOk P w K mg base CX0 4 T.f_check_word T.fd_check_word ["word"] (sp_check_word K) := by
  refine T.F_check_word.ok sc_check_word (fun vs H Q E h => ?_) (fun cdv A outer s H vs Q E hr h => ?_)
  · obtain ⟨z, rfl, _⟩ := h
    rfl
  · obtain ⟨z, rfl, hz, k⟩ := h
    refine ⟨_, (pss_cons (ps_if (pt_not (pt_val (pe_call (ok_is_word T) (hr.mono (by decide)) rfl T.g_is_word T.F_is_word.kp T.b_is_word .nil pass0 (pa_cons (pv 0) pa_nil))))
  (pss_one ps_never)
  pss_nil)
  (pss_one (ps_ret (pv 0)))), ?_⟩
    walk_at "rd"
    refine ⟨z, rfl, hz, fun H1 s1 => ?_⟩
    walk_at "rd"
    exact k _ s1

end
end W

namespace W
open PySem PySem.Spec PyProof.Rows L2
section
variable {P : Program} {w : World} {K : PySem.W.Frag} {mg : Str → Option Value} {base : Heap}
/-! ### books -/
def sp_Book_init (K : PySem.W.Frag) (C : Addr) : Sp := fun vs H Q _ => ∃ (b a : Addr) (ws : List Str), vs = [.ref b, .ref a] ∧ (∃ dx, H b = some (.ins C dx [])) ∧ Ru.SqR K H a (ws.map V.str) ∧ Watches ws ∧ ∀ H', BookAt C H' b ws → Rd.But b H H' → Q .non H'
def sp_check_book (K : PySem.W.Frag) (C : Addr) : Sp := fun vs H Q _ => ∃ (b : Addr) (ws : List Str), vs = [.ref b] ∧ BookAt C H b ws ∧ Q (.ref b) H
theorem ok_Book_init (T : Txt K mg) : FnOk P w K mg base CX0 4 T.f_Book_init T.fd_Book_init ["self", "watches"] (sp_Book_init K T.C_Book) := by
  refine T.F_Book_init.ok sc_Book_init (fun vs H Q E h => ?_) (fun cdv A outer s H vs Q E hr h => ?_)
  · obtain ⟨b, a, ws, rfl, _⟩ := h
    rfl
  · obtain ⟨b, a, ws, rfl, ⟨dx, hb⟩, hS, L, k⟩ := h
    refine ⟨_, (pss_cons (ps_if (PW.pt (pw_or (pt_not (pt_val (pe_callB (id := "isinstance") (r := rIsiT K) call_isiT (by rfl) T.n_isinstance (by decide +kernel) (pa_cons (pv 1) (pa_cons (pe_tup (pa_cons (pe_bltn (v := .ty "list") (u := .type "list") (by rfl) T.n_list (by decide +kernel) rfl) (pa_cons (pe_bltn (v := .ty "tuple") (u := .type "tuple") (by rfl) T.n_tuple (by decide +kernel) rfl) pa_nil))) pa_nil))))) (pw_or1 (pt_cmpR op_gt (pe_callB (id := "len") (r := Rd.nLen K) Rd.c_len (by rfl) T.n_len (by decide +kernel) (pa_cons (pv 1) pa_nil)) (pe_glob (v := .int 12) rfl T.m_MOST_WATCHES ⟨_, rfl⟩) (nomark _)))))
  (pss_one ps_never)
  pss_nil)
  (pss_cons (ps_set (i := 2) sc_Book_init.nd rfl (.inl rfl) (pe_lst pa_nil))
  (pss_cons (ps_for PassesOwn.never rfl (Ru.pi_or (pi_enum (by rfl) T.n_enumerate (pa_cons (pv 1) pa_nil)) (Ru.pi_enumT (by rfl) T.n_enumerate (pa_cons (pv 1) pa_nil))) (pg_tup rfl (pgs_cons (pg_name (i := 3) sc_Book_init.nd rfl (.inl rfl)) (pgs_cons (pg_name (i := 4) sc_Book_init.nd rfl (.inl rfl)) pgs_nil)))
  (pss_cons (ps_if (PW.pt (pw_or (pt_not (pt_val (pe_call (ok_is_watch T) (hr.mono (by decide)) rfl T.g_is_watch T.F_is_watch.kp T.b_is_watch .nil pass0 (pa_cons (pv 4) pa_nil)))) (pw_or1 (pt_cmpR (r := rIn K false) op_in_seq (pv 4) (pv 2) (by rfl)))))
  (pss_one ps_never)
  pss_nil)
  (pss_one (ps_expr (pe_bm PySem.F.plainAttrs_list PySem.F.slot_list_append PySem.F.type_list_append mt_append (pv 2) (pa_cons (pv 4) pa_nil))))))
  (pss_one (ps_fld (pv 0) (pe_callTy (T := "tuple") (r := Rd.nTupOf K) Rd.c_tupOf (by rfl) T.n_tuple (by decide +kernel) (pa_cons (pv 2) pa_nil)) rfl))))), ?_⟩
    have l1 := L.l1
    walk_at "rd"
    refine ⟨Nat.le_of_ble_eq_true rfl, Rd.new fun p G hp gp sG => ?_⟩
    walk_at "rd"
    refine Ru.isRow (hS.same sG) gp ?_
    walk_at "rd"
    refine Rd.len (hS.same sG) ?_
    rw [List.length_map]
    walk_at "rd"
    walk_at "no"
    walk_at "rd"
    refine ⟨Nat.zero_le _, Rd.new fun f G2 nf gf s2 => ?_⟩
    walk_at "rd"
    refine Ru.for_enumR (a := a) (xs := ws.map V.str) (fun Q q => ?_) (fun i σ H' => ∃ x y, σ = [some (.ref b), some (.ref a), some (.ref f), x, y] ∧ H' f = some (.lst ((ws.take i).map V.str)) ∧ Same G H') (hS.same sG) ⟨_, _, rfl, gf, s2⟩ (fun i σ H' _ ⟨_, _, _, _, z⟩ => z) ?_ ?_
    · walk_at "rd"
      exact q
    · rintro i x _ H' t hx ⟨_, _, rfl, hf, sm⟩ hT
      obtain ⟨z, hz, rfl⟩ := Rd.map_strG hx
      have sT := Rd.same_upd (o := .tup [.int (i : Nat), .str z]) hT
      refine Rd.tupT (.of upd_same) rfl ?_
      walk_at "rd"
      refine ⟨z, rfl, L.ok z (List.mem_of_getElem? hz), fun H1 s1 => ?_⟩
      have hf1 := s1 _ _ (sT _ _ hf)
      walk_at "rd"
      refine Rd.inStrsY (.inl (.of hf1)) ?_
      rw [decide_eq_false (Rd.nodup_take L.nd hz)]
      walk_at "rd"
      refine Rd.tyL (.of hf1) ?_
      walk_at "rd"
      refine Rd.app hf1 (by rw [List.length_map, List.length_take, sizeLine_eq]; omega) fun G3 g3 off3 => ?_
      walk_at "rd"
      refine ⟨_, _, rfl, ?_, fun c o e => ?_⟩
      · rw [Rd.take_snoc hz, List.map_append]
        exact g3
      · rw [off3 c (ne_of_none e nf)]
        exact s1 _ _ (sT _ _ (sm _ _ e))
    · rintro _ H' ⟨_, _, rfl, hf, sm⟩
      rw [List.length_map, List.take_length] at hf
      walk_at "rd"
      refine Rd.tupOf (.of hf) (Rd.new fun t G3 nt gt s3 => ?_)
      walk_at "rd"
      have hb3 := s3 _ _ (sm _ _ (sG _ _ hb))
      refine Rd.sfld hb3 T.cl_Book T.na_Book_watches (by decide) rfl fun G4 g4 off4 => ?_
      walk_at "rd"
      refine k _ ⟨dx, t, g4, ?_⟩ fun c o n e => ?_
      · rw [off4 t (ne_of gt hb3 (fun e => nomatch e))]
        exact gt
      · rw [off4 c n]
        exact s3 _ _ (sm _ _ (sG _ _ e))
theorem ok_check_book (T : Txt K mg) : FnOk P w K mg base CX0 4 T.f_check_book T.fd_check_book ["book"] (sp_check_book K T.C_Book) := by
  refine T.F_check_book.ok sc_check_book (fun vs H Q E h => ?_) (fun cdv A outer s H vs Q E hr h => ?_)
  · obtain ⟨b, ws, rfl, _⟩ := h
    rfl
  · obtain ⟨b, ws, rfl, ⟨dx, t, hb, ht⟩, k⟩ := h
    refine ⟨_, (pss_cons (ps_if (pt_not (pt_val (pe_callB (id := "isinstance") (r := rIsi K) call_isi (by rfl) T.n_isinstance (by decide +kernel) (pa_cons (pv 0) (pa_cons (pe_glob (v := .ref T.C_Book) rfl T.c_Book rfl) pa_nil)))))
  (pss_one ps_never)
  pss_nil)
  (pss_one (ps_ret (pv 0)))), ?_⟩
    walk_at "rd"
    refine isiOwn T.cl_Book T.ty_Book hb ?_
    walk_at "rd"
    exact k

end
end W

namespace W
open PySem PySem.Spec PyProof.Rows L2
section
variable {P : Program} {w : World} {K : PySem.W.Frag} {mg : Str → Option Value} {base : Heap}
/-! ### the roads of a word: lists of spots -/
def Links (K : PySem.W.Frag) (H : Hp) (p : Addr) (n : Nat) (A : Nat → Nat → Prop) : Prop := ∃ rs : List Addr, SqL K H p (rs.map V.ref) ∧ rs.length = n + 1 ∧ ∀ i r, rs[i]? = some r → ∃ ms : List Int, SqL K H r (ms.map V.int) ∧ (ms.Pairwise (· ≤ ·) ∧ ms.length ≤ 1000000) ∧ ∀ x, x ∈ ms ↔ ∃ j : Nat, x = j ∧ A i j
theorem Links.same {K : PySem.W.Frag} {H H' : Hp} {p : Addr} {n : Nat} {A : Nat → Nat → Prop} (h : Links K H p n A) (s : Same H H') : Links K H' p n A := by
  obtain ⟨rs, h1, h2, h3⟩ := h
  exact ⟨rs, s.seq h1, h2, fun i r e => let ⟨ms, k1, k2⟩ := h3 i r e; ⟨ms, s.seq k1, k2⟩⟩
def Rows (H : Hp) (rs : List Addr) (F : Nat → List Int) : Prop := rs.Nodup ∧ ∀ (i : Nat) r, rs[i]? = some r → H r = some (.lst ((F i).map V.int))
theorem Rows.put {H G : Hp} {rs : List Addr} {F : Nat → List Int} (h : Rows H rs F) {i : Nat} {r : Addr} {x : Int} (hi : rs[i]? = some r) (g : G r = some (.lst ((F i).map V.int ++ [.int x]))) (off : ∀ b, b ≠ r → G b = H b) : Rows G rs (fun j => if j = i then F i ++ [x] else F j) := by
  refine ⟨h.1, fun j q hj => ?_⟩
  by_cases c : j = i
  · subst c
    rw [hi] at hj
    cases hj
    show G r = some (.lst ((if j = j then F j ++ [x] else F j).map V.int))
    rw [if_pos rfl, List.map_append]
    exact g
  · have n : q ≠ r := fun e => by
      subst e
      exact c ((List.getElem?_inj (List.getElem?_eq_some_iff.mp hj).1 h.1).mp (hj.trans hi.symm))
    show G q = some (.lst ((if j = i then F i ++ [x] else F j).map V.int))
    rw [if_neg c, off q n]
    exact h.2 j q hj
def sp_links_of (K : PySem.W.Frag) : Sp := fun vs H Q _ => ∃ (a : Addr) (ws : List Str) (z : Str), vs = [.ref a, .str z] ∧ Ru.SqR K H a (ws.map V.str) ∧ (∀ W ∈ ws, 1 ≤ W.length ∧ W.length ≤ 1000) ∧ ws.length ≤ 100 ∧ z.length ≤ 1000 ∧ ∀ p H', Links K H' p z.length (Mw.Adj ws z) → Same H H' → H p = none → Q (.ref p) H'
/-- the rows so far: f the list of them, G0 what stood ahead -/
structure SoFar (G0 H : Hp) (f : Addr) (rs : List Addr) (n : Nat) (F : Nat → List Int) : Prop where
  sm : Same G0 H
  hf : H f = some (.lst (rs.map V.ref))
  ro : Rows H rs F
  ln : rs.length = n + 1
  nr : ∀ r ∈ rs, G0 r = none ∧ r ≠ f
theorem SoFar.put {G0 H G : Hp} {f : Addr} {rs : List Addr} {n : Nat} {F : Nat → List Int} (h : SoFar G0 H f rs n F) {i : Nat} {r : Addr} {x : Int} (hi : rs[i]? = some r) (g : G r = some (.lst ((F i).map V.int ++ [.int x]))) (off : ∀ b, b ≠ r → G b = H b) : SoFar G0 G f rs n (fun j => if j = i then F i ++ [x] else F j) := by
  have m := h.nr r (List.mem_of_getElem? hi)
  refine ⟨fun b o e => ?_, ?_, h.ro.put hi g off, h.ln, h.nr⟩
  · rw [off b (ne_of_none e m.1)]
    exact h.sm b o e
  · rw [off f m.2.symm]
    exact h.hf
theorem SoFar.row {G0 H : Hp} {f : Addr} {rs : List Addr} {n : Nat} {F : Nat → List Int} (h : SoFar G0 H f rs n F) {i : Nat} (hi : i ≤ n) : ∃ r, rs[i]? = some r ∧ H r = some (.lst ((F i).map V.int)) ∧ atI (rs.map V.ref) (i : Int) = some (.ref r) := by
  have l : i < rs.length := by have := h.ln; omega
  exact ⟨rs[i], List.getElem?_eq_getElem l, h.ro.2 i _ (List.getElem?_eq_getElem l), atI_nat (Rd.map_ref l)⟩
theorem ok_links_of (T : Txt K mg) : FnOk P w K mg base CX0 1 T.f_links_of T.fd_links_of ["watches", "word"] (sp_links_of K) := by
  refine T.F_links_of.ok sc_links_of (fun vs H Q E h => ?_) (fun cdv A outer s H vs Q E hr h => ?_)
  · obtain ⟨a, ws, z, rfl, _⟩ := h
    rfl
  · obtain ⟨a, ws, z, rfl, hS, hw, l1, l2, k⟩ := h
    refine ⟨_, (pss_cons (ps_setLc (i := 3) (own := [("spot", 2)]) (g := gName 2) (tt := tYes) rfl sc_links_of.nd rfl rfl (sw_true rfl rfl rfl (by decide +kernel)) (pi_range1 rfl T.n_range (pa_cons (pe_op op_add (pe_callB (id := "len") (r := _) Rd.c_lenS (by rfl) T.n_len (by decide +kernel) (pa_cons (pv 1) pa_nil)) pe_int) pa_nil)) (blkOk_by (own := [("spot", 2)]) (N := ["watches", "word", "spot", "found", "watch", "row"]) (sc := defScope s_links_of) (by decide +kernel)) (fun _ _ _ _ _ => (pg_name (i := 2) sc_links_of.nd rfl (.inl rfl))) (fun _ _ _ _ _ => pts_nil) (fun _ _ _ _ _ => (pe_lst pa_nil)))
  (pss_cons (ps_for PassesOwn.never rfl (Ru.pi_or (pi_list (pv 0)) (pi_tup (pv 0))) (pg_name (i := 4) sc_links_of.nd rfl (.inl rfl))
  (pss_one (ps_for PassesOwn.never rfl (pi_range1 rfl T.n_range (pa_cons (pe_op op_add (pe_op op_sub (pe_callB (id := "len") (r := _) Rd.c_lenS (by rfl) T.n_len (by decide +kernel) (pa_cons (pv 1) pa_nil)) (pe_callB (id := "len") (r := _) Rd.c_lenS (by rfl) T.n_len (by decide +kernel) (pa_cons (pv 4) pa_nil))) pe_int) pa_nil)) (pg_name (i := 2) sc_links_of.nd rfl (.inl rfl))
  (pss_one (ps_if (pt_cmpR op_eq (pe_slice sl_str (pv 1) (po_some (pv 2)) (po_some (pe_op op_add (pv 2) (pe_callB (id := "len") (r := _) Rd.c_lenS (by rfl) T.n_len (by decide +kernel) (pa_cons (pv 4) pa_nil))))) (pv 4) (nomark _))
  (pss_cons (ps_expr (pe_bm PySem.F.plainAttrs_list PySem.F.slot_list_append PySem.F.type_list_append mt_append (pe_ix (r := rIxL K) ix_list (pv 3) (pv 2) (fun _ _ => rfl)) (pa_cons (pe_op op_add (pv 2) (pe_callB (id := "len") (r := _) Rd.c_lenS (by rfl) T.n_len (by decide +kernel) (pa_cons (pv 4) pa_nil))) pa_nil)))
  (pss_one (ps_expr (pe_bm PySem.F.plainAttrs_list PySem.F.slot_list_append PySem.F.type_list_append mt_append (pe_ix (r := rIxL K) ix_list (pv 3) (pe_op op_add (pv 2) (pe_callB (id := "len") (r := _) Rd.c_lenS (by rfl) T.n_len (by decide +kernel) (pa_cons (pv 4) pa_nil))) (fun _ _ => rfl)) (pa_cons (pv 2) pa_nil)))))
  pss_nil)))))
  (pss_one (ps_ret (pe_lc (own := [("row", 5)]) (g := gName 5) (tt := tYes) rfl sc_links_of.nd (pi_list (pv 3)) (blkOk_by (own := [("row", 5)]) (N := ["watches", "word", "spot", "found", "watch", "row"]) (sc := defScope s_links_of) (by decide +kernel)) (fun _ _ _ _ _ => (pg_name (i := 5) sc_links_of.nd rfl (.inl rfl))) (fun _ _ _ _ _ => pts_nil) (fun _ _ _ _ _ => (pe_callB (id := "sorted") (r := rSortedI K) cr_sortedI (by rfl) T.n_sorted (by decide +kernel) (pa_cons (pv 5) pa_nil)))))))), ?_⟩
    have zl : z.length ≤ sizeLine := by rw [sizeLine_eq]; omega
    walk_at "rd"
    refine Rd.lenStr zl ?_
    walk_at "rd"
    refine ⟨by omega, by omega, ?_⟩
    rw [show ((z.length : Int) + 1).toNat = z.length + 1 by omega]
    refine Rd.lcS walk_range (fun _ _ => trivial) (fun D i acc Hc => ∃ rs : List Addr, acc = rs.map V.ref ∧ rs.length = i ∧ rs.Nodup ∧ (∀ r ∈ rs, H r = none ∧ r ≠ D) ∧ ∀ r ∈ rs, Hc r = some (.lst [])) (fun _ _ _ _ _ => ⟨[], rfl, rfl, .nil, fun _ h => by simp at h, fun _ h => by simp at h⟩) ?_ ?_
    · rintro D i x G _ acc nD hi hD sm ⟨rs, rfl, ln, nd, h1, h2⟩ ⟨rfl, rfl⟩
      walk_at "rd"
      refine ⟨rfl, Rd.tyes ?_⟩
      walk_at "rd"
      refine ⟨Nat.zero_le _, Rd.new fun r G1 nr gr s1 => ?_⟩
      refine Rd.lcPush (s1 _ _ hD) nD (sm.trans s1) (by rw [List.length_map, ln, sizeLine_eq]; omega) fun G2 g2 off2 => ?_
      have rD : r ≠ D := (ne_of_none hD nr).symm
      have out : ∀ q ∈ rs, q ≠ r := fun q hq => ne_of_none (h2 q hq) nr
      refine ⟨rs ++ [r], by rw [List.map_append]; rfl, by rw [List.length_append, ln]; rfl, ?_, fun q hq => ?_, fun q hq => ?_⟩
      · rw [List.nodup_append]
        exact ⟨nd, by simp, fun q hq y hy e => out q hq (by simp at hy; rw [e, hy])⟩
      · rcases List.mem_append.mp hq with h | h
        · exact h1 q h
        · simp at h
          subst h
          exact ⟨sm.free nr, rD⟩
      · rcases List.mem_append.mp hq with h | h
        · rw [off2 q (h1 q h).2]
          exact s1 _ _ (h2 q h)
        · simp at h
          subst h
          rw [off2 q rD]
          exact gr
    · rintro f acc G nf hf sm ⟨rs, rfl, ln, nd, h1, h2⟩
      walk_at "rd"
      have sf0 : SoFar H G f rs z.length (fun _ => []) := ⟨sm, hf, ⟨nd, fun i r e => h2 r (List.mem_of_getElem? e)⟩, ln, h1⟩
      refine Ru.for_row (a := a) (xs := ws.map V.str) (fun Q q => ?_) (fun k σ H' => ∃ o1 o2 F, σ = [some (.ref a), some (.str z), o1, some (.ref f), o2, none] ∧ SoFar H H' f rs z.length F ∧ (∀ i, i ≤ z.length → ∀ x, x ∈ F i ↔ ∃ j : Nat, x = j ∧ Mw.Adj (ws.take k) z i j) ∧ ∀ i, (F i).length ≤ 2 * (k * (z.length + 1))) hS
        ⟨_, _, _, rfl, sf0, fun i _ x => ⟨fun h => by simp at h, fun ⟨j, _, h⟩ => absurd h Mw.adj_nil⟩, fun i => Nat.zero_le _⟩ (fun i σ H' _ ⟨_, _, _, _, z, _⟩ => z.sm) ?_ ?_
      · walk_at "rd"
        exact q
      · rintro k x _ H' hx ⟨o1, o2, F, rfl, sf, hF, lF⟩
        obtain ⟨W, hW, rfl⟩ := Rd.map_strG hx
        have wl := hw W (List.mem_of_getElem? hW)
        have wz : W.length ≤ sizeLine := by rw [sizeLine_eq]; omega
        have kl : k < ws.length := (List.getElem?_eq_some_iff.mp hW).1
        walk_at "rd"
        refine Rd.forS ?_
        walk_at "rd"
        refine Rd.lenStr zl ?_
        walk_at "rd"
        refine Rd.lenStr wz ?_
        walk_at "rd"
        refine ⟨by omega, by omega, ?_⟩
        refine for_range (lo := 0) (n := ((z.length : Int) - (W.length : Int) + 1).toNat) (fun m σ H' => ∃ o1 F, σ = [some (.ref a), some (.str z), o1, some (.ref f), some (.str W), none] ∧ SoFar H H' f rs z.length F ∧ (∀ i, i ≤ z.length → ∀ x, x ∈ F i ↔ ∃ j : Nat, x = j ∧ Mw.AdjB (ws.take k) W z m i j) ∧ ∀ i, (F i).length ≤ 2 * (k * (z.length + 1) + m))
          ⟨_, F, rfl, sf, fun i hi x => (hF i hi x).trans (exists_congr fun j => and_congr_right fun _ => Mw.adjB_zero.symm), lF⟩ ?_ ?_
        · rintro m _ H1 hm ⟨o1, F, rfl, sf, hF, lF⟩
          have mz : m + W.length ≤ z.length := by omega
          have kz : k * (z.length + 1) ≤ 100 * 1001 := Nat.mul_le_mul (by omega) (by omega)
          have small : ∀ i, (F i).length < sizeLine := fun i => by have := lF i; rw [sizeLine_eq]; omega
          walk_at "rd"
          rw [Int.zero_add]
          refine Rd.lenStr wz ?_
          walk_at "rd"
          refine Rd.slS zl ?_
          walk_at "rd"
          refine ite2 (fun q => ?_) (fun q => ?_)
          · have oc : Mw.Occ W z m := ⟨mz, q⟩
            walk_at "rd"
            obtain ⟨r, e1, e2, e3⟩ := sf.row (i := m) (by omega)
            refine Rd.ixL (.of sf.hf) e3 ?_
            refine Rd.tyL (.of e2) ?_
            walk_at "rd"
            refine Rd.lenStr wz ?_
            walk_at "rd"
            refine Rd.app e2 (by rw [List.length_map]; exact small m) fun G1 g1 off1 => ?_
            have sf1 := sf.put e1 g1 off1
            walk_at "rd"
            refine Rd.lenStr wz ?_
            walk_at "rd"
            obtain ⟨r', d1, d2, d3⟩ := sf1.row (i := m + W.length) mz
            rw [show ((m + W.length : Nat) : Int) = (m : Int) + (W.length : Int) by omega] at d3
            have ne : ¬ m + W.length = m := by omega
            rw [if_neg ne] at d2
            refine Rd.ixL (.of sf1.hf) d3 ?_
            refine Rd.tyL (.of d2) ?_
            walk_at "rd"
            refine Rd.app d2 (by rw [List.length_map]; exact small _) fun G2 g2 off2 => ?_
            have sf2 := sf1.put (x := (m : Int)) d1 (by rw [if_neg ne]; exact g2) off2
            walk_at "rd"
            refine ⟨_, _, rfl, sf2, fun i hi x => ?_, fun i => ?_⟩
            · have base := hF i hi x
              have yes : ∀ j, Mw.AdjB (ws.take k) W z (m + 1) i j ↔ Mw.AdjB (ws.take k) W z m i j ∨ (i = m ∧ j = m + W.length) ∨ (j = m ∧ i = m + W.length) := fun j => Mw.adjB_yes oc
              simp only [yes]
              by_cases c1 : i = m + W.length
              · subst c1
                rw [if_pos rfl, if_neg ne, List.mem_append, base]
                constructor
                · rintro (⟨j, h1, h2⟩ | h)
                  · exact ⟨j, h1, .inl h2⟩
                  · exact ⟨m, by simpa using h, .inr (.inr ⟨rfl, rfl⟩)⟩
                · rintro ⟨j, h1, h2 | ⟨h2, _⟩ | ⟨h2, _⟩⟩
                  · exact .inl ⟨j, h1, h2⟩
                  · omega
                  · exact .inr (by simp; omega)
              · rw [if_neg c1]
                by_cases c2 : i = m
                · subst c2
                  rw [if_pos rfl, List.mem_append, base]
                  constructor
                  · rintro (⟨j, h1, h2⟩ | h)
                    · exact ⟨j, h1, .inl h2⟩
                    · exact ⟨_, by simpa using h, .inr (.inl ⟨rfl, rfl⟩)⟩
                  · rintro ⟨j, h1, h2 | ⟨_, h2⟩ | ⟨_, h2⟩⟩
                    · exact .inl ⟨j, h1, h2⟩
                    · exact .inr (by simp; omega)
                    · omega
                · rw [if_neg c2, base]
                  constructor
                  · rintro ⟨j, h1, h2⟩
                    exact ⟨j, h1, .inl h2⟩
                  · rintro ⟨j, h1, h2 | ⟨h2, _⟩ | ⟨_, h2⟩⟩
                    · exact ⟨j, h1, h2⟩
                    · exact absurd h2 c2
                    · exact absurd h2 c1
            · have b1 := lF i
              have b2 := lF m
              have b3 := lF (m + W.length)
              show (if i = m + W.length then (if m + W.length = m then F m ++ [(m : Int) + (W.length : Int)] else F (m + W.length)) ++ [(m : Int)] else if i = m then F m ++ [(m : Int) + (W.length : Int)] else F i).length ≤ _
              rw [if_neg ne]
              split
              · rw [List.length_append, List.length_singleton]; omega
              · split
                · rw [List.length_append, List.length_singleton]; omega
                · omega
          · have oc : ¬ Mw.Occ W z m := fun h => q h.2
            walk_at "rd"
            exact ⟨_, F, rfl, sf, fun i hi x => (hF i hi x).trans (exists_congr fun j => and_congr_right fun _ => (Mw.adjB_no oc).symm), fun i => by have := lF i; omega⟩
        · rintro _ H1 ⟨o1, F, rfl, sf, hF, lF⟩
          walk_at "rd"
          refine ⟨_, _, F, rfl, sf, fun i hi x => (hF i hi x).trans (exists_congr fun j => and_congr_right fun _ => ?_), fun i => ?_⟩
          · rw [Rd.take_snoc hW]
            exact Mw.adjB_all (by omega)
          · have := lF i
            have e : (k + 1) * (z.length + 1) = k * (z.length + 1) + (z.length + 1) := Nat.succ_mul _ _
            omega
      · rintro _ G1 ⟨o1, o2, F, rfl, sf, hF, lF⟩
        rw [List.length_map, List.take_length] at hF
        have big : ∀ i, (F i).length ≤ 1000000 := fun i => by
          have h1 := lF i
          rw [List.length_map] at h1
          have h2 : ws.length * (z.length + 1) ≤ 100 * 1001 := Nat.mul_le_mul l1 (by omega)
          omega
        walk_at "rd"
        refine ⟨⟨_, .of sf.hf⟩, Rd.lcS walk_list (fun _ s => .of (s _ _ sf.hf)) (fun D i acc Hc => ∃ qs : List Addr, acc = qs.map V.ref ∧ qs.length = i ∧ (∀ q ∈ qs, q ≠ D) ∧ ∀ j q, qs[j]? = some q → ∃ ms : List Int, Hc q = some (.lst (ms.map V.int)) ∧ ms.Pairwise (· ≤ ·) ∧ ms.Perm (F j)) (fun _ _ _ _ _ => ⟨[], rfl, rfl, fun _ h => by simp at h, fun _ _ h => by simp at h⟩) ?_ ?_⟩
        · rintro D i x G2 _ acc nD hi hD sm2 ⟨qs, rfl, ql, qD, hq⟩ ⟨rfl, hx⟩
          obtain ⟨r, hr, rfl⟩ := Rd.map_refG hx
          walk_at "rd"
          refine ⟨rfl, Rd.tyes ?_⟩
          walk_at "rd"
          refine Rd.sortedI (.of (sm2 _ _ (sf.ro.2 i r hr))) fun ms p G3 pm ps gp s3 np => ?_
          have pD : p ≠ D := (ne_of_none hD np).symm
          refine Rd.lcPush (s3 _ _ hD) nD (sm2.trans s3) (by rw [List.length_map, ql, sizeLine_eq]; rw [List.length_map, ln] at hi; omega) fun G4 g4 off4 => ?_
          refine ⟨qs ++ [p], by rw [List.map_append]; rfl, by rw [List.length_append, ql]; rfl, fun q h => ?_, fun j q h => ?_⟩
          · rcases List.mem_append.mp h with h | h
            · exact qD q h
            · simp at h
              rw [h]
              exact pD
          · rcases Nat.lt_or_ge j qs.length with l | l
            · rw [List.getElem?_append_left l] at h
              obtain ⟨ms', h1, h2, h3⟩ := hq j q h
              exact ⟨ms', by rw [off4 q (qD q (List.mem_of_getElem? h))]; exact s3 _ _ h1, h2, h3⟩
            · rw [List.getElem?_append_right l] at h
              have e : j = i := by
                have := (List.getElem?_eq_some_iff.mp h).1
                simp at this
                omega
              subst e
              rw [ql, Nat.sub_self] at h
              cases h
              exact ⟨ms, by rw [off4 _ pD]; exact gp, ps, pm⟩
        · rintro D acc G2 nD hD sm2 ⟨qs, rfl, ql, qD, hq⟩
          rw [List.length_map, ln] at ql
          refine k D G2 ⟨qs, .of hD, ql, fun i q h => ?_⟩ (sf.sm.trans sm2) (sf.sm.free nD)
          obtain ⟨ms, h1, h2, h3⟩ := hq i q h
          exact ⟨ms, .of h1, ⟨h2, by rw [h3.length_eq]; exact big i⟩, fun x => h3.mem_iff.trans (hF i (by have := (List.getElem?_eq_some_iff.mp h).1; omega) x)⟩

end
end W

namespace W
open PySem PySem.Spec PyProof.Rows L2
section
variable {P : Program} {w : World} {K : PySem.W.Frag} {mg : Str → Option Value} {base : Heap}
/-! ### grown: all that is led to -/
def sp_grown (K : PySem.W.Frag) : Sp := fun vs H Q _ => ∃ (p q : Addr) (n : Nat) (A : Nat → Nat → Prop) (ss : List Int), vs = [.ref p, .ref q] ∧ Links K H p n A ∧ SqL K H q (ss.map V.int) ∧ n ≤ 1000 ∧ (∀ i j, A i j → j ≤ n) ∧ ss.Nodup ∧ (∀ s ∈ ss, 0 ≤ s ∧ s ≤ n) ∧
  ∀ (r : Addr) (gs : List Int) H', H' r = some (.lst (gs.map V.int)) → gs.Nodup → (∀ x, x ∈ gs ↔ ∃ i : Nat, x = i ∧ ∃ s : Nat, (s : Int) ∈ ss ∧ Mw.Star A s i) → Same H H' → H r = none → Q (.ref r) H'
theorem ok_grown (T : Txt K mg) : FnOk P w K mg base CX0 1 T.f_grown T.fd_grown ["links", "spots"] (sp_grown K) := by
  refine T.F_grown.ok sc_grown (fun vs H Q E h => ?_) (fun cdv A outer s H vs Q E hr h => ?_)
  · obtain ⟨p, q, n, A, ss, rfl, _⟩ := h
    rfl
  · obtain ⟨p, q, n, A, ss, rfl, hL, hq, hn, hA, nd, hs, k⟩ := h
    refine ⟨_, (pss_cons (ps_set (i := 2) sc_grown.nd rfl (.inl rfl) (pe_callTy (T := "list") (r := Rd.nListOf K) Rd.c_listOf (by rfl) T.n_list (by decide +kernel) (pa_cons (pv 1) pa_nil)))
  (pss_cons (ps_set (i := 3) sc_grown.nd rfl (.inl rfl) pe_int)
  (pss_cons (ps_while PassesOwn.never (pt_cmpR op_lt (pv 3) (pe_callB (id := "len") (r := Rd.nLen K) Rd.c_len (by rfl) T.n_len (by decide +kernel) (pa_cons (pv 2) pa_nil)) (nomark _))
  (pss_cons (ps_for PassesOwn.never rfl (pi_list (pe_ix (r := rIxL K) ix_list (pv 0) (pe_ix (r := rIxL K) ix_list (pv 2) (pv 3) (fun _ _ => rfl)) (fun _ _ => rfl))) (pg_name (i := 4) sc_grown.nd rfl (.inl rfl))
  (pss_one (ps_if (pt_cmpR (r := rIn K true) op_notIn_seq (pv 4) (pv 2) (by rfl))
  (pss_one (ps_expr (pe_bm PySem.F.plainAttrs_list PySem.F.slot_list_append PySem.F.type_list_append mt_append (pv 2) (pa_cons (pv 4) pa_nil))))
  pss_nil)))
  (pss_one (ps_aug (i := 3) sc_grown.nd rfl (.inl rfl) pe_int ip_add))))
  (pss_one (ps_ret (pv 2)))))), ?_⟩
    walk_at "rd"
    refine Rd.listOf (.inl hq) (Rd.new fun f G nf gf sG => ?_)
    walk_at "rd"
    obtain ⟨rs, hp, rl, hr⟩ := hL
    refine Rd.whl (fun m σ H' => ∃ (gs : List Int) (at_ : Nat) (o : Option V), σ = [some (.ref p), some (.ref q), some (.ref f), some (.int at_), o] ∧ H' f = some (.lst (gs.map V.int)) ∧ Same H H' ∧ gs.Nodup ∧ (∀ x ∈ gs, ∃ i : Nat, x = i ∧ i ≤ n ∧ ∃ s : Nat, (s : Int) ∈ ss ∧ Mw.Star A s i) ∧ (∀ x ∈ ss, x ∈ gs) ∧ at_ ≤ gs.length ∧ (∀ (k : Nat) (i j : Nat), k < at_ → gs[k]? = some (i : Int) → A i j → (j : Int) ∈ gs) ∧ m = n + 1 - at_)
      ⟨n + 1, ss, 0, none, rfl, gf, sG, nd, fun x hx => ⟨x.toNat, by have := hs x hx; omega, by have := hs x hx; omega, x.toNat, by have := hs x hx; rw [show ((x.toNat : Nat) : Int) = x by omega]; exact hx, .refl⟩, fun x h => h, Nat.zero_le _, fun k i j h => by omega, rfl⟩ ?_
    rintro m _ H1 ⟨gs, at_, o, rfl, hf, sm, gnd, hg, hss, la, cl, rfl⟩
    have gl : gs.length ≤ n + 1 := Mw.nodup_range gnd fun x hx => by obtain ⟨i, e, l, _⟩ := hg x hx; omega
    walk_at "rd"
    refine Rd.len (.inl (.of hf)) ?_
    rw [List.length_map]
    walk_at "rd"
    refine ite2 (fun c => ?_) (fun c => ?_)
    · refine Rd.whN ?_
      walk_at "rd"
      have al : at_ < gs.length := by omega
      obtain ⟨i, ei, il, si⟩ := hg _ (List.getElem_mem al)
      have hrow : i < rs.length := by omega
      obtain ⟨ms, m1, _, m2⟩ := hr i _ (List.getElem?_eq_getElem hrow)
      refine Rd.forS ?_
      walk_at "rd"
      refine Rd.ixL (.of hf) (atI_nat (Rd.map_int al)) ?_
      refine Rd.ixL (sm.seq hp) (by rw [ei]; exact atI_nat (Rd.map_ref hrow)) ?_
      walk_at "rd"
      refine ⟨⟨_, sm.seq m1⟩, for_list (K := K) (a := rs[i]) (xs := ms.map V.int) (fun t σ H' => ∃ (gs' : List Int) (o : Option V), σ = [some (.ref p), some (.ref q), some (.ref f), some (.int at_), o] ∧ H' f = some (.lst (gs'.map V.int)) ∧ Same H H' ∧ gs'.Nodup ∧ (∀ x ∈ gs', ∃ i : Nat, x = i ∧ i ≤ n ∧ ∃ s : Nat, (s : Int) ∈ ss ∧ Mw.Star A s i) ∧ (∃ ex, gs' = gs ++ ex) ∧ ∀ x ∈ ms.take t, x ∈ gs')
        ⟨gs, _, rfl, hf, sm, gnd, hg, ⟨[], by simp⟩, fun x h => by simp at h⟩ (fun t σ H' _ ⟨_, _, _, _, s, _⟩ => s.seq m1) ?_ ?_⟩
      · rintro t y0 _ H2 hy0 ⟨gs', o, rfl, hf2, sm2, gnd2, hg2, ⟨ex, he⟩, ht⟩
        obtain ⟨y, hy, rfl⟩ := Rd.map_get hy0
        obtain ⟨j, ej, aj⟩ := (m2 y).mp (List.mem_of_getElem? hy)
        have gl2 : gs'.length ≤ n + 1 := Mw.nodup_range gnd2 fun x hx => by obtain ⟨i, e, l, _⟩ := hg2 x hx; omega
        walk_at "rd"
        refine Rd.inIntsN (.inl (.of hf2)) ?_
        walk_at "rd"
        refine ite2 (fun c2 => ?_) (fun c2 => ?_)
        · walk_at "rd"
          refine ⟨gs', _, rfl, hf2, sm2, gnd2, hg2, ⟨ex, he⟩, fun x hx => ?_⟩
          rw [Rd.take_snoc hy] at hx
          rcases List.mem_append.mp hx with h | h
          · exact ht x h
          · simp at h
            rw [h]
            exact c2
        · walk_at "rd"
          refine Rd.tyL (.of hf2) ?_
          walk_at "rd"
          refine Rd.app hf2 (by rw [List.length_map, sizeLine_eq]; omega) fun G3 g3 off3 => ?_
          walk_at "rd"
          refine ⟨gs' ++ [y], _, rfl, by rw [List.map_append]; exact g3, fun b o e => ?_, ?_, fun x hx => ?_, ⟨ex ++ [y], by rw [he, List.append_assoc]⟩, fun x hx => ?_⟩
          · rw [off3 b (ne_of_none e nf)]
            exact sm2 b o e
          · rw [List.nodup_append]
            exact ⟨gnd2, by simp, fun x hx z hz e => c2 (by simp at hz; rw [← hz, ← e]; exact hx)⟩
          · rcases List.mem_append.mp hx with h | h
            · exact hg2 x h
            · simp at h
              obtain ⟨s, h1, h2⟩ := si
              exact ⟨j, by rw [h, ej], hA _ _ aj, s, h1, .step h2 aj⟩
          · rw [Rd.take_snoc hy] at hx
            rcases List.mem_append.mp hx with h | h
            · exact List.mem_append.mpr (.inl (ht x h))
            · exact List.mem_append.mpr (.inr h)
      · rintro _ H2 ⟨gs', o, rfl, hf2, sm2, gnd2, hg2, ⟨ex, he⟩, ht⟩
        rw [List.length_map, List.take_length] at ht
        have gl2 : gs'.length ≤ n + 1 := Mw.nodup_range gnd2 fun x hx => by obtain ⟨i, e, l, _⟩ := hg2 x hx; omega
        have lex : gs'.length = gs.length + ex.length := by rw [he, List.length_append]
        walk_at "rd"
        refine ⟨n + 1 - (at_ + 1), by omega, gs', at_ + 1, o, by rw [Int.natCast_add]; rfl, hf2, sm2, gnd2, hg2, fun x hx => by rw [he]; exact List.mem_append.mpr (.inl (hss x hx)), by omega, fun k i' j hk e a => ?_, rfl⟩
        · have kl : k < gs.length := by omega
          have e' : gs[k]? = some (i' : Int) := by
            rw [he, List.getElem?_append_left kl] at e
            exact e
          rcases Nat.lt_succ_iff_lt_or_eq.mp hk with l | l
          · rw [he]
            exact List.mem_append.mpr (.inl (cl k i' j l e' a))
          · subst l
            have : (i' : Int) = (i : Int) := by
              rw [List.getElem?_eq_getElem al] at e'
              rw [← ei]
              exact (Option.some.inj e').symm
            have : i' = i := by omega
            subst this
            exact ht _ ((m2 _).mpr ⟨j, rfl, a⟩)
    · walk_at "rd"
      have e : at_ = gs.length := by omega
      refine k f gs H1 hf gnd (fun x => ⟨fun hx => ?_, ?_⟩) sm nf
      · obtain ⟨i, e1, _, s, h1, h2⟩ := hg x hx
        exact ⟨i, e1, s, h1, h2⟩
      · rintro ⟨i, rfl, s, h1, h2⟩
        induction h2 with
        | refl => exact hss _ h1
        | step _ a ih =>
          obtain ⟨k, hk, e2⟩ := List.getElem_of_mem ih
          exact cl k _ _ (by omega) (by rw [List.getElem?_eq_getElem hk, e2]) a

/-! ### leads, leads_all, tells -/
def sp_leads (K : PySem.W.Frag) : Sp := fun vs H Q _ => ∃ (a : Addr) (ws : List Str) (z : Str), vs = [.ref a, .str z] ∧ Ru.SqR K H a (ws.map V.str) ∧ (∀ W ∈ ws, 1 ≤ W.length ∧ W.length ≤ 1000) ∧ ws.length ≤ 100 ∧ z.length ≤ 1000 ∧ ∀ (b : Bool) H', Same H H' → (b = true ↔ Mw.Told ws z) → Q (.bl b) H'
def sp_check_words (K : PySem.W.Frag) : Sp := fun vs H Q _ => ∃ (a : Addr) (zs : List Str), vs = [.ref a] ∧ Ru.SqR K H a (zs.map V.str) ∧ zs.length ≤ 20 ∧ (∀ z ∈ zs, Lt.Wd 40 z) ∧ ∀ H', Same H H' → Q .non H'
def sp_leads_all (K : PySem.W.Frag) : Sp := fun vs H Q _ => ∃ (a b : Addr) (ws zs : List Str), vs = [.ref a, .ref b] ∧ Ru.SqR K H a (ws.map V.str) ∧ (∀ W ∈ ws, 1 ≤ W.length ∧ W.length ≤ 1000) ∧ ws.length ≤ 100 ∧ Ru.SqR K H b (zs.map V.str) ∧ (∀ z ∈ zs, z.length ≤ 1000) ∧ zs.length ≤ 1000 ∧ ∀ (b : Bool) H', Same H H' → (b = true ↔ ∀ z ∈ zs, Mw.Told ws z) → Q (.bl b) H'
def sp_tells (K : PySem.W.Frag) (C : Addr) : Sp := fun vs H Q _ => ∃ (a b : Addr) (ws zs : List Str), vs = [.ref a, .ref b] ∧ BookAt C H a ws ∧ Watches ws ∧ Ru.SqR K H b (zs.map V.str) ∧ zs.length ≤ 20 ∧ (∀ z ∈ zs, Lt.Wd 40 z) ∧ ∀ (b : Bool) H', Same H H' → (b = true ↔ ∀ z ∈ zs, Mw.Told ws z) → Q (.bl b) H'
theorem ok_leads (T : Txt K mg) : FnOk P w K mg base CX0 2 T.f_leads T.fd_leads ["watches", "word"] (sp_leads K) := by
  refine T.F_leads.ok sc_leads (fun vs H Q E h => ?_) (fun cdv A outer s H vs Q E hr h => ?_)
  · obtain ⟨a, ws, z, rfl, _⟩ := h
    rfl
  · obtain ⟨a, ws, z, rfl, hS, hw, l1, l2, k⟩ := h
    refine ⟨_, (pss_one (ps_ret (pe_cmpR (r := rIn K false) op_in_seq (pe_callB (id := "len") (r := _) Rd.c_lenS (by rfl) T.n_len (by decide +kernel) (pa_cons (pv 1) pa_nil)) (pe_call (ok_grown T) (hr.mono (by decide)) rfl T.g_grown T.F_grown.kp T.b_grown .nil pass0 (pa_cons (pe_call (ok_links_of T) (hr.mono (by decide)) rfl T.g_links_of T.F_links_of.kp T.b_links_of .nil pass0 (pa_cons (pv 0) (pa_cons (pv 1) pa_nil))) (pa_cons (pe_lst (pa_cons pe_int pa_nil)) pa_nil))) (by rfl)))), ?_⟩
    walk_at "rd"
    refine Rd.lenStr (by rw [sizeLine_eq]; omega) ?_
    walk_at "rd"
    refine ⟨a, ws, z, rfl, hS, hw, l1, l2, fun p H1 hL s1 _ => ?_⟩
    walk_at "rd"
    refine ⟨Nat.le_of_ble_eq_true rfl, Rd.new fun q G2 nq gq s2 => ?_⟩
    refine ⟨p, q, z.length, Mw.Adj ws z, [0], rfl, hL.same s2, .of gq, l2, fun i j h => h.le.2, by simp, fun s h => by simp at h; omega, fun r gs H3 hr gnd hg s3 _ => ?_⟩
    refine Rd.inIntsY (.inl (.of hr)) ?_
    refine k _ _ ((s1.trans s2).trans s3) ?_
    rw [decide_eq_true_iff, hg]
    constructor
    · rintro ⟨i, e, s, hs, h⟩
      have e1 : i = z.length := by omega
      have e2 : s = 0 := by simp at hs; omega
      subst e1 e2
      exact h
    · intro h
      exact ⟨z.length, rfl, 0, by simp, h⟩
theorem all_told {ws : List Str} : ∀ (zs : List Str) (bs : List Bool), bs.length = zs.length → (∀ (i : Nat) z b, zs[i]? = some z → bs[i]? = some b → (b = true ↔ Mw.Told ws z)) → (bs.all id = true ↔ ∀ z ∈ zs, Mw.Told ws z)
  | [], [], _, _ => by simp
  | z :: zs, b :: bs, l, h => by
    have h0 := h 0 z b rfl rfl
    have ih := all_told zs bs (by simpa using l) fun i z b e1 e2 => h (i + 1) z b (by simpa using e1) (by simpa using e2)
    rw [List.all_cons, Bool.and_eq_true, List.forall_mem_cons, ← ih, ← h0]
    rfl
theorem ok_leads_all (T : Txt K mg) : FnOk P w K mg base CX0 3 T.f_leads_all T.fd_leads_all ["watches", "words"] (sp_leads_all K) := by
  refine T.F_leads_all.ok sc_leads_all (fun vs H Q E h => ?_) (fun cdv A outer s H vs Q E hr h => ?_)
  · obtain ⟨a, b, ws, zs, rfl, _⟩ := h
    rfl
  · obtain ⟨a, b, ws, zs, rfl, hS, hw, l1, hz, lz, l2, k⟩ := h
    refine ⟨_, (pss_one (ps_ret (pe_callB (id := "all") (r := rAll K) (cr_all rfl) (by rfl) T.n_all (by decide +kernel) (pa_cons (pe_lc (own := [("word", 2)]) (g := gName 2) (tt := tYes) rfl sc_leads_all.nd (Ru.pi_or (pi_list (pv 1)) (pi_tup (pv 1))) (blkOk_by (own := [("word", 2)]) (N := ["watches", "words", "word"]) (sc := defScope s_leads_all) (by decide +kernel)) (fun _ _ _ _ _ => (pg_name (i := 2) sc_leads_all.nd rfl (.inl rfl))) (fun _ _ _ _ _ => pts_nil) (fun _ _ _ _ _ => (pe_call (ok_leads T) (hr.mono (by decide)) rfl T.g_leads T.F_leads.kp T.b_leads .nil pass0 (pa_cons (pv 0) (pa_cons (pv 2) pa_nil))))) pa_nil)))), ?_⟩
    walk_at "rd"
    refine Rd.lcRow (a := b) (fun R q => ?_) hz (fun D i acc Hc => ∃ bs : List Bool, acc = bs.map V.bl ∧ bs.length = i ∧ ∀ (j : Nat) z b, zs[j]? = some z → bs[j]? = some b → (b = true ↔ Mw.Told ws z)) (fun _ _ _ _ _ => ⟨[], rfl, rfl, fun _ _ _ _ h => by simp at h⟩) ?_ ?_
    · walk_at "rd"
      exact q
    · rintro D i x H1 acc nD hi hD sm ⟨bs, rfl, bl, hb⟩ hx
      obtain ⟨z, hzi, rfl⟩ := Rd.map_strG hx
      walk_at "rd"
      refine ⟨rfl, Rd.tyes ?_⟩
      walk_at "rd"
      refine ⟨a, ws, z, rfl, hS.same sm, hw, l1, lz z (List.mem_of_getElem? hzi), fun b1 H2 s2 e => ?_⟩
      refine Rd.lcPush (s2 _ _ hD) nD (sm.trans s2) (by rw [List.length_map, bl, sizeLine_eq]; rw [List.length_map] at hi; omega) fun G2 g2 off2 => ?_
      refine ⟨bs ++ [b1], by rw [List.map_append]; rfl, by rw [List.length_append, bl]; rfl, fun j z' b' e1 e2 => ?_⟩
      rcases Nat.lt_or_ge j bs.length with l | l
      · rw [List.getElem?_append_left l] at e2
        exact hb j z' b' e1 e2
      · rw [List.getElem?_append_right l] at e2
        have ej : j = i := by
          have := (List.getElem?_eq_some_iff.mp e2).1
          simp at this
          omega
        subst ej
        rw [bl, Nat.sub_self] at e2
        rw [hzi] at e1
        cases e1
        cases e2
        exact e
    · rintro D acc H1 nD hD sm ⟨bs, rfl, bl, hb⟩
      rw [List.length_map] at bl
      refine Rd.all (.of hD) ?_
      exact k _ _ sm (all_told zs bs bl hb)
end
end W

namespace W
open PySem PySem.Spec PyProof.Rows L2
section
variable {P : Program} {w : World} {K : PySem.W.Frag} {mg : Str → Option Value} {base : Heap}
/-! ### distances, the least of the shortest ways -/
def ov : Option Nat → V
  | none => .non
  | some d => .int (d : Nat)
def Fl (L : List V) (F : Nat → Option Nat) (n : Nat) : Prop := L.length = n + 1 ∧ ∀ i, i ≤ n → L[i]? = some (ov (F i))
theorem Fl.get {L : List V} {F : Nat → Option Nat} {n i : Nat} (h : Fl L F n) (hi : i ≤ n) : atI L (i : Int) = some (ov (F i)) := atI_nat (h.2 i hi)
theorem Fl.set {L : List V} {F : Nat → Option Nat} {n i d : Nat} (h : Fl L F n) (hi : i ≤ n) : Fl (L.set i (.int (d : Nat))) (fun j => if j = i then some d else F j) n := by
  refine ⟨by rw [List.length_set]; exact h.1, fun j hj => ?_⟩
  rw [List.getElem?_set]
  by_cases c : i = j
  · rw [if_pos c, if_pos (by have := h.1; omega)]
    show some (V.int (d : Nat)) = some (ov (if j = i then some d else F j))
    rw [if_pos c.symm]
    rfl
  · rw [if_neg c]
    show L[j]? = some (ov (if j = i then some d else F j))
    rw [if_neg (fun e : j = i => c e.symm)]
    exact h.2 j hj
theorem rep_non (k : Nat) : (List.replicate k [V.non]).flatten = List.replicate k V.non := by
  induction k with
  | zero => rfl
  | succ k ih => rw [List.replicate_succ, List.flatten_cons, ih, List.replicate_succ]; rfl
def sp_distances (K : PySem.W.Frag) : Sp := fun vs H Q _ => ∃ (p : Addr) (n : Nat) (A : Nat → Nat → Prop), vs = [.ref p] ∧ Links K H p n A ∧ n ≤ 1000 ∧ (∀ i j, A i j → j ≤ n) ∧
  ∀ (l : Addr) (L : List V) (F : Nat → Option Nat) H', H' l = some (.lst L) → Fl L F n → (∀ i, i ≤ n → ∀ d, F i = some d ↔ Mz.Dist A n i d) → Same H H' → H l = none → Q (.ref l) H'
theorem ok_distances (T : Txt K mg) : FnOk P w K mg base CX0 1 T.f_distances T.fd_distances ["links"] (sp_distances K) := by
  refine T.F_distances.ok sc_distances (fun vs H Q E h => ?_) (fun cdv A outer s H vs Q E hr h => ?_)
  · obtain ⟨p, n, A, rfl, _⟩ := h
    rfl
  · obtain ⟨p, n, A, rfl, hL, hn, hA, k⟩ := h
    refine ⟨_, (pss_cons (ps_set (i := 1) sc_distances.nd rfl (.inl rfl) (pe_op op_rep (pe_lst (pa_cons pe_non pa_nil)) (pe_callB (id := "len") (r := Rd.nLen K) Rd.c_len (by rfl) T.n_len (by decide +kernel) (pa_cons (pv 0) pa_nil))))
  (pss_cons (ps_asg pe_int (pg_sub (pv 1) (pe_un un_neg pe_int) set_list))
  (pss_cons (ps_set (i := 2) sc_distances.nd rfl (.inl rfl) (pe_lst (pa_cons (pe_op op_sub (pe_callB (id := "len") (r := Rd.nLen K) Rd.c_len (by rfl) T.n_len (by decide +kernel) (pa_cons (pv 0) pa_nil)) pe_int) pa_nil)))
  (pss_cons (ps_while PassesOwn.never (pt_cmpR op_gt (pe_callB (id := "len") (r := Rd.nLen K) Rd.c_len (by rfl) T.n_len (by decide +kernel) (pa_cons (pv 2) pa_nil)) pe_int (nomark _))
  (pss_cons (ps_set (i := 3) sc_distances.nd rfl (.inl rfl) (pe_lst pa_nil))
  (pss_cons (ps_for PassesOwn.never rfl (pi_list (pv 2)) (pg_name (i := 4) sc_distances.nd rfl (.inl rfl))
  (pss_one (ps_for PassesOwn.never rfl (pi_list (pe_ix (r := rIxL K) ix_list (pv 0) (pv 4) (fun _ _ => rfl))) (pg_name (i := 5) sc_distances.nd rfl (.inl rfl))
  (pss_one (ps_if (pt_cmpR op_isN (pe_ix (r := rIxL K) ix_list (pv 1) (pv 5) (fun _ _ => rfl)) pe_non (nomark _))
  (pss_cons (ps_asg (pe_op op_add (pe_ix (r := rIxL K) ix_list (pv 1) (pv 4) (fun _ _ => rfl)) pe_int) (pg_sub (pv 1) (pv 5) set_list))
  (pss_one (ps_expr (pe_bm PySem.F.plainAttrs_list PySem.F.slot_list_append PySem.F.type_list_append mt_append (pv 3) (pa_cons (pv 5) pa_nil)))))
  pss_nil)))))
  (pss_one (ps_set (i := 2) sc_distances.nd rfl (.inl rfl) (pv 3))))))
  (pss_one (ps_ret (pv 1))))))), ?_⟩
    obtain ⟨rs, hp, rl, hr⟩ := hL
    walk_at "rd"
    refine ⟨Nat.le_of_ble_eq_true rfl, Rd.new fun e0 G0 ne0 ge0 s0 => ?_⟩
    walk_at "rd"
    refine Rd.len (.inl (s0.seq hp)) ?_
    rw [List.length_map, rl]
    refine Rd.rep ge0 (by omega) (by omega) (by rw [sizeLine_eq]; show 1 * _ ≤ _; omega) (Rd.new fun f G1 nf gf s1 => ?_)
    rw [show ((n + 1 : Nat) : Int).toNat = n + 1 from rfl, rep_non] at gf
    walk_at "rd"
    refine Rd.setG gf (j := n) (by rw [List.length_replicate]; unfold ixN; rw [if_neg (by decide), if_pos (by omega)]; congr 1; omega) rfl fun G2 g2 off2 => ?_
    have s2 : Same H G2 := fun b o e => by
      rw [off2 b (ne_of_none (s0 _ _ e) nf)]
      exact s1 _ _ (s0 _ _ e)
    have nfH : H f = none := s0.free nf
    walk_at "rd"
    refine Rd.len (.inl (s2.seq hp)) ?_
    rw [List.length_map, rl]
    walk_at "rd"
    refine ⟨Nat.le_of_ble_eq_true rfl, Rd.new fun ra G3 nra gra s3 => ?_⟩
    have fl0 : Fl (List.replicate (n + 1) V.non |>.set n (.int ((0 : Nat) : Int))) (fun j => if j = n then some 0 else none) n := by
      refine Fl.set (F := fun _ => none) ⟨by rw [List.length_replicate], fun i hi => ?_⟩ (Nat.le_refl n)
      rw [List.getElem?_replicate, if_pos (by omega)]
      rfl
    walk_at "rd"
    refine Rd.whl (fun m σ H' => ∃ (k : Nat) (F : Nat → Option Nat) (L : List V) (ra : Addr) (xs : List Int) (o3 o4 o5 : Option V), σ = [some (.ref p), some (.ref f), some (.ref ra), o3, o4, o5] ∧ H' f = some (.lst L) ∧ Fl L F n ∧ H' ra = some (.lst (xs.map V.int)) ∧ Same H H' ∧ ra ≠ f ∧
        (∀ i, i ≤ n → ∀ d, F i = some d ↔ (Mz.Dist A n i d ∧ d ≤ k)) ∧ (∀ x, x ∈ xs ↔ ∃ i : Nat, x = i ∧ Mz.Dist A n i k) ∧ m = if xs = [] then 0 else n + 1 - k)
      ⟨_, 0, _, _, ra, [((n + 1 : Nat) : Int) - 1], none, none, none, rfl, s3 _ _ g2, fl0, gra, s2.trans s3, (ne_of_none g2 nra).symm, fun i hi d => ?_, fun x => ?_, rfl⟩ ?_
    · by_cases c : i = n
      · rw [if_pos c, c]
        constructor
        · intro h
          cases h
          exact ⟨Mz.Dist.zero, Nat.le_refl _⟩
        · rintro ⟨h, _⟩
          rw [h.inj Mz.Dist.zero]
      · rw [if_neg c]
        constructor
        · intro h
          cases h
        · rintro ⟨h, l⟩
          have : d = 0 := by omega
          subst this
          exact absurd (Mz.Dist.zero_iff.mp h) (fun e => c e.symm)
    · rw [List.mem_singleton]
      constructor
      · intro h
        exact ⟨n, by omega, Mz.Dist.zero⟩
      · rintro ⟨i, h, d⟩
        have := Mz.Dist.zero_iff.mp d
        omega
    rintro m _ H1 ⟨k0, F, L, ra, xs, o3, o4, o5, rfl, gf1, fl, gra1, s1', raf, hF, hxs, rfl⟩
    walk_at "rd"
    refine Rd.len (.inl (.of gra1)) ?_
    rw [List.length_map]
    walk_at "rd"
    refine ite2 (fun c => ?_) (fun c => ?_)
    · have xne : xs ≠ [] := fun e => by rw [e] at c; simp at c
      rw [if_neg xne]
      have kn : k0 ≤ n := by
        obtain ⟨x, hx⟩ := List.exists_mem_of_ne_nil _ xne
        obtain ⟨i, _, d⟩ := (hxs x).mp hx
        exact d.le hA (Nat.le_refl n)
      refine Rd.whN ?_
      walk_at "rd"
      refine ⟨Nat.zero_le _, Rd.new fun la G4 nla gla s4 => ?_⟩
      have nla1 : H la = none := s1'.free nla
      have laf : la ≠ f := (ne_of_none gf1 nla).symm
      have rala : ra ≠ la := ne_of_none gra1 nla
      have hpS : ∀ {H'}, Same H H' → SqL K H' p (rs.map V.ref) := fun s => s.seq hp
      walk_at "rd"
      refine Rd.forS ?_
      walk_at "rd"
      refine ⟨⟨_, .of (s4 _ _ gra1)⟩, for_list (K := K) (a := ra) (xs := xs.map V.int) (fun a σ H' => ∃ (F' : Nat → Option Nat) (L' : List V) (ys : List Int) (o4 o5 : Option V), σ = [some (.ref p), some (.ref f), some (.ref ra), some (.ref la), o4, o5] ∧ H' f = some (.lst L') ∧ Fl L' F' n ∧ H' la = some (.lst (ys.map V.int)) ∧ Same H H' ∧ H' ra = some (.lst (xs.map V.int)) ∧
          (∀ i d, i ≤ n → F i = some d → F' i = some d) ∧ (∀ i d, i ≤ n → F' i = some d → F i = some d ∨ (d = k0 + 1 ∧ (i : Int) ∈ ys)) ∧ ys.Nodup ∧ (∀ y ∈ ys, ∃ i : Nat, y = i ∧ i ≤ n ∧ F' i = some (k0 + 1) ∧ Mz.Dist A n i (k0 + 1)) ∧ ∀ s : Nat, (s : Int) ∈ xs.take a → ∀ i, A s i → F' i ≠ none)
        ⟨F, L, [], _, _, rfl, s4 _ _ gf1, fl, gla, s1'.trans s4, s4 _ _ gra1, fun i d _ h => h, fun i d _ h => .inl h, .nil, fun y h => by simp at h, fun s h => by simp at h⟩ (fun a σ H' _ ⟨_, _, _, _, _, _, _, _, _, _, g, _⟩ => .of g) ?_ ?_⟩
      · rintro a x0 _ H2 hx0 ⟨F1, L1, ys, o4, o5, rfl, gf2, fl1, gla2, sm2, gra2, hA1, hA2, nd, hys, cov⟩
        obtain ⟨x, hx, rfl⟩ := Rd.map_get hx0
        obtain ⟨s, rfl, ds⟩ := (hxs x).mp (List.mem_of_getElem? hx)
        have sn : s ≤ n := Mz.Steps.le hA (Nat.le_refl n) ds.1
        have hrow : s < rs.length := by omega
        obtain ⟨ms, m1, _, m2⟩ := hr s _ (List.getElem?_eq_getElem hrow)
        have Fs : F s = some k0 := (hF s sn k0).mpr ⟨ds, Nat.le_refl _⟩
        walk_at "rd"
        refine Rd.forS ?_
        walk_at "rd"
        refine Rd.ixL (hpS sm2) (atI_nat (Rd.map_ref hrow)) ?_
        walk_at "rd"
        refine ⟨⟨_, sm2.seq m1⟩, for_list (K := K) (a := rs[s]) (xs := ms.map V.int) (fun b σ H' => ∃ (F' : Nat → Option Nat) (L' : List V) (ys : List Int) (o5 : Option V), σ = [some (.ref p), some (.ref f), some (.ref ra), some (.ref la), some (.int (s : Int)), o5] ∧ H' f = some (.lst L') ∧ Fl L' F' n ∧ H' la = some (.lst (ys.map V.int)) ∧ Same H H' ∧ H' ra = some (.lst (xs.map V.int)) ∧
            (∀ i d, i ≤ n → F i = some d → F' i = some d) ∧ (∀ i d, i ≤ n → F' i = some d → F i = some d ∨ (d = k0 + 1 ∧ (i : Int) ∈ ys)) ∧ ys.Nodup ∧ (∀ y ∈ ys, ∃ i : Nat, y = i ∧ i ≤ n ∧ F' i = some (k0 + 1) ∧ Mz.Dist A n i (k0 + 1)) ∧ (∀ s : Nat, (s : Int) ∈ xs.take a → ∀ i, A s i → F' i ≠ none) ∧ ∀ i : Nat, (i : Int) ∈ ms.take b → F' i ≠ none)
          ⟨F1, L1, ys, _, rfl, gf2, fl1, gla2, sm2, gra2, hA1, hA2, nd, hys, cov, fun i h => by simp at h⟩ (fun b σ H' _ ⟨_, _, _, _, _, _, _, _, g, _⟩ => g.seq m1) ?_ ?_⟩
        · rintro b y0 _ H3 hy0 ⟨F2, L2, ys2, o5, rfl, gf3, fl2, gla3, sm3, gra3, hB1, hB2, nd2, hys2, cov2, cin⟩
          obtain ⟨y, hy, rfl⟩ := Rd.map_get hy0
          obtain ⟨i, rfl, ai⟩ := (m2 y).mp (List.mem_of_getElem? hy)
          have iN : i ≤ n := hA _ _ ai
          have ylen : ys2.length ≤ n + 1 := Mw.nodup_range nd2 fun v hv => by obtain ⟨j, e, l, _⟩ := hys2 v hv; omega
          walk_at "rd"
          refine Rd.ixL (.of gf3) (fl2.get iN) ?_
          walk_at "rd"
          refine ⟨rfl, ?_⟩
          walk_at "rd"
          refine ite2 (fun q => ?_) (fun q => ?_)
          · have Fi : F2 i = none := by
              cases e : F2 i with
              | none => rfl
              | some d => rw [e] at q; cases q
            have Fi0 : F i = none := by
              cases e : F i with
              | none => rfl
              | some d => have := hB1 i d iN e; rw [Fi] at this; cases this
            have di : Mz.Dist A n i (k0 + 1) := ds.next ai fun j hj d => by
              have := (hF i iN j).mpr ⟨d, hj⟩
              rw [Fi0] at this
              cases this
            walk_at "rd"
            refine Rd.ixL (v := .int ((k0 : Nat) : Int)) (.of gf3) (by rw [fl2.get sn, hB1 s k0 sn Fs]; rfl) ?_
            walk_at "rd"
            refine Rd.setG gf3 (j := i) (by rw [fl2.1]; exact Rd.ixN_of (i := (i : Int)) (by omega) (by omega)) rfl fun G5 g5 off5 => ?_
            have gla5 : G5 la = some (.lst (ys2.map V.int)) := by rw [off5 la laf]; exact gla3
            walk_at "rd"
            refine Rd.tyL (.of gla5) ?_
            walk_at "rd"
            refine Rd.app gla5 (by rw [List.length_map, sizeLine_eq]; omega) fun G6 g6 off6 => ?_
            walk_at "rd"
            have fl3 := fl2.set (d := k0 + 1) iN
            have iy : ¬ (i : Int) ∈ ys2 := fun h => by
              obtain ⟨j, e, _, h2, _⟩ := hys2 _ h
              have : i = j := by omega
              subst this
              rw [Fi] at h2
              cases h2
            refine ⟨_, _, ys2 ++ [(i : Int)], _, rfl, by rw [off6 f laf.symm]; exact g5, fl3, by rw [List.map_append]; exact g6, fun b o e => ?_, by rw [off6 ra rala, off5 ra raf]; exact gra3, fun j d jn h => ?_, fun j d jn h => ?_, ?_, fun v hv => ?_, fun s' hs j aj => ?_, fun j hj => ?_⟩
            · rw [off6 b (ne_of_none e nla1), off5 b (ne_of_none e nfH)]
              exact sm3 b o e
            · by_cases c : j = i
              · subst c
                rw [Fi0] at h
                cases h
              · rw [if_neg c]
                exact hB1 j d jn h
            · by_cases c : j = i
              · rw [if_pos c] at h
                cases h
                exact .inr ⟨rfl, List.mem_append.mpr (.inr (by rw [c]; simp))⟩
              · rw [if_neg c] at h
                exact (hB2 j d jn h).imp id fun ⟨h1, h2⟩ => ⟨h1, List.mem_append.mpr (.inl h2)⟩
            · exact snoc_nodup nd2 iy
            · rcases List.mem_append.mp hv with h | h
              · obtain ⟨j, e1, e2, e3, e4⟩ := hys2 v h
                refine ⟨j, e1, e2, ?_, e4⟩
                split
                · rfl
                · exact e3
              · simp at h
                exact ⟨i, h, iN, by rw [if_pos rfl], di⟩
            · split
              · exact fun h => nomatch h
              · exact cov2 s' hs j aj
            · split
              · exact fun h => nomatch h
              · rename_i c
                rw [Rd.take_snoc hy] at hj
                rcases List.mem_append.mp hj with h | h
                · exact cin j h
                · simp at h
                  exact absurd h (by omega)
          · walk_at "rd"
            refine ⟨F2, L2, ys2, _, rfl, gf3, fl2, gla3, sm3, gra3, hB1, hB2, nd2, hys2, cov2, fun j hj => ?_⟩
            rw [Rd.take_snoc hy] at hj
            rcases List.mem_append.mp hj with h | h
            · exact cin j h
            · simp at h
              have : j = i := by omega
              subst this
              intro e
              exact q (by rw [e]; rfl)
        · rintro _ H3 ⟨F2, L2, ys2, o5, rfl, gf3, fl2, gla3, sm3, gra3, hB1, hB2, nd2, hys2, cov2, cin⟩
          rw [List.length_map, List.take_length] at cin
          walk_at "rd"
          refine ⟨F2, L2, ys2, _, _, rfl, gf3, fl2, gla3, sm3, gra3, hB1, hB2, nd2, hys2, fun s' hs j aj => ?_⟩
          rw [Rd.take_snoc hx] at hs
          rcases List.mem_append.mp hs with h | h
          · exact cov2 s' h j aj
          · simp at h
            have : s' = s := by omega
            subst this
            exact cin j ((m2 _).mpr ⟨j, rfl, aj⟩)
      · rintro _ H2 ⟨F1, L1, ys, o4, o5, rfl, gf2, fl1, gla2, sm2, gra2, hA1, hA2, nd, hys, cov⟩
        rw [List.length_map, List.take_length] at cov
        walk_at "rd"
        have key : ∀ i, i ≤ n → ∀ d, F1 i = some d ↔ (Mz.Dist A n i d ∧ d ≤ k0 + 1) := fun i hi d => by
          constructor
          · intro h
            rcases hA2 i d hi h with h1 | ⟨rfl, h1⟩
            · have := (hF i hi d).mp h1
              exact ⟨this.1, by omega⟩
            · obtain ⟨j, e, _, _, dj⟩ := hys _ h1
              have : i = j := by omega
              subst this
              exact ⟨dj, Nat.le_refl _⟩
          · rintro ⟨h, l⟩
            by_cases c : d ≤ k0
            · exact hA1 i d hi ((hF i hi d).mpr ⟨h, c⟩)
            · have ed : d = k0 + 1 := by omega
              subst ed
              obtain ⟨s, hs, r⟩ := h.pred
              have := cov s ((hxs _).mpr ⟨s, rfl, hs⟩) i r
              cases e : F1 i with
              | none => exact absurd e this
              | some d' =>
                rcases hA2 i d' hi e with h1 | ⟨rfl, _⟩
                · have := ((hF i hi d').mp h1)
                  have e2 := this.1.inj h
                  omega
                · rfl
        have keyY : ∀ x, x ∈ ys ↔ ∃ i : Nat, x = i ∧ Mz.Dist A n i (k0 + 1) := fun x => by
          constructor
          · intro h
            obtain ⟨i, e, _, _, d⟩ := hys x h
            exact ⟨i, e, d⟩
          · rintro ⟨i, rfl, d⟩
            have hi : i ≤ n := Mz.Steps.le hA (Nat.le_refl n) d.1
            rcases hA2 i _ hi ((key i hi _).mpr ⟨d, Nat.le_refl _⟩) with h1 | ⟨_, h1⟩
            · have := ((hF i hi _).mp h1).2
              omega
            · exact h1
        refine ⟨if ys = [] then 0 else n + 1 - (k0 + 1), ?_, k0 + 1, F1, L1, la, ys, _, _, _, rfl, gf2, fl1, gla2, sm2, laf, key, keyY, rfl⟩
        split <;> omega
    · have xe : xs = [] := by
        cases xs with
        | nil => rfl
        | cons _ _ => exfalso; apply c; rw [List.length_cons]; omega
      subst xe
      walk_at "rd"
      refine k f L F H1 gf1 fl (fun i hi d => (hF i hi d).trans ⟨fun h => h.1, fun h => ⟨h, ?_⟩⟩) s1' nfH
      rcases Nat.lt_or_ge k0 d with l | l
      · obtain ⟨y, hy⟩ := h.all k0 (by omega)
        have := (hxs _).mpr ⟨y, rfl, hy⟩
        simp at this
      · exact l

end
end W

namespace W
open PySem PySem.Spec PyProof.Rows L2
section
variable {P : Program} {w : World} {K : PySem.W.Frag} {mg : Str → Option Value} {base : Heap}
/-! ### the least of the shortest zigzags -/
def natV (P : List Nat) : List V := (P.map fun i : Nat => (i : Int)).map V.int
/-- what shortest answers -/
def Zig (H H' : Hp) (ws : List Str) (z : Str) (r : V) : Prop := (r = .non ∧ ¬ Mw.Told ws z) ∨ ∃ (q : Addr) (P : List Nat), r = .ref q ∧ H' q = some (.tup (natV P)) ∧ H q = none ∧ Mz.Gr (Mw.Adj ws z) z.length 0 P
theorem gr_told {A : Nat → Nat → Prop} {n x : Nat} {P : List Nat} (h : Mz.Gr A n x P) : Mw.Star A x n := by
  cases h with
  | stop => exact .refl
  | step hx _ _ _ _ => exact Mz.star_dist.mpr ⟨_, hx⟩
def sp_shortest (K : PySem.W.Frag) : Sp := fun vs H Q _ => ∃ (a : Addr) (ws : List Str) (z : Str), vs = [.ref a, .str z] ∧ Ru.SqR K H a (ws.map V.str) ∧ (∀ W ∈ ws, 1 ≤ W.length ∧ W.length ≤ 1000) ∧ ws.length ≤ 100 ∧ z.length ≤ 1000 ∧ ∀ (r : V) H', Same H H' → Zig H H' ws z r → Q r H'
def sp_zigzag (K : PySem.W.Frag) (C : Addr) : Sp := fun vs H Q _ => ∃ (a : Addr) (ws : List Str) (z : Str), vs = [.ref a, .str z] ∧ BookAt C H a ws ∧ Watches ws ∧ Lt.Wd 40 z ∧ ∀ (r : V) H', Same H H' → Zig H H' ws z r → Q r H'
theorem filt_step {α : Type} {l : List α} {i : Nat} {x : α} {f : α → Bool} (h : l[i]? = some x) : (l.take (i + 1)).filter f = (l.take i).filter f ++ if f x = true then [x] else [] := by
  rw [Rd.take_snoc h, List.filter_append]
  congr 1
  cases e : f x <;> simp [e]
theorem sorted_head {l : List Int} {f : Int → Bool} (hp : l.Pairwise (· ≤ ·)) {x : Int} (hx : x ∈ l) (fx : f x = true) : ∃ w r, l.filter f = w :: r ∧ ∀ v ∈ l, f v = true → w ≤ v := by
  have hm : x ∈ l.filter f := List.mem_filter.mpr ⟨hx, fx⟩
  have hs := hp.sublist (List.filter_sublist (l := l) (p := f))
  cases e : l.filter f with
  | nil => rw [e] at hm; simp at hm
  | cons w r =>
    rw [e] at hs
    refine ⟨w, r, rfl, fun v hv fv => ?_⟩
    have : v ∈ w :: r := by rw [← e]; exact List.mem_filter.mpr ⟨hv, fv⟩
    rcases List.mem_cons.mp this with rfl | h
    · exact Int.le_refl _
    · exact (List.pairwise_cons.mp hs).1 v h
theorem ok_shortest (T : Txt K mg) : FnOk P w K mg base CX0 2 T.f_shortest T.fd_shortest ["watches", "word"] (sp_shortest K) := by
  refine T.F_shortest.ok sc_shortest (fun vs H Q E h => ?_) (fun cdv A outer s H vs Q E hr h => ?_)
  · obtain ⟨a, ws, z, rfl, _⟩ := h
    rfl
  · obtain ⟨a, ws, z, rfl, hS, hw, l1, l2, k⟩ := h
    refine ⟨_, (pss_cons (ps_set (i := 2) sc_shortest.nd rfl (.inl rfl) (pe_call (ok_links_of T) (hr.mono (by decide)) rfl T.g_links_of T.F_links_of.kp T.b_links_of .nil pass0 (pa_cons (pv 0) (pa_cons (pv 1) pa_nil))))
  (pss_cons (ps_set (i := 3) sc_shortest.nd rfl (.inr rfl) (pe_call (ok_distances T) (hr.mono (by decide)) rfl T.g_distances T.F_distances.kp T.b_distances .nil pass0 (pa_cons (pv 2) pa_nil)))
  (pss_cons (ps_if (pt_cmpR op_isN (pe_ix (r := rIxL K) ix_list (pv 3) pe_int (fun _ _ => rfl)) pe_non (nomark _))
  (pss_one (ps_ret pe_non))
  pss_nil)
  (pss_cons (ps_set (i := 4) sc_shortest.nd rfl (.inl rfl) (pe_lst (pa_cons pe_int pa_nil)))
  (pss_cons (ps_while PassesOwn.never (pt_cmpR op_ne (pe_ix (r := rIxL K) ix_list (pv 4) (pe_un un_neg pe_int) (fun _ _ => rfl)) (pe_callB (id := "len") (r := _) Rd.c_lenS (by rfl) T.n_len (by decide +kernel) (pa_cons (pv 1) pa_nil)) (nomark _))
  (pss_cons (ps_set (i := 5) sc_shortest.nd rfl (.inr rfl) (pe_ix (r := rIxL K) ix_list (pv 4) (pe_un un_neg pe_int) (fun _ _ => rfl)))
  (pss_one (ps_expr (pe_bm PySem.F.plainAttrs_list PySem.F.slot_list_append PySem.F.type_list_append mt_append (pv 4) (pa_cons (pe_ix (r := rIxL K) ix_list (pe_lc (own := [("other", 6)]) (g := gName 6)  rfl sc_shortest.nd (pi_list (pe_ix (r := rIxL K) ix_list (pv 2) (pv 5) (fun _ _ => rfl))) (blkOk_by (own := [("other", 6)]) (N := ["watches", "word", "links", "far", "found", "spot", "other"]) (sc := defScope s_shortest) (by decide +kernel)) (fun _ _ _ _ _ => (pg_name (i := 6) sc_shortest.nd rfl (.inl rfl))) (fun _ _ _ _ _ => pts_one (pt_cmpR op_eq (pe_ix (r := rIxL K) ix_list (pv 3) (pv 6) (fun _ _ => rfl)) (pe_op op_sub (pe_ix (r := rIxL K) ix_list (pv 3) (pv 5) (fun _ _ => rfl)) pe_int) (nomark _))) (fun _ _ _ _ _ => (pv 6))) pe_int (fun _ _ => rfl)) pa_nil))))))
  (pss_one (ps_ret (pe_callTy (T := "tuple") (r := Rd.nTupOf K) Rd.c_tupOf (by rfl) T.n_tuple (by decide +kernel) (pa_cons (pv 4) pa_nil))))))))), ?_⟩
    walk_at "rd"
    refine ⟨a, ws, z, rfl, hS, hw, l1, l2, fun p H1 hL s1 _ => ?_⟩
    walk_at "rd"
    refine ⟨p, z.length, Mw.Adj ws z, rfl, hL, l2, fun i j h => h.le.2, fun l L F H2 gl fl hF s2 nl => ?_⟩
    have hsy : ∀ x y, Mw.Adj ws z x y → Mw.Adj ws z y x := fun x y h => Mw.Adj.symm x y h
    obtain ⟨rs, hp, rl, hr⟩ := hL.same s2
    have zl : z.length ≤ sizeLine := by rw [sizeLine_eq]; omega
    walk_at "rd"
    refine Rd.ixL (.of gl) (fl.get (i := 0) (Nat.zero_le _)) ?_
    walk_at "rd"
    refine ⟨rfl, ?_⟩
    walk_at "rd"
    refine ite2 (fun c => ?_) (fun c => ?_)
    · walk_at "rd"
      refine k _ _ (s1.trans s2) (.inl ⟨rfl, fun h => ?_⟩)
      obtain ⟨d, hd⟩ := Mz.star_dist.mp h
      have := (hF 0 (Nat.zero_le _) d).mpr (hd.symm hsy)
      rw [this] at c
      cases c
    · obtain ⟨d0, e0⟩ : ∃ d, F 0 = some d := by
        cases e : F 0 with
        | none => rw [e] at c; exact absurd rfl c
        | some d => exact ⟨d, rfl⟩
      have hd0 := (hF 0 (Nat.zero_le _) d0).mp e0
      walk_at "rd"
      refine ⟨Nat.le_of_ble_eq_true rfl, Rd.new fun g G ng gg sG => ?_⟩
      walk_at "rd"
      refine Rd.whl (fun m σ H' => ∃ (pre : List Nat) (cur : Nat) (o5 : Option V), σ = [some (.ref a), some (.str z), some (.ref p), some (.ref l), some (.ref g), o5, none] ∧ H' g = some (.lst (natV (pre ++ [cur]))) ∧ Same H2 H' ∧ cur ≤ z.length ∧ pre.length + m = d0 ∧ Mz.Dist (Mw.Adj ws z) z.length cur m ∧ ∀ P, Mz.Gr (Mw.Adj ws z) z.length cur P → Mz.Gr (Mw.Adj ws z) z.length 0 (pre ++ P))
        ⟨d0, [], 0, none, rfl, gg, sG, Nat.zero_le _, by simp, hd0, fun P h => h⟩ ?_
      rintro m _ H3 ⟨pre, cur, o5, rfl, gg3, s3, cn, pl, dc, gr⟩
      have last : atI (natV (pre ++ [cur])) (-1) = some (.int (cur : Int)) := by
        unfold natV
        rw [List.map_append, List.map_append]
        exact atI_last _ _
      walk_at "rd"
      refine Rd.ixL (.of gg3) last ?_
      walk_at "rd"
      refine Rd.lenStr zl ?_
      walk_at "rd"
      refine ite2 (fun c2 => ?_) (fun c2 => ?_)
      · have ec : cur = z.length := by omega
        subst ec
        walk_at "rd"
        refine Rd.tupOf (.of gg3) (Rd.new fun q G4 nq gq s4 => ?_)
        have s14 := ((s1.trans s2).trans s3).trans s4
        exact k _ _ s14 (.inr ⟨q, _, rfl, gq, ((s1.trans s2).trans s3).free nq, gr _ .stop⟩)
      · refine Rd.whN ?_
        have dn : Mz.Dist (Mw.Adj ws z) z.length z.length 0 := Mz.Dist.zero
        obtain ⟨m', rfl⟩ : ∃ m', m = m' + 1 := by
          cases m with
          | zero => exact absurd (Mz.Dist.zero_iff.mp dc) (fun e => c2 (by omega))
          | succ m' => exact ⟨m', rfl⟩
        have d0n : d0 ≤ z.length := hd0.le (fun i j h => h.le.2) (Nat.le_refl _)
        obtain ⟨y0, hy0, ry0⟩ := dc.pred
        have hrow : cur < rs.length := by omega
        obtain ⟨ms, m1, mp, m2⟩ := hr cur _ (List.getElem?_eq_getElem hrow)
        have Fc : F cur = some (m' + 1) := (hF cur cn _).mpr dc
        walk_at "rd"
        refine Rd.ixL (.of gg3) last ?_
        walk_at "rd"
        refine Rd.tyL (.of gg3) ?_
        walk_at "rd"
        refine Rd.ixL (s3.seq hp) (atI_nat (Rd.map_ref hrow)) ?_
        walk_at "rd"
        refine ⟨⟨_, s3.seq m1⟩, Rd.lcS walk_list (fun _ s => s.seq (s3.seq m1)) (fun D i acc Hc => acc = ((ms.take i).filter fun x => decide (F x.toNat = some m')).map V.int) (fun _ _ _ _ _ => rfl) ?_ ?_⟩
        · rintro D i x G1 _ acc nD hi hD sm rfl ⟨rfl, hx⟩
          obtain ⟨y, hy, rfl⟩ := Rd.map_get hx
          obtain ⟨j, rfl, aj⟩ := (m2 y).mp (List.mem_of_getElem? hy)
          have jn := aj.le.2
          have lim : ((((ms.take i).filter fun x => decide (F x.toNat = some m')).map V.int)).length < sizeLine := by
            rw [List.length_map, sizeLine_eq]
            have h1 := List.length_filter_le (fun x : Int => decide (F x.toNat = some m')) (ms.take i)
            rw [List.length_take] at h1
            have h2 := mp.2
            omega
          obtain ⟨e, hde⟩ : ∃ e, F j = some e := by
            obtain ⟨e, _, he⟩ := Mz.Steps.dist (A := Mw.Adj ws z) (x := z.length) (y := j) (k := m' + 1 + 1) ⟨cur, dc.1, aj⟩
            exact ⟨e, (hF j jn e).mpr he⟩
          have gl1 := sm _ _ (s3 _ _ gl)
          walk_at "rd"
          refine ⟨rfl, ?_⟩
          walk_at "rd"
          refine Rd.ixL (v := .int ((e : Nat) : Int)) (.of gl1) (by rw [fl.get jn, hde]; rfl) ?_
          walk_at "rd"
          refine Rd.ixL (v := .int ((m' + 1 : Nat) : Int)) (.of gl1) (by rw [fl.get cn, Fc]; rfl) ?_
          walk_at "rd"
          have st := filt_step (f := fun x : Int => decide (F x.toNat = some m')) hy
          rw [Int.toNat_natCast, hde] at st
          refine ite2 (fun q => ?_) (fun q => ?_)
          · have ee : e = m' := by omega
            subst ee
            rw [decide_eq_true rfl, if_pos rfl] at st
            walk_at "rd"
            refine Rd.lcPush hD nD sm lim fun G2 g2 off2 => ?_
            rw [st, List.map_append]
            rfl
          · have ee : ¬ some e = some m' := fun h => q (by cases h; omega)
            rw [decide_eq_false ee, if_neg Bool.false_ne_true, List.append_nil] at st
            walk_at "rd"
            refine ⟨_, hD, sm, ?_⟩
            dsimp only
            rw [st]
        · rintro D acc G1 nD hD sm rfl
          rw [List.length_map, List.take_length] at hD
          have yn : y0 ≤ z.length := Mz.Steps.le (fun i j h => h.le.2) (Nat.le_refl _) hy0.1
          obtain ⟨w, r, ef, hmin⟩ := sorted_head (f := fun x : Int => decide (F x.toNat = some m')) mp.1 ((m2 _).mpr ⟨y0, rfl, hsy _ _ ry0⟩) (by rw [Int.toNat_natCast]; exact decide_eq_true ((hF y0 yn _).mpr hy0))
          have wm : w ∈ ms.filter fun x : Int => decide (F x.toNat = some m') := by rw [ef]; exact List.mem_cons_self
          obtain ⟨wm1, wm2⟩ := List.mem_filter.mp wm
          obtain ⟨wi, rfl, aw⟩ := (m2 w).mp wm1
          rw [Int.toNat_natCast] at wm2
          have wn := aw.le.2
          have dw := (hF wi wn _).mp (of_decide_eq_true wm2)
          rw [ef] at hD
          walk_at "rd"
          refine Rd.ixL (.of hD) (atI_nat (j := 0) rfl) ?_
          walk_at "rd"
          refine Rd.app (sm _ _ gg3) (by unfold natV; rw [List.length_map, List.length_map, List.length_append, sizeLine_eq]; show _ + 1 < _; omega) fun G5 g5 off5 => ?_
          walk_at "rd"
          refine ⟨m', Nat.lt_succ_self _, pre ++ [cur], wi, _, rfl, ?_, fun b o e => ?_, wn, by rw [List.length_append]; show _ + 1 + _ = _; omega, dw, fun P h => ?_⟩
          · rw [g5]
            unfold natV
            simp
          · have bg : b ≠ g := ne_of_none e ng
            rw [off5 b bg]
            exact sm _ _ (s3 _ _ e)
          · rw [List.append_assoc]
            refine gr _ (.step (dc.symm hsy) aw (dw.symm hsy) (fun v av dv => ?_) h)
            have vn := av.le.2
            have := hmin (v : Int) ((m2 _).mpr ⟨v, rfl, av⟩) (by rw [Int.toNat_natCast]; exact decide_eq_true ((hF v vn _).mpr (dv.symm hsy)))
            omega
end
end W

namespace W
open PySem PySem.Spec PyProof.Rows L2
section
variable {P : Program} {w : World} {K : PySem.W.Frag} {mg : Str → Option Value} {base : Heap}
/-! ### rules: steps between spots -/
def stepOf (z : Str) (i j : Nat) : Str × Str := if i < j then (("on" : Str), cutS z (some (i : Int)) (some (j : Int))) else (("back" : Str), cutS z (some (j : Int)) (some (i : Int)))
def stepsOf (z : Str) : List Nat → List (Str × Str)
  | i :: j :: P => stepOf z i j :: stepsOf z (j :: P)
  | _ => []
theorem stepsOf_len (z : Str) : ∀ P : List Nat, (stepsOf z P).length = P.length - 1
  | [] => rfl
  | [_] => rfl
  | i :: j :: P => by
    show (stepsOf z (j :: P)).length + 1 = _
    rw [stepsOf_len z (j :: P)]
    simp
theorem stepsOf_get {z : Str} : ∀ {P : List Nat} {k i j : Nat}, P[k]? = some i → P.tail[k]? = some j → (stepsOf z P)[k]? = some (stepOf z i j)
  | i :: j :: P, 0, _, _, h1, h2 => by
    simp at h1 h2
    subst h1 h2
    rfl
  | i :: j :: P, k + 1, _, _, h1, h2 => by
    show (stepsOf z (j :: P))[k]? = _
    exact stepsOf_get (P := j :: P) (by simpa using h1) (by simpa using h2)
  | [i], k, _, _, h1, h2 => by simp at h2
  | [], k, _, _, h1, h2 => by simp at h1
/-- the steps ss stand as a tuple at q -/
def StepsAt (H : Hp) (q : Addr) (ss : List (Str × Str)) : Prop := ∃ rs : List Addr, H q = some (.tup (rs.map V.ref)) ∧ rs.length = ss.length ∧ ∀ (i : Nat) (r : Addr) (s : Str × Str), rs[i]? = some r → ss[i]? = some s → H r = some (.tup [.str s.1, .str s.2])
theorem StepsAt.keep {H H' : Hp} {q : Addr} {ss : List (Str × Str)} (h : StepsAt H q ss) (s : ∀ b xs, H b = some (.tup xs) → H' b = some (.tup xs)) : StepsAt H' q ss := let ⟨rs, h1, h2, h3⟩ := h; ⟨rs, s _ _ h1, h2, fun i r x e1 e2 => s _ _ (h3 i r x e1 e2)⟩
theorem StepsAt.same {H H' : Hp} {q : Addr} {ss : List (Str × Str)} (h : StepsAt H q ss) (s : Same H H') : StepsAt H' q ss := h.keep fun b xs => s b _
def stepD (s : Str × Str) : PyData := .tuple [.str s.1, .str s.2]
theorem steps_dp {K : PySem.W.Frag} {H : Hp} : ∀ {ss : List (Str × Str)} {rs : List Addr}, rs.length = ss.length → (∀ (i : Nat) (r : Addr) (s : Str × Str), rs[i]? = some r → ss[i]? = some s → H r = some (.tup [.str s.1, .str s.2])) → DpAll K H (rs.map V.ref) (ss.map stepD)
  | [], [], _, _ => .nil
  | s :: ss, r :: rs, l, h => .cons (.tup (.of (h 0 r s rfl rfl)) (.cons (.str _) (.cons (.str _) .nil))) (steps_dp (by simpa using l) fun i r' s' e1 e2 => h (i + 1) r' s' (by simpa using e1) (by simpa using e2))
theorem StepsAt.dp {K : PySem.W.Frag} {H : Hp} {q : Addr} {ss : List (Str × Str)} (h : StepsAt H q ss) : Dp K H (.ref q) (.tuple (ss.map stepD)) := let ⟨_, h1, h2, h3⟩ := h; .tup (.of h1) (steps_dp h2 h3)
theorem StepsAt.row {H : Hp} {q : Addr} {ss : List (Str × Str)} (h : StepsAt H q ss) : ∃ rs : List Addr, H q = some (.tup (rs.map V.ref)) ∧ rs.length = ss.length ∧ ∀ (i : Nat) (r : Addr), rs[i]? = some r → ∃ s, ss[i]? = some s ∧ H r = some (.tup [.str s.1, .str s.2]) := by
  obtain ⟨rs, h1, h2, h3⟩ := h
  refine ⟨rs, h1, h2, fun i r e => ?_⟩
  have l : i < ss.length := by rw [← h2]; exact (List.getElem?_eq_some_iff.mp e).1
  exact ⟨ss[i], List.getElem?_eq_getElem l, h3 i r _ e (List.getElem?_eq_getElem l)⟩
def sp_steps_between (K : PySem.W.Frag) : Sp := fun vs H Q _ => ∃ (q : Addr) (z : Str) (P : List Nat), vs = [.str z, .ref q] ∧ H q = some (.tup (natV P)) ∧ P ≠ [] ∧ P.length ≤ 1000 ∧ z.length ≤ 1000 ∧ ∀ (p : Addr) H', StepsAt H' p (stepsOf z P) → Same H H' → H p = none → Q (.ref p) H'
theorem ok_steps_between (T : Txt K mg) : FnOk P w K mg base CX0 1 T.f_steps_between T.fd_steps_between ["word", "spots"] (sp_steps_between K) := by
  refine T.F_steps_between.ok sc_steps_between (fun vs H Q E h => ?_) (fun cdv A outer s H vs Q E hr h => ?_)
  · obtain ⟨q, z, P, rfl, _⟩ := h
    rfl
  · obtain ⟨q, z, P, rfl, hq, n0, hl, zl0, k⟩ := h
    refine ⟨_, (pss_cons (ps_set (i := 2) sc_steps_between.nd rfl (.inl rfl) (pe_lst pa_nil))
  (pss_cons (ps_for PassesOwn.never rfl (RZ.pi_zipA (by rfl) T.n_zip (pa_cons (pv 1) (pa_cons (pe_slice (r := rSlT K) sl_tup (pv 1) (po_some pe_int) po_none) pa_nil))) (pg_tup rfl (pgs_cons (pg_name (i := 3) sc_steps_between.nd rfl (.inl rfl)) (pgs_cons (pg_name (i := 4) sc_steps_between.nd rfl (.inl rfl)) pgs_nil)))
  (pss_one (ps_if (pt_cmpR op_lt (pv 3) (pv 4) (nomark _))
  (pss_one (ps_expr (pe_bm PySem.F.plainAttrs_list PySem.F.slot_list_append PySem.F.type_list_append mt_append (pv 2) (pa_cons (pe_tup (pa_cons pe_str (pa_cons (pe_slice sl_str (pv 0) (po_some (pv 3)) (po_some (pv 4))) pa_nil))) pa_nil))))
  (pss_one (ps_expr (pe_bm PySem.F.plainAttrs_list PySem.F.slot_list_append PySem.F.type_list_append mt_append (pv 2) (pa_cons (pe_tup (pa_cons pe_str (pa_cons (pe_slice sl_str (pv 0) (po_some (pv 4)) (po_some (pv 3))) pa_nil))) pa_nil)))))))
  (pss_one (ps_ret (pe_callTy (T := "tuple") (r := Rd.nTupOf K) Rd.c_tupOf (by rfl) T.n_tuple (by decide +kernel) (pa_cons (pv 2) pa_nil)))))), ?_⟩
    have zl : z.length ≤ sizeLine := by rw [sizeLine_eq]; omega
    walk_at "go"
    refine ⟨Nat.zero_le _, Rd.new fun l G nl gl sG => ?_⟩
    walk_at "go"
    refine Rd.forS ?_
    walk_at "go"
    have nn : natV P ≠ [] := fun e => n0 (by
      have := congrArg List.length e
      unfold natV at this
      simp at this
      exact this)
    refine Rw.sl1 (by k_extra "sq") nn (Rd.new fun q2 G2 nq2 gq2 s2 => ?_)
    have et : (natV P).tail = natV P.tail := by
      unfold natV
      rw [← List.map_tail, ← List.map_tail]
    rw [et] at gq2
    refine Rw.zipT (xs := natV P) (ys := natV P.tail) (by k_extra "sq") (by k_extra "sq") ?_
    have hml : min (natV P).length (natV P.tail).length = P.length - 1 := by unfold natV; simp
    refine for_it (Rw.walk_zipT hml.symm) (fun i σ H' => ∃ (o3 o4 : Option V) (rs : List Addr), σ = [some (.str z), some (.ref q), some (.ref l), o3, o4] ∧ Same H H' ∧ H' q2 = some (.tup (natV P.tail)) ∧ H' l = some (.lst (rs.map V.ref)) ∧ rs.length = i ∧ ∀ (k : Nat) (r : Addr) (s : Str × Str), k < i → rs[k]? = some r → (stepsOf z P)[k]? = some s → H' r = some (.tup [.str s.1, .str s.2]))
      ⟨_, _, [], rfl, sG.trans s2, gq2, s2 _ _ gl, rfl, fun k r s h => by omega⟩ (fun i σ H' _ ⟨_, _, _, _, s, h2, _⟩ => ⟨.of (s _ _ hq), .of h2⟩) ?_ ?_
    · rintro i x _ H1 _ hi ⟨o3, o4, rs, rfl, s1, g2, gl1, ln, hr⟩ ⟨T', x', y', rfl, hT, rfl, hx, hy⟩
      obtain ⟨a, ha, rfl⟩ : ∃ a : Nat, P[i]? = some a ∧ x' = .int (a : Int) := by
        unfold natV at hx
        obtain ⟨n, h1, h2⟩ := Rd.map_get hx
        rw [List.getElem?_map] at h1
        cases e : P[i]? with
        | none => rw [e] at h1; cases h1
        | some b => rw [e] at h1; exact ⟨b, rfl, by rw [h2, ← Option.some.inj h1]⟩
      obtain ⟨b, hb, rfl⟩ : ∃ b : Nat, P.tail[i]? = some b ∧ y' = .int (b : Int) := by
        unfold natV at hy
        obtain ⟨n, h1, h2⟩ := Rd.map_get hy
        rw [List.getElem?_map] at h1
        cases e : P.tail[i]? with
        | none => rw [e] at h1; cases h1
        | some c => rw [e] at h1; exact ⟨c, rfl, by rw [h2, ← Option.some.inj h1]⟩
      have sT := Rd.same_upd (o := .tup [.int (a : Int), .int (b : Int)]) hT
      have gT : upd H1 T' (.tup [.int (a : Int), .int (b : Int)]) T' = some (.tup [.int (a : Int), .int (b : Int)]) := upd_same
      generalize upd H1 T' (.tup [.int (a : Int), .int (b : Int)]) = H2 at sT gT
      refine Rd.tupT (.of gT) rfl ?_
      have hs := stepsOf_get (z := z) ha hb
      have fin : ∀ (w : Str) (y : Str), stepOf z a b = (w, y) → ∀ (e : Addr) (G3 G4 : Hp), H2 e = none → G3 e = some (.tup [.str w, .str y]) → Same H2 G3 → G4 l = some (.lst (rs.map V.ref ++ [.ref e])) → (∀ c, c ≠ l → G4 c = G3 c) →
          ∃ (o3 o4 : Option V) (rs' : List Addr), [some (V.str z), some (V.ref q), some (V.ref l), some (V.int (a : Int)), some (V.int (b : Int))] = [some (.str z), some (.ref q), some (.ref l), o3, o4] ∧ Same H G4 ∧ G4 q2 = some (.tup (natV P.tail)) ∧ G4 l = some (.lst (rs'.map V.ref)) ∧ rs'.length = i + 1 ∧ ∀ (k : Nat) (r : Addr) (s : Str × Str), k < i + 1 → rs'[k]? = some r → (stepsOf z P)[k]? = some s → G4 r = some (.tup [.str s.1, .str s.2]) := by
        intro w y ew e G3 G4 ne ge s3 g4 off4
        have nlH : H l = none := nl
        have gl2 := s3 _ _ (sT _ _ gl1)
        refine ⟨_, _, rs ++ [e], rfl, ?_, ?_, by rw [List.map_append]; exact g4, by rw [List.length_append, ln]; rfl, ?_⟩
        · exact Rd.same_off ((s1.trans sT).trans s3) nl off4
        · rw [off4 q2 (ne_of (s3 _ _ (sT _ _ g2)) gl2 (fun e => nomatch e))]
          exact s3 _ _ (sT _ _ g2)
        · intro k r s hk hr' hs'
          rcases Nat.lt_succ_iff_lt_or_eq.mp hk with h | h
          · rw [List.getElem?_append_left (by omega)] at hr'
            have := s3 _ _ (sT _ _ (hr k r s h hr' hs'))
            rw [off4 r (ne_of this gl2 (fun e => nomatch e))]
            exact this
          · subst h
            rw [List.getElem?_append_right (by omega), ln, Nat.sub_self] at hr'
            have : e = r := by simpa using hr'
            subst this
            rw [hs, ew] at hs'
            cases hs'
            rw [off4 e (ne_of ge gl2 (fun e => nomatch e))]
            exact ge
      walk_at "go"
      refine ite2 (fun c => ?_) (fun c => ?_)
      · have ew : stepOf z a b = (("on" : Str), cutS z (some (a : Int)) (some (b : Int))) := if_pos (by omega)
        walk_at "go"
        refine ⟨Nat.le_of_ble_eq_true rfl, Rd.new fun e G3 ne ge s3 => ?_⟩
        walk_at "go"
        refine Rd.app (by k_extra "at") (by k_extra "sz") fun G4 g4 off4 => ?_
        walk_at "go"
        exact fin _ _ ew e G3 G4 ne ge s3 g4 off4
      · have ew : stepOf z a b = (("back" : Str), cutS z (some (b : Int)) (some (a : Int))) := if_neg (by omega)
        walk_at "go"
        refine ⟨Nat.le_of_ble_eq_true rfl, Rd.new fun e G3 ne ge s3 => ?_⟩
        walk_at "go"
        refine Rd.app (by k_extra "at") (by k_extra "sz") fun G4 g4 off4 => ?_
        walk_at "go"
        exact fin _ _ ew e G3 G4 ne ge s3 g4 off4
    · rintro _ H1 ⟨o3, o4, rs, rfl, s1, g2, gl1, ln, hr⟩
      walk_at "go"
      refine Rd.tupOf (by k_extra "sq") (Rd.new fun p G np gp s2 => ?_)
      refine k p G ⟨rs, gp, by rw [ln, stepsOf_len], fun i r s e1 e2 => s2 _ _ (hr i r s ?_ e1 e2)⟩ (s1.trans s2) (s1.free np)
      have := (List.getElem?_eq_some_iff.mp e1).1
      omega

end
end W

namespace W
open PySem PySem.Spec PyProof.Rows L2
section
variable {P : Program} {w : World} {K : PySem.W.Frag} {mg : Str → Option Value} {base : Heap}
/-- what rule answers -/
def Rule (H H' : Hp) (ws : List Str) (z : Str) (r : V) : Prop := (r = .non ∧ ¬ Mw.Told ws z) ∨ ∃ (q : Addr) (P : List Nat), r = .ref q ∧ StepsAt H' q (stepsOf z P) ∧ H q = none ∧ Mz.Gr (Mw.Adj ws z) z.length 0 P
def sp_rule_by (K : PySem.W.Frag) : Sp := fun vs H Q _ => ∃ (a : Addr) (ws : List Str) (z : Str), vs = [.ref a, .str z] ∧ Ru.SqR K H a (ws.map V.str) ∧ (∀ W ∈ ws, 1 ≤ W.length ∧ W.length ≤ 1000) ∧ ws.length ≤ 100 ∧ z.length ≤ 900 ∧ ∀ (r : V) H', Same H H' → Rule H H' ws z r → Q r H'
def sp_rule (K : PySem.W.Frag) (C : Addr) : Sp := fun vs H Q _ => ∃ (a : Addr) (ws : List Str) (z : Str), vs = [.ref a, .str z] ∧ BookAt C H a ws ∧ Watches ws ∧ Lt.Wd 40 z ∧ ∀ (r : V) H', Same H H' → Rule H H' ws z r → Q r H'
theorem gr_len {A : Nat → Nat → Prop} {n : Nat} (hA : ∀ i j, A i j → j ≤ n) {x : Nat} {P : List Nat} (hx : x ≤ n) (h : Mz.Gr A n x P) : P ≠ [] ∧ P.length ≤ n + 1 ∧ ∀ d, Mz.Dist A x n d → P.length = d + 1 := by
  induction h with
  | stop => exact ⟨by simp, by simp, fun d hd => by rw [hd.inj Mz.Dist.zero]; rfl⟩
  | step hx' r hw _ _ ih =>
    obtain ⟨h1, h2, h3⟩ := ih (hA _ _ r)
    have e := h3 _ hw
    refine ⟨by simp, ?_, fun d hd => by rw [hd.inj hx', List.length_cons, e]⟩
    have := hx'.le hA hx
    rw [List.length_cons, e]
    omega
theorem ok_rule_by (T : Txt K mg) : FnOk P w K mg base CX0 3 T.f_rule_by T.fd_rule_by ["watches", "word"] (sp_rule_by K) := by
  refine T.F_rule_by.ok sc_rule_by (fun vs H Q E h => ?_) (fun cdv A outer s H vs Q E hr h => ?_)
  · obtain ⟨a, ws, z, rfl, _⟩ := h
    rfl
  · obtain ⟨a, ws, z, rfl, hS, hw, l1, l2, k⟩ := h
    refine ⟨_, (pss_cons (ps_set (i := 2) sc_rule_by.nd rfl (.inl rfl) (pe_call (ok_shortest T) (hr.mono (by decide)) rfl T.g_shortest T.F_shortest.kp T.b_shortest .nil pass0 (pa_cons (pv 0) (pa_cons (pv 1) pa_nil))))
  (pss_one (ps_ret (pe_ifExp (pt_cmpR op_isN (pv 2) pe_non (nomark _)) pe_non (pe_call (ok_steps_between T) (hr.mono (by decide)) rfl T.g_steps_between T.F_steps_between.kp T.b_steps_between .nil pass0 (pa_cons (pv 1) (pa_cons (pv 2) pa_nil))))))), ?_⟩
    walk_at "go"
    refine ⟨a, ws, z, rfl, hS, hw, l1, by omega, fun r H1 s1 zg => ?_⟩
    walk_at "go"
    rcases zg with ⟨rfl, nt⟩ | ⟨q, P, rfl, hq, nq, g⟩
    · walk_at "go"
      exact k _ _ s1 (.inl ⟨rfl, nt⟩)
    · walk_at "go"
      have ⟨n0, pl, _⟩ := gr_len (fun i j h => h.le.2) (Nat.zero_le _) g
      refine ⟨q, z, P, rfl, hq, n0, by omega, by omega, fun p H2 hp s2 np => ?_⟩
      exact k _ _ (s1.trans s2) (.inr ⟨p, P, rfl, hp, s1.free np, g⟩)
theorem ok_rule (T : Txt K mg) : FnOk P w K mg base CX0 5 T.f_rule T.fd_rule ["book", "word"] (sp_rule K T.C_Book) := by
  refine T.F_rule.ok sc_rule (fun vs H Q E h => ?_) (fun cdv A outer s H vs Q E hr h => ?_)
  · obtain ⟨a, ws, z, rfl, _⟩ := h
    rfl
  · obtain ⟨a, ws, z, rfl, hB, Wt, hz, k⟩ := h
    refine ⟨_, (pss_cons (ps_expr (pe_call (ok_check_book T) (hr.mono (by decide)) rfl T.g_check_book T.F_check_book.kp T.b_check_book .nil pass0 (pa_cons (pv 0) pa_nil)))
  (pss_cons (ps_expr (pe_call (ok_check_word T) (hr.mono (by decide)) rfl T.g_check_word T.F_check_word.kp T.b_check_word .nil pass0 (pa_cons (pv 1) pa_nil)))
  (pss_one (ps_ret (pe_call (ok_rule_by T) (hr.mono (by decide)) rfl T.g_rule_by T.F_rule_by.kp T.b_rule_by .nil pass0 (pa_cons (pe_fld (pv 0) rfl) (pa_cons (pv 1) pa_nil))))))), ?_⟩
    walk_at "go"
    refine ⟨a, ws, rfl, hB, ?_⟩
    walk_at "go"
    refine ⟨z, rfl, hz, fun H1 s1 => ?_⟩
    walk_at "go"
    obtain ⟨dx, t, hb, ht⟩ := hB.same s1
    refine Rd.fld hb T.cl_Book T.na_Book_watches rfl ?_
    walk_at "go"
    have w1 := Wt.l1
    have z1 := hz.l1
    exact ⟨t, ws, z, rfl, .inr (.of ht), fun W m => ⟨(Wt.ok W m).l0, by have := (Wt.ok W m).l1; omega⟩, by omega, by omega, fun r H2 s2 zg => k _ _ (s1.trans s2) (zg.imp id fun ⟨q, P, h1, h2, h3, h4⟩ => ⟨q, P, h1, h2, s1.free h3, h4⟩)⟩

end
end W

namespace W
open PySem PySem.Spec PyProof.Rows L2
section
variable {P : Program} {w : World} {K : PySem.W.Frag} {mg : Str → Option Value} {base : Heap}
/-! ### rules for a book -/
open Classical in
noncomputable def toldOf (ws us : List Str) : List Str := us.filter fun W => decide (Mw.Told ws W)
def ent (e : Str × Addr × List Nat) : Key × V := (.inr e.1, .ref e.2.1)
def RulesOk (H : Hp) (ws us : List Str) (es : List (Str × Addr × List Nat)) : Prop := es.map (·.1) = toldOf ws us ∧ ∀ e ∈ es, StepsAt H e.2.1 (stepsOf e.1 e.2.2) ∧ Mz.Gr (Mw.Adj ws e.1) e.1.length 0 e.2.2
theorem RulesOk.same {H H' : Hp} {ws us : List Str} {es : List (Str × Addr × List Nat)} (h : RulesOk H ws us es) (s : Same H H') : RulesOk H' ws us es := ⟨h.1, fun e m => ⟨(h.2 e m).1.same s, (h.2 e m).2⟩⟩
open Classical in
theorem toldOf_mem {ws us : List Str} {W : Str} : W ∈ toldOf ws us ↔ W ∈ us ∧ Mw.Told ws W := by
  unfold toldOf
  rw [List.mem_filter, decide_eq_true_iff]
open Classical in
theorem toldOf_step {ws us : List Str} {i : Nat} {W : Str} (h : us[i]? = some W) : toldOf ws (us.take (i + 1)) = toldOf ws (us.take i) ++ if Mw.Told ws W then [W] else [] := by
  unfold toldOf
  rw [filt_step h]
  by_cases q : Mw.Told ws W
  · rw [if_pos q, if_pos (decide_eq_true q)]
  · rw [if_neg q, if_neg (fun e => q (of_decide_eq_true e))]
theorem putK_new {kvs : List (Key × V)} {k : Key} {v : V} (h : k ∉ kvs.map (·.1)) : putK kvs k v = kvs ++ [(k, v)] := by
  unfold putK
  rw [if_neg]
  intro e
  obtain ⟨p, hp, q⟩ := List.any_eq_true.mp e
  exact h (List.mem_map.mpr ⟨p, hp, of_decide_eq_true q⟩)
def sp_rules_for (K : PySem.W.Frag) (C : Addr) : Sp := fun vs H Q _ => ∃ (a b : Addr) (ws us : List Str), vs = [.ref a, .ref b] ∧ BookAt C H a ws ∧ BookAt C H b us ∧ Watches ws ∧ Watches us ∧
  ∀ (d : Addr) (es : List (Str × Addr × List Nat)) H', Same H H' → H d = none → H' d = some (.dK (es.map ent)) → RulesOk H' ws us es → Q (.ref d) H'
theorem ok_rules_for (T : Txt K mg) : FnOk P w K mg base CX0 5 T.f_rules_for T.fd_rules_for ["one", "other"] (sp_rules_for K T.C_Book) := by
  refine T.F_rules_for.ok sc_rules_for (fun vs H Q E h => ?_) (fun cdv A outer s H vs Q E hr h => ?_)
  · obtain ⟨a, b, ws, us, rfl, _⟩ := h
    rfl
  · obtain ⟨a, b, ws, us, rfl, hA, hB, Wt, Ut, k⟩ := h
    refine ⟨_, (pss_cons (ps_expr (pe_call (ok_check_book T) (hr.mono (by decide)) rfl T.g_check_book T.F_check_book.kp T.b_check_book .nil pass0 (pa_cons (pv 0) pa_nil)))
  (pss_cons (ps_expr (pe_call (ok_check_book T) (hr.mono (by decide)) rfl T.g_check_book T.F_check_book.kp T.b_check_book .nil pass0 (pa_cons (pv 1) pa_nil)))
  (pss_cons (Rw.ps_setDc (i := 2) (own := [("watch", 3)]) (g := gName 3) (tt := tYes) rfl sc_rules_for.nd rfl rfl (Rw.sw_dc rfl rfl rfl (by decide +kernel)) (pi_tup (pe_fld (pv 1) rfl)) (blkOk_by (own := [("watch", 3)]) (N := ["one", "other", "rules", "watch", "steps"]) (sc := defScope s_rules_for) (by decide +kernel)) (fun _ _ _ _ _ => (pg_name (i := 3) sc_rules_for.nd rfl (.inl rfl))) (fun _ _ _ _ _ => pts_nil) (fun _ _ _ _ _ => (pv 3)) (fun _ _ _ _ _ => (pe_call (ok_rule_by T) (hr.mono (by decide)) rfl T.g_rule_by T.F_rule_by.kp T.b_rule_by .nil pass0 (pa_cons (pe_fld (pv 0) rfl : PE _ _ (tFld K _ _)) (pa_cons (pv 3) pa_nil)))))
  (pss_one (ps_ret (pe_lock (pe_dc (own := [("watch", 3), ("steps", 4)]) (g := gTup K 2 (gCons (gName 3) (gCons (gName 4) gNil)))  rfl sc_rules_for.nd (pi_items (pv 2)) (blkOk_by (own := [("watch", 3), ("steps", 4)]) (N := ["one", "other", "rules", "watch", "steps"]) (sc := defScope s_rules_for) (by decide +kernel)) (fun _ _ _ _ _ => (pg_tup rfl (pgs_cons (pg_name (i := 3) sc_rules_for.nd rfl (.inl rfl)) (pgs_cons (pg_name (i := 4) sc_rules_for.nd rfl (.inl rfl)) pgs_nil)))) (fun _ _ _ _ _ => pts_one (pt_cmpR op_notN (pv 4) pe_non (nomark _))) (fun _ _ _ _ _ => (pv 3)) (fun _ _ _ _ _ => (pv 4))))))))), ?_⟩
    walk_at "rd"
    refine ⟨a, ws, rfl, hA, ?_⟩
    walk_at "rd"
    refine ⟨b, us, rfl, hB, ?_⟩
    walk_at "rd"
    obtain ⟨dx, t, ha, ht⟩ := id hA
    obtain ⟨dx2, t2, hb, ht2⟩ := id hB
    have wl := Wt.l1
    have ul := Ut.l1
    refine Rd.fld hb T.cl_Book T.na_Book_watches rfl ?_
    walk_at "rd"
    refine ⟨⟨_, .of ht2⟩, Rw.dcS walk_tup (fun _ s => .of (s _ _ ht2)) (fun D i kvs Hc => ∃ es : List (Str × V), kvs = es.map (fun e => (.inr e.1, e.2)) ∧ es.map (·.1) = us.take i ∧ ∀ e ∈ es, Rule H Hc ws e.1 e.2) (fun _ _ _ _ _ => ⟨[], rfl, rfl, fun e h => by simp at h⟩) ?_ ?_⟩
    · rintro D i x H1 _ kvs nD hi hD sm ⟨es, rfl, hes, hr⟩ ⟨rfl, hx⟩
      obtain ⟨W, hW, rfl⟩ := Rd.map_strG hx
      have WL := Ut.ok W (List.mem_of_getElem? hW)
      have w1 := WL.l1
      walk_at "rd"
      refine ⟨rfl, Rd.tyes ?_⟩
      walk_at "rd"
      refine Rd.fld (sm _ _ ha) T.cl_Book T.na_Book_watches rfl ?_
      walk_at "rd"
      refine ⟨t, ws, W, rfl, .inr (.of (sm _ _ ht)), fun V m => ⟨(Wt.ok V m).l0, by have := (Wt.ok V m).l1; omega⟩, by omega, by omega, fun r H2 s2 ru => ?_⟩
      have hn : (Sum.inr W : Key) ∉ (es.map fun e => ((.inr e.1 : Key), e.2)).map (·.1) := by
        rw [List.map_map]
        intro q
        obtain ⟨e, he, q⟩ := List.mem_map.mp q
        have : e.1 = W := Sum.inr.inj q
        have m : W ∈ us.take i := by rw [← hes, ← this]; exact List.mem_map.mpr ⟨e, he, rfl⟩
        exact Rd.nodup_take Ut.nd hW m
      refine Rw.dcPut (k := .inr W) (s2 _ _ hD) nD (sm.trans s2) ?_ fun G g off => ?_
      · have : es.length = (us.take i).length := by rw [← hes, List.length_map]
        rw [List.length_map, this, List.length_take, sizeLine_eq]
        omega
      have sG : ∀ (e : Str × V), Rule H H2 ws e.1 e.2 → Rule H G ws e.1 e.2 := fun e q => q.imp id fun ⟨q, P, h1, h2, h3, h4⟩ => ⟨q, P, h1, h2.keep fun c xs q => by rw [off c (ne_of q (s2 _ _ hD) (fun z => nomatch z))]; exact q, h3, h4⟩
      rw [putK_new hn]
      refine ⟨es ++ [(W, r)], by rw [List.map_append]; rfl, by rw [List.map_append, hes, Rd.take_snoc hW]; rfl, fun e he => sG e ?_⟩
      rcases List.mem_append.mp he with he | he
      · exact (hr e he).imp id fun ⟨q, P, h1, h2, h3, h4⟩ => ⟨q, P, h1, h2.same s2, h3, h4⟩
      · simp at he
        subst he
        exact ru.imp id fun ⟨q, P, h1, h2, h3, h4⟩ => ⟨q, P, h1, h2, sm.free h3, h4⟩
    · rintro d kvs H1 nd hd sm ⟨es, rfl, hes, hr⟩
      rw [List.length_map, List.take_length] at hes
      walk_at "rd"
      refine Rw.lockE hd trivial fun od G gd off => ?_
      walk_at "rd"
      refine Rw.itemsX gd ?_
      have sHG : Same H G := Rd.same_off sm nd off
      have len : (es.map fun e => ((.inr e.1 : Key), e.2)).length = es.length := List.length_map _
      refine Rw.dcS walk_items (fun _ s => s _ _ gd) (fun D i kvs Hc => ∃ fs : List (Str × Addr × List Nat), kvs = fs.map ent ∧ fs.map (·.1) = toldOf ws (us.take i) ∧ ∀ e ∈ fs, StepsAt Hc e.2.1 (stepsOf e.1 e.2.2) ∧ Mz.Gr (Mw.Adj ws e.1) e.1.length 0 e.2.2) (fun _ _ _ _ _ => ⟨[], rfl, rfl, fun e h => by simp at h⟩) ?_ ?_
      · rintro D i x H2 _ kvs2 nD hi hD s2 ⟨fs, rfl, hfs, hf⟩ ⟨T', x', y', rfl, hT, rfl, hx, hy⟩
        rw [len] at hi
        have he : es[i]? = some es[i] := List.getElem?_eq_getElem hi
        have hWi : us[i]? = some (es[i]).1 := by
          have := congrArg (·[i]?) hes
          simpa [he] using this.symm
        have hru := hr es[i] (List.getElem_mem hi)
        dsimp only at hx hy
        rw [List.getElem?_map, he] at hx hy
        have ex : x' = .str (es[i]).1 := (Option.some.inj hx).symm
        have ey : y' = (es[i]).2 := (Option.some.inj hy).symm
        generalize es[i] = e0 at hWi hru ex ey
        obtain ⟨W, v⟩ := e0
        simp only at hWi hru ex ey
        subst ex ey
        have sT := Rd.same_upd (o := .tup [.str W, y']) hT
        have gT : upd H2 T' (.tup [.str W, y']) T' = some (.tup [.str W, y']) := upd_same
        generalize upd H2 T' (.tup [.str W, y']) = H3 at sT gT
        have step := toldOf_step (ws := ws) hWi
        refine Rd.tupT (.of gT) rfl ?_
        walk_at "rd"
        refine ⟨rfl, ?_⟩
        walk_at "rd"
        refine ⟨rfl, ?_⟩
        rcases hru with ⟨rfl, nt⟩ | ⟨q, P, rfl, hq, nq, g⟩
        · walk_at "rd"
          refine Rd.ifN ?_
          walk_at "rd"
          refine ⟨_, sT _ _ hD, s2.trans sT, fs, rfl, by rw [hfs, step, if_neg nt, List.append_nil], fun e m => ⟨(hf e m).1.same sT, (hf e m).2⟩⟩
        · walk_at "rd"
          refine Rd.ifR ?_
          walk_at "rd"
          have hq3 : StepsAt H3 q (stepsOf W P) := (hq.keep fun c xs z => by rw [off c (ne_of z hd (fun z => nomatch z))]; exact z).same (s2.trans sT)
          have tt : Mw.Told ws W := gr_told g
          have hn : (Sum.inr W : Key) ∉ (fs.map ent).map (·.1) := by
            rw [List.map_map]
            intro z
            obtain ⟨e, he, z⟩ := List.mem_map.mp z
            have : e.1 = W := Sum.inr.inj z
            have m : W ∈ toldOf ws (us.take i) := by rw [← hfs, ← this]; exact List.mem_map.mpr ⟨e, he, rfl⟩
            exact Rd.nodup_take Ut.nd hWi (toldOf_mem.mp m).1
          refine Rw.dcPut (k := .inr W) (sT _ _ hD) nD (s2.trans sT) ?_ fun G2 g2 off2 => ?_
          · have l1 : fs.length = (toldOf ws (us.take i)).length := by rw [← hfs, List.length_map]
            have l2 := List.length_filter_le (fun W => @decide (Mw.Told ws W) (Classical.propDecidable _)) (us.take i)
            have l3 : (toldOf ws (us.take i)).length ≤ (us.take i).length := l2
            rw [List.length_take] at l3
            rw [List.length_map, sizeLine_eq]
            omega
          have kp : ∀ c xs, H3 c = some (.tup xs) → G2 c = some (.tup xs) := fun c xs z => by rw [off2 c (ne_of z (sT _ _ hD) (fun z => nomatch z))]; exact z
          rw [putK_new hn]
          refine ⟨fs ++ [(W, q, P)], by rw [List.map_append]; rfl, by rw [List.map_append, hfs, step, if_pos tt]; rfl, fun e he => ?_⟩
          rcases List.mem_append.mp he with he | he
          · exact ⟨((hf e he).1.same sT).keep kp, (hf e he).2⟩
          · simp at he
            subst he
            exact ⟨hq3.keep kp, g⟩
      · rintro D kvs2 H2 nD hD s2 ⟨fs, rfl, hfs, hf⟩
        rw [len, show es.length = us.length by rw [← hes, List.length_map], List.take_length] at hfs
        have gd2 := s2 _ _ gd
        refine ⟨gd2, ?_⟩
        have dD : D ≠ d := fun e => by rw [e, gd] at nD; cases nD
        refine k D fs _ (fun c o z => ?_) (sHG.free nD) ?_ ⟨hfs, fun e m => ⟨(hf e m).1.keep fun c xs z => ?_, (hf e m).2⟩⟩
        · rw [upd_ne (ne_of_none z nd)]
          exact s2 _ _ (sHG _ _ z)
        · rw [upd_ne dD]
          exact hD
        · rw [upd_ne (ne_of z gd2 (fun z => nomatch z))]
          exact z

end
end W

namespace W
open PySem PySem.Spec PyProof.Rows L2
section
variable {P : Program} {w : World} {K : PySem.W.Frag} {mg : Str → Option Value} {base : Heap}
/-! ### a book tells a book -/
def sp_tells_book (K : PySem.W.Frag) (C : Addr) : Sp := fun vs H Q _ => ∃ (a b : Addr) (ws zs : List Str), vs = [.ref a, .ref b] ∧ BookAt C H a ws ∧ BookAt C H b zs ∧ Watches ws ∧ Watches zs ∧ ∀ (b : Bool) H', Same H H' → (b = true ↔ ∀ z ∈ zs, Mw.Told ws z) → Q (.bl b) H'
theorem Watches.small {ws : List Str} (h : Watches ws) : ∀ W ∈ ws, 1 ≤ W.length ∧ W.length ≤ 1000 := fun W m => ⟨(h.ok W m).l0, by have := (h.ok W m).l1; omega⟩
theorem ok_tells_book (T : Txt K mg) : FnOk P w K mg base CX0 5 T.f_tells_book T.fd_tells_book ["one", "other"] (sp_tells_book K T.C_Book) := by
  refine T.F_tells_book.ok sc_tells_book (fun vs H Q E h => ?_) (fun cdv A outer s H vs Q E hr h => ?_)
  · obtain ⟨a, b, ws, zs, rfl, _⟩ := h
    rfl
  · obtain ⟨a, b, ws, zs, rfl, hA, hB, La, Lb, k⟩ := h
    refine ⟨_, (pss_cons (ps_expr (pe_call (ok_check_book T) (hr.mono (by decide)) rfl T.g_check_book T.F_check_book.kp T.b_check_book .nil pass0 (pa_cons (pv 0) pa_nil)))
  (pss_cons (ps_expr (pe_call (ok_check_book T) (hr.mono (by decide)) rfl T.g_check_book T.F_check_book.kp T.b_check_book .nil pass0 (pa_cons (pv 1) pa_nil)))
  (pss_one (ps_ret (pe_call (ok_leads_all T) (hr.mono (by decide)) rfl T.g_leads_all T.F_leads_all.kp T.b_leads_all .nil pass0 (pa_cons (pe_fld (pv 0) rfl) (pa_cons (pe_fld (pv 1) rfl) pa_nil))))))), ?_⟩
    walk_at "rd"
    refine ⟨a, ws, rfl, hA, ?_⟩
    walk_at "rd"
    refine ⟨b, zs, rfl, hB, ?_⟩
    walk_at "rd"
    obtain ⟨dx, t, hb1, ht1⟩ := hA
    obtain ⟨dx2, t2, hb2, ht2⟩ := hB
    refine Rd.fld hb1 T.cl_Book T.na_Book_watches rfl ?_
    walk_at "rd"
    refine Rd.fld hb2 T.cl_Book T.na_Book_watches rfl ?_
    walk_at "rd"
    have l1 := La.l1
    have l2 := Lb.l1
    exact ⟨t, t2, ws, zs, rfl, .inr (.of ht1), La.small, by omega, .inr (.of ht2), fun z h => (Lb.small z h).2, by omega, k⟩

end
end W

namespace W
open PySem PySem.Spec PyProof.Rows L2
section
variable {P : Program} {w : World} {K : PySem.W.Frag} {mg : Str → Option Value} {base : Heap}
/-! ### words and watches drawn -/
theorem but_off {t l : Addr} {H H1 G : Hp} (b : Rd.But t H H1) (n : H l = none) (off : ∀ q, q ≠ l → G q = H1 q) : Rd.But t H G := fun q o h e => by rw [off q (ne_of_none e n)]; exact b q o h e
theorem cut_toI {xs : List V} {m : Int} (h : 0 ≤ m) : cutV xs none (some m) = xs.take m.toNat := by
  have e : HT.sIx xs.length xs.length (some m) = min m.toNat xs.length := by
    have := HT.sIx_nat xs.length xs.length m.toNat
    rw [show ((m.toNat : Nat) : Int) = m by omega] at this
    exact this
  have e0 : HT.sIx xs.length 0 none = 0 := rfl
  unfold cutV
  rw [e, e0, List.drop_zero, Nat.sub_zero]
  rcases Nat.le_total m.toNat xs.length with l | l
  · rw [Nat.min_eq_left l]
  · rw [Nat.min_eq_right l, List.take_length, List.take_of_length_le l]
def sp_l_letters (K : PySem.W.Frag) : Sp := fun vs H Q _ => ∃ t c : Addr, vs = [.ref t] ∧ Tape H t c ∧ ∀ (z : Str) H', Lt.Let z → 1 ≤ z.length → z.length ≤ 3 → Tape H' t c → Rd.But t H H' → Q (.str z) H'
def sp_l_word (K : PySem.W.Frag) : Sp := fun vs H Q _ => ∃ (t c : Addr) (L : Str) (lo hi : Int), vs = [.ref t, .str L, .int lo, .int hi] ∧ Tape H t c ∧ Lt.Let L ∧ 1 ≤ L.length ∧ L.length ≤ 1000 ∧ 0 ≤ lo ∧ lo ≤ hi ∧ hi ≤ 1000 ∧ ∀ (z : Str) H', Lt.Let z → lo ≤ (z.length : Int) → (z.length : Int) ≤ hi → Tape H' t c → Rd.But t H H' → Q (.str z) H'
def sp_l_piece (K : PySem.W.Frag) : Sp := fun vs H Q _ => ∃ (t c : Addr) (z : Str), vs = [.ref t, .str z] ∧ Tape H t c ∧ Lt.Let z ∧ 1 ≤ z.length ∧ z.length ≤ 1000 ∧ ∀ (y : Str) H', Lt.Wd 12 y → Tape H' t c → Rd.But t H H' → Q (.str y) H'
def sp_l_pathed (K : PySem.W.Frag) : Sp := fun vs H Q _ => ∃ (t c : Addr) (z : Str), vs = [.ref t, .str z] ∧ Tape H t c ∧ Lt.Let z ∧ z.length ≤ 1000 ∧ ∀ (l : Addr) (ws : List Str) H', Tape H' t c → Rd.But t H H' → H l = none → H' l = some (.lst (ws.map V.str)) → ws.Nodup → ws.length ≤ 8 → (∀ y ∈ ws, Lt.Wd 12 y) → Q (.ref l) H'
def sp_l_watches (K : PySem.W.Frag) : Sp := fun vs H Q _ => ∃ (t c : Addr) (z L : Str) (most : Int), vs = [.ref t, .str z, .str L, .int most] ∧ Tape H t c ∧ Lt.Let z ∧ 1 ≤ z.length ∧ z.length ≤ 1000 ∧ Lt.Let L ∧ 1 ≤ L.length ∧ L.length ≤ 1000 ∧ 0 ≤ most ∧ most ≤ 12 ∧ ∀ (l : Addr) (ws : List Str) H', Tape H' t c → Rd.But t H H' → H l = none → H' l = some (.lst (ws.map V.str)) → Watches ws → (ws.length : Int) ≤ most → Q (.ref l) H'
theorem abc_get {i : Int} (h0 : 0 ≤ i) (h1 : i < 26) : ∃ c, atI Lt.Abc.cps.toList i = some c ∧ c ∈ Lt.Abc.cps.toList := by
  have l : Lt.Abc.cps.toList.length = 26 := by decide +kernel
  have hi : i.toNat < Lt.Abc.cps.toList.length := by omega
  exact ⟨_, Rd.atI_of h0 (List.getElem?_eq_getElem hi), List.getElem_mem hi⟩
theorem let_get {z : Str} (h : Lt.Let z) {i : Int} (h0 : 0 ≤ i) (h1 : i < z.length) : ∃ c, atI z.cps.toList i = some c ∧ c ∈ Lt.Abc.cps.toList := by
  have hi : i.toNat < z.cps.toList.length := by rw [Array.length_toList]; unfold Str.length at h1; omega
  exact ⟨_, Rd.atI_of h0 (List.getElem?_eq_getElem hi), h _ (List.getElem_mem hi)⟩
theorem ok_l_letters (T : Txt K mg) : FnOk P w K mg base CX0 2 T.f_l_letters T.fd_l_letters ["_law_tape_here"] (sp_l_letters K) := by
  refine T.F_l_letters.ok sc_l_letters (fun vs H Q E h => ?_) (fun cdv A outer s H vs Q E hr h => ?_)
  · obtain ⟨t, c, rfl, _⟩ := h
    rfl
  · obtain ⟨t, c, rfl, tp, k⟩ := h
    refine ⟨_, (pss_cons (ps_set (i := 1) sc_l_letters.nd rfl (.inl rfl) pe_str)
  (pss_cons (ps_set (i := 2) sc_l_letters.nd rfl (.inl rfl) (pe_call (ok_l_pick T) (hr.mono (by decide)) rfl T.g_l_pick T.F_l_pick.kp T.b_l_pick .nil pass0 (pa_cons (pv 0) (pa_cons pe_int pa_nil))))
  (pss_cons (ps_set (i := 3) sc_l_letters.nd rfl (.inl rfl) (pe_ix (r := rIxL K) ix_list (pe_lst (pa_cons pe_int (pa_cons pe_int (pa_cons pe_int (pa_cons pe_int (pa_cons pe_int (pa_cons pe_int (pa_cons pe_int (pa_cons pe_int pa_nil))))))))) (pe_call (ok_l_pick T) (hr.mono (by decide)) rfl T.g_l_pick T.F_l_pick.kp T.b_l_pick .nil pass0 (pa_cons (pv 0) (pa_cons pe_int pa_nil))) (fun _ _ => rfl)))
  (pss_cons (ps_set (i := 4) sc_l_letters.nd rfl (.inl rfl) pe_str)
  (pss_cons (ps_for PassesOwn.never rfl (pi_range1 rfl T.n_range (pa_cons (pe_op op_add pe_int (pe_call (ok_l_pick T) (hr.mono (by decide)) rfl T.g_l_pick T.F_l_pick.kp T.b_l_pick .nil pass0 (pa_cons (pv 0) (pa_cons pe_int pa_nil)))) pa_nil)) (pg_name (i := 5) sc_l_letters.nd rfl (.inl rfl))
  (pss_one (ps_set (i := 4) sc_l_letters.nd rfl (.inl rfl) (pe_op Rd.o_addS (pv 4) (pe_ix ix_str (pv 1) (pe_op op_mod (pe_callTy (T := "int") (r := _) Rd.c_int (by rfl) T.n_int (by decide +kernel) (pa_cons (pe_op op_add (pv 2) (pe_op op_mul (pv 3) (pv 5))) pa_nil)) pe_int) (fun _ _ => rfl))))))
  (pss_one (ps_ret (pv 4)))))))), ?_⟩
    walk_at "rd"
    refine pickR tp (by decide) (by decide) fun st H1 st0 st1 tp1 b1 => ?_
    walk_at "rd"
    refine ⟨Nat.le_of_ble_eq_true rfl, Rd.new fun p G2 np gp s2 => ?_⟩
    walk_at "rd"
    refine pickR (tp1.same s2) (by decide) (by decide) fun sp H3 sp0 sp1 tp3 b3 => ?_
    have pt : p ≠ t := (tp1.new np).1
    obtain ⟨step, hm, m0, m1⟩ : ∃ m, [V.int 1, .int 3, .int 5, .int 7, .int 9, .int 11, .int 15, .int 17][sp.toNat]? = some (.int m) ∧ 1 ≤ m ∧ m ≤ 17 := by
      have : sp.toNat = 0 ∨ sp.toNat = 1 ∨ sp.toNat = 2 ∨ sp.toNat = 3 ∨ sp.toNat = 4 ∨ sp.toNat = 5 ∨ sp.toNat = 6 ∨ sp.toNat = 7 := by omega
      rcases this with e | e | e | e | e | e | e | e <;> rw [e] <;> exact ⟨_, rfl, by decide, by decide⟩
    refine Rd.ixL (.of (b3 p _ pt gp)) (Rd.atI_of sp0 hm) ?_
    walk_at "rd"
    refine Rd.forS ?_
    walk_at "rd"
    refine pickR tp3 (by decide) (by decide) fun r H4 r0 r1 tp4 b4 => ?_
    walk_at "rd"
    refine ⟨by omega, by omega, ?_⟩
    refine for_range (lo := 0) (n := (1 + r).toNat) (fun i σ H' => ∃ (z : Str) (o : Option V), σ = [some (.ref t), some (.str Lt.Abc), some (.int st), some (.int step), some (.str z), o] ∧ Lt.Let z ∧ z.length = i ∧ H' = H4)
      ⟨"", none, rfl, Lt.Let.empty, rfl, rfl⟩ ?_ ?_
    · rintro i _ H' hi ⟨z, o, rfl, hz, zl, rfl⟩
      walk_at "rd"
      refine Rd.iC (.inl ⟨by omega, by omega⟩) ?_
      walk_at "rd"
      refine Rd.iC (by decide) ?_
      obtain ⟨ch, e, hc⟩ := abc_get (i := (st + step * (0 + (i : Int))) % 26) (Int.emod_nonneg _ (by decide)) (Int.emod_lt_of_pos _ (by decide))
      refine Rd.ixS (by decide +kernel) e ?_
      refine Rd.addS (by rw [sizeLine_eq]; show z.length + 1 ≤ _; omega) ?_
      walk_at "rd"
      refine ⟨_, _, rfl, hz.app (Lt.Let.one hc), ?_, rfl⟩
      rw [Lt.len_app, zl]
      rfl
    · rintro _ H' ⟨z, o, rfl, hz, zl, rfl⟩
      walk_at "rd"
      exact k z _ hz (by omega) (by omega) tp4 (((b1.same s2).trans b3).trans b4)
theorem ok_l_word (T : Txt K mg) : FnOk P w K mg base CX0 2 T.f_l_word T.fd_l_word ["_law_tape_here", "_law_letters_here", "_law_least", "_law_most"] (sp_l_word K) := by
  refine T.F_l_word.ok sc_l_word (fun vs H Q E h => ?_) (fun cdv A outer s H vs Q E hr h => ?_)
  · obtain ⟨t, c, L, lo, hi, rfl, _⟩ := h
    rfl
  · obtain ⟨t, c, L, lo, hi, rfl, tp, hL, L0, L1, a0, a1, a2, k⟩ := h
    refine ⟨_, (pss_cons (ps_set (i := 4) sc_l_word.nd rfl (.inl rfl) pe_str)
  (pss_cons (ps_for PassesOwn.never rfl (pi_range1 rfl T.n_range (pa_cons (pe_op op_add (pv 2) (pe_call (ok_l_pick T) (hr.mono (by decide)) rfl T.g_l_pick T.F_l_pick.kp T.b_l_pick .nil pass0 (pa_cons (pv 0) (pa_cons (pe_op op_add (pe_op op_sub (pv 3) (pv 2)) pe_int) pa_nil)))) pa_nil)) (pg_name (i := 5) sc_l_word.nd rfl (.inl rfl))
  (pss_one (ps_set (i := 4) sc_l_word.nd rfl (.inl rfl) (pe_op Rd.o_addS (pv 4) (pe_ix ix_str (pv 1) (pe_call (ok_l_pick T) (hr.mono (by decide)) rfl T.g_l_pick T.F_l_pick.kp T.b_l_pick .nil pass0 (pa_cons (pv 0) (pa_cons (pe_callB (id := "len") (r := _) Rd.c_lenS (by rfl) T.n_len (by decide +kernel) (pa_cons (pv 1) pa_nil)) pa_nil))) (fun _ _ => rfl))))))
  (pss_one (ps_ret (pv 4))))), ?_⟩
    have Ll : L.length ≤ sizeLine := by rw [sizeLine_eq]; omega
    walk_at "rd"
    refine Rd.forS ?_
    walk_at "rd"
    refine pickR tp (by omega) (by omega) fun r H4 r0 r1 tp4 b4 => ?_
    walk_at "rd"
    refine ⟨by omega, by omega, ?_⟩
    refine for_range (lo := 0) (n := (lo + r).toNat) (fun i σ H' => ∃ (z : Str) (o : Option V), σ = [some (.ref t), some (.str L), some (.int lo), some (.int hi), some (.str z), o] ∧ Lt.Let z ∧ z.length = i ∧ Tape H' t c ∧ Rd.But t H H')
      ⟨"", none, rfl, Lt.Let.empty, rfl, tp4, b4⟩ ?_ ?_
    · rintro i _ H' hi ⟨z, o, rfl, hz, zl, tp5, b5⟩
      walk_at "rd"
      refine Rd.lenStr Ll ?_
      walk_at "rd"
      refine pickR tp5 (by omega) (by omega) fun r2 H6 r20 r21 tp6 b6 => ?_
      walk_at "rd"
      obtain ⟨ch, e, hc⟩ := let_get hL r20 r21
      refine Rd.ixS Ll e ?_
      refine Rd.addS (by rw [sizeLine_eq]; show z.length + 1 ≤ _; omega) ?_
      walk_at "rd"
      refine ⟨_, _, rfl, hz.app (Lt.Let.one hc), ?_, tp6, b5.trans b6⟩
      rw [Lt.len_app, zl]
      rfl
    · rintro _ H' ⟨z, o, rfl, hz, zl, tp5, b5⟩
      walk_at "rd"
      exact k z _ hz (by omega) (by omega) tp5 b5
theorem ok_l_piece (T : Txt K mg) : FnOk P w K mg base CX0 2 T.f_l_piece T.fd_l_piece ["_law_tape_here", "_law_word_here"] (sp_l_piece K) := by
  refine T.F_l_piece.ok sc_l_piece (fun vs H Q E h => ?_) (fun cdv A outer s H vs Q E hr h => ?_)
  · obtain ⟨t, c, z, rfl, _⟩ := h
    rfl
  · obtain ⟨t, c, z, rfl, tp, hz, z0, z1, k⟩ := h
    refine ⟨_, (pss_cons (ps_set (i := 2) sc_l_piece.nd rfl (.inl rfl) (pe_call (ok_l_pick T) (hr.mono (by decide)) rfl T.g_l_pick T.F_l_pick.kp T.b_l_pick .nil pass0 (pa_cons (pv 0) (pa_cons (pe_callB (id := "len") (r := _) Rd.c_lenS (by rfl) T.n_len (by decide +kernel) (pa_cons (pv 1) pa_nil)) pa_nil))))
  (pss_cons (ps_set (i := 3) sc_l_piece.nd rfl (.inl rfl) (pe_op op_add pe_int (pe_call (ok_l_pick T) (hr.mono (by decide)) rfl T.g_l_pick T.F_l_pick.kp T.b_l_pick .nil pass0 (pa_cons (pv 0) (pa_cons (pe_callB (id := "min") (r := _) (Rd.c_min2 rfl) (by rfl) T.n_min (by decide +kernel) (pa_cons (pe_op op_sub (pe_callB (id := "len") (r := _) Rd.c_lenS (by rfl) T.n_len (by decide +kernel) (pa_cons (pv 1) pa_nil)) (pv 2)) (pa_cons pe_int pa_nil))) pa_nil)))))
  (pss_one (ps_ret (pe_slice sl_str (pv 1) (po_some (pv 2)) (po_some (pe_op op_add (pv 2) (pv 3)))))))), ?_⟩
    have zl : z.length ≤ sizeLine := by rw [sizeLine_eq]; omega
    walk_at "rd"
    refine Rd.lenStr zl ?_
    walk_at "rd"
    refine pickR tp (by omega) (by omega) fun st H1 st0 st1 tp1 b1 => ?_
    walk_at "rd"
    refine Rd.lenStr zl ?_
    walk_at "rd"
    refine pickR tp1 (by omega) (by omega) fun sz H2 sz0 sz1 tp2 b2 => ?_
    walk_at "rd"
    refine Rd.slS zl ?_
    walk_at "rd"
    have e := Lt.cut_lenI (z := z) (a := st) (b := st + (1 + sz)) st0 (by omega) (by omega)
    exact k _ _ ⟨hz.cut _ _, by omega, by omega⟩ tp2 (b1.trans b2)
theorem ok_l_pathed (T : Txt K mg) : FnOk P w K mg base CX0 2 T.f_l_pathed T.fd_l_pathed ["_law_tape_here", "_law_word_here"] (sp_l_pathed K) := by
  refine T.F_l_pathed.ok sc_l_pathed (fun vs H Q E h => ?_) (fun cdv A outer s H vs Q E hr h => ?_)
  · obtain ⟨t, c, z, rfl, _⟩ := h
    rfl
  · obtain ⟨t, c, z, rfl, tp, hz, z1, k⟩ := h
    refine ⟨_, (pss_cons (ps_set (i := 2) sc_l_pathed.nd rfl (.inl rfl) (pe_lst pa_nil))
  (pss_cons (ps_set (i := 3) sc_l_pathed.nd rfl (.inl rfl) pe_int)
  (pss_cons (ps_for PassesOwn.never rfl (pi_range1 rfl T.n_range (pa_cons pe_int pa_nil)) (pg_name (i := 4) sc_l_pathed.nd rfl (.inl rfl))
  (pss_cons (ps_set (i := 5) sc_l_pathed.nd rfl (.inl rfl) (pe_call (ok_l_pick T) (hr.mono (by decide)) rfl T.g_l_pick T.F_l_pick.kp T.b_l_pick .nil pass0 (pa_cons (pv 0) (pa_cons (pe_op op_add (pe_callB (id := "len") (r := _) Rd.c_lenS (by rfl) T.n_len (by decide +kernel) (pa_cons (pv 1) pa_nil)) pe_int) pa_nil))))
  (C8.pss_cut (ps_if (PW.pt (pw_or (pt_cmpR op_eq (pv 4) pe_int (nomark _)) (pw_or1 (pt_cmpR op_eq (pe_call (ok_l_pick T) (hr.mono (by decide)) rfl T.g_l_pick T.F_l_pick.kp T.b_l_pick .nil pass0 (pa_cons (pv 0) (pa_cons pe_int pa_nil))) pe_int (nomark _)))))
  (pss_one (ps_set (i := 5) sc_l_pathed.nd rfl (.inl rfl) (pe_callB (id := "len") (r := _) Rd.c_lenS (by rfl) T.n_len (by decide +kernel) (pa_cons (pv 1) pa_nil))))
  pss_nil)
  (C8.pss_cut (ps_if (pt_cmpR op_gt (pe_op op_sub (pv 5) (pv 3)) pe_int (nomark _))
  (pss_one (ps_set (i := 5) sc_l_pathed.nd rfl (.inl rfl) (pe_op op_add (pv 3) pe_int)))
  pss_nil)
  (C8.pss_cut (ps_if (pt_cmpR op_gt (pe_op op_sub (pv 3) (pv 5)) pe_int (nomark _))
  (pss_one (ps_set (i := 5) sc_l_pathed.nd rfl (.inl rfl) (pe_op op_sub (pv 3) pe_int)))
  pss_nil)
  (pss_cons (ps_set (i := 6) sc_l_pathed.nd rfl (.inl rfl) (pe_slice sl_str (pv 1) (po_some (pe_callB (id := "min") (r := _) (Rd.c_min2 rfl) (by rfl) T.n_min (by decide +kernel) (pa_cons (pv 3) (pa_cons (pv 5) pa_nil)))) (po_some (pe_callB (id := "max") (r := _) (Rd.c_max2 rfl) (by rfl) T.n_max (by decide +kernel) (pa_cons (pv 3) (pa_cons (pv 5) pa_nil))))))
  (C8.pss_cut (ps_if (PW.pt (pw_and (pt_cmpR op_ne (pv 6) pe_str (nomark _)) (pw_and1 (pt_cmpR (r := rIn K true) op_notIn_seq (pv 6) (pv 2) (by rfl)))))
  (pss_one (ps_expr (pe_bm PySem.F.plainAttrs_list PySem.F.slot_list_append PySem.F.type_list_append mt_append (pv 2) (pa_cons (pv 6) pa_nil))))
  pss_nil)
  (pss_cons (ps_set (i := 3) sc_l_pathed.nd rfl (.inl rfl) (pv 5))
  (pss_one (ps_if (pt_cmpR op_eq (pv 3) (pe_callB (id := "len") (r := _) Rd.c_lenS (by rfl) T.n_len (by decide +kernel) (pa_cons (pv 1) pa_nil)) (nomark _))
  (pss_one ps_break)
  pss_nil))))))))))
  (pss_one (ps_ret (pv 2)))))), ?_⟩
    have zl : z.length ≤ sizeLine := by rw [sizeLine_eq]; omega
    walk_at "rd"
    refine ⟨Nat.zero_le _, Rd.new fun l G0 nl gl s0 => ?_⟩
    have ⟨lt, lc⟩ := tp.new nl
    walk_at "rd"
    refine Rd.forS ?_
    walk_at "rd"
    refine ⟨by decide, by decide, ?_⟩
    refine for_range (lo := 0) (n := 8) (fun i σ H' => ∃ (ws : List Str) (spot : Int) (o1 o2 o3 : Option V), σ = [some (.ref t), some (.str z), some (.ref l), some (.int spot), o1, o2, o3] ∧ 0 ≤ spot ∧ spot ≤ z.length ∧ Tape H' t c ∧ Rd.But t H H' ∧ H' l = some (.lst (ws.map V.str)) ∧ ws.Nodup ∧ ws.length ≤ i ∧ ∀ y ∈ ws, Lt.Wd 12 y)
      ⟨[], 0, none, none, none, rfl, by decide, by omega, tp.same s0, Rd.But.of s0, gl, .nil, Nat.le_refl _, fun _ h => by simp at h⟩ ?_ ?_
    · rintro i _ H1 hi ⟨ws, spot, o1, o2, o3, rfl, p0, p1, tp1, b1, gl1, nd, wl, hw⟩
      walk_at "rd"
      refine Rd.lenStr zl ?_
      walk_at "rd"
      refine pickR tp1 (by omega) (by omega) fun ot H2 ot0 ot1 tp2 b2 => ?_
      have gl2 := b2 l _ lt gl1
      walk_at "rd"
      refine Rd.cut (fun σ H' => ∃ ot : Int, σ = [some (.ref t), some (.str z), some (.ref l), some (.int spot), some (.int (0 + (i : Int))), some (.int ot), o3] ∧ 0 ≤ ot ∧ ot ≤ z.length ∧ Tape H' t c ∧ Rd.But t H H' ∧ H' l = some (.lst (ws.map V.str))) ?_ ?_
      · walk_at "rd"
        refine ite2 (fun q => ?_) (fun q => ?_)
        · walk_at "rd"
          refine Rd.lenStr zl ?_
          walk_at "rd"
          exact ⟨_, rfl, by omega, by omega, tp2, b1.trans b2, gl2⟩
        · walk_at "rd"
          refine pickR tp2 (by decide) (by decide) fun r H3 r0 r1 tp3 b3 => ?_
          have gl3 := b3 l _ lt gl2
          walk_at "rd"
          refine ite2 (fun q => ?_) (fun q => ?_)
          · walk_at "rd"
            refine Rd.lenStr zl ?_
            walk_at "rd"
            exact ⟨_, rfl, by omega, by omega, tp3, (b1.trans b2).trans b3, gl3⟩
          · walk_at "rd"
            exact ⟨_, rfl, by omega, by omega, tp3, (b1.trans b2).trans b3, gl3⟩
      · rintro _ H3 ⟨ot, rfl, ot0, ot1, tp3, b3, gl3⟩
        walk_at "rd"
        refine Rd.cut (fun σ H' => ∃ ot : Int, σ = [some (.ref t), some (.str z), some (.ref l), some (.int spot), some (.int (0 + (i : Int))), some (.int ot), o3] ∧ 0 ≤ ot ∧ ot ≤ z.length ∧ ot ≤ spot + 12 ∧ H' = H3) ?_ ?_
        · walk_at "rd"
          refine ite2 (fun q => ?_) (fun q => ?_)
          · walk_at "rd"
            exact ⟨_, rfl, by omega, by omega, by omega, rfl⟩
          · walk_at "rd"
            exact ⟨_, rfl, by omega, by omega, by omega, rfl⟩
        · rintro _ H3 ⟨ot, rfl, ot0, ot1, ot2, rfl⟩
          walk_at "rd"
          refine Rd.cut (fun σ H' => ∃ ot : Int, σ = [some (.ref t), some (.str z), some (.ref l), some (.int spot), some (.int (0 + (i : Int))), some (.int ot), o3] ∧ 0 ≤ ot ∧ ot ≤ z.length ∧ ot ≤ spot + 12 ∧ spot ≤ ot + 12 ∧ H' = H3) ?_ ?_
          · walk_at "rd"
            refine ite2 (fun q => ?_) (fun q => ?_)
            · walk_at "rd"
              exact ⟨_, rfl, by omega, by omega, by omega, by omega, rfl⟩
            · walk_at "rd"
              exact ⟨_, rfl, by omega, by omega, by omega, by omega, rfl⟩
          · rintro _ H3 ⟨ot, rfl, ot0, ot1, ot2, ot3, rfl⟩
            walk_at "rd"
            refine Rd.slS zl ?_
            walk_at "rd"
            have cl := Lt.cut_lenI (z := z) (a := min spot ot) (b := max spot ot) (by omega) (by omega) (by omega)
            have cL := hz.cut (some (min spot ot)) (some (max spot ot))
            generalize cutS z (some (min spot ot)) (some (max spot ot)) = y at cl cL
            refine Rd.cut (fun σ H' => ∃ ws : List Str, σ = [some (.ref t), some (.str z), some (.ref l), some (.int spot), some (.int (0 + (i : Int))), some (.int ot), some (.str y)] ∧ Tape H' t c ∧ Rd.But t H H' ∧ H' l = some (.lst (ws.map V.str)) ∧ ws.Nodup ∧ ws.length ≤ i + 1 ∧ ∀ y ∈ ws, Lt.Wd 12 y) ?_ ?_
            · walk_at "rd"
              refine ite2 (fun q => ?_) (fun q => ?_)
              · walk_at "rd"
                exact ⟨ws, rfl, tp3, b3, gl3, nd, by omega, hw⟩
              · walk_at "rd"
                refine Rd.inStrsN (.inl (.of gl3)) ?_
                walk_at "rd"
                refine ite2 (fun q2 => ?_) (fun q2 => ?_)
                · walk_at "rd"
                  exact ⟨ws, rfl, tp3, b3, gl3, nd, by omega, hw⟩
                · walk_at "rd"
                  refine Rd.tyL (.of gl3) ?_
                  walk_at "rd"
                  refine Rd.app gl3 (by rw [List.length_map, sizeLine_eq]; omega) fun G4 g4 off4 => ?_
                  walk_at "rd"
                  have y0 := Lt.len_of_ne q
                  refine ⟨ws ++ [y], rfl, tp3.off lt lc off4, but_off b3 nl off4, by rw [List.map_append]; exact g4, ?_, by rw [List.length_append]; exact Nat.succ_le_succ wl, fun x hx => ?_⟩
                  · rw [List.nodup_append]
                    exact ⟨nd, by simp, fun x hx z hz e => q2 (by simp at hz; rw [← hz, ← e]; exact hx)⟩
                  · rcases List.mem_append.mp hx with h | h
                    · exact hw x h
                    · simp at h
                      rw [h]
                      exact ⟨cL, by omega, by omega⟩
            · rintro _ H4 ⟨ws, rfl, tp4, b4, gl4, nd, wl, hw⟩
              walk_at "rd"
              refine Rd.lenStr zl ?_
              walk_at "rd"
              refine ite2 (fun q => ?_) (fun q => ?_)
              · walk_at "rd"
                exact k l ws H4 tp4 b4 nl gl4 nd (by omega) hw
              · walk_at "rd"
                exact ⟨ws, ot, _, _, _, rfl, ot0, ot1, tp4, b4, gl4, nd, wl, hw⟩
    · rintro _ H1 ⟨ws, spot, o1, o2, o3, rfl, p0, p1, tp1, b1, gl1, nd, wl, hw⟩
      walk_at "rd"
      exact k l ws H1 tp1 b1 nl gl1 nd wl hw
theorem ok_l_watches (T : Txt K mg) : FnOk P w K mg base CX0 3 T.f_l_watches T.fd_l_watches ["_law_tape_here", "_law_word_here", "_law_letters_here", "_law_most"] (sp_l_watches K) := by
  refine T.F_l_watches.ok sc_l_watches (fun vs H Q E h => ?_) (fun cdv A outer s H vs Q E hr h => ?_)
  · obtain ⟨t, c, z, L, most, rfl, _⟩ := h
    rfl
  · obtain ⟨t, c, z, L, most, rfl, tp, hz, z0, z1, hL, L0, L1, m0, m1, k⟩ := h
    refine ⟨_, (pss_cons (ps_set (i := 4) sc_l_watches.nd rfl (.inl rfl) (pe_call (ok_l_pick T) (hr.mono (by decide)) rfl T.g_l_pick T.F_l_pick.kp T.b_l_pick .nil pass0 (pa_cons (pv 0) (pa_cons pe_int pa_nil))))
  (pss_cons (ps_set (i := 5) sc_l_watches.nd rfl (.inl rfl) (pe_lst pa_nil))
  (C8.pss_cut (ps_if (PW.pt (pw_and (pt_cmpR op_gt (pv 4) pe_int (nomark _)) (pw_and1 (pt_cmpR op_gt (pe_callB (id := "len") (r := _) Rd.c_lenS (by rfl) T.n_len (by decide +kernel) (pa_cons (pv 1) pa_nil)) pe_int (nomark _)))))
  (pss_one (ps_set (i := 5) sc_l_watches.nd rfl (.inl rfl) (pe_call (ok_l_pathed T) (hr.mono (by decide)) rfl T.g_l_pathed T.F_l_pathed.kp T.b_l_pathed .nil pass0 (pa_cons (pv 0) (pa_cons (pv 1) pa_nil)))))
  pss_nil)
  (C8.pss_cut (ps_if (PW.pt (pw_and (pt_cmpR op_eq (pv 4) pe_int (nomark _)) (pw_and1 (pt_cmpR op_gt (pe_callB (id := "len") (r := Rd.nLen K) Rd.c_len (by rfl) T.n_len (by decide +kernel) (pa_cons (pv 5) pa_nil)) pe_int (nomark _)))))
  (pss_one (ps_expr (pe_bm PySem.F.plainAttrs_list PySem.F.slot_list_pop PySem.F.type_list_pop mt_popAt (pv 5) (pa_cons (pe_call (ok_l_pick T) (hr.mono (by decide)) rfl T.g_l_pick T.F_l_pick.kp T.b_l_pick .nil pass0 (pa_cons (pv 0) (pa_cons (pe_callB (id := "len") (r := Rd.nLen K) Rd.c_len (by rfl) T.n_len (by decide +kernel) (pa_cons (pv 5) pa_nil)) pa_nil))) pa_nil))))
  pss_nil)
  (pss_cons (ps_for PassesOwn.never rfl (pi_range1 rfl T.n_range (pa_cons (pe_call (ok_l_pick T) (hr.mono (by decide)) rfl T.g_l_pick T.F_l_pick.kp T.b_l_pick .nil pass0 (pa_cons (pv 0) (pa_cons pe_int pa_nil))) pa_nil)) (pg_name (i := 6) sc_l_watches.nd rfl (.inl rfl))
  (pss_cons (ps_set (i := 7) sc_l_watches.nd rfl (.inl rfl) (pe_call (ok_l_piece T) (hr.mono (by decide)) rfl T.g_l_piece T.F_l_piece.kp T.b_l_piece .nil pass0 (pa_cons (pv 0) (pa_cons (pv 1) pa_nil))))
  (C8.pss_cut (ps_if (pt_cmpR op_eq (pe_call (ok_l_pick T) (hr.mono (by decide)) rfl T.g_l_pick T.F_l_pick.kp T.b_l_pick .nil pass0 (pa_cons (pv 0) (pa_cons pe_int pa_nil))) pe_int (nomark _))
  (pss_one (ps_set (i := 7) sc_l_watches.nd rfl (.inl rfl) (pe_call (ok_l_word T) (hr.mono (by decide)) rfl T.g_l_word T.F_l_word.kp T.b_l_word .nil pass0 (pa_cons (pv 0) (pa_cons (pv 2) (pa_cons pe_int (pa_cons pe_int pa_nil)))))))
  pss_nil)
  (pss_one (ps_if (pt_cmpR (r := rIn K true) op_notIn_seq (pv 7) (pv 5) (by rfl))
  (pss_one (ps_expr (pe_bm PySem.F.plainAttrs_list PySem.F.slot_list_insert PySem.F.type_list_insert Rd.m_insert (pv 5) (pa_cons (pe_call (ok_l_pick T) (hr.mono (by decide)) rfl T.g_l_pick T.F_l_pick.kp T.b_l_pick .nil pass0 (pa_cons (pv 0) (pa_cons (pe_op op_add (pe_callB (id := "len") (r := Rd.nLen K) Rd.c_len (by rfl) T.n_len (by decide +kernel) (pa_cons (pv 5) pa_nil)) pe_int) pa_nil))) (pa_cons (pv 7) pa_nil)))))
  pss_nil)))))
  (pss_one (ps_ret (pe_slice (r := rSlL K) sl_list (pv 5) po_none (po_some (pv 3)))))))))), ?_⟩
    have zl : z.length ≤ sizeLine := by rw [sizeLine_eq]; omega
    walk_at "rd"
    refine pickR tp (by decide) (by decide) fun kind H1 k0 k1 tp1 b1 => ?_
    walk_at "rd"
    refine ⟨Nat.zero_le _, Rd.new fun l0 G2 nl0 gl0 s2 => ?_⟩
    walk_at "rd"
    -- the list so far: l, not there at first
    refine Rd.cut (fun σ H' => ∃ (l : Addr) (ws : List Str), σ = [some (.ref t), some (.str z), some (.str L), some (.int most), some (.int kind), some (.ref l), none, none] ∧ Tape H' t c ∧ Rd.But t H H' ∧ H l = none ∧ H' l = some (.lst (ws.map V.str)) ∧ ws.Nodup ∧ ws.length ≤ 8 ∧ ∀ y ∈ ws, Lt.Wd 12 y) ?_ ?_
    · have no : ∃ (l : Addr) (ws : List Str), [some (V.ref t), some (.str z), some (.str L), some (.int most), some (.int kind), some (.ref l0), none, none] = [some (.ref t), some (.str z), some (.str L), some (.int most), some (.int kind), some (.ref l), none, none] ∧ Tape G2 t c ∧ Rd.But t H G2 ∧ H l = none ∧ G2 l = some (.lst (ws.map V.str)) ∧ ws.Nodup ∧ ws.length ≤ 8 ∧ ∀ y ∈ ws, Lt.Wd 12 y :=
        ⟨l0, [], rfl, tp1.same s2, b1.same s2, b1.free (tp1.new nl0).1 nl0, gl0, .nil, Nat.zero_le _, fun _ h => by simp at h⟩
      walk_at "rd"
      refine ite2 (fun q => ?_) (fun q => ?_)
      · walk_at "rd"
        refine Rd.lenStr zl ?_
        walk_at "rd"
        refine ite2 (fun q => ?_) (fun q => ?_)
        · walk_at "rd"
          refine ⟨t, c, z, rfl, tp1.same s2, hz, z1, fun l ws H3 tp3 b3 nl gl nd wl hw => ?_⟩
          walk_at "rd"
          have nl1 := s2.free nl
          exact ⟨l, ws, rfl, tp3, (b1.same s2).trans b3, b1.free (tp1.new nl1).1 nl1, gl, nd, wl, hw⟩
        · walk_at "rd"
          exact no
      · walk_at "rd"
        exact no
    · rintro _ H3 ⟨l, ws, rfl, tp3, b3, nl, gl3, nd, wl, hw⟩
      have ⟨lt, lc⟩ := tp.new nl
      walk_at "rd"
      refine Rd.cut (fun σ H' => ∃ (ws : List Str), σ = [some (.ref t), some (.str z), some (.str L), some (.int most), some (.int kind), some (.ref l), none, none] ∧ Tape H' t c ∧ Rd.But t H H' ∧ H' l = some (.lst (ws.map V.str)) ∧ ws.Nodup ∧ ws.length ≤ 8 ∧ ∀ y ∈ ws, Lt.Wd 12 y) ?_ ?_
      · walk_at "rd"
        refine ite2 (fun q => ?_) (fun q => ?_)
        · walk_at "rd"
          refine Rd.len (.inl (.of gl3)) ?_
          rw [List.length_map]
          walk_at "rd"
          refine ite2 (fun q => ?_) (fun q => ?_)
          · walk_at "rd"
            refine Rd.tyL (.of gl3) ?_
            walk_at "rd"
            refine Rd.len (.inl (.of gl3)) ?_
            rw [List.length_map]
            walk_at "rd"
            refine pickR tp3 (by omega) (by omega) fun r H4 r0 r1 tp4 b4 => ?_
            walk_at "rd"
            have gl4 := b4 l _ lt gl3
            have rl : r.toNat < ws.length := by omega
            refine Rd.popAt gl4 r0 (by rw [List.length_map]; omega) (by rw [List.length_map]; omega) (Rd.map_str rl) fun G5 g5 off5 => ?_
            walk_at "rd"
            refine ⟨ws.eraseIdx r.toNat, rfl, tp4.off lt lc off5, but_off (b3.trans b4) nl off5, ?_, nd.sublist (List.eraseIdx_sublist _ _), Nat.le_trans (List.length_eraseIdx_le _ _) wl, fun y hy => hw y (List.mem_of_mem_eraseIdx hy)⟩
            rw [g5]
            congr 2
            simp [List.eraseIdx_eq_take_drop_succ]
          · walk_at "rd"
            exact ⟨ws, rfl, tp3, b3, gl3, nd, wl, hw⟩
        · walk_at "rd"
          exact ⟨ws, rfl, tp3, b3, gl3, nd, wl, hw⟩
      · rintro _ H4 ⟨ws, rfl, tp4, b4, gl4, nd, wl, hw⟩
        walk_at "rd"
        refine Rd.forS ?_
        walk_at "rd"
        refine pickR tp4 (by decide) (by decide) fun r H5 r0 r1 tp5 b5 => ?_
        walk_at "rd"
        refine ⟨by omega, by omega, ?_⟩
        refine for_range (lo := 0) (n := r.toNat) (fun i σ H' => ∃ (ws : List Str) (o1 o2 : Option V), σ = [some (.ref t), some (.str z), some (.str L), some (.int most), some (.int kind), some (.ref l), o1, o2] ∧ Tape H' t c ∧ Rd.But t H H' ∧ H' l = some (.lst (ws.map V.str)) ∧ ws.Nodup ∧ ws.length ≤ 8 + i ∧ ∀ y ∈ ws, Lt.Wd 12 y)
          ⟨ws, none, none, rfl, tp5, b4.trans b5, b5 l _ lt gl4, nd, wl, hw⟩ ?_ ?_
        · rintro i _ H6 hi ⟨ws, o1, o2, rfl, tp6, b6, gl6, nd, wl, hw⟩
          walk_at "rd"
          refine ⟨t, c, z, rfl, tp6, hz, z0, z1, fun y H7 hy tp7 b7 => ?_⟩
          have gl7 := b7 l _ lt gl6
          walk_at "rd"
          refine Rd.cut (fun σ H' => ∃ (y : Str), σ = [some (.ref t), some (.str z), some (.str L), some (.int most), some (.int kind), some (.ref l), some (.int (0 + (i : Int))), some (.str y)] ∧ Tape H' t c ∧ Rd.But t H H' ∧ H' l = some (.lst (ws.map V.str)) ∧ Lt.Wd 12 y) ?_ ?_
          · walk_at "rd"
            refine pickR tp7 (by decide) (by decide) fun r8 H8 _ _ tp8 b8 => ?_
            have gl8 := b8 l _ lt gl7
            walk_at "rd"
            refine ite2 (fun q => ?_) (fun q => ?_)
            · walk_at "rd"
              refine ⟨t, c, L, 1, 4, rfl, tp8, hL, L0, L1, by decide, by decide, by decide, fun y' H9 hy' y0 y1 tp9 b9 => ?_⟩
              walk_at "rd"
              exact ⟨y', rfl, tp9, ((b6.trans b7).trans b8).trans b9, b9 l _ lt gl8, hy', by omega, by omega⟩
            · walk_at "rd"
              exact ⟨y, rfl, tp8, (b6.trans b7).trans b8, gl8, hy⟩
          · rintro _ H9 ⟨y, rfl, tp9, b9, gl9, hy⟩
            walk_at "rd"
            refine Rd.inStrsN (.inl (.of gl9)) ?_
            walk_at "rd"
            refine ite2 (fun q => ?_) (fun q => ?_)
            · walk_at "rd"
              exact ⟨ws, _, _, rfl, tp9, b9, gl9, nd, by omega, hw⟩
            · walk_at "rd"
              refine Rd.tyL (.of gl9) ?_
              walk_at "rd"
              refine Rd.len (.inl (.of gl9)) ?_
              rw [List.length_map]
              walk_at "rd"
              refine pickR tp9 (by omega) (by omega) fun p G1 p0 p1 tq bq => ?_
              walk_at "rd"
              have glq := bq l _ lt gl9
              refine Rd.insert glq (by rw [List.length_map, sizeLine_eq]; omega) p0 (by omega) fun G2 g2 off2 => ?_
              walk_at "rd"
              have mem : ∀ x, x ∈ ws.take p.toNat ++ [y] ++ ws.drop p.toNat ↔ x ∈ ws ∨ x = y := fun x => by
                rw [List.mem_append, List.mem_append, List.mem_singleton]
                constructor
                · rintro ((h | h) | h)
                  · exact .inl (List.mem_of_mem_take h)
                  · exact .inr h
                  · exact .inl (List.mem_of_mem_drop h)
                · rintro (h | h)
                  · rw [← List.take_append_drop p.toNat ws] at h
                    rcases List.mem_append.mp h with h | h
                    · exact .inl (.inl h)
                    · exact .inr h
                  · exact .inl (.inr h)
              refine ⟨ws.take p.toNat ++ [y] ++ ws.drop p.toNat, _, _, rfl, tq.off lt lc off2, but_off (b9.trans bq) nl off2, ?_, ?_, ?_, fun x hx => ?_⟩
              · rw [g2, List.map_append, List.map_append, List.map_take, List.map_drop]
                rfl
              · have nd2 := nd
                rw [← List.take_append_drop p.toNat ws, List.nodup_append] at nd2
                obtain ⟨n1, n2, n3⟩ := nd2
                rw [List.nodup_append, List.nodup_append]
                refine ⟨⟨n1, by simp, fun x hx w hw e => q ?_⟩, n2, fun x hx w hw e => ?_⟩
                · simp at hw
                  rw [← hw, ← e]
                  exact List.mem_of_mem_take hx
                · rcases List.mem_append.mp hx with h | h
                  · exact n3 x h w hw e
                  · simp at h
                    rw [h] at e
                    rw [e] at q
                    exact q (List.mem_of_mem_drop hw)
              · rw [List.length_append, List.length_append, List.length_take, List.length_drop, List.length_singleton]
                omega
              · rcases (mem x).mp hx with h | h
                · exact hw x h
                · rw [h]
                  exact hy
        · rintro _ H6 ⟨ws, o1, o2, rfl, tp6, b6, gl6, nd, wl, hw⟩
          walk_at "rd"
          refine Rd.slL (.of gl6) (Rd.new fun d G7 ndw gd s7 => ?_)
          have ec : cutV (ws.map V.str) none (some most) = (ws.take most.toNat).map V.str := by
            rw [List.map_take]
            exact cut_toI m0
          rw [ec] at gd
          have dt := (tp6.new ndw).1
          refine k d (ws.take most.toNat) G7 (tp6.same s7) (b6.same s7) (b6.free dt ndw) gd ⟨nd.sublist (List.take_sublist _ _), ?_, fun y hy => hw y (List.mem_of_mem_take hy)⟩ ?_ <;> rw [List.length_take] <;> omega

end
end W

namespace W
open PySem PySem.Spec PyProof.Rows L2
section
variable {P : Program} {w : World} {K : PySem.W.Frag} {mg : Str → Option Value} {base : Heap}
/-! ### marks of spots: alike where watches lead -/
def sp_l_marks (K : PySem.W.Frag) : Sp := fun vs H Q _ => ∃ (a : Addr) (ws : List Str) (z : Str), vs = [.ref a, .str z] ∧ SqL K H a (ws.map V.str) ∧ (∀ W ∈ ws, 1 ≤ W.length ∧ W.length ≤ 1000) ∧ ws.length ≤ 100 ∧ z.length ≤ 1000 ∧ ∀ (l : Addr) (ms : List Int) H', Same H H' → H l = none → H' l = some (.lst (ms.map V.int)) → Mw.Lab (Mw.Adj ws z) z.length ms → Q (.ref l) H'
def sp_l_told (K : PySem.W.Frag) : Sp := fun vs H Q _ => ∃ (a : Addr) (ws : List Str) (z : Str), vs = [.ref a, .str z] ∧ SqL K H a (ws.map V.str) ∧ (∀ W ∈ ws, 1 ≤ W.length ∧ W.length ≤ 1000) ∧ ws.length ≤ 100 ∧ z.length ≤ 1000 ∧ ∀ (b : Bool) H', Same H H' → (b = true ↔ Mw.Told ws z) → Q (.bl b) H'
theorem ok_l_marks (T : Txt K mg) : FnOk P w K mg base CX0 1 T.f_l_marks T.fd_l_marks ["_law_watches_here", "_law_word_here"] (sp_l_marks K) := by
  refine T.F_l_marks.ok sc_l_marks (fun vs H Q E h => ?_) (fun cdv A outer s H vs Q E hr h => ?_)
  · obtain ⟨a, ws, z, rfl, _⟩ := h
    rfl
  · obtain ⟨a, ws, z, rfl, hS, hw, l1, l2, k⟩ := h
    refine ⟨_, (pss_cons (ps_set (i := 2) sc_l_marks.nd rfl (.inl rfl) (pe_listRg rfl (by rfl) T.n_list (prg_1 (by rfl) T.n_range (pe_op op_add (pe_callB (id := "len") (r := _) Rd.c_lenS (by rfl) T.n_len (by decide +kernel) (pa_cons (pv 1) pa_nil)) pe_int))))
  (pss_cons (ps_for PassesOwn.never rfl (pi_list (pv 0)) (pg_name (i := 3) sc_l_marks.nd rfl (.inl rfl))
  (pss_one (ps_for PassesOwn.never rfl (pi_range1 rfl T.n_range (pa_cons (pe_op op_add (pe_op op_sub (pe_callB (id := "len") (r := _) Rd.c_lenS (by rfl) T.n_len (by decide +kernel) (pa_cons (pv 1) pa_nil)) (pe_callB (id := "len") (r := _) Rd.c_lenS (by rfl) T.n_len (by decide +kernel) (pa_cons (pv 3) pa_nil))) pe_int) pa_nil)) (pg_name (i := 4) sc_l_marks.nd rfl (.inl rfl))
  (pss_one (ps_if (PW.pt (pw_and (pt_cmpR op_eq (pe_slice sl_str (pv 1) (po_some (pv 4)) (po_some (pe_op op_add (pv 4) (pe_callB (id := "len") (r := _) Rd.c_lenS (by rfl) T.n_len (by decide +kernel) (pa_cons (pv 3) pa_nil))))) (pv 3) (nomark _)) (pw_and1 (pt_cmpR op_ne (pe_ix (r := rIxL K) ix_list (pv 2) (pv 4) (fun _ _ => rfl)) (pe_ix (r := rIxL K) ix_list (pv 2) (pe_op op_add (pv 4) (pe_callB (id := "len") (r := _) Rd.c_lenS (by rfl) T.n_len (by decide +kernel) (pa_cons (pv 3) pa_nil))) (fun _ _ => rfl)) (nomark _)))))
  (pss_cons (ps_set (i := 5) sc_l_marks.nd rfl (.inl rfl) (pe_ix (r := rIxL K) ix_list (pv 2) (pe_op op_add (pv 4) (pe_callB (id := "len") (r := _) Rd.c_lenS (by rfl) T.n_len (by decide +kernel) (pa_cons (pv 3) pa_nil))) (fun _ _ => rfl)))
  (pss_one (ps_for PassesOwn.never rfl (pi_range1 rfl T.n_range (pa_cons (pe_callB (id := "len") (r := Rd.nLen K) Rd.c_len (by rfl) T.n_len (by decide +kernel) (pa_cons (pv 2) pa_nil)) pa_nil)) (pg_name (i := 6) sc_l_marks.nd rfl (.inl rfl))
  (pss_one (ps_if (pt_cmpR op_eq (pe_ix (r := rIxL K) ix_list (pv 2) (pv 6) (fun _ _ => rfl)) (pv 5) (nomark _))
  (pss_one (ps_asg (pe_ix (r := rIxL K) ix_list (pv 2) (pv 4) (fun _ _ => rfl)) (pg_sub (pv 2) (pv 6) set_list)))
  pss_nil)))))
  pss_nil)))))
  (pss_one (ps_ret (pv 2))))), ?_⟩
    have zl : z.length ≤ sizeLine := by rw [sizeLine_eq]; omega
    walk_at "rd"
    refine Rd.lenStr zl ?_
    walk_at "rd"
    refine ⟨RgOk.of_le (by decide) (by omega) (by decide) (by omega), Rd.new fun l G nl gl sG => ?_⟩
    rw [show (z.length : Int) + 1 = ((z.length + 1 : Nat) : Int) by omega, Rd.rgV0] at gl
    have la : ∀ {H'}, Same H H' → SqL K H' a (ws.map V.str) := fun s => s.seq hS
    walk_at "rd"
    refine Rd.forS ?_
    walk_at "rd"
    refine ⟨⟨_, la sG⟩, for_list (K := K) (a := a) (xs := ws.map V.str) (fun k σ H' => ∃ (ms : List Int) (o1 o2 o3 o4 : Option V), σ = [some (.ref a), some (.str z), some (.ref l), o1, o2, o3, o4] ∧ H' l = some (.lst (ms.map V.int)) ∧ Same H H' ∧ Mw.Lab (Mw.Adj (ws.take k) z) z.length ms)
      ⟨_, none, none, none, none, rfl, gl, sG, Mw.Lab.start fun i j => Mw.adj_nil⟩ (fun k σ H' _ ⟨_, _, _, _, _, _, _, s, _⟩ => la s) ?_ ?_⟩
    · rintro k x _ H1 hx ⟨ms, o1, o2, o3, o4, rfl, gl1, s1, L⟩
      obtain ⟨W, hW, rfl⟩ := Rd.map_strG hx
      have wl := hw W (List.mem_of_getElem? hW)
      have wz : W.length ≤ sizeLine := by rw [sizeLine_eq]; omega
      walk_at "rd"
      refine Rd.forS ?_
      walk_at "rd"
      refine Rd.lenStr zl ?_
      walk_at "rd"
      refine Rd.lenStr wz ?_
      walk_at "rd"
      refine ⟨by omega, by omega, ?_⟩
      refine for_range (lo := 0) (n := ((z.length : Int) - (W.length : Int) + 1).toNat) (fun m σ H' => ∃ (ms : List Int) (o2 o3 o4 : Option V), σ = [some (.ref a), some (.str z), some (.ref l), some (.str W), o2, o3, o4] ∧ H' l = some (.lst (ms.map V.int)) ∧ Same H H' ∧ Mw.Lab (Mw.AdjB (ws.take k) W z m) z.length ms)
        ⟨ms, _, _, _, rfl, gl1, s1, L.iff fun i j => Mw.adjB_zero.symm⟩ ?_ ?_
      · rintro m _ H2 hm ⟨ms, o2, o3, o4, rfl, gl2, s2, L⟩
        have mz : m + W.length ≤ z.length := by omega
        have ml := L.1
        walk_at "rd"
        rw [Int.zero_add]
        refine Rd.lenStr wz ?_
        walk_at "rd"
        refine Rd.slS zl ?_
        walk_at "rd"
        refine ite2 (fun q => ?_) (fun q => ?_)
        · have oc : Mw.Occ W z m := ⟨mz, q⟩
          have mi : m < ms.length := by omega
          have mj : m + W.length < ms.length := by omega
          have ei : ms[m]? = some ms[m] := List.getElem?_eq_getElem mi
          have ej : ms[m + W.length]? = some ms[m + W.length] := List.getElem?_eq_getElem mj
          generalize ms[m] = x at ei
          generalize ms[m + W.length] = y at ej
          have at1 : atI (ms.map V.int) (m : Int) = some (.int x) := atI_nat (by rw [List.getElem?_map, ei]; rfl)
          have at2 : atI (ms.map V.int) ((m : Int) + (W.length : Int)) = some (.int y) := by
            rw [show (m : Int) + (W.length : Int) = ((m + W.length : Nat) : Int) by omega]
            exact atI_nat (by rw [List.getElem?_map, ej]; rfl)
          walk_at "rd"
          refine Rd.ixL (.of gl2) at1 ?_
          walk_at "rd"
          refine Rd.lenStr wz ?_
          walk_at "rd"
          refine Rd.ixL (.of gl2) at2 ?_
          walk_at "rd"
          refine ite2 (fun c => ?_) (fun c => ?_)
          · walk_at "rd"
            subst c
            exact ⟨ms, _, _, _, rfl, gl2, s2, L.same ei ej Mw.AdjB.symm fun i j => Mw.adjB_yes oc⟩
          · walk_at "rd"
            refine Rd.lenStr wz ?_
            walk_at "rd"
            refine Rd.ixL (.of gl2) at2 ?_
            walk_at "rd"
            refine Rd.forS ?_
            walk_at "rd"
            refine Rd.len (.inl (.of gl2)) ?_
            rw [List.length_map]
            walk_at "rd"
            refine ⟨by omega, by omega, ?_⟩
            refine for_range (lo := 0) (n := ((ms.length : Nat) : Int).toNat) (fun j σ H' => ∃ (ns : List Int) (o4 : Option V), σ = [some (.ref a), some (.str z), some (.ref l), some (.str W), some (.int (m : Int)), some (.int y), o4] ∧ H' l = some (.lst (ns.map V.int)) ∧ Same H H' ∧ ns.length = ms.length ∧ ∀ (i : Nat) v, ms[i]? = some v → ns[i]? = some (if i < j then (if v = y then x else v) else v))
              ⟨ms, _, rfl, gl2, s2, rfl, fun i v h => by rw [if_neg (Nat.not_lt_zero i)]; exact h⟩ ?_ ?_
            · rintro j _ H3 hj ⟨ns, o4, rfl, gl3, s3, nl2, hn⟩
              have jl : j < ms.length := by omega
              have e3 := hn j _ (List.getElem?_eq_getElem jl)
              rw [if_neg (Nat.lt_irrefl j)] at e3
              have e4 : ns[m]? = some x := by
                have := hn m x ei
                rw [this, if_neg c]
                split <;> rfl
              walk_at "rd"
              rw [Int.zero_add]
              refine Rd.ixL (.of gl3) (atI_nat (j := j) (by rw [List.getElem?_map, e3]; rfl)) ?_
              walk_at "rd"
              refine ite2 (fun c2 => ?_) (fun c2 => ?_)
              · walk_at "rd"
                refine Rd.ixL (.of gl3) (atI_nat (j := m) (by rw [List.getElem?_map, e4]; rfl)) ?_
                walk_at "rd"
                refine Rd.setG gl3 (Rd.ixN_of (by omega) (by rw [List.length_map]; omega)) (Rd.map_set V.int ns (j : Int).toNat x) fun G4 g4 off4 => ?_
                walk_at "rd"
                refine ⟨ns.set (j : Int).toNat x, _, rfl, g4, fun b o e => ?_, by rw [List.length_set]; exact nl2, fun i v h => ?_⟩
                · rw [off4 b (ne_of_none e nl)]
                  exact s3 b o e
                · rw [Int.toNat_natCast, List.getElem?_set]
                  by_cases cj : j = i
                  · subst cj
                    rw [List.getElem?_eq_getElem jl] at h
                    cases h
                    rw [if_pos rfl, if_pos (by omega), if_pos (Nat.lt_succ_self j), if_pos c2]
                  · rw [if_neg cj, hn i v h]
                    by_cases ci : i < j
                    · rw [if_pos ci, if_pos (show i < j + 1 by omega)]
                    · rw [if_neg ci, if_neg (show ¬ i < j + 1 by omega)]
              · walk_at "rd"
                refine ⟨ns, _, rfl, gl3, s3, nl2, fun i v h => ?_⟩
                rw [hn i v h]
                by_cases cj : j = i
                · subst cj
                  rw [List.getElem?_eq_getElem jl] at h
                  cases h
                  rw [if_neg (Nat.lt_irrefl j), if_pos (Nat.lt_succ_self j), if_neg c2]
                · by_cases ci : i < j
                  · rw [if_pos ci, if_pos (show i < j + 1 by omega)]
                  · rw [if_neg ci, if_neg (show ¬ i < j + 1 by omega)]
            · rintro _ H3 ⟨ns, o4, rfl, gl3, s3, nl2, hn⟩
              have e : ns = ms.map fun v => if v = y then x else v := by
                refine List.ext_getElem? fun i => ?_
                rw [List.getElem?_map]
                cases h : ms[i]? with
                | none =>
                  have := List.getElem?_eq_none_iff.mp h
                  exact List.getElem?_eq_none_iff.mpr (by omega)
                | some v =>
                  have hi := (List.getElem?_eq_some_iff.mp h).1
                  rw [hn i v h, if_pos (by omega)]
                  rfl
              subst e
              walk_at "rd"
              exact ⟨_, _, _, _, rfl, gl3, s3, L.join ei ej (fun i j h => h.elim (fun h => h.le) fun h => by rcases h with ⟨_, o, e⟩ | ⟨_, o, e⟩ <;> have := o.1 <;> omega) Mw.AdjB.symm fun i j => Mw.adjB_yes oc⟩
        · walk_at "rd"
          exact ⟨ms, _, _, _, rfl, gl2, s2, L.iff fun i j => (Mw.adjB_no fun h => q h.2).symm⟩
      · rintro _ H2 ⟨ms, o2, o3, o4, rfl, gl2, s2, L⟩
        walk_at "rd"
        refine ⟨ms, _, _, _, _, rfl, gl2, s2, L.iff fun i j => ?_⟩
        rw [Rd.take_snoc hW]
        exact Mw.adjB_all (by omega)
    · rintro _ H1 ⟨ms, o1, o2, o3, o4, rfl, gl1, s1, L⟩
      rw [List.length_map, List.take_length] at L
      walk_at "rd"
      exact k l ms H1 s1 nl gl1 L
theorem ok_l_told (T : Txt K mg) : FnOk P w K mg base CX0 2 T.f_l_told T.fd_l_told ["_law_watches_here", "_law_word_here"] (sp_l_told K) := by
  refine T.F_l_told.ok sc_l_told (fun vs H Q E h => ?_) (fun cdv A outer s H vs Q E hr h => ?_)
  · obtain ⟨a, ws, z, rfl, _⟩ := h
    rfl
  · obtain ⟨a, ws, z, rfl, hS, hw, l1, l2, k⟩ := h
    refine ⟨_, (pss_cons (ps_set (i := 2) sc_l_told.nd rfl (.inl rfl) (pe_call (ok_l_marks T) (hr.mono (by decide)) rfl T.g_l_marks T.F_l_marks.kp T.b_l_marks .nil pass0 (pa_cons (pv 0) (pa_cons (pv 1) pa_nil))))
  (pss_one (ps_ret (pe_cmpR op_eq (pe_ix (r := rIxL K) ix_list (pv 2) pe_int (fun _ _ => rfl)) (pe_ix (r := rIxL K) ix_list (pv 2) (pe_callB (id := "len") (r := _) Rd.c_lenS (by rfl) T.n_len (by decide +kernel) (pa_cons (pv 1) pa_nil)) (fun _ _ => rfl)) (nomark _))))), ?_⟩
    walk_at "rd"
    refine ⟨a, ws, z, rfl, hS, hw, l1, l2, fun l ms H1 s1 nl gl L => ?_⟩
    have ml := L.1
    have e0 : ms[0]? = some ms[0] := List.getElem?_eq_getElem (by omega)
    have e1 : ms[z.length]? = some ms[z.length] := List.getElem?_eq_getElem (by omega)
    walk_at "rd"
    refine Rd.ixL (.of gl) (atI_nat (j := 0) (by rw [List.getElem?_map, e0]; rfl)) ?_
    walk_at "rd"
    refine Rd.lenStr (by rw [sizeLine_eq]; omega) ?_
    walk_at "rd"
    refine Rd.ixL (.of gl) (atI_nat (j := z.length) (by rw [List.getElem?_map, e1]; rfl)) ?_
    walk_at "rd"
    refine k _ _ s1 ?_
    rw [decide_eq_true_iff]
    exact L.2 0 z.length _ _ e0 e1

end
end W

namespace W
open PySem PySem.Spec PyProof.Rows L2
section
variable {P : Program} {w : World} {K : PySem.W.Frag} {mg : Str → Option Value} {base : Heap}
/-! ### spots beside a spot -/
theorem adj_near {ws : List Str} {z : Str} (hw : ∀ W ∈ ws, 1 ≤ W.length) {i j : Nat} (hi : i ≤ z.length) (hj : j ≤ z.length) : Mw.Adj ws z i j ↔ j ≠ i ∧ cutS z (some (min (i : Int) (j : Int))) (some (max (i : Int) (j : Int))) ∈ ws := by
  constructor
  · rintro ⟨W, m, ⟨⟨o1, o2⟩, e⟩ | ⟨⟨o1, o2⟩, e⟩⟩
    · have := hw W m
      refine ⟨by omega, ?_⟩
      rw [show min (i : Int) (j : Int) = i by omega, show max (i : Int) (j : Int) = (i : Int) + (W.length : Int) by omega, o2]
      exact m
    · have := hw W m
      refine ⟨by omega, ?_⟩
      rw [show min (i : Int) (j : Int) = j by omega, show max (i : Int) (j : Int) = (j : Int) + (W.length : Int) by omega, o2]
      exact m
  · rintro ⟨ne, m⟩
    have l := Lt.cut_lenI (z := z) (a := min (i : Int) (j : Int)) (b := max (i : Int) (j : Int)) (by omega) (by omega) (by omega)
    refine ⟨_, m, ?_⟩
    rcases Nat.lt_or_ge i j with c | c
    · refine .inl ⟨⟨by omega, ?_⟩, by omega⟩
      rw [l]
      rw [show min (i : Int) (j : Int) = i by omega, show max (i : Int) (j : Int) = j by omega, show (i : Int) + ((j : Int) - (i : Int)) = j by omega]
    · refine .inr ⟨⟨by omega, ?_⟩, by omega⟩
      rw [l]
      rw [show min (i : Int) (j : Int) = j by omega, show max (i : Int) (j : Int) = i by omega, show (j : Int) + ((i : Int) - (j : Int)) = i by omega]
def sp_l_near (K : PySem.W.Frag) : Sp := fun vs H Q _ => ∃ (a : Addr) (ws : List Str) (z : Str) (s : Nat), vs = [.ref a, .str z, .int (s : Nat)] ∧ SqL K H a (ws.map V.str) ∧ (∀ W ∈ ws, 1 ≤ W.length) ∧ z.length ≤ 1000 ∧ s ≤ z.length ∧
  ∀ (l : Addr) (xs : List Int) H', Same H H' → H l = none → H' l = some (.lst (xs.map V.int)) → (∀ x, x ∈ xs ↔ ∃ j : Nat, x = j ∧ Mw.Adj ws z s j) → xs.length ≤ z.length + 1 → Q (.ref l) H'
end
end W

namespace W
open PySem PySem.Spec PyProof.Rows L2
section
variable {P : Program} {w : World} {K : PySem.W.Frag} {mg : Str → Option Value} {base : Heap}
/-! ### rules judged by the law -/
theorem gr_chain {A : Nat → Nat → Prop} {n : Nat} {x : Nat} {P : List Nat} (h : Mz.Gr A n x P) : P[0]? = some x ∧ P.getLast? = some n ∧ ∀ (k i j : Nat), P[k]? = some i → P[k + 1]? = some j → A i j := by
  induction h with
  | stop => exact ⟨rfl, rfl, fun k i j _ h => by simp at h⟩
  | step hx r hw _ g ih =>
    obtain ⟨h1, h2, h3⟩ := ih
    refine ⟨rfl, ?_, fun k i j e1 e2 => ?_⟩
    · cases g <;> simpa using h2
    · cases k with
      | zero =>
        simp at e1
        rw [List.getElem?_cons_succ] at e2
        rw [h1] at e2
        cases e2
        exact e1 ▸ r
      | succ k => exact h3 k i j (by simpa using e1) (by simpa using e2)
theorem gr_le {A : Nat → Nat → Prop} {n : Nat} (hA : ∀ i j, A i j → j ≤ n) {x : Nat} {P : List Nat} (hx : x ≤ n) (h : Mz.Gr A n x P) : ∀ i ∈ P, i ≤ n := by
  induction h with
  | stop => intro i m; simp at m; omega
  | step _ r _ _ _ ih =>
    intro i m
    rcases List.mem_cons.mp m with rfl | m
    · exact hx
    · exact ih (hA _ _ r) i m
theorem gr_dist {A : Nat → Nat → Prop} {n x : Nat} {P : List Nat} (h : Mz.Gr A n x P) : ∃ d, Mz.Dist A x n d ∧ P.length = d + 1 := by
  induction h with
  | stop => exact ⟨0, Mz.Dist.zero, rfl⟩
  | step hx _ hw _ _ ih =>
    obtain ⟨d, h1, h2⟩ := ih
    have := h1.inj hw
    subst this
    exact ⟨_, hx, by rw [List.length_cons, h2]⟩
theorem natV_get {P : List Nat} {k i : Nat} (h : P[k]? = some i) : (natV P)[k]? = some (.int (i : Int)) := by
  unfold natV
  rw [List.getElem?_map, List.getElem?_map, h]
  rfl
theorem natV_take (P : List Nat) (k : Nat) : (natV P).take k = natV (P.take k) := by
  unfold natV
  rw [← List.map_take, ← List.map_take]
theorem natV_l (P : List Nat) : (natV P).length = P.length := by unfold natV; rw [List.length_map, List.length_map]
/-- a row of spots that lies within a word -/
structure Spots (n : Nat) (P : List Nat) : Prop where
  hd : P[0]? = some 0
  le : ∀ i ∈ P, i ≤ n
  ln : P.length ≤ 1000
def sp_l_spots (K : PySem.W.Frag) : Sp := fun vs H Q _ => ∃ (q : Addr) (z : Str) (P : List Nat), vs = [.str z, .ref q] ∧ StepsAt H q (stepsOf z P) ∧ Spots z.length P ∧ z.length ≤ 1000 ∧ ∀ (l : Addr) H', Same H H' → H l = none → H' l = some (.lst (natV P)) → Q (.ref l) H'
theorem atI_lastN {P : List Nat} {i : Nat} (h : P.getLast? = some i) : atI (natV P) (-1) = some (.int (i : Int)) := by
  have n0 : P ≠ [] := fun e => by rw [e] at h; cases h
  have l : 1 ≤ P.length := Nat.one_le_iff_ne_zero.mpr fun e => n0 (List.eq_nil_of_length_eq_zero e)
  have e : P[P.length - 1]? = some i := by rw [← List.getLast?_eq_getElem?]; exact h
  unfold atI ixN
  rw [if_neg (by decide), natV_l]
  first
    | (rw [if_pos (by omega)]; show (natV P)[((P.length : Int) + -1).toNat]? = _; rw [show ((P.length : Int) + -1).toNat = P.length - 1 by omega]; exact natV_get e)
    | (simp; rw [if_pos (by omega)]; show (natV P)[((P.length : Int) + -1).toNat]? = _; rw [show ((P.length : Int) + -1).toNat = P.length - 1 by omega]; exact natV_get e)
theorem last_take {α : Type} {P : List α} {k : Nat} {i : α} (h : P[k]? = some i) : (P.take (k + 1)).getLast? = some i := by
  rw [Rd.take_snoc h]
  simp
theorem step_len {z : Str} {a b : Nat} (ha : a ≤ z.length) (hb : b ≤ z.length) : ((stepOf z a b).2.length : Int) = if a < b then (b : Int) - a else (a : Int) - b := by
  unfold stepOf
  by_cases c : a < b
  · rw [if_pos c, if_pos c]
    exact Lt.cut_lenI (by omega) (by omega) (by omega)
  · rw [if_neg c, if_neg c]
    exact Lt.cut_lenI (by omega) (by omega) (by omega)
theorem ok_l_spots (T : Txt K mg) : FnOk P w K mg base CX0 1 T.f_l_spots T.fd_l_spots ["_law_word_here", "_law_steps"] (sp_l_spots K) := by
  refine T.F_l_spots.ok sc_l_spots (fun vs H Q E h => ?_) (fun cdv A outer s H vs Q E hr h => ?_)
  · obtain ⟨q, z, P, rfl, _⟩ := h
    rfl
  · obtain ⟨q, z, P, rfl, hq, sp, zl0, k⟩ := h
    refine ⟨_, (pss_cons (ps_set (i := 2) sc_l_spots.nd rfl (.inl rfl) (pe_lst (pa_cons pe_int pa_nil)))
  (pss_cons (ps_for PassesOwn.never rfl (pi_tup (pv 1)) (pg_name (i := 3) sc_l_spots.nd rfl (.inl rfl))
  (pss_cons (ps_if (PW.pt (pw_or (pt_not (pt_val (pe_callB (id := "isinstance") (r := rIsi K) call_isi (by rfl) T.n_isinstance (by decide +kernel) (pa_cons (pv 3) (pa_cons (pe_bltn (v := .ty "tuple") (u := .type "tuple") (by rfl) T.n_tuple (by decide +kernel) rfl) pa_nil))))) (pw_or (pt_cmpR op_ne (pe_callB (id := "len") (r := Rd.nLen K) Rd.c_len (by rfl) T.n_len (by decide +kernel) (pa_cons (pv 3) pa_nil)) pe_int (nomark _)) (pw_or1 (pt_cmpR (r := rIn K true) op_notIn_seq (pe_ix (r := rIxT K) ix_tup (pv 3) pe_int (fun _ _ => rfl)) (pe_lst (pa_cons pe_str (pa_cons pe_str pa_nil))) (by rfl))))))
  (pss_one (ps_ret pe_non))
  pss_nil)
  (pss_cons (ps_set (i := 4) sc_l_spots.nd rfl (.inl rfl) (pe_op op_add (pe_ix (r := rIxL K) ix_list (pv 2) (pe_un un_neg pe_int) (fun _ _ => rfl)) (pe_callB (id := "len") (r := _) Rd.c_lenS (by rfl) T.n_len (by decide +kernel) (pa_cons (pe_ix (r := rIxT K) ix_tup (pv 3) pe_int (fun _ _ => rfl)) pa_nil))))
  (C8.pss_cut (ps_if (pt_cmpR op_eq (pe_ix (r := rIxT K) ix_tup (pv 3) pe_int (fun _ _ => rfl)) pe_str (nomark _))
  (pss_one (ps_set (i := 4) sc_l_spots.nd rfl (.inl rfl) (pe_op op_sub (pe_ix (r := rIxL K) ix_list (pv 2) (pe_un un_neg pe_int) (fun _ _ => rfl)) (pe_callB (id := "len") (r := _) Rd.c_lenS (by rfl) T.n_len (by decide +kernel) (pa_cons (pe_ix (r := rIxT K) ix_tup (pv 3) pe_int (fun _ _ => rfl)) pa_nil)))))
  pss_nil)
  (pss_cons (ps_set (i := 5) sc_l_spots.nd rfl (.inl rfl) (pe_callB (id := "min") (r := _) (Rd.c_min2 rfl) (by rfl) T.n_min (by decide +kernel) (pa_cons (pe_ix (r := rIxL K) ix_list (pv 2) (pe_un un_neg pe_int) (fun _ _ => rfl)) (pa_cons (pv 4) pa_nil))))
  (pss_cons (ps_if (PW.pt (pw_or (pt_cmpR op_lt (pv 5) pe_int (nomark _)) (pw_or (pt_cmpR op_ne (pe_slice sl_str (pv 0) (po_some (pv 5)) (po_some (pe_op op_add (pv 5) (pe_callB (id := "len") (r := _) Rd.c_lenS (by rfl) T.n_len (by decide +kernel) (pa_cons (pe_ix (r := rIxT K) ix_tup (pv 3) pe_int (fun _ _ => rfl)) pa_nil))))) (pe_ix (r := rIxT K) ix_tup (pv 3) pe_int (fun _ _ => rfl)) (nomark _)) (pw_or1 (pt_cmpR op_gt (pe_callB (id := "max") (r := _) (Rd.c_max2 rfl) (by rfl) T.n_max (by decide +kernel) (pa_cons (pe_ix (r := rIxL K) ix_list (pv 2) (pe_un un_neg pe_int) (fun _ _ => rfl)) (pa_cons (pv 4) pa_nil))) (pe_callB (id := "len") (r := _) Rd.c_lenS (by rfl) T.n_len (by decide +kernel) (pa_cons (pv 0) pa_nil)) (nomark _))))))
  (pss_one (ps_ret pe_non))
  pss_nil)
  (pss_one (ps_expr (pe_bm PySem.F.plainAttrs_list PySem.F.slot_list_append PySem.F.type_list_append mt_append (pv 2) (pa_cons (pv 4) pa_nil))))))))))
  (pss_one (ps_ret (pv 2))))), ?_⟩
    have zl : z.length ≤ sizeLine := by rw [sizeLine_eq]; omega
    have pl := sp.ln
    have p1 : 1 ≤ P.length := by
      have := (List.getElem?_eq_some_iff.mp sp.hd).1
      omega
    obtain ⟨rs, hrs, rl, hr⟩ := hq.row
    rw [stepsOf_len] at rl
    walk_at "go"
    refine ⟨Nat.le_of_ble_eq_true rfl, Rd.new fun l G nl gl sG => ?_⟩
    walk_at "go"
    refine Rd.forS ?_
    walk_at "go"
    refine ⟨⟨_, by k_extra "sq"⟩, for_tup (K := K) (a := q) (xs := rs.map V.ref) (fun i σ H' => ∃ (o3 o4 o5 : Option V), σ = [some (.str z), some (.ref q), some (.ref l), o3, o4, o5] ∧ Same H H' ∧ H' l = some (.lst (natV (P.take (i + 1)))))
      ⟨_, _, _, rfl, sG, ?_⟩ (fun i σ H' _ ⟨_, _, _, _, s, _⟩ => .of (s _ _ hrs)) ?_ ?_⟩
    · rw [Rd.take_snoc sp.hd]
      exact gl
    · rintro i x _ H1 hx ⟨o3, o4, o5, rfl, s1, gl1⟩
      obtain ⟨r, hri, rfl⟩ := Rd.map_refG hx
      have ri := (List.getElem?_eq_some_iff.mp hri).1
      have ha : P[i]? = some (P[i]'(by omega)) := List.getElem?_eq_getElem _
      have hb : P[i + 1]? = some (P[i + 1]'(by omega)) := List.getElem?_eq_getElem _
      have la := sp.le _ (List.mem_of_getElem? ha)
      have lb := sp.le _ (List.mem_of_getElem? hb)
      generalize P[i]'(by omega) = a at ha la
      generalize P[i + 1]'(by omega) = b at hb lb
      obtain ⟨st, hst, gr⟩ := hr i r hri
      rw [stepsOf_get ha (by rw [List.getElem?_tail]; exact hb)] at hst
      cases hst
      have gr1 := s1 _ _ gr
      have sl := step_len (z := z) la lb
      have hL := atI_lastN (last_take ha)
      walk_at "go"
      refine Rd.isi (Ru.ty_T (.of gr1)) (by decide +kernel : kitB "tuple" "tuple" = some true) ?_
      walk_at "go"
      refine Rd.len (.inr (.of gr1)) ?_
      walk_at "go"
      refine Rd.yes rfl ?_
      walk_at "go"
      refine Rd.ixT (.of gr1) rfl ?_
      walk_at "go"
      refine ⟨Nat.le_of_ble_eq_true rfl, Rd.new fun e G2 ne ge s2 => ?_⟩
      refine Rd.inStrsN (ws := [("on" : Str), ("back" : Str)]) (.inl (.of ge)) ?_
      have kin : (stepOf z a b).1 ∈ [("on" : Str), ("back" : Str)] := by
        unfold stepOf
        split <;> simp
      rw [decide_eq_true kin]
      walk_at "go"
      have gl2 := s2 _ _ gl1
      have gr2 := s2 _ _ gr1
      refine Rd.ixL (.of gl2) hL ?_
      walk_at "go"
      refine Rd.ixT (.of gr2) rfl ?_
      have tl : (stepOf z a b).2.length ≤ sizeLine := by
        rw [sizeLine_eq]
        split at sl <;> omega
      walk_at "go"
      refine Rd.cut (fun σ H' => H' = G2 ∧ σ = [some (.str z), some (.ref q), some (.ref l), some (.ref r), some (.int (b : Int)), o5]) ?_ ?_
      · walk_at "go"
        refine Rd.ixT (.of gr2) rfl ?_
        walk_at "go"
        by_cases c : a < b
        · have e1 : (stepOf z a b).1 = "on" := by unfold stepOf; rw [if_pos c]
          rw [if_pos c] at sl
          rw [e1]
          refine Rd.no (by decide +kernel) ?_
          walk_at "go"
          refine ⟨rfl, ?_⟩
          rw [sl, show (a : Int) + ((b : Int) - a) = b by omega]
          rfl
        · have e1 : (stepOf z a b).1 = "back" := by unfold stepOf; rw [if_neg c]
          rw [if_neg c] at sl
          rw [e1]
          refine Rd.yes rfl ?_
          walk_at "go"
          refine Rd.ixL (.of gl2) hL ?_
          walk_at "go"
          refine Rd.ixT (.of gr2) rfl ?_
          walk_at "go"
          refine ⟨rfl, ?_⟩
          rw [sl, show (a : Int) - ((a : Int) - b) = b by omega]
          rfl
      · rintro _ _ ⟨rfl, rfl⟩
        walk_at "go"
        refine Rd.ixL (.of gl2) hL ?_
        walk_at "go"
        refine Rd.no (by omega) ?_
        walk_at "go"
        refine Rd.ixT (.of gr2) rfl ?_
        walk_at "go"
        refine Rd.ixT (.of gr2) rfl ?_
        have pe : cutS z (some (min (a : Int) b)) (some (min (a : Int) b + ((stepOf z a b).2.length : Int))) = (stepOf z a b).2 := by
          rw [sl]
          unfold stepOf
          by_cases c : a < b
          · rw [if_pos c, if_pos c, show min (a : Int) b = a by omega, show (a : Int) + ((b : Int) - a) = b by omega]
          · rw [if_neg c, if_neg c, show min (a : Int) b = b by omega, show (b : Int) + ((a : Int) - b) = a by omega]
        rw [pe]
        walk_at "go"
        refine Rd.yes rfl ?_
        walk_at "go"
        refine Rd.ixL (.of gl2) hL ?_
        walk_at "go"
        refine Rd.no (by omega) ?_
        walk_at "go"
        refine Rd.app gl2 (by rw [natV_l, List.length_take, sizeLine_eq]; omega) fun G4 g4 off4 => ?_
        walk_at "go"
        refine ⟨_, _, _, rfl, Rd.same_off (s1.trans s2) nl off4, ?_⟩
        rw [Rd.take_snoc hb]
        show G4 l = some (.lst (natV (P.take (i + 1) ++ [b])))
        rw [show natV (P.take (i + 1) ++ [b]) = natV (P.take (i + 1)) ++ [.int (b : Int)] by unfold natV; simp]
        exact g4
    · rintro _ H1 ⟨o3, o4, o5, rfl, s1, gl1⟩
      walk_at "go"
      refine k l H1 s1 nl ?_
      rw [List.length_map, rl, show P.length - 1 + 1 = P.length by omega, List.take_length] at gl1
      exact gl1

end
end W

namespace W
open PySem PySem.Spec PyProof.Rows L2
section
variable {P : Program} {w : World} {K : PySem.W.Frag} {mg : Str → Option Value} {base : Heap}
theorem ta_nd {α : Type} {us : List α} {y : α} (nd : us.Nodup) (h : y ∉ us) : (us ++ [y]).Nodup := snoc_nodup nd h
def sp_l_joined (K : PySem.W.Frag) : Sp := fun vs H Q _ => ∃ (t c a : Addr) (ws : List Str) (z : Str), vs = [.ref t, .ref a, .str z] ∧ Tape H t c ∧ H a = some (.lst (ws.map V.str)) ∧ a ≠ t ∧ ws.length ≤ 12 ∧ (∀ W ∈ ws, Lt.Wd 12 W) ∧ Lt.Let z ∧ 1 ≤ z.length ∧ z.length ≤ 1000 ∧
  ∀ (l : Addr) (us : List Str) H', Tape H' t c → Rd.But t H H' → H l = none → H' l = some (.lst (us.map V.str)) → us.Nodup → us.length ≤ 6 → (∀ y ∈ us, Lt.Wd 12 y) → Q (.ref l) H'
theorem ok_l_joined (T : Txt K mg) : FnOk P w K mg base CX0 3 T.f_l_joined T.fd_l_joined ["_law_tape_here", "_law_watches_here", "_law_word_here"] (sp_l_joined K) := by
  refine T.F_l_joined.ok sc_l_joined (fun vs H Q E h => ?_) (fun cdv A outer s H vs Q E hr h => ?_)
  · obtain ⟨t, c, a, ws, z, rfl, _⟩ := h
    rfl
  · obtain ⟨t, c, a, ws, z, rfl, tp, ga, at', wl, hw, hz, z0, z1, k⟩ := h
    refine ⟨_, (pss_cons (ps_set (i := 3) sc_l_joined.nd rfl (.inl rfl) (pe_lst pa_nil))
  (pss_cons (ps_for PassesOwn.never rfl (pi_range1 rfl T.n_range (pa_cons (pe_call (ok_l_pick T) (hr.mono (by decide)) rfl T.g_l_pick T.F_l_pick.kp T.b_l_pick .nil pass0 (pa_cons (pv 0) (pa_cons pe_int pa_nil))) pa_nil)) (pg_name (i := 4) sc_l_joined.nd rfl (.inl rfl))
  (pss_cons (ps_set (i := 5) sc_l_joined.nd rfl (.inl rfl) (pe_call (ok_l_pick T) (hr.mono (by decide)) rfl T.g_l_pick T.F_l_pick.kp T.b_l_pick .nil pass0 (pa_cons (pv 0) (pa_cons pe_int pa_nil))))
  (pss_cons (ps_set (i := 6) sc_l_joined.nd rfl (.inl rfl) (pe_call (ok_l_piece T) (hr.mono (by decide)) rfl T.g_l_piece T.F_l_piece.kp T.b_l_piece .nil pass0 (pa_cons (pv 0) (pa_cons (pv 2) pa_nil))))
  (C8.pss_cut (ps_if (PW.pt (pw_and (pt_cmpR op_gt (pv 5) pe_int (nomark _)) (pw_and1 (pt_cmpR op_gt (pe_callB (id := "len") (r := Rd.nLen K) Rd.c_len (by rfl) T.n_len (by decide +kernel) (pa_cons (pv 1) pa_nil)) pe_int (nomark _)))))
  (pss_one (ps_set (i := 6) sc_l_joined.nd rfl (.inl rfl) (pe_ix (r := rIxL K) ix_list (pv 1) (pe_call (ok_l_pick T) (hr.mono (by decide)) rfl T.g_l_pick T.F_l_pick.kp T.b_l_pick .nil pass0 (pa_cons (pv 0) (pa_cons (pe_callB (id := "len") (r := Rd.nLen K) Rd.c_len (by rfl) T.n_len (by decide +kernel) (pa_cons (pv 1) pa_nil)) pa_nil))) (fun _ _ => rfl))))
  pss_nil)
  (C8.pss_cut (ps_if (PW.pt (pw_and (pt_cmpR op_gt (pv 5) pe_int (nomark _)) (pw_and1 (pt_cmpR op_gt (pe_callB (id := "len") (r := Rd.nLen K) Rd.c_len (by rfl) T.n_len (by decide +kernel) (pa_cons (pv 1) pa_nil)) pe_int (nomark _)))))
  (pss_one (ps_set (i := 6) sc_l_joined.nd rfl (.inl rfl) (pe_slice sl_str (pe_op Rd.o_addS (pv 6) (pe_ix (r := rIxL K) ix_list (pv 1) (pe_call (ok_l_pick T) (hr.mono (by decide)) rfl T.g_l_pick T.F_l_pick.kp T.b_l_pick .nil pass0 (pa_cons (pv 0) (pa_cons (pe_callB (id := "len") (r := Rd.nLen K) Rd.c_len (by rfl) T.n_len (by decide +kernel) (pa_cons (pv 1) pa_nil)) pa_nil))) (fun _ _ => rfl))) po_none (po_some pe_int))))
  pss_nil)
  (C8.pss_cut (ps_if (PW.pt (pw_and (pt_cmpR op_eq (pv 5) pe_int (nomark _)) (pw_and1 (pt_cmpR op_gt (pe_callB (id := "len") (r := _) Rd.c_lenS (by rfl) T.n_len (by decide +kernel) (pa_cons (pv 6) pa_nil)) pe_int (nomark _)))))
  (pss_one (ps_set (i := 6) sc_l_joined.nd rfl (.inl rfl) (pe_slice sl_str (pv 6) (po_some (pe_call (ok_l_pick T) (hr.mono (by decide)) rfl T.g_l_pick T.F_l_pick.kp T.b_l_pick .nil pass0 (pa_cons (pv 0) (pa_cons (pe_callB (id := "len") (r := _) Rd.c_lenS (by rfl) T.n_len (by decide +kernel) (pa_cons (pv 6) pa_nil)) pa_nil)))) po_none)))
  pss_nil)
  (pss_one (ps_if (pt_cmpR (r := rIn K true) op_notIn_seq (pv 6) (pv 3) (by rfl))
  (pss_one (ps_expr (pe_bm PySem.F.plainAttrs_list PySem.F.slot_list_append PySem.F.type_list_append mt_append (pv 3) (pa_cons (pv 6) pa_nil))))
  pss_nil))))))))
  (pss_one (ps_ret (pv 3))))), ?_⟩
    walk_at "go"
    refine ⟨Nat.zero_le _, Rd.new fun l G nl gl sG => ?_⟩
    have ⟨lt, lc⟩ := tp.new nl
    walk_at "go"
    refine Rd.forS ?_
    walk_at "go"
    refine pickR (by k_extra "tape") (by decide) (by decide) fun many H1 m0 m1 tp1 b1 => ?_
    walk_at "go"
    refine ⟨by omega, by omega, ?_⟩
    have bG : Rd.But t H H1 := by k_extra "but"
    refine for_range (lo := 0) (n := many.toNat) (fun i σ H' => ∃ (us : List Str) (o4 o5 o6 : Option V), σ = [some (.ref t), some (.ref a), some (.str z), some (.ref l), o4, o5, o6] ∧ Tape H' t c ∧ Rd.But t H H' ∧ H' l = some (.lst (us.map V.str)) ∧ us.Nodup ∧ us.length ≤ i ∧ ∀ y ∈ us, Lt.Wd 12 y)
      ⟨[], _, _, _, rfl, tp1, bG, b1 _ _ lt gl, .nil, Nat.le_refl _, fun y h => by simp at h⟩ ?_ ?_
    · clear tp tp1 b1 bG sG gl
      rintro i _ H2 hi ⟨us, o4, o5, o6, rfl, tp2, b2, gl2, nd, ul, hu⟩
      walk_at "go"
      refine pickR tp2 (by decide) (by decide) fun kind H3 k0 k1 tp3 b3 => ?_
      walk_at "go"
      refine ⟨t, c, z, rfl, tp3, hz, z0, z1, fun y H4 hy tp4 b4 => ?_⟩
      have gl4 : H4 l = some (.lst (us.map V.str)) := by k_extra "at"
      have b24 : Rd.But t H H4 := by k_extra "but"
      clear tp2 tp3 b2 b3 b4 gl2
      walk_at "go"
      let Mid := fun (σ : L2.St) (H' : Hp) => ∃ y : Str, σ = [some (.ref t), some (.ref a), some (.str z), some (.ref l), some (.int (0 + (i : Int))), some (.int kind), some (.str y)] ∧ Lt.Wd 12 y ∧ Tape H' t c ∧ Rd.But t H H' ∧ H' l = some (.lst (us.map V.str))
      refine Rd.cut Mid ?_ ?_
      · walk_at "rd"
        refine ite2 (fun c1 => ?_) (fun c1 => ?_)
        · walk_at "rd"
          refine Rd.lenS (.inl (.of (b24 _ _ at' ga))) ?_
          walk_at "rd"
          refine ite2 (fun c2 => ?_) (fun c2 => ?_)
          · walk_at "rd"
            refine Rd.lenS (.inl (.of (b24 _ _ at' ga))) ?_
            walk_at "rd"
            refine pickR tp4 (by omega) (by omega) fun r H6 r0 r1 tp6 b6 => ?_
            have sl : r.toNat < ws.length := by omega
            refine Rd.ixL (.of (b6 _ _ at' (b24 _ _ at' ga))) (Rd.atI_of r0 (Rd.map_str sl)) ?_
            have w2 := hw _ (List.getElem_mem sl)
            walk_at "rd"
            exact ⟨_, rfl, w2, tp6, b24.trans b6, b6 _ _ lt gl4⟩
          · walk_at "rd"
            exact ⟨y, rfl, hy, tp4, b24, gl4⟩
        · walk_at "rd"
          exact ⟨y, rfl, hy, tp4, b24, gl4⟩
      · clear tp4 b24 gl4 hy
        rintro _ H5 ⟨y, rfl, hy, tp5, b5, gl5⟩
        walk_at "rd"
        refine Rd.cut Mid ?_ ?_
        · walk_at "rd"
          refine ite2 (fun c1 => ?_) (fun c1 => ?_)
          · walk_at "rd"
            refine Rd.lenS (.inl (.of (b5 _ _ at' ga))) ?_
            walk_at "rd"
            refine ite2 (fun c2 => ?_) (fun c2 => ?_)
            · walk_at "rd"
              refine Rd.lenS (.inl (.of (b5 _ _ at' ga))) ?_
              walk_at "rd"
              refine pickR tp5 (by omega) (by omega) fun r H6 r0 r1 tp6 b6 => ?_
              have sl : r.toNat < ws.length := by omega
              have w2 := hw _ (List.getElem_mem sl)
              refine Rd.ixL (.of (b6 _ _ at' (b5 _ _ at' ga))) (Rd.atI_of r0 (Rd.map_str sl)) ?_
              generalize ws[r.toNat] = y2 at w2
              have l1 := hy.l1
              have l2 := w2.l1
              have l0 := hy.l0
              have la := Lt.len_app y y2
              refine Rd.addS (by rw [sizeLine_eq]; omega) ?_
              walk_at "rd"
              refine Rd.slS (by rw [sizeLine_eq]; omega) ?_
              have e := Lt.cut_to (z := y ++ y2) (b := 12) (by omega)
              walk_at "rd"
              exact ⟨_, rfl, ⟨(hy.ok.app w2.ok).cut _ _, by omega, by omega⟩, tp6, b5.trans b6, b6 _ _ lt gl5⟩
            · walk_at "rd"
              exact ⟨y, rfl, hy, tp5, b5, gl5⟩
          · walk_at "rd"
            exact ⟨y, rfl, hy, tp5, b5, gl5⟩
        · clear hy tp5 b5 gl5
          rintro _ H5 ⟨y, rfl, hy, tp5, b5, gl5⟩
          walk_at "rd"
          refine Rd.cut Mid ?_ ?_
          · walk_at "rd"
            refine ite2 (fun c1 => ?_) (fun c1 => ?_)
            · walk_at "rd"
              refine Rd.lenStr (hy.line (by decide)) ?_
              walk_at "rd"
              refine ite2 (fun c2 => ?_) (fun c2 => ?_)
              · walk_at "rd"
                refine Rd.lenStr (hy.line (by decide)) ?_
                have l1 := hy.l1
                walk_at "rd"
                refine pickR tp5 (by omega) (by omega) fun r H6 r0 r1 tp6 b6 => ?_
                walk_at "rd"
                refine Rd.slS (hy.line (by decide)) ?_
                have e := Lt.cut_from (z := y) (a := r) r0 (by omega)
                walk_at "rd"
                exact ⟨_, rfl, ⟨hy.ok.cut _ _, by omega, by omega⟩, tp6, b5.trans b6, b6 _ _ lt gl5⟩
              · walk_at "rd"
                exact ⟨y, rfl, hy, tp5, b5, gl5⟩
            · walk_at "rd"
              exact ⟨y, rfl, hy, tp5, b5, gl5⟩
          · clear hy tp5 b5 gl5
            rintro _ H5 ⟨y, rfl, hy, tp5, b5, gl5⟩
            walk_at "rd"
            refine Rd.inStrsN (.inl (.of gl5)) ?_
            walk_at "rd"
            refine ite2 (fun c2 => ?_) (fun c2 => ?_)
            · walk_at "rd"
              exact ⟨us, _, _, _, rfl, tp5, b5, gl5, nd, by omega, hu⟩
            · walk_at "rd"
              refine Rd.tyL (.of gl5) ?_
              walk_at "rd"
              refine Rd.app gl5 (by k_extra "sz") fun G2 g2 off2 => ?_
              walk_at "rd"
              refine ⟨us ++ [y], _, _, _, rfl, tp5.off lt lc off2, Rd.but_off' b5 nl off2, by rw [List.map_append]; exact g2, ta_nd nd c2, by rw [List.length_append]; exact Nat.succ_le_succ ul, fun x hx => ?_⟩
              rcases List.mem_append.mp hx with h | h
              · exact hu x h
              · simp at h
                rw [h]
                exact hy
    · rintro _ H2 ⟨us, o4, o5, o6, rfl, tp2, b2, gl2, nd, ul, hu⟩
      walk_at "rd"
      exact k l us H2 tp2 b2 nl gl2 nd (by omega) hu

end
end W

namespace W
open PySem PySem.Spec PyProof.Rows L2
section
variable {P : Program} {w : World} {K : PySem.W.Frag} {mg : Str → Option Value} {base : Heap}
/-! ### the fewest steps, by rounds -/
/-- the spots at k steps or fewer -/
def Rch (A : Nat → Nat → Prop) (k : Nat) (rs : List Int) : Prop := rs.Nodup ∧ ∀ x, x ∈ rs ↔ ∃ j : Nat, x = j ∧ ∃ m, m ≤ k ∧ Mz.Steps A m 0 j
/-- rs and what a step of R finds beside it -/
def Cl (R : Nat → Nat → Prop) (rs ms : List Int) : Prop := ms.Nodup ∧ ∀ x, x ∈ ms ↔ x ∈ rs ∨ ∃ i j : Nat, x = j ∧ (i : Int) ∈ rs ∧ R i j
theorem Cl.iff {R S : Nat → Nat → Prop} {rs ms : List Int} (h : Cl R rs ms) (s : ∀ i j, S i j ↔ R i j) : Cl S rs ms := ⟨h.1, fun x => (h.2 x).trans (or_congr_right ⟨fun ⟨i, j, e, m, r⟩ => ⟨i, j, e, m, (s i j).mpr r⟩, fun ⟨i, j, e, m, r⟩ => ⟨i, j, e, m, (s i j).mp r⟩⟩)⟩
theorem Cl.old {R S : Nat → Nat → Prop} {rs ms : List Int} {a b : Nat} (h : Cl R rs ms) (s : ∀ i j, S i j ↔ R i j ∨ (i = a ∧ j = b)) (q : (a : Int) ∈ rs → (b : Int) ∈ ms) : Cl S rs ms := by
  refine ⟨h.1, fun x => ⟨fun m => ((h.2 x).mp m).imp id fun ⟨i, j, e, m, r⟩ => ⟨i, j, e, m, (s i j).mpr (.inl r)⟩, ?_⟩⟩
  rintro (m | ⟨i, j, e, m, r⟩)
  · exact (h.2 x).mpr (.inl m)
  · rcases (s i j).mp r with r | ⟨rfl, rfl⟩
    · exact (h.2 x).mpr (.inr ⟨i, j, e, m, r⟩)
    · rw [e]
      exact q m
theorem Cl.put {R S : Nat → Nat → Prop} {rs ms : List Int} {a b : Nat} (h : Cl R rs ms) (s : ∀ i j, S i j ↔ R i j ∨ (i = a ∧ j = b)) (ha : (a : Int) ∈ rs) (hb : (b : Int) ∉ ms) : Cl S rs (ms ++ [(b : Int)]) := by
  refine ⟨snoc_nodup h.1 hb, fun x => ?_⟩
  rw [List.mem_append, List.mem_singleton]
  constructor
  · rintro (m | rfl)
    · exact ((h.2 x).mp m).imp id fun ⟨i, j, e, m, r⟩ => ⟨i, j, e, m, (s i j).mpr (.inl r)⟩
    · exact .inr ⟨a, b, rfl, ha, (s a b).mpr (.inr ⟨rfl, rfl⟩)⟩
  · rintro (m | ⟨i, j, e, m, r⟩)
    · exact .inl ((h.2 x).mpr (.inl m))
    · rcases (s i j).mp r with r | ⟨rfl, rfl⟩
      · exact .inl ((h.2 x).mpr (.inr ⟨i, j, e, m, r⟩))
      · exact .inr e
theorem Cl.le {R : Nat → Nat → Prop} {rs ms : List Int} {n : Nat} (h : Cl R rs ms) (hR : ∀ i j, R i j → j ≤ n) (hr : ∀ x ∈ rs, 0 ≤ x ∧ x ≤ n) : ∀ x ∈ ms, 0 ≤ x ∧ x ≤ n := by
  intro x m
  rcases (h.2 x).mp m with m | ⟨i, j, e, _, r⟩
  · exact hr x m
  · have := hR i j r
    omega
theorem Rch.next {A : Nat → Nat → Prop} {k : Nat} {rs ms : List Int} (h : Rch A k rs) (c : Cl A rs ms) : Rch A (k + 1) ms := by
  refine ⟨c.1, fun x => (c.2 x).trans ⟨?_, ?_⟩⟩
  · rintro (m | ⟨i, j, e, m, r⟩)
    · obtain ⟨j, e, m, hm, s⟩ := (h.2 x).mp m
      exact ⟨j, e, m, by omega, s⟩
    · obtain ⟨i', e', m, hm, s⟩ := (h.2 _).mp m
      have : i = i' := by omega
      subst this
      exact ⟨j, e, m + 1, by omega, i, s, r⟩
  · rintro ⟨j, e, m, hm, s⟩
    rcases Nat.lt_or_ge k m with q | q
    · have : m = k + 1 := by omega
      subst this
      obtain ⟨y, s, r⟩ := s
      exact .inr ⟨y, j, e, (h.2 _).mpr ⟨y, rfl, k, Nat.le_refl _, s⟩, r⟩
    · exact .inl ((h.2 _).mpr ⟨j, e, m, q, s⟩)
theorem Rch.le {A : Nat → Nat → Prop} {k n : Nat} {rs : List Int} (h : Rch A k rs) (hA : ∀ i j, A i j → j ≤ n) : ∀ x ∈ rs, 0 ≤ x ∧ x ≤ n := by
  intro x m
  obtain ⟨j, e, m, _, s⟩ := (h.2 x).mp m
  have := s.le hA (Nat.zero_le n)
  omega
theorem Rch.start {A : Nat → Nat → Prop} : Rch A 0 [0] := by
  refine ⟨by simp, fun x => ?_⟩
  rw [List.mem_singleton]
  constructor
  · rintro rfl
    exact ⟨0, rfl, 0, Nat.le_refl _, rfl⟩
  · rintro ⟨j, e, m, hm, s⟩
    have : m = 0 := by omega
    subst this
    have : 0 = j := s
    omega
/-- the steps that the pairs ahead of the t-th allow -/
def PairB (R : Nat → Nat → Prop) (m w t : Nat) (i j : Nat) : Prop := R i j ∨ (0 < t ∧ i = m ∧ j = m + w) ∨ (1 < t ∧ i = m + w ∧ j = m)
theorem pairB_step {R : Nat → Nat → Prop} {m w t : Nat} (h : t < 2) : ∃ a b : Nat, (a = if t = 0 then m else m + w) ∧ (b = if t = 0 then m + w else m) ∧ ∀ i j, PairB R m w (t + 1) i j ↔ PairB R m w t i j ∨ (i = a ∧ j = b) := by
  refine ⟨_, _, rfl, rfl, fun i j => ?_⟩
  unfold PairB
  rcases t with _ | _ | t
  · simp
  · simp
    constructor
    · rintro (h | h | h)
      · exact .inl (.inl h)
      · exact .inl (.inr h)
      · exact .inr h
    · rintro ((h | h) | h)
      · exact .inl h
      · exact .inr (.inl h)
      · exact .inr (.inr h)
  · omega
def sp_l_fewest (K : PySem.W.Frag) : Sp := fun vs H Q _ => ∃ (a : Addr) (ws : List Str) (z : Str) (d : Nat), vs = [.ref a, .str z] ∧ SqL K H a (ws.map V.str) ∧ (∀ W ∈ ws, 1 ≤ W.length ∧ W.length ≤ 1000) ∧ ws.length ≤ 100 ∧ z.length ≤ 1000 ∧ Mz.Dist (Mw.Adj ws z) 0 z.length d ∧
  ∀ H', Same H H' → Q (.int (d : Nat)) H'
theorem ok_l_fewest (T : Txt K mg) : FnOk P w K mg base CX0 1 T.f_l_fewest T.fd_l_fewest ["_law_watches_here", "_law_word_here"] (sp_l_fewest K) := by
  refine T.F_l_fewest.ok sc_l_fewest (fun vs H Q E h => ?_) (fun cdv A outer s H vs Q E hr h => ?_)
  · obtain ⟨a, ws, z, d, rfl, _⟩ := h
    rfl
  · obtain ⟨a, ws, z, d, rfl, hS, hw, l1, l2, hd, k⟩ := h
    refine ⟨_, (pss_cons (ps_set (i := 2) sc_l_fewest.nd rfl (.inl rfl) (pe_lst (pa_cons pe_int pa_nil)))
  (pss_cons (ps_for PassesOwn.never rfl (pi_range1 rfl T.n_range (pa_cons (pe_op op_add (pe_callB (id := "len") (r := _) Rd.c_lenS (by rfl) T.n_len (by decide +kernel) (pa_cons (pv 1) pa_nil)) pe_int) pa_nil)) (pg_name (i := 3) sc_l_fewest.nd rfl (.inl rfl))
  (pss_cons (ps_if (pt_cmpR (r := rIn K false) op_in_seq (pe_callB (id := "len") (r := _) Rd.c_lenS (by rfl) T.n_len (by decide +kernel) (pa_cons (pv 1) pa_nil)) (pv 2) (by rfl))
  (pss_one (ps_ret (pv 3)))
  pss_nil)
  (pss_cons (ps_set (i := 4) sc_l_fewest.nd rfl (.inl rfl) (pe_callTy (T := "list") (r := Rd.nListOf K) Rd.c_listOf (by rfl) T.n_list (by decide +kernel) (pa_cons (pv 2) pa_nil)))
  (pss_cons (ps_for PassesOwn.never rfl (pi_list (pv 0)) (pg_name (i := 5) sc_l_fewest.nd rfl (.inl rfl))
  (pss_one (ps_for PassesOwn.never rfl (pi_range1 rfl T.n_range (pa_cons (pe_op op_add (pe_op op_sub (pe_callB (id := "len") (r := _) Rd.c_lenS (by rfl) T.n_len (by decide +kernel) (pa_cons (pv 1) pa_nil)) (pe_callB (id := "len") (r := _) Rd.c_lenS (by rfl) T.n_len (by decide +kernel) (pa_cons (pv 5) pa_nil))) pe_int) pa_nil)) (pg_name (i := 6) sc_l_fewest.nd rfl (.inl rfl))
  (pss_one (ps_if (pt_cmpR op_eq (pe_slice sl_str (pv 1) (po_some (pv 6)) (po_some (pe_op op_add (pv 6) (pe_callB (id := "len") (r := _) Rd.c_lenS (by rfl) T.n_len (by decide +kernel) (pa_cons (pv 5) pa_nil))))) (pv 5) (nomark _))
  (pss_one (ps_for PassesOwn.never rfl (pi_list (pe_lst (pa_cons (pe_tup (pa_cons (pv 6) (pa_cons (pe_op op_add (pv 6) (pe_callB (id := "len") (r := _) Rd.c_lenS (by rfl) T.n_len (by decide +kernel) (pa_cons (pv 5) pa_nil))) pa_nil))) (pa_cons (pe_tup (pa_cons (pe_op op_add (pv 6) (pe_callB (id := "len") (r := _) Rd.c_lenS (by rfl) T.n_len (by decide +kernel) (pa_cons (pv 5) pa_nil))) (pa_cons (pv 6) pa_nil))) pa_nil)))) (pg_name (i := 7) sc_l_fewest.nd rfl (.inl rfl))
  (pss_one (ps_if (PW.pt (pw_and (pt_cmpR (r := rIn K false) op_in_seq (pe_ix (r := rIxT K) ix_tup (pv 7) pe_int (fun _ _ => rfl)) (pv 2) (by rfl)) (pw_and1 (pt_cmpR (r := rIn K true) op_notIn_seq (pe_ix (r := rIxT K) ix_tup (pv 7) pe_int (fun _ _ => rfl)) (pv 4) (by rfl)))))
  (pss_one (ps_expr (pe_bm PySem.F.plainAttrs_list PySem.F.slot_list_append PySem.F.type_list_append mt_append (pv 4) (pa_cons (pe_ix (r := rIxT K) ix_tup (pv 7) pe_int (fun _ _ => rfl)) pa_nil))))
  pss_nil))))
  pss_nil)))))
  (pss_one (ps_set (i := 2) sc_l_fewest.nd rfl (.inl rfl) (pv 4)))))))
  (pss_one (ps_ret pe_non)))), ?_⟩
    have zl : z.length ≤ sizeLine := by rw [sizeLine_eq]; omega
    have aL : ∀ i j, Mw.Adj ws z i j → j ≤ z.length := fun i j h => h.le.2
    have dl := hd.le aL (Nat.zero_le _)
    walk_at "go"
    refine ⟨Nat.le_of_ble_eq_true rfl, Rd.new fun r0 G0 nr0 gr0 sG0 => ?_⟩
    walk_at "go"
    refine Rd.forS ?_
    walk_at "go"
    refine ⟨by omega, by omega, ?_⟩
    refine for_range (lo := 0) (n := ((z.length : Int) + 2).toNat) (fun n σ H' => ∃ (r : Addr) (rs : List Int) (o3 o4 o5 o6 o7 : Option V), σ = [some (.ref a), some (.str z), some (.ref r), o3, o4, o5, o6, o7] ∧ Same H H' ∧ H r = none ∧ H' r = some (.lst (rs.map V.int)) ∧ Rch (Mw.Adj ws z) n rs ∧ n ≤ d)
      ⟨r0, [0], none, none, none, none, none, rfl, sG0, nr0, gr0, Rch.start, Nat.zero_le _⟩ ?_ ?_
    · clear sG0 gr0 nr0
      rintro n _ H1 hn ⟨r, rs, o3, o4, o5, o6, o7, rfl, s1, nr, gr, hr, nd⟩
      have rsl := Mw.nodup_range hr.1 (hr.le aL)
      walk_at "go"
      rw [Int.zero_add]
      refine ite2 (fun c => ?_) (fun c => ?_)
      · walk_at "go"
        obtain ⟨j, e, m, hm, s⟩ := (hr.2 _).mp c
        have : j = z.length := by omega
        subst this
        rcases Nat.lt_or_ge m d with q | q
        · exact absurd s (hd.2 m q)
        · have : n = d := by omega
          rw [this]
          exact k _ s1
      · have nd' : n + 1 ≤ d := by
          rcases Nat.lt_or_ge n d with q | q
          · exact q
          · exact absurd ((hr.2 _).mpr ⟨z.length, rfl, d, q, hd.1⟩) c
        walk_at "go"
        refine Rd.listOf (.inl (.of gr)) (Rd.new fun l G2 nl gl s2 => ?_)
        have nl0 : H l = none := s1.free nl
        have nrl : r ≠ l := ne_of_none gr nl
        have s12 : Same H G2 := s1.trans s2
        have gr2 : G2 r = some (.lst (rs.map V.int)) := s2 _ _ gr
        clear s1 s2 gr nl
        walk_at "go"
        refine Rd.forS ?_
        walk_at "go"
        refine ⟨⟨_, s12.seq hS⟩, for_list (K := K) (a := a) (xs := ws.map V.str) (fun t σ H' => ∃ (ms : List Int) (o5 o6 o7 : Option V), σ = [some (.ref a), some (.str z), some (.ref r), some (.int (n : Nat)), some (.ref l), o5, o6, o7] ∧ H' r = some (.lst (rs.map V.int)) ∧ H' l = some (.lst (ms.map V.int)) ∧ Same H H' ∧ Cl (Mw.Adj (ws.take t) z) rs ms)
          ⟨rs, _, _, _, rfl, gr2, gl, s12, hr.1, fun x => ⟨.inl, fun h => h.elim id fun ⟨_, _, _, _, r⟩ => (Mw.adj_nil r).elim⟩⟩ (fun t σ H' _ ⟨_, _, _, _, _, _, _, s, _⟩ => s.seq hS) ?_ ?_⟩
        · clear gl s12 gr2
          rintro t x _ H1 hx ⟨ms, o5, o6, o7, rfl, gr1, gl1, s1, L⟩
          obtain ⟨W, hW, rfl⟩ := Rd.map_strG hx
          have wl := hw W (List.mem_of_getElem? hW)
          have wz : W.length ≤ sizeLine := by rw [sizeLine_eq]; omega
          walk_at "go"
          refine Rd.forS ?_
          walk_at "go"
          refine ⟨by omega, by omega, ?_⟩
          refine for_range (lo := 0) (n := ((z.length : Int) - (W.length : Int) + 1).toNat) (fun m σ H' => ∃ (ms : List Int) (o6 o7 : Option V), σ = [some (.ref a), some (.str z), some (.ref r), some (.int (n : Nat)), some (.ref l), some (.str W), o6, o7] ∧ H' r = some (.lst (rs.map V.int)) ∧ H' l = some (.lst (ms.map V.int)) ∧ Same H H' ∧ Cl (Mw.AdjB (ws.take t) W z m) rs ms)
            ⟨ms, _, _, rfl, gr1, gl1, s1, L.iff fun i j => Mw.adjB_zero⟩ ?_ ?_
          · clear gr1 gl1 s1 L
            rintro m _ H2 hm ⟨ms, o6, o7, rfl, gr1, gl1, s1, L⟩
            have mz : m + W.length ≤ z.length := by omega
            walk_at "go"
            rw [Int.zero_add]
            refine ite2 (fun q => ?_) (fun q => ?_)
            · have oc : Mw.Occ W z m := ⟨mz, q⟩
              walk_at "go"
              refine Rd.forS ?_
              walk_at "go"
              refine ⟨Nat.le_of_ble_eq_true rfl, Rd.new fun p1 G3 n1 g1 s2 => ?_⟩
              walk_at "go"
              refine ⟨Nat.le_of_ble_eq_true rfl, Rd.new fun p2 G4 n2 g2 s3 => ?_⟩
              walk_at "go"
              refine ⟨Nat.le_of_ble_eq_true rfl, Rd.new fun p3 G5 n3 g3 s4 => ?_⟩
              walk_at "go"
              have s5 : Same H2 G5 := (s2.trans s3).trans s4
              have s15 : Same H G5 := s1.trans s5
              have l1' : l ≠ p1 := ne_of_none gl1 n1
              have l2' : l ≠ p2 := ne_of_none (s2 _ _ gl1) n2
              have l3' : l ≠ p3 := ne_of_none (s3 _ _ (s2 _ _ gl1)) n3
              have g1' : G5 p1 = some (.tup [.int (m : Int), .int ((m : Int) + W.length)]) := s4 _ _ (s3 _ _ g1)
              have g2' : G5 p2 = some (.tup [.int ((m : Int) + W.length), .int (m : Int)]) := s4 _ _ g2
              have grr := s5 _ _ gr1
              have gll := s5 _ _ gl1
              clear s1 s2 s3 s4 s5 g1 g2 n1 n2 n3 gr1 gl1
              refine ⟨⟨_, .of g3⟩, for_list (K := K) (a := p3) (xs := [.ref p1, .ref p2]) (fun t' σ H' => ∃ (ms : List Int) (o7 : Option V), σ = [some (.ref a), some (.str z), some (.ref r), some (.int (n : Nat)), some (.ref l), some (.str W), some (.int (m : Nat)), o7] ∧ H' r = some (.lst (rs.map V.int)) ∧ H' l = some (.lst (ms.map V.int)) ∧ Same H H' ∧ (H' p1 = some (.tup [.int (m : Int), .int ((m : Int) + W.length)]) ∧ H' p2 = some (.tup [.int ((m : Int) + W.length), .int (m : Int)]) ∧ H' p3 = some (.lst [.ref p1, .ref p2])) ∧ Cl (PairB (Mw.AdjB (ws.take t) W z m) m W.length t') rs ms)
                ⟨ms, _, rfl, grr, gll, s15, ⟨g1', g2', g3⟩, L.iff fun i j => ⟨fun h => h.elim id fun h => by omega, .inl⟩⟩ (fun t' σ H' _ ⟨_, _, _, _, _, _, ⟨_, _, e⟩, _⟩ => .of e) ?_ ?_⟩
              · clear grr gll s15 g1' g2' g3 L
                rintro t' x _ H3 hx ⟨ms, o7, rfl, gr3, gl3, s3, ⟨e1, e2, e3⟩, L⟩
                have t2 : t' < 2 := (List.getElem?_eq_some_iff.mp hx).1
                obtain ⟨b1, b2, hb1, hb2, hb⟩ := pairB_step (R := Mw.AdjB (ws.take t) W z m) (m := m) (w := W.length) t2
                have aB : ∀ i j, Mw.AdjB (ws.take t) W z m i j → j ≤ z.length := fun i j h => h.elim (fun h => h.le.2) fun h => by rcases h with ⟨_, o, e⟩ | ⟨_, o, e⟩ <;> have := o.1 <;> omega
                have aP : ∀ i j, PairB (Mw.AdjB (ws.take t) W z m) m W.length t' i j → j ≤ z.length := fun i j h => h.elim (aB i j) fun h => by rcases h with ⟨_, _, e⟩ | ⟨_, _, e⟩ <;> omega
                have ml := Mw.nodup_range L.1 (L.le aP (hr.le aL))
                obtain ⟨p, rfl, ep⟩ : ∃ p, x = .ref p ∧ H3 p = some (.tup [.int (b1 : Nat), .int (b2 : Nat)]) := by
                  rcases t' with _ | _ | t'
                  · cases hx
                    exact ⟨p1, rfl, by rw [hb1, hb2]; exact e1⟩
                  · cases hx
                    exact ⟨p2, rfl, by rw [hb1, hb2]; exact e2⟩
                  · omega
                clear hb1 hb2 hx aP aB
                walk_at "go"
                refine Rd.ixT (.of ep) rfl ?_
                walk_at "go"
                refine ite2 (fun c1 => ?_) (fun c1 => ?_)
                · walk_at "go"
                  refine Rd.ixT (.of ep) rfl ?_
                  walk_at "go"
                  refine ite2 (fun c2 => ?_) (fun c2 => ?_)
                  · walk_at "go"
                    exact ⟨ms, _, rfl, gr3, gl3, s3, ⟨e1, e2, e3⟩, L.old hb fun _ => c2⟩
                  · walk_at "go"
                    refine Rd.ixT (.of ep) rfl ?_
                    walk_at "go"
                    refine Rd.app gl3 (by rw [List.length_map, sizeLine_eq]; omega) fun G6 g6 off6 => ?_
                    walk_at "go"
                    refine ⟨ms ++ [(b2 : Int)], _, rfl, by rw [off6 _ nrl]; exact gr3, by rw [List.map_append]; exact g6, Rd.same_off s3 nl0 off6, ⟨by rw [off6 _ l1'.symm]; exact e1, by rw [off6 _ l2'.symm]; exact e2, by rw [off6 _ l3'.symm]; exact e3⟩, L.put hb c1 c2⟩
                · walk_at "go"
                  exact ⟨ms, _, rfl, gr3, gl3, s3, ⟨e1, e2, e3⟩, L.old hb fun h => absurd h c1⟩
              · rintro _ H3 ⟨ms, o7, rfl, gr3, gl3, s3, _, L⟩
                walk_at "go"
                exact ⟨ms, _, _, rfl, gr3, gl3, s3, L.iff fun i j => (Mw.adjB_yes oc).trans (by
                  show _ ↔ PairB _ _ _ 2 i j
                  unfold PairB
                  refine or_congr_right ?_
                  constructor
                  · rintro (⟨h1, h2⟩ | ⟨h1, h2⟩)
                    · exact .inl ⟨by omega, h1, h2⟩
                    · exact .inr ⟨by omega, h2, h1⟩
                  · rintro (⟨_, h1, h2⟩ | ⟨_, h1, h2⟩)
                    · exact .inl ⟨h1, h2⟩
                    · exact .inr ⟨h2, h1⟩)⟩
            · walk_at "go"
              exact ⟨ms, _, _, rfl, gr1, gl1, s1, L.iff fun i j => Mw.adjB_no fun h => q h.2⟩
          · rintro _ H2 ⟨ms, o6, o7, rfl, gr1, gl1, s1, L⟩
            walk_at "go"
            refine ⟨ms, _, _, _, rfl, gr1, gl1, s1, L.iff fun i j => ?_⟩
            rw [Rd.take_snoc hW]
            exact (Mw.adjB_all (by omega)).symm
        · rintro _ H1 ⟨ms, o5, o6, o7, rfl, gr1, gl1, s1, L⟩
          rw [List.length_map, List.take_length] at L
          walk_at "go"
          exact ⟨l, ms, _, _, _, _, _, rfl, s1, nl0, gl1, hr.next L, nd'⟩
    · rintro _ H1 ⟨r, rs, o3, o4, o5, o6, o7, rfl, s1, nr, gr, hr, nd⟩
      exfalso
      omega

end
end W

namespace W
open PySem PySem.Spec PyProof.Rows L2
section
variable {P : Program} {w : World} {K : PySem.W.Frag} {mg : Str → Option Value} {base : Heap}
/-! ### rules judged -/
def sp_l_rule_right (K : PySem.W.Frag) : Sp := fun vs H Q _ => ∃ (a q : Addr) (ws : List Str) (z : Str) (P : List Nat), vs = [.ref a, .str z, .ref q] ∧ SqL K H a (ws.map V.str) ∧ (∀ W ∈ ws, 1 ≤ W.length ∧ W.length ≤ 1000) ∧ ws.length ≤ 100 ∧ z.length ≤ 900 ∧ StepsAt H q (stepsOf z P) ∧ Mz.Gr (Mw.Adj ws z) z.length 0 P ∧
  ∀ H', Same H H' → Q (.bl true) H'
theorem step_in {ws : List Str} {z : Str} (hw : ∀ W ∈ ws, 1 ≤ W.length ∧ W.length ≤ 1000) {i j : Nat} (r : Mw.Adj ws z i j) : (stepOf z i j).2 ∈ ws := by
  have h := ((adj_near (fun W m => (hw W m).1) r.le.1 r.le.2).mp r).2
  unfold stepOf
  by_cases c : i < j
  · rw [if_pos c]
    rwa [show min (i : Int) (j : Int) = i by omega, show max (i : Int) (j : Int) = j by omega] at h
  · rw [if_neg c]
    rwa [show min (i : Int) (j : Int) = j by omega, show max (i : Int) (j : Int) = i by omega] at h
theorem ok_l_rule_right (T : Txt K mg) : FnOk P w K mg base CX0 2 T.f_l_rule_right T.fd_l_rule_right ["_law_watches_here", "_law_watch", "_law_steps"] (sp_l_rule_right K) := by
  refine T.F_l_rule_right.ok sc_l_rule_right (fun vs H Q E h => ?_) (fun cdv A outer s H vs Q E hr h => ?_)
  · obtain ⟨a, q, ws, z, P, rfl, _⟩ := h
    rfl
  · obtain ⟨a, q, ws, z, P, rfl, hS, hw, l1, l2, hq, g, k⟩ := h
    refine ⟨_, (pss_cons (ps_if (PW.pt (pw_or (pt_not (pt_val (pe_callB (id := "isinstance") (r := rIsi K) call_isi (by rfl) T.n_isinstance (by decide +kernel) (pa_cons (pv 2) (pa_cons (pe_bltn (v := .ty "tuple") (u := .type "tuple") (by rfl) T.n_tuple (by decide +kernel) rfl) pa_nil))))) (pw_or1 (pt_cmpR op_ne (pe_callB (id := "len") (r := Rd.nLen K) Rd.c_len (by rfl) T.n_len (by decide +kernel) (pa_cons (pv 2) pa_nil)) (pe_call (ok_l_fewest T) (hr.mono (by decide)) rfl T.g_l_fewest T.F_l_fewest.kp T.b_l_fewest .nil pass0 (pa_cons (pv 0) (pa_cons (pv 1) pa_nil))) (nomark _)))))
  (pss_one (ps_ret pe_bl))
  pss_nil)
  (pss_cons (ps_for PassesOwn.never rfl (pi_tup (pv 2)) (pg_name (i := 3) sc_l_rule_right.nd rfl (.inl rfl))
  (pss_one (ps_if (PW.pt (pw_or (pt_not (pt_val (pe_callB (id := "isinstance") (r := rIsi K) call_isi (by rfl) T.n_isinstance (by decide +kernel) (pa_cons (pv 3) (pa_cons (pe_bltn (v := .ty "tuple") (u := .type "tuple") (by rfl) T.n_tuple (by decide +kernel) rfl) pa_nil))))) (pw_or (pt_cmpR op_ne (pe_callB (id := "len") (r := Rd.nLen K) Rd.c_len (by rfl) T.n_len (by decide +kernel) (pa_cons (pv 3) pa_nil)) pe_int (nomark _)) (pw_or1 (pt_cmpR (r := rIn K true) op_notIn_seq (pe_ix (r := rIxT K) ix_tup (pv 3) pe_int (fun _ _ => rfl)) (pv 0) (by rfl))))))
  (pss_one (ps_ret pe_bl))
  pss_nil)))
  (pss_cons (ps_set (i := 4) sc_l_rule_right.nd rfl (.inl rfl) (pe_call (ok_l_spots T) (hr.mono (by decide)) rfl T.g_l_spots T.F_l_spots.kp T.b_l_spots .nil pass0 (pa_cons (pv 1) (pa_cons (pv 2) pa_nil))))
  (pss_one (ps_ret (pe_and (pe_cmpR op_notN (pv 4) pe_non (nomark _)) (pe_one (pe_cmpR op_eq (pe_ix (r := rIxL K) ix_list (pv 4) (pe_un un_neg pe_int) (fun _ _ => rfl)) (pe_callB (id := "len") (r := _) Rd.c_lenS (by rfl) T.n_len (by decide +kernel) (pa_cons (pv 1) pa_nil)) (nomark _))))))))), ?_⟩
    have zl : z.length ≤ sizeLine := by rw [sizeLine_eq]; omega
    obtain ⟨d, hd, pd⟩ := gr_dist g
    obtain ⟨hP0, hPl, hPa⟩ := gr_chain g
    have ⟨n0, pl, _⟩ := gr_len (fun i j h => h.le.2) (Nat.zero_le _) g
    obtain ⟨rs, hrs, rl, hr⟩ := hq.row
    rw [stepsOf_len] at rl
    walk_at "go"
    refine Rd.isi (Ru.ty_T (.of hrs)) (by decide +kernel : kitB "tuple" "tuple" = some true) ?_
    walk_at "go"
    refine ⟨a, ws, z, d, rfl, hS, hw, l1, by omega, hd, fun H1 s1 => ?_⟩
    walk_at "go"
    refine Rd.yes (by omega) ?_
    walk_at "go"
    refine Rd.forS ?_
    walk_at "go"
    refine ⟨⟨_, .of (s1 _ _ hrs)⟩, for_tup (K := K) (a := q) (xs := rs.map V.ref) (fun i σ H' => ∃ (o3 o4 : Option V), σ = [some (.ref a), some (.str z), some (.ref q), o3, o4] ∧ Same H H')
      ⟨_, _, rfl, s1⟩ (fun i σ H' _ ⟨_, _, _, s⟩ => .of (s _ _ hrs)) ?_ ?_⟩
    · rintro i x _ H2 hx ⟨o3, o4, rfl, s2⟩
      obtain ⟨r, hri, rfl⟩ := Rd.map_refG hx
      have ri := (List.getElem?_eq_some_iff.mp hri).1
      have ha : P[i]? = some (P[i]'(by omega)) := List.getElem?_eq_getElem _
      have hb : P[i + 1]? = some (P[i + 1]'(by omega)) := List.getElem?_eq_getElem _
      have ad := hPa _ _ _ ha hb
      generalize P[i]'(by omega) = b1 at ha ad
      generalize P[i + 1]'(by omega) = b2 at hb ad
      obtain ⟨st, hst, gr⟩ := hr i r hri
      rw [stepsOf_get ha (by rw [List.getElem?_tail]; exact hb)] at hst
      cases hst
      have gr2 := s2 _ _ gr
      have sin := step_in hw ad
      walk_at "go"
      refine Rd.isi (Ru.ty_T (.of gr2)) (by decide +kernel : kitB "tuple" "tuple" = some true) ?_
      walk_at "go"
      refine Rd.len (.inr (.of gr2)) ?_
      walk_at "go"
      refine Rd.yes rfl ?_
      walk_at "go"
      refine Rd.ixT (.of gr2) rfl ?_
      walk_at "go"
      refine Rd.yes sin ?_
      walk_at "go"
      exact ⟨_, _, rfl, s2⟩
    · rintro _ H2 ⟨o3, o4, rfl, s2⟩
      walk_at "go"
      refine ⟨q, z, P, rfl, hq.same s2, ⟨hP0, gr_le (fun i j h => h.le.2) (Nat.zero_le _) g, by omega⟩, by omega, fun l H3 s3 nl gl => ?_⟩
      walk_at "go"
      refine Rd.ixL (.of gl) (atI_lastN hPl) ?_
      walk_at "go"
      rw [decide_eq_true rfl]
      exact k _ (s2.trans s3)

end
end W

namespace W
open PySem PySem.Spec PyProof.Rows L2
section
variable {P : Program} {w : World} {K : PySem.W.Frag} {mg : Str → Option Value} {base : Heap}
/-! ### rules as data -/
def ruleD (e : Str × List Nat) : PyData := .tuple [.str e.1, .tuple ((stepsOf e.1 e.2).map stepD)]
def bare (e : Str × Addr × List Nat) : Str × List Nat := (e.1, e.2.2)
theorem rules_same {H H' : Hp} {ws us : List Str} {es fs : List (Str × Addr × List Nat)} (h : RulesOk H ws us es) (h' : RulesOk H' ws us fs) : es.map bare = fs.map bare := by
  have go : ∀ {es fs : List (Str × Addr × List Nat)}, es.map (·.1) = fs.map (·.1) → (∀ e ∈ es, Mz.Gr (Mw.Adj ws e.1) e.1.length 0 e.2.2) → (∀ e ∈ fs, Mz.Gr (Mw.Adj ws e.1) e.1.length 0 e.2.2) → es.map bare = fs.map bare := by
    intro es
    induction es with
    | nil =>
      intro fs e _ _
      cases fs with
      | nil => rfl
      | cons f fs => cases e
    | cons a es ih =>
      intro fs e h1 h2
      cases fs with
      | nil => cases e
      | cons b fs =>
        have e1 : a.1 = b.1 := (List.cons.inj e).1
        have e2 := (List.cons.inj e).2
        have g1 := h1 a (List.mem_cons_self ..)
        have g2 := h2 b (List.mem_cons_self ..)
        rw [e1] at g1
        rw [List.map_cons, List.map_cons, ih e2 (fun x m => h1 x (List.mem_cons_of_mem _ m)) (fun x m => h2 x (List.mem_cons_of_mem _ m))]
        unfold bare
        rw [e1, g1.inj g2]
  exact go (h.1.trans h'.1.symm) (fun e m => (h.2 e m).2) fun e m => (h'.2 e m).2
theorem toldOf_nodup {ws us : List Str} (nd : us.Nodup) : (toldOf ws us).Nodup := by
  unfold toldOf
  exact List.Pairwise.sublist List.filter_sublist nd
theorem val_ent : ∀ {es : List (Str × Addr × List Nat)}, (es.map (·.1)).Nodup → ∀ e ∈ es, valV (es.map ent) (.inr e.1) = some (.ref e.2.1)
  | [], _, _, m => by simp at m
  | f :: es, nd, e, m => by
    rw [List.map_cons, List.nodup_cons] at nd
    rcases List.mem_cons.mp m with rfl | m
    · exact valV_pos rfl
    · refine (valV_neg fun q => ?_).trans (val_ent nd.2 e m)
      have : f.1 = e.1 := Sum.inr.inj q
      exact nd.1 (List.mem_map.mpr ⟨e, m, this.symm⟩)
theorem val_none : ∀ {es : List (Str × Addr × List Nat)} {W : Str}, W ∉ es.map (·.1) → valV (es.map ent) (.inr W) = none
  | [], _, _ => rfl
  | f :: es, W, n => by
    rw [List.map_cons, List.mem_cons, not_or] at n
    exact (valV_neg fun q => n.1 (Sum.inr.inj q).symm).trans (val_none n.2)
theorem val_some {es : List (Str × Addr × List Nat)} {W : Str} (nd : (es.map (·.1)).Nodup) : (valV (es.map ent) (.inr W)).isSome = decide (W ∈ es.map (·.1)) := by
  by_cases h : W ∈ es.map (·.1)
  · obtain ⟨e, m, rfl⟩ := List.mem_map.mp h
    rw [val_ent nd e m, decide_eq_true h]
    rfl
  · rw [val_none h, decide_eq_false h]
    rfl
/-! ### their order -/
theorem alike_steps : ∀ ss ts : List (Str × Str), PySem.W.alikeAll (ss.map stepD) (ts.map stepD) = true
  | [], _ => by
    show PySem.W.alikeAll [] _ = true
    rw [PySem.W.alikeAll]
  | _ :: _, [] => by
    show PySem.W.alikeAll (_ :: _) [] = true
    rw [PySem.W.alikeAll]
  | s :: ss, t :: ts => by
    show PySem.W.alikeAll (stepD s :: ss.map stepD) (stepD t :: ts.map stepD) = true
    rw [PySem.W.alikeAll, alike_steps ss ts]
    unfold stepD
    simp [PySem.W.alike, PySem.W.alikeAll]
theorem alike_rules (e f : Str × List Nat) : PySem.W.alike (ruleD e) (ruleD f) = true := by
  have h := alike_steps (stepsOf e.1 e.2) (stepsOf f.1 f.2)
  unfold ruleD
  simp [PySem.W.alike, PySem.W.alikeAll, h]
theorem depth_steps : ∀ ss : List (Str × Str), PyData.depthAll (ss.map stepD) ≤ 1
  | [] => by decide
  | s :: ss => by
    have h := depth_steps ss
    show max (PyData.depth (stepD s)) (PyData.depthAll (ss.map stepD)) ≤ 1
    have : PyData.depth (stepD s) = 1 := rfl
    omega
theorem depth_rule (e : Str × List Nat) : PyData.depth (ruleD e) ≤ 3 := by
  have h := depth_steps (stepsOf e.1 e.2)
  show max (PyData.depth (.str e.1)) (max (PyData.depthAll ((stepsOf e.1 e.2).map stepD) + 1) 0) + 1 ≤ 3
  have : PyData.depth (.str e.1) = 0 := rfl
  omega
theorem rule_keys (es : List (Str × List Nat)) : Rs.Keys (es.map ruleD) where
  al d hd d' hd' := by
    obtain ⟨e, _, rfl⟩ := List.mem_map.mp hd
    obtain ⟨f, _, rfl⟩ := List.mem_map.mp hd'
    exact alike_rules e f
  so := .inl fun d hd => by
    obtain ⟨e, _, rfl⟩ := List.mem_map.mp hd
    exact ⟨_, _, rfl⟩
  dp d hd := by
    obtain ⟨e, _, rfl⟩ := List.mem_map.mp hd
    have := depth_rule e
    omega
theorem lay_steps {z : Str} (hz : Lt.Let z) : ∀ P : List Nat, PyData.canLayAll0 ((stepsOf z P).map stepD) = true
  | i :: j :: P => by
    show (PyData.canLay0 (stepD (stepOf z i j)) && PyData.canLayAll0 ((stepsOf z (j :: P)).map stepD)) = true
    rw [lay_steps hz (j :: P), Bool.and_true]
    unfold stepOf
    split
    · show (PyData.strOk "on" && (PyData.strOk _ && true)) = true
      rw [(hz.cut _ _).ok]
      decide +kernel
    · show (PyData.strOk "back" && (PyData.strOk _ && true)) = true
      rw [(hz.cut _ _).ok]
      decide +kernel
  | [] => rfl
  | [_] => rfl
theorem shaped_steps {z : Str} (hz : Lt.Let z) (P : List Nat) : SeqAt.shaped (.tuple ((stepsOf z P).map stepD)) = true := by
  have h1 : PyData.canLay0 (.tuple ((stepsOf z P).map stepD)) = true := lay_steps hz P
  have h2 : PyData.depth (.tuple ((stepsOf z P).map stepD)) ≤ 2 := Nat.succ_le_succ (depth_steps _)
  unfold SeqAt.shaped
  rw [h1, decide_eq_true (by omega)]
  rfl
theorem shaped_rules {es : List (Str × List Nat)} (h : ∀ e ∈ es, Lt.Let e.1) : SeqAt.shaped (.list (es.map ruleD)) = true := by
  have h1 : ∀ {es : List (Str × List Nat)}, (∀ e ∈ es, Lt.Let e.1) → PyData.canLayAll0 (es.map ruleD) = true := by
    intro es
    induction es with
    | nil => intro _; rfl
    | cons e es ih =>
      intro h
      show (PyData.canLay0 (ruleD e) && PyData.canLayAll0 (es.map ruleD)) = true
      rw [ih fun x m => h x (List.mem_cons_of_mem _ m), Bool.and_true]
      have l := h e (List.mem_cons_self ..)
      show (PyData.strOk e.1 && (PyData.canLayAll0 ((stepsOf e.1 e.2).map stepD) && true)) = true
      rw [l.ok, lay_steps l]
      rfl
  have h2 : ∀ es : List (Str × List Nat), PyData.depthAll (es.map ruleD) ≤ 3 := by
    intro es
    induction es with
    | nil => decide
    | cons e es ih =>
      have := depth_rule e
      show max (PyData.depth (ruleD e)) (PyData.depthAll (es.map ruleD)) ≤ 3
      omega
  have e1 : PyData.canLay0 (.list (es.map ruleD)) = true := h1 h
  have e2 : PyData.depth (.list (es.map ruleD)) ≤ 4 := Nat.succ_le_succ (h2 es)
  unfold SeqAt.shaped
  rw [e1, decide_eq_true (by omega)]
  rfl
/-! ### data where a dict is written -/
def IsDct : HO → Prop
  | .dK _ => True
  | .frz _ (.dK _) => True
  | _ => False
def SqK (H H' : Hp) : Prop := ∀ b o, H b = some o → ¬ IsDct o → H' b = some o
theorem SqK.trans {H H1 H2 : Hp} (a : SqK H H1) (b : SqK H1 H2) : SqK H H2 := fun c o e n => b c o (a c o e n) n
theorem SqK.of {H H1 : Hp} (a : Same H H1) : SqK H H1 := fun c o e _ => a c o e
theorem SqK.off {H H1 : Hp} {d : Addr} {u : HO} (e : H d = some u) (y : IsDct u) (off : ∀ b, b ≠ d → H1 b = H b) : SqK H H1 := fun c o e' n => by
  rw [off c fun q => by subst q; rw [e] at e'; cases e'; exact n y]
  exact e'
theorem lock_back {H G H1 : Hp} {d : Addr} {u : HO} (e : H d = some u) (off : ∀ b, b ≠ d → G b = H b) (s : Same G H1) : Same H (upd H1 d u) := fun b o z => by
  by_cases q : b = d
  · subst q
    rw [e] at z
    cases z
    exact upd_same
  · rw [upd_ne q]
    exact s _ _ (by rw [off b q]; exact z)
mutual
theorem dp_keep {K : PySem.W.Frag} {H H' : Hp} (s : SqK H H') : ∀ (d : PyData) (v : V), Dp K H v d → Dp K H' v d
  | .none, _, h => by cases h; exact .non
  | .bool b, _, h => by cases h; exact .bl b
  | .int i, _, h => by cases h; exact .int i
  | .str x, _, h => by cases h; exact .str x
  | .list ds, _, h => by
    cases h with
    | lst hs ha =>
      refine .lst ?_ (dp_keepAll s ds _ ha)
      rcases hs with (h | ⟨o, h⟩) | h
      · exact .inl (.inl (s _ _ h fun z => z))
      · exact .inl (.inr ⟨o, s _ _ h fun z => z⟩)
      · exact .inr h
  | .tuple ds, _, h => by
    cases h with
    | tup hs ha =>
      refine .tup ?_ (dp_keepAll s ds _ ha)
      rcases hs with (h | ⟨o, h⟩) | h
      · exact .inl (.inl (s _ _ h fun z => z))
      · exact .inl (.inr ⟨o, s _ _ h fun z => z⟩)
      · exact .inr h
  | .dict _, _, h => by cases h
theorem dp_keepAll {K : PySem.W.Frag} {H H' : Hp} (s : SqK H H') : ∀ (ds : List PyData) (vs : List V), DpAll K H vs ds → DpAll K H' vs ds
  | [], _, h => by cases h; exact .nil
  | d :: ds, _, h => by
    cases h with
    | cons h1 h2 => exact .cons (dp_keep s d _ h1) (dp_keepAll s ds _ h2)
end
theorem dpAll_each {K : PySem.W.Frag} {H : Hp} {β : Type} {k : β → PyData} {R : V → β → Prop} : ∀ {xs : List V} {bs : List β}, PySem.W.EachIs (fun x b => Dp K H x (k b) ∧ R x b) xs bs → DpAll K H xs (bs.map k)
  | _, _, .nil => .nil
  | _, _, .cons h t => .cons h.1 (dpAll_each t)
theorem each_snoc2 {β : Type} {R : V → β → Prop} {x : V} {y : β} (hxy : R x y) : ∀ {as : List V} {bs : List β}, PySem.W.EachIs R as bs → PySem.W.EachIs R (as ++ [x]) (bs ++ [y])
  | _, _, .nil => .cons hxy .nil
  | _, _, .cons h t => .cons h (each_snoc2 hxy t)
theorem each_keep {K : PySem.W.Frag} {H H' : Hp} (s : SqK H H') {β : Type} {k : β → PyData} : ∀ {as : List V} {bs : List β}, PySem.W.EachIs (fun x b => Dp K H x (k b) ∧ True) as bs → PySem.W.EachIs (fun x b => Dp K H' x (k b) ∧ True) as bs
  | _, _, .nil => .nil
  | _, _, .cons h t => .cons ⟨dp_keep s _ _ h.1, trivial⟩ (each_keep s t)
/-- the entry e stands as a pair -/
def EntAt (H : Hp) (x : V) (e : Str × Addr × List Nat) : Prop := ∃ T : Addr, x = .ref T ∧ H T = some (.tup [.str e.1, .ref e.2.1])
theorem EntAt.keep {H H' : Hp} (s : ∀ b xs, H b = some (.tup xs) → H' b = some (.tup xs)) : ∀ {as : List V} {es : List (Str × Addr × List Nat)}, PySem.W.EachIs (EntAt H) as es → PySem.W.EachIs (EntAt H') as es
  | _, _, .nil => .nil
  | _, _, .cons ⟨T, e, h⟩ t => .cons ⟨T, e, s _ _ h⟩ (EntAt.keep s t)
theorem EntAt.dp {K : PySem.W.Frag} {H : Hp} : ∀ {as : List V} {es : List (Str × Addr × List Nat)}, (∀ e ∈ es, StepsAt H e.2.1 (stepsOf e.1 e.2.2)) → PySem.W.EachIs (EntAt H) as es → PySem.W.EachIs (fun x b => Dp K H x (ruleD b) ∧ True) as (es.map bare)
  | _, _, _, .nil => .nil
  | _, e :: _, hs, .cons ⟨T, q, h⟩ t => by
    refine .cons ⟨?_, trivial⟩ (EntAt.dp (fun e m => hs e (List.mem_cons_of_mem _ m)) t)
    rw [q]
    exact .tup (.of h) (.cons (.str _) (.cons (hs e (List.mem_cons_self ..)).dp .nil))
/-! ### equal texts or not -/
theorem eqv_strs : ∀ (xs ys : List Str), PyData.eqvAll (xs.map PyData.str) (ys.map PyData.str) = decide (xs = ys)
  | [], [] => rfl
  | [], _ :: _ => rfl
  | _ :: _, [] => rfl
  | x :: xs, y :: ys => by
    show (PyData.eqv (.str x) (.str y) && PyData.eqvAll (xs.map PyData.str) (ys.map PyData.str)) = _
    rw [eqv_strs xs ys, Bool.eq_iff_iff]
    show ((x == y) && decide (xs = ys)) = true ↔ _
    simp
theorem eqStrsD {K : PySem.W.Frag} {H : Hp} {a b : Addr} {ns ms : List Str} {Q : VK} (h1 : SqL K H a (ns.map V.str)) (h2 : SqL K H b (ms.map V.str)) (h : ∀ z ∈ ns, PyData.strOk z = true) (h' : ∀ z ∈ ms, PyData.strOk z = true) (q : Q (.bl (decide (ns = ms))) H) : rEqD K (.ref a) (.ref b) H Q := by
  refine ⟨_, _, .lst h1 (Rd.dpAll_strs ns), .lst h2 (Rd.dpAll_strs ms), Rd.shaped_strs h, Rd.shaped_strs h', ?_⟩
  show Q (.bl (PyData.eqvAll (ns.map PyData.str) (ms.map PyData.str))) H
  rw [eqv_strs]
  exact q
theorem neData {K : PySem.W.Frag} {H : Hp} {a b : Addr} {d : PyData} {Q : VK} (h1 : Dp K H (.ref a) d) (h2 : Dp K H (.ref b) d) (h : SeqAt.shaped d = true) (q : Q (.bl false) H) : rNeD K (.ref a) (.ref b) H Q := by
  refine ⟨_, _, h1, h2, h, h, ?_⟩
  rw [SeqAt.eqv_refl _ (SeqAt.canLay_of_shaped h)]
  exact q
/-- no step without watches -/
theorem told_nil {z : Str} : Mw.Told [] z ↔ z.length = 0 := by
  have h : ∀ n, Mw.Star (Mw.Adj [] z) 0 n → n = 0 := fun n h => by
    cases h with
    | refl => rfl
    | step _ r => exact (Mw.adj_nil r).elim
  unfold Mw.Told
  exact ⟨h _, fun e => by rw [e]; exact .refl⟩
theorem ifAnd {b b1 : Bool} {ib : Decidable (b = true)} {σ : L2.St} {j : Nat} {H : Hp} {Q : VK} (e : σ[j]? = some (some (.bl b1))) (h : Q (.bl (b && b1)) H) : @ite Prop (b = true) ib (tVar j σ H Q) (Q (.bl false) H) := by
  cases b with
  | true => rw [if_pos rfl]; exact ⟨_, e, h⟩
  | false => rw [if_neg (fun z => nomatch z)]; exact h
theorem due_in {ws us : List Str} {es : List (Str × Addr × List Nat)} {H : Hp} (h : RulesOk H ws us es) {W : Str} (m : W ∈ us) : W ∈ es.map (·.1) ↔ Mw.Told ws W := by
  rw [h.1]
  exact toldOf_mem.trans (and_iff_right m)
theorem ne_same {b c : Bool} (h : b = true ↔ c = true) : (b != c) = false := by
  cases b <;> cases c <;> simp_all
theorem book_keep {C : Addr} {H H' : Hp} {b : Addr} {ws : List Str} (s : SqK H H') (h : BookAt C H b ws) : BookAt C H' b ws := let ⟨dx, t, h1, h2⟩ := h; ⟨dx, t, s _ _ h1 fun z => z, s _ _ h2 fun z => z⟩
theorem cut_all (z : Str) : cutS z (some ((0 : Nat) : Int)) (some (((0 : Nat) : Int) + (z.length : Int))) = z := by
  show (⟨((z.cps.toList.drop (HT.sIx z.length 0 (some ((0 : Nat) : Int)))).take (HT.sIx z.length z.length (some (((0 : Nat) : Int) + (z.length : Int))) - HT.sIx z.length 0 (some ((0 : Nat) : Int)))).toArray⟩ : Str) = z
  rw [show ((0 : Nat) : Int) + (z.length : Int) = ((z.length : Nat) : Int) by omega, HT.sIx_nat, HT.sIx_nat]
  have e : (z.cps.toList.drop (min 0 z.length)).take (min z.length z.length - min 0 z.length) = z.cps.toList := by
    rw [Nat.zero_min, Nat.min_self, List.drop_zero, Nat.sub_zero]
    exact List.take_of_length_le (by rw [Array.length_toList]; exact Nat.le_refl _)
  rw [e]
theorem told_self {us : List Str} {z : Str} (h : z ∈ us) : Mw.Told us z := .one ⟨z, h, .inl ⟨⟨by omega, cut_all z⟩, by omega⟩⟩
theorem flagT {K : PySem.W.Frag} {H : Hp} {a b : Bool} {p : Prop} {Q : VK} {E : XK} (ha : a = true ↔ p) (hb : b = true ↔ p) (k : Q (.bl true) H) : sp_l_flag K [.bl a, .bl b] H Q E := flagR (by
  have e : a = b := by rw [Bool.eq_iff_iff]; exact ha.trans hb.symm
  rw [e, beq_self_eq_true]
  exact k)

end
end W

namespace W
open PySem PySem.Spec PyProof.Rows L2
section
variable {P : Program} {w : World} {K : PySem.W.Frag} {mg : Str → Option Value} {base : Heap}
/-! ### the law -/
def sp_law (K : PySem.W.Frag) : Sp := fun vs H Q _ => ∃ (a : Addr) (ns : List Int), vs = [.ref a] ∧ SqL K H a (ns.map V.int) ∧ ns.length ≤ 63 ∧ ∀ H', Q (.bl true) H'
theorem ok_law (T : Txt K mg) : FnOk P w K mg base CX0 6 T.f_law T.fd_law ["_law_script"] (sp_law K) := by
  refine T.F_law.ok sc_law (fun vs H Q E h => ?_) (fun cdv A outer s H vs Q E hr h => ?_)
  · obtain ⟨a, ns, rfl, _⟩ := h
    rfl
  · obtain ⟨a, ns, rfl, hS, hlen, k⟩ := h
    refine ⟨_, (pss_cons (ps_set (i := 1) sc_law.nd rfl (.inl rfl) (pe_call (ok_l_tape T) (hr.mono (by decide)) rfl T.g_l_tape T.F_l_tape.kp T.b_l_tape .nil pass0 (pa_cons (pv 0) pa_nil)))
  (pss_cons (ps_set (i := 2) sc_law.nd rfl (.inl rfl) (pe_call (ok_l_letters T) (hr.mono (by decide)) rfl T.g_l_letters T.F_l_letters.kp T.b_l_letters .nil pass0 (pa_cons (pv 1) pa_nil)))
  (pss_cons (ps_set (i := 3) sc_law.nd rfl (.inl rfl) (pe_call (ok_l_word T) (hr.mono (by decide)) rfl T.g_l_word T.F_l_word.kp T.b_l_word .nil pass0 (pa_cons (pv 1) (pa_cons (pv 2) (pa_cons pe_int (pa_cons pe_int pa_nil))))))
  (pss_cons (ps_set (i := 4) sc_law.nd rfl (.inl rfl) (pe_call (ok_l_watches T) (hr.mono (by decide)) rfl T.g_l_watches T.F_l_watches.kp T.b_l_watches .nil pass0 (pa_cons (pv 1) (pa_cons (pv 3) (pa_cons (pv 2) (pa_cons pe_int pa_nil))))))
  (pss_cons (ps_set (i := 5) sc_law.nd rfl (.inr rfl) (pe_call (ok_l_joined T) (hr.mono (by decide)) rfl T.g_l_joined T.F_l_joined.kp T.b_l_joined .nil pass0 (pa_cons (pv 1) (pa_cons (pv 4) (pa_cons (pv 3) pa_nil)))))
  (pss_cons (ps_set (i := 6) sc_law.nd rfl (.inl rfl) (pe_make T.M_Book (ok_Book_init T) (hr.mono (by decide)) rfl T.c_Book T.b_Book_init .nil pass0 (pa_cons (pv 4) pa_nil)))
  (pss_cons (ps_set (i := 7) sc_law.nd rfl (.inl rfl) (pe_make T.M_Book (ok_Book_init T) (hr.mono (by decide)) rfl T.c_Book T.b_Book_init .nil pass0 (pa_cons (pv 5) pa_nil)))
  (pss_cons (ps_set (i := 8) sc_law.nd rfl (.inr rfl) (pe_call (ok_rules_for T) (hr.mono (by decide)) rfl T.g_rules_for T.F_rules_for.kp T.b_rules_for .nil pass0 (pa_cons (pv 6) (pa_cons (pv 7) pa_nil))))
  (pss_cons (ps_if (pt_not (pt_val (pe_callB (id := "isinstance") (r := rIsi K) call_isi (by rfl) T.n_isinstance (by decide +kernel) (pa_cons (pv 8) (pa_cons (pe_bltn (v := .ty "dict") (u := .type "dict") (by rfl) T.n_dict (by decide +kernel) rfl) pa_nil)))))
  (pss_one (ps_ret pe_bl))
  pss_nil)
  (pss_cons (ps_set (i := 9) sc_law.nd rfl (.inl rfl) (pe_callB (id := "sorted") (r := Rs.rSortD K) (Rs.cr_sortD hr.units) (by rfl) T.n_sorted (by decide +kernel) (pa_cons (pe_lock (pe_lc (own := [("_law_key", 14)]) (g := gName 14) (tt := tYes) rfl sc_law.nd (pi_keys (pv 8)) (blkOk_by (own := [("_law_key", 14)]) (N := ["_law_script", "_law_tape_here", "_law_letters_here", "_law_word_here", "_law_watches_here", "_law_others", "_law_one", "_law_other", "_law_told_here", "_law_kept", "_law_sure", "_law_watch", "_law_due", "_law_again", "_law_key"]) (sc := defScope s_law) (by decide +kernel)) (fun _ _ _ _ _ => (pg_name (i := 14) sc_law.nd rfl (.inl rfl))) (fun _ _ _ _ _ => pts_nil) (fun _ _ _ _ _ => (pe_tup (pa_cons (pv 14) (pa_cons (pe_dget (hu_of hr) (pv 8) (pv 14) (fun _ _ => rfl)) pa_nil)))))) pa_nil)))
  (pss_cons (ps_set (i := 10) sc_law.nd rfl (.inl rfl) pe_bl)
  (pss_cons (ps_for PassesOwn.never rfl (pi_list (pv 5)) (pg_name (i := 11) sc_law.nd rfl (.inl rfl))
  (pss_cons (ps_set (i := 12) sc_law.nd rfl (.inl rfl) (pe_call (ok_l_told T) (hr.mono (by decide)) rfl T.g_l_told T.F_l_told.kp T.b_l_told .nil pass0 (pa_cons (pv 4) (pa_cons (pv 11) pa_nil))))
  (pss_cons (ps_set (i := 10) sc_law.nd rfl (.inl rfl) (pe_and (pv 10) (pe_one (pv 12))))
  (pss_cons (ps_if (pt_cmpR op_ne (pe_cmp (pc_din (hu_of hr) (pv 11) (pv 8))) (pv 12) (nomark _))
  (pss_one (ps_ret pe_bl))
  pss_nil)
  (pss_one (ps_if (PW.pt (pw_and (pt_val (pv 12)) (pw_and1 (PW.pt (pw_or (pt_not (pt_val (pe_call (ok_l_rule_right T) (hr.mono (by decide)) rfl T.g_l_rule_right T.F_l_rule_right.kp T.b_l_rule_right .nil pass0 (pa_cons (pv 4) (pa_cons (pv 11) (pa_cons (pe_dget (hu_of hr) (pv 8) (pv 11) (fun _ _ => rfl)) pa_nil)))))) (pw_or1 (pt_cmpR (r := rNeD K) (op_neD hr.units) (pe_dget (hu_of hr) (pv 8) (pv 11) (fun _ _ => rfl)) (pe_call (ok_rule T) (hr.mono (by decide)) rfl T.g_rule T.F_rule.kp T.b_rule .nil pass0 (pa_cons (pv 6) (pa_cons (pv 11) pa_nil))) (nomark _))))))))
  (pss_one (ps_ret pe_bl))
  pss_nil))))))
  (pss_cons (ps_if (PW.pt (pw_or (pt_cmpR op_gt (pe_callB (id := "len") (r := Rd.nLen K) Rd.c_len (by rfl) T.n_len (by decide +kernel) (pa_cons (pe_lock (pe_lc (own := [("_law_key", 14)]) (g := gName 14)  rfl sc_law.nd (pi_keys (pv 8)) (blkOk_by (own := [("_law_key", 14)]) (N := ["_law_script", "_law_tape_here", "_law_letters_here", "_law_word_here", "_law_watches_here", "_law_others", "_law_one", "_law_other", "_law_told_here", "_law_kept", "_law_sure", "_law_watch", "_law_due", "_law_again", "_law_key"]) (sc := defScope s_law) (by decide +kernel)) (fun _ _ _ _ _ => (pg_name (i := 14) sc_law.nd rfl (.inl rfl))) (fun _ _ _ _ _ => pts_one (pt_cmpR (r := rIn K true) op_notIn_seq (pv 14) (pv 5) (by rfl))) (fun _ _ _ _ _ => (pv 14)))) pa_nil)) pe_int (nomark _)) (pw_or1 (pt_not (pt_val (pe_call (ok_l_flag T) (hr.mono (by decide)) rfl T.g_l_flag T.F_l_flag.kp T.b_l_flag .nil pass0 (pa_cons (pe_call (ok_tells_book T) (hr.mono (by decide)) rfl T.g_tells_book T.F_tells_book.kp T.b_tells_book .nil pass0 (pa_cons (pv 6) (pa_cons (pv 7) pa_nil))) (pa_cons (pv 10) pa_nil))))))))
  (pss_one (ps_ret pe_bl))
  pss_nil)
  (pss_cons (ps_expr (pe_dclear (pv 8)))
  (pss_cons (ps_set (i := 13) sc_law.nd rfl (.inr rfl) (pe_call (ok_rules_for T) (hr.mono (by decide)) rfl T.g_rules_for T.F_rules_for.kp T.b_rules_for .nil pass0 (pa_cons (pv 6) (pa_cons (pv 7) pa_nil))))
  (pss_cons (ps_if (PW.pt (pw_or (pt_cmpR (r := rNeD K) (op_neD hr.units) (pe_callB (id := "sorted") (r := Rs.rSortD K) (Rs.cr_sortD hr.units) (by rfl) T.n_sorted (by decide +kernel) (pa_cons (pe_lock (pe_lc (own := [("_law_key", 14)]) (g := gName 14) (tt := tYes) rfl sc_law.nd (pi_keys (pv 13)) (blkOk_by (own := [("_law_key", 14)]) (N := ["_law_script", "_law_tape_here", "_law_letters_here", "_law_word_here", "_law_watches_here", "_law_others", "_law_one", "_law_other", "_law_told_here", "_law_kept", "_law_sure", "_law_watch", "_law_due", "_law_again", "_law_key"]) (sc := defScope s_law) (by decide +kernel)) (fun _ _ _ _ _ => (pg_name (i := 14) sc_law.nd rfl (.inl rfl))) (fun _ _ _ _ _ => pts_nil) (fun _ _ _ _ _ => (pe_tup (pa_cons (pv 14) (pa_cons (pe_dget (hu_of hr) (pv 13) (pv 14) (fun _ _ => rfl)) pa_nil)))))) pa_nil)) (pv 9) (nomark _)) (pw_or1 (pt_not (pt_val (pe_call (ok_l_flag T) (hr.mono (by decide)) rfl T.g_l_flag T.F_l_flag.kp T.b_l_flag .nil pass0 (pa_cons (pe_call (ok_tells_book T) (hr.mono (by decide)) rfl T.g_tells_book T.F_tells_book.kp T.b_tells_book .nil pass0 (pa_cons (pv 6) (pa_cons (pv 7) pa_nil))) (pa_cons (pv 10) pa_nil))))))))
  (pss_one (ps_ret pe_bl))
  pss_nil)
  (pss_cons (ps_if (PW.pt (pw_or (pt_cmpR op_notBl (pe_call (ok_tells_book T) (hr.mono (by decide)) rfl T.g_tells_book T.F_tells_book.kp T.b_tells_book .nil pass0 (pa_cons (pv 6) (pa_cons (pv 6) pa_nil))) pe_bl (nomark _)) (pw_or1 (pt_cmpR op_notBl (pe_call (ok_tells_book T) (hr.mono (by decide)) rfl T.g_tells_book T.F_tells_book.kp T.b_tells_book .nil pass0 (pa_cons (pv 6) (pa_cons (pe_make T.M_Book (ok_Book_init T) (hr.mono (by decide)) rfl T.c_Book T.b_Book_init .nil pass0 (pa_cons (pe_lst pa_nil) pa_nil)) pa_nil))) pe_bl (nomark _)))))
  (pss_one (ps_ret pe_bl))
  pss_nil)
  (pss_one (ps_ret (pe_call (ok_l_flag T) (hr.mono (by decide)) rfl T.g_l_flag T.F_l_flag.kp T.b_l_flag .nil pass0 (pa_cons (pe_call (ok_tells_book T) (hr.mono (by decide)) rfl T.g_tells_book T.F_tells_book.kp T.b_tells_book .nil pass0 (pa_cons (pe_make T.M_Book (ok_Book_init T) (hr.mono (by decide)) rfl T.c_Book T.b_Book_init .nil pass0 (pa_cons (pe_lst pa_nil) pa_nil)) (pa_cons (pv 6) pa_nil))) (pa_cons (pe_cmpR (r := rEqD K) (op_eqD hr.units) (pv 4) (pe_lst pa_nil) (nomark _)) pa_nil)))))))))))))))))))))), ?_⟩
    walk_at "rd"
    refine ⟨a, ns, rfl, hS, fun t c H1 tp1 s1 _ _ => ?_⟩
    walk_at "rd"
    refine ⟨t, c, rfl, tp1, fun L H2 hL L0 L1 tp2 b2 => ?_⟩
    walk_at "rd"
    refine ⟨t, c, L, 2, 14, rfl, tp2, hL, L0, by omega, by decide, by decide, by decide, fun z H3 hz z0 z1 tp3 b3 => ?_⟩
    walk_at "rd"
    refine ⟨t, c, z, L, 8, rfl, tp3, hz, by omega, by omega, hL, L0, by omega, by decide, by decide, fun l ws H4 tp4 b4 nl gl Wt w8 => ?_⟩
    have ⟨lt, lc⟩ := tp3.new nl
    walk_at "rd"
    refine ⟨t, c, l, ws, z, rfl, tp4, gl, lt, Wt.l1, Wt.ok, hz, by omega, by omega, fun o us H5 tp5 b5 no go nd u6 hu => ?_⟩
    have gl5 := b5 _ _ lt gl
    have Ut : Watches us := ⟨nd, by omega, hu⟩
    walk_at "go"
    refine Rd.mk fun x dx G2 nx ndx ne gx s2 off2 => ?_
    refine ⟨x, l, ws, rfl, ⟨dx, gx⟩, .inl (.of (s2 _ _ gl5)), Wt, fun G3 hB b3 => ⟨rfl, ?_⟩⟩
    have s13 : Same H5 G3 := fun c o e => b3 c o (ne_of_none e nx) (s2 _ _ e)
    walk_at "go"
    refine Rd.mk fun y dy G4 ny ndy ney gy s4 off4 => ?_
    refine ⟨y, o, us, rfl, ⟨dy, gy⟩, .inl (.of (s4 _ _ (s13 _ _ go))), Ut, fun G5 hC b5' => ⟨rfl, ?_⟩⟩
    have s35 : Same G3 G5 := fun c o e => b5' c o (ne_of_none e ny) (s4 _ _ e)
    have hB5 := hB.same s35
    have gl6 := s35 _ _ (s13 _ _ gl5)
    have go6 := s35 _ _ (s13 _ _ go)
    clear b5' s13 s35 hB gl5 go gl b5 b4 b3 b2 tp1 tp2 tp3 tp4 tp5 s2 off2 off4 s4 gx gy
    walk_at "go"
    refine ⟨x, y, ws, us, rfl, hB5, hC, Wt, Ut, fun d es H6 s6 nd6 gd6 ho6 => ?_⟩
    walk_at "go"
    refine Rd.isi (.base (.dK gd6)) (by decide +kernel : kitB "dict" "dict" = some true) ?_
    walk_at "go"
    refine Rw.lockE gd6 trivial fun od G gd off => ?_
    walk_at "go"
    refine Rw.keysX gd ?_
    have hG : ∀ e ∈ es, StepsAt G e.2.1 (stepsOf e.1 e.2.2) := fun e m => (ho6.2 e m).1.keep fun c xs q => by rw [off c (ne_of q gd6 (fun z => nomatch z))]; exact q
    have es12 : es.length ≤ 12 := by
      have e1 : es.length = (toldOf ws us).length := by rw [← ho6.1, List.length_map]
      have e2 : (toldOf ws us).length ≤ us.length := List.length_filter_le ..
      omega
    have esn : (es.map (·.1)).Nodup := by rw [ho6.1]; exact toldOf_nodup nd
    refine Rd.lcS walk_keys (fun _ s => s _ _ gd) (fun D i acc Hc => acc.length = i ∧ PySem.W.EachIs (EntAt Hc) acc (es.take i)) (fun _ _ _ _ _ => ⟨rfl, .nil⟩) ?_ ?_
    · rintro D i x1 _ H7 acc nD hi hD sm ⟨al, hacc⟩ ⟨rfl, kk, v, hk, rfl⟩
      rw [List.length_map] at hi
      have he : es[i]? = some es[i] := List.getElem?_eq_getElem hi
      rw [List.getElem?_map, he] at hk
      have mi := List.getElem_mem hi
      generalize es[i] = e at he hk mi
      cases hk
      walk_at "go"
      refine ⟨rfl, Rd.tyes ?_⟩
      walk_at "go"
      refine ⟨d, .ref e.2.1, rfl, .inl ⟨_, .inr e.1, .inr ⟨od, sm _ _ gd⟩, rfl, (val_ent esn e mi).symm⟩, ?_⟩
      walk_at "go"
      refine ⟨Nat.le_of_ble_eq_true rfl, Rd.new fun T' G7 nT gT sT => ?_⟩
      refine Rd.lcPush (sT _ _ hD) nD (sm.trans sT) (by rw [sizeLine_eq]; omega) fun G8 g8 off8 => ?_
      have kp : ∀ c xs, G7 c = some (.tup xs) → G8 c = some (.tup xs) := fun c xs q => by rw [off8 c (ne_of q (sT _ _ hD) (fun z => nomatch z))]; exact q
      refine ⟨by rw [List.length_append, al]; rfl, ?_⟩
      rw [Rd.take_snoc he]
      exact each_snoc2 ⟨T', rfl, kp _ _ gT⟩ (EntAt.keep (fun c xs q => kp _ _ (sT _ _ q)) hacc)
    · rintro D acc H7 nD hD sm ⟨al, hacc⟩
      rw [List.length_map, List.take_length] at hacc
      refine ⟨sm _ _ gd, ?_⟩
      have sU : Same H6 (upd H7 d (.dK (es.map ent))) := lock_back gd6 off sm
      have dD : D ≠ d := fun e => by rw [e, gd] at nD; cases nD
      have hD' : upd H7 d (.dK (es.map ent)) D = some (.lst acc) := by rw [upd_ne dD]; exact hD
      have hacc' := EntAt.keep (H' := upd H7 d (.dK (es.map ent))) (fun c xs q => by rw [upd_ne (ne_of q (sm _ _ gd) (fun z => nomatch z))]; exact q) hacc
      generalize upd H7 d (.dK (es.map ent)) = H8 at sU hD' hacc'
      have ho8 := ho6.same sU
      have hd8 := EntAt.dp (K := K) (fun e m => (ho8.2 e m).1) hacc'
      have gd8 := sU _ _ gd6
      have hC8 := hC.same (s6.trans sU)
      have hB8 := hB5.same (s6.trans sU)
      have gl8 := sU _ _ (s6 _ _ gl6)
      have go8 := sU _ _ (s6 _ _ go6)
      clear hG sm hD nD hacc gd off sU ho6 hacc' dD hC hB5 gl6 go6 s6 gd6
      walk_at "go"
      refine Rw.sortD ruleD (fun _ _ => True) (.of hD') hd8 (rule_keys _) fun out p H9 hout np gp s9 => ?_
      walk_at "go"
      have hout' := dpAll_each hout
      have dp9 : Dp K H9 (.ref p) (.list (((es.map bare).mergeSort (PySem.W.dataLe false ruleD)).map ruleD)) := .lst (.of gp) (dp_keepAll (.of s9) _ _ hout')
      have W9 : RulesOk H9 ws us es := ho8.same s9
      have gd9 := s9 _ _ gd8
      have hB9 := hB8.same s9
      have hC9 := hC8.same s9
      have gl9 := s9 _ _ gl8
      have go9 := s9 _ _ go8
      clear hout hout' s9 gd8 hB8 hC8 gl8 go8 ho8 hD' hd8 gp
      have sm := Wt.small
      have wl := Wt.l1
      refine Rd.forS ?_
      walk_at "go"
      refine ⟨⟨_, .of go9⟩, for_list (K := K) (a := o) (xs := us.map V.str) (fun i σ H' => ∃ (b : Bool) (o11 o12 : Option V), σ = [some (.ref a), some (.ref t), some (.str L), some (.str z), some (.ref l), some (.ref o), some (.ref x), some (.ref y), some (.ref d), some (.ref p), some (.bl b), o11, o12, none, none] ∧ Same H9 H' ∧ (b = true ↔ ∀ W ∈ us.take i, Mw.Told ws W))
        ⟨true, _, _, rfl, Same.refl _, by simp⟩ (fun i σ H' _ ⟨_, _, _, _, s, _⟩ => .of (s _ _ go9)) ?_ ?_⟩
      · rintro i x1 _ H1 hx ⟨b, o11, o12, rfl, s1, hb⟩
        obtain ⟨W, hW, rfl⟩ := Rd.map_strG hx
        have Wm := List.mem_of_getElem? hW
        have WL := Ut.ok W Wm
        have w1 := WL.l1
        walk_at "go"
        refine ⟨l, ws, W, rfl, .of (s1 _ _ gl9), sm, by omega, by omega, fun b1 H2 s2 e1 => ?_⟩
        have s12 := s1.trans s2
        clear s1 s2 hx
        walk_at "go"
        refine ifAnd rfl ?_
        walk_at "go"
        refine ⟨d, _, rfl, .inl ⟨_, .inr W, .inl (s12 _ _ gd9), rfl, rfl⟩, ?_⟩
        walk_at "go"
        rw [val_some esn, ne_same (decide_eq_true_iff.trans ((due_in W9 Wm).trans e1.symm))]
        walk_at "go"
        have hb' : (b && b1) = true ↔ ∀ V ∈ us.take (i + 1), Mw.Told ws V := by
          rw [Bool.and_eq_true, hb, e1, Rd.take_snoc hW]
          constructor
          · rintro ⟨h1, h2⟩ V m
            rcases List.mem_append.mp m with m | m
            · exact h1 V m
            · rw [List.mem_singleton.mp m]
              exact h2
          · exact fun h => ⟨fun V m => h V (List.mem_append_left _ m), h W (by simp)⟩
        cases b1 with
        | false =>
          walk_at "go"
          exact ⟨_, _, _, rfl, s12, hb'⟩
        | true =>
          walk_at "go"
          obtain ⟨e, me, rfl⟩ := List.mem_map.mp ((due_in W9 Wm).mpr (e1.mp rfl))
          have vE := val_ent esn e me
          refine ⟨d, .ref e.2.1, rfl, .inl ⟨_, .inr e.1, .inl (s12 _ _ gd9), rfl, vE.symm⟩, ?_⟩
          walk_at "go"
          have ⟨st, gr⟩ := W9.2 e me
          refine ⟨l, e.2.1, ws, e.1, e.2.2, rfl, .of (s12 _ _ gl9), sm, by omega, by omega, st.same s12, gr, fun H3 s3 => ?_⟩
          have s13 := s12.trans s3
          clear s12 s3
          walk_at "go"
          refine ⟨d, .ref e.2.1, rfl, .inl ⟨_, .inr e.1, .inl (s13 _ _ gd9), rfl, vE.symm⟩, ?_⟩
          walk_at "go"
          refine ⟨x, ws, e.1, rfl, hB9.same s13, Wt, WL.mono (by decide), fun r H4 s4 ru => ?_⟩
          have s14 := s13.trans s4
          rcases ru with ⟨rfl, nt⟩ | ⟨q, P, rfl, hq, nq, gr2⟩
          · exact absurd (e1.mp rfl) nt
          · rw [← gr.inj gr2] at hq
            refine neData (st.same s14).dp hq.dp (shaped_steps WL.ok _) ?_
            walk_at "go"
            exact ⟨_, _, _, rfl, s14, hb'⟩
      · rintro _ H1 ⟨b, o11, o12, rfl, s1, hb⟩
        rw [List.length_map, List.take_length] at hb
        walk_at "go"
        have gd1 := s1 _ _ gd9
        refine Rw.lockE gd1 trivial fun od G gd off => ?_
        have go1 : G o = some (.lst (us.map V.str)) := by
          rw [off o (ne_of (s1 _ _ go9) gd1 (fun z => nomatch z))]
          exact s1 _ _ go9
        walk_at "go"
        refine Rw.keysX gd ?_
        refine Rd.lcS walk_keys (fun _ s => s _ _ gd) (fun D i acc Hc => acc = []) (fun _ _ _ _ _ => rfl) ?_ ?_
        · rintro D i x1 _ H7 acc nD hi hD sm7 rfl ⟨rfl, kk, v, hk, rfl⟩
          rw [List.length_map] at hi
          have he : es[i]? = some es[i] := List.getElem?_eq_getElem hi
          rw [List.getElem?_map, he] at hk
          have mi := List.getElem_mem hi
          generalize es[i] = e at he hk mi
          cases hk
          have mu : e.1 ∈ us := by
            have : e.1 ∈ toldOf ws us := by rw [← W9.1]; exact List.mem_map.mpr ⟨e, mi, rfl⟩
            exact (toldOf_mem.mp this).1
          walk_at "go"
          refine ⟨rfl, ?_⟩
          walk_at "go"
          refine Rd.inStrsN (.inl (.of (sm7 _ _ go1))) ?_
          walk_at "go"
          refine Rd.yes mu ?_
          exact ⟨[], hD, sm7, rfl⟩
        · rintro D acc H7 nD hD sm7 rfl
          refine ⟨sm7 _ _ gd, ?_⟩
          have sU : Same H1 (upd H7 d (.dK (es.map ent))) := lock_back gd1 off sm7
          have dD : D ≠ d := fun e => by rw [e, gd] at nD; cases nD
          have hD' : upd H7 d (.dK (es.map ent)) D = some (.lst []) := by rw [upd_ne dD]; exact hD
          generalize upd H7 d (.dK (es.map ent)) = H8 at sU hD'
          clear hD nD sm7 gd off go1
          walk_at "go"
          refine Rd.len (.inl (.of hD')) ?_
          walk_at "go"
          have s98 : Same H9 H8 := s1.trans sU
          have gd8 := sU _ _ gd1
          clear hD' dD s1 sU gd1
          refine Rd.no (by decide) ?_
          walk_at "go"
          refine ⟨x, y, ws, us, rfl, hB9.same s98, hC9.same s98, Wt, Ut, fun b2 H10 s10 e2 => ?_⟩
          walk_at "go"
          refine flagT e2 hb ?_
          walk_at "go"
          refine ⟨.inr (.inr (.inl ⟨rfl, .inl ⟨_, s10 _ _ gd8⟩⟩)), ?_⟩
          refine Rw.clr (s10 _ _ gd8) fun G3 g3 off3 => ?_
          have kG : SqK H9 G3 := (SqK.of (s98.trans s10)).trans (.off (s10 _ _ gd8) trivial off3)
          have hB3 := book_keep kG hB9
          have hC3 := book_keep kG hC9
          have gl3 := kG _ _ gl9 fun z => z
          have dp3 := dp_keep kG _ _ dp9
          clear s98 gd8 s10 kG off3 g3 dp9 hB9 hC9 gl9 go9 gd9
          walk_at "go"
          refine ⟨x, y, ws, us, rfl, hB3, hC3, Wt, Ut, fun d2 es2 H6 s6 nd6 gd6 ho6 => ?_⟩
          walk_at "go"
          refine Rw.lockE gd6 trivial fun od G gd off => ?_
          walk_at "go"
          refine Rw.keysX gd ?_
          have hG : ∀ e ∈ es2, StepsAt G e.2.1 (stepsOf e.1 e.2.2) := fun e m => (ho6.2 e m).1.keep fun c xs q => by rw [off c (ne_of q gd6 (fun z => nomatch z))]; exact q
          have es12 : es2.length ≤ 12 := by
            have e1 : es2.length = (toldOf ws us).length := by rw [← ho6.1, List.length_map]
            have e2 : (toldOf ws us).length ≤ us.length := List.length_filter_le ..
            omega
          have esn2 : (es2.map (·.1)).Nodup := by rw [ho6.1]; exact toldOf_nodup nd
          refine Rd.lcS walk_keys (fun _ s => s _ _ gd) (fun D i acc Hc => acc.length = i ∧ PySem.W.EachIs (EntAt Hc) acc (es2.take i)) (fun _ _ _ _ _ => ⟨rfl, .nil⟩) ?_ ?_
          · rintro D i x1 _ H7 acc nD hi hD sm ⟨al, hacc⟩ ⟨rfl, kk, v, hk, rfl⟩
            rw [List.length_map] at hi
            have he : es2[i]? = some es2[i] := List.getElem?_eq_getElem hi
            rw [List.getElem?_map, he] at hk
            have mi := List.getElem_mem hi
            generalize es2[i] = e at he hk mi
            cases hk
            walk_at "go"
            refine ⟨rfl, Rd.tyes ?_⟩
            walk_at "go"
            refine ⟨d2, .ref e.2.1, rfl, .inl ⟨_, .inr e.1, .inr ⟨od, sm _ _ gd⟩, rfl, (val_ent esn2 e mi).symm⟩, ?_⟩
            walk_at "go"
            refine ⟨Nat.le_of_ble_eq_true rfl, Rd.new fun T' G7 nT gT sT => ?_⟩
            refine Rd.lcPush (sT _ _ hD) nD (sm.trans sT) (by rw [sizeLine_eq]; omega) fun G8 g8 off8 => ?_
            have kp : ∀ c xs, G7 c = some (.tup xs) → G8 c = some (.tup xs) := fun c xs q => by rw [off8 c (ne_of q (sT _ _ hD) (fun z => nomatch z))]; exact q
            refine ⟨by rw [List.length_append, al]; rfl, ?_⟩
            rw [Rd.take_snoc he]
            exact each_snoc2 ⟨T', rfl, kp _ _ gT⟩ (EntAt.keep (fun c xs q => kp _ _ (sT _ _ q)) hacc)
          · rintro D acc H7 nD hD sm ⟨al, hacc⟩
            rw [List.length_map, List.take_length] at hacc
            refine ⟨sm _ _ gd, ?_⟩
            have sU : Same H6 (upd H7 d2 (.dK (es2.map ent))) := lock_back gd6 off sm
            have dD : D ≠ d2 := fun e => by rw [e, gd] at nD; cases nD
            have hD' : upd H7 d2 (.dK (es2.map ent)) D = some (.lst acc) := by rw [upd_ne dD]; exact hD
            have hacc' := EntAt.keep (H' := upd H7 d2 (.dK (es2.map ent))) (fun c xs q => by rw [upd_ne (ne_of q (sm _ _ gd) (fun z => nomatch z))]; exact q) hacc
            generalize upd H7 d2 (.dK (es2.map ent)) = H8 at sU hD' hacc'
            have ho8 := ho6.same sU
            have hd8 := EntAt.dp (K := K) (fun e m => (ho8.2 e m).1) hacc'
            have s38 := s6.trans sU
            clear hG sm hD nD hacc gd off sU hacc' dD gd6 s6
            walk_at "go"
            refine Rw.sortD ruleD (fun _ _ => True) (.of hD') hd8 (rule_keys _) fun out p2 H9 hout np gp s9 => ?_
            rw [rules_same ho8 W9] at hout
            have dp9 : Dp K H9 (.ref p2) (.list (((es.map bare).mergeSort (PySem.W.dataLe false ruleD)).map ruleD)) := .lst (.of gp) (dp_keepAll (.of s9) _ _ (dpAll_each hout))
            have s39 := s38.trans s9
            walk_at "go"
            refine neData dp9 (dp_keep (.of s39) _ _ dp3) (shaped_rules fun e m => ?_) ?_
            · obtain ⟨e', m', rfl⟩ := List.mem_map.mp (List.mem_mergeSort.mp m)
              have : e'.1 ∈ toldOf ws us := by rw [← W9.1]; exact List.mem_map.mpr ⟨e', m', rfl⟩
              exact (Ut.ok _ (toldOf_mem.mp this).1).ok
            · walk_at "go"
              have hB4 := hB3.same s39
              have hC4 := hC3.same s39
              have gl4 := s39 _ _ gl3
              clear dp9 dp3 hout gp s9 s38 hd8 hD' s39 hB3 hC3 gl3 ho8
              refine ⟨x, y, ws, us, rfl, hB4, hC4, Wt, Ut, fun b3 H10 s10 e3 => ?_⟩
              walk_at "go"
              refine flagT e3 hb ?_
              walk_at "go"
              refine ⟨x, x, ws, ws, rfl, hB4.same s10, hB4.same s10, Wt, Wt, fun b4 H11 s11 e4 => ?_⟩
              obtain rfl : b4 = true := e4.mpr fun z m => told_self m
              walk_at "go"
              refine ⟨_, _, rfl, rfl, ?_⟩
              walk_at "go"
              refine ⟨Nat.zero_le _, Rd.new fun e5 H12 ne5 ge5 s12 => ?_⟩
              walk_at "go"
              refine Rd.mk fun x5 dx5 G5 nx5 nd5 ne5' gx5 s5 off5 => ?_
              have W0 : Watches [] := ⟨.nil, by decide, fun z h => by simp at h⟩
              refine ⟨x5, e5, [], rfl, ⟨dx5, gx5⟩, .inl (.of (s5 _ _ ge5)), W0, fun G6 hB6 b6 => ⟨rfl, ?_⟩⟩
              have s46 : Same H9 G6 := fun c o e => b6 c o (ne_of_none (s12 _ _ (s11 _ _ (s10 _ _ e))) nx5) (s5 _ _ (s12 _ _ (s11 _ _ (s10 _ _ e))))
              walk_at "go"
              refine ⟨x, x5, ws, [], rfl, hB4.same s46, hB6, Wt, W0, fun b5 H13 s13 e5 => ?_⟩
              obtain rfl : b5 = true := e5.mpr fun z m => by simp at m
              have s43 := s46.trans s13
              walk_at "go"
              refine ⟨_, _, rfl, rfl, ?_⟩
              walk_at "go"
              refine ⟨Nat.zero_le _, Rd.new fun e6 H14 ne6 ge6 s14 => ?_⟩
              walk_at "go"
              refine Rd.mk fun x6 dx6 G7 nx6 nd6 ne6' gx6 s7 off7 => ?_
              refine ⟨x6, e6, [], rfl, ⟨dx6, gx6⟩, .inl (.of (s7 _ _ ge6)), W0, fun G8 hB8 b8 => ⟨rfl, ?_⟩⟩
              have s38 : Same H13 G8 := fun c o e => b8 c o (ne_of_none (s14 _ _ e) nx6) (s7 _ _ (s14 _ _ e))
              have s48 := s43.trans s38
              walk_at "go"
              refine ⟨x6, x, [], ws, rfl, hB8, hB4.same s48, W0, Wt, fun b7 H15 s15 e7 => ?_⟩
              walk_at "go"
              refine ⟨Nat.zero_le _, Rd.new fun e8 H16 ne8 ge8 s16 => ?_⟩
              refine eqStrsD (ms := []) (.of (s16 _ _ (s15 _ _ (s48 _ _ gl4)))) (.of ge8) (fun z m => (Wt.ok z m).ok.ok) (fun z m => by simp at m) ?_
              walk_at "go"
              refine flagT e7 (decide_eq_true_iff.trans ⟨fun h z m => by rw [h] at m; simp at m, fun h => ?_⟩) (k _)
              cases ws with
              | nil => rfl
              | cons z zs =>
                have h1 := told_nil.mp (h z (List.mem_cons_self ..))
                have h2 := (Wt.ok z (List.mem_cons_self ..)).l0
                omega

end
end W

namespace W
open PySem PySem.Spec PyProof.Rows L2
theorem all_mk {l : PySem.W.OpenLaw} {w : World} {K : PySem.W.Frag} {h : Heap} {mg : Str → Option Value} {fa : Addr} (X : K.In h) (G : h.Ns mainGlobals mg) (hfa : mg "law" = some (.ref fa))
    {f1 f2 f3 f4 f5 f6 f7 f8 f9 f10 f11 f12 f13 f14 f15 f16 f17 f18 f19 f20 f21 f22 f23 f24 f25 f26 f27 f28 f29 f30 f31 f32 C0 : Addr} {od1 an1 od2 an2 od3 an3 od4 an4 od5 an5 od6 an6 od7 an7 od8 an8 od9 an9 od10 an10 od11 an11 od12 an12 od13 an13 od14 an14 od15 an15 od16 an16 od17 an17 od18 an18 od19 an19 od20 an20 od21 an21 od22 an22 od23 an23 od24 an24 od25 an25 od26 an26 od27 an27 od28 an28 od29 an29 od30 an30 od31 an31 od32 an32 : Option Addr} {sl1 sl2 sl3 sl4 sl5 sl6 sl7 sl8 sl9 sl10 sl11 sl12 sl13 sl14 sl15 sl16 sl17 sl18 sl19 sl20 sl21 sl22 sl23 sl24 sl25 sl26 sl27 sl28 sl29 sl30 sl31 sl32 : Array (Option Value)} {oc1 kV1 dc1 pm1 cd1 ct1 oc2 kV2 dc2 pm2 cd2 ct2 oc3 kV3 dc3 pm3 cd3 ct3 oc4 kV4 dc4 pm4 cd4 ct4 oc5 kV5 dc5 pm5 cd5 ct5 oc6 kV6 dc6 pm6 cd6 ct6 oc7 kV7 dc7 pm7 cd7 ct7 oc8 kV8 dc8 pm8 cd8 ct8 oc9 kV9 dc9 pm9 cd9 ct9 oc10 kV10 dc10 pm10 cd10 ct10 oc11 kV11 dc11 pm11 cd11 ct11 oc12 kV12 dc12 pm12 cd12 ct12 oc13 kV13 dc13 pm13 cd13 ct13 oc14 kV14 dc14 pm14 cd14 ct14 oc15 kV15 dc15 pm15 cd15 ct15 oc16 kV16 dc16 pm16 cd16 ct16 oc17 kV17 dc17 pm17 cd17 ct17 oc18 kV18 dc18 pm18 cd18 ct18 oc19 kV19 dc19 pm19 cd19 ct19 oc20 kV20 dc20 pm20 cd20 ct20 oc21 kV21 dc21 pm21 cd21 ct21 oc22 kV22 dc22 pm22 cd22 ct22 oc23 kV23 dc23 pm23 cd23 ct23 oc24 kV24 dc24 pm24 cd24 ct24 oc25 kV25 dc25 pm25 cd25 ct25 oc26 kV26 dc26 pm26 cd26 ct26 oc27 kV27 dc27 pm27 cd27 ct27 oc28 kV28 dc28 pm28 cd28 ct28 oc29 kV29 dc29 pm29 cd29 ct29 oc30 kV30 dc30 pm30 cd30 ct30 oc31 kV31 dc31 pm31 cd31 ct31 oc32 kV32 dc32 pm32 cd32 ct32 : Value}
    (u0 : PySem.W.nsIn K mainGlobals "Book" = some (some (.ref C0)))
    (pg0 : PySem.W.plainGet K C0 Str.empty = true) (hd0 : PySem.W.hasDictIn K C0 = true) (po0 : PySem.W.plainOver K C0 = true) (sa0 : PySem.W.findIn K (.ref C0) "__setattr__" = some (some (.builtin "object.__setattr__")))
    (wc0 : PySem.W.findIn K (.ref C0) "__class__" = some (some (.builtin "object.__class__"))) (wm0 : PySem.W.mroIn K C0 (.type "object") = some true)
    (wn0 : PySem.W.specialIn K (.builtin "object.__class__") "__get__" = some (some (.builtin "getset_descriptor.__get__"))) (wt0 : PySem.W.takesIn K (.builtin "object.__class__") = some true)
    (na0_0 : PySem.W.findIn K (.ref C0) "watches" = some none)
    (a1 : PySem.W.nsIn K mainGlobals "is_letters" = some (some (.ref f1)))
    (l1 : K.lookup f1 = some ⟨oc1, od1, .func (PySem.W.fnOf "is_letters" "is_letters" (defArgs s_is_letters) (defBody s_is_letters) (defScope s_is_letters) .none kV1 dc1 pm1 an1 cd1 ct1), sl1⟩) (c1 : PySem.W.codeIn K cd1 "is_letters" = true) (k1 : PySem.W.keepIn K (.ref f1) = true)
    (a2 : PySem.W.nsIn K mainGlobals "is_word" = some (some (.ref f2)))
    (l2 : K.lookup f2 = some ⟨oc2, od2, .func (PySem.W.fnOf "is_word" "is_word" (defArgs s_is_word) (defBody s_is_word) (defScope s_is_word) .none kV2 dc2 pm2 an2 cd2 ct2), sl2⟩) (c2 : PySem.W.codeIn K cd2 "is_word" = true) (k2 : PySem.W.keepIn K (.ref f2) = true)
    (a3 : PySem.W.nsIn K mainGlobals "is_watch" = some (some (.ref f3)))
    (l3 : K.lookup f3 = some ⟨oc3, od3, .func (PySem.W.fnOf "is_watch" "is_watch" (defArgs s_is_watch) (defBody s_is_watch) (defScope s_is_watch) .none kV3 dc3 pm3 an3 cd3 ct3), sl3⟩) (c3 : PySem.W.codeIn K cd3 "is_watch" = true) (k3 : PySem.W.keepIn K (.ref f3) = true)
    (a4 : PySem.W.nsIn K mainGlobals "check_word" = some (some (.ref f4)))
    (l4 : K.lookup f4 = some ⟨oc4, od4, .func (PySem.W.fnOf "check_word" "check_word" (defArgs s_check_word) (defBody s_check_word) (defScope s_check_word) .none kV4 dc4 pm4 an4 cd4 ct4), sl4⟩) (c4 : PySem.W.codeIn K cd4 "check_word" = true) (k4 : PySem.W.keepIn K (.ref f4) = true)
    (a5 : PySem.W.findIn K (.ref C0) "__init__" = some (some (.ref f5))) (i5 : PySem.W.isFn K (.ref f5) = true)
    (mk0 : PySem.W.makesIn K C0 = true) (kc0 : PySem.W.keepIn K (.ref C0) = true)
    (l5 : K.lookup f5 = some ⟨oc5, od5, .func (PySem.W.fnOf "__init__" "Book.__init__" (defArgs s_Book_init) (defBody s_Book_init) (defScope s_Book_init) .none kV5 dc5 pm5 an5 cd5 ct5), sl5⟩) (c5 : PySem.W.codeIn K cd5 "Book.__init__" = true) (k5 : PySem.W.keepIn K (.ref f5) = true)
    (a6 : PySem.W.nsIn K mainGlobals "check_book" = some (some (.ref f6)))
    (l6 : K.lookup f6 = some ⟨oc6, od6, .func (PySem.W.fnOf "check_book" "check_book" (defArgs s_check_book) (defBody s_check_book) (defScope s_check_book) .none kV6 dc6 pm6 an6 cd6 ct6), sl6⟩) (c6 : PySem.W.codeIn K cd6 "check_book" = true) (k6 : PySem.W.keepIn K (.ref f6) = true)
    (a7 : PySem.W.nsIn K mainGlobals "links_of" = some (some (.ref f7)))
    (l7 : K.lookup f7 = some ⟨oc7, od7, .func (PySem.W.fnOf "links_of" "links_of" (defArgs s_links_of) (defBody s_links_of) (defScope s_links_of) .none kV7 dc7 pm7 an7 cd7 ct7), sl7⟩) (c7 : PySem.W.codeIn K cd7 "links_of" = true) (k7 : PySem.W.keepIn K (.ref f7) = true)
    (a8 : PySem.W.nsIn K mainGlobals "grown" = some (some (.ref f8)))
    (l8 : K.lookup f8 = some ⟨oc8, od8, .func (PySem.W.fnOf "grown" "grown" (defArgs s_grown) (defBody s_grown) (defScope s_grown) .none kV8 dc8 pm8 an8 cd8 ct8), sl8⟩) (c8 : PySem.W.codeIn K cd8 "grown" = true) (k8 : PySem.W.keepIn K (.ref f8) = true)
    (a9 : PySem.W.nsIn K mainGlobals "leads" = some (some (.ref f9)))
    (l9 : K.lookup f9 = some ⟨oc9, od9, .func (PySem.W.fnOf "leads" "leads" (defArgs s_leads) (defBody s_leads) (defScope s_leads) .none kV9 dc9 pm9 an9 cd9 ct9), sl9⟩) (c9 : PySem.W.codeIn K cd9 "leads" = true) (k9 : PySem.W.keepIn K (.ref f9) = true)
    (a10 : PySem.W.nsIn K mainGlobals "distances" = some (some (.ref f10)))
    (l10 : K.lookup f10 = some ⟨oc10, od10, .func (PySem.W.fnOf "distances" "distances" (defArgs s_distances) (defBody s_distances) (defScope s_distances) .none kV10 dc10 pm10 an10 cd10 ct10), sl10⟩) (c10 : PySem.W.codeIn K cd10 "distances" = true) (k10 : PySem.W.keepIn K (.ref f10) = true)
    (a11 : PySem.W.nsIn K mainGlobals "shortest" = some (some (.ref f11)))
    (l11 : K.lookup f11 = some ⟨oc11, od11, .func (PySem.W.fnOf "shortest" "shortest" (defArgs s_shortest) (defBody s_shortest) (defScope s_shortest) .none kV11 dc11 pm11 an11 cd11 ct11), sl11⟩) (c11 : PySem.W.codeIn K cd11 "shortest" = true) (k11 : PySem.W.keepIn K (.ref f11) = true)
    (a12 : PySem.W.nsIn K mainGlobals "steps_between" = some (some (.ref f12)))
    (l12 : K.lookup f12 = some ⟨oc12, od12, .func (PySem.W.fnOf "steps_between" "steps_between" (defArgs s_steps_between) (defBody s_steps_between) (defScope s_steps_between) .none kV12 dc12 pm12 an12 cd12 ct12), sl12⟩) (c12 : PySem.W.codeIn K cd12 "steps_between" = true) (k12 : PySem.W.keepIn K (.ref f12) = true)
    (a13 : PySem.W.nsIn K mainGlobals "rule_by" = some (some (.ref f13)))
    (l13 : K.lookup f13 = some ⟨oc13, od13, .func (PySem.W.fnOf "rule_by" "rule_by" (defArgs s_rule_by) (defBody s_rule_by) (defScope s_rule_by) .none kV13 dc13 pm13 an13 cd13 ct13), sl13⟩) (c13 : PySem.W.codeIn K cd13 "rule_by" = true) (k13 : PySem.W.keepIn K (.ref f13) = true)
    (a14 : PySem.W.nsIn K mainGlobals "rule" = some (some (.ref f14)))
    (l14 : K.lookup f14 = some ⟨oc14, od14, .func (PySem.W.fnOf "rule" "rule" (defArgs s_rule) (defBody s_rule) (defScope s_rule) .none kV14 dc14 pm14 an14 cd14 ct14), sl14⟩) (c14 : PySem.W.codeIn K cd14 "rule" = true) (k14 : PySem.W.keepIn K (.ref f14) = true)
    (a15 : PySem.W.nsIn K mainGlobals "leads_all" = some (some (.ref f15)))
    (l15 : K.lookup f15 = some ⟨oc15, od15, .func (PySem.W.fnOf "leads_all" "leads_all" (defArgs s_leads_all) (defBody s_leads_all) (defScope s_leads_all) .none kV15 dc15 pm15 an15 cd15 ct15), sl15⟩) (c15 : PySem.W.codeIn K cd15 "leads_all" = true) (k15 : PySem.W.keepIn K (.ref f15) = true)
    (a16 : PySem.W.nsIn K mainGlobals "tells_book" = some (some (.ref f16)))
    (l16 : K.lookup f16 = some ⟨oc16, od16, .func (PySem.W.fnOf "tells_book" "tells_book" (defArgs s_tells_book) (defBody s_tells_book) (defScope s_tells_book) .none kV16 dc16 pm16 an16 cd16 ct16), sl16⟩) (c16 : PySem.W.codeIn K cd16 "tells_book" = true) (k16 : PySem.W.keepIn K (.ref f16) = true)
    (a17 : PySem.W.nsIn K mainGlobals "rules_for" = some (some (.ref f17)))
    (l17 : K.lookup f17 = some ⟨oc17, od17, .func (PySem.W.fnOf "rules_for" "rules_for" (defArgs s_rules_for) (defBody s_rules_for) (defScope s_rules_for) .none kV17 dc17 pm17 an17 cd17 ct17), sl17⟩) (c17 : PySem.W.codeIn K cd17 "rules_for" = true) (k17 : PySem.W.keepIn K (.ref f17) = true)
    (a18 : PySem.W.nsIn K mainGlobals "_law_flag" = some (some (.ref f18)))
    (l18 : K.lookup f18 = some ⟨oc18, od18, .func (PySem.W.fnOf "_law_flag" "_law_flag" (defArgs s_l_flag) (defBody s_l_flag) (defScope s_l_flag) .none kV18 dc18 pm18 an18 cd18 ct18), sl18⟩) (c18 : PySem.W.codeIn K cd18 "_law_flag" = true) (k18 : PySem.W.keepIn K (.ref f18) = true)
    (a19 : PySem.W.nsIn K mainGlobals "_law_tape" = some (some (.ref f19)))
    (l19 : K.lookup f19 = some ⟨oc19, od19, .func (PySem.W.fnOf "_law_tape" "_law_tape" (defArgs s_l_tape) (defBody s_l_tape) (defScope s_l_tape) .none kV19 dc19 pm19 an19 cd19 ct19), sl19⟩) (c19 : PySem.W.codeIn K cd19 "_law_tape" = true) (k19 : PySem.W.keepIn K (.ref f19) = true)
    (a20 : PySem.W.nsIn K mainGlobals "_law_pick" = some (some (.ref f20)))
    (l20 : K.lookup f20 = some ⟨oc20, od20, .func (PySem.W.fnOf "_law_pick" "_law_pick" (defArgs s_l_pick) (defBody s_l_pick) (defScope s_l_pick) .none kV20 dc20 pm20 an20 cd20 ct20), sl20⟩) (c20 : PySem.W.codeIn K cd20 "_law_pick" = true) (k20 : PySem.W.keepIn K (.ref f20) = true)
    (a21 : PySem.W.nsIn K mainGlobals "_law_letters" = some (some (.ref f21)))
    (l21 : K.lookup f21 = some ⟨oc21, od21, .func (PySem.W.fnOf "_law_letters" "_law_letters" (defArgs s_l_letters) (defBody s_l_letters) (defScope s_l_letters) .none kV21 dc21 pm21 an21 cd21 ct21), sl21⟩) (c21 : PySem.W.codeIn K cd21 "_law_letters" = true) (k21 : PySem.W.keepIn K (.ref f21) = true)
    (a22 : PySem.W.nsIn K mainGlobals "_law_word" = some (some (.ref f22)))
    (l22 : K.lookup f22 = some ⟨oc22, od22, .func (PySem.W.fnOf "_law_word" "_law_word" (defArgs s_l_word) (defBody s_l_word) (defScope s_l_word) .none kV22 dc22 pm22 an22 cd22 ct22), sl22⟩) (c22 : PySem.W.codeIn K cd22 "_law_word" = true) (k22 : PySem.W.keepIn K (.ref f22) = true)
    (a23 : PySem.W.nsIn K mainGlobals "_law_piece" = some (some (.ref f23)))
    (l23 : K.lookup f23 = some ⟨oc23, od23, .func (PySem.W.fnOf "_law_piece" "_law_piece" (defArgs s_l_piece) (defBody s_l_piece) (defScope s_l_piece) .none kV23 dc23 pm23 an23 cd23 ct23), sl23⟩) (c23 : PySem.W.codeIn K cd23 "_law_piece" = true) (k23 : PySem.W.keepIn K (.ref f23) = true)
    (a24 : PySem.W.nsIn K mainGlobals "_law_pathed" = some (some (.ref f24)))
    (l24 : K.lookup f24 = some ⟨oc24, od24, .func (PySem.W.fnOf "_law_pathed" "_law_pathed" (defArgs s_l_pathed) (defBody s_l_pathed) (defScope s_l_pathed) .none kV24 dc24 pm24 an24 cd24 ct24), sl24⟩) (c24 : PySem.W.codeIn K cd24 "_law_pathed" = true) (k24 : PySem.W.keepIn K (.ref f24) = true)
    (a25 : PySem.W.nsIn K mainGlobals "_law_watches" = some (some (.ref f25)))
    (l25 : K.lookup f25 = some ⟨oc25, od25, .func (PySem.W.fnOf "_law_watches" "_law_watches" (defArgs s_l_watches) (defBody s_l_watches) (defScope s_l_watches) .none kV25 dc25 pm25 an25 cd25 ct25), sl25⟩) (c25 : PySem.W.codeIn K cd25 "_law_watches" = true) (k25 : PySem.W.keepIn K (.ref f25) = true)
    (a26 : PySem.W.nsIn K mainGlobals "_law_marks" = some (some (.ref f26)))
    (l26 : K.lookup f26 = some ⟨oc26, od26, .func (PySem.W.fnOf "_law_marks" "_law_marks" (defArgs s_l_marks) (defBody s_l_marks) (defScope s_l_marks) .none kV26 dc26 pm26 an26 cd26 ct26), sl26⟩) (c26 : PySem.W.codeIn K cd26 "_law_marks" = true) (k26 : PySem.W.keepIn K (.ref f26) = true)
    (a27 : PySem.W.nsIn K mainGlobals "_law_told" = some (some (.ref f27)))
    (l27 : K.lookup f27 = some ⟨oc27, od27, .func (PySem.W.fnOf "_law_told" "_law_told" (defArgs s_l_told) (defBody s_l_told) (defScope s_l_told) .none kV27 dc27 pm27 an27 cd27 ct27), sl27⟩) (c27 : PySem.W.codeIn K cd27 "_law_told" = true) (k27 : PySem.W.keepIn K (.ref f27) = true)
    (a28 : PySem.W.nsIn K mainGlobals "_law_joined" = some (some (.ref f28)))
    (l28 : K.lookup f28 = some ⟨oc28, od28, .func (PySem.W.fnOf "_law_joined" "_law_joined" (defArgs s_l_joined) (defBody s_l_joined) (defScope s_l_joined) .none kV28 dc28 pm28 an28 cd28 ct28), sl28⟩) (c28 : PySem.W.codeIn K cd28 "_law_joined" = true) (k28 : PySem.W.keepIn K (.ref f28) = true)
    (a29 : PySem.W.nsIn K mainGlobals "_law_spots" = some (some (.ref f29)))
    (l29 : K.lookup f29 = some ⟨oc29, od29, .func (PySem.W.fnOf "_law_spots" "_law_spots" (defArgs s_l_spots) (defBody s_l_spots) (defScope s_l_spots) .none kV29 dc29 pm29 an29 cd29 ct29), sl29⟩) (c29 : PySem.W.codeIn K cd29 "_law_spots" = true) (k29 : PySem.W.keepIn K (.ref f29) = true)
    (a30 : PySem.W.nsIn K mainGlobals "_law_fewest" = some (some (.ref f30)))
    (l30 : K.lookup f30 = some ⟨oc30, od30, .func (PySem.W.fnOf "_law_fewest" "_law_fewest" (defArgs s_l_fewest) (defBody s_l_fewest) (defScope s_l_fewest) .none kV30 dc30 pm30 an30 cd30 ct30), sl30⟩) (c30 : PySem.W.codeIn K cd30 "_law_fewest" = true) (k30 : PySem.W.keepIn K (.ref f30) = true)
    (a31 : PySem.W.nsIn K mainGlobals "_law_rule_right" = some (some (.ref f31)))
    (l31 : K.lookup f31 = some ⟨oc31, od31, .func (PySem.W.fnOf "_law_rule_right" "_law_rule_right" (defArgs s_l_rule_right) (defBody s_l_rule_right) (defScope s_l_rule_right) .none kV31 dc31 pm31 an31 cd31 ct31), sl31⟩) (c31 : PySem.W.codeIn K cd31 "_law_rule_right" = true) (k31 : PySem.W.keepIn K (.ref f31) = true)
    (a32 : PySem.W.nsIn K mainGlobals "law" = some (some (.ref f32)))
    (l32 : K.lookup f32 = some ⟨oc32, od32, .func (PySem.W.fnOf "law" "law" (defArgs s_law) (defBody s_law) (defScope s_law) .none kV32 dc32 pm32 an32 cd32 ct32), sl32⟩) (c32 : PySem.W.codeIn K cd32 "law" = true) (k32 : PySem.W.keepIn K (.ref f32) = true)
    (z0 : PySem.W.nsIn K mainGlobals "isinstance" = some none)
    (z1 : PySem.W.nsIn K mainGlobals "str" = some none)
    (z2 : PySem.W.nsIn K mainGlobals "all" = some none)
    (z3 : PySem.W.nsIn K mainGlobals "len" = some none)
    (z4 : PySem.W.nsIn K mainGlobals "enumerate" = some none)
    (z5 : PySem.W.nsIn K mainGlobals "tuple" = some none)
    (z6 : PySem.W.nsIn K mainGlobals "list" = some none)
    (z7 : PySem.W.nsIn K mainGlobals "range" = some none)
    (z8 : PySem.W.nsIn K mainGlobals "sorted" = some none)
    (z9 : PySem.W.nsIn K mainGlobals "zip" = some none)
    (z10 : PySem.W.nsIn K mainGlobals "bool" = some none)
    (z11 : PySem.W.nsIn K mainGlobals "int" = some none)
    (z12 : PySem.W.nsIn K mainGlobals "min" = some none)
    (z13 : PySem.W.nsIn K mainGlobals "max" = some none)
    (z14 : PySem.W.nsIn K mainGlobals "dict" = some none)
    {t0 : Tok} (y0 : PySem.W.nsIn K mainGlobals "LETTERS" = some (some (.str "abcdefghijklmnopqrstuvwxyz" t0)))
    {t1 : Tok} (y1 : PySem.W.nsIn K mainGlobals "MOST_WORD" = some (some (.int 40 t1)))
    {t2 : Tok} (y2 : PySem.W.nsIn K mainGlobals "MOST_WATCH" = some (some (.int 12 t2)))
    {t3 : Tok} (y3 : PySem.W.nsIn K mainGlobals "MOST_WATCHES" = some (some (.int 12 t3)))
    : ∃ fd : FuncData, (∀ (s : Shared) (v : Value), BindsTo s fd ⟨[v], []⟩ [("_law_script", v)]) ∧ ∀ base : Heap, K.In base → base.Ns mainGlobals mg → FnOk l.prog w K mg base CX0 6 fa fd ["_law_script"] (sp_law K) := by
  have e := hfa.symm.trans (PySem.W.mg_of X G a32)
  cases e
  have F1 := fun_mk (st := s_is_letters) l1 c1 k1
  have F2 := fun_mk (st := s_is_word) l2 c2 k2
  have F3 := fun_mk (st := s_is_watch) l3 c3 k3
  have F4 := fun_mk (st := s_check_word) l4 c4 k4
  have F5 := fun_mk (st := s_Book_init) l5 c5 k5
  have F6 := fun_mk (st := s_check_book) l6 c6 k6
  have F7 := fun_mk (st := s_links_of) l7 c7 k7
  have F8 := fun_mk (st := s_grown) l8 c8 k8
  have F9 := fun_mk (st := s_leads) l9 c9 k9
  have F10 := fun_mk (st := s_distances) l10 c10 k10
  have F11 := fun_mk (st := s_shortest) l11 c11 k11
  have F12 := fun_mk (st := s_steps_between) l12 c12 k12
  have F13 := fun_mk (st := s_rule_by) l13 c13 k13
  have F14 := fun_mk (st := s_rule) l14 c14 k14
  have F15 := fun_mk (st := s_leads_all) l15 c15 k15
  have F16 := fun_mk (st := s_tells_book) l16 c16 k16
  have F17 := fun_mk (st := s_rules_for) l17 c17 k17
  have F18 := fun_mk (st := s_l_flag) l18 c18 k18
  have F19 := fun_mk (st := s_l_tape) l19 c19 k19
  have F20 := fun_mk (st := s_l_pick) l20 c20 k20
  have F21 := fun_mk (st := s_l_letters) l21 c21 k21
  have F22 := fun_mk (st := s_l_word) l22 c22 k22
  have F23 := fun_mk (st := s_l_piece) l23 c23 k23
  have F24 := fun_mk (st := s_l_pathed) l24 c24 k24
  have F25 := fun_mk (st := s_l_watches) l25 c25 k25
  have F26 := fun_mk (st := s_l_marks) l26 c26 k26
  have F27 := fun_mk (st := s_l_told) l27 c27 k27
  have F28 := fun_mk (st := s_l_joined) l28 c28 k28
  have F29 := fun_mk (st := s_l_spots) l29 c29 k29
  have F30 := fun_mk (st := s_l_fewest) l30 c30 k30
  have F31 := fun_mk (st := s_l_rule_right) l31 c31 k31
  have F32 := fun_mk (st := s_law) l32 c32 k32
  let T : Txt K mg := {
    C_Book := C0, c_Book := PySem.W.mg_of X G u0,
    cl_Book := ⟨pg0, hd0, po0, sa0⟩, ty_Book := ⟨wc0, wn0, wt0, wm0, kit_self⟩,
    na_Book_watches := na0_0,
    f_is_letters := f1, fd_is_letters := _, F_is_letters := F1, g_is_letters := PySem.W.mg_of X G a1, b_is_letters := F1.binds (ps := ["value"]) fun _ _ _ _ _ _ us hl => match us, hl with | [_], _ => rfl,
    f_is_word := f2, fd_is_word := _, F_is_word := F2, g_is_word := PySem.W.mg_of X G a2, b_is_word := F2.binds (ps := ["thing"]) fun _ _ _ _ _ _ us hl => match us, hl with | [_], _ => rfl,
    f_is_watch := f3, fd_is_watch := _, F_is_watch := F3, g_is_watch := PySem.W.mg_of X G a3, b_is_watch := F3.binds (ps := ["thing"]) fun _ _ _ _ _ _ us hl => match us, hl with | [_], _ => rfl,
    f_check_word := f4, fd_check_word := _, F_check_word := F4, g_check_word := PySem.W.mg_of X G a4, b_check_word := F4.binds (ps := ["word"]) fun _ _ _ _ _ _ us hl => match us, hl with | [_], _ => rfl,
    f_Book_init := f5, fd_Book_init := _, F_Book_init := F5, M_Book := ⟨mk0, a5, i5, kc0⟩, b_Book_init := F5.binds (ps := ["self", "watches"]) fun _ _ _ _ _ _ us hl => match us, hl with | [_, _], _ => rfl,
    f_check_book := f6, fd_check_book := _, F_check_book := F6, g_check_book := PySem.W.mg_of X G a6, b_check_book := F6.binds (ps := ["book"]) fun _ _ _ _ _ _ us hl => match us, hl with | [_], _ => rfl,
    f_links_of := f7, fd_links_of := _, F_links_of := F7, g_links_of := PySem.W.mg_of X G a7, b_links_of := F7.binds (ps := ["watches", "word"]) fun _ _ _ _ _ _ us hl => match us, hl with | [_, _], _ => rfl,
    f_grown := f8, fd_grown := _, F_grown := F8, g_grown := PySem.W.mg_of X G a8, b_grown := F8.binds (ps := ["links", "spots"]) fun _ _ _ _ _ _ us hl => match us, hl with | [_, _], _ => rfl,
    f_leads := f9, fd_leads := _, F_leads := F9, g_leads := PySem.W.mg_of X G a9, b_leads := F9.binds (ps := ["watches", "word"]) fun _ _ _ _ _ _ us hl => match us, hl with | [_, _], _ => rfl,
    f_distances := f10, fd_distances := _, F_distances := F10, g_distances := PySem.W.mg_of X G a10, b_distances := F10.binds (ps := ["links"]) fun _ _ _ _ _ _ us hl => match us, hl with | [_], _ => rfl,
    f_shortest := f11, fd_shortest := _, F_shortest := F11, g_shortest := PySem.W.mg_of X G a11, b_shortest := F11.binds (ps := ["watches", "word"]) fun _ _ _ _ _ _ us hl => match us, hl with | [_, _], _ => rfl,
    f_steps_between := f12, fd_steps_between := _, F_steps_between := F12, g_steps_between := PySem.W.mg_of X G a12, b_steps_between := F12.binds (ps := ["word", "spots"]) fun _ _ _ _ _ _ us hl => match us, hl with | [_, _], _ => rfl,
    f_rule_by := f13, fd_rule_by := _, F_rule_by := F13, g_rule_by := PySem.W.mg_of X G a13, b_rule_by := F13.binds (ps := ["watches", "word"]) fun _ _ _ _ _ _ us hl => match us, hl with | [_, _], _ => rfl,
    f_rule := f14, fd_rule := _, F_rule := F14, g_rule := PySem.W.mg_of X G a14, b_rule := F14.binds (ps := ["book", "word"]) fun _ _ _ _ _ _ us hl => match us, hl with | [_, _], _ => rfl,
    f_leads_all := f15, fd_leads_all := _, F_leads_all := F15, g_leads_all := PySem.W.mg_of X G a15, b_leads_all := F15.binds (ps := ["watches", "words"]) fun _ _ _ _ _ _ us hl => match us, hl with | [_, _], _ => rfl,
    f_tells_book := f16, fd_tells_book := _, F_tells_book := F16, g_tells_book := PySem.W.mg_of X G a16, b_tells_book := F16.binds (ps := ["one", "other"]) fun _ _ _ _ _ _ us hl => match us, hl with | [_, _], _ => rfl,
    f_rules_for := f17, fd_rules_for := _, F_rules_for := F17, g_rules_for := PySem.W.mg_of X G a17, b_rules_for := F17.binds (ps := ["one", "other"]) fun _ _ _ _ _ _ us hl => match us, hl with | [_, _], _ => rfl,
    f_l_flag := f18, fd_l_flag := _, F_l_flag := F18, g_l_flag := PySem.W.mg_of X G a18, b_l_flag := F18.binds (ps := ["_law_told_here", "_law_due"]) fun _ _ _ _ _ _ us hl => match us, hl with | [_, _], _ => rfl,
    f_l_tape := f19, fd_l_tape := _, F_l_tape := F19, g_l_tape := PySem.W.mg_of X G a19, b_l_tape := F19.binds (ps := ["_law_script"]) fun _ _ _ _ _ _ us hl => match us, hl with | [_], _ => rfl,
    f_l_pick := f20, fd_l_pick := _, F_l_pick := F20, g_l_pick := PySem.W.mg_of X G a20, b_l_pick := F20.binds (ps := ["_law_tape_here", "_law_size"]) fun _ _ _ _ _ _ us hl => match us, hl with | [_, _], _ => rfl,
    f_l_letters := f21, fd_l_letters := _, F_l_letters := F21, g_l_letters := PySem.W.mg_of X G a21, b_l_letters := F21.binds (ps := ["_law_tape_here"]) fun _ _ _ _ _ _ us hl => match us, hl with | [_], _ => rfl,
    f_l_word := f22, fd_l_word := _, F_l_word := F22, g_l_word := PySem.W.mg_of X G a22, b_l_word := F22.binds (ps := ["_law_tape_here", "_law_letters_here", "_law_least", "_law_most"]) fun _ _ _ _ _ _ us hl => match us, hl with | [_, _, _, _], _ => rfl,
    f_l_piece := f23, fd_l_piece := _, F_l_piece := F23, g_l_piece := PySem.W.mg_of X G a23, b_l_piece := F23.binds (ps := ["_law_tape_here", "_law_word_here"]) fun _ _ _ _ _ _ us hl => match us, hl with | [_, _], _ => rfl,
    f_l_pathed := f24, fd_l_pathed := _, F_l_pathed := F24, g_l_pathed := PySem.W.mg_of X G a24, b_l_pathed := F24.binds (ps := ["_law_tape_here", "_law_word_here"]) fun _ _ _ _ _ _ us hl => match us, hl with | [_, _], _ => rfl,
    f_l_watches := f25, fd_l_watches := _, F_l_watches := F25, g_l_watches := PySem.W.mg_of X G a25, b_l_watches := F25.binds (ps := ["_law_tape_here", "_law_word_here", "_law_letters_here", "_law_most"]) fun _ _ _ _ _ _ us hl => match us, hl with | [_, _, _, _], _ => rfl,
    f_l_marks := f26, fd_l_marks := _, F_l_marks := F26, g_l_marks := PySem.W.mg_of X G a26, b_l_marks := F26.binds (ps := ["_law_watches_here", "_law_word_here"]) fun _ _ _ _ _ _ us hl => match us, hl with | [_, _], _ => rfl,
    f_l_told := f27, fd_l_told := _, F_l_told := F27, g_l_told := PySem.W.mg_of X G a27, b_l_told := F27.binds (ps := ["_law_watches_here", "_law_word_here"]) fun _ _ _ _ _ _ us hl => match us, hl with | [_, _], _ => rfl,
    f_l_joined := f28, fd_l_joined := _, F_l_joined := F28, g_l_joined := PySem.W.mg_of X G a28, b_l_joined := F28.binds (ps := ["_law_tape_here", "_law_watches_here", "_law_word_here"]) fun _ _ _ _ _ _ us hl => match us, hl with | [_, _, _], _ => rfl,
    f_l_spots := f29, fd_l_spots := _, F_l_spots := F29, g_l_spots := PySem.W.mg_of X G a29, b_l_spots := F29.binds (ps := ["_law_word_here", "_law_steps"]) fun _ _ _ _ _ _ us hl => match us, hl with | [_, _], _ => rfl,
    f_l_fewest := f30, fd_l_fewest := _, F_l_fewest := F30, g_l_fewest := PySem.W.mg_of X G a30, b_l_fewest := F30.binds (ps := ["_law_watches_here", "_law_word_here"]) fun _ _ _ _ _ _ us hl => match us, hl with | [_, _], _ => rfl,
    f_l_rule_right := f31, fd_l_rule_right := _, F_l_rule_right := F31, g_l_rule_right := PySem.W.mg_of X G a31, b_l_rule_right := F31.binds (ps := ["_law_watches_here", "_law_watch", "_law_steps"]) fun _ _ _ _ _ _ us hl => match us, hl with | [_, _, _], _ => rfl,
    f_law := fa, fd_law := _, F_law := F32, g_law := PySem.W.mg_of X G a32, b_law := F32.binds (ps := ["_law_script"]) fun _ _ _ _ _ _ us hl => match us, hl with | [_], _ => rfl,
    n_isinstance := PySem.W.mg_none_of X G z0,
    n_str := PySem.W.mg_none_of X G z1,
    n_all := PySem.W.mg_none_of X G z2,
    n_len := PySem.W.mg_none_of X G z3,
    n_enumerate := PySem.W.mg_none_of X G z4,
    n_tuple := PySem.W.mg_none_of X G z5,
    n_list := PySem.W.mg_none_of X G z6,
    n_range := PySem.W.mg_none_of X G z7,
    n_sorted := PySem.W.mg_none_of X G z8,
    n_zip := PySem.W.mg_none_of X G z9,
    n_bool := PySem.W.mg_none_of X G z10,
    n_int := PySem.W.mg_none_of X G z11,
    n_min := PySem.W.mg_none_of X G z12,
    n_max := PySem.W.mg_none_of X G z13,
    n_dict := PySem.W.mg_none_of X G z14,
    t_LETTERS := t0, m_LETTERS := PySem.W.mg_of X G y0,
    t_MOST_WORD := t1, m_MOST_WORD := PySem.W.mg_of X G y1,
    t_MOST_WATCH := t2, m_MOST_WATCH := PySem.W.mg_of X G y2,
    t_MOST_WATCHES := t3, m_MOST_WATCHES := PySem.W.mg_of X G y3 }
  exact ⟨_, fun s v => .of_eq rfl, fun base _ _ => ok_law T⟩
theorem walk {l : PySem.W.OpenLaw} {q : Program} {loose : List Str} {XP : (Str → Option Value) → Heap → Prop} {YP : World → Heap → Prop} {d : DefRec} {K : Params → PySem.W.Frag} (hn : l.most = some 63) (hdf : d.params.defaults = [])
    (hY : ∀ (w : World) (h : Heap), YP w h → (K w.params).In h)
    (F : ∀ (w : World) (mg : Str → Option Value) (fa : Addr) (h : Heap), (K w.params).In h → h.Ns mainGlobals mg → mg d.name = some (.ref fa) →
      ∃ fd : FuncData, (∀ (s : Shared) (u : Value), BindsTo s fd ⟨[u], []⟩ [("_law_script", u)]) ∧ ∀ base : Heap, (K w.params).In base → base.Ns mainGlobals mg → FnOk l.prog w (K w.params) mg base CX0 6 fa fd ["_law_script"] (sp_law (K w.params))) :
    PySem.W.WalkO q loose XP YP l.row.toRowW d [] (fun f vs => PySem.call f vs) :=
  L2.walk_of (n := 63) (k := 6) (x := "_law_script") (CX := fun _ => CX0) (sp := fun w => sp_law (K w.params)) hn (by decide) hdf ⟨rfl, by decide, by decide⟩ hY F (fun _ _ a ns hl _ hS => ⟨a, ns, rfl, hS, hl, fun _ => rfl⟩) fun _ _ _ _ _ z => z
end W
open PySem PySem.W PyProof.Rows
set_option maxRecDepth 100000 in
set_option maxHeartbeats 0 in
theorem PySem.Challenge.cw_watchedways_k68_whole_books_by_books_holds : PySem.Challenge.rw_watchedways_k68_whole_books_by_books.Holds := by
  w_on; o_law; k_head; (case hw => w_witness2)
  k_fill
  refine W.walk (l := PySem.Challenge.rw_watchedways_k68_whole_books_by_books) rfl rfl (fun w h Y => PySem.W.kIn_of Y) ?F
  case F =>
    intro w mg fa h KX G hmg
    refine' W.all_mk KX G hmg ?u0 ?pg0 ?hd0 ?po0 ?sa0 ?wc0 ?wm0 ?wn0 ?wt0 ?na0_0 ?a1 ?l1 ?c1 ?k1 ?a2 ?l2 ?c2 ?k2 ?a3 ?l3 ?c3 ?k3 ?a4 ?l4 ?c4 ?k4 ?a5 ?i5 ?mk0 ?kc0 ?l5 ?c5 ?k5 ?a6 ?l6 ?c6 ?k6 ?a7 ?l7 ?c7 ?k7 ?a8 ?l8 ?c8 ?k8 ?a9 ?l9 ?c9 ?k9 ?a10 ?l10 ?c10 ?k10 ?a11 ?l11 ?c11 ?k11 ?a12 ?l12 ?c12 ?k12 ?a13 ?l13 ?c13 ?k13 ?a14 ?l14 ?c14 ?k14 ?a15 ?l15 ?c15 ?k15 ?a16 ?l16 ?c16 ?k16 ?a17 ?l17 ?c17 ?k17 ?a18 ?l18 ?c18 ?k18 ?a19 ?l19 ?c19 ?k19 ?a20 ?l20 ?c20 ?k20 ?a21 ?l21 ?c21 ?k21 ?a22 ?l22 ?c22 ?k22 ?a23 ?l23 ?c23 ?k23 ?a24 ?l24 ?c24 ?k24 ?a25 ?l25 ?c25 ?k25 ?a26 ?l26 ?c26 ?k26 ?a27 ?l27 ?c27 ?k27 ?a28 ?l28 ?c28 ?k28 ?a29 ?l29 ?c29 ?k29 ?a30 ?l30 ?c30 ?k30 ?a31 ?l31 ?c31 ?k31 ?a32 ?l32 ?c32 ?k32 ?z0 ?z1 ?z2 ?z3 ?z4 ?z5 ?z6 ?z7 ?z8 ?z9 ?z10 ?z11 ?z12 ?z13 ?z14 ?y0 ?y1 ?y2 ?y3
    (case u0 => k_is); (case pg0 => k_is); (case hd0 => k_is); (case po0 => k_is); (case sa0 => k_is); (case wc0 => k_is); (case wm0 => k_is); (case wn0 => k_is); (case wt0 => k_is); (case na0_0 => k_is); (case a1 => k_is); (case l1 => k_is); (case c1 => k_is); (case k1 => k_is); (case a2 => k_is); (case l2 => k_is); (case c2 => k_is); (case k2 => k_is); (case a3 => k_is); (case l3 => k_is); (case c3 => k_is); (case k3 => k_is); (case a4 => k_is); (case l4 => k_is); (case c4 => k_is); (case k4 => k_is); (case a5 => k_is); (case i5 => k_is); (case mk0 => k_is); (case kc0 => k_is); (case l5 => k_is); (case c5 => k_is); (case k5 => k_is); (case a6 => k_is); (case l6 => k_is); (case c6 => k_is); (case k6 => k_is); (case a7 => k_is); (case l7 => k_is); (case c7 => k_is); (case k7 => k_is); (case a8 => k_is); (case l8 => k_is); (case c8 => k_is); (case k8 => k_is); (case a9 => k_is); (case l9 => k_is); (case c9 => k_is); (case k9 => k_is); (case a10 => k_is); (case l10 => k_is); (case c10 => k_is); (case k10 => k_is); (case a11 => k_is); (case l11 => k_is); (case c11 => k_is); (case k11 => k_is); (case a12 => k_is); (case l12 => k_is); (case c12 => k_is); (case k12 => k_is); (case a13 => k_is); (case l13 => k_is); (case c13 => k_is); (case k13 => k_is); (case a14 => k_is); (case l14 => k_is); (case c14 => k_is); (case k14 => k_is); (case a15 => k_is); (case l15 => k_is); (case c15 => k_is); (case k15 => k_is); (case a16 => k_is); (case l16 => k_is); (case c16 => k_is); (case k16 => k_is); (case a17 => k_is); (case l17 => k_is); (case c17 => k_is); (case k17 => k_is); (case a18 => k_is); (case l18 => k_is); (case c18 => k_is); (case k18 => k_is); (case a19 => k_is); (case l19 => k_is); (case c19 => k_is); (case k19 => k_is); (case a20 => k_is); (case l20 => k_is); (case c20 => k_is); (case k20 => k_is); (case a21 => k_is); (case l21 => k_is); (case c21 => k_is); (case k21 => k_is); (case a22 => k_is); (case l22 => k_is); (case c22 => k_is); (case k22 => k_is); (case a23 => k_is); (case l23 => k_is); (case c23 => k_is); (case k23 => k_is); (case a24 => k_is); (case l24 => k_is); (case c24 => k_is); (case k24 => k_is); (case a25 => k_is); (case l25 => k_is); (case c25 => k_is); (case k25 => k_is); (case a26 => k_is); (case l26 => k_is); (case c26 => k_is); (case k26 => k_is); (case a27 => k_is); (case l27 => k_is); (case c27 => k_is); (case k27 => k_is); (case a28 => k_is); (case l28 => k_is); (case c28 => k_is); (case k28 => k_is); (case a29 => k_is); (case l29 => k_is); (case c29 => k_is); (case k29 => k_is); (case a30 => k_is); (case l30 => k_is); (case c30 => k_is); (case k30 => k_is); (case a31 => k_is); (case l31 => k_is); (case c31 => k_is); (case k31 => k_is); (case a32 => k_is); (case l32 => k_is); (case c32 => k_is); (case k32 => k_is); (case z0 => k_is); (case z1 => k_is); (case z2 => k_is); (case z3 => k_is); (case z4 => k_is); (case z5 => k_is); (case z6 => k_is); (case z7 => k_is); (case z8 => k_is); (case z9 => k_is); (case z10 => k_is); (case z11 => k_is); (case z12 => k_is); (case z13 => k_is); (case z14 => k_is); (case y0 => k_is); (case y1 => k_is); (case y2 => k_is); (case y3 => k_is)
