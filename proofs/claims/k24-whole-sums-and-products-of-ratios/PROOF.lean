import PyProof.Rows.All
import Wide.All
import OpenK.AllK
import Wide.FinOn
import HandS.ForMost
import HandS.SortInts
import HandS.Style
import HandS.IsInst
import HandS.Flow
import HandS.Conv
import HandS.Codes
import PyProof.Draws
import PyProof.EnumMake
import HandS.Walk
import HandS.Strs
import HandS.More
import HandS.Text
import HandS.Small
import HandS.SortKw
import KE.SortKeyed
import HandS.DictComp
import HandS.Zip
import HandS.Finally
import HandS.Exc
import HandS.ExcOwn
import HandS.ExcInit
import HandS.ExcIs
import HandS.TryOnly
import HandS.TryMany
import HandS.WordsExc
import HandS.Defaults
import HandS.CallSlots
import HandS.DeepEq
import HandS.OwnEq
import HandS.Wide
import PyProof.FactsAll.int_1
import PyProof.FactsAll.int_3
import PyProof.FactsAll.int_4
import PyProof.FactsAll.int_5
import PyProof.SumAny
import HandS.SetFor
import PyProof.Rows.CountFlat
import PySem.Challenge.RW_watchedways_k24_whole_sums_and_products
set_option Elab.async false
set_option linter.all false
set_option maxRecDepth 100000
set_option maxHeartbeats 4000000
/-! Readings by their heads: one lemma a combinator, so that a reading is walked by its own shape. -/
namespace Rd
open PySem PySem.Spec PyProof.Rows L2
variable {X : Cx} {D : Ends} {σ : L2.St} {H : Hp} {K : PySem.W.Frag}
/-- a new object is laid -/
def NewQ (o : HO) (Q : VK) (H : Hp) : Prop := ∀ p, H p = none → Q (.ref p) (upd H p o)
theorem new {o : HO} {Q : VK} (h : ∀ (p : Addr) (G : Hp), H p = none → G p = some o → Same H G → Q (.ref p) G) : NewQ o Q H :=
  fun p hp => h p _ hp upd_same fun b u e => by rw [upd_ne (ne_of_none e hp)]; exact e
theorem seq {t u : TS} (h : t { D with nx := u D } σ H) : tSeq t u D σ H := h
theorem cut {t u : TS} (Mid : L2.St → Hp → Prop) (h : t { D with nx := Mid } σ H) (h2 : ∀ σ' H', Mid σ' H' → u D σ' H') : C8.tCut t u D σ H := ⟨Mid, h, h2⟩
theorem nxt (h : D.nx σ H) : tNext D σ H := h
theorem asg {te : TE} {g : TG} (h : te σ H fun x H1 => g x σ H1 D.nx) : tAsg te g D σ H := h
theorem name {i : Nat} {v : V} {Q : L2.St → Hp → Prop} (h : Q (σ.set i (some v)) H) : gName i v σ H Q := h
theorem ret {te : TE} (h : te σ H D.rt) : tRet te D σ H := h
theorem retN (h : D.rt .non H) : tRetN D σ H := h
theorem drop {te : TE} (h : te σ H fun _ H1 => D.nx σ H1) : tDrop te D σ H := h
theorem ifS {c : TT} {t u : TS} (h : c σ H fun b H1 => if b = true then t D σ H1 else u D σ H1) : tIfS c t u D σ H := h
theorem brk (h : D.bk σ H) : tBreak D σ H := h
theorem cont (h : D.ct σ H) : tCont D σ H := h
theorem var {i : Nat} {v : V} {Q : VK} (e : σ[i]? = some (some v)) (h : Q v H) : tVar i σ H Q := ⟨v, e, h⟩
theorem con {v : V} {Q : VK} (h : Q v H) : tC v σ H Q := h
theorem op {r : R2} {ta tb : TE} {Q : VK} (h : ta σ H fun x H1 => tb σ H1 fun y H2 => r x y H2 Q) : tOp r ta tb σ H Q := h
theorem un {r : V → Hp → VK → Prop} {ta : TE} {Q : VK} (h : ta σ H fun x H1 => r x H1 Q) : tUn r ta σ H Q := h
theorem test {t : TE} {Q : Bool → Hp → Prop} (h : t σ H fun x H' => ∃ k, x = .bl k ∧ Q k H') : tTest t σ H Q := h
theorem tstB {t : TE} {Q : Bool → Hp → Prop} (h : t σ H fun x H' => ∃ k, x = .bl k ∧ Q k H') : tB t σ H Q := h
theorem bl {k : Bool} {Q : Bool → Hp → Prop} (h : Q k H) : ∃ k', V.bl k = .bl k' ∧ Q k' H := ⟨k, rfl, h⟩
theorem and {t u : TT} {Q : Bool → Hp → Prop} (h : t σ H fun c H1 => if c = true then u σ H1 Q else Q false H1) : tAnd t u σ H Q := h
theorem or {t u : TT} {Q : Bool → Hp → Prop} (h : t σ H fun c H1 => if c = true then Q true H1 else u σ H1 Q) : tOr t u σ H Q := h
theorem not {t : TT} {Q : Bool → Hp → Prop} (h : t σ H fun c H1 => Q (!c) H1) : tNot t σ H Q := h
theorem andV {ta tb : TE} {Q : VK} (h : ta σ H fun x H1 => ∃ c, x = .bl c ∧ if c = true then tb σ H1 Q else Q (.bl false) H1) : tAndV ta tb σ H Q := h
theorem orV {ta tb : TE} {Q : VK} (h : ta σ H fun x H1 => ∃ c, x = .bl c ∧ if c = true then Q (.bl true) H1 else tb σ H1 Q) : tOrV ta tb σ H Q := h
theorem notV {ta : TE} {Q : VK} (h : ta σ H fun x H1 => ∃ c, x = .bl c ∧ Q (.bl (!c)) H1) : tNotV ta σ H Q := h
theorem ifE {t : TT} {ta tb : TE} {Q : VK} (h : t σ H fun c H1 => if c = true then ta σ H1 Q else tb σ H1 Q) : tIf t ta tb σ H Q := h
theorem nil {Q : List V → Hp → Prop} (h : Q [] H) : tNil σ H Q := h
theorem cons {ta : TE} {tr : TA} {Q : List V → Hp → Prop} (h : ta σ H fun x H1 => tr σ H1 fun xs H2 => Q (x :: xs) H2) : tCons ta tr σ H Q := h
theorem tup {t : TA} {Q : VK} (h : t σ H fun xs H1 => xs.length ≤ sizeLine ∧ NewQ (.tup xs) Q H1) : tTup t σ H Q := h
theorem lst {t : TA} {Q : VK} (h : t σ H fun xs H1 => xs.length ≤ sizeLine ∧ NewQ (.lst xs) Q H1) : tLst t σ H Q := h
theorem cb {r : List V → Hp → VK → Prop} {t : TA} {Q : VK} (h : t σ H fun vs H1 => r vs H1 Q) : tCB r t σ H Q := h
theorem call {sp : Sp} {dvs : List V} {E : XK} {t : TA} {Q : VK} (h : t σ H fun vs H1 => sp (vs ++ dvs) H1 Q E) : tCall sp dvs E t σ H Q := h
theorem chain {r r' : R2} {ta tb tc : TE} {Q : VK} (h : ta σ H fun x H1 => tb σ H1 fun y H2 => r x y H2 fun z H3 => ∃ k, z = .bl k ∧ (if k = true then tc σ H3 fun w' H4 => r' y w' H4 Q else Q (.bl false) H3)) : tChain r r' ta tb tc σ H Q := h
theorem blE {k : Bool} {P : Bool → Prop} (h : P k) : ∃ k', V.bl k = .bl k' ∧ P k' := ⟨k, rfl, h⟩
theorem i0 {g : Int → Int → V} {i j : Int} {Q : VK} (h : Q (g i j) H) : rI0 g (.int i) (.int j) H Q := ⟨i, j, rfl, rfl, h⟩
theorem iC {C : Int → Int → Prop} {g : Int → Int → V} {i j : Int} {Q : VK} (c : C i j) (h : Q (g i j) H) : rI C g (.int i) (.int j) H Q := ⟨i, j, rfl, rfl, c, h⟩
theorem u1 {g : Int → V} {i : Int} {Q : VK} (h : Q (g i) H) : rU g (.int i) H Q := ⟨i, rfl, h⟩
theorem eqI {i j : Int} {Q : VK} (h : Q (.bl (decide (i = j))) H) : rEq (.int i) (.int j) H Q := ⟨rfl, by rw [show decide (V.int i = V.int j) = decide (i = j) by simp]; exact h⟩
theorem neI {i j : Int} {Q : VK} (h : Q (.bl (!decide (i = j))) H) : rNe (.int i) (.int j) H Q := ⟨rfl, by rw [show decide (V.int i = V.int j) = decide (i = j) by simp]; exact h⟩
theorem eqB {i j : Bool} {Q : VK} (h : Q (.bl (i == j)) H) : rEq (.bl i) (.bl j) H Q := ⟨rfl, by rw [dec_bl]; exact h⟩
theorem neB {i j : Bool} {Q : VK} (h : Q (.bl (i != j)) H) : rNe (.bl i) (.bl j) H Q := ⟨rfl, by rw [dec_bl]; exact h⟩
theorem eqS {i j : Str} {Q : VK} (h : Q (.bl (decide (i = j))) H) : rEq (.str i) (.str j) H Q := ⟨rfl, by rw [show decide (V.str i = V.str j) = decide (i = j) by simp]; exact h⟩
theorem neS {i j : Str} {Q : VK} (h : Q (.bl (!decide (i = j))) H) : rNe (.str i) (.str j) H Q := ⟨rfl, by rw [show decide (V.str i = V.str j) = decide (i = j) by simp]; exact h⟩
theorem iteb {c A B : Prop} [Decidable c] (h : if c then A else B) : if decide c = true then A else B := by
  by_cases q : c
  · rw [if_pos q] at h; rw [if_pos (decide_eq_true q)]; exact h
  · rw [if_neg q] at h; rw [if_neg (by simpa using q)]; exact h
theorem iten {c A B : Prop} [Decidable c] (h : if c then B else A) : if (!decide c) = true then A else B := by
  by_cases q : c
  · rw [if_pos q] at h; rw [if_neg (by simpa using q)]; exact h
  · rw [if_neg q] at h; rw [if_pos (by simpa using q)]; exact h
theorem itbn {b : Bool} {A B : Prop} (h : if b = true then B else A) : if (!b) = true then A else B := by
  cases b with
  | true => rw [if_neg (by decide)]; rw [if_pos rfl] at h; exact h
  | false => rw [if_pos (by rfl : (!false) = true)]; rw [if_neg (by decide)] at h; exact h
theorem a1 {a : Int} {P : Int → Prop} (h : P a) : ∃ i, [V.int a] = [V.int i] ∧ P i := ⟨a, rfl, h⟩
theorem a2 {a b : Int} {P : Int → Int → Prop} (h : P a b) : ∃ i j, [V.int a, V.int b] = [V.int i, V.int j] ∧ P i j := ⟨a, b, rfl, h⟩
theorem v2 {a b : V} {P : V → V → Prop} (h : P a b) : ∃ i j, [a, b] = [i, j] ∧ P i j := ⟨a, b, rfl, h⟩
theorem int1 {a : Int} {P : Int → Prop} {R : Prop} (h : P a) : (∃ i, [V.int a] = [V.int i] ∧ P i) ∨ R := .inl ⟨a, rfl, h⟩
theorem par {i j : Nat} {ta : TA} (h : ta σ H fun vs H1 => ∃ v w, vs = [v, w] ∧ D.nx ((σ.set i (some v)).set j (some w)) H1) : tPar i j ta D σ H := h
theorem sub {to ti : TE} {t : TSet} {v : V} {Q : L2.St → Hp → Prop} (h : to σ H fun o H1 => ti σ H1 fun i H2 => t o i v H2 fun H3 => Q σ H3) : gSub to ti t v σ H Q := h
theorem forS {wi : TI} {g : TG} {tb : TS} (h : wi σ H fun J H1 => ∃ W : Nat → Nat → L2.St → Hp → Prop, (∃ m, W 0 m σ H1) ∧ ∀ i m σ H, W i m σ H →
  (J.stop i H ∧ D.nx σ H) ∨ (J.go i H ∧ ∃ N : L2.St → Hp → Prop, (∀ σ' H', N σ' H' → ∃ m', m' < m ∧ W (i + 1) m' σ' H') ∧ ∀ x H', J.yld i H x H' → g x σ H' fun σ2 H2 => tb { D with nx := N, ct := N, bk := D.nx } σ2 H2)) : tFor wi g tb D σ H := h
theorem iter {tl : TE} {R : It → Hp → Prop} (h : tl σ H fun x H1 => ∃ a, x = .ref a ∧ (∃ xs, SqL K H1 a xs) ∧ R (Itl K a) H1) : iList K tl σ H R := h
theorem iterT {tl : TE} {R : It → Hp → Prop} (h : tl σ H fun x H1 => ∃ a, x = .ref a ∧ (∃ xs, SqT K H1 a xs) ∧ R (Itt K a) H1) : iTup K tl σ H R := h
theorem rng1 {ta : TA} {R : It → Hp → Prop} (h : ta σ H fun vs H1 => ∃ j : Int, vs = [.int j] ∧ -(2 ^ 62) ≤ j ∧ j < 2 ^ 62 ∧ R (Itr 0 j.toNat) H1) : iRng1 ta σ H R := h
theorem refE {a : Addr} {P : Addr → Prop} (h : P a) : ∃ b, V.ref a = .ref b ∧ P b := ⟨a, rfl, h⟩
theorem aug {i : Nat} {te : TE} {ti : TIp} {x : V} (e : σ[i]? = some (some x)) (h : te σ H fun y H1 => ti x y H1 fun z H2 => D.nx (σ.set i (some z)) H2) : tAug i te ti D σ H := ⟨x, e, h⟩
theorem ipi {f : Int → Int → Int} {i j : Int} {Q : VK} (h : Q (.int (f i j)) H) : ipI f (.int i) (.int j) H Q := ⟨i, j, rfl, rfl, h⟩
theorem whl {c : TT} {tb : TS} (W : Nat → L2.St → Hp → Prop) (h0 : ∃ m, W m σ H) (hs : ∀ m σ H, W m σ H → c σ H fun b H1 => if b = true then ∃ N : L2.St → Hp → Prop, (∀ σ' H', N σ' H' → ∃ m', m' < m ∧ W m' σ' H') ∧ tb { D with nx := N, ct := N, bk := D.nx } σ H1 else D.nx σ H1) : tWhile c tb D σ H := ⟨W, h0, hs⟩
theorem whN {m : Nat} {W : Nat → L2.St → Hp → Prop} {P : (L2.St → Hp → Prop) → Prop} (h : P (fun σ' H' => ∃ m', m' < m ∧ W m' σ' H')) : ∃ N, (∀ σ' H', N σ' H' → ∃ m', m' < m ∧ W m' σ' H') ∧ P N := ⟨_, fun _ _ h => h, h⟩
/-- an item of a list at a place -/
theorem ixL {p : Addr} {xs : List V} {i : Int} {v : V} {Q : VK} (hp : SqL K H p xs) (e : atI xs i = some v) (h : Q v H) : rIxL K (.ref p) (.int i) H Q := ⟨p, xs, i, v, rfl, rfl, hp, e, h⟩
theorem ixT {p : Addr} {xs : List V} {i : Int} {v : V} {Q : VK} (hp : SqT K H p xs) (e : atI xs i = some v) (h : Q v H) : rIxT K (.ref p) (.int i) H Q := ⟨p, xs, i, v, rfl, rfl, hp, e, h⟩
theorem setL {p : Addr} {xs : List V} {k : Int} {j : Nat} {v : V} {Q : Hp → Prop} (hp : H p = some (.lst xs)) (e : ixN xs.length k = some j) (h : Q (upd H p (.lst (xs.set j v)))) : rSetL (.ref p) (.int k) v H Q := ⟨p, xs, k, j, rfl, rfl, hp, e, h⟩
/-- a store into a list: behind it a heap G of which this is known -/
theorem setG {p : Addr} {xs ys : List V} {k : Int} {j : Nat} {v : V} {Q : Hp → Prop} (hp : H p = some (.lst xs)) (e : ixN xs.length k = some j) (hy : xs.set j v = ys) (h : ∀ G : Hp, G p = some (.lst ys) → (∀ b, b ≠ p → G b = H b) → Q G) : rSetL (.ref p) (.int k) v H Q :=
  ⟨p, xs, k, j, rfl, rfl, hp, e, hy ▸ h _ upd_same fun b hb => upd_ne hb⟩
/-! ### calls of built-ins and methods, by name -/
def nLen (K : PySem.W.Frag) : List V → Hp → VK → Prop := fun xs H Q => ∃ p ys, xs = [.ref p] ∧ (SqL K H p ys ∨ SqT K H p ys) ∧ Q (.int ys.length) H
theorem c_len : CallR X (.builtin "len") (nLen X.K) := call_len_seq
theorem len {p : Addr} {ys : List V} {Q : VK} (hp : SqL K H p ys ∨ SqT K H p ys) (h : Q (.int ys.length) H) : nLen K [.ref p] H Q := ⟨p, ys, rfl, hp, h⟩
def nLenS : List V → Hp → VK → Prop := fun xs H Q => ∃ z : Str, xs = [.str z] ∧ z.length ≤ sizeLine ∧ Q (.int z.length) H
theorem c_lenS : CallR X (.builtin "len") nLenS := call_len_str
theorem lenStr {z : Str} {Q : VK} (hz : z.length ≤ sizeLine) (h : Q (.int z.length) H) : nLenS [.str z] H Q := ⟨z, rfl, hz, h⟩
def nListOf (K : PySem.W.Frag) : List V → Hp → VK → Prop := fun xs H Q => ∃ p ys, xs = [.ref p] ∧ (SqL K H p ys ∨ SqT K H p ys) ∧ NewQ (.lst ys) Q H
theorem c_listOf : CallR X (.type "list") (nListOf X.K) := call_list_of
theorem listOf {p : Addr} {ys : List V} {Q : VK} (hp : SqL K H p ys ∨ SqT K H p ys) (h : NewQ (.lst ys) Q H) : nListOf K [.ref p] H Q := ⟨p, ys, rfl, hp, h⟩
def nTupOf (K : PySem.W.Frag) : List V → Hp → VK → Prop := fun xs H Q => ∃ p ys, xs = [.ref p] ∧ ((SqL K H p ys ∧ NewQ (.tup ys) Q H) ∨ (SqT K H p ys ∧ Q (.ref p) H))
theorem c_tupOf : CallR X (.type "tuple") (nTupOf X.K) := call_tuple_of
theorem tupOf {p : Addr} {ys : List V} {Q : VK} (hp : SqL K H p ys) (h : NewQ (.tup ys) Q H) : nTupOf K [.ref p] H Q := ⟨p, ys, rfl, .inl ⟨hp, h⟩⟩
def nInt : List V → Hp → VK → Prop := fun xs H Q => (∃ i, xs = [.int i] ∧ Q (.int i) H) ∨ ∃ k, xs = [.bl k] ∧ Q (.int (if k then 1 else 0)) H
theorem c_int : CallR X (.type "int") nInt := call_int1
theorem int {i : Int} {Q : VK} (h : Q (.int i) H) : nInt [.int i] H Q := .inl ⟨i, rfl, h⟩
theorem intB {k : Bool} {Q : VK} (h : Q (.int (if k then 1 else 0)) H) : nInt [.bl k] H Q := .inr ⟨k, rfl, h⟩
def nAbs : List V → Hp → VK → Prop := fun xs H Q => ∃ i, xs = [.int i] ∧ Q (.int (if i < 0 then -i else i)) H
theorem c_abs : CallR X (.builtin "abs") nAbs := call_abs
theorem abs {i : Int} {Q : VK} (h : Q (.int (i.natAbs : Int)) H) : nAbs [.int i] H Q := ⟨i, rfl, by rw [show (if i < 0 then -i else i) = (i.natAbs : Int) by split <;> omega]; exact h⟩
def nMax2 : List V → Hp → VK → Prop := fun xs H Q => ∃ i j, xs = [.int i, .int j] ∧ Q (.int (if j > i then j else i)) H
theorem c_max2 (hc : X.calm = true) : CallR X (.builtin "max") nMax2 := call_max2 hc
theorem max2 {i j : Int} {Q : VK} (h : Q (.int (max i j)) H) : nMax2 [.int i, .int j] H Q := ⟨i, j, rfl, by rw [show (if j > i then j else i) = max i j by rw [Int.max_def]; split <;> split <;> omega]; exact h⟩
def nMin2 : List V → Hp → VK → Prop := fun xs H Q => ∃ i j, xs = [.int i, .int j] ∧ Q (.int (if j < i then j else i)) H
theorem c_min2 (hc : X.calm = true) : CallR X (.builtin "min") nMin2 := call_min2 hc
theorem min2 {i j : Int} {Q : VK} (h : Q (.int (min i j)) H) : nMin2 [.int i, .int j] H Q := ⟨i, j, rfl, by rw [show (if j < i then j else i) = min i j by rw [Int.min_def]; split <;> split <;> omega]; exact h⟩
theorem bm {T : String} {r : V → List V → Hp → VK → Prop} {to : TE} {t : TA} {Q : VK} (h : to σ H fun x H1 => tyV K T x H1 ∧ t σ H1 fun xs H2 => r x xs H2 Q) : tBM K T r to t σ H Q := h
theorem bm0 {T : String} {r : V → List V → Hp → VK → Prop} {to : TE} {Q : VK} (h : to σ H fun x H1 => tyV K T x H1 ∧ r x [] H1 Q) : tBM0 K T r to σ H Q := h
theorem tyL {a : Addr} {xs : List V} {R : Prop} (h : SqL K H a xs) (r : R) : tyV K "list" (.ref a) H ∧ R := ⟨.inl ⟨rfl, _, h⟩, r⟩
theorem app {l : Addr} {xs : List V} {y : V} {Q : VK} (hp : H l = some (.lst xs)) (hz : xs.length < sizeLine) (h : ∀ G : Hp, G l = some (.lst (xs ++ [y])) → (∀ b, b ≠ l → G b = H b) → Q .non G) : rAppend (.ref l) [y] H Q :=
  ⟨l, xs, y, rfl, rfl, hp, hz, h _ upd_same fun b hb => upd_ne hb⟩
theorem popAt {l : Addr} {xs : List V} {i : Int} {y : V} {Q : VK} (hp : H l = some (.lst xs)) (h0 : 0 ≤ i) (h1 : i < xs.length) (hz : xs.length < 2 ^ 63) (hy : xs[i.toNat]? = some y) (h : ∀ G : Hp, G l = some (.lst (xs.eraseIdx i.toNat)) → (∀ b, b ≠ l → G b = H b) → Q y G) : rPopAt (.ref l) [.int i] H Q :=
  ⟨l, xs, i, i.toNat, y, rfl, rfl, hp, by omega, by omega, by unfold seqIndex?; rw [if_pos (by simp; omega)] <;> simp <;> omega, hy, h _ upd_same fun b hb => upd_ne hb⟩
theorem sl {r : V → Option Int → Option Int → Hp → VK → Prop} {te : TE} {tl th : TO} {Q : VK} (h : te σ H fun x H1 => tl σ H1 fun l H2 => th σ H2 fun u H3 => r x l u H3 Q) : tSl r te tl th σ H Q := h
theorem slL {a : Addr} {xs : List V} {lo hi : Option Int} {Q : VK} (hp : SqL K H a xs) (h : NewQ (.lst (cutV xs lo hi)) Q H) : rSlL K (.ref a) lo hi H Q := ⟨a, xs, rfl, hp, h⟩
theorem slS {z : Str} {lo hi : Option Int} {Q : VK} (hz : z.length ≤ sizeLine) (h : Q (.str (cutS z lo hi)) H) : rSlS (.str z) lo hi H Q := ⟨z, rfl, hz, h⟩
theorem cat {l b : Addr} {xs zs : List V} {Q : VK} (h1 : H l = some (.lst xs)) (h2 : H b = some (.lst zs)) (hz : xs.length + zs.length ≤ sizeLine) (h : NewQ (.lst (xs ++ zs)) Q H) : rCat (.ref l) (.ref b) H Q := ⟨l, b, xs, zs, rfl, rfl, h1, h2, hz, h⟩
theorem rep {l : Addr} {xs : List V} {k : Int} {Q : VK} (h1 : H l = some (.lst xs)) (h0 : -(2 ^ 63) ≤ k) (hk : k < 2 ^ 63) (hz : xs.length * k.toNat ≤ sizeLine) (h : NewQ (.lst (List.replicate k.toNat xs).flatten) Q H) : rRep (.ref l) (.int k) H Q := ⟨l, k, xs, rfl, rfl, h1, h0, hk, hz, h⟩
theorem revL {te : TE} {Q : VK} (h : te σ H fun x H1 => ∃ a xs, x = .ref a ∧ SqL K H1 a xs ∧ NewQ (.lst xs.reverse) Q H1) : tRevL K te σ H Q := h
theorem refX {a : Addr} {xs : List V} {P : List V → Prop} (h : SqL K H a xs) (q : P xs) : ∃ b ys, V.ref a = .ref b ∧ SqL K H b ys ∧ P ys := ⟨a, xs, rfl, h, q⟩
theorem sum {a : Addr} {ns : List Int} {Q : VK} (hp : SqL K H a (ns.map V.int)) (h : Q (.int ns.sum) H) : rSum K [.ref a] H Q := ⟨a, ns, rfl, hp, h⟩
theorem all {a : Addr} {bs : List Bool} {Q : VK} (hp : SqL K H a (bs.map V.bl)) (h : Q (.bl (bs.all id)) H) : rAll K [.ref a] H Q := ⟨a, bs, rfl, hp, h⟩
theorem any {a : Addr} {bs : List Bool} {Q : VK} (hp : SqL K H a (bs.map V.bl)) (h : Q (.bl (bs.any id)) H) : rAny K [.ref a] H Q := ⟨a, bs, rfl, hp, h⟩
theorem sortedI {a : Addr} {ns : List Int} {Q : VK} (hp : SqL K H a (ns.map V.int)) (h : ∀ (ms : List Int) (p : Addr) (G : Hp), ms.Perm ns → ms.Pairwise (· ≤ ·) → G p = some (.lst (ms.map V.int)) → Same H G → H p = none → Q (.ref p) G) : rSortedI K [.ref a] H Q :=
  ⟨a, ns, rfl, hp, fun ms p h1 h2 h3 => h ms p _ h1 h2 upd_same (fun b u e => by rw [upd_ne (ne_of_none e h3)]; exact e) h3⟩
theorem inS {neg : Bool} {x : V} {p : Addr} {xs : List V} {Q : VK} (hp : SqL K H p xs ∨ SqT K H p xs) (h1 : flatV x = true) (h2 : xs.all flatV = true) (h : Q (.bl (if neg then !inV x xs else inV x xs)) H) : rIn K neg x (.ref p) H Q := ⟨p, xs, rfl, hp, h1, h2, h⟩
theorem part {te : TE} {Q : Option Int → Hp → Prop} (h : te σ H fun x H1 => ∃ i, x = .int i ∧ Q (some i) H1) : tPart te σ H Q := h
theorem noPart {Q : Option Int → Hp → Prop} (h : Q none H) : tNoPart σ H Q := h
theorem poS {te : TE} {Q : Option Int → Hp → Prop} {i : Int} (h : te σ H fun x H1 => ∃ i, x = .int i ∧ Q (some i) H1) : te σ H fun x H1 => ∃ i, x = .int i ∧ Q (some i) H1 := h
theorem tupT {a : Addr} {xs : List V} {n : Nat} {t : TGs} {Q : L2.St → Hp → Prop} (hp : SqT K H a xs) (hn : xs.length = n) (h : t xs σ H Q) : gTup K n t (.ref a) σ H Q := ⟨a, xs, rfl, hp, hn, h⟩
theorem gcons {t : TG} {u : TGs} {v : V} {r : List V} {Q : L2.St → Hp → Prop} (h : t v σ H fun σ' H' => u r σ' H' Q) : gCons t u (v :: r) σ H Q := ⟨v, r, rfl, h⟩
theorem gnil {Q : L2.St → Hp → Prop} (h : Q σ H) : gNil [] σ H Q := ⟨rfl, h⟩
theorem last2 {ms : List Int} (h : 2 ≤ ms.length) : ∃ s b a, ms = s ++ [b, a] := by
  rcases List.eq_nil_or_concat ms with e | ⟨t, a, e⟩
  · subst e; simp at h
  · rcases List.eq_nil_or_concat t with e2 | ⟨s, b, e2⟩
    · subst e2; subst e; simp at h
    · exact ⟨s, b, a, by rw [e, e2]; simp⟩
theorem cut_last2 (s : List Int) (b a : Int) : cutV ((s ++ [b, a]).map V.int) (some (-2)) none = [b, a].map V.int := by
  have e : HT.sIx ((s ++ [b, a]).map V.int).length 0 (some (-2)) = (s.map V.int).length := by
    unfold HT.sIx
    simp
    omega
  have e2 : HT.sIx ((s ++ [b, a]).map V.int).length ((s ++ [b, a]).map V.int).length none = ((s ++ [b, a]).map V.int).length := rfl
  unfold cutV
  rw [e, e2, List.map_append, List.drop_left, List.length_append]
  exact List.take_of_length_le (by simp)
theorem rep_map (k : Nat) (b : Bool) : (List.replicate k [V.bl b]).flatten = (List.replicate k b).map V.bl := by
  induction k with
  | zero => rfl
  | succ k ih => rw [List.replicate_succ, List.flatten_cons, ih, List.replicate_succ]; rfl
theorem map_set {α β : Type} (f : α → β) (l : List α) (i : Nat) (x : α) : (l.map f).set i (f x) = (l.set i x).map f := by rw [List.map_set]
theorem enx {a b c : L2.St → Hp → Prop} {r : VK} (h : a σ H) : (Ends.mk a r b c).nx σ H := h
theorem ebk {a b c : L2.St → Hp → Prop} {r : VK} (h : b σ H) : (Ends.mk a r b c).bk σ H := h
theorem ect {a b c : L2.St → Hp → Prop} {r : VK} (h : c σ H) : (Ends.mk a r b c).ct σ H := h
theorem ert {a b c : L2.St → Hp → Prop} {r : VK} {v : V} (h : r v H) : (Ends.mk a r b c).rt v H := h
theorem intE {i : Int} {P : Int → Prop} (h : P i) : ∃ j, V.int i = .int j ∧ P j := ⟨i, rfl, h⟩
theorem atI_of {α : Type} {xs : List α} {i : Int} {v : α} (h0 : 0 ≤ i) (e : xs[i.toNat]? = some v) : atI xs i = some v := by
  have h := atI_nat e
  rw [show ((i.toNat : Nat) : Int) = i by omega] at h
  exact h
theorem ixN_of {n : Nat} {i : Int} (h0 : 0 ≤ i) (h1 : i < n) : ixN n i = some i.toNat := by
  unfold ixN
  rw [if_pos h0, if_pos h1]
theorem map_int {ns : List Int} {i : Nat} (h : i < ns.length) : (ns.map V.int)[i]? = some (.int ns[i]) := by simp [h]
theorem map_get {ns : List Int} {i : Nat} {x : V} (h : (ns.map V.int)[i]? = some x) : ∃ n, ns[i]? = some n ∧ x = .int n := by
  rw [List.getElem?_map] at h
  cases e : ns[i]? with
  | none => rw [e] at h; cases h
  | some z => rw [e] at h; exact ⟨z, rfl, (Option.some.inj h).symm⟩
theorem take_snoc {α : Type} {l : List α} {i : Nat} {x : α} (h : l[i]? = some x) : l.take (i + 1) = l.take i ++ [x] := by
  rw [List.take_succ, h]
  rfl
theorem upd_at {a : Addr} {o : HO} {b : Addr} (h : b = a) : upd H a o b = some o := by subst h; exact upd_same
/-- all but what stands at a is kept -/
def But (a : Addr) (H H' : Hp) : Prop := ∀ b o, b ≠ a → H b = some o → H' b = some o
theorem But.refl (a : Addr) (H : Hp) : But a H H := fun _ _ _ e => e
theorem But.trans {a : Addr} {H H1 H2 : Hp} (x : But a H H1) (y : But a H1 H2) : But a H H2 := fun b o n e => y b o n (x b o n e)
theorem But.same {a : Addr} {H H1 H2 : Hp} (x : But a H H1) (y : Same H1 H2) : But a H H2 := fun b o n e => y b o (x b o n e)
theorem But.of {a : Addr} {H H1 : Hp} (y : Same H H1) : But a H H1 := fun b o _ e => y b o e
theorem But.free {a : Addr} {H H1 : Hp} (x : But a H H1) {l : Addr} (n : l ≠ a) (h : H1 l = none) : H l = none := by
  cases q : H l with
  | none => rfl
  | some o =>
    have := x l o n q
    rw [h] at this
    cases this
theorem But.upd {a : Addr} {H H1 : Hp} {o : HO} (x : But a H H1) : But a H (upd H1 a o) := fun b u n e => by rw [upd_ne n]; exact x b u n e
theorem same_upd {H : Hp} {p : Addr} {o : HO} (h : H p = none) : Same H (upd H p o) := fun b u e => by rw [upd_ne (ne_of_none e h)]; exact e
end Rd

/-! Further rules: enumerate and sorted of a tuple; one of two ways to walk. -/
namespace Ru
open PySem PyProof.Rows
open PySem.AutoSeq1 (wpAny_loadPart')
section
variable {prog : Program} {w : World} {A : Around} {E : Value → Shared → Prop} {s : Shared}
theorem nextOf_tup {it t : Addr} {i : Nat} {items : Array Value} {x : Value} {Q : Value → Shared → Prop} (hit : s.heap.IsTupleIter it t i) (ht : s.heap.IsTuple t items) (hx : items[i]? = some x)
    (hQ : ∀ h', h'.IsTupleIter it t (i + 1) → Heap.SameBut it s.heap h' → Q x { s with heap := h' }) : wpAny (model prog w) A (Builtin.SmallTypes.nextOf (.ref it)) Q E s := by
  obtain ⟨oi, hoi, hci, hdi⟩ := id hit
  obtain ⟨ot, hot, _, nt, hdt⟩ := ht
  unfold Builtin.SmallTypes.nextOf
  refine wpAny_bind (wpAny_callSpecial?_slot (name := Str.ofString "__next__") hit.typeIs F.slot_tuple_iterator_next (wpAny_call_entry F.slot_tuple_iterator_next hit.typeIs F.entry_tuple_iterator_next ?_ (F.args_tuple_iterator_next_1 _)))
  show wpAny _ _ (field (.ref it) 0 >>= _) _ _ s
  refine wpAny_bind (wpAny_field hoi hdi (x := .ref t) rfl ?_)
  show wpAny _ _ (if (Value.ref t == Value.none) = true then _ else _) _ _ s
  rw [if_neg (show ¬ ((Value.ref t == Value.none) = true) from Bool.false_ne_true)]
  show wpAny _ _ (field (.ref it) 1 >>= _) _ _ s
  refine wpAny_bind (wpAny_field hoi hdi (x := .int i 0) rfl ?_)
  show wpAny _ _ (seqItems? (.ref t) >>= _) _ _ s
  refine wpAny_bind (wpAny_seqItems hot hdt ?_)
  simp only [Int.toNat_natCast, hx]
  refine wpAny_bind (wpAny_setField hoi hdi (by simp) (wpAny_pure ⟨x, rfl, wpAny_pure (hQ _ ?_ (Heap.SameBut.update ..))⟩))
  exact ⟨_, Heap.get?_update_self _ hoi (Obj.isFreed_of_fields (Obj.data_mapFields hdi _)), (Obj.cls_mapFields ..).trans hci, by rw [Obj.data_mapFields hdi]; simp [rawInt]⟩
theorem nextOf_tup_end {it t : Addr} {i : Nat} {items : Array Value} {Q : Value → Shared → Prop} (hh : A.handled = none) (hit : s.heap.IsTupleIter it t i) (ht : s.heap.IsTuple t items) (hx : items[i]? = none)
    (hE : ∀ h' e, Heap.ExtBut it s.heap h' → (∃ o, h'.get? e = some o ∧ o.cls = .type "StopIteration") → E (.ref e) { s with heap := h' }) : wpAny (model prog w) A (Builtin.SmallTypes.nextOf (.ref it)) Q E s := by
  obtain ⟨oi, hoi, hci, hdi⟩ := id hit
  obtain ⟨ot, hot, _, nt, hdt⟩ := ht
  unfold Builtin.SmallTypes.nextOf
  refine wpAny_bind (wpAny_callSpecial?_slot (name := Str.ofString "__next__") hit.typeIs F.slot_tuple_iterator_next (wpAny_call_entry F.slot_tuple_iterator_next hit.typeIs F.entry_tuple_iterator_next ?_ (F.args_tuple_iterator_next_1 _)))
  show wpAny _ _ (field (.ref it) 0 >>= _) _ _ s
  refine wpAny_bind (wpAny_field hoi hdi (x := .ref t) rfl ?_)
  show wpAny _ _ (if (Value.ref t == Value.none) = true then _ else _) _ _ s
  rw [if_neg (show ¬ ((Value.ref t == Value.none) = true) from Bool.false_ne_true)]
  show wpAny _ _ (field (.ref it) 1 >>= _) _ _ s
  refine wpAny_bind (wpAny_field hoi hdi (x := .int i 0) rfl ?_)
  show wpAny _ _ (seqItems? (.ref t) >>= _) _ _ s
  refine wpAny_bind (wpAny_seqItems hot hdt ?_)
  simp only [Int.toNat_natCast, hx]
  refine wpAny_bind (wpAny_rule (wpAny_bind (wpAny_setField hoi hdi (by simp) ?_)))
  show wpAny _ _ (newExc (.type "StopIteration") [] >>= _) _ _ _
  refine wpAny_bind ?_
  simp only [newExc, newTuple]
  refine wpAny_bind (wpAny_newObj_type ?_ (by size_fits))
  refine wpAny_bind (m := firstArgMember _ _) (wpAny_of_eq (a := Value.none) (by first | rfl | (simp only [firstArgMember]; rfl)) ?_)
  refine wpAny_newObj_type ?_ (by size_fits)
  simp only [raiseNew]
  refine wpAny_bind (wpAny_handled ?_)
  first | rw [show A.in1.handled = none from hh] | rw [hh]
  refine wpAny_bind (wpAny_pure (wpAny_throw ?_))
  exact hE _ _ (((Heap.SameBut.update ..).extBut.push _).push _) ⟨_, Heap.get?_push_size _ rfl, rfl⟩
end
theorem draws_tup {prog : Program} {w : World} {A : Around} (hh : A.handled = none) (it t : Addr) (hne : t ≠ it) (items : Array Value) :
    Draws prog w A it [it, t] items.size (fun i v => items[i]? = some v) (fun i h => h.IsTupleIter it t i ∧ h.IsTuple t items) where
  live := fun _ _ st => let ⟨o, ho, _⟩ := st.1; ⟨o, ho⟩
  frame := fun _ _ _ st hk => ⟨let ⟨o, ho, r⟩ := st.1; ⟨o, hk it (by simp) o ho, r⟩, let ⟨o, ho, r⟩ := st.2; ⟨o, hk t (by simp) o ho, r⟩⟩
  item := fun i s Q E hi st hQ => by
    refine nextOf_tup st.1 st.2 (x := items[i]) (by simp [hi]) fun h' k1 k2 => ?_
    exact hQ _ h' s.toks (by simp [hi]) ⟨k1, st.2.extBut k2.extBut hne⟩ k2
  done := fun s Q E st hE => nextOf_tup_end hh st.1 st.2 (by simp) hE
theorem meets_enum_tup (l : Addr) (items : Array Value) (n : Nat) (dct : Option Addr) (sl : Array (Option Value)) :
    Meets (Builtin.«enumerate.__new__» ⟨[.type "enumerate", .ref l], []⟩) (fun _ R s => s.heap.get? l = some { cls := .type "tuple", dict := dct, data := .seq items n, slots := sl } ∧
      R (.ok (.ret (.ref (s.heap.push { cls := .type "tuple_iterator", data := .fields #[.ref l, .int 0 0] }).objs.size)))
        { s with heap := (s.heap.push { cls := .type "tuple_iterator", data := .fields #[.ref l, .int 0 0] }).push { cls := .type "enumerate", data := .fields #[.none, .bool false, .ref s.heap.objs.size, rawInt 0, .none, .none] } }) :=
  .of_wp fun prog w A R s h => by
    obtain ⟨hp, g, d, tk, os⟩ := s
    obtain ⟨hl, h⟩ := h
    have hsub := sub_enumerate
    have hL : Heap.IsTuple (Shared.heap ⟨hp, g, d, tk, os⟩) l items := ⟨_, hl, rfl, n, rfl⟩
    wp_walk using wpAny_loadPart' hl
    refine wpAny_stack_any fun st => wpAny_pure ?_
    split
    · rename_i c _ _ _ _ _
      cases (c == Value.type "enumerate")
      · wp_walk using wpAny_loadPart' hl, wpAny_pyIter_tuple hL
        exact ⟨_, rfl, h⟩
      · wp_walk using wpAny_loadPart' hl, wpAny_pyIter_tuple hL
        exact ⟨_, rfl, h⟩
    · wp_walk using wpAny_loadPart' hl, wpAny_pyIter_tuple hL
      exact ⟨_, rfl, h⟩
section
variable {prog : Program} {w : World} {A : Around} {E : Value → Shared → Prop} {s : Shared}
theorem call_enum_tup {l : Addr} {items : Array Value} {Q : Value → Shared → Prop} (hL : s.heap.IsTuple l items)
    (h : ∀ h', IsEnum h' (s.heap.objs.size + 1) s.heap.objs.size 0 .none → h'.IsTupleIter s.heap.objs.size l 0 → h'.objs.size = s.heap.objs.size + 2 → (∀ b o, s.heap.get? b = some o → h'.get? b = some o) → Q (.ref (s.heap.objs.size + 1)) { s with heap := h' }) :
    wpAny (model prog w) A (call (.type "enumerate") [.ref l]) Q E s := by
  obtain ⟨⟨c, dct, dt, sl⟩, hl, hc, n, hd⟩ := hL
  replace hc : c = .type "tuple" := hc
  replace hd : dt = .seq items n := hd
  subst hc hd
  refine callType_new F.called_enumerate (by decide) (F.typeCall_enumerate_1 _) (F.newCall_enumerate_1 _) (fun obj => F.args_object_init_2 obj _) F.entry_enumerate_new (meets_enum_tup l items n dct sl) ⟨hl, ?_⟩
  have hz : (s.heap.push { cls := .type "tuple_iterator", data := .fields #[.ref l, .int 0 0] }).objs.size = s.heap.objs.size + 1 := Heap.size_push ..
  show _ ∧ _
  rw [hz]
  have he : IsEnum ((s.heap.push { cls := .type "tuple_iterator", data := .fields #[.ref l, .int 0 0] }).push { cls := .type "enumerate", data := .fields #[.none, .bool false, .ref s.heap.objs.size, rawInt 0, .none, .none] }) (s.heap.objs.size + 1) s.heap.objs.size 0 .none := by
    have q := Heap.get?_push_size (s.heap.push { cls := .type "tuple_iterator", data := .fields #[.ref l, .int 0 0] }) (o := { cls := .type "enumerate", data := .fields #[.none, .bool false, .ref s.heap.objs.size, rawInt 0, .none, .none] }) rfl
    rw [hz] at q
    exact q
  exact ⟨⟨_, he, rfl⟩, h _ he ⟨_, Heap.get?_push_of_some _ (Heap.get?_push_size _ rfl), rfl, rfl⟩ (by rw [Heap.size_push, hz]) fun b o x => Heap.get?_push_of_some _ (Heap.get?_push_of_some _ x)⟩
/-- a tuple is collected into a new list -/
theorem collect_tup {l : Addr} {vs : List Value} {Q : List Value → Shared → Prop} (hl : s.heap.IsTuple l vs.toArray) (hsz : vs.length ≤ sizeLine)
    (h : Q vs { s with heap := (s.heap.push (seqObj "list" #[] 0)).update s.heap.objs.size (Obj.mapSeq (· ++ vs.toArray)) }) : wpAny (model prog w) A (collect (.ref l)) Q E s := by
  obtain ⟨o, ho, hc, n, hd⟩ := id hl
  unfold collect
  refine wpAny_bind (wpAny_runValue (codeAny_builtin entry_proto_collect' ?_))
  show wpAny _ _ (do again (.builtin "list.__iadd__" ⟨[← newList [], .ref l], []⟩)) _ _ s
  refine wpAny_bind (wpAny_newList (wpAny_pure ⟨Code.quiet_builtin _ (by decide +kernel), codeAny_builtin entry_list_iadd' ?_⟩))
  show wpAny _ _ (Builtin.List.listExtendWith (.ref s.heap.objs.size) (.ref l) (.ref s.heap.objs.size)) _ _ { s with heap := s.heap.push (seqObj "list" #[] 0) }
  unfold Builtin.List.listExtendWith
  have ho' : (s.heap.push (seqObj "list" #[] 0)).get? l = some o := Heap.get?_push_of_some _ ho
  refine wpAny_bind (wpAny_typeOf (T := "tuple") ⟨o, ho', hc⟩ ?_)
  have ht : (Value.type "tuple" == Value.type "tuple") = true := by rfl
  rw [if_pos (by rw [ht]; simp)]
  refine wpAny_bind (listItems_at ho' hd ?_)
  refine wpAny_bind (listItems_at (xs := #[]) (n := 0) (Heap.get?_push_size _ rfl) rfl ?_)
  rw [if_neg (by simp)]
  refine wpAny_bind (listUpdate_at (xs := #[]) (n := 0) (Heap.get?_push_size _ rfl) rfl ?_ (Nat.zero_le _) (by show (#[] ++ vs.toArray).size ≤ sizeLine + 1; simp only [Array.size_append, List.size_toArray, List.length_nil]; omega))
  refine wpAny_pure ?_
  show wpAny (model prog w) A (do
      let o ← load s.heap.objs.size
      match o.data with
      | .seq xs _ => pure xs.toList
      | _ => unsupported "internal:collect") Q E { s with heap := (s.heap.push (seqObj "list" #[] 0)).update s.heap.objs.size (Obj.mapSeq (· ++ vs.toArray)) }
  refine wpAny_bind (wpAny_load (get?_update_seq (Heap.get?_push_size _ rfl) _) ?_)
  show wpAny _ _ (pure ((#[] : Array Value) ++ vs.toArray).toList) Q E _
  rw [show ((#[] : Array Value) ++ vs.toArray).toList = vs by simp]
  exact wpAny_pure h
end

section
variable {prog : Program} {w : World} {A : Around} {E : Value → Shared → Prop} {s : Shared}
open SrtO in
/-- sorted of a tuple: the new list stands at size + 1 -/
theorem sorted_tup {l : Addr} {vs : List Value} {ltv : Value → Value → Bool} {Q : Value → Shared → Prop} (O : Swo ltv) (hl : s.heap.IsTuple l vs.toArray) (hz : vs.length ≤ sizeLine)
    (hS : 2 ≤ vs.length → ∀ (g : Heap) (a : Addr), g.get? a = some (seqObj "list" vs.toArray 0) → (∀ b o, s.heap.get? b = some o → b ≠ a ∧ g.get? b = some o) → SortableO prog w A.in1.in1 { s with heap := g } a vs ltv)
    (h : ∀ out : List Value, Srtd ltv out → Stb ltv out vs → Q (.ref (s.heap.objs.size + 1)) { s with heap := sortedAll s.heap vs out.toArray }) : wpAny (model prog w) A (call (.builtin "sorted") [.ref l]) Q E s := by
  refine Calls.call_function_entry kind_sorted plain_sorted entry_sorted (args_sorted1 _) ?_
  unfold Builtin.«sorted»
  refine wpAny_bind (m := checkCount "sorted" 1 1 _) (wpAny_pure ?_)
  refine wpAny_bind (collect_tup hl hz ?_)
  refine wpAny_bind (wpAny_newList ?_ hz)
  have e1 : ((s.heap.push (seqObj "list" #[] 0)).update s.heap.objs.size (Obj.mapSeq (· ++ vs.toArray))).objs.size = s.heap.objs.size + 1 := by rw [Heap.size_update, size_push']
  have e2 : (((s.heap.push (seqObj "list" #[] 0)).update s.heap.objs.size (Obj.mapSeq (· ++ vs.toArray))).push (seqObj "list" vs.toArray 0)).get? (s.heap.objs.size + 1) = some (seqObj "list" vs.toArray 0) := by
    rw [← e1]
    exact Heap.get?_push_size _ rfl
  have e3 : ∀ b o, s.heap.get? b = some o → b ≠ s.heap.objs.size + 1 ∧ (((s.heap.push (seqObj "list" #[] 0)).update s.heap.objs.size (Obj.mapSeq (· ++ vs.toArray))).push (seqObj "list" vs.toArray 0)).get? b = some o := fun b o q => by
    have lt : b < s.heap.objs.size := Heap.lt_size q
    refine ⟨Nat.ne_of_lt (Nat.lt_succ_of_lt lt), Heap.get?_push_of_some _ ?_⟩
    rw [Heap.get?_update_ne _ _ _ _ (Nat.ne_of_lt lt)]
    exact Heap.get?_push_of_some _ q
  show wpAny _ _ _ _ _ { s with heap := ((s.heap.push (seqObj "list" #[] 0)).update s.heap.objs.size (Obj.mapSeq (· ++ vs.toArray))).push (seqObj "list" vs.toArray 0) }
  rw [e1]
  refine wpAny_bind (wpAny_holding (wpAny_call_entry slot_list_sort ⟨_, e2, rfl⟩ entry_list_sort (list_sort_ord O e2 hz (fun h2 => hS h2 _ _ e2 e3) fun out hs hb => ⟨_, rfl, ?_⟩) (args_list_sort _)))
  exact wpAny_pure ⟨_, rfl, h out hs hb⟩
end
end Ru
namespace Ru
open PySem PySem.Spec PyProof.Rows L2
/-- one of two ways to walk -/
theorem pi_or {X : Cx} {tg e : Expr} {t u : TI} (a : PI X tg e t) (b : PI X tg e u) : PI X tg e (fun σ H R => t σ H R ∨ u σ H R) := ⟨fun pins s σ H R I h => h.elim (a.run pins s σ H R I) (b.run pins s σ H R I)⟩
theorem callR_or {X : Cx} {f : Value} {r r' : List V → Hp → VK → Prop} (a : CallR X f r) (b : CallR X f r') : CallR X f (fun vs H Q => r vs H Q ∨ r' vs H Q) := fun pins s σ H vs us Q I rv h => h.elim (a pins s σ H vs us Q I rv) (b pins s σ H vs us Q I rv)
/-- sorted(t), t a tuple of ints -/
def rSortedTup (K : PySem.W.Frag) : List V → Hp → VK → Prop := fun vs H Q => ∃ (a : Addr) (ns : List Int), vs = [V.ref a] ∧ SqT K H a (ns.map V.int) ∧
  ∀ (ms : List Int) (p : Addr), ms.Perm ns → ms.Pairwise (· ≤ ·) → H p = none → Q (.ref p) (upd H p (.lst (ms.map V.int)))
theorem cr_sortedTup {X : Cx} : CallR X (.builtin "sorted") (rSortedTup X.K) := by
  intro pins s σ H vs us Q I r h
  obtain ⟨a, ns, rfl, hs, q⟩ := h
  obtain ⟨its, rv, hl, hz⟩ := I.tuple hs
  rw [Vals.ref1 r]
  have hi := rv.ints
  refine sorted_tup SrtO.swo_int (show s.heap.IsTuple a its.toArray from hl) (by rw [← rv.length]; exact hz) (fun h2 g b _ _ => SrtO.ints_sortable hi h2) fun out h1 h2 => ?_
  obtain ⟨k1, k2, k3⟩ := SrtO.ints_out hi h1 h2
  obtain ⟨ep, he⟩ := PyProof.Rows.sortedAll_at s.heap its out.toArray
  have ln : ((out.map SrtO.iv).map V.int).length ≤ sizeLine := by
    rw [List.length_map, k2.length_eq]
    rw [List.length_map] at hz
    exact hz
  exact ⟨.ref _, upd H (s.heap.objs.size + 1) (.lst ((out.map SrtO.iv).map V.int)), I.laid (t' := s.toks) (fun _ _ => PyProof.Rows.sortedAll_old) (Nat.le_succ _) ⟨ln, out, ep, vals_of_ints k1, he⟩, rfl, q _ _ k2 k3 (I.hok.fresh (Nat.le_succ _))⟩
/-- enumerate of a tuple: each item in a new pair -/
def IteT (K : PySem.W.Frag) (a : Addr) : It :=
  ⟨fun i H => ∃ (xs : List V) (x : V), SqT K H a xs ∧ xs[i]? = some x, fun i H v H' => ∃ T x, v = .ref T ∧ H T = none ∧ H' = upd H T (.tup [.int (i : Nat), x]) ∧ ∀ xs, SqT K H a xs → xs[i]? = some x, fun i H => ∃ xs : List V, SqT K H a xs ∧ xs.length = i⟩
theorem turn_enumT {P : Program} {w : World} {K : PySem.W.Frag} {elts : List Expr} {kk : Nat} {tpos : Pos} (a e it : Addr) :
    Turn P w K (.Tuple elts kk tpos) (IteT K a) [e, it] e (fun i h => (∃ old, IsEnum h e it ((i : Nat) : Int) old) ∧ h.IsTupleIter it a i ∧ e ≠ it) where
  mem := by simp
  obj := fun i h st b hb => by
    obtain ⟨⟨old, he⟩, ⟨o, ho, hc, hd⟩, _⟩ := st
    have z : b = e ∨ b = it := by simpa using hb
    rcases z with z | z
    · rw [z]; exact ⟨_, he, fun v q => nomatch q⟩
    · rw [z]; exact ⟨o, ho, fun v q => by rw [hd] at q; cases q⟩
  keep := fun i h h' st k => let ⟨⟨old, he⟩, ⟨o, ho, r⟩, hne⟩ := st; ⟨⟨old, k e (by simp) _ he⟩, ⟨o, k it (by simp) o ho, r⟩, hne⟩
  item := by
    intro X hP hw hK hc i pins s σ H E I hf st hg
    subst hP hw hK
    obtain ⟨⟨old, he⟩, hit, hne⟩ := st
    obtain ⟨xs, x, hq, hx⟩ := hg
    obtain ⟨its, rv, p, hz⟩ := I.tuple hq
    obtain ⟨u, hu, ru⟩ := rv.get hx
    have hel : e < s.heap.objs.size := Heap.lt_size he
    have hil : it < s.heap.objs.size := by obtain ⟨_, q, _⟩ := hit; exact Heap.lt_size q
    have hat : a ≠ it := fun z => by
      obtain ⟨o, q1, q2, _⟩ := hit
      obtain ⟨o', q3, q4, _⟩ := (show s.heap.IsTuple a its.toArray from p)
      rw [← z, q3] at q1
      cases q1
      rw [q4] at q2
      exact absurd (Value.type.inj q2) (by decide)
    have hea : e ≠ a := fun z => by
      obtain ⟨o', q3, q4, _⟩ := (show s.heap.IsTuple a its.toArray from p)
      rw [← z, he] at q3
      cases q3
      exact absurd (Value.type.inj q4) (by decide)
    have hlt : i < its.toArray.size := by
      have := (List.getElem?_eq_some_iff.mp hu).1
      simpa using this
    refine wpAny_pyNext_enum_itemD (draws_tup (prog := X.prog) (w := X.w) (A := X.A.in1) (I.ok.hd hc) it a hat its.toArray) he ⟨hit, p⟩ hlt hne (by simp [hne, hea]) fun y h' tk hy ho st' hT hsz hk => ?_
    have hy' : y = u := by
      have z : its.toArray[i]? = some u := by simpa using hu
      rw [z] at hy
      exact (Option.some.inj hy).symm
    subst hy'
    refine ⟨_, rfl, wpAny_letOwnedTupleGo_enum (s := { s with heap := h', toks := tk + 1 }) ho fun h'' he' sb => ?_⟩
    have hT2 : h''.get? s.heap.objs.size = some { cls := .type "tuple", data := .seq #[.int i tk, y] } := (sb.2 _ (Nat.ne_of_gt hel)).trans hT
    have new : ObjOk X.prog X.w (upd H s.heap.objs.size (.tup [.int (i : Nat), x])) h'' s.heap.objs.size (.tup [.int (i : Nat), x]) :=
      ⟨by show 2 ≤ sizeLine; decide, [.int i tk, y], .cons ⟨_, rfl⟩ (.cons ru .nil), ⟨_, hT2, rfl, _, rfl⟩⟩
    have I1 : Inv X pins σ (upd H s.heap.objs.size (.tup [.int (i : Nat), x])) { s with heap := h'', toks := tk + 1 } :=
      I.turnedNew (ch := [e, it]) (fun b ob hb q => (sb.2 b (fun z => hb (by simp [z]))).trans (hk b ob (fun z => hb (by simp [z])) (fun z => hb (by simp [z])) q)) hf (Nat.le_refl _) new
    refine ⟨.ref s.heap.objs.size, _, I1, rfl, ⟨_, x, rfl, I.hok.fresh (Nat.le_refl _), rfl, fun ys hy => by rw [I.tuple_inj hy hq]; exact hx⟩, ⟨⟨y, ?_⟩, ?_, hne⟩, fun b hb => ?_⟩
    · have e1 : ((i + 1 : Nat) : Int) = (i : Int) + 1 := by omega
      rw [e1]; exact he'
    · obtain ⟨o, q, r⟩ := st'.1
      exact ⟨o, (sb.2 it (Ne.symm hne)).trans q, r⟩
    · have hb' : b < s.heap.objs.size := by
        have z : b = e ∨ b = it := by simpa using hb
        rcases z with z | z
        · rw [z]; exact hel
        · rw [z]; exact hil
      rw [upd_ne (Nat.ne_of_lt hb')]
      exact (hf b hb).1
  done := by
    intro X hP hw hK hc i pins s σ H E I hf st hg
    subst hP hw hK
    obtain ⟨⟨old, he⟩, hit, hne⟩ := st
    obtain ⟨xs, hq, hx⟩ := hg
    obtain ⟨its, rv, p, hz⟩ := I.tuple hq
    obtain ⟨f0, f1, f2, f3, f4, f5⟩ := hf it (by simp)
    have hl := rv.length
    have hat : a ≠ it := fun z => by
      obtain ⟨o, q1, q2, _⟩ := hit
      obtain ⟨o', q3, q4, _⟩ := (show s.heap.IsTuple a its.toArray from p)
      rw [← z, q3] at q1
      cases q1
      rw [q4] at q2
      exact absurd (Value.type.inj q2) (by decide)
    have hn : i = its.toArray.size := by simp; omega
    refine wpAny_pyNext_enum_endD (draws_tup (prog := X.prog) (w := X.w) (A := X.A.in1) (I.ok.hd hc) it a hat its.toArray) he (by rw [hn] at hit; exact ⟨hit, p⟩) fun h' eb => ⟨rfl, ?_⟩
    obtain ⟨g0, g1, g2, g3, g4, g5⟩ := hf e (by simp)
    obtain ⟨f0, f1, f2, f3, f4, f5⟩ := hf it (by simp)
    exact I.turned (t' := s.toks) (fun b o hb q => eb b o hb q) f0 f1 f3 f4 f5
  self := fun A i s Q E st h => let ⟨⟨_, he⟩, _⟩ := st; wpAny_pyIter_enum he h
def iEnumT (K : PySem.W.Frag) (ta : TA) : TI := fun σ H R => ta σ H fun vs H1 => ∃ a xs, vs = [.ref a] ∧ SqT K H1 a xs ∧ R (IteT K a) H1
theorem pi_enumT {X : Cx} {e : Expr} {ta : TA} {p pos tpos : Pos} {elts : List Expr} {kk : Nat} (hg : Gl X "enumerate") (hm : X.mg "enumerate" = none) (ha : PA X [e] ta) (hs : starEach [e] X.env = [(false, eval e X.env)] := by rfl) :
    PI X (.Tuple elts kk tpos) (.Call (.Name "enumerate" p) [e] [] pos) (iEnumT X.K ta) := by
  refine ⟨fun pins s σ H R I h => ?_⟩
  refine Call_ (ld_blt I hg hm boot_enumerate (PyProof.Rows.callWith_type1 (thn (ha.run pos pins s σ H _ I h) fun us s1 ⟨vs, H1, I1, r1, q1⟩ => ?_) hs rfl))
  obtain ⟨a, xs, ex, hq, q⟩ := q1
  subst ex
  cases r1 with
  | cons r rr =>
    cases rr
    cases r
    obtain ⟨its, rv, p', hz⟩ := I1.tuple hq
    refine call_enum_tup (show s1.heap.IsTuple a its.toArray from p') fun h' he hit hsz hk => wpAny_pyIter_enum he ?_
    have I2 : Inv X pins σ H1 { s1 with heap := h' } := I1.kept (t' := s1.toks) hk
    refine ⟨s1.heap.objs.size + 1, [s1.heap.objs.size + 1, s1.heap.objs.size], _, _, H1, rfl, I2, turn_enumT a (s1.heap.objs.size + 1) s1.heap.objs.size, ⟨⟨.none, he⟩, hit, Nat.succ_ne_self _⟩, fun b hb => ?_, q⟩
    have z : b = s1.heap.objs.size + 1 ∨ b = s1.heap.objs.size := by simpa using hb
    have hle : s1.heap.objs.size ≤ b := by
      rcases z with z | z
      · rw [z]; exact Nat.le_add_right _ _
      · rw [z]; exact Nat.le_refl _
    exact I1.fpOk hle (I1.hok.fresh hle)
/-- a loop over enumerate of a list that stands still -/
theorem for_enum {K : PySem.W.Frag} {a : Addr} {xs : List V} {g : TG} {tb : TS} {D : Ends} {σ : L2.St} {H : Hp} (Pv : Nat → L2.St → Hp → Prop) (h0 : Pv 0 σ H) (hl : ∀ i σ H, i ≤ xs.length → Pv i σ H → SqL K H a xs)
    (hs : ∀ i x σ H (T : Addr), xs[i]? = some x → Pv i σ H → H T = none → g (.ref T) σ (upd H T (.tup [.int (i : Nat), x])) fun σ2 H2 => tb { D with nx := Pv (i + 1), ct := Pv (i + 1), bk := D.nx } σ2 H2) (hd : ∀ σ H, Pv xs.length σ H → D.nx σ H) :
    ∃ W : Nat → Nat → L2.St → Hp → Prop, (∃ m, W 0 m σ H) ∧ ∀ i m σ H, W i m σ H →
      ((Ite K a).stop i H ∧ D.nx σ H) ∨ ((Ite K a).go i H ∧ ∃ N : L2.St → Hp → Prop, (∀ σ' H', N σ' H' → ∃ m', m' < m ∧ W (i + 1) m' σ' H') ∧ ∀ x H', (Ite K a).yld i H x H' → g x σ H' fun σ2 H2 => tb { D with nx := N, ct := N, bk := D.nx } σ2 H2) := by
  refine ⟨fun i m σ H => m = xs.length - i ∧ i ≤ xs.length ∧ Pv i σ H, ⟨xs.length, by simp, Nat.zero_le _, h0⟩, ?_⟩
  rintro i m σ H ⟨rfl, hi, p⟩
  have q := hl i σ H hi p
  by_cases lt : i < xs.length
  · refine .inr ⟨⟨xs, xs[i], q, by simp [lt]⟩, Pv (i + 1), fun σ' H' p' => ⟨xs.length - (i + 1), by omega, rfl, lt, p'⟩, fun x H' y => ?_⟩
    obtain ⟨T, z, rfl, hT, rfl, y⟩ := y
    exact hs i z σ H T (y xs q) p hT
  · have e : i = xs.length := by omega
    subst e
    exact .inl ⟨⟨xs, q, Nat.le_refl _⟩, hd σ H p⟩
theorem for_enumT {K : PySem.W.Frag} {a : Addr} {xs : List V} {g : TG} {tb : TS} {D : Ends} {σ : L2.St} {H : Hp} (Pv : Nat → L2.St → Hp → Prop) (h0 : Pv 0 σ H) (hl : ∀ i σ H, i ≤ xs.length → Pv i σ H → SqT K H a xs)
    (hs : ∀ i x σ H (T : Addr), xs[i]? = some x → Pv i σ H → H T = none → g (.ref T) σ (upd H T (.tup [.int (i : Nat), x])) fun σ2 H2 => tb { D with nx := Pv (i + 1), ct := Pv (i + 1), bk := D.nx } σ2 H2) (hd : ∀ σ H, Pv xs.length σ H → D.nx σ H) :
    ∃ W : Nat → Nat → L2.St → Hp → Prop, (∃ m, W 0 m σ H) ∧ ∀ i m σ H, W i m σ H →
      ((IteT K a).stop i H ∧ D.nx σ H) ∨ ((IteT K a).go i H ∧ ∃ N : L2.St → Hp → Prop, (∀ σ' H', N σ' H' → ∃ m', m' < m ∧ W (i + 1) m' σ' H') ∧ ∀ x H', (IteT K a).yld i H x H' → g x σ H' fun σ2 H2 => tb { D with nx := N, ct := N, bk := D.nx } σ2 H2) := by
  refine ⟨fun i m σ H => m = xs.length - i ∧ i ≤ xs.length ∧ Pv i σ H, ⟨xs.length, by simp, Nat.zero_le _, h0⟩, ?_⟩
  rintro i m σ H ⟨rfl, hi, p⟩
  have q := hl i σ H hi p
  by_cases lt : i < xs.length
  · refine .inr ⟨⟨xs, xs[i], q, by simp [lt]⟩, Pv (i + 1), fun σ' H' p' => ⟨xs.length - (i + 1), by omega, rfl, lt, p'⟩, fun x H' y => ?_⟩
    obtain ⟨T, z, rfl, hT, rfl, y⟩ := y
    exact hs i z σ H T (y xs q) p hT
  · have e : i = xs.length := by omega
    subst e
    exact .inl ⟨⟨xs, q, rfl⟩, hd σ H p⟩
/-! ### a row: a list or a tuple -/
def SqR (K : PySem.W.Frag) (H : Hp) (a : Addr) (xs : List V) : Prop := SqL K H a xs ∨ SqT K H a xs
theorem same_tup {K : PySem.W.Frag} {H H' : Hp} {a : Addr} {xs : List V} (e : Same H H') (h : SqT K H a xs) : SqT K H' a xs := by
  rcases h with (h | ⟨o, h⟩) | h
  · exact .inl (.inl (e _ _ h))
  · exact .inl (.inr ⟨o, e _ _ h⟩)
  · exact .inr h
theorem SqR.same {K : PySem.W.Frag} {H H' : Hp} {a : Addr} {xs : List V} (e : Same H H') (h : SqR K H a xs) : SqR K H' a xs := h.imp e.seq (same_tup e)
/-- a loop over a row that stands still -/
theorem for_row {K : PySem.W.Frag} {a : Addr} {xs : List V} {g : TG} {tb : TS} {D : Ends} {σ : L2.St} {H : Hp} {ta : TE} (ea : ∀ Q, Q (.ref a) H → ta σ H Q) (Pv : Nat → L2.St → Hp → Prop) {Hb : Hp} (hr : SqR K Hb a xs) (h0 : Pv 0 σ H) (hl : ∀ i σ H', i ≤ xs.length → Pv i σ H' → Same Hb H')
    (hs : ∀ i x σ H, xs[i]? = some x → Pv i σ H → g x σ H fun σ2 H2 => tb { D with nx := Pv (i + 1), ct := Pv (i + 1), bk := D.nx } σ2 H2) (hd : ∀ σ H, Pv xs.length σ H → D.nx σ H) :
    tFor (fun σ H R => iList K ta σ H R ∨ iTup K ta σ H R) g tb D σ H := by
  rcases hr with hr | hr
  · exact .inl (ea _ ⟨a, rfl, ⟨_, (hl 0 σ H (Nat.zero_le _) h0).seq hr⟩, for_list (K := K) (a := a) (xs := xs) Pv h0 (fun i σ H' hi p => (hl i σ H' hi p).seq hr) hs hd⟩)
  · exact .inr (ea _ ⟨a, rfl, ⟨_, same_tup (hl 0 σ H (Nat.zero_le _) h0) hr⟩, for_tup (K := K) (a := a) (xs := xs) Pv h0 (fun i σ H' hi p => same_tup (hl i σ H' hi p) hr) hs hd⟩)
/-- .. over enumerate of a row -/
theorem for_enumR {K : PySem.W.Frag} {a : Addr} {xs : List V} {g : TG} {tb : TS} {D : Ends} {σ : L2.St} {H : Hp} {ta : TA} (ea : ∀ Q, Q [.ref a] H → ta σ H Q) (Pv : Nat → L2.St → Hp → Prop) {Hb : Hp} (hr : SqR K Hb a xs) (h0 : Pv 0 σ H) (hl : ∀ i σ H', i ≤ xs.length → Pv i σ H' → Same Hb H')
    (hs : ∀ i x σ H (T : Addr), xs[i]? = some x → Pv i σ H → H T = none → g (.ref T) σ (upd H T (.tup [.int (i : Nat), x])) fun σ2 H2 => tb { D with nx := Pv (i + 1), ct := Pv (i + 1), bk := D.nx } σ2 H2) (hd : ∀ σ H, Pv xs.length σ H → D.nx σ H) :
    tFor (fun σ H R => iEnum K ta σ H R ∨ iEnumT K ta σ H R) g tb D σ H := by
  rcases hr with hr | hr
  · exact .inl (ea _ ⟨a, _, rfl, (hl 0 σ H (Nat.zero_le _) h0).seq hr, for_enum (K := K) (a := a) (xs := xs) Pv h0 (fun i σ H' hi p => (hl i σ H' hi p).seq hr) hs hd⟩)
  · exact .inr (ea _ ⟨a, _, rfl, same_tup (hl 0 σ H (Nat.zero_le _) h0) hr, for_enumT (K := K) (a := a) (xs := xs) Pv h0 (fun i σ H' hi p => same_tup (hl i σ H' hi p) hr) hs hd⟩)
theorem ty_L {K : PySem.W.Frag} {H : Hp} {a : Addr} {xs : List V} (h : SqL K H a xs) : TyX K H (.ref a) (.type "list") := by
  rcases h with (h | ⟨o, h⟩) | ⟨o, its, n, h1, h2, _⟩
  · exact .base (.lst h)
  · exact .base (.frz h)
  · exact .kList h1 h2
theorem ty_T {K : PySem.W.Frag} {H : Hp} {a : Addr} {xs : List V} (h : SqT K H a xs) : TyX K H (.ref a) (.type "tuple") := by
  rcases h with (h | ⟨o, h⟩) | ⟨o, its, n, h1, h2, _⟩
  · exact .base (.tup h)
  · exact .fTuple h
  · exact .kTuple h1 h2
/-- isinstance(row, (list, tuple)) -/
theorem isRow {K : PySem.W.Frag} {H : Hp} {a tp : Addr} {xs : List V} {Q : VK} (h : SqR K H a xs) (ht : H tp = some (.tup [.ty "list", .ty "tuple"])) (q : Q (.bl true) H) : rIsiT K [.ref a, .ref tp] H Q := by
  have pc : Paired ClsV [.ty "list", .ty "tuple"] [.type "list", .type "tuple"] := .cons (.ty _) (.cons (.ty _) .nil)
  rcases h with h | h
  · exact ⟨_, tp, _, _, _, true, rfl, ht, pc, ty_L h, kitAny_cons (kit_ty (r := true) (by decide +kernel)) (fun z => nomatch z) (fun _ => rfl), q⟩
  · exact ⟨_, tp, _, _, _, true, rfl, ht, pc, ty_T h, kitAny_cons (kit_ty (r := false) (by decide +kernel)) (fun _ => kitAny_cons (kit_ty (r := true) (by decide +kernel)) (fun z => nomatch z) (fun _ => rfl)) (fun z => nomatch z), q⟩
theorem sortedR {K : PySem.W.Frag} {H : Hp} {a : Addr} {ns : List Int} {Q : VK} (hp : SqR K H a (ns.map V.int)) (h : ∀ (ms : List Int) (p : Addr) (G : Hp), ms.Perm ns → ms.Pairwise (· ≤ ·) → G p = some (.lst (ms.map V.int)) → Same H G → H p = none → Q (.ref p) G) : rSortedI K [.ref a] H Q ∨ rSortedTup K [.ref a] H Q :=
  hp.imp (fun q => Rd.sortedI q h) fun q => ⟨a, ns, rfl, q, fun ms p h1 h2 h3 => h ms p _ h1 h2 upd_same (fun b u e => by rw [upd_ne (ne_of_none e h3)]; exact e) h3⟩
end Ru

/-! Readings of texts, comprehensions and own objects by their heads; letters. -/
namespace Rd
open PySem PySem.Spec PyProof.Rows L2
variable {X : Cx} {D : Ends} {σ : L2.St} {H : Hp} {K : PySem.W.Frag}
/-! ### texts -/
def nAddS : R2 := fun x y H Q => ∃ i j, x = .str i ∧ y = .str j ∧ i.length + j.length ≤ sizeLine ∧ Q (.str (i ++ j)) H
theorem o_addS : OpR X (binaryOp .Add) nAddS := op_add_str
theorem addS {i j : Str} {Q : VK} (hz : i.length + j.length ≤ sizeLine) (h : Q (.str (i ++ j)) H) : nAddS (.str i) (.str j) H Q := ⟨i, j, rfl, rfl, hz, h⟩
def nInC : R2 := fun x y H Q => ∃ (c : Nat) (z : Str), x = .str ⟨#[c]⟩ ∧ y = .str z ∧ Q (.bl (decide (c ∈ z.cps.toList))) H
theorem o_inC : OpR X (compareOp .In) nInC := op_in_sign
theorem inC {c : Nat} {z : Str} {Q : VK} (h : Q (.bl (decide (c ∈ z.cps.toList))) H) : nInC (.str ⟨#[c]⟩) (.str z) H Q := ⟨c, z, rfl, rfl, h⟩
theorem inCT {c : Nat} {z : Str} {Q : VK} (e : c ∈ z.cps.toList) (h : Q (.bl true) H) : nInC (.str ⟨#[c]⟩) (.str z) H Q := inC (by rw [decide_eq_true e]; exact h)
theorem nodup_take {α : Type} {l : List α} {i : Nat} {x : α} (nd : l.Nodup) (h : l[i]? = some x) : x ∉ l.take i := by
  intro m
  obtain ⟨j, hj, e⟩ := List.getElem_of_mem m
  rw [List.length_take] at hj
  have e2 : l[j]? = some x := by rw [← e, List.getElem_take]; exact List.getElem?_eq_getElem (by omega)
  have := (List.getElem?_inj (by omega) nd).mp (e2.trans h.symm)
  omega
theorem ixS {z : Str} {i : Int} {c : Nat} {Q : VK} (hz : z.length ≤ sizeLine) (e : atI z.cps.toList i = some c) (h : Q (.str ⟨#[c]⟩) H) : rIxS (.str z) (.int i) H Q := ⟨z, i, c, rfl, rfl, hz, e, h⟩
theorem inStrs {neg : Bool} {z : Str} {p : Addr} {ws : List Str} {Q : VK} (hp : SqL K H p (ws.map V.str) ∨ SqT K H p (ws.map V.str)) (h : Q (.bl (if neg then !decide (z ∈ ws) else decide (z ∈ ws))) H) : rIn K neg (.str z) (.ref p) H Q := by
  have e : inV (.str z) (ws.map V.str) = decide (z ∈ ws) := by
    unfold inV
    rw [List.any_map, Bool.eq_iff_iff, List.any_eq_true, decide_eq_true_iff]
    constructor
    · rintro ⟨y, hy, q⟩
      have : y = z := by simpa [eqV] using q
      exact this ▸ hy
    · intro hz
      exact ⟨z, hz, by simp [eqV]⟩
  exact Rd.inS hp rfl (flat_strs ws) (by rw [e]; exact h)
theorem inStrsY {z : Str} {p : Addr} {ws : List Str} {Q : VK} (hp : SqL K H p (ws.map V.str) ∨ SqT K H p (ws.map V.str)) (h : Q (.bl (decide (z ∈ ws))) H) : rIn K false (.str z) (.ref p) H Q := inStrs hp h
theorem inStrsN {z : Str} {p : Addr} {ws : List Str} {Q : VK} (hp : SqL K H p (ws.map V.str) ∨ SqT K H p (ws.map V.str)) (h : Q (.bl (!decide (z ∈ ws))) H) : rIn K true (.str z) (.ref p) H Q := inStrs hp h
theorem inInts {neg : Bool} {z : Int} {p : Addr} {ws : List Int} {Q : VK} (hp : SqL K H p (ws.map V.int) ∨ SqT K H p (ws.map V.int)) (h : Q (.bl (if neg then !decide (z ∈ ws) else decide (z ∈ ws))) H) : rIn K neg (.int z) (.ref p) H Q := by
  have e : inV (.int z) (ws.map V.int) = decide (z ∈ ws) := by
    unfold inV
    rw [List.any_map, Bool.eq_iff_iff, List.any_eq_true, decide_eq_true_iff]
    constructor
    · rintro ⟨y, hy, q⟩
      have : y = z := by simpa [eqV] using q
      exact this ▸ hy
    · intro hz
      exact ⟨z, hz, by simp [eqV]⟩
  exact Rd.inS hp rfl (by rw [List.all_map]; exact List.all_eq_true.mpr fun _ _ => rfl) (by rw [e]; exact h)
theorem inIntsY {z : Int} {p : Addr} {ws : List Int} {Q : VK} (hp : SqL K H p (ws.map V.int) ∨ SqT K H p (ws.map V.int)) (h : Q (.bl (decide (z ∈ ws))) H) : rIn K false (.int z) (.ref p) H Q := inInts hp h
theorem inIntsN {z : Int} {p : Addr} {ws : List Int} {Q : VK} (hp : SqL K H p (ws.map V.int) ∨ SqT K H p (ws.map V.int)) (h : Q (.bl (!decide (z ∈ ws))) H) : rIn K true (.int z) (.ref p) H Q := inInts hp h
theorem map_str {ns : List Str} {i : Nat} (h : i < ns.length) : (ns.map V.str)[i]? = some (.str ns[i]) := by simp [h]
theorem map_strG {ns : List Str} {i : Nat} {x : V} (h : (ns.map V.str)[i]? = some x) : ∃ n, ns[i]? = some n ∧ x = .str n := by
  rw [List.getElem?_map] at h
  cases e : ns[i]? with
  | none => rw [e] at h; cases h
  | some z => rw [e] at h; exact ⟨z, rfl, (Option.some.inj h).symm⟩
theorem map_refG {ns : List Addr} {i : Nat} {x : V} (h : (ns.map V.ref)[i]? = some x) : ∃ n, ns[i]? = some n ∧ x = .ref n := by
  rw [List.getElem?_map] at h
  cases e : ns[i]? with
  | none => rw [e] at h; cases h
  | some z => rw [e] at h; exact ⟨z, rfl, (Option.some.inj h).symm⟩
theorem map_ref {ns : List Addr} {i : Nat} (h : i < ns.length) : (ns.map V.ref)[i]? = some (.ref ns[i]) := by simp [h]
theorem ins {l : Addr} {xs : List V} {i : Int} {y : V} {Q : VK} (hp : H l = some (.lst xs)) (hz : xs.length < sizeLine) (h0 : 0 ≤ i) (h1 : i < 2 ^ 63) (h : ∀ G : Hp, G l = some (.lst (xs.take i.toNat ++ [y] ++ xs.drop i.toNat)) → (∀ b, b ≠ l → G b = H b) → Q .non G) :
    ∃ (l' : Addr) (xs' : List V) (i' : Int) (y' : V), V.ref l = .ref l' ∧ [V.int i, y] = [.int i', y'] ∧ H l' = some (.lst xs') ∧ xs'.length < sizeLine ∧ 0 ≤ i' ∧ i' < 2 ^ 63 ∧ Q .non (upd H l' (.lst (xs'.take i'.toNat ++ [y'] ++ xs'.drop i'.toNat))) :=
  ⟨l, xs, i, y, rfl, rfl, hp, hz, h0, h1, h _ upd_same fun b hb => upd_ne hb⟩
def nInsert : V → List V → Hp → VK → Prop := fun x vs H Q => ∃ (l : Addr) (xs : List V) (i : Int) (y : V), x = .ref l ∧ vs = [.int i, y] ∧ H l = some (.lst xs) ∧ xs.length < sizeLine ∧ 0 ≤ i ∧ i < 2 ^ 63 ∧
    Q .non (upd H l (.lst (xs.take i.toNat ++ [y] ++ xs.drop i.toNat)))
theorem m_insert : MtR X "list.insert" nInsert := mt_insert
theorem insert {l : Addr} {xs : List V} {i : Int} {y : V} {Q : VK} (hp : H l = some (.lst xs)) (hz : xs.length < sizeLine) (h0 : 0 ≤ i) (h1 : i < 2 ^ 63) (h : ∀ G : Hp, G l = some (.lst (xs.take i.toNat ++ [y] ++ xs.drop i.toNat)) → (∀ b, b ≠ l → G b = H b) → Q .non G) : nInsert (.ref l) [.int i, y] H Q :=
  ins hp hz h0 h1 h
/-! ### equal lists of texts -/
theorem dpAll_strs : ∀ ns : List Str, DpAll K H (ns.map V.str) (ns.map PyData.str)
  | [] => .nil
  | n :: ns => .cons (.str n) (dpAll_strs ns)
theorem canLay_strs : ∀ ns : List Str, (∀ z ∈ ns, PyData.strOk z = true) → PyData.canLayAll0 (ns.map PyData.str) = true
  | [], _ => rfl
  | n :: ns, h => by
    show (PyData.canLay0 (.str n) && PyData.canLayAll0 (ns.map PyData.str)) = true
    rw [canLay_strs ns fun z hz => h z (List.mem_cons_of_mem _ hz)]
    show (PyData.strOk n && true) = true
    rw [h n List.mem_cons_self]
    rfl
theorem depth_strs : ∀ ns : List Str, PyData.depthAll (ns.map PyData.str) = 0
  | [] => rfl
  | n :: ns => by
    show max (PyData.depth (.str n)) (PyData.depthAll (ns.map PyData.str)) = 0
    rw [depth_strs ns]
    rfl
theorem shaped_strs {ns : List Str} (h : ∀ z ∈ ns, PyData.strOk z = true) : SeqAt.shaped (.list (ns.map PyData.str)) = true := by
  have h1 : PyData.canLay0 (.list (ns.map PyData.str)) = true := canLay_strs ns h
  have h2 : PyData.depth (.list (ns.map PyData.str)) = 1 := by
    show PyData.depthAll (ns.map PyData.str) + 1 = 1
    rw [depth_strs]
  unfold SeqAt.shaped
  rw [h1, h2]
  rfl
theorem eqStrs {a b : Addr} {ns : List Str} {Q : VK} (h1 : SqL K H a (ns.map V.str)) (h2 : SqL K H b (ns.map V.str)) (h : ∀ z ∈ ns, PyData.strOk z = true) (q : Q (.bl true) H) : rEqD K (.ref a) (.ref b) H Q := by
  refine ⟨_, _, .lst h1 (dpAll_strs ns), .lst h2 (dpAll_strs ns), shaped_strs h, shaped_strs h, ?_⟩
  rw [SeqAt.eqv_refl _ (SeqAt.canLay_of_shaped (shaped_strs h))]
  exact q
theorem neStrs {a b : Addr} {ns : List Str} {Q : VK} (h1 : SqL K H a (ns.map V.str)) (h2 : SqL K H b (ns.map V.str)) (h : ∀ z ∈ ns, PyData.strOk z = true) (q : Q (.bl false) H) : rNeD K (.ref a) (.ref b) H Q := by
  refine ⟨_, _, .lst h1 (dpAll_strs ns), .lst h2 (dpAll_strs ns), shaped_strs h, shaped_strs h, ?_⟩
  rw [SeqAt.eqv_refl _ (SeqAt.canLay_of_shaped (shaped_strs h))]
  exact q
/-! ### equal lists of ints -/
theorem dpAll_ints : ∀ ns : List Int, DpAll K H (ns.map V.int) (ns.map PyData.int)
  | [] => .nil
  | n :: ns => .cons (.int n) (dpAll_ints ns)
theorem canLay_ints : ∀ ns : List Int, PyData.canLayAll0 (ns.map PyData.int) = true
  | [] => rfl
  | n :: ns => by
    show (PyData.canLay0 (.int n) && PyData.canLayAll0 (ns.map PyData.int)) = true
    rw [canLay_ints ns]
    rfl
theorem depth_ints : ∀ ns : List Int, PyData.depthAll (ns.map PyData.int) = 0
  | [] => rfl
  | n :: ns => by
    show max (PyData.depth (.int n)) (PyData.depthAll (ns.map PyData.int)) = 0
    rw [depth_ints ns]
    rfl
theorem shaped_ints (ns : List Int) : SeqAt.shaped (.list (ns.map PyData.int)) = true := by
  have h1 : PyData.canLay0 (.list (ns.map PyData.int)) = true := canLay_ints ns
  have h2 : PyData.depth (.list (ns.map PyData.int)) = 1 := by
    show PyData.depthAll (ns.map PyData.int) + 1 = 1
    rw [depth_ints]
  unfold SeqAt.shaped
  rw [h1, h2]
  rfl
theorem eqv_ints : ∀ (xs ys : List Int), PyData.eqvAll (xs.map PyData.int) (ys.map PyData.int) = decide (xs = ys)
  | [], [] => rfl
  | [], _ :: _ => rfl
  | _ :: _, [] => rfl
  | x :: xs, y :: ys => by
    show (PyData.eqv (.int x) (.int y) && PyData.eqvAll (xs.map PyData.int) (ys.map PyData.int)) = _
    rw [eqv_ints xs ys, Bool.eq_iff_iff]
    show ((x == y) && decide (xs = ys)) = true ↔ _
    simp
theorem eqInts {a b : Addr} {ns ms : List Int} {Q : VK} (h1 : SqL K H a (ns.map V.int)) (h2 : SqL K H b (ms.map V.int)) (q : Q (.bl (decide (ns = ms))) H) : rEqD K (.ref a) (.ref b) H Q := by
  refine ⟨_, _, .lst h1 (dpAll_ints ns), .lst h2 (dpAll_ints ms), shaped_ints ns, shaped_ints ms, ?_⟩
  show Q (.bl (PyData.eqvAll (ns.map PyData.int) (ms.map PyData.int))) H
  rw [eqv_ints]
  exact q
theorem neInts {a b : Addr} {ns ms : List Int} {Q : VK} (h1 : SqL K H a (ns.map V.int)) (h2 : SqL K H b (ms.map V.int)) (q : Q (.bl (!decide (ns = ms))) H) : rNeD K (.ref a) (.ref b) H Q := by
  refine ⟨_, _, .lst h1 (dpAll_ints ns), .lst h2 (dpAll_ints ms), shaped_ints ns, shaped_ints ms, ?_⟩
  show Q (.bl (!PyData.eqvAll (ns.map PyData.int) (ms.map PyData.int))) H
  rw [eqv_ints]
  exact q
/-! ### comprehensions -/
def Lc (J : It) (g : TG) (tt : TT) (te : TE) (vs : List Nat) (σ : L2.St) (H1 : Hp) (Q : VK) : Prop := ∀ D, H1 D = none → ∃ W : Nat → Nat → Hp → Prop, (∃ m, W 0 m (upd H1 D (.lst []))) ∧ ∀ i m H, W i m H →
  (J.stop i H ∧ Q (.ref D) H) ∨ (J.go i H ∧ ∃ Nx : Hp → Prop, (∀ H', Nx H' → ∃ m', m' < m ∧ W (i + 1) m' H') ∧ ∀ x H', J.yld i H x H' → g x (wipe σ vs) H' fun σ2 H2 => wipe σ2 vs = wipe σ vs ∧ tt σ2 H2 fun b H3 =>
    if b = true then te σ2 H3 fun y H4 => ∃ acc, H4 D = some (.lst acc) ∧ acc.length < sizeLine ∧ Nx (upd H4 D (.lst (acc ++ [y]))) else Nx H3)
theorem lc {wi : TI} {g : TG} {tt : TT} {te : TE} {vs : List Nat} {Q : VK} (h : wi σ H fun J H1 => Lc J g tt te vs σ H1 Q) : tLc wi g tt te vs σ H Q := h
theorem istr {te : TE} {R : It → Hp → Prop} (h : te σ H fun v H1 => ∃ x, v = .str x ∧ R (Its x) H1) : iStr te σ H R := h
theorem strE {z : Str} {P : Str → Prop} (h : P z) : ∃ x, V.str z = .str x ∧ P x := ⟨z, rfl, h⟩
theorem tyes {Q : Bool → Hp → Prop} (h : Q true H) : tYes σ H Q := h
/-- the state of a comprehension: the list at D holds acc, all ahead of it stands -/
def LcP (D : Addr) (H1 : Hp) (R : Nat → List V → Hp → Prop) : Nat → Hp → Prop := fun i H => ∃ acc, H D = some (.lst acc) ∧ Same H1 H ∧ R i acc H
def LcPush (D : Addr) (H1 : Hp) (R : Nat → List V → Hp → Prop) (i : Nat) (y : V) (H4 : Hp) : Prop := ∃ acc, H4 D = some (.lst acc) ∧ acc.length < sizeLine ∧ LcP D H1 R (i + 1) (upd H4 D (.lst (acc ++ [y])))
theorem lcPush {D : Addr} {H1 H4 : Hp} {R : Nat → List V → Hp → Prop} {i : Nat} {y : V} {acc : List V} (hD : H4 D = some (.lst acc)) (nD : H1 D = none) (s1 : Same H1 H4) (hz : acc.length < sizeLine) (r : ∀ G : Hp, G D = some (.lst (acc ++ [y])) → (∀ b, b ≠ D → G b = H4 b) → R (i + 1) (acc ++ [y]) G) : LcPush D H1 R i y H4 :=
  ⟨acc, hD, hz, acc ++ [y], upd_same, fun b o e => by rw [upd_ne (ne_of_none e nD)]; exact s1 b o e, r _ upd_same fun b hb => upd_ne hb⟩
theorem lcS {J : It} {n : Nat} {G : Hp → Prop} {Y : Nat → Hp → V → Hp → Prop} (w : Walk J n G Y) {g : TG} {tt : TT} {te : TE} {vs : List Nat} {H1 : Hp} {Q : VK} (hG : ∀ H, Same H1 H → G H) (R : Addr → Nat → List V → Hp → Prop)
    (r0 : ∀ (D : Addr) (G : Hp), H1 D = none → G D = some (.lst []) → Same H1 G → R D 0 [] G)
    (hs : ∀ (D : Addr) i x H H' acc, H1 D = none → i < n → H D = some (.lst acc) → Same H1 H → R D i acc H → Y i H x H' → g x (wipe σ vs) H' fun σ2 H2 => wipe σ2 vs = wipe σ vs ∧ tt σ2 H2 fun b H3 =>
      if b = true then te σ2 H3 fun y H4 => LcPush D H1 (R D) i y H4 else LcP D H1 (R D) (i + 1) H3)
    (hd : ∀ (D : Addr) acc H, H1 D = none → H D = some (.lst acc) → Same H1 H → R D n acc H → Q (.ref D) H) : Lc J g tt te vs σ H1 Q := fun D nD =>
  lc_it w (LcP D H1 (R D)) ⟨[], upd_same, same_upd nD, r0 D _ nD upd_same (same_upd nD)⟩ (fun i H hi ⟨acc, h1, h2, h3⟩ => hG H h2)
    (fun i x H H' hi ⟨acc, h1, h2, h3⟩ y => hs D i x H H' acc nD hi h1 h2 h3 y) (fun H ⟨acc, h1, h2, h3⟩ => hd D acc H nD h1 h2 h3)
/-- .. over a row: a list or a tuple -/
theorem lcRow {a : Addr} {xs : List V} {ta : TE} {g : TG} {tt : TT} {te : TE} {vs : List Nat} {H1 : Hp} {Q : VK} (ea : ∀ Q : VK, Q (.ref a) H1 → ta σ H1 Q) (hr : Ru.SqR K H1 a xs) (R : Addr → Nat → List V → Hp → Prop)
    (r0 : ∀ (D : Addr) (G : Hp), H1 D = none → G D = some (.lst []) → Same H1 G → R D 0 [] G)
    (hs : ∀ (D : Addr) i x H acc, H1 D = none → i < xs.length → H D = some (.lst acc) → Same H1 H → R D i acc H → xs[i]? = some x → g x (wipe σ vs) H fun σ2 H2 => wipe σ2 vs = wipe σ vs ∧ tt σ2 H2 fun b H3 =>
      if b = true then te σ2 H3 fun y H4 => LcPush D H1 (R D) i y H4 else LcP D H1 (R D) (i + 1) H3)
    (hd : ∀ (D : Addr) acc H, H1 D = none → H D = some (.lst acc) → Same H1 H → R D xs.length acc H → Q (.ref D) H) : (fun σ H R => iList K ta σ H R ∨ iTup K ta σ H R) σ H1 fun J H1 => Lc J g tt te vs σ H1 Q := by
  rcases hr with hr | hr
  · exact .inl (ea _ ⟨a, rfl, ⟨_, hr⟩, lcS walk_list (fun _ s => s.seq hr) R r0 (fun D i x H H' acc nD hi hD sm r ⟨e, hx⟩ => by cases e; exact hs D i x H acc nD hi hD sm r hx) hd⟩)
  · exact .inr (ea _ ⟨a, rfl, ⟨_, hr⟩, lcS walk_tup (fun _ s => Ru.same_tup s hr) R r0 (fun D i x H H' acc nD hi hD sm r ⟨e, hx⟩ => by cases e; exact hs D i x H acc nD hi hD sm r hx) hd⟩)
theorem wipeE {A B : L2.St} {P : Prop} (e : A = B) (h : P) : A = B ∧ P := ⟨e, h⟩
/-! ### list(range(..)) -/
theorem lstRg {te : L2.St → Hp → (Int → Int → Hp → Prop) → Prop} {Q : VK} (h : te σ H fun a b H1 => RgOk a b ∧ NewQ (.lst (rgV a b)) Q H1) : tLstRg te σ H Q := h
theorem tupRg {te : L2.St → Hp → (Int → Int → Hp → Prop) → Prop} {Q : VK} (h : te σ H fun a b H1 => RgOk a b ∧ NewQ (.tup (rgV a b)) Q H1) : tTupRg te σ H Q := h
theorem rg1 {ta : TE} {Q : Int → Int → Hp → Prop} (h : ta σ H fun x H1 => ∃ n, x = .int n ∧ Q 0 n H1) : tRg1 ta σ H Q := h
theorem rg2 {ta tb : TE} {Q : Int → Int → Hp → Prop} (h : ta σ H fun x H1 => tb σ H1 fun y H2 => ∃ i j, x = .int i ∧ y = .int j ∧ Q i j H2) : tRg2 ta tb σ H Q := h
theorem intE2 {i j : Int} {P : Int → Int → Prop} (h : P i j) : ∃ a b, V.int i = .int a ∧ V.int j = .int b ∧ P a b := ⟨i, j, rfl, rfl, h⟩
theorem rgV0 (n : Nat) : rgV 0 (n : Int) = ((List.range n).map fun i : Nat => (i : Int)).map V.int := by
  unfold rgV
  rw [List.map_map, show ((n : Int) - 0).toNat = n by omega]
  refine List.map_congr_left fun i _ => ?_
  show V.int (0 + (i : Nat)) = V.int (i : Int)
  rw [Int.zero_add]
/-! ### dicts with ints as keys -/
theorem dnew {Q : VK} (h : ∀ (p : Addr) (G : Hp), H p = none → G p = some (.dK []) → Same H G → Q (.ref p) G) : tDNewK σ H Q :=
  fun p hp => h p _ hp upd_same fun b u e => by rw [upd_ne (ne_of_none e hp)]; exact e
theorem dgetH {td ty : TE} {Q : VK} (h : td σ H fun x H1 => ty σ H1 fun y H2 => ∃ a v, x = .ref a ∧ DGet H2 a y (some v) ∧ Q v H2) : tDGet td ty σ H Q := h
theorem dget {a : Addr} {kvs : List (Key × V)} {k : Int} {v : V} {P : V → Prop} (e : H a = some (.dK kvs)) (hv : valV kvs (.inl k) = some v) (q : P v) : ∃ a' v', V.ref a = .ref a' ∧ DGet H a' (.int k) (some v') ∧ P v' :=
  ⟨a, v, rfl, hv ▸ DGet.k (k := .inl k) e, q⟩
theorem dgetF {a : Addr} {o : Obj} {kvs : List (Key × V)} {k : Int} {v : V} {P : V → Prop} (e : H a = some (.frz o (.dK kvs))) (hv : valV kvs (.inl k) = some v) (q : P v) : ∃ a' v', V.ref a = .ref a' ∧ DGet H a' (.int k) (some v') ∧ P v' :=
  ⟨a, v, rfl, .inl ⟨kvs, .inl k, .inr ⟨o, e⟩, rfl, hv.symm⟩, q⟩
theorem dinH {ty td : TE} {Q : VK} (h : ty σ H fun y H1 => td σ H1 fun x H2 => ∃ a o, x = .ref a ∧ DGet H2 a y o ∧ Q (.bl o.isSome) H2) : tDIn ty td σ H Q := h
theorem dninH {ty td : TE} {Q : VK} (h : ty σ H fun y H1 => td σ H1 fun x H2 => ∃ a o, x = .ref a ∧ DGet H2 a y o ∧ Q (.bl (!o.isSome)) H2) : tDNotIn ty td σ H Q := h
theorem dany {a : Addr} {kvs : List (Key × V)} {k : Int} {P : Option V → Prop} (e : H a = some (.dK kvs)) (q : P (valV kvs (.inl k))) : ∃ a' o, V.ref a = .ref a' ∧ DGet H a' (.int k) o ∧ P o :=
  ⟨a, _, rfl, DGet.k (k := .inl k) e, q⟩
theorem dput {a : Addr} {kvs : List (Key × V)} {k : Int} {v : V} {Q : Hp → Prop} (e : H a = some (.dK kvs)) (hl : kvs.length < sizeLine) (h : ∀ G : Hp, G a = some (.dK (putK kvs (.inl k) v)) → (∀ b, b ≠ a → G b = H b) → Q G) : rSetD (.ref a) (.int k) v H Q :=
  ⟨a, _, rfl, DPut.k (k := .inl k) e hl, h _ upd_same fun b hb => upd_ne hb⟩
theorem dget1H {td ty : TE} {Q : VK} (h : td σ H fun x H1 => ∃ a, x = .ref a ∧ IsD H1 a ∧ ty σ H1 fun y H2 => ∃ o, DGet H2 a y o ∧ Q (o.getD .non) H2) : tDGet1 td ty σ H Q := h
theorem isD {a : Addr} {kvs : List (Key × V)} {P : Addr → Prop} (e : H a = some (.dK kvs)) (q : P a) : ∃ a', V.ref a = .ref a' ∧ IsD H a' ∧ P a' := ⟨a, rfl, .inl ⟨kvs, .inl e⟩, q⟩
theorem dgetO {a : Addr} {kvs : List (Key × V)} {k : Int} {P : Option V → Prop} (e : H a = some (.dK kvs)) (q : P (valV kvs (.inl k))) : ∃ o, DGet H a (.int k) o ∧ P o := ⟨_, DGet.k (k := .inl k) e, q⟩
/-- a for over the keys of a dict that is written nowhere in it -/
theorem forD {td : TE} {g : TG} {tb : TS} {a : Addr} {kvs : List (Key × V)} (hd : H a = some (.dK kvs)) (et : ∀ (H1 : Hp) (Q : VK), Q (.ref a) H1 → td σ H1 Q) (Pv : Nat → L2.St → Hp → Prop)
    (h0 : ∀ od, Pv 0 σ (upd H a (.frz od (.dK kvs)))) (hs : ∀ od i k v σ H, kvs[i]? = some (k, v) → H a = some (.frz od (.dK kvs)) → Pv i σ H → g (kV k) σ H fun σ2 H2 => tb { nx := fun σ' H' => H' a = some (.frz od (.dK kvs)) ∧ Pv (i + 1) σ' H', rt := fun v H' => H' a = some (.frz od (.dK kvs)) ∧ D.rt v (upd H' a (.dK kvs)), bk := fun σ' H' => H' a = some (.frz od (.dK kvs)) ∧ D.nx σ' (upd H' a (.dK kvs)), ct := fun σ' H' => H' a = some (.frz od (.dK kvs)) ∧ Pv (i + 1) σ' H' } σ2 H2)
    (hn : ∀ od σ H, H a = some (.frz od (.dK kvs)) → Pv kvs.length σ H → D.nx σ (upd H a (.dK kvs))) : tLock (tFor (iKeys td) g tb) D σ H := by
  refine ⟨a, .dK kvs, hd, trivial, fun od => ?_⟩
  refine et _ _ ⟨a, od, rfl, .inl ⟨kvs, upd_same, ?_⟩⟩
  exact for_it walk_keys (fun i σ H => H a = some (.frz od (.dK kvs)) ∧ Pv i σ H) ⟨upd_same, h0 od⟩ (fun i σ H _ h => h.1)
    (fun i x σ H H' hi ⟨h1, h2⟩ ⟨e, k, v, hk, hx⟩ => by cases e; cases hx; exact hs od i k v σ H hk h1 h2) (fun σ H ⟨h1, h2⟩ => ⟨h1, hn od σ H h1 h2⟩)
def nListD : List V → Hp → VK → Prop := fun xs H Q => ∃ p kvs, xs = [.ref p] ∧ H p = some (.dK kvs) ∧ ∀ q, H q = none → Q (.ref q) (upd H q (.lst (kvs.map fun kv => kV kv.1)))
theorem listD {a : Addr} {kvs : List (Key × V)} {Q : VK} (e : H a = some (.dK kvs)) (h : NewQ (.lst (kvs.map fun kv => kV kv.1)) Q H) : rListD [.ref a] H Q := ⟨a, kvs, rfl, e, h⟩
/-! ### joins -/
theorem m1 {r : V → List V → Hp → VK → Prop} {to te : TE} {Q : VK} (h : to σ H fun x H1 => (∃ a, x = .str a) ∧ te σ H1 fun y H2 => r x [y] H2 Q) : tM1 r to te σ H Q := h
theorem strX {a : Str} {R : Prop} (h : R) : (∃ b, V.str a = .str b) ∧ R := ⟨⟨a, rfl⟩, h⟩
theorem join {a : Str} {p : Addr} {ys : List Str} {Q : VK} (hp : SqL K H p (ys.map V.str) ∨ SqT K H p (ys.map V.str)) (hz : (ys.map (·.length)).sum + ys.length * a.length ≤ 16777216) (h : Q (.str (Txt.join a ys)) H) :
    ∃ a' p', ∃ ys' : List Str, V.str a = .str a' ∧ [V.ref p] = [.ref p'] ∧ (SqL K H p' (ys'.map V.str) ∨ SqT K H p' (ys'.map V.str)) ∧ (ys'.map (·.length)).sum + ys'.length * a'.length ≤ 16777216 ∧ Q (.str (Txt.join a' ys')) H := ⟨a, p, ys, rfl, rfl, hp, hz, h⟩
/-! ### own objects -/
def FldG (K : PySem.W.Frag) (f : Str) : V → Hp → VK → Prop := fun x H1 Q => ∃ a C dx fs v, x = .ref a ∧ H1 a = some (.ins C dx fs) ∧ Cls K C ∧ NoAttr K C f ∧ fs.lookup f = some v ∧ Q v H1
theorem fldH {ta : TE} {f : Str} {Q : VK} (h : ta σ H fun x H1 => FldG K f x H1 Q) : tFld K ta f σ H Q := h
theorem fld {f : Str} {a C dx : Addr} {fs : List (Str × V)} {v : V} {Q : VK} (e : H a = some (.ins C dx fs)) (c : Cls K C) (n : NoAttr K C f) (l : fs.lookup f = some v) (q : Q v H) : FldG K f (.ref a) H Q := ⟨a, C, dx, fs, v, rfl, e, c, n, l, q⟩
def FldS (K : PySem.W.Frag) (f : Str) (y : V) : V → Hp → (Hp → Prop) → Prop := fun x H2 Q => ∃ a C dx fs, x = .ref a ∧ H2 a = some (.ins C dx fs) ∧ Cls K C ∧ NoAttr K C f ∧ fs.length < 1000 ∧ Q (upd H2 a (.ins C dx (putF f y fs)))
theorem sfldH {ta tv : TE} {f : Str} (h : tv σ H fun y H1 => ta σ H1 fun x H2 => FldS K f y x H2 (D.nx σ)) : sFld K ta tv f D σ H := h
theorem sfld {f : Str} {a C dx : Addr} {fs fs' : List (Str × V)} {y : V} {Q : Hp → Prop} (e : H a = some (.ins C dx fs)) (c : Cls K C) (n : NoAttr K C f) (l : fs.length < 1000) (hf : putF f y fs = fs') (q : ∀ G : Hp, G a = some (.ins C dx fs') → (∀ b, b ≠ a → G b = H b) → Q G) : FldS K f y (.ref a) H Q :=
  ⟨a, C, dx, fs, rfl, e, c, n, l, hf ▸ q _ upd_same fun b hb => upd_ne hb⟩
def MkG (C : Addr) (sp : Sp) (dvs : List V) (E : XK) (vs : List V) (H1 : Hp) (Q : VK) : Prop := ∀ x dx, H1 x = none → H1 dx = none → dx ≠ x → sp (.ref x :: (vs ++ dvs)) (upd (upd H1 dx (.own x)) x (.ins C dx [])) (fun v H2 => v = .non ∧ Q (.ref x) H2) E
theorem mkH {C : Addr} {sp : Sp} {dvs : List V} {E : XK} {t : TA} {Q : VK} (h : t σ H fun vs H1 => MkG C sp dvs E vs H1 Q) : tMake C sp dvs E t σ H Q := h
theorem mk {C : Addr} {sp : Sp} {dvs : List V} {E : XK} {vs : List V} {Q : VK} (h : ∀ (x dx : Addr) (G : Hp), H x = none → H dx = none → dx ≠ x → G x = some (.ins C dx []) → Same H G → (∀ b, b ≠ x → b ≠ dx → G b = H b) → sp (.ref x :: (vs ++ dvs)) G (fun v H2 => v = .non ∧ Q (.ref x) H2) E) : MkG C sp dvs E vs H Q := fun x dx hx hd hne =>
  h x dx _ hx hd hne upd_same (fun b o e => by rw [upd_ne (ne_of_none e hx), upd_ne (ne_of_none e hd)]; exact e) fun b h1 h2 => by rw [upd_ne h1, upd_ne h2]
def MethG (C : Addr) (m : Str) (x : V) (H : Hp) (Q : Prop) : Prop := ∃ a dx fs, x = .ref a ∧ H a = some (.ins C dx fs) ∧ fs.lookup m = none ∧ Q
theorem methH {C : Addr} {m : Str} {sp : Sp} {dvs : List V} {E : XK} {ta : TE} {t : TA} {Q : VK} (h : ta σ H fun x H1 => MethG C m x H1 (t σ H1 fun vs H2 => sp (x :: (vs ++ dvs)) H2 Q E)) : tMeth C m sp dvs E ta t σ H Q := h
theorem meth {C : Addr} {m : Str} {a dx : Addr} {fs : List (Str × V)} {Q : Prop} (e : H a = some (.ins C dx fs)) (l : fs.lookup m = none) (q : Q) : MethG C m (.ref a) H Q := ⟨a, dx, fs, rfl, e, l, q⟩
/-! ### isinstance -/
theorem isi {x : V} {a b : String} {r : Bool} {Q : VK} (ht : TyX K H x (.type a)) (h : kitB a b = some r) (q : Q (.bl r) H) : rIsi K [x, .ty b] H Q := ⟨_, _, _, _, r, rfl, .ty b, ht, kit_ty h, q⟩
theorem isiStr {z : Str} {Q : VK} (q : Q (.bl true) H) : rIsi K [.str z, .ty "str"] H Q := isi (.base (.str z)) (by decide +kernel) q
theorem isiB {z : Bool} {Q : VK} (q : Q (.bl true) H) : rIsi K [.bl z, .ty "bool"] H Q := isi (.base (.bl z)) (by decide +kernel) q
theorem isiI {z : Int} {Q : VK} (q : Q (.bl true) H) : rIsi K [.int z, .ty "int"] H Q := isi (.base (.int z)) (by decide +kernel) q
theorem isiIB {z : Int} {Q : VK} (q : Q (.bl false) H) : rIsi K [.int z, .ty "bool"] H Q := isi (.base (.int z)) (by decide +kernel) q
end Rd
namespace W
open PySem PySem.Spec PyProof.Rows L2
theorem kit_self {K : PySem.W.Frag} {C : Addr} : PySem.W.kitOne K (.ref C) (.ref C) = some true := by
  unfold PySem.W.kitOne
  simp
/-- what isinstance asks of an own class -/
structure OwnTy (K : PySem.W.Frag) (C : Addr) : Prop where
  ha : PySem.W.findIn K (.ref C) "__class__" = some (some (.builtin "object.__class__"))
  hn : PySem.W.specialIn K (.builtin "object.__class__") "__get__" = some (some (.builtin "getset_descriptor.__get__"))
  htk : PySem.W.takesIn K (.builtin "object.__class__") = some true
  hm : PySem.W.mroIn K C (.type "object") = some true
  me : PySem.W.kitOne K (.ref C) (.ref C) = some true
theorem isiOwn {K : PySem.W.Frag} {H : Hp} {a C dx : Addr} {fs : List (Str × V)} {Q : VK} (c : Cls K C) (o : OwnTy K C) (e : H a = some (.ins C dx fs)) (q : Q (.bl true) H) : rIsi K [.ref a, .ref C] H Q :=
  ⟨_, _, _, _, true, rfl, .own C, .base (.ins e c o.ha o.hn o.htk o.hm), o.me, q⟩
end W
/-! ### letters -/
namespace Lt
open PySem PySem.Spec PyProof.Rows L2
def Abc : Str := "abcdefghijklmnopqrstuvwxyz"
def Let (z : Str) : Prop := ∀ c ∈ z.cps.toList, c ∈ Abc.cps.toList
theorem Let.app {a b : Str} (x : Let a) (y : Let b) : Let (a ++ b) := fun c h => by
  have : c ∈ a.cps.toList ++ b.cps.toList := by
    rw [← Array.toList_append]
    exact h
  exact (List.mem_append.mp this).elim (x c) (y c)
theorem len_app (a b : Str) : (a ++ b).length = a.length + b.length := Array.size_append
theorem Let.cut {z : Str} (x : Let z) (lo hi : Option Int) : Let (cutS z lo hi) := fun c h => x c (List.mem_of_mem_drop (List.mem_of_mem_take (show c ∈ (z.cps.toList.drop _).take _ from by simpa [cutS] using h)))
theorem Let.one {c : Nat} (h : c ∈ Abc.cps.toList) : Let ⟨#[c]⟩ := fun d hd => by
  have : d = c := by simpa using hd
  exact this ▸ h
theorem Let.empty : Let "" := fun c h => by exact absurd h (by decide +revert)
theorem Let.ok {z : Str} (x : Let z) : PyData.strOk z = true := by
  unfold PyData.strOk
  rw [Array.all_eq_true']
  intro c hc
  have h := x c (by simpa using hc)
  have : ∀ c ∈ Abc.cps.toList, decide (c < 0x110000) = true := by decide +kernel
  exact this c h
theorem Let.char {z : Str} (x : Let z) {c : Nat} {i : Nat} (h : z.cps.toList[i]? = some c) : c ∈ Abc.cps.toList := x c (List.mem_of_getElem? h)
theorem cut_len {z : Str} {a b : Nat} (h : a ≤ b) (hb : b ≤ z.length) : (cutS z (some (a : Int)) (some (b : Int))).length = b - a := by
  show (((z.cps.toList.drop (HT.sIx z.length 0 (some (a : Int)))).take (HT.sIx z.length z.length (some (b : Int)) - HT.sIx z.length 0 (some (a : Int)))).toArray).size = b - a
  rw [List.size_toArray, List.length_take, List.length_drop, Array.length_toList, HT.sIx_nat, HT.sIx_nat]
  unfold Str.length at hb ⊢
  omega
theorem cut_lenI {z : Str} {a b : Int} (h0 : 0 ≤ a) (h : a ≤ b) (hb : b ≤ z.length) : ((cutS z (some a) (some b)).length : Int) = b - a := by
  have := cut_len (z := z) (a := a.toNat) (b := b.toNat) (by omega) (by omega)
  rw [show ((a.toNat : Nat) : Int) = a by omega, show ((b.toNat : Nat) : Int) = b by omega] at this
  omega
theorem cut_from {z : Str} {a : Int} (h0 : 0 ≤ a) (h : a ≤ z.length) : ((cutS z (some a) none).length : Int) = z.length - a := by
  have e : (cutS z (some a) none).length = z.length - a.toNat := by
    show (((z.cps.toList.drop (HT.sIx z.length 0 (some a))).take (HT.sIx z.length z.length none - HT.sIx z.length 0 (some a))).toArray).size = _
    have e1 : HT.sIx z.length 0 (some a) = a.toNat := by
      have := HT.sIx_nat z.length 0 a.toNat
      rw [show ((a.toNat : Nat) : Int) = a by omega] at this
      rw [this]
      omega
    rw [List.size_toArray, List.length_take, List.length_drop, Array.length_toList, e1]
    show min (z.length - a.toNat) (z.cps.size - a.toNat) = _
    unfold Str.length
    omega
  omega
theorem cut_to {z : Str} {b : Int} (h0 : 0 ≤ b) : ((cutS z none (some b)).length : Int) = min b z.length := by
  have e : (cutS z none (some b)).length = min b.toNat z.length := by
    show (((z.cps.toList.drop (HT.sIx z.length 0 none)).take (HT.sIx z.length z.length (some b) - HT.sIx z.length 0 none)).toArray).size = _
    have e1 : HT.sIx z.length z.length (some b) = min b.toNat z.length := by
      have := HT.sIx_nat z.length z.length b.toNat
      rw [show ((b.toNat : Nat) : Int) = b by omega] at this
      exact this
    have e2 : HT.sIx z.length 0 none = 0 := rfl
    rw [List.size_toArray, List.length_take, List.length_drop, Array.length_toList, e1, e2]
    unfold Str.length
    omega
  omega
theorem join_let : ∀ ys : List Str, (∀ y ∈ ys, Let y) → Let (Str.join "" ys) ∧ (Str.join "" ys).length = (ys.map (·.length)).sum
  | [], _ => ⟨fun c h => by exact absurd h (by decide +revert), by decide +kernel⟩
  | [y], h => ⟨h y (by simp), by simp [Str.join]⟩
  | y :: z :: r, h => by
    have ih := join_let (z :: r) fun x hx => h x (List.mem_cons_of_mem _ hx)
    have e : Str.join "" (y :: z :: r) = y ++ "" ++ Str.join "" (z :: r) := rfl
    rw [e]
    refine ⟨((h y List.mem_cons_self).app Let.empty).app ih.1, ?_⟩
    rw [len_app, len_app, ih.2, show (Str.ofString "").length = 0 by decide +kernel]
    show y.length + 0 + _ = (y.length :: (z :: r).map (·.length)).sum
    rw [List.sum_cons]
    rfl
theorem join_one {ys : List Str} {n : Nat} (hl : ys.length = n) (h : ∀ y ∈ ys, Let y ∧ y.length = 1) : Let (Txt.join "" ys) ∧ (Txt.join "" ys).length = n ∧ (ys.map (·.length)).sum = n := by
  have j := join_let ys fun y hy => (h y hy).1
  have e : (ys.map (·.length)).sum = ys.length := by
    clear j hl
    induction ys with
    | nil => rfl
    | cons y r ih => rw [List.map_cons, List.sum_cons, ih fun x hx => h x (List.mem_cons_of_mem _ hx), (h y List.mem_cons_self).2, List.length_cons]; omega
  rw [TL.join_eq]
  exact ⟨j.1, by rw [j.2, e, hl], by rw [e, hl]⟩
theorem ne_of_len {z : Str} (h : 0 < z.length) : ¬ z = "" := fun e => by
  subst e
  exact absurd h (by decide +revert)
theorem len_of_ne {z : Str} (h : ¬ z = "") : 0 < z.length := by
  rcases Nat.eq_zero_or_pos z.length with e | e
  · exfalso
    refine h ?_
    have : z.cps = #[] := Array.eq_empty_of_size_eq_zero e
    cases z
    simp only at this
    subst this
    decide +kernel
  · exact e
/-- a word: some letters, at least one, at most n -/
structure Wd (n : Int) (z : Str) : Prop where
  ok : Let z
  l0 : 1 ≤ z.length
  l1 : (z.length : Int) ≤ n
theorem Wd.mono {n m : Int} {z : Str} (h : Wd n z) (k : n ≤ m) : Wd m z := ⟨h.ok, h.l0, Int.le_trans h.l1 k⟩
theorem Wd.line {n : Int} {z : Str} (h : Wd n z) (k : n ≤ 1000000) : z.length ≤ sizeLine := by
  have := h.l1
  rw [sizeLine_eq]
  omega
end Lt
namespace W
open PySem PySem.Spec PyProof.Rows L2
/-! ### the tape, books -/
def Tape (H : Hp) (t c : Addr) : Prop := ∃ (ns : List Int) (x y z u : Int), t ≠ c ∧ H t = some (.lst [.ref c, .int x, .int y, .int z, .int u]) ∧ H c = some (.lst (ns.map V.int)) ∧ 0 ≤ x ∧ x ≤ ns.length ∧ 0 ≤ z ∧ z < 2147483647
theorem Tape.same {H H' : Hp} {t c : Addr} (h : Tape H t c) (s : Same H H') : Tape H' t c := by
  obtain ⟨ns, x, y, z, u, n, h1, h2, r⟩ := h
  exact ⟨ns, x, y, z, u, n, s _ _ h1, s _ _ h2, r⟩
theorem Tape.off {H H' : Hp} {t c l : Addr} (h : Tape H t c) (h1 : l ≠ t) (h2 : l ≠ c) (e : ∀ b, b ≠ l → H' b = H b) : Tape H' t c := by
  obtain ⟨ns, x, y, z, u, n, g1, g2, r⟩ := h
  exact ⟨ns, x, y, z, u, n, by rw [e t h1.symm]; exact g1, by rw [e c h2.symm]; exact g2, r⟩
theorem Tape.new {H : Hp} {t c l : Addr} (h : Tape H t c) (n : H l = none) : l ≠ t ∧ l ≠ c := by
  obtain ⟨ns, x, y, z, u, _, g1, g2, r⟩ := h
  exact ⟨(ne_of_none g1 n).symm, (ne_of_none g2 n).symm⟩
theorem _root_.Rd.tape_same {H H' : Hp} {t c : Addr} (s : Same H H') (h : Tape H t c) : Tape H' t c := h.same s
theorem _root_.Rd.ntT {H : Hp} {t c l : Addr} (n : H l = none) (h : Tape H t c) : l ≠ t := (h.new n).1
theorem _root_.Rd.ntT' {H : Hp} {t c l : Addr} (n : H l = none) (h : Tape H t c) : l ≠ c := (h.new n).2
/-- some watches: no two alike, at most twelve, each of some letters -/
structure Watches (ws : List Str) : Prop where
  nd : ws.Nodup
  l1 : ws.length ≤ 12
  ok : ∀ z ∈ ws, Lt.Wd 12 z
/-- a book of the watches ws stands at b -/
def BookAt (C : Addr) (H : Hp) (b : Addr) (ws : List Str) : Prop := ∃ dx t, H b = some (.ins C dx [("watches", .ref t)]) ∧ H t = some (.tup (ws.map V.str))
theorem BookAt.same {C : Addr} {H H' : Hp} {b : Addr} {ws : List Str} (h : BookAt C H b ws) (s : Same H H') : BookAt C H' b ws := let ⟨dx, t, h1, h2⟩ := h; ⟨dx, t, s _ _ h1, s _ _ h2⟩
theorem BookAt.but {C t c : Addr} {H H' : Hp} {b : Addr} {ws : List Str} (h : BookAt C H b ws) (tp : Tape H t c) (s : Rd.But t H H') : BookAt C H' b ws := by
  obtain ⟨dx, q, h1, h2⟩ := h
  obtain ⟨ns, x, y, z, u, _, g1, g2, r⟩ := tp
  exact ⟨dx, q, s _ _ (ne_of h1 g1 (fun e => nomatch e)) h1, s _ _ (ne_of h2 g1 (fun e => nomatch e)) h2⟩
theorem snoc_nodup {α : Type} {ws : List α} {y : α} (nd : ws.Nodup) (q : ¬ y ∈ ws) : (ws ++ [y]).Nodup := by
  rw [List.nodup_append]
  exact ⟨nd, by simp, fun x hx z hz e => q (by simp at hz; rw [← hz, ← e]; exact hx)⟩
theorem _root_.Rd.book_same {C : Addr} {H H' : Hp} {b : Addr} {ws : List Str} (s : Same H H') (h : BookAt C H b ws) : BookAt C H' b ws := h.same s
theorem _root_.Rd.book_but {C t c : Addr} {H H' : Hp} {b : Addr} {ws : List Str} (s : Rd.But t H H') (tp : Tape H t c) (h : BookAt C H b ws) : BookAt C H' b ws := h.but tp s
end W
/-! ### what is kept, for the search by hypotheses -/
namespace Rd
open PySem PySem.Spec PyProof.Rows L2
variable {H H' : Hp} {K : PySem.W.Frag}
theorem neN {H : Hp} {a b : Addr} {o : HO} (h' : H b = none) (h : H a = some o) : a ≠ b := ne_of_none h h'
theorem neN' {H : Hp} {a b : Addr} {o : HO} (h' : H b = none) (h : H a = some o) : b ≠ a := (ne_of_none h h').symm
theorem same_tr {H H1 H2 : Hp} (b : Same H1 H2) (a : Same H H1) : Same H H2 := a.trans b
theorem but_tr {t : Addr} {H H1 H2 : Hp} (b : But t H1 H2) (a : But t H H1) : But t H H2 := a.trans b
theorem but_sm {t : Addr} {H H1 H2 : Hp} (b : Same H1 H2) (a : But t H H1) : But t H H2 := a.same b
theorem same_of2 {l : Addr} {H0 H H' : Hp} (off : ∀ b, b ≠ l → H' b = H b) (n : H0 l = none) (s : Same H0 H) : Same H0 H' := fun b o e => by rw [off b (ne_of_none e n)]; exact s b o e
theorem but_of2 {t l : Addr} {H0 H H' : Hp} (off : ∀ b, b ≠ l → H' b = H b) (n : H0 l = none) (s : But t H0 H) : But t H0 H' := fun b o h e => by rw [off b (ne_of_none e n)]; exact s b o h e
theorem at_same {a : Addr} {o : HO} (s : Same H H') (e : H a = some o) : H' a = some o := s a o e
theorem at_but {t a : Addr} {o : HO} (b : But t H H') (n : a ≠ t) (e : H a = some o) : H' a = some o := b a o n e
theorem at_off {l a : Addr} {o : HO} (off : ∀ b, b ≠ l → H' b = H b) (n : a ≠ l) (e : H a = some o) : H' a = some o := by rw [off a n]; exact e
theorem same_off {l : Addr} {H0 : Hp} (s : Same H0 H) (n : H0 l = none) (off : ∀ b, b ≠ l → H' b = H b) : Same H0 H' := fun b o e => by rw [off b (ne_of_none e n)]; exact s b o e
theorem but_off' {t l : Addr} {H0 : Hp} (s : But t H0 H) (n : H0 l = none) (off : ∀ b, b ≠ l → H' b = H b) : But t H0 H' := fun b o h e => by rw [off b (ne_of_none e n)]; exact s b o h e
theorem lenS {p : Addr} {ys : List Str} {H : Hp} {Q : VK} (hp : SqL K H p (ys.map V.str) ∨ SqT K H p (ys.map V.str)) (h : Q (.int (ys.length : Nat)) H) : nLen K [.ref p] H Q := ⟨p, _, rfl, hp, by rw [List.length_map]; exact h⟩
theorem lenI {p : Addr} {ys : List Int} {H : Hp} {Q : VK} (hp : SqL K H p (ys.map V.int) ∨ SqT K H p (ys.map V.int)) (h : Q (.int (ys.length : Nat)) H) : nLen K [.ref p] H Q := ⟨p, _, rfl, hp, by rw [List.length_map]; exact h⟩
theorem lenR {p : Addr} {ys : List Addr} {H : Hp} {Q : VK} (hp : SqL K H p (ys.map V.ref) ∨ SqT K H p (ys.map V.ref)) (h : Q (.int (ys.length : Nat)) H) : nLen K [.ref p] H Q := ⟨p, _, rfl, hp, by rw [List.length_map]; exact h⟩
end Rd

/-! numbers with a top and a bottom, as the law of fractions reckons them. -/
namespace Mx
open Rat (divInt)
/-- what the greatest common part is divided by, with the bottom's sign -/
def part (t u : Int) : Int := if u < 0 then -((Nat.gcd t.natAbs u.natAbs : Nat) : Int) else ((Nat.gcd t.natAbs u.natAbs : Nat) : Int)
theorem gcd_pos {t u : Int} (h : u ≠ 0) : 0 < Nat.gcd t.natAbs u.natAbs := Nat.gcd_pos_of_pos_right _ (by omega)
theorem gcd_le {t u : Int} (h : u ≠ 0) : Nat.gcd t.natAbs u.natAbs ≤ u.natAbs := Nat.gcd_le_right _ (by omega)
theorem part_ne {t u : Int} (h : u ≠ 0) : part t u ≠ 0 := by
  have := gcd_pos (t := t) h
  unfold part
  split <;> omega
theorem part_abs (t u : Int) : (part t u).natAbs = Nat.gcd t.natAbs u.natAbs := by
  unfold part
  split <;> omega
theorem dvd_t (t u : Int) : part t u ∣ t := by
  have h : ((Nat.gcd t.natAbs u.natAbs : Nat) : Int) ∣ t := Int.ofNat_dvd_left.mpr (Nat.gcd_dvd_left ..)
  unfold part
  split
  · exact Int.neg_dvd.mpr h
  · exact h
theorem dvd_u (t u : Int) : part t u ∣ u := by
  have h : ((Nat.gcd t.natAbs u.natAbs : Nat) : Int) ∣ u := Int.ofNat_dvd_left.mpr (Nat.gcd_dvd_right ..)
  unfold part
  split
  · exact Int.neg_dvd.mpr h
  · exact h
theorem top_of {t u : Int} (h : u ≠ 0) : t.fdiv (part t u) = (divInt t u).num := by
  have hd : ((Nat.gcd t.natAbs u.natAbs : Nat) : Int) ∣ t := Int.ofNat_dvd_left.mpr (Nat.gcd_dvd_left ..)
  rw [Int.fdiv_eq_ediv_of_dvd (dvd_t t u), Rat.num_divInt, show Int.gcd u t = Nat.gcd t.natAbs u.natAbs from Nat.gcd_comm ..]
  unfold part
  split
  · rename_i c
    rw [Int.sign_eq_neg_one_of_neg c, Int.ediv_neg, Int.neg_mul, Int.one_mul, Int.neg_ediv_of_dvd hd]
  · rename_i c
    rw [Int.sign_eq_one_of_pos (by omega), Int.one_mul]
theorem bot_of {t u : Int} (h : u ≠ 0) : u.fdiv (part t u) = ((divInt t u).den : Int) := by
  have hd : ((Nat.gcd t.natAbs u.natAbs : Nat) : Int) ∣ u := Int.ofNat_dvd_left.mpr (Nat.gcd_dvd_right ..)
  rw [Int.fdiv_eq_ediv_of_dvd (dvd_u t u), Rat.den_divInt, if_neg h, show Int.gcd u t = Nat.gcd t.natAbs u.natAbs from Nat.gcd_comm ..]
  unfold part
  split
  · rename_i c
    rw [Int.ediv_neg, ← Int.neg_ediv_of_dvd hd, Int.natCast_ediv]
    congr 1
    omega
  · rename_i c
    rw [Int.natCast_ediv]
    congr 1
    omega
/-! ### sizes -/
def Sz (k : Nat) (r : Rat) : Prop := r.num.natAbs < 2 ^ k ∧ r.den < 2 ^ k
theorem Sz.mono {j k : Nat} {r : Rat} (h : Sz j r) (l : j ≤ k) : Sz k r := ⟨Nat.lt_of_lt_of_le h.1 (Nat.pow_le_pow_right (by decide) l), Nat.lt_of_lt_of_le h.2 (Nat.pow_le_pow_right (by decide) l)⟩
theorem divInt_le {t u : Int} (h : u ≠ 0) : (divInt t u).num.natAbs ≤ t.natAbs ∧ (divInt t u).den ≤ u.natAbs := by
  constructor
  · rw [← top_of h, Int.fdiv_eq_ediv_of_dvd (dvd_t t u), Int.natAbs_ediv_of_dvd (dvd_t t u)]
    exact Nat.div_le_self ..
  · rw [Rat.den_divInt, if_neg h]
    exact Nat.div_le_self ..
theorem Sz.divInt {k : Nat} {t u : Int} (h : u ≠ 0) (ht : t.natAbs < 2 ^ k) (hu : u.natAbs < 2 ^ k) : Sz k (divInt t u) := ⟨Nat.lt_of_le_of_lt (divInt_le h).1 ht, Nat.lt_of_le_of_lt (divInt_le h).2 hu⟩
theorem Sz.int {k : Nat} {i : Int} (h : i.natAbs < 2 ^ k) (k0 : 0 < k) : Sz k (i : Rat) := ⟨h, Nat.one_lt_two_pow (by omega)⟩
theorem mul_lt {i j : Int} {a b : Nat} (ha : i.natAbs < 2 ^ a) (hb : j.natAbs < 2 ^ b) : (i * j).natAbs < 2 ^ (a + b) := by
  rw [Int.natAbs_mul, Nat.pow_add]
  exact Nat.mul_lt_mul'' ha hb
theorem add_lt {i j : Int} {a : Nat} (ha : i.natAbs < 2 ^ a) (hb : j.natAbs < 2 ^ a) : (i + j).natAbs < 2 ^ (a + 1) := by
  rw [Nat.pow_succ]
  omega
theorem sub_lt {i j : Int} {a : Nat} (ha : i.natAbs < 2 ^ a) (hb : j.natAbs < 2 ^ a) : (i - j).natAbs < 2 ^ (a + 1) := by
  rw [Nat.pow_succ]
  omega
theorem den_ne (r : Rat) : (r.den : Int) ≠ 0 := by
  have := r.den_pos
  omega
theorem two_ne (r s : Rat) : (r.den : Int) * (s.den : Int) ≠ 0 := Int.mul_ne_zero (den_ne r) (den_ne s)
/-! ### the operators, as they are reckoned -/
theorem add_of (r s : Rat) : divInt (r.num * s.den + s.num * r.den) (r.den * s.den) = r + s := by
  rw [Rat.add_def', ← Rat.divInt_ofNat, Int.natCast_mul]
theorem sub_of (r s : Rat) : divInt (r.num * s.den - s.num * r.den) (r.den * s.den) = r - s := by
  rw [Rat.sub_def', ← Rat.divInt_ofNat, Int.natCast_mul]
theorem mul_of (r s : Rat) : divInt (r.num * s.num) (r.den * s.den) = r * s := by
  rw [Rat.mul_def', ← Rat.divInt_ofNat, Int.natCast_mul]
theorem addI_of (r : Rat) (i : Int) : divInt (r.num + i * r.den) r.den = r + i := by
  rw [← add_of, Rat.den_intCast, Rat.num_intCast]
  simp
theorem subI_of (r : Rat) (i : Int) : divInt (r.num - i * r.den) r.den = r - i := by
  rw [← sub_of, Rat.den_intCast, Rat.num_intCast]
  simp
theorem rsubI_of (r : Rat) (i : Int) : divInt (i * r.den - r.num) r.den = (i : Rat) - r := by
  rw [← sub_of, Rat.den_intCast, Rat.num_intCast]
  simp
theorem mulI_of (r : Rat) (i : Int) : divInt (r.num * i) r.den = r * i := by
  rw [← mul_of, Rat.den_intCast, Rat.num_intCast]
  simp
theorem neg_of (r : Rat) : divInt (-r.num) r.den = -r := by
  rw [← Rat.neg_divInt, Rat.num_divInt_den]
theorem over_of (r s : Rat) : divInt (r.num * s.den) (r.den * s.num) = r / s := by
  rw [Rat.div_def, Rat.inv_def, ← Rat.divInt_mul_divInt, Rat.num_divInt_den]
theorem of_int (i : Int) : divInt i 1 = i := by
  rw [show (1 : Int) = ((1 : Nat) : Int) from rfl, Rat.divInt_ofNat]
  exact Rat.mkRat_self (i : Rat)
theorem Sz.add {a b : Nat} {r s : Rat} (hr : Sz a r) (hs : Sz b s) : Sz (a + b + 1) (r + s) := by
  rw [← add_of]
  refine Sz.divInt (two_ne r s) (add_lt (mul_lt hr.1 hs.2) ?_) (Nat.lt_of_lt_of_le (mul_lt hr.2 hs.2) (Nat.pow_le_pow_right (by decide) (by omega)))
  rw [Nat.add_comm]
  exact mul_lt hs.1 hr.2
theorem Sz.sub {a b : Nat} {r s : Rat} (hr : Sz a r) (hs : Sz b s) : Sz (a + b + 1) (r - s) := by
  rw [← sub_of]
  refine Sz.divInt (two_ne r s) (sub_lt (mul_lt hr.1 hs.2) ?_) (Nat.lt_of_lt_of_le (mul_lt hr.2 hs.2) (Nat.pow_le_pow_right (by decide) (by omega)))
  rw [Nat.add_comm]
  exact mul_lt hs.1 hr.2
theorem Sz.mul {a b : Nat} {r s : Rat} (hr : Sz a r) (hs : Sz b s) : Sz (a + b) (r * s) := by
  rw [← mul_of]
  exact Sz.divInt (two_ne r s) (mul_lt hr.1 hs.1) (mul_lt hr.2 hs.2)
theorem Sz.neg {a : Nat} {r : Rat} (hr : Sz a r) : Sz a (-r) := ⟨by rw [Rat.neg_num, Int.natAbs_neg]; exact hr.1, hr.2⟩
theorem Sz.div {a b : Nat} {r s : Rat} (hr : Sz a r) (hs : Sz b s) (h : s ≠ 0) : Sz (a + b) (r / s) := by
  rw [← over_of]
  refine Sz.divInt (Int.mul_ne_zero (den_ne r) fun e => h (Rat.num_eq_zero.mp e)) (mul_lt hr.1 hs.2) (mul_lt hr.2 hs.1)
/-! ### how laws ask: a top and a bottom, not in lowest terms -/
theorem same_of {r : Rat} {t u : Int} (h : u ≠ 0) : r.num * u = t * r.den ↔ r = divInt t u := by
  rw [← Rat.divInt_eq_divInt_iff (den_ne r) h, Rat.num_divInt_den]
theorem mk_add {t u v w : Int} (h : u ≠ 0) (k : w ≠ 0) : divInt t u + divInt v w = divInt (t * w + v * u) (u * w) := Rat.divInt_add_divInt _ _ h k
theorem mk_sub {t u v w : Int} (h : u ≠ 0) (k : w ≠ 0) : divInt t u - divInt v w = divInt (t * w - v * u) (u * w) := Rat.divInt_sub_divInt _ _ h k
theorem mk_mul {t u v w : Int} : divInt t u * divInt v w = divInt (t * v) (u * w) := Rat.divInt_mul_divInt _ _
theorem mk_div {t u v w : Int} : divInt t u / divInt v w = divInt (t * w) (u * v) := by
  rw [Rat.div_def, Rat.inv_divInt, mk_mul]
end Mx
namespace Mx
open Rat (divInt)
/-! ### the law's own common divisor: a thousand turns are enough -/
theorem twice {x y : Nat} (hy : 0 < y) (h : y ≤ x) : 2 * (x % y) ≤ x := by
  have h1 : x % y < y := Nat.mod_lt _ hy
  have h3 := Nat.div_add_mod x y
  have h4 : 1 ≤ x / y := Nat.div_pos h hy
  have h5 : y ≤ y * (x / y) := Nat.le_mul_of_pos_right _ h4
  omega
/-- what is left when i turns are done -/
def Low (k i x y : Nat) : Prop := (i = 0 ∧ y < 2 ^ k) ∨ (0 < i ∧ y < x ∧ x * y * 2 ^ (i - 1) < 2 ^ (2 * k))
theorem Low.step {k i x y : Nat} (hy : 0 < y) (h : Low k i x y) : Low k (i + 1) y (x % y) := by
  have h1 : x % y < y := Nat.mod_lt _ hy
  refine .inr ⟨by omega, h1, ?_⟩
  rcases h with ⟨rfl, h0⟩ | ⟨hi, hyx, h0⟩
  · rw [show 2 * k = k + k by omega, Nat.pow_add, show 0 + 1 - 1 = 0 from rfl, Nat.pow_zero, Nat.mul_one]
    exact Nat.mul_lt_mul'' h0 (by omega)
  · obtain ⟨j, rfl⟩ : ∃ j, i = j + 1 := ⟨i - 1, by omega⟩
    rw [Nat.add_sub_cancel] at h0 ⊢
    refine Nat.lt_of_le_of_lt ?_ h0
    have h2 := twice hy (Nat.le_of_lt hyx)
    rw [Nat.pow_succ]
    calc y * (x % y) * (2 ^ j * 2) = y * (2 * (x % y)) * 2 ^ j := by
          rw [Nat.mul_comm (2 ^ j) 2, ← Nat.mul_assoc, Nat.mul_assoc y, Nat.mul_comm (x % y) 2]
      _ ≤ y * x * 2 ^ j := Nat.mul_le_mul_right _ (Nat.mul_le_mul_left _ h2)
      _ = x * y * 2 ^ j := by rw [Nat.mul_comm y x]
theorem Low.last {k i x y : Nat} (hi : 2 * k < i) (h : Low k i x y) : y = 0 := by
  rcases h with ⟨rfl, _⟩ | ⟨h1, h2, h3⟩
  · omega
  · rcases Nat.eq_zero_or_pos y with e | e
    · exact e
    · exfalso
      have h4 : 2 ^ (2 * k) ≤ 2 ^ (i - 1) := Nat.pow_le_pow_right (by decide) (by omega)
      have h5 : 1 ≤ x * y := Nat.mul_pos (by omega) e
      have h6 : 2 ^ (i - 1) ≤ x * y * 2 ^ (i - 1) := Nat.le_mul_of_pos_left _ h5
      omega
/-! ### less, with signs -/
theorem le_of {t u v w : Int} (h : u ≠ 0) (k : w ≠ 0) : divInt v w ≤ divInt t u ↔ 0 ≤ (t * w - v * u) * (u * w) := by
  have p : 0 < (u * w) * (u * w) := by
    rcases Int.lt_or_gt_of_ne (Int.mul_ne_zero h k) with c | c
    · exact Int.mul_pos_of_neg_of_neg c c
    · exact Int.mul_pos c c
  rw [Rat.le_iff_sub_nonneg, mk_sub h k, ← Rat.divInt_mul_right (Int.mul_ne_zero h k), Rat.divInt_nonneg_iff_of_pos_right p]
theorem lt_of {t u v w : Int} (h : u ≠ 0) (k : w ≠ 0) : divInt t u < divInt v w ↔ (t * w - v * u) * (u * w) < 0 := by
  rw [← Rat.not_le, le_of h k, Int.not_le]
theorem lt_sign {t u v w : Int} (h : u ≠ 0) (k : w ≠ 0) : divInt t u < divInt v w ↔ t * w * (if u * w < 0 then -1 else 1) < v * u * (if u * w < 0 then -1 else 1) := by
  rw [lt_of h k]
  split
  · rename_i c
    refine ⟨fun z => ?_, fun z => Int.mul_neg_of_pos_of_neg (by omega) c⟩
    by_cases q : t * w - v * u ≤ 0
    · have := Int.mul_nonneg_of_nonpos_of_nonpos q (Int.le_of_lt c)
      omega
    · omega
  · rename_i c
    have c : 0 < u * w := by
      have := Int.mul_ne_zero h k
      omega
    refine ⟨fun z => ?_, fun z => Int.mul_neg_of_neg_of_pos (by omega) c⟩
    by_cases q : 0 ≤ t * w - v * u
    · have := Int.mul_nonneg q (Int.le_of_lt c)
      omega
    · omega
/-- numerators in lowest terms have no common part -/
theorem gcd_one (r : Rat) : Nat.gcd r.num.natAbs ((r.den : Int)).natAbs = 1 := r.reduced
end Mx

/-! Sorting of data of any depth, and by an own key function. -/
namespace Rs
open PySem PySem.W PyProof.Rows
theorem nsOne {h : Heap} {L : Addr} {m m' : Str → Option Value} : h.Ns L m → h.Ns L m' → m = m' := by
  rintro ⟨o, es, ep, e, d, _, r⟩ ⟨o', es', ep', e', d', _, r'⟩
  have : o = o' := Option.some.inj (e.symm.trans e')
  subst this
  rw [d] at d'
  injection d' with d1 d2
  subst d1
  funext x
  exact (r x).symm.trans (r' x)
theorem each_split {α β γ : Type} {R : α → γ → Prop} {S : γ → β → Prop} : ∀ {as : List α} {bs : List β}, EachIs (fun a b => ∃ c, R a c ∧ S c b) as bs → ∃ cs : List γ, EachIs R as cs ∧ EachIs S cs bs
  | _, _, .nil => ⟨[], .nil, .nil⟩
  | _, _, .cons ⟨c, h1, h2⟩ t => let ⟨cs, q1, q2⟩ := each_split t; ⟨c :: cs, .cons h1 q1, .cons h2 q2⟩
theorem each_get {α β : Type} {R : α → β → Prop} : ∀ {as : List α} {bs : List β}, EachIs R as bs → ∀ {i : Nat} {a : α}, as[i]? = some a → ∃ b, bs[i]? = some b ∧ R a b
  | _, _, .nil, _, _, h => by simp at h
  | _, _, .cons h t, 0, _, e => by
    simp at e
    subst e
    exact ⟨_, rfl, h⟩
  | _, _, .cons h t, i + 1, _, e => each_get t (i := i) (by simpa using e)
end Rs
namespace Rs
open PySem PySem.Spec PyProof.Rows L2 PySem.W
theorem each_vals {R : V → β → Prop} : ∀ {xs : List V} {us : List Value} {bs : List β}, Vals xs us → EachIs R xs bs → EachIs (fun u b => ∃ x, RelV x u ∧ R x b) us bs
  | _, _, _, .nil, .nil => .nil
  | _, _, _, .cons r rr, .cons h t => .cons ⟨_, r, h⟩ (each_vals rr t)
theorem vals_each {R : V → β → Prop} : ∀ {us : List Value} {bs : List β}, EachIs (fun u b => ∃ x, RelV x u ∧ R x b) us bs → ∃ xs : List V, Vals xs us ∧ EachIs R xs bs
  | _, _, .nil => ⟨[], .nil, .nil⟩
  | _, _, .cons ⟨x, r, h⟩ t => let ⟨xs, q1, q2⟩ := vals_each t; ⟨x :: xs, .cons r q1, .cons h q2⟩
/-- what is asked of the keys: alike, all tuples with an item or none a tuple, not deep -/
structure Keys (ds : List PyData) : Prop where
  al : AllAlike ds
  so : Sortable ds
  dp : ∀ d ∈ ds, d.depth ≤ 50
section
variable {X : Cx}
/-- sorted(xs), data of any depth -/
def rSortD (K : PySem.W.Frag) : List V → Hp → VK → Prop := fun vs H Q => ∃ (a : Addr) (xs : List V) (β : Type) (bs : List β) (k : β → PyData) (R : V → β → Prop), vs = [V.ref a] ∧ SqL K H a xs ∧ EachIs (fun x b => Dp K H x (k b) ∧ R x b) xs bs ∧ Keys (bs.map k) ∧
  ∀ (out : List V) (p : Addr) (G : Hp), EachIs (fun x b => Dp K H x (k b) ∧ R x b) out (bs.mergeSort (dataLe false k)) → H p = none → G p = some (.lst out) → Same H G → Q (.ref p) G
theorem cr_sortD (hu : X.A.units + 64 < cLine) : CallR X (.builtin "sorted") (rSortD X.K) := by
  intro pins s σ H vs us Q I r h
  obtain ⟨a, xs, β, bs, k, R, rfl, hs, he, hk, q⟩ := h
  obtain ⟨its, rv, hl, hz⟩ := I.list hs
  obtain rfl := Vals.ref1 r
  have hz' : its.length ≤ sizeLine := by rw [← rv.length]; exact hz
  have h1 : EachIs (fun u b => ∃ x, RelV x u ∧ (Dp X.K H x (k b) ∧ R x b)) its bs := each_vals rv he
  have h2 : EachIs (fun u b => ∃ as, Reads s.heap u (k b) as) its bs := h1.mono fun u b ⟨x, rx, hx, _⟩ => Dp.reads I (k b) x u hx rx
  have h3 : EachIs (fun u d => ∃ as, Reads (sortingHeap (copyHeap s.heap its) (s.heap.objs.size + 1) its) u d as) its (bs.map k) := by
    have : ∀ {as : List Value} {bs : List β}, EachIs (fun u b => ∃ as, Reads s.heap u (k b) as) as bs → EachIs (fun u d => ∃ as, Reads (sortingHeap (copyHeap s.heap its) (s.heap.objs.size + 1) its) u d as) as (bs.map k) := by
      intro as bs h
      induction h with
      | nil => exact .nil
      | cons h _ ih =>
        obtain ⟨as, r⟩ := h
        exact .cons ⟨as, PyProof.Rows.Reads.keeps (fun b o e => sorting_copy_old e) r⟩ ih
    exact this h2
  have SA : SortsAt X.prog X.w X.A.in1.in1 { s with heap := sortingHeap (copyHeap s.heap its) (s.heap.objs.size + 1) its } (dataKind (sortingHeap (copyHeap s.heap its) (s.heap.objs.size + 1) its) (bs.map k)) its := SortsAt.data (s := { s with heap := sortingHeap (copyHeap s.heap its) (s.heap.objs.size + 1) its }) h3 hk.al hk.so fun d hd => by
    have := hk.dp d hd
    simp only [units_in1]
    omega
  refine sorted_vals hl.isList SA hz' ?_
  have out := sortVals_each (κ := dataKind (sortingHeap (copyHeap s.heap its) (s.heap.objs.size + 1) its) (bs.map k)) (rev := false) (fun b => keyToks (k b)) h1 (each_of_map k (each_keys hk.al h3))
  obtain ⟨ys, ry, hy⟩ := vals_each out
  obtain ⟨ep, he'⟩ := PyProof.Rows.sortedAll_at s.heap its (sortVals (dataKind (sortingHeap (copyHeap s.heap its) (s.heap.objs.size + 1) its) (bs.map k)) false its its).toArray
  have hlen : ys.length ≤ sizeLine := by
    rw [ry.length, sortVals_length false rfl]
    exact hz'
  have hf := I.hok.fresh (Nat.le_succ s.heap.objs.size)
  exact ⟨.ref _, upd H (s.heap.objs.size + 1) (.lst ys), I.laid (t' := s.toks) (fun _ _ => PyProof.Rows.sortedAll_old) (Nat.le_succ _) ⟨hlen, _, ep, ry, he'⟩, rfl, q ys _ _ hy hf upd_same (Rd.same_upd hf)⟩
end
end Rs
namespace Rs
open PySem PySem.Spec PyProof.Rows L2 PySem.W
theorem room2 {k : Nat} {A : Around} (r : Room (k + 1) A) : Room k A.in1.in1 :=
  ⟨r.hd, by have := r.dp; show A.depth + 3 * k + 5 < _; omega, by have := r.un; show A.units + 1 + 1 + 16 * k + 200 < _; omega⟩
theorem each_imp {α β : Type} {R S : α → β → Prop} (h : ∀ a b, R a b → S a b) : ∀ {as : List α} {bs : List β}, EachIs R as bs → EachIs S as bs
  | _, _, .nil => .nil
  | _, _, .cons q t => .cons (h _ _ q) (each_imp h t)
theorem each_reads {X : Cx} {pins : List (Addr × Obj)} {σ : L2.St} {H : Hp} {s : Shared} (I : Inv X pins σ H s) {β : Type} {k : β → PyData} : ∀ {us : List Value} {vs : List V} {bs : List β}, Vals vs us → EachIs (fun x b => Dp X.K H x (k b)) vs bs → EachIs (fun u d => ∃ as, Reads s.heap u d as) us (bs.map k)
  | _, _, _, .nil, .nil => .nil
  | _, _, _, .cons r rr, .cons h t => .cons (Dp.reads I _ _ _ h r) (each_reads I rr t)
mutual
theorem Dp.same {K : PySem.W.Frag} {H H' : Hp} (s : Same H H') : ∀ (d : PyData) (v : V), Dp K H v d → Dp K H' v d
  | .none, _, h => by cases h; exact .non
  | .bool b, _, h => by cases h; exact .bl b
  | .int i, _, h => by cases h; exact .int i
  | .str x, _, h => by cases h; exact .str x
  | .list ds, _, h => by
    cases h with
    | lst hs ha => exact .lst (s.seq hs) (Dp.sameAll s ds _ ha)
  | .tuple ds, _, h => by
    cases h with
    | tup hs ha => exact .tup (Ru.same_tup s hs) (Dp.sameAll s ds _ ha)
  | .dict _, _, h => by cases h
theorem Dp.sameAll {K : PySem.W.Frag} {H H' : Hp} (s : Same H H') : ∀ (ds : List PyData) (vs : List V), DpAll K H vs ds → DpAll K H' vs ds
  | [], _, h => by cases h; exact .nil
  | d :: ds, _, h => by
    cases h with
    | cons h1 h2 => exact .cons (Dp.same s d _ h1) (Dp.sameAll s ds _ h2)
end
theorem each_snocK {β : Type} {R : V → β → Prop} {x : V} {y : β} (hxy : R x y) : ∀ {as : List V} {bs : List β}, EachIs R as bs → EachIs R (as ++ [x]) (bs ++ [y])
  | _, _, .nil => .cons hxy .nil
  | _, _, .cons h t => .cons h (each_snocK hxy t)
def rSortK (f : Addr) (sp : Sp) (K : PySem.W.Frag) : List V → List V → Hp → VK → Prop := fun vs zs H Q => ∃ (a : Addr) (xs : List V) (β : Type) (bs : List β) (k : β → PyData) (R : V → β → Prop), vs = [V.ref a] ∧ zs = [V.ref f] ∧ SqL K H a xs ∧ EachIs R xs bs ∧ Keys (bs.map k) ∧
  (∀ x b H1, Same H H1 → b ∈ bs → R x b → sp [x] H1 (fun v H2 => Same H1 H2 ∧ Dp K H2 v (k b)) (fun _ _ _ => False)) ∧
  ∀ (out : List V) (p : Addr) (G : Hp), EachIs R out (bs.mergeSort (dataLe false k)) → H p = none → G p = some (.lst out) → Same H G → Q (.ref p) G
section
variable {X : Cx} {f : Addr} {fd : FuncData} {ps : List Str} {sp : Sp} {k : Nat}
theorem cr_sortK (F : FnOk X.prog X.w X.K X.mg X.base CX0 k f fd ps sp) (hr : Room (k + 1) X.A) (hb : Binds X.K fd ps []) : CallRK X (.builtin "sorted") [Str.ofString "key"] (rSortK f sp X.K) := by
  intro pins s σ H vs zs us ws Q I r rz h
  obtain ⟨a, xs, β, bs, key, R, rfl, rfl, hs, he, hk, hkey, q⟩ := h
  obtain ⟨its, rv, hl, hz⟩ := I.list hs
  obtain rfl := Vals.ref1 r
  obtain rfl := Vals.ref1 rz
  have hz' : its.length ≤ sizeLine := by rw [← rv.length]; exact hz
  have hbl : its.length = bs.length := by rw [← rv.length, he.length]
  refine sorted_of_sort hl.isList hz' (ksk_s1 _ _) (fun _ => ksk_l1 _ _) fun E' => ?_
  show wpAny _ _ (Builtin.«list.sort» ⟨[.ref (s.heap.objs.size + 1)], [(Str.ofString "key", .ref f)]⟩) _ E' { s with heap := copyHeap s.heap its }
  rw [ksk_t1]
  unfold ksk_tree
  have hcs : (copyHeap s.heap its).objs.size = s.heap.objs.size + 2 := by
    unfold copyHeap
    rw [size_push', Heap.size_update, size_push']
  have ho := copyHeap_at s.heap its
  refine wpAny_bind (listItems_at ho rfl ?_)
  refine wpAny_bind (listUpdate_at ho rfl ?_ (by rw [List.size_toArray]; exact hz') (Nat.zero_le _))
  obtain ⟨e1, ho1⟩ : ∃ e1, ((copyHeap s.heap its).update (s.heap.objs.size + 1) (Obj.mapSeq fun _ => #[])).get? (s.heap.objs.size + 1) = some (seqObj "list" #[] e1) := ⟨_, get?_update_seq ho fun _ => #[]⟩
  refine wpAny_bind (seqEpoch_at ho1 rfl ?_)
  refine wpAny_bind (wpAny_newTuple ?_ (by show its.length ≤ _; exact hz'))
  refine wpAny_bind (wpAny_newList ?_ (Nat.zero_le _))
  refine wpAny_holding ?_
  have hks : (((copyHeap s.heap its).update (s.heap.objs.size + 1) (Obj.mapSeq fun _ => #[])).push (seqObj "tuple" its.toArray 0)).objs.size = s.heap.objs.size + 3 := by
    rw [size_push', Heap.size_update, hcs]
  have hoa : (sortingHeap (copyHeap s.heap its) (s.heap.objs.size + 1) its).get? (s.heap.objs.size + 1) = some (seqObj "list" #[] e1) :=
    Heap.get?_push_of_some _ (Heap.get?_push_of_some _ ho1)
  have hok : (sortingHeap (copyHeap s.heap its) (s.heap.objs.size + 1) its).get? (s.heap.objs.size + 3) = some (seqObj "list" #[] 0) := by
    rw [← hks]
    exact Heap.get?_push_size _ rfl
  show wpAny _ _ (ksk_rest (s.heap.objs.size + 1) (.ref f) false its.toArray e1 (.ref (((copyHeap s.heap its).update (s.heap.objs.size + 1) (Obj.mapSeq fun _ => #[])).push (seqObj "tuple" its.toArray 0)).objs.size)) _ E' { s with heap := sortingHeap (copyHeap s.heap its) (s.heap.objs.size + 1) its }
  rw [hks]
  have hk0 : ∀ b o, s.heap.get? b = some o → (sortingHeap (copyHeap s.heap its) (s.heap.objs.size + 1) its).get? b = some o := fun b o q => sorting_copy_old q
  generalize sortingHeap (copyHeap s.heap its) (s.heap.objs.size + 1) its = g0 at hoa hok hk0
  have old : ∀ b o, s.heap.get? b = some o → b < s.heap.objs.size := fun b o e => Heap.lt_size e
  have nL : @LT.lt Nat _ X.env.locals s.heap.objs.size := I.lt
  have up : ∀ c i : Nat, c < s.heap.objs.size → c ≠ s.heap.objs.size + i := fun c i h => by omega
  have pu : ∀ c i : Nat, c < s.heap.objs.size → s.heap.objs.size + i ≠ c := fun c i h => by omega
  have le0 : ∀ i : Nat, X.s_0.heap.objs.size ≤ s.heap.objs.size + i := fun i => Nat.le_trans I.sz (Nat.le_add_right _ _)
  have n13 : ¬ s.heap.objs.size + 1 = s.heap.objs.size + 3 := by omega
  have n31 : ¬ s.heap.objs.size + 3 = s.heap.objs.size + 1 := by omega
  have nC : ∀ x c, X.env.cells.lookup x = some c → c < s.heap.objs.size := fun x c e => by
    obtain ⟨v, o, ho, _⟩ := I.cell x c e
    exact Heap.lt_size ho
  have nP : ∀ p ∈ X.pn ++ pins, p.1 < s.heap.objs.size := fun p hp => Heap.lt_size (I.pin p hp).1
  have sz := I.sz
  unfold ksk_rest
  refine wpAny_bind (wpAny_rule ?_)
  first
    | rw [List.forIn_toArray]
    | (rw [← Array.forIn_toList]; simp only [List.toList_toArray])
    | rw [← Array.forIn_toList]
  refine wpAny_bind (ksk_fold (fun i s' => ∃ (Hc : Hp) (ks : List V) (kA : Array Value) (e : Nat), Inv X (pins ++ [(s.heap.objs.size + 3, seqObj "list" kA e), (s.heap.objs.size + 1, seqObj "list" #[] e1)]) σ Hc s' ∧ Same H Hc ∧ Vals ks kA.toList ∧
      EachIs (fun x b => Dp X.K Hc x (key b)) ks (bs.take i)) its 0 { s with heap := g0 } ?start ?step ?done)
  case start =>
    have I1 : Inv X pins σ H { s with heap := g0 } := I.kept (t' := s.toks) hk0
    have hf1 := I.hok.fresh (a := s.heap.objs.size + 1) (by omega)
    have hf3 := I.hok.fresh (a := s.heap.objs.size + 3) (by omega)
    refine ⟨H, [], #[], 0, I1.pins_of fun p hp => ?_, Same.refl _, .nil, by rw [List.take_zero]; exact .nil⟩
    rcases List.mem_append.mp hp with hp | hp
    · exact I1.pin p (List.mem_append_right _ hp)
    · rcases List.mem_cons.mp hp with rfl | hp
      · exact ⟨hok, hf3, pu _ 3 nL, I.nofs (by show _ ≤ s.heap.objs.size + 3; omega), fun v => by simp [seqObj]⟩
      · rw [List.mem_singleton.mp hp]
        exact ⟨hoa, hf1, pu _ 1 nL, I.nofs (by show _ ≤ s.heap.objs.size + 1; omega), fun v => by simp [seqObj]⟩
  case step =>
    rintro j u s' hu ⟨Hc, ks, kA, e, I', sm, rk, hke⟩
    simp only [Nat.zero_add] at hke ⊢
    have hj : j < its.length := (List.getElem?_eq_some_iff.mp hu).1
    obtain ⟨b, hbj⟩ : ∃ b, bs[j]? = some b := ⟨_, List.getElem?_eq_getElem (by omega)⟩
    obtain ⟨b', hbj', x, rx, hR⟩ := each_get (each_vals rv he) hu
    obtain rfl : b' = b := by rw [hbj] at hbj'; exact (Option.some.inj hbj').symm
    have hkl : kA.size ≤ its.length := by
      have h1 : ks.length = kA.size := rk.length.trans (by simp)
      have h2 := hke.length
      rw [List.length_take] at h2
      rw [← h1, h2]
      exact Nat.le_trans (Nat.min_le_right _ _) (Nat.le_of_eq hbl.symm)
    have hsp := hkey x b' Hc sm (List.mem_of_getElem? hbj) hR
    have run := F.run X.A.in1.in1 X.stack s' Hc ⟨[u], []⟩ [u] [x] _ _ (room2 hr) I'.env0.in1.in1 (by
      have := hb s' [u] I'.kIn (by have := F.len _ _ _ _ hsp; simpa using this)
      simpa using this) (.cons rx .nil) hsp
    refine wpAny_bind (wpAny_attempt (wpAny_mono (Q := fun v s2 => EP X (pins ++ [(s.heap.objs.size + 3, seqObj "list" kA e), (s.heap.objs.size + 1, seqObj "list" #[] e1)]) σ (fun v H2 => Same Hc H2 ∧ Dp X.K H2 v (key b')) v s2) (E := fun _ _ => False) (wpAny_call (codeAny_mono run fun r s2 hq => ?_)) (fun v s2 he => ?_) fun _ _ hF => hF.elim))
    · cases r with
      | error e => exact hq
      | ok fl =>
        cases fl with
        | ret u => exact I'.after hq
        | next => exact False.elim hq
        | brk => exact False.elim hq
        | cont => exact False.elim hq
    · obtain ⟨kv, H2, I2, rkv, sm2, hd⟩ := he
      have pk := I2.pin (s.heap.objs.size + 3, seqObj "list" kA e) (List.mem_append_right _ (List.mem_append_right _ (.head _)))
      have pa := I2.pin (s.heap.objs.size + 1, seqObj "list" #[] e1) (List.mem_append_right _ (List.mem_append_right _ (.tail _ (.head _))))
      have s1 := Heap.SameBut.update s2.heap (s.heap.objs.size + 3) (Obj.mapSeq (·.push v))
      obtain ⟨c2, hc2⟩ : ∃ c2, (s2.heap.update (s.heap.objs.size + 3) (Obj.mapSeq (·.push v))).get? (s.heap.objs.size + 3) = some (seqObj "list" (kA.push v) c2) := ⟨_, get?_update_seq pk.1 (·.push v)⟩
      have I3 : Inv X pins σ H2 s2 := I2.pins_of fun p hp => I2.pin p (List.mem_append_right _ (List.mem_append_left _ hp))
      have I4 : Inv X pins σ H2 { s2 with heap := s2.heap.update (s.heap.objs.size + 3) (Obj.mapSeq (·.push v)), toks := s2.toks } := I3.turned (it := s.heap.objs.size + 3) (fun b o n q => (s1.2 b n).trans q) pk.2.1 pk.2.2.1 (.inr (le0 3)) (fun x c q => up _ 3 (nC x c q)) fun p hp => up _ 3 (nP p hp)
      try dsimp only
      refine wpAny_bind (listUpdate_at pk.1 rfl ?_ (Nat.le_trans hkl hz') (Nat.le_trans (Nat.le_of_eq (Array.size_push ..)) (Nat.succ_le_succ (Nat.le_trans hkl hz'))))
      refine wpAny_pure ⟨rfl, H2, ks ++ [kv], kA.push v, c2, I4.pins_of fun p hp => ?_, sm.trans sm2, ?_, ?_⟩
      · rcases List.mem_append.mp hp with hp | hp
        · exact I4.pin p (List.mem_append_right _ hp)
        · rcases List.mem_cons.mp hp with rfl | hp
          · exact ⟨hc2, pk.2.1, pk.2.2.1, pk.2.2.2.1, fun v => by simp [seqObj]⟩
          · rw [List.mem_singleton.mp hp]
            exact ⟨(s1.2 _ n13).trans pa.1, pa.2⟩
      · rw [Array.toList_push]
        exact rk.append (.cons rkv .nil)
      · have ek : bs.take (j + 1) = bs.take j ++ [b'] := by rw [List.take_add_one, hbj]; simp
        rw [ek]
        exact each_snocK (R := fun x b => Dp X.K H2 x (key b)) hd (each_imp (R := fun x b => Dp X.K Hc x (key b)) (fun x b q => Dp.same sm2 _ _ q) hke)
  case done =>
    rintro s' ⟨Hc, ks, kA, e, I', sm, rk, hke⟩
    have hke' : EachIs (fun x b => Dp X.K Hc x (key b)) ks bs := by
      have e3 : bs.take (0 + its.length) = bs := List.take_of_length_le (by omega)
      rw [e3] at hke
      exact hke
    have pk := I'.pin (s.heap.objs.size + 3, seqObj "list" kA e) (List.mem_append_right _ (List.mem_append_right _ (.head _)))
    have pa := I'.pin (s.heap.objs.size + 1, seqObj "list" #[] e1) (List.mem_append_right _ (List.mem_append_right _ (.tail _ (.head _))))
    have hsz : kA.size = its.length := by
      have h1 : ks.length = kA.size := rk.length.trans (by simp)
      have h2 := hke'.length
      exact h1.symm.trans (h2.trans hbl.symm)
    have rd := each_reads I' rk hke'
    try dsimp only
    refine wpAny_bind (listItems_at pk.1 rfl ?_)
    have SA : SortsAt X.prog X.w X.A.in1.in1 s' (dataKind s'.heap (bs.map key)) kA.toList := SortsAt.data rd hk.al hk.so fun d hd => by
      have h1 := hk.dp d hd
      have h2 := hr.un
      simp only [units_in1]
      omega
    obtain ⟨m, Fr0⟩ := I'.fr
    have hiB : ∀ i : Nat, X.base.get? (s.heap.objs.size + i) = none := fun i => by
      cases q : X.base.get? (s.heap.objs.size + i) with
      | none => rfl
      | some o =>
        exact absurd (Nat.lt_of_le_of_lt (Nat.le_add_right _ _) (Heap.lt_size (I.bk _ o q))) (Nat.lt_irrefl _)
    let rs := (allNews X.base s'.heap X.env.locals).filter fun p => decide (p.1 ≠ s.heap.objs.size + 3 ∧ p.1 ≠ s.heap.objs.size + 1)
    have hrs : ∀ p ∈ rs, p.1 ≠ s.heap.objs.size + 3 ∧ p.1 ≠ s.heap.objs.size + 1 := fun p hp => of_decide_eq_true (List.mem_filter.mp hp).2
    have N0 : News X.base X.env.locals s'.heap (rs ++ [(s.heap.objs.size + 3, seqObj "list" kA e), (s.heap.objs.size + 1, seqObj "list" #[] e1)]) := fun p hp => by
      rcases List.mem_append.mp hp with hp | hp
      · exact news_all p (List.mem_filter.mp hp).1
      · rcases List.mem_cons.mp hp with rfl | hp
        · exact ⟨pk.1, pk.2.2.1, hiB 3⟩
        · rw [List.mem_singleton.mp hp]
          exact ⟨pa.1, pa.2.2.1, hiB 1⟩
    refine key_end (κ := dataKind s'.heap (bs.map key)) Fr0 N0 n31 (fun p hp => (hrs p hp).1) (fun p hp => (hrs p hp).2) SA hsz hz' fun h' tk ep F' N' => ⟨rfl, ?_⟩
    have kp : ∀ c o, c ≠ X.env.locals → c ≠ s.heap.objs.size + 3 → c ≠ s.heap.objs.size + 1 → s'.heap.get? c = some o → h'.get? c = some o := fun c o n0 n1 n2 q => by
      cases z : X.base.get? c with
      | some u =>
        have := I'.bk c u z
        rw [q] at this
        cases this
        exact F'.keep c _ z
      | none => exact (N' (c, o) (List.mem_cons_of_mem _ (List.mem_filter.mpr ⟨mem_allNews n0 z q, decide_eq_true ⟨n1, n2⟩⟩))).1
    have ha' := (N' _ List.mem_cons_self).1
    have out := sortVals_each (κ := dataKind s'.heap (bs.map key)) (rev := false) (fun b => keyToks (key b)) (each_vals rv he) (each_of_map key (each_keys hk.al rd))
    obtain ⟨ys, ry, hy⟩ := vals_each out
    have hlen : ys.length ≤ sizeLine := by
      rw [ry.length, sortVals_length false (by rw [Array.length_toList]; exact hsz)]
      exact hz'
    have I3 : Inv X pins σ Hc s' := I'.pins_of fun p hp => I'.pin p (List.mem_append_right _ (List.mem_append_left _ hp))
    have fin : Inv X pins σ (upd Hc (s.heap.objs.size + 1) (.lst ys)) { s' with heap := h', gens := s'.gens, drawn := s'.drawn, toks := tk } := by
      have hna : Hc (s.heap.objs.size + 1) = none := pa.2.1
      have hnk : Hc (s.heap.objs.size + 3) = none := pk.2.1
      refine I3.step (ch := [s.heap.objs.size + 3, s.heap.objs.size + 1]) (fun b hb => ?_) (fun b o nl _ hc q _ => kp b o nl (fun z => hc (by simp [z])) (fun z => hc (by simp [z])) q) (fun b o nl _ hc q _ => ⟨o.slots, kp b o nl (fun z => hc (by simp [z])) (fun z => hc (by simp [z])) q⟩)
        (fun b o hc q n => ?_) (fun b o hc q => ?_) (fun b xs q => by rw [upd_ne (ne_of_none q hna)]; exact q) (fun b o u q => by rw [upd_ne (ne_of_none q hna)]; exact q) (fun b ps q => ⟨#[], by rw [upd_ne (ne_of_none q hna), q]; simp⟩) (fun m hm => ?_) (fun b u q => ?_) I3.bare
      · have : b = s.heap.objs.size + 3 ∨ b = s.heap.objs.size + 1 := by simpa using hb
        rcases this with rfl | rfl
        · exact ⟨.inr (le0 3), pu _ 3 nL, fun x c q => up _ 3 (nC x c q), fun p hp => up _ 3 (nP p hp)⟩
        · exact ⟨.inr (le0 1), pu _ 1 nL, fun x c q => up _ 1 (nC x c q), fun p hp => up _ 1 (nP p hp)⟩
      · rw [upd_ne (fun z => hc (by simp [z]))]
        exact n
      · by_cases hbl : b = X.env.locals
        · obtain ⟨o', _, _, ho', _⟩ := F'.ns
          exact ⟨o', by rw [hbl]; exact ho'⟩
        · exact ⟨o, kp b o hbl (fun z => hc (by simp [z])) (fun z => hc (by simp [z])) q⟩
      · rw [nsOne hm Fr0.ns]
        exact F'.ns
      · by_cases hba : b = s.heap.objs.size + 1
        · subst hba
          rw [upd_same] at q
          cases q
          exact ⟨hlen, _, ep, ry, ha'⟩
        · rw [upd_ne hba] at q
          refine (I3.hok b u q).stay (fun c v hc r => kp c v ?_ ?_ ?_ r) (fun c r => by rw [upd_ne (ne_of_none r hna)]; exact r) fun c xs r => by rw [upd_ne (ne_of_none r hna)]; exact r
          · rcases hc with z | z
            · rw [z]; exact ne_of_none q I3.free
            · exact ne_of_none z I3.free
          · rcases hc with z | z
            · rw [z]; exact ne_of_none q hnk
            · exact ne_of_none z hnk
          · rcases hc with z | z
            · rw [z]; exact hba
            · exact ne_of_none z hna
    exact ⟨.ref _, _, fin, rfl, q ys _ _ hy (I.hok.fresh (by omega)) upd_same fun b o z => by rw [upd_ne (ne_of_none (sm b o z) pa.2.1)]; exact sm b o z⟩
end
end Rs

/-! Further readings: zip of tuples, comprehensions that make dicts, locks, sorting. -/
namespace Rw
open PySem PySem.Spec PyProof.Rows L2 Rd
variable {X : Cx} {D : Ends} {σ : L2.St} {H : Hp} {K : PySem.W.Frag}
theorem walk_zipT {a b : Addr} {xs ys : List V} {n : Nat} (hn : n = min xs.length ys.length) : Walk (RZ.ItzT K a b) n (fun H => SqT K H a xs ∧ SqT K H b ys) (YPair (fun i => xs[i]?) (fun i => ys[i]?)) := by
  subst hn
  refine ⟨fun i H hi q => ⟨xs, ys, xs[i]'(by omega), ys[i]'(by omega), q.1, q.2, List.getElem?_eq_getElem _, List.getElem?_eq_getElem _⟩, fun H q => ⟨xs, ys, q.1, q.2, by omega⟩, ?_⟩
  rintro i H v H' _ q ⟨T, x, y, h1, h2, h3, h4, h5⟩
  exact ⟨T, x, y, h1, h2, h3, h4 xs q.1, h5 ys q.2⟩
theorem zipH {ta : TA} {R : It → Hp → Prop} (h : ta σ H fun vs H1 => ∃ a b xs ys, vs = [.ref a, .ref b] ∧ ((SqL K H1 a xs ∧ SqL K H1 b ys ∧ R (Itz K a b) H1) ∨ (SqT K H1 a xs ∧ SqT K H1 b ys ∧ R (RZ.ItzT K a b) H1))) : RZ.iZipA K ta σ H R := h
theorem zipT {a b : Addr} {xs ys : List V} {P Q : Addr → Addr → Prop} (h1 : SqT K H a xs) (h2 : SqT K H b ys) (h : Q a b) : ∃ a' b' xs ys, [V.ref a, V.ref b] = [.ref a', .ref b'] ∧ ((SqL K H a' xs ∧ SqL K H b' ys ∧ P a' b') ∨ (SqT K H a' xs ∧ SqT K H b' ys ∧ Q a' b')) :=
  ⟨a, b, xs, ys, rfl, .inr ⟨h1, h2, h⟩⟩
theorem slT {a : Addr} {xs : List V} {lo hi : Option Int} {Q : VK} (hp : SqT K H a xs) (hw : ¬ (HT.sIx xs.length 0 lo = 0 ∧ HT.sIx xs.length xs.length hi = xs.length)) (h : NewQ (.tup (cutV xs lo hi)) Q H) : rSlT K (.ref a) lo hi H Q := ⟨a, xs, rfl, hp, hw, h⟩
theorem sl1 {a : Addr} {xs : List V} {Q : VK} (hp : SqT K H a xs) (n0 : xs ≠ []) (h : NewQ (.tup xs.tail) Q H) : rSlT K (.ref a) (some 1) none H Q := by
  have l : 1 ≤ xs.length := Nat.one_le_iff_ne_zero.mpr fun e => n0 (List.eq_nil_of_length_eq_zero e)
  have e1 : HT.sIx xs.length 0 (some ((1 : Nat) : Int)) = 1 := by rw [HT.sIx_nat]; omega
  refine slT hp (fun ⟨e, _⟩ => ?_) ?_
  · have e' : HT.sIx xs.length 0 (some ((1 : Nat) : Int)) = 0 := e
    omega
  · have e : cutV xs (some 1) none = xs.tail := by
      show (xs.drop (HT.sIx xs.length 0 (some ((1 : Nat) : Int)))).take (xs.length - HT.sIx xs.length 0 (some ((1 : Nat) : Int))) = xs.tail
      rw [e1, List.drop_one]
      exact List.take_of_length_le (by rw [List.length_tail]; exact Nat.le_refl _)
    rw [e]
    exact h
/-! ### locks -/
def LkE (t : TE) (d : Addr) (u : HO) (σ : L2.St) (H : Hp) (Q : VK) : Prop := ∀ od, t σ (upd H d (.frz od u)) fun v H' => H' d = some (.frz od u) ∧ Q v (upd H' d u)
theorem lockE {t : TE} {d : Addr} {u : HO} {Q : VK} (e : H d = some u) (m : Mut (some u)) (h : ∀ (od : Obj) (G : Hp), G d = some (.frz od u) → (∀ b, b ≠ d → G b = H b) → t σ G fun v H' => H' d = some (.frz od u) ∧ Q v (upd H' d u)) : tLockE t σ H Q :=
  ⟨d, u, e, m, fun od => h od _ upd_same fun b hb => upd_ne hb⟩
theorem itemsH {td : TE} {R : It → Hp → Prop} (h : td σ H fun x H1 => ∃ d o kvs, x = .ref d ∧ H1 d = some (.frz o (.dK kvs)) ∧ R (Iti d o kvs) H1) : iItems td σ H R := h
theorem itemsX {d : Addr} {od : Obj} {kvs : List (Key × V)} {P : Addr → Obj → List (Key × V) → Prop} (e : H d = some (.frz od (.dK kvs))) (h : P d od kvs) : ∃ d' o kvs, V.ref d = .ref d' ∧ H d' = some (.frz o (.dK kvs)) ∧ P d' o kvs := ⟨d, od, kvs, rfl, e, h⟩
theorem keysH {td : TE} {R : It → Hp → Prop} (h : td σ H fun x H1 => ∃ d o, x = .ref d ∧ ((∃ kvs, H1 d = some (.frz o (.dK kvs)) ∧ R (Itk d o kvs) H1) ∨ ∃ kvs, H1 d = some (.frz o (.dT kvs)) ∧ R (Itkt d o kvs) H1)) : iKeys td σ H R := h
theorem keysX {d : Addr} {od : Obj} {kvs : List (Key × V)} {P : Addr → Obj → List (Key × V) → Prop} {P' : Addr → Obj → List (List Key × V) → Prop} (e : H d = some (.frz od (.dK kvs))) (h : P d od kvs) : ∃ d' o, V.ref d = .ref d' ∧ ((∃ kvs, H d' = some (.frz o (.dK kvs)) ∧ P d' o kvs) ∨ ∃ kvs, H d' = some (.frz o (.dT kvs)) ∧ P' d' o kvs) := ⟨d, od, rfl, .inl ⟨kvs, e, h⟩⟩
/-! ### dict comprehensions -/
section
variable {X : Cx}
theorem ps_setDc {i : Nat} {y : Str} {py : Pos} {kx vx tg iter : Expr} {ifs : List Expr} {scope : Scope} {own : List (Str × Nat)} {pos spos : Pos} {wi : TI} {g : TG} {tt : TT} {tk tv : TE} (hc : X.calm = true) (hN : X.N.Nodup) (hy : X.N[i]? = some y) (hyl : X.env.scope.names.lookup y = some .local)
    (hsw : swapsWith (.DictComp kx vx [⟨tg, iter, ifs, 0⟩] scope pos) (some (.Name y py)) spos.line X.env = pure true) (hi : PI X tg iter wi) (ok : BlkOk X.N X.env.scope scope own)
    (hg : ∀ (s : Shared) (H : Hp) (C : Addr) (cl : List (Str × Addr)) (fp : List Addr), PG (X.blk s H scope (compEnvC scope cl C X.env) fp) tg g)
    (ht : ∀ (s : Shared) (H : Hp) (C : Addr) (cl : List (Str × Addr)) (fp : List Addr), PTs (X.blk s H scope (compEnvC scope cl C X.env) fp) ifs tt)
    (hk : ∀ (s : Shared) (H : Hp) (C : Addr) (cl : List (Str × Addr)) (fp : List Addr), PE (X.blk s H scope (compEnvC scope cl C X.env) fp) kx tk)
    (he : ∀ (s : Shared) (H : Hp) (C : Addr) (cl : List (Str × Addr)) (fp : List Addr), PE (X.blk s H scope (compEnvC scope cl C X.env) fp) vx tv) (hs : ∀ x, foldedSetIterable iter X.env x = pure x := by intro _; rfl) :
    PS X (.Assign [.Name y py] (.DictComp kx vx [⟨tg, iter, ifs, 0⟩] scope pos) spos) (tAsg (tDc wi g tt tk tv (own.map (·.2))) (gName i)) := by
  refine ⟨fun pins s σ H D I h => ?_⟩
  have h' : tDc wi g tt tk tv (own.map (·.2)) σ H (fun x H1 => gName i x σ H1 D.nx) := h
  rw [exec_Assign_Name_used _ _ _ _ hsw]
  refine wpAny_bind (wpAny_standAt (wpAny_bind ?_))
  show wpAny _ _ (comprehension (.DictComp kx vx [⟨tg, iter, ifs, 0⟩] scope pos) scope X.env (firstIterPos [⟨tg, iter, ifs, 0⟩] pos) newDict false (eval iter X.env) (some (assign (.Name y py) X.env)) >>= fun _ => pure ()) _ _ s
  refine wpAny_bind (thn (dc_core (use := some (assign (.Name y py) X.env)) (Qf := fun _ s' => SP X pins D .next s') hc hN I hi ok hg ht hk he hs h' fun L C s1 m H1 I1 q hn f => ?_) fun _ s2 hq => wpAny_pure (wpAny_pure hq))
  refine (wpAny_assign_Name (store_ok2 (v := V.ref L) I1 hN hy (.inl hyl) rfl (fun s2 I2 w => ?_) (.inr hyl)) : wpAny _ _ (assign (.Name y py) X.env (.ref L)) _ _ _)
  obtain ⟨b, sb, hb⟩ := w
  obtain ⟨f0, f1, f2, f3, f4, f5⟩ := f
  have ne : C ≠ b := hb.elim (fun z => z ▸ f1) fun z e => f4 y b z e.symm
  exact ⟨m, hn.sameBut sb ne, fun h3 sb3 => ⟨_, H1, I2.turned (t' := s2.toks) (fun c o n e => (sb3.2 c n).trans e) f0 f1 f3 f4 f5, q⟩⟩
theorem sw_dc {kx vx : Expr} {gs : List Comprehension} {scope : Scope} {pos py : Pos} {y : Str} {l : Nat} {env : Env} (hk : env.scope.kind = .function) (hy : env.scope.names.lookup y = some .local) (hl : (py.line == pos.line) = true)
    (ha : (scope.names.any fun (n, k) => n == y && (k == .local || k == .cell)) = false) : swapsWith (.DictComp kx vx gs scope pos) (some (.Name y py)) l env = pure true := by
  have k1 : env.kindOf y = some .local := hy
  have k2 : env.blockKind = .function := by unfold Env.blockKind; rw [hk]; rfl
  unfold swapsWith
  simp only [k2, k1, ha, Expr.pos, hl]
  rfl
end
def Dc (J : It) (g : TG) (tt : TT) (tk tv : TE) (vs : List Nat) (σ : L2.St) (H1 : Hp) (Q : VK) : Prop := ∀ D, H1 D = none → ∃ W : Nat → Nat → Hp → Prop, (∃ m, W 0 m (upd H1 D (.dK []))) ∧ ∀ i m H, W i m H →
  (J.stop i H ∧ Q (.ref D) H) ∨ (J.go i H ∧ ∃ Nx : Hp → Prop, (∀ H', Nx H' → ∃ m', m' < m ∧ W (i + 1) m' H') ∧ ∀ x H', J.yld i H x H' → g x (wipe σ vs) H' fun σ2 H2 => wipe σ2 vs = wipe σ vs ∧ tt σ2 H2 fun b H3 =>
    if b = true then tk σ2 H3 fun y H4 => tv σ2 H4 fun z H5 => ∃ kvs k, y = kV k ∧ H5 D = some (.dK kvs) ∧ kvs.length < sizeLine ∧ Nx (upd H5 D (.dK (putK kvs k z))) else Nx H3)
theorem dc {wi : TI} {g : TG} {tt : TT} {tk tv : TE} {vs : List Nat} {Q : VK} (h : wi σ H fun J H1 => Dc J g tt tk tv vs σ H1 Q) : tDc wi g tt tk tv vs σ H Q := h
def DcPut (D : Addr) (H1 : Hp) (R : Nat → List (Key × V) → Hp → Prop) (i : Nat) (y z : V) (H5 : Hp) : Prop := ∃ kvs k, y = kV k ∧ H5 D = some (.dK kvs) ∧ kvs.length < sizeLine ∧ ∃ kvs', upd H5 D (.dK (putK kvs k z)) D = some (.dK kvs') ∧ Same H1 (upd H5 D (.dK (putK kvs k z))) ∧ R (i + 1) kvs' (upd H5 D (.dK (putK kvs k z)))
def DcNo (D : Addr) (H1 : Hp) (R : Nat → List (Key × V) → Hp → Prop) (i : Nat) (H3 : Hp) : Prop := ∃ kvs', H3 D = some (.dK kvs') ∧ Same H1 H3 ∧ R (i + 1) kvs' H3
theorem dcPut {D : Addr} {H1 H5 : Hp} {R : Nat → List (Key × V) → Hp → Prop} {i : Nat} {k : Key} {z : V} {kvs : List (Key × V)} (hD : H5 D = some (.dK kvs)) (nD : H1 D = none) (s : Same H1 H5) (hz : kvs.length < sizeLine) (r : ∀ G : Hp, G D = some (.dK (putK kvs k z)) → (∀ b, b ≠ D → G b = H5 b) → R (i + 1) (putK kvs k z) G) : DcPut D H1 R i (kV k) z H5 :=
  ⟨kvs, k, rfl, hD, hz, _, upd_same, fun b o e => by rw [upd_ne (ne_of_none e nD)]; exact s b o e, r _ upd_same fun b hb => upd_ne hb⟩
theorem dcS {J : It} {n : Nat} {G : Hp → Prop} {Y : Nat → Hp → V → Hp → Prop} (w : Walk J n G Y) {g : TG} {tt : TT} {tk tv : TE} {vs : List Nat} {H1 : Hp} {Q : VK} (hG : ∀ H, Same H1 H → G H) (R : Addr → Nat → List (Key × V) → Hp → Prop)
    (r0 : ∀ (D : Addr) (G : Hp), H1 D = none → G D = some (.dK []) → Same H1 G → R D 0 [] G)
    (hs : ∀ (D : Addr) i x H H' kvs, H1 D = none → i < n → H D = some (.dK kvs) → Same H1 H → R D i kvs H → Y i H x H' → g x (wipe σ vs) H' fun σ2 H2 => wipe σ2 vs = wipe σ vs ∧ tt σ2 H2 fun b H3 =>
      if b = true then tk σ2 H3 fun y H4 => tv σ2 H4 fun z H5 => DcPut D H1 (R D) i y z H5 else DcNo D H1 (R D) i H3)
    (hd : ∀ (D : Addr) kvs H, H1 D = none → H D = some (.dK kvs) → Same H1 H → R D n kvs H → Q (.ref D) H) : Dc J g tt tk tv vs σ H1 Q := fun D nD => by
  refine ⟨fun i m H => m = n - i ∧ i ≤ n ∧ ∃ kvs, H D = some (.dK kvs) ∧ Same H1 H ∧ R D i kvs H, ⟨n, by simp, Nat.zero_le _, [], upd_same, same_upd nD, r0 D _ nD upd_same (same_upd nD)⟩, ?_⟩
  rintro i m H ⟨rfl, hi, kvs, h1, h2, h3⟩
  have q := hG H h2
  by_cases hlt : i < n
  · refine .inr ⟨w.goes i H hlt q, fun H => ∃ kvs, H D = some (.dK kvs) ∧ Same H1 H ∧ R D (i + 1) kvs H, fun H' p' => ⟨n - (i + 1), by omega, rfl, hlt, p'⟩, fun x H' y => ?_⟩
    exact hs D i x H H' kvs nD hlt h1 h2 h3 (w.yields i H x H' hlt q y)
  · have e : i = n := by omega
    subst e
    exact .inl ⟨w.stops H q, hd D kvs H nD h1 h2 h3⟩
/-! ### sorted -/
theorem sortD {β : Type} {a : Addr} {xs : List V} {bs : List β} {Q : VK} (k : β → PyData) (R : V → β → Prop) (hs : SqL K H a xs) (he : PySem.W.EachIs (fun x b => Dp K H x (k b) ∧ R x b) xs bs) (hk : Rs.Keys (bs.map k))
    (h : ∀ (out : List V) (p : Addr) (G : Hp), PySem.W.EachIs (fun x b => Dp K H x (k b) ∧ R x b) out (bs.mergeSort (PySem.W.dataLe false k)) → H p = none → G p = some (.lst out) → Same H G → Q (.ref p) G) : Rs.rSortD K [.ref a] H Q :=
  ⟨a, xs, β, bs, k, R, rfl, hs, he, hk, h⟩
def SortK (f : Addr) (sp : Sp) (K : PySem.W.Frag) (vs zs : List V) (H : Hp) (Q : VK) : Prop := Rs.rSortK f sp K vs zs H Q
theorem ckw {r : List V → List V → Hp → VK → Prop} {t tk : TA} {Q : VK} (h : t σ H fun vs H1 => tk σ H1 fun zs H2 => r vs zs H2 Q) : tCKw r t tk σ H Q := h
theorem sortK {β : Type} {f : Addr} {sp : Sp} {a : Addr} {xs : List V} {bs : List β} {Q : VK} (k : β → PyData) (R : V → β → Prop) (hs : SqL K H a xs) (he : PySem.W.EachIs R xs bs) (hk : Rs.Keys (bs.map k))
    (hf : ∀ x b H1, Same H H1 → b ∈ bs → R x b → sp [x] H1 (fun v H2 => Same H1 H2 ∧ Dp K H2 v (k b)) (fun _ _ _ => False))
    (h : ∀ (out : List V) (p : Addr) (G : Hp), PySem.W.EachIs R out (bs.mergeSort (PySem.W.dataLe false k)) → H p = none → G p = some (.lst out) → Same H G → Q (.ref p) G) : Rs.rSortK f sp K [.ref a] [.ref f] H Q :=
  ⟨a, xs, β, bs, k, R, rfl, rfl, hs, he, hk, hf, h⟩
def DClr : V → List V → Hp → VK → Prop := rDClear
theorem clr {a : Addr} {kvs : List (Key × V)} {Q : VK} (e : H a = some (.dK kvs)) (h : ∀ G : Hp, G a = some (.dK []) → (∀ b, b ≠ a → G b = H b) → Q .non G) : rDClear (.ref a) [] H Q := ⟨a, kvs, rfl, rfl, e, h _ upd_same fun b hb => upd_ne hb⟩
end Rw
namespace Rd
open PySem PySem.Spec PyProof.Rows L2
variable {σ : L2.St} {H : Hp} {K : PySem.W.Frag}
theorem notT {ta : TE} {Q : VK} (h : ta σ H fun x H1 => ∃ k, TruV K x H1 k ∧ Q (.bl (!k)) H1) : tNotT K ta σ H Q := h
theorem yes {c A B : Prop} {i : Decidable c} (h : c) (a : A) : @ite Prop c i A B := by rw [if_pos h]; exact a
theorem no {c A B : Prop} {i : Decidable c} (h : ¬ c) (a : B) : @ite Prop c i A B := by rw [if_neg h]; exact a
theorem ifX {x : V} {i : Decidable (x = V.non)} {A B : Prop} (n : x ≠ .non) (h : B) : @ite Prop (x = V.non) i A B := by rw [if_neg n]; exact h
theorem ifR {a : Addr} {i : Decidable (V.ref a = V.non)} {A B : Prop} (h : B) : @ite Prop (V.ref a = V.non) i A B := ifX (by intro e; cases e) h
theorem ifI {a : Int} {i : Decidable (V.int a = V.non)} {A B : Prop} (h : B) : @ite Prop (V.int a = V.non) i A B := ifX (by intro e; cases e) h
theorem ifT {a : Str} {i : Decidable (V.str a = V.non)} {A B : Prop} (h : B) : @ite Prop (V.str a = V.non) i A B := ifX (by intro e; cases e) h
theorem ifN {i : Decidable (V.non = V.non)} {A B : Prop} (h : A) : @ite Prop (V.non = V.non) i A B := by rw [if_pos rfl]; exact h
theorem orTH {ta tb : TE} {Q : VK} (h : ta σ H fun x H1 => ∃ k, TruV K x H1 k ∧ if k = true then Q x H1 else tb σ H1 Q) : tOrT K ta tb σ H Q := h
end Rd

/-! Things of any kind, one level deep; exceptions of the program: made, raised, caught, asked. -/
namespace Rx
open PySem PySem.Spec PyProof.Rows L2 Rd
variable {X : Cx} {D : Ends} {σ : L2.St} {H H' : Hp} {K : PySem.W.Frag}
/-! ### kinds -/
inductive Kd where
  | non | bl (b : Bool) | int (i : Int) | str (z : Str) | lst (xs : List V) | tup (xs : List V) | dct
def Kd.ty : Kd → String
  | .non => "NoneType" | .bl _ => "bool" | .int _ => "int" | .str _ => "str" | .lst _ => "list" | .tup _ => "tuple" | .dct => "dict"
/-- what stands at a value -/
inductive Is (H : Hp) : V → Kd → Prop where
  | non : Is H .non .non
  | bl (b : Bool) : Is H (.bl b) (.bl b)
  | int (i : Int) : Is H (.int i) (.int i)
  | str {z : Str} (l : z.length ≤ 1000000) : Is H (.str z) (.str z)
  | lst {a : Addr} {xs : List V} (h : H a = some (.lst xs)) (l : xs.length ≤ 1000000) : Is H (.ref a) (.lst xs)
  | tup {a : Addr} {xs : List V} (h : H a = some (.tup xs)) (l : xs.length ≤ 1000000) : Is H (.ref a) (.tup xs)
  | dct {a : Addr} {kvs : List (Key × V)} (h : H a = some (.dK kvs)) : Is H (.ref a) .dct
theorem Is.same {x : V} {k : Kd} (s : Same H H') (h : Is H x k) : Is H' x k := by
  cases h with
  | non => exact .non
  | bl b => exact .bl b
  | int i => exact .int i
  | str l => exact .str l
  | lst h l => exact .lst (s _ _ h) l
  | tup h l => exact .tup (s _ _ h) l
  | dct h => exact .dct (s _ _ h)
theorem Is.inj {x : V} {k k' : Kd} (h : Is H x k) (h' : Is H x k') : k = k' := by
  cases h <;> cases h' <;> first | rfl | (rename_i a b c d; first | (rw [a] at c; cases c; rfl) | (rw [a] at c; cases c) | (rw [a] at d; cases d) | skip) <;> simp_all
theorem Is.ty {x : V} {k : Kd} (h : Is H x k) : TyX K H x (.type k.ty) := by
  cases h with
  | non => exact .base .non
  | bl b => exact .base (.bl b)
  | int i => exact .base (.int i)
  | str l => exact .base (.str _)
  | lst h l => exact .base (.lst h)
  | tup h l => exact .base (.tup h)
  | dct h => exact .base (.dK h)
def Kd.isInt : Kd → Bool | .int _ => true | .bl _ => true | _ => false
def Kd.isBl : Kd → Bool | .bl _ => true | _ => false
def Kd.isStr : Kd → Bool | .str _ => true | _ => false
def Kd.isLst : Kd → Bool | .lst _ => true | _ => false
def Kd.isTup : Kd → Bool | .tup _ => true | _ => false
def Kd.isDct : Kd → Bool | .dct => true | _ => false
def Kd.isSeq : Kd → Bool | .lst _ => true | .tup _ => true | _ => false
/-- an integer and no flag -/
def Kd.isNum : Kd → Bool | .int _ => true | _ => false
theorem kdInt : ∀ k : Kd, kitB k.ty "int" = some k.isInt
  | .non => (by decide +kernel : kitB "NoneType" "int" = some false)
  | .bl _ => (by decide +kernel : kitB "bool" "int" = some true)
  | .int _ => (by decide +kernel : kitB "int" "int" = some true)
  | .str _ => (by decide +kernel : kitB "str" "int" = some false)
  | .lst _ => (by decide +kernel : kitB "list" "int" = some false)
  | .tup _ => (by decide +kernel : kitB "tuple" "int" = some false)
  | .dct => (by decide +kernel : kitB "dict" "int" = some false)
theorem kdBl : ∀ k : Kd, kitB k.ty "bool" = some k.isBl
  | .non => (by decide +kernel : kitB "NoneType" "bool" = some false)
  | .bl _ => (by decide +kernel : kitB "bool" "bool" = some true)
  | .int _ => (by decide +kernel : kitB "int" "bool" = some false)
  | .str _ => (by decide +kernel : kitB "str" "bool" = some false)
  | .lst _ => (by decide +kernel : kitB "list" "bool" = some false)
  | .tup _ => (by decide +kernel : kitB "tuple" "bool" = some false)
  | .dct => (by decide +kernel : kitB "dict" "bool" = some false)
theorem kdStr : ∀ k : Kd, kitB k.ty "str" = some k.isStr
  | .non => (by decide +kernel : kitB "NoneType" "str" = some false)
  | .bl _ => (by decide +kernel : kitB "bool" "str" = some false)
  | .int _ => (by decide +kernel : kitB "int" "str" = some false)
  | .str _ => (by decide +kernel : kitB "str" "str" = some true)
  | .lst _ => (by decide +kernel : kitB "list" "str" = some false)
  | .tup _ => (by decide +kernel : kitB "tuple" "str" = some false)
  | .dct => (by decide +kernel : kitB "dict" "str" = some false)
theorem kdLst : ∀ k : Kd, kitB k.ty "list" = some k.isLst
  | .non => (by decide +kernel : kitB "NoneType" "list" = some false)
  | .bl _ => (by decide +kernel : kitB "bool" "list" = some false)
  | .int _ => (by decide +kernel : kitB "int" "list" = some false)
  | .str _ => (by decide +kernel : kitB "str" "list" = some false)
  | .lst _ => (by decide +kernel : kitB "list" "list" = some true)
  | .tup _ => (by decide +kernel : kitB "tuple" "list" = some false)
  | .dct => (by decide +kernel : kitB "dict" "list" = some false)
theorem kdTup : ∀ k : Kd, kitB k.ty "tuple" = some k.isTup
  | .non => (by decide +kernel : kitB "NoneType" "tuple" = some false)
  | .bl _ => (by decide +kernel : kitB "bool" "tuple" = some false)
  | .int _ => (by decide +kernel : kitB "int" "tuple" = some false)
  | .str _ => (by decide +kernel : kitB "str" "tuple" = some false)
  | .lst _ => (by decide +kernel : kitB "list" "tuple" = some false)
  | .tup _ => (by decide +kernel : kitB "tuple" "tuple" = some true)
  | .dct => (by decide +kernel : kitB "dict" "tuple" = some false)
theorem kdDct : ∀ k : Kd, kitB k.ty "dict" = some k.isDct
  | .non => (by decide +kernel : kitB "NoneType" "dict" = some false)
  | .bl _ => (by decide +kernel : kitB "bool" "dict" = some false)
  | .int _ => (by decide +kernel : kitB "int" "dict" = some false)
  | .str _ => (by decide +kernel : kitB "str" "dict" = some false)
  | .lst _ => (by decide +kernel : kitB "list" "dict" = some false)
  | .tup _ => (by decide +kernel : kitB "tuple" "dict" = some false)
  | .dct => (by decide +kernel : kitB "dict" "dict" = some true)
theorem askInt {x : V} {k : Kd} {Q : VK} (h : Is H x k) (q : Q (.bl k.isInt) H) : rIsi K [x, .ty "int"] H Q := Rd.isi h.ty (kdInt k) q
theorem askBl {x : V} {k : Kd} {Q : VK} (h : Is H x k) (q : Q (.bl k.isBl) H) : rIsi K [x, .ty "bool"] H Q := Rd.isi h.ty (kdBl k) q
theorem askStr {x : V} {k : Kd} {Q : VK} (h : Is H x k) (q : Q (.bl k.isStr) H) : rIsi K [x, .ty "str"] H Q := Rd.isi h.ty (kdStr k) q
theorem askLst {x : V} {k : Kd} {Q : VK} (h : Is H x k) (q : Q (.bl k.isLst) H) : rIsi K [x, .ty "list"] H Q := Rd.isi h.ty (kdLst k) q
theorem askTup {x : V} {k : Kd} {Q : VK} (h : Is H x k) (q : Q (.bl k.isTup) H) : rIsi K [x, .ty "tuple"] H Q := Rd.isi h.ty (kdTup k) q
theorem askDct {x : V} {k : Kd} {Q : VK} (h : Is H x k) (q : Q (.bl k.isDct) H) : rIsi K [x, .ty "dict"] H Q := Rd.isi h.ty (kdDct k) q
/-- (list, tuple) was just laid at tp -/
theorem askSeq {x : V} {k : Kd} {tp : Addr} {Q : VK} (ht : H tp = some (.tup [.ty "list", .ty "tuple"])) (h : Is H x k) (q : Q (.bl k.isSeq) H) : rIsiT K [x, .ref tp] H Q := by
  refine ⟨_, tp, _, _, [.type "list", .type "tuple"], k.isSeq, rfl, ht, .cons (.ty _) (.cons (.ty _) .nil), h.ty, ?_, q⟩
  have e1 := kdLst k
  have e2 := kdTup k
  refine kitAny_cons (kit_ty e1) (fun z1 => kitAny_cons (kit_ty e2) (fun z2 => ?_) fun z => ?_) fun z => ?_
  · rw [kitAny_nil]
    cases k <;> first | rfl | (cases z1; done) | (cases z2; done)
  · cases k <;> first | rfl | cases z
  · cases k <;> first | rfl | cases z
/-! ### equal without a look inside -/
/-- the one is the other, or both are equal data -/
def EqI (K : PySem.W.Frag) (H : Hp) (x y : V) : Prop := (x = y ∧ flatB x = true) ∨ (∃ a, x = .ref a ∧ y = .ref a) ∨ ∃ d e, Dp K H x d ∧ Dp K H y e ∧ SeqAt.shaped d = true ∧ SeqAt.shaped e = true ∧ PyData.eqv d e = true
theorem eqI_run {pins : List (Addr × Obj)} {s : Shared} (I : Inv X pins σ H s) {A : Around} (hu : A.units + 64 < cLine) {x y : V} {v u : Value} (h : EqI X.K H x y) (rx : RelV x v) (ry : RelV y u) : SeqAt.EqAt A s v u true := by
  rcases h with ⟨rfl, f⟩ | ⟨a, rfl, rfl⟩ | ⟨d, e, hd, he, sd, se, q⟩
  · exact eqAt_same rx ry f
  · cases (show v = Value.ref a from rx)
    cases (show u = Value.ref a from ry)
    exact SeqAt.EqAt.same _
  · obtain ⟨as, r1⟩ := Dp.reads I d x v hd rx
    obtain ⟨bs, r2⟩ := Dp.reads I e y u he ry
    have z := SeqAt.eqAt_reads d e A s v u as bs r1 r2 (SeqAt.canLay_of_shaped sd) (SeqAt.canLay_of_shaped se) (SeqAt.room_of_shaped sd hu)
    rw [q] at z
    exact z
theorem eqIs_run {pins : List (Addr × Obj)} {s : Shared} (I : Inv X pins σ H s) {A : Around} (hu : A.units + 64 < cLine) {xs ys : List V} (hp : Paired (EqI X.K H) xs ys) :
    ∀ {us ws : List Value}, Vals xs us → Vals ys ws → ∀ j (h1 : j < us.length) (h2 : j < ws.length), SeqAt.EqAt A s us[j] ws[j] true := by
  induction hp with
  | nil =>
    intro us ws r1 r2 j h1 h2
    cases r1
    exact absurd h1 (Nat.not_lt_zero j)
  | cons h _ k =>
    intro us ws r1 r2 j h1 h2
    cases r1 with
    | cons a1 b1 =>
      cases r2 with
      | cons a2 b2 =>
        cases j with
        | zero => exact eqI_run I hu h a1 a2
        | succ j => exact k b1 b2 j (Nat.lt_of_succ_lt_succ h1) (Nat.lt_of_succ_lt_succ h2)
/-- two tuples whose items are equal -/
def TupEq (K : PySem.W.Frag) (H : Hp) (x y : V) : Prop := ∃ a b xs ys, x = .ref a ∧ y = .ref b ∧ SqT K H a xs ∧ SqT K H b ys ∧ Paired (EqI K H) xs ys
def rEqX (K : PySem.W.Frag) : R2 := fun x y H Q => TupEq K H x y ∧ Q (.bl true) H
def rNeX (K : PySem.W.Frag) : R2 := fun x y H Q => TupEq K H x y ∧ Q (.bl false) H
theorem op_neX (hu : X.A.units + 66 < cLine) : OpR X (compareOp .NotEq) (rNeX X.K) := by
  intro pins s σ H x y v u Q I rx ry h
  obtain ⟨⟨a, b, xs, ys, rfl, rfl, ha, hb, hp⟩, q⟩ := h
  cases (show v = Value.ref a from rx)
  cases (show u = Value.ref b from ry)
  obtain ⟨us, r1, p1⟩ := I.tuple ha
  obtain ⟨ws, r2, p2⟩ := I.tuple hb
  have hsz : us.toArray.size = ws.toArray.size := by
    rw [List.size_toArray, List.size_toArray, ← r1.length, ← r2.length]
    exact Paired.length hp
  refine SeqAt.RcNeAt.tuples (e := fun _ => true) p1.1 p2.1 (by omega) (fun j h1 h2 => ?_) X.prog X.w _ _ ?_
  · have k := eqIs_run I (A := X.A.in1) (by show X.A.units + 1 + 64 < cLine; omega) hp r1 r2 j (by simpa using h1) (by simpa using h2)
    simpa using k
  · rw [show ((List.range (min us.toArray.size ws.toArray.size)).all fun _ => true) = true from List.all_eq_true.mpr fun _ _ => rfl, hsz]
    exact ⟨.bl false, H, I, by simp [L2.RelV], q⟩
theorem op_eqX (hu : X.A.units + 66 < cLine) : OpR X (compareOp .Eq) (rEqX X.K) := by
  intro pins s σ H x y v u Q I rx ry h
  obtain ⟨⟨a, b, xs, ys, rfl, rfl, ha, hb, hp⟩, q⟩ := h
  cases (show v = Value.ref a from rx)
  cases (show u = Value.ref b from ry)
  obtain ⟨us, r1, p1⟩ := I.tuple ha
  obtain ⟨ws, r2, p2⟩ := I.tuple hb
  have hsz : us.toArray.size = ws.toArray.size := by
    rw [List.size_toArray, List.size_toArray, ← r1.length, ← r2.length]
    exact Paired.length hp
  refine SeqAt.RcAt.tuples (e := fun _ => true) p1.1 p2.1 (by omega) (fun j h1 h2 => ?_) X.prog X.w _ _ ?_
  · have k := eqIs_run I (A := X.A.in1) (by show X.A.units + 1 + 64 < cLine; omega) hp r1 r2 j (by simpa using h1) (by simpa using h2)
    simpa using k
  · rw [show ((List.range (min us.toArray.size ws.toArray.size)).all fun _ => true) = true from List.all_eq_true.mpr fun _ _ => rfl, hsz]
    exact ⟨.bl true, H, I, by simp [L2.RelV], q⟩
end Rx
namespace Rx
open PySem PySem.Spec PyProof.Rows L2 Rd
/-! ### classes of exceptions, their __init__(self, value) at fI -/
structure ExcF (K : PySem.W.Frag) (fI C : Addr) : Prop where
  ox : OexC K C
  is : ExcC K C
  iC : PySem.W.findIn K (.ref C) "__init__" = some (some (.ref fI))
  nv : PySem.W.findIn K (.ref C) "value" = some none
  cl : PySem.W.isClsIn K C = true
  self : PySem.W.subIn K (.ref C) (.ref C) = some true
section
variable {K : PySem.W.Frag} {fI C E : Addr} {b : Bool}
theorem kitC (FE : ExcF K fI E) (h : PySem.W.subIn K (.ref C) (.ref E) = some b) : PySem.W.kitCls K (.ref C) (.ref E) = some b := by
  have h2 : (PySem.W.clsIn K E).isSome = true := FE.cl
  have e2 : ((PySem.W.clsIn K E).isSome && PySem.W.typeIn K (.ref E) == some (.type "type")) = true := by
    rw [h2, FE.ox.tyC] <;> rfl
  show (if ((PySem.W.clsIn K E).isSome && PySem.W.typeIn K (.ref E) == some (.type "type")) = true then PySem.W.subIn K (.ref C) (.ref E) else none) = some b
  rw [if_pos e2]
  exact h
theorem kit (FC : ExcF K fI C) (FE : ExcF K fI E) (h : PySem.W.subIn K (.ref C) (.ref E) = some b) : PySem.W.kitOne K (.ref C) (.ref E) = some b := by
  unfold PySem.W.kitOne
  by_cases c : C = E
  · subst c
    rw [FC.self] at h
    cases h
    rw [if_pos (beq_self_eq_true _)]
  · rw [if_neg (fun z => c (by simpa using z))]
    exact kitC FE h
theorem exm (FE : ExcF K fI E) (h : PySem.W.subIn K (.ref C) (.ref E) = some b) : PySem.W.exmOne K (.ref C) (.ref E) = some b := by
  have e1 : (PySem.W.subIn K (.ref E) (.type "BaseException") == some true) = true := by rw [FE.is.hs] <;> rfl
  show (if (PySem.W.subIn K (.ref E) (.type "BaseException") == some true) = true then PySem.W.kitCls K (.ref C) (.ref E) else none) = some b
  rw [if_pos e1]
  exact kitC FE h
end
/-! ### monotone readings -/
def tMono (te : TE) : TE := fun σ H Q => ∃ Q0 : VK, te σ H Q0 ∧ ∀ v H1, Q0 v H1 → Q v H1
theorem pe_mono {X : Cx} {e : Expr} {te : TE} (he : PE X e te) : PE X e (tMono te) := ⟨fun pins s σ H Q I h => by
  obtain ⟨Q0, h, imp⟩ := h
  exact thn (he.run pins s σ H Q0 I h) fun u s1 ⟨v, H1, I1, r1, q⟩ => ⟨v, H1, I1, r1, imp v H1 q⟩⟩
/-! ### raise C(e) -/
/-- self.value = value -/
def spWe (K : PySem.W.Frag) : Sp := fun vs H Q _ => ∃ (a C : Addr) (v : V), vs = [.ref a, v] ∧ OexC K C ∧ PySem.W.findIn K (.ref C) "value" = some none ∧ H a = some (exo a C none) ∧
  ∀ dx, H dx = none → dx ≠ a → Q .non (upd (upd H dx (exd dx [("value", v)])) a (exo a C (some dx)))
/-- behind: the exception's dict d is new and holds v -/
def RaiseQ (C : Addr) (v : V) (H1 : Hp) (Q : XK) : Prop := ∀ (d : Addr) (H2 : Hp), H1 d = none → H2 d = some (.xd [("value", v)]) → (∀ b, b ≠ d → H2 b = H1 b) → Q (.ref C) (some d) H2
def tRaise (C : Addr) (W : WX) (te : TE) : TS := fun _ σ H => te σ H fun v H1 => RaiseQ C v H1 fun cls d H2 => W cls d σ H2
theorem raiseH {C : Addr} {W : WX} {te : TE} {D : Ends} {σ : L2.St} {H : Hp} (h : te σ H fun v H1 => RaiseQ C v H1 fun cls d H2 => W cls d σ H2) : tRaise C W te D σ H := h
/-- what a raised exception leaves: all as it was, and its value in its dict -/
def Raised (C : Addr) (v : V) (H : Hp) (E : XK) : Prop := ∀ (d : Addr) (H2 : Hp), H d = none → H2 d = some (.xd [("value", v)]) → Same H H2 → E (.ref C) (some d) H2
theorem Raised.now {C : Addr} {v : V} {H H1 : Hp} {E : XK} (r : Raised C v H E) (s : Same H H1) : RaiseQ C v H1 E := fun d H2 n e k =>
  r d H2 (s.free n) e fun b o q => (k b (ne_of_none (s _ _ q) n)).trans (s _ _ q)
theorem mk_reads {K : PySem.W.Frag} {fI C : Addr} {te : TE} {σ : L2.St} {H : Hp} {Q : XK} (F : ExcF K fI C) (h : te σ H fun v H1 => RaiseQ C v H1 Q) : tMkO C (spWe K) [] (tCons (tMono te) tNil) σ H Q := by
  refine ⟨_, h, fun v H1 hv => ?_⟩
  refine ⟨(by decide : 1 ≤ 1000), fun a na => ⟨a, C, v, rfl, F.ox, F.nv, upd_same, fun dx ndx ne => ⟨rfl, dx, [("value", v)], upd_same, ?_, ?_, ?_⟩⟩⟩
  · rw [upd_ne ne, upd_same]
  · rw [upd_ne ne] at ndx
    exact ndx
  · rw [upd_ne ne] at ndx
    refine hv dx _ ndx upd_same fun b hb => ?_
    rw [upd_ne hb]
    by_cases c : b = a
    · rw [c, del_same, na]
    · rw [del_ne c, upd_ne c, upd_ne hb, upd_ne c]
section
variable {X : Cx} {x : Str} {e : Expr} {te : TE} {p pos pos2 : Pos} {C fI : Addr} {k : Nat} {fd : FuncData} {W : WX}
theorem ps_raise1 (hc : X.calm = true) (F : ExcF X.K fI C) (tI : PySem.W.typeIn X.K (.ref fI) = some (.type "function")) (F1 : FnOk X.prog X.w X.K X.mg X.base CX0 k fI fd ["self", "value"] (spWe X.K)) (hr : Room (k + 1) X.A) (hb : Binds X.K fd ["self", "value"] [])
    (hg : Gl X x) (hm : X.mg x = some (.ref C)) (tk : Takes X W) (he : PE X e te) (hdb : (x == ("__debug__" : Str)) = false := by decide) (hs : starEach (e :: []) X.env = (false, eval e X.env) :: starEach [] X.env := by rfl) (hpl : (backTo pos (starEach [] X.env)).any (·.1) = false := by rfl) :
    PS X (.Raise (some (.Call (.Name x p) [e] [] pos)) none pos2) (tRaise C W te) :=
  have z := ps_raise (pos := pos2) hc tk (pmk_oex (p := p) (pos := pos) F.ox F.iC tI F1 hr hb .nil (CX := CX0) (fun _ _ _ _ _ _ _ h => h.elim) hg hm (pa_cons (pe_mono he) pa_nil hs) hdb hs hpl)
  ⟨fun pins s σ H D I h => z.run pins s σ H D I (mk_reads F h)⟩
end
/-! ### what is asked of a caught exception -/
def rIsX (K : PySem.W.Frag) (a : Addr) (cls : Value) (d : Option Addr) : List V → Hp → VK → Prop := fun xs H Q => ∃ (D dd : Addr) (fs : List (Str × V)) (c : V) (cv : Value) (b : Bool), cls = .ref D ∧ d = some dd ∧ ExcC K D ∧ H dd = some (.xd fs) ∧ xs = [.ref a, c] ∧
  ClsV c cv ∧ PySem.W.kitOne K (.ref D) cv = some b ∧ Q (.bl b) H
end Rx
namespace PySem.W
open PySem PySem.Spec PySem.Calls PyProof.Rows
section
variable {prog : Program} {w : World} {A : Around} {E : Value → Shared → Prop} {s : Shared} {K : Frag} {x D : Addr} {ox : Obj} {od : Option Obj}
theorem findObj_dataX {C : Addr} {name : Str} {a g : Value} (hc : (clsIn K C).isSome = true) (ha : findIn K (.ref C) name = some (some a)) (hg : specialIn K a "__get__" = some (some g)) (ht : takesIn K a = some true) : findObj K C od name = some (.bind g a) := by
  obtain ⟨cd, hc⟩ := Option.isSome_iff_exists.mp hc
  unfold findObj
  rw [hc, Option.bind_some, ha, Option.bind_some]
  simp [hg, ht]
theorem kin_classX {Q : Option Value → Shared → Prop} (hga : findIn K (.ref D) "__getattribute__" = some (some (.builtin "BaseException.__getattribute__"))) (hgt : findIn K (.ref D) "__getattr__" = some none) (hsub : subIn K (.ref D) (.type "BaseException") = some true)
    (hdct : hasDictIn K D = true) (ha : findIn K (.ref D) "__class__" = some (some (.builtin "object.__class__")))
    (hn : specialIn K (.builtin "object.__class__") "__get__" = some (some (.builtin "getset_descriptor.__get__"))) (htk : takesIn K (.builtin "object.__class__") = some true) (hm : mroIn K D (.type "object") = some true)
    (X : K.In s.heap) (I : InstAt s.heap x ox D od) (h : Q (some (.ref D)) { s with toks := s.toks + 1 }) : wpAny (model prog w) A (getAttr? (.ref x) "__class__") Q E s := by
  have hf : findObj K D od "__class__" = some (.bind (.builtin "getset_descriptor.__get__") (.builtin "object.__class__")) := findObj_dataX (by obtain ⟨cd, hc, _⟩ := any_some hdct; rw [hc]; rfl) ha hn htk
  obtain ⟨hp, g, d, t, os⟩ := s
  have L0 := I.type (M := model prog w)
  have L1 := looks_findIn (M := model prog w) X hga
  have L2 := looks_findIn (M := model prog w) X hgt
  have L3 := looks_find (M := model prog w) X I hf
  have sub : Looks (model prog w) hp (isInstance (.ref x) (.type "BaseException")) true := L0.andThen (looks_subIn X hsub)
  have hx0 : (false && onTheHeap (Value.builtin "BaseException.__getattribute__")) = false := rfl
  have hx2 : (Value.builtin "BaseException.__getattribute__" == Value.builtin "object.__getattribute__") = false := by decide +kernel
  have hx1 : (onTheHeap (Value.ref D) && Value.builtin "BaseException.__getattribute__" == Value.builtin "object.__getattribute__") = false := by rw [hx2]; rfl
  unfold getAttr? getAttrBy? getAttrBy
  refine wpAny_bind (wpAny_mkText (wpAny_bind (wpAny_attempt (wpAny_holding (wpAny_bind (L0.at (wpAny_bind (L1.at ?_))))))))
  show wpAny _ _ (if (onTheHeap (Value.ref D) && Value.builtin "BaseException.__getattribute__" == Value.builtin "object.__getattribute__") = true then _ else _) _ _ _
  rw [hx1, if_neg Bool.false_ne_true]
  unfold getAttrByItsOwn hookBefore
  refine wpAny_bind ?_
  rw [if_pos (show onTheHeap (Value.ref D) = true from rfl)]
  refine L2.at ?_
  refine wpAny_bind (wpAny_attempt (wpAny_holding ?_))
  unfold callGetattribute
  rw [hx0, if_neg Bool.false_ne_true]
  unfold boundAndCalled
  rw [PySem.F.excAttr_ValueError.ga.bind (.ref x)]
  refine wpAny_bind (wpAny_pure ?_)
  show wpAny _ _ (call (.builtin "BaseException.__getattribute__") [.ref x, .str "__class__" t]) _ _ _
  refine wpAny_call (codeAny_call_builtin PySem.F.excAttr_ValueError.ga.plain PySem.F.entry_bexc_ga ?_)
  refine @check_slot (model prog w) _ _ ⟨hp, g, d, t + 1, os⟩ "BaseException.__getattribute__" "BaseException" "__getattribute__" (.ref x) [.str "__class__" t] [] _ (by decide +kernel) (by decide +kernel) sub (PySem.F.args_bexc_ga (.ref x) (.str "__class__" t)) ?_
  unfold Builtin.«object.__getattribute__»
  refine wpAny_bind (wpAny_of_eq (a := ((Value.ref x : Value), [Value.str "__class__" t])) (by first | rfl | (simp only [slotArgs]; rfl)) ?_)
  refine wpAny_bind (wpAny_pure (wpAny_bind (L0.at (wpAny_bind (L3.at ?_)))))
  show wpAny _ _ (holding [Value.builtin "object.__class__"] (call (.builtin "getset_descriptor.__get__") [.builtin "object.__class__", .ref x, .ref D]) >>= ret) _ _ _
  refine wpAny_bind (wpAny_holding (wpAny_call (class_get (s := ⟨hp, g, d, t + 1, os⟩) (ox := ox) (od := od) X I hm ?_)))
  refine wpAny_pure ?_
  show wpAny _ _ (handedOut (.ref D)) _ _ _
  rw [handedOut_of (v := .ref D) rfl]
  first
    | exact wpAny_pure (wpAny_pure h)
    | exact wpAny_pure h
    | exact wpAny_pure (wpAny_bind (wpAny_pure (wpAny_pure h)))
theorem kitx_excX (hga : findIn K (.ref D) "__getattribute__" = some (some (.builtin "BaseException.__getattribute__"))) (hgt : findIn K (.ref D) "__getattr__" = some none) (hsub : subIn K (.ref D) (.type "BaseException") = some true) (hdct : hasDictIn K D = true) (ha : findIn K (.ref D) "__class__" = some (some (.builtin "object.__class__")))
    (hn : specialIn K (.builtin "object.__class__") "__get__" = some (some (.builtin "getset_descriptor.__get__"))) (htk : takesIn K (.builtin "object.__class__") = some true) (hm : mroIn K D (.type "object") = some true) :
    KitX K (.ref x) (.ref D) (fun h => InstAt h x ox D od) where
  ty := fun _ _ _ I => I.type
  it := fun _ _ X _ => by
    obtain ⟨cdD, hcD, _⟩ := any_some hdct
    unfold clsIn at hcD
    split at hcD
    · rename_i c' d' cd' sl' ho
      intro A' Q' E' s' k q
      unfold isType loadHead
      exact wpAny_bind (wpAny_loadPart (k _ _ (X _ _ ho)) (wpAny_pure q))
    · cases hcD
  ne := fun h tp dd its n sl X htp => by
    obtain ⟨cdD, hcD, _⟩ := any_some hdct
    refine Bool.eq_false_iff.mpr fun q => ?_
    have e : D = tp := Value.ref.inj (beq_iff_eq.mp q)
    subst e
    unfold clsIn at hcD
    split at hcD
    · rename_i c' d' cd' sl' ho
      have z := (X _ _ ho).symm.trans htp
      cases z
    · cases hcD
  ca := fun X I k => kin_classX hga hgt hsub hdct ha hn htk hm X I k
end
end PySem.W
namespace Rx
open PySem PySem.Spec PyProof.Rows L2 Rd
theorem call_isX {X : Cx} {a : Addr} {oe : Obj} {cls : Value} {d : Option Addr} {pn : List (Addr × Obj)} (hz : Zc cls d oe) (hf : ∃ vs, oe.data = .fields vs) : CallR (X.suite a ((a, oe) :: pn)) (.builtin "isinstance") (rIsX X.K a cls d) := by
  intro pins s σ H xs us Q I r h
  obtain ⟨D, dd, fs, c, cv, b, rfl, rfl, C, hd, rfl, hcv, e, q⟩ := h
  obtain ⟨u1, u2, rfl, r1, r2⟩ := vals2 r
  cases (show u1 = Value.ref a from r1)
  have ec := hcv.eq r2
  subst ec
  obtain ⟨hget, _⟩ := I.pin (a, oe) (List.mem_append.mpr (.inl List.mem_cons_self))
  obtain ⟨vs, hv⟩ := hf
  have hx : ObjOk X.prog X.w H s.heap dd (.xd fs) := I.hok dd _ hd
  obtain ⟨mA, hns, hr⟩ := hx
  obtain ⟨od, ho, hl⟩ := lookIn_ns hns
  have J : PySem.W.InstAt s.heap a oe D (some od) := ⟨hget, hz.1, by unfold PySem.W.notCls; rw [hv] <;> rfl, by rw [hz.2]; exact ho⟩
  exact PySem.W.kia_one (PySem.W.kitx_excX C.hg C.hk C.hs C.hd C.ha C.hn C.ht C.hm) I.kIn J e (fun z => nomatch z) fun tk => ⟨.bl b, H, I.kept (t' := tk) fun _ _ z => z, rfl, q⟩
theorem isX {K : PySem.W.Frag} {a fI C E dd : Addr} {b : Bool} {fs : List (Str × V)} {H : Hp} {Q : VK} (FC : ExcF K fI C) (FE : ExcF K fI E) (h : PySem.W.subIn K (.ref C) (.ref E) = some b) (hd : H dd = some (.xd fs)) (q : Q (.bl b) H) : rIsX K a (.ref C) (some dd) [.ref a, .ref E] H Q :=
  ⟨C, dd, fs, _, _, b, rfl, rfl, FC.is, hd, rfl, .own E, kit FC FE h, q⟩
/-- e.value -/
def XvG (K : PySem.W.Frag) (a : Addr) (cls : Value) (d : Option Addr) (n : Str) : V → Hp → VK → Prop := fun x H1 Q => x = .ref a ∧ ∃ (C dd : Addr) (fs : List (Str × V)) (v : V), cls = .ref C ∧ d = some dd ∧ ExcC K C ∧ PySem.W.findIn K (.ref C) n = some none ∧ H1 dd = some (.xd fs) ∧ fs.lookup n = some v ∧ Q v H1
def tXv (K : PySem.W.Frag) (a : Addr) (cls : Value) (d : Option Addr) (n : Str) (te : TE) : TE := fun σ H Q => te σ H fun x H1 => XvG K a cls d n x H1 Q
theorem pe_xv {X : Cx} {a : Addr} {oe : Obj} {cls : Value} {d : Option Addr} {pn : List (Addr × Obj)} {e : Expr} {te : TE} {pos : Pos} {n : Str} (hz : Zc cls d oe) (hf : ∃ vs, oe.data = .fields vs) (he : PE (X.suite a ((a, oe) :: pn)) e te)
    (hb : attributeBase e n X.env (eval e X.env) = eval e X.env := by rfl) : PE (X.suite a ((a, oe) :: pn)) (.Attribute e n pos) (tXv X.K a cls d n te) := by
  refine ⟨fun pins s σ H Q I h => ?_⟩
  refine attr_of hb (thn (he.run pins s σ H _ I h) fun u s1 hh => ?_)
  obtain ⟨x, H1, I1, rx, ex, C, dd, fs, v, ec, ed, T, hno, ea, l, q⟩ := hh
  subst ex
  obtain rfl : u = Value.ref a := rx
  subst ec
  subst ed
  obtain ⟨ha, _⟩ := I1.pin (a, oe) (List.mem_append_left _ List.mem_cons_self)
  obtain ⟨vs, hd⟩ := hf
  have hx : ObjOk X.prog X.w H1 s1.heap dd (.xd fs) := I1.hok dd _ ea
  obtain ⟨mA, hns, hr⟩ := hx
  obtain ⟨od, ho, hl⟩ := lookIn_ns hns
  obtain ⟨u, hu, ru⟩ := RelO.some_of (v := v) (o := mA n) (by rw [← l]; exact hr n)
  have J : PySem.W.InstAt s1.heap a oe C (some od) := ⟨ha, hz.1, by unfold PySem.W.notCls; rw [hd] <;> rfl, by rw [hz.2]; exact ho⟩
  exact HandSPX.exc_get I1.kIn J T.hg T.hk T.hs (PySem.W.findObj_own T.hd hno rfl (by rw [hl, hu])) (handed_of ru) ⟨v, H1, I1.tok _, ru, q⟩
theorem xvH {K : PySem.W.Frag} {a : Addr} {cls : Value} {d : Option Addr} {n : Str} {te : TE} {σ : L2.St} {H : Hp} {Q : VK} (h : te σ H fun x H1 => XvG K a cls d n x H1 Q) : tXv K a cls d n te σ H Q := h
theorem xv {K : PySem.W.Frag} {a fI C dd : Addr} {v : V} {H : Hp} {Q : VK} (F : ExcF K fI C) (hd : H dd = some (.xd [("value", v)])) (q : Q v H) : XvG K a (.ref C) (some dd) "value" (.ref a) H Q :=
  ⟨rfl, C, dd, _, v, rfl, rfl, F.is, F.nv, hd, by simp [List.lookup], q⟩
/-- the clause names the class that it is -/
theorem caught {K : PySem.W.Frag} {fI C E : Addr} {i : Nat} {ts : Addr → Value → Option Addr → TS} {Wout : WX} {D : Ends} {d : Option Addr} {σ : L2.St} {H : Hp} (FE : ExcF K fI E) (h : PySem.W.subIn K (.ref C) (.ref E) = some true)
    (q : ∀ a, H a = none → ts a (.ref C) d { nx := fun σ' H' => D.nx (σ'.set i none) H', rt := D.rt, bk := fun σ' H' => D.bk (σ'.set i none) H', ct := fun σ' H' => D.ct (σ'.set i none) H' } (σ.set i (some (.ref a))) H) : wAs K (.ref E) i ts Wout D (.ref C) d σ H :=
  ⟨true, exm FE h, fun _ a na => q a na, fun z => nomatch z⟩
theorem callS {sp : Sp} {E : L2.St → XK} {t : TA} {σ : L2.St} {H : Hp} {Q : VK} (h : t σ H fun vs H1 => sp vs H1 Q (E σ)) : tCallS sp E t σ H Q := h
end Rx
namespace Rx
open PySem PySem.Spec PyProof.Rows L2 Rd
/-- an __init__(self, value=None) called with both -/
theorem binds2 {K : PySem.W.Frag} {x qual : Str} {params : Arguments} {body : List Stmt} {scope : Scope} {f : Addr} {fd : FuncData} (F : FunD K x qual params body scope [.non] [] f fd)
    (h : ∀ (T : Addr) (kV doc pm : Value) (an : Option Addr) (cdv ct : Value) (us its : List Value), us.length = 2 → its.length = 1 →
      ∃ k, bindArgs (PySem.W.fnOf x qual params body scope (.ref T) kV doc pm an cdv ct) ⟨us, []⟩ = seqItems? (.ref T) >>= k ∧ k (some its.toArray) = pure ((["self", "value"] : List Str).zip (us ++ its.drop 1))) : Binds K fd ["self", "value"] [] := by
  obtain ⟨ds, r, b⟩ := F.binds1 (ps := ["self", "value"]) 2 1 (by simp) rfl h
  cases r
  exact b
end Rx
namespace Rx
open PySem PySem.Spec PyProof.Rows L2 Rd
theorem u66 {k : Nat} {A : Around} (h : Room k A) : A.units + 66 < cLine := by have := h.un; omega
/-! ### text * int -/
def nRepS : R2 := fun x y H Q => ∃ (z : Str) (n : Int), x = .str z ∧ y = .int n ∧ MulOk z n ∧ Q (.str (Txt.mul z n)) H
theorem o_repS {X : Cx} : OpR X (binaryOp .Mult) nRepS := by
  intro pins s σ H x y v u Q I rx ry h
  obtain ⟨z, n, rfl, rfl, hok, q⟩ := h
  obtain ⟨t, rfl⟩ := rx
  obtain ⟨t', rfl⟩ := ry
  exact SB.mul hok fun t' k => ⟨.str (Txt.mul z n), H, I.tok _, ⟨_, rfl⟩, q⟩
theorem repS {z : Str} {n : Int} {H : Hp} {Q : VK} (hok : MulOk z n) (q : Q (.str (Txt.mul z n)) H) : nRepS (.str z) (.int n) H Q := ⟨z, n, rfl, rfl, hok, q⟩
/-! ### things with their items -/
/-- what stands at a value, and at its items -/
def Rowed (H : Hp) (x : V) (k : Kd) (ks : List Kd) : Prop := Is H x k ∧ ∀ xs, k = .lst xs ∨ k = .tup xs → Paired (Is H) xs ks
theorem paired_same {H H' : Hp} (s : Same H H') {xs : List V} {ks : List Kd} (h : Paired (Is H) xs ks) : Paired (Is H') xs ks := by
  induction h with
  | nil => exact .nil
  | cons a _ ih => exact .cons (a.same s) ih
theorem Rowed.same {H H' : Hp} {x : V} {k : Kd} {ks : List Kd} (s : Same H H') (h : Rowed H x k ks) : Rowed H' x k ks := ⟨h.1.same s, fun xs e => paired_same s (h.2 xs e)⟩
/-- an address that is not t's -/
def Off (t : Addr) (x : V) : Prop := x ≠ .ref t
theorem off_ref {t a : Addr} (h : a ≠ t) : Off t (.ref a) := fun e => h (V.ref.inj e)
theorem Is.but {t : Addr} {H H' : Hp} {x : V} {k : Kd} (b : Rd.But t H H') (o : Off t x) (h : Is H x k) : Is H' x k := by
  cases h with
  | non => exact .non
  | bl b => exact .bl b
  | int i => exact .int i
  | str l => exact .str l
  | lst h l => exact .lst (b _ _ (fun e => o (by rw [e])) h) l
  | tup h l => exact .tup (b _ _ (fun e => o (by rw [e])) h) l
  | dct h => exact .dct (b _ _ (fun e => o (by rw [e])) h)
theorem paired_but {t : Addr} {H H' : Hp} (b : Rd.But t H H') {xs : List V} {ks : List Kd} (h : Paired (Is H) xs ks) : (∀ y ∈ xs, Off t y) → Paired (Is H') xs ks := by
  induction h with
  | nil => exact fun _ => .nil
  | cons a _ ih => exact fun o => .cons (a.but b (o _ (List.mem_cons_self ..))) (ih fun y m => o y (List.mem_cons_of_mem _ m))
/-- a thing of some kind, its items too; none of them is the object at t (the tape) -/
def Thing (t : Addr) (H : Hp) (x : V) : Prop := ∃ k ks, Rowed H x k ks ∧ Off t x ∧ ∀ xs, k = .lst xs ∨ k = .tup xs → ∀ y ∈ xs, Off t y
theorem Thing.same {t : Addr} {H H' : Hp} {x : V} (s : Same H H') (h : Thing t H x) : Thing t H' x := let ⟨k, ks, r, o⟩ := h; ⟨k, ks, r.same s, o⟩
theorem Thing.but {t : Addr} {H H' : Hp} {x : V} (b : Rd.But t H H') (h : Thing t H x) : Thing t H' x := let ⟨k, ks, r, o, p⟩ := h; ⟨k, ks, ⟨r.1.but b o, fun xs e => paired_but b (r.2 xs e) (p xs e)⟩, o, p⟩
theorem flat {t : Addr} {H : Hp} {x : V} {k : Kd} (h : Is H x k) (n : k.isSeq = false) (o : Off t x := by intro e; cases e) : Thing t H x := ⟨k, [], ⟨h, fun xs e => by rcases e with rfl | rfl <;> cases n⟩, o, fun xs e => by rcases e with rfl | rfl <;> cases n⟩
/-- an item -/
def Item (t : Addr) (H : Hp) (x : V) : Prop := (∃ k, Is H x k) ∧ Off t x
theorem item {t : Addr} {H : Hp} {x : V} {k : Kd} (h : Is H x k) (o : Off t x := by intro e; cases e) : Item t H x := ⟨⟨k, h⟩, o⟩
theorem Item.same {t : Addr} {H H' : Hp} {x : V} (s : Same H H') (h : Item t H x) : Item t H' x := let ⟨⟨k, i⟩, o⟩ := h; ⟨⟨k, i.same s⟩, o⟩
theorem Item.but {t : Addr} {H H' : Hp} {x : V} (b : Rd.But t H H') (h : Item t H x) : Item t H' x := let ⟨⟨k, i⟩, o⟩ := h; ⟨⟨k, i.but b o⟩, o⟩
theorem kinds {t : Addr} {H : Hp} : ∀ {xs : List V}, (∀ x ∈ xs, Item t H x) → ∃ ks, Paired (Is H) xs ks
  | [], _ => ⟨[], .nil⟩
  | x :: xs, h => let ⟨⟨k, i⟩, _⟩ := h x (List.mem_cons_self ..); let ⟨ks, r⟩ := kinds fun y m => h y (List.mem_cons_of_mem _ m); ⟨k :: ks, .cons i r⟩
theorem seqL {t : Addr} {H : Hp} {a : Addr} {xs : List V} (h : H a = some (.lst xs)) (o : a ≠ t) (l : xs.length ≤ 1000000) (i : ∀ x ∈ xs, Item t H x) : Thing t H (.ref a) :=
  let ⟨ks, r⟩ := kinds i; ⟨_, ks, ⟨.lst h l, fun ys e => by rcases e with e | e <;> cases e; exact r⟩, off_ref o, fun ys e => by rcases e with e | e <;> cases e; exact fun y m => (i y m).2⟩
theorem seqT {t : Addr} {H : Hp} {a : Addr} {xs : List V} (h : H a = some (.tup xs)) (o : a ≠ t) (l : xs.length ≤ 1000000) (i : ∀ x ∈ xs, Item t H x) : Thing t H (.ref a) :=
  let ⟨ks, r⟩ := kinds i; ⟨_, ks, ⟨.tup h l, fun ys e => by rcases e with e | e <;> cases e; exact r⟩, off_ref o, fun ys e => by rcases e with e | e <;> cases e; exact fun y m => (i y m).2⟩
theorem all_nil {P : V → Prop} : ∀ x ∈ ([] : List V), P x := fun _ h => nomatch h
theorem all_cons {P : V → Prop} {x : V} {xs : List V} (h : P x) (t : ∀ y ∈ xs, P y) : ∀ y ∈ x :: xs, P y := fun y m => by
  rcases List.mem_cons.mp m with rfl | m
  · exact h
  · exact t y m
theorem paired_get {R : V → Kd → Prop} {xs : List V} {ks : List Kd} (h : Paired R xs ks) : ∀ {i : Nat} {x : V}, xs[i]? = some x → ∃ k, ks[i]? = some k ∧ R x k := by
  induction h with
  | nil => intro i x e; simp at e
  | cons a _ ih =>
    intro i x e
    cases i with
    | zero => cases e; exact ⟨_, rfl, a⟩
    | succ i => exact ih e
/-! ### range(i, j, c) upwards -/
/-- how many -/
def cnt (i j c : Int) : Nat := if i < j then ((j - i - 1) / c + 1).toNat else 0
theorem rg_pos {i j c : Int} (c0 : 0 < c) (c1 : c < 1073741824) (hi : 0 ≤ i) (hi' : i < 2 ^ 62) (hj : 0 ≤ j) (hj' : j < 2 ^ 62) : RgC i j c (cnt i j c) := by
  have e : Builtin.Range.rangeSize i j c = (cnt i j c : Nat) := by
    unfold Builtin.Range.rangeSize cnt
    rw [if_pos c0]
    split
    · have : 0 ≤ (j - i - 1) / c := Int.ediv_nonneg (by omega) (by omega)
      omega
    · rfl
  have hb : (cnt i j c : Int) ≤ 2 ^ 62 + 1 := by
    unfold cnt
    split
    · have h1 : 0 ≤ (j - i - 1) / c := Int.ediv_nonneg (by omega) (by omega)
      have h2 : (j - i - 1) / c ≤ j - i - 1 := Int.ediv_le_self _ (by omega)
      omega
    · decide
  refine ⟨by omega, by omega, ?_, e⟩
  unfold Builtin.Range.small
  rw [e]
  simp only [Builtin.Range.rangeFitsLong, Bool.and_eq_true, Bool.or_eq_true, decide_eq_true_eq, beq_iff_eq]
  rw [if_pos c0]
  simp only [Bool.and_eq_true, decide_eq_true_eq]
  omega
theorem cnt_lt {i j c : Int} (c0 : 0 < c) (k : Nat) : k < cnt i j c ↔ i + (k : Int) * c < j := by
  unfold cnt
  split
  · rename_i h
    have h1 : 0 ≤ (j - i - 1) / c := Int.ediv_nonneg (by omega) (by omega)
    have e : k < ((j - i - 1) / c + 1).toNat ↔ (k : Int) ≤ (j - i - 1) / c := by omega
    rw [e, Int.le_ediv_iff_mul_le c0]
    omega
  · have : 0 ≤ (k : Int) * c := Int.mul_nonneg (by omega) (by omega)
    omega
theorem rng3 {ta : TA} {σ : L2.St} {H : Hp} {R : It → Hp → Prop} (h : ta σ H fun vs H1 => ∃ (i j c : Int) (n : Nat), vs = [.int i, .int j, .int c] ∧ RgC i j c n ∧ R (Itc i c n) H1) : iRng3 ta σ H R := h
end Rx
namespace Rx
open PySem PySem.Spec PyProof.Rows L2 Rd
/-! ### {k: v} written out -/
theorem disp {trs : List (TE × TE)} {σ : L2.St} {H : Hp} {Q : VK} (h : ∀ (p : Addr) (G : Hp), H p = none → G p = some (.dK []) → Same H G → tPairs trs σ G fun ps H2 => H2 p = some (.dK []) ∧ ∃ kvs : List (Key × V), ps = kvs.map (fun kv => (kV kv.1, kv.2)) ∧ kvs.length ≤ 15 ∧
    ∀ G2 : Hp, G2 p = some (.dK (mergeK [] kvs)) → (∀ b, b ≠ p → G2 b = H2 b) → Q (.ref p) G2) : tDisp trs σ H Q := fun p hp => by
  have key := h p _ hp upd_same (same_upd hp)
  have mono : ∀ {trs : List (TE × TE)} {σ : L2.St} {H : Hp} {A B : List (V × V) → Hp → Prop}, A = B → tPairs trs σ H A → tPairs trs σ H B := fun e h => e ▸ h
  refine mono ?_ key
  funext ps H2
  refine propext ⟨fun ⟨a, kvs, b, c, d⟩ => ⟨a, kvs, b, c, d _ upd_same fun b hb => upd_ne hb⟩, fun ⟨a, kvs, b, c, d⟩ => ⟨a, kvs, b, c, fun G2 g off => ?_⟩⟩
  have e : G2 = upd H2 p (.dK (mergeK [] kvs)) := by
    funext x
    by_cases q : x = p
    · rw [q, g, upd_same]
    · rw [off x q, upd_ne q]
  rw [e]
  exact d
theorem pair {tk tv : TE} {r : List (TE × TE)} {σ : L2.St} {H : Hp} {Q : List (V × V) → Hp → Prop} (h : tk σ H fun x H1 => tv σ H1 fun y H2 => tPairs r σ H2 fun ps H3 => Q ((x, y) :: ps) H3) : tPairs ((tk, tv) :: r) σ H Q := h
theorem pair0 {σ : L2.St} {H : Hp} {Q : List (V × V) → Hp → Prop} (h : Q [] H) : tPairs [] σ H Q := h
theorem same_off2 {H G G2 : Hp} {p : Addr} (s : Same H G) (np : H p = none) (off : ∀ b, b ≠ p → G2 b = G b) : Same H G2 := fun b o e => by rw [off b (ne_of_none e np)]; exact s b o e
end Rx
namespace Rx
open PySem PySem.Spec PyProof.Rows L2 Rd
theorem eqI_refl {K : PySem.W.Frag} {H : Hp} {y : V} {k : Kd} (h : Is H y k) : EqI K H y y := by
  cases h with
  | non => exact .inl ⟨rfl, rfl⟩
  | bl b => exact .inl ⟨rfl, rfl⟩
  | int i => exact .inl ⟨rfl, rfl⟩
  | str l => exact .inl ⟨rfl, rfl⟩
  | lst h l => exact .inr (.inl ⟨_, rfl, rfl⟩)
  | tup h l => exact .inr (.inl ⟨_, rfl, rfl⟩)
  | dct h => exact .inr (.inl ⟨_, rfl, rfl⟩)
end Rx

/-! An instance made within a try: what its __init__ raises is caught here. -/
namespace Rm
open PySem PySem.Spec PyProof.Rows L2
variable {X : Cx} {CX : CXT} {k : Nat} {f C : Addr} {fd : FuncData} {ps : List Str} {sp : Sp} {E : L2.St → XK} {σ : L2.St} {H : Hp} {s : Shared} {Q : VK} {pins : List (Addr × Obj)}
theorem go {vs : List V} {us : List Value} (mk : Mk X.K C f) (ok : FnOk X.prog X.w X.K X.mg X.base CX k f fd ps sp) (room : Room (k + 1) X.A) (bd : Binds X.K fd ps []) (pa : PassesAt CX X σ (E σ)) (inv : Inv X pins σ H s) (va : Vals vs us)
    (h : Rd.MkG C sp [] (E σ) vs H Q) : wpAny (model X.prog X.w) X.A (call (.ref C) us) (EP X pins σ Q) X.xe s := by
  have free : ∀ m, s.heap.objs.size ≤ m → H m = none := fun m l => inv.hok.fresh l
  have q := h _ _ (free (s.heap.objs.size + 1) (by omega)) (free s.heap.objs.size (by omega)) (fun e => Nat.lt_irrefl _ (Nat.lt_of_lt_of_eq (Nat.lt_succ_self s.heap.objs.size) e.symm))
  rw [List.append_nil] at q
  have inv' := inv.made (C := C)
  have va' : Vals (V.ref (s.heap.objs.size + 1) :: vs) (Value.ref (s.heap.objs.size + 1) :: us) := .cons rfl va
  have bd' := bd _ (Value.ref (s.heap.objs.size + 1) :: us) inv'.kIn (by rw [List.append_nil, ← va'.length]; exact ok.len _ _ _ _ q)
  rw [List.append_nil] at bd'
  have run := ok.run _ X.stack _ _ ⟨Value.ref (s.heap.objs.size + 1) :: us, []⟩ _ _ _ (E σ) (room.make C us []) (inv'.env0.make C us []) bd' va' q
  refine wpAny_call (make_map (f := f) inv.kIn mk.makes mk.init (beq_iff_eq.mp mk.fn) (codeAny_mono run fun end_ s' fin => ?_))
  match end_, fin with
  | .error e, fin => exact pa pins _ _ e s' inv' fin
  | .ok (.ret u), fin =>
    obtain ⟨v, H', inv2, rv, ev, last⟩ := inv'.after fin
    subst ev
    exact ⟨rv, ⟨V.ref (s.heap.objs.size + 1), H', inv2, rfl, last⟩⟩
  | .ok .next, fin => exact fin.elim
  | .ok .brk, fin => exact fin.elim
  | .ok .cont, fin => exact fin.elim
/-- C(e, ..), the ends of __init__ as E tells them of the state -/
def tMakeS (C : Addr) (sp : Sp) (E : L2.St → XK) (t : TA) : TE := fun σ H Q => t σ H fun vs H1 => Rd.MkG C sp [] (E σ) vs H1 Q
theorem mkH {t : TA} (h : t σ H fun vs H1 => Rd.MkG C sp [] (E σ) vs H1 Q) : tMakeS C sp E t σ H Q := h
theorem pe_makeS {x : Str} {p pos : Pos} {e : Expr} {es : List Expr} {t : TA} (mk : Mk X.K C f) (ok : FnOk X.prog X.w X.K X.mg X.base CX k f fd ps sp) (room : Room (k + 1) X.A) (gl : Gl X x) (at_ : X.mg x = some (.ref C)) (bd : Binds X.K fd ps []) (pa : ∀ σ, PassesAt CX X σ (E σ))
    (args : PA X (e :: es) t) (d1 : (x == ("__debug__" : Str)) = false := by decide) (d2 : starEach (e :: es) X.env = (false, eval e X.env) :: starEach es X.env := by rfl) (d3 : (backTo pos (starEach es X.env)).any (·.1) = false := by rfl) :
    PE X (.Call (.Name x p) (e :: es) [] pos) (tMakeS C sp E t) :=
  ⟨fun pins s σ H Q inv h => wpAny_Call_Name_kw (ld_glob inv gl at_ (PySem.W.callWith_K (h₀ := X.base) inv.ok.mod.kin mk.kp (thn (args.run pos pins s σ H _ inv h) fun us s1 ⟨vs, H1, inv1, va, q⟩ => ⟨inv1.kIn, go mk ok room bd (pa σ) inv1 va q⟩) d2 d3) d1)⟩
end Rm

/-! Methods that may raise; an expression of one of two readings. -/
namespace Rq
open PySem PySem.Spec PyProof.Rows L2 Rd
section
variable {X : Cx} {CX : CXT} {k : Nat} {f C : Addr} {fd : FuncData} {ps : List Str} {sp : Sp} {E : L2.St → XK} {m : Str} {pos apos : Pos} {e o : Expr} {es : List Expr} {ta : TE} {t : TA}
/-- one of two readings -/
theorem pe_or {u v : TE} (a : PE X e u) (b : PE X e v) : PE X e (fun σ H Q => u σ H Q ∨ v σ H Q) := ⟨fun pins s σ H Q I h => h.elim (a.run pins s σ H Q I) (b.run pins s σ H Q I)⟩
def tMethS (C : Addr) (m : Str) (sp : Sp) (E : L2.St → XK) (ta : TE) (t : TA) : TE := fun σ H Q => ta σ H fun x H1 => Rd.MethG C m x H1 (t σ H1 fun vs H2 => sp (x :: vs) H2 Q (E σ))
theorem methS {C : Addr} {m : Str} {sp : Sp} {E : L2.St → XK} {ta : TE} {t : TA} {σ : L2.St} {H : Hp} {Q : VK} (h : ta σ H fun x H1 => Rd.MethG C m x H1 (t σ H1 fun vs H2 => sp (x :: vs) H2 Q (E σ))) : tMethS C m sp E ta t σ H Q := h
/-- o.m(e, ..), which may raise -/
theorem pe_methS {pl : Sem Bool} (he : PE X o ta) (c : Cls X.K C) (hm : Meth X.K C m f) (F : FnOk X.prog X.w X.K X.mg X.base CX k f fd ps sp) (hr : Room k X.A) (hb : Binds X.K fd ps []) (hx : ∀ σ, PassesAt CX X σ (E σ)) (ha : PA X (e :: es) t)
    (hst : starEach (e :: es) X.env = (false, eval e X.env) :: starEach es X.env := by rfl) (hpl : (backTo pos (starEach es X.env)).any (·.1) = false := by rfl)
    (ht : eval (.Call (.Attribute o m apos) (e :: es) [] pos) X.env = (do
      let ov ← eval o X.env
      standAt apos.atName
      let (f, first) ← holding [ov] (getMethod ov m pl)
      callWith pos f first (backTo pos (starEach (e :: es) X.env)) (backToKw pos (keywordEach [] X.env))) := by rfl) :
    PE X (.Call (.Attribute o m apos) (e :: es) [] pos) (tMethS C m sp E ta t) := ⟨fun pins s σ H Q I h => by
  refine PySem.W.methodCall_KW (pl := pl) (thn (he.run pins s σ H _ I h) fun u s1 hu => ?_) ht
  obtain ⟨x, H1, I1, rx, a, dx, fs, rfl, ea, l, q⟩ := hu
  obtain rfl : u = Value.ref a := rx
  refine getmeth_ok I1 ea c hm l (PySem.W.callWith_K (first := [.ref a]) (h₀ := X.base) I.ok.mod.kin hm.kp (thn (ha.run pos pins s1 σ H1 _ I1 q) fun us s2 hv => ?_) hst hpl)
  obtain ⟨vs, H2, I2, r, q2⟩ := hv
  exact ⟨I2.kIn, run_fnS (us := .ref a :: us) (vs := .ref a :: vs) F hr hb (hx σ) I2 (.cons rfl r) q2⟩⟩
end
/-! ### a caught exception asked for a built-in class -/
theorem kitOwn {K : PySem.W.Frag} {C : Addr} {T : String} {r : Bool} (m : PySem.W.kitMeta T = true) (h : PySem.W.mroIn K C (.type T) = some r) : PySem.W.kitOne K (.ref C) (.type T) = some r := by
  show (if (Value.ref C == Value.type T) = true then some true else if PySem.W.kitMeta T = true then PySem.W.subIn K (.ref C) (.type T) else none) = some r
  rw [if_neg (by simp), if_pos m]
  exact h
theorem isXB {K : PySem.W.Frag} {a fI C dd : Addr} {T : String} {b : Bool} {fs : List (Str × V)} {H : Hp} {Q : VK} (FC : Rx.ExcF K fI C) (m : PySem.W.kitMeta T = true) (h : PySem.W.mroIn K C (.type T) = some b) (hd : H dd = some (.xd fs)) (q : Q (.bl b) H) : Rx.rIsX K a (.ref C) (some dd) [.ref a, .ty T] H Q :=
  ⟨C, dd, fs, _, _, b, rfl, rfl, FC.is, hd, rfl, .ty T, kitOwn m h, q⟩
/-! ### what was raised, where the heap has grown -/
theorem raised_same {C : Addr} {v : V} {H G : Hp} {E : XK} (r : Rx.Raised C v H E) (s : Same H G) : Rx.Raised C v G E := fun d H2 nd hd s2 => r d H2 (s.free nd) hd (s.trans s2)
end Rq

/-! == and != of own objects by an own __eq__, either answer; the other may be anything. -/
namespace Ro
open PySem PySem.Spec PySem.W PyProof.Rows
section
variable {M : Model} {prog : Program} {w : World} {A : Around} {E : Value → Shared → Prop} {s : Shared} {K : Frag} {x C L f : Addr} {h₀ : Heap} {m : Str → Option Value} {ox : Obj} {od : Option Obj} {b tb : Value}
theorem entry_ne (X : K.In s.heap) (I : InstAt s.heap x ox C od) (hs : findIn K (.ref C) "__eq__" = some (some (.ref f))) (hf : isFn K (.ref f) = true) (hu : A.units < cLine) {Q : Fin → Shared → Prop}
    (hcall : wpAny (model prog w) A (call (.ref f) [.ref x, b]) (fun v s' => ∃ k, v = .bool k ∧ Q (.done (.ret (.bool (!k)))) s') E s) :
    wpAny (model prog w) A (Builtin.«object.__ne__» ⟨[.ref x, b], []⟩) Q E s := by
  unfold Builtin.«object.__ne__»
  repeat (first
    | with_reducible refine wpAny_cRoomFor hu ?_
    | (refine wpAny_bind (m := callSpecialIfBound? (.ref x) (Str.ofString "__eq__") [b])
        (ifBound_K X I hs hf (wpAny_mono hcall (fun r s' hr => by
          obtain ⟨b, rfl, hq⟩ := hr
          repeat (first | exact hq | exact wpAny_pure hq | exact wpAny_truthy_bool hq | (refine wpAny_bind (m := truthy (.bool _)) (wpAny_truthy_bool ?_)) | wp_step)) fun _ _ e => e)))
    | wp_step)
theorem ifBound_ne {args : List Value} {Q : Option Value → Shared → Prop} (X : K.In s.heap) (I : InstAt s.heap x ox C od) (hs : findIn K (.ref C) "__ne__" = some (some (.builtin "object.__ne__")))
    (h : wpAny M A (call (.builtin "object.__ne__") (.ref x :: args)) (fun v => Q (some v)) E s) : wpAny M A (callSpecialIfBound? (.ref x) "__ne__" args) Q E s := by
  simp only [callSpecialIfBound?, bindSpecialIfBound?]
  refine wpAny_holding (wpAny_bind (wpAny_bind (wpAny_bind (I.type.here ((looks_findIn X hs).here ?_)))))
  refine wpAny_bind (wpAny_askSetting (wpAny_ite ?_))
  have fin : wpAny M A (call (.builtin "object.__ne__") ([.ref x] ++ args) >>= fun v => pure (some v)) Q E s := wpAny_bind (wpAny_mono h (fun v s' h' => wpAny_pure h') fun _ _ h' => h')
  split
  · exact wpAny_bind (wpAny_of_eq (F.cmp_object.ne.bind _) (wpAny_pure (by exact fin)))
  · exact wpAny_tryCatch (wpAny_bind (wpAny_of_eq (F.cmp_object.ne.bind _) (wpAny_pure (by exact fin))))
theorem call_ne {Q : Value → Shared → Prop} (X : K.In s.heap) (I : InstAt s.heap x ox C od) (hm : mroIn K C (.type "object") = some true) (hs : findIn K (.ref C) "__eq__" = some (some (.ref f))) (hf : isFn K (.ref f) = true) (hu : A.units + 1 < cLine)
    (hcall : wpAny (model prog w) A.in1 (call (.ref f) [.ref x, b]) (fun v s' => ∃ k, v = .bool k ∧ Q (.bool (!k)) s') E s) :
    wpAny (model prog w) A (call (.builtin "object.__ne__") [.ref x, b]) Q E s :=
  wpAny_call (codeAny_call_builtin F.cmp_object.ne.plain F.cmpEntry_ne (check_slot F.cmpKind_ne F.cmpSplit_ne (I.type.andThen (looks_mroIn X hm)) (F.cmpArgs_ne _ _) (entry_ne (A := A.in1) X I hs hf hu (wpAny_mono hcall (fun v s' hv => hv) fun _ _ e => e))))
theorem ne_K {Q : Value → Shared → Prop} (hu : A.units + 1 < cLine) (X : K.In s.heap) (I : InstAt s.heap x ox C od) (hm : mroIn K C (.type "object") = some true) (hb : Looks (model prog w) s.heap (typeOf b) tb) (hn : notFirst K C tb = true)
    (hne : findIn K (.ref C) "__ne__" = some (some (.builtin "object.__ne__"))) (hs : findIn K (.ref C) "__eq__" = some (some (.ref f))) (hf : isFn K (.ref f) = true)
    (h : wpAny (model prog w) A.in1 (call (.ref f) [.ref x, b]) (fun v s' => ∃ k, v = .bool k ∧ Q (.bool (!k)) s') E s) : wpAny (model prog w) A (richCompare .NotEq (.ref x) b) Q E s := by
  have one : wpAny (model prog w) A (tryCompare (.ref x) "__ne__" b) (fun r s' => ∃ v, r = some v ∧ Q v s') E s := by
    unfold tryCompare
    refine wpAny_bind (ifBound_ne X I hne (call_ne X I hm hs hf hu (wpAny_mono h (fun v s' hv => ?_) fun _ _ e => e)))
    obtain ⟨k, rfl, q⟩ := hv
    exact ⟨k, rfl, wpAny_pure ⟨_, rfl, q⟩⟩
  unfold richCompare
  rw [cmpInfo_NotEq]
  simp only [oneThing_ref]
  refine wpAny_holding (wpAny_bind (wpAny_cRoomFor (Nat.lt_of_succ_lt hu) ?_))
  refine wpAny_bind (I.type.here (wpAny_bind (hb.here ?_)))
  split
  · rename_i q
    have e : subIn K tb (.ref C) = some false := by
      rcases Bool.or_eq_true_iff.mp hn with e | e
      · rw [beq_iff_eq.mp e] at q; simp at q
      · exact beq_iff_eq.mp e
    refine wpAny_bind ((looks_subIn X e).here ?_)
    simp only [Bool.false_eq_true, if_false]
    refine wpAny_bind (wpAny_mono one (fun r s' z => ?_) fun _ _ e => e)
    obtain ⟨v, rfl, hq⟩ := z
    exact wpAny_pure hq
  · refine wpAny_bind (wpAny_pure ?_)
    simp only [Bool.false_eq_true, if_false]
    refine wpAny_bind (wpAny_mono one (fun r s' z => ?_) fun _ _ e => e)
    obtain ⟨v, rfl, hq⟩ := z
    exact wpAny_pure hq
end
end Ro
namespace Ro
open PySem PySem.Spec PyProof.Rows L2 Rd
/-- what == and != ask of an own class with an own __eq__ at f -/
structure OwnE (K : PySem.W.Frag) (C f : Addr) : Prop where
  eq : PySem.W.findIn K (.ref C) "__eq__" = some (some (.ref f))
  fn : PySem.W.isFn K (.ref f) = true
  ne : PySem.W.findIn K (.ref C) "__ne__" = some (some (.builtin "object.__ne__"))
  hm : PySem.W.mroIn K C (.type "object") = some true
section
variable {X : Cx} {n : Nat} {CX : CXT} {C f : Addr} {fd : FuncData} {ps : List Str} {sp : Sp} {E : XK}
/-- own == of two instances of C -/
def rOE (C : Addr) (sp : Sp) (E : XK) (g : Bool → Bool) : R2 := fun x y H Q => ∃ a b dx dy fs gs, x = .ref a ∧ y = .ref b ∧ H a = some (.ins C dx fs) ∧ H b = some (.ins C dy gs) ∧ sp [x, y] H (fun v H' => ∃ k, v = .bl k ∧ Q (.bl (g k)) H') E
theorem run_eq {A : Around} (F : FnOk X.prog X.w X.K X.mg X.base CX n f fd ps sp) (hb : Binds X.K fd ps []) (hx : Passes CX X E) (hr : Room n A) (hfr : A.frames = X.A.frames)
    {pins : List (Addr × Obj)} {s : Shared} {σ : L2.St} {H : Hp} {x y : V} {v u : Value} {R : VK} (I : Inv X pins σ H s) (rx : RelV x v) (ry : RelV y u) (hsp : sp [x, y] H R E) :
    wpAny (model X.prog X.w) A (call (.ref f) [v, u]) (EP X pins σ R) X.xe s := by
  have e0 : Env0 X.prog X.w X.K X.mg X.base A X.stack s H := by
    have e := I.env0
    exact ⟨by rw [hfr]; exact e.frames, e.mod, e.bs, e.bsz, e.funs, e.frf, e.hok, e.bare⟩
  have hl := F.len _ _ _ _ hsp
  have r2 : Vals [x, y] [v, u] := .cons rx (.cons ry .nil)
  refine wpAny_call (codeAny_mono (F.run A X.stack s H ⟨[v, u], []⟩ [v, u] [x, y] _ E hr e0 (by
    have := hb s [v, u] I.kIn (by simpa using hl)
    simpa using this) r2 hsp) fun r s' hq => ?_)
  cases r with
  | error e => exact hx pins σ H s e s' I hq
  | ok fl =>
    cases fl with
    | ret w => exact I.after hq
    | next => exact False.elim hq
    | brk => exact False.elim hq
    | cont => exact False.elim hq
theorem op_oe (O : OwnE X.K C f) (F : FnOk X.prog X.w X.K X.mg X.base CX n f fd ps sp) (hb : Binds X.K fd ps []) (hx : Passes CX X E) (hr : Room n X.A) : OpR X (compareOp .Eq) (rOE C sp E id) := by
  intro pins s σ H x y v u Q I rx ry hq
  obtain ⟨a, b, dx, dy, fs, gs, rfl, rfl, ha, hb', hsp⟩ := hq
  cases rx
  cases ry
  obtain ⟨mA, J, _⟩ := ins_get I.hok ha
  obtain ⟨mB, J', _⟩ := ins_get I.hok hb'
  obtain ⟨od, J, _⟩ := J.look
  obtain ⟨od', J', _⟩ := J'.look
  obtain ⟨m, hF⟩ := I.fr
  refine PySem.W.cmp_K (op := .Eq) (tb := .ref C) hr.units0 hF I.ok.mod.kin J J'.type (by simp [PySem.W.notFirst]) O.eq O.fn ?_
  refine wpAny_mono (run_eq F hb hx hr rfl I (x := .ref a) (y := .ref b) rfl rfl hsp) (fun r s' z => ?_) fun _ _ e => e
  obtain ⟨z, H', I', rz, k, ez, q⟩ := z
  subst ez
  cases rz
  exact ⟨.bl k, H', I', rfl, q⟩
theorem op_one (O : OwnE X.K C f) (F : FnOk X.prog X.w X.K X.mg X.base CX n f fd ps sp) (hb : Binds X.K fd ps []) (hx : Passes CX X E) (hr : Room (n + 1) X.A) : OpR X (compareOp .NotEq) (rOE C sp E not) := by
  intro pins s σ H x y v u Q I rx ry hq
  obtain ⟨a, b, dx, dy, fs, gs, rfl, rfl, ha, hb', hsp⟩ := hq
  cases rx
  cases ry
  obtain ⟨mA, J, _⟩ := ins_get I.hok ha
  obtain ⟨mB, J', _⟩ := ins_get I.hok hb'
  obtain ⟨od, J, _⟩ := J.look
  obtain ⟨od', J', _⟩ := J'.look
  refine ne_K (tb := .ref C) hr.in1.units0 I.kIn J O.hm J'.type (by simp [PySem.W.notFirst]) O.ne O.eq O.fn ?_
  refine wpAny_mono (run_eq F hb hx hr.in1 rfl I (x := .ref a) (y := .ref b) rfl rfl hsp) (fun r s' z => ?_) fun _ _ e => e
  obtain ⟨z, H', I', rz, k, ez, q⟩ := z
  subst ez
  cases rz
  exact ⟨k, rfl, .bl (!k), H', I', rfl, q⟩
/-- one of two ways to compare -/
theorem op_or {g : Value → Value → Sem Value} {r r' : R2} (a : OpR X g r) (b : OpR X g r') : OpR X g (fun x y H Q => r x y H Q ∨ r' x y H Q) := fun pins s σ H x y v u Q I rx ry h => h.elim (a pins s σ H x y v u Q I rx ry) (b pins s σ H x y v u Q I rx ry)
theorem oe {C a b dx dy : Addr} {fs gs : List (Str × V)} {H : Hp} {g : Bool → Bool} {Q : VK} (ha : H a = some (.ins C dx fs)) (hb : H b = some (.ins C dy gs)) (h : sp [.ref a, .ref b] H (fun v H' => ∃ k, v = .bl k ∧ Q (.bl (g k)) H') E) : rOE C sp E g (.ref a) (.ref b) H Q :=
  ⟨a, b, dx, dy, fs, gs, rfl, rfl, ha, hb, h⟩
end
end Ro

/-! == of an own object and something else, either side. -/
namespace Rp
open PySem PySem.Spec PySem.W PyProof.Rows
open AutoSeq1 (wpAny_loadPart')
section
variable {prog : Program} {w : World} {A : Around} {E : Value → Shared → Prop} {s : Shared} {K : Frag} {x C dx f : Addr} {Q : Option Value → Shared → Prop}
theorem int_body {i : Int} {t : Tok} {R : Fin → Shared → Prop} (hx : s.heap.get? x = some (instObj C dx)) (h : R (.done (.ret .notImplemented)) s) : wpAny (model prog w) A (Builtin.«int.__eq__» ⟨[.int i t, .ref x], []⟩) R E s := by
  obtain ⟨hp, g, d, tk, os⟩ := s
  wp_walk using wpAny_loadPart' hx
  exact h
theorem bool_body {i : Bool} {R : Fin → Shared → Prop} (hx : s.heap.get? x = some (instObj C dx)) (h : R (.done (.ret .notImplemented)) s) : wpAny (model prog w) A (Builtin.«int.__eq__» ⟨[.bool i, .ref x], []⟩) R E s := by
  obtain ⟨hp, g, d, tk, os⟩ := s
  wp_walk using wpAny_loadPart' hx
  exact h
theorem str_body {i : Str} {t : Tok} {R : Fin → Shared → Prop} (hx : s.heap.get? x = some (instObj C dx)) (h : R (.done (.ret .notImplemented)) s) : wpAny (model prog w) A (Builtin.«str.__eq__» ⟨[.str i t, .ref x], []⟩) R E s := by
  obtain ⟨hp, g, d, tk, os⟩ := s
  wp_walk using wpAny_loadPart' hx
  exact h
theorem none_body {R : Fin → Shared → Prop} (h : R (.done (.ret .notImplemented)) s) : wpAny (model prog w) A (Builtin.«NoneType.__eq__» ⟨[.none, .ref x], []⟩) R E s := by
  obtain ⟨hp, g, d, tk, os⟩ := s
  wp_walk
  exact h
theorem list_body {l : Addr} {R : Fin → Shared → Prop} (X : K.In s.heap) (hm : mroIn K C (.type "list") = some false) (hx : s.heap.get? x = some (instObj C dx)) (h : R (.done (.ret .notImplemented)) s) : wpAny (model prog w) A (Builtin.«list.__eq__» ⟨[.ref l, .ref x], []⟩) R E s := by
  obtain ⟨hp, g, d, tk, os⟩ := s
  wp_walk using wpAny_loadPart' hx
  refine (looks_mroIn X hm).here ?_
  wp_walk
  exact h
/-- the built-in on the left declines -/
theorem declines {v : Value} {T id : String} {B : Builtin} (slot : Slot T (cmpInfo .Eq).2.1 id) (hT : s.TypeIs v T) (entry : entryFor table id = some B) (args : argsOk id ⟨[v, .ref x], []⟩) (hb : ∀ R : Fin → Shared → Prop, R (.done (.ret .notImplemented)) s → ∀ E, wpAny (model prog w) A.in1 (B ⟨[v, .ref x], []⟩) R E s) (hq : Q none s) :
    wpAny (model prog w) A (tryCompare v "__eq__" (.ref x)) Q E s :=
  wpAny_tryCompare_declines hT slot (GQ.call_here slot hT entry args (hb _ ⟨rfl, hq⟩ _))
theorem rc {v : Value} {T : String} {od : Option Obj} {R : Value → Shared → Prop} (hu : A.units < cLine) (X : K.In s.heap) (I : InstAt s.heap x (instObj C dx) C od) (hT : s.TypeIs v T) (hot : oneThing? .Eq v (.ref x) = none) (hm : mroIn K C (.type T) = some false) (hs : findIn K (.ref C) "__eq__" = some (some (.ref f))) (hf : isFn K (.ref f) = true)
    (hd : ∀ Q : Option Value → Shared → Prop, Q none s → wpAny (model prog w) A (tryCompare v "__eq__" (.ref x)) Q E s)
    (h : wpAny (model prog w) A (call (.ref f) [.ref x, v]) (PySem.W.CmpBack R) E s) : wpAny (model prog w) A (richCompare .Eq v (.ref x)) R E s := by
  have one : wpAny (model prog w) A (tryCompare (.ref x) "__eq__" v) (fun r s' => ∃ z, r = some z ∧ R z s') E s := by
    unfold tryCompare
    refine wpAny_bind (ifBound_K X I hs hf (wpAny_mono h (fun z s' hz => ?_) fun _ _ e => e))
    cases z <;> first | exact hz.elim | exact wpAny_pure ⟨_, rfl, hz⟩
  simp only [richCompare, cmpInfo_Eq, hot]
  refine wpAny_holding (wpAny_bind (wpAny_cRoomFor hu ?_))
  refine wpAny_bind (wpAny_typeOf hT (wpAny_bind (I.type.here ?_)))
  split
  · refine wpAny_bind ((looks_mroIn X hm).here ?_)
    simp only [Bool.false_eq_true, if_false, Bool.not_false, if_true]
    refine wpAny_bind (hd _ ?_)
    refine wpAny_bind (wpAny_mono one (fun r s' z => ?_) fun _ _ e => e)
    obtain ⟨v, rfl, hq⟩ := z
    exact wpAny_pure hq
  · rename_i q
    exact absurd (by simp) q
end
end Rp
namespace Rp
open PySem PySem.Spec PyProof.Rows L2 Rd
/-- an own class is none of these built-in ones -/
structure Fgn (K : PySem.W.Frag) (C : Addr) : Prop where
  non : PySem.W.mroIn K C (.type "NoneType") = some false
  int : PySem.W.mroIn K C (.type "int") = some false
  bl : PySem.W.mroIn K C (.type "bool") = some false
  str : PySem.W.mroIn K C (.type "str") = some false
  lst : PySem.W.mroIn K C (.type "list") = some false
/-- None, a number, a flag, a text, a list -/
def Bi (K : PySem.W.Frag) (H : Hp) (x : V) : Prop := x = .non ∨ (∃ i, x = .int i) ∨ (∃ z, x = .bl z) ∨ (∃ z, x = .str z) ∨ ∃ a xs, x = .ref a ∧ SqL K H a xs
section
variable {X : Cx} {n : Nat} {CX : CXT} {C f : Addr} {fd : FuncData} {ps : List Str} {sp : Sp} {E : XK}
/-- such a thing on the left, an instance of C on the right -/
def rXO (K : PySem.W.Frag) (C : Addr) (sp : Sp) (E : XK) : R2 := fun x y H Q => ∃ b dy gs, y = .ref b ∧ H b = some (.ins C dy gs) ∧ Bi K H x ∧ sp [y, x] H (fun v H' => ∃ k, v = .bl k ∧ Q (.bl k) H') E
theorem op_xo (O : Ro.OwnE X.K C f) (G : Fgn X.K C) (F : FnOk X.prog X.w X.K X.mg X.base CX n f fd ps sp) (hb : Binds X.K fd ps []) (hx : Passes CX X E) (hr : Room n X.A) : OpR X (compareOp .Eq) (rXO X.K C sp E) := by
  intro pins s σ H x y v u Q I rx ry hq
  obtain ⟨b, dy, gs, rfl, hb', bi, hsp⟩ := hq
  cases ry
  have hob := (show ObjOk X.prog X.w H s.heap b (.ins C dy gs) from I.hok b _ hb').2.2.2.1
  obtain ⟨mB, J, _⟩ := ins_get I.hok hb'
  obtain ⟨od, J, _⟩ := J.look
  have fin : ∀ {v : Value}, RelV x v → wpAny (model X.prog X.w) X.A (call (.ref f) [.ref b, v]) (PySem.W.CmpBack (EP X pins σ Q)) X.xe s := fun rv =>
    wpAny_mono (Ro.run_eq F hb hx hr rfl I (x := .ref b) rfl rv hsp) (fun r s' z => by
      obtain ⟨z, H', I', rz, k, ez, q⟩ := z
      subst ez
      cases rz
      exact ⟨.bl k, H', I', rfl, q⟩) fun _ _ e => e
  rcases bi with rfl | ⟨i, rfl⟩ | ⟨i, rfl⟩ | ⟨i, rfl⟩ | ⟨a, xs, rfl, ha⟩
  · cases rx
    exact rc hr.units0 I.kIn J (T := "NoneType") rfl rfl G.non O.eq O.fn (fun Q q => declines PySem.F.slot_NoneType_eq rfl PySem.F.entry_NoneType_eq (PySem.F.args_NoneType_eq_2 _ _) (fun R h E => none_body h) q) (fin rfl)
  · obtain ⟨t, rfl⟩ := id rx
    exact rc hr.units0 I.kIn J (T := "int") rfl rfl G.int O.eq O.fn (fun Q q => declines PySem.F.slot_int_eq rfl PySem.F.entry_int_eq (PySem.F.args_int_eq_2 _ _) (fun R h E => int_body hob h) q) (fin rx)
  · cases rx
    exact rc hr.units0 I.kIn J (T := "bool") rfl rfl G.bl O.eq O.fn (fun Q q => declines PySem.F.slot_bool_eq rfl PySem.F.entry_int_eq (PySem.F.args_int_eq_2 _ _) (fun R h E => bool_body hob h) q) (fin rfl)
  · obtain ⟨t, rfl⟩ := id rx
    exact rc hr.units0 I.kIn J (T := "str") rfl rfl G.str O.eq O.fn (fun Q q => declines PySem.F.slot_str_eq rfl PySem.F.entry_str_eq (PySem.F.args_str_eq_2 _ _) (fun R h E => str_body hob h) q) (fin rx)
  · cases rx
    obtain ⟨its, rv, hl, hz⟩ := I.list ha
    have hT : s.TypeIs (.ref a) "list" := let ⟨o, _, e, c, _⟩ := hl; ⟨o, e, c⟩
    exact rc hr.units0 I.kIn J (T := "list") hT rfl G.lst O.eq O.fn (fun Q q => declines PySem.F.slot_list_eq hT PySem.F.entry_list_eq (PySem.F.args_list_eq_2 _ _) (fun R h E => list_body I.kIn G.lst hob h) q) (fin rfl)
/-- an instance of C on the left, something of the type t on the right -/
def rOX (K : PySem.W.Frag) (C : Addr) (sp : Sp) (E : XK) : R2 := fun x y H Q => ∃ a dx fs t, x = .ref a ∧ H a = some (.ins C dx fs) ∧ TyX K H y t ∧ PySem.W.notFirst K C t = true ∧ sp [x, y] H (fun v H' => ∃ k, v = .bl k ∧ Q (.bl k) H') E
theorem op_oxE (oe : PySem.W.findIn X.K (.ref C) "__eq__" = some (some (.ref f))) (of : PySem.W.isFn X.K (.ref f) = true) (F : FnOk X.prog X.w X.K X.mg X.base CX n f fd ps sp) (hb : Binds X.K fd ps []) (hx : Passes CX X E) (hr : Room n X.A) : OpR X (compareOp .Eq) (rOX X.K C sp E) := by
  intro pins s σ H x y v u Q I rx ry hq
  obtain ⟨a, dx, fs, t, rfl, ha, ty, nf, hsp⟩ := hq
  cases rx
  obtain ⟨mA, J, _⟩ := ins_get I.hok ha
  obtain ⟨od, J, _⟩ := J.look
  obtain ⟨m, hF⟩ := I.fr
  obtain ⟨P, kx, hP, _⟩ := kit_of I ry ty
  refine PySem.W.cmp_K (op := .Eq) (tb := t) hr.units0 hF I.ok.mod.kin J (kx.ty _ _ I.kIn hP) nf oe of ?_
  refine wpAny_mono (Ro.run_eq F hb hx hr rfl I (x := .ref a) rfl ry hsp) (fun r s' z => ?_) fun _ _ e => e
  obtain ⟨z, H', I', rz, k, ez, q⟩ := z
  subst ez
  cases rz
  exact ⟨.bl k, H', I', rfl, q⟩
theorem op_ox (O : Ro.OwnE X.K C f) (F : FnOk X.prog X.w X.K X.mg X.base CX n f fd ps sp) (hb : Binds X.K fd ps []) (hx : Passes CX X E) (hr : Room n X.A) : OpR X (compareOp .Eq) (rOX X.K C sp E) := op_oxE O.eq O.fn F hb hx hr
/-- isinstance of a built-in kind and an own class -/
theorem kitB_own {K : PySem.W.Frag} {T : String} (i : PySem.W.isClsIn K C = true) (t : PySem.W.typeIn K (.ref C) = some (.type "type")) (h : ((fastBuiltinMro T).map fun l => l.contains (Value.ref C)) = some false) : PySem.W.kitOne K (.type T) (.ref C) = some false := by
  show (if (Value.type T == Value.ref C) = true then some true else if ((PySem.W.clsIn K C).isSome && PySem.W.typeIn K (.ref C) == some (.type "type")) = true then PySem.W.subIn K (.type T) (.ref C) else none) = some false
  rw [if_neg (by simp), if_pos (by rw [t, show (PySem.W.clsIn K C).isSome = true from i]; simp)]
  exact h
theorem kitO_own {K : PySem.W.Frag} {D : Addr} {r : Bool} (i : PySem.W.isClsIn K C = true) (t : PySem.W.typeIn K (.ref C) = some (.type "type")) (h : PySem.W.subIn K (.ref D) (.ref C) = some r) (ne : (Value.ref D == Value.ref C) = false) : PySem.W.kitOne K (.ref D) (.ref C) = some r := by
  show (if (Value.ref D == Value.ref C) = true then some true else if ((PySem.W.clsIn K C).isSome && PySem.W.typeIn K (.ref C) == some (.type "type")) = true then PySem.W.subIn K (.ref D) (.ref C) else none) = some r
  rw [if_neg (by rw [ne]; simp), if_pos (by rw [t, show (PySem.W.clsIn K C).isSome = true from i]; simp)]
  exact h
theorem notFirst_own {K : PySem.W.Frag} {D : Addr} (h : PySem.W.subIn K (.ref D) (.ref C) = some false) : PySem.W.notFirst K C (.ref D) = true := by
  unfold PySem.W.notFirst
  rw [h]
  simp
end
theorem bi_notFirst {K : PySem.W.Frag} {C : Addr} {T : String} (h : ((fastBuiltinMro T).map fun l => l.contains (Value.ref C)) = some false) : PySem.W.notFirst K C (.type T) = true := by
  unfold PySem.W.notFirst
  rw [show PySem.W.subIn K (.type T) (.ref C) = some false from h]
  simp
end Rp

/-! + - * of own objects and of own objects and ints, - ahead of an own object; // by a divisor of either sign. -/
namespace Rr
open PySem PySem.Spec PySem.W PyProof.Rows
open AutoSeq1 (wpAny_loadPart')
section
variable {prog : Program} {w : World} {A : Around} {E : Value → Shared → Prop} {s : Shared} {K : Frag} {x C dx f g : Addr} {od : Option Obj} {Q : Value → Shared → Prop}
theorem add_body {i : Int} {t : Tok} {R : Fin → Shared → Prop} (hx : s.heap.get? x = some (instObj C dx)) (h : R (.done (.ret .notImplemented)) s) : wpAny (model prog w) A (Builtin.«int.__add__» ⟨[.int i t, .ref x], []⟩) R E s := by
  obtain ⟨hp, g, d, tk, os⟩ := s
  wp_walk using wpAny_loadPart' hx
  exact h
theorem sub_body {i : Int} {t : Tok} {R : Fin → Shared → Prop} (hx : s.heap.get? x = some (instObj C dx)) (h : R (.done (.ret .notImplemented)) s) : wpAny (model prog w) A (Builtin.«int.__sub__» ⟨[.int i t, .ref x], []⟩) R E s := by
  obtain ⟨hp, g, d, tk, os⟩ := s
  wp_walk using wpAny_loadPart' hx
  exact h
theorem mul_body {i : Int} {t : Tok} {R : Fin → Shared → Prop} (hx : s.heap.get? x = some (instObj C dx)) (h : R (.done (.ret .notImplemented)) s) : wpAny (model prog w) A (Builtin.«int.__mul__» ⟨[.int i t, .ref x], []⟩) R E s := by
  obtain ⟨hp, g, d, tk, os⟩ := s
  wp_walk using wpAny_loadPart' hx
  exact h
/-- an own class with both methods of the operator, no int -/
structure Two (K : Frag) (C : Addr) (nm : String) (f g : Addr) : Prop where
  first : selfFirst K C = true
  left : findIn K (.ref C) (PySem.dunder nm) = some (some (.ref f))
  lfn : isFn K (.ref f) = true
  right : findIn K (.ref C) (PySem.dunderR nm) = some (some (.ref g))
  rfn : isFn K (.ref g) = true
  no : mroIn K C (.type "int") = some false
theorem inPython {nm : String} (X : K.In s.heap) (D : Two K C nm f g) : Looks (model prog w) s.heap (numberSlotInPython (.ref C) nm) true := by
  intro A Q E s k q
  unfold numberSlotInPython
  refine wpAny_bind ((looks_findIn X D.left) A _ E s k ?_)
  refine wpAny_bind (wpAny_pure ?_)
  refine wpAny_bind ((looks_findIn X D.right) A _ E s k ?_)
  refine wpAny_bind (wpAny_pure ?_)
  exact wpAny_pure q
theorem fills {nm : String} (X : K.In s.heap) (D : Two K C nm f g) : Looks (model prog w) s.heap (fillsNumberSlot (.ref C) nm) true := by
  obtain ⟨cd, hcd, hm⟩ := any_some D.first
  obtain ⟨rest, hm⟩ : ∃ rest, cd.mro = .ref C :: rest := by
    cases q : cd.mro with
    | nil => rw [q] at hm; cases hm
    | cons a r => rw [q] at hm; exact ⟨r, by rw [List.head?_cons] at hm; cases (beq_iff_eq.mp hm); rfl⟩
  exact fills_K X hcd hm D.left
theorem notInt : subIn K (.type "int") (.ref C) = some false := by
  show ((fastBuiltinMro "int").map fun l => l.contains (Value.ref C)) = some false
  rfl
/-- own object, int -/
theorem own_int1 {nm : String} {i : Int} {t : Tok} {idr : String} {Q : Option Value → Shared → Prop} (X : K.In s.heap) (I : InstAt s.heap x (instObj C dx) C od) (D : Two K C nm f g) (fi : fillsNumberSlot (.type "int") nm = pure true) (sl : Slot "int" (dunderR nm) idr)
    (h : wpAny (model prog w) A (call (.ref f) [.ref x, .int i t]) (PySem.W.CmpBack fun v => Q (some v)) E s) : wpAny (model prog w) A (binaryOp1 nm (.ref x) (.int i t)) Q E s := by
  simp only [binaryOp1]
  refine wpAny_bind (I.type.here (wpAny_bind (wpAny_typeOf (typeIs_int s i t) (wpAny_bind ((fills X D).here ?_)))))
  have ne : (Value.ref C == Value.type "int") = false := by simp
  simp only [ne, Bool.false_eq_true, if_false]
  refine wpAny_bind (wpAny_of_eq fi ?_)
  simp only [Bool.and_self, if_true]
  refine wpAny_bind ((looks_subIn X notInt).here ?_)
  simp only [Bool.false_eq_true, if_false, pure_bind, Bool.not_false, Bool.and_self, if_true]
  refine wpAny_bind ((inPython X D).here ?_)
  have hpy : numberSlotInPython (.type "int") nm = pure false := rfl
  simp only [hpy, pure_bind, Bool.not_false, if_true]
  refine wpAny_bind (wpAny_of_eq sl.lookup ?_)
  refine wpAny_bind (m := tryMethod (.ref x) _ _) ?_
  unfold tryMethod
  refine wpAny_bind (special_fn X I D.left (beq_iff_eq.mp D.lfn) (wpAny_mono h (fun v s' hv => ?_) fun _ _ e => e))
  cases v <;> first | exact hv.elim | exact wpAny_pure (wpAny_pure hv)
theorem own_int {op : Operator} {i : Int} {t : Tok} {idr : String} (X : K.In s.heap) (I : InstAt s.heap x (instObj C dx) C od) (D : Two K C op.info.2 f g) (fi : fillsNumberSlot (.type "int") op.info.2 = pure true) (sl : Slot "int" (dunderR op.info.2) idr)
    (h : wpAny (model prog w) A (call (.ref f) [.ref x, .int i t]) (PySem.W.CmpBack Q) E s) : wpAny (model prog w) A (binaryOp op (.ref x) (.int i t)) Q E s := by
  rcases hi : op.info with ⟨sym, nm⟩
  rw [hi] at D fi sl
  simp only [binaryOp, hi]
  refine wpAny_holding ?_
  refine wpAny_bind (own_int1 X I D fi sl (wpAny_mono h (fun v s' hv => ?_) fun _ _ e => e))
  cases v <;> first | exact hv.elim | exact wpAny_pure hv
/-- int, own object -/
theorem int_own1 {nm : String} {i : Int} {t : Tok} {idl : String} {B : Builtin} {Q : Option Value → Shared → Prop} (X : K.In s.heap) (I : InstAt s.heap x (instObj C dx) C od) (D : Two K C nm f g) (fi : fillsNumberSlot (.type "int") nm = pure true) (sl : Slot "int" (dunder nm) idl)
    (entry : entryFor table idl = some B) (args : argsOk idl ⟨[.int i t, .ref x], []⟩) (hb : ∀ R : Fin → Shared → Prop, R (.done (.ret .notImplemented)) s → ∀ E, wpAny (model prog w) A.in1 (B ⟨[.int i t, .ref x], []⟩) R E s)
    (h : wpAny (model prog w) A (call (.ref g) [.ref x, .int i t]) (PySem.W.CmpBack fun v => Q (some v)) E s) : wpAny (model prog w) A (binaryOp1 nm (.int i t) (.ref x)) Q E s := by
  simp only [binaryOp1]
  refine wpAny_bind (wpAny_typeOf (typeIs_int s i t) (wpAny_bind (I.type.here (wpAny_bind (wpAny_of_eq fi ?_)))))
  have ne : (Value.type "int" == Value.ref C) = false := by simp
  simp only [ne, Bool.false_eq_true, if_false]
  refine wpAny_bind ((fills X D).here ?_)
  simp only [Bool.and_self, if_true]
  refine wpAny_bind ((looks_mroIn X D.no).here ?_)
  have hpy : numberSlotInPython (.type "int") nm = pure false := rfl
  simp only [Bool.false_eq_true, if_false, pure_bind, Bool.not_false, Bool.and_self, if_true, hpy]
  refine wpAny_bind (wpAny_tryMethod_declines (typeIs_int s i t) sl (GQ.call_here sl (typeIs_int s i t) entry args (hb _ ⟨rfl, ?_⟩ _)))
  refine wpAny_bind (m := tryMethod (.ref x) _ _) ?_
  unfold tryMethod
  refine wpAny_bind (special_fn X I D.right (beq_iff_eq.mp D.rfn) (wpAny_mono h (fun v s' hv => ?_) fun _ _ e => e))
  cases v <;> first | exact hv.elim | exact wpAny_pure (wpAny_bind (wpAny_rule (wpAny_pure hv)))
theorem int_own {op : Operator} {i : Int} {t : Tok} {idl : String} {B : Builtin} (X : K.In s.heap) (I : InstAt s.heap x (instObj C dx) C od) (D : Two K C op.info.2 f g) (fi : fillsNumberSlot (.type "int") op.info.2 = pure true) (sl : Slot "int" (dunder op.info.2) idl)
    (entry : entryFor table idl = some B) (args : argsOk idl ⟨[.int i t, .ref x], []⟩) (hb : ∀ R : Fin → Shared → Prop, R (.done (.ret .notImplemented)) s → ∀ E, wpAny (model prog w) A.in1 (B ⟨[.int i t, .ref x], []⟩) R E s)
    (h : wpAny (model prog w) A (call (.ref g) [.ref x, .int i t]) (PySem.W.CmpBack Q) E s) : wpAny (model prog w) A (binaryOp op (.int i t) (.ref x)) Q E s := by
  rcases hi : op.info with ⟨sym, nm⟩
  rw [hi] at D fi sl
  simp only [binaryOp, hi]
  refine wpAny_holding ?_
  refine wpAny_bind (int_own1 X I D fi sl entry args hb (wpAny_mono h (fun v s' hv => ?_) fun _ _ e => e))
  cases v <;> first | exact hv.elim | exact wpAny_pure hv
/-- minus ahead of an own object -/
theorem neg_own {n : Str} (X : K.In s.heap) (I : InstAt s.heap x (instObj C dx) C od) (hn : n = "__neg__") (hs : findIn K (.ref C) n = some (some (.ref f))) (hf : isFn K (.ref f) = true)
    (h : wpAny (model prog w) A (call (.ref f) [.ref x]) Q E s) : wpAny (model prog w) A (unaryOp .USub (.ref x)) Q E s := by
  subst hn
  unfold unaryOp
  refine wpAny_holding ?_
  simp only [show (UnaryOp.USub == UnaryOp.Not) = false from rfl, Bool.false_eq_true, if_false]
  exact wpAny_bind (special_fn X I hs (beq_iff_eq.mp hf) (wpAny_mono h (fun v s' hv => wpAny_pure hv) fun _ _ e => e))
end
end Rr
namespace Rr
open PySem PySem.Spec PyProof.Rows L2 Rd
section
variable {X : Cx} {n : Nat} {CX : CXT} {C f g : Addr} {fd : FuncData} {ps : List Str} {sp : Sp} {E : XK}
/-- both of C; one of C and an int; an int and one of C -/
def rOO (C : Addr) (sp : Sp) (E : XK) : R2 := fun x y H Q => ∃ a b dx dy fs gs, x = .ref a ∧ y = .ref b ∧ H a = some (.ins C dx fs) ∧ H b = some (.ins C dy gs) ∧ sp [x, y] H Q E
def rOI (C : Addr) (sp : Sp) (E : XK) : R2 := fun x y H Q => ∃ a dx fs i, x = .ref a ∧ y = .int i ∧ H a = some (.ins C dx fs) ∧ sp [x, y] H Q E
def rIO (C : Addr) (sp : Sp) (E : XK) : R2 := fun x y H Q => ∃ b dy gs i, x = .int i ∧ y = .ref b ∧ H b = some (.ins C dy gs) ∧ sp [y, x] H Q E
def rNeg (C : Addr) (sp : Sp) (E : XK) : V → Hp → VK → Prop := fun x H Q => ∃ a dx fs, x = .ref a ∧ H a = some (.ins C dx fs) ∧ sp [x] H Q E
theorem oo {C a b dx dy : Addr} {fs gs : List (Str × V)} {H : Hp} {Q : VK} (ha : H a = some (.ins C dx fs)) (hb : H b = some (.ins C dy gs)) (h : sp [.ref a, .ref b] H Q E) : rOO C sp E (.ref a) (.ref b) H Q := ⟨a, b, dx, dy, fs, gs, rfl, rfl, ha, hb, h⟩
theorem oi {C a dx : Addr} {i : Int} {fs : List (Str × V)} {H : Hp} {Q : VK} (ha : H a = some (.ins C dx fs)) (h : sp [.ref a, .int i] H Q E) : rOI C sp E (.ref a) (.int i) H Q := ⟨a, dx, fs, i, rfl, rfl, ha, h⟩
theorem io {C a dx : Addr} {i : Int} {fs : List (Str × V)} {H : Hp} {Q : VK} (ha : H a = some (.ins C dx fs)) (h : sp [.ref a, .int i] H Q E) : rIO C sp E (.int i) (.ref a) H Q := ⟨a, dx, fs, i, rfl, rfl, ha, h⟩
theorem neg {C a dx : Addr} {fs : List (Str × V)} {H : Hp} {Q : VK} (ha : H a = some (.ins C dx fs)) (h : sp [.ref a] H Q E) : rNeg C sp E (.ref a) H Q := ⟨a, dx, fs, rfl, ha, h⟩
theorem back {z : V} {v : Value} {s : Shared} {R : Value → Shared → Prop} (r : RelV z v) (h : R v s) : PySem.W.CmpBack R v s := by
  cases v <;> first | exact h | (cases z <;> first | (cases r; done) | (obtain ⟨_, e⟩ := r; cases e) | exact r.elim)
theorem run1 {A : Around} (F : FnOk X.prog X.w X.K X.mg X.base CX n f fd ps sp) (hb : Binds X.K fd ps []) (hx : Passes CX X E) (hr : Room n A) (hfr : A.frames = X.A.frames)
    {pins : List (Addr × Obj)} {s : Shared} {σ : L2.St} {H : Hp} {xs : List V} {us : List Value} {R : VK} (I : Inv X pins σ H s) (r2 : Vals xs us) (hsp : sp xs H R E) :
    wpAny (model X.prog X.w) A (call (.ref f) us) (EP X pins σ R) X.xe s := by
  have e0 : Env0 X.prog X.w X.K X.mg X.base A X.stack s H := by
    have e := I.env0
    exact ⟨by rw [hfr]; exact e.frames, e.mod, e.bs, e.bsz, e.funs, e.frf, e.hok, e.bare⟩
  have hl := F.len _ _ _ _ hsp
  refine wpAny_call (codeAny_mono (F.run A X.stack s H ⟨us, []⟩ us xs _ E hr e0 (by
    have := hb s us I.kIn (by rw [List.append_nil, ← r2.length]; exact hl)
    simpa using this) r2 hsp) fun r s' hq => ?_)
  cases r with
  | error e => exact hx pins σ H s e s' I hq
  | ok fl =>
    cases fl with
    | ret w => exact I.after hq
    | next => exact False.elim hq
    | brk => exact False.elim hq
    | cont => exact False.elim hq
theorem ep_back {pins : List (Addr × Obj)} {σ : L2.St} {Q : VK} {v : Value} {s : Shared} (h : EP X pins σ Q v s) : PySem.W.CmpBack (EP X pins σ Q) v s := by
  obtain ⟨z, H', I', rz, q⟩ := id h
  exact back rz h
theorem op_oo {op : Operator} (first : PySem.W.selfFirst X.K C = true) (hs : PySem.W.findIn X.K (.ref C) (PySem.dunder op.info.2) = some (some (.ref f))) (hf : PySem.W.isFn X.K (.ref f) = true) (F : FnOk X.prog X.w X.K X.mg X.base CX n f fd ps sp) (hb : Binds X.K fd ps []) (hx : Passes CX X E) (hr : Room n X.A) :
    OpR X (binaryOp op) (rOO C sp E) := by
  intro pins s σ H x y v u Q I rx ry hq
  obtain ⟨a, b, dx, dy, fs, gs, rfl, rfl, ha, hb', hsp⟩ := hq
  cases rx
  cases ry
  obtain ⟨mA, J, _⟩ := ins_get I.hok ha
  obtain ⟨mB, J', _⟩ := ins_get I.hok hb'
  obtain ⟨od, J, _⟩ := J.look
  obtain ⟨od', J', _⟩ := J'.look
  obtain ⟨m, hF⟩ := I.fr
  exact PySem.W.binop_K hF I.ok.mod.kin J J'.type first hs hf (wpAny_mono (run1 F hb hx hr rfl I (xs := [.ref a, .ref b]) (.cons rfl (.cons rfl .nil)) hsp) (fun r s' z => ep_back z) fun _ _ e => e)
theorem op_oi {op : Operator} {idr : String} (D : Two X.K C op.info.2 f g) (fi : fillsNumberSlot (.type "int") op.info.2 = pure true) (sl : Slot "int" (dunderR op.info.2) idr) (F : FnOk X.prog X.w X.K X.mg X.base CX n f fd ps sp) (hb : Binds X.K fd ps []) (hx : Passes CX X E) (hr : Room n X.A) :
    OpR X (binaryOp op) (rOI C sp E) := by
  intro pins s σ H x y v u Q I rx ry hq
  obtain ⟨a, dx, fs, i, rfl, rfl, ha, hsp⟩ := hq
  cases rx
  obtain ⟨t, rfl⟩ := id ry
  obtain ⟨mA, J, _⟩ := ins_get I.hok ha
  obtain ⟨od, J, _⟩ := J.look
  exact own_int I.kIn J D fi sl (wpAny_mono (run1 F hb hx hr rfl I (xs := [.ref a, .int i]) (.cons rfl (.cons ry .nil)) hsp) (fun r s' z => ep_back z) fun _ _ e => e)
theorem op_io {op : Operator} {idl : String} {B : Builtin} (D : Two X.K C op.info.2 f g) (fi : fillsNumberSlot (.type "int") op.info.2 = pure true) (sl : Slot "int" (dunder op.info.2) idl) (entry : entryFor table idl = some B) (args : ∀ a b : Value, argsOk idl ⟨[a, b], []⟩)
    (hbd : ∀ {A : Around} {E : Value → Shared → Prop} {s : Shared} {x dx : Addr} {i : Int} {t : Tok} {R : Fin → Shared → Prop}, s.heap.get? x = some (PySem.W.instObj C dx) → R (.done (.ret .notImplemented)) s → wpAny (model X.prog X.w) A (B ⟨[.int i t, .ref x], []⟩) R E s)
    (F : FnOk X.prog X.w X.K X.mg X.base CX n g fd ps sp) (hb : Binds X.K fd ps []) (hx : Passes CX X E) (hr : Room n X.A) : OpR X (binaryOp op) (rIO C sp E) := by
  intro pins s σ H x y v u Q I rx ry hq
  obtain ⟨b, dy, gs, i, rfl, rfl, hb', hsp⟩ := hq
  cases ry
  obtain ⟨t, rfl⟩ := id rx
  have hob := (show ObjOk X.prog X.w H s.heap b (.ins C dy gs) from I.hok b _ hb').2.2.2.1
  obtain ⟨mA, J, _⟩ := ins_get I.hok hb'
  obtain ⟨od, J, _⟩ := J.look
  exact int_own I.kIn J D fi sl entry (args _ _) (fun R h E => hbd hob h) (wpAny_mono (run1 F hb hx hr rfl I (xs := [.ref b, .int i]) (.cons rfl (.cons rx .nil)) hsp) (fun r s' z => ep_back z) fun _ _ e => e)
theorem un_neg (hs : PySem.W.findIn X.K (.ref C) "__neg__" = some (some (.ref f))) (hf : PySem.W.isFn X.K (.ref f) = true) (F : FnOk X.prog X.w X.K X.mg X.base CX n f fd ps sp) (hb : Binds X.K fd ps []) (hx : Passes CX X E) (hr : Room n X.A) : UnR X (unaryOp .USub) (rNeg C sp E) := by
  intro pins s σ H x v Q I rx hq
  obtain ⟨a, dx, fs, rfl, ha, hsp⟩ := hq
  cases rx
  obtain ⟨mA, J, _⟩ := ins_get I.hok ha
  obtain ⟨od, J, _⟩ := J.look
  exact neg_own I.kIn J rfl hs hf (run1 F hb hx hr rfl I (xs := [.ref a]) (.cons rfl .nil) hsp)
/-- != of an instance of C and something of the type t -/
def rNX (K : PySem.W.Frag) (C : Addr) (sp : Sp) (E : XK) : R2 := fun x y H Q => ∃ a dx fs t, x = .ref a ∧ H a = some (.ins C dx fs) ∧ TyX K H y t ∧ PySem.W.notFirst K C t = true ∧ sp [x, y] H (fun v H' => ∃ k, v = .bl k ∧ Q (.bl (!k)) H') E
theorem op_nx (O : Ro.OwnE X.K C f) (F : FnOk X.prog X.w X.K X.mg X.base CX n f fd ps sp) (hb : Binds X.K fd ps []) (hx : Passes CX X E) (hr : Room (n + 1) X.A) : OpR X (compareOp .NotEq) (rNX X.K C sp E) := by
  intro pins s σ H x y v u Q I rx ry hq
  obtain ⟨a, dx, fs, t, rfl, ha, ty, nf, hsp⟩ := hq
  cases rx
  obtain ⟨mA, J, _⟩ := ins_get I.hok ha
  obtain ⟨od, J, _⟩ := J.look
  obtain ⟨P, kx, hP, _⟩ := kit_of I ry ty
  refine Ro.ne_K (tb := t) hr.in1.units0 I.kIn J O.hm (kx.ty _ _ I.kIn hP) nf O.ne O.eq O.fn ?_
  refine wpAny_mono (Ro.run_eq F hb hx hr.in1 rfl I (x := .ref a) rfl ry hsp) (fun r s' z => ?_) fun _ _ e => e
  obtain ⟨z, H', I', rz, k, ez, q⟩ := z
  subst ez
  cases rz
  exact ⟨k, rfl, .bl (!k), H', I', rfl, q⟩
/-- // by a divisor of either sign, not too great -/
def CDivZ (_ j : Int) : Prop := j ≠ 0 ∧ j.natAbs.log2 < 9000
theorem op_fdivZ : OpR X (binaryOp .FloorDiv) (rI CDivZ fun i j => .int (i.fdiv j)) := opI fun i j _ _ _ _ _ hc q => floordiv_int hc.1 q (.inl (PyProof.noPylong_of_log2 hc.2))
/-- the three operators -/
theorem dAdd : PySem.dunder Operator.Add.info.2 = ("__add__" : Str) := by decide +kernel
theorem dSub : PySem.dunder Operator.Sub.info.2 = ("__sub__" : Str) := by decide +kernel
theorem dMul : PySem.dunder Operator.Mult.info.2 = ("__mul__" : Str) := by decide +kernel
theorem dRadd : dunderR Operator.Add.info.2 = ("__radd__" : Str) := by decide +kernel
theorem dRsub : dunderR Operator.Sub.info.2 = ("__rsub__" : Str) := by decide +kernel
theorem dRmul : dunderR Operator.Mult.info.2 = ("__rmul__" : Str) := by decide +kernel
variable (first : PySem.W.selfFirst X.K C = true) (no : PySem.W.mroIn X.K C (.type "int") = some false)
include first
theorem addO (hm : Meth X.K C "__add__" f) (F : FnOk X.prog X.w X.K X.mg X.base CX n f fd ps sp) (hb : Binds X.K fd ps []) (hx : Passes CX X E) (hr : Room n X.A) : OpR X (binaryOp .Add) (rOO C sp E) := op_oo first (by rw [dAdd]; exact hm.at_) hm.fn F hb hx hr
theorem subO (hm : Meth X.K C "__sub__" f) (F : FnOk X.prog X.w X.K X.mg X.base CX n f fd ps sp) (hb : Binds X.K fd ps []) (hx : Passes CX X E) (hr : Room n X.A) : OpR X (binaryOp .Sub) (rOO C sp E) := op_oo first (by rw [dSub]; exact hm.at_) hm.fn F hb hx hr
theorem mulO (hm : Meth X.K C "__mul__" f) (F : FnOk X.prog X.w X.K X.mg X.base CX n f fd ps sp) (hb : Binds X.K fd ps []) (hx : Passes CX X E) (hr : Room n X.A) : OpR X (binaryOp .Mult) (rOO C sp E) := op_oo first (by rw [dMul]; exact hm.at_) hm.fn F hb hx hr
include no
theorem twoAdd (hm : Meth X.K C "__add__" f) (hg : Meth X.K C "__radd__" g) : Two X.K C Operator.Add.info.2 f g := ⟨first, by rw [dAdd]; exact hm.at_, hm.fn, by rw [dRadd]; exact hg.at_, hg.fn, no⟩
theorem twoSub (hm : Meth X.K C "__sub__" f) (hg : Meth X.K C "__rsub__" g) : Two X.K C Operator.Sub.info.2 f g := ⟨first, by rw [dSub]; exact hm.at_, hm.fn, by rw [dRsub]; exact hg.at_, hg.fn, no⟩
theorem twoMul (hm : Meth X.K C "__mul__" f) (hg : Meth X.K C "__rmul__" g) : Two X.K C Operator.Mult.info.2 f g := ⟨first, by rw [dMul]; exact hm.at_, hm.fn, by rw [dRmul]; exact hg.at_, hg.fn, no⟩
theorem addOI (hm : Meth X.K C "__add__" f) (hg : Meth X.K C "__radd__" g) (F : FnOk X.prog X.w X.K X.mg X.base CX n f fd ps sp) (hb : Binds X.K fd ps []) (hx : Passes CX X E) (hr : Room n X.A) : OpR X (binaryOp .Add) (rOI C sp E) := op_oi (twoAdd first no hm hg) PySem.F.fills_int_add PySem.F.slot_int_radd F hb hx hr
theorem subOI (hm : Meth X.K C "__sub__" f) (hg : Meth X.K C "__rsub__" g) (F : FnOk X.prog X.w X.K X.mg X.base CX n f fd ps sp) (hb : Binds X.K fd ps []) (hx : Passes CX X E) (hr : Room n X.A) : OpR X (binaryOp .Sub) (rOI C sp E) := op_oi (twoSub first no hm hg) PySem.F.fills_int_sub PySem.F.slot_int_rsub F hb hx hr
theorem mulOI (hm : Meth X.K C "__mul__" f) (hg : Meth X.K C "__rmul__" g) (F : FnOk X.prog X.w X.K X.mg X.base CX n f fd ps sp) (hb : Binds X.K fd ps []) (hx : Passes CX X E) (hr : Room n X.A) : OpR X (binaryOp .Mult) (rOI C sp E) := op_oi (twoMul first no hm hg) PySem.F.fills_int_mul PySem.F.slot_int_rmul F hb hx hr
theorem addIO (hm : Meth X.K C "__add__" f) (hg : Meth X.K C "__radd__" g) (F : FnOk X.prog X.w X.K X.mg X.base CX n g fd ps sp) (hb : Binds X.K fd ps []) (hx : Passes CX X E) (hr : Room n X.A) : OpR X (binaryOp .Add) (rIO C sp E) := op_io (twoAdd first no hm hg) PySem.F.fills_int_add PySem.F.slot_int_add PySem.F.entry_int_add (PySem.F.args_int_add_2) add_body F hb hx hr
theorem subIO (hm : Meth X.K C "__sub__" f) (hg : Meth X.K C "__rsub__" g) (F : FnOk X.prog X.w X.K X.mg X.base CX n g fd ps sp) (hb : Binds X.K fd ps []) (hx : Passes CX X E) (hr : Room n X.A) : OpR X (binaryOp .Sub) (rIO C sp E) := op_io (twoSub first no hm hg) PySem.F.fills_int_sub PySem.F.slot_int_sub PySem.F.entry_int_sub (PySem.F.args_int_sub_2) sub_body F hb hx hr
theorem mulIO (hm : Meth X.K C "__mul__" f) (hg : Meth X.K C "__rmul__" g) (F : FnOk X.prog X.w X.K X.mg X.base CX n g fd ps sp) (hb : Binds X.K fd ps []) (hx : Passes CX X E) (hr : Room n X.A) : OpR X (binaryOp .Mult) (rIO C sp E) := op_io (twoMul first no hm hg) PySem.F.fills_int_mul PySem.F.slot_int_mul PySem.F.entry_int_mul (PySem.F.args_int_mul_2) mul_body F hb hx hr
end
end Rr

/-! sum(row of own objects); row.count(flag). -/
namespace Rj
open PySem PySem.Spec PyProof.Rows L2 Rd
section
variable {X : Cx} {n : Nat} {CX : CXT} {C f g : Addr} {fd : FuncData} {ps : List Str} {sp : Sp} {E : XK} {r r2 : R2}
def Never (CX : CXT) : Prop := ∀ a b c d e z, ¬ CX a b c d e z
/-- an operator that raises nothing, wherever it is asked -/
def OpA (X : Cx) (n : Nat) (f : Value → Value → Sem Value) (r : R2) : Prop :=
  ∀ (A : Around) (EE : Value → Shared → Prop) (pins : List (Addr × Obj)) (s : Shared) (σ : L2.St) (H : Hp) (x y : V) (v u : Value) (Q : VK), Room n A → A.frames = X.A.frames → Inv X pins σ H s → RelV x v → RelV y u → r x y H Q →
    wpAny (model X.prog X.w) A (f v u) (EP X pins σ Q) EE s
theorem runA {A : Around} (F : FnOk X.prog X.w X.K X.mg X.base CX n f fd ps sp) (hb : Binds X.K fd ps []) (hx : Never CX) (hr : Room n A) (hfr : A.frames = X.A.frames)
    {pins : List (Addr × Obj)} {s : Shared} {σ : L2.St} {H : Hp} {xs : List V} {us : List Value} {R : VK} {EE : Value → Shared → Prop} (I : Inv X pins σ H s) (r2 : Vals xs us) (hsp : sp xs H R E) :
    wpAny (model X.prog X.w) A (call (.ref f) us) (EP X pins σ R) EE s := by
  have e0 : Env0 X.prog X.w X.K X.mg X.base A X.stack s H := by
    have e := I.env0
    exact ⟨by rw [hfr]; exact e.frames, e.mod, e.bs, e.bsz, e.funs, e.frf, e.hok, e.bare⟩
  have hl := F.len _ _ _ _ hsp
  refine wpAny_call (codeAny_mono (F.run A X.stack s H ⟨us, []⟩ us xs _ E hr e0 (by
    have := hb s us I.kIn (by rw [List.append_nil, ← r2.length]; exact hl)
    simpa using this) r2 hsp) fun r s' hq => ?_)
  cases r with
  | error e => exact (hx _ _ _ _ _ _ hq).elim
  | ok fl =>
    cases fl with
    | ret w => exact I.after hq
    | next => exact False.elim hq
    | brk => exact False.elim hq
    | cont => exact False.elim hq
theorem opA_oo {op : Operator} (first : PySem.W.selfFirst X.K C = true) (hs : PySem.W.findIn X.K (.ref C) (PySem.dunder op.info.2) = some (some (.ref f))) (hf : PySem.W.isFn X.K (.ref f) = true) (F : FnOk X.prog X.w X.K X.mg X.base CX n f fd ps sp) (hb : Binds X.K fd ps []) (hx : Never CX) :
    OpA X n (binaryOp op) (Rr.rOO C sp E) := by
  intro A EE pins s σ H x y v u Q hr hfr I rx ry hq
  obtain ⟨a, b, dx, dy, fs, gs, rfl, rfl, ha, hb', hsp⟩ := hq
  cases rx
  cases ry
  obtain ⟨mA, J, _⟩ := ins_get I.hok ha
  obtain ⟨mB, J', _⟩ := ins_get I.hok hb'
  obtain ⟨od, J, _⟩ := J.look
  obtain ⟨od', J', _⟩ := J'.look
  obtain ⟨m, hF⟩ := I.fr
  exact PySem.W.binop_K hF I.ok.mod.kin J J'.type first hs hf (wpAny_mono (runA F hb hx hr hfr I (xs := [.ref a, .ref b]) (.cons rfl (.cons rfl .nil)) hsp) (fun r s' z => Rr.ep_back z) fun _ _ e => e)
theorem opA_io {op : Operator} {idl : String} {B : Builtin} (D : Rr.Two X.K C op.info.2 f g) (fi : fillsNumberSlot (.type "int") op.info.2 = pure true) (sl : Slot "int" (dunder op.info.2) idl) (entry : entryFor table idl = some B) (args : ∀ a b : Value, argsOk idl ⟨[a, b], []⟩)
    (hbd : ∀ {A : Around} {E : Value → Shared → Prop} {s : Shared} {x dx : Addr} {i : Int} {t : Tok} {R : Fin → Shared → Prop}, s.heap.get? x = some (PySem.W.instObj C dx) → R (.done (.ret .notImplemented)) s → wpAny (model X.prog X.w) A (B ⟨[.int i t, .ref x], []⟩) R E s)
    (F : FnOk X.prog X.w X.K X.mg X.base CX n g fd ps sp) (hb : Binds X.K fd ps []) (hx : Never CX) : OpA X n (binaryOp op) (Rr.rIO C sp E) := by
  intro A EE pins s σ H x y v u Q hr hfr I rx ry hq
  obtain ⟨b, dy, gs, i, rfl, rfl, hb', hsp⟩ := hq
  cases ry
  obtain ⟨t, rfl⟩ := id rx
  have hob := (show ObjOk X.prog X.w H s.heap b (.ins C dy gs) from I.hok b _ hb').2.2.2.1
  obtain ⟨mA, J, _⟩ := ins_get I.hok hb'
  obtain ⟨od, J, _⟩ := J.look
  exact Rr.int_own I.kIn J D fi sl entry (args _ _) (fun R h E => hbd hob h) (wpAny_mono (runA F hb hx hr hfr I (xs := [.ref b, .int i]) (.cons rfl (.cons rx .nil)) hsp) (fun r s' z => Rr.ep_back z) fun _ _ e => e)
theorem OpA.or {f : Value → Value → Sem Value} (h : OpA X n f r) (k : OpA X n f r2) : OpA X n f (fun x y H Q => r x y H Q ∨ r2 x y H Q) := fun A EE pins s σ H x y v u Q hr hfr I rx ry hq =>
  hq.elim (h A EE pins s σ H x y v u Q hr hfr I rx ry) (k A EE pins s σ H x y v u Q hr hfr I rx ry)
theorem FpOk.mono {pins pl : List (Addr × Obj)} {H H' : Hp} {b : Addr} (h : FpOk X pins H b) (hn : H' b = none) (k : ∀ p ∈ pl, p.1 ≠ b) : FpOk X (pins ++ pl) H' b :=
  ⟨hn, h.2.1, h.2.2.1, h.2.2.2.1, h.2.2.2.2.1, fun p hp => by
    rw [← List.append_assoc] at hp
    exact (List.mem_append.mp hp).elim (h.2.2.2.2.2 p) (k p)⟩
theorem opA_up {f : Value → Value → Sem Value} {m : Nat} (h : OpA X n f r) (l : n ≤ m) : OpA X m f r := fun A EE pins s σ H x y v u Q hr => h A EE pins s σ H x y v u Q (hr.mono l)
theorem never0 : Never CX0 := fun _ _ _ _ _ _ h => h
/-- 0 + own, own + own -/
theorem opA_add {k : Nat} {gd : FuncData} {sq : Sp} {m : Nat} (first : PySem.W.selfFirst X.K C = true) (no : PySem.W.mroIn X.K C (.type "int") = some false) (hm : Meth X.K C "__add__" f) (hg : Meth X.K C "__radd__" g)
    (F : FnOk X.prog X.w X.K X.mg X.base CX0 n f fd ps sp) (hb : Binds X.K fd ps []) {qs : List Str} (G : FnOk X.prog X.w X.K X.mg X.base CX0 k g gd qs sq) (hc : Binds X.K gd qs []) (l1 : n ≤ m) (l2 : k ≤ m) :
    OpA X m (binaryOp .Add) (fun x y H Q => Rr.rOO C sp E x y H Q ∨ Rr.rIO C sq E x y H Q) :=
  (opA_up (opA_oo first (by rw [Rr.dAdd]; exact hm.at_) hm.fn F hb never0) l1).or
    (opA_up (opA_io (Rr.twoAdd first no hm hg) PySem.F.fills_int_add PySem.F.slot_int_add PySem.F.entry_int_add PySem.F.args_int_add_2 Rr.add_body G hc never0) l2)
/-- what sum goes through: W by the number of items that are in -/
structure Sums (K : PySem.W.Frag) (r : R2) (a : Addr) (xs : List V) (W : Nat → V → Hp → Prop) : Prop where
  here : ∀ i t H, W i t H → SqL K H a xs ∧ ((i = 0 ∧ t = .int 0) ∨ ∃ p, t = .ref p)
  step : ∀ i x t H, xs[i]? = some x → W i t H → (∃ p, x = .ref p) ∧ r t x H fun t' H' => (∃ p, t' = .ref p) ∧ W (i + 1) t' H'
def box (v : Value) (c : Nat) : Obj := { cls := .type "list", dict := none, data := .seq #[v] c, slots := #[] }
theorem loop {A : Around} {m : Nat} {a S it : Addr} {xs : List V} {W : Nat → V → Hp → Prop} {pins : List (Addr × Obj)} {σ : L2.St} {R : Result → Shared → Prop} (hr : Room m A.in1) (hfr : A.in1.frames = X.A.frames) (hadd : OpA X m (binaryOp .Add) r) (hS : Sums X.K r a xs W) (ne : S ≠ it)
    (hR : ∀ t tv s H, Inv X pins σ H s → RelV t tv → W xs.length t H → R (.ok (.ret tv)) s) :
    ∀ (k i : Nat) (s : Shared) (H : Hp) (t : V) (tv : Value) (c : Nat) (st : Int), xs.length - i = k → i ≤ xs.length → Inv X pins σ H s → W i t H → RelV t tv → (i = 0 → st = 0) → s.heap.IsListIter it a i → FpOk X pins H it → s.heap.get? S = some (box tv c) → FpOk X pins H S →
      codeAny (model X.prog X.w) A (.builtin "sum.loop" ⟨[.ref it, .ref S, rawInt st, rawInt 0], []⟩) R s := by
  intro k
  induction k with
  | zero =>
    intro i s H t tv c st hk hi I w rt hst hit fit hs fS
    have hin : i = xs.length := by omega
    subst hin
    obtain ⟨hq, ht⟩ := hS.here _ _ _ w
    obtain ⟨its, rv, p, hz⟩ := I.list hq
    have hl := rv.length
    obtain ⟨f0, f1, f2, f3, f4, f5⟩ := fit
    refine codeAny_builtin F.entry_sum_loop ?_
    rw [Around.under_plainId F.plain_sum_loop _]
    show wpAny _ A.in1 (seqItems? (.ref S) >>= _) _ _ s
    refine wpAny_bind (wpAny_seqItems hs rfl ?_)
    show wpAny _ A.in1 (tryCatch (pyNext (.ref it)) _ >>= _) _ _ s
    refine wpAny_bind (wpAny_tryCatch (wpAny_pyNext_list_end hr.hd hit p.isList (by simp; omega) fun h' eb => ?_))
    have I1 : Inv X pins σ H { s with heap := h' } := I.turned (t' := s.toks) (fun b o hb e => eb b o hb e) f0 f1 f3 f4 f5
    have fin := hR t tv _ H I1 rt w
    rcases ht with ⟨_, rfl⟩ | ⟨p, rfl⟩
    · obtain ⟨tk, rfl⟩ := rt
      exact wpAny_pure fin
    · cases rt
      exact wpAny_pure fin
  | succ k ih =>
    intro i s H t tv c st hk hi I w rt hst hit fit hs fS
    have hlt : i < xs.length := by omega
    obtain ⟨hq, ht⟩ := hS.here _ _ _ w
    obtain ⟨its, rv, p, hz⟩ := I.list hq
    obtain ⟨x, hx⟩ : ∃ x, xs[i]? = some x := ⟨_, List.getElem?_eq_getElem hlt⟩
    obtain ⟨⟨b, rfl⟩, hq2⟩ := hS.step i x t H hx w
    obtain ⟨u, hu, ru⟩ := rv.get hx
    cases ru
    obtain ⟨f0, f1, f2, f3, f4, f5⟩ := id fit
    refine codeAny_builtin F.entry_sum_loop ?_
    rw [Around.under_plainId F.plain_sum_loop _]
    show wpAny _ A.in1 (seqItems? (.ref S) >>= _) _ _ s
    refine wpAny_bind (wpAny_seqItems hs rfl ?_)
    show wpAny _ A.in1 (tryCatch (pyNext (.ref it)) _ >>= _) _ _ s
    refine wpAny_bind (wpAny_tryCatch (wpAny_pyNext_list_item hit p.isList (x := .ref b) (by simpa using hu) fun h' hit' sb => ?_))
    have I1 : Inv X pins σ H { s with heap := h' } := I.turned (t' := s.toks) (fun b o hb e => (sb.2 b hb).trans e) f0 f1 f3 f4 f5
    have hs1 : h'.get? S = some (box tv c) := (sb.2 S ne).trans hs
    obtain ⟨ito, hito, hic, hid⟩ := id hit'
    have I2 : Inv X (pins ++ [(it, ito), (S, box tv c)]) σ H { s with heap := h' } := I1.pins_of fun p hp => by
      rcases List.mem_append.mp hp with hp | hp
      · exact I1.pin p (List.mem_append_right _ hp)
      · rcases List.mem_cons.mp hp with rfl | hp
        · exact ⟨hito, f0, f1, f2, fun v z => by rw [hid] at z; cases z⟩
        · rcases List.mem_singleton.mp hp with rfl
          exact ⟨hs1, fS.1, fS.2.1, fS.2.2.1, fun v z => by cases z⟩
    have go : ∀ (res : Value) (s' : Shared), EP X (pins ++ [(it, ito), (S, box tv c)]) σ (fun t' H' => (∃ p, t' = .ref p) ∧ W (i + 1) t' H') res s' → (∃ q, res = .ref q) ∧
        wpAny (model X.prog X.w) A.in1 (updateSeq S (fun _ => #[res]) >>= fun _ => letGo [tv, .ref b] >>= fun _ => updateSeq S (fun _ => #[res]) >>= fun _ => again (.builtin "sum.loop" ⟨[.ref it, .ref S, rawInt 2, rawInt 0], []⟩))
          (fun fin s' => match fin with | .done f => R (.ok f) s' | .again c' => c'.quiet = true ∧ codeAny (model X.prog X.w) A c' R s') (fun e s' => R (.error e) s') s' := by
      rintro res s' ⟨z, H', I', rz, ⟨q, rfl⟩, w'⟩
      have rz' := rz
      cases rz
      refine ⟨⟨q, rfl⟩, ?_⟩
      obtain ⟨ei, ni, _⟩ := I'.pin (it, ito) (List.mem_append_right _ (List.mem_append_right _ (List.mem_cons_self ..)))
      obtain ⟨eS, nS, _⟩ := I'.pin (S, box tv c) (List.mem_append_right _ (List.mem_append_right _ (List.mem_cons_of_mem _ (List.mem_cons_self ..))))
      have I3 := I'.unpinned
      have fS' : FpOk X pins H' S := ⟨nS, fS.2⟩
      have fit' : FpOk X pins H' it := ⟨ni, f1, f2, f3, f4, f5⟩
      refine wpAny_bind (wpAny_updateSeq eS rfl ?_)
      have hS2 := Heap.get?_update_self (Obj.mapSeq fun _ => #[Value.ref q]) eS rfl
      refine wpAny_bind (wpAny_letGo ?_)
      refine wpAny_bind (wpAny_updateSeq hS2 rfl (wpAny_pure ⟨plainId_quiet F.plain_sum_loop _, ?_⟩))
      have I4 : Inv X pins σ H' { s' with heap := (s'.heap.update S (Obj.mapSeq fun _ => #[Value.ref q])).update S (Obj.mapSeq fun _ => #[Value.ref q]) } :=
        I3.turned (t' := s'.toks) (fun b o hb e => (Heap.get?_update_other _ _ (fun h : S = b => hb h.symm)).trans ((Heap.get?_update_other _ _ (fun h : S = b => hb h.symm)).trans e)) fS'.1 fS'.2.1 fS'.2.2.2.1 fS'.2.2.2.2.1 fS'.2.2.2.2.2
      have hit2 : Heap.IsListIter ((s'.heap.update S (Obj.mapSeq fun _ => #[Value.ref q])).update S (Obj.mapSeq fun _ => #[Value.ref q])) it a (i + 1) :=
        hit'.at fun o e => by
          have : o = ito := by rw [hito] at e; exact (Option.some.inj e).symm
          subst this
          exact (Heap.get?_update_other _ _ (fun h : S = it => ne h)).trans ((Heap.get?_update_other _ _ (fun h : S = it => ne h)).trans ei)
      exact ih (i + 1) _ H' (.ref q) (.ref q) _ 2 (by omega) hlt I4 w' rz' (fun e => absurd e (by omega)) hit2 fit' (Heap.get?_update_self _ hS2 rfl) fS'
    have add := hadd A.in1 (fun _ _ => False) (pins ++ [(it, ito), (S, box tv c)]) _ σ H t (.ref b) tv (.ref b) _ hr hfr I2 rt rfl hq2
    rcases ht with ⟨i0, rfl⟩ | ⟨p, rfl⟩
    · obtain ⟨tk, rfl⟩ := rt
      obtain rfl := hst i0
      refine wpAny_bind (wpAny_rule ?_)
      refine wpAny_bind (wpAny_attempt (wpAny_holding (wpAny_mono add (fun res s' h => ?_) fun _ _ e => e.elim)))
      obtain ⟨⟨q, rfl⟩, g⟩ := go res s' h
      exact g
    · cases rt
      refine wpAny_bind (wpAny_attempt (wpAny_holding (wpAny_mono add (fun res s' h => ?_) fun _ _ e => e.elim)))
      obtain ⟨⟨q, rfl⟩, g⟩ := go res s' h
      exact g
/-- sum(row) of own objects: 0 and the first one, and so on -/
def rSumO (K : PySem.W.Frag) (r : R2) : List V → Hp → VK → Prop := fun vs H Q => ∃ (a : Addr) (xs : List V) (W : Nat → V → Hp → Prop), vs = [.ref a] ∧ SqL K H a xs ∧ Sums K r a xs W ∧ W 0 (.int 0) H ∧ ∀ t H', W xs.length t H' → Q t H'
theorem cr_sumO {m : Nat} (hr : Room (m + 1) X.A) (hadd : OpA X m (binaryOp .Add) r) : CallR X (.builtin "sum") (rSumO X.K r) := by
  intro pins s σ H vs us Q I rv h
  obtain ⟨a, xs, W, rfl, hq, hS, w0, hQ⟩ := h
  rw [Vals.ref1 rv]
  obtain ⟨its, rvs, p, hz⟩ := I.list hq
  refine call_function_tree F.kind_sum F.plain_sum F.entry_sum (F.args_sum1 _) ?_
  unfold Builtin.«sum»
  simp only [List.length_cons, List.length_nil]
  rw [if_neg (by decide)]
  refine wpAny_bind (wpAny_of_eq (show Builtin.Builtins.bindParams "sum" ["start"] 0 { } = pure [none] from rfl) ?_)
  refine wpAny_bind (wpAny_pyIter_list p.isList ?_)
  refine wpAny_bind (wpAny_mkInt ?_)
  refine wpAny_bind (wpAny_pure ?_)
  simp only [List.forIn_cons, List.forIn_nil]
  refine wpAny_bind (wpAny_bind (wpAny_bind (wpAny_isInstance (T := "int") (b := false) (typeIs_int _ _ _) PySem.sub_int_str ?_)))
  simp only [Bool.false_eq_true, if_false]
  refine wpAny_pure (wpAny_bind (wpAny_bind (wpAny_isInstance (T := "int") (b := false) (typeIs_int _ _ _) PySem.sub_int_bytes ?_)))
  simp only [Bool.false_eq_true, if_false]
  refine wpAny_pure (wpAny_bind (wpAny_bind (wpAny_isInstance (T := "int") (b := false) (typeIs_int _ _ _) PySem.sub_int_bytearray ?_)))
  simp only [Bool.false_eq_true, if_false]
  refine wpAny_pure (wpAny_pure ?_)
  refine wpAny_bind (wpAny_newObj_type ?_)
  have I1 : Inv X pins σ H { s with heap := s.heap.push { cls := .type "list_iterator", data := .fields #[.ref a, .int 0 0] }, toks := s.toks + 1 } := I.kept (t' := s.toks + 1) fun b o e => Heap.get?_push_of_some _ e
  have hit : Heap.IsListIter (s.heap.push { cls := .type "list_iterator", data := .fields #[.ref a, .int 0 0] }) s.heap.objs.size a 0 := ⟨_, Heap.get?_push_size _ rfl, rfl, rfl⟩
  have hsz : (s.heap.push { cls := .type "list_iterator", data := .fields #[.ref a, .int 0 0] }).objs.size = s.heap.objs.size + 1 := Heap.size_push ..
  have fit := I.fpOk (Nat.le_refl _) (I.hok.fresh (Nat.le_refl _))
  have fS := I1.fpOk (Nat.le_refl _) (I1.hok.fresh (Nat.le_refl _))
  refine wpAny_pure ⟨plainId_quiet F.plain_sum_loop _, loop (m := m) hr.in1 rfl hadd hS (S := (s.heap.push { cls := .type "list_iterator", data := .fields #[.ref a, .int 0 0] }).objs.size) (it := s.heap.objs.size) (pins := pins) (σ := σ) (by rw [hsz]; exact Nat.succ_ne_self _) (fun t tv s' H' I' rt w' => ⟨t, H', I', rt, hQ t H' w'⟩) xs.length 0 _ H (.int 0) _ _ 0 rfl (Nat.zero_le _)
    (I1.kept (t' := s.toks + 1) fun b o e => Heap.get?_push_of_some _ e) w0 ⟨s.toks, rfl⟩ (fun _ => rfl) (hit.at fun o e => Heap.get?_push_of_some _ e) fit (Heap.get?_push_size _ rfl) fS⟩
end
/-! ### row.count(flag) -/
section
variable {X : Cx}
theorem isb {k : Bool} : ∀ {us : List Value} {bs : List Bool}, Vals (bs.map V.bl) us → (∀ y ∈ us, ∀ (A : Around) (s : Shared), SeqAt.EqAt A s y (.bool k) (PyProof.Rows.isBoolOf k y)) ∧ us.countP (PyProof.Rows.isBoolOf k) = bs.count k
  | us, [], r => by
    cases r
    exact ⟨fun y hy => (nomatch hy), rfl⟩
  | us, b :: bs, r => by
    rw [List.map_cons] at r
    cases r with
    | cons r1 r2 =>
      cases r1
      obtain ⟨h1, h2⟩ := isb (k := k) r2
      refine ⟨fun y hy A s => ?_, ?_⟩
      · rcases List.mem_cons.mp hy with rfl | hy
        · exact SeqAt.EqAt.bool_bool b k
        · exact h1 y hy A s
      · rw [List.countP_cons, List.count_cons, h2]
        rfl
def rCntB (K : PySem.W.Frag) : V → List V → Hp → VK → Prop := fun x xs H Q => ∃ (p : Addr) (bs : List Bool) (k : Bool), x = .ref p ∧ xs = [.bl k] ∧ SqL K H p (bs.map V.bl) ∧ Q (.int (bs.count k : Nat)) H
theorem mt_lcountB : MtR X "list.count" (rCntB X.K) := by
  intro pins s σ H x xs v us Q I rx rxs h
  obtain ⟨p, bs, k, rfl, rfl, hs, q⟩ := h
  cases rx
  obtain ⟨u, rfl, ru⟩ := rxs.one
  cases ru
  obtain ⟨its, rv, ⟨⟨cls, dd, data, sl⟩, n, ho, hc, hdn, hd⟩, hlen⟩ := I.list hs
  simp only at hc hd
  subst hc hd
  obtain ⟨h1, h2⟩ := isb (k := k) rv
  refine call_meets PySem.F.slot_list_count ⟨_, ho, rfl⟩ PySem.F.entry_list_count (PySem.F.args_list_count_2 _ _)
    (SeqAt.list_countAt p its.toArray n dd sl (.bool k) (PyProof.Rows.isBoolOf k)) ⟨ho, fun y hy => h1 y (by simpa using hy) _ _, ?_⟩
  refine ⟨.int (bs.count k : Nat), H, I.tok _, ⟨s.toks, ?_⟩, q⟩
  show Value.int ((its.toArray.toList.countP (PyProof.Rows.isBoolOf k) : Nat) : Int) s.toks = Value.int ((bs.count k : Nat) : Int) s.toks
  rw [show its.toArray.toList = its from rfl, h2]
end
end Rj

/-! {(a, b): v, ..}: a dict written out whose keys are tuples. -/
namespace Ry
open PySem PySem.Spec PyProof.Rows L2 Rd
section
variable {X : Cx} {pins : List (Addr × Obj)} {σ : L2.St} {H : Hp} {s : Shared} {a : Addr} {A : Around} {E : Value → Shared → Prop}
/-- d[y] = v by the dict's own store, y a tuple -/
theorem dset {kvs : List (List Key × V)} {k : List Key} {b : Addr} {v : V} {r : Value} {Q : Unit → Shared → Prop} (hu : A.units + 1 < cLine) (I : Inv X pins σ H s) (e : H a = some (.dT kvs)) (eb : H b = some (.tup (k.map kV))) (l : kvs.length < sizeLine) (rv : L2.RelV v r)
    (h : ∀ s', Inv X pins σ (upd H a (.dT (putK kvs k v))) s' → Q () s') : wpAny (model X.prog X.w) A (dictSet a (.ref b) r) Q E s := by
  obtain ⟨z, hd, xs, rel, dd⟩ := dt_of I.hok e
  have hz : xs.length ≤ sizeLine := by rw [← Paired.length rel]; exact z
  have hl : (putK kvs k v).length ≤ sizeLine := by have := length_putK kvs k v; omega
  refine wpAny_dictSet_heap (hsz := hz) (show A.units < cLine by omega) (key_of I.hok eb) dd fun h' dd' hs => h _ ?_
  obtain ⟨q, es, ep, hq, h2, h3, h4, _, h5⟩ := dd'
  refine d_write I (by rw [e]; exact True.intro) hs ⟨q, hq⟩ ⟨hl, hd, _, (rel.put k eb rv).keeps fun c ys ec => ?_, q, es, ep, hq, h2, h3, h4, h5⟩
  rw [upd_ne (ne_of ec e (fun z => nomatch z))]
  exact ec
/-- what a display puts down, pair by pair -/
def putAll (kvs more : List (List Key × V)) : List (List Key × V) := more.foldl (fun acc kv => putK acc kv.1 kv.2) kvs
theorem putAll_len : ∀ (more kvs : List (List Key × V)), (putAll kvs more).length ≤ kvs.length + more.length
  | [], kvs => by show kvs.length ≤ kvs.length + 0; omega
  | p :: r, kvs => by
    have h1 := putAll_len r (putK kvs p.1 p.2)
    have h2 := length_putK kvs p.1 p.2
    show (putAll (putK kvs p.1 p.2) r).length ≤ _
    rw [List.length_cons]; omega
/-- the pairs (a tuple's address, a value) with the tuples' keys -/
def KeyAt (H : Hp) (p : V × V) (kv : List Key × V) : Prop := ∃ b, p.1 = .ref b ∧ H b = some (.tup (kv.1.map kV)) ∧ p.2 = kv.2
theorem dsets {a : Addr} : ∀ (more : List (List Key × V)) {ps : List (V × V)} {vs : List (Value × Value)} {kvs : List (List Key × V)} {H : Hp} {s : Shared} {Q : PUnit → Shared → Prop}, A.units + 1 < cLine → Inv X pins σ H s → H a = some (.dT kvs) → VV ps vs → Paired (KeyAt H) ps more →
    kvs.length + more.length ≤ 1000 → (∀ s', Inv X pins σ (upd H a (.dT (putAll kvs more))) s' → Q PUnit.unit s') →
    wpAny (model X.prog X.w) A (forIn vs PUnit.unit fun (x : Value × Value) (_ : PUnit) => (do dictSet a x.1 x.2; pure (ForInStep.yield PUnit.unit) : Sem (ForInStep PUnit))) Q E s
  | [], ps, vs, kvs, H, s, Q, hu, I, e, r, p, hl, h => by
    cases p
    cases r
    rw [List.forIn_nil]
    refine wpAny_pure (h s ?_)
    have : upd H a (.dT (putAll kvs [])) = H := by
      funext b
      by_cases c : b = a
      · rw [c, upd_same, e]; rfl
      · rw [upd_ne c]
    rw [this]
    exact I
  | kv :: more, ps, vs, kvs, H, s, Q, hu, I, e, r, p, hl, h => by
    cases p with
    | @cons q _ ps' _ k p' =>
      cases r with
      | @cons _ u _ us ru r' =>
        obtain ⟨b, e1, e2, e3⟩ := k
        obtain ⟨ku, vu⟩ := u
        have ra : L2.RelV (.ref b) ku := by rw [← e1]; exact ru.1
        cases (show ku = Value.ref b from ra)
        have rv : L2.RelV kv.2 vu := by rw [← e3]; exact ru.2
        rw [List.length_cons] at hl
        rw [List.forIn_cons]
        refine wpAny_bind (wpAny_bind (dset hu I e e2 (by rw [sizeLine_eq]; omega) rv fun s1 I1 => wpAny_pure ?_))
        have keep : ∀ {ps : List (V × V)} {more : List (List Key × V)}, Paired (KeyAt H) ps more → Paired (KeyAt (upd H a (.dT (putK kvs kv.1 kv.2)))) ps more := fun x => by
          induction x with
          | nil => exact .nil
          | cons z _ ih =>
            obtain ⟨b, e1, e2, e3⟩ := z
            exact .cons ⟨b, e1, by rw [upd_ne (ne_of e2 e (fun z => nomatch z))]; exact e2, e3⟩ ih
        refine dsets more hu I1 upd_same r' (keep p') (by have := length_putK kvs kv.1 kv.2; omega) fun s2 I2 => h s2 ?_
        rw [upd_upd] at I2
        exact I2
end
/-- {k: v, ..}, the keys tuples of ints and texts; the new dict stands empty while the pairs are made -/
def tDispT (trs : List (TE × TE)) : TE := fun σ H Q => ∀ p, H p = none → tPairs trs σ (upd H p (.dT [])) fun ps H2 => H2 p = some (.dT []) ∧ ∃ kvs : List (List Key × V), Paired (KeyAt H2) ps kvs ∧ kvs.length ≤ 15 ∧ Q (.ref p) (upd H2 p (.dT (putAll [] kvs)))
theorem pe_dispT {X : Cx} {pos : Pos} {keys : List (Option Expr)} {values : List Expr} {trs : List (TE × TE)} (hu : X.A.units + 1 < cLine) (h : PPs X pos keys values trs) (hall : keys.all (·.isSome) = true) (hl : keys.length = values.length) (h0 : keys ≠ [])
    (h15 : keys.length ≤ 15) : PE X (.Dict keys values pos) (tDispT trs) := by
  refine ⟨fun pins s σ H Q I q => ?_⟩
  have hn := I.hok.fresh (Nat.le_refl s.heap.objs.size)
  have I1 := I.laid (a := s.heap.objs.size) (o := .dT []) (h' := s.heap.push { cls := .type "dict", data := .dict #[] }) (t' := s.toks) (fun _ _ q => Heap.get?_push_of_some _ q) (Nat.le_refl _) (dt_empty s.heap I.big)
  have hp := pairTrees_length keys values X.env pos hall hl
  have hne : pairTrees keys values X.env pos ≠ [] := fun c => by
    rw [c] at hp
    exact h0 (List.length_eq_zero_iff.mp hp.symm)
  rw [arm_eval_Dict, zip_pairTrees keys values X.env pos hall hl, dictDisplay_pairs _ hne (by omega)]
  refine wpAny_bind (wpAny_standAt (wpAny_bind ?_))
  unfold subDict
  refine wpAny_bind (wpAny_alloc ?_)
  refine wpAny_bind (wpAny_holding ?_)
  rw [if_pos (by omega)]
  refine wpAny_bind (thn (h.run pins _ σ _ _ I1 (q _ hn)) fun ws s2 ⟨ps, H2, I2, rel, e, kvs, pr, lk, q2⟩ => ?_)
  refine wpAny_holding (wpAny_bind (dsets kvs hu I2 e rel pr (by rw [List.length_nil]; omega) fun s3 I3 => wpAny_pure (wpAny_pure (wpAny_pure ⟨.ref s.heap.objs.size, _, I3, rfl, q2⟩))))
theorem dispT {trs : List (TE × TE)} {σ : L2.St} {H : Hp} {Q : VK} (h : ∀ (p : Addr) (G : Hp), H p = none → G p = some (.dT []) → Same H G → tPairs trs σ G fun ps H2 => H2 p = some (.dT []) ∧ ∃ kvs : List (List Key × V), Paired (KeyAt H2) ps kvs ∧ kvs.length ≤ 15 ∧
    ∀ G2 : Hp, G2 p = some (.dT (putAll [] kvs)) → (∀ b, b ≠ p → G2 b = H2 b) → Q (.ref p) G2) : tDispT trs σ H Q := fun p hp => by
  have key := h p _ hp upd_same (same_upd hp)
  have mono : ∀ {trs : List (TE × TE)} {σ : L2.St} {H : Hp} {A B : List (V × V) → Hp → Prop}, A = B → tPairs trs σ H A → tPairs trs σ H B := fun e h => e ▸ h
  refine mono ?_ key
  funext ps H2
  refine propext ⟨fun ⟨a, kvs, b, c, d⟩ => ⟨a, kvs, b, c, d _ upd_same fun b hb => upd_ne hb⟩, fun ⟨a, kvs, b, c, d⟩ => ⟨a, kvs, b, c, fun G2 g off => ?_⟩⟩
  have e : G2 = upd H2 p (.dT (putAll [] kvs)) := by
    funext x
    by_cases q : x = p
    · rw [q, g, upd_same]
    · rw [off x q, upd_ne q]
  rw [e]
  exact d
/-- what a comprehension within a comprehension walks -/
theorem pi_listK {X : Cx} {K : PySem.W.Frag} {tg l : Expr} {tl : TE} (e : X.K = K) (hl : PE X l tl) : PI X tg l (iList K tl) := e ▸ pi_list hl
theorem pi_tupK {X : Cx} {K : PySem.W.Frag} {tg l : Expr} {tl : TE} (e : X.K = K) (hl : PE X l tl) : PI X tg l (iTup K tl) := e ▸ pi_tup hl
/-- a join within a comprehension -/
def joinR (K : PySem.W.Frag) : V → List V → Hp → VK → Prop := fun x xs H Q => ∃ a p, ∃ ys : List Str, x = .str a ∧ xs = [.ref p] ∧ (SqL K H p (ys.map V.str) ∨ SqT K H p (ys.map V.str)) ∧
      (ys.map (·.length)).sum + ys.length * a.length ≤ 16777216 ∧ Q (.str (Txt.join a ys)) H
theorem pe_joinK {X : Cx} {o e : Expr} {to te : TE} {apos pos : Pos} (ho : PE X o to) (he : PE X e te) (hs : starEach [e] X.env = [(false, eval e X.env)] := by rfl) (hbase : attributeBase o "join" X.env (eval o X.env) = eval o X.env := by rfl) (hline : (apos.endLine == pos.line) = true := by rfl) :
    PE X (.Call (.Attribute o "join" apos) [e] [] pos) (tM1 (joinR X.K) to te) := pe_join ho he hs hbase hline
theorem joinS {K : PySem.W.Frag} {H : Hp} {a : Str} {p : Addr} {ys : List Str} {Q : VK} (hp : SqL K H p (ys.map V.str) ∨ SqT K H p (ys.map V.str)) (hz : (ys.map (·.length)).sum + ys.length * a.length ≤ 16777216) (h : Q (.str (Txt.join a ys)) H) : joinR K (.str a) [.ref p] H Q := ⟨a, p, ys, rfl, rfl, hp, hz, h⟩
/-- dict(xs) of a list of pairs -/
def rDictP (K : PySem.W.Frag) : List V → Hp → VK → Prop := fun xs H Q => ∃ (a : Addr) (ps : List Addr) (kvs : List (Key × V)), xs = [.ref a] ∧ SqL K H a (ps.map V.ref) ∧ Paired (fun p kv => SqT K H p [kV kv.1, kv.2]) ps kvs ∧ ∀ p, H p = none → Q (.ref p) (upd H p (.dK (mergeK [] kvs)))
theorem c_dictP {X : Cx} (h : X.calm = true) : CallR X (.type "dict") (rDictP X.K) := call_dictP h
theorem dictP {K : PySem.W.Frag} {H : Hp} {a : Addr} {ps : List Addr} {kvs : List (Key × V)} {Q : VK} (h : SqL K H a (ps.map V.ref)) (hp : Paired (fun p kv => SqT K H p [kV kv.1, kv.2]) ps kvs) (q : ∀ (p : Addr) (G : Hp), H p = none → G p = some (.dK (mergeK [] kvs)) → Same H G → Q (.ref p) G) : rDictP K [.ref a] H Q :=
  ⟨a, ps, kvs, rfl, h, hp, fun p hp => q p _ hp upd_same (same_upd hp)⟩
end Ry

namespace W
open PySem PySem.Spec PyProof.Rows L2
def top (i : Nat) : Stmt := PySem.Challenge.pw_watchedways_k24_whole_sums_and_products.main.body.getD i (.Pass ⟨0, 0, 0, 0⟩)
abbrev s_WayError_init : Stmt := inClass (top 1) 0
abbrev s_is_integer : Stmt := top 4
abbrev s_common : Stmt := top 6
abbrev s_Ratio_init : Stmt := inClass (top 7) 0
abbrev s_is_number : Stmt := top 8
abbrev s_as_ratio : Stmt := top 9
abbrev s_Ratio_add : Stmt := inClass (top 7) 2
abbrev s_Ratio_radd : Stmt := inClass (top 7) 3
abbrev s_Ratio_sub : Stmt := inClass (top 7) 4
abbrev s_Ratio_rsub : Stmt := inClass (top 7) 5
abbrev s_Ratio_mul : Stmt := inClass (top 7) 6
abbrev s_Ratio_rmul : Stmt := inClass (top 7) 7
abbrev s_Ratio_eq : Stmt := inClass (top 7) 1
abbrev s_Ratio_less : Stmt := inClass (top 7) 10
abbrev s_Ratio_over : Stmt := inClass (top 7) 9
abbrev s_l_hand : Stmt := top 11
abbrev s_l_draw : Stmt := top 12
abbrev s_l_pair : Stmt := top 13
abbrev s_l_by_turns : Stmt := top 14
abbrev s_l_is : Stmt := top 15
abbrev s_law : Stmt := top 16
theorem sc_WayError_init : FnScope ["self", "value"] ["self", "value"] (defScope s_WayError_init) := ⟨rfl, rfl, rfl, by decide +kernel, rfl, by decide +kernel, by decide +kernel⟩
theorem sc_is_integer : FnScope ["value"] ["value"] (defScope s_is_integer) := ⟨rfl, rfl, rfl, by decide +kernel, rfl, by decide +kernel, by decide +kernel⟩
theorem sc_common : FnScope ["one", "other"] ["one", "other"] (defScope s_common) := ⟨rfl, rfl, rfl, by decide +kernel, rfl, by decide +kernel, by decide +kernel⟩
theorem sc_Ratio_init : FnScope ["self", "top", "bottom", "part"] ["self", "top", "bottom"] (defScope s_Ratio_init) := ⟨rfl, rfl, rfl, by decide +kernel, rfl, by decide +kernel, by decide +kernel⟩
theorem sc_is_number : FnScope ["value"] ["value"] (defScope s_is_number) := ⟨rfl, rfl, rfl, by decide +kernel, rfl, by decide +kernel, by decide +kernel⟩
theorem sc_as_ratio : FnScope ["value"] ["value"] (defScope s_as_ratio) := ⟨rfl, rfl, rfl, by decide +kernel, rfl, by decide +kernel, by decide +kernel⟩
theorem sc_Ratio_add : FnScope ["self", "other"] ["self", "other"] (defScope s_Ratio_add) := ⟨rfl, rfl, rfl, by decide +kernel, rfl, by decide +kernel, by decide +kernel⟩
theorem sc_Ratio_radd : FnScope ["self", "other"] ["self", "other"] (defScope s_Ratio_radd) := ⟨rfl, rfl, rfl, by decide +kernel, rfl, by decide +kernel, by decide +kernel⟩
theorem sc_Ratio_sub : FnScope ["self", "other"] ["self", "other"] (defScope s_Ratio_sub) := ⟨rfl, rfl, rfl, by decide +kernel, rfl, by decide +kernel, by decide +kernel⟩
theorem sc_Ratio_rsub : FnScope ["self", "other"] ["self", "other"] (defScope s_Ratio_rsub) := ⟨rfl, rfl, rfl, by decide +kernel, rfl, by decide +kernel, by decide +kernel⟩
theorem sc_Ratio_mul : FnScope ["self", "other"] ["self", "other"] (defScope s_Ratio_mul) := ⟨rfl, rfl, rfl, by decide +kernel, rfl, by decide +kernel, by decide +kernel⟩
theorem sc_Ratio_rmul : FnScope ["self", "other"] ["self", "other"] (defScope s_Ratio_rmul) := ⟨rfl, rfl, rfl, by decide +kernel, rfl, by decide +kernel, by decide +kernel⟩
theorem sc_Ratio_eq : FnScope ["self", "other"] ["self", "other"] (defScope s_Ratio_eq) := ⟨rfl, rfl, rfl, by decide +kernel, rfl, by decide +kernel, by decide +kernel⟩
theorem sc_Ratio_less : FnScope ["self", "other", "number"] ["self", "other"] (defScope s_Ratio_less) := ⟨rfl, rfl, rfl, by decide +kernel, rfl, by decide +kernel, by decide +kernel⟩
theorem sc_Ratio_over : FnScope ["self", "other", "divisor"] ["self", "other"] (defScope s_Ratio_over) := ⟨rfl, rfl, rfl, by decide +kernel, rfl, by decide +kernel, by decide +kernel⟩
theorem sc_l_hand : FnScope ["_law_script", "_law_cells", "_law_cell"] ["_law_script"] (defScope s_l_hand) := ⟨rfl, rfl, rfl, by decide +kernel, rfl, by decide +kernel, by decide +kernel⟩
theorem sc_l_draw : FnScope ["_law_hand_here", "_law_many", "_law_cell", "_law_digit", "_law_number"] ["_law_hand_here", "_law_many"] (defScope s_l_draw) := ⟨rfl, rfl, rfl, by decide +kernel, rfl, by decide +kernel, by decide +kernel⟩
theorem sc_l_pair : FnScope ["_law_hand_here", "_law_bottom"] ["_law_hand_here"] (defScope s_l_pair) := ⟨rfl, rfl, rfl, by decide +kernel, rfl, by decide +kernel, by decide +kernel⟩
theorem sc_l_by_turns : FnScope ["_law_hand_here", "_law_row", "_law_sums", "_law_rest", "_law_turn", "_law_one", "_law_other"] ["_law_hand_here", "_law_row", "_law_sums"] (defScope s_l_by_turns) := ⟨rfl, rfl, rfl, by decide +kernel, rfl, by decide +kernel, by decide +kernel⟩
theorem sc_l_is : FnScope ["_law_thing", "_law_top", "_law_bottom"] ["_law_thing", "_law_top", "_law_bottom"] (defScope s_l_is) := ⟨rfl, rfl, rfl, by decide +kernel, rfl, by decide +kernel, by decide +kernel⟩
theorem sc_law : FnScope ["_law_script", "_law_hand_here", "_law_pairs", "_law_top", "_law_bottom", "_law_row", "_law_sums", "_law_products", "_law_total", "_law_whole", "_law_factor", "_law_ratio", "_law_at", "_law_k"] ["_law_script"] (defScope s_law) := ⟨rfl, rfl, rfl, by decide +kernel, rfl, by decide +kernel, by decide +kernel⟩
structure Txt (K : PySem.W.Frag) (mg : Str → Option Value) where
  C_Ratio : Addr
  c_Ratio : mg "Ratio" = some (.ref C_Ratio)
  cl_Ratio : Cls K C_Ratio
  ty_Ratio : OwnTy K C_Ratio
  na_Ratio_top : NoAttr K C_Ratio "top"
  na_Ratio_bottom : NoAttr K C_Ratio "bottom"
  ki_Ratio : PySem.W.mroIn K C_Ratio (.type "int") = some false
  kb_Ratio : PySem.W.mroIn K C_Ratio (.type "bool") = some false
  ic_Ratio : PySem.W.isClsIn K C_Ratio = true
  tc_Ratio : PySem.W.typeIn K (.ref C_Ratio) = some (.type "type")
  sl_Ratio : PySem.W.subIn K (.ref C_Ratio) (.ref C_Ratio) = some true
  ne_Ratio : PySem.W.findIn K (.ref C_Ratio) "__ne__" = some (some (.builtin "object.__ne__"))
  first_Ratio : PySem.W.selfFirst K C_Ratio = true
  f_WayError_init : Addr
  fd_WayError_init : FuncData
  D_WayError_init : FunD K "__init__" "WayError.__init__" (defArgs s_WayError_init) (defBody s_WayError_init) (defScope s_WayError_init) [.non] [] f_WayError_init fd_WayError_init
  b_WayError_init : Binds K fd_WayError_init ["self", "value"] []
  tI_WayError_init : PySem.W.typeIn K (.ref f_WayError_init) = some (.type "function")
  f_is_integer : Addr
  fd_is_integer : FuncData
  F_is_integer : Fun K "is_integer" "is_integer" s_is_integer f_is_integer fd_is_integer
  g_is_integer : mg "is_integer" = some (.ref f_is_integer)
  b_is_integer : Binds K fd_is_integer ["value"] []
  f_common : Addr
  fd_common : FuncData
  F_common : Fun K "common" "common" s_common f_common fd_common
  g_common : mg "common" = some (.ref f_common)
  b_common : Binds K fd_common ["one", "other"] []
  f_Ratio_init : Addr
  fd_Ratio_init : FuncData
  D_Ratio_init : FunD K "__init__" "Ratio.__init__" (defArgs s_Ratio_init) (defBody s_Ratio_init) (defScope s_Ratio_init) [.int 1] [] f_Ratio_init fd_Ratio_init
  b_Ratio_init : Binds K fd_Ratio_init ["self", "top", "bottom"] []
  ds_Ratio_init : List Value
  rd_Ratio_init : Vals [.int 1] ds_Ratio_init
  b1_Ratio_init : Binds K fd_Ratio_init ["self", "top", "bottom"] ds_Ratio_init
  M_Ratio : Mk K C_Ratio f_Ratio_init
  f_is_number : Addr
  fd_is_number : FuncData
  F_is_number : Fun K "is_number" "is_number" s_is_number f_is_number fd_is_number
  g_is_number : mg "is_number" = some (.ref f_is_number)
  b_is_number : Binds K fd_is_number ["value"] []
  f_as_ratio : Addr
  fd_as_ratio : FuncData
  F_as_ratio : Fun K "as_ratio" "as_ratio" s_as_ratio f_as_ratio fd_as_ratio
  g_as_ratio : mg "as_ratio" = some (.ref f_as_ratio)
  b_as_ratio : Binds K fd_as_ratio ["value"] []
  f_Ratio_add : Addr
  fd_Ratio_add : FuncData
  F_Ratio_add : Fun K "__add__" "Ratio.__add__" s_Ratio_add f_Ratio_add fd_Ratio_add
  h_Ratio_add : Meth K C_Ratio "__add__" f_Ratio_add
  b_Ratio_add : Binds K fd_Ratio_add ["self", "other"] []
  f_Ratio_radd : Addr
  fd_Ratio_radd : FuncData
  F_Ratio_radd : Fun K "__radd__" "Ratio.__radd__" s_Ratio_radd f_Ratio_radd fd_Ratio_radd
  h_Ratio_radd : Meth K C_Ratio "__radd__" f_Ratio_radd
  b_Ratio_radd : Binds K fd_Ratio_radd ["self", "other"] []
  f_Ratio_sub : Addr
  fd_Ratio_sub : FuncData
  F_Ratio_sub : Fun K "__sub__" "Ratio.__sub__" s_Ratio_sub f_Ratio_sub fd_Ratio_sub
  h_Ratio_sub : Meth K C_Ratio "__sub__" f_Ratio_sub
  b_Ratio_sub : Binds K fd_Ratio_sub ["self", "other"] []
  f_Ratio_rsub : Addr
  fd_Ratio_rsub : FuncData
  F_Ratio_rsub : Fun K "__rsub__" "Ratio.__rsub__" s_Ratio_rsub f_Ratio_rsub fd_Ratio_rsub
  h_Ratio_rsub : Meth K C_Ratio "__rsub__" f_Ratio_rsub
  b_Ratio_rsub : Binds K fd_Ratio_rsub ["self", "other"] []
  f_Ratio_mul : Addr
  fd_Ratio_mul : FuncData
  F_Ratio_mul : Fun K "__mul__" "Ratio.__mul__" s_Ratio_mul f_Ratio_mul fd_Ratio_mul
  h_Ratio_mul : Meth K C_Ratio "__mul__" f_Ratio_mul
  b_Ratio_mul : Binds K fd_Ratio_mul ["self", "other"] []
  f_Ratio_rmul : Addr
  fd_Ratio_rmul : FuncData
  F_Ratio_rmul : Fun K "__rmul__" "Ratio.__rmul__" s_Ratio_rmul f_Ratio_rmul fd_Ratio_rmul
  h_Ratio_rmul : Meth K C_Ratio "__rmul__" f_Ratio_rmul
  b_Ratio_rmul : Binds K fd_Ratio_rmul ["self", "other"] []
  f_Ratio_eq : Addr
  fd_Ratio_eq : FuncData
  F_Ratio_eq : Fun K "__eq__" "Ratio.__eq__" s_Ratio_eq f_Ratio_eq fd_Ratio_eq
  h_Ratio_eq : Meth K C_Ratio "__eq__" f_Ratio_eq
  b_Ratio_eq : Binds K fd_Ratio_eq ["self", "other"] []
  f_Ratio_less : Addr
  fd_Ratio_less : FuncData
  F_Ratio_less : Fun K "less" "Ratio.less" s_Ratio_less f_Ratio_less fd_Ratio_less
  h_Ratio_less : Meth K C_Ratio "less" f_Ratio_less
  b_Ratio_less : Binds K fd_Ratio_less ["self", "other"] []
  f_Ratio_over : Addr
  fd_Ratio_over : FuncData
  F_Ratio_over : Fun K "over" "Ratio.over" s_Ratio_over f_Ratio_over fd_Ratio_over
  h_Ratio_over : Meth K C_Ratio "over" f_Ratio_over
  b_Ratio_over : Binds K fd_Ratio_over ["self", "other"] []
  f_l_hand : Addr
  fd_l_hand : FuncData
  F_l_hand : Fun K "_law_hand" "_law_hand" s_l_hand f_l_hand fd_l_hand
  g_l_hand : mg "_law_hand" = some (.ref f_l_hand)
  b_l_hand : Binds K fd_l_hand ["_law_script"] []
  f_l_draw : Addr
  fd_l_draw : FuncData
  F_l_draw : Fun K "_law_draw" "_law_draw" s_l_draw f_l_draw fd_l_draw
  g_l_draw : mg "_law_draw" = some (.ref f_l_draw)
  b_l_draw : Binds K fd_l_draw ["_law_hand_here", "_law_many"] []
  f_l_pair : Addr
  fd_l_pair : FuncData
  F_l_pair : Fun K "_law_pair" "_law_pair" s_l_pair f_l_pair fd_l_pair
  g_l_pair : mg "_law_pair" = some (.ref f_l_pair)
  b_l_pair : Binds K fd_l_pair ["_law_hand_here"] []
  f_l_by_turns : Addr
  fd_l_by_turns : FuncData
  F_l_by_turns : Fun K "_law_by_turns" "_law_by_turns" s_l_by_turns f_l_by_turns fd_l_by_turns
  g_l_by_turns : mg "_law_by_turns" = some (.ref f_l_by_turns)
  b_l_by_turns : Binds K fd_l_by_turns ["_law_hand_here", "_law_row", "_law_sums"] []
  f_l_is : Addr
  fd_l_is : FuncData
  F_l_is : Fun K "_law_is" "_law_is" s_l_is f_l_is fd_l_is
  g_l_is : mg "_law_is" = some (.ref f_l_is)
  b_l_is : Binds K fd_l_is ["_law_thing", "_law_top", "_law_bottom"] []
  f_law : Addr
  fd_law : FuncData
  F_law : Fun K "law" "law" s_law f_law fd_law
  g_law : mg "law" = some (.ref f_law)
  b_law : Binds K fd_law ["_law_script"] []
  C_BadNumber : Addr
  c_BadNumber : mg "BadNumber" = some (.ref C_BadNumber)
  X_BadNumber : Rx.ExcF K f_WayError_init C_BadNumber
  n_isinstance : mg "isinstance" = none
  n_int : mg "int" = none
  n_bool : mg "bool" = none
  n_abs : mg "abs" = none
  n_NotImplemented : mg "NotImplemented" = none
  n_len : mg "len" = none
  n_list : mg "list" = none
  n_range : mg "range" = none
  n_sum : mg "sum" = none
end W

local macro_rules | `(tactic| walk_at "rd") => `(tactic| repeat (first
  | with_reducible refine Rd.seq ?_ | with_reducible refine Rd.asg ?_ | with_reducible refine Rd.name ?_ | with_reducible refine Rd.var rfl ?_ | with_reducible refine Rd.con ?_ | with_reducible refine Rd.op ?_
  | with_reducible refine Rd.ret ?_ | with_reducible refine Rd.ifS ?_ | with_reducible refine Rd.test ?_ | with_reducible refine Rd.tstB ?_ | with_reducible refine Rd.bl ?_ | with_reducible refine Rd.blE ?_
  | with_reducible refine Rd.nil ?_ | with_reducible refine Rd.cons ?_ | with_reducible refine Rd.cb ?_ | with_reducible refine Rd.call ?_ | with_reducible refine Rd.un ?_
  | with_reducible refine Rd.i0 ?_ | with_reducible refine Rd.u1 ?_ | with_reducible refine Rd.eqI ?_ | with_reducible refine Rd.neI ?_ | with_reducible refine Rd.eqB ?_ | with_reducible refine Rd.neB ?_ | with_reducible refine Rd.eqS ?_ | with_reducible refine Rd.neS ?_
  | with_reducible refine Rd.and ?_ | with_reducible refine Rd.or ?_ | with_reducible refine Rd.not ?_ | with_reducible refine Rd.andV ?_ | with_reducible refine Rd.orV ?_ | with_reducible refine Rd.notV ?_ | with_reducible refine Rd.ifE ?_ | with_reducible refine Rd.chain ?_
  | with_reducible refine Rd.tup ?_ | with_reducible refine Rd.lst ?_ | with_reducible refine Rd.nxt ?_ | with_reducible refine Rd.retN ?_ | with_reducible refine Rd.drop ?_ | with_reducible refine Rd.brk ?_ | with_reducible refine Rd.cont ?_
  | with_reducible refine Rd.a1 ?_ | with_reducible refine Rd.a2 ?_ | with_reducible refine Rd.v2 ?_ | with_reducible refine Rd.int ?_ | with_reducible refine Rd.abs ?_ | with_reducible refine Rd.max2 ?_ | with_reducible refine Rd.min2 ?_ | with_reducible refine Rd.bm ?_ | with_reducible refine Rd.bm0 ?_ | with_reducible refine Rd.sl ?_ | with_reducible refine Rd.part ?_ | with_reducible refine Rd.noPart ?_ | with_reducible refine Rd.intE ?_ | with_reducible refine Rd.revL ?_ | with_reducible refine Rd.enx ?_ | with_reducible refine Rd.ebk ?_ | with_reducible refine Rd.ect ?_ | with_reducible refine Rd.ert ?_ | with_reducible refine Rd.gcons ?_ | with_reducible refine Rd.gnil ?_ | with_reducible refine Rd.par ?_ | with_reducible refine Rd.sub ?_ | with_reducible refine Rd.iter ?_ | with_reducible refine Rd.iterT ?_ | with_reducible refine Rd.rng1 ?_ | with_reducible refine Rd.refE ?_ | with_reducible refine Rd.aug rfl ?_ | with_reducible refine Rd.ipi ?_ | with_reducible refine Rd.lc ?_ | with_reducible refine Rd.tyes ?_ | with_reducible refine Rd.fldH ?_ | with_reducible refine Rd.sfldH ?_ | with_reducible refine Rd.mkH ?_ | with_reducible refine Rd.methH ?_ | with_reducible refine Rd.istr ?_ | with_reducible refine Rd.strE ?_ | with_reducible refine Rd.lstRg ?_ | with_reducible refine Rd.m1 ?_ | with_reducible refine Rd.dgetH ?_ | with_reducible refine Rd.dinH ?_ | with_reducible refine Rd.dninH ?_ | with_reducible refine Rd.dget1H ?_ | with_reducible refine Rd.strX ?_ | with_reducible refine Rd.tupRg ?_ | with_reducible refine Rd.rg1 ?_ | with_reducible refine Rd.rg2 ?_ | with_reducible refine Rd.intE2 ?_ | with_reducible refine Rw.zipH ?_ | with_reducible refine Rw.itemsH ?_ | with_reducible refine Rw.keysH ?_ | with_reducible refine Rw.dc ?_ | with_reducible refine Rw.ckw ?_ | with_reducible refine Rd.notT ?_ | with_reducible refine Rx.raiseH ?_ | with_reducible refine Rx.callS ?_ | with_reducible refine Rx.xvH ?_ | with_reducible refine Rx.rng3 ?_
  | with_reducible refine L2.iteT ?_ | with_reducible refine L2.iteF ?_
  | with_reducible refine Rd.iteb ?_ | with_reducible refine Rd.iten ?_ | with_reducible refine Rd.itbn ?_))

local macro_rules | `(tactic| walk_at "yes") => `(tactic| (refine (if_pos (by first | assumption | omega)).mpr ?_))
local macro_rules | `(tactic| walk_at "no") => `(tactic| (refine (if_neg (by first | assumption | omega)).mpr ?_))

local macro_rules | `(tactic| k_extra "ne") => `(tactic| first
  | with_reducible assumption | with_reducible exact Ne.symm (by with_reducible assumption) | with_reducible exact Rd.ntT (by with_reducible assumption) (by k_extra "tape")
  | with_reducible exact Rd.neN (by with_reducible assumption) (by k_extra "at") | with_reducible exact Rd.neN' (by with_reducible assumption) (by k_extra "at"))
local macro_rules | `(tactic| k_extra "tape") => `(tactic| first
  | with_reducible assumption | with_reducible exact Rd.tape_same (by with_reducible assumption) (by k_extra "tape"))
local macro_rules | `(tactic| k_extra "at") => `(tactic| first
  | with_reducible assumption
  | with_reducible exact Rd.at_same (by with_reducible assumption) (by k_extra "at")
  | with_reducible exact Rd.at_off (by with_reducible assumption) (by k_extra "ne") (by k_extra "at")
  | with_reducible exact Rd.at_but (by with_reducible assumption) (by k_extra "ne") (by k_extra "at"))
local macro_rules | `(tactic| k_extra "bk") => `(tactic| first
  | with_reducible assumption
  | with_reducible exact Rd.book_same (by with_reducible assumption) (by k_extra "bk")
  | with_reducible exact Rd.book_but (by with_reducible assumption) (by k_extra "tape") (by k_extra "bk"))
local macro_rules | `(tactic| k_extra "sqL") => `(tactic| first
  | with_reducible assumption | with_reducible exact L2.Same.seq (by with_reducible assumption) (by k_extra "sqL"))
local macro_rules | `(tactic| k_extra "sqT") => `(tactic| first
  | with_reducible assumption | with_reducible exact Ru.same_tup (by with_reducible assumption) (by k_extra "sqT"))
local macro_rules | `(tactic| k_extra "sq") => `(tactic| first
  | with_reducible assumption | (with_reducible show L2.SqL _ _ _ _; first | exact L2.SqL.of (by k_extra "at") | k_extra "sqL") | (with_reducible show L2.SqT _ _ _ _; first | exact L2.SqT.of (by k_extra "at") | k_extra "sqT"))
local macro_rules | `(tactic| k_extra "row") => `(tactic| first
  | with_reducible assumption | exact Or.inl (L2.SqL.of (by k_extra "at")) | exact Or.inr (L2.SqT.of (by k_extra "at")) | exact Or.inl (by k_extra "sqL") | exact Or.inr (by k_extra "sqT"))
local macro_rules | `(tactic| k_extra "same") => `(tactic| first
  | with_reducible exact L2.Same.refl _ | with_reducible assumption
  | with_reducible exact Rd.same_tr (by with_reducible assumption) (by k_extra "same")
  | with_reducible exact Rd.same_of2 (by with_reducible assumption) (by with_reducible assumption) (by k_extra "same"))
local macro_rules | `(tactic| k_extra "but") => `(tactic| first
  | with_reducible exact Rd.But.refl _ _ | with_reducible assumption
  | with_reducible exact Rd.but_tr (by with_reducible assumption) (by k_extra "but")
  | with_reducible exact Rd.but_sm (by with_reducible assumption) (by k_extra "but")
  | with_reducible exact Rd.but_of2 (by with_reducible assumption) (by with_reducible assumption) (by k_extra "but"))
local macro_rules | `(tactic| k_extra "sz") => `(tactic| first
  | with_reducible assumption | with_reducible exact Lt.Wd.line (by with_reducible assumption) (by decide) | (rw [PySem.sizeLine_eq]; omega)
  | (simp only [List.length_map, List.length_append, List.length_cons, List.length_nil, List.length_take] <;> rw [PySem.sizeLine_eq] <;> omega) | exact Nat.le_of_ble_eq_true rfl)
local macro_rules | `(tactic| k_extra "go1") => `(tactic| first
  | (with_reducible show Rd.nLenS _ _ _; refine Rd.lenStr (by k_extra "sz") ?_)
  | (with_reducible show Rd.nLen _ _ _ _; first | refine Rd.lenS (by k_extra "row") ?_ | refine Rd.lenI (by k_extra "row") ?_ | refine Rd.lenR (by k_extra "row") ?_)
  | (with_reducible show L2.rSlS _ _ _ _ _; refine Rd.slS (by k_extra "sz") ?_)
  | (with_reducible show L2.tyV _ "list" _ _ ∧ _; refine Rd.tyL (by k_extra "sq") ?_)
  | (with_reducible show Rd.nAddS _ _ _ _; refine Rd.addS (by k_extra "sz") ?_)
  | (with_reducible show L2.rIsi _ _ _ _; first | with_reducible refine Rd.isiStr ?_ | with_reducible refine Rd.isiB ?_ | with_reducible refine Rd.isiI ?_ | with_reducible refine Rd.isiIB ?_ | (first | with_reducible refine Rx.askInt (by with_reducible assumption) ?_ | with_reducible refine Rx.askBl (by with_reducible assumption) ?_ | with_reducible refine Rx.askStr (by with_reducible assumption) ?_ | with_reducible refine Rx.askLst (by with_reducible assumption) ?_ | with_reducible refine Rx.askTup (by with_reducible assumption) ?_ | with_reducible refine Rx.askDct (by with_reducible assumption) ?_))
  | (with_reducible show L2.rIn _ _ _ _ _ _; first | refine Rd.inStrsY (by k_extra "row") ?_ | refine Rd.inStrsN (by k_extra "row") ?_ | refine Rd.inIntsY (by k_extra "row") ?_ | refine Rd.inIntsN (by k_extra "row") ?_)
  | with_reducible refine And.intro (Eq.refl L2.V.non) ?_ | with_reducible refine Rd.ifN ?_ | with_reducible refine Rd.ifR ?_ | with_reducible refine Rd.ifI ?_ | with_reducible refine Rd.ifT ?_)
local macro_rules | `(tactic| walk_at "go") => `(tactic| (walk_at "rd"; repeat (k_extra "go1"; walk_at "rd")))

namespace W
open PySem PySem.Spec PyProof.Rows L2
section
variable {P : Program} {w : World} {K : PySem.W.Frag} {mg : Str → Option Value} {base : Heap}
/-! ### WayError.__init__ -/
abbrev sp_WayError_init (K : PySem.W.Frag) : Sp := Rx.spWe K
theorem ok_WayError_init (T : Txt K mg) : FnOk P w K mg base CX0 1 T.f_WayError_init T.fd_WayError_init ["self", "value"] (sp_WayError_init K) := by
  refine T.D_WayError_init.ok (CX := CX0) sc_WayError_init (fun vs H Q E h => ?_) (fun cdv A outer s H vs Q E hr h => ?_)
  · obtain ⟨a, C, v, rfl, _⟩ := h
    rfl
  · obtain ⟨a, C, v, rfl, oc, nv, ha, k⟩ := h
    refine ⟨_, (pss_one (ps_ost (pv 0) (pv 1))), ?_⟩
    exact ⟨_, rfl, _, rfl, a, C, rfl, oc, nv, .inl ⟨ha, fun dx n ne => k dx n ne⟩⟩

end
end W

namespace W
open PySem PySem.Spec PyProof.Rows L2
section
variable {P : Program} {w : World} {K : PySem.W.Frag} {mg : Str → Option Value} {base : Heap}
/-! ### is_integer of anything, own objects too -/
inductive IsX (K : PySem.W.Frag) (H : Hp) : V → Rx.Kd → Prop where
  | int (i : Int) : IsX K H (.int i) (.int i)
  | is {x : V} {k : Rx.Kd} (h : Rx.Is H x k) : IsX K H x k
  | ins {a C dx : Addr} {fs : List (Str × V)} (e : H a = some (.ins C dx fs)) (c : Cls K C) (o : OwnTy K C) (ki : PySem.W.mroIn K C (.type "int") = some false) (kb : PySem.W.mroIn K C (.type "bool") = some false) : IsX K H (.ref a) .dct
theorem kitOwn {C : Addr} {T : String} {r : Bool} (m : PySem.W.kitMeta T = true) (h : PySem.W.mroIn K C (.type T) = some r) : PySem.W.kitOne K (.ref C) (.type T) = some r := by
  show (if (Value.ref C == Value.type T) = true then some true else if PySem.W.kitMeta T = true then PySem.W.subIn K (.ref C) (.type T) else none) = some r
  rw [if_neg (by simp), if_pos m]
  exact h
theorem IsX.same {H H' : Hp} {x : V} {k : Rx.Kd} (s : Same H H') (h : IsX K H x k) : IsX K H' x k := by
  cases h with
  | int i => exact .int i
  | is h => exact .is (h.same s)
  | ins e c o ki kb => exact .ins (s _ _ e) c o ki kb
theorem IsX.askB {H : Hp} {x : V} {k : Rx.Kd} {Q : VK} (h : IsX K H x k) (q : Q (.bl k.isBl) H) : rIsi K [x, .ty "bool"] H Q := by
  cases h with
  | int i => exact Rx.askBl (.int i) q
  | is h => exact Rx.askBl h q
  | ins e c o ki kb => exact ⟨_, _, _, _, false, rfl, .ty "bool", .base (.ins e c o.ha o.hn o.htk o.hm), kitOwn (by decide +kernel) kb, q⟩
def sp_is_integer (K : PySem.W.Frag) : Sp := fun vs H Q _ => ∃ (x : V) (k : Rx.Kd), vs = [x] ∧ IsX K H x k ∧ Q (.bl k.isNum) H
theorem ok_is_integer (T : Txt K mg) : FnOk P w K mg base CX0 1 T.f_is_integer T.fd_is_integer ["value"] (sp_is_integer K) := by
  refine T.F_is_integer.ok sc_is_integer (fun vs H Q E h => ?_) (fun cdv A outer s H vs Q E hr h => ?_)
  · obtain ⟨x, kd, rfl, _⟩ := h
    rfl
  · obtain ⟨x, kd, rfl, hx, k⟩ := h
    refine ⟨_, (pss_one (ps_ret (pe_and (pe_callB (id := "isinstance") (r := rIsi K) call_isi (by rfl) T.n_isinstance (by decide +kernel) (pa_cons (pv 0) (pa_cons (pe_bltn (v := .ty "int") (u := .type "int") (by rfl) T.n_int (by decide +kernel) rfl) pa_nil))) (pe_one (pe_not (pe_callB (id := "isinstance") (r := rIsi K) call_isi (by rfl) T.n_isinstance (by decide +kernel) (pa_cons (pv 0) (pa_cons (pe_bltn (v := .ty "bool") (u := .type "bool") (by rfl) T.n_bool (by decide +kernel) rfl) pa_nil)))))))), ?_⟩
    walk_at "rd"
    cases hx with
    | int i =>
      walk_at "go"
      exact k
    | is hx =>
      walk_at "go"
      cases hx <;> first | (refine Rd.no Bool.false_ne_true ?_; exact k) | (refine Rd.yes rfl ?_; walk_at "go"; exact k)
    | ins e c o ki kb =>
      refine ⟨_, _, _, _, false, rfl, .ty "int", .base (.ins e c o.ha o.hn o.htk o.hm), kitOwn (by decide +kernel) ki, ?_⟩
      walk_at "rd"
      exact k

end
end W

namespace W
open PySem PySem.Spec PyProof.Rows L2
section
variable {P : Program} {w : World} {K : PySem.W.Frag} {mg : Str → Option Value} {base : Heap}
/-! ### the hand: cells (never written) and four ints; what is drawn lies below the number -/
def sp_l_hand (K : PySem.W.Frag) : Sp := fun vs H Q _ => ∃ (a : Addr) (ns : List Int), vs = [.ref a] ∧ SqL K H a (ns.map V.int) ∧ ∀ t c H', Tape H' t c → Same H H' → H t = none → H c = none → Q (.ref t) H'
def sp_l_draw (K : PySem.W.Frag) : Sp := fun vs H Q _ => ∃ (t c : Addr) (n : Int), vs = [.ref t, .int n] ∧ Tape H t c ∧ 0 < n ∧ n < 1073741824 ∧ ∀ r H', 0 ≤ r → r < n → Tape H' t c → Rd.But t H H' → Q (.int r) H'
theorem cut_ints (ns : List Int) (lo hi : Option Int) : ∃ ms : List Int, cutV (ns.map V.int) lo hi = ms.map V.int ∧ (∀ n : Nat, hi = some (n : Int) → ms.length ≤ n) := by
  refine ⟨(ns.drop (HT.sIx (ns.map V.int).length 0 lo)).take (HT.sIx (ns.map V.int).length (ns.map V.int).length hi - HT.sIx (ns.map V.int).length 0 lo), ?_, fun n e => ?_⟩
  · unfold cutV
    rw [List.map_take, List.map_drop]
  · subst e
    rw [HT.sIx_nat, List.length_take]
    omega
theorem ok_l_hand (T : Txt K mg) : FnOk P w K mg base CX0 1 T.f_l_hand T.fd_l_hand ["_law_script"] (sp_l_hand K) := by
  refine T.F_l_hand.ok sc_l_hand (fun vs H Q E h => ?_) (fun cdv A outer s H vs Q E hr h => ?_)
  · obtain ⟨a, ns, rfl, _⟩ := h
    rfl
  · obtain ⟨a, ns, rfl, hS, k⟩ := h
    refine ⟨_, (pss_cons (ps_setLc (i := 1) (own := [("_law_cell", 2)]) (g := gName 2) (tt := tYes) rfl sc_l_hand.nd rfl rfl (sw_true rfl rfl rfl (by decide +kernel)) (pi_list (pe_slice (r := rSlL K) sl_list (pv 0) po_none (po_some pe_int))) (blkOk_by (own := [("_law_cell", 2)]) (N := ["_law_script", "_law_cells", "_law_cell"]) (sc := defScope s_l_hand) (by decide +kernel)) (fun _ _ _ _ _ => (pg_name (i := 2) sc_l_hand.nd rfl (.inl rfl))) (fun _ _ _ _ _ => pts_nil) (fun _ _ _ _ _ => (pe_callB (id := "abs") (r := _) Rd.c_abs (by rfl) T.n_abs (by decide +kernel) (pa_cons (pe_callTy (T := "int") (r := _) Rd.c_int (by rfl) T.n_int (by decide +kernel) (pa_cons (pv 2) pa_nil)) pa_nil))))
  (pss_one (ps_ret (pe_lst (pa_cons (pv 1) (pa_cons pe_int (pa_cons pe_int (pa_cons (pe_op op_add pe_int (pe_callB (id := "len") (r := Rd.nLen K) Rd.c_len (by rfl) T.n_len (by decide +kernel) (pa_cons (pv 1) pa_nil))) (pa_cons pe_int pa_nil))))))))), ?_⟩
    walk_at "rd"
    obtain ⟨ms, em, lm⟩ := cut_ints ns none (some 63)
    have l63 := lm 63 rfl
    refine Rd.slL hS (Rd.new fun p G np gp s1 => ?_)
    rw [em] at gp
    walk_at "rd"
    refine ⟨⟨_, .of gp⟩, Rd.lcS walk_list (fun _ s => .of (s _ _ gp)) (fun D i acc _ => ∃ us : List Int, acc = us.map V.int ∧ us.length = i) (fun _ _ _ _ _ => ⟨[], rfl, rfl⟩) ?_ ?_⟩
    · rintro D i x G2 _ acc nD hi hD sm ⟨us, rfl, ul⟩ ⟨rfl, hx⟩
      obtain ⟨v, hv, rfl⟩ := Rd.map_get hx
      rw [List.length_map] at hi
      walk_at "rd"
      refine ⟨rfl, ?_⟩
      walk_at "rd"
      refine Rd.lcPush hD nD sm (by rw [List.length_map, ul, sizeLine_eq]; omega) fun G3 g3 off3 => ?_
      exact ⟨us ++ [(v.natAbs : Int)], by rw [List.map_append]; rfl, by rw [List.length_append, ul]; rfl⟩
    · rintro c acc G2 nc hc s2 ⟨us, rfl, ul⟩
      rw [List.length_map] at ul
      walk_at "rd"
      refine Rd.len (.inl (.of hc)) ?_
      rw [List.length_map]
      walk_at "rd"
      refine ⟨Nat.le_of_ble_eq_true rfl, Rd.new fun t G3 ht gt s3 => ?_⟩
      have tc : c ≠ t := ne_of_none hc ht
      have s12 := s1.trans s2
      exact k t c _ ⟨us, 0, 0, 1 + (us.length : Int), 0, tc.symm, gt, s3 _ _ hc, by decide, by omega, by omega, by omega⟩ (s12.trans s3) (s12.free ht) (s1.free nc)
theorem ok_l_draw (T : Txt K mg) : FnOk P w K mg base CX0 1 T.f_l_draw T.fd_l_draw ["_law_hand_here", "_law_many"] (sp_l_draw K) := by
  refine T.F_l_draw.ok sc_l_draw (fun vs H Q E h => ?_) (fun cdv A outer s H vs Q E hr h => ?_)
  · obtain ⟨t, c, n, rfl, _⟩ := h
    rfl
  · obtain ⟨t, c, n, rfl, ⟨ns, x, y, z, u, tc, h1, h2, x0, x1, z0, z1⟩, n0, n1, k⟩ := h
    refine ⟨_, (C8.pss_cut (ps_if (PW.pt (pw_and (pt_cmpR op_eq (pe_ix (r := rIxL K) ix_list (pv 0) pe_int (fun _ _ => rfl)) pe_int (nomark _)) (pw_and1 (pt_cmpR op_lt (pe_ix (r := rIxL K) ix_list (pv 0) pe_int (fun _ _ => rfl)) (pe_callB (id := "len") (r := Rd.nLen K) Rd.c_len (by rfl) T.n_len (by decide +kernel) (pa_cons (pe_ix ix_list (pv 0) pe_int (fun _ _ => rfl)) pa_nil)) (nomark _)))))
  (pss_cons (ps_set (i := 2) sc_l_draw.nd rfl (.inl rfl) (pe_ix (r := rIxL K) ix_list (pe_ix ix_list (pv 0) pe_int (fun _ _ => rfl)) (pe_ix (r := rIxL K) ix_list (pv 0) pe_int (fun _ _ => rfl)) (fun _ _ => rfl)))
  (pss_cons (ps_asg (pe_op op_add (pe_ix (r := rIxL K) ix_list (pv 0) pe_int (fun _ _ => rfl)) pe_int) (pg_sub (pv 0) pe_int set_list))
  (pss_cons (ps_asg (pe_op op_mod (pe_callTy (T := "int") (r := _) Rd.c_int (by rfl) T.n_int (by decide +kernel) (pa_cons (pe_op op_add (pe_op op_add (pe_op op_mul (pe_ix (r := rIxL K) ix_list (pv 0) pe_int (fun _ _ => rfl)) pe_int) (pv 2)) pe_int) pa_nil)) pe_int) (pg_sub (pv 0) pe_int set_list))
  (pss_one (ps_if (pt_cmpR op_ge (pv 2) (pe_op op_pow pe_int pe_int) (nomark _))
  (pss_one (ps_asg (pv 2) (pg_sub (pv 0) pe_int set_list)))
  pss_nil)))))
  pss_nil)
  (pss_cons (ps_if (pt_cmpR op_gt (pe_ix (r := rIxL K) ix_list (pv 0) pe_int (fun _ _ => rfl)) pe_int (nomark _))
  (pss_cons (ps_set (i := 3) sc_l_draw.nd rfl (.inl rfl) (pe_op op_mod (pe_callTy (T := "int") (r := _) Rd.c_int (by rfl) T.n_int (by decide +kernel) (pa_cons (pe_ix (r := rIxL K) ix_list (pv 0) pe_int (fun _ _ => rfl)) pa_nil)) (pv 1)))
  (pss_cons (ps_asg (pe_op op_fdiv (pe_ix (r := rIxL K) ix_list (pv 0) pe_int (fun _ _ => rfl)) (pv 1)) (pg_sub (pv 0) pe_int set_list))
  (pss_one (ps_ret (pv 3)))))
  pss_nil)
  (pss_cons (ps_asg (pe_op op_add (pe_ix (r := rIxL K) ix_list (pv 0) pe_int (fun _ _ => rfl)) pe_int) (pg_sub (pv 0) pe_int set_list))
  (pss_cons (ps_set (i := 4) sc_l_draw.nd rfl (.inl rfl) (pe_op op_mod (pe_callTy (T := "int") (r := _) Rd.c_int (by rfl) T.n_int (by decide +kernel) (pa_cons (pe_op op_mul (pe_callTy (T := "int") (r := _) Rd.c_int (by rfl) T.n_int (by decide +kernel) (pa_cons (pe_op op_add (pe_ix (r := rIxL K) ix_list (pv 0) pe_int (fun _ _ => rfl)) (pe_op op_mul pe_int (pe_ix (r := rIxL K) ix_list (pv 0) pe_int (fun _ _ => rfl)))) pa_nil)) pe_int) pa_nil)) pe_int))
  (pss_cons (ps_set (i := 4) sc_l_draw.nd rfl (.inl rfl) (pe_op op_mod (pe_callTy (T := "int") (r := _) Rd.c_int (by rfl) T.n_int (by decide +kernel) (pa_cons (pe_op op_mul (pv 4) (pe_op op_add (pe_op op_fdiv (pv 4) pe_int) pe_int)) pa_nil)) pe_int))
  (pss_cons (ps_set (i := 4) sc_l_draw.nd rfl (.inl rfl) (pe_op op_mod (pe_callTy (T := "int") (r := _) Rd.c_int (by rfl) T.n_int (by decide +kernel) (pa_cons (pe_op op_mul (pv 4) (pe_op op_add (pe_op op_fdiv (pv 4) pe_int) pe_int)) pa_nil)) pe_int))
  (pss_one (ps_ret (pe_op op_mod (pe_callTy (T := "int") (r := _) Rd.c_int (by rfl) T.n_int (by decide +kernel) (pa_cons (pe_op op_fdiv (pv 4) pe_int) pa_nil)) (pv 1)))))))))), ?_⟩
    walk_at "rd"
    refine Rd.cut (fun σ G => ∃ (x y z : Int) (o2 o3 o4 : Option V), σ = [some (.ref t), some (.int n), o2, o3, o4] ∧ G t = some (.lst [.ref c, .int x, .int y, .int z, .int u]) ∧ 0 ≤ x ∧ x ≤ ns.length ∧ 0 ≤ z ∧ z < 2147483647 ∧ ∀ b, b ≠ t → G b = H b) ?_ ?_
    · walk_at "rd"
      refine Rd.ixL (.of h1) (atI_nat (j := 2) rfl) ?_
      walk_at "rd"
      refine ite2 (fun q => ?_) (fun q => ?_)
      · walk_at "rd"
        refine Rd.ixL (.of h1) (atI_nat (j := 1) rfl) ?_
        walk_at "rd"
        refine Rd.ixL (.of h1) (atI_nat (j := 0) rfl) ?_
        walk_at "rd"
        refine Rd.len (.inl (.of h2)) ?_
        rw [List.length_map]
        walk_at "rd"
        refine ite2 (fun q2 => ?_) (fun q2 => ?_)
        · walk_at "rd"
          refine Rd.ixL (.of h1) (atI_nat (j := 0) rfl) ?_
          walk_at "rd"
          refine Rd.ixL (.of h1) (atI_nat (j := 1) rfl) ?_
          have hx : x.toNat < ns.length := by omega
          refine Rd.ixL (.of h2) (Rd.atI_of x0 (Rd.map_int hx)) ?_
          walk_at "rd"
          refine Rd.ixL (.of h1) (atI_nat (j := 1) rfl) ?_
          walk_at "rd"
          refine Rd.setG h1 (show ixN 5 1 = some 1 by decide) rfl fun G g1 gb => ?_
          walk_at "rd"
          refine Rd.ixL (.of g1) (atI_nat (j := 3) rfl) ?_
          walk_at "rd"
          refine Rd.iC (.inr (by decide)) ?_
          walk_at "rd"
          refine Rd.iC (by decide) ?_
          generalize hM : (z * 69621 + ns[x.toNat] + 11) % 2147483629 = M
          have M0 : 0 ≤ M := by rw [← hM]; exact Int.emod_nonneg _ (by decide)
          have M1 : M < 2147483629 := by rw [← hM]; exact Int.emod_lt_of_pos _ (by decide)
          walk_at "rd"
          refine Rd.setG g1 (show ixN 5 3 = some 3 by decide) rfl fun G2 g2 gb2 => ?_
          have off2 : ∀ b, b ≠ t → G2 b = H b := fun b hb => (gb2 b hb).trans (gb b hb)
          walk_at "rd"
          refine Rd.iC ⟨by decide, by decide, by decide⟩ ?_
          walk_at "rd"
          refine ite2 (fun q3 => ?_) (fun q3 => ?_)
          · walk_at "rd"
            refine Rd.setG g2 (show ixN 5 2 = some 2 by decide) rfl fun G3 g3 gb3 => ?_
            walk_at "rd"
            exact ⟨x + 1, _, M, _, _, _, rfl, g3, by omega, by omega, M0, by omega, fun b hb => (gb3 b hb).trans (off2 b hb)⟩
          · walk_at "rd"
            exact ⟨x + 1, y, M, _, _, _, rfl, g2, by omega, by omega, M0, by omega, off2⟩
        · walk_at "rd"
          exact ⟨x, y, z, _, _, _, rfl, h1, x0, x1, z0, z1, fun b hb => rfl⟩
      · walk_at "rd"
        exact ⟨x, y, z, _, _, _, rfl, h1, x0, x1, z0, z1, fun b hb => rfl⟩
    · clear h1 x0 x1 z0 z1 x y z
      rintro _ G ⟨x, y, z, o2, o3, o4, rfl, g1, x0, x1, z0, z1, off⟩
      have g2 : G c = some (.lst (ns.map V.int)) := by rw [off _ tc.symm]; exact h2
      walk_at "rd"
      refine Rd.ixL (.of g1) (atI_nat (j := 2) rfl) ?_
      walk_at "rd"
      refine ite2 (fun q => ?_) (fun q => ?_)
      · walk_at "rd"
        refine Rd.ixL (.of g1) (atI_nat (j := 2) rfl) ?_
        walk_at "rd"
        refine Rd.iC n0 ?_
        walk_at "rd"
        refine Rd.ixL (.of g1) (atI_nat (j := 2) rfl) ?_
        walk_at "rd"
        refine Rd.iC ⟨n0, n1⟩ ?_
        walk_at "rd"
        refine Rd.setG g1 (show ixN 5 2 = some 2 by decide) rfl fun G3 g3 gb3 => ?_
        walk_at "rd"
        exact k _ _ (Int.emod_nonneg _ (by omega)) (Int.emod_lt_of_pos _ n0) ⟨ns, x, _, z, u, tc, g3, by rw [gb3 _ tc.symm]; exact g2, x0, x1, z0, z1⟩ (fun b o hb e => by rw [gb3 b hb, off b hb]; exact e)
      · walk_at "rd"
        refine Rd.ixL (.of g1) (atI_nat (j := 4) rfl) ?_
        walk_at "rd"
        refine Rd.setG g1 (show ixN 5 4 = some 4 by decide) rfl fun G3 g3 gb3 => ?_
        have e2 : G3 c = some (.lst (ns.map V.int)) := by rw [gb3 _ tc.symm]; exact g2
        walk_at "rd"
        refine Rd.ixL (.of g3) (atI_nat (j := 3) rfl) ?_
        walk_at "rd"
        refine Rd.ixL (.of g3) (atI_nat (j := 4) rfl) ?_
        walk_at "rd"
        refine Rd.iC (.inl ⟨by decide, by decide⟩) ?_
        walk_at "rd"
        refine Rd.iC (.inr (by decide)) ?_
        walk_at "rd"
        refine Rd.iC (by decide) ?_
        generalize hM : (z + 7919 * (u + 1)) * 48271 % 2147483647 = M
        have M0 : 0 ≤ M := by rw [← hM]; exact Int.emod_nonneg _ (by decide)
        have M1 : M < 2147483647 := by rw [← hM]; exact Int.emod_lt_of_pos _ (by decide)
        walk_at "rd"
        refine Rd.iC ⟨by decide, by decide⟩ ?_
        walk_at "rd"
        refine Rd.iC (.inl ⟨by omega, by omega⟩) ?_
        walk_at "rd"
        refine Rd.iC (by decide) ?_
        generalize hN : M * (M / 1009 + 69621) % 2147483647 = N
        have N0 : 0 ≤ N := by rw [← hN]; exact Int.emod_nonneg _ (by decide)
        have N1 : N < 2147483647 := by rw [← hN]; exact Int.emod_lt_of_pos _ (by decide)
        walk_at "rd"
        refine Rd.iC ⟨by decide, by decide⟩ ?_
        walk_at "rd"
        refine Rd.iC (.inl ⟨by omega, by omega⟩) ?_
        walk_at "rd"
        refine Rd.iC (by decide) ?_
        walk_at "rd"
        refine Rd.iC ⟨by decide, by decide⟩ ?_
        walk_at "rd"
        refine Rd.iC n0 ?_
        walk_at "rd"
        exact k _ _ (Int.emod_nonneg _ (by omega)) (Int.emod_lt_of_pos _ n0) ⟨ns, x, y, z, u + 1, tc, g3, e2, x0, x1, z0, z1⟩ (fun b o hb e => by rw [gb3 b hb, off b hb]; exact e)
theorem drawR {K : PySem.W.Frag} {H : Hp} {t c : Addr} {n : Int} {Q : VK} {E : XK} (T : Tape H t c) (h0 : 0 < n) (h1 : n < 1073741824) (k : ∀ r H', 0 ≤ r → r < n → Tape H' t c → Rd.But t H H' → Q (.int r) H') : sp_l_draw K [.ref t, .int n] H Q E := ⟨t, c, n, rfl, T, h0, h1, k⟩

end
end W

namespace W
open PySem PySem.Spec PyProof.Rows L2
section
variable {P : Program} {w : World} {K : PySem.W.Frag} {mg : Str → Option Value} {base : Heap}
/-! ### the greatest common divisor -/
def sp_common (K : PySem.W.Frag) : Sp := fun vs H Q _ => ∃ a b : Int, vs = [.int a, .int b] ∧ Q (.int (Nat.gcd a.natAbs b.natAbs : Nat)) H
theorem ok_common (T : Txt K mg) : FnOk P w K mg base CX0 1 T.f_common T.fd_common ["one", "other"] (sp_common K) := by
  refine T.F_common.ok sc_common (fun vs H Q E h => ?_) (fun cdv A outer s H vs Q E hr h => ?_)
  · obtain ⟨a, b, rfl, _⟩ := h
    rfl
  · obtain ⟨a, b, rfl, k⟩ := h
    refine ⟨_, (pss_cons (ps_set (i := 0) sc_common.nd rfl (.inl rfl) (pe_callB (id := "abs") (r := _) Rd.c_abs (by rfl) T.n_abs (by decide +kernel) (pa_cons (pv 0) pa_nil)))
  (pss_cons (ps_set (i := 1) sc_common.nd rfl (.inl rfl) (pe_callB (id := "abs") (r := _) Rd.c_abs (by rfl) T.n_abs (by decide +kernel) (pa_cons (pv 1) pa_nil)))
  (pss_cons (ps_while PassesOwn.never (pt_cmpR op_gt (pv 1) pe_int (nomark _))
  (pss_one (ps_par (i := 0) (j := 1) rfl sc_common.nd rfl rfl (by decide) rfl rfl (pa_cons (pv 1) (pa_cons (pe_op op_mod (pv 0) (pv 1)) pa_nil)) (by rfl))))
  (pss_one (ps_ret (pv 0)))))), ?_⟩
    walk_at "rd"
    refine Rd.whl (fun m σ H' => ∃ x : Nat, σ = [some (.int x), some (.int m)] ∧ Nat.gcd x m = Nat.gcd a.natAbs b.natAbs ∧ H' = H) ⟨b.natAbs, a.natAbs, rfl, rfl, rfl⟩ ?_
    rintro m _ _ ⟨x, rfl, e, rfl⟩
    walk_at "rd"
    refine ite2 (fun c => ?_) (fun c => ?_)
    · refine Rd.whN ?_
      walk_at "rd"
      refine Rd.iC c ?_
      walk_at "rd"
      have hm : 0 < m := by omega
      refine ⟨x % m, Nat.mod_lt _ hm, m, ?_, ?_, rfl⟩
      · rw [Int.natCast_emod]
        rfl
      · rw [← e, Nat.gcd_comm x m, Nat.gcd_rec m x, Nat.gcd_comm]
    · have hm : m = 0 := by omega
      subst hm
      walk_at "rd"
      rw [Nat.gcd_zero_right] at e
      rw [e]
      exact k

end
end W

namespace W
open PySem PySem.Spec PyProof.Rows L2
section
variable {P : Program} {w : World} {K : PySem.W.Frag} {mg : Str → Option Value} {base : Heap}
set_option exponentiation.threshold 10000
open Mx (Sz part)
/-! ### fractions -/
/-- an instance of C that holds r -/
def RatAt (C : Addr) (H : Hp) (b : Addr) (r : Rat) : Prop := ∃ dx, H b = some (.ins C dx [("top", .int r.num), ("bottom", .int (r.den : Int))])
/-- a number: a fraction or an int -/
def NumAt (C : Addr) (H : Hp) (x : V) (r : Rat) : Prop := (∃ b, x = .ref b ∧ RatAt C H b r) ∨ ∃ i : Int, x = .int i ∧ r = (i : Rat)
/-- no number -/
inductive OdX (K : PySem.W.Frag) (C : Addr) (H : Hp) : V → Prop where
  | is {x : V} {k : Rx.Kd} (h : Rx.Is H x k) (n : k.isNum = false) : OdX K C H x
  | ins {a D dx : Addr} {fs : List (Str × V)} (e : H a = some (.ins D dx fs)) (c : Cls K D) (o : OwnTy K D) (ki : PySem.W.mroIn K D (.type "int") = some false) (kb : PySem.W.mroIn K D (.type "bool") = some false)
      (s : PySem.W.subIn K (.ref D) (.ref C) = some false) (ne : (Value.ref D == Value.ref C) = false) : OdX K C H (.ref a)
theorem RatAt.same {C b : Addr} {r : Rat} {H H' : Hp} (s : Same H H') (h : RatAt C H b r) : RatAt C H' b r := let ⟨dx, e⟩ := h; ⟨dx, s _ _ e⟩
theorem RatAt.tape {C b t c : Addr} {r : Rat} {H H' : Hp} (ht : Tape H t c) (off : Rd.But t H H') (h : RatAt C H b r) : RatAt C H' b r := by
  obtain ⟨dx, e⟩ := h
  obtain ⟨ns, x, y, z, u, _, g, _⟩ := ht
  exact ⟨dx, off _ _ (ne_of e g (fun e => nomatch e)) e⟩
theorem NumAt.same {C : Addr} {x : V} {r : Rat} {H H' : Hp} (s : Same H H') (h : NumAt C H x r) : NumAt C H' x r := h.elim (fun ⟨b, e, h⟩ => .inl ⟨b, e, h.same s⟩) .inr
theorem NumAt.tape {C t c : Addr} {x : V} {r : Rat} {H H' : Hp} (ht : Tape H t c) (off : Rd.But t H H') (h : NumAt C H x r) : NumAt C H' x r := h.elim (fun ⟨b, e, h⟩ => .inl ⟨b, e, h.tape ht off⟩) .inr
theorem RatAt.num {C b : Addr} {r : Rat} {H : Hp} (h : RatAt C H b r) : NumAt C H (.ref b) r := .inl ⟨b, rfl, h⟩
theorem NumAt.int {C : Addr} {H : Hp} (i : Int) : NumAt C H (.int i) i := .inr ⟨i, rfl, rfl⟩
theorem OdX.same {C : Addr} {x : V} {H H' : Hp} (s : Same H H') (h : OdX K C H x) : OdX K C H' x := by
  cases h with
  | is h n => exact .is (h.same s) n
  | ins e c o ki kb z ne => exact .ins (s _ _ e) c o ki kb z ne
theorem OdX.isX {C : Addr} {x : V} {H : Hp} (h : OdX K C H x) : ∃ k, IsX K H x k ∧ k.isNum = false := by
  cases h with
  | is h n => exact ⟨_, .is h, n⟩
  | ins e c o ki kb z ne => exact ⟨_, .ins e c o ki kb, rfl⟩
theorem kdOwn {C : Addr} (ic : PySem.W.isClsIn K C = true) (tc : PySem.W.typeIn K (.ref C) = some (.type "type")) (k : Rx.Kd) : PySem.W.kitOne K (.type k.ty) (.ref C) = some false := by
  cases k <;> exact Rp.kitB_own ic tc rfl
theorem RatAt.ask (T : Txt K mg) {b : Addr} {r : Rat} {H : Hp} {Q : VK} (h : RatAt T.C_Ratio H b r) (q : Q (.bl true) H) : rIsi K [.ref b, .ref T.C_Ratio] H Q := let ⟨_, e⟩ := h; isiOwn T.cl_Ratio T.ty_Ratio e q
theorem askI (T : Txt K mg) {i : Int} {H : Hp} {Q : VK} (q : Q (.bl false) H) : rIsi K [.int i, .ref T.C_Ratio] H Q := ⟨_, _, _, _, false, rfl, .own _, .base (.int i), Rp.kitB_own T.ic_Ratio T.tc_Ratio rfl, q⟩
theorem OdX.ask (T : Txt K mg) {x : V} {H : Hp} {Q : VK} (h : OdX K T.C_Ratio H x) (q : Q (.bl false) H) : rIsi K [x, .ref T.C_Ratio] H Q := by
  cases h with
  | is h n => exact ⟨_, _, _, _, false, rfl, .own _, h.ty, kdOwn T.ic_Ratio T.tc_Ratio _, q⟩
  | ins e c o ki kb z ne => exact ⟨_, _, _, _, false, rfl, .own _, .base (.ins e c o.ha o.hn o.htk o.hm), Rp.kitO_own T.ic_Ratio T.tc_Ratio z ne, q⟩
theorem RatAt.ftop (T : Txt K mg) {b : Addr} {r : Rat} {H : Hp} {Q : VK} (h : RatAt T.C_Ratio H b r) (q : Q (.int r.num) H) : Rd.FldG K "top" (.ref b) H Q := let ⟨_, e⟩ := h; Rd.fld e T.cl_Ratio T.na_Ratio_top rfl q
theorem RatAt.fbot (T : Txt K mg) {b : Addr} {r : Rat} {H : Hp} {Q : VK} (h : RatAt T.C_Ratio H b r) (q : Q (.int (r.den : Int)) H) : Rd.FldG K "bottom" (.ref b) H Q := let ⟨_, e⟩ := h; Rd.fld e T.cl_Ratio T.na_Ratio_bottom rfl q
def sp_Ratio_init (K : PySem.W.Frag) (C CB : Addr) : Sp := fun vs H Q E => ∃ (b dx : Addr) (x y : V), vs = [.ref b, x, y] ∧ H b = some (.ins C dx []) ∧
  ((∃ t u : Int, x = .int t ∧ y = .int u ∧ u ≠ 0 ∧ u.natAbs < 2 ^ 9000 ∧ ∀ H', RatAt C H' b (Rat.divInt t u) → Rd.But b H H' → Q .non H') ∨
   (∃ k, IsX K H x k ∧ k.isNum = false ∧ Rx.Raised CB x H E) ∨
   ∃ t : Int, x = .int t ∧ ((∃ k, IsX K H y k ∧ k.isNum = false) ∨ y = .int 0) ∧ Rx.Raised CB y H E)
theorem made2 {H G H' : Hp} {x : Addr} (nx : H x = none) (s : Same H G) (bt : Rd.But x G H') : Same H H' := fun b o e => bt b o (ne_of_none e nx) (s b o e)
theorem mkR {C CB : Addr} {H : Hp} {Q : VK} {E : XK} {vs dvs : List V} {t u : Int} (e : vs ++ dvs = [.int t, .int u]) (h : u ≠ 0) (bd : u.natAbs < 2 ^ 9000) (k : ∀ b H', RatAt C H' b (Rat.divInt t u) → Same H H' → Q (.ref b) H') : Rd.MkG C (sp_Ratio_init K C CB) dvs E vs H Q := by
  refine Rd.mk fun x dx G nx nd ne gx s1 off => ?_
  rw [e]
  exact ⟨x, dx, _, _, rfl, gx, .inl ⟨t, u, rfl, rfl, h, bd, fun H' hR bt => ⟨rfl, k x H' hR (made2 nx s1 bt)⟩⟩⟩
theorem ok_Ratio_init (T : Txt K mg) : FnOk P w K mg base (L2.CX P w) 4 T.f_Ratio_init T.fd_Ratio_init ["self", "top", "bottom"] (sp_Ratio_init K T.C_Ratio T.C_BadNumber) := by
  refine T.D_Ratio_init.ok (CX := L2.CX P w) sc_Ratio_init (fun vs H Q E h => ?_) (fun cdv A outer s H vs Q E hr h => ?_)
  · obtain ⟨b, dx, x, y, rfl, _⟩ := h
    rfl
  · obtain ⟨b, dx, x, y, rfl, h0, h⟩ := h
    refine ⟨_, (pss_cons (ps_if (pt_not (pt_val (pe_call (ok_is_integer T) (hr.mono (by decide)) rfl T.g_is_integer T.F_is_integer.kp T.b_is_integer .nil pass0 (pa_cons (pv 1) pa_nil))))
  (pss_one (Rx.ps_raise1 rfl T.X_BadNumber T.tI_WayError_init (ok_WayError_init T) (hr.mono (by decide)) T.b_WayError_init rfl T.c_BadNumber (takes_of rfl rfl rfl rfl) (pv 1)))
  pss_nil)
  (pss_cons (ps_if (PW.pt (pw_or (pt_not (pt_val (pe_call (ok_is_integer T) (hr.mono (by decide)) rfl T.g_is_integer T.F_is_integer.kp T.b_is_integer .nil pass0 (pa_cons (pv 2) pa_nil)))) (pw_or1 (pt_cmpR op_eq (pv 2) pe_int (nomark _)))))
  (pss_one (Rx.ps_raise1 rfl T.X_BadNumber T.tI_WayError_init (ok_WayError_init T) (hr.mono (by decide)) T.b_WayError_init rfl T.c_BadNumber (takes_of rfl rfl rfl rfl) (pv 2)))
  pss_nil)
  (pss_cons (ps_set (i := 3) sc_Ratio_init.nd rfl (.inl rfl) (pe_call (ok_common T) (hr.mono (by decide)) rfl T.g_common T.F_common.kp T.b_common .nil pass0 (pa_cons (pv 1) (pa_cons (pv 2) pa_nil))))
  (pss_cons (ps_if (pt_cmpR op_lt (pv 2) pe_int (nomark _))
  (pss_one (ps_set (i := 3) sc_Ratio_init.nd rfl (.inl rfl) (pe_un un_neg (pv 3))))
  pss_nil)
  (pss_cons (ps_fld (pv 0) (pe_op Rr.op_fdivZ (pv 1) (pv 3)) rfl)
  (pss_one (ps_fld (pv 0) (pe_op Rr.op_fdivZ (pv 2) (pv 3)) rfl))))))), ?_⟩
    rcases h with ⟨t, u, rfl, rfl, u0, bd, k⟩ | ⟨kd, ix, nn, rs⟩ | ⟨t, rfl, odd, rs⟩
    · walk_at "rd"
      refine ⟨_, _, rfl, .int _, ?_⟩
      walk_at "rd"
      refine Rd.yes rfl ?_
      walk_at "rd"
      refine ⟨_, _, rfl, .int _, ?_⟩
      walk_at "rd"
      refine Rd.yes rfl ?_
      walk_at "rd"
      refine Rd.no u0 ?_
      walk_at "rd"
      refine ⟨_, _, rfl, ?_⟩
      walk_at "rd"
      have lg : ∀ p : Int, p.natAbs = Nat.gcd t.natAbs u.natAbs → p.natAbs.log2 < 9000 := fun p e => PySem.Flt.log2_lt_of (by decide) (by
        rw [e]
        exact Nat.lt_of_le_of_lt (Mx.gcd_le u0) bd)
      refine ite2 (fun c => ?_) (fun c => ?_)
      · have e : part t u = -((Nat.gcd t.natAbs u.natAbs : Nat) : Int) := if_pos c
        walk_at "rd"
        rw [← e]
        refine Rd.iC ⟨Mx.part_ne u0, lg _ (Mx.part_abs t u)⟩ ?_
        rw [Mx.top_of u0]
        walk_at "rd"
        refine Rd.sfld h0 T.cl_Ratio T.na_Ratio_top (by decide) (show _ = [(("top" : Str), V.int (Rat.divInt t u).num)] from rfl) fun G1 h1 off1 => ?_
        walk_at "rd"
        refine Rd.iC ⟨Mx.part_ne u0, lg _ (Mx.part_abs t u)⟩ ?_
        rw [Mx.bot_of u0]
        walk_at "rd"
        refine Rd.sfld h1 T.cl_Ratio T.na_Ratio_bottom (by simp) rfl fun G2 g2 off2 => ?_
        walk_at "rd"
        exact k G2 ⟨dx, g2⟩ fun x u nx e => by
          rw [off2 x nx, off1 x nx]
          exact e
      · have e : part t u = ((Nat.gcd t.natAbs u.natAbs : Nat) : Int) := if_neg c
        walk_at "rd"
        rw [← e]
        refine Rd.iC ⟨Mx.part_ne u0, lg _ (Mx.part_abs t u)⟩ ?_
        rw [Mx.top_of u0]
        walk_at "rd"
        refine Rd.sfld h0 T.cl_Ratio T.na_Ratio_top (by decide) (show _ = [(("top" : Str), V.int (Rat.divInt t u).num)] from rfl) fun G1 h1 off1 => ?_
        walk_at "rd"
        refine Rd.iC ⟨Mx.part_ne u0, lg _ (Mx.part_abs t u)⟩ ?_
        rw [Mx.bot_of u0]
        walk_at "rd"
        refine Rd.sfld h1 T.cl_Ratio T.na_Ratio_bottom (by simp) rfl fun G2 g2 off2 => ?_
        walk_at "rd"
        exact k G2 ⟨dx, g2⟩ fun x u nx e => by
          rw [off2 x nx, off1 x nx]
          exact e
    · walk_at "rd"
      refine ⟨_, _, rfl, ix, ?_⟩
      rw [nn]
      walk_at "rd"
      exact rs.now (Same.refl _)
    · walk_at "rd"
      refine ⟨_, _, rfl, .int _, ?_⟩
      walk_at "rd"
      refine Rd.yes rfl ?_
      walk_at "rd"
      rcases odd with ⟨kd, ix, nn⟩ | rfl
      · refine ⟨_, _, rfl, ix, ?_⟩
        rw [nn]
        walk_at "rd"
        exact rs.now (Same.refl _)
      · refine ⟨_, _, rfl, .int _, ?_⟩
        walk_at "rd"
        refine Rd.yes rfl ?_
        walk_at "rd"
        refine Rd.yes rfl ?_
        walk_at "rd"
        exact rs.now (Same.refl _)
/-! ### what is a number -/
def sp_is_number (K : PySem.W.Frag) (C : Addr) : Sp := fun vs H Q _ => ∃ x : V, vs = [x] ∧ ((∃ r, NumAt C H x r ∧ Q (.bl true) H) ∨ (OdX K C H x ∧ Q (.bl false) H))
def sp_as_ratio (K : PySem.W.Frag) (C : Addr) : Sp := fun vs H Q _ => ∃ (x : V) (r : Rat), vs = [x] ∧ NumAt C H x r ∧ ∀ b H', RatAt C H' b r → Same H H' → Q (.ref b) H'
theorem ok_is_number (T : Txt K mg) : FnOk P w K mg base CX0 2 T.f_is_number T.fd_is_number ["value"] (sp_is_number K T.C_Ratio) := by
  refine T.F_is_number.ok sc_is_number (fun vs H Q E h => ?_) (fun cdv A outer s H vs Q E hr h => ?_)
  · obtain ⟨x, rfl, _⟩ := h
    rfl
  · obtain ⟨x, rfl, h⟩ := h
    refine ⟨_, (pss_one (ps_ret (pe_or (pe_callB (id := "isinstance") (r := rIsi K) call_isi (by rfl) T.n_isinstance (by decide +kernel) (pa_cons (pv 0) (pa_cons (pe_glob (v := .ref T.C_Ratio) rfl T.c_Ratio rfl) pa_nil))) (pe_one (pe_call (ok_is_integer T) (hr.mono (by decide)) rfl T.g_is_integer T.F_is_integer.kp T.b_is_integer .nil pass0 (pa_cons (pv 0) pa_nil)))))), ?_⟩
    walk_at "rd"
    rcases h with ⟨r, ⟨b, rfl, hR⟩ | ⟨i, rfl, rfl⟩, k⟩ | ⟨od, k⟩
    · refine hR.ask T ?_
      walk_at "rd"
      exact k
    · refine askI T ?_
      walk_at "rd"
      exact ⟨_, _, rfl, .int _, k⟩
    · refine od.ask T ?_
      walk_at "rd"
      obtain ⟨kd, ix, nn⟩ := od.isX
      refine ⟨_, _, rfl, ix, ?_⟩
      rw [nn]
      exact k
theorem ok_as_ratio (T : Txt K mg) : FnOk P w K mg base CX0 6 T.f_as_ratio T.fd_as_ratio ["value"] (sp_as_ratio K T.C_Ratio) := by
  refine T.F_as_ratio.ok sc_as_ratio (fun vs H Q E h => ?_) (fun cdv A outer s H vs Q E hr h => ?_)
  · obtain ⟨x, r, rfl, _⟩ := h
    rfl
  · obtain ⟨x, r, rfl, h, k⟩ := h
    refine ⟨_, (pss_one (ps_ret (pe_ifExp (pt_val (pe_callB (id := "isinstance") (r := rIsi K) call_isi (by rfl) T.n_isinstance (by decide +kernel) (pa_cons (pv 0) (pa_cons (pe_glob (v := .ref T.C_Ratio) rfl T.c_Ratio rfl) pa_nil)))) (pv 0) (pe_make T.M_Ratio (ok_Ratio_init T) (hr.mono (by decide)) rfl T.c_Ratio T.b1_Ratio_init T.rd_Ratio_init passL (pa_cons (pv 0) pa_nil))))), ?_⟩
    walk_at "rd"
    rcases h with ⟨b, rfl, hR⟩ | ⟨i, rfl, rfl⟩
    · refine hR.ask T ?_
      walk_at "rd"
      exact k b _ hR (Same.refl _)
    · refine askI T ?_
      walk_at "rd"
      refine mkR rfl (by decide) (by decide) fun b H' hR s => ?_
      rw [Mx.of_int] at hR
      exact k b H' hR s
/-! ### the operators -/
/-- the method f of a fraction and a number -/
def RatM (K : PySem.W.Frag) (C : Addr) (f : Rat → Rat → Rat) : Sp := fun vs H Q _ => ∃ (b : Addr) (x : V) (r s : Rat), vs = [.ref b, x] ∧ RatAt C H b r ∧ NumAt C H x s ∧ Sz 4000 r ∧ Sz 4000 s ∧ ∀ q H', RatAt C H' q (f r s) → Same H H' → Q (.ref q) H'
/-- the method f of a fraction and an int -/
def RatI (K : PySem.W.Frag) (C : Addr) (f : Rat → Rat → Rat) : Sp := fun vs H Q _ => ∃ (b : Addr) (i : Int) (r : Rat), vs = [.ref b, .int i] ∧ RatAt C H b r ∧ Sz 4000 r ∧ i.natAbs < 2 ^ 4000 ∧ ∀ q H', RatAt C H' q (f r i) → Same H H' → Q (.ref q) H'
def sp_Ratio_add (K : PySem.W.Frag) (C : Addr) : Sp := RatM K C fun r s => r + s
def sp_Ratio_sub (K : PySem.W.Frag) (C : Addr) : Sp := RatM K C fun r s => r - s
def sp_Ratio_mul (K : PySem.W.Frag) (C : Addr) : Sp := RatM K C fun r s => r * s
def sp_Ratio_radd (K : PySem.W.Frag) (C : Addr) : Sp := RatI K C fun r s => s + r
def sp_Ratio_rsub (K : PySem.W.Frag) (C : Addr) : Sp := RatI K C fun r s => s - r
def sp_Ratio_rmul (K : PySem.W.Frag) (C : Addr) : Sp := RatI K C fun r s => s * r
def sp_Ratio_neg (K : PySem.W.Frag) (C : Addr) : Sp := fun vs H Q _ => ∃ (b : Addr) (r : Rat), vs = [.ref b] ∧ RatAt C H b r ∧ Sz 4000 r ∧ ∀ q H', RatAt C H' q (-r) → Same H H' → Q (.ref q) H'
theorem cmw {i j : Int} (a : i.natAbs < 2 ^ 4000) (b : j.natAbs < 2 ^ 4000) : CMulW i j := wide_mul a b (by decide) (by decide) (by decide)
theorem _root_.Mx.Sz.dn {k : Nat} {r : Rat} (h : Sz k r) : ((r.den : Int)).natAbs < 2 ^ k := h.2
theorem den9 {r : Rat} (h : Sz 4000 r) : ((r.den : Int)).natAbs < 2 ^ 9000 := Nat.lt_of_lt_of_le h.2 (Nat.pow_le_pow_right (by decide) (by decide))
theorem den9M {r s : Rat} (h : Sz 4000 r) (k : Sz 4000 s) : ((r.den : Int) * (s.den : Int)).natAbs < 2 ^ 9000 := Nat.lt_of_lt_of_le (Mx.mul_lt (a := 4000) (b := 4000) h.2 k.2) (Nat.pow_le_pow_right (by decide) (by decide))
theorem _root_.Mx.Sz.numI {i : Int} (h : Sz 4000 (i : Rat)) : i.natAbs < 2 ^ 4000 := h.1
theorem ok_Ratio_add (T : Txt K mg) : FnOk P w K mg base CX0 6 T.f_Ratio_add T.fd_Ratio_add ["self", "other"] (sp_Ratio_add K T.C_Ratio) := by
  refine T.F_Ratio_add.ok sc_Ratio_add (fun vs H Q E h => ?_) (fun cdv A outer s H vs Q E hr h => ?_)
  · obtain ⟨b, x, r, s, rfl, _⟩ := h
    rfl
  · obtain ⟨b, x, r, s, rfl, hR, hx, zr, zs, k⟩ := h
    refine ⟨_, (pss_cons (ps_if (pt_val (pe_callB (id := "isinstance") (r := rIsi K) call_isi (by rfl) T.n_isinstance (by decide +kernel) (pa_cons (pv 1) (pa_cons (pe_glob (v := .ref T.C_Ratio) rfl T.c_Ratio rfl) pa_nil))))
  (pss_one (ps_ret (pe_make T.M_Ratio (ok_Ratio_init T) (hr.mono (by decide)) rfl T.c_Ratio T.b_Ratio_init .nil passL (pa_cons (pe_op op_add (pe_op op_mulW (pe_fld (pv 0) rfl) (pe_fld (pv 1) rfl)) (pe_op op_mulW (pe_fld (pv 1) rfl) (pe_fld (pv 0) rfl))) (pa_cons (pe_op op_mulW (pe_fld (pv 0) rfl) (pe_fld (pv 1) rfl)) pa_nil)))))
  pss_nil)
  (pss_cons (ps_if (pt_val (pe_call (ok_is_integer T) (hr.mono (by decide)) rfl T.g_is_integer T.F_is_integer.kp T.b_is_integer .nil pass0 (pa_cons (pv 1) pa_nil)))
  (pss_one (ps_ret (pe_make T.M_Ratio (ok_Ratio_init T) (hr.mono (by decide)) rfl T.c_Ratio T.b_Ratio_init .nil passL (pa_cons (pe_op op_add (pe_fld (pv 0) rfl) (pe_op op_mulW (pv 1) (pe_fld (pv 0) rfl))) (pa_cons (pe_fld (pv 0) rfl) pa_nil)))))
  pss_nil)
  (pss_one ps_never))), ?_⟩
    walk_at "rd"
    rcases hx with ⟨c, rfl, hS⟩ | ⟨i, rfl, rfl⟩
    · refine hS.ask T ?_
      walk_at "rd"
      refine hR.ftop T ?_
      walk_at "rd"
      refine hS.fbot T ?_
      refine Rd.iC (cmw zr.1 zs.dn) ?_
      walk_at "rd"
      refine hS.ftop T ?_
      walk_at "rd"
      refine hR.fbot T ?_
      refine Rd.iC (cmw zs.1 zr.dn) ?_
      walk_at "rd"
      refine hR.fbot T ?_
      walk_at "rd"
      refine hS.fbot T ?_
      refine Rd.iC (cmw zr.dn zs.dn) ?_
      walk_at "rd"
      refine mkR rfl (Mx.two_ne r s) (den9M zr zs) fun q H' h' s' => ?_
      rw [Mx.add_of] at h'
      walk_at "rd"
      exact k q H' h' s'
    · refine askI T ?_
      walk_at "rd"
      refine ⟨_, _, rfl, .int _, ?_⟩
      walk_at "rd"
      refine Rd.yes rfl ?_
      walk_at "rd"
      refine hR.ftop T ?_
      walk_at "rd"
      refine hR.fbot T ?_
      refine Rd.iC (cmw zs.numI zr.dn) ?_
      walk_at "rd"
      refine hR.fbot T ?_
      walk_at "rd"
      refine mkR rfl (Mx.den_ne r) (den9 zr) fun q H' h' s' => ?_
      rw [Mx.addI_of] at h'
      walk_at "rd"
      exact k q H' h' s'
theorem ok_Ratio_sub (T : Txt K mg) : FnOk P w K mg base CX0 6 T.f_Ratio_sub T.fd_Ratio_sub ["self", "other"] (sp_Ratio_sub K T.C_Ratio) := by
  refine T.F_Ratio_sub.ok sc_Ratio_sub (fun vs H Q E h => ?_) (fun cdv A outer s H vs Q E hr h => ?_)
  · obtain ⟨b, x, r, s, rfl, _⟩ := h
    rfl
  · obtain ⟨b, x, r, s, rfl, hR, hx, zr, zs, k⟩ := h
    refine ⟨_, (pss_cons (ps_if (pt_val (pe_callB (id := "isinstance") (r := rIsi K) call_isi (by rfl) T.n_isinstance (by decide +kernel) (pa_cons (pv 1) (pa_cons (pe_glob (v := .ref T.C_Ratio) rfl T.c_Ratio rfl) pa_nil))))
  (pss_one (ps_ret (pe_make T.M_Ratio (ok_Ratio_init T) (hr.mono (by decide)) rfl T.c_Ratio T.b_Ratio_init .nil passL (pa_cons (pe_op op_sub (pe_op op_mulW (pe_fld (pv 0) rfl) (pe_fld (pv 1) rfl)) (pe_op op_mulW (pe_fld (pv 1) rfl) (pe_fld (pv 0) rfl))) (pa_cons (pe_op op_mulW (pe_fld (pv 0) rfl) (pe_fld (pv 1) rfl)) pa_nil)))))
  pss_nil)
  (pss_cons (ps_if (pt_val (pe_call (ok_is_integer T) (hr.mono (by decide)) rfl T.g_is_integer T.F_is_integer.kp T.b_is_integer .nil pass0 (pa_cons (pv 1) pa_nil)))
  (pss_one (ps_ret (pe_make T.M_Ratio (ok_Ratio_init T) (hr.mono (by decide)) rfl T.c_Ratio T.b_Ratio_init .nil passL (pa_cons (pe_op op_sub (pe_fld (pv 0) rfl) (pe_op op_mulW (pv 1) (pe_fld (pv 0) rfl))) (pa_cons (pe_fld (pv 0) rfl) pa_nil)))))
  pss_nil)
  (pss_one ps_never))), ?_⟩
    walk_at "rd"
    rcases hx with ⟨c, rfl, hS⟩ | ⟨i, rfl, rfl⟩
    · refine hS.ask T ?_
      walk_at "rd"
      refine hR.ftop T ?_
      walk_at "rd"
      refine hS.fbot T ?_
      refine Rd.iC (cmw zr.1 zs.dn) ?_
      walk_at "rd"
      refine hS.ftop T ?_
      walk_at "rd"
      refine hR.fbot T ?_
      refine Rd.iC (cmw zs.1 zr.dn) ?_
      walk_at "rd"
      refine hR.fbot T ?_
      walk_at "rd"
      refine hS.fbot T ?_
      refine Rd.iC (cmw zr.dn zs.dn) ?_
      walk_at "rd"
      refine mkR rfl (Mx.two_ne r s) (den9M zr zs) fun q H' h' s' => ?_
      rw [Mx.sub_of] at h'
      walk_at "rd"
      exact k q H' h' s'
    · refine askI T ?_
      walk_at "rd"
      refine ⟨_, _, rfl, .int _, ?_⟩
      walk_at "rd"
      refine Rd.yes rfl ?_
      walk_at "rd"
      refine hR.ftop T ?_
      walk_at "rd"
      refine hR.fbot T ?_
      refine Rd.iC (cmw zs.numI zr.dn) ?_
      walk_at "rd"
      refine hR.fbot T ?_
      walk_at "rd"
      refine mkR rfl (Mx.den_ne r) (den9 zr) fun q H' h' s' => ?_
      rw [Mx.subI_of] at h'
      walk_at "rd"
      exact k q H' h' s'
theorem ok_Ratio_mul (T : Txt K mg) : FnOk P w K mg base CX0 6 T.f_Ratio_mul T.fd_Ratio_mul ["self", "other"] (sp_Ratio_mul K T.C_Ratio) := by
  refine T.F_Ratio_mul.ok sc_Ratio_mul (fun vs H Q E h => ?_) (fun cdv A outer s H vs Q E hr h => ?_)
  · obtain ⟨b, x, r, s, rfl, _⟩ := h
    rfl
  · obtain ⟨b, x, r, s, rfl, hR, hx, zr, zs, k⟩ := h
    refine ⟨_, (pss_cons (ps_if (pt_val (pe_callB (id := "isinstance") (r := rIsi K) call_isi (by rfl) T.n_isinstance (by decide +kernel) (pa_cons (pv 1) (pa_cons (pe_glob (v := .ref T.C_Ratio) rfl T.c_Ratio rfl) pa_nil))))
  (pss_one (ps_ret (pe_make T.M_Ratio (ok_Ratio_init T) (hr.mono (by decide)) rfl T.c_Ratio T.b_Ratio_init .nil passL (pa_cons (pe_op op_mulW (pe_fld (pv 0) rfl) (pe_fld (pv 1) rfl)) (pa_cons (pe_op op_mulW (pe_fld (pv 0) rfl) (pe_fld (pv 1) rfl)) pa_nil)))))
  pss_nil)
  (pss_cons (ps_if (pt_val (pe_call (ok_is_integer T) (hr.mono (by decide)) rfl T.g_is_integer T.F_is_integer.kp T.b_is_integer .nil pass0 (pa_cons (pv 1) pa_nil)))
  (pss_one (ps_ret (pe_make T.M_Ratio (ok_Ratio_init T) (hr.mono (by decide)) rfl T.c_Ratio T.b_Ratio_init .nil passL (pa_cons (pe_op op_mulW (pe_fld (pv 0) rfl) (pv 1)) (pa_cons (pe_fld (pv 0) rfl) pa_nil)))))
  pss_nil)
  (pss_one ps_never))), ?_⟩
    walk_at "rd"
    rcases hx with ⟨c, rfl, hS⟩ | ⟨i, rfl, rfl⟩
    · refine hS.ask T ?_
      walk_at "rd"
      refine hR.ftop T ?_
      walk_at "rd"
      refine hS.ftop T ?_
      refine Rd.iC (cmw zr.1 zs.1) ?_
      walk_at "rd"
      refine hR.fbot T ?_
      walk_at "rd"
      refine hS.fbot T ?_
      refine Rd.iC (cmw zr.dn zs.dn) ?_
      walk_at "rd"
      refine mkR rfl (Mx.two_ne r s) (den9M zr zs) fun q H' h' s' => ?_
      rw [Mx.mul_of] at h'
      walk_at "rd"
      exact k q H' h' s'
    · refine askI T ?_
      walk_at "rd"
      refine ⟨_, _, rfl, .int _, ?_⟩
      walk_at "rd"
      refine Rd.yes rfl ?_
      walk_at "rd"
      refine hR.ftop T ?_
      walk_at "rd"
      refine Rd.iC (cmw zr.1 zs.numI) ?_
      walk_at "rd"
      refine hR.fbot T ?_
      walk_at "rd"
      refine mkR rfl (Mx.den_ne r) (den9 zr) fun q H' h' s' => ?_
      rw [Mx.mulI_of] at h'
      walk_at "rd"
      exact k q H' h' s'
theorem ok_Ratio_radd (T : Txt K mg) : FnOk P w K mg base CX0 6 T.f_Ratio_radd T.fd_Ratio_radd ["self", "other"] (sp_Ratio_radd K T.C_Ratio) := by
  refine T.F_Ratio_radd.ok sc_Ratio_radd (fun vs H Q E h => ?_) (fun cdv A outer s H vs Q E hr h => ?_)
  · obtain ⟨b, i, r, rfl, _⟩ := h
    rfl
  · obtain ⟨b, i, r, rfl, hR, zr, zi, k⟩ := h
    refine ⟨_, (pss_cons (ps_if (pt_val (pe_call (ok_is_integer T) (hr.mono (by decide)) rfl T.g_is_integer T.F_is_integer.kp T.b_is_integer .nil pass0 (pa_cons (pv 1) pa_nil)))
  (pss_one (ps_ret (pe_make T.M_Ratio (ok_Ratio_init T) (hr.mono (by decide)) rfl T.c_Ratio T.b_Ratio_init .nil passL (pa_cons (pe_op op_add (pe_fld (pv 0) rfl) (pe_op op_mulW (pv 1) (pe_fld (pv 0) rfl))) (pa_cons (pe_fld (pv 0) rfl) pa_nil)))))
  pss_nil)
  (pss_one ps_never)), ?_⟩
    walk_at "rd"
    refine ⟨_, _, rfl, .int _, ?_⟩
    walk_at "rd"
    refine Rd.yes rfl ?_
    walk_at "rd"
    refine hR.ftop T ?_
    walk_at "rd"
    refine hR.fbot T ?_
    refine Rd.iC (cmw zi zr.dn) ?_
    walk_at "rd"
    refine hR.fbot T ?_
    walk_at "rd"
    refine mkR rfl (Mx.den_ne r) (den9 zr) fun q H' h' s' => ?_
    rw [Mx.addI_of, Rat.add_comm] at h'
    walk_at "rd"
    exact k q H' h' s'
theorem ok_Ratio_rsub (T : Txt K mg) : FnOk P w K mg base CX0 6 T.f_Ratio_rsub T.fd_Ratio_rsub ["self", "other"] (sp_Ratio_rsub K T.C_Ratio) := by
  refine T.F_Ratio_rsub.ok sc_Ratio_rsub (fun vs H Q E h => ?_) (fun cdv A outer s H vs Q E hr h => ?_)
  · obtain ⟨b, i, r, rfl, _⟩ := h
    rfl
  · obtain ⟨b, i, r, rfl, hR, zr, zi, k⟩ := h
    refine ⟨_, (pss_cons (ps_if (pt_val (pe_call (ok_is_integer T) (hr.mono (by decide)) rfl T.g_is_integer T.F_is_integer.kp T.b_is_integer .nil pass0 (pa_cons (pv 1) pa_nil)))
  (pss_one (ps_ret (pe_make T.M_Ratio (ok_Ratio_init T) (hr.mono (by decide)) rfl T.c_Ratio T.b_Ratio_init .nil passL (pa_cons (pe_op op_sub (pe_op op_mulW (pv 1) (pe_fld (pv 0) rfl)) (pe_fld (pv 0) rfl)) (pa_cons (pe_fld (pv 0) rfl) pa_nil)))))
  pss_nil)
  (pss_one ps_never)), ?_⟩
    walk_at "rd"
    refine ⟨_, _, rfl, .int _, ?_⟩
    walk_at "rd"
    refine Rd.yes rfl ?_
    walk_at "rd"
    refine hR.fbot T ?_
    refine Rd.iC (cmw zi zr.dn) ?_
    walk_at "rd"
    refine hR.ftop T ?_
    walk_at "rd"
    refine hR.fbot T ?_
    walk_at "rd"
    refine mkR rfl (Mx.den_ne r) (den9 zr) fun q H' h' s' => ?_
    rw [Mx.rsubI_of] at h'
    walk_at "rd"
    exact k q H' h' s'
theorem ok_Ratio_rmul (T : Txt K mg) : FnOk P w K mg base CX0 6 T.f_Ratio_rmul T.fd_Ratio_rmul ["self", "other"] (sp_Ratio_rmul K T.C_Ratio) := by
  refine T.F_Ratio_rmul.ok sc_Ratio_rmul (fun vs H Q E h => ?_) (fun cdv A outer s H vs Q E hr h => ?_)
  · obtain ⟨b, i, r, rfl, _⟩ := h
    rfl
  · obtain ⟨b, i, r, rfl, hR, zr, zi, k⟩ := h
    refine ⟨_, (pss_cons (ps_if (pt_val (pe_call (ok_is_integer T) (hr.mono (by decide)) rfl T.g_is_integer T.F_is_integer.kp T.b_is_integer .nil pass0 (pa_cons (pv 1) pa_nil)))
  (pss_one (ps_ret (pe_make T.M_Ratio (ok_Ratio_init T) (hr.mono (by decide)) rfl T.c_Ratio T.b_Ratio_init .nil passL (pa_cons (pe_op op_mulW (pe_fld (pv 0) rfl) (pv 1)) (pa_cons (pe_fld (pv 0) rfl) pa_nil)))))
  pss_nil)
  (pss_one ps_never)), ?_⟩
    walk_at "rd"
    refine ⟨_, _, rfl, .int _, ?_⟩
    walk_at "rd"
    refine Rd.yes rfl ?_
    walk_at "rd"
    refine hR.ftop T ?_
    walk_at "rd"
    refine Rd.iC (cmw zr.1 zi) ?_
    walk_at "rd"
    refine hR.fbot T ?_
    walk_at "rd"
    refine mkR rfl (Mx.den_ne r) (den9 zr) fun q H' h' s' => ?_
    rw [Mx.mulI_of, Rat.mul_comm] at h'
    walk_at "rd"
    exact k q H' h' s'
/-! ### equal, less, divided -/
def sp_Ratio_eq (K : PySem.W.Frag) (C : Addr) : Sp := fun vs H Q _ => ∃ (b : Addr) (x : V) (r : Rat), vs = [.ref b, x] ∧ RatAt C H b r ∧ ((∃ s, NumAt C H x s ∧ Q (.bl (decide (r = s))) H) ∨ (OdX K C H x ∧ Q (.bl false) H))
theorem rat_eq {r s : Rat} : decide (r = s) = (decide (r.num = s.num) && decide ((r.den : Int) = (s.den : Int))) := by
  rw [Bool.eq_iff_iff, Bool.and_eq_true, decide_eq_true_iff, decide_eq_true_iff, decide_eq_true_iff]
  exact ⟨fun e => by subst e; exact ⟨rfl, rfl⟩, fun e => Rat.ext e.1 (by omega)⟩
theorem rat_eqI {r : Rat} {i : Int} : decide (r = i) = (decide ((r.den : Int) = 1) && decide (r.num = i)) := by
  rw [rat_eq, Rat.num_intCast, Rat.den_intCast, Bool.and_comm]
  rfl
theorem ok_Ratio_eq (T : Txt K mg) : FnOk P w K mg base CX0 2 T.f_Ratio_eq T.fd_Ratio_eq ["self", "other"] (sp_Ratio_eq K T.C_Ratio) := by
  refine T.F_Ratio_eq.ok sc_Ratio_eq (fun vs H Q E h => ?_) (fun cdv A outer s H vs Q E hr h => ?_)
  · obtain ⟨b, x, r, rfl, _⟩ := h
    rfl
  · obtain ⟨b, x, r, rfl, hR, h⟩ := h
    refine ⟨_, (pss_cons (ps_if (pt_val (pe_callB (id := "isinstance") (r := rIsi K) call_isi (by rfl) T.n_isinstance (by decide +kernel) (pa_cons (pv 1) (pa_cons (pe_glob (v := .ref T.C_Ratio) rfl T.c_Ratio rfl) pa_nil))))
  (pss_one (ps_ret (pe_and (pe_cmpR (r := rEq) op_eq (pe_fld (pv 0) rfl) (pe_fld (pv 1) rfl) (nomark _)) (pe_one (pe_cmpR op_eq (pe_fld (pv 0) rfl) (pe_fld (pv 1) rfl) (nomark _))))))
  pss_nil)
  (pss_one (ps_ret (pe_and (pe_call (ok_is_integer T) (hr.mono (by decide)) rfl T.g_is_integer T.F_is_integer.kp T.b_is_integer .nil pass0 (pa_cons (pv 1) pa_nil)) (pe_and (pe_cmpR op_eq (pe_fld (pv 0) rfl) pe_int (nomark _)) (pe_one (pe_cmpR (r := rEq) op_eq (pe_fld (pv 0) rfl) (pv 1) (nomark _)))))))), ?_⟩
    walk_at "rd"
    rcases h with ⟨s, ⟨c, rfl, hS⟩ | ⟨i, rfl, rfl⟩, k⟩ | ⟨od, k⟩
    · refine hS.ask T ?_
      walk_at "rd"
      refine hR.ftop T ?_
      walk_at "rd"
      refine hS.ftop T ?_
      walk_at "rd"
      rw [rat_eq] at k
      by_cases c : r.num = s.num
      · rw [decide_eq_true c, Bool.true_and] at k
        refine Rd.yes c ?_
        walk_at "rd"
        refine hR.fbot T ?_
        walk_at "rd"
        refine hS.fbot T ?_
        walk_at "rd"
        exact k
      · rw [decide_eq_false c, Bool.false_and] at k
        refine Rd.no c ?_
        walk_at "rd"
        exact k
    · refine askI T ?_
      walk_at "rd"
      refine ⟨_, _, rfl, .int _, ?_⟩
      walk_at "rd"
      refine Rd.yes rfl ?_
      walk_at "rd"
      refine hR.fbot T ?_
      walk_at "rd"
      rw [rat_eqI] at k
      by_cases c : (r.den : Int) = 1
      · rw [decide_eq_true c, Bool.true_and] at k
        refine Rd.yes c ?_
        walk_at "rd"
        refine hR.ftop T ?_
        walk_at "rd"
        exact k
      · rw [decide_eq_false c, Bool.false_and] at k
        refine Rd.no c ?_
        walk_at "rd"
        exact k
    · refine od.ask T ?_
      walk_at "rd"
      obtain ⟨kd, ix, nn⟩ := od.isX
      refine ⟨_, _, rfl, ix, ?_⟩
      rw [nn]
      walk_at "rd"
      exact k
def sp_Ratio_less (K : PySem.W.Frag) (C CB : Addr) : Sp := fun vs H Q E => ∃ (b : Addr) (x : V) (r : Rat), vs = [.ref b, x] ∧ RatAt C H b r ∧ ((∃ s, NumAt C H x s ∧ Sz 4000 r ∧ Sz 4000 s ∧ ∀ H', Same H H' → Q (.bl (decide (r < s))) H') ∨ (OdX K C H x ∧ Rx.Raised CB x H E))
def sp_Ratio_over (K : PySem.W.Frag) (C CB : Addr) : Sp := fun vs H Q E => ∃ (b : Addr) (x : V) (r : Rat), vs = [.ref b, x] ∧ RatAt C H b r ∧
  ((∃ s, NumAt C H x s ∧ s ≠ 0 ∧ Sz 4000 r ∧ Sz 4000 s ∧ ∀ q H', RatAt C H' q (r / s) → Same H H' → Q (.ref q) H') ∨ (NumAt C H x 0 ∧ Rx.Raised CB x H E) ∨ (OdX K C H x ∧ Rx.Raised CB x H E))
def ZeroEq (K : PySem.W.Frag) (C : Addr) : R2 := fun x y H Q => rEq x y H Q ∨ Rp.rOX K C (sp_Ratio_eq K C) E0 x y H Q
theorem zeroEq {C : Addr} {H : Hp} {x : V} {s : Rat} {i : Int} {Q : VK} (h : NumAt C H x s) (q : Q (.bl (decide (s = i))) H) : ZeroEq K C x (.int i) H Q := by
  rcases h with ⟨b, rfl, dx, e⟩ | ⟨j, rfl, rfl⟩
  · exact .inr ⟨b, dx, _, _, rfl, e, .base (.int i), Rp.bi_notFirst rfl, b, .int i, s, rfl, ⟨dx, e⟩, .inl ⟨i, .int i, _, rfl, q⟩⟩
  · refine .inl (Rd.eqI ?_)
    rw [show decide ((j : Rat) = (i : Rat)) = decide (j = i) by rw [decide_eq_decide]; exact Rat.intCast_inj] at q
    exact q
theorem ok_Ratio_less (T : Txt K mg) : FnOk P w K mg base (L2.CX P w) 7 T.f_Ratio_less T.fd_Ratio_less ["self", "other"] (sp_Ratio_less K T.C_Ratio T.C_BadNumber) := by
  refine T.F_Ratio_less.okX sc_Ratio_less (fun vs H Q E h => ?_) (fun cdv A outer s H vs Q E hr h => ?_)
  · obtain ⟨b, x, r, rfl, _⟩ := h
    rfl
  · obtain ⟨b, x, r, rfl, hR, h⟩ := h
    refine ⟨_, (pss_cons (ps_if (pt_not (pt_val (pe_call (ok_is_number T) (hr.mono (by decide)) rfl T.g_is_number T.F_is_number.kp T.b_is_number .nil pass0 (pa_cons (pv 1) pa_nil))))
  (pss_one (Rx.ps_raise1 rfl T.X_BadNumber T.tI_WayError_init (ok_WayError_init T) (hr.mono (by decide)) T.b_WayError_init rfl T.c_BadNumber (takes_of rfl rfl rfl rfl) (pv 1)))
  pss_nil)
  (pss_cons (ps_set (i := 2) sc_Ratio_less.nd rfl (.inl rfl) (pe_call (ok_as_ratio T) (hr.mono (by decide)) rfl T.g_as_ratio T.F_as_ratio.kp T.b_as_ratio .nil pass0 (pa_cons (pv 1) pa_nil)))
  (pss_one (ps_ret (pe_cmpR op_lt (pe_op op_mulW (pe_fld (pv 0) rfl) (pe_fld (pv 2) rfl)) (pe_op op_mulW (pe_fld (pv 2) rfl) (pe_fld (pv 0) rfl)) (nomark _)))))), ?_⟩
    walk_at "rd"
    rcases h with ⟨s, hx, zr, zs, k⟩ | ⟨od, rs⟩
    · refine ⟨_, rfl, .inl ⟨_, hx, ?_⟩⟩
      walk_at "rd"
      refine ⟨_, _, rfl, hx, fun c H1 hS s1 => ?_⟩
      have hR1 := hR.same s1
      walk_at "rd"
      refine hR1.ftop T ?_
      walk_at "rd"
      refine hS.fbot T ?_
      refine Rd.iC (cmw zr.1 zs.dn) ?_
      walk_at "rd"
      refine hS.ftop T ?_
      walk_at "rd"
      refine hR1.fbot T ?_
      refine Rd.iC (cmw zs.1 zr.dn) ?_
      walk_at "rd"
      have := k H1 s1
      rw [show decide (r < s) = decide (r.num * s.den < s.num * r.den) by rw [decide_eq_decide]; exact Rat.lt_iff r s] at this
      exact this
    · refine ⟨_, rfl, .inr ⟨od, ?_⟩⟩
      walk_at "rd"
      exact rs.now (Same.refl _)
theorem ok_Ratio_over (T : Txt K mg) : FnOk P w K mg base (L2.CX P w) 7 T.f_Ratio_over T.fd_Ratio_over ["self", "other"] (sp_Ratio_over K T.C_Ratio T.C_BadNumber) := by
  refine T.F_Ratio_over.okX sc_Ratio_over (fun vs H Q E h => ?_) (fun cdv A outer s H vs Q E hr h => ?_)
  · obtain ⟨b, x, r, rfl, _⟩ := h
    rfl
  · obtain ⟨b, x, r, rfl, hR, h⟩ := h
    refine ⟨_, (pss_cons (ps_if (PW.pt (pw_or (pt_not (pt_val (pe_call (ok_is_number T) (hr.mono (by decide)) rfl T.g_is_number T.F_is_number.kp T.b_is_number .nil pass0 (pa_cons (pv 1) pa_nil)))) (pw_or1 (pt_cmpR (r := ZeroEq K T.C_Ratio) (Ro.op_or op_eq (Rp.op_ox (E := E0) ⟨T.h_Ratio_eq.at_, T.h_Ratio_eq.fn, T.ne_Ratio, T.ty_Ratio.hm⟩ (ok_Ratio_eq T) T.b_Ratio_eq pass0 (hr.mono (by decide)))) (pv 1) pe_int (nomark _)))))
  (pss_one (Rx.ps_raise1 rfl T.X_BadNumber T.tI_WayError_init (ok_WayError_init T) (hr.mono (by decide)) T.b_WayError_init rfl T.c_BadNumber (takes_of rfl rfl rfl rfl) (pv 1)))
  pss_nil)
  (pss_cons (ps_set (i := 2) sc_Ratio_over.nd rfl (.inl rfl) (pe_call (ok_as_ratio T) (hr.mono (by decide)) rfl T.g_as_ratio T.F_as_ratio.kp T.b_as_ratio .nil pass0 (pa_cons (pv 1) pa_nil)))
  (pss_one (ps_ret (Rm.pe_makeS T.M_Ratio (ok_Ratio_init T) (hr.mono (by decide)) rfl T.c_Ratio T.b_Ratio_init (fun σ => passAt (takes_of rfl rfl rfl rfl) σ) (pa_cons (pe_op op_mulW (pe_fld (pv 0) rfl) (pe_fld (pv 2) rfl)) (pa_cons (pe_op op_mulW (pe_fld (pv 0) rfl) (pe_fld (pv 2) rfl)) pa_nil))))))), ?_⟩
    walk_at "rd"
    rcases h with ⟨s, hx, s0, zr, zs, k⟩ | ⟨hx, rs⟩ | ⟨od, rs⟩
    · refine ⟨_, rfl, .inl ⟨_, hx, ?_⟩⟩
      walk_at "rd"
      refine zeroEq (i := 0) hx ?_
      rw [decide_eq_false (show ¬ s = ((0 : Int) : Rat) from s0)]
      walk_at "rd"
      refine ⟨_, _, rfl, hx, fun c H1 hS s1 => ?_⟩
      have hR1 := hR.same s1
      walk_at "rd"
      refine Rm.mkH ?_
      walk_at "rd"
      refine hR1.ftop T ?_
      walk_at "rd"
      refine hS.fbot T ?_
      refine Rd.iC (cmw zr.1 zs.dn) ?_
      walk_at "rd"
      refine hR1.fbot T ?_
      walk_at "rd"
      refine hS.ftop T ?_
      refine Rd.iC (cmw zr.dn zs.1) ?_
      walk_at "rd"
      refine mkR rfl (Int.mul_ne_zero (Mx.den_ne r) fun e => s0 (Rat.num_eq_zero.mp e)) (Nat.lt_of_lt_of_le (Mx.mul_lt zr.dn zs.1) (Nat.pow_le_pow_right (by decide) (by decide))) fun q H' h' s' => ?_
      rw [Mx.over_of] at h'
      walk_at "rd"
      exact k q H' h' (s1.trans s')
    · refine ⟨_, rfl, .inl ⟨_, hx, ?_⟩⟩
      walk_at "rd"
      refine zeroEq (i := 0) hx ?_
      rw [decide_eq_true (show (0 : Rat) = ((0 : Int) : Rat) from rfl)]
      walk_at "rd"
      exact rs.now (Same.refl _)
    · refine ⟨_, rfl, .inr ⟨od, ?_⟩⟩
      walk_at "rd"
      exact rs.now (Same.refl _)

end
end W

namespace W
open PySem PySem.Spec PyProof.Rows L2
section
variable {P : Program} {w : World} {K : PySem.W.Frag} {mg : Str → Option Value} {base : Heap}
set_option exponentiation.threshold 10000
open Mx (Sz part)
/-! ### what laws about fractions share -/
def sp_l_common (K : PySem.W.Frag) : Sp := fun vs H Q _ => ∃ a b : Int, vs = [.int a, .int b] ∧ b.natAbs < 2 ^ 480 ∧ Q (.int (Nat.gcd a.natAbs b.natAbs : Nat)) H
theorem sml {i : Int} {k : Nat} (h : i.natAbs < 1000000000) (l : 30 ≤ k) : i.natAbs < 2 ^ k := Nat.lt_of_lt_of_le h (Nat.le_trans (by decide) (Nat.pow_le_pow_right (by decide) l))
theorem up {i : Int} {j k : Nat} (h : i.natAbs < 2 ^ j) (l : j ≤ k) : i.natAbs < 2 ^ k := Nat.lt_of_lt_of_le h (Nat.pow_le_pow_right (by decide) l)
/-- one operator of two numbers, one of which is a fraction -/
theorem binN {C : Addr} {H : Hp} {x y : V} {r s : Rat} {Q : VK} {f : Rat → Rat → Rat} (hx : NumAt C H x r) (hy : NumAt C H y s) (one : (∃ p, x = .ref p) ∨ ∃ p, y = .ref p) (zr : Sz 4000 r) (zs : Sz 4000 s) (k : ∀ q H', RatAt C H' q (f r s) → Same H H' → Q (.ref q) H') :
    Rr.rOO C (RatM K C f) E0 x y H Q ∨ (Rr.rOI C (RatM K C f) E0 x y H Q ∨ Rr.rIO C (RatI K C fun a b => f b a) E0 x y H Q) := by
  rcases hx with ⟨p, rfl, hR⟩ | ⟨i, rfl, rfl⟩
  · obtain ⟨dx, hp⟩ := id hR
    rcases hy with ⟨q, rfl, hS⟩ | ⟨j, rfl, rfl⟩
    · obtain ⟨dy, hq⟩ := id hS
      exact .inl (Rr.oo hp hq ⟨p, _, r, s, rfl, hR, hS.num, zr, zs, k⟩)
    · exact .inr (.inl (Rr.oi hp ⟨p, _, r, _, rfl, hR, .int j, zr, zs, k⟩))
  · rcases hy with ⟨q, rfl, hS⟩ | ⟨j, rfl, rfl⟩
    · obtain ⟨dy, hq⟩ := id hS
      exact .inr (.inr (Rr.io hq ⟨q, i, s, rfl, hS, zs, zr.numI, k⟩))
    · rcases one with ⟨p, e⟩ | ⟨p, e⟩ <;> cases e
/-- no number, off the tape -/
def Odd (t : Addr) (H : Hp) (x : V) : Prop := ∃ kd, Rx.Is H x kd ∧ kd.isNum = false ∧ Rx.Off t x
theorem Odd.same {t : Addr} {x : V} {H H' : Hp} (s : Same H H') (h : Odd t H x) : Odd t H' x := let ⟨k, i, n, o⟩ := h; ⟨k, i.same s, n, o⟩
theorem Odd.but {t : Addr} {x : V} {H H' : Hp} (b : Rd.But t H H') (h : Odd t H x) : Odd t H' x := let ⟨k, i, n, o⟩ := h; ⟨k, i.but b o, n, o⟩
theorem Odd.od {t C : Addr} {x : V} {H : Hp} (h : Odd t H x) : OdX K C H x := let ⟨_, i, n, _⟩ := h; .is i n
theorem Odd.eqI {t : Addr} {x : V} {H : Hp} (h : Odd t H x) : Rx.EqI K H x x := let ⟨_, i, _, _⟩ := h; Rx.eqI_refl i
theorem neDt {H : Hp} {a b : Addr} {d : PyData} {Q : VK} (h1 : Dp K H (.ref a) d) (h2 : Dp K H (.ref b) d) (h : SeqAt.shaped d = true) (q : Q (.bl false) H) : rNeD K (.ref a) (.ref b) H Q := by
  refine ⟨_, _, h1, h2, h, h, ?_⟩
  rw [SeqAt.eqv_refl _ (SeqAt.canLay_of_shaped h)]
  exact q
theorem eqDt {H : Hp} {a b : Addr} {d : PyData} {Q : VK} (h1 : Dp K H (.ref a) d) (h2 : Dp K H (.ref b) d) (h : SeqAt.shaped d = true) (q : Q (.bl true) H) : rEqD K (.ref a) (.ref b) H Q := by
  refine ⟨_, _, h1, h2, h, h, ?_⟩
  rw [SeqAt.eqv_refl _ (SeqAt.canLay_of_shaped h)]
  exact q
theorem rox {C : Addr} {H : Hp} {b : Addr} {x : V} {r : Rat} {ty : Value} {Q : VK} (h : RatAt C H b r) (t : TyX K H x ty) (nf : PySem.W.notFirst K C ty = true) (e : (∃ s, NumAt C H x s ∧ Q (.bl (decide (r = s))) H) ∨ (OdX K C H x ∧ Q (.bl false) H)) : Rp.rOX K C (sp_Ratio_eq K C) E0 (.ref b) x H Q := by
  obtain ⟨dx, hb⟩ := id h
  refine ⟨b, dx, _, ty, rfl, hb, t, nf, b, x, r, rfl, h, ?_⟩
  rcases e with ⟨s, n, q⟩ | ⟨o, q⟩
  · exact .inl ⟨s, n, _, rfl, q⟩
  · exact .inr ⟨o, _, rfl, q⟩
theorem roxI {C : Addr} {H : Hp} {b : Addr} {i : Int} {r : Rat} {Q : VK} (h : RatAt C H b r) (q : Q (.bl (decide (r = (i : Rat)))) H) : Rp.rOX K C (sp_Ratio_eq K C) E0 (.ref b) (.int i) H Q := rox h (.base (.int i)) (Rp.bi_notFirst rfl) (.inl ⟨_, .int i, q⟩)
theorem roxK {C : Addr} {H : Hp} {b : Addr} {x : V} {k : Rx.Kd} {r : Rat} {Q : VK} (h : RatAt C H b r) (i : Rx.Is H x k) (n : k.isNum = false) (q : Q (.bl false) H) : Rp.rOX K C (sp_Ratio_eq K C) E0 (.ref b) x H Q := rox h i.ty (by cases k <;> exact Rp.bi_notFirst rfl) (.inr ⟨.is i n, q⟩)
theorem oeq {C : Addr} {H : Hp} {b c : Addr} {r s : Rat} {Q : VK} (h : RatAt C H b r) (k : RatAt C H c s) (q : Q (.bl (decide (r = s))) H) : Ro.rOE C (sp_Ratio_eq K C) E0 id (.ref b) (.ref c) H Q := by
  obtain ⟨dx, hb⟩ := id h
  obtain ⟨dy, hc⟩ := id k
  exact Ro.oe hb hc ⟨b, _, r, rfl, h, .inl ⟨s, k.num, _, rfl, q⟩⟩
theorem one {C : Addr} {H : Hp} {b c : Addr} {r s : Rat} {Q : VK} (h : RatAt C H b r) (k : RatAt C H c s) (q : Q (.bl (!decide (r = s))) H) : Ro.rOE C (sp_Ratio_eq K C) E0 not (.ref b) (.ref c) H Q := by
  obtain ⟨dx, hb⟩ := id h
  obtain ⟨dy, hc⟩ := id k
  exact Ro.oe hb hc ⟨b, _, r, rfl, h, .inl ⟨s, k.num, _, rfl, q⟩⟩
theorem rnxI {C : Addr} {H : Hp} {b : Addr} {i : Int} {r : Rat} {Q : VK} (h : RatAt C H b r) (q : Q (.bl (!decide (r = (i : Rat)))) H) : Rr.rNX K C (sp_Ratio_eq K C) E0 (.ref b) (.int i) H Q := by
  obtain ⟨dx, hb⟩ := id h
  exact ⟨b, dx, _, _, rfl, hb, .base (.int i), Rp.bi_notFirst rfl, b, _, r, rfl, h, .inl ⟨_, .int i, _, rfl, q⟩⟩
theorem RatAt.off {C b t c : Addr} {r : Rat} {H : Hp} (ht : Tape H t c) (h : RatAt C H b r) : b ≠ t := by
  obtain ⟨dx, e⟩ := h
  obtain ⟨ns, x, y, z, u, _, g, _⟩ := ht
  exact ne_of e g (fun e => nomatch e)

end
end W

namespace W
open PySem PySem.Spec PyProof.Rows L2
section
variable {P : Program} {w : World} {K : PySem.W.Frag} {mg : Str → Option Value} {base : Heap}
/-! ### words and watches drawn, the second way -/
theorem but_off {t l : Addr} {H H1 G : Hp} (b : Rd.But t H H1) (n : H l = none) (off : ∀ q, q ≠ l → G q = H1 q) : Rd.But t H G := fun q o h e => by rw [off q (ne_of_none e n)]; exact b q o h e
/-- a comprehension that draws -/
def LcStT (t c D : Addr) (H1 : Hp) (R : Nat → List V → Hp → Prop) : Nat → Hp → Prop := fun i H => ∃ acc, H D = some (.lst acc) ∧ Tape H t c ∧ Rd.But t H1 H ∧ R i acc H
def LcPuT (t c D : Addr) (H1 : Hp) (R : Nat → List V → Hp → Prop) (i : Nat) (y : V) (H4 : Hp) : Prop := ∃ acc, H4 D = some (.lst acc) ∧ acc.length < sizeLine ∧ LcStT t c D H1 R (i + 1) (upd H4 D (.lst (acc ++ [y])))
theorem lcPuT {t c D : Addr} {H1 H4 : Hp} {R : Nat → List V → Hp → Prop} {i : Nat} {y : V} {acc : List V} (hD : H4 D = some (.lst acc)) (nD : H1 D = none) (tp1 : Tape H1 t c) (tp : Tape H4 t c) (b : Rd.But t H1 H4) (hz : acc.length < sizeLine) (r : ∀ G : Hp, G D = some (.lst (acc ++ [y])) → (∀ b, b ≠ D → G b = H4 b) → R (i + 1) (acc ++ [y]) G) : LcPuT t c D H1 R i y H4 :=
  have ⟨dt, dc⟩ := tp1.new nD
  ⟨acc, hD, hz, acc ++ [y], upd_same, tp.off dt dc fun q h => upd_ne h, but_off b nD fun q h => upd_ne h, r _ upd_same fun b hb => upd_ne hb⟩
theorem lcT {J : It} {n : Nat} {G : Hp → Prop} {Y : Nat → Hp → V → Hp → Prop} (w : Walk J n G Y) {g : TG} {tt : TT} {te : TE} {vs : List Nat} {σ : L2.St} {H1 : Hp} {Q : VK} {t c : Addr} (tp : Tape H1 t c) (hG : ∀ H, Rd.But t H1 H → G H) (R : Addr → Nat → List V → Hp → Prop)
    (r0 : ∀ (D : Addr) (G : Hp), H1 D = none → G D = some (.lst []) → Same H1 G → R D 0 [] G)
    (hs : ∀ (D : Addr) i x H H' acc, H1 D = none → i < n → H D = some (.lst acc) → Tape H t c → Rd.But t H1 H → R D i acc H → Y i H x H' → g x (wipe σ vs) H' fun σ2 H2 => wipe σ2 vs = wipe σ vs ∧ tt σ2 H2 fun b H3 =>
      if b = true then te σ2 H3 fun y H4 => LcPuT t c D H1 (R D) i y H4 else LcStT t c D H1 (R D) (i + 1) H3)
    (hd : ∀ (D : Addr) acc H, H1 D = none → H D = some (.lst acc) → Tape H t c → Rd.But t H1 H → R D n acc H → Q (.ref D) H) : Rd.Lc J g tt te vs σ H1 Q := fun D nD =>
  lc_it w (LcStT t c D H1 (R D)) ⟨[], upd_same, tp.same (Rd.same_upd nD), Rd.But.of (Rd.same_upd nD), r0 D _ nD upd_same (Rd.same_upd nD)⟩ (fun i H hi ⟨acc, h1, h2, h3, h4⟩ => hG H h3)
    (fun i x H H' hi ⟨acc, h1, h2, h3, h4⟩ y => hs D i x H H' acc nD hi h1 h2 h3 h4 y) (fun H ⟨acc, h1, h2, h3, h4⟩ => hd D acc H nD h1 h2 h3 h4)

end
end W

namespace W
open PySem PySem.Spec PyProof.Rows L2
section
variable {P : Program} {w : World} {K : PySem.W.Frag} {mg : Str → Option Value} {base : Heap}
set_option exponentiation.threshold 10000
open Mx (Sz part)
/-! ### sums or products of rows of fractions -/
def op2 (s : Bool) (x y : Rat) : Rat := if s = true then x + y else x * y
def tot (s : Bool) (rs : List Rat) : Rat := rs.foldr (op2 s) (if s = true then 0 else 1)
theorem op2_comm (s : Bool) (x y : Rat) : op2 s x y = op2 s y x := by
  cases s
  · exact Rat.mul_comm x y
  · exact Rat.add_comm x y
theorem op2_assoc (s : Bool) (x y z : Rat) : op2 s (op2 s x y) z = op2 s x (op2 s y z) := by
  cases s
  · exact Rat.mul_assoc x y z
  · exact Rat.add_assoc x y z
theorem op2_swap (s : Bool) (x y z : Rat) : op2 s x (op2 s y z) = op2 s y (op2 s x z) := by rw [← op2_assoc, op2_comm s x y, op2_assoc]
theorem tot_perm {s : Bool} {xs ys : List Rat} (h : xs.Perm ys) : tot s xs = tot s ys := by
  induction h with
  | nil => rfl
  | cons x _ ih => exact congrArg (op2 s x) ih
  | swap x y l => exact op2_swap s y x _
  | trans _ _ a b => exact a.trans b
theorem tot_one (s : Bool) (r : Rat) : tot s [r] = r := by
  cases s
  · exact Rat.mul_one r
  · exact Rat.add_zero r
theorem tot_two (s : Bool) (x y : Rat) (l : List Rat) : tot s (op2 s x y :: l) = tot s (x :: y :: l) := op2_assoc s x y _
/-- an item: where it stands, what it is, of how many it was put together -/
abbrev Itm := Addr × Rat × Nat
def wts (ys : List Itm) : Nat := (ys.map fun y => y.2.2).sum
def vls (ys : List Itm) : List Rat := ys.map fun y => y.2.1
def rfs (ys : List Itm) : List V := ys.map fun y => V.ref y.1
def Good (C : Addr) (H : Hp) (y : Itm) : Prop := RatAt C H y.1 y.2.1 ∧ 1 ≤ y.2.2 ∧ Sz (21 * y.2.2 - 1) y.2.1
theorem Good.same {C : Addr} {H H' : Hp} {y : Itm} (s : Same H H') (h : Good C H y) : Good C H' y := ⟨h.1.same s, h.2⟩
theorem Good.tape {C t c : Addr} {H H' : Hp} {y : Itm} (ht : Tape H t c) (s : Rd.But t H H') (h : Good C H y) : Good C H' y := ⟨h.1.tape ht s, h.2⟩
theorem Good.off {C l : Addr} {H G : Hp} {xs : List V} {y : Itm} (hl : H l = some (.lst xs)) (s : ∀ b, b ≠ l → G b = H b) (h : Good C H y) : Good C G y := by
  obtain ⟨⟨dx, e⟩, w⟩ := h
  exact ⟨⟨dx, (s _ (ne_of e hl fun z => nomatch z)).trans e⟩, w⟩
theorem pop_permI {α : Type} : ∀ (xs : List α) (k : Nat) (x : α), xs[k]? = some x → xs.Perm (x :: xs.eraseIdx k)
  | [], _, _, h => by simp at h
  | y :: xs, 0, _, h => by cases (Option.some.inj h); exact List.Perm.refl _
  | y :: xs, k + 1, x, h => ((pop_permI xs k x h).cons y).trans (List.Perm.swap x y _)
theorem wts_perm {xs ys : List Itm} (h : xs.Perm ys) : wts xs = wts ys := (h.map fun y : Itm => y.2.2).sum_nat
theorem two_of {ys : List Itm} {i j : Nat} {y z : Itm} (h1 : ys[i]? = some y) (h2 : (ys.eraseIdx i)[j]? = some z) : ys.Perm (y :: z :: (ys.eraseIdx i).eraseIdx j) := (pop_permI ys i y h1).trans ((pop_permI _ j z h2).cons y)
theorem put_perm (l : List Itm) (i : Nat) (y : Itm) : (l.take i ++ [y] ++ l.drop i).Perm (y :: l) := by
  have h : (l.take i ++ [y] ++ l.drop i).Perm (y :: (l.take i ++ l.drop i)) := by
    rw [List.append_assoc]
    exact List.perm_middle
  rwa [List.take_append_drop] at h
theorem Sz.op2 {s : Bool} {a b : Nat} {x y : Rat} (hx : Sz a x) (hy : Sz b y) : Sz (a + b + 1) (op2 s x y) := by
  cases s
  · exact (Sz.mul hx hy).mono (by omega)
  · exact Sz.add hx hy
theorem rfs_len (ys : List Itm) : (rfs ys).length = ys.length := List.length_map ..
theorem rfs_at {ys : List Itm} {x : Nat} {y : Itm} (h : ys[x]? = some y) : (rfs ys)[((x : Nat) : Int).toNat]? = some (.ref y.1) := by
  rw [Int.toNat_natCast]
  show (ys.map fun y => V.ref y.1)[x]? = _
  rw [List.getElem?_map, h]
  rfl
theorem rfs_erase : ∀ (ys : List Itm) (k : Nat), (rfs ys).eraseIdx k = rfs (ys.eraseIdx k)
  | [], _ => rfl
  | _ :: _, 0 => rfl
  | y :: ys, k + 1 => congrArg (V.ref y.1 :: ·) (rfs_erase ys k)
def sp_l_pair (K : PySem.W.Frag) : Sp := fun vs H Q _ => ∃ t c : Addr, vs = [.ref t] ∧ Tape H t c ∧ ∀ (p : Addr) (a b : Int) H', H' p = some (.tup [.int a, .int b]) → a.natAbs ≤ 20 → b.natAbs ≤ 999 → b ≠ 0 → Tape H' t c → Rd.But t H H' → Q (.ref p) H'
/-- a row of fractions -/
def Row (C : Addr) (H : Hp) (l : Addr) (xs : List Itm) : Prop := H l = some (.lst (rfs xs)) ∧ ∀ x ∈ xs, Good C H x
def sp_l_by_turns (K : PySem.W.Frag) (C : Addr) : Sp := fun vs H Q _ => ∃ (t c l : Addr) (s : Bool) (xs : List Itm), vs = [.ref t, .ref l, .bl s] ∧ Tape H t c ∧ Row C H l xs ∧ 1 ≤ xs.length ∧ xs.length ≤ 12 ∧ wts xs ≤ 24 ∧
  ∀ b H', RatAt C H' b (tot s (vls xs)) → Sz 600 (tot s (vls xs)) → Tape H' t c → Rd.But t H H' → Q (.ref b) H'
def sp_l_is (K : PySem.W.Frag) (C : Addr) : Sp := fun vs H Q _ => ∃ (b : Addr) (r : Rat) (t u : Int), vs = [.ref b, .int t, .int u] ∧ RatAt C H b r ∧ Sz 600 r ∧ u ≠ 0 ∧ r = Rat.divInt t u ∧ t.natAbs < 2 ^ 1000 ∧ u.natAbs < 2 ^ 1000 ∧ Q (.bl true) H
theorem ok_l_pair (T : Txt K mg) : FnOk P w K mg base CX0 2 T.f_l_pair T.fd_l_pair ["_law_hand_here"] (sp_l_pair K) := by
  refine T.F_l_pair.ok sc_l_pair (fun vs H Q E h => ?_) (fun cdv A outer s H vs Q E hr h => ?_)
  · obtain ⟨t, c, rfl, _⟩ := h
    rfl
  · obtain ⟨t, c, rfl, hT, k⟩ := h
    refine ⟨_, (pss_cons (ps_set (i := 1) sc_l_pair.nd rfl (.inl rfl) (pe_op op_add pe_int (pe_call (ok_l_draw T) (hr.mono (by decide)) rfl T.g_l_draw T.F_l_draw.kp T.b_l_draw .nil pass0 (pa_cons (pv 0) (pa_cons pe_int pa_nil)))))
  (C8.pss_cut (ps_if (pt_cmpR op_eq (pe_call (ok_l_draw T) (hr.mono (by decide)) rfl T.g_l_draw T.F_l_draw.kp T.b_l_draw .nil pass0 (pa_cons (pv 0) (pa_cons pe_int pa_nil))) pe_int (nomark _))
  (pss_one (ps_set (i := 1) sc_l_pair.nd rfl (.inl rfl) (pe_op op_add pe_int (pe_call (ok_l_draw T) (hr.mono (by decide)) rfl T.g_l_draw T.F_l_draw.kp T.b_l_draw .nil pass0 (pa_cons (pv 0) (pa_cons pe_int pa_nil))))))
  pss_nil)
  (C8.pss_cut (ps_if (pt_cmpR op_eq (pe_call (ok_l_draw T) (hr.mono (by decide)) rfl T.g_l_draw T.F_l_draw.kp T.b_l_draw .nil pass0 (pa_cons (pv 0) (pa_cons pe_int pa_nil))) pe_int (nomark _))
  (pss_one (ps_set (i := 1) sc_l_pair.nd rfl (.inl rfl) (pe_op op_sub pe_int (pv 1))))
  pss_nil)
  (pss_one (ps_ret (pe_tup (pa_cons (pe_op op_sub (pe_call (ok_l_draw T) (hr.mono (by decide)) rfl T.g_l_draw T.F_l_draw.kp T.b_l_draw .nil pass0 (pa_cons (pv 0) (pa_cons pe_int pa_nil))) pe_int) (pa_cons (pv 1) pa_nil)))))))), ?_⟩
    walk_at "rd"
    refine ⟨t, c, 12, rfl, hT, by decide, by decide, fun x H1 x0 x1 hT1 b1 => ?_⟩
    walk_at "rd"
    refine Rd.cut (fun σ G => ∃ z : Int, σ = [some (.ref t), some (.int z)] ∧ 1 ≤ z ∧ z ≤ 999 ∧ Tape G t c ∧ Rd.But t H G) ?_ ?_
    · walk_at "rd"
      refine ⟨t, c, 6, rfl, hT1, by decide, by decide, fun w H2 w0 w1 hT2 b2 => ?_⟩
      walk_at "rd"
      refine ite2 (fun q => ?_) (fun q => ?_)
      · walk_at "rd"
        refine ⟨t, c, 999, rfl, hT2, by decide, by decide, fun z H3 z0 z1 hT3 b3 => ?_⟩
        walk_at "rd"
        exact ⟨1 + z, rfl, by omega, by omega, hT3, (b1.trans b2).trans b3⟩
      · walk_at "rd"
        exact ⟨1 + x, rfl, by omega, by omega, hT2, b1.trans b2⟩
    clear hT1 b1 x0 x1 x H1
    rintro _ H1 ⟨z, rfl, z0, z1, hT1, b1⟩
    walk_at "rd"
    refine Rd.cut (fun σ G => ∃ z : Int, σ = [some (.ref t), some (.int z)] ∧ z ≠ 0 ∧ z.natAbs ≤ 999 ∧ Tape G t c ∧ Rd.But t H G) ?_ ?_
    · walk_at "rd"
      refine ⟨t, c, 2, rfl, hT1, by decide, by decide, fun w H2 w0 w1 hT2 b2 => ?_⟩
      walk_at "rd"
      refine ite2 (fun q => ?_) (fun q => ?_)
      · walk_at "rd"
        exact ⟨0 - z, rfl, by omega, by omega, hT2, b1.trans b2⟩
      · walk_at "rd"
        exact ⟨z, rfl, by omega, by omega, hT2, b1.trans b2⟩
    clear hT1 b1 z0 z1 z H1
    rintro _ H1 ⟨z, rfl, z0, z1, hT1, b1⟩
    walk_at "rd"
    refine ⟨t, c, 41, rfl, hT1, by decide, by decide, fun a H2 a0 a1 hT2 b2 => ?_⟩
    walk_at "rd"
    refine ⟨Nat.le_of_ble_eq_true rfl, Rd.new fun p G np gp s => ?_⟩
    exact k p _ _ G gp (by omega) z1 z0 (hT2.same s) ((b1.trans b2).same s)
theorem ok_l_is (T : Txt K mg) : FnOk P w K mg base CX0 1 T.f_l_is T.fd_l_is ["_law_thing", "_law_top", "_law_bottom"] (sp_l_is K T.C_Ratio) := by
  refine T.F_l_is.ok sc_l_is (fun vs H Q E h => ?_) (fun cdv A outer s H vs Q E hr h => ?_)
  · obtain ⟨b, r, t, u, rfl, _⟩ := h
    rfl
  · obtain ⟨b, r, t, u, rfl, hR, zr, u0, e, ht, hu, k⟩ := h
    refine ⟨_, (pss_one (ps_ret (pe_and (pe_callB (id := "isinstance") (r := rIsi K) call_isi (by rfl) T.n_isinstance (by decide +kernel) (pa_cons (pv 0) (pa_cons (pe_glob (v := .ref T.C_Ratio) rfl T.c_Ratio rfl) pa_nil))) (pe_and (pe_cmpR op_gt (pe_fld (pv 0) rfl) pe_int (nomark _)) (pe_one (pe_cmpR op_eq (pe_op op_mulW (pe_fld (pv 0) rfl) (pv 2)) (pe_op op_mulW (pv 1) (pe_fld (pv 0) rfl)) (nomark _))))))), ?_⟩
    walk_at "rd"
    refine hR.ask T ?_
    walk_at "rd"
    refine hR.fbot T ?_
    walk_at "rd"
    refine Rd.yes (by have := r.den_pos; omega) ?_
    walk_at "rd"
    refine hR.ftop T ?_
    walk_at "rd"
    refine Rd.iC (wide_mul zr.1 hu (by decide) (by decide) (by decide)) ?_
    walk_at "rd"
    refine hR.fbot T ?_
    walk_at "rd"
    refine Rd.iC (wide_mul (b := 600) ht (by rw [Int.natAbs_natCast]; exact zr.2) (by decide) (by decide) (by decide)) ?_
    walk_at "rd"
    rw [decide_eq_true ((Mx.same_of (r := r) u0).mpr e)]
    exact k
theorem ok_l_by_turns (T : Txt K mg) : FnOk P w K mg base CX0 8 T.f_l_by_turns T.fd_l_by_turns ["_law_hand_here", "_law_row", "_law_sums"] (sp_l_by_turns K T.C_Ratio) := by
  refine T.F_l_by_turns.ok sc_l_by_turns (fun vs H Q E h => ?_) (fun cdv A outer s H vs Q E hr h => ?_)
  · obtain ⟨t, c, l, s, xs, rfl, _⟩ := h
    rfl
  · obtain ⟨t, c, l, s, xs, rfl, hT, ⟨hl, hg⟩, n1, n12, wn, k⟩ := h
    refine ⟨_, (pss_cons (ps_set (i := 3) sc_l_by_turns.nd rfl (.inl rfl) (pe_callTy (T := "list") (r := Rd.nListOf K) Rd.c_listOf (by rfl) T.n_list (by decide +kernel) (pa_cons (pv 1) pa_nil)))
  (pss_cons (ps_for PassesOwn.never rfl (pi_range1 rfl T.n_range (pa_cons (pe_op op_sub (pe_callB (id := "len") (r := Rd.nLen K) Rd.c_len (by rfl) T.n_len (by decide +kernel) (pa_cons (pv 1) pa_nil)) pe_int) pa_nil)) (pg_name (i := 4) sc_l_by_turns.nd rfl (.inl rfl))
  (pss_cons (ps_set (i := 5) sc_l_by_turns.nd rfl (.inl rfl) (pe_bm PySem.F.plainAttrs_list PySem.F.slot_list_pop PySem.F.type_list_pop mt_popAt (pv 3) (pa_cons (pe_call (ok_l_draw T) (hr.mono (by decide)) rfl T.g_l_draw T.F_l_draw.kp T.b_l_draw .nil pass0 (pa_cons (pv 0) (pa_cons (pe_callB (id := "len") (r := Rd.nLen K) Rd.c_len (by rfl) T.n_len (by decide +kernel) (pa_cons (pv 3) pa_nil)) pa_nil))) pa_nil)))
  (pss_cons (ps_set (i := 6) sc_l_by_turns.nd rfl (.inl rfl) (pe_bm PySem.F.plainAttrs_list PySem.F.slot_list_pop PySem.F.type_list_pop mt_popAt (pv 3) (pa_cons (pe_call (ok_l_draw T) (hr.mono (by decide)) rfl T.g_l_draw T.F_l_draw.kp T.b_l_draw .nil pass0 (pa_cons (pv 0) (pa_cons (pe_callB (id := "len") (r := Rd.nLen K) Rd.c_len (by rfl) T.n_len (by decide +kernel) (pa_cons (pv 3) pa_nil)) pa_nil))) pa_nil)))
  (pss_one (ps_if (pt_val (pv 2))
  (pss_one (ps_expr (pe_bm PySem.F.plainAttrs_list PySem.F.slot_list_insert PySem.F.type_list_insert Rd.m_insert (pv 3) (pa_cons (pe_call (ok_l_draw T) (hr.mono (by decide)) rfl T.g_l_draw T.F_l_draw.kp T.b_l_draw .nil pass0 (pa_cons (pv 0) (pa_cons (pe_op op_add (pe_callB (id := "len") (r := Rd.nLen K) Rd.c_len (by rfl) T.n_len (by decide +kernel) (pa_cons (pv 3) pa_nil)) pe_int) pa_nil))) (pa_cons (pe_op (Rr.addO (E := E0) T.first_Ratio T.h_Ratio_add (ok_Ratio_add T) T.b_Ratio_add pass0 (hr.mono (by decide))) (pv 5) (pv 6)) pa_nil)))))
  (pss_one (ps_expr (pe_bm PySem.F.plainAttrs_list PySem.F.slot_list_insert PySem.F.type_list_insert Rd.m_insert (pv 3) (pa_cons (pe_call (ok_l_draw T) (hr.mono (by decide)) rfl T.g_l_draw T.F_l_draw.kp T.b_l_draw .nil pass0 (pa_cons (pv 0) (pa_cons (pe_op op_add (pe_callB (id := "len") (r := Rd.nLen K) Rd.c_len (by rfl) T.n_len (by decide +kernel) (pa_cons (pv 3) pa_nil)) pe_int) pa_nil))) (pa_cons (pe_op (Rr.mulO (E := E0) T.first_Ratio T.h_Ratio_mul (ok_Ratio_mul T) T.b_Ratio_mul pass0 (hr.mono (by decide))) (pv 5) (pv 6)) pa_nil))))))))))
  (pss_one (ps_ret (pe_ix (r := rIxL K) ix_list (pv 3) pe_int (fun _ _ => rfl)))))), ?_⟩
    walk_at "rd"
    refine Rd.listOf (.inl (.of hl)) (Rd.new fun rest H1 nr gr s1 => ?_)
    have hT1 := hT.same s1
    have hg1 : ∀ x ∈ xs, Good T.C_Ratio H1 x := fun x m => (hg x m).same s1
    have rt : rest ≠ t := by
      obtain ⟨ns, x, y, z, u, _, g, _⟩ := hT
      exact (ne_of_none g nr).symm
    have rc := (hT.new nr).2
    walk_at "rd"
    refine Rd.forS ?_
    walk_at "rd"
    refine Rd.len (.inl (.of (s1 _ _ hl))) ?_
    rw [show (rfs xs).length = xs.length from List.length_map ..]
    walk_at "rd"
    refine ⟨by omega, by omega, ?_⟩
    rw [show (xs.length : Int) - 1 = ((xs.length - 1 : Nat) : Int) by omega]
    refine for_range (lo := 0) (n := xs.length - 1) (fun i σ G => ∃ (ys : List Itm) (o4 o5 o6 : Option V), σ = [some (.ref t), some (.ref l), some (.bl s), some (.ref rest), o4, o5, o6] ∧ G rest = some (.lst (rfs ys)) ∧ (∀ y ∈ ys, Good T.C_Ratio G y) ∧ ys.length + i = xs.length ∧ wts ys = wts xs ∧ tot s (vls ys) = tot s (vls xs) ∧ Tape G t c ∧ Rd.But t H G) ⟨xs, _, _, _, rfl, gr, hg1, rfl, rfl, rfl, hT1, fun b u _ e => s1 _ _ e⟩ ?_ ?_
    · clear hT1 hg1 gr
      rintro i _ G hi ⟨ys, o4, o5, o6, rfl, gr, hy, yl, yw, yt, hTG, bG⟩
      have yn : ys.length ≤ xs.length := by omega
      have sl := sizeLine_eq
      walk_at "rd"
      refine Rd.tyL (.of gr) ?_
      walk_at "rd"
      refine Rd.len (.inl (.of gr)) ?_
      rw [rfs_len]
      walk_at "rd"
      refine ⟨t, c, _, rfl, hTG, by omega, by omega, fun r H4 r0 r1 hT4 b4 => ?_⟩
      obtain ⟨x, rfl⟩ : ∃ a : Nat, r = (a : Int) := ⟨r.toNat, by omega⟩
      have xl : x < ys.length := by omega
      have gx := List.getElem?_eq_getElem xl
      walk_at "rd"
      refine Rd.popAt (b4 _ _ rt gr) r0 (by rw [rfs_len]; omega) (by rw [rfs_len]; omega) (rfs_at gx) fun H5 g5 off5 => ?_
      rw [Int.toNat_natCast, rfs_erase] at g5
      have gr4 := b4 _ _ rt gr
      have hT5 := hT4.off rt rc off5
      have hy5 : ∀ y ∈ ys, Good T.C_Ratio H5 y := fun y m => ((hy y m).tape hTG b4).off gr4 off5
      have b5 : Rd.But t H H5 := but_off (bG.trans b4) nr off5
      have el := List.length_eraseIdx_of_lt xl
      clear hTG hy gr gr4 hT4 off5 bG b4
      walk_at "rd"
      refine Rd.tyL (.of g5) ?_
      walk_at "rd"
      refine Rd.len (.inl (.of g5)) ?_
      rw [rfs_len]
      walk_at "rd"
      refine ⟨t, c, _, rfl, hT5, by omega, by omega, fun r H6 r0' r1' hT6 b6 => ?_⟩
      obtain ⟨w, rfl⟩ : ∃ a : Nat, r = (a : Int) := ⟨r.toNat, by omega⟩
      have wl : w < (ys.eraseIdx x).length := by omega
      have gw := List.getElem?_eq_getElem wl
      have gr6 := b6 _ _ rt g5
      walk_at "rd"
      refine Rd.popAt gr6 r0' (by rw [rfs_len]; omega) (by rw [rfs_len]; omega) (rfs_at gw) fun H7 g7 off7 => ?_
      rw [Int.toNat_natCast, rfs_erase] at g7
      have hT7 := hT6.off rt rc off7
      have hy7 : ∀ y ∈ ys, Good T.C_Ratio H7 y := fun y m => ((hy5 y m).tape hT5 b6).off gr6 off7
      have b7 : Rd.But t H H7 := but_off (b5.trans b6) nr off7
      have el2 := List.length_eraseIdx_of_lt wl
      clear hT5 hy5 g5 gr6 hT6 off7 b5 b6
      have pm := two_of gx gw
      generalize ys[x] = y1 at *
      generalize (ys.eraseIdx x)[w] = y2 at *
      generalize (ys.eraseIdx x).eraseIdx w = E2 at *
      have g1 := hy7 y1 (pm.mem_iff.mpr (List.mem_cons_self ..))
      have g2 := hy7 y2 (pm.mem_iff.mpr (List.mem_cons_of_mem _ (List.mem_cons_self ..)))
      have gE : ∀ y ∈ E2, Good T.C_Ratio H7 y := fun y m => hy7 y (pm.mem_iff.mpr (List.mem_cons_of_mem _ (List.mem_cons_of_mem _ m)))
      have ew : wts ys = y1.2.2 + (y2.2.2 + wts E2) := (wts_perm pm).trans rfl
      have et : tot s (vls ys) = tot s (y1.2.1 :: y2.2.1 :: vls E2) := tot_perm (pm.map fun y : Itm => y.2.1)
      have eE : E2.length + 2 = ys.length := by omega
      clear hy7 pm gx gw
      have fin : ∀ (G : Hp) (q : Addr) (v : Nat) (o4 o5 o6 : Option V), G rest = some (.lst ((rfs E2).take v ++ [.ref q] ++ (rfs E2).drop v)) → RatAt T.C_Ratio G q (op2 s y1.2.1 y2.2.1) → (∀ y ∈ E2, Good T.C_Ratio G y) → Tape G t c → Rd.But t H G →
          ∃ (ys : List Itm) (o4' o5' o6' : Option V), [some (.ref t), some (.ref l), some (.bl s), some (.ref rest), o4, o5, o6] = [some (.ref t), some (.ref l), some (.bl s), some (.ref rest), o4', o5', o6'] ∧ G rest = some (.lst (rfs ys)) ∧ (∀ y ∈ ys, Good T.C_Ratio G y) ∧ ys.length + (i + 1) = xs.length ∧ wts ys = wts xs ∧ tot s (vls ys) = tot s (vls xs) ∧ Tape G t c ∧ Rd.But t H G := fun G q v o4 o5 o6 gg gq gE tG bG => by
        have pz := put_perm E2 v (q, op2 s y1.2.1 y2.2.1, y1.2.2 + y2.2.2)
        refine ⟨E2.take v ++ [(q, op2 s y1.2.1 y2.2.1, y1.2.2 + y2.2.2)] ++ E2.drop v, o4, o5, o6, rfl, ?_, fun y m => ?_, ?_, ?_, ?_, tG, bG⟩
        · rw [gg]
          simp only [rfs, List.map_append, List.map_take, List.map_drop, List.map_cons, List.map_nil]
        · rcases List.mem_cons.mp (pz.mem_iff.mp m) with rfl | m
          · exact ⟨gq, by have := g1.2.1; show 1 ≤ y1.2.2 + y2.2.2; omega, (Sz.op2 g1.2.2 g2.2.2).mono (by have := g1.2.1; have := g2.2.1; show 21 * y1.2.2 - 1 + (21 * y2.2.2 - 1) + 1 ≤ 21 * (y1.2.2 + y2.2.2) - 1; omega)⟩
          · exact gE y m
        · rw [pz.length_eq]
          show E2.length + 1 + (i + 1) = xs.length
          omega
        · rw [wts_perm pz, ← yw, ew]
          show y1.2.2 + y2.2.2 + wts E2 = _
          omega
        · rw [← yt, et, ← tot_two]
          exact tot_perm (pz.map fun y : Itm => y.2.1)
      have z1 : Sz 4000 y1.2.1 := g1.2.2.mono (by omega)
      have z2 : Sz 4000 y2.2.1 := g2.2.2.mono (by omega)
      walk_at "rd"
      cases s with
      | true =>
        refine Rd.yes rfl ?_
        walk_at "rd"
        refine Rd.tyL (.of g7) ?_
        walk_at "rd"
        refine Rd.len (.inl (.of g7)) ?_
        rw [rfs_len]
        walk_at "rd"
        refine ⟨t, c, _, rfl, hT7, by omega, by omega, fun r H8 q0 q1 hT8 b8 => ?_⟩
        obtain ⟨v, rfl⟩ : ∃ a : Nat, r = (a : Int) := ⟨r.toNat, by omega⟩
        have gr8 := b8 _ _ rt g7
        have k1 := (g1.tape hT7 b8).1
        have k2 := (g2.tape hT7 b8).1
        obtain ⟨d1, e1⟩ := id k1
        obtain ⟨d2, e2⟩ := id k2
        walk_at "rd"
        refine Rr.oo e1 e2 ⟨y1.1, _, _, _, rfl, k1, k2.num, z1, z2, fun q H9 hq s9 => ?_⟩
        walk_at "rd"
        refine Rd.insert (s9 _ _ gr8) (by rw [rfs_len]; omega) q0 (by omega) fun G1 gg off => ?_
        rw [Int.toNat_natCast] at gg
        walk_at "rd"
        obtain ⟨dq, eq⟩ := hq
        exact fin G1 q v _ _ _ gg ⟨dq, (off q (ne_of eq (s9 _ _ gr8) fun z => nomatch z)).trans eq⟩ (fun y m => (((gE y m).tape hT7 b8).same s9).off (s9 _ _ gr8) off) ((hT8.same s9).off rt rc off) (but_off ((b7.trans b8).same s9) nr off)
      | false =>
        refine Rd.no (fun e => nomatch e) ?_
        walk_at "rd"
        refine Rd.tyL (.of g7) ?_
        walk_at "rd"
        refine Rd.len (.inl (.of g7)) ?_
        rw [rfs_len]
        walk_at "rd"
        refine ⟨t, c, _, rfl, hT7, by omega, by omega, fun r H8 q0 q1 hT8 b8 => ?_⟩
        obtain ⟨v, rfl⟩ : ∃ a : Nat, r = (a : Int) := ⟨r.toNat, by omega⟩
        have gr8 := b8 _ _ rt g7
        have k1 := (g1.tape hT7 b8).1
        have k2 := (g2.tape hT7 b8).1
        obtain ⟨d1, e1⟩ := id k1
        obtain ⟨d2, e2⟩ := id k2
        walk_at "rd"
        refine Rr.oo e1 e2 ⟨y1.1, _, _, _, rfl, k1, k2.num, z1, z2, fun q H9 hq s9 => ?_⟩
        walk_at "rd"
        refine Rd.insert (s9 _ _ gr8) (by rw [rfs_len]; omega) q0 (by omega) fun G1 gg off => ?_
        rw [Int.toNat_natCast] at gg
        walk_at "rd"
        obtain ⟨dq, eq⟩ := hq
        exact fin G1 q v _ _ _ gg ⟨dq, (off q (ne_of eq (s9 _ _ gr8) fun z => nomatch z)).trans eq⟩ (fun y m => (((gE y m).tape hT7 b8).same s9).off (s9 _ _ gr8) off) ((hT8.same s9).off rt rc off) (but_off ((b7.trans b8).same s9) nr off)
    · clear hT1 hg1 gr
      rintro _ G ⟨ys, o4, o5, o6, rfl, gr, hy, yl, yw, yt, hTG, bG⟩
      obtain ⟨y, rfl⟩ : ∃ y, ys = [y] := by
        match ys, yl with
        | [], h => simp at h; omega
        | [y], _ => exact ⟨y, rfl⟩
        | _ :: _ :: r, h => simp at h; omega
      have g1 := hy y (List.mem_cons_self ..)
      have e : y.2.1 = tot s (vls xs) := (tot_one s y.2.1).symm.trans yt
      have w1 : y.2.2 = wts xs := yw
      walk_at "rd"
      refine Rd.ixL (.of gr) (atI_nat (j := 0) rfl) ?_
      exact k y.1 G (e ▸ g1.1) (e ▸ g1.2.2.mono (by omega)) hTG bG

end
end W

namespace W
open PySem PySem.Spec PyProof.Rows L2
section
variable {P : Program} {w : World} {K : PySem.W.Frag} {mg : Str → Option Value} {base : Heap}
set_option exponentiation.threshold 10000
open Mx (Sz part)
/-! ### pairs, and the fractions of them -/
abbrev Pr := Addr × Int × Int
def PairOk (H : Hp) (q : Pr) : Prop := H q.1 = some (.tup [.int q.2.1, .int q.2.2]) ∧ q.2.1.natAbs ≤ 20 ∧ q.2.2.natAbs ≤ 999 ∧ q.2.2 ≠ 0
def Pairs (H : Hp) (l : Addr) (qs : List Pr) : Prop := H l = some (.lst (qs.map fun q => V.ref q.1)) ∧ ∀ q ∈ qs, PairOk H q
theorem PairOk.same {H H' : Hp} {q : Pr} (s : Same H H') (h : PairOk H q) : PairOk H' q := ⟨s _ _ h.1, h.2⟩
theorem Pairs.same {H H' : Hp} {l : Addr} {qs : List Pr} (s : Same H H') (h : Pairs H l qs) : Pairs H' l qs := ⟨s _ _ h.1, fun q m => (h.2 q m).same s⟩
theorem PairOk.tape {t c : Addr} {H H' : Hp} {q : Pr} (ht : Tape H t c) (off : Rd.But t H H') (h : PairOk H q) : PairOk H' q := by
  obtain ⟨ns, x, y, z, u, _, g, _⟩ := ht
  exact ⟨off _ _ (ne_of h.1 g (fun e => nomatch e)) h.1, h.2⟩
theorem refs_off {α : Type} {f : α → Addr} {t c l : Addr} {H : Hp} {xs : List α} (ht : Tape H t c) (h : H l = some (.lst (xs.map fun q => V.ref (f q)))) : l ≠ t := by
  obtain ⟨ns, x, y, z, u, _, g, _⟩ := ht
  refine ne_of h g fun e => ?_
  have e := HO.lst.inj e
  match xs, e with
  | [_, _, _, _, _], e => simp at e
theorem Pairs.tape {t c l : Addr} {H H' : Hp} {qs : List Pr} (ht : Tape H t c) (off : Rd.But t H H') (h : Pairs H l qs) : Pairs H' l qs :=
  ⟨off _ _ (refs_off ht h.1) h.1, fun q m => (h.2 q m).tape ht off⟩
theorem Row.same {C l : Addr} {H H' : Hp} {xs : List Itm} (s : Same H H') (h : Row C H l xs) : Row C H' l xs := ⟨s _ _ h.1, fun q m => (h.2 q m).same s⟩
theorem Row.tape {C t c l : Addr} {H H' : Hp} {xs : List Itm} (ht : Tape H t c) (off : Rd.But t H H') (h : Row C H l xs) : Row C H' l xs :=
  ⟨off _ _ (refs_off ht h.1) h.1, fun q m => (h.2 q m).tape ht off⟩
def val (q : Pr) : Rat := Rat.divInt q.2.1 q.2.2
theorem tot_snoc (s : Bool) (l : List Rat) (x : Rat) : tot s (l ++ [x]) = op2 s (tot s l) x := by
  rw [tot_perm (List.perm_append_comm : (l ++ [x]).Perm ([x] ++ l))]
  exact op2_comm s x _
theorem tot_mulL (f : Rat) : ∀ l : List Rat, tot true (l.map fun x => f * x) = f * tot true l
  | [] => (Rat.mul_zero f).symm
  | x :: l => by
    show f * x + tot true (l.map fun x => f * x) = f * (x + tot true l)
    rw [tot_mulL f l, Rat.mul_add]
theorem tot_mulR (f : Rat) : ∀ l : List Rat, tot true (l.map fun x => x * f) = tot true l * f
  | [] => (Rat.zero_mul f).symm
  | x :: l => by
    show x * f + tot true (l.map fun x => x * f) = (x + tot true l) * f
    rw [tot_mulR f l, Rat.add_mul]
theorem add_sub1 (a b : Rat) : a + b - b = a := by rw [Rat.sub_eq_add_neg, Rat.add_assoc, Rat.add_neg_cancel, Rat.add_zero]
theorem sub_add1 (a b : Rat) : a - b + b = a := by rw [Rat.sub_eq_add_neg, Rat.add_assoc, Rat.neg_add_cancel, Rat.add_zero]
theorem sub_self1 (a : Rat) : a - a = 0 := by rw [Rat.sub_eq_add_neg, Rat.add_neg_cancel]
theorem mul_div1 (a b : Rat) (h : b ≠ 0) : a * b / b = a := by rw [Rat.div_def, Rat.mul_assoc, Rat.mul_inv_cancel _ h, Rat.mul_one]
theorem three (a b : Rat) : ([decide (a < b), decide (b < a), decide (a = b)] : List Bool).count true = 1 := by
  by_cases h : a < b
  · rw [decide_eq_true h, decide_eq_false (Rat.not_lt.mpr (Rat.le_of_lt h)), decide_eq_false (fun e => by rw [e] at h; exact Rat.lt_irrefl h)]
    rfl
  · by_cases e : a = b
    · subst e
      rw [decide_eq_false Rat.lt_irrefl, decide_eq_true rfl]
      rfl
    · have h2 : b < a := Rat.lt_of_le_of_ne (Rat.not_lt.mp h) fun z => e z.symm
      rw [decide_eq_false h, decide_eq_true h2, decide_eq_false e]
      rfl
theorem add_lt1 (a b c : Rat) : decide (a + c < b + c) = decide (a < b) := by rw [decide_eq_decide]; exact Rat.add_lt_add_right
theorem up2 {i : Int} {j k : Nat} (h : i.natAbs < 2 ^ j) (l : j ≤ k) : i.natAbs < 2 ^ k := Nat.lt_of_lt_of_le h (Nat.pow_le_pow_right (by decide) l)
theorem wts_snoc (xs : List Itm) {i : Nat} (h : i < xs.length) : wts (xs.take (i + 1)) = wts (xs.take i) + xs[i].2.2 := by
  unfold wts
  rw [← List.take_append_getElem h, List.map_append, List.sum_append]
  rfl
theorem vls_snoc (xs : List Itm) {i : Nat} (h : i < xs.length) : vls (xs.take (i + 1)) = vls (xs.take i) ++ [xs[i].2.1] := by
  unfold vls
  rw [← List.take_append_getElem h, List.map_append]
  rfl
theorem wts_take (xs : List Itm) (i : Nat) : wts (xs.take i) ≤ wts xs := by
  have h : wts xs = wts (xs.take i) + wts (xs.drop i) := by
    unfold wts
    rw [← List.sum_append, ← List.map_append, List.take_append_drop]
  omega
theorem wts_mem {xs : List Itm} {x : Itm} (m : x ∈ xs) : x.2.2 ≤ wts xs := by
  obtain ⟨i, l, rfl⟩ := List.getElem_of_mem m
  have h1 := wts_snoc xs l
  have h2 := wts_take xs (i + 1)
  omega
theorem rfs_get {xs : List Itm} {i : Nat} {v : V} (h : (rfs xs)[i]? = some v) : ∃ l : i < xs.length, v = .ref xs[i].1 := by
  have l : i < xs.length := by
    have := (List.getElem?_eq_some_iff.mp h).1
    rwa [rfs_len] at this
  refine ⟨l, ?_⟩
  unfold rfs at h
  rw [List.getElem?_map, List.getElem?_eq_getElem l] at h
  exact (Option.some.inj h).symm
/-- sum of a row of fractions -/
theorem sumRow {C row : Addr} {xs : List Itm} {H : Hp} {Q : VK} (hR : Row C H row xs) (n : 0 < xs.length) (hw : wts xs ≤ 24) (q : ∀ p G, RatAt C G p (tot true (vls xs)) → Same H G → Q (.ref p) G) :
    Rj.rSumO K (fun x y H Q => Rr.rOO C (sp_Ratio_add K C) E0 x y H Q ∨ Rr.rIO C (sp_Ratio_radd K C) E0 x y H Q) [.ref row] H Q := by
  refine ⟨row, rfs xs, fun i t G => Same H G ∧ ((i = 0 ∧ t = .int 0) ∨ (0 < i ∧ ∃ p, t = .ref p ∧ RatAt C G p (tot true (vls (xs.take i))) ∧ Sz (21 * wts (xs.take i) - 1) (tot true (vls (xs.take i))) ∧ 1 ≤ wts (xs.take i))), rfl, .of hR.1, ⟨?_, ?_⟩, ⟨Same.refl _, .inl ⟨rfl, rfl⟩⟩, ?_⟩
  · rintro i t G ⟨sG, h⟩
    exact ⟨.of (sG _ _ hR.1), h.imp id fun ⟨_, p, e, _⟩ => ⟨p, e⟩⟩
  · rintro i x t G hx ⟨sG, h⟩
    obtain ⟨l, rfl⟩ := rfs_get hx
    have g := (hR.2 _ (List.getElem_mem l)).same sG
    have gw := wts_mem (List.getElem_mem l)
    have tw := wts_take xs (i + 1)
    have ws := wts_snoc xs l
    refine ⟨⟨_, rfl⟩, ?_⟩
    obtain ⟨dx, ex⟩ := id g.1
    rcases h with ⟨rfl, rfl⟩ | ⟨ip, p, rfl, hp, zp, wp⟩
    · refine .inr (Rr.io ex ⟨_, 0, _, rfl, g.1, g.2.2.mono (by omega), by decide, fun p G2 hp s2 => ⟨⟨p, rfl⟩, sG.trans s2, .inr ⟨Nat.succ_pos _, p, rfl, ?_⟩⟩⟩)
      have e : tot true (vls (xs.take (0 + 1))) = xs[0].2.1 := by
        rw [vls_snoc xs l]
        exact tot_one true _
      have e2 : ((0 : Int) : Rat) + xs[0].2.1 = xs[0].2.1 := Rat.zero_add _
      rw [e, ws]
      replace hp : RatAt C G2 p (((0 : Int) : Rat) + xs[0].2.1) := hp
      rw [e2] at hp
      exact ⟨hp, by have : wts (xs.take 0) = 0 := rfl; rw [this, Nat.zero_add]; exact g.2.2, by have := g.2.1; omega⟩
    · obtain ⟨dp, ep⟩ := id hp
      refine .inl (Rr.oo ep ex ⟨p, _, _, _, rfl, hp, g.1.num, zp.mono (by omega), g.2.2.mono (by omega), fun p2 G2 hp2 s2 => ⟨⟨p2, rfl⟩, sG.trans s2, .inr ⟨Nat.succ_pos _, p2, rfl, ?_⟩⟩⟩)
      rw [vls_snoc xs l, tot_snoc, ws]
      exact ⟨hp2, (Sz.add zp g.2.2).mono (by have := g.2.1; omega), by omega⟩
  · rintro t G ⟨sG, h⟩
    rw [rfs_len, List.take_length] at h
    rcases h with ⟨e, _⟩ | ⟨_, p, rfl, hp, _⟩
    · omega
    · exact q p G hp sG
def sp_law (K : PySem.W.Frag) : Sp := fun vs H Q _ => ∃ (a : Addr) (ns : List Int), vs = [.ref a] ∧ SqL K H a (ns.map V.int) ∧ ns.length ≤ 63 ∧ ∀ H', Q (.bl true) H'
theorem ok_law (T : Txt K mg) : FnOk P w K mg base CX0 9 T.f_law T.fd_law ["_law_script"] (sp_law K) := by
  refine T.F_law.ok sc_law (fun vs H Q E h => ?_) (fun cdv A outer s H vs Q E hr h => ?_)
  · obtain ⟨a, ns, rfl, _⟩ := h
    rfl
  · obtain ⟨a, ns, rfl, hS, hlen, k⟩ := h
    refine ⟨_, (pss_cons (ps_set (i := 1) sc_law.nd rfl (.inr rfl) (pe_call (ok_l_hand T) (hr.mono (by decide)) rfl T.g_l_hand T.F_l_hand.kp T.b_l_hand .nil pass0 (pa_cons (pv 0) pa_nil)))
  (pss_cons (ps_setLc (i := 2) (own := [("_law_k", 13)]) (g := gName 13) (tt := tYes) rfl sc_law.nd rfl rfl (sw_true rfl rfl rfl (by decide +kernel)) (pi_range1 rfl T.n_range (pa_cons (pe_op op_add pe_int (pe_call (ok_l_draw T) (hr.mono (by decide)) rfl T.g_l_draw T.F_l_draw.kp T.b_l_draw .nil pass0 (pa_cons (pv 1) (pa_cons pe_int pa_nil)))) pa_nil)) (blkOk_by (own := [("_law_k", 13)]) (N := ["_law_script", "_law_hand_here", "_law_pairs", "_law_top", "_law_bottom", "_law_row", "_law_sums", "_law_products", "_law_total", "_law_whole", "_law_factor", "_law_ratio", "_law_at", "_law_k"]) (sc := defScope s_law) (by decide +kernel)) (fun _ _ _ _ _ => (pg_name (i := 13) sc_law.nd rfl (.inl rfl))) (fun _ _ _ _ _ => pts_nil) (fun _ _ _ _ _ => (pe_call (ok_l_pair T) (hr.mono (by decide)) rfl T.g_l_pair T.F_l_pair.kp T.b_l_pair .nil pass0 (pa_cons (pv 1) pa_nil))))
  (pss_cons (ps_setLc (i := 5) (own := [("_law_top", 3), ("_law_bottom", 4)]) (g := gTup K 2 (gCons (gName 3) (gCons (gName 4) gNil))) (tt := tYes) rfl sc_law.nd rfl rfl (sw_true rfl rfl rfl (by decide +kernel)) (pi_list (pv 2)) (blkOk_by (own := [("_law_top", 3), ("_law_bottom", 4)]) (N := ["_law_script", "_law_hand_here", "_law_pairs", "_law_top", "_law_bottom", "_law_row", "_law_sums", "_law_products", "_law_total", "_law_whole", "_law_factor", "_law_ratio", "_law_at", "_law_k"]) (sc := defScope s_law) (by decide +kernel)) (fun _ _ _ _ _ => (pg_tup rfl (pgs_cons (pg_name (i := 3) sc_law.nd rfl (.inl rfl)) (pgs_cons (pg_name (i := 4) sc_law.nd rfl (.inl rfl)) pgs_nil)))) (fun _ _ _ _ _ => pts_nil) (fun _ _ _ _ _ => (pe_make T.M_Ratio (ok_Ratio_init T) (hr.mono (by decide)) rfl T.c_Ratio T.b_Ratio_init .nil passL (pa_cons (pv 3) (pa_cons (pv 4) pa_nil)))))
  (pss_cons (ps_set (i := 6) sc_law.nd rfl (.inl rfl) (pe_tup (pa_cons pe_int (pa_cons pe_int pa_nil))))
  (pss_cons (ps_set (i := 7) sc_law.nd rfl (.inl rfl) (pe_tup (pa_cons pe_int (pa_cons pe_int pa_nil))))
  (pss_cons (ps_for PassesOwn.never rfl (pi_list (pv 2)) (pg_tup rfl (pgs_cons (pg_name (i := 3) sc_law.nd rfl (.inl rfl)) (pgs_cons (pg_name (i := 4) sc_law.nd rfl (.inl rfl)) pgs_nil)))
  (pss_cons (ps_set (i := 6) sc_law.nd rfl (.inl rfl) (pe_tup (pa_cons (pe_op op_add (pe_op op_mulW (pe_ix (r := rIxT K) ix_tup (pv 6) pe_int (fun _ _ => rfl)) (pv 4)) (pe_op op_mulW (pv 3) (pe_ix (r := rIxT K) ix_tup (pv 6) pe_int (fun _ _ => rfl)))) (pa_cons (pe_op op_mulW (pe_ix (r := rIxT K) ix_tup (pv 6) pe_int (fun _ _ => rfl)) (pv 4)) pa_nil))))
  (pss_one (ps_set (i := 7) sc_law.nd rfl (.inl rfl) (pe_tup (pa_cons (pe_op op_mulW (pe_ix (r := rIxT K) ix_tup (pv 7) pe_int (fun _ _ => rfl)) (pv 3)) (pa_cons (pe_op op_mulW (pe_ix (r := rIxT K) ix_tup (pv 7) pe_int (fun _ _ => rfl)) (pv 4)) pa_nil)))))))
  (pss_cons (ps_set (i := 8) sc_law.nd rfl (.inl rfl) (pe_call (ok_l_by_turns T) (hr.mono (by decide)) rfl T.g_l_by_turns T.F_l_by_turns.kp T.b_l_by_turns .nil pass0 (pa_cons (pv 1) (pa_cons (pv 5) (pa_cons pe_bl pa_nil)))))
  (pss_cons (ps_if (PW.pt (pw_or (pt_not (pt_val (pe_call (ok_l_is T) (hr.mono (by decide)) rfl T.g_l_is T.F_l_is.kp T.b_l_is .nil pass0 (pa_cons (pv 8) (pa_cons (pe_ix (r := rIxT K) ix_tup (pv 6) pe_int (fun _ _ => rfl)) (pa_cons (pe_ix (r := rIxT K) ix_tup (pv 6) pe_int (fun _ _ => rfl)) pa_nil)))))) (pw_or (pt_cmpR (Ro.op_one (E := E0) ⟨T.h_Ratio_eq.at_, T.h_Ratio_eq.fn, T.ne_Ratio, T.ty_Ratio.hm⟩ (ok_Ratio_eq T) T.b_Ratio_eq pass0 (hr.mono (by decide))) (pe_call (ok_l_by_turns T) (hr.mono (by decide)) rfl T.g_l_by_turns T.F_l_by_turns.kp T.b_l_by_turns .nil pass0 (pa_cons (pv 1) (pa_cons (pv 5) (pa_cons pe_bl pa_nil)))) (pv 8) (nomark _)) (pw_or1 (pt_cmpR (Ro.op_one (E := E0) ⟨T.h_Ratio_eq.at_, T.h_Ratio_eq.fn, T.ne_Ratio, T.ty_Ratio.hm⟩ (ok_Ratio_eq T) T.b_Ratio_eq pass0 (hr.mono (by decide))) (pe_callB (id := "sum") (r := Rj.rSumO K (fun x y H Q => Rr.rOO T.C_Ratio (sp_Ratio_add K T.C_Ratio) E0 x y H Q ∨ Rr.rIO T.C_Ratio (sp_Ratio_radd K T.C_Ratio) E0 x y H Q)) (Rj.cr_sumO (m := 6) (hr.mono (by decide)) (Rj.opA_add T.first_Ratio T.ki_Ratio T.h_Ratio_add T.h_Ratio_radd (ok_Ratio_add T) T.b_Ratio_add (ok_Ratio_radd T) T.b_Ratio_radd (by decide) (by decide))) (by rfl) T.n_sum (by decide +kernel) (pa_cons (pv 5) pa_nil)) (pv 8) (nomark _))))))
  (pss_one (ps_ret pe_bl))
  pss_nil)
  (pss_cons (ps_set (i := 9) sc_law.nd rfl (.inl rfl) (pe_call (ok_l_by_turns T) (hr.mono (by decide)) rfl T.g_l_by_turns T.F_l_by_turns.kp T.b_l_by_turns .nil pass0 (pa_cons (pv 1) (pa_cons (pv 5) (pa_cons pe_bl pa_nil)))))
  (pss_cons (ps_if (PW.pt (pw_or (pt_not (pt_val (pe_call (ok_l_is T) (hr.mono (by decide)) rfl T.g_l_is T.F_l_is.kp T.b_l_is .nil pass0 (pa_cons (pv 9) (pa_cons (pe_ix (r := rIxT K) ix_tup (pv 7) pe_int (fun _ _ => rfl)) (pa_cons (pe_ix (r := rIxT K) ix_tup (pv 7) pe_int (fun _ _ => rfl)) pa_nil)))))) (pw_or1 (pt_cmpR (Ro.op_one (E := E0) ⟨T.h_Ratio_eq.at_, T.h_Ratio_eq.fn, T.ne_Ratio, T.ty_Ratio.hm⟩ (ok_Ratio_eq T) T.b_Ratio_eq pass0 (hr.mono (by decide))) (pe_call (ok_l_by_turns T) (hr.mono (by decide)) rfl T.g_l_by_turns T.F_l_by_turns.kp T.b_l_by_turns .nil pass0 (pa_cons (pv 1) (pa_cons (pv 5) (pa_cons pe_bl pa_nil)))) (pv 9) (nomark _)))))
  (pss_one (ps_ret pe_bl))
  pss_nil)
  (pss_cons (ps_set (i := 10) sc_law.nd rfl (.inr rfl) (pe_ix (r := rIxL K) ix_list (pv 5) (pe_call (ok_l_draw T) (hr.mono (by decide)) rfl T.g_l_draw T.F_l_draw.kp T.b_l_draw .nil pass0 (pa_cons (pv 1) (pa_cons (pe_callB (id := "len") (r := Rd.nLen K) Rd.c_len (by rfl) T.n_len (by decide +kernel) (pa_cons (pv 5) pa_nil)) pa_nil))) (fun _ _ => rfl)))
  (pss_cons (ps_if (pt_cmpR (Ro.op_one (E := E0) ⟨T.h_Ratio_eq.at_, T.h_Ratio_eq.fn, T.ne_Ratio, T.ty_Ratio.hm⟩ (ok_Ratio_eq T) T.b_Ratio_eq pass0 (hr.mono (by decide))) (pe_op (Rr.mulO (E := E0) T.first_Ratio T.h_Ratio_mul (ok_Ratio_mul T) T.b_Ratio_mul pass0 (hr.mono (by decide))) (pv 10) (pv 8)) (pe_call (ok_l_by_turns T) (hr.mono (by decide)) rfl T.g_l_by_turns T.F_l_by_turns.kp T.b_l_by_turns .nil pass0 (pa_cons (pv 1) (pa_cons (pe_lc (own := [("_law_ratio", 11)]) (g := gName 11) (tt := tYes) rfl sc_law.nd (pi_list (pv 5)) (blkOk_by (own := [("_law_ratio", 11)]) (N := ["_law_script", "_law_hand_here", "_law_pairs", "_law_top", "_law_bottom", "_law_row", "_law_sums", "_law_products", "_law_total", "_law_whole", "_law_factor", "_law_ratio", "_law_at", "_law_k"]) (sc := defScope s_law) (by decide +kernel)) (fun _ _ _ _ _ => (pg_name (i := 11) sc_law.nd rfl (.inl rfl))) (fun _ _ _ _ _ => pts_nil) (fun _ _ _ _ _ => (pe_op (Rr.mulO (E := E0) T.first_Ratio T.h_Ratio_mul (ok_Ratio_mul T) T.b_Ratio_mul pass0 (hr.mono (by decide))) (pv 10) (pv 11)))) (pa_cons pe_bl pa_nil)))) (nomark _))
  (pss_one (ps_ret pe_bl))
  pss_nil)
  (pss_cons (ps_if (pt_cmpR (Ro.op_one (E := E0) ⟨T.h_Ratio_eq.at_, T.h_Ratio_eq.fn, T.ne_Ratio, T.ty_Ratio.hm⟩ (ok_Ratio_eq T) T.b_Ratio_eq pass0 (hr.mono (by decide))) (pe_op (Rr.mulO (E := E0) T.first_Ratio T.h_Ratio_mul (ok_Ratio_mul T) T.b_Ratio_mul pass0 (hr.mono (by decide))) (pv 8) (pv 10)) (pe_call (ok_l_by_turns T) (hr.mono (by decide)) rfl T.g_l_by_turns T.F_l_by_turns.kp T.b_l_by_turns .nil pass0 (pa_cons (pv 1) (pa_cons (pe_lc (own := [("_law_ratio", 11)]) (g := gName 11) (tt := tYes) rfl sc_law.nd (pi_list (pv 5)) (blkOk_by (own := [("_law_ratio", 11)]) (N := ["_law_script", "_law_hand_here", "_law_pairs", "_law_top", "_law_bottom", "_law_row", "_law_sums", "_law_products", "_law_total", "_law_whole", "_law_factor", "_law_ratio", "_law_at", "_law_k"]) (sc := defScope s_law) (by decide +kernel)) (fun _ _ _ _ _ => (pg_name (i := 11) sc_law.nd rfl (.inl rfl))) (fun _ _ _ _ _ => pts_nil) (fun _ _ _ _ _ => (pe_op (Rr.mulO (E := E0) T.first_Ratio T.h_Ratio_mul (ok_Ratio_mul T) T.b_Ratio_mul pass0 (hr.mono (by decide))) (pv 11) (pv 10)))) (pa_cons pe_bl pa_nil)))) (nomark _))
  (pss_one (ps_ret pe_bl))
  pss_nil)
  (pss_cons (ps_for PassesOwn.never rfl (pi_list (pv 5)) (pg_name (i := 11) sc_law.nd rfl (.inl rfl))
  (pss_cons (ps_if (PW.pt (pw_or (pt_cmpR (Ro.op_one (E := E0) ⟨T.h_Ratio_eq.at_, T.h_Ratio_eq.fn, T.ne_Ratio, T.ty_Ratio.hm⟩ (ok_Ratio_eq T) T.b_Ratio_eq pass0 (hr.mono (by decide))) (pe_op (Rr.subO (E := E0) T.first_Ratio T.h_Ratio_sub (ok_Ratio_sub T) T.b_Ratio_sub pass0 (hr.mono (by decide))) (pe_op (Rr.addO (E := E0) T.first_Ratio T.h_Ratio_add (ok_Ratio_add T) T.b_Ratio_add pass0 (hr.mono (by decide))) (pv 8) (pv 11)) (pv 11)) (pv 8) (nomark _)) (pw_or (pt_cmpR (Ro.op_one (E := E0) ⟨T.h_Ratio_eq.at_, T.h_Ratio_eq.fn, T.ne_Ratio, T.ty_Ratio.hm⟩ (ok_Ratio_eq T) T.b_Ratio_eq pass0 (hr.mono (by decide))) (pe_op (Rr.addO (E := E0) T.first_Ratio T.h_Ratio_add (ok_Ratio_add T) T.b_Ratio_add pass0 (hr.mono (by decide))) (pe_op (Rr.subO (E := E0) T.first_Ratio T.h_Ratio_sub (ok_Ratio_sub T) T.b_Ratio_sub pass0 (hr.mono (by decide))) (pv 8) (pv 11)) (pv 11)) (pv 8) (nomark _)) (pw_or1 (pt_not (pt_cmpR (r := Rp.rOX K T.C_Ratio (sp_Ratio_eq K T.C_Ratio) E0) (Rp.op_ox (E := E0) ⟨T.h_Ratio_eq.at_, T.h_Ratio_eq.fn, T.ne_Ratio, T.ty_Ratio.hm⟩ (ok_Ratio_eq T) T.b_Ratio_eq pass0 (hr.mono (by decide))) (pe_op (Rr.subO (E := E0) T.first_Ratio T.h_Ratio_sub (ok_Ratio_sub T) T.b_Ratio_sub pass0 (hr.mono (by decide))) (pv 8) (pv 8)) pe_int (nomark _)))))))
  (pss_one (ps_ret pe_bl))
  pss_nil)
  (C8.pss_cut (ps_if (PW.pt (pw_and (pt_not (pt_cmpR (r := Rp.rOX K T.C_Ratio (sp_Ratio_eq K T.C_Ratio) E0) (Rp.op_ox (E := E0) ⟨T.h_Ratio_eq.at_, T.h_Ratio_eq.fn, T.ne_Ratio, T.ty_Ratio.hm⟩ (ok_Ratio_eq T) T.b_Ratio_eq pass0 (hr.mono (by decide))) (pv 11) pe_int (nomark _))) (pw_and1 (pt_cmpR (Ro.op_one (E := E0) ⟨T.h_Ratio_eq.at_, T.h_Ratio_eq.fn, T.ne_Ratio, T.ty_Ratio.hm⟩ (ok_Ratio_eq T) T.b_Ratio_eq pass0 (hr.mono (by decide))) (pe_meth (pe_op (Rr.mulO (E := E0) T.first_Ratio T.h_Ratio_mul (ok_Ratio_mul T) T.b_Ratio_mul pass0 (hr.mono (by decide))) (pv 8) (pv 11)) T.cl_Ratio T.h_Ratio_over (ok_Ratio_over T) (hr.mono (by decide)) T.b_Ratio_over .nil passL (pa_cons (pv 11) pa_nil)) (pv 8) (nomark _)))))
  (pss_one (ps_ret pe_bl))
  pss_nil)
  (pss_cons (ps_if (pt_cmpR op_ne (pe_bm PySem.F.plainAttrs_list PySem.F.slot_list_count PySem.F.type_list_count Rj.mt_lcountB (pe_lst (pa_cons (pe_meth (pv 11) T.cl_Ratio T.h_Ratio_less (ok_Ratio_less T) (hr.mono (by decide)) T.b_Ratio_less .nil passL (pa_cons (pv 8) pa_nil)) (pa_cons (pe_meth (pv 8) T.cl_Ratio T.h_Ratio_less (ok_Ratio_less T) (hr.mono (by decide)) T.b_Ratio_less .nil passL (pa_cons (pv 11) pa_nil)) (pa_cons (pe_cmpR (Ro.op_oe (E := E0) ⟨T.h_Ratio_eq.at_, T.h_Ratio_eq.fn, T.ne_Ratio, T.ty_Ratio.hm⟩ (ok_Ratio_eq T) T.b_Ratio_eq pass0 (hr.mono (by decide))) (pv 11) (pv 8) (nomark _)) pa_nil)))) (pa_cons pe_bl pa_nil)) pe_int (nomark _))
  (pss_one (ps_ret pe_bl))
  pss_nil)
  (pss_one (ps_if (pt_cmpR op_ne (pe_meth (pe_op (Rr.addO (E := E0) T.first_Ratio T.h_Ratio_add (ok_Ratio_add T) T.b_Ratio_add pass0 (hr.mono (by decide))) (pv 11) (pv 10)) T.cl_Ratio T.h_Ratio_less (ok_Ratio_less T) (hr.mono (by decide)) T.b_Ratio_less .nil passL (pa_cons (pe_op (Rr.addO (E := E0) T.first_Ratio T.h_Ratio_add (ok_Ratio_add T) T.b_Ratio_add pass0 (hr.mono (by decide))) (pv 8) (pv 10)) pa_nil)) (pe_meth (pv 11) T.cl_Ratio T.h_Ratio_less (ok_Ratio_less T) (hr.mono (by decide)) T.b_Ratio_less .nil passL (pa_cons (pv 8) pa_nil)) (nomark _))
  (pss_one (ps_ret pe_bl))
  pss_nil))))))
  (pss_cons (ps_for PassesOwn.never rfl (pi_range1 rfl T.n_range (pa_cons (pe_callB (id := "len") (r := Rd.nLen K) Rd.c_len (by rfl) T.n_len (by decide +kernel) (pa_cons (pv 5) pa_nil)) pa_nil)) (pg_name (i := 12) sc_law.nd rfl (.inl rfl))
  (pss_one (ps_if (pt_not (pt_val (pe_call (ok_l_is T) (hr.mono (by decide)) rfl T.g_l_is T.F_l_is.kp T.b_l_is .nil pass0 (pa_cons (pe_ix (r := rIxL K) ix_list (pv 5) (pv 12) (fun _ _ => rfl)) (pa_cons (pe_ix (r := rIxT K) ix_tup (pe_ix (r := rIxL K) ix_list (pv 2) (pv 12) (fun _ _ => rfl)) pe_int (fun _ _ => rfl)) (pa_cons (pe_ix (r := rIxT K) ix_tup (pe_ix (r := rIxL K) ix_list (pv 2) (pv 12) (fun _ _ => rfl)) pe_int (fun _ _ => rfl)) pa_nil))))))
  (pss_one (ps_ret pe_bl))
  pss_nil)))
  (pss_one (ps_ret pe_bl))))))))))))))))), ?_⟩
    walk_at "rd"
    refine ⟨a, ns, rfl, hS, fun t c H1 hT1 s1 _ _ => ?_⟩
    clear hS s1
    walk_at "rd"
    refine ⟨t, c, 11, rfl, hT1, by decide, by decide, fun r H2 r0 r1 hT2 b2 => ?_⟩
    obtain ⟨n, hn, n2, n12⟩ : ∃ n : Nat, 2 + r = (n : Int) ∧ 2 ≤ n ∧ n ≤ 12 := ⟨(2 + r).toNat, by omega, by omega, by omega⟩
    walk_at "rd"
    rw [hn]
    clear hn r0 r1 b2 hT1 r
    refine ⟨by omega, by omega, ?_⟩
    have sl := sizeLine_eq
    refine lcT (n := n) walk_range hT2 (fun _ _ => trivial) (fun D i acc G => ∃ qs : List Pr, acc = qs.map (fun q => V.ref q.1) ∧ qs.length = i ∧ ∀ q ∈ qs, PairOk G q) (fun _ _ _ _ _ => ⟨[], rfl, rfl, fun _ m => by simp at m⟩) ?_ ?_
    · rintro D i x G _ acc nD hi hD tpG bG ⟨qs, rfl, ql, hq⟩ ⟨rfl, hx⟩
      walk_at "rd"
      refine ⟨rfl, ?_⟩
      walk_at "rd"
      refine ⟨t, c, rfl, tpG, fun p a b G1 gp ha hb b0 hT3 b3 => ?_⟩
      have dt := (hT2.new nD).1
      refine lcPuT (b3 D _ dt hD) nD hT2 hT3 (bG.trans b3) (by rw [List.length_map, ql]; omega) fun G2 g2 off2 => ?_
      have up : ∀ {q : Pr}, PairOk G1 q → PairOk G2 q := fun h => ⟨(off2 _ (ne_of h.1 (b3 D _ dt hD) fun e => nomatch e)).trans h.1, h.2⟩
      refine ⟨qs ++ [(p, a, b)], by rw [List.map_append]; rfl, by rw [List.length_append, ql]; rfl, fun q m => ?_⟩
      rcases List.mem_append.mp m with m | m
      · exact up ((hq q m).tape tpG b3)
      · rw [List.mem_singleton.mp m]
        exact up ⟨gp, ha, hb, b0⟩
    rintro pl _ H3 _ gpl hT3 _ ⟨qs, rfl, ql, hq⟩
    have hP : Pairs H3 pl qs := ⟨gpl, hq⟩
    clear hT2 gpl hq
    walk_at "rd"
    refine ⟨⟨_, .of hP.1⟩, ?_⟩
    refine Rd.lcS (n := (qs.map fun q => V.ref q.1).length) walk_list (fun _ s => .of (s _ _ hP.1)) (fun D i acc G => ∃ xs : List Itm, acc = rfs xs ∧ xs.length = i ∧ (∀ x ∈ xs, Good T.C_Ratio G x) ∧ wts xs = i ∧ vls xs = (qs.take i).map val ∧ ∀ x ∈ xs, x.2.2 = 1) (fun _ _ _ _ _ => ⟨[], rfl, rfl, fun _ m => by simp at m, rfl, rfl, fun _ m => by simp at m⟩) ?_ ?_
    · rintro D i x G G' acc nD hi hD sm ⟨xs, rfl, xl, hx, xw, xv, x1⟩ ⟨eG, hxi⟩
      cases eG
      rw [List.length_map] at hi
      rw [List.getElem?_map, List.getElem?_eq_getElem hi] at hxi
      cases Option.some.inj hxi
      have hq := (hP.2 _ (List.getElem_mem hi)).same sm
      walk_at "rd"
      refine Rd.tupT (.of hq.1) rfl ?_
      walk_at "rd"
      refine ⟨rfl, ?_⟩
      walk_at "rd"
      have up : ∀ {i : Int} {k : Nat}, i.natAbs ≤ 999 → 10 ≤ k → i.natAbs < 2 ^ k := fun h l => Nat.lt_of_le_of_lt h (Nat.lt_of_lt_of_le (by decide : 999 < 2 ^ 10) (Nat.pow_le_pow_right (by decide) l))
      refine mkR rfl hq.2.2.2 (up hq.2.2.1 (by decide)) fun b G1 hb s2 => ?_
      refine Rd.lcPush (s2 _ _ hD) nD (sm.trans s2) (by rw [rfs_len, xl]; omega) fun G2 g2 off2 => ?_
      have zv : Sz 20 (val qs[i]) := Sz.divInt hq.2.2.2 (up (by have := hq.2.1; omega) (by decide)) (up hq.2.2.1 (by decide))
      have rn : ∀ {y : Itm}, Good T.C_Ratio G1 y → Good T.C_Ratio G2 y := fun h => h.off (s2 _ _ hD) off2
      refine ⟨xs ++ [(b, val qs[i], 1)], by simp [rfs], by rw [List.length_append, xl]; rfl, fun y m => ?_, ?_, ?_, fun y m => ?_⟩
      · rcases List.mem_append.mp m with m | m
        · exact rn ((hx y m).same s2)
        · rw [List.mem_singleton.mp m]
          exact rn ⟨hb, Nat.le_refl 1, zv⟩
      · unfold wts at xw ⊢
        rw [List.map_append, List.sum_append, xw]
        rfl
      · unfold vls at xv ⊢
        rw [List.map_append, xv, ← List.take_append_getElem hi, List.map_append]
        rfl
      · rcases List.mem_append.mp m with m | m
        · exact x1 y m
        · rw [List.mem_singleton.mp m]
    rintro row _ H4 nrow grow s4 ⟨xs, rfl, xl, hx, xw, xv, w1⟩
    rw [List.length_map] at xl xw xv
    rw [List.take_length] at xv
    have hR : Row T.C_Ratio H4 row xs := ⟨grow, hx⟩
    replace hP := hP.same s4
    replace hT3 := hT3.same s4
    clear grow hx s4 nrow
    walk_at "rd"
    refine ⟨Nat.le_of_ble_eq_true rfl, Rd.new fun u0 H5 nu gu s5 => ?_⟩
    walk_at "rd"
    refine ⟨Nat.le_of_ble_eq_true rfl, Rd.new fun p0 H6 np gp s6 => ?_⟩
    replace hP := (hP.same s5).same s6
    replace hR := (hR.same s5).same s6
    replace hT3 := (hT3.same s5).same s6
    have gu := s6 _ _ gu
    clear s5 s6 nu np
    walk_at "rd"
    refine Rd.forS ?_
    walk_at "rd"
    refine ⟨⟨_, .of hP.1⟩, ?_⟩
    refine for_list (xs := qs.map fun q => V.ref q.1) (fun i σ G => ∃ (o3 o4 : Option V) (u p : Addr) (x0 x1 y0 y1 : Int), σ = [some (.ref a), some (.ref t), some (.ref pl), o3, o4, some (.ref row), some (.ref u), some (.ref p), none, none, none, none, none, none] ∧ G u = some (.tup [.int x0, .int x1]) ∧ G p = some (.tup [.int y0, .int y1]) ∧
      x1 ≠ 0 ∧ y1 ≠ 0 ∧ Rat.divInt x0 x1 = tot true ((qs.take i).map val) ∧ Rat.divInt y0 y1 = tot false ((qs.take i).map val) ∧ x0.natAbs < 2 ^ (20 * (i + 1)) ∧ x1.natAbs < 2 ^ (20 * (i + 1)) ∧ y0.natAbs < 2 ^ (20 * (i + 1)) ∧ y1.natAbs < 2 ^ (20 * (i + 1)) ∧ Same H6 G)
      ⟨_, _, u0, p0, 0, 1, 1, 1, rfl, gu, gp, by decide, by decide, Rat.zero_divInt 1, rfl, by decide, by decide, by decide, by decide, Same.refl _⟩ (fun _ _ _ _ ⟨_, _, _, _, _, _, _, _, _, _, _, _, _, _, _, _, _, _, _, s⟩ => .of (s _ _ hP.1)) ?_ ?_
    · clear gu gp
      rintro i x _ G hxi ⟨o3, o4, u, p, x0, x1, y0, y1, rfl, gu, gp, x1n, y1n, ex, ey, zx0, zx1, zy0, zy1, sG⟩
      have hi : i < qs.length := by
        have := (List.getElem?_eq_some_iff.mp hxi).1
        rwa [List.length_map] at this
      rw [List.getElem?_map, List.getElem?_eq_getElem hi] at hxi
      cases Option.some.inj hxi
      have hq := (hP.2 _ (List.getElem_mem hi)).same sG
      have up : ∀ {i : Int} {k : Nat}, i.natAbs ≤ 999 → 10 ≤ k → i.natAbs < 2 ^ k := fun h l => Nat.lt_of_le_of_lt h (Nat.lt_of_lt_of_le (by decide : 999 < 2 ^ 10) (Nat.pow_le_pow_right (by decide) l))
      have za : qs[i].2.1.natAbs < 2 ^ 10 := up (by have := hq.2.1; omega) (by decide)
      have zb : qs[i].2.2.natAbs < 2 ^ 10 := up hq.2.2.1 (by decide)
      have b0 := hq.2.2.2
      have i12 : i < 12 := by omega
      walk_at "rd"
      refine Rd.tupT (.of hq.1) rfl ?_
      have w : ∀ {j : Int}, j.natAbs < 2 ^ (20 * (i + 1)) → j.natAbs < 2 ^ 300 := fun h => up2 h (by omega)
      walk_at "rd"
      refine Rd.ixT (.of gu) (atI_nat (j := 0) rfl) ?_
      walk_at "rd"
      refine Rd.iC (wide_mul (w zx0) zb (by decide) (by decide) (by decide)) ?_
      walk_at "rd"
      refine Rd.ixT (.of gu) (atI_nat (j := 1) rfl) ?_
      walk_at "rd"
      refine Rd.iC (wide_mul za (w zx1) (by decide) (by decide) (by decide)) ?_
      walk_at "rd"
      refine Rd.ixT (.of gu) (atI_nat (j := 1) rfl) ?_
      walk_at "rd"
      refine Rd.iC (wide_mul (w zx1) zb (by decide) (by decide) (by decide)) ?_
      walk_at "rd"
      refine ⟨Nat.le_of_ble_eq_true rfl, Rd.new fun u2 G1 nu2 gu2 t1 => ?_⟩
      walk_at "rd"
      refine Rd.ixT (.of (t1 _ _ gp)) (atI_nat (j := 0) rfl) ?_
      walk_at "rd"
      refine Rd.iC (wide_mul (w zy0) za (by decide) (by decide) (by decide)) ?_
      walk_at "rd"
      refine Rd.ixT (.of (t1 _ _ gp)) (atI_nat (j := 1) rfl) ?_
      walk_at "rd"
      refine Rd.iC (wide_mul (w zy1) zb (by decide) (by decide) (by decide)) ?_
      walk_at "rd"
      refine ⟨Nat.le_of_ble_eq_true rfl, Rd.new fun p2 G2 np2 gp2 t2 => ?_⟩
      walk_at "rd"
      have z1 := Mx.mul_lt zx0 zb
      have z2 := Mx.mul_lt za zx1
      refine ⟨_, _, u2, p2, _, _, _, _, rfl, t2 _ _ gu2, gp2, Int.mul_ne_zero x1n b0, Int.mul_ne_zero y1n b0, ?_, ?_, ?_, up2 (Mx.mul_lt zx1 zb) (by omega), up2 (Mx.mul_lt zy0 za) (by omega), up2 (Mx.mul_lt zy1 zb) (by omega), sG.trans (t1.trans t2)⟩
      · rw [← List.take_append_getElem hi, List.map_append, show [qs[i]].map val = [val qs[i]] from rfl, tot_snoc, ← ex]
        exact (Rat.divInt_add_divInt _ _ x1n b0).symm
      · rw [← List.take_append_getElem hi, List.map_append, show [qs[i]].map val = [val qs[i]] from rfl, tot_snoc, ← ey]
        exact (Rat.divInt_mul_divInt _ _).symm
      · exact up2 (Mx.add_lt (a := 20 * (i + 1) + 10) z1 (up2 z2 (by omega))) (by omega)
    clear gu gp
    rintro _ H7 ⟨o3, o4, u, p, x0, x1, y0, y1, rfl, gu, gp, x1n, y1n, ex, ey, zx0, zx1, zy0, zy1, s7⟩
    rw [List.length_map] at ex ey zx0 zx1 zy0 zy1
    rw [List.take_length, ← xv] at ex ey
    have w : ∀ {j : Int}, j.natAbs < 2 ^ (20 * (qs.length + 1)) → j.natAbs < 2 ^ 1000 := fun h => up2 h (by omega)
    replace zx0 := w zx0
    replace zx1 := w zx1
    replace zy0 := w zy0
    replace zy1 := w zy1
    replace hP := hP.same s7
    replace hR := hR.same s7
    replace hT3 := hT3.same s7
    clear w s7
    have ut : u ≠ t := by
      obtain ⟨ns, x, y, z, u, _, g, _⟩ := hT3
      exact ne_of gu g fun e => nomatch e
    have pt : p ≠ t := by
      obtain ⟨ns, x, y, z, u, _, g, _⟩ := hT3
      exact ne_of gp g fun e => nomatch e
    walk_at "rd"
    refine ⟨t, c, row, true, xs, rfl, hT3, hR, by omega, by omega, by omega, fun b H8 hb zb hT8 b8 => ?_⟩
    replace hP := hP.tape hT3 b8
    replace hR := hR.tape hT3 b8
    replace gu := b8 _ _ ut gu
    replace gp := b8 _ _ pt gp
    clear b8 hT3
    walk_at "rd"
    refine Rd.ixT (.of gu) (atI_nat (j := 0) rfl) ?_
    walk_at "rd"
    refine Rd.ixT (.of gu) (atI_nat (j := 1) rfl) ?_
    walk_at "rd"
    refine ⟨b, _, x0, x1, rfl, hb, zb, x1n, ex.symm, zx0, zx1, ?_⟩
    clear gu ex zx0 zx1 x1n ut
    walk_at "rd"
    refine ⟨t, c, row, true, xs, rfl, hT8, hR, by omega, by omega, by omega, fun b2 H9 hb2 _ hT9 b9 => ?_⟩
    replace hP := hP.tape hT8 b9
    replace hR := hR.tape hT8 b9
    replace hb := hb.tape hT8 b9
    replace gp := b9 _ _ pt gp
    clear b9 hT8
    walk_at "rd"
    refine one hb2 hb ?_
    rw [decide_eq_true rfl]
    walk_at "rd"
    refine sumRow hR (by omega) (by omega) fun p2 HA hp2 sA => ?_
    replace hP := hP.same sA
    replace hR := hR.same sA
    replace hb := hb.same sA
    replace hT9 := hT9.same sA
    replace gp := sA _ _ gp
    walk_at "rd"
    refine one hp2 hb ?_
    rw [decide_eq_true rfl]
    clear hb2 hp2 sA
    walk_at "rd"
    refine ⟨t, c, row, false, xs, rfl, hT9, hR, by omega, by omega, by omega, fun m HB hm zm hTB bB => ?_⟩
    replace hP := hP.tape hT9 bB
    replace hR := hR.tape hT9 bB
    replace hb := hb.tape hT9 bB
    replace gp := bB _ _ pt gp
    clear bB hT9
    walk_at "rd"
    refine Rd.ixT (.of gp) (atI_nat (j := 0) rfl) ?_
    walk_at "rd"
    refine Rd.ixT (.of gp) (atI_nat (j := 1) rfl) ?_
    walk_at "rd"
    refine ⟨m, _, y0, y1, rfl, hm, zm, y1n, ey.symm, zy0, zy1, ?_⟩
    clear gp ey zy0 zy1 y1n pt
    walk_at "rd"
    refine ⟨t, c, row, false, xs, rfl, hTB, hR, by omega, by omega, by omega, fun m2 HC hm2 _ hTC bC => ?_⟩
    replace hP := hP.tape hTB bC
    replace hR := hR.tape hTB bC
    replace hb := hb.tape hTB bC
    replace hm := hm.tape hTB bC
    clear bC hTB
    walk_at "rd"
    refine one hm2 hm ?_
    rw [decide_eq_true rfl]
    clear hm2 hm zm
    walk_at "rd"
    refine Rd.len (.inl (.of hR.1)) ?_
    rw [rfs_len]
    walk_at "rd"
    refine ⟨t, c, _, rfl, hTC, by omega, by omega, fun r HD r0 r1 hTD bD => ?_⟩
    obtain ⟨x, rfl⟩ : ∃ a : Nat, r = (a : Int) := ⟨r.toNat, by omega⟩
    have xl2 : x < xs.length := by omega
    replace hP := hP.tape hTC bD
    replace hR := hR.tape hTC bD
    replace hb := hb.tape hTC bD
    refine Rd.ixL (.of hR.1) (Rd.atI_of r0 (rfs_at (List.getElem?_eq_getElem xl2))) ?_
    have hf := hR.2 _ (List.getElem_mem xl2)
    have f1 := w1 _ (List.getElem_mem xl2)
    generalize xs[x] = f at hf f1
    have zf := hf.2.2
    rw [f1] at zf
    have zf4 : Sz 4000 f.2.1 := zf.mono (by decide)
    have zb4 : Sz 4000 (tot true (vls xs)) := zb.mono (by decide)
    have hT := hTD
    clear bD hTC hTD r0 r1
    walk_at "rd"
    obtain ⟨df, ef⟩ := id hf.1
    obtain ⟨db, eb⟩ := id hb
    refine Rr.oo ef eb ⟨_, _, _, _, rfl, hf.1, hb.num, zf4, zb4, fun q HE hq sE => ?_⟩
    replace hP := hP.same sE
    replace hR := hR.same sE
    replace hb := hb.same sE
    replace hf := hf.same sE
    replace hT := hT.same sE
    clear ef eb sE
    walk_at "rd"
    refine ⟨⟨_, .of hR.1⟩, ?_⟩
    refine Rd.lcS (n := (rfs xs).length) walk_list (fun _ s => .of (s _ _ hR.1)) (fun D i acc G => ∃ ys : List Itm, acc = rfs ys ∧ ys.length = i ∧ (∀ x ∈ ys, Good T.C_Ratio G x) ∧ wts ys = 2 * i ∧ vls ys = (vls (xs.take i)).map (fun x => f.2.1 * x)) (fun _ _ _ _ _ => ⟨[], rfl, rfl, fun _ m => by simp at m, rfl, rfl⟩) ?_ ?_
    · rintro D i x G G' acc nD hi hD sm ⟨ys, rfl, yl, hy, yw, yv⟩ ⟨eG, hxi⟩
      cases eG
      obtain ⟨l, rfl⟩ := rfs_get hxi
      have g := (hR.2 _ (List.getElem_mem l)).same sm
      have g1 := w1 _ (List.getElem_mem l)
      obtain ⟨dx, ex1⟩ := id g.1
      have hf := hf.same sm
      obtain ⟨df, ef⟩ := id hf.1
      have zg := g.2.2
      rw [g1] at zg
      walk_at "rd"
      refine ⟨rfl, ?_⟩
      walk_at "rd"
      refine Rr.oo ef ex1 ⟨_, _, _, _, rfl, hf.1, g.1.num, zf4, zg.mono (by decide), fun q2 G2 hq2 s2 => ?_⟩
      refine Rd.lcPush (s2 _ _ hD) nD (sm.trans s2) (by rw [rfs_len, yl]; omega) fun G3 g3 off3 => ?_
      have rn : ∀ {y : Itm}, Good T.C_Ratio G2 y → Good T.C_Ratio G3 y := fun h => h.off (s2 _ _ hD) off3
      refine ⟨ys ++ [(q2, f.2.1 * xs[i].2.1, 2)], by simp [rfs], by rw [List.length_append, yl]; rfl, fun y m => ?_, ?_, ?_⟩
      · rcases List.mem_append.mp m with m | m
        · exact rn ((hy y m).same s2)
        · rw [List.mem_singleton.mp m]
          exact rn ⟨hq2, Nat.le_of_ble_eq_true rfl, (Sz.mul zf zg).mono (Nat.le_of_ble_eq_true rfl)⟩
      · unfold wts at yw ⊢
        rw [List.map_append, List.sum_append, yw]
        show 2 * i + 2 = 2 * (i + 1)
        omega
      · rw [vls_snoc xs l, List.map_append, ← yv]
        unfold vls
        rw [List.map_append]
        rfl
    rintro D _ G3 nD gD s3 ⟨ys, rfl, yl, hy, yw, yv⟩
    rw [rfs_len] at yl yw yv
    rw [List.take_length] at yv
    replace hP := hP.same s3
    replace hR := hR.same s3
    replace hb := hb.same s3
    replace hf := hf.same s3
    replace hq := hq.same s3
    replace hT := hT.same s3
    walk_at "rd"
    refine ⟨t, c, D, true, ys, rfl, hT, ⟨gD, hy⟩, by omega, by omega, by omega, fun b3 G4 hb3 _ hT4 b4 => ?_⟩
    replace hP := hP.tape hT b4
    replace hR := hR.tape hT b4
    replace hb := hb.tape hT b4
    replace hf := hf.tape hT b4
    replace hq := hq.tape hT b4
    replace hT := hT4
    walk_at "rd"
    refine one hq hb3 ?_
    rw [yv, tot_mulL, decide_eq_true rfl]
    clear hq hb3 hT4 b4 gD hy yv s3 nD yl yw
    walk_at "rd"
    obtain ⟨df, ef⟩ := id hf.1
    obtain ⟨db, eb⟩ := id hb
    refine Rr.oo eb ef ⟨_, _, _, _, rfl, hb, hf.1.num, zb4, zf4, fun q HE hq sE => ?_⟩
    replace hP := hP.same sE
    replace hR := hR.same sE
    replace hb := hb.same sE
    replace hf := hf.same sE
    replace hT := hT.same sE
    clear ef eb sE
    walk_at "rd"
    refine ⟨⟨_, .of hR.1⟩, ?_⟩
    refine Rd.lcS (n := (rfs xs).length) walk_list (fun _ s => .of (s _ _ hR.1)) (fun D i acc G => ∃ ys : List Itm, acc = rfs ys ∧ ys.length = i ∧ (∀ x ∈ ys, Good T.C_Ratio G x) ∧ wts ys = 2 * i ∧ vls ys = (vls (xs.take i)).map (fun x => x * f.2.1)) (fun _ _ _ _ _ => ⟨[], rfl, rfl, fun _ m => by simp at m, rfl, rfl⟩) ?_ ?_
    · rintro D i x G G' acc nD hi hD sm ⟨ys, rfl, yl, hy, yw, yv⟩ ⟨eG, hxi⟩
      cases eG
      obtain ⟨l, rfl⟩ := rfs_get hxi
      have g := (hR.2 _ (List.getElem_mem l)).same sm
      have g1 := w1 _ (List.getElem_mem l)
      obtain ⟨dx, ex1⟩ := id g.1
      have hf := hf.same sm
      obtain ⟨df, ef⟩ := id hf.1
      have zg := g.2.2
      rw [g1] at zg
      walk_at "rd"
      refine ⟨rfl, ?_⟩
      walk_at "rd"
      refine Rr.oo ex1 ef ⟨_, _, _, _, rfl, g.1, hf.1.num, zg.mono (by decide), zf4, fun q2 G2 hq2 s2 => ?_⟩
      refine Rd.lcPush (s2 _ _ hD) nD (sm.trans s2) (by rw [rfs_len, yl]; omega) fun G3 g3 off3 => ?_
      have rn : ∀ {y : Itm}, Good T.C_Ratio G2 y → Good T.C_Ratio G3 y := fun h => h.off (s2 _ _ hD) off3
      refine ⟨ys ++ [(q2, xs[i].2.1 * f.2.1, 2)], by simp [rfs], by rw [List.length_append, yl]; rfl, fun y m => ?_, ?_, ?_⟩
      · rcases List.mem_append.mp m with m | m
        · exact rn ((hy y m).same s2)
        · rw [List.mem_singleton.mp m]
          exact rn ⟨hq2, Nat.le_of_ble_eq_true rfl, (Sz.mul zg zf).mono (Nat.le_of_ble_eq_true rfl)⟩
      · unfold wts at yw ⊢
        rw [List.map_append, List.sum_append, yw]
        show 2 * i + 2 = 2 * (i + 1)
        omega
      · rw [vls_snoc xs l, List.map_append, ← yv]
        unfold vls
        rw [List.map_append]
        rfl
    rintro D _ G3 nD gD s3 ⟨ys, rfl, yl, hy, yw, yv⟩
    rw [rfs_len] at yl yw yv
    rw [List.take_length] at yv
    replace hP := hP.same s3
    replace hR := hR.same s3
    replace hb := hb.same s3
    replace hf := hf.same s3
    replace hq := hq.same s3
    replace hT := hT.same s3
    walk_at "rd"
    refine ⟨t, c, D, true, ys, rfl, hT, ⟨gD, hy⟩, by omega, by omega, by omega, fun b3 G4 hb3 _ hT4 b4 => ?_⟩
    replace hP := hP.tape hT b4
    replace hR := hR.tape hT b4
    replace hb := hb.tape hT b4
    replace hf := hf.tape hT b4
    replace hq := hq.tape hT b4
    replace hT := hT4
    walk_at "rd"
    refine one hq hb3 ?_
    rw [yv, tot_mulR, decide_eq_true rfl]
    clear hq hb3 hT4 b4 gD hy yv s3 nD yl yw
    walk_at "rd"
    refine Rd.forS ?_
    walk_at "rd"
    refine ⟨⟨_, .of hR.1⟩, ?_⟩
    refine for_list (xs := rfs xs) (fun _ σ G => (∃ o11 : Option V, σ = [some (.ref a), some (.ref t), some (.ref pl), o3, o4, some (.ref row), some (.ref u), some (.ref p), some (.ref b), some (.ref m), some (.ref f.1), o11, none, none]) ∧ Same G4 G) ⟨⟨_, rfl⟩, Same.refl _⟩ (fun _ _ _ _ e => .of (e.2 _ _ hR.1)) ?_ ?_
    · rintro i x _ G hx ⟨⟨o11, rfl⟩, sG⟩
      obtain ⟨l, rfl⟩ := rfs_get hx
      have g := ((hR.2 _ (List.getElem_mem l)).same sG).1
      have zg := (hR.2 _ (List.getElem_mem l)).2.2
      rw [w1 _ (List.getElem_mem l)] at zg
      replace hb := hb.same sG
      have hf := (hf.same sG).1
      have zg4 : Sz 4000 xs[i].2.1 := zg.mono (by decide)
      clear hR hP hT hx
      generalize xs[i] = x at g zg zg4
      walk_at "rd"
      obtain ⟨db, eb⟩ := id hb
      obtain ⟨dg, eg⟩ := id g
      refine Rr.oo eb eg ⟨_, _, _, _, rfl, hb, g.num, zb4, zg4, fun q1 G1 hq1 t1 => ?_⟩
      obtain ⟨d1, e1⟩ := id hq1
      walk_at "rd"
      refine Rr.oo e1 (t1 _ _ eg) ⟨_, _, _, _, rfl, hq1, (g.same t1).num, (Sz.add zb zg).mono (by decide), zg4, fun q2 G2 hq2 t2 => ?_⟩
      walk_at "rd"
      have u2 := t1.trans t2
      refine one hq2 (hb.same u2) ?_
      rw [decide_eq_true (add_sub1 (tot true (vls xs)) x.2.1)]
      walk_at "rd"
      refine Rr.oo (u2 _ _ eb) (u2 _ _ eg) ⟨_, _, _, _, rfl, hb.same u2, (g.same u2).num, zb4, zg4, fun q3 G3 hq3 t3 => ?_⟩
      have u3 := u2.trans t3
      obtain ⟨d3, e3⟩ := id hq3
      walk_at "rd"
      refine Rr.oo e3 (u3 _ _ eg) ⟨_, _, _, _, rfl, hq3, (g.same u3).num, (Sz.sub zb zg).mono (by decide), zg4, fun q4 G4 hq4 t4 => ?_⟩
      have u4 := u3.trans t4
      walk_at "rd"
      refine one hq4 (hb.same u4) ?_
      rw [decide_eq_true (sub_add1 (tot true (vls xs)) x.2.1)]
      walk_at "rd"
      refine Rr.oo (u4 _ _ eb) (u4 _ _ eb) ⟨_, _, _, _, rfl, hb.same u4, (hb.same u4).num, zb4, zb4, fun q5 G5 hq5 t5 => ?_⟩
      have u5 := u4.trans t5
      walk_at "rd"
      refine roxI hq5 ?_
      rw [decide_eq_true (show tot true (vls xs) - tot true (vls xs) = ((0 : Int) : Rat) from sub_self1 _)]
      replace hb := hb.same u5
      replace g := g.same u5
      replace hf := hf.same u5
      replace sG := sG.trans u5
      clear hq1 hq2 hq3 hq4 hq5 t1 t2 t3 t4 t5 u2 u3 u4 u5 e1 e3 eb eg
      walk_at "rd"
      refine Rd.cut (fun σ G => σ = [some (.ref a), some (.ref t), some (.ref pl), o3, o4, some (.ref row), some (.ref u), some (.ref p), some (.ref b), some (.ref m), some (.ref f.1), some (.ref x.1), none, none] ∧ Same G5 G) ?_ ?_
      · walk_at "rd"
        refine roxI g ?_
        by_cases v0 : x.2.1 = 0
        · rw [decide_eq_true (show x.2.1 = ((0 : Int) : Rat) from v0)]
          walk_at "rd"
          exact ⟨rfl, Same.refl _⟩
        · rw [decide_eq_false (show ¬ x.2.1 = ((0 : Int) : Rat) from v0)]
          obtain ⟨db, eb⟩ := id hb
          obtain ⟨dg, eg⟩ := id g
          walk_at "rd"
          refine Rr.oo eb eg ⟨_, _, _, _, rfl, hb, g.num, zb4, zg4, fun q1 G1 hq1 t1 => ?_⟩
          obtain ⟨d1, e1⟩ := id hq1
          walk_at "rd"
          refine Rd.meth e1 rfl ?_
          walk_at "rd"
          refine ⟨q1, _, _, rfl, hq1, .inl ⟨x.2.1, (g.same t1).num, v0, (Sz.mul zb zg).mono (by decide), zg4, fun q2 G2 hq2 t2 => ?_⟩⟩
          walk_at "rd"
          refine one hq2 (hb.same (t1.trans t2)) ?_
          rw [decide_eq_true (mul_div1 (tot true (vls xs)) x.2.1 v0)]
          walk_at "rd"
          exact ⟨rfl, t1.trans t2⟩
      rintro _ G6 ⟨rfl, s6⟩
      replace hb := hb.same s6
      replace g := g.same s6
      replace hf := hf.same s6
      replace sG := sG.trans s6
      clear s6
      obtain ⟨db, eb⟩ := id hb
      obtain ⟨dg, eg⟩ := id g
      obtain ⟨df, ef⟩ := id hf
      walk_at "rd"
      refine Rd.meth eg rfl ?_
      walk_at "rd"
      refine ⟨_, _, _, rfl, g, .inl ⟨_, hb.num, zg4, zb4, fun G7 t7 => ?_⟩⟩
      walk_at "rd"
      refine Rd.meth (t7 _ _ eb) rfl ?_
      walk_at "rd"
      refine ⟨_, _, _, rfl, hb.same t7, .inl ⟨_, (g.same t7).num, zb4, zg4, fun G8 t8 => ?_⟩⟩
      have u8 := t7.trans t8
      walk_at "rd"
      refine oeq (g.same u8) (hb.same u8) ?_
      walk_at "rd"
      refine ⟨Nat.le_of_ble_eq_true rfl, Rd.new fun L G9 nL gL t9 => ?_⟩
      have u9 := u8.trans t9
      walk_at "rd"
      refine Rd.tyL (.of gL) ?_
      walk_at "rd"
      refine ⟨L, [_, _, _], true, rfl, rfl, .of gL, ?_⟩
      rw [three]
      walk_at "rd"
      refine Rd.yes rfl ?_
      clear gL nL
      walk_at "rd"
      refine Rr.oo (u9 _ _ eg) (u9 _ _ ef) ⟨_, _, _, _, rfl, g.same u9, (hf.same u9).num, zg4, zf4, fun q1 GA hq1 tA => ?_⟩
      have uA := u9.trans tA
      obtain ⟨d1, e1⟩ := id hq1
      walk_at "rd"
      refine Rd.meth e1 rfl ?_
      walk_at "rd"
      refine Rr.oo (uA _ _ eb) (uA _ _ ef) ⟨_, _, _, _, rfl, hb.same uA, (hf.same uA).num, zb4, zf4, fun q2 GB hq2 tB => ?_⟩
      have uB := uA.trans tB
      walk_at "rd"
      refine ⟨q1, _, _, rfl, hq1.same tB, .inl ⟨_, hq2.num, (Sz.add zg zf).mono (by decide), (Sz.add zb zf).mono (by decide), fun GC tC => ?_⟩⟩
      have uC := uB.trans tC
      walk_at "rd"
      refine Rd.meth (uC _ _ eg) rfl ?_
      walk_at "rd"
      refine ⟨_, _, _, rfl, g.same uC, .inl ⟨_, (hb.same uC).num, zg4, zb4, fun GD tD => ?_⟩⟩
      walk_at "rd"
      rw [show decide (x.2.1 + f.2.1 < tot true (vls xs) + f.2.1) = decide (x.2.1 < tot true (vls xs)) from add_lt1 _ _ _, bne_self_eq_false]
      walk_at "rd"
      exact ⟨⟨_, rfl⟩, sG.trans (uC.trans tD)⟩
    rintro _ HZ ⟨⟨o11, rfl⟩, sZ⟩
    replace hP := hP.same sZ
    replace hR := hR.same sZ
    clear hT hf hb sZ
    walk_at "rd"
    refine Rd.forS ?_
    walk_at "rd"
    refine Rd.len (.inl (.of hR.1)) ?_
    rw [rfs_len]
    walk_at "rd"
    refine ⟨by omega, by omega, ?_⟩
    refine for_range (lo := 0) (n := xs.length) (fun _ σ G => (∃ o12 : Option V, σ = [some (.ref a), some (.ref t), some (.ref pl), o3, o4, some (.ref row), some (.ref u), some (.ref p), some (.ref b), some (.ref m), some (.ref f.1), o11, o12, none]) ∧ G = HZ) ⟨⟨_, rfl⟩, rfl⟩ ?_ ?_
    · rintro i _ _ hi ⟨⟨o12, rfl⟩, rfl⟩
      have il : i < qs.length := by omega
      have hg := hR.2 _ (List.getElem_mem hi)
      have hq := hP.2 _ (List.getElem_mem il)
      have zg := hg.2.2
      rw [w1 _ (List.getElem_mem hi)] at zg
      have e : xs[i].2.1 = val qs[i] := by
        have h1 : (vls xs)[i]? = some xs[i].2.1 := by
          unfold vls
          rw [List.getElem?_map, List.getElem?_eq_getElem hi]
          rfl
        rw [xv, List.getElem?_map, List.getElem?_eq_getElem il] at h1
        exact (Option.some.inj h1).symm
      have ti : (0 + (i : Int)).toNat = i := by omega
      have up : ∀ {i : Int} {k : Nat}, i.natAbs ≤ 999 → 10 ≤ k → i.natAbs < 2 ^ k := fun h l => Nat.lt_of_le_of_lt h (Nat.lt_of_lt_of_le (by decide : 999 < 2 ^ 10) (Nat.pow_le_pow_right (by decide) l))
      walk_at "rd"
      refine Rd.ixL (.of hR.1) (Rd.atI_of (by omega) (by rw [ti]; unfold rfs; rw [List.getElem?_map, List.getElem?_eq_getElem hi]; rfl)) ?_
      walk_at "rd"
      refine Rd.ixL (.of hP.1) (Rd.atI_of (by omega) (by rw [ti, List.getElem?_map, List.getElem?_eq_getElem il]; rfl)) ?_
      walk_at "rd"
      refine Rd.ixT (.of hq.1) (atI_nat (j := 0) rfl) ?_
      walk_at "rd"
      refine Rd.ixL (.of hP.1) (Rd.atI_of (by omega) (by rw [ti, List.getElem?_map, List.getElem?_eq_getElem il]; rfl)) ?_
      walk_at "rd"
      refine Rd.ixT (.of hq.1) (atI_nat (j := 1) rfl) ?_
      walk_at "rd"
      refine ⟨_, _, _, _, rfl, hg.1, zg.mono (by decide), hq.2.2.2, e, up (by have := hq.2.1; omega) (by decide), up hq.2.2.1 (by decide), ?_⟩
      walk_at "rd"
      exact ⟨⟨_, rfl⟩, rfl⟩
    rintro _ _ ⟨⟨o12, rfl⟩, rfl⟩
    walk_at "rd"
    exact k _

end
end W

namespace W
open PySem PySem.Spec PyProof.Rows L2
theorem all_mk {l : PySem.W.OpenLaw} {w : World} {K : PySem.W.Frag} {h : Heap} {mg : Str → Option Value} {fa : Addr} (X : K.In h) (G : h.Ns mainGlobals mg) (hfa : mg "law" = some (.ref fa))
    {f1 f2 f3 f4 f5 f6 f7 f8 f9 f10 f11 f12 f13 f14 f15 f16 f17 f18 f19 f20 f21 C0 : Addr} {od1 an1 od2 an2 od3 an3 od4 an4 od5 an5 od6 an6 od7 an7 od8 an8 od9 an9 od10 an10 od11 an11 od12 an12 od13 an13 od14 an14 od15 an15 od16 an16 od17 an17 od18 an18 od19 an19 od20 an20 od21 an21 : Option Addr} {sl1 sl2 sl3 sl4 sl5 sl6 sl7 sl8 sl9 sl10 sl11 sl12 sl13 sl14 sl15 sl16 sl17 sl18 sl19 sl20 sl21 : Array (Option Value)} {oc1 kV1 dc1 pm1 cd1 ct1 oc2 kV2 dc2 pm2 cd2 ct2 oc3 kV3 dc3 pm3 cd3 ct3 oc4 kV4 dc4 pm4 cd4 ct4 oc5 kV5 dc5 pm5 cd5 ct5 oc6 kV6 dc6 pm6 cd6 ct6 oc7 kV7 dc7 pm7 cd7 ct7 oc8 kV8 dc8 pm8 cd8 ct8 oc9 kV9 dc9 pm9 cd9 ct9 oc10 kV10 dc10 pm10 cd10 ct10 oc11 kV11 dc11 pm11 cd11 ct11 oc12 kV12 dc12 pm12 cd12 ct12 oc13 kV13 dc13 pm13 cd13 ct13 oc14 kV14 dc14 pm14 cd14 ct14 oc15 kV15 dc15 pm15 cd15 ct15 oc16 kV16 dc16 pm16 cd16 ct16 oc17 kV17 dc17 pm17 cd17 ct17 oc18 kV18 dc18 pm18 cd18 ct18 oc19 kV19 dc19 pm19 cd19 ct19 oc20 kV20 dc20 pm20 cd20 ct20 oc21 kV21 dc21 pm21 cd21 ct21 : Value}
    (u0 : PySem.W.nsIn K mainGlobals "Ratio" = some (some (.ref C0)))
    (pg0 : PySem.W.plainGet K C0 Str.empty = true) (hd0 : PySem.W.hasDictIn K C0 = true) (po0 : PySem.W.plainOver K C0 = true) (sa0 : PySem.W.findIn K (.ref C0) "__setattr__" = some (some (.builtin "object.__setattr__")))
    (wc0 : PySem.W.findIn K (.ref C0) "__class__" = some (some (.builtin "object.__class__"))) (wm0 : PySem.W.mroIn K C0 (.type "object") = some true)
    (wn0 : PySem.W.specialIn K (.builtin "object.__class__") "__get__" = some (some (.builtin "getset_descriptor.__get__"))) (wt0 : PySem.W.takesIn K (.builtin "object.__class__") = some true)
    (na0_0 : PySem.W.findIn K (.ref C0) "top" = some none)
    (na0_1 : PySem.W.findIn K (.ref C0) "bottom" = some none)
    (fx0_0 : PySem.W.mroIn K C0 (.type "int") = some false)
    (fx0_1 : PySem.W.mroIn K C0 (.type "bool") = some false)
    (fx0_2 : PySem.W.isClsIn K C0 = true)
    (fx0_3 : PySem.W.typeIn K (.ref C0) = some (.type "type"))
    (fx0_4 : PySem.W.subIn K (.ref C0) (.ref C0) = some true)
    (fx0_5 : PySem.W.findIn K (.ref C0) "__ne__" = some (some (.builtin "object.__ne__")))
    (fx0_6 : PySem.W.selfFirst K C0 = true)
    {dT tN : Nat} {tC : Value} {tD : Option Addr} {tS : Array (Option Value)} (lT : K.lookup dT = some ⟨tC, tD, .seq [Value.none].toArray tN, tS⟩) (tI : PySem.W.typeIn K (.ref f1) = some (.type "function"))
    (xn : PySem.W.specialIn K (.builtin "object.__class__") "__get__" = some (some (.builtin "getset_descriptor.__get__"))) (xo : PySem.W.takesIn K (.builtin "object.__class__") = some true)
    {E0 : Addr} {xnm0 xq0 : Str} {xN0 : Addr} {xbs0 xbm0 xsub0 : List Value} {xsn0 : List Str} {xab0 : Bool} {xcol0 : Option Bool} {xdd0 : Option Addr} {xk0_0 xk1_0 xk2_0 xk3_0 xk5_0 : Option Value}
    (ue0 : PySem.W.nsIn K mainGlobals "BadNumber" = some (some (.ref E0)))
    (xl0 : K.lookup E0 = some (excClassObj xnm0 xq0 E0 xN0 xbs0 xbm0 true xsn0 xsub0 xab0 xcol0 xdd0 xk0_0 xk1_0 xk2_0 xk3_0 xk5_0 "ValueError.__new__"))
    (rb0 : PySem.HandSPX.refsVE xbm0 = true)
    (xa0 : PySem.W.findIn K (.ref E0) "__setattr__" = some (some (.builtin "object.__setattr__")))
    (xb0 : PySem.W.subIn K (.ref E0) (.type "BaseException") = some true)
    (xc0 : PySem.W.typeIn K (.ref E0) = some (.type "type"))
    (xd0 : PySem.W.keepIn K (.ref E0) = true)
    (xe0 : PySem.W.findIn K (.ref E0) "__init__" = some (some (.ref f1)))
    (xf0 : PySem.W.findIn K (.ref E0) "value" = some none)
    (xg0 : PySem.W.findIn K (.ref E0) "__getattribute__" = some (some (.builtin "BaseException.__getattribute__")))
    (xh0 : PySem.W.findIn K (.ref E0) "__getattr__" = some none)
    (xi0 : PySem.W.hasDictIn K E0 = true)
    (xj0 : PySem.W.findIn K (.ref E0) "__class__" = some (some (.builtin "object.__class__")))
    (xm0 : PySem.W.mroIn K E0 (.type "object") = some true)
    (xp0 : PySem.W.isClsIn K E0 = true)
    (xs0 : PySem.W.subIn K (.ref E0) (.ref E0) = some true)
    (l1 : K.lookup f1 = some ⟨oc1, od1, .func (PySem.W.fnOf "__init__" "WayError.__init__" (defArgs s_WayError_init) (defBody s_WayError_init) (defScope s_WayError_init) (.ref dT) kV1 dc1 pm1 an1 cd1 ct1), sl1⟩) (c1 : PySem.W.codeIn K cd1 "WayError.__init__" = true) (k1 : PySem.W.keepIn K (.ref f1) = true)
    (a2 : PySem.W.nsIn K mainGlobals "is_integer" = some (some (.ref f2)))
    (l2 : K.lookup f2 = some ⟨oc2, od2, .func (PySem.W.fnOf "is_integer" "is_integer" (defArgs s_is_integer) (defBody s_is_integer) (defScope s_is_integer) .none kV2 dc2 pm2 an2 cd2 ct2), sl2⟩) (c2 : PySem.W.codeIn K cd2 "is_integer" = true) (k2 : PySem.W.keepIn K (.ref f2) = true)
    (a3 : PySem.W.nsIn K mainGlobals "common" = some (some (.ref f3)))
    (l3 : K.lookup f3 = some ⟨oc3, od3, .func (PySem.W.fnOf "common" "common" (defArgs s_common) (defBody s_common) (defScope s_common) .none kV3 dc3 pm3 an3 cd3 ct3), sl3⟩) (c3 : PySem.W.codeIn K cd3 "common" = true) (k3 : PySem.W.keepIn K (.ref f3) = true)
    (a4 : PySem.W.findIn K (.ref C0) "__init__" = some (some (.ref f4))) (i4 : PySem.W.isFn K (.ref f4) = true)
    (mk0 : PySem.W.makesIn K C0 = true) (kc0 : PySem.W.keepIn K (.ref C0) = true)
    {dT4 tN4 : Nat} {tC4 : Value} {tD4 : Option Addr} {tS4 : Array (Option Value)} {td4_0 : Tok}
    (l4 : K.lookup f4 = some ⟨oc4, od4, .func (PySem.W.fnOf "__init__" "Ratio.__init__" (defArgs s_Ratio_init) (defBody s_Ratio_init) (defScope s_Ratio_init) (.ref dT4) kV4 dc4 pm4 an4 cd4 ct4), sl4⟩) (c4 : PySem.W.codeIn K cd4 "Ratio.__init__" = true) (k4 : PySem.W.keepIn K (.ref f4) = true)
    (lT4 : K.lookup dT4 = some ⟨tC4, tD4, .seq ([.int 1 td4_0] : List Value).toArray tN4, tS4⟩)
    (a5 : PySem.W.nsIn K mainGlobals "is_number" = some (some (.ref f5)))
    (l5 : K.lookup f5 = some ⟨oc5, od5, .func (PySem.W.fnOf "is_number" "is_number" (defArgs s_is_number) (defBody s_is_number) (defScope s_is_number) .none kV5 dc5 pm5 an5 cd5 ct5), sl5⟩) (c5 : PySem.W.codeIn K cd5 "is_number" = true) (k5 : PySem.W.keepIn K (.ref f5) = true)
    (a6 : PySem.W.nsIn K mainGlobals "as_ratio" = some (some (.ref f6)))
    (l6 : K.lookup f6 = some ⟨oc6, od6, .func (PySem.W.fnOf "as_ratio" "as_ratio" (defArgs s_as_ratio) (defBody s_as_ratio) (defScope s_as_ratio) .none kV6 dc6 pm6 an6 cd6 ct6), sl6⟩) (c6 : PySem.W.codeIn K cd6 "as_ratio" = true) (k6 : PySem.W.keepIn K (.ref f6) = true)
    (a7 : PySem.W.findIn K (.ref C0) "__add__" = some (some (.ref f7))) (i7 : PySem.W.isFn K (.ref f7) = true)
    (l7 : K.lookup f7 = some ⟨oc7, od7, .func (PySem.W.fnOf "__add__" "Ratio.__add__" (defArgs s_Ratio_add) (defBody s_Ratio_add) (defScope s_Ratio_add) .none kV7 dc7 pm7 an7 cd7 ct7), sl7⟩) (c7 : PySem.W.codeIn K cd7 "Ratio.__add__" = true) (k7 : PySem.W.keepIn K (.ref f7) = true)
    (a8 : PySem.W.findIn K (.ref C0) "__radd__" = some (some (.ref f8))) (i8 : PySem.W.isFn K (.ref f8) = true)
    (l8 : K.lookup f8 = some ⟨oc8, od8, .func (PySem.W.fnOf "__radd__" "Ratio.__radd__" (defArgs s_Ratio_radd) (defBody s_Ratio_radd) (defScope s_Ratio_radd) .none kV8 dc8 pm8 an8 cd8 ct8), sl8⟩) (c8 : PySem.W.codeIn K cd8 "Ratio.__radd__" = true) (k8 : PySem.W.keepIn K (.ref f8) = true)
    (a9 : PySem.W.findIn K (.ref C0) "__sub__" = some (some (.ref f9))) (i9 : PySem.W.isFn K (.ref f9) = true)
    (l9 : K.lookup f9 = some ⟨oc9, od9, .func (PySem.W.fnOf "__sub__" "Ratio.__sub__" (defArgs s_Ratio_sub) (defBody s_Ratio_sub) (defScope s_Ratio_sub) .none kV9 dc9 pm9 an9 cd9 ct9), sl9⟩) (c9 : PySem.W.codeIn K cd9 "Ratio.__sub__" = true) (k9 : PySem.W.keepIn K (.ref f9) = true)
    (a10 : PySem.W.findIn K (.ref C0) "__rsub__" = some (some (.ref f10))) (i10 : PySem.W.isFn K (.ref f10) = true)
    (l10 : K.lookup f10 = some ⟨oc10, od10, .func (PySem.W.fnOf "__rsub__" "Ratio.__rsub__" (defArgs s_Ratio_rsub) (defBody s_Ratio_rsub) (defScope s_Ratio_rsub) .none kV10 dc10 pm10 an10 cd10 ct10), sl10⟩) (c10 : PySem.W.codeIn K cd10 "Ratio.__rsub__" = true) (k10 : PySem.W.keepIn K (.ref f10) = true)
    (a11 : PySem.W.findIn K (.ref C0) "__mul__" = some (some (.ref f11))) (i11 : PySem.W.isFn K (.ref f11) = true)
    (l11 : K.lookup f11 = some ⟨oc11, od11, .func (PySem.W.fnOf "__mul__" "Ratio.__mul__" (defArgs s_Ratio_mul) (defBody s_Ratio_mul) (defScope s_Ratio_mul) .none kV11 dc11 pm11 an11 cd11 ct11), sl11⟩) (c11 : PySem.W.codeIn K cd11 "Ratio.__mul__" = true) (k11 : PySem.W.keepIn K (.ref f11) = true)
    (a12 : PySem.W.findIn K (.ref C0) "__rmul__" = some (some (.ref f12))) (i12 : PySem.W.isFn K (.ref f12) = true)
    (l12 : K.lookup f12 = some ⟨oc12, od12, .func (PySem.W.fnOf "__rmul__" "Ratio.__rmul__" (defArgs s_Ratio_rmul) (defBody s_Ratio_rmul) (defScope s_Ratio_rmul) .none kV12 dc12 pm12 an12 cd12 ct12), sl12⟩) (c12 : PySem.W.codeIn K cd12 "Ratio.__rmul__" = true) (k12 : PySem.W.keepIn K (.ref f12) = true)
    (a13 : PySem.W.findIn K (.ref C0) "__eq__" = some (some (.ref f13))) (i13 : PySem.W.isFn K (.ref f13) = true)
    (l13 : K.lookup f13 = some ⟨oc13, od13, .func (PySem.W.fnOf "__eq__" "Ratio.__eq__" (defArgs s_Ratio_eq) (defBody s_Ratio_eq) (defScope s_Ratio_eq) .none kV13 dc13 pm13 an13 cd13 ct13), sl13⟩) (c13 : PySem.W.codeIn K cd13 "Ratio.__eq__" = true) (k13 : PySem.W.keepIn K (.ref f13) = true)
    (a14 : PySem.W.findIn K (.ref C0) "less" = some (some (.ref f14))) (i14 : PySem.W.isFn K (.ref f14) = true)
    (l14 : K.lookup f14 = some ⟨oc14, od14, .func (PySem.W.fnOf "less" "Ratio.less" (defArgs s_Ratio_less) (defBody s_Ratio_less) (defScope s_Ratio_less) .none kV14 dc14 pm14 an14 cd14 ct14), sl14⟩) (c14 : PySem.W.codeIn K cd14 "Ratio.less" = true) (k14 : PySem.W.keepIn K (.ref f14) = true)
    (a15 : PySem.W.findIn K (.ref C0) "over" = some (some (.ref f15))) (i15 : PySem.W.isFn K (.ref f15) = true)
    (l15 : K.lookup f15 = some ⟨oc15, od15, .func (PySem.W.fnOf "over" "Ratio.over" (defArgs s_Ratio_over) (defBody s_Ratio_over) (defScope s_Ratio_over) .none kV15 dc15 pm15 an15 cd15 ct15), sl15⟩) (c15 : PySem.W.codeIn K cd15 "Ratio.over" = true) (k15 : PySem.W.keepIn K (.ref f15) = true)
    (a16 : PySem.W.nsIn K mainGlobals "_law_hand" = some (some (.ref f16)))
    (l16 : K.lookup f16 = some ⟨oc16, od16, .func (PySem.W.fnOf "_law_hand" "_law_hand" (defArgs s_l_hand) (defBody s_l_hand) (defScope s_l_hand) .none kV16 dc16 pm16 an16 cd16 ct16), sl16⟩) (c16 : PySem.W.codeIn K cd16 "_law_hand" = true) (k16 : PySem.W.keepIn K (.ref f16) = true)
    (a17 : PySem.W.nsIn K mainGlobals "_law_draw" = some (some (.ref f17)))
    (l17 : K.lookup f17 = some ⟨oc17, od17, .func (PySem.W.fnOf "_law_draw" "_law_draw" (defArgs s_l_draw) (defBody s_l_draw) (defScope s_l_draw) .none kV17 dc17 pm17 an17 cd17 ct17), sl17⟩) (c17 : PySem.W.codeIn K cd17 "_law_draw" = true) (k17 : PySem.W.keepIn K (.ref f17) = true)
    (a18 : PySem.W.nsIn K mainGlobals "_law_pair" = some (some (.ref f18)))
    (l18 : K.lookup f18 = some ⟨oc18, od18, .func (PySem.W.fnOf "_law_pair" "_law_pair" (defArgs s_l_pair) (defBody s_l_pair) (defScope s_l_pair) .none kV18 dc18 pm18 an18 cd18 ct18), sl18⟩) (c18 : PySem.W.codeIn K cd18 "_law_pair" = true) (k18 : PySem.W.keepIn K (.ref f18) = true)
    (a19 : PySem.W.nsIn K mainGlobals "_law_by_turns" = some (some (.ref f19)))
    (l19 : K.lookup f19 = some ⟨oc19, od19, .func (PySem.W.fnOf "_law_by_turns" "_law_by_turns" (defArgs s_l_by_turns) (defBody s_l_by_turns) (defScope s_l_by_turns) .none kV19 dc19 pm19 an19 cd19 ct19), sl19⟩) (c19 : PySem.W.codeIn K cd19 "_law_by_turns" = true) (k19 : PySem.W.keepIn K (.ref f19) = true)
    (a20 : PySem.W.nsIn K mainGlobals "_law_is" = some (some (.ref f20)))
    (l20 : K.lookup f20 = some ⟨oc20, od20, .func (PySem.W.fnOf "_law_is" "_law_is" (defArgs s_l_is) (defBody s_l_is) (defScope s_l_is) .none kV20 dc20 pm20 an20 cd20 ct20), sl20⟩) (c20 : PySem.W.codeIn K cd20 "_law_is" = true) (k20 : PySem.W.keepIn K (.ref f20) = true)
    (a21 : PySem.W.nsIn K mainGlobals "law" = some (some (.ref f21)))
    (l21 : K.lookup f21 = some ⟨oc21, od21, .func (PySem.W.fnOf "law" "law" (defArgs s_law) (defBody s_law) (defScope s_law) .none kV21 dc21 pm21 an21 cd21 ct21), sl21⟩) (c21 : PySem.W.codeIn K cd21 "law" = true) (k21 : PySem.W.keepIn K (.ref f21) = true)
    (z0 : PySem.W.nsIn K mainGlobals "isinstance" = some none)
    (z1 : PySem.W.nsIn K mainGlobals "int" = some none)
    (z2 : PySem.W.nsIn K mainGlobals "bool" = some none)
    (z3 : PySem.W.nsIn K mainGlobals "abs" = some none)
    (z4 : PySem.W.nsIn K mainGlobals "NotImplemented" = some none)
    (z5 : PySem.W.nsIn K mainGlobals "len" = some none)
    (z6 : PySem.W.nsIn K mainGlobals "list" = some none)
    (z7 : PySem.W.nsIn K mainGlobals "range" = some none)
    (z8 : PySem.W.nsIn K mainGlobals "sum" = some none)
    : ∃ fd : FuncData, (∀ (s : Shared) (v : Value), BindsTo s fd ⟨[v], []⟩ [("_law_script", v)]) ∧ ∀ base : Heap, K.In base → base.Ns mainGlobals mg → FnOk l.prog w K mg base CX0 9 fa fd ["_law_script"] (sp_law K) := by
  have e := hfa.symm.trans (PySem.W.mg_of X G a21)
  cases e
  have D1 : FunD K "__init__" "WayError.__init__" (defArgs s_WayError_init) (defBody s_WayError_init) (defScope s_WayError_init) [.non] [] f1 _ := ⟨⟨oc1, od1, .ref dT, kV1, dc1, pm1, an1, cd1, ct1, sl1, rfl, l1, c1, .inr ⟨by simp, dT, _, [.none], tN, rfl, lT, rfl, .cons rfl .nil⟩, .inl rfl⟩, k1⟩
  have F2 := fun_mk (st := s_is_integer) l2 c2 k2
  have F3 := fun_mk (st := s_common) l3 c3 k3
  have D4 : FunD K "__init__" "Ratio.__init__" (defArgs s_Ratio_init) (defBody s_Ratio_init) (defScope s_Ratio_init) [.int 1] [] f4 _ := ⟨⟨oc4, od4, .ref dT4, kV4, dc4, pm4, an4, cd4, ct4, sl4, rfl, l4, c4, .inr ⟨by simp, dT4, _, _, tN4, rfl, lT4, rfl, .cons ⟨_, rfl⟩ (.nil)⟩, .inl rfl⟩, k4⟩
  obtain ⟨dsN4, rN4, bN4⟩ := D4.binds1 (ps := ["self", "top", "bottom"]) 3 1 (by simp) rfl (fun _ _ _ _ _ _ _ us its h1 h2 => match us, its, h1, h2 with | [_, _, _], [_], _, _ => ⟨_, rfl, rfl⟩)
  cases rN4
  obtain ⟨ds4, rD4, bD4⟩ := D4.binds1 (ps := ["self", "top", "bottom"]) 2 0 (by simp) rfl (fun _ _ _ _ _ _ _ us its h1 h2 => match us, its, h1, h2 with | [_, _], [_], _, _ => ⟨_, rfl, rfl⟩)
  have F5 := fun_mk (st := s_is_number) l5 c5 k5
  have F6 := fun_mk (st := s_as_ratio) l6 c6 k6
  have F7 := fun_mk (st := s_Ratio_add) l7 c7 k7
  have F8 := fun_mk (st := s_Ratio_radd) l8 c8 k8
  have F9 := fun_mk (st := s_Ratio_sub) l9 c9 k9
  have F10 := fun_mk (st := s_Ratio_rsub) l10 c10 k10
  have F11 := fun_mk (st := s_Ratio_mul) l11 c11 k11
  have F12 := fun_mk (st := s_Ratio_rmul) l12 c12 k12
  have F13 := fun_mk (st := s_Ratio_eq) l13 c13 k13
  have F14 := fun_mk (st := s_Ratio_less) l14 c14 k14
  have F15 := fun_mk (st := s_Ratio_over) l15 c15 k15
  have F16 := fun_mk (st := s_l_hand) l16 c16 k16
  have F17 := fun_mk (st := s_l_draw) l17 c17 k17
  have F18 := fun_mk (st := s_l_pair) l18 c18 k18
  have F19 := fun_mk (st := s_l_by_turns) l19 c19 k19
  have F20 := fun_mk (st := s_l_is) l20 c20 k20
  have F21 := fun_mk (st := s_law) l21 c21 k21
  let T : Txt K mg := {
    C_Ratio := C0, c_Ratio := PySem.W.mg_of X G u0,
    cl_Ratio := ⟨pg0, hd0, po0, sa0⟩, ty_Ratio := ⟨wc0, wn0, wt0, wm0, kit_self⟩,
    na_Ratio_top := na0_0,
    na_Ratio_bottom := na0_1,
    ki_Ratio := fx0_0,
    kb_Ratio := fx0_1,
    ic_Ratio := fx0_2,
    tc_Ratio := fx0_3,
    sl_Ratio := fx0_4,
    ne_Ratio := fx0_5,
    first_Ratio := fx0_6,
    C_BadNumber := E0, c_BadNumber := PySem.W.mg_of X G ue0, X_BadNumber := ⟨⟨⟨_, _, _, _, _, _, _, _, _, _, _, _, _, _, _, xl0, rb0⟩, xa0, xb0, xc0, xd0⟩, ⟨xg0, xh0, xb0, xi0, xj0, xn, xo, xm0⟩, xe0, xf0, xp0, xs0⟩,
    f_WayError_init := f1, fd_WayError_init := _, D_WayError_init := D1, b_WayError_init := Rx.binds2 D1 (fun _ _ _ _ _ _ _ us its h1 h2 => match us, its, h1, h2 with | [_, _], [_], _, _ => ⟨_, rfl, rfl⟩), tI_WayError_init := tI,
    f_is_integer := f2, fd_is_integer := _, F_is_integer := F2, g_is_integer := PySem.W.mg_of X G a2, b_is_integer := F2.binds (ps := ["value"]) fun _ _ _ _ _ _ us hl => match us, hl with | [_], _ => rfl,
    f_common := f3, fd_common := _, F_common := F3, g_common := PySem.W.mg_of X G a3, b_common := F3.binds (ps := ["one", "other"]) fun _ _ _ _ _ _ us hl => match us, hl with | [_, _], _ => rfl,
    f_Ratio_init := f4, fd_Ratio_init := _, D_Ratio_init := D4, M_Ratio := ⟨mk0, a4, i4, kc0⟩, b_Ratio_init := bN4, ds_Ratio_init := ds4, rd_Ratio_init := rD4, b1_Ratio_init := bD4,
    f_is_number := f5, fd_is_number := _, F_is_number := F5, g_is_number := PySem.W.mg_of X G a5, b_is_number := F5.binds (ps := ["value"]) fun _ _ _ _ _ _ us hl => match us, hl with | [_], _ => rfl,
    f_as_ratio := f6, fd_as_ratio := _, F_as_ratio := F6, g_as_ratio := PySem.W.mg_of X G a6, b_as_ratio := F6.binds (ps := ["value"]) fun _ _ _ _ _ _ us hl => match us, hl with | [_], _ => rfl,
    f_Ratio_add := f7, fd_Ratio_add := _, F_Ratio_add := F7, h_Ratio_add := ⟨a7, i7, k7⟩, b_Ratio_add := F7.binds (ps := ["self", "other"]) fun _ _ _ _ _ _ us hl => match us, hl with | [_, _], _ => rfl,
    f_Ratio_radd := f8, fd_Ratio_radd := _, F_Ratio_radd := F8, h_Ratio_radd := ⟨a8, i8, k8⟩, b_Ratio_radd := F8.binds (ps := ["self", "other"]) fun _ _ _ _ _ _ us hl => match us, hl with | [_, _], _ => rfl,
    f_Ratio_sub := f9, fd_Ratio_sub := _, F_Ratio_sub := F9, h_Ratio_sub := ⟨a9, i9, k9⟩, b_Ratio_sub := F9.binds (ps := ["self", "other"]) fun _ _ _ _ _ _ us hl => match us, hl with | [_, _], _ => rfl,
    f_Ratio_rsub := f10, fd_Ratio_rsub := _, F_Ratio_rsub := F10, h_Ratio_rsub := ⟨a10, i10, k10⟩, b_Ratio_rsub := F10.binds (ps := ["self", "other"]) fun _ _ _ _ _ _ us hl => match us, hl with | [_, _], _ => rfl,
    f_Ratio_mul := f11, fd_Ratio_mul := _, F_Ratio_mul := F11, h_Ratio_mul := ⟨a11, i11, k11⟩, b_Ratio_mul := F11.binds (ps := ["self", "other"]) fun _ _ _ _ _ _ us hl => match us, hl with | [_, _], _ => rfl,
    f_Ratio_rmul := f12, fd_Ratio_rmul := _, F_Ratio_rmul := F12, h_Ratio_rmul := ⟨a12, i12, k12⟩, b_Ratio_rmul := F12.binds (ps := ["self", "other"]) fun _ _ _ _ _ _ us hl => match us, hl with | [_, _], _ => rfl,
    f_Ratio_eq := f13, fd_Ratio_eq := _, F_Ratio_eq := F13, h_Ratio_eq := ⟨a13, i13, k13⟩, b_Ratio_eq := F13.binds (ps := ["self", "other"]) fun _ _ _ _ _ _ us hl => match us, hl with | [_, _], _ => rfl,
    f_Ratio_less := f14, fd_Ratio_less := _, F_Ratio_less := F14, h_Ratio_less := ⟨a14, i14, k14⟩, b_Ratio_less := F14.binds (ps := ["self", "other"]) fun _ _ _ _ _ _ us hl => match us, hl with | [_, _], _ => rfl,
    f_Ratio_over := f15, fd_Ratio_over := _, F_Ratio_over := F15, h_Ratio_over := ⟨a15, i15, k15⟩, b_Ratio_over := F15.binds (ps := ["self", "other"]) fun _ _ _ _ _ _ us hl => match us, hl with | [_, _], _ => rfl,
    f_l_hand := f16, fd_l_hand := _, F_l_hand := F16, g_l_hand := PySem.W.mg_of X G a16, b_l_hand := F16.binds (ps := ["_law_script"]) fun _ _ _ _ _ _ us hl => match us, hl with | [_], _ => rfl,
    f_l_draw := f17, fd_l_draw := _, F_l_draw := F17, g_l_draw := PySem.W.mg_of X G a17, b_l_draw := F17.binds (ps := ["_law_hand_here", "_law_many"]) fun _ _ _ _ _ _ us hl => match us, hl with | [_, _], _ => rfl,
    f_l_pair := f18, fd_l_pair := _, F_l_pair := F18, g_l_pair := PySem.W.mg_of X G a18, b_l_pair := F18.binds (ps := ["_law_hand_here"]) fun _ _ _ _ _ _ us hl => match us, hl with | [_], _ => rfl,
    f_l_by_turns := f19, fd_l_by_turns := _, F_l_by_turns := F19, g_l_by_turns := PySem.W.mg_of X G a19, b_l_by_turns := F19.binds (ps := ["_law_hand_here", "_law_row", "_law_sums"]) fun _ _ _ _ _ _ us hl => match us, hl with | [_, _, _], _ => rfl,
    f_l_is := f20, fd_l_is := _, F_l_is := F20, g_l_is := PySem.W.mg_of X G a20, b_l_is := F20.binds (ps := ["_law_thing", "_law_top", "_law_bottom"]) fun _ _ _ _ _ _ us hl => match us, hl with | [_, _, _], _ => rfl,
    f_law := fa, fd_law := _, F_law := F21, g_law := PySem.W.mg_of X G a21, b_law := F21.binds (ps := ["_law_script"]) fun _ _ _ _ _ _ us hl => match us, hl with | [_], _ => rfl,
    n_isinstance := PySem.W.mg_none_of X G z0,
    n_int := PySem.W.mg_none_of X G z1,
    n_bool := PySem.W.mg_none_of X G z2,
    n_abs := PySem.W.mg_none_of X G z3,
    n_NotImplemented := PySem.W.mg_none_of X G z4,
    n_len := PySem.W.mg_none_of X G z5,
    n_list := PySem.W.mg_none_of X G z6,
    n_range := PySem.W.mg_none_of X G z7,
    n_sum := PySem.W.mg_none_of X G z8 }
  exact ⟨_, fun s v => .of_eq rfl, fun base _ _ => ok_law T⟩
theorem walk {l : PySem.W.OpenLaw} {q : Program} {loose : List Str} {XP : (Str → Option Value) → Heap → Prop} {YP : World → Heap → Prop} {d : DefRec} {K : Params → PySem.W.Frag} (hn : l.most = some 63) (hdf : d.params.defaults = [])
    (hY : ∀ (w : World) (h : Heap), YP w h → (K w.params).In h)
    (F : ∀ (w : World) (mg : Str → Option Value) (fa : Addr) (h : Heap), (K w.params).In h → h.Ns mainGlobals mg → mg d.name = some (.ref fa) →
      ∃ fd : FuncData, (∀ (s : Shared) (u : Value), BindsTo s fd ⟨[u], []⟩ [("_law_script", u)]) ∧ ∀ base : Heap, (K w.params).In base → base.Ns mainGlobals mg → FnOk l.prog w (K w.params) mg base CX0 9 fa fd ["_law_script"] (sp_law (K w.params))) :
    PySem.W.WalkO q loose XP YP l.row.toRowW d [] (fun f vs => PySem.call f vs) :=
  L2.walk_of (n := 63) (k := 9) (x := "_law_script") (CX := fun _ => CX0) (sp := fun w => sp_law (K w.params)) hn (by decide) hdf ⟨rfl, by decide, by decide⟩ hY F (fun _ _ a ns hl _ hS => ⟨a, ns, rfl, hS, hl, fun _ => rfl⟩) fun _ _ _ _ _ z => z
end W
open PySem PySem.W PyProof.Rows
set_option maxRecDepth 100000 in
set_option maxHeartbeats 0 in
theorem PySem.Challenge.cw_watchedways_k24_whole_sums_and_products_holds : PySem.Challenge.rw_watchedways_k24_whole_sums_and_products.Holds := by
  w_on; o_law; k_head; (case hw => w_witness2)
  k_fill
  refine W.walk (l := PySem.Challenge.rw_watchedways_k24_whole_sums_and_products) rfl rfl (fun w h Y => PySem.W.kIn_of Y) ?F
  case F =>
    intro w mg fa h KX G hmg
    refine' W.all_mk KX G hmg ?u0 ?pg0 ?hd0 ?po0 ?sa0 ?wc0 ?wm0 ?wn0 ?wt0 ?na0_0 ?na0_1 ?fx0_0 ?fx0_1 ?fx0_2 ?fx0_3 ?fx0_4 ?fx0_5 ?fx0_6 ?lT ?tI ?xn ?xo ?ue0 ?xl0 ?rb0 ?xa0 ?xb0 ?xc0 ?xd0 ?xe0 ?xf0 ?xg0 ?xh0 ?xi0 ?xj0 ?xm0 ?xp0 ?xs0 ?l1 ?c1 ?k1 ?a2 ?l2 ?c2 ?k2 ?a3 ?l3 ?c3 ?k3 ?a4 ?i4 ?mk0 ?kc0 ?l4 ?c4 ?k4 ?lT4 ?a5 ?l5 ?c5 ?k5 ?a6 ?l6 ?c6 ?k6 ?a7 ?i7 ?l7 ?c7 ?k7 ?a8 ?i8 ?l8 ?c8 ?k8 ?a9 ?i9 ?l9 ?c9 ?k9 ?a10 ?i10 ?l10 ?c10 ?k10 ?a11 ?i11 ?l11 ?c11 ?k11 ?a12 ?i12 ?l12 ?c12 ?k12 ?a13 ?i13 ?l13 ?c13 ?k13 ?a14 ?i14 ?l14 ?c14 ?k14 ?a15 ?i15 ?l15 ?c15 ?k15 ?a16 ?l16 ?c16 ?k16 ?a17 ?l17 ?c17 ?k17 ?a18 ?l18 ?c18 ?k18 ?a19 ?l19 ?c19 ?k19 ?a20 ?l20 ?c20 ?k20 ?a21 ?l21 ?c21 ?k21 ?z0 ?z1 ?z2 ?z3 ?z4 ?z5 ?z6 ?z7 ?z8
    (case ue0 => k_is); (case xe0 => k_is); (case l1 => k_is); (case u0 => k_is); (case pg0 => k_is); (case hd0 => k_is); (case po0 => k_is); (case sa0 => k_is); (case wc0 => k_is); (case wm0 => k_is); (case wn0 => k_is); (case wt0 => k_is); (case na0_0 => k_is); (case na0_1 => k_is); (case fx0_0 => k_is); (case fx0_1 => k_is); (case fx0_2 => k_is); (case fx0_3 => k_is); (case fx0_4 => k_is); (case fx0_5 => k_is); (case fx0_6 => k_is); (case lT => k_is); (case tI => k_is); (case xn => k_is); (case xo => k_is); (case xl0 => k_is); (case rb0 => rfl); (case xa0 => k_is); (case xb0 => k_is); (case xc0 => k_is); (case xd0 => k_is); (case xf0 => k_is); (case xg0 => k_is); (case xh0 => k_is); (case xi0 => k_is); (case xj0 => k_is); (case xm0 => k_is); (case xp0 => k_is); (case xs0 => k_is); (case c1 => k_is); (case k1 => k_is); (case a2 => k_is); (case l2 => k_is); (case c2 => k_is); (case k2 => k_is); (case a3 => k_is); (case l3 => k_is); (case c3 => k_is); (case k3 => k_is); (case a4 => k_is); (case i4 => k_is); (case mk0 => k_is); (case kc0 => k_is); (case l4 => k_is); (case c4 => k_is); (case k4 => k_is); (case lT4 => k_is); (case a5 => k_is); (case l5 => k_is); (case c5 => k_is); (case k5 => k_is); (case a6 => k_is); (case l6 => k_is); (case c6 => k_is); (case k6 => k_is); (case a7 => k_is); (case i7 => k_is); (case l7 => k_is); (case c7 => k_is); (case k7 => k_is); (case a8 => k_is); (case i8 => k_is); (case l8 => k_is); (case c8 => k_is); (case k8 => k_is); (case a9 => k_is); (case i9 => k_is); (case l9 => k_is); (case c9 => k_is); (case k9 => k_is); (case a10 => k_is); (case i10 => k_is); (case l10 => k_is); (case c10 => k_is); (case k10 => k_is); (case a11 => k_is); (case i11 => k_is); (case l11 => k_is); (case c11 => k_is); (case k11 => k_is); (case a12 => k_is); (case i12 => k_is); (case l12 => k_is); (case c12 => k_is); (case k12 => k_is); (case a13 => k_is); (case i13 => k_is); (case l13 => k_is); (case c13 => k_is); (case k13 => k_is); (case a14 => k_is); (case i14 => k_is); (case l14 => k_is); (case c14 => k_is); (case k14 => k_is); (case a15 => k_is); (case i15 => k_is); (case l15 => k_is); (case c15 => k_is); (case k15 => k_is); (case a16 => k_is); (case l16 => k_is); (case c16 => k_is); (case k16 => k_is); (case a17 => k_is); (case l17 => k_is); (case c17 => k_is); (case k17 => k_is); (case a18 => k_is); (case l18 => k_is); (case c18 => k_is); (case k18 => k_is); (case a19 => k_is); (case l19 => k_is); (case c19 => k_is); (case k19 => k_is); (case a20 => k_is); (case l20 => k_is); (case c20 => k_is); (case k20 => k_is); (case a21 => k_is); (case l21 => k_is); (case c21 => k_is); (case k21 => k_is); (case z0 => k_is); (case z1 => k_is); (case z2 => k_is); (case z3 => k_is); (case z4 => k_is); (case z5 => k_is); (case z6 => k_is); (case z7 => k_is); (case z8 => k_is)
