import PyProof.Rows.All
import Wide.All
import OpenK.AllK
import Wide.FinOn
import HandS.ForMost
import HandS.SortInts
import HandS.Style
import HandS.IsInst
import HandS.Flow
import HandS.Conv
import HandS.Codes
import PyProof.Draws
import PyProof.EnumMake
import HandS.Walk
import HandS.Strs
import HandS.More
import HandS.Text
import HandS.Small
import HandS.SortKw
import KE.SortKeyed
import HandS.DictComp
import HandS.Zip
import HandS.Finally
import HandS.Exc
import HandS.ExcOwn
import HandS.ExcInit
import HandS.ExcIs
import HandS.TryOnly
import HandS.TryMany
import HandS.WordsExc
import HandS.Defaults
import HandS.CallSlots
import HandS.DeepEq
import HandS.List
import HandS.TupAny
import HandS.Wide
import KE.KLam
import KE.KNestM
import HandS.Lambda
import HandS.Nested
import HandS.EndTab
import HandS.Deep
import KE.GoesMore
import PySem.Challenge.RW_watchedways_k59_whole_roads_that_part
set_option Elab.async false
set_option linter.all false
set_option maxRecDepth 100000
set_option maxHeartbeats 4000000
/-! Readings by their heads: one lemma a combinator, so that a reading is walked by its own shape. -/
namespace Rd
open PySem PySem.Spec PyProof.Rows L2
variable {X : Cx} {D : Ends} {σ : L2.St} {H : Hp} {K : PySem.W.Frag}
/-- a new object is laid -/
def NewQ (o : HO) (Q : VK) (H : Hp) : Prop := ∀ p, H p = none → Q (.ref p) (upd H p o)
theorem new {o : HO} {Q : VK} (h : ∀ (p : Addr) (G : Hp), H p = none → G p = some o → Same H G → Q (.ref p) G) : NewQ o Q H :=
  fun p hp => h p _ hp upd_same fun b u e => by rw [upd_ne (ne_of_none e hp)]; exact e
theorem seq {t u : TS} (h : t { D with nx := u D } σ H) : tSeq t u D σ H := h
theorem cut {t u : TS} (Mid : L2.St → Hp → Prop) (h : t { D with nx := Mid } σ H) (h2 : ∀ σ' H', Mid σ' H' → u D σ' H') : C8.tCut t u D σ H := ⟨Mid, h, h2⟩
theorem nxt (h : D.nx σ H) : tNext D σ H := h
theorem asg {te : TE} {g : TG} (h : te σ H fun x H1 => g x σ H1 D.nx) : tAsg te g D σ H := h
theorem name {i : Nat} {v : V} {Q : L2.St → Hp → Prop} (h : Q (σ.set i (some v)) H) : gName i v σ H Q := h
theorem ret {te : TE} (h : te σ H D.rt) : tRet te D σ H := h
theorem retN (h : D.rt .non H) : tRetN D σ H := h
theorem drop {te : TE} (h : te σ H fun _ H1 => D.nx σ H1) : tDrop te D σ H := h
theorem ifS {c : TT} {t u : TS} (h : c σ H fun b H1 => if b = true then t D σ H1 else u D σ H1) : tIfS c t u D σ H := h
theorem brk (h : D.bk σ H) : tBreak D σ H := h
theorem cont (h : D.ct σ H) : tCont D σ H := h
theorem var {i : Nat} {v : V} {Q : VK} (e : σ[i]? = some (some v)) (h : Q v H) : tVar i σ H Q := ⟨v, e, h⟩
theorem con {v : V} {Q : VK} (h : Q v H) : tC v σ H Q := h
theorem op {r : R2} {ta tb : TE} {Q : VK} (h : ta σ H fun x H1 => tb σ H1 fun y H2 => r x y H2 Q) : tOp r ta tb σ H Q := h
theorem un {r : V → Hp → VK → Prop} {ta : TE} {Q : VK} (h : ta σ H fun x H1 => r x H1 Q) : tUn r ta σ H Q := h
theorem test {t : TE} {Q : Bool → Hp → Prop} (h : t σ H fun x H' => ∃ k, x = .bl k ∧ Q k H') : tTest t σ H Q := h
theorem tstB {t : TE} {Q : Bool → Hp → Prop} (h : t σ H fun x H' => ∃ k, x = .bl k ∧ Q k H') : tB t σ H Q := h
theorem bl {k : Bool} {Q : Bool → Hp → Prop} (h : Q k H) : ∃ k', V.bl k = .bl k' ∧ Q k' H := ⟨k, rfl, h⟩
theorem and {t u : TT} {Q : Bool → Hp → Prop} (h : t σ H fun c H1 => if c = true then u σ H1 Q else Q false H1) : tAnd t u σ H Q := h
theorem or {t u : TT} {Q : Bool → Hp → Prop} (h : t σ H fun c H1 => if c = true then Q true H1 else u σ H1 Q) : tOr t u σ H Q := h
theorem not {t : TT} {Q : Bool → Hp → Prop} (h : t σ H fun c H1 => Q (!c) H1) : tNot t σ H Q := h
theorem andV {ta tb : TE} {Q : VK} (h : ta σ H fun x H1 => ∃ c, x = .bl c ∧ if c = true then tb σ H1 Q else Q (.bl false) H1) : tAndV ta tb σ H Q := h
theorem orV {ta tb : TE} {Q : VK} (h : ta σ H fun x H1 => ∃ c, x = .bl c ∧ if c = true then Q (.bl true) H1 else tb σ H1 Q) : tOrV ta tb σ H Q := h
theorem notV {ta : TE} {Q : VK} (h : ta σ H fun x H1 => ∃ c, x = .bl c ∧ Q (.bl (!c)) H1) : tNotV ta σ H Q := h
theorem ifE {t : TT} {ta tb : TE} {Q : VK} (h : t σ H fun c H1 => if c = true then ta σ H1 Q else tb σ H1 Q) : tIf t ta tb σ H Q := h
theorem nil {Q : List V → Hp → Prop} (h : Q [] H) : tNil σ H Q := h
theorem cons {ta : TE} {tr : TA} {Q : List V → Hp → Prop} (h : ta σ H fun x H1 => tr σ H1 fun xs H2 => Q (x :: xs) H2) : tCons ta tr σ H Q := h
theorem tup {t : TA} {Q : VK} (h : t σ H fun xs H1 => xs.length ≤ sizeLine ∧ NewQ (.tup xs) Q H1) : tTup t σ H Q := h
theorem lst {t : TA} {Q : VK} (h : t σ H fun xs H1 => xs.length ≤ sizeLine ∧ NewQ (.lst xs) Q H1) : tLst t σ H Q := h
theorem cb {r : List V → Hp → VK → Prop} {t : TA} {Q : VK} (h : t σ H fun vs H1 => r vs H1 Q) : tCB r t σ H Q := h
theorem call {sp : Sp} {dvs : List V} {E : XK} {t : TA} {Q : VK} (h : t σ H fun vs H1 => sp (vs ++ dvs) H1 Q E) : tCall sp dvs E t σ H Q := h
theorem chain {r r' : R2} {ta tb tc : TE} {Q : VK} (h : ta σ H fun x H1 => tb σ H1 fun y H2 => r x y H2 fun z H3 => ∃ k, z = .bl k ∧ (if k = true then tc σ H3 fun w' H4 => r' y w' H4 Q else Q (.bl false) H3)) : tChain r r' ta tb tc σ H Q := h
theorem blE {k : Bool} {P : Bool → Prop} (h : P k) : ∃ k', V.bl k = .bl k' ∧ P k' := ⟨k, rfl, h⟩
theorem i0 {g : Int → Int → V} {i j : Int} {Q : VK} (h : Q (g i j) H) : rI0 g (.int i) (.int j) H Q := ⟨i, j, rfl, rfl, h⟩
theorem iC {C : Int → Int → Prop} {g : Int → Int → V} {i j : Int} {Q : VK} (c : C i j) (h : Q (g i j) H) : rI C g (.int i) (.int j) H Q := ⟨i, j, rfl, rfl, c, h⟩
theorem u1 {g : Int → V} {i : Int} {Q : VK} (h : Q (g i) H) : rU g (.int i) H Q := ⟨i, rfl, h⟩
theorem eqI {i j : Int} {Q : VK} (h : Q (.bl (decide (i = j))) H) : rEq (.int i) (.int j) H Q := ⟨rfl, by rw [show decide (V.int i = V.int j) = decide (i = j) by simp]; exact h⟩
theorem neI {i j : Int} {Q : VK} (h : Q (.bl (!decide (i = j))) H) : rNe (.int i) (.int j) H Q := ⟨rfl, by rw [show decide (V.int i = V.int j) = decide (i = j) by simp]; exact h⟩
theorem eqB {i j : Bool} {Q : VK} (h : Q (.bl (i == j)) H) : rEq (.bl i) (.bl j) H Q := ⟨rfl, by rw [dec_bl]; exact h⟩
theorem neB {i j : Bool} {Q : VK} (h : Q (.bl (i != j)) H) : rNe (.bl i) (.bl j) H Q := ⟨rfl, by rw [dec_bl]; exact h⟩
theorem eqS {i j : Str} {Q : VK} (h : Q (.bl (decide (i = j))) H) : rEq (.str i) (.str j) H Q := ⟨rfl, by rw [show decide (V.str i = V.str j) = decide (i = j) by simp]; exact h⟩
theorem neS {i j : Str} {Q : VK} (h : Q (.bl (!decide (i = j))) H) : rNe (.str i) (.str j) H Q := ⟨rfl, by rw [show decide (V.str i = V.str j) = decide (i = j) by simp]; exact h⟩
theorem iteb {c A B : Prop} [Decidable c] (h : if c then A else B) : if decide c = true then A else B := by
  by_cases q : c
  · rw [if_pos q] at h; rw [if_pos (decide_eq_true q)]; exact h
  · rw [if_neg q] at h; rw [if_neg (by simpa using q)]; exact h
theorem iten {c A B : Prop} [Decidable c] (h : if c then B else A) : if (!decide c) = true then A else B := by
  by_cases q : c
  · rw [if_pos q] at h; rw [if_neg (by simpa using q)]; exact h
  · rw [if_neg q] at h; rw [if_pos (by simpa using q)]; exact h
theorem itbn {b : Bool} {A B : Prop} (h : if b = true then B else A) : if (!b) = true then A else B := by
  cases b with
  | true => rw [if_neg (by decide)]; rw [if_pos rfl] at h; exact h
  | false => rw [if_pos (by rfl : (!false) = true)]; rw [if_neg (by decide)] at h; exact h
theorem a1 {a : Int} {P : Int → Prop} (h : P a) : ∃ i, [V.int a] = [V.int i] ∧ P i := ⟨a, rfl, h⟩
theorem a2 {a b : Int} {P : Int → Int → Prop} (h : P a b) : ∃ i j, [V.int a, V.int b] = [V.int i, V.int j] ∧ P i j := ⟨a, b, rfl, h⟩
theorem v2 {a b : V} {P : V → V → Prop} (h : P a b) : ∃ i j, [a, b] = [i, j] ∧ P i j := ⟨a, b, rfl, h⟩
theorem int1 {a : Int} {P : Int → Prop} {R : Prop} (h : P a) : (∃ i, [V.int a] = [V.int i] ∧ P i) ∨ R := .inl ⟨a, rfl, h⟩
theorem par {i j : Nat} {ta : TA} (h : ta σ H fun vs H1 => ∃ v w, vs = [v, w] ∧ D.nx ((σ.set i (some v)).set j (some w)) H1) : tPar i j ta D σ H := h
theorem sub {to ti : TE} {t : TSet} {v : V} {Q : L2.St → Hp → Prop} (h : to σ H fun o H1 => ti σ H1 fun i H2 => t o i v H2 fun H3 => Q σ H3) : gSub to ti t v σ H Q := h
theorem forS {wi : TI} {g : TG} {tb : TS} (h : wi σ H fun J H1 => ∃ W : Nat → Nat → L2.St → Hp → Prop, (∃ m, W 0 m σ H1) ∧ ∀ i m σ H, W i m σ H →
  (J.stop i H ∧ D.nx σ H) ∨ (J.go i H ∧ ∃ N : L2.St → Hp → Prop, (∀ σ' H', N σ' H' → ∃ m', m' < m ∧ W (i + 1) m' σ' H') ∧ ∀ x H', J.yld i H x H' → g x σ H' fun σ2 H2 => tb { D with nx := N, ct := N, bk := D.nx } σ2 H2)) : tFor wi g tb D σ H := h
theorem iter {tl : TE} {R : It → Hp → Prop} (h : tl σ H fun x H1 => ∃ a, x = .ref a ∧ (∃ xs, SqL K H1 a xs) ∧ R (Itl K a) H1) : iList K tl σ H R := h
theorem iterT {tl : TE} {R : It → Hp → Prop} (h : tl σ H fun x H1 => ∃ a, x = .ref a ∧ (∃ xs, SqT K H1 a xs) ∧ R (Itt K a) H1) : iTup K tl σ H R := h
theorem rng1 {ta : TA} {R : It → Hp → Prop} (h : ta σ H fun vs H1 => ∃ j : Int, vs = [.int j] ∧ -(2 ^ 62) ≤ j ∧ j < 2 ^ 62 ∧ R (Itr 0 j.toNat) H1) : iRng1 ta σ H R := h
theorem refE {a : Addr} {P : Addr → Prop} (h : P a) : ∃ b, V.ref a = .ref b ∧ P b := ⟨a, rfl, h⟩
theorem aug {i : Nat} {te : TE} {ti : TIp} {x : V} (e : σ[i]? = some (some x)) (h : te σ H fun y H1 => ti x y H1 fun z H2 => D.nx (σ.set i (some z)) H2) : tAug i te ti D σ H := ⟨x, e, h⟩
theorem ipi {f : Int → Int → Int} {i j : Int} {Q : VK} (h : Q (.int (f i j)) H) : ipI f (.int i) (.int j) H Q := ⟨i, j, rfl, rfl, h⟩
theorem whl {c : TT} {tb : TS} (W : Nat → L2.St → Hp → Prop) (h0 : ∃ m, W m σ H) (hs : ∀ m σ H, W m σ H → c σ H fun b H1 => if b = true then ∃ N : L2.St → Hp → Prop, (∀ σ' H', N σ' H' → ∃ m', m' < m ∧ W m' σ' H') ∧ tb { D with nx := N, ct := N, bk := D.nx } σ H1 else D.nx σ H1) : tWhile c tb D σ H := ⟨W, h0, hs⟩
theorem whN {m : Nat} {W : Nat → L2.St → Hp → Prop} {P : (L2.St → Hp → Prop) → Prop} (h : P (fun σ' H' => ∃ m', m' < m ∧ W m' σ' H')) : ∃ N, (∀ σ' H', N σ' H' → ∃ m', m' < m ∧ W m' σ' H') ∧ P N := ⟨_, fun _ _ h => h, h⟩
/-- an item of a list at a place -/
theorem ixL {p : Addr} {xs : List V} {i : Int} {v : V} {Q : VK} (hp : SqL K H p xs) (e : atI xs i = some v) (h : Q v H) : rIxL K (.ref p) (.int i) H Q := ⟨p, xs, i, v, rfl, rfl, hp, e, h⟩
theorem ixT {p : Addr} {xs : List V} {i : Int} {v : V} {Q : VK} (hp : SqT K H p xs) (e : atI xs i = some v) (h : Q v H) : rIxT K (.ref p) (.int i) H Q := ⟨p, xs, i, v, rfl, rfl, hp, e, h⟩
theorem setL {p : Addr} {xs : List V} {k : Int} {j : Nat} {v : V} {Q : Hp → Prop} (hp : H p = some (.lst xs)) (e : ixN xs.length k = some j) (h : Q (upd H p (.lst (xs.set j v)))) : rSetL (.ref p) (.int k) v H Q := ⟨p, xs, k, j, rfl, rfl, hp, e, h⟩
/-- a store into a list: behind it a heap G of which this is known -/
theorem setG {p : Addr} {xs ys : List V} {k : Int} {j : Nat} {v : V} {Q : Hp → Prop} (hp : H p = some (.lst xs)) (e : ixN xs.length k = some j) (hy : xs.set j v = ys) (h : ∀ G : Hp, G p = some (.lst ys) → (∀ b, b ≠ p → G b = H b) → Q G) : rSetL (.ref p) (.int k) v H Q :=
  ⟨p, xs, k, j, rfl, rfl, hp, e, hy ▸ h _ upd_same fun b hb => upd_ne hb⟩
/-! ### calls of built-ins and methods, by name -/
def nLen (K : PySem.W.Frag) : List V → Hp → VK → Prop := fun xs H Q => ∃ p ys, xs = [.ref p] ∧ (SqL K H p ys ∨ SqT K H p ys) ∧ Q (.int ys.length) H
theorem c_len : CallR X (.builtin "len") (nLen X.K) := call_len_seq
theorem len {p : Addr} {ys : List V} {Q : VK} (hp : SqL K H p ys ∨ SqT K H p ys) (h : Q (.int ys.length) H) : nLen K [.ref p] H Q := ⟨p, ys, rfl, hp, h⟩
def nLenS : List V → Hp → VK → Prop := fun xs H Q => ∃ z : Str, xs = [.str z] ∧ z.length ≤ sizeLine ∧ Q (.int z.length) H
theorem c_lenS : CallR X (.builtin "len") nLenS := call_len_str
theorem lenStr {z : Str} {Q : VK} (hz : z.length ≤ sizeLine) (h : Q (.int z.length) H) : nLenS [.str z] H Q := ⟨z, rfl, hz, h⟩
def nListOf (K : PySem.W.Frag) : List V → Hp → VK → Prop := fun xs H Q => ∃ p ys, xs = [.ref p] ∧ (SqL K H p ys ∨ SqT K H p ys) ∧ NewQ (.lst ys) Q H
theorem c_listOf : CallR X (.type "list") (nListOf X.K) := call_list_of
theorem listOf {p : Addr} {ys : List V} {Q : VK} (hp : SqL K H p ys ∨ SqT K H p ys) (h : NewQ (.lst ys) Q H) : nListOf K [.ref p] H Q := ⟨p, ys, rfl, hp, h⟩
def nTupOf (K : PySem.W.Frag) : List V → Hp → VK → Prop := fun xs H Q => ∃ p ys, xs = [.ref p] ∧ ((SqL K H p ys ∧ NewQ (.tup ys) Q H) ∨ (SqT K H p ys ∧ Q (.ref p) H))
theorem c_tupOf : CallR X (.type "tuple") (nTupOf X.K) := call_tuple_of
theorem tupOf {p : Addr} {ys : List V} {Q : VK} (hp : SqL K H p ys) (h : NewQ (.tup ys) Q H) : nTupOf K [.ref p] H Q := ⟨p, ys, rfl, .inl ⟨hp, h⟩⟩
def nInt : List V → Hp → VK → Prop := fun xs H Q => (∃ i, xs = [.int i] ∧ Q (.int i) H) ∨ ∃ k, xs = [.bl k] ∧ Q (.int (if k then 1 else 0)) H
theorem c_int : CallR X (.type "int") nInt := call_int1
theorem int {i : Int} {Q : VK} (h : Q (.int i) H) : nInt [.int i] H Q := .inl ⟨i, rfl, h⟩
theorem intB {k : Bool} {Q : VK} (h : Q (.int (if k then 1 else 0)) H) : nInt [.bl k] H Q := .inr ⟨k, rfl, h⟩
def nAbs : List V → Hp → VK → Prop := fun xs H Q => ∃ i, xs = [.int i] ∧ Q (.int (if i < 0 then -i else i)) H
theorem c_abs : CallR X (.builtin "abs") nAbs := call_abs
theorem abs {i : Int} {Q : VK} (h : Q (.int (i.natAbs : Int)) H) : nAbs [.int i] H Q := ⟨i, rfl, by rw [show (if i < 0 then -i else i) = (i.natAbs : Int) by split <;> omega]; exact h⟩
def nMax2 : List V → Hp → VK → Prop := fun xs H Q => ∃ i j, xs = [.int i, .int j] ∧ Q (.int (if j > i then j else i)) H
theorem c_max2 (hc : X.calm = true) : CallR X (.builtin "max") nMax2 := call_max2 hc
theorem max2 {i j : Int} {Q : VK} (h : Q (.int (max i j)) H) : nMax2 [.int i, .int j] H Q := ⟨i, j, rfl, by rw [show (if j > i then j else i) = max i j by rw [Int.max_def]; split <;> split <;> omega]; exact h⟩
def nMin2 : List V → Hp → VK → Prop := fun xs H Q => ∃ i j, xs = [.int i, .int j] ∧ Q (.int (if j < i then j else i)) H
theorem c_min2 (hc : X.calm = true) : CallR X (.builtin "min") nMin2 := call_min2 hc
theorem min2 {i j : Int} {Q : VK} (h : Q (.int (min i j)) H) : nMin2 [.int i, .int j] H Q := ⟨i, j, rfl, by rw [show (if j < i then j else i) = min i j by rw [Int.min_def]; split <;> split <;> omega]; exact h⟩
theorem bm {T : String} {r : V → List V → Hp → VK → Prop} {to : TE} {t : TA} {Q : VK} (h : to σ H fun x H1 => tyV K T x H1 ∧ t σ H1 fun xs H2 => r x xs H2 Q) : tBM K T r to t σ H Q := h
theorem bm0 {T : String} {r : V → List V → Hp → VK → Prop} {to : TE} {Q : VK} (h : to σ H fun x H1 => tyV K T x H1 ∧ r x [] H1 Q) : tBM0 K T r to σ H Q := h
theorem tyL {a : Addr} {xs : List V} {R : Prop} (h : SqL K H a xs) (r : R) : tyV K "list" (.ref a) H ∧ R := ⟨.inl ⟨rfl, _, h⟩, r⟩
theorem app {l : Addr} {xs : List V} {y : V} {Q : VK} (hp : H l = some (.lst xs)) (hz : xs.length < sizeLine) (h : ∀ G : Hp, G l = some (.lst (xs ++ [y])) → (∀ b, b ≠ l → G b = H b) → Q .non G) : rAppend (.ref l) [y] H Q :=
  ⟨l, xs, y, rfl, rfl, hp, hz, h _ upd_same fun b hb => upd_ne hb⟩
theorem popAt {l : Addr} {xs : List V} {i : Int} {y : V} {Q : VK} (hp : H l = some (.lst xs)) (h0 : 0 ≤ i) (h1 : i < xs.length) (hz : xs.length < 2 ^ 63) (hy : xs[i.toNat]? = some y) (h : ∀ G : Hp, G l = some (.lst (xs.eraseIdx i.toNat)) → (∀ b, b ≠ l → G b = H b) → Q y G) : rPopAt (.ref l) [.int i] H Q :=
  ⟨l, xs, i, i.toNat, y, rfl, rfl, hp, by omega, by omega, by unfold seqIndex?; rw [if_pos (by simp; omega)] <;> simp <;> omega, hy, h _ upd_same fun b hb => upd_ne hb⟩
theorem sl {r : V → Option Int → Option Int → Hp → VK → Prop} {te : TE} {tl th : TO} {Q : VK} (h : te σ H fun x H1 => tl σ H1 fun l H2 => th σ H2 fun u H3 => r x l u H3 Q) : tSl r te tl th σ H Q := h
theorem slL {a : Addr} {xs : List V} {lo hi : Option Int} {Q : VK} (hp : SqL K H a xs) (h : NewQ (.lst (cutV xs lo hi)) Q H) : rSlL K (.ref a) lo hi H Q := ⟨a, xs, rfl, hp, h⟩
theorem slS {z : Str} {lo hi : Option Int} {Q : VK} (hz : z.length ≤ sizeLine) (h : Q (.str (cutS z lo hi)) H) : rSlS (.str z) lo hi H Q := ⟨z, rfl, hz, h⟩
theorem cat {l b : Addr} {xs zs : List V} {Q : VK} (h1 : H l = some (.lst xs)) (h2 : H b = some (.lst zs)) (hz : xs.length + zs.length ≤ sizeLine) (h : NewQ (.lst (xs ++ zs)) Q H) : rCat (.ref l) (.ref b) H Q := ⟨l, b, xs, zs, rfl, rfl, h1, h2, hz, h⟩
theorem rep {l : Addr} {xs : List V} {k : Int} {Q : VK} (h1 : H l = some (.lst xs)) (h0 : -(2 ^ 63) ≤ k) (hk : k < 2 ^ 63) (hz : xs.length * k.toNat ≤ sizeLine) (h : NewQ (.lst (List.replicate k.toNat xs).flatten) Q H) : rRep (.ref l) (.int k) H Q := ⟨l, k, xs, rfl, rfl, h1, h0, hk, hz, h⟩
theorem revL {te : TE} {Q : VK} (h : te σ H fun x H1 => ∃ a xs, x = .ref a ∧ SqL K H1 a xs ∧ NewQ (.lst xs.reverse) Q H1) : tRevL K te σ H Q := h
theorem refX {a : Addr} {xs : List V} {P : List V → Prop} (h : SqL K H a xs) (q : P xs) : ∃ b ys, V.ref a = .ref b ∧ SqL K H b ys ∧ P ys := ⟨a, xs, rfl, h, q⟩
theorem sum {a : Addr} {ns : List Int} {Q : VK} (hp : SqL K H a (ns.map V.int)) (h : Q (.int ns.sum) H) : rSum K [.ref a] H Q := ⟨a, ns, rfl, hp, h⟩
theorem all {a : Addr} {bs : List Bool} {Q : VK} (hp : SqL K H a (bs.map V.bl)) (h : Q (.bl (bs.all id)) H) : rAll K [.ref a] H Q := ⟨a, bs, rfl, hp, h⟩
theorem any {a : Addr} {bs : List Bool} {Q : VK} (hp : SqL K H a (bs.map V.bl)) (h : Q (.bl (bs.any id)) H) : rAny K [.ref a] H Q := ⟨a, bs, rfl, hp, h⟩
theorem sortedI {a : Addr} {ns : List Int} {Q : VK} (hp : SqL K H a (ns.map V.int)) (h : ∀ (ms : List Int) (p : Addr) (G : Hp), ms.Perm ns → ms.Pairwise (· ≤ ·) → G p = some (.lst (ms.map V.int)) → Same H G → H p = none → Q (.ref p) G) : rSortedI K [.ref a] H Q :=
  ⟨a, ns, rfl, hp, fun ms p h1 h2 h3 => h ms p _ h1 h2 upd_same (fun b u e => by rw [upd_ne (ne_of_none e h3)]; exact e) h3⟩
theorem inS {neg : Bool} {x : V} {p : Addr} {xs : List V} {Q : VK} (hp : SqL K H p xs ∨ SqT K H p xs) (h1 : flatV x = true) (h2 : xs.all flatV = true) (h : Q (.bl (if neg then !inV x xs else inV x xs)) H) : rIn K neg x (.ref p) H Q := ⟨p, xs, rfl, hp, h1, h2, h⟩
theorem part {te : TE} {Q : Option Int → Hp → Prop} (h : te σ H fun x H1 => ∃ i, x = .int i ∧ Q (some i) H1) : tPart te σ H Q := h
theorem noPart {Q : Option Int → Hp → Prop} (h : Q none H) : tNoPart σ H Q := h
theorem poS {te : TE} {Q : Option Int → Hp → Prop} {i : Int} (h : te σ H fun x H1 => ∃ i, x = .int i ∧ Q (some i) H1) : te σ H fun x H1 => ∃ i, x = .int i ∧ Q (some i) H1 := h
theorem tupT {a : Addr} {xs : List V} {n : Nat} {t : TGs} {Q : L2.St → Hp → Prop} (hp : SqT K H a xs) (hn : xs.length = n) (h : t xs σ H Q) : gTup K n t (.ref a) σ H Q := ⟨a, xs, rfl, hp, hn, h⟩
theorem gcons {t : TG} {u : TGs} {v : V} {r : List V} {Q : L2.St → Hp → Prop} (h : t v σ H fun σ' H' => u r σ' H' Q) : gCons t u (v :: r) σ H Q := ⟨v, r, rfl, h⟩
theorem gnil {Q : L2.St → Hp → Prop} (h : Q σ H) : gNil [] σ H Q := ⟨rfl, h⟩
theorem last2 {ms : List Int} (h : 2 ≤ ms.length) : ∃ s b a, ms = s ++ [b, a] := by
  rcases List.eq_nil_or_concat ms with e | ⟨t, a, e⟩
  · subst e; simp at h
  · rcases List.eq_nil_or_concat t with e2 | ⟨s, b, e2⟩
    · subst e2; subst e; simp at h
    · exact ⟨s, b, a, by rw [e, e2]; simp⟩
theorem cut_last2 (s : List Int) (b a : Int) : cutV ((s ++ [b, a]).map V.int) (some (-2)) none = [b, a].map V.int := by
  have e : HT.sIx ((s ++ [b, a]).map V.int).length 0 (some (-2)) = (s.map V.int).length := by
    unfold HT.sIx
    simp
    omega
  have e2 : HT.sIx ((s ++ [b, a]).map V.int).length ((s ++ [b, a]).map V.int).length none = ((s ++ [b, a]).map V.int).length := rfl
  unfold cutV
  rw [e, e2, List.map_append, List.drop_left, List.length_append]
  exact List.take_of_length_le (by simp)
theorem rep_map (k : Nat) (b : Bool) : (List.replicate k [V.bl b]).flatten = (List.replicate k b).map V.bl := by
  induction k with
  | zero => rfl
  | succ k ih => rw [List.replicate_succ, List.flatten_cons, ih, List.replicate_succ]; rfl
theorem map_set {α β : Type} (f : α → β) (l : List α) (i : Nat) (x : α) : (l.map f).set i (f x) = (l.set i x).map f := by rw [List.map_set]
theorem enx {a b c : L2.St → Hp → Prop} {r : VK} (h : a σ H) : (Ends.mk a r b c).nx σ H := h
theorem ebk {a b c : L2.St → Hp → Prop} {r : VK} (h : b σ H) : (Ends.mk a r b c).bk σ H := h
theorem ect {a b c : L2.St → Hp → Prop} {r : VK} (h : c σ H) : (Ends.mk a r b c).ct σ H := h
theorem ert {a b c : L2.St → Hp → Prop} {r : VK} {v : V} (h : r v H) : (Ends.mk a r b c).rt v H := h
theorem intE {i : Int} {P : Int → Prop} (h : P i) : ∃ j, V.int i = .int j ∧ P j := ⟨i, rfl, h⟩
theorem atI_of {α : Type} {xs : List α} {i : Int} {v : α} (h0 : 0 ≤ i) (e : xs[i.toNat]? = some v) : atI xs i = some v := by
  have h := atI_nat e
  rw [show ((i.toNat : Nat) : Int) = i by omega] at h
  exact h
theorem ixN_of {n : Nat} {i : Int} (h0 : 0 ≤ i) (h1 : i < n) : ixN n i = some i.toNat := by
  unfold ixN
  rw [if_pos h0, if_pos h1]
theorem map_int {ns : List Int} {i : Nat} (h : i < ns.length) : (ns.map V.int)[i]? = some (.int ns[i]) := by simp [h]
theorem map_get {ns : List Int} {i : Nat} {x : V} (h : (ns.map V.int)[i]? = some x) : ∃ n, ns[i]? = some n ∧ x = .int n := by
  rw [List.getElem?_map] at h
  cases e : ns[i]? with
  | none => rw [e] at h; cases h
  | some z => rw [e] at h; exact ⟨z, rfl, (Option.some.inj h).symm⟩
theorem take_snoc {α : Type} {l : List α} {i : Nat} {x : α} (h : l[i]? = some x) : l.take (i + 1) = l.take i ++ [x] := by
  rw [List.take_succ, h]
  rfl
theorem upd_at {a : Addr} {o : HO} {b : Addr} (h : b = a) : upd H a o b = some o := by subst h; exact upd_same
/-- all but what stands at a is kept -/
def But (a : Addr) (H H' : Hp) : Prop := ∀ b o, b ≠ a → H b = some o → H' b = some o
theorem But.refl (a : Addr) (H : Hp) : But a H H := fun _ _ _ e => e
theorem But.trans {a : Addr} {H H1 H2 : Hp} (x : But a H H1) (y : But a H1 H2) : But a H H2 := fun b o n e => y b o n (x b o n e)
theorem But.same {a : Addr} {H H1 H2 : Hp} (x : But a H H1) (y : Same H1 H2) : But a H H2 := fun b o n e => y b o (x b o n e)
theorem But.of {a : Addr} {H H1 : Hp} (y : Same H H1) : But a H H1 := fun b o _ e => y b o e
theorem But.free {a : Addr} {H H1 : Hp} (x : But a H H1) {l : Addr} (n : l ≠ a) (h : H1 l = none) : H l = none := by
  cases q : H l with
  | none => rfl
  | some o =>
    have := x l o n q
    rw [h] at this
    cases this
theorem But.upd {a : Addr} {H H1 : Hp} {o : HO} (x : But a H H1) : But a H (upd H1 a o) := fun b u n e => by rw [upd_ne n]; exact x b u n e
theorem same_upd {H : Hp} {p : Addr} {o : HO} (h : H p = none) : Same H (upd H p o) := fun b u e => by rw [upd_ne (ne_of_none e h)]; exact e
end Rd

/-! Further rules: enumerate and sorted of a tuple; one of two ways to walk. -/
namespace Ru
open PySem PyProof.Rows
open PySem.AutoSeq1 (wpAny_loadPart')
section
variable {prog : Program} {w : World} {A : Around} {E : Value → Shared → Prop} {s : Shared}
theorem nextOf_tup {it t : Addr} {i : Nat} {items : Array Value} {x : Value} {Q : Value → Shared → Prop} (hit : s.heap.IsTupleIter it t i) (ht : s.heap.IsTuple t items) (hx : items[i]? = some x)
    (hQ : ∀ h', h'.IsTupleIter it t (i + 1) → Heap.SameBut it s.heap h' → Q x { s with heap := h' }) : wpAny (model prog w) A (Builtin.SmallTypes.nextOf (.ref it)) Q E s := by
  obtain ⟨oi, hoi, hci, hdi⟩ := id hit
  obtain ⟨ot, hot, _, nt, hdt⟩ := ht
  unfold Builtin.SmallTypes.nextOf
  refine wpAny_bind (wpAny_callSpecial?_slot (name := Str.ofString "__next__") hit.typeIs F.slot_tuple_iterator_next (wpAny_call_entry F.slot_tuple_iterator_next hit.typeIs F.entry_tuple_iterator_next ?_ (F.args_tuple_iterator_next_1 _)))
  show wpAny _ _ (field (.ref it) 0 >>= _) _ _ s
  refine wpAny_bind (wpAny_field hoi hdi (x := .ref t) rfl ?_)
  show wpAny _ _ (if (Value.ref t == Value.none) = true then _ else _) _ _ s
  rw [if_neg (show ¬ ((Value.ref t == Value.none) = true) from Bool.false_ne_true)]
  show wpAny _ _ (field (.ref it) 1 >>= _) _ _ s
  refine wpAny_bind (wpAny_field hoi hdi (x := .int i 0) rfl ?_)
  show wpAny _ _ (seqItems? (.ref t) >>= _) _ _ s
  refine wpAny_bind (wpAny_seqItems hot hdt ?_)
  simp only [Int.toNat_natCast, hx]
  refine wpAny_bind (wpAny_setField hoi hdi (by simp) (wpAny_pure ⟨x, rfl, wpAny_pure (hQ _ ?_ (Heap.SameBut.update ..))⟩))
  exact ⟨_, Heap.get?_update_self _ hoi (Obj.isFreed_of_fields (Obj.data_mapFields hdi _)), (Obj.cls_mapFields ..).trans hci, by rw [Obj.data_mapFields hdi]; simp [rawInt]⟩
theorem nextOf_tup_end {it t : Addr} {i : Nat} {items : Array Value} {Q : Value → Shared → Prop} (hh : A.handled = none) (hit : s.heap.IsTupleIter it t i) (ht : s.heap.IsTuple t items) (hx : items[i]? = none)
    (hE : ∀ h' e, Heap.ExtBut it s.heap h' → (∃ o, h'.get? e = some o ∧ o.cls = .type "StopIteration") → E (.ref e) { s with heap := h' }) : wpAny (model prog w) A (Builtin.SmallTypes.nextOf (.ref it)) Q E s := by
  obtain ⟨oi, hoi, hci, hdi⟩ := id hit
  obtain ⟨ot, hot, _, nt, hdt⟩ := ht
  unfold Builtin.SmallTypes.nextOf
  refine wpAny_bind (wpAny_callSpecial?_slot (name := Str.ofString "__next__") hit.typeIs F.slot_tuple_iterator_next (wpAny_call_entry F.slot_tuple_iterator_next hit.typeIs F.entry_tuple_iterator_next ?_ (F.args_tuple_iterator_next_1 _)))
  show wpAny _ _ (field (.ref it) 0 >>= _) _ _ s
  refine wpAny_bind (wpAny_field hoi hdi (x := .ref t) rfl ?_)
  show wpAny _ _ (if (Value.ref t == Value.none) = true then _ else _) _ _ s
  rw [if_neg (show ¬ ((Value.ref t == Value.none) = true) from Bool.false_ne_true)]
  show wpAny _ _ (field (.ref it) 1 >>= _) _ _ s
  refine wpAny_bind (wpAny_field hoi hdi (x := .int i 0) rfl ?_)
  show wpAny _ _ (seqItems? (.ref t) >>= _) _ _ s
  refine wpAny_bind (wpAny_seqItems hot hdt ?_)
  simp only [Int.toNat_natCast, hx]
  refine wpAny_bind (wpAny_rule (wpAny_bind (wpAny_setField hoi hdi (by simp) ?_)))
  show wpAny _ _ (newExc (.type "StopIteration") [] >>= _) _ _ _
  refine wpAny_bind ?_
  simp only [newExc, newTuple]
  refine wpAny_bind (wpAny_newObj_type ?_ (by size_fits))
  refine wpAny_bind (m := firstArgMember _ _) (wpAny_of_eq (a := Value.none) (by first | rfl | (simp only [firstArgMember]; rfl)) ?_)
  refine wpAny_newObj_type ?_ (by size_fits)
  simp only [raiseNew]
  refine wpAny_bind (wpAny_handled ?_)
  first | rw [show A.in1.handled = none from hh] | rw [hh]
  refine wpAny_bind (wpAny_pure (wpAny_throw ?_))
  exact hE _ _ (((Heap.SameBut.update ..).extBut.push _).push _) ⟨_, Heap.get?_push_size _ rfl, rfl⟩
end
theorem draws_tup {prog : Program} {w : World} {A : Around} (hh : A.handled = none) (it t : Addr) (hne : t ≠ it) (items : Array Value) :
    Draws prog w A it [it, t] items.size (fun i v => items[i]? = some v) (fun i h => h.IsTupleIter it t i ∧ h.IsTuple t items) where
  live := fun _ _ st => let ⟨o, ho, _⟩ := st.1; ⟨o, ho⟩
  frame := fun _ _ _ st hk => ⟨let ⟨o, ho, r⟩ := st.1; ⟨o, hk it (by simp) o ho, r⟩, let ⟨o, ho, r⟩ := st.2; ⟨o, hk t (by simp) o ho, r⟩⟩
  item := fun i s Q E hi st hQ => by
    refine nextOf_tup st.1 st.2 (x := items[i]) (by simp [hi]) fun h' k1 k2 => ?_
    exact hQ _ h' s.toks (by simp [hi]) ⟨k1, st.2.extBut k2.extBut hne⟩ k2
  done := fun s Q E st hE => nextOf_tup_end hh st.1 st.2 (by simp) hE
theorem meets_enum_tup (l : Addr) (items : Array Value) (n : Nat) (dct : Option Addr) (sl : Array (Option Value)) :
    Meets (Builtin.«enumerate.__new__» ⟨[.type "enumerate", .ref l], []⟩) (fun _ R s => s.heap.get? l = some { cls := .type "tuple", dict := dct, data := .seq items n, slots := sl } ∧
      R (.ok (.ret (.ref (s.heap.push { cls := .type "tuple_iterator", data := .fields #[.ref l, .int 0 0] }).objs.size)))
        { s with heap := (s.heap.push { cls := .type "tuple_iterator", data := .fields #[.ref l, .int 0 0] }).push { cls := .type "enumerate", data := .fields #[.none, .bool false, .ref s.heap.objs.size, rawInt 0, .none, .none] } }) :=
  .of_wp fun prog w A R s h => by
    obtain ⟨hp, g, d, tk, os⟩ := s
    obtain ⟨hl, h⟩ := h
    have hsub := sub_enumerate
    have hL : Heap.IsTuple (Shared.heap ⟨hp, g, d, tk, os⟩) l items := ⟨_, hl, rfl, n, rfl⟩
    wp_walk using wpAny_loadPart' hl
    refine wpAny_stack_any fun st => wpAny_pure ?_
    split
    · rename_i c _ _ _ _ _
      cases (c == Value.type "enumerate")
      · wp_walk using wpAny_loadPart' hl, wpAny_pyIter_tuple hL
        exact ⟨_, rfl, h⟩
      · wp_walk using wpAny_loadPart' hl, wpAny_pyIter_tuple hL
        exact ⟨_, rfl, h⟩
    · wp_walk using wpAny_loadPart' hl, wpAny_pyIter_tuple hL
      exact ⟨_, rfl, h⟩
section
variable {prog : Program} {w : World} {A : Around} {E : Value → Shared → Prop} {s : Shared}
theorem call_enum_tup {l : Addr} {items : Array Value} {Q : Value → Shared → Prop} (hL : s.heap.IsTuple l items)
    (h : ∀ h', IsEnum h' (s.heap.objs.size + 1) s.heap.objs.size 0 .none → h'.IsTupleIter s.heap.objs.size l 0 → h'.objs.size = s.heap.objs.size + 2 → (∀ b o, s.heap.get? b = some o → h'.get? b = some o) → Q (.ref (s.heap.objs.size + 1)) { s with heap := h' }) :
    wpAny (model prog w) A (call (.type "enumerate") [.ref l]) Q E s := by
  obtain ⟨⟨c, dct, dt, sl⟩, hl, hc, n, hd⟩ := hL
  replace hc : c = .type "tuple" := hc
  replace hd : dt = .seq items n := hd
  subst hc hd
  refine callType_new F.called_enumerate (by decide) (F.typeCall_enumerate_1 _) (F.newCall_enumerate_1 _) (fun obj => F.args_object_init_2 obj _) F.entry_enumerate_new (meets_enum_tup l items n dct sl) ⟨hl, ?_⟩
  have hz : (s.heap.push { cls := .type "tuple_iterator", data := .fields #[.ref l, .int 0 0] }).objs.size = s.heap.objs.size + 1 := Heap.size_push ..
  show _ ∧ _
  rw [hz]
  have he : IsEnum ((s.heap.push { cls := .type "tuple_iterator", data := .fields #[.ref l, .int 0 0] }).push { cls := .type "enumerate", data := .fields #[.none, .bool false, .ref s.heap.objs.size, rawInt 0, .none, .none] }) (s.heap.objs.size + 1) s.heap.objs.size 0 .none := by
    have q := Heap.get?_push_size (s.heap.push { cls := .type "tuple_iterator", data := .fields #[.ref l, .int 0 0] }) (o := { cls := .type "enumerate", data := .fields #[.none, .bool false, .ref s.heap.objs.size, rawInt 0, .none, .none] }) rfl
    rw [hz] at q
    exact q
  exact ⟨⟨_, he, rfl⟩, h _ he ⟨_, Heap.get?_push_of_some _ (Heap.get?_push_size _ rfl), rfl, rfl⟩ (by rw [Heap.size_push, hz]) fun b o x => Heap.get?_push_of_some _ (Heap.get?_push_of_some _ x)⟩
/-- a tuple is collected into a new list -/
theorem collect_tup {l : Addr} {vs : List Value} {Q : List Value → Shared → Prop} (hl : s.heap.IsTuple l vs.toArray) (hsz : vs.length ≤ sizeLine)
    (h : Q vs { s with heap := (s.heap.push (seqObj "list" #[] 0)).update s.heap.objs.size (Obj.mapSeq (· ++ vs.toArray)) }) : wpAny (model prog w) A (collect (.ref l)) Q E s := by
  obtain ⟨o, ho, hc, n, hd⟩ := id hl
  unfold collect
  refine wpAny_bind (wpAny_runValue (codeAny_builtin entry_proto_collect' ?_))
  show wpAny _ _ (do again (.builtin "list.__iadd__" ⟨[← newList [], .ref l], []⟩)) _ _ s
  refine wpAny_bind (wpAny_newList (wpAny_pure ⟨Code.quiet_builtin _ (by decide +kernel), codeAny_builtin entry_list_iadd' ?_⟩))
  show wpAny _ _ (Builtin.List.listExtendWith (.ref s.heap.objs.size) (.ref l) (.ref s.heap.objs.size)) _ _ { s with heap := s.heap.push (seqObj "list" #[] 0) }
  unfold Builtin.List.listExtendWith
  have ho' : (s.heap.push (seqObj "list" #[] 0)).get? l = some o := Heap.get?_push_of_some _ ho
  refine wpAny_bind (wpAny_typeOf (T := "tuple") ⟨o, ho', hc⟩ ?_)
  have ht : (Value.type "tuple" == Value.type "tuple") = true := by rfl
  rw [if_pos (by rw [ht]; simp)]
  refine wpAny_bind (listItems_at ho' hd ?_)
  refine wpAny_bind (listItems_at (xs := #[]) (n := 0) (Heap.get?_push_size _ rfl) rfl ?_)
  rw [if_neg (by simp)]
  refine wpAny_bind (listUpdate_at (xs := #[]) (n := 0) (Heap.get?_push_size _ rfl) rfl ?_ (Nat.zero_le _) (by show (#[] ++ vs.toArray).size ≤ sizeLine + 1; simp only [Array.size_append, List.size_toArray, List.length_nil]; omega))
  refine wpAny_pure ?_
  show wpAny (model prog w) A (do
      let o ← load s.heap.objs.size
      match o.data with
      | .seq xs _ => pure xs.toList
      | _ => unsupported "internal:collect") Q E { s with heap := (s.heap.push (seqObj "list" #[] 0)).update s.heap.objs.size (Obj.mapSeq (· ++ vs.toArray)) }
  refine wpAny_bind (wpAny_load (get?_update_seq (Heap.get?_push_size _ rfl) _) ?_)
  show wpAny _ _ (pure ((#[] : Array Value) ++ vs.toArray).toList) Q E _
  rw [show ((#[] : Array Value) ++ vs.toArray).toList = vs by simp]
  exact wpAny_pure h
end

section
variable {prog : Program} {w : World} {A : Around} {E : Value → Shared → Prop} {s : Shared}
open SrtO in
/-- sorted of a tuple: the new list stands at size + 1 -/
theorem sorted_tup {l : Addr} {vs : List Value} {ltv : Value → Value → Bool} {Q : Value → Shared → Prop} (O : Swo ltv) (hl : s.heap.IsTuple l vs.toArray) (hz : vs.length ≤ sizeLine)
    (hS : 2 ≤ vs.length → ∀ (g : Heap) (a : Addr), g.get? a = some (seqObj "list" vs.toArray 0) → (∀ b o, s.heap.get? b = some o → b ≠ a ∧ g.get? b = some o) → SortableO prog w A.in1.in1 { s with heap := g } a vs ltv)
    (h : ∀ out : List Value, Srtd ltv out → Stb ltv out vs → Q (.ref (s.heap.objs.size + 1)) { s with heap := sortedAll s.heap vs out.toArray }) : wpAny (model prog w) A (call (.builtin "sorted") [.ref l]) Q E s := by
  refine Calls.call_function_entry kind_sorted plain_sorted entry_sorted (args_sorted1 _) ?_
  unfold Builtin.«sorted»
  refine wpAny_bind (m := checkCount "sorted" 1 1 _) (wpAny_pure ?_)
  refine wpAny_bind (collect_tup hl hz ?_)
  refine wpAny_bind (wpAny_newList ?_ hz)
  have e1 : ((s.heap.push (seqObj "list" #[] 0)).update s.heap.objs.size (Obj.mapSeq (· ++ vs.toArray))).objs.size = s.heap.objs.size + 1 := by rw [Heap.size_update, size_push']
  have e2 : (((s.heap.push (seqObj "list" #[] 0)).update s.heap.objs.size (Obj.mapSeq (· ++ vs.toArray))).push (seqObj "list" vs.toArray 0)).get? (s.heap.objs.size + 1) = some (seqObj "list" vs.toArray 0) := by
    rw [← e1]
    exact Heap.get?_push_size _ rfl
  have e3 : ∀ b o, s.heap.get? b = some o → b ≠ s.heap.objs.size + 1 ∧ (((s.heap.push (seqObj "list" #[] 0)).update s.heap.objs.size (Obj.mapSeq (· ++ vs.toArray))).push (seqObj "list" vs.toArray 0)).get? b = some o := fun b o q => by
    have lt : b < s.heap.objs.size := Heap.lt_size q
    refine ⟨Nat.ne_of_lt (Nat.lt_succ_of_lt lt), Heap.get?_push_of_some _ ?_⟩
    rw [Heap.get?_update_ne _ _ _ _ (Nat.ne_of_lt lt)]
    exact Heap.get?_push_of_some _ q
  show wpAny _ _ _ _ _ { s with heap := ((s.heap.push (seqObj "list" #[] 0)).update s.heap.objs.size (Obj.mapSeq (· ++ vs.toArray))).push (seqObj "list" vs.toArray 0) }
  rw [e1]
  refine wpAny_bind (wpAny_holding (wpAny_call_entry slot_list_sort ⟨_, e2, rfl⟩ entry_list_sort (list_sort_ord O e2 hz (fun h2 => hS h2 _ _ e2 e3) fun out hs hb => ⟨_, rfl, ?_⟩) (args_list_sort _)))
  exact wpAny_pure ⟨_, rfl, h out hs hb⟩
end
end Ru
namespace Ru
open PySem PySem.Spec PyProof.Rows L2
/-- one of two ways to walk -/
theorem pi_or {X : Cx} {tg e : Expr} {t u : TI} (a : PI X tg e t) (b : PI X tg e u) : PI X tg e (fun σ H R => t σ H R ∨ u σ H R) := ⟨fun pins s σ H R I h => h.elim (a.run pins s σ H R I) (b.run pins s σ H R I)⟩
theorem callR_or {X : Cx} {f : Value} {r r' : List V → Hp → VK → Prop} (a : CallR X f r) (b : CallR X f r') : CallR X f (fun vs H Q => r vs H Q ∨ r' vs H Q) := fun pins s σ H vs us Q I rv h => h.elim (a pins s σ H vs us Q I rv) (b pins s σ H vs us Q I rv)
/-- sorted(t), t a tuple of ints -/
def rSortedTup (K : PySem.W.Frag) : List V → Hp → VK → Prop := fun vs H Q => ∃ (a : Addr) (ns : List Int), vs = [V.ref a] ∧ SqT K H a (ns.map V.int) ∧
  ∀ (ms : List Int) (p : Addr), ms.Perm ns → ms.Pairwise (· ≤ ·) → H p = none → Q (.ref p) (upd H p (.lst (ms.map V.int)))
theorem cr_sortedTup {X : Cx} : CallR X (.builtin "sorted") (rSortedTup X.K) := by
  intro pins s σ H vs us Q I r h
  obtain ⟨a, ns, rfl, hs, q⟩ := h
  obtain ⟨its, rv, hl, hz⟩ := I.tuple hs
  rw [Vals.ref1 r]
  have hi := rv.ints
  refine sorted_tup SrtO.swo_int (show s.heap.IsTuple a its.toArray from hl) (by rw [← rv.length]; exact hz) (fun h2 g b _ _ => SrtO.ints_sortable hi h2) fun out h1 h2 => ?_
  obtain ⟨k1, k2, k3⟩ := SrtO.ints_out hi h1 h2
  obtain ⟨ep, he⟩ := PyProof.Rows.sortedAll_at s.heap its out.toArray
  have ln : ((out.map SrtO.iv).map V.int).length ≤ sizeLine := by
    rw [List.length_map, k2.length_eq]
    rw [List.length_map] at hz
    exact hz
  exact ⟨.ref _, upd H (s.heap.objs.size + 1) (.lst ((out.map SrtO.iv).map V.int)), I.laid (t' := s.toks) (fun _ _ => PyProof.Rows.sortedAll_old) (Nat.le_succ _) ⟨ln, out, ep, vals_of_ints k1, he⟩, rfl, q _ _ k2 k3 (I.hok.fresh (Nat.le_succ _))⟩
/-- enumerate of a tuple: each item in a new pair -/
def IteT (K : PySem.W.Frag) (a : Addr) : It :=
  ⟨fun i H => ∃ (xs : List V) (x : V), SqT K H a xs ∧ xs[i]? = some x, fun i H v H' => ∃ T x, v = .ref T ∧ H T = none ∧ H' = upd H T (.tup [.int (i : Nat), x]) ∧ ∀ xs, SqT K H a xs → xs[i]? = some x, fun i H => ∃ xs : List V, SqT K H a xs ∧ xs.length = i⟩
theorem turn_enumT {P : Program} {w : World} {K : PySem.W.Frag} {elts : List Expr} {kk : Nat} {tpos : Pos} (a e it : Addr) :
    Turn P w K (.Tuple elts kk tpos) (IteT K a) [e, it] e (fun i h => (∃ old, IsEnum h e it ((i : Nat) : Int) old) ∧ h.IsTupleIter it a i ∧ e ≠ it) where
  mem := by simp
  obj := fun i h st b hb => by
    obtain ⟨⟨old, he⟩, ⟨o, ho, hc, hd⟩, _⟩ := st
    have z : b = e ∨ b = it := by simpa using hb
    rcases z with z | z
    · rw [z]; exact ⟨_, he, fun v q => nomatch q⟩
    · rw [z]; exact ⟨o, ho, fun v q => by rw [hd] at q; cases q⟩
  keep := fun i h h' st k => let ⟨⟨old, he⟩, ⟨o, ho, r⟩, hne⟩ := st; ⟨⟨old, k e (by simp) _ he⟩, ⟨o, k it (by simp) o ho, r⟩, hne⟩
  item := by
    intro X hP hw hK hc i pins s σ H E I hf st hg
    subst hP hw hK
    obtain ⟨⟨old, he⟩, hit, hne⟩ := st
    obtain ⟨xs, x, hq, hx⟩ := hg
    obtain ⟨its, rv, p, hz⟩ := I.tuple hq
    obtain ⟨u, hu, ru⟩ := rv.get hx
    have hel : e < s.heap.objs.size := Heap.lt_size he
    have hil : it < s.heap.objs.size := by obtain ⟨_, q, _⟩ := hit; exact Heap.lt_size q
    have hat : a ≠ it := fun z => by
      obtain ⟨o, q1, q2, _⟩ := hit
      obtain ⟨o', q3, q4, _⟩ := (show s.heap.IsTuple a its.toArray from p)
      rw [← z, q3] at q1
      cases q1
      rw [q4] at q2
      exact absurd (Value.type.inj q2) (by decide)
    have hea : e ≠ a := fun z => by
      obtain ⟨o', q3, q4, _⟩ := (show s.heap.IsTuple a its.toArray from p)
      rw [← z, he] at q3
      cases q3
      exact absurd (Value.type.inj q4) (by decide)
    have hlt : i < its.toArray.size := by
      have := (List.getElem?_eq_some_iff.mp hu).1
      simpa using this
    refine wpAny_pyNext_enum_itemD (draws_tup (prog := X.prog) (w := X.w) (A := X.A.in1) (I.ok.hd hc) it a hat its.toArray) he ⟨hit, p⟩ hlt hne (by simp [hne, hea]) fun y h' tk hy ho st' hT hsz hk => ?_
    have hy' : y = u := by
      have z : its.toArray[i]? = some u := by simpa using hu
      rw [z] at hy
      exact (Option.some.inj hy).symm
    subst hy'
    refine ⟨_, rfl, wpAny_letOwnedTupleGo_enum (s := { s with heap := h', toks := tk + 1 }) ho fun h'' he' sb => ?_⟩
    have hT2 : h''.get? s.heap.objs.size = some { cls := .type "tuple", data := .seq #[.int i tk, y] } := (sb.2 _ (Nat.ne_of_gt hel)).trans hT
    have new : ObjOk X.prog X.w (upd H s.heap.objs.size (.tup [.int (i : Nat), x])) h'' s.heap.objs.size (.tup [.int (i : Nat), x]) :=
      ⟨by show 2 ≤ sizeLine; decide, [.int i tk, y], .cons ⟨_, rfl⟩ (.cons ru .nil), ⟨_, hT2, rfl, _, rfl⟩⟩
    have I1 : Inv X pins σ (upd H s.heap.objs.size (.tup [.int (i : Nat), x])) { s with heap := h'', toks := tk + 1 } :=
      I.turnedNew (ch := [e, it]) (fun b ob hb q => (sb.2 b (fun z => hb (by simp [z]))).trans (hk b ob (fun z => hb (by simp [z])) (fun z => hb (by simp [z])) q)) hf (Nat.le_refl _) new
    refine ⟨.ref s.heap.objs.size, _, I1, rfl, ⟨_, x, rfl, I.hok.fresh (Nat.le_refl _), rfl, fun ys hy => by rw [I.tuple_inj hy hq]; exact hx⟩, ⟨⟨y, ?_⟩, ?_, hne⟩, fun b hb => ?_⟩
    · have e1 : ((i + 1 : Nat) : Int) = (i : Int) + 1 := by omega
      rw [e1]; exact he'
    · obtain ⟨o, q, r⟩ := st'.1
      exact ⟨o, (sb.2 it (Ne.symm hne)).trans q, r⟩
    · have hb' : b < s.heap.objs.size := by
        have z : b = e ∨ b = it := by simpa using hb
        rcases z with z | z
        · rw [z]; exact hel
        · rw [z]; exact hil
      rw [upd_ne (Nat.ne_of_lt hb')]
      exact (hf b hb).1
  done := by
    intro X hP hw hK hc i pins s σ H E I hf st hg
    subst hP hw hK
    obtain ⟨⟨old, he⟩, hit, hne⟩ := st
    obtain ⟨xs, hq, hx⟩ := hg
    obtain ⟨its, rv, p, hz⟩ := I.tuple hq
    obtain ⟨f0, f1, f2, f3, f4, f5⟩ := hf it (by simp)
    have hl := rv.length
    have hat : a ≠ it := fun z => by
      obtain ⟨o, q1, q2, _⟩ := hit
      obtain ⟨o', q3, q4, _⟩ := (show s.heap.IsTuple a its.toArray from p)
      rw [← z, q3] at q1
      cases q1
      rw [q4] at q2
      exact absurd (Value.type.inj q2) (by decide)
    have hn : i = its.toArray.size := by simp; omega
    refine wpAny_pyNext_enum_endD (draws_tup (prog := X.prog) (w := X.w) (A := X.A.in1) (I.ok.hd hc) it a hat its.toArray) he (by rw [hn] at hit; exact ⟨hit, p⟩) fun h' eb => ⟨rfl, ?_⟩
    obtain ⟨g0, g1, g2, g3, g4, g5⟩ := hf e (by simp)
    obtain ⟨f0, f1, f2, f3, f4, f5⟩ := hf it (by simp)
    exact I.turned (t' := s.toks) (fun b o hb q => eb b o hb q) f0 f1 f3 f4 f5
  self := fun A i s Q E st h => let ⟨⟨_, he⟩, _⟩ := st; wpAny_pyIter_enum he h
def iEnumT (K : PySem.W.Frag) (ta : TA) : TI := fun σ H R => ta σ H fun vs H1 => ∃ a xs, vs = [.ref a] ∧ SqT K H1 a xs ∧ R (IteT K a) H1
theorem pi_enumT {X : Cx} {e : Expr} {ta : TA} {p pos tpos : Pos} {elts : List Expr} {kk : Nat} (hg : Gl X "enumerate") (hm : X.mg "enumerate" = none) (ha : PA X [e] ta) (hs : starEach [e] X.env = [(false, eval e X.env)] := by rfl) :
    PI X (.Tuple elts kk tpos) (.Call (.Name "enumerate" p) [e] [] pos) (iEnumT X.K ta) := by
  refine ⟨fun pins s σ H R I h => ?_⟩
  refine Call_ (ld_blt I hg hm boot_enumerate (PyProof.Rows.callWith_type1 (thn (ha.run pos pins s σ H _ I h) fun us s1 ⟨vs, H1, I1, r1, q1⟩ => ?_) hs rfl))
  obtain ⟨a, xs, ex, hq, q⟩ := q1
  subst ex
  cases r1 with
  | cons r rr =>
    cases rr
    cases r
    obtain ⟨its, rv, p', hz⟩ := I1.tuple hq
    refine call_enum_tup (show s1.heap.IsTuple a its.toArray from p') fun h' he hit hsz hk => wpAny_pyIter_enum he ?_
    have I2 : Inv X pins σ H1 { s1 with heap := h' } := I1.kept (t' := s1.toks) hk
    refine ⟨s1.heap.objs.size + 1, [s1.heap.objs.size + 1, s1.heap.objs.size], _, _, H1, rfl, I2, turn_enumT a (s1.heap.objs.size + 1) s1.heap.objs.size, ⟨⟨.none, he⟩, hit, Nat.succ_ne_self _⟩, fun b hb => ?_, q⟩
    have z : b = s1.heap.objs.size + 1 ∨ b = s1.heap.objs.size := by simpa using hb
    have hle : s1.heap.objs.size ≤ b := by
      rcases z with z | z
      · rw [z]; exact Nat.le_add_right _ _
      · rw [z]; exact Nat.le_refl _
    exact I1.fpOk hle (I1.hok.fresh hle)
/-- a loop over enumerate of a list that stands still -/
theorem for_enum {K : PySem.W.Frag} {a : Addr} {xs : List V} {g : TG} {tb : TS} {D : Ends} {σ : L2.St} {H : Hp} (Pv : Nat → L2.St → Hp → Prop) (h0 : Pv 0 σ H) (hl : ∀ i σ H, i ≤ xs.length → Pv i σ H → SqL K H a xs)
    (hs : ∀ i x σ H (T : Addr), xs[i]? = some x → Pv i σ H → H T = none → g (.ref T) σ (upd H T (.tup [.int (i : Nat), x])) fun σ2 H2 => tb { D with nx := Pv (i + 1), ct := Pv (i + 1), bk := D.nx } σ2 H2) (hd : ∀ σ H, Pv xs.length σ H → D.nx σ H) :
    ∃ W : Nat → Nat → L2.St → Hp → Prop, (∃ m, W 0 m σ H) ∧ ∀ i m σ H, W i m σ H →
      ((Ite K a).stop i H ∧ D.nx σ H) ∨ ((Ite K a).go i H ∧ ∃ N : L2.St → Hp → Prop, (∀ σ' H', N σ' H' → ∃ m', m' < m ∧ W (i + 1) m' σ' H') ∧ ∀ x H', (Ite K a).yld i H x H' → g x σ H' fun σ2 H2 => tb { D with nx := N, ct := N, bk := D.nx } σ2 H2) := by
  refine ⟨fun i m σ H => m = xs.length - i ∧ i ≤ xs.length ∧ Pv i σ H, ⟨xs.length, by simp, Nat.zero_le _, h0⟩, ?_⟩
  rintro i m σ H ⟨rfl, hi, p⟩
  have q := hl i σ H hi p
  by_cases lt : i < xs.length
  · refine .inr ⟨⟨xs, xs[i], q, by simp [lt]⟩, Pv (i + 1), fun σ' H' p' => ⟨xs.length - (i + 1), by omega, rfl, lt, p'⟩, fun x H' y => ?_⟩
    obtain ⟨T, z, rfl, hT, rfl, y⟩ := y
    exact hs i z σ H T (y xs q) p hT
  · have e : i = xs.length := by omega
    subst e
    exact .inl ⟨⟨xs, q, Nat.le_refl _⟩, hd σ H p⟩
theorem for_enumT {K : PySem.W.Frag} {a : Addr} {xs : List V} {g : TG} {tb : TS} {D : Ends} {σ : L2.St} {H : Hp} (Pv : Nat → L2.St → Hp → Prop) (h0 : Pv 0 σ H) (hl : ∀ i σ H, i ≤ xs.length → Pv i σ H → SqT K H a xs)
    (hs : ∀ i x σ H (T : Addr), xs[i]? = some x → Pv i σ H → H T = none → g (.ref T) σ (upd H T (.tup [.int (i : Nat), x])) fun σ2 H2 => tb { D with nx := Pv (i + 1), ct := Pv (i + 1), bk := D.nx } σ2 H2) (hd : ∀ σ H, Pv xs.length σ H → D.nx σ H) :
    ∃ W : Nat → Nat → L2.St → Hp → Prop, (∃ m, W 0 m σ H) ∧ ∀ i m σ H, W i m σ H →
      ((IteT K a).stop i H ∧ D.nx σ H) ∨ ((IteT K a).go i H ∧ ∃ N : L2.St → Hp → Prop, (∀ σ' H', N σ' H' → ∃ m', m' < m ∧ W (i + 1) m' σ' H') ∧ ∀ x H', (IteT K a).yld i H x H' → g x σ H' fun σ2 H2 => tb { D with nx := N, ct := N, bk := D.nx } σ2 H2) := by
  refine ⟨fun i m σ H => m = xs.length - i ∧ i ≤ xs.length ∧ Pv i σ H, ⟨xs.length, by simp, Nat.zero_le _, h0⟩, ?_⟩
  rintro i m σ H ⟨rfl, hi, p⟩
  have q := hl i σ H hi p
  by_cases lt : i < xs.length
  · refine .inr ⟨⟨xs, xs[i], q, by simp [lt]⟩, Pv (i + 1), fun σ' H' p' => ⟨xs.length - (i + 1), by omega, rfl, lt, p'⟩, fun x H' y => ?_⟩
    obtain ⟨T, z, rfl, hT, rfl, y⟩ := y
    exact hs i z σ H T (y xs q) p hT
  · have e : i = xs.length := by omega
    subst e
    exact .inl ⟨⟨xs, q, rfl⟩, hd σ H p⟩
/-! ### a row: a list or a tuple -/
def SqR (K : PySem.W.Frag) (H : Hp) (a : Addr) (xs : List V) : Prop := SqL K H a xs ∨ SqT K H a xs
theorem same_tup {K : PySem.W.Frag} {H H' : Hp} {a : Addr} {xs : List V} (e : Same H H') (h : SqT K H a xs) : SqT K H' a xs := by
  rcases h with (h | ⟨o, h⟩) | h
  · exact .inl (.inl (e _ _ h))
  · exact .inl (.inr ⟨o, e _ _ h⟩)
  · exact .inr h
theorem SqR.same {K : PySem.W.Frag} {H H' : Hp} {a : Addr} {xs : List V} (e : Same H H') (h : SqR K H a xs) : SqR K H' a xs := h.imp e.seq (same_tup e)
/-- a loop over a row that stands still -/
theorem for_row {K : PySem.W.Frag} {a : Addr} {xs : List V} {g : TG} {tb : TS} {D : Ends} {σ : L2.St} {H : Hp} {ta : TE} (ea : ∀ Q, Q (.ref a) H → ta σ H Q) (Pv : Nat → L2.St → Hp → Prop) {Hb : Hp} (hr : SqR K Hb a xs) (h0 : Pv 0 σ H) (hl : ∀ i σ H', i ≤ xs.length → Pv i σ H' → Same Hb H')
    (hs : ∀ i x σ H, xs[i]? = some x → Pv i σ H → g x σ H fun σ2 H2 => tb { D with nx := Pv (i + 1), ct := Pv (i + 1), bk := D.nx } σ2 H2) (hd : ∀ σ H, Pv xs.length σ H → D.nx σ H) :
    tFor (fun σ H R => iList K ta σ H R ∨ iTup K ta σ H R) g tb D σ H := by
  rcases hr with hr | hr
  · exact .inl (ea _ ⟨a, rfl, ⟨_, (hl 0 σ H (Nat.zero_le _) h0).seq hr⟩, for_list (K := K) (a := a) (xs := xs) Pv h0 (fun i σ H' hi p => (hl i σ H' hi p).seq hr) hs hd⟩)
  · exact .inr (ea _ ⟨a, rfl, ⟨_, same_tup (hl 0 σ H (Nat.zero_le _) h0) hr⟩, for_tup (K := K) (a := a) (xs := xs) Pv h0 (fun i σ H' hi p => same_tup (hl i σ H' hi p) hr) hs hd⟩)
/-- .. over enumerate of a row -/
theorem for_enumR {K : PySem.W.Frag} {a : Addr} {xs : List V} {g : TG} {tb : TS} {D : Ends} {σ : L2.St} {H : Hp} {ta : TA} (ea : ∀ Q, Q [.ref a] H → ta σ H Q) (Pv : Nat → L2.St → Hp → Prop) {Hb : Hp} (hr : SqR K Hb a xs) (h0 : Pv 0 σ H) (hl : ∀ i σ H', i ≤ xs.length → Pv i σ H' → Same Hb H')
    (hs : ∀ i x σ H (T : Addr), xs[i]? = some x → Pv i σ H → H T = none → g (.ref T) σ (upd H T (.tup [.int (i : Nat), x])) fun σ2 H2 => tb { D with nx := Pv (i + 1), ct := Pv (i + 1), bk := D.nx } σ2 H2) (hd : ∀ σ H, Pv xs.length σ H → D.nx σ H) :
    tFor (fun σ H R => iEnum K ta σ H R ∨ iEnumT K ta σ H R) g tb D σ H := by
  rcases hr with hr | hr
  · exact .inl (ea _ ⟨a, _, rfl, (hl 0 σ H (Nat.zero_le _) h0).seq hr, for_enum (K := K) (a := a) (xs := xs) Pv h0 (fun i σ H' hi p => (hl i σ H' hi p).seq hr) hs hd⟩)
  · exact .inr (ea _ ⟨a, _, rfl, same_tup (hl 0 σ H (Nat.zero_le _) h0) hr, for_enumT (K := K) (a := a) (xs := xs) Pv h0 (fun i σ H' hi p => same_tup (hl i σ H' hi p) hr) hs hd⟩)
theorem ty_L {K : PySem.W.Frag} {H : Hp} {a : Addr} {xs : List V} (h : SqL K H a xs) : TyX K H (.ref a) (.type "list") := by
  rcases h with (h | ⟨o, h⟩) | ⟨o, its, n, h1, h2, _⟩
  · exact .base (.lst h)
  · exact .base (.frz h)
  · exact .kList h1 h2
theorem ty_T {K : PySem.W.Frag} {H : Hp} {a : Addr} {xs : List V} (h : SqT K H a xs) : TyX K H (.ref a) (.type "tuple") := by
  rcases h with (h | ⟨o, h⟩) | ⟨o, its, n, h1, h2, _⟩
  · exact .base (.tup h)
  · exact .fTuple h
  · exact .kTuple h1 h2
/-- isinstance(row, (list, tuple)) -/
theorem isRow {K : PySem.W.Frag} {H : Hp} {a tp : Addr} {xs : List V} {Q : VK} (h : SqR K H a xs) (ht : H tp = some (.tup [.ty "list", .ty "tuple"])) (q : Q (.bl true) H) : rIsiT K [.ref a, .ref tp] H Q := by
  have pc : Paired ClsV [.ty "list", .ty "tuple"] [.type "list", .type "tuple"] := .cons (.ty _) (.cons (.ty _) .nil)
  rcases h with h | h
  · exact ⟨_, tp, _, _, _, true, rfl, ht, pc, ty_L h, kitAny_cons (kit_ty (r := true) (by decide +kernel)) (fun z => nomatch z) (fun _ => rfl), q⟩
  · exact ⟨_, tp, _, _, _, true, rfl, ht, pc, ty_T h, kitAny_cons (kit_ty (r := false) (by decide +kernel)) (fun _ => kitAny_cons (kit_ty (r := true) (by decide +kernel)) (fun z => nomatch z) (fun _ => rfl)) (fun z => nomatch z), q⟩
theorem sortedR {K : PySem.W.Frag} {H : Hp} {a : Addr} {ns : List Int} {Q : VK} (hp : SqR K H a (ns.map V.int)) (h : ∀ (ms : List Int) (p : Addr) (G : Hp), ms.Perm ns → ms.Pairwise (· ≤ ·) → G p = some (.lst (ms.map V.int)) → Same H G → H p = none → Q (.ref p) G) : rSortedI K [.ref a] H Q ∨ rSortedTup K [.ref a] H Q :=
  hp.imp (fun q => Rd.sortedI q h) fun q => ⟨a, ns, rfl, q, fun ms p h1 h2 h3 => h ms p _ h1 h2 upd_same (fun b u e => by rw [upd_ne (ne_of_none e h3)]; exact e) h3⟩
end Ru

/-! Readings of texts, comprehensions and own objects by their heads; letters. -/
namespace Rd
open PySem PySem.Spec PyProof.Rows L2
variable {X : Cx} {D : Ends} {σ : L2.St} {H : Hp} {K : PySem.W.Frag}
/-! ### texts -/
def nAddS : R2 := fun x y H Q => ∃ i j, x = .str i ∧ y = .str j ∧ i.length + j.length ≤ sizeLine ∧ Q (.str (i ++ j)) H
theorem o_addS : OpR X (binaryOp .Add) nAddS := op_add_str
theorem addS {i j : Str} {Q : VK} (hz : i.length + j.length ≤ sizeLine) (h : Q (.str (i ++ j)) H) : nAddS (.str i) (.str j) H Q := ⟨i, j, rfl, rfl, hz, h⟩
def nInC : R2 := fun x y H Q => ∃ (c : Nat) (z : Str), x = .str ⟨#[c]⟩ ∧ y = .str z ∧ Q (.bl (decide (c ∈ z.cps.toList))) H
theorem o_inC : OpR X (compareOp .In) nInC := op_in_sign
theorem inC {c : Nat} {z : Str} {Q : VK} (h : Q (.bl (decide (c ∈ z.cps.toList))) H) : nInC (.str ⟨#[c]⟩) (.str z) H Q := ⟨c, z, rfl, rfl, h⟩
theorem inCT {c : Nat} {z : Str} {Q : VK} (e : c ∈ z.cps.toList) (h : Q (.bl true) H) : nInC (.str ⟨#[c]⟩) (.str z) H Q := inC (by rw [decide_eq_true e]; exact h)
theorem nodup_take {α : Type} {l : List α} {i : Nat} {x : α} (nd : l.Nodup) (h : l[i]? = some x) : x ∉ l.take i := by
  intro m
  obtain ⟨j, hj, e⟩ := List.getElem_of_mem m
  rw [List.length_take] at hj
  have e2 : l[j]? = some x := by rw [← e, List.getElem_take]; exact List.getElem?_eq_getElem (by omega)
  have := (List.getElem?_inj (by omega) nd).mp (e2.trans h.symm)
  omega
theorem ixS {z : Str} {i : Int} {c : Nat} {Q : VK} (hz : z.length ≤ sizeLine) (e : atI z.cps.toList i = some c) (h : Q (.str ⟨#[c]⟩) H) : rIxS (.str z) (.int i) H Q := ⟨z, i, c, rfl, rfl, hz, e, h⟩
theorem inStrs {neg : Bool} {z : Str} {p : Addr} {ws : List Str} {Q : VK} (hp : SqL K H p (ws.map V.str) ∨ SqT K H p (ws.map V.str)) (h : Q (.bl (if neg then !decide (z ∈ ws) else decide (z ∈ ws))) H) : rIn K neg (.str z) (.ref p) H Q := by
  have e : inV (.str z) (ws.map V.str) = decide (z ∈ ws) := by
    unfold inV
    rw [List.any_map, Bool.eq_iff_iff, List.any_eq_true, decide_eq_true_iff]
    constructor
    · rintro ⟨y, hy, q⟩
      have : y = z := by simpa [eqV] using q
      exact this ▸ hy
    · intro hz
      exact ⟨z, hz, by simp [eqV]⟩
  exact Rd.inS hp rfl (flat_strs ws) (by rw [e]; exact h)
theorem inStrsY {z : Str} {p : Addr} {ws : List Str} {Q : VK} (hp : SqL K H p (ws.map V.str) ∨ SqT K H p (ws.map V.str)) (h : Q (.bl (decide (z ∈ ws))) H) : rIn K false (.str z) (.ref p) H Q := inStrs hp h
theorem inStrsN {z : Str} {p : Addr} {ws : List Str} {Q : VK} (hp : SqL K H p (ws.map V.str) ∨ SqT K H p (ws.map V.str)) (h : Q (.bl (!decide (z ∈ ws))) H) : rIn K true (.str z) (.ref p) H Q := inStrs hp h
theorem inInts {neg : Bool} {z : Int} {p : Addr} {ws : List Int} {Q : VK} (hp : SqL K H p (ws.map V.int) ∨ SqT K H p (ws.map V.int)) (h : Q (.bl (if neg then !decide (z ∈ ws) else decide (z ∈ ws))) H) : rIn K neg (.int z) (.ref p) H Q := by
  have e : inV (.int z) (ws.map V.int) = decide (z ∈ ws) := by
    unfold inV
    rw [List.any_map, Bool.eq_iff_iff, List.any_eq_true, decide_eq_true_iff]
    constructor
    · rintro ⟨y, hy, q⟩
      have : y = z := by simpa [eqV] using q
      exact this ▸ hy
    · intro hz
      exact ⟨z, hz, by simp [eqV]⟩
  exact Rd.inS hp rfl (by rw [List.all_map]; exact List.all_eq_true.mpr fun _ _ => rfl) (by rw [e]; exact h)
theorem inIntsY {z : Int} {p : Addr} {ws : List Int} {Q : VK} (hp : SqL K H p (ws.map V.int) ∨ SqT K H p (ws.map V.int)) (h : Q (.bl (decide (z ∈ ws))) H) : rIn K false (.int z) (.ref p) H Q := inInts hp h
theorem inIntsN {z : Int} {p : Addr} {ws : List Int} {Q : VK} (hp : SqL K H p (ws.map V.int) ∨ SqT K H p (ws.map V.int)) (h : Q (.bl (!decide (z ∈ ws))) H) : rIn K true (.int z) (.ref p) H Q := inInts hp h
theorem map_str {ns : List Str} {i : Nat} (h : i < ns.length) : (ns.map V.str)[i]? = some (.str ns[i]) := by simp [h]
theorem map_strG {ns : List Str} {i : Nat} {x : V} (h : (ns.map V.str)[i]? = some x) : ∃ n, ns[i]? = some n ∧ x = .str n := by
  rw [List.getElem?_map] at h
  cases e : ns[i]? with
  | none => rw [e] at h; cases h
  | some z => rw [e] at h; exact ⟨z, rfl, (Option.some.inj h).symm⟩
theorem map_refG {ns : List Addr} {i : Nat} {x : V} (h : (ns.map V.ref)[i]? = some x) : ∃ n, ns[i]? = some n ∧ x = .ref n := by
  rw [List.getElem?_map] at h
  cases e : ns[i]? with
  | none => rw [e] at h; cases h
  | some z => rw [e] at h; exact ⟨z, rfl, (Option.some.inj h).symm⟩
theorem map_ref {ns : List Addr} {i : Nat} (h : i < ns.length) : (ns.map V.ref)[i]? = some (.ref ns[i]) := by simp [h]
theorem ins {l : Addr} {xs : List V} {i : Int} {y : V} {Q : VK} (hp : H l = some (.lst xs)) (hz : xs.length < sizeLine) (h0 : 0 ≤ i) (h1 : i < 2 ^ 63) (h : ∀ G : Hp, G l = some (.lst (xs.take i.toNat ++ [y] ++ xs.drop i.toNat)) → (∀ b, b ≠ l → G b = H b) → Q .non G) :
    ∃ (l' : Addr) (xs' : List V) (i' : Int) (y' : V), V.ref l = .ref l' ∧ [V.int i, y] = [.int i', y'] ∧ H l' = some (.lst xs') ∧ xs'.length < sizeLine ∧ 0 ≤ i' ∧ i' < 2 ^ 63 ∧ Q .non (upd H l' (.lst (xs'.take i'.toNat ++ [y'] ++ xs'.drop i'.toNat))) :=
  ⟨l, xs, i, y, rfl, rfl, hp, hz, h0, h1, h _ upd_same fun b hb => upd_ne hb⟩
def nInsert : V → List V → Hp → VK → Prop := fun x vs H Q => ∃ (l : Addr) (xs : List V) (i : Int) (y : V), x = .ref l ∧ vs = [.int i, y] ∧ H l = some (.lst xs) ∧ xs.length < sizeLine ∧ 0 ≤ i ∧ i < 2 ^ 63 ∧
    Q .non (upd H l (.lst (xs.take i.toNat ++ [y] ++ xs.drop i.toNat)))
theorem m_insert : MtR X "list.insert" nInsert := mt_insert
theorem insert {l : Addr} {xs : List V} {i : Int} {y : V} {Q : VK} (hp : H l = some (.lst xs)) (hz : xs.length < sizeLine) (h0 : 0 ≤ i) (h1 : i < 2 ^ 63) (h : ∀ G : Hp, G l = some (.lst (xs.take i.toNat ++ [y] ++ xs.drop i.toNat)) → (∀ b, b ≠ l → G b = H b) → Q .non G) : nInsert (.ref l) [.int i, y] H Q :=
  ins hp hz h0 h1 h
/-! ### equal lists of texts -/
theorem dpAll_strs : ∀ ns : List Str, DpAll K H (ns.map V.str) (ns.map PyData.str)
  | [] => .nil
  | n :: ns => .cons (.str n) (dpAll_strs ns)
theorem canLay_strs : ∀ ns : List Str, (∀ z ∈ ns, PyData.strOk z = true) → PyData.canLayAll0 (ns.map PyData.str) = true
  | [], _ => rfl
  | n :: ns, h => by
    show (PyData.canLay0 (.str n) && PyData.canLayAll0 (ns.map PyData.str)) = true
    rw [canLay_strs ns fun z hz => h z (List.mem_cons_of_mem _ hz)]
    show (PyData.strOk n && true) = true
    rw [h n List.mem_cons_self]
    rfl
theorem depth_strs : ∀ ns : List Str, PyData.depthAll (ns.map PyData.str) = 0
  | [] => rfl
  | n :: ns => by
    show max (PyData.depth (.str n)) (PyData.depthAll (ns.map PyData.str)) = 0
    rw [depth_strs ns]
    rfl
theorem shaped_strs {ns : List Str} (h : ∀ z ∈ ns, PyData.strOk z = true) : SeqAt.shaped (.list (ns.map PyData.str)) = true := by
  have h1 : PyData.canLay0 (.list (ns.map PyData.str)) = true := canLay_strs ns h
  have h2 : PyData.depth (.list (ns.map PyData.str)) = 1 := by
    show PyData.depthAll (ns.map PyData.str) + 1 = 1
    rw [depth_strs]
  unfold SeqAt.shaped
  rw [h1, h2]
  rfl
theorem eqStrs {a b : Addr} {ns : List Str} {Q : VK} (h1 : SqL K H a (ns.map V.str)) (h2 : SqL K H b (ns.map V.str)) (h : ∀ z ∈ ns, PyData.strOk z = true) (q : Q (.bl true) H) : rEqD K (.ref a) (.ref b) H Q := by
  refine ⟨_, _, .lst h1 (dpAll_strs ns), .lst h2 (dpAll_strs ns), shaped_strs h, shaped_strs h, ?_⟩
  rw [SeqAt.eqv_refl _ (SeqAt.canLay_of_shaped (shaped_strs h))]
  exact q
theorem neStrs {a b : Addr} {ns : List Str} {Q : VK} (h1 : SqL K H a (ns.map V.str)) (h2 : SqL K H b (ns.map V.str)) (h : ∀ z ∈ ns, PyData.strOk z = true) (q : Q (.bl false) H) : rNeD K (.ref a) (.ref b) H Q := by
  refine ⟨_, _, .lst h1 (dpAll_strs ns), .lst h2 (dpAll_strs ns), shaped_strs h, shaped_strs h, ?_⟩
  rw [SeqAt.eqv_refl _ (SeqAt.canLay_of_shaped (shaped_strs h))]
  exact q
/-! ### equal lists of ints -/
theorem dpAll_ints : ∀ ns : List Int, DpAll K H (ns.map V.int) (ns.map PyData.int)
  | [] => .nil
  | n :: ns => .cons (.int n) (dpAll_ints ns)
theorem canLay_ints : ∀ ns : List Int, PyData.canLayAll0 (ns.map PyData.int) = true
  | [] => rfl
  | n :: ns => by
    show (PyData.canLay0 (.int n) && PyData.canLayAll0 (ns.map PyData.int)) = true
    rw [canLay_ints ns]
    rfl
theorem depth_ints : ∀ ns : List Int, PyData.depthAll (ns.map PyData.int) = 0
  | [] => rfl
  | n :: ns => by
    show max (PyData.depth (.int n)) (PyData.depthAll (ns.map PyData.int)) = 0
    rw [depth_ints ns]
    rfl
theorem shaped_ints (ns : List Int) : SeqAt.shaped (.list (ns.map PyData.int)) = true := by
  have h1 : PyData.canLay0 (.list (ns.map PyData.int)) = true := canLay_ints ns
  have h2 : PyData.depth (.list (ns.map PyData.int)) = 1 := by
    show PyData.depthAll (ns.map PyData.int) + 1 = 1
    rw [depth_ints]
  unfold SeqAt.shaped
  rw [h1, h2]
  rfl
theorem eqv_ints : ∀ (xs ys : List Int), PyData.eqvAll (xs.map PyData.int) (ys.map PyData.int) = decide (xs = ys)
  | [], [] => rfl
  | [], _ :: _ => rfl
  | _ :: _, [] => rfl
  | x :: xs, y :: ys => by
    show (PyData.eqv (.int x) (.int y) && PyData.eqvAll (xs.map PyData.int) (ys.map PyData.int)) = _
    rw [eqv_ints xs ys, Bool.eq_iff_iff]
    show ((x == y) && decide (xs = ys)) = true ↔ _
    simp
theorem eqInts {a b : Addr} {ns ms : List Int} {Q : VK} (h1 : SqL K H a (ns.map V.int)) (h2 : SqL K H b (ms.map V.int)) (q : Q (.bl (decide (ns = ms))) H) : rEqD K (.ref a) (.ref b) H Q := by
  refine ⟨_, _, .lst h1 (dpAll_ints ns), .lst h2 (dpAll_ints ms), shaped_ints ns, shaped_ints ms, ?_⟩
  show Q (.bl (PyData.eqvAll (ns.map PyData.int) (ms.map PyData.int))) H
  rw [eqv_ints]
  exact q
theorem neInts {a b : Addr} {ns ms : List Int} {Q : VK} (h1 : SqL K H a (ns.map V.int)) (h2 : SqL K H b (ms.map V.int)) (q : Q (.bl (!decide (ns = ms))) H) : rNeD K (.ref a) (.ref b) H Q := by
  refine ⟨_, _, .lst h1 (dpAll_ints ns), .lst h2 (dpAll_ints ms), shaped_ints ns, shaped_ints ms, ?_⟩
  show Q (.bl (!PyData.eqvAll (ns.map PyData.int) (ms.map PyData.int))) H
  rw [eqv_ints]
  exact q
/-! ### comprehensions -/
def Lc (J : It) (g : TG) (tt : TT) (te : TE) (vs : List Nat) (σ : L2.St) (H1 : Hp) (Q : VK) : Prop := ∀ D, H1 D = none → ∃ W : Nat → Nat → Hp → Prop, (∃ m, W 0 m (upd H1 D (.lst []))) ∧ ∀ i m H, W i m H →
  (J.stop i H ∧ Q (.ref D) H) ∨ (J.go i H ∧ ∃ Nx : Hp → Prop, (∀ H', Nx H' → ∃ m', m' < m ∧ W (i + 1) m' H') ∧ ∀ x H', J.yld i H x H' → g x (wipe σ vs) H' fun σ2 H2 => wipe σ2 vs = wipe σ vs ∧ tt σ2 H2 fun b H3 =>
    if b = true then te σ2 H3 fun y H4 => ∃ acc, H4 D = some (.lst acc) ∧ acc.length < sizeLine ∧ Nx (upd H4 D (.lst (acc ++ [y]))) else Nx H3)
theorem lc {wi : TI} {g : TG} {tt : TT} {te : TE} {vs : List Nat} {Q : VK} (h : wi σ H fun J H1 => Lc J g tt te vs σ H1 Q) : tLc wi g tt te vs σ H Q := h
theorem istr {te : TE} {R : It → Hp → Prop} (h : te σ H fun v H1 => ∃ x, v = .str x ∧ R (Its x) H1) : iStr te σ H R := h
theorem strE {z : Str} {P : Str → Prop} (h : P z) : ∃ x, V.str z = .str x ∧ P x := ⟨z, rfl, h⟩
theorem tyes {Q : Bool → Hp → Prop} (h : Q true H) : tYes σ H Q := h
/-- the state of a comprehension: the list at D holds acc, all ahead of it stands -/
def LcP (D : Addr) (H1 : Hp) (R : Nat → List V → Hp → Prop) : Nat → Hp → Prop := fun i H => ∃ acc, H D = some (.lst acc) ∧ Same H1 H ∧ R i acc H
def LcPush (D : Addr) (H1 : Hp) (R : Nat → List V → Hp → Prop) (i : Nat) (y : V) (H4 : Hp) : Prop := ∃ acc, H4 D = some (.lst acc) ∧ acc.length < sizeLine ∧ LcP D H1 R (i + 1) (upd H4 D (.lst (acc ++ [y])))
theorem lcPush {D : Addr} {H1 H4 : Hp} {R : Nat → List V → Hp → Prop} {i : Nat} {y : V} {acc : List V} (hD : H4 D = some (.lst acc)) (nD : H1 D = none) (s1 : Same H1 H4) (hz : acc.length < sizeLine) (r : ∀ G : Hp, G D = some (.lst (acc ++ [y])) → (∀ b, b ≠ D → G b = H4 b) → R (i + 1) (acc ++ [y]) G) : LcPush D H1 R i y H4 :=
  ⟨acc, hD, hz, acc ++ [y], upd_same, fun b o e => by rw [upd_ne (ne_of_none e nD)]; exact s1 b o e, r _ upd_same fun b hb => upd_ne hb⟩
theorem lcS {J : It} {n : Nat} {G : Hp → Prop} {Y : Nat → Hp → V → Hp → Prop} (w : Walk J n G Y) {g : TG} {tt : TT} {te : TE} {vs : List Nat} {H1 : Hp} {Q : VK} (hG : ∀ H, Same H1 H → G H) (R : Addr → Nat → List V → Hp → Prop)
    (r0 : ∀ (D : Addr) (G : Hp), H1 D = none → G D = some (.lst []) → Same H1 G → R D 0 [] G)
    (hs : ∀ (D : Addr) i x H H' acc, H1 D = none → i < n → H D = some (.lst acc) → Same H1 H → R D i acc H → Y i H x H' → g x (wipe σ vs) H' fun σ2 H2 => wipe σ2 vs = wipe σ vs ∧ tt σ2 H2 fun b H3 =>
      if b = true then te σ2 H3 fun y H4 => LcPush D H1 (R D) i y H4 else LcP D H1 (R D) (i + 1) H3)
    (hd : ∀ (D : Addr) acc H, H1 D = none → H D = some (.lst acc) → Same H1 H → R D n acc H → Q (.ref D) H) : Lc J g tt te vs σ H1 Q := fun D nD =>
  lc_it w (LcP D H1 (R D)) ⟨[], upd_same, same_upd nD, r0 D _ nD upd_same (same_upd nD)⟩ (fun i H hi ⟨acc, h1, h2, h3⟩ => hG H h2)
    (fun i x H H' hi ⟨acc, h1, h2, h3⟩ y => hs D i x H H' acc nD hi h1 h2 h3 y) (fun H ⟨acc, h1, h2, h3⟩ => hd D acc H nD h1 h2 h3)
/-- .. over a row: a list or a tuple -/
theorem lcRow {a : Addr} {xs : List V} {ta : TE} {g : TG} {tt : TT} {te : TE} {vs : List Nat} {H1 : Hp} {Q : VK} (ea : ∀ Q : VK, Q (.ref a) H1 → ta σ H1 Q) (hr : Ru.SqR K H1 a xs) (R : Addr → Nat → List V → Hp → Prop)
    (r0 : ∀ (D : Addr) (G : Hp), H1 D = none → G D = some (.lst []) → Same H1 G → R D 0 [] G)
    (hs : ∀ (D : Addr) i x H acc, H1 D = none → i < xs.length → H D = some (.lst acc) → Same H1 H → R D i acc H → xs[i]? = some x → g x (wipe σ vs) H fun σ2 H2 => wipe σ2 vs = wipe σ vs ∧ tt σ2 H2 fun b H3 =>
      if b = true then te σ2 H3 fun y H4 => LcPush D H1 (R D) i y H4 else LcP D H1 (R D) (i + 1) H3)
    (hd : ∀ (D : Addr) acc H, H1 D = none → H D = some (.lst acc) → Same H1 H → R D xs.length acc H → Q (.ref D) H) : (fun σ H R => iList K ta σ H R ∨ iTup K ta σ H R) σ H1 fun J H1 => Lc J g tt te vs σ H1 Q := by
  rcases hr with hr | hr
  · exact .inl (ea _ ⟨a, rfl, ⟨_, hr⟩, lcS walk_list (fun _ s => s.seq hr) R r0 (fun D i x H H' acc nD hi hD sm r ⟨e, hx⟩ => by cases e; exact hs D i x H acc nD hi hD sm r hx) hd⟩)
  · exact .inr (ea _ ⟨a, rfl, ⟨_, hr⟩, lcS walk_tup (fun _ s => Ru.same_tup s hr) R r0 (fun D i x H H' acc nD hi hD sm r ⟨e, hx⟩ => by cases e; exact hs D i x H acc nD hi hD sm r hx) hd⟩)
theorem wipeE {A B : L2.St} {P : Prop} (e : A = B) (h : P) : A = B ∧ P := ⟨e, h⟩
/-! ### list(range(..)) -/
theorem lstRg {te : L2.St → Hp → (Int → Int → Hp → Prop) → Prop} {Q : VK} (h : te σ H fun a b H1 => RgOk a b ∧ NewQ (.lst (rgV a b)) Q H1) : tLstRg te σ H Q := h
theorem tupRg {te : L2.St → Hp → (Int → Int → Hp → Prop) → Prop} {Q : VK} (h : te σ H fun a b H1 => RgOk a b ∧ NewQ (.tup (rgV a b)) Q H1) : tTupRg te σ H Q := h
theorem rg1 {ta : TE} {Q : Int → Int → Hp → Prop} (h : ta σ H fun x H1 => ∃ n, x = .int n ∧ Q 0 n H1) : tRg1 ta σ H Q := h
theorem rg2 {ta tb : TE} {Q : Int → Int → Hp → Prop} (h : ta σ H fun x H1 => tb σ H1 fun y H2 => ∃ i j, x = .int i ∧ y = .int j ∧ Q i j H2) : tRg2 ta tb σ H Q := h
theorem intE2 {i j : Int} {P : Int → Int → Prop} (h : P i j) : ∃ a b, V.int i = .int a ∧ V.int j = .int b ∧ P a b := ⟨i, j, rfl, rfl, h⟩
theorem rgV0 (n : Nat) : rgV 0 (n : Int) = ((List.range n).map fun i : Nat => (i : Int)).map V.int := by
  unfold rgV
  rw [List.map_map, show ((n : Int) - 0).toNat = n by omega]
  refine List.map_congr_left fun i _ => ?_
  show V.int (0 + (i : Nat)) = V.int (i : Int)
  rw [Int.zero_add]
/-! ### dicts with ints as keys -/
theorem dnew {Q : VK} (h : ∀ (p : Addr) (G : Hp), H p = none → G p = some (.dK []) → Same H G → Q (.ref p) G) : tDNewK σ H Q :=
  fun p hp => h p _ hp upd_same fun b u e => by rw [upd_ne (ne_of_none e hp)]; exact e
theorem dgetH {td ty : TE} {Q : VK} (h : td σ H fun x H1 => ty σ H1 fun y H2 => ∃ a v, x = .ref a ∧ DGet H2 a y (some v) ∧ Q v H2) : tDGet td ty σ H Q := h
theorem dget {a : Addr} {kvs : List (Key × V)} {k : Int} {v : V} {P : V → Prop} (e : H a = some (.dK kvs)) (hv : valV kvs (.inl k) = some v) (q : P v) : ∃ a' v', V.ref a = .ref a' ∧ DGet H a' (.int k) (some v') ∧ P v' :=
  ⟨a, v, rfl, hv ▸ DGet.k (k := .inl k) e, q⟩
theorem dgetF {a : Addr} {o : Obj} {kvs : List (Key × V)} {k : Int} {v : V} {P : V → Prop} (e : H a = some (.frz o (.dK kvs))) (hv : valV kvs (.inl k) = some v) (q : P v) : ∃ a' v', V.ref a = .ref a' ∧ DGet H a' (.int k) (some v') ∧ P v' :=
  ⟨a, v, rfl, .inl ⟨kvs, .inl k, .inr ⟨o, e⟩, rfl, hv.symm⟩, q⟩
theorem dinH {ty td : TE} {Q : VK} (h : ty σ H fun y H1 => td σ H1 fun x H2 => ∃ a o, x = .ref a ∧ DGet H2 a y o ∧ Q (.bl o.isSome) H2) : tDIn ty td σ H Q := h
theorem dninH {ty td : TE} {Q : VK} (h : ty σ H fun y H1 => td σ H1 fun x H2 => ∃ a o, x = .ref a ∧ DGet H2 a y o ∧ Q (.bl (!o.isSome)) H2) : tDNotIn ty td σ H Q := h
theorem dany {a : Addr} {kvs : List (Key × V)} {k : Int} {P : Option V → Prop} (e : H a = some (.dK kvs)) (q : P (valV kvs (.inl k))) : ∃ a' o, V.ref a = .ref a' ∧ DGet H a' (.int k) o ∧ P o :=
  ⟨a, _, rfl, DGet.k (k := .inl k) e, q⟩
theorem dput {a : Addr} {kvs : List (Key × V)} {k : Int} {v : V} {Q : Hp → Prop} (e : H a = some (.dK kvs)) (hl : kvs.length < sizeLine) (h : ∀ G : Hp, G a = some (.dK (putK kvs (.inl k) v)) → (∀ b, b ≠ a → G b = H b) → Q G) : rSetD (.ref a) (.int k) v H Q :=
  ⟨a, _, rfl, DPut.k (k := .inl k) e hl, h _ upd_same fun b hb => upd_ne hb⟩
theorem dget1H {td ty : TE} {Q : VK} (h : td σ H fun x H1 => ∃ a, x = .ref a ∧ IsD H1 a ∧ ty σ H1 fun y H2 => ∃ o, DGet H2 a y o ∧ Q (o.getD .non) H2) : tDGet1 td ty σ H Q := h
theorem isD {a : Addr} {kvs : List (Key × V)} {P : Addr → Prop} (e : H a = some (.dK kvs)) (q : P a) : ∃ a', V.ref a = .ref a' ∧ IsD H a' ∧ P a' := ⟨a, rfl, .inl ⟨kvs, .inl e⟩, q⟩
theorem dgetO {a : Addr} {kvs : List (Key × V)} {k : Int} {P : Option V → Prop} (e : H a = some (.dK kvs)) (q : P (valV kvs (.inl k))) : ∃ o, DGet H a (.int k) o ∧ P o := ⟨_, DGet.k (k := .inl k) e, q⟩
/-- a for over the keys of a dict that is written nowhere in it -/
theorem forD {td : TE} {g : TG} {tb : TS} {a : Addr} {kvs : List (Key × V)} (hd : H a = some (.dK kvs)) (et : ∀ (H1 : Hp) (Q : VK), Q (.ref a) H1 → td σ H1 Q) (Pv : Nat → L2.St → Hp → Prop)
    (h0 : ∀ od, Pv 0 σ (upd H a (.frz od (.dK kvs)))) (hs : ∀ od i k v σ H, kvs[i]? = some (k, v) → H a = some (.frz od (.dK kvs)) → Pv i σ H → g (kV k) σ H fun σ2 H2 => tb { nx := fun σ' H' => H' a = some (.frz od (.dK kvs)) ∧ Pv (i + 1) σ' H', rt := fun v H' => H' a = some (.frz od (.dK kvs)) ∧ D.rt v (upd H' a (.dK kvs)), bk := fun σ' H' => H' a = some (.frz od (.dK kvs)) ∧ D.nx σ' (upd H' a (.dK kvs)), ct := fun σ' H' => H' a = some (.frz od (.dK kvs)) ∧ Pv (i + 1) σ' H' } σ2 H2)
    (hn : ∀ od σ H, H a = some (.frz od (.dK kvs)) → Pv kvs.length σ H → D.nx σ (upd H a (.dK kvs))) : tLock (tFor (iKeys td) g tb) D σ H := by
  refine ⟨a, .dK kvs, hd, trivial, fun od => ?_⟩
  refine et _ _ ⟨a, od, rfl, .inl ⟨kvs, upd_same, ?_⟩⟩
  exact for_it walk_keys (fun i σ H => H a = some (.frz od (.dK kvs)) ∧ Pv i σ H) ⟨upd_same, h0 od⟩ (fun i σ H _ h => h.1)
    (fun i x σ H H' hi ⟨h1, h2⟩ ⟨e, k, v, hk, hx⟩ => by cases e; cases hx; exact hs od i k v σ H hk h1 h2) (fun σ H ⟨h1, h2⟩ => ⟨h1, hn od σ H h1 h2⟩)
def nListD : List V → Hp → VK → Prop := fun xs H Q => ∃ p kvs, xs = [.ref p] ∧ H p = some (.dK kvs) ∧ ∀ q, H q = none → Q (.ref q) (upd H q (.lst (kvs.map fun kv => kV kv.1)))
theorem listD {a : Addr} {kvs : List (Key × V)} {Q : VK} (e : H a = some (.dK kvs)) (h : NewQ (.lst (kvs.map fun kv => kV kv.1)) Q H) : rListD [.ref a] H Q := ⟨a, kvs, rfl, e, h⟩
/-! ### joins -/
theorem m1 {r : V → List V → Hp → VK → Prop} {to te : TE} {Q : VK} (h : to σ H fun x H1 => (∃ a, x = .str a) ∧ te σ H1 fun y H2 => r x [y] H2 Q) : tM1 r to te σ H Q := h
theorem strX {a : Str} {R : Prop} (h : R) : (∃ b, V.str a = .str b) ∧ R := ⟨⟨a, rfl⟩, h⟩
theorem join {a : Str} {p : Addr} {ys : List Str} {Q : VK} (hp : SqL K H p (ys.map V.str) ∨ SqT K H p (ys.map V.str)) (hz : (ys.map (·.length)).sum + ys.length * a.length ≤ 16777216) (h : Q (.str (Txt.join a ys)) H) :
    ∃ a' p', ∃ ys' : List Str, V.str a = .str a' ∧ [V.ref p] = [.ref p'] ∧ (SqL K H p' (ys'.map V.str) ∨ SqT K H p' (ys'.map V.str)) ∧ (ys'.map (·.length)).sum + ys'.length * a'.length ≤ 16777216 ∧ Q (.str (Txt.join a' ys')) H := ⟨a, p, ys, rfl, rfl, hp, hz, h⟩
/-! ### own objects -/
def FldG (K : PySem.W.Frag) (f : Str) : V → Hp → VK → Prop := fun x H1 Q => ∃ a C dx fs v, x = .ref a ∧ H1 a = some (.ins C dx fs) ∧ Cls K C ∧ NoAttr K C f ∧ fs.lookup f = some v ∧ Q v H1
theorem fldH {ta : TE} {f : Str} {Q : VK} (h : ta σ H fun x H1 => FldG K f x H1 Q) : tFld K ta f σ H Q := h
theorem fld {f : Str} {a C dx : Addr} {fs : List (Str × V)} {v : V} {Q : VK} (e : H a = some (.ins C dx fs)) (c : Cls K C) (n : NoAttr K C f) (l : fs.lookup f = some v) (q : Q v H) : FldG K f (.ref a) H Q := ⟨a, C, dx, fs, v, rfl, e, c, n, l, q⟩
def FldS (K : PySem.W.Frag) (f : Str) (y : V) : V → Hp → (Hp → Prop) → Prop := fun x H2 Q => ∃ a C dx fs, x = .ref a ∧ H2 a = some (.ins C dx fs) ∧ Cls K C ∧ NoAttr K C f ∧ fs.length < 1000 ∧ Q (upd H2 a (.ins C dx (putF f y fs)))
theorem sfldH {ta tv : TE} {f : Str} (h : tv σ H fun y H1 => ta σ H1 fun x H2 => FldS K f y x H2 (D.nx σ)) : sFld K ta tv f D σ H := h
theorem sfld {f : Str} {a C dx : Addr} {fs fs' : List (Str × V)} {y : V} {Q : Hp → Prop} (e : H a = some (.ins C dx fs)) (c : Cls K C) (n : NoAttr K C f) (l : fs.length < 1000) (hf : putF f y fs = fs') (q : ∀ G : Hp, G a = some (.ins C dx fs') → (∀ b, b ≠ a → G b = H b) → Q G) : FldS K f y (.ref a) H Q :=
  ⟨a, C, dx, fs, rfl, e, c, n, l, hf ▸ q _ upd_same fun b hb => upd_ne hb⟩
def MkG (C : Addr) (sp : Sp) (dvs : List V) (E : XK) (vs : List V) (H1 : Hp) (Q : VK) : Prop := ∀ x dx, H1 x = none → H1 dx = none → dx ≠ x → sp (.ref x :: (vs ++ dvs)) (upd (upd H1 dx (.own x)) x (.ins C dx [])) (fun v H2 => v = .non ∧ Q (.ref x) H2) E
theorem mkH {C : Addr} {sp : Sp} {dvs : List V} {E : XK} {t : TA} {Q : VK} (h : t σ H fun vs H1 => MkG C sp dvs E vs H1 Q) : tMake C sp dvs E t σ H Q := h
theorem mk {C : Addr} {sp : Sp} {dvs : List V} {E : XK} {vs : List V} {Q : VK} (h : ∀ (x dx : Addr) (G : Hp), H x = none → H dx = none → dx ≠ x → G x = some (.ins C dx []) → Same H G → (∀ b, b ≠ x → b ≠ dx → G b = H b) → sp (.ref x :: (vs ++ dvs)) G (fun v H2 => v = .non ∧ Q (.ref x) H2) E) : MkG C sp dvs E vs H Q := fun x dx hx hd hne =>
  h x dx _ hx hd hne upd_same (fun b o e => by rw [upd_ne (ne_of_none e hx), upd_ne (ne_of_none e hd)]; exact e) fun b h1 h2 => by rw [upd_ne h1, upd_ne h2]
def MethG (C : Addr) (m : Str) (x : V) (H : Hp) (Q : Prop) : Prop := ∃ a dx fs, x = .ref a ∧ H a = some (.ins C dx fs) ∧ fs.lookup m = none ∧ Q
theorem methH {C : Addr} {m : Str} {sp : Sp} {dvs : List V} {E : XK} {ta : TE} {t : TA} {Q : VK} (h : ta σ H fun x H1 => MethG C m x H1 (t σ H1 fun vs H2 => sp (x :: (vs ++ dvs)) H2 Q E)) : tMeth C m sp dvs E ta t σ H Q := h
theorem meth {C : Addr} {m : Str} {a dx : Addr} {fs : List (Str × V)} {Q : Prop} (e : H a = some (.ins C dx fs)) (l : fs.lookup m = none) (q : Q) : MethG C m (.ref a) H Q := ⟨a, dx, fs, rfl, e, l, q⟩
/-! ### isinstance -/
theorem isi {x : V} {a b : String} {r : Bool} {Q : VK} (ht : TyX K H x (.type a)) (h : kitB a b = some r) (q : Q (.bl r) H) : rIsi K [x, .ty b] H Q := ⟨_, _, _, _, r, rfl, .ty b, ht, kit_ty h, q⟩
theorem isiStr {z : Str} {Q : VK} (q : Q (.bl true) H) : rIsi K [.str z, .ty "str"] H Q := isi (.base (.str z)) (by decide +kernel) q
theorem isiB {z : Bool} {Q : VK} (q : Q (.bl true) H) : rIsi K [.bl z, .ty "bool"] H Q := isi (.base (.bl z)) (by decide +kernel) q
theorem isiI {z : Int} {Q : VK} (q : Q (.bl true) H) : rIsi K [.int z, .ty "int"] H Q := isi (.base (.int z)) (by decide +kernel) q
theorem isiIB {z : Int} {Q : VK} (q : Q (.bl false) H) : rIsi K [.int z, .ty "bool"] H Q := isi (.base (.int z)) (by decide +kernel) q
end Rd
namespace W
open PySem PySem.Spec PyProof.Rows L2
theorem kit_self {K : PySem.W.Frag} {C : Addr} : PySem.W.kitOne K (.ref C) (.ref C) = some true := by
  unfold PySem.W.kitOne
  simp
/-- what isinstance asks of an own class -/
structure OwnTy (K : PySem.W.Frag) (C : Addr) : Prop where
  ha : PySem.W.findIn K (.ref C) "__class__" = some (some (.builtin "object.__class__"))
  hn : PySem.W.specialIn K (.builtin "object.__class__") "__get__" = some (some (.builtin "getset_descriptor.__get__"))
  htk : PySem.W.takesIn K (.builtin "object.__class__") = some true
  hm : PySem.W.mroIn K C (.type "object") = some true
  me : PySem.W.kitOne K (.ref C) (.ref C) = some true
theorem isiOwn {K : PySem.W.Frag} {H : Hp} {a C dx : Addr} {fs : List (Str × V)} {Q : VK} (c : Cls K C) (o : OwnTy K C) (e : H a = some (.ins C dx fs)) (q : Q (.bl true) H) : rIsi K [.ref a, .ref C] H Q :=
  ⟨_, _, _, _, true, rfl, .own C, .base (.ins e c o.ha o.hn o.htk o.hm), o.me, q⟩
end W
/-! ### letters -/
namespace Lt
open PySem PySem.Spec PyProof.Rows L2
def Abc : Str := "abcdefghijklmnopqrstuvwxyz"
def Let (z : Str) : Prop := ∀ c ∈ z.cps.toList, c ∈ Abc.cps.toList
theorem Let.app {a b : Str} (x : Let a) (y : Let b) : Let (a ++ b) := fun c h => by
  have : c ∈ a.cps.toList ++ b.cps.toList := by
    rw [← Array.toList_append]
    exact h
  exact (List.mem_append.mp this).elim (x c) (y c)
theorem len_app (a b : Str) : (a ++ b).length = a.length + b.length := Array.size_append
theorem Let.cut {z : Str} (x : Let z) (lo hi : Option Int) : Let (cutS z lo hi) := fun c h => x c (List.mem_of_mem_drop (List.mem_of_mem_take (show c ∈ (z.cps.toList.drop _).take _ from by simpa [cutS] using h)))
theorem Let.one {c : Nat} (h : c ∈ Abc.cps.toList) : Let ⟨#[c]⟩ := fun d hd => by
  have : d = c := by simpa using hd
  exact this ▸ h
theorem Let.empty : Let "" := fun c h => by exact absurd h (by decide +revert)
theorem Let.ok {z : Str} (x : Let z) : PyData.strOk z = true := by
  unfold PyData.strOk
  rw [Array.all_eq_true']
  intro c hc
  have h := x c (by simpa using hc)
  have : ∀ c ∈ Abc.cps.toList, decide (c < 0x110000) = true := by decide +kernel
  exact this c h
theorem Let.char {z : Str} (x : Let z) {c : Nat} {i : Nat} (h : z.cps.toList[i]? = some c) : c ∈ Abc.cps.toList := x c (List.mem_of_getElem? h)
theorem cut_len {z : Str} {a b : Nat} (h : a ≤ b) (hb : b ≤ z.length) : (cutS z (some (a : Int)) (some (b : Int))).length = b - a := by
  show (((z.cps.toList.drop (HT.sIx z.length 0 (some (a : Int)))).take (HT.sIx z.length z.length (some (b : Int)) - HT.sIx z.length 0 (some (a : Int)))).toArray).size = b - a
  rw [List.size_toArray, List.length_take, List.length_drop, Array.length_toList, HT.sIx_nat, HT.sIx_nat]
  unfold Str.length at hb ⊢
  omega
theorem cut_lenI {z : Str} {a b : Int} (h0 : 0 ≤ a) (h : a ≤ b) (hb : b ≤ z.length) : ((cutS z (some a) (some b)).length : Int) = b - a := by
  have := cut_len (z := z) (a := a.toNat) (b := b.toNat) (by omega) (by omega)
  rw [show ((a.toNat : Nat) : Int) = a by omega, show ((b.toNat : Nat) : Int) = b by omega] at this
  omega
theorem cut_from {z : Str} {a : Int} (h0 : 0 ≤ a) (h : a ≤ z.length) : ((cutS z (some a) none).length : Int) = z.length - a := by
  have e : (cutS z (some a) none).length = z.length - a.toNat := by
    show (((z.cps.toList.drop (HT.sIx z.length 0 (some a))).take (HT.sIx z.length z.length none - HT.sIx z.length 0 (some a))).toArray).size = _
    have e1 : HT.sIx z.length 0 (some a) = a.toNat := by
      have := HT.sIx_nat z.length 0 a.toNat
      rw [show ((a.toNat : Nat) : Int) = a by omega] at this
      rw [this]
      omega
    rw [List.size_toArray, List.length_take, List.length_drop, Array.length_toList, e1]
    show min (z.length - a.toNat) (z.cps.size - a.toNat) = _
    unfold Str.length
    omega
  omega
theorem cut_to {z : Str} {b : Int} (h0 : 0 ≤ b) : ((cutS z none (some b)).length : Int) = min b z.length := by
  have e : (cutS z none (some b)).length = min b.toNat z.length := by
    show (((z.cps.toList.drop (HT.sIx z.length 0 none)).take (HT.sIx z.length z.length (some b) - HT.sIx z.length 0 none)).toArray).size = _
    have e1 : HT.sIx z.length z.length (some b) = min b.toNat z.length := by
      have := HT.sIx_nat z.length z.length b.toNat
      rw [show ((b.toNat : Nat) : Int) = b by omega] at this
      exact this
    have e2 : HT.sIx z.length 0 none = 0 := rfl
    rw [List.size_toArray, List.length_take, List.length_drop, Array.length_toList, e1, e2]
    unfold Str.length
    omega
  omega
theorem join_let : ∀ ys : List Str, (∀ y ∈ ys, Let y) → Let (Str.join "" ys) ∧ (Str.join "" ys).length = (ys.map (·.length)).sum
  | [], _ => ⟨fun c h => by exact absurd h (by decide +revert), by decide +kernel⟩
  | [y], h => ⟨h y (by simp), by simp [Str.join]⟩
  | y :: z :: r, h => by
    have ih := join_let (z :: r) fun x hx => h x (List.mem_cons_of_mem _ hx)
    have e : Str.join "" (y :: z :: r) = y ++ "" ++ Str.join "" (z :: r) := rfl
    rw [e]
    refine ⟨((h y List.mem_cons_self).app Let.empty).app ih.1, ?_⟩
    rw [len_app, len_app, ih.2, show (Str.ofString "").length = 0 by decide +kernel]
    show y.length + 0 + _ = (y.length :: (z :: r).map (·.length)).sum
    rw [List.sum_cons]
    rfl
theorem join_one {ys : List Str} {n : Nat} (hl : ys.length = n) (h : ∀ y ∈ ys, Let y ∧ y.length = 1) : Let (Txt.join "" ys) ∧ (Txt.join "" ys).length = n ∧ (ys.map (·.length)).sum = n := by
  have j := join_let ys fun y hy => (h y hy).1
  have e : (ys.map (·.length)).sum = ys.length := by
    clear j hl
    induction ys with
    | nil => rfl
    | cons y r ih => rw [List.map_cons, List.sum_cons, ih fun x hx => h x (List.mem_cons_of_mem _ hx), (h y List.mem_cons_self).2, List.length_cons]; omega
  rw [TL.join_eq]
  exact ⟨j.1, by rw [j.2, e, hl], by rw [e, hl]⟩
theorem ne_of_len {z : Str} (h : 0 < z.length) : ¬ z = "" := fun e => by
  subst e
  exact absurd h (by decide +revert)
theorem len_of_ne {z : Str} (h : ¬ z = "") : 0 < z.length := by
  rcases Nat.eq_zero_or_pos z.length with e | e
  · exfalso
    refine h ?_
    have : z.cps = #[] := Array.eq_empty_of_size_eq_zero e
    cases z
    simp only at this
    subst this
    decide +kernel
  · exact e
/-- a word: some letters, at least one, at most n -/
structure Wd (n : Int) (z : Str) : Prop where
  ok : Let z
  l0 : 1 ≤ z.length
  l1 : (z.length : Int) ≤ n
theorem Wd.mono {n m : Int} {z : Str} (h : Wd n z) (k : n ≤ m) : Wd m z := ⟨h.ok, h.l0, Int.le_trans h.l1 k⟩
theorem Wd.line {n : Int} {z : Str} (h : Wd n z) (k : n ≤ 1000000) : z.length ≤ sizeLine := by
  have := h.l1
  rw [sizeLine_eq]
  omega
end Lt
namespace W
open PySem PySem.Spec PyProof.Rows L2
/-! ### the tape, books -/
def Tape (H : Hp) (t c : Addr) : Prop := ∃ (ns : List Int) (x y z u : Int), t ≠ c ∧ H t = some (.lst [.ref c, .int x, .int y, .int z, .int u]) ∧ H c = some (.lst (ns.map V.int)) ∧ 0 ≤ x ∧ x ≤ ns.length ∧ 0 ≤ z ∧ z < 2147483647
theorem Tape.same {H H' : Hp} {t c : Addr} (h : Tape H t c) (s : Same H H') : Tape H' t c := by
  obtain ⟨ns, x, y, z, u, n, h1, h2, r⟩ := h
  exact ⟨ns, x, y, z, u, n, s _ _ h1, s _ _ h2, r⟩
theorem Tape.off {H H' : Hp} {t c l : Addr} (h : Tape H t c) (h1 : l ≠ t) (h2 : l ≠ c) (e : ∀ b, b ≠ l → H' b = H b) : Tape H' t c := by
  obtain ⟨ns, x, y, z, u, n, g1, g2, r⟩ := h
  exact ⟨ns, x, y, z, u, n, by rw [e t h1.symm]; exact g1, by rw [e c h2.symm]; exact g2, r⟩
theorem Tape.new {H : Hp} {t c l : Addr} (h : Tape H t c) (n : H l = none) : l ≠ t ∧ l ≠ c := by
  obtain ⟨ns, x, y, z, u, _, g1, g2, r⟩ := h
  exact ⟨(ne_of_none g1 n).symm, (ne_of_none g2 n).symm⟩
theorem _root_.Rd.tape_same {H H' : Hp} {t c : Addr} (s : Same H H') (h : Tape H t c) : Tape H' t c := h.same s
theorem _root_.Rd.ntT {H : Hp} {t c l : Addr} (n : H l = none) (h : Tape H t c) : l ≠ t := (h.new n).1
theorem _root_.Rd.ntT' {H : Hp} {t c l : Addr} (n : H l = none) (h : Tape H t c) : l ≠ c := (h.new n).2
/-- some watches: no two alike, at most twelve, each of some letters -/
structure Watches (ws : List Str) : Prop where
  nd : ws.Nodup
  l1 : ws.length ≤ 12
  ok : ∀ z ∈ ws, Lt.Wd 12 z
/-- a book of the watches ws stands at b -/
def BookAt (C : Addr) (H : Hp) (b : Addr) (ws : List Str) : Prop := ∃ dx t, H b = some (.ins C dx [("watches", .ref t)]) ∧ H t = some (.tup (ws.map V.str))
theorem BookAt.same {C : Addr} {H H' : Hp} {b : Addr} {ws : List Str} (h : BookAt C H b ws) (s : Same H H') : BookAt C H' b ws := let ⟨dx, t, h1, h2⟩ := h; ⟨dx, t, s _ _ h1, s _ _ h2⟩
theorem BookAt.but {C t c : Addr} {H H' : Hp} {b : Addr} {ws : List Str} (h : BookAt C H b ws) (tp : Tape H t c) (s : Rd.But t H H') : BookAt C H' b ws := by
  obtain ⟨dx, q, h1, h2⟩ := h
  obtain ⟨ns, x, y, z, u, _, g1, g2, r⟩ := tp
  exact ⟨dx, q, s _ _ (ne_of h1 g1 (fun e => nomatch e)) h1, s _ _ (ne_of h2 g1 (fun e => nomatch e)) h2⟩
theorem snoc_nodup {α : Type} {ws : List α} {y : α} (nd : ws.Nodup) (q : ¬ y ∈ ws) : (ws ++ [y]).Nodup := by
  rw [List.nodup_append]
  exact ⟨nd, by simp, fun x hx z hz e => q (by simp at hz; rw [← hz, ← e]; exact hx)⟩
theorem _root_.Rd.book_same {C : Addr} {H H' : Hp} {b : Addr} {ws : List Str} (s : Same H H') (h : BookAt C H b ws) : BookAt C H' b ws := h.same s
theorem _root_.Rd.book_but {C t c : Addr} {H H' : Hp} {b : Addr} {ws : List Str} (s : Rd.But t H H') (tp : Tape H t c) (h : BookAt C H b ws) : BookAt C H' b ws := h.but tp s
end W
/-! ### what is kept, for the search by hypotheses -/
namespace Rd
open PySem PySem.Spec PyProof.Rows L2
variable {H H' : Hp} {K : PySem.W.Frag}
theorem neN {H : Hp} {a b : Addr} {o : HO} (h' : H b = none) (h : H a = some o) : a ≠ b := ne_of_none h h'
theorem neN' {H : Hp} {a b : Addr} {o : HO} (h' : H b = none) (h : H a = some o) : b ≠ a := (ne_of_none h h').symm
theorem same_tr {H H1 H2 : Hp} (b : Same H1 H2) (a : Same H H1) : Same H H2 := a.trans b
theorem but_tr {t : Addr} {H H1 H2 : Hp} (b : But t H1 H2) (a : But t H H1) : But t H H2 := a.trans b
theorem but_sm {t : Addr} {H H1 H2 : Hp} (b : Same H1 H2) (a : But t H H1) : But t H H2 := a.same b
theorem same_of2 {l : Addr} {H0 H H' : Hp} (off : ∀ b, b ≠ l → H' b = H b) (n : H0 l = none) (s : Same H0 H) : Same H0 H' := fun b o e => by rw [off b (ne_of_none e n)]; exact s b o e
theorem but_of2 {t l : Addr} {H0 H H' : Hp} (off : ∀ b, b ≠ l → H' b = H b) (n : H0 l = none) (s : But t H0 H) : But t H0 H' := fun b o h e => by rw [off b (ne_of_none e n)]; exact s b o h e
theorem at_same {a : Addr} {o : HO} (s : Same H H') (e : H a = some o) : H' a = some o := s a o e
theorem at_but {t a : Addr} {o : HO} (b : But t H H') (n : a ≠ t) (e : H a = some o) : H' a = some o := b a o n e
theorem at_off {l a : Addr} {o : HO} (off : ∀ b, b ≠ l → H' b = H b) (n : a ≠ l) (e : H a = some o) : H' a = some o := by rw [off a n]; exact e
theorem same_off {l : Addr} {H0 : Hp} (s : Same H0 H) (n : H0 l = none) (off : ∀ b, b ≠ l → H' b = H b) : Same H0 H' := fun b o e => by rw [off b (ne_of_none e n)]; exact s b o e
theorem but_off' {t l : Addr} {H0 : Hp} (s : But t H0 H) (n : H0 l = none) (off : ∀ b, b ≠ l → H' b = H b) : But t H0 H' := fun b o h e => by rw [off b (ne_of_none e n)]; exact s b o h e
theorem lenS {p : Addr} {ys : List Str} {H : Hp} {Q : VK} (hp : SqL K H p (ys.map V.str) ∨ SqT K H p (ys.map V.str)) (h : Q (.int (ys.length : Nat)) H) : nLen K [.ref p] H Q := ⟨p, _, rfl, hp, by rw [List.length_map]; exact h⟩
theorem lenI {p : Addr} {ys : List Int} {H : Hp} {Q : VK} (hp : SqL K H p (ys.map V.int) ∨ SqT K H p (ys.map V.int)) (h : Q (.int (ys.length : Nat)) H) : nLen K [.ref p] H Q := ⟨p, _, rfl, hp, by rw [List.length_map]; exact h⟩
theorem lenR {p : Addr} {ys : List Addr} {H : Hp} {Q : VK} (hp : SqL K H p (ys.map V.ref) ∨ SqT K H p (ys.map V.ref)) (h : Q (.int (ys.length : Nat)) H) : nLen K [.ref p] H Q := ⟨p, _, rfl, hp, by rw [List.length_map]; exact h⟩
end Rd

/-! Plain law: spots of a word, joined by watches that occur. -/
namespace Mw
open PySem PySem.Spec PyProof.Rows L2
/-- led on from x -/
inductive Star (R : Nat → Nat → Prop) (x : Nat) : Nat → Prop where
  | refl : Star R x x
  | step {y z : Nat} (h : Star R x y) (r : R y z) : Star R x z
theorem Star.one {R : Nat → Nat → Prop} {x y : Nat} (r : R x y) : Star R x y := .step .refl r
theorem Star.trans {R : Nat → Nat → Prop} {x y z : Nat} (a : Star R x y) (b : Star R y z) : Star R x z := by
  induction b with
  | refl => exact a
  | step _ r ih => exact .step ih r
theorem Star.symm {R : Nat → Nat → Prop} (s : ∀ x y, R x y → R y x) {x y : Nat} (a : Star R x y) : Star R y x := by
  induction a with
  | refl => exact .refl
  | step _ r ih => exact (Star.one (s _ _ r)).trans ih
theorem Star.mono {R S : Nat → Nat → Prop} (s : ∀ x y, R x y → S x y) {x y : Nat} (a : Star R x y) : Star S x y := by
  induction a with
  | refl => exact .refl
  | step _ r ih => exact .step ih (s _ _ r)
theorem Star.iff {R S : Nat → Nat → Prop} (s : ∀ x y, R x y ↔ S x y) {x y : Nat} : Star R x y ↔ Star S x y := ⟨Star.mono fun x y => (s x y).mp, Star.mono fun x y => (s x y).mpr⟩
/-- W occurs in z from s -/
def Occ (W z : Str) (s : Nat) : Prop := s + W.length ≤ z.length ∧ cutS z (some (s : Int)) (some ((s : Int) + (W.length : Int))) = W
/-- two spots joined by W, W from a spot below m -/
def EdgeB (W z : Str) (m : Nat) (i j : Nat) : Prop := (i < m ∧ Occ W z i ∧ j = i + W.length) ∨ (j < m ∧ Occ W z j ∧ i = j + W.length)
def Edge (W z : Str) (i j : Nat) : Prop := (Occ W z i ∧ j = i + W.length) ∨ (Occ W z j ∧ i = j + W.length)
def Adj (ws : List Str) (z : Str) (i j : Nat) : Prop := ∃ W ∈ ws, Edge W z i j
def AdjB (ws : List Str) (W z : Str) (m : Nat) (i j : Nat) : Prop := Adj ws z i j ∨ EdgeB W z m i j
/-- the watches tell the word -/
def Told (ws : List Str) (z : Str) : Prop := Star (Adj ws z) 0 z.length
theorem Edge.symm {W z : Str} {i j : Nat} (h : Edge W z i j) : Edge W z j i := h.elim .inr .inl
theorem Adj.symm {ws : List Str} {z : Str} (i j : Nat) (h : Adj ws z i j) : Adj ws z j i := let ⟨W, m, e⟩ := h; ⟨W, m, e.symm⟩
theorem EdgeB.symm {W z : Str} {m i j : Nat} (h : EdgeB W z m i j) : EdgeB W z m j i := h.elim .inr .inl
theorem AdjB.symm {ws : List Str} {W z : Str} {m : Nat} (i j : Nat) (h : AdjB ws W z m i j) : AdjB ws W z m j i := h.elim (fun h => .inl (Adj.symm _ _ h)) fun h => .inr h.symm
theorem Adj.le {ws : List Str} {z : Str} {i j : Nat} (h : Adj ws z i j) : i ≤ z.length ∧ j ≤ z.length := by
  obtain ⟨W, _, ⟨o, e⟩ | ⟨o, e⟩⟩ := h <;> have := o.1 <;> omega
theorem adj_nil {z : Str} {i j : Nat} : ¬ Adj [] z i j := fun ⟨_, h, _⟩ => by simp at h
theorem adjB_zero {ws : List Str} {W z : Str} {i j : Nat} : AdjB ws W z 0 i j ↔ Adj ws z i j := ⟨fun h => h.elim id fun h => by rcases h with ⟨h, _⟩ | ⟨h, _⟩ <;> omega, .inl⟩
theorem adjB_all {ws : List Str} {W z : Str} {i j : Nat} {n : Nat} (hn : (n : Int) = ((z.length : Int) - (W.length : Int) + 1).toNat) : AdjB ws W z n i j ↔ Adj (ws ++ [W]) z i j := by
  constructor
  · rintro (⟨V, h, e⟩ | ⟨_, o, e⟩ | ⟨_, o, e⟩)
    · exact ⟨V, List.mem_append.mpr (.inl h), e⟩
    · exact ⟨W, List.mem_append.mpr (.inr (by simp)), .inl ⟨o, e⟩⟩
    · exact ⟨W, List.mem_append.mpr (.inr (by simp)), .inr ⟨o, e⟩⟩
  · rintro ⟨V, h, e⟩
    rcases List.mem_append.mp h with h | h
    · exact .inl ⟨V, h, e⟩
    · simp at h
      subst h
      rcases e with ⟨o, e⟩ | ⟨o, e⟩
      · exact .inr (.inl ⟨by have := o.1; omega, o, e⟩)
      · exact .inr (.inr ⟨by have := o.1; omega, o, e⟩)
theorem adjB_no {ws : List Str} {W z : Str} {m : Nat} {i j : Nat} (h : ¬ Occ W z m) : AdjB ws W z (m + 1) i j ↔ AdjB ws W z m i j := by
  unfold AdjB EdgeB
  constructor
  · rintro (a | ⟨l, o, e⟩ | ⟨l, o, e⟩)
    · exact .inl a
    · rcases Nat.lt_succ_iff_lt_or_eq.mp l with l | l
      · exact .inr (.inl ⟨l, o, e⟩)
      · exact absurd (l ▸ o) h
    · rcases Nat.lt_succ_iff_lt_or_eq.mp l with l | l
      · exact .inr (.inr ⟨l, o, e⟩)
      · exact absurd (l ▸ o) h
  · rintro (a | ⟨l, o, e⟩ | ⟨l, o, e⟩)
    · exact .inl a
    · exact .inr (.inl ⟨by omega, o, e⟩)
    · exact .inr (.inr ⟨by omega, o, e⟩)
theorem adjB_yes {ws : List Str} {W z : Str} {m : Nat} {i j : Nat} (h : Occ W z m) : AdjB ws W z (m + 1) i j ↔ AdjB ws W z m i j ∨ (i = m ∧ j = m + W.length) ∨ (j = m ∧ i = m + W.length) := by
  unfold AdjB EdgeB
  constructor
  · rintro (a | ⟨l, o, e⟩ | ⟨l, o, e⟩)
    · exact .inl (.inl a)
    · rcases Nat.lt_succ_iff_lt_or_eq.mp l with l | l
      · exact .inl (.inr (.inl ⟨l, o, e⟩))
      · exact .inr (.inl ⟨l, by omega⟩)
    · rcases Nat.lt_succ_iff_lt_or_eq.mp l with l | l
      · exact .inl (.inr (.inr ⟨l, o, e⟩))
      · exact .inr (.inr ⟨l, by omega⟩)
  · rintro ((a | ⟨l, o, e⟩ | ⟨l, o, e⟩) | ⟨l, e⟩ | ⟨l, e⟩)
    · exact .inl a
    · exact .inr (.inl ⟨by omega, o, e⟩)
    · exact .inr (.inr ⟨by omega, o, e⟩)
    · subst l; exact .inr (.inl ⟨by omega, h, e⟩)
    · subst l; exact .inr (.inr ⟨by omega, h, e⟩)
/-! ### no two alike among few -/
theorem nodup_le {α : Type} [DecidableEq α] : ∀ (l m : List α), l.Nodup → (∀ x ∈ l, x ∈ m) → l.length ≤ m.length
  | [], _, _, _ => Nat.zero_le _
  | a :: t, m, nd, h => by
    have ⟨h1, h2⟩ := List.nodup_cons.mp nd
    have ha := h a List.mem_cons_self
    have := nodup_le t (m.erase a) h2 fun x hx => (List.mem_erase_of_ne fun e : x = a => h1 (by rw [← e]; exact hx)).mpr (h x (List.mem_cons_of_mem _ hx))
    rw [List.length_erase_of_mem ha] at this
    have := List.length_pos_of_mem ha
    rw [List.length_cons]
    omega
theorem nodup_range {l : List Int} {n : Nat} (nd : l.Nodup) (h : ∀ x ∈ l, 0 ≤ x ∧ x ≤ n) : l.length ≤ n + 1 := by
  have := nodup_le l ((List.range (n + 1)).map fun i : Nat => (i : Int)) nd fun x hx => by
    have := h x hx
    exact List.mem_map.mpr ⟨x.toNat, List.mem_range.mpr (by omega), by omega⟩
  rw [List.length_map, List.length_range] at this
  exact this
/-! ### marks -/
/-- alike marks are led to one another, and the other way round -/
def Lab (R : Nat → Nat → Prop) (n : Nat) (ms : List Int) : Prop := ms.length = n + 1 ∧ ∀ i j (x y : Int), ms[i]? = some x → ms[j]? = some y → (x = y ↔ Star R i j)
theorem Lab.start {n : Nat} {R : Nat → Nat → Prop} (hR : ∀ i j, ¬ R i j) : Lab R n ((List.range (n + 1)).map fun i : Nat => (i : Int)) := by
  refine ⟨by simp, fun i j x y hx hy => ?_⟩
  have e1 : x = i := by
    rw [List.getElem?_map] at hx
    cases q : (List.range (n + 1))[i]? with
    | none => rw [q] at hx; cases hx
    | some k =>
      rw [q] at hx
      have : i = k := by
        have := List.getElem?_eq_some_iff.mp q
        obtain ⟨h, e⟩ := this
        simpa using e
      subst this
      exact (Option.some.inj hx).symm
  have e2 : y = j := by
    rw [List.getElem?_map] at hy
    cases q : (List.range (n + 1))[j]? with
    | none => rw [q] at hy; cases hy
    | some k =>
      rw [q] at hy
      have : j = k := by
        have := List.getElem?_eq_some_iff.mp q
        obtain ⟨h, e⟩ := this
        simpa using e
      subst this
      exact (Option.some.inj hy).symm
  subst e1 e2
  constructor
  · intro h
    have : i = j := by omega
    exact this ▸ .refl
  · intro h
    cases h with
    | refl => rfl
    | step _ r => exact absurd r (hR _ _)
theorem Lab.iff {R S : Nat → Nat → Prop} {n : Nat} {ms : List Int} (h : Lab R n ms) (s : ∀ x y, R x y ↔ S x y) : Lab S n ms := ⟨h.1, fun i j x y hx hy => (h.2 i j x y hx hy).trans (Star.iff s)⟩
/-- one more pair: alike already -/
theorem Lab.same {R S : Nat → Nat → Prop} {n : Nat} {ms : List Int} (h : Lab R n ms) {a b : Nat} {x : Int} (ha : ms[a]? = some x) (hb : ms[b]? = some x) (sy : ∀ x y, R x y → R y x) (s : ∀ i j, S i j ↔ R i j ∨ (i = a ∧ j = b) ∨ (j = a ∧ i = b)) : Lab S n ms := by
  refine ⟨h.1, fun i j u v hu hv => (h.2 i j u v hu hv).trans ⟨Star.mono fun i j r => (s i j).mpr (.inl r), fun q => ?_⟩⟩
  have ab : Star R a b := (h.2 a b x x ha hb).mp rfl
  clear hv
  induction q with
  | refl => exact .refl
  | step _ r ih =>
    rcases (s _ _).mp r with r | ⟨rfl, rfl⟩ | ⟨rfl, rfl⟩
    · exact .step ih r
    · exact ih.trans ab
    · exact ih.trans (ab.symm sy)
/-- .. not alike: the one mark gives way to the other -/
theorem Lab.join {R S : Nat → Nat → Prop} {n : Nat} {ms : List Int} (h : Lab R n ms) {a b : Nat} {x y : Int} (ha : ms[a]? = some x) (hb : ms[b]? = some y) (hR : ∀ i j, R i j → i ≤ n ∧ j ≤ n) (sy : ∀ x y, R x y → R y x) (s : ∀ i j, S i j ↔ R i j ∨ (i = a ∧ j = b) ∨ (j = a ∧ i = b)) :
    Lab S n (ms.map fun m => if m = y then x else m) := by
  refine ⟨by rw [List.length_map]; exact h.1, fun i j u v hu hv => ?_⟩
  have get : ∀ {i : Nat} {u : Int}, (ms.map fun m => if m = y then x else m)[i]? = some u → ∃ u0, ms[i]? = some u0 ∧ u = if u0 = y then x else u0 := fun {i u} hu => by
    rw [List.getElem?_map] at hu
    cases q : ms[i]? with
    | none => rw [q] at hu; cases hu
    | some k => rw [q] at hu; exact ⟨k, rfl, (Option.some.inj hu).symm⟩
  obtain ⟨u0, hu0, eu⟩ := get hu
  obtain ⟨v0, hv0, ev⟩ := get hv
  have up : ∀ {i j : Nat}, Star R i j → Star S i j := fun q => q.mono fun i j r => (s i j).mpr (.inl r)
  have ab : Star S a b := .one ((s a b).mpr (.inr (.inl ⟨rfl, rfl⟩)))
  have ba : Star S b a := .one ((s b a).mpr (.inr (.inr ⟨rfl, rfl⟩)))
  constructor
  · intro e
    by_cases c1 : u0 = y
    · have ib : Star S i b := up ((h.2 i b u0 y hu0 hb).mp c1)
      by_cases c2 : v0 = y
      · exact up ((h.2 i j u0 v0 hu0 hv0).mp (c1.trans c2.symm))
      · rw [if_pos c1] at eu
        rw [if_neg c2] at ev
        have aj : Star S a j := up ((h.2 a j x v0 ha hv0).mp (by omega))
        exact (ib.trans ba).trans aj
    · rw [if_neg c1] at eu
      by_cases c2 : v0 = y
      · rw [if_pos c2] at ev
        have bj : Star S b j := up ((h.2 b j y v0 hb hv0).mp c2.symm)
        have ia : Star S i a := up ((h.2 i a u0 x hu0 ha).mp (by omega))
        exact (ia.trans ab).trans bj
      · rw [if_neg c2] at ev
        exact up ((h.2 i j u0 v0 hu0 hv0).mp (by omega))
  · intro q
    have la : a ≤ n := by have := (List.getElem?_eq_some_iff.mp ha).1; have := h.1; omega
    have lb : b ≤ n := by have := (List.getElem?_eq_some_iff.mp hb).1; have := h.1; omega
    -- every spot on the way has its mark
    have key : ∀ {k : Nat}, Star S i k → ∀ w0 : Int, ms[k]? = some w0 → (if u0 = y then x else u0) = if w0 = y then x else w0 := by
      intro k q
      induction q with
      | refl =>
        intro w0 hw
        rw [hu0] at hw
        cases hw
        rfl
      | @step k l _ r ih =>
        intro w0 hw
        have inR : ∀ m : Nat, m ≤ n → ∃ m0, ms[m]? = some m0 := fun m hm => ⟨_, List.getElem?_eq_getElem (by have := h.1; omega)⟩
        rcases (s _ _).mp r with r | ⟨rfl, rfl⟩ | ⟨rfl, rfl⟩
        · obtain ⟨k0, hk⟩ := inR k (hR _ _ r).1
          rw [ih k0 hk, (h.2 k l k0 w0 hk hw).mpr (.one r)]
        · rw [ih x ha]
          rw [hb] at hw
          cases hw
          rw [if_pos rfl]
          split <;> rfl
        · rw [ih y hb]
          rw [ha] at hw
          cases hw
          rw [if_pos rfl]
          split <;> rfl
    rw [eu, ev]
    exact key q v0 hv0
end Mw

/-! Plain law: distances, the least of the shortest ways. -/
namespace Mz
open PySem PySem.Spec PyProof.Rows L2
/-- k steps from x to y -/
def Steps (A : Nat → Nat → Prop) : Nat → Nat → Nat → Prop
  | 0, x, y => x = y
  | k + 1, x, z => ∃ y, Steps A k x y ∧ A y z
/-- k steps and no fewer -/
def Dist (A : Nat → Nat → Prop) (x y k : Nat) : Prop := Steps A k x y ∧ ∀ j, j < k → ¬ Steps A j x y
variable {A : Nat → Nat → Prop}
theorem Steps.trans : ∀ {k j x y z : Nat}, Steps A j x y → Steps A k y z → Steps A (j + k) x z
  | 0, j, x, y, z, a, b => by cases b; exact a
  | k + 1, j, x, y, z, a, ⟨u, b, r⟩ => ⟨u, Steps.trans a b, r⟩
theorem Steps.one {x y : Nat} (r : A x y) : Steps A 1 x y := ⟨x, rfl, r⟩
theorem Steps.cons {k x y z : Nat} (r : A x y) (b : Steps A k y z) : Steps A (k + 1) x z := by
  have := Steps.trans (Steps.one r) b
  rwa [Nat.add_comm] at this
theorem Steps.uncons : ∀ {k x z : Nat}, Steps A (k + 1) x z → ∃ y, A x y ∧ Steps A k y z
  | 0, x, z, ⟨y, e, r⟩ => by cases e; exact ⟨z, r, rfl⟩
  | k + 1, x, z, ⟨y, s, r⟩ => let ⟨u, a, b⟩ := Steps.uncons s; ⟨u, a, y, b, r⟩
theorem Steps.symm (sy : ∀ x y, A x y → A y x) : ∀ {k x y : Nat}, Steps A k x y → Steps A k y x
  | 0, _, _, e => Eq.symm e
  | k + 1, x, z, ⟨y, s, r⟩ => Steps.cons (sy _ _ r) (Steps.symm sy s)
theorem Dist.inj {x y k j : Nat} (a : Dist A x y k) (b : Dist A x y j) : k = j := by
  rcases Nat.lt_trichotomy k j with h | h | h
  · exact absurd a.1 (b.2 k h)
  · exact h
  · exact absurd b.1 (a.2 j h)
theorem Steps.dist {x y : Nat} : ∀ {k : Nat}, Steps A k x y → ∃ d, d ≤ k ∧ Dist A x y d := by
  intro k
  induction k using Nat.strongRecOn with
  | _ k ih =>
    intro h
    by_cases c : ∃ j, j < k ∧ Steps A j x y
    · obtain ⟨j, hj, s⟩ := c
      obtain ⟨d, h1, h2⟩ := ih j hj s
      exact ⟨d, by omega, h2⟩
    · exact ⟨k, Nat.le_refl _, h, fun j hj s => c ⟨j, hj, s⟩⟩
theorem Dist.symm (sy : ∀ x y, A x y → A y x) {x y k : Nat} (h : Dist A x y k) : Dist A y x k := ⟨h.1.symm sy, fun j hj s => h.2 j hj (s.symm sy)⟩
theorem Dist.zero {x : Nat} : Dist A x x 0 := ⟨rfl, fun j h => by omega⟩
theorem Dist.zero_iff {x y : Nat} : Dist A x y 0 ↔ x = y := ⟨fun h => h.1, fun h => h ▸ Dist.zero⟩
/-- one step on from a spot k away, not nearer: k + 1 away -/
theorem Dist.next {x y z k : Nat} (h : Dist A x y k) (r : A y z) (no : ∀ j, j ≤ k → ¬ Dist A x z j) : Dist A x z (k + 1) :=
  ⟨⟨y, h.1, r⟩, fun j hj s => let ⟨d, h1, h2⟩ := s.dist; no d (by omega) h2⟩
/-- the spot ahead on a shortest way -/
theorem Dist.pred {x z k : Nat} (h : Dist A x z (k + 1)) : ∃ y, Dist A x y k ∧ A y z := by
  obtain ⟨y, s, r⟩ := h.1
  exact ⟨y, ⟨s, fun j hj s' => h.2 (j + 1) (by omega) ⟨y, s', r⟩⟩, r⟩
theorem Dist.all {x : Nat} : ∀ {k z : Nat}, Dist A x z k → ∀ j, j ≤ k → ∃ y, Dist A x y j
  | 0, z, h, j, hj => ⟨z, by rw [show j = 0 by omega]; exact h⟩
  | k + 1, z, h, j, hj => by
    by_cases c : j = k + 1
    · exact ⟨z, by rw [c]; exact h⟩
    · obtain ⟨y, hy, _⟩ := h.pred
      exact hy.all j (by omega)
theorem Steps.le {n : Nat} (hA : ∀ i j, A i j → j ≤ n) : ∀ {k x y : Nat}, x ≤ n → Steps A k x y → y ≤ n
  | 0, _, _, h, e => by cases e; exact h
  | _ + 1, _, _, _, ⟨_, _, r⟩ => hA _ _ r
/-- a shortest way within the spots 0 .. n has at most n steps -/
theorem Dist.le {n x z k : Nat} (hA : ∀ i j, A i j → j ≤ n) (hx : x ≤ n) (h : Dist A x z k) : k ≤ n := by
  have ex : ∀ m, m ≤ k + 1 → ∃ l : List Int, l.length = m ∧ l.Nodup ∧ ∀ v ∈ l, 0 ≤ v ∧ v ≤ n ∧ ∃ j, j < m ∧ Dist A x v.toNat j := by
    intro m
    induction m with
    | zero => exact fun _ => ⟨[], rfl, .nil, fun v h => by simp at h⟩
    | succ m ih =>
      intro hm
      obtain ⟨l, h1, h2, h3⟩ := ih (by omega)
      obtain ⟨y, hy⟩ := h.all m (by omega)
      have yl : y ≤ n := Steps.le hA hx hy.1
      refine ⟨(y : Int) :: l, by rw [List.length_cons, h1], List.nodup_cons.mpr ⟨fun q => ?_, h2⟩, fun v hv => ?_⟩
      · obtain ⟨_, _, j, hj, d⟩ := h3 _ q
        have := d.inj hy
        omega
      · rcases List.mem_cons.mp hv with rfl | hv
        · exact ⟨by omega, by omega, m, by omega, hy⟩
        · obtain ⟨a, b, j, hj, d⟩ := h3 v hv
          exact ⟨a, b, j, by omega, d⟩
  obtain ⟨l, h1, h2, h3⟩ := ex (k + 1) (Nat.le_refl _)
  have := Mw.nodup_range h2 fun v hv => ⟨(h3 v hv).1, (h3 v hv).2.1⟩
  omega
theorem star_steps {x y : Nat} : Mw.Star A x y ↔ ∃ k, Steps A k x y := by
  constructor
  · intro h
    induction h with
    | refl => exact ⟨0, rfl⟩
    | step _ r ih => let ⟨k, s⟩ := ih; exact ⟨k + 1, _, s, r⟩
  · rintro ⟨k, s⟩
    induction k generalizing y with
    | zero => cases s; exact .refl
    | succ k ih => let ⟨u, s, r⟩ := s; exact .step (ih s) r
theorem star_dist {x y : Nat} : Mw.Star A x y ↔ ∃ k, Dist A x y k := star_steps.trans ⟨fun ⟨_, s⟩ => let ⟨d, _, h⟩ := s.dist; ⟨d, h⟩, fun ⟨k, h⟩ => ⟨k, h.1⟩⟩
/-- the least of the shortest ways from x to n, step by step -/
inductive Gr (A : Nat → Nat → Prop) (n : Nat) : Nat → List Nat → Prop where
  | stop : Gr A n n [n]
  | step {x w d : Nat} {P : List Nat} (hx : Dist A x n (d + 1)) (r : A x w) (hw : Dist A w n d) (least : ∀ v, A x v → Dist A v n d → w ≤ v) (h : Gr A n w P) : Gr A n x (x :: P)
theorem Gr.inj {n : Nat} : ∀ {P P' : List Nat} {x : Nat}, Gr A n x P → Gr A n x P' → P = P' := by
  intro P P' x a
  induction a generalizing P' with
  | stop =>
    intro b
    cases b with
    | stop => rfl
    | step hx _ _ _ _ => have := hx.inj Dist.zero; omega
  | @step x w d P hx r hw least h ih =>
    intro b
    cases b with
    | stop => have := hx.inj Dist.zero; omega
    | @step _ w' d' P' hx' r' hw' least' h' =>
      have e : d = d' := by have := hx.inj hx'; omega
      subst e
      have : w = w' := by
        have := least w' r' hw'
        have := least' w r hw
        omega
      subst this
      rw [ih h']
/-- a least one is there -/
theorem least_of {P : Nat → Prop} {m : Nat} (h : P m) : ∃ w, P w ∧ ∀ v, P v → w ≤ v := by
  induction m using Nat.strongRecOn with
  | _ m ih =>
    by_cases c : ∃ v, v < m ∧ P v
    · obtain ⟨v, l, p⟩ := c
      exact ih v l p
    · exact ⟨m, h, fun v p => by
        rcases Nat.lt_or_ge v m with l | l
        · exact absurd ⟨v, l, p⟩ c
        · exact l⟩
/-! ### the order of ways -/
/-- not after, as tuples of one length are ordered -/
def lle : List Nat → List Nat → Prop
  | [], _ => True
  | _ :: _, [] => False
  | a :: p, b :: q => a < b ∨ (a = b ∧ lle p q)
theorem lle.refl : ∀ p, lle p p
  | [] => trivial
  | a :: p => .inr ⟨rfl, lle.refl p⟩
theorem lle.trans : ∀ {p q r}, lle p q → lle q r → lle p r
  | [], _, _, _, _ => trivial
  | _ :: _, [], _, h, _ => h.elim
  | _ :: _, _ :: _, [], _, h => h.elim
  | a :: p, b :: q, c :: r, h, k => by
    rcases h with h | ⟨rfl, h⟩
    · rcases k with k | ⟨rfl, k⟩
      · exact .inl (by omega)
      · exact .inl h
    · rcases k with k | ⟨rfl, k⟩
      · exact .inl k
      · exact .inr ⟨rfl, lle.trans h k⟩
theorem lle.total : ∀ p q, lle p q ∨ lle q p
  | [], _ => .inl trivial
  | _ :: _, [] => .inr trivial
  | a :: p, b :: q => by
    rcases Nat.lt_trichotomy a b with h | h | h
    · exact .inl (.inl h)
    · rcases lle.total p q with k | k
      · exact .inl (.inr ⟨h, k⟩)
      · exact .inr (.inr ⟨h.symm, k⟩)
    · exact .inr (.inl h)
theorem lle.anti : ∀ {p q}, lle p q → lle q p → p = q
  | [], [], _, _ => rfl
  | [], _ :: _, _, h => h.elim
  | _ :: _, [], h, _ => h.elim
  | a :: p, b :: q, h, k => by
    rcases h with h | ⟨rfl, h⟩
    · rcases k with k | ⟨k, _⟩ <;> omega
    · rcases k with k | ⟨_, k⟩
      · omega
      · rw [lle.anti h k]
theorem lle.snoc {v : Nat} : ∀ {p q : List Nat}, p.length = q.length → lle p q → lle (p ++ [v]) (q ++ [v])
  | [], [], _, _ => .inr ⟨rfl, trivial⟩
  | [], _ :: _, h, _ => by simp at h
  | _ :: _, [], h, _ => by simp at h
  | a :: p, b :: q, h, k => k.elim .inl fun ⟨e, k⟩ => .inr ⟨e, lle.snoc (by simpa using h) k⟩
theorem lle.unpre {q r : List Nat} : ∀ {p : List Nat}, lle (p ++ q) (p ++ r) → lle q r
  | [], h => h
  | a :: p, h => h.elim (fun h => by omega) fun ⟨_, h⟩ => lle.unpre (p := p) h
/-- a way from x to y -/
inductive Way (A : Nat → Nat → Prop) : Nat → Nat → List Nat → Prop where
  | one (x : Nat) : Way A x x [x]
  | cons {x w y : Nat} {P : List Nat} (r : A x w) (h : Way A w y P) : Way A x y (x :: P)
theorem Way.head {x y : Nat} {P : List Nat} (h : Way A x y P) : ∃ t, P = x :: t := by cases h <;> exact ⟨_, rfl⟩
theorem Way.snoc {x y z : Nat} {P : List Nat} (h : Way A x y P) (r : A y z) : Way A x z (P ++ [z]) := by
  induction h with
  | one x => exact .cons r (.one z)
  | cons r' _ ih => exact .cons r' (ih r)
theorem Way.unsnoc {x z : Nat} {P : List Nat} (h : Way A x z P) : P = [x] ∧ x = z ∨ ∃ y P', P = P' ++ [z] ∧ Way A x y P' ∧ A y z := by
  induction h with
  | one x => exact .inl ⟨rfl, rfl⟩
  | @cons x w z P r h ih =>
    rcases ih with ⟨rfl, rfl⟩ | ⟨y, P', rfl, h', r'⟩
    · exact .inr ⟨x, [x], rfl, .one x, r⟩
    · exact .inr ⟨y, x :: P', rfl, .cons r h', r'⟩
theorem Way.steps {x y : Nat} {P : List Nat} (h : Way A x y P) : ∃ k, P.length = k + 1 ∧ Steps A k x y := by
  induction h with
  | one x => exact ⟨0, rfl, rfl⟩
  | cons r _ ih => obtain ⟨k, e, s⟩ := ih; exact ⟨k + 1, by rw [List.length_cons, e], Steps.cons r s⟩
theorem Steps.way : ∀ {k x y : Nat}, Steps A k x y → ∃ P, Way A x y P ∧ P.length = k + 1
  | 0, x, y, e => by cases e; exact ⟨[x], .one x, rfl⟩
  | k + 1, x, z, ⟨y, s, r⟩ => let ⟨P, w, l⟩ := Steps.way s; ⟨P ++ [z], w.snoc r, by rw [List.length_append, l]; rfl⟩
/-- the least of the shortest ways -/
structure Best (A : Nat → Nat → Prop) (x y d : Nat) (P : List Nat) : Prop where
  way : Way A x y P
  ln : P.length = d + 1
  least : ∀ P', Way A x y P' → P'.length = d + 1 → lle P P'
theorem Best.tail {n x w d : Nat} {P : List Nat} (h : Best A x n (d + 1) (x :: P)) (r : A x w) (hw : Way A w n P) : Best A w n d P :=
  ⟨hw, by simpa using h.ln, fun P' h1 h2 => (h.least (x :: P') (.cons r h1) (by rw [List.length_cons, h2])).elim (fun q => by omega) fun q => q.2⟩
/-- .. is found step by step -/
theorem Best.gr {n : Nat} : ∀ {P : List Nat} {x d : Nat}, Dist A x n d → Best A x n d P → Gr A n x P
  | [], x, d, _, h => by have := h.ln; simp at this
  | [a], x, d, hd, h => by
    have l := h.ln
    have hw := h.way
    cases hw with
    | one => exact .stop
    | cons _ q => cases q
  | a :: b :: P, x, d, hd, h => by
    have l := h.ln
    have hw := h.way
    cases hw with
    | @cons _ w _ _ r q =>
      obtain ⟨t, e⟩ := q.head
      cases e
      obtain ⟨k, e1, s⟩ := q.steps
      cases d with
      | zero => simp at l
      | succ d =>
        have ek : k = d := by
          simp only [List.length_cons] at l e1
          omega
        subst ek
        have dw : Dist A b n k := ⟨s, fun j hj s' => hd.2 (j + 1) (by omega) (Steps.cons r s')⟩
        refine .step hd r dw (fun v rv dv => ?_) (Best.gr dw (h.tail r q))
        obtain ⟨P', w', l'⟩ := dv.1.way
        obtain ⟨t', e'⟩ := w'.head
        subst e'
        rcases h.least (a :: v :: t') (.cons rv w') (by rw [List.length_cons, l']) with z | ⟨_, z⟩
        · omega
        · rcases z with z | ⟨z, _⟩ <;> omega
/-- one step on: the least over the spots ahead -/
theorem Best.next {x z d : Nat} {P : List Nat} {y : Nat} (hP : Best A x y d P) (r : A y z)
    (least : ∀ y' P', Best A x y' d P' → A y' z → lle (P ++ [z]) (P' ++ [z])) (ex : ∀ y', Steps A d x y' → A y' z → ∃ P', Best A x y' d P') : Best A x z (d + 1) (P ++ [z]) := by
  refine ⟨hP.way.snoc r, by rw [List.length_append, hP.ln]; rfl, fun P' h1 h2 => ?_⟩
  rcases h1.unsnoc with ⟨rfl, rfl⟩ | ⟨y', Q, rfl, hq, r'⟩
  · simp at h2
  · obtain ⟨k, e, s⟩ := hq.steps
    rw [List.length_append, e] at h2
    have ek : k = d := by simp at h2; omega
    subst ek
    obtain ⟨P2, b2⟩ := ex y' s r'
    exact (least y' P2 b2 r').trans (lle.snoc (by rw [b2.ln, e]) (b2.least Q hq e))
end Mz

/-! Plain law: the classes of spots that lead to one another. -/
namespace Mc
open PySem PySem.Spec PyProof.Rows L2
open Classical
variable {A : Nat → Nat → Prop}
/-- ascending lists with the same members are the same -/
theorem lt_ext {α : Type} {R : α → α → Prop} (irr : ∀ x, ¬ R x x) (tr : ∀ x y z, R x y → R y z → R x z) : ∀ {l m : List α}, l.Pairwise R → m.Pairwise R → (∀ x, x ∈ l ↔ x ∈ m) → l = m
  | [], [], _, _, _ => rfl
  | [], y :: m, _, _, h => absurd ((h y).mpr (List.mem_cons_self ..)) (by simp)
  | x :: l, [], _, _, h => absurd ((h x).mp (List.mem_cons_self ..)) (by simp)
  | x :: l, y :: m, hl, hm, h => by
    obtain ⟨hx, hl2⟩ := List.pairwise_cons.mp hl
    obtain ⟨hy, hm2⟩ := List.pairwise_cons.mp hm
    have e : x = y := by
      rcases List.mem_cons.mp ((h x).mp (List.mem_cons_self ..)) with e | q
      · exact e
      · rcases List.mem_cons.mp ((h y).mpr (List.mem_cons_self ..)) with e | q2
        · exact e.symm
        · exact absurd (tr _ _ _ (hx y q2) (hy x q)) (irr x)
    subst e
    refine congrArg (x :: ·) (lt_ext irr tr hl2 hm2 fun z => ?_)
    constructor
    · intro q
      rcases List.mem_cons.mp ((h z).mp (List.mem_cons_of_mem _ q)) with e | r
      · rw [e] at q
        exact absurd (hx _ q) (irr _)
      · exact r
    · intro q
      rcases List.mem_cons.mp ((h z).mpr (List.mem_cons_of_mem _ q)) with e | r
      · rw [e] at q
        exact absurd (hy _ q) (irr _)
      · exact r
theorem int_ext {l m : List Int} (hl : l.Pairwise (· < ·)) (hm : m.Pairwise (· < ·)) (h : ∀ x, x ∈ l ↔ x ∈ m) : l = m := lt_ext (R := fun a b : Int => a < b) (fun x => by omega) (fun x y z h k => by omega) hl hm h
theorem star_le {n : Nat} (hA : ∀ i j, A i j → j ≤ n) {x y : Nat} (hx : x ≤ n) (h : Mw.Star A x y) : y ≤ n := by
  cases h with
  | refl => exact hx
  | step _ a => exact hA _ _ a
/-- the class of a spot, ascending -/
noncomputable def cls (A : Nat → Nat → Prop) (n s : Nat) : List Nat := (List.range (n + 1)).filter fun i => decide (Mw.Star A s i)
theorem mem_cls {n s i : Nat} : i ∈ cls A n s ↔ i ≤ n ∧ Mw.Star A s i := by
  unfold cls
  rw [List.mem_filter, List.mem_range, decide_eq_true_iff]
  constructor <;> exact fun ⟨a, b⟩ => ⟨by omega, b⟩
theorem cls_len (n s : Nat) : (cls A n s).length ≤ n + 1 := by
  have := List.length_filter_le (fun i => decide (Mw.Star A s i)) (List.range (n + 1))
  rwa [List.length_range] at this
theorem range_lt (n : Nat) : (List.range n).Pairwise (· < ·) := List.pairwise_lt_range
theorem cls_lt (n s : Nat) : ((cls A n s).map fun i : Nat => (i : Int)).Pairwise (· < ·) := by
  rw [List.pairwise_map]
  exact ((range_lt (n + 1)).sublist List.filter_sublist).imp fun h => by omega
/-- first of its class -/
def Rep (A : Nat → Nat → Prop) (s : Nat) : Prop := ∀ r, r < s → ¬ Mw.Star A r s
noncomputable def classesTo (A : Nat → Nat → Prop) (n i : Nat) : List (List Nat) := ((List.range i).filter fun s => decide (Rep A s)).map (cls A n)
theorem classesTo_succ (n i : Nat) : classesTo A n (i + 1) = classesTo A n i ++ if Rep A i then [cls A n i] else [] := by
  unfold classesTo
  rw [List.range_succ, List.filter_append, List.map_append]
  congr 1
  by_cases h : Rep A i
  · rw [if_pos h]; simp [h]
  · rw [if_neg h]; simp [h]
theorem classesTo_len (n i : Nat) : (classesTo A n i).length ≤ i := by
  unfold classesTo
  rw [List.length_map]
  have := List.length_filter_le (fun s => decide (Rep A s)) (List.range i)
  rwa [List.length_range] at this
theorem mem_classesTo {n i : Nat} {c : List Nat} : c ∈ classesTo A n i ↔ ∃ s, s < i ∧ Rep A s ∧ c = cls A n s := by
  unfold classesTo
  rw [List.mem_map]
  constructor
  · rintro ⟨s, h, rfl⟩
    rw [List.mem_filter, List.mem_range, decide_eq_true_iff] at h
    exact ⟨s, h.1, h.2, rfl⟩
  · rintro ⟨s, h1, h2, rfl⟩
    exact ⟨s, by rw [List.mem_filter, List.mem_range, decide_eq_true_iff]; exact ⟨h1, h2⟩, rfl⟩
theorem rep_below (sy : ∀ i j, A i j → A j i) {r i : Nat} (h : Mw.Star A r i) : ∃ s, s ≤ r ∧ Rep A s ∧ Mw.Star A s i := by
  induction r using Nat.strongRecOn with
  | _ r ih =>
    by_cases c : Rep A r
    · exact ⟨r, Nat.le_refl _, c, h⟩
    · have : ∃ q, q < r ∧ Mw.Star A q r := by
        false_or_by_contra
        rename_i no
        exact c fun q hq sq => no ⟨q, hq, sq⟩
      obtain ⟨q, hq, sq⟩ := this
      obtain ⟨s, h1, h2, h3⟩ := ih q hq (sq.trans h)
      exact ⟨s, by omega, h2, h3⟩
theorem rep_iff (sy : ∀ i j, A i j → A j i) {n i : Nat} (hi : i ≤ n) : Rep A i ↔ ∀ c ∈ classesTo A n i, i ∉ c := by
  constructor
  · intro h c hc m
    obtain ⟨s, h1, _, rfl⟩ := mem_classesTo.mp hc
    exact h s h1 (mem_cls.mp m).2
  · intro h r hr sr
    obtain ⟨s, h1, h2, h3⟩ := rep_below sy sr
    exact h _ (mem_classesTo.mpr ⟨s, by omega, h2, rfl⟩) (mem_cls.mpr ⟨hi, h3⟩)
theorem rep_zero : Rep A 0 := fun r h => by omega
theorem classes_head (n i : Nat) : ∃ r, classesTo A n (i + 1) = cls A n 0 :: r := by
  unfold classesTo
  rw [List.range_succ_eq_map, List.filter_cons, if_pos (by simpa using rep_zero), List.map_cons]
  exact ⟨_, rfl⟩
end Mc

/-! Plain law: ways with the fewest turns and, of these, the fewest steps. -/
namespace Mk
variable {A : Nat → Nat → Prop} {n : Nat}
/-- one turn if the direction changes -/
def tn (u d : Bool) : Nat := if d = u then 0 else 1
/-- a way from s, to which one comes in direction u, to n: its turns, its steps -/
inductive Cw (A : Nat → Nat → Prop) (n : Nat) : Nat → Bool → Nat → Nat → Prop where
  | stop (u : Bool) : Cw A n n u 0 0
  | step {s o t k : Nat} {u : Bool} (ne : s ≠ n) (a : A s o) (h : Cw A n o (decide (s < o)) t k) : Cw A n s u (t + tn u (decide (s < o))) (k + 1)
/-- not more: turns first, then steps -/
def lx (p q : Nat × Nat) : Prop := p.1 < q.1 ∨ (p.1 = q.1 ∧ p.2 ≤ q.2)
theorem lx.refl (p : Nat × Nat) : lx p p := .inr ⟨rfl, Nat.le_refl _⟩
theorem lx.trans {p q r : Nat × Nat} (h : lx p q) (k : lx q r) : lx p r := by unfold lx at *; omega
theorem lx.anti {p q : Nat × Nat} (h : lx p q) (k : lx q p) : p = q := by
  unfold lx at *
  exact Prod.ext (by omega) (by omega)
theorem lx.total (p q : Nat × Nat) : lx p q ∨ lx q p := by unfold lx; omega
theorem lx_zero (p : Nat × Nat) : lx (0, 0) p := by unfold lx; simp; omega
/-- the step ahead -/
def add (u d : Bool) (p : Nat × Nat) : Nat × Nat := (p.1 + tn u d, p.2 + 1)
theorem lx_add {u d : Bool} {p q : Nat × Nat} : lx (add u d p) (add u d q) ↔ lx p q := by
  unfold lx add
  simp only
  omega
def Least (A : Nat → Nat → Prop) (n s : Nat) (u : Bool) (p : Nat × Nat) : Prop := Cw A n s u p.1 p.2 ∧ ∀ t k, Cw A n s u t k → lx p (t, k)
theorem Least.inj {s : Nat} {u : Bool} {p q : Nat × Nat} (h : Least A n s u p) (k : Least A n s u q) : p = q := (h.2 _ _ k.1).anti (k.2 _ _ h.1)
theorem least_ex {s t k : Nat} {u : Bool} (h : Cw A n s u t k) : ∃ p, Least A n s u p := by
  obtain ⟨t0, ⟨k1, h1⟩, m1⟩ := Mz.least_of (P := fun t => ∃ k, Cw A n s u t k) ⟨k, h⟩
  obtain ⟨k0, h0, m0⟩ := Mz.least_of (P := fun k => Cw A n s u t0 k) h1
  refine ⟨(t0, k0), h0, fun t' k' h' => ?_⟩
  have a := m1 t' ⟨k', h'⟩
  rcases Nat.lt_or_ge t0 t' with c | c
  · exact .inl c
  · have e : t' = t0 := by omega
    subst e
    exact .inr ⟨rfl, m0 k' h'⟩
theorem cw_n {u : Bool} {t k : Nat} (h : Cw A n n u t k) : t = 0 ∧ k = 0 := by
  cases h with
  | stop => exact ⟨rfl, rfl⟩
  | step ne => exact absurd rfl ne
/-- the step on, and what is left -/
theorem Cw.next {s t k : Nat} {u : Bool} (h : Cw A n s u t k) (ne : s ≠ n) : ∃ o q, A s o ∧ Cw A n o (decide (s < o)) q.1 q.2 ∧ (t, k) = add u (decide (s < o)) q := by
  cases h with
  | stop => exact absurd rfl ne
  | @step _ o t k _ _ a h => exact ⟨o, (t, k), a, h, rfl⟩
theorem Least.next {s : Nat} {u : Bool} {p : Nat × Nat} (h : Least A n s u p) (ne : s ≠ n) : ∃ o q, A s o ∧ Least A n o (decide (s < o)) q ∧ p = add u (decide (s < o)) q := by
  obtain ⟨o, q, a, c, e⟩ := h.1.next ne
  have e' : p = add u (decide (s < o)) q := e
  refine ⟨o, q, a, ⟨c, fun t k c' => ?_⟩, e'⟩
  have := h.2 _ _ (Cw.step ne a c')
  rw [e'] at this
  exact lx_add.mp this
def code (s : Nat) (u : Bool) : Int := 2 * s + (if u then 1 else 0)
theorem code_inj {s s' : Nat} {u u' : Bool} (h : code s u = code s' u') : s = s' ∧ u = u' := by
  unfold code at h
  cases u <;> cases u' <;> simp at h ⊢ <;> omega
/-- a least way has few steps -/
theorem Least.le (hA : ∀ i j, A i j → j ≤ n) {s : Nat} {u : Bool} {p : Nat × Nat} (h : Least A n s u p) (sn : s ≤ n) : p.2 ≤ 2 * n + 1 := by
  have ex : ∀ m, ∀ s u (p : Nat × Nat), p.2 = m → s ≤ n → Least A n s u p → ∃ l : List Int, l.length = m + 1 ∧ l.Nodup ∧ ∀ v ∈ l, 0 ≤ v ∧ v ≤ ((2 * n + 1 : Nat) : Int) ∧ ∃ x b q, v = code x b ∧ Least A n x b q ∧ q.2 ≤ m := by
    intro m
    induction m with
    | zero =>
      intro s u p e sn h
      refine ⟨[code s u], rfl, by simp, fun v hv => ?_⟩
      rw [List.mem_singleton.mp hv]
      refine ⟨by unfold code; split <;> omega, by unfold code; split <;> omega, s, u, p, rfl, h, by omega⟩
    | succ m ih =>
      intro s u p e sn h
      have ne : s ≠ n := fun c => by
        subst c
        have := cw_n h.1
        omega
      obtain ⟨o, q, a, hq, ep⟩ := h.next ne
      have eq : q.2 = m := by
        rw [ep] at e
        unfold add at e
        simp only at e
        omega
      obtain ⟨l, h1, h2, h3⟩ := ih o _ q eq (hA _ _ a) hq
      refine ⟨code s u :: l, by rw [List.length_cons, h1], List.nodup_cons.mpr ⟨fun c => ?_, h2⟩, fun v hv => ?_⟩
      · obtain ⟨_, _, x, b, q', e1, e2, e3⟩ := h3 _ c
        obtain ⟨rfl, rfl⟩ := code_inj e1
        have := h.inj e2
        rw [this] at e
        omega
      · rcases List.mem_cons.mp hv with rfl | hv
        · exact ⟨by unfold code; split <;> omega, by unfold code; split <;> omega, s, u, p, rfl, h, by omega⟩
        · obtain ⟨h1, h2, x, b, q', e1, e2, e3⟩ := h3 v hv
          exact ⟨h1, h2, x, b, q', e1, e2, by omega⟩
  obtain ⟨l, h1, h2, h3⟩ := ex p.2 s u p rfl sn h
  have := Mw.nodup_range h2 fun v hv => ⟨(h3 v hv).1, (h3 v hv).2.1⟩
  omega
/-! ### what is known of the costs -/
abbrev Tab := Nat → Bool → Option (Nat × Nat)
def Sound (A : Nat → Nat → Prop) (n : Nat) (F : Tab) : Prop := ∀ s u p, s ≤ n → F s u = some p → Cw A n s u p.1 p.2
/-- all ways of at most r steps from s are covered -/
def Cov (A : Nat → Nat → Prop) (n : Nat) (F : Tab) (r s : Nat) (u : Bool) : Prop := ∀ t k, Cw A n s u t k → k ≤ r → ∃ p, F s u = some p ∧ lx p (t, k)
def Fall (F G : Tab) : Prop := ∀ s u p, F s u = some p → ∃ q, G s u = some q ∧ lx q p
theorem Fall.refl (F : Tab) : Fall F F := fun s u p h => ⟨p, h, lx.refl p⟩
theorem Fall.trans {F G H : Tab} (h : Fall F G) (k : Fall G H) : Fall F H := fun s u p e => by
  obtain ⟨q, e1, l1⟩ := h s u p e
  obtain ⟨r, e2, l2⟩ := k s u q e1
  exact ⟨r, e2, l2.trans l1⟩
theorem Cov.fall {F G : Tab} {r s : Nat} {u : Bool} (h : Cov A n F r s u) (f : Fall F G) : Cov A n G r s u := fun t k c l => by
  obtain ⟨p, e, lp⟩ := h t k c l
  obtain ⟨q, e2, lq⟩ := f s u p e
  exact ⟨q, e2, lq.trans lp⟩
/-- not below any step on -/
def Stab (A : Nat → Nat → Prop) (F : Tab) (s : Nat) (u : Bool) : Prop := ∀ o q, A s o → F o (decide (s < o)) = some q → ∃ p, F s u = some p ∧ lx p (add u (decide (s < o)) q)
/-- all is found -/
def Opt (A : Nat → Nat → Prop) (n : Nat) (F : Tab) : Prop := ∀ s u p, s ≤ n → (F s u = some p ↔ Least A n s u p)
theorem opt_of {F : Tab} (so : Sound A n F) (cov : ∀ s u, s ≤ n → ∀ t k, Cw A n s u t k → ∃ p, F s u = some p ∧ lx p (t, k)) : Opt A n F := fun s u p sn => by
  constructor
  · intro e
    refine ⟨so s u p sn e, fun t k c => ?_⟩
    obtain ⟨q, e2, l⟩ := cov s u sn t k c
    rw [e] at e2
    cases e2
    exact l
  · intro h
    obtain ⟨q, e2, l⟩ := cov s u sn _ _ h.1
    rw [e2, l.anti (h.2 _ _ (so s u q sn e2))]
theorem opt_stab (hA : ∀ i j, A i j → j ≤ n) {F : Tab} (so : Sound A n F) (z : ∀ u, F n u = some (0, 0)) (st : ∀ s u, s < n → Stab A F s u) : Opt A n F := by
  refine opt_of so fun s u sn t k c => ?_
  induction c with
  | stop u => exact ⟨(0, 0), z u, lx.refl _⟩
  | @step s o t k u ne a h ih =>
    obtain ⟨q, e, l⟩ := ih (hA _ _ a)
    obtain ⟨p, e2, l2⟩ := st s u (by omega) o q a e
    exact ⟨p, e2, l2.trans (lx_add.mpr l)⟩
theorem opt_cov (hA : ∀ i j, A i j → j ≤ n) {F : Tab} (so : Sound A n F) {r : Nat} (hr : 2 * n + 2 ≤ r) (cv : ∀ s u, s ≤ n → Cov A n F r s u) : Opt A n F := by
  refine opt_of so fun s u sn t k c => ?_
  obtain ⟨p, hp⟩ := least_ex c
  obtain ⟨q, e, l⟩ := cv s u sn _ _ hp.1 (by have := hp.le hA sn; omega)
  exact ⟨q, e, l.trans (hp.2 _ _ c)⟩
/-- covered by all steps on -/
theorem cov_next {F0 F : Tab} {r s : Nat} {u : Bool} {b : Option (Nat × Nat)} (hA : ∀ i j, A i j → j ≤ n) (sn : s < n) (cv : ∀ s u, s ≤ n → Cov A n F0 r s u) (f : Fall F0 F)
    (hb : ∀ o q, A s o → F o (decide (s < o)) = some q → ∃ p, b = some p ∧ lx p (add u (decide (s < o)) q)) : ∀ t k, Cw A n s u t k → k ≤ r + 1 → ∃ p, b = some p ∧ lx p (t, k) := fun t k c l => by
  obtain ⟨o, q, a, cq, e⟩ := c.next (by omega)
  have : q.2 ≤ r := by
    have := congrArg Prod.snd e
    unfold add at this
    simp only at this
    omega
  obtain ⟨p0, e0, l0⟩ := cv o _ (hA _ _ a) _ _ cq this
  obtain ⟨p1, e1, l1⟩ := f _ _ _ e0
  obtain ⟨p, ep, lp⟩ := hb o p1 a e1
  refine ⟨p, ep, ?_⟩
  rw [e]
  exact lp.trans (lx_add.mpr (l1.trans l0))
def put (F : Tab) (s : Nat) (u : Bool) (b : Option (Nat × Nat)) : Tab := fun s' u' => if s' = s ∧ u' = u then b else F s' u'
theorem put_same {F : Tab} {s : Nat} {u : Bool} {b : Option (Nat × Nat)} : put F s u b s u = b := if_pos ⟨rfl, rfl⟩
theorem put_ne {F : Tab} {s s' : Nat} {u u' : Bool} {b : Option (Nat × Nat)} (h : ¬ (s' = s ∧ u' = u)) : put F s u b s' u' = F s' u' := if_neg h
theorem put_self {F : Tab} {s : Nat} {u : Bool} : put F s u (F s u) = F := by
  funext s' u'
  by_cases h : s' = s ∧ u' = u
  · obtain ⟨rfl, rfl⟩ := h
    exact put_same
  · exact put_ne h
theorem put_fall {F : Tab} {s : Nat} {u : Bool} {b : Option (Nat × Nat)} (h : ∀ p, F s u = some p → ∃ q, b = some q ∧ lx q p) : Fall F (put F s u b) := fun s' u' p e => by
  by_cases c : s' = s ∧ u' = u
  · obtain ⟨rfl, rfl⟩ := c
    obtain ⟨q, e1, l⟩ := h p e
    exact ⟨q, by rw [put_same]; exact e1, l⟩
  · exact ⟨p, by rw [put_ne c]; exact e, lx.refl p⟩
/-! ### the least way, found step by step -/
inductive Gc (A : Nat → Nat → Prop) (n : Nat) : Nat → Bool → List Nat → Prop where
  | stop (u : Bool) : Gc A n n u [n]
  | step {s o : Nat} {u : Bool} {p q : Nat × Nat} {P : List Nat} (ne : s ≠ n) (hs : Least A n s u p) (a : A s o) (ho : Least A n o (decide (s < o)) q) (e : p = add u (decide (s < o)) q)
      (least : ∀ v q', A s v → Least A n v (decide (s < v)) q' → p = add u (decide (s < v)) q' → o ≤ v) (h : Gc A n o (decide (s < o)) P) : Gc A n s u (s :: P)
theorem Gc.inj : ∀ {P P' : List Nat} {s : Nat} {u : Bool}, Gc A n s u P → Gc A n s u P' → P = P' := by
  intro P P' s u a
  induction a generalizing P' with
  | stop u =>
    intro b
    cases b with
    | stop => rfl
    | step ne => exact absurd rfl ne
  | @step s o u p q P ne hs a ho e least h ih =>
    intro b
    cases b with
    | stop => exact absurd rfl ne
    | @step _ o' _ p' q' P' ne' hs' a' ho' e' least' h' =>
      have ep := hs.inj hs'
      subst ep
      have : o = o' := by
        have := least o' q' a' ho' e'
        have := least' o q a ho e
        omega
      subst this
      rw [ih h']
/-- turns of a row, coming in direction u -/
def turns : Bool → List Nat → Nat
  | u, x :: y :: r => tn u (decide (x < y)) + turns (decide (x < y)) (y :: r)
  | _, _ => 0
theorem Gc.cost {s : Nat} {u : Bool} {P : List Nat} (h : Gc A n s u P) : ∃ p, Least A n s u p ∧ turns u P = p.1 ∧ P.length = p.2 + 1 := by
  induction h with
  | stop u => exact ⟨(0, 0), ⟨.stop u, fun t k _ => lx_zero _⟩, rfl, rfl⟩
  | @step s o u p q P ne hs a ho e least h ih =>
    obtain ⟨q', hq, t1, l1⟩ := ih
    have := ho.inj hq
    subst this
    refine ⟨p, hs, ?_, ?_⟩
    · obtain ⟨r, hr⟩ : ∃ r, P = o :: r := by cases h <;> exact ⟨_, rfl⟩
      subst hr
      show tn u (decide (s < o)) + turns (decide (s < o)) (o :: r) = p.1
      rw [t1, e]
      unfold add
      simp only
      omega
    · rw [List.length_cons, l1, e]
      rfl
theorem Gc.head {s : Nat} {u : Bool} {P : List Nat} (h : Gc A n s u P) : ∃ r, P = s :: r := by cases h <;> exact ⟨_, rfl⟩
/-- there is a way just if there is one at all -/
theorem cw_star {s : Nat} {u : Bool} : (∃ t k, Cw A n s u t k) ↔ Mw.Star A s n := by
  constructor
  · rintro ⟨t, k, h⟩
    induction h with
    | stop => exact .refl
    | step _ a _ ih => exact (Mw.Star.one a).trans ih
  · intro h
    have key : ∀ {x y : Nat}, Mw.Star A x y → (∃ u t k, Cw A n y u t k) → (∀ u, ∃ t k, Cw A n y u t k) → ∀ u, ∃ t k, Cw A n x u t k := by
      intro x y st
      induction st with
      | refl => exact fun _ h => h
      | @step y z st a ih =>
        intro _ hz
        have : ∀ u, ∃ t k, Cw A n y u t k := fun u => by
          by_cases c : y = n
          · subst c; exact ⟨0, 0, .stop u⟩
          · obtain ⟨t, k, w⟩ := hz (decide (y < z))
            exact ⟨_, _, .step c a w⟩
        obtain ⟨t, k, w⟩ := this true
        exact ih ⟨true, t, k, w⟩ this
    exact key h ⟨true, 0, 0, .stop true⟩ (fun u => ⟨0, 0, .stop u⟩) u
end Mk

/-! Plain law: spots read from the end, letters exchanged, words joined. -/
namespace Mt
open PySem PySem.Spec PyProof.Rows L2
open Classical
theorem str_ext {a b : Str} (h : a.cps.toList = b.cps.toList) : a = b := by
  obtain ⟨⟨x⟩⟩ := a
  obtain ⟨⟨y⟩⟩ := b
  cases (show x = y from h)
  rfl
variable {A B : Nat → Nat → Prop} {n : Nat}
/-- B is A read from the end -/
structure Mir (A B : Nat → Nat → Prop) (n : Nat) : Prop where
  la : ∀ i j, A i j → i ≤ n ∧ j ≤ n
  lb : ∀ i j, B i j → i ≤ n ∧ j ≤ n
  iff : ∀ i j, i ≤ n → j ≤ n → (B i j ↔ A (n - i) (n - j))
  sa : ∀ i j, A i j → A j i
  ne : ∀ i j, A i j → i ≠ j
theorem Mir.to (m : Mir A B n) {i j : Nat} (h : A i j) : B (n - i) (n - j) := by
  have ⟨a, b⟩ := m.la _ _ h
  refine (m.iff _ _ (Nat.sub_le _ _) (Nat.sub_le _ _)).mpr ?_
  rw [Nat.sub_sub_self a, Nat.sub_sub_self b]
  exact h
theorem Mir.symm (m : Mir A B n) : Mir B A n where
  la := m.lb
  lb := m.la
  iff i j hi hj := by
    rw [m.iff _ _ (Nat.sub_le _ _) (Nat.sub_le _ _), Nat.sub_sub_self hi, Nat.sub_sub_self hj]
  sa i j h := by
    have ⟨a, b⟩ := m.lb _ _ h
    exact (m.iff _ _ b a).mpr (m.sa _ _ ((m.iff _ _ a b).mp h))
  ne i j h := by
    have ⟨a, b⟩ := m.lb _ _ h
    intro e
    exact m.ne _ _ ((m.iff _ _ a b).mp h) (by rw [e])
/-! ### ways, from both ends -/
inductive Wy (A : Nat → Nat → Prop) : Nat → Bool → Nat → Nat → Nat → Bool → Prop
  | nil (s : Nat) (u : Bool) : Wy A s u 0 0 s u
  | cons {s o t k e : Nat} {u d : Bool} (a : A s o) (h : Wy A o (decide (s < o)) t k e d) : Wy A s u (t + Mk.tn u (decide (s < o))) (k + 1) e d
theorem Wy.snoc {s t k e f : Nat} {u d : Bool} (h : Wy A s u t k e d) (a : A e f) : Wy A s u (t + Mk.tn d (decide (e < f))) (k + 1) f (decide (e < f)) := by
  induction h with
  | nil s u => exact Wy.cons a (.nil _ _)
  | @cons s o t k e u d a' _ ih =>
    have := Wy.cons (A := A) (u := u) a' (ih a)
    rw [Nat.add_right_comm] at this
    exact this
theorem tn_comm (a b : Bool) : Mk.tn a b = Mk.tn b a := by cases a <;> cases b <;> rfl
theorem tn_self (a : Bool) : Mk.tn a a = 0 := by cases a <;> rfl
theorem wy_of (hA : ∀ i j, A i j → i ≤ n ∧ j ≤ n) (ne : ∀ i j, A i j → i ≠ j) {s t k : Nat} {u : Bool} (h : Mk.Cw A n s u t k) : ∃ d, Wy A s u t k n d ∧ (s ≠ n → d = true) := by
  induction h with
  | stop u => exact ⟨u, .nil _ _, fun c => absurd rfl c⟩
  | @step s o t k u c a h ih =>
    obtain ⟨d, w, e⟩ := ih
    by_cases q : o = n
    · subst q
      obtain ⟨rfl, rfl⟩ := Mk.cw_n h
      refine ⟨decide (s < o), .cons a (.nil _ _), fun _ => ?_⟩
      have := (hA _ _ a).1
      exact decide_eq_true (by omega)
    · exact ⟨d, .cons a w, fun _ => e q⟩
theorem wy_cw {s t k : Nat} {u d : Bool} (h : Wy A s u t k n d) : ∃ t' k', Mk.Cw A n s u t' k' ∧ Mk.lx (t', k') (t, k) := by
  generalize en : n = e at h
  induction h with
  | nil s u => subst en; exact ⟨0, 0, .stop _, Mk.lx.refl _⟩
  | @cons s o t k e u d a h ih =>
    subst en
    obtain ⟨t', k', c, l⟩ := ih rfl
    by_cases q : s = n
    · subst q
      exact ⟨0, 0, .stop _, Mk.lx_zero _⟩
    · exact ⟨_, _, .step q a c, Mk.lx_add (p := (t', k')) (q := (t, k)) |>.mpr l⟩
theorem Mir.wy (m : Mir A B n) {s t k e : Nat} {u d : Bool} (h : Wy A s u t k e d) (c : k ≠ 0) : ∃ o t', A s o ∧ t = t' + Mk.tn u (decide (s < o)) ∧ Wy B (n - e) d t' k (n - s) (decide (s < o)) := by
  induction h with
  | nil => exact absurd rfl c
  | @cons s o t k e u d a h ih =>
    have ⟨sn, on⟩ := m.la _ _ a
    have b : B (n - o) (n - s) := m.to (m.sa _ _ a)
    have dir : decide (n - o < n - s) = decide (s < o) := decide_eq_decide.mpr (by omega)
    refine ⟨o, t, a, rfl, ?_⟩
    cases k with
    | zero =>
      cases h
      have w := Wy.cons (u := decide (s < o)) b (.nil _ _)
      rw [dir, tn_self] at w
      exact w
    | succ k =>
      obtain ⟨o2, t2, a2, e2, w2⟩ := ih (by omega)
      have w := w2.snoc b
      rw [dir, tn_comm] at w
      rw [e2]
      exact w
theorem Mir.cw (m : Mir A B n) (n0 : n ≠ 0) {t k : Nat} (h : Mk.Cw A n 0 true t k) : ∃ t' k', Mk.Cw B n 0 true t' k' ∧ Mk.lx (t', k') (t, k) := by
  obtain ⟨d, w, e⟩ := wy_of m.la m.ne h
  have hd := e (by omega)
  subst hd
  have k0 : k ≠ 0 := by
    cases h with
    | stop => exact absurd rfl n0
    | step => omega
  obtain ⟨o, t', a, e, w'⟩ := m.wy w k0
  have o0 : 0 < o := by have := m.ne _ _ a; omega
  rw [decide_eq_true o0, tn_self, Nat.add_zero] at e
  subst e
  rw [Nat.sub_self, Nat.sub_zero] at w'
  exact wy_cw w'
theorem Mir.least (m : Mir A B n) (n0 : n ≠ 0) {p : Nat × Nat} (h : Mk.Least A n 0 true p) : Mk.Least B n 0 true p := by
  obtain ⟨t, k, c, l⟩ := m.cw n0 h.1
  obtain ⟨q, hq⟩ := Mk.least_ex c
  obtain ⟨t2, k2, c2, l2⟩ := m.symm.cw n0 hq.1
  have e : p = q := (Mk.lx.trans (h.2 _ _ c2) l2).anti (Mk.lx.trans (hq.2 _ _ c) l)
  rw [e]
  exact hq
theorem Mir.star (m : Mir A B n) {i j : Nat} (h : Mw.Star A i j) : Mw.Star B (n - i) (n - j) := by
  induction h with
  | refl => exact .refl
  | step _ a ih => exact .step ih (m.to a)
theorem Mir.told (m : Mir A B n) : Mw.Star A 0 n ↔ Mw.Star B 0 n := by
  have one : ∀ {A B}, Mir A B n → Mw.Star A 0 n → Mw.Star B 0 n := fun {A B} m h => by
    have := (m.star h).symm m.symm.sa
    rw [Nat.sub_self, Nat.sub_zero] at this
    exact this
  exact ⟨one m, one m.symm⟩
theorem Mir.steps (m : Mir A B n) : ∀ {k x y : Nat}, Mz.Steps A k x y → Mz.Steps B k (n - x) (n - y)
  | 0, x, y, e => by cases e; rfl
  | k + 1, x, z, ⟨y, s, a⟩ => ⟨n - y, m.steps s, m.to a⟩
theorem Mir.ends (m : Mir A B n) {k : Nat} (h : Mz.Steps A k 0 n) : Mz.Steps B k 0 n := by
  have := (m.steps h).symm m.symm.sa
  rw [Nat.sub_self, Nat.sub_zero] at this
  exact this
theorem Mir.dist (m : Mir A B n) {k : Nat} (h : Mz.Dist A 0 n k) : Mz.Dist B 0 n k := ⟨m.ends h.1, fun j hj s => h.2 j hj (m.symm.ends s)⟩
theorem gr_len {x : Nat} {P : List Nat} (h : Mz.Gr A n x P) : ∃ d, Mz.Dist A x n d ∧ P.length = d + 1 := by
  induction h with
  | stop => exact ⟨0, Mz.Dist.zero, rfl⟩
  | step hx _ hw _ _ ih =>
    obtain ⟨d', h', l⟩ := ih
    have := hw.inj h'
    exact ⟨_, hx, by rw [List.length_cons, l, this]⟩
/-! ### classes -/
theorem nat_ext {l m : List Nat} (hl : l.Pairwise (· < ·)) (hm : m.Pairwise (· < ·)) (h : ∀ x, x ∈ l ↔ x ∈ m) : l = m := Mc.lt_ext (R := fun a b : Nat => a < b) (fun x => by omega) (fun x y z h k => by omega) hl hm h
theorem cls_asc (n s : Nat) : (Mc.cls A n s).Pairwise (· < ·) := (Mc.range_lt (n + 1)).sublist List.filter_sublist
/-- a class, its spots counted from the end -/
def mr (n : Nat) (c : List Nat) : List Nat := (c.map fun i => n - i).reverse
theorem mr_asc {c : List Nat} (h : c.Pairwise (· < ·)) (l : ∀ x ∈ c, x ≤ n) : (mr n c).Pairwise (· < ·) := by
  unfold mr
  rw [List.pairwise_reverse, List.pairwise_map]
  refine List.Pairwise.imp_of_mem ?_ h
  intro a b ha hb hab
  have := l a ha
  have := l b hb
  show n - b < n - a
  omega
theorem mem_mr {c : List Nat} {x : Nat} : x ∈ mr n c ↔ ∃ i ∈ c, n - i = x := by
  unfold mr
  rw [List.mem_reverse, List.mem_map]
theorem Mir.cls (m : Mir A B n) {s : Nat} (hs : s ≤ n) : mr n (Mc.cls A n s) = Mc.cls B n (n - s) := by
  refine nat_ext (mr_asc (cls_asc n s) fun x h => (Mc.mem_cls.mp h).1) (cls_asc n _) fun x => ?_
  rw [mem_mr, Mc.mem_cls]
  constructor
  · rintro ⟨i, hi, rfl⟩
    obtain ⟨h1, h2⟩ := Mc.mem_cls.mp hi
    exact ⟨Nat.sub_le _ _, m.star h2⟩
  · rintro ⟨h1, h2⟩
    refine ⟨n - x, Mc.mem_cls.mpr ⟨Nat.sub_le _ _, ?_⟩, Nat.sub_sub_self h1⟩
    have := m.symm.star h2
    rwa [Nat.sub_sub_self hs] at this
theorem cls_head (sy : ∀ i j, A i j → A j i) {s : Nat} (h : Mc.Rep A s) (hs : s ≤ n) : ∃ r, Mc.cls A n s = s :: r := by
  have mem : s ∈ Mc.cls A n s := Mc.mem_cls.mpr ⟨hs, .refl⟩
  have asc := cls_asc (A := A) n s
  cases e : Mc.cls A n s with
  | nil => rw [e] at mem; cases mem
  | cons a r =>
    rw [e] at mem asc
    rcases List.mem_cons.mp mem with q | q
    · exact ⟨r, by rw [q]⟩
    · have l := (List.pairwise_cons.mp asc).1 _ q
      have : a ∈ Mc.cls A n s := by rw [e]; exact List.mem_cons_self
      exact absurd ((Mc.mem_cls.mp this).2.symm sy) (h a l)
def HeadLt (c d : List Nat) : Prop := ∃ a r b q, c = a :: r ∧ d = b :: q ∧ a < b
theorem classes_asc (sy : ∀ i j, A i j → A j i) : (Mc.classesTo A n (n + 1)).Pairwise HeadLt := by
  unfold Mc.classesTo
  rw [List.pairwise_map]
  refine List.Pairwise.imp_of_mem ?_ ((Mc.range_lt (n + 1)).sublist List.filter_sublist)
  intro a b ha hb hab
  rw [List.mem_filter, List.mem_range, decide_eq_true_iff] at ha hb
  obtain ⟨r, e⟩ := cls_head sy ha.2 (by omega : a ≤ n)
  obtain ⟨q, f⟩ := cls_head sy hb.2 (by omega : b ≤ n)
  exact ⟨a, r, b, q, e, f, hab⟩
theorem head_ne {c d : List Nat} (h : HeadLt c d) : c ≠ d := by
  rintro rfl
  obtain ⟨a, r, b, q, e, f, l⟩ := h
  rw [e] at f
  have := (List.cons.inj f).1
  omega
theorem cls_star (sy : ∀ i j, A i j → A j i) {s t : Nat} (h : Mw.Star A s t) : Mc.cls A n s = Mc.cls A n t := by
  refine nat_ext (cls_asc n s) (cls_asc n t) fun x => ?_
  rw [Mc.mem_cls, Mc.mem_cls]
  exact ⟨fun ⟨a, b⟩ => ⟨a, (h.symm sy).trans b⟩, fun ⟨a, b⟩ => ⟨a, h.trans b⟩⟩
theorem rep_eq (sy : ∀ i j, A i j → A j i) {s t : Nat} (hs : Mc.Rep A s) (ht : Mc.Rep A t) (h : Mw.Star A s t) : s = t := by
  rcases Nat.lt_trichotomy s t with c | c | c
  · exact absurd h (ht s c)
  · exact c
  · exact absurd (h.symm sy) (hs t c)
theorem Mir.classes (m : Mir A B n) : ((Mc.classesTo A n (n + 1)).map (mr n)).Perm (Mc.classesTo B n (n + 1)) := by
  have one : ∀ {s}, s < n + 1 → Mc.Rep A s → mr n (Mc.cls A n s) = Mc.cls B n (n - s) := fun hs _ => m.cls (by omega)
  refine (List.perm_ext_iff_of_nodup ?_ ((classes_asc m.symm.sa).imp fun h => head_ne h)).mpr fun c => ?_
  · unfold Mc.classesTo
    rw [List.map_map, List.nodup_iff_pairwise_ne, List.pairwise_map]
    refine List.Pairwise.imp_of_mem ?_ ((Mc.range_lt (n + 1)).sublist List.filter_sublist)
    intro a b ha hb hab e
    rw [List.mem_filter, List.mem_range, decide_eq_true_iff] at ha hb
    rw [Function.comp_apply, Function.comp_apply, one ha.1 ha.2, one hb.1 hb.2] at e
    have : n - b ∈ Mc.cls B n (n - a) := by rw [e]; exact Mc.mem_cls.mpr ⟨Nat.sub_le _ _, .refl⟩
    have st := m.symm.star (Mc.mem_cls.mp this).2
    rw [Nat.sub_sub_self (by omega : a ≤ n), Nat.sub_sub_self (by omega : b ≤ n)] at st
    have := rep_eq m.sa ha.2 hb.2 st
    omega
  · rw [List.mem_map, Mc.mem_classesTo]
    constructor
    · rintro ⟨d, hd, rfl⟩
      obtain ⟨s, hs, rs, rfl⟩ := Mc.mem_classesTo.mp hd
      obtain ⟨r, h1, h2, h3⟩ := Mc.rep_below m.symm.sa (Mw.Star.refl (R := B) (x := n - s))
      exact ⟨r, by omega, h2, by rw [one hs rs]; exact (cls_star m.symm.sa h3).symm⟩
    · rintro ⟨s, hs, rs, rfl⟩
      obtain ⟨r, h1, h2, h3⟩ := Mc.rep_below m.sa (Mw.Star.refl (R := A) (x := n - s))
      refine ⟨_, Mc.mem_classesTo.mpr ⟨r, by omega, h2, rfl⟩, ?_⟩
      have st := m.star h3
      rw [Nat.sub_sub_self (by omega : s ≤ n)] at st
      rw [one (by omega) h2]
      exact cls_star m.symm.sa st
/-! ### a piece of a text -/
theorem occ_iff {W z : Str} {s : Nat} : Mw.Occ W z s ↔ ∃ a b, z.cps.toList = a ++ W.cps.toList ++ b ∧ a.length = s := by
  have zl : z.cps.toList.length = z.length := Array.length_toList
  have wl : W.cps.toList.length = W.length := Array.length_toList
  have key : s + W.length ≤ z.length → (cutS z (some (s : Int)) (some ((s : Int) + (W.length : Int)))).cps.toList = (z.cps.toList.drop s).take W.length := fun h => by
    show ((((z.cps.toList.drop (HT.sIx z.length 0 (some (s : Int)))).take (HT.sIx z.length z.length (some ((s : Int) + (W.length : Int))) - HT.sIx z.length 0 (some (s : Int)))).toArray).toList) = _
    rw [show (s : Int) + (W.length : Int) = ((s + W.length : Nat) : Int) by omega, HT.sIx_nat, HT.sIx_nat, show min s z.length = s by omega, show min (s + W.length) z.length = s + W.length by omega, show s + W.length - s = W.length by omega]
  constructor
  · rintro ⟨h, e⟩
    have e' := congrArg (fun x : Str => x.cps.toList) e
    have e' := (key h).symm.trans e'
    refine ⟨z.cps.toList.take s, z.cps.toList.drop (s + W.length), ?_, by rw [List.length_take]; omega⟩
    rw [show W.cps.toList = (z.cps.toList.drop s).take W.length from e'.symm, List.append_assoc, ← List.drop_drop, List.take_append_drop, List.take_append_drop]
  · rintro ⟨a, b, e, rfl⟩
    have h : a.length + W.length ≤ z.length := by
      rw [← zl, e, List.length_append, List.length_append, wl]
      omega
    refine ⟨h, str_ext ?_⟩
    rw [key h, e, List.append_assoc, List.drop_left, ← wl, List.take_left]
end Mt

/-! Sorting of data of any depth, and by an own key function. -/
namespace Rs
open PySem PySem.W PyProof.Rows
theorem nsOne {h : Heap} {L : Addr} {m m' : Str → Option Value} : h.Ns L m → h.Ns L m' → m = m' := by
  rintro ⟨o, es, ep, e, d, _, r⟩ ⟨o', es', ep', e', d', _, r'⟩
  have : o = o' := Option.some.inj (e.symm.trans e')
  subst this
  rw [d] at d'
  injection d' with d1 d2
  subst d1
  funext x
  exact (r x).symm.trans (r' x)
theorem each_split {α β γ : Type} {R : α → γ → Prop} {S : γ → β → Prop} : ∀ {as : List α} {bs : List β}, EachIs (fun a b => ∃ c, R a c ∧ S c b) as bs → ∃ cs : List γ, EachIs R as cs ∧ EachIs S cs bs
  | _, _, .nil => ⟨[], .nil, .nil⟩
  | _, _, .cons ⟨c, h1, h2⟩ t => let ⟨cs, q1, q2⟩ := each_split t; ⟨c :: cs, .cons h1 q1, .cons h2 q2⟩
theorem each_get {α β : Type} {R : α → β → Prop} : ∀ {as : List α} {bs : List β}, EachIs R as bs → ∀ {i : Nat} {a : α}, as[i]? = some a → ∃ b, bs[i]? = some b ∧ R a b
  | _, _, .nil, _, _, h => by simp at h
  | _, _, .cons h t, 0, _, e => by
    simp at e
    subst e
    exact ⟨_, rfl, h⟩
  | _, _, .cons h t, i + 1, _, e => each_get t (i := i) (by simpa using e)
end Rs
namespace Rs
open PySem PySem.Spec PyProof.Rows L2 PySem.W
theorem each_vals {R : V → β → Prop} : ∀ {xs : List V} {us : List Value} {bs : List β}, Vals xs us → EachIs R xs bs → EachIs (fun u b => ∃ x, RelV x u ∧ R x b) us bs
  | _, _, _, .nil, .nil => .nil
  | _, _, _, .cons r rr, .cons h t => .cons ⟨_, r, h⟩ (each_vals rr t)
theorem vals_each {R : V → β → Prop} : ∀ {us : List Value} {bs : List β}, EachIs (fun u b => ∃ x, RelV x u ∧ R x b) us bs → ∃ xs : List V, Vals xs us ∧ EachIs R xs bs
  | _, _, .nil => ⟨[], .nil, .nil⟩
  | _, _, .cons ⟨x, r, h⟩ t => let ⟨xs, q1, q2⟩ := vals_each t; ⟨x :: xs, .cons r q1, .cons h q2⟩
/-- what is asked of the keys: alike, all tuples with an item or none a tuple, not deep -/
structure Keys (ds : List PyData) : Prop where
  al : AllAlike ds
  so : Sortable ds
  dp : ∀ d ∈ ds, d.depth ≤ 50
section
variable {X : Cx}
/-- sorted(xs), data of any depth -/
def rSortD (K : PySem.W.Frag) : List V → Hp → VK → Prop := fun vs H Q => ∃ (a : Addr) (xs : List V) (β : Type) (bs : List β) (k : β → PyData) (R : V → β → Prop), vs = [V.ref a] ∧ SqL K H a xs ∧ EachIs (fun x b => Dp K H x (k b) ∧ R x b) xs bs ∧ Keys (bs.map k) ∧
  ∀ (out : List V) (p : Addr) (G : Hp), EachIs (fun x b => Dp K H x (k b) ∧ R x b) out (bs.mergeSort (dataLe false k)) → H p = none → G p = some (.lst out) → Same H G → Q (.ref p) G
theorem cr_sortD (hu : X.A.units + 64 < cLine) : CallR X (.builtin "sorted") (rSortD X.K) := by
  intro pins s σ H vs us Q I r h
  obtain ⟨a, xs, β, bs, k, R, rfl, hs, he, hk, q⟩ := h
  obtain ⟨its, rv, hl, hz⟩ := I.list hs
  obtain rfl := Vals.ref1 r
  have hz' : its.length ≤ sizeLine := by rw [← rv.length]; exact hz
  have h1 : EachIs (fun u b => ∃ x, RelV x u ∧ (Dp X.K H x (k b) ∧ R x b)) its bs := each_vals rv he
  have h2 : EachIs (fun u b => ∃ as, Reads s.heap u (k b) as) its bs := h1.mono fun u b ⟨x, rx, hx, _⟩ => Dp.reads I (k b) x u hx rx
  have h3 : EachIs (fun u d => ∃ as, Reads (sortingHeap (copyHeap s.heap its) (s.heap.objs.size + 1) its) u d as) its (bs.map k) := by
    have : ∀ {as : List Value} {bs : List β}, EachIs (fun u b => ∃ as, Reads s.heap u (k b) as) as bs → EachIs (fun u d => ∃ as, Reads (sortingHeap (copyHeap s.heap its) (s.heap.objs.size + 1) its) u d as) as (bs.map k) := by
      intro as bs h
      induction h with
      | nil => exact .nil
      | cons h _ ih =>
        obtain ⟨as, r⟩ := h
        exact .cons ⟨as, PyProof.Rows.Reads.keeps (fun b o e => sorting_copy_old e) r⟩ ih
    exact this h2
  have SA : SortsAt X.prog X.w X.A.in1.in1 { s with heap := sortingHeap (copyHeap s.heap its) (s.heap.objs.size + 1) its } (dataKind (sortingHeap (copyHeap s.heap its) (s.heap.objs.size + 1) its) (bs.map k)) its := SortsAt.data (s := { s with heap := sortingHeap (copyHeap s.heap its) (s.heap.objs.size + 1) its }) h3 hk.al hk.so fun d hd => by
    have := hk.dp d hd
    simp only [units_in1]
    omega
  refine sorted_vals hl.isList SA hz' ?_
  have out := sortVals_each (κ := dataKind (sortingHeap (copyHeap s.heap its) (s.heap.objs.size + 1) its) (bs.map k)) (rev := false) (fun b => keyToks (k b)) h1 (each_of_map k (each_keys hk.al h3))
  obtain ⟨ys, ry, hy⟩ := vals_each out
  obtain ⟨ep, he'⟩ := PyProof.Rows.sortedAll_at s.heap its (sortVals (dataKind (sortingHeap (copyHeap s.heap its) (s.heap.objs.size + 1) its) (bs.map k)) false its its).toArray
  have hlen : ys.length ≤ sizeLine := by
    rw [ry.length, sortVals_length false rfl]
    exact hz'
  have hf := I.hok.fresh (Nat.le_succ s.heap.objs.size)
  exact ⟨.ref _, upd H (s.heap.objs.size + 1) (.lst ys), I.laid (t' := s.toks) (fun _ _ => PyProof.Rows.sortedAll_old) (Nat.le_succ _) ⟨hlen, _, ep, ry, he'⟩, rfl, q ys _ _ hy hf upd_same (Rd.same_upd hf)⟩
end
end Rs
namespace Rs
open PySem PySem.Spec PyProof.Rows L2 PySem.W
theorem room2 {k : Nat} {A : Around} (r : Room (k + 1) A) : Room k A.in1.in1 :=
  ⟨r.hd, by have := r.dp; show A.depth + 3 * k + 5 < _; omega, by have := r.un; show A.units + 1 + 1 + 16 * k + 200 < _; omega⟩
theorem each_imp {α β : Type} {R S : α → β → Prop} (h : ∀ a b, R a b → S a b) : ∀ {as : List α} {bs : List β}, EachIs R as bs → EachIs S as bs
  | _, _, .nil => .nil
  | _, _, .cons q t => .cons (h _ _ q) (each_imp h t)
theorem each_reads {X : Cx} {pins : List (Addr × Obj)} {σ : L2.St} {H : Hp} {s : Shared} (I : Inv X pins σ H s) {β : Type} {k : β → PyData} : ∀ {us : List Value} {vs : List V} {bs : List β}, Vals vs us → EachIs (fun x b => Dp X.K H x (k b)) vs bs → EachIs (fun u d => ∃ as, Reads s.heap u d as) us (bs.map k)
  | _, _, _, .nil, .nil => .nil
  | _, _, _, .cons r rr, .cons h t => .cons (Dp.reads I _ _ _ h r) (each_reads I rr t)
mutual
theorem Dp.same {K : PySem.W.Frag} {H H' : Hp} (s : Same H H') : ∀ (d : PyData) (v : V), Dp K H v d → Dp K H' v d
  | .none, _, h => by cases h; exact .non
  | .bool b, _, h => by cases h; exact .bl b
  | .int i, _, h => by cases h; exact .int i
  | .str x, _, h => by cases h; exact .str x
  | .list ds, _, h => by
    cases h with
    | lst hs ha => exact .lst (s.seq hs) (Dp.sameAll s ds _ ha)
  | .tuple ds, _, h => by
    cases h with
    | tup hs ha => exact .tup (Ru.same_tup s hs) (Dp.sameAll s ds _ ha)
  | .dict _, _, h => by cases h
theorem Dp.sameAll {K : PySem.W.Frag} {H H' : Hp} (s : Same H H') : ∀ (ds : List PyData) (vs : List V), DpAll K H vs ds → DpAll K H' vs ds
  | [], _, h => by cases h; exact .nil
  | d :: ds, _, h => by
    cases h with
    | cons h1 h2 => exact .cons (Dp.same s d _ h1) (Dp.sameAll s ds _ h2)
end
theorem each_snocK {β : Type} {R : V → β → Prop} {x : V} {y : β} (hxy : R x y) : ∀ {as : List V} {bs : List β}, EachIs R as bs → EachIs R (as ++ [x]) (bs ++ [y])
  | _, _, .nil => .cons hxy .nil
  | _, _, .cons h t => .cons h (each_snocK hxy t)
def rSortK (f : Addr) (sp : Sp) (K : PySem.W.Frag) : List V → List V → Hp → VK → Prop := fun vs zs H Q => ∃ (a : Addr) (xs : List V) (β : Type) (bs : List β) (k : β → PyData) (R : V → β → Prop), vs = [V.ref a] ∧ zs = [V.ref f] ∧ SqL K H a xs ∧ EachIs R xs bs ∧ Keys (bs.map k) ∧
  (∀ x b H1, Same H H1 → b ∈ bs → R x b → sp [x] H1 (fun v H2 => Same H1 H2 ∧ Dp K H2 v (k b)) (fun _ _ _ => False)) ∧
  ∀ (out : List V) (p : Addr) (G : Hp), EachIs R out (bs.mergeSort (dataLe false k)) → H p = none → G p = some (.lst out) → Same H G → Q (.ref p) G
section
variable {X : Cx} {f : Addr} {fd : FuncData} {ps : List Str} {sp : Sp} {k : Nat}
theorem cr_sortK (F : FnOk X.prog X.w X.K X.mg X.base CX0 k f fd ps sp) (hr : Room (k + 1) X.A) (hb : Binds X.K fd ps []) : CallRK X (.builtin "sorted") [Str.ofString "key"] (rSortK f sp X.K) := by
  intro pins s σ H vs zs us ws Q I r rz h
  obtain ⟨a, xs, β, bs, key, R, rfl, rfl, hs, he, hk, hkey, q⟩ := h
  obtain ⟨its, rv, hl, hz⟩ := I.list hs
  obtain rfl := Vals.ref1 r
  obtain rfl := Vals.ref1 rz
  have hz' : its.length ≤ sizeLine := by rw [← rv.length]; exact hz
  have hbl : its.length = bs.length := by rw [← rv.length, he.length]
  refine sorted_of_sort hl.isList hz' (ksk_s1 _ _) (fun _ => ksk_l1 _ _) fun E' => ?_
  show wpAny _ _ (Builtin.«list.sort» ⟨[.ref (s.heap.objs.size + 1)], [(Str.ofString "key", .ref f)]⟩) _ E' { s with heap := copyHeap s.heap its }
  rw [ksk_t1]
  unfold ksk_tree
  have hcs : (copyHeap s.heap its).objs.size = s.heap.objs.size + 2 := by
    unfold copyHeap
    rw [size_push', Heap.size_update, size_push']
  have ho := copyHeap_at s.heap its
  refine wpAny_bind (listItems_at ho rfl ?_)
  refine wpAny_bind (listUpdate_at ho rfl ?_ (by rw [List.size_toArray]; exact hz') (Nat.zero_le _))
  obtain ⟨e1, ho1⟩ : ∃ e1, ((copyHeap s.heap its).update (s.heap.objs.size + 1) (Obj.mapSeq fun _ => #[])).get? (s.heap.objs.size + 1) = some (seqObj "list" #[] e1) := ⟨_, get?_update_seq ho fun _ => #[]⟩
  refine wpAny_bind (seqEpoch_at ho1 rfl ?_)
  refine wpAny_bind (wpAny_newTuple ?_ (by show its.length ≤ _; exact hz'))
  refine wpAny_bind (wpAny_newList ?_ (Nat.zero_le _))
  refine wpAny_holding ?_
  have hks : (((copyHeap s.heap its).update (s.heap.objs.size + 1) (Obj.mapSeq fun _ => #[])).push (seqObj "tuple" its.toArray 0)).objs.size = s.heap.objs.size + 3 := by
    rw [size_push', Heap.size_update, hcs]
  have hoa : (sortingHeap (copyHeap s.heap its) (s.heap.objs.size + 1) its).get? (s.heap.objs.size + 1) = some (seqObj "list" #[] e1) :=
    Heap.get?_push_of_some _ (Heap.get?_push_of_some _ ho1)
  have hok : (sortingHeap (copyHeap s.heap its) (s.heap.objs.size + 1) its).get? (s.heap.objs.size + 3) = some (seqObj "list" #[] 0) := by
    rw [← hks]
    exact Heap.get?_push_size _ rfl
  show wpAny _ _ (ksk_rest (s.heap.objs.size + 1) (.ref f) false its.toArray e1 (.ref (((copyHeap s.heap its).update (s.heap.objs.size + 1) (Obj.mapSeq fun _ => #[])).push (seqObj "tuple" its.toArray 0)).objs.size)) _ E' { s with heap := sortingHeap (copyHeap s.heap its) (s.heap.objs.size + 1) its }
  rw [hks]
  have hk0 : ∀ b o, s.heap.get? b = some o → (sortingHeap (copyHeap s.heap its) (s.heap.objs.size + 1) its).get? b = some o := fun b o q => sorting_copy_old q
  generalize sortingHeap (copyHeap s.heap its) (s.heap.objs.size + 1) its = g0 at hoa hok hk0
  have old : ∀ b o, s.heap.get? b = some o → b < s.heap.objs.size := fun b o e => Heap.lt_size e
  have nL : @LT.lt Nat _ X.env.locals s.heap.objs.size := I.lt
  have up : ∀ c i : Nat, c < s.heap.objs.size → c ≠ s.heap.objs.size + i := fun c i h => by omega
  have pu : ∀ c i : Nat, c < s.heap.objs.size → s.heap.objs.size + i ≠ c := fun c i h => by omega
  have le0 : ∀ i : Nat, X.s_0.heap.objs.size ≤ s.heap.objs.size + i := fun i => Nat.le_trans I.sz (Nat.le_add_right _ _)
  have n13 : ¬ s.heap.objs.size + 1 = s.heap.objs.size + 3 := by omega
  have n31 : ¬ s.heap.objs.size + 3 = s.heap.objs.size + 1 := by omega
  have nC : ∀ x c, X.env.cells.lookup x = some c → c < s.heap.objs.size := fun x c e => by
    obtain ⟨v, o, ho, _⟩ := I.cell x c e
    exact Heap.lt_size ho
  have nP : ∀ p ∈ X.pn ++ pins, p.1 < s.heap.objs.size := fun p hp => Heap.lt_size (I.pin p hp).1
  have sz := I.sz
  unfold ksk_rest
  refine wpAny_bind (wpAny_rule ?_)
  first
    | rw [List.forIn_toArray]
    | (rw [← Array.forIn_toList]; simp only [List.toList_toArray])
    | rw [← Array.forIn_toList]
  refine wpAny_bind (ksk_fold (fun i s' => ∃ (Hc : Hp) (ks : List V) (kA : Array Value) (e : Nat), Inv X (pins ++ [(s.heap.objs.size + 3, seqObj "list" kA e), (s.heap.objs.size + 1, seqObj "list" #[] e1)]) σ Hc s' ∧ Same H Hc ∧ Vals ks kA.toList ∧
      EachIs (fun x b => Dp X.K Hc x (key b)) ks (bs.take i)) its 0 { s with heap := g0 } ?start ?step ?done)
  case start =>
    have I1 : Inv X pins σ H { s with heap := g0 } := I.kept (t' := s.toks) hk0
    have hf1 := I.hok.fresh (a := s.heap.objs.size + 1) (by omega)
    have hf3 := I.hok.fresh (a := s.heap.objs.size + 3) (by omega)
    refine ⟨H, [], #[], 0, I1.pins_of fun p hp => ?_, Same.refl _, .nil, by rw [List.take_zero]; exact .nil⟩
    rcases List.mem_append.mp hp with hp | hp
    · exact I1.pin p (List.mem_append_right _ hp)
    · rcases List.mem_cons.mp hp with rfl | hp
      · exact ⟨hok, hf3, pu _ 3 nL, I.nofs (by show _ ≤ s.heap.objs.size + 3; omega), fun v => by simp [seqObj]⟩
      · rw [List.mem_singleton.mp hp]
        exact ⟨hoa, hf1, pu _ 1 nL, I.nofs (by show _ ≤ s.heap.objs.size + 1; omega), fun v => by simp [seqObj]⟩
  case step =>
    rintro j u s' hu ⟨Hc, ks, kA, e, I', sm, rk, hke⟩
    simp only [Nat.zero_add] at hke ⊢
    have hj : j < its.length := (List.getElem?_eq_some_iff.mp hu).1
    obtain ⟨b, hbj⟩ : ∃ b, bs[j]? = some b := ⟨_, List.getElem?_eq_getElem (by omega)⟩
    obtain ⟨b', hbj', x, rx, hR⟩ := each_get (each_vals rv he) hu
    obtain rfl : b' = b := by rw [hbj] at hbj'; exact (Option.some.inj hbj').symm
    have hkl : kA.size ≤ its.length := by
      have h1 : ks.length = kA.size := rk.length.trans (by simp)
      have h2 := hke.length
      rw [List.length_take] at h2
      rw [← h1, h2]
      exact Nat.le_trans (Nat.min_le_right _ _) (Nat.le_of_eq hbl.symm)
    have hsp := hkey x b' Hc sm (List.mem_of_getElem? hbj) hR
    have run := F.run X.A.in1.in1 X.stack s' Hc ⟨[u], []⟩ [u] [x] _ _ (room2 hr) I'.env0.in1.in1 (by
      have := hb s' [u] I'.kIn (by have := F.len _ _ _ _ hsp; simpa using this)
      simpa using this) (.cons rx .nil) hsp
    refine wpAny_bind (wpAny_attempt (wpAny_mono (Q := fun v s2 => EP X (pins ++ [(s.heap.objs.size + 3, seqObj "list" kA e), (s.heap.objs.size + 1, seqObj "list" #[] e1)]) σ (fun v H2 => Same Hc H2 ∧ Dp X.K H2 v (key b')) v s2) (E := fun _ _ => False) (wpAny_call (codeAny_mono run fun r s2 hq => ?_)) (fun v s2 he => ?_) fun _ _ hF => hF.elim))
    · cases r with
      | error e => exact hq
      | ok fl =>
        cases fl with
        | ret u => exact I'.after hq
        | next => exact False.elim hq
        | brk => exact False.elim hq
        | cont => exact False.elim hq
    · obtain ⟨kv, H2, I2, rkv, sm2, hd⟩ := he
      have pk := I2.pin (s.heap.objs.size + 3, seqObj "list" kA e) (List.mem_append_right _ (List.mem_append_right _ (.head _)))
      have pa := I2.pin (s.heap.objs.size + 1, seqObj "list" #[] e1) (List.mem_append_right _ (List.mem_append_right _ (.tail _ (.head _))))
      have s1 := Heap.SameBut.update s2.heap (s.heap.objs.size + 3) (Obj.mapSeq (·.push v))
      obtain ⟨c2, hc2⟩ : ∃ c2, (s2.heap.update (s.heap.objs.size + 3) (Obj.mapSeq (·.push v))).get? (s.heap.objs.size + 3) = some (seqObj "list" (kA.push v) c2) := ⟨_, get?_update_seq pk.1 (·.push v)⟩
      have I3 : Inv X pins σ H2 s2 := I2.pins_of fun p hp => I2.pin p (List.mem_append_right _ (List.mem_append_left _ hp))
      have I4 : Inv X pins σ H2 { s2 with heap := s2.heap.update (s.heap.objs.size + 3) (Obj.mapSeq (·.push v)), toks := s2.toks } := I3.turned (it := s.heap.objs.size + 3) (fun b o n q => (s1.2 b n).trans q) pk.2.1 pk.2.2.1 (.inr (le0 3)) (fun x c q => up _ 3 (nC x c q)) fun p hp => up _ 3 (nP p hp)
      try dsimp only
      refine wpAny_bind (listUpdate_at pk.1 rfl ?_ (Nat.le_trans hkl hz') (Nat.le_trans (Nat.le_of_eq (Array.size_push ..)) (Nat.succ_le_succ (Nat.le_trans hkl hz'))))
      refine wpAny_pure ⟨rfl, H2, ks ++ [kv], kA.push v, c2, I4.pins_of fun p hp => ?_, sm.trans sm2, ?_, ?_⟩
      · rcases List.mem_append.mp hp with hp | hp
        · exact I4.pin p (List.mem_append_right _ hp)
        · rcases List.mem_cons.mp hp with rfl | hp
          · exact ⟨hc2, pk.2.1, pk.2.2.1, pk.2.2.2.1, fun v => by simp [seqObj]⟩
          · rw [List.mem_singleton.mp hp]
            exact ⟨(s1.2 _ n13).trans pa.1, pa.2⟩
      · rw [Array.toList_push]
        exact rk.append (.cons rkv .nil)
      · have ek : bs.take (j + 1) = bs.take j ++ [b'] := by rw [List.take_add_one, hbj]; simp
        rw [ek]
        exact each_snocK (R := fun x b => Dp X.K H2 x (key b)) hd (each_imp (R := fun x b => Dp X.K Hc x (key b)) (fun x b q => Dp.same sm2 _ _ q) hke)
  case done =>
    rintro s' ⟨Hc, ks, kA, e, I', sm, rk, hke⟩
    have hke' : EachIs (fun x b => Dp X.K Hc x (key b)) ks bs := by
      have e3 : bs.take (0 + its.length) = bs := List.take_of_length_le (by omega)
      rw [e3] at hke
      exact hke
    have pk := I'.pin (s.heap.objs.size + 3, seqObj "list" kA e) (List.mem_append_right _ (List.mem_append_right _ (.head _)))
    have pa := I'.pin (s.heap.objs.size + 1, seqObj "list" #[] e1) (List.mem_append_right _ (List.mem_append_right _ (.tail _ (.head _))))
    have hsz : kA.size = its.length := by
      have h1 : ks.length = kA.size := rk.length.trans (by simp)
      have h2 := hke'.length
      exact h1.symm.trans (h2.trans hbl.symm)
    have rd := each_reads I' rk hke'
    try dsimp only
    refine wpAny_bind (listItems_at pk.1 rfl ?_)
    have SA : SortsAt X.prog X.w X.A.in1.in1 s' (dataKind s'.heap (bs.map key)) kA.toList := SortsAt.data rd hk.al hk.so fun d hd => by
      have h1 := hk.dp d hd
      have h2 := hr.un
      simp only [units_in1]
      omega
    obtain ⟨m, Fr0⟩ := I'.fr
    have hiB : ∀ i : Nat, X.base.get? (s.heap.objs.size + i) = none := fun i => by
      cases q : X.base.get? (s.heap.objs.size + i) with
      | none => rfl
      | some o =>
        exact absurd (Nat.lt_of_le_of_lt (Nat.le_add_right _ _) (Heap.lt_size (I.bk _ o q))) (Nat.lt_irrefl _)
    let rs := (allNews X.base s'.heap X.env.locals).filter fun p => decide (p.1 ≠ s.heap.objs.size + 3 ∧ p.1 ≠ s.heap.objs.size + 1)
    have hrs : ∀ p ∈ rs, p.1 ≠ s.heap.objs.size + 3 ∧ p.1 ≠ s.heap.objs.size + 1 := fun p hp => of_decide_eq_true (List.mem_filter.mp hp).2
    have N0 : News X.base X.env.locals s'.heap (rs ++ [(s.heap.objs.size + 3, seqObj "list" kA e), (s.heap.objs.size + 1, seqObj "list" #[] e1)]) := fun p hp => by
      rcases List.mem_append.mp hp with hp | hp
      · exact news_all p (List.mem_filter.mp hp).1
      · rcases List.mem_cons.mp hp with rfl | hp
        · exact ⟨pk.1, pk.2.2.1, hiB 3⟩
        · rw [List.mem_singleton.mp hp]
          exact ⟨pa.1, pa.2.2.1, hiB 1⟩
    refine key_end (κ := dataKind s'.heap (bs.map key)) Fr0 N0 n31 (fun p hp => (hrs p hp).1) (fun p hp => (hrs p hp).2) SA hsz hz' fun h' tk ep F' N' => ⟨rfl, ?_⟩
    have kp : ∀ c o, c ≠ X.env.locals → c ≠ s.heap.objs.size + 3 → c ≠ s.heap.objs.size + 1 → s'.heap.get? c = some o → h'.get? c = some o := fun c o n0 n1 n2 q => by
      cases z : X.base.get? c with
      | some u =>
        have := I'.bk c u z
        rw [q] at this
        cases this
        exact F'.keep c _ z
      | none => exact (N' (c, o) (List.mem_cons_of_mem _ (List.mem_filter.mpr ⟨mem_allNews n0 z q, decide_eq_true ⟨n1, n2⟩⟩))).1
    have ha' := (N' _ List.mem_cons_self).1
    have out := sortVals_each (κ := dataKind s'.heap (bs.map key)) (rev := false) (fun b => keyToks (key b)) (each_vals rv he) (each_of_map key (each_keys hk.al rd))
    obtain ⟨ys, ry, hy⟩ := vals_each out
    have hlen : ys.length ≤ sizeLine := by
      rw [ry.length, sortVals_length false (by rw [Array.length_toList]; exact hsz)]
      exact hz'
    have I3 : Inv X pins σ Hc s' := I'.pins_of fun p hp => I'.pin p (List.mem_append_right _ (List.mem_append_left _ hp))
    have fin : Inv X pins σ (upd Hc (s.heap.objs.size + 1) (.lst ys)) { s' with heap := h', gens := s'.gens, drawn := s'.drawn, toks := tk } := by
      have hna : Hc (s.heap.objs.size + 1) = none := pa.2.1
      have hnk : Hc (s.heap.objs.size + 3) = none := pk.2.1
      refine I3.step (ch := [s.heap.objs.size + 3, s.heap.objs.size + 1]) (fun b hb => ?_) (fun b o nl _ hc q _ => kp b o nl (fun z => hc (by simp [z])) (fun z => hc (by simp [z])) q) (fun b o nl _ hc q _ => ⟨o.slots, kp b o nl (fun z => hc (by simp [z])) (fun z => hc (by simp [z])) q⟩)
        (fun b o hc q n => ?_) (fun b o hc q => ?_) (fun b xs q => by rw [upd_ne (ne_of_none q hna)]; exact q) (fun b o u q => by rw [upd_ne (ne_of_none q hna)]; exact q) (fun b ps q => ⟨#[], by rw [upd_ne (ne_of_none q hna), q]; simp⟩) (fun m hm => ?_) (fun b u q => ?_) I3.bare
      · have : b = s.heap.objs.size + 3 ∨ b = s.heap.objs.size + 1 := by simpa using hb
        rcases this with rfl | rfl
        · exact ⟨.inr (le0 3), pu _ 3 nL, fun x c q => up _ 3 (nC x c q), fun p hp => up _ 3 (nP p hp)⟩
        · exact ⟨.inr (le0 1), pu _ 1 nL, fun x c q => up _ 1 (nC x c q), fun p hp => up _ 1 (nP p hp)⟩
      · rw [upd_ne (fun z => hc (by simp [z]))]
        exact n
      · by_cases hbl : b = X.env.locals
        · obtain ⟨o', _, _, ho', _⟩ := F'.ns
          exact ⟨o', by rw [hbl]; exact ho'⟩
        · exact ⟨o, kp b o hbl (fun z => hc (by simp [z])) (fun z => hc (by simp [z])) q⟩
      · rw [nsOne hm Fr0.ns]
        exact F'.ns
      · by_cases hba : b = s.heap.objs.size + 1
        · subst hba
          rw [upd_same] at q
          cases q
          exact ⟨hlen, _, ep, ry, ha'⟩
        · rw [upd_ne hba] at q
          refine (I3.hok b u q).stay (fun c v hc r => kp c v ?_ ?_ ?_ r) (fun c r => by rw [upd_ne (ne_of_none r hna)]; exact r) fun c xs r => by rw [upd_ne (ne_of_none r hna)]; exact r
          · rcases hc with z | z
            · rw [z]; exact ne_of_none q I3.free
            · exact ne_of_none z I3.free
          · rcases hc with z | z
            · rw [z]; exact ne_of_none q hnk
            · exact ne_of_none z hnk
          · rcases hc with z | z
            · rw [z]; exact hba
            · exact ne_of_none z hna
    exact ⟨.ref _, _, fin, rfl, q ys _ _ hy (I.hok.fresh (by omega)) upd_same fun b o z => by rw [upd_ne (ne_of_none (sm b o z) pa.2.1)]; exact sm b o z⟩
end
end Rs

/-! Further readings: zip of tuples, comprehensions that make dicts, locks, sorting. -/
namespace Rw
open PySem PySem.Spec PyProof.Rows L2 Rd
variable {X : Cx} {D : Ends} {σ : L2.St} {H : Hp} {K : PySem.W.Frag}
theorem walk_zipT {a b : Addr} {xs ys : List V} {n : Nat} (hn : n = min xs.length ys.length) : Walk (RZ.ItzT K a b) n (fun H => SqT K H a xs ∧ SqT K H b ys) (YPair (fun i => xs[i]?) (fun i => ys[i]?)) := by
  subst hn
  refine ⟨fun i H hi q => ⟨xs, ys, xs[i]'(by omega), ys[i]'(by omega), q.1, q.2, List.getElem?_eq_getElem _, List.getElem?_eq_getElem _⟩, fun H q => ⟨xs, ys, q.1, q.2, by omega⟩, ?_⟩
  rintro i H v H' _ q ⟨T, x, y, h1, h2, h3, h4, h5⟩
  exact ⟨T, x, y, h1, h2, h3, h4 xs q.1, h5 ys q.2⟩
theorem zipH {ta : TA} {R : It → Hp → Prop} (h : ta σ H fun vs H1 => ∃ a b xs ys, vs = [.ref a, .ref b] ∧ ((SqL K H1 a xs ∧ SqL K H1 b ys ∧ R (Itz K a b) H1) ∨ (SqT K H1 a xs ∧ SqT K H1 b ys ∧ R (RZ.ItzT K a b) H1))) : RZ.iZipA K ta σ H R := h
theorem zipT {a b : Addr} {xs ys : List V} {P Q : Addr → Addr → Prop} (h1 : SqT K H a xs) (h2 : SqT K H b ys) (h : Q a b) : ∃ a' b' xs ys, [V.ref a, V.ref b] = [.ref a', .ref b'] ∧ ((SqL K H a' xs ∧ SqL K H b' ys ∧ P a' b') ∨ (SqT K H a' xs ∧ SqT K H b' ys ∧ Q a' b')) :=
  ⟨a, b, xs, ys, rfl, .inr ⟨h1, h2, h⟩⟩
theorem slT {a : Addr} {xs : List V} {lo hi : Option Int} {Q : VK} (hp : SqT K H a xs) (hw : ¬ (HT.sIx xs.length 0 lo = 0 ∧ HT.sIx xs.length xs.length hi = xs.length)) (h : NewQ (.tup (cutV xs lo hi)) Q H) : rSlT K (.ref a) lo hi H Q := ⟨a, xs, rfl, hp, hw, h⟩
theorem sl1 {a : Addr} {xs : List V} {Q : VK} (hp : SqT K H a xs) (n0 : xs ≠ []) (h : NewQ (.tup xs.tail) Q H) : rSlT K (.ref a) (some 1) none H Q := by
  have l : 1 ≤ xs.length := Nat.one_le_iff_ne_zero.mpr fun e => n0 (List.eq_nil_of_length_eq_zero e)
  have e1 : HT.sIx xs.length 0 (some ((1 : Nat) : Int)) = 1 := by rw [HT.sIx_nat]; omega
  refine slT hp (fun ⟨e, _⟩ => ?_) ?_
  · have e' : HT.sIx xs.length 0 (some ((1 : Nat) : Int)) = 0 := e
    omega
  · have e : cutV xs (some 1) none = xs.tail := by
      show (xs.drop (HT.sIx xs.length 0 (some ((1 : Nat) : Int)))).take (xs.length - HT.sIx xs.length 0 (some ((1 : Nat) : Int))) = xs.tail
      rw [e1, List.drop_one]
      exact List.take_of_length_le (by rw [List.length_tail]; exact Nat.le_refl _)
    rw [e]
    exact h
/-! ### locks -/
def LkE (t : TE) (d : Addr) (u : HO) (σ : L2.St) (H : Hp) (Q : VK) : Prop := ∀ od, t σ (upd H d (.frz od u)) fun v H' => H' d = some (.frz od u) ∧ Q v (upd H' d u)
theorem lockE {t : TE} {d : Addr} {u : HO} {Q : VK} (e : H d = some u) (m : Mut (some u)) (h : ∀ (od : Obj) (G : Hp), G d = some (.frz od u) → (∀ b, b ≠ d → G b = H b) → t σ G fun v H' => H' d = some (.frz od u) ∧ Q v (upd H' d u)) : tLockE t σ H Q :=
  ⟨d, u, e, m, fun od => h od _ upd_same fun b hb => upd_ne hb⟩
theorem itemsH {td : TE} {R : It → Hp → Prop} (h : td σ H fun x H1 => ∃ d o kvs, x = .ref d ∧ H1 d = some (.frz o (.dK kvs)) ∧ R (Iti d o kvs) H1) : iItems td σ H R := h
theorem itemsX {d : Addr} {od : Obj} {kvs : List (Key × V)} {P : Addr → Obj → List (Key × V) → Prop} (e : H d = some (.frz od (.dK kvs))) (h : P d od kvs) : ∃ d' o kvs, V.ref d = .ref d' ∧ H d' = some (.frz o (.dK kvs)) ∧ P d' o kvs := ⟨d, od, kvs, rfl, e, h⟩
theorem keysH {td : TE} {R : It → Hp → Prop} (h : td σ H fun x H1 => ∃ d o, x = .ref d ∧ ((∃ kvs, H1 d = some (.frz o (.dK kvs)) ∧ R (Itk d o kvs) H1) ∨ ∃ kvs, H1 d = some (.frz o (.dT kvs)) ∧ R (Itkt d o kvs) H1)) : iKeys td σ H R := h
theorem keysX {d : Addr} {od : Obj} {kvs : List (Key × V)} {P : Addr → Obj → List (Key × V) → Prop} {P' : Addr → Obj → List (List Key × V) → Prop} (e : H d = some (.frz od (.dK kvs))) (h : P d od kvs) : ∃ d' o, V.ref d = .ref d' ∧ ((∃ kvs, H d' = some (.frz o (.dK kvs)) ∧ P d' o kvs) ∨ ∃ kvs, H d' = some (.frz o (.dT kvs)) ∧ P' d' o kvs) := ⟨d, od, rfl, .inl ⟨kvs, e, h⟩⟩
/-! ### dict comprehensions -/
section
variable {X : Cx}
theorem ps_setDc {i : Nat} {y : Str} {py : Pos} {kx vx tg iter : Expr} {ifs : List Expr} {scope : Scope} {own : List (Str × Nat)} {pos spos : Pos} {wi : TI} {g : TG} {tt : TT} {tk tv : TE} (hc : X.calm = true) (hN : X.N.Nodup) (hy : X.N[i]? = some y) (hyl : X.env.scope.names.lookup y = some .local)
    (hsw : swapsWith (.DictComp kx vx [⟨tg, iter, ifs, 0⟩] scope pos) (some (.Name y py)) spos.line X.env = pure true) (hi : PI X tg iter wi) (ok : BlkOk X.N X.env.scope scope own)
    (hg : ∀ (s : Shared) (H : Hp) (C : Addr) (cl : List (Str × Addr)) (fp : List Addr), PG (X.blk s H scope (compEnvC scope cl C X.env) fp) tg g)
    (ht : ∀ (s : Shared) (H : Hp) (C : Addr) (cl : List (Str × Addr)) (fp : List Addr), PTs (X.blk s H scope (compEnvC scope cl C X.env) fp) ifs tt)
    (hk : ∀ (s : Shared) (H : Hp) (C : Addr) (cl : List (Str × Addr)) (fp : List Addr), PE (X.blk s H scope (compEnvC scope cl C X.env) fp) kx tk)
    (he : ∀ (s : Shared) (H : Hp) (C : Addr) (cl : List (Str × Addr)) (fp : List Addr), PE (X.blk s H scope (compEnvC scope cl C X.env) fp) vx tv) (hs : ∀ x, foldedSetIterable iter X.env x = pure x := by intro _; rfl) :
    PS X (.Assign [.Name y py] (.DictComp kx vx [⟨tg, iter, ifs, 0⟩] scope pos) spos) (tAsg (tDc wi g tt tk tv (own.map (·.2))) (gName i)) := by
  refine ⟨fun pins s σ H D I h => ?_⟩
  have h' : tDc wi g tt tk tv (own.map (·.2)) σ H (fun x H1 => gName i x σ H1 D.nx) := h
  rw [exec_Assign_Name_used _ _ _ _ hsw]
  refine wpAny_bind (wpAny_standAt (wpAny_bind ?_))
  show wpAny _ _ (comprehension (.DictComp kx vx [⟨tg, iter, ifs, 0⟩] scope pos) scope X.env (firstIterPos [⟨tg, iter, ifs, 0⟩] pos) newDict false (eval iter X.env) (some (assign (.Name y py) X.env)) >>= fun _ => pure ()) _ _ s
  refine wpAny_bind (thn (dc_core (use := some (assign (.Name y py) X.env)) (Qf := fun _ s' => SP X pins D .next s') hc hN I hi ok hg ht hk he hs h' fun L C s1 m H1 I1 q hn f => ?_) fun _ s2 hq => wpAny_pure (wpAny_pure hq))
  refine (wpAny_assign_Name (store_ok2 (v := V.ref L) I1 hN hy (.inl hyl) rfl (fun s2 I2 w => ?_) (.inr hyl)) : wpAny _ _ (assign (.Name y py) X.env (.ref L)) _ _ _)
  obtain ⟨b, sb, hb⟩ := w
  obtain ⟨f0, f1, f2, f3, f4, f5⟩ := f
  have ne : C ≠ b := hb.elim (fun z => z ▸ f1) fun z e => f4 y b z e.symm
  exact ⟨m, hn.sameBut sb ne, fun h3 sb3 => ⟨_, H1, I2.turned (t' := s2.toks) (fun c o n e => (sb3.2 c n).trans e) f0 f1 f3 f4 f5, q⟩⟩
theorem sw_dc {kx vx : Expr} {gs : List Comprehension} {scope : Scope} {pos py : Pos} {y : Str} {l : Nat} {env : Env} (hk : env.scope.kind = .function) (hy : env.scope.names.lookup y = some .local) (hl : (py.line == pos.line) = true)
    (ha : (scope.names.any fun (n, k) => n == y && (k == .local || k == .cell)) = false) : swapsWith (.DictComp kx vx gs scope pos) (some (.Name y py)) l env = pure true := by
  have k1 : env.kindOf y = some .local := hy
  have k2 : env.blockKind = .function := by unfold Env.blockKind; rw [hk]; rfl
  unfold swapsWith
  simp only [k2, k1, ha, Expr.pos, hl]
  rfl
end
def Dc (J : It) (g : TG) (tt : TT) (tk tv : TE) (vs : List Nat) (σ : L2.St) (H1 : Hp) (Q : VK) : Prop := ∀ D, H1 D = none → ∃ W : Nat → Nat → Hp → Prop, (∃ m, W 0 m (upd H1 D (.dK []))) ∧ ∀ i m H, W i m H →
  (J.stop i H ∧ Q (.ref D) H) ∨ (J.go i H ∧ ∃ Nx : Hp → Prop, (∀ H', Nx H' → ∃ m', m' < m ∧ W (i + 1) m' H') ∧ ∀ x H', J.yld i H x H' → g x (wipe σ vs) H' fun σ2 H2 => wipe σ2 vs = wipe σ vs ∧ tt σ2 H2 fun b H3 =>
    if b = true then tk σ2 H3 fun y H4 => tv σ2 H4 fun z H5 => ∃ kvs k, y = kV k ∧ H5 D = some (.dK kvs) ∧ kvs.length < sizeLine ∧ Nx (upd H5 D (.dK (putK kvs k z))) else Nx H3)
theorem dc {wi : TI} {g : TG} {tt : TT} {tk tv : TE} {vs : List Nat} {Q : VK} (h : wi σ H fun J H1 => Dc J g tt tk tv vs σ H1 Q) : tDc wi g tt tk tv vs σ H Q := h
def DcPut (D : Addr) (H1 : Hp) (R : Nat → List (Key × V) → Hp → Prop) (i : Nat) (y z : V) (H5 : Hp) : Prop := ∃ kvs k, y = kV k ∧ H5 D = some (.dK kvs) ∧ kvs.length < sizeLine ∧ ∃ kvs', upd H5 D (.dK (putK kvs k z)) D = some (.dK kvs') ∧ Same H1 (upd H5 D (.dK (putK kvs k z))) ∧ R (i + 1) kvs' (upd H5 D (.dK (putK kvs k z)))
def DcNo (D : Addr) (H1 : Hp) (R : Nat → List (Key × V) → Hp → Prop) (i : Nat) (H3 : Hp) : Prop := ∃ kvs', H3 D = some (.dK kvs') ∧ Same H1 H3 ∧ R (i + 1) kvs' H3
theorem dcPut {D : Addr} {H1 H5 : Hp} {R : Nat → List (Key × V) → Hp → Prop} {i : Nat} {k : Key} {z : V} {kvs : List (Key × V)} (hD : H5 D = some (.dK kvs)) (nD : H1 D = none) (s : Same H1 H5) (hz : kvs.length < sizeLine) (r : ∀ G : Hp, G D = some (.dK (putK kvs k z)) → (∀ b, b ≠ D → G b = H5 b) → R (i + 1) (putK kvs k z) G) : DcPut D H1 R i (kV k) z H5 :=
  ⟨kvs, k, rfl, hD, hz, _, upd_same, fun b o e => by rw [upd_ne (ne_of_none e nD)]; exact s b o e, r _ upd_same fun b hb => upd_ne hb⟩
theorem dcS {J : It} {n : Nat} {G : Hp → Prop} {Y : Nat → Hp → V → Hp → Prop} (w : Walk J n G Y) {g : TG} {tt : TT} {tk tv : TE} {vs : List Nat} {H1 : Hp} {Q : VK} (hG : ∀ H, Same H1 H → G H) (R : Addr → Nat → List (Key × V) → Hp → Prop)
    (r0 : ∀ (D : Addr) (G : Hp), H1 D = none → G D = some (.dK []) → Same H1 G → R D 0 [] G)
    (hs : ∀ (D : Addr) i x H H' kvs, H1 D = none → i < n → H D = some (.dK kvs) → Same H1 H → R D i kvs H → Y i H x H' → g x (wipe σ vs) H' fun σ2 H2 => wipe σ2 vs = wipe σ vs ∧ tt σ2 H2 fun b H3 =>
      if b = true then tk σ2 H3 fun y H4 => tv σ2 H4 fun z H5 => DcPut D H1 (R D) i y z H5 else DcNo D H1 (R D) i H3)
    (hd : ∀ (D : Addr) kvs H, H1 D = none → H D = some (.dK kvs) → Same H1 H → R D n kvs H → Q (.ref D) H) : Dc J g tt tk tv vs σ H1 Q := fun D nD => by
  refine ⟨fun i m H => m = n - i ∧ i ≤ n ∧ ∃ kvs, H D = some (.dK kvs) ∧ Same H1 H ∧ R D i kvs H, ⟨n, by simp, Nat.zero_le _, [], upd_same, same_upd nD, r0 D _ nD upd_same (same_upd nD)⟩, ?_⟩
  rintro i m H ⟨rfl, hi, kvs, h1, h2, h3⟩
  have q := hG H h2
  by_cases hlt : i < n
  · refine .inr ⟨w.goes i H hlt q, fun H => ∃ kvs, H D = some (.dK kvs) ∧ Same H1 H ∧ R D (i + 1) kvs H, fun H' p' => ⟨n - (i + 1), by omega, rfl, hlt, p'⟩, fun x H' y => ?_⟩
    exact hs D i x H H' kvs nD hlt h1 h2 h3 (w.yields i H x H' hlt q y)
  · have e : i = n := by omega
    subst e
    exact .inl ⟨w.stops H q, hd D kvs H nD h1 h2 h3⟩
/-! ### sorted -/
theorem sortD {β : Type} {a : Addr} {xs : List V} {bs : List β} {Q : VK} (k : β → PyData) (R : V → β → Prop) (hs : SqL K H a xs) (he : PySem.W.EachIs (fun x b => Dp K H x (k b) ∧ R x b) xs bs) (hk : Rs.Keys (bs.map k))
    (h : ∀ (out : List V) (p : Addr) (G : Hp), PySem.W.EachIs (fun x b => Dp K H x (k b) ∧ R x b) out (bs.mergeSort (PySem.W.dataLe false k)) → H p = none → G p = some (.lst out) → Same H G → Q (.ref p) G) : Rs.rSortD K [.ref a] H Q :=
  ⟨a, xs, β, bs, k, R, rfl, hs, he, hk, h⟩
def SortK (f : Addr) (sp : Sp) (K : PySem.W.Frag) (vs zs : List V) (H : Hp) (Q : VK) : Prop := Rs.rSortK f sp K vs zs H Q
theorem ckw {r : List V → List V → Hp → VK → Prop} {t tk : TA} {Q : VK} (h : t σ H fun vs H1 => tk σ H1 fun zs H2 => r vs zs H2 Q) : tCKw r t tk σ H Q := h
theorem sortK {β : Type} {f : Addr} {sp : Sp} {a : Addr} {xs : List V} {bs : List β} {Q : VK} (k : β → PyData) (R : V → β → Prop) (hs : SqL K H a xs) (he : PySem.W.EachIs R xs bs) (hk : Rs.Keys (bs.map k))
    (hf : ∀ x b H1, Same H H1 → b ∈ bs → R x b → sp [x] H1 (fun v H2 => Same H1 H2 ∧ Dp K H2 v (k b)) (fun _ _ _ => False))
    (h : ∀ (out : List V) (p : Addr) (G : Hp), PySem.W.EachIs R out (bs.mergeSort (PySem.W.dataLe false k)) → H p = none → G p = some (.lst out) → Same H G → Q (.ref p) G) : Rs.rSortK f sp K [.ref a] [.ref f] H Q :=
  ⟨a, xs, β, bs, k, R, rfl, rfl, hs, he, hk, hf, h⟩
def DClr : V → List V → Hp → VK → Prop := rDClear
theorem clr {a : Addr} {kvs : List (Key × V)} {Q : VK} (e : H a = some (.dK kvs)) (h : ∀ G : Hp, G a = some (.dK []) → (∀ b, b ≠ a → G b = H b) → Q .non G) : rDClear (.ref a) [] H Q := ⟨a, kvs, rfl, rfl, e, h _ upd_same fun b hb => upd_ne hb⟩
end Rw
namespace Rd
open PySem PySem.Spec PyProof.Rows L2
variable {σ : L2.St} {H : Hp} {K : PySem.W.Frag}
theorem notT {ta : TE} {Q : VK} (h : ta σ H fun x H1 => ∃ k, TruV K x H1 k ∧ Q (.bl (!k)) H1) : tNotT K ta σ H Q := h
theorem yes {c A B : Prop} {i : Decidable c} (h : c) (a : A) : @ite Prop c i A B := by rw [if_pos h]; exact a
theorem no {c A B : Prop} {i : Decidable c} (h : ¬ c) (a : B) : @ite Prop c i A B := by rw [if_neg h]; exact a
theorem ifX {x : V} {i : Decidable (x = V.non)} {A B : Prop} (n : x ≠ .non) (h : B) : @ite Prop (x = V.non) i A B := by rw [if_neg n]; exact h
theorem ifR {a : Addr} {i : Decidable (V.ref a = V.non)} {A B : Prop} (h : B) : @ite Prop (V.ref a = V.non) i A B := ifX (by intro e; cases e) h
theorem ifI {a : Int} {i : Decidable (V.int a = V.non)} {A B : Prop} (h : B) : @ite Prop (V.int a = V.non) i A B := ifX (by intro e; cases e) h
theorem ifT {a : Str} {i : Decidable (V.str a = V.non)} {A B : Prop} (h : B) : @ite Prop (V.str a = V.non) i A B := ifX (by intro e; cases e) h
theorem ifN {i : Decidable (V.non = V.non)} {A B : Prop} (h : A) : @ite Prop (V.non = V.non) i A B := by rw [if_pos rfl]; exact h
theorem orTH {ta tb : TE} {Q : VK} (h : ta σ H fun x H1 => ∃ k, TruV K x H1 k ∧ if k = true then Q x H1 else tb σ H1 Q) : tOrT K ta tb σ H Q := h
end Rd

/-! Things of any kind, one level deep; exceptions of the program: made, raised, caught, asked. -/
namespace Rx
open PySem PySem.Spec PyProof.Rows L2 Rd
variable {X : Cx} {D : Ends} {σ : L2.St} {H H' : Hp} {K : PySem.W.Frag}
/-! ### kinds -/
inductive Kd where
  | non | bl (b : Bool) | int (i : Int) | str (z : Str) | lst (xs : List V) | tup (xs : List V) | dct
def Kd.ty : Kd → String
  | .non => "NoneType" | .bl _ => "bool" | .int _ => "int" | .str _ => "str" | .lst _ => "list" | .tup _ => "tuple" | .dct => "dict"
/-- what stands at a value -/
inductive Is (H : Hp) : V → Kd → Prop where
  | non : Is H .non .non
  | bl (b : Bool) : Is H (.bl b) (.bl b)
  | int (i : Int) : Is H (.int i) (.int i)
  | str {z : Str} (l : z.length ≤ 1000000) : Is H (.str z) (.str z)
  | lst {a : Addr} {xs : List V} (h : H a = some (.lst xs)) (l : xs.length ≤ 1000000) : Is H (.ref a) (.lst xs)
  | tup {a : Addr} {xs : List V} (h : H a = some (.tup xs)) (l : xs.length ≤ 1000000) : Is H (.ref a) (.tup xs)
  | dct {a : Addr} {kvs : List (Key × V)} (h : H a = some (.dK kvs)) : Is H (.ref a) .dct
theorem Is.same {x : V} {k : Kd} (s : Same H H') (h : Is H x k) : Is H' x k := by
  cases h with
  | non => exact .non
  | bl b => exact .bl b
  | int i => exact .int i
  | str l => exact .str l
  | lst h l => exact .lst (s _ _ h) l
  | tup h l => exact .tup (s _ _ h) l
  | dct h => exact .dct (s _ _ h)
theorem Is.inj {x : V} {k k' : Kd} (h : Is H x k) (h' : Is H x k') : k = k' := by
  cases h <;> cases h' <;> first | rfl | (rename_i a b c d; first | (rw [a] at c; cases c; rfl) | (rw [a] at c; cases c) | (rw [a] at d; cases d) | skip) <;> simp_all
theorem Is.ty {x : V} {k : Kd} (h : Is H x k) : TyX K H x (.type k.ty) := by
  cases h with
  | non => exact .base .non
  | bl b => exact .base (.bl b)
  | int i => exact .base (.int i)
  | str l => exact .base (.str _)
  | lst h l => exact .base (.lst h)
  | tup h l => exact .base (.tup h)
  | dct h => exact .base (.dK h)
def Kd.isInt : Kd → Bool | .int _ => true | .bl _ => true | _ => false
def Kd.isBl : Kd → Bool | .bl _ => true | _ => false
def Kd.isStr : Kd → Bool | .str _ => true | _ => false
def Kd.isLst : Kd → Bool | .lst _ => true | _ => false
def Kd.isTup : Kd → Bool | .tup _ => true | _ => false
def Kd.isDct : Kd → Bool | .dct => true | _ => false
def Kd.isSeq : Kd → Bool | .lst _ => true | .tup _ => true | _ => false
/-- an integer and no flag -/
def Kd.isNum : Kd → Bool | .int _ => true | _ => false
theorem kdInt : ∀ k : Kd, kitB k.ty "int" = some k.isInt
  | .non => (by decide +kernel : kitB "NoneType" "int" = some false)
  | .bl _ => (by decide +kernel : kitB "bool" "int" = some true)
  | .int _ => (by decide +kernel : kitB "int" "int" = some true)
  | .str _ => (by decide +kernel : kitB "str" "int" = some false)
  | .lst _ => (by decide +kernel : kitB "list" "int" = some false)
  | .tup _ => (by decide +kernel : kitB "tuple" "int" = some false)
  | .dct => (by decide +kernel : kitB "dict" "int" = some false)
theorem kdBl : ∀ k : Kd, kitB k.ty "bool" = some k.isBl
  | .non => (by decide +kernel : kitB "NoneType" "bool" = some false)
  | .bl _ => (by decide +kernel : kitB "bool" "bool" = some true)
  | .int _ => (by decide +kernel : kitB "int" "bool" = some false)
  | .str _ => (by decide +kernel : kitB "str" "bool" = some false)
  | .lst _ => (by decide +kernel : kitB "list" "bool" = some false)
  | .tup _ => (by decide +kernel : kitB "tuple" "bool" = some false)
  | .dct => (by decide +kernel : kitB "dict" "bool" = some false)
theorem kdStr : ∀ k : Kd, kitB k.ty "str" = some k.isStr
  | .non => (by decide +kernel : kitB "NoneType" "str" = some false)
  | .bl _ => (by decide +kernel : kitB "bool" "str" = some false)
  | .int _ => (by decide +kernel : kitB "int" "str" = some false)
  | .str _ => (by decide +kernel : kitB "str" "str" = some true)
  | .lst _ => (by decide +kernel : kitB "list" "str" = some false)
  | .tup _ => (by decide +kernel : kitB "tuple" "str" = some false)
  | .dct => (by decide +kernel : kitB "dict" "str" = some false)
theorem kdLst : ∀ k : Kd, kitB k.ty "list" = some k.isLst
  | .non => (by decide +kernel : kitB "NoneType" "list" = some false)
  | .bl _ => (by decide +kernel : kitB "bool" "list" = some false)
  | .int _ => (by decide +kernel : kitB "int" "list" = some false)
  | .str _ => (by decide +kernel : kitB "str" "list" = some false)
  | .lst _ => (by decide +kernel : kitB "list" "list" = some true)
  | .tup _ => (by decide +kernel : kitB "tuple" "list" = some false)
  | .dct => (by decide +kernel : kitB "dict" "list" = some false)
theorem kdTup : ∀ k : Kd, kitB k.ty "tuple" = some k.isTup
  | .non => (by decide +kernel : kitB "NoneType" "tuple" = some false)
  | .bl _ => (by decide +kernel : kitB "bool" "tuple" = some false)
  | .int _ => (by decide +kernel : kitB "int" "tuple" = some false)
  | .str _ => (by decide +kernel : kitB "str" "tuple" = some false)
  | .lst _ => (by decide +kernel : kitB "list" "tuple" = some false)
  | .tup _ => (by decide +kernel : kitB "tuple" "tuple" = some true)
  | .dct => (by decide +kernel : kitB "dict" "tuple" = some false)
theorem kdDct : ∀ k : Kd, kitB k.ty "dict" = some k.isDct
  | .non => (by decide +kernel : kitB "NoneType" "dict" = some false)
  | .bl _ => (by decide +kernel : kitB "bool" "dict" = some false)
  | .int _ => (by decide +kernel : kitB "int" "dict" = some false)
  | .str _ => (by decide +kernel : kitB "str" "dict" = some false)
  | .lst _ => (by decide +kernel : kitB "list" "dict" = some false)
  | .tup _ => (by decide +kernel : kitB "tuple" "dict" = some false)
  | .dct => (by decide +kernel : kitB "dict" "dict" = some true)
theorem askInt {x : V} {k : Kd} {Q : VK} (h : Is H x k) (q : Q (.bl k.isInt) H) : rIsi K [x, .ty "int"] H Q := Rd.isi h.ty (kdInt k) q
theorem askBl {x : V} {k : Kd} {Q : VK} (h : Is H x k) (q : Q (.bl k.isBl) H) : rIsi K [x, .ty "bool"] H Q := Rd.isi h.ty (kdBl k) q
theorem askStr {x : V} {k : Kd} {Q : VK} (h : Is H x k) (q : Q (.bl k.isStr) H) : rIsi K [x, .ty "str"] H Q := Rd.isi h.ty (kdStr k) q
theorem askLst {x : V} {k : Kd} {Q : VK} (h : Is H x k) (q : Q (.bl k.isLst) H) : rIsi K [x, .ty "list"] H Q := Rd.isi h.ty (kdLst k) q
theorem askTup {x : V} {k : Kd} {Q : VK} (h : Is H x k) (q : Q (.bl k.isTup) H) : rIsi K [x, .ty "tuple"] H Q := Rd.isi h.ty (kdTup k) q
theorem askDct {x : V} {k : Kd} {Q : VK} (h : Is H x k) (q : Q (.bl k.isDct) H) : rIsi K [x, .ty "dict"] H Q := Rd.isi h.ty (kdDct k) q
/-- (list, tuple) was just laid at tp -/
theorem askSeq {x : V} {k : Kd} {tp : Addr} {Q : VK} (ht : H tp = some (.tup [.ty "list", .ty "tuple"])) (h : Is H x k) (q : Q (.bl k.isSeq) H) : rIsiT K [x, .ref tp] H Q := by
  refine ⟨_, tp, _, _, [.type "list", .type "tuple"], k.isSeq, rfl, ht, .cons (.ty _) (.cons (.ty _) .nil), h.ty, ?_, q⟩
  have e1 := kdLst k
  have e2 := kdTup k
  refine kitAny_cons (kit_ty e1) (fun z1 => kitAny_cons (kit_ty e2) (fun z2 => ?_) fun z => ?_) fun z => ?_
  · rw [kitAny_nil]
    cases k <;> first | rfl | (cases z1; done) | (cases z2; done)
  · cases k <;> first | rfl | cases z
  · cases k <;> first | rfl | cases z
/-! ### equal without a look inside -/
/-- the one is the other, or both are equal data -/
def EqI (K : PySem.W.Frag) (H : Hp) (x y : V) : Prop := (x = y ∧ flatB x = true) ∨ (∃ a, x = .ref a ∧ y = .ref a) ∨ ∃ d e, Dp K H x d ∧ Dp K H y e ∧ SeqAt.shaped d = true ∧ SeqAt.shaped e = true ∧ PyData.eqv d e = true
theorem eqI_run {pins : List (Addr × Obj)} {s : Shared} (I : Inv X pins σ H s) {A : Around} (hu : A.units + 64 < cLine) {x y : V} {v u : Value} (h : EqI X.K H x y) (rx : RelV x v) (ry : RelV y u) : SeqAt.EqAt A s v u true := by
  rcases h with ⟨rfl, f⟩ | ⟨a, rfl, rfl⟩ | ⟨d, e, hd, he, sd, se, q⟩
  · exact eqAt_same rx ry f
  · cases (show v = Value.ref a from rx)
    cases (show u = Value.ref a from ry)
    exact SeqAt.EqAt.same _
  · obtain ⟨as, r1⟩ := Dp.reads I d x v hd rx
    obtain ⟨bs, r2⟩ := Dp.reads I e y u he ry
    have z := SeqAt.eqAt_reads d e A s v u as bs r1 r2 (SeqAt.canLay_of_shaped sd) (SeqAt.canLay_of_shaped se) (SeqAt.room_of_shaped sd hu)
    rw [q] at z
    exact z
theorem eqIs_run {pins : List (Addr × Obj)} {s : Shared} (I : Inv X pins σ H s) {A : Around} (hu : A.units + 64 < cLine) {xs ys : List V} (hp : Paired (EqI X.K H) xs ys) :
    ∀ {us ws : List Value}, Vals xs us → Vals ys ws → ∀ j (h1 : j < us.length) (h2 : j < ws.length), SeqAt.EqAt A s us[j] ws[j] true := by
  induction hp with
  | nil =>
    intro us ws r1 r2 j h1 h2
    cases r1
    exact absurd h1 (Nat.not_lt_zero j)
  | cons h _ k =>
    intro us ws r1 r2 j h1 h2
    cases r1 with
    | cons a1 b1 =>
      cases r2 with
      | cons a2 b2 =>
        cases j with
        | zero => exact eqI_run I hu h a1 a2
        | succ j => exact k b1 b2 j (Nat.lt_of_succ_lt_succ h1) (Nat.lt_of_succ_lt_succ h2)
/-- two tuples whose items are equal -/
def TupEq (K : PySem.W.Frag) (H : Hp) (x y : V) : Prop := ∃ a b xs ys, x = .ref a ∧ y = .ref b ∧ SqT K H a xs ∧ SqT K H b ys ∧ Paired (EqI K H) xs ys
def rEqX (K : PySem.W.Frag) : R2 := fun x y H Q => TupEq K H x y ∧ Q (.bl true) H
def rNeX (K : PySem.W.Frag) : R2 := fun x y H Q => TupEq K H x y ∧ Q (.bl false) H
theorem op_neX (hu : X.A.units + 66 < cLine) : OpR X (compareOp .NotEq) (rNeX X.K) := by
  intro pins s σ H x y v u Q I rx ry h
  obtain ⟨⟨a, b, xs, ys, rfl, rfl, ha, hb, hp⟩, q⟩ := h
  cases (show v = Value.ref a from rx)
  cases (show u = Value.ref b from ry)
  obtain ⟨us, r1, p1⟩ := I.tuple ha
  obtain ⟨ws, r2, p2⟩ := I.tuple hb
  have hsz : us.toArray.size = ws.toArray.size := by
    rw [List.size_toArray, List.size_toArray, ← r1.length, ← r2.length]
    exact Paired.length hp
  refine SeqAt.RcNeAt.tuples (e := fun _ => true) p1.1 p2.1 (by omega) (fun j h1 h2 => ?_) X.prog X.w _ _ ?_
  · have k := eqIs_run I (A := X.A.in1) (by show X.A.units + 1 + 64 < cLine; omega) hp r1 r2 j (by simpa using h1) (by simpa using h2)
    simpa using k
  · rw [show ((List.range (min us.toArray.size ws.toArray.size)).all fun _ => true) = true from List.all_eq_true.mpr fun _ _ => rfl, hsz]
    exact ⟨.bl false, H, I, by simp [L2.RelV], q⟩
theorem op_eqX (hu : X.A.units + 66 < cLine) : OpR X (compareOp .Eq) (rEqX X.K) := by
  intro pins s σ H x y v u Q I rx ry h
  obtain ⟨⟨a, b, xs, ys, rfl, rfl, ha, hb, hp⟩, q⟩ := h
  cases (show v = Value.ref a from rx)
  cases (show u = Value.ref b from ry)
  obtain ⟨us, r1, p1⟩ := I.tuple ha
  obtain ⟨ws, r2, p2⟩ := I.tuple hb
  have hsz : us.toArray.size = ws.toArray.size := by
    rw [List.size_toArray, List.size_toArray, ← r1.length, ← r2.length]
    exact Paired.length hp
  refine SeqAt.RcAt.tuples (e := fun _ => true) p1.1 p2.1 (by omega) (fun j h1 h2 => ?_) X.prog X.w _ _ ?_
  · have k := eqIs_run I (A := X.A.in1) (by show X.A.units + 1 + 64 < cLine; omega) hp r1 r2 j (by simpa using h1) (by simpa using h2)
    simpa using k
  · rw [show ((List.range (min us.toArray.size ws.toArray.size)).all fun _ => true) = true from List.all_eq_true.mpr fun _ _ => rfl, hsz]
    exact ⟨.bl true, H, I, by simp [L2.RelV], q⟩
end Rx
namespace Rx
open PySem PySem.Spec PyProof.Rows L2 Rd
/-! ### classes of exceptions, their __init__(self, value) at fI -/
structure ExcF (K : PySem.W.Frag) (fI C : Addr) : Prop where
  ox : OexC K C
  is : ExcC K C
  iC : PySem.W.findIn K (.ref C) "__init__" = some (some (.ref fI))
  nv : PySem.W.findIn K (.ref C) "value" = some none
  cl : PySem.W.isClsIn K C = true
  self : PySem.W.subIn K (.ref C) (.ref C) = some true
section
variable {K : PySem.W.Frag} {fI C E : Addr} {b : Bool}
theorem kitC (FE : ExcF K fI E) (h : PySem.W.subIn K (.ref C) (.ref E) = some b) : PySem.W.kitCls K (.ref C) (.ref E) = some b := by
  have h2 : (PySem.W.clsIn K E).isSome = true := FE.cl
  have e2 : ((PySem.W.clsIn K E).isSome && PySem.W.typeIn K (.ref E) == some (.type "type")) = true := by
    rw [h2, FE.ox.tyC] <;> rfl
  show (if ((PySem.W.clsIn K E).isSome && PySem.W.typeIn K (.ref E) == some (.type "type")) = true then PySem.W.subIn K (.ref C) (.ref E) else none) = some b
  rw [if_pos e2]
  exact h
theorem kit (FC : ExcF K fI C) (FE : ExcF K fI E) (h : PySem.W.subIn K (.ref C) (.ref E) = some b) : PySem.W.kitOne K (.ref C) (.ref E) = some b := by
  unfold PySem.W.kitOne
  by_cases c : C = E
  · subst c
    rw [FC.self] at h
    cases h
    rw [if_pos (beq_self_eq_true _)]
  · rw [if_neg (fun z => c (by simpa using z))]
    exact kitC FE h
theorem exm (FE : ExcF K fI E) (h : PySem.W.subIn K (.ref C) (.ref E) = some b) : PySem.W.exmOne K (.ref C) (.ref E) = some b := by
  have e1 : (PySem.W.subIn K (.ref E) (.type "BaseException") == some true) = true := by rw [FE.is.hs] <;> rfl
  show (if (PySem.W.subIn K (.ref E) (.type "BaseException") == some true) = true then PySem.W.kitCls K (.ref C) (.ref E) else none) = some b
  rw [if_pos e1]
  exact kitC FE h
end
/-! ### monotone readings -/
def tMono (te : TE) : TE := fun σ H Q => ∃ Q0 : VK, te σ H Q0 ∧ ∀ v H1, Q0 v H1 → Q v H1
theorem pe_mono {X : Cx} {e : Expr} {te : TE} (he : PE X e te) : PE X e (tMono te) := ⟨fun pins s σ H Q I h => by
  obtain ⟨Q0, h, imp⟩ := h
  exact thn (he.run pins s σ H Q0 I h) fun u s1 ⟨v, H1, I1, r1, q⟩ => ⟨v, H1, I1, r1, imp v H1 q⟩⟩
/-! ### raise C(e) -/
/-- self.value = value -/
def spWe (K : PySem.W.Frag) : Sp := fun vs H Q _ => ∃ (a C : Addr) (v : V), vs = [.ref a, v] ∧ OexC K C ∧ PySem.W.findIn K (.ref C) "value" = some none ∧ H a = some (exo a C none) ∧
  ∀ dx, H dx = none → dx ≠ a → Q .non (upd (upd H dx (exd dx [("value", v)])) a (exo a C (some dx)))
/-- behind: the exception's dict d is new and holds v -/
def RaiseQ (C : Addr) (v : V) (H1 : Hp) (Q : XK) : Prop := ∀ (d : Addr) (H2 : Hp), H1 d = none → H2 d = some (.xd [("value", v)]) → (∀ b, b ≠ d → H2 b = H1 b) → Q (.ref C) (some d) H2
def tRaise (C : Addr) (W : WX) (te : TE) : TS := fun _ σ H => te σ H fun v H1 => RaiseQ C v H1 fun cls d H2 => W cls d σ H2
theorem raiseH {C : Addr} {W : WX} {te : TE} {D : Ends} {σ : L2.St} {H : Hp} (h : te σ H fun v H1 => RaiseQ C v H1 fun cls d H2 => W cls d σ H2) : tRaise C W te D σ H := h
/-- what a raised exception leaves: all as it was, and its value in its dict -/
def Raised (C : Addr) (v : V) (H : Hp) (E : XK) : Prop := ∀ (d : Addr) (H2 : Hp), H d = none → H2 d = some (.xd [("value", v)]) → Same H H2 → E (.ref C) (some d) H2
theorem Raised.now {C : Addr} {v : V} {H H1 : Hp} {E : XK} (r : Raised C v H E) (s : Same H H1) : RaiseQ C v H1 E := fun d H2 n e k =>
  r d H2 (s.free n) e fun b o q => (k b (ne_of_none (s _ _ q) n)).trans (s _ _ q)
theorem mk_reads {K : PySem.W.Frag} {fI C : Addr} {te : TE} {σ : L2.St} {H : Hp} {Q : XK} (F : ExcF K fI C) (h : te σ H fun v H1 => RaiseQ C v H1 Q) : tMkO C (spWe K) [] (tCons (tMono te) tNil) σ H Q := by
  refine ⟨_, h, fun v H1 hv => ?_⟩
  refine ⟨(by decide : 1 ≤ 1000), fun a na => ⟨a, C, v, rfl, F.ox, F.nv, upd_same, fun dx ndx ne => ⟨rfl, dx, [("value", v)], upd_same, ?_, ?_, ?_⟩⟩⟩
  · rw [upd_ne ne, upd_same]
  · rw [upd_ne ne] at ndx
    exact ndx
  · rw [upd_ne ne] at ndx
    refine hv dx _ ndx upd_same fun b hb => ?_
    rw [upd_ne hb]
    by_cases c : b = a
    · rw [c, del_same, na]
    · rw [del_ne c, upd_ne c, upd_ne hb, upd_ne c]
section
variable {X : Cx} {x : Str} {e : Expr} {te : TE} {p pos pos2 : Pos} {C fI : Addr} {k : Nat} {fd : FuncData} {W : WX}
theorem ps_raise1 (hc : X.calm = true) (F : ExcF X.K fI C) (tI : PySem.W.typeIn X.K (.ref fI) = some (.type "function")) (F1 : FnOk X.prog X.w X.K X.mg X.base CX0 k fI fd ["self", "value"] (spWe X.K)) (hr : Room (k + 1) X.A) (hb : Binds X.K fd ["self", "value"] [])
    (hg : Gl X x) (hm : X.mg x = some (.ref C)) (tk : Takes X W) (he : PE X e te) (hdb : (x == ("__debug__" : Str)) = false := by decide) (hs : starEach (e :: []) X.env = (false, eval e X.env) :: starEach [] X.env := by rfl) (hpl : (backTo pos (starEach [] X.env)).any (·.1) = false := by rfl) :
    PS X (.Raise (some (.Call (.Name x p) [e] [] pos)) none pos2) (tRaise C W te) :=
  have z := ps_raise (pos := pos2) hc tk (pmk_oex (p := p) (pos := pos) F.ox F.iC tI F1 hr hb .nil (CX := CX0) (fun _ _ _ _ _ _ _ h => h.elim) hg hm (pa_cons (pe_mono he) pa_nil hs) hdb hs hpl)
  ⟨fun pins s σ H D I h => z.run pins s σ H D I (mk_reads F h)⟩
end
/-! ### what is asked of a caught exception -/
def rIsX (K : PySem.W.Frag) (a : Addr) (cls : Value) (d : Option Addr) : List V → Hp → VK → Prop := fun xs H Q => ∃ (D dd : Addr) (fs : List (Str × V)) (c : V) (cv : Value) (b : Bool), cls = .ref D ∧ d = some dd ∧ ExcC K D ∧ H dd = some (.xd fs) ∧ xs = [.ref a, c] ∧
  ClsV c cv ∧ PySem.W.kitOne K (.ref D) cv = some b ∧ Q (.bl b) H
end Rx
namespace PySem.W
open PySem PySem.Spec PySem.Calls PyProof.Rows
section
variable {prog : Program} {w : World} {A : Around} {E : Value → Shared → Prop} {s : Shared} {K : Frag} {x D : Addr} {ox : Obj} {od : Option Obj}
theorem findObj_dataX {C : Addr} {name : Str} {a g : Value} (hc : (clsIn K C).isSome = true) (ha : findIn K (.ref C) name = some (some a)) (hg : specialIn K a "__get__" = some (some g)) (ht : takesIn K a = some true) : findObj K C od name = some (.bind g a) := by
  obtain ⟨cd, hc⟩ := Option.isSome_iff_exists.mp hc
  unfold findObj
  rw [hc, Option.bind_some, ha, Option.bind_some]
  simp [hg, ht]
theorem kin_classX {Q : Option Value → Shared → Prop} (hga : findIn K (.ref D) "__getattribute__" = some (some (.builtin "BaseException.__getattribute__"))) (hgt : findIn K (.ref D) "__getattr__" = some none) (hsub : subIn K (.ref D) (.type "BaseException") = some true)
    (hdct : hasDictIn K D = true) (ha : findIn K (.ref D) "__class__" = some (some (.builtin "object.__class__")))
    (hn : specialIn K (.builtin "object.__class__") "__get__" = some (some (.builtin "getset_descriptor.__get__"))) (htk : takesIn K (.builtin "object.__class__") = some true) (hm : mroIn K D (.type "object") = some true)
    (X : K.In s.heap) (I : InstAt s.heap x ox D od) (h : Q (some (.ref D)) { s with toks := s.toks + 1 }) : wpAny (model prog w) A (getAttr? (.ref x) "__class__") Q E s := by
  have hf : findObj K D od "__class__" = some (.bind (.builtin "getset_descriptor.__get__") (.builtin "object.__class__")) := findObj_dataX (by obtain ⟨cd, hc, _⟩ := any_some hdct; rw [hc]; rfl) ha hn htk
  obtain ⟨hp, g, d, t, os⟩ := s
  have L0 := I.type (M := model prog w)
  have L1 := looks_findIn (M := model prog w) X hga
  have L2 := looks_findIn (M := model prog w) X hgt
  have L3 := looks_find (M := model prog w) X I hf
  have sub : Looks (model prog w) hp (isInstance (.ref x) (.type "BaseException")) true := L0.andThen (looks_subIn X hsub)
  have hx0 : (false && onTheHeap (Value.builtin "BaseException.__getattribute__")) = false := rfl
  have hx2 : (Value.builtin "BaseException.__getattribute__" == Value.builtin "object.__getattribute__") = false := by decide +kernel
  have hx1 : (onTheHeap (Value.ref D) && Value.builtin "BaseException.__getattribute__" == Value.builtin "object.__getattribute__") = false := by rw [hx2]; rfl
  unfold getAttr? getAttrBy? getAttrBy
  refine wpAny_bind (wpAny_mkText (wpAny_bind (wpAny_attempt (wpAny_holding (wpAny_bind (L0.at (wpAny_bind (L1.at ?_))))))))
  show wpAny _ _ (if (onTheHeap (Value.ref D) && Value.builtin "BaseException.__getattribute__" == Value.builtin "object.__getattribute__") = true then _ else _) _ _ _
  rw [hx1, if_neg Bool.false_ne_true]
  unfold getAttrByItsOwn hookBefore
  refine wpAny_bind ?_
  rw [if_pos (show onTheHeap (Value.ref D) = true from rfl)]
  refine L2.at ?_
  refine wpAny_bind (wpAny_attempt (wpAny_holding ?_))
  unfold callGetattribute
  rw [hx0, if_neg Bool.false_ne_true]
  unfold boundAndCalled
  rw [PySem.F.excAttr_ValueError.ga.bind (.ref x)]
  refine wpAny_bind (wpAny_pure ?_)
  show wpAny _ _ (call (.builtin "BaseException.__getattribute__") [.ref x, .str "__class__" t]) _ _ _
  refine wpAny_call (codeAny_call_builtin PySem.F.excAttr_ValueError.ga.plain PySem.F.entry_bexc_ga ?_)
  refine @check_slot (model prog w) _ _ ⟨hp, g, d, t + 1, os⟩ "BaseException.__getattribute__" "BaseException" "__getattribute__" (.ref x) [.str "__class__" t] [] _ (by decide +kernel) (by decide +kernel) sub (PySem.F.args_bexc_ga (.ref x) (.str "__class__" t)) ?_
  unfold Builtin.«object.__getattribute__»
  refine wpAny_bind (wpAny_of_eq (a := ((Value.ref x : Value), [Value.str "__class__" t])) (by first | rfl | (simp only [slotArgs]; rfl)) ?_)
  refine wpAny_bind (wpAny_pure (wpAny_bind (L0.at (wpAny_bind (L3.at ?_)))))
  show wpAny _ _ (holding [Value.builtin "object.__class__"] (call (.builtin "getset_descriptor.__get__") [.builtin "object.__class__", .ref x, .ref D]) >>= ret) _ _ _
  refine wpAny_bind (wpAny_holding (wpAny_call (class_get (s := ⟨hp, g, d, t + 1, os⟩) (ox := ox) (od := od) X I hm ?_)))
  refine wpAny_pure ?_
  show wpAny _ _ (handedOut (.ref D)) _ _ _
  rw [handedOut_of (v := .ref D) rfl]
  first
    | exact wpAny_pure (wpAny_pure h)
    | exact wpAny_pure h
    | exact wpAny_pure (wpAny_bind (wpAny_pure (wpAny_pure h)))
theorem kitx_excX (hga : findIn K (.ref D) "__getattribute__" = some (some (.builtin "BaseException.__getattribute__"))) (hgt : findIn K (.ref D) "__getattr__" = some none) (hsub : subIn K (.ref D) (.type "BaseException") = some true) (hdct : hasDictIn K D = true) (ha : findIn K (.ref D) "__class__" = some (some (.builtin "object.__class__")))
    (hn : specialIn K (.builtin "object.__class__") "__get__" = some (some (.builtin "getset_descriptor.__get__"))) (htk : takesIn K (.builtin "object.__class__") = some true) (hm : mroIn K D (.type "object") = some true) :
    KitX K (.ref x) (.ref D) (fun h => InstAt h x ox D od) where
  ty := fun _ _ _ I => I.type
  it := fun _ _ X _ => by
    obtain ⟨cdD, hcD, _⟩ := any_some hdct
    unfold clsIn at hcD
    split at hcD
    · rename_i c' d' cd' sl' ho
      intro A' Q' E' s' k q
      unfold isType loadHead
      exact wpAny_bind (wpAny_loadPart (k _ _ (X _ _ ho)) (wpAny_pure q))
    · cases hcD
  ne := fun h tp dd its n sl X htp => by
    obtain ⟨cdD, hcD, _⟩ := any_some hdct
    refine Bool.eq_false_iff.mpr fun q => ?_
    have e : D = tp := Value.ref.inj (beq_iff_eq.mp q)
    subst e
    unfold clsIn at hcD
    split at hcD
    · rename_i c' d' cd' sl' ho
      have z := (X _ _ ho).symm.trans htp
      cases z
    · cases hcD
  ca := fun X I k => kin_classX hga hgt hsub hdct ha hn htk hm X I k
end
end PySem.W
namespace Rx
open PySem PySem.Spec PyProof.Rows L2 Rd
theorem call_isX {X : Cx} {a : Addr} {oe : Obj} {cls : Value} {d : Option Addr} {pn : List (Addr × Obj)} (hz : Zc cls d oe) (hf : ∃ vs, oe.data = .fields vs) : CallR (X.suite a ((a, oe) :: pn)) (.builtin "isinstance") (rIsX X.K a cls d) := by
  intro pins s σ H xs us Q I r h
  obtain ⟨D, dd, fs, c, cv, b, rfl, rfl, C, hd, rfl, hcv, e, q⟩ := h
  obtain ⟨u1, u2, rfl, r1, r2⟩ := vals2 r
  cases (show u1 = Value.ref a from r1)
  have ec := hcv.eq r2
  subst ec
  obtain ⟨hget, _⟩ := I.pin (a, oe) (List.mem_append.mpr (.inl List.mem_cons_self))
  obtain ⟨vs, hv⟩ := hf
  have hx : ObjOk X.prog X.w H s.heap dd (.xd fs) := I.hok dd _ hd
  obtain ⟨mA, hns, hr⟩ := hx
  obtain ⟨od, ho, hl⟩ := lookIn_ns hns
  have J : PySem.W.InstAt s.heap a oe D (some od) := ⟨hget, hz.1, by unfold PySem.W.notCls; rw [hv] <;> rfl, by rw [hz.2]; exact ho⟩
  exact PySem.W.kia_one (PySem.W.kitx_excX C.hg C.hk C.hs C.hd C.ha C.hn C.ht C.hm) I.kIn J e (fun z => nomatch z) fun tk => ⟨.bl b, H, I.kept (t' := tk) fun _ _ z => z, rfl, q⟩
theorem isX {K : PySem.W.Frag} {a fI C E dd : Addr} {b : Bool} {fs : List (Str × V)} {H : Hp} {Q : VK} (FC : ExcF K fI C) (FE : ExcF K fI E) (h : PySem.W.subIn K (.ref C) (.ref E) = some b) (hd : H dd = some (.xd fs)) (q : Q (.bl b) H) : rIsX K a (.ref C) (some dd) [.ref a, .ref E] H Q :=
  ⟨C, dd, fs, _, _, b, rfl, rfl, FC.is, hd, rfl, .own E, kit FC FE h, q⟩
/-- e.value -/
def XvG (K : PySem.W.Frag) (a : Addr) (cls : Value) (d : Option Addr) (n : Str) : V → Hp → VK → Prop := fun x H1 Q => x = .ref a ∧ ∃ (C dd : Addr) (fs : List (Str × V)) (v : V), cls = .ref C ∧ d = some dd ∧ ExcC K C ∧ PySem.W.findIn K (.ref C) n = some none ∧ H1 dd = some (.xd fs) ∧ fs.lookup n = some v ∧ Q v H1
def tXv (K : PySem.W.Frag) (a : Addr) (cls : Value) (d : Option Addr) (n : Str) (te : TE) : TE := fun σ H Q => te σ H fun x H1 => XvG K a cls d n x H1 Q
theorem pe_xv {X : Cx} {a : Addr} {oe : Obj} {cls : Value} {d : Option Addr} {pn : List (Addr × Obj)} {e : Expr} {te : TE} {pos : Pos} {n : Str} (hz : Zc cls d oe) (hf : ∃ vs, oe.data = .fields vs) (he : PE (X.suite a ((a, oe) :: pn)) e te)
    (hb : attributeBase e n X.env (eval e X.env) = eval e X.env := by rfl) : PE (X.suite a ((a, oe) :: pn)) (.Attribute e n pos) (tXv X.K a cls d n te) := by
  refine ⟨fun pins s σ H Q I h => ?_⟩
  refine attr_of hb (thn (he.run pins s σ H _ I h) fun u s1 hh => ?_)
  obtain ⟨x, H1, I1, rx, ex, C, dd, fs, v, ec, ed, T, hno, ea, l, q⟩ := hh
  subst ex
  obtain rfl : u = Value.ref a := rx
  subst ec
  subst ed
  obtain ⟨ha, _⟩ := I1.pin (a, oe) (List.mem_append_left _ List.mem_cons_self)
  obtain ⟨vs, hd⟩ := hf
  have hx : ObjOk X.prog X.w H1 s1.heap dd (.xd fs) := I1.hok dd _ ea
  obtain ⟨mA, hns, hr⟩ := hx
  obtain ⟨od, ho, hl⟩ := lookIn_ns hns
  obtain ⟨u, hu, ru⟩ := RelO.some_of (v := v) (o := mA n) (by rw [← l]; exact hr n)
  have J : PySem.W.InstAt s1.heap a oe C (some od) := ⟨ha, hz.1, by unfold PySem.W.notCls; rw [hd] <;> rfl, by rw [hz.2]; exact ho⟩
  exact HandSPX.exc_get I1.kIn J T.hg T.hk T.hs (PySem.W.findObj_own T.hd hno rfl (by rw [hl, hu])) (handed_of ru) ⟨v, H1, I1.tok _, ru, q⟩
theorem xvH {K : PySem.W.Frag} {a : Addr} {cls : Value} {d : Option Addr} {n : Str} {te : TE} {σ : L2.St} {H : Hp} {Q : VK} (h : te σ H fun x H1 => XvG K a cls d n x H1 Q) : tXv K a cls d n te σ H Q := h
theorem xv {K : PySem.W.Frag} {a fI C dd : Addr} {v : V} {H : Hp} {Q : VK} (F : ExcF K fI C) (hd : H dd = some (.xd [("value", v)])) (q : Q v H) : XvG K a (.ref C) (some dd) "value" (.ref a) H Q :=
  ⟨rfl, C, dd, _, v, rfl, rfl, F.is, F.nv, hd, by simp [List.lookup], q⟩
/-- the clause names the class that it is -/
theorem caught {K : PySem.W.Frag} {fI C E : Addr} {i : Nat} {ts : Addr → Value → Option Addr → TS} {Wout : WX} {D : Ends} {d : Option Addr} {σ : L2.St} {H : Hp} (FE : ExcF K fI E) (h : PySem.W.subIn K (.ref C) (.ref E) = some true)
    (q : ∀ a, H a = none → ts a (.ref C) d { nx := fun σ' H' => D.nx (σ'.set i none) H', rt := D.rt, bk := fun σ' H' => D.bk (σ'.set i none) H', ct := fun σ' H' => D.ct (σ'.set i none) H' } (σ.set i (some (.ref a))) H) : wAs K (.ref E) i ts Wout D (.ref C) d σ H :=
  ⟨true, exm FE h, fun _ a na => q a na, fun z => nomatch z⟩
theorem callS {sp : Sp} {E : L2.St → XK} {t : TA} {σ : L2.St} {H : Hp} {Q : VK} (h : t σ H fun vs H1 => sp vs H1 Q (E σ)) : tCallS sp E t σ H Q := h
end Rx
namespace Rx
open PySem PySem.Spec PyProof.Rows L2 Rd
/-- an __init__(self, value=None) called with both -/
theorem binds2 {K : PySem.W.Frag} {x qual : Str} {params : Arguments} {body : List Stmt} {scope : Scope} {f : Addr} {fd : FuncData} (F : FunD K x qual params body scope [.non] [] f fd)
    (h : ∀ (T : Addr) (kV doc pm : Value) (an : Option Addr) (cdv ct : Value) (us its : List Value), us.length = 2 → its.length = 1 →
      ∃ k, bindArgs (PySem.W.fnOf x qual params body scope (.ref T) kV doc pm an cdv ct) ⟨us, []⟩ = seqItems? (.ref T) >>= k ∧ k (some its.toArray) = pure ((["self", "value"] : List Str).zip (us ++ its.drop 1))) : Binds K fd ["self", "value"] [] := by
  obtain ⟨ds, r, b⟩ := F.binds1 (ps := ["self", "value"]) 2 1 (by simp) rfl h
  cases r
  exact b
end Rx
namespace Rx
open PySem PySem.Spec PyProof.Rows L2 Rd
theorem u66 {k : Nat} {A : Around} (h : Room k A) : A.units + 66 < cLine := by have := h.un; omega
/-! ### text * int -/
def nRepS : R2 := fun x y H Q => ∃ (z : Str) (n : Int), x = .str z ∧ y = .int n ∧ MulOk z n ∧ Q (.str (Txt.mul z n)) H
theorem o_repS {X : Cx} : OpR X (binaryOp .Mult) nRepS := by
  intro pins s σ H x y v u Q I rx ry h
  obtain ⟨z, n, rfl, rfl, hok, q⟩ := h
  obtain ⟨t, rfl⟩ := rx
  obtain ⟨t', rfl⟩ := ry
  exact SB.mul hok fun t' k => ⟨.str (Txt.mul z n), H, I.tok _, ⟨_, rfl⟩, q⟩
theorem repS {z : Str} {n : Int} {H : Hp} {Q : VK} (hok : MulOk z n) (q : Q (.str (Txt.mul z n)) H) : nRepS (.str z) (.int n) H Q := ⟨z, n, rfl, rfl, hok, q⟩
/-! ### things with their items -/
/-- what stands at a value, and at its items -/
def Rowed (H : Hp) (x : V) (k : Kd) (ks : List Kd) : Prop := Is H x k ∧ ∀ xs, k = .lst xs ∨ k = .tup xs → Paired (Is H) xs ks
theorem paired_same {H H' : Hp} (s : Same H H') {xs : List V} {ks : List Kd} (h : Paired (Is H) xs ks) : Paired (Is H') xs ks := by
  induction h with
  | nil => exact .nil
  | cons a _ ih => exact .cons (a.same s) ih
theorem Rowed.same {H H' : Hp} {x : V} {k : Kd} {ks : List Kd} (s : Same H H') (h : Rowed H x k ks) : Rowed H' x k ks := ⟨h.1.same s, fun xs e => paired_same s (h.2 xs e)⟩
/-- an address that is not t's -/
def Off (t : Addr) (x : V) : Prop := x ≠ .ref t
theorem off_ref {t a : Addr} (h : a ≠ t) : Off t (.ref a) := fun e => h (V.ref.inj e)
theorem Is.but {t : Addr} {H H' : Hp} {x : V} {k : Kd} (b : Rd.But t H H') (o : Off t x) (h : Is H x k) : Is H' x k := by
  cases h with
  | non => exact .non
  | bl b => exact .bl b
  | int i => exact .int i
  | str l => exact .str l
  | lst h l => exact .lst (b _ _ (fun e => o (by rw [e])) h) l
  | tup h l => exact .tup (b _ _ (fun e => o (by rw [e])) h) l
  | dct h => exact .dct (b _ _ (fun e => o (by rw [e])) h)
theorem paired_but {t : Addr} {H H' : Hp} (b : Rd.But t H H') {xs : List V} {ks : List Kd} (h : Paired (Is H) xs ks) : (∀ y ∈ xs, Off t y) → Paired (Is H') xs ks := by
  induction h with
  | nil => exact fun _ => .nil
  | cons a _ ih => exact fun o => .cons (a.but b (o _ (List.mem_cons_self ..))) (ih fun y m => o y (List.mem_cons_of_mem _ m))
/-- a thing of some kind, its items too; none of them is the object at t (the tape) -/
def Thing (t : Addr) (H : Hp) (x : V) : Prop := ∃ k ks, Rowed H x k ks ∧ Off t x ∧ ∀ xs, k = .lst xs ∨ k = .tup xs → ∀ y ∈ xs, Off t y
theorem Thing.same {t : Addr} {H H' : Hp} {x : V} (s : Same H H') (h : Thing t H x) : Thing t H' x := let ⟨k, ks, r, o⟩ := h; ⟨k, ks, r.same s, o⟩
theorem Thing.but {t : Addr} {H H' : Hp} {x : V} (b : Rd.But t H H') (h : Thing t H x) : Thing t H' x := let ⟨k, ks, r, o, p⟩ := h; ⟨k, ks, ⟨r.1.but b o, fun xs e => paired_but b (r.2 xs e) (p xs e)⟩, o, p⟩
theorem flat {t : Addr} {H : Hp} {x : V} {k : Kd} (h : Is H x k) (n : k.isSeq = false) (o : Off t x := by intro e; cases e) : Thing t H x := ⟨k, [], ⟨h, fun xs e => by rcases e with rfl | rfl <;> cases n⟩, o, fun xs e => by rcases e with rfl | rfl <;> cases n⟩
/-- an item -/
def Item (t : Addr) (H : Hp) (x : V) : Prop := (∃ k, Is H x k) ∧ Off t x
theorem item {t : Addr} {H : Hp} {x : V} {k : Kd} (h : Is H x k) (o : Off t x := by intro e; cases e) : Item t H x := ⟨⟨k, h⟩, o⟩
theorem Item.same {t : Addr} {H H' : Hp} {x : V} (s : Same H H') (h : Item t H x) : Item t H' x := let ⟨⟨k, i⟩, o⟩ := h; ⟨⟨k, i.same s⟩, o⟩
theorem Item.but {t : Addr} {H H' : Hp} {x : V} (b : Rd.But t H H') (h : Item t H x) : Item t H' x := let ⟨⟨k, i⟩, o⟩ := h; ⟨⟨k, i.but b o⟩, o⟩
theorem kinds {t : Addr} {H : Hp} : ∀ {xs : List V}, (∀ x ∈ xs, Item t H x) → ∃ ks, Paired (Is H) xs ks
  | [], _ => ⟨[], .nil⟩
  | x :: xs, h => let ⟨⟨k, i⟩, _⟩ := h x (List.mem_cons_self ..); let ⟨ks, r⟩ := kinds fun y m => h y (List.mem_cons_of_mem _ m); ⟨k :: ks, .cons i r⟩
theorem seqL {t : Addr} {H : Hp} {a : Addr} {xs : List V} (h : H a = some (.lst xs)) (o : a ≠ t) (l : xs.length ≤ 1000000) (i : ∀ x ∈ xs, Item t H x) : Thing t H (.ref a) :=
  let ⟨ks, r⟩ := kinds i; ⟨_, ks, ⟨.lst h l, fun ys e => by rcases e with e | e <;> cases e; exact r⟩, off_ref o, fun ys e => by rcases e with e | e <;> cases e; exact fun y m => (i y m).2⟩
theorem seqT {t : Addr} {H : Hp} {a : Addr} {xs : List V} (h : H a = some (.tup xs)) (o : a ≠ t) (l : xs.length ≤ 1000000) (i : ∀ x ∈ xs, Item t H x) : Thing t H (.ref a) :=
  let ⟨ks, r⟩ := kinds i; ⟨_, ks, ⟨.tup h l, fun ys e => by rcases e with e | e <;> cases e; exact r⟩, off_ref o, fun ys e => by rcases e with e | e <;> cases e; exact fun y m => (i y m).2⟩
theorem all_nil {P : V → Prop} : ∀ x ∈ ([] : List V), P x := fun _ h => nomatch h
theorem all_cons {P : V → Prop} {x : V} {xs : List V} (h : P x) (t : ∀ y ∈ xs, P y) : ∀ y ∈ x :: xs, P y := fun y m => by
  rcases List.mem_cons.mp m with rfl | m
  · exact h
  · exact t y m
theorem paired_get {R : V → Kd → Prop} {xs : List V} {ks : List Kd} (h : Paired R xs ks) : ∀ {i : Nat} {x : V}, xs[i]? = some x → ∃ k, ks[i]? = some k ∧ R x k := by
  induction h with
  | nil => intro i x e; simp at e
  | cons a _ ih =>
    intro i x e
    cases i with
    | zero => cases e; exact ⟨_, rfl, a⟩
    | succ i => exact ih e
/-! ### range(i, j, c) upwards -/
/-- how many -/
def cnt (i j c : Int) : Nat := if i < j then ((j - i - 1) / c + 1).toNat else 0
theorem rg_pos {i j c : Int} (c0 : 0 < c) (c1 : c < 1073741824) (hi : 0 ≤ i) (hi' : i < 2 ^ 62) (hj : 0 ≤ j) (hj' : j < 2 ^ 62) : RgC i j c (cnt i j c) := by
  have e : Builtin.Range.rangeSize i j c = (cnt i j c : Nat) := by
    unfold Builtin.Range.rangeSize cnt
    rw [if_pos c0]
    split
    · have : 0 ≤ (j - i - 1) / c := Int.ediv_nonneg (by omega) (by omega)
      omega
    · rfl
  have hb : (cnt i j c : Int) ≤ 2 ^ 62 + 1 := by
    unfold cnt
    split
    · have h1 : 0 ≤ (j - i - 1) / c := Int.ediv_nonneg (by omega) (by omega)
      have h2 : (j - i - 1) / c ≤ j - i - 1 := Int.ediv_le_self _ (by omega)
      omega
    · decide
  refine ⟨by omega, by omega, ?_, e⟩
  unfold Builtin.Range.small
  rw [e]
  simp only [Builtin.Range.rangeFitsLong, Bool.and_eq_true, Bool.or_eq_true, decide_eq_true_eq, beq_iff_eq]
  rw [if_pos c0]
  simp only [Bool.and_eq_true, decide_eq_true_eq]
  omega
theorem cnt_lt {i j c : Int} (c0 : 0 < c) (k : Nat) : k < cnt i j c ↔ i + (k : Int) * c < j := by
  unfold cnt
  split
  · rename_i h
    have h1 : 0 ≤ (j - i - 1) / c := Int.ediv_nonneg (by omega) (by omega)
    have e : k < ((j - i - 1) / c + 1).toNat ↔ (k : Int) ≤ (j - i - 1) / c := by omega
    rw [e, Int.le_ediv_iff_mul_le c0]
    omega
  · have : 0 ≤ (k : Int) * c := Int.mul_nonneg (by omega) (by omega)
    omega
theorem rng3 {ta : TA} {σ : L2.St} {H : Hp} {R : It → Hp → Prop} (h : ta σ H fun vs H1 => ∃ (i j c : Int) (n : Nat), vs = [.int i, .int j, .int c] ∧ RgC i j c n ∧ R (Itc i c n) H1) : iRng3 ta σ H R := h
end Rx
namespace Rx
open PySem PySem.Spec PyProof.Rows L2 Rd
/-! ### {k: v} written out -/
theorem disp {trs : List (TE × TE)} {σ : L2.St} {H : Hp} {Q : VK} (h : ∀ (p : Addr) (G : Hp), H p = none → G p = some (.dK []) → Same H G → tPairs trs σ G fun ps H2 => H2 p = some (.dK []) ∧ ∃ kvs : List (Key × V), ps = kvs.map (fun kv => (kV kv.1, kv.2)) ∧ kvs.length ≤ 15 ∧
    ∀ G2 : Hp, G2 p = some (.dK (mergeK [] kvs)) → (∀ b, b ≠ p → G2 b = H2 b) → Q (.ref p) G2) : tDisp trs σ H Q := fun p hp => by
  have key := h p _ hp upd_same (same_upd hp)
  have mono : ∀ {trs : List (TE × TE)} {σ : L2.St} {H : Hp} {A B : List (V × V) → Hp → Prop}, A = B → tPairs trs σ H A → tPairs trs σ H B := fun e h => e ▸ h
  refine mono ?_ key
  funext ps H2
  refine propext ⟨fun ⟨a, kvs, b, c, d⟩ => ⟨a, kvs, b, c, d _ upd_same fun b hb => upd_ne hb⟩, fun ⟨a, kvs, b, c, d⟩ => ⟨a, kvs, b, c, fun G2 g off => ?_⟩⟩
  have e : G2 = upd H2 p (.dK (mergeK [] kvs)) := by
    funext x
    by_cases q : x = p
    · rw [q, g, upd_same]
    · rw [off x q, upd_ne q]
  rw [e]
  exact d
theorem pair {tk tv : TE} {r : List (TE × TE)} {σ : L2.St} {H : Hp} {Q : List (V × V) → Hp → Prop} (h : tk σ H fun x H1 => tv σ H1 fun y H2 => tPairs r σ H2 fun ps H3 => Q ((x, y) :: ps) H3) : tPairs ((tk, tv) :: r) σ H Q := h
theorem pair0 {σ : L2.St} {H : Hp} {Q : List (V × V) → Hp → Prop} (h : Q [] H) : tPairs [] σ H Q := h
theorem same_off2 {H G G2 : Hp} {p : Addr} (s : Same H G) (np : H p = none) (off : ∀ b, b ≠ p → G2 b = G b) : Same H G2 := fun b o e => by rw [off b (ne_of_none e np)]; exact s b o e
end Rx
namespace Rx
open PySem PySem.Spec PyProof.Rows L2 Rd
theorem eqI_refl {K : PySem.W.Frag} {H : Hp} {y : V} {k : Kd} (h : Is H y k) : EqI K H y y := by
  cases h with
  | non => exact .inl ⟨rfl, rfl⟩
  | bl b => exact .inl ⟨rfl, rfl⟩
  | int i => exact .inl ⟨rfl, rfl⟩
  | str l => exact .inl ⟨rfl, rfl⟩
  | lst h l => exact .inr (.inl ⟨_, rfl, rfl⟩)
  | tup h l => exact .inr (.inl ⟨_, rfl, rfl⟩)
  | dct h => exact .inr (.inl ⟨_, rfl, rfl⟩)
end Rx

/-! {(a, b): v, ..}: a dict written out whose keys are tuples. -/
namespace Ry
open PySem PySem.Spec PyProof.Rows L2 Rd
section
variable {X : Cx} {pins : List (Addr × Obj)} {σ : L2.St} {H : Hp} {s : Shared} {a : Addr} {A : Around} {E : Value → Shared → Prop}
/-- d[y] = v by the dict's own store, y a tuple -/
theorem dset {kvs : List (List Key × V)} {k : List Key} {b : Addr} {v : V} {r : Value} {Q : Unit → Shared → Prop} (hu : A.units + 1 < cLine) (I : Inv X pins σ H s) (e : H a = some (.dT kvs)) (eb : H b = some (.tup (k.map kV))) (l : kvs.length < sizeLine) (rv : L2.RelV v r)
    (h : ∀ s', Inv X pins σ (upd H a (.dT (putK kvs k v))) s' → Q () s') : wpAny (model X.prog X.w) A (dictSet a (.ref b) r) Q E s := by
  obtain ⟨z, hd, xs, rel, dd⟩ := dt_of I.hok e
  have hz : xs.length ≤ sizeLine := by rw [← Paired.length rel]; exact z
  have hl : (putK kvs k v).length ≤ sizeLine := by have := length_putK kvs k v; omega
  refine wpAny_dictSet_heap (hsz := hz) (show A.units < cLine by omega) (key_of I.hok eb) dd fun h' dd' hs => h _ ?_
  obtain ⟨q, es, ep, hq, h2, h3, h4, _, h5⟩ := dd'
  refine d_write I (by rw [e]; exact True.intro) hs ⟨q, hq⟩ ⟨hl, hd, _, (rel.put k eb rv).keeps fun c ys ec => ?_, q, es, ep, hq, h2, h3, h4, h5⟩
  rw [upd_ne (ne_of ec e (fun z => nomatch z))]
  exact ec
/-- what a display puts down, pair by pair -/
def putAll (kvs more : List (List Key × V)) : List (List Key × V) := more.foldl (fun acc kv => putK acc kv.1 kv.2) kvs
theorem putAll_len : ∀ (more kvs : List (List Key × V)), (putAll kvs more).length ≤ kvs.length + more.length
  | [], kvs => by show kvs.length ≤ kvs.length + 0; omega
  | p :: r, kvs => by
    have h1 := putAll_len r (putK kvs p.1 p.2)
    have h2 := length_putK kvs p.1 p.2
    show (putAll (putK kvs p.1 p.2) r).length ≤ _
    rw [List.length_cons]; omega
/-- the pairs (a tuple's address, a value) with the tuples' keys -/
def KeyAt (H : Hp) (p : V × V) (kv : List Key × V) : Prop := ∃ b, p.1 = .ref b ∧ H b = some (.tup (kv.1.map kV)) ∧ p.2 = kv.2
theorem dsets {a : Addr} : ∀ (more : List (List Key × V)) {ps : List (V × V)} {vs : List (Value × Value)} {kvs : List (List Key × V)} {H : Hp} {s : Shared} {Q : PUnit → Shared → Prop}, A.units + 1 < cLine → Inv X pins σ H s → H a = some (.dT kvs) → VV ps vs → Paired (KeyAt H) ps more →
    kvs.length + more.length ≤ 1000 → (∀ s', Inv X pins σ (upd H a (.dT (putAll kvs more))) s' → Q PUnit.unit s') →
    wpAny (model X.prog X.w) A (forIn vs PUnit.unit fun (x : Value × Value) (_ : PUnit) => (do dictSet a x.1 x.2; pure (ForInStep.yield PUnit.unit) : Sem (ForInStep PUnit))) Q E s
  | [], ps, vs, kvs, H, s, Q, hu, I, e, r, p, hl, h => by
    cases p
    cases r
    rw [List.forIn_nil]
    refine wpAny_pure (h s ?_)
    have : upd H a (.dT (putAll kvs [])) = H := by
      funext b
      by_cases c : b = a
      · rw [c, upd_same, e]; rfl
      · rw [upd_ne c]
    rw [this]
    exact I
  | kv :: more, ps, vs, kvs, H, s, Q, hu, I, e, r, p, hl, h => by
    cases p with
    | @cons q _ ps' _ k p' =>
      cases r with
      | @cons _ u _ us ru r' =>
        obtain ⟨b, e1, e2, e3⟩ := k
        obtain ⟨ku, vu⟩ := u
        have ra : L2.RelV (.ref b) ku := by rw [← e1]; exact ru.1
        cases (show ku = Value.ref b from ra)
        have rv : L2.RelV kv.2 vu := by rw [← e3]; exact ru.2
        rw [List.length_cons] at hl
        rw [List.forIn_cons]
        refine wpAny_bind (wpAny_bind (dset hu I e e2 (by rw [sizeLine_eq]; omega) rv fun s1 I1 => wpAny_pure ?_))
        have keep : ∀ {ps : List (V × V)} {more : List (List Key × V)}, Paired (KeyAt H) ps more → Paired (KeyAt (upd H a (.dT (putK kvs kv.1 kv.2)))) ps more := fun x => by
          induction x with
          | nil => exact .nil
          | cons z _ ih =>
            obtain ⟨b, e1, e2, e3⟩ := z
            exact .cons ⟨b, e1, by rw [upd_ne (ne_of e2 e (fun z => nomatch z))]; exact e2, e3⟩ ih
        refine dsets more hu I1 upd_same r' (keep p') (by have := length_putK kvs kv.1 kv.2; omega) fun s2 I2 => h s2 ?_
        rw [upd_upd] at I2
        exact I2
end
/-- {k: v, ..}, the keys tuples of ints and texts; the new dict stands empty while the pairs are made -/
def tDispT (trs : List (TE × TE)) : TE := fun σ H Q => ∀ p, H p = none → tPairs trs σ (upd H p (.dT [])) fun ps H2 => H2 p = some (.dT []) ∧ ∃ kvs : List (List Key × V), Paired (KeyAt H2) ps kvs ∧ kvs.length ≤ 15 ∧ Q (.ref p) (upd H2 p (.dT (putAll [] kvs)))
theorem pe_dispT {X : Cx} {pos : Pos} {keys : List (Option Expr)} {values : List Expr} {trs : List (TE × TE)} (hu : X.A.units + 1 < cLine) (h : PPs X pos keys values trs) (hall : keys.all (·.isSome) = true) (hl : keys.length = values.length) (h0 : keys ≠ [])
    (h15 : keys.length ≤ 15) : PE X (.Dict keys values pos) (tDispT trs) := by
  refine ⟨fun pins s σ H Q I q => ?_⟩
  have hn := I.hok.fresh (Nat.le_refl s.heap.objs.size)
  have I1 := I.laid (a := s.heap.objs.size) (o := .dT []) (h' := s.heap.push { cls := .type "dict", data := .dict #[] }) (t' := s.toks) (fun _ _ q => Heap.get?_push_of_some _ q) (Nat.le_refl _) (dt_empty s.heap I.big)
  have hp := pairTrees_length keys values X.env pos hall hl
  have hne : pairTrees keys values X.env pos ≠ [] := fun c => by
    rw [c] at hp
    exact h0 (List.length_eq_zero_iff.mp hp.symm)
  rw [arm_eval_Dict, zip_pairTrees keys values X.env pos hall hl, dictDisplay_pairs _ hne (by omega)]
  refine wpAny_bind (wpAny_standAt (wpAny_bind ?_))
  unfold subDict
  refine wpAny_bind (wpAny_alloc ?_)
  refine wpAny_bind (wpAny_holding ?_)
  rw [if_pos (by omega)]
  refine wpAny_bind (thn (h.run pins _ σ _ _ I1 (q _ hn)) fun ws s2 ⟨ps, H2, I2, rel, e, kvs, pr, lk, q2⟩ => ?_)
  refine wpAny_holding (wpAny_bind (dsets kvs hu I2 e rel pr (by rw [List.length_nil]; omega) fun s3 I3 => wpAny_pure (wpAny_pure (wpAny_pure ⟨.ref s.heap.objs.size, _, I3, rfl, q2⟩))))
theorem dispT {trs : List (TE × TE)} {σ : L2.St} {H : Hp} {Q : VK} (h : ∀ (p : Addr) (G : Hp), H p = none → G p = some (.dT []) → Same H G → tPairs trs σ G fun ps H2 => H2 p = some (.dT []) ∧ ∃ kvs : List (List Key × V), Paired (KeyAt H2) ps kvs ∧ kvs.length ≤ 15 ∧
    ∀ G2 : Hp, G2 p = some (.dT (putAll [] kvs)) → (∀ b, b ≠ p → G2 b = H2 b) → Q (.ref p) G2) : tDispT trs σ H Q := fun p hp => by
  have key := h p _ hp upd_same (same_upd hp)
  have mono : ∀ {trs : List (TE × TE)} {σ : L2.St} {H : Hp} {A B : List (V × V) → Hp → Prop}, A = B → tPairs trs σ H A → tPairs trs σ H B := fun e h => e ▸ h
  refine mono ?_ key
  funext ps H2
  refine propext ⟨fun ⟨a, kvs, b, c, d⟩ => ⟨a, kvs, b, c, d _ upd_same fun b hb => upd_ne hb⟩, fun ⟨a, kvs, b, c, d⟩ => ⟨a, kvs, b, c, fun G2 g off => ?_⟩⟩
  have e : G2 = upd H2 p (.dT (putAll [] kvs)) := by
    funext x
    by_cases q : x = p
    · rw [q, g, upd_same]
    · rw [off x q, upd_ne q]
  rw [e]
  exact d
/-- what a comprehension within a comprehension walks -/
theorem pi_listK {X : Cx} {K : PySem.W.Frag} {tg l : Expr} {tl : TE} (e : X.K = K) (hl : PE X l tl) : PI X tg l (iList K tl) := e ▸ pi_list hl
theorem pi_tupK {X : Cx} {K : PySem.W.Frag} {tg l : Expr} {tl : TE} (e : X.K = K) (hl : PE X l tl) : PI X tg l (iTup K tl) := e ▸ pi_tup hl
/-- a join within a comprehension -/
def joinR (K : PySem.W.Frag) : V → List V → Hp → VK → Prop := fun x xs H Q => ∃ a p, ∃ ys : List Str, x = .str a ∧ xs = [.ref p] ∧ (SqL K H p (ys.map V.str) ∨ SqT K H p (ys.map V.str)) ∧
      (ys.map (·.length)).sum + ys.length * a.length ≤ 16777216 ∧ Q (.str (Txt.join a ys)) H
theorem pe_joinK {X : Cx} {o e : Expr} {to te : TE} {apos pos : Pos} (ho : PE X o to) (he : PE X e te) (hs : starEach [e] X.env = [(false, eval e X.env)] := by rfl) (hbase : attributeBase o "join" X.env (eval o X.env) = eval o X.env := by rfl) (hline : (apos.endLine == pos.line) = true := by rfl) :
    PE X (.Call (.Attribute o "join" apos) [e] [] pos) (tM1 (joinR X.K) to te) := pe_join ho he hs hbase hline
theorem joinS {K : PySem.W.Frag} {H : Hp} {a : Str} {p : Addr} {ys : List Str} {Q : VK} (hp : SqL K H p (ys.map V.str) ∨ SqT K H p (ys.map V.str)) (hz : (ys.map (·.length)).sum + ys.length * a.length ≤ 16777216) (h : Q (.str (Txt.join a ys)) H) : joinR K (.str a) [.ref p] H Q := ⟨a, p, ys, rfl, rfl, hp, hz, h⟩
/-- dict(xs) of a list of pairs -/
def rDictP (K : PySem.W.Frag) : List V → Hp → VK → Prop := fun xs H Q => ∃ (a : Addr) (ps : List Addr) (kvs : List (Key × V)), xs = [.ref a] ∧ SqL K H a (ps.map V.ref) ∧ Paired (fun p kv => SqT K H p [kV kv.1, kv.2]) ps kvs ∧ ∀ p, H p = none → Q (.ref p) (upd H p (.dK (mergeK [] kvs)))
theorem c_dictP {X : Cx} (h : X.calm = true) : CallR X (.type "dict") (rDictP X.K) := call_dictP h
theorem dictP {K : PySem.W.Frag} {H : Hp} {a : Addr} {ps : List Addr} {kvs : List (Key × V)} {Q : VK} (h : SqL K H a (ps.map V.ref)) (hp : Paired (fun p kv => SqT K H p [kV kv.1, kv.2]) ps kvs) (q : ∀ (p : Addr) (G : Hp), H p = none → G p = some (.dK (mergeK [] kvs)) → Same H G → Q (.ref p) G) : rDictP K [.ref a] H Q :=
  ⟨a, ps, kvs, rfl, h, hp, fun p hp => q p _ hp upd_same (same_upd hp)⟩
end Ry

/-! t[::-1] and t[:0:-1] of tuples -/
namespace Rz
open PySem PySem.Spec PyProof.Rows
section
variable {prog : Program} {w : World} {A : Around} {E : Value → Shared → Prop} {s : Shared}
/-- how many items t[:hi:-1] leaves out at the begin -/
def offs : Option Int → Nat
  | none => 0
  | some _ => 1
theorem adjust_rev {hi : Option Int} (h : hi = none ∨ hi = some 0) (n : Nat) : Builtin.Slice.sliceAdjust none hi (-1) (n : Int) = ((n : Int) - 1, if hi = none then -1 else min 0 ((n : Int) - 1)) := by
  have h1 : ((-1 : Int) < 0) := by omega
  unfold Builtin.Slice.sliceAdjust
  simp only [h1, if_true]
  rcases h with rfl | rfl <;> rfl
theorem places_rev {hi : Option Int} (h : hi = none ∨ hi = some 0) (n : Nat) : Builtin.Slice.slicePlaces ((n : Int) - 1) (if hi = none then -1 else min 0 ((n : Int) - 1)) (-1) = n - offs hi := by
  unfold Builtin.Slice.slicePlaces
  have h1 : ¬ ((-1 : Int) > 0) := by omega
  simp only [h1, if_false]
  rcases h with rfl | rfl
  · rw [if_pos rfl]
    show (if (n : Int) - 1 > -1 then ((n : Int) - 1 - -1 - 1) / 1 + 1 else 0).toNat = n - 0
    rw [Int.ediv_one]
    split <;> omega
  · have e : (if (some (0 : Int)) = none then (-1 : Int) else min 0 ((n : Int) - 1)) = min 0 ((n : Int) - 1) := if_neg (by simp)
    rw [e]
    show (if (n : Int) - 1 > min 0 ((n : Int) - 1) then ((n : Int) - 1 - min 0 ((n : Int) - 1) - 1) / 1 + 1 else 0).toNat = n - 1
    rw [Int.ediv_one]
    split <;> omega
theorem fm_congr {α β : Type} {f g : α → Option β} : ∀ {l : List α}, (∀ x ∈ l, f x = g x) → l.filterMap f = l.filterMap g
  | [], _ => rfl
  | x :: l, h => by
    rw [List.filterMap_cons, List.filterMap_cons, h x (List.mem_cons_self ..), fm_congr fun y m => h y (List.mem_cons_of_mem _ m)]
theorem sliceApplied_rev {sl : Addr} {vl vu vs : Value} {hi : Option Int} {n : Nat} {Q : Int × Int × Nat → Shared → Prop} (h0 : hi = none ∨ hi = some 0) (hs : s.heap.IsSliceOf sl vl vu vs) (pl : IsPart vl none) (pu : IsPart vu hi) (ps : IsPart vs (some (-1)))
    (h : Q ((n : Int) - 1, -1, n - offs hi) s) : wpAny (model prog w) A (Builtin.Slice.sliceApplied (.ref sl) (pure (n : Int))) Q E s := by
  obtain ⟨os, hos, hcs, hds⟩ := id hs
  unfold Builtin.Slice.sliceApplied Builtin.Slice.sliceFields
  refine wpAny_bind (wpAny_bind (wpAny_field hos hds (x := vl) rfl (wpAny_bind (wpAny_field hos hds (x := vu) rfl (wpAny_bind (wpAny_field hos hds (x := vs) rfl (wpAny_pure ?_)))))))
  refine wpAny_bind (HT.slicePart_ ps ?_)
  show wpAny _ _ (if ((-1 : Int) == 0) = true then _ else _) _ _ s
  rw [if_neg (by decide)]
  refine wpAny_bind (HT.slicePart_ pl (wpAny_bind (HT.slicePart_ pu (wpAny_bind (wpAny_pure ?_)))))
  show wpAny _ _ (match Builtin.Slice.sliceAdjust none hi (-1) (n : Int) with | (lo, hi) => pure (lo, (-1 : Int), Builtin.Slice.slicePlaces lo hi (-1))) _ _ s
  rw [adjust_rev h0 n]
  show wpAny _ _ (pure ((n : Int) - 1, (-1 : Int), Builtin.Slice.slicePlaces ((n : Int) - 1) (if hi = none then -1 else min 0 ((n : Int) - 1)) (-1))) _ _ s
  rw [places_rev h0]
  exact wpAny_pure h
theorem pick_rev (xs : Array Value) (d : Nat) : ((List.range (xs.size - d)).filterMap fun (m : Nat) => xs[(((xs.size : Nat) : Int) - 1 + (m : Int) * (-1)).toNat]?).toArray = (xs.toList.drop d).reverse.toArray := by
  congr 1
  have e1 : (List.range (xs.size - d)).filterMap (fun (m : Nat) => xs[(((xs.size : Nat) : Int) - 1 + (m : Int) * (-1)).toNat]?) = (List.range (xs.size - d)).filterMap fun m => (xs.toList.drop d).reverse[m]? := by
    refine fm_congr fun m hm => ?_
    have hm := List.mem_range.mp hm
    have hx : (((xs.size : Nat) : Int) - 1 + (m : Int) * (-1)).toNat = xs.size - 1 - m := by omega
    rw [hx, List.getElem?_reverse (by rw [List.length_drop, Array.length_toList]; omega), List.getElem?_drop, List.length_drop, Array.length_toList, Array.getElem?_toList]
    congr 1
    omega
  rw [e1]
  have l : (xs.toList.drop d).reverse.length = xs.size - d := by rw [List.length_reverse, List.length_drop, Array.length_toList]
  rw [← l]
  generalize (xs.toList.drop d).reverse = ys
  have key : ∀ (ys : List Value) (k : Nat), k ≤ ys.length → (List.range k).filterMap (fun m => ys[m]?) = ys.take k := by
    intro ys k
    induction k with
    | zero => intro _; rfl
    | succ k ih =>
      intro hk
      rw [List.range_succ, List.filterMap_append, ih (by omega), List.take_succ]
      congr 1
  rw [key ys ys.length (Nat.le_refl _), List.take_length]
theorem getItem_tuple_rev {t sl : Addr} {items : Array Value} {vl vu vs : Value} {hi : Option Int} {Q : Value → Shared → Prop} (h0 : hi = none ∨ hi = some 0) (ht : IsTup s.heap t items) (hs : s.heap.IsSliceOf sl vl vu vs) (pl : IsPart vl none) (pu : IsPart vu hi) (ps : IsPart vs (some (-1)))
    (h : Q (.ref s.heap.objs.size) { s with heap := s.heap.push { cls := .type "tuple", data := .seq (items.toList.drop (offs hi)).reverse.toArray } })
    (hsz : items.size ≤ sizeLine) : wpAny (model prog w) A (getItem (.ref t) (.ref sl)) Q E s := by
  have htake : sizeOk (.seq (items.toList.drop (offs hi)).reverse.toArray) := by
    show (items.toList.drop (offs hi)).reverse.toArray.size ≤ sizeLine
    rw [List.size_toArray, List.length_reverse, List.length_drop, Array.length_toList]
    omega
  obtain ⟨os, hos, hcs, hds⟩ := id hs
  have hTs : s.TypeIs (.ref sl) "slice" := ⟨os, hos, hcs⟩
  unfold getItem
  try with_reducible refine wpAny_holding ?_
  first | refine wpAny_bind (wpAny_pure ?_) | skip
  refine wpAny_bind (wpAny_sequenceKey ht.typeIs (by decide) ?_)
  refine wpAny_bind (wpAny_callSpecial?_slot (name := Str.ofString "__getitem__") ht.typeIs PyProof.Rows.slot_tuple_getitem
    (wpAny_call_entry PyProof.Rows.slot_tuple_getitem ht.typeIs entry_tuple_getitem ?_ (args_tuple_getitem _ _)))
  show wpAny _ _ (Builtin.Tuple.tupleItemsOf (.ref t) >>= _) _ _ s
  refine wpAny_bind (tupleItemsOf_ ht ?_)
  refine wpAny_bind (wpAny_typeOf hTs ?_)
  rw [if_pos (by decide)]
  refine wpAny_bind (sliceApplied_rev h0 hs pl pu ps ?_)
  have hno : ¬ ((((items.size : Nat) : Int) - 1 == 0 && (-1 : Int) == 1 && (items.size - offs hi) == items.size) = true) := by
    intro q
    rw [Bool.and_eq_true, Bool.and_eq_true] at q
    have : (-1 : Int) = 1 := eq_of_beq q.1.2
    exact absurd this (by decide)
  show wpAny _ _ (if (((items.size : Nat) : Int) - 1 == 0 && (-1 : Int) == 1 && (items.size - offs hi) == items.size) = true then _ else _) _ _ s
  rw [if_neg hno, pick_rev]
  first
    | exact wpAny_bind (m := Builtin.Tuple.tupleExact _) (wpAny_newObj_type (wpAny_pure ⟨_, rfl, wpAny_pure h⟩) htake)
    | exact wpAny_bind (m := Builtin.Tuple.tupleExact _) (wpAny_newObj_type (wpAny_bind (wpAny_pure (wpAny_pure ⟨_, rfl, wpAny_pure h⟩))) htake)
    | exact wpAny_bind (wpAny_bind (m := Builtin.Tuple.tupleExact _) (wpAny_newObj_type (wpAny_pure (wpAny_pure ⟨_, rfl, wpAny_pure h⟩)) htake))
    | exact wpAny_bind (wpAny_bind (m := Builtin.Tuple.tupleExact _) (wpAny_newObj_type (wpAny_pure ⟨_, rfl, wpAny_pure h⟩) htake))
end
end Rz
namespace Rz
open PySem PySem.Spec PyProof.Rows L2
section
variable {X : Cx}
def tRevT (K : PySem.W.Frag) (te : TE) (th : TO) : TE := fun σ H Q => te σ H fun x H1 => th σ H1 fun o H2 => ∃ a xs, x = .ref a ∧ SqT K H2 a xs ∧ (o = none ∨ o = some 0) ∧ ∀ p, H2 p = none → Q (.ref p) (upd H2 p (.tup (xs.drop (offs o)).reverse))
theorem pe_revT {e : Expr} {hi : Option Expr} {te : TE} {th : TO} {k : Nat} {p1 p2 p3 pos : Pos} (he : PE X e te) (hu : PO X hi th) : PE X (.Subscript e (.Slice none hi (some (.UnaryOp .USub (.Constant (.int 1) k p1) p2)) p3) pos) (tRevT X.K te th) := by
  refine ⟨fun pins s σ H Q I h => ?_⟩
  refine Subscript_ (thn (he.run pins s σ H _ I h) fun v s1 ⟨x, H1, I1, r1, q1⟩ => ?_)
  have hst : PO X (some (.UnaryOp .USub (.Constant (.int 1) k p1) p2)) (tPart (tUn (rU fun i => .int (-i)) (tC (.int 1)))) := po_some (pe_un un_neg pe_int)
  refine wpAny_Slice (thn (po_none.run pins s1 σ H1 (fun o H2 => o = none ∧ H2 = H1) I1 ⟨rfl, rfl⟩) fun vl s2 ⟨l, H2, I2, pl, el, e2⟩ => ?_)
  subst el e2
  refine thn (hu.run pins s2 σ H2 _ I2 q1) fun vu s3 ⟨u, H3, I3, pu, q⟩ => ?_
  obtain ⟨a, xs, ex, hx, h0, q⟩ := q
  subst ex
  cases r1
  refine thn (hst.run pins s3 σ H3 (fun o H4 => o = some (-1) ∧ H4 = H3) I3 ⟨1, rfl, -1, rfl, rfl, rfl⟩) fun vs s4 ⟨o, H4, I4, ps, eo, e4⟩ => ?_
  subst eo e4
  have I5 : Inv X pins σ H4 { s4 with heap := s4.heap.push { cls := .type "slice", data := .fields #[vl, vu, vs] } } := I4.kept (t' := s4.toks) fun b ob q => Heap.get?_push_of_some _ q
  obtain ⟨its, r, ht, hz⟩ := I5.tuple hx
  have hlen := r.length
  show wpAny (model X.prog X.w) X.A (subscriptTail e (.Slice none hi (some (.UnaryOp .USub (.Constant (.int 1) k p1) p2)) p3) (.ref a) (.ref s4.heap.objs.size)) (EP X pins σ Q) X.xe { s4 with heap := s4.heap.push { cls := .type "slice", data := .fields #[vl, vu, vs] } }
  refine tail_any (ops := [.ref a, .ref s4.heap.objs.size]) ht.typeIs (PyProof.Rows.slot_tuple_getitem.lookup) ?_ (by with_unfolding_all rfl)
  refine getItem_tuple_rev h0 ht (Heap.IsSliceOf.new _ vl vu vs) pl pu ps ?_ (by rw [List.size_toArray]; omega)
  refine ⟨.ref _, _, I5.laid (t' := s4.toks) (o := .tup (xs.drop (offs u)).reverse) (fun b ob q => Heap.get?_push_of_some _ q) (Nat.le_refl _) ?_, rfl, q _ (I5.hok.fresh (Nat.le_refl _))⟩
  exact ⟨by rw [List.length_reverse, List.length_drop]; omega, _, (r.drop (offs u)).reverse, IsTup.new _ _⟩
end
end Rz
namespace Rz
open PySem PySem.Spec PyProof.Rows L2
theorem slA {K : PySem.W.Frag} {H : Hp} {a : Addr} {xs : List V} {lo hi : Option Int} {Q : VK} (h : SqT K H a xs) (k : ∀ (p : Addr) (G : Hp), Same H G → SqT K G p (cutV xs lo hi) → Q (.ref p) G) : rSlA K (.ref a) lo hi H Q :=
  ⟨a, xs, rfl, h, fun w => k a H (Same.refl _) (by
    have : cutV xs lo hi = xs := by
      unfold cutV
      rw [w.1, w.2, List.drop_zero, Nat.sub_zero, List.take_length]
    rw [this]
    exact h), fun _ p n => k p _ (Rd.same_upd n) (.of upd_same)⟩
theorem revT {K : PySem.W.Frag} {te : TE} {th : TO} {σ : L2.St} {H : Hp} {Q : VK} (h : te σ H fun x H1 => th σ H1 fun o H2 => ∃ a xs, x = .ref a ∧ SqT K H2 a xs ∧ (o = none ∨ o = some 0) ∧ Rd.NewQ (.tup (xs.drop (offs o)).reverse) Q H2) : tRevT K te th σ H Q := h
end Rz
namespace Rz
open PySem PySem.Spec PyProof.Rows L2
theorem slH {K : PySem.W.Frag} {H : Hp} {a : Addr} {xs : List V} {lo hi : Option Int} {Q : VK} (h : H a = some (.tup xs)) (k : ∀ (p : Addr) (G : Hp), Same H G → G p = some (.tup (cutV xs lo hi)) → Q (.ref p) G) : rSlA K (.ref a) lo hi H Q :=
  ⟨a, xs, rfl, .of h, fun w => k a H (Same.refl _) (by
    have : cutV xs lo hi = xs := by
      unfold cutV
      rw [w.1, w.2, List.drop_zero, Nat.sub_zero, List.take_length]
    rw [this]
    exact h), fun _ p n => k p _ (Rd.same_upd n) upd_same⟩
theorem catH {K : PySem.W.Frag} {H : Hp} {a b : Addr} {xs ys : List V} {Q : VK} (h1 : H a = some (.tup xs)) (h2 : H b = some (.tup ys)) (hz : xs.length + ys.length ≤ sizeLine) (k : ∀ (r : Addr) (G : Hp), Same H G → G r = some (.tup (xs ++ ys)) → Q (.ref r) G) : rCatA K (.ref a) (.ref b) H Q :=
  ⟨a, b, xs, ys, rfl, rfl, .of h1, .of h2, hz, fun e => k b H (Same.refl _) (by rw [e]; exact h2), fun _ e => k a H (Same.refl _) (by rw [e, List.append_nil]; exact h1), fun _ _ p n => k p _ (Rd.same_upd n) upd_same⟩
end Rz
namespace Rz
open PySem PySem.Spec PyProof.Rows L2
theorem rng2 {ta : TA} {σ : L2.St} {H : Hp} {R : It → Hp → Prop} (h : ta σ H fun vs H1 => ∃ i j : Int, vs = [.int i, .int j] ∧ (-(2 ^ 62) ≤ i ∧ i < 2 ^ 62 ∧ -(2 ^ 62) ≤ j ∧ j < 2 ^ 62) ∧ R (Itr i (j - i).toNat) H1) : iRng2 ta σ H R := h
end Rz

/-! Closures: a lambda with parameters that is handed to a def, and called there by the parameter's name. -/
namespace Rk
open PySem PySem.Spec PyProof.Rows L2 LamX NdefX
/-- what is known of the function at f, seen from a state s0: from any later state in which the frames fr and what was not tracked are kept, its call keeps the promise sp -/
structure Clo (P : Program) (w : World) (K : PySem.W.Frag) (mg : Str → Option Value) (base : Heap) (k : Nat) (fr : List Addr) (f : Addr) (s0 : Shared) (H0 : Hp) (sp : Sp) : Prop where
  ob : ∃ oc od fd sl, s0.heap.get? f = some (⟨oc, od, .func fd, sl⟩ : Obj)
  nt : H0 f = none
  nf : f ∉ fr
  run : ∀ (A : Around) (st : List Env) (s : Shared) (H : Hp) (us : List Value) (vs : List V) (Q : VK) (E : XK), Room k A → Env0 P w K mg base A st s H → Un fr [] H0 H s0.heap s.heap → Vals vs us → sp vs H Q E →
    codeAny (model P w) A (.call (.ref f) ⟨us, []⟩) (CR (L2.CX P w) st P w H s Q E) s
/-- the names of a lambda: its parameters, what it captures, globals -/
structure LamP (sc scope : Scope) (ps : List Str) : Prop where
  kind : scope.kind = .function
  co : scope.isCoroutine = false
  gen : scope.isGenerator = false
  nocell : ∀ y ∈ scope.names, y.2 ≠ .cell
  par : ∀ p ∈ ps, scope.names.lookup p = some .local
  loc : ∀ y ∈ scope.names, y.2 = .local → y.1 ∈ ps
  free : ∀ y ∈ scope.names, y.2 = .free → sc.names.lookup y.1 = some .cell ∨ sc.names.lookup y.1 = some .free
def lamPB (sc scope : Scope) (ps : List Str) : Bool :=
  decide (scope.kind = .function) && (!scope.isCoroutine && (!scope.isGenerator && ((scope.names.all fun y => !decide (y.2 = .cell)) && ((ps.all fun p => decide (scope.names.lookup p = some .local)) && ((scope.names.all fun y => !decide (y.2 = .local) || decide (y.1 ∈ ps)) &&
    scope.names.all fun y => !decide (y.2 = .free) || (decide (sc.names.lookup y.1 = some .cell) || decide (sc.names.lookup y.1 = some .free)))))))
theorem lamP_by {sc scope : Scope} {ps : List Str} (h : lamPB sc scope ps = true) : LamP sc scope ps := by
  unfold lamPB at h
  simp only [Bool.and_eq_true, Bool.or_eq_true, Bool.not_eq_true', decide_eq_true_eq, decide_eq_false_iff_not, List.all_eq_true] at h
  obtain ⟨h1, h2, h3, h4, h5, h6, h7⟩ := h
  exact ⟨h1, h2, h3, h4, h5, fun y m e => (h6 y m).resolve_left fun n => n e, fun y m e => (h7 y m).resolve_left fun n => n e⟩
section
variable {X : Cx} {pins : List (Addr × Obj)} {σ : L2.St} {H HZ : Hp} {s s1 : Shared} {ps : List Str}
theorem LamP.has {scope : Scope} (L : LamP X.env.scope scope ps) (ok : X.Ok) : ∀ y ∈ scope.names, y.2 = .free → ∃ c, X.env.cells.lookup y.1 = some c :=
  fun y m e => (L.free y m e).elim (fun k => ok.has _ (.inl k)) fun k => ok.has _ (.inr k)
/-- the slots in a lambda: the parameters' hold what was handed in, the others are the maker's -/
structure Slots (X : Cx) (ps : List Str) (us : List Value) (σ σ' : L2.St) : Prop where
  len : σ'.length = σ.length
  par : ∀ (i : Nat) (y : Str) (v : V), X.N[i]? = some y → σ'[i]? = some (some v) → y ∈ ps → ∃ u, RelV v u ∧ (ps.zip us).reverse.lookup y = some u
  old : ∀ (i : Nat) (y : Str) (v : V), X.N[i]? = some y → σ'[i]? = some (some v) → y ∉ ps → σ[i]? = some (some v)
theorem slots1 {p : Str} {j : Nat} {v : V} {u : Value} (nd : X.N.Nodup) (hj : X.N[j]? = some p) (r : RelV v u) : Slots X [p] [u] σ (σ.set j (some v)) := by
  have same : ∀ {i : Nat}, X.N[i]? = some p → j = i := fun {i} hi => by
    rcases Nat.lt_trichotomy j i with q | q | q
    · exact absurd (List.mem_of_getElem? (show (X.N.take i)[j]? = some p by rw [List.getElem?_take, if_pos q]; exact hj)) (Rd.nodup_take nd hi)
    · exact q
    · exact absurd (List.mem_of_getElem? (show (X.N.take j)[i]? = some p by rw [List.getElem?_take, if_pos q]; exact hi)) (Rd.nodup_take nd hj)
  refine ⟨List.length_set, fun i y w hi hw hy => ?_, fun i y w hi hw hy => ?_⟩
  · have hy : y = p := by simpa using hy
    subst hy
    cases same hi
    have l : j < σ.length := by
      rcases Nat.lt_or_ge j σ.length with l | l
      · exact l
      · rw [List.getElem?_eq_none (by rw [List.length_set]; exact l)] at hw
        cases hw
    rw [List.getElem?_set_self l] at hw
    cases hw
    exact ⟨u, r, by simp [List.lookup]⟩
  · have ne : j ≠ i := fun e => by
      subst e
      rw [hj] at hi
      cases hi
      exact hy (List.mem_singleton.mpr rfl)
    rw [List.getElem?_set_ne ne] at hw
    exact hw
def put1 (j : Nat) : L2.St → List V → L2.St := fun σ vs => match vs with
  | [v] => σ.set j (some v)
  | _ => σ
theorem hput1 {p : Str} {j : Nat} (nd : X.N.Nodup) (hj : X.N[j]? = some p) : ∀ (σ : L2.St) (vs : List V) (us : List Value), Vals vs us → us.length = [p].length → Slots X [p] us σ (put1 j σ vs) := fun σ vs us r l => by
  match us, l, vs, r with
  | [u], _, [v], .cons r .nil => exact slots1 nd hj r
/-- the lambda's body begins -/
theorem lam_begin {A : Around} {outer : List Env} {E : XK} {scope : Scope} {f c' : Addr} {h₁ : Heap} {tk : Nat} {us : List Value} {σ' : L2.St} (I : Inv X pins σ H s) (L : LamP X.env.scope scope ps) (S : Slots X ps us σ σ') (e0 : Env0 X.prog X.w X.K X.mg X.base A outer s1 HZ) (hd : A.handled = none)
    (un : Un (frs X.stack) [] H HZ s.heap s1.heap) (hns : h₁.Ns s1.heap.objs.size fun y => (ps.zip us).reverse.lookup y) (kp : ∀ b o, s1.heap.get? b = some o → h₁.get? b = some o) :
    Inv (lamCx X A outer s1 HZ E scope f c') [] σ' HZ { s1 with heap := h₁, toks := tk } := by
  have hfree := L.has I.ok
  have cm : ∀ {y c}, (cloFrom X.env.cells scope.names []).lookup y = some c → X.env.cells.lookup y = some c := fun e => clo_cm hfree e
  have look : ∀ {y}, scope.names.lookup y = some .free → ∃ c, (cloFrom X.env.cells scope.names []).lookup y = some c := fun {y} hl => by
    obtain ⟨c, hc⟩ := hfree _ (PySem.mem_of_lookup hl) rfl
    exact ⟨c, clo_has hfree (PySem.mem_of_lookup hl) hc⟩
  have cellK : ∀ {c : Addr} {v : Option Value}, H c = none → s.heap.IsCell c v → h₁.IsCell c v := fun {c v} n z => by
    obtain ⟨o, ho, hd⟩ := z
    obtain ⟨sl, q⟩ := un.any ho n List.not_mem_nil
    exact ⟨_, kp _ _ q, hd⟩
  have no : ∀ b : Addr, b ∉ (lamCx X A outer s1 HZ E scope f c').ex := fun b => List.not_mem_nil
  have nc : ∀ {y}, scope.names.lookup y = some .cell → False := fun hl => L.nocell _ (PySem.mem_of_lookup hl) rfl
  have okX : (lamCx X A outer s1 HZ E scope f c').Ok :=
    { mod := e0.mod, kind := L.kind, glob := rfl, blt := rfl, above := Nat.le_refl _,
      inj := fun y z c e1 e2 => I.ok.inj y z c (cm e1) (cm e2)
      has := fun y hy => hy.elim (fun h => (nc h).elim) look
      cab := fun y c z _ => by cases (show false = true from z)
      hd := fun _ => hd, frames := Around.frames_deeper e0.frames, stk := .inr ⟨rfl, rfl⟩, exf := fun b z => absurd z (no b), bs := e0.bs, bsz := e0.bsz, noex := fun b _ _ => no b, exfs := fun b z => absurd z (no b), funs := e0.funs, frf := e0.frf }
  refine { ok := okX, os := rfl, bare := e0.bare, base := Un.kept kp, loc := ⟨_, hns, fun i y v e1 e2 e3 => ?_⟩, cell := fun y c e => ?_, free := e0.hok.fresh (Nat.le_refl _), freeC := fun y c e => ?_, pin := fun q hq => absurd (show q ∈ ([] : List (Addr × Obj)) ++ [] from hq) (by simp), hok := e0.hok.kept kp, len := S.len.trans I.len }
  · have e3 : Vis scope y := e3
    rcases e3 with k | k | k
    · obtain ⟨u, r, q⟩ := S.par i y v e1 e2 (L.loc _ (PySem.mem_of_lookup k) rfl)
      exact ⟨u, r, .inl ⟨k, q⟩⟩
    · exact (nc k).elim
    · have ny : y ∉ ps := fun m => by
        have := L.par y m
        rw [k] at this
        cases this
      obtain ⟨m, hn, hl⟩ := I.loc
      have kx := L.free _ (PySem.mem_of_lookup k) rfl
      obtain ⟨u, r, q⟩ := hl i y v e1 (S.old i y v e1 e2 ny) (kx.elim (fun z => .inr (.inl z)) fun z => .inr (.inr z))
      obtain ⟨c2, h2⟩ := look k
      refine ⟨u, r, .inr ⟨.inr k, c2, h2, ?_⟩⟩
      rcases q with ⟨z, _⟩ | ⟨_, c3, e', z⟩
      · have z : X.env.scope.names.lookup y = some .local := z
        rcases kx with k2 | k2 <;> rw [show X.env.scope.names.lookup y = _ from k2] at z <;> cases z
      · rw [cm h2] at e'
        cases e'
        exact cellK (I.freeC y _ (cm h2)) z
  · obtain ⟨v, z⟩ := I.cell y c (cm e)
    exact ⟨v, cellK (I.freeC y c (cm e)) z⟩
  · obtain ⟨v, o, ho, _⟩ := I.cell y c (cm e)
    exact un.free c o ho (I.freeC y c (cm e)) List.not_mem_nil
/-- a lambda just made is a closure -/
theorem clo_of {f c' : Addr} {pm ctv : Value} {params : Arguments} {body : Expr} {scope : Scope} {k : Nat} {tb : TE} {put : List V → L2.St} (I : Inv X pins σ H s) (L : LamP X.env.scope scope ps)
    (hf : s.heap.get? f = some (PySem.W.kla_obj "<lambda>" (X.env.qual ++ "<lambda>") params body scope (cloFrom X.env.cells scope.names []) pm c' ctv)) (hfn : H f = none) (hfr : f ∉ frs X.stack)
    (hbind : ∀ us : List Value, us.length = ps.length → bindArgs (PySem.W.kla_fn "<lambda>" (X.env.qual ++ "<lambda>") params body scope (cloFrom X.env.cells scope.names []) pm (.ref c') ctv) ⟨us, []⟩ = pure (ps.zip us))
    (hput : ∀ vs us, Vals vs us → us.length = ps.length → Slots X ps us σ (put vs))
    (hbody : ∀ (A : Around) (outer : List Env) (s : Shared) (H : Hp) (E : XK), Room k (A.deeper (lamEnv X scope s.heap.objs.size f c')) → PE (lamCx X A outer s H E scope f c') body tb) :
    Clo X.prog X.w X.K X.mg X.base (k + 1) (frs X.stack) f s H (fun vs HZ Q E => vs.length = ps.length ∧ HZ c' = some (CodeO c' (X.env.qual ++ "<lambda>")) ∧ tb (put vs) HZ Q) := by
  refine ⟨⟨_, _, _, _, hf⟩, hfn, hfr, ?_⟩
  rintro A st s1 HZ us vs Q E hr e0 un r ⟨lv, hc, ht⟩
  have lu : us.length = ps.length := r.length.symm.trans lv
  have of1 := un.keep f _ hf hfn hfr List.not_mem_nil
  obtain ⟨⟨oc, zs, t, hoc, hdc, hvc⟩, _, _⟩ := e0.hok c' _ hc
  refine PySem.W.kla_callFunE hr.depth of1 rfl L.co L.gen rfl ⟨c', oc, zs, t, rfl, hoc, hdc, hvc⟩ ?_
  rw [hbind us lu]
  refine wpAny_pure (wpAny_newFunctionEnv (fun y hy => L.nocell y hy) (fun y hy => L.par _ (List.of_mem_zip hy).1) (fun h₁ hns hsb => ⟨(e0.mod.nolimit.keeps fun b o e => (e0.bs b o e).1).fresh _ hsb, ?_⟩) L.kind)
  show codeAny _ _ (.expr body (lamEnv X scope s1.heap.objs.size f c')) _ _
  have kp : ∀ b o, s1.heap.get? b = some o → h₁.get? b = some o := fun b o e => hsb.extBut b o (Nat.ne_of_lt (Heap.lt_size e)) (Heap.get?_push_of_some _ e)
  have J : Inv (lamCx X A st s1 HZ E scope f c') [] (put vs) HZ { s1 with heap := h₁, toks := s1.toks + (ps.zip us).length } := lam_begin I L (hput vs us r lu) e0 hr.hd un hns kp
  refine PySem.W.kla_codeExpr (wpAny_mono ((hbody A st s1 HZ E (hr.deeper _)).run [] _ _ HZ Q J ht) (fun v s' hq => ?_) fun e s' hq => hq)
  obtain ⟨v', H', J', rv, q⟩ := hq
  exact ⟨v', H', J'.os, J'.bare, J'.base, J'.hok, rv, q⟩
end
/-! ### the def that is handed a closure -/
structure FnC (P : Program) (w : World) (K : PySem.W.Frag) (mg : Str → Option Value) (base : Heap) (k : Nat) (f : Addr) (fd : FuncData) (ps : List Str) (kc : Nat) (sp : (Addr → Sp → Prop) → Sp) : Prop where
  len : ∀ C vs H Q E, sp C vs H Q E → vs.length = ps.length
  run : ∀ (A : Around) (st : List Env) (s : Shared) (H : Hp) (ag : Args) (us : List Value) (vs : List V) (Q : VK) (E : XK), Room k A → Env0 P w K mg base A st s H → BindsTo s fd ag (ps.zip us) → Vals vs us →
    sp (fun fa spf => Clo P w K mg base kc (frs st) fa s H spf) vs H Q E → codeAny (model P w) A (.call (.ref f) ag) (CR CX0 st P w H s Q E) s
section
variable {P : Program} {w : World} {K : PySem.W.Frag} {mg : Str → Option Value} {base : Heap}
/-- such a def by its body -/
theorem okC {x qual : Str} {st : Stmt} {f : Addr} {fd : FuncData} {N ps : List Str} {k kc : Nat} {sp : (Addr → Sp → Prop) → Sp} (F : Fun K x qual st f fd) (S : FnScope N ps (defScope st)) (len : ∀ C vs H Q E, sp C vs H Q E → vs.length = ps.length)
    (hb : ∀ (cdv : Value) (A : Around) (out : List Env) (s : Shared) (H : Hp) (vs : List V) (Q : VK) (E : XK), Room k (A.deeper (envOfC qual (defScope st) s.heap.objs.size f cdv)) → sp (fun fa spf => Clo P w K mg base kc (frs out) fa s H spf) vs H Q E →
      ∃ t, PSs (cxOf CX0 P w K mg base N qual (defScope st) f cdv A out s H E).nox (defBody st) t ∧ t { nx := fun _ H' => Q .non H', rt := Q } (start N vs) H) : FnC P w K mg base (k + 1) f fd ps kc sp := by
  obtain ⟨_, _, _, _, _, _, cdv, _, _, rfl, lk, hcd⟩ := F.ex
  refine ⟨len, fun A out s H ag us vs Q E hr e0 hbd r h => ?_⟩
  exact run_ofS lk hcd S hr e0 hbd r (len _ _ _ _ _ h) fun hr' => let ⟨t, p, q⟩ := hb cdv A out s H vs Q E hr' h; ⟨t, p.nox, q⟩
end
/-- x(e, ..), x a parameter that holds a closure -/
def tClo (C : Addr → Sp → Prop) (i : Nat) (E : XK) (t : TA) : TE := fun σ H Q => ∃ f spf, σ[i]? = some (some (.ref f)) ∧ C f spf ∧ t σ H fun vs H1 => spf vs H1 Q E
section
variable {X : Cx} {k kc i : Nat} {x : Str} {E : XK} {t : TA} {e : Expr} {es : List Expr} {p pos : Pos}
theorem pe_clo (hr : Room k X.A) (hk : kc ≤ k) (hex : X.ex = []) (hx : Passes (L2.CX X.prog X.w) X E) (hN : X.N[i]? = some x) (hv : Vis X.env.scope x) (ha : PA X (e :: es) t)
    (hd : (x == ("__debug__" : Str)) = false := by decide) (hcd : (x == ("__classdict__" : Str)) = false := by decide)
    (he : starEach (e :: es) X.env = (false, eval e X.env) :: starEach es X.env := by rfl) (hpl : (backTo pos (starEach es X.env)).any (·.1) = false := by rfl) :
    PE X (.Call (.Name x p) (e :: es) [] pos) (tClo (fun f spf => Clo X.prog X.w X.K X.mg X.base kc X.fs f X.s_0 X.H_0 spf) i E t) := by
  refine ⟨fun pins s σ H Q I h => ?_⟩
  obtain ⟨f, spf, hs, C, ht⟩ := h
  have at_ : ∀ {s H σ}, Inv X pins σ H s → PySem.W.FnAt f s.heap := fun J => by
    obtain ⟨oc, od, fd, sl, ho⟩ := C.ob
    exact ⟨_, _, _, _, J.base.keep f _ ho C.nt C.nf (by rw [hex]; exact List.not_mem_nil)⟩
  refine wpAny_Call_Name_kw (thn ((pe_var (pos := p) hN hv hd hcd).run pins s σ H (fun v H1 => v = .ref f ∧ H1 = H) I ⟨.ref f, hs, rfl, rfl⟩) fun u s1 ⟨v, H1, I1, r1, q1⟩ => ?_)
  obtain ⟨ev, eH⟩ := q1
  subst ev
  rw [eH] at I1
  obtain rfl : u = Value.ref f := r1
  refine PySem.W.callWith_F (first := []) (at_ I1) (thn (ha.run pos pins s1 σ H _ I1 ht) fun us s2 ⟨vs, H2, I2, r, q⟩ => ⟨at_ I2, ?_⟩) he hpl
  have un : Un X.fs [] X.H_0 H2 X.s_0.heap s2.heap := hex ▸ I2.base
  refine wpAny_call (codeAny_mono (C.run X.A X.stack s2 H2 us vs Q E (hr.mono hk) I2.env0 un r q) fun r s' z => ?_)
  match r, z with
  | .error v, z => exact hx pins σ H2 s2 v s' I2 z
  | .ok (.ret u), z => exact I2.after z
  | .ok .next, z => exact z.elim
  | .ok .brk, z => exact z.elim
  | .ok .cont, z => exact z.elim
end
/-! ### the def that makes the lambda -/
/-- the reading of arguments of which the last is a lambda -/
abbrev TL := L2.St → Hp → ((Addr → Sp → Prop) → List V → Hp → Prop) → Prop
structure PL (X : Cx) (kc : Nat) (es : List Expr) (t : TL) : Prop where
  run : ∀ (pos : Pos) (pins : List (Addr × Obj)) (s : Shared) (σ : L2.St) (H : Hp) (R : (Addr → Sp → Prop) → List V → Hp → Prop), Inv X pins σ H s → t σ H R →
    wpAny (model X.prog X.w) X.A (spliced (backTo pos (starEach es X.env))) (fun us s1 => ∃ vs H1, Inv X pins σ H1 s1 ∧ Vals vs us ∧ R (fun f sp => Clo X.prog X.w X.K X.mg X.base kc (frs X.stack) f s1 H1 sp) vs H1) X.xe s
def tlCons (te : TE) (t : TL) : TL := fun σ H R => te σ H fun v H1 => t σ H1 fun C vs H2 => R C (v :: vs) H2
def tlLam (T : List (Addr × Str)) (q : Str) (n : Nat) (tb : TE) (put : L2.St → List V → L2.St) : TL := fun σ H R => Tabs T H ∧ ∀ (f c' : Addr) (H2 : Hp) (C : Addr → Sp → Prop), ExtN H H2 → Tabs T H2 → H2 c' = some (CodeO c' q) →
  C f (fun vs HZ Q _ => vs.length = n ∧ HZ c' = some (CodeO c' q) ∧ tb (put σ vs) HZ Q) → R C [.ref f] H2
/-- x(e, .., lambda p: body) -/
def tCallL (sp : (Addr → Sp → Prop) → Sp) (E : XK) (t : TL) : TE := fun σ H Q => t σ H fun C vs H1 => sp C vs H1 Q E
section
variable {X : Cx} {T : List (Addr × Str)} {k kc kb : Nat} {x : Str} {g c P : Addr} {fd : FuncData} {ps lp : List Str} {sp : (Addr → Sp → Prop) → Sp} {E : XK} {te tb : TE} {t : TL} {e body : Expr} {es : List Expr} {params : Arguments} {scope : Scope} {p lpos pos : Pos} {put : L2.St → List V → L2.St}
theorem pl_cons (he : PE X e te) (h : PL X kc es t) (hs : starEach (e :: es) X.env = (false, eval e X.env) :: starEach es X.env := by rfl) : PL X kc (e :: es) (tlCons te t) := by
  refine ⟨fun pos pins s σ H R I q => ?_⟩
  rw [hs]
  exact Calls.spliced_cons (thn (he.run pins s σ H _ I q) fun u s1 ⟨v, H1, I1, r1, q1⟩ => thn (h.run pos pins s1 σ H1 _ I1 q1) fun us s2 ⟨vs, H2, I2, r2, q2⟩ => ⟨v :: vs, H2, I2, .cons r1 r2, q2⟩)
theorem pl_lam (TB : TabB X.base X.mg c P) (hcode : X.env.code = .ref c) (hmT : (P, X.env.qual ++ "<lambda>") ∈ T) (hu : ∀ p ∈ T, p.1 = P → p.2 = X.env.qual ++ "<lambda>") (L : LamP X.env.scope scope lp) (hdef : defaultsOf params X.env = ([], [])) (hkc : kc = kb + 1)
    (hbind : ∀ (q : Str) (cl : List (Str × Addr)) (pm cv ctv : Value) (us : List Value), us.length = lp.length → bindArgs (PySem.W.kla_fn "<lambda>" q params body scope cl pm cv ctv) ⟨us, []⟩ = pure (lp.zip us))
    (hput : ∀ (σ : L2.St) vs us, Vals vs us → us.length = lp.length → Slots X lp us σ (put σ vs))
    (hbody : ∀ (A : Around) (outer : List Env) (s : Shared) (H : Hp) (E : XK) (f c' : Addr), Room kb (A.deeper (lamEnv X scope s.heap.objs.size f c')) → PE (lamCx X A outer s H E scope f c') body tb) :
    PL X kc [.Lambda params body scope lpos] (tlLam T (X.env.qual ++ "<lambda>") lp.length tb put) := by
  subst hkc
  refine ⟨fun pos pins s σ H R I h => ?_⟩
  obtain ⟨hT, h⟩ := h
  show wpAny _ _ (spliced ((false, eval (.Lambda params body scope lpos) X.env) :: backTo pos (starEach [] X.env))) _ _ s
  refine Calls.spliced_cons (lam_make2 I TB hcode hmT hu hT hdef (L.has I.ok) fun f c' pm' ctv H1 s' I1 eN T1 hf hfn hfr hco => ?_)
  refine Calls.spliced_nil ⟨[.ref f], H1, I1, .cons rfl .nil, h f c' H1 _ eN T1 hco ?_⟩
  have C := clo_of (put := put σ) I1 L hf hfn hfr (hbind _ _ _ _ _) (hput σ) fun A outer s H E hr => hbody A outer s H E f c' hr
  exact C
theorem pe_callL (F : FnC X.prog X.w X.K X.mg X.base k g fd ps kc sp) (hr : Room k X.A) (hg : Gl X x) (hm : X.mg x = some (.ref g)) (hk : PySem.W.keepIn X.K (.ref g) = true) (hb : L2.Binds X.K fd ps []) (hx : Passes CX0 X E) (ha : PL X kc (e :: es) t)
    (hdb : (x == ("__debug__" : Str)) = false := by decide) (he : starEach (e :: es) X.env = (false, eval e X.env) :: starEach es X.env := by rfl) (hpl : (backTo pos (starEach es X.env)).any (·.1) = false := by rfl) :
    PE X (.Call (.Name x p) (e :: es) [] pos) (tCallL sp E t) := by
  refine ⟨fun pins s σ H Q I h => ?_⟩
  refine wpAny_Call_Name_kw (ld_glob I hg hm ?_ hdb)
  refine PySem.W.callWith_K (h₀ := X.base) I.ok.mod.kin hk (thn (ha.run pos pins s σ H _ I h) fun us s1 ⟨vs, H1, I1, r, q⟩ => ⟨I1.kIn, ?_⟩) he hpl
  have hl : (us ++ []).length = ps.length := by rw [List.append_nil, ← r.length]; exact F.len _ _ _ _ _ q
  have b := hb s1 us I1.kIn hl
  rw [List.append_nil] at b
  refine wpAny_call (codeAny_mono (F.run X.A X.stack s1 H1 ⟨us, []⟩ us vs Q E hr I1.env0 b r q) fun r s' z => ?_)
  match r, z with
  | .error v, z => exact hx pins σ H1 s1 v s' I1 z
  | .ok (.ret u), z => exact I1.after z
  | .ok .next, z => exact z.elim
  | .ok .brk, z => exact z.elim
  | .ok .cont, z => exact z.elim
end
/-! ### a maker of lambdas by its body: its code object is the one at c -/
section
variable {P : Program} {w : World} {K : PySem.W.Frag} {mg : Str → Option Value} {base : Heap}
theorem okM {x qual : Str} {st : Stmt} {f c : Addr} {fd : FuncData} {N ps : List Str} {k : Nat} {sp : Sp} (F : Fun K x qual st f fd) (hc : fd.code = .ref c) (S : FnScope N ps (defScope st)) (len : ∀ vs H Q E, sp vs H Q E → vs.length = ps.length)
    (hb : ∀ (A : Around) (out : List Env) (s : Shared) (H : Hp) (vs : List V) (Q : VK) (E : XK), Room k (A.deeper (envOfC qual (defScope st) s.heap.objs.size f (.ref c))) → sp vs H Q E →
      ∃ t, PSs (cxOf (L2.CX P w) P w K mg base N qual (defScope st) f (.ref c) A out s H E) (defBody st) t ∧ t { nx := fun _ H' => Q .non H', rt := Q } (start N vs) H) : FnOk P w K mg base (L2.CX P w) (k + 1) f fd ps sp := by
  obtain ⟨_, _, _, _, _, _, cdv, _, _, rfl, lk, hcd⟩ := F.ex
  have e : cdv = .ref c := hc
  subst e
  exact fn_of lk hcd S len fun A out s H vs Q E hr h => hb A out s H vs Q E hr h
end
theorem u65 {k : Nat} {A : PySem.Around} (h : L2.Room k A) : A.units + 65 < PySem.cLine := by have := h.un; omega
section
variable {σ : L2.St} {H : Hp}
theorem callL {sp : (Addr → Sp → Prop) → Sp} {E : XK} {t : TL} {Q : VK} (h : t σ H fun C vs H1 => sp C vs H1 Q E) : tCallL sp E t σ H Q := h
theorem lcons {te : TE} {t : TL} {R : (Addr → Sp → Prop) → List V → Hp → Prop} (h : te σ H fun v H1 => t σ H1 fun C vs H2 => R C (v :: vs) H2) : tlCons te t σ H R := h
theorem llam {T : List (Addr × Str)} {q : Str} {n : Nat} {tb : TE} {put : L2.St → List V → L2.St} {R : (Addr → Sp → Prop) → List V → Hp → Prop} (hT : Tabs T H) (h : ∀ (f c' : Addr) (H2 : Hp) (C : Addr → Sp → Prop), ExtN H H2 → Tabs T H2 → H2 c' = some (CodeO c' q) →
  C f (fun vs HZ Q _ => vs.length = n ∧ HZ c' = some (CodeO c' q) ∧ tb (put σ vs) HZ Q) → R C [.ref f] H2) : tlLam T q n tb put σ H R := ⟨hT, h⟩
theorem seq_ext {K : PySem.W.Frag} {H H' : Hp} (e : ExtN H H') {a : Addr} {xs : List V} (h : SqL K H a xs) : SqL K H' a xs := by
  rcases h with (h | ⟨o, h⟩) | h
  · exact .inl (.inl (e _ _ h fun _ q => nomatch q))
  · exact .inl (.inr ⟨o, e _ _ h fun _ q => nomatch q⟩)
  · exact .inr h
theorem tup_ext {K : PySem.W.Frag} {H H' : Hp} (e : ExtN H H') {a : Addr} {xs : List V} (h : SqT K H a xs) : SqT K H' a xs := by
  rcases h with (h | ⟨o, h⟩) | h
  · exact .inl (.inl (e _ _ h fun _ q => nomatch q))
  · exact .inl (.inr ⟨o, e _ _ h fun _ q => nomatch q⟩)
  · exact .inr h
theorem row_ext {K : PySem.W.Frag} {H H' : Hp} (e : ExtN H H') {a : Addr} {xs : List V} (h : Ru.SqR K H a xs) : Ru.SqR K H' a xs := h.imp (seq_ext e) (tup_ext e)
theorem row_same {K : PySem.W.Frag} {H H' : Hp} (s : Same H H') {a : Addr} {xs : List V} (h : Ru.SqR K H a xs) : Ru.SqR K H' a xs := h.imp s.seq (Ru.same_tup s)
theorem lst_ext {H H' : Hp} (e : ExtN H H') {a : Addr} {xs : List V} (h : H a = some (.lst xs)) : H' a = some (.lst xs) := e _ _ h fun _ q => nomatch q
theorem tp_ext {H H' : Hp} (e : ExtN H H') {a : Addr} {xs : List V} (h : H a = some (.tup xs)) : H' a = some (.tup xs) := e _ _ h fun _ q => nomatch q
theorem ins_ext {H H' : Hp} (e : ExtN H H') {a C dx : Addr} {fs : List (Str × V)} (h : H a = some (.ins C dx fs)) : H' a = some (.ins C dx fs) := e _ _ h fun _ q => nomatch q
theorem ext_same {H H1 H2 : Hp} (e : ExtN H H1) (s : Same H1 H2) : ExtN H H2 := e.trans (ExtN.of s)
theorem same_ext {H H1 H2 : Hp} (s : Same H H1) (e : ExtN H1 H2) : ExtN H H2 := (ExtN.of s).trans e
end
theorem catA {K : PySem.W.Frag} {H : Hp} {a b : Addr} {xs ys : List V} {Q : VK} (h1 : SqT K H a xs) (h2 : SqT K H b ys) (hy : ys ≠ []) (hz : xs.length + ys.length ≤ sizeLine) (k : ∀ (r : Addr) (G : Hp), Same H G → SqT K G r (xs ++ ys) → Q (.ref r) G) : rCatA K (.ref a) (.ref b) H Q :=
  ⟨a, b, xs, ys, rfl, rfl, h1, h2, hz, fun e => k b H (Same.refl _) (by rw [e]; exact h2), fun _ e => absurd e hy, fun _ _ p n => k p _ (Rd.same_upd n) (.of upd_same)⟩
/-- all but lists are kept -/
def NoL (H H' : Hp) : Prop := ∀ b o, H b = some o → (∀ xs, o ≠ .lst xs) → H' b = some o
theorem NoL.same {H H' : Hp} (s : Same H H') : NoL H H' := fun b o e _ => s b o e
theorem NoL.off {H H' : Hp} {l : Addr} {xs : List V} (h : H l = some (.lst xs)) (off : ∀ b, b ≠ l → H' b = H b) : NoL H H' := fun b o e n => by
  rw [off b fun q => n xs (by rw [q, h] at e; exact (Option.some.inj e).symm)]
  exact e
theorem NoL.but {H H' : Hp} {t : Addr} {xs : List V} (h : H t = some (.lst xs)) (b : Rd.But t H H') : NoL H H' := fun a o e n => by
  exact b a o (fun q => n _ (by rw [q, h] at e; exact (Option.some.inj e).symm)) e
theorem NoL.trans {H H1 H2 : Hp} (a : NoL H H1) (b : NoL H1 H2) : NoL H H2 := fun x o e n => b x o (a x o e n) n
theorem NoL.tup {H H' : Hp} (n : NoL H H') {a : Addr} {xs : List V} (h : H a = some (.tup xs)) : H' a = some (.tup xs) := n _ _ h fun _ q => nomatch q
theorem NoL.ins {H H' : Hp} (n : NoL H H') {a C dx : Addr} {fs : List (Str × V)} (h : H a = some (.ins C dx fs)) : H' a = some (.ins C dx fs) := n _ _ h fun _ q => nomatch q
theorem tabs_nol {T : List (Addr × Str)} {H H' : Hp} (t : Tabs T H) (e : NoL H H') : Tabs T H' := fun p hp => by
  obtain ⟨ps, h1, h2, h3⟩ := t p hp
  refine ⟨ps, (e _ _ h1 fun _ q => nomatch q), h2, fun pos cv hc => ?_⟩
  obtain ⟨c, e1, e2⟩ := h3 pos cv hc
  exact ⟨c, e1, e _ _ e2 fun xs q => by
    unfold CodeO at q
    cases q⟩
/-- enumerate(list), in a comprehension -/
theorem walk_enum {K : PySem.W.Frag} {a : Addr} {xs : List V} : Walk (Ite K a) xs.length (fun H => SqL K H a xs) (fun i H v H' => ∃ T x, v = .ref T ∧ H T = none ∧ H' = upd H T (.tup [.int (i : Nat), x]) ∧ xs[i]? = some x) where
  goes i H l h := ⟨xs, xs[i], h, List.getElem?_eq_getElem l⟩
  stops H h := ⟨xs, h, Nat.le_refl _⟩
  yields i H v H' l h y := by
    obtain ⟨T, x, rfl, hT, rfl, q⟩ := y
    exact ⟨T, x, rfl, hT, rfl, q xs h⟩
/-- the table of a code object of the part K -/
theorem tab_K {K : PySem.W.Frag} {h : Heap} {c P : Addr} (X : K.In h) (e : PySem.W.codeHdIn K c P = true) : PySem.W.CodeHd h c P := PySem.W.codeHd_of_K X e
end Rk

/-! enumerate of a text. -/
namespace Bs
open PySem PyProof.Rows
open PySem.AutoSeq1 (wpAny_loadPart')
def tObj (x : Str) (t : Tok) : Obj := { cls := .type (strIterType x), data := .fields #[.str x t, .int 0 0] }
def eObj (n : Nat) : Obj := { cls := .type "enumerate", data := .fields #[.none, .bool false, .ref n, rawInt 0, .none, .none] }
theorem meets_enum_text (x : Str) (t : Tok) :
    Meets (Builtin.«enumerate.__new__» ⟨[.type "enumerate", .str x t], []⟩) (fun _ R s =>
      R (.ok (.ret (.ref (s.heap.push (tObj x t)).objs.size))) { s with heap := (s.heap.push (tObj x t)).push (eObj s.heap.objs.size) }) :=
  .of_wp fun prog w A R s h => by
    obtain ⟨hp, g, d, tk, os⟩ := s
    have hsub := sub_enumerate
    have q1 : ∀ {A' : Around} {E : Value → Shared → Prop} {Q : Value → Shared → Prop}, Q (.ref hp.objs.size) ⟨(hp.push (tObj x t)), g, d, tk, os⟩ → wpAny (model prog w) A' (pyIter (.str x t)) Q E ⟨hp, g, d, tk, os⟩ :=
      fun q => (begins_text x t).iter prog w _ _ ⟨hp, g, d, tk, os⟩ _ trivial q
    wp_walk using q1
    refine wpAny_stack_any fun st => wpAny_pure ?_
    split
    · rename_i c _ _ _ _ _
      cases (c == Value.type "enumerate")
      · wp_walk using q1
        exact ⟨_, rfl, h⟩
      · wp_walk using q1
        exact ⟨_, rfl, h⟩
    · wp_walk using q1
      exact ⟨_, rfl, h⟩
section
variable {prog : Program} {w : World} {A : Around} {E : Value → Shared → Prop} {s : Shared}
theorem call_enum_text {x : Str} {t : Tok} {Q : Value → Shared → Prop}
    (h : ∀ h', IsEnum h' (s.heap.objs.size + 1) s.heap.objs.size 0 .none → h'.IsStrIter s.heap.objs.size (strIterType x) x t 0 → h'.objs.size = s.heap.objs.size + 2 → (∀ b o, s.heap.get? b = some o → h'.get? b = some o) → Q (.ref (s.heap.objs.size + 1)) { s with heap := h' }) :
    wpAny (model prog w) A (call (.type "enumerate") [.str x t]) Q E s := by
  refine callType_new F.called_enumerate (by decide) (F.typeCall_enumerate_1 _) (F.newCall_enumerate_1 _) (fun obj => F.args_object_init_2 obj _) F.entry_enumerate_new (meets_enum_text x t) ?_
  have hz : (s.heap.push (tObj x t)).objs.size = s.heap.objs.size + 1 := Heap.size_push ..
  show _ ∧ _
  rw [hz]
  have he : IsEnum ((s.heap.push (tObj x t)).push (eObj s.heap.objs.size)) (s.heap.objs.size + 1) s.heap.objs.size 0 .none := by
    have q := Heap.get?_push_size (s.heap.push (tObj x t)) (o := eObj s.heap.objs.size) rfl
    rw [hz] at q
    exact q
  exact ⟨⟨_, he, rfl⟩, h _ he ⟨_, Heap.get?_push_of_some _ (Heap.get?_push_size _ rfl), rfl, rfl⟩ (by rw [Heap.size_push, hz]) fun b o x => Heap.get?_push_of_some _ (Heap.get?_push_of_some _ x)⟩
end
end Bs
namespace Bs
open PySem PySem.Spec PyProof.Rows L2
/-- enumerate of a text: each sign in a new pair -/
def IteS (x : Str) : It :=
  ⟨fun i H => i < x.cps.size, fun i H v H' => ∃ T c, v = .ref T ∧ H T = none ∧ H' = upd H T (.tup [.int (i : Nat), .str ⟨#[c]⟩]) ∧ x.cps[i]? = some c, fun i H => x.cps.size = i⟩
theorem turn_enumS {P : Program} {w : World} {K : PySem.W.Frag} {elts : List Expr} {kk : Nat} {tpos : Pos} (x : Str) (t : Tok) (e it : Addr) :
    Turn P w K (.Tuple elts kk tpos) (IteS x) [e, it] e (fun i h => (∃ old, IsEnum h e it ((i : Nat) : Int) old) ∧ h.IsStrIter it (strIterType x) x t i ∧ e ≠ it) where
  mem := by simp
  obj := fun i h st b hb => by
    obtain ⟨⟨old, he⟩, ⟨o, ho, hc, hd⟩, _⟩ := st
    have z : b = e ∨ b = it := by simpa using hb
    rcases z with z | z
    · rw [z]; exact ⟨_, he, fun v q => nomatch q⟩
    · rw [z]; exact ⟨o, ho, fun v q => by rw [hd] at q; cases q⟩
  keep := fun i h h' st k => let ⟨⟨old, he⟩, ⟨o, ho, r⟩, hne⟩ := st; ⟨⟨old, k e (by simp) _ he⟩, ⟨o, k it (by simp) o ho, r⟩, hne⟩
  item := by
    intro X hP hw hK hc i pins s σ H E I hf st hg
    subst hP hw hK
    obtain ⟨⟨old, he⟩, hit, hne⟩ := st
    have hel : e < s.heap.objs.size := Heap.lt_size he
    have hil : it < s.heap.objs.size := by obtain ⟨_, q, _⟩ := hit; exact Heap.lt_size q
    refine wpAny_pyNext_enum_itemD (Draws.text (prog := X.prog) (w := X.w) (A := X.A.in1) (I.ok.hd hc) it x t) he hit hg hne (by simp [hne]) fun y h' tk hy ho st' hT hsz hk => ?_
    obtain ⟨c, u, hcx, rfl⟩ := hy
    refine ⟨_, rfl, wpAny_letOwnedTupleGo_enum (s := { s with heap := h', toks := tk + 1 }) ho fun h'' he' sb => ?_⟩
    have hT2 : h''.get? s.heap.objs.size = some { cls := .type "tuple", data := .seq #[.int i tk, .str ⟨#[c]⟩ u] } := (sb.2 _ (Nat.ne_of_gt hel)).trans hT
    have new : ObjOk X.prog X.w (upd H s.heap.objs.size (.tup [.int (i : Nat), .str ⟨#[c]⟩])) h'' s.heap.objs.size (.tup [.int (i : Nat), .str ⟨#[c]⟩]) :=
      ⟨by show 2 ≤ sizeLine; decide, [.int i tk, .str ⟨#[c]⟩ u], .cons ⟨_, rfl⟩ (.cons ⟨u, rfl⟩ .nil), ⟨_, hT2, rfl, _, rfl⟩⟩
    have I1 : Inv X pins σ (upd H s.heap.objs.size (.tup [.int (i : Nat), .str ⟨#[c]⟩])) { s with heap := h'', toks := tk + 1 } :=
      I.turnedNew (ch := [e, it]) (fun b ob hb q => (sb.2 b (fun z => hb (by simp [z]))).trans (hk b ob (fun z => hb (by simp [z])) (fun z => hb (by simp [z])) q)) hf (Nat.le_refl _) new
    refine ⟨.ref s.heap.objs.size, _, I1, rfl, ⟨_, c, rfl, I.hok.fresh (Nat.le_refl _), rfl, hcx⟩, ⟨⟨.str ⟨#[c]⟩ u, ?_⟩, ?_, hne⟩, fun b hb => ?_⟩
    · have e1 : ((i + 1 : Nat) : Int) = (i : Int) + 1 := by omega
      rw [e1]; exact he'
    · obtain ⟨o, q, r⟩ := st'
      exact ⟨o, (sb.2 it (Ne.symm hne)).trans q, r⟩
    · have hb' : b < s.heap.objs.size := by
        have z : b = e ∨ b = it := by simpa using hb
        rcases z with z | z
        · rw [z]; exact hel
        · rw [z]; exact hil
      rw [upd_ne (Nat.ne_of_lt hb')]
      exact (hf b hb).1
  done := by
    intro X hP hw hK hc i pins s σ H E I hf st hg
    subst hP hw hK
    obtain ⟨⟨old, he⟩, hit, hne⟩ := st
    obtain ⟨f0, f1, f2, f3, f4, f5⟩ := hf it (by simp)
    subst hg
    refine wpAny_pyNext_enum_endD (Draws.text (prog := X.prog) (w := X.w) (A := X.A.in1) (I.ok.hd hc) it x t) he hit fun h' eb => ⟨rfl, ?_⟩
    · obtain ⟨g0, g1, g2, g3, g4, g5⟩ := hf e (by simp)
      exact I.turned (t' := s.toks) (fun b o hb q => eb b o hb q) f0 f1 f3 f4 f5
  self := fun A i s Q E st h => let ⟨⟨_, he⟩, _⟩ := st; wpAny_pyIter_enum he h
def iEnumS (ta : TA) : TI := fun σ H R => ta σ H fun vs H1 => ∃ x : Str, vs = [.str x] ∧ R (IteS x) H1
theorem pi_enumS {X : Cx} {e : Expr} {ta : TA} {p pos tpos : Pos} {elts : List Expr} {kk : Nat} (hg : Gl X "enumerate") (hm : X.mg "enumerate" = none) (ha : PA X [e] ta) (hs : starEach [e] X.env = [(false, eval e X.env)] := by rfl) :
    PI X (.Tuple elts kk tpos) (.Call (.Name "enumerate" p) [e] [] pos) (iEnumS ta) := by
  refine ⟨fun pins s σ H R I h => ?_⟩
  refine Call_ (ld_blt I hg hm boot_enumerate (PyProof.Rows.callWith_type1 (thn (ha.run pos pins s σ H _ I h) fun us s1 ⟨vs, H1, I1, r1, q1⟩ => ?_) hs rfl))
  obtain ⟨x, ex, q⟩ := q1
  subst ex
  cases r1 with
  | cons r rr =>
    cases rr
    obtain ⟨t, rfl⟩ := r
    refine call_enum_text fun h' he hit hsz hk => wpAny_pyIter_enum he ?_
    have I2 : Inv X pins σ H1 { s1 with heap := h' } := I1.kept (t' := s1.toks) hk
    refine ⟨s1.heap.objs.size + 1, [s1.heap.objs.size + 1, s1.heap.objs.size], _, _, H1, rfl, I2, turn_enumS x t (s1.heap.objs.size + 1) s1.heap.objs.size, ⟨⟨.none, he⟩, hit, Nat.succ_ne_self _⟩, fun b hb => ?_, q⟩
    have z : b = s1.heap.objs.size + 1 ∨ b = s1.heap.objs.size := by simpa using hb
    have hle : s1.heap.objs.size ≤ b := by
      rcases z with z | z
      · rw [z]; exact Nat.le_add_right _ _
      · rw [z]; exact Nat.le_refl _
    exact I1.fpOk hle (I1.hok.fresh hle)
/-- a loop over enumerate of a text -/
theorem for_enumS {x : Str} {g : TG} {tb : TS} {D : Ends} {σ : L2.St} {H : Hp} (Pv : Nat → L2.St → Hp → Prop) (h0 : Pv 0 σ H)
    (hs : ∀ i c σ H (T : Addr), x.cps[i]? = some c → Pv i σ H → H T = none → g (.ref T) σ (upd H T (.tup [.int (i : Nat), .str ⟨#[c]⟩])) fun σ2 H2 => tb { D with nx := Pv (i + 1), ct := Pv (i + 1), bk := D.nx } σ2 H2) (hd : ∀ σ H, Pv x.length σ H → D.nx σ H) :
    ∃ W : Nat → Nat → L2.St → Hp → Prop, (∃ m, W 0 m σ H) ∧ ∀ i m σ H, W i m σ H →
      ((IteS x).stop i H ∧ D.nx σ H) ∨ ((IteS x).go i H ∧ ∃ N : L2.St → Hp → Prop, (∀ σ' H', N σ' H' → ∃ m', m' < m ∧ W (i + 1) m' σ' H') ∧ ∀ v H', (IteS x).yld i H v H' → g v σ H' fun σ2 H2 => tb { D with nx := N, ct := N, bk := D.nx } σ2 H2) := by
  refine ⟨fun i m σ H => m = x.length - i ∧ i ≤ x.length ∧ Pv i σ H, ⟨x.length, by simp, Nat.zero_le _, h0⟩, ?_⟩
  rintro i m σ H ⟨rfl, hi, p⟩
  by_cases lt : i < x.length
  · refine .inr ⟨lt, Pv (i + 1), fun σ' H' p' => ⟨x.length - (i + 1), by omega, rfl, lt, p'⟩, fun v H' y => ?_⟩
    obtain ⟨T, c, rfl, hT, rfl, y⟩ := y
    exact hs i c σ H T y p hT
  · have e : i = x.length := by omega
    subst e
    exact .inl ⟨rfl, hd σ H p⟩
end Bs

/-! Plain law: two copies of a word, and the same with the copies outside some spots exchanged. -/
namespace Mpt
abbrev Road := Nat × Nat × Nat
def roadAt (cs : List Nat) (k : Nat) : Road := (k % cs.length + (cs.length + 1) * (k / cs.length), cs.getD (k % cs.length) 0, k % cs.length + 1 + (cs.length + 1) * (k / cs.length))
def oneR (cs : List Nat) : List Road := (List.range (2 * cs.length)).map (roadAt cs)
def turn (n : Nat) (S : List Nat) (a : Nat) : Nat := if a % (n + 1) ∈ S then a else (a + (n + 1)) % (2 * (n + 1))
def mp (f : Nat → Nat) (r : Road) : Road := (f r.1, r.2.1, f r.2.2)
def otherR (cs : List Nat) (S : List Nat) : List Road := (oneR cs).map (mp (turn cs.length S))
def stepM (R : List Road) (c : Nat) (F : Nat → Nat → Nat) (p q : Nat) : Nat := (R.map fun r => if r.2.1 = c ∧ r.2.2 = q then F p r.1 else 0).sum
def unitM (p q : Nat) : Nat := if p = q then 1 else 0
def cnt (R : List Road) (w : List Nat) : Nat → Nat → Nat := w.foldl (fun F c => stepM R c F) unitM
theorem cnt_snoc (R : List Road) (w : List Nat) (c : Nat) : cnt R (w ++ [c]) = stepM R c (cnt R w) := by
  unfold cnt
  rw [List.foldl_append]
  rfl
theorem stepM_congr {R : List Road} {c : Nat} {F G : Nat → Nat → Nat} {p q : Nat} (h : ∀ r ∈ R, F p r.1 = G p r.1) : stepM R c F p q = stepM R c G p q := by
  unfold stepM
  congr 1
  refine List.map_congr_left fun r m => ?_
  rw [h r m]
theorem fold_map {R : List Road} {f : Nat → Nat} {D : Nat → Prop} (inj : ∀ a b, D a → D b → f a = f b → a = b) (hR : ∀ r ∈ R, D r.1 ∧ D r.2.2) : ∀ (w : List Nat) (F G : Nat → Nat → Nat), (∀ p a, D p → D a → G (f p) (f a) = F p a) → ∀ p q, D p → D q →
    (w.foldl (fun F c => stepM (R.map (mp f)) c F) G) (f p) (f q) = (w.foldl (fun F c => stepM R c F) F) p q
  | [], F, G, h, p, q, hp, hq => h p q hp hq
  | c :: w, F, G, h, p, q, hp, hq => by
    refine fold_map inj hR w (stepM R c F) (stepM (R.map (mp f)) c G) (fun p a hp ha => ?_) p q hp hq
    unfold stepM
    rw [List.map_map]
    congr 1
    refine List.map_congr_left fun r m => ?_
    obtain ⟨h1, h2⟩ := hR r m
    show (if r.2.1 = c ∧ f r.2.2 = f a then G (f p) (f r.1) else 0) = _
    rw [h p r.1 hp h1]
    have e : (f r.2.2 = f a) ↔ r.2.2 = a := ⟨inj _ _ h2 ha, fun e => by rw [e]⟩
    simp only [e]
theorem cnt_map {R : List Road} {f : Nat → Nat} {D : Nat → Prop} (inj : ∀ a b, D a → D b → f a = f b → a = b) (hR : ∀ r ∈ R, D r.1 ∧ D r.2.2) (w : List Nat) {p q : Nat} (hp : D p) (hq : D q) : cnt (R.map (mp f)) w (f p) (f q) = cnt R w p q :=
  fold_map inj hR w unitM unitM (fun p a hp ha => by
    unfold unitM
    have e : (f p = f a) ↔ p = a := ⟨inj _ _ hp ha, fun e => by rw [e]⟩
    simp only [e]) p q hp hq
/-! sums over a range -/
theorem sum_zero {α : Type} {l : List α} {f : α → Nat} (h : ∀ x ∈ l, f x = 0) : (l.map f).sum = 0 := by
  induction l with
  | nil => rfl
  | cons a l ih => rw [List.map_cons, List.sum_cons, h a (List.mem_cons_self ..), ih fun x m => h x (List.mem_cons_of_mem _ m)]
theorem sum_one {f : Nat → Nat} {k : Nat} : ∀ {N : Nat}, k < N → (∀ i, i < N → i ≠ k → f i = 0) → ((List.range N).map f).sum = f k
  | 0, h, _ => by omega
  | N + 1, h, z => by
    rw [List.range_succ, List.map_append, List.sum_append]
    by_cases e : k = N
    · subst e
      rw [sum_zero fun x m => z x (by have := List.mem_range.mp m; omega) (by have := List.mem_range.mp m; omega)]
      simp
    · rw [sum_one (N := N) (by omega) fun i hi => z i (by omega)]
      have := z N (by omega) (fun q => e q.symm)
      simp [this]
/-! the copies of a word -/
def hit (cs w : List Nat) (p q : Nat) : Prop := p / (cs.length + 1) = q / (cs.length + 1) ∧ q % (cs.length + 1) = p % (cs.length + 1) + w.length ∧ ∀ t, t < w.length → cs[p % (cs.length + 1) + t]? = w[t]?
instance (cs w : List Nat) (p q : Nat) : Decidable (hit cs w p q) := by unfold hit; infer_instance
def hitN (cs w : List Nat) (p q : Nat) : Nat := if hit cs w p q then 1 else 0
theorem div_add {m a b : Nat} (h : a < m) : (a + m * b) / m = b ∧ (a + m * b) % m = a := by
  have m0 : 0 < m := by omega
  constructor
  · rw [Nat.add_mul_div_left _ _ m0, Nat.div_eq_of_lt h, Nat.zero_add]
  · rw [Nat.add_mul_mod_self_left, Nat.mod_eq_of_lt h]
theorem half {m p : Nat} (h : p < 2 * m) : p / m < 2 := Nat.div_lt_of_lt_mul (by omega)
theorem road_rng {cs : List Nat} {r : Road} (h : r ∈ oneR cs) : ∃ k, k < 2 * cs.length ∧ r = roadAt cs k ∧ k / cs.length < 2 ∧ k % cs.length < cs.length := by
  obtain ⟨k, m, rfl⟩ := List.mem_map.mp h
  have hk := List.mem_range.mp m
  exact ⟨k, hk, rfl, half hk, Nat.mod_lt _ (by omega)⟩
theorem road_lt {cs : List Nat} {r : Road} (h : r ∈ oneR cs) : r.1 < 2 * (cs.length + 1) ∧ r.2.2 < 2 * (cs.length + 1) ∧ r.1 ≠ r.2.2 := by
  obtain ⟨k, hk, rfl, h1, h2⟩ := road_rng h
  unfold roadAt
  have : (cs.length + 1) * (k / cs.length) ≤ (cs.length + 1) * 1 := Nat.mul_le_mul_left _ (by omega)
  refine ⟨?_, ?_, ?_⟩ <;> simp only <;> omega
theorem step_hit {cs u : List Nat} {c : Nat} {F : Nat → Nat → Nat} {p q : Nat} (hp : p < 2 * (cs.length + 1)) (hq : q < 2 * (cs.length + 1)) (h : ∀ a, a < 2 * (cs.length + 1) → F p a = hitN cs u p a) : stepM (oneR cs) c F p q = hitN cs (u ++ [c]) p q := by
  obtain ⟨n, en⟩ : ∃ n, n = cs.length := ⟨_, rfl⟩
  obtain ⟨m, em⟩ : ∃ m, m = n + 1 := ⟨_, rfl⟩
  have d2 := half hq
  have ql := Nat.mod_lt q (show 0 < cs.length + 1 by omega)
  have eq : q = q % (cs.length + 1) + (cs.length + 1) * (q / (cs.length + 1)) := (Nat.mod_add_div q (cs.length + 1)).symm
  unfold stepM oneR
  rw [List.map_map]
  cases ej : q % (cs.length + 1) with
  | zero =>
    rw [sum_zero]
    · unfold hitN
      rw [if_neg]
      rintro ⟨_, h2, _⟩
      rw [List.length_append] at h2
      simp at h2
      omega
    · intro k mk
      have hk := List.mem_range.mp mk
      have n0 : 0 < cs.length := by omega
      have kl := Nat.mod_lt k n0
      show (if cs.getD (k % cs.length) 0 = c ∧ k % cs.length + 1 + (cs.length + 1) * (k / cs.length) = q then _ else 0) = 0
      rw [if_neg]
      rintro ⟨_, e⟩
      have := (div_add (m := cs.length + 1) (a := k % cs.length + 1) (b := k / cs.length) (by omega)).2
      rw [e] at this
      omega
  | succ j =>
    have jn : j < cs.length := by omega
    obtain ⟨k1, k2⟩ := div_add (m := cs.length) (a := j) (b := q / (cs.length + 1)) jn
    have kk : j + cs.length * (q / (cs.length + 1)) < 2 * cs.length := by
      have : cs.length * (q / (cs.length + 1)) ≤ cs.length * 1 := Nat.mul_le_mul_left _ (by omega)
      omega
    rw [sum_one kk]
    · show (if cs.getD ((j + cs.length * (q / (cs.length + 1))) % cs.length) 0 = c ∧ (j + cs.length * (q / (cs.length + 1))) % cs.length + 1 + (cs.length + 1) * ((j + cs.length * (q / (cs.length + 1))) / cs.length) = q then F p ((j + cs.length * (q / (cs.length + 1))) % cs.length + (cs.length + 1) * ((j + cs.length * (q / (cs.length + 1))) / cs.length)) else 0) = _
      rw [k1, k2]
      have e2 : j + 1 + (cs.length + 1) * (q / (cs.length + 1)) = q := by omega
      obtain ⟨f1, f2⟩ := div_add (m := cs.length + 1) (a := j) (b := q / (cs.length + 1)) (by omega)
      rw [h _ (by have : (cs.length + 1) * (q / (cs.length + 1)) ≤ (cs.length + 1) * 1 := Nat.mul_le_mul_left _ (by omega); omega)]
      have gd : cs.getD j 0 = c ↔ cs[j]? = some c := by
        rw [List.getD_eq_getElem?_getD, List.getElem?_eq_getElem jn]
        simp
      have key : hit cs (u ++ [c]) p q ↔ cs.getD j 0 = c ∧ hit cs u p (j + (cs.length + 1) * (q / (cs.length + 1))) := by
        unfold hit
        rw [f1, f2, gd, ej, List.length_append, List.length_singleton]
        constructor
        · rintro ⟨a1, a2, a3⟩
          refine ⟨?_, a1, by omega, fun t ht => ?_⟩
          · have := a3 u.length (by omega)
            rw [show p % (cs.length + 1) + u.length = j by omega, List.getElem?_concat_length] at this
            exact this
          · rw [a3 t (by omega), List.getElem?_append_left ht]
        · rintro ⟨a0, a1, a2, a3⟩
          refine ⟨a1, by omega, fun t ht => ?_⟩
          by_cases e : t = u.length
          · subst e
            rw [List.getElem?_concat_length, ← a0, a2]
          · rw [List.getElem?_append_left (by omega)]
            exact a3 t (by omega)
      unfold hitN
      by_cases g : cs.getD j 0 = c
      · rw [if_pos ⟨g, e2⟩]
        have : hit cs (u ++ [c]) p q ↔ hit cs u p (j + (cs.length + 1) * (q / (cs.length + 1))) := key.trans ⟨fun x => x.2, fun x => ⟨g, x⟩⟩
        simp only [this]
      · rw [if_neg (fun x => g x.1), if_neg (fun x => g (key.mp x).1)]
    · intro i hi ni
      have n0 : 0 < cs.length := by omega
      have il := Nat.mod_lt i n0
      show (if cs.getD (i % cs.length) 0 = c ∧ i % cs.length + 1 + (cs.length + 1) * (i / cs.length) = q then _ else 0) = 0
      rw [if_neg]
      rintro ⟨_, e⟩
      obtain ⟨g1, g2⟩ := div_add (m := cs.length + 1) (a := i % cs.length + 1) (b := i / cs.length) (by omega)
      rw [e] at g1 g2
      apply ni
      rw [g1, show j = i % cs.length by omega]
      exact (Nat.mod_add_div i cs.length).symm
theorem fold_hit {cs : List Nat} : ∀ (w u : List Nat) (F : Nat → Nat → Nat), (∀ p a, p < 2 * (cs.length + 1) → a < 2 * (cs.length + 1) → F p a = hitN cs u p a) → ∀ p q, p < 2 * (cs.length + 1) → q < 2 * (cs.length + 1) →
    (w.foldl (fun F c => stepM (oneR cs) c F) F) p q = hitN cs (u ++ w) p q
  | [], u, F, h, p, q, hp, hq => by rw [List.append_nil]; exact h p q hp hq
  | c :: w, u, F, h, p, q, hp, hq => by
    have := fold_hit w (u ++ [c]) (stepM (oneR cs) c F) (fun p a hp ha => step_hit hp ha fun b hb => h p b hp hb) p q hp hq
    rw [List.append_assoc] at this
    exact this
theorem one_cnt {cs w : List Nat} {p q : Nat} (hp : p < 2 * (cs.length + 1)) (hq : q < 2 * (cs.length + 1)) : cnt (oneR cs) w p q = hitN cs w p q := by
  have := fold_hit (cs := cs) w [] unitM (fun p a hp ha => ?_) p q hp hq
  · exact this
  · unfold unitM hitN
    have e1 := Nat.mod_add_div p (cs.length + 1)
    have e2 := Nat.mod_add_div a (cs.length + 1)
    by_cases e : p = a
    · subst e
      rw [if_pos rfl, if_pos (show hit cs [] p p from ⟨rfl, rfl, fun t h => absurd h (Nat.not_lt_zero t)⟩)]
    · rw [if_neg e, if_neg]
      rintro ⟨h1, h2, _⟩
      apply e
      rw [← e1, ← e2, h1, h2]
      rfl
/-! turning -/
theorem turn_at {n : Nat} {S : List Nat} {a : Nat} (h : a < 2 * (n + 1)) : turn n S a < 2 * (n + 1) ∧ turn n S a % (n + 1) = a % (n + 1) ∧ turn n S a / (n + 1) = if a % (n + 1) ∈ S then a / (n + 1) else 1 - a / (n + 1) := by
  unfold turn
  by_cases c : a % (n + 1) ∈ S
  · rw [if_pos c, if_pos c]
    exact ⟨h, rfl, rfl⟩
  · rw [if_neg c, if_neg c]
    have d2 := half h
    have al := Nat.mod_lt a (show 0 < n + 1 by omega)
    have ea := Nat.mod_add_div a (n + 1)
    obtain ⟨b, eb⟩ : ∃ b, b = a / (n + 1) := ⟨_, rfl⟩
    rw [← eb] at d2 ea ⊢
    rcases (show b = 0 ∨ b = 1 by omega) with rfl | rfl
    · rw [Nat.mod_eq_of_lt (by omega)]
      have := div_add (m := n + 1) (a := a % (n + 1)) (b := 1) al
      rw [show a + (n + 1) = a % (n + 1) + (n + 1) * 1 by omega]
      exact ⟨by omega, this.2, this.1⟩
    · have e : (a + (n + 1)) % (2 * (n + 1)) = a % (n + 1) := by
        rw [show a + (n + 1) = a % (n + 1) + 2 * (n + 1) by omega, Nat.add_mod_right, Nat.mod_eq_of_lt (by omega)]
      rw [e]
      have := div_add (m := n + 1) (a := a % (n + 1)) (b := 0) al
      rw [Nat.mul_zero, Nat.add_zero] at this
      exact ⟨by omega, this.2, this.1⟩
theorem turn_turn {n : Nat} {S : List Nat} {a : Nat} (h : a < 2 * (n + 1)) : turn n S (turn n S a) = a := by
  obtain ⟨t1, t2, t3⟩ := turn_at (S := S) h
  obtain ⟨u1, u2, u3⟩ := turn_at (S := S) t1
  have e1 := Nat.mod_add_div (turn n S (turn n S a)) (n + 1)
  have e2 := Nat.mod_add_div a (n + 1)
  rw [u2, t2, u3, t2, t3] at e1
  have d2 := half h
  by_cases c : a % (n + 1) ∈ S
  · simp only [if_pos c] at e1
    omega
  · simp only [if_neg c] at e1
    rw [Nat.sub_sub_self (Nat.le_of_lt_succ d2)] at e1
    omega
theorem turn_inj {n : Nat} {S : List Nat} {a b : Nat} (ha : a < 2 * (n + 1)) (hb : b < 2 * (n + 1)) (e : turn n S a = turn n S b) : a = b := by
  rw [← turn_turn (S := S) ha, e, turn_turn hb]
theorem other_cnt {cs S w : List Nat} {p q : Nat} (hp : p < 2 * (cs.length + 1)) (hq : q < 2 * (cs.length + 1)) : cnt (otherR cs S) w p q = hitN cs w (turn cs.length S p) (turn cs.length S q) := by
  obtain ⟨p1, _, _⟩ := turn_at (S := S) hp
  obtain ⟨q1, _, _⟩ := turn_at (S := S) hq
  have := cnt_map (R := oneR cs) (f := turn cs.length S) (D := fun a => a < 2 * (cs.length + 1)) (fun a b ha hb e => turn_inj ha hb e) (fun r m => ⟨(road_lt m).1, (road_lt m).2.1⟩) w p1 q1
  rw [turn_turn hp, turn_turn hq] at this
  rw [← one_cnt p1 q1]
  exact this
/-- a watch is the same in both -/
theorem hit_turn {cs S w : List Nat} (cl : ∀ i, (∀ t, t < w.length → cs[i + t]? = w[t]?) → (i ∈ S ↔ i + w.length ∈ S)) {p q : Nat} (hp : p < 2 * (cs.length + 1)) (hq : q < 2 * (cs.length + 1)) : hitN cs w (turn cs.length S p) (turn cs.length S q) = hitN cs w p q := by
  obtain ⟨p1, p2, p3⟩ := turn_at (S := S) hp
  obtain ⟨q1, q2, q3⟩ := turn_at (S := S) hq
  have d1 := half hp
  have d2 := half hq
  have key : hit cs w (turn cs.length S p) (turn cs.length S q) ↔ hit cs w p q := by
    unfold hit
    rw [p2, q2, p3, q3]
    constructor
    · rintro ⟨a1, a2, a3⟩
      refine ⟨?_, a2, a3⟩
      have := cl _ a3
      rw [← a2] at this
      by_cases c : p % (cs.length + 1) ∈ S
      · rw [if_pos c, if_pos (this.mp c)] at a1
        exact a1
      · rw [if_neg c, if_neg (fun x => c (this.mpr x))] at a1
        omega
    · rintro ⟨a1, a2, a3⟩
      refine ⟨?_, a2, a3⟩
      have := cl _ a3
      rw [← a2] at this
      by_cases c : p % (cs.length + 1) ∈ S
      · rw [if_pos c, if_pos (this.mp c)]
        exact a1
      · rw [if_neg c, if_neg (fun x => c (this.mpr x))]
        omega
  unfold hitN
  simp only [key]
theorem word_one (cs : List Nat) : hitN cs cs 0 cs.length = 1 := by
  unfold hitN
  rw [if_pos]
  refine ⟨?_, ?_, fun t h => ?_⟩
  · rw [Nat.zero_div, Nat.div_eq_of_lt (by omega)]
  · rw [Nat.zero_mod, Nat.mod_eq_of_lt (by omega), Nat.zero_add]
  · rw [Nat.zero_mod, Nat.zero_add]
theorem word_other {cs S : List Nat} (h0 : 0 ∈ S) (hn : cs.length ∉ S) : hitN cs cs (turn cs.length S 0) (turn cs.length S cs.length) = 0 := by
  obtain ⟨p1, p2, p3⟩ := turn_at (n := cs.length) (S := S) (a := 0) (by omega)
  obtain ⟨q1, q2, q3⟩ := turn_at (n := cs.length) (S := S) (a := cs.length) (by omega)
  unfold hitN
  rw [if_neg]
  rintro ⟨a1, _, _⟩
  rw [p3, q3, Nat.zero_mod, if_pos h0, Nat.mod_eq_of_lt (by omega), if_neg hn, Nat.zero_div, Nat.div_eq_of_lt (by omega)] at a1
  omega
/-! places numbered anew -/
def idx (L : List Nat) (p : Nat) : Nat := L.idxOf p
theorem idx_inj {L : List Nat} {a b : Nat} (ha : a ∈ L) (hb : b ∈ L) (e : idx L a = idx L b) : a = b := by
  have h1 := List.getElem_idxOf (List.idxOf_lt_length_iff.mpr ha)
  have h2 := List.getElem_idxOf (List.idxOf_lt_length_iff.mpr hb)
  unfold idx at e
  rw [← h1, ← h2]
  simp only [e]
theorem idx_at {L : List Nat} (nd : L.Nodup) {P : Nat} (h : P < L.length) : idx L L[P] = P := nd.idxOf_getElem P h
/-- what the law asks of the watches -/
theorem watch_same {cs S w L : List Nat} (nd : L.Nodup) (sub : ∀ a ∈ L, a < 2 * (cs.length + 1)) (h1 : ∀ r ∈ oneR cs, r.1 ∈ L ∧ r.2.2 ∈ L) (h2 : ∀ r ∈ otherR cs S, r.1 ∈ L ∧ r.2.2 ∈ L) (cl : ∀ i, (∀ t, t < w.length → cs[i + t]? = w[t]?) → (i ∈ S ↔ i + w.length ∈ S)) {P Q : Nat} (hP : P < L.length) (hQ : Q < L.length) :
    cnt ((oneR cs).map (mp (idx L))) w P Q = cnt ((otherR cs S).map (mp (idx L))) w P Q := by
  have mP := List.getElem_mem hP
  have mQ := List.getElem_mem hQ
  have a := cnt_map (R := oneR cs) (f := idx L) (D := fun a => a ∈ L) (fun a b ha hb e => idx_inj ha hb e) h1 w mP mQ
  have b := cnt_map (R := otherR cs S) (f := idx L) (D := fun a => a ∈ L) (fun a b ha hb e => idx_inj ha hb e) h2 w mP mQ
  rw [idx_at nd hP, idx_at nd hQ] at a b
  rw [a, b, one_cnt (sub _ mP) (sub _ mQ), other_cnt (sub _ mP) (sub _ mQ), hit_turn cl (sub _ mP) (sub _ mQ)]
/-- .. and of the word -/
theorem word_unlike {cs S L : List Nat} (n1 : 1 ≤ cs.length) (sub : ∀ a ∈ L, a < 2 * (cs.length + 1)) (h1 : ∀ r ∈ oneR cs, r.1 ∈ L ∧ r.2.2 ∈ L) (h2 : ∀ r ∈ otherR cs S, r.1 ∈ L ∧ r.2.2 ∈ L) (h0 : 0 ∈ S) (hn : cs.length ∉ S) :
    ∃ P Q, P < L.length ∧ Q < L.length ∧ cnt ((oneR cs).map (mp (idx L))) cs P Q = 1 ∧ cnt ((otherR cs S).map (mp (idx L))) cs P Q = 0 := by
  have m0 : (0 : Nat) ∈ L := by
    have := (h1 (roadAt cs 0) (List.mem_map_of_mem (List.mem_range.mpr (by omega)))).1
    unfold roadAt at this
    simpa using this
  have mn : cs.length ∈ L := by
    have := (h1 (roadAt cs (cs.length - 1)) (List.mem_map_of_mem (List.mem_range.mpr (by omega)))).2
    unfold roadAt at this
    simp only [Nat.mod_eq_of_lt (show cs.length - 1 < cs.length by omega), Nat.div_eq_of_lt (show cs.length - 1 < cs.length by omega)] at this
    rwa [Nat.mul_zero, Nat.add_zero, show cs.length - 1 + 1 = cs.length by omega] at this
  refine ⟨idx L 0, idx L cs.length, List.idxOf_lt_length_iff.mpr m0, List.idxOf_lt_length_iff.mpr mn, ?_, ?_⟩
  · rw [cnt_map (R := oneR cs) (f := idx L) (D := fun a => a ∈ L) (fun a b ha hb e => idx_inj ha hb e) h1 cs m0 mn, one_cnt (sub _ m0) (sub _ mn), word_one]
  · rw [cnt_map (R := otherR cs S) (f := idx L) (D := fun a => a ∈ L) (fun a b ha hb e => idx_inj ha hb e) h2 cs m0 mn, other_cnt (sub _ m0) (sub _ mn), word_other h0 hn]
/-! the roads are unlike -/
theorem road_inj {cs : List Nat} {i j : Nat} (hi : i < 2 * cs.length) (hj : j < 2 * cs.length) (e : (roadAt cs i).1 = (roadAt cs j).1) : i = j := by
  have n0 : 0 < cs.length := by omega
  have il := Nat.mod_lt i n0
  have jl := Nat.mod_lt j n0
  unfold roadAt at e
  simp only at e
  obtain ⟨a1, a2⟩ := div_add (m := cs.length + 1) (a := i % cs.length) (b := i / cs.length) (by omega)
  obtain ⟨b1, b2⟩ := div_add (m := cs.length + 1) (a := j % cs.length) (b := j / cs.length) (by omega)
  rw [e] at a1 a2
  have e1 := Nat.mod_add_div i cs.length
  have e2 := Nat.mod_add_div j cs.length
  have c1 : i / cs.length = j / cs.length := a1.symm.trans b1
  have c2 : i % cs.length = j % cs.length := a2.symm.trans b2
  rw [← e1, ← e2, c1, c2]
/-- roads whose begins are numbered anew stay unlike -/
theorem one_pair (cs : List Nat) : (oneR cs).Pairwise fun a b => a.1 ≠ b.1 := by
  unfold oneR
  refine List.pairwise_map.mpr ?_
  refine List.Pairwise.imp_of_mem (R := fun a b => a < b) (fun {a b} ma mb lt e => ?_) List.pairwise_lt_range
  have := road_inj (List.mem_range.mp ma) (List.mem_range.mp mb) e
  omega
theorem other_pair (cs S : List Nat) : (otherR cs S).Pairwise fun a b => a.1 ≠ b.1 := by
  unfold otherR
  refine List.pairwise_map.mpr ?_
  exact List.Pairwise.imp_of_mem (fun {a b} ma mb ne e => ne (turn_inj (road_lt ma).1 (road_lt mb).1 e)) (one_pair cs)
theorem other_lt {cs S : List Nat} {r : Road} (h : r ∈ otherR cs S) : r.1 < 2 * (cs.length + 1) ∧ r.2.2 < 2 * (cs.length + 1) ∧ r.1 ≠ r.2.2 := by
  obtain ⟨s, m, rfl⟩ := List.mem_map.mp h
  have := road_lt m
  exact ⟨(turn_at this.1).1, (turn_at this.2.1).1, fun e => this.2.2 (turn_inj this.1 this.2.1 e)⟩
theorem one_len (cs : List Nat) : (oneR cs).length = 2 * cs.length := by unfold oneR; rw [List.length_map, List.length_range]
theorem other_len (cs S : List Nat) : (otherR cs S).length = 2 * cs.length := by unfold otherR; rw [List.length_map, one_len]
end Mpt

/-! Plain law: told reckonings (joins, products), what lies beneath what, the greatest ones. -/
namespace Mr
structure Rk (n : Nat) (J M : Nat → Nat → Nat) (z o : Nat) : Prop where
  n2 : 2 ≤ n
  n16 : n ≤ 16
  zn : z < n
  on : o < n
  ne : z ≠ o
  jn : ∀ a b, a < n → b < n → J a b < n
  mn : ∀ a b, a < n → b < n → M a b < n
  jz : ∀ a, a < n → J z a = a ∧ J a z = a
  mz : ∀ a, a < n → M z a = z ∧ M a z = z
  mo : ∀ a, a < n → M o a = a ∧ M a o = a
  idem : ∀ a, a < n → J a a = a
  swap : ∀ a b, a < n → b < n → J a b = J b a
  jass : ∀ a b c, a < n → b < n → c < n → J (J a b) c = J a (J b c)
  mass : ∀ a b c, a < n → b < n → c < n → M (M a b) c = M a (M b c)
  over : ∀ a b c, a < n → b < n → c < n → M a (J b c) = J (M a b) (M a c) ∧ M (J b c) a = J (M b a) (M c a)
/-- the join of a row of worths -/
def joined (J : Nat → Nat → Nat) (z : Nat) (xs : List Nat) : Nat := xs.foldl J z
theorem joined_lt {J : Nat → Nat → Nat} {n : Nat} (cl : ∀ a b, a < n → b < n → J a b < n) : ∀ {xs : List Nat} {z : Nat}, z < n → (∀ x ∈ xs, x < n) → joined J z xs < n
  | [], _, hz, _ => hz
  | x :: xs, _, hz, h => joined_lt cl (xs := xs) (cl _ _ hz (h x (List.mem_cons_self ..))) fun y m => h y (List.mem_cons_of_mem _ m)
def metF (n : Nat) (J : Nat → Nat → Nat) (z a b : Nat) : Nat := joined J z ((List.range n).filter fun x => decide (J x a = a) && decide (J x b = b))
def leftF (n : Nat) (J M : Nat → Nat → Nat) (z a c : Nat) : Nat := joined J z ((List.range n).filter fun b => decide (J (M a b) c = c))
def rightF (n : Nat) (J M : Nat → Nat → Nat) (z c a : Nat) : Nat := joined J z ((List.range n).filter fun b => decide (J (M b a) c = c))
def topF (n : Nat) (J : Nat → Nat → Nat) (z : Nat) : Nat := joined J z (List.range n)
section
variable {n : Nat} {J M : Nat → Nat → Nat} {z o : Nat}
theorem Rk.join_le (R : Rk n J M z o) {a b u : Nat} (ha : a < n) (hb : b < n) (hu : u < n) : J (J a b) u = u ↔ J a u = u ∧ J b u = u := by
  have one : ∀ {a b : Nat}, a < n → b < n → J (J a b) u = u → J a u = u := fun {a b} ha hb h => by
    have e : J a u = J a (J (J a b) u) := by rw [h]
    rw [e, R.jass a b u ha hb hu, ← R.jass a a _ ha ha (R.jn _ _ hb hu), R.idem a ha, ← R.jass a b u ha hb hu, h]
  refine ⟨fun h => ⟨one ha hb h, one hb ha ?_⟩, fun ⟨h1, h2⟩ => ?_⟩
  · rw [R.swap b a hb ha]
    exact h
  · rw [R.jass a b u ha hb hu, h2, h1]
theorem Rk.joined_le (R : Rk n J M z o) {u : Nat} (hu : u < n) : ∀ {xs : List Nat} {s : Nat}, s < n → (∀ x ∈ xs, x < n) → (J (joined J s xs) u = u ↔ J s u = u ∧ ∀ x ∈ xs, J x u = u)
  | [], s, hs, _ => ⟨fun h => ⟨h, fun x m => by cases m⟩, fun h => h.1⟩
  | x :: xs, s, hs, h => by
    have hx := h x (List.mem_cons_self ..)
    show J (joined J (J s x) xs) u = u ↔ _
    rw [Rk.joined_le R hu (R.jn s x hs hx) fun y m => h y (List.mem_cons_of_mem _ m), R.join_le hs hx hu]
    constructor
    · rintro ⟨⟨h1, h2⟩, h3⟩
      refine ⟨h1, fun y m => ?_⟩
      rcases List.mem_cons.mp m with rfl | m
      · exact h2
      · exact h3 y m
    · rintro ⟨h1, h2⟩
      exact ⟨⟨h1, h2 x (List.mem_cons_self ..)⟩, fun y m => h2 y (List.mem_cons_of_mem _ m)⟩
theorem Rk.tr (R : Rk n J M z o) {a b c : Nat} (ha : a < n) (hb : b < n) (hc : c < n) (h : J a b = b) (k : J b c = c) : J a c = c := by
  rw [← k, ← R.jass a b c ha hb hc, h]
theorem Rk.anti (R : Rk n J M z o) {a b : Nat} (ha : a < n) (hb : b < n) (h : J a b = b) (k : J b a = a) : a = b := by
  rw [← k, R.swap b a hb ha, h]
theorem Rk.same (R : Rk n J M z o) {x y : Nat} (hx : x < n) (hy : y < n) (h : ∀ w, w < n → (J w x = x ↔ J w y = y)) : x = y :=
  R.anti hx hy ((h x hx).mp (R.idem x hx)) ((h y hy).mpr (R.idem y hy))
theorem filt_lt {f : Nat → Bool} : ∀ x ∈ (List.range n).filter f, x < n := fun x m => List.mem_range.mp (List.mem_filter.mp m).1
theorem Rk.met_lt (R : Rk n J M z o) (a b : Nat) : metF n J z a b < n := joined_lt R.jn R.zn filt_lt
theorem Rk.left_lt (R : Rk n J M z o) (a b : Nat) : leftF n J M z a b < n := joined_lt R.jn R.zn filt_lt
theorem Rk.right_lt (R : Rk n J M z o) (a b : Nat) : rightF n J M z a b < n := joined_lt R.jn R.zn filt_lt
theorem Rk.top_lt (R : Rk n J M z o) : topF n J z < n := joined_lt R.jn R.zn fun x m => List.mem_range.mp m
theorem Rk.ub (R : Rk n J M z o) {xs : List Nat} (hx : ∀ x ∈ xs, x < n) {x : Nat} (m : x ∈ xs) : J x (joined J z xs) = joined J z xs := by
  have l := joined_lt R.jn R.zn hx
  exact ((R.joined_le l R.zn hx).mp (R.idem _ l)).2 x m
theorem Rk.top_le (R : Rk n J M z o) {x : Nat} (hx : x < n) : J x (topF n J z) = topF n J z := R.ub (fun y m => List.mem_range.mp m) (List.mem_range.mpr hx)
theorem Rk.met_iff (R : Rk n J M z o) {x a b : Nat} (hx : x < n) (ha : a < n) (hb : b < n) : J x (metF n J z a b) = metF n J z a b ↔ J x a = a ∧ J x b = b := by
  have l := R.met_lt a b
  constructor
  · intro h
    have h1 := (R.joined_le (xs := (List.range n).filter fun x => decide (J x a = a) && decide (J x b = b)) ha R.zn filt_lt).mpr ⟨(R.jz a ha).1, fun y m => by
      have := (List.mem_filter.mp m).2
      rw [Bool.and_eq_true, decide_eq_true_iff, decide_eq_true_iff] at this
      exact this.1⟩
    have h2 := (R.joined_le (xs := (List.range n).filter fun x => decide (J x a = a) && decide (J x b = b)) hb R.zn filt_lt).mpr ⟨(R.jz b hb).1, fun y m => by
      have := (List.mem_filter.mp m).2
      rw [Bool.and_eq_true, decide_eq_true_iff, decide_eq_true_iff] at this
      exact this.2⟩
    exact ⟨R.tr hx l ha h h1, R.tr hx l hb h h2⟩
  · rintro ⟨h1, h2⟩
    exact R.ub filt_lt (List.mem_filter.mpr ⟨List.mem_range.mpr hx, by rw [decide_eq_true h1, decide_eq_true h2]; rfl⟩)
theorem Rk.mul_joined (R : Rk n J M z o) {a c : Nat} (ha : a < n) (hc : c < n) : ∀ {xs : List Nat} {s : Nat}, s < n → (∀ x ∈ xs, x < n) → (J (M a (joined J s xs)) c = c ↔ J (M a s) c = c ∧ ∀ x ∈ xs, J (M a x) c = c)
  | [], s, hs, _ => ⟨fun h => ⟨h, fun x m => by cases m⟩, fun h => h.1⟩
  | x :: xs, s, hs, h => by
    have hx := h x (List.mem_cons_self ..)
    show J (M a (joined J (J s x) xs)) c = c ↔ _
    rw [Rk.mul_joined R ha hc (R.jn s x hs hx) fun y m => h y (List.mem_cons_of_mem _ m), (R.over a s x ha hs hx).1, R.join_le (R.mn _ _ ha hs) (R.mn _ _ ha hx) hc]
    constructor
    · rintro ⟨⟨h1, h2⟩, h3⟩
      refine ⟨h1, fun y m => ?_⟩
      rcases List.mem_cons.mp m with rfl | m
      · exact h2
      · exact h3 y m
    · rintro ⟨h1, h2⟩
      exact ⟨⟨h1, h2 x (List.mem_cons_self ..)⟩, fun y m => h2 y (List.mem_cons_of_mem _ m)⟩
theorem Rk.left_iff (R : Rk n J M z o) {b a c : Nat} (hb : b < n) (ha : a < n) (hc : c < n) : J b (leftF n J M z a c) = leftF n J M z a c ↔ J (M a b) c = c := by
  have l := R.left_lt a c
  constructor
  · intro h
    have h1 : J (M a (leftF n J M z a c)) c = c := (R.mul_joined (xs := (List.range n).filter fun b => decide (J (M a b) c = c)) ha hc R.zn filt_lt).mpr ⟨by rw [(R.mz a ha).2]; exact (R.jz c hc).1, fun y m => of_decide_eq_true (List.mem_filter.mp m).2⟩
    refine R.tr (R.mn _ _ ha hb) (R.mn _ _ ha l) hc ?_ h1
    rw [← (R.over a b _ ha hb l).1, h]
  · intro h
    exact R.ub filt_lt (List.mem_filter.mpr ⟨List.mem_range.mpr hb, decide_eq_true h⟩)
/-- the products the other way round -/
theorem Rk.turn (R : Rk n J M z o) : Rk n J (fun a b => M b a) z o :=
  { R with
    mn := fun a b ha hb => R.mn b a hb ha
    mz := fun a ha => (R.mz a ha).symm
    mo := fun a ha => (R.mo a ha).symm
    mass := fun a b c ha hb hc => (R.mass c b a hc hb ha).symm
    over := fun a b c ha hb hc => (R.over a b c ha hb hc).symm }
theorem right_turn (c a : Nat) : rightF n J M z c a = leftF n J (fun a b => M b a) z a c := rfl
theorem left_turn (a c : Nat) : leftF n J M z a c = rightF n J (fun a b => M b a) z c a := rfl
theorem Rk.right_iff (R : Rk n J M z o) {b a c : Nat} (hb : b < n) (ha : a < n) (hc : c < n) : J b (rightF n J M z c a) = rightF n J M z c a ↔ J (M b a) c = c := R.turn.left_iff hb ha hc
end
/-! ### two beside one another -/
section
variable {n m : Nat} {J M J' M' : Nat → Nat → Nat} {z o z' o' : Nat}
/-- part by part -/
def par (m : Nat) (F G : Nat → Nat → Nat) (a b : Nat) : Nat := F (a / m) (b / m) * m + G (a % m) (b % m)
theorem pd {m p q : Nat} (h : q < m) : (p * m + q) / m = p := by
  rw [Nat.mul_comm, Nat.mul_add_div (by omega), Nat.div_eq_of_lt h]
  rfl
theorem pm {m p q : Nat} (h : q < m) : (p * m + q) % m = q := by
  rw [Nat.mul_comm, Nat.mul_add_mod, Nat.mod_eq_of_lt h]
theorem pe {m p q r s : Nat} (h : q < m) (k : s < m) : p * m + q = r * m + s ↔ p = r ∧ q = s := by
  constructor
  · intro e
    have h1 := congrArg (· / m) e
    have h2 := congrArg (· % m) e
    simp only [pd h, pd k, pm h, pm k] at h1 h2
    exact ⟨h1, h2⟩
  · rintro ⟨rfl, rfl⟩
    rfl
theorem pl {n m p q : Nat} (h : p < n) (k : q < m) : p * m + q < n * m := by
  have : (p + 1) * m ≤ n * m := Nat.mul_le_mul_right m h
  rw [Nat.add_mul, Nat.one_mul] at this
  omega
theorem ps {n m a : Nat} (h : a < n * m) : a / m < n ∧ a % m < m ∧ a = a / m * m + a % m := by
  have m0 : 0 < m := by
    rcases Nat.eq_zero_or_pos m with e | e
    · rw [e] at h; omega
    · exact e
  exact ⟨(Nat.div_lt_iff_lt_mul m0).mpr h, Nat.mod_lt _ m0, by rw [Nat.mul_comm]; exact (Nat.div_add_mod a m).symm⟩
theorem Rk.beside (R : Rk n J M z o) (S : Rk m J' M' z' o') (h : n * m ≤ 16) : Rk (n * m) (par m J J') (par m M M') (z * m + z') (o * m + o') where
  n2 := Nat.le_trans (show 2 ≤ 2 * 2 by decide) (Nat.mul_le_mul R.n2 S.n2)
  n16 := h
  zn := pl R.zn S.zn
  on := pl R.on S.on
  ne e := R.ne ((pe S.zn S.on).mp e).1
  jn a b ha hb := pl (R.jn _ _ (ps ha).1 (ps hb).1) (S.jn _ _ (ps ha).2.1 (ps hb).2.1)
  mn a b ha hb := pl (R.mn _ _ (ps ha).1 (ps hb).1) (S.mn _ _ (ps ha).2.1 (ps hb).2.1)
  jz a ha := by
    obtain ⟨h1, h2, h3⟩ := ps ha
    have q := R.jz _ h1
    have q' := S.jz _ h2
    unfold par
    rw [pd S.zn, pm S.zn, q.1, q.2, q'.1, q'.2]
    exact ⟨h3.symm, h3.symm⟩
  mz a ha := by
    obtain ⟨h1, h2, h3⟩ := ps ha
    have q := R.mz _ h1
    have q' := S.mz _ h2
    unfold par
    rw [pd S.zn, pm S.zn, q.1, q.2, q'.1, q'.2]
    exact ⟨rfl, rfl⟩
  mo a ha := by
    obtain ⟨h1, h2, h3⟩ := ps ha
    have q := R.mo _ h1
    have q' := S.mo _ h2
    unfold par
    rw [pd S.on, pm S.on, q.1, q.2, q'.1, q'.2]
    exact ⟨h3.symm, h3.symm⟩
  idem a ha := by
    obtain ⟨h1, h2, h3⟩ := ps ha
    unfold par
    rw [R.idem _ h1, S.idem _ h2]
    exact h3.symm
  swap a b ha hb := by
    unfold par
    rw [R.swap _ _ (ps ha).1 (ps hb).1, S.swap _ _ (ps ha).2.1 (ps hb).2.1]
  jass a b c ha hb hc := by
    unfold par
    rw [pd (S.jn _ _ (ps ha).2.1 (ps hb).2.1), pm (S.jn _ _ (ps ha).2.1 (ps hb).2.1), pd (S.jn _ _ (ps hb).2.1 (ps hc).2.1), pm (S.jn _ _ (ps hb).2.1 (ps hc).2.1), R.jass _ _ _ (ps ha).1 (ps hb).1 (ps hc).1, S.jass _ _ _ (ps ha).2.1 (ps hb).2.1 (ps hc).2.1]
  mass a b c ha hb hc := by
    unfold par
    rw [pd (S.mn _ _ (ps ha).2.1 (ps hb).2.1), pm (S.mn _ _ (ps ha).2.1 (ps hb).2.1), pd (S.mn _ _ (ps hb).2.1 (ps hc).2.1), pm (S.mn _ _ (ps hb).2.1 (ps hc).2.1), R.mass _ _ _ (ps ha).1 (ps hb).1 (ps hc).1, S.mass _ _ _ (ps ha).2.1 (ps hb).2.1 (ps hc).2.1]
  over a b c ha hb hc := by
    have q := R.over _ _ _ (ps ha).1 (ps hb).1 (ps hc).1
    have q' := S.over _ _ _ (ps ha).2.1 (ps hb).2.1 (ps hc).2.1
    unfold par
    have l1 := S.jn _ _ (ps hb).2.1 (ps hc).2.1
    have l2 := S.mn _ _ (ps ha).2.1 (ps hb).2.1
    have l3 := S.mn _ _ (ps ha).2.1 (ps hc).2.1
    have l4 := S.mn _ _ (ps hb).2.1 (ps ha).2.1
    have l5 := S.mn _ _ (ps hc).2.1 (ps ha).2.1
    rw [pd l1, pm l1, pd l2, pm l2, pd l3, pm l3, pd l4, pm l4, pd l5, pm l5, q.1, q'.1, q.2, q'.2]
    exact ⟨rfl, rfl⟩
theorem par_le (S : Rk m J' M' z' o') {p q r s : Nat} (hq : q < m) (hs : s < m) : par m J J' (p * m + q) (r * m + s) = r * m + s ↔ J p r = r ∧ J' q s = s := by
  unfold par
  rw [pd hq, pm hq, pd hs, pm hs]
  exact pe (S.jn _ _ hq hs) hs
theorem Rk.beside_met (R : Rk n J M z o) (S : Rk m J' M' z' o') (h : n * m ≤ 16) {p q r s : Nat} (hp : p < n) (hq : q < m) (hr : r < n) (hs : s < m) :
    metF (n * m) (par m J J') (z * m + z') (p * m + q) (r * m + s) = metF n J z p r * m + metF m J' z' q s := by
  have B := R.beside S h
  refine B.same (B.met_lt _ _) (pl (R.met_lt _ _) (S.met_lt _ _)) fun w hw => ?_
  obtain ⟨h1, h2, h3⟩ := ps hw
  rw [B.met_iff hw (pl hp hq) (pl hr hs), h3, par_le S h2 hq, par_le S h2 hs, par_le S h2 (S.met_lt _ _), R.met_iff h1 hp hr, S.met_iff h2 hq hs]
  exact ⟨fun ⟨⟨a, b⟩, c, d⟩ => ⟨⟨a, c⟩, b, d⟩, fun ⟨⟨a, c⟩, b, d⟩ => ⟨⟨a, b⟩, c, d⟩⟩
theorem Rk.beside_left (R : Rk n J M z o) (S : Rk m J' M' z' o') (h : n * m ≤ 16) {p q r s : Nat} (hp : p < n) (hq : q < m) (hr : r < n) (hs : s < m) :
    leftF (n * m) (par m J J') (par m M M') (z * m + z') (p * m + q) (r * m + s) = leftF n J M z p r * m + leftF m J' M' z' q s := by
  have B := R.beside S h
  refine B.same (B.left_lt _ _) (pl (R.left_lt _ _) (S.left_lt _ _)) fun w hw => ?_
  obtain ⟨h1, h2, h3⟩ := ps hw
  rw [B.left_iff hw (pl hp hq) (pl hr hs)]
  have e : par m M M' (p * m + q) w = M p (w / m) * m + M' q (w % m) := by
    unfold par
    rw [pd hq, pm hq]
  rw [e, par_le S (S.mn _ _ hq h2) hs]
  conv => rhs; rw [h3]
  rw [par_le S h2 (S.left_lt _ _), R.left_iff h1 hp hr, S.left_iff h2 hq hs]
theorem Rk.beside_right (R : Rk n J M z o) (S : Rk m J' M' z' o') (h : n * m ≤ 16) {p q r s : Nat} (hp : p < n) (hq : q < m) (hr : r < n) (hs : s < m) :
    rightF (n * m) (par m J J') (par m M M') (z * m + z') (p * m + q) (r * m + s) = rightF n J M z p r * m + rightF m J' M' z' q s := by
  have B := R.beside S h
  refine B.same (B.right_lt _ _) (pl (R.right_lt _ _) (S.right_lt _ _)) fun w hw => ?_
  obtain ⟨h1, h2, h3⟩ := ps hw
  rw [B.right_iff hw (pl hr hs) (pl hp hq)]
  have e : par m M M' w (r * m + s) = M (w / m) r * m + M' (w % m) s := by
    unfold par
    rw [pd hs, pm hs]
  rw [e, par_le S (S.mn _ _ h2 hs) hq]
  conv => rhs; rw [h3]
  rw [par_le S h2 (S.right_lt _ _), R.right_iff h1 hr hp, S.right_iff h2 hs hq]
theorem Rk.beside_top (R : Rk n J M z o) (S : Rk m J' M' z' o') (h : n * m ≤ 16) : topF (n * m) (par m J J') (z * m + z') = topF n J z * m + topF m J' z' := by
  have B := R.beside S h
  refine B.same B.top_lt (pl R.top_lt S.top_lt) fun w hw => ?_
  obtain ⟨h1, h2, h3⟩ := ps hw
  refine ⟨fun _ => ?_, fun _ => B.top_le hw⟩
  conv => lhs; rw [h3]
  exact (par_le S h2 S.top_lt).mpr ⟨R.top_le h1, S.top_le h2⟩
end
/-! ### looked at by trying all -/
def rkB (n : Nat) (J M : Nat → Nat → Nat) (z o : Nat) : Bool :=
  decide (2 ≤ n) && decide (n ≤ 16) && decide (z < n) && decide (o < n) && decide (z ≠ o) &&
  ((List.range n).all fun a => decide (J z a = a) && decide (J a z = a) && decide (M z a = z) && decide (M a z = z) && decide (M o a = a) && decide (M a o = a) && decide (J a a = a) &&
    (List.range n).all fun b => decide (J a b < n) && decide (M a b < n) && decide (J a b = J b a) &&
      (List.range n).all fun c => decide (J (J a b) c = J a (J b c)) && decide (M (M a b) c = M a (M b c)) && decide (M a (J b c) = J (M a b) (M a c)) && decide (M (J b c) a = J (M b a) (M c a)))
theorem rk_of {n : Nat} {J M : Nat → Nat → Nat} {z o : Nat} (h : rkB n J M z o = true) : Rk n J M z o := by
  unfold rkB at h
  simp only [Bool.and_eq_true, decide_eq_true_iff, List.all_eq_true, List.mem_range] at h
  obtain ⟨⟨⟨⟨⟨h1, h2⟩, h3⟩, h4⟩, h5⟩, h⟩ := h
  exact {
    n2 := h1, n16 := h2, zn := h3, on := h4, ne := h5
    jn := fun a b ha hb => ((h a ha).2 b hb).1.1.1
    mn := fun a b ha hb => ((h a ha).2 b hb).1.1.2
    jz := fun a ha => ⟨(h a ha).1.1.1.1.1.1.1, (h a ha).1.1.1.1.1.1.2⟩
    mz := fun a ha => ⟨(h a ha).1.1.1.1.1.2, (h a ha).1.1.1.1.2⟩
    mo := fun a ha => ⟨(h a ha).1.1.1.2, (h a ha).1.1.2⟩
    idem := fun a ha => (h a ha).1.2
    swap := fun a b ha hb => ((h a ha).2 b hb).1.2
    jass := fun a b c ha hb hc => (((h a ha).2 b hb).2 c hc).1.1.1
    mass := fun a b c ha hb hc => (((h a ha).2 b hb).2 c hc).1.1.2
    over := fun a b c ha hb hc => ⟨(((h a ha).2 b hb).2 c hc).1.2, (((h a ha).2 b hb).2 c hc).2⟩ }
/-! ### the chains and the lots that are drawn -/
def tabF (t : List (List Nat)) (a b : Nat) : Nat := (t.getD a []).getD b 0
def sp4 : List (List Nat) := [[0, 0, 0, 0], [0, 0, 1, 1], [0, 0, 2, 2], [0, 1, 2, 3]]
def yes2 : List (List Nat) := [[0, 0], [0, 1]]
def tmF (k n a b : Nat) : Nat := if k = 0 then min a b else if k = 1 then a + b - (n - 1) else min a b * (if a = n - 1 ∨ b = n - 1 then 1 else 0)
def mx (a b : Nat) : Nat := max a b
theorem chain_ok : ∀ k, k < 3 → ∀ n, 2 ≤ n → n ≤ 5 → Rk n mx (tmF k n) 0 (n - 1) := by
  have h : ∀ k, k < 3 → ∀ n, n < 6 → 2 ≤ n → rkB n mx (tmF k n) 0 (n - 1) = true := by decide +kernel
  exact fun k hk n h2 h5 => rk_of (h k hk n (by omega) h2)
theorem sp4_ok : Rk 4 mx (tabF sp4) 0 3 := rk_of (by decide +kernel)
theorem yes_ok : Rk 2 mx (tabF yes2) 0 1 := rk_of (by decide +kernel)
def bitB (lot k : Nat) : Bool := decide (lot / 2 ^ k % 2 = 1)
def things (lot m : Nat) : List Nat := (List.range m).filter (bitB lot)
def lotF (P : Nat → Nat → Nat) (m a b : Nat) : Nat := (things a m).foldl (fun f x => (things b m).foldl (fun f y => f ||| 2 ^ P x y) f) 0
def lotL (P : Nat → Nat → Nat) (m a c : Nat) : Nat := (List.range m).foldl (fun f x => if ((List.range m).all fun y => bitB c (P y x) || !bitB a y) = true then f ||| 2 ^ x else f) 0
def lotR (P : Nat → Nat → Nat) (m a c : Nat) : Nat := (List.range m).foldl (fun f x => if ((List.range m).all fun y => bitB c (P x y) || !bitB a y) = true then f ||| 2 ^ x else f) 0
def orF (a b : Nat) : Nat := a ||| b
def andF (a b : Nat) : Nat := a &&& b
def t7 : List (List (List Nat) × Nat) := [([[0, 1], [1, 1]], 0), ([[0, 1], [1, 0]], 0), ([[0, 0], [0, 1]], 1), ([[0, 1, 2], [1, 1, 1], [2, 2, 2]], 0), ([[0, 1, 2], [1, 1, 2], [2, 1, 2]], 0), ([[0, 0, 0], [0, 1, 2], [2, 2, 2]], 1), ([[0, 1, 2], [1, 2, 0], [2, 0, 1]], 0)]
def monB (P : Nat → Nat → Nat) (m o : Nat) : Bool := decide (1 ≤ m) && decide (m ≤ 3) && decide (o < m) && (List.range m).all fun a => decide (P o a = a) && decide (P a o = a) && (List.range m).all fun b => decide (P a b < m) && (List.range m).all fun c => decide (P (P a b) c = P a (P b c))
def lotsB (P : Nat → Nat → Nat) (m o : Nat) : Bool := monB P m o && rkB (2 ^ m) orF (lotF P m) 0 (2 ^ o) && decide (topF (2 ^ m) orF 0 = 2 ^ m - 1) &&
  (List.range (2 ^ m)).all fun a => (List.range (2 ^ m)).all fun c => decide (metF (2 ^ m) orF 0 a c = andF a c) && decide (leftF (2 ^ m) orF (lotF P m) 0 a c = lotL P m a c) && decide (rightF (2 ^ m) orF (lotF P m) 0 c a = lotR P m a c) && (decide (orF a c = c) == decide (andF a c = a))
theorem lots_all : ∀ e ∈ t7, lotsB (tabF e.1) e.1.length e.2 = true := by decide +kernel
/-- what holds of the lots of a drawn monoid -/
structure Lots (P : Nat → Nat → Nat) (m o : Nat) : Prop where
  m1 : 1 ≤ m
  m3 : m ≤ 3
  om : o < m
  one : ∀ a, a < m → P o a = a ∧ P a o = a
  cl : ∀ a b, a < m → b < m → P a b < m
  ass : ∀ a b c, a < m → b < m → c < m → P (P a b) c = P a (P b c)
  rk : Rk (2 ^ m) orF (lotF P m) 0 (2 ^ o)
  top : topF (2 ^ m) orF 0 = 2 ^ m - 1
  met : ∀ a c, a < 2 ^ m → c < 2 ^ m → metF (2 ^ m) orF 0 a c = andF a c
  lef : ∀ a c, a < 2 ^ m → c < 2 ^ m → leftF (2 ^ m) orF (lotF P m) 0 a c = lotL P m a c
  rig : ∀ a c, a < 2 ^ m → c < 2 ^ m → rightF (2 ^ m) orF (lotF P m) 0 c a = lotR P m a c
  bel : ∀ a c, a < 2 ^ m → c < 2 ^ m → (orF a c = c ↔ andF a c = a)
theorem lots_of {P : Nat → Nat → Nat} {m o : Nat} (h : lotsB P m o = true) : Lots P m o := by
  unfold lotsB monB at h
  simp only [Bool.and_eq_true, decide_eq_true_iff, List.all_eq_true, List.mem_range, beq_iff_eq] at h
  obtain ⟨⟨⟨⟨⟨⟨h1, h2⟩, h3⟩, h4⟩, h5⟩, h6⟩, h7⟩ := h
  exact {
    m1 := h1, m3 := h2, om := h3
    one := fun a ha => (h4 a ha).1
    cl := fun a b ha hb => ((h4 a ha).2 b hb).1
    ass := fun a b c ha hb hc => ((h4 a ha).2 b hb).2 c hc
    rk := rk_of h5, top := h6
    met := fun a c ha hc => (h7 a ha c hc).1.1.1
    lef := fun a c ha hc => (h7 a ha c hc).1.1.2
    rig := fun a c ha hc => (h7 a ha c hc).1.2
    bel := fun a c ha hc => by
      have := (h7 a ha c hc).2
      exact decide_eq_decide.mp this }
end Mr

namespace W
open PySem PySem.Spec PyProof.Rows L2
def top (i : Nat) : Stmt := PySem.Challenge.pw_watchedways_k59_whole_roads_that_part.main.body.getD i (.Pass ⟨0, 0, 0, 0⟩)
abbrev s_is_letters : Stmt := top 10
abbrev s_is_word : Stmt := top 11
abbrev s_is_watch : Stmt := top 12
abbrev s_check_word : Stmt := top 13
abbrev s_Book_init : Stmt := inClass (top 16) 0
abbrev s_check_book : Stmt := top 17
abbrev s_links_of : Stmt := top 19
abbrev s_grown : Stmt := top 20
abbrev s_cut : Stmt := top 22
abbrev s_two_copies : Stmt := top 24
abbrev s_parting_roads : Stmt := top 25
abbrev s_l_pool : Stmt := top 27
abbrev s_l_draw : Stmt := top 28
abbrev s_l_word : Stmt := top 29
abbrev s_l_letters : Stmt := top 30
abbrev s_l_path : Stmt := top 31
abbrev s_l_rule : Stmt := top 32
abbrev s_l_watches : Stmt := top 33
abbrev s_l_reach : Stmt := top 34
abbrev s_l_book_word : Stmt := top 35
abbrev s_l_counts : Stmt := top 36
abbrev s_l_flags : Stmt := top 37
abbrev s_l_is_place : Stmt := top 38
abbrev s_l_are_roads : Stmt := top 39
abbrev s_l_long : Stmt := top 40
abbrev s_l_plain : Stmt := top 41
abbrev s_l_parts : Stmt := top 42
abbrev s_law : Stmt := top 43
theorem sc_is_letters : FnScope ["value", "letter"] ["value"] (defScope s_is_letters) := ⟨rfl, rfl, rfl, by decide +kernel, rfl, by decide +kernel, by decide +kernel⟩
theorem sc_is_word : FnScope ["thing"] ["thing"] (defScope s_is_word) := ⟨rfl, rfl, rfl, by decide +kernel, rfl, by decide +kernel, by decide +kernel⟩
theorem sc_is_watch : FnScope ["thing"] ["thing"] (defScope s_is_watch) := ⟨rfl, rfl, rfl, by decide +kernel, rfl, by decide +kernel, by decide +kernel⟩
theorem sc_check_word : FnScope ["word"] ["word"] (defScope s_check_word) := ⟨rfl, rfl, rfl, by decide +kernel, rfl, by decide +kernel, by decide +kernel⟩
theorem sc_Book_init : FnScope ["self", "watches", "found", "at", "watch"] ["self", "watches"] (defScope s_Book_init) := ⟨rfl, rfl, rfl, by decide +kernel, rfl, by decide +kernel, by decide +kernel⟩
theorem sc_check_book : FnScope ["book"] ["book"] (defScope s_check_book) := ⟨rfl, rfl, rfl, by decide +kernel, rfl, by decide +kernel, by decide +kernel⟩
theorem sc_links_of : FnScope ["watches", "word", "spot", "found", "watch", "row"] ["watches", "word"] (defScope s_links_of) := ⟨rfl, rfl, rfl, by decide +kernel, rfl, by decide +kernel, by decide +kernel⟩
theorem sc_grown : FnScope ["links", "spots", "found", "at", "spot"] ["links", "spots"] (defScope s_grown) := ⟨rfl, rfl, rfl, by decide +kernel, rfl, by decide +kernel, by decide +kernel⟩
theorem sc_cut : FnScope ["book", "word", "spots"] ["book", "word"] (defScope s_cut) := ⟨rfl, rfl, rfl, by decide +kernel, rfl, by decide +kernel, by decide +kernel⟩
theorem sc_two_copies : FnScope ["word", "spots", "many", "one", "other", "copy", "spot", "letter", "ends", "turned", "at"] ["word", "spots"] (defScope s_two_copies) := ⟨rfl, rfl, rfl, by decide +kernel, rfl, by decide +kernel, by decide +kernel⟩
theorem sc_parting_roads : FnScope ["book", "word", "spots"] ["book", "word"] (defScope s_parting_roads) := ⟨rfl, rfl, rfl, by decide +kernel, rfl, by decide +kernel, by decide +kernel⟩
theorem sc_l_pool : FnScope ["_law_script", "_law_cell", "_law_cells", "_law_number"] ["_law_script"] (defScope s_l_pool) := ⟨rfl, rfl, rfl, by decide +kernel, rfl, by decide +kernel, by decide +kernel⟩
theorem sc_l_draw : FnScope ["_law_pool_here", "_law_many", "_law_great", "_law_digit"] ["_law_pool_here", "_law_many"] (defScope s_l_draw) := ⟨rfl, rfl, rfl, by decide +kernel, rfl, by decide +kernel, by decide +kernel⟩
theorem sc_l_word : FnScope ["_law_pool_here", "_law_letters_here", "_law_many", "_law_k"] ["_law_pool_here", "_law_letters_here", "_law_many"] (defScope s_l_word) := ⟨rfl, rfl, rfl, by decide +kernel, rfl, by decide +kernel, by decide +kernel⟩
theorem sc_l_letters : FnScope ["_law_pool_here", "_law_many", "_law_left", "_law_found", "_law_k", "_law_at"] ["_law_pool_here", "_law_many"] (defScope s_l_letters) := ⟨rfl, rfl, rfl, by decide +kernel, rfl, by decide +kernel, by decide +kernel⟩
theorem sc_l_path : FnScope ["_law_pool_here", "_law_last", "_law_most", "_law_found", "_law_k", "_law_spot"] ["_law_pool_here", "_law_last", "_law_most"] (defScope s_l_path) := ⟨rfl, rfl, rfl, by decide +kernel, rfl, by decide +kernel, by decide +kernel⟩
theorem sc_l_rule : FnScope ["_law_word_here", "_law_path_here", "_law_steps", "_law_one", "_law_other"] ["_law_word_here", "_law_path_here"] (defScope s_l_rule) := ⟨rfl, rfl, rfl, by decide +kernel, rfl, by decide +kernel, by decide +kernel⟩
theorem sc_l_watches : FnScope ["_law_all_steps", "_law_found", "_law_steps", "_law_way", "_law_watch"] ["_law_all_steps"] (defScope s_l_watches) := ⟨rfl, rfl, rfl, by decide +kernel, rfl, by decide +kernel, by decide +kernel⟩
theorem sc_l_reach : FnScope ["_law_watches_here", "_law_word_here", "_law_found", "_law_k", "_law_spot", "_law_watch", "_law_many"] ["_law_watches_here", "_law_word_here"] (defScope s_l_reach) := ⟨rfl, rfl, rfl, by decide +kernel, rfl, by decide +kernel, by decide +kernel⟩
theorem sc_l_book_word : FnScope ["_law_pool_here", "_law_most", "_law_letters_here", "_law_word_here", "_law_watches_here", "_law_watch", "_law_k", "_law_start"] ["_law_pool_here", "_law_most", "_law_letters_here"] (defScope s_l_book_word) := ⟨rfl, rfl, rfl, by decide +kernel, rfl, by decide +kernel, by decide +kernel⟩
theorem sc_l_counts : FnScope ["_law_roads", "_law_size", "_law_word_here", "_law_p", "_law_found", "_law_letter", "_law_later", "_law_row", "_law_one", "_law_sign", "_law_other", "_law_q"] ["_law_roads", "_law_size", "_law_word_here"] (defScope s_l_counts) := ⟨rfl, rfl, rfl, by decide +kernel, rfl, by decide +kernel, by decide +kernel⟩
theorem sc_l_flags : FnScope ["_law_counts_here", "_law_row", "_law_number"] ["_law_counts_here"] (defScope s_l_flags) := ⟨rfl, rfl, rfl, by decide +kernel, rfl, by decide +kernel, by decide +kernel⟩
theorem sc_l_is_place : FnScope ["_law_thing", "_law_places"] ["_law_thing", "_law_places"] (defScope s_l_is_place) := ⟨rfl, rfl, rfl, by decide +kernel, rfl, by decide +kernel, by decide +kernel⟩
theorem sc_l_are_roads : FnScope ["_law_roads", "_law_places", "_law_most", "_law_road"] ["_law_roads", "_law_places", "_law_most"] (defScope s_l_are_roads) := ⟨rfl, rfl, rfl, by decide +kernel, rfl, by decide +kernel, by decide +kernel⟩
theorem sc_l_long : FnScope ["_law_pool_here", "_law_letters_here", "_law_part", "_law_word_here", "_law_watches_here", "_law_k", "_law_start", "_law_watch"] ["_law_pool_here", "_law_letters_here"] (defScope s_l_long) := ⟨rfl, rfl, rfl, by decide +kernel, rfl, by decide +kernel, by decide +kernel⟩
theorem sc_l_plain : FnScope ["_law_roads", "_law_places", "_law_found", "_law_one", "_law_letter", "_law_other", "_law_road"] ["_law_roads", "_law_places"] (defScope s_l_plain) := ⟨rfl, rfl, rfl, by decide +kernel, rfl, by decide +kernel, by decide +kernel⟩
theorem sc_l_parts : FnScope ["_law_watches_here", "_law_word_here", "_law_told", "_law_roads", "_law_places", "_law_road", "_law_one", "_law_other", "_law_size", "_law_watch", "_law_place"] ["_law_watches_here", "_law_word_here", "_law_told"] (defScope s_l_parts) := ⟨rfl, rfl, rfl, by decide +kernel, rfl, by decide +kernel, by decide +kernel⟩
theorem sc_law : FnScope ["_law_script", "_law_pool_here", "_law_letters_here", "_law_turn", "_law_word_here", "_law_watches_here", "_law_book", "_law_told"] ["_law_script"] (defScope s_law) := ⟨rfl, rfl, rfl, by decide +kernel, rfl, by decide +kernel, by decide +kernel⟩
structure Txt (K : PySem.W.Frag) (mg : Str → Option Value) where
  C_Book : Addr
  c_Book : mg "Book" = some (.ref C_Book)
  cl_Book : Cls K C_Book
  ty_Book : OwnTy K C_Book
  na_Book_watches : NoAttr K C_Book "watches"
  f_is_letters : Addr
  fd_is_letters : FuncData
  F_is_letters : Fun K "is_letters" "is_letters" s_is_letters f_is_letters fd_is_letters
  g_is_letters : mg "is_letters" = some (.ref f_is_letters)
  b_is_letters : Binds K fd_is_letters ["value"] []
  f_is_word : Addr
  fd_is_word : FuncData
  F_is_word : Fun K "is_word" "is_word" s_is_word f_is_word fd_is_word
  g_is_word : mg "is_word" = some (.ref f_is_word)
  b_is_word : Binds K fd_is_word ["thing"] []
  f_is_watch : Addr
  fd_is_watch : FuncData
  F_is_watch : Fun K "is_watch" "is_watch" s_is_watch f_is_watch fd_is_watch
  g_is_watch : mg "is_watch" = some (.ref f_is_watch)
  b_is_watch : Binds K fd_is_watch ["thing"] []
  f_check_word : Addr
  fd_check_word : FuncData
  F_check_word : Fun K "check_word" "check_word" s_check_word f_check_word fd_check_word
  g_check_word : mg "check_word" = some (.ref f_check_word)
  b_check_word : Binds K fd_check_word ["word"] []
  f_Book_init : Addr
  fd_Book_init : FuncData
  F_Book_init : Fun K "__init__" "Book.__init__" s_Book_init f_Book_init fd_Book_init
  M_Book : Mk K C_Book f_Book_init
  b_Book_init : Binds K fd_Book_init ["self", "watches"] []
  f_check_book : Addr
  fd_check_book : FuncData
  F_check_book : Fun K "check_book" "check_book" s_check_book f_check_book fd_check_book
  g_check_book : mg "check_book" = some (.ref f_check_book)
  b_check_book : Binds K fd_check_book ["book"] []
  f_links_of : Addr
  fd_links_of : FuncData
  F_links_of : Fun K "links_of" "links_of" s_links_of f_links_of fd_links_of
  g_links_of : mg "links_of" = some (.ref f_links_of)
  b_links_of : Binds K fd_links_of ["watches", "word"] []
  f_grown : Addr
  fd_grown : FuncData
  F_grown : Fun K "grown" "grown" s_grown f_grown fd_grown
  g_grown : mg "grown" = some (.ref f_grown)
  b_grown : Binds K fd_grown ["links", "spots"] []
  f_cut : Addr
  fd_cut : FuncData
  F_cut : Fun K "cut" "cut" s_cut f_cut fd_cut
  g_cut : mg "cut" = some (.ref f_cut)
  b_cut : Binds K fd_cut ["book", "word"] []
  f_two_copies : Addr
  fd_two_copies : FuncData
  F_two_copies : Fun K "two_copies" "two_copies" s_two_copies f_two_copies fd_two_copies
  g_two_copies : mg "two_copies" = some (.ref f_two_copies)
  b_two_copies : Binds K fd_two_copies ["word", "spots"] []
  f_parting_roads : Addr
  fd_parting_roads : FuncData
  F_parting_roads : Fun K "parting_roads" "parting_roads" s_parting_roads f_parting_roads fd_parting_roads
  g_parting_roads : mg "parting_roads" = some (.ref f_parting_roads)
  b_parting_roads : Binds K fd_parting_roads ["book", "word"] []
  f_l_pool : Addr
  fd_l_pool : FuncData
  F_l_pool : Fun K "_law_pool" "_law_pool" s_l_pool f_l_pool fd_l_pool
  g_l_pool : mg "_law_pool" = some (.ref f_l_pool)
  b_l_pool : Binds K fd_l_pool ["_law_script"] []
  f_l_draw : Addr
  fd_l_draw : FuncData
  F_l_draw : Fun K "_law_draw" "_law_draw" s_l_draw f_l_draw fd_l_draw
  g_l_draw : mg "_law_draw" = some (.ref f_l_draw)
  b_l_draw : Binds K fd_l_draw ["_law_pool_here", "_law_many"] []
  f_l_word : Addr
  fd_l_word : FuncData
  F_l_word : Fun K "_law_word" "_law_word" s_l_word f_l_word fd_l_word
  g_l_word : mg "_law_word" = some (.ref f_l_word)
  b_l_word : Binds K fd_l_word ["_law_pool_here", "_law_letters_here", "_law_many"] []
  f_l_letters : Addr
  fd_l_letters : FuncData
  F_l_letters : Fun K "_law_letters" "_law_letters" s_l_letters f_l_letters fd_l_letters
  g_l_letters : mg "_law_letters" = some (.ref f_l_letters)
  b_l_letters : Binds K fd_l_letters ["_law_pool_here", "_law_many"] []
  f_l_path : Addr
  fd_l_path : FuncData
  F_l_path : Fun K "_law_path" "_law_path" s_l_path f_l_path fd_l_path
  g_l_path : mg "_law_path" = some (.ref f_l_path)
  b_l_path : Binds K fd_l_path ["_law_pool_here", "_law_last", "_law_most"] []
  f_l_rule : Addr
  fd_l_rule : FuncData
  F_l_rule : Fun K "_law_rule" "_law_rule" s_l_rule f_l_rule fd_l_rule
  g_l_rule : mg "_law_rule" = some (.ref f_l_rule)
  b_l_rule : Binds K fd_l_rule ["_law_word_here", "_law_path_here"] []
  f_l_watches : Addr
  fd_l_watches : FuncData
  F_l_watches : Fun K "_law_watches" "_law_watches" s_l_watches f_l_watches fd_l_watches
  g_l_watches : mg "_law_watches" = some (.ref f_l_watches)
  b_l_watches : Binds K fd_l_watches ["_law_all_steps"] []
  f_l_reach : Addr
  fd_l_reach : FuncData
  F_l_reach : Fun K "_law_reach" "_law_reach" s_l_reach f_l_reach fd_l_reach
  g_l_reach : mg "_law_reach" = some (.ref f_l_reach)
  b_l_reach : Binds K fd_l_reach ["_law_watches_here", "_law_word_here"] []
  f_l_book_word : Addr
  fd_l_book_word : FuncData
  F_l_book_word : Fun K "_law_book_word" "_law_book_word" s_l_book_word f_l_book_word fd_l_book_word
  g_l_book_word : mg "_law_book_word" = some (.ref f_l_book_word)
  b_l_book_word : Binds K fd_l_book_word ["_law_pool_here", "_law_most", "_law_letters_here"] []
  f_l_counts : Addr
  fd_l_counts : FuncData
  F_l_counts : Fun K "_law_counts" "_law_counts" s_l_counts f_l_counts fd_l_counts
  g_l_counts : mg "_law_counts" = some (.ref f_l_counts)
  b_l_counts : Binds K fd_l_counts ["_law_roads", "_law_size", "_law_word_here"] []
  f_l_flags : Addr
  fd_l_flags : FuncData
  F_l_flags : Fun K "_law_flags" "_law_flags" s_l_flags f_l_flags fd_l_flags
  g_l_flags : mg "_law_flags" = some (.ref f_l_flags)
  b_l_flags : Binds K fd_l_flags ["_law_counts_here"] []
  f_l_is_place : Addr
  fd_l_is_place : FuncData
  F_l_is_place : Fun K "_law_is_place" "_law_is_place" s_l_is_place f_l_is_place fd_l_is_place
  g_l_is_place : mg "_law_is_place" = some (.ref f_l_is_place)
  b_l_is_place : Binds K fd_l_is_place ["_law_thing", "_law_places"] []
  f_l_are_roads : Addr
  fd_l_are_roads : FuncData
  F_l_are_roads : Fun K "_law_are_roads" "_law_are_roads" s_l_are_roads f_l_are_roads fd_l_are_roads
  g_l_are_roads : mg "_law_are_roads" = some (.ref f_l_are_roads)
  b_l_are_roads : Binds K fd_l_are_roads ["_law_roads", "_law_places", "_law_most"] []
  f_l_long : Addr
  fd_l_long : FuncData
  F_l_long : Fun K "_law_long" "_law_long" s_l_long f_l_long fd_l_long
  g_l_long : mg "_law_long" = some (.ref f_l_long)
  b_l_long : Binds K fd_l_long ["_law_pool_here", "_law_letters_here"] []
  f_l_plain : Addr
  fd_l_plain : FuncData
  F_l_plain : Fun K "_law_plain" "_law_plain" s_l_plain f_l_plain fd_l_plain
  g_l_plain : mg "_law_plain" = some (.ref f_l_plain)
  b_l_plain : Binds K fd_l_plain ["_law_roads", "_law_places"] []
  f_l_parts : Addr
  fd_l_parts : FuncData
  F_l_parts : Fun K "_law_parts" "_law_parts" s_l_parts f_l_parts fd_l_parts
  g_l_parts : mg "_law_parts" = some (.ref f_l_parts)
  b_l_parts : Binds K fd_l_parts ["_law_watches_here", "_law_word_here", "_law_told"] []
  f_law : Addr
  fd_law : FuncData
  F_law : Fun K "law" "law" s_law f_law fd_law
  g_law : mg "law" = some (.ref f_law)
  b_law : Binds K fd_law ["_law_script"] []
  n_isinstance : mg "isinstance" = none
  n_str : mg "str" = none
  n_all : mg "all" = none
  n_len : mg "len" = none
  n_enumerate : mg "enumerate" = none
  n_tuple : mg "tuple" = none
  n_list : mg "list" = none
  n_range : mg "range" = none
  n_sorted : mg "sorted" = none
  n_int : mg "int" = none
  n_abs : mg "abs" = none
  n_zip : mg "zip" = none
  n_bool : mg "bool" = none
  n_min : mg "min" = none
  t_LETTERS : Tok
  m_LETTERS : mg "LETTERS" = some (.str "abcdefghijklmnopqrstuvwxyz" t_LETTERS)
  t_MOST_WORD : Tok
  m_MOST_WORD : mg "MOST_WORD" = some (.int 40 t_MOST_WORD)
  t_MOST_WATCH : Tok
  m_MOST_WATCH : mg "MOST_WATCH" = some (.int 12 t_MOST_WATCH)
  t_MOST_WATCHES : Tok
  m_MOST_WATCHES : mg "MOST_WATCHES" = some (.int 12 t_MOST_WATCHES)
end W

local macro_rules | `(tactic| walk_at "rd") => `(tactic| repeat (first
  | with_reducible refine Rd.seq ?_ | with_reducible refine Rd.asg ?_ | with_reducible refine Rd.name ?_ | with_reducible refine Rd.var rfl ?_ | with_reducible refine Rd.con ?_ | with_reducible refine Rd.op ?_
  | with_reducible refine Rd.ret ?_ | with_reducible refine Rd.ifS ?_ | with_reducible refine Rd.test ?_ | with_reducible refine Rd.tstB ?_ | with_reducible refine Rd.bl ?_ | with_reducible refine Rd.blE ?_
  | with_reducible refine Rd.nil ?_ | with_reducible refine Rd.cons ?_ | with_reducible refine Rd.cb ?_ | with_reducible refine Rd.call ?_ | with_reducible refine Rd.un ?_
  | with_reducible refine Rd.i0 ?_ | with_reducible refine Rd.u1 ?_ | with_reducible refine Rd.eqI ?_ | with_reducible refine Rd.neI ?_ | with_reducible refine Rd.eqB ?_ | with_reducible refine Rd.neB ?_ | with_reducible refine Rd.eqS ?_ | with_reducible refine Rd.neS ?_
  | with_reducible refine Rd.and ?_ | with_reducible refine Rd.or ?_ | with_reducible refine Rd.not ?_ | with_reducible refine Rd.andV ?_ | with_reducible refine Rd.orV ?_ | with_reducible refine Rd.notV ?_ | with_reducible refine Rd.ifE ?_ | with_reducible refine Rd.chain ?_
  | with_reducible refine Rd.tup ?_ | with_reducible refine Rd.lst ?_ | with_reducible refine Rd.nxt ?_ | with_reducible refine Rd.retN ?_ | with_reducible refine Rd.drop ?_ | with_reducible refine Rd.brk ?_ | with_reducible refine Rd.cont ?_
  | with_reducible refine Rd.a1 ?_ | with_reducible refine Rd.a2 ?_ | with_reducible refine Rd.v2 ?_ | with_reducible refine Rd.int ?_ | with_reducible refine Rd.abs ?_ | with_reducible refine Rd.max2 ?_ | with_reducible refine Rd.min2 ?_ | with_reducible refine Rd.bm ?_ | with_reducible refine Rd.bm0 ?_ | with_reducible refine Rd.sl ?_ | with_reducible refine Rd.part ?_ | with_reducible refine Rd.noPart ?_ | with_reducible refine Rd.intE ?_ | with_reducible refine Rd.revL ?_ | with_reducible refine Rd.enx ?_ | with_reducible refine Rd.ebk ?_ | with_reducible refine Rd.ect ?_ | with_reducible refine Rd.ert ?_ | with_reducible refine Rd.gcons ?_ | with_reducible refine Rd.gnil ?_ | with_reducible refine Rd.par ?_ | with_reducible refine Rd.sub ?_ | with_reducible refine Rd.iter ?_ | with_reducible refine Rd.iterT ?_ | with_reducible refine Rd.rng1 ?_ | with_reducible refine Rd.refE ?_ | with_reducible refine Rd.aug rfl ?_ | with_reducible refine Rd.ipi ?_ | with_reducible refine Rd.lc ?_ | with_reducible refine Rd.tyes ?_ | with_reducible refine Rd.fldH ?_ | with_reducible refine Rd.sfldH ?_ | with_reducible refine Rd.mkH ?_ | with_reducible refine Rd.methH ?_ | with_reducible refine Rd.istr ?_ | with_reducible refine Rd.strE ?_ | with_reducible refine Rd.lstRg ?_ | with_reducible refine Rd.m1 ?_ | with_reducible refine Rd.dgetH ?_ | with_reducible refine Rd.dinH ?_ | with_reducible refine Rd.dninH ?_ | with_reducible refine Rd.dget1H ?_ | with_reducible refine Rd.strX ?_ | with_reducible refine Rd.tupRg ?_ | with_reducible refine Rd.rg1 ?_ | with_reducible refine Rd.rg2 ?_ | with_reducible refine Rd.intE2 ?_ | with_reducible refine Rw.zipH ?_ | with_reducible refine Rw.itemsH ?_ | with_reducible refine Rw.keysH ?_ | with_reducible refine Rw.dc ?_ | with_reducible refine Rw.ckw ?_ | with_reducible refine Rd.notT ?_ | with_reducible refine Rx.raiseH ?_ | with_reducible refine Rx.callS ?_ | with_reducible refine Rx.xvH ?_ | with_reducible refine Rx.rng3 ?_
  | with_reducible refine L2.iteT ?_ | with_reducible refine L2.iteF ?_
  | with_reducible refine Rd.iteb ?_ | with_reducible refine Rd.iten ?_ | with_reducible refine Rd.itbn ?_))

local macro_rules | `(tactic| walk_at "yes") => `(tactic| (refine (if_pos (by first | assumption | omega)).mpr ?_))
local macro_rules | `(tactic| walk_at "no") => `(tactic| (refine (if_neg (by first | assumption | omega)).mpr ?_))

local macro_rules | `(tactic| k_extra "ne") => `(tactic| first
  | with_reducible assumption | with_reducible exact Ne.symm (by with_reducible assumption) | with_reducible exact Rd.ntT (by with_reducible assumption) (by k_extra "tape")
  | with_reducible exact Rd.neN (by with_reducible assumption) (by k_extra "at") | with_reducible exact Rd.neN' (by with_reducible assumption) (by k_extra "at"))
local macro_rules | `(tactic| k_extra "tape") => `(tactic| first
  | with_reducible assumption | with_reducible exact Rd.tape_same (by with_reducible assumption) (by k_extra "tape"))
local macro_rules | `(tactic| k_extra "at") => `(tactic| first
  | with_reducible assumption
  | with_reducible exact Rd.at_same (by with_reducible assumption) (by k_extra "at")
  | with_reducible exact Rd.at_off (by with_reducible assumption) (by k_extra "ne") (by k_extra "at")
  | with_reducible exact Rd.at_but (by with_reducible assumption) (by k_extra "ne") (by k_extra "at"))
local macro_rules | `(tactic| k_extra "bk") => `(tactic| first
  | with_reducible assumption
  | with_reducible exact Rd.book_same (by with_reducible assumption) (by k_extra "bk")
  | with_reducible exact Rd.book_but (by with_reducible assumption) (by k_extra "tape") (by k_extra "bk"))
local macro_rules | `(tactic| k_extra "sqL") => `(tactic| first
  | with_reducible assumption | with_reducible exact L2.Same.seq (by with_reducible assumption) (by k_extra "sqL"))
local macro_rules | `(tactic| k_extra "sqT") => `(tactic| first
  | with_reducible assumption | with_reducible exact Ru.same_tup (by with_reducible assumption) (by k_extra "sqT"))
local macro_rules | `(tactic| k_extra "sq") => `(tactic| first
  | with_reducible assumption | (with_reducible show L2.SqL _ _ _ _; first | exact L2.SqL.of (by k_extra "at") | k_extra "sqL") | (with_reducible show L2.SqT _ _ _ _; first | exact L2.SqT.of (by k_extra "at") | k_extra "sqT"))
local macro_rules | `(tactic| k_extra "row") => `(tactic| first
  | with_reducible assumption | exact Or.inl (L2.SqL.of (by k_extra "at")) | exact Or.inr (L2.SqT.of (by k_extra "at")) | exact Or.inl (by k_extra "sqL") | exact Or.inr (by k_extra "sqT"))
local macro_rules | `(tactic| k_extra "same") => `(tactic| first
  | with_reducible exact L2.Same.refl _ | with_reducible assumption
  | with_reducible exact Rd.same_tr (by with_reducible assumption) (by k_extra "same")
  | with_reducible exact Rd.same_of2 (by with_reducible assumption) (by with_reducible assumption) (by k_extra "same"))
local macro_rules | `(tactic| k_extra "but") => `(tactic| first
  | with_reducible exact Rd.But.refl _ _ | with_reducible assumption
  | with_reducible exact Rd.but_tr (by with_reducible assumption) (by k_extra "but")
  | with_reducible exact Rd.but_sm (by with_reducible assumption) (by k_extra "but")
  | with_reducible exact Rd.but_of2 (by with_reducible assumption) (by with_reducible assumption) (by k_extra "but"))
local macro_rules | `(tactic| k_extra "sz") => `(tactic| first
  | with_reducible assumption | with_reducible exact Lt.Wd.line (by with_reducible assumption) (by decide) | (rw [PySem.sizeLine_eq]; omega)
  | (simp only [List.length_map, List.length_append, List.length_cons, List.length_nil, List.length_take] <;> rw [PySem.sizeLine_eq] <;> omega) | exact Nat.le_of_ble_eq_true rfl)
local macro_rules | `(tactic| k_extra "go1") => `(tactic| first
  | (with_reducible show Rd.nLenS _ _ _; refine Rd.lenStr (by k_extra "sz") ?_)
  | (with_reducible show Rd.nLen _ _ _ _; first | refine Rd.lenS (by k_extra "row") ?_ | refine Rd.lenI (by k_extra "row") ?_ | refine Rd.lenR (by k_extra "row") ?_)
  | (with_reducible show L2.rSlS _ _ _ _ _; refine Rd.slS (by k_extra "sz") ?_)
  | (with_reducible show L2.tyV _ "list" _ _ ∧ _; refine Rd.tyL (by k_extra "sq") ?_)
  | (with_reducible show Rd.nAddS _ _ _ _; refine Rd.addS (by k_extra "sz") ?_)
  | (with_reducible show L2.rIsi _ _ _ _; first | with_reducible refine Rd.isiStr ?_ | with_reducible refine Rd.isiB ?_ | with_reducible refine Rd.isiI ?_ | with_reducible refine Rd.isiIB ?_ | (first | with_reducible refine Rx.askInt (by with_reducible assumption) ?_ | with_reducible refine Rx.askBl (by with_reducible assumption) ?_ | with_reducible refine Rx.askStr (by with_reducible assumption) ?_ | with_reducible refine Rx.askLst (by with_reducible assumption) ?_ | with_reducible refine Rx.askTup (by with_reducible assumption) ?_ | with_reducible refine Rx.askDct (by with_reducible assumption) ?_))
  | (with_reducible show L2.rIn _ _ _ _ _ _; first | refine Rd.inStrsY (by k_extra "row") ?_ | refine Rd.inStrsN (by k_extra "row") ?_ | refine Rd.inIntsY (by k_extra "row") ?_ | refine Rd.inIntsN (by k_extra "row") ?_)
  | with_reducible refine And.intro (Eq.refl L2.V.non) ?_ | with_reducible refine Rd.ifN ?_ | with_reducible refine Rd.ifR ?_ | with_reducible refine Rd.ifI ?_ | with_reducible refine Rd.ifT ?_)
local macro_rules | `(tactic| walk_at "go") => `(tactic| (walk_at "rd"; repeat (k_extra "go1"; walk_at "rd")))
local macro_rules | `(tactic| walk_at "ifs") => `(tactic| (walk_at "go"; repeat (first | (refine Rd.no (by decide) ?_; walk_at "go") | (refine Rd.yes (by decide) ?_; walk_at "go"))))

namespace W
open PySem PySem.Spec PyProof.Rows L2
section
variable {P : Program} {w : World} {K : PySem.W.Frag} {mg : Str → Option Value} {base : Heap}
/-! ### naturals as values -/
def natV (P : List Nat) : List V := (P.map fun i : Nat => (i : Int)).map V.int
theorem natV_len (P : List Nat) : (natV P).length = P.length := by
  unfold natV
  rw [List.length_map, List.length_map]
theorem natV_get {P : List Nat} {i : Nat} {x : V} (h : (natV P)[i]? = some x) : ∃ j, P[i]? = some j ∧ x = .int (j : Nat) := by
  unfold natV at h
  rw [List.map_map, List.getElem?_map] at h
  cases e : P[i]? with
  | none => rw [e] at h; cases h
  | some j => rw [e] at h; exact ⟨j, rfl, (Option.some.inj h).symm⟩
theorem mem_nat {P : List Nat} {i : Nat} : ((i : Int) ∈ P.map fun j : Nat => (j : Int)) ↔ i ∈ P := by
  rw [List.mem_map]
  constructor
  · rintro ⟨j, m, e⟩
    rw [show i = j by omega]
    exact m
  · exact fun m => ⟨i, m, rfl⟩
theorem paired_mono {α β : Type} {R S : α → β → Prop} {xs : List α} {ys : List β} (h : Paired R xs ys) (f : ∀ x y, R x y → S x y) : Paired S xs ys := by
  induction h with
  | nil => exact .nil
  | cons a _ ih => exact .cons (f _ _ a) ih
theorem paired_app {α β : Type} {R : α → β → Prop} {xs us : List α} {ys ws : List β} (h : Paired R xs ys) (k : Paired R us ws) : Paired R (xs ++ us) (ys ++ ws) := by
  induction h with
  | nil => exact k
  | cons a _ ih => exact .cons a ih
theorem paired_at {α β : Type} {R : α → β → Prop} {xs : List α} {ys : List β} (h : Paired R xs ys) : ∀ {i : Nat} {x : α}, xs[i]? = some x → ∃ y, ys[i]? = some y ∧ R x y := by
  induction h with
  | nil => intro i x e; simp at e
  | cons a _ ih =>
    intro i x e
    cases i with
    | zero => cases e; exact ⟨_, rfl, a⟩
    | succ i => exact ih e

end
end W

namespace W
open PySem PySem.Spec PyProof.Rows L2
section
variable {P : Program} {w : World} {K : PySem.W.Frag} {mg : Str → Option Value} {base : Heap}
/-! ### words and watches of letters -/
def sp_is_letters (K : PySem.W.Frag) : Sp := fun vs H Q _ => ∃ z : Str, vs = [.str z] ∧ Lt.Let z ∧ z.length ≤ 1000000 ∧ ∀ H', Same H H' → Q (.bl true) H'
def sp_is_word (K : PySem.W.Frag) : Sp := fun vs H Q _ => ∃ z : Str, vs = [.str z] ∧ Lt.Wd 40 z ∧ ∀ H', Same H H' → Q (.bl true) H'
def sp_is_watch (K : PySem.W.Frag) : Sp := fun vs H Q _ => ∃ z : Str, vs = [.str z] ∧ Lt.Wd 12 z ∧ ∀ H', Same H H' → Q (.bl true) H'
theorem ok_is_letters (T : Txt K mg) : FnOk P w K mg base CX0 1 T.f_is_letters T.fd_is_letters ["value"] (sp_is_letters K) := by
  refine T.F_is_letters.ok sc_is_letters (fun vs H Q E h => ?_) (fun cdv A outer s H vs Q E hr h => ?_)
  · obtain ⟨z, rfl, _⟩ := h
    rfl
  · obtain ⟨z, rfl, hz, hl, k⟩ := h
    refine ⟨_, (pss_one (ps_ret (pe_and (pe_callB (id := "isinstance") (r := rIsi K) call_isi (by rfl) T.n_isinstance (by decide +kernel) (pa_cons (pv 0) (pa_cons (pe_bltn (v := .ty "str") (u := .type "str") (by rfl) T.n_str (by decide +kernel) rfl) pa_nil))) (pe_one (pe_callB (id := "all") (r := rAll K) (cr_all rfl) (by rfl) T.n_all (by decide +kernel) (pa_cons (pe_lc (own := [("letter", 1)]) (g := gName 1) (tt := tYes) rfl sc_is_letters.nd (pi_str (pv 0)) (blkOk_by (own := [("letter", 1)]) (N := ["value", "letter"]) (sc := defScope s_is_letters) (by decide +kernel)) (fun _ _ _ _ _ => (pg_name (i := 1) sc_is_letters.nd rfl (.inl rfl))) (fun _ _ _ _ _ => pts_nil) (fun _ _ _ _ _ => (pe_cmpR Rd.o_inC (pv 1) (pe_glob (v := .str "abcdefghijklmnopqrstuvwxyz") rfl T.m_LETTERS ⟨_, rfl⟩) rfl))) pa_nil)))))), ?_⟩
    walk_at "rd"
    refine Rd.isiStr ?_
    walk_at "rd"
    refine Rd.lcS walk_str (fun _ _ => trivial) (fun _ i acc _ => acc = (List.replicate i true).map V.bl) (fun _ _ _ _ _ => rfl) ?_ ?_
    · rintro D i x G _ acc nD hi hD sm rfl ⟨rfl, c, hc, rfl⟩
      walk_at "rd"
      refine ⟨rfl, Rd.tyes ?_⟩
      walk_at "rd"
      have hc2 : c ∈ Lt.Abc.cps.toList := hz.char (i := i) (by simpa using hc)
      refine Rd.inCT hc2 ?_
      have hi2 : i < z.length := hi
      refine Rd.lcPush hD nD sm (by rw [List.length_map, List.length_replicate, sizeLine_eq]; omega) fun G _ _ => ?_
      rw [List.replicate_succ', List.map_append]
      rfl
    · rintro D acc G nD hD sm rfl
      refine Rd.all (.of hD) ?_
      rw [show (List.replicate z.cps.size true).all id = true by simp]
      exact k _ sm
theorem ok_is_word (T : Txt K mg) : FnOk P w K mg base CX0 2 T.f_is_word T.fd_is_word ["thing"] (sp_is_word K) := by
  refine T.F_is_word.ok sc_is_word (fun vs H Q E h => ?_) (fun cdv A outer s H vs Q E hr h => ?_)
  · obtain ⟨z, rfl, _⟩ := h
    rfl
  · obtain ⟨z, rfl, hz, k⟩ := h
    refine ⟨_, (pss_one (ps_ret (pe_and (pe_call (ok_is_letters T) (hr.mono (by decide)) rfl T.g_is_letters T.F_is_letters.kp T.b_is_letters .nil pass0 (pa_cons (pv 0) pa_nil)) (pe_one (pe_chain op_le op_le pe_int (pe_callB (id := "len") (r := _) Rd.c_lenS (by rfl) T.n_len (by decide +kernel) (pa_cons (pv 0) pa_nil)) (pe_glob (v := .int 40) rfl T.m_MOST_WORD ⟨_, rfl⟩)))))), ?_⟩
    have h0 := hz.l0
    have h1 := hz.l1
    walk_at "rd"
    refine ⟨z, rfl, hz.ok, by omega, fun H1 s1 => ?_⟩
    walk_at "rd"
    refine Rd.lenStr (hz.line (by decide)) ?_
    walk_at "rd"
    walk_at "yes"
    walk_at "rd"
    rw [decide_eq_true (by omega)]
    exact k _ s1
theorem ok_is_watch (T : Txt K mg) : FnOk P w K mg base CX0 2 T.f_is_watch T.fd_is_watch ["thing"] (sp_is_watch K) := by
  refine T.F_is_watch.ok sc_is_watch (fun vs H Q E h => ?_) (fun cdv A outer s H vs Q E hr h => ?_)
  · obtain ⟨z, rfl, _⟩ := h
    rfl
  · obtain ⟨z, rfl, hz, k⟩ := h
    refine ⟨_, (pss_one (ps_ret (pe_and (pe_call (ok_is_letters T) (hr.mono (by decide)) rfl T.g_is_letters T.F_is_letters.kp T.b_is_letters .nil pass0 (pa_cons (pv 0) pa_nil)) (pe_one (pe_chain op_le op_le pe_int (pe_callB (id := "len") (r := _) Rd.c_lenS (by rfl) T.n_len (by decide +kernel) (pa_cons (pv 0) pa_nil)) (pe_glob (v := .int 12) rfl T.m_MOST_WATCH ⟨_, rfl⟩)))))), ?_⟩
    have h0 := hz.l0
    have h1 := hz.l1
    walk_at "rd"
    refine ⟨z, rfl, hz.ok, by omega, fun H1 s1 => ?_⟩
    walk_at "rd"
    refine Rd.lenStr (hz.line (by decide)) ?_
    walk_at "rd"
    walk_at "yes"
    walk_at "rd"
    rw [decide_eq_true (by omega)]
    exact k _ s1

end
end W

namespace W
open PySem PySem.Spec PyProof.Rows L2
section
variable {P : Program} {w : World} {K : PySem.W.Frag} {mg : Str → Option Value} {base : Heap}
def sp_check_word (K : PySem.W.Frag) : Sp := fun vs H Q _ => ∃ z : Str, vs = [.str z] ∧ Lt.Wd 40 z ∧ ∀ H', Same H H' → Q (.str z) H'
theorem ok_check_word (T : Txt K mg) : FnOk P w K mg base CX0 4 T.f_check_word T.fd_check_word ["word"] (sp_check_word K) := by
  refine T.F_check_word.ok sc_check_word (fun vs H Q E h => ?_) (fun cdv A outer s H vs Q E hr h => ?_)
  · obtain ⟨z, rfl, _⟩ := h
    rfl
  · obtain ⟨z, rfl, hz, k⟩ := h
    refine ⟨_, (pss_cons (ps_if (pt_not (pt_val (pe_call (ok_is_word T) (hr.mono (by decide)) rfl T.g_is_word T.F_is_word.kp T.b_is_word .nil pass0 (pa_cons (pv 0) pa_nil))))
  (pss_one ps_never)
  pss_nil)
  (pss_one (ps_ret (pv 0)))), ?_⟩
    walk_at "rd"
    refine ⟨z, rfl, hz, fun H1 s1 => ?_⟩
    walk_at "rd"
    exact k _ s1

end
end W

namespace W
open PySem PySem.Spec PyProof.Rows L2
section
variable {P : Program} {w : World} {K : PySem.W.Frag} {mg : Str → Option Value} {base : Heap}
/-! ### books -/
def sp_Book_init (K : PySem.W.Frag) (C : Addr) : Sp := fun vs H Q _ => ∃ (b a : Addr) (ws : List Str), vs = [.ref b, .ref a] ∧ (∃ dx, H b = some (.ins C dx [])) ∧ Ru.SqR K H a (ws.map V.str) ∧ Watches ws ∧ ∀ H', BookAt C H' b ws → Rd.But b H H' → Q .non H'
def sp_check_book (K : PySem.W.Frag) (C : Addr) : Sp := fun vs H Q _ => ∃ (b : Addr) (ws : List Str), vs = [.ref b] ∧ BookAt C H b ws ∧ Q (.ref b) H
theorem ok_Book_init (T : Txt K mg) : FnOk P w K mg base CX0 4 T.f_Book_init T.fd_Book_init ["self", "watches"] (sp_Book_init K T.C_Book) := by
  refine T.F_Book_init.ok sc_Book_init (fun vs H Q E h => ?_) (fun cdv A outer s H vs Q E hr h => ?_)
  · obtain ⟨b, a, ws, rfl, _⟩ := h
    rfl
  · obtain ⟨b, a, ws, rfl, ⟨dx, hb⟩, hS, L, k⟩ := h
    refine ⟨_, (pss_cons (ps_if (PW.pt (pw_or (pt_not (pt_val (pe_callB (id := "isinstance") (r := rIsiT K) call_isiT (by rfl) T.n_isinstance (by decide +kernel) (pa_cons (pv 1) (pa_cons (pe_tup (pa_cons (pe_bltn (v := .ty "list") (u := .type "list") (by rfl) T.n_list (by decide +kernel) rfl) (pa_cons (pe_bltn (v := .ty "tuple") (u := .type "tuple") (by rfl) T.n_tuple (by decide +kernel) rfl) pa_nil))) pa_nil))))) (pw_or1 (pt_cmpR op_gt (pe_callB (id := "len") (r := Rd.nLen K) Rd.c_len (by rfl) T.n_len (by decide +kernel) (pa_cons (pv 1) pa_nil)) (pe_glob (v := .int 12) rfl T.m_MOST_WATCHES ⟨_, rfl⟩) (nomark _)))))
  (pss_one ps_never)
  pss_nil)
  (pss_cons (ps_set (i := 2) sc_Book_init.nd rfl (.inl rfl) (pe_lst pa_nil))
  (pss_cons (ps_for PassesOwn.never rfl (Ru.pi_or (pi_enum (by rfl) T.n_enumerate (pa_cons (pv 1) pa_nil)) (Ru.pi_enumT (by rfl) T.n_enumerate (pa_cons (pv 1) pa_nil))) (pg_tup rfl (pgs_cons (pg_name (i := 3) sc_Book_init.nd rfl (.inl rfl)) (pgs_cons (pg_name (i := 4) sc_Book_init.nd rfl (.inl rfl)) pgs_nil)))
  (pss_cons (ps_if (PW.pt (pw_or (pt_not (pt_val (pe_call (ok_is_watch T) (hr.mono (by decide)) rfl T.g_is_watch T.F_is_watch.kp T.b_is_watch .nil pass0 (pa_cons (pv 4) pa_nil)))) (pw_or1 (pt_cmpR (r := rIn K false) op_in_seq (pv 4) (pv 2) (by rfl)))))
  (pss_one ps_never)
  pss_nil)
  (pss_one (ps_expr (pe_bm PySem.F.plainAttrs_list PySem.F.slot_list_append PySem.F.type_list_append mt_append (pv 2) (pa_cons (pv 4) pa_nil))))))
  (pss_one (ps_fld (pv 0) (pe_callTy (T := "tuple") (r := Rd.nTupOf K) Rd.c_tupOf (by rfl) T.n_tuple (by decide +kernel) (pa_cons (pv 2) pa_nil)) rfl))))), ?_⟩
    have l1 := L.l1
    walk_at "rd"
    refine ⟨Nat.le_of_ble_eq_true rfl, Rd.new fun p G hp gp sG => ?_⟩
    walk_at "rd"
    refine Ru.isRow (hS.same sG) gp ?_
    walk_at "rd"
    refine Rd.len (hS.same sG) ?_
    rw [List.length_map]
    walk_at "rd"
    walk_at "no"
    walk_at "rd"
    refine ⟨Nat.zero_le _, Rd.new fun f G2 nf gf s2 => ?_⟩
    walk_at "rd"
    refine Ru.for_enumR (a := a) (xs := ws.map V.str) (fun Q q => ?_) (fun i σ H' => ∃ x y, σ = [some (.ref b), some (.ref a), some (.ref f), x, y] ∧ H' f = some (.lst ((ws.take i).map V.str)) ∧ Same G H') (hS.same sG) ⟨_, _, rfl, gf, s2⟩ (fun i σ H' _ ⟨_, _, _, _, z⟩ => z) ?_ ?_
    · walk_at "rd"
      exact q
    · rintro i x _ H' t hx ⟨_, _, rfl, hf, sm⟩ hT
      obtain ⟨z, hz, rfl⟩ := Rd.map_strG hx
      have sT := Rd.same_upd (o := .tup [.int (i : Nat), .str z]) hT
      refine Rd.tupT (.of upd_same) rfl ?_
      walk_at "rd"
      refine ⟨z, rfl, L.ok z (List.mem_of_getElem? hz), fun H1 s1 => ?_⟩
      have hf1 := s1 _ _ (sT _ _ hf)
      walk_at "rd"
      refine Rd.inStrsY (.inl (.of hf1)) ?_
      rw [decide_eq_false (Rd.nodup_take L.nd hz)]
      walk_at "rd"
      refine Rd.tyL (.of hf1) ?_
      walk_at "rd"
      refine Rd.app hf1 (by rw [List.length_map, List.length_take, sizeLine_eq]; omega) fun G3 g3 off3 => ?_
      walk_at "rd"
      refine ⟨_, _, rfl, ?_, fun c o e => ?_⟩
      · rw [Rd.take_snoc hz, List.map_append]
        exact g3
      · rw [off3 c (ne_of_none e nf)]
        exact s1 _ _ (sT _ _ (sm _ _ e))
    · rintro _ H' ⟨_, _, rfl, hf, sm⟩
      rw [List.length_map, List.take_length] at hf
      walk_at "rd"
      refine Rd.tupOf (.of hf) (Rd.new fun t G3 nt gt s3 => ?_)
      walk_at "rd"
      have hb3 := s3 _ _ (sm _ _ (sG _ _ hb))
      refine Rd.sfld hb3 T.cl_Book T.na_Book_watches (by decide) rfl fun G4 g4 off4 => ?_
      walk_at "rd"
      refine k _ ⟨dx, t, g4, ?_⟩ fun c o n e => ?_
      · rw [off4 t (ne_of gt hb3 (fun e => nomatch e))]
        exact gt
      · rw [off4 c n]
        exact s3 _ _ (sm _ _ (sG _ _ e))
theorem ok_check_book (T : Txt K mg) : FnOk P w K mg base CX0 4 T.f_check_book T.fd_check_book ["book"] (sp_check_book K T.C_Book) := by
  refine T.F_check_book.ok sc_check_book (fun vs H Q E h => ?_) (fun cdv A outer s H vs Q E hr h => ?_)
  · obtain ⟨b, ws, rfl, _⟩ := h
    rfl
  · obtain ⟨b, ws, rfl, ⟨dx, t, hb, ht⟩, k⟩ := h
    refine ⟨_, (pss_cons (ps_if (pt_not (pt_val (pe_callB (id := "isinstance") (r := rIsi K) call_isi (by rfl) T.n_isinstance (by decide +kernel) (pa_cons (pv 0) (pa_cons (pe_glob (v := .ref T.C_Book) rfl T.c_Book rfl) pa_nil)))))
  (pss_one ps_never)
  pss_nil)
  (pss_one (ps_ret (pv 0)))), ?_⟩
    walk_at "rd"
    refine isiOwn T.cl_Book T.ty_Book hb ?_
    walk_at "rd"
    exact k
theorem watch_sm {ws : List Str} (L : Watches ws) : ∀ W ∈ ws, 1 ≤ W.length ∧ W.length ≤ 1000 := fun W m => ⟨(L.ok W m).l0, by have := (L.ok W m).l1; omega⟩

end
end W

namespace W
open PySem PySem.Spec PyProof.Rows L2
section
variable {P : Program} {w : World} {K : PySem.W.Frag} {mg : Str → Option Value} {base : Heap}
/-! ### the roads of a word: lists of spots -/
def Links (K : PySem.W.Frag) (H : Hp) (p : Addr) (n : Nat) (A : Nat → Nat → Prop) : Prop := ∃ rs : List Addr, SqL K H p (rs.map V.ref) ∧ rs.length = n + 1 ∧ ∀ i r, rs[i]? = some r → ∃ ms : List Int, SqL K H r (ms.map V.int) ∧ (ms.Pairwise (· ≤ ·) ∧ ms.length ≤ 1000000) ∧ ∀ x, x ∈ ms ↔ ∃ j : Nat, x = j ∧ A i j
theorem Links.same {K : PySem.W.Frag} {H H' : Hp} {p : Addr} {n : Nat} {A : Nat → Nat → Prop} (h : Links K H p n A) (s : Same H H') : Links K H' p n A := by
  obtain ⟨rs, h1, h2, h3⟩ := h
  exact ⟨rs, s.seq h1, h2, fun i r e => let ⟨ms, k1, k2⟩ := h3 i r e; ⟨ms, s.seq k1, k2⟩⟩
def Rows (H : Hp) (rs : List Addr) (F : Nat → List Int) : Prop := rs.Nodup ∧ ∀ (i : Nat) r, rs[i]? = some r → H r = some (.lst ((F i).map V.int))
theorem Rows.put {H G : Hp} {rs : List Addr} {F : Nat → List Int} (h : Rows H rs F) {i : Nat} {r : Addr} {x : Int} (hi : rs[i]? = some r) (g : G r = some (.lst ((F i).map V.int ++ [.int x]))) (off : ∀ b, b ≠ r → G b = H b) : Rows G rs (fun j => if j = i then F i ++ [x] else F j) := by
  refine ⟨h.1, fun j q hj => ?_⟩
  by_cases c : j = i
  · subst c
    rw [hi] at hj
    cases hj
    show G r = some (.lst ((if j = j then F j ++ [x] else F j).map V.int))
    rw [if_pos rfl, List.map_append]
    exact g
  · have n : q ≠ r := fun e => by
      subst e
      exact c ((List.getElem?_inj (List.getElem?_eq_some_iff.mp hj).1 h.1).mp (hj.trans hi.symm))
    show G q = some (.lst ((if j = i then F i ++ [x] else F j).map V.int))
    rw [if_neg c, off q n]
    exact h.2 j q hj
/-- .. each neighbour once, ascending -/
def LinksN (K : PySem.W.Frag) (H0 H : Hp) (p : Addr) (n : Nat) (A : Nat → Nat → Prop) : Prop := ∃ rs : List Addr, SqL K H p (rs.map V.ref) ∧ rs.length = n + 1 ∧ ∀ i r, rs[i]? = some r → ∃ ms : List Int, SqL K H r (ms.map V.int) ∧ ms.Pairwise (· < ·) ∧ (H r = some (.lst (ms.map V.int)) ∧ H0 r = none) ∧ ∀ x, x ∈ ms ↔ ∃ j : Nat, x = j ∧ A i j
theorem LinksN.same {K : PySem.W.Frag} {H0 H H' : Hp} {p : Addr} {n : Nat} {A : Nat → Nat → Prop} (h : LinksN K H0 H p n A) (s : Same H H') : LinksN K H0 H' p n A := by
  obtain ⟨rs, h1, h2, h3⟩ := h
  refine ⟨rs, s.seq h1, h2, fun i r e => ?_⟩
  obtain ⟨ms, m1, m2, m3, m4⟩ := h3 i r e
  exact ⟨ms, s.seq m1, m2, ⟨s _ _ m3.1, m3.2⟩, m4⟩
theorem adj_fresh {ws : List Str} {k : Nat} {W z : Str} {m : Nat} (nd : ws.Nodup) (hW : ws[k]? = some W) (hw : ∀ W ∈ ws, 1 ≤ W.length) (oc : Mw.Occ W z m) : ¬ Mw.AdjB (ws.take k) W z m m (m + W.length) ∧ ¬ Mw.AdjB (ws.take k) W z m (m + W.length) m := by
  have w1 := hw W (List.mem_of_getElem? hW)
  have no : W ∉ ws.take k := fun h => by
    obtain ⟨j, hj, e⟩ := List.mem_take_iff_getElem.mp h
    obtain ⟨hk, e2⟩ := List.getElem?_eq_some_iff.mp hW
    have := (List.pairwise_iff_getElem.mp nd) j k (by omega) hk (by omega)
    exact this (e.trans e2.symm)
  have same : ∀ W', Mw.Occ W' z m → W'.length = W.length → W' = W := fun W' o e => by
    have h1 := o.2
    rw [e] at h1
    exact h1.symm.trans oc.2
  constructor
  · rintro (⟨W', mm, ⟨o, e⟩ | ⟨o, e⟩⟩ | ⟨h, _⟩ | ⟨h, _⟩)
    · exact no (same W' o (by omega) ▸ mm)
    · have := hw W' (List.mem_of_mem_take mm)
      omega
    · omega
    · omega
  · rintro (⟨W', mm, ⟨o, e⟩ | ⟨o, e⟩⟩ | ⟨h, _⟩ | ⟨h, _⟩)
    · have := hw W' (List.mem_of_mem_take mm)
      omega
    · exact no (same W' o (by omega) ▸ mm)
    · omega
    · omega
theorem sorted_lt {ms : List Int} (h : ms.Pairwise (· ≤ ·)) (nd : ms.Nodup) : ms.Pairwise (· < ·) := by
  have := h.and nd
  exact this.imp fun ⟨a, b⟩ => by omega
def sp_links_of (K : PySem.W.Frag) : Sp := fun vs H Q _ => ∃ (a : Addr) (ws : List Str) (z : Str), vs = [.ref a, .str z] ∧ Ru.SqR K H a (ws.map V.str) ∧ (∀ W ∈ ws, 1 ≤ W.length ∧ W.length ≤ 1000) ∧ ws.length ≤ 100 ∧ z.length ≤ 1000 ∧ ∀ p H', Links K H' p z.length (Mw.Adj ws z) → Same H H' → H p = none → (ws.Nodup → LinksN K H H' p z.length (Mw.Adj ws z)) → Q (.ref p) H'
/-- the rows so far: f the list of them, G0 what stood ahead -/
structure SoFar (G0 H : Hp) (f : Addr) (rs : List Addr) (n : Nat) (F : Nat → List Int) : Prop where
  sm : Same G0 H
  hf : H f = some (.lst (rs.map V.ref))
  ro : Rows H rs F
  ln : rs.length = n + 1
  nr : ∀ r ∈ rs, G0 r = none ∧ r ≠ f
theorem SoFar.put {G0 H G : Hp} {f : Addr} {rs : List Addr} {n : Nat} {F : Nat → List Int} (h : SoFar G0 H f rs n F) {i : Nat} {r : Addr} {x : Int} (hi : rs[i]? = some r) (g : G r = some (.lst ((F i).map V.int ++ [.int x]))) (off : ∀ b, b ≠ r → G b = H b) : SoFar G0 G f rs n (fun j => if j = i then F i ++ [x] else F j) := by
  have m := h.nr r (List.mem_of_getElem? hi)
  refine ⟨fun b o e => ?_, ?_, h.ro.put hi g off, h.ln, h.nr⟩
  · rw [off b (ne_of_none e m.1)]
    exact h.sm b o e
  · rw [off f m.2.symm]
    exact h.hf
theorem SoFar.row {G0 H : Hp} {f : Addr} {rs : List Addr} {n : Nat} {F : Nat → List Int} (h : SoFar G0 H f rs n F) {i : Nat} (hi : i ≤ n) : ∃ r, rs[i]? = some r ∧ H r = some (.lst ((F i).map V.int)) ∧ atI (rs.map V.ref) (i : Int) = some (.ref r) := by
  have l : i < rs.length := by have := h.ln; omega
  exact ⟨rs[i], List.getElem?_eq_getElem l, h.ro.2 i _ (List.getElem?_eq_getElem l), atI_nat (Rd.map_ref l)⟩
theorem ok_links_of (T : Txt K mg) : FnOk P w K mg base CX0 1 T.f_links_of T.fd_links_of ["watches", "word"] (sp_links_of K) := by
  refine T.F_links_of.ok sc_links_of (fun vs H Q E h => ?_) (fun cdv A outer s H vs Q E hr h => ?_)
  · obtain ⟨a, ws, z, rfl, _⟩ := h
    rfl
  · obtain ⟨a, ws, z, rfl, hS, hw, l1, l2, k⟩ := h
    refine ⟨_, (pss_cons (ps_setLc (i := 3) (own := [("spot", 2)]) (g := gName 2) (tt := tYes) rfl sc_links_of.nd rfl rfl (sw_true rfl rfl rfl (by decide +kernel)) (pi_range1 rfl T.n_range (pa_cons (pe_op op_add (pe_callB (id := "len") (r := _) Rd.c_lenS (by rfl) T.n_len (by decide +kernel) (pa_cons (pv 1) pa_nil)) pe_int) pa_nil)) (blkOk_by (own := [("spot", 2)]) (N := ["watches", "word", "spot", "found", "watch", "row"]) (sc := defScope s_links_of) (by decide +kernel)) (fun _ _ _ _ _ => (pg_name (i := 2) sc_links_of.nd rfl (.inl rfl))) (fun _ _ _ _ _ => pts_nil) (fun _ _ _ _ _ => (pe_lst pa_nil)))
  (pss_cons (ps_for PassesOwn.never rfl (Ru.pi_or (pi_list (pv 0)) (pi_tup (pv 0))) (pg_name (i := 4) sc_links_of.nd rfl (.inl rfl))
  (pss_one (ps_for PassesOwn.never rfl (pi_range1 rfl T.n_range (pa_cons (pe_op op_add (pe_op op_sub (pe_callB (id := "len") (r := _) Rd.c_lenS (by rfl) T.n_len (by decide +kernel) (pa_cons (pv 1) pa_nil)) (pe_callB (id := "len") (r := _) Rd.c_lenS (by rfl) T.n_len (by decide +kernel) (pa_cons (pv 4) pa_nil))) pe_int) pa_nil)) (pg_name (i := 2) sc_links_of.nd rfl (.inl rfl))
  (pss_one (ps_if (pt_cmpR op_eq (pe_slice sl_str (pv 1) (po_some (pv 2)) (po_some (pe_op op_add (pv 2) (pe_callB (id := "len") (r := _) Rd.c_lenS (by rfl) T.n_len (by decide +kernel) (pa_cons (pv 4) pa_nil))))) (pv 4) (nomark _))
  (pss_cons (ps_expr (pe_bm PySem.F.plainAttrs_list PySem.F.slot_list_append PySem.F.type_list_append mt_append (pe_ix (r := rIxL K) ix_list (pv 3) (pv 2) (fun _ _ => rfl)) (pa_cons (pe_op op_add (pv 2) (pe_callB (id := "len") (r := _) Rd.c_lenS (by rfl) T.n_len (by decide +kernel) (pa_cons (pv 4) pa_nil))) pa_nil)))
  (pss_one (ps_expr (pe_bm PySem.F.plainAttrs_list PySem.F.slot_list_append PySem.F.type_list_append mt_append (pe_ix (r := rIxL K) ix_list (pv 3) (pe_op op_add (pv 2) (pe_callB (id := "len") (r := _) Rd.c_lenS (by rfl) T.n_len (by decide +kernel) (pa_cons (pv 4) pa_nil))) (fun _ _ => rfl)) (pa_cons (pv 2) pa_nil)))))
  pss_nil)))))
  (pss_one (ps_ret (pe_lc (own := [("row", 5)]) (g := gName 5) (tt := tYes) rfl sc_links_of.nd (pi_list (pv 3)) (blkOk_by (own := [("row", 5)]) (N := ["watches", "word", "spot", "found", "watch", "row"]) (sc := defScope s_links_of) (by decide +kernel)) (fun _ _ _ _ _ => (pg_name (i := 5) sc_links_of.nd rfl (.inl rfl))) (fun _ _ _ _ _ => pts_nil) (fun _ _ _ _ _ => (pe_callB (id := "sorted") (r := rSortedI K) cr_sortedI (by rfl) T.n_sorted (by decide +kernel) (pa_cons (pv 5) pa_nil)))))))), ?_⟩
    have zl : z.length ≤ sizeLine := by rw [sizeLine_eq]; omega
    walk_at "rd"
    refine Rd.lenStr zl ?_
    walk_at "rd"
    refine ⟨by omega, by omega, ?_⟩
    rw [show ((z.length : Int) + 1).toNat = z.length + 1 by omega]
    refine Rd.lcS walk_range (fun _ _ => trivial) (fun D i acc Hc => ∃ rs : List Addr, acc = rs.map V.ref ∧ rs.length = i ∧ rs.Nodup ∧ (∀ r ∈ rs, H r = none ∧ r ≠ D) ∧ ∀ r ∈ rs, Hc r = some (.lst [])) (fun _ _ _ _ _ => ⟨[], rfl, rfl, .nil, fun _ h => by simp at h, fun _ h => by simp at h⟩) ?_ ?_
    · rintro D i x G _ acc nD hi hD sm ⟨rs, rfl, ln, nd, h1, h2⟩ ⟨rfl, rfl⟩
      walk_at "rd"
      refine ⟨rfl, Rd.tyes ?_⟩
      walk_at "rd"
      refine ⟨Nat.zero_le _, Rd.new fun r G1 nr gr s1 => ?_⟩
      refine Rd.lcPush (s1 _ _ hD) nD (sm.trans s1) (by rw [List.length_map, ln, sizeLine_eq]; omega) fun G2 g2 off2 => ?_
      have rD : r ≠ D := (ne_of_none hD nr).symm
      have out : ∀ q ∈ rs, q ≠ r := fun q hq => ne_of_none (h2 q hq) nr
      refine ⟨rs ++ [r], by rw [List.map_append]; rfl, by rw [List.length_append, ln]; rfl, ?_, fun q hq => ?_, fun q hq => ?_⟩
      · rw [List.nodup_append]
        exact ⟨nd, by simp, fun q hq y hy e => out q hq (by simp at hy; rw [e, hy])⟩
      · rcases List.mem_append.mp hq with h | h
        · exact h1 q h
        · simp at h
          subst h
          exact ⟨sm.free nr, rD⟩
      · rcases List.mem_append.mp hq with h | h
        · rw [off2 q (h1 q h).2]
          exact s1 _ _ (h2 q h)
        · simp at h
          subst h
          rw [off2 q rD]
          exact gr
    · rintro f acc G nf hf sm ⟨rs, rfl, ln, nd, h1, h2⟩
      walk_at "rd"
      have sf0 : SoFar H G f rs z.length (fun _ => []) := ⟨sm, hf, ⟨nd, fun i r e => h2 r (List.mem_of_getElem? e)⟩, ln, h1⟩
      refine Ru.for_row (a := a) (xs := ws.map V.str) (fun Q q => ?_) (fun k σ H' => ∃ o1 o2 F, σ = [some (.ref a), some (.str z), o1, some (.ref f), o2, none] ∧ SoFar H H' f rs z.length F ∧ (∀ i, i ≤ z.length → ∀ x, x ∈ F i ↔ ∃ j : Nat, x = j ∧ Mw.Adj (ws.take k) z i j) ∧ ∀ i, (F i).length ≤ 2 * (k * (z.length + 1)) ∧ (ws.Nodup → (F i).Nodup)) hS
        ⟨_, _, _, rfl, sf0, fun i _ x => ⟨fun h => by simp at h, fun ⟨j, _, h⟩ => absurd h Mw.adj_nil⟩, fun i => ⟨Nat.zero_le _, fun _ => .nil⟩⟩ (fun i σ H' _ ⟨_, _, _, _, z, _⟩ => z.sm) ?_ ?_
      · walk_at "rd"
        exact q
      · rintro k x _ H' hx ⟨o1, o2, F, rfl, sf, hF, lF⟩
        obtain ⟨W, hW, rfl⟩ := Rd.map_strG hx
        have wl := hw W (List.mem_of_getElem? hW)
        have wz : W.length ≤ sizeLine := by rw [sizeLine_eq]; omega
        have kl : k < ws.length := (List.getElem?_eq_some_iff.mp hW).1
        walk_at "rd"
        refine Rd.forS ?_
        walk_at "rd"
        refine Rd.lenStr zl ?_
        walk_at "rd"
        refine Rd.lenStr wz ?_
        walk_at "rd"
        refine ⟨by omega, by omega, ?_⟩
        refine for_range (lo := 0) (n := ((z.length : Int) - (W.length : Int) + 1).toNat) (fun m σ H' => ∃ o1 F, σ = [some (.ref a), some (.str z), o1, some (.ref f), some (.str W), none] ∧ SoFar H H' f rs z.length F ∧ (∀ i, i ≤ z.length → ∀ x, x ∈ F i ↔ ∃ j : Nat, x = j ∧ Mw.AdjB (ws.take k) W z m i j) ∧ ∀ i, (F i).length ≤ 2 * (k * (z.length + 1) + m) ∧ (ws.Nodup → (F i).Nodup))
          ⟨_, F, rfl, sf, fun i hi x => (hF i hi x).trans (exists_congr fun j => and_congr_right fun _ => Mw.adjB_zero.symm), lF⟩ ?_ ?_
        · rintro m _ H1 hm ⟨o1, F, rfl, sf, hF, lF⟩
          have mz : m + W.length ≤ z.length := by omega
          have kz : k * (z.length + 1) ≤ 100 * 1001 := Nat.mul_le_mul (by omega) (by omega)
          have small : ∀ i, (F i).length < sizeLine := fun i => by have := (lF i).1; rw [sizeLine_eq]; omega
          walk_at "rd"
          rw [Int.zero_add]
          refine Rd.lenStr wz ?_
          walk_at "rd"
          refine Rd.slS zl ?_
          walk_at "rd"
          refine ite2 (fun q => ?_) (fun q => ?_)
          · have oc : Mw.Occ W z m := ⟨mz, q⟩
            walk_at "rd"
            obtain ⟨r, e1, e2, e3⟩ := sf.row (i := m) (by omega)
            refine Rd.ixL (.of sf.hf) e3 ?_
            refine Rd.tyL (.of e2) ?_
            walk_at "rd"
            refine Rd.lenStr wz ?_
            walk_at "rd"
            refine Rd.app e2 (by rw [List.length_map]; exact small m) fun G1 g1 off1 => ?_
            have sf1 := sf.put e1 g1 off1
            walk_at "rd"
            refine Rd.lenStr wz ?_
            walk_at "rd"
            obtain ⟨r', d1, d2, d3⟩ := sf1.row (i := m + W.length) mz
            rw [show ((m + W.length : Nat) : Int) = (m : Int) + (W.length : Int) by omega] at d3
            have ne : ¬ m + W.length = m := by omega
            rw [if_neg ne] at d2
            refine Rd.ixL (.of sf1.hf) d3 ?_
            refine Rd.tyL (.of d2) ?_
            walk_at "rd"
            refine Rd.app d2 (by rw [List.length_map]; exact small _) fun G2 g2 off2 => ?_
            have sf2 := sf1.put (x := (m : Int)) d1 (by rw [if_neg ne]; exact g2) off2
            walk_at "rd"
            have fr : ws.Nodup → ((m : Int) + (W.length : Int)) ∉ F m ∧ (m : Int) ∉ F (m + W.length) := fun nd => by
              have ⟨f1, f2⟩ := adj_fresh nd hW (fun W m => (hw W m).1) oc
              constructor
              · intro h
                obtain ⟨j, e, a⟩ := (hF m (by omega) _).mp h
                rw [show j = m + W.length by omega] at a
                exact f1 a
              · intro h
                obtain ⟨j, e, a⟩ := (hF (m + W.length) mz _).mp h
                rw [show j = m by omega] at a
                exact f2 a
            have ndp : ∀ {l : List Int} {x : Int}, l.Nodup → x ∉ l → (l ++ [x]).Nodup := fun h n => by
              rw [List.nodup_append]
              exact ⟨h, by simp, fun a ha b hb e => n (by simp at hb; rw [← hb, ← e]; exact ha)⟩
            refine ⟨_, _, rfl, sf2, fun i hi x => ?_, fun i => ?_⟩
            · have base := hF i hi x
              have yes : ∀ j, Mw.AdjB (ws.take k) W z (m + 1) i j ↔ Mw.AdjB (ws.take k) W z m i j ∨ (i = m ∧ j = m + W.length) ∨ (j = m ∧ i = m + W.length) := fun j => Mw.adjB_yes oc
              simp only [yes]
              by_cases c1 : i = m + W.length
              · subst c1
                rw [if_pos rfl, if_neg ne, List.mem_append, base]
                constructor
                · rintro (⟨j, h1, h2⟩ | h)
                  · exact ⟨j, h1, .inl h2⟩
                  · exact ⟨m, by simpa using h, .inr (.inr ⟨rfl, rfl⟩)⟩
                · rintro ⟨j, h1, h2 | ⟨h2, _⟩ | ⟨h2, _⟩⟩
                  · exact .inl ⟨j, h1, h2⟩
                  · omega
                  · exact .inr (by simp; omega)
              · rw [if_neg c1]
                by_cases c2 : i = m
                · subst c2
                  rw [if_pos rfl, List.mem_append, base]
                  constructor
                  · rintro (⟨j, h1, h2⟩ | h)
                    · exact ⟨j, h1, .inl h2⟩
                    · exact ⟨_, by simpa using h, .inr (.inl ⟨rfl, rfl⟩)⟩
                  · rintro ⟨j, h1, h2 | ⟨_, h2⟩ | ⟨_, h2⟩⟩
                    · exact .inl ⟨j, h1, h2⟩
                    · exact .inr (by simp; omega)
                    · omega
                · rw [if_neg c2, base]
                  constructor
                  · rintro ⟨j, h1, h2⟩
                    exact ⟨j, h1, .inl h2⟩
                  · rintro ⟨j, h1, h2 | ⟨h2, _⟩ | ⟨_, h2⟩⟩
                    · exact ⟨j, h1, h2⟩
                    · exact absurd h2 c2
                    · exact absurd h2 c1
            · have b1 := lF i
              have b2 := lF m
              have b3 := lF (m + W.length)
              refine ⟨?_, fun nd => ?_⟩
              rotate_left
              · show (if i = m + W.length then (if m + W.length = m then F m ++ [(m : Int) + (W.length : Int)] else F (m + W.length)) ++ [(m : Int)] else if i = m then F m ++ [(m : Int) + (W.length : Int)] else F i).Nodup
                rw [if_neg ne]
                split
                · exact ndp (b3.2 nd) (fr nd).2
                · split
                  · exact ndp (b2.2 nd) (fr nd).1
                  · exact b1.2 nd
              replace b1 := b1.1
              replace b2 := b2.1
              replace b3 := b3.1
              show (if i = m + W.length then (if m + W.length = m then F m ++ [(m : Int) + (W.length : Int)] else F (m + W.length)) ++ [(m : Int)] else if i = m then F m ++ [(m : Int) + (W.length : Int)] else F i).length ≤ _
              rw [if_neg ne]
              split
              · rw [List.length_append, List.length_singleton]; omega
              · split
                · rw [List.length_append, List.length_singleton]; omega
                · omega
          · have oc : ¬ Mw.Occ W z m := fun h => q h.2
            walk_at "rd"
            exact ⟨_, F, rfl, sf, fun i hi x => (hF i hi x).trans (exists_congr fun j => and_congr_right fun _ => (Mw.adjB_no oc).symm), fun i => ⟨by have := (lF i).1; omega, (lF i).2⟩⟩
        · rintro _ H1 ⟨o1, F, rfl, sf, hF, lF⟩
          walk_at "rd"
          refine ⟨_, _, F, rfl, sf, fun i hi x => (hF i hi x).trans (exists_congr fun j => and_congr_right fun _ => ?_), fun i => ?_⟩
          · rw [Rd.take_snoc hW]
            exact Mw.adjB_all (by omega)
          · refine ⟨?_, (lF i).2⟩
            have := (lF i).1
            have e : (k + 1) * (z.length + 1) = k * (z.length + 1) + (z.length + 1) := Nat.succ_mul _ _
            omega
      · rintro _ G1 ⟨o1, o2, F, rfl, sf, hF, lF⟩
        rw [List.length_map, List.take_length] at hF
        have big : ∀ i, (F i).length ≤ 1000000 := fun i => by
          have h1 := (lF i).1
          rw [List.length_map] at h1
          have h2 : ws.length * (z.length + 1) ≤ 100 * 1001 := Nat.mul_le_mul l1 (by omega)
          omega
        walk_at "rd"
        refine ⟨⟨_, .of sf.hf⟩, Rd.lcS walk_list (fun _ s => .of (s _ _ sf.hf)) (fun D i acc Hc => ∃ qs : List Addr, acc = qs.map V.ref ∧ qs.length = i ∧ (∀ q ∈ qs, q ≠ D ∧ H q = none) ∧ ∀ j q, qs[j]? = some q → ∃ ms : List Int, Hc q = some (.lst (ms.map V.int)) ∧ ms.Pairwise (· ≤ ·) ∧ ms.Perm (F j)) (fun _ _ _ _ _ => ⟨[], rfl, rfl, fun _ h => by simp at h, fun _ _ h => by simp at h⟩) ?_ ?_⟩
        · rintro D i x G2 _ acc nD hi hD sm2 ⟨qs, rfl, ql, qD, hq⟩ ⟨rfl, hx⟩
          obtain ⟨r, hr, rfl⟩ := Rd.map_refG hx
          walk_at "rd"
          refine ⟨rfl, Rd.tyes ?_⟩
          walk_at "rd"
          refine Rd.sortedI (.of (sm2 _ _ (sf.ro.2 i r hr))) fun ms p G3 pm ps gp s3 np => ?_
          have pD : p ≠ D := (ne_of_none hD np).symm
          refine Rd.lcPush (s3 _ _ hD) nD (sm2.trans s3) (by rw [List.length_map, ql, sizeLine_eq]; rw [List.length_map, ln] at hi; omega) fun G4 g4 off4 => ?_
          refine ⟨qs ++ [p], by rw [List.map_append]; rfl, by rw [List.length_append, ql]; rfl, fun q h => ?_, fun j q h => ?_⟩
          · rcases List.mem_append.mp h with h | h
            · exact qD q h
            · simp at h
              rw [h]
              exact ⟨pD, sf.sm.free (sm2.free np)⟩
          · rcases Nat.lt_or_ge j qs.length with l | l
            · rw [List.getElem?_append_left l] at h
              obtain ⟨ms', h1, h2, h3⟩ := hq j q h
              exact ⟨ms', by rw [off4 q (qD q (List.mem_of_getElem? h)).1]; exact s3 _ _ h1, h2, h3⟩
            · rw [List.getElem?_append_right l] at h
              have e : j = i := by
                have := (List.getElem?_eq_some_iff.mp h).1
                simp at this
                omega
              subst e
              rw [ql, Nat.sub_self] at h
              cases h
              exact ⟨ms, by rw [off4 _ pD]; exact gp, ps, pm⟩
        · rintro D acc G2 nD hD sm2 ⟨qs, rfl, ql, qD, hq⟩
          rw [List.length_map, ln] at ql
          refine k D G2 ⟨qs, .of hD, ql, fun i q h => ?_⟩ (sf.sm.trans sm2) (sf.sm.free nD) fun nd => ⟨qs, .of hD, ql, fun i q h => ?_⟩
          · obtain ⟨ms, h1, h2, h3⟩ := hq i q h
            exact ⟨ms, .of h1, ⟨h2, by rw [h3.length_eq]; exact big i⟩, fun x => h3.mem_iff.trans (hF i (by have := (List.getElem?_eq_some_iff.mp h).1; omega) x)⟩
          · obtain ⟨ms, h1, h2, h3⟩ := hq i q h
            exact ⟨ms, .of h1, sorted_lt h2 (h3.nodup_iff.mpr ((lF i).2 nd)), ⟨h1, (qD q (List.mem_of_getElem? h)).2⟩, fun x => h3.mem_iff.trans (hF i (by have := (List.getElem?_eq_some_iff.mp h).1; omega) x)⟩

end
end W

namespace W
open PySem PySem.Spec PyProof.Rows L2
section
variable {P : Program} {w : World} {K : PySem.W.Frag} {mg : Str → Option Value} {base : Heap}
/-! ### grown: all that is led to -/
def sp_grown (K : PySem.W.Frag) : Sp := fun vs H Q _ => ∃ (p q : Addr) (n : Nat) (A : Nat → Nat → Prop) (ss : List Int), vs = [.ref p, .ref q] ∧ Links K H p n A ∧ SqL K H q (ss.map V.int) ∧ n ≤ 1000 ∧ (∀ i j, A i j → j ≤ n) ∧ ss.Nodup ∧ (∀ s ∈ ss, 0 ≤ s ∧ s ≤ n) ∧
  ∀ (r : Addr) (gs : List Int) H', H' r = some (.lst (gs.map V.int)) → gs.Nodup → (∀ x, x ∈ gs ↔ ∃ i : Nat, x = i ∧ ∃ s : Nat, (s : Int) ∈ ss ∧ Mw.Star A s i) → Same H H' → H r = none → Q (.ref r) H'
theorem ok_grown (T : Txt K mg) : FnOk P w K mg base CX0 1 T.f_grown T.fd_grown ["links", "spots"] (sp_grown K) := by
  refine T.F_grown.ok sc_grown (fun vs H Q E h => ?_) (fun cdv A outer s H vs Q E hr h => ?_)
  · obtain ⟨p, q, n, A, ss, rfl, _⟩ := h
    rfl
  · obtain ⟨p, q, n, A, ss, rfl, hL, hq, hn, hA, nd, hs, k⟩ := h
    refine ⟨_, (pss_cons (ps_set (i := 2) sc_grown.nd rfl (.inl rfl) (pe_callTy (T := "list") (r := Rd.nListOf K) Rd.c_listOf (by rfl) T.n_list (by decide +kernel) (pa_cons (pv 1) pa_nil)))
  (pss_cons (ps_set (i := 3) sc_grown.nd rfl (.inl rfl) pe_int)
  (pss_cons (ps_while PassesOwn.never (pt_cmpR op_lt (pv 3) (pe_callB (id := "len") (r := Rd.nLen K) Rd.c_len (by rfl) T.n_len (by decide +kernel) (pa_cons (pv 2) pa_nil)) (nomark _))
  (pss_cons (ps_for PassesOwn.never rfl (pi_list (pe_ix (r := rIxL K) ix_list (pv 0) (pe_ix (r := rIxL K) ix_list (pv 2) (pv 3) (fun _ _ => rfl)) (fun _ _ => rfl))) (pg_name (i := 4) sc_grown.nd rfl (.inl rfl))
  (pss_one (ps_if (pt_cmpR (r := rIn K true) op_notIn_seq (pv 4) (pv 2) (by rfl))
  (pss_one (ps_expr (pe_bm PySem.F.plainAttrs_list PySem.F.slot_list_append PySem.F.type_list_append mt_append (pv 2) (pa_cons (pv 4) pa_nil))))
  pss_nil)))
  (pss_one (ps_aug (i := 3) sc_grown.nd rfl (.inl rfl) pe_int ip_add))))
  (pss_one (ps_ret (pv 2)))))), ?_⟩
    walk_at "rd"
    refine Rd.listOf (.inl hq) (Rd.new fun f G nf gf sG => ?_)
    walk_at "rd"
    obtain ⟨rs, hp, rl, hr⟩ := hL
    refine Rd.whl (fun m σ H' => ∃ (gs : List Int) (at_ : Nat) (o : Option V), σ = [some (.ref p), some (.ref q), some (.ref f), some (.int at_), o] ∧ H' f = some (.lst (gs.map V.int)) ∧ Same H H' ∧ gs.Nodup ∧ (∀ x ∈ gs, ∃ i : Nat, x = i ∧ i ≤ n ∧ ∃ s : Nat, (s : Int) ∈ ss ∧ Mw.Star A s i) ∧ (∀ x ∈ ss, x ∈ gs) ∧ at_ ≤ gs.length ∧ (∀ (k : Nat) (i j : Nat), k < at_ → gs[k]? = some (i : Int) → A i j → (j : Int) ∈ gs) ∧ m = n + 1 - at_)
      ⟨n + 1, ss, 0, none, rfl, gf, sG, nd, fun x hx => ⟨x.toNat, by have := hs x hx; omega, by have := hs x hx; omega, x.toNat, by have := hs x hx; rw [show ((x.toNat : Nat) : Int) = x by omega]; exact hx, .refl⟩, fun x h => h, Nat.zero_le _, fun k i j h => by omega, rfl⟩ ?_
    rintro m _ H1 ⟨gs, at_, o, rfl, hf, sm, gnd, hg, hss, la, cl, rfl⟩
    have gl : gs.length ≤ n + 1 := Mw.nodup_range gnd fun x hx => by obtain ⟨i, e, l, _⟩ := hg x hx; omega
    walk_at "rd"
    refine Rd.len (.inl (.of hf)) ?_
    rw [List.length_map]
    walk_at "rd"
    refine ite2 (fun c => ?_) (fun c => ?_)
    · refine Rd.whN ?_
      walk_at "rd"
      have al : at_ < gs.length := by omega
      obtain ⟨i, ei, il, si⟩ := hg _ (List.getElem_mem al)
      have hrow : i < rs.length := by omega
      obtain ⟨ms, m1, _, m2⟩ := hr i _ (List.getElem?_eq_getElem hrow)
      refine Rd.forS ?_
      walk_at "rd"
      refine Rd.ixL (.of hf) (atI_nat (Rd.map_int al)) ?_
      refine Rd.ixL (sm.seq hp) (by rw [ei]; exact atI_nat (Rd.map_ref hrow)) ?_
      walk_at "rd"
      refine ⟨⟨_, sm.seq m1⟩, for_list (K := K) (a := rs[i]) (xs := ms.map V.int) (fun t σ H' => ∃ (gs' : List Int) (o : Option V), σ = [some (.ref p), some (.ref q), some (.ref f), some (.int at_), o] ∧ H' f = some (.lst (gs'.map V.int)) ∧ Same H H' ∧ gs'.Nodup ∧ (∀ x ∈ gs', ∃ i : Nat, x = i ∧ i ≤ n ∧ ∃ s : Nat, (s : Int) ∈ ss ∧ Mw.Star A s i) ∧ (∃ ex, gs' = gs ++ ex) ∧ ∀ x ∈ ms.take t, x ∈ gs')
        ⟨gs, _, rfl, hf, sm, gnd, hg, ⟨[], by simp⟩, fun x h => by simp at h⟩ (fun t σ H' _ ⟨_, _, _, _, s, _⟩ => s.seq m1) ?_ ?_⟩
      · rintro t y0 _ H2 hy0 ⟨gs', o, rfl, hf2, sm2, gnd2, hg2, ⟨ex, he⟩, ht⟩
        obtain ⟨y, hy, rfl⟩ := Rd.map_get hy0
        obtain ⟨j, ej, aj⟩ := (m2 y).mp (List.mem_of_getElem? hy)
        have gl2 : gs'.length ≤ n + 1 := Mw.nodup_range gnd2 fun x hx => by obtain ⟨i, e, l, _⟩ := hg2 x hx; omega
        walk_at "rd"
        refine Rd.inIntsN (.inl (.of hf2)) ?_
        walk_at "rd"
        refine ite2 (fun c2 => ?_) (fun c2 => ?_)
        · walk_at "rd"
          refine ⟨gs', _, rfl, hf2, sm2, gnd2, hg2, ⟨ex, he⟩, fun x hx => ?_⟩
          rw [Rd.take_snoc hy] at hx
          rcases List.mem_append.mp hx with h | h
          · exact ht x h
          · simp at h
            rw [h]
            exact c2
        · walk_at "rd"
          refine Rd.tyL (.of hf2) ?_
          walk_at "rd"
          refine Rd.app hf2 (by rw [List.length_map, sizeLine_eq]; omega) fun G3 g3 off3 => ?_
          walk_at "rd"
          refine ⟨gs' ++ [y], _, rfl, by rw [List.map_append]; exact g3, fun b o e => ?_, ?_, fun x hx => ?_, ⟨ex ++ [y], by rw [he, List.append_assoc]⟩, fun x hx => ?_⟩
          · rw [off3 b (ne_of_none e nf)]
            exact sm2 b o e
          · rw [List.nodup_append]
            exact ⟨gnd2, by simp, fun x hx z hz e => c2 (by simp at hz; rw [← hz, ← e]; exact hx)⟩
          · rcases List.mem_append.mp hx with h | h
            · exact hg2 x h
            · simp at h
              obtain ⟨s, h1, h2⟩ := si
              exact ⟨j, by rw [h, ej], hA _ _ aj, s, h1, .step h2 aj⟩
          · rw [Rd.take_snoc hy] at hx
            rcases List.mem_append.mp hx with h | h
            · exact List.mem_append.mpr (.inl (ht x h))
            · exact List.mem_append.mpr (.inr h)
      · rintro _ H2 ⟨gs', o, rfl, hf2, sm2, gnd2, hg2, ⟨ex, he⟩, ht⟩
        rw [List.length_map, List.take_length] at ht
        have gl2 : gs'.length ≤ n + 1 := Mw.nodup_range gnd2 fun x hx => by obtain ⟨i, e, l, _⟩ := hg2 x hx; omega
        have lex : gs'.length = gs.length + ex.length := by rw [he, List.length_append]
        walk_at "rd"
        refine ⟨n + 1 - (at_ + 1), by omega, gs', at_ + 1, o, by rw [Int.natCast_add]; rfl, hf2, sm2, gnd2, hg2, fun x hx => by rw [he]; exact List.mem_append.mpr (.inl (hss x hx)), by omega, fun k i' j hk e a => ?_, rfl⟩
        · have kl : k < gs.length := by omega
          have e' : gs[k]? = some (i' : Int) := by
            rw [he, List.getElem?_append_left kl] at e
            exact e
          rcases Nat.lt_succ_iff_lt_or_eq.mp hk with l | l
          · rw [he]
            exact List.mem_append.mpr (.inl (cl k i' j l e' a))
          · subst l
            have : (i' : Int) = (i : Int) := by
              rw [List.getElem?_eq_getElem al] at e'
              rw [← ei]
              exact (Option.some.inj e').symm
            have : i' = i := by omega
            subst this
            exact ht _ ((m2 _).mpr ⟨j, rfl, a⟩)
    · walk_at "rd"
      have e : at_ = gs.length := by omega
      refine k f gs H1 hf gnd (fun x => ⟨fun hx => ?_, ?_⟩) sm nf
      · obtain ⟨i, e1, _, s, h1, h2⟩ := hg x hx
        exact ⟨i, e1, s, h1, h2⟩
      · rintro ⟨i, rfl, s, h1, h2⟩
        induction h2 with
        | refl => exact hss _ h1
        | step _ a ih =>
          obtain ⟨k, hk, e2⟩ := List.getElem_of_mem ih
          exact cl k _ _ (by omega) (by rw [List.getElem?_eq_getElem hk, e2]) a

/-! ### leads, leads_all, tells -/
def sp_leads (K : PySem.W.Frag) : Sp := fun vs H Q _ => ∃ (a : Addr) (ws : List Str) (z : Str), vs = [.ref a, .str z] ∧ Ru.SqR K H a (ws.map V.str) ∧ (∀ W ∈ ws, 1 ≤ W.length ∧ W.length ≤ 1000) ∧ ws.length ≤ 100 ∧ z.length ≤ 1000 ∧ ∀ (b : Bool) H', Same H H' → (b = true ↔ Mw.Told ws z) → Q (.bl b) H'
def sp_check_words (K : PySem.W.Frag) : Sp := fun vs H Q _ => ∃ (a : Addr) (zs : List Str), vs = [.ref a] ∧ Ru.SqR K H a (zs.map V.str) ∧ zs.length ≤ 20 ∧ (∀ z ∈ zs, Lt.Wd 40 z) ∧ ∀ H', Same H H' → Q .non H'
def sp_leads_all (K : PySem.W.Frag) : Sp := fun vs H Q _ => ∃ (a b : Addr) (ws zs : List Str), vs = [.ref a, .ref b] ∧ Ru.SqR K H a (ws.map V.str) ∧ (∀ W ∈ ws, 1 ≤ W.length ∧ W.length ≤ 1000) ∧ ws.length ≤ 100 ∧ Ru.SqR K H b (zs.map V.str) ∧ (∀ z ∈ zs, z.length ≤ 1000) ∧ zs.length ≤ 1000 ∧ ∀ (b : Bool) H', Same H H' → (b = true ↔ ∀ z ∈ zs, Mw.Told ws z) → Q (.bl b) H'
def sp_tells (K : PySem.W.Frag) (C : Addr) : Sp := fun vs H Q _ => ∃ (a b : Addr) (ws zs : List Str), vs = [.ref a, .ref b] ∧ BookAt C H a ws ∧ Watches ws ∧ Ru.SqR K H b (zs.map V.str) ∧ zs.length ≤ 20 ∧ (∀ z ∈ zs, Lt.Wd 40 z) ∧ ∀ (b : Bool) H', Same H H' → (b = true ↔ ∀ z ∈ zs, Mw.Told ws z) → Q (.bl b) H'
theorem all_told {ws : List Str} : ∀ (zs : List Str) (bs : List Bool), bs.length = zs.length → (∀ (i : Nat) z b, zs[i]? = some z → bs[i]? = some b → (b = true ↔ Mw.Told ws z)) → (bs.all id = true ↔ ∀ z ∈ zs, Mw.Told ws z)
  | [], [], _, _ => by simp
  | z :: zs, b :: bs, l, h => by
    have h0 := h 0 z b rfl rfl
    have ih := all_told zs bs (by simpa using l) fun i z b e1 e2 => h (i + 1) z b (by simpa using e1) (by simpa using e2)
    rw [List.all_cons, Bool.and_eq_true, List.forall_mem_cons, ← ih, ← h0]
    rfl
end
end W

namespace W
open PySem PySem.Spec PyProof.Rows L2
section
variable {P : Program} {w : World} {K : PySem.W.Frag} {mg : Str → Option Value} {base : Heap}
/-! ### reached, classes, is_told -/
def sp_reached (K : PySem.W.Frag) : Sp := fun vs H Q _ => ∃ (p : Addr) (n : Nat) (A : Nat → Nat → Prop) (s : Nat), vs = [.ref p, .int (s : Nat)] ∧ Links K H p n A ∧ n ≤ 1000 ∧ (∀ i j, A i j → j ≤ n) ∧ s ≤ n ∧
  ∀ (r : Addr) H', Same H H' → H r = none → H' r = some (.lst (natV (Mc.cls A n s))) → Q (.ref r) H'
/-- lots of spots as tuples -/
def ClsAt (H : Hp) (l : Addr) (cs : List (List Nat)) : Prop := ∃ qs : List Addr, H l = some (.lst (qs.map V.ref)) ∧ Paired (fun q c => H q = some (.tup (natV c))) qs cs
theorem ClsAt.same {H H' : Hp} {l : Addr} {cs : List (List Nat)} (s : Same H H') (h : ClsAt H l cs) : ClsAt H' l cs := by
  obtain ⟨qs, g, p⟩ := h
  refine ⟨qs, s _ _ g, ?_⟩
  clear g
  induction p with
  | nil => exact .nil
  | cons a _ ih => exact .cons (s _ _ a) ih
def sp_classes (K : PySem.W.Frag) (C : Addr) : Sp := fun vs H Q _ => ∃ (b : Addr) (ws : List Str) (z : Str), vs = [.ref b, .str z] ∧ BookAt C H b ws ∧ Watches ws ∧ Lt.Wd 40 z ∧
  ∀ (l : Addr) H', Same H H' → H l = none → ClsAt H' l (Mc.classesTo (Mw.Adj ws z) z.length (z.length + 1)) → Q (.ref l) H'
def sp_is_told (K : PySem.W.Frag) (C : Addr) : Sp := fun vs H Q _ => ∃ (b : Addr) (ws : List Str) (z : Str), vs = [.ref b, .str z] ∧ BookAt C H b ws ∧ Watches ws ∧ Lt.Wd 40 z ∧ ∀ (t : Bool) H', Same H H' → (t = true ↔ Mw.Told ws z) → Q (.bl t) H'
end
end W

namespace W
open PySem PySem.Spec PyProof.Rows L2
section
variable {P : Program} {w : World} {K : PySem.W.Frag} {mg : Str → Option Value} {base : Heap}
/-! ### cut and greatest_cut -/
def Ans (H H' : Hp) (t : Prop) (P : List Nat) (r : V) : Prop := (r = .non ∧ t) ∨ (¬ t ∧ ∃ q, r = .ref q ∧ H' q = some (.tup (natV P)) ∧ H q = none)
def sp_cut (K : PySem.W.Frag) (C : Addr) : Sp := fun vs H Q _ => ∃ (b : Addr) (ws : List Str) (z : Str), vs = [.ref b, .str z] ∧ BookAt C H b ws ∧ Watches ws ∧ Lt.Wd 40 z ∧ ∀ (r : V) H', Same H H' → Ans H H' (Mw.Told ws z) (Mc.cls (Mw.Adj ws z) z.length 0) r → Q r H'
theorem ok_cut (T : Txt K mg) : FnOk P w K mg base CX0 5 T.f_cut T.fd_cut ["book", "word"] (sp_cut K T.C_Book) := by
  refine T.F_cut.ok sc_cut (fun vs H Q E h => ?_) (fun cdv A outer s H vs Q E hr h => ?_)
  · obtain ⟨b, ws, z, rfl, _⟩ := h
    rfl
  · obtain ⟨b, ws, z, rfl, hB, L, hz, k⟩ := h
    refine ⟨_, (pss_cons (ps_expr (pe_call (ok_check_book T) (hr.mono (by decide)) rfl T.g_check_book T.F_check_book.kp T.b_check_book .nil pass0 (pa_cons (pv 0) pa_nil)))
  (pss_cons (ps_expr (pe_call (ok_check_word T) (hr.mono (by decide)) rfl T.g_check_word T.F_check_word.kp T.b_check_word .nil pass0 (pa_cons (pv 1) pa_nil)))
  (pss_cons (ps_set (i := 2) sc_cut.nd rfl (.inl rfl) (pe_call (ok_grown T) (hr.mono (by decide)) rfl T.g_grown T.F_grown.kp T.b_grown .nil pass0 (pa_cons (pe_call (ok_links_of T) (hr.mono (by decide)) rfl T.g_links_of T.F_links_of.kp T.b_links_of .nil pass0 (pa_cons (pe_fld (pv 0) rfl) (pa_cons (pv 1) pa_nil))) (pa_cons (pe_lst (pa_cons pe_int pa_nil)) pa_nil))))
  (pss_cons (ps_if (pt_cmpR (r := rIn K false) op_in_seq (pe_callB (id := "len") (r := _) Rd.c_lenS (by rfl) T.n_len (by decide +kernel) (pa_cons (pv 1) pa_nil)) (pv 2) (by rfl))
  (pss_one (ps_ret pe_non))
  pss_nil)
  (pss_one (ps_ret (pe_callTy (T := "tuple") (r := Rd.nTupOf K) Rd.c_tupOf (by rfl) T.n_tuple (by decide +kernel) (pa_cons (pe_callB (id := "sorted") (r := rSortedI K) cr_sortedI (by rfl) T.n_sorted (by decide +kernel) (pa_cons (pv 2) pa_nil)) pa_nil)))))))), ?_⟩
    have z1 := hz.l1
    have z0 := hz.l0
    have zl : z.length ≤ sizeLine := hz.line (by decide)
    have w12 := L.l1
    have le : ∀ i j, Mw.Adj ws z i j → j ≤ z.length := fun i j h => h.le.2
    walk_at "rd"
    refine ⟨b, ws, rfl, hB, ?_⟩
    walk_at "rd"
    refine ⟨z, rfl, hz, fun H1 s1 => ?_⟩
    walk_at "rd"
    obtain ⟨dx, t, hb1, ht1⟩ := hB.same s1
    refine Rd.fld hb1 T.cl_Book T.na_Book_watches rfl ?_
    walk_at "rd"
    refine ⟨t, ws, z, rfl, .inr (.of ht1), watch_sm L, by omega, by omega, fun p H2 hL s2 _ _ => ?_⟩
    walk_at "rd"
    refine ⟨Nat.le_of_ble_eq_true rfl, Rd.new fun q G nq gq s3 => ?_⟩
    walk_at "rd"
    refine ⟨p, q, z.length, Mw.Adj ws z, [((0 : Nat) : Int)], rfl, hL.same s3, .of gq, by omega, le, by simp, fun x hx => by rw [List.mem_singleton.mp hx]; omega, fun r gs G2 gr nd mem s4 nr => ?_⟩
    have mem0 : ∀ x : Int, x ∈ gs ↔ ∃ i : Nat, x = i ∧ Mw.Star (Mw.Adj ws z) 0 i := fun x => by
      rw [mem]
      constructor
      · rintro ⟨i, rfl, s', hs, st⟩
        have : s' = 0 := by have := List.mem_singleton.mp hs; omega
        subst this
        exact ⟨i, rfl, st⟩
      · rintro ⟨i, rfl, st⟩
        exact ⟨i, rfl, 0, List.mem_singleton_self _, st⟩
    have s14 := (((s1.trans s2).trans s3).trans s4)
    clear s2 s3 s4 s1 hL hb1 ht1 mem
    walk_at "rd"
    refine Rd.lenStr zl ?_
    walk_at "rd"
    refine Rd.inIntsY (.inl (.of gr)) ?_
    walk_at "rd"
    refine ite2 (fun c => ?_) (fun c => ?_)
    · walk_at "rd"
      obtain ⟨i, ei, st⟩ := (mem0 _).mp c
      have : i = z.length := by omega
      subst this
      exact k _ _ s14 (.inl ⟨rfl, st⟩)
    · have no : ¬ Mw.Told ws z := fun h => c ((mem0 _).mpr ⟨_, rfl, h⟩)
      walk_at "rd"
      refine Rd.sortedI (.of gr) fun ms p2 G3 pm ps gp s5 np => ?_
      walk_at "rd"
      refine Rd.tupOf (.of gp) (Rd.new fun q2 G4 nq2 gq2 s6 => ?_)
      have s16 := (s14.trans s5)
      have e : ms = (Mc.cls (Mw.Adj ws z) z.length 0).map fun i : Nat => (i : Int) := Mc.int_ext (sorted_lt ps (pm.nodup_iff.mpr nd)) (Mc.cls_lt _ 0) fun x => by
        rw [pm.mem_iff, mem0]
        constructor
        · rintro ⟨i, rfl, st⟩
          exact mem_nat.mpr (Mc.mem_cls.mpr ⟨Mc.star_le le (Nat.zero_le _) st, st⟩)
        · intro h
          obtain ⟨i, hi, rfl⟩ := List.mem_map.mp h
          exact ⟨i, rfl, (Mc.mem_cls.mp hi).2⟩
      exact k _ _ (s16.trans s6) (.inr ⟨no, q2, rfl, by rw [gq2, e]; rfl, s16.free nq2⟩)

end
end W

namespace W
open PySem PySem.Spec PyProof.Rows L2
section
variable {P : Program} {w : World} {K : PySem.W.Frag} {mg : Str → Option Value} {base : Heap}
/-! ### rules: steps between spots -/
def stepOf (z : Str) (i j : Nat) : Str × Str := if i < j then (("on" : Str), cutS z (some (i : Int)) (some (j : Int))) else (("back" : Str), cutS z (some (j : Int)) (some (i : Int)))
def stepsOf (z : Str) : List Nat → List (Str × Str)
  | i :: j :: P => stepOf z i j :: stepsOf z (j :: P)
  | _ => []
theorem stepsOf_len (z : Str) : ∀ P : List Nat, (stepsOf z P).length = P.length - 1
  | [] => rfl
  | [_] => rfl
  | i :: j :: P => by
    show (stepsOf z (j :: P)).length + 1 = _
    rw [stepsOf_len z (j :: P)]
    simp
theorem stepsOf_get {z : Str} : ∀ {P : List Nat} {k i j : Nat}, P[k]? = some i → P.tail[k]? = some j → (stepsOf z P)[k]? = some (stepOf z i j)
  | i :: j :: P, 0, _, _, h1, h2 => by
    simp at h1 h2
    subst h1 h2
    rfl
  | i :: j :: P, k + 1, _, _, h1, h2 => by
    show (stepsOf z (j :: P))[k]? = _
    exact stepsOf_get (P := j :: P) (by simpa using h1) (by simpa using h2)
  | [i], k, _, _, h1, h2 => by simp at h2
  | [], k, _, _, h1, h2 => by simp at h1
/-- the steps ss stand as a tuple at q -/
def StepsAt (H : Hp) (q : Addr) (ss : List (Str × Str)) : Prop := ∃ rs : List Addr, H q = some (.tup (rs.map V.ref)) ∧ rs.length = ss.length ∧ ∀ (i : Nat) (r : Addr) (s : Str × Str), rs[i]? = some r → ss[i]? = some s → H r = some (.tup [.str s.1, .str s.2])
theorem StepsAt.keep {H H' : Hp} {q : Addr} {ss : List (Str × Str)} (h : StepsAt H q ss) (s : ∀ b xs, H b = some (.tup xs) → H' b = some (.tup xs)) : StepsAt H' q ss := let ⟨rs, h1, h2, h3⟩ := h; ⟨rs, s _ _ h1, h2, fun i r x e1 e2 => s _ _ (h3 i r x e1 e2)⟩
theorem StepsAt.same {H H' : Hp} {q : Addr} {ss : List (Str × Str)} (h : StepsAt H q ss) (s : Same H H') : StepsAt H' q ss := h.keep fun b xs => s b _
def stepD (s : Str × Str) : PyData := .tuple [.str s.1, .str s.2]
theorem steps_dp {K : PySem.W.Frag} {H : Hp} : ∀ {ss : List (Str × Str)} {rs : List Addr}, rs.length = ss.length → (∀ (i : Nat) (r : Addr) (s : Str × Str), rs[i]? = some r → ss[i]? = some s → H r = some (.tup [.str s.1, .str s.2])) → DpAll K H (rs.map V.ref) (ss.map stepD)
  | [], [], _, _ => .nil
  | s :: ss, r :: rs, l, h => .cons (.tup (.of (h 0 r s rfl rfl)) (.cons (.str _) (.cons (.str _) .nil))) (steps_dp (by simpa using l) fun i r' s' e1 e2 => h (i + 1) r' s' (by simpa using e1) (by simpa using e2))
theorem StepsAt.dp {K : PySem.W.Frag} {H : Hp} {q : Addr} {ss : List (Str × Str)} (h : StepsAt H q ss) : Dp K H (.ref q) (.tuple (ss.map stepD)) := let ⟨_, h1, h2, h3⟩ := h; .tup (.of h1) (steps_dp h2 h3)
theorem StepsAt.row {H : Hp} {q : Addr} {ss : List (Str × Str)} (h : StepsAt H q ss) : ∃ rs : List Addr, H q = some (.tup (rs.map V.ref)) ∧ rs.length = ss.length ∧ ∀ (i : Nat) (r : Addr), rs[i]? = some r → ∃ s, ss[i]? = some s ∧ H r = some (.tup [.str s.1, .str s.2]) := by
  obtain ⟨rs, h1, h2, h3⟩ := h
  refine ⟨rs, h1, h2, fun i r e => ?_⟩
  have l : i < ss.length := by rw [← h2]; exact (List.getElem?_eq_some_iff.mp e).1
  exact ⟨ss[i], List.getElem?_eq_getElem l, h3 i r _ e (List.getElem?_eq_getElem l)⟩
def sp_steps_between (K : PySem.W.Frag) : Sp := fun vs H Q _ => ∃ (q : Addr) (z : Str) (P : List Nat), vs = [.str z, .ref q] ∧ H q = some (.tup (natV P)) ∧ P ≠ [] ∧ P.length ≤ 1000 ∧ z.length ≤ 1000 ∧ ∀ (p : Addr) H', StepsAt H' p (stepsOf z P) → Same H H' → H p = none → Q (.ref p) H'
end
end W

namespace W
open PySem PySem.Spec PyProof.Rows L2
section
variable {P : Program} {w : World} {K : PySem.W.Frag} {mg : Str → Option Value} {base : Heap}
/-! ### the pool: a number and a list of great cells; what is drawn lies below the number -/
def Pool (H : Hp) (t : Addr) : Prop := ∃ (n : Int) (c : Addr) (gs : List Int), t ≠ c ∧ H t = some (.lst [.int n, .ref c]) ∧ H c = some (.lst (gs.map V.int)) ∧ 0 ≤ n ∧ n < 18446744073709551616 ∧ gs.length ≤ 100
/-- D is no part of the pool -/
def Ap (H : Hp) (t D : Addr) : Prop := D ≠ t ∧ ∀ n c, H t = some (.lst [.int n, .ref c]) → D ≠ c
/-- what drawing does -/
structure Dr (t : Addr) (H H' : Hp) : Prop where
  but : Rd.But t H H'
  ap : ∀ D o, H D = some o → Ap H t D → Ap H' t D
theorem Dr.refl (t : Addr) (H : Hp) : Dr t H H := ⟨Rd.But.refl t H, fun _ _ _ a => a⟩
theorem Dr.trans {t : Addr} {H H1 H2 : Hp} (a : Dr t H H1) (b : Dr t H1 H2) : Dr t H H2 := ⟨a.but.trans b.but, fun D o e p => b.ap D o (a.but D o p.1 e) (a.ap D o e p)⟩
theorem Pool.same {H H' : Hp} {t : Addr} (h : Pool H t) (s : Same H H') : Pool H' t := by
  obtain ⟨n, c, gs, tc, h1, h2, r⟩ := h
  exact ⟨n, c, gs, tc, s _ _ h1, s _ _ h2, r⟩
theorem Ap.same {H H' : Hp} {t D : Addr} (p : Pool H t) (s : Same H H') (a : Ap H t D) : Ap H' t D := by
  obtain ⟨n, c, gs, tc, h1, h2, r⟩ := p
  refine ⟨a.1, fun m d e => ?_⟩
  rw [s _ _ h1] at e
  cases e
  exact a.2 _ _ h1
theorem Dr.of {H H' : Hp} {t : Addr} (p : Pool H t) (s : Same H H') : Dr t H H' := ⟨Rd.But.of s, fun _ _ _ a => a.same p s⟩
theorem Dr.same {t : Addr} {H H1 H2 : Hp} (a : Dr t H H1) (p : Pool H1 t) (s : Same H1 H2) : Dr t H H2 := a.trans (.of p s)
theorem Pool.new {H : Hp} {t l : Addr} (h : Pool H t) (n : H l = none) : Ap H t l := by
  obtain ⟨m, c, gs, tc, h1, h2, r⟩ := h
  refine ⟨(ne_of_none h1 n).symm, fun k d e => ?_⟩
  rw [h1] at e
  cases e
  exact (ne_of_none h2 n).symm
/-- a thing that is no list is no part of the pool -/
theorem Pool.off {H H' : Hp} {t l : Addr} (h : Pool H t) (a : Ap H t l) (e : ∀ b, b ≠ l → H' b = H b) : Pool H' t := by
  obtain ⟨n, c, gs, tc, h1, h2, r⟩ := h
  exact ⟨n, c, gs, tc, by rw [e t a.1.symm]; exact h1, by rw [e c (a.2 _ _ h1).symm]; exact h2, r⟩
theorem Ap.off {H H' : Hp} {t l D : Addr} (a : Ap H t l) (e : ∀ b, b ≠ l → H' b = H b) (b : Ap H t D) : Ap H' t D :=
  ⟨b.1, fun n c h => b.2 n c (by rw [← e t a.1.symm]; exact h)⟩
/-- a list that was not there ahead is written -/
theorem Dr.off {t l : Addr} {H H1 H2 : Hp} (a : Dr t H H1) (n : H l = none) (p : Ap H1 t l) (e : ∀ b, b ≠ l → H2 b = H1 b) : Dr t H H2 :=
  ⟨fun q o h g => by rw [e q (ne_of_none g n)]; exact a.but q o h g, fun D o g b => Ap.off p e (a.ap D o g b)⟩
theorem Dr.free {t l : Addr} {H H1 : Hp} (a : Dr t H H1) (p : Pool H1 t) (h : H1 l = none) : H l = none := a.but.free (p.new h).1 h
/-- a comprehension that draws -/
def LcStD (t D : Addr) (H1 : Hp) (R : Nat → List V → Hp → Prop) : Nat → Hp → Prop := fun i H => ∃ acc, H D = some (.lst acc) ∧ Pool H t ∧ Dr t H1 H ∧ Ap H t D ∧ R i acc H
def LcPuD (t D : Addr) (H1 : Hp) (R : Nat → List V → Hp → Prop) (i : Nat) (y : V) (H4 : Hp) : Prop := ∃ acc, H4 D = some (.lst acc) ∧ acc.length < sizeLine ∧ LcStD t D H1 R (i + 1) (upd H4 D (.lst (acc ++ [y])))
theorem lcPuD {t D : Addr} {H1 H4 : Hp} {R : Nat → List V → Hp → Prop} {i : Nat} {y : V} {acc : List V} (hD : H4 D = some (.lst acc)) (nD : H1 D = none) (pl : Pool H4 t) (dr : Dr t H1 H4) (ap : Ap H4 t D) (hz : acc.length < sizeLine) (r : ∀ G : Hp, G D = some (.lst (acc ++ [y])) → (∀ b, b ≠ D → G b = H4 b) → R (i + 1) (acc ++ [y]) G) : LcPuD t D H1 R i y H4 :=
  ⟨acc, hD, hz, acc ++ [y], upd_same, pl.off ap fun q h => upd_ne h, dr.off nD ap fun q h => upd_ne h, Ap.off ap (fun q h => upd_ne h) ap, r _ upd_same fun b hb => upd_ne hb⟩
theorem lcD {J : It} {n : Nat} {G : Hp → Prop} {Y : Nat → Hp → V → Hp → Prop} (w : Walk J n G Y) {g : TG} {tt : L2.TT} {te : TE} {vs : List Nat} {σ : L2.St} {H1 : Hp} {Q : VK} {t : Addr} (pl : Pool H1 t) (hG : ∀ H, Dr t H1 H → G H) (R : Addr → Nat → List V → Hp → Prop)
    (r0 : ∀ (D : Addr) (G : Hp), H1 D = none → G D = some (.lst []) → Same H1 G → R D 0 [] G)
    (hs : ∀ (D : Addr) i x H H' acc, H1 D = none → i < n → H D = some (.lst acc) → Pool H t → Dr t H1 H → Ap H t D → R D i acc H → Y i H x H' → g x (wipe σ vs) H' fun σ2 H2 => wipe σ2 vs = wipe σ vs ∧ tt σ2 H2 fun b H3 =>
      if b = true then te σ2 H3 fun y H4 => LcPuD t D H1 (R D) i y H4 else LcStD t D H1 (R D) (i + 1) H3)
    (hd : ∀ (D : Addr) acc H, H1 D = none → H D = some (.lst acc) → Pool H t → Dr t H1 H → Ap H t D → R D n acc H → Q (.ref D) H) : Rd.Lc J g tt te vs σ H1 Q := fun D nD =>
  lc_it w (LcStD t D H1 (R D)) ⟨[], upd_same, pl.same (Rd.same_upd nD), .of pl (Rd.same_upd nD), (pl.new nD).same pl (Rd.same_upd nD), r0 D _ nD upd_same (Rd.same_upd nD)⟩ (fun i H hi ⟨acc, h1, h2, h3, h4, h5⟩ => hG H h3)
    (fun i x H H' hi ⟨acc, h1, h2, h3, h4, h5⟩ y => hs D i x H H' acc nD hi h1 h2 h3 h4 h5 y) (fun H ⟨acc, h1, h2, h3, h4, h5⟩ => hd D acc H nD h1 h2 h3 h4 h5)
theorem cut_ints (ns : List Int) (lo hi : Option Int) : ∃ ms : List Int, cutV (ns.map V.int) lo hi = ms.map V.int ∧ ms.length ≤ ns.length ∧ (∀ n : Nat, hi = some (n : Int) → ms.length ≤ n) ∧ (∀ n : Nat, lo = some (n : Int) → ms.length ≤ ns.length - n) := by
  refine ⟨(ns.drop (HT.sIx (ns.map V.int).length 0 lo)).take (HT.sIx (ns.map V.int).length (ns.map V.int).length hi - HT.sIx (ns.map V.int).length 0 lo), ?_, ?_, fun n e => ?_, fun n e => ?_⟩
  · unfold cutV
    rw [List.map_take, List.map_drop]
  · rw [List.length_take, List.length_drop]
    omega
  · subst e
    rw [HT.sIx_nat, List.length_take]
    omega
  · subst e
    rw [HT.sIx_nat, List.length_take, List.length_drop, List.length_map]
    omega
def sp_l_pool (K : PySem.W.Frag) : Sp := fun vs H Q _ => ∃ (a : Addr) (ns : List Int), vs = [.ref a] ∧ SqL K H a (ns.map V.int) ∧ ∀ t H', Pool H' t → Same H H' → H t = none → Q (.ref t) H'
def sp_l_draw (K : PySem.W.Frag) : Sp := fun vs H Q _ => ∃ (t : Addr) (n : Int), vs = [.ref t, .int n] ∧ Pool H t ∧ 0 < n ∧ n < 1073741824 ∧ ∀ r H', 0 ≤ r → r < n → Pool H' t → Dr t H H' → Q (.int r) H'
theorem drawP {K : PySem.W.Frag} {H : Hp} {t : Addr} {n : Int} {Q : VK} {E : XK} (T : Pool H t) (h0 : 0 < n) (h1 : n < 1073741824) (k : ∀ r H', 0 ≤ r → r < n → Pool H' t → Dr t H H' → Q (.int r) H') : sp_l_draw K [.ref t, .int n] H Q E := ⟨t, n, rfl, T, h0, h1, k⟩
theorem ok_l_pool (T : Txt K mg) : FnOk P w K mg base CX0 1 T.f_l_pool T.fd_l_pool ["_law_script"] (sp_l_pool K) := by
  refine T.F_l_pool.ok sc_l_pool (fun vs H Q E h => ?_) (fun cdv A outer s H vs Q E hr h => ?_)
  · obtain ⟨a, ns, rfl, _⟩ := h
    rfl
  · obtain ⟨a, ns, rfl, hS, k⟩ := h
    refine ⟨_, (pss_cons (ps_setLc (i := 2) (own := [("_law_cell", 1)]) (g := gName 1) (tt := tYes) rfl sc_l_pool.nd rfl rfl (sw_true rfl rfl rfl (by decide +kernel)) (pi_list (pe_slice (r := rSlL K) sl_list (pv 0) po_none (po_some pe_int))) (blkOk_by (own := [("_law_cell", 1)]) (N := ["_law_script", "_law_cell", "_law_cells", "_law_number"]) (sc := defScope s_l_pool) (by decide +kernel)) (fun _ _ _ _ _ => (pg_name (i := 1) sc_l_pool.nd rfl (.inl rfl))) (fun _ _ _ _ _ => pts_nil) (fun _ _ _ _ _ => (pe_callTy (T := "int") (r := _) Rd.c_int (by rfl) T.n_int (by decide +kernel) (pa_cons (pv 1) pa_nil))))
  (pss_cons (ps_set (i := 3) sc_l_pool.nd rfl (.inl rfl) (pe_op op_add pe_int (pe_callB (id := "len") (r := Rd.nLen K) Rd.c_len (by rfl) T.n_len (by decide +kernel) (pa_cons (pv 2) pa_nil))))
  (pss_cons (ps_for PassesOwn.never rfl (pi_list (pv 2)) (pg_name (i := 1) sc_l_pool.nd rfl (.inl rfl))
  (pss_one (ps_set (i := 3) sc_l_pool.nd rfl (.inl rfl) (pe_op op_mod (pe_callTy (T := "int") (r := _) Rd.c_int (by rfl) T.n_int (by decide +kernel) (pa_cons (pe_op op_add (pe_op op_add (pe_op op_mulW (pv 3) pe_int) (pv 1)) pe_int) pa_nil)) (pe_op op_sub (pe_op op_pow pe_int pe_int) pe_int)))))
  (pss_one (ps_ret (pe_lst (pa_cons (pv 3) (pa_cons (pe_lc (own := [("_law_cell", 1)]) (g := gName 1)  rfl sc_l_pool.nd (pi_list (pv 2)) (blkOk_by (own := [("_law_cell", 1)]) (N := ["_law_script", "_law_cell", "_law_cells", "_law_number"]) (sc := defScope s_l_pool) (by decide +kernel)) (fun _ _ _ _ _ => (pg_name (i := 1) sc_l_pool.nd rfl (.inl rfl))) (fun _ _ _ _ _ => pts_one (pt_cmpR op_ge (pe_callB (id := "abs") (r := _) Rd.c_abs (by rfl) T.n_abs (by decide +kernel) (pa_cons (pv 1) pa_nil)) (pe_op op_pow pe_int pe_int) (nomark _))) (fun _ _ _ _ _ => (pe_callB (id := "abs") (r := _) Rd.c_abs (by rfl) T.n_abs (by decide +kernel) (pa_cons (pv 1) pa_nil)))) pa_nil)))))))), ?_⟩
    walk_at "rd"
    obtain ⟨ms, em, _, lm, _⟩ := cut_ints ns none (some 60)
    have l60 := lm 60 rfl
    refine Rd.slL hS (Rd.new fun p G np gp s1 => ?_)
    rw [em] at gp
    walk_at "rd"
    refine ⟨⟨_, .of gp⟩, Rd.lcS walk_list (fun _ s => .of (s _ _ gp)) (fun D i acc _ => ∃ us : List Int, acc = us.map V.int ∧ us.length = i) (fun _ _ _ _ _ => ⟨[], rfl, rfl⟩) ?_ ?_⟩
    · rintro D i x G2 _ acc nD hi hD sm ⟨us, rfl, ul⟩ ⟨rfl, hx⟩
      obtain ⟨v, hv, rfl⟩ := Rd.map_get hx
      rw [List.length_map] at hi
      walk_at "rd"
      refine ⟨rfl, ?_⟩
      walk_at "rd"
      refine Rd.lcPush hD nD sm (by rw [List.length_map, ul, sizeLine_eq]; omega) fun G3 g3 off3 => ?_
      exact ⟨us ++ [v], by rw [List.map_append]; rfl, by rw [List.length_append, ul]; rfl⟩
    rintro c acc G2 nc hc s2 ⟨us, rfl, ul⟩
    rw [List.length_map] at ul
    have s12 := s1.trans s2
    walk_at "rd"
    refine Rd.len (.inl (.of hc)) ?_
    rw [List.length_map]
    walk_at "rd"
    refine Rd.forS ?_
    walk_at "rd"
    refine ⟨⟨_, .of hc⟩, for_list (K := K) (a := c) (xs := us.map V.int) (fun i σ H' => ∃ (o : Option V) (m : Int), σ = [some (.ref a), o, some (.ref c), some (.int m)] ∧ 0 ≤ m ∧ m < 2305843009213693951 ∧ H' = G2) ⟨_, _, rfl, by omega, by omega, rfl⟩ (fun i σ H' _ ⟨_, _, _, _, _, e⟩ => by rw [e]; exact .of hc) ?_ ?_⟩
    · rintro i x _ _ hx ⟨o, m, rfl, m0, m1, rfl⟩
      obtain ⟨v, hv, rfl⟩ := Rd.map_get hx
      walk_at "rd"
      refine Rd.iC (wide_mul (a := 100) (b := 100) (by omega) (by decide) (by decide) (by decide) (by decide)) ?_
      walk_at "rd"
      refine Rd.iC ⟨by decide, by decide, by decide⟩ ?_
      have e61 : (2 : Int) ^ Int.toNat 61 = 2305843009213693952 := by decide
      rw [e61]
      walk_at "rd"
      refine Rd.iC (by decide) ?_
      walk_at "rd"
      exact ⟨_, _, rfl, Int.emod_nonneg _ (by decide), Int.emod_lt_of_pos _ (by decide), rfl⟩
    rintro _ _ ⟨o, m, rfl, m0, m1, rfl⟩
    walk_at "rd"
    refine ⟨⟨_, .of hc⟩, Rd.lcS walk_list (fun _ s => .of (s _ _ hc)) (fun D i acc _ => ∃ us : List Int, acc = us.map V.int ∧ us.length ≤ i) (fun _ _ _ _ _ => ⟨[], rfl, Nat.le_refl _⟩) ?_ ?_⟩
    · rintro D i x G3 _ acc nD hi hD sm ⟨gs, rfl, gl⟩ ⟨rfl, hx⟩
      obtain ⟨v, hv, rfl⟩ := Rd.map_get hx
      rw [List.length_map] at hi
      walk_at "rd"
      refine ⟨rfl, ?_⟩
      walk_at "rd"
      refine Rd.iC ⟨by decide, by decide, by decide⟩ ?_
      walk_at "rd"
      refine ite2 (fun q => ?_) (fun q => ?_)
      · walk_at "rd"
        refine Rd.lcPush hD nD sm (by rw [List.length_map, sizeLine_eq]; omega) fun G4 g4 off4 => ?_
        exact ⟨gs ++ [(v.natAbs : Int)], by rw [List.map_append]; rfl, by rw [List.length_append]; show _ + 1 ≤ _; omega⟩
      · walk_at "rd"
        exact ⟨_, hD, sm, gs, rfl, by omega⟩
    rintro D acc G3 nD hD sm ⟨gs, rfl, gl⟩
    rw [List.length_map] at gl
    walk_at "rd"
    refine ⟨Nat.le_of_ble_eq_true rfl, Rd.new fun t G4 nt gt s4 => ?_⟩
    exact k t G4 ⟨m, D, gs, (ne_of_none hD nt).symm, gt, s4 _ _ hD, m0, by omega, by omega⟩ ((s12.trans sm).trans s4) ((s12.trans sm).free nt)
theorem ok_l_draw (T : Txt K mg) : FnOk P w K mg base CX0 1 T.f_l_draw T.fd_l_draw ["_law_pool_here", "_law_many"] (sp_l_draw K) := by
  refine T.F_l_draw.ok sc_l_draw (fun vs H Q E h => ?_) (fun cdv A outer s H vs Q E hr h => ?_)
  · obtain ⟨t, n, rfl, _⟩ := h
    rfl
  · obtain ⟨t, n, rfl, ⟨x, c, gs, tc, h1, h2, x0, x1, gl⟩, n0, n1, k⟩ := h
    refine ⟨_, (C8.pss_cut (ps_if (PW.pt (pw_and (pt_cmpR op_gt (pe_callB (id := "len") (r := Rd.nLen K) Rd.c_len (by rfl) T.n_len (by decide +kernel) (pa_cons (pe_ix (r := rIxL K) ix_list (pv 0) pe_int (fun _ _ => rfl)) pa_nil)) pe_int (nomark _)) (pw_and1 (pt_cmpR op_lt (pe_ix (r := rIxL K) ix_list (pe_ix (r := rIxL K) ix_list (pv 0) pe_int (fun _ _ => rfl)) pe_int (fun _ _ => rfl)) (pe_op op_pow pe_int pe_int) (nomark _)))))
  (pss_one (ps_asg (pe_slice (r := rSlL K) sl_list (pe_ix (r := rIxL K) ix_list (pv 0) pe_int (fun _ _ => rfl)) (po_some pe_int) po_none) (pg_sub (pv 0) pe_int set_list)))
  pss_nil)
  (pss_cons (ps_if (pt_cmpR op_gt (pe_callB (id := "len") (r := Rd.nLen K) Rd.c_len (by rfl) T.n_len (by decide +kernel) (pa_cons (pe_ix (r := rIxL K) ix_list (pv 0) pe_int (fun _ _ => rfl)) pa_nil)) pe_int (nomark _))
  (pss_cons (ps_set (i := 2) sc_l_draw.nd rfl (.inl rfl) (pe_ix (r := rIxL K) ix_list (pe_ix (r := rIxL K) ix_list (pv 0) pe_int (fun _ _ => rfl)) pe_int (fun _ _ => rfl)))
  (pss_cons (ps_set (i := 3) sc_l_draw.nd rfl (.inl rfl) (pe_op op_mod (pe_callTy (T := "int") (r := _) Rd.c_int (by rfl) T.n_int (by decide +kernel) (pa_cons (pv 2) pa_nil)) (pv 1)))
  (pss_cons (ps_asg (pe_op op_cat (pe_lst (pa_cons (pe_op op_fdivW (pv 2) (pv 1)) pa_nil)) (pe_slice (r := rSlL K) sl_list (pe_ix (r := rIxL K) ix_list (pv 0) pe_int (fun _ _ => rfl)) (po_some pe_int) po_none)) (pg_sub (pv 0) pe_int set_list))
  (pss_one (ps_ret (pv 3))))))
  pss_nil)
  (pss_cons (ps_asg (pe_op op_mod (pe_callTy (T := "int") (r := _) Rd.c_int (by rfl) T.n_int (by decide +kernel) (pa_cons (pe_op op_add (pe_op op_mulW (pe_callTy (T := "int") (r := _) Rd.c_int (by rfl) T.n_int (by decide +kernel) (pa_cons (pe_op op_add (pe_ix (r := rIxL K) ix_list (pv 0) pe_int (fun _ _ => rfl)) pe_int) pa_nil)) pe_int) pe_int) pa_nil)) (pe_op op_pow pe_int pe_int)) (pg_sub (pv 0) pe_int set_list))
  (pss_one (ps_ret (pe_op op_mod (pe_callTy (T := "int") (r := _) Rd.c_int (by rfl) T.n_int (by decide +kernel) (pa_cons (pe_op op_fdiv (pe_ix (r := rIxL K) ix_list (pv 0) pe_int (fun _ _ => rfl)) pe_int) pa_nil)) (pv 1))))))), ?_⟩
    walk_at "rd"
    refine Rd.cut (fun σ G => ∃ (c2 : Addr) (gs2 : List Int), σ = [some (.ref t), some (.int n), none, none] ∧ t ≠ c2 ∧ G t = some (.lst [.int x, .ref c2]) ∧ G c2 = some (.lst (gs2.map V.int)) ∧ gs2.length ≤ 100 ∧ Rd.But t H G ∧ (c2 = c ∨ H c2 = none)) ?_ ?_
    · walk_at "rd"
      refine Rd.ixL (.of h1) (atI_nat (j := 1) rfl) ?_
      walk_at "rd"
      refine Rd.len (.inl (.of h2)) ?_
      rw [List.length_map]
      walk_at "rd"
      refine ite2 (fun q => ?_) (fun q => ?_)
      · walk_at "rd"
        refine Rd.ixL (.of h1) (atI_nat (j := 1) rfl) ?_
        walk_at "rd"
        have hx : (0 : Nat) < gs.length := by omega
        refine Rd.ixL (.of h2) (Rd.atI_of (by decide) (Rd.map_int hx)) ?_
        walk_at "rd"
        refine Rd.iC ⟨by decide, by decide, by decide⟩ ?_
        walk_at "rd"
        refine ite2 (fun q2 => ?_) (fun q2 => ?_)
        · walk_at "rd"
          refine Rd.ixL (.of h1) (atI_nat (j := 1) rfl) ?_
          walk_at "rd"
          obtain ⟨ms, em, ml, _, _⟩ := cut_ints gs (some 1) none
          refine Rd.slL (.of h2) (Rd.new fun p G np gp s1 => ?_)
          rw [em] at gp
          walk_at "rd"
          refine Rd.setG (s1 _ _ h1) (show ixN 2 1 = some 1 by decide) rfl fun G2 g2 gb => ?_
          walk_at "rd"
          have pt : p ≠ t := (ne_of_none h1 np).symm
          exact ⟨p, ms, rfl, pt.symm, g2, by rw [gb p pt]; exact gp, by omega, fun b o hb e => by rw [gb b hb]; exact s1 _ _ e, .inr np⟩
        · walk_at "rd"
          exact ⟨c, gs, rfl, tc, h1, h2, gl, Rd.But.refl _ _, .inl rfl⟩
      · walk_at "rd"
        exact ⟨c, gs, rfl, tc, h1, h2, gl, Rd.But.refl _ _, .inl rfl⟩
    rintro _ G ⟨c2, gs2, rfl, tc2, g1, g2, gl2, bt, hc⟩
    have ap : ∀ (G' : Hp) (c3 : Addr) (y : Int), G' t = some (.lst [.int y, .ref c3]) → (c3 = c2 ∨ G c3 = none) → ∀ D o, H D = some o → Ap H t D → Ap G' t D := fun G' c3 y e h D o hD a => by
      refine ⟨a.1, fun m d e' => ?_⟩
      rw [e] at e'
      cases e'
      rcases h with h | h
      · rw [h]
        rcases hc with hc | hc
        · rw [hc]
          exact a.2 _ _ h1
        · exact fun z => by rw [z, hc] at hD; cases hD
      · have := bt D o a.1 hD
        exact fun z => by rw [z, h] at this; cases this
    walk_at "rd"
    refine Rd.ixL (.of g1) (atI_nat (j := 1) rfl) ?_
    walk_at "rd"
    refine Rd.len (.inl (.of g2)) ?_
    rw [List.length_map]
    walk_at "rd"
    refine ite2 (fun q => ?_) (fun q => ?_)
    · walk_at "rd"
      refine Rd.ixL (.of g1) (atI_nat (j := 1) rfl) ?_
      walk_at "rd"
      have hx : (0 : Nat) < gs2.length := by omega
      refine Rd.ixL (.of g2) (Rd.atI_of (by decide) (Rd.map_int hx)) ?_
      walk_at "rd"
      refine Rd.iC (by omega) ?_
      walk_at "rd"
      refine Rd.iC (wide_div (b := 30) n0 (by omega) (by decide) (by decide)) ?_
      refine ⟨Nat.le_of_ble_eq_true rfl, Rd.new fun p1 G2 np1 gp1 s1 => ?_⟩
      walk_at "rd"
      refine Rd.ixL (.of (s1 _ _ g1)) (atI_nat (j := 1) rfl) ?_
      walk_at "rd"
      obtain ⟨ms, em, _, _, ml⟩ := cut_ints gs2 (some 1) none
      refine Rd.slL (.of (s1 _ _ g2)) (Rd.new fun p2 G3 np2 gp2 s2 => ?_)
      rw [em] at gp2
      refine Rd.cat (s2 _ _ gp1) gp2 (by rw [List.length_map, sizeLine_eq]; show 1 + _ ≤ _; omega) (Rd.new fun p3 G4 np3 gp3 s3 => ?_)
      walk_at "rd"
      have s13 := (s1.trans s2).trans s3
      have p3t : p3 ≠ t := (ne_of_none (s2 _ _ (s1 _ _ g1)) np3).symm
      refine Rd.setG (s13 _ _ g1) (show ixN 2 1 = some 1 by decide) rfl fun G5 g5 gb => ?_
      walk_at "rd"
      refine k _ _ (Int.emod_nonneg _ (by omega)) (Int.emod_lt_of_pos _ n0) ⟨x, p3, _ :: ms, p3t.symm, g5, by rw [gb _ p3t, gp3]; rfl, x0, x1, ?_⟩ ⟨bt.trans fun b o hb e => by rw [gb b hb]; exact s13 _ _ e, ap _ p3 x g5 (.inr ((s1.trans s2).free np3))⟩
      have := ml 1 rfl
      show ms.length + 1 ≤ 100
      omega
    · walk_at "rd"
      refine Rd.ixL (.of g1) (atI_nat (j := 0) rfl) ?_
      walk_at "rd"
      refine Rd.iC (wide_mul (a := 100) (b := 100) (by omega) (by decide) (by decide) (by decide) (by decide)) ?_
      walk_at "rd"
      refine Rd.iC ⟨by decide, by decide, by decide⟩ ?_
      have e64 : (2 : Int) ^ Int.toNat 64 = 18446744073709551616 := by decide
      rw [e64]
      refine Rd.iC (by decide) ?_
      generalize hM : ((x + 7919) * 6364136223846793005 + 1442695040888963407) % 18446744073709551616 = M
      have M0 : 0 ≤ M := by rw [← hM]; exact Int.emod_nonneg _ (by decide)
      have M1 : M < 18446744073709551616 := by rw [← hM]; exact Int.emod_lt_of_pos _ (by decide)
      walk_at "rd"
      refine Rd.setG g1 (show ixN 2 0 = some 0 by decide) rfl fun G2 h3 gb => ?_
      walk_at "rd"
      refine Rd.ixL (.of h3) (atI_nat (j := 0) rfl) ?_
      walk_at "rd"
      refine Rd.iC ⟨by decide, by decide⟩ ?_
      walk_at "rd"
      refine Rd.iC (by omega) ?_
      walk_at "rd"
      exact k _ _ (Int.emod_nonneg _ (by omega)) (Int.emod_lt_of_pos _ n0) ⟨M, c2, gs2, tc2, h3, by rw [gb _ tc2.symm]; exact g2, M0, M1, gl2⟩ ⟨bt.trans fun b o hb e => by rw [gb b hb]; exact e, ap _ c2 M h3 (.inl rfl)⟩

end
end W

namespace W
open PySem PySem.Spec PyProof.Rows L2
section
variable {P : Program} {w : World} {K : PySem.W.Frag} {mg : Str → Option Value} {base : Heap}
/-! ### words, letters and watches drawn out of the pool -/
def Sub (z L : Str) : Prop := ∀ c ∈ z.cps.toList, c ∈ L.cps.toList
theorem Sub.let {z L : Str} (h : Sub z L) (l : Lt.Let L) : Lt.Let z := fun c m => l c (h c m)
theorem Sub.refl (L : Str) : Sub L L := fun _ m => m
theorem Sub.empty (L : Str) : Sub "" L := fun c h => absurd h (by decide +revert)
theorem Sub.app {a b L : Str} (x : Sub a L) (y : Sub b L) : Sub (a ++ b) L := fun c h => by
  have : c ∈ a.cps.toList ++ b.cps.toList := by
    rw [← Array.toList_append]
    exact h
  exact (List.mem_append.mp this).elim (x c) (y c)
theorem Sub.cut {z L : Str} (x : Sub z L) (lo hi : Option Int) : Sub (cutS z lo hi) L := fun c h => x c (List.mem_of_mem_drop (List.mem_of_mem_take (show c ∈ (z.cps.toList.drop _).take _ from by simpa [cutS] using h)))
theorem Sub.one {L : Str} {c : Nat} (h : c ∈ L.cps.toList) : Sub ⟨#[c]⟩ L := fun d hd => by
  have : d = c := by simpa using hd
  exact this ▸ h
theorem Sub.trans {a b L : Str} (x : Sub a b) (y : Sub b L) : Sub a L := fun c m => y c (x c m)
theorem join_sub {L : Str} : ∀ ys : List Str, (∀ y ∈ ys, Sub y L) → Sub (Str.join "" ys) L
  | [], _ => fun c h => by exact absurd h (by decide +revert)
  | [y], h => h y (by simp)
  | y :: z :: r, h => by
    have ih := join_sub (z :: r) fun x hx => h x (List.mem_cons_of_mem _ hx)
    have e : Str.join "" (y :: z :: r) = y ++ "" ++ Str.join "" (z :: r) := rfl
    rw [e]
    exact ((h y List.mem_cons_self).app (.empty L)).app ih
theorem str_get {z : Str} {i : Int} (h0 : 0 ≤ i) (h1 : i < z.length) : ∃ c, atI z.cps.toList i = some c ∧ z.cps.toList[i.toNat]? = some c ∧ c ∈ z.cps.toList := by
  have hi : i.toNat < z.cps.toList.length := by rw [Array.length_toList]; unfold Str.length at h1; omega
  exact ⟨_, Rd.atI_of h0 (List.getElem?_eq_getElem hi), List.getElem?_eq_getElem hi, List.getElem_mem hi⟩
theorem cut_to_l {z : Str} (n : Nat) : (cutS z none (some (n : Int))).cps.toList = z.cps.toList.take n := by
  show ((z.cps.toList.drop (HT.sIx z.length 0 none)).take (HT.sIx z.length z.length (some (n : Int)) - HT.sIx z.length 0 none)).toArray.toList = _
  rw [HT.sIx_nat, show HT.sIx z.length 0 none = 0 from rfl, List.drop_zero, Nat.sub_zero]
  show List.take (min n z.length) z.cps.toList = _
  rcases Nat.le_total n z.length with l | l
  · rw [Nat.min_eq_left l]
  · rw [Nat.min_eq_right l, List.take_of_length_le (by rw [Array.length_toList]; exact Nat.le_refl _), List.take_of_length_le (by rw [Array.length_toList]; exact l)]
theorem cut_from_l {z : Str} (n : Nat) : (cutS z (some (n : Int)) none).cps.toList = z.cps.toList.drop n := by
  show ((z.cps.toList.drop (HT.sIx z.length 0 (some (n : Int)))).take (HT.sIx z.length z.length none - HT.sIx z.length 0 (some (n : Int)))).toArray.toList = _
  rw [HT.sIx_nat]
  show List.take (z.length - min n z.length) (List.drop (min n z.length) z.cps.toList) = _
  have zl : z.cps.toList.length = z.length := Array.length_toList
  rcases Nat.le_total n z.length with l | l
  · rw [Nat.min_eq_left l, List.take_of_length_le (by rw [List.length_drop]; omega)]
  · rw [Nat.min_eq_right l, List.drop_of_length_le (by omega), List.drop_of_length_le (by omega), List.take_nil]
def sp_l_word (K : PySem.W.Frag) : Sp := fun vs H Q _ => ∃ (t : Addr) (L : Str) (n : Int), vs = [.ref t, .str L, .int n] ∧ Pool H t ∧ Lt.Let L ∧ 1 ≤ L.length ∧ L.length ≤ 1000 ∧ 0 ≤ n ∧ n ≤ 1000 ∧ ∀ (z : Str) H', Sub z L → (z.length : Int) = n → Pool H' t → Dr t H H' → Q (.str z) H'
def sp_l_letters (K : PySem.W.Frag) : Sp := fun vs H Q _ => ∃ (t : Addr) (n : Int), vs = [.ref t, .int n] ∧ Pool H t ∧ 0 ≤ n ∧ n ≤ 26 ∧ ∀ (z : Str) H', Lt.Let z → z.cps.toList.Nodup → (z.length : Int) = n → Pool H' t → Dr t H H' → Q (.str z) H'
theorem ok_l_word (T : Txt K mg) : FnOk P w K mg base CX0 2 T.f_l_word T.fd_l_word ["_law_pool_here", "_law_letters_here", "_law_many"] (sp_l_word K) := by
  refine T.F_l_word.ok sc_l_word (fun vs H Q E h => ?_) (fun cdv A outer s H vs Q E hr h => ?_)
  · obtain ⟨t, L, n, rfl, _⟩ := h
    rfl
  · obtain ⟨t, L, n, rfl, pl, hL, L0, L1, n0, n1, k⟩ := h
    refine ⟨_, (pss_one (ps_ret (pe_join pe_str (pe_lc (own := [("_law_k", 3)]) (g := gName 3) (tt := tYes) rfl sc_l_word.nd (pi_range1 rfl T.n_range (pa_cons (pv 2) pa_nil)) (blkOk_by (own := [("_law_k", 3)]) (N := ["_law_pool_here", "_law_letters_here", "_law_many", "_law_k"]) (sc := defScope s_l_word) (by decide +kernel)) (fun _ _ _ _ _ => (pg_name (i := 3) sc_l_word.nd rfl (.inl rfl))) (fun _ _ _ _ _ => pts_nil) (fun _ _ _ _ _ => (pe_ix ix_str (pv 1) (pe_call (ok_l_draw T) (hr.mono (by decide)) rfl T.g_l_draw T.F_l_draw.kp T.b_l_draw .nil pass0 (pa_cons (pv 0) (pa_cons (pe_callB (id := "len") (r := _) Rd.c_lenS (by rfl) T.n_len (by decide +kernel) (pa_cons (pv 1) pa_nil)) pa_nil))) (fun _ _ => rfl))))))), ?_⟩
    have Ll : L.length ≤ sizeLine := by rw [sizeLine_eq]; omega
    walk_at "rd"
    refine ⟨by omega, by omega, ?_⟩
    refine lcD walk_range pl (fun _ _ => trivial) (fun D i acc _ => ∃ ys : List Str, acc = ys.map V.str ∧ ys.length = i ∧ (∀ y ∈ ys, Sub y L ∧ y.length = 1)) (fun _ _ _ _ _ => ⟨[], rfl, rfl, fun y m => (nomatch m)⟩) ?_ ?_
    · rintro D i x G _ acc nD hi hD plG drG apG ⟨ys, rfl, yl, hy⟩ ⟨rfl, rfl⟩
      walk_at "rd"
      refine ⟨rfl, Rd.tyes ?_⟩
      walk_at "rd"
      refine Rd.lenStr Ll ?_
      walk_at "rd"
      refine drawP plG (by omega) (by omega) fun r G2 r0 r1 pl2 dr2 => ?_
      obtain ⟨c, ec, _, hc⟩ := str_get (z := L) r0 r1
      refine Rd.ixS Ll ec ?_
      refine lcPuD (dr2.but _ _ apG.1 hD) nD pl2 (drG.trans dr2) (dr2.ap _ _ hD apG) (by rw [List.length_map, yl, sizeLine_eq]; omega) fun G3 _ _ => ?_
      refine ⟨ys ++ [⟨#[c]⟩], by rw [List.map_append]; rfl, by rw [List.length_append, yl]; rfl, fun y m => ?_⟩
      rcases List.mem_append.mp m with m | m
      · exact hy y m
      · rw [List.mem_singleton.mp m]
        exact ⟨.one hc, rfl⟩
    rintro D acc G nD hD plG drG apG ⟨ys, rfl, yl, hy⟩
    have j := Lt.join_one yl fun y m => ⟨(hy y m).1.let hL, (hy y m).2⟩
    refine Rd.join (.inl (.of hD)) (by rw [j.2.2, show (Str.ofString "").length = 0 by decide +kernel]; omega) ?_
    refine k _ _ ?_ (by rw [j.2.1]; omega) plG drG
    rw [TL.join_eq]
    exact join_sub ys fun y m => (hy y m).1
theorem abc_nd : Lt.Abc.cps.toList.Nodup := by decide +kernel
theorem ok_l_letters (T : Txt K mg) : FnOk P w K mg base CX0 2 T.f_l_letters T.fd_l_letters ["_law_pool_here", "_law_many"] (sp_l_letters K) := by
  refine T.F_l_letters.ok sc_l_letters (fun vs H Q E h => ?_) (fun cdv A outer s H vs Q E hr h => ?_)
  · obtain ⟨t, n, rfl, _⟩ := h
    rfl
  · obtain ⟨t, n, rfl, pl, n0, n1, k⟩ := h
    refine ⟨_, (pss_cons (ps_set (i := 2) sc_l_letters.nd rfl (.inl rfl) pe_str)
  (pss_cons (ps_set (i := 3) sc_l_letters.nd rfl (.inl rfl) pe_str)
  (pss_cons (ps_for PassesOwn.never rfl (pi_range1 rfl T.n_range (pa_cons (pv 1) pa_nil)) (pg_name (i := 4) sc_l_letters.nd rfl (.inl rfl))
  (pss_cons (ps_set (i := 5) sc_l_letters.nd rfl (.inl rfl) (pe_call (ok_l_draw T) (hr.mono (by decide)) rfl T.g_l_draw T.F_l_draw.kp T.b_l_draw .nil pass0 (pa_cons (pv 0) (pa_cons (pe_callB (id := "len") (r := _) Rd.c_lenS (by rfl) T.n_len (by decide +kernel) (pa_cons (pv 2) pa_nil)) pa_nil))))
  (pss_cons (ps_set (i := 3) sc_l_letters.nd rfl (.inl rfl) (pe_op Rd.o_addS (pv 3) (pe_ix ix_str (pv 2) (pv 5) (fun _ _ => rfl))))
  (pss_one (ps_set (i := 2) sc_l_letters.nd rfl (.inl rfl) (pe_op Rd.o_addS (pe_slice sl_str (pv 2) po_none (po_some (pv 5))) (pe_slice sl_str (pv 2) (po_some (pe_op op_add (pv 5) pe_int)) po_none)))))))
  (pss_one (ps_ret (pv 3)))))), ?_⟩
    walk_at "rd"
    refine Rd.forS ?_
    walk_at "rd"
    refine ⟨by omega, by omega, ?_⟩
    refine for_range (lo := 0) (n := n.toNat) (fun i σ H' => ∃ (l f : Str) (o4 o5 : Option V), σ = [some (.ref t), some (.int n), some (.str l), some (.str f), o4, o5] ∧ Lt.Let l ∧ Lt.Let f ∧ f.length = i ∧ l.length + i = 26 ∧ (f.cps.toList ++ l.cps.toList).Nodup ∧ Pool H' t ∧ Dr t H H')
      ⟨Lt.Abc, "", _, _, rfl, fun _ m => m, Lt.Let.empty, rfl, by decide +kernel, abc_nd, pl, .refl _ _⟩ ?_ ?_
    · rintro i _ H1 hi ⟨l, f, o4, o5, rfl, hl, hf, fl, ll, nd, pl1, dr1⟩
      have lz : l.length ≤ sizeLine := by rw [sizeLine_eq]; omega
      walk_at "rd"
      refine Rd.lenStr lz ?_
      walk_at "rd"
      refine drawP pl1 (by omega) (by omega) fun r H2 r0 r1 pl2 dr2 => ?_
      walk_at "rd"
      obtain ⟨c, ec, gc, hc⟩ := str_get (z := l) r0 r1
      refine Rd.ixS lz ec ?_
      refine Rd.addS (by rw [sizeLine_eq]; show f.length + 1 ≤ _; omega) ?_
      walk_at "rd"
      refine Rd.slS lz ?_
      walk_at "rd"
      refine Rd.slS lz ?_
      have e1 : cutS l none (some r) = cutS l none (some (r.toNat : Int)) := by rw [Int.toNat_of_nonneg r0]
      have e2 : cutS l (some (r + 1)) none = cutS l (some ((r.toNat + 1 : Nat) : Int)) none := by rw [show ((r.toNat + 1 : Nat) : Int) = r + 1 by omega]
      have c1 := Lt.cut_to (z := l) (b := r) r0
      have c2 := Lt.cut_from (z := l) (a := r + 1) (by omega) (by omega)
      refine Rd.addS (by rw [sizeLine_eq]; omega) ?_
      walk_at "rd"
      refine ⟨_, _, _, _, rfl, (hl.cut _ _).app (hl.cut _ _), hf.app (Lt.Let.one (hl c hc)), by rw [Lt.len_app, fl]; rfl, by rw [Lt.len_app]; omega, ?_, pl2, dr1.trans dr2⟩
      have a : ∀ x z : Str, (x ++ z).cps.toList = x.cps.toList ++ z.cps.toList := fun x z => Array.toList_append
      rw [a, a, e1, e2, cut_to_l, cut_from_l]
      have dec : l.cps.toList = l.cps.toList.take r.toNat ++ [c] ++ l.cps.toList.drop (r.toNat + 1) := by
        have hlt := (List.getElem?_eq_some_iff.mp gc).1
        rw [List.append_assoc]
        show _ = _ ++ (c :: l.cps.toList.drop (r.toNat + 1))
        rw [← (List.getElem?_eq_some_iff.mp gc).2, ← List.drop_eq_getElem_cons hlt, List.take_append_drop]
      have pm : (f.cps.toList ++ [c] ++ (l.cps.toList.take r.toNat ++ l.cps.toList.drop (r.toNat + 1))).Perm (f.cps.toList ++ l.cps.toList) := by
        rw [List.append_assoc]
        refine List.Perm.append_left _ ?_
        conv => rhs; rw [dec]
        rw [← List.append_assoc]
        exact List.Perm.append_right _ List.perm_append_comm
      exact pm.nodup_iff.mpr nd
    rintro _ H1 ⟨l, f, o4, o5, rfl, hl, hf, fl, ll, nd, pl1, dr1⟩
    walk_at "rd"
    exact k f H1 hf (List.nodup_append.mp nd).1 (by omega) pl1 dr1
/-! spots drawn -/
structure PathOk (n : Nat) (P : List Nat) : Prop where
  hd : P.head? = some 0
  la : P.getLast? = some n
  le : ∀ x ∈ P, x ≤ n
  ne : ∀ i x y, P[i]? = some x → P[i + 1]? = some y → x ≠ y
theorem natV_app (P R : List Nat) : natV (P ++ R) = natV P ++ natV R := by
  unfold natV
  rw [List.map_append, List.map_append]
theorem nat_last {P : List Nat} {x : Nat} (h : P.getLast? = some x) : atI (natV P) (-1) = some (.int (x : Int)) := by
  obtain ⟨ys, rfl⟩ := List.getLast?_eq_some_iff.mp h
  rw [natV_app]
  exact atI_last _ _
theorem ne_snoc {P : List Nat} {l v : Nat} (h : ∀ i x y, P[i]? = some x → P[i + 1]? = some y → x ≠ y) (la : P.getLast? = some l) (q : l ≠ v) : ∀ i x y, (P ++ [v])[i]? = some x → (P ++ [v])[i + 1]? = some y → x ≠ y := fun i x y hx hy => by
  have li : i + 1 < P.length + 1 := by
    have := (List.getElem?_eq_some_iff.mp hy).1
    rwa [List.length_append] at this
  rw [List.getElem?_append_left (by omega)] at hx
  rcases Nat.lt_or_ge (i + 1) P.length with c | c
  · rw [List.getElem?_append_left c] at hy
    exact h i x y hx hy
  · have e : i + 1 = P.length := by omega
    rw [e, List.getElem?_concat_length] at hy
    rw [List.getLast?_eq_getElem?, show P.length - 1 = i by omega, hx] at la
    cases la
    cases hy
    exact q
def sp_l_path (K : PySem.W.Frag) : Sp := fun vs H Q _ => ∃ (t : Addr) (n m : Nat), vs = [.ref t, .int (n : Nat), .int (m : Nat)] ∧ Pool H t ∧ n ≤ 1000 ∧ m ≤ 1000 ∧ ∀ (l : Addr) (P : List Nat) H', Pool H' t → Dr t H H' → H l = none → Ap H' t l → H' l = some (.lst (natV P)) → PathOk n P → P.length ≤ m + 2 → Q (.ref l) H'
theorem ok_l_path (T : Txt K mg) : FnOk P w K mg base CX0 2 T.f_l_path T.fd_l_path ["_law_pool_here", "_law_last", "_law_most"] (sp_l_path K) := by
  refine T.F_l_path.ok sc_l_path (fun vs H Q E h => ?_) (fun cdv A outer s H vs Q E hr h => ?_)
  · obtain ⟨t, n, m, rfl, _⟩ := h
    rfl
  · obtain ⟨t, n, m, rfl, pl, n1, m1, k⟩ := h
    refine ⟨_, (pss_cons (ps_set (i := 3) sc_l_path.nd rfl (.inl rfl) (pe_lst (pa_cons pe_int pa_nil)))
  (pss_cons (ps_for PassesOwn.never rfl (pi_range1 rfl T.n_range (pa_cons (pe_call (ok_l_draw T) (hr.mono (by decide)) rfl T.g_l_draw T.F_l_draw.kp T.b_l_draw .nil pass0 (pa_cons (pv 0) (pa_cons (pe_op op_add (pv 2) pe_int) pa_nil))) pa_nil)) (pg_name (i := 4) sc_l_path.nd rfl (.inl rfl))
  (pss_cons (ps_set (i := 5) sc_l_path.nd rfl (.inl rfl) (pe_call (ok_l_draw T) (hr.mono (by decide)) rfl T.g_l_draw T.F_l_draw.kp T.b_l_draw .nil pass0 (pa_cons (pv 0) (pa_cons (pe_op op_add (pv 1) pe_int) pa_nil))))
  (pss_one (ps_if (pt_cmpR op_ne (pv 5) (pe_ix (r := rIxL K) ix_list (pv 3) (pe_un un_neg pe_int) (fun _ _ => rfl)) (nomark _))
  (pss_one (ps_expr (pe_bm PySem.F.plainAttrs_list PySem.F.slot_list_append PySem.F.type_list_append mt_append (pv 3) (pa_cons (pv 5) pa_nil))))
  pss_nil))))
  (pss_one (ps_ret (pe_op op_cat (pv 3) (pe_op op_rep (pe_lst (pa_cons (pv 1) pa_nil)) (pe_callTy (T := "int") (r := _) Rd.c_int (by rfl) T.n_int (by decide +kernel) (pa_cons (pe_cmpR op_ne (pe_ix (r := rIxL K) ix_list (pv 3) (pe_un un_neg pe_int) (fun _ _ => rfl)) (pv 1) (nomark _)) pa_nil)))))))), ?_⟩
    walk_at "rd"
    refine ⟨Nat.le_of_ble_eq_true rfl, Rd.new fun f G nf gf s1 => ?_⟩
    have plG := pl.same s1
    have ap := (pl.new nf).same pl s1
    walk_at "rd"
    refine Rd.forS ?_
    walk_at "rd"
    refine drawP plG (by omega) (by omega) fun r H2 r0 r1 pl2 dr2 => ?_
    walk_at "rd"
    refine ⟨by omega, by omega, ?_⟩
    refine for_range (lo := 0) (n := r.toNat) (fun i σ H' => ∃ (P : List Nat) (l : Nat) (o4 o5 : Option V), σ = [some (.ref t), some (.int (n : Nat)), some (.int (m : Nat)), some (.ref f), o4, o5] ∧ H' f = some (.lst (natV P)) ∧ P.head? = some 0 ∧ P.getLast? = some l ∧ (∀ x ∈ P, x ≤ n) ∧ (∀ i x y, P[i]? = some x → P[i + 1]? = some y → x ≠ y) ∧ P.length ≤ i + 1 ∧ Pool H' t ∧ Dr t H H' ∧ Ap H' t f)
      ⟨[0], 0, _, _, rfl, dr2.but _ _ ap.1 gf, rfl, rfl, fun x m => by rw [List.mem_singleton.mp m]; exact Nat.zero_le _, fun i x y h1 h2 => by simp at h2, Nat.le_refl _, pl2, (Dr.of pl s1).trans dr2, dr2.ap _ _ gf ap⟩ ?_ ?_
    · rintro i _ H3 hi ⟨P, l, o4, o5, rfl, gP, hd, la, le, ne, Pl, pl3, dr3, ap3⟩
      walk_at "rd"
      refine drawP pl3 (by omega) (by omega) fun v H4 v0 v1 pl4 dr4 => ?_
      have gP4 := dr4.but _ _ ap3.1 gP
      have ap4 := dr4.ap _ _ gP ap3
      walk_at "rd"
      refine Rd.ixL (.of gP4) (nat_last la) ?_
      walk_at "rd"
      refine ite2 (fun q => ?_) (fun q => ?_)
      · walk_at "rd"
        exact ⟨P, l, _, _, rfl, gP4, hd, la, le, ne, by omega, pl4, dr3.trans dr4, ap4⟩
      · walk_at "rd"
        refine Rd.tyL (.of gP4) ?_
        walk_at "rd"
        refine Rd.app gP4 (by rw [natV_len, sizeLine_eq]; omega) fun H5 g5 off5 => ?_
        walk_at "rd"
        have ev : v = ((v.toNat : Nat) : Int) := by omega
        refine ⟨P ++ [v.toNat], v.toNat, _, _, rfl, ?_, ?_, ?_, fun x mx => ?_, ne_snoc ne la (by omega), by rw [List.length_append]; show _ + 1 ≤ _; omega, pl4.off ap4 off5, (dr3.trans dr4).off nf ap4 off5, Ap.off ap4 off5 ap4⟩
        · rw [natV_app, g5]
          show some (HO.lst (natV P ++ [V.int v])) = some (.lst (natV P ++ [V.int ((v.toNat : Nat) : Int)]))
          rw [← ev]
        · rw [List.head?_append, hd]
          rfl
        · rw [List.getLast?_append]
          rfl
        · rcases List.mem_append.mp mx with h | h
          · exact le x h
          · rw [List.mem_singleton.mp h]
            omega
    rintro _ H3 ⟨P, l, o4, o5, rfl, gP, hd, la, le, ne, Pl, pl3, dr3, ap3⟩
    walk_at "rd"
    refine ⟨Nat.le_of_ble_eq_true rfl, Rd.new fun q1 G1 nq1 gq1 s2 => ?_⟩
    walk_at "rd"
    refine Rd.ixL (.of (s2 _ _ gP)) (nat_last la) ?_
    walk_at "rd"
    have fin : ∀ (R : List Nat), (R = [] ∧ l = n ∨ R = [n] ∧ l ≠ n) → ∀ q2 G2, G1 q2 = none → Same G1 G2 → G2 q2 = some (.lst (natV R)) → rCat (.ref f) (.ref q2) G2 Q := fun R hR q2 G2 nq2 s3 gq2 => by
      have s23 := s2.trans s3
      have pl4 := pl3.same s23
      refine Rd.cat (s23 _ _ gP) gq2 (by rw [natV_len, natV_len, sizeLine_eq]; rcases hR with ⟨rfl, _⟩ | ⟨rfl, _⟩ <;> simp <;> omega) (Rd.new fun q3 G3 nq3 gq3 s4 => ?_)
      have dr4 := dr3.same pl3 (s23.trans s4)
      refine k q3 (P ++ R) G3 (pl4.same s4) dr4 ((dr3.same pl3 s23).free pl4 nq3) ((pl4.new nq3).same pl4 s4) (by rw [natV_app]; exact gq3) ?_ ?_
      · rcases hR with ⟨rfl, e⟩ | ⟨rfl, e⟩
        · rw [List.append_nil]
          exact ⟨hd, by rw [← e]; exact la, le, ne⟩
        · refine ⟨by rw [List.head?_append, hd]; rfl, by rw [List.getLast?_append]; rfl, fun x mx => ?_, ne_snoc ne la e⟩
          rcases List.mem_append.mp mx with h | h
          · exact le x h
          · rw [List.mem_singleton.mp h]
            exact Nat.le_refl _
      · rw [List.length_append]
        rcases hR with ⟨rfl, e⟩ | ⟨rfl, e⟩ <;> simp <;> omega
    refine Rd.intB ?_
    by_cases e : l = n
    · rw [show (!decide ((l : Int) = (n : Int))) = false by simp [e]]
      refine Rd.rep gq1 (by decide) (by decide) (Nat.zero_le _) (Rd.new fun q2 G2 nq2 gq2 s3 => ?_)
      exact fin [] (.inl ⟨rfl, e⟩) q2 G2 nq2 s3 gq2
    · rw [show (!decide ((l : Int) = (n : Int))) = true by simp; omega]
      refine Rd.rep gq1 (by decide) (by decide) (by rw [sizeLine_eq]; simp) (Rd.new fun q2 G2 nq2 gq2 s3 => ?_)
      exact fin [n] (.inr ⟨rfl, e⟩) q2 G2 nq2 s3 gq2

end
end W

namespace W
open PySem PySem.Spec PyProof.Rows L2
section
variable {P : Program} {w : World} {K : PySem.W.Frag} {mg : Str → Option Value} {base : Heap}
/-! ### rules along spots, their watches, books drawn -/
theorem nat_tail {P : List Nat} : cutV (natV P) (some (1 : Int)) none = natV P.tail := by
  have e : HT.sIx (natV P).length 0 (some (1 : Int)) = min 1 (natV P).length := HT.sIx_nat _ _ 1
  unfold cutV
  rw [e]
  show List.take ((natV P).length - min 1 (natV P).length) _ = _
  cases P with
  | nil => rfl
  | cons x P =>
    rw [List.take_of_length_le (by rw [List.length_drop]; omega), Nat.min_eq_left (by rw [natV_len]; simp)]
    rfl
theorem nat_at {P : List Nat} {i : Nat} {x : V} (h : (natV P)[i]? = some x) : ∃ a : Nat, P[i]? = some a ∧ x = .int (a : Int) := natV_get h
section
variable {K : PySem.W.Frag} {σ : L2.St} {H : Hp}
theorem zipL {ta : TA} {R : It → Hp → Prop} (h : ta σ H fun vs H1 => ∃ a b xs ys, vs = [.ref a, .ref b] ∧ SqL K H1 a xs ∧ SqL K H1 b ys ∧ R (Itz K a b) H1) : iZip K ta σ H R := h
theorem zipR {a b : Addr} {xs ys : List V} {P : Addr → Addr → Prop} (h1 : SqL K H a xs) (h2 : SqL K H b ys) (h : P a b) : ∃ a' b' xs ys, [V.ref a, V.ref b] = [.ref a', .ref b'] ∧ SqL K H a' xs ∧ SqL K H b' ys ∧ P a' b' := ⟨a, b, xs, ys, rfl, h1, h2, h⟩
end
def sp_l_rule (K : PySem.W.Frag) : Sp := fun vs H Q _ => ∃ (z : Str) (q : Addr) (P : List Nat), vs = [.str z, .ref q] ∧ H q = some (.lst (natV P)) ∧ P ≠ [] ∧ P.length ≤ 1000 ∧ z.length ≤ 1000 ∧ ∀ (p : Addr) H', StepsAt H' p (stepsOf z P) → Same H H' → H p = none → Q (.ref p) H'
theorem ok_l_rule (T : Txt K mg) : FnOk P w K mg base CX0 1 T.f_l_rule T.fd_l_rule ["_law_word_here", "_law_path_here"] (sp_l_rule K) := by
  refine T.F_l_rule.ok sc_l_rule (fun vs H Q E h => ?_) (fun cdv A outer s H vs Q E hr h => ?_)
  · obtain ⟨z, q, P, rfl, _⟩ := h
    rfl
  · obtain ⟨z, q, P, rfl, hq, n0, hl, zl0, k⟩ := h
    refine ⟨_, (pss_cons (ps_set (i := 2) sc_l_rule.nd rfl (.inl rfl) (pe_lst pa_nil))
  (pss_cons (ps_for PassesOwn.never rfl (pi_zip (by rfl) T.n_zip (pa_cons (pv 1) (pa_cons (pe_slice (r := rSlL K) sl_list (pv 1) (po_some pe_int) po_none) pa_nil))) (pg_tup rfl (pgs_cons (pg_name (i := 3) sc_l_rule.nd rfl (.inl rfl)) (pgs_cons (pg_name (i := 4) sc_l_rule.nd rfl (.inl rfl)) pgs_nil)))
  (pss_one (ps_if (pt_cmpR op_lt (pv 3) (pv 4) (nomark _))
  (pss_one (ps_expr (pe_bm PySem.F.plainAttrs_list PySem.F.slot_list_append PySem.F.type_list_append mt_append (pv 2) (pa_cons (pe_tup (pa_cons pe_str (pa_cons (pe_slice sl_str (pv 0) (po_some (pv 3)) (po_some (pv 4))) pa_nil))) pa_nil))))
  (pss_one (ps_expr (pe_bm PySem.F.plainAttrs_list PySem.F.slot_list_append PySem.F.type_list_append mt_append (pv 2) (pa_cons (pe_tup (pa_cons pe_str (pa_cons (pe_slice sl_str (pv 0) (po_some (pv 4)) (po_some (pv 3))) pa_nil))) pa_nil)))))))
  (pss_one (ps_ret (pe_callTy (T := "tuple") (r := Rd.nTupOf K) Rd.c_tupOf (by rfl) T.n_tuple (by decide +kernel) (pa_cons (pv 2) pa_nil)))))), ?_⟩
    have zl : z.length ≤ sizeLine := by rw [sizeLine_eq]; omega
    walk_at "rd"
    refine ⟨Nat.zero_le _, Rd.new fun l G nl gl sG => ?_⟩
    walk_at "rd"
    refine Rd.forS ?_
    refine zipL ?_
    walk_at "rd"
    refine Rd.slL (.of (sG _ _ hq)) (Rd.new fun q2 G2 nq2 gq2 s2 => ?_)
    rw [nat_tail] at gq2
    walk_at "rd"
    refine zipR (.of (s2 _ _ (sG _ _ hq))) (.of gq2) ?_
    have hml : min (natV P).length (natV P.tail).length = P.length - 1 := by rw [natV_len, natV_len, List.length_tail]; omega
    have lq : l ≠ q2 := ne_of_none gl nq2
    refine for_it (walk_zip hml.symm) (fun i σ H' => ∃ (o3 o4 : Option V) (rs : List Addr), σ = [some (.str z), some (.ref q), some (.ref l), o3, o4] ∧ Same H H' ∧ H' q2 = some (.lst (natV P.tail)) ∧ H' l = some (.lst (rs.map V.ref)) ∧ rs.length = i ∧ ∀ (k : Nat) (r : Addr) (s : Str × Str), k < i → rs[k]? = some r → (stepsOf z P)[k]? = some s → H' r = some (.tup [.str s.1, .str s.2]))
      ⟨_, _, [], rfl, sG.trans s2, gq2, s2 _ _ gl, rfl, fun k r s h => by omega⟩ (fun i σ H' _ ⟨_, _, _, _, s, h2, _⟩ => ⟨.of (s _ _ hq), .of h2⟩) ?_ ?_
    · rintro i x _ H1 _ hi ⟨o3, o4, rs, rfl, s1, g2, gl1, ln, hr⟩ ⟨T', x', y', rfl, hT, rfl, hx, hy⟩
      obtain ⟨a, ha, rfl⟩ := nat_at hx
      obtain ⟨b, hb, rfl⟩ := nat_at hy
      have sT := Rd.same_upd (o := .tup [.int (a : Int), .int (b : Int)]) hT
      have gT : upd H1 T' (.tup [.int (a : Int), .int (b : Int)]) T' = some (.tup [.int (a : Int), .int (b : Int)]) := upd_same
      generalize upd H1 T' (.tup [.int (a : Int), .int (b : Int)]) = H2 at sT gT
      refine Rd.tupT (.of gT) rfl ?_
      have hs := stepsOf_get (z := z) ha hb
      have rsl : rs.length < 1000 := by omega
      have fin : ∀ (w : Str) (y : Str), stepOf z a b = (w, y) → ∀ (e : Addr) (G3 G4 : Hp), H2 e = none → G3 e = some (.tup [.str w, .str y]) → Same H2 G3 → G4 l = some (.lst (rs.map V.ref ++ [.ref e])) → (∀ c, c ≠ l → G4 c = G3 c) →
          ∃ (o3 o4 : Option V) (rs' : List Addr), [some (V.str z), some (V.ref q), some (V.ref l), some (V.int (a : Int)), some (V.int (b : Int))] = [some (.str z), some (.ref q), some (.ref l), o3, o4] ∧ Same H G4 ∧ G4 q2 = some (.lst (natV P.tail)) ∧ G4 l = some (.lst (rs'.map V.ref)) ∧ rs'.length = i + 1 ∧ ∀ (k : Nat) (r : Addr) (s : Str × Str), k < i + 1 → rs'[k]? = some r → (stepsOf z P)[k]? = some s → G4 r = some (.tup [.str s.1, .str s.2]) := by
        intro w y ew e G3 G4 ne ge s3 g4 off4
        have gl2 := s3 _ _ (sT _ _ gl1)
        refine ⟨_, _, rs ++ [e], rfl, ?_, ?_, by rw [List.map_append]; exact g4, by rw [List.length_append, ln]; rfl, ?_⟩
        · exact Rd.same_off ((s1.trans sT).trans s3) nl off4
        · rw [off4 q2 lq.symm]
          exact s3 _ _ (sT _ _ g2)
        · intro k r s hk hr' hs'
          rcases Nat.lt_succ_iff_lt_or_eq.mp hk with h | h
          · rw [List.getElem?_append_left (by omega)] at hr'
            have := s3 _ _ (sT _ _ (hr k r s h hr' hs'))
            rw [off4 r (ne_of this gl2 (fun e => nomatch e))]
            exact this
          · subst h
            rw [List.getElem?_append_right (by omega), ln, Nat.sub_self] at hr'
            have : e = r := by simpa using hr'
            subst this
            rw [hs, ew] at hs'
            cases hs'
            rw [off4 e (ne_of ge gl2 (fun e => nomatch e))]
            exact ge
      walk_at "go"
      refine ite2 (fun c => ?_) (fun c => ?_)
      · have ew : stepOf z a b = (("on" : Str), cutS z (some (a : Int)) (some (b : Int))) := if_pos (by omega)
        walk_at "go"
        refine ⟨Nat.le_of_ble_eq_true rfl, Rd.new fun e G3 ne ge s3 => ?_⟩
        walk_at "go"
        refine Rd.app (s3 _ _ (sT _ _ gl1)) (by rw [List.length_map, sizeLine_eq]; omega) fun G4 g4 off4 => ?_
        walk_at "go"
        exact fin _ _ ew e G3 G4 ne ge s3 g4 off4
      · have ew : stepOf z a b = (("back" : Str), cutS z (some (b : Int)) (some (a : Int))) := if_neg (by omega)
        walk_at "go"
        refine ⟨Nat.le_of_ble_eq_true rfl, Rd.new fun e G3 ne ge s3 => ?_⟩
        walk_at "go"
        refine Rd.app (s3 _ _ (sT _ _ gl1)) (by rw [List.length_map, sizeLine_eq]; omega) fun G4 g4 off4 => ?_
        walk_at "go"
        exact fin _ _ ew e G3 G4 ne ge s3 g4 off4
    · rintro _ H1 ⟨o3, o4, rs, rfl, s1, g2, gl1, ln, hr⟩
      walk_at "go"
      refine Rd.tupOf (.of gl1) (Rd.new fun p G np gp s2 => ?_)
      refine k p G ⟨rs, gp, by rw [ln, stepsOf_len], fun i r s e1 e2 => s2 _ _ (hr i r s ?_ e1 e2)⟩ (s1.trans s2) (s1.free np)
      have := (List.getElem?_eq_some_iff.mp e1).1
      omega
theorem paired_len {α β : Type} {R : α → β → Prop} {xs : List α} {ys : List β} (h : Paired R xs ys) : xs.length = ys.length := by
  induction h with
  | nil => rfl
  | cons _ _ ih => rw [List.length_cons, List.length_cons, ih]
/-- the watches of rules: each once -/
def sp_l_watches (K : PySem.W.Frag) : Sp := fun vs H Q _ => ∃ (a : Addr) (qs : List Addr) (sss : List (List (Str × Str))), vs = [.ref a] ∧ H a = some (.lst (qs.map V.ref)) ∧ Paired (fun q ss => StepsAt H q ss) qs sss ∧ qs.length ≤ 100 ∧ (∀ ss ∈ sss, ss.length ≤ 1000) ∧ (∀ ss ∈ sss, ∀ s ∈ ss, s.2.length ≤ 1000) ∧
  ∀ (l : Addr) (ws : List Str) H', Same H H' → H l = none → H' l = some (.lst (ws.map V.str)) → ws.Nodup → (∀ w, w ∈ ws ↔ ∃ ss ∈ sss, ∃ s ∈ ss, s.2 = w) → Q (.ref l) H'
theorem flat_len {α : Type} {m : Nat} : ∀ {sss : List (List α)}, (∀ ss ∈ sss, ss.length ≤ m) → sss.flatten.length ≤ sss.length * m
  | [], _ => by simp
  | ss :: sss, h => by
    have := flat_len fun x mx => h x (List.mem_cons_of_mem _ mx)
    have := h ss (List.mem_cons_self ..)
    rw [List.flatten_cons, List.length_append, List.length_cons, Nat.succ_mul]
    omega
theorem ok_l_watches (T : Txt K mg) : FnOk P w K mg base CX0 1 T.f_l_watches T.fd_l_watches ["_law_all_steps"] (sp_l_watches K) := by
  refine T.F_l_watches.ok sc_l_watches (fun vs H Q E h => ?_) (fun cdv A outer s H vs Q E hr h => ?_)
  · obtain ⟨a, qs, sss, rfl, _⟩ := h
    rfl
  · obtain ⟨a, qs, sss, rfl, ha, hp, ql, sl, wl, k⟩ := h
    refine ⟨_, (pss_cons (ps_set (i := 1) sc_l_watches.nd rfl (.inl rfl) (pe_lst pa_nil))
  (pss_cons (ps_for PassesOwn.never rfl (pi_list (pv 0)) (pg_name (i := 2) sc_l_watches.nd rfl (.inl rfl))
  (pss_one (ps_for PassesOwn.never rfl (pi_tup (pv 2)) (pg_tup rfl (pgs_cons (pg_name (i := 3) sc_l_watches.nd rfl (.inl rfl)) (pgs_cons (pg_name (i := 4) sc_l_watches.nd rfl (.inl rfl)) pgs_nil)))
  (pss_one (ps_if (pt_cmpR (r := rIn K true) op_notIn_seq (pv 4) (pv 1) (by rfl))
  (pss_one (ps_expr (pe_bm PySem.F.plainAttrs_list PySem.F.slot_list_append PySem.F.type_list_append mt_append (pv 1) (pa_cons (pv 4) pa_nil))))
  pss_nil)))))
  (pss_one (ps_ret (pv 1))))), ?_⟩
    have len : qs.length = sss.length := paired_len hp
    have fl := flat_len sl
    have total : sss.flatten.length ≤ 100000 := Nat.le_trans fl (by omega)
    walk_at "rd"
    refine ⟨Nat.zero_le _, Rd.new fun f G nf gf s1 => ?_⟩
    walk_at "rd"
    refine Rd.forS ?_
    walk_at "rd"
    refine ⟨⟨_, .of (s1 _ _ ha)⟩, for_list (K := K) (a := a) (xs := qs.map V.ref) (fun i σ H' => ∃ (ws : List Str) (o2 o3 o4 : Option V), σ = [some (.ref a), some (.ref f), o2, o3, o4] ∧ Same H H' ∧ H' f = some (.lst (ws.map V.str)) ∧ ws.Nodup ∧ (∀ w, w ∈ ws ↔ ∃ ss ∈ sss.take i, ∃ s ∈ ss, s.2 = w))
      ⟨[], _, _, _, rfl, s1, gf, .nil, fun w => ⟨fun m => (nomatch m), fun ⟨_, m, _⟩ => (nomatch m)⟩⟩ (fun i σ H' _ ⟨_, _, _, _, _, s, _⟩ => .of (s _ _ ha)) ?_ ?_⟩
    · rintro i x _ H1 hx ⟨ws, o2, o3, o4, rfl, s1, gf, nd, mem⟩
      obtain ⟨q, hq, rfl⟩ := Rd.map_refG hx
      obtain ⟨ss, hss, hSt⟩ := paired_at hp hq
      have SA := hSt.same s1
      obtain ⟨rs, h1, h2, h3⟩ := SA
      have ssm := List.mem_of_getElem? hss
      have ssl := sl ss ssm
      walk_at "rd"
      refine Rd.forS ?_
      walk_at "rd"
      refine ⟨⟨_, .of h1⟩, for_tup (K := K) (a := q) (xs := rs.map V.ref) (fun j σ H' => ∃ (us : List Str) (o3 o4 : Option V), σ = [some (.ref a), some (.ref f), some (.ref q), o3, o4] ∧ Same H H' ∧ (∀ b xs, H1 b = some (.tup xs) → H' b = some (.tup xs)) ∧ H' f = some (.lst (us.map V.str)) ∧ us.Nodup ∧ (∀ w, w ∈ us ↔ w ∈ ws ∨ ∃ s ∈ ss.take j, s.2 = w))
        ⟨ws, _, _, rfl, s1, fun _ _ e => e, gf, nd, fun w => ⟨.inl, fun h => h.elim id fun ⟨_, m, _⟩ => (nomatch m)⟩⟩ (fun i σ H' _ ⟨_, _, _, _, _, t, _⟩ => .of (t _ _ h1)) ?_ ?_⟩
      · rintro j y _ H2 hy ⟨us, o3, o4, rfl, s2, kp, gu, nd2, mem2⟩
        obtain ⟨r, hr, rfl⟩ := Rd.map_refG hy
        have jl : j < ss.length := by rw [← h2]; exact (List.getElem?_eq_some_iff.mp hr).1
        obtain ⟨s, hs⟩ : ∃ s, ss[j]? = some s := ⟨_, List.getElem?_eq_getElem jl⟩
        have gr := kp _ _ (h3 j r s hr hs)
        refine Rd.tupT (.of gr) rfl ?_
        walk_at "rd"
        refine Rd.inStrsN (.inl (.of gu)) ?_
        have few : us.length ≤ 100000 := by
          refine Nat.le_trans (List.Nodup.length_le_of_subset nd2 (l₂ := sss.flatten.map (·.2)) fun w mw => ?_) (by rw [List.length_map]; exact total)
          rcases (mem2 w).mp mw with m | ⟨s', ms', e⟩
          · obtain ⟨ss', mss, s', ms', e⟩ := (mem w).mp m
            exact List.mem_map.mpr ⟨s', List.mem_flatten.mpr ⟨ss', List.mem_of_mem_take mss, ms'⟩, e⟩
          · exact List.mem_map.mpr ⟨s', List.mem_flatten.mpr ⟨ss, ssm, List.mem_of_mem_take ms'⟩, e⟩
        by_cases c : s.2 ∈ us
        · rw [decide_eq_true c]
          walk_at "rd"
          refine ⟨us, _, _, rfl, s2, kp, gu, nd2, fun w => ?_⟩
          rw [mem2, Rd.take_snoc hs]
          constructor
          · rintro (h | ⟨s', ms', e⟩)
            · exact .inl h
            · exact .inr ⟨s', List.mem_append_left _ ms', e⟩
          · rintro (h | ⟨s', ms', e⟩)
            · exact .inl h
            · rcases List.mem_append.mp ms' with m | m
              · exact .inr ⟨s', m, e⟩
              · rw [List.mem_singleton.mp m] at e
                exact (mem2 w).mp (e ▸ c)
        · rw [decide_eq_false c]
          walk_at "rd"
          refine Rd.tyL (.of gu) ?_
          walk_at "rd"
          refine Rd.app gu (by rw [List.length_map, sizeLine_eq]; omega) fun H3 g3 off3 => ?_
          walk_at "rd"
          refine ⟨us ++ [s.2], _, _, rfl, Rd.same_off s2 nf off3, fun b xs e => ?_, by rw [List.map_append]; exact g3, snoc_nodup nd2 c, fun w => ?_⟩
          · rw [off3 b (ne_of (kp _ _ e) gu (fun e => nomatch e))]
            exact kp _ _ e
          · rw [List.mem_append, mem2, Rd.take_snoc hs]
            constructor
            · rintro ((h | ⟨s', ms', e⟩) | h)
              · exact .inl h
              · exact .inr ⟨s', List.mem_append_left _ ms', e⟩
              · exact .inr ⟨s, List.mem_append_right _ (List.mem_singleton.mpr rfl), (List.mem_singleton.mp h).symm⟩
            · rintro (h | ⟨s', ms', e⟩)
              · exact .inl (.inl h)
              · rcases List.mem_append.mp ms' with m | m
                · exact .inl (.inr ⟨s', m, e⟩)
                · rw [List.mem_singleton.mp m] at e
                  exact .inr (List.mem_singleton.mpr e.symm)
      · rintro _ H2 ⟨us, o3, o4, rfl, s2, kp, gu, nd2, mem2⟩
        rw [List.length_map, h2, List.take_length] at mem2
        walk_at "rd"
        refine ⟨us, _, _, _, rfl, s2, gu, nd2, fun w => ?_⟩
        rw [mem2, mem, Rd.take_snoc hss]
        constructor
        · rintro (⟨ss', m, e⟩ | ⟨s', ms', e⟩)
          · exact ⟨ss', List.mem_append_left _ m, e⟩
          · exact ⟨ss, List.mem_append_right _ (List.mem_singleton.mpr rfl), s', ms', e⟩
        · rintro ⟨ss', m, e⟩
          rcases List.mem_append.mp m with m | m
          · exact .inl ⟨ss', m, e⟩
          · rw [List.mem_singleton.mp m] at e
            exact .inr e
    · rintro _ H1 ⟨ws, o2, o3, o4, rfl, s1, gf, nd, mem⟩
      rw [List.length_map, len, List.take_length] at mem
      walk_at "rd"
      exact k f ws H1 s1 nf gf nd mem

end
end W

namespace W
open PySem PySem.Spec PyProof.Rows L2
section
variable {P : Program} {w : World} {K : PySem.W.Frag} {mg : Str → Option Value} {base : Heap}
/-! ### spots reached, books drawn -/
theorem occ_cut {W z : Str} {s : Nat} (w1 : 1 ≤ W.length) : cutS z (some (s : Int)) (some ((s : Int) + (W.length : Int))) = W ↔ Mw.Occ W z s := by
  constructor
  · intro e
    refine ⟨?_, e⟩
    have l := congrArg Str.length e
    have : (cutS z (some (s : Int)) (some ((s : Int) + (W.length : Int)))).length ≤ z.length - s := by
      show (((z.cps.toList.drop (HT.sIx z.length 0 (some (s : Int)))).take _).toArray).size ≤ _
      rw [List.size_toArray, List.length_take, List.length_drop, Array.length_toList, HT.sIx_nat]
      unfold Str.length
      omega
    omega
  · exact fun o => o.2
/-- the spots reached so far, while the watches are gone through at one of them -/
structure Rc (H H' : Hp) (r : Addr) (ws : List Str) (z : Str) (gs gs' : List Nat) : Prop where
  s : Same H H'
  g : H' r = some (.lst (natV gs'))
  nd : gs'.Nodup
  ex : ∃ ex, gs' = gs ++ ex
  ok : ∀ x ∈ gs', x ≤ z.length ∧ Mw.Star (Mw.Adj ws z) 0 x
theorem Rc.len {H H' : Hp} {r : Addr} {ws : List Str} {z : Str} {gs gs' : List Nat} (R : Rc H H' r ws z gs gs') : gs'.length ≤ z.length + 1 := by
  refine Nat.le_trans (List.Nodup.length_le_of_subset R.nd (l₂ := List.range (z.length + 1)) fun x hx => ?_) (by rw [List.length_range]; exact Nat.le_refl _)
  rw [List.mem_range]
  have := (R.ok x hx).1
  omega
theorem Rc.add {H H1 H2 : Hp} {r : Addr} {ws : List Str} {z : Str} {gs gs' : List Nat} (R : Rc H H1 r ws z gs gs') (nr : H r = none) {v : Nat} (g2 : H2 r = some (.lst (natV gs' ++ [.int (v : Int)]))) (off : ∀ b, b ≠ r → H2 b = H1 b) (no : v ∉ gs') (vl : v ≤ z.length) (st : Mw.Star (Mw.Adj ws z) 0 v) : Rc H H2 r ws z gs (gs' ++ [v]) := by
  obtain ⟨ex, e⟩ := R.ex
  refine ⟨Rd.same_off R.s nr off, by rw [g2, natV_app]; rfl, snoc_nodup R.nd no, ⟨ex ++ [v], by rw [e, List.append_assoc]⟩, fun x hx => ?_⟩
  rcases List.mem_append.mp hx with q | q
  · exact R.ok x q
  · rw [List.mem_singleton.mp q]
    exact ⟨vl, st⟩
def sp_l_reach (K : PySem.W.Frag) : Sp := fun vs H Q _ => ∃ (a : Addr) (ws : List Str) (z : Str), vs = [.ref a, .str z] ∧ SqL K H a (ws.map V.str) ∧ (∀ W ∈ ws, 1 ≤ W.length ∧ W.length ≤ 1000) ∧ z.length ≤ 1000 ∧ ∀ (r : Addr) (gs : List Nat) H', Same H H' → H r = none → H' r = some (.lst (natV gs)) → gs.Nodup → (∀ x, x ∈ gs ↔ Mw.Star (Mw.Adj ws z) 0 x) → Q (.ref r) H'
theorem ok_l_reach (T : Txt K mg) : FnOk P w K mg base CX0 1 T.f_l_reach T.fd_l_reach ["_law_watches_here", "_law_word_here"] (sp_l_reach K) := by
  refine T.F_l_reach.ok sc_l_reach (fun vs H Q E h => ?_) (fun cdv A outer s H vs Q E hr h => ?_)
  · obtain ⟨a, ws, z, rfl, _⟩ := h
    rfl
  · obtain ⟨a, ws, z, rfl, hS, hw, zl, k⟩ := h
    refine ⟨_, (pss_cons (ps_set (i := 2) sc_l_reach.nd rfl (.inl rfl) (pe_lst (pa_cons pe_int pa_nil)))
  (pss_cons (ps_for PassesOwn.never rfl (pi_range1 rfl T.n_range (pa_cons (pe_op op_add (pe_callB (id := "len") (r := _) Rd.c_lenS (by rfl) T.n_len (by decide +kernel) (pa_cons (pv 1) pa_nil)) pe_int) pa_nil)) (pg_name (i := 3) sc_l_reach.nd rfl (.inl rfl))
  (pss_one (ps_if (pt_cmpR op_lt (pv 3) (pe_callB (id := "len") (r := Rd.nLen K) Rd.c_len (by rfl) T.n_len (by decide +kernel) (pa_cons (pv 2) pa_nil)) (nomark _))
  (pss_cons (ps_set (i := 4) sc_l_reach.nd rfl (.inl rfl) (pe_ix (r := rIxL K) ix_list (pv 2) (pv 3) (fun _ _ => rfl)))
  (pss_one (ps_for PassesOwn.never rfl (pi_list (pv 0)) (pg_name (i := 5) sc_l_reach.nd rfl (.inl rfl))
  (pss_cons (ps_set (i := 6) sc_l_reach.nd rfl (.inl rfl) (pe_callB (id := "len") (r := _) Rd.c_lenS (by rfl) T.n_len (by decide +kernel) (pa_cons (pv 5) pa_nil)))
  (C8.pss_cut (ps_if (PW.pt (pw_and (pt_cmpR op_eq (pe_slice sl_str (pv 1) (po_some (pv 4)) (po_some (pe_op op_add (pv 4) (pv 6)))) (pv 5) (nomark _)) (pw_and1 (pt_cmpR (r := rIn K true) op_notIn_seq (pe_op op_add (pv 4) (pv 6)) (pv 2) (by rfl)))))
  (pss_one (ps_expr (pe_bm PySem.F.plainAttrs_list PySem.F.slot_list_append PySem.F.type_list_append mt_append (pv 2) (pa_cons (pe_op op_add (pv 4) (pv 6)) pa_nil))))
  pss_nil)
  (pss_one (ps_if (PW.pt (pw_and (pt_cmpR op_ge (pv 4) (pv 6) (nomark _)) (pw_and (pt_cmpR op_eq (pe_slice sl_str (pv 1) (po_some (pe_op op_sub (pv 4) (pv 6))) (po_some (pv 4))) (pv 5) (nomark _)) (pw_and1 (pt_cmpR (r := rIn K true) op_notIn_seq (pe_op op_sub (pv 4) (pv 6)) (pv 2) (by rfl))))))
  (pss_one (ps_expr (pe_bm PySem.F.plainAttrs_list PySem.F.slot_list_append PySem.F.type_list_append mt_append (pv 2) (pa_cons (pe_op op_sub (pv 4) (pv 6)) pa_nil))))
  pss_nil)))))))
  pss_nil)))
  (pss_one (ps_ret (pv 2))))), ?_⟩
    have zs : z.length ≤ sizeLine := by rw [sizeLine_eq]; omega
    walk_at "rd"
    refine ⟨Nat.le_of_ble_eq_true rfl, Rd.new fun r G1 nr gr s1 => ?_⟩
    walk_at "rd"
    refine Rd.forS ?_
    walk_at "rd"
    refine Rd.lenStr zs ?_
    walk_at "rd"
    refine ⟨by omega, by omega, ?_⟩
    refine for_range (lo := 0) (n := ((z.length : Int) + 1).toNat) (fun i σ H' => ∃ (gs : List Nat) (o3 o4 o5 o6 : Option V), σ = [some (.ref a), some (.str z), some (.ref r), o3, o4, o5, o6] ∧ Rc H H' r ws z gs gs ∧ 0 ∈ gs ∧
        ∀ (j u v : Nat), j < i → gs[j]? = some u → Mw.Adj ws z u v → v ∈ gs)
      ⟨[0], _, _, _, _, rfl, ⟨s1, gr, by simp, ⟨[], rfl⟩, fun x hx => by rw [List.mem_singleton.mp hx]; exact ⟨Nat.zero_le _, .refl⟩⟩, by simp, fun j u v h => absurd h (Nat.not_lt_zero j)⟩ ?_ ?_
    · rintro i _ H1 hi ⟨gs, o3, o4, o5, o6, rfl, R0, h0, cl⟩
      have gl := R0.len
      walk_at "rd"
      rw [Int.zero_add]
      refine Rd.len (.inl (.of R0.g)) ?_
      rw [natV_len]
      walk_at "rd"
      refine ite2 (fun c => ?_) (fun c => ?_)
      · have il : i < gs.length := by omega
        obtain ⟨u, eu⟩ : ∃ u, gs[i]? = some u := ⟨_, List.getElem?_eq_getElem il⟩
        have hu := R0.ok u (List.mem_of_getElem? eu)
        walk_at "rd"
        refine Rd.ixL (v := .int (u : Nat)) (.of R0.g) (Rd.atI_of (by omega) (by rw [Int.toNat_natCast]; unfold natV; rw [List.map_map, List.getElem?_map, eu]; rfl)) ?_
        walk_at "rd"
        refine Rd.forS ?_
        walk_at "rd"
        refine ⟨⟨_, R0.s.seq hS⟩, for_list (K := K) (a := a) (xs := ws.map V.str) (fun t σ H' => ∃ (gs' : List Nat) (o5 o6 : Option V), σ = [some (.ref a), some (.str z), some (.ref r), some (.int (i : Nat)), some (.int (u : Nat)), o5, o6] ∧ Rc H H' r ws z gs gs' ∧ ∀ w ∈ ws.take t, ∀ v, Mw.Edge w z u v → v ∈ gs')
          ⟨gs, _, _, rfl, R0, fun w h => by simp at h⟩ (fun t σ H' _ ⟨_, _, _, _, R, _⟩ => R.s.seq hS) ?_ ?_⟩
        · rintro t x _ H2 hx ⟨gs1, o5, o6, rfl, R1, ed1⟩
          obtain ⟨w, hwt, rfl⟩ := Rd.map_strG hx
          have hwm := List.mem_of_getElem? hwt
          obtain ⟨w1, w12⟩ := hw w hwm
          have wl : w.length ≤ sizeLine := by rw [sizeLine_eq]; omega
          have gl1 := R1.len
          walk_at "rd"
          refine Rd.lenStr wl ?_
          walk_at "rd"
          refine Rd.cut (fun σ H' => ∃ (gs' : List Nat), σ = [some (.ref a), some (.str z), some (.ref r), some (.int (i : Nat)), some (.int (u : Nat)), some (.str w), some (.int (w.length : Nat))] ∧ Rc H H' r ws z gs gs' ∧ (∀ w ∈ ws.take t, ∀ v, Mw.Edge w z u v → v ∈ gs') ∧ (Mw.Occ w z u → u + w.length ∈ gs')) ?_ ?_
          · walk_at "rd"
            refine Rd.slS zs ?_
            walk_at "rd"
            refine ite2 (fun q => ?_) (fun q => ?_)
            · have oc := (occ_cut w1).mp q
              have ad : Mw.Adj ws z u (u + w.length) := ⟨w, hwm, .inl ⟨oc, rfl⟩⟩
              have e : ((u : Int) + (w.length : Int)) = ((u + w.length : Nat) : Int) := by omega
              walk_at "rd"
              rw [e]
              refine Rd.inIntsN (.inl (.of R1.g)) ?_
              by_cases m : u + w.length ∈ gs1
              · rw [decide_eq_true (mem_nat.mpr m)]
                walk_at "rd"
                exact ⟨gs1, rfl, R1, ed1, fun _ => m⟩
              · rw [decide_eq_false (fun q => m (mem_nat.mp q))]
                walk_at "rd"
                refine Rd.tyL (.of R1.g) ?_
                walk_at "rd"
                rw [e]
                refine Rd.app R1.g (by rw [natV_len, sizeLine_eq]; omega) fun H3 g3 off3 => ?_
                walk_at "rd"
                exact ⟨gs1 ++ [u + w.length], rfl, R1.add nr g3 off3 m (by have := oc.1; omega) (.step hu.2 ad), fun w' m' v h => List.mem_append_left _ (ed1 w' m' v h), fun _ => List.mem_append_right _ (List.mem_singleton.mpr rfl)⟩
            · walk_at "rd"
              exact ⟨gs1, rfl, R1, ed1, fun o => absurd ((occ_cut w1).mpr o) q⟩
          rintro _ H3 ⟨gs2, rfl, R2, ed2, on2⟩
          have gl2 := R2.len
          have fin : ∀ (gs3 : List Nat), (∀ v, v ∈ gs2 → v ∈ gs3) → (w.length ≤ u → Mw.Occ w z (u - w.length) → u - w.length ∈ gs3) → ∀ w' ∈ ws.take (t + 1), ∀ v, Mw.Edge w' z u v → v ∈ gs3 := fun gs3 sub bk w' mw v ev => by
            rw [Rd.take_snoc hwt] at mw
            rcases List.mem_append.mp mw with m | m
            · exact sub v (ed2 w' m v ev)
            · rw [List.mem_singleton.mp m] at ev
              rcases ev with ⟨o, e⟩ | ⟨o, e⟩
              · rw [e]
                exact sub _ (on2 o)
              · have e' : u - w.length = v := by omega
                rw [← e']
                exact bk (by omega) (by rw [e']; exact o)
          walk_at "rd"
          refine ite2 (fun c1 => ?_) (fun c1 => ?_)
          · have e : ((u : Int) - (w.length : Int)) = ((u - w.length : Nat) : Int) := by omega
            walk_at "rd"
            refine Rd.slS zs ?_
            walk_at "rd"
            have ec : cutS z (some ((u : Int) - (w.length : Int))) (some (u : Int)) = w ↔ Mw.Occ w z (u - w.length) := by
              rw [← occ_cut w1, e, show ((u - w.length : Nat) : Int) + (w.length : Int) = (u : Int) by omega]
            refine ite2 (fun q => ?_) (fun q => ?_)
            · have oc := ec.mp q
              have ad : Mw.Adj ws z u (u - w.length) := ⟨w, hwm, .inr ⟨oc, by omega⟩⟩
              walk_at "rd"
              rw [e]
              refine Rd.inIntsN (.inl (.of R2.g)) ?_
              by_cases m : u - w.length ∈ gs2
              · rw [decide_eq_true (mem_nat.mpr m)]
                walk_at "rd"
                exact ⟨gs2, _, _, rfl, R2, fin gs2 (fun _ h => h) fun _ _ => m⟩
              · rw [decide_eq_false (fun q => m (mem_nat.mp q))]
                walk_at "rd"
                refine Rd.tyL (.of R2.g) ?_
                walk_at "rd"
                rw [e]
                refine Rd.app R2.g (by rw [natV_len, sizeLine_eq]; omega) fun H4 g4 off4 => ?_
                walk_at "rd"
                exact ⟨gs2 ++ [u - w.length], _, _, rfl, R2.add nr g4 off4 m (by omega) (.step hu.2 ad), fin _ (fun v h => List.mem_append_left _ h) fun _ _ => List.mem_append_right _ (List.mem_singleton.mpr rfl)⟩
            · walk_at "rd"
              exact ⟨gs2, _, _, rfl, R2, fin gs2 (fun _ h => h) fun _ o => absurd (ec.mpr o) q⟩
          · walk_at "rd"
            exact ⟨gs2, _, _, rfl, R2, fin gs2 (fun _ h => h) fun h _ => absurd h (by omega)⟩
        · rintro _ H2 ⟨gs1, o5, o6, rfl, R1, ed1⟩
          rw [List.length_map, List.take_length] at ed1
          walk_at "rd"
          obtain ⟨ex, eg⟩ := R1.ex
          refine ⟨gs1, _, _, _, _, rfl, ⟨R1.s, R1.g, R1.nd, ⟨[], (List.append_nil _).symm⟩, R1.ok⟩, by rw [eg]; exact List.mem_append_left _ h0, fun j u' v hj e av => ?_⟩
          have jl : j < gs.length := by omega
          rw [eg, List.getElem?_append_left jl] at e
          rcases Nat.lt_succ_iff_lt_or_eq.mp hj with q | q
          · rw [eg]
            exact List.mem_append_left _ (cl j u' v q e av)
          · subst q
            rw [eu] at e
            cases e
            obtain ⟨w, wm, ed⟩ := av
            exact ed1 w wm v ed
      · walk_at "rd"
        exact ⟨gs, _, _, _, _, rfl, R0, h0, fun j u v hj e av => cl j u v (by have := (List.getElem?_eq_some_iff.mp e).1; omega) e av⟩
    rintro _ H1 ⟨gs, o3, o4, o5, o6, rfl, R0, h0, cl⟩
    have gl := R0.len
    walk_at "rd"
    refine k r gs H1 R0.s nr R0.g R0.nd fun x => ⟨fun h => (R0.ok x h).2, fun st => ?_⟩
    induction st with
    | refl => exact h0
    | step _ av ih =>
      obtain ⟨j, hj, e⟩ := List.getElem_of_mem ih
      exact cl j _ _ (by omega) (by rw [List.getElem?_eq_getElem hj, e]) av
/-! a word and its watches -/
def sp_l_book_word (K : PySem.W.Frag) : Sp := fun vs H Q _ => ∃ (t : Addr) (L : Str) (most : Int), vs = [.ref t, .int most, .str L] ∧ Pool H t ∧ Lt.Let L ∧ 1 ≤ L.length ∧ L.length ≤ 1000 ∧ 1 ≤ most ∧ most ≤ 12 ∧
  ∀ (p l : Addr) (z : Str) (ws : List Str) H', Pool H' t → Dr t H H' → p ≠ t → l ≠ t → H' p = some (.lst [.str z, .ref l]) → H' l = some (.lst (ws.map V.str)) → Lt.Wd most z → Sub z L → ws.Nodup → ws.length ≤ 9 → (∀ y ∈ ws, Lt.Wd 12 y ∧ Sub y L) → Q (.ref p) H'
theorem step_piece {z : Str} {n : Nat} (zl : z.length = n) : ∀ {P : List Nat}, (∀ x ∈ P, x ≤ n) → (∀ i x y, P[i]? = some x → P[i + 1]? = some y → x ≠ y) → ∀ s ∈ stepsOf z P, ∃ i j : Nat, i < j ∧ j ≤ n ∧ s.2 = cutS z (some (i : Int)) (some (j : Int))
  | [], _, _, s, m => by cases m
  | [_], _, _, s, m => by cases m
  | i :: j :: P, le, ne, s, m => by
    have hi := le i (List.mem_cons_self ..)
    have hj := le j (List.mem_cons_of_mem _ (List.mem_cons_self ..))
    have nij := ne 0 i j rfl rfl
    rcases List.mem_cons.mp m with rfl | m
    · unfold stepOf
      by_cases c : i < j
      · rw [if_pos c]
        exact ⟨i, j, c, hj, rfl⟩
      · rw [if_neg c]
        exact ⟨j, i, by omega, hi, rfl⟩
    · exact step_piece zl (P := j :: P) (fun x mx => le x (List.mem_cons_of_mem _ mx)) (fun a x y h1 h2 => ne (a + 1) x y (by simpa using h1) (by simpa using h2)) s m
theorem piece_wd {z L : Str} (hz : Sub z L) (hL : Lt.Let L) (z12 : z.length ≤ 12) {i j : Nat} (h : i < j) (hj : j ≤ z.length) : Lt.Wd 12 (cutS z (some (i : Int)) (some (j : Int))) ∧ Sub (cutS z (some (i : Int)) (some (j : Int))) L := by
  have l := Lt.cut_len (z := z) (a := i) (b := j) (by omega) hj
  exact ⟨⟨(hz.let hL).cut _ _, by omega, by omega⟩, hz.cut _ _⟩
theorem ok_l_book_word (T : Txt K mg) : FnOk P w K mg base CX0 3 T.f_l_book_word T.fd_l_book_word ["_law_pool_here", "_law_most", "_law_letters_here"] (sp_l_book_word K) := by
  refine T.F_l_book_word.ok sc_l_book_word (fun vs H Q E h => ?_) (fun cdv A outer s H vs Q E hr h => ?_)
  · obtain ⟨t, L, most, rfl, _⟩ := h
    rfl
  · obtain ⟨t, L, most, rfl, pl, hL, L0, L1, m1, m12, k⟩ := h
    refine ⟨_, (pss_cons (ps_set (i := 3) sc_l_book_word.nd rfl (.inr rfl) (pe_call (ok_l_word T) (hr.mono (by decide)) rfl T.g_l_word T.F_l_word.kp T.b_l_word .nil pass0 (pa_cons (pv 0) (pa_cons (pv 2) (pa_cons (pe_op op_add pe_int (pe_call (ok_l_draw T) (hr.mono (by decide)) rfl T.g_l_draw T.F_l_draw.kp T.b_l_draw .nil pass0 (pa_cons (pv 0) (pa_cons (pv 1) pa_nil)))) pa_nil)))))
  (pss_cons (ps_set (i := 4) sc_l_book_word.nd rfl (.inl rfl) (pe_lst pa_nil))
  (C8.pss_cut (ps_if (PW.pt (pw_and (pt_cmpR op_eq (pe_call (ok_l_draw T) (hr.mono (by decide)) rfl T.g_l_draw T.F_l_draw.kp T.b_l_draw .nil pass0 (pa_cons (pv 0) (pa_cons pe_int pa_nil))) pe_int (nomark _)) (pw_and1 (pt_cmpR op_gt (pe_callB (id := "len") (r := _) Rd.c_lenS (by rfl) T.n_len (by decide +kernel) (pa_cons (pv 3) pa_nil)) pe_int (nomark _)))))
  (pss_one (ps_setLc (i := 4) (own := [("_law_watch", 5)]) (g := gName 5)  rfl sc_l_book_word.nd rfl rfl (sw_true rfl rfl rfl (by decide +kernel)) (pi_list (pe_call (ok_l_watches T) (hr.mono (by decide)) rfl T.g_l_watches T.F_l_watches.kp T.b_l_watches .nil pass0 (pa_cons (pe_lst (pa_cons (pe_call (ok_l_rule T) (hr.mono (by decide)) rfl T.g_l_rule T.F_l_rule.kp T.b_l_rule .nil pass0 (pa_cons (pv 3) (pa_cons (pe_call (ok_l_path T) (hr.mono (by decide)) rfl T.g_l_path T.F_l_path.kp T.b_l_path .nil pass0 (pa_cons (pv 0) (pa_cons (pe_callB (id := "len") (r := _) Rd.c_lenS (by rfl) T.n_len (by decide +kernel) (pa_cons (pv 3) pa_nil)) (pa_cons pe_int pa_nil)))) pa_nil))) pa_nil)) pa_nil))) (blkOk_by (own := [("_law_watch", 5)]) (N := ["_law_pool_here", "_law_most", "_law_letters_here", "_law_word_here", "_law_watches_here", "_law_watch", "_law_k", "_law_start"]) (sc := defScope s_l_book_word) (by decide +kernel)) (fun _ _ _ _ _ => (pg_name (i := 5) sc_l_book_word.nd rfl (.inl rfl))) (fun _ _ _ _ _ => pts_one (pt_cmpR op_ne (pv 5) (pv 3) (nomark _))) (fun _ _ _ _ _ => (pv 5))))
  pss_nil)
  (pss_cons (ps_for PassesOwn.never rfl (pi_range1 rfl T.n_range (pa_cons (pe_op op_add pe_int (pe_call (ok_l_draw T) (hr.mono (by decide)) rfl T.g_l_draw T.F_l_draw.kp T.b_l_draw .nil pass0 (pa_cons (pv 0) (pa_cons pe_int pa_nil)))) pa_nil)) (pg_name (i := 6) sc_l_book_word.nd rfl (.inl rfl))
  (pss_cons (ps_set (i := 7) sc_l_book_word.nd rfl (.inl rfl) (pe_call (ok_l_draw T) (hr.mono (by decide)) rfl T.g_l_draw T.F_l_draw.kp T.b_l_draw .nil pass0 (pa_cons (pv 0) (pa_cons (pe_callB (id := "len") (r := _) Rd.c_lenS (by rfl) T.n_len (by decide +kernel) (pa_cons (pv 3) pa_nil)) pa_nil))))
  (pss_cons (ps_set (i := 5) sc_l_book_word.nd rfl (.inl rfl) (pe_slice sl_str (pv 3) (po_some (pv 7)) (po_some (pe_op op_add (pe_op op_add (pv 7) pe_int) (pe_call (ok_l_draw T) (hr.mono (by decide)) rfl T.g_l_draw T.F_l_draw.kp T.b_l_draw .nil pass0 (pa_cons (pv 0) (pa_cons (pe_op op_sub (pe_callB (id := "len") (r := _) Rd.c_lenS (by rfl) T.n_len (by decide +kernel) (pa_cons (pv 3) pa_nil)) (pv 7)) pa_nil)))))))
  (C8.pss_cut (ps_if (pt_cmpR op_eq (pe_call (ok_l_draw T) (hr.mono (by decide)) rfl T.g_l_draw T.F_l_draw.kp T.b_l_draw .nil pass0 (pa_cons (pv 0) (pa_cons pe_int pa_nil))) pe_int (nomark _))
  (pss_one (ps_set (i := 5) sc_l_book_word.nd rfl (.inl rfl) (pe_call (ok_l_word T) (hr.mono (by decide)) rfl T.g_l_word T.F_l_word.kp T.b_l_word .nil pass0 (pa_cons (pv 0) (pa_cons (pv 2) (pa_cons (pe_op op_add pe_int (pe_call (ok_l_draw T) (hr.mono (by decide)) rfl T.g_l_draw T.F_l_draw.kp T.b_l_draw .nil pass0 (pa_cons (pv 0) (pa_cons pe_int pa_nil)))) pa_nil))))))
  pss_nil)
  (pss_one (ps_if (PW.pt (pw_and (pt_cmpR (r := rIn K true) op_notIn_seq (pv 5) (pv 4) (by rfl)) (pw_and1 (PW.pt (pw_or (pt_cmpR op_ne (pv 5) (pv 3) (nomark _)) (pw_or1 (pt_cmpR op_eq (pe_call (ok_l_draw T) (hr.mono (by decide)) rfl T.g_l_draw T.F_l_draw.kp T.b_l_draw .nil pass0 (pa_cons (pv 0) (pa_cons pe_int pa_nil))) pe_int (nomark _))))))))
  (pss_one (ps_expr (pe_bm PySem.F.plainAttrs_list PySem.F.slot_list_append PySem.F.type_list_append mt_append (pv 4) (pa_cons (pv 5) pa_nil))))
  pss_nil))))))
  (pss_one (ps_ret (pe_lst (pa_cons (pv 3) (pa_cons (pv 4) pa_nil))))))))), ?_⟩
    walk_at "rd"
    refine drawP pl (by omega) (by omega) fun r H1 r0 r1 pl1 dr1 => ?_
    walk_at "rd"
    refine ⟨t, L, 1 + r, rfl, pl1, hL, L0, L1, by omega, by omega, fun z H2 sz zl pl2 dr2 => ?_⟩
    have zs : z.length ≤ sizeLine := by rw [sizeLine_eq]; omega
    have dr02 := dr1.trans dr2
    walk_at "rd"
    refine ⟨Nat.zero_le _, Rd.new fun l0 H3 n0 g0 s3 => ?_⟩
    have pl3 := pl2.same s3
    have dr03 := dr02.same pl2 s3
    have nl0 := dr02.free pl2 n0
    have ap0 := (pl2.new n0).same pl2 s3
    walk_at "rd"
    refine Rd.cut (fun σ H' => ∃ (l : Addr) (ws : List Str), σ = [some (.ref t), some (.int most), some (.str L), some (.str z), some (.ref l), none, none, none] ∧ Pool H' t ∧ Dr t H H' ∧ H l = none ∧ H' l = some (.lst (ws.map V.str)) ∧ Ap H' t l ∧ ws.Nodup ∧ ws.length ≤ 5 ∧ (∀ y ∈ ws, Lt.Wd 12 y ∧ Sub y L)) ?_ ?_
    · walk_at "rd"
      refine drawP pl3 (by decide) (by decide) fun r3 H4 _ _ pl4 dr4 => ?_
      have g4 := dr4.but _ _ ap0.1 g0
      have ap4 := dr4.ap _ _ g0 ap0
      have dr04 := dr03.trans dr4
      have done : ∃ (l : Addr) (ws : List Str), ([some (.ref t), some (.int most), some (.str L), some (.str z), some (.ref l0), none, none, none] : L2.St) = [some (.ref t), some (.int most), some (.str L), some (.str z), some (.ref l), none, none, none] ∧ Pool H4 t ∧ Dr t H H4 ∧ H l = none ∧ H4 l = some (.lst (ws.map V.str)) ∧ Ap H4 t l ∧ ws.Nodup ∧ ws.length ≤ 5 ∧ (∀ y ∈ ws, Lt.Wd 12 y ∧ Sub y L) := ⟨l0, [], rfl, pl4, dr04, nl0, g4, ap4, .nil, by decide, fun y m => (nomatch m)⟩
      walk_at "rd"
      refine ite2 (fun c1 => ?_) (fun c1 => ?_)
      · walk_at "rd"
        refine Rd.lenStr zs ?_
        walk_at "rd"
        refine ite2 (fun c2 => ?_) (fun c2 => ?_)
        · walk_at "rd"
          refine Rd.lenStr zs ?_
          walk_at "rd"
          refine ⟨t, z.length, 4, rfl, pl4, by omega, by decide, fun q P H5 pl5 dr5 nq apq gq PO Pl => ?_⟩
          walk_at "rd"
          have P0 : P ≠ [] := fun e => by have := PO.hd; rw [e] at this; cases this
          refine ⟨z, q, P, rfl, gq, P0, by omega, by omega, fun p H6 SA s6 np => ?_⟩
          walk_at "rd"
          refine ⟨Nat.le_of_ble_eq_true rfl, Rd.new fun v H7 nv gv s7 => ?_⟩
          walk_at "rd"
          have piece := step_piece (z := z) (n := z.length) rfl PO.le PO.ne
          have ok : ∀ s ∈ stepsOf z P, Lt.Wd 12 s.2 ∧ Sub s.2 L := fun s m => by
            obtain ⟨i, j, h1, h2, e⟩ := piece s m
            rw [e]
            exact piece_wd sz hL (by omega) h1 h2
          have sl : (stepsOf z P).length ≤ 5 := by rw [stepsOf_len]; omega
          refine ⟨v, [p], [stepsOf z P], rfl, gv, .cons (SA.same s7) .nil, Nat.le_of_ble_eq_true rfl, fun ss m => by rw [List.mem_singleton.mp m]; omega, fun ss m s ms => by rw [List.mem_singleton.mp m] at ms; have := (ok s ms).1.l1; omega, fun w us H8 s8 nw gw ndu mem => ?_⟩
          have mem' : ∀ y ∈ us, ∃ s ∈ stepsOf z P, s.2 = y := fun y m => by
            obtain ⟨ss, ms, s, m2, e⟩ := (mem y).mp m
            rw [List.mem_singleton.mp ms] at m2
            exact ⟨s, m2, e⟩
          have ul : us.length ≤ 5 := by
            refine Nat.le_trans (List.Nodup.length_le_of_subset ndu (l₂ := (stepsOf z P).map (·.2)) fun y m => ?_) (by rw [List.length_map]; exact sl)
            obtain ⟨s, ms, e⟩ := mem' y m
            exact List.mem_map.mpr ⟨s, ms, e⟩
          have s58 := (s6.trans s7).trans s8
          have pl8 := pl5.same s58
          have dr08 := (dr04.trans dr5).same pl5 s58
          walk_at "rd"
          refine ⟨⟨_, .of gw⟩, Rd.lcS walk_list (fun _ s => .of (s _ _ gw)) (fun D i acc _ => ∃ ys : List Str, acc = ys.map V.str ∧ ys.Sublist (us.take i)) (fun _ _ _ _ _ => ⟨[], rfl, .slnil⟩) ?_ ?_⟩
          · rintro D i x G _ acc nD hi hD sm ⟨ys, rfl, yl⟩ ⟨rfl, hx⟩
            obtain ⟨y, hy, rfl⟩ := Rd.map_strG hx
            have yl5 : ys.length ≤ 5 := by
              have := yl.length_le
              rw [List.length_take] at this
              omega
            walk_at "rd"
            refine ⟨rfl, ?_⟩
            walk_at "rd"
            refine ite2 (fun e => ?_) (fun e => ?_)
            · walk_at "rd"
              refine ⟨_, hD, sm, ys, rfl, ?_⟩
              rw [Rd.take_snoc hy]
              exact yl.trans (List.sublist_append_left _ _)
            · walk_at "rd"
              refine Rd.lcPush hD nD sm (by rw [List.length_map, sizeLine_eq]; omega) fun G4 _ _ => ?_
              refine ⟨ys ++ [y], by rw [List.map_append]; rfl, ?_⟩
              rw [Rd.take_snoc hy]
              exact yl.append (List.Sublist.refl _)
          rintro D acc G nD hD sm ⟨ys, rfl, yl⟩
          rw [List.length_map, List.take_length] at yl
          walk_at "rd"
          refine ⟨D, ys, rfl, pl8.same sm, dr08.same pl8 sm, dr08.free pl8 nD, hD, (pl8.new nD).same pl8 sm, ndu.sublist yl, Nat.le_trans yl.length_le ul, fun y m => ?_⟩
          obtain ⟨s, ms, e⟩ := mem' y (yl.subset m)
          rw [← e]
          exact ok s ms
        · walk_at "rd"
          exact done
      · walk_at "rd"
        exact done
    clear g0 ap0 nl0 pl3 dr03 s3 n0
    rintro _ H4 ⟨l, ws, rfl, pl4, dr4, nl, gl, ap, nd, wl, wok⟩
    walk_at "rd"
    refine Rd.forS ?_
    walk_at "rd"
    refine drawP pl4 (by decide) (by decide) fun r4 H5 r40 r41 pl5 dr5 => ?_
    walk_at "rd"
    refine ⟨by omega, by omega, ?_⟩
    refine for_range (lo := 0) (n := (1 + r4).toNat) (fun i σ H' => ∃ (ws : List Str) (o5 o6 o7 : Option V), σ = [some (.ref t), some (.int most), some (.str L), some (.str z), some (.ref l), o5, o6, o7] ∧ Pool H' t ∧ Dr t H H' ∧ H' l = some (.lst (ws.map V.str)) ∧ Ap H' t l ∧ ws.Nodup ∧ ws.length ≤ 5 + i ∧ (∀ y ∈ ws, Lt.Wd 12 y ∧ Sub y L))
      ⟨ws, _, _, _, rfl, pl5, dr4.trans dr5, dr5.but _ _ ap.1 gl, dr5.ap _ _ gl ap, nd, wl, wok⟩ ?_ ?_
    · clear gl ap nd wl wok dr4 pl4 ws pl5 dr5
      rintro i _ H6 hi ⟨ws, o5, o6, o7, rfl, pl6, dr6, gl6, ap6, nd, wl, wok⟩
      walk_at "rd"
      refine Rd.lenStr zs ?_
      walk_at "rd"
      refine drawP pl6 (by omega) (by omega) fun x H7 x0 x1 pl7 dr7 => ?_
      have dr07 := dr6.trans dr7
      have gl7 := dr7.but _ _ ap6.1 gl6
      have ap7 := dr7.ap _ _ gl6 ap6
      walk_at "rd"
      refine Rd.lenStr zs ?_
      walk_at "rd"
      refine drawP pl7 (by omega) (by omega) fun y H8 y0 y1 pl8 dr8 => ?_
      have dr08 := dr07.trans dr8
      have gl8 := dr8.but _ _ ap7.1 gl7
      have ap8 := dr8.ap _ _ gl7 ap7
      walk_at "rd"
      refine Rd.slS zs ?_
      walk_at "rd"
      obtain ⟨pw, ps⟩ : Lt.Wd 12 (cutS z (some x) (some (x + 1 + y))) ∧ Sub (cutS z (some x) (some (x + 1 + y))) L := by
        have := piece_wd sz hL (by omega) (i := x.toNat) (j := (x + 1 + y).toNat) (by omega) (by omega)
        rwa [Int.toNat_of_nonneg x0, Int.toNat_of_nonneg (show 0 ≤ x + 1 + y by omega)] at this
      generalize cutS z (some x) (some (x + 1 + y)) = W0 at pw ps
      refine Rd.cut (fun σ H' => ∃ (W : Str) (o6 o7 : Option V), σ = [some (.ref t), some (.int most), some (.str L), some (.str z), some (.ref l), some (.str W), o6, o7] ∧ Pool H' t ∧ Dr t H H' ∧ H' l = some (.lst (ws.map V.str)) ∧ Ap H' t l ∧ Lt.Wd 12 W ∧ Sub W L) ?_ ?_
      · walk_at "rd"
        refine drawP pl8 (by decide) (by decide) fun r9 H9 _ _ pl9 dr9 => ?_
        have dr09 := dr08.trans dr9
        have gl9 := dr9.but _ _ ap8.1 gl8
        have ap9 := dr9.ap _ _ gl8 ap8
        walk_at "rd"
        refine ite2 (fun c => ?_) (fun c => ?_)
        · walk_at "rd"
          refine drawP pl9 (by decide) (by decide) fun r10 HA ra0 ra1 plA drA => ?_
          walk_at "rd"
          refine ⟨t, L, 1 + r10, rfl, plA, hL, L0, L1, by omega, by omega, fun W HB sW Wl plB drB => ?_⟩
          have drAB := drA.trans drB
          walk_at "rd"
          exact ⟨W, _, _, rfl, plB, dr09.trans drAB, drAB.but _ _ ap9.1 gl9, drAB.ap _ _ gl9 ap9, ⟨sW.let hL, by omega, by omega⟩, sW⟩
        · walk_at "rd"
          exact ⟨W0, _, _, rfl, pl9, dr09, gl9, ap9, pw, ps⟩
      clear pl8 dr8 dr08 gl8 ap8 pw ps pl7 dr7 dr07 gl7 ap7 pl6 dr6 gl6 ap6
      rintro _ H9 ⟨W, o6, o7, rfl, pl9, dr9, gl9, ap9, wW, sW⟩
      have push : ∀ (HA : Hp), Pool HA t → Dr t H HA → HA l = some (.lst (ws.map V.str)) → Ap HA t l → W ∉ ws → ∀ (G : Hp), G l = some (.lst (ws.map V.str ++ [V.str W])) → (∀ b, b ≠ l → G b = HA b) → ∃ (ws : List Str) (o5 o6' o7' : Option V), ([some (.ref t), some (.int most), some (.str L), some (.str z), some (.ref l), some (.str W), o6, o7] : L2.St) = [some (.ref t), some (.int most), some (.str L), some (.str z), some (.ref l), o5, o6', o7'] ∧ Pool G t ∧ Dr t H G ∧ G l = some (.lst (ws.map V.str)) ∧ Ap G t l ∧ ws.Nodup ∧ ws.length ≤ 5 + (i + 1) ∧ (∀ y ∈ ws, Lt.Wd 12 y ∧ Sub y L) := fun HA plA drA glA apA no G g off => by
        refine ⟨ws ++ [W], _, _, _, rfl, plA.off apA off, drA.off nl apA off, by rw [List.map_append]; exact g, Ap.off apA off apA, snoc_nodup nd no, by rw [List.length_append]; show _ + 1 ≤ _; omega, fun y m => ?_⟩
        rcases List.mem_append.mp m with m | m
        · exact wok y m
        · rw [List.mem_singleton.mp m]
          exact ⟨wW, sW⟩
      have lim : (ws.map V.str).length < sizeLine := by rw [List.length_map, sizeLine_eq]; omega
      walk_at "rd"
      refine Rd.inStrsN (.inl (.of gl9)) ?_
      by_cases c : W ∈ ws
      · rw [decide_eq_true c]
        walk_at "rd"
        exact ⟨ws, _, _, _, rfl, pl9, dr9, gl9, ap9, nd, by omega, wok⟩
      · rw [decide_eq_false c]
        walk_at "rd"
        refine ite2 (fun e => ?_) (fun e => ?_)
        · walk_at "rd"
          refine drawP pl9 (by decide) (by decide) fun r11 HA _ _ plA drA => ?_
          have glA := drA.but _ _ ap9.1 gl9
          have apA := drA.ap _ _ gl9 ap9
          have dr0A := dr9.trans drA
          walk_at "rd"
          refine ite2 (fun e2 => ?_) (fun e2 => ?_)
          · walk_at "rd"
            refine Rd.tyL (.of glA) ?_
            walk_at "rd"
            refine Rd.app glA lim fun G g off => ?_
            walk_at "rd"
            exact push HA plA dr0A glA apA c G g off
          · walk_at "rd"
            exact ⟨ws, _, _, _, rfl, plA, dr0A, glA, apA, nd, by omega, wok⟩
        · walk_at "rd"
          refine Rd.tyL (.of gl9) ?_
          walk_at "rd"
          refine Rd.app gl9 lim fun G g off => ?_
          walk_at "rd"
          exact push H9 pl9 dr9 gl9 ap9 c G g off
    clear gl ap nd wl wok dr4 pl4 ws pl5 dr5
    rintro _ H6 ⟨ws, o5, o6, o7, rfl, pl6, dr6, gl6, ap6, nd, wl, wok⟩
    walk_at "rd"
    refine ⟨Nat.le_of_ble_eq_true rfl, Rd.new fun p H7 np gp s7 => ?_⟩
    exact k p l z ws H7 (pl6.same s7) (dr6.same pl6 s7) (pl6.new np).1 ap6.1 gp (s7 _ _ gl6) ⟨sz.let hL, by omega, by omega⟩ sz nd (by omega) wok

end
end W

namespace W
open PySem PySem.Spec PyProof.Rows L2
section
variable {P : Program} {w : World} {K : PySem.W.Frag} {mg : Str → Option Value} {base : Heap}
/-! ### a text many times -/
theorem mulF_app : ∀ (l : List (Array Nat)) (a : Array Nat), (l.foldl (· ++ ·) a).toList = a.toList ++ (l.map Array.toList).flatten
  | [], a => by simp
  | x :: l, a => by rw [List.foldl_cons, mulF_app l, Array.toList_append, List.map_cons, List.flatten_cons, List.append_assoc]
theorem mul_l (y : Str) (n : Nat) : (Txt.mul y (n : Int)).cps.toList = (List.replicate n y.cps.toList).flatten := by
  unfold Txt.mul
  split
  · rw [show n = 0 by omega]
    rfl
  · split
    · rename_i h1 h2
      rcases (Bool.or_eq_true _ _).mp h2 with e | e
      · rw [show n = 1 by have : (n : Int) = 1 := by simpa using e
                          omega]
        simp
      · have e' : y.length = 0 := by simpa using e
        have e3 : y.cps.toList = [] := List.length_eq_zero_iff.mp (by rw [Array.length_toList]; exact e')
        rw [e3]
        simp
    · show ((List.replicate (n : Int).toNat y.cps).foldl (· ++ ·) #[]).toList = _
      rw [mulF_app, Int.toNat_natCast, List.map_replicate]
      rfl
theorem mul_ln (y : Str) (n : Nat) : (Txt.mul y (n : Int)).length = n * y.length := by
  have h : (Txt.mul y (n : Int)).cps.toList.length = (Txt.mul y (n : Int)).length := Array.length_toList
  have hy : y.cps.toList.length = y.length := Array.length_toList
  rw [← h, mul_l, ← hy]
  simp
theorem mul_mem {y : Str} {n c : Nat} (m : c ∈ (Txt.mul y (n : Int)).cps.toList) : c ∈ y.cps.toList := by
  rw [mul_l] at m
  obtain ⟨l, hl, hc⟩ := List.mem_flatten.mp m
  rw [(List.mem_replicate.mp hl).2] at hc
  exact hc
theorem mul_ok {y : Str} {n : Nat} (h : y.length ≤ 1000) (hn : n ≤ 1000) : MulOk y (n : Int) := by
  refine ⟨?_, fun h1 _ q => ?_, fun _ _ => ?_⟩
  · rw [Bool.or_eq_false_iff]
    exact ⟨decide_eq_false (by omega), decide_eq_false (by omega)⟩
  · have : (y.length : Int) ≤ (2 ^ 63 - 1) / (n : Int) := by
      rw [Int.le_ediv_iff_mul_le (by omega)]
      have : y.length * n ≤ 1000 * 1000 := Nat.mul_le_mul h hn
      have e : ((y.length : Int) * (n : Int)) = ((y.length * n : Nat) : Int) := by rw [Int.natCast_mul]
      rw [e]
      omega
    omega
  · have : y.length * n ≤ 1000 * 1000 := Nat.mul_le_mul h hn
    show decide (y.length * (n : Int).toNat > sizeLine) = false
    rw [Int.toNat_natCast]
    exact decide_eq_false (by rw [sizeLine_eq]; omega)

end
end W

namespace W
open PySem PySem.Spec PyProof.Rows L2
section
variable {P : Program} {w : World} {K : PySem.W.Frag} {mg : Str → Option Value} {base : Heap}
open Mr (Rk joined joined_lt metF leftF rightF topF)
/-! ### told reckonings: tables -/
def rowV (f : Nat → Nat) (n : Nat) : List V := ((List.range n).map fun j : Nat => ((f j : Nat) : Int)).map V.int
theorem rowV_len (f : Nat → Nat) (n : Nat) : (rowV f n).length = n := by unfold rowV; rw [List.length_map, List.length_map, List.length_range]
theorem rowV_get {f : Nat → Nat} {n j : Nat} (h : j < n) : (rowV f n)[j]? = some (.int (f j : Nat)) := by
  unfold rowV
  rw [List.getElem?_map, List.getElem?_map, List.getElem?_range h]
  rfl
theorem rowV_snoc (f : Nat → Nat) (n : Nat) : rowV f n ++ [.int (f n : Nat)] = rowV f (n + 1) := by
  unfold rowV
  rw [List.range_succ, List.map_append, List.map_append]
  rfl
theorem rowV_inv {f : Nat → Nat} {n j : Nat} {x : V} (h : (rowV f n)[j]? = some x) : j < n ∧ x = .int (f j : Nat) := by
  have l := (List.getElem?_eq_some_iff.mp h).1
  rw [rowV_len] at l
  rw [rowV_get l] at h
  exact ⟨l, (Option.some.inj h).symm⟩
theorem rowV_congr {f g : Nat → Nat} {n : Nat} (h : ∀ j, j < n → f j = g j) : rowV f n = rowV g n := by
  unfold rowV
  rw [List.map_map, List.map_map]
  refine List.map_congr_left fun j m => ?_
  show V.int (f j : Nat) = V.int (g j : Nat)
  rw [h j (List.mem_range.mp m)]
/-- a table stands at a: rows of either kind, n of them, each of n numbers -/
def Tbl (K : PySem.W.Frag) (H : Hp) (a : Addr) (n : Nat) (F : Nat → Nat → Nat) : Prop := ∃ rs : List Addr, Ru.SqR K H a (rs.map V.ref) ∧ rs.length = n ∧ ∀ i r, rs[i]? = some r → Ru.SqR K H r (rowV (F i) n)
/-- .. tuples -/
def TblT (K : PySem.W.Frag) (H : Hp) (a : Addr) (n : Nat) (F : Nat → Nat → Nat) : Prop := ∃ rs : List Addr, SqT K H a (rs.map V.ref) ∧ rs.length = n ∧ ∀ i r, rs[i]? = some r → SqT K H r (rowV (F i) n)
/-- .. lists, in the heap -/
def TblL (H : Hp) (a : Addr) (n : Nat) (F : Nat → Nat → Nat) : Prop := ∃ rs : List Addr, H a = some (.lst (rs.map V.ref)) ∧ rs.length = n ∧ ∀ i r, rs[i]? = some r → H r = some (.lst (rowV (F i) n))
theorem Tbl.same {K : PySem.W.Frag} {H H' : Hp} {a : Addr} {n : Nat} {F : Nat → Nat → Nat} (h : Tbl K H a n F) (s : Same H H') : Tbl K H' a n F := let ⟨rs, h1, h2, h3⟩ := h; ⟨rs, h1.same s, h2, fun i r e => (h3 i r e).same s⟩
theorem TblT.same {K : PySem.W.Frag} {H H' : Hp} {a : Addr} {n : Nat} {F : Nat → Nat → Nat} (h : TblT K H a n F) (s : Same H H') : TblT K H' a n F := let ⟨rs, h1, h2, h3⟩ := h; ⟨rs, Ru.same_tup s h1, h2, fun i r e => Ru.same_tup s (h3 i r e)⟩
theorem TblL.same {H H' : Hp} {a : Addr} {n : Nat} {F : Nat → Nat → Nat} (h : TblL H a n F) (s : Same H H') : TblL H' a n F := let ⟨rs, h1, h2, h3⟩ := h; ⟨rs, s _ _ h1, h2, fun i r e => s _ _ (h3 i r e)⟩
theorem TblT.any {K : PySem.W.Frag} {H : Hp} {a : Addr} {n : Nat} {F : Nat → Nat → Nat} (h : TblT K H a n F) : Tbl K H a n F := let ⟨rs, h1, h2, h3⟩ := h; ⟨rs, .inr h1, h2, fun i r e => .inr (h3 i r e)⟩
theorem TblL.any {K : PySem.W.Frag} {H : Hp} {a : Addr} {n : Nat} {F : Nat → Nat → Nat} (h : TblL H a n F) : Tbl K H a n F := let ⟨rs, h1, h2, h3⟩ := h; ⟨rs, .inl (.of h1), h2, fun i r e => .inl (.of (h3 i r e))⟩
theorem Tbl.len {K : PySem.W.Frag} {H : Hp} {a : Addr} {n : Nat} {F : Nat → Nat → Nat} (h : Tbl K H a n F) {Q : VK} (q : Q (.int (n : Nat)) H) : Rd.nLen K [.ref a] H Q := by
  obtain ⟨rs, h1, h2, _⟩ := h
  refine Rd.len h1 ?_
  rw [List.length_map, h2]
  exact q
theorem ixRow {K : PySem.W.Frag} {H : Hp} {a : Addr} {xs : List V} {i : Int} {v : V} {Q : VK} (h : Ru.SqR K H a xs) (e : atI xs i = some v) (q : Q v H) : rIxL K (.ref a) (.int i) H Q ∨ rIxT K (.ref a) (.int i) H Q := h.elim (fun h => .inl (Rd.ixL h e q)) fun h => .inr (Rd.ixT h e q)
theorem Tbl.one {K : PySem.W.Frag} {H : Hp} {a : Addr} {n i : Nat} {F : Nat → Nat → Nat} {Q : VK} (h : Tbl K H a n F) (hi : i < n) (k : ∀ r, Ru.SqR K H r (rowV (F i) n) → Q (.ref r) H) : rIxL K (.ref a) (.int (i : Nat)) H Q ∨ rIxT K (.ref a) (.int (i : Nat)) H Q := by
  obtain ⟨rs, h1, h2, h3⟩ := h
  have e := List.getElem?_eq_getElem (show i < rs.length by omega)
  exact ixRow h1 (atI_nat (Rd.map_ref (by omega))) (k _ (h3 i _ e))
theorem rowIx {K : PySem.W.Frag} {H : Hp} {r : Addr} {n j : Nat} {f : Nat → Nat} {Q : VK} (h : Ru.SqR K H r (rowV f n)) (hj : j < n) (k : Q (.int (f j : Nat)) H) : rIxL K (.ref r) (.int (j : Nat)) H Q ∨ rIxT K (.ref r) (.int (j : Nat)) H Q := ixRow h (atI_nat (rowV_get hj)) k
theorem TblT.one {K : PySem.W.Frag} {H : Hp} {a : Addr} {n i : Nat} {F : Nat → Nat → Nat} {Q : VK} (h : TblT K H a n F) (hi : i < n) (k : ∀ r, SqT K H r (rowV (F i) n) → Q (.ref r) H) : rIxT K (.ref a) (.int (i : Nat)) H Q := by
  obtain ⟨rs, h1, h2, h3⟩ := h
  have e := List.getElem?_eq_getElem (show i < rs.length by omega)
  exact Rd.ixT h1 (atI_nat (Rd.map_ref (by omega))) (k _ (h3 i _ e))
theorem TblL.one {K : PySem.W.Frag} {H : Hp} {a : Addr} {n i : Nat} {F : Nat → Nat → Nat} {Q : VK} (h : TblL H a n F) (hi : i < n) (k : ∀ r, SqL K H r (rowV (F i) n) → Q (.ref r) H) : rIxL K (.ref a) (.int (i : Nat)) H Q := by
  obtain ⟨rs, h1, h2, h3⟩ := h
  have e := List.getElem?_eq_getElem (show i < rs.length by omega)
  exact Rd.ixL (.of h1) (atI_nat (Rd.map_ref (by omega))) (k _ (.of (h3 i _ e)))
theorem rowT {K : PySem.W.Frag} {H : Hp} {r : Addr} {n j : Nat} {f : Nat → Nat} {Q : VK} (h : SqT K H r (rowV f n)) (hj : j < n) (k : Q (.int (f j : Nat)) H) : rIxT K (.ref r) (.int (j : Nat)) H Q := Rd.ixT h (atI_nat (rowV_get hj)) k
theorem rowL {K : PySem.W.Frag} {H : Hp} {r : Addr} {n j : Nat} {f : Nat → Nat} {Q : VK} (h : SqL K H r (rowV f n)) (hj : j < n) (k : Q (.int (f j : Nat)) H) : rIxL K (.ref r) (.int (j : Nat)) H Q := Rd.ixL h (atI_nat (rowV_get hj)) k
/-- t[i][j], j a name -/
theorem Tbl.two {K : PySem.W.Frag} {H : Hp} {a : Addr} {n i j : Nat} {F : Nat → Nat → Nat} {σ : L2.St} {te : TE} {Q : VK} (h : Tbl K H a n F) (hi : i < n) (hj : j < n) (e : ∀ Q' : VK, Q' (.int (j : Nat)) H → te σ H Q') (k : Q (.int (F i j : Nat)) H) :
    rIxL K (.ref a) (.int (i : Nat)) H (fun x H1 => te σ H1 fun y H2 => rIxL K x y H2 Q ∨ rIxT K x y H2 Q) ∨ rIxT K (.ref a) (.int (i : Nat)) H (fun x H1 => te σ H1 fun y H2 => rIxL K x y H2 Q ∨ rIxT K x y H2 Q) :=
  h.one hi fun r hr => e _ (rowIx hr hj k)
theorem TblT.two {K : PySem.W.Frag} {H : Hp} {a : Addr} {n i j : Nat} {F : Nat → Nat → Nat} {σ : L2.St} {te : TE} {Q : VK} (h : TblT K H a n F) (hi : i < n) (hj : j < n) (e : ∀ Q' : VK, Q' (.int (j : Nat)) H → te σ H Q') (k : Q (.int (F i j : Nat)) H) :
    rIxT K (.ref a) (.int (i : Nat)) H (fun x H1 => te σ H1 fun y H2 => rIxT K x y H2 Q) := h.one hi fun r hr => e _ (rowT hr hj k)
theorem TblL.two {K : PySem.W.Frag} {H : Hp} {a : Addr} {n i j : Nat} {F : Nat → Nat → Nat} {σ : L2.St} {te : TE} {Q : VK} (h : TblL H a n F) (hi : i < n) (hj : j < n) (e : ∀ Q' : VK, Q' (.int (j : Nat)) H → te σ H Q') (k : Q (.int (F i j : Nat)) H) :
    rIxL K (.ref a) (.int (i : Nat)) H (fun x H1 => te σ H1 fun y H2 => rIxL K x y H2 Q) := h.one hi fun r hr => e _ (rowL hr hj k)
theorem vr {σ : L2.St} {H : Hp} {i : Nat} {v : V} (e : σ[i]? = some (some v)) : ∀ Q : VK, Q v H → tVar i σ H Q := fun _ q => ⟨v, e, q⟩
theorem shapedT_i (ns : List Int) : SeqAt.shaped (.tuple (ns.map PyData.int)) = true := by
  have h1 : PyData.canLay0 (.tuple (ns.map PyData.int)) = true := Rd.canLay_ints ns
  have h2 : PyData.depth (.tuple (ns.map PyData.int)) = 1 := by
    show PyData.depthAll (ns.map PyData.int) + 1 = 1
    rw [Rd.depth_ints]
  unfold SeqAt.shaped
  rw [h1, h2]
  rfl
theorem neTups {K : PySem.W.Frag} {H : Hp} {a b : Addr} {ns ms : List Int} {Q : VK} (h1 : SqT K H a (ns.map V.int)) (h2 : SqT K H b (ms.map V.int)) (q : Q (.bl (!decide (ns = ms))) H) : rNeD K (.ref a) (.ref b) H Q := by
  refine ⟨_, _, .tup h1 (Rd.dpAll_ints ns), .tup h2 (Rd.dpAll_ints ms), shapedT_i ns, shapedT_i ms, ?_⟩
  show Q (.bl (!PyData.eqvAll (ns.map PyData.int) (ms.map PyData.int))) H
  rw [Rd.eqv_ints]
  exact q

end
end W

namespace W
open PySem PySem.Spec PyProof.Rows L2
section
variable {P : Program} {w : World} {K : PySem.W.Frag} {mg : Str → Option Value} {base : Heap}
open Mr (Rk joined joined_lt metF leftF rightF topF)
/-! ### tables as data -/
def rowD (f : Nat → Nat) (n : Nat) : PyData := .tuple (((List.range n).map fun j : Nat => ((f j : Nat) : Int)).map PyData.int)
def tblD (F : Nat → Nat → Nat) (n : Nat) : PyData := .tuple ((List.range n).map fun i => rowD (F i) n)
theorem dpAll_of {H : Hp} : ∀ (rs : List Addr) (ds : List PyData), rs.length = ds.length → (∀ (i : Nat) (r : Addr) (d : PyData), rs[i]? = some r → ds[i]? = some d → Dp K H (.ref r) d) → DpAll K H (rs.map V.ref) ds
  | [], [], _, _ => .nil
  | r :: rs, d :: ds, l, h => .cons (h 0 r d rfl rfl) (dpAll_of rs ds (Nat.succ.inj l) fun i r d a b => h (i + 1) r d a b)
  | [], _ :: _, l, _ => by cases l
  | _ :: _, [], l, _ => by cases l
theorem TblT.dp {H : Hp} {a : Addr} {n : Nat} {F : Nat → Nat → Nat} (h : TblT K H a n F) : Dp K H (.ref a) (tblD F n) := by
  obtain ⟨rs, h1, h2, h3⟩ := h
  refine .tup h1 (dpAll_of rs _ (by rw [h2, List.length_map, List.length_range]) fun i r d a b => ?_)
  have il : i < n := by rw [← h2]; exact (List.getElem?_eq_some_iff.mp a).1
  rw [List.getElem?_map, List.getElem?_range il] at b
  cases (Option.some.inj b)
  exact .tup (h3 i r a) (Rd.dpAll_ints _)
theorem tbl_lay (F : Nat → Nat → Nat) (n : Nat) : ∀ l : List Nat, PyData.canLayAll0 (l.map fun i => rowD (F i) n) = true
  | [] => rfl
  | i :: l => by
    show (PyData.canLay0 (rowD (F i) n) && PyData.canLayAll0 (l.map fun i => rowD (F i) n)) = true
    rw [tbl_lay F n l, Bool.and_true]
    exact Rd.canLay_ints _
theorem tbl_depth (F : Nat → Nat → Nat) (n : Nat) : ∀ l : List Nat, PyData.depthAll (l.map fun i => rowD (F i) n) ≤ 1
  | [] => Nat.le_of_ble_eq_true rfl
  | i :: l => by
    have h := tbl_depth F n l
    show max (PyData.depth (rowD (F i) n)) (PyData.depthAll (l.map fun i => rowD (F i) n)) ≤ 1
    have : PyData.depth (rowD (F i) n) = 1 := by
      show PyData.depthAll _ + 1 = 1
      rw [Rd.depth_ints]
    omega
theorem tblD_lay (F : Nat → Nat → Nat) (n : Nat) : PyData.canLay0 (tblD F n) = true := tbl_lay F n _
theorem tblD_depth (F : Nat → Nat → Nat) (n : Nat) : PyData.depth (tblD F n) ≤ 2 := Nat.succ_le_succ (tbl_depth F n _)
theorem shaped_of {d : PyData} (h1 : PyData.canLay0 d = true) (h2 : PyData.depth d ≤ 4) : SeqAt.shaped d = true := by
  unfold SeqAt.shaped
  rw [h1, decide_eq_true (by omega)]
  rfl
theorem neData {H : Hp} {a b : Addr} {d : PyData} {Q : VK} (h1 : Dp K H (.ref a) d) (h2 : Dp K H (.ref b) d) (h : SeqAt.shaped d = true) (q : Q (.bl false) H) : rNeD K (.ref a) (.ref b) H Q := by
  refine ⟨_, _, h1, h2, h, h, ?_⟩
  rw [SeqAt.eqv_refl _ (SeqAt.canLay_of_shaped h)]
  exact q
theorem eqData {H : Hp} {a b : Addr} {d : PyData} {Q : VK} (h1 : Dp K H (.ref a) d) (h2 : Dp K H (.ref b) d) (h : SeqAt.shaped d = true) (q : Q (.bl true) H) : rEqD K (.ref a) (.ref b) H Q := by
  refine ⟨_, _, h1, h2, h, h, ?_⟩
  rw [SeqAt.eqv_refl _ (SeqAt.canLay_of_shaped h)]
  exact q
/-- whether two tables are the same -/
theorem eqv_rows : ∀ (xs ys : List (List Int)), PyData.eqvAll (xs.map fun l => PyData.tuple (l.map PyData.int)) (ys.map fun l => PyData.tuple (l.map PyData.int)) = decide (xs = ys)
  | [], [] => rfl
  | [], _ :: _ => rfl
  | _ :: _, [] => rfl
  | x :: xs, y :: ys => by
    show (PyData.eqvAll (x.map PyData.int) (y.map PyData.int) && PyData.eqvAll (xs.map fun l => PyData.tuple (l.map PyData.int)) (ys.map fun l => PyData.tuple (l.map PyData.int))) = _
    rw [eqv_rows xs ys, Rd.eqv_ints, Bool.eq_iff_iff]
    simp
def rowsI (F : Nat → Nat → Nat) (n : Nat) : List (List Int) := (List.range n).map fun i => (List.range n).map fun j : Nat => ((F i j : Nat) : Int)
theorem tblD_rows (F : Nat → Nat → Nat) (n : Nat) : tblD F n = .tuple ((rowsI F n).map fun l => PyData.tuple (l.map PyData.int)) := by
  unfold tblD rowsI rowD
  rw [List.map_map]
  rfl
theorem rowsI_eq {F G : Nat → Nat → Nat} {n m : Nat} : rowsI F n = rowsI G m ↔ n = m ∧ ∀ i j, i < n → j < n → F i j = G i j := by
  constructor
  · intro h
    have e : n = m := by
      have := congrArg List.length h
      unfold rowsI at this
      simpa using this
    subst e
    refine ⟨rfl, fun i j hi hj => ?_⟩
    have h1 := congrArg (fun l => (l[i]?).bind fun r => r[j]?) h
    unfold rowsI at h1
    simp [hi, hj] at h1
    omega
  · rintro ⟨rfl, h⟩
    unfold rowsI
    refine List.map_congr_left fun i hi => List.map_congr_left fun j hj => ?_
    rw [h i j (List.mem_range.mp hi) (List.mem_range.mp hj)]
theorem eqv_tblD (F G : Nat → Nat → Nat) (n m : Nat) : PyData.eqv (tblD F n) (tblD G m) = decide (rowsI F n = rowsI G m) := by
  rw [tblD_rows, tblD_rows]
  show PyData.eqvAll _ _ = _
  rw [eqv_rows]
theorem tblD_shaped (F : Nat → Nat → Nat) (n : Nat) : SeqAt.shaped (tblD F n) = true := shaped_of (tblD_lay F n) (Nat.le_trans (tblD_depth F n) (by decide))
theorem neTbl {H : Hp} {a b : Addr} {n m : Nat} {F G : Nat → Nat → Nat} {Q : VK} (h1 : TblT K H a n F) (h2 : TblT K H b m G) (q : Q (.bl (!decide (rowsI F n = rowsI G m))) H) : rNeD K (.ref a) (.ref b) H Q := by
  refine ⟨_, _, h1.dp, h2.dp, tblD_shaped F n, tblD_shaped G m, ?_⟩
  rw [eqv_tblD]
  exact q

end
end W

namespace W
open PySem PySem.Spec PyProof.Rows L2
section
variable {P : Program} {w : World} {K : PySem.W.Frag} {mg : Str → Option Value} {base : Heap}
open Mr (Rk joined joined_lt metF leftF rightF topF)
/-! ### tables that are lists, as data -/
def rowLD (f : Nat → Nat) (n : Nat) : PyData := .list (((List.range n).map fun j : Nat => ((f j : Nat) : Int)).map PyData.int)
def tblLD (F : Nat → Nat → Nat) (n : Nat) : PyData := .list ((List.range n).map fun i => rowLD (F i) n)
theorem TblL.dp {H : Hp} {a : Addr} {n : Nat} {F : Nat → Nat → Nat} (h : TblL H a n F) : Dp K H (.ref a) (tblLD F n) := by
  obtain ⟨rs, h1, h2, h3⟩ := h
  refine .lst (.of h1) (dpAll_of rs _ (by rw [h2, List.length_map, List.length_range]) fun i r d a b => ?_)
  have il : i < n := by rw [← h2]; exact (List.getElem?_eq_some_iff.mp a).1
  rw [List.getElem?_map, List.getElem?_range il] at b
  cases (Option.some.inj b)
  exact .lst (.of (h3 i r a)) (Rd.dpAll_ints _)
theorem tblL_lay (F : Nat → Nat → Nat) (n : Nat) : ∀ l : List Nat, PyData.canLayAll0 (l.map fun i => rowLD (F i) n) = true
  | [] => rfl
  | i :: l => by
    show (PyData.canLay0 (rowLD (F i) n) && PyData.canLayAll0 (l.map fun i => rowLD (F i) n)) = true
    rw [tblL_lay F n l, Bool.and_true]
    exact Rd.canLay_ints _
theorem tblL_depth (F : Nat → Nat → Nat) (n : Nat) : ∀ l : List Nat, PyData.depthAll (l.map fun i => rowLD (F i) n) ≤ 1
  | [] => Nat.le_of_ble_eq_true rfl
  | i :: l => by
    have h := tblL_depth F n l
    show max (PyData.depth (rowLD (F i) n)) (PyData.depthAll (l.map fun i => rowLD (F i) n)) ≤ 1
    have : PyData.depth (rowLD (F i) n) = 1 := by
      show PyData.depthAll _ + 1 = 1
      rw [Rd.depth_ints]
    omega
theorem tblLD_lay (F : Nat → Nat → Nat) (n : Nat) : PyData.canLay0 (tblLD F n) = true := tblL_lay F n _
theorem tblLD_depth (F : Nat → Nat → Nat) (n : Nat) : PyData.depth (tblLD F n) ≤ 2 := Nat.succ_le_succ (tblL_depth F n _)
theorem two_depth (F G : Nat → Nat → Nat) (n m : Nat) (r : List PyData) (e : PyData.depthAll r ≤ 2) : PyData.depthAll (tblLD F n :: tblLD G m :: r) ≤ 2 := by
  have h1 := tblLD_depth F n
  have h2 := tblLD_depth G m
  show max (PyData.depth (tblLD F n)) (max (PyData.depth (tblLD G m)) (PyData.depthAll r)) ≤ 2
  omega
theorem two_lay (F G : Nat → Nat → Nat) (n m : Nat) (r : List PyData) (e : PyData.canLayAll0 r = true) : PyData.canLayAll0 (tblLD F n :: tblLD G m :: r) = true := by
  show (PyData.canLay0 (tblLD F n) && (PyData.canLay0 (tblLD G m) && PyData.canLayAll0 r)) = true
  rw [tblLD_lay, tblLD_lay, e]
  rfl
theorem eqv_rowsL : ∀ (xs ys : List (List Int)), PyData.eqvAll (xs.map fun l => PyData.list (l.map PyData.int)) (ys.map fun l => PyData.list (l.map PyData.int)) = decide (xs = ys)
  | [], [] => rfl
  | [], _ :: _ => rfl
  | _ :: _, [] => rfl
  | x :: xs, y :: ys => by
    show (PyData.eqvAll (x.map PyData.int) (y.map PyData.int) && PyData.eqvAll (xs.map fun l => PyData.list (l.map PyData.int)) (ys.map fun l => PyData.list (l.map PyData.int))) = _
    rw [eqv_rowsL xs ys, Rd.eqv_ints, Bool.eq_iff_iff]
    simp
theorem tblLD_rows (F : Nat → Nat → Nat) (n : Nat) : tblLD F n = .list ((rowsI F n).map fun l => PyData.list (l.map PyData.int)) := by
  unfold tblLD rowsI rowLD
  rw [List.map_map]
  rfl
theorem eqv_tblLD (F G : Nat → Nat → Nat) (n m : Nat) : PyData.eqv (tblLD F n) (tblLD G m) = decide (rowsI F n = rowsI G m) := by
  rw [tblLD_rows, tblLD_rows]
  exact eqv_rowsL _ _
theorem tblLD_shaped (F : Nat → Nat → Nat) (n : Nat) : SeqAt.shaped (tblLD F n) = true := shaped_of (tblLD_lay F n) (Nat.le_trans (tblLD_depth F n) (by decide))
/-- a told reckoning as a list, as data -/
def toldD (J M : Nat → Nat → Nat) (n z o : Nat) : PyData := .list [tblLD J n, tblLD M n, .int (z : Nat), .int (o : Nat)]
theorem toldD_shaped (J M : Nat → Nat → Nat) (n z o : Nat) : SeqAt.shaped (toldD J M n z o) = true :=
  shaped_of (two_lay _ _ _ _ _ rfl) (Nat.succ_le_succ (Nat.le_trans (two_depth _ _ _ _ _ (by show max 0 (max 0 0) ≤ 2; decide)) (by decide)))
theorem toldDp {H : Hp} {a j p n z o : Nat} {J M : Nat → Nat → Nat} (h : H a = some (.lst [.ref j, .ref p, .int (z : Nat), .int (o : Nat)])) (hj : TblL H j n J) (hp : TblL H p n M) : Dp K H (.ref a) (toldD J M n z o) := .lst (.of h) (.cons hj.dp (.cons hp.dp (.cons (.int _) (.cons (.int _) .nil))))
theorem eqv_toldD (J M J' M' : Nat → Nat → Nat) (n m z o z' o' : Nat) : PyData.eqv (toldD J M n z o) (toldD J' M' m z' o') = decide (rowsI J n = rowsI J' m ∧ rowsI M n = rowsI M' m ∧ z = z' ∧ o = o') := by
  show (PyData.eqv (tblLD J n) (tblLD J' m) && (PyData.eqv (tblLD M n) (tblLD M' m) && (PyData.eqv (.int (z : Nat)) (.int (z' : Nat)) && (PyData.eqv (.int (o : Nat)) (.int (o' : Nat)) && true)))) = _
  rw [eqv_tblLD, eqv_tblLD, show PyData.eqv (.int (z : Nat)) (.int (z' : Nat)) = decide (((z : Nat) : Int) = ((z' : Nat) : Int)) from rfl, show PyData.eqv (.int (o : Nat)) (.int (o' : Nat)) = decide (((o : Nat) : Int) = ((o' : Nat) : Int)) from rfl, Bool.and_true, Bool.eq_iff_iff]
  simp only [Bool.and_eq_true, decide_eq_true_iff, Int.ofNat_inj]

end
end W

namespace W
open PySem PySem.Spec PyProof.Rows L2
section
variable {P : Program} {w : World} {K : PySem.W.Frag} {mg : Str → Option Value} {base : Heap}
/-! ### rows and tables built by comprehensions -/
def natL (xs : List Nat) : List V := (xs.map fun i : Nat => (i : Int)).map V.int
theorem natL_len (P : List Nat) : (natL P).length = P.length := by
  unfold natL
  rw [List.length_map, List.length_map]
theorem natL_get {P : List Nat} {i : Nat} {x : V} (h : (natL P)[i]? = some x) : ∃ j, P[i]? = some j ∧ x = .int (j : Nat) := by
  unfold natL at h
  rw [List.map_map, List.getElem?_map] at h
  cases e : P[i]? with
  | none => rw [e] at h; cases h
  | some j => rw [e] at h; exact ⟨j, rfl, (Option.some.inj h).symm⟩
theorem natL_at {P : List Nat} {i j : Nat} (h : P[i]? = some j) : (natL P)[i]? = some (.int (j : Nat)) := by
  unfold natL
  rw [List.getElem?_map, List.getElem?_map, h]
  rfl
theorem natL_snoc (P : List Nat) (y : Nat) : natL P ++ [V.int (y : Nat)] = natL (P ++ [y]) := by
  unfold natL
  rw [List.map_append, List.map_append]
  rfl
theorem rowV_nat (f : Nat → Nat) (n : Nat) : rowV f n = natL ((List.range n).map f) := by
  unfold rowV natL
  rw [List.map_map, List.map_map, List.map_map]
  rfl
theorem rg0 {i : Nat} {v : V} (h : v = V.int (0 + (i : Int))) : v = .int (i : Nat) := by rw [h, Int.zero_add]
theorem filt_step' {f : Nat → Bool} {i : Nat} : (List.range (i + 1)).filter f = (List.range i).filter f ++ if f i = true then [i] else [] := by
  rw [List.range_succ, List.filter_append]
  congr 1
  cases e : f i <;> simp [e]
theorem flt_no {f : Nat → Bool} {i : Nat} (h : f i = false) : natL ((List.range i).filter f) = natL ((List.range (i + 1)).filter f) := by
  rw [filt_step', if_neg (by rw [h]; decide), List.append_nil]
theorem flt_yes {f : Nat → Bool} {i : Nat} (h : f i = true) : natL ((List.range i).filter f) ++ [V.int (i : Nat)] = natL ((List.range (i + 1)).filter f) := by
  rw [filt_step', if_pos h, natL_snoc]
/-- [f(j) for ..]: numbers -/
theorem lcNums {J : It} {n : Nat} {G : Hp → Prop} {Y : Nat → Hp → V → Hp → Prop} {σ : L2.St} {g : TG} {tt : TT} {te : TE} {vs : List Nat} {H1 : Hp} {Q : VK} (w : Walk J n G Y) (hG : ∀ H, Same H1 H → G H) (f : Nat → Nat) (n1 : n ≤ 1000)
    (hs : ∀ (j : Nat) (x : V) (H H' : Hp) (Q4 : VK) (P5 : Hp → Prop), j < n → Same H1 H → Y j H x H' → (∀ H4, Same H H4 → Q4 (.int (f j : Nat)) H4) → g x (wipe σ vs) H' fun σ2 H2 => wipe σ2 vs = wipe σ vs ∧ tt σ2 H2 fun b H3 => if b = true then te σ2 H3 Q4 else P5 H3)
    (hd : ∀ (D : Addr) (H : Hp), H1 D = none → Same H1 H → H D = some (.lst (rowV f n)) → Q (.ref D) H) : Rd.Lc J g tt te vs σ H1 Q := by
  refine Rd.lcS w hG (fun D i acc _ => acc = rowV f i) (fun _ _ _ _ _ => rfl) ?_ (fun D acc H nD hD sm e => hd D H nD sm (e ▸ hD))
  rintro D i x H H' acc nD hi hD sm rfl y
  refine hs i x H H' _ _ hi sm y fun H4 s4 => ?_
  exact Rd.lcPush (s4 _ _ hD) nD (sm.trans s4) (by rw [rowV_len, sizeLine_eq]; omega) fun _ _ _ => rowV_snoc f i
/-- rows at rs, laid as mk -/
def RowsAt (H : Hp) (mk : List V → HO) (rs : List Addr) (F : Nat → Nat → Nat) (n m : Nat) : Prop := rs.length = n ∧ ∀ i r, rs[i]? = some r → H r = some (mk (rowV (F i) m))
/-- [row for ..]: new rows of numbers -/
theorem lcTbl {J : It} {n : Nat} {G : Hp → Prop} {Y : Nat → Hp → V → Hp → Prop} {σ : L2.St} {g : TG} {tt : TT} {te : TE} {vs : List Nat} {H1 : Hp} {Q : VK} (w : Walk J n G Y) (hG : ∀ H, Same H1 H → G H) (mk : List V → HO) (F : Nat → Nat → Nat) (m : Nat) (n1 : n ≤ 1000)
    (hs : ∀ (i : Nat) (x : V) (H H' : Hp) (Q4 : VK) (P5 : Hp → Prop), i < n → Same H1 H → Y i H x H' → (∀ l H4, Same H H4 → H l = none → H4 l = some (mk (rowV (F i) m)) → Q4 (.ref l) H4) → g x (wipe σ vs) H' fun σ2 H2 => wipe σ2 vs = wipe σ vs ∧ tt σ2 H2 fun b H3 => if b = true then te σ2 H3 Q4 else P5 H3)
    (hd : ∀ (D : Addr) (rs : List Addr) (H : Hp), H1 D = none → Same H1 H → H D = some (.lst (rs.map V.ref)) → RowsAt H mk rs F n m → Q (.ref D) H) : Rd.Lc J g tt te vs σ H1 Q := by
  refine Rd.lcS w hG (fun D i acc H => ∃ rs : List Addr, acc = rs.map V.ref ∧ (∀ r ∈ rs, r ≠ D) ∧ RowsAt H mk rs F i m) (fun _ _ _ _ _ => ⟨[], rfl, fun _ h => by simp at h, rfl, fun _ _ h => by simp at h⟩) ?_ (fun D acc H nD hD sm ⟨rs, e, _, h⟩ => hd D rs H nD sm (e ▸ hD) h)
  rintro D i x H H' acc nD hi hD sm ⟨rs, rfl, rD, rl, hR⟩ y
  refine hs i x H H' _ _ hi sm y fun l H4 s4 nl g4 => ?_
  have lD : l ≠ D := (ne_of_none hD nl).symm
  refine Rd.lcPush (s4 _ _ hD) nD (sm.trans s4) (by rw [List.length_map, sizeLine_eq]; omega) fun G3 g3 off3 => ?_
  refine ⟨rs ++ [l], by rw [List.map_append]; rfl, fun r m => ?_, by rw [List.length_append, rl]; rfl, fun j r e => ?_⟩
  · rcases List.mem_append.mp m with m | m
    · exact rD r m
    · rw [List.mem_singleton.mp m]; exact lD
  · rcases Nat.lt_or_ge j rs.length with c | c
    · rw [List.getElem?_append_left c] at e
      rw [off3 r (rD r (List.mem_of_getElem? e))]
      exact s4 _ _ (hR j r e)
    · rw [List.getElem?_append_right c] at e
      have : j = rs.length := by
        have := (List.getElem?_eq_some_iff.mp e).1
        rw [List.length_singleton] at this
        omega
      subst this
      rw [Nat.sub_self] at e
      cases (Option.some.inj e)
      rw [off3 l lD, rl]
      exact g4
theorem RowsAt.same {H H' : Hp} {mk : List V → HO} {rs : List Addr} {F : Nat → Nat → Nat} {n m : Nat} (h : RowsAt H mk rs F n m) (s : Same H H') : RowsAt H' mk rs F n m := ⟨h.1, fun i r e => s _ _ (h.2 i r e)⟩
theorem RowsAt.lists {H : Hp} {D : Addr} {rs : List Addr} {F : Nat → Nat → Nat} {n : Nat} (hD : H D = some (.lst (rs.map V.ref))) (h : RowsAt H HO.lst rs F n n) : TblL H D n F := ⟨rs, hD, h.1, h.2⟩
theorem RowsAt.tups {K : PySem.W.Frag} {H : Hp} {D : Addr} {rs : List Addr} {F : Nat → Nat → Nat} {n : Nat} (hD : H D = some (.tup (rs.map V.ref))) (h : RowsAt H HO.tup rs F n n) : TblT K H D n F := ⟨rs, .of hD, h.1, fun i r e => .of (h.2 i r e)⟩
/-- [j for j in .. if ..] -/
theorem lcFilt {J : It} {n : Nat} {G : Hp → Prop} {Y : Nat → Hp → V → Hp → Prop} {σ : L2.St} {g : TG} {tt : TT} {te : TE} {vs : List Nat} {H1 : Hp} {Q : VK} (w : Walk J n G Y) (hG : ∀ H, Same H1 H → G H) (f : Nat → Bool) (n1 : n ≤ 1000)
    (hs : ∀ (j : Nat) (x : V) (H H' : Hp) (Q4 : VK) (P5 : Hp → Prop), j < n → Same H1 H → Y j H x H' → (∀ H4, Same H H4 → f j = true → Q4 (.int (j : Nat)) H4) → (∀ H4, Same H H4 → f j = false → P5 H4) → g x (wipe σ vs) H' fun σ2 H2 => wipe σ2 vs = wipe σ vs ∧ tt σ2 H2 fun b H3 => if b = true then te σ2 H3 Q4 else P5 H3)
    (hd : ∀ (D : Addr) (H : Hp), H1 D = none → Same H1 H → H D = some (.lst (natL ((List.range n).filter f))) → Q (.ref D) H) : Rd.Lc J g tt te vs σ H1 Q := by
  refine Rd.lcS w hG (fun D i acc _ => acc = natL ((List.range i).filter f)) (fun _ _ _ _ _ => rfl) ?_ (fun D acc H nD hD sm e => hd D H nD sm (e ▸ hD))
  rintro D i x H H' acc nD hi hD sm rfl y
  have fl := List.length_filter_le f (List.range i)
  rw [List.length_range] at fl
  refine hs i x H H' _ _ hi sm y (fun H4 s4 e => ?_) fun H4 s4 e => ?_
  · exact Rd.lcPush (s4 _ _ hD) nD (sm.trans s4) (by rw [natL_len, sizeLine_eq]; omega) fun _ _ _ => flt_yes e
  · exact ⟨_, s4 _ _ hD, sm.trans s4, flt_no e⟩
theorem walk_nat {K : PySem.W.Frag} {a : Addr} {n : Nat} : Walk (Itl K a) n (fun H => SqL K H a (natL (List.range n))) (YAt (natL (List.range n))) := by
  have h : Walk (Itl K a) (natL (List.range n)).length (fun H => SqL K H a (natL (List.range n))) (YAt (natL (List.range n))) := walk_list
  rwa [natL_len, List.length_range] at h
theorem at_nat {n i : Nat} {x : V} (h : (natL (List.range n))[i]? = some x) : i < n ∧ x = .int (i : Nat) := by
  obtain ⟨j, e, rfl⟩ := natL_get h
  have l := (List.getElem?_eq_some_iff.mp e).1
  rw [List.length_range] at l
  rw [List.getElem?_range l] at e
  cases e
  exact ⟨l, rfl⟩
theorem maxN (i j : Nat) : max (i : Int) (j : Int) = ((Mr.mx i j : Nat) : Int) := by
  unfold Mr.mx
  omega
theorem tup_off {H H' : Hp} {t : Addr} {ys : List V} (ht : H t = some (.lst ys)) (off : ∀ c, c ≠ t → ∀ u, H c = some u → H' c = some u) {r : Addr} {xs : List V} (h : SqT K H r xs) : SqT K H' r xs := by
  rcases h with (h | ⟨o, h⟩) | h
  · exact .inl (.inl (off r (ne_of h ht (fun e => nomatch e)) _ h))
  · exact .inl (.inr ⟨o, off r (ne_of h ht (fun e => nomatch e)) _ h⟩)
  · exact .inr h
theorem row_ne_tape {xs : List Nat} {c : Addr} {rest : List V} : natL xs ≠ V.ref c :: rest := by
  cases xs with
  | nil => exact fun e => nomatch e
  | cons x xs => exact fun e => nomatch e
theorem refs_ne_tape {rs : List Addr} {c : Addr} {i : Int} {rest : List V} : rs.map V.ref ≠ V.ref c :: .int i :: rest := by
  match rs with
  | [] => exact fun e => nomatch e
  | [_] => exact fun e => nomatch e
  | _ :: _ :: _ => exact fun e => nomatch e
theorem TblT.tape {H H' : Hp} {t c a : Addr} {n : Nat} {F : Nat → Nat → Nat} (ht : Tape H t c) (off : Rd.But t H H') (h : TblT K H a n F) : TblT K H' a n F := by
  obtain ⟨ns, x, y, z, u, _, g, _⟩ := ht
  obtain ⟨rs, h1, h2, h3⟩ := h
  have of : ∀ c, c ≠ t → ∀ u, H c = some u → H' c = some u := fun c nc u e => off c u nc e
  exact ⟨rs, tup_off g of h1, h2, fun i r e => tup_off g of (h3 i r e)⟩
theorem TblL.tape {H H' : Hp} {t c a : Addr} {n : Nat} {F : Nat → Nat → Nat} (ht : Tape H t c) (off : Rd.But t H H') (h : TblL H a n F) : TblL H' a n F := by
  obtain ⟨ns, x, y, z, u, _, g, _⟩ := ht
  obtain ⟨rs, h1, h2, h3⟩ := h
  refine ⟨rs, off _ _ (ne_of h1 g fun e => refs_ne_tape (HO.lst.inj e)) h1, h2, fun i r e => off _ _ (ne_of (h3 i r e) g fun e => ?_) (h3 i r e)⟩
  rw [rowV_nat] at e
  exact row_ne_tape (HO.lst.inj e)

end
end W

namespace W
open PySem PySem.Spec PyProof.Rows L2
section
variable {P : Program} {w : World} {K : PySem.W.Frag} {mg : Str → Option Value} {base : Heap}
/-! ### roads of two webs -/
open Mpt (Road roadAt oneR otherR turn mp cnt stepM unitM idx)
/-- the road r stands as a tuple at q -/
def RdAt (H : Hp) (q : Addr) (r : Road) : Prop := H q = some (.tup [.int (r.1 : Nat), .str ⟨#[r.2.1]⟩, .int (r.2.2 : Nat)])
def TK (H H' : Hp) : Prop := ∀ b xs, H b = some (.tup xs) → H' b = some (.tup xs)
theorem TK.of {H H' : Hp} (s : Same H H') : TK H H' := fun b xs => s b _
theorem TK.trans {H H1 H2 : Hp} (a : TK H H1) (b : TK H1 H2) : TK H H2 := fun c xs e => b c xs (a c xs e)
theorem TK.off {H H1 H2 : Hp} {l : Addr} {xs : List V} (a : TK H H1) (g : H1 l = some (.lst xs)) (off : ∀ b, b ≠ l → H2 b = H1 b) : TK H H2 := fun c ys e => by
  have := a c ys e
  rw [off c (ne_of this g (fun e => nomatch e))]
  exact this
theorem rdats_keep {H H' : Hp} (k : TK H H') {qs : List Addr} {rs : List Road} (h : Paired (RdAt H) qs rs) : Paired (RdAt H') qs rs := paired_mono h fun _ _ h => k _ _ h
/-- roads as a list, as a tuple -/
def RL (H : Hp) (l : Addr) (rs : List Road) : Prop := ∃ qs : List Addr, H l = some (.lst (qs.map V.ref)) ∧ Paired (RdAt H) qs rs
def RT (H : Hp) (l : Addr) (rs : List Road) : Prop := ∃ qs : List Addr, H l = some (.tup (qs.map V.ref)) ∧ Paired (RdAt H) qs rs
theorem RL.keep {H H' : Hp} {l : Addr} {rs : List Road} (h : RL H l rs) (k : TK H H') (e : H' l = H l) : RL H' l rs := let ⟨qs, h1, h2⟩ := h; ⟨qs, e.trans h1, rdats_keep k h2⟩
theorem RL.same {H H' : Hp} {l : Addr} {rs : List Road} (h : RL H l rs) (s : Same H H') : RL H' l rs := let ⟨qs, h1, h2⟩ := h; ⟨qs, s _ _ h1, rdats_keep (.of s) h2⟩
theorem RT.keep {H H' : Hp} {l : Addr} {rs : List Road} (h : RT H l rs) (k : TK H H') : RT H' l rs := let ⟨qs, h1, h2⟩ := h; ⟨qs, k _ _ h1, rdats_keep k h2⟩
theorem RL.lst {H : Hp} {l : Addr} {rs : List Road} (h : RL H l rs) : ∃ xs, H l = some (.lst xs) ∧ xs.length = rs.length := let ⟨qs, h1, h2⟩ := h; ⟨_, h1, by rw [List.length_map, h2.length]⟩
theorem RL.push {H H' : Hp} {l q : Addr} {rs : List Road} {r : Road} {xs : List V} (h : RL H l rs) (g : H l = some (.lst xs)) (hq : RdAt H q r) (g' : H' l = some (.lst (xs ++ [.ref q]))) (off : ∀ b, b ≠ l → H' b = H b) : RL H' l (rs ++ [r]) := by
  obtain ⟨qs, h1, h2⟩ := h
  rw [h1] at g
  cases g
  have k : TK H H' := TK.off (H := H) (fun _ _ e => e) h1 off
  exact ⟨qs ++ [q], by rw [g', List.map_append]; rfl, (rdats_keep k h2).snoc (k _ _ hq)⟩
theorem road_at {cs : List Nat} {b i c : Nat} (hi : cs[i]? = some c) : roadAt cs (b * cs.length + i) = (i + (cs.length + 1) * b, c, i + 1 + (cs.length + 1) * b) := by
  have lt := (List.getElem?_eq_some_iff.mp hi).1
  have n0 : 0 < cs.length := by omega
  have e1 : (b * cs.length + i) % cs.length = i := by rw [Nat.add_comm, Nat.add_mul_mod_self_right, Nat.mod_eq_of_lt lt]
  have e2 : (b * cs.length + i) / cs.length = b := by rw [Nat.add_comm, Nat.add_mul_div_right _ _ n0, Nat.div_eq_of_lt lt, Nat.zero_add]
  unfold roadAt
  rw [e1, e2, List.getD_eq_getElem?_getD, hi]
  rfl
def upR (cs : List Nat) (k : Nat) : List Road := (List.range k).map (roadAt cs)
theorem upR_succ (cs : List Nat) (k : Nat) : upR cs (k + 1) = upR cs k ++ [roadAt cs k] := by
  unfold upR
  rw [List.range_succ, List.map_append]
  rfl
theorem upR_len (cs : List Nat) (k : Nat) : (upR cs k).length = k := by unfold upR; rw [List.length_map, List.length_range]
def sp_two_copies (K : PySem.W.Frag) : Sp := fun vs H Q _ => ∃ (q : Addr) (z : Str) (S : List Nat), vs = [.str z, .ref q] ∧ H q = some (.tup (natV S)) ∧ z.length ≤ 1000 ∧
  ∀ (p t1 t2 : Addr) H', Same H H' → H p = none → H' p = some (.tup [.int ((2 * (z.length + 1) : Nat) : Int), .ref t1, .ref t2]) → RT H' t1 (oneR z.cps.toList) → RT H' t2 (otherR z.cps.toList S) → Q (.ref p) H'
theorem ok_two_copies (T : Txt K mg) : FnOk P w K mg base CX0 1 T.f_two_copies T.fd_two_copies ["word", "spots"] (sp_two_copies K) := by
  refine T.F_two_copies.ok sc_two_copies (fun vs H Q E h => ?_) (fun cdv A outer s H vs Q E hr h => ?_)
  · obtain ⟨q, z, S, rfl, _⟩ := h
    rfl
  · obtain ⟨q, z, S, rfl, gq, z1, k⟩ := h
    refine ⟨_, (pss_cons (ps_set (i := 2) sc_two_copies.nd rfl (.inr rfl) (pe_op op_add (pe_callB (id := "len") (r := _) Rd.c_lenS (by rfl) T.n_len (by decide +kernel) (pa_cons (pv 0) pa_nil)) pe_int))
  (pss_cons (ps_set (i := 3) sc_two_copies.nd rfl (.inl rfl) (pe_lst pa_nil))
  (pss_cons (ps_set (i := 4) sc_two_copies.nd rfl (.inl rfl) (pe_lst pa_nil))
  (pss_cons (ps_for PassesOwn.never rfl (pi_tup (pe_tup (pa_cons pe_int (pa_cons pe_int pa_nil)))) (pg_name (i := 5) sc_two_copies.nd rfl (.inl rfl))
  (pss_one (ps_for PassesOwn.never rfl (Bs.pi_enumS (by rfl) T.n_enumerate (pa_cons (pv 0) pa_nil)) (pg_tup rfl (pgs_cons (pg_name (i := 6) sc_two_copies.nd rfl (.inl rfl)) (pgs_cons (pg_name (i := 7) sc_two_copies.nd rfl (.inl rfl)) pgs_nil)))
  (pss_cons (ps_set (i := 8) sc_two_copies.nd rfl (.inl rfl) (pe_tup (pa_cons (pe_op op_add (pv 6) (pe_op op_mul (pv 2) (pv 5))) (pa_cons (pe_op op_add (pe_op op_add (pv 6) pe_int) (pe_op op_mul (pv 2) (pv 5))) pa_nil))))
  (pss_cons (ps_expr (pe_bm PySem.F.plainAttrs_list PySem.F.slot_list_append PySem.F.type_list_append mt_append (pv 3) (pa_cons (pe_tup (pa_cons (pe_ix (r := rIxT K) ix_tup (pv 8) pe_int (fun _ _ => rfl)) (pa_cons (pv 7) (pa_cons (pe_ix (r := rIxT K) ix_tup (pv 8) pe_int (fun _ _ => rfl)) pa_nil)))) pa_nil)))
  (pss_cons (ps_setLc (i := 9) (own := [("at", 10)]) (g := gName 10) (tt := tYes) rfl sc_two_copies.nd rfl rfl (sw_true rfl rfl rfl (by decide +kernel)) (pi_tup (pv 8)) (blkOk_by (own := [("at", 10)]) (N := ["word", "spots", "many", "one", "other", "copy", "spot", "letter", "ends", "turned", "at"]) (sc := defScope s_two_copies) (by decide +kernel)) (fun _ _ _ _ _ => (pg_name (i := 10) sc_two_copies.nd rfl (.inl rfl))) (fun _ _ _ _ _ => pts_nil) (fun _ _ _ _ _ => (pe_ifExp (pt_cmpR (r := rIn K false) op_in_seq (pe_op op_mod (pv 10) (pv 2)) (pv 1) (by rfl)) (pv 10) (pe_op op_mod (pe_op op_add (pv 10) (pv 2)) (pe_op op_mul pe_int (pv 2))))))
  (pss_one (ps_expr (pe_bm PySem.F.plainAttrs_list PySem.F.slot_list_append PySem.F.type_list_append mt_append (pv 4) (pa_cons (pe_tup (pa_cons (pe_ix (r := rIxL K) ix_list (pv 9) pe_int (fun _ _ => rfl)) (pa_cons (pv 7) (pa_cons (pe_ix (r := rIxL K) ix_list (pv 9) pe_int (fun _ _ => rfl)) pa_nil)))) pa_nil))))))))))
  (pss_one (ps_ret (pe_tup (pa_cons (pe_op op_mul pe_int (pv 2)) (pa_cons (pe_callTy (T := "tuple") (r := Rd.nTupOf K) Rd.c_tupOf (by rfl) T.n_tuple (by decide +kernel) (pa_cons (pv 3) pa_nil)) (pa_cons (pe_callTy (T := "tuple") (r := Rd.nTupOf K) Rd.c_tupOf (by rfl) T.n_tuple (by decide +kernel) (pa_cons (pv 4) pa_nil)) pa_nil)))))))))), ?_⟩
    have zs : z.length ≤ sizeLine := by rw [sizeLine_eq]; omega
    have zl : z.cps.toList.length = z.length := Array.length_toList
    obtain ⟨cs, ecs⟩ : ∃ cs, cs = z.cps.toList := ⟨_, rfl⟩
    rw [← ecs] at zl
    walk_at "rd"
    refine Rd.lenStr zs ?_
    walk_at "rd"
    rw [show (z.length : Int) + 1 = ((z.length + 1 : Nat) : Int) by omega]
    refine ⟨Nat.zero_le _, Rd.new fun l1 G1 n1 g1 s1 => ?_⟩
    walk_at "rd"
    refine ⟨Nat.zero_le _, Rd.new fun l2 G2 n2 g2 s2 => ?_⟩
    have l12 : l1 ≠ l2 := ne_of_none g1 n2
    have n2' : H l2 = none := s1.free n2
    walk_at "rd"
    refine Rd.forS ?_
    walk_at "rd"
    refine ⟨Nat.le_of_ble_eq_true rfl, Rd.new fun c0 G3 n3 g3 s3 => ?_⟩
    walk_at "rd"
    have s13 := (s1.trans s2).trans s3
    refine ⟨⟨_, .of g3⟩, for_tup (K := K) (a := c0) (xs := [V.int 0, V.int 1]) (fun b σ H' => ∃ o5 o6 o7 o8 o9 : Option V, σ = [some (.str z), some (.ref q), some (.int ((z.length + 1 : Nat) : Int)), some (.ref l1), some (.ref l2), o5, o6, o7, o8, o9, none] ∧ Same H H' ∧ TK G3 H' ∧ RL H' l1 (upR cs (b * cs.length)) ∧ RL H' l2 ((upR cs (b * cs.length)).map (mp (turn cs.length S))))
      ⟨_, _, _, _, _, rfl, s13, .of (Same.refl _), ⟨[], s3 _ _ (s2 _ _ g1), by rw [Nat.zero_mul]; exact .nil⟩, ⟨[], s3 _ _ g2, by rw [Nat.zero_mul]; exact .nil⟩⟩ (fun i σ H' _ ⟨_, _, _, _, _, _, _, t, _⟩ => .of (t _ _ g3)) ?_ ?_⟩
    · rintro b x _ H1 hb ⟨o5, o6, o7, o8, o9, rfl, s1', tk1, R1, R2⟩
      obtain ⟨rfl, b2⟩ : x = .int (b : Int) ∧ b < 2 := by
        match b, hb with
        | 0, h => cases h; exact ⟨rfl, by decide⟩
        | 1, h => cases h; exact ⟨rfl, by decide⟩
        | b + 2, h => cases h
      walk_at "rd"
      refine Rd.forS ?_
      unfold Bs.iEnumS
      walk_at "rd"
      refine ⟨z, rfl, ?_⟩
      refine Bs.for_enumS (fun i σ H' => ∃ o6 o7 o8 o9 : Option V, σ = [some (.str z), some (.ref q), some (.int ((z.length + 1 : Nat) : Int)), some (.ref l1), some (.ref l2), some (.int (b : Int)), o6, o7, o8, o9, none] ∧ Same H H' ∧ TK G3 H' ∧ RL H' l1 (upR cs (b * cs.length + i)) ∧ RL H' l2 ((upR cs (b * cs.length + i)).map (mp (turn cs.length S))))
        ⟨_, _, _, _, rfl, s1', tk1, R1, R2⟩ ?_ ?_
      · rintro i c _ H2 T hc ⟨o6, o7, o8, o9, rfl, s2', tk2, R1, R2⟩ nT
        have hcs : cs[i]? = some c := by rw [ecs, Array.getElem?_toList]; exact hc
        have il := (List.getElem?_eq_some_iff.mp hcs).1
        have er := road_at (b := b) hcs
        have mb : (z.length + 1) * b ≤ (z.length + 1) * 1 := Nat.mul_le_mul_left _ (by omega)
        have eb : ((z.length + 1 : Nat) : Int) * (b : Int) = (((z.length + 1) * b : Nat) : Int) := (Int.natCast_mul _ _).symm
        rw [zl] at er
        obtain ⟨mq, emq⟩ : ∃ mq, mq = (z.length + 1) * b := ⟨_, rfl⟩
        rw [← emq] at er mb eb
        have sT := Rd.same_upd (o := .tup [.int (i : Nat), .str ⟨#[c]⟩]) nT
        refine Rd.tupT (.of upd_same) rfl ?_
        generalize upd H2 T (.tup [.int (i : Nat), .str ⟨#[c]⟩]) = H3 at sT
        have tk3 := tk2.trans (.of sT)
        have s3' := s2'.trans sT
        replace R1 := R1.same sT
        replace R2 := R2.same sT
        walk_at "rd"
        refine Rd.iC (.inl ⟨by omega, by omega⟩) ?_
        rw [eb]
        walk_at "rd"
        refine Rd.iC (.inl ⟨by omega, by omega⟩) ?_
        rw [eb]
        walk_at "rd"
        rw [show (i : Int) + (mq : Int) = ((i + mq : Nat) : Int) by omega, show (i : Int) + 1 + (mq : Int) = ((i + 1 + mq : Nat) : Int) by omega]
        refine ⟨Nat.le_of_ble_eq_true rfl, Rd.new fun e H4 n4 g4 s4 => ?_⟩
        walk_at "rd"
        obtain ⟨xs1, x1, xl1⟩ := (R1.same s4).lst
        refine Rd.tyL (.of x1) ?_
        walk_at "rd"
        refine Rd.ixT (.of g4) (Rd.atI_of (by decide) rfl) ?_
        walk_at "rd"
        refine Rd.ixT (.of g4) (Rd.atI_of (by decide) rfl) ?_
        walk_at "rd"
        refine ⟨Nat.le_of_ble_eq_true rfl, Rd.new fun r1 H5 n5 g5 s5 => ?_⟩
        have few : (upR cs (b * cs.length + i)).length ≤ 2100 := by
          have : b * cs.length ≤ 1 * cs.length := Nat.mul_le_mul_right _ (by omega)
          rw [upR_len]
          omega
        walk_at "rd"
        refine Rd.app (s5 _ _ x1) (by rw [xl1, sizeLine_eq]; omega) fun H6 g6 off6 => ?_
        have R5 := (R1.same s4).same s5
        have R6 := R5.push (s5 _ _ x1) (show RdAt H5 r1 (i + mq, c, i + 1 + mq) from g5) g6 off6
        have tk6 : TK H3 H6 := ((TK.of s4).trans (.of s5)).off (s5 _ _ x1) off6
        have g46 : H6 e = some (.tup [.int ((i + mq : Nat) : Int), .int ((i + 1 + mq : Nat) : Int)]) := ((TK.of s5).off (s5 _ _ x1) off6) _ _ g4
        have s6' : Same H H6 := Rd.same_off ((s3'.trans s4).trans s5) n1 off6
        have R26 : RL H6 l2 _ := ((R2.same s4).same s5).keep (TK.off (H := H5) (fun _ _ e => e) (s5 _ _ x1) off6) (off6 _ l12.symm)
        walk_at "rd"
        have gq6 := s6' _ _ gq
        refine ⟨⟨_, .of g46⟩, Rd.lcS walk_tup (fun _ s => .of (s _ _ g46)) (fun D j acc _ => acc = natV (([i + mq, i + 1 + mq].take j).map (turn cs.length S))) (fun _ _ _ _ _ => rfl) ?_ ?_⟩
        · rintro D j x _ G acc nD hj hD sm rfl ⟨rfl, hx⟩
          obtain ⟨a, ha, rfl⟩ : ∃ a : Nat, [i + mq, i + 1 + mq][j]? = some a ∧ x = .int (a : Int) := by
            match j, hx with
            | 0, h => cases h; exact ⟨_, rfl, rfl⟩
            | 1, h => cases h; exact ⟨_, rfl, rfl⟩
            | j + 2, h => cases h
          have al : a ≤ 3000 := by
            match j, ha with
            | 0, h => cases h; omega
            | 1, h => cases h; omega
            | j + 2, h => cases h
          have push : ∀ v : Nat, v = turn cs.length S a → Rd.LcPush D H6 (fun j acc _ => acc = natV (([i + mq, i + 1 + mq].take j).map (turn cs.length S))) j (.int (v : Int)) G := fun v ev => by
            refine Rd.lcPush hD nD sm (by rw [natV_len, List.length_map, List.length_take, sizeLine_eq]; simp; omega) fun G4 _ _ => ?_
            rw [Rd.take_snoc ha, List.map_append, natV_app, ev]
            rfl
          walk_at "rd"
          refine ⟨rfl, Rd.tyes ?_⟩
          walk_at "rd"
          refine Rd.iC (by omega) ?_
          rw [← Int.natCast_emod]
          walk_at "rd"
          refine Rd.inIntsY (.inr (.of (sm _ _ gq6))) ?_
          walk_at "rd"
          by_cases m : a % (z.length + 1) ∈ S
          · rw [if_pos (mem_nat.mpr m)]
            walk_at "rd"
            refine push a ?_
            unfold turn
            rw [zl, if_pos m]
          · rw [if_neg (fun h => m (mem_nat.mp h))]
            walk_at "rd"
            refine Rd.iC (.inl ⟨by omega, by omega⟩) ?_
            rw [show (a : Int) + ((z.length + 1 : Nat) : Int) = ((a + (z.length + 1) : Nat) : Int) by omega, show (2 : Int) * ((z.length + 1 : Nat) : Int) = ((2 * (z.length + 1) : Nat) : Int) by omega]
            refine Rd.iC (by omega) ?_
            rw [← Int.natCast_emod]
            refine push _ ?_
            unfold turn
            rw [zl, if_neg m]
        rintro D acc G nD hD sm rfl
        replace hD : G D = some (.lst [.int ((turn cs.length S (i + mq) : Nat) : Int), .int ((turn cs.length S (i + 1 + mq) : Nat) : Int)]) := hD
        have RG1 := R6.same sm
        have RG2 := R26.same sm
        obtain ⟨xs2, x2, xl2⟩ := RG2.lst
        walk_at "rd"
        refine Rd.tyL (.of x2) ?_
        walk_at "rd"
        refine Rd.ixL (.of hD) (Rd.atI_of (by decide) rfl) ?_
        walk_at "rd"
        refine Rd.ixL (.of hD) (Rd.atI_of (by decide) rfl) ?_
        walk_at "rd"
        refine ⟨Nat.le_of_ble_eq_true rfl, Rd.new fun r2 H7 n7 g7 s7 => ?_⟩
        walk_at "rd"
        refine Rd.app (s7 _ _ x2) (by rw [xl2, List.length_map, sizeLine_eq]; omega) fun H8 g8 off8 => ?_
        have R8 := (RG2.same s7).push (s7 _ _ x2) (show RdAt H7 r2 (mp (turn cs.length S) (i + mq, c, i + 1 + mq)) from g7) g8 off8
        walk_at "rd"
        refine ⟨_, _, _, _, rfl, Rd.same_off ((s6'.trans sm).trans s7) n2' off8, (tk3.trans tk6).trans (((TK.of sm).trans (.of s7)).off (s7 _ _ x2) off8), ?_, ?_⟩
        · have := (RG1.same s7).keep (TK.off (H := H7) (fun _ _ e => e) (s7 _ _ x2) off8) (off8 _ l12)
          rw [← Nat.add_assoc, upR_succ, zl, er]
          rw [zl] at this
          exact this
        · rw [← Nat.add_assoc, upR_succ, List.map_append, zl, er]
          rw [zl] at R8
          exact R8
      · rintro _ H2 ⟨o6, o7, o8, o9, rfl, s2', tk2, R1, R2⟩
        walk_at "rd"
        refine ⟨_, _, _, _, _, rfl, s2', tk2, ?_, ?_⟩
        · rw [Nat.succ_mul, zl]
          rw [zl] at R1
          exact R1
        · rw [Nat.succ_mul, zl]
          rw [zl] at R2
          exact R2
    rintro _ H1 ⟨o5, o6, o7, o8, o9, rfl, s1', tk1, R1, R2⟩
    walk_at "rd"
    refine Rd.iC (.inl ⟨by omega, by omega⟩) ?_
    walk_at "rd"
    obtain ⟨q1, a1, b1⟩ := id R1
    refine Rd.tupOf (.of a1) (Rd.new fun t1 H2 m1 h1 s2' => ?_)
    walk_at "rd"
    obtain ⟨q2, a2, b2⟩ := R2.same s2'
    refine Rd.tupOf (.of a2) (Rd.new fun t2 H3 m2 h2 s3' => ?_)
    walk_at "rd"
    refine ⟨Nat.le_of_ble_eq_true rfl, Rd.new fun p H4 m4 h4 s4' => ?_⟩
    have s24 := (s2'.trans s3').trans s4'
    refine k p t1 t2 H4 (s1'.trans s24) (s1'.free (s2'.free (s3'.free m4))) (by rw [h4, show (2 : Int) * ((z.length + 1 : Nat) : Int) = ((2 * (z.length + 1) : Nat) : Int) by omega]) ?_ ?_
    · rw [← ecs]
      exact ⟨q1, s4' _ _ (s3' _ _ h1), rdats_keep (.of s24) b1⟩
    · rw [← ecs]
      exact ⟨q2, s4' _ _ h2, rdats_keep (.of (s3'.trans s4')) b2⟩

end
end W

namespace W
open PySem PySem.Spec PyProof.Rows L2
section
variable {P : Program} {w : World} {K : PySem.W.Frag} {mg : Str → Option Value} {base : Heap}
/-! ### numbers of ways -/
open Mpt (Road roadAt oneR otherR turn mp cnt stepM unitM idx)
theorem rowV_set {f : Nat → Nat} {n j v : Nat} : (rowV f n).set j (.int (v : Nat)) = rowV (fun q => if q = j then v else f q) n := by
  refine List.ext_getElem? fun i => ?_
  rw [List.getElem?_set, rowV_len]
  by_cases hi : i < n
  · rw [rowV_get hi, rowV_get hi]
    by_cases e : j = i
    · subst e
      rw [if_pos rfl, if_pos hi, if_pos rfl]
    · rw [if_neg e, if_neg (fun q => e q.symm)]
  · have n1 : ∀ f, (rowV f n)[i]? = none := fun f => List.getElem?_eq_none (by rw [rowV_len]; omega)
    rw [n1, n1]
    split
    · rw [if_neg (by omega)]
    · rfl
theorem nil_at {α : Type} {k : Nat} {r : α} {P : Prop} (e : ([] : List α)[k]? = some r) : P := by simp at e
theorem zeros : ∀ n : Nat, (List.replicate n [V.int 0]).flatten = rowV (fun _ => 0) n
  | 0 => rfl
  | n + 1 => by
    rw [List.replicate_succ', List.flatten_append, zeros n, ← rowV_snoc]
    rfl
/-- what the first roads give -/
def part (rs : List Road) (c : Nat) (F : Nat → Nat → Nat) (p k q : Nat) : Nat := ((rs.take k).map fun r => if r.2.1 = c ∧ r.2.2 = q then F p r.1 else 0).sum
theorem part_succ {rs : List Road} {c : Nat} {F : Nat → Nat → Nat} {p k q : Nat} {r : Road} (h : rs[k]? = some r) : part rs c F p (k + 1) q = part rs c F p k q + if r.2.1 = c ∧ r.2.2 = q then F p r.1 else 0 := by
  unfold part
  rw [Rd.take_snoc h, List.map_append, List.sum_append]
  simp
theorem part_all (rs : List Road) (c : Nat) (F : Nat → Nat → Nat) (p q : Nat) : part rs c F p rs.length q = stepM rs c F p q := by
  unfold part stepM
  rw [List.take_length]
theorem one_sign {a c : Nat} : ((⟨#[a]⟩ : Str) = ⟨#[c]⟩) ↔ a = c := by
  constructor
  · intro e
    have := congrArg (fun z : Str => z.cps.toList) e
    simpa using this
  · rintro rfl
    rfl
/-- rows of a table that is being made: no two of them are one -/
structure Made (G0 H' : Hp) (a : Addr) (ls : List Addr) (n : Nat) (R : Nat → Nat → Nat) : Prop where
  s : Same G0 H'
  g : H' a = some (.lst (ls.map V.ref))
  n0 : G0 a = none
  len : ls.length = n
  nd : ls.Nodup
  fr : ∀ r ∈ ls, G0 r = none ∧ r ≠ a
  row : ∀ i r, ls[i]? = some r → H' r = some (.lst (rowV (R i) n))
theorem Made.set {G0 H1 H2 : Hp} {a r : Addr} {ls : List Addr} {n i : Nat} {R : Nat → Nat → Nat} {f : Nat → Nat} (M : Made G0 H1 a ls n R) (hr : ls[i]? = some r) (g : H2 r = some (.lst (rowV f n))) (off : ∀ b, b ≠ r → H2 b = H1 b) : Made G0 H2 a ls n (fun j => if j = i then f else R j) := by
  have fr := M.fr r (List.mem_of_getElem? hr)
  refine ⟨Rd.same_off M.s fr.1 off, by rw [off a fr.2.symm]; exact M.g, M.n0, M.len, M.nd, M.fr, fun j q hq => ?_⟩
  by_cases e : j = i
  · subst e
    rw [hr] at hq
    cases hq
    simp only [if_pos]
    exact g
  · simp only [if_neg e]
    have ne : q ≠ r := fun z => by
      subst z
      exact e ((List.getElem?_inj (List.getElem?_eq_some_iff.mp hq).1 M.nd).mp (hq.trans hr.symm))
    rw [off q ne]
    exact M.row j q hq
theorem Made.tbl {G0 H1 : Hp} {a : Addr} {ls : List Addr} {n : Nat} {R : Nat → Nat → Nat} (M : Made G0 H1 a ls n R) : TblL H1 a n R := ⟨ls, M.g, M.len, M.row⟩
theorem TblL.congr {H : Hp} {a : Addr} {n : Nat} {F G : Nat → Nat → Nat} (h : TblL H a n F) (e : ∀ i j, i < n → j < n → F i j = G i j) : TblL H a n G := by
  obtain ⟨rs, h1, h2, h3⟩ := h
  refine ⟨rs, h1, h2, fun i r q => ?_⟩
  have il : i < n := by rw [← h2]; exact (List.getElem?_eq_some_iff.mp q).1
  rw [h3 i r q, rowV_congr fun j hj => e i j il hj]
def sp_l_counts (K : PySem.W.Frag) : Sp := fun vs H Q _ => ∃ (a : Addr) (n : Nat) (z : Str) (rs : List Road), vs = [.ref a, .int (n : Nat), .str z] ∧ RL H a rs ∧ (∀ r ∈ rs, r.1 < n ∧ r.2.2 < n) ∧ n ≤ 1000 ∧ ∀ (l : Addr) H', Same H H' → H l = none → TblL H' l n (cnt rs z.cps.toList) → Q (.ref l) H'
theorem ok_l_counts (T : Txt K mg) : FnOk P w K mg base CX0 1 T.f_l_counts T.fd_l_counts ["_law_roads", "_law_size", "_law_word_here"] (sp_l_counts K) := by
  refine T.F_l_counts.ok sc_l_counts (fun vs H Q E h => ?_) (fun cdv A outer s H vs Q E hr h => ?_)
  · obtain ⟨a, n, z, rs, rfl, _⟩ := h
    rfl
  · obtain ⟨a, n, z, rs, rfl, hR, rn, n1, k⟩ := h
    refine ⟨_, (pss_cons (ps_setLc (i := 4) (own := [("_law_p", 3)]) (g := gName 3) (tt := tYes) rfl sc_l_counts.nd rfl rfl (sw_true rfl rfl rfl (by decide +kernel)) (pi_range1 rfl T.n_range (pa_cons (pv 1) pa_nil)) (blkOk_by (own := [("_law_p", 3)]) (N := ["_law_roads", "_law_size", "_law_word_here", "_law_p", "_law_found", "_law_letter", "_law_later", "_law_row", "_law_one", "_law_sign", "_law_other", "_law_q"]) (sc := defScope s_l_counts) (by decide +kernel)) (fun _ _ _ _ _ => (pg_name (i := 3) sc_l_counts.nd rfl (by first | exact .inl rfl | exact .inr rfl))) (fun _ _ _ _ _ => pts_nil) (fun _ _ _ _ _ => (by exact (pe_lc (own := [("_law_q", 11)]) (g := gName 11) (tt := tYes) rfl sc_l_counts.nd (pi_range1 rfl T.n_range (pa_cons (pv 1) pa_nil)) (blkOk_by (own := [("_law_q", 11)]) (N := ["_law_roads", "_law_size", "_law_word_here", "_law_p", "_law_found", "_law_letter", "_law_later", "_law_row", "_law_one", "_law_sign", "_law_other", "_law_q"]) (by rfl)) (fun _ _ _ _ _ => (pg_name (i := 11) sc_l_counts.nd rfl (by first | exact .inl rfl | exact .inr rfl))) (fun _ _ _ _ _ => pts_nil) (fun _ _ _ _ _ => (pe_callTy (T := "int") (r := _) Rd.c_int (by rfl) T.n_int (by decide +kernel) (pa_cons (pe_cmpR op_eq (pv 3) (pv 11) (nomark _)) pa_nil)))))))
  (pss_cons (ps_for PassesOwn.never rfl (pi_str (pv 2)) (pg_name (i := 5) sc_l_counts.nd rfl (.inl rfl))
  (pss_cons (ps_setLc (i := 6) (own := [("_law_p", 3)]) (g := gName 3) (tt := tYes) rfl sc_l_counts.nd rfl rfl (sw_true rfl rfl rfl (by decide +kernel)) (pi_range1 rfl T.n_range (pa_cons (pv 1) pa_nil)) (blkOk_by (own := [("_law_p", 3)]) (N := ["_law_roads", "_law_size", "_law_word_here", "_law_p", "_law_found", "_law_letter", "_law_later", "_law_row", "_law_one", "_law_sign", "_law_other", "_law_q"]) (sc := defScope s_l_counts) (by decide +kernel)) (fun _ _ _ _ _ => (pg_name (i := 3) sc_l_counts.nd rfl (.inl rfl))) (fun _ _ _ _ _ => pts_nil) (fun _ _ _ _ _ => (pe_op op_rep (pe_lst (pa_cons pe_int pa_nil)) (pv 1))))
  (pss_cons (ps_for PassesOwn.never rfl (pi_range1 rfl T.n_range (pa_cons (pv 1) pa_nil)) (pg_name (i := 3) sc_l_counts.nd rfl (.inl rfl))
  (pss_cons (ps_set (i := 7) sc_l_counts.nd rfl (.inl rfl) (pe_ix (r := rIxL K) ix_list (pv 6) (pv 3) (fun _ _ => rfl)))
  (pss_one (ps_for PassesOwn.never rfl (pi_list (pv 0)) (pg_tup rfl (pgs_cons (pg_name (i := 8) sc_l_counts.nd rfl (.inl rfl)) (pgs_cons (pg_name (i := 9) sc_l_counts.nd rfl (.inl rfl)) (pgs_cons (pg_name (i := 10) sc_l_counts.nd rfl (.inl rfl)) pgs_nil))))
  (pss_one (ps_if (pt_cmpR op_eq (pv 9) (pv 5) (nomark _))
  (pss_one (ps_asg (pe_op op_add (pe_ix (r := rIxL K) ix_list (pv 7) (pv 10) (fun _ _ => rfl)) (pe_ix (r := rIxL K) ix_list (pe_ix (r := rIxL K) ix_list (pv 4) (pv 3) (fun _ _ => rfl)) (pv 8) (fun _ _ => rfl))) (pg_sub (pv 7) (pv 10) set_list)))
  pss_nil))))))
  (pss_one (ps_set (i := 4) sc_l_counts.nd rfl (.inl rfl) (pv 6))))))
  (pss_one (ps_ret (pv 4))))), ?_⟩
    walk_at "rd"
    refine ⟨by omega, by omega, ?_⟩
    refine lcTbl walk_range (fun _ _ => trivial) HO.lst unitM n (by omega) ?_ ?_
    · rintro p x H1 H2 Q4 P5 hp sm ⟨rfl, rfl⟩ fin
      walk_at "rd"
      refine ⟨rfl, Rd.tyes ?_⟩
      walk_at "rd"
      refine ⟨by omega, by omega, ?_⟩
      refine lcNums walk_range (fun _ _ => trivial) (unitM p) (by omega) ?_ ?_
      · rintro q x H3 H4 Q4 P5 hq sm2 ⟨rfl, rfl⟩ fin2
        walk_at "rd"
        refine ⟨rfl, Rd.tyes ?_⟩
        walk_at "rd"
        refine Rd.intB ?_
        have e : (if decide ((0 : Int) + (p : Int) = 0 + (q : Int)) = true then (1 : Int) else 0) = ((unitM p q : Nat) : Int) := by
          unfold unitM
          by_cases c : p = q
          · rw [if_pos c, decide_eq_true (by omega)]
            rfl
          · rw [if_neg c, decide_eq_false (by omega)]
            rfl
        rw [e]
        exact fin2 _ (Same.refl _)
      · intro D H3 nD sm2 gD
        exact fin D H3 sm2 nD gD
    intro f0 ls0 H1 nf0 s1 gf0 rows0
    walk_at "rd"
    have T0 : TblL H1 f0 n unitM := ⟨ls0, gf0, rows0.1, rows0.2⟩
    clear gf0 rows0
    refine Rd.forS ?_
    walk_at "rd"
    have zl : z.cps.toList.length = z.length := Array.length_toList
    refine for_it (walk_str (z := z)) (fun i σ H' => ∃ (f : Addr) (o3 o5 o6 o7 o8 o9 o10 : Option V), σ = [some (.ref a), some (.int (n : Nat)), some (.str z), o3, some (.ref f), o5, o6, o7, o8, o9, o10, none] ∧ Same H H' ∧ H f = none ∧ TblL H' f n (cnt rs (z.cps.toList.take i))) ⟨f0, _, _, _, _, _, _, _, rfl, s1, nf0, T0⟩ (fun _ _ _ _ _ => trivial) ?_ ?_
    · rintro i x _ _ H2 hi ⟨f, o3, o5, o6, o7, o8, o9, o10, rfl, s2, nf, TF⟩ ⟨rfl, c, hc, rfl⟩
      have hcs : z.cps.toList[i]? = some c := by rw [Array.getElem?_toList]; exact hc
      obtain ⟨F, eF⟩ : ∃ F, F = cnt rs (z.cps.toList.take i) := ⟨_, rfl⟩
      rw [← eF] at TF
      have eF2 : cnt rs (z.cps.toList.take (i + 1)) = stepM rs c F := by rw [Rd.take_snoc hcs, Mpt.cnt_snoc, eF]
      walk_at "rd"
      refine ⟨by omega, by omega, ?_⟩
      refine Rd.lcS walk_range (fun _ _ => trivial) (fun D j acc Hc => ∃ ls : List Addr, acc = ls.map V.ref ∧ ls.length = j ∧ ls.Nodup ∧ (∀ r ∈ ls, H2 r = none ∧ r ≠ D) ∧ ∀ k r, ls[k]? = some r → Hc r = some (.lst (rowV (fun _ => 0) n))) (fun _ _ _ _ _ => ⟨[], rfl, rfl, .nil, fun r m => (nomatch m), fun k r e => nil_at e⟩) ?_ ?_
      · rintro D j x _ G acc nD hj hD sm ⟨ls, rfl, ll, nd, fr, row⟩ ⟨rfl, rfl⟩
        walk_at "rd"
        refine ⟨rfl, Rd.tyes ?_⟩
        walk_at "rd"
        refine ⟨Nat.le_of_ble_eq_true rfl, Rd.new fun r1 G1 m1 g1 t1 => ?_⟩
        walk_at "rd"
        refine Rd.rep g1 (by omega) (by omega) (by rw [sizeLine_eq]; simp; omega) (Rd.new fun r2 G2 m2 g2 t2 => ?_)
        have e0 : (List.replicate ((n : Nat) : Int).toNat [V.int 0]).flatten = rowV (fun _ => 0) n := by
          rw [Int.toNat_natCast, zeros]
        rw [e0] at g2
        have t12 := t1.trans t2
        refine Rd.lcPush (t12 _ _ hD) nD (sm.trans t12) (by rw [List.length_map, ll, sizeLine_eq]; omega) fun G3 g3 off3 => ?_
        have nr2 : G r2 = none := t1.free m2
        have rD : r2 ≠ D := (ne_of_none hD nr2).symm
        refine ⟨ls ++ [r2], by rw [List.map_append]; rfl, by rw [List.length_append, ll]; rfl, snoc_nodup nd fun m => ?_, fun r m => ?_, fun k r e => ?_⟩
        · obtain ⟨k, hk⟩ := List.getElem?_of_mem m
          have := row k r2 hk
          rw [nr2] at this
          cases this
        · rcases List.mem_append.mp m with m | m
          · exact fr r m
          · rw [List.mem_singleton.mp m]
            exact ⟨sm.free nr2, rD⟩
        · rcases Nat.lt_or_ge k ls.length with q | q
          · rw [List.getElem?_append_left q] at e
            rw [off3 r (fr r (List.mem_of_getElem? e)).2]
            exact t12 _ _ (row k r e)
          · rw [List.getElem?_append_right q] at e
            obtain ⟨q1, q2⟩ := List.getElem?_eq_some_iff.mp e
            have : r2 = r := by simpa using q2
            subst this
            rw [off3 r2 rD]
            exact g2
      rintro D acc G nD hD sm ⟨ls, rfl, ll, nd, fr, row⟩
      have M0 : Made H2 G D ls n (fun _ _ => 0) := ⟨sm, hD, nD, by rw [ll]; omega, nd, fr, row⟩
      clear row fr nd ll hD sm
      walk_at "rd"
      refine Rd.forS ?_
      walk_at "rd"
      refine ⟨by omega, by omega, ?_⟩
      refine for_range (lo := 0) (n := ((n : Nat) : Int).toNat) (fun p σ H' => ∃ o3 o7 o8 o9 o10 : Option V, σ = [some (.ref a), some (.int (n : Nat)), some (.str z), o3, some (.ref f), some (.str ⟨#[c]⟩), some (.ref D), o7, o8, o9, o10, none] ∧ Made H2 H' D ls n (fun j => if j < p then stepM rs c F j else fun _ => 0)) ⟨_, _, _, _, _, rfl, M0⟩ ?_ ?_
      · rintro p _ H3 hp ⟨o3, o7, o8, o9, o10, rfl, M⟩
        rw [Int.zero_add]
        have pn : p < n := by omega
        have pl : p < ls.length := by rw [M.len]; exact pn
        obtain ⟨r, hr⟩ : ∃ r, ls[p]? = some r := ⟨_, List.getElem?_eq_getElem pl⟩
        have sH3 := s2.trans M.s
        obtain ⟨qs, gqs, pqs⟩ := id hR
        have start : (fun j => if j < p then stepM rs c F j else fun _ => 0) = fun j => if j = p then part rs c F p 0 else if j < p then stepM rs c F j else fun _ => 0 := by
          funext j
          by_cases e : j = p
          · subst e
            rw [if_neg (Nat.lt_irrefl _), if_pos rfl]
            rfl
          · rw [if_neg e]
        rw [start] at M
        walk_at "rd"
        refine Rd.ixL (v := .ref r) (.of M.g) (atI_nat (by rw [List.getElem?_map, hr]; rfl)) ?_
        walk_at "rd"
        refine Rd.forS ?_
        walk_at "rd"
        refine ⟨⟨_, .of (sH3 _ _ gqs)⟩, for_list (K := K) (a := a) (xs := qs.map V.ref) (fun k σ H' => ∃ o8 o9 o10 : Option V, σ = [some (.ref a), some (.int (n : Nat)), some (.str z), some (.int (p : Nat)), some (.ref f), some (.str ⟨#[c]⟩), some (.ref D), some (.ref r), o8, o9, o10, none] ∧ Made H2 H' D ls n (fun j => if j = p then part rs c F p k else if j < p then stepM rs c F j else fun _ => 0)) ⟨_, _, _, rfl, M⟩ (fun k σ H' _ ⟨_, _, _, _, M'⟩ => .of ((s2.trans M'.s) _ _ gqs)) ?_ ?_⟩
        · rintro k x _ H4 hx ⟨o8, o9, o10, rfl, M'⟩
          obtain ⟨q, hq, rfl⟩ := Rd.map_refG hx
          obtain ⟨rd, hrd, hRd⟩ := paired_at pqs hq
          have sH4 := s2.trans M'.s
          obtain ⟨on, qn⟩ := rn rd (List.mem_of_getElem? hrd)
          have gr := M'.row p r hr
          simp only [if_pos] at gr
          refine Rd.tupT (.of (sH4 _ _ hRd)) rfl ?_
          walk_at "rd"
          have st : ∀ w, part rs c F p (k + 1) w = part rs c F p k w + if rd.2.1 = c ∧ rd.2.2 = w then F p rd.1 else 0 := fun w => part_succ hrd
          refine ite2 (fun e => ?_) (fun e => ?_)
          · have e := one_sign.mp e
            walk_at "rd"
            refine rowL (.of gr) qn ?_
            walk_at "rd"
            refine TblL.one (TF.same M'.s) pn fun r' hr' => ?_
            walk_at "rd"
            refine rowL hr' on ?_
            walk_at "rd"
            rw [show ((part rs c F p k rd.2.2 : Nat) : Int) + ((F p rd.1 : Nat) : Int) = ((part rs c F p k rd.2.2 + F p rd.1 : Nat) : Int) by omega]
            refine Rd.setG gr (Rd.ixN_of (by omega) (by rw [rowV_len]; omega)) (show (rowV (part rs c F p k) n).set ((rd.2.2 : Int)).toNat (.int ((part rs c F p k rd.2.2 + F p rd.1 : Nat) : Int)) = rowV (part rs c F p (k + 1)) n by
              rw [Int.toNat_natCast, rowV_set]
              refine rowV_congr fun w _ => ?_
              rw [st w]
              by_cases ew : w = rd.2.2
              · rw [if_pos ew, if_pos ⟨e, ew.symm⟩, ew]
              · rw [if_neg ew, if_neg (fun z => ew z.2.symm), Nat.add_zero]) fun H5 g5 off5 => ?_
            walk_at "rd"
            have M5 := M'.set hr g5 off5
            refine ⟨_, _, _, rfl, ?_⟩
            have : (fun j => if j = p then part rs c F p (k + 1) else if j = p then part rs c F p k else if j < p then stepM rs c F j else fun _ => 0) = fun j => if j = p then part rs c F p (k + 1) else if j < p then stepM rs c F j else fun _ => 0 := by
              funext j
              by_cases ej : j = p
              · rw [if_pos ej, if_pos ej]
              · rw [if_neg ej, if_neg ej, if_neg ej]
            rw [this] at M5
            exact M5
          · have e : ¬ rd.2.1 = c := fun z => e (one_sign.mpr z)
            walk_at "rd"
            refine ⟨_, _, _, rfl, ?_⟩
            have : part rs c F p (k + 1) = part rs c F p k := by
              funext w
              rw [st w, if_neg (fun z => e z.1), Nat.add_zero]
            rw [this]
            exact M'
        · rintro _ H4 ⟨o8, o9, o10, rfl, M'⟩
          rw [List.length_map, pqs.length] at M'
          walk_at "rd"
          refine ⟨_, _, _, _, _, rfl, ?_⟩
          have : (fun j => if j = p then part rs c F p rs.length else if j < p then stepM rs c F j else fun _ => 0) = fun j => if j < p + 1 then stepM rs c F j else fun _ => 0 := by
            funext j
            by_cases ej : j = p
            · rw [if_pos ej, if_pos (by omega), ej]
              funext w
              exact part_all rs c F p w
            · rw [if_neg ej]
              by_cases lt : j < p
              · rw [if_pos lt, if_pos (by omega)]
              · rw [if_neg lt, if_neg (by omega)]
          rw [this] at M'
          exact M'
      · rintro _ H3 ⟨o3, o7, o8, o9, o10, rfl, M⟩
        walk_at "rd"
        refine ⟨D, _, _, _, _, _, _, _, rfl, s2.trans M.s, s2.free M.n0, ?_⟩
        rw [eF2]
        refine M.tbl.congr fun i j hi hj => ?_
        rw [if_pos (by omega)]
    rintro _ H2 ⟨f, o3, o5, o6, o7, o8, o9, o10, rfl, s2, nf, TF⟩
    walk_at "rd"
    refine k f H2 s2 nf ?_
    rw [List.take_of_length_le (by rw [zl]; exact Nat.le_refl _)] at TF
    exact TF

end
end W

namespace W
open PySem PySem.Spec PyProof.Rows L2
section
variable {P : Program} {w : World} {K : PySem.W.Frag} {mg : Str → Option Value} {base : Heap}
/-! ### whether two webs part a word -/
open Mpt (Road roadAt oneR otherR turn mp cnt stepM unitM idx)
def roadD (r : Road) : PyData := .tuple [.int (r.1 : Nat), .str ⟨#[r.2.1]⟩, .int (r.2.2 : Nat)]
def CodeOk (r : Road) : Prop := PyData.strOk ⟨#[r.2.1]⟩ = true
theorem rd_dp {K : PySem.W.Frag} {H : Hp} {q : Addr} {r : Road} (h : RdAt H q r) : Dp K H (.ref q) (roadD r) := .tup (.of h) (.cons (.int _) (.cons (.str _) (.cons (.int _) .nil)))
theorem rds_dp {K : PySem.W.Frag} {H : Hp} {qs : List Addr} {rs : List Road} (h : Paired (RdAt H) qs rs) : DpAll K H (qs.map V.ref) (rs.map roadD) := by
  induction h with
  | nil => exact .nil
  | cons a _ ih => exact .cons (rd_dp a) ih
theorem RL.dp {K : PySem.W.Frag} {H : Hp} {l : Addr} {rs : List Road} (h : RL H l rs) : Dp K H (.ref l) (.list (rs.map roadD)) := let ⟨_, h1, h2⟩ := h; .lst (.of h1) (rds_dp h2)
theorem RT.dp {K : PySem.W.Frag} {H : Hp} {l : Addr} {rs : List Road} (h : RT H l rs) : Dp K H (.ref l) (.tuple (rs.map roadD)) := let ⟨_, h1, h2⟩ := h; .tup (.of h1) (rds_dp h2)
theorem road_lay {r : Road} (h : CodeOk r) : PyData.canLay0 (roadD r) = true := by
  show (true && (PyData.strOk ⟨#[r.2.1]⟩ && (true && true))) = true
  rw [show PyData.strOk ⟨#[r.2.1]⟩ = true from h]
  rfl
theorem roads_lay : ∀ {rs : List Road}, (∀ r ∈ rs, CodeOk r) → PyData.canLayAll0 (rs.map roadD) = true
  | [], _ => rfl
  | r :: rs, h => by
    show (PyData.canLay0 (roadD r) && PyData.canLayAll0 (rs.map roadD)) = true
    rw [road_lay (h r (List.mem_cons_self ..)), roads_lay fun x m => h x (List.mem_cons_of_mem _ m)]
    rfl
theorem road_depth (r : Road) : PyData.depth (roadD r) = 1 := rfl
theorem roads_depth : ∀ rs : List Road, PyData.depthAll (rs.map roadD) ≤ 1
  | [] => Nat.le_of_ble_eq_true rfl
  | r :: rs => by
    have := roads_depth rs
    show max (PyData.depth (roadD r)) (PyData.depthAll (rs.map roadD)) ≤ 1
    rw [road_depth]
    omega
theorem roads_shaped {rs : List Road} (h : ∀ r ∈ rs, CodeOk r) : SeqAt.shaped (.list (rs.map roadD)) = true := shaped_of (roads_lay h) (Nat.le_trans (Nat.succ_le_succ (roads_depth rs)) (by decide))
theorem road_eqv (a b : Road) : PyData.eqv (roadD a) (roadD b) = decide (a = b) := by
  show (PyData.eqv (.int (a.1 : Nat)) (.int (b.1 : Nat)) && (PyData.eqv (.str ⟨#[a.2.1]⟩) (.str ⟨#[b.2.1]⟩) && (PyData.eqv (.int (a.2.2 : Nat)) (.int (b.2.2 : Nat)) && true))) = _
  obtain ⟨a1, a2, a3⟩ := a
  obtain ⟨b1, b2, b3⟩ := b
  rw [Bool.eq_iff_iff]
  simp [PyData.eqv, one_sign]
  omega
theorem roadNotIn {K : PySem.W.Frag} {H : Hp} {q l : Addr} {r : Road} {rs : List Road} {Q : VK} (hq : RdAt H q r) (hl : RL H l rs) (cr : CodeOk r) (cs : ∀ r ∈ rs, CodeOk r) (no : r ∉ rs) (k : Q (.bl true) H) : rNotInD K (.ref q) (.ref l) H Q := by
  refine ⟨roadD r, rs.map roadD, rd_dp hq, hl.dp, shaped_of (road_lay cr) (by rw [road_depth]; decide), roads_shaped cs, ?_⟩
  have e : ((rs.map roadD).any fun x => PyData.eqv x (roadD r)) = false := by
    rw [List.any_map, List.any_eq_false]
    intro x m e
    have e : PyData.eqv (roadD x) (roadD r) = true := e
    rw [road_eqv, decide_eq_true_iff] at e
    exact no (e ▸ m)
  rw [e]
  exact k
theorem idx_first : ∀ (xs : List Nat) (a j : Nat), j < xs.idxOf a → xs[j]? ≠ some a
  | [], a, j, h, e => by simp at e
  | x :: xs, a, j, h, e => by
    rw [List.idxOf_cons] at h
    cases q : x == a with
    | true => rw [q] at h; exact absurd h (Nat.not_lt_zero j)
    | false =>
      rw [q] at h
      cases j with
      | zero =>
        have : x = a := Option.some.inj e
        rw [this, beq_self_eq_true] at q
        cases q
      | succ j => exact idx_first xs a j (Nat.lt_of_succ_lt_succ h) e
theorem natV_flat (xs : List Nat) : (natV xs).all flatV = true := by
  unfold natV
  rw [List.all_map, List.all_map]
  induction xs with
  | nil => rfl
  | cons x xs ih => show (true && _) = true; rw [ih]; rfl
theorem natIdx {K : PySem.W.Frag} {l : Addr} {xs : List Nat} {a : Nat} {H : Hp} {Q : VK} (h : SqL K H l (natV xs)) (m : a ∈ xs) (q : Q (.int (idx xs a : Nat)) H) : rIndex K (.ref l) [.int (a : Nat)] H Q := by
  have l0 := List.idxOf_lt_length_iff.mpr m
  refine ⟨l, natV xs, .int (a : Nat), xs.idxOf a, .int (a : Nat), rfl, rfl, h, rfl, natV_flat xs, natL_at (by rw [List.getElem?_eq_getElem l0, List.getElem_idxOf l0]), ?_, fun j z hj hz => ?_, q⟩
  · show decide _ = true
    simp
  · obtain ⟨x, hx, rfl⟩ := natV_get hz
    have : x ≠ a := fun e => idx_first xs a j hj (by rw [hx, e])
    show decide _ = false
    simp
    omega
def sp_l_plain (K : PySem.W.Frag) : Sp := fun vs H Q _ => ∃ (a l : Addr) (L : List Nat) (rs : List Road), vs = [.ref a, .ref l] ∧ RT H a rs ∧ H l = some (.lst (natV L)) ∧ (∀ r ∈ rs, (r.1 ∈ L ∧ r.2.2 ∈ L) ∧ CodeOk r) ∧ (rs.Pairwise fun a b => a.1 ≠ b.1) ∧ rs.length ≤ 1000 ∧ ∀ (f : Addr) H', Same H H' → H f = none → RL H' f (rs.map (mp (idx L))) → Q (.ref f) H'
theorem ok_l_plain (T : Txt K mg) : FnOk P w K mg base CX0 1 T.f_l_plain T.fd_l_plain ["_law_roads", "_law_places"] (sp_l_plain K) := by
  refine T.F_l_plain.ok sc_l_plain (fun vs H Q E h => ?_) (fun cdv A outer s H vs Q E hr h => ?_)
  · obtain ⟨a, l, L, rs, rfl, _⟩ := h
    rfl
  · obtain ⟨a, l, L, rs, rfl, hR, gl, rok, pw, rl, k⟩ := h
    refine ⟨_, (pss_cons (ps_set (i := 2) sc_l_plain.nd rfl (.inl rfl) (pe_lst pa_nil))
  (pss_cons (ps_for PassesOwn.never rfl (pi_tup (pv 0)) (pg_tup rfl (pgs_cons (pg_name (i := 3) sc_l_plain.nd rfl (.inl rfl)) (pgs_cons (pg_name (i := 4) sc_l_plain.nd rfl (.inl rfl)) (pgs_cons (pg_name (i := 5) sc_l_plain.nd rfl (.inl rfl)) pgs_nil))))
  (pss_cons (ps_set (i := 6) sc_l_plain.nd rfl (.inl rfl) (pe_tup (pa_cons (pe_bm PySem.F.plainAttrs_list PySem.F.slot_list_index PySem.F.type_list_index mt_index (pv 1) (pa_cons (pv 3) pa_nil)) (pa_cons (pv 4) (pa_cons (pe_bm PySem.F.plainAttrs_list PySem.F.slot_list_index PySem.F.type_list_index mt_index (pv 1) (pa_cons (pv 5) pa_nil)) pa_nil)))))
  (pss_one (ps_if (pt_cmpR (r := rNotInD K) (op_notInD (Rk.u65 hr)) (pv 6) (pv 2) (by rfl))
  (pss_one (ps_expr (pe_bm PySem.F.plainAttrs_list PySem.F.slot_list_append PySem.F.type_list_append mt_append (pv 2) (pa_cons (pv 6) pa_nil))))
  pss_nil))))
  (pss_one (ps_ret (pv 2))))), ?_⟩
    obtain ⟨qs, gqs, pqs⟩ := id hR
    walk_at "rd"
    refine ⟨Nat.zero_le _, Rd.new fun f G nf gf s1 => ?_⟩
    walk_at "rd"
    refine Rd.forS ?_
    walk_at "rd"
    refine ⟨⟨_, .of (s1 _ _ gqs)⟩, for_tup (K := K) (a := a) (xs := qs.map V.ref) (fun i σ H' => ∃ o3 o4 o5 o6 : Option V, σ = [some (.ref a), some (.ref l), some (.ref f), o3, o4, o5, o6] ∧ Same H H' ∧ RL H' f ((rs.take i).map (mp (idx L)))) ⟨_, _, _, _, rfl, s1, ⟨[], gf, .nil⟩⟩ (fun i σ H' _ ⟨_, _, _, _, _, s, _⟩ => .of (s _ _ gqs)) ?_ ?_⟩
    · rintro i x _ H1 hx ⟨o3, o4, o5, o6, rfl, s2, RF⟩
      obtain ⟨q, hq, rfl⟩ := Rd.map_refG hx
      obtain ⟨r, hr, hRd⟩ := paired_at pqs hq
      have mr := List.mem_of_getElem? hr
      obtain ⟨⟨m1, m2⟩, cr⟩ := rok r mr
      refine Rd.tupT (.of (s2 _ _ hRd)) rfl ?_
      walk_at "rd"
      refine Rd.tyL (.of (s2 _ _ gl)) ?_
      walk_at "rd"
      refine natIdx (.of (s2 _ _ gl)) m1 ?_
      walk_at "rd"
      refine Rd.tyL (.of (s2 _ _ gl)) ?_
      walk_at "rd"
      refine natIdx (.of (s2 _ _ gl)) m2 ?_
      walk_at "rd"
      refine ⟨Nat.le_of_ble_eq_true rfl, Rd.new fun q2 H2 n2 g2 s3 => ?_⟩
      walk_at "rd"
      have il : i < rs.length := (List.getElem?_eq_some_iff.mp hr).1
      refine roadNotIn (r := mp (idx L) r) g2 (RF.same s3) cr (fun x m => ?_) (fun m => ?_) ?_
      · obtain ⟨y, my, rfl⟩ := List.mem_map.mp m
        exact (rok y (List.mem_of_mem_take my)).2
      · obtain ⟨y, my, e⟩ := List.mem_map.mp m
        obtain ⟨j, hj⟩ := List.getElem?_of_mem my
        have jl := (List.getElem?_eq_some_iff.mp hj).1
        rw [List.length_take] at jl
        rw [List.getElem?_take_of_lt (by omega)] at hj
        have e1 : idx L y.1 = idx L r.1 := congrArg (fun z : Road => z.1) e
        have e2 := Mpt.idx_inj (rok y (List.mem_of_mem_take my)).1.1 m1 e1
        have := List.pairwise_iff_getElem.mp pw j i (by omega) il (by omega)
        rw [(List.getElem?_eq_some_iff.mp hj).2, (List.getElem?_eq_some_iff.mp hr).2] at this
        exact this e2
      walk_at "rd"
      obtain ⟨xs, gx, xl⟩ := (RF.same s3).lst
      refine Rd.tyL (.of gx) ?_
      walk_at "rd"
      refine Rd.app gx (by rw [xl, List.length_map, List.length_take, sizeLine_eq]; omega) fun H3 g3 off3 => ?_
      walk_at "rd"
      refine ⟨_, _, _, _, rfl, Rd.same_off (s2.trans s3) nf off3, ?_⟩
      rw [Rd.take_snoc hr, List.map_append]
      exact (RF.same s3).push gx g2 g3 off3
    rintro _ H1 ⟨o3, o4, o5, o6, rfl, s2, RF⟩
    rw [List.length_map, pqs.length, List.take_length] at RF
    walk_at "rd"
    exact k f H1 s2 nf RF
/-! flags of numbers -/
def rowB (f : Nat → Nat) (n : Nat) : List Bool := (List.range n).map fun j => decide (0 < f j)
def FlgL (H : Hp) (a : Addr) (n : Nat) (F : Nat → Nat → Nat) : Prop := ∃ rs : List Addr, H a = some (.lst (rs.map V.ref)) ∧ rs.length = n ∧ ∀ i r, rs[i]? = some r → H r = some (.lst ((rowB (F i) n).map V.bl))
theorem FlgL.same {H H' : Hp} {a : Addr} {n : Nat} {F : Nat → Nat → Nat} (h : FlgL H a n F) (s : Same H H') : FlgL H' a n F := let ⟨rs, h1, h2, h3⟩ := h; ⟨rs, s _ _ h1, h2, fun i r e => s _ _ (h3 i r e)⟩
def flgD (F : Nat → Nat → Nat) (n : Nat) : List PyData := (List.range n).map fun i => .list ((rowB (F i) n).map PyData.bool)
theorem dpAll_bl {K : PySem.W.Frag} {H : Hp} : ∀ bs : List Bool, DpAll K H (bs.map V.bl) (bs.map PyData.bool)
  | [] => .nil
  | b :: bs => .cons (.bl b) (dpAll_bl bs)
theorem eqv_bl : ∀ ns ms : List Bool, PyData.eqvAll (ns.map PyData.bool) (ms.map PyData.bool) = decide (ns = ms)
  | [], [] => rfl
  | [], _ :: _ => rfl
  | _ :: _, [] => rfl
  | x :: xs, y :: ys => by
    show (PyData.eqv (.bool x) (.bool y) && PyData.eqvAll (xs.map PyData.bool) (ys.map PyData.bool)) = _
    rw [eqv_bl xs ys, Bool.eq_iff_iff]
    cases x <;> cases y <;> simp [PyData.eqv]
theorem lay_bl : ∀ bs : List Bool, PyData.canLayAll0 (bs.map PyData.bool) = true
  | [] => rfl
  | b :: bs => by show (true && PyData.canLayAll0 (bs.map PyData.bool)) = true; rw [lay_bl bs]; rfl
theorem depth_bl : ∀ bs : List Bool, PyData.depthAll (bs.map PyData.bool) = 0
  | [] => rfl
  | b :: bs => by show max 0 (PyData.depthAll (bs.map PyData.bool)) = 0; rw [depth_bl bs]; rfl
theorem FlgL.dp {K : PySem.W.Frag} {H : Hp} {a : Addr} {n : Nat} {F : Nat → Nat → Nat} (h : FlgL H a n F) : Dp K H (.ref a) (.list (flgD F n)) := by
  obtain ⟨rs, h1, h2, h3⟩ := h
  refine .lst (.of h1) (dpAll_of rs _ (by unfold flgD; rw [h2, List.length_map, List.length_range]) fun i r d a b => ?_)
  have il : i < n := by rw [← h2]; exact (List.getElem?_eq_some_iff.mp a).1
  unfold flgD at b
  rw [List.getElem?_map, List.getElem?_range il] at b
  cases (Option.some.inj b)
  exact .lst (.of (h3 i r a)) (dpAll_bl _)
theorem flg_shaped (F : Nat → Nat → Nat) (n : Nat) : SeqAt.shaped (.list (flgD F n)) = true := by
  have h1 : ∀ l : List Nat, PyData.canLayAll0 (l.map fun i => PyData.list ((rowB (F i) n).map PyData.bool)) = true := fun l => by
    induction l with
    | nil => rfl
    | cons i l ih =>
      show (PyData.canLayAll0 ((rowB (F i) n).map PyData.bool) && PyData.canLayAll0 (l.map fun i => PyData.list ((rowB (F i) n).map PyData.bool))) = true
      rw [ih, lay_bl]
      rfl
  have h2 : ∀ l : List Nat, PyData.depthAll (l.map fun i => PyData.list ((rowB (F i) n).map PyData.bool)) ≤ 1 := fun l => by
    induction l with
    | nil => exact Nat.zero_le 1
    | cons i l ih =>
      show max (PyData.depthAll ((rowB (F i) n).map PyData.bool) + 1) (PyData.depthAll (l.map fun i => PyData.list ((rowB (F i) n).map PyData.bool))) ≤ 1
      rw [depth_bl]
      omega
  exact shaped_of (h1 _) (Nat.le_trans (Nat.succ_le_succ (h2 _)) (by decide))
theorem eqv_ls : ∀ xs ys : List (List Bool), PyData.eqvAll (xs.map fun l => PyData.list (l.map PyData.bool)) (ys.map fun l => PyData.list (l.map PyData.bool)) = decide (xs = ys)
  | [], [] => rfl
  | [], _ :: _ => rfl
  | _ :: _, [] => rfl
  | x :: xs, y :: ys => by
    show (PyData.eqvAll (x.map PyData.bool) (y.map PyData.bool) && PyData.eqvAll (xs.map fun l => PyData.list (l.map PyData.bool)) (ys.map fun l => PyData.list (l.map PyData.bool))) = _
    rw [eqv_ls xs ys, eqv_bl, Bool.eq_iff_iff]
    simp
theorem neFlg {K : PySem.W.Frag} {H : Hp} {a b : Addr} {n : Nat} {F G : Nat → Nat → Nat} {Q : VK} (h1 : FlgL H a n F) (h2 : FlgL H b n G) {P R : Nat} (hP : P < n) (hR : R < n) (ne : decide (0 < F P R) ≠ decide (0 < G P R)) (q : Q (.bl true) H) : rNeD K (.ref a) (.ref b) H Q := by
  refine ⟨_, _, h1.dp, h2.dp, flg_shaped F n, flg_shaped G n, ?_⟩
  have e : PyData.eqv (.list (flgD F n)) (.list (flgD G n)) = false := by
    have e0 : ∀ F : Nat → Nat → Nat, flgD F n = ((List.range n).map fun i => rowB (F i) n).map fun l => PyData.list (l.map PyData.bool) := fun F => by unfold flgD; rw [List.map_map]; rfl
    show PyData.eqvAll (flgD F n) (flgD G n) = false
    rw [e0, e0, eqv_ls]
    refine decide_eq_false fun e => ne ?_
    have h := congrArg (fun l => (l[P]?).bind fun r => r[R]?) e
    unfold rowB at h
    simpa [hP, hR] using h
  rw [e]
  exact q
def sp_l_flags (K : PySem.W.Frag) : Sp := fun vs H Q _ => ∃ (a : Addr) (n : Nat) (F : Nat → Nat → Nat), vs = [.ref a] ∧ TblL H a n F ∧ n ≤ 1000 ∧ ∀ (l : Addr) H', Same H H' → FlgL H' l n F → Q (.ref l) H'
theorem ok_l_flags (T : Txt K mg) : FnOk P w K mg base CX0 1 T.f_l_flags T.fd_l_flags ["_law_counts_here"] (sp_l_flags K) := by
  refine T.F_l_flags.ok sc_l_flags (fun vs H Q E h => ?_) (fun cdv A outer s H vs Q E hr h => ?_)
  · obtain ⟨a, n, F, rfl, _⟩ := h
    rfl
  · obtain ⟨a, n, F, rfl, ⟨rs, h1, h2, h3⟩, n1, k⟩ := h
    refine ⟨_, (pss_one (ps_ret (pe_lc (own := [("_law_row", 1)]) (g := gName 1) (tt := tYes) rfl sc_l_flags.nd (pi_list (pv 0)) (blkOk_by (own := [("_law_row", 1)]) (N := ["_law_counts_here", "_law_row", "_law_number"]) (sc := defScope s_l_flags) (by decide +kernel)) (fun _ _ _ _ _ => (pg_name (i := 1) sc_l_flags.nd rfl (by first | exact .inl rfl | exact .inr rfl))) (fun _ _ _ _ _ => pts_nil) (fun _ _ _ _ _ => (by exact (pe_lc (own := [("_law_number", 2)]) (g := gName 2) (tt := tYes) rfl sc_l_flags.nd (Ry.pi_listK (K := K) rfl (pv 1)) (blkOk_by (own := [("_law_number", 2)]) (N := ["_law_counts_here", "_law_row", "_law_number"]) (by rfl)) (fun _ _ _ _ _ => (pg_name (i := 2) sc_l_flags.nd rfl (by first | exact .inl rfl | exact .inr rfl))) (fun _ _ _ _ _ => pts_nil) (fun _ _ _ _ _ => (pe_cmpR op_gt (pv 2) pe_int (nomark _))))))))), ?_⟩
    walk_at "rd"
    refine ⟨⟨_, .of h1⟩, Rd.lcS walk_list (fun _ s => .of (s _ _ h1)) (fun D i acc Hc => ∃ us : List Addr, acc = us.map V.ref ∧ us.length = i ∧ (∀ u ∈ us, u ≠ D) ∧ ∀ j u, us[j]? = some u → Hc u = some (.lst ((rowB (F j) n).map V.bl))) (fun _ _ _ _ _ => ⟨[], rfl, rfl, fun u m => (nomatch m), fun j u e => nil_at e⟩) ?_ ?_⟩
    · rintro D i x _ G acc nD hi hD sm ⟨us, rfl, ul, uD, hu⟩ ⟨rfl, hx⟩
      obtain ⟨r, hr, rfl⟩ := Rd.map_refG hx
      have gr := sm _ _ (h3 i r hr)
      rw [List.length_map] at hi
      walk_at "rd"
      refine ⟨rfl, ?_⟩
      walk_at "rd"
      refine ⟨⟨_, .of gr⟩, Rd.lcS walk_list (fun _ s => .of (s _ _ gr)) (fun D2 j acc2 _ => acc2 = (((List.range j).map fun q => decide (0 < F i q))).map V.bl) (fun _ _ _ _ _ => rfl) ?_ ?_⟩
      · rintro D2 j y _ G2 acc2 nD2 hj hD2 sm2 rfl ⟨rfl, hy⟩
        obtain ⟨jn, rfl⟩ := rowV_inv hy
        walk_at "rd"
        refine ⟨rfl, Rd.tyes ?_⟩
        walk_at "rd"
        refine Rd.lcPush hD2 nD2 sm2 (by rw [List.length_map, List.length_map, List.length_range, sizeLine_eq]; omega) fun G4 _ _ => ?_
        rw [List.range_succ, List.map_append, List.map_append]
        have e : decide ((0 : Int) < ((F i j : Nat) : Int)) = decide (0 < F i j) := decide_eq_decide.mpr (by omega)
        first
          | (rw [e]; rfl)
          | rfl
      rintro D2 acc2 G2 nD2 hD2 sm2 rfl
      rw [rowV_len] at hD2
      have gD := sm2 _ _ hD
      have ne : D2 ≠ D := (ne_of_none hD nD2).symm
      refine Rd.lcPush gD nD (sm.trans sm2) (by rw [List.length_map, ul, sizeLine_eq]; omega) fun G4 g4 off4 => ?_
      refine ⟨us ++ [D2], by rw [List.map_append]; rfl, by rw [List.length_append, ul]; rfl, fun u m => ?_, fun j u e => ?_⟩
      · rcases List.mem_append.mp m with m | m
        · exact uD u m
        · rw [List.mem_singleton.mp m]
          exact ne
      · rcases Nat.lt_or_ge j us.length with q | q
        · rw [List.getElem?_append_left q] at e
          rw [off4 u (uD u (List.mem_of_getElem? e))]
          exact sm2 _ _ (hu j u e)
        · have jl := (List.getElem?_eq_some_iff.mp e).1
          rw [List.length_append] at jl
          have ej : j = i := by simp at jl; omega
          rw [ej, ← ul, List.getElem?_concat_length] at e
          cases e
          rw [off4 D2 ne, ej]
          exact hD2
    rintro D acc G nD hD sm ⟨us, rfl, ul, uD, hu⟩
    rw [List.length_map] at ul
    exact k D G sm ⟨us, hD, by rw [ul, h2], hu⟩
/-! what is told is right in kind -/
def sp_l_is_place (K : PySem.W.Frag) : Sp := fun vs H Q _ => ∃ a m : Int, vs = [.int a, .int m] ∧ 0 ≤ a ∧ a < m ∧ Q (.bl true) H
theorem ok_l_is_place (T : Txt K mg) : FnOk P w K mg base CX0 1 T.f_l_is_place T.fd_l_is_place ["_law_thing", "_law_places"] (sp_l_is_place K) := by
  refine T.F_l_is_place.ok sc_l_is_place (fun vs H Q E h => ?_) (fun cdv A outer s H vs Q E hr h => ?_)
  · obtain ⟨a, m, rfl, _⟩ := h
    rfl
  · obtain ⟨a, m, rfl, a0, a1, k⟩ := h
    refine ⟨_, (pss_one (ps_ret (pe_and (pe_callB (id := "isinstance") (r := rIsi K) call_isi (by rfl) T.n_isinstance (by decide +kernel) (pa_cons (pv 0) (pa_cons (pe_bltn (v := .ty "int") (u := .type "int") (by rfl) T.n_int (by decide +kernel) rfl) pa_nil))) (pe_and (pe_not (pe_callB (id := "isinstance") (r := rIsi K) call_isi (by rfl) T.n_isinstance (by decide +kernel) (pa_cons (pv 0) (pa_cons (pe_bltn (v := .ty "bool") (u := .type "bool") (by rfl) T.n_bool (by decide +kernel) rfl) pa_nil)))) (pe_one (pe_chain op_le op_lt pe_int (pv 0) (pv 1))))))), ?_⟩
    walk_at "rd"
    refine Rd.isiI ?_
    walk_at "rd"
    refine Rd.isiIB ?_
    walk_at "rd"
    refine Rd.yes a0 ?_
    walk_at "rd"
    rw [decide_eq_true a1]
    exact k
def sp_l_are_roads (K : PySem.W.Frag) : Sp := fun vs H Q _ => ∃ (a : Addr) (m : Nat) (most : Int) (rs : List Road), vs = [.ref a, .int (m : Nat), .int most] ∧ RT H a rs ∧ (∀ r ∈ rs, r.1 < m ∧ r.2.2 < m) ∧ (rs.length : Int) ≤ most ∧ ∀ H', Same H H' → Q (.bl true) H'
theorem ok_l_are_roads (T : Txt K mg) : FnOk P w K mg base CX0 2 T.f_l_are_roads T.fd_l_are_roads ["_law_roads", "_law_places", "_law_most"] (sp_l_are_roads K) := by
  refine T.F_l_are_roads.ok sc_l_are_roads (fun vs H Q E h => ?_) (fun cdv A outer s H vs Q E hr h => ?_)
  · obtain ⟨a, m, most, rs, rfl, _⟩ := h
    rfl
  · obtain ⟨a, m, most, rs, rfl, ⟨qs, gq, pq⟩, rm, rl, k⟩ := h
    refine ⟨_, (pss_cons (ps_if (PW.pt (pw_or (pt_not (pt_val (pe_callB (id := "isinstance") (r := rIsi K) call_isi (by rfl) T.n_isinstance (by decide +kernel) (pa_cons (pv 0) (pa_cons (pe_bltn (v := .ty "tuple") (u := .type "tuple") (by rfl) T.n_tuple (by decide +kernel) rfl) pa_nil))))) (pw_or1 (pt_cmpR op_gt (pe_callB (id := "len") (r := Rd.nLen K) Rd.c_len (by rfl) T.n_len (by decide +kernel) (pa_cons (pv 0) pa_nil)) (pv 2) (nomark _)))))
  (pss_one (ps_ret pe_bl))
  pss_nil)
  (pss_cons (ps_for PassesOwn.never rfl (pi_tup (pv 0)) (pg_name (i := 3) sc_l_are_roads.nd rfl (.inl rfl))
  (pss_cons (ps_if (PW.pt (pw_or (pt_not (pt_val (pe_callB (id := "isinstance") (r := rIsi K) call_isi (by rfl) T.n_isinstance (by decide +kernel) (pa_cons (pv 3) (pa_cons (pe_bltn (v := .ty "tuple") (u := .type "tuple") (by rfl) T.n_tuple (by decide +kernel) rfl) pa_nil))))) (pw_or (pt_cmpR op_ne (pe_callB (id := "len") (r := Rd.nLen K) Rd.c_len (by rfl) T.n_len (by decide +kernel) (pa_cons (pv 3) pa_nil)) pe_int (nomark _)) (pw_or (pt_not (pt_val (pe_callB (id := "isinstance") (r := rIsi K) call_isi (by rfl) T.n_isinstance (by decide +kernel) (pa_cons (pe_ix (r := rIxT K) ix_tup (pv 3) pe_int (fun _ _ => rfl)) (pa_cons (pe_bltn (v := .ty "str") (u := .type "str") (by rfl) T.n_str (by decide +kernel) rfl) pa_nil))))) (pw_or1 (pt_cmpR op_ne (pe_callB (id := "len") (r := _) Rd.c_lenS (by rfl) T.n_len (by decide +kernel) (pa_cons (pe_ix (r := rIxT K) ix_tup (pv 3) pe_int (fun _ _ => rfl)) pa_nil)) pe_int (nomark _)))))))
  (pss_one (ps_ret pe_bl))
  pss_nil)
  (pss_one (ps_if (PW.pt (pw_or (pt_not (pt_val (pe_call (ok_l_is_place T) (hr.mono (by decide)) rfl T.g_l_is_place T.F_l_is_place.kp T.b_l_is_place .nil pass0 (pa_cons (pe_ix (r := rIxT K) ix_tup (pv 3) pe_int (fun _ _ => rfl)) (pa_cons (pv 1) pa_nil))))) (pw_or1 (pt_not (pt_val (pe_call (ok_l_is_place T) (hr.mono (by decide)) rfl T.g_l_is_place T.F_l_is_place.kp T.b_l_is_place .nil pass0 (pa_cons (pe_ix (r := rIxT K) ix_tup (pv 3) pe_int (fun _ _ => rfl)) (pa_cons (pv 1) pa_nil))))))))
  (pss_one (ps_ret pe_bl))
  pss_nil))))
  (pss_one (ps_ret pe_bl)))), ?_⟩
    have askT : ∀ {x : Addr} {xs : List V} {H' : Hp} {Q : VK}, H' x = some (.tup xs) → Q (.bl true) H' → rIsi K [.ref x, .ty "tuple"] H' Q := fun g q => Rd.isi (.base (.tup g)) (by decide +kernel : kitB "tuple" "tuple" = some true) q
    walk_at "rd"
    refine askT gq ?_
    walk_at "rd"
    refine Rd.len (.inr (.of gq)) ?_
    rw [List.length_map, pq.length]
    walk_at "rd"
    refine Rd.no (by omega) ?_
    walk_at "rd"
    refine Rd.forS ?_
    walk_at "rd"
    refine ⟨⟨_, .of gq⟩, for_tup (K := K) (a := a) (xs := qs.map V.ref) (fun i σ H' => ∃ o3 : Option V, σ = [some (.ref a), some (.int (m : Nat)), some (.int most), o3] ∧ Same H H') ⟨_, rfl, Same.refl _⟩ (fun i σ H' _ ⟨_, _, s⟩ => .of (s _ _ gq)) ?_ ?_⟩
    · rintro i x _ H1 hx ⟨o3, rfl, s1⟩
      obtain ⟨q, hq, rfl⟩ := Rd.map_refG hx
      obtain ⟨r, hr, hRd⟩ := paired_at pq hq
      obtain ⟨r1, r2⟩ := rm r (List.mem_of_getElem? hr)
      have g := s1 _ _ hRd
      walk_at "rd"
      refine askT g ?_
      walk_at "rd"
      refine Rd.len (.inr (.of g)) ?_
      walk_at "rd"
      refine Rd.yes rfl ?_
      walk_at "rd"
      refine Rd.ixT (.of g) (Rd.atI_of (by decide) rfl) ?_
      walk_at "rd"
      refine Rd.isiStr ?_
      walk_at "rd"
      refine Rd.ixT (.of g) (Rd.atI_of (by decide) rfl) ?_
      walk_at "rd"
      refine Rd.lenStr (by rw [sizeLine_eq]; exact (by decide : 1 ≤ 16777216)) ?_
      walk_at "rd"
      refine Rd.yes rfl ?_
      walk_at "rd"
      refine Rd.ixT (.of g) (Rd.atI_of (by decide) rfl) ?_
      walk_at "rd"
      refine ⟨_, _, rfl, by omega, by omega, ?_⟩
      walk_at "rd"
      refine Rd.ixT (.of g) (Rd.atI_of (by decide) rfl) ?_
      walk_at "rd"
      refine ⟨_, _, rfl, by omega, by omega, ?_⟩
      walk_at "rd"
      exact ⟨_, rfl, s1⟩
    rintro _ H1 ⟨o3, rfl, s1⟩
    walk_at "rd"
    exact k _ s1

end
end W

namespace W
open PySem PySem.Spec PyProof.Rows L2
section
variable {P : Program} {w : World} {K : PySem.W.Frag} {mg : Str → Option Value} {base : Heap}
/-! ### parted, long words -/
open Mpt (Road roadAt oneR otherR turn mp cnt stepM unitM idx)
/-- watches that lead, as spots of the word -/
def Closed (S : List Nat) (cs : List Nat) (w : List Nat) : Prop := ∀ i, (∀ t, t < w.length → cs[i + t]? = w[t]?) → (i ∈ S ↔ i + w.length ∈ S)
theorem let_ok {c : Nat} (h : c ∈ Lt.Abc.cps.toList) : PyData.strOk ⟨#[c]⟩ = true := (Lt.Let.one h).ok
theorem one_code {cs : List Nat} (h : ∀ c ∈ cs, c ∈ Lt.Abc.cps.toList) {r : Road} (m : r ∈ oneR cs) : CodeOk r := by
  obtain ⟨k, hk, rfl, h1, h2⟩ := Mpt.road_rng m
  unfold CodeOk roadAt
  rw [List.getD_eq_getElem?_getD, List.getElem?_eq_getElem h2]
  exact let_ok (h _ (List.getElem_mem h2))
theorem other_code {cs S : List Nat} (h : ∀ c ∈ cs, c ∈ Lt.Abc.cps.toList) {r : Road} (m : r ∈ otherR cs S) : CodeOk r := by
  obtain ⟨s, ms, rfl⟩ := List.mem_map.mp m
  show CodeOk s
  exact one_code h ms
def sp_l_parts (K : PySem.W.Frag) : Sp := fun vs H Q _ => ∃ (a p t1 t2 : Addr) (ws : List Str) (z : Str) (S : List Nat), vs = [.ref a, .str z, .ref p] ∧ H a = some (.lst (ws.map V.str)) ∧ Lt.Wd 40 z ∧ H p = some (.tup [.int ((2 * (z.length + 1) : Nat) : Int), .ref t1, .ref t2]) ∧ RT H t1 (oneR z.cps.toList) ∧ RT H t2 (otherR z.cps.toList S) ∧ (∀ W ∈ ws, Closed S z.cps.toList W.cps.toList) ∧ 0 ∈ S ∧ z.length ∉ S ∧ ∀ H', Same H H' → Q (.bl true) H'
theorem catT2 {K : PySem.W.Frag} {H : Hp} {a b : Addr} {xs ys : List V} {Q : VK} (h1 : SqT K H a xs) (h2 : SqT K H b ys) (n1 : xs ≠ []) (n2 : ys ≠ []) (hz : xs.length + ys.length ≤ sizeLine) (h : Rd.NewQ (.tup (xs ++ ys)) Q H) : rCatT K (.ref a) (.ref b) H Q := ⟨a, b, xs, ys, rfl, rfl, h1, h2, n1, hz, fun e => absurd e n2, fun _ => h⟩
theorem two_new {L : List Nat} {x y : Nat} (nd : L.Nodup) (ne : x ≠ y) : (L ++ [x, y].filter fun p => !decide (p ∈ L)).Nodup := by
  rw [List.nodup_append]
  refine ⟨nd, ?_, fun a ha b hb e => ?_⟩
  · refine List.Nodup.sublist List.filter_sublist ?_
    simp [ne]
  · have := (List.mem_filter.mp hb).2
    simp at this
    exact this (e ▸ ha)
theorem ok_l_parts (T : Txt K mg) : FnOk P w K mg base CX0 3 T.f_l_parts T.fd_l_parts ["_law_watches_here", "_law_word_here", "_law_told"] (sp_l_parts K) := by
  refine T.F_l_parts.ok sc_l_parts (fun vs H Q E h => ?_) (fun cdv A outer s H vs Q E hr h => ?_)
  · obtain ⟨a, p, t1, t2, ws, z, S, rfl, _⟩ := h
    rfl
  · obtain ⟨a, p, t1, t2, ws, z, S, rfl, ga, hz, gp, R1, R2, cl, s0, sn, k⟩ := h
    refine ⟨_, (pss_cons (ps_if (PW.pt (pw_or (pt_not (pt_val (pe_callB (id := "isinstance") (r := rIsi K) call_isi (by rfl) T.n_isinstance (by decide +kernel) (pa_cons (pv 2) (pa_cons (pe_bltn (v := .ty "tuple") (u := .type "tuple") (by rfl) T.n_tuple (by decide +kernel) rfl) pa_nil))))) (pw_or (pt_cmpR op_ne (pe_callB (id := "len") (r := Rd.nLen K) Rd.c_len (by rfl) T.n_len (by decide +kernel) (pa_cons (pv 2) pa_nil)) pe_int (nomark _)) (pw_or (pt_not (pt_val (pe_callB (id := "isinstance") (r := rIsi K) call_isi (by rfl) T.n_isinstance (by decide +kernel) (pa_cons (pe_ix (r := rIxT K) ix_tup (pv 2) pe_int (fun _ _ => rfl)) (pa_cons (pe_bltn (v := .ty "int") (u := .type "int") (by rfl) T.n_int (by decide +kernel) rfl) pa_nil))))) (pw_or1 (pt_val (pe_callB (id := "isinstance") (r := rIsi K) call_isi (by rfl) T.n_isinstance (by decide +kernel) (pa_cons (pe_ix (r := rIxT K) ix_tup (pv 2) pe_int (fun _ _ => rfl)) (pa_cons (pe_bltn (v := .ty "bool") (u := .type "bool") (by rfl) T.n_bool (by decide +kernel) rfl) pa_nil)))))))))
  (pss_one (ps_ret pe_bl))
  pss_nil)
  (pss_cons (ps_for PassesOwn.never rfl (pi_tup (pe_slice (r := rSlT K) sl_tup (pv 2) (po_some pe_int) po_none)) (pg_name (i := 3) sc_l_parts.nd rfl (.inl rfl))
  (pss_one (ps_if (pt_not (pt_val (pe_call (ok_l_are_roads T) (hr.mono (by decide)) rfl T.g_l_are_roads T.F_l_are_roads.kp T.b_l_are_roads .nil pass0 (pa_cons (pv 3) (pa_cons (pe_ix (r := rIxT K) ix_tup (pv 2) pe_int (fun _ _ => rfl)) (pa_cons (pe_op op_mul pe_int (pe_callB (id := "len") (r := _) Rd.c_lenS (by rfl) T.n_len (by decide +kernel) (pa_cons (pv 1) pa_nil))) pa_nil))))))
  (pss_one (ps_ret pe_bl))
  pss_nil)))
  (pss_cons (ps_set (i := 4) sc_l_parts.nd rfl (.inr rfl) (pe_lst pa_nil))
  (pss_cons (ps_for PassesOwn.never rfl (pi_tup (pe_op (r := rCatT K) op_catT (pe_ix (r := rIxT K) ix_tup (pv 2) pe_int (fun _ _ => rfl)) (pe_ix (r := rIxT K) ix_tup (pv 2) pe_int (fun _ _ => rfl)))) (pg_name (i := 5) sc_l_parts.nd rfl (.inl rfl))
  (pss_one (ps_set (i := 4) sc_l_parts.nd rfl (.inr rfl) (pe_op op_cat (pv 4) (pe_lc (own := [("_law_place", 10)]) (g := gName 10)  rfl sc_l_parts.nd (pi_tup (pe_tup (pa_cons (pe_ix (r := rIxT K) ix_tup (pv 5) pe_int (fun _ _ => rfl)) (pa_cons (pe_ix (r := rIxT K) ix_tup (pv 5) pe_int (fun _ _ => rfl)) pa_nil)))) (blkOk_by (own := [("_law_place", 10)]) (N := ["_law_watches_here", "_law_word_here", "_law_told", "_law_roads", "_law_places", "_law_road", "_law_one", "_law_other", "_law_size", "_law_watch", "_law_place"]) (sc := defScope s_l_parts) (by decide +kernel)) (fun _ _ _ _ _ => (pg_name (i := 10) sc_l_parts.nd rfl (.inl rfl))) (fun _ _ _ _ _ => pts_one (pt_cmpR (r := rIn K true) op_notIn_seq (pv 10) (pv 4) (by rfl))) (fun _ _ _ _ _ => (pv 10)))))))
  (pss_cons (ps_set (i := 6) sc_l_parts.nd rfl (.inl rfl) (pe_call (ok_l_plain T) (hr.mono (by decide)) rfl T.g_l_plain T.F_l_plain.kp T.b_l_plain .nil pass0 (pa_cons (pe_ix (r := rIxT K) ix_tup (pv 2) pe_int (fun _ _ => rfl)) (pa_cons (pv 4) pa_nil))))
  (pss_cons (ps_set (i := 7) sc_l_parts.nd rfl (.inl rfl) (pe_call (ok_l_plain T) (hr.mono (by decide)) rfl T.g_l_plain T.F_l_plain.kp T.b_l_plain .nil pass0 (pa_cons (pe_ix (r := rIxT K) ix_tup (pv 2) pe_int (fun _ _ => rfl)) (pa_cons (pv 4) pa_nil))))
  (pss_cons (ps_set (i := 8) sc_l_parts.nd rfl (.inl rfl) (pe_callB (id := "len") (r := Rd.nLen K) Rd.c_len (by rfl) T.n_len (by decide +kernel) (pa_cons (pv 4) pa_nil)))
  (pss_cons (ps_if (PW.pt (pw_or (pt_cmpR op_ne (pe_callB (id := "len") (r := Rd.nLen K) Rd.c_len (by rfl) T.n_len (by decide +kernel) (pa_cons (pv 6) pa_nil)) (pe_callB (id := "len") (r := Rd.nLen K) Rd.c_len (by rfl) T.n_len (by decide +kernel) (pa_cons (pe_ix (r := rIxT K) ix_tup (pv 2) pe_int (fun _ _ => rfl)) pa_nil)) (nomark _)) (pw_or1 (pt_cmpR op_ne (pe_callB (id := "len") (r := Rd.nLen K) Rd.c_len (by rfl) T.n_len (by decide +kernel) (pa_cons (pv 7) pa_nil)) (pe_callB (id := "len") (r := Rd.nLen K) Rd.c_len (by rfl) T.n_len (by decide +kernel) (pa_cons (pe_ix (r := rIxT K) ix_tup (pv 2) pe_int (fun _ _ => rfl)) pa_nil)) (nomark _)))))
  (pss_one (ps_ret pe_bl))
  pss_nil)
  (pss_cons (ps_for PassesOwn.never rfl (pi_list (pv 0)) (pg_name (i := 9) sc_l_parts.nd rfl (.inl rfl))
  (pss_one (ps_if (pt_cmpR (r := rNeD K) (op_neD hr.units) (pe_call (ok_l_counts T) (hr.mono (by decide)) rfl T.g_l_counts T.F_l_counts.kp T.b_l_counts .nil pass0 (pa_cons (pv 6) (pa_cons (pv 8) (pa_cons (pv 9) pa_nil)))) (pe_call (ok_l_counts T) (hr.mono (by decide)) rfl T.g_l_counts T.F_l_counts.kp T.b_l_counts .nil pass0 (pa_cons (pv 7) (pa_cons (pv 8) (pa_cons (pv 9) pa_nil)))) (nomark _))
  (pss_one (ps_ret pe_bl))
  pss_nil)))
  (pss_one (ps_ret (pe_cmpR (r := rNeD K) (op_neD hr.units) (pe_call (ok_l_flags T) (hr.mono (by decide)) rfl T.g_l_flags T.F_l_flags.kp T.b_l_flags .nil pass0 (pa_cons (pe_call (ok_l_counts T) (hr.mono (by decide)) rfl T.g_l_counts T.F_l_counts.kp T.b_l_counts .nil pass0 (pa_cons (pv 6) (pa_cons (pv 8) (pa_cons (pv 1) pa_nil)))) pa_nil)) (pe_call (ok_l_flags T) (hr.mono (by decide)) rfl T.g_l_flags T.F_l_flags.kp T.b_l_flags .nil pass0 (pa_cons (pe_call (ok_l_counts T) (hr.mono (by decide)) rfl T.g_l_counts T.F_l_counts.kp T.b_l_counts .nil pass0 (pa_cons (pv 7) (pa_cons (pv 8) (pa_cons (pv 1) pa_nil)))) pa_nil)) (nomark _))))))))))))), ?_⟩
    have zs : z.length ≤ sizeLine := hz.line (by decide)
    have z0 := hz.l0
    have z1 := hz.l1
    obtain ⟨cs, ecs⟩ : ∃ cs, cs = z.cps.toList := ⟨_, rfl⟩
    have zl : cs.length = z.length := by rw [ecs]; exact Array.length_toList
    have ok : ∀ c ∈ cs, c ∈ Lt.Abc.cps.toList := by rw [ecs]; exact hz.ok
    rw [← ecs] at R1 R2 cl
    have askT : ∀ {x : Addr} {xs : List V} {H' : Hp} {Q : VK}, H' x = some (.tup xs) → Q (.bl true) H' → rIsi K [.ref x, .ty "tuple"] H' Q := fun g q => Rd.isi (.base (.tup g)) (by decide +kernel : kitB "tuple" "tuple" = some true) q
    obtain ⟨q1, g1, p1⟩ := id R1
    obtain ⟨q2, g2, p2⟩ := id R2
    have l1 : q1.length = 2 * z.length := by rw [p1.length, Mpt.one_len, zl]
    have l2 : q2.length = 2 * z.length := by rw [p2.length, Mpt.other_len, zl]
    walk_at "rd"
    refine askT gp ?_
    walk_at "rd"
    refine Rd.len (.inr (.of gp)) ?_
    walk_at "rd"
    refine Rd.yes rfl ?_
    walk_at "rd"
    refine Rd.ixT (.of gp) (Rd.atI_of (by decide) rfl) ?_
    walk_at "rd"
    refine Rd.isiI ?_
    walk_at "rd"
    refine Rd.ixT (.of gp) (Rd.atI_of (by decide) rfl) ?_
    walk_at "rd"
    refine Rd.isiIB ?_
    walk_at "rd"
    refine Rd.forS ?_
    walk_at "rd"
    refine Rw.sl1 (.of gp) (by simp) (Rd.new fun u G1 nu gu su => ?_)
    walk_at "rd"
    refine ⟨⟨_, .of gu⟩, for_tup (K := K) (a := u) (xs := [.ref t1, .ref t2]) (fun i σ H' => ∃ o3 : Option V, σ = [some (.ref a), some (.str z), some (.ref p), o3, none, none, none, none, none, none, none] ∧ Same H H' ∧ H' u = some (.tup [.ref t1, .ref t2])) ⟨_, rfl, su, gu⟩ (fun i σ H' _ ⟨_, _, _, g⟩ => .of g) ?_ ?_⟩
    · rintro i x _ H1 hx ⟨o3, rfl, s1, gu1⟩
      obtain ⟨t, rs, rfl, hR, rl, hr⟩ : ∃ t rs, x = .ref t ∧ RT H t rs ∧ rs.length = 2 * z.length ∧ ∀ r ∈ rs, r.1 < 2 * (z.length + 1) ∧ r.2.2 < 2 * (z.length + 1) := by
        match i, hx with
        | 0, h => cases h; exact ⟨_, _, rfl, R1, by rw [Mpt.one_len, zl], fun r m => by have := Mpt.road_lt m; rw [zl] at this; exact ⟨this.1, this.2.1⟩⟩
        | 1, h => cases h; exact ⟨_, _, rfl, R2, by rw [Mpt.other_len, zl], fun r m => by have := Mpt.other_lt m; rw [zl] at this; exact ⟨this.1, this.2.1⟩⟩
        | i + 2, h => cases h
      walk_at "rd"
      refine Rd.ixT (.of (s1 _ _ gp)) (Rd.atI_of (by decide) rfl) ?_
      walk_at "rd"
      refine Rd.lenStr zs ?_
      walk_at "rd"
      refine Rd.iC (.inl ⟨by decide, by decide⟩) ?_
      walk_at "rd"
      refine ⟨t, 2 * (z.length + 1), _, rs, rfl, hR.keep (.of s1), hr, by omega, fun H2 s2 => ?_⟩
      walk_at "rd"
      exact ⟨_, rfl, s1.trans s2, s2 _ _ gu1⟩
    rintro _ H1 ⟨o3, rfl, s1, _⟩
    walk_at "rd"
    refine ⟨Nat.zero_le _, Rd.new fun b0 G2 nb0 gb0 sb0 => ?_⟩
    have s2 := s1.trans sb0
    walk_at "rd"
    refine Rd.forS ?_
    walk_at "rd"
    refine Rd.ixT (.of (s2 _ _ gp)) (Rd.atI_of (by decide) rfl) ?_
    walk_at "rd"
    refine Rd.ixT (.of (s2 _ _ gp)) (Rd.atI_of (by decide) rfl) ?_
    have n1 : q1.map V.ref ≠ [] := fun e => by have := congrArg List.length e; rw [List.length_map, l1] at this; simp at this; omega
    have n2 : q2.map V.ref ≠ [] := fun e => by have := congrArg List.length e; rw [List.length_map, l2] at this; simp at this; omega
    refine catT2 (.of (s2 _ _ g1)) (.of (s2 _ _ g2)) n1 n2 (by rw [List.length_map, List.length_map, l1, l2, sizeLine_eq]; omega) (Rd.new fun v G3 nv gv sv => ?_)
    walk_at "rd"
    rw [← List.map_append] at gv
    have s3 := s2.trans sv
    have pA : Paired (RdAt H) (q1 ++ q2) (oneR cs ++ otherR cs S) := paired_app p1 p2
    have rA : ∀ r ∈ oneR cs ++ otherR cs S, r.1 < 2 * (cs.length + 1) ∧ r.2.2 < 2 * (cs.length + 1) ∧ r.1 ≠ r.2.2 := fun r m => (List.mem_append.mp m).elim Mpt.road_lt Mpt.other_lt
    have lA : (q1 ++ q2).length ≤ 160 := by rw [List.length_append, l1, l2]; omega
    refine ⟨⟨_, .of gv⟩, for_tup (K := K) (a := v) (xs := (q1 ++ q2).map V.ref) (fun i σ H' => ∃ (b : Addr) (L : List Nat) (o5 : Option V), σ = [some (.ref a), some (.str z), some (.ref p), o3, some (.ref b), o5, none, none, none, none, none] ∧ Same H H' ∧ H' v = some (.tup ((q1 ++ q2).map V.ref)) ∧ H' b = some (.lst (natV L)) ∧ L.Nodup ∧ (∀ x ∈ L, x < 2 * (cs.length + 1)) ∧ (∀ r ∈ (oneR cs ++ otherR cs S).take i, r.1 ∈ L ∧ r.2.2 ∈ L) ∧ L.length ≤ 2 * i)
      ⟨b0, [], _, rfl, s3, gv, sv _ _ gb0, .nil, fun x m => (nomatch m), fun r m => (nomatch m), Nat.le_refl _⟩ (fun i σ H' _ ⟨_, _, _, _, _, g, _⟩ => .of g) ?_ ?_⟩
    · rintro i x _ H4 hx ⟨b, L, o5, rfl, s4, gv4, gb, nd, lt, mem, ll⟩
      obtain ⟨q, hq, rfl⟩ := Rd.map_refG hx
      obtain ⟨r, hr, hRd⟩ := paired_at pA hq
      obtain ⟨r1, r2, r12⟩ := rA r (List.mem_of_getElem? hr)
      have g := s4 _ _ hRd
      have il : i < (q1 ++ q2).length := (List.getElem?_eq_some_iff.mp hq).1
      walk_at "rd"
      refine Rd.ixT (.of g) (Rd.atI_of (by decide) rfl) ?_
      walk_at "rd"
      refine Rd.ixT (.of g) (Rd.atI_of (by decide) rfl) ?_
      walk_at "rd"
      refine ⟨Nat.le_of_ble_eq_true rfl, Rd.new fun e5 H5 ne5 ge5 s5 => ?_⟩
      walk_at "rd"
      refine ⟨⟨_, .of ge5⟩, Rd.lcS walk_tup (fun _ s => .of (s _ _ ge5)) (fun D j acc _ => acc = natV (([r.1, r.2.2].take j).filter fun p => !decide (p ∈ L))) (fun _ _ _ _ _ => rfl) ?_ ?_⟩
      · rintro D j y _ G acc nD hj hD sm rfl ⟨rfl, hy⟩
        obtain ⟨w, hw, rfl⟩ : ∃ w : Nat, [r.1, r.2.2][j]? = some w ∧ y = .int (w : Int) := by
          match j, hy with
          | 0, h => cases h; exact ⟨_, rfl, rfl⟩
          | 1, h => cases h; exact ⟨_, rfl, rfl⟩
          | j + 2, h => cases h
        walk_at "rd"
        refine ⟨rfl, ?_⟩
        walk_at "rd"
        refine Rd.inIntsN (.inl (.of (sm _ _ (s5 _ _ gb)))) ?_
        by_cases m : w ∈ L
        · rw [decide_eq_true (mem_nat.mpr m)]
          walk_at "rd"
          refine ⟨_, hD, sm, ?_⟩
          dsimp only
          rw [Rd.take_snoc hw, List.filter_append]
          simp [m]
        · rw [decide_eq_false (fun q => m (mem_nat.mp q))]
          walk_at "rd"
          refine Rd.lcPush hD nD sm (by rw [natV_len, sizeLine_eq]; have := List.length_filter_le (fun p => !decide (p ∈ L)) ([r.1, r.2.2].take j); rw [List.length_take] at this; simp at this; omega) fun G4 _ _ => ?_
          rw [Rd.take_snoc hw, List.filter_append, natV_app]
          simp [m]
          rfl
      rintro D acc G nD hD sm rfl
      replace hD : G D = some (.lst (natV ([r.1, r.2.2].filter fun p => !decide (p ∈ L)))) := hD
      have s5G := s5.trans sm
      refine Rd.cat (s5G _ _ gb) hD (by
        rw [natV_len, natV_len, sizeLine_eq]
        have := List.length_filter_le (fun p => !decide (p ∈ L)) [r.1, r.2.2]
        simp at this
        omega) (Rd.new fun b2 G6 nb2 gb2 s6 => ?_)
      walk_at "rd"
      have s56 := s5G.trans s6
      refine ⟨b2, L ++ [r.1, r.2.2].filter (fun p => !decide (p ∈ L)), _, rfl, s4.trans s56, s56 _ _ gv4, by rw [natV_app]; exact gb2, two_new nd r12, fun x m => ?_, fun r' m => ?_, ?_⟩
      · rcases List.mem_append.mp m with m | m
        · exact lt x m
        · have := (List.mem_filter.mp m).1
          simp at this
          rcases this with rfl | rfl
          · exact r1
          · exact r2
      · rw [Rd.take_snoc hr] at m
        rcases List.mem_append.mp m with m | m
        · have := mem r' m
          exact ⟨List.mem_append_left _ this.1, List.mem_append_left _ this.2⟩
        · rw [List.mem_singleton.mp m]
          have one : ∀ x ∈ [r.1, r.2.2], x ∈ L ++ [r.1, r.2.2].filter (fun p => !decide (p ∈ L)) := fun x mx => by
            by_cases c : x ∈ L
            · exact List.mem_append_left _ c
            · exact List.mem_append_right _ (List.mem_filter.mpr ⟨mx, by simpa using c⟩)
          exact ⟨one _ (List.mem_cons_self ..), one _ (List.mem_cons_of_mem _ (List.mem_cons_self ..))⟩
      · rw [List.length_append]
        have := List.length_filter_le (fun p => !decide (p ∈ L)) [r.1, r.2.2]
        simp at this
        omega
    rintro _ H4 ⟨b, L, o5, rfl, s4, _, gb, nd, lt, mem, ll⟩
    rw [List.length_map, pA.length, List.take_length] at mem
    rw [List.length_map] at ll
    have m1 : ∀ r ∈ oneR cs, r.1 ∈ L ∧ r.2.2 ∈ L := fun r m => mem r (List.mem_append_left _ m)
    have m2 : ∀ r ∈ otherR cs S, r.1 ∈ L ∧ r.2.2 ∈ L := fun r m => mem r (List.mem_append_right _ m)
    walk_at "rd"
    refine Rd.ixT (.of (s4 _ _ gp)) (Rd.atI_of (by decide) rfl) ?_
    walk_at "rd"
    refine ⟨t1, b, L, _, rfl, R1.keep (.of s4), gb, fun r m => ⟨m1 r m, one_code ok m⟩, Mpt.one_pair cs, by rw [Mpt.one_len]; omega, fun f1 H5 s5 nf1 RF1 => ?_⟩
    have s45 := s4.trans s5
    walk_at "rd"
    refine Rd.ixT (.of (s45 _ _ gp)) (Rd.atI_of (by decide) rfl) ?_
    walk_at "rd"
    refine ⟨t2, b, L, _, rfl, R2.keep (.of s45), s5 _ _ gb, fun r m => ⟨m2 r m, other_code ok m⟩, Mpt.other_pair cs S, by rw [Mpt.other_len]; omega, fun f2 H6 s6 nf2 RF2 => ?_⟩
    have s46 := s45.trans s6
    have RF1' := RF1.same s6
    walk_at "rd"
    refine Rd.len (.inl (.of (s6 _ _ (s5 _ _ gb)))) ?_
    rw [natV_len]
    walk_at "rd"
    obtain ⟨u1, v1, w1⟩ := id RF1'
    refine Rd.len (.inl (.of v1)) ?_
    walk_at "rd"
    refine Rd.ixT (.of (s46 _ _ gp)) (Rd.atI_of (by decide) rfl) ?_
    walk_at "rd"
    refine Rd.len (.inr (.of (s46 _ _ g1))) ?_
    walk_at "rd"
    refine Rd.yes (by rw [List.length_map, w1.length, List.length_map, List.length_map, p1.length]) ?_
    walk_at "rd"
    obtain ⟨u2, v2, w2⟩ := id RF2
    refine Rd.len (.inl (.of v2)) ?_
    walk_at "rd"
    refine Rd.ixT (.of (s46 _ _ gp)) (Rd.atI_of (by decide) rfl) ?_
    walk_at "rd"
    refine Rd.len (.inr (.of (s46 _ _ g2))) ?_
    walk_at "rd"
    refine Rd.yes (by rw [List.length_map, w2.length, List.length_map, List.length_map, p2.length]) ?_
    walk_at "rd"
    have L1000 : L.length ≤ 1000 := by omega
    have rn : ∀ (rs : List Road), (∀ r ∈ rs, r.1 ∈ L ∧ r.2.2 ∈ L) → ∀ r ∈ rs.map (mp (idx L)), r.1 < L.length ∧ r.2.2 < L.length := fun rs h r m => by
      obtain ⟨y, my, rfl⟩ := List.mem_map.mp m
      exact ⟨List.idxOf_lt_length_iff.mpr (h y my).1, List.idxOf_lt_length_iff.mpr (h y my).2⟩
    refine Rd.forS ?_
    walk_at "rd"
    refine ⟨⟨_, .of (s46 _ _ ga)⟩, for_list (K := K) (a := a) (xs := ws.map V.str) (fun i σ H' => ∃ o9 : Option V, σ = [some (.ref a), some (.str z), some (.ref p), o3, some (.ref b), o5, some (.ref f1), some (.ref f2), some (.int (L.length : Nat)), o9, none] ∧ Same H6 H') ⟨_, rfl, Same.refl _⟩ (fun i σ H' _ ⟨_, _, s⟩ => .of (s _ _ (s46 _ _ ga))) ?_ ?_⟩
    · rintro i x _ H7 hx ⟨o9, rfl, s7⟩
      obtain ⟨W, hW, rfl⟩ := Rd.map_strG hx
      walk_at "rd"
      refine ⟨f1, L.length, W, _, rfl, RF1'.same s7, rn _ m1, L1000, fun c1 H8 s8 _ T1 => ?_⟩
      walk_at "rd"
      refine ⟨f2, L.length, W, _, rfl, (RF2.same s7).same s8, rn _ m2, L1000, fun c2 H9 s9 _ T2 => ?_⟩
      have eq : ∀ i j, i < L.length → j < L.length → cnt ((oneR cs).map (mp (idx L))) W.cps.toList i j = cnt ((otherR cs S).map (mp (idx L))) W.cps.toList i j := fun i j hi hj => Mpt.watch_same nd lt m1 m2 (cl W (List.mem_of_getElem? hW)) hi hj
      refine neData (T1.same s9).dp (T2.congr fun i j hi hj => (eq i j hi hj).symm).dp (shaped_of (tblLD_lay _ _) (Nat.le_trans (tblLD_depth _ _) (by decide))) ?_
      walk_at "rd"
      exact ⟨_, rfl, (s7.trans s8).trans s9⟩
    rintro _ H7 ⟨o9, rfl, s7⟩
    walk_at "rd"
    refine ⟨f1, L.length, z, _, rfl, RF1'.same s7, rn _ m1, L1000, fun c1 H8 s8 _ T1 => ?_⟩
    walk_at "rd"
    refine ⟨c1, L.length, _, rfl, T1, L1000, fun h1 H9 s9 F1 => ?_⟩
    walk_at "rd"
    have s79 := (s7.trans s8).trans s9
    refine ⟨f2, L.length, z, _, rfl, RF2.same s79, rn _ m2, L1000, fun c2 HA sA _ T2 => ?_⟩
    walk_at "rd"
    refine ⟨c2, L.length, _, rfl, T2, L1000, fun h2 HB sB F2 => ?_⟩
    obtain ⟨P, R, hP, hR, e1, e2⟩ := Mpt.word_unlike (L := L) (by omega) lt m1 m2 s0 (by rw [zl]; exact sn)
    rw [← ecs] at F1 F2
    refine neFlg (F1.same (sA.trans sB)) F2 hP hR (by rw [e1, e2]; decide) ?_
    exact k _ ((s46.trans s79).trans (sA.trans sB))

end
end W

namespace W
open PySem PySem.Spec PyProof.Rows L2
section
variable {P : Program} {w : World} {K : PySem.W.Frag} {mg : Str → Option Value} {base : Heap}
/-! ### the law -/
open Mpt (Road roadAt oneR otherR turn mp cnt stepM unitM idx)
theorem mkB {C : Addr} {H : Hp} {Q : VK} {E : XK} {a : Addr} {ws : List Str} (h : H a = some (.lst (ws.map V.str))) (L : Watches ws) (k : ∀ b H', BookAt C H' b ws → Same H H' → Q (.ref b) H') : Rd.MkG C (sp_Book_init K C) [] E [.ref a] H Q := by
  refine Rd.mk fun b dx G nb nd ne gb s off => ?_
  exact ⟨b, a, ws, rfl, ⟨dx, gb⟩, .inl (.of (s _ _ h)), L, fun H' hB bt => ⟨rfl, k b H' hB fun q o e => bt q o (ne_of_none e nb) (s _ _ e)⟩⟩
/-- the spots to which watches lead from the begin -/
noncomputable def led (ws : List Str) (z : Str) : List Nat := Mc.cls (Mw.Adj ws z) z.length 0
/-- what parting_roads answers -/
def Parting (H' : Hp) (ws : List Str) (z : Str) (r : V) : Prop := (r = .non ∧ Mw.Told ws z) ∨ (¬ Mw.Told ws z ∧ ∃ p t1 t2, r = .ref p ∧ H' p = some (.tup [.int ((2 * (z.length + 1) : Nat) : Int), .ref t1, .ref t2]) ∧ RT H' t1 (oneR z.cps.toList) ∧ RT H' t2 (otherR z.cps.toList (led ws z)))
theorem Parting.keep {H H' : Hp} {ws : List Str} {z : Str} {r : V} (h : Parting H ws z r) (k : TK H H') : Parting H' ws z r := h.imp id fun ⟨h1, p, t1, t2, e, g, a, b⟩ => ⟨h1, p, t1, t2, e, k _ _ g, a.keep k, b.keep k⟩
def sp_parting_roads (K : PySem.W.Frag) (C : Addr) : Sp := fun vs H Q _ => ∃ (b : Addr) (ws : List Str) (z : Str), vs = [.ref b, .str z] ∧ BookAt C H b ws ∧ Watches ws ∧ Lt.Wd 40 z ∧ ∀ (r : V) H', Same H H' → Parting H' ws z r → Q r H'
theorem ok_parting_roads (T : Txt K mg) : FnOk P w K mg base CX0 6 T.f_parting_roads T.fd_parting_roads ["book", "word"] (sp_parting_roads K T.C_Book) := by
  refine T.F_parting_roads.ok sc_parting_roads (fun vs H Q E h => ?_) (fun cdv A outer s H vs Q E hr h => ?_)
  · obtain ⟨b, ws, z, rfl, _⟩ := h
    rfl
  · obtain ⟨b, ws, z, rfl, hB, W, hz, k⟩ := h
    refine ⟨_, (pss_cons (ps_expr (pe_call (ok_check_book T) (hr.mono (by decide)) rfl T.g_check_book T.F_check_book.kp T.b_check_book .nil pass0 (pa_cons (pv 0) pa_nil)))
  (pss_cons (ps_expr (pe_call (ok_check_word T) (hr.mono (by decide)) rfl T.g_check_word T.F_check_word.kp T.b_check_word .nil pass0 (pa_cons (pv 1) pa_nil)))
  (pss_cons (ps_set (i := 2) sc_parting_roads.nd rfl (.inl rfl) (pe_call (ok_cut T) (hr.mono (by decide)) rfl T.g_cut T.F_cut.kp T.b_cut .nil pass0 (pa_cons (pv 0) (pa_cons (pv 1) pa_nil))))
  (pss_one (ps_ret (pe_ifExp (pt_cmpR op_isN (pv 2) pe_non (nomark _)) pe_non (pe_call (ok_two_copies T) (hr.mono (by decide)) rfl T.g_two_copies T.F_two_copies.kp T.b_two_copies .nil pass0 (pa_cons (pv 1) (pa_cons (pv 2) pa_nil))))))))), ?_⟩
    walk_at "rd"
    refine ⟨b, ws, rfl, hB, ?_⟩
    walk_at "rd"
    refine ⟨z, rfl, hz, fun H1 s1 => ?_⟩
    walk_at "rd"
    refine ⟨b, ws, z, rfl, hB.same s1, W, hz, fun r H2 s2 an => ?_⟩
    walk_at "rd"
    have z1 := hz.l1
    rcases an with ⟨rfl, t⟩ | ⟨t, q, rfl, gq, nq⟩
    · refine ⟨rfl, ?_⟩
      walk_at "rd"
      refine ite2 (fun _ => ?_) (fun c => absurd rfl c)
      walk_at "rd"
      exact k _ _ (s1.trans s2) (.inl ⟨rfl, t⟩)
    · refine ⟨rfl, ?_⟩
      walk_at "rd"
      refine ite2 (fun c => nomatch c) (fun _ => ?_)
      walk_at "rd"
      refine ⟨q, z, led ws z, rfl, gq, by omega, fun p t1 t2 H3 s3 np gp R1 R2 => ?_⟩
      exact k _ _ ((s1.trans s2).trans s3) (.inr ⟨t, p, t1, t2, rfl, gp, R1, R2⟩)
/-! long words -/
def sp_l_long (K : PySem.W.Frag) : Sp := fun vs H Q _ => ∃ (t : Addr) (L : Str), vs = [.ref t, .str L] ∧ Pool H t ∧ Lt.Let L ∧ 1 ≤ L.length ∧ L.length ≤ 1000 ∧
  ∀ (p l : Addr) (z : Str) (ws : List Str) H', Pool H' t → Dr t H H' → p ≠ t → l ≠ t → H' p = some (.lst [.str z, .ref l]) → H' l = some (.lst (ws.map V.str)) → Lt.Wd 40 z → ws.Nodup → ws.length ≤ 9 → (∀ y ∈ ws, Lt.Wd 12 y) → Q (.ref p) H'
theorem ok_l_long (T : Txt K mg) : FnOk P w K mg base CX0 3 T.f_l_long T.fd_l_long ["_law_pool_here", "_law_letters_here"] (sp_l_long K) := by
  refine T.F_l_long.ok sc_l_long (fun vs H Q E h => ?_) (fun cdv A outer s H vs Q E hr h => ?_)
  · obtain ⟨t, L, rfl, _⟩ := h
    rfl
  · obtain ⟨t, L, rfl, pl, hL, L0, L1, k⟩ := h
    refine ⟨_, (pss_cons (ps_set (i := 2) sc_l_long.nd rfl (.inl rfl) (pe_call (ok_l_word T) (hr.mono (by decide)) rfl T.g_l_word T.F_l_word.kp T.b_l_word .nil pass0 (pa_cons (pv 0) (pa_cons (pv 1) (pa_cons (pe_op op_add pe_int (pe_call (ok_l_draw T) (hr.mono (by decide)) rfl T.g_l_draw T.F_l_draw.kp T.b_l_draw .nil pass0 (pa_cons (pv 0) (pa_cons pe_int pa_nil)))) pa_nil)))))
  (pss_cons (ps_set (i := 3) sc_l_long.nd rfl (.inl rfl) (pe_slice sl_str (pe_op Rx.o_repS (pv 2) pe_int) po_none (po_some (pe_op op_add pe_int (pe_call (ok_l_draw T) (hr.mono (by decide)) rfl T.g_l_draw T.F_l_draw.kp T.b_l_draw .nil pass0 (pa_cons (pv 0) (pa_cons pe_int pa_nil)))))))
  (pss_cons (ps_set (i := 4) sc_l_long.nd rfl (.inl rfl) (pe_lst pa_nil))
  (pss_cons (ps_for PassesOwn.never rfl (pi_range1 rfl T.n_range (pa_cons (pe_op op_add pe_int (pe_call (ok_l_draw T) (hr.mono (by decide)) rfl T.g_l_draw T.F_l_draw.kp T.b_l_draw .nil pass0 (pa_cons (pv 0) (pa_cons pe_int pa_nil)))) pa_nil)) (pg_name (i := 5) sc_l_long.nd rfl (.inl rfl))
  (pss_cons (ps_set (i := 6) sc_l_long.nd rfl (.inl rfl) (pe_call (ok_l_draw T) (hr.mono (by decide)) rfl T.g_l_draw T.F_l_draw.kp T.b_l_draw .nil pass0 (pa_cons (pv 0) (pa_cons (pe_callB (id := "len") (r := _) Rd.c_lenS (by rfl) T.n_len (by decide +kernel) (pa_cons (pv 3) pa_nil)) pa_nil))))
  (pss_cons (ps_set (i := 7) sc_l_long.nd rfl (.inl rfl) (pe_slice sl_str (pv 3) (po_some (pv 6)) (po_some (pe_op op_add (pe_op op_add (pv 6) pe_int) (pe_call (ok_l_draw T) (hr.mono (by decide)) rfl T.g_l_draw T.F_l_draw.kp T.b_l_draw .nil pass0 (pa_cons (pv 0) (pa_cons (pe_callB (id := "min") (r := _) (Rd.c_min2 rfl) (by rfl) T.n_min (by decide +kernel) (pa_cons pe_int (pa_cons (pe_op op_sub (pe_callB (id := "len") (r := _) Rd.c_lenS (by rfl) T.n_len (by decide +kernel) (pa_cons (pv 3) pa_nil)) (pv 6)) pa_nil))) pa_nil)))))))
  (pss_one (ps_if (pt_cmpR (r := rIn K true) op_notIn_seq (pv 7) (pv 4) (by rfl))
  (pss_one (ps_expr (pe_bm PySem.F.plainAttrs_list PySem.F.slot_list_append PySem.F.type_list_append mt_append (pv 4) (pa_cons (pv 7) pa_nil))))
  pss_nil)))))
  (pss_one (ps_ret (pe_lst (pa_cons (pv 3) (pa_cons (pv 4) pa_nil))))))))), ?_⟩
    walk_at "rd"
    refine drawP pl (by decide) (by decide) fun r H1 r0 r1 pl1 dr1 => ?_
    walk_at "rd"
    refine ⟨t, L, 1 + r, rfl, pl1, hL, L0, L1, by omega, by omega, fun y H2 sy yl pl2 dr2 => ?_⟩
    have dr02 := dr1.trans dr2
    walk_at "rd"
    refine Rx.repS (mul_ok (y := y) (n := 40) (by omega) (by decide)) ?_
    have ml : (Txt.mul y (40 : Int)).length = 40 * y.length := mul_ln y 40
    have mlet : Lt.Let (Txt.mul y (40 : Int)) := fun c m => sy.let hL c (mul_mem (n := 40) m)
    walk_at "rd"
    refine drawP pl2 (by decide) (by decide) fun x H3 x0 x1 pl3 dr3 => ?_
    walk_at "rd"
    refine Rd.slS (by rw [ml, sizeLine_eq]; omega) ?_
    have zl := Lt.cut_to (z := Txt.mul y (40 : Int)) (b := 10 + x) (by omega)
    have hz : Lt.Let (cutS (Txt.mul y (40 : Int)) none (some (10 + x))) := mlet.cut _ _
    generalize cutS (Txt.mul y (40 : Int)) none (some (10 + x)) = z at zl hz
    have z40 : z.length ≤ 40 ∧ 10 ≤ z.length := by omega
    have zs : z.length ≤ sizeLine := by rw [sizeLine_eq]; omega
    have dr03 := dr02.trans dr3
    walk_at "rd"
    refine ⟨Nat.zero_le _, Rd.new fun l H4 nl gl s4 => ?_⟩
    have pl4 := pl3.same s4
    have dr04 := dr03.same pl3 s4
    have ap4 := (pl3.new nl).same pl3 s4
    have nl0 := dr03.free pl3 nl
    walk_at "rd"
    refine Rd.forS ?_
    walk_at "rd"
    refine drawP pl4 (by decide) (by decide) fun r5 H5 r50 r51 pl5 dr5 => ?_
    walk_at "rd"
    refine ⟨by omega, by omega, ?_⟩
    refine for_range (lo := 0) (n := (1 + r5).toNat) (fun i σ H' => ∃ (ws : List Str) (o5 o6 o7 : Option V), σ = [some (.ref t), some (.str L), some (.str y), some (.str z), some (.ref l), o5, o6, o7] ∧ Pool H' t ∧ Dr t H H' ∧ H' l = some (.lst (ws.map V.str)) ∧ Ap H' t l ∧ ws.Nodup ∧ ws.length ≤ i ∧ (∀ y ∈ ws, Lt.Wd 12 y))
      ⟨[], _, _, _, rfl, pl5, dr04.trans dr5, dr5.but _ _ ap4.1 gl, dr5.ap _ _ gl ap4, .nil, Nat.le_refl _, fun y m => (nomatch m)⟩ ?_ ?_
    · clear pl4 dr04 ap4 pl5 dr5 gl s4
      rintro i _ H6 hi ⟨ws, o5, o6, o7, rfl, pl6, dr6, gl6, ap6, nd, wl, wok⟩
      walk_at "rd"
      refine Rd.lenStr zs ?_
      walk_at "rd"
      refine drawP pl6 (by omega) (by omega) fun s H7 s0 s1 pl7 dr7 => ?_
      have dr07 := dr6.trans dr7
      have gl7 := dr7.but _ _ ap6.1 gl6
      have ap7 := dr7.ap _ _ gl6 ap6
      walk_at "rd"
      refine Rd.lenStr zs ?_
      walk_at "rd"
      refine drawP pl7 (by omega) (by omega) fun e H8 e0 e1 pl8 dr8 => ?_
      have dr08 := dr07.trans dr8
      have gl8 := dr8.but _ _ ap7.1 gl7
      have ap8 := dr8.ap _ _ gl7 ap7
      walk_at "rd"
      refine Rd.slS zs ?_
      walk_at "rd"
      have cl := Lt.cut_lenI (z := z) (a := s) (b := s + 1 + e) s0 (by omega) (by omega)
      have pw : Lt.Wd 12 (cutS z (some s) (some (s + 1 + e))) := ⟨hz.cut _ _, by omega, by omega⟩
      generalize cutS z (some s) (some (s + 1 + e)) = W at pw cl
      refine Rd.inStrsN (.inl (.of gl8)) ?_
      by_cases c : W ∈ ws
      · rw [decide_eq_true c]
        walk_at "rd"
        exact ⟨ws, _, _, _, rfl, pl8, dr08, gl8, ap8, nd, by omega, wok⟩
      · rw [decide_eq_false c]
        walk_at "rd"
        refine Rd.tyL (.of gl8) ?_
        walk_at "rd"
        refine Rd.app gl8 (by rw [List.length_map, sizeLine_eq]; omega) fun G g off => ?_
        walk_at "rd"
        refine ⟨ws ++ [W], _, _, _, rfl, pl8.off ap8 off, dr08.off nl0 ap8 off, by rw [List.map_append]; exact g, Ap.off ap8 off ap8, snoc_nodup nd c, by rw [List.length_append]; show _ + 1 ≤ _; omega, fun y m => ?_⟩
        rcases List.mem_append.mp m with m | m
        · exact wok y m
        · rw [List.mem_singleton.mp m]
          exact pw
    rintro _ H6 ⟨ws, o5, o6, o7, rfl, pl6, dr6, gl6, ap6, nd, wl, wok⟩
    walk_at "rd"
    refine ⟨Nat.le_of_ble_eq_true rfl, Rd.new fun p H7 np gp s7 => ?_⟩
    exact k p l z ws H7 (pl6.same s7) (dr6.same pl6 s7) (pl6.new np).1 ap6.1 gp (s7 _ _ gl6) ⟨hz, by omega, by omega⟩ nd (by omega) wok
/-! what is told, compared -/
noncomputable def partD (ws : List Str) (z : Str) : PyData := .tuple [.int ((2 * (z.length + 1) : Nat) : Int), .tuple ((oneR z.cps.toList).map roadD), .tuple ((otherR z.cps.toList (led ws z)).map roadD)]
theorem part_shaped {ws : List Str} {z : Str} (hz : Lt.Let z) : SeqAt.shaped (partD ws z) = true := by
  refine shaped_of ?_ ?_
  · show (true && (PyData.canLayAll0 _ && (PyData.canLayAll0 _ && true))) = true
    rw [roads_lay fun r m => one_code hz m, roads_lay fun r m => other_code hz m]
    rfl
  · have h1 := roads_depth (oneR z.cps.toList)
    have h2 := roads_depth (otherR z.cps.toList (led ws z))
    show max 0 (max (PyData.depthAll _ + 1) (max (PyData.depthAll _ + 1) 0)) + 1 ≤ 4
    omega
theorem nePart {K : PySem.W.Frag} {H : Hp} {ws : List Str} {z : Str} {r r' : V} {Q : VK} (hz : Lt.Let z) (h : Parting H ws z r) (h' : Parting H ws z r') (q : Q (.bl false) H) : rNeD K r r' H Q := by
  rcases h with ⟨rfl, t⟩ | ⟨t, p, t1, t2, rfl, g, a, b⟩
  · rcases h' with ⟨rfl, _⟩ | ⟨t', _⟩
    · exact ⟨.none, .none, .non, .non, by decide, by decide, q⟩
    · exact absurd t t'
  · rcases h' with ⟨rfl, t'⟩ | ⟨t', p', u1, u2, rfl, g', a', b'⟩
    · exact absurd t' t
    · refine ⟨partD ws z, partD ws z, .tup (.of g) (.cons (.int _) (.cons a.dp (.cons b.dp .nil))), .tup (.of g') (.cons (.int _) (.cons a'.dp (.cons b'.dp .nil))), part_shaped hz, part_shaped hz, ?_⟩
      rw [SeqAt.eqv_refl _ (SeqAt.canLay_of_shaped (part_shaped hz))]
      exact q
theorem isN_part {H : Hp} {ws : List Str} {z : Str} {r : V} (h : Parting H ws z r) : decide (r = V.non) = true ↔ Mw.Told ws z := by
  rcases h with ⟨rfl, t⟩ | ⟨t, p, t1, t2, rfl, _⟩
  · simp [t]
  · simp [t]
theorem closed_led {ws : List Str} {z : Str} (W : Watches ws) : ∀ w ∈ ws, Closed (led ws z) z.cps.toList w.cps.toList := fun w m i h => by
  have zl : z.cps.toList.length = z.length := Array.length_toList
  have wl : w.cps.toList.length = w.length := Array.length_toList
  have w1 := (W.ok w m).l0
  have bd : i + w.length ≤ z.length := by
    have := h (w.length - 1) (by omega)
    rw [List.getElem?_eq_getElem (show w.length - 1 < w.cps.toList.length by omega)] at this
    have := (List.getElem?_eq_some_iff.mp this).1
    omega
  have oc : Mw.Occ w z i := by
    refine ⟨bd, PySem.W.str_of_cps ?_⟩
    rw [show (i : Int) + (w.length : Int) = ((i + w.length : Nat) : Int) by omega]
    show ((z.cps.toList.drop (HT.sIx z.length 0 (some (i : Int)))).take (HT.sIx z.length z.length (some ((i + w.length : Nat) : Int)) - HT.sIx z.length 0 (some (i : Int)))).toArray.toList = _
    rw [HT.sIx_nat, HT.sIx_nat, Nat.min_eq_left (show i ≤ z.length by omega), Nat.min_eq_left bd]
    show List.take (i + w.length - i) (List.drop i z.cps.toList) = _
    refine List.ext_getElem? fun t => ?_
    by_cases c : t < w.length
    · rw [List.getElem?_take_of_lt (by omega), List.getElem?_drop]
      exact h t (by omega)
    · rw [List.getElem?_eq_none (by rw [List.length_take, List.length_drop]; omega), List.getElem?_eq_none (by omega)]
  have ad : Mw.Adj ws z i (i + w.length) := ⟨w, m, .inl ⟨oc, rfl⟩⟩
  rw [wl]
  unfold led
  rw [Mc.mem_cls, Mc.mem_cls]
  exact ⟨fun x => ⟨bd, x.2.step ad⟩, fun x => ⟨by omega, x.2.step (Mw.Adj.symm _ _ ad)⟩⟩
theorem told_rev {ws : List Str} {z : Str} : Mw.Told ws.reverse z ↔ Mw.Told ws z := by
  unfold Mw.Told
  refine Mw.Star.iff fun i j => ?_
  unfold Mw.Adj
  simp only [List.mem_reverse]
theorem lstT {K : PySem.W.Frag} {σ : L2.St} {H : Hp} {a : Addr} {xs : List V} {n : Nat} {t : TGs} {Q : L2.St → Hp → Prop} (hp : SqL K H a xs) (hn : xs.length = n) (h : t xs σ H Q) : gLst K n t (.ref a) σ H Q := ⟨a, xs, rfl, hp, hn, h⟩
def sp_law (K : PySem.W.Frag) : Sp := fun vs H Q _ => ∃ (a : Addr) (ns : List Int), vs = [.ref a] ∧ SqL K H a (ns.map V.int) ∧ ns.length ≤ 63 ∧ ∀ H', Q (.bl true) H'
theorem ok_law (T : Txt K mg) : FnOk P w K mg base CX0 7 T.f_law T.fd_law ["_law_script"] (sp_law K) := by
  refine T.F_law.ok sc_law (fun vs H Q E h => ?_) (fun cdv A outer s H vs Q E hr h => ?_)
  · obtain ⟨a, ns, rfl, _⟩ := h
    rfl
  · obtain ⟨a, ns, rfl, ha, hn, k⟩ := h
    refine ⟨_, (pss_cons (ps_set (i := 1) sc_law.nd rfl (.inl rfl) (pe_call (ok_l_pool T) (hr.mono (by decide)) rfl T.g_l_pool T.F_l_pool.kp T.b_l_pool .nil pass0 (pa_cons (pv 0) pa_nil)))
  (pss_cons (ps_set (i := 2) sc_law.nd rfl (.inl rfl) (pe_call (ok_l_letters T) (hr.mono (by decide)) rfl T.g_l_letters T.F_l_letters.kp T.b_l_letters .nil pass0 (pa_cons (pv 1) (pa_cons (pe_op op_add pe_int (pe_call (ok_l_draw T) (hr.mono (by decide)) rfl T.g_l_draw T.F_l_draw.kp T.b_l_draw .nil pass0 (pa_cons (pv 1) (pa_cons pe_int pa_nil)))) pa_nil))))
  (pss_cons (ps_for PassesOwn.never rfl (pi_range1 rfl T.n_range (pa_cons pe_int pa_nil)) (pg_name (i := 3) sc_law.nd rfl (.inl rfl))
  (pss_cons (ps_asg (pe_call (ok_l_book_word T) (hr.mono (by decide)) rfl T.g_l_book_word T.F_l_book_word.kp T.b_l_book_word .nil pass0 (pa_cons (pv 1) (pa_cons pe_int (pa_cons (pv 2) pa_nil)))) (pg_lst rfl (pgs_cons (pg_name (i := 4) sc_law.nd rfl (.inl rfl)) (pgs_cons (pg_name (i := 5) sc_law.nd rfl (.inl rfl)) pgs_nil))))
  (C8.pss_cut (ps_if (PW.pt (pw_and (pt_cmpR op_eq (pv 3) pe_int (nomark _)) (pw_and1 (pt_cmpR op_eq (pe_call (ok_l_draw T) (hr.mono (by decide)) rfl T.g_l_draw T.F_l_draw.kp T.b_l_draw .nil pass0 (pa_cons (pv 1) (pa_cons pe_int pa_nil))) pe_int (nomark _)))))
  (pss_one (ps_asg (pe_call (ok_l_long T) (hr.mono (by decide)) rfl T.g_l_long T.F_l_long.kp T.b_l_long .nil pass0 (pa_cons (pv 1) (pa_cons (pv 2) pa_nil))) (pg_lst rfl (pgs_cons (pg_name (i := 4) sc_law.nd rfl (.inl rfl)) (pgs_cons (pg_name (i := 5) sc_law.nd rfl (.inl rfl)) pgs_nil)))))
  pss_nil)
  (pss_cons (ps_set (i := 6) sc_law.nd rfl (.inl rfl) (pe_make T.M_Book (ok_Book_init T) (hr.mono (by decide)) rfl T.c_Book T.b_Book_init .nil pass0 (pa_cons (pv 5) pa_nil)))
  (pss_cons (ps_set (i := 7) sc_law.nd rfl (.inl rfl) (pe_call (ok_parting_roads T) (hr.mono (by decide)) rfl T.g_parting_roads T.F_parting_roads.kp T.b_parting_roads .nil pass0 (pa_cons (pv 6) (pa_cons (pv 4) pa_nil))))
  (pss_cons (ps_if (pt_cmpR op_ne (pe_cmpR op_isN (pv 7) pe_non (nomark _)) (pe_cmpR (r := rIn K false) op_in_seq (pe_callB (id := "len") (r := _) Rd.c_lenS (by rfl) T.n_len (by decide +kernel) (pa_cons (pv 4) pa_nil)) (pe_call (ok_l_reach T) (hr.mono (by decide)) rfl T.g_l_reach T.F_l_reach.kp T.b_l_reach .nil pass0 (pa_cons (pv 5) (pa_cons (pv 4) pa_nil))) (by rfl)) (nomark _))
  (pss_one (ps_ret pe_bl))
  pss_nil)
  (C8.pss_cut (ps_if (PW.pt (pw_and (pt_cmpR op_notN (pv 7) pe_non (nomark _)) (pw_and1 (pt_not (pt_val (pe_call (ok_l_parts T) (hr.mono (by decide)) rfl T.g_l_parts T.F_l_parts.kp T.b_l_parts .nil pass0 (pa_cons (pv 5) (pa_cons (pv 4) (pa_cons (pv 7) pa_nil)))))))))
  (pss_one (ps_ret pe_bl))
  pss_nil)
  (pss_one (ps_if (PW.pt (pw_or (pt_cmpR (r := rNeD K) (op_neD hr.units) (pe_call (ok_parting_roads T) (hr.mono (by decide)) rfl T.g_parting_roads T.F_parting_roads.kp T.b_parting_roads .nil pass0 (pa_cons (pv 6) (pa_cons (pv 4) pa_nil))) (pv 7) (nomark _)) (pw_or1 (pt_cmpR op_ne (pe_cmpR op_isN (pe_call (ok_parting_roads T) (hr.mono (by decide)) rfl T.g_parting_roads T.F_parting_roads.kp T.b_parting_roads .nil pass0 (pa_cons (pe_make T.M_Book (ok_Book_init T) (hr.mono (by decide)) rfl T.c_Book T.b_Book_init .nil pass0 (pa_cons (pe_revL (pv 5)) pa_nil)) (pa_cons (pv 4) pa_nil))) pe_non (nomark _)) (pe_cmpR op_isN (pv 7) pe_non (nomark _)) (nomark _)))))
  (pss_one (ps_ret pe_bl))
  pss_nil)))))))))
  (pss_one (ps_ret pe_bl))))), ?_⟩
    walk_at "rd"
    refine ⟨a, ns, rfl, ha, fun t H1 pl1 _ _ => ?_⟩
    walk_at "rd"
    refine drawP pl1 (by decide) (by decide) fun r H2 r0 r1 pl2 _ => ?_
    walk_at "rd"
    refine ⟨t, 1 + r, rfl, pl2, by omega, by omega, fun L H3 hL _ Ll pl3 _ => ?_⟩
    clear pl1 pl2
    have L1 : 1 ≤ L.length ∧ L.length ≤ 1000 := by omega
    walk_at "rd"
    refine Rd.forS ?_
    walk_at "rd"
    refine ⟨by decide, by decide, ?_⟩
    refine for_range (lo := 0) (n := 2) (fun i σ H' => ∃ o3 o4 o5 o6 o7 : Option V, σ = [some (.ref a), some (.ref t), some (.str L), o3, o4, o5, o6, o7] ∧ Pool H' t) ⟨_, _, _, _, _, rfl, pl3⟩ ?_ ?_
    · clear pl3
      rintro i _ H4 hi ⟨o3, o4, o5, o6, o7, rfl, pl4⟩
      walk_at "rd"
      refine ⟨t, L, 9, rfl, pl4, hL, L1.1, L1.2, by decide, by decide, fun p l z ws H5 pl5 dr5 pt lt gp gl hz sz nd wl wok => ?_⟩
      refine lstT (.of gp) rfl ?_
      walk_at "rd"
      refine Rd.cut (fun σ H' => ∃ (o3 : Option V) (z : Str) (l : Addr) (ws : List Str), σ = [some (.ref a), some (.ref t), some (.str L), o3, some (.str z), some (.ref l), o6, o7] ∧ Pool H' t ∧ H' l = some (.lst (ws.map V.str)) ∧ Lt.Wd 40 z ∧ ws.Nodup ∧ ws.length ≤ 9 ∧ ∀ y ∈ ws, Lt.Wd 12 y) ?_ ?_
      · have done : ∀ H6, Dr t H5 H6 → Pool H6 t → ∃ (o3 : Option V) (z' : Str) (l' : Addr) (ws' : List Str), ([some (.ref a), some (.ref t), some (.str L), some (V.int (0 + (i : Int))), some (.str z), some (.ref l), o6, o7] : L2.St) = [some (.ref a), some (.ref t), some (.str L), o3, some (.str z'), some (.ref l'), o6, o7] ∧ Pool H6 t ∧ H6 l' = some (.lst (ws'.map V.str)) ∧ Lt.Wd 40 z' ∧ ws'.Nodup ∧ ws'.length ≤ 9 ∧ ∀ y ∈ ws', Lt.Wd 12 y := fun H6 dr pl => ⟨_, z, l, ws, rfl, pl, dr.but _ _ lt gl, hz.mono (by decide), nd, wl, fun y m => (wok y m).1⟩
        walk_at "rd"
        refine ite2 (fun c1 => ?_) (fun c1 => ?_)
        · walk_at "rd"
          refine drawP pl5 (by decide) (by decide) fun r6 H6 _ _ pl6 dr6 => ?_
          walk_at "rd"
          refine ite2 (fun c2 => ?_) (fun c2 => ?_)
          · walk_at "rd"
            refine ⟨t, L, rfl, pl6, hL, L1.1, L1.2, fun p7 l7 z7 ws7 H7 pl7 dr7 pt7 lt7 gp7 gl7 hz7 nd7 wl7 wok7 => ?_⟩
            refine lstT (.of gp7) rfl ?_
            walk_at "rd"
            exact ⟨_, z7, l7, ws7, rfl, pl7, gl7, hz7, nd7, wl7, wok7⟩
          · walk_at "rd"
            exact done H6 dr6 pl6
        · walk_at "rd"
          exact done H5 (.refl _ _) pl5
      clear gp gl hz sz nd wl wok lt pt pl5 dr5
      rintro _ H6 ⟨o3, z, l, ws, rfl, pl6, gl, hz, nd, wl, wok⟩
      have W : Watches ws := ⟨nd, by omega, wok⟩
      have zs : z.length ≤ sizeLine := hz.line (by decide)
      have z1 := hz.l1
      walk_at "rd"
      refine mkB gl W fun bk H7 hB s7 => ?_
      walk_at "rd"
      refine ⟨bk, ws, z, rfl, hB, W, hz, fun r H8 s8 PA => ?_⟩
      have s78 := s7.trans s8
      have gl8 := s78 _ _ gl
      have hB8 := hB.same s8
      have pl8 := pl6.same s78
      have iN := isN_part PA
      clear s7 s8 s78 hB gl pl6
      walk_at "rd"
      refine ⟨rfl, ?_⟩
      walk_at "rd"
      refine Rd.lenStr zs ?_
      walk_at "rd"
      refine ⟨l, ws, z, rfl, .of gl8, fun V m => ⟨(W.ok V m).l0, by have := (W.ok V m).l1; omega⟩, by omega, fun g gs H9 s9 ng gg ndg mem => ?_⟩
      walk_at "rd"
      refine Rd.inIntsY (.inl (.of gg)) ?_
      have e9 : decide ((z.length : Int) ∈ gs.map fun i : Nat => (i : Int)) = decide (r = V.non) := by
        rw [Bool.eq_iff_iff, decide_eq_true_iff, mem_nat, mem, iN]
        exact Iff.rfl
      rw [e9]
      walk_at "rd"
      refine Rd.no (by rw [bne_self_eq_false]; exact Bool.false_ne_true) ?_
      have PA9 := PA.keep (.of s9)
      have gl9 := s9 _ _ gl8
      have hB9 := hB8.same s9
      have pl9 := pl8.same s9
      clear gl8 hB8 pl8 gg mem ng
      walk_at "rd"
      refine Rd.cut (fun σ H' => σ = [some (.ref a), some (.ref t), some (.str L), o3, some (.str z), some (.ref l), some (.ref bk), some r] ∧ Same H9 H') ?_ ?_
      · walk_at "rd"
        refine ⟨rfl, ?_⟩
        walk_at "rd"
        rcases id PA9 with ⟨e, _⟩ | ⟨nt, p, t1, t2, e, gp, R1, R2⟩
        · rw [if_pos e]
          walk_at "rd"
          exact ⟨rfl, Same.refl _⟩
        · rw [if_neg (by rw [e]; exact fun q => nomatch q)]
          walk_at "rd"
          subst e
          have s0 : 0 ∈ led ws z := Mc.mem_cls.mpr ⟨Nat.zero_le _, .refl⟩
          have sn : z.length ∉ led ws z := fun m => nt (Mc.mem_cls.mp m).2
          refine ⟨l, p, t1, t2, ws, z, led ws z, rfl, gl9, hz, gp, R1, R2, closed_led W, s0, sn, fun HA sA => ?_⟩
          walk_at "rd"
          exact ⟨rfl, sA⟩
      rintro _ HA ⟨rfl, sA⟩
      have PAA := PA9.keep (.of sA)
      have glA := sA _ _ gl9
      have hBA := hB9.same sA
      have plA := pl9.same sA
      walk_at "rd"
      refine ⟨bk, ws, z, rfl, hBA, W, hz, fun r2 HB sB PB => ?_⟩
      walk_at "rd"
      refine nePart hz.ok PB (PAA.keep (.of sB)) ?_
      walk_at "rd"
      refine ⟨l, _, rfl, .of (sB _ _ glA), Rd.new fun l2 HC nl2 gl2 sC => ?_⟩
      rw [← List.map_reverse] at gl2
      have W2 : Watches ws.reverse := ⟨List.pairwise_reverse.mpr (nd.imp fun h => Ne.symm h), by rw [List.length_reverse]; omega, fun V m => wok V (List.mem_reverse.mp m)⟩
      walk_at "rd"
      refine mkB gl2 W2 fun bk2 HD hBD sD => ?_
      walk_at "rd"
      refine ⟨bk2, ws.reverse, z, rfl, hBD, W2, hz, fun r3 HE sE PE => ?_⟩
      walk_at "rd"
      refine ⟨rfl, ?_⟩
      walk_at "rd"
      refine ⟨rfl, ?_⟩
      have e3 : decide (r3 = V.non) = decide (r = V.non) := by
        rw [Bool.eq_iff_iff, isN_part PE, iN]
        exact told_rev
      rw [e3]
      walk_at "rd"
      refine Rd.no (by rw [bne_self_eq_false]; exact Bool.false_ne_true) ?_
      walk_at "rd"
      exact ⟨_, _, _, _, _, rfl, (((plA.same sB).same sC).same sD).same sE⟩
    · rintro _ H4 ⟨o3, o4, o5, o6, o7, rfl, pl4⟩
      walk_at "rd"
      exact k _

end
end W

namespace W
open PySem PySem.Spec PyProof.Rows L2
theorem all_mk {l : PySem.W.OpenLaw} {w : World} {K : PySem.W.Frag} {h : Heap} {mg : Str → Option Value} {fa : Addr} (X : K.In h) (G : h.Ns mainGlobals mg) (hfa : mg "law" = some (.ref fa))
    {f1 f2 f3 f4 f5 f6 f7 f8 f9 f10 f11 f12 f13 f14 f15 f16 f17 f18 f19 f20 f21 f22 f23 f24 f25 f26 f27 f28 C0 : Addr} {od1 an1 od2 an2 od3 an3 od4 an4 od5 an5 od6 an6 od7 an7 od8 an8 od9 an9 od10 an10 od11 an11 od12 an12 od13 an13 od14 an14 od15 an15 od16 an16 od17 an17 od18 an18 od19 an19 od20 an20 od21 an21 od22 an22 od23 an23 od24 an24 od25 an25 od26 an26 od27 an27 od28 an28 : Option Addr} {sl1 sl2 sl3 sl4 sl5 sl6 sl7 sl8 sl9 sl10 sl11 sl12 sl13 sl14 sl15 sl16 sl17 sl18 sl19 sl20 sl21 sl22 sl23 sl24 sl25 sl26 sl27 sl28 : Array (Option Value)} {oc1 kV1 dc1 pm1 cd1 ct1 oc2 kV2 dc2 pm2 cd2 ct2 oc3 kV3 dc3 pm3 cd3 ct3 oc4 kV4 dc4 pm4 cd4 ct4 oc5 kV5 dc5 pm5 cd5 ct5 oc6 kV6 dc6 pm6 cd6 ct6 oc7 kV7 dc7 pm7 cd7 ct7 oc8 kV8 dc8 pm8 cd8 ct8 oc9 kV9 dc9 pm9 cd9 ct9 oc10 kV10 dc10 pm10 cd10 ct10 oc11 kV11 dc11 pm11 cd11 ct11 oc12 kV12 dc12 pm12 cd12 ct12 oc13 kV13 dc13 pm13 cd13 ct13 oc14 kV14 dc14 pm14 cd14 ct14 oc15 kV15 dc15 pm15 cd15 ct15 oc16 kV16 dc16 pm16 cd16 ct16 oc17 kV17 dc17 pm17 cd17 ct17 oc18 kV18 dc18 pm18 cd18 ct18 oc19 kV19 dc19 pm19 cd19 ct19 oc20 kV20 dc20 pm20 cd20 ct20 oc21 kV21 dc21 pm21 cd21 ct21 oc22 kV22 dc22 pm22 cd22 ct22 oc23 kV23 dc23 pm23 cd23 ct23 oc24 kV24 dc24 pm24 cd24 ct24 oc25 kV25 dc25 pm25 cd25 ct25 oc26 kV26 dc26 pm26 cd26 ct26 oc27 kV27 dc27 pm27 cd27 ct27 oc28 kV28 dc28 pm28 cd28 ct28 : Value}
    (u0 : PySem.W.nsIn K mainGlobals "Book" = some (some (.ref C0)))
    (pg0 : PySem.W.plainGet K C0 Str.empty = true) (hd0 : PySem.W.hasDictIn K C0 = true) (po0 : PySem.W.plainOver K C0 = true) (sa0 : PySem.W.findIn K (.ref C0) "__setattr__" = some (some (.builtin "object.__setattr__")))
    (wc0 : PySem.W.findIn K (.ref C0) "__class__" = some (some (.builtin "object.__class__"))) (wm0 : PySem.W.mroIn K C0 (.type "object") = some true)
    (wn0 : PySem.W.specialIn K (.builtin "object.__class__") "__get__" = some (some (.builtin "getset_descriptor.__get__"))) (wt0 : PySem.W.takesIn K (.builtin "object.__class__") = some true)
    (na0_0 : PySem.W.findIn K (.ref C0) "watches" = some none)
    (a1 : PySem.W.nsIn K mainGlobals "is_letters" = some (some (.ref f1)))
    (l1 : K.lookup f1 = some ⟨oc1, od1, .func (PySem.W.fnOf "is_letters" "is_letters" (defArgs s_is_letters) (defBody s_is_letters) (defScope s_is_letters) .none kV1 dc1 pm1 an1 cd1 ct1), sl1⟩) (c1 : PySem.W.codeIn K cd1 "is_letters" = true) (k1 : PySem.W.keepIn K (.ref f1) = true)
    (a2 : PySem.W.nsIn K mainGlobals "is_word" = some (some (.ref f2)))
    (l2 : K.lookup f2 = some ⟨oc2, od2, .func (PySem.W.fnOf "is_word" "is_word" (defArgs s_is_word) (defBody s_is_word) (defScope s_is_word) .none kV2 dc2 pm2 an2 cd2 ct2), sl2⟩) (c2 : PySem.W.codeIn K cd2 "is_word" = true) (k2 : PySem.W.keepIn K (.ref f2) = true)
    (a3 : PySem.W.nsIn K mainGlobals "is_watch" = some (some (.ref f3)))
    (l3 : K.lookup f3 = some ⟨oc3, od3, .func (PySem.W.fnOf "is_watch" "is_watch" (defArgs s_is_watch) (defBody s_is_watch) (defScope s_is_watch) .none kV3 dc3 pm3 an3 cd3 ct3), sl3⟩) (c3 : PySem.W.codeIn K cd3 "is_watch" = true) (k3 : PySem.W.keepIn K (.ref f3) = true)
    (a4 : PySem.W.nsIn K mainGlobals "check_word" = some (some (.ref f4)))
    (l4 : K.lookup f4 = some ⟨oc4, od4, .func (PySem.W.fnOf "check_word" "check_word" (defArgs s_check_word) (defBody s_check_word) (defScope s_check_word) .none kV4 dc4 pm4 an4 cd4 ct4), sl4⟩) (c4 : PySem.W.codeIn K cd4 "check_word" = true) (k4 : PySem.W.keepIn K (.ref f4) = true)
    (a5 : PySem.W.findIn K (.ref C0) "__init__" = some (some (.ref f5))) (i5 : PySem.W.isFn K (.ref f5) = true)
    (mk0 : PySem.W.makesIn K C0 = true) (kc0 : PySem.W.keepIn K (.ref C0) = true)
    (l5 : K.lookup f5 = some ⟨oc5, od5, .func (PySem.W.fnOf "__init__" "Book.__init__" (defArgs s_Book_init) (defBody s_Book_init) (defScope s_Book_init) .none kV5 dc5 pm5 an5 cd5 ct5), sl5⟩) (c5 : PySem.W.codeIn K cd5 "Book.__init__" = true) (k5 : PySem.W.keepIn K (.ref f5) = true)
    (a6 : PySem.W.nsIn K mainGlobals "check_book" = some (some (.ref f6)))
    (l6 : K.lookup f6 = some ⟨oc6, od6, .func (PySem.W.fnOf "check_book" "check_book" (defArgs s_check_book) (defBody s_check_book) (defScope s_check_book) .none kV6 dc6 pm6 an6 cd6 ct6), sl6⟩) (c6 : PySem.W.codeIn K cd6 "check_book" = true) (k6 : PySem.W.keepIn K (.ref f6) = true)
    (a7 : PySem.W.nsIn K mainGlobals "links_of" = some (some (.ref f7)))
    (l7 : K.lookup f7 = some ⟨oc7, od7, .func (PySem.W.fnOf "links_of" "links_of" (defArgs s_links_of) (defBody s_links_of) (defScope s_links_of) .none kV7 dc7 pm7 an7 cd7 ct7), sl7⟩) (c7 : PySem.W.codeIn K cd7 "links_of" = true) (k7 : PySem.W.keepIn K (.ref f7) = true)
    (a8 : PySem.W.nsIn K mainGlobals "grown" = some (some (.ref f8)))
    (l8 : K.lookup f8 = some ⟨oc8, od8, .func (PySem.W.fnOf "grown" "grown" (defArgs s_grown) (defBody s_grown) (defScope s_grown) .none kV8 dc8 pm8 an8 cd8 ct8), sl8⟩) (c8 : PySem.W.codeIn K cd8 "grown" = true) (k8 : PySem.W.keepIn K (.ref f8) = true)
    (a9 : PySem.W.nsIn K mainGlobals "cut" = some (some (.ref f9)))
    (l9 : K.lookup f9 = some ⟨oc9, od9, .func (PySem.W.fnOf "cut" "cut" (defArgs s_cut) (defBody s_cut) (defScope s_cut) .none kV9 dc9 pm9 an9 cd9 ct9), sl9⟩) (c9 : PySem.W.codeIn K cd9 "cut" = true) (k9 : PySem.W.keepIn K (.ref f9) = true)
    (a10 : PySem.W.nsIn K mainGlobals "two_copies" = some (some (.ref f10)))
    (l10 : K.lookup f10 = some ⟨oc10, od10, .func (PySem.W.fnOf "two_copies" "two_copies" (defArgs s_two_copies) (defBody s_two_copies) (defScope s_two_copies) .none kV10 dc10 pm10 an10 cd10 ct10), sl10⟩) (c10 : PySem.W.codeIn K cd10 "two_copies" = true) (k10 : PySem.W.keepIn K (.ref f10) = true)
    (a11 : PySem.W.nsIn K mainGlobals "parting_roads" = some (some (.ref f11)))
    (l11 : K.lookup f11 = some ⟨oc11, od11, .func (PySem.W.fnOf "parting_roads" "parting_roads" (defArgs s_parting_roads) (defBody s_parting_roads) (defScope s_parting_roads) .none kV11 dc11 pm11 an11 cd11 ct11), sl11⟩) (c11 : PySem.W.codeIn K cd11 "parting_roads" = true) (k11 : PySem.W.keepIn K (.ref f11) = true)
    (a12 : PySem.W.nsIn K mainGlobals "_law_pool" = some (some (.ref f12)))
    (l12 : K.lookup f12 = some ⟨oc12, od12, .func (PySem.W.fnOf "_law_pool" "_law_pool" (defArgs s_l_pool) (defBody s_l_pool) (defScope s_l_pool) .none kV12 dc12 pm12 an12 cd12 ct12), sl12⟩) (c12 : PySem.W.codeIn K cd12 "_law_pool" = true) (k12 : PySem.W.keepIn K (.ref f12) = true)
    (a13 : PySem.W.nsIn K mainGlobals "_law_draw" = some (some (.ref f13)))
    (l13 : K.lookup f13 = some ⟨oc13, od13, .func (PySem.W.fnOf "_law_draw" "_law_draw" (defArgs s_l_draw) (defBody s_l_draw) (defScope s_l_draw) .none kV13 dc13 pm13 an13 cd13 ct13), sl13⟩) (c13 : PySem.W.codeIn K cd13 "_law_draw" = true) (k13 : PySem.W.keepIn K (.ref f13) = true)
    (a14 : PySem.W.nsIn K mainGlobals "_law_word" = some (some (.ref f14)))
    (l14 : K.lookup f14 = some ⟨oc14, od14, .func (PySem.W.fnOf "_law_word" "_law_word" (defArgs s_l_word) (defBody s_l_word) (defScope s_l_word) .none kV14 dc14 pm14 an14 cd14 ct14), sl14⟩) (c14 : PySem.W.codeIn K cd14 "_law_word" = true) (k14 : PySem.W.keepIn K (.ref f14) = true)
    (a15 : PySem.W.nsIn K mainGlobals "_law_letters" = some (some (.ref f15)))
    (l15 : K.lookup f15 = some ⟨oc15, od15, .func (PySem.W.fnOf "_law_letters" "_law_letters" (defArgs s_l_letters) (defBody s_l_letters) (defScope s_l_letters) .none kV15 dc15 pm15 an15 cd15 ct15), sl15⟩) (c15 : PySem.W.codeIn K cd15 "_law_letters" = true) (k15 : PySem.W.keepIn K (.ref f15) = true)
    (a16 : PySem.W.nsIn K mainGlobals "_law_path" = some (some (.ref f16)))
    (l16 : K.lookup f16 = some ⟨oc16, od16, .func (PySem.W.fnOf "_law_path" "_law_path" (defArgs s_l_path) (defBody s_l_path) (defScope s_l_path) .none kV16 dc16 pm16 an16 cd16 ct16), sl16⟩) (c16 : PySem.W.codeIn K cd16 "_law_path" = true) (k16 : PySem.W.keepIn K (.ref f16) = true)
    (a17 : PySem.W.nsIn K mainGlobals "_law_rule" = some (some (.ref f17)))
    (l17 : K.lookup f17 = some ⟨oc17, od17, .func (PySem.W.fnOf "_law_rule" "_law_rule" (defArgs s_l_rule) (defBody s_l_rule) (defScope s_l_rule) .none kV17 dc17 pm17 an17 cd17 ct17), sl17⟩) (c17 : PySem.W.codeIn K cd17 "_law_rule" = true) (k17 : PySem.W.keepIn K (.ref f17) = true)
    (a18 : PySem.W.nsIn K mainGlobals "_law_watches" = some (some (.ref f18)))
    (l18 : K.lookup f18 = some ⟨oc18, od18, .func (PySem.W.fnOf "_law_watches" "_law_watches" (defArgs s_l_watches) (defBody s_l_watches) (defScope s_l_watches) .none kV18 dc18 pm18 an18 cd18 ct18), sl18⟩) (c18 : PySem.W.codeIn K cd18 "_law_watches" = true) (k18 : PySem.W.keepIn K (.ref f18) = true)
    (a19 : PySem.W.nsIn K mainGlobals "_law_reach" = some (some (.ref f19)))
    (l19 : K.lookup f19 = some ⟨oc19, od19, .func (PySem.W.fnOf "_law_reach" "_law_reach" (defArgs s_l_reach) (defBody s_l_reach) (defScope s_l_reach) .none kV19 dc19 pm19 an19 cd19 ct19), sl19⟩) (c19 : PySem.W.codeIn K cd19 "_law_reach" = true) (k19 : PySem.W.keepIn K (.ref f19) = true)
    (a20 : PySem.W.nsIn K mainGlobals "_law_book_word" = some (some (.ref f20)))
    (l20 : K.lookup f20 = some ⟨oc20, od20, .func (PySem.W.fnOf "_law_book_word" "_law_book_word" (defArgs s_l_book_word) (defBody s_l_book_word) (defScope s_l_book_word) .none kV20 dc20 pm20 an20 cd20 ct20), sl20⟩) (c20 : PySem.W.codeIn K cd20 "_law_book_word" = true) (k20 : PySem.W.keepIn K (.ref f20) = true)
    (a21 : PySem.W.nsIn K mainGlobals "_law_counts" = some (some (.ref f21)))
    (l21 : K.lookup f21 = some ⟨oc21, od21, .func (PySem.W.fnOf "_law_counts" "_law_counts" (defArgs s_l_counts) (defBody s_l_counts) (defScope s_l_counts) .none kV21 dc21 pm21 an21 cd21 ct21), sl21⟩) (c21 : PySem.W.codeIn K cd21 "_law_counts" = true) (k21 : PySem.W.keepIn K (.ref f21) = true)
    (a22 : PySem.W.nsIn K mainGlobals "_law_flags" = some (some (.ref f22)))
    (l22 : K.lookup f22 = some ⟨oc22, od22, .func (PySem.W.fnOf "_law_flags" "_law_flags" (defArgs s_l_flags) (defBody s_l_flags) (defScope s_l_flags) .none kV22 dc22 pm22 an22 cd22 ct22), sl22⟩) (c22 : PySem.W.codeIn K cd22 "_law_flags" = true) (k22 : PySem.W.keepIn K (.ref f22) = true)
    (a23 : PySem.W.nsIn K mainGlobals "_law_is_place" = some (some (.ref f23)))
    (l23 : K.lookup f23 = some ⟨oc23, od23, .func (PySem.W.fnOf "_law_is_place" "_law_is_place" (defArgs s_l_is_place) (defBody s_l_is_place) (defScope s_l_is_place) .none kV23 dc23 pm23 an23 cd23 ct23), sl23⟩) (c23 : PySem.W.codeIn K cd23 "_law_is_place" = true) (k23 : PySem.W.keepIn K (.ref f23) = true)
    (a24 : PySem.W.nsIn K mainGlobals "_law_are_roads" = some (some (.ref f24)))
    (l24 : K.lookup f24 = some ⟨oc24, od24, .func (PySem.W.fnOf "_law_are_roads" "_law_are_roads" (defArgs s_l_are_roads) (defBody s_l_are_roads) (defScope s_l_are_roads) .none kV24 dc24 pm24 an24 cd24 ct24), sl24⟩) (c24 : PySem.W.codeIn K cd24 "_law_are_roads" = true) (k24 : PySem.W.keepIn K (.ref f24) = true)
    (a25 : PySem.W.nsIn K mainGlobals "_law_long" = some (some (.ref f25)))
    (l25 : K.lookup f25 = some ⟨oc25, od25, .func (PySem.W.fnOf "_law_long" "_law_long" (defArgs s_l_long) (defBody s_l_long) (defScope s_l_long) .none kV25 dc25 pm25 an25 cd25 ct25), sl25⟩) (c25 : PySem.W.codeIn K cd25 "_law_long" = true) (k25 : PySem.W.keepIn K (.ref f25) = true)
    (a26 : PySem.W.nsIn K mainGlobals "_law_plain" = some (some (.ref f26)))
    (l26 : K.lookup f26 = some ⟨oc26, od26, .func (PySem.W.fnOf "_law_plain" "_law_plain" (defArgs s_l_plain) (defBody s_l_plain) (defScope s_l_plain) .none kV26 dc26 pm26 an26 cd26 ct26), sl26⟩) (c26 : PySem.W.codeIn K cd26 "_law_plain" = true) (k26 : PySem.W.keepIn K (.ref f26) = true)
    (a27 : PySem.W.nsIn K mainGlobals "_law_parts" = some (some (.ref f27)))
    (l27 : K.lookup f27 = some ⟨oc27, od27, .func (PySem.W.fnOf "_law_parts" "_law_parts" (defArgs s_l_parts) (defBody s_l_parts) (defScope s_l_parts) .none kV27 dc27 pm27 an27 cd27 ct27), sl27⟩) (c27 : PySem.W.codeIn K cd27 "_law_parts" = true) (k27 : PySem.W.keepIn K (.ref f27) = true)
    (a28 : PySem.W.nsIn K mainGlobals "law" = some (some (.ref f28)))
    (l28 : K.lookup f28 = some ⟨oc28, od28, .func (PySem.W.fnOf "law" "law" (defArgs s_law) (defBody s_law) (defScope s_law) .none kV28 dc28 pm28 an28 cd28 ct28), sl28⟩) (c28 : PySem.W.codeIn K cd28 "law" = true) (k28 : PySem.W.keepIn K (.ref f28) = true)
    (z0 : PySem.W.nsIn K mainGlobals "isinstance" = some none)
    (z1 : PySem.W.nsIn K mainGlobals "str" = some none)
    (z2 : PySem.W.nsIn K mainGlobals "all" = some none)
    (z3 : PySem.W.nsIn K mainGlobals "len" = some none)
    (z4 : PySem.W.nsIn K mainGlobals "enumerate" = some none)
    (z5 : PySem.W.nsIn K mainGlobals "tuple" = some none)
    (z6 : PySem.W.nsIn K mainGlobals "list" = some none)
    (z7 : PySem.W.nsIn K mainGlobals "range" = some none)
    (z8 : PySem.W.nsIn K mainGlobals "sorted" = some none)
    (z9 : PySem.W.nsIn K mainGlobals "int" = some none)
    (z10 : PySem.W.nsIn K mainGlobals "abs" = some none)
    (z11 : PySem.W.nsIn K mainGlobals "zip" = some none)
    (z12 : PySem.W.nsIn K mainGlobals "bool" = some none)
    (z13 : PySem.W.nsIn K mainGlobals "min" = some none)
    {t0 : Tok} (y0 : PySem.W.nsIn K mainGlobals "LETTERS" = some (some (.str "abcdefghijklmnopqrstuvwxyz" t0)))
    {t1 : Tok} (y1 : PySem.W.nsIn K mainGlobals "MOST_WORD" = some (some (.int 40 t1)))
    {t2 : Tok} (y2 : PySem.W.nsIn K mainGlobals "MOST_WATCH" = some (some (.int 12 t2)))
    {t3 : Tok} (y3 : PySem.W.nsIn K mainGlobals "MOST_WATCHES" = some (some (.int 12 t3)))
    : ∃ fd : FuncData, (∀ (s : Shared) (v : Value), BindsTo s fd ⟨[v], []⟩ [("_law_script", v)]) ∧ ∀ base : Heap, K.In base → base.Ns mainGlobals mg → FnOk l.prog w K mg base CX0 7 fa fd ["_law_script"] (sp_law K) := by
  have e := hfa.symm.trans (PySem.W.mg_of X G a28)
  cases e
  have F1 := fun_mk (st := s_is_letters) l1 c1 k1
  have F2 := fun_mk (st := s_is_word) l2 c2 k2
  have F3 := fun_mk (st := s_is_watch) l3 c3 k3
  have F4 := fun_mk (st := s_check_word) l4 c4 k4
  have F5 := fun_mk (st := s_Book_init) l5 c5 k5
  have F6 := fun_mk (st := s_check_book) l6 c6 k6
  have F7 := fun_mk (st := s_links_of) l7 c7 k7
  have F8 := fun_mk (st := s_grown) l8 c8 k8
  have F9 := fun_mk (st := s_cut) l9 c9 k9
  have F10 := fun_mk (st := s_two_copies) l10 c10 k10
  have F11 := fun_mk (st := s_parting_roads) l11 c11 k11
  have F12 := fun_mk (st := s_l_pool) l12 c12 k12
  have F13 := fun_mk (st := s_l_draw) l13 c13 k13
  have F14 := fun_mk (st := s_l_word) l14 c14 k14
  have F15 := fun_mk (st := s_l_letters) l15 c15 k15
  have F16 := fun_mk (st := s_l_path) l16 c16 k16
  have F17 := fun_mk (st := s_l_rule) l17 c17 k17
  have F18 := fun_mk (st := s_l_watches) l18 c18 k18
  have F19 := fun_mk (st := s_l_reach) l19 c19 k19
  have F20 := fun_mk (st := s_l_book_word) l20 c20 k20
  have F21 := fun_mk (st := s_l_counts) l21 c21 k21
  have F22 := fun_mk (st := s_l_flags) l22 c22 k22
  have F23 := fun_mk (st := s_l_is_place) l23 c23 k23
  have F24 := fun_mk (st := s_l_are_roads) l24 c24 k24
  have F25 := fun_mk (st := s_l_long) l25 c25 k25
  have F26 := fun_mk (st := s_l_plain) l26 c26 k26
  have F27 := fun_mk (st := s_l_parts) l27 c27 k27
  have F28 := fun_mk (st := s_law) l28 c28 k28
  let T : Txt K mg := {
    C_Book := C0, c_Book := PySem.W.mg_of X G u0,
    cl_Book := ⟨pg0, hd0, po0, sa0⟩, ty_Book := ⟨wc0, wn0, wt0, wm0, kit_self⟩,
    na_Book_watches := na0_0,
    f_is_letters := f1, fd_is_letters := _, F_is_letters := F1, g_is_letters := PySem.W.mg_of X G a1, b_is_letters := F1.binds (ps := ["value"]) fun _ _ _ _ _ _ us hl => match us, hl with | [_], _ => rfl,
    f_is_word := f2, fd_is_word := _, F_is_word := F2, g_is_word := PySem.W.mg_of X G a2, b_is_word := F2.binds (ps := ["thing"]) fun _ _ _ _ _ _ us hl => match us, hl with | [_], _ => rfl,
    f_is_watch := f3, fd_is_watch := _, F_is_watch := F3, g_is_watch := PySem.W.mg_of X G a3, b_is_watch := F3.binds (ps := ["thing"]) fun _ _ _ _ _ _ us hl => match us, hl with | [_], _ => rfl,
    f_check_word := f4, fd_check_word := _, F_check_word := F4, g_check_word := PySem.W.mg_of X G a4, b_check_word := F4.binds (ps := ["word"]) fun _ _ _ _ _ _ us hl => match us, hl with | [_], _ => rfl,
    f_Book_init := f5, fd_Book_init := _, F_Book_init := F5, M_Book := ⟨mk0, a5, i5, kc0⟩, b_Book_init := F5.binds (ps := ["self", "watches"]) fun _ _ _ _ _ _ us hl => match us, hl with | [_, _], _ => rfl,
    f_check_book := f6, fd_check_book := _, F_check_book := F6, g_check_book := PySem.W.mg_of X G a6, b_check_book := F6.binds (ps := ["book"]) fun _ _ _ _ _ _ us hl => match us, hl with | [_], _ => rfl,
    f_links_of := f7, fd_links_of := _, F_links_of := F7, g_links_of := PySem.W.mg_of X G a7, b_links_of := F7.binds (ps := ["watches", "word"]) fun _ _ _ _ _ _ us hl => match us, hl with | [_, _], _ => rfl,
    f_grown := f8, fd_grown := _, F_grown := F8, g_grown := PySem.W.mg_of X G a8, b_grown := F8.binds (ps := ["links", "spots"]) fun _ _ _ _ _ _ us hl => match us, hl with | [_, _], _ => rfl,
    f_cut := f9, fd_cut := _, F_cut := F9, g_cut := PySem.W.mg_of X G a9, b_cut := F9.binds (ps := ["book", "word"]) fun _ _ _ _ _ _ us hl => match us, hl with | [_, _], _ => rfl,
    f_two_copies := f10, fd_two_copies := _, F_two_copies := F10, g_two_copies := PySem.W.mg_of X G a10, b_two_copies := F10.binds (ps := ["word", "spots"]) fun _ _ _ _ _ _ us hl => match us, hl with | [_, _], _ => rfl,
    f_parting_roads := f11, fd_parting_roads := _, F_parting_roads := F11, g_parting_roads := PySem.W.mg_of X G a11, b_parting_roads := F11.binds (ps := ["book", "word"]) fun _ _ _ _ _ _ us hl => match us, hl with | [_, _], _ => rfl,
    f_l_pool := f12, fd_l_pool := _, F_l_pool := F12, g_l_pool := PySem.W.mg_of X G a12, b_l_pool := F12.binds (ps := ["_law_script"]) fun _ _ _ _ _ _ us hl => match us, hl with | [_], _ => rfl,
    f_l_draw := f13, fd_l_draw := _, F_l_draw := F13, g_l_draw := PySem.W.mg_of X G a13, b_l_draw := F13.binds (ps := ["_law_pool_here", "_law_many"]) fun _ _ _ _ _ _ us hl => match us, hl with | [_, _], _ => rfl,
    f_l_word := f14, fd_l_word := _, F_l_word := F14, g_l_word := PySem.W.mg_of X G a14, b_l_word := F14.binds (ps := ["_law_pool_here", "_law_letters_here", "_law_many"]) fun _ _ _ _ _ _ us hl => match us, hl with | [_, _, _], _ => rfl,
    f_l_letters := f15, fd_l_letters := _, F_l_letters := F15, g_l_letters := PySem.W.mg_of X G a15, b_l_letters := F15.binds (ps := ["_law_pool_here", "_law_many"]) fun _ _ _ _ _ _ us hl => match us, hl with | [_, _], _ => rfl,
    f_l_path := f16, fd_l_path := _, F_l_path := F16, g_l_path := PySem.W.mg_of X G a16, b_l_path := F16.binds (ps := ["_law_pool_here", "_law_last", "_law_most"]) fun _ _ _ _ _ _ us hl => match us, hl with | [_, _, _], _ => rfl,
    f_l_rule := f17, fd_l_rule := _, F_l_rule := F17, g_l_rule := PySem.W.mg_of X G a17, b_l_rule := F17.binds (ps := ["_law_word_here", "_law_path_here"]) fun _ _ _ _ _ _ us hl => match us, hl with | [_, _], _ => rfl,
    f_l_watches := f18, fd_l_watches := _, F_l_watches := F18, g_l_watches := PySem.W.mg_of X G a18, b_l_watches := F18.binds (ps := ["_law_all_steps"]) fun _ _ _ _ _ _ us hl => match us, hl with | [_], _ => rfl,
    f_l_reach := f19, fd_l_reach := _, F_l_reach := F19, g_l_reach := PySem.W.mg_of X G a19, b_l_reach := F19.binds (ps := ["_law_watches_here", "_law_word_here"]) fun _ _ _ _ _ _ us hl => match us, hl with | [_, _], _ => rfl,
    f_l_book_word := f20, fd_l_book_word := _, F_l_book_word := F20, g_l_book_word := PySem.W.mg_of X G a20, b_l_book_word := F20.binds (ps := ["_law_pool_here", "_law_most", "_law_letters_here"]) fun _ _ _ _ _ _ us hl => match us, hl with | [_, _, _], _ => rfl,
    f_l_counts := f21, fd_l_counts := _, F_l_counts := F21, g_l_counts := PySem.W.mg_of X G a21, b_l_counts := F21.binds (ps := ["_law_roads", "_law_size", "_law_word_here"]) fun _ _ _ _ _ _ us hl => match us, hl with | [_, _, _], _ => rfl,
    f_l_flags := f22, fd_l_flags := _, F_l_flags := F22, g_l_flags := PySem.W.mg_of X G a22, b_l_flags := F22.binds (ps := ["_law_counts_here"]) fun _ _ _ _ _ _ us hl => match us, hl with | [_], _ => rfl,
    f_l_is_place := f23, fd_l_is_place := _, F_l_is_place := F23, g_l_is_place := PySem.W.mg_of X G a23, b_l_is_place := F23.binds (ps := ["_law_thing", "_law_places"]) fun _ _ _ _ _ _ us hl => match us, hl with | [_, _], _ => rfl,
    f_l_are_roads := f24, fd_l_are_roads := _, F_l_are_roads := F24, g_l_are_roads := PySem.W.mg_of X G a24, b_l_are_roads := F24.binds (ps := ["_law_roads", "_law_places", "_law_most"]) fun _ _ _ _ _ _ us hl => match us, hl with | [_, _, _], _ => rfl,
    f_l_long := f25, fd_l_long := _, F_l_long := F25, g_l_long := PySem.W.mg_of X G a25, b_l_long := F25.binds (ps := ["_law_pool_here", "_law_letters_here"]) fun _ _ _ _ _ _ us hl => match us, hl with | [_, _], _ => rfl,
    f_l_plain := f26, fd_l_plain := _, F_l_plain := F26, g_l_plain := PySem.W.mg_of X G a26, b_l_plain := F26.binds (ps := ["_law_roads", "_law_places"]) fun _ _ _ _ _ _ us hl => match us, hl with | [_, _], _ => rfl,
    f_l_parts := f27, fd_l_parts := _, F_l_parts := F27, g_l_parts := PySem.W.mg_of X G a27, b_l_parts := F27.binds (ps := ["_law_watches_here", "_law_word_here", "_law_told"]) fun _ _ _ _ _ _ us hl => match us, hl with | [_, _, _], _ => rfl,
    f_law := fa, fd_law := _, F_law := F28, g_law := PySem.W.mg_of X G a28, b_law := F28.binds (ps := ["_law_script"]) fun _ _ _ _ _ _ us hl => match us, hl with | [_], _ => rfl,
    n_isinstance := PySem.W.mg_none_of X G z0,
    n_str := PySem.W.mg_none_of X G z1,
    n_all := PySem.W.mg_none_of X G z2,
    n_len := PySem.W.mg_none_of X G z3,
    n_enumerate := PySem.W.mg_none_of X G z4,
    n_tuple := PySem.W.mg_none_of X G z5,
    n_list := PySem.W.mg_none_of X G z6,
    n_range := PySem.W.mg_none_of X G z7,
    n_sorted := PySem.W.mg_none_of X G z8,
    n_int := PySem.W.mg_none_of X G z9,
    n_abs := PySem.W.mg_none_of X G z10,
    n_zip := PySem.W.mg_none_of X G z11,
    n_bool := PySem.W.mg_none_of X G z12,
    n_min := PySem.W.mg_none_of X G z13,
    t_LETTERS := t0, m_LETTERS := PySem.W.mg_of X G y0,
    t_MOST_WORD := t1, m_MOST_WORD := PySem.W.mg_of X G y1,
    t_MOST_WATCH := t2, m_MOST_WATCH := PySem.W.mg_of X G y2,
    t_MOST_WATCHES := t3, m_MOST_WATCHES := PySem.W.mg_of X G y3 }
  exact ⟨_, fun s v => .of_eq rfl, fun base _ _ => ok_law T⟩
theorem walk {l : PySem.W.OpenLaw} {q : Program} {loose : List Str} {XP : (Str → Option Value) → Heap → Prop} {YP : World → Heap → Prop} {d : DefRec} {K : Params → PySem.W.Frag} (hn : l.most = some 63) (hdf : d.params.defaults = [])
    (hY : ∀ (w : World) (h : Heap), YP w h → (K w.params).In h)
    (F : ∀ (w : World) (mg : Str → Option Value) (fa : Addr) (h : Heap), (K w.params).In h → h.Ns mainGlobals mg → mg d.name = some (.ref fa) →
      ∃ fd : FuncData, (∀ (s : Shared) (u : Value), BindsTo s fd ⟨[u], []⟩ [("_law_script", u)]) ∧ ∀ base : Heap, (K w.params).In base → base.Ns mainGlobals mg → FnOk l.prog w (K w.params) mg base CX0 7 fa fd ["_law_script"] (sp_law (K w.params))) :
    PySem.W.WalkO q loose XP YP l.row.toRowW d [] (fun f vs => PySem.call f vs) :=
  L2.walk_of (n := 63) (k := 7) (x := "_law_script") (CX := fun _ => CX0) (sp := fun w => sp_law (K w.params)) hn (by decide) hdf ⟨rfl, by decide, by decide⟩ hY F (fun _ _ a ns hl _ hS => ⟨a, ns, rfl, hS, hl, fun _ => rfl⟩) fun _ _ _ _ _ z => z
end W
open PySem PySem.W PyProof.Rows
set_option maxRecDepth 100000 in
set_option maxHeartbeats 0 in
theorem PySem.Challenge.cw_watchedways_k59_whole_roads_that_part_holds : PySem.Challenge.rw_watchedways_k59_whole_roads_that_part.Holds := by
  w_on; o_law; k_head; (case hw => w_witness2)
  k_fill
  refine W.walk (l := PySem.Challenge.rw_watchedways_k59_whole_roads_that_part) rfl rfl (fun w h Y => PySem.W.kIn_of Y) ?F
  case F =>
    intro w mg fa h KX G hmg
    refine' W.all_mk KX G hmg ?u0 ?pg0 ?hd0 ?po0 ?sa0 ?wc0 ?wm0 ?wn0 ?wt0 ?na0_0 ?a1 ?l1 ?c1 ?k1 ?a2 ?l2 ?c2 ?k2 ?a3 ?l3 ?c3 ?k3 ?a4 ?l4 ?c4 ?k4 ?a5 ?i5 ?mk0 ?kc0 ?l5 ?c5 ?k5 ?a6 ?l6 ?c6 ?k6 ?a7 ?l7 ?c7 ?k7 ?a8 ?l8 ?c8 ?k8 ?a9 ?l9 ?c9 ?k9 ?a10 ?l10 ?c10 ?k10 ?a11 ?l11 ?c11 ?k11 ?a12 ?l12 ?c12 ?k12 ?a13 ?l13 ?c13 ?k13 ?a14 ?l14 ?c14 ?k14 ?a15 ?l15 ?c15 ?k15 ?a16 ?l16 ?c16 ?k16 ?a17 ?l17 ?c17 ?k17 ?a18 ?l18 ?c18 ?k18 ?a19 ?l19 ?c19 ?k19 ?a20 ?l20 ?c20 ?k20 ?a21 ?l21 ?c21 ?k21 ?a22 ?l22 ?c22 ?k22 ?a23 ?l23 ?c23 ?k23 ?a24 ?l24 ?c24 ?k24 ?a25 ?l25 ?c25 ?k25 ?a26 ?l26 ?c26 ?k26 ?a27 ?l27 ?c27 ?k27 ?a28 ?l28 ?c28 ?k28 ?z0 ?z1 ?z2 ?z3 ?z4 ?z5 ?z6 ?z7 ?z8 ?z9 ?z10 ?z11 ?z12 ?z13 ?y0 ?y1 ?y2 ?y3
    (case u0 => k_is); (case pg0 => k_is); (case hd0 => k_is); (case po0 => k_is); (case sa0 => k_is); (case wc0 => k_is); (case wm0 => k_is); (case wn0 => k_is); (case wt0 => k_is); (case na0_0 => k_is); (case a1 => k_is); (case l1 => k_is); (case c1 => k_is); (case k1 => k_is); (case a2 => k_is); (case l2 => k_is); (case c2 => k_is); (case k2 => k_is); (case a3 => k_is); (case l3 => k_is); (case c3 => k_is); (case k3 => k_is); (case a4 => k_is); (case l4 => k_is); (case c4 => k_is); (case k4 => k_is); (case a5 => k_is); (case i5 => k_is); (case mk0 => k_is); (case kc0 => k_is); (case l5 => k_is); (case c5 => k_is); (case k5 => k_is); (case a6 => k_is); (case l6 => k_is); (case c6 => k_is); (case k6 => k_is); (case a7 => k_is); (case l7 => k_is); (case c7 => k_is); (case k7 => k_is); (case a8 => k_is); (case l8 => k_is); (case c8 => k_is); (case k8 => k_is); (case a9 => k_is); (case l9 => k_is); (case c9 => k_is); (case k9 => k_is); (case a10 => k_is); (case l10 => k_is); (case c10 => k_is); (case k10 => k_is); (case a11 => k_is); (case l11 => k_is); (case c11 => k_is); (case k11 => k_is); (case a12 => k_is); (case l12 => k_is); (case c12 => k_is); (case k12 => k_is); (case a13 => k_is); (case l13 => k_is); (case c13 => k_is); (case k13 => k_is); (case a14 => k_is); (case l14 => k_is); (case c14 => k_is); (case k14 => k_is); (case a15 => k_is); (case l15 => k_is); (case c15 => k_is); (case k15 => k_is); (case a16 => k_is); (case l16 => k_is); (case c16 => k_is); (case k16 => k_is); (case a17 => k_is); (case l17 => k_is); (case c17 => k_is); (case k17 => k_is); (case a18 => k_is); (case l18 => k_is); (case c18 => k_is); (case k18 => k_is); (case a19 => k_is); (case l19 => k_is); (case c19 => k_is); (case k19 => k_is); (case a20 => k_is); (case l20 => k_is); (case c20 => k_is); (case k20 => k_is); (case a21 => k_is); (case l21 => k_is); (case c21 => k_is); (case k21 => k_is); (case a22 => k_is); (case l22 => k_is); (case c22 => k_is); (case k22 => k_is); (case a23 => k_is); (case l23 => k_is); (case c23 => k_is); (case k23 => k_is); (case a24 => k_is); (case l24 => k_is); (case c24 => k_is); (case k24 => k_is); (case a25 => k_is); (case l25 => k_is); (case c25 => k_is); (case k25 => k_is); (case a26 => k_is); (case l26 => k_is); (case c26 => k_is); (case k26 => k_is); (case a27 => k_is); (case l27 => k_is); (case c27 => k_is); (case k27 => k_is); (case a28 => k_is); (case l28 => k_is); (case c28 => k_is); (case k28 => k_is); (case z0 => k_is); (case z1 => k_is); (case z2 => k_is); (case z3 => k_is); (case z4 => k_is); (case z5 => k_is); (case z6 => k_is); (case z7 => k_is); (case z8 => k_is); (case z9 => k_is); (case z10 => k_is); (case z11 => k_is); (case z12 => k_is); (case z13 => k_is); (case y0 => k_is); (case y1 => k_is); (case y2 => k_is); (case y3 => k_is)
