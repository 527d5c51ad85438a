import PyProof.Rows.All
import Wide.All
import OpenK.AllK
import Wide.FinOn
import HandS.ForMost
import HandS.SortInts
import HandS.Style
import HandS.IsInst
import HandS.Flow
import HandS.Conv
import HandS.Codes
import PyProof.Draws
import PyProof.EnumMake
import HandS.Walk
import HandS.Strs
import HandS.More
import HandS.Text
import HandS.Small
import HandS.SortKw
import KE.SortKeyed
import HandS.DictComp
import HandS.Zip
import HandS.Finally
import HandS.Exc
import HandS.ExcOwn
import HandS.ExcInit
import HandS.ExcIs
import HandS.TryOnly
import HandS.TryMany
import HandS.WordsExc
import HandS.Defaults
import HandS.CallSlots
import HandS.DeepEq
import HandS.OwnEq
import HandS.Wide
import PyProof.ReprRoads
import HandS.Ends
import HandS.Base
import HandS.Call
import HandS.Words
import PySem.Challenge.RW_watchedways_k93_books_as_rows
set_option Elab.async false
set_option linter.all false
set_option maxRecDepth 100000
set_option maxHeartbeats 4000000
/-! Readings by their heads: one lemma a combinator, so that a reading is walked by its own shape. -/
namespace Rd
open PySem PySem.Spec PyProof.Rows L2
variable {X : Cx} {D : Ends} {σ : L2.St} {H : Hp} {K : PySem.W.Frag}
/-- a new object is laid -/
def NewQ (o : HO) (Q : VK) (H : Hp) : Prop := ∀ p, H p = none → Q (.ref p) (upd H p o)
theorem new {o : HO} {Q : VK} (h : ∀ (p : Addr) (G : Hp), H p = none → G p = some o → Same H G → Q (.ref p) G) : NewQ o Q H :=
  fun p hp => h p _ hp upd_same fun b u e => by rw [upd_ne (ne_of_none e hp)]; exact e
theorem seq {t u : TS} (h : t { D with nx := u D } σ H) : tSeq t u D σ H := h
theorem cut {t u : TS} (Mid : L2.St → Hp → Prop) (h : t { D with nx := Mid } σ H) (h2 : ∀ σ' H', Mid σ' H' → u D σ' H') : C8.tCut t u D σ H := ⟨Mid, h, h2⟩
theorem nxt (h : D.nx σ H) : tNext D σ H := h
theorem asg {te : TE} {g : TG} (h : te σ H fun x H1 => g x σ H1 D.nx) : tAsg te g D σ H := h
theorem name {i : Nat} {v : V} {Q : L2.St → Hp → Prop} (h : Q (σ.set i (some v)) H) : gName i v σ H Q := h
theorem ret {te : TE} (h : te σ H D.rt) : tRet te D σ H := h
theorem retN (h : D.rt .non H) : tRetN D σ H := h
theorem drop {te : TE} (h : te σ H fun _ H1 => D.nx σ H1) : tDrop te D σ H := h
theorem ifS {c : TT} {t u : TS} (h : c σ H fun b H1 => if b = true then t D σ H1 else u D σ H1) : tIfS c t u D σ H := h
theorem brk (h : D.bk σ H) : tBreak D σ H := h
theorem cont (h : D.ct σ H) : tCont D σ H := h
theorem var {i : Nat} {v : V} {Q : VK} (e : σ[i]? = some (some v)) (h : Q v H) : tVar i σ H Q := ⟨v, e, h⟩
theorem con {v : V} {Q : VK} (h : Q v H) : tC v σ H Q := h
theorem op {r : R2} {ta tb : TE} {Q : VK} (h : ta σ H fun x H1 => tb σ H1 fun y H2 => r x y H2 Q) : tOp r ta tb σ H Q := h
theorem un {r : V → Hp → VK → Prop} {ta : TE} {Q : VK} (h : ta σ H fun x H1 => r x H1 Q) : tUn r ta σ H Q := h
theorem test {t : TE} {Q : Bool → Hp → Prop} (h : t σ H fun x H' => ∃ k, x = .bl k ∧ Q k H') : tTest t σ H Q := h
theorem tstB {t : TE} {Q : Bool → Hp → Prop} (h : t σ H fun x H' => ∃ k, x = .bl k ∧ Q k H') : tB t σ H Q := h
theorem bl {k : Bool} {Q : Bool → Hp → Prop} (h : Q k H) : ∃ k', V.bl k = .bl k' ∧ Q k' H := ⟨k, rfl, h⟩
theorem and {t u : TT} {Q : Bool → Hp → Prop} (h : t σ H fun c H1 => if c = true then u σ H1 Q else Q false H1) : tAnd t u σ H Q := h
theorem or {t u : TT} {Q : Bool → Hp → Prop} (h : t σ H fun c H1 => if c = true then Q true H1 else u σ H1 Q) : tOr t u σ H Q := h
theorem not {t : TT} {Q : Bool → Hp → Prop} (h : t σ H fun c H1 => Q (!c) H1) : tNot t σ H Q := h
theorem andV {ta tb : TE} {Q : VK} (h : ta σ H fun x H1 => ∃ c, x = .bl c ∧ if c = true then tb σ H1 Q else Q (.bl false) H1) : tAndV ta tb σ H Q := h
theorem orV {ta tb : TE} {Q : VK} (h : ta σ H fun x H1 => ∃ c, x = .bl c ∧ if c = true then Q (.bl true) H1 else tb σ H1 Q) : tOrV ta tb σ H Q := h
theorem notV {ta : TE} {Q : VK} (h : ta σ H fun x H1 => ∃ c, x = .bl c ∧ Q (.bl (!c)) H1) : tNotV ta σ H Q := h
theorem ifE {t : TT} {ta tb : TE} {Q : VK} (h : t σ H fun c H1 => if c = true then ta σ H1 Q else tb σ H1 Q) : tIf t ta tb σ H Q := h
theorem nil {Q : List V → Hp → Prop} (h : Q [] H) : tNil σ H Q := h
theorem cons {ta : TE} {tr : TA} {Q : List V → Hp → Prop} (h : ta σ H fun x H1 => tr σ H1 fun xs H2 => Q (x :: xs) H2) : tCons ta tr σ H Q := h
theorem tup {t : TA} {Q : VK} (h : t σ H fun xs H1 => xs.length ≤ sizeLine ∧ NewQ (.tup xs) Q H1) : tTup t σ H Q := h
theorem lst {t : TA} {Q : VK} (h : t σ H fun xs H1 => xs.length ≤ sizeLine ∧ NewQ (.lst xs) Q H1) : tLst t σ H Q := h
theorem cb {r : List V → Hp → VK → Prop} {t : TA} {Q : VK} (h : t σ H fun vs H1 => r vs H1 Q) : tCB r t σ H Q := h
theorem call {sp : Sp} {dvs : List V} {E : XK} {t : TA} {Q : VK} (h : t σ H fun vs H1 => sp (vs ++ dvs) H1 Q E) : tCall sp dvs E t σ H Q := h
theorem chain {r r' : R2} {ta tb tc : TE} {Q : VK} (h : ta σ H fun x H1 => tb σ H1 fun y H2 => r x y H2 fun z H3 => ∃ k, z = .bl k ∧ (if k = true then tc σ H3 fun w' H4 => r' y w' H4 Q else Q (.bl false) H3)) : tChain r r' ta tb tc σ H Q := h
theorem blE {k : Bool} {P : Bool → Prop} (h : P k) : ∃ k', V.bl k = .bl k' ∧ P k' := ⟨k, rfl, h⟩
theorem i0 {g : Int → Int → V} {i j : Int} {Q : VK} (h : Q (g i j) H) : rI0 g (.int i) (.int j) H Q := ⟨i, j, rfl, rfl, h⟩
theorem iC {C : Int → Int → Prop} {g : Int → Int → V} {i j : Int} {Q : VK} (c : C i j) (h : Q (g i j) H) : rI C g (.int i) (.int j) H Q := ⟨i, j, rfl, rfl, c, h⟩
theorem u1 {g : Int → V} {i : Int} {Q : VK} (h : Q (g i) H) : rU g (.int i) H Q := ⟨i, rfl, h⟩
theorem eqI {i j : Int} {Q : VK} (h : Q (.bl (decide (i = j))) H) : rEq (.int i) (.int j) H Q := ⟨rfl, by rw [show decide (V.int i = V.int j) = decide (i = j) by simp]; exact h⟩
theorem neI {i j : Int} {Q : VK} (h : Q (.bl (!decide (i = j))) H) : rNe (.int i) (.int j) H Q := ⟨rfl, by rw [show decide (V.int i = V.int j) = decide (i = j) by simp]; exact h⟩
theorem eqB {i j : Bool} {Q : VK} (h : Q (.bl (i == j)) H) : rEq (.bl i) (.bl j) H Q := ⟨rfl, by rw [dec_bl]; exact h⟩
theorem neB {i j : Bool} {Q : VK} (h : Q (.bl (i != j)) H) : rNe (.bl i) (.bl j) H Q := ⟨rfl, by rw [dec_bl]; exact h⟩
theorem eqS {i j : Str} {Q : VK} (h : Q (.bl (decide (i = j))) H) : rEq (.str i) (.str j) H Q := ⟨rfl, by rw [show decide (V.str i = V.str j) = decide (i = j) by simp]; exact h⟩
theorem neS {i j : Str} {Q : VK} (h : Q (.bl (!decide (i = j))) H) : rNe (.str i) (.str j) H Q := ⟨rfl, by rw [show decide (V.str i = V.str j) = decide (i = j) by simp]; exact h⟩
theorem iteb {c A B : Prop} [Decidable c] (h : if c then A else B) : if decide c = true then A else B := by
  by_cases q : c
  · rw [if_pos q] at h; rw [if_pos (decide_eq_true q)]; exact h
  · rw [if_neg q] at h; rw [if_neg (by simpa using q)]; exact h
theorem iten {c A B : Prop} [Decidable c] (h : if c then B else A) : if (!decide c) = true then A else B := by
  by_cases q : c
  · rw [if_pos q] at h; rw [if_neg (by simpa using q)]; exact h
  · rw [if_neg q] at h; rw [if_pos (by simpa using q)]; exact h
theorem itbn {b : Bool} {A B : Prop} (h : if b = true then B else A) : if (!b) = true then A else B := by
  cases b with
  | true => rw [if_neg (by decide)]; rw [if_pos rfl] at h; exact h
  | false => rw [if_pos (by rfl : (!false) = true)]; rw [if_neg (by decide)] at h; exact h
theorem a1 {a : Int} {P : Int → Prop} (h : P a) : ∃ i, [V.int a] = [V.int i] ∧ P i := ⟨a, rfl, h⟩
theorem a2 {a b : Int} {P : Int → Int → Prop} (h : P a b) : ∃ i j, [V.int a, V.int b] = [V.int i, V.int j] ∧ P i j := ⟨a, b, rfl, h⟩
theorem v2 {a b : V} {P : V → V → Prop} (h : P a b) : ∃ i j, [a, b] = [i, j] ∧ P i j := ⟨a, b, rfl, h⟩
theorem int1 {a : Int} {P : Int → Prop} {R : Prop} (h : P a) : (∃ i, [V.int a] = [V.int i] ∧ P i) ∨ R := .inl ⟨a, rfl, h⟩
theorem par {i j : Nat} {ta : TA} (h : ta σ H fun vs H1 => ∃ v w, vs = [v, w] ∧ D.nx ((σ.set i (some v)).set j (some w)) H1) : tPar i j ta D σ H := h
theorem sub {to ti : TE} {t : TSet} {v : V} {Q : L2.St → Hp → Prop} (h : to σ H fun o H1 => ti σ H1 fun i H2 => t o i v H2 fun H3 => Q σ H3) : gSub to ti t v σ H Q := h
theorem forS {wi : TI} {g : TG} {tb : TS} (h : wi σ H fun J H1 => ∃ W : Nat → Nat → L2.St → Hp → Prop, (∃ m, W 0 m σ H1) ∧ ∀ i m σ H, W i m σ H →
  (J.stop i H ∧ D.nx σ H) ∨ (J.go i H ∧ ∃ N : L2.St → Hp → Prop, (∀ σ' H', N σ' H' → ∃ m', m' < m ∧ W (i + 1) m' σ' H') ∧ ∀ x H', J.yld i H x H' → g x σ H' fun σ2 H2 => tb { D with nx := N, ct := N, bk := D.nx } σ2 H2)) : tFor wi g tb D σ H := h
theorem iter {tl : TE} {R : It → Hp → Prop} (h : tl σ H fun x H1 => ∃ a, x = .ref a ∧ (∃ xs, SqL K H1 a xs) ∧ R (Itl K a) H1) : iList K tl σ H R := h
theorem iterT {tl : TE} {R : It → Hp → Prop} (h : tl σ H fun x H1 => ∃ a, x = .ref a ∧ (∃ xs, SqT K H1 a xs) ∧ R (Itt K a) H1) : iTup K tl σ H R := h
theorem rng1 {ta : TA} {R : It → Hp → Prop} (h : ta σ H fun vs H1 => ∃ j : Int, vs = [.int j] ∧ -(2 ^ 62) ≤ j ∧ j < 2 ^ 62 ∧ R (Itr 0 j.toNat) H1) : iRng1 ta σ H R := h
theorem refE {a : Addr} {P : Addr → Prop} (h : P a) : ∃ b, V.ref a = .ref b ∧ P b := ⟨a, rfl, h⟩
theorem aug {i : Nat} {te : TE} {ti : TIp} {x : V} (e : σ[i]? = some (some x)) (h : te σ H fun y H1 => ti x y H1 fun z H2 => D.nx (σ.set i (some z)) H2) : tAug i te ti D σ H := ⟨x, e, h⟩
theorem ipi {f : Int → Int → Int} {i j : Int} {Q : VK} (h : Q (.int (f i j)) H) : ipI f (.int i) (.int j) H Q := ⟨i, j, rfl, rfl, h⟩
theorem whl {c : TT} {tb : TS} (W : Nat → L2.St → Hp → Prop) (h0 : ∃ m, W m σ H) (hs : ∀ m σ H, W m σ H → c σ H fun b H1 => if b = true then ∃ N : L2.St → Hp → Prop, (∀ σ' H', N σ' H' → ∃ m', m' < m ∧ W m' σ' H') ∧ tb { D with nx := N, ct := N, bk := D.nx } σ H1 else D.nx σ H1) : tWhile c tb D σ H := ⟨W, h0, hs⟩
theorem whN {m : Nat} {W : Nat → L2.St → Hp → Prop} {P : (L2.St → Hp → Prop) → Prop} (h : P (fun σ' H' => ∃ m', m' < m ∧ W m' σ' H')) : ∃ N, (∀ σ' H', N σ' H' → ∃ m', m' < m ∧ W m' σ' H') ∧ P N := ⟨_, fun _ _ h => h, h⟩
/-- an item of a list at a place -/
theorem ixL {p : Addr} {xs : List V} {i : Int} {v : V} {Q : VK} (hp : SqL K H p xs) (e : atI xs i = some v) (h : Q v H) : rIxL K (.ref p) (.int i) H Q := ⟨p, xs, i, v, rfl, rfl, hp, e, h⟩
theorem ixT {p : Addr} {xs : List V} {i : Int} {v : V} {Q : VK} (hp : SqT K H p xs) (e : atI xs i = some v) (h : Q v H) : rIxT K (.ref p) (.int i) H Q := ⟨p, xs, i, v, rfl, rfl, hp, e, h⟩
theorem setL {p : Addr} {xs : List V} {k : Int} {j : Nat} {v : V} {Q : Hp → Prop} (hp : H p = some (.lst xs)) (e : ixN xs.length k = some j) (h : Q (upd H p (.lst (xs.set j v)))) : rSetL (.ref p) (.int k) v H Q := ⟨p, xs, k, j, rfl, rfl, hp, e, h⟩
/-- a store into a list: behind it a heap G of which this is known -/
theorem setG {p : Addr} {xs ys : List V} {k : Int} {j : Nat} {v : V} {Q : Hp → Prop} (hp : H p = some (.lst xs)) (e : ixN xs.length k = some j) (hy : xs.set j v = ys) (h : ∀ G : Hp, G p = some (.lst ys) → (∀ b, b ≠ p → G b = H b) → Q G) : rSetL (.ref p) (.int k) v H Q :=
  ⟨p, xs, k, j, rfl, rfl, hp, e, hy ▸ h _ upd_same fun b hb => upd_ne hb⟩
/-! ### calls of built-ins and methods, by name -/
def nLen (K : PySem.W.Frag) : List V → Hp → VK → Prop := fun xs H Q => ∃ p ys, xs = [.ref p] ∧ (SqL K H p ys ∨ SqT K H p ys) ∧ Q (.int ys.length) H
theorem c_len : CallR X (.builtin "len") (nLen X.K) := call_len_seq
theorem len {p : Addr} {ys : List V} {Q : VK} (hp : SqL K H p ys ∨ SqT K H p ys) (h : Q (.int ys.length) H) : nLen K [.ref p] H Q := ⟨p, ys, rfl, hp, h⟩
def nLenS : List V → Hp → VK → Prop := fun xs H Q => ∃ z : Str, xs = [.str z] ∧ z.length ≤ sizeLine ∧ Q (.int z.length) H
theorem c_lenS : CallR X (.builtin "len") nLenS := call_len_str
theorem lenStr {z : Str} {Q : VK} (hz : z.length ≤ sizeLine) (h : Q (.int z.length) H) : nLenS [.str z] H Q := ⟨z, rfl, hz, h⟩
def nListOf (K : PySem.W.Frag) : List V → Hp → VK → Prop := fun xs H Q => ∃ p ys, xs = [.ref p] ∧ (SqL K H p ys ∨ SqT K H p ys) ∧ NewQ (.lst ys) Q H
theorem c_listOf : CallR X (.type "list") (nListOf X.K) := call_list_of
theorem listOf {p : Addr} {ys : List V} {Q : VK} (hp : SqL K H p ys ∨ SqT K H p ys) (h : NewQ (.lst ys) Q H) : nListOf K [.ref p] H Q := ⟨p, ys, rfl, hp, h⟩
def nTupOf (K : PySem.W.Frag) : List V → Hp → VK → Prop := fun xs H Q => ∃ p ys, xs = [.ref p] ∧ ((SqL K H p ys ∧ NewQ (.tup ys) Q H) ∨ (SqT K H p ys ∧ Q (.ref p) H))
theorem c_tupOf : CallR X (.type "tuple") (nTupOf X.K) := call_tuple_of
theorem tupOf {p : Addr} {ys : List V} {Q : VK} (hp : SqL K H p ys) (h : NewQ (.tup ys) Q H) : nTupOf K [.ref p] H Q := ⟨p, ys, rfl, .inl ⟨hp, h⟩⟩
def nInt : List V → Hp → VK → Prop := fun xs H Q => (∃ i, xs = [.int i] ∧ Q (.int i) H) ∨ ∃ k, xs = [.bl k] ∧ Q (.int (if k then 1 else 0)) H
theorem c_int : CallR X (.type "int") nInt := call_int1
theorem int {i : Int} {Q : VK} (h : Q (.int i) H) : nInt [.int i] H Q := .inl ⟨i, rfl, h⟩
theorem intB {k : Bool} {Q : VK} (h : Q (.int (if k then 1 else 0)) H) : nInt [.bl k] H Q := .inr ⟨k, rfl, h⟩
def nAbs : List V → Hp → VK → Prop := fun xs H Q => ∃ i, xs = [.int i] ∧ Q (.int (if i < 0 then -i else i)) H
theorem c_abs : CallR X (.builtin "abs") nAbs := call_abs
theorem abs {i : Int} {Q : VK} (h : Q (.int (i.natAbs : Int)) H) : nAbs [.int i] H Q := ⟨i, rfl, by rw [show (if i < 0 then -i else i) = (i.natAbs : Int) by split <;> omega]; exact h⟩
def nMax2 : List V → Hp → VK → Prop := fun xs H Q => ∃ i j, xs = [.int i, .int j] ∧ Q (.int (if j > i then j else i)) H
theorem c_max2 (hc : X.calm = true) : CallR X (.builtin "max") nMax2 := call_max2 hc
theorem max2 {i j : Int} {Q : VK} (h : Q (.int (max i j)) H) : nMax2 [.int i, .int j] H Q := ⟨i, j, rfl, by rw [show (if j > i then j else i) = max i j by rw [Int.max_def]; split <;> split <;> omega]; exact h⟩
def nMin2 : List V → Hp → VK → Prop := fun xs H Q => ∃ i j, xs = [.int i, .int j] ∧ Q (.int (if j < i then j else i)) H
theorem c_min2 (hc : X.calm = true) : CallR X (.builtin "min") nMin2 := call_min2 hc
theorem min2 {i j : Int} {Q : VK} (h : Q (.int (min i j)) H) : nMin2 [.int i, .int j] H Q := ⟨i, j, rfl, by rw [show (if j < i then j else i) = min i j by rw [Int.min_def]; split <;> split <;> omega]; exact h⟩
theorem bm {T : String} {r : V → List V → Hp → VK → Prop} {to : TE} {t : TA} {Q : VK} (h : to σ H fun x H1 => tyV K T x H1 ∧ t σ H1 fun xs H2 => r x xs H2 Q) : tBM K T r to t σ H Q := h
theorem bm0 {T : String} {r : V → List V → Hp → VK → Prop} {to : TE} {Q : VK} (h : to σ H fun x H1 => tyV K T x H1 ∧ r x [] H1 Q) : tBM0 K T r to σ H Q := h
theorem tyL {a : Addr} {xs : List V} {R : Prop} (h : SqL K H a xs) (r : R) : tyV K "list" (.ref a) H ∧ R := ⟨.inl ⟨rfl, _, h⟩, r⟩
theorem app {l : Addr} {xs : List V} {y : V} {Q : VK} (hp : H l = some (.lst xs)) (hz : xs.length < sizeLine) (h : ∀ G : Hp, G l = some (.lst (xs ++ [y])) → (∀ b, b ≠ l → G b = H b) → Q .non G) : rAppend (.ref l) [y] H Q :=
  ⟨l, xs, y, rfl, rfl, hp, hz, h _ upd_same fun b hb => upd_ne hb⟩
theorem popAt {l : Addr} {xs : List V} {i : Int} {y : V} {Q : VK} (hp : H l = some (.lst xs)) (h0 : 0 ≤ i) (h1 : i < xs.length) (hz : xs.length < 2 ^ 63) (hy : xs[i.toNat]? = some y) (h : ∀ G : Hp, G l = some (.lst (xs.eraseIdx i.toNat)) → (∀ b, b ≠ l → G b = H b) → Q y G) : rPopAt (.ref l) [.int i] H Q :=
  ⟨l, xs, i, i.toNat, y, rfl, rfl, hp, by omega, by omega, by unfold seqIndex?; rw [if_pos (by simp; omega)] <;> simp <;> omega, hy, h _ upd_same fun b hb => upd_ne hb⟩
theorem sl {r : V → Option Int → Option Int → Hp → VK → Prop} {te : TE} {tl th : TO} {Q : VK} (h : te σ H fun x H1 => tl σ H1 fun l H2 => th σ H2 fun u H3 => r x l u H3 Q) : tSl r te tl th σ H Q := h
theorem slL {a : Addr} {xs : List V} {lo hi : Option Int} {Q : VK} (hp : SqL K H a xs) (h : NewQ (.lst (cutV xs lo hi)) Q H) : rSlL K (.ref a) lo hi H Q := ⟨a, xs, rfl, hp, h⟩
theorem slS {z : Str} {lo hi : Option Int} {Q : VK} (hz : z.length ≤ sizeLine) (h : Q (.str (cutS z lo hi)) H) : rSlS (.str z) lo hi H Q := ⟨z, rfl, hz, h⟩
theorem cat {l b : Addr} {xs zs : List V} {Q : VK} (h1 : H l = some (.lst xs)) (h2 : H b = some (.lst zs)) (hz : xs.length + zs.length ≤ sizeLine) (h : NewQ (.lst (xs ++ zs)) Q H) : rCat (.ref l) (.ref b) H Q := ⟨l, b, xs, zs, rfl, rfl, h1, h2, hz, h⟩
theorem rep {l : Addr} {xs : List V} {k : Int} {Q : VK} (h1 : H l = some (.lst xs)) (h0 : -(2 ^ 63) ≤ k) (hk : k < 2 ^ 63) (hz : xs.length * k.toNat ≤ sizeLine) (h : NewQ (.lst (List.replicate k.toNat xs).flatten) Q H) : rRep (.ref l) (.int k) H Q := ⟨l, k, xs, rfl, rfl, h1, h0, hk, hz, h⟩
theorem revL {te : TE} {Q : VK} (h : te σ H fun x H1 => ∃ a xs, x = .ref a ∧ SqL K H1 a xs ∧ NewQ (.lst xs.reverse) Q H1) : tRevL K te σ H Q := h
theorem refX {a : Addr} {xs : List V} {P : List V → Prop} (h : SqL K H a xs) (q : P xs) : ∃ b ys, V.ref a = .ref b ∧ SqL K H b ys ∧ P ys := ⟨a, xs, rfl, h, q⟩
theorem sum {a : Addr} {ns : List Int} {Q : VK} (hp : SqL K H a (ns.map V.int)) (h : Q (.int ns.sum) H) : rSum K [.ref a] H Q := ⟨a, ns, rfl, hp, h⟩
theorem all {a : Addr} {bs : List Bool} {Q : VK} (hp : SqL K H a (bs.map V.bl)) (h : Q (.bl (bs.all id)) H) : rAll K [.ref a] H Q := ⟨a, bs, rfl, hp, h⟩
theorem any {a : Addr} {bs : List Bool} {Q : VK} (hp : SqL K H a (bs.map V.bl)) (h : Q (.bl (bs.any id)) H) : rAny K [.ref a] H Q := ⟨a, bs, rfl, hp, h⟩
theorem sortedI {a : Addr} {ns : List Int} {Q : VK} (hp : SqL K H a (ns.map V.int)) (h : ∀ (ms : List Int) (p : Addr) (G : Hp), ms.Perm ns → ms.Pairwise (· ≤ ·) → G p = some (.lst (ms.map V.int)) → Same H G → H p = none → Q (.ref p) G) : rSortedI K [.ref a] H Q :=
  ⟨a, ns, rfl, hp, fun ms p h1 h2 h3 => h ms p _ h1 h2 upd_same (fun b u e => by rw [upd_ne (ne_of_none e h3)]; exact e) h3⟩
theorem inS {neg : Bool} {x : V} {p : Addr} {xs : List V} {Q : VK} (hp : SqL K H p xs ∨ SqT K H p xs) (h1 : flatV x = true) (h2 : xs.all flatV = true) (h : Q (.bl (if neg then !inV x xs else inV x xs)) H) : rIn K neg x (.ref p) H Q := ⟨p, xs, rfl, hp, h1, h2, h⟩
theorem part {te : TE} {Q : Option Int → Hp → Prop} (h : te σ H fun x H1 => ∃ i, x = .int i ∧ Q (some i) H1) : tPart te σ H Q := h
theorem noPart {Q : Option Int → Hp → Prop} (h : Q none H) : tNoPart σ H Q := h
theorem poS {te : TE} {Q : Option Int → Hp → Prop} {i : Int} (h : te σ H fun x H1 => ∃ i, x = .int i ∧ Q (some i) H1) : te σ H fun x H1 => ∃ i, x = .int i ∧ Q (some i) H1 := h
theorem tupT {a : Addr} {xs : List V} {n : Nat} {t : TGs} {Q : L2.St → Hp → Prop} (hp : SqT K H a xs) (hn : xs.length = n) (h : t xs σ H Q) : gTup K n t (.ref a) σ H Q := ⟨a, xs, rfl, hp, hn, h⟩
theorem gcons {t : TG} {u : TGs} {v : V} {r : List V} {Q : L2.St → Hp → Prop} (h : t v σ H fun σ' H' => u r σ' H' Q) : gCons t u (v :: r) σ H Q := ⟨v, r, rfl, h⟩
theorem gnil {Q : L2.St → Hp → Prop} (h : Q σ H) : gNil [] σ H Q := ⟨rfl, h⟩
theorem last2 {ms : List Int} (h : 2 ≤ ms.length) : ∃ s b a, ms = s ++ [b, a] := by
  rcases List.eq_nil_or_concat ms with e | ⟨t, a, e⟩
  · subst e; simp at h
  · rcases List.eq_nil_or_concat t with e2 | ⟨s, b, e2⟩
    · subst e2; subst e; simp at h
    · exact ⟨s, b, a, by rw [e, e2]; simp⟩
theorem cut_last2 (s : List Int) (b a : Int) : cutV ((s ++ [b, a]).map V.int) (some (-2)) none = [b, a].map V.int := by
  have e : HT.sIx ((s ++ [b, a]).map V.int).length 0 (some (-2)) = (s.map V.int).length := by
    unfold HT.sIx
    simp
    omega
  have e2 : HT.sIx ((s ++ [b, a]).map V.int).length ((s ++ [b, a]).map V.int).length none = ((s ++ [b, a]).map V.int).length := rfl
  unfold cutV
  rw [e, e2, List.map_append, List.drop_left, List.length_append]
  exact List.take_of_length_le (by simp)
theorem rep_map (k : Nat) (b : Bool) : (List.replicate k [V.bl b]).flatten = (List.replicate k b).map V.bl := by
  induction k with
  | zero => rfl
  | succ k ih => rw [List.replicate_succ, List.flatten_cons, ih, List.replicate_succ]; rfl
theorem map_set {α β : Type} (f : α → β) (l : List α) (i : Nat) (x : α) : (l.map f).set i (f x) = (l.set i x).map f := by rw [List.map_set]
theorem enx {a b c : L2.St → Hp → Prop} {r : VK} (h : a σ H) : (Ends.mk a r b c).nx σ H := h
theorem ebk {a b c : L2.St → Hp → Prop} {r : VK} (h : b σ H) : (Ends.mk a r b c).bk σ H := h
theorem ect {a b c : L2.St → Hp → Prop} {r : VK} (h : c σ H) : (Ends.mk a r b c).ct σ H := h
theorem ert {a b c : L2.St → Hp → Prop} {r : VK} {v : V} (h : r v H) : (Ends.mk a r b c).rt v H := h
theorem intE {i : Int} {P : Int → Prop} (h : P i) : ∃ j, V.int i = .int j ∧ P j := ⟨i, rfl, h⟩
theorem atI_of {α : Type} {xs : List α} {i : Int} {v : α} (h0 : 0 ≤ i) (e : xs[i.toNat]? = some v) : atI xs i = some v := by
  have h := atI_nat e
  rw [show ((i.toNat : Nat) : Int) = i by omega] at h
  exact h
theorem ixN_of {n : Nat} {i : Int} (h0 : 0 ≤ i) (h1 : i < n) : ixN n i = some i.toNat := by
  unfold ixN
  rw [if_pos h0, if_pos h1]
theorem map_int {ns : List Int} {i : Nat} (h : i < ns.length) : (ns.map V.int)[i]? = some (.int ns[i]) := by simp [h]
theorem map_get {ns : List Int} {i : Nat} {x : V} (h : (ns.map V.int)[i]? = some x) : ∃ n, ns[i]? = some n ∧ x = .int n := by
  rw [List.getElem?_map] at h
  cases e : ns[i]? with
  | none => rw [e] at h; cases h
  | some z => rw [e] at h; exact ⟨z, rfl, (Option.some.inj h).symm⟩
theorem take_snoc {α : Type} {l : List α} {i : Nat} {x : α} (h : l[i]? = some x) : l.take (i + 1) = l.take i ++ [x] := by
  rw [List.take_succ, h]
  rfl
theorem upd_at {a : Addr} {o : HO} {b : Addr} (h : b = a) : upd H a o b = some o := by subst h; exact upd_same
/-- all but what stands at a is kept -/
def But (a : Addr) (H H' : Hp) : Prop := ∀ b o, b ≠ a → H b = some o → H' b = some o
theorem But.refl (a : Addr) (H : Hp) : But a H H := fun _ _ _ e => e
theorem But.trans {a : Addr} {H H1 H2 : Hp} (x : But a H H1) (y : But a H1 H2) : But a H H2 := fun b o n e => y b o n (x b o n e)
theorem But.same {a : Addr} {H H1 H2 : Hp} (x : But a H H1) (y : Same H1 H2) : But a H H2 := fun b o n e => y b o (x b o n e)
theorem But.of {a : Addr} {H H1 : Hp} (y : Same H H1) : But a H H1 := fun b o _ e => y b o e
theorem But.free {a : Addr} {H H1 : Hp} (x : But a H H1) {l : Addr} (n : l ≠ a) (h : H1 l = none) : H l = none := by
  cases q : H l with
  | none => rfl
  | some o =>
    have := x l o n q
    rw [h] at this
    cases this
theorem But.upd {a : Addr} {H H1 : Hp} {o : HO} (x : But a H H1) : But a H (upd H1 a o) := fun b u n e => by rw [upd_ne n]; exact x b u n e
theorem same_upd {H : Hp} {p : Addr} {o : HO} (h : H p = none) : Same H (upd H p o) := fun b u e => by rw [upd_ne (ne_of_none e h)]; exact e
end Rd

/-! Further rules: enumerate and sorted of a tuple; one of two ways to walk. -/
namespace Ru
open PySem PyProof.Rows
open PySem.AutoSeq1 (wpAny_loadPart')
section
variable {prog : Program} {w : World} {A : Around} {E : Value → Shared → Prop} {s : Shared}
theorem nextOf_tup {it t : Addr} {i : Nat} {items : Array Value} {x : Value} {Q : Value → Shared → Prop} (hit : s.heap.IsTupleIter it t i) (ht : s.heap.IsTuple t items) (hx : items[i]? = some x)
    (hQ : ∀ h', h'.IsTupleIter it t (i + 1) → Heap.SameBut it s.heap h' → Q x { s with heap := h' }) : wpAny (model prog w) A (Builtin.SmallTypes.nextOf (.ref it)) Q E s := by
  obtain ⟨oi, hoi, hci, hdi⟩ := id hit
  obtain ⟨ot, hot, _, nt, hdt⟩ := ht
  unfold Builtin.SmallTypes.nextOf
  refine wpAny_bind (wpAny_callSpecial?_slot (name := Str.ofString "__next__") hit.typeIs F.slot_tuple_iterator_next (wpAny_call_entry F.slot_tuple_iterator_next hit.typeIs F.entry_tuple_iterator_next ?_ (F.args_tuple_iterator_next_1 _)))
  show wpAny _ _ (field (.ref it) 0 >>= _) _ _ s
  refine wpAny_bind (wpAny_field hoi hdi (x := .ref t) rfl ?_)
  show wpAny _ _ (if (Value.ref t == Value.none) = true then _ else _) _ _ s
  rw [if_neg (show ¬ ((Value.ref t == Value.none) = true) from Bool.false_ne_true)]
  show wpAny _ _ (field (.ref it) 1 >>= _) _ _ s
  refine wpAny_bind (wpAny_field hoi hdi (x := .int i 0) rfl ?_)
  show wpAny _ _ (seqItems? (.ref t) >>= _) _ _ s
  refine wpAny_bind (wpAny_seqItems hot hdt ?_)
  simp only [Int.toNat_natCast, hx]
  refine wpAny_bind (wpAny_setField hoi hdi (by simp) (wpAny_pure ⟨x, rfl, wpAny_pure (hQ _ ?_ (Heap.SameBut.update ..))⟩))
  exact ⟨_, Heap.get?_update_self _ hoi (Obj.isFreed_of_fields (Obj.data_mapFields hdi _)), (Obj.cls_mapFields ..).trans hci, by rw [Obj.data_mapFields hdi]; simp [rawInt]⟩
theorem nextOf_tup_end {it t : Addr} {i : Nat} {items : Array Value} {Q : Value → Shared → Prop} (hh : A.handled = none) (hit : s.heap.IsTupleIter it t i) (ht : s.heap.IsTuple t items) (hx : items[i]? = none)
    (hE : ∀ h' e, Heap.ExtBut it s.heap h' → (∃ o, h'.get? e = some o ∧ o.cls = .type "StopIteration") → E (.ref e) { s with heap := h' }) : wpAny (model prog w) A (Builtin.SmallTypes.nextOf (.ref it)) Q E s := by
  obtain ⟨oi, hoi, hci, hdi⟩ := id hit
  obtain ⟨ot, hot, _, nt, hdt⟩ := ht
  unfold Builtin.SmallTypes.nextOf
  refine wpAny_bind (wpAny_callSpecial?_slot (name := Str.ofString "__next__") hit.typeIs F.slot_tuple_iterator_next (wpAny_call_entry F.slot_tuple_iterator_next hit.typeIs F.entry_tuple_iterator_next ?_ (F.args_tuple_iterator_next_1 _)))
  show wpAny _ _ (field (.ref it) 0 >>= _) _ _ s
  refine wpAny_bind (wpAny_field hoi hdi (x := .ref t) rfl ?_)
  show wpAny _ _ (if (Value.ref t == Value.none) = true then _ else _) _ _ s
  rw [if_neg (show ¬ ((Value.ref t == Value.none) = true) from Bool.false_ne_true)]
  show wpAny _ _ (field (.ref it) 1 >>= _) _ _ s
  refine wpAny_bind (wpAny_field hoi hdi (x := .int i 0) rfl ?_)
  show wpAny _ _ (seqItems? (.ref t) >>= _) _ _ s
  refine wpAny_bind (wpAny_seqItems hot hdt ?_)
  simp only [Int.toNat_natCast, hx]
  refine wpAny_bind (wpAny_rule (wpAny_bind (wpAny_setField hoi hdi (by simp) ?_)))
  show wpAny _ _ (newExc (.type "StopIteration") [] >>= _) _ _ _
  refine wpAny_bind ?_
  simp only [newExc, newTuple]
  refine wpAny_bind (wpAny_newObj_type ?_ (by size_fits))
  refine wpAny_bind (m := firstArgMember _ _) (wpAny_of_eq (a := Value.none) (by first | rfl | (simp only [firstArgMember]; rfl)) ?_)
  refine wpAny_newObj_type ?_ (by size_fits)
  simp only [raiseNew]
  refine wpAny_bind (wpAny_handled ?_)
  first | rw [show A.in1.handled = none from hh] | rw [hh]
  refine wpAny_bind (wpAny_pure (wpAny_throw ?_))
  exact hE _ _ (((Heap.SameBut.update ..).extBut.push _).push _) ⟨_, Heap.get?_push_size _ rfl, rfl⟩
end
theorem draws_tup {prog : Program} {w : World} {A : Around} (hh : A.handled = none) (it t : Addr) (hne : t ≠ it) (items : Array Value) :
    Draws prog w A it [it, t] items.size (fun i v => items[i]? = some v) (fun i h => h.IsTupleIter it t i ∧ h.IsTuple t items) where
  live := fun _ _ st => let ⟨o, ho, _⟩ := st.1; ⟨o, ho⟩
  frame := fun _ _ _ st hk => ⟨let ⟨o, ho, r⟩ := st.1; ⟨o, hk it (by simp) o ho, r⟩, let ⟨o, ho, r⟩ := st.2; ⟨o, hk t (by simp) o ho, r⟩⟩
  item := fun i s Q E hi st hQ => by
    refine nextOf_tup st.1 st.2 (x := items[i]) (by simp [hi]) fun h' k1 k2 => ?_
    exact hQ _ h' s.toks (by simp [hi]) ⟨k1, st.2.extBut k2.extBut hne⟩ k2
  done := fun s Q E st hE => nextOf_tup_end hh st.1 st.2 (by simp) hE
theorem meets_enum_tup (l : Addr) (items : Array Value) (n : Nat) (dct : Option Addr) (sl : Array (Option Value)) :
    Meets (Builtin.«enumerate.__new__» ⟨[.type "enumerate", .ref l], []⟩) (fun _ R s => s.heap.get? l = some { cls := .type "tuple", dict := dct, data := .seq items n, slots := sl } ∧
      R (.ok (.ret (.ref (s.heap.push { cls := .type "tuple_iterator", data := .fields #[.ref l, .int 0 0] }).objs.size)))
        { s with heap := (s.heap.push { cls := .type "tuple_iterator", data := .fields #[.ref l, .int 0 0] }).push { cls := .type "enumerate", data := .fields #[.none, .bool false, .ref s.heap.objs.size, rawInt 0, .none, .none] } }) :=
  .of_wp fun prog w A R s h => by
    obtain ⟨hp, g, d, tk, os⟩ := s
    obtain ⟨hl, h⟩ := h
    have hsub := sub_enumerate
    have hL : Heap.IsTuple (Shared.heap ⟨hp, g, d, tk, os⟩) l items := ⟨_, hl, rfl, n, rfl⟩
    wp_walk using wpAny_loadPart' hl
    refine wpAny_stack_any fun st => wpAny_pure ?_
    split
    · rename_i c _ _ _ _ _
      cases (c == Value.type "enumerate")
      · wp_walk using wpAny_loadPart' hl, wpAny_pyIter_tuple hL
        exact ⟨_, rfl, h⟩
      · wp_walk using wpAny_loadPart' hl, wpAny_pyIter_tuple hL
        exact ⟨_, rfl, h⟩
    · wp_walk using wpAny_loadPart' hl, wpAny_pyIter_tuple hL
      exact ⟨_, rfl, h⟩
section
variable {prog : Program} {w : World} {A : Around} {E : Value → Shared → Prop} {s : Shared}
theorem call_enum_tup {l : Addr} {items : Array Value} {Q : Value → Shared → Prop} (hL : s.heap.IsTuple l items)
    (h : ∀ h', IsEnum h' (s.heap.objs.size + 1) s.heap.objs.size 0 .none → h'.IsTupleIter s.heap.objs.size l 0 → h'.objs.size = s.heap.objs.size + 2 → (∀ b o, s.heap.get? b = some o → h'.get? b = some o) → Q (.ref (s.heap.objs.size + 1)) { s with heap := h' }) :
    wpAny (model prog w) A (call (.type "enumerate") [.ref l]) Q E s := by
  obtain ⟨⟨c, dct, dt, sl⟩, hl, hc, n, hd⟩ := hL
  replace hc : c = .type "tuple" := hc
  replace hd : dt = .seq items n := hd
  subst hc hd
  refine callType_new F.called_enumerate (by decide) (F.typeCall_enumerate_1 _) (F.newCall_enumerate_1 _) (fun obj => F.args_object_init_2 obj _) F.entry_enumerate_new (meets_enum_tup l items n dct sl) ⟨hl, ?_⟩
  have hz : (s.heap.push { cls := .type "tuple_iterator", data := .fields #[.ref l, .int 0 0] }).objs.size = s.heap.objs.size + 1 := Heap.size_push ..
  show _ ∧ _
  rw [hz]
  have he : IsEnum ((s.heap.push { cls := .type "tuple_iterator", data := .fields #[.ref l, .int 0 0] }).push { cls := .type "enumerate", data := .fields #[.none, .bool false, .ref s.heap.objs.size, rawInt 0, .none, .none] }) (s.heap.objs.size + 1) s.heap.objs.size 0 .none := by
    have q := Heap.get?_push_size (s.heap.push { cls := .type "tuple_iterator", data := .fields #[.ref l, .int 0 0] }) (o := { cls := .type "enumerate", data := .fields #[.none, .bool false, .ref s.heap.objs.size, rawInt 0, .none, .none] }) rfl
    rw [hz] at q
    exact q
  exact ⟨⟨_, he, rfl⟩, h _ he ⟨_, Heap.get?_push_of_some _ (Heap.get?_push_size _ rfl), rfl, rfl⟩ (by rw [Heap.size_push, hz]) fun b o x => Heap.get?_push_of_some _ (Heap.get?_push_of_some _ x)⟩
/-- a tuple is collected into a new list -/
theorem collect_tup {l : Addr} {vs : List Value} {Q : List Value → Shared → Prop} (hl : s.heap.IsTuple l vs.toArray) (hsz : vs.length ≤ sizeLine)
    (h : Q vs { s with heap := (s.heap.push (seqObj "list" #[] 0)).update s.heap.objs.size (Obj.mapSeq (· ++ vs.toArray)) }) : wpAny (model prog w) A (collect (.ref l)) Q E s := by
  obtain ⟨o, ho, hc, n, hd⟩ := id hl
  unfold collect
  refine wpAny_bind (wpAny_runValue (codeAny_builtin entry_proto_collect' ?_))
  show wpAny _ _ (do again (.builtin "list.__iadd__" ⟨[← newList [], .ref l], []⟩)) _ _ s
  refine wpAny_bind (wpAny_newList (wpAny_pure ⟨Code.quiet_builtin _ (by decide +kernel), codeAny_builtin entry_list_iadd' ?_⟩))
  show wpAny _ _ (Builtin.List.listExtendWith (.ref s.heap.objs.size) (.ref l) (.ref s.heap.objs.size)) _ _ { s with heap := s.heap.push (seqObj "list" #[] 0) }
  unfold Builtin.List.listExtendWith
  have ho' : (s.heap.push (seqObj "list" #[] 0)).get? l = some o := Heap.get?_push_of_some _ ho
  refine wpAny_bind (wpAny_typeOf (T := "tuple") ⟨o, ho', hc⟩ ?_)
  have ht : (Value.type "tuple" == Value.type "tuple") = true := by rfl
  rw [if_pos (by rw [ht]; simp)]
  refine wpAny_bind (listItems_at ho' hd ?_)
  refine wpAny_bind (listItems_at (xs := #[]) (n := 0) (Heap.get?_push_size _ rfl) rfl ?_)
  rw [if_neg (by simp)]
  refine wpAny_bind (listUpdate_at (xs := #[]) (n := 0) (Heap.get?_push_size _ rfl) rfl ?_ (Nat.zero_le _) (by show (#[] ++ vs.toArray).size ≤ sizeLine + 1; simp only [Array.size_append, List.size_toArray, List.length_nil]; omega))
  refine wpAny_pure ?_
  show wpAny (model prog w) A (do
      let o ← load s.heap.objs.size
      match o.data with
      | .seq xs _ => pure xs.toList
      | _ => unsupported "internal:collect") Q E { s with heap := (s.heap.push (seqObj "list" #[] 0)).update s.heap.objs.size (Obj.mapSeq (· ++ vs.toArray)) }
  refine wpAny_bind (wpAny_load (get?_update_seq (Heap.get?_push_size _ rfl) _) ?_)
  show wpAny _ _ (pure ((#[] : Array Value) ++ vs.toArray).toList) Q E _
  rw [show ((#[] : Array Value) ++ vs.toArray).toList = vs by simp]
  exact wpAny_pure h
end

section
variable {prog : Program} {w : World} {A : Around} {E : Value → Shared → Prop} {s : Shared}
open SrtO in
/-- sorted of a tuple: the new list stands at size + 1 -/
theorem sorted_tup {l : Addr} {vs : List Value} {ltv : Value → Value → Bool} {Q : Value → Shared → Prop} (O : Swo ltv) (hl : s.heap.IsTuple l vs.toArray) (hz : vs.length ≤ sizeLine)
    (hS : 2 ≤ vs.length → ∀ (g : Heap) (a : Addr), g.get? a = some (seqObj "list" vs.toArray 0) → (∀ b o, s.heap.get? b = some o → b ≠ a ∧ g.get? b = some o) → SortableO prog w A.in1.in1 { s with heap := g } a vs ltv)
    (h : ∀ out : List Value, Srtd ltv out → Stb ltv out vs → Q (.ref (s.heap.objs.size + 1)) { s with heap := sortedAll s.heap vs out.toArray }) : wpAny (model prog w) A (call (.builtin "sorted") [.ref l]) Q E s := by
  refine Calls.call_function_entry kind_sorted plain_sorted entry_sorted (args_sorted1 _) ?_
  unfold Builtin.«sorted»
  refine wpAny_bind (m := checkCount "sorted" 1 1 _) (wpAny_pure ?_)
  refine wpAny_bind (collect_tup hl hz ?_)
  refine wpAny_bind (wpAny_newList ?_ hz)
  have e1 : ((s.heap.push (seqObj "list" #[] 0)).update s.heap.objs.size (Obj.mapSeq (· ++ vs.toArray))).objs.size = s.heap.objs.size + 1 := by rw [Heap.size_update, size_push']
  have e2 : (((s.heap.push (seqObj "list" #[] 0)).update s.heap.objs.size (Obj.mapSeq (· ++ vs.toArray))).push (seqObj "list" vs.toArray 0)).get? (s.heap.objs.size + 1) = some (seqObj "list" vs.toArray 0) := by
    rw [← e1]
    exact Heap.get?_push_size _ rfl
  have e3 : ∀ b o, s.heap.get? b = some o → b ≠ s.heap.objs.size + 1 ∧ (((s.heap.push (seqObj "list" #[] 0)).update s.heap.objs.size (Obj.mapSeq (· ++ vs.toArray))).push (seqObj "list" vs.toArray 0)).get? b = some o := fun b o q => by
    have lt : b < s.heap.objs.size := Heap.lt_size q
    refine ⟨Nat.ne_of_lt (Nat.lt_succ_of_lt lt), Heap.get?_push_of_some _ ?_⟩
    rw [Heap.get?_update_ne _ _ _ _ (Nat.ne_of_lt lt)]
    exact Heap.get?_push_of_some _ q
  show wpAny _ _ _ _ _ { s with heap := ((s.heap.push (seqObj "list" #[] 0)).update s.heap.objs.size (Obj.mapSeq (· ++ vs.toArray))).push (seqObj "list" vs.toArray 0) }
  rw [e1]
  refine wpAny_bind (wpAny_holding (wpAny_call_entry slot_list_sort ⟨_, e2, rfl⟩ entry_list_sort (list_sort_ord O e2 hz (fun h2 => hS h2 _ _ e2 e3) fun out hs hb => ⟨_, rfl, ?_⟩) (args_list_sort _)))
  exact wpAny_pure ⟨_, rfl, h out hs hb⟩
end
end Ru
namespace Ru
open PySem PySem.Spec PyProof.Rows L2
/-- one of two ways to walk -/
theorem pi_or {X : Cx} {tg e : Expr} {t u : TI} (a : PI X tg e t) (b : PI X tg e u) : PI X tg e (fun σ H R => t σ H R ∨ u σ H R) := ⟨fun pins s σ H R I h => h.elim (a.run pins s σ H R I) (b.run pins s σ H R I)⟩
theorem callR_or {X : Cx} {f : Value} {r r' : List V → Hp → VK → Prop} (a : CallR X f r) (b : CallR X f r') : CallR X f (fun vs H Q => r vs H Q ∨ r' vs H Q) := fun pins s σ H vs us Q I rv h => h.elim (a pins s σ H vs us Q I rv) (b pins s σ H vs us Q I rv)
/-- sorted(t), t a tuple of ints -/
def rSortedTup (K : PySem.W.Frag) : List V → Hp → VK → Prop := fun vs H Q => ∃ (a : Addr) (ns : List Int), vs = [V.ref a] ∧ SqT K H a (ns.map V.int) ∧
  ∀ (ms : List Int) (p : Addr), ms.Perm ns → ms.Pairwise (· ≤ ·) → H p = none → Q (.ref p) (upd H p (.lst (ms.map V.int)))
theorem cr_sortedTup {X : Cx} : CallR X (.builtin "sorted") (rSortedTup X.K) := by
  intro pins s σ H vs us Q I r h
  obtain ⟨a, ns, rfl, hs, q⟩ := h
  obtain ⟨its, rv, hl, hz⟩ := I.tuple hs
  rw [Vals.ref1 r]
  have hi := rv.ints
  refine sorted_tup SrtO.swo_int (show s.heap.IsTuple a its.toArray from hl) (by rw [← rv.length]; exact hz) (fun h2 g b _ _ => SrtO.ints_sortable hi h2) fun out h1 h2 => ?_
  obtain ⟨k1, k2, k3⟩ := SrtO.ints_out hi h1 h2
  obtain ⟨ep, he⟩ := PyProof.Rows.sortedAll_at s.heap its out.toArray
  have ln : ((out.map SrtO.iv).map V.int).length ≤ sizeLine := by
    rw [List.length_map, k2.length_eq]
    rw [List.length_map] at hz
    exact hz
  exact ⟨.ref _, upd H (s.heap.objs.size + 1) (.lst ((out.map SrtO.iv).map V.int)), I.laid (t' := s.toks) (fun _ _ => PyProof.Rows.sortedAll_old) (Nat.le_succ _) ⟨ln, out, ep, vals_of_ints k1, he⟩, rfl, q _ _ k2 k3 (I.hok.fresh (Nat.le_succ _))⟩
/-- enumerate of a tuple: each item in a new pair -/
def IteT (K : PySem.W.Frag) (a : Addr) : It :=
  ⟨fun i H => ∃ (xs : List V) (x : V), SqT K H a xs ∧ xs[i]? = some x, fun i H v H' => ∃ T x, v = .ref T ∧ H T = none ∧ H' = upd H T (.tup [.int (i : Nat), x]) ∧ ∀ xs, SqT K H a xs → xs[i]? = some x, fun i H => ∃ xs : List V, SqT K H a xs ∧ xs.length = i⟩
theorem turn_enumT {P : Program} {w : World} {K : PySem.W.Frag} {elts : List Expr} {kk : Nat} {tpos : Pos} (a e it : Addr) :
    Turn P w K (.Tuple elts kk tpos) (IteT K a) [e, it] e (fun i h => (∃ old, IsEnum h e it ((i : Nat) : Int) old) ∧ h.IsTupleIter it a i ∧ e ≠ it) where
  mem := by simp
  obj := fun i h st b hb => by
    obtain ⟨⟨old, he⟩, ⟨o, ho, hc, hd⟩, _⟩ := st
    have z : b = e ∨ b = it := by simpa using hb
    rcases z with z | z
    · rw [z]; exact ⟨_, he, fun v q => nomatch q⟩
    · rw [z]; exact ⟨o, ho, fun v q => by rw [hd] at q; cases q⟩
  keep := fun i h h' st k => let ⟨⟨old, he⟩, ⟨o, ho, r⟩, hne⟩ := st; ⟨⟨old, k e (by simp) _ he⟩, ⟨o, k it (by simp) o ho, r⟩, hne⟩
  item := by
    intro X hP hw hK hc i pins s σ H E I hf st hg
    subst hP hw hK
    obtain ⟨⟨old, he⟩, hit, hne⟩ := st
    obtain ⟨xs, x, hq, hx⟩ := hg
    obtain ⟨its, rv, p, hz⟩ := I.tuple hq
    obtain ⟨u, hu, ru⟩ := rv.get hx
    have hel : e < s.heap.objs.size := Heap.lt_size he
    have hil : it < s.heap.objs.size := by obtain ⟨_, q, _⟩ := hit; exact Heap.lt_size q
    have hat : a ≠ it := fun z => by
      obtain ⟨o, q1, q2, _⟩ := hit
      obtain ⟨o', q3, q4, _⟩ := (show s.heap.IsTuple a its.toArray from p)
      rw [← z, q3] at q1
      cases q1
      rw [q4] at q2
      exact absurd (Value.type.inj q2) (by decide)
    have hea : e ≠ a := fun z => by
      obtain ⟨o', q3, q4, _⟩ := (show s.heap.IsTuple a its.toArray from p)
      rw [← z, he] at q3
      cases q3
      exact absurd (Value.type.inj q4) (by decide)
    have hlt : i < its.toArray.size := by
      have := (List.getElem?_eq_some_iff.mp hu).1
      simpa using this
    refine wpAny_pyNext_enum_itemD (draws_tup (prog := X.prog) (w := X.w) (A := X.A.in1) (I.ok.hd hc) it a hat its.toArray) he ⟨hit, p⟩ hlt hne (by simp [hne, hea]) fun y h' tk hy ho st' hT hsz hk => ?_
    have hy' : y = u := by
      have z : its.toArray[i]? = some u := by simpa using hu
      rw [z] at hy
      exact (Option.some.inj hy).symm
    subst hy'
    refine ⟨_, rfl, wpAny_letOwnedTupleGo_enum (s := { s with heap := h', toks := tk + 1 }) ho fun h'' he' sb => ?_⟩
    have hT2 : h''.get? s.heap.objs.size = some { cls := .type "tuple", data := .seq #[.int i tk, y] } := (sb.2 _ (Nat.ne_of_gt hel)).trans hT
    have new : ObjOk X.prog X.w (upd H s.heap.objs.size (.tup [.int (i : Nat), x])) h'' s.heap.objs.size (.tup [.int (i : Nat), x]) :=
      ⟨by show 2 ≤ sizeLine; decide, [.int i tk, y], .cons ⟨_, rfl⟩ (.cons ru .nil), ⟨_, hT2, rfl, _, rfl⟩⟩
    have I1 : Inv X pins σ (upd H s.heap.objs.size (.tup [.int (i : Nat), x])) { s with heap := h'', toks := tk + 1 } :=
      I.turnedNew (ch := [e, it]) (fun b ob hb q => (sb.2 b (fun z => hb (by simp [z]))).trans (hk b ob (fun z => hb (by simp [z])) (fun z => hb (by simp [z])) q)) hf (Nat.le_refl _) new
    refine ⟨.ref s.heap.objs.size, _, I1, rfl, ⟨_, x, rfl, I.hok.fresh (Nat.le_refl _), rfl, fun ys hy => by rw [I.tuple_inj hy hq]; exact hx⟩, ⟨⟨y, ?_⟩, ?_, hne⟩, fun b hb => ?_⟩
    · have e1 : ((i + 1 : Nat) : Int) = (i : Int) + 1 := by omega
      rw [e1]; exact he'
    · obtain ⟨o, q, r⟩ := st'.1
      exact ⟨o, (sb.2 it (Ne.symm hne)).trans q, r⟩
    · have hb' : b < s.heap.objs.size := by
        have z : b = e ∨ b = it := by simpa using hb
        rcases z with z | z
        · rw [z]; exact hel
        · rw [z]; exact hil
      rw [upd_ne (Nat.ne_of_lt hb')]
      exact (hf b hb).1
  done := by
    intro X hP hw hK hc i pins s σ H E I hf st hg
    subst hP hw hK
    obtain ⟨⟨old, he⟩, hit, hne⟩ := st
    obtain ⟨xs, hq, hx⟩ := hg
    obtain ⟨its, rv, p, hz⟩ := I.tuple hq
    obtain ⟨f0, f1, f2, f3, f4, f5⟩ := hf it (by simp)
    have hl := rv.length
    have hat : a ≠ it := fun z => by
      obtain ⟨o, q1, q2, _⟩ := hit
      obtain ⟨o', q3, q4, _⟩ := (show s.heap.IsTuple a its.toArray from p)
      rw [← z, q3] at q1
      cases q1
      rw [q4] at q2
      exact absurd (Value.type.inj q2) (by decide)
    have hn : i = its.toArray.size := by simp; omega
    refine wpAny_pyNext_enum_endD (draws_tup (prog := X.prog) (w := X.w) (A := X.A.in1) (I.ok.hd hc) it a hat its.toArray) he (by rw [hn] at hit; exact ⟨hit, p⟩) fun h' eb => ⟨rfl, ?_⟩
    obtain ⟨g0, g1, g2, g3, g4, g5⟩ := hf e (by simp)
    obtain ⟨f0, f1, f2, f3, f4, f5⟩ := hf it (by simp)
    exact I.turned (t' := s.toks) (fun b o hb q => eb b o hb q) f0 f1 f3 f4 f5
  self := fun A i s Q E st h => let ⟨⟨_, he⟩, _⟩ := st; wpAny_pyIter_enum he h
def iEnumT (K : PySem.W.Frag) (ta : TA) : TI := fun σ H R => ta σ H fun vs H1 => ∃ a xs, vs = [.ref a] ∧ SqT K H1 a xs ∧ R (IteT K a) H1
theorem pi_enumT {X : Cx} {e : Expr} {ta : TA} {p pos tpos : Pos} {elts : List Expr} {kk : Nat} (hg : Gl X "enumerate") (hm : X.mg "enumerate" = none) (ha : PA X [e] ta) (hs : starEach [e] X.env = [(false, eval e X.env)] := by rfl) :
    PI X (.Tuple elts kk tpos) (.Call (.Name "enumerate" p) [e] [] pos) (iEnumT X.K ta) := by
  refine ⟨fun pins s σ H R I h => ?_⟩
  refine Call_ (ld_blt I hg hm boot_enumerate (PyProof.Rows.callWith_type1 (thn (ha.run pos pins s σ H _ I h) fun us s1 ⟨vs, H1, I1, r1, q1⟩ => ?_) hs rfl))
  obtain ⟨a, xs, ex, hq, q⟩ := q1
  subst ex
  cases r1 with
  | cons r rr =>
    cases rr
    cases r
    obtain ⟨its, rv, p', hz⟩ := I1.tuple hq
    refine call_enum_tup (show s1.heap.IsTuple a its.toArray from p') fun h' he hit hsz hk => wpAny_pyIter_enum he ?_
    have I2 : Inv X pins σ H1 { s1 with heap := h' } := I1.kept (t' := s1.toks) hk
    refine ⟨s1.heap.objs.size + 1, [s1.heap.objs.size + 1, s1.heap.objs.size], _, _, H1, rfl, I2, turn_enumT a (s1.heap.objs.size + 1) s1.heap.objs.size, ⟨⟨.none, he⟩, hit, Nat.succ_ne_self _⟩, fun b hb => ?_, q⟩
    have z : b = s1.heap.objs.size + 1 ∨ b = s1.heap.objs.size := by simpa using hb
    have hle : s1.heap.objs.size ≤ b := by
      rcases z with z | z
      · rw [z]; exact Nat.le_add_right _ _
      · rw [z]; exact Nat.le_refl _
    exact I1.fpOk hle (I1.hok.fresh hle)
/-- a loop over enumerate of a list that stands still -/
theorem for_enum {K : PySem.W.Frag} {a : Addr} {xs : List V} {g : TG} {tb : TS} {D : Ends} {σ : L2.St} {H : Hp} (Pv : Nat → L2.St → Hp → Prop) (h0 : Pv 0 σ H) (hl : ∀ i σ H, i ≤ xs.length → Pv i σ H → SqL K H a xs)
    (hs : ∀ i x σ H (T : Addr), xs[i]? = some x → Pv i σ H → H T = none → g (.ref T) σ (upd H T (.tup [.int (i : Nat), x])) fun σ2 H2 => tb { D with nx := Pv (i + 1), ct := Pv (i + 1), bk := D.nx } σ2 H2) (hd : ∀ σ H, Pv xs.length σ H → D.nx σ H) :
    ∃ W : Nat → Nat → L2.St → Hp → Prop, (∃ m, W 0 m σ H) ∧ ∀ i m σ H, W i m σ H →
      ((Ite K a).stop i H ∧ D.nx σ H) ∨ ((Ite K a).go i H ∧ ∃ N : L2.St → Hp → Prop, (∀ σ' H', N σ' H' → ∃ m', m' < m ∧ W (i + 1) m' σ' H') ∧ ∀ x H', (Ite K a).yld i H x H' → g x σ H' fun σ2 H2 => tb { D with nx := N, ct := N, bk := D.nx } σ2 H2) := by
  refine ⟨fun i m σ H => m = xs.length - i ∧ i ≤ xs.length ∧ Pv i σ H, ⟨xs.length, by simp, Nat.zero_le _, h0⟩, ?_⟩
  rintro i m σ H ⟨rfl, hi, p⟩
  have q := hl i σ H hi p
  by_cases lt : i < xs.length
  · refine .inr ⟨⟨xs, xs[i], q, by simp [lt]⟩, Pv (i + 1), fun σ' H' p' => ⟨xs.length - (i + 1), by omega, rfl, lt, p'⟩, fun x H' y => ?_⟩
    obtain ⟨T, z, rfl, hT, rfl, y⟩ := y
    exact hs i z σ H T (y xs q) p hT
  · have e : i = xs.length := by omega
    subst e
    exact .inl ⟨⟨xs, q, Nat.le_refl _⟩, hd σ H p⟩
theorem for_enumT {K : PySem.W.Frag} {a : Addr} {xs : List V} {g : TG} {tb : TS} {D : Ends} {σ : L2.St} {H : Hp} (Pv : Nat → L2.St → Hp → Prop) (h0 : Pv 0 σ H) (hl : ∀ i σ H, i ≤ xs.length → Pv i σ H → SqT K H a xs)
    (hs : ∀ i x σ H (T : Addr), xs[i]? = some x → Pv i σ H → H T = none → g (.ref T) σ (upd H T (.tup [.int (i : Nat), x])) fun σ2 H2 => tb { D with nx := Pv (i + 1), ct := Pv (i + 1), bk := D.nx } σ2 H2) (hd : ∀ σ H, Pv xs.length σ H → D.nx σ H) :
    ∃ W : Nat → Nat → L2.St → Hp → Prop, (∃ m, W 0 m σ H) ∧ ∀ i m σ H, W i m σ H →
      ((IteT K a).stop i H ∧ D.nx σ H) ∨ ((IteT K a).go i H ∧ ∃ N : L2.St → Hp → Prop, (∀ σ' H', N σ' H' → ∃ m', m' < m ∧ W (i + 1) m' σ' H') ∧ ∀ x H', (IteT K a).yld i H x H' → g x σ H' fun σ2 H2 => tb { D with nx := N, ct := N, bk := D.nx } σ2 H2) := by
  refine ⟨fun i m σ H => m = xs.length - i ∧ i ≤ xs.length ∧ Pv i σ H, ⟨xs.length, by simp, Nat.zero_le _, h0⟩, ?_⟩
  rintro i m σ H ⟨rfl, hi, p⟩
  have q := hl i σ H hi p
  by_cases lt : i < xs.length
  · refine .inr ⟨⟨xs, xs[i], q, by simp [lt]⟩, Pv (i + 1), fun σ' H' p' => ⟨xs.length - (i + 1), by omega, rfl, lt, p'⟩, fun x H' y => ?_⟩
    obtain ⟨T, z, rfl, hT, rfl, y⟩ := y
    exact hs i z σ H T (y xs q) p hT
  · have e : i = xs.length := by omega
    subst e
    exact .inl ⟨⟨xs, q, rfl⟩, hd σ H p⟩
/-! ### a row: a list or a tuple -/
def SqR (K : PySem.W.Frag) (H : Hp) (a : Addr) (xs : List V) : Prop := SqL K H a xs ∨ SqT K H a xs
theorem same_tup {K : PySem.W.Frag} {H H' : Hp} {a : Addr} {xs : List V} (e : Same H H') (h : SqT K H a xs) : SqT K H' a xs := by
  rcases h with (h | ⟨o, h⟩) | h
  · exact .inl (.inl (e _ _ h))
  · exact .inl (.inr ⟨o, e _ _ h⟩)
  · exact .inr h
theorem SqR.same {K : PySem.W.Frag} {H H' : Hp} {a : Addr} {xs : List V} (e : Same H H') (h : SqR K H a xs) : SqR K H' a xs := h.imp e.seq (same_tup e)
/-- a loop over a row that stands still -/
theorem for_row {K : PySem.W.Frag} {a : Addr} {xs : List V} {g : TG} {tb : TS} {D : Ends} {σ : L2.St} {H : Hp} {ta : TE} (ea : ∀ Q, Q (.ref a) H → ta σ H Q) (Pv : Nat → L2.St → Hp → Prop) {Hb : Hp} (hr : SqR K Hb a xs) (h0 : Pv 0 σ H) (hl : ∀ i σ H', i ≤ xs.length → Pv i σ H' → Same Hb H')
    (hs : ∀ i x σ H, xs[i]? = some x → Pv i σ H → g x σ H fun σ2 H2 => tb { D with nx := Pv (i + 1), ct := Pv (i + 1), bk := D.nx } σ2 H2) (hd : ∀ σ H, Pv xs.length σ H → D.nx σ H) :
    tFor (fun σ H R => iList K ta σ H R ∨ iTup K ta σ H R) g tb D σ H := by
  rcases hr with hr | hr
  · exact .inl (ea _ ⟨a, rfl, ⟨_, (hl 0 σ H (Nat.zero_le _) h0).seq hr⟩, for_list (K := K) (a := a) (xs := xs) Pv h0 (fun i σ H' hi p => (hl i σ H' hi p).seq hr) hs hd⟩)
  · exact .inr (ea _ ⟨a, rfl, ⟨_, same_tup (hl 0 σ H (Nat.zero_le _) h0) hr⟩, for_tup (K := K) (a := a) (xs := xs) Pv h0 (fun i σ H' hi p => same_tup (hl i σ H' hi p) hr) hs hd⟩)
/-- .. over enumerate of a row -/
theorem for_enumR {K : PySem.W.Frag} {a : Addr} {xs : List V} {g : TG} {tb : TS} {D : Ends} {σ : L2.St} {H : Hp} {ta : TA} (ea : ∀ Q, Q [.ref a] H → ta σ H Q) (Pv : Nat → L2.St → Hp → Prop) {Hb : Hp} (hr : SqR K Hb a xs) (h0 : Pv 0 σ H) (hl : ∀ i σ H', i ≤ xs.length → Pv i σ H' → Same Hb H')
    (hs : ∀ i x σ H (T : Addr), xs[i]? = some x → Pv i σ H → H T = none → g (.ref T) σ (upd H T (.tup [.int (i : Nat), x])) fun σ2 H2 => tb { D with nx := Pv (i + 1), ct := Pv (i + 1), bk := D.nx } σ2 H2) (hd : ∀ σ H, Pv xs.length σ H → D.nx σ H) :
    tFor (fun σ H R => iEnum K ta σ H R ∨ iEnumT K ta σ H R) g tb D σ H := by
  rcases hr with hr | hr
  · exact .inl (ea _ ⟨a, _, rfl, (hl 0 σ H (Nat.zero_le _) h0).seq hr, for_enum (K := K) (a := a) (xs := xs) Pv h0 (fun i σ H' hi p => (hl i σ H' hi p).seq hr) hs hd⟩)
  · exact .inr (ea _ ⟨a, _, rfl, same_tup (hl 0 σ H (Nat.zero_le _) h0) hr, for_enumT (K := K) (a := a) (xs := xs) Pv h0 (fun i σ H' hi p => same_tup (hl i σ H' hi p) hr) hs hd⟩)
theorem ty_L {K : PySem.W.Frag} {H : Hp} {a : Addr} {xs : List V} (h : SqL K H a xs) : TyX K H (.ref a) (.type "list") := by
  rcases h with (h | ⟨o, h⟩) | ⟨o, its, n, h1, h2, _⟩
  · exact .base (.lst h)
  · exact .base (.frz h)
  · exact .kList h1 h2
theorem ty_T {K : PySem.W.Frag} {H : Hp} {a : Addr} {xs : List V} (h : SqT K H a xs) : TyX K H (.ref a) (.type "tuple") := by
  rcases h with (h | ⟨o, h⟩) | ⟨o, its, n, h1, h2, _⟩
  · exact .base (.tup h)
  · exact .fTuple h
  · exact .kTuple h1 h2
/-- isinstance(row, (list, tuple)) -/
theorem isRow {K : PySem.W.Frag} {H : Hp} {a tp : Addr} {xs : List V} {Q : VK} (h : SqR K H a xs) (ht : H tp = some (.tup [.ty "list", .ty "tuple"])) (q : Q (.bl true) H) : rIsiT K [.ref a, .ref tp] H Q := by
  have pc : Paired ClsV [.ty "list", .ty "tuple"] [.type "list", .type "tuple"] := .cons (.ty _) (.cons (.ty _) .nil)
  rcases h with h | h
  · exact ⟨_, tp, _, _, _, true, rfl, ht, pc, ty_L h, kitAny_cons (kit_ty (r := true) (by decide +kernel)) (fun z => nomatch z) (fun _ => rfl), q⟩
  · exact ⟨_, tp, _, _, _, true, rfl, ht, pc, ty_T h, kitAny_cons (kit_ty (r := false) (by decide +kernel)) (fun _ => kitAny_cons (kit_ty (r := true) (by decide +kernel)) (fun z => nomatch z) (fun _ => rfl)) (fun z => nomatch z), q⟩
theorem sortedR {K : PySem.W.Frag} {H : Hp} {a : Addr} {ns : List Int} {Q : VK} (hp : SqR K H a (ns.map V.int)) (h : ∀ (ms : List Int) (p : Addr) (G : Hp), ms.Perm ns → ms.Pairwise (· ≤ ·) → G p = some (.lst (ms.map V.int)) → Same H G → H p = none → Q (.ref p) G) : rSortedI K [.ref a] H Q ∨ rSortedTup K [.ref a] H Q :=
  hp.imp (fun q => Rd.sortedI q h) fun q => ⟨a, ns, rfl, q, fun ms p h1 h2 h3 => h ms p _ h1 h2 upd_same (fun b u e => by rw [upd_ne (ne_of_none e h3)]; exact e) h3⟩
end Ru

/-! Readings of texts, comprehensions and own objects by their heads; letters. -/
namespace Rd
open PySem PySem.Spec PyProof.Rows L2
variable {X : Cx} {D : Ends} {σ : L2.St} {H : Hp} {K : PySem.W.Frag}
/-! ### texts -/
def nAddS : R2 := fun x y H Q => ∃ i j, x = .str i ∧ y = .str j ∧ i.length + j.length ≤ sizeLine ∧ Q (.str (i ++ j)) H
theorem o_addS : OpR X (binaryOp .Add) nAddS := op_add_str
theorem addS {i j : Str} {Q : VK} (hz : i.length + j.length ≤ sizeLine) (h : Q (.str (i ++ j)) H) : nAddS (.str i) (.str j) H Q := ⟨i, j, rfl, rfl, hz, h⟩
def nInC : R2 := fun x y H Q => ∃ (c : Nat) (z : Str), x = .str ⟨#[c]⟩ ∧ y = .str z ∧ Q (.bl (decide (c ∈ z.cps.toList))) H
theorem o_inC : OpR X (compareOp .In) nInC := op_in_sign
theorem inC {c : Nat} {z : Str} {Q : VK} (h : Q (.bl (decide (c ∈ z.cps.toList))) H) : nInC (.str ⟨#[c]⟩) (.str z) H Q := ⟨c, z, rfl, rfl, h⟩
theorem inCT {c : Nat} {z : Str} {Q : VK} (e : c ∈ z.cps.toList) (h : Q (.bl true) H) : nInC (.str ⟨#[c]⟩) (.str z) H Q := inC (by rw [decide_eq_true e]; exact h)
theorem nodup_take {α : Type} {l : List α} {i : Nat} {x : α} (nd : l.Nodup) (h : l[i]? = some x) : x ∉ l.take i := by
  intro m
  obtain ⟨j, hj, e⟩ := List.getElem_of_mem m
  rw [List.length_take] at hj
  have e2 : l[j]? = some x := by rw [← e, List.getElem_take]; exact List.getElem?_eq_getElem (by omega)
  have := (List.getElem?_inj (by omega) nd).mp (e2.trans h.symm)
  omega
theorem ixS {z : Str} {i : Int} {c : Nat} {Q : VK} (hz : z.length ≤ sizeLine) (e : atI z.cps.toList i = some c) (h : Q (.str ⟨#[c]⟩) H) : rIxS (.str z) (.int i) H Q := ⟨z, i, c, rfl, rfl, hz, e, h⟩
theorem inStrs {neg : Bool} {z : Str} {p : Addr} {ws : List Str} {Q : VK} (hp : SqL K H p (ws.map V.str) ∨ SqT K H p (ws.map V.str)) (h : Q (.bl (if neg then !decide (z ∈ ws) else decide (z ∈ ws))) H) : rIn K neg (.str z) (.ref p) H Q := by
  have e : inV (.str z) (ws.map V.str) = decide (z ∈ ws) := by
    unfold inV
    rw [List.any_map, Bool.eq_iff_iff, List.any_eq_true, decide_eq_true_iff]
    constructor
    · rintro ⟨y, hy, q⟩
      have : y = z := by simpa [eqV] using q
      exact this ▸ hy
    · intro hz
      exact ⟨z, hz, by simp [eqV]⟩
  exact Rd.inS hp rfl (flat_strs ws) (by rw [e]; exact h)
theorem inStrsY {z : Str} {p : Addr} {ws : List Str} {Q : VK} (hp : SqL K H p (ws.map V.str) ∨ SqT K H p (ws.map V.str)) (h : Q (.bl (decide (z ∈ ws))) H) : rIn K false (.str z) (.ref p) H Q := inStrs hp h
theorem inStrsN {z : Str} {p : Addr} {ws : List Str} {Q : VK} (hp : SqL K H p (ws.map V.str) ∨ SqT K H p (ws.map V.str)) (h : Q (.bl (!decide (z ∈ ws))) H) : rIn K true (.str z) (.ref p) H Q := inStrs hp h
theorem inInts {neg : Bool} {z : Int} {p : Addr} {ws : List Int} {Q : VK} (hp : SqL K H p (ws.map V.int) ∨ SqT K H p (ws.map V.int)) (h : Q (.bl (if neg then !decide (z ∈ ws) else decide (z ∈ ws))) H) : rIn K neg (.int z) (.ref p) H Q := by
  have e : inV (.int z) (ws.map V.int) = decide (z ∈ ws) := by
    unfold inV
    rw [List.any_map, Bool.eq_iff_iff, List.any_eq_true, decide_eq_true_iff]
    constructor
    · rintro ⟨y, hy, q⟩
      have : y = z := by simpa [eqV] using q
      exact this ▸ hy
    · intro hz
      exact ⟨z, hz, by simp [eqV]⟩
  exact Rd.inS hp rfl (by rw [List.all_map]; exact List.all_eq_true.mpr fun _ _ => rfl) (by rw [e]; exact h)
theorem inIntsY {z : Int} {p : Addr} {ws : List Int} {Q : VK} (hp : SqL K H p (ws.map V.int) ∨ SqT K H p (ws.map V.int)) (h : Q (.bl (decide (z ∈ ws))) H) : rIn K false (.int z) (.ref p) H Q := inInts hp h
theorem inIntsN {z : Int} {p : Addr} {ws : List Int} {Q : VK} (hp : SqL K H p (ws.map V.int) ∨ SqT K H p (ws.map V.int)) (h : Q (.bl (!decide (z ∈ ws))) H) : rIn K true (.int z) (.ref p) H Q := inInts hp h
theorem map_str {ns : List Str} {i : Nat} (h : i < ns.length) : (ns.map V.str)[i]? = some (.str ns[i]) := by simp [h]
theorem map_strG {ns : List Str} {i : Nat} {x : V} (h : (ns.map V.str)[i]? = some x) : ∃ n, ns[i]? = some n ∧ x = .str n := by
  rw [List.getElem?_map] at h
  cases e : ns[i]? with
  | none => rw [e] at h; cases h
  | some z => rw [e] at h; exact ⟨z, rfl, (Option.some.inj h).symm⟩
theorem map_refG {ns : List Addr} {i : Nat} {x : V} (h : (ns.map V.ref)[i]? = some x) : ∃ n, ns[i]? = some n ∧ x = .ref n := by
  rw [List.getElem?_map] at h
  cases e : ns[i]? with
  | none => rw [e] at h; cases h
  | some z => rw [e] at h; exact ⟨z, rfl, (Option.some.inj h).symm⟩
theorem map_ref {ns : List Addr} {i : Nat} (h : i < ns.length) : (ns.map V.ref)[i]? = some (.ref ns[i]) := by simp [h]
theorem ins {l : Addr} {xs : List V} {i : Int} {y : V} {Q : VK} (hp : H l = some (.lst xs)) (hz : xs.length < sizeLine) (h0 : 0 ≤ i) (h1 : i < 2 ^ 63) (h : ∀ G : Hp, G l = some (.lst (xs.take i.toNat ++ [y] ++ xs.drop i.toNat)) → (∀ b, b ≠ l → G b = H b) → Q .non G) :
    ∃ (l' : Addr) (xs' : List V) (i' : Int) (y' : V), V.ref l = .ref l' ∧ [V.int i, y] = [.int i', y'] ∧ H l' = some (.lst xs') ∧ xs'.length < sizeLine ∧ 0 ≤ i' ∧ i' < 2 ^ 63 ∧ Q .non (upd H l' (.lst (xs'.take i'.toNat ++ [y'] ++ xs'.drop i'.toNat))) :=
  ⟨l, xs, i, y, rfl, rfl, hp, hz, h0, h1, h _ upd_same fun b hb => upd_ne hb⟩
def nInsert : V → List V → Hp → VK → Prop := fun x vs H Q => ∃ (l : Addr) (xs : List V) (i : Int) (y : V), x = .ref l ∧ vs = [.int i, y] ∧ H l = some (.lst xs) ∧ xs.length < sizeLine ∧ 0 ≤ i ∧ i < 2 ^ 63 ∧
    Q .non (upd H l (.lst (xs.take i.toNat ++ [y] ++ xs.drop i.toNat)))
theorem m_insert : MtR X "list.insert" nInsert := mt_insert
theorem insert {l : Addr} {xs : List V} {i : Int} {y : V} {Q : VK} (hp : H l = some (.lst xs)) (hz : xs.length < sizeLine) (h0 : 0 ≤ i) (h1 : i < 2 ^ 63) (h : ∀ G : Hp, G l = some (.lst (xs.take i.toNat ++ [y] ++ xs.drop i.toNat)) → (∀ b, b ≠ l → G b = H b) → Q .non G) : nInsert (.ref l) [.int i, y] H Q :=
  ins hp hz h0 h1 h
/-! ### equal lists of texts -/
theorem dpAll_strs : ∀ ns : List Str, DpAll K H (ns.map V.str) (ns.map PyData.str)
  | [] => .nil
  | n :: ns => .cons (.str n) (dpAll_strs ns)
theorem canLay_strs : ∀ ns : List Str, (∀ z ∈ ns, PyData.strOk z = true) → PyData.canLayAll0 (ns.map PyData.str) = true
  | [], _ => rfl
  | n :: ns, h => by
    show (PyData.canLay0 (.str n) && PyData.canLayAll0 (ns.map PyData.str)) = true
    rw [canLay_strs ns fun z hz => h z (List.mem_cons_of_mem _ hz)]
    show (PyData.strOk n && true) = true
    rw [h n List.mem_cons_self]
    rfl
theorem depth_strs : ∀ ns : List Str, PyData.depthAll (ns.map PyData.str) = 0
  | [] => rfl
  | n :: ns => by
    show max (PyData.depth (.str n)) (PyData.depthAll (ns.map PyData.str)) = 0
    rw [depth_strs ns]
    rfl
theorem shaped_strs {ns : List Str} (h : ∀ z ∈ ns, PyData.strOk z = true) : SeqAt.shaped (.list (ns.map PyData.str)) = true := by
  have h1 : PyData.canLay0 (.list (ns.map PyData.str)) = true := canLay_strs ns h
  have h2 : PyData.depth (.list (ns.map PyData.str)) = 1 := by
    show PyData.depthAll (ns.map PyData.str) + 1 = 1
    rw [depth_strs]
  unfold SeqAt.shaped
  rw [h1, h2]
  rfl
theorem eqStrs {a b : Addr} {ns : List Str} {Q : VK} (h1 : SqL K H a (ns.map V.str)) (h2 : SqL K H b (ns.map V.str)) (h : ∀ z ∈ ns, PyData.strOk z = true) (q : Q (.bl true) H) : rEqD K (.ref a) (.ref b) H Q := by
  refine ⟨_, _, .lst h1 (dpAll_strs ns), .lst h2 (dpAll_strs ns), shaped_strs h, shaped_strs h, ?_⟩
  rw [SeqAt.eqv_refl _ (SeqAt.canLay_of_shaped (shaped_strs h))]
  exact q
theorem neStrs {a b : Addr} {ns : List Str} {Q : VK} (h1 : SqL K H a (ns.map V.str)) (h2 : SqL K H b (ns.map V.str)) (h : ∀ z ∈ ns, PyData.strOk z = true) (q : Q (.bl false) H) : rNeD K (.ref a) (.ref b) H Q := by
  refine ⟨_, _, .lst h1 (dpAll_strs ns), .lst h2 (dpAll_strs ns), shaped_strs h, shaped_strs h, ?_⟩
  rw [SeqAt.eqv_refl _ (SeqAt.canLay_of_shaped (shaped_strs h))]
  exact q
/-! ### equal lists of ints -/
theorem dpAll_ints : ∀ ns : List Int, DpAll K H (ns.map V.int) (ns.map PyData.int)
  | [] => .nil
  | n :: ns => .cons (.int n) (dpAll_ints ns)
theorem canLay_ints : ∀ ns : List Int, PyData.canLayAll0 (ns.map PyData.int) = true
  | [] => rfl
  | n :: ns => by
    show (PyData.canLay0 (.int n) && PyData.canLayAll0 (ns.map PyData.int)) = true
    rw [canLay_ints ns]
    rfl
theorem depth_ints : ∀ ns : List Int, PyData.depthAll (ns.map PyData.int) = 0
  | [] => rfl
  | n :: ns => by
    show max (PyData.depth (.int n)) (PyData.depthAll (ns.map PyData.int)) = 0
    rw [depth_ints ns]
    rfl
theorem shaped_ints (ns : List Int) : SeqAt.shaped (.list (ns.map PyData.int)) = true := by
  have h1 : PyData.canLay0 (.list (ns.map PyData.int)) = true := canLay_ints ns
  have h2 : PyData.depth (.list (ns.map PyData.int)) = 1 := by
    show PyData.depthAll (ns.map PyData.int) + 1 = 1
    rw [depth_ints]
  unfold SeqAt.shaped
  rw [h1, h2]
  rfl
theorem eqv_ints : ∀ (xs ys : List Int), PyData.eqvAll (xs.map PyData.int) (ys.map PyData.int) = decide (xs = ys)
  | [], [] => rfl
  | [], _ :: _ => rfl
  | _ :: _, [] => rfl
  | x :: xs, y :: ys => by
    show (PyData.eqv (.int x) (.int y) && PyData.eqvAll (xs.map PyData.int) (ys.map PyData.int)) = _
    rw [eqv_ints xs ys, Bool.eq_iff_iff]
    show ((x == y) && decide (xs = ys)) = true ↔ _
    simp
theorem eqInts {a b : Addr} {ns ms : List Int} {Q : VK} (h1 : SqL K H a (ns.map V.int)) (h2 : SqL K H b (ms.map V.int)) (q : Q (.bl (decide (ns = ms))) H) : rEqD K (.ref a) (.ref b) H Q := by
  refine ⟨_, _, .lst h1 (dpAll_ints ns), .lst h2 (dpAll_ints ms), shaped_ints ns, shaped_ints ms, ?_⟩
  show Q (.bl (PyData.eqvAll (ns.map PyData.int) (ms.map PyData.int))) H
  rw [eqv_ints]
  exact q
theorem neInts {a b : Addr} {ns ms : List Int} {Q : VK} (h1 : SqL K H a (ns.map V.int)) (h2 : SqL K H b (ms.map V.int)) (q : Q (.bl (!decide (ns = ms))) H) : rNeD K (.ref a) (.ref b) H Q := by
  refine ⟨_, _, .lst h1 (dpAll_ints ns), .lst h2 (dpAll_ints ms), shaped_ints ns, shaped_ints ms, ?_⟩
  show Q (.bl (!PyData.eqvAll (ns.map PyData.int) (ms.map PyData.int))) H
  rw [eqv_ints]
  exact q
/-! ### comprehensions -/
def Lc (J : It) (g : TG) (tt : TT) (te : TE) (vs : List Nat) (σ : L2.St) (H1 : Hp) (Q : VK) : Prop := ∀ D, H1 D = none → ∃ W : Nat → Nat → Hp → Prop, (∃ m, W 0 m (upd H1 D (.lst []))) ∧ ∀ i m H, W i m H →
  (J.stop i H ∧ Q (.ref D) H) ∨ (J.go i H ∧ ∃ Nx : Hp → Prop, (∀ H', Nx H' → ∃ m', m' < m ∧ W (i + 1) m' H') ∧ ∀ x H', J.yld i H x H' → g x (wipe σ vs) H' fun σ2 H2 => wipe σ2 vs = wipe σ vs ∧ tt σ2 H2 fun b H3 =>
    if b = true then te σ2 H3 fun y H4 => ∃ acc, H4 D = some (.lst acc) ∧ acc.length < sizeLine ∧ Nx (upd H4 D (.lst (acc ++ [y]))) else Nx H3)
theorem lc {wi : TI} {g : TG} {tt : TT} {te : TE} {vs : List Nat} {Q : VK} (h : wi σ H fun J H1 => Lc J g tt te vs σ H1 Q) : tLc wi g tt te vs σ H Q := h
theorem istr {te : TE} {R : It → Hp → Prop} (h : te σ H fun v H1 => ∃ x, v = .str x ∧ R (Its x) H1) : iStr te σ H R := h
theorem strE {z : Str} {P : Str → Prop} (h : P z) : ∃ x, V.str z = .str x ∧ P x := ⟨z, rfl, h⟩
theorem tyes {Q : Bool → Hp → Prop} (h : Q true H) : tYes σ H Q := h
/-- the state of a comprehension: the list at D holds acc, all ahead of it stands -/
def LcP (D : Addr) (H1 : Hp) (R : Nat → List V → Hp → Prop) : Nat → Hp → Prop := fun i H => ∃ acc, H D = some (.lst acc) ∧ Same H1 H ∧ R i acc H
def LcPush (D : Addr) (H1 : Hp) (R : Nat → List V → Hp → Prop) (i : Nat) (y : V) (H4 : Hp) : Prop := ∃ acc, H4 D = some (.lst acc) ∧ acc.length < sizeLine ∧ LcP D H1 R (i + 1) (upd H4 D (.lst (acc ++ [y])))
theorem lcPush {D : Addr} {H1 H4 : Hp} {R : Nat → List V → Hp → Prop} {i : Nat} {y : V} {acc : List V} (hD : H4 D = some (.lst acc)) (nD : H1 D = none) (s1 : Same H1 H4) (hz : acc.length < sizeLine) (r : ∀ G : Hp, G D = some (.lst (acc ++ [y])) → (∀ b, b ≠ D → G b = H4 b) → R (i + 1) (acc ++ [y]) G) : LcPush D H1 R i y H4 :=
  ⟨acc, hD, hz, acc ++ [y], upd_same, fun b o e => by rw [upd_ne (ne_of_none e nD)]; exact s1 b o e, r _ upd_same fun b hb => upd_ne hb⟩
theorem lcS {J : It} {n : Nat} {G : Hp → Prop} {Y : Nat → Hp → V → Hp → Prop} (w : Walk J n G Y) {g : TG} {tt : TT} {te : TE} {vs : List Nat} {H1 : Hp} {Q : VK} (hG : ∀ H, Same H1 H → G H) (R : Addr → Nat → List V → Hp → Prop)
    (r0 : ∀ (D : Addr) (G : Hp), H1 D = none → G D = some (.lst []) → Same H1 G → R D 0 [] G)
    (hs : ∀ (D : Addr) i x H H' acc, H1 D = none → i < n → H D = some (.lst acc) → Same H1 H → R D i acc H → Y i H x H' → g x (wipe σ vs) H' fun σ2 H2 => wipe σ2 vs = wipe σ vs ∧ tt σ2 H2 fun b H3 =>
      if b = true then te σ2 H3 fun y H4 => LcPush D H1 (R D) i y H4 else LcP D H1 (R D) (i + 1) H3)
    (hd : ∀ (D : Addr) acc H, H1 D = none → H D = some (.lst acc) → Same H1 H → R D n acc H → Q (.ref D) H) : Lc J g tt te vs σ H1 Q := fun D nD =>
  lc_it w (LcP D H1 (R D)) ⟨[], upd_same, same_upd nD, r0 D _ nD upd_same (same_upd nD)⟩ (fun i H hi ⟨acc, h1, h2, h3⟩ => hG H h2)
    (fun i x H H' hi ⟨acc, h1, h2, h3⟩ y => hs D i x H H' acc nD hi h1 h2 h3 y) (fun H ⟨acc, h1, h2, h3⟩ => hd D acc H nD h1 h2 h3)
/-- .. over a row: a list or a tuple -/
theorem lcRow {a : Addr} {xs : List V} {ta : TE} {g : TG} {tt : TT} {te : TE} {vs : List Nat} {H1 : Hp} {Q : VK} (ea : ∀ Q : VK, Q (.ref a) H1 → ta σ H1 Q) (hr : Ru.SqR K H1 a xs) (R : Addr → Nat → List V → Hp → Prop)
    (r0 : ∀ (D : Addr) (G : Hp), H1 D = none → G D = some (.lst []) → Same H1 G → R D 0 [] G)
    (hs : ∀ (D : Addr) i x H acc, H1 D = none → i < xs.length → H D = some (.lst acc) → Same H1 H → R D i acc H → xs[i]? = some x → g x (wipe σ vs) H fun σ2 H2 => wipe σ2 vs = wipe σ vs ∧ tt σ2 H2 fun b H3 =>
      if b = true then te σ2 H3 fun y H4 => LcPush D H1 (R D) i y H4 else LcP D H1 (R D) (i + 1) H3)
    (hd : ∀ (D : Addr) acc H, H1 D = none → H D = some (.lst acc) → Same H1 H → R D xs.length acc H → Q (.ref D) H) : (fun σ H R => iList K ta σ H R ∨ iTup K ta σ H R) σ H1 fun J H1 => Lc J g tt te vs σ H1 Q := by
  rcases hr with hr | hr
  · exact .inl (ea _ ⟨a, rfl, ⟨_, hr⟩, lcS walk_list (fun _ s => s.seq hr) R r0 (fun D i x H H' acc nD hi hD sm r ⟨e, hx⟩ => by cases e; exact hs D i x H acc nD hi hD sm r hx) hd⟩)
  · exact .inr (ea _ ⟨a, rfl, ⟨_, hr⟩, lcS walk_tup (fun _ s => Ru.same_tup s hr) R r0 (fun D i x H H' acc nD hi hD sm r ⟨e, hx⟩ => by cases e; exact hs D i x H acc nD hi hD sm r hx) hd⟩)
theorem wipeE {A B : L2.St} {P : Prop} (e : A = B) (h : P) : A = B ∧ P := ⟨e, h⟩
/-! ### list(range(..)) -/
theorem lstRg {te : L2.St → Hp → (Int → Int → Hp → Prop) → Prop} {Q : VK} (h : te σ H fun a b H1 => RgOk a b ∧ NewQ (.lst (rgV a b)) Q H1) : tLstRg te σ H Q := h
theorem tupRg {te : L2.St → Hp → (Int → Int → Hp → Prop) → Prop} {Q : VK} (h : te σ H fun a b H1 => RgOk a b ∧ NewQ (.tup (rgV a b)) Q H1) : tTupRg te σ H Q := h
theorem rg1 {ta : TE} {Q : Int → Int → Hp → Prop} (h : ta σ H fun x H1 => ∃ n, x = .int n ∧ Q 0 n H1) : tRg1 ta σ H Q := h
theorem rg2 {ta tb : TE} {Q : Int → Int → Hp → Prop} (h : ta σ H fun x H1 => tb σ H1 fun y H2 => ∃ i j, x = .int i ∧ y = .int j ∧ Q i j H2) : tRg2 ta tb σ H Q := h
theorem intE2 {i j : Int} {P : Int → Int → Prop} (h : P i j) : ∃ a b, V.int i = .int a ∧ V.int j = .int b ∧ P a b := ⟨i, j, rfl, rfl, h⟩
theorem rgV0 (n : Nat) : rgV 0 (n : Int) = ((List.range n).map fun i : Nat => (i : Int)).map V.int := by
  unfold rgV
  rw [List.map_map, show ((n : Int) - 0).toNat = n by omega]
  refine List.map_congr_left fun i _ => ?_
  show V.int (0 + (i : Nat)) = V.int (i : Int)
  rw [Int.zero_add]
/-! ### dicts with ints as keys -/
theorem dnew {Q : VK} (h : ∀ (p : Addr) (G : Hp), H p = none → G p = some (.dK []) → Same H G → Q (.ref p) G) : tDNewK σ H Q :=
  fun p hp => h p _ hp upd_same fun b u e => by rw [upd_ne (ne_of_none e hp)]; exact e
theorem dgetH {td ty : TE} {Q : VK} (h : td σ H fun x H1 => ty σ H1 fun y H2 => ∃ a v, x = .ref a ∧ DGet H2 a y (some v) ∧ Q v H2) : tDGet td ty σ H Q := h
theorem dget {a : Addr} {kvs : List (Key × V)} {k : Int} {v : V} {P : V → Prop} (e : H a = some (.dK kvs)) (hv : valV kvs (.inl k) = some v) (q : P v) : ∃ a' v', V.ref a = .ref a' ∧ DGet H a' (.int k) (some v') ∧ P v' :=
  ⟨a, v, rfl, hv ▸ DGet.k (k := .inl k) e, q⟩
theorem dgetF {a : Addr} {o : Obj} {kvs : List (Key × V)} {k : Int} {v : V} {P : V → Prop} (e : H a = some (.frz o (.dK kvs))) (hv : valV kvs (.inl k) = some v) (q : P v) : ∃ a' v', V.ref a = .ref a' ∧ DGet H a' (.int k) (some v') ∧ P v' :=
  ⟨a, v, rfl, .inl ⟨kvs, .inl k, .inr ⟨o, e⟩, rfl, hv.symm⟩, q⟩
theorem dinH {ty td : TE} {Q : VK} (h : ty σ H fun y H1 => td σ H1 fun x H2 => ∃ a o, x = .ref a ∧ DGet H2 a y o ∧ Q (.bl o.isSome) H2) : tDIn ty td σ H Q := h
theorem dninH {ty td : TE} {Q : VK} (h : ty σ H fun y H1 => td σ H1 fun x H2 => ∃ a o, x = .ref a ∧ DGet H2 a y o ∧ Q (.bl (!o.isSome)) H2) : tDNotIn ty td σ H Q := h
theorem dany {a : Addr} {kvs : List (Key × V)} {k : Int} {P : Option V → Prop} (e : H a = some (.dK kvs)) (q : P (valV kvs (.inl k))) : ∃ a' o, V.ref a = .ref a' ∧ DGet H a' (.int k) o ∧ P o :=
  ⟨a, _, rfl, DGet.k (k := .inl k) e, q⟩
theorem dput {a : Addr} {kvs : List (Key × V)} {k : Int} {v : V} {Q : Hp → Prop} (e : H a = some (.dK kvs)) (hl : kvs.length < sizeLine) (h : ∀ G : Hp, G a = some (.dK (putK kvs (.inl k) v)) → (∀ b, b ≠ a → G b = H b) → Q G) : rSetD (.ref a) (.int k) v H Q :=
  ⟨a, _, rfl, DPut.k (k := .inl k) e hl, h _ upd_same fun b hb => upd_ne hb⟩
theorem dget1H {td ty : TE} {Q : VK} (h : td σ H fun x H1 => ∃ a, x = .ref a ∧ IsD H1 a ∧ ty σ H1 fun y H2 => ∃ o, DGet H2 a y o ∧ Q (o.getD .non) H2) : tDGet1 td ty σ H Q := h
theorem isD {a : Addr} {kvs : List (Key × V)} {P : Addr → Prop} (e : H a = some (.dK kvs)) (q : P a) : ∃ a', V.ref a = .ref a' ∧ IsD H a' ∧ P a' := ⟨a, rfl, .inl ⟨kvs, .inl e⟩, q⟩
theorem dgetO {a : Addr} {kvs : List (Key × V)} {k : Int} {P : Option V → Prop} (e : H a = some (.dK kvs)) (q : P (valV kvs (.inl k))) : ∃ o, DGet H a (.int k) o ∧ P o := ⟨_, DGet.k (k := .inl k) e, q⟩
/-- a for over the keys of a dict that is written nowhere in it -/
theorem forD {td : TE} {g : TG} {tb : TS} {a : Addr} {kvs : List (Key × V)} (hd : H a = some (.dK kvs)) (et : ∀ (H1 : Hp) (Q : VK), Q (.ref a) H1 → td σ H1 Q) (Pv : Nat → L2.St → Hp → Prop)
    (h0 : ∀ od, Pv 0 σ (upd H a (.frz od (.dK kvs)))) (hs : ∀ od i k v σ H, kvs[i]? = some (k, v) → H a = some (.frz od (.dK kvs)) → Pv i σ H → g (kV k) σ H fun σ2 H2 => tb { nx := fun σ' H' => H' a = some (.frz od (.dK kvs)) ∧ Pv (i + 1) σ' H', rt := fun v H' => H' a = some (.frz od (.dK kvs)) ∧ D.rt v (upd H' a (.dK kvs)), bk := fun σ' H' => H' a = some (.frz od (.dK kvs)) ∧ D.nx σ' (upd H' a (.dK kvs)), ct := fun σ' H' => H' a = some (.frz od (.dK kvs)) ∧ Pv (i + 1) σ' H' } σ2 H2)
    (hn : ∀ od σ H, H a = some (.frz od (.dK kvs)) → Pv kvs.length σ H → D.nx σ (upd H a (.dK kvs))) : tLock (tFor (iKeys td) g tb) D σ H := by
  refine ⟨a, .dK kvs, hd, trivial, fun od => ?_⟩
  refine et _ _ ⟨a, od, rfl, .inl ⟨kvs, upd_same, ?_⟩⟩
  exact for_it walk_keys (fun i σ H => H a = some (.frz od (.dK kvs)) ∧ Pv i σ H) ⟨upd_same, h0 od⟩ (fun i σ H _ h => h.1)
    (fun i x σ H H' hi ⟨h1, h2⟩ ⟨e, k, v, hk, hx⟩ => by cases e; cases hx; exact hs od i k v σ H hk h1 h2) (fun σ H ⟨h1, h2⟩ => ⟨h1, hn od σ H h1 h2⟩)
def nListD : List V → Hp → VK → Prop := fun xs H Q => ∃ p kvs, xs = [.ref p] ∧ H p = some (.dK kvs) ∧ ∀ q, H q = none → Q (.ref q) (upd H q (.lst (kvs.map fun kv => kV kv.1)))
theorem listD {a : Addr} {kvs : List (Key × V)} {Q : VK} (e : H a = some (.dK kvs)) (h : NewQ (.lst (kvs.map fun kv => kV kv.1)) Q H) : rListD [.ref a] H Q := ⟨a, kvs, rfl, e, h⟩
/-! ### joins -/
theorem m1 {r : V → List V → Hp → VK → Prop} {to te : TE} {Q : VK} (h : to σ H fun x H1 => (∃ a, x = .str a) ∧ te σ H1 fun y H2 => r x [y] H2 Q) : tM1 r to te σ H Q := h
theorem strX {a : Str} {R : Prop} (h : R) : (∃ b, V.str a = .str b) ∧ R := ⟨⟨a, rfl⟩, h⟩
theorem join {a : Str} {p : Addr} {ys : List Str} {Q : VK} (hp : SqL K H p (ys.map V.str) ∨ SqT K H p (ys.map V.str)) (hz : (ys.map (·.length)).sum + ys.length * a.length ≤ 16777216) (h : Q (.str (Txt.join a ys)) H) :
    ∃ a' p', ∃ ys' : List Str, V.str a = .str a' ∧ [V.ref p] = [.ref p'] ∧ (SqL K H p' (ys'.map V.str) ∨ SqT K H p' (ys'.map V.str)) ∧ (ys'.map (·.length)).sum + ys'.length * a'.length ≤ 16777216 ∧ Q (.str (Txt.join a' ys')) H := ⟨a, p, ys, rfl, rfl, hp, hz, h⟩
/-! ### own objects -/
def FldG (K : PySem.W.Frag) (f : Str) : V → Hp → VK → Prop := fun x H1 Q => ∃ a C dx fs v, x = .ref a ∧ H1 a = some (.ins C dx fs) ∧ Cls K C ∧ NoAttr K C f ∧ fs.lookup f = some v ∧ Q v H1
theorem fldH {ta : TE} {f : Str} {Q : VK} (h : ta σ H fun x H1 => FldG K f x H1 Q) : tFld K ta f σ H Q := h
theorem fld {f : Str} {a C dx : Addr} {fs : List (Str × V)} {v : V} {Q : VK} (e : H a = some (.ins C dx fs)) (c : Cls K C) (n : NoAttr K C f) (l : fs.lookup f = some v) (q : Q v H) : FldG K f (.ref a) H Q := ⟨a, C, dx, fs, v, rfl, e, c, n, l, q⟩
def FldS (K : PySem.W.Frag) (f : Str) (y : V) : V → Hp → (Hp → Prop) → Prop := fun x H2 Q => ∃ a C dx fs, x = .ref a ∧ H2 a = some (.ins C dx fs) ∧ Cls K C ∧ NoAttr K C f ∧ fs.length < 1000 ∧ Q (upd H2 a (.ins C dx (putF f y fs)))
theorem sfldH {ta tv : TE} {f : Str} (h : tv σ H fun y H1 => ta σ H1 fun x H2 => FldS K f y x H2 (D.nx σ)) : sFld K ta tv f D σ H := h
theorem sfld {f : Str} {a C dx : Addr} {fs fs' : List (Str × V)} {y : V} {Q : Hp → Prop} (e : H a = some (.ins C dx fs)) (c : Cls K C) (n : NoAttr K C f) (l : fs.length < 1000) (hf : putF f y fs = fs') (q : ∀ G : Hp, G a = some (.ins C dx fs') → (∀ b, b ≠ a → G b = H b) → Q G) : FldS K f y (.ref a) H Q :=
  ⟨a, C, dx, fs, rfl, e, c, n, l, hf ▸ q _ upd_same fun b hb => upd_ne hb⟩
def MkG (C : Addr) (sp : Sp) (dvs : List V) (E : XK) (vs : List V) (H1 : Hp) (Q : VK) : Prop := ∀ x dx, H1 x = none → H1 dx = none → dx ≠ x → sp (.ref x :: (vs ++ dvs)) (upd (upd H1 dx (.own x)) x (.ins C dx [])) (fun v H2 => v = .non ∧ Q (.ref x) H2) E
theorem mkH {C : Addr} {sp : Sp} {dvs : List V} {E : XK} {t : TA} {Q : VK} (h : t σ H fun vs H1 => MkG C sp dvs E vs H1 Q) : tMake C sp dvs E t σ H Q := h
theorem mk {C : Addr} {sp : Sp} {dvs : List V} {E : XK} {vs : List V} {Q : VK} (h : ∀ (x dx : Addr) (G : Hp), H x = none → H dx = none → dx ≠ x → G x = some (.ins C dx []) → Same H G → (∀ b, b ≠ x → b ≠ dx → G b = H b) → sp (.ref x :: (vs ++ dvs)) G (fun v H2 => v = .non ∧ Q (.ref x) H2) E) : MkG C sp dvs E vs H Q := fun x dx hx hd hne =>
  h x dx _ hx hd hne upd_same (fun b o e => by rw [upd_ne (ne_of_none e hx), upd_ne (ne_of_none e hd)]; exact e) fun b h1 h2 => by rw [upd_ne h1, upd_ne h2]
def MethG (C : Addr) (m : Str) (x : V) (H : Hp) (Q : Prop) : Prop := ∃ a dx fs, x = .ref a ∧ H a = some (.ins C dx fs) ∧ fs.lookup m = none ∧ Q
theorem methH {C : Addr} {m : Str} {sp : Sp} {dvs : List V} {E : XK} {ta : TE} {t : TA} {Q : VK} (h : ta σ H fun x H1 => MethG C m x H1 (t σ H1 fun vs H2 => sp (x :: (vs ++ dvs)) H2 Q E)) : tMeth C m sp dvs E ta t σ H Q := h
theorem meth {C : Addr} {m : Str} {a dx : Addr} {fs : List (Str × V)} {Q : Prop} (e : H a = some (.ins C dx fs)) (l : fs.lookup m = none) (q : Q) : MethG C m (.ref a) H Q := ⟨a, dx, fs, rfl, e, l, q⟩
/-! ### isinstance -/
theorem isi {x : V} {a b : String} {r : Bool} {Q : VK} (ht : TyX K H x (.type a)) (h : kitB a b = some r) (q : Q (.bl r) H) : rIsi K [x, .ty b] H Q := ⟨_, _, _, _, r, rfl, .ty b, ht, kit_ty h, q⟩
theorem isiStr {z : Str} {Q : VK} (q : Q (.bl true) H) : rIsi K [.str z, .ty "str"] H Q := isi (.base (.str z)) (by decide +kernel) q
theorem isiB {z : Bool} {Q : VK} (q : Q (.bl true) H) : rIsi K [.bl z, .ty "bool"] H Q := isi (.base (.bl z)) (by decide +kernel) q
theorem isiI {z : Int} {Q : VK} (q : Q (.bl true) H) : rIsi K [.int z, .ty "int"] H Q := isi (.base (.int z)) (by decide +kernel) q
theorem isiIB {z : Int} {Q : VK} (q : Q (.bl false) H) : rIsi K [.int z, .ty "bool"] H Q := isi (.base (.int z)) (by decide +kernel) q
end Rd
namespace W
open PySem PySem.Spec PyProof.Rows L2
theorem kit_self {K : PySem.W.Frag} {C : Addr} : PySem.W.kitOne K (.ref C) (.ref C) = some true := by
  unfold PySem.W.kitOne
  simp
/-- what isinstance asks of an own class -/
structure OwnTy (K : PySem.W.Frag) (C : Addr) : Prop where
  ha : PySem.W.findIn K (.ref C) "__class__" = some (some (.builtin "object.__class__"))
  hn : PySem.W.specialIn K (.builtin "object.__class__") "__get__" = some (some (.builtin "getset_descriptor.__get__"))
  htk : PySem.W.takesIn K (.builtin "object.__class__") = some true
  hm : PySem.W.mroIn K C (.type "object") = some true
  me : PySem.W.kitOne K (.ref C) (.ref C) = some true
theorem isiOwn {K : PySem.W.Frag} {H : Hp} {a C dx : Addr} {fs : List (Str × V)} {Q : VK} (c : Cls K C) (o : OwnTy K C) (e : H a = some (.ins C dx fs)) (q : Q (.bl true) H) : rIsi K [.ref a, .ref C] H Q :=
  ⟨_, _, _, _, true, rfl, .own C, .base (.ins e c o.ha o.hn o.htk o.hm), o.me, q⟩
end W
/-! ### letters -/
namespace Lt
open PySem PySem.Spec PyProof.Rows L2
def Abc : Str := "abcdefghijklmnopqrstuvwxyz"
def Let (z : Str) : Prop := ∀ c ∈ z.cps.toList, c ∈ Abc.cps.toList
theorem Let.app {a b : Str} (x : Let a) (y : Let b) : Let (a ++ b) := fun c h => by
  have : c ∈ a.cps.toList ++ b.cps.toList := by
    rw [← Array.toList_append]
    exact h
  exact (List.mem_append.mp this).elim (x c) (y c)
theorem len_app (a b : Str) : (a ++ b).length = a.length + b.length := Array.size_append
theorem Let.cut {z : Str} (x : Let z) (lo hi : Option Int) : Let (cutS z lo hi) := fun c h => x c (List.mem_of_mem_drop (List.mem_of_mem_take (show c ∈ (z.cps.toList.drop _).take _ from by simpa [cutS] using h)))
theorem Let.one {c : Nat} (h : c ∈ Abc.cps.toList) : Let ⟨#[c]⟩ := fun d hd => by
  have : d = c := by simpa using hd
  exact this ▸ h
theorem Let.empty : Let "" := fun c h => by exact absurd h (by decide +revert)
theorem Let.ok {z : Str} (x : Let z) : PyData.strOk z = true := by
  unfold PyData.strOk
  rw [Array.all_eq_true']
  intro c hc
  have h := x c (by simpa using hc)
  have : ∀ c ∈ Abc.cps.toList, decide (c < 0x110000) = true := by decide +kernel
  exact this c h
theorem Let.char {z : Str} (x : Let z) {c : Nat} {i : Nat} (h : z.cps.toList[i]? = some c) : c ∈ Abc.cps.toList := x c (List.mem_of_getElem? h)
theorem cut_len {z : Str} {a b : Nat} (h : a ≤ b) (hb : b ≤ z.length) : (cutS z (some (a : Int)) (some (b : Int))).length = b - a := by
  show (((z.cps.toList.drop (HT.sIx z.length 0 (some (a : Int)))).take (HT.sIx z.length z.length (some (b : Int)) - HT.sIx z.length 0 (some (a : Int)))).toArray).size = b - a
  rw [List.size_toArray, List.length_take, List.length_drop, Array.length_toList, HT.sIx_nat, HT.sIx_nat]
  unfold Str.length at hb ⊢
  omega
theorem cut_lenI {z : Str} {a b : Int} (h0 : 0 ≤ a) (h : a ≤ b) (hb : b ≤ z.length) : ((cutS z (some a) (some b)).length : Int) = b - a := by
  have := cut_len (z := z) (a := a.toNat) (b := b.toNat) (by omega) (by omega)
  rw [show ((a.toNat : Nat) : Int) = a by omega, show ((b.toNat : Nat) : Int) = b by omega] at this
  omega
theorem cut_from {z : Str} {a : Int} (h0 : 0 ≤ a) (h : a ≤ z.length) : ((cutS z (some a) none).length : Int) = z.length - a := by
  have e : (cutS z (some a) none).length = z.length - a.toNat := by
    show (((z.cps.toList.drop (HT.sIx z.length 0 (some a))).take (HT.sIx z.length z.length none - HT.sIx z.length 0 (some a))).toArray).size = _
    have e1 : HT.sIx z.length 0 (some a) = a.toNat := by
      have := HT.sIx_nat z.length 0 a.toNat
      rw [show ((a.toNat : Nat) : Int) = a by omega] at this
      rw [this]
      omega
    rw [List.size_toArray, List.length_take, List.length_drop, Array.length_toList, e1]
    show min (z.length - a.toNat) (z.cps.size - a.toNat) = _
    unfold Str.length
    omega
  omega
theorem cut_to {z : Str} {b : Int} (h0 : 0 ≤ b) : ((cutS z none (some b)).length : Int) = min b z.length := by
  have e : (cutS z none (some b)).length = min b.toNat z.length := by
    show (((z.cps.toList.drop (HT.sIx z.length 0 none)).take (HT.sIx z.length z.length (some b) - HT.sIx z.length 0 none)).toArray).size = _
    have e1 : HT.sIx z.length z.length (some b) = min b.toNat z.length := by
      have := HT.sIx_nat z.length z.length b.toNat
      rw [show ((b.toNat : Nat) : Int) = b by omega] at this
      exact this
    have e2 : HT.sIx z.length 0 none = 0 := rfl
    rw [List.size_toArray, List.length_take, List.length_drop, Array.length_toList, e1, e2]
    unfold Str.length
    omega
  omega
theorem join_let : ∀ ys : List Str, (∀ y ∈ ys, Let y) → Let (Str.join "" ys) ∧ (Str.join "" ys).length = (ys.map (·.length)).sum
  | [], _ => ⟨fun c h => by exact absurd h (by decide +revert), by decide +kernel⟩
  | [y], h => ⟨h y (by simp), by simp [Str.join]⟩
  | y :: z :: r, h => by
    have ih := join_let (z :: r) fun x hx => h x (List.mem_cons_of_mem _ hx)
    have e : Str.join "" (y :: z :: r) = y ++ "" ++ Str.join "" (z :: r) := rfl
    rw [e]
    refine ⟨((h y List.mem_cons_self).app Let.empty).app ih.1, ?_⟩
    rw [len_app, len_app, ih.2, show (Str.ofString "").length = 0 by decide +kernel]
    show y.length + 0 + _ = (y.length :: (z :: r).map (·.length)).sum
    rw [List.sum_cons]
    rfl
theorem join_one {ys : List Str} {n : Nat} (hl : ys.length = n) (h : ∀ y ∈ ys, Let y ∧ y.length = 1) : Let (Txt.join "" ys) ∧ (Txt.join "" ys).length = n ∧ (ys.map (·.length)).sum = n := by
  have j := join_let ys fun y hy => (h y hy).1
  have e : (ys.map (·.length)).sum = ys.length := by
    clear j hl
    induction ys with
    | nil => rfl
    | cons y r ih => rw [List.map_cons, List.sum_cons, ih fun x hx => h x (List.mem_cons_of_mem _ hx), (h y List.mem_cons_self).2, List.length_cons]; omega
  rw [TL.join_eq]
  exact ⟨j.1, by rw [j.2, e, hl], by rw [e, hl]⟩
theorem ne_of_len {z : Str} (h : 0 < z.length) : ¬ z = "" := fun e => by
  subst e
  exact absurd h (by decide +revert)
theorem len_of_ne {z : Str} (h : ¬ z = "") : 0 < z.length := by
  rcases Nat.eq_zero_or_pos z.length with e | e
  · exfalso
    refine h ?_
    have : z.cps = #[] := Array.eq_empty_of_size_eq_zero e
    cases z
    simp only at this
    subst this
    decide +kernel
  · exact e
/-- a word: some letters, at least one, at most n -/
structure Wd (n : Int) (z : Str) : Prop where
  ok : Let z
  l0 : 1 ≤ z.length
  l1 : (z.length : Int) ≤ n
theorem Wd.mono {n m : Int} {z : Str} (h : Wd n z) (k : n ≤ m) : Wd m z := ⟨h.ok, h.l0, Int.le_trans h.l1 k⟩
theorem Wd.line {n : Int} {z : Str} (h : Wd n z) (k : n ≤ 1000000) : z.length ≤ sizeLine := by
  have := h.l1
  rw [sizeLine_eq]
  omega
end Lt
namespace W
open PySem PySem.Spec PyProof.Rows L2
/-! ### the tape, books -/
def Tape (H : Hp) (t c : Addr) : Prop := ∃ (ns : List Int) (x y z u : Int), t ≠ c ∧ H t = some (.lst [.ref c, .int x, .int y, .int z, .int u]) ∧ H c = some (.lst (ns.map V.int)) ∧ 0 ≤ x ∧ x ≤ ns.length ∧ 0 ≤ z ∧ z < 2147483647
theorem Tape.same {H H' : Hp} {t c : Addr} (h : Tape H t c) (s : Same H H') : Tape H' t c := by
  obtain ⟨ns, x, y, z, u, n, h1, h2, r⟩ := h
  exact ⟨ns, x, y, z, u, n, s _ _ h1, s _ _ h2, r⟩
theorem Tape.off {H H' : Hp} {t c l : Addr} (h : Tape H t c) (h1 : l ≠ t) (h2 : l ≠ c) (e : ∀ b, b ≠ l → H' b = H b) : Tape H' t c := by
  obtain ⟨ns, x, y, z, u, n, g1, g2, r⟩ := h
  exact ⟨ns, x, y, z, u, n, by rw [e t h1.symm]; exact g1, by rw [e c h2.symm]; exact g2, r⟩
theorem Tape.new {H : Hp} {t c l : Addr} (h : Tape H t c) (n : H l = none) : l ≠ t ∧ l ≠ c := by
  obtain ⟨ns, x, y, z, u, _, g1, g2, r⟩ := h
  exact ⟨(ne_of_none g1 n).symm, (ne_of_none g2 n).symm⟩
theorem _root_.Rd.tape_same {H H' : Hp} {t c : Addr} (s : Same H H') (h : Tape H t c) : Tape H' t c := h.same s
theorem _root_.Rd.ntT {H : Hp} {t c l : Addr} (n : H l = none) (h : Tape H t c) : l ≠ t := (h.new n).1
theorem _root_.Rd.ntT' {H : Hp} {t c l : Addr} (n : H l = none) (h : Tape H t c) : l ≠ c := (h.new n).2
/-- some watches: no two alike, at most twelve, each of some letters -/
structure Watches (ws : List Str) : Prop where
  nd : ws.Nodup
  l1 : ws.length ≤ 12
  ok : ∀ z ∈ ws, Lt.Wd 12 z
/-- a book of the watches ws stands at b -/
def BookAt (C : Addr) (H : Hp) (b : Addr) (ws : List Str) : Prop := ∃ dx t, H b = some (.ins C dx [("watches", .ref t)]) ∧ H t = some (.tup (ws.map V.str))
theorem BookAt.same {C : Addr} {H H' : Hp} {b : Addr} {ws : List Str} (h : BookAt C H b ws) (s : Same H H') : BookAt C H' b ws := let ⟨dx, t, h1, h2⟩ := h; ⟨dx, t, s _ _ h1, s _ _ h2⟩
theorem BookAt.but {C t c : Addr} {H H' : Hp} {b : Addr} {ws : List Str} (h : BookAt C H b ws) (tp : Tape H t c) (s : Rd.But t H H') : BookAt C H' b ws := by
  obtain ⟨dx, q, h1, h2⟩ := h
  obtain ⟨ns, x, y, z, u, _, g1, g2, r⟩ := tp
  exact ⟨dx, q, s _ _ (ne_of h1 g1 (fun e => nomatch e)) h1, s _ _ (ne_of h2 g1 (fun e => nomatch e)) h2⟩
theorem snoc_nodup {α : Type} {ws : List α} {y : α} (nd : ws.Nodup) (q : ¬ y ∈ ws) : (ws ++ [y]).Nodup := by
  rw [List.nodup_append]
  exact ⟨nd, by simp, fun x hx z hz e => q (by simp at hz; rw [← hz, ← e]; exact hx)⟩
theorem _root_.Rd.book_same {C : Addr} {H H' : Hp} {b : Addr} {ws : List Str} (s : Same H H') (h : BookAt C H b ws) : BookAt C H' b ws := h.same s
theorem _root_.Rd.book_but {C t c : Addr} {H H' : Hp} {b : Addr} {ws : List Str} (s : Rd.But t H H') (tp : Tape H t c) (h : BookAt C H b ws) : BookAt C H' b ws := h.but tp s
end W
/-! ### what is kept, for the search by hypotheses -/
namespace Rd
open PySem PySem.Spec PyProof.Rows L2
variable {H H' : Hp} {K : PySem.W.Frag}
theorem neN {H : Hp} {a b : Addr} {o : HO} (h' : H b = none) (h : H a = some o) : a ≠ b := ne_of_none h h'
theorem neN' {H : Hp} {a b : Addr} {o : HO} (h' : H b = none) (h : H a = some o) : b ≠ a := (ne_of_none h h').symm
theorem same_tr {H H1 H2 : Hp} (b : Same H1 H2) (a : Same H H1) : Same H H2 := a.trans b
theorem but_tr {t : Addr} {H H1 H2 : Hp} (b : But t H1 H2) (a : But t H H1) : But t H H2 := a.trans b
theorem but_sm {t : Addr} {H H1 H2 : Hp} (b : Same H1 H2) (a : But t H H1) : But t H H2 := a.same b
theorem same_of2 {l : Addr} {H0 H H' : Hp} (off : ∀ b, b ≠ l → H' b = H b) (n : H0 l = none) (s : Same H0 H) : Same H0 H' := fun b o e => by rw [off b (ne_of_none e n)]; exact s b o e
theorem but_of2 {t l : Addr} {H0 H H' : Hp} (off : ∀ b, b ≠ l → H' b = H b) (n : H0 l = none) (s : But t H0 H) : But t H0 H' := fun b o h e => by rw [off b (ne_of_none e n)]; exact s b o h e
theorem at_same {a : Addr} {o : HO} (s : Same H H') (e : H a = some o) : H' a = some o := s a o e
theorem at_but {t a : Addr} {o : HO} (b : But t H H') (n : a ≠ t) (e : H a = some o) : H' a = some o := b a o n e
theorem at_off {l a : Addr} {o : HO} (off : ∀ b, b ≠ l → H' b = H b) (n : a ≠ l) (e : H a = some o) : H' a = some o := by rw [off a n]; exact e
theorem same_off {l : Addr} {H0 : Hp} (s : Same H0 H) (n : H0 l = none) (off : ∀ b, b ≠ l → H' b = H b) : Same H0 H' := fun b o e => by rw [off b (ne_of_none e n)]; exact s b o e
theorem but_off' {t l : Addr} {H0 : Hp} (s : But t H0 H) (n : H0 l = none) (off : ∀ b, b ≠ l → H' b = H b) : But t H0 H' := fun b o h e => by rw [off b (ne_of_none e n)]; exact s b o h e
theorem lenS {p : Addr} {ys : List Str} {H : Hp} {Q : VK} (hp : SqL K H p (ys.map V.str) ∨ SqT K H p (ys.map V.str)) (h : Q (.int (ys.length : Nat)) H) : nLen K [.ref p] H Q := ⟨p, _, rfl, hp, by rw [List.length_map]; exact h⟩
theorem lenI {p : Addr} {ys : List Int} {H : Hp} {Q : VK} (hp : SqL K H p (ys.map V.int) ∨ SqT K H p (ys.map V.int)) (h : Q (.int (ys.length : Nat)) H) : nLen K [.ref p] H Q := ⟨p, _, rfl, hp, by rw [List.length_map]; exact h⟩
theorem lenR {p : Addr} {ys : List Addr} {H : Hp} {Q : VK} (hp : SqL K H p (ys.map V.ref) ∨ SqT K H p (ys.map V.ref)) (h : Q (.int (ys.length : Nat)) H) : nLen K [.ref p] H Q := ⟨p, _, rfl, hp, by rw [List.length_map]; exact h⟩
end Rd

/-! Sorting of data of any depth, and by an own key function. -/
namespace Rs
open PySem PySem.W PyProof.Rows
theorem nsOne {h : Heap} {L : Addr} {m m' : Str → Option Value} : h.Ns L m → h.Ns L m' → m = m' := by
  rintro ⟨o, es, ep, e, d, _, r⟩ ⟨o', es', ep', e', d', _, r'⟩
  have : o = o' := Option.some.inj (e.symm.trans e')
  subst this
  rw [d] at d'
  injection d' with d1 d2
  subst d1
  funext x
  exact (r x).symm.trans (r' x)
theorem each_split {α β γ : Type} {R : α → γ → Prop} {S : γ → β → Prop} : ∀ {as : List α} {bs : List β}, EachIs (fun a b => ∃ c, R a c ∧ S c b) as bs → ∃ cs : List γ, EachIs R as cs ∧ EachIs S cs bs
  | _, _, .nil => ⟨[], .nil, .nil⟩
  | _, _, .cons ⟨c, h1, h2⟩ t => let ⟨cs, q1, q2⟩ := each_split t; ⟨c :: cs, .cons h1 q1, .cons h2 q2⟩
theorem each_get {α β : Type} {R : α → β → Prop} : ∀ {as : List α} {bs : List β}, EachIs R as bs → ∀ {i : Nat} {a : α}, as[i]? = some a → ∃ b, bs[i]? = some b ∧ R a b
  | _, _, .nil, _, _, h => by simp at h
  | _, _, .cons h t, 0, _, e => by
    simp at e
    subst e
    exact ⟨_, rfl, h⟩
  | _, _, .cons h t, i + 1, _, e => each_get t (i := i) (by simpa using e)
end Rs
namespace Rs
open PySem PySem.Spec PyProof.Rows L2 PySem.W
theorem each_vals {R : V → β → Prop} : ∀ {xs : List V} {us : List Value} {bs : List β}, Vals xs us → EachIs R xs bs → EachIs (fun u b => ∃ x, RelV x u ∧ R x b) us bs
  | _, _, _, .nil, .nil => .nil
  | _, _, _, .cons r rr, .cons h t => .cons ⟨_, r, h⟩ (each_vals rr t)
theorem vals_each {R : V → β → Prop} : ∀ {us : List Value} {bs : List β}, EachIs (fun u b => ∃ x, RelV x u ∧ R x b) us bs → ∃ xs : List V, Vals xs us ∧ EachIs R xs bs
  | _, _, .nil => ⟨[], .nil, .nil⟩
  | _, _, .cons ⟨x, r, h⟩ t => let ⟨xs, q1, q2⟩ := vals_each t; ⟨x :: xs, .cons r q1, .cons h q2⟩
/-- what is asked of the keys: alike, all tuples with an item or none a tuple, not deep -/
structure Keys (ds : List PyData) : Prop where
  al : AllAlike ds
  so : Sortable ds
  dp : ∀ d ∈ ds, d.depth ≤ 50
section
variable {X : Cx}
/-- sorted(xs), data of any depth -/
def rSortD (K : PySem.W.Frag) : List V → Hp → VK → Prop := fun vs H Q => ∃ (a : Addr) (xs : List V) (β : Type) (bs : List β) (k : β → PyData) (R : V → β → Prop), vs = [V.ref a] ∧ SqL K H a xs ∧ EachIs (fun x b => Dp K H x (k b) ∧ R x b) xs bs ∧ Keys (bs.map k) ∧
  ∀ (out : List V) (p : Addr) (G : Hp), EachIs (fun x b => Dp K H x (k b) ∧ R x b) out (bs.mergeSort (dataLe false k)) → H p = none → G p = some (.lst out) → Same H G → Q (.ref p) G
theorem cr_sortD (hu : X.A.units + 64 < cLine) : CallR X (.builtin "sorted") (rSortD X.K) := by
  intro pins s σ H vs us Q I r h
  obtain ⟨a, xs, β, bs, k, R, rfl, hs, he, hk, q⟩ := h
  obtain ⟨its, rv, hl, hz⟩ := I.list hs
  obtain rfl := Vals.ref1 r
  have hz' : its.length ≤ sizeLine := by rw [← rv.length]; exact hz
  have h1 : EachIs (fun u b => ∃ x, RelV x u ∧ (Dp X.K H x (k b) ∧ R x b)) its bs := each_vals rv he
  have h2 : EachIs (fun u b => ∃ as, Reads s.heap u (k b) as) its bs := h1.mono fun u b ⟨x, rx, hx, _⟩ => Dp.reads I (k b) x u hx rx
  have h3 : EachIs (fun u d => ∃ as, Reads (sortingHeap (copyHeap s.heap its) (s.heap.objs.size + 1) its) u d as) its (bs.map k) := by
    have : ∀ {as : List Value} {bs : List β}, EachIs (fun u b => ∃ as, Reads s.heap u (k b) as) as bs → EachIs (fun u d => ∃ as, Reads (sortingHeap (copyHeap s.heap its) (s.heap.objs.size + 1) its) u d as) as (bs.map k) := by
      intro as bs h
      induction h with
      | nil => exact .nil
      | cons h _ ih =>
        obtain ⟨as, r⟩ := h
        exact .cons ⟨as, PyProof.Rows.Reads.keeps (fun b o e => sorting_copy_old e) r⟩ ih
    exact this h2
  have SA : SortsAt X.prog X.w X.A.in1.in1 { s with heap := sortingHeap (copyHeap s.heap its) (s.heap.objs.size + 1) its } (dataKind (sortingHeap (copyHeap s.heap its) (s.heap.objs.size + 1) its) (bs.map k)) its := SortsAt.data (s := { s with heap := sortingHeap (copyHeap s.heap its) (s.heap.objs.size + 1) its }) h3 hk.al hk.so fun d hd => by
    have := hk.dp d hd
    simp only [units_in1]
    omega
  refine sorted_vals hl.isList SA hz' ?_
  have out := sortVals_each (κ := dataKind (sortingHeap (copyHeap s.heap its) (s.heap.objs.size + 1) its) (bs.map k)) (rev := false) (fun b => keyToks (k b)) h1 (each_of_map k (each_keys hk.al h3))
  obtain ⟨ys, ry, hy⟩ := vals_each out
  obtain ⟨ep, he'⟩ := PyProof.Rows.sortedAll_at s.heap its (sortVals (dataKind (sortingHeap (copyHeap s.heap its) (s.heap.objs.size + 1) its) (bs.map k)) false its its).toArray
  have hlen : ys.length ≤ sizeLine := by
    rw [ry.length, sortVals_length false rfl]
    exact hz'
  have hf := I.hok.fresh (Nat.le_succ s.heap.objs.size)
  exact ⟨.ref _, upd H (s.heap.objs.size + 1) (.lst ys), I.laid (t' := s.toks) (fun _ _ => PyProof.Rows.sortedAll_old) (Nat.le_succ _) ⟨hlen, _, ep, ry, he'⟩, rfl, q ys _ _ hy hf upd_same (Rd.same_upd hf)⟩
end
end Rs
namespace Rs
open PySem PySem.Spec PyProof.Rows L2 PySem.W
theorem room2 {k : Nat} {A : Around} (r : Room (k + 1) A) : Room k A.in1.in1 :=
  ⟨r.hd, by have := r.dp; show A.depth + 3 * k + 5 < _; omega, by have := r.un; show A.units + 1 + 1 + 16 * k + 200 < _; omega⟩
theorem each_imp {α β : Type} {R S : α → β → Prop} (h : ∀ a b, R a b → S a b) : ∀ {as : List α} {bs : List β}, EachIs R as bs → EachIs S as bs
  | _, _, .nil => .nil
  | _, _, .cons q t => .cons (h _ _ q) (each_imp h t)
theorem each_reads {X : Cx} {pins : List (Addr × Obj)} {σ : L2.St} {H : Hp} {s : Shared} (I : Inv X pins σ H s) {β : Type} {k : β → PyData} : ∀ {us : List Value} {vs : List V} {bs : List β}, Vals vs us → EachIs (fun x b => Dp X.K H x (k b)) vs bs → EachIs (fun u d => ∃ as, Reads s.heap u d as) us (bs.map k)
  | _, _, _, .nil, .nil => .nil
  | _, _, _, .cons r rr, .cons h t => .cons (Dp.reads I _ _ _ h r) (each_reads I rr t)
mutual
theorem Dp.same {K : PySem.W.Frag} {H H' : Hp} (s : Same H H') : ∀ (d : PyData) (v : V), Dp K H v d → Dp K H' v d
  | .none, _, h => by cases h; exact .non
  | .bool b, _, h => by cases h; exact .bl b
  | .int i, _, h => by cases h; exact .int i
  | .str x, _, h => by cases h; exact .str x
  | .list ds, _, h => by
    cases h with
    | lst hs ha => exact .lst (s.seq hs) (Dp.sameAll s ds _ ha)
  | .tuple ds, _, h => by
    cases h with
    | tup hs ha => exact .tup (Ru.same_tup s hs) (Dp.sameAll s ds _ ha)
  | .dict _, _, h => by cases h
theorem Dp.sameAll {K : PySem.W.Frag} {H H' : Hp} (s : Same H H') : ∀ (ds : List PyData) (vs : List V), DpAll K H vs ds → DpAll K H' vs ds
  | [], _, h => by cases h; exact .nil
  | d :: ds, _, h => by
    cases h with
    | cons h1 h2 => exact .cons (Dp.same s d _ h1) (Dp.sameAll s ds _ h2)
end
theorem each_snocK {β : Type} {R : V → β → Prop} {x : V} {y : β} (hxy : R x y) : ∀ {as : List V} {bs : List β}, EachIs R as bs → EachIs R (as ++ [x]) (bs ++ [y])
  | _, _, .nil => .cons hxy .nil
  | _, _, .cons h t => .cons h (each_snocK hxy t)
def rSortK (f : Addr) (sp : Sp) (K : PySem.W.Frag) : List V → List V → Hp → VK → Prop := fun vs zs H Q => ∃ (a : Addr) (xs : List V) (β : Type) (bs : List β) (k : β → PyData) (R : V → β → Prop), vs = [V.ref a] ∧ zs = [V.ref f] ∧ SqL K H a xs ∧ EachIs R xs bs ∧ Keys (bs.map k) ∧
  (∀ x b H1, Same H H1 → b ∈ bs → R x b → sp [x] H1 (fun v H2 => Same H1 H2 ∧ Dp K H2 v (k b)) (fun _ _ _ => False)) ∧
  ∀ (out : List V) (p : Addr) (G : Hp), EachIs R out (bs.mergeSort (dataLe false k)) → H p = none → G p = some (.lst out) → Same H G → Q (.ref p) G
section
variable {X : Cx} {f : Addr} {fd : FuncData} {ps : List Str} {sp : Sp} {k : Nat}
theorem cr_sortK (F : FnOk X.prog X.w X.K X.mg X.base CX0 k f fd ps sp) (hr : Room (k + 1) X.A) (hb : Binds X.K fd ps []) : CallRK X (.builtin "sorted") [Str.ofString "key"] (rSortK f sp X.K) := by
  intro pins s σ H vs zs us ws Q I r rz h
  obtain ⟨a, xs, β, bs, key, R, rfl, rfl, hs, he, hk, hkey, q⟩ := h
  obtain ⟨its, rv, hl, hz⟩ := I.list hs
  obtain rfl := Vals.ref1 r
  obtain rfl := Vals.ref1 rz
  have hz' : its.length ≤ sizeLine := by rw [← rv.length]; exact hz
  have hbl : its.length = bs.length := by rw [← rv.length, he.length]
  refine sorted_of_sort hl.isList hz' (ksk_s1 _ _) (fun _ => ksk_l1 _ _) fun E' => ?_
  show wpAny _ _ (Builtin.«list.sort» ⟨[.ref (s.heap.objs.size + 1)], [(Str.ofString "key", .ref f)]⟩) _ E' { s with heap := copyHeap s.heap its }
  rw [ksk_t1]
  unfold ksk_tree
  have hcs : (copyHeap s.heap its).objs.size = s.heap.objs.size + 2 := by
    unfold copyHeap
    rw [size_push', Heap.size_update, size_push']
  have ho := copyHeap_at s.heap its
  refine wpAny_bind (listItems_at ho rfl ?_)
  refine wpAny_bind (listUpdate_at ho rfl ?_ (by rw [List.size_toArray]; exact hz') (Nat.zero_le _))
  obtain ⟨e1, ho1⟩ : ∃ e1, ((copyHeap s.heap its).update (s.heap.objs.size + 1) (Obj.mapSeq fun _ => #[])).get? (s.heap.objs.size + 1) = some (seqObj "list" #[] e1) := ⟨_, get?_update_seq ho fun _ => #[]⟩
  refine wpAny_bind (seqEpoch_at ho1 rfl ?_)
  refine wpAny_bind (wpAny_newTuple ?_ (by show its.length ≤ _; exact hz'))
  refine wpAny_bind (wpAny_newList ?_ (Nat.zero_le _))
  refine wpAny_holding ?_
  have hks : (((copyHeap s.heap its).update (s.heap.objs.size + 1) (Obj.mapSeq fun _ => #[])).push (seqObj "tuple" its.toArray 0)).objs.size = s.heap.objs.size + 3 := by
    rw [size_push', Heap.size_update, hcs]
  have hoa : (sortingHeap (copyHeap s.heap its) (s.heap.objs.size + 1) its).get? (s.heap.objs.size + 1) = some (seqObj "list" #[] e1) :=
    Heap.get?_push_of_some _ (Heap.get?_push_of_some _ ho1)
  have hok : (sortingHeap (copyHeap s.heap its) (s.heap.objs.size + 1) its).get? (s.heap.objs.size + 3) = some (seqObj "list" #[] 0) := by
    rw [← hks]
    exact Heap.get?_push_size _ rfl
  show wpAny _ _ (ksk_rest (s.heap.objs.size + 1) (.ref f) false its.toArray e1 (.ref (((copyHeap s.heap its).update (s.heap.objs.size + 1) (Obj.mapSeq fun _ => #[])).push (seqObj "tuple" its.toArray 0)).objs.size)) _ E' { s with heap := sortingHeap (copyHeap s.heap its) (s.heap.objs.size + 1) its }
  rw [hks]
  have hk0 : ∀ b o, s.heap.get? b = some o → (sortingHeap (copyHeap s.heap its) (s.heap.objs.size + 1) its).get? b = some o := fun b o q => sorting_copy_old q
  generalize sortingHeap (copyHeap s.heap its) (s.heap.objs.size + 1) its = g0 at hoa hok hk0
  have old : ∀ b o, s.heap.get? b = some o → b < s.heap.objs.size := fun b o e => Heap.lt_size e
  have nL : @LT.lt Nat _ X.env.locals s.heap.objs.size := I.lt
  have up : ∀ c i : Nat, c < s.heap.objs.size → c ≠ s.heap.objs.size + i := fun c i h => by omega
  have pu : ∀ c i : Nat, c < s.heap.objs.size → s.heap.objs.size + i ≠ c := fun c i h => by omega
  have le0 : ∀ i : Nat, X.s_0.heap.objs.size ≤ s.heap.objs.size + i := fun i => Nat.le_trans I.sz (Nat.le_add_right _ _)
  have n13 : ¬ s.heap.objs.size + 1 = s.heap.objs.size + 3 := by omega
  have n31 : ¬ s.heap.objs.size + 3 = s.heap.objs.size + 1 := by omega
  have nC : ∀ x c, X.env.cells.lookup x = some c → c < s.heap.objs.size := fun x c e => by
    obtain ⟨v, o, ho, _⟩ := I.cell x c e
    exact Heap.lt_size ho
  have nP : ∀ p ∈ X.pn ++ pins, p.1 < s.heap.objs.size := fun p hp => Heap.lt_size (I.pin p hp).1
  have sz := I.sz
  unfold ksk_rest
  refine wpAny_bind (wpAny_rule ?_)
  first
    | rw [List.forIn_toArray]
    | (rw [← Array.forIn_toList]; simp only [List.toList_toArray])
    | rw [← Array.forIn_toList]
  refine wpAny_bind (ksk_fold (fun i s' => ∃ (Hc : Hp) (ks : List V) (kA : Array Value) (e : Nat), Inv X (pins ++ [(s.heap.objs.size + 3, seqObj "list" kA e), (s.heap.objs.size + 1, seqObj "list" #[] e1)]) σ Hc s' ∧ Same H Hc ∧ Vals ks kA.toList ∧
      EachIs (fun x b => Dp X.K Hc x (key b)) ks (bs.take i)) its 0 { s with heap := g0 } ?start ?step ?done)
  case start =>
    have I1 : Inv X pins σ H { s with heap := g0 } := I.kept (t' := s.toks) hk0
    have hf1 := I.hok.fresh (a := s.heap.objs.size + 1) (by omega)
    have hf3 := I.hok.fresh (a := s.heap.objs.size + 3) (by omega)
    refine ⟨H, [], #[], 0, I1.pins_of fun p hp => ?_, Same.refl _, .nil, by rw [List.take_zero]; exact .nil⟩
    rcases List.mem_append.mp hp with hp | hp
    · exact I1.pin p (List.mem_append_right _ hp)
    · rcases List.mem_cons.mp hp with rfl | hp
      · exact ⟨hok, hf3, pu _ 3 nL, I.nofs (by show _ ≤ s.heap.objs.size + 3; omega), fun v => by simp [seqObj]⟩
      · rw [List.mem_singleton.mp hp]
        exact ⟨hoa, hf1, pu _ 1 nL, I.nofs (by show _ ≤ s.heap.objs.size + 1; omega), fun v => by simp [seqObj]⟩
  case step =>
    rintro j u s' hu ⟨Hc, ks, kA, e, I', sm, rk, hke⟩
    simp only [Nat.zero_add] at hke ⊢
    have hj : j < its.length := (List.getElem?_eq_some_iff.mp hu).1
    obtain ⟨b, hbj⟩ : ∃ b, bs[j]? = some b := ⟨_, List.getElem?_eq_getElem (by omega)⟩
    obtain ⟨b', hbj', x, rx, hR⟩ := each_get (each_vals rv he) hu
    obtain rfl : b' = b := by rw [hbj] at hbj'; exact (Option.some.inj hbj').symm
    have hkl : kA.size ≤ its.length := by
      have h1 : ks.length = kA.size := rk.length.trans (by simp)
      have h2 := hke.length
      rw [List.length_take] at h2
      rw [← h1, h2]
      exact Nat.le_trans (Nat.min_le_right _ _) (Nat.le_of_eq hbl.symm)
    have hsp := hkey x b' Hc sm (List.mem_of_getElem? hbj) hR
    have run := F.run X.A.in1.in1 X.stack s' Hc ⟨[u], []⟩ [u] [x] _ _ (room2 hr) I'.env0.in1.in1 (by
      have := hb s' [u] I'.kIn (by have := F.len _ _ _ _ hsp; simpa using this)
      simpa using this) (.cons rx .nil) hsp
    refine wpAny_bind (wpAny_attempt (wpAny_mono (Q := fun v s2 => EP X (pins ++ [(s.heap.objs.size + 3, seqObj "list" kA e), (s.heap.objs.size + 1, seqObj "list" #[] e1)]) σ (fun v H2 => Same Hc H2 ∧ Dp X.K H2 v (key b')) v s2) (E := fun _ _ => False) (wpAny_call (codeAny_mono run fun r s2 hq => ?_)) (fun v s2 he => ?_) fun _ _ hF => hF.elim))
    · cases r with
      | error e => exact hq
      | ok fl =>
        cases fl with
        | ret u => exact I'.after hq
        | next => exact False.elim hq
        | brk => exact False.elim hq
        | cont => exact False.elim hq
    · obtain ⟨kv, H2, I2, rkv, sm2, hd⟩ := he
      have pk := I2.pin (s.heap.objs.size + 3, seqObj "list" kA e) (List.mem_append_right _ (List.mem_append_right _ (.head _)))
      have pa := I2.pin (s.heap.objs.size + 1, seqObj "list" #[] e1) (List.mem_append_right _ (List.mem_append_right _ (.tail _ (.head _))))
      have s1 := Heap.SameBut.update s2.heap (s.heap.objs.size + 3) (Obj.mapSeq (·.push v))
      obtain ⟨c2, hc2⟩ : ∃ c2, (s2.heap.update (s.heap.objs.size + 3) (Obj.mapSeq (·.push v))).get? (s.heap.objs.size + 3) = some (seqObj "list" (kA.push v) c2) := ⟨_, get?_update_seq pk.1 (·.push v)⟩
      have I3 : Inv X pins σ H2 s2 := I2.pins_of fun p hp => I2.pin p (List.mem_append_right _ (List.mem_append_left _ hp))
      have I4 : Inv X pins σ H2 { s2 with heap := s2.heap.update (s.heap.objs.size + 3) (Obj.mapSeq (·.push v)), toks := s2.toks } := I3.turned (it := s.heap.objs.size + 3) (fun b o n q => (s1.2 b n).trans q) pk.2.1 pk.2.2.1 (.inr (le0 3)) (fun x c q => up _ 3 (nC x c q)) fun p hp => up _ 3 (nP p hp)
      try dsimp only
      refine wpAny_bind (listUpdate_at pk.1 rfl ?_ (Nat.le_trans hkl hz') (Nat.le_trans (Nat.le_of_eq (Array.size_push ..)) (Nat.succ_le_succ (Nat.le_trans hkl hz'))))
      refine wpAny_pure ⟨rfl, H2, ks ++ [kv], kA.push v, c2, I4.pins_of fun p hp => ?_, sm.trans sm2, ?_, ?_⟩
      · rcases List.mem_append.mp hp with hp | hp
        · exact I4.pin p (List.mem_append_right _ hp)
        · rcases List.mem_cons.mp hp with rfl | hp
          · exact ⟨hc2, pk.2.1, pk.2.2.1, pk.2.2.2.1, fun v => by simp [seqObj]⟩
          · rw [List.mem_singleton.mp hp]
            exact ⟨(s1.2 _ n13).trans pa.1, pa.2⟩
      · rw [Array.toList_push]
        exact rk.append (.cons rkv .nil)
      · have ek : bs.take (j + 1) = bs.take j ++ [b'] := by rw [List.take_add_one, hbj]; simp
        rw [ek]
        exact each_snocK (R := fun x b => Dp X.K H2 x (key b)) hd (each_imp (R := fun x b => Dp X.K Hc x (key b)) (fun x b q => Dp.same sm2 _ _ q) hke)
  case done =>
    rintro s' ⟨Hc, ks, kA, e, I', sm, rk, hke⟩
    have hke' : EachIs (fun x b => Dp X.K Hc x (key b)) ks bs := by
      have e3 : bs.take (0 + its.length) = bs := List.take_of_length_le (by omega)
      rw [e3] at hke
      exact hke
    have pk := I'.pin (s.heap.objs.size + 3, seqObj "list" kA e) (List.mem_append_right _ (List.mem_append_right _ (.head _)))
    have pa := I'.pin (s.heap.objs.size + 1, seqObj "list" #[] e1) (List.mem_append_right _ (List.mem_append_right _ (.tail _ (.head _))))
    have hsz : kA.size = its.length := by
      have h1 : ks.length = kA.size := rk.length.trans (by simp)
      have h2 := hke'.length
      exact h1.symm.trans (h2.trans hbl.symm)
    have rd := each_reads I' rk hke'
    try dsimp only
    refine wpAny_bind (listItems_at pk.1 rfl ?_)
    have SA : SortsAt X.prog X.w X.A.in1.in1 s' (dataKind s'.heap (bs.map key)) kA.toList := SortsAt.data rd hk.al hk.so fun d hd => by
      have h1 := hk.dp d hd
      have h2 := hr.un
      simp only [units_in1]
      omega
    obtain ⟨m, Fr0⟩ := I'.fr
    have hiB : ∀ i : Nat, X.base.get? (s.heap.objs.size + i) = none := fun i => by
      cases q : X.base.get? (s.heap.objs.size + i) with
      | none => rfl
      | some o =>
        exact absurd (Nat.lt_of_le_of_lt (Nat.le_add_right _ _) (Heap.lt_size (I.bk _ o q))) (Nat.lt_irrefl _)
    let rs := (allNews X.base s'.heap X.env.locals).filter fun p => decide (p.1 ≠ s.heap.objs.size + 3 ∧ p.1 ≠ s.heap.objs.size + 1)
    have hrs : ∀ p ∈ rs, p.1 ≠ s.heap.objs.size + 3 ∧ p.1 ≠ s.heap.objs.size + 1 := fun p hp => of_decide_eq_true (List.mem_filter.mp hp).2
    have N0 : News X.base X.env.locals s'.heap (rs ++ [(s.heap.objs.size + 3, seqObj "list" kA e), (s.heap.objs.size + 1, seqObj "list" #[] e1)]) := fun p hp => by
      rcases List.mem_append.mp hp with hp | hp
      · exact news_all p (List.mem_filter.mp hp).1
      · rcases List.mem_cons.mp hp with rfl | hp
        · exact ⟨pk.1, pk.2.2.1, hiB 3⟩
        · rw [List.mem_singleton.mp hp]
          exact ⟨pa.1, pa.2.2.1, hiB 1⟩
    refine key_end (κ := dataKind s'.heap (bs.map key)) Fr0 N0 n31 (fun p hp => (hrs p hp).1) (fun p hp => (hrs p hp).2) SA hsz hz' fun h' tk ep F' N' => ⟨rfl, ?_⟩
    have kp : ∀ c o, c ≠ X.env.locals → c ≠ s.heap.objs.size + 3 → c ≠ s.heap.objs.size + 1 → s'.heap.get? c = some o → h'.get? c = some o := fun c o n0 n1 n2 q => by
      cases z : X.base.get? c with
      | some u =>
        have := I'.bk c u z
        rw [q] at this
        cases this
        exact F'.keep c _ z
      | none => exact (N' (c, o) (List.mem_cons_of_mem _ (List.mem_filter.mpr ⟨mem_allNews n0 z q, decide_eq_true ⟨n1, n2⟩⟩))).1
    have ha' := (N' _ List.mem_cons_self).1
    have out := sortVals_each (κ := dataKind s'.heap (bs.map key)) (rev := false) (fun b => keyToks (key b)) (each_vals rv he) (each_of_map key (each_keys hk.al rd))
    obtain ⟨ys, ry, hy⟩ := vals_each out
    have hlen : ys.length ≤ sizeLine := by
      rw [ry.length, sortVals_length false (by rw [Array.length_toList]; exact hsz)]
      exact hz'
    have I3 : Inv X pins σ Hc s' := I'.pins_of fun p hp => I'.pin p (List.mem_append_right _ (List.mem_append_left _ hp))
    have fin : Inv X pins σ (upd Hc (s.heap.objs.size + 1) (.lst ys)) { s' with heap := h', gens := s'.gens, drawn := s'.drawn, toks := tk } := by
      have hna : Hc (s.heap.objs.size + 1) = none := pa.2.1
      have hnk : Hc (s.heap.objs.size + 3) = none := pk.2.1
      refine I3.step (ch := [s.heap.objs.size + 3, s.heap.objs.size + 1]) (fun b hb => ?_) (fun b o nl _ hc q _ => kp b o nl (fun z => hc (by simp [z])) (fun z => hc (by simp [z])) q) (fun b o nl _ hc q _ => ⟨o.slots, kp b o nl (fun z => hc (by simp [z])) (fun z => hc (by simp [z])) q⟩)
        (fun b o hc q n => ?_) (fun b o hc q => ?_) (fun b xs q => by rw [upd_ne (ne_of_none q hna)]; exact q) (fun b o u q => by rw [upd_ne (ne_of_none q hna)]; exact q) (fun b ps q => ⟨#[], by rw [upd_ne (ne_of_none q hna), q]; simp⟩) (fun m hm => ?_) (fun b u q => ?_) I3.bare
      · have : b = s.heap.objs.size + 3 ∨ b = s.heap.objs.size + 1 := by simpa using hb
        rcases this with rfl | rfl
        · exact ⟨.inr (le0 3), pu _ 3 nL, fun x c q => up _ 3 (nC x c q), fun p hp => up _ 3 (nP p hp)⟩
        · exact ⟨.inr (le0 1), pu _ 1 nL, fun x c q => up _ 1 (nC x c q), fun p hp => up _ 1 (nP p hp)⟩
      · rw [upd_ne (fun z => hc (by simp [z]))]
        exact n
      · by_cases hbl : b = X.env.locals
        · obtain ⟨o', _, _, ho', _⟩ := F'.ns
          exact ⟨o', by rw [hbl]; exact ho'⟩
        · exact ⟨o, kp b o hbl (fun z => hc (by simp [z])) (fun z => hc (by simp [z])) q⟩
      · rw [nsOne hm Fr0.ns]
        exact F'.ns
      · by_cases hba : b = s.heap.objs.size + 1
        · subst hba
          rw [upd_same] at q
          cases q
          exact ⟨hlen, _, ep, ry, ha'⟩
        · rw [upd_ne hba] at q
          refine (I3.hok b u q).stay (fun c v hc r => kp c v ?_ ?_ ?_ r) (fun c r => by rw [upd_ne (ne_of_none r hna)]; exact r) fun c xs r => by rw [upd_ne (ne_of_none r hna)]; exact r
          · rcases hc with z | z
            · rw [z]; exact ne_of_none q I3.free
            · exact ne_of_none z I3.free
          · rcases hc with z | z
            · rw [z]; exact ne_of_none q hnk
            · exact ne_of_none z hnk
          · rcases hc with z | z
            · rw [z]; exact hba
            · exact ne_of_none z hna
    exact ⟨.ref _, _, fin, rfl, q ys _ _ hy (I.hok.fresh (by omega)) upd_same fun b o z => by rw [upd_ne (ne_of_none (sm b o z) pa.2.1)]; exact sm b o z⟩
end
end Rs

/-! Further readings: zip of tuples, comprehensions that make dicts, locks, sorting. -/
namespace Rw
open PySem PySem.Spec PyProof.Rows L2 Rd
variable {X : Cx} {D : Ends} {σ : L2.St} {H : Hp} {K : PySem.W.Frag}
theorem walk_zipT {a b : Addr} {xs ys : List V} {n : Nat} (hn : n = min xs.length ys.length) : Walk (RZ.ItzT K a b) n (fun H => SqT K H a xs ∧ SqT K H b ys) (YPair (fun i => xs[i]?) (fun i => ys[i]?)) := by
  subst hn
  refine ⟨fun i H hi q => ⟨xs, ys, xs[i]'(by omega), ys[i]'(by omega), q.1, q.2, List.getElem?_eq_getElem _, List.getElem?_eq_getElem _⟩, fun H q => ⟨xs, ys, q.1, q.2, by omega⟩, ?_⟩
  rintro i H v H' _ q ⟨T, x, y, h1, h2, h3, h4, h5⟩
  exact ⟨T, x, y, h1, h2, h3, h4 xs q.1, h5 ys q.2⟩
theorem zipH {ta : TA} {R : It → Hp → Prop} (h : ta σ H fun vs H1 => ∃ a b xs ys, vs = [.ref a, .ref b] ∧ ((SqL K H1 a xs ∧ SqL K H1 b ys ∧ R (Itz K a b) H1) ∨ (SqT K H1 a xs ∧ SqT K H1 b ys ∧ R (RZ.ItzT K a b) H1))) : RZ.iZipA K ta σ H R := h
theorem zipT {a b : Addr} {xs ys : List V} {P Q : Addr → Addr → Prop} (h1 : SqT K H a xs) (h2 : SqT K H b ys) (h : Q a b) : ∃ a' b' xs ys, [V.ref a, V.ref b] = [.ref a', .ref b'] ∧ ((SqL K H a' xs ∧ SqL K H b' ys ∧ P a' b') ∨ (SqT K H a' xs ∧ SqT K H b' ys ∧ Q a' b')) :=
  ⟨a, b, xs, ys, rfl, .inr ⟨h1, h2, h⟩⟩
theorem slT {a : Addr} {xs : List V} {lo hi : Option Int} {Q : VK} (hp : SqT K H a xs) (hw : ¬ (HT.sIx xs.length 0 lo = 0 ∧ HT.sIx xs.length xs.length hi = xs.length)) (h : NewQ (.tup (cutV xs lo hi)) Q H) : rSlT K (.ref a) lo hi H Q := ⟨a, xs, rfl, hp, hw, h⟩
theorem sl1 {a : Addr} {xs : List V} {Q : VK} (hp : SqT K H a xs) (n0 : xs ≠ []) (h : NewQ (.tup xs.tail) Q H) : rSlT K (.ref a) (some 1) none H Q := by
  have l : 1 ≤ xs.length := Nat.one_le_iff_ne_zero.mpr fun e => n0 (List.eq_nil_of_length_eq_zero e)
  have e1 : HT.sIx xs.length 0 (some ((1 : Nat) : Int)) = 1 := by rw [HT.sIx_nat]; omega
  refine slT hp (fun ⟨e, _⟩ => ?_) ?_
  · have e' : HT.sIx xs.length 0 (some ((1 : Nat) : Int)) = 0 := e
    omega
  · have e : cutV xs (some 1) none = xs.tail := by
      show (xs.drop (HT.sIx xs.length 0 (some ((1 : Nat) : Int)))).take (xs.length - HT.sIx xs.length 0 (some ((1 : Nat) : Int))) = xs.tail
      rw [e1, List.drop_one]
      exact List.take_of_length_le (by rw [List.length_tail]; exact Nat.le_refl _)
    rw [e]
    exact h
/-! ### locks -/
def LkE (t : TE) (d : Addr) (u : HO) (σ : L2.St) (H : Hp) (Q : VK) : Prop := ∀ od, t σ (upd H d (.frz od u)) fun v H' => H' d = some (.frz od u) ∧ Q v (upd H' d u)
theorem lockE {t : TE} {d : Addr} {u : HO} {Q : VK} (e : H d = some u) (m : Mut (some u)) (h : ∀ (od : Obj) (G : Hp), G d = some (.frz od u) → (∀ b, b ≠ d → G b = H b) → t σ G fun v H' => H' d = some (.frz od u) ∧ Q v (upd H' d u)) : tLockE t σ H Q :=
  ⟨d, u, e, m, fun od => h od _ upd_same fun b hb => upd_ne hb⟩
theorem itemsH {td : TE} {R : It → Hp → Prop} (h : td σ H fun x H1 => ∃ d o kvs, x = .ref d ∧ H1 d = some (.frz o (.dK kvs)) ∧ R (Iti d o kvs) H1) : iItems td σ H R := h
theorem itemsX {d : Addr} {od : Obj} {kvs : List (Key × V)} {P : Addr → Obj → List (Key × V) → Prop} (e : H d = some (.frz od (.dK kvs))) (h : P d od kvs) : ∃ d' o kvs, V.ref d = .ref d' ∧ H d' = some (.frz o (.dK kvs)) ∧ P d' o kvs := ⟨d, od, kvs, rfl, e, h⟩
theorem keysH {td : TE} {R : It → Hp → Prop} (h : td σ H fun x H1 => ∃ d o, x = .ref d ∧ ((∃ kvs, H1 d = some (.frz o (.dK kvs)) ∧ R (Itk d o kvs) H1) ∨ ∃ kvs, H1 d = some (.frz o (.dT kvs)) ∧ R (Itkt d o kvs) H1)) : iKeys td σ H R := h
theorem keysX {d : Addr} {od : Obj} {kvs : List (Key × V)} {P : Addr → Obj → List (Key × V) → Prop} {P' : Addr → Obj → List (List Key × V) → Prop} (e : H d = some (.frz od (.dK kvs))) (h : P d od kvs) : ∃ d' o, V.ref d = .ref d' ∧ ((∃ kvs, H d' = some (.frz o (.dK kvs)) ∧ P d' o kvs) ∨ ∃ kvs, H d' = some (.frz o (.dT kvs)) ∧ P' d' o kvs) := ⟨d, od, rfl, .inl ⟨kvs, e, h⟩⟩
/-! ### dict comprehensions -/
section
variable {X : Cx}
theorem ps_setDc {i : Nat} {y : Str} {py : Pos} {kx vx tg iter : Expr} {ifs : List Expr} {scope : Scope} {own : List (Str × Nat)} {pos spos : Pos} {wi : TI} {g : TG} {tt : TT} {tk tv : TE} (hc : X.calm = true) (hN : X.N.Nodup) (hy : X.N[i]? = some y) (hyl : X.env.scope.names.lookup y = some .local)
    (hsw : swapsWith (.DictComp kx vx [⟨tg, iter, ifs, 0⟩] scope pos) (some (.Name y py)) spos.line X.env = pure true) (hi : PI X tg iter wi) (ok : BlkOk X.N X.env.scope scope own)
    (hg : ∀ (s : Shared) (H : Hp) (C : Addr) (cl : List (Str × Addr)) (fp : List Addr), PG (X.blk s H scope (compEnvC scope cl C X.env) fp) tg g)
    (ht : ∀ (s : Shared) (H : Hp) (C : Addr) (cl : List (Str × Addr)) (fp : List Addr), PTs (X.blk s H scope (compEnvC scope cl C X.env) fp) ifs tt)
    (hk : ∀ (s : Shared) (H : Hp) (C : Addr) (cl : List (Str × Addr)) (fp : List Addr), PE (X.blk s H scope (compEnvC scope cl C X.env) fp) kx tk)
    (he : ∀ (s : Shared) (H : Hp) (C : Addr) (cl : List (Str × Addr)) (fp : List Addr), PE (X.blk s H scope (compEnvC scope cl C X.env) fp) vx tv) (hs : ∀ x, foldedSetIterable iter X.env x = pure x := by intro _; rfl) :
    PS X (.Assign [.Name y py] (.DictComp kx vx [⟨tg, iter, ifs, 0⟩] scope pos) spos) (tAsg (tDc wi g tt tk tv (own.map (·.2))) (gName i)) := by
  refine ⟨fun pins s σ H D I h => ?_⟩
  have h' : tDc wi g tt tk tv (own.map (·.2)) σ H (fun x H1 => gName i x σ H1 D.nx) := h
  rw [exec_Assign_Name_used _ _ _ _ hsw]
  refine wpAny_bind (wpAny_standAt (wpAny_bind ?_))
  show wpAny _ _ (comprehension (.DictComp kx vx [⟨tg, iter, ifs, 0⟩] scope pos) scope X.env (firstIterPos [⟨tg, iter, ifs, 0⟩] pos) newDict false (eval iter X.env) (some (assign (.Name y py) X.env)) >>= fun _ => pure ()) _ _ s
  refine wpAny_bind (thn (dc_core (use := some (assign (.Name y py) X.env)) (Qf := fun _ s' => SP X pins D .next s') hc hN I hi ok hg ht hk he hs h' fun L C s1 m H1 I1 q hn f => ?_) fun _ s2 hq => wpAny_pure (wpAny_pure hq))
  refine (wpAny_assign_Name (store_ok2 (v := V.ref L) I1 hN hy (.inl hyl) rfl (fun s2 I2 w => ?_) (.inr hyl)) : wpAny _ _ (assign (.Name y py) X.env (.ref L)) _ _ _)
  obtain ⟨b, sb, hb⟩ := w
  obtain ⟨f0, f1, f2, f3, f4, f5⟩ := f
  have ne : C ≠ b := hb.elim (fun z => z ▸ f1) fun z e => f4 y b z e.symm
  exact ⟨m, hn.sameBut sb ne, fun h3 sb3 => ⟨_, H1, I2.turned (t' := s2.toks) (fun c o n e => (sb3.2 c n).trans e) f0 f1 f3 f4 f5, q⟩⟩
theorem sw_dc {kx vx : Expr} {gs : List Comprehension} {scope : Scope} {pos py : Pos} {y : Str} {l : Nat} {env : Env} (hk : env.scope.kind = .function) (hy : env.scope.names.lookup y = some .local) (hl : (py.line == pos.line) = true)
    (ha : (scope.names.any fun (n, k) => n == y && (k == .local || k == .cell)) = false) : swapsWith (.DictComp kx vx gs scope pos) (some (.Name y py)) l env = pure true := by
  have k1 : env.kindOf y = some .local := hy
  have k2 : env.blockKind = .function := by unfold Env.blockKind; rw [hk]; rfl
  unfold swapsWith
  simp only [k2, k1, ha, Expr.pos, hl]
  rfl
end
def Dc (J : It) (g : TG) (tt : TT) (tk tv : TE) (vs : List Nat) (σ : L2.St) (H1 : Hp) (Q : VK) : Prop := ∀ D, H1 D = none → ∃ W : Nat → Nat → Hp → Prop, (∃ m, W 0 m (upd H1 D (.dK []))) ∧ ∀ i m H, W i m H →
  (J.stop i H ∧ Q (.ref D) H) ∨ (J.go i H ∧ ∃ Nx : Hp → Prop, (∀ H', Nx H' → ∃ m', m' < m ∧ W (i + 1) m' H') ∧ ∀ x H', J.yld i H x H' → g x (wipe σ vs) H' fun σ2 H2 => wipe σ2 vs = wipe σ vs ∧ tt σ2 H2 fun b H3 =>
    if b = true then tk σ2 H3 fun y H4 => tv σ2 H4 fun z H5 => ∃ kvs k, y = kV k ∧ H5 D = some (.dK kvs) ∧ kvs.length < sizeLine ∧ Nx (upd H5 D (.dK (putK kvs k z))) else Nx H3)
theorem dc {wi : TI} {g : TG} {tt : TT} {tk tv : TE} {vs : List Nat} {Q : VK} (h : wi σ H fun J H1 => Dc J g tt tk tv vs σ H1 Q) : tDc wi g tt tk tv vs σ H Q := h
def DcPut (D : Addr) (H1 : Hp) (R : Nat → List (Key × V) → Hp → Prop) (i : Nat) (y z : V) (H5 : Hp) : Prop := ∃ kvs k, y = kV k ∧ H5 D = some (.dK kvs) ∧ kvs.length < sizeLine ∧ ∃ kvs', upd H5 D (.dK (putK kvs k z)) D = some (.dK kvs') ∧ Same H1 (upd H5 D (.dK (putK kvs k z))) ∧ R (i + 1) kvs' (upd H5 D (.dK (putK kvs k z)))
def DcNo (D : Addr) (H1 : Hp) (R : Nat → List (Key × V) → Hp → Prop) (i : Nat) (H3 : Hp) : Prop := ∃ kvs', H3 D = some (.dK kvs') ∧ Same H1 H3 ∧ R (i + 1) kvs' H3
theorem dcPut {D : Addr} {H1 H5 : Hp} {R : Nat → List (Key × V) → Hp → Prop} {i : Nat} {k : Key} {z : V} {kvs : List (Key × V)} (hD : H5 D = some (.dK kvs)) (nD : H1 D = none) (s : Same H1 H5) (hz : kvs.length < sizeLine) (r : ∀ G : Hp, G D = some (.dK (putK kvs k z)) → (∀ b, b ≠ D → G b = H5 b) → R (i + 1) (putK kvs k z) G) : DcPut D H1 R i (kV k) z H5 :=
  ⟨kvs, k, rfl, hD, hz, _, upd_same, fun b o e => by rw [upd_ne (ne_of_none e nD)]; exact s b o e, r _ upd_same fun b hb => upd_ne hb⟩
theorem dcS {J : It} {n : Nat} {G : Hp → Prop} {Y : Nat → Hp → V → Hp → Prop} (w : Walk J n G Y) {g : TG} {tt : TT} {tk tv : TE} {vs : List Nat} {H1 : Hp} {Q : VK} (hG : ∀ H, Same H1 H → G H) (R : Addr → Nat → List (Key × V) → Hp → Prop)
    (r0 : ∀ (D : Addr) (G : Hp), H1 D = none → G D = some (.dK []) → Same H1 G → R D 0 [] G)
    (hs : ∀ (D : Addr) i x H H' kvs, H1 D = none → i < n → H D = some (.dK kvs) → Same H1 H → R D i kvs H → Y i H x H' → g x (wipe σ vs) H' fun σ2 H2 => wipe σ2 vs = wipe σ vs ∧ tt σ2 H2 fun b H3 =>
      if b = true then tk σ2 H3 fun y H4 => tv σ2 H4 fun z H5 => DcPut D H1 (R D) i y z H5 else DcNo D H1 (R D) i H3)
    (hd : ∀ (D : Addr) kvs H, H1 D = none → H D = some (.dK kvs) → Same H1 H → R D n kvs H → Q (.ref D) H) : Dc J g tt tk tv vs σ H1 Q := fun D nD => by
  refine ⟨fun i m H => m = n - i ∧ i ≤ n ∧ ∃ kvs, H D = some (.dK kvs) ∧ Same H1 H ∧ R D i kvs H, ⟨n, by simp, Nat.zero_le _, [], upd_same, same_upd nD, r0 D _ nD upd_same (same_upd nD)⟩, ?_⟩
  rintro i m H ⟨rfl, hi, kvs, h1, h2, h3⟩
  have q := hG H h2
  by_cases hlt : i < n
  · refine .inr ⟨w.goes i H hlt q, fun H => ∃ kvs, H D = some (.dK kvs) ∧ Same H1 H ∧ R D (i + 1) kvs H, fun H' p' => ⟨n - (i + 1), by omega, rfl, hlt, p'⟩, fun x H' y => ?_⟩
    exact hs D i x H H' kvs nD hlt h1 h2 h3 (w.yields i H x H' hlt q y)
  · have e : i = n := by omega
    subst e
    exact .inl ⟨w.stops H q, hd D kvs H nD h1 h2 h3⟩
/-! ### sorted -/
theorem sortD {β : Type} {a : Addr} {xs : List V} {bs : List β} {Q : VK} (k : β → PyData) (R : V → β → Prop) (hs : SqL K H a xs) (he : PySem.W.EachIs (fun x b => Dp K H x (k b) ∧ R x b) xs bs) (hk : Rs.Keys (bs.map k))
    (h : ∀ (out : List V) (p : Addr) (G : Hp), PySem.W.EachIs (fun x b => Dp K H x (k b) ∧ R x b) out (bs.mergeSort (PySem.W.dataLe false k)) → H p = none → G p = some (.lst out) → Same H G → Q (.ref p) G) : Rs.rSortD K [.ref a] H Q :=
  ⟨a, xs, β, bs, k, R, rfl, hs, he, hk, h⟩
def SortK (f : Addr) (sp : Sp) (K : PySem.W.Frag) (vs zs : List V) (H : Hp) (Q : VK) : Prop := Rs.rSortK f sp K vs zs H Q
theorem ckw {r : List V → List V → Hp → VK → Prop} {t tk : TA} {Q : VK} (h : t σ H fun vs H1 => tk σ H1 fun zs H2 => r vs zs H2 Q) : tCKw r t tk σ H Q := h
theorem sortK {β : Type} {f : Addr} {sp : Sp} {a : Addr} {xs : List V} {bs : List β} {Q : VK} (k : β → PyData) (R : V → β → Prop) (hs : SqL K H a xs) (he : PySem.W.EachIs R xs bs) (hk : Rs.Keys (bs.map k))
    (hf : ∀ x b H1, Same H H1 → b ∈ bs → R x b → sp [x] H1 (fun v H2 => Same H1 H2 ∧ Dp K H2 v (k b)) (fun _ _ _ => False))
    (h : ∀ (out : List V) (p : Addr) (G : Hp), PySem.W.EachIs R out (bs.mergeSort (PySem.W.dataLe false k)) → H p = none → G p = some (.lst out) → Same H G → Q (.ref p) G) : Rs.rSortK f sp K [.ref a] [.ref f] H Q :=
  ⟨a, xs, β, bs, k, R, rfl, rfl, hs, he, hk, hf, h⟩
def DClr : V → List V → Hp → VK → Prop := rDClear
theorem clr {a : Addr} {kvs : List (Key × V)} {Q : VK} (e : H a = some (.dK kvs)) (h : ∀ G : Hp, G a = some (.dK []) → (∀ b, b ≠ a → G b = H b) → Q .non G) : rDClear (.ref a) [] H Q := ⟨a, kvs, rfl, rfl, e, h _ upd_same fun b hb => upd_ne hb⟩
end Rw
namespace Rd
open PySem PySem.Spec PyProof.Rows L2
variable {σ : L2.St} {H : Hp} {K : PySem.W.Frag}
theorem notT {ta : TE} {Q : VK} (h : ta σ H fun x H1 => ∃ k, TruV K x H1 k ∧ Q (.bl (!k)) H1) : tNotT K ta σ H Q := h
theorem yes {c A B : Prop} {i : Decidable c} (h : c) (a : A) : @ite Prop c i A B := by rw [if_pos h]; exact a
theorem no {c A B : Prop} {i : Decidable c} (h : ¬ c) (a : B) : @ite Prop c i A B := by rw [if_neg h]; exact a
theorem ifX {x : V} {i : Decidable (x = V.non)} {A B : Prop} (n : x ≠ .non) (h : B) : @ite Prop (x = V.non) i A B := by rw [if_neg n]; exact h
theorem ifR {a : Addr} {i : Decidable (V.ref a = V.non)} {A B : Prop} (h : B) : @ite Prop (V.ref a = V.non) i A B := ifX (by intro e; cases e) h
theorem ifI {a : Int} {i : Decidable (V.int a = V.non)} {A B : Prop} (h : B) : @ite Prop (V.int a = V.non) i A B := ifX (by intro e; cases e) h
theorem ifT {a : Str} {i : Decidable (V.str a = V.non)} {A B : Prop} (h : B) : @ite Prop (V.str a = V.non) i A B := ifX (by intro e; cases e) h
theorem ifN {i : Decidable (V.non = V.non)} {A B : Prop} (h : A) : @ite Prop (V.non = V.non) i A B := by rw [if_pos rfl]; exact h
theorem orTH {ta tb : TE} {Q : VK} (h : ta σ H fun x H1 => ∃ k, TruV K x H1 k ∧ if k = true then Q x H1 else tb σ H1 Q) : tOrT K ta tb σ H Q := h
end Rd

/-! Things of any kind, one level deep; exceptions of the program: made, raised, caught, asked. -/
namespace Rx
open PySem PySem.Spec PyProof.Rows L2 Rd
variable {X : Cx} {D : Ends} {σ : L2.St} {H H' : Hp} {K : PySem.W.Frag}
/-! ### kinds -/
inductive Kd where
  | non | bl (b : Bool) | int (i : Int) | str (z : Str) | lst (xs : List V) | tup (xs : List V) | dct
def Kd.ty : Kd → String
  | .non => "NoneType" | .bl _ => "bool" | .int _ => "int" | .str _ => "str" | .lst _ => "list" | .tup _ => "tuple" | .dct => "dict"
/-- what stands at a value -/
inductive Is (H : Hp) : V → Kd → Prop where
  | non : Is H .non .non
  | bl (b : Bool) : Is H (.bl b) (.bl b)
  | int (i : Int) : Is H (.int i) (.int i)
  | str {z : Str} (l : z.length ≤ 1000000) : Is H (.str z) (.str z)
  | lst {a : Addr} {xs : List V} (h : H a = some (.lst xs)) (l : xs.length ≤ 1000000) : Is H (.ref a) (.lst xs)
  | tup {a : Addr} {xs : List V} (h : H a = some (.tup xs)) (l : xs.length ≤ 1000000) : Is H (.ref a) (.tup xs)
  | dct {a : Addr} {kvs : List (Key × V)} (h : H a = some (.dK kvs)) : Is H (.ref a) .dct
theorem Is.same {x : V} {k : Kd} (s : Same H H') (h : Is H x k) : Is H' x k := by
  cases h with
  | non => exact .non
  | bl b => exact .bl b
  | int i => exact .int i
  | str l => exact .str l
  | lst h l => exact .lst (s _ _ h) l
  | tup h l => exact .tup (s _ _ h) l
  | dct h => exact .dct (s _ _ h)
theorem Is.inj {x : V} {k k' : Kd} (h : Is H x k) (h' : Is H x k') : k = k' := by
  cases h <;> cases h' <;> first | rfl | (rename_i a b c d; first | (rw [a] at c; cases c; rfl) | (rw [a] at c; cases c) | (rw [a] at d; cases d) | skip) <;> simp_all
theorem Is.ty {x : V} {k : Kd} (h : Is H x k) : TyX K H x (.type k.ty) := by
  cases h with
  | non => exact .base .non
  | bl b => exact .base (.bl b)
  | int i => exact .base (.int i)
  | str l => exact .base (.str _)
  | lst h l => exact .base (.lst h)
  | tup h l => exact .base (.tup h)
  | dct h => exact .base (.dK h)
def Kd.isInt : Kd → Bool | .int _ => true | .bl _ => true | _ => false
def Kd.isBl : Kd → Bool | .bl _ => true | _ => false
def Kd.isStr : Kd → Bool | .str _ => true | _ => false
def Kd.isLst : Kd → Bool | .lst _ => true | _ => false
def Kd.isTup : Kd → Bool | .tup _ => true | _ => false
def Kd.isDct : Kd → Bool | .dct => true | _ => false
def Kd.isSeq : Kd → Bool | .lst _ => true | .tup _ => true | _ => false
/-- an integer and no flag -/
def Kd.isNum : Kd → Bool | .int _ => true | _ => false
theorem kdInt : ∀ k : Kd, kitB k.ty "int" = some k.isInt
  | .non => (by decide +kernel : kitB "NoneType" "int" = some false)
  | .bl _ => (by decide +kernel : kitB "bool" "int" = some true)
  | .int _ => (by decide +kernel : kitB "int" "int" = some true)
  | .str _ => (by decide +kernel : kitB "str" "int" = some false)
  | .lst _ => (by decide +kernel : kitB "list" "int" = some false)
  | .tup _ => (by decide +kernel : kitB "tuple" "int" = some false)
  | .dct => (by decide +kernel : kitB "dict" "int" = some false)
theorem kdBl : ∀ k : Kd, kitB k.ty "bool" = some k.isBl
  | .non => (by decide +kernel : kitB "NoneType" "bool" = some false)
  | .bl _ => (by decide +kernel : kitB "bool" "bool" = some true)
  | .int _ => (by decide +kernel : kitB "int" "bool" = some false)
  | .str _ => (by decide +kernel : kitB "str" "bool" = some false)
  | .lst _ => (by decide +kernel : kitB "list" "bool" = some false)
  | .tup _ => (by decide +kernel : kitB "tuple" "bool" = some false)
  | .dct => (by decide +kernel : kitB "dict" "bool" = some false)
theorem kdStr : ∀ k : Kd, kitB k.ty "str" = some k.isStr
  | .non => (by decide +kernel : kitB "NoneType" "str" = some false)
  | .bl _ => (by decide +kernel : kitB "bool" "str" = some false)
  | .int _ => (by decide +kernel : kitB "int" "str" = some false)
  | .str _ => (by decide +kernel : kitB "str" "str" = some true)
  | .lst _ => (by decide +kernel : kitB "list" "str" = some false)
  | .tup _ => (by decide +kernel : kitB "tuple" "str" = some false)
  | .dct => (by decide +kernel : kitB "dict" "str" = some false)
theorem kdLst : ∀ k : Kd, kitB k.ty "list" = some k.isLst
  | .non => (by decide +kernel : kitB "NoneType" "list" = some false)
  | .bl _ => (by decide +kernel : kitB "bool" "list" = some false)
  | .int _ => (by decide +kernel : kitB "int" "list" = some false)
  | .str _ => (by decide +kernel : kitB "str" "list" = some false)
  | .lst _ => (by decide +kernel : kitB "list" "list" = some true)
  | .tup _ => (by decide +kernel : kitB "tuple" "list" = some false)
  | .dct => (by decide +kernel : kitB "dict" "list" = some false)
theorem kdTup : ∀ k : Kd, kitB k.ty "tuple" = some k.isTup
  | .non => (by decide +kernel : kitB "NoneType" "tuple" = some false)
  | .bl _ => (by decide +kernel : kitB "bool" "tuple" = some false)
  | .int _ => (by decide +kernel : kitB "int" "tuple" = some false)
  | .str _ => (by decide +kernel : kitB "str" "tuple" = some false)
  | .lst _ => (by decide +kernel : kitB "list" "tuple" = some false)
  | .tup _ => (by decide +kernel : kitB "tuple" "tuple" = some true)
  | .dct => (by decide +kernel : kitB "dict" "tuple" = some false)
theorem kdDct : ∀ k : Kd, kitB k.ty "dict" = some k.isDct
  | .non => (by decide +kernel : kitB "NoneType" "dict" = some false)
  | .bl _ => (by decide +kernel : kitB "bool" "dict" = some false)
  | .int _ => (by decide +kernel : kitB "int" "dict" = some false)
  | .str _ => (by decide +kernel : kitB "str" "dict" = some false)
  | .lst _ => (by decide +kernel : kitB "list" "dict" = some false)
  | .tup _ => (by decide +kernel : kitB "tuple" "dict" = some false)
  | .dct => (by decide +kernel : kitB "dict" "dict" = some true)
theorem askInt {x : V} {k : Kd} {Q : VK} (h : Is H x k) (q : Q (.bl k.isInt) H) : rIsi K [x, .ty "int"] H Q := Rd.isi h.ty (kdInt k) q
theorem askBl {x : V} {k : Kd} {Q : VK} (h : Is H x k) (q : Q (.bl k.isBl) H) : rIsi K [x, .ty "bool"] H Q := Rd.isi h.ty (kdBl k) q
theorem askStr {x : V} {k : Kd} {Q : VK} (h : Is H x k) (q : Q (.bl k.isStr) H) : rIsi K [x, .ty "str"] H Q := Rd.isi h.ty (kdStr k) q
theorem askLst {x : V} {k : Kd} {Q : VK} (h : Is H x k) (q : Q (.bl k.isLst) H) : rIsi K [x, .ty "list"] H Q := Rd.isi h.ty (kdLst k) q
theorem askTup {x : V} {k : Kd} {Q : VK} (h : Is H x k) (q : Q (.bl k.isTup) H) : rIsi K [x, .ty "tuple"] H Q := Rd.isi h.ty (kdTup k) q
theorem askDct {x : V} {k : Kd} {Q : VK} (h : Is H x k) (q : Q (.bl k.isDct) H) : rIsi K [x, .ty "dict"] H Q := Rd.isi h.ty (kdDct k) q
/-- (list, tuple) was just laid at tp -/
theorem askSeq {x : V} {k : Kd} {tp : Addr} {Q : VK} (ht : H tp = some (.tup [.ty "list", .ty "tuple"])) (h : Is H x k) (q : Q (.bl k.isSeq) H) : rIsiT K [x, .ref tp] H Q := by
  refine ⟨_, tp, _, _, [.type "list", .type "tuple"], k.isSeq, rfl, ht, .cons (.ty _) (.cons (.ty _) .nil), h.ty, ?_, q⟩
  have e1 := kdLst k
  have e2 := kdTup k
  refine kitAny_cons (kit_ty e1) (fun z1 => kitAny_cons (kit_ty e2) (fun z2 => ?_) fun z => ?_) fun z => ?_
  · rw [kitAny_nil]
    cases k <;> first | rfl | (cases z1; done) | (cases z2; done)
  · cases k <;> first | rfl | cases z
  · cases k <;> first | rfl | cases z
/-! ### equal without a look inside -/
/-- the one is the other, or both are equal data -/
def EqI (K : PySem.W.Frag) (H : Hp) (x y : V) : Prop := (x = y ∧ flatB x = true) ∨ (∃ a, x = .ref a ∧ y = .ref a) ∨ ∃ d e, Dp K H x d ∧ Dp K H y e ∧ SeqAt.shaped d = true ∧ SeqAt.shaped e = true ∧ PyData.eqv d e = true
theorem eqI_run {pins : List (Addr × Obj)} {s : Shared} (I : Inv X pins σ H s) {A : Around} (hu : A.units + 64 < cLine) {x y : V} {v u : Value} (h : EqI X.K H x y) (rx : RelV x v) (ry : RelV y u) : SeqAt.EqAt A s v u true := by
  rcases h with ⟨rfl, f⟩ | ⟨a, rfl, rfl⟩ | ⟨d, e, hd, he, sd, se, q⟩
  · exact eqAt_same rx ry f
  · cases (show v = Value.ref a from rx)
    cases (show u = Value.ref a from ry)
    exact SeqAt.EqAt.same _
  · obtain ⟨as, r1⟩ := Dp.reads I d x v hd rx
    obtain ⟨bs, r2⟩ := Dp.reads I e y u he ry
    have z := SeqAt.eqAt_reads d e A s v u as bs r1 r2 (SeqAt.canLay_of_shaped sd) (SeqAt.canLay_of_shaped se) (SeqAt.room_of_shaped sd hu)
    rw [q] at z
    exact z
theorem eqIs_run {pins : List (Addr × Obj)} {s : Shared} (I : Inv X pins σ H s) {A : Around} (hu : A.units + 64 < cLine) {xs ys : List V} (hp : Paired (EqI X.K H) xs ys) :
    ∀ {us ws : List Value}, Vals xs us → Vals ys ws → ∀ j (h1 : j < us.length) (h2 : j < ws.length), SeqAt.EqAt A s us[j] ws[j] true := by
  induction hp with
  | nil =>
    intro us ws r1 r2 j h1 h2
    cases r1
    exact absurd h1 (Nat.not_lt_zero j)
  | cons h _ k =>
    intro us ws r1 r2 j h1 h2
    cases r1 with
    | cons a1 b1 =>
      cases r2 with
      | cons a2 b2 =>
        cases j with
        | zero => exact eqI_run I hu h a1 a2
        | succ j => exact k b1 b2 j (Nat.lt_of_succ_lt_succ h1) (Nat.lt_of_succ_lt_succ h2)
/-- two tuples whose items are equal -/
def TupEq (K : PySem.W.Frag) (H : Hp) (x y : V) : Prop := ∃ a b xs ys, x = .ref a ∧ y = .ref b ∧ SqT K H a xs ∧ SqT K H b ys ∧ Paired (EqI K H) xs ys
def rEqX (K : PySem.W.Frag) : R2 := fun x y H Q => TupEq K H x y ∧ Q (.bl true) H
def rNeX (K : PySem.W.Frag) : R2 := fun x y H Q => TupEq K H x y ∧ Q (.bl false) H
theorem op_neX (hu : X.A.units + 66 < cLine) : OpR X (compareOp .NotEq) (rNeX X.K) := by
  intro pins s σ H x y v u Q I rx ry h
  obtain ⟨⟨a, b, xs, ys, rfl, rfl, ha, hb, hp⟩, q⟩ := h
  cases (show v = Value.ref a from rx)
  cases (show u = Value.ref b from ry)
  obtain ⟨us, r1, p1⟩ := I.tuple ha
  obtain ⟨ws, r2, p2⟩ := I.tuple hb
  have hsz : us.toArray.size = ws.toArray.size := by
    rw [List.size_toArray, List.size_toArray, ← r1.length, ← r2.length]
    exact Paired.length hp
  refine SeqAt.RcNeAt.tuples (e := fun _ => true) p1.1 p2.1 (by omega) (fun j h1 h2 => ?_) X.prog X.w _ _ ?_
  · have k := eqIs_run I (A := X.A.in1) (by show X.A.units + 1 + 64 < cLine; omega) hp r1 r2 j (by simpa using h1) (by simpa using h2)
    simpa using k
  · rw [show ((List.range (min us.toArray.size ws.toArray.size)).all fun _ => true) = true from List.all_eq_true.mpr fun _ _ => rfl, hsz]
    exact ⟨.bl false, H, I, by simp [L2.RelV], q⟩
theorem op_eqX (hu : X.A.units + 66 < cLine) : OpR X (compareOp .Eq) (rEqX X.K) := by
  intro pins s σ H x y v u Q I rx ry h
  obtain ⟨⟨a, b, xs, ys, rfl, rfl, ha, hb, hp⟩, q⟩ := h
  cases (show v = Value.ref a from rx)
  cases (show u = Value.ref b from ry)
  obtain ⟨us, r1, p1⟩ := I.tuple ha
  obtain ⟨ws, r2, p2⟩ := I.tuple hb
  have hsz : us.toArray.size = ws.toArray.size := by
    rw [List.size_toArray, List.size_toArray, ← r1.length, ← r2.length]
    exact Paired.length hp
  refine SeqAt.RcAt.tuples (e := fun _ => true) p1.1 p2.1 (by omega) (fun j h1 h2 => ?_) X.prog X.w _ _ ?_
  · have k := eqIs_run I (A := X.A.in1) (by show X.A.units + 1 + 64 < cLine; omega) hp r1 r2 j (by simpa using h1) (by simpa using h2)
    simpa using k
  · rw [show ((List.range (min us.toArray.size ws.toArray.size)).all fun _ => true) = true from List.all_eq_true.mpr fun _ _ => rfl, hsz]
    exact ⟨.bl true, H, I, by simp [L2.RelV], q⟩
end Rx
namespace Rx
open PySem PySem.Spec PyProof.Rows L2 Rd
/-! ### classes of exceptions, their __init__(self, value) at fI -/
structure ExcF (K : PySem.W.Frag) (fI C : Addr) : Prop where
  ox : OexC K C
  is : ExcC K C
  iC : PySem.W.findIn K (.ref C) "__init__" = some (some (.ref fI))
  nv : PySem.W.findIn K (.ref C) "value" = some none
  cl : PySem.W.isClsIn K C = true
  self : PySem.W.subIn K (.ref C) (.ref C) = some true
section
variable {K : PySem.W.Frag} {fI C E : Addr} {b : Bool}
theorem kitC (FE : ExcF K fI E) (h : PySem.W.subIn K (.ref C) (.ref E) = some b) : PySem.W.kitCls K (.ref C) (.ref E) = some b := by
  have h2 : (PySem.W.clsIn K E).isSome = true := FE.cl
  have e2 : ((PySem.W.clsIn K E).isSome && PySem.W.typeIn K (.ref E) == some (.type "type")) = true := by
    rw [h2, FE.ox.tyC] <;> rfl
  show (if ((PySem.W.clsIn K E).isSome && PySem.W.typeIn K (.ref E) == some (.type "type")) = true then PySem.W.subIn K (.ref C) (.ref E) else none) = some b
  rw [if_pos e2]
  exact h
theorem kit (FC : ExcF K fI C) (FE : ExcF K fI E) (h : PySem.W.subIn K (.ref C) (.ref E) = some b) : PySem.W.kitOne K (.ref C) (.ref E) = some b := by
  unfold PySem.W.kitOne
  by_cases c : C = E
  · subst c
    rw [FC.self] at h
    cases h
    rw [if_pos (beq_self_eq_true _)]
  · rw [if_neg (fun z => c (by simpa using z))]
    exact kitC FE h
theorem exm (FE : ExcF K fI E) (h : PySem.W.subIn K (.ref C) (.ref E) = some b) : PySem.W.exmOne K (.ref C) (.ref E) = some b := by
  have e1 : (PySem.W.subIn K (.ref E) (.type "BaseException") == some true) = true := by rw [FE.is.hs] <;> rfl
  show (if (PySem.W.subIn K (.ref E) (.type "BaseException") == some true) = true then PySem.W.kitCls K (.ref C) (.ref E) else none) = some b
  rw [if_pos e1]
  exact kitC FE h
end
/-! ### monotone readings -/
def tMono (te : TE) : TE := fun σ H Q => ∃ Q0 : VK, te σ H Q0 ∧ ∀ v H1, Q0 v H1 → Q v H1
theorem pe_mono {X : Cx} {e : Expr} {te : TE} (he : PE X e te) : PE X e (tMono te) := ⟨fun pins s σ H Q I h => by
  obtain ⟨Q0, h, imp⟩ := h
  exact thn (he.run pins s σ H Q0 I h) fun u s1 ⟨v, H1, I1, r1, q⟩ => ⟨v, H1, I1, r1, imp v H1 q⟩⟩
/-! ### raise C(e) -/
/-- self.value = value -/
def spWe (K : PySem.W.Frag) : Sp := fun vs H Q _ => ∃ (a C : Addr) (v : V), vs = [.ref a, v] ∧ OexC K C ∧ PySem.W.findIn K (.ref C) "value" = some none ∧ H a = some (exo a C none) ∧
  ∀ dx, H dx = none → dx ≠ a → Q .non (upd (upd H dx (exd dx [("value", v)])) a (exo a C (some dx)))
/-- behind: the exception's dict d is new and holds v -/
def RaiseQ (C : Addr) (v : V) (H1 : Hp) (Q : XK) : Prop := ∀ (d : Addr) (H2 : Hp), H1 d = none → H2 d = some (.xd [("value", v)]) → (∀ b, b ≠ d → H2 b = H1 b) → Q (.ref C) (some d) H2
def tRaise (C : Addr) (W : WX) (te : TE) : TS := fun _ σ H => te σ H fun v H1 => RaiseQ C v H1 fun cls d H2 => W cls d σ H2
theorem raiseH {C : Addr} {W : WX} {te : TE} {D : Ends} {σ : L2.St} {H : Hp} (h : te σ H fun v H1 => RaiseQ C v H1 fun cls d H2 => W cls d σ H2) : tRaise C W te D σ H := h
/-- what a raised exception leaves: all as it was, and its value in its dict -/
def Raised (C : Addr) (v : V) (H : Hp) (E : XK) : Prop := ∀ (d : Addr) (H2 : Hp), H d = none → H2 d = some (.xd [("value", v)]) → Same H H2 → E (.ref C) (some d) H2
theorem Raised.now {C : Addr} {v : V} {H H1 : Hp} {E : XK} (r : Raised C v H E) (s : Same H H1) : RaiseQ C v H1 E := fun d H2 n e k =>
  r d H2 (s.free n) e fun b o q => (k b (ne_of_none (s _ _ q) n)).trans (s _ _ q)
theorem mk_reads {K : PySem.W.Frag} {fI C : Addr} {te : TE} {σ : L2.St} {H : Hp} {Q : XK} (F : ExcF K fI C) (h : te σ H fun v H1 => RaiseQ C v H1 Q) : tMkO C (spWe K) [] (tCons (tMono te) tNil) σ H Q := by
  refine ⟨_, h, fun v H1 hv => ?_⟩
  refine ⟨(by decide : 1 ≤ 1000), fun a na => ⟨a, C, v, rfl, F.ox, F.nv, upd_same, fun dx ndx ne => ⟨rfl, dx, [("value", v)], upd_same, ?_, ?_, ?_⟩⟩⟩
  · rw [upd_ne ne, upd_same]
  · rw [upd_ne ne] at ndx
    exact ndx
  · rw [upd_ne ne] at ndx
    refine hv dx _ ndx upd_same fun b hb => ?_
    rw [upd_ne hb]
    by_cases c : b = a
    · rw [c, del_same, na]
    · rw [del_ne c, upd_ne c, upd_ne hb, upd_ne c]
section
variable {X : Cx} {x : Str} {e : Expr} {te : TE} {p pos pos2 : Pos} {C fI : Addr} {k : Nat} {fd : FuncData} {W : WX}
theorem ps_raise1 (hc : X.calm = true) (F : ExcF X.K fI C) (tI : PySem.W.typeIn X.K (.ref fI) = some (.type "function")) (F1 : FnOk X.prog X.w X.K X.mg X.base CX0 k fI fd ["self", "value"] (spWe X.K)) (hr : Room (k + 1) X.A) (hb : Binds X.K fd ["self", "value"] [])
    (hg : Gl X x) (hm : X.mg x = some (.ref C)) (tk : Takes X W) (he : PE X e te) (hdb : (x == ("__debug__" : Str)) = false := by decide) (hs : starEach (e :: []) X.env = (false, eval e X.env) :: starEach [] X.env := by rfl) (hpl : (backTo pos (starEach [] X.env)).any (·.1) = false := by rfl) :
    PS X (.Raise (some (.Call (.Name x p) [e] [] pos)) none pos2) (tRaise C W te) :=
  have z := ps_raise (pos := pos2) hc tk (pmk_oex (p := p) (pos := pos) F.ox F.iC tI F1 hr hb .nil (CX := CX0) (fun _ _ _ _ _ _ _ h => h.elim) hg hm (pa_cons (pe_mono he) pa_nil hs) hdb hs hpl)
  ⟨fun pins s σ H D I h => z.run pins s σ H D I (mk_reads F h)⟩
end
/-! ### what is asked of a caught exception -/
def rIsX (K : PySem.W.Frag) (a : Addr) (cls : Value) (d : Option Addr) : List V → Hp → VK → Prop := fun xs H Q => ∃ (D dd : Addr) (fs : List (Str × V)) (c : V) (cv : Value) (b : Bool), cls = .ref D ∧ d = some dd ∧ ExcC K D ∧ H dd = some (.xd fs) ∧ xs = [.ref a, c] ∧
  ClsV c cv ∧ PySem.W.kitOne K (.ref D) cv = some b ∧ Q (.bl b) H
end Rx
namespace PySem.W
open PySem PySem.Spec PySem.Calls PyProof.Rows
section
variable {prog : Program} {w : World} {A : Around} {E : Value → Shared → Prop} {s : Shared} {K : Frag} {x D : Addr} {ox : Obj} {od : Option Obj}
theorem findObj_dataX {C : Addr} {name : Str} {a g : Value} (hc : (clsIn K C).isSome = true) (ha : findIn K (.ref C) name = some (some a)) (hg : specialIn K a "__get__" = some (some g)) (ht : takesIn K a = some true) : findObj K C od name = some (.bind g a) := by
  obtain ⟨cd, hc⟩ := Option.isSome_iff_exists.mp hc
  unfold findObj
  rw [hc, Option.bind_some, ha, Option.bind_some]
  simp [hg, ht]
theorem kin_classX {Q : Option Value → Shared → Prop} (hga : findIn K (.ref D) "__getattribute__" = some (some (.builtin "BaseException.__getattribute__"))) (hgt : findIn K (.ref D) "__getattr__" = some none) (hsub : subIn K (.ref D) (.type "BaseException") = some true)
    (hdct : hasDictIn K D = true) (ha : findIn K (.ref D) "__class__" = some (some (.builtin "object.__class__")))
    (hn : specialIn K (.builtin "object.__class__") "__get__" = some (some (.builtin "getset_descriptor.__get__"))) (htk : takesIn K (.builtin "object.__class__") = some true) (hm : mroIn K D (.type "object") = some true)
    (X : K.In s.heap) (I : InstAt s.heap x ox D od) (h : Q (some (.ref D)) { s with toks := s.toks + 1 }) : wpAny (model prog w) A (getAttr? (.ref x) "__class__") Q E s := by
  have hf : findObj K D od "__class__" = some (.bind (.builtin "getset_descriptor.__get__") (.builtin "object.__class__")) := findObj_dataX (by obtain ⟨cd, hc, _⟩ := any_some hdct; rw [hc]; rfl) ha hn htk
  obtain ⟨hp, g, d, t, os⟩ := s
  have L0 := I.type (M := model prog w)
  have L1 := looks_findIn (M := model prog w) X hga
  have L2 := looks_findIn (M := model prog w) X hgt
  have L3 := looks_find (M := model prog w) X I hf
  have sub : Looks (model prog w) hp (isInstance (.ref x) (.type "BaseException")) true := L0.andThen (looks_subIn X hsub)
  have hx0 : (false && onTheHeap (Value.builtin "BaseException.__getattribute__")) = false := rfl
  have hx2 : (Value.builtin "BaseException.__getattribute__" == Value.builtin "object.__getattribute__") = false := by decide +kernel
  have hx1 : (onTheHeap (Value.ref D) && Value.builtin "BaseException.__getattribute__" == Value.builtin "object.__getattribute__") = false := by rw [hx2]; rfl
  unfold getAttr? getAttrBy? getAttrBy
  refine wpAny_bind (wpAny_mkText (wpAny_bind (wpAny_attempt (wpAny_holding (wpAny_bind (L0.at (wpAny_bind (L1.at ?_))))))))
  show wpAny _ _ (if (onTheHeap (Value.ref D) && Value.builtin "BaseException.__getattribute__" == Value.builtin "object.__getattribute__") = true then _ else _) _ _ _
  rw [hx1, if_neg Bool.false_ne_true]
  unfold getAttrByItsOwn hookBefore
  refine wpAny_bind ?_
  rw [if_pos (show onTheHeap (Value.ref D) = true from rfl)]
  refine L2.at ?_
  refine wpAny_bind (wpAny_attempt (wpAny_holding ?_))
  unfold callGetattribute
  rw [hx0, if_neg Bool.false_ne_true]
  unfold boundAndCalled
  rw [PySem.F.excAttr_ValueError.ga.bind (.ref x)]
  refine wpAny_bind (wpAny_pure ?_)
  show wpAny _ _ (call (.builtin "BaseException.__getattribute__") [.ref x, .str "__class__" t]) _ _ _
  refine wpAny_call (codeAny_call_builtin PySem.F.excAttr_ValueError.ga.plain PySem.F.entry_bexc_ga ?_)
  refine @check_slot (model prog w) _ _ ⟨hp, g, d, t + 1, os⟩ "BaseException.__getattribute__" "BaseException" "__getattribute__" (.ref x) [.str "__class__" t] [] _ (by decide +kernel) (by decide +kernel) sub (PySem.F.args_bexc_ga (.ref x) (.str "__class__" t)) ?_
  unfold Builtin.«object.__getattribute__»
  refine wpAny_bind (wpAny_of_eq (a := ((Value.ref x : Value), [Value.str "__class__" t])) (by first | rfl | (simp only [slotArgs]; rfl)) ?_)
  refine wpAny_bind (wpAny_pure (wpAny_bind (L0.at (wpAny_bind (L3.at ?_)))))
  show wpAny _ _ (holding [Value.builtin "object.__class__"] (call (.builtin "getset_descriptor.__get__") [.builtin "object.__class__", .ref x, .ref D]) >>= ret) _ _ _
  refine wpAny_bind (wpAny_holding (wpAny_call (class_get (s := ⟨hp, g, d, t + 1, os⟩) (ox := ox) (od := od) X I hm ?_)))
  refine wpAny_pure ?_
  show wpAny _ _ (handedOut (.ref D)) _ _ _
  rw [handedOut_of (v := .ref D) rfl]
  first
    | exact wpAny_pure (wpAny_pure h)
    | exact wpAny_pure h
    | exact wpAny_pure (wpAny_bind (wpAny_pure (wpAny_pure h)))
theorem kitx_excX (hga : findIn K (.ref D) "__getattribute__" = some (some (.builtin "BaseException.__getattribute__"))) (hgt : findIn K (.ref D) "__getattr__" = some none) (hsub : subIn K (.ref D) (.type "BaseException") = some true) (hdct : hasDictIn K D = true) (ha : findIn K (.ref D) "__class__" = some (some (.builtin "object.__class__")))
    (hn : specialIn K (.builtin "object.__class__") "__get__" = some (some (.builtin "getset_descriptor.__get__"))) (htk : takesIn K (.builtin "object.__class__") = some true) (hm : mroIn K D (.type "object") = some true) :
    KitX K (.ref x) (.ref D) (fun h => InstAt h x ox D od) where
  ty := fun _ _ _ I => I.type
  it := fun _ _ X _ => by
    obtain ⟨cdD, hcD, _⟩ := any_some hdct
    unfold clsIn at hcD
    split at hcD
    · rename_i c' d' cd' sl' ho
      intro A' Q' E' s' k q
      unfold isType loadHead
      exact wpAny_bind (wpAny_loadPart (k _ _ (X _ _ ho)) (wpAny_pure q))
    · cases hcD
  ne := fun h tp dd its n sl X htp => by
    obtain ⟨cdD, hcD, _⟩ := any_some hdct
    refine Bool.eq_false_iff.mpr fun q => ?_
    have e : D = tp := Value.ref.inj (beq_iff_eq.mp q)
    subst e
    unfold clsIn at hcD
    split at hcD
    · rename_i c' d' cd' sl' ho
      have z := (X _ _ ho).symm.trans htp
      cases z
    · cases hcD
  ca := fun X I k => kin_classX hga hgt hsub hdct ha hn htk hm X I k
end
end PySem.W
namespace Rx
open PySem PySem.Spec PyProof.Rows L2 Rd
theorem call_isX {X : Cx} {a : Addr} {oe : Obj} {cls : Value} {d : Option Addr} {pn : List (Addr × Obj)} (hz : Zc cls d oe) (hf : ∃ vs, oe.data = .fields vs) : CallR (X.suite a ((a, oe) :: pn)) (.builtin "isinstance") (rIsX X.K a cls d) := by
  intro pins s σ H xs us Q I r h
  obtain ⟨D, dd, fs, c, cv, b, rfl, rfl, C, hd, rfl, hcv, e, q⟩ := h
  obtain ⟨u1, u2, rfl, r1, r2⟩ := vals2 r
  cases (show u1 = Value.ref a from r1)
  have ec := hcv.eq r2
  subst ec
  obtain ⟨hget, _⟩ := I.pin (a, oe) (List.mem_append.mpr (.inl List.mem_cons_self))
  obtain ⟨vs, hv⟩ := hf
  have hx : ObjOk X.prog X.w H s.heap dd (.xd fs) := I.hok dd _ hd
  obtain ⟨mA, hns, hr⟩ := hx
  obtain ⟨od, ho, hl⟩ := lookIn_ns hns
  have J : PySem.W.InstAt s.heap a oe D (some od) := ⟨hget, hz.1, by unfold PySem.W.notCls; rw [hv] <;> rfl, by rw [hz.2]; exact ho⟩
  exact PySem.W.kia_one (PySem.W.kitx_excX C.hg C.hk C.hs C.hd C.ha C.hn C.ht C.hm) I.kIn J e (fun z => nomatch z) fun tk => ⟨.bl b, H, I.kept (t' := tk) fun _ _ z => z, rfl, q⟩
theorem isX {K : PySem.W.Frag} {a fI C E dd : Addr} {b : Bool} {fs : List (Str × V)} {H : Hp} {Q : VK} (FC : ExcF K fI C) (FE : ExcF K fI E) (h : PySem.W.subIn K (.ref C) (.ref E) = some b) (hd : H dd = some (.xd fs)) (q : Q (.bl b) H) : rIsX K a (.ref C) (some dd) [.ref a, .ref E] H Q :=
  ⟨C, dd, fs, _, _, b, rfl, rfl, FC.is, hd, rfl, .own E, kit FC FE h, q⟩
/-- e.value -/
def XvG (K : PySem.W.Frag) (a : Addr) (cls : Value) (d : Option Addr) (n : Str) : V → Hp → VK → Prop := fun x H1 Q => x = .ref a ∧ ∃ (C dd : Addr) (fs : List (Str × V)) (v : V), cls = .ref C ∧ d = some dd ∧ ExcC K C ∧ PySem.W.findIn K (.ref C) n = some none ∧ H1 dd = some (.xd fs) ∧ fs.lookup n = some v ∧ Q v H1
def tXv (K : PySem.W.Frag) (a : Addr) (cls : Value) (d : Option Addr) (n : Str) (te : TE) : TE := fun σ H Q => te σ H fun x H1 => XvG K a cls d n x H1 Q
theorem pe_xv {X : Cx} {a : Addr} {oe : Obj} {cls : Value} {d : Option Addr} {pn : List (Addr × Obj)} {e : Expr} {te : TE} {pos : Pos} {n : Str} (hz : Zc cls d oe) (hf : ∃ vs, oe.data = .fields vs) (he : PE (X.suite a ((a, oe) :: pn)) e te)
    (hb : attributeBase e n X.env (eval e X.env) = eval e X.env := by rfl) : PE (X.suite a ((a, oe) :: pn)) (.Attribute e n pos) (tXv X.K a cls d n te) := by
  refine ⟨fun pins s σ H Q I h => ?_⟩
  refine attr_of hb (thn (he.run pins s σ H _ I h) fun u s1 hh => ?_)
  obtain ⟨x, H1, I1, rx, ex, C, dd, fs, v, ec, ed, T, hno, ea, l, q⟩ := hh
  subst ex
  obtain rfl : u = Value.ref a := rx
  subst ec
  subst ed
  obtain ⟨ha, _⟩ := I1.pin (a, oe) (List.mem_append_left _ List.mem_cons_self)
  obtain ⟨vs, hd⟩ := hf
  have hx : ObjOk X.prog X.w H1 s1.heap dd (.xd fs) := I1.hok dd _ ea
  obtain ⟨mA, hns, hr⟩ := hx
  obtain ⟨od, ho, hl⟩ := lookIn_ns hns
  obtain ⟨u, hu, ru⟩ := RelO.some_of (v := v) (o := mA n) (by rw [← l]; exact hr n)
  have J : PySem.W.InstAt s1.heap a oe C (some od) := ⟨ha, hz.1, by unfold PySem.W.notCls; rw [hd] <;> rfl, by rw [hz.2]; exact ho⟩
  exact HandSPX.exc_get I1.kIn J T.hg T.hk T.hs (PySem.W.findObj_own T.hd hno rfl (by rw [hl, hu])) (handed_of ru) ⟨v, H1, I1.tok _, ru, q⟩
theorem xvH {K : PySem.W.Frag} {a : Addr} {cls : Value} {d : Option Addr} {n : Str} {te : TE} {σ : L2.St} {H : Hp} {Q : VK} (h : te σ H fun x H1 => XvG K a cls d n x H1 Q) : tXv K a cls d n te σ H Q := h
theorem xv {K : PySem.W.Frag} {a fI C dd : Addr} {v : V} {H : Hp} {Q : VK} (F : ExcF K fI C) (hd : H dd = some (.xd [("value", v)])) (q : Q v H) : XvG K a (.ref C) (some dd) "value" (.ref a) H Q :=
  ⟨rfl, C, dd, _, v, rfl, rfl, F.is, F.nv, hd, by simp [List.lookup], q⟩
/-- the clause names the class that it is -/
theorem caught {K : PySem.W.Frag} {fI C E : Addr} {i : Nat} {ts : Addr → Value → Option Addr → TS} {Wout : WX} {D : Ends} {d : Option Addr} {σ : L2.St} {H : Hp} (FE : ExcF K fI E) (h : PySem.W.subIn K (.ref C) (.ref E) = some true)
    (q : ∀ a, H a = none → ts a (.ref C) d { nx := fun σ' H' => D.nx (σ'.set i none) H', rt := D.rt, bk := fun σ' H' => D.bk (σ'.set i none) H', ct := fun σ' H' => D.ct (σ'.set i none) H' } (σ.set i (some (.ref a))) H) : wAs K (.ref E) i ts Wout D (.ref C) d σ H :=
  ⟨true, exm FE h, fun _ a na => q a na, fun z => nomatch z⟩
theorem callS {sp : Sp} {E : L2.St → XK} {t : TA} {σ : L2.St} {H : Hp} {Q : VK} (h : t σ H fun vs H1 => sp vs H1 Q (E σ)) : tCallS sp E t σ H Q := h
end Rx
namespace Rx
open PySem PySem.Spec PyProof.Rows L2 Rd
/-- an __init__(self, value=None) called with both -/
theorem binds2 {K : PySem.W.Frag} {x qual : Str} {params : Arguments} {body : List Stmt} {scope : Scope} {f : Addr} {fd : FuncData} (F : FunD K x qual params body scope [.non] [] f fd)
    (h : ∀ (T : Addr) (kV doc pm : Value) (an : Option Addr) (cdv ct : Value) (us its : List Value), us.length = 2 → its.length = 1 →
      ∃ k, bindArgs (PySem.W.fnOf x qual params body scope (.ref T) kV doc pm an cdv ct) ⟨us, []⟩ = seqItems? (.ref T) >>= k ∧ k (some its.toArray) = pure ((["self", "value"] : List Str).zip (us ++ its.drop 1))) : Binds K fd ["self", "value"] [] := by
  obtain ⟨ds, r, b⟩ := F.binds1 (ps := ["self", "value"]) 2 1 (by simp) rfl h
  cases r
  exact b
end Rx
namespace Rx
open PySem PySem.Spec PyProof.Rows L2 Rd
theorem u66 {k : Nat} {A : Around} (h : Room k A) : A.units + 66 < cLine := by have := h.un; omega
/-! ### text * int -/
def nRepS : R2 := fun x y H Q => ∃ (z : Str) (n : Int), x = .str z ∧ y = .int n ∧ MulOk z n ∧ Q (.str (Txt.mul z n)) H
theorem o_repS {X : Cx} : OpR X (binaryOp .Mult) nRepS := by
  intro pins s σ H x y v u Q I rx ry h
  obtain ⟨z, n, rfl, rfl, hok, q⟩ := h
  obtain ⟨t, rfl⟩ := rx
  obtain ⟨t', rfl⟩ := ry
  exact SB.mul hok fun t' k => ⟨.str (Txt.mul z n), H, I.tok _, ⟨_, rfl⟩, q⟩
theorem repS {z : Str} {n : Int} {H : Hp} {Q : VK} (hok : MulOk z n) (q : Q (.str (Txt.mul z n)) H) : nRepS (.str z) (.int n) H Q := ⟨z, n, rfl, rfl, hok, q⟩
/-! ### things with their items -/
/-- what stands at a value, and at its items -/
def Rowed (H : Hp) (x : V) (k : Kd) (ks : List Kd) : Prop := Is H x k ∧ ∀ xs, k = .lst xs ∨ k = .tup xs → Paired (Is H) xs ks
theorem paired_same {H H' : Hp} (s : Same H H') {xs : List V} {ks : List Kd} (h : Paired (Is H) xs ks) : Paired (Is H') xs ks := by
  induction h with
  | nil => exact .nil
  | cons a _ ih => exact .cons (a.same s) ih
theorem Rowed.same {H H' : Hp} {x : V} {k : Kd} {ks : List Kd} (s : Same H H') (h : Rowed H x k ks) : Rowed H' x k ks := ⟨h.1.same s, fun xs e => paired_same s (h.2 xs e)⟩
/-- an address that is not t's -/
def Off (t : Addr) (x : V) : Prop := x ≠ .ref t
theorem off_ref {t a : Addr} (h : a ≠ t) : Off t (.ref a) := fun e => h (V.ref.inj e)
theorem Is.but {t : Addr} {H H' : Hp} {x : V} {k : Kd} (b : Rd.But t H H') (o : Off t x) (h : Is H x k) : Is H' x k := by
  cases h with
  | non => exact .non
  | bl b => exact .bl b
  | int i => exact .int i
  | str l => exact .str l
  | lst h l => exact .lst (b _ _ (fun e => o (by rw [e])) h) l
  | tup h l => exact .tup (b _ _ (fun e => o (by rw [e])) h) l
  | dct h => exact .dct (b _ _ (fun e => o (by rw [e])) h)
theorem paired_but {t : Addr} {H H' : Hp} (b : Rd.But t H H') {xs : List V} {ks : List Kd} (h : Paired (Is H) xs ks) : (∀ y ∈ xs, Off t y) → Paired (Is H') xs ks := by
  induction h with
  | nil => exact fun _ => .nil
  | cons a _ ih => exact fun o => .cons (a.but b (o _ (List.mem_cons_self ..))) (ih fun y m => o y (List.mem_cons_of_mem _ m))
/-- a thing of some kind, its items too; none of them is the object at t (the tape) -/
def Thing (t : Addr) (H : Hp) (x : V) : Prop := ∃ k ks, Rowed H x k ks ∧ Off t x ∧ ∀ xs, k = .lst xs ∨ k = .tup xs → ∀ y ∈ xs, Off t y
theorem Thing.same {t : Addr} {H H' : Hp} {x : V} (s : Same H H') (h : Thing t H x) : Thing t H' x := let ⟨k, ks, r, o⟩ := h; ⟨k, ks, r.same s, o⟩
theorem Thing.but {t : Addr} {H H' : Hp} {x : V} (b : Rd.But t H H') (h : Thing t H x) : Thing t H' x := let ⟨k, ks, r, o, p⟩ := h; ⟨k, ks, ⟨r.1.but b o, fun xs e => paired_but b (r.2 xs e) (p xs e)⟩, o, p⟩
theorem flat {t : Addr} {H : Hp} {x : V} {k : Kd} (h : Is H x k) (n : k.isSeq = false) (o : Off t x := by intro e; cases e) : Thing t H x := ⟨k, [], ⟨h, fun xs e => by rcases e with rfl | rfl <;> cases n⟩, o, fun xs e => by rcases e with rfl | rfl <;> cases n⟩
/-- an item -/
def Item (t : Addr) (H : Hp) (x : V) : Prop := (∃ k, Is H x k) ∧ Off t x
theorem item {t : Addr} {H : Hp} {x : V} {k : Kd} (h : Is H x k) (o : Off t x := by intro e; cases e) : Item t H x := ⟨⟨k, h⟩, o⟩
theorem Item.same {t : Addr} {H H' : Hp} {x : V} (s : Same H H') (h : Item t H x) : Item t H' x := let ⟨⟨k, i⟩, o⟩ := h; ⟨⟨k, i.same s⟩, o⟩
theorem Item.but {t : Addr} {H H' : Hp} {x : V} (b : Rd.But t H H') (h : Item t H x) : Item t H' x := let ⟨⟨k, i⟩, o⟩ := h; ⟨⟨k, i.but b o⟩, o⟩
theorem kinds {t : Addr} {H : Hp} : ∀ {xs : List V}, (∀ x ∈ xs, Item t H x) → ∃ ks, Paired (Is H) xs ks
  | [], _ => ⟨[], .nil⟩
  | x :: xs, h => let ⟨⟨k, i⟩, _⟩ := h x (List.mem_cons_self ..); let ⟨ks, r⟩ := kinds fun y m => h y (List.mem_cons_of_mem _ m); ⟨k :: ks, .cons i r⟩
theorem seqL {t : Addr} {H : Hp} {a : Addr} {xs : List V} (h : H a = some (.lst xs)) (o : a ≠ t) (l : xs.length ≤ 1000000) (i : ∀ x ∈ xs, Item t H x) : Thing t H (.ref a) :=
  let ⟨ks, r⟩ := kinds i; ⟨_, ks, ⟨.lst h l, fun ys e => by rcases e with e | e <;> cases e; exact r⟩, off_ref o, fun ys e => by rcases e with e | e <;> cases e; exact fun y m => (i y m).2⟩
theorem seqT {t : Addr} {H : Hp} {a : Addr} {xs : List V} (h : H a = some (.tup xs)) (o : a ≠ t) (l : xs.length ≤ 1000000) (i : ∀ x ∈ xs, Item t H x) : Thing t H (.ref a) :=
  let ⟨ks, r⟩ := kinds i; ⟨_, ks, ⟨.tup h l, fun ys e => by rcases e with e | e <;> cases e; exact r⟩, off_ref o, fun ys e => by rcases e with e | e <;> cases e; exact fun y m => (i y m).2⟩
theorem all_nil {P : V → Prop} : ∀ x ∈ ([] : List V), P x := fun _ h => nomatch h
theorem all_cons {P : V → Prop} {x : V} {xs : List V} (h : P x) (t : ∀ y ∈ xs, P y) : ∀ y ∈ x :: xs, P y := fun y m => by
  rcases List.mem_cons.mp m with rfl | m
  · exact h
  · exact t y m
theorem paired_get {R : V → Kd → Prop} {xs : List V} {ks : List Kd} (h : Paired R xs ks) : ∀ {i : Nat} {x : V}, xs[i]? = some x → ∃ k, ks[i]? = some k ∧ R x k := by
  induction h with
  | nil => intro i x e; simp at e
  | cons a _ ih =>
    intro i x e
    cases i with
    | zero => cases e; exact ⟨_, rfl, a⟩
    | succ i => exact ih e
/-! ### range(i, j, c) upwards -/
/-- how many -/
def cnt (i j c : Int) : Nat := if i < j then ((j - i - 1) / c + 1).toNat else 0
theorem rg_pos {i j c : Int} (c0 : 0 < c) (c1 : c < 1073741824) (hi : 0 ≤ i) (hi' : i < 2 ^ 62) (hj : 0 ≤ j) (hj' : j < 2 ^ 62) : RgC i j c (cnt i j c) := by
  have e : Builtin.Range.rangeSize i j c = (cnt i j c : Nat) := by
    unfold Builtin.Range.rangeSize cnt
    rw [if_pos c0]
    split
    · have : 0 ≤ (j - i - 1) / c := Int.ediv_nonneg (by omega) (by omega)
      omega
    · rfl
  have hb : (cnt i j c : Int) ≤ 2 ^ 62 + 1 := by
    unfold cnt
    split
    · have h1 : 0 ≤ (j - i - 1) / c := Int.ediv_nonneg (by omega) (by omega)
      have h2 : (j - i - 1) / c ≤ j - i - 1 := Int.ediv_le_self _ (by omega)
      omega
    · decide
  refine ⟨by omega, by omega, ?_, e⟩
  unfold Builtin.Range.small
  rw [e]
  simp only [Builtin.Range.rangeFitsLong, Bool.and_eq_true, Bool.or_eq_true, decide_eq_true_eq, beq_iff_eq]
  rw [if_pos c0]
  simp only [Bool.and_eq_true, decide_eq_true_eq]
  omega
theorem cnt_lt {i j c : Int} (c0 : 0 < c) (k : Nat) : k < cnt i j c ↔ i + (k : Int) * c < j := by
  unfold cnt
  split
  · rename_i h
    have h1 : 0 ≤ (j - i - 1) / c := Int.ediv_nonneg (by omega) (by omega)
    have e : k < ((j - i - 1) / c + 1).toNat ↔ (k : Int) ≤ (j - i - 1) / c := by omega
    rw [e, Int.le_ediv_iff_mul_le c0]
    omega
  · have : 0 ≤ (k : Int) * c := Int.mul_nonneg (by omega) (by omega)
    omega
theorem rng3 {ta : TA} {σ : L2.St} {H : Hp} {R : It → Hp → Prop} (h : ta σ H fun vs H1 => ∃ (i j c : Int) (n : Nat), vs = [.int i, .int j, .int c] ∧ RgC i j c n ∧ R (Itc i c n) H1) : iRng3 ta σ H R := h
end Rx
namespace Rx
open PySem PySem.Spec PyProof.Rows L2 Rd
/-! ### {k: v} written out -/
theorem disp {trs : List (TE × TE)} {σ : L2.St} {H : Hp} {Q : VK} (h : ∀ (p : Addr) (G : Hp), H p = none → G p = some (.dK []) → Same H G → tPairs trs σ G fun ps H2 => H2 p = some (.dK []) ∧ ∃ kvs : List (Key × V), ps = kvs.map (fun kv => (kV kv.1, kv.2)) ∧ kvs.length ≤ 15 ∧
    ∀ G2 : Hp, G2 p = some (.dK (mergeK [] kvs)) → (∀ b, b ≠ p → G2 b = H2 b) → Q (.ref p) G2) : tDisp trs σ H Q := fun p hp => by
  have key := h p _ hp upd_same (same_upd hp)
  have mono : ∀ {trs : List (TE × TE)} {σ : L2.St} {H : Hp} {A B : List (V × V) → Hp → Prop}, A = B → tPairs trs σ H A → tPairs trs σ H B := fun e h => e ▸ h
  refine mono ?_ key
  funext ps H2
  refine propext ⟨fun ⟨a, kvs, b, c, d⟩ => ⟨a, kvs, b, c, d _ upd_same fun b hb => upd_ne hb⟩, fun ⟨a, kvs, b, c, d⟩ => ⟨a, kvs, b, c, fun G2 g off => ?_⟩⟩
  have e : G2 = upd H2 p (.dK (mergeK [] kvs)) := by
    funext x
    by_cases q : x = p
    · rw [q, g, upd_same]
    · rw [off x q, upd_ne q]
  rw [e]
  exact d
theorem pair {tk tv : TE} {r : List (TE × TE)} {σ : L2.St} {H : Hp} {Q : List (V × V) → Hp → Prop} (h : tk σ H fun x H1 => tv σ H1 fun y H2 => tPairs r σ H2 fun ps H3 => Q ((x, y) :: ps) H3) : tPairs ((tk, tv) :: r) σ H Q := h
theorem pair0 {σ : L2.St} {H : Hp} {Q : List (V × V) → Hp → Prop} (h : Q [] H) : tPairs [] σ H Q := h
theorem same_off2 {H G G2 : Hp} {p : Addr} (s : Same H G) (np : H p = none) (off : ∀ b, b ≠ p → G2 b = G b) : Same H G2 := fun b o e => by rw [off b (ne_of_none e np)]; exact s b o e
end Rx
namespace Rx
open PySem PySem.Spec PyProof.Rows L2 Rd
theorem eqI_refl {K : PySem.W.Frag} {H : Hp} {y : V} {k : Kd} (h : Is H y k) : EqI K H y y := by
  cases h with
  | non => exact .inl ⟨rfl, rfl⟩
  | bl b => exact .inl ⟨rfl, rfl⟩
  | int i => exact .inl ⟨rfl, rfl⟩
  | str l => exact .inl ⟨rfl, rfl⟩
  | lst h l => exact .inr (.inl ⟨_, rfl, rfl⟩)
  | tup h l => exact .inr (.inl ⟨_, rfl, rfl⟩)
  | dct h => exact .inr (.inl ⟨_, rfl, rfl⟩)
end Rx

/-! An instance made within a try: what its __init__ raises is caught here. -/
namespace Rm
open PySem PySem.Spec PyProof.Rows L2
variable {X : Cx} {CX : CXT} {k : Nat} {f C : Addr} {fd : FuncData} {ps : List Str} {sp : Sp} {E : L2.St → XK} {σ : L2.St} {H : Hp} {s : Shared} {Q : VK} {pins : List (Addr × Obj)}
theorem go {vs : List V} {us : List Value} (mk : Mk X.K C f) (ok : FnOk X.prog X.w X.K X.mg X.base CX k f fd ps sp) (room : Room (k + 1) X.A) (bd : Binds X.K fd ps []) (pa : PassesAt CX X σ (E σ)) (inv : Inv X pins σ H s) (va : Vals vs us)
    (h : Rd.MkG C sp [] (E σ) vs H Q) : wpAny (model X.prog X.w) X.A (call (.ref C) us) (EP X pins σ Q) X.xe s := by
  have free : ∀ m, s.heap.objs.size ≤ m → H m = none := fun m l => inv.hok.fresh l
  have q := h _ _ (free (s.heap.objs.size + 1) (by omega)) (free s.heap.objs.size (by omega)) (fun e => Nat.lt_irrefl _ (Nat.lt_of_lt_of_eq (Nat.lt_succ_self s.heap.objs.size) e.symm))
  rw [List.append_nil] at q
  have inv' := inv.made (C := C)
  have va' : Vals (V.ref (s.heap.objs.size + 1) :: vs) (Value.ref (s.heap.objs.size + 1) :: us) := .cons rfl va
  have bd' := bd _ (Value.ref (s.heap.objs.size + 1) :: us) inv'.kIn (by rw [List.append_nil, ← va'.length]; exact ok.len _ _ _ _ q)
  rw [List.append_nil] at bd'
  have run := ok.run _ X.stack _ _ ⟨Value.ref (s.heap.objs.size + 1) :: us, []⟩ _ _ _ (E σ) (room.make C us []) (inv'.env0.make C us []) bd' va' q
  refine wpAny_call (make_map (f := f) inv.kIn mk.makes mk.init (beq_iff_eq.mp mk.fn) (codeAny_mono run fun end_ s' fin => ?_))
  match end_, fin with
  | .error e, fin => exact pa pins _ _ e s' inv' fin
  | .ok (.ret u), fin =>
    obtain ⟨v, H', inv2, rv, ev, last⟩ := inv'.after fin
    subst ev
    exact ⟨rv, ⟨V.ref (s.heap.objs.size + 1), H', inv2, rfl, last⟩⟩
  | .ok .next, fin => exact fin.elim
  | .ok .brk, fin => exact fin.elim
  | .ok .cont, fin => exact fin.elim
/-- C(e, ..), the ends of __init__ as E tells them of the state -/
def tMakeS (C : Addr) (sp : Sp) (E : L2.St → XK) (t : TA) : TE := fun σ H Q => t σ H fun vs H1 => Rd.MkG C sp [] (E σ) vs H1 Q
theorem mkH {t : TA} (h : t σ H fun vs H1 => Rd.MkG C sp [] (E σ) vs H1 Q) : tMakeS C sp E t σ H Q := h
theorem pe_makeS {x : Str} {p pos : Pos} {e : Expr} {es : List Expr} {t : TA} (mk : Mk X.K C f) (ok : FnOk X.prog X.w X.K X.mg X.base CX k f fd ps sp) (room : Room (k + 1) X.A) (gl : Gl X x) (at_ : X.mg x = some (.ref C)) (bd : Binds X.K fd ps []) (pa : ∀ σ, PassesAt CX X σ (E σ))
    (args : PA X (e :: es) t) (d1 : (x == ("__debug__" : Str)) = false := by decide) (d2 : starEach (e :: es) X.env = (false, eval e X.env) :: starEach es X.env := by rfl) (d3 : (backTo pos (starEach es X.env)).any (·.1) = false := by rfl) :
    PE X (.Call (.Name x p) (e :: es) [] pos) (tMakeS C sp E t) :=
  ⟨fun pins s σ H Q inv h => wpAny_Call_Name_kw (ld_glob inv gl at_ (PySem.W.callWith_K (h₀ := X.base) inv.ok.mod.kin mk.kp (thn (args.run pos pins s σ H _ inv h) fun us s1 ⟨vs, H1, inv1, va, q⟩ => ⟨inv1.kIn, go mk ok room bd (pa σ) inv1 va q⟩) d2 d3) d1)⟩
end Rm

/-! The number of unlike texts: len(set(xs)) where no text stands twice. -/
namespace Re
open PySem PySem.Spec PyProof.Rows L2
section
variable {prog : Program} {w : World} {A : Around} {R : Result → Shared → Prop} {I : Addr} {fp wr : List Addr} {G : Array GenState → Array GenState → Prop} {P : Nat → Value → Prop} {St : Nat → Shared → Prop}
def Upto (xs : List Str) (i : Nat) : Str → Bool := fun y => (xs.take i).any (· == y)
theorem upto_step {xs : List Str} {i : Nat} {x : Str} (h : xs[i]? = some x) (y : Str) : (Upto xs i y || decide (y = x)) = Upto xs (i + 1) y := by
  unfold Upto
  rw [Rd.take_snoc h, List.any_append, Bool.eq_iff_iff]
  simp only [Bool.or_eq_true, decide_eq_true_eq, List.any_cons, List.any_nil, Bool.or_false, beq_iff_eq]
  exact or_congr_right eq_comm
theorem upto_new {xs : List Str} {i : Nat} {x : Str} (nd : xs.Nodup) (h : xs[i]? = some x) : Upto xs i x = false := by
  refine Bool.eq_false_iff.mpr fun q => ?_
  obtain ⟨y, m, e⟩ := List.any_eq_true.mp q
  rw [beq_iff_eq] at e
  subst e
  exact Rd.nodup_take nd h m
/-- the loop that fills a set with unlike texts -/
theorem fill {xs : List Str} (W : WalksS prog w A.in1 I fp wr G xs.length P St) (D : Addr) (out : D ∉ fp) (nd : xs.Nodup) (room : xs.length + 1 < scanBound)
    (val : ∀ i v, P i v → ∃ x t, xs[i]? = some x ∧ v = .str x t) (left : Nat) : ∀ (i : Nat) (s : Shared), xs.length - i = left → i ≤ xs.length → St i s → s.heap.SetOf (strKind prog w) D (Upto xs i) i →
      (∀ s', Moved (D :: wr) G s s' → s'.heap.SetOf (strKind prog w) D (Upto xs xs.length) xs.length → R (.ok (.ret .none)) s') → codeAny (model prog w) A (.builtin "set.update.loop" ⟨[.ref D, .ref I], []⟩) R s := by
  have more : ∀ b ∈ wr, b ∈ D :: wr := fun b h => .tail _ h
  have stay : ∀ {s s' : Shared} {i : Nat}, Moved wr G s s' → s.heap.SetOf (strKind prog w) D (Upto xs i) i → s'.heap.SetOf (strKind prog w) D (Upto xs i) i :=
    fun m ⟨o, es, ep, t, h, r⟩ => ⟨o, es, ep, t, m.heap D _ (fun z => out (W.sub _ z)) h, r⟩
  induction left with
  | zero =>
    intro i s e le st hD k
    obtain rfl : i = xs.length := by omega
    refine codeAny_builtin F.entry_set_update_loop ?_
    rw [Around.under_plainId F.plain_set_update_loop _]
    show wpAny _ A.in1 (pyNext (.ref I) >>= _) _ _ s
    exact wpAny_bind (W.done s _ _ st fun s' m => wpAny_pure (k s' (m.mono more) (stay m hD)))
  | succ left ih =>
    intro i s e le st hD k
    have lt : i < xs.length := by omega
    refine codeAny_builtin F.entry_set_update_loop ?_
    rw [Around.under_plainId F.plain_set_update_loop _]
    show wpAny _ A.in1 (pyNext (.ref I) >>= _) _ _ s
    refine wpAny_bind (W.item i s _ _ lt st fun v s' hv st' m => ?_)
    obtain ⟨x, t, hx, rfl⟩ := val i v hv
    have hD' := stay m hD
    show wpAny _ A.in1 (holding [Value.str x t] (setAdd D (.str x t)) >>= _) _ _ s'
    refine wpAny_bind (wpAny_holding ?_)
    unfold setAdd
    refine wpAny_holding (wpAny_bind ((strKind prog w).pyHash (k := x) (strKind_is _ _ _ _) ?_))
    refine wpAny_setAddHashed_of (knd := strKind prog w) (s := { s' with toks := s'.toks + 1 }) (strKind_is _ _ _ _) rfl hD' (by omega) fun h' but hN => ?_
    rw [upto_new nd hx] at hN
    refine wpAny_pure ⟨plainId_quiet F.plain_set_update_loop _, ih (i + 1) _ (by omega) lt (W.frame _ s' _ _ st' (Nat.le_succ _) fun b hb o e => ?_) (SetOf_congr hN (upto_step hx) rfl) fun s2 m2 hS2 => ?_⟩
    · rw [but.2 b fun q => out (q ▸ hb)]
      exact e
    · refine k s2 (Moved.trans W.gtrans ((m.mono more).then_heap (Nat.le_succ _) fun b o hb e => ?_) m2) hS2
      rw [but.2 b fun q => hb (q ▸ .head _)]
      exact e
end
section
variable {prog : Program} {w : World} {A : Around} {E : Value → Shared → Prop} {s : Shared}
def bareSet (led : Bool) : Obj := { cls := .type "set", dict := none, data := .set #[] 0 (.fresh 0 0 led) }
/-- what set(..) leaves -/
def Left (prog : Program) (w : World) (s : Shared) (xs : List Str) (s' : Shared) : Prop := ∃ (h' : Heap) (tk : Nat), s' = { s with heap := h', toks := tk } ∧ h'.SetOf (strKind prog w) s.heap.objs.size (Upto xs xs.length) xs.length ∧ ∀ b o, b < s.heap.objs.size → s.heap.get? b = some o → h'.get? b = some o
theorem bare_of {h : Heap} {a : Addr} {led : Bool} (e : h.get? a = some (bareSet led)) (xs : List Str) : h.SetOf (strKind prog w) a (Upto xs 0) 0 :=
  SetOf_congr ((setObjOf_fresh (knd := strKind prog w) led).setOf e (by unfold scanBound; omega)) (fun _ => rfl) rfl
/-- set.__init__ over a list of unlike texts -/
theorem fill_list {led : Bool} {l : Addr} {items : Array Value} {xs : List Str} (hh : A.handled = none) (hl : s.heap.IsList l items) (hi : StrsAre items.toList xs) (nd : xs.Nodup) (room : xs.length + 1 < scanBound) {Q : PySem.Fin → Shared → Prop}
    (h : ∀ s', Left prog w s xs s' → wpAny (model prog w) A (ret Value.none) Q E s') :
    wpAny (model prog w) A (Builtin.«set.__init__» ⟨[.ref s.heap.objs.size, .ref l], []⟩) Q E { s with heap := s.heap.push (bareSet led) } := by
  have hD : (s.heap.push (bareSet led)).get? s.heap.objs.size = some (bareSet led) := Heap.get?_push_size _ rfl
  have hT : Shared.TypeIs { s with heap := s.heap.push (bareSet led) } (.ref s.heap.objs.size) "set" := ⟨_, hD, rfl⟩
  have big : l < s.heap.objs.size := let ⟨_, e, _⟩ := hl; Heap.lt_size e
  have hl1 : (s.heap.push (bareSet led)).IsList l items := hl.push _
  obtain ⟨ol, hol, hcl, nl, hdl⟩ := hl1
  obtain ⟨ocls, odict, odata, oslots⟩ := ol
  simp only at hcl hdl
  subst hcl
  subst hdl
  have hsls := PySem.F.sub_list_set
  have hslf := PySem.F.sub_list_frozenset
  have hne : (Value.type "list" == Value.type "dict") = false := by decide
  have hl1 : (s.heap.push (bareSet led)).IsList l items := hl.push _
  unfold Builtin.«set.__init__» noKeywords Builtin.Frozenset.updateFrom
  generalize hPI : pyIter = PI
  wp_walk
  subst hPI
  have hz : (s.heap.push (bareSet led)).objs.size = s.heap.objs.size + 1 := Heap.size_push ..
  have n1 : l ≠ (s.heap.push (bareSet led)).objs.size := by rw [hz]; exact Nat.ne_of_lt (Nat.lt_succ_of_lt big)
  have sz : xs.length = items.size := by rw [← StrsAre.len_eq hi, Array.length_toList]
  have val : ∀ (i : Nat) (v : Value), items[i]? = some v → ∃ x t, xs[i]? = some x ∧ v = .str x t := fun i v hv => by
    obtain ⟨t, e⟩ := SS.strs_at hi i v (by rw [Array.getElem?_toList]; exact hv)
    have lt : i < xs.length := by rw [sz]; exact (Array.getElem?_eq_some_iff.mp hv).1
    refine ⟨xs[i], t, List.getElem?_eq_getElem lt, ?_⟩
    rw [e, List.getD_eq_getElem?_getD, List.getElem?_eq_getElem lt]
    rfl
  refine wpAny_pyIter_list hl1 (wpAny_bind (wpAny_runValue ?_))
  have hh1 : A.in1.handled = none := by simp [hh]
  have W := (Walks.list (prog := prog) (w := w) hh1 _ l n1 items).toS
  rw [← sz] at W
  refine fill W s.heap.objs.size (by rw [hz, List.mem_cons, List.mem_singleton, not_or]; exact ⟨Nat.ne_of_lt (Nat.lt_succ_self _), Nat.ne_of_gt big⟩) nd room val (xs.length - 0) 0 _ rfl (Nat.zero_le _) ⟨⟨_, Heap.get?_push_size _ rfl, rfl, rfl⟩, hl1.push _⟩ (bare_of (led := led) (Heap.get?_push_of_some _ hD) xs) ?_
  intro s' m hS'
  refine wpAny_pure (h s' ⟨s'.heap, s'.toks, ?_, hS', fun b o lt e => m.heap b o ?_ (Heap.get?_push_of_some _ (Heap.get?_push_of_some _ e))⟩)
  · obtain ⟨h', g', d', tk', os'⟩ := s'
    have e1 : g' = s.gens := m.gens
    have e2 : d' = s.drawn := m.drawn
    have e3 : os' = s.os := m.os
    rw [e1, e2, e3]
  · rw [hz, List.mem_cons, List.mem_singleton, not_or]
    exact ⟨Nat.ne_of_lt lt, Nat.ne_of_lt (Nat.lt_succ_of_lt lt)⟩
/-- set(xs) -/
theorem call_set {l : Addr} {items : Array Value} {xs : List Str} {Q : Value → Shared → Prop} (hh : A.handled = none) (hl : s.heap.IsList l items) (hi : StrsAre items.toList xs) (nd : xs.Nodup) (room : xs.length + 1 < scanBound)
    (h : ∀ s', Left prog w s xs s' → Q (.ref s.heap.objs.size) s') : wpAny (model prog w) A (call (.type "set") [.ref l]) Q E s := by
  obtain ⟨c, tl, hmro⟩ := PySem.F.called_set.mro
  have hmade := PySem.F.called_set.made
  have hsub := PySem.F.called_set.sub
  refine wpAny_call (codeAny_of_tree ?_)
  show wpAny _ _ (callAny (.type "set") _) _ _ _
  refine wpAny_pure ⟨Code.quiet_builtin _ (by decide +kernel), codeAny_builtin PySem.F.entry_type_call ?_⟩
  rw [Around.under_plain (weight_type_call_type "set" [.ref l] []) rfl]
  have h1 := PySem.F.called_set.notType
  have h2 := PySem.F.called_set.canCreate
  have hct := PySem.F.typeCall_set_1 (.ref l)
  repeat (any_goals (first | assumption | wp_step))
  refine codeAny_mono (code_set_new_1 (.ref l) (E := E) (Q₁ := fun y s1 => ∃ led : Bool, y = .ref s.heap.objs.size ∧ s1 = { s with heap := s.heap.push (bareSet led) }) fun led => ⟨led, rfl, rfl⟩) fun r s1 hr => ?_
  match r, hr with
  | .ok (.ret y), ⟨led, hy, hs⟩ =>
    subst hy
    subst hs
    have hD : (s.heap.push (bareSet led)).get? s.heap.objs.size = some (bareSet led) := Heap.get?_push_size _ rfl
    have hT : Shared.TypeIs { s with heap := s.heap.push (bareSet led) } (.ref s.heap.objs.size) "set" := ⟨_, hD, rfl⟩
    have hli := PySem.F.called_set.init.lookup
    have hbi := PySem.F.called_set.init.bind (.ref s.heap.objs.size)
    repeat (any_goals (first | assumption | wp_step))
    refine codeAny_mono (codeAny_call_builtin (R := wants (fun r s2 => r = .none ∧ Left prog w s xs s2) E) PySem.F.called_set.init.plain PySem.F.entry_set_init (check_set_init_1 hT ?_)) fun r2 s2 hr2 => ?_
    · refine fill_list (by simp [hh]) hl hi nd room fun s' hL => ?_
      exact wpAny_pure ⟨rfl, hL⟩
    · match r2, hr2 with
      | .ok (.ret v), ⟨hv, hL⟩ =>
        subst hv
        repeat (any_goals (first | assumption | wp_step))
        exact h _ hL
      | .error e, q => exact q
  | .error e, q => exact q
/-- len(set(xs)), no text of xs twice -/
def tLenSet (K : PySem.W.Frag) (ta : TE) : TE := fun σ H Q => ta σ H fun x H1 => ∃ (l : Addr) (xs : List Str), x = .ref l ∧ SqL K H1 l (xs.map V.str) ∧ xs.Nodup ∧ xs.length ≤ 1000 ∧ Q (.int xs.length) H1
theorem lenSet {K : PySem.W.Frag} {σ : L2.St} {H : Hp} {ta : TE} {Q : VK} (h : ta σ H fun x H1 => ∃ (l : Addr) (xs : List Str), x = .ref l ∧ SqL K H1 l (xs.map V.str) ∧ xs.Nodup ∧ xs.length ≤ 1000 ∧ Q (.int xs.length) H1) : tLenSet K ta σ H Q := h
end
section
variable {X : Cx}
theorem pe_lenSet {a : Expr} {ta : TE} {p p2 q pos : Pos} (hc : X.calm = true) (hg : Gl X "len") (hm : X.mg "len" = none) (hg2 : Gl X "set") (hm2 : X.mg "set" = none) (ha : PE X a ta)
    (na : starEach [a] X.env = (false, eval a X.env) :: starEach [] X.env := by rfl) : PE X (.Call (.Name "len" p) [.Call (.Name "set" p2) [a] [] q] [] pos) (tLenSet X.K ta) := by
  refine ⟨fun pins s σ H Q I h => Call_ (ld_blt I hg hm boot_len (callWith_builtin1 (args_cons (Call_ (ld_blt I hg2 hm2 boot_set (callWith_type1 (args_cons (thn (ha.run pins s σ H _ I h) fun v s1 ⟨x, H1, I1, r1, q1⟩ => args_nil ?_) na) na rfl))) rfl) rfl rfl))⟩
  obtain ⟨l, xs, rfl, hq, nd, few, q1⟩ := q1
  cases r1
  obtain ⟨its, r, pl, hz⟩ := I1.list hq
  refine call_set (I1.ok.hd hc) pl.isList (by simpa using strsAre_of r) nd (by unfold scanBound; omega) ?_
  rintro _ ⟨h', tk, rfl, hS, keep⟩
  refine args_nil ?_
  obtain ⟨o, es, ep, t, ho, hex, hd, _, _, _, hf, hn⟩ := hS
  have I2 : Inv X pins σ H1 { s1 with heap := h', toks := tk } := I1.kept fun b o e => keep b o (Heap.lt_size e) e
  exact call_len_set ho hex hd hf (by rw [hn]; omega) ⟨.int xs.length, H1, I2.tok _, ⟨_, by rw [hn]⟩, q1⟩
end
/-! ### list(text) -/
theorem vals_get : ∀ {xs : List V} {us : List Value}, xs.length = us.length → (∀ (i : Nat) (x : V) (u : Value), xs[i]? = some x → us[i]? = some u → RelV x u) → Vals xs us
  | [], [], _, _ => .nil
  | x :: xs, u :: us, l, h => .cons (h 0 x u rfl rfl) (vals_get (by simpa using l) fun i y v a b => h (i + 1) y v (by simpa using a) (by simpa using b))
def Signs (z : Str) : List Str := z.cps.toList.map fun c => (⟨#[c]⟩ : Str)
def rListStr : List V → Hp → VK → Prop := fun xs H Q => ∃ z : Str, xs = [.str z] ∧ z.length ≤ sizeLine ∧ Rd.NewQ (.lst ((Signs z).map V.str)) Q H
theorem listStr {z : Str} {H : Hp} {Q : VK} (l : z.length ≤ sizeLine) (h : Rd.NewQ (.lst ((Signs z).map V.str)) Q H) : rListStr [.str z] H Q := ⟨z, rfl, l, h⟩
section
variable {X : Cx}
theorem cr_listStr (hc : X.calm = true) : CallR X (.type "list") rListStr := by
  intro pins s σ H xs us Q I r h
  obtain ⟨z, rfl, l, q⟩ := h
  cases r with
  | cons ry rt =>
    cases rt
    obtain ⟨t, rfl⟩ := ry
    refine call_list_str (I.ok.hd hc) z t (fun h' tk acc c keep e its => ?_) l
    have sz : ((Signs z).map V.str).length = acc.toList.length := by
      unfold Signs
      rw [List.length_map, List.length_map, Array.length_toList, Array.length_toList, its.1]
    have v : Vals ((Signs z).map V.str) acc.toList := vals_get sz fun i x u hx hu => by
      obtain ⟨d, k, hd, rfl⟩ := its.2 i u (by rw [← Array.getElem?_toList]; exact hu)
      unfold Signs at hx
      rw [List.getElem?_map, List.getElem?_map, Array.getElem?_toList, hd] at hx
      cases hx
      exact ⟨k, rfl⟩
    have few : ((Signs z).map V.str).length ≤ sizeLine := by
      unfold Signs
      rw [List.length_map, List.length_map]
      exact l
    exact ⟨.ref s.heap.objs.size, _, I.laid (t' := tk) keep (Nat.le_refl _) (show ObjOk X.prog X.w _ h' _ (.lst ((Signs z).map V.str)) from ⟨few, acc.toList, c, v, e⟩), rfl, q _ (I.hok.fresh (Nat.le_refl _))⟩
end
/-! ### comprehensions with two fors -/
section
variable {σ : L2.St}
def Inner (D : Addr) (H1 : Hp) (R : Nat → List V → Hp → Prop) (i : Nat) (g1 : TG) (tt1 : TT) (te : TE) (vs1 : List Nat) (σ2 : L2.St) (J1 : It) (H4 : Hp) : Prop := ∃ W1 : Nat → Nat → Hp → Prop, (∃ m, W1 0 m H4) ∧ ∀ j k H, W1 j k H →
  (J1.stop j H ∧ Rd.LcP D H1 R (i + 1) H) ∨ (J1.go j H ∧ ∃ Nx1 : Hp → Prop, (∀ H', Nx1 H' → ∃ k', k' < k ∧ W1 (j + 1) k' H') ∧ ∀ x H', J1.yld j H x H' → g1 x (wipe σ2 vs1) H' fun σ3 H5 => wipe σ3 vs1 = wipe σ2 vs1 ∧ tt1 σ3 H5 fun b H6 =>
    if b = true then te σ3 H6 fun y H7 => ∃ acc, H7 D = some (.lst acc) ∧ acc.length < sizeLine ∧ Nx1 (upd H7 D (.lst (acc ++ [y]))) else Nx1 H6)
def Lc2 (J : It) (g : TG) (tt : TT) (wi1 : TI) (g1 : TG) (tt1 : TT) (te : TE) (vs vs1 : List Nat) (σ : L2.St) (H1 : Hp) (Q : VK) : Prop := ∀ D, H1 D = none → ∃ W : Nat → Nat → Hp → Prop, (∃ m, W 0 m (upd H1 D (.lst []))) ∧ ∀ i m H, W i m H →
      (J.stop i H ∧ Q (.ref D) H) ∨ (J.go i H ∧ ∃ Nx : Hp → Prop, (∀ H', Nx H' → ∃ m', m' < m ∧ W (i + 1) m' H') ∧ ∀ x H', J.yld i H x H' → g x (wipe σ vs) H' fun σ2 H2 => wipe σ2 vs = wipe σ vs ∧ tt σ2 H2 fun b H3 =>
        if b = true then wi1 σ2 H3 fun J1 H4 => ∃ W1 : Nat → Nat → Hp → Prop, (∃ m, W1 0 m H4) ∧ ∀ j k H, W1 j k H →
          (J1.stop j H ∧ Nx H) ∨ (J1.go j H ∧ ∃ Nx1 : Hp → Prop, (∀ H', Nx1 H' → ∃ k', k' < k ∧ W1 (j + 1) k' H') ∧ ∀ x H', J1.yld j H x H' → g1 x (wipe σ2 vs1) H' fun σ3 H5 => wipe σ3 vs1 = wipe σ2 vs1 ∧ tt1 σ3 H5 fun b H6 =>
            if b = true then te σ3 H6 fun y H7 => ∃ acc, H7 D = some (.lst acc) ∧ acc.length < sizeLine ∧ Nx1 (upd H7 D (.lst (acc ++ [y]))) else Nx1 H6)
        else Nx H3)
theorem lc2S {J : It} {n : Nat} {G : Hp → Prop} {Y : Nat → Hp → V → Hp → Prop} (w : Walk J n G Y) {g : TG} {tt : TT} {wi1 : TI} {g1 : TG} {tt1 : TT} {te : TE} {vs vs1 : List Nat} {H1 : Hp} {Q : VK} (hG : ∀ H, Same H1 H → G H) (R : Addr → Nat → List V → Hp → Prop)
    (r0 : ∀ (D : Addr) (G : Hp), H1 D = none → G D = some (.lst []) → Same H1 G → R D 0 [] G)
    (hs : ∀ (D : Addr) i x H H' acc, H1 D = none → i < n → H D = some (.lst acc) → Same H1 H → R D i acc H → Y i H x H' → g x (wipe σ vs) H' fun σ2 H2 => wipe σ2 vs = wipe σ vs ∧ tt σ2 H2 fun b H3 =>
      if b = true then wi1 σ2 H3 fun J1 H4 => Inner D H1 (R D) i g1 tt1 te vs1 σ2 J1 H4 else Rd.LcP D H1 (R D) (i + 1) H3)
    (hd : ∀ (D : Addr) acc H, H1 D = none → H D = some (.lst acc) → Same H1 H → R D n acc H → Q (.ref D) H) :
    Lc2 J g tt wi1 g1 tt1 te vs vs1 σ H1 Q := by
  intro D nD
  refine ⟨fun i m H => m = n - i ∧ i ≤ n ∧ Rd.LcP D H1 (R D) i H, ⟨n, by simp, Nat.zero_le _, [], upd_same, Rd.same_upd nD, r0 D _ nD upd_same (Rd.same_upd nD)⟩, ?_⟩
  rintro i m H ⟨rfl, hi, acc, h1, h2, h3⟩
  by_cases lt : i < n
  · exact .inr ⟨w.goes i H lt (hG H h2), Rd.LcP D H1 (R D) (i + 1), fun H' p => ⟨n - (i + 1), by omega, rfl, lt, p⟩, fun x H' y => hs D i x H H' acc nD lt h1 h2 h3 (w.yields i H x H' lt (hG H h2) y)⟩
  · obtain rfl : i = n := by omega
    exact .inl ⟨w.stops H (hG H h2), hd D acc H nD h1 h2 h3⟩
theorem innerS {D : Addr} {H1 H4 : Hp} {R : Nat → List V → Hp → Prop} {i : Nat} {g1 : TG} {tt1 : TT} {te : TE} {vs1 : List Nat} {σ2 : L2.St} {J1 : It} {n : Nat} {G : Hp → Prop} {Y : Nat → Hp → V → Hp → Prop} (w : Walk J1 n G Y) (R1 : Nat → List V → Hp → Prop) (h0 : Rd.LcP D H1 R1 0 H4) (hG : ∀ H, Same H1 H → G H)
    (hs : ∀ j x H H' acc, j < n → H D = some (.lst acc) → Same H1 H → R1 j acc H → Y j H x H' → g1 x (wipe σ2 vs1) H' fun σ3 H5 => wipe σ3 vs1 = wipe σ2 vs1 ∧ tt1 σ3 H5 fun b H6 =>
      if b = true then te σ3 H6 fun y H7 => Rd.LcPush D H1 R1 j y H7 else Rd.LcP D H1 R1 (j + 1) H6)
    (hd : ∀ acc H, H D = some (.lst acc) → Same H1 H → R1 n acc H → R (i + 1) acc H) : Inner D H1 R i g1 tt1 te vs1 σ2 J1 H4 := by
  refine ⟨fun j k H => k = n - j ∧ j ≤ n ∧ Rd.LcP D H1 R1 j H, ⟨n, by simp, Nat.zero_le _, h0⟩, ?_⟩
  rintro j k H ⟨rfl, hj, acc, h1, h2, h3⟩
  by_cases lt : j < n
  · exact .inr ⟨w.goes j H lt (hG H h2), Rd.LcP D H1 R1 (j + 1), fun H' p => ⟨n - (j + 1), by omega, rfl, lt, p⟩, fun x H' y => hs j x H H' acc lt h1 h2 h3 (w.yields j H x H' lt (hG H h2) y)⟩
  · obtain rfl : j = n := by omega
    exact .inl ⟨w.stops H (hG H h2), acc, h1, h2, hd acc H h1 h2 h3⟩
theorem lc2 {wi : TI} {g : TG} {tt : TT} {wi1 : TI} {g1 : TG} {tt1 : TT} {te : TE} {vs vs1 : List Nat} {H : Hp} {Q : VK} (h : wi σ H fun J H1 => Lc2 J g tt wi1 g1 tt1 te vs vs1 σ H1 Q) : tLc2 wi g tt wi1 g1 tt1 te vs vs1 σ H Q := h
end
/-! ### text[::-1] -/
def revS (z : Str) : Str := ⟨z.cps.reverse⟩
theorem revS_list (z : Str) : (revS z).cps.toList = z.cps.toList.reverse := by
  unfold revS
  simp
theorem rev_by (z : Str) (u : Tok) : Txt.sliceBy z none none (-1, u) = revS z := by
  refine PySem.W.str_of_cps ?_
  rw [step_rev_list, revS_list]
  refine List.ext_getElem? fun i => ?_
  rw [List.getElem?_map]
  rcases Nat.lt_or_ge i z.length with h | h
  · have l : z.cps.toList.length = z.length := Array.length_toList
    rw [List.getElem?_range h, List.getElem?_reverse (by omega), l, Array.getElem?_toList]
    have h2 : z.length - 1 - i < z.cps.size := by
      show _ < z.length
      omega
    simp [Array.getD, h2]
  · have l : z.cps.toList.length = z.length := Array.length_toList
    rw [List.getElem?_eq_none (by rw [List.length_range]; exact h), List.getElem?_eq_none (by rw [List.length_reverse]; omega)]
    rfl
def tRevS (te : TE) : TE := fun σ H Q => te σ H fun x H1 => ∃ z, x = .str z ∧ z.length ≤ sizeLine ∧ Q (.str (revS z)) H1
theorem revT {σ : L2.St} {te : TE} {H : Hp} {Q : VK} (h : te σ H fun x H1 => ∃ z, x = .str z ∧ z.length ≤ sizeLine ∧ Q (.str (revS z)) H1) : tRevS te σ H Q := h
section
variable {X : Cx}
theorem pe_revS {e : Expr} {te : TE} {k : Nat} {p1 p2 p3 pos : Pos} (he : PE X e te) : PE X (.Subscript e (.Slice none none (some (.UnaryOp .USub (.Constant (.int 1) k p1) p2)) p3) pos) (tRevS te) := by
  refine ⟨fun pins s σ H Q I h => Subscript_ (thn (he.run pins s σ H _ I h) fun v s1 ⟨x, H1, I1, r1, z, ex, few, q⟩ => ?_)⟩
  subst ex
  obtain ⟨t, rfl⟩ := r1
  have minus : PO X (some (.UnaryOp .USub (.Constant (.int 1) k p1) p2)) (tPart (tUn (rU fun i => .int (-i)) (tC (.int 1)))) := po_some (pe_un un_neg pe_int)
  refine wpAny_Slice (thn (po_none.run pins s1 σ H1 (fun o H2 => o = none ∧ H2 = H1) I1 ⟨rfl, rfl⟩) fun vl s2 ⟨l, H2, I2, pl, el, e2⟩ => ?_)
  subst el e2
  refine thn (po_none.run pins s2 σ H2 (fun o H3 => o = none ∧ H3 = H2) I2 ⟨rfl, rfl⟩) fun vu s3 ⟨u, H3, I3, pu, eu, e3⟩ => ?_
  subst eu e3
  refine thn (minus.run pins s3 σ H3 (fun o H4 => o = some (-1) ∧ H4 = H3) I3 ⟨1, rfl, -1, rfl, rfl, rfl⟩) fun vs s4 ⟨o, H4, I4, ps, eo, e4⟩ => ?_
  subst eo e4
  have I5 : Inv X pins σ H4 { s4 with heap := s4.heap.push { cls := .type "slice", data := .fields #[vl, vu, vs] } } := I4.kept (t' := s4.toks) fun b ob q => Heap.get?_push_of_some _ q
  obtain ⟨a1, rfl, h1⟩ := IsPart.raw pl
  obtain ⟨a2, rfl, h2⟩ := IsPart.raw pu
  obtain ⟨a3, rfl, h3⟩ := IsPart.raw ps
  obtain rfl : a1 = none := Option.map_eq_none_iff.mp h1
  obtain rfl : a2 = none := Option.map_eq_none_iff.mp h2
  obtain ⟨⟨m, uk⟩, rfl, rfl⟩ := Option.map_eq_some_iff.mp h3
  refine tail_any (ops := [.ref s4.heap.objs.size, .str z t]) (typeIs_str _ _ _) PySem.F.slot_str_getitem.lookup (wpAny_getItem_str_slice (l := none) (u := none) (st := some (-1, uk)) ⟨_, Heap.get?_push_size _ rfl, rfl, rfl⟩ rfl (post_val_or_str ⟨?_, fun t' c => ?_⟩)) (by with_unfolding_all rfl)
  · show (Txt.sliceBy z none none (-1, uk)).length ≤ _
    rw [step_rev_len]
    exact few
  · show EP X pins σ Q (.str (Txt.sliceBy z none none (-1, uk)) t') _
    rw [rev_by]
    exact ⟨.str (revS z), H4, I5.tok _, ⟨_, rfl⟩, q⟩
end
end Re

/-! == and != of own objects by an own __eq__, either answer; the other may be anything. -/
namespace Ro
open PySem PySem.Spec PySem.W PyProof.Rows
section
variable {M : Model} {prog : Program} {w : World} {A : Around} {E : Value → Shared → Prop} {s : Shared} {K : Frag} {x C L f : Addr} {h₀ : Heap} {m : Str → Option Value} {ox : Obj} {od : Option Obj} {b tb : Value}
theorem entry_ne (X : K.In s.heap) (I : InstAt s.heap x ox C od) (hs : findIn K (.ref C) "__eq__" = some (some (.ref f))) (hf : isFn K (.ref f) = true) (hu : A.units < cLine) {Q : Fin → Shared → Prop}
    (hcall : wpAny (model prog w) A (call (.ref f) [.ref x, b]) (fun v s' => ∃ k, v = .bool k ∧ Q (.done (.ret (.bool (!k)))) s') E s) :
    wpAny (model prog w) A (Builtin.«object.__ne__» ⟨[.ref x, b], []⟩) Q E s := by
  unfold Builtin.«object.__ne__»
  repeat (first
    | with_reducible refine wpAny_cRoomFor hu ?_
    | (refine wpAny_bind (m := callSpecialIfBound? (.ref x) (Str.ofString "__eq__") [b])
        (ifBound_K X I hs hf (wpAny_mono hcall (fun r s' hr => by
          obtain ⟨b, rfl, hq⟩ := hr
          repeat (first | exact hq | exact wpAny_pure hq | exact wpAny_truthy_bool hq | (refine wpAny_bind (m := truthy (.bool _)) (wpAny_truthy_bool ?_)) | wp_step)) fun _ _ e => e)))
    | wp_step)
theorem ifBound_ne {args : List Value} {Q : Option Value → Shared → Prop} (X : K.In s.heap) (I : InstAt s.heap x ox C od) (hs : findIn K (.ref C) "__ne__" = some (some (.builtin "object.__ne__")))
    (h : wpAny M A (call (.builtin "object.__ne__") (.ref x :: args)) (fun v => Q (some v)) E s) : wpAny M A (callSpecialIfBound? (.ref x) "__ne__" args) Q E s := by
  simp only [callSpecialIfBound?, bindSpecialIfBound?]
  refine wpAny_holding (wpAny_bind (wpAny_bind (wpAny_bind (I.type.here ((looks_findIn X hs).here ?_)))))
  refine wpAny_bind (wpAny_askSetting (wpAny_ite ?_))
  have fin : wpAny M A (call (.builtin "object.__ne__") ([.ref x] ++ args) >>= fun v => pure (some v)) Q E s := wpAny_bind (wpAny_mono h (fun v s' h' => wpAny_pure h') fun _ _ h' => h')
  split
  · exact wpAny_bind (wpAny_of_eq (F.cmp_object.ne.bind _) (wpAny_pure (by exact fin)))
  · exact wpAny_tryCatch (wpAny_bind (wpAny_of_eq (F.cmp_object.ne.bind _) (wpAny_pure (by exact fin))))
theorem call_ne {Q : Value → Shared → Prop} (X : K.In s.heap) (I : InstAt s.heap x ox C od) (hm : mroIn K C (.type "object") = some true) (hs : findIn K (.ref C) "__eq__" = some (some (.ref f))) (hf : isFn K (.ref f) = true) (hu : A.units + 1 < cLine)
    (hcall : wpAny (model prog w) A.in1 (call (.ref f) [.ref x, b]) (fun v s' => ∃ k, v = .bool k ∧ Q (.bool (!k)) s') E s) :
    wpAny (model prog w) A (call (.builtin "object.__ne__") [.ref x, b]) Q E s :=
  wpAny_call (codeAny_call_builtin F.cmp_object.ne.plain F.cmpEntry_ne (check_slot F.cmpKind_ne F.cmpSplit_ne (I.type.andThen (looks_mroIn X hm)) (F.cmpArgs_ne _ _) (entry_ne (A := A.in1) X I hs hf hu (wpAny_mono hcall (fun v s' hv => hv) fun _ _ e => e))))
theorem ne_K {Q : Value → Shared → Prop} (hu : A.units + 1 < cLine) (X : K.In s.heap) (I : InstAt s.heap x ox C od) (hm : mroIn K C (.type "object") = some true) (hb : Looks (model prog w) s.heap (typeOf b) tb) (hn : notFirst K C tb = true)
    (hne : findIn K (.ref C) "__ne__" = some (some (.builtin "object.__ne__"))) (hs : findIn K (.ref C) "__eq__" = some (some (.ref f))) (hf : isFn K (.ref f) = true)
    (h : wpAny (model prog w) A.in1 (call (.ref f) [.ref x, b]) (fun v s' => ∃ k, v = .bool k ∧ Q (.bool (!k)) s') E s) : wpAny (model prog w) A (richCompare .NotEq (.ref x) b) Q E s := by
  have one : wpAny (model prog w) A (tryCompare (.ref x) "__ne__" b) (fun r s' => ∃ v, r = some v ∧ Q v s') E s := by
    unfold tryCompare
    refine wpAny_bind (ifBound_ne X I hne (call_ne X I hm hs hf hu (wpAny_mono h (fun v s' hv => ?_) fun _ _ e => e)))
    obtain ⟨k, rfl, q⟩ := hv
    exact ⟨k, rfl, wpAny_pure ⟨_, rfl, q⟩⟩
  unfold richCompare
  rw [cmpInfo_NotEq]
  simp only [oneThing_ref]
  refine wpAny_holding (wpAny_bind (wpAny_cRoomFor (Nat.lt_of_succ_lt hu) ?_))
  refine wpAny_bind (I.type.here (wpAny_bind (hb.here ?_)))
  split
  · rename_i q
    have e : subIn K tb (.ref C) = some false := by
      rcases Bool.or_eq_true_iff.mp hn with e | e
      · rw [beq_iff_eq.mp e] at q; simp at q
      · exact beq_iff_eq.mp e
    refine wpAny_bind ((looks_subIn X e).here ?_)
    simp only [Bool.false_eq_true, if_false]
    refine wpAny_bind (wpAny_mono one (fun r s' z => ?_) fun _ _ e => e)
    obtain ⟨v, rfl, hq⟩ := z
    exact wpAny_pure hq
  · refine wpAny_bind (wpAny_pure ?_)
    simp only [Bool.false_eq_true, if_false]
    refine wpAny_bind (wpAny_mono one (fun r s' z => ?_) fun _ _ e => e)
    obtain ⟨v, rfl, hq⟩ := z
    exact wpAny_pure hq
end
end Ro
namespace Ro
open PySem PySem.Spec PyProof.Rows L2 Rd
/-- what == and != ask of an own class with an own __eq__ at f -/
structure OwnE (K : PySem.W.Frag) (C f : Addr) : Prop where
  eq : PySem.W.findIn K (.ref C) "__eq__" = some (some (.ref f))
  fn : PySem.W.isFn K (.ref f) = true
  ne : PySem.W.findIn K (.ref C) "__ne__" = some (some (.builtin "object.__ne__"))
  hm : PySem.W.mroIn K C (.type "object") = some true
section
variable {X : Cx} {n : Nat} {CX : CXT} {C f : Addr} {fd : FuncData} {ps : List Str} {sp : Sp} {E : XK}
/-- own == of two instances of C -/
def rOE (C : Addr) (sp : Sp) (E : XK) (g : Bool → Bool) : R2 := fun x y H Q => ∃ a b dx dy fs gs, x = .ref a ∧ y = .ref b ∧ H a = some (.ins C dx fs) ∧ H b = some (.ins C dy gs) ∧ sp [x, y] H (fun v H' => ∃ k, v = .bl k ∧ Q (.bl (g k)) H') E
theorem run_eq {A : Around} (F : FnOk X.prog X.w X.K X.mg X.base CX n f fd ps sp) (hb : Binds X.K fd ps []) (hx : Passes CX X E) (hr : Room n A) (hfr : A.frames = X.A.frames)
    {pins : List (Addr × Obj)} {s : Shared} {σ : L2.St} {H : Hp} {x y : V} {v u : Value} {R : VK} (I : Inv X pins σ H s) (rx : RelV x v) (ry : RelV y u) (hsp : sp [x, y] H R E) :
    wpAny (model X.prog X.w) A (call (.ref f) [v, u]) (EP X pins σ R) X.xe s := by
  have e0 : Env0 X.prog X.w X.K X.mg X.base A X.stack s H := by
    have e := I.env0
    exact ⟨by rw [hfr]; exact e.frames, e.mod, e.bs, e.bsz, e.funs, e.frf, e.hok, e.bare⟩
  have hl := F.len _ _ _ _ hsp
  have r2 : Vals [x, y] [v, u] := .cons rx (.cons ry .nil)
  refine wpAny_call (codeAny_mono (F.run A X.stack s H ⟨[v, u], []⟩ [v, u] [x, y] _ E hr e0 (by
    have := hb s [v, u] I.kIn (by simpa using hl)
    simpa using this) r2 hsp) fun r s' hq => ?_)
  cases r with
  | error e => exact hx pins σ H s e s' I hq
  | ok fl =>
    cases fl with
    | ret w => exact I.after hq
    | next => exact False.elim hq
    | brk => exact False.elim hq
    | cont => exact False.elim hq
theorem op_oe (O : OwnE X.K C f) (F : FnOk X.prog X.w X.K X.mg X.base CX n f fd ps sp) (hb : Binds X.K fd ps []) (hx : Passes CX X E) (hr : Room n X.A) : OpR X (compareOp .Eq) (rOE C sp E id) := by
  intro pins s σ H x y v u Q I rx ry hq
  obtain ⟨a, b, dx, dy, fs, gs, rfl, rfl, ha, hb', hsp⟩ := hq
  cases rx
  cases ry
  obtain ⟨mA, J, _⟩ := ins_get I.hok ha
  obtain ⟨mB, J', _⟩ := ins_get I.hok hb'
  obtain ⟨od, J, _⟩ := J.look
  obtain ⟨od', J', _⟩ := J'.look
  obtain ⟨m, hF⟩ := I.fr
  refine PySem.W.cmp_K (op := .Eq) (tb := .ref C) hr.units0 hF I.ok.mod.kin J J'.type (by simp [PySem.W.notFirst]) O.eq O.fn ?_
  refine wpAny_mono (run_eq F hb hx hr rfl I (x := .ref a) (y := .ref b) rfl rfl hsp) (fun r s' z => ?_) fun _ _ e => e
  obtain ⟨z, H', I', rz, k, ez, q⟩ := z
  subst ez
  cases rz
  exact ⟨.bl k, H', I', rfl, q⟩
theorem op_one (O : OwnE X.K C f) (F : FnOk X.prog X.w X.K X.mg X.base CX n f fd ps sp) (hb : Binds X.K fd ps []) (hx : Passes CX X E) (hr : Room (n + 1) X.A) : OpR X (compareOp .NotEq) (rOE C sp E not) := by
  intro pins s σ H x y v u Q I rx ry hq
  obtain ⟨a, b, dx, dy, fs, gs, rfl, rfl, ha, hb', hsp⟩ := hq
  cases rx
  cases ry
  obtain ⟨mA, J, _⟩ := ins_get I.hok ha
  obtain ⟨mB, J', _⟩ := ins_get I.hok hb'
  obtain ⟨od, J, _⟩ := J.look
  obtain ⟨od', J', _⟩ := J'.look
  refine ne_K (tb := .ref C) hr.in1.units0 I.kIn J O.hm J'.type (by simp [PySem.W.notFirst]) O.ne O.eq O.fn ?_
  refine wpAny_mono (run_eq F hb hx hr.in1 rfl I (x := .ref a) (y := .ref b) rfl rfl hsp) (fun r s' z => ?_) fun _ _ e => e
  obtain ⟨z, H', I', rz, k, ez, q⟩ := z
  subst ez
  cases rz
  exact ⟨k, rfl, .bl (!k), H', I', rfl, q⟩
/-- one of two ways to compare -/
theorem op_or {g : Value → Value → Sem Value} {r r' : R2} (a : OpR X g r) (b : OpR X g r') : OpR X g (fun x y H Q => r x y H Q ∨ r' x y H Q) := fun pins s σ H x y v u Q I rx ry h => h.elim (a pins s σ H x y v u Q I rx ry) (b pins s σ H x y v u Q I rx ry)
theorem oe {C a b dx dy : Addr} {fs gs : List (Str × V)} {H : Hp} {g : Bool → Bool} {Q : VK} (ha : H a = some (.ins C dx fs)) (hb : H b = some (.ins C dy gs)) (h : sp [.ref a, .ref b] H (fun v H' => ∃ k, v = .bl k ∧ Q (.bl (g k)) H') E) : rOE C sp E g (.ref a) (.ref b) H Q :=
  ⟨a, b, dx, dy, fs, gs, rfl, rfl, ha, hb, h⟩
end
end Ro

/-! == of an own object and something else, either side. -/
namespace Rp
open PySem PySem.Spec PySem.W PyProof.Rows
open AutoSeq1 (wpAny_loadPart')
section
variable {prog : Program} {w : World} {A : Around} {E : Value → Shared → Prop} {s : Shared} {K : Frag} {x C dx f : Addr} {Q : Option Value → Shared → Prop}
theorem int_body {i : Int} {t : Tok} {R : Fin → Shared → Prop} (hx : s.heap.get? x = some (instObj C dx)) (h : R (.done (.ret .notImplemented)) s) : wpAny (model prog w) A (Builtin.«int.__eq__» ⟨[.int i t, .ref x], []⟩) R E s := by
  obtain ⟨hp, g, d, tk, os⟩ := s
  wp_walk using wpAny_loadPart' hx
  exact h
theorem bool_body {i : Bool} {R : Fin → Shared → Prop} (hx : s.heap.get? x = some (instObj C dx)) (h : R (.done (.ret .notImplemented)) s) : wpAny (model prog w) A (Builtin.«int.__eq__» ⟨[.bool i, .ref x], []⟩) R E s := by
  obtain ⟨hp, g, d, tk, os⟩ := s
  wp_walk using wpAny_loadPart' hx
  exact h
theorem str_body {i : Str} {t : Tok} {R : Fin → Shared → Prop} (hx : s.heap.get? x = some (instObj C dx)) (h : R (.done (.ret .notImplemented)) s) : wpAny (model prog w) A (Builtin.«str.__eq__» ⟨[.str i t, .ref x], []⟩) R E s := by
  obtain ⟨hp, g, d, tk, os⟩ := s
  wp_walk using wpAny_loadPart' hx
  exact h
theorem none_body {R : Fin → Shared → Prop} (h : R (.done (.ret .notImplemented)) s) : wpAny (model prog w) A (Builtin.«NoneType.__eq__» ⟨[.none, .ref x], []⟩) R E s := by
  obtain ⟨hp, g, d, tk, os⟩ := s
  wp_walk
  exact h
theorem list_body {l : Addr} {R : Fin → Shared → Prop} (X : K.In s.heap) (hm : mroIn K C (.type "list") = some false) (hx : s.heap.get? x = some (instObj C dx)) (h : R (.done (.ret .notImplemented)) s) : wpAny (model prog w) A (Builtin.«list.__eq__» ⟨[.ref l, .ref x], []⟩) R E s := by
  obtain ⟨hp, g, d, tk, os⟩ := s
  wp_walk using wpAny_loadPart' hx
  refine (looks_mroIn X hm).here ?_
  wp_walk
  exact h
/-- the built-in on the left declines -/
theorem declines {v : Value} {T id : String} {B : Builtin} (slot : Slot T (cmpInfo .Eq).2.1 id) (hT : s.TypeIs v T) (entry : entryFor table id = some B) (args : argsOk id ⟨[v, .ref x], []⟩) (hb : ∀ R : Fin → Shared → Prop, R (.done (.ret .notImplemented)) s → ∀ E, wpAny (model prog w) A.in1 (B ⟨[v, .ref x], []⟩) R E s) (hq : Q none s) :
    wpAny (model prog w) A (tryCompare v "__eq__" (.ref x)) Q E s :=
  wpAny_tryCompare_declines hT slot (GQ.call_here slot hT entry args (hb _ ⟨rfl, hq⟩ _))
theorem rc {v : Value} {T : String} {od : Option Obj} {R : Value → Shared → Prop} (hu : A.units < cLine) (X : K.In s.heap) (I : InstAt s.heap x (instObj C dx) C od) (hT : s.TypeIs v T) (hot : oneThing? .Eq v (.ref x) = none) (hm : mroIn K C (.type T) = some false) (hs : findIn K (.ref C) "__eq__" = some (some (.ref f))) (hf : isFn K (.ref f) = true)
    (hd : ∀ Q : Option Value → Shared → Prop, Q none s → wpAny (model prog w) A (tryCompare v "__eq__" (.ref x)) Q E s)
    (h : wpAny (model prog w) A (call (.ref f) [.ref x, v]) (PySem.W.CmpBack R) E s) : wpAny (model prog w) A (richCompare .Eq v (.ref x)) R E s := by
  have one : wpAny (model prog w) A (tryCompare (.ref x) "__eq__" v) (fun r s' => ∃ z, r = some z ∧ R z s') E s := by
    unfold tryCompare
    refine wpAny_bind (ifBound_K X I hs hf (wpAny_mono h (fun z s' hz => ?_) fun _ _ e => e))
    cases z <;> first | exact hz.elim | exact wpAny_pure ⟨_, rfl, hz⟩
  simp only [richCompare, cmpInfo_Eq, hot]
  refine wpAny_holding (wpAny_bind (wpAny_cRoomFor hu ?_))
  refine wpAny_bind (wpAny_typeOf hT (wpAny_bind (I.type.here ?_)))
  split
  · refine wpAny_bind ((looks_mroIn X hm).here ?_)
    simp only [Bool.false_eq_true, if_false, Bool.not_false, if_true]
    refine wpAny_bind (hd _ ?_)
    refine wpAny_bind (wpAny_mono one (fun r s' z => ?_) fun _ _ e => e)
    obtain ⟨v, rfl, hq⟩ := z
    exact wpAny_pure hq
  · rename_i q
    exact absurd (by simp) q
end
end Rp
namespace Rp
open PySem PySem.Spec PyProof.Rows L2 Rd
/-- an own class is none of these built-in ones -/
structure Fgn (K : PySem.W.Frag) (C : Addr) : Prop where
  non : PySem.W.mroIn K C (.type "NoneType") = some false
  int : PySem.W.mroIn K C (.type "int") = some false
  bl : PySem.W.mroIn K C (.type "bool") = some false
  str : PySem.W.mroIn K C (.type "str") = some false
  lst : PySem.W.mroIn K C (.type "list") = some false
/-- None, a number, a flag, a text, a list -/
def Bi (K : PySem.W.Frag) (H : Hp) (x : V) : Prop := x = .non ∨ (∃ i, x = .int i) ∨ (∃ z, x = .bl z) ∨ (∃ z, x = .str z) ∨ ∃ a xs, x = .ref a ∧ SqL K H a xs
section
variable {X : Cx} {n : Nat} {CX : CXT} {C f : Addr} {fd : FuncData} {ps : List Str} {sp : Sp} {E : XK}
/-- such a thing on the left, an instance of C on the right -/
def rXO (K : PySem.W.Frag) (C : Addr) (sp : Sp) (E : XK) : R2 := fun x y H Q => ∃ b dy gs, y = .ref b ∧ H b = some (.ins C dy gs) ∧ Bi K H x ∧ sp [y, x] H (fun v H' => ∃ k, v = .bl k ∧ Q (.bl k) H') E
theorem op_xo (O : Ro.OwnE X.K C f) (G : Fgn X.K C) (F : FnOk X.prog X.w X.K X.mg X.base CX n f fd ps sp) (hb : Binds X.K fd ps []) (hx : Passes CX X E) (hr : Room n X.A) : OpR X (compareOp .Eq) (rXO X.K C sp E) := by
  intro pins s σ H x y v u Q I rx ry hq
  obtain ⟨b, dy, gs, rfl, hb', bi, hsp⟩ := hq
  cases ry
  have hob := (show ObjOk X.prog X.w H s.heap b (.ins C dy gs) from I.hok b _ hb').2.2.2.1
  obtain ⟨mB, J, _⟩ := ins_get I.hok hb'
  obtain ⟨od, J, _⟩ := J.look
  have fin : ∀ {v : Value}, RelV x v → wpAny (model X.prog X.w) X.A (call (.ref f) [.ref b, v]) (PySem.W.CmpBack (EP X pins σ Q)) X.xe s := fun rv =>
    wpAny_mono (Ro.run_eq F hb hx hr rfl I (x := .ref b) rfl rv hsp) (fun r s' z => by
      obtain ⟨z, H', I', rz, k, ez, q⟩ := z
      subst ez
      cases rz
      exact ⟨.bl k, H', I', rfl, q⟩) fun _ _ e => e
  rcases bi with rfl | ⟨i, rfl⟩ | ⟨i, rfl⟩ | ⟨i, rfl⟩ | ⟨a, xs, rfl, ha⟩
  · cases rx
    exact rc hr.units0 I.kIn J (T := "NoneType") rfl rfl G.non O.eq O.fn (fun Q q => declines PySem.F.slot_NoneType_eq rfl PySem.F.entry_NoneType_eq (PySem.F.args_NoneType_eq_2 _ _) (fun R h E => none_body h) q) (fin rfl)
  · obtain ⟨t, rfl⟩ := id rx
    exact rc hr.units0 I.kIn J (T := "int") rfl rfl G.int O.eq O.fn (fun Q q => declines PySem.F.slot_int_eq rfl PySem.F.entry_int_eq (PySem.F.args_int_eq_2 _ _) (fun R h E => int_body hob h) q) (fin rx)
  · cases rx
    exact rc hr.units0 I.kIn J (T := "bool") rfl rfl G.bl O.eq O.fn (fun Q q => declines PySem.F.slot_bool_eq rfl PySem.F.entry_int_eq (PySem.F.args_int_eq_2 _ _) (fun R h E => bool_body hob h) q) (fin rfl)
  · obtain ⟨t, rfl⟩ := id rx
    exact rc hr.units0 I.kIn J (T := "str") rfl rfl G.str O.eq O.fn (fun Q q => declines PySem.F.slot_str_eq rfl PySem.F.entry_str_eq (PySem.F.args_str_eq_2 _ _) (fun R h E => str_body hob h) q) (fin rx)
  · cases rx
    obtain ⟨its, rv, hl, hz⟩ := I.list ha
    have hT : s.TypeIs (.ref a) "list" := let ⟨o, _, e, c, _⟩ := hl; ⟨o, e, c⟩
    exact rc hr.units0 I.kIn J (T := "list") hT rfl G.lst O.eq O.fn (fun Q q => declines PySem.F.slot_list_eq hT PySem.F.entry_list_eq (PySem.F.args_list_eq_2 _ _) (fun R h E => list_body I.kIn G.lst hob h) q) (fin rfl)
/-- an instance of C on the left, something of the type t on the right -/
def rOX (K : PySem.W.Frag) (C : Addr) (sp : Sp) (E : XK) : R2 := fun x y H Q => ∃ a dx fs t, x = .ref a ∧ H a = some (.ins C dx fs) ∧ TyX K H y t ∧ PySem.W.notFirst K C t = true ∧ sp [x, y] H (fun v H' => ∃ k, v = .bl k ∧ Q (.bl k) H') E
theorem op_oxE (oe : PySem.W.findIn X.K (.ref C) "__eq__" = some (some (.ref f))) (of : PySem.W.isFn X.K (.ref f) = true) (F : FnOk X.prog X.w X.K X.mg X.base CX n f fd ps sp) (hb : Binds X.K fd ps []) (hx : Passes CX X E) (hr : Room n X.A) : OpR X (compareOp .Eq) (rOX X.K C sp E) := by
  intro pins s σ H x y v u Q I rx ry hq
  obtain ⟨a, dx, fs, t, rfl, ha, ty, nf, hsp⟩ := hq
  cases rx
  obtain ⟨mA, J, _⟩ := ins_get I.hok ha
  obtain ⟨od, J, _⟩ := J.look
  obtain ⟨m, hF⟩ := I.fr
  obtain ⟨P, kx, hP, _⟩ := kit_of I ry ty
  refine PySem.W.cmp_K (op := .Eq) (tb := t) hr.units0 hF I.ok.mod.kin J (kx.ty _ _ I.kIn hP) nf oe of ?_
  refine wpAny_mono (Ro.run_eq F hb hx hr rfl I (x := .ref a) rfl ry hsp) (fun r s' z => ?_) fun _ _ e => e
  obtain ⟨z, H', I', rz, k, ez, q⟩ := z
  subst ez
  cases rz
  exact ⟨.bl k, H', I', rfl, q⟩
theorem op_ox (O : Ro.OwnE X.K C f) (F : FnOk X.prog X.w X.K X.mg X.base CX n f fd ps sp) (hb : Binds X.K fd ps []) (hx : Passes CX X E) (hr : Room n X.A) : OpR X (compareOp .Eq) (rOX X.K C sp E) := op_oxE O.eq O.fn F hb hx hr
/-- isinstance of a built-in kind and an own class -/
theorem kitB_own {K : PySem.W.Frag} {T : String} (i : PySem.W.isClsIn K C = true) (t : PySem.W.typeIn K (.ref C) = some (.type "type")) (h : ((fastBuiltinMro T).map fun l => l.contains (Value.ref C)) = some false) : PySem.W.kitOne K (.type T) (.ref C) = some false := by
  show (if (Value.type T == Value.ref C) = true then some true else if ((PySem.W.clsIn K C).isSome && PySem.W.typeIn K (.ref C) == some (.type "type")) = true then PySem.W.subIn K (.type T) (.ref C) else none) = some false
  rw [if_neg (by simp), if_pos (by rw [t, show (PySem.W.clsIn K C).isSome = true from i]; simp)]
  exact h
theorem kitO_own {K : PySem.W.Frag} {D : Addr} {r : Bool} (i : PySem.W.isClsIn K C = true) (t : PySem.W.typeIn K (.ref C) = some (.type "type")) (h : PySem.W.subIn K (.ref D) (.ref C) = some r) (ne : (Value.ref D == Value.ref C) = false) : PySem.W.kitOne K (.ref D) (.ref C) = some r := by
  show (if (Value.ref D == Value.ref C) = true then some true else if ((PySem.W.clsIn K C).isSome && PySem.W.typeIn K (.ref C) == some (.type "type")) = true then PySem.W.subIn K (.ref D) (.ref C) else none) = some r
  rw [if_neg (by rw [ne]; simp), if_pos (by rw [t, show (PySem.W.clsIn K C).isSome = true from i]; simp)]
  exact h
theorem notFirst_own {K : PySem.W.Frag} {D : Addr} (h : PySem.W.subIn K (.ref D) (.ref C) = some false) : PySem.W.notFirst K C (.ref D) = true := by
  unfold PySem.W.notFirst
  rw [h]
  simp
end
theorem bi_notFirst {K : PySem.W.Frag} {C : Addr} {T : String} (h : ((fastBuiltinMro T).map fun l => l.contains (Value.ref C)) = some false) : PySem.W.notFirst K C (.type T) = true := by
  unfold PySem.W.notFirst
  rw [show PySem.W.subIn K (.type T) (.ref C) = some false from h]
  simp
end Rp

/-! {(a, b): v, ..}: a dict written out whose keys are tuples. -/
namespace Ry
open PySem PySem.Spec PyProof.Rows L2 Rd
section
variable {X : Cx} {pins : List (Addr × Obj)} {σ : L2.St} {H : Hp} {s : Shared} {a : Addr} {A : Around} {E : Value → Shared → Prop}
/-- d[y] = v by the dict's own store, y a tuple -/
theorem dset {kvs : List (List Key × V)} {k : List Key} {b : Addr} {v : V} {r : Value} {Q : Unit → Shared → Prop} (hu : A.units + 1 < cLine) (I : Inv X pins σ H s) (e : H a = some (.dT kvs)) (eb : H b = some (.tup (k.map kV))) (l : kvs.length < sizeLine) (rv : L2.RelV v r)
    (h : ∀ s', Inv X pins σ (upd H a (.dT (putK kvs k v))) s' → Q () s') : wpAny (model X.prog X.w) A (dictSet a (.ref b) r) Q E s := by
  obtain ⟨z, hd, xs, rel, dd⟩ := dt_of I.hok e
  have hz : xs.length ≤ sizeLine := by rw [← Paired.length rel]; exact z
  have hl : (putK kvs k v).length ≤ sizeLine := by have := length_putK kvs k v; omega
  refine wpAny_dictSet_heap (hsz := hz) (show A.units < cLine by omega) (key_of I.hok eb) dd fun h' dd' hs => h _ ?_
  obtain ⟨q, es, ep, hq, h2, h3, h4, _, h5⟩ := dd'
  refine d_write I (by rw [e]; exact True.intro) hs ⟨q, hq⟩ ⟨hl, hd, _, (rel.put k eb rv).keeps fun c ys ec => ?_, q, es, ep, hq, h2, h3, h4, h5⟩
  rw [upd_ne (ne_of ec e (fun z => nomatch z))]
  exact ec
/-- what a display puts down, pair by pair -/
def putAll (kvs more : List (List Key × V)) : List (List Key × V) := more.foldl (fun acc kv => putK acc kv.1 kv.2) kvs
theorem putAll_len : ∀ (more kvs : List (List Key × V)), (putAll kvs more).length ≤ kvs.length + more.length
  | [], kvs => by show kvs.length ≤ kvs.length + 0; omega
  | p :: r, kvs => by
    have h1 := putAll_len r (putK kvs p.1 p.2)
    have h2 := length_putK kvs p.1 p.2
    show (putAll (putK kvs p.1 p.2) r).length ≤ _
    rw [List.length_cons]; omega
/-- the pairs (a tuple's address, a value) with the tuples' keys -/
def KeyAt (H : Hp) (p : V × V) (kv : List Key × V) : Prop := ∃ b, p.1 = .ref b ∧ H b = some (.tup (kv.1.map kV)) ∧ p.2 = kv.2
theorem dsets {a : Addr} : ∀ (more : List (List Key × V)) {ps : List (V × V)} {vs : List (Value × Value)} {kvs : List (List Key × V)} {H : Hp} {s : Shared} {Q : PUnit → Shared → Prop}, A.units + 1 < cLine → Inv X pins σ H s → H a = some (.dT kvs) → VV ps vs → Paired (KeyAt H) ps more →
    kvs.length + more.length ≤ 1000 → (∀ s', Inv X pins σ (upd H a (.dT (putAll kvs more))) s' → Q PUnit.unit s') →
    wpAny (model X.prog X.w) A (forIn vs PUnit.unit fun (x : Value × Value) (_ : PUnit) => (do dictSet a x.1 x.2; pure (ForInStep.yield PUnit.unit) : Sem (ForInStep PUnit))) Q E s
  | [], ps, vs, kvs, H, s, Q, hu, I, e, r, p, hl, h => by
    cases p
    cases r
    rw [List.forIn_nil]
    refine wpAny_pure (h s ?_)
    have : upd H a (.dT (putAll kvs [])) = H := by
      funext b
      by_cases c : b = a
      · rw [c, upd_same, e]; rfl
      · rw [upd_ne c]
    rw [this]
    exact I
  | kv :: more, ps, vs, kvs, H, s, Q, hu, I, e, r, p, hl, h => by
    cases p with
    | @cons q _ ps' _ k p' =>
      cases r with
      | @cons _ u _ us ru r' =>
        obtain ⟨b, e1, e2, e3⟩ := k
        obtain ⟨ku, vu⟩ := u
        have ra : L2.RelV (.ref b) ku := by rw [← e1]; exact ru.1
        cases (show ku = Value.ref b from ra)
        have rv : L2.RelV kv.2 vu := by rw [← e3]; exact ru.2
        rw [List.length_cons] at hl
        rw [List.forIn_cons]
        refine wpAny_bind (wpAny_bind (dset hu I e e2 (by rw [sizeLine_eq]; omega) rv fun s1 I1 => wpAny_pure ?_))
        have keep : ∀ {ps : List (V × V)} {more : List (List Key × V)}, Paired (KeyAt H) ps more → Paired (KeyAt (upd H a (.dT (putK kvs kv.1 kv.2)))) ps more := fun x => by
          induction x with
          | nil => exact .nil
          | cons z _ ih =>
            obtain ⟨b, e1, e2, e3⟩ := z
            exact .cons ⟨b, e1, by rw [upd_ne (ne_of e2 e (fun z => nomatch z))]; exact e2, e3⟩ ih
        refine dsets more hu I1 upd_same r' (keep p') (by have := length_putK kvs kv.1 kv.2; omega) fun s2 I2 => h s2 ?_
        rw [upd_upd] at I2
        exact I2
end
/-- {k: v, ..}, the keys tuples of ints and texts; the new dict stands empty while the pairs are made -/
def tDispT (trs : List (TE × TE)) : TE := fun σ H Q => ∀ p, H p = none → tPairs trs σ (upd H p (.dT [])) fun ps H2 => H2 p = some (.dT []) ∧ ∃ kvs : List (List Key × V), Paired (KeyAt H2) ps kvs ∧ kvs.length ≤ 15 ∧ Q (.ref p) (upd H2 p (.dT (putAll [] kvs)))
theorem pe_dispT {X : Cx} {pos : Pos} {keys : List (Option Expr)} {values : List Expr} {trs : List (TE × TE)} (hu : X.A.units + 1 < cLine) (h : PPs X pos keys values trs) (hall : keys.all (·.isSome) = true) (hl : keys.length = values.length) (h0 : keys ≠ [])
    (h15 : keys.length ≤ 15) : PE X (.Dict keys values pos) (tDispT trs) := by
  refine ⟨fun pins s σ H Q I q => ?_⟩
  have hn := I.hok.fresh (Nat.le_refl s.heap.objs.size)
  have I1 := I.laid (a := s.heap.objs.size) (o := .dT []) (h' := s.heap.push { cls := .type "dict", data := .dict #[] }) (t' := s.toks) (fun _ _ q => Heap.get?_push_of_some _ q) (Nat.le_refl _) (dt_empty s.heap I.big)
  have hp := pairTrees_length keys values X.env pos hall hl
  have hne : pairTrees keys values X.env pos ≠ [] := fun c => by
    rw [c] at hp
    exact h0 (List.length_eq_zero_iff.mp hp.symm)
  rw [arm_eval_Dict, zip_pairTrees keys values X.env pos hall hl, dictDisplay_pairs _ hne (by omega)]
  refine wpAny_bind (wpAny_standAt (wpAny_bind ?_))
  unfold subDict
  refine wpAny_bind (wpAny_alloc ?_)
  refine wpAny_bind (wpAny_holding ?_)
  rw [if_pos (by omega)]
  refine wpAny_bind (thn (h.run pins _ σ _ _ I1 (q _ hn)) fun ws s2 ⟨ps, H2, I2, rel, e, kvs, pr, lk, q2⟩ => ?_)
  refine wpAny_holding (wpAny_bind (dsets kvs hu I2 e rel pr (by rw [List.length_nil]; omega) fun s3 I3 => wpAny_pure (wpAny_pure (wpAny_pure ⟨.ref s.heap.objs.size, _, I3, rfl, q2⟩))))
theorem dispT {trs : List (TE × TE)} {σ : L2.St} {H : Hp} {Q : VK} (h : ∀ (p : Addr) (G : Hp), H p = none → G p = some (.dT []) → Same H G → tPairs trs σ G fun ps H2 => H2 p = some (.dT []) ∧ ∃ kvs : List (List Key × V), Paired (KeyAt H2) ps kvs ∧ kvs.length ≤ 15 ∧
    ∀ G2 : Hp, G2 p = some (.dT (putAll [] kvs)) → (∀ b, b ≠ p → G2 b = H2 b) → Q (.ref p) G2) : tDispT trs σ H Q := fun p hp => by
  have key := h p _ hp upd_same (same_upd hp)
  have mono : ∀ {trs : List (TE × TE)} {σ : L2.St} {H : Hp} {A B : List (V × V) → Hp → Prop}, A = B → tPairs trs σ H A → tPairs trs σ H B := fun e h => e ▸ h
  refine mono ?_ key
  funext ps H2
  refine propext ⟨fun ⟨a, kvs, b, c, d⟩ => ⟨a, kvs, b, c, d _ upd_same fun b hb => upd_ne hb⟩, fun ⟨a, kvs, b, c, d⟩ => ⟨a, kvs, b, c, fun G2 g off => ?_⟩⟩
  have e : G2 = upd H2 p (.dT (putAll [] kvs)) := by
    funext x
    by_cases q : x = p
    · rw [q, g, upd_same]
    · rw [off x q, upd_ne q]
  rw [e]
  exact d
/-- what a comprehension within a comprehension walks -/
theorem pi_listK {X : Cx} {K : PySem.W.Frag} {tg l : Expr} {tl : TE} (e : X.K = K) (hl : PE X l tl) : PI X tg l (iList K tl) := e ▸ pi_list hl
theorem pi_tupK {X : Cx} {K : PySem.W.Frag} {tg l : Expr} {tl : TE} (e : X.K = K) (hl : PE X l tl) : PI X tg l (iTup K tl) := e ▸ pi_tup hl
/-- a join within a comprehension -/
def joinR (K : PySem.W.Frag) : V → List V → Hp → VK → Prop := fun x xs H Q => ∃ a p, ∃ ys : List Str, x = .str a ∧ xs = [.ref p] ∧ (SqL K H p (ys.map V.str) ∨ SqT K H p (ys.map V.str)) ∧
      (ys.map (·.length)).sum + ys.length * a.length ≤ 16777216 ∧ Q (.str (Txt.join a ys)) H
theorem pe_joinK {X : Cx} {o e : Expr} {to te : TE} {apos pos : Pos} (ho : PE X o to) (he : PE X e te) (hs : starEach [e] X.env = [(false, eval e X.env)] := by rfl) (hbase : attributeBase o "join" X.env (eval o X.env) = eval o X.env := by rfl) (hline : (apos.endLine == pos.line) = true := by rfl) :
    PE X (.Call (.Attribute o "join" apos) [e] [] pos) (tM1 (joinR X.K) to te) := pe_join ho he hs hbase hline
theorem joinS {K : PySem.W.Frag} {H : Hp} {a : Str} {p : Addr} {ys : List Str} {Q : VK} (hp : SqL K H p (ys.map V.str) ∨ SqT K H p (ys.map V.str)) (hz : (ys.map (·.length)).sum + ys.length * a.length ≤ 16777216) (h : Q (.str (Txt.join a ys)) H) : joinR K (.str a) [.ref p] H Q := ⟨a, p, ys, rfl, rfl, hp, hz, h⟩
/-- dict(xs) of a list of pairs -/
def rDictP (K : PySem.W.Frag) : List V → Hp → VK → Prop := fun xs H Q => ∃ (a : Addr) (ps : List Addr) (kvs : List (Key × V)), xs = [.ref a] ∧ SqL K H a (ps.map V.ref) ∧ Paired (fun p kv => SqT K H p [kV kv.1, kv.2]) ps kvs ∧ ∀ p, H p = none → Q (.ref p) (upd H p (.dK (mergeK [] kvs)))
theorem c_dictP {X : Cx} (h : X.calm = true) : CallR X (.type "dict") (rDictP X.K) := call_dictP h
theorem dictP {K : PySem.W.Frag} {H : Hp} {a : Addr} {ps : List Addr} {kvs : List (Key × V)} {Q : VK} (h : SqL K H a (ps.map V.ref)) (hp : Paired (fun p kv => SqT K H p [kV kv.1, kv.2]) ps kvs) (q : ∀ (p : Addr) (G : Hp), H p = none → G p = some (.dK (mergeK [] kvs)) → Same H G → Q (.ref p) G) : rDictP K [.ref a] H Q :=
  ⟨a, ps, kvs, rfl, h, hp, fun p hp => q p _ hp upd_same (same_upd hp)⟩
end Ry

/-! Defs of which it is known that no repr is under way; repr of data. -/
namespace Rg
open PySem PySem.Spec PyProof.Rows L2
/-- the promise of a def, for the frames that stand in no repr -/
structure FnG (P : Program) (w : World) (K : PySem.W.Frag) (mg : Str → Option Value) (base : Heap) (CX : CXT) (k : Nat) (f : Addr) (fd : FuncData) (ps : List Str) (sp : Sp) : Prop where
  len : ∀ vs H Q E, sp vs H Q E → vs.length = ps.length
  run : ∀ (A : Around) (st : List Env) (s : Shared) (H : Hp) (ag : Args) (us : List Value) (vs : List V) (Q : VK) (E : XK), A.guards = some [] → Room k A → Env0 P w K mg base A st s H → BindsTo s fd ag (ps.zip us) → Vals vs us → sp vs H Q E →
    codeAny (model P w) A (.call (.ref f) ag) (CR CX st P w H s Q E) s
section
variable {P : Program} {w : World} {K : PySem.W.Frag} {mg : Str → Option Value} {base : Heap} {CX : CXT}
theorem FnG.mono {j k : Nat} {f : Addr} {fd : FuncData} {ps : List Str} {sp : Sp} (F : FnG P w K mg base CX j f fd ps sp) (h : j ≤ k) : FnG P w K mg base CX k f fd ps sp := ⟨F.len, fun A st s H ag us vs Q E g hr => F.run A st s H ag us vs Q E g (hr.mono h)⟩
theorem fnG_of {k : Nat} {f : Addr} {nm qual : Str} {pa : Arguments} {body : List Stmt} {sc : Scope} {dV kV doc pm cdv ct oc : Value} {an od : Option Addr} {osl : Array (Option Value)} {N ps : List Str} {sp : Sp}
    (lk : K.lookup f = some ⟨oc, od, .func (PySem.W.fnOf nm qual pa body sc dV kV doc pm an cdv ct), osl⟩) (hcd : PySem.W.codeIn K cdv qual = true) (S : FnScope N ps sc) (len : ∀ vs H Q E, sp vs H Q E → vs.length = ps.length)
    (hb : ∀ (A : Around) (st : List Env) (s : Shared) (H : Hp) (vs : List V) (Q : VK) (E : XK), A.guards = some [] → Room k (A.deeper (envOfC qual sc s.heap.objs.size f cdv)) → sp vs H Q E → ∃ t, PSs (cxOf CX P w K mg base N qual sc f cdv A st s H E) body t ∧ t { nx := fun _ H' => Q .non H', rt := Q } (start N vs) H) :
    FnG P w K mg base CX (k + 1) f (PySem.W.fnOf nm qual pa body sc dV kV doc pm an cdv ct) ps sp := by
  refine ⟨len, fun A st s H ag us vs Q E g hr e0 hbd r hsp => ?_⟩
  have KX : K.In s.heap := e0.mod.kin.keeps fun x o e => (e0.bs x o e).1
  have kinds : ∀ y ∈ ps.zip us, sc.names.lookup y.1 = some .local ∨ (sc.names.lookup y.1 = some .cell ∧ ((cellsFrom (s.heap.objs.size + 1) sc.names []).lookup y.1).isSome = true) := fun y hy =>
    (S.par y.1 (List.of_mem_zip hy).1).imp id fun q => ⟨q, PySem.W.cellsFrom_some _ _ _ (.inl q)⟩
  refine codeAny_call_function hr.depth (KX _ _ lk) rfl S.co S.gen rfl (PySem.W.codeRec_of KX hcd) (hbd _ _ _ _ (wpAny_newFunctionEnv_cells S.kind kinds fun env he s1 x => ?_))
  subst he
  refine ⟨(e0.mod.nolimit.keeps fun y o e => (e0.bs y o e).1).keeps x.toInCall.keep, codeAny_func ?_⟩
  obtain ⟨t, ht, hq⟩ := hb A st s H vs Q E g (hr.deeper _) hsp
  refine wpAny_mono (ht.run [] s1 (start N vs) H _ (inv_start S hr.hd e0 (len _ _ _ _ hsp) r x) hq) (fun fl s' hs => ?_) fun _ _ z => z
  cases fl with
  | ret u => exact let ⟨v, _, H', J, rv, q⟩ := hs; ⟨v, H', J.os, J.bare, J.base, J.hok, rv, q⟩
  | next => exact let ⟨_, H', J, q⟩ := hs; ⟨V.non, H', J.os, J.bare, J.base, J.hok, rfl, q⟩
  | brk => exact let ⟨_, _, _, q⟩ := hs; q.elim
  | cont => exact let ⟨_, _, _, q⟩ := hs; q.elim
end
section
variable {P : Program} {w : World} {K : PySem.W.Frag} {mg : Str → Option Value} {base : Heap}
/-- a def by its body, no repr under way -/
theorem okG {x qual : Str} {st : Stmt} {f : Addr} {fd : FuncData} {N ps : List Str} {k : Nat} {sp : Sp} (F : Fun K x qual st f fd) (S : FnScope N ps (defScope st)) (len : ∀ vs H Q E, sp vs H Q E → vs.length = ps.length)
    (hb : ∀ (cdv : Value) (A : Around) (out : List Env) (s : Shared) (H : Hp) (vs : List V) (Q : VK) (E : XK), A.guards = some [] → Room k (A.deeper (envOfC qual (defScope st) s.heap.objs.size f cdv)) → sp vs H Q E →
      ∃ t, PSs (cxOf CX0 P w K mg base N qual (defScope st) f cdv A out s H E).nox (defBody st) t ∧ t { nx := fun _ H' => Q .non H', rt := Q } (start N vs) H) : FnG P w K mg base CX0 (k + 1) f fd ps sp := by
  obtain ⟨_, _, _, _, _, _, cdv, _, _, rfl, lk, hcd⟩ := F.ex
  exact fnG_of lk hcd S len fun A out s H vs Q E g hr h => let ⟨t, p, q⟩ := hb cdv A out s H vs Q E g hr h; ⟨t, p.nox, q⟩
end
section
variable {X : Cx} {CX : CXT} {k : Nat} {f : Addr} {fd : FuncData} {ps : List Str} {sp : Sp} {E : XK} {x : Str} {p pos : Pos} {e : Expr} {es : List Expr} {t : TA}
/-- such a def called by its name -/
theorem pe_callG (g : X.A.guards = some []) (F : FnG X.prog X.w X.K X.mg X.base CX k f fd ps sp) (hr : Room k X.A) (hg : Gl X x) (hm : X.mg x = some (.ref f)) (hk : PySem.W.keepIn X.K (.ref f) = true) (hb : Binds X.K fd ps []) (hx : Passes CX X E) (ha : PA X (e :: es) t)
    (hdb : (x == ("__debug__" : Str)) = false := by decide) (he : starEach (e :: es) X.env = (false, eval e X.env) :: starEach es X.env := by rfl) (hpl : (backTo pos (starEach es X.env)).any (·.1) = false := by rfl) :
    PE X (.Call (.Name x p) (e :: es) [] pos) (tCall sp [] E t) := ⟨fun pins s σ H Q I h => by
  refine wpAny_Call_Name_kw (ld_glob I hg hm (PySem.W.callWith_K (h₀ := X.base) I.ok.mod.kin hk (thn (ha.run pos pins s σ H _ I h) fun us s1 hq => ?_) he hpl) hdb)
  obtain ⟨vs, H1, I1, r, q⟩ := hq
  rw [List.append_nil] at q
  have hl : (us ++ []).length = ps.length := by rw [List.append_nil, ← r.length]; exact F.len _ _ _ _ q
  have b := hb s1 us I1.kIn hl
  rw [List.append_nil] at b
  refine ⟨I1.kIn, wpAny_call (codeAny_mono (F.run X.A X.stack s1 H1 ⟨us, []⟩ us vs Q E g hr I1.env0 b r q) fun res s' z => ?_)⟩
  match res, z with
  | .error v, z => exact hx pins σ H1 s1 v s' I1 z
  | .ok (.ret u), z => exact I1.after z
  | .ok .next, z => exact z.elim
  | .ok .brk, z => exact z.elim
  | .ok .cont, z => exact z.elim⟩
end
/-! ### repr -/
def rRepr (K : PySem.W.Frag) : List V → Hp → VK → Prop := fun vs H Q => ∃ (a : Addr) (d : PyData), vs = [.ref a] ∧ Dp K H (.ref a) d ∧ d.showable = true ∧ d.hasDict = false ∧ d.depth ≤ 100 ∧ d.shown.length ≤ sizeLine ∧ Q (.str d.shown) H
theorem cr_repr {X : Cx} (g : X.A.guards = some []) (hu : X.A.units + 101 < cLine) : CallR X (.builtin "repr") (rRepr X.K) := by
  intro pins s σ H vs us Q I r h
  obtain ⟨a, d, rfl, dp, sh, nd, dd, hz, q⟩ := h
  rw [Vals.ref1 r]
  obtain ⟨as, rd⟩ := Dp.reads I d (.ref a) (.ref a) dp rfl
  refine repr_of_reads' rd sh (PyData.noDict_hsm nd) g (by omega) (fun _ _ z => z) (fun h' u tk kp => ?_) hz
  exact ⟨.str d.shown, H, I.kept (t' := tk) kp, ⟨_, rfl⟩, q⟩
/-! ### the law's own def -/
/-- the abstract heap behind the top: the script alone, unless it is one of the module's own objects -/
def scriptH (K : PySem.W.Frag) (a : Addr) (vs : List Value) (ns : List Int) : Hp := fun b => if b = a ∧ K.lookup a = none then some (.frz { cls := .type "list", data := .seq vs.toArray } (.lst (ns.map V.int))) else none
theorem scriptH_some {K : PySem.W.Frag} {a b : Addr} {vs : List Value} {ns : List Int} {u : HO} (h : scriptH K a vs ns b = some u) : b = a ∧ K.lookup a = none ∧ u = .frz { cls := .type "list", data := .seq vs.toArray } (.lst (ns.map V.int)) := by
  unfold scriptH at h
  by_cases c : b = a ∧ K.lookup a = none
  · rw [if_pos c] at h
    exact ⟨c.1, c.2, (Option.some.inj h).symm⟩
  · rw [if_neg c] at h
    cases h
theorem walk_ofG {l : PySem.W.OpenLaw} {n k : Nat} {q : Program} {loose : List Str} {XP : (Str → Option Value) → Heap → Prop} {YP : World → Heap → Prop} {d : DefRec} {K : Params → PySem.W.Frag} {CX : World → CXT} {sp : World → Sp} {x : Str}
    (hn : l.most = some n) (hn2 : n ≤ sizeLine) (hdf : d.params.defaults = []) (hr : Room k callerA) (hY : ∀ (w : World) (h : Heap), YP w h → (K w.params).In h)
    (F : ∀ (w : World) (mg : Str → Option Value) (fa : Addr) (h : Heap), (K w.params).In h → h.Ns mainGlobals mg → mg d.name = some (.ref fa) →
      ∃ fd : FuncData, (∀ (s : Shared) (u : Value), BindsTo s fd ⟨[u], []⟩ [(x, u)]) ∧ ∀ base : Heap, (K w.params).In base → base.Ns mainGlobals mg → FnG l.prog w (K w.params) mg base (CX w) k fa fd [x] (sp w))
    (hsp : ∀ (w : World) (H : Hp) (a : Addr) (ns : List Int), ns.length ≤ n → SqL (K w.params) H a (ns.map V.int) → sp w [.ref a] H (fun v _ => v = .bl true) fun _ _ _ => False)
    (hCX : ∀ (w : World) (H : Hp) (s : Shared) (e : Value) (s' : Shared), CX w [] H s (fun _ _ _ => False) e s' → False) :
    PySem.W.WalkO q loose XP YP l.row.toRowW d [] (fun f vs => PySem.call f vs) := by
  refine Att.attach_call hn hdf fun w s₀ s1 mg mb fa o pm cd doc a vs ns G Y _ _ _ hmg hobj hints hlen hgen => ?_
  have KX := hY w _ Y
  obtain ⟨fd, hbind, hF⟩ := F w mg fa _ KX G.T.g hmg
  have len : vs.length = ns.length := hints.length
  have rv := vals_ints hints
  let H := scriptH (K w.params) a vs ns
  have hS : SqL (K w.params) H a (ns.map V.int) := by
    cases hk : (K w.params).lookup a with
    | none => exact .inl (.inr ⟨_, if_pos ⟨rfl, hk⟩⟩)
    | some ob =>
      have e := KX a ob hk
      rw [hobj] at e
      cases e
      exact .inr ⟨_, vs.toArray, _, hk, rfl, rfl, rfl, by rw [List.size_toArray, len]; omega, by simpa using rv⟩
  have hok : HOk l.prog w H s1.heap := fun b u z => by
    obtain ⟨rfl, _, rfl⟩ := scriptH_some z
    exact ⟨hobj, by rw [List.length_map]; omega, vs, _, rv, hobj⟩
  have keepK : ∀ {b : Addr} {ob : Obj}, s1.heap.get? b = some ob → H b = none → (hidT s1.heap H).get? b = some ob := fun e z => hidT_get e z
  have noDict : ∀ {b : Addr} {ob : Obj} {es : Array DictEntry} {ep : Nat}, s1.heap.get? b = some ob → ob.data = .dict es ep → H b = none := fun {b ob es ep} e z => by
    cases c : H b with
    | none => rfl
    | some u =>
      obtain ⟨rfl, _, _⟩ := scriptH_some c
      rw [hobj] at e
      cases e
      exact absurd z (fun y => Data.noConfusion y)
  have hns : ∀ {b : Addr} {m : Str → Option Value}, s1.heap.Ns b m → (hidT s1.heap H).Ns b m := fun {b m} ⟨ob, es, ep, e, z, r⟩ => ⟨ob, es, ep, keepK e (noDict e z), z, r⟩
  have hKb : (K w.params).In (hidT s1.heap H) := fun b ob e => keepK (KX b ob e) (by
    cases c : H b with
    | none => rfl
    | some u =>
      obtain ⟨rfl, z, _⟩ := scriptH_some c
      rw [z] at e
      cases e)
  have hM : Mod (K w.params) mg (hidT s1.heap H) := ⟨hKb, hns G.T.g, ⟨mb, hns G.T.b, G.T.builtins⟩, let ⟨mc, h1, h2⟩ := G.T.nolimit; ⟨mc, hns h1, h2⟩⟩
  have e0 : Env0 l.prog w (K w.params) mg (hidT s1.heap H) callerA [] s1 H := ⟨rfl, hM, fun b ob e => of_hidT e, Nat.le_of_eq (hidT_size _ _), trivial, fun b z => absurd z List.not_mem_nil, hok, .of_eq hgen⟩
  refine codeAny_mono ((hF _ hKb (hns G.T.g)).run callerA [] s1 H ⟨[.ref a], []⟩ [.ref a] [.ref a] _ _ rfl hr e0 (hbind s1 (.ref a)) (.cons rfl .nil) (hsp w H a ns hlen hS)) fun r s' z => ?_
  match r, z with
  | .error v, z => exact (hCX w H s1 v s' z).elim
  | .ok .next, z => exact z.elim
  | .ok .brk, z => exact z.elim
  | .ok .cont, z => exact z.elim
  | .ok (.ret u), z =>
    obtain ⟨v, H', os, bare, un, hok', rel, rfl⟩ := z
    obtain rfl : u = Value.bool true := rel
    refine ⟨rfl, OldK.of_keep fun b ob e => ?_, os, bare⟩
    cases c : H b with
    | none => exact un.keep b ob e c (fun y => absurd y List.not_mem_nil) (fun y => absurd y List.not_mem_nil)
    | some u =>
      obtain ⟨rfl, _, rfl⟩ := scriptH_some c
      obtain ⟨e2, _⟩ := hok' _ _ (un.frzs _ _ _ c)
      rw [hobj] at e
      cases e
      exact e2
end Rg
namespace Rg
theorem u101 {k : Nat} {A : PySem.Around} (h : L2.Room k A) : A.units + 101 < PySem.cLine := by have := h.un; omega
end Rg

/-! A try with several clauses, each with a name or without. -/
namespace Rh
open PySem PySem.Spec PyProof.Rows L2
/-- a clause: its class, the slot of its name (if it has one), what its suite does -/
structure Cl where
  cls : Value
  slot : Option Nat
  does : Addr → Value → Option Addr → TS
/-- how a suite ends where its name is gone -/
def gone (o : Option Nat) (D : Ends) : Ends := match o with
  | none => D
  | some i => { nx := fun σ G => D.nx (σ.set i none) G, rt := D.rt, bk := fun σ G => D.bk (σ.set i none) G, ct := fun σ G => D.ct (σ.set i none) G }
/-- how it begins -/
def named (o : Option Nat) (a : Addr) (σ : L2.St) : L2.St := match o with
  | none => σ
  | some i => σ.set i (some (.ref a))
/-- what the clauses wish of an exception of the body -/
def wish (K : PySem.W.Frag) (W0 : WX) (D : Ends) : List Cl → WX
  | [] => W0
  | q :: r => fun kl d σ G => ∃ y, PySem.W.exmOne K kl q.cls = some y ∧ (y = true → ∀ a, G a = none → q.does a kl d (gone q.slot D) (named q.slot a σ) G) ∧ (y = false → wish K W0 D r kl d σ G)
/-- a clause of the text and what is known of it -/
inductive Fits (X : Cx) : List ExceptHandler → List Cl → Prop
  | nil : Fits X [] []
  | bare {x : Str} {v : Value} {ts : Addr → Value → Option Addr → TS} {s0 : Stmt} {more : List Stmt} {p1 p2 : Pos} {es : List ExceptHandler} {qs : List Cl} (nm : Names X x v)
      (run : ∀ (a : Addr) (ob : Obj) (kl : Value) (d : Option Addr) (pn : List (Addr × Obj)), Zc kl d ob → (∃ vs, ob.data = .fields vs) → PSs (X.suite a ((a, ob) :: pn)) (s0 :: more) (ts a kl d)) (t : Fits X es qs) :
      Fits X (.ExceptHandler (some (.Name x p1)) none (s0 :: more) p2 :: es) (⟨v, none, ts⟩ :: qs)
  | kept {x n : Str} {i : Nat} {v : Value} {ts : Addr → Value → Option Addr → TS} {s0 : Stmt} {more : List Stmt} {p1 p2 : Pos} {es : List ExceptHandler} {qs : List Cl} (nm : Names X x v) (ni : X.N[i]? = some n) (nl : X.env.kindOf n = some .local)
      (run : ∀ (a : Addr) (ob : Obj) (kl : Value) (d : Option Addr) (pn : List (Addr × Obj)), Zc kl d ob → (∃ vs, ob.data = .fields vs) → PSs (X.suite a ((a, ob) :: pn)) (s0 :: more) (ts a kl d)) (t : Fits X es qs) :
      Fits X (.ExceptHandler (some (.Name x p1)) (some n) (s0 :: more) p2 :: es) (⟨v, some i, ts⟩ :: qs)
section
variable {X : Cx} {pins : List (Addr × Obj)} {W0 : WX} {D : Ends}
/-- an exception's object is no frame -/
theorem no_frame {B g : Heap} {l : List Env} {a : Addr} {ob : Obj} {vs : Array Value} (F : g.FunFrames B l) (ga : g.get? a = some ob) (gd : ob.data = .fields vs) : a ∉ frs l := fun hm => by
  obtain ⟨_, ob2, g2, no⟩ := F.mem hm
  rw [ga] at g2
  cases g2
  exact no _ gd
/-- the suite's ends, its name gone, are the try's -/
theorem after {o : Option Nat} {n : Option Str} {p : Pos} {pn : List (Addr × Obj)} {a : Addr} {q : Addr × Obj} {s1 : Shared} {f : Flow} {P : Flow → Shared → Prop} (ok : X.Ok) (nod : X.N.Nodup)
    (hn : (o = none ∧ n = none) ∨ ∃ i w, o = some i ∧ n = some w ∧ X.N[i]? = some w ∧ X.env.kindOf w = some .local)
    (hP : ∀ f s2, SP X pins D f s2 → P f s2)
    (z : SP (X.suite a (q :: (X.pn ++ pins))) [] (gone o D) f s1) : (n = none → P f s1) ∧ ∀ w, n = some w → wpAny (model X.prog X.w) X.A (do bindName X.env w .none; unbindBehindTheSuite X.env w p) (fun _ s2 => P f s2) X.xe s1 := by
  refine ⟨fun e => hP _ _ ?_, fun w e => ?_⟩
  · rcases hn with ⟨rfl, _⟩ | ⟨i, w, _, e2, _⟩
    · cases f with
      | next => obtain ⟨σ6, G6, J6, r6⟩ := z; exact ⟨σ6, G6, J6.unsuite ok, r6⟩
      | brk => obtain ⟨σ6, G6, J6, r6⟩ := z; exact ⟨σ6, G6, J6.unsuite ok, r6⟩
      | cont => obtain ⟨σ6, G6, J6, r6⟩ := z; exact ⟨σ6, G6, J6.unsuite ok, r6⟩
      | ret u => obtain ⟨v6, σ6, G6, J6, rv, r6⟩ := z; exact ⟨v6, σ6, G6, J6.unsuite ok, rv, r6⟩
    · rw [e] at e2
      cases e2
  · rcases hn with ⟨_, e2⟩ | ⟨i, w2, rfl, e2, ni, nl⟩
    · rw [e] at e2
      cases e2
    · rw [e] at e2
      cases e2
      cases f with
      | next => obtain ⟨σ6, G6, J6, r6⟩ := z; exact gone_ok (J6.unsuite ok) nod ni nl fun s7 J7 => hP _ _ ⟨_, _, J7, r6⟩
      | brk => obtain ⟨σ6, G6, J6, r6⟩ := z; exact gone_ok (J6.unsuite ok) nod ni nl fun s7 J7 => hP _ _ ⟨_, _, J7, r6⟩
      | cont => obtain ⟨σ6, G6, J6, r6⟩ := z; exact gone_ok (J6.unsuite ok) nod ni nl fun s7 J7 => hP _ _ ⟨_, _, J7, r6⟩
      | ret u => obtain ⟨v6, σ6, G6, J6, rv, r6⟩ := z; exact gone_ok (J6.unsuite ok) nod ni nl fun s7 J7 => hP _ _ ⟨_, _, _, J7, rv, r6⟩
/-- the clauses, one after the other -/
theorem clauses {B : Heap} {a : Addr} {kl : Value} {d : Option Addr} {sI s1 : Shared} {σ : L2.St} {G : Hp} {g : Heap} (stk : X.stack = X.env :: X.outer) (frm : X.env.frame = some X.env.locals) (nod : X.N.Nodup) (tk : Takes X W0)
    (J : Inv X pins σ G sI) (nb : ∀ b o, sI.heap.get? b = some o → b ∉ frs X.stack → B.get? b = some o) (na : G a = none) (os : s1.os = sI.os) (ag : AllBare s1.gens)
    (up : sI.heap.UpToSlots g) (fl : HandSPX.FlyingZ B (X.env :: X.outer) a (Zc kl d) g) {es : List ExceptHandler} {qs : List Cl} (F : Fits X es qs) :
    wish X.K W0 D qs kl d σ G → wpAny (model X.prog X.w) X.A (handleBy (.ref a) X.env es) (SP X pins D) X.xe { s1 with heap := g } := by
  have land : ∀ {k : Heap}, sI.heap.UpToSlots k → HandSPX.FlyingZ B (X.env :: X.outer) a (Zc kl d) k → Inv X pins σ G { s1 with heap := k } := fun u f => J.landed nb f.1 u os ag
  have J3 := land up fl
  obtain ⟨ob, vs, ga, gz, gd⟩ := fl.there
  have nf := no_frame fl.2.2.1 ga gd
  have nL : a ≠ X.env.locals := fun e => nf (List.mem_filterMap.mpr ⟨X.env, List.mem_cons_self, by rw [frm, e]⟩)
  have nF : a ∉ X.fs := fun m => let ⟨e, he, q⟩ := List.mem_filterMap.mp m; nf (List.mem_filterMap.mpr ⟨e, List.mem_cons_of_mem _ he, q⟩)
  have J3s := J3.suite ga gd na nL nF
  have LT : PySem.W.Looks (model X.prog X.w) g (typeOf (.ref a)) kl := fun A Q E s k q => wpAny_typeOf_ref (k _ _ ga) (by rw [gz.1]; exact q)
  have ask : ∀ {x : Str} {c : Value} {np : Pos}, Names X x c → ∀ {Q E : Value → Shared → Prop}, Q c { s1 with heap := g } → wpAny (model X.prog X.w) (X.A.mark (some (.ref a))) (eval (.Name x np) X.env) Q E { s1 with heap := g } := by
    rintro x c np ⟨gl, db, m | ⟨m, bt, nn⟩⟩ Q E q
    · exact ld_glob (X := X.suite a ((a, ob) :: (X.pn ++ pins))) J3s gl m q db
    · exact ld_blt (X := X.suite a ((a, ob) :: (X.pn ++ pins))) J3s gl m bt q nn db
  induction F with
  | nil =>
    intro wsh
    refine wpAny_handleBy_nil ?_
    obtain ⟨_, _, _, ob2, vs2, tr, _, _, g2, _, d2, f1, _⟩ := id fl
    unfold PySem.passOn
    refine wpAny_bind (wpAny_field g2 d2 f1 ?_)
    rw [if_neg (show ¬ ((Value.ref tr == Value.none) = true) from by simp)]
    have out : wpAny (model X.prog X.w) X.A (setFlight (.ref a) X.env.frame) (fun _ s4 => wpAny (model X.prog X.w) X.A (throw (.ref a) : Sem Flow) (SP X pins D) X.xe s4) X.xe { s1 with heap := g } := by
      rw [frm]
      exact HandSPX.setFlight_upZ fl fun k held u => wpAny_throw (tk _ _ ⟨a, B, sI, pins, σ, G, kl, d, rfl, J, nb, up.trans u, .inr (.inr (by rw [stk]; exact held)), na, os, ag, wsh⟩)
    first
      | exact wpAny_bind (wpAny_pure (wpAny_bind out))
      | exact wpAny_bind out
  | @bare x v ts s0 more p1 p2 es2 qs2 nm run t ih =>
    rintro ⟨y, y1, yes, no⟩
    refine wpAny_handleBy_cons (codeAny_handlers_test (ask nm ((PySem.W.exm_one (M := model X.prog X.w) J3.kIn LT y1).here ?_))) (by intro q; cases q)
    cases y with
    | false => exact ih (no rfl)
    | true =>
      refine codeAny_handlers_suite (HandSPX.lands_againZ fl fun k fk uk => ?_)
      have J4 := land (up.trans uk) fk
      obtain ⟨ob4, vs4, g4, z4, d4⟩ := fk.there
      exact wpAny_mono ((run a ob4 kl d (X.pn ++ pins) z4 ⟨_, d4⟩).run [] _ _ G _ (J4.suite g4 d4 na nL nF) (yes rfl a na)) (fun f s6 z => (after (o := none) (n := none) (p := p2) (pn := []) J.ok nod (.inl ⟨rfl, rfl⟩) (fun _ _ q => q) z).1 rfl) fun _ _ z => False.elim z
  | @kept x n i v ts s0 more p1 p2 es2 qs2 nm ni nl run t ih =>
    rintro ⟨y, y1, yes, no⟩
    refine wpAny_handleBy_cons (codeAny_handlers_test (ask nm ((PySem.W.exm_one (M := model X.prog X.w) J3.kIn LT y1).here ?_))) (by intro q; cases q)
    cases y with
    | false => exact ih (no rfl)
    | true =>
      refine codeAny_handlers_suite_as (HandSPX.lands_againZ fl fun k fk uk => ?_)
      have J4 := land (up.trans uk) fk
      obtain ⟨ob4, vs4, g4, z4, d4⟩ := fk.there
      refine store_ok (X := X.suite a ((a, ob4) :: (X.pn ++ pins))) (v := .ref a) (J4.suite g4 d4 na nL nF) nod ni (.inl nl) rfl (fun s5 J5 => ?_) (.inr nl)
      exact wpAny_mono ((run a ob4 kl d (X.pn ++ pins) z4 ⟨_, d4⟩).run [] s5 _ G _ J5 (yes rfl a na)) (fun f s6 z => (after (o := some i) (n := some n) (p := p2) (pn := []) J.ok nod (.inr ⟨i, n, rfl, rfl, ni, nl⟩) (fun _ _ q => q) z).2 n rfl) fun _ _ z => False.elim z
/-- THE RULE for a try with any clauses -/
theorem ps_tryC {body : List Stmt} {e0 : ExceptHandler} {es : List ExceptHandler} {qs : List Cl} {p : Pos} {tb : WX → TS} (stk : X.stack = X.env :: X.outer) (frm : X.env.frame = some X.env.locals) (nod : X.N.Nodup) (tk : Takes X W0) (F : Fits X (e0 :: es) qs)
    (hb : ∀ (W : WX) (pn : List (Addr × Obj)) (xe : Value → Shared → Prop), Takes (X.tr pn xe) W → PassesOwn (model X.prog X.w) X.A X.env xe → PSs (X.tr pn xe) body (tb W)) :
    PS X (.Try body (e0 :: es) [] [] p) (fun D σ H => tb (wish X.K W0 D qs) D σ H) := by
  refine ⟨fun pins s σ H D I h => ?_⟩
  have fr2 : X.A.frames = some (X.env :: X.outer) := by rw [I.ok.frames, stk]
  refine wpAny_Try_except ?_
  refine wpAny_mono ((hb (wish X.K W0 D qs) (X.pn ++ pins) (fun u s₁ => wpAny (model X.prog X.w) X.A (noteFrame u X.env) (fun _ s₂ => wpAny (model X.prog X.w) X.A (setFlight u none) (fun _ s₃ =>
    wpAny (model X.prog X.w) X.A (handleBy u X.env (e0 :: es)) (SP X pins D) X.xe s₃) X.xe s₂) X.xe s₁) (fun u s' out => ?_) PassesOwn.looking).run [] s σ H D (I.toTry _) h) (fun f s1 z => ?_) fun _ _ z => z
  · obtain ⟨a, B, sI, pn2, σ2, G, kl, d, rfl, K2, nb, up, sky, na, os, ag, wsh⟩ := out
    rw [show (X.tr (X.pn ++ pins) _).stack = X.env :: X.outer from stk] at sky
    exact Sky.land Zc.steady fr2 frm sky fun g fl ug => clauses stk frm nod tk (K2.ofTry I.ok) nb na os ag (up.trans ug) fl F wsh
  · cases f with
    | next => obtain ⟨σ2, G, K2, q⟩ := z; exact wpAny_execs_nil ⟨σ2, G, K2.ofTry I.ok, q⟩
    | brk => obtain ⟨σ2, G, K2, q⟩ := z; exact ⟨σ2, G, K2.ofTry I.ok, q⟩
    | cont => obtain ⟨σ2, G, K2, q⟩ := z; exact ⟨σ2, G, K2.ofTry I.ok, q⟩
    | ret u => obtain ⟨v, σ2, G, K2, rv, q⟩ := z; exact ⟨v, σ2, G, K2.ofTry I.ok, rv, q⟩
/-! ### which clause takes it -/
theorem wish_hit0 {K : PySem.W.Frag} {fI C E : Addr} {does : Addr → Value → Option Addr → TS} {qs : List Cl} {d : Option Addr} {σ : L2.St} {G : Hp} (FE : Rx.ExcF K fI E) (h : PySem.W.subIn K (.ref C) (.ref E) = some true) (k : ∀ a, G a = none → does a (.ref C) d D σ G) :
    wish K W0 D (⟨.ref E, none, does⟩ :: qs) (.ref C) d σ G := ⟨true, Rx.exm FE h, fun _ => k, fun e => (nomatch e)⟩
theorem wish_hit {K : PySem.W.Frag} {fI C E : Addr} {i : Nat} {does : Addr → Value → Option Addr → TS} {qs : List Cl} {d : Option Addr} {σ : L2.St} {G : Hp} (FE : Rx.ExcF K fI E) (h : PySem.W.subIn K (.ref C) (.ref E) = some true)
    (k : ∀ a, G a = none → does a (.ref C) d { nx := fun σ G => D.nx (σ.set i none) G, rt := D.rt, bk := fun σ G => D.bk (σ.set i none) G, ct := fun σ G => D.ct (σ.set i none) G } (σ.set i (some (.ref a))) G) :
    wish K W0 D (⟨.ref E, some i, does⟩ :: qs) (.ref C) d σ G := ⟨true, Rx.exm FE h, fun _ => k, fun e => (nomatch e)⟩
theorem wish_miss {K : PySem.W.Frag} {fI C E : Addr} {slot : Option Nat} {does : Addr → Value → Option Addr → TS} {qs : List Cl} {d : Option Addr} {σ : L2.St} {G : Hp} (FE : Rx.ExcF K fI E) (h : PySem.W.subIn K (.ref C) (.ref E) = some false) (k : wish K W0 D qs (.ref C) d σ G) :
    wish K W0 D (⟨.ref E, slot, does⟩ :: qs) (.ref C) d σ G := ⟨false, Rx.exm FE h, fun e => (nomatch e), fun _ => k⟩
/-! ### raise C() with a default None -/
theorem pmk_oex0 {CX : CXT} {x : Str} {C fI : Addr} {k : Nat} {fd : FuncData} {ps : List Str} {sp : Sp} {ds : List Value} {dvs : List V} {p pos : Pos} (T : OexC X.K C) (iC : PySem.W.findIn X.K (.ref C) "__init__" = some (some (.ref fI))) (tI : PySem.W.typeIn X.K (.ref fI) = some (.type "function"))
    (F1 : FnOk X.prog X.w X.K X.mg X.base CX k fI fd ps sp) (hr : Room (k + 1) X.A) (hb : Binds X.K fd ps ds) (hd : Vals dvs ds) (hx : Passes CX X (fun _ _ _ => False)) (hg : Gl X x) (hm : X.mg x = some (.ref C)) (hdb : (x == ("__debug__" : Str)) = false := by decide) :
    PMk X (.Call (.Name x p) [] [] pos) (tMkO C sp dvs tNil) := by
  intro pins s σ H Q I q1
  obtain ⟨nm, q, N, bs, bm, sn, sub, ab, col, dd, k0, k1, k2, k3, k5, hC, hbm⟩ := T.cls
  refine wpAny_Call_Name_kw (ld_glob I hg hm ?_ hdb)
  refine PySem.W.callWith_K0 I.kIn T.kC ?_
  show wpAny _ _ (call (.ref C) []) _ _ _
  obtain ⟨hp, g, dr, tk, os⟩ := s
  have hsz := Nat.le_succ hp.objs.size
  have hq := q1.2 (hp.objs.size + 1) (I.hok.fresh hsz)
  have kk : ∀ b o, hp.get? b = some o → ((hp.push (PySem.W.kdv_tup [])).push (PySem.HandSPX.excO C hp.objs.size)).get? b = some o := fun b o e => Heap.get?_push_of_some _ (Heap.get?_push_of_some _ e)
  have hget : ((hp.push (PySem.W.kdv_tup [])).push (PySem.HandSPX.excO C hp.objs.size)).get? (hp.objs.size + 1) = some (PySem.HandSPX.excO C hp.objs.size) := by heap_get
  have I2 : Inv X pins σ (upd H (hp.objs.size + 1) (exo (hp.objs.size + 1) C none)) ⟨(hp.push (PySem.W.kdv_tup [])).push (PySem.HandSPX.excO C hp.objs.size), g, dr, tk, os⟩ :=
    I.laid (t' := tk) kk hsz (exo_ok hget)
  have r2 : Vals (V.ref (hp.objs.size + 1) :: dvs) (Value.ref (hp.objs.size + 1) :: ds) := .cons rfl hd
  have hl : (Value.ref (hp.objs.size + 1) :: ds).length = ps.length := by
    have e := r2.length
    have e2 := F1.len _ _ _ _ hq
    rw [List.nil_append] at e2
    exact e.symm.trans e2
  refine wpAny_call (PySem.HandSPX.call_own F.excBase_ValueError (fun Y => PySem.HandSPX.refsVE_contains Y bm hbm) (I.kIn _ _ hC) (PySem.W.looks_findIn I.kIn iC) (fun self => PySem.W.bind_fn I.kIn self tI) (Nat.zero_le _)
    (codeAny_mono (F1.run _ X.stack _ _ ⟨[Value.ref (hp.objs.size + 1)], []⟩ (Value.ref (hp.objs.size + 1) :: ds) _ _ (fun _ _ _ => False) (hr.make C [] []) (I2.env0.make C [] []) (hb _ [Value.ref (hp.objs.size + 1)] I2.kIn hl) r2 hq) fun r s' hq' => ?_))
  cases r with
  | error er => exact hx pins σ _ _ er s' I2 hq'
  | ok fl =>
    cases fl with
    | ret u =>
      obtain ⟨v, H2, os2, bare2, un2, hok2, rv, ev, d, fs, ea, ed, hd1, q2⟩ := hq'
      subst ev
      obtain ⟨h2, g2, d2, t2, os'⟩ := s'
      exact ⟨rv, mk_end (raises_own T.exC T.tyC) I hsz kk un2 hok2 os2 bare2 ea ed hd1 q2⟩
    | next => exact False.elim hq'
    | brk => exact False.elim hq'
    | cont => exact False.elim hq'
open Rx in
theorem mk_reads0 {K : PySem.W.Frag} {fI C : Addr} {σ : L2.St} {H : Hp} {Q : XK} (F : ExcF K fI C) (hv : RaiseQ C .non H Q) : tMkO C (spWe K) [.non] tNil σ H Q := by
  refine ⟨(by decide : 0 ≤ 1000), fun a na => ⟨a, C, .non, rfl, F.ox, F.nv, upd_same, fun dx ndx ne => ⟨rfl, dx, [("value", .non)], upd_same, ?_, ?_, ?_⟩⟩⟩
  · rw [upd_ne ne, upd_same]
  · rw [upd_ne ne] at ndx
    exact ndx
  · rw [upd_ne ne] at ndx
    refine hv dx _ ndx upd_same fun b hb => ?_
    rw [upd_ne hb]
    by_cases c : b = a
    · rw [c, del_same, na]
    · rw [del_ne c, upd_ne c, upd_ne hb, upd_ne c]
open Rx in
/-- raise C() -/
def tRaise0 (C : Addr) (W : WX) : TS := fun _ σ H => RaiseQ C .non H fun cls d H2 => W cls d σ H2
open Rx in
theorem ps_raise0 {x : Str} {p pos pos2 : Pos} {C fI : Addr} {k : Nat} {fd : FuncData} {W : WX} (hc : X.calm = true) (F : ExcF X.K fI C) (tI : PySem.W.typeIn X.K (.ref fI) = some (.type "function")) (F1 : FnOk X.prog X.w X.K X.mg X.base CX0 k fI fd ["self", "value"] (spWe X.K)) (hr : Room (k + 1) X.A) {ds : List Value} (hb : Binds X.K fd ["self", "value"] ds) (hd : Vals [.non] ds)
    (hg : Gl X x) (hm : X.mg x = some (.ref C)) (tk : Takes X W) (hdb : (x == ("__debug__" : Str)) = false := by decide) :
    PS X (.Raise (some (.Call (.Name x p) [] [] pos)) none pos2) (tRaise0 C W) :=
  have z := ps_raise (pos := pos2) hc tk (pmk_oex0 (p := p) (pos := pos) F.ox F.iC tI F1 hr hb hd (CX := CX0) (fun _ _ _ _ _ _ _ h => h.elim) hg hm hdb)
  ⟨fun pins s σ H D I h => z.run pins s σ H D I (mk_reads0 F h)⟩
end
end Rh

namespace W
open PySem PySem.Spec PyProof.Rows L2
def top (i : Nat) : Stmt := PySem.Challenge.pw_watchedways_k93_books_as_rows.main.body.getD i (.Pass ⟨0, 0, 0, 0⟩)
abbrev s_WayError_init : Stmt := inClass (top 2) 0
abbrev s_is_letters : Stmt := top 11
abbrev s_is_watch : Stmt := top 12
abbrev s_text_key : Stmt := top 13
abbrev s_in_order : Stmt := top 14
abbrev s_Book_init : Stmt := inClass (top 17) 0
abbrev s_Book_eq : Stmt := inClass (top 17) 1
abbrev s_check_book : Stmt := top 18
abbrev s_ordered_watches : Stmt := top 19
abbrev s_write_book : Stmt := top 23
abbrev s_read_book : Stmt := top 24
abbrev s_Lengths_init : Stmt := inClass (top 21) 0
abbrev s_Lengths_eq : Stmt := inClass (top 21) 1
abbrev s_l_tape : Stmt := top 26
abbrev s_l_pick : Stmt := top 27
abbrev s_l_is_letters : Stmt := top 28
abbrev s_l_sign : Stmt := top 29
abbrev s_l_watches : Stmt := top 30
abbrev s_l_text : Stmt := top 31
abbrev s_l_due : Stmt := top 32
abbrev s_l_asked : Stmt := top 33
abbrev s_l_reads : Stmt := top 34
abbrev s_l_changed : Stmt := top 35
abbrev s_l_refused : Stmt := top 36
abbrev s_law : Stmt := top 37
theorem sc_WayError_init : FnScope ["self", "value"] ["self", "value"] (defScope s_WayError_init) := ⟨rfl, rfl, rfl, by decide +kernel, rfl, by decide +kernel, by decide +kernel⟩
theorem sc_is_letters : FnScope ["value", "letter"] ["value"] (defScope s_is_letters) := ⟨rfl, rfl, rfl, by decide +kernel, rfl, by decide +kernel, by decide +kernel⟩
theorem sc_is_watch : FnScope ["thing"] ["thing"] (defScope s_is_watch) := ⟨rfl, rfl, rfl, by decide +kernel, rfl, by decide +kernel, by decide +kernel⟩
theorem sc_text_key : FnScope ["text"] ["text"] (defScope s_text_key) := ⟨rfl, rfl, rfl, by decide +kernel, rfl, by decide +kernel, by decide +kernel⟩
theorem sc_in_order : FnScope ["texts"] ["texts"] (defScope s_in_order) := ⟨rfl, rfl, rfl, by decide +kernel, rfl, by decide +kernel, by decide +kernel⟩
theorem sc_Book_init : FnScope ["self", "watches", "found", "at", "watch"] ["self", "watches"] (defScope s_Book_init) := ⟨rfl, rfl, rfl, by decide +kernel, rfl, by decide +kernel, by decide +kernel⟩
theorem sc_Book_eq : FnScope ["self", "other", "watch"] ["self", "other"] (defScope s_Book_eq) := ⟨rfl, rfl, rfl, by decide +kernel, rfl, by decide +kernel, by decide +kernel⟩
theorem sc_check_book : FnScope ["book"] ["book"] (defScope s_check_book) := ⟨rfl, rfl, rfl, by decide +kernel, rfl, by decide +kernel, by decide +kernel⟩
theorem sc_ordered_watches : FnScope ["book"] ["book"] (defScope s_ordered_watches) := ⟨rfl, rfl, rfl, by decide +kernel, rfl, by decide +kernel, by decide +kernel⟩
theorem sc_write_book : FnScope ["book"] ["book"] (defScope s_write_book) := ⟨rfl, rfl, rfl, by decide +kernel, rfl, by decide +kernel, by decide +kernel⟩
theorem sc_read_book : FnScope ["text"] ["text"] (defScope s_read_book) := ⟨rfl, rfl, rfl, by decide +kernel, rfl, by decide +kernel, by decide +kernel⟩
theorem sc_Lengths_init : FnScope ["self"] ["self"] (defScope s_Lengths_init) := ⟨rfl, rfl, rfl, by decide +kernel, rfl, by decide +kernel, by decide +kernel⟩
theorem sc_Lengths_eq : FnScope ["self", "other"] ["self", "other"] (defScope s_Lengths_eq) := ⟨rfl, rfl, rfl, by decide +kernel, rfl, by decide +kernel, by decide +kernel⟩
theorem sc_l_tape : FnScope ["_law_script"] ["_law_script"] (defScope s_l_tape) := ⟨rfl, rfl, rfl, by decide +kernel, rfl, by decide +kernel, by decide +kernel⟩
theorem sc_l_pick : FnScope ["_law_tape_here", "_law_size", "_law_digit", "_law_cell", "_law_mixed"] ["_law_tape_here", "_law_size"] (defScope s_l_pick) := ⟨rfl, rfl, rfl, by decide +kernel, rfl, by decide +kernel, by decide +kernel⟩
theorem sc_l_is_letters : FnScope ["_law_thing", "_law_most", "_law_sign_here"] ["_law_thing", "_law_most"] (defScope s_l_is_letters) := ⟨rfl, rfl, rfl, by decide +kernel, rfl, by decide +kernel, by decide +kernel⟩
theorem sc_l_sign : FnScope ["_law_tape_here", "_law_signs"] ["_law_tape_here"] (defScope s_l_sign) := ⟨rfl, rfl, rfl, by decide +kernel, rfl, by decide +kernel, by decide +kernel⟩
theorem sc_l_watches : FnScope ["_law_tape_here", "_law_letters", "_law_k", "_law_few", "_law_base", "_law_found", "_law_watch"] ["_law_tape_here"] (defScope s_l_watches) := ⟨rfl, rfl, rfl, by decide +kernel, rfl, by decide +kernel, by decide +kernel⟩
theorem sc_l_text : FnScope ["_law_watches_here", "_law_pair", "_law_watch"] ["_law_watches_here"] (defScope s_l_text) := ⟨rfl, rfl, rfl, by decide +kernel, rfl, by decide +kernel, by decide +kernel⟩
theorem sc_l_due : FnScope ["_law_text_here", "_law_rows", "_law_at"] ["_law_text_here"] (defScope s_l_due) := ⟨rfl, rfl, rfl, by decide +kernel, rfl, by decide +kernel, by decide +kernel⟩
theorem sc_l_asked : FnScope ["_law_text_here", "_law_told", "e"] ["_law_text_here"] (defScope s_l_asked) := ⟨rfl, rfl, rfl, by decide +kernel, rfl, by decide +kernel, by decide +kernel⟩
theorem sc_l_reads : FnScope ["_law_text_here", "_law_due_here", "_law_told", "_law_same"] ["_law_text_here"] (defScope s_l_reads) := ⟨rfl, rfl, rfl, by decide +kernel, rfl, by decide +kernel, by decide +kernel⟩
theorem sc_l_changed : FnScope ["_law_tape_here", "_law_text_here", "_law_kind", "_law_rows", "_law_row", "_law_other", "_law_at", "_law_sign_here", "_law_odd", "_law_more", "_law_k"] ["_law_tape_here", "_law_text_here"] (defScope s_l_changed) := ⟨rfl, rfl, rfl, by decide +kernel, rfl, by decide +kernel, by decide +kernel⟩
theorem sc_l_refused : FnScope ["_law_thing", "_law_told", "e"] ["_law_thing"] (defScope s_l_refused) := ⟨rfl, rfl, rfl, by decide +kernel, rfl, by decide +kernel, by decide +kernel⟩
theorem sc_law : FnScope ["_law_script", "_law_tape_here", "_law_changes", "_law_watches_here", "_law_book", "_law_text_here", "_law_told", "_law_turn", "_law_spoilt", "_law_change", "_law_thing", "_law_other"] ["_law_script"] (defScope s_law) := ⟨rfl, rfl, rfl, by decide +kernel, rfl, by decide +kernel, by decide +kernel⟩
structure Txt (K : PySem.W.Frag) (mg : Str → Option Value) where
  C_Book : Addr
  c_Book : mg "Book" = some (.ref C_Book)
  cl_Book : Cls K C_Book
  ty_Book : OwnTy K C_Book
  na_Book_watches : NoAttr K C_Book "watches"
  C_Lengths : Addr
  c_Lengths : mg "Lengths" = some (.ref C_Lengths)
  cl_Lengths : Cls K C_Lengths
  ty_Lengths : OwnTy K C_Lengths
  na_Lengths_none : NoAttr K C_Lengths "none"
  na_Lengths_one : NoAttr K C_Lengths "one"
  ki_Book : PySem.W.mroIn K C_Book (.type "int") = some false
  kb_Book : PySem.W.mroIn K C_Book (.type "bool") = some false
  ic_Book : PySem.W.isClsIn K C_Book = true
  tc_Book : PySem.W.typeIn K (.ref C_Book) = some (.type "type")
  sl_Book : PySem.W.subIn K (.ref C_Book) (.ref C_Book) = some true
  ne_Book : PySem.W.findIn K (.ref C_Book) "__ne__" = some (some (.builtin "object.__ne__"))
  ks_Book : PySem.W.mroIn K C_Book (.type "str") = some false
  ki_Lengths : PySem.W.mroIn K C_Lengths (.type "int") = some false
  kb_Lengths : PySem.W.mroIn K C_Lengths (.type "bool") = some false
  ic_Lengths : PySem.W.isClsIn K C_Lengths = true
  tc_Lengths : PySem.W.typeIn K (.ref C_Lengths) = some (.type "type")
  s_Lengths_Book : PySem.W.subIn K (.ref C_Lengths) (.ref C_Book) = some false
  sl_Lengths : PySem.W.subIn K (.ref C_Lengths) (.ref C_Lengths) = some true
  ne_Lengths : PySem.W.findIn K (.ref C_Lengths) "__ne__" = some (some (.builtin "object.__ne__"))
  f_WayError_init : Addr
  fd_WayError_init : FuncData
  D_WayError_init : FunD K "__init__" "WayError.__init__" (defArgs s_WayError_init) (defBody s_WayError_init) (defScope s_WayError_init) [.non] [] f_WayError_init fd_WayError_init
  b_WayError_init : Binds K fd_WayError_init ["self", "value"] []
  tI_WayError_init : PySem.W.typeIn K (.ref f_WayError_init) = some (.type "function")
  f_is_letters : Addr
  fd_is_letters : FuncData
  F_is_letters : Fun K "is_letters" "is_letters" s_is_letters f_is_letters fd_is_letters
  g_is_letters : mg "is_letters" = some (.ref f_is_letters)
  b_is_letters : Binds K fd_is_letters ["value"] []
  f_is_watch : Addr
  fd_is_watch : FuncData
  F_is_watch : Fun K "is_watch" "is_watch" s_is_watch f_is_watch fd_is_watch
  g_is_watch : mg "is_watch" = some (.ref f_is_watch)
  b_is_watch : Binds K fd_is_watch ["thing"] []
  f_text_key : Addr
  fd_text_key : FuncData
  F_text_key : Fun K "text_key" "text_key" s_text_key f_text_key fd_text_key
  g_text_key : mg "text_key" = some (.ref f_text_key)
  b_text_key : Binds K fd_text_key ["text"] []
  f_in_order : Addr
  fd_in_order : FuncData
  F_in_order : Fun K "in_order" "in_order" s_in_order f_in_order fd_in_order
  g_in_order : mg "in_order" = some (.ref f_in_order)
  b_in_order : Binds K fd_in_order ["texts"] []
  f_Book_init : Addr
  fd_Book_init : FuncData
  F_Book_init : Fun K "__init__" "Book.__init__" s_Book_init f_Book_init fd_Book_init
  M_Book : Mk K C_Book f_Book_init
  b_Book_init : Binds K fd_Book_init ["self", "watches"] []
  f_Book_eq : Addr
  fd_Book_eq : FuncData
  F_Book_eq : Fun K "__eq__" "Book.__eq__" s_Book_eq f_Book_eq fd_Book_eq
  h_Book_eq : Meth K C_Book "__eq__" f_Book_eq
  b_Book_eq : Binds K fd_Book_eq ["self", "other"] []
  f_check_book : Addr
  fd_check_book : FuncData
  F_check_book : Fun K "check_book" "check_book" s_check_book f_check_book fd_check_book
  g_check_book : mg "check_book" = some (.ref f_check_book)
  b_check_book : Binds K fd_check_book ["book"] []
  f_ordered_watches : Addr
  fd_ordered_watches : FuncData
  F_ordered_watches : Fun K "ordered_watches" "ordered_watches" s_ordered_watches f_ordered_watches fd_ordered_watches
  g_ordered_watches : mg "ordered_watches" = some (.ref f_ordered_watches)
  b_ordered_watches : Binds K fd_ordered_watches ["book"] []
  f_write_book : Addr
  fd_write_book : FuncData
  F_write_book : Fun K "write_book" "write_book" s_write_book f_write_book fd_write_book
  g_write_book : mg "write_book" = some (.ref f_write_book)
  b_write_book : Binds K fd_write_book ["book"] []
  f_read_book : Addr
  fd_read_book : FuncData
  F_read_book : Fun K "read_book" "read_book" s_read_book f_read_book fd_read_book
  g_read_book : mg "read_book" = some (.ref f_read_book)
  b_read_book : Binds K fd_read_book ["text"] []
  f_Lengths_init : Addr
  fd_Lengths_init : FuncData
  F_Lengths_init : Fun K "__init__" "Lengths.__init__" s_Lengths_init f_Lengths_init fd_Lengths_init
  M_Lengths : Mk K C_Lengths f_Lengths_init
  b_Lengths_init : Binds K fd_Lengths_init ["self"] []
  f_Lengths_eq : Addr
  fd_Lengths_eq : FuncData
  F_Lengths_eq : Fun K "__eq__" "Lengths.__eq__" s_Lengths_eq f_Lengths_eq fd_Lengths_eq
  h_Lengths_eq : Meth K C_Lengths "__eq__" f_Lengths_eq
  b_Lengths_eq : Binds K fd_Lengths_eq ["self", "other"] []
  f_l_tape : Addr
  fd_l_tape : FuncData
  F_l_tape : Fun K "_law_tape" "_law_tape" s_l_tape f_l_tape fd_l_tape
  g_l_tape : mg "_law_tape" = some (.ref f_l_tape)
  b_l_tape : Binds K fd_l_tape ["_law_script"] []
  f_l_pick : Addr
  fd_l_pick : FuncData
  F_l_pick : Fun K "_law_pick" "_law_pick" s_l_pick f_l_pick fd_l_pick
  g_l_pick : mg "_law_pick" = some (.ref f_l_pick)
  b_l_pick : Binds K fd_l_pick ["_law_tape_here", "_law_size"] []
  f_l_is_letters : Addr
  fd_l_is_letters : FuncData
  F_l_is_letters : Fun K "_law_is_letters" "_law_is_letters" s_l_is_letters f_l_is_letters fd_l_is_letters
  g_l_is_letters : mg "_law_is_letters" = some (.ref f_l_is_letters)
  b_l_is_letters : Binds K fd_l_is_letters ["_law_thing", "_law_most"] []
  f_l_sign : Addr
  fd_l_sign : FuncData
  F_l_sign : Fun K "_law_sign" "_law_sign" s_l_sign f_l_sign fd_l_sign
  g_l_sign : mg "_law_sign" = some (.ref f_l_sign)
  b_l_sign : Binds K fd_l_sign ["_law_tape_here"] []
  f_l_watches : Addr
  fd_l_watches : FuncData
  F_l_watches : Fun K "_law_watches" "_law_watches" s_l_watches f_l_watches fd_l_watches
  g_l_watches : mg "_law_watches" = some (.ref f_l_watches)
  b_l_watches : Binds K fd_l_watches ["_law_tape_here"] []
  f_l_text : Addr
  fd_l_text : FuncData
  F_l_text : Fun K "_law_text" "_law_text" s_l_text f_l_text fd_l_text
  g_l_text : mg "_law_text" = some (.ref f_l_text)
  b_l_text : Binds K fd_l_text ["_law_watches_here"] []
  f_l_due : Addr
  fd_l_due : FuncData
  F_l_due : Fun K "_law_due" "_law_due" s_l_due f_l_due fd_l_due
  g_l_due : mg "_law_due" = some (.ref f_l_due)
  b_l_due : Binds K fd_l_due ["_law_text_here"] []
  f_l_asked : Addr
  fd_l_asked : FuncData
  F_l_asked : Fun K "_law_asked" "_law_asked" s_l_asked f_l_asked fd_l_asked
  g_l_asked : mg "_law_asked" = some (.ref f_l_asked)
  b_l_asked : Binds K fd_l_asked ["_law_text_here"] []
  f_l_reads : Addr
  fd_l_reads : FuncData
  F_l_reads : Fun K "_law_reads" "_law_reads" s_l_reads f_l_reads fd_l_reads
  g_l_reads : mg "_law_reads" = some (.ref f_l_reads)
  b_l_reads : Binds K fd_l_reads ["_law_text_here"] []
  f_l_changed : Addr
  fd_l_changed : FuncData
  F_l_changed : Fun K "_law_changed" "_law_changed" s_l_changed f_l_changed fd_l_changed
  g_l_changed : mg "_law_changed" = some (.ref f_l_changed)
  b_l_changed : Binds K fd_l_changed ["_law_tape_here", "_law_text_here"] []
  f_l_refused : Addr
  fd_l_refused : FuncData
  F_l_refused : Fun K "_law_refused" "_law_refused" s_l_refused f_l_refused fd_l_refused
  g_l_refused : mg "_law_refused" = some (.ref f_l_refused)
  b_l_refused : Binds K fd_l_refused ["_law_thing"] []
  f_law : Addr
  fd_law : FuncData
  F_law : Fun K "law" "law" s_law f_law fd_law
  g_law : mg "law" = some (.ref f_law)
  b_law : Binds K fd_law ["_law_script"] []
  C_BadWatches : Addr
  c_BadWatches : mg "BadWatches" = some (.ref C_BadWatches)
  X_BadWatches : Rx.ExcF K f_WayError_init C_BadWatches
  C_BadBook : Addr
  c_BadBook : mg "BadBook" = some (.ref C_BadBook)
  X_BadBook : Rx.ExcF K f_WayError_init C_BadBook
  C_BadText : Addr
  c_BadText : mg "BadText" = some (.ref C_BadText)
  X_BadText : Rx.ExcF K f_WayError_init C_BadText
  C_WayError : Addr
  c_WayError : mg "WayError" = some (.ref C_WayError)
  X_WayError : Rx.ExcF K f_WayError_init C_WayError
  s_BadWatches_BadText : PySem.W.subIn K (.ref C_BadWatches) (.ref C_BadText) = some false
  s_BadWatches_BadWatches : PySem.W.subIn K (.ref C_BadWatches) (.ref C_BadWatches) = some true
  s_BadWatches_WayError : PySem.W.subIn K (.ref C_BadWatches) (.ref C_WayError) = some true
  s_BadWatches_BadBook : PySem.W.subIn K (.ref C_BadWatches) (.ref C_BadBook) = some false
  s_BadBook_BadText : PySem.W.subIn K (.ref C_BadBook) (.ref C_BadText) = some false
  s_BadBook_BadWatches : PySem.W.subIn K (.ref C_BadBook) (.ref C_BadWatches) = some false
  s_BadBook_WayError : PySem.W.subIn K (.ref C_BadBook) (.ref C_WayError) = some true
  s_BadBook_BadBook : PySem.W.subIn K (.ref C_BadBook) (.ref C_BadBook) = some true
  s_BadText_BadText : PySem.W.subIn K (.ref C_BadText) (.ref C_BadText) = some true
  s_BadText_BadWatches : PySem.W.subIn K (.ref C_BadText) (.ref C_BadWatches) = some false
  s_BadText_WayError : PySem.W.subIn K (.ref C_BadText) (.ref C_WayError) = some true
  s_BadText_BadBook : PySem.W.subIn K (.ref C_BadText) (.ref C_BadBook) = some false
  n_isinstance : mg "isinstance" = none
  n_str : mg "str" = none
  n_all : mg "all" = none
  n_len : mg "len" = none
  n_sorted : mg "sorted" = none
  n_enumerate : mg "enumerate" = none
  n_tuple : mg "tuple" = none
  n_list : mg "list" = none
  n_int : mg "int" = none
  n_range : mg "range" = none
  n_repr : mg "repr" = none
  t_LETTERS : Tok
  m_LETTERS : mg "LETTERS" = some (.str "abcdefghijklmnopqrstuvwxyz" t_LETTERS)
  t_MOST_WATCH : Tok
  m_MOST_WATCH : mg "MOST_WATCH" = some (.int 12 t_MOST_WATCH)
  t_MOST_WATCHES : Tok
  m_MOST_WATCHES : mg "MOST_WATCHES" = some (.int 12 t_MOST_WATCHES)
end W

local macro_rules | `(tactic| walk_at "rd") => `(tactic| repeat (first
  | with_reducible refine Rd.seq ?_ | with_reducible refine Rd.asg ?_ | with_reducible refine Rd.name ?_ | with_reducible refine Rd.var rfl ?_ | with_reducible refine Rd.con ?_ | with_reducible refine Rd.op ?_
  | with_reducible refine Rd.ret ?_ | with_reducible refine Rd.ifS ?_ | with_reducible refine Rd.test ?_ | with_reducible refine Rd.tstB ?_ | with_reducible refine Rd.bl ?_ | with_reducible refine Rd.blE ?_
  | with_reducible refine Rd.nil ?_ | with_reducible refine Rd.cons ?_ | with_reducible refine Rd.cb ?_ | with_reducible refine Rd.call ?_ | with_reducible refine Rd.un ?_
  | with_reducible refine Rd.i0 ?_ | with_reducible refine Rd.u1 ?_ | with_reducible refine Rd.eqI ?_ | with_reducible refine Rd.neI ?_ | with_reducible refine Rd.eqB ?_ | with_reducible refine Rd.neB ?_ | with_reducible refine Rd.eqS ?_ | with_reducible refine Rd.neS ?_
  | with_reducible refine Rd.and ?_ | with_reducible refine Rd.or ?_ | with_reducible refine Rd.not ?_ | with_reducible refine Rd.andV ?_ | with_reducible refine Rd.orV ?_ | with_reducible refine Rd.notV ?_ | with_reducible refine Rd.ifE ?_ | with_reducible refine Rd.chain ?_
  | with_reducible refine Rd.tup ?_ | with_reducible refine Rd.lst ?_ | with_reducible refine Rd.nxt ?_ | with_reducible refine Rd.retN ?_ | with_reducible refine Rd.drop ?_ | with_reducible refine Rd.brk ?_ | with_reducible refine Rd.cont ?_
  | with_reducible refine Rd.a1 ?_ | with_reducible refine Rd.a2 ?_ | with_reducible refine Rd.v2 ?_ | with_reducible refine Rd.int ?_ | with_reducible refine Rd.abs ?_ | with_reducible refine Rd.max2 ?_ | with_reducible refine Rd.min2 ?_ | with_reducible refine Rd.bm ?_ | with_reducible refine Rd.bm0 ?_ | with_reducible refine Rd.sl ?_ | with_reducible refine Rd.part ?_ | with_reducible refine Rd.noPart ?_ | with_reducible refine Rd.intE ?_ | with_reducible refine Rd.revL ?_ | with_reducible refine Rd.enx ?_ | with_reducible refine Rd.ebk ?_ | with_reducible refine Rd.ect ?_ | with_reducible refine Rd.ert ?_ | with_reducible refine Rd.gcons ?_ | with_reducible refine Rd.gnil ?_ | with_reducible refine Rd.par ?_ | with_reducible refine Rd.sub ?_ | with_reducible refine Rd.iter ?_ | with_reducible refine Rd.iterT ?_ | with_reducible refine Rd.rng1 ?_ | with_reducible refine Rd.refE ?_ | with_reducible refine Rd.aug rfl ?_ | with_reducible refine Rd.ipi ?_ | with_reducible refine Rd.lc ?_ | with_reducible refine Rd.tyes ?_ | with_reducible refine Rd.fldH ?_ | with_reducible refine Rd.sfldH ?_ | with_reducible refine Rd.mkH ?_ | with_reducible refine Rd.methH ?_ | with_reducible refine Rd.istr ?_ | with_reducible refine Rd.strE ?_ | with_reducible refine Rd.lstRg ?_ | with_reducible refine Rd.m1 ?_ | with_reducible refine Rd.dgetH ?_ | with_reducible refine Rd.dinH ?_ | with_reducible refine Rd.dninH ?_ | with_reducible refine Rd.dget1H ?_ | with_reducible refine Rd.strX ?_ | with_reducible refine Rd.tupRg ?_ | with_reducible refine Rd.rg1 ?_ | with_reducible refine Rd.rg2 ?_ | with_reducible refine Rd.intE2 ?_ | with_reducible refine Rw.zipH ?_ | with_reducible refine Rw.itemsH ?_ | with_reducible refine Rw.keysH ?_ | with_reducible refine Rw.dc ?_ | with_reducible refine Rw.ckw ?_ | with_reducible refine Rd.notT ?_ | with_reducible refine Rx.raiseH ?_ | with_reducible refine Rx.callS ?_ | with_reducible refine Rx.xvH ?_ | with_reducible refine Rx.rng3 ?_
  | with_reducible refine L2.iteT ?_ | with_reducible refine L2.iteF ?_
  | with_reducible refine Rd.iteb ?_ | with_reducible refine Rd.iten ?_ | with_reducible refine Rd.itbn ?_))

local macro_rules | `(tactic| walk_at "yes") => `(tactic| (refine (if_pos (by first | assumption | omega)).mpr ?_))
local macro_rules | `(tactic| walk_at "no") => `(tactic| (refine (if_neg (by first | assumption | omega)).mpr ?_))

local macro_rules | `(tactic| k_extra "ne") => `(tactic| first
  | with_reducible assumption | with_reducible exact Ne.symm (by with_reducible assumption) | with_reducible exact Rd.ntT (by with_reducible assumption) (by k_extra "tape")
  | with_reducible exact Rd.neN (by with_reducible assumption) (by k_extra "at") | with_reducible exact Rd.neN' (by with_reducible assumption) (by k_extra "at"))
local macro_rules | `(tactic| k_extra "tape") => `(tactic| first
  | with_reducible assumption | with_reducible exact Rd.tape_same (by with_reducible assumption) (by k_extra "tape"))
local macro_rules | `(tactic| k_extra "at") => `(tactic| first
  | with_reducible assumption
  | with_reducible exact Rd.at_same (by with_reducible assumption) (by k_extra "at")
  | with_reducible exact Rd.at_off (by with_reducible assumption) (by k_extra "ne") (by k_extra "at")
  | with_reducible exact Rd.at_but (by with_reducible assumption) (by k_extra "ne") (by k_extra "at"))
local macro_rules | `(tactic| k_extra "bk") => `(tactic| first
  | with_reducible assumption
  | with_reducible exact Rd.book_same (by with_reducible assumption) (by k_extra "bk")
  | with_reducible exact Rd.book_but (by with_reducible assumption) (by k_extra "tape") (by k_extra "bk"))
local macro_rules | `(tactic| k_extra "sqL") => `(tactic| first
  | with_reducible assumption | with_reducible exact L2.Same.seq (by with_reducible assumption) (by k_extra "sqL"))
local macro_rules | `(tactic| k_extra "sqT") => `(tactic| first
  | with_reducible assumption | with_reducible exact Ru.same_tup (by with_reducible assumption) (by k_extra "sqT"))
local macro_rules | `(tactic| k_extra "sq") => `(tactic| first
  | with_reducible assumption | (with_reducible show L2.SqL _ _ _ _; first | exact L2.SqL.of (by k_extra "at") | k_extra "sqL") | (with_reducible show L2.SqT _ _ _ _; first | exact L2.SqT.of (by k_extra "at") | k_extra "sqT"))
local macro_rules | `(tactic| k_extra "row") => `(tactic| first
  | with_reducible assumption | exact Or.inl (L2.SqL.of (by k_extra "at")) | exact Or.inr (L2.SqT.of (by k_extra "at")) | exact Or.inl (by k_extra "sqL") | exact Or.inr (by k_extra "sqT"))
local macro_rules | `(tactic| k_extra "same") => `(tactic| first
  | with_reducible exact L2.Same.refl _ | with_reducible assumption
  | with_reducible exact Rd.same_tr (by with_reducible assumption) (by k_extra "same")
  | with_reducible exact Rd.same_of2 (by with_reducible assumption) (by with_reducible assumption) (by k_extra "same"))
local macro_rules | `(tactic| k_extra "but") => `(tactic| first
  | with_reducible exact Rd.But.refl _ _ | with_reducible assumption
  | with_reducible exact Rd.but_tr (by with_reducible assumption) (by k_extra "but")
  | with_reducible exact Rd.but_sm (by with_reducible assumption) (by k_extra "but")
  | with_reducible exact Rd.but_of2 (by with_reducible assumption) (by with_reducible assumption) (by k_extra "but"))
local macro_rules | `(tactic| k_extra "sz") => `(tactic| first
  | with_reducible assumption | with_reducible exact Lt.Wd.line (by with_reducible assumption) (by decide) | (rw [PySem.sizeLine_eq]; omega)
  | (simp only [List.length_map, List.length_append, List.length_cons, List.length_nil, List.length_take] <;> rw [PySem.sizeLine_eq] <;> omega) | exact Nat.le_of_ble_eq_true rfl)
local macro_rules | `(tactic| k_extra "go1") => `(tactic| first
  | (with_reducible show Rd.nLenS _ _ _; refine Rd.lenStr (by k_extra "sz") ?_)
  | (with_reducible show Rd.nLen _ _ _ _; first | refine Rd.lenS (by k_extra "row") ?_ | refine Rd.lenI (by k_extra "row") ?_ | refine Rd.lenR (by k_extra "row") ?_)
  | (with_reducible show L2.rSlS _ _ _ _ _; refine Rd.slS (by k_extra "sz") ?_)
  | (with_reducible show L2.tyV _ "list" _ _ ∧ _; refine Rd.tyL (by k_extra "sq") ?_)
  | (with_reducible show Rd.nAddS _ _ _ _; refine Rd.addS (by k_extra "sz") ?_)
  | (with_reducible show L2.rIsi _ _ _ _; first | with_reducible refine Rd.isiStr ?_ | with_reducible refine Rd.isiB ?_ | with_reducible refine Rd.isiI ?_ | with_reducible refine Rd.isiIB ?_ | (first | with_reducible refine Rx.askInt (by with_reducible assumption) ?_ | with_reducible refine Rx.askBl (by with_reducible assumption) ?_ | with_reducible refine Rx.askStr (by with_reducible assumption) ?_ | with_reducible refine Rx.askLst (by with_reducible assumption) ?_ | with_reducible refine Rx.askTup (by with_reducible assumption) ?_ | with_reducible refine Rx.askDct (by with_reducible assumption) ?_))
  | (with_reducible show L2.rIn _ _ _ _ _ _; first | refine Rd.inStrsY (by k_extra "row") ?_ | refine Rd.inStrsN (by k_extra "row") ?_ | refine Rd.inIntsY (by k_extra "row") ?_ | refine Rd.inIntsN (by k_extra "row") ?_)
  | with_reducible refine And.intro (Eq.refl L2.V.non) ?_ | with_reducible refine Rd.ifN ?_ | with_reducible refine Rd.ifR ?_ | with_reducible refine Rd.ifI ?_ | with_reducible refine Rd.ifT ?_)
local macro_rules | `(tactic| walk_at "go") => `(tactic| (walk_at "rd"; repeat (k_extra "go1"; walk_at "rd")))

namespace W
open PySem PySem.Spec PyProof.Rows L2
section
variable {P : Program} {w : World} {K : PySem.W.Frag} {mg : Str → Option Value} {base : Heap}
/-! ### WayError.__init__ -/
abbrev sp_WayError_init (K : PySem.W.Frag) : Sp := Rx.spWe K
theorem ok_WayError_init (T : Txt K mg) : FnOk P w K mg base CX0 1 T.f_WayError_init T.fd_WayError_init ["self", "value"] (sp_WayError_init K) := by
  refine T.D_WayError_init.ok (CX := CX0) sc_WayError_init (fun vs H Q E h => ?_) (fun cdv A outer s H vs Q E hr h => ?_)
  · obtain ⟨a, C, v, rfl, _⟩ := h
    rfl
  · obtain ⟨a, C, v, rfl, oc, nv, ha, k⟩ := h
    refine ⟨_, (pss_one (ps_ost (pv 0) (pv 1))), ?_⟩
    exact ⟨_, rfl, _, rfl, a, C, rfl, oc, nv, .inl ⟨ha, fun dx n ne => k dx n ne⟩⟩

end
end W

namespace W
open PySem PySem.Spec PyProof.Rows L2
section
variable {P : Program} {w : World} {K : PySem.W.Frag} {mg : Str → Option Value} {base : Heap}
/-! ### own == handed anything -/
theorem sub_ne {K : PySem.W.Frag} {C D : Addr} (h1 : PySem.W.subIn K (.ref C) (.ref C) = some true) (h2 : PySem.W.subIn K (.ref D) (.ref C) = some false) : (Value.ref D == Value.ref C) = false := by
  by_cases e : D = C
  · subst e
    rw [h1] at h2
    cases h2
  · simp [e]
/-- x is of a type of which C tells r -/
def Of (K : PySem.W.Frag) (H : Hp) (C : Addr) (x : V) (r : Bool) : Prop := ∃ t, TyX K H x t ∧ PySem.W.kitOne K t (.ref C) = some r
theorem Of.ask {C : Addr} {H : Hp} {x : V} {r : Bool} {Q : VK} (h : Of K H C x r) (q : Q (.bl r) H) : rIsi K [x, .ref C] H Q := let ⟨_, t, k⟩ := h; ⟨_, _, _, _, r, rfl, .own _, t, k, q⟩
theorem Of.kind {C : Addr} {H : Hp} {x : V} {k : Rx.Kd} (ic : PySem.W.isClsIn K C = true) (tc : PySem.W.typeIn K (.ref C) = some (.type "type")) (h : Rx.Is H x k) : Of K H C x false := ⟨_, h.ty, by cases k <;> exact Rp.kitB_own ic tc rfl⟩
theorem Of.own {C a dx : Addr} {fs : List (Str × V)} {H : Hp} (c : Cls K C) (o : OwnTy K C) (e : H a = some (.ins C dx fs)) : Of K H C (.ref a) true := ⟨_, .base (.ins e c o.ha o.hn o.htk o.hm), kit_self⟩
theorem Of.other {C D a dx : Addr} {fs : List (Str × V)} {H : Hp} (ic : PySem.W.isClsIn K C = true) (tc : PySem.W.typeIn K (.ref C) = some (.type "type")) (sl : PySem.W.subIn K (.ref C) (.ref C) = some true) (s : PySem.W.subIn K (.ref D) (.ref C) = some false) (c : Cls K D) (o : OwnTy K D) (e : H a = some (.ins D dx fs)) : Of K H C (.ref a) false :=
  ⟨_, .base (.ins e c o.ha o.hn o.htk o.hm), Rp.kitO_own ic tc s (sub_ne sl s)⟩
def sp_Lengths_eq (K : PySem.W.Frag) (C : Addr) : Sp := fun vs H Q _ => ∃ (x y : V) (r : Bool), vs = [x, y] ∧ Of K H C y r ∧ Q (.bl r) H
def sp_Numbers_eq (K : PySem.W.Frag) (C : Addr) : Sp := fun vs H Q _ => ∃ (x y : V) (r : Bool), vs = [x, y] ∧ Of K H C y r ∧ Q (.bl r) H
theorem ok_Lengths_eq (T : Txt K mg) : FnOk P w K mg base CX0 1 T.f_Lengths_eq T.fd_Lengths_eq ["self", "other"] (sp_Lengths_eq K T.C_Lengths) := by
  refine T.F_Lengths_eq.ok sc_Lengths_eq (fun vs H Q E h => ?_) (fun cdv A outer s H vs Q E hr h => ?_)
  · obtain ⟨x, y, r, rfl, _⟩ := h
    rfl
  · obtain ⟨x, y, r, rfl, ty, k⟩ := h
    refine ⟨_, (pss_one (ps_ret (pe_callB (id := "isinstance") (r := rIsi K) call_isi (by rfl) T.n_isinstance (by decide +kernel) (pa_cons (pv 1) (pa_cons (pe_glob (v := .ref T.C_Lengths) rfl T.c_Lengths rfl) pa_nil))))), ?_⟩
    walk_at "rd"
    refine ty.ask ?_
    exact k
/-- an instance on the left, something else on the right: what the own == tells -/
theorem oxOf {C a dx : Addr} {fs : List (Str × V)} {H : Hp} {y : V} {t : Value} {sp : Sp} {Q : VK} (e : H a = some (.ins C dx fs)) (ty : TyX K H y t) (nf : PySem.W.notFirst K C t = true) (h : sp [.ref a, y] H (fun v H' => ∃ k, v = .bl k ∧ Q (.bl k) H') E0) : Rp.rOX K C sp E0 (.ref a) y H Q :=
  ⟨a, dx, fs, t, rfl, e, ty, nf, h⟩

end
end W

namespace W
open PySem PySem.Spec PyProof.Rows L2
section
variable {P : Program} {w : World} {K : PySem.W.Frag} {mg : Str → Option Value} {base : Heap}
/-! ### the tape: a list of the cells (never written) and four ints; what is drawn lies below the size -/
/-- a tape stands at t, its cells at c -/
def sp_l_tape (K : PySem.W.Frag) : Sp := fun vs H Q _ => ∃ (a : Addr) (ns : List Int), vs = [.ref a] ∧ SqL K H a (ns.map V.int) ∧ ∀ t c H', Tape H' t c → Same H H' → H t = none → H c = none → Q (.ref t) H'
def sp_l_pick (K : PySem.W.Frag) : Sp := fun vs H Q _ => ∃ (t c : Addr) (n : Int), vs = [.ref t, .int n] ∧ Tape H t c ∧ 0 < n ∧ n < 1073741824 ∧ ∀ r H', 0 ≤ r → r < n → Tape H' t c → Rd.But t H H' → Q (.int r) H'
theorem ok_l_tape (T : Txt K mg) : FnOk P w K mg base CX0 1 T.f_l_tape T.fd_l_tape ["_law_script"] (sp_l_tape K) := by
  refine T.F_l_tape.ok sc_l_tape (fun vs H Q E h => ?_) (fun cdv A outer s H vs Q E hr h => ?_)
  · obtain ⟨a, ns, rfl, _⟩ := h
    rfl
  · obtain ⟨a, ns, rfl, hS, k⟩ := h
    refine ⟨_, (pss_one (ps_ret (pe_lst (pa_cons (pe_callTy (T := "list") (r := Rd.nListOf K) Rd.c_listOf (by rfl) T.n_list (by decide +kernel) (pa_cons (pv 0) pa_nil)) (pa_cons pe_int (pa_cons pe_int (pa_cons pe_int (pa_cons pe_int pa_nil)))))))), ?_⟩
    walk_at "rd"
    refine Rd.listOf (.inl hS) (Rd.new fun c G hc gc s1 => ?_)
    walk_at "rd"
    refine ⟨Nat.le_of_ble_eq_true rfl, Rd.new fun t G2 ht gt s2 => ?_⟩
    have tc : c ≠ t := ne_of_none gc ht
    exact k t c _ ⟨ns, 0, 0, 1, 0, tc.symm, gt, s2 _ _ gc, by decide, by omega, by decide, by decide⟩ (s1.trans s2) (s1.free ht) hc
theorem ok_l_pick (T : Txt K mg) : FnOk P w K mg base CX0 1 T.f_l_pick T.fd_l_pick ["_law_tape_here", "_law_size"] (sp_l_pick K) := by
  refine T.F_l_pick.ok sc_l_pick (fun vs H Q E h => ?_) (fun cdv A outer s H vs Q E hr h => ?_)
  · obtain ⟨t, c, n, rfl, _⟩ := h
    rfl
  · obtain ⟨t, c, n, rfl, ⟨ns, x, y, z, u, tc, h1, h2, x0, x1, z0, z1⟩, n0, n1, k⟩ := h
    refine ⟨_, (pss_cons (ps_if (pt_cmpR op_gt (pe_ix (r := rIxL K) ix_list (pv 0) pe_int (fun _ _ => rfl)) pe_int (nomark _))
  (pss_cons (ps_set (i := 2) sc_l_pick.nd rfl (.inl rfl) (pe_op op_mod (pe_callTy (T := "int") (r := _) Rd.c_int (by rfl) T.n_int (by decide +kernel) (pa_cons (pe_ix (r := rIxL K) ix_list (pv 0) pe_int (fun _ _ => rfl)) pa_nil)) (pv 1)))
  (pss_cons (ps_asg (pe_op op_fdiv (pe_ix (r := rIxL K) ix_list (pv 0) pe_int (fun _ _ => rfl)) (pv 1)) (pg_sub (pv 0) pe_int set_list))
  (pss_one (ps_ret (pv 2)))))
  pss_nil)
  (pss_cons (ps_asg (pe_op op_add (pe_ix (r := rIxL K) ix_list (pv 0) pe_int (fun _ _ => rfl)) pe_int) (pg_sub (pv 0) pe_int set_list))
  (pss_cons (ps_set (i := 3) sc_l_pick.nd rfl (.inl rfl) pe_int)
  (C8.pss_cut (ps_if (pt_cmpR op_lt (pe_ix (r := rIxL K) ix_list (pv 0) pe_int (fun _ _ => rfl)) (pe_callB (id := "len") (r := Rd.nLen K) Rd.c_len (by rfl) T.n_len (by decide +kernel) (pa_cons (pe_ix ix_list (pv 0) pe_int (fun _ _ => rfl)) pa_nil)) (nomark _))
  (pss_cons (ps_set (i := 3) sc_l_pick.nd rfl (.inl rfl) (pe_ix (r := rIxL K) ix_list (pe_ix ix_list (pv 0) pe_int (fun _ _ => rfl)) (pe_ix (r := rIxL K) ix_list (pv 0) pe_int (fun _ _ => rfl)) (fun _ _ => rfl)))
  (pss_one (ps_asg (pe_op op_add (pe_ix (r := rIxL K) ix_list (pv 0) pe_int (fun _ _ => rfl)) pe_int) (pg_sub (pv 0) pe_int set_list))))
  pss_nil)
  (pss_cons (ps_if (pt_cmpR op_ge (pv 3) (pe_op op_pow pe_int pe_int) (nomark _))
  (pss_cons (ps_asg (pe_op op_fdiv (pv 3) (pv 1)) (pg_sub (pv 0) pe_int set_list))
  (pss_one (ps_ret (pe_op op_mod (pe_callTy (T := "int") (r := _) Rd.c_int (by rfl) T.n_int (by decide +kernel) (pa_cons (pv 3) pa_nil)) (pv 1)))))
  pss_nil)
  (pss_cons (ps_set (i := 4) sc_l_pick.nd rfl (.inl rfl) (pe_op op_mod (pe_callTy (T := "int") (r := _) Rd.c_int (by rfl) T.n_int (by decide +kernel) (pa_cons (pe_op op_add (pe_op op_add (pe_op op_mul (pe_ix (r := rIxL K) ix_list (pv 0) pe_int (fun _ _ => rfl)) pe_int) (pe_op op_mod (pe_callTy (T := "int") (r := _) Rd.c_int (by rfl) T.n_int (by decide +kernel) (pa_cons (pv 3) pa_nil)) pe_int)) (pe_op op_mul (pe_ix (r := rIxL K) ix_list (pv 0) pe_int (fun _ _ => rfl)) pe_int)) pa_nil)) pe_int))
  (pss_cons (ps_set (i := 4) sc_l_pick.nd rfl (.inl rfl) (pe_op op_mod (pe_callTy (T := "int") (r := _) Rd.c_int (by rfl) T.n_int (by decide +kernel) (pa_cons (pe_op op_mul (pv 4) (pe_op op_add (pe_op op_fdiv (pv 4) pe_int) pe_int)) pa_nil)) pe_int))
  (pss_cons (ps_asg (pv 4) (pg_sub (pv 0) pe_int set_list))
  (pss_one (ps_ret (pe_op op_mod (pe_callTy (T := "int") (r := _) Rd.c_int (by rfl) T.n_int (by decide +kernel) (pa_cons (pe_op op_fdiv (pv 4) pe_int) pa_nil)) (pv 1)))))))))))), ?_⟩
    walk_at "rd"
    refine Rd.ixL (.of h1) (atI_nat (j := 2) rfl) ?_
    walk_at "rd"
    refine ite2 (fun q => ?_) (fun q => ?_)
    · walk_at "rd"
      refine Rd.ixL (.of h1) (atI_nat (j := 2) rfl) ?_
      walk_at "rd"
      refine Rd.iC n0 ?_
      walk_at "rd"
      refine Rd.ixL (.of h1) (atI_nat (j := 2) rfl) ?_
      walk_at "rd"
      refine Rd.iC ⟨n0, n1⟩ ?_
      walk_at "rd"
      refine Rd.setG h1 (show ixN 5 2 = some 2 by decide) rfl fun G g1 gb => ?_
      walk_at "rd"
      exact k _ _ (Int.emod_nonneg _ (by omega)) (Int.emod_lt_of_pos _ n0) ⟨ns, x, _, z, u, tc, g1, by rw [gb _ tc.symm]; exact h2, x0, x1, z0, z1⟩ (fun b o hb e => by rw [gb b hb]; exact e)
    · walk_at "rd"
      refine Rd.ixL (.of h1) (atI_nat (j := 4) rfl) ?_
      walk_at "rd"
      refine Rd.setG h1 (show ixN 5 4 = some 4 by decide) rfl fun G g1 gb => ?_
      have g2 : G c = some (.lst (ns.map V.int)) := by rw [gb _ tc.symm]; exact h2
      walk_at "rd"
      -- the cell m is read (or 0)
      refine Rd.cut (fun σ G' => ∃ x' m : Int, σ = [some (.ref t), some (.int n), none, some (.int m), none] ∧ 0 ≤ x' ∧ x' ≤ ns.length ∧ G' t = some (.lst [.ref c, .int x', .int y, .int z, .int (u + 1)]) ∧ (∀ b, b ≠ t → G' b = H b)) ?_ ?_
      · walk_at "rd"
        refine Rd.ixL (.of g1) (atI_nat (j := 1) rfl) ?_
        walk_at "rd"
        refine Rd.ixL (.of g1) (atI_nat (j := 0) rfl) ?_
        walk_at "rd"
        refine Rd.len (.inl (.of g2)) ?_
        rw [List.length_map]
        walk_at "rd"
        refine ite2 (fun q2 => ?_) (fun q2 => ?_)
        · walk_at "rd"
          refine Rd.ixL (.of g1) (atI_nat (j := 0) rfl) ?_
          walk_at "rd"
          refine Rd.ixL (.of g1) (atI_nat (j := 1) rfl) ?_
          have hx : x.toNat < ns.length := by omega
          refine Rd.ixL (.of g2) (Rd.atI_of x0 (Rd.map_int hx)) ?_
          walk_at "rd"
          refine Rd.ixL (.of g1) (atI_nat (j := 1) rfl) ?_
          walk_at "rd"
          refine Rd.setG g1 (show ixN 5 1 = some 1 by decide) rfl fun G2 k1 kb => ?_
          walk_at "rd"
          exact ⟨x + 1, _, rfl, by omega, by omega, k1, fun b hb => (kb b hb).trans (gb b hb)⟩
        · walk_at "rd"
          exact ⟨x, 0, rfl, x0, x1, g1, gb⟩
      · rintro _ G' ⟨x', m, rfl, x'0, x'1, e1, eb⟩
        have e2 : G' c = some (.lst (ns.map V.int)) := by rw [eb _ tc.symm]; exact h2
        walk_at "rd"
        refine Rd.iC ⟨by decide, by decide, by decide⟩ ?_
        walk_at "rd"
        refine ite2 (fun q2 => ?_) (fun q2 => ?_)
        · walk_at "rd"
          refine Rd.iC ⟨n0, n1⟩ ?_
          walk_at "rd"
          refine Rd.setG e1 (show ixN 5 2 = some 2 by decide) rfl fun G2 k1 kb => ?_
          walk_at "rd"
          refine Rd.iC n0 ?_
          walk_at "rd"
          exact k _ _ (Int.emod_nonneg _ (by omega)) (Int.emod_lt_of_pos _ n0) ⟨ns, x', _, z, u + 1, tc, k1, by rw [kb _ tc.symm]; exact e2, x'0, x'1, z0, z1⟩ (fun b o hb e => by rw [kb b hb, eb b hb]; exact e)
        · walk_at "rd"
          refine Rd.ixL (.of e1) (atI_nat (j := 3) rfl) ?_
          walk_at "rd"
          refine Rd.iC (.inr (by decide)) ?_
          walk_at "rd"
          refine Rd.iC (by decide) ?_
          walk_at "rd"
          refine Rd.ixL (.of e1) (atI_nat (j := 4) rfl) ?_
          walk_at "rd"
          refine Rd.iC (.inr (by decide)) ?_
          walk_at "rd"
          refine Rd.iC (by decide) ?_
          generalize hM : (z * 48271 + m % 2147483629 + (u + 1) * 69621) % 2147483647 = M
          have M0 : 0 ≤ M := by rw [← hM]; exact Int.emod_nonneg _ (by decide)
          have M1 : M < 2147483647 := by rw [← hM]; exact Int.emod_lt_of_pos _ (by decide)
          walk_at "rd"
          refine Rd.iC ⟨by decide, by decide⟩ ?_
          walk_at "rd"
          refine Rd.iC (.inl ⟨by omega, by omega⟩) ?_
          walk_at "rd"
          refine Rd.iC (by decide) ?_
          generalize hN : M * (M / 1009 + 40692) % 2147483399 = N
          have N0 : 0 ≤ N := by rw [← hN]; exact Int.emod_nonneg _ (by decide)
          have N1 : N < 2147483399 := by rw [← hN]; exact Int.emod_lt_of_pos _ (by decide)
          walk_at "rd"
          refine Rd.setG e1 (show ixN 5 3 = some 3 by decide) rfl fun G2 k1 kb => ?_
          walk_at "rd"
          refine Rd.iC ⟨by decide, by decide⟩ ?_
          walk_at "rd"
          refine Rd.iC n0 ?_
          walk_at "rd"
          exact k _ _ (Int.emod_nonneg _ (by omega)) (Int.emod_lt_of_pos _ n0) ⟨ns, x', y, N, u + 1, tc, k1, by rw [kb _ tc.symm]; exact e2, x'0, x'1, N0, by omega⟩ (fun b o hb e => by rw [kb b hb, eb b hb]; exact e)
theorem pickR {K : PySem.W.Frag} {H : Hp} {t c : Addr} {n : Int} {Q : VK} {E : XK} (T : Tape H t c) (h0 : 0 < n) (h1 : n < 1073741824) (k : ∀ r H', 0 ≤ r → r < n → Tape H' t c → Rd.But t H H' → Q (.int r) H') : sp_l_pick K [.ref t, .int n] H Q E := ⟨t, c, n, rfl, T, h0, h1, k⟩
/-! ### what stays when only the tape is written -/
theorem but_L {K : PySem.W.Frag} {H H' : Hp} {t a : Addr} {xs : List V} (e : Rd.But t H H') (n : a ≠ t) (h : SqL K H a xs) : SqL K H' a xs := by
  rcases h with (h | ⟨o, h⟩) | h
  · exact .inl (.inl (e _ _ n h))
  · exact .inl (.inr ⟨o, e _ _ n h⟩)
  · exact .inr h
theorem but_T {K : PySem.W.Frag} {H H' : Hp} {t a : Addr} {xs : List V} (e : Rd.But t H H') (n : a ≠ t) (h : SqT K H a xs) : SqT K H' a xs := by
  rcases h with (h | ⟨o, h⟩) | h
  · exact .inl (.inl (e _ _ n h))
  · exact .inl (.inr ⟨o, e _ _ n h⟩)
  · exact .inr h
theorem but_R {K : PySem.W.Frag} {H H' : Hp} {t a : Addr} {xs : List V} (e : Rd.But t H H') (n : a ≠ t) (h : Ru.SqR K H a xs) : Ru.SqR K H' a xs := h.imp (but_L e n) (but_T e n)

end
end W

namespace W
open PySem PySem.Spec PyProof.Rows L2
section
variable {P : Program} {w : World} {K : PySem.W.Frag} {mg : Str → Option Value} {base : Heap}
/-! ### letters and watches: texts of any signs -/
def sp_is_letters (K : PySem.W.Frag) : Sp := fun vs H Q _ => ∃ z : Str, vs = [.str z] ∧ z.length ≤ 1000000 ∧ ∀ (b : Bool) H', (b = true ↔ Lt.Let z) → Same H H' → Q (.bl b) H'
def sp_is_watch (K : PySem.W.Frag) : Sp := fun vs H Q _ => ∃ z : Str, vs = [.str z] ∧ z.length ≤ 1000000 ∧ ∀ (b : Bool) H', (b = true ↔ Lt.Wd 12 z) → Same H H' → Q (.bl b) H'
theorem let_all (z : Str) : (z.cps.toList.map fun c => decide (c ∈ Lt.Abc.cps.toList)).all id = true ↔ Lt.Let z := by
  rw [List.all_eq_true]
  constructor
  · intro h c hc
    have := h _ (List.mem_map.mpr ⟨c, hc, rfl⟩)
    simpa using this
  · intro h b hb
    obtain ⟨c, hc, rfl⟩ := List.mem_map.mp hb
    simpa using h c hc
theorem ok_is_letters (T : Txt K mg) : FnOk P w K mg base CX0 1 T.f_is_letters T.fd_is_letters ["value"] (sp_is_letters K) := by
  refine T.F_is_letters.ok sc_is_letters (fun vs H Q E h => ?_) (fun cdv A outer s H vs Q E hr h => ?_)
  · obtain ⟨z, rfl, _⟩ := h
    rfl
  · obtain ⟨z, rfl, hl, k⟩ := h
    refine ⟨_, (pss_one (ps_ret (pe_and (pe_callB (id := "isinstance") (r := rIsi K) call_isi (by rfl) T.n_isinstance (by decide +kernel) (pa_cons (pv 0) (pa_cons (pe_bltn (v := .ty "str") (u := .type "str") (by rfl) T.n_str (by decide +kernel) rfl) pa_nil))) (pe_one (pe_callB (id := "all") (r := rAll K) (cr_all rfl) (by rfl) T.n_all (by decide +kernel) (pa_cons (pe_lc (own := [("letter", 1)]) (g := gName 1) (tt := tYes) rfl sc_is_letters.nd (pi_str (pv 0)) (blkOk_by (own := [("letter", 1)]) (N := ["value", "letter"]) (sc := defScope s_is_letters) (by decide +kernel)) (fun _ _ _ _ _ => (pg_name (i := 1) sc_is_letters.nd rfl (.inl rfl))) (fun _ _ _ _ _ => pts_nil) (fun _ _ _ _ _ => (pe_cmpR Rd.o_inC (pv 1) (pe_glob (v := .str "abcdefghijklmnopqrstuvwxyz") rfl T.m_LETTERS ⟨_, rfl⟩) rfl))) pa_nil)))))), ?_⟩
    walk_at "rd"
    refine Rd.isiStr ?_
    walk_at "rd"
    refine Rd.lcS walk_str (fun _ _ => trivial) (fun _ i acc _ => acc = ((z.cps.toList.take i).map fun c => decide (c ∈ Lt.Abc.cps.toList)).map V.bl) (fun _ _ _ _ _ => rfl) ?_ ?_
    · rintro D i x G _ acc nD hi hD sm rfl ⟨rfl, c, hc, rfl⟩
      walk_at "rd"
      refine ⟨rfl, Rd.tyes ?_⟩
      walk_at "rd"
      refine Rd.inC ?_
      have hi2 : i < z.length := hi
      have hc2 : z.cps.toList[i]? = some c := by simpa using hc
      refine Rd.lcPush hD nD sm (by rw [List.length_map, List.length_map, List.length_take, sizeLine_eq]; omega) fun G _ _ => ?_
      rw [Rd.take_snoc hc2, List.map_append, List.map_append]
      rfl
    · rintro D acc G nD hD sm rfl
      refine Rd.all (.of hD) ?_
      rw [show (z.cps.toList.take z.cps.size) = z.cps.toList from by rw [← Array.length_toList, List.take_length]]
      exact k _ _ (let_all z) sm
theorem ok_is_watch (T : Txt K mg) : FnOk P w K mg base CX0 2 T.f_is_watch T.fd_is_watch ["thing"] (sp_is_watch K) := by
  refine T.F_is_watch.ok sc_is_watch (fun vs H Q E h => ?_) (fun cdv A outer s H vs Q E hr h => ?_)
  · obtain ⟨z, rfl, _⟩ := h
    rfl
  · obtain ⟨z, rfl, hl, k⟩ := h
    refine ⟨_, (pss_one (ps_ret (pe_and (pe_call (ok_is_letters T) (hr.mono (by decide)) rfl T.g_is_letters T.F_is_letters.kp T.b_is_letters .nil pass0 (pa_cons (pv 0) pa_nil)) (pe_one (pe_chain op_le op_le pe_int (pe_callB (id := "len") (r := _) Rd.c_lenS (by rfl) T.n_len (by decide +kernel) (pa_cons (pv 0) pa_nil)) (pe_glob (v := .int 12) rfl T.m_MOST_WATCH ⟨_, rfl⟩)))))), ?_⟩
    walk_at "rd"
    refine ⟨z, rfl, hl, fun b H1 hb s1 => ?_⟩
    walk_at "rd"
    cases b with
    | false =>
      refine Rd.no (fun e => nomatch e) ?_
      walk_at "rd"
      exact k _ _ ⟨fun e => (nomatch e), fun e => absurd (hb.mpr e.ok) Bool.false_ne_true⟩ s1
    | true =>
      have L := hb.mp rfl
      refine Rd.yes rfl ?_
      walk_at "rd"
      refine Rd.lenStr (by rw [sizeLine_eq]; omega) ?_
      walk_at "rd"
      by_cases c : (1 : Int) ≤ (z.length : Nat)
      · refine Rd.yes c ?_
        walk_at "rd"
        exact k _ _ ⟨fun e => ⟨L, by omega, by have := of_decide_eq_true e; omega⟩, fun e => decide_eq_true e.l1⟩ s1
      · refine Rd.no c ?_
        walk_at "rd"
        exact k _ _ ⟨fun e => (nomatch e), fun e => absurd (by have := e.l0; omega) c⟩ s1

end
end W

namespace W
open PySem PySem.Spec PyProof.Rows L2
section
variable {P : Program} {w : World} {K : PySem.W.Frag} {mg : Str → Option Value} {base : Heap}
/-! ### books of any watches -/
def okAt (ws : List Str) (i : Nat) : Prop := ∀ w, ws[i]? = some w → Lt.Wd 12 w ∧ w ∉ ws.take i
/-- the first wrong watch is the i-th -/
def FirstBad (ws : List Str) (i : Nat) : Prop := i < ws.length ∧ (∀ j, j < i → okAt ws j) ∧ ¬ okAt ws i
theorem watches_of {ws : List Str} (l : ws.length ≤ 12) (h : ∀ i, i < ws.length → okAt ws i) : Watches ws := by
  refine ⟨?_, l, fun z m => ?_⟩
  · refine List.pairwise_iff_getElem.mpr fun i j hi hj hij e => ?_
    refine (h j hj _ (List.getElem?_eq_getElem hj)).2 ?_
    rw [← e, List.mem_iff_getElem?]
    exact ⟨i, by rw [List.getElem?_take, if_pos hij]; exact List.getElem?_eq_getElem hi⟩
  · obtain ⟨i, hi, rfl⟩ := List.getElem_of_mem m
    exact (h i hi _ (List.getElem?_eq_getElem hi)).1
theorem okAt_of {ws : List Str} (L : Watches ws) (i : Nat) : okAt ws i := fun w e => ⟨L.ok w (List.mem_of_getElem? e), Rd.nodup_take L.nd e⟩
theorem first_or (ws : List Str) : ∀ n, n ≤ ws.length → (∀ i, i < n → okAt ws i) ∨ ∃ i, FirstBad ws i
  | 0, _ => .inl fun i h => absurd h (Nat.not_lt_zero i)
  | n + 1, h => by
    rcases first_or ws n (by omega) with k | k
    · by_cases c : okAt ws n
      · exact .inl fun i hi => by
          rcases Nat.lt_succ_iff_lt_or_eq.mp hi with q | rfl
          · exact k i q
          · exact c
      · exact .inr ⟨n, by omega, k, c⟩
    · exact .inr k
/-- what is handed to a book: right watches, or what is due -/
def BookIn (CB : Addr) (ws : List Str) (H : Hp) (E : XK) (ok : Prop) : Prop := (12 < ws.length ∧ Rx.Raised CB (.int (-1)) H E) ∨ (ws.length ≤ 12 ∧ ∃ i, FirstBad ws i ∧ Rx.Raised CB (.int (i : Nat)) H E) ∨ (Watches ws ∧ ok)
def sp_Book_init (K : PySem.W.Frag) (C CB : Addr) : Sp := fun vs H Q E => ∃ (b a : Addr) (ws : List Str), vs = [.ref b, .ref a] ∧ (∃ dx, H b = some (.ins C dx [])) ∧ Ru.SqR K H a (ws.map V.str) ∧ (∀ z ∈ ws, z.length ≤ 1000000) ∧ ws.length ≤ 1000000 ∧ BookIn CB ws H E (∀ H', BookAt C H' b ws → Rd.But b H H' → Q .non H')
def sp_Book_eq (K : PySem.W.Frag) (C : Addr) : Sp := fun vs H Q _ => ∃ (b c : Addr) (ws zs : List Str), vs = [.ref b, .ref c] ∧ BookAt C H b ws ∧ BookAt C H c zs ∧ ws.length ≤ 12 ∧ zs.length ≤ 12 ∧ (∀ z ∈ ws, z.length ≤ 1000000) ∧ (∀ z ∈ zs, z.length ≤ 1000000) ∧ ∀ (r : Bool) H', (r = true ↔ ws.length = zs.length ∧ ∀ w ∈ ws, w ∈ zs) → Same H H' → Q (.bl r) H'
def sp_check_book (K : PySem.W.Frag) (C CB : Addr) : Sp := fun vs H Q E => ∃ x, vs = [x] ∧ ((∃ (b : Addr) (ws : List Str), x = .ref b ∧ BookAt C H b ws ∧ Q x H) ∨ (Of K H C x false ∧ Rx.Raised CB x H E))
theorem ok_Book_init (T : Txt K mg) : FnOk P w K mg base (L2.CX P w) 4 T.f_Book_init T.fd_Book_init ["self", "watches"] (sp_Book_init K T.C_Book T.C_BadWatches) := by
  refine T.F_Book_init.okX sc_Book_init (fun vs H Q E h => ?_) (fun cdv A outer s H vs Q E hr h => ?_)
  · obtain ⟨b, a, ws, rfl, _⟩ := h
    rfl
  · obtain ⟨b, a, ws, rfl, ⟨dx, hb⟩, hS, hz, hl, h⟩ := h
    refine ⟨_, (pss_cons (ps_if (PW.pt (pw_or (pt_not (pt_val (pe_callB (id := "isinstance") (r := rIsiT K) call_isiT (by rfl) T.n_isinstance (by decide +kernel) (pa_cons (pv 1) (pa_cons (pe_tup (pa_cons (pe_bltn (v := .ty "list") (u := .type "list") (by rfl) T.n_list (by decide +kernel) rfl) (pa_cons (pe_bltn (v := .ty "tuple") (u := .type "tuple") (by rfl) T.n_tuple (by decide +kernel) rfl) pa_nil))) pa_nil))))) (pw_or1 (pt_cmpR op_gt (pe_callB (id := "len") (r := Rd.nLen K) Rd.c_len (by rfl) T.n_len (by decide +kernel) (pa_cons (pv 1) pa_nil)) (pe_glob (v := .int 12) rfl T.m_MOST_WATCHES ⟨_, rfl⟩) (nomark _)))))
  (pss_one (Rx.ps_raise1 rfl T.X_BadWatches T.tI_WayError_init (ok_WayError_init T) (hr.mono (by decide)) T.b_WayError_init rfl T.c_BadWatches (takes_of rfl rfl rfl rfl) (pe_un un_neg pe_int)))
  pss_nil)
  (pss_cons (ps_set (i := 2) sc_Book_init.nd rfl (.inl rfl) (pe_lst pa_nil))
  (pss_cons (ps_for (passes_of rfl) rfl (Ru.pi_or (pi_enum (by rfl) T.n_enumerate (pa_cons (pv 1) pa_nil)) (Ru.pi_enumT (by rfl) T.n_enumerate (pa_cons (pv 1) pa_nil))) (pg_tup rfl (pgs_cons (pg_name (i := 3) sc_Book_init.nd rfl (.inl rfl)) (pgs_cons (pg_name (i := 4) sc_Book_init.nd rfl (.inl rfl)) pgs_nil)))
  (pss_cons (ps_if (PW.pt (pw_or (pt_not (pt_val (pe_call (ok_is_watch T) (hr.mono (by decide)) rfl T.g_is_watch T.F_is_watch.kp T.b_is_watch .nil pass0 (pa_cons (pv 4) pa_nil)))) (pw_or1 (pt_cmpR (r := rIn K false) op_in_seq (pv 4) (pv 2) (by rfl)))))
  (pss_one (Rx.ps_raise1 rfl T.X_BadWatches T.tI_WayError_init (ok_WayError_init T) (hr.mono (by decide)) T.b_WayError_init rfl T.c_BadWatches (takes_of rfl rfl rfl rfl) (pv 3)))
  pss_nil)
  (pss_one (ps_expr (pe_bm PySem.F.plainAttrs_list PySem.F.slot_list_append PySem.F.type_list_append mt_append (pv 2) (pa_cons (pv 4) pa_nil))))))
  (pss_one (ps_fld (pv 0) (pe_callTy (T := "tuple") (r := Rd.nTupOf K) Rd.c_tupOf (by rfl) T.n_tuple (by decide +kernel) (pa_cons (pv 2) pa_nil)) rfl))))), ?_⟩
    walk_at "rd"
    refine ⟨Nat.le_of_ble_eq_true rfl, Rd.new fun p G hp gp sG => ?_⟩
    walk_at "rd"
    refine Ru.isRow (hS.same sG) gp ?_
    walk_at "rd"
    refine Rd.len (hS.same sG) ?_
    rw [List.length_map]
    walk_at "rd"
    rcases h with ⟨l, rs⟩ | h
    · refine Rd.yes (by omega) ?_
      walk_at "rd"
      exact rs.now sG
    have l12 : ws.length ≤ 12 := by
      rcases h with ⟨l, _⟩ | ⟨L, _⟩
      · exact l
      · exact L.l1
    refine Rd.no (by omega) ?_
    walk_at "rd"
    refine ⟨Nat.zero_le _, Rd.new fun f G2 nf gf s2 => ?_⟩
    walk_at "rd"
    refine Ru.for_enumR (a := a) (xs := ws.map V.str) (fun Q q => ?_) (fun i σ H' => (∃ x y, σ = [some (.ref b), some (.ref a), some (.ref f), x, y]) ∧ H' f = some (.lst ((ws.take i).map V.str)) ∧ (∀ j, j < i → okAt ws j) ∧ Same G H') (hS.same sG) ⟨⟨_, _, rfl⟩, gf, fun _ h => absurd h (Nat.not_lt_zero _), s2⟩ (fun i σ H' _ ⟨_, _, _, z⟩ => z) ?_ ?_
    · walk_at "rd"
      exact q
    · rintro i x _ H' t hx ⟨⟨_, _, rfl⟩, hf, hok, sm⟩ hT
      obtain ⟨z, hzi, rfl⟩ := Rd.map_strG hx
      have il : i < ws.length := (List.getElem?_eq_some_iff.mp hzi).1
      have sT := Rd.same_upd (o := .tup [.int (i : Nat), .str z]) hT
      have bad : ¬ okAt ws i → ∀ H1, Same H' H1 → Rx.RaiseQ T.C_BadWatches (.int (i : Nat)) H1 E := fun nb H1 s => by
        rcases h with ⟨_, i0, ⟨h0, h1, h2⟩, rs⟩ | ⟨L, _⟩
        · have : i0 = i := by
            rcases Nat.lt_trichotomy i0 i with q | q | q
            · exact absurd (hok i0 q) h2
            · exact q
            · exact absurd (h1 i q) nb
          subst this
          exact rs.now (sG.trans (sm.trans s))
        · exact absurd (okAt_of L i) nb
      refine Rd.tupT (.of upd_same) rfl ?_
      walk_at "rd"
      refine ⟨z, rfl, hz z (List.mem_of_getElem? hzi), fun b1 H1 hb1 s1 => ?_⟩
      have hf1 := s1 _ _ (sT _ _ hf)
      walk_at "rd"
      cases b1 with
      | false =>
        refine Rd.no (fun e => nomatch e) ?_
        walk_at "rd"
        exact bad (fun o => absurd (hb1.mpr (o z hzi).1) Bool.false_ne_true) H1 (sT.trans s1)
      | true =>
        walk_at "rd"
        refine Rd.inStrsY (.inl (.of hf1)) ?_
        by_cases c : z ∈ ws.take i
        · rw [decide_eq_true c]
          walk_at "rd"
          exact bad (fun o => (o z hzi).2 c) H1 (sT.trans s1)
        · rw [decide_eq_false c]
          walk_at "rd"
          refine Rd.tyL (.of hf1) ?_
          walk_at "rd"
          refine Rd.app hf1 (by rw [List.length_map, List.length_take, sizeLine_eq]; omega) fun G3 g3 off3 => ?_
          walk_at "rd"
          refine ⟨⟨_, _, rfl⟩, ?_, fun j hj => ?_, fun c o e => ?_⟩
          · rw [Rd.take_snoc hzi, List.map_append]
            exact g3
          · rcases Nat.lt_succ_iff_lt_or_eq.mp hj with q | rfl
            · exact hok j q
            · intro w e
              rw [hzi] at e
              cases Option.some.inj e
              exact ⟨hb1.mp rfl, c⟩
          · rw [off3 c (ne_of_none e nf)]
            exact s1 _ _ (sT _ _ (sm _ _ e))
    · rintro _ H' ⟨⟨_, _, rfl⟩, hf, hok, sm⟩
      rw [List.length_map] at hok
      obtain k : ∀ H', BookAt T.C_Book H' b ws → Rd.But b H H' → Q .non H' := by
        rcases h with ⟨_, i0, ⟨h0, h1, h2⟩, rs⟩ | ⟨L, k⟩
        · exact absurd (hok i0 h0) h2
        · exact k
      rw [List.length_map, List.take_length] at hf
      walk_at "rd"
      refine Rd.tupOf (.of hf) (Rd.new fun t G3 nt gt s3 => ?_)
      walk_at "rd"
      have hb3 := s3 _ _ (sm _ _ (sG _ _ hb))
      refine Rd.sfld hb3 T.cl_Book T.na_Book_watches (by decide) rfl fun G4 g4 off4 => ?_
      walk_at "rd"
      refine k _ ⟨dx, t, g4, ?_⟩ fun c o n e => ?_
      · rw [off4 t (ne_of gt hb3 (fun e => nomatch e))]
        exact gt
      · rw [off4 c n]
        exact s3 _ _ (sm _ _ (sG _ _ e))
theorem ok_Book_eq (T : Txt K mg) : FnOk P w K mg base CX0 1 T.f_Book_eq T.fd_Book_eq ["self", "other"] (sp_Book_eq K T.C_Book) := by
  refine T.F_Book_eq.ok sc_Book_eq (fun vs H Q E h => ?_) (fun cdv A outer s H vs Q E hr h => ?_)
  · obtain ⟨b, c, ws, zs, rfl, _⟩ := h
    rfl
  · obtain ⟨b, c, ws, zs, rfl, ⟨dx, t, hb, ht⟩, ⟨dy, u, hc, hu⟩, l1, l2, w1, w2, k⟩ := h
    refine ⟨_, (pss_cons (ps_if (PW.pt (pw_or (pt_not (pt_val (pe_callB (id := "isinstance") (r := rIsi K) call_isi (by rfl) T.n_isinstance (by decide +kernel) (pa_cons (pv 1) (pa_cons (pe_glob (v := .ref T.C_Book) rfl T.c_Book rfl) pa_nil))))) (pw_or1 (pt_cmpR op_ne (pe_callB (id := "len") (r := Rd.nLen K) Rd.c_len (by rfl) T.n_len (by decide +kernel) (pa_cons (pe_fld (pv 0) rfl) pa_nil)) (pe_callB (id := "len") (r := Rd.nLen K) Rd.c_len (by rfl) T.n_len (by decide +kernel) (pa_cons (pe_fld (pv 1) rfl) pa_nil)) (nomark _)))))
  (pss_one (ps_ret pe_bl))
  pss_nil)
  (pss_one (ps_ret (pe_callB (id := "all") (r := rAll K) (cr_all rfl) (by rfl) T.n_all (by decide +kernel) (pa_cons (pe_lc (own := [("watch", 2)]) (g := gName 2) (tt := tYes) rfl sc_Book_eq.nd (pi_tup (pe_fld (pv 0) rfl)) (blkOk_by (own := [("watch", 2)]) (N := ["self", "other", "watch"]) (sc := defScope s_Book_eq) (by decide +kernel)) (fun _ _ _ _ _ => (pg_name (i := 2) sc_Book_eq.nd rfl (.inl rfl))) (fun _ _ _ _ _ => pts_nil) (fun _ _ _ _ _ => (pe_cmpR (r := rIn K false) op_in_seq (pv 2) (pe_fld (pv 1) rfl : PE _ _ (tFld K _ _)) (by rfl)))) pa_nil))))), ?_⟩
    walk_at "rd"
    refine isiOwn T.cl_Book T.ty_Book hc ?_
    walk_at "rd"
    refine Rd.fld hb T.cl_Book T.na_Book_watches rfl ?_
    walk_at "rd"
    refine Rd.len (.inr (.of ht)) ?_
    rw [List.length_map]
    walk_at "rd"
    refine Rd.fld hc T.cl_Book T.na_Book_watches rfl ?_
    walk_at "rd"
    refine Rd.len (.inr (.of hu)) ?_
    rw [List.length_map]
    walk_at "rd"
    by_cases e : ws.length = zs.length
    · refine Rd.yes (by omega) ?_
      walk_at "rd"
      refine Rd.fld hb T.cl_Book T.na_Book_watches rfl ?_
      walk_at "rd"
      refine ⟨⟨_, .of ht⟩, Rd.lcS walk_tup (fun _ s => .of (s _ _ ht)) (fun D i acc _ => acc = ((ws.take i).map fun w => decide (w ∈ zs)).map V.bl) (fun _ _ _ _ _ => rfl) ?_ ?_⟩
      · rintro D i x _ G acc nD hi hD sm rfl ⟨rfl, hx⟩
        obtain ⟨z, hz, rfl⟩ := Rd.map_strG hx
        have il : i < ws.length := (List.getElem?_eq_some_iff.mp hz).1
        walk_at "rd"
        refine ⟨rfl, ?_⟩
        walk_at "rd"
        refine Rd.fld (sm _ _ hc) T.cl_Book T.na_Book_watches rfl ?_
        walk_at "rd"
        refine Rd.inStrsY (.inr (.of (sm _ _ hu))) ?_
        refine Rd.lcPush hD nD sm (by rw [List.length_map, List.length_map, List.length_take, sizeLine_eq]; omega) fun G _ _ => ?_
        rw [Rd.take_snoc hz, List.map_append, List.map_append]
        rfl
      · rintro D acc G nD hD sm rfl
        rw [List.length_map, List.take_length] at hD
        walk_at "rd"
        refine Rd.all (.of hD) ?_
        refine k _ _ ?_ sm
        rw [List.all_eq_true]
        constructor
        · intro h
          refine ⟨e, fun w m => ?_⟩
          have := h _ (List.mem_map.mpr ⟨w, m, rfl⟩)
          simpa using this
        · rintro ⟨_, h⟩ b hb
          obtain ⟨w, m, rfl⟩ := List.mem_map.mp hb
          simpa using h w m
    · refine Rd.no (by omega) ?_
      walk_at "rd"
      exact k _ _ ⟨fun e => (nomatch e), fun h => absurd h.1 e⟩ (Same.refl _)
theorem ok_check_book (T : Txt K mg) : FnOk P w K mg base (L2.CX P w) 4 T.f_check_book T.fd_check_book ["book"] (sp_check_book K T.C_Book T.C_BadBook) := by
  refine T.F_check_book.okX sc_check_book (fun vs H Q E h => ?_) (fun cdv A outer s H vs Q E hr h => ?_)
  · obtain ⟨x, rfl, _⟩ := h
    rfl
  · obtain ⟨x, rfl, h⟩ := h
    refine ⟨_, (pss_cons (ps_if (pt_not (pt_val (pe_callB (id := "isinstance") (r := rIsi K) call_isi (by rfl) T.n_isinstance (by decide +kernel) (pa_cons (pv 0) (pa_cons (pe_glob (v := .ref T.C_Book) rfl T.c_Book rfl) pa_nil)))))
  (pss_one (Rx.ps_raise1 rfl T.X_BadBook T.tI_WayError_init (ok_WayError_init T) (hr.mono (by decide)) T.b_WayError_init rfl T.c_BadBook (takes_of rfl rfl rfl rfl) (pv 0)))
  pss_nil)
  (pss_one (ps_ret (pv 0)))), ?_⟩
    rcases h with ⟨b, ws, rfl, ⟨dx, t, hb, ht⟩, k⟩ | ⟨od, rs⟩
    · walk_at "rd"
      refine isiOwn T.cl_Book T.ty_Book hb ?_
      walk_at "rd"
      exact k
    · walk_at "rd"
      refine od.ask ?_
      walk_at "rd"
      exact rs.now (Same.refl _)

end
end W

namespace W
open PySem PySem.Spec PyProof.Rows L2
section
variable {P : Program} {w : World} {K : PySem.W.Frag} {mg : Str → Option Value} {base : Heap}
/-! ### texts in order -/
def keyD (z : Str) : PyData := .tuple [.int (z.length : Nat), .str z]
def inOrder (zs : List Str) : List Str := zs.mergeSort (PySem.W.dataLe false keyD)
theorem keys_ok (zs : List Str) : Rs.Keys (zs.map keyD) where
  al d hd d' hd' := by
    obtain ⟨e, _, rfl⟩ := List.mem_map.mp hd
    obtain ⟨f, _, rfl⟩ := List.mem_map.mp hd'
    unfold keyD
    simp [PySem.W.alike, PySem.W.alikeAll]
  so := .inl fun d hd => by
    obtain ⟨e, _, rfl⟩ := List.mem_map.mp hd
    exact ⟨_, _, rfl⟩
  dp d hd := by
    obtain ⟨e, _, rfl⟩ := List.mem_map.mp hd
    show 1 ≤ 50
    decide
def sp_text_key (K : PySem.W.Frag) : Sp := fun vs H Q _ => ∃ z : Str, vs = [.str z] ∧ z.length ≤ 1000 ∧ ∀ (p : Addr) H', Same H H' → H' p = some (.tup [.int (z.length : Nat), .str z]) → Q (.ref p) H'
theorem ok_text_key (T : Txt K mg) : FnOk P w K mg base CX0 1 T.f_text_key T.fd_text_key ["text"] (sp_text_key K) := by
  refine T.F_text_key.ok sc_text_key (fun vs H Q E h => ?_) (fun cdv A outer s H vs Q E hr h => ?_)
  · obtain ⟨z, rfl, _⟩ := h
    rfl
  · obtain ⟨z, rfl, l, k⟩ := h
    refine ⟨_, (pss_one (ps_ret (pe_tup (pa_cons (pe_callB (id := "len") (r := _) Rd.c_lenS (by rfl) T.n_len (by decide +kernel) (pa_cons (pv 0) pa_nil)) (pa_cons (pv 0) pa_nil))))), ?_⟩
    have zl : z.length ≤ sizeLine := by rw [sizeLine_eq]; omega
    walk_at "go"
    refine ⟨Nat.le_of_ble_eq_true rfl, Rd.new fun p G np gp sG => ?_⟩
    exact k p G sG gp
theorem each_strs : ∀ zs : List Str, PySem.W.EachIs (fun x z => x = V.str z) (zs.map V.str) zs
  | [] => .nil
  | z :: zs => .cons rfl (each_strs zs)
theorem strs_each : ∀ {xs : List V} {zs : List Str}, PySem.W.EachIs (fun x z => x = V.str z) xs zs → xs = zs.map V.str
  | _, _, .nil => rfl
  | _, _, .cons h t => by rw [h, strs_each t]; rfl
def sp_in_order (K : PySem.W.Frag) : Sp := fun vs H Q _ => ∃ (a : Addr) (zs : List Str), vs = [.ref a] ∧ SqL K H a (zs.map V.str) ∧ (∀ z ∈ zs, z.length ≤ 1000) ∧ ∀ (l : Addr) H', Same H H' → H l = none → H' l = some (.lst ((inOrder zs).map V.str)) → Q (.ref l) H'
theorem ok_in_order (T : Txt K mg) : FnOk P w K mg base CX0 3 T.f_in_order T.fd_in_order ["texts"] (sp_in_order K) := by
  refine T.F_in_order.ok sc_in_order (fun vs H Q E h => ?_) (fun cdv A outer s H vs Q E hr h => ?_)
  · obtain ⟨a, zs, rfl, _⟩ := h
    rfl
  · obtain ⟨a, zs, rfl, hS, hz, k⟩ := h
    refine ⟨_, (pss_one (ps_ret (pe_callBK (id := "sorted") (ks := [Str.ofString "key"]) (r := Rs.rSortK T.f_text_key (sp_text_key K) K) (Rs.cr_sortK (ok_text_key T) (hr.mono (by decide)) T.b_text_key) (by rfl) T.n_sorted (by decide +kernel) (pa_cons (pv 0) pa_nil) (pk_cons (pe_glob (v := .ref T.f_text_key) rfl T.g_text_key rfl) pk_nil)))), ?_⟩
    walk_at "go"
    refine Rw.sortK keyD (fun x z => x = V.str z) hS (each_strs zs) (keys_ok zs) (fun x z H1 s1 m e => ?_) fun out p G ho np gp sG => ?_
    · subst e
      exact ⟨z, rfl, hz z m, fun q H2 s2 gq => ⟨s2, .tup (.of gq) (.cons (.int _) (.cons (.str _) .nil))⟩⟩
    · rw [strs_each ho] at gp
      exact k p G sG np gp

end
end W

namespace W
open PySem PySem.Spec PyProof.Rows L2
section
variable {P : Program} {w : World} {K : PySem.W.Frag} {mg : Str → Option Value} {base : Heap}
/-! ### the reckoning of lengths -/
/-- the lengths stand at b -/
def LenAt (C : Addr) (H : Hp) (b : Addr) : Prop := ∃ dx, H b = some (.ins C dx [("none", .non), ("one", .int 0)])
theorem LenAt.same {C : Addr} {H H' : Hp} {b : Addr} (h : LenAt C H b) (s : Same H H') : LenAt C H' b := let ⟨dx, e⟩ := h; ⟨dx, s _ _ e⟩
theorem LenAt.tape {C t c : Addr} {H H' : Hp} {b : Addr} (ht : Tape H t c) (off : Rd.But t H H') (h : LenAt C H b) : LenAt C H' b := by
  obtain ⟨dx, e⟩ := h
  obtain ⟨ns, x, y, z, u, _, g, _⟩ := ht
  exact ⟨dx, off _ _ (ne_of e g (fun z => nomatch z)) e⟩
def sp_Lengths_init (K : PySem.W.Frag) (C : Addr) : Sp := fun vs H Q _ => ∃ (b dx : Addr), vs = [.ref b] ∧ H b = some (.ins C dx []) ∧ ∀ H', LenAt C H' b → Rd.But b H H' → Q .non H'
theorem ok_Lengths_init (T : Txt K mg) : FnOk P w K mg base CX0 1 T.f_Lengths_init T.fd_Lengths_init ["self"] (sp_Lengths_init K T.C_Lengths) := by
  refine T.F_Lengths_init.ok sc_Lengths_init (fun vs H Q E h => ?_) (fun cdv A outer s H vs Q E hr h => ?_)
  · obtain ⟨b, dx, rfl, _⟩ := h
    rfl
  · obtain ⟨b, dx, rfl, hb, k⟩ := h
    refine ⟨_, (pss_cons (ps_fld (pv 0) pe_non rfl)
  (pss_one (ps_fld (pv 0) pe_int rfl))), ?_⟩
    walk_at "rd"
    refine Rd.sfld hb T.cl_Lengths T.na_Lengths_none (by decide) (show _ = [(("none" : Str), V.non)] from rfl) fun G1 g1 off1 => ?_
    walk_at "rd"
    refine Rd.sfld g1 T.cl_Lengths T.na_Lengths_one (by simp) (show _ = [(("none" : Str), V.non), ("one", .int 0)] from rfl) fun G2 g2 off2 => ?_
    walk_at "rd"
    exact k G2 ⟨dx, g2⟩ fun x u nx e => by
      rw [off2 x nx, off1 x nx]
      exact e

end
end W

namespace W
open PySem PySem.Spec PyProof.Rows L2
section
variable {P : Program} {w : World} {K : PySem.W.Frag} {mg : Str → Option Value} {base : Heap}
/-! ### words and watches drawn, the second way -/
theorem but_off {t l : Addr} {H H1 G : Hp} (b : Rd.But t H H1) (n : H l = none) (off : ∀ q, q ≠ l → G q = H1 q) : Rd.But t H G := fun q o h e => by rw [off q (ne_of_none e n)]; exact b q o h e
/-- a comprehension that draws -/
def LcStT (t c D : Addr) (H1 : Hp) (R : Nat → List V → Hp → Prop) : Nat → Hp → Prop := fun i H => ∃ acc, H D = some (.lst acc) ∧ Tape H t c ∧ Rd.But t H1 H ∧ R i acc H
def LcPuT (t c D : Addr) (H1 : Hp) (R : Nat → List V → Hp → Prop) (i : Nat) (y : V) (H4 : Hp) : Prop := ∃ acc, H4 D = some (.lst acc) ∧ acc.length < sizeLine ∧ LcStT t c D H1 R (i + 1) (upd H4 D (.lst (acc ++ [y])))
theorem lcPuT {t c D : Addr} {H1 H4 : Hp} {R : Nat → List V → Hp → Prop} {i : Nat} {y : V} {acc : List V} (hD : H4 D = some (.lst acc)) (nD : H1 D = none) (tp1 : Tape H1 t c) (tp : Tape H4 t c) (b : Rd.But t H1 H4) (hz : acc.length < sizeLine) (r : ∀ G : Hp, G D = some (.lst (acc ++ [y])) → (∀ b, b ≠ D → G b = H4 b) → R (i + 1) (acc ++ [y]) G) : LcPuT t c D H1 R i y H4 :=
  have ⟨dt, dc⟩ := tp1.new nD
  ⟨acc, hD, hz, acc ++ [y], upd_same, tp.off dt dc fun q h => upd_ne h, but_off b nD fun q h => upd_ne h, r _ upd_same fun b hb => upd_ne hb⟩
theorem lcT {J : It} {n : Nat} {G : Hp → Prop} {Y : Nat → Hp → V → Hp → Prop} (w : Walk J n G Y) {g : TG} {tt : TT} {te : TE} {vs : List Nat} {σ : L2.St} {H1 : Hp} {Q : VK} {t c : Addr} (tp : Tape H1 t c) (hG : ∀ H, Rd.But t H1 H → G H) (R : Addr → Nat → List V → Hp → Prop)
    (r0 : ∀ (D : Addr) (G : Hp), H1 D = none → G D = some (.lst []) → Same H1 G → R D 0 [] G)
    (hs : ∀ (D : Addr) i x H H' acc, H1 D = none → i < n → H D = some (.lst acc) → Tape H t c → Rd.But t H1 H → R D i acc H → Y i H x H' → g x (wipe σ vs) H' fun σ2 H2 => wipe σ2 vs = wipe σ vs ∧ tt σ2 H2 fun b H3 =>
      if b = true then te σ2 H3 fun y H4 => LcPuT t c D H1 (R D) i y H4 else LcStT t c D H1 (R D) (i + 1) H3)
    (hd : ∀ (D : Addr) acc H, H1 D = none → H D = some (.lst acc) → Tape H t c → Rd.But t H1 H → R D n acc H → Q (.ref D) H) : Rd.Lc J g tt te vs σ H1 Q := fun D nD =>
  lc_it w (LcStT t c D H1 (R D)) ⟨[], upd_same, tp.same (Rd.same_upd nD), Rd.But.of (Rd.same_upd nD), r0 D _ nD upd_same (Rd.same_upd nD)⟩ (fun i H hi ⟨acc, h1, h2, h3, h4⟩ => hG H h3)
    (fun i x H H' hi ⟨acc, h1, h2, h3, h4⟩ y => hs D i x H H' acc nD hi h1 h2 h3 h4 y) (fun H ⟨acc, h1, h2, h3, h4⟩ => hd D acc H nD h1 h2 h3 h4)

end
end W

namespace W
open PySem PySem.Spec PyProof.Rows L2
section
variable {P : Program} {w : World} {K : PySem.W.Frag} {mg : Str → Option Value} {base : Heap}
/-! ### rows of texts -/
def rowsOf (z : Str) : List Str := if z = "" then [] else Txt.split z "\n"
/-- the signs of rows, and one more for each -/
def wt (ys : List Str) : Nat := (ys.map (·.length)).sum + ys.length
theorem wt_nil : wt [] = 0 := rfl
theorem wt_cons (y : Str) (ys : List Str) : wt (y :: ys) = y.length + 1 + wt ys := by
  unfold wt
  rw [List.map_cons, List.sum_cons, List.length_cons]
  omega
theorem wt_app (xs ys : List Str) : wt (xs ++ ys) = wt xs + wt ys := by
  unfold wt
  rw [List.map_append, List.sum_append, List.length_append]
  omega
theorem wt_cut (xs : List Str) (n : Nat) : wt (xs.take n) + wt (xs.drop n) = wt xs := by rw [← wt_app, List.take_append_drop]
theorem wt_mem {y : Str} : ∀ {ys : List Str}, y ∈ ys → y.length + 1 ≤ wt ys
  | x :: ys, m => by
    rw [wt_cons]
    rcases List.mem_cons.mp m with rfl | m
    · omega
    · have := wt_mem m
      omega
theorem wt_small {ys : List Str} (h : ∀ y ∈ ys, y.length ≤ 1000) (l : ys.length ≤ 1000) : wt ys ≤ 16777216 := by
  have : ∀ ys : List Str, (∀ y ∈ ys, y.length ≤ 1000) → wt ys ≤ 1001 * ys.length := by
    intro ys
    induction ys with
    | nil => intro _; exact Nat.le_refl _
    | cons y ys ih =>
      intro h
      have := h y (List.mem_cons_self ..)
      have := ih fun z m => h z (List.mem_cons_of_mem _ m)
      rw [wt_cons, List.length_cons]
      omega
  have := this ys h
  omega
theorem nl_len : (("\n" : Str)).length = 1 := by decide +kernel
theorem wt_join {ys : List Str} (h : wt ys ≤ 16777216) : (ys.map (·.length)).sum + ys.length * (("\n" : Str)).length ≤ 16777216 := by
  rw [nl_len, Nat.mul_one]
  exact h
theorem join_le (ys : List Str) : (Txt.join "\n" ys).length ≤ wt ys := by
  have e : (Txt.join "\n" ys).length = (ys.map (·.length)).sum + (ys.length - 1) * (("\n" : Str)).length := PySem.size_glued _ _
  rw [nl_len, Nat.mul_one] at e
  unfold wt
  omega
theorem split_wt (z : Str) : wt (Txt.split z "\n") = z.length + 1 := by
  unfold Txt.split
  split
  · rw [wt_cons, wt_nil]
  · split
    · rw [wt_cons, wt_nil]
    · have e := congrArg Str.length (PySem.StrLaws.glued_between_self z "\n" (z.length + 1))
      rw [PySem.size_glued, nl_len, Nat.mul_one] at e
      have n0 : (PySem.Builtin.Str.partsBetween z (PySem.Builtin.Str.occurrences z "\n" 0 z.length (z.length + 1)) 1).length ≠ 0 := by
        rw [PySem.length_partsBetween]
        omega
      unfold wt
      rw [nl_len]
      omega
theorem rows_wt (z : Str) : wt (rowsOf z) ≤ z.length + 1 := by
  unfold rowsOf
  split
  · exact Nat.zero_le _
  · exact Nat.le_of_eq (split_wt z)
theorem rows_len (z : Str) : (rowsOf z).length ≤ z.length + 1 := by
  have := rows_wt z
  unfold wt at this
  omega
theorem rows_mem {z r : Str} (m : r ∈ rowsOf z) : r.length ≤ z.length := by
  have := wt_mem m
  have := rows_wt z
  omega
/-- no text -/
def NoTxt (K : PySem.W.Frag) (H : Hp) (x : V) : Prop := (∃ k, Rx.Is H x k ∧ k.isStr = false) ∨ ∃ (a C dx : Addr) (fs : List (Str × V)), x = .ref a ∧ H a = some (.ins C dx fs) ∧ Cls K C ∧ OwnTy K C ∧ PySem.W.mroIn K C (.type "str") = some false
theorem NoTxt.same {H H' : Hp} {x : V} (s : Same H H') (h : NoTxt K H x) : NoTxt K H' x := h.imp (fun ⟨k, i, e⟩ => ⟨k, i.same s, e⟩) fun ⟨a, C, dx, fs, e, g, r⟩ => ⟨a, C, dx, fs, e, s _ _ g, r⟩
theorem NoTxt.ask {H : Hp} {x : V} {Q : VK} (h : NoTxt K H x) (q : Q (.bl false) H) : rIsi K [x, .ty "str"] H Q := by
  rcases h with ⟨k, i, e⟩ | ⟨a, C, dx, fs, rfl, g, c, o, m⟩
  · refine Rx.askStr i ?_
    rw [e]
    exact q
  · refine ⟨_, _, _, _, false, rfl, .ty "str", .base (.ins g c o.ha o.hn o.htk o.hm), ?_, q⟩
    show (if (Value.ref C == Value.type "str") = true then some true else if PySem.W.kitMeta "str" = true then PySem.W.subIn K (.ref C) (.type "str") else none) = some false
    rw [if_neg (by simp), if_pos (by decide +kernel)]
    exact m
def textOf (ws : List Str) : Str := Txt.join "\n" (inOrder ws)
theorem tyS {z : Str} {H : Hp} {R : Prop} (r : R) : tyV K "str" (.str z) H ∧ R := ⟨rfl, r⟩
theorem splitS {z : Str} {H : Hp} {Q : VK} (l : z.length ≤ 1000000) (k : ∀ (D : Addr) (G : Hp), H D = none → G D = some (.lst ((Txt.split z "\n").map V.str)) → Same H G → Q (.ref D) G) :
    ∃ a b : Str, V.str z = .str a ∧ [V.str "\n"] = [V.str b] ∧ (b.length == 0) = false ∧ a.length + 2 ≤ sizeLine ∧ rNewStrs (Txt.split a b) H Q :=
  ⟨z, "\n", rfl, rfl, by decide +kernel, by rw [sizeLine_eq]; omega, fun p n => k p _ n upd_same (Rd.same_upd n)⟩
theorem cut_take (xs : List V) (i : Nat) (h : i ≤ xs.length) : cutV xs none (some (i : Int)) = xs.take i := by
  unfold cutV
  rw [show HT.sIx xs.length 0 none = 0 from rfl, HT.sIx_nat, List.drop_zero, Nat.sub_zero]
  congr 1
  omega
def sp_ordered_watches (K : PySem.W.Frag) (C : Addr) : Sp := fun vs H Q _ => ∃ (b : Addr) (ws : List Str), vs = [.ref b] ∧ BookAt C H b ws ∧ Watches ws ∧ ∀ (l : Addr) H', Same H H' → H' l = some (.lst ((inOrder ws).map V.str)) → Q (.ref l) H'
def sp_write_book (K : PySem.W.Frag) (C CB : Addr) : Sp := fun vs H Q E => ∃ x, vs = [x] ∧ ((∃ (b : Addr) (ws : List Str), x = .ref b ∧ BookAt C H b ws ∧ Watches ws ∧ ∀ H', Same H H' → Q (.str (textOf ws)) H') ∨ (Of K H C x false ∧ Rx.Raised CB x H E))
def sp_read_book (K : PySem.W.Frag) (C CW CT : Addr) : Sp := fun vs H Q E => ∃ x, vs = [x] ∧ ((∃ z : Str, x = .str z ∧ z.length ≤ 100000 ∧ BookIn CW (rowsOf z) H E (∀ b H', BookAt C H' b (rowsOf z) → Same H H' → Q (.ref b) H')) ∨ (NoTxt K H x ∧ Rx.Raised CT (.int (-1)) H E))
def sp_l_is_letters (K : PySem.W.Frag) : Sp := fun vs H Q _ => ∃ z : Str, vs = [.str z, .int 12] ∧ z.length ≤ 1000000 ∧ ∀ (b : Bool) H', (b = true ↔ Lt.Wd 12 z) → Same H H' → Q (.bl b) H'
def sp_l_text (K : PySem.W.Frag) : Sp := fun vs H Q _ => ∃ (a : Addr) (zs : List Str), vs = [.ref a] ∧ SqL K H a (zs.map V.str) ∧ zs.length ≤ 100 ∧ (∀ z ∈ zs, z.length ≤ 1000) ∧ ∀ H', Same H H' → Q (.str (textOf zs)) H'
/-- what is told of rows -/
def DueIn (ws : List Str) (H : Hp) (Q : VK) (ok : Prop) : Prop := (12 < ws.length ∧ ∀ (p : Addr) H', H' p = some (.tup [.str "watches", .int (-1)]) → Same H H' → Q (.ref p) H') ∨
  (ws.length ≤ 12 ∧ ∃ i, FirstBad ws i ∧ ∀ (p : Addr) H', H' p = some (.tup [.str "watches", .int (i : Nat)]) → Same H H' → Q (.ref p) H') ∨ (Watches ws ∧ ok)
def sp_l_due (K : PySem.W.Frag) : Sp := fun vs H Q _ => ∃ x, vs = [x] ∧ ((∃ z : Str, x = .str z ∧ z.length ≤ 100000 ∧ DueIn (rowsOf z) H Q (∀ (p t : Addr) H', H' p = some (.tup [.str "told", .ref t]) → H' t = some (.tup ((rowsOf z).map V.str)) → Same H H' → Q (.ref p) H')) ∨
  (NoTxt K H x ∧ ∀ (p : Addr) H', H' p = some (.tup [.str "text", .int (-1)]) → Same H H' → Q (.ref p) H'))
def sp_l_asked (K : PySem.W.Frag) (C CW CT : Addr) : Sp := fun vs H Q _ => ∃ x, vs = [x] ∧ ((∃ z : Str, x = .str z ∧ z.length ≤ 100000 ∧ DueIn (rowsOf z) H Q (∀ (p b : Addr) H', H' p = some (.tup [.str "told", .ref b]) → BookAt C H' b (rowsOf z) → Same H H' → Q (.ref p) H')) ∨
  (NoTxt K H x ∧ ∀ (p : Addr) H', H' p = some (.tup [.str "text", .int (-1)]) → Same H H' → Q (.ref p) H'))
def PairAt (H : Hp) (x : V) (z : Str) : Prop := ∃ T : Addr, x = .ref T ∧ H T = some (.tup [.int (z.length : Nat), .str z])
theorem pairs_keep {H H' : Hp} (s : ∀ b xs, H b = some (.tup xs) → H' b = some (.tup xs)) : ∀ {as : List V} {zs : List Str}, PySem.W.EachIs (PairAt H) as zs → PySem.W.EachIs (PairAt H') as zs
  | _, _, .nil => .nil
  | _, _, .cons ⟨T, e, h⟩ t => .cons ⟨T, e, s _ _ h⟩ (pairs_keep s t)
theorem pairs_dp {K : PySem.W.Frag} {H : Hp} : ∀ {as : List V} {zs : List Str}, PySem.W.EachIs (PairAt H) as zs → PySem.W.EachIs (fun x z => Dp K H x (keyD z) ∧ PairAt H x z) as zs
  | _, _, .nil => .nil
  | _, _, .cons ⟨T, e, h⟩ t => .cons ⟨by rw [e]; exact .tup (.of h) (.cons (.int _) (.cons (.str _) .nil)), T, e, h⟩ (pairs_dp t)
theorem pairs_of {K : PySem.W.Frag} {H H' : Hp} (s : Same H H') : ∀ {as : List V} {zs : List Str}, PySem.W.EachIs (fun x z => Dp K H x (keyD z) ∧ PairAt H x z) as zs → PySem.W.EachIs (PairAt H') as zs
  | _, _, .nil => .nil
  | _, _, .cons ⟨_, T, e, h⟩ t => .cons ⟨T, e, s _ _ h⟩ (pairs_of s t)
theorem each_snoc2 {β : Type} {R : V → β → Prop} {x : V} {y : β} (hxy : R x y) : ∀ {as : List V} {bs : List β}, PySem.W.EachIs R as bs → PySem.W.EachIs R (as ++ [x]) (bs ++ [y])
  | _, _, .nil => .cons hxy .nil
  | _, _, .cons h t => .cons h (each_snoc2 hxy t)
theorem ok_ordered_watches (T : Txt K mg) : FnOk P w K mg base CX0 4 T.f_ordered_watches T.fd_ordered_watches ["book"] (sp_ordered_watches K T.C_Book) := by
  refine T.F_ordered_watches.ok sc_ordered_watches (fun vs H Q E h => ?_) (fun cdv A outer s H vs Q E hr h => ?_)
  · obtain ⟨b, ws, rfl, _⟩ := h
    rfl
  · obtain ⟨b, ws, rfl, ⟨dx, t, hb, ht⟩, L, k⟩ := h
    refine ⟨_, (pss_one (ps_ret (pe_call (ok_in_order T) (hr.mono (by decide)) rfl T.g_in_order T.F_in_order.kp T.b_in_order .nil pass0 (pa_cons (pe_callTy (T := "list") (r := Rd.nListOf K) Rd.c_listOf (by rfl) T.n_list (by decide +kernel) (pa_cons (pe_fld (pv 0) rfl) pa_nil)) pa_nil)))), ?_⟩
    walk_at "rd"
    refine Rd.fld hb T.cl_Book T.na_Book_watches rfl ?_
    walk_at "rd"
    refine Rd.listOf (.inr (.of ht)) (Rd.new fun l G nl gl s => ?_)
    walk_at "rd"
    exact ⟨l, ws, rfl, .of gl, fun z m => by have := (L.ok z m).l1; omega, fun q H' s2 _ g => k q H' (s.trans s2) g⟩
theorem ok_write_book (T : Txt K mg) : FnOk P w K mg base (L2.CX P w) 5 T.f_write_book T.fd_write_book ["book"] (sp_write_book K T.C_Book T.C_BadBook) := by
  refine T.F_write_book.okX sc_write_book (fun vs H Q E h => ?_) (fun cdv A outer s H vs Q E hr h => ?_)
  · obtain ⟨x, rfl, _⟩ := h
    rfl
  · obtain ⟨x, rfl, h⟩ := h
    refine ⟨_, (pss_cons (ps_expr (pe_callS (ok_check_book T) (hr.mono (by decide)) rfl T.g_check_book T.F_check_book.kp T.b_check_book (fun σ => passAt (takes_of rfl rfl rfl rfl) σ) (pa_cons (pv 0) pa_nil)))
  (pss_one (ps_ret (pe_join pe_str (pe_call (ok_ordered_watches T) (hr.mono (by decide)) rfl T.g_ordered_watches T.F_ordered_watches.kp T.b_ordered_watches .nil pass0 (pa_cons (pv 0) pa_nil)))))), ?_⟩
    rcases h with ⟨b, ws, rfl, hB, L, k⟩ | ⟨od, rs⟩
    · walk_at "rd"
      refine ⟨_, rfl, .inl ⟨b, ws, rfl, hB, ?_⟩⟩
      walk_at "rd"
      refine ⟨b, ws, rfl, hB, L, fun l H1 s1 gl => ?_⟩
      have lw : (inOrder ws).length = ws.length := List.length_mergeSort _
      refine Rd.join (.inl (.of gl)) (wt_join (wt_small (fun z m => by have := (L.ok z ((List.mergeSort_perm ws _).mem_iff.mp m)).l1; omega) (by have := L.l1; omega))) ?_
      walk_at "rd"
      exact k _ s1
    · walk_at "rd"
      exact ⟨_, rfl, .inr ⟨od, rs⟩⟩
theorem ok_l_text (T : Txt K mg) : FnOk P w K mg base CX0 1 T.f_l_text T.fd_l_text ["_law_watches_here"] (sp_l_text K) := by
  refine T.F_l_text.ok sc_l_text (fun vs H Q E h => ?_) (fun cdv A outer s H vs Q E hr h => ?_)
  · obtain ⟨a, zs, rfl, _⟩ := h
    rfl
  · obtain ⟨a, zs, rfl, hS, few, hz, k⟩ := h
    refine ⟨_, (pss_one (ps_ret (pe_join pe_str (pe_lc (own := [("_law_pair", 1)]) (g := gName 1) (tt := tYes) rfl sc_l_text.nd (pi_list (pe_callB (id := "sorted") (r := Rs.rSortD K) (Rs.cr_sortD hr.units) (by rfl) T.n_sorted (by decide +kernel) (pa_cons (pe_lc (own := [("_law_watch", 2)]) (g := gName 2) (tt := tYes) rfl sc_l_text.nd (pi_list (pv 0)) (blkOk_by (own := [("_law_watch", 2)]) (N := ["_law_watches_here", "_law_pair", "_law_watch"]) (sc := defScope s_l_text) (by decide +kernel)) (fun _ _ _ _ _ => (pg_name (i := 2) sc_l_text.nd rfl (.inl rfl))) (fun _ _ _ _ _ => pts_nil) (fun _ _ _ _ _ => (pe_tup (pa_cons (pe_callB (id := "len") (r := _) Rd.c_lenS (by rfl) T.n_len (by decide +kernel) (pa_cons (pv 2) pa_nil)) (pa_cons (pv 2) pa_nil))))) pa_nil))) (blkOk_by (own := [("_law_pair", 1)]) (N := ["_law_watches_here", "_law_pair", "_law_watch"]) (sc := defScope s_l_text) (by decide +kernel)) (fun _ _ _ _ _ => (pg_name (i := 1) sc_l_text.nd rfl (by first | exact .inl rfl | exact .inr rfl))) (fun _ _ _ _ _ => pts_nil) (fun _ _ _ _ _ => (pe_ix (r := rIxT K) ix_tup (pv 1) pe_int (fun _ _ => rfl))))))), ?_⟩
    walk_at "go"
    refine ⟨⟨_, hS⟩, Rd.lcS walk_list (fun _ s => s.seq hS) (fun D i acc Hc => acc.length = i ∧ PySem.W.EachIs (PairAt Hc) acc (zs.take i)) (fun _ _ _ _ _ => ⟨rfl, .nil⟩) ?_ ?_⟩
    · rintro D i x H1 _ acc nD hi hD sm ⟨al, ha⟩ ⟨rfl, hx⟩
      obtain ⟨z, hz', rfl⟩ := Rd.map_strG hx
      rw [List.length_map] at hi
      have zl := hz z (List.mem_of_getElem? hz')
      walk_at "go"
      refine ⟨rfl, Rd.tyes ?_⟩
      walk_at "go"
      refine ⟨Nat.le_of_ble_eq_true rfl, Rd.new fun T G nT gT sT => ?_⟩
      refine Rd.lcPush (sT _ _ hD) nD (sm.trans sT) (by rw [sizeLine_eq]; omega) fun G8 g8 off8 => ?_
      have kp : ∀ c xs, G c = some (.tup xs) → G8 c = some (.tup xs) := fun c xs q => by rw [off8 c (ne_of q (sT _ _ hD) (fun z => nomatch z))]; exact q
      refine ⟨by rw [List.length_append, al]; rfl, ?_⟩
      rw [Rd.take_snoc hz']
      exact each_snoc2 ⟨T, rfl, kp _ _ gT⟩ (pairs_keep (fun c xs q => kp _ _ (sT _ _ q)) ha)
    · rintro D acc H1 nD hD sm ⟨al, ha⟩
      rw [List.length_map, List.take_length] at ha
      walk_at "go"
      refine Rw.sortD keyD (PairAt H1) (.of hD) (pairs_dp ha) (keys_ok zs) fun out p G ho np gp sG => ?_
      have ho' : PySem.W.EachIs (PairAt G) out (inOrder zs) := pairs_of sG ho
      have ol : out.length = zs.length := by rw [ho'.length]; exact List.length_mergeSort _
      have sHG : Same H G := sm.trans sG
      clear ho sG sm hD nD ha
      walk_at "go"
      refine ⟨⟨_, .of gp⟩, Rd.lcS walk_list (fun _ s => .of (s _ _ gp)) (fun D i acc Hc => acc = ((inOrder zs).take i).map V.str) (fun _ _ _ _ _ => rfl) ?_ ?_⟩
      · rintro D i x H2 _ acc nD hi hD sm rfl ⟨rfl, hx⟩
        obtain ⟨z, hz2, T, rfl, gT⟩ := Rs.each_get ho' hx
        have gT2 := sm _ _ gT
        walk_at "go"
        refine ⟨rfl, Rd.tyes ?_⟩
        walk_at "go"
        refine Rd.ixT (.of gT2) rfl ?_
        refine Rd.lcPush hD nD sm (by rw [List.length_map, List.length_take, sizeLine_eq]; omega) fun G8 g8 off8 => ?_
        rw [Rd.take_snoc hz2, List.map_append]
        rfl
      · rintro D acc H2 nD hD sm rfl
        rw [ho'.length, List.take_length] at hD
        walk_at "go"
        refine Rd.join (.inl (.of hD)) (wt_join (wt_small (fun z m => hz z ((List.mergeSort_perm zs _).mem_iff.mp m)) (by rw [show (inOrder zs).length = zs.length from List.length_mergeSort _]; omega))) ?_
        exact k _ (sHG.trans sm)
theorem ok_read_book (T : Txt K mg) : FnOk P w K mg base (L2.CX P w) 6 T.f_read_book T.fd_read_book ["text"] (sp_read_book K T.C_Book T.C_BadWatches T.C_BadText) := by
  refine T.F_read_book.okX sc_read_book (fun vs H Q E h => ?_) (fun cdv A outer s H vs Q E hr h => ?_)
  · obtain ⟨x, rfl, _⟩ := h
    rfl
  · obtain ⟨x, rfl, h⟩ := h
    refine ⟨_, (pss_cons (ps_if (pt_not (pt_val (pe_callB (id := "isinstance") (r := rIsi K) call_isi (by rfl) T.n_isinstance (by decide +kernel) (pa_cons (pv 0) (pa_cons (pe_bltn (v := .ty "str") (u := .type "str") (by rfl) T.n_str (by decide +kernel) rfl) pa_nil)))))
  (pss_one (Rx.ps_raise1 rfl T.X_BadText T.tI_WayError_init (ok_WayError_init T) (hr.mono (by decide)) T.b_WayError_init rfl T.c_BadText (takes_of rfl rfl rfl rfl) (pe_un un_neg pe_int)))
  pss_nil)
  (pss_one (ps_ret (Rm.pe_makeS T.M_Book (ok_Book_init T) (hr.mono (by decide)) rfl T.c_Book T.b_Book_init (fun σ => passAt (takes_of rfl rfl rfl rfl) σ) (pa_cons (pe_ifExp (pt_cmpR op_eq (pv 0) pe_str (nomark _)) (pe_lst pa_nil) (pe_bm PySem.F.plainAttrs_str PySem.F.slot_str_split PySem.F.type_str_split mt_split (pv 0) (pa_cons pe_str pa_nil))) pa_nil))))), ?_⟩
    rcases h with ⟨z, rfl, l, h⟩ | ⟨od, rs⟩
    · walk_at "rd"
      refine Rd.isiStr ?_
      walk_at "rd"
      have fin : ∀ (D : Addr) (G : Hp), Same H G → G D = some (.lst ((rowsOf z).map V.str)) → Rd.MkG T.C_Book (sp_Book_init K T.C_Book T.C_BadWatches) [] E [.ref D] G Q := fun D G s g => by
        refine Rd.mk fun b dx G2 nb nd ne gb s2 off => ?_
        have s02 := s.trans s2
        refine ⟨b, D, rowsOf z, rfl, ⟨dx, gb⟩, .inl (.of (s2 _ _ g)), fun r m => by have := rows_mem m; omega, by have := rows_len z; omega, ?_⟩
        rcases h with ⟨n, rs⟩ | ⟨n, i, f, rs⟩ | ⟨L, k⟩
        · exact .inl ⟨n, fun d H2 a b c => rs d H2 (s02.free a) b (s02.trans c)⟩
        · exact .inr (.inl ⟨n, i, f, fun d H2 a b c => rs d H2 (s02.free a) b (s02.trans c)⟩)
        · exact .inr (.inr ⟨L, fun H' hB bt => ⟨rfl, k b H' hB (fun q o e => bt q o (ne_of_none (s _ _ e) nb) (s02 _ _ e))⟩⟩)
      refine Rm.mkH ?_
      walk_at "rd"
      by_cases e : z = ""
      · refine Rd.yes e ?_
        walk_at "rd"
        refine ⟨Nat.zero_le _, Rd.new fun D G nD gD s => ?_⟩
        exact fin D G s (by unfold rowsOf; rw [if_pos e]; exact gD)
      · refine Rd.no e ?_
        walk_at "rd"
        refine tyS ?_
        walk_at "rd"
        refine splitS (by omega) fun D G nD gD s => ?_
        exact fin D G s (by unfold rowsOf; rw [if_neg e]; exact gD)
    · walk_at "rd"
      refine od.ask ?_
      walk_at "rd"
      exact rs.now (Same.refl _)
theorem ok_l_is_letters (T : Txt K mg) : FnOk P w K mg base CX0 1 T.f_l_is_letters T.fd_l_is_letters ["_law_thing", "_law_most"] (sp_l_is_letters K) := by
  refine T.F_l_is_letters.ok sc_l_is_letters (fun vs H Q E h => ?_) (fun cdv A outer s H vs Q E hr h => ?_)
  · obtain ⟨z, rfl, _⟩ := h
    rfl
  · obtain ⟨z, rfl, hl, k⟩ := h
    refine ⟨_, (pss_cons (ps_if (PW.pt (pw_or (pt_not (pt_val (pe_callB (id := "isinstance") (r := rIsi K) call_isi (by rfl) T.n_isinstance (by decide +kernel) (pa_cons (pv 0) (pa_cons (pe_bltn (v := .ty "str") (u := .type "str") (by rfl) T.n_str (by decide +kernel) rfl) pa_nil))))) (pw_or (pt_cmpR op_lt (pe_callB (id := "len") (r := _) Rd.c_lenS (by rfl) T.n_len (by decide +kernel) (pa_cons (pv 0) pa_nil)) pe_int (nomark _)) (pw_or1 (pt_cmpR op_gt (pe_callB (id := "len") (r := _) Rd.c_lenS (by rfl) T.n_len (by decide +kernel) (pa_cons (pv 0) pa_nil)) (pv 1) (nomark _))))))
  (pss_one (ps_ret pe_bl))
  pss_nil)
  (pss_one (ps_ret (pe_cmpR op_eq (pe_callB (id := "len") (r := Rd.nLen K) Rd.c_len (by rfl) T.n_len (by decide +kernel) (pa_cons (pe_lc (own := [("_law_sign_here", 2)]) (g := gName 2)  rfl sc_l_is_letters.nd (pi_str (pv 0)) (blkOk_by (own := [("_law_sign_here", 2)]) (N := ["_law_thing", "_law_most", "_law_sign_here"]) (sc := defScope s_l_is_letters) (by decide +kernel)) (fun _ _ _ _ _ => (pg_name (i := 2) sc_l_is_letters.nd rfl (.inl rfl))) (fun _ _ _ _ _ => pts_one (pt_cmpR op_notIn_sign (pv 2) pe_str rfl)) (fun _ _ _ _ _ => (pv 2))) pa_nil)) pe_int (nomark _))))), ?_⟩
    walk_at "rd"
    refine Rd.isiStr ?_
    walk_at "rd"
    refine Rd.lenStr (by rw [sizeLine_eq]; omega) ?_
    walk_at "rd"
    by_cases c : (z.length : Int) < 1
    · refine Rd.yes c ?_
      walk_at "rd"
      exact k _ _ ⟨fun e => (nomatch e), fun e => by have := e.l0; omega⟩ (Same.refl _)
    refine Rd.no c ?_
    walk_at "rd"
    refine Rd.lenStr (by rw [sizeLine_eq]; omega) ?_
    walk_at "rd"
    by_cases c2 : (12 : Int) < (z.length : Nat)
    · refine Rd.yes c2 ?_
      walk_at "rd"
      exact k _ _ ⟨fun e => (nomatch e), fun e => by have := e.l1; omega⟩ (Same.refl _)
    refine Rd.no c2 ?_
    walk_at "rd"
    refine Rd.lcS walk_str (fun _ _ => trivial) (fun _ i acc _ => acc = ((z.cps.toList.take i).filter fun c => decide (c ∉ Lt.Abc.cps.toList)).map (fun c => V.str ⟨#[c]⟩)) (fun _ _ _ _ _ => rfl) ?_ ?_
    · rintro D i x G _ acc nD hi hD sm rfl ⟨rfl, c, hc, rfl⟩
      have hi2 : i < z.length := hi
      have hc2 : z.cps.toList[i]? = some c := by simpa using hc
      walk_at "rd"
      refine ⟨rfl, ?_⟩
      walk_at "rd"
      refine ⟨c, Lt.Abc, rfl, rfl, ?_⟩
      by_cases m : c ∈ Lt.Abc.cps.toList
      · rw [decide_eq_true m]
        walk_at "rd"
        refine ⟨_, hD, sm, ?_⟩
        show _ = List.map _ (List.filter _ (z.cps.toList.take (i + 1)))
        rw [Rd.take_snoc hc2, List.filter_append, List.filter_cons_of_neg (by simpa using m), List.filter_nil, List.append_nil]
      · rw [decide_eq_false m]
        walk_at "rd"
        refine Rd.lcPush hD nD sm (by have := List.length_filter_le (fun c => decide (c ∉ Lt.Abc.cps.toList)) (z.cps.toList.take i); rw [List.length_map, sizeLine_eq]; rw [List.length_take] at this; omega) fun G _ _ => ?_
        rw [Rd.take_snoc hc2, List.filter_append, List.map_append, List.filter_cons_of_pos (by simpa using m)]
        rfl
    · rintro D acc G nD hD sm rfl
      rw [show (z.cps.toList.take z.cps.size) = z.cps.toList from by rw [← Array.length_toList, List.take_length]] at hD
      walk_at "rd"
      refine Rd.len (.inl (.of hD)) ?_
      rw [List.length_map]
      walk_at "rd"
      refine k _ _ ?_ sm
      rw [decide_eq_true_iff]
      constructor
      · intro h
        have h0 : (z.cps.toList.filter fun c => decide (c ∉ Lt.Abc.cps.toList)) = [] := List.length_eq_zero_iff.mp (by omega)
        rw [List.filter_eq_nil_iff] at h0
        exact ⟨fun c m => by simpa using h0 c m, by omega, by omega⟩
      · intro L
        rw [List.filter_eq_nil_iff.mpr fun c m => by simpa using L.ok c m]
        rfl
theorem ok_l_due (T : Txt K mg) : FnOk P w K mg base CX0 2 T.f_l_due T.fd_l_due ["_law_text_here"] (sp_l_due K) := by
  refine T.F_l_due.ok sc_l_due (fun vs H Q E h => ?_) (fun cdv A outer s H vs Q E hr h => ?_)
  · obtain ⟨x, rfl, _⟩ := h
    rfl
  · obtain ⟨x, rfl, h⟩ := h
    refine ⟨_, (pss_cons (ps_if (pt_not (pt_val (pe_callB (id := "isinstance") (r := rIsi K) call_isi (by rfl) T.n_isinstance (by decide +kernel) (pa_cons (pv 0) (pa_cons (pe_bltn (v := .ty "str") (u := .type "str") (by rfl) T.n_str (by decide +kernel) rfl) pa_nil)))))
  (pss_one (ps_ret (pe_tup (pa_cons pe_str (pa_cons (pe_un un_neg pe_int) pa_nil)))))
  pss_nil)
  (pss_cons (ps_set (i := 1) sc_l_due.nd rfl (.inl rfl) (pe_ifExp (pt_cmpR op_ne (pv 0) pe_str (nomark _)) (pe_bm PySem.F.plainAttrs_str PySem.F.slot_str_split PySem.F.type_str_split mt_split (pv 0) (pa_cons pe_str pa_nil)) (pe_lst pa_nil)))
  (pss_cons (ps_if (pt_cmpR op_gt (pe_callB (id := "len") (r := Rd.nLen K) Rd.c_len (by rfl) T.n_len (by decide +kernel) (pa_cons (pv 1) pa_nil)) pe_int (nomark _))
  (pss_one (ps_ret (pe_tup (pa_cons pe_str (pa_cons (pe_un un_neg pe_int) pa_nil)))))
  pss_nil)
  (pss_cons (ps_for PassesOwn.never rfl (pi_range1 rfl T.n_range (pa_cons (pe_callB (id := "len") (r := Rd.nLen K) Rd.c_len (by rfl) T.n_len (by decide +kernel) (pa_cons (pv 1) pa_nil)) pa_nil)) (pg_name (i := 2) sc_l_due.nd rfl (.inl rfl))
  (pss_one (ps_if (PW.pt (pw_or (pt_not (pt_val (pe_call (ok_l_is_letters T) (hr.mono (by decide)) rfl T.g_l_is_letters T.F_l_is_letters.kp T.b_l_is_letters .nil pass0 (pa_cons (pe_ix (r := rIxL K) ix_list (pv 1) (pv 2) (fun _ _ => rfl)) (pa_cons pe_int pa_nil))))) (pw_or1 (pt_cmpR (r := rIn K false) op_in_seq (pe_ix (r := rIxL K) ix_list (pv 1) (pv 2) (fun _ _ => rfl)) (pe_slice (r := rSlL K) sl_list (pv 1) po_none (po_some (pv 2))) (by rfl)))))
  (pss_one (ps_ret (pe_tup (pa_cons pe_str (pa_cons (pv 2) pa_nil)))))
  pss_nil)))
  (pss_one (ps_ret (pe_tup (pa_cons pe_str (pa_cons (pe_callTy (T := "tuple") (r := Rd.nTupOf K) Rd.c_tupOf (by rfl) T.n_tuple (by decide +kernel) (pa_cons (pv 1) pa_nil)) pa_nil))))))))), ?_⟩
    rcases h with ⟨z, rfl, l, h⟩ | ⟨od, k⟩
    · walk_at "rd"
      refine Rd.isiStr ?_
      walk_at "rd"
      by_cases e : z = ""
      · refine Rd.yes e ?_
        walk_at "rd"
        refine ⟨Nat.zero_le _, Rd.new fun D G nD gD s => ?_⟩
        have g : G D = some (.lst ((rowsOf z).map V.str)) := by unfold rowsOf; rw [if_pos e]; exact gD
        walk_at "rd"
        refine Rd.len (.inl (.of g)) ?_
        rw [List.length_map]
        walk_at "rd"
        rcases h with ⟨n, k⟩ | h
        · refine Rd.yes (by omega) ?_
          walk_at "rd"
          refine ⟨Nat.le_of_ble_eq_true rfl, Rd.new fun p G2 np gp s2 => ?_⟩
          exact k p G2 gp (s.trans s2)
        have l12 : (rowsOf z).length ≤ 12 := by
          rcases h with ⟨l, _⟩ | ⟨L, _⟩
          · exact l
          · exact L.l1
        refine Rd.no (by omega) ?_
        walk_at "rd"
        refine Rd.forS ?_
        walk_at "rd"
        refine Rd.len (.inl (.of g)) ?_
        rw [List.length_map]
        walk_at "rd"
        refine ⟨by omega, by omega, ?_⟩
        refine for_range (lo := 0) (n := (rowsOf z).length) (fun i σ G' => (∃ o2 : Option V, σ = [some (.str z), some (.ref D), o2]) ∧ (∀ j, j < i → okAt (rowsOf z) j) ∧ Same G G') ⟨⟨_, rfl⟩, fun _ q => absurd q (Nat.not_lt_zero _), Same.refl _⟩ ?_ ?_
        · rintro i _ G1 hi ⟨⟨o2, rfl⟩, hok, s1⟩
          have g1 := s1 _ _ g
          have ti : (0 + (i : Int)).toNat = i := by omega
          have e0 := List.getElem?_eq_getElem hi
          have ea : ((rowsOf z).map V.str)[(0 + (i : Int)).toNat]? = some (.str (rowsOf z)[i]) := by
            rw [ti, List.getElem?_map, e0]
            rfl
          have lr := rows_mem (List.getElem_mem hi)
          have bad : ¬ okAt (rowsOf z) i → ∀ (p : Addr) H1, H1 p = some (.tup [.str "watches", .int (0 + (i : Int))]) → Same G1 H1 → Q (.ref p) H1 := fun nb p H1 gp sx => by
            rcases h with ⟨_, i0, ⟨h0, h1, h2⟩, k⟩ | ⟨L, _⟩
            · have : i0 = i := by
                rcases Nat.lt_trichotomy i0 i with q | q | q
                · exact absurd (hok i0 q) h2
                · exact q
                · exact absurd (h1 i q) nb
              subst this
              rw [Int.zero_add] at gp
              exact k p H1 gp ((s.trans s1).trans sx)
            · exact absurd (okAt_of L i) nb
          walk_at "rd"
          refine Rd.ixL (.of g1) (Rd.atI_of (by omega) ea) ?_
          walk_at "rd"
          refine ⟨_, rfl, by omega, fun b H2 hb s2 => ?_⟩
          walk_at "rd"
          cases b with
          | false =>
            walk_at "rd"
            refine ⟨Nat.le_of_ble_eq_true rfl, Rd.new fun p G2 np gp s3 => ?_⟩
            walk_at "rd"
            exact bad (fun o => absurd (hb.mpr (o _ e0).1) Bool.false_ne_true) p G2 gp (s2.trans s3)
          | true =>
            walk_at "rd"
            refine Rd.ixL (.of (s2 _ _ g1)) (Rd.atI_of (by omega) ea) ?_
            walk_at "rd"
            refine Rd.slL (.of (s2 _ _ g1)) (Rd.new fun W G3 nW gW s3 => ?_)
            rw [show (0 + (i : Int)) = ((i : Nat) : Int) from Int.zero_add _, cut_take _ _ (by rw [List.length_map]; omega), ← List.map_take] at gW
            refine Rd.inStrsY (.inl (.of gW)) ?_
            by_cases m : (rowsOf z)[i] ∈ (rowsOf z).take i
            · rw [decide_eq_true m]
              walk_at "rd"
              refine ⟨Nat.le_of_ble_eq_true rfl, Rd.new fun p G2 np gp s4 => ?_⟩
              walk_at "rd"
              exact bad (fun o => (o _ e0).2 m) p G2 gp ((s2.trans s3).trans s4)
            · rw [decide_eq_false m]
              walk_at "rd"
              refine ⟨⟨_, rfl⟩, fun j hj => ?_, (s1.trans s2).trans s3⟩
              rcases Nat.lt_succ_iff_lt_or_eq.mp hj with q | rfl
              · exact hok j q
              · intro w e
                rw [e0] at e
                cases Option.some.inj e
                exact ⟨hb.mp rfl, m⟩
        · rintro _ G1 ⟨⟨o2, rfl⟩, hok, s1⟩
          walk_at "rd"
          refine Rd.tupOf (.of (s1 _ _ g)) (Rd.new fun u G2 nu gu s2 => ?_)
          walk_at "rd"
          refine ⟨Nat.le_of_ble_eq_true rfl, Rd.new fun p G3 np gp s3 => ?_⟩
          walk_at "rd"
          rcases h with ⟨_, i0, ⟨h0, h1, h2⟩, k⟩ | ⟨L, k⟩
          · exact absurd (hok i0 h0) h2
          · exact k p u G3 gp (s3 _ _ gu) (((s.trans s1).trans s2).trans s3)
      · refine Rd.no e ?_
        walk_at "rd"
        refine tyS ?_
        walk_at "rd"
        refine splitS (by omega) fun D G nD gD s => ?_
        have g : G D = some (.lst ((rowsOf z).map V.str)) := by unfold rowsOf; rw [if_neg e]; exact gD
        walk_at "rd"
        refine Rd.len (.inl (.of g)) ?_
        rw [List.length_map]
        walk_at "rd"
        rcases h with ⟨n, k⟩ | h
        · refine Rd.yes (by omega) ?_
          walk_at "rd"
          refine ⟨Nat.le_of_ble_eq_true rfl, Rd.new fun p G2 np gp s2 => ?_⟩
          exact k p G2 gp (s.trans s2)
        have l12 : (rowsOf z).length ≤ 12 := by
          rcases h with ⟨l, _⟩ | ⟨L, _⟩
          · exact l
          · exact L.l1
        refine Rd.no (by omega) ?_
        walk_at "rd"
        refine Rd.forS ?_
        walk_at "rd"
        refine Rd.len (.inl (.of g)) ?_
        rw [List.length_map]
        walk_at "rd"
        refine ⟨by omega, by omega, ?_⟩
        refine for_range (lo := 0) (n := (rowsOf z).length) (fun i σ G' => (∃ o2 : Option V, σ = [some (.str z), some (.ref D), o2]) ∧ (∀ j, j < i → okAt (rowsOf z) j) ∧ Same G G') ⟨⟨_, rfl⟩, fun _ q => absurd q (Nat.not_lt_zero _), Same.refl _⟩ ?_ ?_
        · rintro i _ G1 hi ⟨⟨o2, rfl⟩, hok, s1⟩
          have g1 := s1 _ _ g
          have ti : (0 + (i : Int)).toNat = i := by omega
          have e0 := List.getElem?_eq_getElem hi
          have ea : ((rowsOf z).map V.str)[(0 + (i : Int)).toNat]? = some (.str (rowsOf z)[i]) := by
            rw [ti, List.getElem?_map, e0]
            rfl
          have lr := rows_mem (List.getElem_mem hi)
          have bad : ¬ okAt (rowsOf z) i → ∀ (p : Addr) H1, H1 p = some (.tup [.str "watches", .int (0 + (i : Int))]) → Same G1 H1 → Q (.ref p) H1 := fun nb p H1 gp sx => by
            rcases h with ⟨_, i0, ⟨h0, h1, h2⟩, k⟩ | ⟨L, _⟩
            · have : i0 = i := by
                rcases Nat.lt_trichotomy i0 i with q | q | q
                · exact absurd (hok i0 q) h2
                · exact q
                · exact absurd (h1 i q) nb
              subst this
              rw [Int.zero_add] at gp
              exact k p H1 gp ((s.trans s1).trans sx)
            · exact absurd (okAt_of L i) nb
          walk_at "rd"
          refine Rd.ixL (.of g1) (Rd.atI_of (by omega) ea) ?_
          walk_at "rd"
          refine ⟨_, rfl, by omega, fun b H2 hb s2 => ?_⟩
          walk_at "rd"
          cases b with
          | false =>
            walk_at "rd"
            refine ⟨Nat.le_of_ble_eq_true rfl, Rd.new fun p G2 np gp s3 => ?_⟩
            walk_at "rd"
            exact bad (fun o => absurd (hb.mpr (o _ e0).1) Bool.false_ne_true) p G2 gp (s2.trans s3)
          | true =>
            walk_at "rd"
            refine Rd.ixL (.of (s2 _ _ g1)) (Rd.atI_of (by omega) ea) ?_
            walk_at "rd"
            refine Rd.slL (.of (s2 _ _ g1)) (Rd.new fun W G3 nW gW s3 => ?_)
            rw [show (0 + (i : Int)) = ((i : Nat) : Int) from Int.zero_add _, cut_take _ _ (by rw [List.length_map]; omega), ← List.map_take] at gW
            refine Rd.inStrsY (.inl (.of gW)) ?_
            by_cases m : (rowsOf z)[i] ∈ (rowsOf z).take i
            · rw [decide_eq_true m]
              walk_at "rd"
              refine ⟨Nat.le_of_ble_eq_true rfl, Rd.new fun p G2 np gp s4 => ?_⟩
              walk_at "rd"
              exact bad (fun o => (o _ e0).2 m) p G2 gp ((s2.trans s3).trans s4)
            · rw [decide_eq_false m]
              walk_at "rd"
              refine ⟨⟨_, rfl⟩, fun j hj => ?_, (s1.trans s2).trans s3⟩
              rcases Nat.lt_succ_iff_lt_or_eq.mp hj with q | rfl
              · exact hok j q
              · intro w e
                rw [e0] at e
                cases Option.some.inj e
                exact ⟨hb.mp rfl, m⟩
        · rintro _ G1 ⟨⟨o2, rfl⟩, hok, s1⟩
          walk_at "rd"
          refine Rd.tupOf (.of (s1 _ _ g)) (Rd.new fun u G2 nu gu s2 => ?_)
          walk_at "rd"
          refine ⟨Nat.le_of_ble_eq_true rfl, Rd.new fun p G3 np gp s3 => ?_⟩
          walk_at "rd"
          rcases h with ⟨_, i0, ⟨h0, h1, h2⟩, k⟩ | ⟨L, k⟩
          · exact absurd (hok i0 h0) h2
          · exact k p u G3 gp (s3 _ _ gu) (((s.trans s1).trans s2).trans s3)
    · walk_at "rd"
      refine od.ask ?_
      walk_at "rd"
      refine ⟨Nat.le_of_ble_eq_true rfl, Rd.new fun p G np gp s => ?_⟩
      walk_at "rd"
      exact k p G gp s
theorem ok_l_asked (T : Txt K mg) : FnOk P w K mg base CX0 7 T.f_l_asked T.fd_l_asked ["_law_text_here"] (sp_l_asked K T.C_Book T.C_BadWatches T.C_BadText) := by
  refine T.F_l_asked.ok sc_l_asked (fun vs H Q E h => ?_) (fun cdv A outer s H vs Q E hr h => ?_)
  · obtain ⟨x, rfl, _⟩ := h
    rfl
  · obtain ⟨x, rfl, h⟩ := h
    refine ⟨_, (pss_cons (ps_set (i := 1) sc_l_asked.nd rfl (.inl rfl) (pe_tup (pa_cons pe_str (pa_cons pe_non pa_nil))))
  (pss_cons (Rh.ps_tryC (W0 := (fun _ _ _ _ => False)) rfl rfl sc_l_asked.nd takes0 (Rh.Fits.kept (i := 2) ⟨rfl, by decide, Or.inl T.c_BadText⟩ rfl rfl (fun a oe cls d pn hz hf => (pss_one (ps_set (i := 1) sc_l_asked.nd rfl (.inl rfl) (pe_tup (pa_cons pe_str (pa_cons (Rx.pe_xv hz hf (pv 2) : PE _ _ (Rx.tXv K a cls d _ _)) pa_nil)))))) (Rh.Fits.kept (i := 2) ⟨rfl, by decide, Or.inl T.c_BadWatches⟩ rfl rfl (fun a oe cls d pn hz hf => (pss_one (ps_set (i := 1) sc_l_asked.nd rfl (.inl rfl) (pe_tup (pa_cons pe_str (pa_cons (Rx.pe_xv hz hf (pv 2) : PE _ _ (Rx.tXv K a cls d _ _)) pa_nil)))))) (Rh.Fits.bare ⟨rfl, by decide, Or.inl T.c_WayError⟩ (fun a oe cls d pn hz hf => (pss_one (ps_set (i := 1) sc_l_asked.nd rfl (.inl rfl) (pe_tup (pa_cons pe_str (pa_cons pe_non pa_nil)))))) Rh.Fits.nil)))
   (fun W pn xe tk _ => (pss_one (ps_set (i := 1) sc_l_asked.nd rfl (.inl rfl) (pe_tup (pa_cons pe_str (pa_cons (pe_callS (ok_read_book T) (hr.mono (by decide)) rfl T.g_read_book T.F_read_book.kp T.b_read_book (fun σ => passAt tk σ) (pa_cons (pv 0) pa_nil)) pa_nil)))))))
  (pss_one (ps_ret (pv 1))))), ?_⟩
    walk_at "rd"
    refine ⟨Nat.le_of_ble_eq_true rfl, Rd.new fun p0 G0 n0 g0 s0 => ?_⟩
    walk_at "rd"
    walk_at "rd"
    rcases h with ⟨z, rfl, l, h⟩ | ⟨od, k⟩
    · refine ⟨_, rfl, .inl ⟨z, rfl, l, ?_⟩⟩
      rcases h with ⟨n, k⟩ | ⟨n, i, f, k⟩ | ⟨L, k⟩
      · refine .inl ⟨n, fun d H2 nd hd s2 => ?_⟩
        refine Rh.wish_miss T.X_BadText T.s_BadWatches_BadText ?_
        refine Rh.wish_hit T.X_BadWatches T.s_BadWatches_BadWatches fun ea na => ?_
        walk_at "rd"
        refine Rx.xv T.X_BadWatches hd ?_
        walk_at "rd"
        refine ⟨Nat.le_of_ble_eq_true rfl, Rd.new fun q H3 nq gq s3 => ?_⟩
        walk_at "rd"
        exact k q H3 gq ((s0.trans s2).trans s3)
      · refine .inr (.inl ⟨n, i, f, fun d H2 nd hd s2 => ?_⟩)
        refine Rh.wish_miss T.X_BadText T.s_BadWatches_BadText ?_
        refine Rh.wish_hit T.X_BadWatches T.s_BadWatches_BadWatches fun ea na => ?_
        walk_at "rd"
        refine Rx.xv T.X_BadWatches hd ?_
        walk_at "rd"
        refine ⟨Nat.le_of_ble_eq_true rfl, Rd.new fun q H3 nq gq s3 => ?_⟩
        walk_at "rd"
        exact k q H3 gq ((s0.trans s2).trans s3)
      · refine .inr (.inr ⟨L, fun b H1 hB s1 => ?_⟩)
        walk_at "rd"
        refine ⟨Nat.le_of_ble_eq_true rfl, Rd.new fun q H3 nq gq s3 => ?_⟩
        walk_at "rd"
        exact k q b H3 gq (hB.same s3) ((s0.trans s1).trans s3)
    · refine ⟨_, rfl, .inr ⟨od.same s0, fun d H2 nd hd s2 => ?_⟩⟩
      refine Rh.wish_hit T.X_BadText T.s_BadText_BadText fun ea na => ?_
      walk_at "rd"
      refine Rx.xv T.X_BadText hd ?_
      walk_at "rd"
      refine ⟨Nat.le_of_ble_eq_true rfl, Rd.new fun q H3 nq gq s3 => ?_⟩
      walk_at "rd"
      exact k q H3 gq ((s0.trans s2).trans s3)

end
end W

namespace W
open PySem PySem.Spec PyProof.Rows L2
section
variable {P : Program} {w : World} {K : PySem.W.Frag} {mg : Str → Option Value} {base : Heap}
theorem cutS_le (z : Str) (lo hi : Option Int) : (cutS z lo hi).length ≤ z.length := by
  show (((z.cps.toList.drop _).take _).toArray).size ≤ z.cps.size
  rw [List.size_toArray, List.length_take, List.length_drop, Array.length_toList]
  omega
def sp_l_sign (K : PySem.W.Frag) : Sp := fun vs H Q _ => ∃ t c : Addr, vs = [.ref t] ∧ Tape H t c ∧ ∀ (z : Str) H', z.length = 1 → Tape H' t c → Rd.But t H H' → Q (.str z) H'
def sp_l_watches (K : PySem.W.Frag) : Sp := fun vs H Q _ => ∃ t c : Addr, vs = [.ref t] ∧ Tape H t c ∧ ∀ (D : Addr) (ws : List Str) H', H' D = some (.lst (ws.map V.str)) → Watches ws → Tape H' t c → Rd.But t H H' → Q (.ref D) H'
def sp_l_changed (K : PySem.W.Frag) : Sp := fun vs H Q _ => ∃ (t c : Addr) (z : Str), vs = [.ref t, .str z] ∧ Tape H t c ∧ z.length ≤ 10000 ∧ ∀ (y : Str) H', y.length ≤ 3 * z.length + 400 → Tape H' t c → Rd.But t H H' → Q (.str y) H'
theorem cut_map (ys : List Str) (lo hi : Option Int) : ∃ us : List Str, cutV (ys.map V.str) lo hi = us.map V.str ∧ wt us ≤ wt ys := by
  refine ⟨(ys.drop (HT.sIx (ys.map V.str).length 0 lo)).take (HT.sIx (ys.map V.str).length (ys.map V.str).length hi - HT.sIx (ys.map V.str).length 0 lo), ?_, ?_⟩
  · unfold cutV
    rw [List.map_take, List.map_drop]
  · have h1 := wt_cut (ys.drop (HT.sIx (ys.map V.str).length 0 lo)) (HT.sIx (ys.map V.str).length (ys.map V.str).length hi - HT.sIx (ys.map V.str).length 0 lo)
    have h2 := wt_cut ys (HT.sIx (ys.map V.str).length 0 lo)
    omega
theorem mul_p (i : Nat) (h : i < 12) : (Txt.mul "p" (0 + (i : Int))).length = i := by
  have : ∀ i : Nat, i < 12 → (Txt.mul "p" (0 + (i : Int))).length = i := by decide +kernel
  exact this i h
theorem mulOk_p (i : Nat) (h : i < 12) : MulOk "p" (0 + (i : Int)) := by
  have : ∀ i : Nat, i < 12 → MulOk "p" (0 + (i : Int)) := by
    unfold MulOk
    decide +kernel
  exact this i h
theorem sign_at {z : Str} {i : Int} (h0 : 0 ≤ i) (h1 : i < z.length) : ∃ c, atI z.cps.toList i = some c := by
  have hi : i.toNat < z.cps.toList.length := by rw [Array.length_toList]; show _ < z.length; omega
  exact ⟨_, Rd.atI_of h0 (List.getElem?_eq_getElem hi)⟩
theorem abc_at {i : Int} (h0 : 0 ≤ i) (h1 : i < 26) : ∃ c, atI Lt.Abc.cps.toList i = some c ∧ c ∈ Lt.Abc.cps.toList := by
  have l : Lt.Abc.cps.toList.length = 26 := by decide +kernel
  have hi : i.toNat < Lt.Abc.cps.toList.length := by omega
  exact ⟨_, Rd.atI_of h0 (List.getElem?_eq_getElem hi), List.getElem_mem hi⟩
theorem ok_l_sign (T : Txt K mg) : FnOk P w K mg base CX0 2 T.f_l_sign T.fd_l_sign ["_law_tape_here"] (sp_l_sign K) := by
  refine T.F_l_sign.ok sc_l_sign (fun vs H Q E h => ?_) (fun cdv A outer s H vs Q E hr h => ?_)
  · obtain ⟨t, c, rfl, _⟩ := h
    rfl
  · obtain ⟨t, c, rfl, tp, k⟩ := h
    refine ⟨_, (pss_cons (ps_if (pt_cmpR op_gt (pe_call (ok_l_pick T) (hr.mono (by decide)) rfl T.g_l_pick T.F_l_pick.kp T.b_l_pick .nil pass0 (pa_cons (pv 0) (pa_cons pe_int pa_nil))) pe_int (nomark _))
  (pss_one (ps_ret (pe_ix ix_str pe_str (pe_call (ok_l_pick T) (hr.mono (by decide)) rfl T.g_l_pick T.F_l_pick.kp T.b_l_pick .nil pass0 (pa_cons (pv 0) (pa_cons pe_int pa_nil))) (fun _ _ => rfl))))
  pss_nil)
  (pss_cons (ps_set (i := 1) sc_l_sign.nd rfl (.inl rfl) pe_str)
  (pss_cons (ps_set (i := 1) sc_l_sign.nd rfl (.inl rfl) (pe_op Rd.o_addS (pv 1) pe_str))
  (pss_one (ps_ret (pe_ix ix_str (pv 1) (pe_call (ok_l_pick T) (hr.mono (by decide)) rfl T.g_l_pick T.F_l_pick.kp T.b_l_pick .nil pass0 (pa_cons (pv 0) (pa_cons (pe_callB (id := "len") (r := _) Rd.c_lenS (by rfl) T.n_len (by decide +kernel) (pa_cons (pv 1) pa_nil)) pa_nil))) (fun _ _ => rfl))))))), ?_⟩
    walk_at "rd"
    refine pickR tp (by decide) (by decide) fun r H1 r0 r1 tp1 b1 => ?_
    walk_at "rd"
    by_cases q : (0 : Int) < r
    · refine Rd.yes q ?_
      walk_at "rd"
      refine pickR tp1 (by decide) (by decide) fun w H2 w0 w1 tp2 b2 => ?_
      obtain ⟨ch, e⟩ := sign_at (z := "abz01289 \nplr") w0 (by rw [show ("abz01289 \nplr" : Str).length = 13 by decide +kernel]; omega)
      refine Rd.ixS (by decide +kernel) e ?_
      exact k _ H2 rfl tp2 (b1.trans b2)
    · refine Rd.no q ?_
      walk_at "rd"
      refine Rd.addS (by decide +kernel) ?_
      walk_at "rd"
      refine Rd.lenStr (by decide +kernel) ?_
      walk_at "rd"
      refine pickR tp1 (by decide +kernel) (by decide +kernel) fun w H2 w0 w1 tp2 b2 => ?_
      obtain ⟨ch, e⟩ := sign_at w0 w1
      refine Rd.ixS (by decide +kernel) e ?_
      exact k _ H2 rfl tp2 (b1.trans b2)
theorem ok_l_watches (T : Txt K mg) : FnOk P w K mg base CX0 2 T.f_l_watches T.fd_l_watches ["_law_tape_here"] (sp_l_watches K) := by
  refine T.F_l_watches.ok sc_l_watches (fun vs H Q E h => ?_) (fun cdv A outer s H vs Q E hr h => ?_)
  · obtain ⟨t, c, rfl, _⟩ := h
    rfl
  · obtain ⟨t, c, rfl, tp, k⟩ := h
    refine ⟨_, (pss_cons (ps_set (i := 1) sc_l_watches.nd rfl (.inr rfl) pe_str)
  (pss_cons (ps_set (i := 3) sc_l_watches.nd rfl (.inr rfl) (pe_lc (own := [("_law_k", 2)]) (g := gName 2) (tt := tYes) rfl sc_l_watches.nd (pi_range1 rfl T.n_range (pa_cons (pe_op op_add pe_int (pe_call (ok_l_pick T) (hr.mono (by decide)) rfl T.g_l_pick T.F_l_pick.kp T.b_l_pick .nil pass0 (pa_cons (pv 0) (pa_cons pe_int pa_nil)))) pa_nil)) (blkOk_by (own := [("_law_k", 2)]) (N := ["_law_tape_here", "_law_letters", "_law_k", "_law_few", "_law_base", "_law_found", "_law_watch"]) (sc := defScope s_l_watches) (by decide +kernel)) (fun _ _ _ _ _ => (pg_name (i := 2) sc_l_watches.nd rfl (.inl rfl))) (fun _ _ _ _ _ => pts_nil) (fun _ _ _ _ _ => (pe_ix ix_str (pv 1) (pe_call (ok_l_pick T) (hr.mono (by decide)) rfl T.g_l_pick T.F_l_pick.kp T.b_l_pick .nil pass0 (pa_cons (pv 0) (pa_cons pe_int pa_nil))) (fun _ _ => rfl)))))
  (pss_cons (ps_set (i := 4) sc_l_watches.nd rfl (.inl rfl) (pe_join pe_str (pe_lc (own := [("_law_k", 2)]) (g := gName 2) (tt := tYes) rfl sc_l_watches.nd (pi_range1 rfl T.n_range (pa_cons pe_int pa_nil)) (blkOk_by (own := [("_law_k", 2)]) (N := ["_law_tape_here", "_law_letters", "_law_k", "_law_few", "_law_base", "_law_found", "_law_watch"]) (sc := defScope s_l_watches) (by decide +kernel)) (fun _ _ _ _ _ => (pg_name (i := 2) sc_l_watches.nd rfl (.inl rfl))) (fun _ _ _ _ _ => pts_nil) (fun _ _ _ _ _ => (pe_ix (r := rIxL K) ix_list (pv 3) (pe_call (ok_l_pick T) (hr.mono (by decide)) rfl T.g_l_pick T.F_l_pick.kp T.b_l_pick .nil pass0 (pa_cons (pv 0) (pa_cons (pe_callB (id := "len") (r := Rd.nLen K) Rd.c_len (by rfl) T.n_len (by decide +kernel) (pa_cons (pv 3) pa_nil)) pa_nil))) (fun _ _ => rfl))))))
  (pss_cons (ps_set (i := 5) sc_l_watches.nd rfl (.inl rfl) (pe_lst pa_nil))
  (pss_cons (ps_for PassesOwn.never rfl (pi_range1 rfl T.n_range (pa_cons (pe_call (ok_l_pick T) (hr.mono (by decide)) rfl T.g_l_pick T.F_l_pick.kp T.b_l_pick .nil pass0 (pa_cons (pv 0) (pa_cons pe_int pa_nil))) pa_nil)) (pg_name (i := 2) sc_l_watches.nd rfl (.inl rfl))
  (pss_cons (ps_set (i := 6) sc_l_watches.nd rfl (.inl rfl) (pe_op Rd.o_addS (pe_slice sl_str (pv 4) po_none (po_some (pe_call (ok_l_pick T) (hr.mono (by decide)) rfl T.g_l_pick T.F_l_pick.kp T.b_l_pick .nil pass0 (pa_cons (pv 0) (pa_cons pe_int pa_nil))))) (pe_ix ix_str (pv 1) (pe_call (ok_l_pick T) (hr.mono (by decide)) rfl T.g_l_pick T.F_l_pick.kp T.b_l_pick .nil pass0 (pa_cons (pv 0) (pa_cons pe_int pa_nil))) (fun _ _ => rfl))))
  (C8.pss_cut (ps_if (pt_cmpR op_eq (pe_call (ok_l_pick T) (hr.mono (by decide)) rfl T.g_l_pick T.F_l_pick.kp T.b_l_pick .nil pass0 (pa_cons (pv 0) (pa_cons pe_int pa_nil))) pe_int (nomark _))
  (pss_one (ps_set (i := 6) sc_l_watches.nd rfl (.inl rfl) (Re.pe_revS (pv 6))))
  pss_nil)
  (pss_one (ps_if (PW.pt (pw_and (pt_cmpR (r := rIn K true) op_notIn_seq (pv 6) (pv 5) (by rfl)) (pw_and1 (pt_cmpR op_lt (pe_callB (id := "len") (r := Rd.nLen K) Rd.c_len (by rfl) T.n_len (by decide +kernel) (pa_cons (pv 5) pa_nil)) pe_int (nomark _)))))
  (pss_one (ps_expr (pe_bm PySem.F.plainAttrs_list PySem.F.slot_list_append PySem.F.type_list_append mt_append (pv 5) (pa_cons (pv 6) pa_nil))))
  pss_nil)))))
  (pss_one (ps_ret (pv 5)))))))), ?_⟩
    have sl := sizeLine_eq
    walk_at "rd"
    refine pickR tp (by decide) (by decide) fun r H1 r0 r1 tp1 b1 => ?_
    obtain ⟨n, hn, n1, n3⟩ : ∃ n : Nat, 1 + r = (n : Int) ∧ 1 ≤ n ∧ n ≤ 3 := ⟨(1 + r).toNat, by omega, by omega, by omega⟩
    walk_at "rd"
    rw [hn]
    refine ⟨by omega, by omega, ?_⟩
    refine lcT (n := n) walk_range tp1 (fun _ _ => trivial) (fun D i acc _ => ∃ ys : List Str, acc = ys.map V.str ∧ ys.length = i ∧ ∀ y ∈ ys, Lt.Let y ∧ y.length = 1) (fun _ _ _ _ _ => ⟨[], rfl, rfl, fun _ m => by simp at m⟩) ?_ ?_
    · rintro D i x G _ acc nD hi hD tpG bG ⟨ys, rfl, yl, hy⟩ ⟨rfl, hx⟩
      walk_at "rd"
      refine ⟨rfl, ?_⟩
      walk_at "rd"
      refine pickR tpG (by decide) (by decide) fun w H2 w0 w1 tp2 b2 => ?_
      obtain ⟨ch, e, hc⟩ := abc_at w0 w1
      refine Rd.ixS (by decide +kernel) e ?_
      refine lcPuT (b2 D _ (tp1.new nD).1 hD) nD tp1 tp2 (bG.trans b2) (by rw [List.length_map, yl]; omega) fun G2 g2 off2 => ?_
      refine ⟨ys ++ [⟨#[ch]⟩], by rw [List.map_append]; rfl, by rw [List.length_append, yl]; rfl, fun y m => ?_⟩
      rcases List.mem_append.mp m with m | m
      · exact hy y m
      · rw [List.mem_singleton.mp m]
        exact ⟨Lt.Let.one hc, rfl⟩
    rintro fw _ H2 nfw gfw tp2 b2 ⟨ys, rfl, yl, hy⟩
    have fwt := (tp1.new nfw).1
    walk_at "rd"
    refine ⟨by decide, by decide, ?_⟩
    refine lcT (n := 12) walk_range tp2 (fun _ _ => trivial) (fun D i acc G => ∃ zs : List Str, acc = zs.map V.str ∧ zs.length = i ∧ ∀ y ∈ zs, Lt.Let y ∧ y.length = 1) (fun _ _ _ _ _ => ⟨[], rfl, rfl, fun _ m => by simp at m⟩) ?_ ?_
    · rintro D i x G _ acc nD hi hD tpG bG ⟨zs, rfl, zl, hz⟩ ⟨rfl, hx⟩
      have g2 := bG _ _ fwt gfw
      have hi2 : i < 12 := hi
      walk_at "rd"
      refine ⟨rfl, ?_⟩
      walk_at "rd"
      refine Rd.len (.inl (.of g2)) ?_
      rw [List.length_map]
      walk_at "rd"
      refine pickR tpG (by omega) (by omega) fun w H3 w0 w1 tp3 b3 => ?_
      have wl : w.toNat < ys.length := by omega
      refine Rd.ixL (.of (b3 _ _ fwt g2)) (Rd.atI_of w0 (by rw [List.getElem?_map, List.getElem?_eq_getElem wl]; rfl)) ?_
      refine lcPuT (b3 D _ (tp2.new nD).1 hD) nD tp2 tp3 (bG.trans b3) (by rw [List.length_map, zl]; omega) fun G2 g2 off2 => ?_
      refine ⟨zs ++ [ys[w.toNat]], by rw [List.map_append]; rfl, by rw [List.length_append, zl]; rfl, fun y m => ?_⟩
      rcases List.mem_append.mp m with m | m
      · exact hz y m
      · rw [List.mem_singleton.mp m]
        exact hy _ (List.getElem_mem wl)
    rintro D _ H3 nD gD tp3 b3 ⟨zs, rfl, zl, hz⟩
    obtain ⟨jl, jn, js⟩ := Lt.join_one zl hz
    walk_at "rd"
    refine ⟨"", D, zs, rfl, rfl, .inl (.of gD), by rw [js, zl]; decide +kernel, ?_⟩
    generalize hb : Txt.join _ zs = base
    have jl : Lt.Let base := by rw [← hb]; exact jl
    have jn : base.length = 12 := by rw [← hb]; exact jn
    walk_at "rd"
    refine ⟨Nat.zero_le _, Rd.new fun f H4 nf gf s4 => ?_⟩
    have tp4 := tp3.same s4
    have ft : f ≠ t := (tp3.new nf).1
    have fc : f ≠ c := (tp3.new nf).2
    walk_at "rd"
    refine Rd.forS ?_
    walk_at "rd"
    refine pickR tp4 (by decide) (by decide) fun r2 H5 q0 q1 tp5 b5 => ?_
    walk_at "rd"
    refine ⟨by omega, by omega, ?_⟩
    have b05 : Rd.But t H H5 := (((b1.trans b2).trans b3).same s4).trans b5
    have nfH : H f = none := by
      rcases e : H f with _ | o
      · rfl
      · have := b3 f _ ft (b2 f _ ft (b1 f _ ft e))
        rw [nf] at this
        cases this
    refine for_range (lo := 0) (n := r2.toNat) (fun i σ G => (∃ o2 o6 : Option V, σ = [some (.ref t), some (.str Lt.Abc), o2, some (.ref fw), some (.str base), some (.ref f), o6]) ∧ ∃ ws : List Str, G f = some (.lst (ws.map V.str)) ∧ Watches ws ∧ Tape G t c ∧ Rd.But t H G) ⟨⟨_, _, rfl⟩, [], b5 _ _ ft gf, ⟨List.nodup_nil, Nat.zero_le _, fun _ m => by simp at m⟩, tp5, b05⟩ ?_ ?_
    · clear gf tp4 tp5 b5 b05
      rintro i _ G hi ⟨⟨o2, o6, rfl⟩, ws, gf, L, tpG, bG⟩
      walk_at "rd"
      refine pickR tpG (by decide) (by decide) fun w H6 w0 w1 tp6 b6 => ?_
      walk_at "rd"
      refine Rd.slS (z := base) (by omega) ?_
      walk_at "rd"
      refine pickR tp6 (by decide) (by decide) fun y H7 y0 y1 tp7 b7 => ?_
      obtain ⟨ch, e, hc⟩ := abc_at y0 y1
      refine Rd.ixS (by decide +kernel) e ?_
      obtain ⟨m, rfl⟩ : ∃ m : Nat, w = (m : Int) := ⟨w.toNat, by omega⟩
      have cl : (cutS base none (some (m : Int))).length = m := by
        have := Lt.cut_len (z := base) (a := 0) (b := m) (Nat.zero_le _) (by omega)
        rw [show cutS base none (some (m : Int)) = cutS base (some ((0 : Nat) : Int)) (some (m : Int)) from rfl]
        omega
      refine Rd.addS (by rw [cl, sl]; show m + 1 ≤ _; omega) ?_
      have hW : Lt.Wd 12 (cutS base none (some (m : Int)) ++ ⟨#[ch]⟩) := by
        have e1 : (cutS base none (some (m : Int)) ++ (⟨#[ch]⟩ : Str)).length = m + 1 := by rw [Lt.len_app, cl]; rfl
        exact ⟨(jl.cut _ _).app (Lt.Let.one hc), by omega, by omega⟩
      generalize cutS base none (some (m : Int)) ++ (⟨#[ch]⟩ : Str) = W at hW
      have gf7 := b7 _ _ ft (b6 _ _ ft gf)
      have b07 := (bG.trans b6).trans b7
      clear cl tp6 b6 b7 tpG bG gf
      walk_at "rd"
      refine Rd.cut (fun σ G => (∃ Z : Str, σ = [some (.ref t), some (.str Lt.Abc), some (.int (0 + (i : Int))), some (.ref fw), some (.str base), some (.ref f), some (.str Z)] ∧ Lt.Wd 12 Z) ∧ Tape G t c ∧ Rd.But t H7 G) ?_ ?_
      · walk_at "rd"
        refine pickR tp7 (by decide) (by decide) fun v H8 v0 v1 tp8 b8 => ?_
        walk_at "rd"
        by_cases vz : v = 0
        · refine Rd.yes vz ?_
          walk_at "rd"
          have hl : W.length ≤ sizeLine := by have := hW.l1; omega
          refine Re.revT ?_
          walk_at "rd"
          refine ⟨hl, ?_⟩
          walk_at "rd"
          refine ⟨⟨_, rfl, ⟨fun ch m => hW.ok ch (by rw [Re.revS_list] at m; exact List.mem_reverse.mp m), ?_, ?_⟩⟩, tp8, b8⟩
          · rw [show (Re.revS W).length = W.length from Array.size_reverse]; exact hW.l0
          · rw [show (Re.revS W).length = W.length from Array.size_reverse]; exact hW.l1
        · refine Rd.no vz ?_
          walk_at "rd"
          exact ⟨⟨_, rfl, hW⟩, tp8, b8⟩
      clear hW tp7 W
      rintro _ H8 ⟨⟨W, rfl, hW⟩, tp8, b8⟩
      have gf8 := b8 _ _ ft gf7
      have b08 := b07.trans b8
      walk_at "rd"
      refine Rd.inStrsN (.inl (.of gf8)) ?_
      by_cases mm : W ∈ ws
      · rw [decide_eq_true mm]
        walk_at "rd"
        exact ⟨⟨_, _, rfl⟩, ws, gf8, L, tp8, b08⟩
      · rw [decide_eq_false mm]
        walk_at "rd"
        refine Rd.len (.inl (.of gf8)) ?_
        rw [List.length_map]
        walk_at "rd"
        by_cases l : (ws.length : Int) < 12
        · refine Rd.yes l ?_
          walk_at "rd"
          refine Rd.tyL (.of gf8) ?_
          walk_at "rd"
          refine Rd.app gf8 (by rw [List.length_map]; omega) fun G2 g2 off2 => ?_
          walk_at "rd"
          refine ⟨⟨_, _, rfl⟩, ws ++ [W], by rw [List.map_append]; exact g2, ⟨snoc_nodup L.nd mm, by rw [List.length_append]; show ws.length + 1 ≤ 12; omega, fun z m => ?_⟩, tp8.off ft fc off2, but_off b08 nfH off2⟩
          rcases List.mem_append.mp m with m | m
          · exact L.ok z m
          · rw [List.mem_singleton.mp m]
            exact hW
        · refine Rd.no l ?_
          walk_at "rd"
          exact ⟨⟨_, _, rfl⟩, ws, gf8, L, tp8, b08⟩
    · rintro _ G ⟨⟨o2, o6, rfl⟩, ws, gf, L, tpG, bG⟩
      walk_at "rd"
      exact k f ws G gf L tpG bG
theorem ok_l_changed (T : Txt K mg) : FnOk P w K mg base CX0 3 T.f_l_changed T.fd_l_changed ["_law_tape_here", "_law_text_here"] (sp_l_changed K) := by
  refine T.F_l_changed.ok sc_l_changed (fun vs H Q E h => ?_) (fun cdv A outer s H vs Q E hr h => ?_)
  · obtain ⟨t, c, z, rfl, _⟩ := h
    rfl
  · obtain ⟨t, c, z, rfl, tp, zl, k⟩ := h
    refine ⟨_, (pss_cons (ps_set (i := 2) sc_l_changed.nd rfl (.inl rfl) (pe_call (ok_l_pick T) (hr.mono (by decide)) rfl T.g_l_pick T.F_l_pick.kp T.b_l_pick .nil pass0 (pa_cons (pv 0) (pa_cons pe_int pa_nil))))
  (pss_cons (ps_set (i := 3) sc_l_changed.nd rfl (.inl rfl) (pe_bm PySem.F.plainAttrs_str PySem.F.slot_str_split PySem.F.type_str_split mt_split (pv 1) (pa_cons pe_str pa_nil)))
  (pss_cons (ps_set (i := 4) sc_l_changed.nd rfl (.inl rfl) (pe_call (ok_l_pick T) (hr.mono (by decide)) rfl T.g_l_pick T.F_l_pick.kp T.b_l_pick .nil pass0 (pa_cons (pv 0) (pa_cons (pe_callB (id := "len") (r := Rd.nLen K) Rd.c_len (by rfl) T.n_len (by decide +kernel) (pa_cons (pv 3) pa_nil)) pa_nil))))
  (pss_cons (ps_set (i := 5) sc_l_changed.nd rfl (.inl rfl) (pe_call (ok_l_pick T) (hr.mono (by decide)) rfl T.g_l_pick T.F_l_pick.kp T.b_l_pick .nil pass0 (pa_cons (pv 0) (pa_cons (pe_callB (id := "len") (r := Rd.nLen K) Rd.c_len (by rfl) T.n_len (by decide +kernel) (pa_cons (pv 3) pa_nil)) pa_nil))))
  (pss_cons (ps_set (i := 6) sc_l_changed.nd rfl (.inl rfl) (pe_call (ok_l_pick T) (hr.mono (by decide)) rfl T.g_l_pick T.F_l_pick.kp T.b_l_pick .nil pass0 (pa_cons (pv 0) (pa_cons (pe_op op_add (pe_callB (id := "len") (r := _) Rd.c_lenS (by rfl) T.n_len (by decide +kernel) (pa_cons (pv 1) pa_nil)) pe_int) pa_nil))))
  (pss_cons (ps_set (i := 7) sc_l_changed.nd rfl (.inl rfl) (pe_call (ok_l_sign T) (hr.mono (by decide)) rfl T.g_l_sign T.F_l_sign.kp T.b_l_sign .nil pass0 (pa_cons (pv 0) pa_nil)))
  (pss_cons (ps_set (i := 8) sc_l_changed.nd rfl (.inl rfl) (pe_ix (r := rIxL K) ix_list (pe_lst (pa_cons pe_str (pa_cons pe_str (pa_cons pe_str (pa_cons pe_str (pa_cons pe_str (pa_cons pe_str (pa_cons pe_str (pa_cons pe_str (pa_cons pe_str (pa_cons pe_str (pa_cons pe_str pa_nil)))))))))))) (pe_call (ok_l_pick T) (hr.mono (by decide)) rfl T.g_l_pick T.F_l_pick.kp T.b_l_pick .nil pass0 (pa_cons (pv 0) (pa_cons pe_int pa_nil))) (fun _ _ => rfl)))
  (pss_cons (ps_if (pt_cmpR op_eq (pv 2) pe_int (nomark _))
  (pss_one (ps_ret (pe_join pe_str (pe_op op_cat (pe_slice (r := rSlL K) sl_list (pv 3) po_none (po_some (pv 4))) (pe_slice (r := rSlL K) sl_list (pv 3) (po_some (pe_op op_add (pv 4) pe_int)) po_none)))))
  pss_nil)
  (pss_cons (ps_if (pt_cmpR op_eq (pv 2) pe_int (nomark _))
  (pss_one (ps_ret (pe_join pe_str (pe_op op_cat (pe_slice (r := rSlL K) sl_list (pv 3) po_none (po_some (pe_op op_add (pv 4) pe_int))) (pe_slice (r := rSlL K) sl_list (pv 3) (po_some (pv 5)) po_none)))))
  pss_nil)
  (pss_cons (ps_if (pt_cmpR op_eq (pv 2) pe_int (nomark _))
  (pss_one (ps_ret (pe_join pe_str (pe_op op_cat (pe_op op_cat (pe_slice (r := rSlL K) sl_list (pv 3) po_none (po_some (pv 4))) (pe_lst (pa_cons (pe_ix (r := rIxL K) ix_list (pv 3) (pv 5) (fun _ _ => rfl)) pa_nil))) (pe_slice (r := rSlL K) sl_list (pv 3) (po_some (pv 4)) po_none)))))
  pss_nil)
  (pss_cons (ps_if (pt_cmpR op_lt (pv 2) pe_int (nomark _))
  (pss_one (ps_ret (pe_join pe_str (pe_op op_cat (pe_op op_cat (pe_slice (r := rSlL K) sl_list (pv 3) po_none (po_some (pe_op op_sub (pe_op op_add (pv 4) (pv 2)) pe_int))) (pe_lst (pa_cons (pv 8) pa_nil))) (pe_slice (r := rSlL K) sl_list (pv 3) (po_some (pe_op op_sub (pe_op op_add (pv 4) (pv 2)) pe_int)) po_none)))))
  pss_nil)
  (pss_cons (ps_if (pt_cmpR op_eq (pv 2) pe_int (nomark _))
  (pss_one (ps_ret (pe_op Rd.o_addS (pe_slice sl_str (pv 1) po_none (po_some (pv 6))) (pe_slice sl_str (pv 1) (po_some (pe_op op_add (pv 6) pe_int)) po_none))))
  pss_nil)
  (pss_cons (ps_if (pt_cmpR op_lt (pv 2) pe_int (nomark _))
  (pss_one (ps_ret (pe_op Rd.o_addS (pe_op Rd.o_addS (pe_slice sl_str (pv 1) po_none (po_some (pv 6))) (pv 7)) (pe_slice sl_str (pv 1) (po_some (pe_op op_sub (pe_op op_add (pv 6) (pv 2)) pe_int)) po_none))))
  pss_nil)
  (pss_cons (ps_set (i := 9) sc_l_changed.nd rfl (.inl rfl) (pe_slice (r := rSlL K) sl_list (pe_op op_cat (pv 3) (pe_lc (own := [("_law_k", 10)]) (g := gName 10) (tt := tYes) rfl sc_l_changed.nd (pi_range1 rfl T.n_range (pa_cons pe_int pa_nil)) (blkOk_by (own := [("_law_k", 10)]) (N := ["_law_tape_here", "_law_text_here", "_law_kind", "_law_rows", "_law_row", "_law_other", "_law_at", "_law_sign_here", "_law_odd", "_law_more", "_law_k"]) (sc := defScope s_l_changed) (by decide +kernel)) (fun _ _ _ _ _ => (pg_name (i := 10) sc_l_changed.nd rfl (.inl rfl))) (fun _ _ _ _ _ => pts_nil) (fun _ _ _ _ _ => (pe_op Rd.o_addS pe_str (pe_op Rx.o_repS pe_str (pv 10)))))) po_none (po_some (pe_op op_add pe_int (pe_op op_mod (pe_callTy (T := "int") (r := _) Rd.c_int (by rfl) T.n_int (by decide +kernel) (pa_cons (pv 6) pa_nil)) pe_int)))))
  (pss_one (ps_ret (pe_ix (r := rIxL K) ix_list (pe_lst (pa_cons (pe_slice sl_str (pv 1) po_none (po_some (pv 6))) (pa_cons (pe_op Rd.o_addS (pv 1) pe_str) (pa_cons (pe_join pe_str (pv 9)) pa_nil)))) (pe_call (ok_l_pick T) (hr.mono (by decide)) rfl T.g_l_pick T.F_l_pick.kp T.b_l_pick .nil pass0 (pa_cons (pv 0) (pa_cons pe_int pa_nil))) (fun _ _ => rfl)))))))))))))))))), ?_⟩
    have sl := sizeLine_eq
    walk_at "rd"
    refine pickR tp (by decide) (by decide) fun kd H1 d0 d1 tp1 b1 => ?_
    walk_at "rd"
    refine tyS ?_
    walk_at "rd"
    refine splitS (by omega) fun D H2 nD gD s2 => ?_
    have tp2 := tp1.same s2
    have Dt := (tp1.new nD).1
    have b02 : Rd.But t H H2 := b1.same s2
    have hw : wt (Txt.split z "\n") = z.length + 1 := split_wt z
    have hr1 : 1 ≤ (Txt.split z "\n").length := by
      rcases e : Txt.split z "\n" with _ | ⟨y, ys⟩
      · rw [e] at hw
        cases hw
      · rw [List.length_cons]
        omega
    have hr2 : (Txt.split z "\n").length ≤ z.length + 1 := by
      unfold wt at hw
      omega
    have hrm : ∀ y ∈ Txt.split z "\n", y.length ≤ z.length := fun y m => by have := wt_mem m; omega
    generalize Txt.split z "\n" = rs at gD hw hr1 hr2 hrm
    clear tp tp1 b1 s2 nD
    walk_at "rd"
    refine Rd.len (.inl (.of gD)) ?_
    rw [List.length_map]
    walk_at "rd"
    refine pickR tp2 (by omega) (by omega) fun row H3 w0 w1 tp3 b3 => ?_
    replace gD := b3 _ _ Dt gD
    walk_at "rd"
    refine Rd.len (.inl (.of gD)) ?_
    rw [List.length_map]
    walk_at "rd"
    refine pickR tp3 (by omega) (by omega) fun oth H4 o0 o1 tp4 b4 => ?_
    replace gD := b4 _ _ Dt gD
    walk_at "rd"
    refine Rd.lenStr (by omega) ?_
    walk_at "rd"
    refine pickR tp4 (by omega) (by omega) fun at_ H5 a0 a1 tp5 b5 => ?_
    replace gD := b5 _ _ Dt gD
    walk_at "rd"
    refine ⟨t, c, rfl, tp5, fun sg H6 sgl tp6 b6 => ?_⟩
    replace gD := b6 _ _ Dt gD
    walk_at "rd"
    refine ⟨Nat.le_of_ble_eq_true rfl, Rd.new fun L H7 nL gL s7 => ?_⟩
    have tp7 := tp6.same s7
    replace gD := s7 _ _ gD
    have Lt_ := (tp6.new nL).1
    walk_at "rd"
    refine pickR tp7 (by decide) (by decide) fun od H8 r0 r1 tp8 b8 => ?_
    replace gD := b8 _ _ Dt gD
    obtain ⟨odd, hod, odl⟩ : ∃ odd : Str, ((["", " ", "a", "A", "abcdefghijkl", "abcdefghijklm", "a b", "ab ", " ab", "1", "zz"] : List Str).map V.str)[od.toNat]? = some (.str odd) ∧ odd.length ≤ 13 := by
      have hl : od.toNat < (["", " ", "a", "A", "abcdefghijkl", "abcdefghijklm", "a b", "ab ", " ab", "1", "zz"] : List Str).length := by show od.toNat < 11; omega
      refine ⟨_, by rw [List.getElem?_map, List.getElem?_eq_getElem hl]; rfl, ?_⟩
      have all : ∀ y ∈ (["", " ", "a", "A", "abcdefghijkl", "abcdefghijklm", "a b", "ab ", " ab", "1", "zz"] : List Str), y.length ≤ 13 := by decide +kernel
      exact all _ (List.getElem_mem hl)
    refine Rd.ixL (.of (b8 _ _ Lt_ gL)) (Rd.atI_of r0 hod) ?_
    have b08 : Rd.But t H H8 := (((((b02.trans b3).trans b4).trans b5).trans b6).same s7).trans b8
    clear b02 b3 b4 b5 b6 s7 b8 tp2 tp3 tp4 tp5 tp6 tp7 nL gL Lt_ hod r0 r1
    have jn : ∀ (P : Addr) (G : Hp) (ys : List Str), G P = some (.lst (ys.map V.str)) → wt ys ≤ 3 * z.length + 400 → Tape G t c → Rd.But t H8 G → ∃ a p, ∃ ys : List Str, V.str "\n" = .str a ∧ [V.ref P] = [.ref p] ∧ (SqL K G p (ys.map V.str) ∨ SqT K G p (ys.map V.str)) ∧ (ys.map (·.length)).sum + ys.length * a.length ≤ 16777216 ∧ Q (.str (Txt.join a ys)) G := fun P G ys gP hwt tG bG =>
      ⟨"\n", P, ys, rfl, rfl, .inl (.of gP), wt_join (by omega), k _ G (Nat.le_trans (join_le ys) hwt) tG (b08.trans bG)⟩
    walk_at "rd"
    by_cases k0 : kd = 0
    · refine Rd.yes k0 ?_
      walk_at "rd"
      refine Rd.slL (.of gD) (Rd.new fun W1 G1 nW1 gW1 s1 => ?_)
      obtain ⟨us, eu, wu⟩ := cut_map rs _ _
      rw [eu] at gW1
      walk_at "rd"
      refine Rd.slL (.of (s1 _ _ gD)) (Rd.new fun W2 G2 nW2 gW2 s2 => ?_)
      obtain ⟨vs, ev, wv⟩ := cut_map rs _ _
      rw [ev] at gW2
      have lu : us.length ≤ wt us := Nat.le_add_left ..
      have lv : vs.length ≤ wt vs := Nat.le_add_left ..
      refine Rd.cat (s2 _ _ gW1) gW2 (by rw [List.length_map, List.length_map]; omega) (Rd.new fun W3 G3 nW3 gW3 s3 => ?_)
      have s13 := (s1.trans s2).trans s3
      exact jn W3 G3 (us ++ vs) (by rw [List.map_append]; exact gW3) (by rw [wt_app]; omega) (tp8.same s13) (.of s13)
    refine Rd.no k0 ?_
    walk_at "rd"
    by_cases k1 : kd = 1
    · refine Rd.yes k1 ?_
      walk_at "rd"
      refine Rd.slL (.of gD) (Rd.new fun W1 G1 nW1 gW1 s1 => ?_)
      obtain ⟨us, eu, wu⟩ := cut_map rs _ _
      rw [eu] at gW1
      walk_at "rd"
      refine Rd.slL (.of (s1 _ _ gD)) (Rd.new fun W2 G2 nW2 gW2 s2 => ?_)
      obtain ⟨vs, ev, wv⟩ := cut_map rs _ _
      rw [ev] at gW2
      have lu : us.length ≤ wt us := Nat.le_add_left ..
      have lv : vs.length ≤ wt vs := Nat.le_add_left ..
      refine Rd.cat (s2 _ _ gW1) gW2 (by rw [List.length_map, List.length_map]; omega) (Rd.new fun W3 G3 nW3 gW3 s3 => ?_)
      have s13 := (s1.trans s2).trans s3
      exact jn W3 G3 (us ++ vs) (by rw [List.map_append]; exact gW3) (by rw [wt_app]; omega) (tp8.same s13) (.of s13)
    refine Rd.no k1 ?_
    walk_at "rd"
    by_cases k2 : kd = 2
    · refine Rd.yes k2 ?_
      have ol : oth.toNat < rs.length := by omega
      walk_at "rd"
      refine Rd.slL (.of gD) (Rd.new fun W1 G1 nW1 gW1 s1 => ?_)
      obtain ⟨us, eu, wu⟩ := cut_map rs _ _
      rw [eu] at gW1
      walk_at "rd"
      refine Rd.ixL (.of (s1 _ _ gD)) (Rd.atI_of o0 (by rw [List.getElem?_map, List.getElem?_eq_getElem ol]; rfl)) ?_
      walk_at "rd"
      refine ⟨Nat.le_of_ble_eq_true rfl, Rd.new fun M GM nM gM sM => ?_⟩
      have lu : us.length ≤ wt us := Nat.le_add_left ..
      refine Rd.cat (sM _ _ gW1) gM (by rw [List.length_map]; show us.length + 1 ≤ _; omega) (Rd.new fun W5 G5 nW5 gW5 s5 => ?_)
      have s15 := (s1.trans sM).trans s5
      walk_at "rd"
      refine Rd.slL (.of (s15 _ _ gD)) (Rd.new fun W2 G2 nW2 gW2 s2 => ?_)
      obtain ⟨vs, ev, wv⟩ := cut_map rs _ _
      rw [ev] at gW2
      have lv : vs.length ≤ wt vs := Nat.le_add_left ..
      refine Rd.cat (s2 _ _ gW5) gW2 (by rw [List.length_append, List.length_map, List.length_map]; show us.length + 1 + vs.length ≤ _; omega) (Rd.new fun W3 G3 nW3 gW3 s3 => ?_)
      have s13 := (s15.trans s2).trans s3
      exact jn W3 G3 (us ++ [rs[oth.toNat]] ++ vs) (by rw [List.map_append, List.map_append]; exact gW3) (by rw [wt_app, wt_app, wt_cons, wt_nil]; have := hrm _ (List.getElem_mem ol); omega) (tp8.same s13) (.of s13)
    refine Rd.no k2 ?_
    walk_at "rd"
    by_cases k5 : kd < 5
    · refine Rd.yes k5 ?_
      walk_at "rd"
      refine Rd.slL (.of gD) (Rd.new fun W1 G1 nW1 gW1 s1 => ?_)
      obtain ⟨us, eu, wu⟩ := cut_map rs _ _
      rw [eu] at gW1
      walk_at "rd"
      refine ⟨Nat.le_of_ble_eq_true rfl, Rd.new fun M GM nM gM sM => ?_⟩
      have lu : us.length ≤ wt us := Nat.le_add_left ..
      refine Rd.cat (sM _ _ gW1) gM (by rw [List.length_map]; show us.length + 1 ≤ _; omega) (Rd.new fun W5 G5 nW5 gW5 s5 => ?_)
      have s15 := (s1.trans sM).trans s5
      walk_at "rd"
      refine Rd.slL (.of (s15 _ _ gD)) (Rd.new fun W2 G2 nW2 gW2 s2 => ?_)
      obtain ⟨vs, ev, wv⟩ := cut_map rs _ _
      rw [ev] at gW2
      have lv : vs.length ≤ wt vs := Nat.le_add_left ..
      refine Rd.cat (s2 _ _ gW5) gW2 (by rw [List.length_append, List.length_map, List.length_map]; show us.length + 1 + vs.length ≤ _; omega) (Rd.new fun W3 G3 nW3 gW3 s3 => ?_)
      have s13 := (s15.trans s2).trans s3
      exact jn W3 G3 (us ++ [odd] ++ vs) (by rw [List.map_append, List.map_append]; exact gW3) (by rw [wt_app, wt_app, wt_cons, wt_nil]; omega) (tp8.same s13) (.of s13)
    refine Rd.no k5 ?_
    walk_at "rd"
    by_cases k6 : kd = 5
    · refine Rd.yes k6 ?_
      walk_at "rd"
      refine Rd.slS (z := z) (by omega) ?_
      walk_at "rd"
      refine Rd.slS (z := z) (by omega) ?_
      refine Rd.addS (by have := cutS_le z none (some at_); have := cutS_le z (some (at_ + 1)) none; omega) ?_
      exact k _ H8 (by rw [Lt.len_app]; have := cutS_le z none (some at_); have := cutS_le z (some (at_ + 1)) none; omega) tp8 b08
    refine Rd.no k6 ?_
    walk_at "rd"
    by_cases k8 : kd < 8
    · refine Rd.yes k8 ?_
      walk_at "rd"
      refine Rd.slS (z := z) (by omega) ?_
      walk_at "rd"
      have c1 := cutS_le z none (some at_)
      refine Rd.addS (by omega) ?_
      walk_at "rd"
      refine Rd.slS (z := z) (by omega) ?_
      have c2 := cutS_le z (some (at_ + kd - 6)) none
      have c3 := Lt.len_app (cutS z none (some at_)) sg
      refine Rd.addS (by omega) ?_
      exact k _ H8 (by rw [Lt.len_app]; omega) tp8 b08
    refine Rd.no k8 ?_
    walk_at "rd"
    refine ⟨by decide, by decide, ?_⟩
    refine Rd.lcS (n := 12) walk_range (fun _ _ => trivial) (fun D i acc _ => ∃ ys : List Str, acc = ys.map V.str ∧ ys.length = i ∧ wt ys ≤ 20 * i) (fun _ _ _ _ _ => ⟨[], rfl, rfl, Nat.zero_le _⟩) ?_ ?_
    · rintro E i x _ G acc nE hi hE sm ⟨ys, rfl, yl, yw⟩ ⟨rfl, rfl⟩
      have hi2 : i < 12 := hi
      walk_at "rd"
      refine ⟨rfl, ?_⟩
      walk_at "rd"
      refine Rx.repS (mulOk_p i hi2) ?_
      have pl := mul_p i hi2
      refine Rd.addS (by rw [pl, sl]; show 1 + i ≤ _; omega) ?_
      have al : (("q" : Str) ++ Txt.mul "p" (0 + (i : Int))).length = 1 + i := by rw [Lt.len_app, pl]; rfl
      refine Rd.lcPush hE nE sm (by rw [List.length_map, yl]; omega) fun G2 g2 off2 => ?_
      exact ⟨ys ++ [_], by rw [List.map_append]; rfl, by rw [List.length_append, yl]; rfl, by rw [wt_app, wt_cons, wt_nil, al]; omega⟩
    rintro E _ H9 nE gE s9 ⟨ys, rfl, yl, yw⟩
    walk_at "rd"
    have lr : rs.length ≤ wt rs := Nat.le_add_left ..
    refine Rd.cat (s9 _ _ gD) gE (by rw [List.length_map, List.length_map]; omega) (Rd.new fun W G1 nW gW s1 => ?_)
    walk_at "rd"
    refine Rd.iC (by decide) ?_
    walk_at "rd"
    refine Rd.slL (.of gW) (Rd.new fun W2 G2 nW2 gW2 s2 => ?_)
    rw [← List.map_append] at gW2
    obtain ⟨us, eu, wu⟩ := cut_map (rs ++ ys) none (some (9 + at_ % 6))
    rw [eu] at gW2
    rw [wt_app] at wu
    have yw2 : wt ys ≤ 240 := by omega
    walk_at "rd"
    refine Rd.slS (z := z) (by omega) ?_
    walk_at "rd"
    refine Rd.addS (by rw [nl_len]; omega) ?_
    walk_at "rd"
    refine ⟨"\n", W2, us, rfl, rfl, .inl (.of gW2), wt_join (by omega), ?_⟩
    walk_at "rd"
    refine ⟨Nat.le_of_ble_eq_true rfl, Rd.new fun L G3 nL gL s3 => ?_⟩
    have s03 := s9.trans (s1.trans (s2.trans s3))
    have tp9 := (((tp8.same s9).same s1).same s2)
    walk_at "rd"
    refine pickR (tp9.same s3) (by decide) (by decide) fun w G4 q0 q1 tpA bA => ?_
    obtain ⟨y, hy, yl3⟩ : ∃ y : Str, ([.str (cutS z none (some at_)), .str (z ++ "\n"), .str (Txt.join "\n" us)] : List V)[w.toNat]? = some (.str y) ∧ y.length ≤ 3 * z.length + 400 := by
      have c1 := cutS_le z none (some at_)
      have c2 := Lt.len_app z "\n"
      have c3 := join_le us
      rw [nl_len] at c2
      rcases (show w = 0 ∨ w = 1 ∨ w = 2 by omega) with rfl | rfl | rfl
      · exact ⟨_, rfl, by omega⟩
      · exact ⟨_, rfl, by omega⟩
      · exact ⟨_, rfl, by omega⟩
    refine Rd.ixL (.of (bA _ _ (tp9.new nL).1 gL)) (Rd.atI_of q0 hy) ?_
    exact k y G4 yl3 tpA ((b08.same s03).trans bA)

end
end W

namespace W
open PySem PySem.Spec PyProof.Rows L2
section
variable {P : Program} {w : World} {K : PySem.W.Frag} {mg : Str → Option Value} {base : Heap}
/-! ### what was read, shown -/
theorem reprT {H : Hp} {a : Addr} {d : PyData} {Q : VK} (dp : Dp K H (.ref a) d) (sh : d.showable = true) (nd : d.hasDict = false) (dd : d.depth ≤ 100) (ls : d.leavesShort 13 = true) (bk : d.bulk ≤ 2 ^ 20) (q : Q (.str d.shown) H) : Rg.rRepr K [.ref a] H Q :=
  ⟨a, d, rfl, dp, sh, nd, dd, PyData.shown_fits_bulk (by decide) (by decide) ls bk, q⟩
def watD (i : Int) : PyData := .tuple [.str "watches", .int i]
theorem wat_ok (i : Nat) (h : i < 12) : (watD (i : Nat)).showable = true ∧ (watD (i : Nat)).leavesShort 13 = true := by
  have : ∀ i : Nat, i < 12 → (watD (i : Nat)).showable = true ∧ (watD (i : Nat)).leavesShort 13 = true := by decide +kernel
  exact this i h
theorem strs_show : ∀ ws : List Str, PyData.showableAll (ws.map PyData.str) = true ∧ PyData.hasDictAll (ws.map PyData.str) = false
  | [] => ⟨rfl, rfl⟩
  | w :: ws => by
    obtain ⟨a, b⟩ := strs_show ws
    exact ⟨by show (true && PyData.showableAll (ws.map PyData.str)) = true; rw [a]; rfl, by show (false || PyData.hasDictAll (ws.map PyData.str)) = false; rw [b]; rfl⟩
theorem strs_leaves : ∀ ws : List Str, (∀ w ∈ ws, Lt.Let w) → PyData.leavesShortAll 13 (ws.map PyData.str) = true
  | [], _ => rfl
  | w :: ws, h => by
    show (w.cps.toList.all (fun c => decide (c < 16 ^ 8)) && PyData.leavesShortAll 13 (ws.map PyData.str)) = true
    rw [strs_leaves ws fun z m => h z (List.mem_cons_of_mem _ m), Bool.and_true, List.all_eq_true]
    intro c hc
    have hl := h w (List.mem_cons_self ..) c hc
    have : ∀ c ∈ Lt.Abc.cps.toList, decide (c < 16 ^ 8) = true := by decide +kernel
    exact this c hl
theorem strs_bulk : ∀ ws : List Str, PyData.bulkAll (ws.map PyData.str) = wt ws
  | [] => rfl
  | w :: ws => by
    rw [wt_cons, ← strs_bulk ws]
    rfl
theorem strs_depth : ∀ ws : List Str, PyData.depthAll (ws.map PyData.str) = 0
  | [] => rfl
  | w :: ws => by
    show max 0 (PyData.depthAll (ws.map PyData.str)) = 0
    rw [strs_depth ws]
    rfl
theorem wt_watches {ws : List Str} (L : Watches ws) : wt ws ≤ 156 := by
  have : ∀ ys : List Str, (∀ y ∈ ys, y.length ≤ 12) → wt ys ≤ 13 * ys.length := by
    intro ys
    induction ys with
    | nil => intro _; exact Nat.le_refl _
    | cons y ys ih =>
      intro h
      have := h y (List.mem_cons_self ..)
      have := ih fun z m => h z (List.mem_cons_of_mem _ m)
      rw [wt_cons, List.length_cons]
      omega
  have := this ws fun y m => by have := (L.ok y m).l1; omega
  have := L.l1
  omega
theorem strs_dp {H : Hp} : ∀ ws : List Str, DpAll K H (ws.map V.str) (ws.map PyData.str)
  | [] => .nil
  | w :: ws => .cons (.str w) (strs_dp ws)
theorem reprWs {H : Hp} {a : Addr} {ws : List Str} {Q : VK} (h : H a = some (.tup (ws.map V.str))) (L : Watches ws) (q : Q (.str (PyData.tuple (ws.map PyData.str)).shown) H) : Rg.rRepr K [.ref a] H Q :=
  reprT (.tup (.of h) (strs_dp ws)) (strs_show ws).1 (strs_show ws).2 (by show PyData.depthAll _ + 1 ≤ 100; rw [strs_depth]; decide) (strs_leaves ws fun w m => (L.ok w m).ok) (by show PyData.bulkAll _ ≤ _; rw [strs_bulk]; have := wt_watches L; exact Nat.le_trans this (by decide)) q
theorem wat_dp {H : Hp} {p : Addr} {i : Int} (h : H p = some (.tup [.str "watches", .int i])) : Dp K H (.ref p) (watD i) := .tup (.of h) (.cons (.str _) (.cons (.int _) .nil))
def sp_l_reads (K : PySem.W.Frag) (C CW CT : Addr) : Sp := fun vs H Q _ => ∃ x, vs = [x] ∧ ((∃ z : Str, x = .str z ∧ z.length ≤ 100000) ∨ NoTxt K H x) ∧ ∀ H', Same H H' → Q (.bl true) H'
theorem bookOE {C : Addr} {H : Hp} {b c : Addr} {ws zs : List Str} {Q : VK} (h1 : BookAt C H b ws) (h2 : BookAt C H c zs) (L1 : Watches ws) (L2 : Watches zs) (e : ws.length = zs.length ∧ ∀ w ∈ ws, w ∈ zs) (q : ∀ H', Same H H' → Q (.bl true) H') : Ro.rOE C (sp_Book_eq K C) E0 id (.ref b) (.ref c) H Q := by
  obtain ⟨dx, t, hb, ht⟩ := id h1
  obtain ⟨dy, u, hc, hu⟩ := id h2
  refine Ro.oe hb hc ⟨b, c, ws, zs, rfl, h1, h2, L1.l1, L2.l1, fun z m => by have := (L1.ok z m).l1; omega, fun z m => by have := (L2.ok z m).l1; omega, fun r H' hr s => ⟨r, rfl, ?_⟩⟩
  rw [hr.mpr e]
  exact q H' s
theorem Watches.rev {ws : List Str} (L : Watches ws) : Watches ws.reverse := ⟨List.pairwise_reverse.mpr (L.nd.imp fun h e => h e.symm), by rw [List.length_reverse]; exact L.l1, fun z m => L.ok z (List.mem_reverse.mp m)⟩
theorem rowsCases (z : Str) : 12 < (rowsOf z).length ∨ ((rowsOf z).length ≤ 12 ∧ ∃ i, FirstBad (rowsOf z) i) ∨ Watches (rowsOf z) := by
  by_cases l : 12 < (rowsOf z).length
  · exact .inl l
  · rcases first_or (rowsOf z) _ (Nat.le_refl _) with h | h
    · exact .inr (.inr (watches_of (by omega) h))
    · exact .inr (.inl ⟨by omega, h⟩)
theorem ok_l_reads (T : Txt K mg) : Rg.FnG P w K mg base CX0 8 T.f_l_reads T.fd_l_reads ["_law_text_here"] (sp_l_reads K T.C_Book T.C_BadWatches T.C_BadText) := by
  refine Rg.okG T.F_l_reads sc_l_reads (fun vs H Q E h => ?_) (fun cdv A outer s H vs Q E gd hr h => ?_)
  · obtain ⟨x, rfl, _⟩ := h
    rfl
  · obtain ⟨x, rfl, hx, k⟩ := h
    refine ⟨_, (pss_cons (ps_set (i := 1) sc_l_reads.nd rfl (.inl rfl) (pe_call (ok_l_due T) (hr.mono (by decide)) rfl T.g_l_due T.F_l_due.kp T.b_l_due .nil pass0 (pa_cons (pv 0) pa_nil)))
  (pss_cons (ps_set (i := 2) sc_l_reads.nd rfl (.inl rfl) (pe_call (ok_l_asked T) (hr.mono (by decide)) rfl T.g_l_asked T.F_l_asked.kp T.b_l_asked .nil pass0 (pa_cons (pv 0) pa_nil)))
  (pss_cons (ps_if (pt_cmpR op_ne (pe_ix (r := rIxT K) ix_tup (pv 1) pe_int (fun _ _ => rfl)) pe_str (nomark _))
  (pss_one (ps_ret (pe_cmpR op_eq (pe_callB (id := "repr") (r := Rg.rRepr K) (Rg.cr_repr gd (Rg.u101 hr)) (by rfl) T.n_repr (by decide +kernel) (pa_cons (pv 2) pa_nil)) (pe_callB (id := "repr") (r := Rg.rRepr K) (Rg.cr_repr gd (Rg.u101 hr)) (by rfl) T.n_repr (by decide +kernel) (pa_cons (pv 1) pa_nil)) (nomark _))))
  pss_nil)
  (pss_cons (ps_if (PW.pt (pw_or (pt_cmpR op_ne (pe_ix (r := rIxT K) ix_tup (pv 2) pe_int (fun _ _ => rfl)) pe_str (nomark _)) (pw_or (pt_not (pt_val (pe_callB (id := "isinstance") (r := rIsi K) call_isi (by rfl) T.n_isinstance (by decide +kernel) (pa_cons (pe_ix (r := rIxT K) ix_tup (pv 2) pe_int (fun _ _ => rfl)) (pa_cons (pe_glob (v := .ref T.C_Book) rfl T.c_Book rfl) pa_nil))))) (pw_or1 (pt_cmpR op_ne (pe_callB (id := "repr") (r := Rg.rRepr K) (Rg.cr_repr gd (Rg.u101 hr)) (by rfl) T.n_repr (by decide +kernel) (pa_cons (pe_fld (pe_ix (r := rIxT K) ix_tup (pv 2) pe_int (fun _ _ => rfl)) rfl) pa_nil)) (pe_callB (id := "repr") (r := Rg.rRepr K) (Rg.cr_repr gd (Rg.u101 hr)) (by rfl) T.n_repr (by decide +kernel) (pa_cons (pe_ix (r := rIxT K) ix_tup (pv 1) pe_int (fun _ _ => rfl)) pa_nil)) (nomark _))))))
  (pss_one (ps_ret pe_bl))
  pss_nil)
  (pss_cons (ps_set (i := 3) sc_l_reads.nd rfl (.inl rfl) (pe_make T.M_Book (ok_Book_init T) (hr.mono (by decide)) rfl T.c_Book T.b_Book_init .nil passL (pa_cons (pe_revL (pe_callTy (T := "list") (r := Rd.nListOf K) Rd.c_listOf (by rfl) T.n_list (by decide +kernel) (pa_cons (pe_ix (r := rIxT K) ix_tup (pv 1) pe_int (fun _ _ => rfl)) pa_nil))) pa_nil)))
  (pss_one (ps_ret (pe_and (pe_cmpR (Ro.op_oe (E := E0) ⟨T.h_Book_eq.at_, T.h_Book_eq.fn, T.ne_Book, T.ty_Book.hm⟩ (ok_Book_eq T) T.b_Book_eq pass0 (hr.mono (by decide))) (pe_ix (r := rIxT K) ix_tup (pv 2) pe_int (fun _ _ => rfl)) (pv 3) (nomark _)) (pe_and (pe_cmpR (Ro.op_oe (E := E0) ⟨T.h_Book_eq.at_, T.h_Book_eq.fn, T.ne_Book, T.ty_Book.hm⟩ (ok_Book_eq T) T.b_Book_eq pass0 (hr.mono (by decide))) (pv 3) (pe_ix (r := rIxT K) ix_tup (pv 2) pe_int (fun _ _ => rfl)) (nomark _)) (pe_one (pe_cmpR op_eq (pe_call (ok_write_book T) (hr.mono (by decide)) rfl T.g_write_book T.F_write_book.kp T.b_write_book .nil passL (pa_cons (pe_ix (r := rIxT K) ix_tup (pv 2) pe_int (fun _ _ => rfl)) pa_nil)) (pe_call (ok_l_text T) (hr.mono (by decide)) rfl T.g_l_text T.F_l_text.kp T.b_l_text .nil pass0 (pa_cons (pe_callTy (T := "list") (r := Rd.nListOf K) Rd.c_listOf (by rfl) T.n_list (by decide +kernel) (pa_cons (pe_ix (r := rIxT K) ix_tup (pv 1) pe_int (fun _ _ => rfl)) pa_nil)) pa_nil)) (nomark _)))))))))))), ?_⟩
    rcases hx with ⟨z, rfl, l⟩ | od
    · rcases rowsCases z with n | ⟨n, i, f⟩ | L
      · walk_at "rd"
        refine ⟨_, rfl, .inl ⟨z, rfl, l, .inl ⟨n, fun p H1 gp s1 => ?_⟩⟩⟩
        walk_at "rd"
        refine ⟨_, rfl, .inl ⟨z, rfl, l, .inl ⟨n, fun q H2 gq s2 => ?_⟩⟩⟩
        walk_at "rd"
        refine Rd.ixT (.of (s2 _ _ gp)) (atI_nat (j := 0) rfl) ?_
        walk_at "rd"
        refine Rd.no (by decide +kernel) ?_
        walk_at "rd"
        refine reprT (wat_dp gq) (by decide +kernel) rfl (by decide +kernel) (by decide +kernel) (by decide +kernel) ?_
        walk_at "rd"
        refine reprT (wat_dp (s2 _ _ gp)) (by decide +kernel) rfl (by decide +kernel) (by decide +kernel) (by decide +kernel) ?_
        walk_at "rd"
        rw [decide_eq_true rfl]
        exact k _ (s1.trans s2)
      · obtain ⟨w1, w2⟩ := wat_ok i (by have := f.1; omega)
        walk_at "rd"
        refine ⟨_, rfl, .inl ⟨z, rfl, l, .inr (.inl ⟨n, i, f, fun p H1 gp s1 => ?_⟩)⟩⟩
        walk_at "rd"
        refine ⟨_, rfl, .inl ⟨z, rfl, l, .inr (.inl ⟨n, i, f, fun q H2 gq s2 => ?_⟩)⟩⟩
        walk_at "rd"
        refine Rd.ixT (.of (s2 _ _ gp)) (atI_nat (j := 0) rfl) ?_
        walk_at "rd"
        refine Rd.no (by decide +kernel) ?_
        walk_at "rd"
        refine reprT (wat_dp gq) w1 rfl (Nat.le_of_ble_eq_true rfl) w2 (Nat.le_of_ble_eq_true rfl) ?_
        walk_at "rd"
        refine reprT (wat_dp (s2 _ _ gp)) w1 rfl (Nat.le_of_ble_eq_true rfl) w2 (Nat.le_of_ble_eq_true rfl) ?_
        walk_at "rd"
        rw [decide_eq_true rfl]
        exact k _ (s1.trans s2)
      · walk_at "rd"
        refine ⟨_, rfl, .inl ⟨z, rfl, l, .inr (.inr ⟨L, fun p t H1 gp gt s1 => ?_⟩)⟩⟩
        walk_at "rd"
        refine ⟨_, rfl, .inl ⟨z, rfl, l, .inr (.inr ⟨L, fun q b H2 gq hB s2 => ?_⟩)⟩⟩
        have gp2 := s2 _ _ gp
        have gt2 := s2 _ _ gt
        generalize rowsOf z = ws at L gt gt2 hB
        obtain ⟨dx, u, hb, hu⟩ := id hB
        walk_at "rd"
        refine Rd.ixT (.of gp2) (atI_nat (j := 0) rfl) ?_
        walk_at "rd"
        refine Rd.yes rfl ?_
        walk_at "rd"
        refine Rd.ixT (.of gq) (atI_nat (j := 0) rfl) ?_
        walk_at "rd"
        refine Rd.yes rfl ?_
        walk_at "rd"
        refine Rd.ixT (.of gq) (atI_nat (j := 1) rfl) ?_
        walk_at "rd"
        refine isiOwn T.cl_Book T.ty_Book hb ?_
        walk_at "rd"
        refine Rd.ixT (.of gq) (atI_nat (j := 1) rfl) ?_
        walk_at "rd"
        refine Rd.fld hb T.cl_Book T.na_Book_watches rfl ?_
        walk_at "rd"
        refine reprWs hu L ?_
        walk_at "rd"
        refine Rd.ixT (.of gp2) (atI_nat (j := 1) rfl) ?_
        walk_at "rd"
        refine reprWs gt2 L ?_
        walk_at "rd"
        refine Rd.yes rfl ?_
        walk_at "rd"
        refine Rd.ixT (.of gp2) (atI_nat (j := 1) rfl) ?_
        walk_at "rd"
        refine Rd.listOf (.inr (.of gt2)) (Rd.new fun l1 H3 nl gl s3 => ?_)
        walk_at "rd"
        refine ⟨l1, _, rfl, .of gl, Rd.new fun l2 H4 nl2 gl2 s4 => ?_⟩
        rw [← List.map_reverse] at gl2
        walk_at "rd"
        refine Rd.mk fun sb dx2 H5 nsb ndx ne gsb s5 off => ?_
        refine ⟨sb, l2, ws.reverse, rfl, ⟨dx2, gsb⟩, .inl (.of (s5 _ _ gl2)), fun r m => by have := (L.rev.ok r m).l1; omega, by have := L.rev.l1; omega, .inr (.inr ⟨L.rev, fun H6 hS bt => ⟨rfl, ?_⟩⟩)⟩
        have s46 : Same H4 H6 := fun q o e => bt q o (ne_of_none e nsb) (s5 _ _ e)
        have s26 := (s3.trans s4).trans s46
        have hB6 := hB.same s26
        walk_at "rd"
        refine Rd.ixT (.of (s26 _ _ gq)) (atI_nat (j := 1) rfl) ?_
        walk_at "rd"
        refine bookOE hB6 hS L L.rev ⟨by rw [List.length_reverse], fun w m => List.mem_reverse.mpr m⟩ fun H7 s7 => ?_
        walk_at "rd"
        have s27 := s26.trans s7
        refine Rd.ixT (.of (s27 _ _ gq)) (atI_nat (j := 1) rfl) ?_
        walk_at "rd"
        refine bookOE (hS.same s7) (hB6.same s7) L.rev L ⟨by rw [List.length_reverse], fun w m => List.mem_reverse.mp m⟩ fun H8 s8 => ?_
        walk_at "rd"
        have s28 := s27.trans s8
        refine Rd.ixT (.of (s28 _ _ gq)) (atI_nat (j := 1) rfl) ?_
        walk_at "rd"
        refine ⟨_, rfl, .inl ⟨b, ws, rfl, hB.same s28, L, fun H9 s9 => ?_⟩⟩
        have s29 := s28.trans s9
        walk_at "rd"
        refine Rd.ixT (.of (s29 _ _ gp2)) (atI_nat (j := 1) rfl) ?_
        walk_at "rd"
        refine Rd.listOf (.inr (.of (s29 _ _ gt2))) (Rd.new fun l3 HA nl3 gl3 sA => ?_)
        walk_at "rd"
        refine ⟨l3, ws, rfl, .of gl3, by have := L.l1; omega, fun w m => by have := (L.ok w m).l1; omega, fun HB sB => ?_⟩
        walk_at "rd"
        rw [decide_eq_true rfl]
        exact k _ ((s1.trans s2).trans ((s29.trans sA).trans sB))
    · walk_at "rd"
      refine ⟨_, rfl, .inr ⟨od, fun p H1 gp s1 => ?_⟩⟩
      walk_at "rd"
      refine ⟨_, rfl, .inr ⟨od.same s1, fun q H2 gq s2 => ?_⟩⟩
      walk_at "rd"
      refine Rd.ixT (.of (s2 _ _ gp)) (atI_nat (j := 0) rfl) ?_
      walk_at "rd"
      refine Rd.no (by decide +kernel) ?_
      walk_at "rd"
      refine reprT (d := .tuple [.str "text", .int (-1)]) (.tup (.of gq) (.cons (.str _) (.cons (.int _) .nil))) (by decide +kernel) rfl (by decide +kernel) (by decide +kernel) (by decide +kernel) ?_
      walk_at "rd"
      refine reprT (d := .tuple [.str "text", .int (-1)]) (.tup (.of (s2 _ _ gp)) (.cons (.str _) (.cons (.int _) .nil))) (by decide +kernel) rfl (by decide +kernel) (by decide +kernel) (by decide +kernel) ?_
      walk_at "rd"
      rw [decide_eq_true rfl]
      exact k _ (s1.trans s2)

end
end W

namespace W
open PySem PySem.Spec PyProof.Rows L2
section
variable {P : Program} {w : World} {K : PySem.W.Frag} {mg : Str → Option Value} {base : Heap}
def SameEq (K : PySem.W.Frag) (C : Addr) : R2 := fun x y H Q => rEq x y H Q ∨ (rEqD K x y H Q ∨ (rEqDA x y H Q ∨ Ro.rOE C (sp_Lengths_eq K C) E0 id x y H Q))
/-- what is no book -/
inductive NoBook (CL : Addr) (H : Hp) : V → Prop where
  | non : NoBook CL H .non
  | int : NoBook CL H (.int 7)
  | bl : NoBook CL H (.bl true)
  | str {z : Str} (l : z.length ≤ 100000) : NoBook CL H (.str z)
  | lst {a : Addr} {ws : List Str} (h : H a = some (.lst (ws.map V.str))) (L : Watches ws) : NoBook CL H (.ref a)
  | tup {a : Addr} {ws : List Str} (h : H a = some (.tup (ws.map V.str))) (L : Watches ws) : NoBook CL H (.ref a)
  | dct {a : Addr} (h : H a = some (.dK [])) : NoBook CL H (.ref a)
  | len {a : Addr} (h : LenAt CL H a) : NoBook CL H (.ref a)
theorem NoBook.same {CL : Addr} {H H' : Hp} {x : V} (s : Same H H') (h : NoBook CL H x) : NoBook CL H' x := by
  cases h with
  | non => exact .non
  | int => exact .int
  | bl => exact .bl
  | str l => exact .str l
  | lst h L => exact .lst (s _ _ h) L
  | tup h L => exact .tup (s _ _ h) L
  | dct h => exact .dct (s _ _ h)
  | len h => exact .len (h.same s)
theorem NoBook.of (T : Txt K mg) {H : Hp} {x : V} (h : NoBook T.C_Lengths H x) : Of K H T.C_Book x false := by
  have kk : ∀ {k : Rx.Kd}, Rx.Is H x k → Of K H T.C_Book x false := fun i => Of.kind T.ic_Book T.tc_Book i
  cases h with
  | non => exact kk .non
  | int => exact kk (.int 7)
  | bl => exact kk (.bl true)
  | str l => exact kk (.str (by omega))
  | lst h L => exact kk (.lst h (by rw [List.length_map]; have := L.l1; omega))
  | tup h L => exact kk (.tup h (by rw [List.length_map]; have := L.l1; omega))
  | dct h => exact kk (.dct h)
  | len h =>
    obtain ⟨dx, h0⟩ := h
    exact Of.other T.ic_Book T.tc_Book T.sl_Book T.s_Lengths_Book T.cl_Lengths T.ty_Lengths h0
theorem strs_lay : ∀ ws : List Str, (∀ w ∈ ws, Lt.Let w) → PyData.canLayAll0 (ws.map PyData.str) = true
  | [], _ => rfl
  | w :: ws, h => by
    show (PyData.strOk w && PyData.canLayAll0 (ws.map PyData.str)) = true
    rw [strs_lay ws fun z m => h z (List.mem_cons_of_mem _ m), (h w (List.mem_cons_self ..)).ok]
    rfl
theorem shapeL {ws : List Str} (L : Watches ws) : SeqAt.shaped (.list (ws.map PyData.str)) = true ∧ SeqAt.shaped (.tuple (ws.map PyData.str)) = true := by
  have h := strs_lay ws fun w m => (L.ok w m).ok
  have d := strs_depth ws
  constructor
  · unfold SeqAt.shaped
    rw [show PyData.canLay0 (.list (ws.map PyData.str)) = true from h, show PyData.depth (.list (ws.map PyData.str)) = 1 from congrArg (· + 1) d]
    rfl
  · unfold SeqAt.shaped
    rw [show PyData.canLay0 (.tuple (ws.map PyData.str)) = true from h, show PyData.depth (.tuple (ws.map PyData.str)) = 1 from congrArg (· + 1) d]
    rfl
theorem eqDt {H : Hp} {a b : Addr} {d : PyData} {Q : VK} (h1 : Dp K H (.ref a) d) (h2 : Dp K H (.ref b) d) (h : SeqAt.shaped d = true) (q : Q (.bl true) H) : rEqD K (.ref a) (.ref b) H Q := by
  refine ⟨_, _, h1, h2, h, h, ?_⟩
  rw [SeqAt.eqv_refl _ (SeqAt.canLay_of_shaped h)]
  exact q
theorem NoBook.eq (T : Txt K mg) {H : Hp} {x : V} {Q : VK} (h : NoBook T.C_Lengths H x) (q : Q (.bl true) H) : SameEq K T.C_Lengths x x H Q := by
  cases h with
  | non => exact .inl ⟨rfl, q⟩
  | int => exact .inl ⟨rfl, by rw [decide_eq_true rfl]; exact q⟩
  | bl => exact .inl ⟨rfl, by rw [decide_eq_true rfl]; exact q⟩
  | str l => exact .inl ⟨rfl, by rw [decide_eq_true rfl]; exact q⟩
  | lst h L => exact .inr (.inl (eqDt (.lst (.of h) (strs_dp _)) (.lst (.of h) (strs_dp _)) (shapeL L).1 q))
  | tup h L => exact .inr (.inl (eqDt (.tup (.of h) (strs_dp _)) (.tup (.of h) (strs_dp _)) (shapeL L).2 q))
  | dct h => exact .inr (.inr (.inl ⟨_, _, _, _, rfl, rfl, h, h, rfl, fun p m => (nomatch m), q⟩))
  | len h =>
    obtain ⟨dx, h0⟩ := id h
    exact .inr (.inr (.inr (Ro.oe h0 h0 ⟨_, _, true, rfl, .own T.cl_Lengths T.ty_Lengths h0, _, rfl, q⟩)))
theorem strs_off {t c a : Addr} {H : Hp} {ws : List Str} (ht : Tape H t c) (h : H a = some (.lst (ws.map V.str))) : a ≠ t := by
  obtain ⟨ns, x, y, z, u, _, g, _⟩ := ht
  refine ne_of h g fun e => ?_
  have e := HO.lst.inj e
  rcases ws with _ | ⟨w, ws⟩
  · cases e
  · cases e
theorem NoBook.tape {CL t c : Addr} {H H' : Hp} {x : V} (ht : Tape H t c) (s : Rd.But t H H') (h : NoBook CL H x) : NoBook CL H' x := by
  have ne : ∀ {a : Addr} {o : HO}, H a = some o → (∀ ns (x y z u : Int), o ≠ .lst [.ref ns, .int x, .int y, .int z, .int u]) → a ≠ t := fun e h => by
    obtain ⟨ns, x, y, z, u, _, g, _⟩ := ht
    exact ne_of e g (h _ _ _ _ _)
  cases h with
  | non => exact .non
  | int => exact .int
  | bl => exact .bl
  | str l => exact .str l
  | lst h L => exact .lst (s _ _ (strs_off ht h) h) L
  | tup h L => exact .tup (s _ _ (ne h fun _ _ _ _ _ e => nomatch e) h) L
  | dct h => exact .dct (s _ _ (ne h fun _ _ _ _ _ e => nomatch e) h)
  | len h => exact .len (h.tape ht s)
theorem NoTxt.tape {t c : Addr} {H H' : Hp} {x : V} (s : Rd.But t H H') (o : Rx.Off t x) (h : NoTxt K H x) : NoTxt K H' x := by
  rcases h with ⟨k, i, e⟩ | ⟨a, C, dx, fs, rfl, g, r⟩
  · exact .inl ⟨k, i.but s o, e⟩
  · exact .inr ⟨a, C, dx, fs, rfl, s _ _ (fun e => o (by rw [e])) g, r⟩
def sp_l_refused (K : PySem.W.Frag) (C CB CL : Addr) : Sp := fun vs H Q _ => ∃ x, vs = [x] ∧ NoBook CL H x ∧ ∀ H', Same H H' → Q (.bl true) H'
theorem ok_l_refused (T : Txt K mg) : FnOk P w K mg base CX0 6 T.f_l_refused T.fd_l_refused ["_law_thing"] (sp_l_refused K T.C_Book T.C_BadBook T.C_Lengths) := by
  refine T.F_l_refused.ok sc_l_refused (fun vs H Q E h => ?_) (fun cdv A outer s H vs Q E hr h => ?_)
  · obtain ⟨x, rfl, _⟩ := h
    rfl
  · obtain ⟨x, rfl, hx, k⟩ := h
    refine ⟨_, (pss_cons (ps_set (i := 1) sc_l_refused.nd rfl (.inl rfl) (pe_tup (pa_cons pe_str (pa_cons pe_non pa_nil))))
  (pss_cons (Rh.ps_tryC (W0 := (fun _ _ _ _ => False)) rfl rfl sc_l_refused.nd takes0 (Rh.Fits.kept (i := 2) ⟨rfl, by decide, Or.inl T.c_BadBook⟩ rfl rfl (fun a oe cls d pn hz hf => (pss_one (ps_set (i := 1) sc_l_refused.nd rfl (.inl rfl) (pe_tup (pa_cons pe_str (pa_cons (Rx.pe_xv hz hf (pv 2) : PE _ _ (Rx.tXv K a cls d _ _)) pa_nil)))))) (Rh.Fits.bare ⟨rfl, by decide, Or.inl T.c_WayError⟩ (fun a oe cls d pn hz hf => (pss_one (ps_set (i := 1) sc_l_refused.nd rfl (.inl rfl) (pe_tup (pa_cons pe_str (pa_cons pe_non pa_nil)))))) Rh.Fits.nil))
   (fun W pn xe tk _ => (pss_one (ps_set (i := 1) sc_l_refused.nd rfl (.inl rfl) (pe_tup (pa_cons pe_str (pa_cons (pe_callS (ok_write_book T) (hr.mono (by decide)) rfl T.g_write_book T.F_write_book.kp T.b_write_book (fun σ => passAt tk σ) (pa_cons (pv 0) pa_nil)) pa_nil)))))))
  (pss_one (ps_ret (pe_and (pe_cmpR op_eq (pe_ix (r := rIxT K) ix_tup (pv 1) pe_int (fun _ _ => rfl)) pe_str (nomark _)) (pe_one (pe_cmpR (r := SameEq K T.C_Lengths) (Ro.op_or op_eq (Ro.op_or (op_eqD hr.units) (Ro.op_or (op_eq_dictA hr.units0) (Ro.op_oe (E := E0) ⟨T.h_Lengths_eq.at_, T.h_Lengths_eq.fn, T.ne_Lengths, T.ty_Lengths.hm⟩ (ok_Lengths_eq T) T.b_Lengths_eq pass0 (hr.mono (by decide)))))) (pe_ix (r := rIxT K) ix_tup (pv 1) pe_int (fun _ _ => rfl)) (pv 0) (nomark _)))))))), ?_⟩
    walk_at "rd"
    refine ⟨Nat.le_of_ble_eq_true rfl, Rd.new fun p0 G0 n0 g0 s0 => ?_⟩
    walk_at "rd"
    walk_at "rd"
    refine ⟨_, rfl, .inr ⟨(hx.same s0).of T, fun d H2 nd hd s2 => ?_⟩⟩
    refine Rh.wish_hit T.X_BadBook T.s_BadBook_BadBook fun ea na => ?_
    walk_at "rd"
    refine Rx.xv T.X_BadBook hd ?_
    walk_at "rd"
    refine ⟨Nat.le_of_ble_eq_true rfl, Rd.new fun q H3 nq gq s3 => ?_⟩
    walk_at "rd"
    refine Rd.ixT (.of gq) (atI_nat (j := 0) rfl) ?_
    walk_at "rd"
    refine Rd.yes rfl ?_
    walk_at "rd"
    refine Rd.ixT (.of gq) (atI_nat (j := 1) rfl) ?_
    walk_at "rd"
    have s03 := (s0.trans s2).trans s3
    refine (hx.same s03).eq T ?_
    walk_at "rd"
    exact k _ s03
def sp_law (K : PySem.W.Frag) : Sp := fun vs H Q _ => ∃ (a : Addr) (ns : List Int), vs = [.ref a] ∧ SqL K H a (ns.map V.int) ∧ ns.length ≤ 63 ∧ ∀ H', Q (.bl true) H'
theorem mkB {C CB : Addr} {H : Hp} {Q : VK} {E : XK} {a : Addr} {ws : List Str} (h : H a = some (.lst (ws.map V.str))) (L : Watches ws) (k : ∀ b H', BookAt C H' b ws → Same H H' → Q (.ref b) H') : Rd.MkG C (sp_Book_init K C CB) [] E [.ref a] H Q := by
  refine Rd.mk fun b dx G nb nd ne gb s off => ?_
  exact ⟨b, a, ws, rfl, ⟨dx, gb⟩, .inl (.of (s _ _ h)), fun r m => by have := (L.ok r m).l1; omega, by have := L.l1; omega, .inr (.inr ⟨L, fun H' hB bt => ⟨rfl, k b H' hB fun q o e => bt q o (ne_of_none e nb) (s _ _ e)⟩⟩)⟩
theorem mkL (T : Txt K mg) {H : Hp} {Q : VK} {E : XK} (k : ∀ b H', LenAt T.C_Lengths H' b → Same H H' → Q (.ref b) H') : Rd.MkG T.C_Lengths (sp_Lengths_init K T.C_Lengths) [] E [] H Q := by
  refine Rd.mk fun x dx G nx nd ne gx s1 off => ?_
  exact ⟨x, dx, rfl, gx, fun H' hN bt => ⟨rfl, k x H' hN (fun q o e => bt q o (ne_of_none e nx) (s1 _ _ e))⟩⟩
theorem text_len {ws : List Str} (L : Watches ws) : (textOf ws).length ≤ 156 := by
  refine Nat.le_trans (join_le _) ?_
  have p : (inOrder ws).Perm ws := List.mergeSort_perm ws _
  have e : wt (inOrder ws) = wt ws := by
    unfold wt
    rw [(p.map (·.length)).sum_nat, p.length_eq]
  rw [e]
  exact wt_watches L
theorem ok_law (T : Txt K mg) : Rg.FnG P w K mg base CX0 9 T.f_law T.fd_law ["_law_script"] (sp_law K) := by
  refine Rg.okG T.F_law sc_law (fun vs H Q E h => ?_) (fun cdv A outer s H vs Q E gd hr h => ?_)
  · obtain ⟨a, ns, rfl, _⟩ := h
    rfl
  · obtain ⟨a, ns, rfl, hS, hlen, k⟩ := h
    refine ⟨_, (pss_cons (ps_set (i := 1) sc_law.nd rfl (.inl rfl) (pe_call (ok_l_tape T) (hr.mono (by decide)) rfl T.g_l_tape T.F_l_tape.kp T.b_l_tape .nil pass0 (pa_cons (pv 0) pa_nil)))
  (pss_cons (ps_set (i := 2) sc_law.nd rfl (.inl rfl) (pe_op op_add pe_int (pe_call (ok_l_pick T) (hr.mono (by decide)) rfl T.g_l_pick T.F_l_pick.kp T.b_l_pick .nil pass0 (pa_cons (pv 1) (pa_cons pe_int pa_nil)))))
  (pss_cons (ps_set (i := 3) sc_law.nd rfl (.inl rfl) (pe_call (ok_l_watches T) (hr.mono (by decide)) rfl T.g_l_watches T.F_l_watches.kp T.b_l_watches .nil pass0 (pa_cons (pv 1) pa_nil)))
  (pss_cons (ps_set (i := 4) sc_law.nd rfl (.inl rfl) (pe_make T.M_Book (ok_Book_init T) (hr.mono (by decide)) rfl T.c_Book T.b_Book_init .nil passL (pa_cons (pe_callTy (T := "list") (r := Rd.nListOf K) Rd.c_listOf (by rfl) T.n_list (by decide +kernel) (pa_cons (pv 3) pa_nil)) pa_nil)))
  (pss_cons (ps_set (i := 5) sc_law.nd rfl (.inl rfl) (pe_call (ok_l_text T) (hr.mono (by decide)) rfl T.g_l_text T.F_l_text.kp T.b_l_text .nil pass0 (pa_cons (pv 3) pa_nil)))
  (pss_cons (ps_set (i := 6) sc_law.nd rfl (.inl rfl) (pe_call (ok_write_book T) (hr.mono (by decide)) rfl T.g_write_book T.F_write_book.kp T.b_write_book .nil passL (pa_cons (pv 4) pa_nil)))
  (pss_cons (ps_if (PW.pt (pw_or (pt_not (pt_val (pe_callB (id := "isinstance") (r := rIsi K) call_isi (by rfl) T.n_isinstance (by decide +kernel) (pa_cons (pv 6) (pa_cons (pe_bltn (v := .ty "str") (u := .type "str") (by rfl) T.n_str (by decide +kernel) rfl) pa_nil))))) (pw_or (pt_cmpR op_ne (pv 6) (pv 5) (nomark _)) (pw_or (pt_not (pt_val (Rg.pe_callG gd (ok_l_reads T) (hr.mono (by decide)) rfl T.g_l_reads T.F_l_reads.kp T.b_l_reads pass0 (pa_cons (pv 5) pa_nil)))) (pw_or1 (pt_not (pt_val (Rg.pe_callG gd (ok_l_reads T) (hr.mono (by decide)) rfl T.g_l_reads T.F_l_reads.kp T.b_l_reads pass0 (pa_cons (pe_join pe_str (pv 3)) pa_nil)))))))))
  (pss_one (ps_ret pe_bl))
  pss_nil)
  (pss_cons (ps_for PassesOwn.never rfl (pi_range1 rfl T.n_range (pa_cons pe_int pa_nil)) (pg_name (i := 7) sc_law.nd rfl (.inl rfl))
  (pss_cons (ps_set (i := 8) sc_law.nd rfl (.inl rfl) (pe_ix (r := rIxL K) ix_list (pe_lst (pa_cons (pe_join pe_str (pv 3)) (pa_cons (pv 5) pa_nil))) (pe_op op_mod (pe_callTy (T := "int") (r := _) Rd.c_int (by rfl) T.n_int (by decide +kernel) (pa_cons (pv 7) pa_nil)) pe_int) (fun _ _ => rfl)))
  (pss_cons (ps_for PassesOwn.never rfl (pi_range1 rfl T.n_range (pa_cons (pv 2) pa_nil)) (pg_name (i := 9) sc_law.nd rfl (.inl rfl))
  (pss_one (ps_set (i := 8) sc_law.nd rfl (.inl rfl) (pe_call (ok_l_changed T) (hr.mono (by decide)) rfl T.g_l_changed T.F_l_changed.kp T.b_l_changed .nil pass0 (pa_cons (pv 1) (pa_cons (pv 8) pa_nil))))))
  (pss_one (ps_if (pt_not (pt_val (Rg.pe_callG gd (ok_l_reads T) (hr.mono (by decide)) rfl T.g_l_reads T.F_l_reads.kp T.b_l_reads pass0 (pa_cons (pv 8) pa_nil))))
  (pss_one (ps_ret pe_bl))
  pss_nil)))))
  (pss_cons (ps_set (i := 10) sc_law.nd rfl (.inl rfl) (pe_ix (r := rIxL K) ix_list (pe_lst (pa_cons pe_non (pa_cons pe_int (pa_cons (pe_callTy (T := "list") (r := Rd.nListOf K) Rd.c_listOf (by rfl) T.n_list (by decide +kernel) (pa_cons (pv 3) pa_nil)) (pa_cons (pe_callTy (T := "tuple") (r := Rd.nTupOf K) Rd.c_tupOf (by rfl) T.n_tuple (by decide +kernel) (pa_cons (pv 3) pa_nil)) (pa_cons (pv 5) (pa_cons pe_dnewK (pa_cons (pe_make0 T.M_Lengths (ok_Lengths_init T) (hr.mono (by decide)) rfl T.c_Lengths T.b_Lengths_init .nil pass0) (pa_cons pe_bl pa_nil))))))))) (pe_call (ok_l_pick T) (hr.mono (by decide)) rfl T.g_l_pick T.F_l_pick.kp T.b_l_pick .nil pass0 (pa_cons (pv 1) (pa_cons pe_int pa_nil))) (fun _ _ => rfl)))
  (pss_cons (ps_set (i := 11) sc_law.nd rfl (.inl rfl) (pe_ix (r := rIxL K) ix_list (pe_lst (pa_cons pe_non (pa_cons pe_int (pa_cons (pe_callTy (T := "list") (r := Rd.nListOf K) Rd.c_listOf (by rfl) T.n_list (by decide +kernel) (pa_cons (pv 3) pa_nil)) (pa_cons (pv 4) (pa_cons pe_bl (pa_cons pe_dnewK (pa_cons (pe_tup (pa_cons (pv 5) pa_nil)) pa_nil)))))))) (pe_call (ok_l_pick T) (hr.mono (by decide)) rfl T.g_l_pick T.F_l_pick.kp T.b_l_pick .nil pass0 (pa_cons (pv 1) (pa_cons pe_int pa_nil))) (fun _ _ => rfl)))
  (pss_cons (ps_if (PW.pt (pw_or (pt_not (pt_val (pe_call (ok_l_refused T) (hr.mono (by decide)) rfl T.g_l_refused T.F_l_refused.kp T.b_l_refused .nil pass0 (pa_cons (pv 10) pa_nil)))) (pw_or (pt_not (pt_val (Rg.pe_callG gd (ok_l_reads T) (hr.mono (by decide)) rfl T.g_l_reads T.F_l_reads.kp T.b_l_reads pass0 (pa_cons (pv 11) pa_nil)))) (pw_or1 (pt_not (pt_val (Rg.pe_callG gd (ok_l_reads T) (hr.mono (by decide)) rfl T.g_l_reads T.F_l_reads.kp T.b_l_reads pass0 (pa_cons pe_str pa_nil))))))))
  (pss_one (ps_ret pe_bl))
  pss_nil)
  (pss_one (ps_ret (pe_cmpR op_eq (pe_call (ok_write_book T) (hr.mono (by decide)) rfl T.g_write_book T.F_write_book.kp T.b_write_book .nil passL (pa_cons (pv 4) pa_nil)) (pv 5) (nomark _))))))))))))))), ?_⟩
    have sl := sizeLine_eq
    walk_at "rd"
    refine ⟨a, ns, rfl, hS, fun t c H1 hT1 s1 _ _ => ?_⟩
    clear hS s1
    walk_at "rd"
    refine pickR hT1 (by decide) (by decide) fun r H2 r0 r1 hT2 b2 => ?_
    walk_at "rd"
    refine ⟨t, c, rfl, hT2, fun D ws H3 gD L hT3 b3 => ?_⟩
    have Dt : D ≠ t := by
      obtain ⟨ns, x, y, z, u, _, g, _⟩ := id hT3
      refine ne_of gD g fun e => ?_
      have e := HO.lst.inj e
      rcases ws with _ | ⟨w, ws⟩
      · cases e
      · cases e
    clear b2 b3 hT1 hT2
    walk_at "rd"
    refine Rd.listOf (.inl (.of gD)) (Rd.new fun l H4 nl gl s4 => ?_)
    walk_at "rd"
    refine mkB gl L fun bk H5 hB s5 => ?_
    have s35 := s4.trans s5
    walk_at "rd"
    have lw : ws.length ≤ 100 := by have := L.l1; omega
    have lm : ∀ z ∈ ws, z.length ≤ 1000 := fun z m => by have := (L.ok z m).l1; omega
    refine ⟨D, ws, rfl, .of (s35 _ _ gD), lw, lm, fun H6 s6 => ?_⟩
    walk_at "rd"
    refine ⟨_, rfl, .inl ⟨bk, ws, rfl, hB.same s6, L, fun H7 s7 => ?_⟩⟩
    have s37 := s35.trans (s6.trans s7)
    walk_at "rd"
    refine Rd.isiStr ?_
    walk_at "rd"
    refine Rd.yes rfl ?_
    walk_at "rd"
    have tl := text_len L
    refine ⟨_, rfl, .inl ⟨_, rfl, by omega⟩, fun H8 s8 => ?_⟩
    have s38 := s37.trans s8
    walk_at "rd"
    have jl : (Txt.join "\n" ws).length ≤ 156 := Nat.le_trans (join_le ws) (wt_watches L)
    have jw : (ws.map (·.length)).sum + ws.length * (("\n" : Str)).length ≤ 16777216 := wt_join (Nat.le_trans (wt_watches L) (by decide))
    refine ⟨"\n", D, ws, rfl, rfl, .inl (.of (s38 _ _ gD)), jw, ?_⟩
    walk_at "rd"
    refine ⟨_, rfl, .inl ⟨_, rfl, by omega⟩, fun H9 s9 => ?_⟩
    have s39 := s38.trans s9
    have hT9 := hT3.same s39
    replace gD := s39 _ _ gD
    replace hB := hB.same ((s6.trans s7).trans (s8.trans s9))
    clear s35 s37 s38 s39 s4 s5 s6 s7 s8 s9 hT3 nl gl
    walk_at "rd"
    refine Rd.forS ?_
    walk_at "rd"
    refine ⟨by decide, by decide, ?_⟩
    refine for_range (lo := 0) (n := 3) (fun _ σ G => (∃ o7 o8 o9 : Option V, σ = [some (.ref a), some (.ref t), some (.int (1 + r)), some (.ref D), some (.ref bk), some (.str (textOf ws)), some (.str (textOf ws)), o7, o8, o9, none, none]) ∧ Tape G t c ∧ G D = some (.lst (ws.map V.str)) ∧ BookAt T.C_Book G bk ws) ⟨⟨_, _, _, rfl⟩, hT9, gD, hB⟩ ?_ ?_
    · clear hT9 gD hB
      rintro i _ G hi ⟨⟨o7, o8, o9, rfl⟩, hT, gD, hB⟩
      walk_at "rd"
      refine ⟨"\n", D, ws, rfl, rfl, .inl (.of gD), jw, ?_⟩
      walk_at "rd"
      refine ⟨Nat.le_of_ble_eq_true rfl, Rd.new fun Ls G1 nL gL u1 => ?_⟩
      walk_at "rd"
      refine Rd.iC (by decide) ?_
      obtain ⟨y, hy, yl⟩ : ∃ y : Str, ([.str (Txt.join "\n" ws), .str (textOf ws)] : List V)[((0 + (i : Int)) % 2).toNat]? = some (.str y) ∧ y.length ≤ 156 := by
        rcases (show (0 + (i : Int)) % 2 = 0 ∨ (0 + (i : Int)) % 2 = 1 by omega) with e | e <;> rw [e]
        · exact ⟨_, rfl, jl⟩
        · exact ⟨_, rfl, tl⟩
      refine Rd.ixL (.of gL) (Rd.atI_of (by omega) hy) ?_
      replace hT := hT.same u1
      replace gD := u1 _ _ gD
      replace hB := hB.same u1
      clear nL gL u1 hy
      walk_at "rd"
      refine Rd.forS ?_
      walk_at "rd"
      refine ⟨by omega, by omega, ?_⟩
      refine for_range (lo := 0) (n := (1 + r).toNat) (fun q σ G => (∃ (o9 : Option V) (Z : Str), σ = [some (.ref a), some (.ref t), some (.int (1 + r)), some (.ref D), some (.ref bk), some (.str (textOf ws)), some (.str (textOf ws)), some (.int (0 + (i : Int))), some (.str Z), o9, none, none] ∧ Z.length + 200 ≤ 356 * 3 ^ q) ∧ Tape G t c ∧ G D = some (.lst (ws.map V.str)) ∧ BookAt T.C_Book G bk ws) ⟨⟨_, _, rfl, by omega⟩, hT, gD, hB⟩ ?_ ?_
      · clear hT gD hB yl y
        rintro q _ G2 hq ⟨⟨o9, Z, rfl, zl⟩, hT, gD, hB⟩
        have p2 : 3 ^ q ≤ 3 ^ 2 := Nat.pow_le_pow_right (by decide) (by omega)
        have p9 : 3 ^ 2 = 9 := by decide
        have ps : 3 ^ (q + 1) = 3 ^ q * 3 := Nat.pow_succ ..
        walk_at "rd"
        refine ⟨t, c, Z, rfl, hT, by omega, fun y G3 yl hT3 b3 => ?_⟩
        walk_at "rd"
        exact ⟨⟨_, _, rfl, by omega⟩, hT3, b3 _ _ Dt gD, hB.but hT b3⟩
      clear hT gD hB yl y
      rintro _ G2 ⟨⟨o9, Z, rfl, zl⟩, hT, gD, hB⟩
      have p2 : 3 ^ (1 + r).toNat ≤ 3 ^ 2 := Nat.pow_le_pow_right (by decide) (by omega)
      have p9 : 3 ^ 2 = 9 := by decide
      walk_at "rd"
      refine ⟨_, rfl, .inl ⟨Z, rfl, by omega⟩, fun G3 u3 => ?_⟩
      walk_at "rd"
      exact ⟨⟨_, _, _, rfl⟩, hT.same u3, u3 _ _ gD, hB.same u3⟩
    clear hT9 gD hB
    rintro _ H1 ⟨⟨o7, o8, o9, rfl⟩, hT, gD, hB⟩
    walk_at "rd"
    refine Rd.listOf (.inl (.of gD)) (Rd.new fun l1 G1 n1 g1 s1 => ?_)
    walk_at "rd"
    refine Rd.tupOf (.of (s1 _ _ gD)) (Rd.new fun l2 G2 n2 g2 s2 => ?_)
    walk_at "rd"
    refine Rd.dnew fun l3 G3 n3 g3 s3 => ?_
    walk_at "rd"
    refine mkL T fun l4 G4 hl s4 => ?_
    walk_at "rd"
    refine ⟨Nat.le_of_ble_eq_true rfl, Rd.new fun L1 G5 nL gL s5 => ?_⟩
    have v4 := s4.trans s5
    have v3 := s3.trans v4
    have v2 := s2.trans v3
    have v1 := s1.trans v2
    have hT4 := hT.same (s1.trans (s2.trans (s3.trans s4)))
    have hT5 := hT4.same s5
    have all := Rx.all_cons (P := NoBook T.C_Lengths G5) .non <| Rx.all_cons .int <| Rx.all_cons (.lst (v2 _ _ g1) L) <| Rx.all_cons (.tup (v3 _ _ g2) L) <| Rx.all_cons (.str (z := textOf ws) (by omega)) <| Rx.all_cons (.dct (v4 _ _ g3)) <| Rx.all_cons (.len (hl.same s5)) <| Rx.all_cons .bl Rx.all_nil
    replace gD := v1 _ _ gD
    replace hB := hB.same v1
    walk_at "rd"
    refine pickR hT5 (by decide) (by decide) fun w G6 q0 q1 hT6 b6 => ?_
    obtain ⟨v, hv, od⟩ : ∃ v, ([.non, .int 7, .ref l1, .ref l2, .str (textOf ws), .ref l3, .ref l4, .bl true] : List V)[w.toNat]? = some v ∧ NoBook T.C_Lengths G5 v := ⟨_, List.getElem?_eq_getElem (show w.toNat < 8 by omega), all _ (List.getElem_mem _)⟩
    refine Rd.ixL (.of (b6 _ _ (hT4.new nL).1 gL)) (Rd.atI_of q0 hv) ?_
    replace od := od.tape hT5 b6
    replace gD := b6 _ _ Dt gD
    replace hB := hB.but hT5 b6
    clear all hv v1 v2 v3 v4 s1 s2 s3 s4 s5 g1 g2 g3 hl nL gL hT hT4 hT5 b6 n1 n2 n3 q0 q1
    walk_at "rd"
    refine Rd.listOf (.inl (.of gD)) (Rd.new fun l1 G1 n1 g1 s1 => ?_)
    walk_at "rd"
    refine Rd.dnew fun l3 G3 n3 g3 s3 => ?_
    walk_at "rd"
    refine ⟨Nat.le_of_ble_eq_true rfl, Rd.new fun l4 G4 n4 g4 s4 => ?_⟩
    walk_at "rd"
    refine ⟨Nat.le_of_ble_eq_true rfl, Rd.new fun L1 G5 nL gL s5 => ?_⟩
    have v4 := s4.trans s5
    have v3 := s3.trans v4
    have v1 := s1.trans v3
    have q1 := hT6.same s1
    have q3 := q1.same s3
    have q4 := q3.same s4
    have q5 := q4.same s5
    replace od := od.same v1
    replace hB := hB.same v1
    have bt : bk ≠ t := by
      obtain ⟨dx, u, hb, _⟩ := id hB
      obtain ⟨ns, x, y, z, u, _, g, _⟩ := id q5
      exact ne_of hb g fun e => nomatch e
    have bko : NoTxt K G5 (.ref bk) := by
      obtain ⟨dx, u, hb, _⟩ := id hB
      exact .inr ⟨bk, T.C_Book, dx, _, rfl, hb, T.cl_Book, T.ty_Book, T.ks_Book⟩
    have pl : ∀ {v : V}, (∀ p, v ≠ .ref p) → Rx.Off t v := fun n => n t
    have all := Rx.all_cons (P := fun v => NoTxt K G5 v ∧ Rx.Off t v) ⟨.inl ⟨_, .non, rfl⟩, pl fun _ e => nomatch e⟩ <| Rx.all_cons ⟨.inl ⟨_, .int 7, rfl⟩, pl fun _ e => nomatch e⟩ <| Rx.all_cons ⟨.inl ⟨_, .lst (v3 _ _ g1) (by rw [List.length_map]; omega), rfl⟩, Rx.off_ref (hT6.new n1).1⟩ <| Rx.all_cons ⟨bko, Rx.off_ref bt⟩ <|
      Rx.all_cons ⟨.inl ⟨_, .bl true, rfl⟩, pl fun _ e => nomatch e⟩ <| Rx.all_cons ⟨.inl ⟨_, .dct (v4 _ _ g3), rfl⟩, Rx.off_ref (q1.new n3).1⟩ <| Rx.all_cons ⟨.inl ⟨_, .tup (s5 _ _ g4) (by simp), rfl⟩, Rx.off_ref (q3.new n4).1⟩ Rx.all_nil
    walk_at "rd"
    refine pickR q5 (by decide) (by decide) fun w G6' q0 q1' hT7 b7 => ?_
    obtain ⟨v2, hv, nt, ot⟩ : ∃ v, ([.non, .int 7, .ref l1, .ref bk, .bl true, .ref l3, .ref l4] : List V)[w.toNat]? = some v ∧ NoTxt K G5 v ∧ Rx.Off t v := ⟨_, List.getElem?_eq_getElem (show w.toNat < 7 by omega), all _ (List.getElem_mem _)⟩
    refine Rd.ixL (.of (b7 _ _ (q4.new nL).1 gL)) (Rd.atI_of q0 hv) ?_
    replace od := od.tape q5 b7
    replace nt := nt.tape (c := c) b7 ot
    replace hB := hB.but q5 b7
    walk_at "rd"
    refine ⟨v, rfl, od, fun G8 u8 => ?_⟩
    walk_at "rd"
    refine ⟨v2, rfl, .inr (nt.same u8), fun G9 u9 => ?_⟩
    walk_at "rd"
    refine ⟨_, rfl, .inl ⟨"", rfl, by decide +kernel⟩, fun GA uA => ?_⟩
    walk_at "rd"
    refine ⟨_, rfl, .inl ⟨bk, ws, rfl, hB.same (u8.trans (u9.trans uA)), L, fun GB uB => ?_⟩⟩
    walk_at "rd"
    rw [decide_eq_true rfl]
    exact k _

end
end W

namespace W
open PySem PySem.Spec PyProof.Rows L2
theorem all_mk {l : PySem.W.OpenLaw} {w : World} {K : PySem.W.Frag} {h : Heap} {mg : Str → Option Value} {fa : Addr} (X : K.In h) (G : h.Ns mainGlobals mg) (hfa : mg "law" = some (.ref fa))
    {f1 f2 f3 f4 f5 f6 f7 f8 f9 f10 f11 f12 f13 f14 f15 f16 f17 f18 f19 f20 f21 f22 f23 f24 f25 C0 C1 : Addr} {od1 an1 od2 an2 od3 an3 od4 an4 od5 an5 od6 an6 od7 an7 od8 an8 od9 an9 od10 an10 od11 an11 od12 an12 od13 an13 od14 an14 od15 an15 od16 an16 od17 an17 od18 an18 od19 an19 od20 an20 od21 an21 od22 an22 od23 an23 od24 an24 od25 an25 : Option Addr} {sl1 sl2 sl3 sl4 sl5 sl6 sl7 sl8 sl9 sl10 sl11 sl12 sl13 sl14 sl15 sl16 sl17 sl18 sl19 sl20 sl21 sl22 sl23 sl24 sl25 : Array (Option Value)} {oc1 kV1 dc1 pm1 cd1 ct1 oc2 kV2 dc2 pm2 cd2 ct2 oc3 kV3 dc3 pm3 cd3 ct3 oc4 kV4 dc4 pm4 cd4 ct4 oc5 kV5 dc5 pm5 cd5 ct5 oc6 kV6 dc6 pm6 cd6 ct6 oc7 kV7 dc7 pm7 cd7 ct7 oc8 kV8 dc8 pm8 cd8 ct8 oc9 kV9 dc9 pm9 cd9 ct9 oc10 kV10 dc10 pm10 cd10 ct10 oc11 kV11 dc11 pm11 cd11 ct11 oc12 kV12 dc12 pm12 cd12 ct12 oc13 kV13 dc13 pm13 cd13 ct13 oc14 kV14 dc14 pm14 cd14 ct14 oc15 kV15 dc15 pm15 cd15 ct15 oc16 kV16 dc16 pm16 cd16 ct16 oc17 kV17 dc17 pm17 cd17 ct17 oc18 kV18 dc18 pm18 cd18 ct18 oc19 kV19 dc19 pm19 cd19 ct19 oc20 kV20 dc20 pm20 cd20 ct20 oc21 kV21 dc21 pm21 cd21 ct21 oc22 kV22 dc22 pm22 cd22 ct22 oc23 kV23 dc23 pm23 cd23 ct23 oc24 kV24 dc24 pm24 cd24 ct24 oc25 kV25 dc25 pm25 cd25 ct25 : Value}
    (u0 : PySem.W.nsIn K mainGlobals "Book" = some (some (.ref C0)))
    (pg0 : PySem.W.plainGet K C0 Str.empty = true) (hd0 : PySem.W.hasDictIn K C0 = true) (po0 : PySem.W.plainOver K C0 = true) (sa0 : PySem.W.findIn K (.ref C0) "__setattr__" = some (some (.builtin "object.__setattr__")))
    (wc0 : PySem.W.findIn K (.ref C0) "__class__" = some (some (.builtin "object.__class__"))) (wm0 : PySem.W.mroIn K C0 (.type "object") = some true)
    (wn0 : PySem.W.specialIn K (.builtin "object.__class__") "__get__" = some (some (.builtin "getset_descriptor.__get__"))) (wt0 : PySem.W.takesIn K (.builtin "object.__class__") = some true)
    (na0_0 : PySem.W.findIn K (.ref C0) "watches" = some none)
    (u1 : PySem.W.nsIn K mainGlobals "Lengths" = some (some (.ref C1)))
    (pg1 : PySem.W.plainGet K C1 Str.empty = true) (hd1 : PySem.W.hasDictIn K C1 = true) (po1 : PySem.W.plainOver K C1 = true) (sa1 : PySem.W.findIn K (.ref C1) "__setattr__" = some (some (.builtin "object.__setattr__")))
    (wc1 : PySem.W.findIn K (.ref C1) "__class__" = some (some (.builtin "object.__class__"))) (wm1 : PySem.W.mroIn K C1 (.type "object") = some true)
    (wn1 : PySem.W.specialIn K (.builtin "object.__class__") "__get__" = some (some (.builtin "getset_descriptor.__get__"))) (wt1 : PySem.W.takesIn K (.builtin "object.__class__") = some true)
    (na1_0 : PySem.W.findIn K (.ref C1) "none" = some none)
    (na1_1 : PySem.W.findIn K (.ref C1) "one" = some none)
    (fx0_0 : PySem.W.mroIn K C0 (.type "int") = some false)
    (fx0_1 : PySem.W.mroIn K C0 (.type "bool") = some false)
    (fx0_2 : PySem.W.isClsIn K C0 = true)
    (fx0_3 : PySem.W.typeIn K (.ref C0) = some (.type "type"))
    (fx0_4 : PySem.W.subIn K (.ref C0) (.ref C0) = some true)
    (fx0_5 : PySem.W.findIn K (.ref C0) "__ne__" = some (some (.builtin "object.__ne__")))
    (fx0_6 : PySem.W.mroIn K C0 (.type "str") = some false)
    (fx1_0 : PySem.W.mroIn K C1 (.type "int") = some false)
    (fx1_1 : PySem.W.mroIn K C1 (.type "bool") = some false)
    (fx1_2 : PySem.W.isClsIn K C1 = true)
    (fx1_3 : PySem.W.typeIn K (.ref C1) = some (.type "type"))
    (fx1_4 : PySem.W.subIn K (.ref C1) (.ref C0) = some false)
    (fx1_5 : PySem.W.subIn K (.ref C1) (.ref C1) = some true)
    (fx1_6 : PySem.W.findIn K (.ref C1) "__ne__" = some (some (.builtin "object.__ne__")))
    {dT tN : Nat} {tC : Value} {tD : Option Addr} {tS : Array (Option Value)} (lT : K.lookup dT = some ⟨tC, tD, .seq [Value.none].toArray tN, tS⟩) (tI : PySem.W.typeIn K (.ref f1) = some (.type "function"))
    (xn : PySem.W.specialIn K (.builtin "object.__class__") "__get__" = some (some (.builtin "getset_descriptor.__get__"))) (xo : PySem.W.takesIn K (.builtin "object.__class__") = some true)
    {E0 : Addr} {xnm0 xq0 : Str} {xN0 : Addr} {xbs0 xbm0 xsub0 : List Value} {xsn0 : List Str} {xab0 : Bool} {xcol0 : Option Bool} {xdd0 : Option Addr} {xk0_0 xk1_0 xk2_0 xk3_0 xk5_0 : Option Value}
    (ue0 : PySem.W.nsIn K mainGlobals "BadWatches" = some (some (.ref E0)))
    (xl0 : K.lookup E0 = some (excClassObj xnm0 xq0 E0 xN0 xbs0 xbm0 true xsn0 xsub0 xab0 xcol0 xdd0 xk0_0 xk1_0 xk2_0 xk3_0 xk5_0 "ValueError.__new__"))
    (rb0 : PySem.HandSPX.refsVE xbm0 = true)
    (xa0 : PySem.W.findIn K (.ref E0) "__setattr__" = some (some (.builtin "object.__setattr__")))
    (xb0 : PySem.W.subIn K (.ref E0) (.type "BaseException") = some true)
    (xc0 : PySem.W.typeIn K (.ref E0) = some (.type "type"))
    (xd0 : PySem.W.keepIn K (.ref E0) = true)
    (xe0 : PySem.W.findIn K (.ref E0) "__init__" = some (some (.ref f1)))
    (xf0 : PySem.W.findIn K (.ref E0) "value" = some none)
    (xg0 : PySem.W.findIn K (.ref E0) "__getattribute__" = some (some (.builtin "BaseException.__getattribute__")))
    (xh0 : PySem.W.findIn K (.ref E0) "__getattr__" = some none)
    (xi0 : PySem.W.hasDictIn K E0 = true)
    (xj0 : PySem.W.findIn K (.ref E0) "__class__" = some (some (.builtin "object.__class__")))
    (xm0 : PySem.W.mroIn K E0 (.type "object") = some true)
    (xp0 : PySem.W.isClsIn K E0 = true)
    (xs0 : PySem.W.subIn K (.ref E0) (.ref E0) = some true)
    {E1 : Addr} {xnm1 xq1 : Str} {xN1 : Addr} {xbs1 xbm1 xsub1 : List Value} {xsn1 : List Str} {xab1 : Bool} {xcol1 : Option Bool} {xdd1 : Option Addr} {xk0_1 xk1_1 xk2_1 xk3_1 xk5_1 : Option Value}
    (ue1 : PySem.W.nsIn K mainGlobals "BadBook" = some (some (.ref E1)))
    (xl1 : K.lookup E1 = some (excClassObj xnm1 xq1 E1 xN1 xbs1 xbm1 true xsn1 xsub1 xab1 xcol1 xdd1 xk0_1 xk1_1 xk2_1 xk3_1 xk5_1 "ValueError.__new__"))
    (rb1 : PySem.HandSPX.refsVE xbm1 = true)
    (xa1 : PySem.W.findIn K (.ref E1) "__setattr__" = some (some (.builtin "object.__setattr__")))
    (xb1 : PySem.W.subIn K (.ref E1) (.type "BaseException") = some true)
    (xc1 : PySem.W.typeIn K (.ref E1) = some (.type "type"))
    (xd1 : PySem.W.keepIn K (.ref E1) = true)
    (xe1 : PySem.W.findIn K (.ref E1) "__init__" = some (some (.ref f1)))
    (xf1 : PySem.W.findIn K (.ref E1) "value" = some none)
    (xg1 : PySem.W.findIn K (.ref E1) "__getattribute__" = some (some (.builtin "BaseException.__getattribute__")))
    (xh1 : PySem.W.findIn K (.ref E1) "__getattr__" = some none)
    (xi1 : PySem.W.hasDictIn K E1 = true)
    (xj1 : PySem.W.findIn K (.ref E1) "__class__" = some (some (.builtin "object.__class__")))
    (xm1 : PySem.W.mroIn K E1 (.type "object") = some true)
    (xp1 : PySem.W.isClsIn K E1 = true)
    (xs1 : PySem.W.subIn K (.ref E1) (.ref E1) = some true)
    {E2 : Addr} {xnm2 xq2 : Str} {xN2 : Addr} {xbs2 xbm2 xsub2 : List Value} {xsn2 : List Str} {xab2 : Bool} {xcol2 : Option Bool} {xdd2 : Option Addr} {xk0_2 xk1_2 xk2_2 xk3_2 xk5_2 : Option Value}
    (ue2 : PySem.W.nsIn K mainGlobals "BadText" = some (some (.ref E2)))
    (xl2 : K.lookup E2 = some (excClassObj xnm2 xq2 E2 xN2 xbs2 xbm2 true xsn2 xsub2 xab2 xcol2 xdd2 xk0_2 xk1_2 xk2_2 xk3_2 xk5_2 "ValueError.__new__"))
    (rb2 : PySem.HandSPX.refsVE xbm2 = true)
    (xa2 : PySem.W.findIn K (.ref E2) "__setattr__" = some (some (.builtin "object.__setattr__")))
    (xb2 : PySem.W.subIn K (.ref E2) (.type "BaseException") = some true)
    (xc2 : PySem.W.typeIn K (.ref E2) = some (.type "type"))
    (xd2 : PySem.W.keepIn K (.ref E2) = true)
    (xe2 : PySem.W.findIn K (.ref E2) "__init__" = some (some (.ref f1)))
    (xf2 : PySem.W.findIn K (.ref E2) "value" = some none)
    (xg2 : PySem.W.findIn K (.ref E2) "__getattribute__" = some (some (.builtin "BaseException.__getattribute__")))
    (xh2 : PySem.W.findIn K (.ref E2) "__getattr__" = some none)
    (xi2 : PySem.W.hasDictIn K E2 = true)
    (xj2 : PySem.W.findIn K (.ref E2) "__class__" = some (some (.builtin "object.__class__")))
    (xm2 : PySem.W.mroIn K E2 (.type "object") = some true)
    (xp2 : PySem.W.isClsIn K E2 = true)
    (xs2 : PySem.W.subIn K (.ref E2) (.ref E2) = some true)
    {E3 : Addr} {xnm3 xq3 : Str} {xN3 : Addr} {xbs3 xbm3 xsub3 : List Value} {xsn3 : List Str} {xab3 : Bool} {xcol3 : Option Bool} {xdd3 : Option Addr} {xk0_3 xk1_3 xk2_3 xk3_3 xk5_3 : Option Value}
    (ue3 : PySem.W.nsIn K mainGlobals "WayError" = some (some (.ref E3)))
    (xl3 : K.lookup E3 = some (excClassObj xnm3 xq3 E3 xN3 xbs3 xbm3 true xsn3 xsub3 xab3 xcol3 xdd3 xk0_3 xk1_3 xk2_3 xk3_3 xk5_3 "ValueError.__new__"))
    (rb3 : PySem.HandSPX.refsVE xbm3 = true)
    (xa3 : PySem.W.findIn K (.ref E3) "__setattr__" = some (some (.builtin "object.__setattr__")))
    (xb3 : PySem.W.subIn K (.ref E3) (.type "BaseException") = some true)
    (xc3 : PySem.W.typeIn K (.ref E3) = some (.type "type"))
    (xd3 : PySem.W.keepIn K (.ref E3) = true)
    (xe3 : PySem.W.findIn K (.ref E3) "__init__" = some (some (.ref f1)))
    (xf3 : PySem.W.findIn K (.ref E3) "value" = some none)
    (xg3 : PySem.W.findIn K (.ref E3) "__getattribute__" = some (some (.builtin "BaseException.__getattribute__")))
    (xh3 : PySem.W.findIn K (.ref E3) "__getattr__" = some none)
    (xi3 : PySem.W.hasDictIn K E3 = true)
    (xj3 : PySem.W.findIn K (.ref E3) "__class__" = some (some (.builtin "object.__class__")))
    (xm3 : PySem.W.mroIn K E3 (.type "object") = some true)
    (xp3 : PySem.W.isClsIn K E3 = true)
    (xs3 : PySem.W.subIn K (.ref E3) (.ref E3) = some true)
    (sp0 : PySem.W.subIn K (.ref E0) (.ref E2) = some false)
    (sp1 : PySem.W.subIn K (.ref E0) (.ref E0) = some true)
    (sp2 : PySem.W.subIn K (.ref E0) (.ref E3) = some true)
    (sp3 : PySem.W.subIn K (.ref E0) (.ref E1) = some false)
    (sp4 : PySem.W.subIn K (.ref E1) (.ref E2) = some false)
    (sp5 : PySem.W.subIn K (.ref E1) (.ref E0) = some false)
    (sp6 : PySem.W.subIn K (.ref E1) (.ref E3) = some true)
    (sp7 : PySem.W.subIn K (.ref E1) (.ref E1) = some true)
    (sp8 : PySem.W.subIn K (.ref E2) (.ref E2) = some true)
    (sp9 : PySem.W.subIn K (.ref E2) (.ref E0) = some false)
    (sp10 : PySem.W.subIn K (.ref E2) (.ref E3) = some true)
    (sp11 : PySem.W.subIn K (.ref E2) (.ref E1) = some false)
    (l1 : K.lookup f1 = some ⟨oc1, od1, .func (PySem.W.fnOf "__init__" "WayError.__init__" (defArgs s_WayError_init) (defBody s_WayError_init) (defScope s_WayError_init) (.ref dT) kV1 dc1 pm1 an1 cd1 ct1), sl1⟩) (c1 : PySem.W.codeIn K cd1 "WayError.__init__" = true) (k1 : PySem.W.keepIn K (.ref f1) = true)
    (a2 : PySem.W.nsIn K mainGlobals "is_letters" = some (some (.ref f2)))
    (l2 : K.lookup f2 = some ⟨oc2, od2, .func (PySem.W.fnOf "is_letters" "is_letters" (defArgs s_is_letters) (defBody s_is_letters) (defScope s_is_letters) .none kV2 dc2 pm2 an2 cd2 ct2), sl2⟩) (c2 : PySem.W.codeIn K cd2 "is_letters" = true) (k2 : PySem.W.keepIn K (.ref f2) = true)
    (a3 : PySem.W.nsIn K mainGlobals "is_watch" = some (some (.ref f3)))
    (l3 : K.lookup f3 = some ⟨oc3, od3, .func (PySem.W.fnOf "is_watch" "is_watch" (defArgs s_is_watch) (defBody s_is_watch) (defScope s_is_watch) .none kV3 dc3 pm3 an3 cd3 ct3), sl3⟩) (c3 : PySem.W.codeIn K cd3 "is_watch" = true) (k3 : PySem.W.keepIn K (.ref f3) = true)
    (a4 : PySem.W.nsIn K mainGlobals "text_key" = some (some (.ref f4)))
    (l4 : K.lookup f4 = some ⟨oc4, od4, .func (PySem.W.fnOf "text_key" "text_key" (defArgs s_text_key) (defBody s_text_key) (defScope s_text_key) .none kV4 dc4 pm4 an4 cd4 ct4), sl4⟩) (c4 : PySem.W.codeIn K cd4 "text_key" = true) (k4 : PySem.W.keepIn K (.ref f4) = true)
    (a5 : PySem.W.nsIn K mainGlobals "in_order" = some (some (.ref f5)))
    (l5 : K.lookup f5 = some ⟨oc5, od5, .func (PySem.W.fnOf "in_order" "in_order" (defArgs s_in_order) (defBody s_in_order) (defScope s_in_order) .none kV5 dc5 pm5 an5 cd5 ct5), sl5⟩) (c5 : PySem.W.codeIn K cd5 "in_order" = true) (k5 : PySem.W.keepIn K (.ref f5) = true)
    (a6 : PySem.W.findIn K (.ref C0) "__init__" = some (some (.ref f6))) (i6 : PySem.W.isFn K (.ref f6) = true)
    (mk0 : PySem.W.makesIn K C0 = true) (kc0 : PySem.W.keepIn K (.ref C0) = true)
    (l6 : K.lookup f6 = some ⟨oc6, od6, .func (PySem.W.fnOf "__init__" "Book.__init__" (defArgs s_Book_init) (defBody s_Book_init) (defScope s_Book_init) .none kV6 dc6 pm6 an6 cd6 ct6), sl6⟩) (c6 : PySem.W.codeIn K cd6 "Book.__init__" = true) (k6 : PySem.W.keepIn K (.ref f6) = true)
    (a7 : PySem.W.findIn K (.ref C0) "__eq__" = some (some (.ref f7))) (i7 : PySem.W.isFn K (.ref f7) = true)
    (l7 : K.lookup f7 = some ⟨oc7, od7, .func (PySem.W.fnOf "__eq__" "Book.__eq__" (defArgs s_Book_eq) (defBody s_Book_eq) (defScope s_Book_eq) .none kV7 dc7 pm7 an7 cd7 ct7), sl7⟩) (c7 : PySem.W.codeIn K cd7 "Book.__eq__" = true) (k7 : PySem.W.keepIn K (.ref f7) = true)
    (a8 : PySem.W.nsIn K mainGlobals "check_book" = some (some (.ref f8)))
    (l8 : K.lookup f8 = some ⟨oc8, od8, .func (PySem.W.fnOf "check_book" "check_book" (defArgs s_check_book) (defBody s_check_book) (defScope s_check_book) .none kV8 dc8 pm8 an8 cd8 ct8), sl8⟩) (c8 : PySem.W.codeIn K cd8 "check_book" = true) (k8 : PySem.W.keepIn K (.ref f8) = true)
    (a9 : PySem.W.nsIn K mainGlobals "ordered_watches" = some (some (.ref f9)))
    (l9 : K.lookup f9 = some ⟨oc9, od9, .func (PySem.W.fnOf "ordered_watches" "ordered_watches" (defArgs s_ordered_watches) (defBody s_ordered_watches) (defScope s_ordered_watches) .none kV9 dc9 pm9 an9 cd9 ct9), sl9⟩) (c9 : PySem.W.codeIn K cd9 "ordered_watches" = true) (k9 : PySem.W.keepIn K (.ref f9) = true)
    (a10 : PySem.W.nsIn K mainGlobals "write_book" = some (some (.ref f10)))
    (l10 : K.lookup f10 = some ⟨oc10, od10, .func (PySem.W.fnOf "write_book" "write_book" (defArgs s_write_book) (defBody s_write_book) (defScope s_write_book) .none kV10 dc10 pm10 an10 cd10 ct10), sl10⟩) (c10 : PySem.W.codeIn K cd10 "write_book" = true) (k10 : PySem.W.keepIn K (.ref f10) = true)
    (a11 : PySem.W.nsIn K mainGlobals "read_book" = some (some (.ref f11)))
    (l11 : K.lookup f11 = some ⟨oc11, od11, .func (PySem.W.fnOf "read_book" "read_book" (defArgs s_read_book) (defBody s_read_book) (defScope s_read_book) .none kV11 dc11 pm11 an11 cd11 ct11), sl11⟩) (c11 : PySem.W.codeIn K cd11 "read_book" = true) (k11 : PySem.W.keepIn K (.ref f11) = true)
    (a12 : PySem.W.findIn K (.ref C1) "__init__" = some (some (.ref f12))) (i12 : PySem.W.isFn K (.ref f12) = true)
    (mk1 : PySem.W.makesIn K C1 = true) (kc1 : PySem.W.keepIn K (.ref C1) = true)
    (l12 : K.lookup f12 = some ⟨oc12, od12, .func (PySem.W.fnOf "__init__" "Lengths.__init__" (defArgs s_Lengths_init) (defBody s_Lengths_init) (defScope s_Lengths_init) .none kV12 dc12 pm12 an12 cd12 ct12), sl12⟩) (c12 : PySem.W.codeIn K cd12 "Lengths.__init__" = true) (k12 : PySem.W.keepIn K (.ref f12) = true)
    (a13 : PySem.W.findIn K (.ref C1) "__eq__" = some (some (.ref f13))) (i13 : PySem.W.isFn K (.ref f13) = true)
    (l13 : K.lookup f13 = some ⟨oc13, od13, .func (PySem.W.fnOf "__eq__" "Lengths.__eq__" (defArgs s_Lengths_eq) (defBody s_Lengths_eq) (defScope s_Lengths_eq) .none kV13 dc13 pm13 an13 cd13 ct13), sl13⟩) (c13 : PySem.W.codeIn K cd13 "Lengths.__eq__" = true) (k13 : PySem.W.keepIn K (.ref f13) = true)
    (a14 : PySem.W.nsIn K mainGlobals "_law_tape" = some (some (.ref f14)))
    (l14 : K.lookup f14 = some ⟨oc14, od14, .func (PySem.W.fnOf "_law_tape" "_law_tape" (defArgs s_l_tape) (defBody s_l_tape) (defScope s_l_tape) .none kV14 dc14 pm14 an14 cd14 ct14), sl14⟩) (c14 : PySem.W.codeIn K cd14 "_law_tape" = true) (k14 : PySem.W.keepIn K (.ref f14) = true)
    (a15 : PySem.W.nsIn K mainGlobals "_law_pick" = some (some (.ref f15)))
    (l15 : K.lookup f15 = some ⟨oc15, od15, .func (PySem.W.fnOf "_law_pick" "_law_pick" (defArgs s_l_pick) (defBody s_l_pick) (defScope s_l_pick) .none kV15 dc15 pm15 an15 cd15 ct15), sl15⟩) (c15 : PySem.W.codeIn K cd15 "_law_pick" = true) (k15 : PySem.W.keepIn K (.ref f15) = true)
    (a16 : PySem.W.nsIn K mainGlobals "_law_is_letters" = some (some (.ref f16)))
    (l16 : K.lookup f16 = some ⟨oc16, od16, .func (PySem.W.fnOf "_law_is_letters" "_law_is_letters" (defArgs s_l_is_letters) (defBody s_l_is_letters) (defScope s_l_is_letters) .none kV16 dc16 pm16 an16 cd16 ct16), sl16⟩) (c16 : PySem.W.codeIn K cd16 "_law_is_letters" = true) (k16 : PySem.W.keepIn K (.ref f16) = true)
    (a17 : PySem.W.nsIn K mainGlobals "_law_sign" = some (some (.ref f17)))
    (l17 : K.lookup f17 = some ⟨oc17, od17, .func (PySem.W.fnOf "_law_sign" "_law_sign" (defArgs s_l_sign) (defBody s_l_sign) (defScope s_l_sign) .none kV17 dc17 pm17 an17 cd17 ct17), sl17⟩) (c17 : PySem.W.codeIn K cd17 "_law_sign" = true) (k17 : PySem.W.keepIn K (.ref f17) = true)
    (a18 : PySem.W.nsIn K mainGlobals "_law_watches" = some (some (.ref f18)))
    (l18 : K.lookup f18 = some ⟨oc18, od18, .func (PySem.W.fnOf "_law_watches" "_law_watches" (defArgs s_l_watches) (defBody s_l_watches) (defScope s_l_watches) .none kV18 dc18 pm18 an18 cd18 ct18), sl18⟩) (c18 : PySem.W.codeIn K cd18 "_law_watches" = true) (k18 : PySem.W.keepIn K (.ref f18) = true)
    (a19 : PySem.W.nsIn K mainGlobals "_law_text" = some (some (.ref f19)))
    (l19 : K.lookup f19 = some ⟨oc19, od19, .func (PySem.W.fnOf "_law_text" "_law_text" (defArgs s_l_text) (defBody s_l_text) (defScope s_l_text) .none kV19 dc19 pm19 an19 cd19 ct19), sl19⟩) (c19 : PySem.W.codeIn K cd19 "_law_text" = true) (k19 : PySem.W.keepIn K (.ref f19) = true)
    (a20 : PySem.W.nsIn K mainGlobals "_law_due" = some (some (.ref f20)))
    (l20 : K.lookup f20 = some ⟨oc20, od20, .func (PySem.W.fnOf "_law_due" "_law_due" (defArgs s_l_due) (defBody s_l_due) (defScope s_l_due) .none kV20 dc20 pm20 an20 cd20 ct20), sl20⟩) (c20 : PySem.W.codeIn K cd20 "_law_due" = true) (k20 : PySem.W.keepIn K (.ref f20) = true)
    (a21 : PySem.W.nsIn K mainGlobals "_law_asked" = some (some (.ref f21)))
    (l21 : K.lookup f21 = some ⟨oc21, od21, .func (PySem.W.fnOf "_law_asked" "_law_asked" (defArgs s_l_asked) (defBody s_l_asked) (defScope s_l_asked) .none kV21 dc21 pm21 an21 cd21 ct21), sl21⟩) (c21 : PySem.W.codeIn K cd21 "_law_asked" = true) (k21 : PySem.W.keepIn K (.ref f21) = true)
    (a22 : PySem.W.nsIn K mainGlobals "_law_reads" = some (some (.ref f22)))
    (l22 : K.lookup f22 = some ⟨oc22, od22, .func (PySem.W.fnOf "_law_reads" "_law_reads" (defArgs s_l_reads) (defBody s_l_reads) (defScope s_l_reads) .none kV22 dc22 pm22 an22 cd22 ct22), sl22⟩) (c22 : PySem.W.codeIn K cd22 "_law_reads" = true) (k22 : PySem.W.keepIn K (.ref f22) = true)
    (a23 : PySem.W.nsIn K mainGlobals "_law_changed" = some (some (.ref f23)))
    (l23 : K.lookup f23 = some ⟨oc23, od23, .func (PySem.W.fnOf "_law_changed" "_law_changed" (defArgs s_l_changed) (defBody s_l_changed) (defScope s_l_changed) .none kV23 dc23 pm23 an23 cd23 ct23), sl23⟩) (c23 : PySem.W.codeIn K cd23 "_law_changed" = true) (k23 : PySem.W.keepIn K (.ref f23) = true)
    (a24 : PySem.W.nsIn K mainGlobals "_law_refused" = some (some (.ref f24)))
    (l24 : K.lookup f24 = some ⟨oc24, od24, .func (PySem.W.fnOf "_law_refused" "_law_refused" (defArgs s_l_refused) (defBody s_l_refused) (defScope s_l_refused) .none kV24 dc24 pm24 an24 cd24 ct24), sl24⟩) (c24 : PySem.W.codeIn K cd24 "_law_refused" = true) (k24 : PySem.W.keepIn K (.ref f24) = true)
    (a25 : PySem.W.nsIn K mainGlobals "law" = some (some (.ref f25)))
    (l25 : K.lookup f25 = some ⟨oc25, od25, .func (PySem.W.fnOf "law" "law" (defArgs s_law) (defBody s_law) (defScope s_law) .none kV25 dc25 pm25 an25 cd25 ct25), sl25⟩) (c25 : PySem.W.codeIn K cd25 "law" = true) (k25 : PySem.W.keepIn K (.ref f25) = true)
    (z0 : PySem.W.nsIn K mainGlobals "isinstance" = some none)
    (z1 : PySem.W.nsIn K mainGlobals "str" = some none)
    (z2 : PySem.W.nsIn K mainGlobals "all" = some none)
    (z3 : PySem.W.nsIn K mainGlobals "len" = some none)
    (z4 : PySem.W.nsIn K mainGlobals "sorted" = some none)
    (z5 : PySem.W.nsIn K mainGlobals "enumerate" = some none)
    (z6 : PySem.W.nsIn K mainGlobals "tuple" = some none)
    (z7 : PySem.W.nsIn K mainGlobals "list" = some none)
    (z8 : PySem.W.nsIn K mainGlobals "int" = some none)
    (z9 : PySem.W.nsIn K mainGlobals "range" = some none)
    (z10 : PySem.W.nsIn K mainGlobals "repr" = some none)
    {t0 : Tok} (y0 : PySem.W.nsIn K mainGlobals "LETTERS" = some (some (.str "abcdefghijklmnopqrstuvwxyz" t0)))
    {t1 : Tok} (y1 : PySem.W.nsIn K mainGlobals "MOST_WATCH" = some (some (.int 12 t1)))
    {t2 : Tok} (y2 : PySem.W.nsIn K mainGlobals "MOST_WATCHES" = some (some (.int 12 t2)))
    : ∃ fd : FuncData, (∀ (s : Shared) (v : Value), BindsTo s fd ⟨[v], []⟩ [("_law_script", v)]) ∧ ∀ base : Heap, K.In base → base.Ns mainGlobals mg → Rg.FnG l.prog w K mg base CX0 9 fa fd ["_law_script"] (sp_law K) := by
  have e := hfa.symm.trans (PySem.W.mg_of X G a25)
  cases e
  have D1 : FunD K "__init__" "WayError.__init__" (defArgs s_WayError_init) (defBody s_WayError_init) (defScope s_WayError_init) [.non] [] f1 _ := ⟨⟨oc1, od1, .ref dT, kV1, dc1, pm1, an1, cd1, ct1, sl1, rfl, l1, c1, .inr ⟨by simp, dT, _, [.none], tN, rfl, lT, rfl, .cons rfl .nil⟩, .inl rfl⟩, k1⟩
  have F2 := fun_mk (st := s_is_letters) l2 c2 k2
  have F3 := fun_mk (st := s_is_watch) l3 c3 k3
  have F4 := fun_mk (st := s_text_key) l4 c4 k4
  have F5 := fun_mk (st := s_in_order) l5 c5 k5
  have F6 := fun_mk (st := s_Book_init) l6 c6 k6
  have F7 := fun_mk (st := s_Book_eq) l7 c7 k7
  have F8 := fun_mk (st := s_check_book) l8 c8 k8
  have F9 := fun_mk (st := s_ordered_watches) l9 c9 k9
  have F10 := fun_mk (st := s_write_book) l10 c10 k10
  have F11 := fun_mk (st := s_read_book) l11 c11 k11
  have F12 := fun_mk (st := s_Lengths_init) l12 c12 k12
  have F13 := fun_mk (st := s_Lengths_eq) l13 c13 k13
  have F14 := fun_mk (st := s_l_tape) l14 c14 k14
  have F15 := fun_mk (st := s_l_pick) l15 c15 k15
  have F16 := fun_mk (st := s_l_is_letters) l16 c16 k16
  have F17 := fun_mk (st := s_l_sign) l17 c17 k17
  have F18 := fun_mk (st := s_l_watches) l18 c18 k18
  have F19 := fun_mk (st := s_l_text) l19 c19 k19
  have F20 := fun_mk (st := s_l_due) l20 c20 k20
  have F21 := fun_mk (st := s_l_asked) l21 c21 k21
  have F22 := fun_mk (st := s_l_reads) l22 c22 k22
  have F23 := fun_mk (st := s_l_changed) l23 c23 k23
  have F24 := fun_mk (st := s_l_refused) l24 c24 k24
  have F25 := fun_mk (st := s_law) l25 c25 k25
  let T : Txt K mg := {
    C_Book := C0, c_Book := PySem.W.mg_of X G u0,
    cl_Book := ⟨pg0, hd0, po0, sa0⟩, ty_Book := ⟨wc0, wn0, wt0, wm0, kit_self⟩,
    na_Book_watches := na0_0,
    ki_Book := fx0_0,
    kb_Book := fx0_1,
    ic_Book := fx0_2,
    tc_Book := fx0_3,
    sl_Book := fx0_4,
    ne_Book := fx0_5,
    ks_Book := fx0_6,
    C_Lengths := C1, c_Lengths := PySem.W.mg_of X G u1,
    cl_Lengths := ⟨pg1, hd1, po1, sa1⟩, ty_Lengths := ⟨wc1, wn1, wt1, wm1, kit_self⟩,
    na_Lengths_none := na1_0,
    na_Lengths_one := na1_1,
    ki_Lengths := fx1_0,
    kb_Lengths := fx1_1,
    ic_Lengths := fx1_2,
    tc_Lengths := fx1_3,
    s_Lengths_Book := fx1_4,
    sl_Lengths := fx1_5,
    ne_Lengths := fx1_6,
    C_BadWatches := E0, c_BadWatches := PySem.W.mg_of X G ue0, X_BadWatches := ⟨⟨⟨_, _, _, _, _, _, _, _, _, _, _, _, _, _, _, xl0, rb0⟩, xa0, xb0, xc0, xd0⟩, ⟨xg0, xh0, xb0, xi0, xj0, xn, xo, xm0⟩, xe0, xf0, xp0, xs0⟩,
    C_BadBook := E1, c_BadBook := PySem.W.mg_of X G ue1, X_BadBook := ⟨⟨⟨_, _, _, _, _, _, _, _, _, _, _, _, _, _, _, xl1, rb1⟩, xa1, xb1, xc1, xd1⟩, ⟨xg1, xh1, xb1, xi1, xj1, xn, xo, xm1⟩, xe1, xf1, xp1, xs1⟩,
    C_BadText := E2, c_BadText := PySem.W.mg_of X G ue2, X_BadText := ⟨⟨⟨_, _, _, _, _, _, _, _, _, _, _, _, _, _, _, xl2, rb2⟩, xa2, xb2, xc2, xd2⟩, ⟨xg2, xh2, xb2, xi2, xj2, xn, xo, xm2⟩, xe2, xf2, xp2, xs2⟩,
    C_WayError := E3, c_WayError := PySem.W.mg_of X G ue3, X_WayError := ⟨⟨⟨_, _, _, _, _, _, _, _, _, _, _, _, _, _, _, xl3, rb3⟩, xa3, xb3, xc3, xd3⟩, ⟨xg3, xh3, xb3, xi3, xj3, xn, xo, xm3⟩, xe3, xf3, xp3, xs3⟩,
    s_BadWatches_BadText := sp0,
    s_BadWatches_BadWatches := sp1,
    s_BadWatches_WayError := sp2,
    s_BadWatches_BadBook := sp3,
    s_BadBook_BadText := sp4,
    s_BadBook_BadWatches := sp5,
    s_BadBook_WayError := sp6,
    s_BadBook_BadBook := sp7,
    s_BadText_BadText := sp8,
    s_BadText_BadWatches := sp9,
    s_BadText_WayError := sp10,
    s_BadText_BadBook := sp11,
    f_WayError_init := f1, fd_WayError_init := _, D_WayError_init := D1, b_WayError_init := Rx.binds2 D1 (fun _ _ _ _ _ _ _ us its h1 h2 => match us, its, h1, h2 with | [_, _], [_], _, _ => ⟨_, rfl, rfl⟩), tI_WayError_init := tI,
    f_is_letters := f2, fd_is_letters := _, F_is_letters := F2, g_is_letters := PySem.W.mg_of X G a2, b_is_letters := F2.binds (ps := ["value"]) fun _ _ _ _ _ _ us hl => match us, hl with | [_], _ => rfl,
    f_is_watch := f3, fd_is_watch := _, F_is_watch := F3, g_is_watch := PySem.W.mg_of X G a3, b_is_watch := F3.binds (ps := ["thing"]) fun _ _ _ _ _ _ us hl => match us, hl with | [_], _ => rfl,
    f_text_key := f4, fd_text_key := _, F_text_key := F4, g_text_key := PySem.W.mg_of X G a4, b_text_key := F4.binds (ps := ["text"]) fun _ _ _ _ _ _ us hl => match us, hl with | [_], _ => rfl,
    f_in_order := f5, fd_in_order := _, F_in_order := F5, g_in_order := PySem.W.mg_of X G a5, b_in_order := F5.binds (ps := ["texts"]) fun _ _ _ _ _ _ us hl => match us, hl with | [_], _ => rfl,
    f_Book_init := f6, fd_Book_init := _, F_Book_init := F6, M_Book := ⟨mk0, a6, i6, kc0⟩, b_Book_init := F6.binds (ps := ["self", "watches"]) fun _ _ _ _ _ _ us hl => match us, hl with | [_, _], _ => rfl,
    f_Book_eq := f7, fd_Book_eq := _, F_Book_eq := F7, h_Book_eq := ⟨a7, i7, k7⟩, b_Book_eq := F7.binds (ps := ["self", "other"]) fun _ _ _ _ _ _ us hl => match us, hl with | [_, _], _ => rfl,
    f_check_book := f8, fd_check_book := _, F_check_book := F8, g_check_book := PySem.W.mg_of X G a8, b_check_book := F8.binds (ps := ["book"]) fun _ _ _ _ _ _ us hl => match us, hl with | [_], _ => rfl,
    f_ordered_watches := f9, fd_ordered_watches := _, F_ordered_watches := F9, g_ordered_watches := PySem.W.mg_of X G a9, b_ordered_watches := F9.binds (ps := ["book"]) fun _ _ _ _ _ _ us hl => match us, hl with | [_], _ => rfl,
    f_write_book := f10, fd_write_book := _, F_write_book := F10, g_write_book := PySem.W.mg_of X G a10, b_write_book := F10.binds (ps := ["book"]) fun _ _ _ _ _ _ us hl => match us, hl with | [_], _ => rfl,
    f_read_book := f11, fd_read_book := _, F_read_book := F11, g_read_book := PySem.W.mg_of X G a11, b_read_book := F11.binds (ps := ["text"]) fun _ _ _ _ _ _ us hl => match us, hl with | [_], _ => rfl,
    f_Lengths_init := f12, fd_Lengths_init := _, F_Lengths_init := F12, M_Lengths := ⟨mk1, a12, i12, kc1⟩, b_Lengths_init := F12.binds (ps := ["self"]) fun _ _ _ _ _ _ us hl => match us, hl with | [_], _ => rfl,
    f_Lengths_eq := f13, fd_Lengths_eq := _, F_Lengths_eq := F13, h_Lengths_eq := ⟨a13, i13, k13⟩, b_Lengths_eq := F13.binds (ps := ["self", "other"]) fun _ _ _ _ _ _ us hl => match us, hl with | [_, _], _ => rfl,
    f_l_tape := f14, fd_l_tape := _, F_l_tape := F14, g_l_tape := PySem.W.mg_of X G a14, b_l_tape := F14.binds (ps := ["_law_script"]) fun _ _ _ _ _ _ us hl => match us, hl with | [_], _ => rfl,
    f_l_pick := f15, fd_l_pick := _, F_l_pick := F15, g_l_pick := PySem.W.mg_of X G a15, b_l_pick := F15.binds (ps := ["_law_tape_here", "_law_size"]) fun _ _ _ _ _ _ us hl => match us, hl with | [_, _], _ => rfl,
    f_l_is_letters := f16, fd_l_is_letters := _, F_l_is_letters := F16, g_l_is_letters := PySem.W.mg_of X G a16, b_l_is_letters := F16.binds (ps := ["_law_thing", "_law_most"]) fun _ _ _ _ _ _ us hl => match us, hl with | [_, _], _ => rfl,
    f_l_sign := f17, fd_l_sign := _, F_l_sign := F17, g_l_sign := PySem.W.mg_of X G a17, b_l_sign := F17.binds (ps := ["_law_tape_here"]) fun _ _ _ _ _ _ us hl => match us, hl with | [_], _ => rfl,
    f_l_watches := f18, fd_l_watches := _, F_l_watches := F18, g_l_watches := PySem.W.mg_of X G a18, b_l_watches := F18.binds (ps := ["_law_tape_here"]) fun _ _ _ _ _ _ us hl => match us, hl with | [_], _ => rfl,
    f_l_text := f19, fd_l_text := _, F_l_text := F19, g_l_text := PySem.W.mg_of X G a19, b_l_text := F19.binds (ps := ["_law_watches_here"]) fun _ _ _ _ _ _ us hl => match us, hl with | [_], _ => rfl,
    f_l_due := f20, fd_l_due := _, F_l_due := F20, g_l_due := PySem.W.mg_of X G a20, b_l_due := F20.binds (ps := ["_law_text_here"]) fun _ _ _ _ _ _ us hl => match us, hl with | [_], _ => rfl,
    f_l_asked := f21, fd_l_asked := _, F_l_asked := F21, g_l_asked := PySem.W.mg_of X G a21, b_l_asked := F21.binds (ps := ["_law_text_here"]) fun _ _ _ _ _ _ us hl => match us, hl with | [_], _ => rfl,
    f_l_reads := f22, fd_l_reads := _, F_l_reads := F22, g_l_reads := PySem.W.mg_of X G a22, b_l_reads := F22.binds (ps := ["_law_text_here"]) fun _ _ _ _ _ _ us hl => match us, hl with | [_], _ => rfl,
    f_l_changed := f23, fd_l_changed := _, F_l_changed := F23, g_l_changed := PySem.W.mg_of X G a23, b_l_changed := F23.binds (ps := ["_law_tape_here", "_law_text_here"]) fun _ _ _ _ _ _ us hl => match us, hl with | [_, _], _ => rfl,
    f_l_refused := f24, fd_l_refused := _, F_l_refused := F24, g_l_refused := PySem.W.mg_of X G a24, b_l_refused := F24.binds (ps := ["_law_thing"]) fun _ _ _ _ _ _ us hl => match us, hl with | [_], _ => rfl,
    f_law := fa, fd_law := _, F_law := F25, g_law := PySem.W.mg_of X G a25, b_law := F25.binds (ps := ["_law_script"]) fun _ _ _ _ _ _ us hl => match us, hl with | [_], _ => rfl,
    n_isinstance := PySem.W.mg_none_of X G z0,
    n_str := PySem.W.mg_none_of X G z1,
    n_all := PySem.W.mg_none_of X G z2,
    n_len := PySem.W.mg_none_of X G z3,
    n_sorted := PySem.W.mg_none_of X G z4,
    n_enumerate := PySem.W.mg_none_of X G z5,
    n_tuple := PySem.W.mg_none_of X G z6,
    n_list := PySem.W.mg_none_of X G z7,
    n_int := PySem.W.mg_none_of X G z8,
    n_range := PySem.W.mg_none_of X G z9,
    n_repr := PySem.W.mg_none_of X G z10,
    t_LETTERS := t0, m_LETTERS := PySem.W.mg_of X G y0,
    t_MOST_WATCH := t1, m_MOST_WATCH := PySem.W.mg_of X G y1,
    t_MOST_WATCHES := t2, m_MOST_WATCHES := PySem.W.mg_of X G y2 }
  exact ⟨_, fun s v => .of_eq rfl, fun base _ _ => ok_law T⟩
theorem walk {l : PySem.W.OpenLaw} {q : Program} {loose : List Str} {XP : (Str → Option Value) → Heap → Prop} {YP : World → Heap → Prop} {d : DefRec} {K : Params → PySem.W.Frag} (hn : l.most = some 63) (hdf : d.params.defaults = [])
    (hY : ∀ (w : World) (h : Heap), YP w h → (K w.params).In h)
    (F : ∀ (w : World) (mg : Str → Option Value) (fa : Addr) (h : Heap), (K w.params).In h → h.Ns mainGlobals mg → mg d.name = some (.ref fa) →
      ∃ fd : FuncData, (∀ (s : Shared) (u : Value), BindsTo s fd ⟨[u], []⟩ [("_law_script", u)]) ∧ ∀ base : Heap, (K w.params).In base → base.Ns mainGlobals mg → Rg.FnG l.prog w (K w.params) mg base CX0 9 fa fd ["_law_script"] (sp_law (K w.params))) :
    PySem.W.WalkO q loose XP YP l.row.toRowW d [] (fun f vs => PySem.call f vs) :=
  Rg.walk_ofG (n := 63) (k := 9) (x := "_law_script") (CX := fun _ => CX0) (sp := fun w => sp_law (K w.params)) hn (by decide) hdf ⟨rfl, by decide, by decide⟩ hY F (fun _ _ a ns hl hS => ⟨a, ns, rfl, hS, hl, fun _ => rfl⟩) fun _ _ _ _ _ z => z
end W
open PySem PySem.W PyProof.Rows
set_option maxRecDepth 100000 in
set_option maxHeartbeats 0 in
theorem PySem.Challenge.cw_watchedways_k93_books_as_rows_holds : PySem.Challenge.rw_watchedways_k93_books_as_rows.Holds := by
  w_on; o_law; k_head; (case hw => w_witness2)
  k_fill
  refine W.walk (l := PySem.Challenge.rw_watchedways_k93_books_as_rows) rfl rfl (fun w h Y => PySem.W.kIn_of Y) ?F
  case F =>
    intro w mg fa h KX G hmg
    refine' W.all_mk KX G hmg ?u0 ?pg0 ?hd0 ?po0 ?sa0 ?wc0 ?wm0 ?wn0 ?wt0 ?na0_0 ?u1 ?pg1 ?hd1 ?po1 ?sa1 ?wc1 ?wm1 ?wn1 ?wt1 ?na1_0 ?na1_1 ?fx0_0 ?fx0_1 ?fx0_2 ?fx0_3 ?fx0_4 ?fx0_5 ?fx0_6 ?fx1_0 ?fx1_1 ?fx1_2 ?fx1_3 ?fx1_4 ?fx1_5 ?fx1_6 ?lT ?tI ?xn ?xo ?ue0 ?xl0 ?rb0 ?xa0 ?xb0 ?xc0 ?xd0 ?xe0 ?xf0 ?xg0 ?xh0 ?xi0 ?xj0 ?xm0 ?xp0 ?xs0 ?ue1 ?xl1 ?rb1 ?xa1 ?xb1 ?xc1 ?xd1 ?xe1 ?xf1 ?xg1 ?xh1 ?xi1 ?xj1 ?xm1 ?xp1 ?xs1 ?ue2 ?xl2 ?rb2 ?xa2 ?xb2 ?xc2 ?xd2 ?xe2 ?xf2 ?xg2 ?xh2 ?xi2 ?xj2 ?xm2 ?xp2 ?xs2 ?ue3 ?xl3 ?rb3 ?xa3 ?xb3 ?xc3 ?xd3 ?xe3 ?xf3 ?xg3 ?xh3 ?xi3 ?xj3 ?xm3 ?xp3 ?xs3 ?sp0 ?sp1 ?sp2 ?sp3 ?sp4 ?sp5 ?sp6 ?sp7 ?sp8 ?sp9 ?sp10 ?sp11 ?l1 ?c1 ?k1 ?a2 ?l2 ?c2 ?k2 ?a3 ?l3 ?c3 ?k3 ?a4 ?l4 ?c4 ?k4 ?a5 ?l5 ?c5 ?k5 ?a6 ?i6 ?mk0 ?kc0 ?l6 ?c6 ?k6 ?a7 ?i7 ?l7 ?c7 ?k7 ?a8 ?l8 ?c8 ?k8 ?a9 ?l9 ?c9 ?k9 ?a10 ?l10 ?c10 ?k10 ?a11 ?l11 ?c11 ?k11 ?a12 ?i12 ?mk1 ?kc1 ?l12 ?c12 ?k12 ?a13 ?i13 ?l13 ?c13 ?k13 ?a14 ?l14 ?c14 ?k14 ?a15 ?l15 ?c15 ?k15 ?a16 ?l16 ?c16 ?k16 ?a17 ?l17 ?c17 ?k17 ?a18 ?l18 ?c18 ?k18 ?a19 ?l19 ?c19 ?k19 ?a20 ?l20 ?c20 ?k20 ?a21 ?l21 ?c21 ?k21 ?a22 ?l22 ?c22 ?k22 ?a23 ?l23 ?c23 ?k23 ?a24 ?l24 ?c24 ?k24 ?a25 ?l25 ?c25 ?k25 ?z0 ?z1 ?z2 ?z3 ?z4 ?z5 ?z6 ?z7 ?z8 ?z9 ?z10 ?y0 ?y1 ?y2
    (case ue0 => k_is); (case xe0 => k_is); (case l1 => k_is); (case u0 => k_is); (case pg0 => k_is); (case hd0 => k_is); (case po0 => k_is); (case sa0 => k_is); (case wc0 => k_is); (case wm0 => k_is); (case wn0 => k_is); (case wt0 => k_is); (case na0_0 => k_is); (case u1 => k_is); (case pg1 => k_is); (case hd1 => k_is); (case po1 => k_is); (case sa1 => k_is); (case wc1 => k_is); (case wm1 => k_is); (case wn1 => k_is); (case wt1 => k_is); (case na1_0 => k_is); (case na1_1 => k_is); (case fx0_0 => k_is); (case fx0_1 => k_is); (case fx0_2 => k_is); (case fx0_3 => k_is); (case fx0_4 => k_is); (case fx0_5 => k_is); (case fx0_6 => k_is); (case fx1_0 => k_is); (case fx1_1 => k_is); (case fx1_2 => k_is); (case fx1_3 => k_is); (case fx1_4 => k_is); (case fx1_5 => k_is); (case fx1_6 => k_is); (case lT => k_is); (case tI => k_is); (case xn => k_is); (case xo => k_is); (case xl0 => k_is); (case rb0 => rfl); (case xa0 => k_is); (case xb0 => k_is); (case xc0 => k_is); (case xd0 => k_is); (case xf0 => k_is); (case xg0 => k_is); (case xh0 => k_is); (case xi0 => k_is); (case xj0 => k_is); (case xm0 => k_is); (case xp0 => k_is); (case xs0 => k_is); (case ue1 => k_is); (case xl1 => k_is); (case rb1 => rfl); (case xa1 => k_is); (case xb1 => k_is); (case xc1 => k_is); (case xd1 => k_is); (case xe1 => k_is); (case xf1 => k_is); (case xg1 => k_is); (case xh1 => k_is); (case xi1 => k_is); (case xj1 => k_is); (case xm1 => k_is); (case xp1 => k_is); (case xs1 => k_is); (case ue2 => k_is); (case xl2 => k_is); (case rb2 => rfl); (case xa2 => k_is); (case xb2 => k_is); (case xc2 => k_is); (case xd2 => k_is); (case xe2 => k_is); (case xf2 => k_is); (case xg2 => k_is); (case xh2 => k_is); (case xi2 => k_is); (case xj2 => k_is); (case xm2 => k_is); (case xp2 => k_is); (case xs2 => k_is); (case ue3 => k_is); (case xl3 => k_is); (case rb3 => rfl); (case xa3 => k_is); (case xb3 => k_is); (case xc3 => k_is); (case xd3 => k_is); (case xe3 => k_is); (case xf3 => k_is); (case xg3 => k_is); (case xh3 => k_is); (case xi3 => k_is); (case xj3 => k_is); (case xm3 => k_is); (case xp3 => k_is); (case xs3 => k_is); (case sp0 => k_is); (case sp1 => k_is); (case sp2 => k_is); (case sp3 => k_is); (case sp4 => k_is); (case sp5 => k_is); (case sp6 => k_is); (case sp7 => k_is); (case sp8 => k_is); (case sp9 => k_is); (case sp10 => k_is); (case sp11 => k_is); (case c1 => k_is); (case k1 => k_is); (case a2 => k_is); (case l2 => k_is); (case c2 => k_is); (case k2 => k_is); (case a3 => k_is); (case l3 => k_is); (case c3 => k_is); (case k3 => k_is); (case a4 => k_is); (case l4 => k_is); (case c4 => k_is); (case k4 => k_is); (case a5 => k_is); (case l5 => k_is); (case c5 => k_is); (case k5 => k_is); (case a6 => k_is); (case i6 => k_is); (case mk0 => k_is); (case kc0 => k_is); (case l6 => k_is); (case c6 => k_is); (case k6 => k_is); (case a7 => k_is); (case i7 => k_is); (case l7 => k_is); (case c7 => k_is); (case k7 => k_is); (case a8 => k_is); (case l8 => k_is); (case c8 => k_is); (case k8 => k_is); (case a9 => k_is); (case l9 => k_is); (case c9 => k_is); (case k9 => k_is); (case a10 => k_is); (case l10 => k_is); (case c10 => k_is); (case k10 => k_is); (case a11 => k_is); (case l11 => k_is); (case c11 => k_is); (case k11 => k_is); (case a12 => k_is); (case i12 => k_is); (case mk1 => k_is); (case kc1 => k_is); (case l12 => k_is); (case c12 => k_is); (case k12 => k_is); (case a13 => k_is); (case i13 => k_is); (case l13 => k_is); (case c13 => k_is); (case k13 => k_is); (case a14 => k_is); (case l14 => k_is); (case c14 => k_is); (case k14 => k_is); (case a15 => k_is); (case l15 => k_is); (case c15 => k_is); (case k15 => k_is); (case a16 => k_is); (case l16 => k_is); (case c16 => k_is); (case k16 => k_is); (case a17 => k_is); (case l17 => k_is); (case c17 => k_is); (case k17 => k_is); (case a18 => k_is); (case l18 => k_is); (case c18 => k_is); (case k18 => k_is); (case a19 => k_is); (case l19 => k_is); (case c19 => k_is); (case k19 => k_is); (case a20 => k_is); (case l20 => k_is); (case c20 => k_is); (case k20 => k_is); (case a21 => k_is); (case l21 => k_is); (case c21 => k_is); (case k21 => k_is); (case a22 => k_is); (case l22 => k_is); (case c22 => k_is); (case k22 => k_is); (case a23 => k_is); (case l23 => k_is); (case c23 => k_is); (case k23 => k_is); (case a24 => k_is); (case l24 => k_is); (case c24 => k_is); (case k24 => k_is); (case a25 => k_is); (case l25 => k_is); (case c25 => k_is); (case k25 => k_is); (case z0 => k_is); (case z1 => k_is); (case z2 => k_is); (case z3 => k_is); (case z4 => k_is); (case z5 => k_is); (case z6 => k_is); (case z7 => k_is); (case z8 => k_is); (case z9 => k_is); (case z10 => k_is); (case y0 => k_is); (case y1 => k_is); (case y2 => k_is)
