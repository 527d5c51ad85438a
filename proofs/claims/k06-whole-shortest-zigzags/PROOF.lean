import PyProof.Rows.All
import Wide.All
import OpenK.AllK
import Wide.FinOn
import HandS.ForMost
import HandS.SortInts
import HandS.Style
import HandS.IsInst
import HandS.Flow
import HandS.Conv
import HandS.Codes
import PyProof.Draws
import PyProof.EnumMake
import HandS.Walk
import HandS.Strs
import HandS.More
import HandS.Text
import HandS.Small
import PySem.Challenge.RW_watchedways_k06_whole_shortest_zigzags
set_option Elab.async false
set_option linter.all false
set_option maxRecDepth 100000
set_option maxHeartbeats 4000000
/-! Readings by their heads: one lemma a combinator, so that a reading is walked by its own shape. -/
namespace Rd
open PySem PySem.Spec PyProof.Rows L2
variable {X : Cx} {D : Ends} {σ : L2.St} {H : Hp} {K : PySem.W.Frag}
/-- a new object is laid -/
def NewQ (o : HO) (Q : VK) (H : Hp) : Prop := ∀ p, H p = none → Q (.ref p) (upd H p o)
theorem new {o : HO} {Q : VK} (h : ∀ (p : Addr) (G : Hp), H p = none → G p = some o → Same H G → Q (.ref p) G) : NewQ o Q H :=
  fun p hp => h p _ hp upd_same fun b u e => by rw [upd_ne (ne_of_none e hp)]; exact e
theorem seq {t u : TS} (h : t { D with nx := u D } σ H) : tSeq t u D σ H := h
theorem cut {t u : TS} (Mid : L2.St → Hp → Prop) (h : t { D with nx := Mid } σ H) (h2 : ∀ σ' H', Mid σ' H' → u D σ' H') : C8.tCut t u D σ H := ⟨Mid, h, h2⟩
theorem nxt (h : D.nx σ H) : tNext D σ H := h
theorem asg {te : TE} {g : TG} (h : te σ H fun x H1 => g x σ H1 D.nx) : tAsg te g D σ H := h
theorem name {i : Nat} {v : V} {Q : L2.St → Hp → Prop} (h : Q (σ.set i (some v)) H) : gName i v σ H Q := h
theorem ret {te : TE} (h : te σ H D.rt) : tRet te D σ H := h
theorem retN (h : D.rt .non H) : tRetN D σ H := h
theorem drop {te : TE} (h : te σ H fun _ H1 => D.nx σ H1) : tDrop te D σ H := h
theorem ifS {c : TT} {t u : TS} (h : c σ H fun b H1 => if b = true then t D σ H1 else u D σ H1) : tIfS c t u D σ H := h
theorem brk (h : D.bk σ H) : tBreak D σ H := h
theorem cont (h : D.ct σ H) : tCont D σ H := h
theorem var {i : Nat} {v : V} {Q : VK} (e : σ[i]? = some (some v)) (h : Q v H) : tVar i σ H Q := ⟨v, e, h⟩
theorem con {v : V} {Q : VK} (h : Q v H) : tC v σ H Q := h
theorem op {r : R2} {ta tb : TE} {Q : VK} (h : ta σ H fun x H1 => tb σ H1 fun y H2 => r x y H2 Q) : tOp r ta tb σ H Q := h
theorem un {r : V → Hp → VK → Prop} {ta : TE} {Q : VK} (h : ta σ H fun x H1 => r x H1 Q) : tUn r ta σ H Q := h
theorem test {t : TE} {Q : Bool → Hp → Prop} (h : t σ H fun x H' => ∃ k, x = .bl k ∧ Q k H') : tTest t σ H Q := h
theorem tstB {t : TE} {Q : Bool → Hp → Prop} (h : t σ H fun x H' => ∃ k, x = .bl k ∧ Q k H') : tB t σ H Q := h
theorem bl {k : Bool} {Q : Bool → Hp → Prop} (h : Q k H) : ∃ k', V.bl k = .bl k' ∧ Q k' H := ⟨k, rfl, h⟩
theorem and {t u : TT} {Q : Bool → Hp → Prop} (h : t σ H fun c H1 => if c = true then u σ H1 Q else Q false H1) : tAnd t u σ H Q := h
theorem or {t u : TT} {Q : Bool → Hp → Prop} (h : t σ H fun c H1 => if c = true then Q true H1 else u σ H1 Q) : tOr t u σ H Q := h
theorem not {t : TT} {Q : Bool → Hp → Prop} (h : t σ H fun c H1 => Q (!c) H1) : tNot t σ H Q := h
theorem andV {ta tb : TE} {Q : VK} (h : ta σ H fun x H1 => ∃ c, x = .bl c ∧ if c = true then tb σ H1 Q else Q (.bl false) H1) : tAndV ta tb σ H Q := h
theorem orV {ta tb : TE} {Q : VK} (h : ta σ H fun x H1 => ∃ c, x = .bl c ∧ if c = true then Q (.bl true) H1 else tb σ H1 Q) : tOrV ta tb σ H Q := h
theorem notV {ta : TE} {Q : VK} (h : ta σ H fun x H1 => ∃ c, x = .bl c ∧ Q (.bl (!c)) H1) : tNotV ta σ H Q := h
theorem ifE {t : TT} {ta tb : TE} {Q : VK} (h : t σ H fun c H1 => if c = true then ta σ H1 Q else tb σ H1 Q) : tIf t ta tb σ H Q := h
theorem nil {Q : List V → Hp → Prop} (h : Q [] H) : tNil σ H Q := h
theorem cons {ta : TE} {tr : TA} {Q : List V → Hp → Prop} (h : ta σ H fun x H1 => tr σ H1 fun xs H2 => Q (x :: xs) H2) : tCons ta tr σ H Q := h
theorem tup {t : TA} {Q : VK} (h : t σ H fun xs H1 => xs.length ≤ sizeLine ∧ NewQ (.tup xs) Q H1) : tTup t σ H Q := h
theorem lst {t : TA} {Q : VK} (h : t σ H fun xs H1 => xs.length ≤ sizeLine ∧ NewQ (.lst xs) Q H1) : tLst t σ H Q := h
theorem cb {r : List V → Hp → VK → Prop} {t : TA} {Q : VK} (h : t σ H fun vs H1 => r vs H1 Q) : tCB r t σ H Q := h
theorem call {sp : Sp} {dvs : List V} {E : XK} {t : TA} {Q : VK} (h : t σ H fun vs H1 => sp (vs ++ dvs) H1 Q E) : tCall sp dvs E t σ H Q := h
theorem chain {r r' : R2} {ta tb tc : TE} {Q : VK} (h : ta σ H fun x H1 => tb σ H1 fun y H2 => r x y H2 fun z H3 => ∃ k, z = .bl k ∧ (if k = true then tc σ H3 fun w' H4 => r' y w' H4 Q else Q (.bl false) H3)) : tChain r r' ta tb tc σ H Q := h
theorem blE {k : Bool} {P : Bool → Prop} (h : P k) : ∃ k', V.bl k = .bl k' ∧ P k' := ⟨k, rfl, h⟩
theorem i0 {g : Int → Int → V} {i j : Int} {Q : VK} (h : Q (g i j) H) : rI0 g (.int i) (.int j) H Q := ⟨i, j, rfl, rfl, h⟩
theorem iC {C : Int → Int → Prop} {g : Int → Int → V} {i j : Int} {Q : VK} (c : C i j) (h : Q (g i j) H) : rI C g (.int i) (.int j) H Q := ⟨i, j, rfl, rfl, c, h⟩
theorem u1 {g : Int → V} {i : Int} {Q : VK} (h : Q (g i) H) : rU g (.int i) H Q := ⟨i, rfl, h⟩
theorem eqI {i j : Int} {Q : VK} (h : Q (.bl (decide (i = j))) H) : rEq (.int i) (.int j) H Q := ⟨rfl, by rw [show decide (V.int i = V.int j) = decide (i = j) by simp]; exact h⟩
theorem neI {i j : Int} {Q : VK} (h : Q (.bl (!decide (i = j))) H) : rNe (.int i) (.int j) H Q := ⟨rfl, by rw [show decide (V.int i = V.int j) = decide (i = j) by simp]; exact h⟩
theorem eqB {i j : Bool} {Q : VK} (h : Q (.bl (i == j)) H) : rEq (.bl i) (.bl j) H Q := ⟨rfl, by rw [dec_bl]; exact h⟩
theorem neB {i j : Bool} {Q : VK} (h : Q (.bl (i != j)) H) : rNe (.bl i) (.bl j) H Q := ⟨rfl, by rw [dec_bl]; exact h⟩
theorem eqS {i j : Str} {Q : VK} (h : Q (.bl (decide (i = j))) H) : rEq (.str i) (.str j) H Q := ⟨rfl, by rw [show decide (V.str i = V.str j) = decide (i = j) by simp]; exact h⟩
theorem neS {i j : Str} {Q : VK} (h : Q (.bl (!decide (i = j))) H) : rNe (.str i) (.str j) H Q := ⟨rfl, by rw [show decide (V.str i = V.str j) = decide (i = j) by simp]; exact h⟩
theorem iteb {c A B : Prop} [Decidable c] (h : if c then A else B) : if decide c = true then A else B := by
  by_cases q : c
  · rw [if_pos q] at h; rw [if_pos (decide_eq_true q)]; exact h
  · rw [if_neg q] at h; rw [if_neg (by simpa using q)]; exact h
theorem iten {c A B : Prop} [Decidable c] (h : if c then B else A) : if (!decide c) = true then A else B := by
  by_cases q : c
  · rw [if_pos q] at h; rw [if_neg (by simpa using q)]; exact h
  · rw [if_neg q] at h; rw [if_pos (by simpa using q)]; exact h
theorem itbn {b : Bool} {A B : Prop} (h : if b = true then B else A) : if (!b) = true then A else B := by
  cases b with
  | true => rw [if_neg (by decide)]; rw [if_pos rfl] at h; exact h
  | false => rw [if_pos (by rfl : (!false) = true)]; rw [if_neg (by decide)] at h; exact h
theorem a1 {a : Int} {P : Int → Prop} (h : P a) : ∃ i, [V.int a] = [V.int i] ∧ P i := ⟨a, rfl, h⟩
theorem a2 {a b : Int} {P : Int → Int → Prop} (h : P a b) : ∃ i j, [V.int a, V.int b] = [V.int i, V.int j] ∧ P i j := ⟨a, b, rfl, h⟩
theorem v2 {a b : V} {P : V → V → Prop} (h : P a b) : ∃ i j, [a, b] = [i, j] ∧ P i j := ⟨a, b, rfl, h⟩
theorem int1 {a : Int} {P : Int → Prop} {R : Prop} (h : P a) : (∃ i, [V.int a] = [V.int i] ∧ P i) ∨ R := .inl ⟨a, rfl, h⟩
theorem par {i j : Nat} {ta : TA} (h : ta σ H fun vs H1 => ∃ v w, vs = [v, w] ∧ D.nx ((σ.set i (some v)).set j (some w)) H1) : tPar i j ta D σ H := h
theorem sub {to ti : TE} {t : TSet} {v : V} {Q : L2.St → Hp → Prop} (h : to σ H fun o H1 => ti σ H1 fun i H2 => t o i v H2 fun H3 => Q σ H3) : gSub to ti t v σ H Q := h
theorem forS {wi : TI} {g : TG} {tb : TS} (h : wi σ H fun J H1 => ∃ W : Nat → Nat → L2.St → Hp → Prop, (∃ m, W 0 m σ H1) ∧ ∀ i m σ H, W i m σ H →
  (J.stop i H ∧ D.nx σ H) ∨ (J.go i H ∧ ∃ N : L2.St → Hp → Prop, (∀ σ' H', N σ' H' → ∃ m', m' < m ∧ W (i + 1) m' σ' H') ∧ ∀ x H', J.yld i H x H' → g x σ H' fun σ2 H2 => tb { D with nx := N, ct := N, bk := D.nx } σ2 H2)) : tFor wi g tb D σ H := h
theorem iter {tl : TE} {R : It → Hp → Prop} (h : tl σ H fun x H1 => ∃ a, x = .ref a ∧ (∃ xs, SqL K H1 a xs) ∧ R (Itl K a) H1) : iList K tl σ H R := h
theorem iterT {tl : TE} {R : It → Hp → Prop} (h : tl σ H fun x H1 => ∃ a, x = .ref a ∧ (∃ xs, SqT K H1 a xs) ∧ R (Itt K a) H1) : iTup K tl σ H R := h
theorem rng1 {ta : TA} {R : It → Hp → Prop} (h : ta σ H fun vs H1 => ∃ j : Int, vs = [.int j] ∧ -(2 ^ 62) ≤ j ∧ j < 2 ^ 62 ∧ R (Itr 0 j.toNat) H1) : iRng1 ta σ H R := h
theorem refE {a : Addr} {P : Addr → Prop} (h : P a) : ∃ b, V.ref a = .ref b ∧ P b := ⟨a, rfl, h⟩
theorem aug {i : Nat} {te : TE} {ti : TIp} {x : V} (e : σ[i]? = some (some x)) (h : te σ H fun y H1 => ti x y H1 fun z H2 => D.nx (σ.set i (some z)) H2) : tAug i te ti D σ H := ⟨x, e, h⟩
theorem ipi {f : Int → Int → Int} {i j : Int} {Q : VK} (h : Q (.int (f i j)) H) : ipI f (.int i) (.int j) H Q := ⟨i, j, rfl, rfl, h⟩
theorem whl {c : TT} {tb : TS} (W : Nat → L2.St → Hp → Prop) (h0 : ∃ m, W m σ H) (hs : ∀ m σ H, W m σ H → c σ H fun b H1 => if b = true then ∃ N : L2.St → Hp → Prop, (∀ σ' H', N σ' H' → ∃ m', m' < m ∧ W m' σ' H') ∧ tb { D with nx := N, ct := N, bk := D.nx } σ H1 else D.nx σ H1) : tWhile c tb D σ H := ⟨W, h0, hs⟩
theorem whN {m : Nat} {W : Nat → L2.St → Hp → Prop} {P : (L2.St → Hp → Prop) → Prop} (h : P (fun σ' H' => ∃ m', m' < m ∧ W m' σ' H')) : ∃ N, (∀ σ' H', N σ' H' → ∃ m', m' < m ∧ W m' σ' H') ∧ P N := ⟨_, fun _ _ h => h, h⟩
/-- an item of a list at a place -/
theorem ixL {p : Addr} {xs : List V} {i : Int} {v : V} {Q : VK} (hp : SqL K H p xs) (e : atI xs i = some v) (h : Q v H) : rIxL K (.ref p) (.int i) H Q := ⟨p, xs, i, v, rfl, rfl, hp, e, h⟩
theorem ixT {p : Addr} {xs : List V} {i : Int} {v : V} {Q : VK} (hp : SqT K H p xs) (e : atI xs i = some v) (h : Q v H) : rIxT K (.ref p) (.int i) H Q := ⟨p, xs, i, v, rfl, rfl, hp, e, h⟩
theorem setL {p : Addr} {xs : List V} {k : Int} {j : Nat} {v : V} {Q : Hp → Prop} (hp : H p = some (.lst xs)) (e : ixN xs.length k = some j) (h : Q (upd H p (.lst (xs.set j v)))) : rSetL (.ref p) (.int k) v H Q := ⟨p, xs, k, j, rfl, rfl, hp, e, h⟩
/-- a store into a list: behind it a heap G of which this is known -/
theorem setG {p : Addr} {xs ys : List V} {k : Int} {j : Nat} {v : V} {Q : Hp → Prop} (hp : H p = some (.lst xs)) (e : ixN xs.length k = some j) (hy : xs.set j v = ys) (h : ∀ G : Hp, G p = some (.lst ys) → (∀ b, b ≠ p → G b = H b) → Q G) : rSetL (.ref p) (.int k) v H Q :=
  ⟨p, xs, k, j, rfl, rfl, hp, e, hy ▸ h _ upd_same fun b hb => upd_ne hb⟩
/-! ### calls of built-ins and methods, by name -/
def nLen (K : PySem.W.Frag) : List V → Hp → VK → Prop := fun xs H Q => ∃ p ys, xs = [.ref p] ∧ (SqL K H p ys ∨ SqT K H p ys) ∧ Q (.int ys.length) H
theorem c_len : CallR X (.builtin "len") (nLen X.K) := call_len_seq
theorem len {p : Addr} {ys : List V} {Q : VK} (hp : SqL K H p ys ∨ SqT K H p ys) (h : Q (.int ys.length) H) : nLen K [.ref p] H Q := ⟨p, ys, rfl, hp, h⟩
def nLenS : List V → Hp → VK → Prop := fun xs H Q => ∃ z : Str, xs = [.str z] ∧ z.length ≤ sizeLine ∧ Q (.int z.length) H
theorem c_lenS : CallR X (.builtin "len") nLenS := call_len_str
theorem lenStr {z : Str} {Q : VK} (hz : z.length ≤ sizeLine) (h : Q (.int z.length) H) : nLenS [.str z] H Q := ⟨z, rfl, hz, h⟩
def nListOf (K : PySem.W.Frag) : List V → Hp → VK → Prop := fun xs H Q => ∃ p ys, xs = [.ref p] ∧ (SqL K H p ys ∨ SqT K H p ys) ∧ NewQ (.lst ys) Q H
theorem c_listOf : CallR X (.type "list") (nListOf X.K) := call_list_of
theorem listOf {p : Addr} {ys : List V} {Q : VK} (hp : SqL K H p ys ∨ SqT K H p ys) (h : NewQ (.lst ys) Q H) : nListOf K [.ref p] H Q := ⟨p, ys, rfl, hp, h⟩
def nTupOf (K : PySem.W.Frag) : List V → Hp → VK → Prop := fun xs H Q => ∃ p ys, xs = [.ref p] ∧ ((SqL K H p ys ∧ NewQ (.tup ys) Q H) ∨ (SqT K H p ys ∧ Q (.ref p) H))
theorem c_tupOf : CallR X (.type "tuple") (nTupOf X.K) := call_tuple_of
theorem tupOf {p : Addr} {ys : List V} {Q : VK} (hp : SqL K H p ys) (h : NewQ (.tup ys) Q H) : nTupOf K [.ref p] H Q := ⟨p, ys, rfl, .inl ⟨hp, h⟩⟩
def nInt : List V → Hp → VK → Prop := fun xs H Q => (∃ i, xs = [.int i] ∧ Q (.int i) H) ∨ ∃ k, xs = [.bl k] ∧ Q (.int (if k then 1 else 0)) H
theorem c_int : CallR X (.type "int") nInt := call_int1
theorem int {i : Int} {Q : VK} (h : Q (.int i) H) : nInt [.int i] H Q := .inl ⟨i, rfl, h⟩
theorem intB {k : Bool} {Q : VK} (h : Q (.int (if k then 1 else 0)) H) : nInt [.bl k] H Q := .inr ⟨k, rfl, h⟩
def nAbs : List V → Hp → VK → Prop := fun xs H Q => ∃ i, xs = [.int i] ∧ Q (.int (if i < 0 then -i else i)) H
theorem c_abs : CallR X (.builtin "abs") nAbs := call_abs
theorem abs {i : Int} {Q : VK} (h : Q (.int (i.natAbs : Int)) H) : nAbs [.int i] H Q := ⟨i, rfl, by rw [show (if i < 0 then -i else i) = (i.natAbs : Int) by split <;> omega]; exact h⟩
def nMax2 : List V → Hp → VK → Prop := fun xs H Q => ∃ i j, xs = [.int i, .int j] ∧ Q (.int (if j > i then j else i)) H
theorem c_max2 (hc : X.calm = true) : CallR X (.builtin "max") nMax2 := call_max2 hc
theorem max2 {i j : Int} {Q : VK} (h : Q (.int (max i j)) H) : nMax2 [.int i, .int j] H Q := ⟨i, j, rfl, by rw [show (if j > i then j else i) = max i j by rw [Int.max_def]; split <;> split <;> omega]; exact h⟩
def nMin2 : List V → Hp → VK → Prop := fun xs H Q => ∃ i j, xs = [.int i, .int j] ∧ Q (.int (if j < i then j else i)) H
theorem c_min2 (hc : X.calm = true) : CallR X (.builtin "min") nMin2 := call_min2 hc
theorem min2 {i j : Int} {Q : VK} (h : Q (.int (min i j)) H) : nMin2 [.int i, .int j] H Q := ⟨i, j, rfl, by rw [show (if j < i then j else i) = min i j by rw [Int.min_def]; split <;> split <;> omega]; exact h⟩
theorem bm {T : String} {r : V → List V → Hp → VK → Prop} {to : TE} {t : TA} {Q : VK} (h : to σ H fun x H1 => tyV K T x H1 ∧ t σ H1 fun xs H2 => r x xs H2 Q) : tBM K T r to t σ H Q := h
theorem bm0 {T : String} {r : V → List V → Hp → VK → Prop} {to : TE} {Q : VK} (h : to σ H fun x H1 => tyV K T x H1 ∧ r x [] H1 Q) : tBM0 K T r to σ H Q := h
theorem tyL {a : Addr} {xs : List V} {R : Prop} (h : SqL K H a xs) (r : R) : tyV K "list" (.ref a) H ∧ R := ⟨.inl ⟨rfl, _, h⟩, r⟩
theorem app {l : Addr} {xs : List V} {y : V} {Q : VK} (hp : H l = some (.lst xs)) (hz : xs.length < sizeLine) (h : ∀ G : Hp, G l = some (.lst (xs ++ [y])) → (∀ b, b ≠ l → G b = H b) → Q .non G) : rAppend (.ref l) [y] H Q :=
  ⟨l, xs, y, rfl, rfl, hp, hz, h _ upd_same fun b hb => upd_ne hb⟩
theorem popAt {l : Addr} {xs : List V} {i : Int} {y : V} {Q : VK} (hp : H l = some (.lst xs)) (h0 : 0 ≤ i) (h1 : i < xs.length) (hz : xs.length < 2 ^ 63) (hy : xs[i.toNat]? = some y) (h : ∀ G : Hp, G l = some (.lst (xs.eraseIdx i.toNat)) → (∀ b, b ≠ l → G b = H b) → Q y G) : rPopAt (.ref l) [.int i] H Q :=
  ⟨l, xs, i, i.toNat, y, rfl, rfl, hp, by omega, by omega, by unfold seqIndex?; rw [if_pos (by simp; omega)] <;> simp <;> omega, hy, h _ upd_same fun b hb => upd_ne hb⟩
theorem sl {r : V → Option Int → Option Int → Hp → VK → Prop} {te : TE} {tl th : TO} {Q : VK} (h : te σ H fun x H1 => tl σ H1 fun l H2 => th σ H2 fun u H3 => r x l u H3 Q) : tSl r te tl th σ H Q := h
theorem slL {a : Addr} {xs : List V} {lo hi : Option Int} {Q : VK} (hp : SqL K H a xs) (h : NewQ (.lst (cutV xs lo hi)) Q H) : rSlL K (.ref a) lo hi H Q := ⟨a, xs, rfl, hp, h⟩
theorem slS {z : Str} {lo hi : Option Int} {Q : VK} (hz : z.length ≤ sizeLine) (h : Q (.str (cutS z lo hi)) H) : rSlS (.str z) lo hi H Q := ⟨z, rfl, hz, h⟩
theorem cat {l b : Addr} {xs zs : List V} {Q : VK} (h1 : H l = some (.lst xs)) (h2 : H b = some (.lst zs)) (hz : xs.length + zs.length ≤ sizeLine) (h : NewQ (.lst (xs ++ zs)) Q H) : rCat (.ref l) (.ref b) H Q := ⟨l, b, xs, zs, rfl, rfl, h1, h2, hz, h⟩
theorem rep {l : Addr} {xs : List V} {k : Int} {Q : VK} (h1 : H l = some (.lst xs)) (h0 : -(2 ^ 63) ≤ k) (hk : k < 2 ^ 63) (hz : xs.length * k.toNat ≤ sizeLine) (h : NewQ (.lst (List.replicate k.toNat xs).flatten) Q H) : rRep (.ref l) (.int k) H Q := ⟨l, k, xs, rfl, rfl, h1, h0, hk, hz, h⟩
theorem revL {te : TE} {Q : VK} (h : te σ H fun x H1 => ∃ a xs, x = .ref a ∧ SqL K H1 a xs ∧ NewQ (.lst xs.reverse) Q H1) : tRevL K te σ H Q := h
theorem refX {a : Addr} {xs : List V} {P : List V → Prop} (h : SqL K H a xs) (q : P xs) : ∃ b ys, V.ref a = .ref b ∧ SqL K H b ys ∧ P ys := ⟨a, xs, rfl, h, q⟩
theorem sum {a : Addr} {ns : List Int} {Q : VK} (hp : SqL K H a (ns.map V.int)) (h : Q (.int ns.sum) H) : rSum K [.ref a] H Q := ⟨a, ns, rfl, hp, h⟩
theorem all {a : Addr} {bs : List Bool} {Q : VK} (hp : SqL K H a (bs.map V.bl)) (h : Q (.bl (bs.all id)) H) : rAll K [.ref a] H Q := ⟨a, bs, rfl, hp, h⟩
theorem any {a : Addr} {bs : List Bool} {Q : VK} (hp : SqL K H a (bs.map V.bl)) (h : Q (.bl (bs.any id)) H) : rAny K [.ref a] H Q := ⟨a, bs, rfl, hp, h⟩
theorem sortedI {a : Addr} {ns : List Int} {Q : VK} (hp : SqL K H a (ns.map V.int)) (h : ∀ (ms : List Int) (p : Addr) (G : Hp), ms.Perm ns → ms.Pairwise (· ≤ ·) → G p = some (.lst (ms.map V.int)) → Same H G → H p = none → Q (.ref p) G) : rSortedI K [.ref a] H Q :=
  ⟨a, ns, rfl, hp, fun ms p h1 h2 h3 => h ms p _ h1 h2 upd_same (fun b u e => by rw [upd_ne (ne_of_none e h3)]; exact e) h3⟩
theorem inS {neg : Bool} {x : V} {p : Addr} {xs : List V} {Q : VK} (hp : SqL K H p xs ∨ SqT K H p xs) (h1 : flatV x = true) (h2 : xs.all flatV = true) (h : Q (.bl (if neg then !inV x xs else inV x xs)) H) : rIn K neg x (.ref p) H Q := ⟨p, xs, rfl, hp, h1, h2, h⟩
theorem part {te : TE} {Q : Option Int → Hp → Prop} (h : te σ H fun x H1 => ∃ i, x = .int i ∧ Q (some i) H1) : tPart te σ H Q := h
theorem noPart {Q : Option Int → Hp → Prop} (h : Q none H) : tNoPart σ H Q := h
theorem poS {te : TE} {Q : Option Int → Hp → Prop} {i : Int} (h : te σ H fun x H1 => ∃ i, x = .int i ∧ Q (some i) H1) : te σ H fun x H1 => ∃ i, x = .int i ∧ Q (some i) H1 := h
theorem tupT {a : Addr} {xs : List V} {n : Nat} {t : TGs} {Q : L2.St → Hp → Prop} (hp : SqT K H a xs) (hn : xs.length = n) (h : t xs σ H Q) : gTup K n t (.ref a) σ H Q := ⟨a, xs, rfl, hp, hn, h⟩
theorem gcons {t : TG} {u : TGs} {v : V} {r : List V} {Q : L2.St → Hp → Prop} (h : t v σ H fun σ' H' => u r σ' H' Q) : gCons t u (v :: r) σ H Q := ⟨v, r, rfl, h⟩
theorem gnil {Q : L2.St → Hp → Prop} (h : Q σ H) : gNil [] σ H Q := ⟨rfl, h⟩
theorem last2 {ms : List Int} (h : 2 ≤ ms.length) : ∃ s b a, ms = s ++ [b, a] := by
  rcases List.eq_nil_or_concat ms with e | ⟨t, a, e⟩
  · subst e; simp at h
  · rcases List.eq_nil_or_concat t with e2 | ⟨s, b, e2⟩
    · subst e2; subst e; simp at h
    · exact ⟨s, b, a, by rw [e, e2]; simp⟩
theorem cut_last2 (s : List Int) (b a : Int) : cutV ((s ++ [b, a]).map V.int) (some (-2)) none = [b, a].map V.int := by
  have e : HT.sIx ((s ++ [b, a]).map V.int).length 0 (some (-2)) = (s.map V.int).length := by
    unfold HT.sIx
    simp
    omega
  have e2 : HT.sIx ((s ++ [b, a]).map V.int).length ((s ++ [b, a]).map V.int).length none = ((s ++ [b, a]).map V.int).length := rfl
  unfold cutV
  rw [e, e2, List.map_append, List.drop_left, List.length_append]
  exact List.take_of_length_le (by simp)
theorem rep_map (k : Nat) (b : Bool) : (List.replicate k [V.bl b]).flatten = (List.replicate k b).map V.bl := by
  induction k with
  | zero => rfl
  | succ k ih => rw [List.replicate_succ, List.flatten_cons, ih, List.replicate_succ]; rfl
theorem map_set {α β : Type} (f : α → β) (l : List α) (i : Nat) (x : α) : (l.map f).set i (f x) = (l.set i x).map f := by rw [List.map_set]
theorem enx {a b c : L2.St → Hp → Prop} {r : VK} (h : a σ H) : (Ends.mk a r b c).nx σ H := h
theorem ebk {a b c : L2.St → Hp → Prop} {r : VK} (h : b σ H) : (Ends.mk a r b c).bk σ H := h
theorem ect {a b c : L2.St → Hp → Prop} {r : VK} (h : c σ H) : (Ends.mk a r b c).ct σ H := h
theorem ert {a b c : L2.St → Hp → Prop} {r : VK} {v : V} (h : r v H) : (Ends.mk a r b c).rt v H := h
theorem intE {i : Int} {P : Int → Prop} (h : P i) : ∃ j, V.int i = .int j ∧ P j := ⟨i, rfl, h⟩
theorem atI_of {α : Type} {xs : List α} {i : Int} {v : α} (h0 : 0 ≤ i) (e : xs[i.toNat]? = some v) : atI xs i = some v := by
  have h := atI_nat e
  rw [show ((i.toNat : Nat) : Int) = i by omega] at h
  exact h
theorem ixN_of {n : Nat} {i : Int} (h0 : 0 ≤ i) (h1 : i < n) : ixN n i = some i.toNat := by
  unfold ixN
  rw [if_pos h0, if_pos h1]
theorem map_int {ns : List Int} {i : Nat} (h : i < ns.length) : (ns.map V.int)[i]? = some (.int ns[i]) := by simp [h]
theorem map_get {ns : List Int} {i : Nat} {x : V} (h : (ns.map V.int)[i]? = some x) : ∃ n, ns[i]? = some n ∧ x = .int n := by
  rw [List.getElem?_map] at h
  cases e : ns[i]? with
  | none => rw [e] at h; cases h
  | some z => rw [e] at h; exact ⟨z, rfl, (Option.some.inj h).symm⟩
theorem take_snoc {α : Type} {l : List α} {i : Nat} {x : α} (h : l[i]? = some x) : l.take (i + 1) = l.take i ++ [x] := by
  rw [List.take_succ, h]
  rfl
theorem upd_at {a : Addr} {o : HO} {b : Addr} (h : b = a) : upd H a o b = some o := by subst h; exact upd_same
/-- all but what stands at a is kept -/
def But (a : Addr) (H H' : Hp) : Prop := ∀ b o, b ≠ a → H b = some o → H' b = some o
theorem But.refl (a : Addr) (H : Hp) : But a H H := fun _ _ _ e => e
theorem But.trans {a : Addr} {H H1 H2 : Hp} (x : But a H H1) (y : But a H1 H2) : But a H H2 := fun b o n e => y b o n (x b o n e)
theorem But.same {a : Addr} {H H1 H2 : Hp} (x : But a H H1) (y : Same H1 H2) : But a H H2 := fun b o n e => y b o (x b o n e)
theorem But.of {a : Addr} {H H1 : Hp} (y : Same H H1) : But a H H1 := fun b o _ e => y b o e
theorem But.free {a : Addr} {H H1 : Hp} (x : But a H H1) {l : Addr} (n : l ≠ a) (h : H1 l = none) : H l = none := by
  cases q : H l with
  | none => rfl
  | some o =>
    have := x l o n q
    rw [h] at this
    cases this
theorem But.upd {a : Addr} {H H1 : Hp} {o : HO} (x : But a H H1) : But a H (upd H1 a o) := fun b u n e => by rw [upd_ne n]; exact x b u n e
theorem same_upd {H : Hp} {p : Addr} {o : HO} (h : H p = none) : Same H (upd H p o) := fun b u e => by rw [upd_ne (ne_of_none e h)]; exact e
end Rd

/-! Further rules: enumerate and sorted of a tuple; one of two ways to walk. -/
namespace Ru
open PySem PyProof.Rows
open PySem.AutoSeq1 (wpAny_loadPart')
section
variable {prog : Program} {w : World} {A : Around} {E : Value → Shared → Prop} {s : Shared}
theorem nextOf_tup {it t : Addr} {i : Nat} {items : Array Value} {x : Value} {Q : Value → Shared → Prop} (hit : s.heap.IsTupleIter it t i) (ht : s.heap.IsTuple t items) (hx : items[i]? = some x)
    (hQ : ∀ h', h'.IsTupleIter it t (i + 1) → Heap.SameBut it s.heap h' → Q x { s with heap := h' }) : wpAny (model prog w) A (Builtin.SmallTypes.nextOf (.ref it)) Q E s := by
  obtain ⟨oi, hoi, hci, hdi⟩ := id hit
  obtain ⟨ot, hot, _, nt, hdt⟩ := ht
  unfold Builtin.SmallTypes.nextOf
  refine wpAny_bind (wpAny_callSpecial?_slot (name := Str.ofString "__next__") hit.typeIs F.slot_tuple_iterator_next (wpAny_call_entry F.slot_tuple_iterator_next hit.typeIs F.entry_tuple_iterator_next ?_ (F.args_tuple_iterator_next_1 _)))
  show wpAny _ _ (field (.ref it) 0 >>= _) _ _ s
  refine wpAny_bind (wpAny_field hoi hdi (x := .ref t) rfl ?_)
  show wpAny _ _ (if (Value.ref t == Value.none) = true then _ else _) _ _ s
  rw [if_neg (show ¬ ((Value.ref t == Value.none) = true) from Bool.false_ne_true)]
  show wpAny _ _ (field (.ref it) 1 >>= _) _ _ s
  refine wpAny_bind (wpAny_field hoi hdi (x := .int i 0) rfl ?_)
  show wpAny _ _ (seqItems? (.ref t) >>= _) _ _ s
  refine wpAny_bind (wpAny_seqItems hot hdt ?_)
  simp only [Int.toNat_natCast, hx]
  refine wpAny_bind (wpAny_setField hoi hdi (by simp) (wpAny_pure ⟨x, rfl, wpAny_pure (hQ _ ?_ (Heap.SameBut.update ..))⟩))
  exact ⟨_, Heap.get?_update_self _ hoi (Obj.isFreed_of_fields (Obj.data_mapFields hdi _)), (Obj.cls_mapFields ..).trans hci, by rw [Obj.data_mapFields hdi]; simp [rawInt]⟩
theorem nextOf_tup_end {it t : Addr} {i : Nat} {items : Array Value} {Q : Value → Shared → Prop} (hh : A.handled = none) (hit : s.heap.IsTupleIter it t i) (ht : s.heap.IsTuple t items) (hx : items[i]? = none)
    (hE : ∀ h' e, Heap.ExtBut it s.heap h' → (∃ o, h'.get? e = some o ∧ o.cls = .type "StopIteration") → E (.ref e) { s with heap := h' }) : wpAny (model prog w) A (Builtin.SmallTypes.nextOf (.ref it)) Q E s := by
  obtain ⟨oi, hoi, hci, hdi⟩ := id hit
  obtain ⟨ot, hot, _, nt, hdt⟩ := ht
  unfold Builtin.SmallTypes.nextOf
  refine wpAny_bind (wpAny_callSpecial?_slot (name := Str.ofString "__next__") hit.typeIs F.slot_tuple_iterator_next (wpAny_call_entry F.slot_tuple_iterator_next hit.typeIs F.entry_tuple_iterator_next ?_ (F.args_tuple_iterator_next_1 _)))
  show wpAny _ _ (field (.ref it) 0 >>= _) _ _ s
  refine wpAny_bind (wpAny_field hoi hdi (x := .ref t) rfl ?_)
  show wpAny _ _ (if (Value.ref t == Value.none) = true then _ else _) _ _ s
  rw [if_neg (show ¬ ((Value.ref t == Value.none) = true) from Bool.false_ne_true)]
  show wpAny _ _ (field (.ref it) 1 >>= _) _ _ s
  refine wpAny_bind (wpAny_field hoi hdi (x := .int i 0) rfl ?_)
  show wpAny _ _ (seqItems? (.ref t) >>= _) _ _ s
  refine wpAny_bind (wpAny_seqItems hot hdt ?_)
  simp only [Int.toNat_natCast, hx]
  refine wpAny_bind (wpAny_rule (wpAny_bind (wpAny_setField hoi hdi (by simp) ?_)))
  show wpAny _ _ (newExc (.type "StopIteration") [] >>= _) _ _ _
  refine wpAny_bind ?_
  simp only [newExc, newTuple]
  refine wpAny_bind (wpAny_newObj_type ?_ (by size_fits))
  refine wpAny_bind (m := firstArgMember _ _) (wpAny_of_eq (a := Value.none) (by first | rfl | (simp only [firstArgMember]; rfl)) ?_)
  refine wpAny_newObj_type ?_ (by size_fits)
  simp only [raiseNew]
  refine wpAny_bind (wpAny_handled ?_)
  first | rw [show A.in1.handled = none from hh] | rw [hh]
  refine wpAny_bind (wpAny_pure (wpAny_throw ?_))
  exact hE _ _ (((Heap.SameBut.update ..).extBut.push _).push _) ⟨_, Heap.get?_push_size _ rfl, rfl⟩
end
theorem draws_tup {prog : Program} {w : World} {A : Around} (hh : A.handled = none) (it t : Addr) (hne : t ≠ it) (items : Array Value) :
    Draws prog w A it [it, t] items.size (fun i v => items[i]? = some v) (fun i h => h.IsTupleIter it t i ∧ h.IsTuple t items) where
  live := fun _ _ st => let ⟨o, ho, _⟩ := st.1; ⟨o, ho⟩
  frame := fun _ _ _ st hk => ⟨let ⟨o, ho, r⟩ := st.1; ⟨o, hk it (by simp) o ho, r⟩, let ⟨o, ho, r⟩ := st.2; ⟨o, hk t (by simp) o ho, r⟩⟩
  item := fun i s Q E hi st hQ => by
    refine nextOf_tup st.1 st.2 (x := items[i]) (by simp [hi]) fun h' k1 k2 => ?_
    exact hQ _ h' s.toks (by simp [hi]) ⟨k1, st.2.extBut k2.extBut hne⟩ k2
  done := fun s Q E st hE => nextOf_tup_end hh st.1 st.2 (by simp) hE
theorem meets_enum_tup (l : Addr) (items : Array Value) (n : Nat) (dct : Option Addr) (sl : Array (Option Value)) :
    Meets (Builtin.«enumerate.__new__» ⟨[.type "enumerate", .ref l], []⟩) (fun _ R s => s.heap.get? l = some { cls := .type "tuple", dict := dct, data := .seq items n, slots := sl } ∧
      R (.ok (.ret (.ref (s.heap.push { cls := .type "tuple_iterator", data := .fields #[.ref l, .int 0 0] }).objs.size)))
        { s with heap := (s.heap.push { cls := .type "tuple_iterator", data := .fields #[.ref l, .int 0 0] }).push { cls := .type "enumerate", data := .fields #[.none, .bool false, .ref s.heap.objs.size, rawInt 0, .none, .none] } }) :=
  .of_wp fun prog w A R s h => by
    obtain ⟨hp, g, d, tk, os⟩ := s
    obtain ⟨hl, h⟩ := h
    have hsub := sub_enumerate
    have hL : Heap.IsTuple (Shared.heap ⟨hp, g, d, tk, os⟩) l items := ⟨_, hl, rfl, n, rfl⟩
    wp_walk using wpAny_loadPart' hl
    refine wpAny_stack_any fun st => wpAny_pure ?_
    split
    · rename_i c _ _ _ _ _
      cases (c == Value.type "enumerate")
      · wp_walk using wpAny_loadPart' hl, wpAny_pyIter_tuple hL
        exact ⟨_, rfl, h⟩
      · wp_walk using wpAny_loadPart' hl, wpAny_pyIter_tuple hL
        exact ⟨_, rfl, h⟩
    · wp_walk using wpAny_loadPart' hl, wpAny_pyIter_tuple hL
      exact ⟨_, rfl, h⟩
section
variable {prog : Program} {w : World} {A : Around} {E : Value → Shared → Prop} {s : Shared}
theorem call_enum_tup {l : Addr} {items : Array Value} {Q : Value → Shared → Prop} (hL : s.heap.IsTuple l items)
    (h : ∀ h', IsEnum h' (s.heap.objs.size + 1) s.heap.objs.size 0 .none → h'.IsTupleIter s.heap.objs.size l 0 → h'.objs.size = s.heap.objs.size + 2 → (∀ b o, s.heap.get? b = some o → h'.get? b = some o) → Q (.ref (s.heap.objs.size + 1)) { s with heap := h' }) :
    wpAny (model prog w) A (call (.type "enumerate") [.ref l]) Q E s := by
  obtain ⟨⟨c, dct, dt, sl⟩, hl, hc, n, hd⟩ := hL
  replace hc : c = .type "tuple" := hc
  replace hd : dt = .seq items n := hd
  subst hc hd
  refine callType_new F.called_enumerate (by decide) (F.typeCall_enumerate_1 _) (F.newCall_enumerate_1 _) (fun obj => F.args_object_init_2 obj _) F.entry_enumerate_new (meets_enum_tup l items n dct sl) ⟨hl, ?_⟩
  have hz : (s.heap.push { cls := .type "tuple_iterator", data := .fields #[.ref l, .int 0 0] }).objs.size = s.heap.objs.size + 1 := Heap.size_push ..
  show _ ∧ _
  rw [hz]
  have he : IsEnum ((s.heap.push { cls := .type "tuple_iterator", data := .fields #[.ref l, .int 0 0] }).push { cls := .type "enumerate", data := .fields #[.none, .bool false, .ref s.heap.objs.size, rawInt 0, .none, .none] }) (s.heap.objs.size + 1) s.heap.objs.size 0 .none := by
    have q := Heap.get?_push_size (s.heap.push { cls := .type "tuple_iterator", data := .fields #[.ref l, .int 0 0] }) (o := { cls := .type "enumerate", data := .fields #[.none, .bool false, .ref s.heap.objs.size, rawInt 0, .none, .none] }) rfl
    rw [hz] at q
    exact q
  exact ⟨⟨_, he, rfl⟩, h _ he ⟨_, Heap.get?_push_of_some _ (Heap.get?_push_size _ rfl), rfl, rfl⟩ (by rw [Heap.size_push, hz]) fun b o x => Heap.get?_push_of_some _ (Heap.get?_push_of_some _ x)⟩
/-- a tuple is collected into a new list -/
theorem collect_tup {l : Addr} {vs : List Value} {Q : List Value → Shared → Prop} (hl : s.heap.IsTuple l vs.toArray) (hsz : vs.length ≤ sizeLine)
    (h : Q vs { s with heap := (s.heap.push (seqObj "list" #[] 0)).update s.heap.objs.size (Obj.mapSeq (· ++ vs.toArray)) }) : wpAny (model prog w) A (collect (.ref l)) Q E s := by
  obtain ⟨o, ho, hc, n, hd⟩ := id hl
  unfold collect
  refine wpAny_bind (wpAny_runValue (codeAny_builtin entry_proto_collect' ?_))
  show wpAny _ _ (do again (.builtin "list.__iadd__" ⟨[← newList [], .ref l], []⟩)) _ _ s
  refine wpAny_bind (wpAny_newList (wpAny_pure ⟨Code.quiet_builtin _ (by decide +kernel), codeAny_builtin entry_list_iadd' ?_⟩))
  show wpAny _ _ (Builtin.List.listExtendWith (.ref s.heap.objs.size) (.ref l) (.ref s.heap.objs.size)) _ _ { s with heap := s.heap.push (seqObj "list" #[] 0) }
  unfold Builtin.List.listExtendWith
  have ho' : (s.heap.push (seqObj "list" #[] 0)).get? l = some o := Heap.get?_push_of_some _ ho
  refine wpAny_bind (wpAny_typeOf (T := "tuple") ⟨o, ho', hc⟩ ?_)
  have ht : (Value.type "tuple" == Value.type "tuple") = true := by rfl
  rw [if_pos (by rw [ht]; simp)]
  refine wpAny_bind (listItems_at ho' hd ?_)
  refine wpAny_bind (listItems_at (xs := #[]) (n := 0) (Heap.get?_push_size _ rfl) rfl ?_)
  rw [if_neg (by simp)]
  refine wpAny_bind (listUpdate_at (xs := #[]) (n := 0) (Heap.get?_push_size _ rfl) rfl ?_ (Nat.zero_le _) (by show (#[] ++ vs.toArray).size ≤ sizeLine + 1; simp only [Array.size_append, List.size_toArray, List.length_nil]; omega))
  refine wpAny_pure ?_
  show wpAny (model prog w) A (do
      let o ← load s.heap.objs.size
      match o.data with
      | .seq xs _ => pure xs.toList
      | _ => unsupported "internal:collect") Q E { s with heap := (s.heap.push (seqObj "list" #[] 0)).update s.heap.objs.size (Obj.mapSeq (· ++ vs.toArray)) }
  refine wpAny_bind (wpAny_load (get?_update_seq (Heap.get?_push_size _ rfl) _) ?_)
  show wpAny _ _ (pure ((#[] : Array Value) ++ vs.toArray).toList) Q E _
  rw [show ((#[] : Array Value) ++ vs.toArray).toList = vs by simp]
  exact wpAny_pure h
end

section
variable {prog : Program} {w : World} {A : Around} {E : Value → Shared → Prop} {s : Shared}
open SrtO in
/-- sorted of a tuple: the new list stands at size + 1 -/
theorem sorted_tup {l : Addr} {vs : List Value} {ltv : Value → Value → Bool} {Q : Value → Shared → Prop} (O : Swo ltv) (hl : s.heap.IsTuple l vs.toArray) (hz : vs.length ≤ sizeLine)
    (hS : 2 ≤ vs.length → ∀ (g : Heap) (a : Addr), g.get? a = some (seqObj "list" vs.toArray 0) → (∀ b o, s.heap.get? b = some o → b ≠ a ∧ g.get? b = some o) → SortableO prog w A.in1.in1 { s with heap := g } a vs ltv)
    (h : ∀ out : List Value, Srtd ltv out → Stb ltv out vs → Q (.ref (s.heap.objs.size + 1)) { s with heap := sortedAll s.heap vs out.toArray }) : wpAny (model prog w) A (call (.builtin "sorted") [.ref l]) Q E s := by
  refine Calls.call_function_entry kind_sorted plain_sorted entry_sorted (args_sorted1 _) ?_
  unfold Builtin.«sorted»
  refine wpAny_bind (m := checkCount "sorted" 1 1 _) (wpAny_pure ?_)
  refine wpAny_bind (collect_tup hl hz ?_)
  refine wpAny_bind (wpAny_newList ?_ hz)
  have e1 : ((s.heap.push (seqObj "list" #[] 0)).update s.heap.objs.size (Obj.mapSeq (· ++ vs.toArray))).objs.size = s.heap.objs.size + 1 := by rw [Heap.size_update, size_push']
  have e2 : (((s.heap.push (seqObj "list" #[] 0)).update s.heap.objs.size (Obj.mapSeq (· ++ vs.toArray))).push (seqObj "list" vs.toArray 0)).get? (s.heap.objs.size + 1) = some (seqObj "list" vs.toArray 0) := by
    rw [← e1]
    exact Heap.get?_push_size _ rfl
  have e3 : ∀ b o, s.heap.get? b = some o → b ≠ s.heap.objs.size + 1 ∧ (((s.heap.push (seqObj "list" #[] 0)).update s.heap.objs.size (Obj.mapSeq (· ++ vs.toArray))).push (seqObj "list" vs.toArray 0)).get? b = some o := fun b o q => by
    have lt : b < s.heap.objs.size := Heap.lt_size q
    refine ⟨Nat.ne_of_lt (Nat.lt_succ_of_lt lt), Heap.get?_push_of_some _ ?_⟩
    rw [Heap.get?_update_ne _ _ _ _ (Nat.ne_of_lt lt)]
    exact Heap.get?_push_of_some _ q
  show wpAny _ _ _ _ _ { s with heap := ((s.heap.push (seqObj "list" #[] 0)).update s.heap.objs.size (Obj.mapSeq (· ++ vs.toArray))).push (seqObj "list" vs.toArray 0) }
  rw [e1]
  refine wpAny_bind (wpAny_holding (wpAny_call_entry slot_list_sort ⟨_, e2, rfl⟩ entry_list_sort (list_sort_ord O e2 hz (fun h2 => hS h2 _ _ e2 e3) fun out hs hb => ⟨_, rfl, ?_⟩) (args_list_sort _)))
  exact wpAny_pure ⟨_, rfl, h out hs hb⟩
end
end Ru
namespace Ru
open PySem PySem.Spec PyProof.Rows L2
/-- one of two ways to walk -/
theorem pi_or {X : Cx} {tg e : Expr} {t u : TI} (a : PI X tg e t) (b : PI X tg e u) : PI X tg e (fun σ H R => t σ H R ∨ u σ H R) := ⟨fun pins s σ H R I h => h.elim (a.run pins s σ H R I) (b.run pins s σ H R I)⟩
theorem callR_or {X : Cx} {f : Value} {r r' : List V → Hp → VK → Prop} (a : CallR X f r) (b : CallR X f r') : CallR X f (fun vs H Q => r vs H Q ∨ r' vs H Q) := fun pins s σ H vs us Q I rv h => h.elim (a pins s σ H vs us Q I rv) (b pins s σ H vs us Q I rv)
/-- sorted(t), t a tuple of ints -/
def rSortedTup (K : PySem.W.Frag) : List V → Hp → VK → Prop := fun vs H Q => ∃ (a : Addr) (ns : List Int), vs = [V.ref a] ∧ SqT K H a (ns.map V.int) ∧
  ∀ (ms : List Int) (p : Addr), ms.Perm ns → ms.Pairwise (· ≤ ·) → H p = none → Q (.ref p) (upd H p (.lst (ms.map V.int)))
theorem cr_sortedTup {X : Cx} : CallR X (.builtin "sorted") (rSortedTup X.K) := by
  intro pins s σ H vs us Q I r h
  obtain ⟨a, ns, rfl, hs, q⟩ := h
  obtain ⟨its, rv, hl, hz⟩ := I.tuple hs
  rw [Vals.ref1 r]
  have hi := rv.ints
  refine sorted_tup SrtO.swo_int (show s.heap.IsTuple a its.toArray from hl) (by rw [← rv.length]; exact hz) (fun h2 g b _ _ => SrtO.ints_sortable hi h2) fun out h1 h2 => ?_
  obtain ⟨k1, k2, k3⟩ := SrtO.ints_out hi h1 h2
  obtain ⟨ep, he⟩ := PyProof.Rows.sortedAll_at s.heap its out.toArray
  have ln : ((out.map SrtO.iv).map V.int).length ≤ sizeLine := by
    rw [List.length_map, k2.length_eq]
    rw [List.length_map] at hz
    exact hz
  exact ⟨.ref _, upd H (s.heap.objs.size + 1) (.lst ((out.map SrtO.iv).map V.int)), I.laid (t' := s.toks) (fun _ _ => PyProof.Rows.sortedAll_old) (Nat.le_succ _) ⟨ln, out, ep, vals_of_ints k1, he⟩, rfl, q _ _ k2 k3 (I.hok.fresh (Nat.le_succ _))⟩
/-- enumerate of a tuple: each item in a new pair -/
def IteT (K : PySem.W.Frag) (a : Addr) : It :=
  ⟨fun i H => ∃ (xs : List V) (x : V), SqT K H a xs ∧ xs[i]? = some x, fun i H v H' => ∃ T x, v = .ref T ∧ H T = none ∧ H' = upd H T (.tup [.int (i : Nat), x]) ∧ ∀ xs, SqT K H a xs → xs[i]? = some x, fun i H => ∃ xs : List V, SqT K H a xs ∧ xs.length = i⟩
theorem turn_enumT {P : Program} {w : World} {K : PySem.W.Frag} {elts : List Expr} {kk : Nat} {tpos : Pos} (a e it : Addr) :
    Turn P w K (.Tuple elts kk tpos) (IteT K a) [e, it] e (fun i h => (∃ old, IsEnum h e it ((i : Nat) : Int) old) ∧ h.IsTupleIter it a i ∧ e ≠ it) where
  mem := by simp
  obj := fun i h st b hb => by
    obtain ⟨⟨old, he⟩, ⟨o, ho, hc, hd⟩, _⟩ := st
    have z : b = e ∨ b = it := by simpa using hb
    rcases z with z | z
    · rw [z]; exact ⟨_, he, fun v q => nomatch q⟩
    · rw [z]; exact ⟨o, ho, fun v q => by rw [hd] at q; cases q⟩
  keep := fun i h h' st k => let ⟨⟨old, he⟩, ⟨o, ho, r⟩, hne⟩ := st; ⟨⟨old, k e (by simp) _ he⟩, ⟨o, k it (by simp) o ho, r⟩, hne⟩
  item := by
    intro X hP hw hK hc i pins s σ H E I hf st hg
    subst hP hw hK
    obtain ⟨⟨old, he⟩, hit, hne⟩ := st
    obtain ⟨xs, x, hq, hx⟩ := hg
    obtain ⟨its, rv, p, hz⟩ := I.tuple hq
    obtain ⟨u, hu, ru⟩ := rv.get hx
    have hel : e < s.heap.objs.size := Heap.lt_size he
    have hil : it < s.heap.objs.size := by obtain ⟨_, q, _⟩ := hit; exact Heap.lt_size q
    have hat : a ≠ it := fun z => by
      obtain ⟨o, q1, q2, _⟩ := hit
      obtain ⟨o', q3, q4, _⟩ := (show s.heap.IsTuple a its.toArray from p)
      rw [← z, q3] at q1
      cases q1
      rw [q4] at q2
      exact absurd (Value.type.inj q2) (by decide)
    have hea : e ≠ a := fun z => by
      obtain ⟨o', q3, q4, _⟩ := (show s.heap.IsTuple a its.toArray from p)
      rw [← z, he] at q3
      cases q3
      exact absurd (Value.type.inj q4) (by decide)
    have hlt : i < its.toArray.size := by
      have := (List.getElem?_eq_some_iff.mp hu).1
      simpa using this
    refine wpAny_pyNext_enum_itemD (draws_tup (prog := X.prog) (w := X.w) (A := X.A.in1) (I.ok.hd hc) it a hat its.toArray) he ⟨hit, p⟩ hlt hne (by simp [hne, hea]) fun y h' tk hy ho st' hT hsz hk => ?_
    have hy' : y = u := by
      have z : its.toArray[i]? = some u := by simpa using hu
      rw [z] at hy
      exact (Option.some.inj hy).symm
    subst hy'
    refine ⟨_, rfl, wpAny_letOwnedTupleGo_enum (s := { s with heap := h', toks := tk + 1 }) ho fun h'' he' sb => ?_⟩
    have hT2 : h''.get? s.heap.objs.size = some { cls := .type "tuple", data := .seq #[.int i tk, y] } := (sb.2 _ (Nat.ne_of_gt hel)).trans hT
    have new : ObjOk X.prog X.w (upd H s.heap.objs.size (.tup [.int (i : Nat), x])) h'' s.heap.objs.size (.tup [.int (i : Nat), x]) :=
      ⟨by show 2 ≤ sizeLine; decide, [.int i tk, y], .cons ⟨_, rfl⟩ (.cons ru .nil), ⟨_, hT2, rfl, _, rfl⟩⟩
    have I1 : Inv X pins σ (upd H s.heap.objs.size (.tup [.int (i : Nat), x])) { s with heap := h'', toks := tk + 1 } :=
      I.turnedNew (ch := [e, it]) (fun b ob hb q => (sb.2 b (fun z => hb (by simp [z]))).trans (hk b ob (fun z => hb (by simp [z])) (fun z => hb (by simp [z])) q)) hf (Nat.le_refl _) new
    refine ⟨.ref s.heap.objs.size, _, I1, rfl, ⟨_, x, rfl, I.hok.fresh (Nat.le_refl _), rfl, fun ys hy => by rw [I.tuple_inj hy hq]; exact hx⟩, ⟨⟨y, ?_⟩, ?_, hne⟩, fun b hb => ?_⟩
    · have e1 : ((i + 1 : Nat) : Int) = (i : Int) + 1 := by omega
      rw [e1]; exact he'
    · obtain ⟨o, q, r⟩ := st'.1
      exact ⟨o, (sb.2 it (Ne.symm hne)).trans q, r⟩
    · have hb' : b < s.heap.objs.size := by
        have z : b = e ∨ b = it := by simpa using hb
        rcases z with z | z
        · rw [z]; exact hel
        · rw [z]; exact hil
      rw [upd_ne (Nat.ne_of_lt hb')]
      exact (hf b hb).1
  done := by
    intro X hP hw hK hc i pins s σ H E I hf st hg
    subst hP hw hK
    obtain ⟨⟨old, he⟩, hit, hne⟩ := st
    obtain ⟨xs, hq, hx⟩ := hg
    obtain ⟨its, rv, p, hz⟩ := I.tuple hq
    obtain ⟨f0, f1, f2, f3, f4, f5⟩ := hf it (by simp)
    have hl := rv.length
    have hat : a ≠ it := fun z => by
      obtain ⟨o, q1, q2, _⟩ := hit
      obtain ⟨o', q3, q4, _⟩ := (show s.heap.IsTuple a its.toArray from p)
      rw [← z, q3] at q1
      cases q1
      rw [q4] at q2
      exact absurd (Value.type.inj q2) (by decide)
    have hn : i = its.toArray.size := by simp; omega
    refine wpAny_pyNext_enum_endD (draws_tup (prog := X.prog) (w := X.w) (A := X.A.in1) (I.ok.hd hc) it a hat its.toArray) he (by rw [hn] at hit; exact ⟨hit, p⟩) fun h' eb => ⟨rfl, ?_⟩
    obtain ⟨g0, g1, g2, g3, g4, g5⟩ := hf e (by simp)
    obtain ⟨f0, f1, f2, f3, f4, f5⟩ := hf it (by simp)
    exact I.turned (t' := s.toks) (fun b o hb q => eb b o hb q) f0 f1 f3 f4 f5
  self := fun A i s Q E st h => let ⟨⟨_, he⟩, _⟩ := st; wpAny_pyIter_enum he h
def iEnumT (K : PySem.W.Frag) (ta : TA) : TI := fun σ H R => ta σ H fun vs H1 => ∃ a xs, vs = [.ref a] ∧ SqT K H1 a xs ∧ R (IteT K a) H1
theorem pi_enumT {X : Cx} {e : Expr} {ta : TA} {p pos tpos : Pos} {elts : List Expr} {kk : Nat} (hg : Gl X "enumerate") (hm : X.mg "enumerate" = none) (ha : PA X [e] ta) (hs : starEach [e] X.env = [(false, eval e X.env)] := by rfl) :
    PI X (.Tuple elts kk tpos) (.Call (.Name "enumerate" p) [e] [] pos) (iEnumT X.K ta) := by
  refine ⟨fun pins s σ H R I h => ?_⟩
  refine Call_ (ld_blt I hg hm boot_enumerate (PyProof.Rows.callWith_type1 (thn (ha.run pos pins s σ H _ I h) fun us s1 ⟨vs, H1, I1, r1, q1⟩ => ?_) hs rfl))
  obtain ⟨a, xs, ex, hq, q⟩ := q1
  subst ex
  cases r1 with
  | cons r rr =>
    cases rr
    cases r
    obtain ⟨its, rv, p', hz⟩ := I1.tuple hq
    refine call_enum_tup (show s1.heap.IsTuple a its.toArray from p') fun h' he hit hsz hk => wpAny_pyIter_enum he ?_
    have I2 : Inv X pins σ H1 { s1 with heap := h' } := I1.kept (t' := s1.toks) hk
    refine ⟨s1.heap.objs.size + 1, [s1.heap.objs.size + 1, s1.heap.objs.size], _, _, H1, rfl, I2, turn_enumT a (s1.heap.objs.size + 1) s1.heap.objs.size, ⟨⟨.none, he⟩, hit, Nat.succ_ne_self _⟩, fun b hb => ?_, q⟩
    have z : b = s1.heap.objs.size + 1 ∨ b = s1.heap.objs.size := by simpa using hb
    have hle : s1.heap.objs.size ≤ b := by
      rcases z with z | z
      · rw [z]; exact Nat.le_add_right _ _
      · rw [z]; exact Nat.le_refl _
    exact I1.fpOk hle (I1.hok.fresh hle)
/-- a loop over enumerate of a list that stands still -/
theorem for_enum {K : PySem.W.Frag} {a : Addr} {xs : List V} {g : TG} {tb : TS} {D : Ends} {σ : L2.St} {H : Hp} (Pv : Nat → L2.St → Hp → Prop) (h0 : Pv 0 σ H) (hl : ∀ i σ H, i ≤ xs.length → Pv i σ H → SqL K H a xs)
    (hs : ∀ i x σ H (T : Addr), xs[i]? = some x → Pv i σ H → H T = none → g (.ref T) σ (upd H T (.tup [.int (i : Nat), x])) fun σ2 H2 => tb { D with nx := Pv (i + 1), ct := Pv (i + 1), bk := D.nx } σ2 H2) (hd : ∀ σ H, Pv xs.length σ H → D.nx σ H) :
    ∃ W : Nat → Nat → L2.St → Hp → Prop, (∃ m, W 0 m σ H) ∧ ∀ i m σ H, W i m σ H →
      ((Ite K a).stop i H ∧ D.nx σ H) ∨ ((Ite K a).go i H ∧ ∃ N : L2.St → Hp → Prop, (∀ σ' H', N σ' H' → ∃ m', m' < m ∧ W (i + 1) m' σ' H') ∧ ∀ x H', (Ite K a).yld i H x H' → g x σ H' fun σ2 H2 => tb { D with nx := N, ct := N, bk := D.nx } σ2 H2) := by
  refine ⟨fun i m σ H => m = xs.length - i ∧ i ≤ xs.length ∧ Pv i σ H, ⟨xs.length, by simp, Nat.zero_le _, h0⟩, ?_⟩
  rintro i m σ H ⟨rfl, hi, p⟩
  have q := hl i σ H hi p
  by_cases lt : i < xs.length
  · refine .inr ⟨⟨xs, xs[i], q, by simp [lt]⟩, Pv (i + 1), fun σ' H' p' => ⟨xs.length - (i + 1), by omega, rfl, lt, p'⟩, fun x H' y => ?_⟩
    obtain ⟨T, z, rfl, hT, rfl, y⟩ := y
    exact hs i z σ H T (y xs q) p hT
  · have e : i = xs.length := by omega
    subst e
    exact .inl ⟨⟨xs, q, Nat.le_refl _⟩, hd σ H p⟩
theorem for_enumT {K : PySem.W.Frag} {a : Addr} {xs : List V} {g : TG} {tb : TS} {D : Ends} {σ : L2.St} {H : Hp} (Pv : Nat → L2.St → Hp → Prop) (h0 : Pv 0 σ H) (hl : ∀ i σ H, i ≤ xs.length → Pv i σ H → SqT K H a xs)
    (hs : ∀ i x σ H (T : Addr), xs[i]? = some x → Pv i σ H → H T = none → g (.ref T) σ (upd H T (.tup [.int (i : Nat), x])) fun σ2 H2 => tb { D with nx := Pv (i + 1), ct := Pv (i + 1), bk := D.nx } σ2 H2) (hd : ∀ σ H, Pv xs.length σ H → D.nx σ H) :
    ∃ W : Nat → Nat → L2.St → Hp → Prop, (∃ m, W 0 m σ H) ∧ ∀ i m σ H, W i m σ H →
      ((IteT K a).stop i H ∧ D.nx σ H) ∨ ((IteT K a).go i H ∧ ∃ N : L2.St → Hp → Prop, (∀ σ' H', N σ' H' → ∃ m', m' < m ∧ W (i + 1) m' σ' H') ∧ ∀ x H', (IteT K a).yld i H x H' → g x σ H' fun σ2 H2 => tb { D with nx := N, ct := N, bk := D.nx } σ2 H2) := by
  refine ⟨fun i m σ H => m = xs.length - i ∧ i ≤ xs.length ∧ Pv i σ H, ⟨xs.length, by simp, Nat.zero_le _, h0⟩, ?_⟩
  rintro i m σ H ⟨rfl, hi, p⟩
  have q := hl i σ H hi p
  by_cases lt : i < xs.length
  · refine .inr ⟨⟨xs, xs[i], q, by simp [lt]⟩, Pv (i + 1), fun σ' H' p' => ⟨xs.length - (i + 1), by omega, rfl, lt, p'⟩, fun x H' y => ?_⟩
    obtain ⟨T, z, rfl, hT, rfl, y⟩ := y
    exact hs i z σ H T (y xs q) p hT
  · have e : i = xs.length := by omega
    subst e
    exact .inl ⟨⟨xs, q, rfl⟩, hd σ H p⟩
/-! ### a row: a list or a tuple -/
def SqR (K : PySem.W.Frag) (H : Hp) (a : Addr) (xs : List V) : Prop := SqL K H a xs ∨ SqT K H a xs
theorem same_tup {K : PySem.W.Frag} {H H' : Hp} {a : Addr} {xs : List V} (e : Same H H') (h : SqT K H a xs) : SqT K H' a xs := by
  rcases h with (h | ⟨o, h⟩) | h
  · exact .inl (.inl (e _ _ h))
  · exact .inl (.inr ⟨o, e _ _ h⟩)
  · exact .inr h
theorem SqR.same {K : PySem.W.Frag} {H H' : Hp} {a : Addr} {xs : List V} (e : Same H H') (h : SqR K H a xs) : SqR K H' a xs := h.imp e.seq (same_tup e)
/-- a loop over a row that stands still -/
theorem for_row {K : PySem.W.Frag} {a : Addr} {xs : List V} {g : TG} {tb : TS} {D : Ends} {σ : L2.St} {H : Hp} {ta : TE} (ea : ∀ Q, Q (.ref a) H → ta σ H Q) (Pv : Nat → L2.St → Hp → Prop) {Hb : Hp} (hr : SqR K Hb a xs) (h0 : Pv 0 σ H) (hl : ∀ i σ H', i ≤ xs.length → Pv i σ H' → Same Hb H')
    (hs : ∀ i x σ H, xs[i]? = some x → Pv i σ H → g x σ H fun σ2 H2 => tb { D with nx := Pv (i + 1), ct := Pv (i + 1), bk := D.nx } σ2 H2) (hd : ∀ σ H, Pv xs.length σ H → D.nx σ H) :
    tFor (fun σ H R => iList K ta σ H R ∨ iTup K ta σ H R) g tb D σ H := by
  rcases hr with hr | hr
  · exact .inl (ea _ ⟨a, rfl, ⟨_, (hl 0 σ H (Nat.zero_le _) h0).seq hr⟩, for_list (K := K) (a := a) (xs := xs) Pv h0 (fun i σ H' hi p => (hl i σ H' hi p).seq hr) hs hd⟩)
  · exact .inr (ea _ ⟨a, rfl, ⟨_, same_tup (hl 0 σ H (Nat.zero_le _) h0) hr⟩, for_tup (K := K) (a := a) (xs := xs) Pv h0 (fun i σ H' hi p => same_tup (hl i σ H' hi p) hr) hs hd⟩)
/-- .. over enumerate of a row -/
theorem for_enumR {K : PySem.W.Frag} {a : Addr} {xs : List V} {g : TG} {tb : TS} {D : Ends} {σ : L2.St} {H : Hp} {ta : TA} (ea : ∀ Q, Q [.ref a] H → ta σ H Q) (Pv : Nat → L2.St → Hp → Prop) {Hb : Hp} (hr : SqR K Hb a xs) (h0 : Pv 0 σ H) (hl : ∀ i σ H', i ≤ xs.length → Pv i σ H' → Same Hb H')
    (hs : ∀ i x σ H (T : Addr), xs[i]? = some x → Pv i σ H → H T = none → g (.ref T) σ (upd H T (.tup [.int (i : Nat), x])) fun σ2 H2 => tb { D with nx := Pv (i + 1), ct := Pv (i + 1), bk := D.nx } σ2 H2) (hd : ∀ σ H, Pv xs.length σ H → D.nx σ H) :
    tFor (fun σ H R => iEnum K ta σ H R ∨ iEnumT K ta σ H R) g tb D σ H := by
  rcases hr with hr | hr
  · exact .inl (ea _ ⟨a, _, rfl, (hl 0 σ H (Nat.zero_le _) h0).seq hr, for_enum (K := K) (a := a) (xs := xs) Pv h0 (fun i σ H' hi p => (hl i σ H' hi p).seq hr) hs hd⟩)
  · exact .inr (ea _ ⟨a, _, rfl, same_tup (hl 0 σ H (Nat.zero_le _) h0) hr, for_enumT (K := K) (a := a) (xs := xs) Pv h0 (fun i σ H' hi p => same_tup (hl i σ H' hi p) hr) hs hd⟩)
theorem ty_L {K : PySem.W.Frag} {H : Hp} {a : Addr} {xs : List V} (h : SqL K H a xs) : TyX K H (.ref a) (.type "list") := by
  rcases h with (h | ⟨o, h⟩) | ⟨o, its, n, h1, h2, _⟩
  · exact .base (.lst h)
  · exact .base (.frz h)
  · exact .kList h1 h2
theorem ty_T {K : PySem.W.Frag} {H : Hp} {a : Addr} {xs : List V} (h : SqT K H a xs) : TyX K H (.ref a) (.type "tuple") := by
  rcases h with (h | ⟨o, h⟩) | ⟨o, its, n, h1, h2, _⟩
  · exact .base (.tup h)
  · exact .fTuple h
  · exact .kTuple h1 h2
/-- isinstance(row, (list, tuple)) -/
theorem isRow {K : PySem.W.Frag} {H : Hp} {a tp : Addr} {xs : List V} {Q : VK} (h : SqR K H a xs) (ht : H tp = some (.tup [.ty "list", .ty "tuple"])) (q : Q (.bl true) H) : rIsiT K [.ref a, .ref tp] H Q := by
  have pc : Paired ClsV [.ty "list", .ty "tuple"] [.type "list", .type "tuple"] := .cons (.ty _) (.cons (.ty _) .nil)
  rcases h with h | h
  · exact ⟨_, tp, _, _, _, true, rfl, ht, pc, ty_L h, kitAny_cons (kit_ty (r := true) (by decide +kernel)) (fun z => nomatch z) (fun _ => rfl), q⟩
  · exact ⟨_, tp, _, _, _, true, rfl, ht, pc, ty_T h, kitAny_cons (kit_ty (r := false) (by decide +kernel)) (fun _ => kitAny_cons (kit_ty (r := true) (by decide +kernel)) (fun z => nomatch z) (fun _ => rfl)) (fun z => nomatch z), q⟩
theorem sortedR {K : PySem.W.Frag} {H : Hp} {a : Addr} {ns : List Int} {Q : VK} (hp : SqR K H a (ns.map V.int)) (h : ∀ (ms : List Int) (p : Addr) (G : Hp), ms.Perm ns → ms.Pairwise (· ≤ ·) → G p = some (.lst (ms.map V.int)) → Same H G → H p = none → Q (.ref p) G) : rSortedI K [.ref a] H Q ∨ rSortedTup K [.ref a] H Q :=
  hp.imp (fun q => Rd.sortedI q h) fun q => ⟨a, ns, rfl, q, fun ms p h1 h2 h3 => h ms p _ h1 h2 upd_same (fun b u e => by rw [upd_ne (ne_of_none e h3)]; exact e) h3⟩
end Ru

/-! Readings of texts, comprehensions and own objects by their heads; letters. -/
namespace Rd
open PySem PySem.Spec PyProof.Rows L2
variable {X : Cx} {D : Ends} {σ : L2.St} {H : Hp} {K : PySem.W.Frag}
/-! ### texts -/
def nAddS : R2 := fun x y H Q => ∃ i j, x = .str i ∧ y = .str j ∧ i.length + j.length ≤ sizeLine ∧ Q (.str (i ++ j)) H
theorem o_addS : OpR X (binaryOp .Add) nAddS := op_add_str
theorem addS {i j : Str} {Q : VK} (hz : i.length + j.length ≤ sizeLine) (h : Q (.str (i ++ j)) H) : nAddS (.str i) (.str j) H Q := ⟨i, j, rfl, rfl, hz, h⟩
def nInC : R2 := fun x y H Q => ∃ (c : Nat) (z : Str), x = .str ⟨#[c]⟩ ∧ y = .str z ∧ Q (.bl (decide (c ∈ z.cps.toList))) H
theorem o_inC : OpR X (compareOp .In) nInC := op_in_sign
theorem inC {c : Nat} {z : Str} {Q : VK} (h : Q (.bl (decide (c ∈ z.cps.toList))) H) : nInC (.str ⟨#[c]⟩) (.str z) H Q := ⟨c, z, rfl, rfl, h⟩
theorem inCT {c : Nat} {z : Str} {Q : VK} (e : c ∈ z.cps.toList) (h : Q (.bl true) H) : nInC (.str ⟨#[c]⟩) (.str z) H Q := inC (by rw [decide_eq_true e]; exact h)
theorem nodup_take {α : Type} {l : List α} {i : Nat} {x : α} (nd : l.Nodup) (h : l[i]? = some x) : x ∉ l.take i := by
  intro m
  obtain ⟨j, hj, e⟩ := List.getElem_of_mem m
  rw [List.length_take] at hj
  have e2 : l[j]? = some x := by rw [← e, List.getElem_take]; exact List.getElem?_eq_getElem (by omega)
  have := (List.getElem?_inj (by omega) nd).mp (e2.trans h.symm)
  omega
theorem ixS {z : Str} {i : Int} {c : Nat} {Q : VK} (hz : z.length ≤ sizeLine) (e : atI z.cps.toList i = some c) (h : Q (.str ⟨#[c]⟩) H) : rIxS (.str z) (.int i) H Q := ⟨z, i, c, rfl, rfl, hz, e, h⟩
theorem inStrs {neg : Bool} {z : Str} {p : Addr} {ws : List Str} {Q : VK} (hp : SqL K H p (ws.map V.str) ∨ SqT K H p (ws.map V.str)) (h : Q (.bl (if neg then !decide (z ∈ ws) else decide (z ∈ ws))) H) : rIn K neg (.str z) (.ref p) H Q := by
  have e : inV (.str z) (ws.map V.str) = decide (z ∈ ws) := by
    unfold inV
    rw [List.any_map, Bool.eq_iff_iff, List.any_eq_true, decide_eq_true_iff]
    constructor
    · rintro ⟨y, hy, q⟩
      have : y = z := by simpa [eqV] using q
      exact this ▸ hy
    · intro hz
      exact ⟨z, hz, by simp [eqV]⟩
  exact Rd.inS hp rfl (flat_strs ws) (by rw [e]; exact h)
theorem inStrsY {z : Str} {p : Addr} {ws : List Str} {Q : VK} (hp : SqL K H p (ws.map V.str) ∨ SqT K H p (ws.map V.str)) (h : Q (.bl (decide (z ∈ ws))) H) : rIn K false (.str z) (.ref p) H Q := inStrs hp h
theorem inStrsN {z : Str} {p : Addr} {ws : List Str} {Q : VK} (hp : SqL K H p (ws.map V.str) ∨ SqT K H p (ws.map V.str)) (h : Q (.bl (!decide (z ∈ ws))) H) : rIn K true (.str z) (.ref p) H Q := inStrs hp h
theorem inInts {neg : Bool} {z : Int} {p : Addr} {ws : List Int} {Q : VK} (hp : SqL K H p (ws.map V.int) ∨ SqT K H p (ws.map V.int)) (h : Q (.bl (if neg then !decide (z ∈ ws) else decide (z ∈ ws))) H) : rIn K neg (.int z) (.ref p) H Q := by
  have e : inV (.int z) (ws.map V.int) = decide (z ∈ ws) := by
    unfold inV
    rw [List.any_map, Bool.eq_iff_iff, List.any_eq_true, decide_eq_true_iff]
    constructor
    · rintro ⟨y, hy, q⟩
      have : y = z := by simpa [eqV] using q
      exact this ▸ hy
    · intro hz
      exact ⟨z, hz, by simp [eqV]⟩
  exact Rd.inS hp rfl (by rw [List.all_map]; exact List.all_eq_true.mpr fun _ _ => rfl) (by rw [e]; exact h)
theorem inIntsY {z : Int} {p : Addr} {ws : List Int} {Q : VK} (hp : SqL K H p (ws.map V.int) ∨ SqT K H p (ws.map V.int)) (h : Q (.bl (decide (z ∈ ws))) H) : rIn K false (.int z) (.ref p) H Q := inInts hp h
theorem inIntsN {z : Int} {p : Addr} {ws : List Int} {Q : VK} (hp : SqL K H p (ws.map V.int) ∨ SqT K H p (ws.map V.int)) (h : Q (.bl (!decide (z ∈ ws))) H) : rIn K true (.int z) (.ref p) H Q := inInts hp h
theorem map_str {ns : List Str} {i : Nat} (h : i < ns.length) : (ns.map V.str)[i]? = some (.str ns[i]) := by simp [h]
theorem map_strG {ns : List Str} {i : Nat} {x : V} (h : (ns.map V.str)[i]? = some x) : ∃ n, ns[i]? = some n ∧ x = .str n := by
  rw [List.getElem?_map] at h
  cases e : ns[i]? with
  | none => rw [e] at h; cases h
  | some z => rw [e] at h; exact ⟨z, rfl, (Option.some.inj h).symm⟩
theorem map_refG {ns : List Addr} {i : Nat} {x : V} (h : (ns.map V.ref)[i]? = some x) : ∃ n, ns[i]? = some n ∧ x = .ref n := by
  rw [List.getElem?_map] at h
  cases e : ns[i]? with
  | none => rw [e] at h; cases h
  | some z => rw [e] at h; exact ⟨z, rfl, (Option.some.inj h).symm⟩
theorem map_ref {ns : List Addr} {i : Nat} (h : i < ns.length) : (ns.map V.ref)[i]? = some (.ref ns[i]) := by simp [h]
theorem ins {l : Addr} {xs : List V} {i : Int} {y : V} {Q : VK} (hp : H l = some (.lst xs)) (hz : xs.length < sizeLine) (h0 : 0 ≤ i) (h1 : i < 2 ^ 63) (h : ∀ G : Hp, G l = some (.lst (xs.take i.toNat ++ [y] ++ xs.drop i.toNat)) → (∀ b, b ≠ l → G b = H b) → Q .non G) :
    ∃ (l' : Addr) (xs' : List V) (i' : Int) (y' : V), V.ref l = .ref l' ∧ [V.int i, y] = [.int i', y'] ∧ H l' = some (.lst xs') ∧ xs'.length < sizeLine ∧ 0 ≤ i' ∧ i' < 2 ^ 63 ∧ Q .non (upd H l' (.lst (xs'.take i'.toNat ++ [y'] ++ xs'.drop i'.toNat))) :=
  ⟨l, xs, i, y, rfl, rfl, hp, hz, h0, h1, h _ upd_same fun b hb => upd_ne hb⟩
def nInsert : V → List V → Hp → VK → Prop := fun x vs H Q => ∃ (l : Addr) (xs : List V) (i : Int) (y : V), x = .ref l ∧ vs = [.int i, y] ∧ H l = some (.lst xs) ∧ xs.length < sizeLine ∧ 0 ≤ i ∧ i < 2 ^ 63 ∧
    Q .non (upd H l (.lst (xs.take i.toNat ++ [y] ++ xs.drop i.toNat)))
theorem m_insert : MtR X "list.insert" nInsert := mt_insert
theorem insert {l : Addr} {xs : List V} {i : Int} {y : V} {Q : VK} (hp : H l = some (.lst xs)) (hz : xs.length < sizeLine) (h0 : 0 ≤ i) (h1 : i < 2 ^ 63) (h : ∀ G : Hp, G l = some (.lst (xs.take i.toNat ++ [y] ++ xs.drop i.toNat)) → (∀ b, b ≠ l → G b = H b) → Q .non G) : nInsert (.ref l) [.int i, y] H Q :=
  ins hp hz h0 h1 h
/-! ### equal lists of texts -/
theorem dpAll_strs : ∀ ns : List Str, DpAll K H (ns.map V.str) (ns.map PyData.str)
  | [] => .nil
  | n :: ns => .cons (.str n) (dpAll_strs ns)
theorem canLay_strs : ∀ ns : List Str, (∀ z ∈ ns, PyData.strOk z = true) → PyData.canLayAll0 (ns.map PyData.str) = true
  | [], _ => rfl
  | n :: ns, h => by
    show (PyData.canLay0 (.str n) && PyData.canLayAll0 (ns.map PyData.str)) = true
    rw [canLay_strs ns fun z hz => h z (List.mem_cons_of_mem _ hz)]
    show (PyData.strOk n && true) = true
    rw [h n List.mem_cons_self]
    rfl
theorem depth_strs : ∀ ns : List Str, PyData.depthAll (ns.map PyData.str) = 0
  | [] => rfl
  | n :: ns => by
    show max (PyData.depth (.str n)) (PyData.depthAll (ns.map PyData.str)) = 0
    rw [depth_strs ns]
    rfl
theorem shaped_strs {ns : List Str} (h : ∀ z ∈ ns, PyData.strOk z = true) : SeqAt.shaped (.list (ns.map PyData.str)) = true := by
  have h1 : PyData.canLay0 (.list (ns.map PyData.str)) = true := canLay_strs ns h
  have h2 : PyData.depth (.list (ns.map PyData.str)) = 1 := by
    show PyData.depthAll (ns.map PyData.str) + 1 = 1
    rw [depth_strs]
  unfold SeqAt.shaped
  rw [h1, h2]
  rfl
theorem eqStrs {a b : Addr} {ns : List Str} {Q : VK} (h1 : SqL K H a (ns.map V.str)) (h2 : SqL K H b (ns.map V.str)) (h : ∀ z ∈ ns, PyData.strOk z = true) (q : Q (.bl true) H) : rEqD K (.ref a) (.ref b) H Q := by
  refine ⟨_, _, .lst h1 (dpAll_strs ns), .lst h2 (dpAll_strs ns), shaped_strs h, shaped_strs h, ?_⟩
  rw [SeqAt.eqv_refl _ (SeqAt.canLay_of_shaped (shaped_strs h))]
  exact q
theorem neStrs {a b : Addr} {ns : List Str} {Q : VK} (h1 : SqL K H a (ns.map V.str)) (h2 : SqL K H b (ns.map V.str)) (h : ∀ z ∈ ns, PyData.strOk z = true) (q : Q (.bl false) H) : rNeD K (.ref a) (.ref b) H Q := by
  refine ⟨_, _, .lst h1 (dpAll_strs ns), .lst h2 (dpAll_strs ns), shaped_strs h, shaped_strs h, ?_⟩
  rw [SeqAt.eqv_refl _ (SeqAt.canLay_of_shaped (shaped_strs h))]
  exact q
/-! ### equal lists of ints -/
theorem dpAll_ints : ∀ ns : List Int, DpAll K H (ns.map V.int) (ns.map PyData.int)
  | [] => .nil
  | n :: ns => .cons (.int n) (dpAll_ints ns)
theorem canLay_ints : ∀ ns : List Int, PyData.canLayAll0 (ns.map PyData.int) = true
  | [] => rfl
  | n :: ns => by
    show (PyData.canLay0 (.int n) && PyData.canLayAll0 (ns.map PyData.int)) = true
    rw [canLay_ints ns]
    rfl
theorem depth_ints : ∀ ns : List Int, PyData.depthAll (ns.map PyData.int) = 0
  | [] => rfl
  | n :: ns => by
    show max (PyData.depth (.int n)) (PyData.depthAll (ns.map PyData.int)) = 0
    rw [depth_ints ns]
    rfl
theorem shaped_ints (ns : List Int) : SeqAt.shaped (.list (ns.map PyData.int)) = true := by
  have h1 : PyData.canLay0 (.list (ns.map PyData.int)) = true := canLay_ints ns
  have h2 : PyData.depth (.list (ns.map PyData.int)) = 1 := by
    show PyData.depthAll (ns.map PyData.int) + 1 = 1
    rw [depth_ints]
  unfold SeqAt.shaped
  rw [h1, h2]
  rfl
theorem eqv_ints : ∀ (xs ys : List Int), PyData.eqvAll (xs.map PyData.int) (ys.map PyData.int) = decide (xs = ys)
  | [], [] => rfl
  | [], _ :: _ => rfl
  | _ :: _, [] => rfl
  | x :: xs, y :: ys => by
    show (PyData.eqv (.int x) (.int y) && PyData.eqvAll (xs.map PyData.int) (ys.map PyData.int)) = _
    rw [eqv_ints xs ys, Bool.eq_iff_iff]
    show ((x == y) && decide (xs = ys)) = true ↔ _
    simp
theorem eqInts {a b : Addr} {ns ms : List Int} {Q : VK} (h1 : SqL K H a (ns.map V.int)) (h2 : SqL K H b (ms.map V.int)) (q : Q (.bl (decide (ns = ms))) H) : rEqD K (.ref a) (.ref b) H Q := by
  refine ⟨_, _, .lst h1 (dpAll_ints ns), .lst h2 (dpAll_ints ms), shaped_ints ns, shaped_ints ms, ?_⟩
  show Q (.bl (PyData.eqvAll (ns.map PyData.int) (ms.map PyData.int))) H
  rw [eqv_ints]
  exact q
theorem neInts {a b : Addr} {ns ms : List Int} {Q : VK} (h1 : SqL K H a (ns.map V.int)) (h2 : SqL K H b (ms.map V.int)) (q : Q (.bl (!decide (ns = ms))) H) : rNeD K (.ref a) (.ref b) H Q := by
  refine ⟨_, _, .lst h1 (dpAll_ints ns), .lst h2 (dpAll_ints ms), shaped_ints ns, shaped_ints ms, ?_⟩
  show Q (.bl (!PyData.eqvAll (ns.map PyData.int) (ms.map PyData.int))) H
  rw [eqv_ints]
  exact q
/-! ### comprehensions -/
def Lc (J : It) (g : TG) (tt : TT) (te : TE) (vs : List Nat) (σ : L2.St) (H1 : Hp) (Q : VK) : Prop := ∀ D, H1 D = none → ∃ W : Nat → Nat → Hp → Prop, (∃ m, W 0 m (upd H1 D (.lst []))) ∧ ∀ i m H, W i m H →
  (J.stop i H ∧ Q (.ref D) H) ∨ (J.go i H ∧ ∃ Nx : Hp → Prop, (∀ H', Nx H' → ∃ m', m' < m ∧ W (i + 1) m' H') ∧ ∀ x H', J.yld i H x H' → g x (wipe σ vs) H' fun σ2 H2 => wipe σ2 vs = wipe σ vs ∧ tt σ2 H2 fun b H3 =>
    if b = true then te σ2 H3 fun y H4 => ∃ acc, H4 D = some (.lst acc) ∧ acc.length < sizeLine ∧ Nx (upd H4 D (.lst (acc ++ [y]))) else Nx H3)
theorem lc {wi : TI} {g : TG} {tt : TT} {te : TE} {vs : List Nat} {Q : VK} (h : wi σ H fun J H1 => Lc J g tt te vs σ H1 Q) : tLc wi g tt te vs σ H Q := h
theorem istr {te : TE} {R : It → Hp → Prop} (h : te σ H fun v H1 => ∃ x, v = .str x ∧ R (Its x) H1) : iStr te σ H R := h
theorem strE {z : Str} {P : Str → Prop} (h : P z) : ∃ x, V.str z = .str x ∧ P x := ⟨z, rfl, h⟩
theorem tyes {Q : Bool → Hp → Prop} (h : Q true H) : tYes σ H Q := h
/-- the state of a comprehension: the list at D holds acc, all ahead of it stands -/
def LcP (D : Addr) (H1 : Hp) (R : Nat → List V → Hp → Prop) : Nat → Hp → Prop := fun i H => ∃ acc, H D = some (.lst acc) ∧ Same H1 H ∧ R i acc H
def LcPush (D : Addr) (H1 : Hp) (R : Nat → List V → Hp → Prop) (i : Nat) (y : V) (H4 : Hp) : Prop := ∃ acc, H4 D = some (.lst acc) ∧ acc.length < sizeLine ∧ LcP D H1 R (i + 1) (upd H4 D (.lst (acc ++ [y])))
theorem lcPush {D : Addr} {H1 H4 : Hp} {R : Nat → List V → Hp → Prop} {i : Nat} {y : V} {acc : List V} (hD : H4 D = some (.lst acc)) (nD : H1 D = none) (s1 : Same H1 H4) (hz : acc.length < sizeLine) (r : ∀ G : Hp, G D = some (.lst (acc ++ [y])) → (∀ b, b ≠ D → G b = H4 b) → R (i + 1) (acc ++ [y]) G) : LcPush D H1 R i y H4 :=
  ⟨acc, hD, hz, acc ++ [y], upd_same, fun b o e => by rw [upd_ne (ne_of_none e nD)]; exact s1 b o e, r _ upd_same fun b hb => upd_ne hb⟩
theorem lcS {J : It} {n : Nat} {G : Hp → Prop} {Y : Nat → Hp → V → Hp → Prop} (w : Walk J n G Y) {g : TG} {tt : TT} {te : TE} {vs : List Nat} {H1 : Hp} {Q : VK} (hG : ∀ H, Same H1 H → G H) (R : Addr → Nat → List V → Hp → Prop)
    (r0 : ∀ (D : Addr) (G : Hp), H1 D = none → G D = some (.lst []) → Same H1 G → R D 0 [] G)
    (hs : ∀ (D : Addr) i x H H' acc, H1 D = none → i < n → H D = some (.lst acc) → Same H1 H → R D i acc H → Y i H x H' → g x (wipe σ vs) H' fun σ2 H2 => wipe σ2 vs = wipe σ vs ∧ tt σ2 H2 fun b H3 =>
      if b = true then te σ2 H3 fun y H4 => LcPush D H1 (R D) i y H4 else LcP D H1 (R D) (i + 1) H3)
    (hd : ∀ (D : Addr) acc H, H1 D = none → H D = some (.lst acc) → Same H1 H → R D n acc H → Q (.ref D) H) : Lc J g tt te vs σ H1 Q := fun D nD =>
  lc_it w (LcP D H1 (R D)) ⟨[], upd_same, same_upd nD, r0 D _ nD upd_same (same_upd nD)⟩ (fun i H hi ⟨acc, h1, h2, h3⟩ => hG H h2)
    (fun i x H H' hi ⟨acc, h1, h2, h3⟩ y => hs D i x H H' acc nD hi h1 h2 h3 y) (fun H ⟨acc, h1, h2, h3⟩ => hd D acc H nD h1 h2 h3)
/-- .. over a row: a list or a tuple -/
theorem lcRow {a : Addr} {xs : List V} {ta : TE} {g : TG} {tt : TT} {te : TE} {vs : List Nat} {H1 : Hp} {Q : VK} (ea : ∀ Q : VK, Q (.ref a) H1 → ta σ H1 Q) (hr : Ru.SqR K H1 a xs) (R : Addr → Nat → List V → Hp → Prop)
    (r0 : ∀ (D : Addr) (G : Hp), H1 D = none → G D = some (.lst []) → Same H1 G → R D 0 [] G)
    (hs : ∀ (D : Addr) i x H acc, H1 D = none → i < xs.length → H D = some (.lst acc) → Same H1 H → R D i acc H → xs[i]? = some x → g x (wipe σ vs) H fun σ2 H2 => wipe σ2 vs = wipe σ vs ∧ tt σ2 H2 fun b H3 =>
      if b = true then te σ2 H3 fun y H4 => LcPush D H1 (R D) i y H4 else LcP D H1 (R D) (i + 1) H3)
    (hd : ∀ (D : Addr) acc H, H1 D = none → H D = some (.lst acc) → Same H1 H → R D xs.length acc H → Q (.ref D) H) : (fun σ H R => iList K ta σ H R ∨ iTup K ta σ H R) σ H1 fun J H1 => Lc J g tt te vs σ H1 Q := by
  rcases hr with hr | hr
  · exact .inl (ea _ ⟨a, rfl, ⟨_, hr⟩, lcS walk_list (fun _ s => s.seq hr) R r0 (fun D i x H H' acc nD hi hD sm r ⟨e, hx⟩ => by cases e; exact hs D i x H acc nD hi hD sm r hx) hd⟩)
  · exact .inr (ea _ ⟨a, rfl, ⟨_, hr⟩, lcS walk_tup (fun _ s => Ru.same_tup s hr) R r0 (fun D i x H H' acc nD hi hD sm r ⟨e, hx⟩ => by cases e; exact hs D i x H acc nD hi hD sm r hx) hd⟩)
theorem wipeE {A B : L2.St} {P : Prop} (e : A = B) (h : P) : A = B ∧ P := ⟨e, h⟩
/-! ### list(range(..)) -/
theorem lstRg {te : L2.St → Hp → (Int → Int → Hp → Prop) → Prop} {Q : VK} (h : te σ H fun a b H1 => RgOk a b ∧ NewQ (.lst (rgV a b)) Q H1) : tLstRg te σ H Q := h
theorem tupRg {te : L2.St → Hp → (Int → Int → Hp → Prop) → Prop} {Q : VK} (h : te σ H fun a b H1 => RgOk a b ∧ NewQ (.tup (rgV a b)) Q H1) : tTupRg te σ H Q := h
theorem rg1 {ta : TE} {Q : Int → Int → Hp → Prop} (h : ta σ H fun x H1 => ∃ n, x = .int n ∧ Q 0 n H1) : tRg1 ta σ H Q := h
theorem rg2 {ta tb : TE} {Q : Int → Int → Hp → Prop} (h : ta σ H fun x H1 => tb σ H1 fun y H2 => ∃ i j, x = .int i ∧ y = .int j ∧ Q i j H2) : tRg2 ta tb σ H Q := h
theorem intE2 {i j : Int} {P : Int → Int → Prop} (h : P i j) : ∃ a b, V.int i = .int a ∧ V.int j = .int b ∧ P a b := ⟨i, j, rfl, rfl, h⟩
theorem rgV0 (n : Nat) : rgV 0 (n : Int) = ((List.range n).map fun i : Nat => (i : Int)).map V.int := by
  unfold rgV
  rw [List.map_map, show ((n : Int) - 0).toNat = n by omega]
  refine List.map_congr_left fun i _ => ?_
  show V.int (0 + (i : Nat)) = V.int (i : Int)
  rw [Int.zero_add]
/-! ### dicts with ints as keys -/
theorem dnew {Q : VK} (h : ∀ (p : Addr) (G : Hp), H p = none → G p = some (.dK []) → Same H G → Q (.ref p) G) : tDNewK σ H Q :=
  fun p hp => h p _ hp upd_same fun b u e => by rw [upd_ne (ne_of_none e hp)]; exact e
theorem dgetH {td ty : TE} {Q : VK} (h : td σ H fun x H1 => ty σ H1 fun y H2 => ∃ a v, x = .ref a ∧ DGet H2 a y (some v) ∧ Q v H2) : tDGet td ty σ H Q := h
theorem dget {a : Addr} {kvs : List (Key × V)} {k : Int} {v : V} {P : V → Prop} (e : H a = some (.dK kvs)) (hv : valV kvs (.inl k) = some v) (q : P v) : ∃ a' v', V.ref a = .ref a' ∧ DGet H a' (.int k) (some v') ∧ P v' :=
  ⟨a, v, rfl, hv ▸ DGet.k (k := .inl k) e, q⟩
theorem dgetF {a : Addr} {o : Obj} {kvs : List (Key × V)} {k : Int} {v : V} {P : V → Prop} (e : H a = some (.frz o (.dK kvs))) (hv : valV kvs (.inl k) = some v) (q : P v) : ∃ a' v', V.ref a = .ref a' ∧ DGet H a' (.int k) (some v') ∧ P v' :=
  ⟨a, v, rfl, .inl ⟨kvs, .inl k, .inr ⟨o, e⟩, rfl, hv.symm⟩, q⟩
theorem dinH {ty td : TE} {Q : VK} (h : ty σ H fun y H1 => td σ H1 fun x H2 => ∃ a o, x = .ref a ∧ DGet H2 a y o ∧ Q (.bl o.isSome) H2) : tDIn ty td σ H Q := h
theorem dninH {ty td : TE} {Q : VK} (h : ty σ H fun y H1 => td σ H1 fun x H2 => ∃ a o, x = .ref a ∧ DGet H2 a y o ∧ Q (.bl (!o.isSome)) H2) : tDNotIn ty td σ H Q := h
theorem dany {a : Addr} {kvs : List (Key × V)} {k : Int} {P : Option V → Prop} (e : H a = some (.dK kvs)) (q : P (valV kvs (.inl k))) : ∃ a' o, V.ref a = .ref a' ∧ DGet H a' (.int k) o ∧ P o :=
  ⟨a, _, rfl, DGet.k (k := .inl k) e, q⟩
theorem dput {a : Addr} {kvs : List (Key × V)} {k : Int} {v : V} {Q : Hp → Prop} (e : H a = some (.dK kvs)) (hl : kvs.length < sizeLine) (h : ∀ G : Hp, G a = some (.dK (putK kvs (.inl k) v)) → (∀ b, b ≠ a → G b = H b) → Q G) : rSetD (.ref a) (.int k) v H Q :=
  ⟨a, _, rfl, DPut.k (k := .inl k) e hl, h _ upd_same fun b hb => upd_ne hb⟩
theorem dget1H {td ty : TE} {Q : VK} (h : td σ H fun x H1 => ∃ a, x = .ref a ∧ IsD H1 a ∧ ty σ H1 fun y H2 => ∃ o, DGet H2 a y o ∧ Q (o.getD .non) H2) : tDGet1 td ty σ H Q := h
theorem isD {a : Addr} {kvs : List (Key × V)} {P : Addr → Prop} (e : H a = some (.dK kvs)) (q : P a) : ∃ a', V.ref a = .ref a' ∧ IsD H a' ∧ P a' := ⟨a, rfl, .inl ⟨kvs, .inl e⟩, q⟩
theorem dgetO {a : Addr} {kvs : List (Key × V)} {k : Int} {P : Option V → Prop} (e : H a = some (.dK kvs)) (q : P (valV kvs (.inl k))) : ∃ o, DGet H a (.int k) o ∧ P o := ⟨_, DGet.k (k := .inl k) e, q⟩
/-- a for over the keys of a dict that is written nowhere in it -/
theorem forD {td : TE} {g : TG} {tb : TS} {a : Addr} {kvs : List (Key × V)} (hd : H a = some (.dK kvs)) (et : ∀ (H1 : Hp) (Q : VK), Q (.ref a) H1 → td σ H1 Q) (Pv : Nat → L2.St → Hp → Prop)
    (h0 : ∀ od, Pv 0 σ (upd H a (.frz od (.dK kvs)))) (hs : ∀ od i k v σ H, kvs[i]? = some (k, v) → H a = some (.frz od (.dK kvs)) → Pv i σ H → g (kV k) σ H fun σ2 H2 => tb { nx := fun σ' H' => H' a = some (.frz od (.dK kvs)) ∧ Pv (i + 1) σ' H', rt := fun v H' => H' a = some (.frz od (.dK kvs)) ∧ D.rt v (upd H' a (.dK kvs)), bk := fun σ' H' => H' a = some (.frz od (.dK kvs)) ∧ D.nx σ' (upd H' a (.dK kvs)), ct := fun σ' H' => H' a = some (.frz od (.dK kvs)) ∧ Pv (i + 1) σ' H' } σ2 H2)
    (hn : ∀ od σ H, H a = some (.frz od (.dK kvs)) → Pv kvs.length σ H → D.nx σ (upd H a (.dK kvs))) : tLock (tFor (iKeys td) g tb) D σ H := by
  refine ⟨a, .dK kvs, hd, trivial, fun od => ?_⟩
  refine et _ _ ⟨a, od, rfl, .inl ⟨kvs, upd_same, ?_⟩⟩
  exact for_it walk_keys (fun i σ H => H a = some (.frz od (.dK kvs)) ∧ Pv i σ H) ⟨upd_same, h0 od⟩ (fun i σ H _ h => h.1)
    (fun i x σ H H' hi ⟨h1, h2⟩ ⟨e, k, v, hk, hx⟩ => by cases e; cases hx; exact hs od i k v σ H hk h1 h2) (fun σ H ⟨h1, h2⟩ => ⟨h1, hn od σ H h1 h2⟩)
def nListD : List V → Hp → VK → Prop := fun xs H Q => ∃ p kvs, xs = [.ref p] ∧ H p = some (.dK kvs) ∧ ∀ q, H q = none → Q (.ref q) (upd H q (.lst (kvs.map fun kv => kV kv.1)))
theorem listD {a : Addr} {kvs : List (Key × V)} {Q : VK} (e : H a = some (.dK kvs)) (h : NewQ (.lst (kvs.map fun kv => kV kv.1)) Q H) : rListD [.ref a] H Q := ⟨a, kvs, rfl, e, h⟩
/-! ### joins -/
theorem m1 {r : V → List V → Hp → VK → Prop} {to te : TE} {Q : VK} (h : to σ H fun x H1 => (∃ a, x = .str a) ∧ te σ H1 fun y H2 => r x [y] H2 Q) : tM1 r to te σ H Q := h
theorem strX {a : Str} {R : Prop} (h : R) : (∃ b, V.str a = .str b) ∧ R := ⟨⟨a, rfl⟩, h⟩
theorem join {a : Str} {p : Addr} {ys : List Str} {Q : VK} (hp : SqL K H p (ys.map V.str) ∨ SqT K H p (ys.map V.str)) (hz : (ys.map (·.length)).sum + ys.length * a.length ≤ 16777216) (h : Q (.str (Txt.join a ys)) H) :
    ∃ a' p', ∃ ys' : List Str, V.str a = .str a' ∧ [V.ref p] = [.ref p'] ∧ (SqL K H p' (ys'.map V.str) ∨ SqT K H p' (ys'.map V.str)) ∧ (ys'.map (·.length)).sum + ys'.length * a'.length ≤ 16777216 ∧ Q (.str (Txt.join a' ys')) H := ⟨a, p, ys, rfl, rfl, hp, hz, h⟩
/-! ### own objects -/
def FldG (K : PySem.W.Frag) (f : Str) : V → Hp → VK → Prop := fun x H1 Q => ∃ a C dx fs v, x = .ref a ∧ H1 a = some (.ins C dx fs) ∧ Cls K C ∧ NoAttr K C f ∧ fs.lookup f = some v ∧ Q v H1
theorem fldH {ta : TE} {f : Str} {Q : VK} (h : ta σ H fun x H1 => FldG K f x H1 Q) : tFld K ta f σ H Q := h
theorem fld {f : Str} {a C dx : Addr} {fs : List (Str × V)} {v : V} {Q : VK} (e : H a = some (.ins C dx fs)) (c : Cls K C) (n : NoAttr K C f) (l : fs.lookup f = some v) (q : Q v H) : FldG K f (.ref a) H Q := ⟨a, C, dx, fs, v, rfl, e, c, n, l, q⟩
def FldS (K : PySem.W.Frag) (f : Str) (y : V) : V → Hp → (Hp → Prop) → Prop := fun x H2 Q => ∃ a C dx fs, x = .ref a ∧ H2 a = some (.ins C dx fs) ∧ Cls K C ∧ NoAttr K C f ∧ fs.length < 1000 ∧ Q (upd H2 a (.ins C dx (putF f y fs)))
theorem sfldH {ta tv : TE} {f : Str} (h : tv σ H fun y H1 => ta σ H1 fun x H2 => FldS K f y x H2 (D.nx σ)) : sFld K ta tv f D σ H := h
theorem sfld {f : Str} {a C dx : Addr} {fs fs' : List (Str × V)} {y : V} {Q : Hp → Prop} (e : H a = some (.ins C dx fs)) (c : Cls K C) (n : NoAttr K C f) (l : fs.length < 1000) (hf : putF f y fs = fs') (q : ∀ G : Hp, G a = some (.ins C dx fs') → (∀ b, b ≠ a → G b = H b) → Q G) : FldS K f y (.ref a) H Q :=
  ⟨a, C, dx, fs, rfl, e, c, n, l, hf ▸ q _ upd_same fun b hb => upd_ne hb⟩
def MkG (C : Addr) (sp : Sp) (dvs : List V) (E : XK) (vs : List V) (H1 : Hp) (Q : VK) : Prop := ∀ x dx, H1 x = none → H1 dx = none → dx ≠ x → sp (.ref x :: (vs ++ dvs)) (upd (upd H1 dx (.own x)) x (.ins C dx [])) (fun v H2 => v = .non ∧ Q (.ref x) H2) E
theorem mkH {C : Addr} {sp : Sp} {dvs : List V} {E : XK} {t : TA} {Q : VK} (h : t σ H fun vs H1 => MkG C sp dvs E vs H1 Q) : tMake C sp dvs E t σ H Q := h
theorem mk {C : Addr} {sp : Sp} {dvs : List V} {E : XK} {vs : List V} {Q : VK} (h : ∀ (x dx : Addr) (G : Hp), H x = none → H dx = none → dx ≠ x → G x = some (.ins C dx []) → Same H G → (∀ b, b ≠ x → b ≠ dx → G b = H b) → sp (.ref x :: (vs ++ dvs)) G (fun v H2 => v = .non ∧ Q (.ref x) H2) E) : MkG C sp dvs E vs H Q := fun x dx hx hd hne =>
  h x dx _ hx hd hne upd_same (fun b o e => by rw [upd_ne (ne_of_none e hx), upd_ne (ne_of_none e hd)]; exact e) fun b h1 h2 => by rw [upd_ne h1, upd_ne h2]
def MethG (C : Addr) (m : Str) (x : V) (H : Hp) (Q : Prop) : Prop := ∃ a dx fs, x = .ref a ∧ H a = some (.ins C dx fs) ∧ fs.lookup m = none ∧ Q
theorem methH {C : Addr} {m : Str} {sp : Sp} {dvs : List V} {E : XK} {ta : TE} {t : TA} {Q : VK} (h : ta σ H fun x H1 => MethG C m x H1 (t σ H1 fun vs H2 => sp (x :: (vs ++ dvs)) H2 Q E)) : tMeth C m sp dvs E ta t σ H Q := h
theorem meth {C : Addr} {m : Str} {a dx : Addr} {fs : List (Str × V)} {Q : Prop} (e : H a = some (.ins C dx fs)) (l : fs.lookup m = none) (q : Q) : MethG C m (.ref a) H Q := ⟨a, dx, fs, rfl, e, l, q⟩
/-! ### isinstance -/
theorem isi {x : V} {a b : String} {r : Bool} {Q : VK} (ht : TyX K H x (.type a)) (h : kitB a b = some r) (q : Q (.bl r) H) : rIsi K [x, .ty b] H Q := ⟨_, _, _, _, r, rfl, .ty b, ht, kit_ty h, q⟩
theorem isiStr {z : Str} {Q : VK} (q : Q (.bl true) H) : rIsi K [.str z, .ty "str"] H Q := isi (.base (.str z)) (by decide +kernel) q
theorem isiB {z : Bool} {Q : VK} (q : Q (.bl true) H) : rIsi K [.bl z, .ty "bool"] H Q := isi (.base (.bl z)) (by decide +kernel) q
theorem isiI {z : Int} {Q : VK} (q : Q (.bl true) H) : rIsi K [.int z, .ty "int"] H Q := isi (.base (.int z)) (by decide +kernel) q
theorem isiIB {z : Int} {Q : VK} (q : Q (.bl false) H) : rIsi K [.int z, .ty "bool"] H Q := isi (.base (.int z)) (by decide +kernel) q
end Rd
namespace W
open PySem PySem.Spec PyProof.Rows L2
theorem kit_self {K : PySem.W.Frag} {C : Addr} : PySem.W.kitOne K (.ref C) (.ref C) = some true := by
  unfold PySem.W.kitOne
  simp
/-- what isinstance asks of an own class -/
structure OwnTy (K : PySem.W.Frag) (C : Addr) : Prop where
  ha : PySem.W.findIn K (.ref C) "__class__" = some (some (.builtin "object.__class__"))
  hn : PySem.W.specialIn K (.builtin "object.__class__") "__get__" = some (some (.builtin "getset_descriptor.__get__"))
  htk : PySem.W.takesIn K (.builtin "object.__class__") = some true
  hm : PySem.W.mroIn K C (.type "object") = some true
  me : PySem.W.kitOne K (.ref C) (.ref C) = some true
theorem isiOwn {K : PySem.W.Frag} {H : Hp} {a C dx : Addr} {fs : List (Str × V)} {Q : VK} (c : Cls K C) (o : OwnTy K C) (e : H a = some (.ins C dx fs)) (q : Q (.bl true) H) : rIsi K [.ref a, .ref C] H Q :=
  ⟨_, _, _, _, true, rfl, .own C, .base (.ins e c o.ha o.hn o.htk o.hm), o.me, q⟩
end W
/-! ### letters -/
namespace Lt
open PySem PySem.Spec PyProof.Rows L2
def Abc : Str := "abcdefghijklmnopqrstuvwxyz"
def Let (z : Str) : Prop := ∀ c ∈ z.cps.toList, c ∈ Abc.cps.toList
theorem Let.app {a b : Str} (x : Let a) (y : Let b) : Let (a ++ b) := fun c h => by
  have : c ∈ a.cps.toList ++ b.cps.toList := by
    rw [← Array.toList_append]
    exact h
  exact (List.mem_append.mp this).elim (x c) (y c)
theorem len_app (a b : Str) : (a ++ b).length = a.length + b.length := Array.size_append
theorem Let.cut {z : Str} (x : Let z) (lo hi : Option Int) : Let (cutS z lo hi) := fun c h => x c (List.mem_of_mem_drop (List.mem_of_mem_take (show c ∈ (z.cps.toList.drop _).take _ from by simpa [cutS] using h)))
theorem Let.one {c : Nat} (h : c ∈ Abc.cps.toList) : Let ⟨#[c]⟩ := fun d hd => by
  have : d = c := by simpa using hd
  exact this ▸ h
theorem Let.empty : Let "" := fun c h => by exact absurd h (by decide +revert)
theorem Let.ok {z : Str} (x : Let z) : PyData.strOk z = true := by
  unfold PyData.strOk
  rw [Array.all_eq_true']
  intro c hc
  have h := x c (by simpa using hc)
  have : ∀ c ∈ Abc.cps.toList, decide (c < 0x110000) = true := by decide +kernel
  exact this c h
theorem Let.char {z : Str} (x : Let z) {c : Nat} {i : Nat} (h : z.cps.toList[i]? = some c) : c ∈ Abc.cps.toList := x c (List.mem_of_getElem? h)
theorem cut_len {z : Str} {a b : Nat} (h : a ≤ b) (hb : b ≤ z.length) : (cutS z (some (a : Int)) (some (b : Int))).length = b - a := by
  show (((z.cps.toList.drop (HT.sIx z.length 0 (some (a : Int)))).take (HT.sIx z.length z.length (some (b : Int)) - HT.sIx z.length 0 (some (a : Int)))).toArray).size = b - a
  rw [List.size_toArray, List.length_take, List.length_drop, Array.length_toList, HT.sIx_nat, HT.sIx_nat]
  unfold Str.length at hb ⊢
  omega
theorem cut_lenI {z : Str} {a b : Int} (h0 : 0 ≤ a) (h : a ≤ b) (hb : b ≤ z.length) : ((cutS z (some a) (some b)).length : Int) = b - a := by
  have := cut_len (z := z) (a := a.toNat) (b := b.toNat) (by omega) (by omega)
  rw [show ((a.toNat : Nat) : Int) = a by omega, show ((b.toNat : Nat) : Int) = b by omega] at this
  omega
theorem cut_from {z : Str} {a : Int} (h0 : 0 ≤ a) (h : a ≤ z.length) : ((cutS z (some a) none).length : Int) = z.length - a := by
  have e : (cutS z (some a) none).length = z.length - a.toNat := by
    show (((z.cps.toList.drop (HT.sIx z.length 0 (some a))).take (HT.sIx z.length z.length none - HT.sIx z.length 0 (some a))).toArray).size = _
    have e1 : HT.sIx z.length 0 (some a) = a.toNat := by
      have := HT.sIx_nat z.length 0 a.toNat
      rw [show ((a.toNat : Nat) : Int) = a by omega] at this
      rw [this]
      omega
    rw [List.size_toArray, List.length_take, List.length_drop, Array.length_toList, e1]
    show min (z.length - a.toNat) (z.cps.size - a.toNat) = _
    unfold Str.length
    omega
  omega
theorem cut_to {z : Str} {b : Int} (h0 : 0 ≤ b) : ((cutS z none (some b)).length : Int) = min b z.length := by
  have e : (cutS z none (some b)).length = min b.toNat z.length := by
    show (((z.cps.toList.drop (HT.sIx z.length 0 none)).take (HT.sIx z.length z.length (some b) - HT.sIx z.length 0 none)).toArray).size = _
    have e1 : HT.sIx z.length z.length (some b) = min b.toNat z.length := by
      have := HT.sIx_nat z.length z.length b.toNat
      rw [show ((b.toNat : Nat) : Int) = b by omega] at this
      exact this
    have e2 : HT.sIx z.length 0 none = 0 := rfl
    rw [List.size_toArray, List.length_take, List.length_drop, Array.length_toList, e1, e2]
    unfold Str.length
    omega
  omega
theorem join_let : ∀ ys : List Str, (∀ y ∈ ys, Let y) → Let (Str.join "" ys) ∧ (Str.join "" ys).length = (ys.map (·.length)).sum
  | [], _ => ⟨fun c h => by exact absurd h (by decide +revert), by decide +kernel⟩
  | [y], h => ⟨h y (by simp), by simp [Str.join]⟩
  | y :: z :: r, h => by
    have ih := join_let (z :: r) fun x hx => h x (List.mem_cons_of_mem _ hx)
    have e : Str.join "" (y :: z :: r) = y ++ "" ++ Str.join "" (z :: r) := rfl
    rw [e]
    refine ⟨((h y List.mem_cons_self).app Let.empty).app ih.1, ?_⟩
    rw [len_app, len_app, ih.2, show (Str.ofString "").length = 0 by decide +kernel]
    show y.length + 0 + _ = (y.length :: (z :: r).map (·.length)).sum
    rw [List.sum_cons]
    rfl
theorem join_one {ys : List Str} {n : Nat} (hl : ys.length = n) (h : ∀ y ∈ ys, Let y ∧ y.length = 1) : Let (Txt.join "" ys) ∧ (Txt.join "" ys).length = n ∧ (ys.map (·.length)).sum = n := by
  have j := join_let ys fun y hy => (h y hy).1
  have e : (ys.map (·.length)).sum = ys.length := by
    clear j hl
    induction ys with
    | nil => rfl
    | cons y r ih => rw [List.map_cons, List.sum_cons, ih fun x hx => h x (List.mem_cons_of_mem _ hx), (h y List.mem_cons_self).2, List.length_cons]; omega
  rw [TL.join_eq]
  exact ⟨j.1, by rw [j.2, e, hl], by rw [e, hl]⟩
theorem ne_of_len {z : Str} (h : 0 < z.length) : ¬ z = "" := fun e => by
  subst e
  exact absurd h (by decide +revert)
theorem len_of_ne {z : Str} (h : ¬ z = "") : 0 < z.length := by
  rcases Nat.eq_zero_or_pos z.length with e | e
  · exfalso
    refine h ?_
    have : z.cps = #[] := Array.eq_empty_of_size_eq_zero e
    cases z
    simp only at this
    subst this
    decide +kernel
  · exact e
/-- a word: some letters, at least one, at most n -/
structure Wd (n : Int) (z : Str) : Prop where
  ok : Let z
  l0 : 1 ≤ z.length
  l1 : (z.length : Int) ≤ n
theorem Wd.mono {n m : Int} {z : Str} (h : Wd n z) (k : n ≤ m) : Wd m z := ⟨h.ok, h.l0, Int.le_trans h.l1 k⟩
theorem Wd.line {n : Int} {z : Str} (h : Wd n z) (k : n ≤ 1000000) : z.length ≤ sizeLine := by
  have := h.l1
  rw [sizeLine_eq]
  omega
end Lt

/-! Plain law: spots of a word, joined by watches that occur. -/
namespace Mw
open PySem PySem.Spec PyProof.Rows L2
/-- led on from x -/
inductive Star (R : Nat → Nat → Prop) (x : Nat) : Nat → Prop where
  | refl : Star R x x
  | step {y z : Nat} (h : Star R x y) (r : R y z) : Star R x z
theorem Star.one {R : Nat → Nat → Prop} {x y : Nat} (r : R x y) : Star R x y := .step .refl r
theorem Star.trans {R : Nat → Nat → Prop} {x y z : Nat} (a : Star R x y) (b : Star R y z) : Star R x z := by
  induction b with
  | refl => exact a
  | step _ r ih => exact .step ih r
theorem Star.symm {R : Nat → Nat → Prop} (s : ∀ x y, R x y → R y x) {x y : Nat} (a : Star R x y) : Star R y x := by
  induction a with
  | refl => exact .refl
  | step _ r ih => exact (Star.one (s _ _ r)).trans ih
theorem Star.mono {R S : Nat → Nat → Prop} (s : ∀ x y, R x y → S x y) {x y : Nat} (a : Star R x y) : Star S x y := by
  induction a with
  | refl => exact .refl
  | step _ r ih => exact .step ih (s _ _ r)
theorem Star.iff {R S : Nat → Nat → Prop} (s : ∀ x y, R x y ↔ S x y) {x y : Nat} : Star R x y ↔ Star S x y := ⟨Star.mono fun x y => (s x y).mp, Star.mono fun x y => (s x y).mpr⟩
/-- W occurs in z from s -/
def Occ (W z : Str) (s : Nat) : Prop := s + W.length ≤ z.length ∧ cutS z (some (s : Int)) (some ((s : Int) + (W.length : Int))) = W
/-- two spots joined by W, W from a spot below m -/
def EdgeB (W z : Str) (m : Nat) (i j : Nat) : Prop := (i < m ∧ Occ W z i ∧ j = i + W.length) ∨ (j < m ∧ Occ W z j ∧ i = j + W.length)
def Edge (W z : Str) (i j : Nat) : Prop := (Occ W z i ∧ j = i + W.length) ∨ (Occ W z j ∧ i = j + W.length)
def Adj (ws : List Str) (z : Str) (i j : Nat) : Prop := ∃ W ∈ ws, Edge W z i j
def AdjB (ws : List Str) (W z : Str) (m : Nat) (i j : Nat) : Prop := Adj ws z i j ∨ EdgeB W z m i j
/-- the watches tell the word -/
def Told (ws : List Str) (z : Str) : Prop := Star (Adj ws z) 0 z.length
theorem Edge.symm {W z : Str} {i j : Nat} (h : Edge W z i j) : Edge W z j i := h.elim .inr .inl
theorem Adj.symm {ws : List Str} {z : Str} (i j : Nat) (h : Adj ws z i j) : Adj ws z j i := let ⟨W, m, e⟩ := h; ⟨W, m, e.symm⟩
theorem EdgeB.symm {W z : Str} {m i j : Nat} (h : EdgeB W z m i j) : EdgeB W z m j i := h.elim .inr .inl
theorem AdjB.symm {ws : List Str} {W z : Str} {m : Nat} (i j : Nat) (h : AdjB ws W z m i j) : AdjB ws W z m j i := h.elim (fun h => .inl (Adj.symm _ _ h)) fun h => .inr h.symm
theorem Adj.le {ws : List Str} {z : Str} {i j : Nat} (h : Adj ws z i j) : i ≤ z.length ∧ j ≤ z.length := by
  obtain ⟨W, _, ⟨o, e⟩ | ⟨o, e⟩⟩ := h <;> have := o.1 <;> omega
theorem adj_nil {z : Str} {i j : Nat} : ¬ Adj [] z i j := fun ⟨_, h, _⟩ => by simp at h
theorem adjB_zero {ws : List Str} {W z : Str} {i j : Nat} : AdjB ws W z 0 i j ↔ Adj ws z i j := ⟨fun h => h.elim id fun h => by rcases h with ⟨h, _⟩ | ⟨h, _⟩ <;> omega, .inl⟩
theorem adjB_all {ws : List Str} {W z : Str} {i j : Nat} {n : Nat} (hn : (n : Int) = ((z.length : Int) - (W.length : Int) + 1).toNat) : AdjB ws W z n i j ↔ Adj (ws ++ [W]) z i j := by
  constructor
  · rintro (⟨V, h, e⟩ | ⟨_, o, e⟩ | ⟨_, o, e⟩)
    · exact ⟨V, List.mem_append.mpr (.inl h), e⟩
    · exact ⟨W, List.mem_append.mpr (.inr (by simp)), .inl ⟨o, e⟩⟩
    · exact ⟨W, List.mem_append.mpr (.inr (by simp)), .inr ⟨o, e⟩⟩
  · rintro ⟨V, h, e⟩
    rcases List.mem_append.mp h with h | h
    · exact .inl ⟨V, h, e⟩
    · simp at h
      subst h
      rcases e with ⟨o, e⟩ | ⟨o, e⟩
      · exact .inr (.inl ⟨by have := o.1; omega, o, e⟩)
      · exact .inr (.inr ⟨by have := o.1; omega, o, e⟩)
theorem adjB_no {ws : List Str} {W z : Str} {m : Nat} {i j : Nat} (h : ¬ Occ W z m) : AdjB ws W z (m + 1) i j ↔ AdjB ws W z m i j := by
  unfold AdjB EdgeB
  constructor
  · rintro (a | ⟨l, o, e⟩ | ⟨l, o, e⟩)
    · exact .inl a
    · rcases Nat.lt_succ_iff_lt_or_eq.mp l with l | l
      · exact .inr (.inl ⟨l, o, e⟩)
      · exact absurd (l ▸ o) h
    · rcases Nat.lt_succ_iff_lt_or_eq.mp l with l | l
      · exact .inr (.inr ⟨l, o, e⟩)
      · exact absurd (l ▸ o) h
  · rintro (a | ⟨l, o, e⟩ | ⟨l, o, e⟩)
    · exact .inl a
    · exact .inr (.inl ⟨by omega, o, e⟩)
    · exact .inr (.inr ⟨by omega, o, e⟩)
theorem adjB_yes {ws : List Str} {W z : Str} {m : Nat} {i j : Nat} (h : Occ W z m) : AdjB ws W z (m + 1) i j ↔ AdjB ws W z m i j ∨ (i = m ∧ j = m + W.length) ∨ (j = m ∧ i = m + W.length) := by
  unfold AdjB EdgeB
  constructor
  · rintro (a | ⟨l, o, e⟩ | ⟨l, o, e⟩)
    · exact .inl (.inl a)
    · rcases Nat.lt_succ_iff_lt_or_eq.mp l with l | l
      · exact .inl (.inr (.inl ⟨l, o, e⟩))
      · exact .inr (.inl ⟨l, by omega⟩)
    · rcases Nat.lt_succ_iff_lt_or_eq.mp l with l | l
      · exact .inl (.inr (.inr ⟨l, o, e⟩))
      · exact .inr (.inr ⟨l, by omega⟩)
  · rintro ((a | ⟨l, o, e⟩ | ⟨l, o, e⟩) | ⟨l, e⟩ | ⟨l, e⟩)
    · exact .inl a
    · exact .inr (.inl ⟨by omega, o, e⟩)
    · exact .inr (.inr ⟨by omega, o, e⟩)
    · subst l; exact .inr (.inl ⟨by omega, h, e⟩)
    · subst l; exact .inr (.inr ⟨by omega, h, e⟩)
/-! ### no two alike among few -/
theorem nodup_le {α : Type} [DecidableEq α] : ∀ (l m : List α), l.Nodup → (∀ x ∈ l, x ∈ m) → l.length ≤ m.length
  | [], _, _, _ => Nat.zero_le _
  | a :: t, m, nd, h => by
    have ⟨h1, h2⟩ := List.nodup_cons.mp nd
    have ha := h a List.mem_cons_self
    have := nodup_le t (m.erase a) h2 fun x hx => (List.mem_erase_of_ne fun e : x = a => h1 (by rw [← e]; exact hx)).mpr (h x (List.mem_cons_of_mem _ hx))
    rw [List.length_erase_of_mem ha] at this
    have := List.length_pos_of_mem ha
    rw [List.length_cons]
    omega
theorem nodup_range {l : List Int} {n : Nat} (nd : l.Nodup) (h : ∀ x ∈ l, 0 ≤ x ∧ x ≤ n) : l.length ≤ n + 1 := by
  have := nodup_le l ((List.range (n + 1)).map fun i : Nat => (i : Int)) nd fun x hx => by
    have := h x hx
    exact List.mem_map.mpr ⟨x.toNat, List.mem_range.mpr (by omega), by omega⟩
  rw [List.length_map, List.length_range] at this
  exact this
/-! ### marks -/
/-- alike marks are led to one another, and the other way round -/
def Lab (R : Nat → Nat → Prop) (n : Nat) (ms : List Int) : Prop := ms.length = n + 1 ∧ ∀ i j (x y : Int), ms[i]? = some x → ms[j]? = some y → (x = y ↔ Star R i j)
theorem Lab.start {n : Nat} {R : Nat → Nat → Prop} (hR : ∀ i j, ¬ R i j) : Lab R n ((List.range (n + 1)).map fun i : Nat => (i : Int)) := by
  refine ⟨by simp, fun i j x y hx hy => ?_⟩
  have e1 : x = i := by
    rw [List.getElem?_map] at hx
    cases q : (List.range (n + 1))[i]? with
    | none => rw [q] at hx; cases hx
    | some k =>
      rw [q] at hx
      have : i = k := by
        have := List.getElem?_eq_some_iff.mp q
        obtain ⟨h, e⟩ := this
        simpa using e
      subst this
      exact (Option.some.inj hx).symm
  have e2 : y = j := by
    rw [List.getElem?_map] at hy
    cases q : (List.range (n + 1))[j]? with
    | none => rw [q] at hy; cases hy
    | some k =>
      rw [q] at hy
      have : j = k := by
        have := List.getElem?_eq_some_iff.mp q
        obtain ⟨h, e⟩ := this
        simpa using e
      subst this
      exact (Option.some.inj hy).symm
  subst e1 e2
  constructor
  · intro h
    have : i = j := by omega
    exact this ▸ .refl
  · intro h
    cases h with
    | refl => rfl
    | step _ r => exact absurd r (hR _ _)
theorem Lab.iff {R S : Nat → Nat → Prop} {n : Nat} {ms : List Int} (h : Lab R n ms) (s : ∀ x y, R x y ↔ S x y) : Lab S n ms := ⟨h.1, fun i j x y hx hy => (h.2 i j x y hx hy).trans (Star.iff s)⟩
/-- one more pair: alike already -/
theorem Lab.same {R S : Nat → Nat → Prop} {n : Nat} {ms : List Int} (h : Lab R n ms) {a b : Nat} {x : Int} (ha : ms[a]? = some x) (hb : ms[b]? = some x) (sy : ∀ x y, R x y → R y x) (s : ∀ i j, S i j ↔ R i j ∨ (i = a ∧ j = b) ∨ (j = a ∧ i = b)) : Lab S n ms := by
  refine ⟨h.1, fun i j u v hu hv => (h.2 i j u v hu hv).trans ⟨Star.mono fun i j r => (s i j).mpr (.inl r), fun q => ?_⟩⟩
  have ab : Star R a b := (h.2 a b x x ha hb).mp rfl
  clear hv
  induction q with
  | refl => exact .refl
  | step _ r ih =>
    rcases (s _ _).mp r with r | ⟨rfl, rfl⟩ | ⟨rfl, rfl⟩
    · exact .step ih r
    · exact ih.trans ab
    · exact ih.trans (ab.symm sy)
/-- .. not alike: the one mark gives way to the other -/
theorem Lab.join {R S : Nat → Nat → Prop} {n : Nat} {ms : List Int} (h : Lab R n ms) {a b : Nat} {x y : Int} (ha : ms[a]? = some x) (hb : ms[b]? = some y) (hR : ∀ i j, R i j → i ≤ n ∧ j ≤ n) (sy : ∀ x y, R x y → R y x) (s : ∀ i j, S i j ↔ R i j ∨ (i = a ∧ j = b) ∨ (j = a ∧ i = b)) :
    Lab S n (ms.map fun m => if m = y then x else m) := by
  refine ⟨by rw [List.length_map]; exact h.1, fun i j u v hu hv => ?_⟩
  have get : ∀ {i : Nat} {u : Int}, (ms.map fun m => if m = y then x else m)[i]? = some u → ∃ u0, ms[i]? = some u0 ∧ u = if u0 = y then x else u0 := fun {i u} hu => by
    rw [List.getElem?_map] at hu
    cases q : ms[i]? with
    | none => rw [q] at hu; cases hu
    | some k => rw [q] at hu; exact ⟨k, rfl, (Option.some.inj hu).symm⟩
  obtain ⟨u0, hu0, eu⟩ := get hu
  obtain ⟨v0, hv0, ev⟩ := get hv
  have up : ∀ {i j : Nat}, Star R i j → Star S i j := fun q => q.mono fun i j r => (s i j).mpr (.inl r)
  have ab : Star S a b := .one ((s a b).mpr (.inr (.inl ⟨rfl, rfl⟩)))
  have ba : Star S b a := .one ((s b a).mpr (.inr (.inr ⟨rfl, rfl⟩)))
  constructor
  · intro e
    by_cases c1 : u0 = y
    · have ib : Star S i b := up ((h.2 i b u0 y hu0 hb).mp c1)
      by_cases c2 : v0 = y
      · exact up ((h.2 i j u0 v0 hu0 hv0).mp (c1.trans c2.symm))
      · rw [if_pos c1] at eu
        rw [if_neg c2] at ev
        have aj : Star S a j := up ((h.2 a j x v0 ha hv0).mp (by omega))
        exact (ib.trans ba).trans aj
    · rw [if_neg c1] at eu
      by_cases c2 : v0 = y
      · rw [if_pos c2] at ev
        have bj : Star S b j := up ((h.2 b j y v0 hb hv0).mp c2.symm)
        have ia : Star S i a := up ((h.2 i a u0 x hu0 ha).mp (by omega))
        exact (ia.trans ab).trans bj
      · rw [if_neg c2] at ev
        exact up ((h.2 i j u0 v0 hu0 hv0).mp (by omega))
  · intro q
    have la : a ≤ n := by have := (List.getElem?_eq_some_iff.mp ha).1; have := h.1; omega
    have lb : b ≤ n := by have := (List.getElem?_eq_some_iff.mp hb).1; have := h.1; omega
    -- every spot on the way has its mark
    have key : ∀ {k : Nat}, Star S i k → ∀ w0 : Int, ms[k]? = some w0 → (if u0 = y then x else u0) = if w0 = y then x else w0 := by
      intro k q
      induction q with
      | refl =>
        intro w0 hw
        rw [hu0] at hw
        cases hw
        rfl
      | @step k l _ r ih =>
        intro w0 hw
        have inR : ∀ m : Nat, m ≤ n → ∃ m0, ms[m]? = some m0 := fun m hm => ⟨_, List.getElem?_eq_getElem (by have := h.1; omega)⟩
        rcases (s _ _).mp r with r | ⟨rfl, rfl⟩ | ⟨rfl, rfl⟩
        · obtain ⟨k0, hk⟩ := inR k (hR _ _ r).1
          rw [ih k0 hk, (h.2 k l k0 w0 hk hw).mpr (.one r)]
        · rw [ih x ha]
          rw [hb] at hw
          cases hw
          rw [if_pos rfl]
          split <;> rfl
        · rw [ih y hb]
          rw [ha] at hw
          cases hw
          rw [if_pos rfl]
          split <;> rfl
    rw [eu, ev]
    exact key q v0 hv0
end Mw

/-! Plain law: distances, the least of the shortest ways. -/
namespace Mz
open PySem PySem.Spec PyProof.Rows L2
/-- k steps from x to y -/
def Steps (A : Nat → Nat → Prop) : Nat → Nat → Nat → Prop
  | 0, x, y => x = y
  | k + 1, x, z => ∃ y, Steps A k x y ∧ A y z
/-- k steps and no fewer -/
def Dist (A : Nat → Nat → Prop) (x y k : Nat) : Prop := Steps A k x y ∧ ∀ j, j < k → ¬ Steps A j x y
variable {A : Nat → Nat → Prop}
theorem Steps.trans : ∀ {k j x y z : Nat}, Steps A j x y → Steps A k y z → Steps A (j + k) x z
  | 0, j, x, y, z, a, b => by cases b; exact a
  | k + 1, j, x, y, z, a, ⟨u, b, r⟩ => ⟨u, Steps.trans a b, r⟩
theorem Steps.one {x y : Nat} (r : A x y) : Steps A 1 x y := ⟨x, rfl, r⟩
theorem Steps.cons {k x y z : Nat} (r : A x y) (b : Steps A k y z) : Steps A (k + 1) x z := by
  have := Steps.trans (Steps.one r) b
  rwa [Nat.add_comm] at this
theorem Steps.uncons : ∀ {k x z : Nat}, Steps A (k + 1) x z → ∃ y, A x y ∧ Steps A k y z
  | 0, x, z, ⟨y, e, r⟩ => by cases e; exact ⟨z, r, rfl⟩
  | k + 1, x, z, ⟨y, s, r⟩ => let ⟨u, a, b⟩ := Steps.uncons s; ⟨u, a, y, b, r⟩
theorem Steps.symm (sy : ∀ x y, A x y → A y x) : ∀ {k x y : Nat}, Steps A k x y → Steps A k y x
  | 0, _, _, e => Eq.symm e
  | k + 1, x, z, ⟨y, s, r⟩ => Steps.cons (sy _ _ r) (Steps.symm sy s)
theorem Dist.inj {x y k j : Nat} (a : Dist A x y k) (b : Dist A x y j) : k = j := by
  rcases Nat.lt_trichotomy k j with h | h | h
  · exact absurd a.1 (b.2 k h)
  · exact h
  · exact absurd b.1 (a.2 j h)
theorem Steps.dist {x y : Nat} : ∀ {k : Nat}, Steps A k x y → ∃ d, d ≤ k ∧ Dist A x y d := by
  intro k
  induction k using Nat.strongRecOn with
  | _ k ih =>
    intro h
    by_cases c : ∃ j, j < k ∧ Steps A j x y
    · obtain ⟨j, hj, s⟩ := c
      obtain ⟨d, h1, h2⟩ := ih j hj s
      exact ⟨d, by omega, h2⟩
    · exact ⟨k, Nat.le_refl _, h, fun j hj s => c ⟨j, hj, s⟩⟩
theorem Dist.symm (sy : ∀ x y, A x y → A y x) {x y k : Nat} (h : Dist A x y k) : Dist A y x k := ⟨h.1.symm sy, fun j hj s => h.2 j hj (s.symm sy)⟩
theorem Dist.zero {x : Nat} : Dist A x x 0 := ⟨rfl, fun j h => by omega⟩
theorem Dist.zero_iff {x y : Nat} : Dist A x y 0 ↔ x = y := ⟨fun h => h.1, fun h => h ▸ Dist.zero⟩
/-- one step on from a spot k away, not nearer: k + 1 away -/
theorem Dist.next {x y z k : Nat} (h : Dist A x y k) (r : A y z) (no : ∀ j, j ≤ k → ¬ Dist A x z j) : Dist A x z (k + 1) :=
  ⟨⟨y, h.1, r⟩, fun j hj s => let ⟨d, h1, h2⟩ := s.dist; no d (by omega) h2⟩
/-- the spot ahead on a shortest way -/
theorem Dist.pred {x z k : Nat} (h : Dist A x z (k + 1)) : ∃ y, Dist A x y k ∧ A y z := by
  obtain ⟨y, s, r⟩ := h.1
  exact ⟨y, ⟨s, fun j hj s' => h.2 (j + 1) (by omega) ⟨y, s', r⟩⟩, r⟩
theorem Dist.all {x : Nat} : ∀ {k z : Nat}, Dist A x z k → ∀ j, j ≤ k → ∃ y, Dist A x y j
  | 0, z, h, j, hj => ⟨z, by rw [show j = 0 by omega]; exact h⟩
  | k + 1, z, h, j, hj => by
    by_cases c : j = k + 1
    · exact ⟨z, by rw [c]; exact h⟩
    · obtain ⟨y, hy, _⟩ := h.pred
      exact hy.all j (by omega)
theorem Steps.le {n : Nat} (hA : ∀ i j, A i j → j ≤ n) : ∀ {k x y : Nat}, x ≤ n → Steps A k x y → y ≤ n
  | 0, _, _, h, e => by cases e; exact h
  | _ + 1, _, _, _, ⟨_, _, r⟩ => hA _ _ r
/-- a shortest way within the spots 0 .. n has at most n steps -/
theorem Dist.le {n x z k : Nat} (hA : ∀ i j, A i j → j ≤ n) (hx : x ≤ n) (h : Dist A x z k) : k ≤ n := by
  have ex : ∀ m, m ≤ k + 1 → ∃ l : List Int, l.length = m ∧ l.Nodup ∧ ∀ v ∈ l, 0 ≤ v ∧ v ≤ n ∧ ∃ j, j < m ∧ Dist A x v.toNat j := by
    intro m
    induction m with
    | zero => exact fun _ => ⟨[], rfl, .nil, fun v h => by simp at h⟩
    | succ m ih =>
      intro hm
      obtain ⟨l, h1, h2, h3⟩ := ih (by omega)
      obtain ⟨y, hy⟩ := h.all m (by omega)
      have yl : y ≤ n := Steps.le hA hx hy.1
      refine ⟨(y : Int) :: l, by rw [List.length_cons, h1], List.nodup_cons.mpr ⟨fun q => ?_, h2⟩, fun v hv => ?_⟩
      · obtain ⟨_, _, j, hj, d⟩ := h3 _ q
        have := d.inj hy
        omega
      · rcases List.mem_cons.mp hv with rfl | hv
        · exact ⟨by omega, by omega, m, by omega, hy⟩
        · obtain ⟨a, b, j, hj, d⟩ := h3 v hv
          exact ⟨a, b, j, by omega, d⟩
  obtain ⟨l, h1, h2, h3⟩ := ex (k + 1) (Nat.le_refl _)
  have := Mw.nodup_range h2 fun v hv => ⟨(h3 v hv).1, (h3 v hv).2.1⟩
  omega
theorem star_steps {x y : Nat} : Mw.Star A x y ↔ ∃ k, Steps A k x y := by
  constructor
  · intro h
    induction h with
    | refl => exact ⟨0, rfl⟩
    | step _ r ih => let ⟨k, s⟩ := ih; exact ⟨k + 1, _, s, r⟩
  · rintro ⟨k, s⟩
    induction k generalizing y with
    | zero => cases s; exact .refl
    | succ k ih => let ⟨u, s, r⟩ := s; exact .step (ih s) r
theorem star_dist {x y : Nat} : Mw.Star A x y ↔ ∃ k, Dist A x y k := star_steps.trans ⟨fun ⟨_, s⟩ => let ⟨d, _, h⟩ := s.dist; ⟨d, h⟩, fun ⟨k, h⟩ => ⟨k, h.1⟩⟩
/-- the least of the shortest ways from x to n, step by step -/
inductive Gr (A : Nat → Nat → Prop) (n : Nat) : Nat → List Nat → Prop where
  | stop : Gr A n n [n]
  | step {x w d : Nat} {P : List Nat} (hx : Dist A x n (d + 1)) (r : A x w) (hw : Dist A w n d) (least : ∀ v, A x v → Dist A v n d → w ≤ v) (h : Gr A n w P) : Gr A n x (x :: P)
theorem Gr.inj {n : Nat} : ∀ {P P' : List Nat} {x : Nat}, Gr A n x P → Gr A n x P' → P = P' := by
  intro P P' x a
  induction a generalizing P' with
  | stop =>
    intro b
    cases b with
    | stop => rfl
    | step hx _ _ _ _ => have := hx.inj Dist.zero; omega
  | @step x w d P hx r hw least h ih =>
    intro b
    cases b with
    | stop => have := hx.inj Dist.zero; omega
    | @step _ w' d' P' hx' r' hw' least' h' =>
      have e : d = d' := by have := hx.inj hx'; omega
      subst e
      have : w = w' := by
        have := least w' r' hw'
        have := least' w r hw
        omega
      subst this
      rw [ih h']
/-- a least one is there -/
theorem least_of {P : Nat → Prop} {m : Nat} (h : P m) : ∃ w, P w ∧ ∀ v, P v → w ≤ v := by
  induction m using Nat.strongRecOn with
  | _ m ih =>
    by_cases c : ∃ v, v < m ∧ P v
    · obtain ⟨v, l, p⟩ := c
      exact ih v l p
    · exact ⟨m, h, fun v p => by
        rcases Nat.lt_or_ge v m with l | l
        · exact absurd ⟨v, l, p⟩ c
        · exact l⟩
/-! ### the order of ways -/
/-- not after, as tuples of one length are ordered -/
def lle : List Nat → List Nat → Prop
  | [], _ => True
  | _ :: _, [] => False
  | a :: p, b :: q => a < b ∨ (a = b ∧ lle p q)
theorem lle.refl : ∀ p, lle p p
  | [] => trivial
  | a :: p => .inr ⟨rfl, lle.refl p⟩
theorem lle.trans : ∀ {p q r}, lle p q → lle q r → lle p r
  | [], _, _, _, _ => trivial
  | _ :: _, [], _, h, _ => h.elim
  | _ :: _, _ :: _, [], _, h => h.elim
  | a :: p, b :: q, c :: r, h, k => by
    rcases h with h | ⟨rfl, h⟩
    · rcases k with k | ⟨rfl, k⟩
      · exact .inl (by omega)
      · exact .inl h
    · rcases k with k | ⟨rfl, k⟩
      · exact .inl k
      · exact .inr ⟨rfl, lle.trans h k⟩
theorem lle.total : ∀ p q, lle p q ∨ lle q p
  | [], _ => .inl trivial
  | _ :: _, [] => .inr trivial
  | a :: p, b :: q => by
    rcases Nat.lt_trichotomy a b with h | h | h
    · exact .inl (.inl h)
    · rcases lle.total p q with k | k
      · exact .inl (.inr ⟨h, k⟩)
      · exact .inr (.inr ⟨h.symm, k⟩)
    · exact .inr (.inl h)
theorem lle.anti : ∀ {p q}, lle p q → lle q p → p = q
  | [], [], _, _ => rfl
  | [], _ :: _, _, h => h.elim
  | _ :: _, [], h, _ => h.elim
  | a :: p, b :: q, h, k => by
    rcases h with h | ⟨rfl, h⟩
    · rcases k with k | ⟨k, _⟩ <;> omega
    · rcases k with k | ⟨_, k⟩
      · omega
      · rw [lle.anti h k]
theorem lle.snoc {v : Nat} : ∀ {p q : List Nat}, p.length = q.length → lle p q → lle (p ++ [v]) (q ++ [v])
  | [], [], _, _ => .inr ⟨rfl, trivial⟩
  | [], _ :: _, h, _ => by simp at h
  | _ :: _, [], h, _ => by simp at h
  | a :: p, b :: q, h, k => k.elim .inl fun ⟨e, k⟩ => .inr ⟨e, lle.snoc (by simpa using h) k⟩
theorem lle.unpre {q r : List Nat} : ∀ {p : List Nat}, lle (p ++ q) (p ++ r) → lle q r
  | [], h => h
  | a :: p, h => h.elim (fun h => by omega) fun ⟨_, h⟩ => lle.unpre (p := p) h
/-- a way from x to y -/
inductive Way (A : Nat → Nat → Prop) : Nat → Nat → List Nat → Prop where
  | one (x : Nat) : Way A x x [x]
  | cons {x w y : Nat} {P : List Nat} (r : A x w) (h : Way A w y P) : Way A x y (x :: P)
theorem Way.head {x y : Nat} {P : List Nat} (h : Way A x y P) : ∃ t, P = x :: t := by cases h <;> exact ⟨_, rfl⟩
theorem Way.snoc {x y z : Nat} {P : List Nat} (h : Way A x y P) (r : A y z) : Way A x z (P ++ [z]) := by
  induction h with
  | one x => exact .cons r (.one z)
  | cons r' _ ih => exact .cons r' (ih r)
theorem Way.unsnoc {x z : Nat} {P : List Nat} (h : Way A x z P) : P = [x] ∧ x = z ∨ ∃ y P', P = P' ++ [z] ∧ Way A x y P' ∧ A y z := by
  induction h with
  | one x => exact .inl ⟨rfl, rfl⟩
  | @cons x w z P r h ih =>
    rcases ih with ⟨rfl, rfl⟩ | ⟨y, P', rfl, h', r'⟩
    · exact .inr ⟨x, [x], rfl, .one x, r⟩
    · exact .inr ⟨y, x :: P', rfl, .cons r h', r'⟩
theorem Way.steps {x y : Nat} {P : List Nat} (h : Way A x y P) : ∃ k, P.length = k + 1 ∧ Steps A k x y := by
  induction h with
  | one x => exact ⟨0, rfl, rfl⟩
  | cons r _ ih => obtain ⟨k, e, s⟩ := ih; exact ⟨k + 1, by rw [List.length_cons, e], Steps.cons r s⟩
theorem Steps.way : ∀ {k x y : Nat}, Steps A k x y → ∃ P, Way A x y P ∧ P.length = k + 1
  | 0, x, y, e => by cases e; exact ⟨[x], .one x, rfl⟩
  | k + 1, x, z, ⟨y, s, r⟩ => let ⟨P, w, l⟩ := Steps.way s; ⟨P ++ [z], w.snoc r, by rw [List.length_append, l]; rfl⟩
/-- the least of the shortest ways -/
structure Best (A : Nat → Nat → Prop) (x y d : Nat) (P : List Nat) : Prop where
  way : Way A x y P
  ln : P.length = d + 1
  least : ∀ P', Way A x y P' → P'.length = d + 1 → lle P P'
theorem Best.tail {n x w d : Nat} {P : List Nat} (h : Best A x n (d + 1) (x :: P)) (r : A x w) (hw : Way A w n P) : Best A w n d P :=
  ⟨hw, by simpa using h.ln, fun P' h1 h2 => (h.least (x :: P') (.cons r h1) (by rw [List.length_cons, h2])).elim (fun q => by omega) fun q => q.2⟩
/-- .. is found step by step -/
theorem Best.gr {n : Nat} : ∀ {P : List Nat} {x d : Nat}, Dist A x n d → Best A x n d P → Gr A n x P
  | [], x, d, _, h => by have := h.ln; simp at this
  | [a], x, d, hd, h => by
    have l := h.ln
    have hw := h.way
    cases hw with
    | one => exact .stop
    | cons _ q => cases q
  | a :: b :: P, x, d, hd, h => by
    have l := h.ln
    have hw := h.way
    cases hw with
    | @cons _ w _ _ r q =>
      obtain ⟨t, e⟩ := q.head
      cases e
      obtain ⟨k, e1, s⟩ := q.steps
      cases d with
      | zero => simp at l
      | succ d =>
        have ek : k = d := by
          simp only [List.length_cons] at l e1
          omega
        subst ek
        have dw : Dist A b n k := ⟨s, fun j hj s' => hd.2 (j + 1) (by omega) (Steps.cons r s')⟩
        refine .step hd r dw (fun v rv dv => ?_) (Best.gr dw (h.tail r q))
        obtain ⟨P', w', l'⟩ := dv.1.way
        obtain ⟨t', e'⟩ := w'.head
        subst e'
        rcases h.least (a :: v :: t') (.cons rv w') (by rw [List.length_cons, l']) with z | ⟨_, z⟩
        · omega
        · rcases z with z | ⟨z, _⟩ <;> omega
/-- one step on: the least over the spots ahead -/
theorem Best.next {x z d : Nat} {P : List Nat} {y : Nat} (hP : Best A x y d P) (r : A y z)
    (least : ∀ y' P', Best A x y' d P' → A y' z → lle (P ++ [z]) (P' ++ [z])) (ex : ∀ y', Steps A d x y' → A y' z → ∃ P', Best A x y' d P') : Best A x z (d + 1) (P ++ [z]) := by
  refine ⟨hP.way.snoc r, by rw [List.length_append, hP.ln]; rfl, fun P' h1 h2 => ?_⟩
  rcases h1.unsnoc with ⟨rfl, rfl⟩ | ⟨y', Q, rfl, hq, r'⟩
  · simp at h2
  · obtain ⟨k, e, s⟩ := hq.steps
    rw [List.length_append, e] at h2
    have ek : k = d := by simp at h2; omega
    subst ek
    obtain ⟨P2, b2⟩ := ex y' s r'
    exact (least y' P2 b2 r').trans (lle.snoc (by rw [b2.ln, e]) (b2.least Q hq e))
end Mz

namespace W
open PySem PySem.Spec PyProof.Rows L2
def top (i : Nat) : Stmt := PySem.Challenge.pw_watchedways_k06_whole_shortest_zigzags.main.body.getD i (.Pass ⟨0, 0, 0, 0⟩)
abbrev s_is_letters : Stmt := top 10
abbrev s_is_word : Stmt := top 11
abbrev s_is_watch : Stmt := top 12
abbrev s_check_word : Stmt := top 13
abbrev s_Book_init : Stmt := inClass (top 16) 0
abbrev s_check_book : Stmt := top 17
abbrev s_links_of : Stmt := top 19
abbrev s_distances : Stmt := top 20
abbrev s_shortest : Stmt := top 21
abbrev s_zigzag : Stmt := top 22
abbrev s_l_tape : Stmt := top 24
abbrev s_l_pick : Stmt := top 25
abbrev s_l_letters : Stmt := top 27
abbrev s_l_word : Stmt := top 28
abbrev s_l_watch : Stmt := top 29
abbrev s_l_watches : Stmt := top 30
abbrev s_l_near : Stmt := top 31
abbrev s_l_mixed : Stmt := top 32
abbrev s_l_leasts : Stmt := top 33
abbrev s_law : Stmt := top 34
theorem sc_is_letters : FnScope ["value", "letter"] ["value"] (defScope s_is_letters) := ⟨rfl, rfl, rfl, by decide +kernel, rfl, by decide +kernel, by decide +kernel⟩
theorem sc_is_word : FnScope ["thing"] ["thing"] (defScope s_is_word) := ⟨rfl, rfl, rfl, by decide +kernel, rfl, by decide +kernel, by decide +kernel⟩
theorem sc_is_watch : FnScope ["thing"] ["thing"] (defScope s_is_watch) := ⟨rfl, rfl, rfl, by decide +kernel, rfl, by decide +kernel, by decide +kernel⟩
theorem sc_check_word : FnScope ["word"] ["word"] (defScope s_check_word) := ⟨rfl, rfl, rfl, by decide +kernel, rfl, by decide +kernel, by decide +kernel⟩
theorem sc_Book_init : FnScope ["self", "watches", "found", "at", "watch"] ["self", "watches"] (defScope s_Book_init) := ⟨rfl, rfl, rfl, by decide +kernel, rfl, by decide +kernel, by decide +kernel⟩
theorem sc_check_book : FnScope ["book"] ["book"] (defScope s_check_book) := ⟨rfl, rfl, rfl, by decide +kernel, rfl, by decide +kernel, by decide +kernel⟩
theorem sc_links_of : FnScope ["watches", "word", "spot", "found", "watch", "row"] ["watches", "word"] (defScope s_links_of) := ⟨rfl, rfl, rfl, by decide +kernel, rfl, by decide +kernel, by decide +kernel⟩
theorem sc_distances : FnScope ["links", "found", "row", "later", "spot", "other"] ["links"] (defScope s_distances) := ⟨rfl, rfl, rfl, by decide +kernel, rfl, by decide +kernel, by decide +kernel⟩
theorem sc_shortest : FnScope ["watches", "word", "links", "far", "found", "spot", "other"] ["watches", "word"] (defScope s_shortest) := ⟨rfl, rfl, rfl, by decide +kernel, rfl, by decide +kernel, by decide +kernel⟩
theorem sc_zigzag : FnScope ["book", "word"] ["book", "word"] (defScope s_zigzag) := ⟨rfl, rfl, rfl, by decide +kernel, rfl, by decide +kernel, by decide +kernel⟩
theorem sc_l_tape : FnScope ["_law_script"] ["_law_script"] (defScope s_l_tape) := ⟨rfl, rfl, rfl, by decide +kernel, rfl, by decide +kernel, by decide +kernel⟩
theorem sc_l_pick : FnScope ["_law_tape_here", "_law_size", "_law_digit", "_law_cell", "_law_mixed_here"] ["_law_tape_here", "_law_size"] (defScope s_l_pick) := ⟨rfl, rfl, rfl, by decide +kernel, rfl, by decide +kernel, by decide +kernel⟩
theorem sc_l_letters : FnScope ["_law_tape_here", "_law_many", "_law_start", "_law_step", "_law_k"] ["_law_tape_here", "_law_many"] (defScope s_l_letters) := ⟨rfl, rfl, rfl, by decide +kernel, rfl, by decide +kernel, by decide +kernel⟩
theorem sc_l_word : FnScope ["_law_tape_here", "_law_most", "_law_size", "_law_kind", "_law_letters_here", "_law_part", "_law_k"] ["_law_tape_here", "_law_most"] (defScope s_l_word) := ⟨rfl, rfl, rfl, by decide +kernel, rfl, by decide +kernel, by decide +kernel⟩
theorem sc_l_watch : FnScope ["_law_tape_here", "_law_word_here", "_law_most", "_law_size", "_law_at", "_law_k"] ["_law_tape_here", "_law_word_here", "_law_most"] (defScope s_l_watch) := ⟨rfl, rfl, rfl, by decide +kernel, rfl, by decide +kernel, by decide +kernel⟩
theorem sc_l_watches : FnScope ["_law_tape_here", "_law_word_here", "_law_many", "_law_most", "_law_found", "_law_low", "_law_high", "_law_piece", "_law_k", "_law_watch_here"] ["_law_tape_here", "_law_word_here", "_law_many", "_law_most"] (defScope s_l_watches) := ⟨rfl, rfl, rfl, by decide +kernel, rfl, by decide +kernel, by decide +kernel⟩
theorem sc_l_near : FnScope ["_law_watches_here", "_law_word_here", "_law_spot", "_law_found", "_law_other"] ["_law_watches_here", "_law_word_here", "_law_spot"] (defScope s_l_near) := ⟨rfl, rfl, rfl, by decide +kernel, rfl, by decide +kernel, by decide +kernel⟩
theorem sc_l_mixed : FnScope ["_law_tape_here", "_law_things", "_law_left", "_law_made", "_law_k"] ["_law_tape_here", "_law_things"] (defScope s_l_mixed) := ⟨rfl, rfl, rfl, by decide +kernel, rfl, by decide +kernel, by decide +kernel⟩
theorem sc_l_leasts : FnScope ["_law_watches_here", "_law_word_here", "_law_leasts_here", "_law_front", "_law_step", "_law_later", "_law_spot", "_law_other", "_law_way"] ["_law_watches_here", "_law_word_here"] (defScope s_l_leasts) := ⟨rfl, rfl, rfl, by decide +kernel, rfl, by decide +kernel, by decide +kernel⟩
theorem sc_law : FnScope ["_law_script", "_law_tape_here", "_law_word_here", "_law_watches_here", "_law_leasts_here", "_law_due", "_law_told", "_law_spot", "_law_short"] ["_law_script"] (defScope s_law) := ⟨rfl, rfl, rfl, by decide +kernel, rfl, by decide +kernel, by decide +kernel⟩
structure Txt (K : PySem.W.Frag) (mg : Str → Option Value) where
  C_Book : Addr
  c_Book : mg "Book" = some (.ref C_Book)
  cl_Book : Cls K C_Book
  ty_Book : OwnTy K C_Book
  na_Book_watches : NoAttr K C_Book "watches"
  f_is_letters : Addr
  fd_is_letters : FuncData
  F_is_letters : Fun K "is_letters" "is_letters" s_is_letters f_is_letters fd_is_letters
  g_is_letters : mg "is_letters" = some (.ref f_is_letters)
  b_is_letters : Binds K fd_is_letters ["value"] []
  f_is_word : Addr
  fd_is_word : FuncData
  F_is_word : Fun K "is_word" "is_word" s_is_word f_is_word fd_is_word
  g_is_word : mg "is_word" = some (.ref f_is_word)
  b_is_word : Binds K fd_is_word ["thing"] []
  f_is_watch : Addr
  fd_is_watch : FuncData
  F_is_watch : Fun K "is_watch" "is_watch" s_is_watch f_is_watch fd_is_watch
  g_is_watch : mg "is_watch" = some (.ref f_is_watch)
  b_is_watch : Binds K fd_is_watch ["thing"] []
  f_check_word : Addr
  fd_check_word : FuncData
  F_check_word : Fun K "check_word" "check_word" s_check_word f_check_word fd_check_word
  g_check_word : mg "check_word" = some (.ref f_check_word)
  b_check_word : Binds K fd_check_word ["word"] []
  f_Book_init : Addr
  fd_Book_init : FuncData
  F_Book_init : Fun K "__init__" "Book.__init__" s_Book_init f_Book_init fd_Book_init
  M_Book : Mk K C_Book f_Book_init
  b_Book_init : Binds K fd_Book_init ["self", "watches"] []
  f_check_book : Addr
  fd_check_book : FuncData
  F_check_book : Fun K "check_book" "check_book" s_check_book f_check_book fd_check_book
  g_check_book : mg "check_book" = some (.ref f_check_book)
  b_check_book : Binds K fd_check_book ["book"] []
  f_links_of : Addr
  fd_links_of : FuncData
  F_links_of : Fun K "links_of" "links_of" s_links_of f_links_of fd_links_of
  g_links_of : mg "links_of" = some (.ref f_links_of)
  b_links_of : Binds K fd_links_of ["watches", "word"] []
  f_distances : Addr
  fd_distances : FuncData
  F_distances : Fun K "distances" "distances" s_distances f_distances fd_distances
  g_distances : mg "distances" = some (.ref f_distances)
  b_distances : Binds K fd_distances ["links"] []
  f_shortest : Addr
  fd_shortest : FuncData
  F_shortest : Fun K "shortest" "shortest" s_shortest f_shortest fd_shortest
  g_shortest : mg "shortest" = some (.ref f_shortest)
  b_shortest : Binds K fd_shortest ["watches", "word"] []
  f_zigzag : Addr
  fd_zigzag : FuncData
  F_zigzag : Fun K "zigzag" "zigzag" s_zigzag f_zigzag fd_zigzag
  g_zigzag : mg "zigzag" = some (.ref f_zigzag)
  b_zigzag : Binds K fd_zigzag ["book", "word"] []
  f_l_tape : Addr
  fd_l_tape : FuncData
  F_l_tape : Fun K "_law_tape" "_law_tape" s_l_tape f_l_tape fd_l_tape
  g_l_tape : mg "_law_tape" = some (.ref f_l_tape)
  b_l_tape : Binds K fd_l_tape ["_law_script"] []
  f_l_pick : Addr
  fd_l_pick : FuncData
  F_l_pick : Fun K "_law_pick" "_law_pick" s_l_pick f_l_pick fd_l_pick
  g_l_pick : mg "_law_pick" = some (.ref f_l_pick)
  b_l_pick : Binds K fd_l_pick ["_law_tape_here", "_law_size"] []
  f_l_letters : Addr
  fd_l_letters : FuncData
  F_l_letters : Fun K "_law_letters" "_law_letters" s_l_letters f_l_letters fd_l_letters
  g_l_letters : mg "_law_letters" = some (.ref f_l_letters)
  b_l_letters : Binds K fd_l_letters ["_law_tape_here", "_law_many"] []
  f_l_word : Addr
  fd_l_word : FuncData
  F_l_word : Fun K "_law_word" "_law_word" s_l_word f_l_word fd_l_word
  g_l_word : mg "_law_word" = some (.ref f_l_word)
  b_l_word : Binds K fd_l_word ["_law_tape_here", "_law_most"] []
  f_l_watch : Addr
  fd_l_watch : FuncData
  F_l_watch : Fun K "_law_watch" "_law_watch" s_l_watch f_l_watch fd_l_watch
  g_l_watch : mg "_law_watch" = some (.ref f_l_watch)
  b_l_watch : Binds K fd_l_watch ["_law_tape_here", "_law_word_here", "_law_most"] []
  f_l_watches : Addr
  fd_l_watches : FuncData
  F_l_watches : Fun K "_law_watches" "_law_watches" s_l_watches f_l_watches fd_l_watches
  g_l_watches : mg "_law_watches" = some (.ref f_l_watches)
  b_l_watches : Binds K fd_l_watches ["_law_tape_here", "_law_word_here", "_law_many", "_law_most"] []
  f_l_near : Addr
  fd_l_near : FuncData
  F_l_near : Fun K "_law_near" "_law_near" s_l_near f_l_near fd_l_near
  g_l_near : mg "_law_near" = some (.ref f_l_near)
  b_l_near : Binds K fd_l_near ["_law_watches_here", "_law_word_here", "_law_spot"] []
  f_l_mixed : Addr
  fd_l_mixed : FuncData
  F_l_mixed : Fun K "_law_mixed" "_law_mixed" s_l_mixed f_l_mixed fd_l_mixed
  g_l_mixed : mg "_law_mixed" = some (.ref f_l_mixed)
  b_l_mixed : Binds K fd_l_mixed ["_law_tape_here", "_law_things"] []
  f_l_leasts : Addr
  fd_l_leasts : FuncData
  F_l_leasts : Fun K "_law_leasts" "_law_leasts" s_l_leasts f_l_leasts fd_l_leasts
  g_l_leasts : mg "_law_leasts" = some (.ref f_l_leasts)
  b_l_leasts : Binds K fd_l_leasts ["_law_watches_here", "_law_word_here"] []
  f_law : Addr
  fd_law : FuncData
  F_law : Fun K "law" "law" s_law f_law fd_law
  g_law : mg "law" = some (.ref f_law)
  b_law : Binds K fd_law ["_law_script"] []
  n_isinstance : mg "isinstance" = none
  n_all : mg "all" = none
  n_str : mg "str" = none
  n_len : mg "len" = none
  n_list : mg "list" = none
  n_tuple : mg "tuple" = none
  n_enumerate : mg "enumerate" = none
  n_range : mg "range" = none
  n_sorted : mg "sorted" = none
  n_bool : mg "bool" = none
  n_int : mg "int" = none
  n_min : mg "min" = none
  n_max : mg "max" = none
  t_LETTERS : Tok
  m_LETTERS : mg "LETTERS" = some (.str "abcdefghijklmnopqrstuvwxyz" t_LETTERS)
  t_MOST_WORD : Tok
  m_MOST_WORD : mg "MOST_WORD" = some (.int 40 t_MOST_WORD)
  t_MOST_WATCH : Tok
  m_MOST_WATCH : mg "MOST_WATCH" = some (.int 12 t_MOST_WATCH)
  t_MOST_WATCHES : Tok
  m_MOST_WATCHES : mg "MOST_WATCHES" = some (.int 12 t_MOST_WATCHES)
end W

local macro_rules | `(tactic| walk_at "rd") => `(tactic| repeat (first
  | with_reducible refine Rd.seq ?_ | with_reducible refine Rd.asg ?_ | with_reducible refine Rd.name ?_ | with_reducible refine Rd.var rfl ?_ | with_reducible refine Rd.con ?_ | with_reducible refine Rd.op ?_
  | with_reducible refine Rd.ret ?_ | with_reducible refine Rd.ifS ?_ | with_reducible refine Rd.test ?_ | with_reducible refine Rd.tstB ?_ | with_reducible refine Rd.bl ?_ | with_reducible refine Rd.blE ?_
  | with_reducible refine Rd.nil ?_ | with_reducible refine Rd.cons ?_ | with_reducible refine Rd.cb ?_ | with_reducible refine Rd.call ?_ | with_reducible refine Rd.un ?_
  | with_reducible refine Rd.i0 ?_ | with_reducible refine Rd.u1 ?_ | with_reducible refine Rd.eqI ?_ | with_reducible refine Rd.neI ?_ | with_reducible refine Rd.eqB ?_ | with_reducible refine Rd.neB ?_ | with_reducible refine Rd.eqS ?_ | with_reducible refine Rd.neS ?_
  | with_reducible refine Rd.and ?_ | with_reducible refine Rd.or ?_ | with_reducible refine Rd.not ?_ | with_reducible refine Rd.andV ?_ | with_reducible refine Rd.orV ?_ | with_reducible refine Rd.notV ?_ | with_reducible refine Rd.ifE ?_ | with_reducible refine Rd.chain ?_
  | with_reducible refine Rd.tup ?_ | with_reducible refine Rd.lst ?_ | with_reducible refine Rd.nxt ?_ | with_reducible refine Rd.retN ?_ | with_reducible refine Rd.drop ?_ | with_reducible refine Rd.brk ?_ | with_reducible refine Rd.cont ?_
  | with_reducible refine Rd.a1 ?_ | with_reducible refine Rd.a2 ?_ | with_reducible refine Rd.v2 ?_ | with_reducible refine Rd.int ?_ | with_reducible refine Rd.abs ?_ | with_reducible refine Rd.max2 ?_ | with_reducible refine Rd.min2 ?_ | with_reducible refine Rd.bm ?_ | with_reducible refine Rd.bm0 ?_ | with_reducible refine Rd.sl ?_ | with_reducible refine Rd.part ?_ | with_reducible refine Rd.noPart ?_ | with_reducible refine Rd.intE ?_ | with_reducible refine Rd.revL ?_ | with_reducible refine Rd.enx ?_ | with_reducible refine Rd.ebk ?_ | with_reducible refine Rd.ect ?_ | with_reducible refine Rd.ert ?_ | with_reducible refine Rd.gcons ?_ | with_reducible refine Rd.gnil ?_ | with_reducible refine Rd.par ?_ | with_reducible refine Rd.sub ?_ | with_reducible refine Rd.iter ?_ | with_reducible refine Rd.iterT ?_ | with_reducible refine Rd.rng1 ?_ | with_reducible refine Rd.refE ?_ | with_reducible refine Rd.aug rfl ?_ | with_reducible refine Rd.ipi ?_ | with_reducible refine Rd.lc ?_ | with_reducible refine Rd.tyes ?_ | with_reducible refine Rd.fldH ?_ | with_reducible refine Rd.sfldH ?_ | with_reducible refine Rd.mkH ?_ | with_reducible refine Rd.methH ?_ | with_reducible refine Rd.istr ?_ | with_reducible refine Rd.strE ?_ | with_reducible refine Rd.lstRg ?_ | with_reducible refine Rd.m1 ?_ | with_reducible refine Rd.dgetH ?_ | with_reducible refine Rd.dinH ?_ | with_reducible refine Rd.dninH ?_ | with_reducible refine Rd.dget1H ?_ | with_reducible refine Rd.strX ?_ | with_reducible refine Rd.tupRg ?_ | with_reducible refine Rd.rg1 ?_ | with_reducible refine Rd.rg2 ?_ | with_reducible refine Rd.intE2 ?_
  | with_reducible refine L2.iteT ?_ | with_reducible refine L2.iteF ?_
  | with_reducible refine Rd.iteb ?_ | with_reducible refine Rd.iten ?_ | with_reducible refine Rd.itbn ?_))

local macro_rules | `(tactic| walk_at "yes") => `(tactic| (refine (if_pos (by first | assumption | omega)).mpr ?_))
local macro_rules | `(tactic| walk_at "no") => `(tactic| (refine (if_neg (by first | assumption | omega)).mpr ?_))

namespace W
open PySem PySem.Spec PyProof.Rows L2
section
variable {P : Program} {w : World} {K : PySem.W.Frag} {mg : Str → Option Value} {base : Heap}
/-! ### the tape: a list of the cells (never written) and four ints; what is drawn lies below the size -/
/-- a tape stands at t, its cells at c -/
def Tape (H : Hp) (t c : Addr) : Prop := ∃ (ns : List Int) (x y z u : Int), t ≠ c ∧ H t = some (.lst [.ref c, .int x, .int y, .int z, .int u]) ∧ H c = some (.lst (ns.map V.int)) ∧ 0 ≤ x ∧ x ≤ ns.length ∧ 0 ≤ z ∧ z < 2147483647
theorem Tape.same {H H' : Hp} {t c : Addr} (h : Tape H t c) (s : Same H H') : Tape H' t c := by
  obtain ⟨ns, x, y, z, u, n, h1, h2, r⟩ := h
  exact ⟨ns, x, y, z, u, n, s _ _ h1, s _ _ h2, r⟩
theorem Tape.off {H H' : Hp} {t c l : Addr} (h : Tape H t c) (h1 : l ≠ t) (h2 : l ≠ c) (e : ∀ b, b ≠ l → H' b = H b) : Tape H' t c := by
  obtain ⟨ns, x, y, z, u, n, g1, g2, r⟩ := h
  exact ⟨ns, x, y, z, u, n, by rw [e t h1.symm]; exact g1, by rw [e c h2.symm]; exact g2, r⟩
theorem Tape.new {H : Hp} {t c l : Addr} (h : Tape H t c) (n : H l = none) : l ≠ t ∧ l ≠ c := by
  obtain ⟨ns, x, y, z, u, _, g1, g2, r⟩ := h
  exact ⟨(ne_of_none g1 n).symm, (ne_of_none g2 n).symm⟩
def sp_l_tape (K : PySem.W.Frag) : Sp := fun vs H Q _ => ∃ (a : Addr) (ns : List Int), vs = [.ref a] ∧ SqL K H a (ns.map V.int) ∧ ∀ t c H', Tape H' t c → Same H H' → H t = none → H c = none → Q (.ref t) H'
def sp_l_pick (K : PySem.W.Frag) : Sp := fun vs H Q _ => ∃ (t c : Addr) (n : Int), vs = [.ref t, .int n] ∧ Tape H t c ∧ 0 < n ∧ n < 1073741824 ∧ ∀ r H', 0 ≤ r → r < n → Tape H' t c → Rd.But t H H' → Q (.int r) H'
theorem ok_l_tape (T : Txt K mg) : FnOk P w K mg base CX0 1 T.f_l_tape T.fd_l_tape ["_law_script"] (sp_l_tape K) := by
  refine T.F_l_tape.ok sc_l_tape (fun vs H Q E h => ?_) (fun cdv A outer s H vs Q E hr h => ?_)
  · obtain ⟨a, ns, rfl, _⟩ := h
    rfl
  · obtain ⟨a, ns, rfl, hS, k⟩ := h
    refine ⟨_, (pss_one (ps_ret (pe_lst (pa_cons (pe_callTy (T := "list") (r := Rd.nListOf K) Rd.c_listOf (by rfl) T.n_list (by decide +kernel) (pa_cons (pv 0) pa_nil)) (pa_cons pe_int (pa_cons pe_int (pa_cons pe_int (pa_cons pe_int pa_nil)))))))), ?_⟩
    walk_at "rd"
    refine Rd.listOf (.inl hS) (Rd.new fun c G hc gc s1 => ?_)
    walk_at "rd"
    refine ⟨Nat.le_of_ble_eq_true rfl, Rd.new fun t G2 ht gt s2 => ?_⟩
    have tc : c ≠ t := ne_of_none gc ht
    exact k t c _ ⟨ns, 0, 0, 1, 0, tc.symm, gt, s2 _ _ gc, by decide, by omega, by decide, by decide⟩ (s1.trans s2) (s1.free ht) hc
theorem ok_l_pick (T : Txt K mg) : FnOk P w K mg base CX0 1 T.f_l_pick T.fd_l_pick ["_law_tape_here", "_law_size"] (sp_l_pick K) := by
  refine T.F_l_pick.ok sc_l_pick (fun vs H Q E h => ?_) (fun cdv A outer s H vs Q E hr h => ?_)
  · obtain ⟨t, c, n, rfl, _⟩ := h
    rfl
  · obtain ⟨t, c, n, rfl, ⟨ns, x, y, z, u, tc, h1, h2, x0, x1, z0, z1⟩, n0, n1, k⟩ := h
    refine ⟨_, (pss_cons (ps_if (pt_cmpR op_gt (pe_ix (r := rIxL K) ix_list (pv 0) pe_int (fun _ _ => rfl)) pe_int (nomark _))
  (pss_cons (ps_set (i := 2) sc_l_pick.nd rfl (.inl rfl) (pe_op op_mod (pe_callTy (T := "int") (r := _) Rd.c_int (by rfl) T.n_int (by decide +kernel) (pa_cons (pe_ix (r := rIxL K) ix_list (pv 0) pe_int (fun _ _ => rfl)) pa_nil)) (pv 1)))
  (pss_cons (ps_asg (pe_op op_fdiv (pe_ix (r := rIxL K) ix_list (pv 0) pe_int (fun _ _ => rfl)) (pv 1)) (pg_sub (pv 0) pe_int set_list))
  (pss_one (ps_ret (pv 2)))))
  pss_nil)
  (pss_cons (ps_asg (pe_op op_add (pe_ix (r := rIxL K) ix_list (pv 0) pe_int (fun _ _ => rfl)) pe_int) (pg_sub (pv 0) pe_int set_list))
  (pss_cons (ps_set (i := 3) sc_l_pick.nd rfl (.inl rfl) pe_int)
  (C8.pss_cut (ps_if (pt_cmpR op_lt (pe_ix (r := rIxL K) ix_list (pv 0) pe_int (fun _ _ => rfl)) (pe_callB (id := "len") (r := Rd.nLen K) Rd.c_len (by rfl) T.n_len (by decide +kernel) (pa_cons (pe_ix ix_list (pv 0) pe_int (fun _ _ => rfl)) pa_nil)) (nomark _))
  (pss_cons (ps_set (i := 3) sc_l_pick.nd rfl (.inl rfl) (pe_ix (r := rIxL K) ix_list (pe_ix ix_list (pv 0) pe_int (fun _ _ => rfl)) (pe_ix (r := rIxL K) ix_list (pv 0) pe_int (fun _ _ => rfl)) (fun _ _ => rfl)))
  (pss_one (ps_asg (pe_op op_add (pe_ix (r := rIxL K) ix_list (pv 0) pe_int (fun _ _ => rfl)) pe_int) (pg_sub (pv 0) pe_int set_list))))
  pss_nil)
  (pss_cons (ps_if (pt_cmpR op_ge (pv 3) (pe_op op_pow pe_int pe_int) (nomark _))
  (pss_cons (ps_asg (pe_op op_fdiv (pv 3) (pv 1)) (pg_sub (pv 0) pe_int set_list))
  (pss_one (ps_ret (pe_op op_mod (pe_callTy (T := "int") (r := _) Rd.c_int (by rfl) T.n_int (by decide +kernel) (pa_cons (pv 3) pa_nil)) (pv 1)))))
  pss_nil)
  (pss_cons (ps_set (i := 4) sc_l_pick.nd rfl (.inl rfl) (pe_op op_mod (pe_callTy (T := "int") (r := _) Rd.c_int (by rfl) T.n_int (by decide +kernel) (pa_cons (pe_op op_add (pe_op op_add (pe_op op_mul (pe_ix (r := rIxL K) ix_list (pv 0) pe_int (fun _ _ => rfl)) pe_int) (pe_op op_mod (pe_callTy (T := "int") (r := _) Rd.c_int (by rfl) T.n_int (by decide +kernel) (pa_cons (pv 3) pa_nil)) pe_int)) (pe_op op_mul (pe_ix (r := rIxL K) ix_list (pv 0) pe_int (fun _ _ => rfl)) pe_int)) pa_nil)) pe_int))
  (pss_cons (ps_set (i := 4) sc_l_pick.nd rfl (.inl rfl) (pe_op op_mod (pe_callTy (T := "int") (r := _) Rd.c_int (by rfl) T.n_int (by decide +kernel) (pa_cons (pe_op op_mul (pv 4) (pe_op op_add (pe_op op_fdiv (pv 4) pe_int) pe_int)) pa_nil)) pe_int))
  (pss_cons (ps_asg (pv 4) (pg_sub (pv 0) pe_int set_list))
  (pss_one (ps_ret (pe_op op_mod (pe_callTy (T := "int") (r := _) Rd.c_int (by rfl) T.n_int (by decide +kernel) (pa_cons (pe_op op_fdiv (pv 4) pe_int) pa_nil)) (pv 1)))))))))))), ?_⟩
    walk_at "rd"
    refine Rd.ixL (.of h1) (atI_nat (j := 2) rfl) ?_
    walk_at "rd"
    refine ite2 (fun q => ?_) (fun q => ?_)
    · walk_at "rd"
      refine Rd.ixL (.of h1) (atI_nat (j := 2) rfl) ?_
      walk_at "rd"
      refine Rd.iC n0 ?_
      walk_at "rd"
      refine Rd.ixL (.of h1) (atI_nat (j := 2) rfl) ?_
      walk_at "rd"
      refine Rd.iC ⟨n0, n1⟩ ?_
      walk_at "rd"
      refine Rd.setG h1 (show ixN 5 2 = some 2 by decide) rfl fun G g1 gb => ?_
      walk_at "rd"
      exact k _ _ (Int.emod_nonneg _ (by omega)) (Int.emod_lt_of_pos _ n0) ⟨ns, x, _, z, u, tc, g1, by rw [gb _ tc.symm]; exact h2, x0, x1, z0, z1⟩ (fun b o hb e => by rw [gb b hb]; exact e)
    · walk_at "rd"
      refine Rd.ixL (.of h1) (atI_nat (j := 4) rfl) ?_
      walk_at "rd"
      refine Rd.setG h1 (show ixN 5 4 = some 4 by decide) rfl fun G g1 gb => ?_
      have g2 : G c = some (.lst (ns.map V.int)) := by rw [gb _ tc.symm]; exact h2
      walk_at "rd"
      -- the cell m is read (or 0)
      refine Rd.cut (fun σ G' => ∃ x' m : Int, σ = [some (.ref t), some (.int n), none, some (.int m), none] ∧ 0 ≤ x' ∧ x' ≤ ns.length ∧ G' t = some (.lst [.ref c, .int x', .int y, .int z, .int (u + 1)]) ∧ (∀ b, b ≠ t → G' b = H b)) ?_ ?_
      · walk_at "rd"
        refine Rd.ixL (.of g1) (atI_nat (j := 1) rfl) ?_
        walk_at "rd"
        refine Rd.ixL (.of g1) (atI_nat (j := 0) rfl) ?_
        walk_at "rd"
        refine Rd.len (.inl (.of g2)) ?_
        rw [List.length_map]
        walk_at "rd"
        refine ite2 (fun q2 => ?_) (fun q2 => ?_)
        · walk_at "rd"
          refine Rd.ixL (.of g1) (atI_nat (j := 0) rfl) ?_
          walk_at "rd"
          refine Rd.ixL (.of g1) (atI_nat (j := 1) rfl) ?_
          have hx : x.toNat < ns.length := by omega
          refine Rd.ixL (.of g2) (Rd.atI_of x0 (Rd.map_int hx)) ?_
          walk_at "rd"
          refine Rd.ixL (.of g1) (atI_nat (j := 1) rfl) ?_
          walk_at "rd"
          refine Rd.setG g1 (show ixN 5 1 = some 1 by decide) rfl fun G2 k1 kb => ?_
          walk_at "rd"
          exact ⟨x + 1, _, rfl, by omega, by omega, k1, fun b hb => (kb b hb).trans (gb b hb)⟩
        · walk_at "rd"
          exact ⟨x, 0, rfl, x0, x1, g1, gb⟩
      · rintro _ G' ⟨x', m, rfl, x'0, x'1, e1, eb⟩
        have e2 : G' c = some (.lst (ns.map V.int)) := by rw [eb _ tc.symm]; exact h2
        walk_at "rd"
        refine Rd.iC ⟨by decide, by decide, by decide⟩ ?_
        walk_at "rd"
        refine ite2 (fun q2 => ?_) (fun q2 => ?_)
        · walk_at "rd"
          refine Rd.iC ⟨n0, n1⟩ ?_
          walk_at "rd"
          refine Rd.setG e1 (show ixN 5 2 = some 2 by decide) rfl fun G2 k1 kb => ?_
          walk_at "rd"
          refine Rd.iC n0 ?_
          walk_at "rd"
          exact k _ _ (Int.emod_nonneg _ (by omega)) (Int.emod_lt_of_pos _ n0) ⟨ns, x', _, z, u + 1, tc, k1, by rw [kb _ tc.symm]; exact e2, x'0, x'1, z0, z1⟩ (fun b o hb e => by rw [kb b hb, eb b hb]; exact e)
        · walk_at "rd"
          refine Rd.ixL (.of e1) (atI_nat (j := 3) rfl) ?_
          walk_at "rd"
          refine Rd.iC (.inr (by decide)) ?_
          walk_at "rd"
          refine Rd.iC (by decide) ?_
          walk_at "rd"
          refine Rd.ixL (.of e1) (atI_nat (j := 4) rfl) ?_
          walk_at "rd"
          refine Rd.iC (.inr (by decide)) ?_
          walk_at "rd"
          refine Rd.iC (by decide) ?_
          generalize hM : (z * 48271 + m % 2147483629 + (u + 1) * 69621) % 2147483647 = M
          have M0 : 0 ≤ M := by rw [← hM]; exact Int.emod_nonneg _ (by decide)
          have M1 : M < 2147483647 := by rw [← hM]; exact Int.emod_lt_of_pos _ (by decide)
          walk_at "rd"
          refine Rd.iC ⟨by decide, by decide⟩ ?_
          walk_at "rd"
          refine Rd.iC (.inl ⟨by omega, by omega⟩) ?_
          walk_at "rd"
          refine Rd.iC (by decide) ?_
          generalize hN : M * (M / 1009 + 40692) % 2147483399 = N
          have N0 : 0 ≤ N := by rw [← hN]; exact Int.emod_nonneg _ (by decide)
          have N1 : N < 2147483399 := by rw [← hN]; exact Int.emod_lt_of_pos _ (by decide)
          walk_at "rd"
          refine Rd.setG e1 (show ixN 5 3 = some 3 by decide) rfl fun G2 k1 kb => ?_
          walk_at "rd"
          refine Rd.iC ⟨by decide, by decide⟩ ?_
          walk_at "rd"
          refine Rd.iC n0 ?_
          walk_at "rd"
          exact k _ _ (Int.emod_nonneg _ (by omega)) (Int.emod_lt_of_pos _ n0) ⟨ns, x', y, N, u + 1, tc, k1, by rw [kb _ tc.symm]; exact e2, x'0, x'1, N0, by omega⟩ (fun b o hb e => by rw [kb b hb, eb b hb]; exact e)
theorem pickR {K : PySem.W.Frag} {H : Hp} {t c : Addr} {n : Int} {Q : VK} {E : XK} (T : Tape H t c) (h0 : 0 < n) (h1 : n < 1073741824) (k : ∀ r H', 0 ≤ r → r < n → Tape H' t c → Rd.But t H H' → Q (.int r) H') : sp_l_pick K [.ref t, .int n] H Q E := ⟨t, c, n, rfl, T, h0, h1, k⟩
/-! ### what stays when only the tape is written -/
theorem but_L {K : PySem.W.Frag} {H H' : Hp} {t a : Addr} {xs : List V} (e : Rd.But t H H') (n : a ≠ t) (h : SqL K H a xs) : SqL K H' a xs := by
  rcases h with (h | ⟨o, h⟩) | h
  · exact .inl (.inl (e _ _ n h))
  · exact .inl (.inr ⟨o, e _ _ n h⟩)
  · exact .inr h
theorem but_T {K : PySem.W.Frag} {H H' : Hp} {t a : Addr} {xs : List V} (e : Rd.But t H H') (n : a ≠ t) (h : SqT K H a xs) : SqT K H' a xs := by
  rcases h with (h | ⟨o, h⟩) | h
  · exact .inl (.inl (e _ _ n h))
  · exact .inl (.inr ⟨o, e _ _ n h⟩)
  · exact .inr h
theorem but_R {K : PySem.W.Frag} {H H' : Hp} {t a : Addr} {xs : List V} (e : Rd.But t H H') (n : a ≠ t) (h : Ru.SqR K H a xs) : Ru.SqR K H' a xs := h.imp (but_L e n) (but_T e n)

end
end W

namespace W
open PySem PySem.Spec PyProof.Rows L2
section
variable {P : Program} {w : World} {K : PySem.W.Frag} {mg : Str → Option Value} {base : Heap}
/-! ### words and watches of letters -/
def sp_is_letters (K : PySem.W.Frag) : Sp := fun vs H Q _ => ∃ z : Str, vs = [.str z] ∧ Lt.Let z ∧ z.length ≤ 1000000 ∧ ∀ H', Same H H' → Q (.bl true) H'
def sp_is_word (K : PySem.W.Frag) : Sp := fun vs H Q _ => ∃ z : Str, vs = [.str z] ∧ Lt.Wd 40 z ∧ ∀ H', Same H H' → Q (.bl true) H'
def sp_is_watch (K : PySem.W.Frag) : Sp := fun vs H Q _ => ∃ z : Str, vs = [.str z] ∧ Lt.Wd 12 z ∧ ∀ H', Same H H' → Q (.bl true) H'
theorem ok_is_letters (T : Txt K mg) : FnOk P w K mg base CX0 1 T.f_is_letters T.fd_is_letters ["value"] (sp_is_letters K) := by
  refine T.F_is_letters.ok sc_is_letters (fun vs H Q E h => ?_) (fun cdv A outer s H vs Q E hr h => ?_)
  · obtain ⟨z, rfl, _⟩ := h
    rfl
  · obtain ⟨z, rfl, hz, hl, k⟩ := h
    refine ⟨_, (pss_one (ps_ret (pe_and (pe_callB (id := "isinstance") (r := rIsi K) call_isi (by rfl) T.n_isinstance (by decide +kernel) (pa_cons (pv 0) (pa_cons (pe_bltn (v := .ty "str") (u := .type "str") (by rfl) T.n_str (by decide +kernel) rfl) pa_nil))) (pe_one (pe_callB (id := "all") (r := rAll K) (cr_all rfl) (by rfl) T.n_all (by decide +kernel) (pa_cons (pe_lc (own := [("letter", 1)]) (g := gName 1) (tt := tYes) rfl sc_is_letters.nd (pi_str (pv 0)) (blkOk_by (own := [("letter", 1)]) (N := ["value", "letter"]) (sc := defScope s_is_letters) (by decide +kernel)) (fun _ _ _ _ _ => (pg_name (i := 1) sc_is_letters.nd rfl (.inl rfl))) (fun _ _ _ _ _ => pts_nil) (fun _ _ _ _ _ => (pe_cmpR Rd.o_inC (pv 1) (pe_glob (v := .str "abcdefghijklmnopqrstuvwxyz") rfl T.m_LETTERS ⟨_, rfl⟩) rfl))) pa_nil)))))), ?_⟩
    walk_at "rd"
    refine Rd.isiStr ?_
    walk_at "rd"
    refine Rd.lcS walk_str (fun _ _ => trivial) (fun _ i acc _ => acc = (List.replicate i true).map V.bl) (fun _ _ _ _ _ => rfl) ?_ ?_
    · rintro D i x G _ acc nD hi hD sm rfl ⟨rfl, c, hc, rfl⟩
      walk_at "rd"
      refine ⟨rfl, Rd.tyes ?_⟩
      walk_at "rd"
      have hc2 : c ∈ Lt.Abc.cps.toList := hz.char (i := i) (by simpa using hc)
      refine Rd.inCT hc2 ?_
      have hi2 : i < z.length := hi
      refine Rd.lcPush hD nD sm (by rw [List.length_map, List.length_replicate, sizeLine_eq]; omega) fun G _ _ => ?_
      rw [List.replicate_succ', List.map_append]
      rfl
    · rintro D acc G nD hD sm rfl
      refine Rd.all (.of hD) ?_
      rw [show (List.replicate z.cps.size true).all id = true by simp]
      exact k _ sm
theorem ok_is_word (T : Txt K mg) : FnOk P w K mg base CX0 2 T.f_is_word T.fd_is_word ["thing"] (sp_is_word K) := by
  refine T.F_is_word.ok sc_is_word (fun vs H Q E h => ?_) (fun cdv A outer s H vs Q E hr h => ?_)
  · obtain ⟨z, rfl, _⟩ := h
    rfl
  · obtain ⟨z, rfl, hz, k⟩ := h
    refine ⟨_, (pss_one (ps_ret (pe_and (pe_call (ok_is_letters T) (hr.mono (by decide)) rfl T.g_is_letters T.F_is_letters.kp T.b_is_letters .nil pass0 (pa_cons (pv 0) pa_nil)) (pe_one (pe_chain op_le op_le pe_int (pe_callB (id := "len") (r := _) Rd.c_lenS (by rfl) T.n_len (by decide +kernel) (pa_cons (pv 0) pa_nil)) (pe_glob (v := .int 40) rfl T.m_MOST_WORD ⟨_, rfl⟩)))))), ?_⟩
    have h0 := hz.l0
    have h1 := hz.l1
    walk_at "rd"
    refine ⟨z, rfl, hz.ok, by omega, fun H1 s1 => ?_⟩
    walk_at "rd"
    refine Rd.lenStr (hz.line (by decide)) ?_
    walk_at "rd"
    walk_at "yes"
    walk_at "rd"
    rw [decide_eq_true (by omega)]
    exact k _ s1
theorem ok_is_watch (T : Txt K mg) : FnOk P w K mg base CX0 2 T.f_is_watch T.fd_is_watch ["thing"] (sp_is_watch K) := by
  refine T.F_is_watch.ok sc_is_watch (fun vs H Q E h => ?_) (fun cdv A outer s H vs Q E hr h => ?_)
  · obtain ⟨z, rfl, _⟩ := h
    rfl
  · obtain ⟨z, rfl, hz, k⟩ := h
    refine ⟨_, (pss_one (ps_ret (pe_and (pe_call (ok_is_letters T) (hr.mono (by decide)) rfl T.g_is_letters T.F_is_letters.kp T.b_is_letters .nil pass0 (pa_cons (pv 0) pa_nil)) (pe_one (pe_chain op_le op_le pe_int (pe_callB (id := "len") (r := _) Rd.c_lenS (by rfl) T.n_len (by decide +kernel) (pa_cons (pv 0) pa_nil)) (pe_glob (v := .int 12) rfl T.m_MOST_WATCH ⟨_, rfl⟩)))))), ?_⟩
    have h0 := hz.l0
    have h1 := hz.l1
    walk_at "rd"
    refine ⟨z, rfl, hz.ok, by omega, fun H1 s1 => ?_⟩
    walk_at "rd"
    refine Rd.lenStr (hz.line (by decide)) ?_
    walk_at "rd"
    walk_at "yes"
    walk_at "rd"
    rw [decide_eq_true (by omega)]
    exact k _ s1

end
end W

namespace W
open PySem PySem.Spec PyProof.Rows L2
section
variable {P : Program} {w : World} {K : PySem.W.Frag} {mg : Str → Option Value} {base : Heap}
def sp_check_word (K : PySem.W.Frag) : Sp := fun vs H Q _ => ∃ z : Str, vs = [.str z] ∧ Lt.Wd 40 z ∧ ∀ H', Same H H' → Q (.str z) H'
theorem ok_check_word (T : Txt K mg) : FnOk P w K mg base CX0 4 T.f_check_word T.fd_check_word ["word"] (sp_check_word K) := by
  refine T.F_check_word.ok sc_check_word (fun vs H Q E h => ?_) (fun cdv A outer s H vs Q E hr h => ?_)
  · obtain ⟨z, rfl, _⟩ := h
    rfl
  · obtain ⟨z, rfl, hz, k⟩ := h
    refine ⟨_, (pss_cons (ps_if (pt_not (pt_val (pe_call (ok_is_word T) (hr.mono (by decide)) rfl T.g_is_word T.F_is_word.kp T.b_is_word .nil pass0 (pa_cons (pv 0) pa_nil))))
  (pss_one ps_never)
  pss_nil)
  (pss_one (ps_ret (pv 0)))), ?_⟩
    walk_at "rd"
    refine ⟨z, rfl, hz, fun H1 s1 => ?_⟩
    walk_at "rd"
    exact k _ s1

end
end W

namespace W
open PySem PySem.Spec PyProof.Rows L2
section
variable {P : Program} {w : World} {K : PySem.W.Frag} {mg : Str → Option Value} {base : Heap}
/-! ### books -/
/-- some watches: no two alike, at most twelve, each of some letters -/
structure Watches (ws : List Str) : Prop where
  nd : ws.Nodup
  l1 : ws.length ≤ 12
  ok : ∀ z ∈ ws, Lt.Wd 12 z
/-- a book of the watches ws stands at b -/
def BookAt (C : Addr) (H : Hp) (b : Addr) (ws : List Str) : Prop := ∃ dx t, H b = some (.ins C dx [("watches", .ref t)]) ∧ H t = some (.tup (ws.map V.str))
theorem BookAt.same {C : Addr} {H H' : Hp} {b : Addr} {ws : List Str} (h : BookAt C H b ws) (s : Same H H') : BookAt C H' b ws := let ⟨dx, t, h1, h2⟩ := h; ⟨dx, t, s _ _ h1, s _ _ h2⟩
theorem BookAt.but {C t c : Addr} {H H' : Hp} {b : Addr} {ws : List Str} (h : BookAt C H b ws) (tp : Tape H t c) (s : Rd.But t H H') : BookAt C H' b ws := by
  obtain ⟨dx, q, h1, h2⟩ := h
  obtain ⟨ns, x, y, z, u, _, g1, g2, r⟩ := tp
  exact ⟨dx, q, s _ _ (ne_of h1 g1 (fun e => nomatch e)) h1, s _ _ (ne_of h2 g1 (fun e => nomatch e)) h2⟩
def sp_Book_init (K : PySem.W.Frag) (C : Addr) : Sp := fun vs H Q _ => ∃ (b a : Addr) (ws : List Str), vs = [.ref b, .ref a] ∧ (∃ dx, H b = some (.ins C dx [])) ∧ Ru.SqR K H a (ws.map V.str) ∧ Watches ws ∧ ∀ H', BookAt C H' b ws → Rd.But b H H' → Q .non H'
def sp_check_book (K : PySem.W.Frag) (C : Addr) : Sp := fun vs H Q _ => ∃ (b : Addr) (ws : List Str), vs = [.ref b] ∧ BookAt C H b ws ∧ Q (.ref b) H
theorem ok_Book_init (T : Txt K mg) : FnOk P w K mg base CX0 4 T.f_Book_init T.fd_Book_init ["self", "watches"] (sp_Book_init K T.C_Book) := by
  refine T.F_Book_init.ok sc_Book_init (fun vs H Q E h => ?_) (fun cdv A outer s H vs Q E hr h => ?_)
  · obtain ⟨b, a, ws, rfl, _⟩ := h
    rfl
  · obtain ⟨b, a, ws, rfl, ⟨dx, hb⟩, hS, L, k⟩ := h
    refine ⟨_, (pss_cons (ps_if (PW.pt (pw_or (pt_not (pt_val (pe_callB (id := "isinstance") (r := rIsiT K) call_isiT (by rfl) T.n_isinstance (by decide +kernel) (pa_cons (pv 1) (pa_cons (pe_tup (pa_cons (pe_bltn (v := .ty "list") (u := .type "list") (by rfl) T.n_list (by decide +kernel) rfl) (pa_cons (pe_bltn (v := .ty "tuple") (u := .type "tuple") (by rfl) T.n_tuple (by decide +kernel) rfl) pa_nil))) pa_nil))))) (pw_or1 (pt_cmpR op_gt (pe_callB (id := "len") (r := Rd.nLen K) Rd.c_len (by rfl) T.n_len (by decide +kernel) (pa_cons (pv 1) pa_nil)) (pe_glob (v := .int 12) rfl T.m_MOST_WATCHES ⟨_, rfl⟩) (nomark _)))))
  (pss_one ps_never)
  pss_nil)
  (pss_cons (ps_set (i := 2) sc_Book_init.nd rfl (.inl rfl) (pe_lst pa_nil))
  (pss_cons (ps_for PassesOwn.never rfl (Ru.pi_or (pi_enum (by rfl) T.n_enumerate (pa_cons (pv 1) pa_nil)) (Ru.pi_enumT (by rfl) T.n_enumerate (pa_cons (pv 1) pa_nil))) (pg_tup rfl (pgs_cons (pg_name (i := 3) sc_Book_init.nd rfl (.inl rfl)) (pgs_cons (pg_name (i := 4) sc_Book_init.nd rfl (.inl rfl)) pgs_nil)))
  (pss_cons (ps_if (PW.pt (pw_or (pt_not (pt_val (pe_call (ok_is_watch T) (hr.mono (by decide)) rfl T.g_is_watch T.F_is_watch.kp T.b_is_watch .nil pass0 (pa_cons (pv 4) pa_nil)))) (pw_or1 (pt_cmpR (r := rIn K false) op_in_seq (pv 4) (pv 2) (by rfl)))))
  (pss_one ps_never)
  pss_nil)
  (pss_one (ps_expr (pe_bm PySem.F.plainAttrs_list PySem.F.slot_list_append PySem.F.type_list_append mt_append (pv 2) (pa_cons (pv 4) pa_nil))))))
  (pss_one (ps_fld (pv 0) (pe_callTy (T := "tuple") (r := Rd.nTupOf K) Rd.c_tupOf (by rfl) T.n_tuple (by decide +kernel) (pa_cons (pv 2) pa_nil)) rfl))))), ?_⟩
    have l1 := L.l1
    walk_at "rd"
    refine ⟨Nat.le_of_ble_eq_true rfl, Rd.new fun p G hp gp sG => ?_⟩
    walk_at "rd"
    refine Ru.isRow (hS.same sG) gp ?_
    walk_at "rd"
    refine Rd.len (hS.same sG) ?_
    rw [List.length_map]
    walk_at "rd"
    walk_at "no"
    walk_at "rd"
    refine ⟨Nat.zero_le _, Rd.new fun f G2 nf gf s2 => ?_⟩
    walk_at "rd"
    refine Ru.for_enumR (a := a) (xs := ws.map V.str) (fun Q q => ?_) (fun i σ H' => ∃ x y, σ = [some (.ref b), some (.ref a), some (.ref f), x, y] ∧ H' f = some (.lst ((ws.take i).map V.str)) ∧ Same G H') (hS.same sG) ⟨_, _, rfl, gf, s2⟩ (fun i σ H' _ ⟨_, _, _, _, z⟩ => z) ?_ ?_
    · walk_at "rd"
      exact q
    · rintro i x _ H' t hx ⟨_, _, rfl, hf, sm⟩ hT
      obtain ⟨z, hz, rfl⟩ := Rd.map_strG hx
      have sT := Rd.same_upd (o := .tup [.int (i : Nat), .str z]) hT
      refine Rd.tupT (.of upd_same) rfl ?_
      walk_at "rd"
      refine ⟨z, rfl, L.ok z (List.mem_of_getElem? hz), fun H1 s1 => ?_⟩
      have hf1 := s1 _ _ (sT _ _ hf)
      walk_at "rd"
      refine Rd.inStrsY (.inl (.of hf1)) ?_
      rw [decide_eq_false (Rd.nodup_take L.nd hz)]
      walk_at "rd"
      refine Rd.tyL (.of hf1) ?_
      walk_at "rd"
      refine Rd.app hf1 (by rw [List.length_map, List.length_take, sizeLine_eq]; omega) fun G3 g3 off3 => ?_
      walk_at "rd"
      refine ⟨_, _, rfl, ?_, fun c o e => ?_⟩
      · rw [Rd.take_snoc hz, List.map_append]
        exact g3
      · rw [off3 c (ne_of_none e nf)]
        exact s1 _ _ (sT _ _ (sm _ _ e))
    · rintro _ H' ⟨_, _, rfl, hf, sm⟩
      rw [List.length_map, List.take_length] at hf
      walk_at "rd"
      refine Rd.tupOf (.of hf) (Rd.new fun t G3 nt gt s3 => ?_)
      walk_at "rd"
      have hb3 := s3 _ _ (sm _ _ (sG _ _ hb))
      refine Rd.sfld hb3 T.cl_Book T.na_Book_watches (by decide) rfl fun G4 g4 off4 => ?_
      walk_at "rd"
      refine k _ ⟨dx, t, g4, ?_⟩ fun c o n e => ?_
      · rw [off4 t (ne_of gt hb3 (fun e => nomatch e))]
        exact gt
      · rw [off4 c n]
        exact s3 _ _ (sm _ _ (sG _ _ e))
theorem ok_check_book (T : Txt K mg) : FnOk P w K mg base CX0 4 T.f_check_book T.fd_check_book ["book"] (sp_check_book K T.C_Book) := by
  refine T.F_check_book.ok sc_check_book (fun vs H Q E h => ?_) (fun cdv A outer s H vs Q E hr h => ?_)
  · obtain ⟨b, ws, rfl, _⟩ := h
    rfl
  · obtain ⟨b, ws, rfl, ⟨dx, t, hb, ht⟩, k⟩ := h
    refine ⟨_, (pss_cons (ps_if (pt_not (pt_val (pe_callB (id := "isinstance") (r := rIsi K) call_isi (by rfl) T.n_isinstance (by decide +kernel) (pa_cons (pv 0) (pa_cons (pe_glob (v := .ref T.C_Book) rfl T.c_Book rfl) pa_nil)))))
  (pss_one ps_never)
  pss_nil)
  (pss_one (ps_ret (pv 0)))), ?_⟩
    walk_at "rd"
    refine isiOwn T.cl_Book T.ty_Book hb ?_
    walk_at "rd"
    exact k

end
end W

namespace W
open PySem PySem.Spec PyProof.Rows L2
section
variable {P : Program} {w : World} {K : PySem.W.Frag} {mg : Str → Option Value} {base : Heap}
/-! ### the roads of a word: lists of spots -/
def Links (K : PySem.W.Frag) (H : Hp) (p : Addr) (n : Nat) (A : Nat → Nat → Prop) : Prop := ∃ rs : List Addr, SqL K H p (rs.map V.ref) ∧ rs.length = n + 1 ∧ ∀ i r, rs[i]? = some r → ∃ ms : List Int, SqL K H r (ms.map V.int) ∧ (ms.Pairwise (· ≤ ·) ∧ ms.length ≤ 1000000) ∧ ∀ x, x ∈ ms ↔ ∃ j : Nat, x = j ∧ A i j
theorem Links.same {K : PySem.W.Frag} {H H' : Hp} {p : Addr} {n : Nat} {A : Nat → Nat → Prop} (h : Links K H p n A) (s : Same H H') : Links K H' p n A := by
  obtain ⟨rs, h1, h2, h3⟩ := h
  exact ⟨rs, s.seq h1, h2, fun i r e => let ⟨ms, k1, k2⟩ := h3 i r e; ⟨ms, s.seq k1, k2⟩⟩
def Rows (H : Hp) (rs : List Addr) (F : Nat → List Int) : Prop := rs.Nodup ∧ ∀ (i : Nat) r, rs[i]? = some r → H r = some (.lst ((F i).map V.int))
theorem Rows.put {H G : Hp} {rs : List Addr} {F : Nat → List Int} (h : Rows H rs F) {i : Nat} {r : Addr} {x : Int} (hi : rs[i]? = some r) (g : G r = some (.lst ((F i).map V.int ++ [.int x]))) (off : ∀ b, b ≠ r → G b = H b) : Rows G rs (fun j => if j = i then F i ++ [x] else F j) := by
  refine ⟨h.1, fun j q hj => ?_⟩
  by_cases c : j = i
  · subst c
    rw [hi] at hj
    cases hj
    show G r = some (.lst ((if j = j then F j ++ [x] else F j).map V.int))
    rw [if_pos rfl, List.map_append]
    exact g
  · have n : q ≠ r := fun e => by
      subst e
      exact c ((List.getElem?_inj (List.getElem?_eq_some_iff.mp hj).1 h.1).mp (hj.trans hi.symm))
    show G q = some (.lst ((if j = i then F i ++ [x] else F j).map V.int))
    rw [if_neg c, off q n]
    exact h.2 j q hj
def sp_links_of (K : PySem.W.Frag) : Sp := fun vs H Q _ => ∃ (a : Addr) (ws : List Str) (z : Str), vs = [.ref a, .str z] ∧ Ru.SqR K H a (ws.map V.str) ∧ (∀ W ∈ ws, 1 ≤ W.length ∧ W.length ≤ 1000) ∧ ws.length ≤ 100 ∧ z.length ≤ 1000 ∧ ∀ p H', Links K H' p z.length (Mw.Adj ws z) → Same H H' → H p = none → Q (.ref p) H'
/-- the rows so far: f the list of them, G0 what stood ahead -/
structure SoFar (G0 H : Hp) (f : Addr) (rs : List Addr) (n : Nat) (F : Nat → List Int) : Prop where
  sm : Same G0 H
  hf : H f = some (.lst (rs.map V.ref))
  ro : Rows H rs F
  ln : rs.length = n + 1
  nr : ∀ r ∈ rs, G0 r = none ∧ r ≠ f
theorem SoFar.put {G0 H G : Hp} {f : Addr} {rs : List Addr} {n : Nat} {F : Nat → List Int} (h : SoFar G0 H f rs n F) {i : Nat} {r : Addr} {x : Int} (hi : rs[i]? = some r) (g : G r = some (.lst ((F i).map V.int ++ [.int x]))) (off : ∀ b, b ≠ r → G b = H b) : SoFar G0 G f rs n (fun j => if j = i then F i ++ [x] else F j) := by
  have m := h.nr r (List.mem_of_getElem? hi)
  refine ⟨fun b o e => ?_, ?_, h.ro.put hi g off, h.ln, h.nr⟩
  · rw [off b (ne_of_none e m.1)]
    exact h.sm b o e
  · rw [off f m.2.symm]
    exact h.hf
theorem SoFar.row {G0 H : Hp} {f : Addr} {rs : List Addr} {n : Nat} {F : Nat → List Int} (h : SoFar G0 H f rs n F) {i : Nat} (hi : i ≤ n) : ∃ r, rs[i]? = some r ∧ H r = some (.lst ((F i).map V.int)) ∧ atI (rs.map V.ref) (i : Int) = some (.ref r) := by
  have l : i < rs.length := by have := h.ln; omega
  exact ⟨rs[i], List.getElem?_eq_getElem l, h.ro.2 i _ (List.getElem?_eq_getElem l), atI_nat (Rd.map_ref l)⟩
theorem ok_links_of (T : Txt K mg) : FnOk P w K mg base CX0 1 T.f_links_of T.fd_links_of ["watches", "word"] (sp_links_of K) := by
  refine T.F_links_of.ok sc_links_of (fun vs H Q E h => ?_) (fun cdv A outer s H vs Q E hr h => ?_)
  · obtain ⟨a, ws, z, rfl, _⟩ := h
    rfl
  · obtain ⟨a, ws, z, rfl, hS, hw, l1, l2, k⟩ := h
    refine ⟨_, (pss_cons (ps_setLc (i := 3) (own := [("spot", 2)]) (g := gName 2) (tt := tYes) rfl sc_links_of.nd rfl rfl (sw_true rfl rfl rfl (by decide +kernel)) (pi_range1 rfl T.n_range (pa_cons (pe_op op_add (pe_callB (id := "len") (r := _) Rd.c_lenS (by rfl) T.n_len (by decide +kernel) (pa_cons (pv 1) pa_nil)) pe_int) pa_nil)) (blkOk_by (own := [("spot", 2)]) (N := ["watches", "word", "spot", "found", "watch", "row"]) (sc := defScope s_links_of) (by decide +kernel)) (fun _ _ _ _ _ => (pg_name (i := 2) sc_links_of.nd rfl (.inl rfl))) (fun _ _ _ _ _ => pts_nil) (fun _ _ _ _ _ => (pe_lst pa_nil)))
  (pss_cons (ps_for PassesOwn.never rfl (Ru.pi_or (pi_list (pv 0)) (pi_tup (pv 0))) (pg_name (i := 4) sc_links_of.nd rfl (.inl rfl))
  (pss_one (ps_for PassesOwn.never rfl (pi_range1 rfl T.n_range (pa_cons (pe_op op_add (pe_op op_sub (pe_callB (id := "len") (r := _) Rd.c_lenS (by rfl) T.n_len (by decide +kernel) (pa_cons (pv 1) pa_nil)) (pe_callB (id := "len") (r := _) Rd.c_lenS (by rfl) T.n_len (by decide +kernel) (pa_cons (pv 4) pa_nil))) pe_int) pa_nil)) (pg_name (i := 2) sc_links_of.nd rfl (.inl rfl))
  (pss_one (ps_if (pt_cmpR op_eq (pe_slice sl_str (pv 1) (po_some (pv 2)) (po_some (pe_op op_add (pv 2) (pe_callB (id := "len") (r := _) Rd.c_lenS (by rfl) T.n_len (by decide +kernel) (pa_cons (pv 4) pa_nil))))) (pv 4) (nomark _))
  (pss_cons (ps_expr (pe_bm PySem.F.plainAttrs_list PySem.F.slot_list_append PySem.F.type_list_append mt_append (pe_ix (r := rIxL K) ix_list (pv 3) (pv 2) (fun _ _ => rfl)) (pa_cons (pe_op op_add (pv 2) (pe_callB (id := "len") (r := _) Rd.c_lenS (by rfl) T.n_len (by decide +kernel) (pa_cons (pv 4) pa_nil))) pa_nil)))
  (pss_one (ps_expr (pe_bm PySem.F.plainAttrs_list PySem.F.slot_list_append PySem.F.type_list_append mt_append (pe_ix (r := rIxL K) ix_list (pv 3) (pe_op op_add (pv 2) (pe_callB (id := "len") (r := _) Rd.c_lenS (by rfl) T.n_len (by decide +kernel) (pa_cons (pv 4) pa_nil))) (fun _ _ => rfl)) (pa_cons (pv 2) pa_nil)))))
  pss_nil)))))
  (pss_one (ps_ret (pe_lc (own := [("row", 5)]) (g := gName 5) (tt := tYes) rfl sc_links_of.nd (pi_list (pv 3)) (blkOk_by (own := [("row", 5)]) (N := ["watches", "word", "spot", "found", "watch", "row"]) (sc := defScope s_links_of) (by decide +kernel)) (fun _ _ _ _ _ => (pg_name (i := 5) sc_links_of.nd rfl (.inl rfl))) (fun _ _ _ _ _ => pts_nil) (fun _ _ _ _ _ => (pe_callB (id := "sorted") (r := rSortedI K) cr_sortedI (by rfl) T.n_sorted (by decide +kernel) (pa_cons (pv 5) pa_nil)))))))), ?_⟩
    have zl : z.length ≤ sizeLine := by rw [sizeLine_eq]; omega
    walk_at "rd"
    refine Rd.lenStr zl ?_
    walk_at "rd"
    refine ⟨by omega, by omega, ?_⟩
    rw [show ((z.length : Int) + 1).toNat = z.length + 1 by omega]
    refine Rd.lcS walk_range (fun _ _ => trivial) (fun D i acc Hc => ∃ rs : List Addr, acc = rs.map V.ref ∧ rs.length = i ∧ rs.Nodup ∧ (∀ r ∈ rs, H r = none ∧ r ≠ D) ∧ ∀ r ∈ rs, Hc r = some (.lst [])) (fun _ _ _ _ _ => ⟨[], rfl, rfl, .nil, fun _ h => by simp at h, fun _ h => by simp at h⟩) ?_ ?_
    · rintro D i x G _ acc nD hi hD sm ⟨rs, rfl, ln, nd, h1, h2⟩ ⟨rfl, rfl⟩
      walk_at "rd"
      refine ⟨rfl, Rd.tyes ?_⟩
      walk_at "rd"
      refine ⟨Nat.zero_le _, Rd.new fun r G1 nr gr s1 => ?_⟩
      refine Rd.lcPush (s1 _ _ hD) nD (sm.trans s1) (by rw [List.length_map, ln, sizeLine_eq]; omega) fun G2 g2 off2 => ?_
      have rD : r ≠ D := (ne_of_none hD nr).symm
      have out : ∀ q ∈ rs, q ≠ r := fun q hq => ne_of_none (h2 q hq) nr
      refine ⟨rs ++ [r], by rw [List.map_append]; rfl, by rw [List.length_append, ln]; rfl, ?_, fun q hq => ?_, fun q hq => ?_⟩
      · rw [List.nodup_append]
        exact ⟨nd, by simp, fun q hq y hy e => out q hq (by simp at hy; rw [e, hy])⟩
      · rcases List.mem_append.mp hq with h | h
        · exact h1 q h
        · simp at h
          subst h
          exact ⟨sm.free nr, rD⟩
      · rcases List.mem_append.mp hq with h | h
        · rw [off2 q (h1 q h).2]
          exact s1 _ _ (h2 q h)
        · simp at h
          subst h
          rw [off2 q rD]
          exact gr
    · rintro f acc G nf hf sm ⟨rs, rfl, ln, nd, h1, h2⟩
      walk_at "rd"
      have sf0 : SoFar H G f rs z.length (fun _ => []) := ⟨sm, hf, ⟨nd, fun i r e => h2 r (List.mem_of_getElem? e)⟩, ln, h1⟩
      refine Ru.for_row (a := a) (xs := ws.map V.str) (fun Q q => ?_) (fun k σ H' => ∃ o1 o2 F, σ = [some (.ref a), some (.str z), o1, some (.ref f), o2, none] ∧ SoFar H H' f rs z.length F ∧ (∀ i, i ≤ z.length → ∀ x, x ∈ F i ↔ ∃ j : Nat, x = j ∧ Mw.Adj (ws.take k) z i j) ∧ ∀ i, (F i).length ≤ 2 * (k * (z.length + 1))) hS
        ⟨_, _, _, rfl, sf0, fun i _ x => ⟨fun h => by simp at h, fun ⟨j, _, h⟩ => absurd h Mw.adj_nil⟩, fun i => Nat.zero_le _⟩ (fun i σ H' _ ⟨_, _, _, _, z, _⟩ => z.sm) ?_ ?_
      · walk_at "rd"
        exact q
      · rintro k x _ H' hx ⟨o1, o2, F, rfl, sf, hF, lF⟩
        obtain ⟨W, hW, rfl⟩ := Rd.map_strG hx
        have wl := hw W (List.mem_of_getElem? hW)
        have wz : W.length ≤ sizeLine := by rw [sizeLine_eq]; omega
        have kl : k < ws.length := (List.getElem?_eq_some_iff.mp hW).1
        walk_at "rd"
        refine Rd.forS ?_
        walk_at "rd"
        refine Rd.lenStr zl ?_
        walk_at "rd"
        refine Rd.lenStr wz ?_
        walk_at "rd"
        refine ⟨by omega, by omega, ?_⟩
        refine for_range (lo := 0) (n := ((z.length : Int) - (W.length : Int) + 1).toNat) (fun m σ H' => ∃ o1 F, σ = [some (.ref a), some (.str z), o1, some (.ref f), some (.str W), none] ∧ SoFar H H' f rs z.length F ∧ (∀ i, i ≤ z.length → ∀ x, x ∈ F i ↔ ∃ j : Nat, x = j ∧ Mw.AdjB (ws.take k) W z m i j) ∧ ∀ i, (F i).length ≤ 2 * (k * (z.length + 1) + m))
          ⟨_, F, rfl, sf, fun i hi x => (hF i hi x).trans (exists_congr fun j => and_congr_right fun _ => Mw.adjB_zero.symm), lF⟩ ?_ ?_
        · rintro m _ H1 hm ⟨o1, F, rfl, sf, hF, lF⟩
          have mz : m + W.length ≤ z.length := by omega
          have kz : k * (z.length + 1) ≤ 100 * 1001 := Nat.mul_le_mul (by omega) (by omega)
          have small : ∀ i, (F i).length < sizeLine := fun i => by have := lF i; rw [sizeLine_eq]; omega
          walk_at "rd"
          rw [Int.zero_add]
          refine Rd.lenStr wz ?_
          walk_at "rd"
          refine Rd.slS zl ?_
          walk_at "rd"
          refine ite2 (fun q => ?_) (fun q => ?_)
          · have oc : Mw.Occ W z m := ⟨mz, q⟩
            walk_at "rd"
            obtain ⟨r, e1, e2, e3⟩ := sf.row (i := m) (by omega)
            refine Rd.ixL (.of sf.hf) e3 ?_
            refine Rd.tyL (.of e2) ?_
            walk_at "rd"
            refine Rd.lenStr wz ?_
            walk_at "rd"
            refine Rd.app e2 (by rw [List.length_map]; exact small m) fun G1 g1 off1 => ?_
            have sf1 := sf.put e1 g1 off1
            walk_at "rd"
            refine Rd.lenStr wz ?_
            walk_at "rd"
            obtain ⟨r', d1, d2, d3⟩ := sf1.row (i := m + W.length) mz
            rw [show ((m + W.length : Nat) : Int) = (m : Int) + (W.length : Int) by omega] at d3
            have ne : ¬ m + W.length = m := by omega
            rw [if_neg ne] at d2
            refine Rd.ixL (.of sf1.hf) d3 ?_
            refine Rd.tyL (.of d2) ?_
            walk_at "rd"
            refine Rd.app d2 (by rw [List.length_map]; exact small _) fun G2 g2 off2 => ?_
            have sf2 := sf1.put (x := (m : Int)) d1 (by rw [if_neg ne]; exact g2) off2
            walk_at "rd"
            refine ⟨_, _, rfl, sf2, fun i hi x => ?_, fun i => ?_⟩
            · have base := hF i hi x
              have yes : ∀ j, Mw.AdjB (ws.take k) W z (m + 1) i j ↔ Mw.AdjB (ws.take k) W z m i j ∨ (i = m ∧ j = m + W.length) ∨ (j = m ∧ i = m + W.length) := fun j => Mw.adjB_yes oc
              simp only [yes]
              by_cases c1 : i = m + W.length
              · subst c1
                rw [if_pos rfl, if_neg ne, List.mem_append, base]
                constructor
                · rintro (⟨j, h1, h2⟩ | h)
                  · exact ⟨j, h1, .inl h2⟩
                  · exact ⟨m, by simpa using h, .inr (.inr ⟨rfl, rfl⟩)⟩
                · rintro ⟨j, h1, h2 | ⟨h2, _⟩ | ⟨h2, _⟩⟩
                  · exact .inl ⟨j, h1, h2⟩
                  · omega
                  · exact .inr (by simp; omega)
              · rw [if_neg c1]
                by_cases c2 : i = m
                · subst c2
                  rw [if_pos rfl, List.mem_append, base]
                  constructor
                  · rintro (⟨j, h1, h2⟩ | h)
                    · exact ⟨j, h1, .inl h2⟩
                    · exact ⟨_, by simpa using h, .inr (.inl ⟨rfl, rfl⟩)⟩
                  · rintro ⟨j, h1, h2 | ⟨_, h2⟩ | ⟨_, h2⟩⟩
                    · exact .inl ⟨j, h1, h2⟩
                    · exact .inr (by simp; omega)
                    · omega
                · rw [if_neg c2, base]
                  constructor
                  · rintro ⟨j, h1, h2⟩
                    exact ⟨j, h1, .inl h2⟩
                  · rintro ⟨j, h1, h2 | ⟨h2, _⟩ | ⟨_, h2⟩⟩
                    · exact ⟨j, h1, h2⟩
                    · exact absurd h2 c2
                    · exact absurd h2 c1
            · have b1 := lF i
              have b2 := lF m
              have b3 := lF (m + W.length)
              show (if i = m + W.length then (if m + W.length = m then F m ++ [(m : Int) + (W.length : Int)] else F (m + W.length)) ++ [(m : Int)] else if i = m then F m ++ [(m : Int) + (W.length : Int)] else F i).length ≤ _
              rw [if_neg ne]
              split
              · rw [List.length_append, List.length_singleton]; omega
              · split
                · rw [List.length_append, List.length_singleton]; omega
                · omega
          · have oc : ¬ Mw.Occ W z m := fun h => q h.2
            walk_at "rd"
            exact ⟨_, F, rfl, sf, fun i hi x => (hF i hi x).trans (exists_congr fun j => and_congr_right fun _ => (Mw.adjB_no oc).symm), fun i => by have := lF i; omega⟩
        · rintro _ H1 ⟨o1, F, rfl, sf, hF, lF⟩
          walk_at "rd"
          refine ⟨_, _, F, rfl, sf, fun i hi x => (hF i hi x).trans (exists_congr fun j => and_congr_right fun _ => ?_), fun i => ?_⟩
          · rw [Rd.take_snoc hW]
            exact Mw.adjB_all (by omega)
          · have := lF i
            have e : (k + 1) * (z.length + 1) = k * (z.length + 1) + (z.length + 1) := Nat.succ_mul _ _
            omega
      · rintro _ G1 ⟨o1, o2, F, rfl, sf, hF, lF⟩
        rw [List.length_map, List.take_length] at hF
        have big : ∀ i, (F i).length ≤ 1000000 := fun i => by
          have h1 := lF i
          rw [List.length_map] at h1
          have h2 : ws.length * (z.length + 1) ≤ 100 * 1001 := Nat.mul_le_mul l1 (by omega)
          omega
        walk_at "rd"
        refine ⟨⟨_, .of sf.hf⟩, Rd.lcS walk_list (fun _ s => .of (s _ _ sf.hf)) (fun D i acc Hc => ∃ qs : List Addr, acc = qs.map V.ref ∧ qs.length = i ∧ (∀ q ∈ qs, q ≠ D) ∧ ∀ j q, qs[j]? = some q → ∃ ms : List Int, Hc q = some (.lst (ms.map V.int)) ∧ ms.Pairwise (· ≤ ·) ∧ ms.Perm (F j)) (fun _ _ _ _ _ => ⟨[], rfl, rfl, fun _ h => by simp at h, fun _ _ h => by simp at h⟩) ?_ ?_⟩
        · rintro D i x G2 _ acc nD hi hD sm2 ⟨qs, rfl, ql, qD, hq⟩ ⟨rfl, hx⟩
          obtain ⟨r, hr, rfl⟩ := Rd.map_refG hx
          walk_at "rd"
          refine ⟨rfl, Rd.tyes ?_⟩
          walk_at "rd"
          refine Rd.sortedI (.of (sm2 _ _ (sf.ro.2 i r hr))) fun ms p G3 pm ps gp s3 np => ?_
          have pD : p ≠ D := (ne_of_none hD np).symm
          refine Rd.lcPush (s3 _ _ hD) nD (sm2.trans s3) (by rw [List.length_map, ql, sizeLine_eq]; rw [List.length_map, ln] at hi; omega) fun G4 g4 off4 => ?_
          refine ⟨qs ++ [p], by rw [List.map_append]; rfl, by rw [List.length_append, ql]; rfl, fun q h => ?_, fun j q h => ?_⟩
          · rcases List.mem_append.mp h with h | h
            · exact qD q h
            · simp at h
              rw [h]
              exact pD
          · rcases Nat.lt_or_ge j qs.length with l | l
            · rw [List.getElem?_append_left l] at h
              obtain ⟨ms', h1, h2, h3⟩ := hq j q h
              exact ⟨ms', by rw [off4 q (qD q (List.mem_of_getElem? h))]; exact s3 _ _ h1, h2, h3⟩
            · rw [List.getElem?_append_right l] at h
              have e : j = i := by
                have := (List.getElem?_eq_some_iff.mp h).1
                simp at this
                omega
              subst e
              rw [ql, Nat.sub_self] at h
              cases h
              exact ⟨ms, by rw [off4 _ pD]; exact gp, ps, pm⟩
        · rintro D acc G2 nD hD sm2 ⟨qs, rfl, ql, qD, hq⟩
          rw [List.length_map, ln] at ql
          refine k D G2 ⟨qs, .of hD, ql, fun i q h => ?_⟩ (sf.sm.trans sm2) (sf.sm.free nD)
          obtain ⟨ms, h1, h2, h3⟩ := hq i q h
          exact ⟨ms, .of h1, ⟨h2, by rw [h3.length_eq]; exact big i⟩, fun x => h3.mem_iff.trans (hF i (by have := (List.getElem?_eq_some_iff.mp h).1; omega) x)⟩

end
end W

namespace W
open PySem PySem.Spec PyProof.Rows L2
section
variable {P : Program} {w : World} {K : PySem.W.Frag} {mg : Str → Option Value} {base : Heap}
/-! ### words and watches drawn, the second way -/
theorem but_off {t l : Addr} {H H1 G : Hp} (b : Rd.But t H H1) (n : H l = none) (off : ∀ q, q ≠ l → G q = H1 q) : Rd.But t H G := fun q o h e => by rw [off q (ne_of_none e n)]; exact b q o h e
/-- a comprehension that draws -/
def LcStT (t c D : Addr) (H1 : Hp) (R : Nat → List V → Hp → Prop) : Nat → Hp → Prop := fun i H => ∃ acc, H D = some (.lst acc) ∧ Tape H t c ∧ Rd.But t H1 H ∧ R i acc H
def LcPuT (t c D : Addr) (H1 : Hp) (R : Nat → List V → Hp → Prop) (i : Nat) (y : V) (H4 : Hp) : Prop := ∃ acc, H4 D = some (.lst acc) ∧ acc.length < sizeLine ∧ LcStT t c D H1 R (i + 1) (upd H4 D (.lst (acc ++ [y])))
theorem lcPuT {t c D : Addr} {H1 H4 : Hp} {R : Nat → List V → Hp → Prop} {i : Nat} {y : V} {acc : List V} (hD : H4 D = some (.lst acc)) (nD : H1 D = none) (tp1 : Tape H1 t c) (tp : Tape H4 t c) (b : Rd.But t H1 H4) (hz : acc.length < sizeLine) (r : ∀ G : Hp, G D = some (.lst (acc ++ [y])) → (∀ b, b ≠ D → G b = H4 b) → R (i + 1) (acc ++ [y]) G) : LcPuT t c D H1 R i y H4 :=
  have ⟨dt, dc⟩ := tp1.new nD
  ⟨acc, hD, hz, acc ++ [y], upd_same, tp.off dt dc fun q h => upd_ne h, but_off b nD fun q h => upd_ne h, r _ upd_same fun b hb => upd_ne hb⟩
theorem lcT {J : It} {n : Nat} {G : Hp → Prop} {Y : Nat → Hp → V → Hp → Prop} (w : Walk J n G Y) {g : TG} {tt : TT} {te : TE} {vs : List Nat} {σ : L2.St} {H1 : Hp} {Q : VK} {t c : Addr} (tp : Tape H1 t c) (hG : ∀ H, Rd.But t H1 H → G H) (R : Addr → Nat → List V → Hp → Prop)
    (r0 : ∀ (D : Addr) (G : Hp), H1 D = none → G D = some (.lst []) → Same H1 G → R D 0 [] G)
    (hs : ∀ (D : Addr) i x H H' acc, H1 D = none → i < n → H D = some (.lst acc) → Tape H t c → Rd.But t H1 H → R D i acc H → Y i H x H' → g x (wipe σ vs) H' fun σ2 H2 => wipe σ2 vs = wipe σ vs ∧ tt σ2 H2 fun b H3 =>
      if b = true then te σ2 H3 fun y H4 => LcPuT t c D H1 (R D) i y H4 else LcStT t c D H1 (R D) (i + 1) H3)
    (hd : ∀ (D : Addr) acc H, H1 D = none → H D = some (.lst acc) → Tape H t c → Rd.But t H1 H → R D n acc H → Q (.ref D) H) : Rd.Lc J g tt te vs σ H1 Q := fun D nD =>
  lc_it w (LcStT t c D H1 (R D)) ⟨[], upd_same, tp.same (Rd.same_upd nD), Rd.But.of (Rd.same_upd nD), r0 D _ nD upd_same (Rd.same_upd nD)⟩ (fun i H hi ⟨acc, h1, h2, h3, h4⟩ => hG H h3)
    (fun i x H H' hi ⟨acc, h1, h2, h3, h4⟩ y => hs D i x H H' acc nD hi h1 h2 h3 h4 y) (fun H ⟨acc, h1, h2, h3, h4⟩ => hd D acc H nD h1 h2 h3 h4)
/-- single letters -/
def Ones (ys : List Str) : Prop := ∀ y ∈ ys, Lt.Let y ∧ y.length = 1
theorem Ones.nil : Ones [] := fun _ h => by simp at h
theorem Ones.snoc {ys : List Str} {c : Nat} (h : Ones ys) (hc : c ∈ Lt.Abc.cps.toList) : Ones (ys ++ [⟨#[c]⟩]) := fun y hy => by
  rcases List.mem_append.mp hy with q | q
  · exact h y q
  · simp at q
    subst q
    exact ⟨Lt.Let.one hc, rfl⟩
theorem Ones.snoc' {ys : List Str} {z : Str} (h : Ones ys) (hz : Lt.Let z ∧ z.length = 1) : Ones (ys ++ [z]) := fun y hy => by
  rcases List.mem_append.mp hy with q | q
  · exact h y q
  · simp at q
    subst q
    exact hz
theorem abc_get {i : Int} (h0 : 0 ≤ i) (h1 : i < 26) : ∃ c, atI Lt.Abc.cps.toList i = some c ∧ c ∈ Lt.Abc.cps.toList := by
  have l : Lt.Abc.cps.toList.length = 26 := by decide +kernel
  have hi : i.toNat < Lt.Abc.cps.toList.length := by omega
  exact ⟨_, Rd.atI_of h0 (List.getElem?_eq_getElem hi), List.getElem_mem hi⟩
theorem let_get {z : Str} (h : Lt.Let z) {i : Int} (h0 : 0 ≤ i) (h1 : i < z.length) : ∃ c, atI z.cps.toList i = some c ∧ c ∈ Lt.Abc.cps.toList := by
  have hi : i.toNat < z.cps.toList.length := by rw [Array.length_toList]; unfold Str.length at h1; omega
  exact ⟨_, Rd.atI_of h0 (List.getElem?_eq_getElem hi), h _ (List.getElem_mem hi)⟩
def sp_l_letters (K : PySem.W.Frag) : Sp := fun vs H Q _ => ∃ (t c : Addr) (m : Int), vs = [.ref t, .int m] ∧ Tape H t c ∧ 0 ≤ m ∧ m ≤ 1000 ∧ ∀ (l : Addr) (ys : List Str) H', Tape H' t c → Rd.But t H H' → H l = none → H' l = some (.lst (ys.map V.str)) → (ys.length : Int) = m → Ones ys → Q (.ref l) H'
def sp_l_word (K : PySem.W.Frag) : Sp := fun vs H Q _ => ∃ (t c : Addr) (m : Int), vs = [.ref t, .int m] ∧ Tape H t c ∧ 1 ≤ m ∧ m ≤ 1000 ∧ ∀ (z : Str) H', Lt.Wd m z → Tape H' t c → Rd.But t H H' → Q (.str z) H'
def sp_l_watch (K : PySem.W.Frag) : Sp := fun vs H Q _ => ∃ (t c : Addr) (z : Str) (m : Int), vs = [.ref t, .str z, .int m] ∧ Tape H t c ∧ Lt.Wd 1000 z ∧ 1 ≤ m ∧ m ≤ 1000 ∧ ∀ (y : Str) H', Lt.Wd m y → Tape H' t c → Rd.But t H H' → Q (.str y) H'
def sp_l_watches (K : PySem.W.Frag) : Sp := fun vs H Q _ => ∃ (t c : Addr) (z : Str) (many most : Int), vs = [.ref t, .str z, .int many, .int most] ∧ Tape H t c ∧ Lt.Wd 1000 z ∧ 0 ≤ many ∧ many ≤ 12 ∧ 1 ≤ most ∧ most ≤ 12 ∧ ∀ (l : Addr) (ws : List Str) H', Tape H' t c → Rd.But t H H' → H l = none → H' l = some (.lst (ws.map V.str)) → ws.Nodup → (ws.length : Int) ≤ many → (∀ y ∈ ws, Lt.Wd most y) → Q (.ref l) H'
def sp_l_mixed (K : PySem.W.Frag) : Sp := fun vs H Q _ => ∃ (t c a : Addr) (ws : List Str), vs = [.ref t, .ref a] ∧ Tape H t c ∧ a ≠ t ∧ SqL K H a (ws.map V.str) ∧ ws.length ≤ 1000 ∧ ∀ (l : Addr) (us : List Str) H', Tape H' t c → Rd.But t H H' → H l = none → H' l = some (.lst (us.map V.str)) → us.Perm ws → Q (.ref l) H'
theorem ok_l_letters (T : Txt K mg) : FnOk P w K mg base CX0 2 T.f_l_letters T.fd_l_letters ["_law_tape_here", "_law_many"] (sp_l_letters K) := by
  refine T.F_l_letters.ok sc_l_letters (fun vs H Q E h => ?_) (fun cdv A outer s H vs Q E hr h => ?_)
  · obtain ⟨t, c, m, rfl, _⟩ := h
    rfl
  · obtain ⟨t, c, m, rfl, tp, m0, m1, k⟩ := h
    refine ⟨_, (pss_cons (ps_set (i := 2) sc_l_letters.nd rfl (.inr rfl) (pe_call (ok_l_pick T) (hr.mono (by decide)) rfl T.g_l_pick T.F_l_pick.kp T.b_l_pick .nil pass0 (pa_cons (pv 0) (pa_cons pe_int pa_nil))))
  (pss_cons (ps_set (i := 3) sc_l_letters.nd rfl (.inr rfl) (pe_ix (r := rIxL K) ix_list (pe_lst (pa_cons pe_int (pa_cons pe_int (pa_cons pe_int (pa_cons pe_int (pa_cons pe_int (pa_cons pe_int pa_nil))))))) (pe_call (ok_l_pick T) (hr.mono (by decide)) rfl T.g_l_pick T.F_l_pick.kp T.b_l_pick .nil pass0 (pa_cons (pv 0) (pa_cons pe_int pa_nil))) (fun _ _ => rfl)))
  (pss_one (ps_ret (pe_lc (own := [("_law_k", 4)]) (g := gName 4) (tt := tYes) rfl sc_l_letters.nd (pi_range1 rfl T.n_range (pa_cons (pv 1) pa_nil)) (blkOk_by (own := [("_law_k", 4)]) (N := ["_law_tape_here", "_law_many", "_law_start", "_law_step", "_law_k"]) (sc := defScope s_l_letters) (by decide +kernel)) (fun _ _ _ _ _ => (pg_name (i := 4) sc_l_letters.nd rfl (.inl rfl))) (fun _ _ _ _ _ => pts_nil) (fun _ _ _ _ _ => (pe_ix ix_str pe_str (pe_op op_mod (pe_callTy (T := "int") (r := _) Rd.c_int (by rfl) T.n_int (by decide +kernel) (pa_cons (pe_op op_add (pv 2) (pe_op op_mul (pv 3) (pv 4))) pa_nil)) pe_int) (fun _ _ => rfl)))))))), ?_⟩
    walk_at "rd"
    refine pickR tp (by decide) (by decide) fun st H1 st0 st1 tp1 b1 => ?_
    walk_at "rd"
    refine ⟨Nat.le_of_ble_eq_true rfl, Rd.new fun p G2 np gp s2 => ?_⟩
    walk_at "rd"
    refine pickR (tp1.same s2) (by decide) (by decide) fun sp H3 sp0 sp1 tp3 b3 => ?_
    have pt : p ≠ t := (tp1.new np).1
    obtain ⟨step, hm, q0, q1⟩ : ∃ m, [V.int 1, .int 3, .int 5, .int 7, .int 9, .int 11][sp.toNat]? = some (.int m) ∧ 1 ≤ m ∧ m ≤ 11 := by
      have : sp.toNat = 0 ∨ sp.toNat = 1 ∨ sp.toNat = 2 ∨ sp.toNat = 3 ∨ sp.toNat = 4 ∨ sp.toNat = 5 := by omega
      rcases this with e | e | e | e | e | e <;> rw [e] <;> exact ⟨_, rfl, by decide, by decide⟩
    refine Rd.ixL (.of (b3 p _ pt gp)) (Rd.atI_of sp0 hm) ?_
    walk_at "rd"
    refine ⟨by omega, by omega, ?_⟩
    refine Rd.lcS walk_range (fun _ _ => trivial) (fun D i acc _ => ∃ ys : List Str, acc = ys.map V.str ∧ ys.length = i ∧ Ones ys) (fun _ _ _ _ _ => ⟨[], rfl, rfl, Ones.nil⟩) ?_ ?_
    · rintro D i x G _ acc nD hi hD sm ⟨ys, rfl, yl, hy⟩ ⟨rfl, rfl⟩
      walk_at "rd"
      refine ⟨rfl, ?_⟩
      walk_at "rd"
      refine Rd.iC (.inl ⟨by omega, by omega⟩) ?_
      walk_at "rd"
      refine Rd.iC (by decide) ?_
      obtain ⟨ch, e, hc⟩ := abc_get (i := (st + step * (0 + (i : Int))) % 26) (Int.emod_nonneg _ (by decide)) (Int.emod_lt_of_pos _ (by decide))
      refine Rd.ixS (by decide +kernel) e ?_
      refine Rd.lcPush hD nD sm (by rw [List.length_map, yl, sizeLine_eq]; omega) fun G2 g2 off2 => ?_
      exact ⟨ys ++ [⟨#[ch]⟩], by rw [List.map_append]; rfl, by rw [List.length_append, yl]; rfl, hy.snoc hc⟩
    · rintro D acc G nD hD sm ⟨ys, rfl, yl, hy⟩
      have nD0 := b3.free (tp3.new nD).1 nD
      have nD1 := s2.free nD0
      exact k D ys G (tp3.same sm) (((b1.same s2).trans b3).same sm) (b1.free (tp1.new nD1).1 nD1) hD (by omega) hy
theorem ok_l_word (T : Txt K mg) : FnOk P w K mg base CX0 3 T.f_l_word T.fd_l_word ["_law_tape_here", "_law_most"] (sp_l_word K) := by
  refine T.F_l_word.ok sc_l_word (fun vs H Q E h => ?_) (fun cdv A outer s H vs Q E hr h => ?_)
  · obtain ⟨t, c, m, rfl, _⟩ := h
    rfl
  · obtain ⟨t, c, m, rfl, tp, m0, m1, k⟩ := h
    refine ⟨_, (pss_cons (ps_set (i := 2) sc_l_word.nd rfl (.inl rfl) (pe_op op_add pe_int (pe_call (ok_l_pick T) (hr.mono (by decide)) rfl T.g_l_pick T.F_l_pick.kp T.b_l_pick .nil pass0 (pa_cons (pv 0) (pa_cons (pv 1) pa_nil)))))
  (pss_cons (ps_set (i := 3) sc_l_word.nd rfl (.inl rfl) (pe_call (ok_l_pick T) (hr.mono (by decide)) rfl T.g_l_pick T.F_l_pick.kp T.b_l_pick .nil pass0 (pa_cons (pv 0) (pa_cons pe_int pa_nil))))
  (pss_cons (ps_set (i := 4) sc_l_word.nd rfl (.inr rfl) (pe_call (ok_l_letters T) (hr.mono (by decide)) rfl T.g_l_letters T.F_l_letters.kp T.b_l_letters .nil pass0 (pa_cons (pv 0) (pa_cons (pe_op op_add pe_int (pe_callB (id := "min") (r := _) (Rd.c_min2 rfl) (by rfl) T.n_min (by decide +kernel) (pa_cons (pv 3) (pa_cons pe_int pa_nil)))) pa_nil))))
  (pss_cons (ps_if (pt_cmpR op_eq (pv 3) pe_int (nomark _))
  (pss_cons (ps_set (i := 5) sc_l_word.nd rfl (.inr rfl) (pe_lc (own := [("_law_k", 6)]) (g := gName 6) (tt := tYes) rfl sc_l_word.nd (pi_range1 rfl T.n_range (pa_cons (pe_op op_add pe_int (pe_call (ok_l_pick T) (hr.mono (by decide)) rfl T.g_l_pick T.F_l_pick.kp T.b_l_pick .nil pass0 (pa_cons (pv 0) (pa_cons pe_int pa_nil)))) pa_nil)) (blkOk_by (own := [("_law_k", 6)]) (N := ["_law_tape_here", "_law_most", "_law_size", "_law_kind", "_law_letters_here", "_law_part", "_law_k"]) (sc := defScope s_l_word) (by decide +kernel)) (fun _ _ _ _ _ => (pg_name (i := 6) sc_l_word.nd rfl (.inl rfl))) (fun _ _ _ _ _ => pts_nil) (fun _ _ _ _ _ => (pe_ix (r := rIxL K) ix_list (pv 4) (pe_call (ok_l_pick T) (hr.mono (by decide)) rfl T.g_l_pick T.F_l_pick.kp T.b_l_pick .nil pass0 (pa_cons (pv 0) (pa_cons pe_int pa_nil))) (fun _ _ => rfl)))))
  (pss_one (ps_ret (pe_join pe_str (pe_lc (own := [("_law_k", 6)]) (g := gName 6) (tt := tYes) rfl sc_l_word.nd (pi_range1 rfl T.n_range (pa_cons (pv 2) pa_nil)) (blkOk_by (own := [("_law_k", 6)]) (N := ["_law_tape_here", "_law_most", "_law_size", "_law_kind", "_law_letters_here", "_law_part", "_law_k"]) (sc := defScope s_l_word) (by decide +kernel)) (fun _ _ _ _ _ => (pg_name (i := 6) sc_l_word.nd rfl (.inl rfl))) (fun _ _ _ _ _ => pts_nil) (fun _ _ _ _ _ => (pe_ix (r := rIxL K) ix_list (pv 5) (pe_op op_mod (pe_callTy (T := "int") (r := _) Rd.c_int (by rfl) T.n_int (by decide +kernel) (pa_cons (pv 6) pa_nil)) (pe_callB (id := "len") (r := Rd.nLen K) Rd.c_len (by rfl) T.n_len (by decide +kernel) (pa_cons (pv 5) pa_nil))) (fun _ _ => rfl))))))))
  pss_nil)
  (pss_one (ps_ret (pe_join pe_str (pe_lc (own := [("_law_k", 6)]) (g := gName 6) (tt := tYes) rfl sc_l_word.nd (pi_range1 rfl T.n_range (pa_cons (pv 2) pa_nil)) (blkOk_by (own := [("_law_k", 6)]) (N := ["_law_tape_here", "_law_most", "_law_size", "_law_kind", "_law_letters_here", "_law_part", "_law_k"]) (sc := defScope s_l_word) (by decide +kernel)) (fun _ _ _ _ _ => (pg_name (i := 6) sc_l_word.nd rfl (.inl rfl))) (fun _ _ _ _ _ => pts_nil) (fun _ _ _ _ _ => (pe_ix (r := rIxL K) ix_list (pv 4) (pe_call (ok_l_pick T) (hr.mono (by decide)) rfl T.g_l_pick T.F_l_pick.kp T.b_l_pick .nil pass0 (pa_cons (pv 0) (pa_cons (pe_callB (id := "len") (r := Rd.nLen K) Rd.c_len (by rfl) T.n_len (by decide +kernel) (pa_cons (pv 4) pa_nil)) pa_nil))) (fun _ _ => rfl))))))))))), ?_⟩
    walk_at "rd"
    refine pickR tp (by omega) (by omega) fun sz H1 sz0 sz1 tp1 b1 => ?_
    walk_at "rd"
    refine pickR tp1 (by decide) (by decide) fun kd H2 k0 k1 tp2 b2 => ?_
    walk_at "rd"
    refine ⟨t, c, 1 + min kd 2, rfl, tp2, by omega, by omega, fun l ys H3 tp3 b3 nl gl yl hy => ?_⟩
    have ⟨lt, lc⟩ := tp2.new nl
    have b03 := (b1.trans b2).trans b3
    walk_at "rd"
    refine ite2 (fun q => ?_) (fun q => ?_)
    · walk_at "rd"
      refine pickR tp3 (by decide) (by decide) fun r H4 r0 r1 tp4 b4 => ?_
      have gl4 := b4 l _ lt gl
      walk_at "rd"
      refine ⟨by omega, by omega, ?_⟩
      refine lcT walk_range tp4 (fun _ _ => trivial) (fun D i acc _ => ∃ us : List Str, acc = us.map V.str ∧ us.length = i ∧ Ones us) (fun _ _ _ _ _ => ⟨[], rfl, rfl, Ones.nil⟩) ?_ ?_
      · rintro D i x G _ acc nD hi hD tpG bG ⟨us, rfl, ul, hu⟩ ⟨rfl, rfl⟩
        walk_at "rd"
        refine ⟨rfl, ?_⟩
        walk_at "rd"
        refine pickR tpG (by decide) (by decide) fun r5 H5 r50 r51 tp5 b5 => ?_
        have gl5 := b5 l _ lt (bG l _ lt gl4)
        have dt := (tp4.new nD).1
        have i5 : r5.toNat < ys.length := by omega
        refine Rd.ixL (.of gl5) (Rd.atI_of r50 (Rd.map_str i5)) ?_
        refine lcPuT (b5 D _ dt hD) nD tp4 tp5 (bG.trans b5) (by rw [List.length_map, ul, sizeLine_eq]; omega) fun G2 g2 off2 => ?_
        exact ⟨us ++ [ys[r5.toNat]], by rw [List.map_append]; rfl, by rw [List.length_append, ul]; rfl, hu.snoc' (hy _ (List.getElem_mem i5))⟩
      · rintro D acc G nD hD tpG bG ⟨us, rfl, ul, hu⟩
        walk_at "rd"
        refine ⟨by omega, by omega, ?_⟩
        refine Rd.lcS walk_range (fun _ _ => trivial) (fun D2 i acc _ => ∃ vs : List Str, acc = vs.map V.str ∧ vs.length = i ∧ Ones vs) (fun _ _ _ _ _ => ⟨[], rfl, rfl, Ones.nil⟩) ?_ ?_
        · rintro D2 i x G1 _ acc nD2 hi hD2 sm ⟨vs, rfl, vl, hv⟩ ⟨rfl, rfl⟩
          walk_at "rd"
          refine ⟨rfl, ?_⟩
          walk_at "rd"
          have hD1 := sm _ _ hD
          refine Rd.len (.inl (.of hD1)) ?_
          rw [List.length_map]
          walk_at "rd"
          refine Rd.iC (by omega) ?_
          have e0 : 0 ≤ (0 + (i : Int)) % (us.length : Int) := Int.emod_nonneg _ (by omega)
          have e1 : (0 + (i : Int)) % (us.length : Int) < us.length := Int.emod_lt_of_pos _ (by omega)
          generalize (0 + (i : Int)) % (us.length : Int) = j at e0 e1
          have j1 : j.toNat < us.length := by omega
          refine Rd.ixL (.of hD1) (Rd.atI_of e0 (Rd.map_str j1)) ?_
          refine Rd.lcPush hD2 nD2 sm (by rw [List.length_map, vl, sizeLine_eq]; omega) fun G2 g2 off2 => ?_
          exact ⟨vs ++ [us[j.toNat]], by rw [List.map_append]; rfl, by rw [List.length_append, vl]; rfl, hv.snoc' (hu _ (List.getElem_mem j1))⟩
        · rintro D2 acc G1 nD2 hD2 sm ⟨vs, rfl, vl, hv⟩
          have j := Lt.join_one (ys := vs) rfl hv
          refine Rd.join (.inl (.of hD2)) (by rw [j.2.2, show (Str.ofString "").length = 0 by decide +kernel]; omega) ?_
          exact k _ _ ⟨j.1, by rw [j.2.1]; omega, by rw [j.2.1]; omega⟩ (tpG.same sm) (((b03.trans b4).trans bG).same sm)
    · walk_at "rd"
      refine ⟨by omega, by omega, ?_⟩
      refine lcT walk_range tp3 (fun _ _ => trivial) (fun D i acc _ => ∃ us : List Str, acc = us.map V.str ∧ us.length = i ∧ Ones us) (fun _ _ _ _ _ => ⟨[], rfl, rfl, Ones.nil⟩) ?_ ?_
      · rintro D i x G _ acc nD hi hD tpG bG ⟨us, rfl, ul, hu⟩ ⟨rfl, rfl⟩
        walk_at "rd"
        refine ⟨rfl, ?_⟩
        walk_at "rd"
        have glG := bG l _ lt gl
        refine Rd.len (.inl (.of glG)) ?_
        rw [List.length_map]
        walk_at "rd"
        refine pickR tpG (by omega) (by omega) fun r5 H5 r50 r51 tp5 b5 => ?_
        have gl5 := b5 l _ lt glG
        have dt := (tp3.new nD).1
        have i5 : r5.toNat < ys.length := by omega
        refine Rd.ixL (.of gl5) (Rd.atI_of r50 (Rd.map_str i5)) ?_
        refine lcPuT (b5 D _ dt hD) nD tp3 tp5 (bG.trans b5) (by rw [List.length_map, ul, sizeLine_eq]; omega) fun G2 g2 off2 => ?_
        exact ⟨us ++ [ys[r5.toNat]], by rw [List.map_append]; rfl, by rw [List.length_append, ul]; rfl, hu.snoc' (hy _ (List.getElem_mem i5))⟩
      · rintro D acc G nD hD tpG bG ⟨us, rfl, ul, hu⟩
        have j := Lt.join_one (ys := us) rfl hu
        refine Rd.join (.inl (.of hD)) (by rw [j.2.2, show (Str.ofString "").length = 0 by decide +kernel]; omega) ?_
        exact k _ _ ⟨j.1, by rw [j.2.1]; omega, by rw [j.2.1]; omega⟩ tpG (b03.trans bG)
theorem ok_l_watch (T : Txt K mg) : FnOk P w K mg base CX0 2 T.f_l_watch T.fd_l_watch ["_law_tape_here", "_law_word_here", "_law_most"] (sp_l_watch K) := by
  refine T.F_l_watch.ok sc_l_watch (fun vs H Q E h => ?_) (fun cdv A outer s H vs Q E hr h => ?_)
  · obtain ⟨t, c, z, m, rfl, _⟩ := h
    rfl
  · obtain ⟨t, c, z, m, rfl, tp, hz, m0, m1, k⟩ := h
    refine ⟨_, (pss_cons (ps_set (i := 3) sc_l_watch.nd rfl (.inl rfl) (pe_op op_add pe_int (pe_call (ok_l_pick T) (hr.mono (by decide)) rfl T.g_l_pick T.F_l_pick.kp T.b_l_pick .nil pass0 (pa_cons (pv 0) (pa_cons (pe_callB (id := "min") (r := _) (Rd.c_min2 rfl) (by rfl) T.n_min (by decide +kernel) (pa_cons (pv 2) (pa_cons (pe_callB (id := "len") (r := _) Rd.c_lenS (by rfl) T.n_len (by decide +kernel) (pa_cons (pv 1) pa_nil)) pa_nil))) pa_nil)))))
  (pss_cons (ps_set (i := 4) sc_l_watch.nd rfl (.inl rfl) (pe_call (ok_l_pick T) (hr.mono (by decide)) rfl T.g_l_pick T.F_l_pick.kp T.b_l_pick .nil pass0 (pa_cons (pv 0) (pa_cons (pe_op op_add (pe_op op_sub (pe_callB (id := "len") (r := _) Rd.c_lenS (by rfl) T.n_len (by decide +kernel) (pa_cons (pv 1) pa_nil)) (pv 3)) pe_int) pa_nil))))
  (pss_cons (ps_if (pt_cmpR op_gt (pe_call (ok_l_pick T) (hr.mono (by decide)) rfl T.g_l_pick T.F_l_pick.kp T.b_l_pick .nil pass0 (pa_cons (pv 0) (pa_cons pe_int pa_nil))) pe_int (nomark _))
  (pss_one (ps_ret (pe_slice sl_str (pv 1) (po_some (pv 4)) (po_some (pe_op op_add (pv 4) (pv 3))))))
  pss_nil)
  (pss_one (ps_ret (pe_join pe_str (pe_lc (own := [("_law_k", 5)]) (g := gName 5) (tt := tYes) rfl sc_l_watch.nd (pi_range1 rfl T.n_range (pa_cons (pv 3) pa_nil)) (blkOk_by (own := [("_law_k", 5)]) (N := ["_law_tape_here", "_law_word_here", "_law_most", "_law_size", "_law_at", "_law_k"]) (sc := defScope s_l_watch) (by decide +kernel)) (fun _ _ _ _ _ => (pg_name (i := 5) sc_l_watch.nd rfl (.inl rfl))) (fun _ _ _ _ _ => pts_nil) (fun _ _ _ _ _ => (pe_ix ix_str (pv 1) (pe_call (ok_l_pick T) (hr.mono (by decide)) rfl T.g_l_pick T.F_l_pick.kp T.b_l_pick .nil pass0 (pa_cons (pv 0) (pa_cons (pe_callB (id := "len") (r := _) Rd.c_lenS (by rfl) T.n_len (by decide +kernel) (pa_cons (pv 1) pa_nil)) pa_nil))) (fun _ _ => rfl)))))))))), ?_⟩
    have zl : z.length ≤ sizeLine := hz.line (by decide)
    have z0 := hz.l0
    have z1 := hz.l1
    walk_at "rd"
    refine Rd.lenStr zl ?_
    walk_at "rd"
    refine pickR tp (by omega) (by omega) fun sz H1 sz0 sz1 tp1 b1 => ?_
    walk_at "rd"
    refine Rd.lenStr zl ?_
    walk_at "rd"
    refine pickR tp1 (by omega) (by omega) fun st H2 st0 st1 tp2 b2 => ?_
    walk_at "rd"
    refine pickR tp2 (by decide) (by decide) fun r H3 r0 r1 tp3 b3 => ?_
    have b03 := (b1.trans b2).trans b3
    walk_at "rd"
    refine ite2 (fun q => ?_) (fun q => ?_)
    · walk_at "rd"
      refine Rd.slS zl ?_
      have e := Lt.cut_lenI (z := z) (a := st) (b := st + (1 + sz)) st0 (by omega) (by omega)
      exact k _ _ ⟨hz.ok.cut _ _, by omega, by omega⟩ tp3 b03
    · walk_at "rd"
      refine ⟨by omega, by omega, ?_⟩
      refine lcT walk_range tp3 (fun _ _ => trivial) (fun D i acc _ => ∃ us : List Str, acc = us.map V.str ∧ us.length = i ∧ Ones us) (fun _ _ _ _ _ => ⟨[], rfl, rfl, Ones.nil⟩) ?_ ?_
      · rintro D i x G _ acc nD hi hD tpG bG ⟨us, rfl, ul, hu⟩ ⟨rfl, rfl⟩
        walk_at "rd"
        refine ⟨rfl, ?_⟩
        walk_at "rd"
        refine Rd.lenStr zl ?_
        walk_at "rd"
        refine pickR tpG (by omega) (by omega) fun r5 H5 r50 r51 tp5 b5 => ?_
        have dt := (tp3.new nD).1
        obtain ⟨ch, e, hc⟩ := let_get hz.ok r50 r51
        refine Rd.ixS zl e ?_
        refine lcPuT (b5 D _ dt hD) nD tp3 tp5 (bG.trans b5) (by rw [List.length_map, ul, sizeLine_eq]; omega) fun G2 g2 off2 => ?_
        exact ⟨us ++ [⟨#[ch]⟩], by rw [List.map_append]; rfl, by rw [List.length_append, ul]; rfl, hu.snoc hc⟩
      · rintro D acc G nD hD tpG bG ⟨us, rfl, ul, hu⟩
        have j := Lt.join_one (ys := us) rfl hu
        refine Rd.join (.inl (.of hD)) (by rw [j.2.2, show (Str.ofString "").length = 0 by decide +kernel]; omega) ?_
        exact k _ _ ⟨j.1, by rw [j.2.1]; omega, by rw [j.2.1]; omega⟩ tpG (b03.trans bG)

end
end W

namespace W
open PySem PySem.Spec PyProof.Rows L2
section
variable {P : Program} {w : World} {K : PySem.W.Frag} {mg : Str → Option Value} {base : Heap}
theorem snoc_nodup {α : Type} {ws : List α} {y : α} (nd : ws.Nodup) (q : ¬ y ∈ ws) : (ws ++ [y]).Nodup := by
  rw [List.nodup_append]
  exact ⟨nd, by simp, fun x hx z hz e => q (by simp at hz; rw [← hz, ← e]; exact hx)⟩
theorem snoc_all {α : Type} {P : α → Prop} {ws : List α} {y : α} (h : ∀ x ∈ ws, P x) (q : P y) : ∀ x ∈ ws ++ [y], P x := fun x hx => by
  rcases List.mem_append.mp hx with h1 | h1
  · exact h x h1
  · simp at h1
    rw [h1]
    exact q
theorem perm_erase {α : Type} : ∀ {l : List α} {i : Nat} (h : i < l.length), (l[i] :: l.eraseIdx i).Perm l
  | a :: r, 0, _ => List.Perm.refl _
  | a :: r, i + 1, h => by
    have h' : i < r.length := by simpa using h
    have ih := perm_erase (l := r) (i := i) h'
    show (r[i] :: a :: r.eraseIdx i).Perm (a :: r)
    exact (List.Perm.swap a r[i] _).trans (ih.cons a)
theorem ok_l_watches (T : Txt K mg) : FnOk P w K mg base CX0 3 T.f_l_watches T.fd_l_watches ["_law_tape_here", "_law_word_here", "_law_many", "_law_most"] (sp_l_watches K) := by
  refine T.F_l_watches.ok sc_l_watches (fun vs H Q E h => ?_) (fun cdv A outer s H vs Q E hr h => ?_)
  · obtain ⟨t, c, z, many, most, rfl, _⟩ := h
    rfl
  · obtain ⟨t, c, z, many, most, rfl, tp, hz, m0, m1, n0, n1, k⟩ := h
    refine ⟨_, (pss_cons (ps_set (i := 4) sc_l_watches.nd rfl (.inl rfl) (pe_lst pa_nil))
  (C8.pss_cut (ps_if (PW.pt (pw_and (pt_cmpR op_gt (pv 2) pe_int (nomark _)) (pw_and (pt_cmpR op_gt (pe_callB (id := "len") (r := _) Rd.c_lenS (by rfl) T.n_len (by decide +kernel) (pa_cons (pv 1) pa_nil)) pe_int (nomark _)) (pw_and1 (pt_cmpR op_eq (pe_call (ok_l_pick T) (hr.mono (by decide)) rfl T.g_l_pick T.F_l_pick.kp T.b_l_pick .nil pass0 (pa_cons (pv 0) (pa_cons pe_int pa_nil))) pe_int (nomark _))))))
  (pss_cons (ps_set (i := 5) sc_l_watches.nd rfl (.inl rfl) (pe_op op_add pe_int (pe_call (ok_l_pick T) (hr.mono (by decide)) rfl T.g_l_pick T.F_l_pick.kp T.b_l_pick .nil pass0 (pa_cons (pv 0) (pa_cons (pe_op op_sub (pe_callB (id := "len") (r := _) Rd.c_lenS (by rfl) T.n_len (by decide +kernel) (pa_cons (pv 1) pa_nil)) pe_int) pa_nil)))))
  (pss_cons (ps_set (i := 6) sc_l_watches.nd rfl (.inl rfl) (pe_op op_add (pe_op op_add (pv 5) pe_int) (pe_call (ok_l_pick T) (hr.mono (by decide)) rfl T.g_l_pick T.F_l_pick.kp T.b_l_pick .nil pass0 (pa_cons (pv 0) (pa_cons (pe_op op_sub (pe_op op_sub (pe_callB (id := "len") (r := _) Rd.c_lenS (by rfl) T.n_len (by decide +kernel) (pa_cons (pv 1) pa_nil)) (pv 5)) pe_int) pa_nil)))))
  (pss_cons (ps_for PassesOwn.never rfl (pi_list (pe_lst (pa_cons (pe_slice sl_str (pv 1) po_none (po_some (pv 6))) (pa_cons (pe_slice sl_str (pv 1) (po_some (pv 5)) (po_some (pv 6))) (pa_cons (pe_slice sl_str (pv 1) (po_some (pv 5)) po_none) pa_nil))))) (pg_name (i := 7) sc_l_watches.nd rfl (.inl rfl))
  (pss_one (ps_if (PW.pt (pw_and (pt_cmpR op_le (pe_callB (id := "len") (r := _) Rd.c_lenS (by rfl) T.n_len (by decide +kernel) (pa_cons (pv 7) pa_nil)) (pv 3) (nomark _)) (pw_and1 (pt_cmpR (r := rIn K true) op_notIn_seq (pv 7) (pv 4) (by rfl)))))
  (pss_one (ps_expr (pe_bm PySem.F.plainAttrs_list PySem.F.slot_list_append PySem.F.type_list_append mt_append (pv 4) (pa_cons (pv 7) pa_nil))))
  pss_nil)))
  (pss_one (ps_if (PW.pt (pw_and (pt_cmpR op_eq (pe_callB (id := "len") (r := Rd.nLen K) Rd.c_len (by rfl) T.n_len (by decide +kernel) (pa_cons (pv 4) pa_nil)) pe_int (nomark _)) (pw_and1 (pt_cmpR op_gt (pe_call (ok_l_pick T) (hr.mono (by decide)) rfl T.g_l_pick T.F_l_pick.kp T.b_l_pick .nil pass0 (pa_cons (pv 0) (pa_cons pe_int pa_nil))) pe_int (nomark _)))))
  (pss_one (ps_ret (pv 4)))
  pss_nil)))))
  pss_nil)
  (pss_cons (ps_for PassesOwn.never rfl (pi_range1 rfl T.n_range (pa_cons (pe_op op_sub (pv 2) (pe_callB (id := "len") (r := Rd.nLen K) Rd.c_len (by rfl) T.n_len (by decide +kernel) (pa_cons (pv 4) pa_nil))) pa_nil)) (pg_name (i := 8) sc_l_watches.nd rfl (.inl rfl))
  (pss_cons (ps_set (i := 9) sc_l_watches.nd rfl (.inl rfl) (pe_call (ok_l_watch T) (hr.mono (by decide)) rfl T.g_l_watch T.F_l_watch.kp T.b_l_watch .nil pass0 (pa_cons (pv 0) (pa_cons (pv 1) (pa_cons (pv 3) pa_nil)))))
  (pss_one (ps_if (pt_cmpR (r := rIn K true) op_notIn_seq (pv 9) (pv 4) (by rfl))
  (pss_one (ps_expr (pe_bm PySem.F.plainAttrs_list PySem.F.slot_list_append PySem.F.type_list_append mt_append (pv 4) (pa_cons (pv 9) pa_nil))))
  pss_nil))))
  (pss_one (ps_ret (pv 4)))))), ?_⟩
    have zl : z.length ≤ sizeLine := hz.line (by decide)
    have z0 := hz.l0
    have z1 := hz.l1
    walk_at "rd"
    refine ⟨Nat.zero_le _, Rd.new fun l G nl gl sG => ?_⟩
    have ⟨lt, lc⟩ := tp.new nl
    walk_at "rd"
    refine Rd.cut (fun σ H' => ∃ (ws : List Str) (o5 o6 o7 : Option V), σ = [some (.ref t), some (.str z), some (.int many), some (.int most), some (.ref l), o5, o6, o7, none, none] ∧ Tape H' t c ∧ Rd.But t H H' ∧ H' l = some (.lst (ws.map V.str)) ∧ ws.Nodup ∧ (ws.length : Int) ≤ many ∧ ∀ y ∈ ws, Lt.Wd most y) ?_ ?_
    · walk_at "rd"
      refine ite2 (fun q1 => ?_) (fun q1 => ?_)
      · walk_at "rd"
        refine Rd.lenStr zl ?_
        walk_at "rd"
        refine ite2 (fun q2 => ?_) (fun q2 => ?_)
        · walk_at "rd"
          refine pickR (tp.same sG) (by decide) (by decide) fun r H1 r0 r1 tp1 b1 => ?_
          have gl1 := b1 l _ lt gl
          have b01 : Rd.But t H H1 := (Rd.But.of sG).trans b1
          walk_at "rd"
          refine ite2 (fun q3 => ?_) (fun q3 => ?_)
          · walk_at "rd"
            refine Rd.lenStr zl ?_
            walk_at "rd"
            refine pickR tp1 (by omega) (by omega) fun lo H2 lo0 lo1 tp2 b2 => ?_
            walk_at "rd"
            refine Rd.lenStr zl ?_
            walk_at "rd"
            refine pickR tp2 (by omega) (by omega) fun hi H3 hi0 hi1 tp3 b3 => ?_
            have gl3 := b3 l _ lt (b2 l _ lt gl1)
            have b03 := (b01.trans b2).trans b3
            walk_at "rd"
            refine Rd.forS ?_
            walk_at "rd"
            refine Rd.slS zl ?_
            walk_at "rd"
            refine Rd.slS zl ?_
            walk_at "rd"
            refine Rd.slS zl ?_
            walk_at "rd"
            refine ⟨Nat.le_of_ble_eq_true rfl, Rd.new fun p H4 np gp s4 => ?_⟩
            have gl4 := s4 _ _ gl3
            have lp : p ≠ l := (ne_of_none gl3 np).symm
            have hP : ∀ y ∈ [cutS z none (some (1 + lo + 1 + hi)), cutS z (some (1 + lo)) (some (1 + lo + 1 + hi)), cutS z (some (1 + lo)) none], Lt.Let y ∧ 1 ≤ y.length := by
              have e1 := Lt.cut_to (z := z) (b := 1 + lo + 1 + hi) (by omega)
              have e2 := Lt.cut_lenI (z := z) (a := 1 + lo) (b := 1 + lo + 1 + hi) (by omega) (by omega) (by omega)
              have e3 := Lt.cut_from (z := z) (a := 1 + lo) (by omega) (by omega)
              intro y hy
              simp only [List.mem_cons, List.not_mem_nil, or_false] at hy
              rcases hy with rfl | rfl | rfl
              · exact ⟨hz.ok.cut _ _, by omega⟩
              · exact ⟨hz.ok.cut _ _, by omega⟩
              · exact ⟨hz.ok.cut _ _, by omega⟩
            have gpS : SqL K H4 p (([cutS z none (some (1 + lo + 1 + hi)), cutS z (some (1 + lo)) (some (1 + lo + 1 + hi)), cutS z (some (1 + lo)) none] : List Str).map V.str) := .of gp
            walk_at "rd"
            refine ⟨⟨_, gpS⟩, for_list (K := K) (a := p) (xs := ([cutS z none (some (1 + lo + 1 + hi)), cutS z (some (1 + lo)) (some (1 + lo + 1 + hi)), cutS z (some (1 + lo)) none] : List Str).map V.str) (fun i σ H' => ∃ (ws : List Str) (o7 : Option V), σ = [some (.ref t), some (.str z), some (.int many), some (.int most), some (.ref l), some (.int (1 + lo)), some (.int (1 + lo + 1 + hi)), o7, none, none] ∧ H' l = some (.lst (ws.map V.str)) ∧ (∀ b, b ≠ l → H' b = H4 b) ∧ ws.Nodup ∧ ws.length ≤ i ∧ ∀ y ∈ ws, Lt.Wd most y)
              ⟨[], none, rfl, gl4, fun b _ => rfl, .nil, Nat.le_refl _, fun _ h => by simp at h⟩ (fun i σ H' _ ⟨_, _, _, _, off, _⟩ => .of (by rw [off p lp]; exact gp)) ?_ ?_⟩
            · rintro i x _ H5 hx ⟨ws, o7, rfl, gl5, off5, nd, wl, hw⟩
              obtain ⟨y, hy, rfl⟩ := Rd.map_strG hx
              have il : i < 3 := (List.getElem?_eq_some_iff.mp hy).1
              have hy2 := hP y (List.mem_of_getElem? hy)
              walk_at "rd"
              refine Rd.lenStr (by
                have : y.length ≤ z.length := by
                  have := List.mem_of_getElem? hy
                  simp only [List.mem_cons, List.not_mem_nil, or_false] at this
                  rcases this with rfl | rfl | rfl <;> exact cutS_length _ _ _
                omega) ?_
              walk_at "rd"
              refine ite2 (fun q5 => ?_) (fun q5 => ?_)
              · walk_at "rd"
                refine Rd.inStrsN (.inl (.of gl5)) ?_
                walk_at "rd"
                refine ite2 (fun q6 => ?_) (fun q6 => ?_)
                · walk_at "rd"
                  exact ⟨ws, _, rfl, gl5, off5, nd, by omega, hw⟩
                · walk_at "rd"
                  refine Rd.tyL (.of gl5) ?_
                  walk_at "rd"
                  refine Rd.app gl5 (by rw [List.length_map, sizeLine_eq]; omega) fun G6 g6 off6 => ?_
                  walk_at "rd"
                  exact ⟨ws ++ [y], _, rfl, by rw [List.map_append]; exact g6, fun b hb => by rw [off6 b hb]; exact off5 b hb, snoc_nodup nd q6, by rw [List.length_append]; exact Nat.succ_le_succ wl, snoc_all hw ⟨hy2.1, hy2.2, q5⟩⟩
              · walk_at "rd"
                exact ⟨ws, _, rfl, gl5, off5, nd, by omega, hw⟩
            · rintro _ H5 ⟨ws, o7, rfl, gl5, off5, nd, wl, hw⟩
              have wl : ws.length ≤ 3 := wl
              have tp5 : Tape H5 t c := (tp3.same s4).off lt lc off5
              have b05 : Rd.But t H H5 := but_off (b03.same s4) nl off5
              walk_at "rd"
              refine Rd.len (.inl (.of gl5)) ?_
              rw [List.length_map]
              walk_at "rd"
              refine ite2 (fun q5 => ?_) (fun q5 => ?_)
              · walk_at "rd"
                refine pickR tp5 (by decide) (by decide) fun r6 H6 r60 r61 tp6 b6 => ?_
                have gl6 := b6 l _ lt gl5
                walk_at "rd"
                refine ite2 (fun q6 => ?_) (fun q6 => ?_)
                · walk_at "rd"
                  exact k l ws H6 tp6 (b05.trans b6) nl gl6 nd (by omega) hw
                · walk_at "rd"
                  exact ⟨ws, _, _, _, rfl, tp6, b05.trans b6, gl6, nd, by omega, hw⟩
              · walk_at "rd"
                exact ⟨ws, _, _, _, rfl, tp5, b05, gl5, nd, by omega, hw⟩
          · walk_at "rd"
            exact ⟨[], _, _, _, rfl, tp1, b01, gl1, .nil, m0, fun _ h => by simp at h⟩
        · walk_at "rd"
          exact ⟨[], _, _, _, rfl, tp.same sG, Rd.But.of sG, gl, .nil, m0, fun _ h => by simp at h⟩
      · walk_at "rd"
        exact ⟨[], _, _, _, rfl, tp.same sG, Rd.But.of sG, gl, .nil, m0, fun _ h => by simp at h⟩
    · rintro _ H1 ⟨ws0, o5, o6, o7, rfl, tp1, b1, gl1, nd, wl, hw⟩
      walk_at "rd"
      refine Rd.forS ?_
      walk_at "rd"
      refine Rd.len (.inl (.of gl1)) ?_
      rw [List.length_map]
      walk_at "rd"
      refine ⟨by omega, by omega, ?_⟩
      refine for_range (lo := 0) (n := (many - (ws0.length : Int)).toNat) (fun i σ H' => ∃ (ws : List Str) (o8 o9 : Option V), σ = [some (.ref t), some (.str z), some (.int many), some (.int most), some (.ref l), o5, o6, o7, o8, o9] ∧ Tape H' t c ∧ Rd.But t H H' ∧ H' l = some (.lst (ws.map V.str)) ∧ ws.Nodup ∧ ws.length ≤ ws0.length + i ∧ ∀ y ∈ ws, Lt.Wd most y)
        ⟨ws0, none, none, rfl, tp1, b1, gl1, nd, Nat.le_refl _, hw⟩ ?_ ?_
      · rintro i _ H2 hi ⟨ws, o8, o9, rfl, tp2, b2, gl2, nd, wl2, hw⟩
        walk_at "rd"
        refine ⟨t, c, z, most, rfl, tp2, hz, n0, by omega, fun y H3 hy tp3 b3 => ?_⟩
        have gl3 := b3 l _ lt gl2
        walk_at "rd"
        refine Rd.inStrsN (.inl (.of gl3)) ?_
        walk_at "rd"
        refine ite2 (fun q6 => ?_) (fun q6 => ?_)
        · walk_at "rd"
          exact ⟨ws, _, _, rfl, tp3, b2.trans b3, gl3, nd, by omega, hw⟩
        · walk_at "rd"
          refine Rd.tyL (.of gl3) ?_
          walk_at "rd"
          refine Rd.app gl3 (by rw [List.length_map, sizeLine_eq]; omega) fun G6 g6 off6 => ?_
          walk_at "rd"
          exact ⟨ws ++ [y], _, _, rfl, tp3.off lt lc off6, but_off (b2.trans b3) nl off6, by rw [List.map_append]; exact g6, snoc_nodup nd q6, by rw [List.length_append]; exact Nat.succ_le_succ wl2, snoc_all hw hy⟩
      · rintro _ H2 ⟨ws, o8, o9, rfl, tp2, b2, gl2, nd, wl2, hw⟩
        walk_at "rd"
        exact k l ws H2 tp2 b2 nl gl2 nd (by omega) hw
theorem ok_l_mixed (T : Txt K mg) : FnOk P w K mg base CX0 2 T.f_l_mixed T.fd_l_mixed ["_law_tape_here", "_law_things"] (sp_l_mixed K) := by
  refine T.F_l_mixed.ok sc_l_mixed (fun vs H Q E h => ?_) (fun cdv A outer s H vs Q E hr h => ?_)
  · obtain ⟨t, c, a, ws, rfl, _⟩ := h
    rfl
  · obtain ⟨t, c, a, ws, rfl, tp, at_, hS, wl, k⟩ := h
    refine ⟨_, (pss_cons (ps_set (i := 2) sc_l_mixed.nd rfl (.inl rfl) (pe_callTy (T := "list") (r := Rd.nListOf K) Rd.c_listOf (by rfl) T.n_list (by decide +kernel) (pa_cons (pv 1) pa_nil)))
  (pss_cons (ps_set (i := 3) sc_l_mixed.nd rfl (.inl rfl) (pe_lst pa_nil))
  (pss_cons (ps_for PassesOwn.never rfl (pi_range1 rfl T.n_range (pa_cons (pe_callB (id := "len") (r := Rd.nLen K) Rd.c_len (by rfl) T.n_len (by decide +kernel) (pa_cons (pv 1) pa_nil)) pa_nil)) (pg_name (i := 4) sc_l_mixed.nd rfl (.inl rfl))
  (pss_one (ps_expr (pe_bm PySem.F.plainAttrs_list PySem.F.slot_list_append PySem.F.type_list_append mt_append (pv 3) (pa_cons (pe_bm PySem.F.plainAttrs_list PySem.F.slot_list_pop PySem.F.type_list_pop mt_popAt (pv 2) (pa_cons (pe_call (ok_l_pick T) (hr.mono (by decide)) rfl T.g_l_pick T.F_l_pick.kp T.b_l_pick .nil pass0 (pa_cons (pv 0) (pa_cons (pe_callB (id := "len") (r := Rd.nLen K) Rd.c_len (by rfl) T.n_len (by decide +kernel) (pa_cons (pv 2) pa_nil)) pa_nil))) pa_nil)) pa_nil)))))
  (pss_one (ps_ret (pv 3)))))), ?_⟩
    walk_at "rd"
    refine Rd.listOf (.inl hS) (Rd.new fun p G np gp sG => ?_)
    walk_at "rd"
    refine ⟨Nat.zero_le _, Rd.new fun l G2 nl gl s2 => ?_⟩
    have nl0 := sG.free nl
    have ⟨pt, pc⟩ := tp.new np
    have ⟨lt, lc⟩ := tp.new nl0
    have pl : p ≠ l := ne_of_none gp nl
    walk_at "rd"
    refine Rd.forS ?_
    walk_at "rd"
    refine Rd.len (.inl (s2.seq (sG.seq hS))) ?_
    rw [List.length_map]
    walk_at "rd"
    refine ⟨by omega, by omega, ?_⟩
    refine for_range (lo := 0) (n := ((ws.length : Nat) : Int).toNat) (fun i σ H' => ∃ (ls us : List Str) (o4 : Option V), σ = [some (.ref t), some (.ref a), some (.ref p), some (.ref l), o4] ∧ Tape H' t c ∧ Rd.But t H H' ∧ H' p = some (.lst (ls.map V.str)) ∧ H' l = some (.lst (us.map V.str)) ∧ (us ++ ls).Perm ws ∧ us.length = i)
      ⟨ws, [], none, rfl, (tp.same sG).same s2, Rd.But.of (sG.trans s2), s2 _ _ gp, gl, List.Perm.refl _, rfl⟩ ?_ ?_
    · rintro i _ H1 hi ⟨ls, us, o4, rfl, tp1, b1, gp1, gl1, pm, ul⟩
      have ln := pm.length_eq
      rw [List.length_append] at ln
      walk_at "rd"
      refine Rd.tyL (.of gl1) ?_
      walk_at "rd"
      refine Rd.tyL (.of gp1) ?_
      walk_at "rd"
      refine Rd.len (.inl (.of gp1)) ?_
      rw [List.length_map]
      walk_at "rd"
      refine pickR tp1 (by omega) (by omega) fun r H2 r0 r1 tp2 b2 => ?_
      walk_at "rd"
      have gp2 := b2 p _ pt gp1
      have gl2 := b2 l _ lt gl1
      have rl : r.toNat < ls.length := by omega
      refine Rd.popAt gp2 r0 (by rw [List.length_map]; omega) (by rw [List.length_map]; omega) (Rd.map_str rl) fun G5 g5 off5 => ?_
      walk_at "rd"
      have gl5 : G5 l = some (.lst (us.map V.str)) := by rw [off5 l pl.symm]; exact gl2
      refine Rd.app gl5 (by rw [List.length_map, sizeLine_eq]; omega) fun G6 g6 off6 => ?_
      walk_at "rd"
      refine ⟨ls.eraseIdx r.toNat, us ++ [ls[r.toNat]], _, rfl, (tp2.off pt pc off5).off lt lc off6, but_off (but_off (b1.trans b2) np off5) nl0 off6, ?_, ?_, ?_, by rw [List.length_append, ul]; rfl⟩
      · rw [off6 p pl, g5]
        simp [List.eraseIdx_eq_take_drop_succ]
      · rw [g6, List.map_append]
        rfl
      · rw [List.append_assoc]
        exact ((perm_erase rl).append_left us).trans pm
    · rintro _ H1 ⟨ls, us, o4, rfl, tp1, b1, gp1, gl1, pm, ul⟩
      have ln := pm.length_eq
      rw [List.length_append] at ln
      have e : ls = [] := List.eq_nil_of_length_eq_zero (by omega)
      subst e
      rw [List.append_nil] at pm
      walk_at "rd"
      exact k l us H1 tp1 b1 nl0 gl1 pm

end
end W

namespace W
open PySem PySem.Spec PyProof.Rows L2
section
variable {P : Program} {w : World} {K : PySem.W.Frag} {mg : Str → Option Value} {base : Heap}
/-! ### distances, the least of the shortest ways -/
def ov : Option Nat → V
  | none => .non
  | some d => .int (d : Nat)
def Fl (L : List V) (F : Nat → Option Nat) (n : Nat) : Prop := L.length = n + 1 ∧ ∀ i, i ≤ n → L[i]? = some (ov (F i))
theorem Fl.get {L : List V} {F : Nat → Option Nat} {n i : Nat} (h : Fl L F n) (hi : i ≤ n) : atI L (i : Int) = some (ov (F i)) := atI_nat (h.2 i hi)
theorem Fl.set {L : List V} {F : Nat → Option Nat} {n i d : Nat} (h : Fl L F n) (hi : i ≤ n) : Fl (L.set i (.int (d : Nat))) (fun j => if j = i then some d else F j) n := by
  refine ⟨by rw [List.length_set]; exact h.1, fun j hj => ?_⟩
  rw [List.getElem?_set]
  by_cases c : i = j
  · rw [if_pos c, if_pos (by have := h.1; omega)]
    show some (V.int (d : Nat)) = some (ov (if j = i then some d else F j))
    rw [if_pos c.symm]
    rfl
  · rw [if_neg c]
    show L[j]? = some (ov (if j = i then some d else F j))
    rw [if_neg (fun e : j = i => c e.symm)]
    exact h.2 j hj
theorem rep_non (k : Nat) : (List.replicate k [V.non]).flatten = List.replicate k V.non := by
  induction k with
  | zero => rfl
  | succ k ih => rw [List.replicate_succ, List.flatten_cons, ih, List.replicate_succ]; rfl
def sp_distances (K : PySem.W.Frag) : Sp := fun vs H Q _ => ∃ (p : Addr) (n : Nat) (A : Nat → Nat → Prop), vs = [.ref p] ∧ Links K H p n A ∧ n ≤ 1000 ∧ (∀ i j, A i j → j ≤ n) ∧
  ∀ (l : Addr) (L : List V) (F : Nat → Option Nat) H', H' l = some (.lst L) → Fl L F n → (∀ i, i ≤ n → ∀ d, F i = some d ↔ Mz.Dist A n i d) → Same H H' → H l = none → Q (.ref l) H'
theorem ok_distances (T : Txt K mg) : FnOk P w K mg base CX0 1 T.f_distances T.fd_distances ["links"] (sp_distances K) := by
  refine T.F_distances.ok sc_distances (fun vs H Q E h => ?_) (fun cdv A outer s H vs Q E hr h => ?_)
  · obtain ⟨p, n, A, rfl, _⟩ := h
    rfl
  · obtain ⟨p, n, A, rfl, hL, hn, hA, k⟩ := h
    refine ⟨_, (pss_cons (ps_set (i := 1) sc_distances.nd rfl (.inl rfl) (pe_op op_rep (pe_lst (pa_cons pe_non pa_nil)) (pe_callB (id := "len") (r := Rd.nLen K) Rd.c_len (by rfl) T.n_len (by decide +kernel) (pa_cons (pv 0) pa_nil))))
  (pss_cons (ps_asg pe_int (pg_sub (pv 1) (pe_un un_neg pe_int) set_list))
  (pss_cons (ps_set (i := 2) sc_distances.nd rfl (.inl rfl) (pe_lst (pa_cons (pe_op op_sub (pe_callB (id := "len") (r := Rd.nLen K) Rd.c_len (by rfl) T.n_len (by decide +kernel) (pa_cons (pv 0) pa_nil)) pe_int) pa_nil)))
  (pss_cons (ps_while PassesOwn.never (pt_cmpR op_gt (pe_callB (id := "len") (r := Rd.nLen K) Rd.c_len (by rfl) T.n_len (by decide +kernel) (pa_cons (pv 2) pa_nil)) pe_int (nomark _))
  (pss_cons (ps_set (i := 3) sc_distances.nd rfl (.inl rfl) (pe_lst pa_nil))
  (pss_cons (ps_for PassesOwn.never rfl (pi_list (pv 2)) (pg_name (i := 4) sc_distances.nd rfl (.inl rfl))
  (pss_one (ps_for PassesOwn.never rfl (pi_list (pe_ix (r := rIxL K) ix_list (pv 0) (pv 4) (fun _ _ => rfl))) (pg_name (i := 5) sc_distances.nd rfl (.inl rfl))
  (pss_one (ps_if (pt_cmpR op_isN (pe_ix (r := rIxL K) ix_list (pv 1) (pv 5) (fun _ _ => rfl)) pe_non (nomark _))
  (pss_cons (ps_asg (pe_op op_add (pe_ix (r := rIxL K) ix_list (pv 1) (pv 4) (fun _ _ => rfl)) pe_int) (pg_sub (pv 1) (pv 5) set_list))
  (pss_one (ps_expr (pe_bm PySem.F.plainAttrs_list PySem.F.slot_list_append PySem.F.type_list_append mt_append (pv 3) (pa_cons (pv 5) pa_nil)))))
  pss_nil)))))
  (pss_one (ps_set (i := 2) sc_distances.nd rfl (.inl rfl) (pv 3))))))
  (pss_one (ps_ret (pv 1))))))), ?_⟩
    obtain ⟨rs, hp, rl, hr⟩ := hL
    walk_at "rd"
    refine ⟨Nat.le_of_ble_eq_true rfl, Rd.new fun e0 G0 ne0 ge0 s0 => ?_⟩
    walk_at "rd"
    refine Rd.len (.inl (s0.seq hp)) ?_
    rw [List.length_map, rl]
    refine Rd.rep ge0 (by omega) (by omega) (by rw [sizeLine_eq]; show 1 * _ ≤ _; omega) (Rd.new fun f G1 nf gf s1 => ?_)
    rw [show ((n + 1 : Nat) : Int).toNat = n + 1 from rfl, rep_non] at gf
    walk_at "rd"
    refine Rd.setG gf (j := n) (by rw [List.length_replicate]; unfold ixN; rw [if_neg (by decide), if_pos (by omega)]; congr 1; omega) rfl fun G2 g2 off2 => ?_
    have s2 : Same H G2 := fun b o e => by
      rw [off2 b (ne_of_none (s0 _ _ e) nf)]
      exact s1 _ _ (s0 _ _ e)
    have nfH : H f = none := s0.free nf
    walk_at "rd"
    refine Rd.len (.inl (s2.seq hp)) ?_
    rw [List.length_map, rl]
    walk_at "rd"
    refine ⟨Nat.le_of_ble_eq_true rfl, Rd.new fun ra G3 nra gra s3 => ?_⟩
    have fl0 : Fl (List.replicate (n + 1) V.non |>.set n (.int ((0 : Nat) : Int))) (fun j => if j = n then some 0 else none) n := by
      refine Fl.set (F := fun _ => none) ⟨by rw [List.length_replicate], fun i hi => ?_⟩ (Nat.le_refl n)
      rw [List.getElem?_replicate, if_pos (by omega)]
      rfl
    walk_at "rd"
    refine Rd.whl (fun m σ H' => ∃ (k : Nat) (F : Nat → Option Nat) (L : List V) (ra : Addr) (xs : List Int) (o3 o4 o5 : Option V), σ = [some (.ref p), some (.ref f), some (.ref ra), o3, o4, o5] ∧ H' f = some (.lst L) ∧ Fl L F n ∧ H' ra = some (.lst (xs.map V.int)) ∧ Same H H' ∧ ra ≠ f ∧
        (∀ i, i ≤ n → ∀ d, F i = some d ↔ (Mz.Dist A n i d ∧ d ≤ k)) ∧ (∀ x, x ∈ xs ↔ ∃ i : Nat, x = i ∧ Mz.Dist A n i k) ∧ m = if xs = [] then 0 else n + 1 - k)
      ⟨_, 0, _, _, ra, [((n + 1 : Nat) : Int) - 1], none, none, none, rfl, s3 _ _ g2, fl0, gra, s2.trans s3, (ne_of_none g2 nra).symm, fun i hi d => ?_, fun x => ?_, rfl⟩ ?_
    · by_cases c : i = n
      · rw [if_pos c, c]
        constructor
        · intro h
          cases h
          exact ⟨Mz.Dist.zero, Nat.le_refl _⟩
        · rintro ⟨h, _⟩
          rw [h.inj Mz.Dist.zero]
      · rw [if_neg c]
        constructor
        · intro h
          cases h
        · rintro ⟨h, l⟩
          have : d = 0 := by omega
          subst this
          exact absurd (Mz.Dist.zero_iff.mp h) (fun e => c e.symm)
    · rw [List.mem_singleton]
      constructor
      · intro h
        exact ⟨n, by omega, Mz.Dist.zero⟩
      · rintro ⟨i, h, d⟩
        have := Mz.Dist.zero_iff.mp d
        omega
    rintro m _ H1 ⟨k0, F, L, ra, xs, o3, o4, o5, rfl, gf1, fl, gra1, s1', raf, hF, hxs, rfl⟩
    walk_at "rd"
    refine Rd.len (.inl (.of gra1)) ?_
    rw [List.length_map]
    walk_at "rd"
    refine ite2 (fun c => ?_) (fun c => ?_)
    · have xne : xs ≠ [] := fun e => by rw [e] at c; simp at c
      rw [if_neg xne]
      have kn : k0 ≤ n := by
        obtain ⟨x, hx⟩ := List.exists_mem_of_ne_nil _ xne
        obtain ⟨i, _, d⟩ := (hxs x).mp hx
        exact d.le hA (Nat.le_refl n)
      refine Rd.whN ?_
      walk_at "rd"
      refine ⟨Nat.zero_le _, Rd.new fun la G4 nla gla s4 => ?_⟩
      have nla1 : H la = none := s1'.free nla
      have laf : la ≠ f := (ne_of_none gf1 nla).symm
      have rala : ra ≠ la := ne_of_none gra1 nla
      have hpS : ∀ {H'}, Same H H' → SqL K H' p (rs.map V.ref) := fun s => s.seq hp
      walk_at "rd"
      refine Rd.forS ?_
      walk_at "rd"
      refine ⟨⟨_, .of (s4 _ _ gra1)⟩, for_list (K := K) (a := ra) (xs := xs.map V.int) (fun a σ H' => ∃ (F' : Nat → Option Nat) (L' : List V) (ys : List Int) (o4 o5 : Option V), σ = [some (.ref p), some (.ref f), some (.ref ra), some (.ref la), o4, o5] ∧ H' f = some (.lst L') ∧ Fl L' F' n ∧ H' la = some (.lst (ys.map V.int)) ∧ Same H H' ∧ H' ra = some (.lst (xs.map V.int)) ∧
          (∀ i d, i ≤ n → F i = some d → F' i = some d) ∧ (∀ i d, i ≤ n → F' i = some d → F i = some d ∨ (d = k0 + 1 ∧ (i : Int) ∈ ys)) ∧ ys.Nodup ∧ (∀ y ∈ ys, ∃ i : Nat, y = i ∧ i ≤ n ∧ F' i = some (k0 + 1) ∧ Mz.Dist A n i (k0 + 1)) ∧ ∀ s : Nat, (s : Int) ∈ xs.take a → ∀ i, A s i → F' i ≠ none)
        ⟨F, L, [], _, _, rfl, s4 _ _ gf1, fl, gla, s1'.trans s4, s4 _ _ gra1, fun i d _ h => h, fun i d _ h => .inl h, .nil, fun y h => by simp at h, fun s h => by simp at h⟩ (fun a σ H' _ ⟨_, _, _, _, _, _, _, _, _, _, g, _⟩ => .of g) ?_ ?_⟩
      · rintro a x0 _ H2 hx0 ⟨F1, L1, ys, o4, o5, rfl, gf2, fl1, gla2, sm2, gra2, hA1, hA2, nd, hys, cov⟩
        obtain ⟨x, hx, rfl⟩ := Rd.map_get hx0
        obtain ⟨s, rfl, ds⟩ := (hxs x).mp (List.mem_of_getElem? hx)
        have sn : s ≤ n := Mz.Steps.le hA (Nat.le_refl n) ds.1
        have hrow : s < rs.length := by omega
        obtain ⟨ms, m1, _, m2⟩ := hr s _ (List.getElem?_eq_getElem hrow)
        have Fs : F s = some k0 := (hF s sn k0).mpr ⟨ds, Nat.le_refl _⟩
        walk_at "rd"
        refine Rd.forS ?_
        walk_at "rd"
        refine Rd.ixL (hpS sm2) (atI_nat (Rd.map_ref hrow)) ?_
        walk_at "rd"
        refine ⟨⟨_, sm2.seq m1⟩, for_list (K := K) (a := rs[s]) (xs := ms.map V.int) (fun b σ H' => ∃ (F' : Nat → Option Nat) (L' : List V) (ys : List Int) (o5 : Option V), σ = [some (.ref p), some (.ref f), some (.ref ra), some (.ref la), some (.int (s : Int)), o5] ∧ H' f = some (.lst L') ∧ Fl L' F' n ∧ H' la = some (.lst (ys.map V.int)) ∧ Same H H' ∧ H' ra = some (.lst (xs.map V.int)) ∧
            (∀ i d, i ≤ n → F i = some d → F' i = some d) ∧ (∀ i d, i ≤ n → F' i = some d → F i = some d ∨ (d = k0 + 1 ∧ (i : Int) ∈ ys)) ∧ ys.Nodup ∧ (∀ y ∈ ys, ∃ i : Nat, y = i ∧ i ≤ n ∧ F' i = some (k0 + 1) ∧ Mz.Dist A n i (k0 + 1)) ∧ (∀ s : Nat, (s : Int) ∈ xs.take a → ∀ i, A s i → F' i ≠ none) ∧ ∀ i : Nat, (i : Int) ∈ ms.take b → F' i ≠ none)
          ⟨F1, L1, ys, _, rfl, gf2, fl1, gla2, sm2, gra2, hA1, hA2, nd, hys, cov, fun i h => by simp at h⟩ (fun b σ H' _ ⟨_, _, _, _, _, _, _, _, g, _⟩ => g.seq m1) ?_ ?_⟩
        · rintro b y0 _ H3 hy0 ⟨F2, L2, ys2, o5, rfl, gf3, fl2, gla3, sm3, gra3, hB1, hB2, nd2, hys2, cov2, cin⟩
          obtain ⟨y, hy, rfl⟩ := Rd.map_get hy0
          obtain ⟨i, rfl, ai⟩ := (m2 y).mp (List.mem_of_getElem? hy)
          have iN : i ≤ n := hA _ _ ai
          have ylen : ys2.length ≤ n + 1 := Mw.nodup_range nd2 fun v hv => by obtain ⟨j, e, l, _⟩ := hys2 v hv; omega
          walk_at "rd"
          refine Rd.ixL (.of gf3) (fl2.get iN) ?_
          walk_at "rd"
          refine ⟨rfl, ?_⟩
          walk_at "rd"
          refine ite2 (fun q => ?_) (fun q => ?_)
          · have Fi : F2 i = none := by
              cases e : F2 i with
              | none => rfl
              | some d => rw [e] at q; cases q
            have Fi0 : F i = none := by
              cases e : F i with
              | none => rfl
              | some d => have := hB1 i d iN e; rw [Fi] at this; cases this
            have di : Mz.Dist A n i (k0 + 1) := ds.next ai fun j hj d => by
              have := (hF i iN j).mpr ⟨d, hj⟩
              rw [Fi0] at this
              cases this
            walk_at "rd"
            refine Rd.ixL (v := .int ((k0 : Nat) : Int)) (.of gf3) (by rw [fl2.get sn, hB1 s k0 sn Fs]; rfl) ?_
            walk_at "rd"
            refine Rd.setG gf3 (j := i) (by rw [fl2.1]; exact Rd.ixN_of (i := (i : Int)) (by omega) (by omega)) rfl fun G5 g5 off5 => ?_
            have gla5 : G5 la = some (.lst (ys2.map V.int)) := by rw [off5 la laf]; exact gla3
            walk_at "rd"
            refine Rd.tyL (.of gla5) ?_
            walk_at "rd"
            refine Rd.app gla5 (by rw [List.length_map, sizeLine_eq]; omega) fun G6 g6 off6 => ?_
            walk_at "rd"
            have fl3 := fl2.set (d := k0 + 1) iN
            have iy : ¬ (i : Int) ∈ ys2 := fun h => by
              obtain ⟨j, e, _, h2, _⟩ := hys2 _ h
              have : i = j := by omega
              subst this
              rw [Fi] at h2
              cases h2
            refine ⟨_, _, ys2 ++ [(i : Int)], _, rfl, by rw [off6 f laf.symm]; exact g5, fl3, by rw [List.map_append]; exact g6, fun b o e => ?_, by rw [off6 ra rala, off5 ra raf]; exact gra3, fun j d jn h => ?_, fun j d jn h => ?_, ?_, fun v hv => ?_, fun s' hs j aj => ?_, fun j hj => ?_⟩
            · rw [off6 b (ne_of_none e nla1), off5 b (ne_of_none e nfH)]
              exact sm3 b o e
            · by_cases c : j = i
              · subst c
                rw [Fi0] at h
                cases h
              · rw [if_neg c]
                exact hB1 j d jn h
            · by_cases c : j = i
              · rw [if_pos c] at h
                cases h
                exact .inr ⟨rfl, List.mem_append.mpr (.inr (by rw [c]; simp))⟩
              · rw [if_neg c] at h
                exact (hB2 j d jn h).imp id fun ⟨h1, h2⟩ => ⟨h1, List.mem_append.mpr (.inl h2)⟩
            · exact snoc_nodup nd2 iy
            · rcases List.mem_append.mp hv with h | h
              · obtain ⟨j, e1, e2, e3, e4⟩ := hys2 v h
                refine ⟨j, e1, e2, ?_, e4⟩
                split
                · rfl
                · exact e3
              · simp at h
                exact ⟨i, h, iN, by rw [if_pos rfl], di⟩
            · split
              · exact fun h => nomatch h
              · exact cov2 s' hs j aj
            · split
              · exact fun h => nomatch h
              · rename_i c
                rw [Rd.take_snoc hy] at hj
                rcases List.mem_append.mp hj with h | h
                · exact cin j h
                · simp at h
                  exact absurd h (by omega)
          · walk_at "rd"
            refine ⟨F2, L2, ys2, _, rfl, gf3, fl2, gla3, sm3, gra3, hB1, hB2, nd2, hys2, cov2, fun j hj => ?_⟩
            rw [Rd.take_snoc hy] at hj
            rcases List.mem_append.mp hj with h | h
            · exact cin j h
            · simp at h
              have : j = i := by omega
              subst this
              intro e
              exact q (by rw [e]; rfl)
        · rintro _ H3 ⟨F2, L2, ys2, o5, rfl, gf3, fl2, gla3, sm3, gra3, hB1, hB2, nd2, hys2, cov2, cin⟩
          rw [List.length_map, List.take_length] at cin
          walk_at "rd"
          refine ⟨F2, L2, ys2, _, _, rfl, gf3, fl2, gla3, sm3, gra3, hB1, hB2, nd2, hys2, fun s' hs j aj => ?_⟩
          rw [Rd.take_snoc hx] at hs
          rcases List.mem_append.mp hs with h | h
          · exact cov2 s' h j aj
          · simp at h
            have : s' = s := by omega
            subst this
            exact cin j ((m2 _).mpr ⟨j, rfl, aj⟩)
      · rintro _ H2 ⟨F1, L1, ys, o4, o5, rfl, gf2, fl1, gla2, sm2, gra2, hA1, hA2, nd, hys, cov⟩
        rw [List.length_map, List.take_length] at cov
        walk_at "rd"
        have key : ∀ i, i ≤ n → ∀ d, F1 i = some d ↔ (Mz.Dist A n i d ∧ d ≤ k0 + 1) := fun i hi d => by
          constructor
          · intro h
            rcases hA2 i d hi h with h1 | ⟨rfl, h1⟩
            · have := (hF i hi d).mp h1
              exact ⟨this.1, by omega⟩
            · obtain ⟨j, e, _, _, dj⟩ := hys _ h1
              have : i = j := by omega
              subst this
              exact ⟨dj, Nat.le_refl _⟩
          · rintro ⟨h, l⟩
            by_cases c : d ≤ k0
            · exact hA1 i d hi ((hF i hi d).mpr ⟨h, c⟩)
            · have ed : d = k0 + 1 := by omega
              subst ed
              obtain ⟨s, hs, r⟩ := h.pred
              have := cov s ((hxs _).mpr ⟨s, rfl, hs⟩) i r
              cases e : F1 i with
              | none => exact absurd e this
              | some d' =>
                rcases hA2 i d' hi e with h1 | ⟨rfl, _⟩
                · have := ((hF i hi d').mp h1)
                  have e2 := this.1.inj h
                  omega
                · rfl
        have keyY : ∀ x, x ∈ ys ↔ ∃ i : Nat, x = i ∧ Mz.Dist A n i (k0 + 1) := fun x => by
          constructor
          · intro h
            obtain ⟨i, e, _, _, d⟩ := hys x h
            exact ⟨i, e, d⟩
          · rintro ⟨i, rfl, d⟩
            have hi : i ≤ n := Mz.Steps.le hA (Nat.le_refl n) d.1
            rcases hA2 i _ hi ((key i hi _).mpr ⟨d, Nat.le_refl _⟩) with h1 | ⟨_, h1⟩
            · have := ((hF i hi _).mp h1).2
              omega
            · exact h1
        refine ⟨if ys = [] then 0 else n + 1 - (k0 + 1), ?_, k0 + 1, F1, L1, la, ys, _, _, _, rfl, gf2, fl1, gla2, sm2, laf, key, keyY, rfl⟩
        split <;> omega
    · have xe : xs = [] := by
        cases xs with
        | nil => rfl
        | cons _ _ => exfalso; apply c; rw [List.length_cons]; omega
      subst xe
      walk_at "rd"
      refine k f L F H1 gf1 fl (fun i hi d => (hF i hi d).trans ⟨fun h => h.1, fun h => ⟨h, ?_⟩⟩) s1' nfH
      rcases Nat.lt_or_ge k0 d with l | l
      · obtain ⟨y, hy⟩ := h.all k0 (by omega)
        have := (hxs _).mpr ⟨y, rfl, hy⟩
        simp at this
      · exact l

end
end W

namespace W
open PySem PySem.Spec PyProof.Rows L2
section
variable {P : Program} {w : World} {K : PySem.W.Frag} {mg : Str → Option Value} {base : Heap}
/-! ### the least of the shortest zigzags -/
def natV (P : List Nat) : List V := (P.map fun i : Nat => (i : Int)).map V.int
/-- what shortest answers -/
def Zig (H H' : Hp) (ws : List Str) (z : Str) (r : V) : Prop := (r = .non ∧ ¬ Mw.Told ws z) ∨ ∃ (q : Addr) (P : List Nat), r = .ref q ∧ H' q = some (.tup (natV P)) ∧ H q = none ∧ Mz.Gr (Mw.Adj ws z) z.length 0 P
def sp_shortest (K : PySem.W.Frag) : Sp := fun vs H Q _ => ∃ (a : Addr) (ws : List Str) (z : Str), vs = [.ref a, .str z] ∧ Ru.SqR K H a (ws.map V.str) ∧ (∀ W ∈ ws, 1 ≤ W.length ∧ W.length ≤ 1000) ∧ ws.length ≤ 100 ∧ z.length ≤ 1000 ∧ ∀ (r : V) H', Same H H' → Zig H H' ws z r → Q r H'
def sp_zigzag (K : PySem.W.Frag) (C : Addr) : Sp := fun vs H Q _ => ∃ (a : Addr) (ws : List Str) (z : Str), vs = [.ref a, .str z] ∧ BookAt C H a ws ∧ Watches ws ∧ Lt.Wd 40 z ∧ ∀ (r : V) H', Same H H' → Zig H H' ws z r → Q r H'
theorem filt_step {α : Type} {l : List α} {i : Nat} {x : α} {f : α → Bool} (h : l[i]? = some x) : (l.take (i + 1)).filter f = (l.take i).filter f ++ if f x = true then [x] else [] := by
  rw [Rd.take_snoc h, List.filter_append]
  congr 1
  cases e : f x <;> simp [e]
theorem sorted_head {l : List Int} {f : Int → Bool} (hp : l.Pairwise (· ≤ ·)) {x : Int} (hx : x ∈ l) (fx : f x = true) : ∃ w r, l.filter f = w :: r ∧ ∀ v ∈ l, f v = true → w ≤ v := by
  have hm : x ∈ l.filter f := List.mem_filter.mpr ⟨hx, fx⟩
  have hs := hp.sublist (List.filter_sublist (l := l) (p := f))
  cases e : l.filter f with
  | nil => rw [e] at hm; simp at hm
  | cons w r =>
    rw [e] at hs
    refine ⟨w, r, rfl, fun v hv fv => ?_⟩
    have : v ∈ w :: r := by rw [← e]; exact List.mem_filter.mpr ⟨hv, fv⟩
    rcases List.mem_cons.mp this with rfl | h
    · exact Int.le_refl _
    · exact (List.pairwise_cons.mp hs).1 v h
theorem ok_shortest (T : Txt K mg) : FnOk P w K mg base CX0 2 T.f_shortest T.fd_shortest ["watches", "word"] (sp_shortest K) := by
  refine T.F_shortest.ok sc_shortest (fun vs H Q E h => ?_) (fun cdv A outer s H vs Q E hr h => ?_)
  · obtain ⟨a, ws, z, rfl, _⟩ := h
    rfl
  · obtain ⟨a, ws, z, rfl, hS, hw, l1, l2, k⟩ := h
    refine ⟨_, (pss_cons (ps_set (i := 2) sc_shortest.nd rfl (.inl rfl) (pe_call (ok_links_of T) (hr.mono (by decide)) rfl T.g_links_of T.F_links_of.kp T.b_links_of .nil pass0 (pa_cons (pv 0) (pa_cons (pv 1) pa_nil))))
  (pss_cons (ps_set (i := 3) sc_shortest.nd rfl (.inr rfl) (pe_call (ok_distances T) (hr.mono (by decide)) rfl T.g_distances T.F_distances.kp T.b_distances .nil pass0 (pa_cons (pv 2) pa_nil)))
  (pss_cons (ps_if (pt_cmpR op_isN (pe_ix (r := rIxL K) ix_list (pv 3) pe_int (fun _ _ => rfl)) pe_non (nomark _))
  (pss_one (ps_ret pe_non))
  pss_nil)
  (pss_cons (ps_set (i := 4) sc_shortest.nd rfl (.inl rfl) (pe_lst (pa_cons pe_int pa_nil)))
  (pss_cons (ps_while PassesOwn.never (pt_cmpR op_ne (pe_ix (r := rIxL K) ix_list (pv 4) (pe_un un_neg pe_int) (fun _ _ => rfl)) (pe_callB (id := "len") (r := _) Rd.c_lenS (by rfl) T.n_len (by decide +kernel) (pa_cons (pv 1) pa_nil)) (nomark _))
  (pss_cons (ps_set (i := 5) sc_shortest.nd rfl (.inr rfl) (pe_ix (r := rIxL K) ix_list (pv 4) (pe_un un_neg pe_int) (fun _ _ => rfl)))
  (pss_one (ps_expr (pe_bm PySem.F.plainAttrs_list PySem.F.slot_list_append PySem.F.type_list_append mt_append (pv 4) (pa_cons (pe_ix (r := rIxL K) ix_list (pe_lc (own := [("other", 6)]) (g := gName 6)  rfl sc_shortest.nd (pi_list (pe_ix (r := rIxL K) ix_list (pv 2) (pv 5) (fun _ _ => rfl))) (blkOk_by (own := [("other", 6)]) (N := ["watches", "word", "links", "far", "found", "spot", "other"]) (sc := defScope s_shortest) (by decide +kernel)) (fun _ _ _ _ _ => (pg_name (i := 6) sc_shortest.nd rfl (.inl rfl))) (fun _ _ _ _ _ => pts_one (pt_cmpR op_eq (pe_ix (r := rIxL K) ix_list (pv 3) (pv 6) (fun _ _ => rfl)) (pe_op op_sub (pe_ix (r := rIxL K) ix_list (pv 3) (pv 5) (fun _ _ => rfl)) pe_int) (nomark _))) (fun _ _ _ _ _ => (pv 6))) pe_int (fun _ _ => rfl)) pa_nil))))))
  (pss_one (ps_ret (pe_callTy (T := "tuple") (r := Rd.nTupOf K) Rd.c_tupOf (by rfl) T.n_tuple (by decide +kernel) (pa_cons (pv 4) pa_nil))))))))), ?_⟩
    walk_at "rd"
    refine ⟨a, ws, z, rfl, hS, hw, l1, l2, fun p H1 hL s1 _ => ?_⟩
    walk_at "rd"
    refine ⟨p, z.length, Mw.Adj ws z, rfl, hL, l2, fun i j h => h.le.2, fun l L F H2 gl fl hF s2 nl => ?_⟩
    have hsy : ∀ x y, Mw.Adj ws z x y → Mw.Adj ws z y x := fun x y h => Mw.Adj.symm x y h
    obtain ⟨rs, hp, rl, hr⟩ := hL.same s2
    have zl : z.length ≤ sizeLine := by rw [sizeLine_eq]; omega
    walk_at "rd"
    refine Rd.ixL (.of gl) (fl.get (i := 0) (Nat.zero_le _)) ?_
    walk_at "rd"
    refine ⟨rfl, ?_⟩
    walk_at "rd"
    refine ite2 (fun c => ?_) (fun c => ?_)
    · walk_at "rd"
      refine k _ _ (s1.trans s2) (.inl ⟨rfl, fun h => ?_⟩)
      obtain ⟨d, hd⟩ := Mz.star_dist.mp h
      have := (hF 0 (Nat.zero_le _) d).mpr (hd.symm hsy)
      rw [this] at c
      cases c
    · obtain ⟨d0, e0⟩ : ∃ d, F 0 = some d := by
        cases e : F 0 with
        | none => rw [e] at c; exact absurd rfl c
        | some d => exact ⟨d, rfl⟩
      have hd0 := (hF 0 (Nat.zero_le _) d0).mp e0
      walk_at "rd"
      refine ⟨Nat.le_of_ble_eq_true rfl, Rd.new fun g G ng gg sG => ?_⟩
      walk_at "rd"
      refine Rd.whl (fun m σ H' => ∃ (pre : List Nat) (cur : Nat) (o5 : Option V), σ = [some (.ref a), some (.str z), some (.ref p), some (.ref l), some (.ref g), o5, none] ∧ H' g = some (.lst (natV (pre ++ [cur]))) ∧ Same H2 H' ∧ cur ≤ z.length ∧ pre.length + m = d0 ∧ Mz.Dist (Mw.Adj ws z) z.length cur m ∧ ∀ P, Mz.Gr (Mw.Adj ws z) z.length cur P → Mz.Gr (Mw.Adj ws z) z.length 0 (pre ++ P))
        ⟨d0, [], 0, none, rfl, gg, sG, Nat.zero_le _, by simp, hd0, fun P h => h⟩ ?_
      rintro m _ H3 ⟨pre, cur, o5, rfl, gg3, s3, cn, pl, dc, gr⟩
      have last : atI (natV (pre ++ [cur])) (-1) = some (.int (cur : Int)) := by
        unfold natV
        rw [List.map_append, List.map_append]
        exact atI_last _ _
      walk_at "rd"
      refine Rd.ixL (.of gg3) last ?_
      walk_at "rd"
      refine Rd.lenStr zl ?_
      walk_at "rd"
      refine ite2 (fun c2 => ?_) (fun c2 => ?_)
      · have ec : cur = z.length := by omega
        subst ec
        walk_at "rd"
        refine Rd.tupOf (.of gg3) (Rd.new fun q G4 nq gq s4 => ?_)
        have s14 := ((s1.trans s2).trans s3).trans s4
        exact k _ _ s14 (.inr ⟨q, _, rfl, gq, ((s1.trans s2).trans s3).free nq, gr _ .stop⟩)
      · refine Rd.whN ?_
        have dn : Mz.Dist (Mw.Adj ws z) z.length z.length 0 := Mz.Dist.zero
        obtain ⟨m', rfl⟩ : ∃ m', m = m' + 1 := by
          cases m with
          | zero => exact absurd (Mz.Dist.zero_iff.mp dc) (fun e => c2 (by omega))
          | succ m' => exact ⟨m', rfl⟩
        have d0n : d0 ≤ z.length := hd0.le (fun i j h => h.le.2) (Nat.le_refl _)
        obtain ⟨y0, hy0, ry0⟩ := dc.pred
        have hrow : cur < rs.length := by omega
        obtain ⟨ms, m1, mp, m2⟩ := hr cur _ (List.getElem?_eq_getElem hrow)
        have Fc : F cur = some (m' + 1) := (hF cur cn _).mpr dc
        walk_at "rd"
        refine Rd.ixL (.of gg3) last ?_
        walk_at "rd"
        refine Rd.tyL (.of gg3) ?_
        walk_at "rd"
        refine Rd.ixL (s3.seq hp) (atI_nat (Rd.map_ref hrow)) ?_
        walk_at "rd"
        refine ⟨⟨_, s3.seq m1⟩, Rd.lcS walk_list (fun _ s => s.seq (s3.seq m1)) (fun D i acc Hc => acc = ((ms.take i).filter fun x => decide (F x.toNat = some m')).map V.int) (fun _ _ _ _ _ => rfl) ?_ ?_⟩
        · rintro D i x G1 _ acc nD hi hD sm rfl ⟨rfl, hx⟩
          obtain ⟨y, hy, rfl⟩ := Rd.map_get hx
          obtain ⟨j, rfl, aj⟩ := (m2 y).mp (List.mem_of_getElem? hy)
          have jn := aj.le.2
          have lim : ((((ms.take i).filter fun x => decide (F x.toNat = some m')).map V.int)).length < sizeLine := by
            rw [List.length_map, sizeLine_eq]
            have h1 := List.length_filter_le (fun x : Int => decide (F x.toNat = some m')) (ms.take i)
            rw [List.length_take] at h1
            have h2 := mp.2
            omega
          obtain ⟨e, hde⟩ : ∃ e, F j = some e := by
            obtain ⟨e, _, he⟩ := Mz.Steps.dist (A := Mw.Adj ws z) (x := z.length) (y := j) (k := m' + 1 + 1) ⟨cur, dc.1, aj⟩
            exact ⟨e, (hF j jn e).mpr he⟩
          have gl1 := sm _ _ (s3 _ _ gl)
          walk_at "rd"
          refine ⟨rfl, ?_⟩
          walk_at "rd"
          refine Rd.ixL (v := .int ((e : Nat) : Int)) (.of gl1) (by rw [fl.get jn, hde]; rfl) ?_
          walk_at "rd"
          refine Rd.ixL (v := .int ((m' + 1 : Nat) : Int)) (.of gl1) (by rw [fl.get cn, Fc]; rfl) ?_
          walk_at "rd"
          have st := filt_step (f := fun x : Int => decide (F x.toNat = some m')) hy
          rw [Int.toNat_natCast, hde] at st
          refine ite2 (fun q => ?_) (fun q => ?_)
          · have ee : e = m' := by omega
            subst ee
            rw [decide_eq_true rfl, if_pos rfl] at st
            walk_at "rd"
            refine Rd.lcPush hD nD sm lim fun G2 g2 off2 => ?_
            rw [st, List.map_append]
            rfl
          · have ee : ¬ some e = some m' := fun h => q (by cases h; omega)
            rw [decide_eq_false ee, if_neg Bool.false_ne_true, List.append_nil] at st
            walk_at "rd"
            refine ⟨_, hD, sm, ?_⟩
            dsimp only
            rw [st]
        · rintro D acc G1 nD hD sm rfl
          rw [List.length_map, List.take_length] at hD
          have yn : y0 ≤ z.length := Mz.Steps.le (fun i j h => h.le.2) (Nat.le_refl _) hy0.1
          obtain ⟨w, r, ef, hmin⟩ := sorted_head (f := fun x : Int => decide (F x.toNat = some m')) mp.1 ((m2 _).mpr ⟨y0, rfl, hsy _ _ ry0⟩) (by rw [Int.toNat_natCast]; exact decide_eq_true ((hF y0 yn _).mpr hy0))
          have wm : w ∈ ms.filter fun x : Int => decide (F x.toNat = some m') := by rw [ef]; exact List.mem_cons_self
          obtain ⟨wm1, wm2⟩ := List.mem_filter.mp wm
          obtain ⟨wi, rfl, aw⟩ := (m2 w).mp wm1
          rw [Int.toNat_natCast] at wm2
          have wn := aw.le.2
          have dw := (hF wi wn _).mp (of_decide_eq_true wm2)
          rw [ef] at hD
          walk_at "rd"
          refine Rd.ixL (.of hD) (atI_nat (j := 0) rfl) ?_
          walk_at "rd"
          refine Rd.app (sm _ _ gg3) (by unfold natV; rw [List.length_map, List.length_map, List.length_append, sizeLine_eq]; show _ + 1 < _; omega) fun G5 g5 off5 => ?_
          walk_at "rd"
          refine ⟨m', Nat.lt_succ_self _, pre ++ [cur], wi, _, rfl, ?_, fun b o e => ?_, wn, by rw [List.length_append]; show _ + 1 + _ = _; omega, dw, fun P h => ?_⟩
          · rw [g5]
            unfold natV
            simp
          · have bg : b ≠ g := ne_of_none e ng
            rw [off5 b bg]
            exact sm _ _ (s3 _ _ e)
          · rw [List.append_assoc]
            refine gr _ (.step (dc.symm hsy) aw (dw.symm hsy) (fun v av dv => ?_) h)
            have vn := av.le.2
            have := hmin (v : Int) ((m2 _).mpr ⟨v, rfl, av⟩) (by rw [Int.toNat_natCast]; exact decide_eq_true ((hF v vn _).mpr (dv.symm hsy)))
            omega
theorem ok_zigzag (T : Txt K mg) : FnOk P w K mg base CX0 5 T.f_zigzag T.fd_zigzag ["book", "word"] (sp_zigzag K T.C_Book) := by
  refine T.F_zigzag.ok sc_zigzag (fun vs H Q E h => ?_) (fun cdv A outer s H vs Q E hr h => ?_)
  · obtain ⟨a, ws, z, rfl, _⟩ := h
    rfl
  · obtain ⟨a, ws, z, rfl, hB, L, hz, k⟩ := h
    refine ⟨_, (pss_cons (ps_expr (pe_call (ok_check_book T) (hr.mono (by decide)) rfl T.g_check_book T.F_check_book.kp T.b_check_book .nil pass0 (pa_cons (pv 0) pa_nil)))
  (pss_cons (ps_expr (pe_call (ok_check_word T) (hr.mono (by decide)) rfl T.g_check_word T.F_check_word.kp T.b_check_word .nil pass0 (pa_cons (pv 1) pa_nil)))
  (pss_one (ps_ret (pe_call (ok_shortest T) (hr.mono (by decide)) rfl T.g_shortest T.F_shortest.kp T.b_shortest .nil pass0 (pa_cons (pe_fld (pv 0) rfl) (pa_cons (pv 1) pa_nil))))))), ?_⟩
    walk_at "rd"
    refine ⟨a, ws, rfl, hB, ?_⟩
    walk_at "rd"
    refine ⟨z, rfl, hz, fun H1 s1 => ?_⟩
    walk_at "rd"
    obtain ⟨dx, t, hb1, ht1⟩ := hB.same s1
    refine Rd.fld hb1 T.cl_Book T.na_Book_watches rfl ?_
    walk_at "rd"
    have l1 := L.l1
    have z1 := hz.l1
    refine ⟨t, ws, z, rfl, .inr (.of ht1), fun W m => ⟨(L.ok W m).l0, by have := (L.ok W m).l1; omega⟩, by omega, by omega, fun r H2 s2 hz => k r H2 (s1.trans s2) ?_⟩
    exact hz.imp id fun ⟨q, P, h1, h2, h3, h4⟩ => ⟨q, P, h1, h2, s1.free h3, h4⟩

end
end W

namespace W
open PySem PySem.Spec PyProof.Rows L2
section
variable {P : Program} {w : World} {K : PySem.W.Frag} {mg : Str → Option Value} {base : Heap}
/-! ### spots beside a spot -/
theorem adj_near {ws : List Str} {z : Str} (hw : ∀ W ∈ ws, 1 ≤ W.length) {i j : Nat} (hi : i ≤ z.length) (hj : j ≤ z.length) : Mw.Adj ws z i j ↔ j ≠ i ∧ cutS z (some (min (i : Int) (j : Int))) (some (max (i : Int) (j : Int))) ∈ ws := by
  constructor
  · rintro ⟨W, m, ⟨⟨o1, o2⟩, e⟩ | ⟨⟨o1, o2⟩, e⟩⟩
    · have := hw W m
      refine ⟨by omega, ?_⟩
      rw [show min (i : Int) (j : Int) = i by omega, show max (i : Int) (j : Int) = (i : Int) + (W.length : Int) by omega, o2]
      exact m
    · have := hw W m
      refine ⟨by omega, ?_⟩
      rw [show min (i : Int) (j : Int) = j by omega, show max (i : Int) (j : Int) = (j : Int) + (W.length : Int) by omega, o2]
      exact m
  · rintro ⟨ne, m⟩
    have l := Lt.cut_lenI (z := z) (a := min (i : Int) (j : Int)) (b := max (i : Int) (j : Int)) (by omega) (by omega) (by omega)
    refine ⟨_, m, ?_⟩
    rcases Nat.lt_or_ge i j with c | c
    · refine .inl ⟨⟨by omega, ?_⟩, by omega⟩
      rw [l]
      rw [show min (i : Int) (j : Int) = i by omega, show max (i : Int) (j : Int) = j by omega, show (i : Int) + ((j : Int) - (i : Int)) = j by omega]
    · refine .inr ⟨⟨by omega, ?_⟩, by omega⟩
      rw [l]
      rw [show min (i : Int) (j : Int) = j by omega, show max (i : Int) (j : Int) = i by omega, show (j : Int) + ((i : Int) - (j : Int)) = i by omega]
def sp_l_near (K : PySem.W.Frag) : Sp := fun vs H Q _ => ∃ (a : Addr) (ws : List Str) (z : Str) (s : Nat), vs = [.ref a, .str z, .int (s : Nat)] ∧ SqL K H a (ws.map V.str) ∧ (∀ W ∈ ws, 1 ≤ W.length) ∧ z.length ≤ 1000 ∧ s ≤ z.length ∧
  ∀ (l : Addr) (xs : List Int) H', Same H H' → H l = none → H' l = some (.lst (xs.map V.int)) → (∀ x, x ∈ xs ↔ ∃ j : Nat, x = j ∧ Mw.Adj ws z s j) → xs.length ≤ z.length + 1 → Q (.ref l) H'
theorem ok_l_near (T : Txt K mg) : FnOk P w K mg base CX0 1 T.f_l_near T.fd_l_near ["_law_watches_here", "_law_word_here", "_law_spot"] (sp_l_near K) := by
  refine T.F_l_near.ok sc_l_near (fun vs H Q E h => ?_) (fun cdv A outer s H vs Q E hr h => ?_)
  · obtain ⟨a, ws, z, s, rfl, _⟩ := h
    rfl
  · obtain ⟨a, ws, z, s, rfl, hS, hw, z1, sn, k⟩ := h
    refine ⟨_, (pss_cons (ps_set (i := 3) sc_l_near.nd rfl (.inl rfl) (pe_lst pa_nil))
  (pss_cons (ps_for PassesOwn.never rfl (pi_range1 rfl T.n_range (pa_cons (pe_op op_add (pe_callB (id := "len") (r := _) Rd.c_lenS (by rfl) T.n_len (by decide +kernel) (pa_cons (pv 1) pa_nil)) pe_int) pa_nil)) (pg_name (i := 4) sc_l_near.nd rfl (.inl rfl))
  (pss_one (ps_if (PW.pt (pw_and (pt_cmpR op_ne (pv 4) (pv 2) (nomark _)) (pw_and1 (pt_cmpR (r := rIn K false) op_in_seq (pe_slice sl_str (pv 1) (po_some (pe_callB (id := "min") (r := _) (Rd.c_min2 rfl) (by rfl) T.n_min (by decide +kernel) (pa_cons (pv 2) (pa_cons (pv 4) pa_nil)))) (po_some (pe_callB (id := "max") (r := _) (Rd.c_max2 rfl) (by rfl) T.n_max (by decide +kernel) (pa_cons (pv 2) (pa_cons (pv 4) pa_nil))))) (pv 0) (by rfl)))))
  (pss_one (ps_expr (pe_bm PySem.F.plainAttrs_list PySem.F.slot_list_append PySem.F.type_list_append mt_append (pv 3) (pa_cons (pv 4) pa_nil))))
  pss_nil)))
  (pss_one (ps_ret (pv 3))))), ?_⟩
    have zl : z.length ≤ sizeLine := by rw [sizeLine_eq]; omega
    walk_at "rd"
    refine ⟨Nat.zero_le _, Rd.new fun l G nl gl sG => ?_⟩
    walk_at "rd"
    refine Rd.forS ?_
    walk_at "rd"
    refine Rd.lenStr zl ?_
    walk_at "rd"
    refine ⟨by omega, by omega, ?_⟩
    refine for_range (lo := 0) (n := ((z.length : Int) + 1).toNat) (fun i σ H' => ∃ (xs : List Int) (o4 : Option V), σ = [some (.ref a), some (.str z), some (.int (s : Nat)), some (.ref l), o4] ∧ Same H H' ∧ H' l = some (.lst (xs.map V.int)) ∧ (∀ x, x ∈ xs ↔ ∃ j : Nat, x = j ∧ j < i ∧ Mw.Adj ws z s j) ∧ xs.length ≤ i)
      ⟨[], none, rfl, sG, gl, fun x => ⟨fun h => by simp at h, fun ⟨j, _, h, _⟩ => by omega⟩, Nat.le_refl _⟩ ?_ ?_
    · rintro i _ H1 hi ⟨xs, o4, rfl, s1, gl1, hx, xl⟩
      have ad := adj_near (z := z) hw sn (j := i) (by omega)
      have skip : ¬ Mw.Adj ws z s i → ∀ x, x ∈ xs ↔ ∃ j : Nat, x = j ∧ j < i + 1 ∧ Mw.Adj ws z s j := fun no x => (hx x).trans ⟨fun ⟨j, e, h, r⟩ => ⟨j, e, by omega, r⟩, fun ⟨j, e, h, r⟩ => ⟨j, e, by
        rcases Nat.lt_succ_iff_lt_or_eq.mp h with h | h
        · exact h
        · exact absurd (h ▸ r) no, r⟩⟩
      walk_at "rd"
      rw [Int.zero_add]
      refine ite2 (fun c => ?_) (fun c => ?_)
      · walk_at "rd"
        have ei : (i : Nat) = s := by omega
        exact ⟨xs, _, rfl, s1, gl1, skip fun r => (ad.mp r).1 ei, by omega⟩
      · walk_at "rd"
        refine Rd.slS zl ?_
        walk_at "rd"
        refine Rd.inStrsY (.inl (s1.seq hS)) ?_
        walk_at "rd"
        refine ite2 (fun c2 => ?_) (fun c2 => ?_)
        · walk_at "rd"
          refine Rd.tyL (.of gl1) ?_
          walk_at "rd"
          refine Rd.app gl1 (by rw [List.length_map, sizeLine_eq]; omega) fun G2 g2 off2 => ?_
          walk_at "rd"
          have r : Mw.Adj ws z s i := ad.mpr ⟨by omega, c2⟩
          refine ⟨xs ++ [(i : Int)], _, rfl, fun b o e => ?_, by rw [List.map_append]; exact g2, fun x => ?_, by rw [List.length_append]; exact Nat.succ_le_succ xl⟩
          · rw [off2 b (ne_of_none e nl)]
            exact s1 b o e
          · rw [List.mem_append, hx, List.mem_singleton]
            constructor
            · rintro (⟨j, e, h, r⟩ | rfl)
              · exact ⟨j, e, by omega, r⟩
              · exact ⟨i, rfl, by omega, r⟩
            · rintro ⟨j, e, h, r⟩
              rcases Nat.lt_succ_iff_lt_or_eq.mp h with h | h
              · exact .inl ⟨j, e, h, r⟩
              · exact .inr (by rw [e, h])
        · walk_at "rd"
          exact ⟨xs, _, rfl, s1, gl1, skip fun r => c2 (ad.mp r).2, by omega⟩
    · rintro _ H1 ⟨xs, o4, rfl, s1, gl1, hx, xl⟩
      walk_at "rd"
      exact k l xs H1 s1 nl gl1 (fun x => (hx x).trans ⟨fun ⟨j, e, _, r⟩ => ⟨j, e, r⟩, fun ⟨j, e, r⟩ => ⟨j, e, by have := r.le.2; omega, r⟩⟩) (by omega)

end
end W

namespace W
open PySem PySem.Spec PyProof.Rows L2
section
variable {P : Program} {w : World} {K : PySem.W.Frag} {mg : Str → Option Value} {base : Heap}
/-! ### tables of ways -/
def Disp1 (p : Addr) (x y : V) (H2 : Hp) (Q : VK) : Prop := H2 p = some (.dK []) ∧ ∃ kvs : List (Key × V), [(x, y)] = kvs.map (fun kv => (kV kv.1, kv.2)) ∧ kvs.length ≤ 15 ∧ Q (.ref p) (upd H2 p (.dK (mergeK [] kvs)))
theorem disp1 {σ : L2.St} {H : Hp} {tk tv : TE} {Q : VK} (h : ∀ (p : Addr) (G : Hp), H p = none → G p = some (.dK []) → Same H G → tk σ G fun x H1 => tv σ H1 fun y H2 => Disp1 p x y H2 Q) : tDisp [(tk, tv)] σ H Q := fun p hp => h p _ hp upd_same (Rd.same_upd hp)
theorem disp1I {p : Addr} {i : Int} {y : V} {H : Hp} {Q : VK} (e : H p = some (.dK [])) (h : ∀ G : Hp, G p = some (.dK [(.inl i, y)]) → (∀ b, b ≠ p → G b = H b) → Q (.ref p) G) : Disp1 p (.int i) y H Q :=
  ⟨e, [(.inl i, y)], rfl, Nat.le_of_ble_eq_true rfl, h _ upd_same fun b hb => upd_ne hb⟩
def NatsV (P : List Nat) : List Int := P.map fun i : Nat => (i : Int)
theorem lt_lle : ∀ P Q : List Nat, (HT.lexLt (NatsV P) (NatsV Q) = true → Mz.lle P Q) ∧ (HT.lexLt (NatsV P) (NatsV Q) = false → Mz.lle Q P)
  | [], [] => ⟨fun _ => trivial, fun _ => trivial⟩
  | [], _ :: _ => ⟨fun _ => trivial, fun h => by cases h⟩
  | _ :: _, [] => ⟨fun h => (by cases h), fun _ => trivial⟩
  | a :: P, b :: Q => by
    have ih := lt_lle P Q
    show (HT.lexLt ((a : Int) :: NatsV P) ((b : Int) :: NatsV Q) = true → _) ∧ (HT.lexLt ((a : Int) :: NatsV P) ((b : Int) :: NatsV Q) = false → _)
    rw [HT.lexLt_cons]
    by_cases c : (a : Int) = (b : Int)
    · rw [if_pos c]
      exact ⟨fun h => .inr ⟨by omega, ih.1 h⟩, fun h => .inr ⟨by omega, ih.2 h⟩⟩
    · rw [if_neg c]
      exact ⟨fun h => .inl (by have := of_decide_eq_true h; omega), fun h => .inl (by have := of_decide_eq_false h; omega)⟩
theorem keys_put {kvs : List (Key × V)} {k : Key} {v : V} : (putK kvs k v).map (·.1) = if (valV kvs k).isSome = true then kvs.map (·.1) else kvs.map (·.1) ++ [k] := by
  unfold putK
  rw [valV_any]
  by_cases c : (valV kvs k).isSome = true
  · rw [if_pos c, if_pos c, List.map_map]
    refine List.map_congr_left fun p _ => ?_
    show (if p.1 = k then (p.1, v) else p).1 = p.1
    split <;> rfl
  · rw [if_neg c, if_neg c, List.map_append]
    rfl
theorem mem_keys {kvs : List (Key × V)} {k : Key} : k ∈ kvs.map (·.1) ↔ (valV kvs k).isSome = true := by
  rw [← valV_any, List.any_eq_true]
  constructor
  · intro h
    obtain ⟨p, hp, e⟩ := List.mem_map.mp h
    exact ⟨p, hp, decide_eq_true e⟩
  · rintro ⟨p, hp, e⟩
    exact List.mem_map.mpr ⟨p, hp, of_decide_eq_true e⟩
/-- the table kvs: a way for each spot of Dm, W tells of it -/
structure Tab (H : Hp) (n : Nat) (kvs : List (Key × V)) (Dm : Nat → Prop) (W : Nat → List Nat → Prop) : Prop where
  nd : (kvs.map (·.1)).Nodup
  ks : ∀ k ∈ kvs.map (·.1), ∃ i : Nat, i ≤ n ∧ k = .inl (i : Int)
  to : ∀ (i : Nat) v, valV kvs (.inl (i : Int)) = some v → Dm i ∧ ∃ q P, v = .ref q ∧ H q = some (.tup (natV P)) ∧ W i P
  fr : ∀ i, Dm i → (valV kvs (.inl (i : Int))).isSome = true
theorem Tab.len {H : Hp} {n : Nat} {kvs : List (Key × V)} {Dm : Nat → Prop} {W : Nat → List Nat → Prop} (h : Tab H n kvs Dm W) : kvs.length ≤ n + 1 := by
  have := Mw.nodup_le (kvs.map (·.1)) ((List.range (n + 1)).map fun i : Nat => (Sum.inl (i : Int) : Key)) h.nd fun x hx => by
    obtain ⟨i, hi, e⟩ := h.ks x hx
    exact List.mem_map.mpr ⟨i, List.mem_range.mpr (by omega), e.symm⟩
  rw [List.length_map, List.length_map, List.length_range] at this
  exact this
theorem Tab.keep {H H' : Hp} {n : Nat} {kvs : List (Key × V)} {Dm : Nat → Prop} {W : Nat → List Nat → Prop} (h : Tab H n kvs Dm W) (k : ∀ q xs, H q = some (.tup xs) → H' q = some (.tup xs)) : Tab H' n kvs Dm W :=
  ⟨h.nd, h.ks, fun i v e => let ⟨d, q, P, h1, h2, h3⟩ := h.to i v e; ⟨d, q, P, h1, k _ _ h2, h3⟩, h.fr⟩
theorem Tab.iff {H : Hp} {n : Nat} {kvs : List (Key × V)} {Dm Dm' : Nat → Prop} {W W' : Nat → List Nat → Prop} (h : Tab H n kvs Dm W) (hD : ∀ i, Dm' i ↔ Dm i) (hW : ∀ i P, Dm i → W i P → W' i P) : Tab H n kvs Dm' W' :=
  ⟨h.nd, h.ks, fun i v e => let ⟨d, q, P, h1, h2, h3⟩ := h.to i v e; ⟨(hD i).mpr d, q, P, h1, h2, hW i P d h3⟩, fun i d => h.fr i ((hD i).mp d)⟩
theorem Tab.put {H : Hp} {n : Nat} {kvs : List (Key × V)} {Dm : Nat → Prop} {W : Nat → List Nat → Prop} (h : Tab H n kvs Dm W) {i : Nat} (hi : i ≤ n) {q : Addr} {P : List Nat} (hq : H q = some (.tup (natV P))) :
    Tab H n (putK kvs (.inl (i : Int)) (.ref q)) (fun j => j = i ∨ Dm j) (fun j R => (j = i ∧ R = P) ∨ (j ≠ i ∧ W j R)) := by
  have ne : ∀ j : Nat, ((Sum.inl (j : Int) : Key) = Sum.inl (i : Int)) ↔ j = i := fun j => ⟨fun e => by have := Sum.inl.inj e; omega, fun e => by rw [e]⟩
  refine ⟨?_, fun k hk => ?_, fun j v e => ?_, fun j d => ?_⟩
  · rw [keys_put]
    split
    · exact h.nd
    · rename_i c
      rw [List.nodup_append]
      exact ⟨h.nd, by simp, fun x hx y hy e => c (mem_keys.mp (by simp at hy; rw [← hy, ← e]; exact hx))⟩
  · rw [keys_put] at hk
    split at hk
    · exact h.ks k hk
    · rcases List.mem_append.mp hk with q1 | q1
      · exact h.ks k q1
      · simp at q1
        exact ⟨i, hi, q1⟩
  · rw [valV_put] at e
    by_cases c : j = i
    · rw [if_pos ((ne j).mpr c)] at e
      cases e
      exact ⟨.inl c, q, P, rfl, hq, .inl ⟨c, rfl⟩⟩
    · rw [if_neg (fun z => c ((ne j).mp z))] at e
      obtain ⟨d, q', P', h1, h2, h3⟩ := h.to j v e
      exact ⟨.inr d, q', P', h1, h2, .inr ⟨c, h3⟩⟩
  · rw [valV_put]
    by_cases c : j = i
    · rw [if_pos ((ne j).mpr c)]
      rfl
    · rw [if_neg (fun z => c ((ne j).mp z))]
      exact h.fr j (d.resolve_left c)
theorem Tab.nil {H : Hp} {n : Nat} {W : Nat → List Nat → Prop} : Tab H n [] (fun _ => False) W := ⟨.nil, fun k h => by simp at h, fun i v e => (by cases e), fun i d => False.elim d⟩
/-- a spot nearer than k steps from the first, or as near -/
def Near (A : Nat → Nat → Prop) (k : Nat) (v : Nat) : Prop := ∃ d, d ≤ k ∧ Mz.Dist A 0 v d
/-- its way -/
def Fst (A : Nat → Nat → Prop) (k : Nat) (v : Nat) (P : List Nat) : Prop := ∃ d, d ≤ k ∧ Mz.Dist A 0 v d ∧ Mz.Best A 0 v d P
/-- the least way so far, over the pairs seen -/
def Lst (A : Nat → Nat → Prop) (k : Nat) (Done : Nat → Nat → Prop) (v : Nat) (P : List Nat) : Prop :=
  (∃ u R, Done u v ∧ Mz.Best A 0 u k R ∧ P = R ++ [v]) ∧ ∀ u R, Done u v → Mz.Best A 0 u k R → Mz.lle P (R ++ [v])
def sp_l_leasts (K : PySem.W.Frag) : Sp := fun vs H Q _ => ∃ (a : Addr) (ws : List Str) (z : Str), vs = [.ref a, .str z] ∧ SqL K H a (ws.map V.str) ∧ (∀ W ∈ ws, 1 ≤ W.length) ∧ z.length ≤ 1000 ∧
  ∀ (d : Addr) (kvs : List (Key × V)) H', Same H H' → H d = none → H' d = some (.dK kvs) → Tab H' z.length kvs (Near (Mw.Adj ws z) (z.length + 1)) (Fst (Mw.Adj ws z) (z.length + 1)) → Q (.ref d) H'
theorem catT {K : PySem.W.Frag} {H : Hp} {a b : Addr} {xs ys : List V} {Q : VK} (h1 : SqT K H a xs) (h2 : SqT K H b ys) (n1 : xs ≠ []) (n2 : ys ≠ []) (hz : xs.length + ys.length ≤ sizeLine) (h : Rd.NewQ (.tup (xs ++ ys)) Q H) : rCatT K (.ref a) (.ref b) H Q := ⟨a, b, xs, ys, rfl, rfl, h1, h2, n1, hz, fun e => absurd e n2, fun _ => h⟩
theorem Near.zero {A : Nat → Nat → Prop} {v : Nat} : Near A 0 v ↔ v = 0 := ⟨fun ⟨d, l, h⟩ => by
  have : d = 0 := by omega
  subst this
  exact (Mz.Dist.zero_iff.mp h).symm, fun e => ⟨0, Nat.le_refl _, by rw [e]; exact Mz.Dist.zero⟩⟩
theorem best_zero {A : Nat → Nat → Prop} {x : Nat} : Mz.Best A x x 0 [x] := ⟨.one x, rfl, fun P h l => by
  obtain ⟨t, e⟩ := h.head
  subst e
  exact .inr ⟨rfl, trivial⟩⟩
theorem natV_len (P : List Nat) : (natV P).length = P.length := by unfold natV; rw [List.length_map, List.length_map]
theorem natV_app (P Q : List Nat) : natV (P ++ Q) = natV P ++ natV Q := by unfold natV; rw [List.map_append, List.map_append]
/-- what stands while a step is made -/
structure LS (H0 H : Hp) (d fr : Addr) (n : Nat) (kvs : List (Key × V)) (xs : List Int) (A : Nat → Nat → Prop) (kk : Nat) : Prop where
  sm : Same H0 H
  gd : H d = some (.dK kvs)
  tb : Tab H n kvs (Near A kk) (Fst A kk)
  gf : H fr = some (.lst (xs.map V.int))
theorem tupK {la : Addr} {H H' : Hp} {lkv : List (Key × V)} (b : Rd.But la H H') (hla : H la = some (.dK lkv)) : ∀ q xs, H q = some (.tup xs) → H' q = some (.tup xs) := fun q xs e => b q _ (ne_of e hla (fun z => nomatch z)) e
theorem LS.but {H0 H H' : Hp} {d fr la : Addr} {n : Nat} {kvs lkv : List (Key × V)} {xs : List Int} {A : Nat → Nat → Prop} {kk : Nat} (h : LS H0 H d fr n kvs xs A kk) (b : Rd.But la H H') (nla : H0 la = none) (hla : H la = some (.dK lkv)) (dl : d ≠ la) : LS H0 H' d fr n kvs xs A kk :=
  ⟨fun c o e => b c o (ne_of_none e nla) (h.sm c o e), b d _ dl h.gd, h.tb.keep (tupK b hla), b fr _ (ne_of h.gf hla (fun z => nomatch z)) h.gf⟩
/-- the pairs seen -/
def Seen (A : Nat → Nat → Prop) (kk : Nat) (us : List Int) (u v : Nat) : Prop := (u : Int) ∈ us ∧ A u v ∧ ¬ Near A kk v
def Seen2 (A : Nat → Nat → Prop) (kk : Nat) (us : List Int) (u0 : Nat) (ys : List Int) (u v : Nat) : Prop := Seen A kk us u v ∨ (u = u0 ∧ (v : Int) ∈ ys ∧ ¬ Near A kk v)
theorem Lst.iff {A : Nat → Nat → Prop} {k : Nat} {D D' : Nat → Nat → Prop} {v : Nat} {P : List Nat} (h : ∀ u, D' u v ↔ D u v) (l : Lst A k D v P) : Lst A k D' v P := by
  obtain ⟨⟨u, R, h1, h2, h3⟩, h4⟩ := l
  exact ⟨⟨u, R, (h u).mpr h1, h2, h3⟩, fun u R a b => h4 u R ((h u).mp a) b⟩
theorem Lst.inj {A : Nat → Nat → Prop} {k : Nat} {D : Nat → Nat → Prop} {v : Nat} {P P' : List Nat} (l : Lst A k D v P) (l' : Lst A k D v P') : P = P' := by
  obtain ⟨⟨u, R, h1, h2, rfl⟩, h4⟩ := l
  obtain ⟨⟨u', R', h1', h2', rfl⟩, h4'⟩ := l'
  exact Mz.lle.anti (h4 u' R' h1' h2') (h4' u R h1 h2)
/-- one more pair, its way the least for its spot -/
theorem Lst.new {A : Nat → Nat → Prop} {k : Nat} {D : Nat → Nat → Prop} {u v : Nat} {R : List Nat} (b : Mz.Best A 0 u k R) (least : ∀ u' R', D u' v → Mz.Best A 0 u' k R' → Mz.lle (R ++ [v]) (R' ++ [v])) : Lst A k (fun x y => D x y ∨ (x = u ∧ y = v)) v (R ++ [v]) := by
  refine ⟨⟨u, R, .inr ⟨rfl, rfl⟩, b, rfl⟩, fun u' R' h b' => ?_⟩
  rcases h with h | ⟨rfl, _⟩
  · exact least u' R' h b'
  · exact Mz.lle.snoc (by rw [b.ln, b'.ln]) (b.least R' b'.way b'.ln)
/-- .. not less than what stands there -/
theorem Lst.old {A : Nat → Nat → Prop} {k : Nat} {D : Nat → Nat → Prop} {u v : Nat} {R P : List Nat} (b : Mz.Best A 0 u k R) (l : Lst A k D v P) (le : Mz.lle P (R ++ [v])) : Lst A k (fun x y => D x y ∨ (x = u ∧ y = v)) v P := by
  obtain ⟨⟨u0, R0, h1, h2, h3⟩, h4⟩ := l
  refine ⟨⟨u0, R0, .inl h1, h2, h3⟩, fun u' R' h b' => ?_⟩
  rcases h with h | ⟨rfl, _⟩
  · exact h4 u' R' h b'
  · exact le.trans (Mz.lle.snoc (by rw [b.ln, b'.ln]) (b.least R' b'.way b'.ln))
/-- a spot of the front has its way -/
theorem LS.way {H0 H : Hp} {d fr : Addr} {n : Nat} {kvs : List (Key × V)} {xs : List Int} {A : Nat → Nat → Prop} {kk : Nat} (h : LS H0 H d fr n kvs xs A kk) {u : Nat} (du : Mz.Dist A 0 u kk) : ∃ q R, valV kvs (.inl (u : Int)) = some (.ref q) ∧ H q = some (.tup (natV R)) ∧ Mz.Best A 0 u kk R := by
  obtain ⟨v, hv⟩ := Option.isSome_iff_exists.mp (h.tb.fr u ⟨kk, Nat.le_refl _, du⟩)
  obtain ⟨_, q, R, rfl, hq, e, _, de, be⟩ := h.tb.to u v hv
  have := de.inj du
  subst this
  exact ⟨q, R, hv, hq, be⟩
theorem ok_l_leasts (T : Txt K mg) : FnOk P w K mg base CX0 2 T.f_l_leasts T.fd_l_leasts ["_law_watches_here", "_law_word_here"] (sp_l_leasts K) := by
  refine T.F_l_leasts.ok sc_l_leasts (fun vs H Q E h => ?_) (fun cdv A outer s H vs Q E hr h => ?_)
  · obtain ⟨a, ws, z, rfl, _⟩ := h
    rfl
  · obtain ⟨a, ws, z, rfl, hS, hw, z1, k⟩ := h
    refine ⟨_, (pss_cons (ps_set (i := 2) sc_l_leasts.nd rfl (.inl rfl) (pe_disp (pps_cons pe_int (pe_tup (pa_cons pe_int pa_nil)) pps_nil) rfl rfl (by simp) (by decide)))
  (pss_cons (ps_set (i := 3) sc_l_leasts.nd rfl (.inl rfl) (pe_lst (pa_cons pe_int pa_nil)))
  (pss_cons (ps_for PassesOwn.never rfl (pi_range1 rfl T.n_range (pa_cons (pe_op op_add (pe_callB (id := "len") (r := _) Rd.c_lenS (by rfl) T.n_len (by decide +kernel) (pa_cons (pv 1) pa_nil)) pe_int) pa_nil)) (pg_name (i := 4) sc_l_leasts.nd rfl (.inl rfl))
  (pss_cons (ps_set (i := 5) sc_l_leasts.nd rfl (.inl rfl) pe_dnewK)
  (pss_cons (ps_for PassesOwn.never rfl (pi_list (pv 3)) (pg_name (i := 6) sc_l_leasts.nd rfl (.inl rfl))
  (pss_one (ps_for PassesOwn.never rfl (pi_list (pe_call (ok_l_near T) (hr.mono (by decide)) rfl T.g_l_near T.F_l_near.kp T.b_l_near .nil pass0 (pa_cons (pv 0) (pa_cons (pv 1) (pa_cons (pv 6) pa_nil))))) (pg_name (i := 7) sc_l_leasts.nd rfl (.inl rfl))
  (pss_one (ps_if (pt_cmp (pc_dnotin (hu_of hr) (pv 7) (pv 2)))
  (pss_cons (ps_set (i := 8) sc_l_leasts.nd rfl (.inl rfl) (pe_op op_catT (pe_dget (hu_of hr) (pv 2) (pv 6) (fun _ _ => rfl)) (pe_tup (pa_cons (pv 7) pa_nil))))
  (pss_one (ps_if (PW.pt (pw_or (pt_cmp (pc_dnotin (hu_of hr) (pv 7) (pv 5))) (pw_or1 (pt_cmpR (op_ltT hr.units0) (pv 8) (pe_dget (hu_of hr) (pv 5) (pv 7) (fun _ _ => rfl)) (nomark _)))))
  (pss_one (ps_asg (pv 8) (pg_sub (pv 5) (pv 7) (set_dict (hu_of hr)))))
  pss_nil)))
  pss_nil)))))
  (pss_cons (ps_lock (ps_for PassesOwn.never rfl (pi_keys (pv 5)) (pg_name (i := 6) sc_l_leasts.nd rfl (.inl rfl))
  (pss_one (ps_asg (pe_dget (hu_of hr) (pv 5) (pv 6) (fun _ _ => rfl)) (pg_sub (pv 2) (pv 6) (set_dict (hu_of hr)))))))
  (pss_one (ps_set (i := 3) sc_l_leasts.nd rfl (.inl rfl) (pe_callTy (T := "list") (r := _) (call_list_dK rfl) (by rfl) T.n_list (by decide +kernel) (pa_cons (pv 5) pa_nil))))))))
  (pss_one (ps_ret (pv 2)))))), ?_⟩
    have zl : z.length ≤ sizeLine := by rw [sizeLine_eq]; omega
    have hA : ∀ i j, Mw.Adj ws z i j → j ≤ z.length := fun i j h => h.le.2
    walk_at "rd"
    refine disp1 fun d G nd gd sG => ?_
    walk_at "rd"
    refine ⟨Nat.le_of_ble_eq_true rfl, Rd.new fun q0 G1 nq gq s1 => ?_⟩
    refine disp1I (s1 _ _ gd) fun G2 g2 off2 => ?_
    have qd : q0 ≠ d := (ne_of_none gd nq).symm
    have s02 : Same H G2 := fun b o e => by
      rw [off2 b (ne_of_none e nd)]
      exact s1 _ _ (sG _ _ e)
    have gq2 : G2 q0 = some (.tup (natV [0])) := by rw [off2 q0 qd]; exact gq
    walk_at "rd"
    refine ⟨Nat.le_of_ble_eq_true rfl, Rd.new fun fr G3 nfr gfr s3 => ?_⟩
    walk_at "rd"
    have tab0 : Tab G3 z.length [(.inl ((0 : Nat) : Int), .ref q0)] (Near (Mw.Adj ws z) 0) (Fst (Mw.Adj ws z) 0) := by
      have := (Tab.nil (H := G3) (n := z.length) (W := fun _ _ => False)).put (i := 0) (Nat.zero_le _) (P := [0]) (s3 _ _ gq2)
      refine this.iff (fun i => Near.zero.trans ⟨.inl, fun h => h.elim id False.elim⟩) fun i P _ h => ?_
      rcases h with ⟨rfl, rfl⟩ | ⟨_, h⟩
      · exact ⟨0, Nat.le_refl _, Mz.Dist.zero, best_zero⟩
      · exact h.elim
    refine Rd.forS ?_
    walk_at "rd"
    refine Rd.lenStr zl ?_
    walk_at "rd"
    refine ⟨by omega, by omega, ?_⟩
    refine for_range (lo := 0) (n := ((z.length : Int) + 1).toNat) (fun kk σ H' => ∃ (kvs : List (Key × V)) (fr : Addr) (xs : List Int) (o4 o5 o6 o7 o8 : Option V), σ = [some (.ref a), some (.str z), some (.ref d), some (.ref fr), o4, o5, o6, o7, o8] ∧ Same H H' ∧ H' d = some (.dK kvs) ∧ Tab H' z.length kvs (Near (Mw.Adj ws z) kk) (Fst (Mw.Adj ws z) kk) ∧ H' fr = some (.lst (xs.map V.int)) ∧ xs.length ≤ z.length + 1 ∧ ∀ x, x ∈ xs ↔ ∃ i : Nat, x = i ∧ Mz.Dist (Mw.Adj ws z) 0 i kk)
      ⟨_, fr, [0], none, none, none, none, none, rfl, s02.trans s3, s3 _ _ g2, tab0, gfr, by show 1 ≤ _; omega, fun x => by
        rw [List.mem_singleton]
        exact ⟨fun h => ⟨0, h, Mz.Dist.zero⟩, fun ⟨i, h, e⟩ => by have := Mz.Dist.zero_iff.mp e; omega⟩⟩ ?_ ?_
    · clear gfr nfr s3 tab0
      rintro kk _ H1 hk ⟨kvs, fr, xs, o4, o5, o6, o7, o8, rfl, s1', gd1, tb, gfr, xl, hx⟩
      generalize hAdj : Mw.Adj ws z = A at *
      have k40 : kk ≤ z.length := by omega
      walk_at "rd"
      refine Rd.dnew fun la G nla gla s4 => ?_
      have nlaH : H la = none := s1'.free nla
      have dla : d ≠ la := ne_of_none gd1 nla
      have ls0 : LS H G d fr z.length kvs xs A kk := ⟨s1'.trans s4, s4 _ _ gd1, tb.keep fun q xs e => s4 _ _ e, s4 _ _ gfr⟩
      have laS : ∀ {H'}, Same H H' → SqL K H' a (ws.map V.str) := fun s => s.seq hS
      walk_at "rd"
      refine Rd.forS ?_
      walk_at "rd"
      refine ⟨⟨_, .of ls0.gf⟩, for_list (K := K) (a := fr) (xs := xs.map V.int) (fun i σ H' => ∃ (lkv : List (Key × V)) (o6 o7 o8 : Option V), σ = [some (.ref a), some (.str z), some (.ref d), some (.ref fr), some (.int (0 + (kk : Int))), some (.ref la), o6, o7, o8] ∧ LS H H' d fr z.length kvs xs A kk ∧ H' la = some (.dK lkv) ∧ Tab H' z.length lkv (fun v => ∃ u, Seen A kk (xs.take i) u v) (Lst A kk (Seen A kk (xs.take i))))
        ⟨[], _, _, _, rfl, ls0, gla, (Tab.nil (W := fun _ _ => False)).iff (fun v => ⟨fun ⟨u, h, _⟩ => by simp at h, False.elim⟩) (fun v P h => h.elim)⟩ (fun i σ H' _ ⟨_, _, _, _, _, l, _⟩ => .of l.gf) ?_ ?_⟩
      · rintro i x0 _ H2 hx0 ⟨lkv, o6, o7, o8, rfl, ls2, gla2, tl2⟩
        obtain ⟨x, hxi, rfl⟩ := Rd.map_get hx0
        obtain ⟨u, rfl, du⟩ := (hx x).mp (List.mem_of_getElem? hxi)
        have un : u ≤ z.length := Mz.Steps.le hA (Nat.zero_le _) du.1
        walk_at "rd"
        refine Rd.forS ?_
        walk_at "rd"
        refine ⟨a, ws, z, u, rfl, laS ls2.sm, hw, z1, un, fun na ys H3 s3 nna gna hys yl => ?_⟩
        rw [hAdj] at hys
        have nala : na ≠ la := fun e => by rw [e, gla2] at nna; cases nna
        walk_at "rd"
        refine ⟨⟨_, .of gna⟩, for_list (K := K) (a := na) (xs := ys.map V.int) (fun j σ H' => ∃ (lkv : List (Key × V)) (o7 o8 : Option V), σ = [some (.ref a), some (.str z), some (.ref d), some (.ref fr), some (.int (0 + (kk : Int))), some (.ref la), some (.int (u : Int)), o7, o8] ∧ LS H H' d fr z.length kvs xs A kk ∧ H' na = some (.lst (ys.map V.int)) ∧ H' la = some (.dK lkv) ∧ Tab H' z.length lkv (fun v => ∃ w, Seen2 A kk (xs.take i) u (ys.take j) w v) (Lst A kk (Seen2 A kk (xs.take i) u (ys.take j))))
          ⟨lkv, _, _, rfl, ls2.but (Rd.But.of s3) nlaH gla2 dla, gna, s3 _ _ gla2, (tl2.keep fun q xs e => s3 _ _ e).iff (fun v => exists_congr fun w => ⟨fun h => h.elim id fun ⟨_, h, _⟩ => by simp at h, .inl⟩) (fun v P _ l => l.iff fun w => ⟨fun h => h.elim id fun ⟨_, h, _⟩ => by simp at h, .inl⟩)⟩ (fun j σ H' _ ⟨_, _, _, _, _, g, _⟩ => .of g) ?_ ?_⟩
        · rintro j y0 _ H4 hy0 ⟨lkv, o7, o8, rfl, ls4, gna4, gla4, tl4⟩
          obtain ⟨y, hyj, rfl⟩ := Rd.map_get hy0
          obtain ⟨v, rfl, auv⟩ := (hys y).mp (List.mem_of_getElem? hyj)
          have vn := hA _ _ auv
          have step : ¬ Near A kk v → ∀ w t, Seen2 A kk (xs.take i) u (ys.take (j + 1)) w t ↔ (Seen2 A kk (xs.take i) u (ys.take j) w t ∨ (w = u ∧ t = v)) := fun nv w t => by
            unfold Seen2
            rw [Rd.take_snoc hyj, List.mem_append, List.mem_singleton]
            constructor
            · rintro (h | ⟨h1, h2 | h2, h3⟩)
              · exact .inl (.inl h)
              · exact .inl (.inr ⟨h1, h2, h3⟩)
              · exact .inr ⟨h1, by omega⟩
            · rintro ((h | ⟨h1, h2, h3⟩) | ⟨h1, h2⟩)
              · exact .inl h
              · exact .inr ⟨h1, .inl h2, h3⟩
              · exact .inr ⟨h1, .inr (by omega), h2 ▸ nv⟩
          walk_at "rd"
          refine Rd.dany ls4.gd ?_
          walk_at "rd"
          cases hin : (valV kvs (.inl (v : Int))).isSome with
          | true =>
            walk_at "rd"
            obtain ⟨val, hval⟩ := Option.isSome_iff_exists.mp hin
            have nv : Near A kk v := (ls4.tb.to v val hval).1
            have same : ∀ w t, Seen2 A kk (xs.take i) u (ys.take (j + 1)) w t ↔ Seen2 A kk (xs.take i) u (ys.take j) w t := fun w t => by
              unfold Seen2
              rw [Rd.take_snoc hyj, List.mem_append, List.mem_singleton]
              refine or_congr Iff.rfl ⟨fun ⟨h1, h2, h3⟩ => ⟨h1, h2.resolve_right fun e => h3 (by rw [show t = v by omega]; exact nv), h3⟩, fun ⟨h1, h2, h3⟩ => ⟨h1, .inl h2, h3⟩⟩
            exact ⟨lkv, _, _, rfl, ls4, gna4, gla4, tl4.iff (fun t => exists_congr fun w => same w t) fun t P _ l => l.iff fun w => same w t⟩
          | false =>
            walk_at "rd"
            have nv : ¬ Near A kk v := fun h => by rw [ls4.tb.fr v h] at hin; cases hin
            obtain ⟨q, R, hval, hq, bR⟩ := ls4.way du
            refine Rd.dget ls4.gd hval ?_
            walk_at "rd"
            refine ⟨Nat.le_of_ble_eq_true rfl, Rd.new fun q1 G5 nq1 gq1 s5 => ?_⟩
            have rl := bR.ln
            refine catT (xs := natV R) (ys := natV [v]) (.of (s5 _ _ hq)) (.of gq1) (fun e => ?_) (fun e => by cases e) ?_ (Rd.new fun q2 G6 nq2 gq2 s6 => ?_)
            · have := congrArg List.length e
              rw [natV_len, rl] at this
              cases this
            · rw [natV_len, natV_len, rl, sizeLine_eq]
              show kk + 1 + 1 ≤ _
              omega
            rw [← natV_app] at gq2
            have s46 := s5.trans s6
            have ls6 := ls4.but (Rd.But.of s46) nlaH gla4 dla
            have gla6 := s46 _ _ gla4
            have tl6 := tl4.keep fun q xs e => s46 _ _ e
            have q2la : q2 ≠ la := (ne_of_none (s5 _ _ gla4) nq2).symm
            -- the pair's way is stored
            have store : ∀ (G : Hp), G la = some (.dK (putK lkv (.inl (v : Int)) (.ref q2))) → (∀ b, b ≠ la → G b = G6 b) → (∀ u' R', Seen2 A kk (xs.take i) u (ys.take j) u' v → Mz.Best A 0 u' kk R' → Mz.lle (R ++ [v]) (R' ++ [v])) →
                LS H G d fr z.length kvs xs A kk ∧ G na = some (.lst (ys.map V.int)) ∧ Tab G z.length (putK lkv (.inl (v : Int)) (.ref q2)) (fun t => ∃ w, Seen2 A kk (xs.take i) u (ys.take (j + 1)) w t) (Lst A kk (Seen2 A kk (xs.take i) u (ys.take (j + 1)))) := by
              intro G g off least
              have bt : Rd.But la G6 G := fun b o n e => by rw [off b n]; exact e
              refine ⟨ls6.but bt nlaH gla6 dla, by rw [off na nala]; exact s46 _ _ gna4, ?_⟩
              refine ((tl6.keep (tupK bt gla6)).put vn (q := q2) (P := R ++ [v]) (by rw [off q2 q2la]; exact gq2)).iff (fun t => ?_) fun t P _ l => ?_
              · constructor
                · rintro ⟨w, h⟩
                  rcases (step nv w t).mp h with h | ⟨_, h⟩
                  · exact .inr ⟨w, h⟩
                  · exact .inl h
                · rintro (h | ⟨w, h⟩)
                  · exact ⟨u, (step nv u t).mpr (.inr ⟨rfl, h⟩)⟩
                  · exact ⟨w, (step nv w t).mpr (.inl h)⟩
              · rcases l with ⟨rfl, rfl⟩ | ⟨ne, l⟩
                · exact (Lst.new bR least).iff fun w => step nv w _
                · exact l.iff fun w => (step nv w t).trans ⟨fun h => h.resolve_right fun h => ne h.2, .inl⟩
            have lim : lkv.length < sizeLine := by
              have := tl6.len
              rw [sizeLine_eq]
              omega
            walk_at "rd"
            refine Rd.dany gla6 ?_
            walk_at "rd"
            cases hin2 : (valV lkv (.inl (v : Int))).isSome with
            | false =>
              walk_at "rd"
              refine Rd.dput gla6 lim fun G7 g7 off7 => ?_
              obtain ⟨h1, h2, h3⟩ := store G7 g7 off7 fun u' R' h _ => by rw [tl6.fr v ⟨u', h⟩] at hin2; cases hin2
              walk_at "rd"
              exact ⟨_, _, _, rfl, h1, h2, g7, h3⟩
            | true =>
              walk_at "rd"
              obtain ⟨val, hval2⟩ := Option.isSome_iff_exists.mp hin2
              obtain ⟨⟨w0, sw0⟩, q3, P3, rfl, hq3, l3⟩ := tl6.to v val hval2
              refine Rd.dget gla6 hval2 ?_
              refine ⟨q2, q3, NatsV (R ++ [v]), NatsV P3, rfl, rfl, .of gq2, .of hq3, ?_⟩
              walk_at "rd"
              cases hlt : HT.lexLt (NatsV (R ++ [v])) (NatsV P3) with
              | true =>
                walk_at "rd"
                refine Rd.dput gla6 lim fun G7 g7 off7 => ?_
                obtain ⟨h1, h2, h3⟩ := store G7 g7 off7 fun u' R' h b => ((lt_lle _ _).1 hlt).trans (l3.2 u' R' h b)
                walk_at "rd"
                exact ⟨_, _, _, rfl, h1, h2, g7, h3⟩
              | false =>
                walk_at "rd"
                refine ⟨lkv, _, _, rfl, ls6, s46 _ _ gna4, gla6, tl6.iff (fun t => ?_) fun t P _ l => ?_⟩
                · constructor
                  · rintro ⟨w, h⟩
                    rcases (step nv w t).mp h with h | ⟨_, h⟩
                    · exact ⟨w, h⟩
                    · exact ⟨w0, h ▸ sw0⟩
                  · rintro ⟨w, h⟩
                    exact ⟨w, (step nv w t).mpr (.inl h)⟩
                · by_cases c : t = v
                  · subst c
                    have e := l.inj l3
                    subst e
                    exact (Lst.old bR l ((lt_lle _ _).2 hlt)).iff fun w => step nv w _
                  · exact l.iff fun w => (step nv w t).trans ⟨fun h => h.resolve_right fun h => c h.2, .inl⟩
        · rintro _ H4 ⟨lkv, o7, o8, rfl, ls4, gna4, gla4, tl4⟩
          rw [List.length_map, List.take_length] at tl4
          walk_at "rd"
          have e : ∀ w t, Seen A kk (xs.take (i + 1)) w t ↔ Seen2 A kk (xs.take i) u ys w t := fun w t => by
            unfold Seen2 Seen
            rw [Rd.take_snoc hxi, List.mem_append, List.mem_singleton]
            constructor
            · rintro ⟨h1 | h1, h2, h3⟩
              · exact .inl ⟨h1, h2, h3⟩
              · have : w = u := by omega
                subst this
                exact .inr ⟨rfl, (hys _).mpr ⟨t, rfl, h2⟩, h3⟩
            · rintro (⟨h1, h2, h3⟩ | ⟨rfl, h2, h3⟩)
              · exact ⟨.inl h1, h2, h3⟩
              · obtain ⟨t', e', r⟩ := (hys _).mp h2
                have : t = t' := by omega
                subst this
                exact ⟨.inr rfl, r, h3⟩
          exact ⟨lkv, _, _, _, rfl, ls4, gla4, tl4.iff (fun t => exists_congr fun w => e w t) fun t P _ l => l.iff fun w => e w t⟩
      · rintro _ H2 ⟨lkv, o6, o7, o8, rfl, ls2, gla2, tl2⟩
        rw [List.length_map, List.take_length] at tl2
        have seen : ∀ u v, Seen A kk xs u v ↔ Mz.Dist A 0 u kk ∧ A u v ∧ ¬ Near A kk v := fun u v => by
          unfold Seen
          rw [hx]
          constructor
          · rintro ⟨⟨i, e, h1⟩, h2⟩
            have : u = i := by omega
            subst this
            exact ⟨h1, h2⟩
          · rintro ⟨h1, h2⟩
            exact ⟨⟨u, rfl, h1⟩, h2⟩
        have nextD : ∀ v, (∃ u, Seen A kk xs u v) ↔ Mz.Dist A 0 v (kk + 1) := fun v => by
          constructor
          · rintro ⟨u, h⟩
            obtain ⟨h1, h2, h3⟩ := (seen u v).mp h
            exact h1.next h2 fun j hj d => h3 ⟨j, hj, d⟩
          · intro h
            obtain ⟨u, h1, h2⟩ := h.pred
            exact ⟨u, (seen u v).mpr ⟨h1, h2, fun ⟨j, hj, d⟩ => by have := d.inj h; omega⟩⟩
        have front : ∀ y v, Mz.Steps A kk 0 y → A y v → ¬ Near A kk v → Mz.Dist A 0 y kk := fun y v st r nv => by
          obtain ⟨d', l, hd'⟩ := st.dist
          by_cases c : d' = kk
          · rw [← c]
            exact hd'
          · obtain ⟨d2, l2, h2⟩ := Mz.Steps.dist (A := A) (x := 0) (y := v) (k := d' + 1) ⟨y, hd'.1, r⟩
            exact absurd ⟨d2, by omega, h2⟩ nv
        have nextB : ∀ v P, Lst A kk (Seen A kk xs) v P → Fst A (kk + 1) v P := fun v P l => by
          obtain ⟨⟨u, R, h1, bR, rfl⟩, h4⟩ := l
          have hd := (nextD v).mp ⟨u, h1⟩
          obtain ⟨_, auv, nv⟩ := (seen u v).mp h1
          refine ⟨kk + 1, Nat.le_refl _, hd, bR.next auv (fun y' P' b r => h4 y' P' ((seen y' v).mpr ⟨?_, r, nv⟩) b) fun y' st r => ?_⟩
          · obtain ⟨m, e, st⟩ := b.way.steps
            have : m = kk := by have := b.ln; omega
            subst this
            exact front y' v st r nv
          · obtain ⟨_, R', _, _, b⟩ := ls2.way (front y' v st r nv)
            exact ⟨R', b⟩
        have laNe : ∀ q xs, H2 q = some (.tup xs) → q ≠ d ∧ q ≠ la := fun q xs e => ⟨ne_of e ls2.gd (fun z => nomatch z), ne_of e gla2 (fun z => nomatch z)⟩
        walk_at "rd"
        refine Rd.forD gla2 (fun H1 Q q => ?_) (fun i σ H' => ∃ (kvs' : List (Key × V)) (o6 : Option V), σ = [some (.ref a), some (.str z), some (.ref d), some (.ref fr), some (.int (0 + (kk : Int))), some (.ref la), o6, o7, o8] ∧ (∀ c o, c ≠ d → c ≠ la → H2 c = some o → H' c = some o) ∧ H' d = some (.dK kvs') ∧ Tab H' z.length kvs' (fun j => Near A kk j ∨ (Sum.inl (j : Int) : Key) ∈ (lkv.take i).map (·.1)) (Fst A (kk + 1)))
          (fun od => ⟨kvs, _, rfl, fun c o _ n e => by rw [upd_ne n]; exact e, by rw [upd_ne dla]; exact ls2.gd, (ls2.tb.keep fun q xs e => by rw [upd_ne (laNe q xs e).2]; exact e).iff (fun j => ⟨fun h => h.elim id fun h => by simp at h, .inl⟩) fun j P _ ⟨d', l, h1, h2⟩ => ⟨d', by omega, h1, h2⟩⟩) ?_ ?_
        · walk_at "rd"
          exact q
        · rintro od i key val _ H3 hki hfz ⟨kvs', o6, rfl, frm, gd3, tb3⟩
          have km : key ∈ lkv.map (·.1) := List.mem_map.mpr ⟨_, List.mem_of_getElem? hki, rfl⟩
          obtain ⟨t, tn, rfl⟩ := tl2.ks key km
          obtain ⟨v', hv'⟩ := Option.isSome_iff_exists.mp (mem_keys.mp km)
          obtain ⟨dm, q, P, rfl, hq, l⟩ := tl2.to t v' hv'
          have hq3 := frm q _ (laNe q _ hq).1 (laNe q _ hq).2 hq
          show gName 6 (.int (t : Int)) _ _ _
          walk_at "rd"
          refine Rd.dgetF hfz hv' ?_
          walk_at "rd"
          refine Rd.dput gd3 (by have := tb3.len; rw [sizeLine_eq]; omega) fun G g off => ?_
          walk_at "rd"
          refine ⟨by rw [off la dla.symm]; exact hfz, _, _, rfl, fun c o n1 n2 e => by rw [off c n1]; exact frm c o n1 n2 e, g, ?_⟩
          have qd : q ≠ d := ne_of hq3 gd3 (fun z => nomatch z)
          refine ((tb3.keep fun q xs e => by rw [off q (ne_of e gd3 (fun z => nomatch z))]; exact e).put tn (q := q) (P := P) (by rw [off q qd]; exact hq3)).iff (fun j => ?_) fun j R _ h => ?_
          · rw [Rd.take_snoc hki, List.map_append, List.mem_append]
            show Near A kk j ∨ (_ ∨ (Sum.inl (j : Int) : Key) ∈ [Sum.inl (t : Int)]) ↔ _
            rw [List.mem_singleton]
            constructor
            · rintro (h | h | h)
              · exact .inr (.inl h)
              · exact .inr (.inr h)
              · exact .inl (by have := Sum.inl.inj h; omega)
            · rintro (h | h | h)
              · exact .inr (.inr (by rw [h]))
              · exact .inl h
              · exact .inr (.inl h)
          · rcases h with ⟨rfl, rfl⟩ | ⟨_, h⟩
            · exact nextB _ _ l
            · exact h
        · rintro od _ H3 hfz ⟨kvs', o6, rfl, frm, gd3, tb3⟩
          rw [List.take_length] at tb3
          walk_at "rd"
          refine Rd.listD upd_same (Rd.new fun f2 G nf2 gf2 s5 => ?_)
          walk_at "rd"
          have ekeys : (lkv.map fun kv => kV kv.1) = (lkv.map fun kv => match kv.1 with | .inl i => i | .inr _ => (0 : Int)).map V.int := by
            rw [List.map_map]
            refine List.map_congr_left fun p hp => ?_
            obtain ⟨i, _, e⟩ := tl2.ks p.1 (List.mem_map.mpr ⟨p, hp, rfl⟩)
            show kV p.1 = V.int (match p.1 with | .inl i => i | .inr _ => (0 : Int))
            rw [e]
            rfl
          rw [ekeys] at gf2
          have dmk : ∀ j : Nat, (Sum.inl (j : Int) : Key) ∈ lkv.map (·.1) ↔ Mz.Dist A 0 j (kk + 1) := fun j => by
            rw [mem_keys]
            constructor
            · intro h
              obtain ⟨v', hv'⟩ := Option.isSome_iff_exists.mp h
              exact (nextD j).mp (tl2.to j v' hv').1
            · intro h
              exact tl2.fr j ((nextD j).mpr h)
          refine ⟨kvs', f2, _, _, _, _, _, _, rfl, fun c o e => s5 _ _ ?_, s5 _ _ (by rw [upd_ne dla]; exact gd3), ?_, gf2, by rw [List.length_map]; exact tl2.len, fun x => ?_⟩
          · rw [upd_ne (ne_of_none e nlaH)]
            exact frm c o (ne_of_none e nd) (ne_of_none e nlaH) (ls2.sm _ _ e)
          · refine (tb3.keep fun q xs e => s5 _ _ (by rw [upd_ne (ne_of e hfz (fun z => nomatch z))]; exact e)).iff (fun j => ?_) fun j P _ h => h
            rw [dmk]
            constructor
            · rintro ⟨d', l, h⟩
              by_cases c : d' ≤ kk
              · exact .inl ⟨d', c, h⟩
              · have : d' = kk + 1 := by omega
                subst this
                exact .inr h
            · rintro (⟨d', l, h⟩ | h)
              · exact ⟨d', by omega, h⟩
              · exact ⟨kk + 1, Nat.le_refl _, h⟩
          · rw [List.mem_map]
            constructor
            · rintro ⟨p, hp, rfl⟩
              obtain ⟨i, _, e⟩ := tl2.ks p.1 (List.mem_map.mpr ⟨p, hp, rfl⟩)
              refine ⟨i, by rw [e], (dmk i).mp (by rw [← e]; exact List.mem_map.mpr ⟨p, hp, rfl⟩)⟩
            · rintro ⟨i, rfl, h⟩
              obtain ⟨p, hp, e⟩ := List.mem_map.mp ((dmk i).mpr h)
              exact ⟨p, hp, by rw [e]⟩
    · rintro _ H1 ⟨kvs, fr, xs, o4, o5, o6, o7, o8, rfl, s1', gd1, tb, gfr, xl, hx⟩
      walk_at "rd"
      refine k d kvs H1 s1' nd gd1 ?_
      have e : ((z.length : Int) + 1).toNat = z.length + 1 := by omega
      rw [e] at tb
      exact tb

end
end W

namespace W
open PySem PySem.Spec PyProof.Rows L2
section
variable {P : Program} {w : World} {K : PySem.W.Frag} {mg : Str → Option Value} {base : Heap}
theorem orTH {K : PySem.W.Frag} {σ : L2.St} {H : Hp} {ta tb : TE} {Q : VK} (h : ta σ H fun x H1 => ∃ k, TruV K x H1 k ∧ if k = true then Q x H1 else tb σ H1 Q) : tOrT K ta tb σ H Q := h
theorem gr_ne {A : Nat → Nat → Prop} {n x : Nat} {P : List Nat} (h : Mz.Gr A n x P) : (natV P).isEmpty = false := by
  cases h <;> rfl
theorem gr_told {A : Nat → Nat → Prop} {n x : Nat} {P : List Nat} (h : Mz.Gr A n x P) : Mw.Star A x n := by
  cases h with
  | stop => exact .refl
  | step hx _ _ _ _ => exact Mz.star_dist.mpr ⟨_, hx⟩
/-- an answer: none, or the least of the shortest zigzags -/
def Ans (H : Hp) (ws : List Str) (z : Str) (r : V) : Prop := (r = .non ∧ ¬ Mw.Told ws z) ∨ ∃ (q : Addr) (P : List Nat), r = .ref q ∧ H q = some (.tup (natV P)) ∧ Mz.Gr (Mw.Adj ws z) z.length 0 P
theorem Ans.same {H H' : Hp} {ws : List Str} {z : Str} {r : V} (h : Ans H ws z r) (s : Same H H') : Ans H' ws z r := h.imp id fun ⟨q, P, h1, h2, h3⟩ => ⟨q, P, h1, s _ _ h2, h3⟩
theorem Ans.but {H H' : Hp} {ws : List Str} {z : Str} {r : V} {t c : Addr} (h : Ans H ws z r) (tp : Tape H t c) (s : Rd.But t H H') : Ans H' ws z r := h.imp id fun ⟨q, P, h1, h2, h3⟩ => ⟨q, P, h1, by
  obtain ⟨ns, x, y, z, u, _, g1, _⟩ := tp
  exact s _ _ (ne_of h2 g1 (fun e => nomatch e)) h2, h3⟩
theorem Zig.ans {H H' : Hp} {ws : List Str} {z : Str} {r : V} (h : Zig H H' ws z r) : Ans H' ws z r := h.imp id fun ⟨q, P, h1, h2, _, h3⟩ => ⟨q, P, h1, h2, h3⟩
theorem tab_ans {H : Hp} {ws : List Str} {z : Str} {kvs : List (Key × V)} (t : Tab H z.length kvs (Near (Mw.Adj ws z) (z.length + 1)) (Fst (Mw.Adj ws z) (z.length + 1))) : Ans H ws z ((valV kvs (.inl (z.length : Int))).getD .non) := by
  cases e : valV kvs (.inl (z.length : Int)) with
  | none =>
    refine .inl ⟨rfl, fun h => ?_⟩
    obtain ⟨d, hd⟩ := Mz.star_dist.mp h
    have l := hd.le (n := z.length) (fun i j h => h.le.2) (Nat.zero_le _)
    have := t.fr z.length ⟨d, by omega, hd⟩
    rw [e] at this
    cases this
  | some v =>
    obtain ⟨_, q, P, h1, h2, d, _, hd, b⟩ := t.to z.length v e
    exact .inr ⟨q, P, h1, h2, b.gr hd⟩
theorem shaped_intsT (ns : List Int) : SeqAt.shaped (.tuple (ns.map PyData.int)) = true := by
  have h1 : PyData.canLay0 (.tuple (ns.map PyData.int)) = true := Rd.canLay_ints ns
  have h2 : PyData.depth (.tuple (ns.map PyData.int)) = 1 := by
    show PyData.depthAll (ns.map PyData.int) + 1 = 1
    rw [Rd.depth_ints]
  unfold SeqAt.shaped
  rw [h1, h2]
  rfl
theorem ans_data {K : PySem.W.Frag} {H : Hp} {ws : List Str} {z : Str} {v w : V} (a : Ans H ws z v) (b : Ans H ws z w) : ∃ d, Dp K H v d ∧ Dp K H w d ∧ SeqAt.shaped d = true := by
  rcases a with ⟨rfl, h⟩ | ⟨q, P, rfl, hq, g⟩
  · rcases b with ⟨rfl, _⟩ | ⟨q, P, rfl, hq, g⟩
    · exact ⟨.none, .non, .non, by decide⟩
    · exact absurd (gr_told g) h
  · rcases b with ⟨rfl, h⟩ | ⟨q', P', rfl, hq', g'⟩
    · exact absurd (gr_told g) h
    · have e := g.inj g'
      subst e
      exact ⟨_, .tup (.of hq) (Rd.dpAll_ints _), .tup (.of hq') (Rd.dpAll_ints _), shaped_intsT _⟩
theorem ansNe {K : PySem.W.Frag} {H : Hp} {ws : List Str} {z : Str} {v w : V} {Q : VK} (a : Ans H ws z v) (b : Ans H ws z w) (q : Q (.bl false) H) : rNeD K v w H Q := by
  obtain ⟨d, h1, h2, h3⟩ := ans_data (K := K) a b
  refine ⟨d, d, h1, h2, h3, h3, ?_⟩
  rw [SeqAt.eqv_refl _ (SeqAt.canLay_of_shaped h3)]
  exact q
theorem ansEq {K : PySem.W.Frag} {H : Hp} {ws : List Str} {z : Str} {v w : V} {Q : VK} (a : Ans H ws z v) (b : Ans H ws z w) (q : Q (.bl true) H) : rEqD K v w H Q := by
  obtain ⟨d, h1, h2, h3⟩ := ans_data (K := K) a b
  refine ⟨d, d, h1, h2, h3, h3, ?_⟩
  rw [SeqAt.eqv_refl _ (SeqAt.canLay_of_shaped h3)]
  exact q
theorem adj_perm {ws us : List Str} {z : Str} (h : us.Perm ws) : Mw.Adj us z = Mw.Adj ws z := by
  funext i j
  exact propext ⟨fun ⟨W, m, e⟩ => ⟨W, h.mem_iff.mp m, e⟩, fun ⟨W, m, e⟩ => ⟨W, h.mem_iff.mpr m, e⟩⟩
theorem Ans.perm {H : Hp} {ws us : List Str} {z : Str} {r : V} (h : Ans H us z r) (p : us.Perm ws) : Ans H ws z r := by
  unfold Ans Mw.Told at *
  rw [adj_perm p] at h
  exact h
theorem Watches.perm {ws us : List Str} (h : Watches ws) (p : us.Perm ws) : Watches us := ⟨p.nodup_iff.mpr h.nd, by rw [p.length_eq]; exact h.l1, fun z m => h.ok z (p.mem_iff.mp m)⟩
def sp_law (K : PySem.W.Frag) : Sp := fun vs H Q _ => ∃ (a : Addr) (ns : List Int), vs = [.ref a] ∧ SqL K H a (ns.map V.int) ∧ ns.length ≤ 63 ∧ ∀ H', Q (.bl true) H'
theorem ok_law (T : Txt K mg) : FnOk P w K mg base CX0 6 T.f_law T.fd_law ["_law_script"] (sp_law K) := by
  refine T.F_law.ok sc_law (fun vs H Q E h => ?_) (fun cdv A outer s H vs Q E hr h => ?_)
  · obtain ⟨a, ns, rfl, _⟩ := h
    rfl
  · obtain ⟨a, ns, rfl, hS, hlen, k⟩ := h
    refine ⟨_, (pss_cons (ps_set (i := 1) sc_law.nd rfl (.inl rfl) (pe_call (ok_l_tape T) (hr.mono (by decide)) rfl T.g_l_tape T.F_l_tape.kp T.b_l_tape .nil pass0 (pa_cons (pv 0) pa_nil)))
  (pss_cons (ps_set (i := 2) sc_law.nd rfl (.inl rfl) (pe_call (ok_l_word T) (hr.mono (by decide)) rfl T.g_l_word T.F_l_word.kp T.b_l_word .nil pass0 (pa_cons (pv 1) (pa_cons pe_int pa_nil))))
  (pss_cons (ps_set (i := 3) sc_law.nd rfl (.inl rfl) (pe_call (ok_l_watches T) (hr.mono (by decide)) rfl T.g_l_watches T.F_l_watches.kp T.b_l_watches .nil pass0 (pa_cons (pv 1) (pa_cons (pv 2) (pa_cons (pe_call (ok_l_pick T) (hr.mono (by decide)) rfl T.g_l_pick T.F_l_pick.kp T.b_l_pick .nil pass0 (pa_cons (pv 1) (pa_cons pe_int pa_nil))) (pa_cons pe_int pa_nil))))))
  (pss_cons (ps_set (i := 4) sc_law.nd rfl (.inl rfl) (pe_call (ok_l_leasts T) (hr.mono (by decide)) rfl T.g_l_leasts T.F_l_leasts.kp T.b_l_leasts .nil pass0 (pa_cons (pv 3) (pa_cons (pv 2) pa_nil))))
  (pss_cons (ps_set (i := 5) sc_law.nd rfl (.inl rfl) (pe_dget1 (hu_of hr) (pv 4) (pe_callB (id := "len") (r := _) Rd.c_lenS (by rfl) T.n_len (by decide +kernel) (pa_cons (pv 2) pa_nil)) ⟨rfl, rfl, rfl, rfl⟩))
  (pss_cons (ps_set (i := 6) sc_law.nd rfl (.inl rfl) (pe_call (ok_zigzag T) (hr.mono (by decide)) rfl T.g_zigzag T.F_zigzag.kp T.b_zigzag .nil pass0 (pa_cons (pe_make T.M_Book (ok_Book_init T) (hr.mono (by decide)) rfl T.c_Book T.b_Book_init .nil pass0 (pa_cons (pv 3) pa_nil)) (pa_cons (pv 2) pa_nil))))
  (pss_cons (ps_if (PW.pt (pw_or (pt_cmpR (r := rNeD K) (op_neD hr.units) (pv 6) (pv 5) (nomark _)) (pw_or1 (PW.pt (pw_and (pt_cmpR op_notN (pv 5) pe_non (nomark _)) (pw_and1 (pt_not (pt_val (pe_callB (id := "isinstance") (r := rIsi K) call_isi (by rfl) T.n_isinstance (by decide +kernel) (pa_cons (pv 6) (pa_cons (pe_bltn (v := .ty "tuple") (u := .type "tuple") (by rfl) T.n_tuple (by decide +kernel) rfl) pa_nil)))))))))))
  (pss_one (ps_ret pe_bl))
  pss_nil)
  (C8.pss_cut (ps_for PassesOwn.never rfl (pi_tup (pe_orT (pv 6) (pe_one (pe_tup pa_nil)))) (pg_name (i := 7) sc_law.nd rfl (.inl rfl))
  (pss_one (ps_if (pt_val (pe_callB (id := "isinstance") (r := rIsi K) call_isi (by rfl) T.n_isinstance (by decide +kernel) (pa_cons (pv 7) (pa_cons (pe_bltn (v := .ty "bool") (u := .type "bool") (by rfl) T.n_bool (by decide +kernel) rfl) pa_nil))))
  (pss_one (ps_ret pe_bl))
  pss_nil)))
  (pss_cons (ps_set (i := 8) sc_law.nd rfl (.inl rfl) (pe_slice sl_str (pv 2) po_none (po_some (pe_op op_add pe_int (pe_call (ok_l_pick T) (hr.mono (by decide)) rfl T.g_l_pick T.F_l_pick.kp T.b_l_pick .nil pass0 (pa_cons (pv 1) (pa_cons (pe_callB (id := "len") (r := _) Rd.c_lenS (by rfl) T.n_len (by decide +kernel) (pa_cons (pv 2) pa_nil)) pa_nil)))))))
  (pss_cons (ps_if (pt_cmpR (r := rNeD K) (op_neD hr.units) (pe_call (ok_zigzag T) (hr.mono (by decide)) rfl T.g_zigzag T.F_zigzag.kp T.b_zigzag .nil pass0 (pa_cons (pe_make T.M_Book (ok_Book_init T) (hr.mono (by decide)) rfl T.c_Book T.b_Book_init .nil pass0 (pa_cons (pe_call (ok_l_mixed T) (hr.mono (by decide)) rfl T.g_l_mixed T.F_l_mixed.kp T.b_l_mixed .nil pass0 (pa_cons (pv 1) (pa_cons (pv 3) pa_nil))) pa_nil)) (pa_cons (pv 8) pa_nil))) (pe_dget1 (hu_of hr) (pe_call (ok_l_leasts T) (hr.mono (by decide)) rfl T.g_l_leasts T.F_l_leasts.kp T.b_l_leasts .nil pass0 (pa_cons (pv 3) (pa_cons (pv 8) pa_nil))) (pe_callB (id := "len") (r := _) Rd.c_lenS (by rfl) T.n_len (by decide +kernel) (pa_cons (pv 8) pa_nil)) ⟨rfl, rfl, rfl, rfl⟩) (nomark _))
  (pss_one (ps_ret pe_bl))
  pss_nil)
  (pss_one (ps_ret (pe_cmpR (r := rEqD K) (op_eqD hr.units) (pe_call (ok_zigzag T) (hr.mono (by decide)) rfl T.g_zigzag T.F_zigzag.kp T.b_zigzag .nil pass0 (pa_cons (pe_make T.M_Book (ok_Book_init T) (hr.mono (by decide)) rfl T.c_Book T.b_Book_init .nil pass0 (pa_cons (pe_call (ok_l_mixed T) (hr.mono (by decide)) rfl T.g_l_mixed T.F_l_mixed.kp T.b_l_mixed .nil pass0 (pa_cons (pv 1) (pa_cons (pv 3) pa_nil))) pa_nil)) (pa_cons (pv 2) pa_nil))) (pv 5) (nomark _)))))))))))))), ?_⟩
    walk_at "rd"
    refine ⟨a, ns, rfl, hS, fun t c H1 tp1 s1 _ _ => ?_⟩
    walk_at "rd"
    refine ⟨t, c, 40, rfl, tp1, by decide, by decide, fun z H2 hz tp2 b2 => ?_⟩
    have zl : z.length ≤ sizeLine := hz.line (by decide)
    have z0 := hz.l0
    have z1 := hz.l1
    walk_at "rd"
    refine pickR tp2 (by decide) (by decide) fun many H3 m0 m1 tp3 b3 => ?_
    walk_at "rd"
    refine ⟨t, c, z, many, 12, rfl, tp3, hz.mono (by decide), m0, by omega, by decide, by decide, fun l ws H4 tp4 b4 nl gl nd wl hw => ?_⟩
    have ⟨lt, lc⟩ := tp3.new nl
    have Wt : Watches ws := ⟨nd, by omega, hw⟩
    have w1 : ∀ W ∈ ws, 1 ≤ W.length := fun W m => (hw W m).l0
    walk_at "rd"
    refine ⟨l, ws, z, rfl, .of gl, w1, by omega, fun d kvs H5 s5 nd5 gd5 tab => ?_⟩
    walk_at "rd"
    refine ⟨.inl ⟨_, .inl gd5⟩, ?_⟩
    walk_at "rd"
    refine Rd.lenStr zl ?_
    walk_at "rd"
    refine Rd.dgetO gd5 ?_
    have ans5 := tab_ans tab
    generalize (valV kvs (.inl (z.length : Int))).getD .non = due at ans5
    have gl5 := s5 _ _ gl
    walk_at "rd"
    refine Rd.mk fun x dx G2 nx ndx ne gx s2 off2 => ?_
    refine ⟨x, l, ws, rfl, ⟨dx, gx⟩, .inl (.of (s2 _ _ gl5)), Wt, fun G3 hB b3 => ⟨rfl, ?_⟩⟩
    have s53 : Same H5 G3 := fun c o e => b3 c o (ne_of_none e nx) (s2 _ _ e)
    walk_at "rd"
    refine ⟨x, ws, z, rfl, hB, Wt, hz, fun told G4 s4 zg => ?_⟩
    have s54 := s53.trans s4
    have ansT : Ans G4 ws z told := zg.ans
    have ansD := ans5.same s54
    have tp5 := (tp4.same s5).same s54
    have gl6 := s54 _ _ gl5
    walk_at "rd"
    refine ansNe ansT ansD ?_
    walk_at "rd"
    refine ⟨rfl, ?_⟩
    walk_at "rd"
    -- what is left, behind the first test
    refine (fun (go : _) => ite2 (fun _ => go) (fun c => ?_)) ?_
    · walk_at "rd"
      obtain ⟨q, P, rfl, hq, g⟩ : ∃ q P, told = .ref q ∧ G4 q = some (.tup (natV P)) ∧ Mz.Gr (Mw.Adj ws z) z.length 0 P := by
        rcases ansT with ⟨_, h⟩ | h
        · rcases ansD with ⟨h2, _⟩ | ⟨_, _, _, _, g⟩
          · exact absurd h2 c
          · exact absurd (gr_told g) h
        · exact h
      refine Rd.isi (Ru.ty_T (.of hq)) (by decide +kernel : kitB "tuple" "tuple" = some true) ?_
      walk_at "rd"
      exact go
    · walk_at "rd"
      refine Rd.cut (fun σ H' => ∃ o7 : Option V, σ = [some (.ref a), some (.ref t), some (.str z), some (.ref l), some (.ref d), some due, some told, o7, none] ∧ Same G4 H') ?_ ?_
      · rcases ansT with ⟨rfl, _⟩ | ⟨q, P, rfl, hq, g⟩
        · refine Rd.forS ?_
          walk_at "rd"
          refine orTH ?_
          walk_at "rd"
          refine ⟨false, rfl, ?_⟩
          walk_at "rd"
          refine ⟨Nat.zero_le _, Rd.new fun e G5 ne ge s5 => ?_⟩
          walk_at "rd"
          refine ⟨⟨_, .of ge⟩, for_tup (K := K) (a := e) (xs := []) (fun i σ H' => σ = [some (.ref a), some (.ref t), some (.str z), some (.ref l), some (.ref d), some due, some .non, none, none] ∧ Same G5 H') ⟨rfl, Same.refl _⟩ (fun i σ H' _ h => .of (h.2 _ _ ge)) (fun i x σ H' h _ => by cases h) ?_⟩
          rintro _ H6 ⟨rfl, s6⟩
          walk_at "rd"
          exact ⟨_, rfl, s5.trans s6⟩
        · refine Rd.forS ?_
          walk_at "rd"
          refine orTH ?_
          walk_at "rd"
          refine ⟨true, .inr (.inl ⟨natV P, .of hq, by rw [gr_ne g]; rfl⟩), ?_⟩
          walk_at "rd"
          refine ⟨⟨_, .of hq⟩, for_tup (K := K) (a := q) (xs := natV P) (fun i σ H' => ∃ o7 : Option V, σ = [some (.ref a), some (.ref t), some (.str z), some (.ref l), some (.ref d), some due, some (.ref q), o7, none] ∧ Same G4 H') ⟨_, rfl, Same.refl _⟩ (fun i σ H' _ ⟨_, _, h⟩ => .of (h _ _ hq)) ?_ ?_⟩
          · rintro i x _ H6 hx ⟨o7, rfl, s6⟩
            obtain ⟨n, _, rfl⟩ := Rd.map_get hx
            walk_at "rd"
            refine Rd.isiIB ?_
            walk_at "rd"
            exact ⟨_, rfl, s6⟩
          · rintro _ H6 ⟨o7, rfl, s6⟩
            walk_at "rd"
            exact ⟨_, rfl, s6⟩
      · clear ansT
        rintro _ G5 ⟨o7, rfl, s5⟩
        have ansD5 := ansD.same s5
        have tp6 := tp5.same (s4.trans s5 |> fun _ => s5)
        have gl7 := s5 _ _ gl6
        walk_at "rd"
        refine Rd.lenStr zl ?_
        walk_at "rd"
        refine pickR tp6 (by omega) (by omega) fun r H7 r0 r1 tp7 b7 => ?_
        have gl8 := b7 l _ lt gl7
        have ansD7 := ansD5.but tp6 b7
        walk_at "rd"
        refine Rd.slS zl ?_
        walk_at "rd"
        have e := Lt.cut_to (z := z) (b := 1 + r) (by omega)
        have hz2 : Lt.Wd 40 (cutS z none (some (1 + r))) := ⟨hz.ok.cut _ _, by omega, by omega⟩
        generalize cutS z none (some (1 + r)) = y at hz2
        have y1 := hz2.l1
        have yl : y.length ≤ sizeLine := hz2.line (by decide)
        have l12 := Wt.l1
        refine ⟨t, c, l, ws, rfl, tp7, lt, .of gl8, by omega, fun m us H8 tp8 b8 nm gm pm => ?_⟩
        have gl9 := b8 l _ lt gl8
        have ansD8 := ansD7.but tp7 b8
        walk_at "rd"
        refine Rd.mk fun x2 dx2 G9 nx2 nd2 ne2 gx2 s9 off9 => ?_
        refine ⟨x2, m, us, rfl, ⟨dx2, gx2⟩, .inl (.of (s9 _ _ gm)), Wt.perm pm, fun G10 hB2 b10 => ⟨rfl, ?_⟩⟩
        have s810 : Same H8 G10 := fun c o e => b10 c o (ne_of_none e nx2) (s9 _ _ e)
        walk_at "rd"
        refine ⟨x2, us, y, rfl, hB2, Wt.perm pm, hz2, fun told2 G11 s11 zg2 => ?_⟩
        have ans2 := zg2.ans.perm pm
        have s811 := s810.trans s11
        walk_at "rd"
        refine ⟨l, ws, y, rfl, .of (s811 _ _ gl9), w1, by omega, fun d2 kvs2 G12 s12 nd2 gd2 tab2 => ?_⟩
        walk_at "rd"
        refine ⟨.inl ⟨_, .inl gd2⟩, ?_⟩
        walk_at "rd"
        refine Rd.lenStr yl ?_
        walk_at "rd"
        refine Rd.dgetO gd2 ?_
        refine ansNe (ans2.same s12) (tab_ans tab2) ?_
        walk_at "rd"
        have s812 := s811.trans s12
        have gl12 := s812 _ _ gl9
        have tp12 := tp8.same s812
        have ansD12 := ansD8.same s812
        refine ⟨t, c, l, ws, rfl, tp12, lt, .of gl12, by omega, fun m2 us2 H13 tp13 b13 nm2 gm2 pm2 => ?_⟩
        have ansD13 := ansD12.but tp12 b13
        walk_at "rd"
        refine Rd.mk fun x3 dx3 G14 nx3 nd3 ne3 gx3 s14 off14 => ?_
        refine ⟨x3, m2, us2, rfl, ⟨dx3, gx3⟩, .inl (.of (s14 _ _ gm2)), Wt.perm pm2, fun G15 hB3 b15 => ⟨rfl, ?_⟩⟩
        have s1315 : Same H13 G15 := fun c o e => b15 c o (ne_of_none e nx3) (s14 _ _ e)
        walk_at "rd"
        refine ⟨x3, us2, z, rfl, hB3, Wt.perm pm2, hz, fun told3 G16 s16 zg3 => ?_⟩
        walk_at "rd"
        exact ansEq (zg3.ans.perm pm2) ((ansD13.same s1315).same s16) (k _)

end
end W

namespace W
open PySem PySem.Spec PyProof.Rows L2
theorem all_mk {l : PySem.W.OpenLaw} {w : World} {K : PySem.W.Frag} {h : Heap} {mg : Str → Option Value} {fa : Addr} (X : K.In h) (G : h.Ns mainGlobals mg) (hfa : mg "law" = some (.ref fa))
    {f1 f2 f3 f4 f5 f6 f7 f8 f9 f10 f11 f12 f13 f14 f15 f16 f17 f18 f19 f20 C0 : Addr} {od1 an1 od2 an2 od3 an3 od4 an4 od5 an5 od6 an6 od7 an7 od8 an8 od9 an9 od10 an10 od11 an11 od12 an12 od13 an13 od14 an14 od15 an15 od16 an16 od17 an17 od18 an18 od19 an19 od20 an20 : Option Addr} {sl1 sl2 sl3 sl4 sl5 sl6 sl7 sl8 sl9 sl10 sl11 sl12 sl13 sl14 sl15 sl16 sl17 sl18 sl19 sl20 : Array (Option Value)} {oc1 kV1 dc1 pm1 cd1 ct1 oc2 kV2 dc2 pm2 cd2 ct2 oc3 kV3 dc3 pm3 cd3 ct3 oc4 kV4 dc4 pm4 cd4 ct4 oc5 kV5 dc5 pm5 cd5 ct5 oc6 kV6 dc6 pm6 cd6 ct6 oc7 kV7 dc7 pm7 cd7 ct7 oc8 kV8 dc8 pm8 cd8 ct8 oc9 kV9 dc9 pm9 cd9 ct9 oc10 kV10 dc10 pm10 cd10 ct10 oc11 kV11 dc11 pm11 cd11 ct11 oc12 kV12 dc12 pm12 cd12 ct12 oc13 kV13 dc13 pm13 cd13 ct13 oc14 kV14 dc14 pm14 cd14 ct14 oc15 kV15 dc15 pm15 cd15 ct15 oc16 kV16 dc16 pm16 cd16 ct16 oc17 kV17 dc17 pm17 cd17 ct17 oc18 kV18 dc18 pm18 cd18 ct18 oc19 kV19 dc19 pm19 cd19 ct19 oc20 kV20 dc20 pm20 cd20 ct20 : Value}
    (u0 : PySem.W.nsIn K mainGlobals "Book" = some (some (.ref C0)))
    (pg0 : PySem.W.plainGet K C0 Str.empty = true) (hd0 : PySem.W.hasDictIn K C0 = true) (po0 : PySem.W.plainOver K C0 = true) (sa0 : PySem.W.findIn K (.ref C0) "__setattr__" = some (some (.builtin "object.__setattr__")))
    (wc0 : PySem.W.findIn K (.ref C0) "__class__" = some (some (.builtin "object.__class__"))) (wm0 : PySem.W.mroIn K C0 (.type "object") = some true)
    (wn0 : PySem.W.specialIn K (.builtin "object.__class__") "__get__" = some (some (.builtin "getset_descriptor.__get__"))) (wt0 : PySem.W.takesIn K (.builtin "object.__class__") = some true)
    (na0_0 : PySem.W.findIn K (.ref C0) "watches" = some none)
    (a1 : PySem.W.nsIn K mainGlobals "is_letters" = some (some (.ref f1)))
    (l1 : K.lookup f1 = some ⟨oc1, od1, .func (PySem.W.fnOf "is_letters" "is_letters" (defArgs s_is_letters) (defBody s_is_letters) (defScope s_is_letters) .none kV1 dc1 pm1 an1 cd1 ct1), sl1⟩) (c1 : PySem.W.codeIn K cd1 "is_letters" = true) (k1 : PySem.W.keepIn K (.ref f1) = true)
    (a2 : PySem.W.nsIn K mainGlobals "is_word" = some (some (.ref f2)))
    (l2 : K.lookup f2 = some ⟨oc2, od2, .func (PySem.W.fnOf "is_word" "is_word" (defArgs s_is_word) (defBody s_is_word) (defScope s_is_word) .none kV2 dc2 pm2 an2 cd2 ct2), sl2⟩) (c2 : PySem.W.codeIn K cd2 "is_word" = true) (k2 : PySem.W.keepIn K (.ref f2) = true)
    (a3 : PySem.W.nsIn K mainGlobals "is_watch" = some (some (.ref f3)))
    (l3 : K.lookup f3 = some ⟨oc3, od3, .func (PySem.W.fnOf "is_watch" "is_watch" (defArgs s_is_watch) (defBody s_is_watch) (defScope s_is_watch) .none kV3 dc3 pm3 an3 cd3 ct3), sl3⟩) (c3 : PySem.W.codeIn K cd3 "is_watch" = true) (k3 : PySem.W.keepIn K (.ref f3) = true)
    (a4 : PySem.W.nsIn K mainGlobals "check_word" = some (some (.ref f4)))
    (l4 : K.lookup f4 = some ⟨oc4, od4, .func (PySem.W.fnOf "check_word" "check_word" (defArgs s_check_word) (defBody s_check_word) (defScope s_check_word) .none kV4 dc4 pm4 an4 cd4 ct4), sl4⟩) (c4 : PySem.W.codeIn K cd4 "check_word" = true) (k4 : PySem.W.keepIn K (.ref f4) = true)
    (a5 : PySem.W.findIn K (.ref C0) "__init__" = some (some (.ref f5))) (i5 : PySem.W.isFn K (.ref f5) = true)
    (mk0 : PySem.W.makesIn K C0 = true) (kc0 : PySem.W.keepIn K (.ref C0) = true)
    (l5 : K.lookup f5 = some ⟨oc5, od5, .func (PySem.W.fnOf "__init__" "Book.__init__" (defArgs s_Book_init) (defBody s_Book_init) (defScope s_Book_init) .none kV5 dc5 pm5 an5 cd5 ct5), sl5⟩) (c5 : PySem.W.codeIn K cd5 "Book.__init__" = true) (k5 : PySem.W.keepIn K (.ref f5) = true)
    (a6 : PySem.W.nsIn K mainGlobals "check_book" = some (some (.ref f6)))
    (l6 : K.lookup f6 = some ⟨oc6, od6, .func (PySem.W.fnOf "check_book" "check_book" (defArgs s_check_book) (defBody s_check_book) (defScope s_check_book) .none kV6 dc6 pm6 an6 cd6 ct6), sl6⟩) (c6 : PySem.W.codeIn K cd6 "check_book" = true) (k6 : PySem.W.keepIn K (.ref f6) = true)
    (a7 : PySem.W.nsIn K mainGlobals "links_of" = some (some (.ref f7)))
    (l7 : K.lookup f7 = some ⟨oc7, od7, .func (PySem.W.fnOf "links_of" "links_of" (defArgs s_links_of) (defBody s_links_of) (defScope s_links_of) .none kV7 dc7 pm7 an7 cd7 ct7), sl7⟩) (c7 : PySem.W.codeIn K cd7 "links_of" = true) (k7 : PySem.W.keepIn K (.ref f7) = true)
    (a8 : PySem.W.nsIn K mainGlobals "distances" = some (some (.ref f8)))
    (l8 : K.lookup f8 = some ⟨oc8, od8, .func (PySem.W.fnOf "distances" "distances" (defArgs s_distances) (defBody s_distances) (defScope s_distances) .none kV8 dc8 pm8 an8 cd8 ct8), sl8⟩) (c8 : PySem.W.codeIn K cd8 "distances" = true) (k8 : PySem.W.keepIn K (.ref f8) = true)
    (a9 : PySem.W.nsIn K mainGlobals "shortest" = some (some (.ref f9)))
    (l9 : K.lookup f9 = some ⟨oc9, od9, .func (PySem.W.fnOf "shortest" "shortest" (defArgs s_shortest) (defBody s_shortest) (defScope s_shortest) .none kV9 dc9 pm9 an9 cd9 ct9), sl9⟩) (c9 : PySem.W.codeIn K cd9 "shortest" = true) (k9 : PySem.W.keepIn K (.ref f9) = true)
    (a10 : PySem.W.nsIn K mainGlobals "zigzag" = some (some (.ref f10)))
    (l10 : K.lookup f10 = some ⟨oc10, od10, .func (PySem.W.fnOf "zigzag" "zigzag" (defArgs s_zigzag) (defBody s_zigzag) (defScope s_zigzag) .none kV10 dc10 pm10 an10 cd10 ct10), sl10⟩) (c10 : PySem.W.codeIn K cd10 "zigzag" = true) (k10 : PySem.W.keepIn K (.ref f10) = true)
    (a11 : PySem.W.nsIn K mainGlobals "_law_tape" = some (some (.ref f11)))
    (l11 : K.lookup f11 = some ⟨oc11, od11, .func (PySem.W.fnOf "_law_tape" "_law_tape" (defArgs s_l_tape) (defBody s_l_tape) (defScope s_l_tape) .none kV11 dc11 pm11 an11 cd11 ct11), sl11⟩) (c11 : PySem.W.codeIn K cd11 "_law_tape" = true) (k11 : PySem.W.keepIn K (.ref f11) = true)
    (a12 : PySem.W.nsIn K mainGlobals "_law_pick" = some (some (.ref f12)))
    (l12 : K.lookup f12 = some ⟨oc12, od12, .func (PySem.W.fnOf "_law_pick" "_law_pick" (defArgs s_l_pick) (defBody s_l_pick) (defScope s_l_pick) .none kV12 dc12 pm12 an12 cd12 ct12), sl12⟩) (c12 : PySem.W.codeIn K cd12 "_law_pick" = true) (k12 : PySem.W.keepIn K (.ref f12) = true)
    (a13 : PySem.W.nsIn K mainGlobals "_law_letters" = some (some (.ref f13)))
    (l13 : K.lookup f13 = some ⟨oc13, od13, .func (PySem.W.fnOf "_law_letters" "_law_letters" (defArgs s_l_letters) (defBody s_l_letters) (defScope s_l_letters) .none kV13 dc13 pm13 an13 cd13 ct13), sl13⟩) (c13 : PySem.W.codeIn K cd13 "_law_letters" = true) (k13 : PySem.W.keepIn K (.ref f13) = true)
    (a14 : PySem.W.nsIn K mainGlobals "_law_word" = some (some (.ref f14)))
    (l14 : K.lookup f14 = some ⟨oc14, od14, .func (PySem.W.fnOf "_law_word" "_law_word" (defArgs s_l_word) (defBody s_l_word) (defScope s_l_word) .none kV14 dc14 pm14 an14 cd14 ct14), sl14⟩) (c14 : PySem.W.codeIn K cd14 "_law_word" = true) (k14 : PySem.W.keepIn K (.ref f14) = true)
    (a15 : PySem.W.nsIn K mainGlobals "_law_watch" = some (some (.ref f15)))
    (l15 : K.lookup f15 = some ⟨oc15, od15, .func (PySem.W.fnOf "_law_watch" "_law_watch" (defArgs s_l_watch) (defBody s_l_watch) (defScope s_l_watch) .none kV15 dc15 pm15 an15 cd15 ct15), sl15⟩) (c15 : PySem.W.codeIn K cd15 "_law_watch" = true) (k15 : PySem.W.keepIn K (.ref f15) = true)
    (a16 : PySem.W.nsIn K mainGlobals "_law_watches" = some (some (.ref f16)))
    (l16 : K.lookup f16 = some ⟨oc16, od16, .func (PySem.W.fnOf "_law_watches" "_law_watches" (defArgs s_l_watches) (defBody s_l_watches) (defScope s_l_watches) .none kV16 dc16 pm16 an16 cd16 ct16), sl16⟩) (c16 : PySem.W.codeIn K cd16 "_law_watches" = true) (k16 : PySem.W.keepIn K (.ref f16) = true)
    (a17 : PySem.W.nsIn K mainGlobals "_law_near" = some (some (.ref f17)))
    (l17 : K.lookup f17 = some ⟨oc17, od17, .func (PySem.W.fnOf "_law_near" "_law_near" (defArgs s_l_near) (defBody s_l_near) (defScope s_l_near) .none kV17 dc17 pm17 an17 cd17 ct17), sl17⟩) (c17 : PySem.W.codeIn K cd17 "_law_near" = true) (k17 : PySem.W.keepIn K (.ref f17) = true)
    (a18 : PySem.W.nsIn K mainGlobals "_law_mixed" = some (some (.ref f18)))
    (l18 : K.lookup f18 = some ⟨oc18, od18, .func (PySem.W.fnOf "_law_mixed" "_law_mixed" (defArgs s_l_mixed) (defBody s_l_mixed) (defScope s_l_mixed) .none kV18 dc18 pm18 an18 cd18 ct18), sl18⟩) (c18 : PySem.W.codeIn K cd18 "_law_mixed" = true) (k18 : PySem.W.keepIn K (.ref f18) = true)
    (a19 : PySem.W.nsIn K mainGlobals "_law_leasts" = some (some (.ref f19)))
    (l19 : K.lookup f19 = some ⟨oc19, od19, .func (PySem.W.fnOf "_law_leasts" "_law_leasts" (defArgs s_l_leasts) (defBody s_l_leasts) (defScope s_l_leasts) .none kV19 dc19 pm19 an19 cd19 ct19), sl19⟩) (c19 : PySem.W.codeIn K cd19 "_law_leasts" = true) (k19 : PySem.W.keepIn K (.ref f19) = true)
    (a20 : PySem.W.nsIn K mainGlobals "law" = some (some (.ref f20)))
    (l20 : K.lookup f20 = some ⟨oc20, od20, .func (PySem.W.fnOf "law" "law" (defArgs s_law) (defBody s_law) (defScope s_law) .none kV20 dc20 pm20 an20 cd20 ct20), sl20⟩) (c20 : PySem.W.codeIn K cd20 "law" = true) (k20 : PySem.W.keepIn K (.ref f20) = true)
    (z0 : PySem.W.nsIn K mainGlobals "isinstance" = some none)
    (z1 : PySem.W.nsIn K mainGlobals "all" = some none)
    (z2 : PySem.W.nsIn K mainGlobals "str" = some none)
    (z3 : PySem.W.nsIn K mainGlobals "len" = some none)
    (z4 : PySem.W.nsIn K mainGlobals "list" = some none)
    (z5 : PySem.W.nsIn K mainGlobals "tuple" = some none)
    (z6 : PySem.W.nsIn K mainGlobals "enumerate" = some none)
    (z7 : PySem.W.nsIn K mainGlobals "range" = some none)
    (z8 : PySem.W.nsIn K mainGlobals "sorted" = some none)
    (z9 : PySem.W.nsIn K mainGlobals "bool" = some none)
    (z10 : PySem.W.nsIn K mainGlobals "int" = some none)
    (z11 : PySem.W.nsIn K mainGlobals "min" = some none)
    (z12 : PySem.W.nsIn K mainGlobals "max" = some none)
    {t0 : Tok} (y0 : PySem.W.nsIn K mainGlobals "LETTERS" = some (some (.str "abcdefghijklmnopqrstuvwxyz" t0)))
    {t1 : Tok} (y1 : PySem.W.nsIn K mainGlobals "MOST_WORD" = some (some (.int 40 t1)))
    {t2 : Tok} (y2 : PySem.W.nsIn K mainGlobals "MOST_WATCH" = some (some (.int 12 t2)))
    {t3 : Tok} (y3 : PySem.W.nsIn K mainGlobals "MOST_WATCHES" = some (some (.int 12 t3)))
    : ∃ fd : FuncData, (∀ (s : Shared) (v : Value), BindsTo s fd ⟨[v], []⟩ [("_law_script", v)]) ∧ ∀ base : Heap, K.In base → base.Ns mainGlobals mg → FnOk l.prog w K mg base CX0 6 fa fd ["_law_script"] (sp_law K) := by
  have e := hfa.symm.trans (PySem.W.mg_of X G a20)
  cases e
  have F1 := fun_mk (st := s_is_letters) l1 c1 k1
  have F2 := fun_mk (st := s_is_word) l2 c2 k2
  have F3 := fun_mk (st := s_is_watch) l3 c3 k3
  have F4 := fun_mk (st := s_check_word) l4 c4 k4
  have F5 := fun_mk (st := s_Book_init) l5 c5 k5
  have F6 := fun_mk (st := s_check_book) l6 c6 k6
  have F7 := fun_mk (st := s_links_of) l7 c7 k7
  have F8 := fun_mk (st := s_distances) l8 c8 k8
  have F9 := fun_mk (st := s_shortest) l9 c9 k9
  have F10 := fun_mk (st := s_zigzag) l10 c10 k10
  have F11 := fun_mk (st := s_l_tape) l11 c11 k11
  have F12 := fun_mk (st := s_l_pick) l12 c12 k12
  have F13 := fun_mk (st := s_l_letters) l13 c13 k13
  have F14 := fun_mk (st := s_l_word) l14 c14 k14
  have F15 := fun_mk (st := s_l_watch) l15 c15 k15
  have F16 := fun_mk (st := s_l_watches) l16 c16 k16
  have F17 := fun_mk (st := s_l_near) l17 c17 k17
  have F18 := fun_mk (st := s_l_mixed) l18 c18 k18
  have F19 := fun_mk (st := s_l_leasts) l19 c19 k19
  have F20 := fun_mk (st := s_law) l20 c20 k20
  let T : Txt K mg := {
    C_Book := C0, c_Book := PySem.W.mg_of X G u0,
    cl_Book := ⟨pg0, hd0, po0, sa0⟩, ty_Book := ⟨wc0, wn0, wt0, wm0, kit_self⟩,
    na_Book_watches := na0_0,
    f_is_letters := f1, fd_is_letters := _, F_is_letters := F1, g_is_letters := PySem.W.mg_of X G a1, b_is_letters := F1.binds (ps := ["value"]) fun _ _ _ _ _ _ us hl => match us, hl with | [_], _ => rfl,
    f_is_word := f2, fd_is_word := _, F_is_word := F2, g_is_word := PySem.W.mg_of X G a2, b_is_word := F2.binds (ps := ["thing"]) fun _ _ _ _ _ _ us hl => match us, hl with | [_], _ => rfl,
    f_is_watch := f3, fd_is_watch := _, F_is_watch := F3, g_is_watch := PySem.W.mg_of X G a3, b_is_watch := F3.binds (ps := ["thing"]) fun _ _ _ _ _ _ us hl => match us, hl with | [_], _ => rfl,
    f_check_word := f4, fd_check_word := _, F_check_word := F4, g_check_word := PySem.W.mg_of X G a4, b_check_word := F4.binds (ps := ["word"]) fun _ _ _ _ _ _ us hl => match us, hl with | [_], _ => rfl,
    f_Book_init := f5, fd_Book_init := _, F_Book_init := F5, M_Book := ⟨mk0, a5, i5, kc0⟩, b_Book_init := F5.binds (ps := ["self", "watches"]) fun _ _ _ _ _ _ us hl => match us, hl with | [_, _], _ => rfl,
    f_check_book := f6, fd_check_book := _, F_check_book := F6, g_check_book := PySem.W.mg_of X G a6, b_check_book := F6.binds (ps := ["book"]) fun _ _ _ _ _ _ us hl => match us, hl with | [_], _ => rfl,
    f_links_of := f7, fd_links_of := _, F_links_of := F7, g_links_of := PySem.W.mg_of X G a7, b_links_of := F7.binds (ps := ["watches", "word"]) fun _ _ _ _ _ _ us hl => match us, hl with | [_, _], _ => rfl,
    f_distances := f8, fd_distances := _, F_distances := F8, g_distances := PySem.W.mg_of X G a8, b_distances := F8.binds (ps := ["links"]) fun _ _ _ _ _ _ us hl => match us, hl with | [_], _ => rfl,
    f_shortest := f9, fd_shortest := _, F_shortest := F9, g_shortest := PySem.W.mg_of X G a9, b_shortest := F9.binds (ps := ["watches", "word"]) fun _ _ _ _ _ _ us hl => match us, hl with | [_, _], _ => rfl,
    f_zigzag := f10, fd_zigzag := _, F_zigzag := F10, g_zigzag := PySem.W.mg_of X G a10, b_zigzag := F10.binds (ps := ["book", "word"]) fun _ _ _ _ _ _ us hl => match us, hl with | [_, _], _ => rfl,
    f_l_tape := f11, fd_l_tape := _, F_l_tape := F11, g_l_tape := PySem.W.mg_of X G a11, b_l_tape := F11.binds (ps := ["_law_script"]) fun _ _ _ _ _ _ us hl => match us, hl with | [_], _ => rfl,
    f_l_pick := f12, fd_l_pick := _, F_l_pick := F12, g_l_pick := PySem.W.mg_of X G a12, b_l_pick := F12.binds (ps := ["_law_tape_here", "_law_size"]) fun _ _ _ _ _ _ us hl => match us, hl with | [_, _], _ => rfl,
    f_l_letters := f13, fd_l_letters := _, F_l_letters := F13, g_l_letters := PySem.W.mg_of X G a13, b_l_letters := F13.binds (ps := ["_law_tape_here", "_law_many"]) fun _ _ _ _ _ _ us hl => match us, hl with | [_, _], _ => rfl,
    f_l_word := f14, fd_l_word := _, F_l_word := F14, g_l_word := PySem.W.mg_of X G a14, b_l_word := F14.binds (ps := ["_law_tape_here", "_law_most"]) fun _ _ _ _ _ _ us hl => match us, hl with | [_, _], _ => rfl,
    f_l_watch := f15, fd_l_watch := _, F_l_watch := F15, g_l_watch := PySem.W.mg_of X G a15, b_l_watch := F15.binds (ps := ["_law_tape_here", "_law_word_here", "_law_most"]) fun _ _ _ _ _ _ us hl => match us, hl with | [_, _, _], _ => rfl,
    f_l_watches := f16, fd_l_watches := _, F_l_watches := F16, g_l_watches := PySem.W.mg_of X G a16, b_l_watches := F16.binds (ps := ["_law_tape_here", "_law_word_here", "_law_many", "_law_most"]) fun _ _ _ _ _ _ us hl => match us, hl with | [_, _, _, _], _ => rfl,
    f_l_near := f17, fd_l_near := _, F_l_near := F17, g_l_near := PySem.W.mg_of X G a17, b_l_near := F17.binds (ps := ["_law_watches_here", "_law_word_here", "_law_spot"]) fun _ _ _ _ _ _ us hl => match us, hl with | [_, _, _], _ => rfl,
    f_l_mixed := f18, fd_l_mixed := _, F_l_mixed := F18, g_l_mixed := PySem.W.mg_of X G a18, b_l_mixed := F18.binds (ps := ["_law_tape_here", "_law_things"]) fun _ _ _ _ _ _ us hl => match us, hl with | [_, _], _ => rfl,
    f_l_leasts := f19, fd_l_leasts := _, F_l_leasts := F19, g_l_leasts := PySem.W.mg_of X G a19, b_l_leasts := F19.binds (ps := ["_law_watches_here", "_law_word_here"]) fun _ _ _ _ _ _ us hl => match us, hl with | [_, _], _ => rfl,
    f_law := fa, fd_law := _, F_law := F20, g_law := PySem.W.mg_of X G a20, b_law := F20.binds (ps := ["_law_script"]) fun _ _ _ _ _ _ us hl => match us, hl with | [_], _ => rfl,
    n_isinstance := PySem.W.mg_none_of X G z0,
    n_all := PySem.W.mg_none_of X G z1,
    n_str := PySem.W.mg_none_of X G z2,
    n_len := PySem.W.mg_none_of X G z3,
    n_list := PySem.W.mg_none_of X G z4,
    n_tuple := PySem.W.mg_none_of X G z5,
    n_enumerate := PySem.W.mg_none_of X G z6,
    n_range := PySem.W.mg_none_of X G z7,
    n_sorted := PySem.W.mg_none_of X G z8,
    n_bool := PySem.W.mg_none_of X G z9,
    n_int := PySem.W.mg_none_of X G z10,
    n_min := PySem.W.mg_none_of X G z11,
    n_max := PySem.W.mg_none_of X G z12,
    t_LETTERS := t0, m_LETTERS := PySem.W.mg_of X G y0,
    t_MOST_WORD := t1, m_MOST_WORD := PySem.W.mg_of X G y1,
    t_MOST_WATCH := t2, m_MOST_WATCH := PySem.W.mg_of X G y2,
    t_MOST_WATCHES := t3, m_MOST_WATCHES := PySem.W.mg_of X G y3 }
  exact ⟨_, fun s v => .of_eq rfl, fun base _ _ => ok_law T⟩
theorem walk {l : PySem.W.OpenLaw} {q : Program} {loose : List Str} {XP : (Str → Option Value) → Heap → Prop} {YP : World → Heap → Prop} {d : DefRec} {K : Params → PySem.W.Frag} (hn : l.most = some 63) (hdf : d.params.defaults = [])
    (hY : ∀ (w : World) (h : Heap), YP w h → (K w.params).In h)
    (F : ∀ (w : World) (mg : Str → Option Value) (fa : Addr) (h : Heap), (K w.params).In h → h.Ns mainGlobals mg → mg d.name = some (.ref fa) →
      ∃ fd : FuncData, (∀ (s : Shared) (u : Value), BindsTo s fd ⟨[u], []⟩ [("_law_script", u)]) ∧ ∀ base : Heap, (K w.params).In base → base.Ns mainGlobals mg → FnOk l.prog w (K w.params) mg base CX0 6 fa fd ["_law_script"] (sp_law (K w.params))) :
    PySem.W.WalkO q loose XP YP l.row.toRowW d [] (fun f vs => PySem.call f vs) :=
  L2.walk_of (n := 63) (k := 6) (x := "_law_script") (CX := fun _ => CX0) (sp := fun w => sp_law (K w.params)) hn (by decide) hdf ⟨rfl, by decide, by decide⟩ hY F (fun _ _ a ns hl _ hS => ⟨a, ns, rfl, hS, hl, fun _ => rfl⟩) fun _ _ _ _ _ z => z
end W
open PySem PySem.W PyProof.Rows
set_option maxRecDepth 100000 in
set_option maxHeartbeats 0 in
theorem PySem.Challenge.cw_watchedways_k06_whole_shortest_zigzags_holds : PySem.Challenge.rw_watchedways_k06_whole_shortest_zigzags.Holds := by
  w_on; o_law; k_head; (case hw => w_witness2)
  k_fill
  refine W.walk (l := PySem.Challenge.rw_watchedways_k06_whole_shortest_zigzags) rfl rfl (fun w h Y => PySem.W.kIn_of Y) ?F
  case F =>
    intro w mg fa h KX G hmg
    refine' W.all_mk KX G hmg ?u0 ?pg0 ?hd0 ?po0 ?sa0 ?wc0 ?wm0 ?wn0 ?wt0 ?na0_0 ?a1 ?l1 ?c1 ?k1 ?a2 ?l2 ?c2 ?k2 ?a3 ?l3 ?c3 ?k3 ?a4 ?l4 ?c4 ?k4 ?a5 ?i5 ?mk0 ?kc0 ?l5 ?c5 ?k5 ?a6 ?l6 ?c6 ?k6 ?a7 ?l7 ?c7 ?k7 ?a8 ?l8 ?c8 ?k8 ?a9 ?l9 ?c9 ?k9 ?a10 ?l10 ?c10 ?k10 ?a11 ?l11 ?c11 ?k11 ?a12 ?l12 ?c12 ?k12 ?a13 ?l13 ?c13 ?k13 ?a14 ?l14 ?c14 ?k14 ?a15 ?l15 ?c15 ?k15 ?a16 ?l16 ?c16 ?k16 ?a17 ?l17 ?c17 ?k17 ?a18 ?l18 ?c18 ?k18 ?a19 ?l19 ?c19 ?k19 ?a20 ?l20 ?c20 ?k20 ?z0 ?z1 ?z2 ?z3 ?z4 ?z5 ?z6 ?z7 ?z8 ?z9 ?z10 ?z11 ?z12 ?y0 ?y1 ?y2 ?y3
    (case u0 => k_is); (case pg0 => k_is); (case hd0 => k_is); (case po0 => k_is); (case sa0 => k_is); (case wc0 => k_is); (case wm0 => k_is); (case wn0 => k_is); (case wt0 => k_is); (case na0_0 => k_is); (case a1 => k_is); (case l1 => k_is); (case c1 => k_is); (case k1 => k_is); (case a2 => k_is); (case l2 => k_is); (case c2 => k_is); (case k2 => k_is); (case a3 => k_is); (case l3 => k_is); (case c3 => k_is); (case k3 => k_is); (case a4 => k_is); (case l4 => k_is); (case c4 => k_is); (case k4 => k_is); (case a5 => k_is); (case i5 => k_is); (case mk0 => k_is); (case kc0 => k_is); (case l5 => k_is); (case c5 => k_is); (case k5 => k_is); (case a6 => k_is); (case l6 => k_is); (case c6 => k_is); (case k6 => k_is); (case a7 => k_is); (case l7 => k_is); (case c7 => k_is); (case k7 => k_is); (case a8 => k_is); (case l8 => k_is); (case c8 => k_is); (case k8 => k_is); (case a9 => k_is); (case l9 => k_is); (case c9 => k_is); (case k9 => k_is); (case a10 => k_is); (case l10 => k_is); (case c10 => k_is); (case k10 => k_is); (case a11 => k_is); (case l11 => k_is); (case c11 => k_is); (case k11 => k_is); (case a12 => k_is); (case l12 => k_is); (case c12 => k_is); (case k12 => k_is); (case a13 => k_is); (case l13 => k_is); (case c13 => k_is); (case k13 => k_is); (case a14 => k_is); (case l14 => k_is); (case c14 => k_is); (case k14 => k_is); (case a15 => k_is); (case l15 => k_is); (case c15 => k_is); (case k15 => k_is); (case a16 => k_is); (case l16 => k_is); (case c16 => k_is); (case k16 => k_is); (case a17 => k_is); (case l17 => k_is); (case c17 => k_is); (case k17 => k_is); (case a18 => k_is); (case l18 => k_is); (case c18 => k_is); (case k18 => k_is); (case a19 => k_is); (case l19 => k_is); (case c19 => k_is); (case k19 => k_is); (case a20 => k_is); (case l20 => k_is); (case c20 => k_is); (case k20 => k_is); (case z0 => k_is); (case z1 => k_is); (case z2 => k_is); (case z3 => k_is); (case z4 => k_is); (case z5 => k_is); (case z6 => k_is); (case z7 => k_is); (case z8 => k_is); (case z9 => k_is); (case z10 => k_is); (case z11 => k_is); (case z12 => k_is); (case y0 => k_is); (case y1 => k_is); (case y2 => k_is); (case y3 => k_is)
