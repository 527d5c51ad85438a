import PyProof.Rows.All
import Wide.All
import OpenK.AllK
import Wide.FinOn
import HandS.ForMost
import HandS.SortInts
import HandS.Style
import HandS.IsInst
import HandS.Flow
import HandS.Conv
import HandS.Codes
import PyProof.Draws
import PyProof.EnumMake
import PySem.Challenge.RW_watchedways_k85_lone_lengths_told
set_option Elab.async false
set_option linter.all false
set_option maxRecDepth 100000
set_option maxHeartbeats 4000000
/-! Readings by their heads: one lemma a combinator, so that a reading is walked by its own shape. -/
namespace Rd
open PySem PySem.Spec PyProof.Rows L2
variable {X : Cx} {D : Ends} {σ : L2.St} {H : Hp} {K : PySem.W.Frag}
/-- a new object is laid -/
def NewQ (o : HO) (Q : VK) (H : Hp) : Prop := ∀ p, H p = none → Q (.ref p) (upd H p o)
theorem new {o : HO} {Q : VK} (h : ∀ (p : Addr) (G : Hp), H p = none → G p = some o → Same H G → Q (.ref p) G) : NewQ o Q H :=
  fun p hp => h p _ hp upd_same fun b u e => by rw [upd_ne (ne_of_none e hp)]; exact e
theorem seq {t u : TS} (h : t { D with nx := u D } σ H) : tSeq t u D σ H := h
theorem cut {t u : TS} (Mid : L2.St → Hp → Prop) (h : t { D with nx := Mid } σ H) (h2 : ∀ σ' H', Mid σ' H' → u D σ' H') : C8.tCut t u D σ H := ⟨Mid, h, h2⟩
theorem nxt (h : D.nx σ H) : tNext D σ H := h
theorem asg {te : TE} {g : TG} (h : te σ H fun x H1 => g x σ H1 D.nx) : tAsg te g D σ H := h
theorem name {i : Nat} {v : V} {Q : L2.St → Hp → Prop} (h : Q (σ.set i (some v)) H) : gName i v σ H Q := h
theorem ret {te : TE} (h : te σ H D.rt) : tRet te D σ H := h
theorem retN (h : D.rt .non H) : tRetN D σ H := h
theorem drop {te : TE} (h : te σ H fun _ H1 => D.nx σ H1) : tDrop te D σ H := h
theorem ifS {c : TT} {t u : TS} (h : c σ H fun b H1 => if b = true then t D σ H1 else u D σ H1) : tIfS c t u D σ H := h
theorem brk (h : D.bk σ H) : tBreak D σ H := h
theorem cont (h : D.ct σ H) : tCont D σ H := h
theorem var {i : Nat} {v : V} {Q : VK} (e : σ[i]? = some (some v)) (h : Q v H) : tVar i σ H Q := ⟨v, e, h⟩
theorem con {v : V} {Q : VK} (h : Q v H) : tC v σ H Q := h
theorem op {r : R2} {ta tb : TE} {Q : VK} (h : ta σ H fun x H1 => tb σ H1 fun y H2 => r x y H2 Q) : tOp r ta tb σ H Q := h
theorem un {r : V → Hp → VK → Prop} {ta : TE} {Q : VK} (h : ta σ H fun x H1 => r x H1 Q) : tUn r ta σ H Q := h
theorem test {t : TE} {Q : Bool → Hp → Prop} (h : t σ H fun x H' => ∃ k, x = .bl k ∧ Q k H') : tTest t σ H Q := h
theorem tstB {t : TE} {Q : Bool → Hp → Prop} (h : t σ H fun x H' => ∃ k, x = .bl k ∧ Q k H') : tB t σ H Q := h
theorem bl {k : Bool} {Q : Bool → Hp → Prop} (h : Q k H) : ∃ k', V.bl k = .bl k' ∧ Q k' H := ⟨k, rfl, h⟩
theorem and {t u : TT} {Q : Bool → Hp → Prop} (h : t σ H fun c H1 => if c = true then u σ H1 Q else Q false H1) : tAnd t u σ H Q := h
theorem or {t u : TT} {Q : Bool → Hp → Prop} (h : t σ H fun c H1 => if c = true then Q true H1 else u σ H1 Q) : tOr t u σ H Q := h
theorem not {t : TT} {Q : Bool → Hp → Prop} (h : t σ H fun c H1 => Q (!c) H1) : tNot t σ H Q := h
theorem andV {ta tb : TE} {Q : VK} (h : ta σ H fun x H1 => ∃ c, x = .bl c ∧ if c = true then tb σ H1 Q else Q (.bl false) H1) : tAndV ta tb σ H Q := h
theorem orV {ta tb : TE} {Q : VK} (h : ta σ H fun x H1 => ∃ c, x = .bl c ∧ if c = true then Q (.bl true) H1 else tb σ H1 Q) : tOrV ta tb σ H Q := h
theorem notV {ta : TE} {Q : VK} (h : ta σ H fun x H1 => ∃ c, x = .bl c ∧ Q (.bl (!c)) H1) : tNotV ta σ H Q := h
theorem ifE {t : TT} {ta tb : TE} {Q : VK} (h : t σ H fun c H1 => if c = true then ta σ H1 Q else tb σ H1 Q) : tIf t ta tb σ H Q := h
theorem nil {Q : List V → Hp → Prop} (h : Q [] H) : tNil σ H Q := h
theorem cons {ta : TE} {tr : TA} {Q : List V → Hp → Prop} (h : ta σ H fun x H1 => tr σ H1 fun xs H2 => Q (x :: xs) H2) : tCons ta tr σ H Q := h
theorem tup {t : TA} {Q : VK} (h : t σ H fun xs H1 => xs.length ≤ sizeLine ∧ NewQ (.tup xs) Q H1) : tTup t σ H Q := h
theorem lst {t : TA} {Q : VK} (h : t σ H fun xs H1 => xs.length ≤ sizeLine ∧ NewQ (.lst xs) Q H1) : tLst t σ H Q := h
theorem cb {r : List V → Hp → VK → Prop} {t : TA} {Q : VK} (h : t σ H fun vs H1 => r vs H1 Q) : tCB r t σ H Q := h
theorem call {sp : Sp} {dvs : List V} {E : XK} {t : TA} {Q : VK} (h : t σ H fun vs H1 => sp (vs ++ dvs) H1 Q E) : tCall sp dvs E t σ H Q := h
theorem chain {r r' : R2} {ta tb tc : TE} {Q : VK} (h : ta σ H fun x H1 => tb σ H1 fun y H2 => r x y H2 fun z H3 => ∃ k, z = .bl k ∧ (if k = true then tc σ H3 fun w' H4 => r' y w' H4 Q else Q (.bl false) H3)) : tChain r r' ta tb tc σ H Q := h
theorem blE {k : Bool} {P : Bool → Prop} (h : P k) : ∃ k', V.bl k = .bl k' ∧ P k' := ⟨k, rfl, h⟩
theorem i0 {g : Int → Int → V} {i j : Int} {Q : VK} (h : Q (g i j) H) : rI0 g (.int i) (.int j) H Q := ⟨i, j, rfl, rfl, h⟩
theorem iC {C : Int → Int → Prop} {g : Int → Int → V} {i j : Int} {Q : VK} (c : C i j) (h : Q (g i j) H) : rI C g (.int i) (.int j) H Q := ⟨i, j, rfl, rfl, c, h⟩
theorem u1 {g : Int → V} {i : Int} {Q : VK} (h : Q (g i) H) : rU g (.int i) H Q := ⟨i, rfl, h⟩
theorem eqI {i j : Int} {Q : VK} (h : Q (.bl (decide (i = j))) H) : rEq (.int i) (.int j) H Q := ⟨rfl, by rw [show decide (V.int i = V.int j) = decide (i = j) by simp]; exact h⟩
theorem neI {i j : Int} {Q : VK} (h : Q (.bl (!decide (i = j))) H) : rNe (.int i) (.int j) H Q := ⟨rfl, by rw [show decide (V.int i = V.int j) = decide (i = j) by simp]; exact h⟩
theorem eqB {i j : Bool} {Q : VK} (h : Q (.bl (i == j)) H) : rEq (.bl i) (.bl j) H Q := ⟨rfl, by rw [dec_bl]; exact h⟩
theorem neB {i j : Bool} {Q : VK} (h : Q (.bl (i != j)) H) : rNe (.bl i) (.bl j) H Q := ⟨rfl, by rw [dec_bl]; exact h⟩
theorem eqS {i j : Str} {Q : VK} (h : Q (.bl (decide (i = j))) H) : rEq (.str i) (.str j) H Q := ⟨rfl, by rw [show decide (V.str i = V.str j) = decide (i = j) by simp]; exact h⟩
theorem neS {i j : Str} {Q : VK} (h : Q (.bl (!decide (i = j))) H) : rNe (.str i) (.str j) H Q := ⟨rfl, by rw [show decide (V.str i = V.str j) = decide (i = j) by simp]; exact h⟩
theorem iteb {c A B : Prop} [Decidable c] (h : if c then A else B) : if decide c = true then A else B := by
  by_cases q : c
  · rw [if_pos q] at h; rw [if_pos (decide_eq_true q)]; exact h
  · rw [if_neg q] at h; rw [if_neg (by simpa using q)]; exact h
theorem iten {c A B : Prop} [Decidable c] (h : if c then B else A) : if (!decide c) = true then A else B := by
  by_cases q : c
  · rw [if_pos q] at h; rw [if_neg (by simpa using q)]; exact h
  · rw [if_neg q] at h; rw [if_pos (by simpa using q)]; exact h
theorem itbn {b : Bool} {A B : Prop} (h : if b = true then B else A) : if (!b) = true then A else B := by
  cases b with
  | true => rw [if_neg (by decide)]; rw [if_pos rfl] at h; exact h
  | false => rw [if_pos (by rfl : (!false) = true)]; rw [if_neg (by decide)] at h; exact h
theorem a1 {a : Int} {P : Int → Prop} (h : P a) : ∃ i, [V.int a] = [V.int i] ∧ P i := ⟨a, rfl, h⟩
theorem a2 {a b : Int} {P : Int → Int → Prop} (h : P a b) : ∃ i j, [V.int a, V.int b] = [V.int i, V.int j] ∧ P i j := ⟨a, b, rfl, h⟩
theorem v2 {a b : V} {P : V → V → Prop} (h : P a b) : ∃ i j, [a, b] = [i, j] ∧ P i j := ⟨a, b, rfl, h⟩
theorem int1 {a : Int} {P : Int → Prop} {R : Prop} (h : P a) : (∃ i, [V.int a] = [V.int i] ∧ P i) ∨ R := .inl ⟨a, rfl, h⟩
theorem par {i j : Nat} {ta : TA} (h : ta σ H fun vs H1 => ∃ v w, vs = [v, w] ∧ D.nx ((σ.set i (some v)).set j (some w)) H1) : tPar i j ta D σ H := h
theorem sub {to ti : TE} {t : TSet} {v : V} {Q : L2.St → Hp → Prop} (h : to σ H fun o H1 => ti σ H1 fun i H2 => t o i v H2 fun H3 => Q σ H3) : gSub to ti t v σ H Q := h
theorem forS {wi : TI} {g : TG} {tb : TS} (h : wi σ H fun J H1 => ∃ W : Nat → Nat → L2.St → Hp → Prop, (∃ m, W 0 m σ H1) ∧ ∀ i m σ H, W i m σ H →
  (J.stop i H ∧ D.nx σ H) ∨ (J.go i H ∧ ∃ N : L2.St → Hp → Prop, (∀ σ' H', N σ' H' → ∃ m', m' < m ∧ W (i + 1) m' σ' H') ∧ ∀ x H', J.yld i H x H' → g x σ H' fun σ2 H2 => tb { D with nx := N, ct := N, bk := D.nx } σ2 H2)) : tFor wi g tb D σ H := h
theorem iter {tl : TE} {R : It → Hp → Prop} (h : tl σ H fun x H1 => ∃ a, x = .ref a ∧ (∃ xs, SqL K H1 a xs) ∧ R (Itl K a) H1) : iList K tl σ H R := h
theorem iterT {tl : TE} {R : It → Hp → Prop} (h : tl σ H fun x H1 => ∃ a, x = .ref a ∧ (∃ xs, SqT K H1 a xs) ∧ R (Itt K a) H1) : iTup K tl σ H R := h
theorem rng1 {ta : TA} {R : It → Hp → Prop} (h : ta σ H fun vs H1 => ∃ j : Int, vs = [.int j] ∧ -(2 ^ 62) ≤ j ∧ j < 2 ^ 62 ∧ R (Itr 0 j.toNat) H1) : iRng1 ta σ H R := h
theorem refE {a : Addr} {P : Addr → Prop} (h : P a) : ∃ b, V.ref a = .ref b ∧ P b := ⟨a, rfl, h⟩
theorem aug {i : Nat} {te : TE} {ti : TIp} {x : V} (e : σ[i]? = some (some x)) (h : te σ H fun y H1 => ti x y H1 fun z H2 => D.nx (σ.set i (some z)) H2) : tAug i te ti D σ H := ⟨x, e, h⟩
theorem ipi {f : Int → Int → Int} {i j : Int} {Q : VK} (h : Q (.int (f i j)) H) : ipI f (.int i) (.int j) H Q := ⟨i, j, rfl, rfl, h⟩
theorem whl {c : TT} {tb : TS} (W : Nat → L2.St → Hp → Prop) (h0 : ∃ m, W m σ H) (hs : ∀ m σ H, W m σ H → c σ H fun b H1 => if b = true then ∃ N : L2.St → Hp → Prop, (∀ σ' H', N σ' H' → ∃ m', m' < m ∧ W m' σ' H') ∧ tb { D with nx := N, ct := N, bk := D.nx } σ H1 else D.nx σ H1) : tWhile c tb D σ H := ⟨W, h0, hs⟩
theorem whN {m : Nat} {W : Nat → L2.St → Hp → Prop} {P : (L2.St → Hp → Prop) → Prop} (h : P (fun σ' H' => ∃ m', m' < m ∧ W m' σ' H')) : ∃ N, (∀ σ' H', N σ' H' → ∃ m', m' < m ∧ W m' σ' H') ∧ P N := ⟨_, fun _ _ h => h, h⟩
/-- an item of a list at a place -/
theorem ixL {p : Addr} {xs : List V} {i : Int} {v : V} {Q : VK} (hp : SqL K H p xs) (e : atI xs i = some v) (h : Q v H) : rIxL K (.ref p) (.int i) H Q := ⟨p, xs, i, v, rfl, rfl, hp, e, h⟩
theorem ixT {p : Addr} {xs : List V} {i : Int} {v : V} {Q : VK} (hp : SqT K H p xs) (e : atI xs i = some v) (h : Q v H) : rIxT K (.ref p) (.int i) H Q := ⟨p, xs, i, v, rfl, rfl, hp, e, h⟩
theorem setL {p : Addr} {xs : List V} {k : Int} {j : Nat} {v : V} {Q : Hp → Prop} (hp : H p = some (.lst xs)) (e : ixN xs.length k = some j) (h : Q (upd H p (.lst (xs.set j v)))) : rSetL (.ref p) (.int k) v H Q := ⟨p, xs, k, j, rfl, rfl, hp, e, h⟩
/-- a store into a list: behind it a heap G of which this is known -/
theorem setG {p : Addr} {xs ys : List V} {k : Int} {j : Nat} {v : V} {Q : Hp → Prop} (hp : H p = some (.lst xs)) (e : ixN xs.length k = some j) (hy : xs.set j v = ys) (h : ∀ G : Hp, G p = some (.lst ys) → (∀ b, b ≠ p → G b = H b) → Q G) : rSetL (.ref p) (.int k) v H Q :=
  ⟨p, xs, k, j, rfl, rfl, hp, e, hy ▸ h _ upd_same fun b hb => upd_ne hb⟩
/-! ### calls of built-ins and methods, by name -/
def nLen (K : PySem.W.Frag) : List V → Hp → VK → Prop := fun xs H Q => ∃ p ys, xs = [.ref p] ∧ (SqL K H p ys ∨ SqT K H p ys) ∧ Q (.int ys.length) H
theorem c_len : CallR X (.builtin "len") (nLen X.K) := call_len_seq
theorem len {p : Addr} {ys : List V} {Q : VK} (hp : SqL K H p ys ∨ SqT K H p ys) (h : Q (.int ys.length) H) : nLen K [.ref p] H Q := ⟨p, ys, rfl, hp, h⟩
def nLenS : List V → Hp → VK → Prop := fun xs H Q => ∃ z : Str, xs = [.str z] ∧ z.length ≤ sizeLine ∧ Q (.int z.length) H
theorem c_lenS : CallR X (.builtin "len") nLenS := call_len_str
theorem lenStr {z : Str} {Q : VK} (hz : z.length ≤ sizeLine) (h : Q (.int z.length) H) : nLenS [.str z] H Q := ⟨z, rfl, hz, h⟩
def nListOf (K : PySem.W.Frag) : List V → Hp → VK → Prop := fun xs H Q => ∃ p ys, xs = [.ref p] ∧ (SqL K H p ys ∨ SqT K H p ys) ∧ NewQ (.lst ys) Q H
theorem c_listOf : CallR X (.type "list") (nListOf X.K) := call_list_of
theorem listOf {p : Addr} {ys : List V} {Q : VK} (hp : SqL K H p ys ∨ SqT K H p ys) (h : NewQ (.lst ys) Q H) : nListOf K [.ref p] H Q := ⟨p, ys, rfl, hp, h⟩
def nTupOf (K : PySem.W.Frag) : List V → Hp → VK → Prop := fun xs H Q => ∃ p ys, xs = [.ref p] ∧ ((SqL K H p ys ∧ NewQ (.tup ys) Q H) ∨ (SqT K H p ys ∧ Q (.ref p) H))
theorem c_tupOf : CallR X (.type "tuple") (nTupOf X.K) := call_tuple_of
theorem tupOf {p : Addr} {ys : List V} {Q : VK} (hp : SqL K H p ys) (h : NewQ (.tup ys) Q H) : nTupOf K [.ref p] H Q := ⟨p, ys, rfl, .inl ⟨hp, h⟩⟩
def nInt : List V → Hp → VK → Prop := fun xs H Q => (∃ i, xs = [.int i] ∧ Q (.int i) H) ∨ ∃ k, xs = [.bl k] ∧ Q (.int (if k then 1 else 0)) H
theorem c_int : CallR X (.type "int") nInt := call_int1
theorem int {i : Int} {Q : VK} (h : Q (.int i) H) : nInt [.int i] H Q := .inl ⟨i, rfl, h⟩
theorem intB {k : Bool} {Q : VK} (h : Q (.int (if k then 1 else 0)) H) : nInt [.bl k] H Q := .inr ⟨k, rfl, h⟩
def nAbs : List V → Hp → VK → Prop := fun xs H Q => ∃ i, xs = [.int i] ∧ Q (.int (if i < 0 then -i else i)) H
theorem c_abs : CallR X (.builtin "abs") nAbs := call_abs
theorem abs {i : Int} {Q : VK} (h : Q (.int (i.natAbs : Int)) H) : nAbs [.int i] H Q := ⟨i, rfl, by rw [show (if i < 0 then -i else i) = (i.natAbs : Int) by split <;> omega]; exact h⟩
def nMax2 : List V → Hp → VK → Prop := fun xs H Q => ∃ i j, xs = [.int i, .int j] ∧ Q (.int (if j > i then j else i)) H
theorem c_max2 (hc : X.calm = true) : CallR X (.builtin "max") nMax2 := call_max2 hc
theorem max2 {i j : Int} {Q : VK} (h : Q (.int (max i j)) H) : nMax2 [.int i, .int j] H Q := ⟨i, j, rfl, by rw [show (if j > i then j else i) = max i j by rw [Int.max_def]; split <;> split <;> omega]; exact h⟩
def nMin2 : List V → Hp → VK → Prop := fun xs H Q => ∃ i j, xs = [.int i, .int j] ∧ Q (.int (if j < i then j else i)) H
theorem c_min2 (hc : X.calm = true) : CallR X (.builtin "min") nMin2 := call_min2 hc
theorem min2 {i j : Int} {Q : VK} (h : Q (.int (min i j)) H) : nMin2 [.int i, .int j] H Q := ⟨i, j, rfl, by rw [show (if j < i then j else i) = min i j by rw [Int.min_def]; split <;> split <;> omega]; exact h⟩
theorem bm {T : String} {r : V → List V → Hp → VK → Prop} {to : TE} {t : TA} {Q : VK} (h : to σ H fun x H1 => tyV K T x H1 ∧ t σ H1 fun xs H2 => r x xs H2 Q) : tBM K T r to t σ H Q := h
theorem bm0 {T : String} {r : V → List V → Hp → VK → Prop} {to : TE} {Q : VK} (h : to σ H fun x H1 => tyV K T x H1 ∧ r x [] H1 Q) : tBM0 K T r to σ H Q := h
theorem tyL {a : Addr} {xs : List V} {R : Prop} (h : SqL K H a xs) (r : R) : tyV K "list" (.ref a) H ∧ R := ⟨.inl ⟨rfl, _, h⟩, r⟩
theorem app {l : Addr} {xs : List V} {y : V} {Q : VK} (hp : H l = some (.lst xs)) (hz : xs.length < sizeLine) (h : ∀ G : Hp, G l = some (.lst (xs ++ [y])) → (∀ b, b ≠ l → G b = H b) → Q .non G) : rAppend (.ref l) [y] H Q :=
  ⟨l, xs, y, rfl, rfl, hp, hz, h _ upd_same fun b hb => upd_ne hb⟩
theorem popAt {l : Addr} {xs : List V} {i : Int} {y : V} {Q : VK} (hp : H l = some (.lst xs)) (h0 : 0 ≤ i) (h1 : i < xs.length) (hz : xs.length < 2 ^ 63) (hy : xs[i.toNat]? = some y) (h : ∀ G : Hp, G l = some (.lst (xs.eraseIdx i.toNat)) → (∀ b, b ≠ l → G b = H b) → Q y G) : rPopAt (.ref l) [.int i] H Q :=
  ⟨l, xs, i, i.toNat, y, rfl, rfl, hp, by omega, by omega, by unfold seqIndex?; rw [if_pos (by simp; omega)] <;> simp <;> omega, hy, h _ upd_same fun b hb => upd_ne hb⟩
theorem sl {r : V → Option Int → Option Int → Hp → VK → Prop} {te : TE} {tl th : TO} {Q : VK} (h : te σ H fun x H1 => tl σ H1 fun l H2 => th σ H2 fun u H3 => r x l u H3 Q) : tSl r te tl th σ H Q := h
theorem slL {a : Addr} {xs : List V} {lo hi : Option Int} {Q : VK} (hp : SqL K H a xs) (h : NewQ (.lst (cutV xs lo hi)) Q H) : rSlL K (.ref a) lo hi H Q := ⟨a, xs, rfl, hp, h⟩
theorem slS {z : Str} {lo hi : Option Int} {Q : VK} (hz : z.length ≤ sizeLine) (h : Q (.str (cutS z lo hi)) H) : rSlS (.str z) lo hi H Q := ⟨z, rfl, hz, h⟩
theorem cat {l b : Addr} {xs zs : List V} {Q : VK} (h1 : H l = some (.lst xs)) (h2 : H b = some (.lst zs)) (hz : xs.length + zs.length ≤ sizeLine) (h : NewQ (.lst (xs ++ zs)) Q H) : rCat (.ref l) (.ref b) H Q := ⟨l, b, xs, zs, rfl, rfl, h1, h2, hz, h⟩
theorem rep {l : Addr} {xs : List V} {k : Int} {Q : VK} (h1 : H l = some (.lst xs)) (h0 : -(2 ^ 63) ≤ k) (hk : k < 2 ^ 63) (hz : xs.length * k.toNat ≤ sizeLine) (h : NewQ (.lst (List.replicate k.toNat xs).flatten) Q H) : rRep (.ref l) (.int k) H Q := ⟨l, k, xs, rfl, rfl, h1, h0, hk, hz, h⟩
theorem revL {te : TE} {Q : VK} (h : te σ H fun x H1 => ∃ a xs, x = .ref a ∧ SqL K H1 a xs ∧ NewQ (.lst xs.reverse) Q H1) : tRevL K te σ H Q := h
theorem refX {a : Addr} {xs : List V} {P : List V → Prop} (h : SqL K H a xs) (q : P xs) : ∃ b ys, V.ref a = .ref b ∧ SqL K H b ys ∧ P ys := ⟨a, xs, rfl, h, q⟩
theorem sum {a : Addr} {ns : List Int} {Q : VK} (hp : SqL K H a (ns.map V.int)) (h : Q (.int ns.sum) H) : rSum K [.ref a] H Q := ⟨a, ns, rfl, hp, h⟩
theorem all {a : Addr} {bs : List Bool} {Q : VK} (hp : SqL K H a (bs.map V.bl)) (h : Q (.bl (bs.all id)) H) : rAll K [.ref a] H Q := ⟨a, bs, rfl, hp, h⟩
theorem any {a : Addr} {bs : List Bool} {Q : VK} (hp : SqL K H a (bs.map V.bl)) (h : Q (.bl (bs.any id)) H) : rAny K [.ref a] H Q := ⟨a, bs, rfl, hp, h⟩
theorem sortedI {a : Addr} {ns : List Int} {Q : VK} (hp : SqL K H a (ns.map V.int)) (h : ∀ (ms : List Int) (p : Addr) (G : Hp), ms.Perm ns → ms.Pairwise (· ≤ ·) → G p = some (.lst (ms.map V.int)) → Same H G → H p = none → Q (.ref p) G) : rSortedI K [.ref a] H Q :=
  ⟨a, ns, rfl, hp, fun ms p h1 h2 h3 => h ms p _ h1 h2 upd_same (fun b u e => by rw [upd_ne (ne_of_none e h3)]; exact e) h3⟩
theorem inS {neg : Bool} {x : V} {p : Addr} {xs : List V} {Q : VK} (hp : SqL K H p xs ∨ SqT K H p xs) (h1 : flatV x = true) (h2 : xs.all flatV = true) (h : Q (.bl (if neg then !inV x xs else inV x xs)) H) : rIn K neg x (.ref p) H Q := ⟨p, xs, rfl, hp, h1, h2, h⟩
theorem part {te : TE} {Q : Option Int → Hp → Prop} (h : te σ H fun x H1 => ∃ i, x = .int i ∧ Q (some i) H1) : tPart te σ H Q := h
theorem noPart {Q : Option Int → Hp → Prop} (h : Q none H) : tNoPart σ H Q := h
theorem poS {te : TE} {Q : Option Int → Hp → Prop} {i : Int} (h : te σ H fun x H1 => ∃ i, x = .int i ∧ Q (some i) H1) : te σ H fun x H1 => ∃ i, x = .int i ∧ Q (some i) H1 := h
theorem tupT {a : Addr} {xs : List V} {n : Nat} {t : TGs} {Q : L2.St → Hp → Prop} (hp : SqT K H a xs) (hn : xs.length = n) (h : t xs σ H Q) : gTup K n t (.ref a) σ H Q := ⟨a, xs, rfl, hp, hn, h⟩
theorem gcons {t : TG} {u : TGs} {v : V} {r : List V} {Q : L2.St → Hp → Prop} (h : t v σ H fun σ' H' => u r σ' H' Q) : gCons t u (v :: r) σ H Q := ⟨v, r, rfl, h⟩
theorem gnil {Q : L2.St → Hp → Prop} (h : Q σ H) : gNil [] σ H Q := ⟨rfl, h⟩
theorem last2 {ms : List Int} (h : 2 ≤ ms.length) : ∃ s b a, ms = s ++ [b, a] := by
  rcases List.eq_nil_or_concat ms with e | ⟨t, a, e⟩
  · subst e; simp at h
  · rcases List.eq_nil_or_concat t with e2 | ⟨s, b, e2⟩
    · subst e2; subst e; simp at h
    · exact ⟨s, b, a, by rw [e, e2]; simp⟩
theorem cut_last2 (s : List Int) (b a : Int) : cutV ((s ++ [b, a]).map V.int) (some (-2)) none = [b, a].map V.int := by
  have e : HT.sIx ((s ++ [b, a]).map V.int).length 0 (some (-2)) = (s.map V.int).length := by
    unfold HT.sIx
    simp
    omega
  have e2 : HT.sIx ((s ++ [b, a]).map V.int).length ((s ++ [b, a]).map V.int).length none = ((s ++ [b, a]).map V.int).length := rfl
  unfold cutV
  rw [e, e2, List.map_append, List.drop_left, List.length_append]
  exact List.take_of_length_le (by simp)
theorem rep_map (k : Nat) (b : Bool) : (List.replicate k [V.bl b]).flatten = (List.replicate k b).map V.bl := by
  induction k with
  | zero => rfl
  | succ k ih => rw [List.replicate_succ, List.flatten_cons, ih, List.replicate_succ]; rfl
theorem map_set {α β : Type} (f : α → β) (l : List α) (i : Nat) (x : α) : (l.map f).set i (f x) = (l.set i x).map f := by rw [List.map_set]
theorem enx {a b c : L2.St → Hp → Prop} {r : VK} (h : a σ H) : (Ends.mk a r b c).nx σ H := h
theorem ebk {a b c : L2.St → Hp → Prop} {r : VK} (h : b σ H) : (Ends.mk a r b c).bk σ H := h
theorem ect {a b c : L2.St → Hp → Prop} {r : VK} (h : c σ H) : (Ends.mk a r b c).ct σ H := h
theorem ert {a b c : L2.St → Hp → Prop} {r : VK} {v : V} (h : r v H) : (Ends.mk a r b c).rt v H := h
theorem intE {i : Int} {P : Int → Prop} (h : P i) : ∃ j, V.int i = .int j ∧ P j := ⟨i, rfl, h⟩
theorem atI_of {α : Type} {xs : List α} {i : Int} {v : α} (h0 : 0 ≤ i) (e : xs[i.toNat]? = some v) : atI xs i = some v := by
  have h := atI_nat e
  rw [show ((i.toNat : Nat) : Int) = i by omega] at h
  exact h
theorem ixN_of {n : Nat} {i : Int} (h0 : 0 ≤ i) (h1 : i < n) : ixN n i = some i.toNat := by
  unfold ixN
  rw [if_pos h0, if_pos h1]
theorem map_int {ns : List Int} {i : Nat} (h : i < ns.length) : (ns.map V.int)[i]? = some (.int ns[i]) := by simp [h]
theorem map_get {ns : List Int} {i : Nat} {x : V} (h : (ns.map V.int)[i]? = some x) : ∃ n, ns[i]? = some n ∧ x = .int n := by
  rw [List.getElem?_map] at h
  cases e : ns[i]? with
  | none => rw [e] at h; cases h
  | some z => rw [e] at h; exact ⟨z, rfl, (Option.some.inj h).symm⟩
theorem take_snoc {α : Type} {l : List α} {i : Nat} {x : α} (h : l[i]? = some x) : l.take (i + 1) = l.take i ++ [x] := by
  rw [List.take_succ, h]
  rfl
theorem upd_at {a : Addr} {o : HO} {b : Addr} (h : b = a) : upd H a o b = some o := by subst h; exact upd_same
/-- all but what stands at a is kept -/
def But (a : Addr) (H H' : Hp) : Prop := ∀ b o, b ≠ a → H b = some o → H' b = some o
theorem But.refl (a : Addr) (H : Hp) : But a H H := fun _ _ _ e => e
theorem But.trans {a : Addr} {H H1 H2 : Hp} (x : But a H H1) (y : But a H1 H2) : But a H H2 := fun b o n e => y b o n (x b o n e)
theorem But.same {a : Addr} {H H1 H2 : Hp} (x : But a H H1) (y : Same H1 H2) : But a H H2 := fun b o n e => y b o (x b o n e)
theorem But.of {a : Addr} {H H1 : Hp} (y : Same H H1) : But a H H1 := fun b o _ e => y b o e
theorem But.free {a : Addr} {H H1 : Hp} (x : But a H H1) {l : Addr} (n : l ≠ a) (h : H1 l = none) : H l = none := by
  cases q : H l with
  | none => rfl
  | some o =>
    have := x l o n q
    rw [h] at this
    cases this
theorem But.upd {a : Addr} {H H1 : Hp} {o : HO} (x : But a H H1) : But a H (upd H1 a o) := fun b u n e => by rw [upd_ne n]; exact x b u n e
theorem same_upd {H : Hp} {p : Addr} {o : HO} (h : H p = none) : Same H (upd H p o) := fun b u e => by rw [upd_ne (ne_of_none e h)]; exact e
end Rd

/-! Plain law: steps up and down by some lengths between 0 and a last spot. -/
namespace M85

/-- the spots that steps lead to from 0 -/
inductive Reach (ls : List Int) (last : Int) : Int → Prop where
  | zero : Reach ls last 0
  | step {x y l : Int} (h : Reach ls last x) (hl : l ∈ ls) (e : y = x + l ∨ y = x - l) (h0 : 0 ≤ y) (h1 : y ≤ last) : Reach ls last y

/-- led to one another, in the range -/
inductive Conn (ls : List Int) (last : Int) : Int → Int → Prop where
  | refl (x : Int) : Conn ls last x x
  | step {x y z l : Int} (h : Conn ls last x y) (hl : l ∈ ls) (e : z = y + l ∨ z = y - l) (h0 : 0 ≤ z) (h1 : z ≤ last) : Conn ls last x z

theorem Conn.trans {ls : List Int} {last x y z : Int} (a : Conn ls last x y) (b : Conn ls last y z) : Conn ls last x z := by
  induction b with
  | refl => exact a
  | step _ hl e h0 h1 ih => exact .step ih hl e h0 h1

theorem Reach.conn {ls : List Int} {last x y : Int} (a : Reach ls last x) (b : Conn ls last x y) : Reach ls last y := by
  induction b with
  | refl => exact a
  | step _ hl e h0 h1 ih => exact .step ih hl e h0 h1

/-- any two spots of the range that are s apart are led to one another -/
def Dist (ls : List Int) (last s : Int) : Prop := ∀ x, 0 ≤ x → x + s ≤ last → 0 ≤ x + s → x ≤ last → Conn ls last x (x + s) ∧ Conn ls last (x + s) x

theorem Dist.of_mem {ls : List Int} {last l : Int} (hl : l ∈ ls) : Dist ls last l := fun x h0 h1 h2 h3 =>
  ⟨.step (.refl x) hl (.inl rfl) h2 h1, .step (.refl _) hl (.inr (by omega)) h0 h3⟩

theorem Dist.zero {ls : List Int} {last : Int} : Dist ls last 0 := fun x _ _ _ _ => by
  rw [Int.add_zero]
  exact ⟨.refl x, .refl x⟩

theorem Dist.sub {ls : List Int} {last s t : Int} (hs : Dist ls last s) (ht : Dist ls last t) (h0 : 0 ≤ t) (hts : t ≤ s) (h : s + t ≤ last) : Dist ls last (s - t) := by
  intro x x0 x1 x2 x3
  by_cases c : x + s ≤ last
  · have a := hs x x0 c (by omega) x3
    have b := ht (x + (s - t)) x2 (by omega) (by omega) x1
    have e : x + (s - t) + t = x + s := by omega
    rw [e] at b
    exact ⟨a.1.trans b.2, b.1.trans a.2⟩
  · have a := ht (x - t) (by omega) (by omega) (by omega) (by omega)
    have b := hs (x - t) (by omega) (by omega) (by omega) (by omega)
    have e1 : x - t + t = x := by omega
    have e2 : x - t + s = x + (s - t) := by omega
    rw [e1] at a
    rw [e2] at b
    exact ⟨a.2.trans b.1, b.2.trans a.1⟩

theorem Dist.mod {ls : List Int} {last : Int} {t : Nat} (ht : Dist ls last t) (t0 : 0 < t) : ∀ s : Nat, Dist ls last s → (s : Int) + t ≤ last → Dist ls last ((s % t : Nat) : Int) := by
  intro s
  induction s using Nat.strongRecOn with
  | _ s ih =>
    intro hs h
    by_cases c : t ≤ s
    · have q := Dist.sub hs ht (by omega) (by omega) h
      have e : (s : Int) - (t : Int) = ((s - t : Nat) : Int) := by omega
      rw [e] at q
      have r := ih (s - t) (by omega) q (by omega)
      rw [Nat.mod_eq_sub_mod c]
      exact r
    · rw [Nat.mod_eq_of_lt (by omega)]
      exact hs

theorem Dist.gcd {ls : List Int} {last : Int} : ∀ (t s : Nat), Dist ls last t → Dist ls last s → (s : Int) + t ≤ last → Dist ls last ((Nat.gcd t s : Nat) : Int) := by
  intro t
  induction t using Nat.strongRecOn with
  | _ t ih =>
    intro s ht hs h
    by_cases c : t = 0
    · subst c
      rw [Nat.gcd_zero_left]
      exact hs
    · have hp : 0 < t := by omega
      rw [Nat.gcd_rec]
      have hm := Nat.mod_lt s hp
      have q := ih (s % t) hm t (Dist.mod ht hp s hs h) ht (by
        have : s % t ≤ s := Nat.mod_le s t
        omega)
      exact q

theorem Dist.mul {ls : List Int} {last : Int} {g : Nat} (hg : Dist ls last g) : ∀ k : Nat, ((k * g : Nat) : Int) ≤ last → Conn ls last 0 ((k * g : Nat) : Int) := by
  intro k
  induction k with
  | zero =>
    intro _
    rw [Nat.zero_mul]
    exact .refl _
  | succ k ih =>
    intro h
    have e : (((k + 1) * g : Nat) : Int) = ((k * g : Nat) : Int) + (g : Int) := by
      rw [Nat.succ_mul]
      omega
    rw [e] at h ⊢
    exact (ih (by omega)).trans (hg _ (by omega) h (by omega) (by omega)).1

/-- the common divisor, as both programs fold it -/
def gcdL (ls : List Int) : Nat := ls.foldl (fun g l => Nat.gcd l.natAbs g) 0

theorem foldl_gcd_dvd (ls : List Int) : ∀ g : Nat, (ls.foldl (fun g l => Nat.gcd l.natAbs g) g) ∣ g ∧ ∀ l ∈ ls, ((ls.foldl (fun g l => Nat.gcd l.natAbs g) g : Nat) : Int) ∣ l := by
  induction ls with
  | nil => exact fun g => ⟨Nat.dvd_refl g, fun l h => by simp at h⟩
  | cons a r ih =>
    intro g
    have q := ih (Nat.gcd a.natAbs g)
    refine ⟨Nat.dvd_trans q.1 (Nat.gcd_dvd_right _ _), fun l h => ?_⟩
    rcases List.mem_cons.mp h with rfl | h
    · exact Int.dvd_natAbs.mp (Int.natCast_dvd_natCast.mpr (Nat.dvd_trans q.1 (Nat.gcd_dvd_left _ _)))
    · exact q.2 l h

theorem gcdL_dvd {ls : List Int} {l : Int} (h : l ∈ ls) : ((gcdL ls : Nat) : Int) ∣ l := (foldl_gcd_dvd ls 0).2 l h

theorem Reach.dvd {ls : List Int} {last x : Int} (h : Reach ls last x) : ((gcdL ls : Nat) : Int) ∣ x := by
  induction h with
  | zero => exact Int.dvd_zero _
  | step _ hl e _ _ ih =>
    rcases e with rfl | rfl
    · exact Int.dvd_add ih (gcdL_dvd hl)
    · exact Int.dvd_sub ih (gcdL_dvd hl)

theorem Reach.range {ls : List Int} {last x : Int} (hl : 0 ≤ last) (h : Reach ls last x) : 0 ≤ x ∧ x ≤ last := by
  cases h with
  | zero => exact ⟨Int.le_refl _, hl⟩
  | step _ _ _ h0 h1 => exact ⟨h0, h1⟩

/-- the sum of any two of some lengths, at two places, is at most n -/
def Pairs (ls : List Int) (n : Int) : Prop := ls.Pairwise fun a b => a + b ≤ n

theorem fold_dist {all : List Int} {last : Int} : ∀ (ls : List Int) (g : Nat), (∀ l ∈ ls, l ∈ all ∧ 0 < l) → Dist all last g → ls.Pairwise (fun a b => a + b ≤ last) → (g = 0 ∨ ∃ d : Int, (g : Int) ≤ d ∧ ∀ l ∈ ls, d + l ≤ last) →
    Dist all last ((ls.foldl (fun g l => Nat.gcd l.natAbs g) g : Nat) : Int) := by
  intro ls
  induction ls with
  | nil => exact fun g _ h _ _ => h
  | cons a r ih =>
    intro g hm hg hp hd
    have ha := hm a List.mem_cons_self
    have ea : ((a.natAbs : Nat) : Int) = a := by omega
    have da : Dist all last ((a.natAbs : Nat) : Int) := by rw [ea]; exact Dist.of_mem ha.1
    obtain ⟨hp1, hp2⟩ := List.pairwise_cons.mp hp
    have hle : ((Nat.gcd a.natAbs g : Nat) : Int) ≤ a := by
      have : Nat.gcd a.natAbs g ≤ a.natAbs := Nat.le_of_dvd (by omega) (Nat.gcd_dvd_left _ _)
      omega
    refine ih _ (fun l h => hm l (List.mem_cons_of_mem _ h)) ?_ hp2 (.inr ⟨a, hle, hp1⟩)
    rcases hd with rfl | ⟨d, h1, h2⟩
    · show Dist all last ((Nat.gcd a.natAbs 0 : Nat) : Int)
      rw [Nat.gcd_zero_right]
      exact da
    · have := h2 a List.mem_cons_self
      exact Dist.gcd _ _ da hg (by omega)

/-- THE LAW: from where any two lengths have room, the common divisor alone counts -/
theorem reach_iff {ls : List Int} {last : Int} (hl : 0 ≤ last) (hpos : ∀ l ∈ ls, 0 < l) (hp : ls.Pairwise (fun a b => a + b ≤ last)) : Reach ls last last ↔ ((gcdL ls : Nat) : Int) ∣ last := by
  refine ⟨fun h => h.dvd, fun h => ?_⟩
  have D : Dist ls last ((gcdL ls : Nat) : Int) := fold_dist ls 0 (fun l h => ⟨h, hpos l h⟩) (by simpa using Dist.zero) hp (.inl rfl)
  obtain ⟨k, hk⟩ := h
  have e : last = ((k.toNat * gcdL ls : Nat) : Int) := by
    by_cases c : 0 ≤ k
    · have : ((k.toNat : Nat) : Int) = k := by omega
      rw [Int.natCast_mul, this, Int.mul_comm]
      exact hk
    · have h1 : ((gcdL ls : Nat) : Int) * k ≤ 0 := Int.mul_nonpos_of_nonneg_of_nonpos (by omega) (by omega)
      have h0 : last = 0 := by omega
      have k0 : k.toNat = 0 := by omega
      rw [k0, Nat.zero_mul, h0]
      rfl
  have c := Dist.mul D k.toNat (by omega)
  rw [← e] at c
  exact Reach.zero.conn c

theorem Reach.mono {ls ms : List Int} {last x : Int} (h : Reach ls last x) (hs : ∀ l ∈ ls, l ∈ ms) : Reach ms last x := by
  induction h with
  | zero => exact .zero
  | step _ hl e h0 h1 ih => exact .step ih (hs _ hl) e h0 h1

/-! ### the greatest two of a sorted row -/
theorem pair_le {x y a b : Int} {s rest : List Int} (hp : (x :: y :: rest).Perm (s ++ [b, a])) (hs : (s ++ [b, a]).Pairwise (· ≤ ·)) : x + y ≤ b + a := by
  have hsp := List.pairwise_append.mp hs
  have hba : b ≤ a := by
    have := hsp.2.1
    simp at this
    exact this
  have hsb : ∀ z ∈ s, z ≤ b := fun z hz => hsp.2.2 z hz b (by simp)
  have hx : x ∈ s ++ [b, a] := hp.mem_iff.mp List.mem_cons_self
  have hy : y ∈ s ++ [b, a] := hp.mem_iff.mp (List.mem_cons_of_mem _ List.mem_cons_self)
  have top : ∀ z ∈ s ++ [b, a], z ≤ a := fun z hz => by
    rcases List.mem_append.mp hz with h | h
    · have := hsb z h; omega
    · simp at h
      rcases h with rfl | rfl <;> omega
  have xa := top x hx
  have ya := top y hy
  by_cases c1 : x ≤ b
  · omega
  · by_cases c2 : y ≤ b
    · omega
    · -- both above b: both are a, at two places
      exfalso
      have ex : ∀ z ∈ s ++ [b, a], b < z → z = a := fun z hz hb => by
        rcases List.mem_append.mp hz with h | h
        · have := hsb z h; omega
        · simp at h
          rcases h with rfl | rfl
          · omega
          · rfl
      have e1 := ex x hx (by omega)
      have e2 := ex y hy (by omega)
      rw [e1, e2] at hp
      have q := hp.count_eq a
      have hs0 : s.count a = 0 := List.count_eq_zero.mpr fun h => by have := hsb a h; omega
      have hb : ¬ b = a := by omega
      simp [List.count_append, List.count_cons, hs0, hb] at q

theorem pairs_of_sorted {ls s : List Int} {a b : Int} (hp : (s ++ [b, a]).Perm ls) (hs : (s ++ [b, a]).Pairwise (· ≤ ·)) {n : Int} (hn : b + a ≤ n) : ls.Pairwise fun x y => x + y ≤ n := by
  rw [List.pairwise_iff_forall_sublist]
  intro x y hxy
  obtain ⟨rest, hr⟩ := hxy.exists_perm_append
  have := pair_le ((hp.trans hr).symm) hs
  omega

end M85

namespace M85
/-- what a flood knows: the marks and the spots found -/
structure Good (ls : List Int) (last : Int) (met : List Bool) (found : List Int) : Prop where
  l0 : 0 ≤ last
  len : met.length = last.toNat + 1
  mem : ∀ s : Nat, met[s]? = some true ↔ (s : Int) ∈ found
  rng : ∀ s ∈ found, 0 ≤ s ∧ s ≤ last
  reach : ∀ s ∈ found, Reach ls last s
  zero : (0 : Int) ∈ found
  cnt : found.length = met.count true

theorem count_set_true {l : List Bool} {n : Nat} (h : l[n]? = some false) : (l.set n true).count true = l.count true + 1 := by
  induction l generalizing n with
  | nil => simp at h
  | cons a r ih =>
    cases n with
    | zero =>
      simp at h
      subst h
      simp
    | succ n =>
      simp at h
      simp [List.count_cons, ih h]
      omega

theorem Good.start {ls : List Int} {last : Int} (h : 0 ≤ last) : Good ls last ((List.replicate (last.toNat + 1) false).set 0 true) [0] := by
  refine ⟨h, by simp, fun s => ?_, fun s hs => ?_, fun s hs => ?_, by simp, ?_⟩
  · cases s with
    | zero => simp [List.replicate_succ]
    | succ n =>
      simp [List.replicate_succ, List.getElem?_replicate]
      omega
  · simp at hs; subst hs; exact ⟨Int.le_refl _, h⟩
  · simp at hs; subst hs; exact .zero
  · rw [List.replicate_succ]
    simp [List.count_replicate]

theorem Good.le {ls : List Int} {last : Int} {met : List Bool} {found : List Int} (g : Good ls last met found) : found.length ≤ last.toNat + 1 := by
  rw [g.cnt, ← g.len]
  exact List.count_le_length

theorem Good.at {ls : List Int} {last : Int} {met : List Bool} {found : List Int} (g : Good ls last met found) {t : Int} (h0 : 0 ≤ t) (h1 : t ≤ last) : ∃ b, met[t.toNat]? = some b ∧ (b = true ↔ t ∈ found) := by
  have hl := g.len
  have hlt : t.toNat < met.length := by omega
  refine ⟨met[t.toNat], List.getElem?_eq_getElem hlt, ?_⟩
  have q := g.mem t.toNat
  rw [List.getElem?_eq_getElem hlt] at q
  have e : ((t.toNat : Nat) : Int) = t := by omega
  rw [e] at q
  rw [← q]
  simp

theorem Good.visit {ls : List Int} {last : Int} {met : List Bool} {found : List Int} (g : Good ls last met found) {t : Int} (h0 : 0 ≤ t) (h1 : t ≤ last) (hm : met[t.toNat]? = some false) (hr : Reach ls last t) :
    Good ls last (met.set t.toNat true) (found ++ [t]) := by
  have hl := g.len
  refine ⟨g.l0, by simp [hl], fun s => ?_, fun s hs => ?_, fun s hs => ?_, List.mem_append_left _ g.zero, ?_⟩
  · have q := g.mem s
    rw [List.getElem?_set]
    by_cases c : t.toNat = s
    · rw [if_pos c, if_pos (by omega)]
      simp
      right; omega
    · rw [if_neg c, q]
      simp
      intro e; omega
  · rcases List.mem_append.mp hs with h | h
    · exact g.rng s h
    · simp at h; subst h; exact ⟨h0, h1⟩
  · rcases List.mem_append.mp hs with h | h
    · exact g.reach s h
    · simp at h; subst h; exact hr
  · rw [count_set_true hm, List.length_append, g.cnt]
    rfl

/-- all neighbours by the lengths of ms of the spot x are found -/
def Near (ms : List Int) (last : Int) (found : List Int) (x : Int) : Prop := ∀ l ∈ ms, ∀ y, (y = x + l ∨ y = x - l) → 0 ≤ y → y ≤ last → y ∈ found
/-- .. of the first n spots -/
def Closed (ls : List Int) (last : Int) (found : List Int) (n : Nat) : Prop := ∀ k x, k < n → found[k]? = some x → Near ls last found x

theorem Near.more {ms : List Int} {last : Int} {found : List Int} {x : Int} (h : Near ms last found x) (more : List Int) : Near ms last (found ++ more) x := fun l hl y e h0 h1 => List.mem_append_left _ (h l hl y e h0 h1)
theorem Closed.more {ls : List Int} {last : Int} {found : List Int} {n : Nat} (h : Closed ls last found n) (hn : n ≤ found.length) (more : List Int) : Closed ls last (found ++ more) n := fun k x hk e => by
  rw [List.getElem?_append_left (by omega)] at e
  exact (h k x hk e).more more
theorem Closed.zero {ls : List Int} {last : Int} {found : List Int} : Closed ls last found 0 := fun k x hk _ => absurd hk (by omega)
theorem Closed.succ {ls : List Int} {last : Int} {found : List Int} {n : Nat} {x : Int} (h : Closed ls last found n) (hx : found[n]? = some x) (hn : Near ls last found x) : Closed ls last found (n + 1) := fun k y hk e => by
  by_cases c : k = n
  · subst c
    rw [hx] at e
    cases e
    exact hn
  · exact h k y (by omega) e
theorem Near.nil {last : Int} {found : List Int} {x : Int} : Near [] last found x := fun l hl => by simp at hl
theorem Near.snoc {ms : List Int} {last : Int} {found : List Int} {x l : Int} (h : Near ms last found x) (hp : 0 ≤ x + l → x + l ≤ last → x + l ∈ found) (hm : 0 ≤ x - l → x - l ≤ last → x - l ∈ found) : Near (ms ++ [l]) last found x := fun m hm' y e h0 h1 => by
  rcases List.mem_append.mp hm' with q | q
  · exact h m q y e h0 h1
  · simp at q
    subst q
    rcases e with rfl | rfl
    · exact hp h0 h1
    · exact hm h0 h1

theorem Good.all {ls : List Int} {last : Int} {met : List Bool} {found : List Int} {n : Nat} (g : Good ls last met found) (c : Closed ls last found n) (hn : found.length ≤ n) {x : Int} (h : Reach ls last x) : x ∈ found := by
  induction h with
  | zero => exact g.zero
  | step _ hl e h0 h1 ih =>
    obtain ⟨k, hk⟩ := List.mem_iff_getElem?.mp ih
    have hlt : k < found.length := (List.getElem?_eq_some_iff.mp hk).1
    exact c k _ (by omega) hk _ hl _ e h0 h1
/-- at the end the mark of the last spot tells -/
theorem Good.end {ls : List Int} {last : Int} {met : List Bool} {found : List Int} {n : Nat} (g : Good ls last met found) (c : Closed ls last found n) (hn : found.length ≤ n) : ∃ b, met[last.toNat]? = some b ∧ (b = true ↔ Reach ls last last) := by
  obtain ⟨b, e, q⟩ := g.at g.l0 (Int.le_refl _)
  refine ⟨b, e, q.trans ⟨fun h => g.reach _ h, fun h => g.all c hn h⟩⟩
end M85

/-! Further rules: enumerate and sorted of a tuple; one of two ways to walk. -/
namespace Ru
open PySem PyProof.Rows
open PySem.AutoSeq1 (wpAny_loadPart')
section
variable {prog : Program} {w : World} {A : Around} {E : Value → Shared → Prop} {s : Shared}
theorem nextOf_tup {it t : Addr} {i : Nat} {items : Array Value} {x : Value} {Q : Value → Shared → Prop} (hit : s.heap.IsTupleIter it t i) (ht : s.heap.IsTuple t items) (hx : items[i]? = some x)
    (hQ : ∀ h', h'.IsTupleIter it t (i + 1) → Heap.SameBut it s.heap h' → Q x { s with heap := h' }) : wpAny (model prog w) A (Builtin.SmallTypes.nextOf (.ref it)) Q E s := by
  obtain ⟨oi, hoi, hci, hdi⟩ := id hit
  obtain ⟨ot, hot, _, nt, hdt⟩ := ht
  unfold Builtin.SmallTypes.nextOf
  refine wpAny_bind (wpAny_callSpecial?_slot (name := Str.ofString "__next__") hit.typeIs F.slot_tuple_iterator_next (wpAny_call_entry F.slot_tuple_iterator_next hit.typeIs F.entry_tuple_iterator_next ?_ (F.args_tuple_iterator_next_1 _)))
  show wpAny _ _ (field (.ref it) 0 >>= _) _ _ s
  refine wpAny_bind (wpAny_field hoi hdi (x := .ref t) rfl ?_)
  show wpAny _ _ (if (Value.ref t == Value.none) = true then _ else _) _ _ s
  rw [if_neg (show ¬ ((Value.ref t == Value.none) = true) from Bool.false_ne_true)]
  show wpAny _ _ (field (.ref it) 1 >>= _) _ _ s
  refine wpAny_bind (wpAny_field hoi hdi (x := .int i 0) rfl ?_)
  show wpAny _ _ (seqItems? (.ref t) >>= _) _ _ s
  refine wpAny_bind (wpAny_seqItems hot hdt ?_)
  simp only [Int.toNat_natCast, hx]
  refine wpAny_bind (wpAny_setField hoi hdi (by simp) (wpAny_pure ⟨x, rfl, wpAny_pure (hQ _ ?_ (Heap.SameBut.update ..))⟩))
  exact ⟨_, Heap.get?_update_self _ hoi (Obj.isFreed_of_fields (Obj.data_mapFields hdi _)), (Obj.cls_mapFields ..).trans hci, by rw [Obj.data_mapFields hdi]; simp [rawInt]⟩
theorem nextOf_tup_end {it t : Addr} {i : Nat} {items : Array Value} {Q : Value → Shared → Prop} (hh : A.handled = none) (hit : s.heap.IsTupleIter it t i) (ht : s.heap.IsTuple t items) (hx : items[i]? = none)
    (hE : ∀ h' e, Heap.ExtBut it s.heap h' → (∃ o, h'.get? e = some o ∧ o.cls = .type "StopIteration") → E (.ref e) { s with heap := h' }) : wpAny (model prog w) A (Builtin.SmallTypes.nextOf (.ref it)) Q E s := by
  obtain ⟨oi, hoi, hci, hdi⟩ := id hit
  obtain ⟨ot, hot, _, nt, hdt⟩ := ht
  unfold Builtin.SmallTypes.nextOf
  refine wpAny_bind (wpAny_callSpecial?_slot (name := Str.ofString "__next__") hit.typeIs F.slot_tuple_iterator_next (wpAny_call_entry F.slot_tuple_iterator_next hit.typeIs F.entry_tuple_iterator_next ?_ (F.args_tuple_iterator_next_1 _)))
  show wpAny _ _ (field (.ref it) 0 >>= _) _ _ s
  refine wpAny_bind (wpAny_field hoi hdi (x := .ref t) rfl ?_)
  show wpAny _ _ (if (Value.ref t == Value.none) = true then _ else _) _ _ s
  rw [if_neg (show ¬ ((Value.ref t == Value.none) = true) from Bool.false_ne_true)]
  show wpAny _ _ (field (.ref it) 1 >>= _) _ _ s
  refine wpAny_bind (wpAny_field hoi hdi (x := .int i 0) rfl ?_)
  show wpAny _ _ (seqItems? (.ref t) >>= _) _ _ s
  refine wpAny_bind (wpAny_seqItems hot hdt ?_)
  simp only [Int.toNat_natCast, hx]
  refine wpAny_bind (wpAny_rule (wpAny_bind (wpAny_setField hoi hdi (by simp) ?_)))
  show wpAny _ _ (newExc (.type "StopIteration") [] >>= _) _ _ _
  refine wpAny_bind ?_
  simp only [newExc, newTuple]
  refine wpAny_bind (wpAny_newObj_type ?_ (by size_fits))
  refine wpAny_bind (m := firstArgMember _ _) (wpAny_of_eq (a := Value.none) (by first | rfl | (simp only [firstArgMember]; rfl)) ?_)
  refine wpAny_newObj_type ?_ (by size_fits)
  simp only [raiseNew]
  refine wpAny_bind (wpAny_handled ?_)
  first | rw [show A.in1.handled = none from hh] | rw [hh]
  refine wpAny_bind (wpAny_pure (wpAny_throw ?_))
  exact hE _ _ (((Heap.SameBut.update ..).extBut.push _).push _) ⟨_, Heap.get?_push_size _ rfl, rfl⟩
end
theorem draws_tup {prog : Program} {w : World} {A : Around} (hh : A.handled = none) (it t : Addr) (hne : t ≠ it) (items : Array Value) :
    Draws prog w A it [it, t] items.size (fun i v => items[i]? = some v) (fun i h => h.IsTupleIter it t i ∧ h.IsTuple t items) where
  live := fun _ _ st => let ⟨o, ho, _⟩ := st.1; ⟨o, ho⟩
  frame := fun _ _ _ st hk => ⟨let ⟨o, ho, r⟩ := st.1; ⟨o, hk it (by simp) o ho, r⟩, let ⟨o, ho, r⟩ := st.2; ⟨o, hk t (by simp) o ho, r⟩⟩
  item := fun i s Q E hi st hQ => by
    refine nextOf_tup st.1 st.2 (x := items[i]) (by simp [hi]) fun h' k1 k2 => ?_
    exact hQ _ h' s.toks (by simp [hi]) ⟨k1, st.2.extBut k2.extBut hne⟩ k2
  done := fun s Q E st hE => nextOf_tup_end hh st.1 st.2 (by simp) hE
theorem meets_enum_tup (l : Addr) (items : Array Value) (n : Nat) (dct : Option Addr) (sl : Array (Option Value)) :
    Meets (Builtin.«enumerate.__new__» ⟨[.type "enumerate", .ref l], []⟩) (fun _ R s => s.heap.get? l = some { cls := .type "tuple", dict := dct, data := .seq items n, slots := sl } ∧
      R (.ok (.ret (.ref (s.heap.push { cls := .type "tuple_iterator", data := .fields #[.ref l, .int 0 0] }).objs.size)))
        { s with heap := (s.heap.push { cls := .type "tuple_iterator", data := .fields #[.ref l, .int 0 0] }).push { cls := .type "enumerate", data := .fields #[.none, .bool false, .ref s.heap.objs.size, rawInt 0, .none, .none] } }) :=
  .of_wp fun prog w A R s h => by
    obtain ⟨hp, g, d, tk, os⟩ := s
    obtain ⟨hl, h⟩ := h
    have hsub := sub_enumerate
    have hL : Heap.IsTuple (Shared.heap ⟨hp, g, d, tk, os⟩) l items := ⟨_, hl, rfl, n, rfl⟩
    wp_walk using wpAny_loadPart' hl
    refine wpAny_stack_any fun st => wpAny_pure ?_
    split
    · rename_i c _ _ _ _ _
      cases (c == Value.type "enumerate")
      · wp_walk using wpAny_loadPart' hl, wpAny_pyIter_tuple hL
        exact ⟨_, rfl, h⟩
      · wp_walk using wpAny_loadPart' hl, wpAny_pyIter_tuple hL
        exact ⟨_, rfl, h⟩
    · wp_walk using wpAny_loadPart' hl, wpAny_pyIter_tuple hL
      exact ⟨_, rfl, h⟩
section
variable {prog : Program} {w : World} {A : Around} {E : Value → Shared → Prop} {s : Shared}
theorem call_enum_tup {l : Addr} {items : Array Value} {Q : Value → Shared → Prop} (hL : s.heap.IsTuple l items)
    (h : ∀ h', IsEnum h' (s.heap.objs.size + 1) s.heap.objs.size 0 .none → h'.IsTupleIter s.heap.objs.size l 0 → h'.objs.size = s.heap.objs.size + 2 → (∀ b o, s.heap.get? b = some o → h'.get? b = some o) → Q (.ref (s.heap.objs.size + 1)) { s with heap := h' }) :
    wpAny (model prog w) A (call (.type "enumerate") [.ref l]) Q E s := by
  obtain ⟨⟨c, dct, dt, sl⟩, hl, hc, n, hd⟩ := hL
  replace hc : c = .type "tuple" := hc
  replace hd : dt = .seq items n := hd
  subst hc hd
  refine callType_new F.called_enumerate (by decide) (F.typeCall_enumerate_1 _) (F.newCall_enumerate_1 _) (fun obj => F.args_object_init_2 obj _) F.entry_enumerate_new (meets_enum_tup l items n dct sl) ⟨hl, ?_⟩
  have hz : (s.heap.push { cls := .type "tuple_iterator", data := .fields #[.ref l, .int 0 0] }).objs.size = s.heap.objs.size + 1 := Heap.size_push ..
  show _ ∧ _
  rw [hz]
  have he : IsEnum ((s.heap.push { cls := .type "tuple_iterator", data := .fields #[.ref l, .int 0 0] }).push { cls := .type "enumerate", data := .fields #[.none, .bool false, .ref s.heap.objs.size, rawInt 0, .none, .none] }) (s.heap.objs.size + 1) s.heap.objs.size 0 .none := by
    have q := Heap.get?_push_size (s.heap.push { cls := .type "tuple_iterator", data := .fields #[.ref l, .int 0 0] }) (o := { cls := .type "enumerate", data := .fields #[.none, .bool false, .ref s.heap.objs.size, rawInt 0, .none, .none] }) rfl
    rw [hz] at q
    exact q
  exact ⟨⟨_, he, rfl⟩, h _ he ⟨_, Heap.get?_push_of_some _ (Heap.get?_push_size _ rfl), rfl, rfl⟩ (by rw [Heap.size_push, hz]) fun b o x => Heap.get?_push_of_some _ (Heap.get?_push_of_some _ x)⟩
/-- a tuple is collected into a new list -/
theorem collect_tup {l : Addr} {vs : List Value} {Q : List Value → Shared → Prop} (hl : s.heap.IsTuple l vs.toArray) (hsz : vs.length ≤ sizeLine)
    (h : Q vs { s with heap := (s.heap.push (seqObj "list" #[] 0)).update s.heap.objs.size (Obj.mapSeq (· ++ vs.toArray)) }) : wpAny (model prog w) A (collect (.ref l)) Q E s := by
  obtain ⟨o, ho, hc, n, hd⟩ := id hl
  unfold collect
  refine wpAny_bind (wpAny_runValue (codeAny_builtin entry_proto_collect' ?_))
  show wpAny _ _ (do again (.builtin "list.__iadd__" ⟨[← newList [], .ref l], []⟩)) _ _ s
  refine wpAny_bind (wpAny_newList (wpAny_pure ⟨Code.quiet_builtin _ (by decide +kernel), codeAny_builtin entry_list_iadd' ?_⟩))
  show wpAny _ _ (Builtin.List.listExtendWith (.ref s.heap.objs.size) (.ref l) (.ref s.heap.objs.size)) _ _ { s with heap := s.heap.push (seqObj "list" #[] 0) }
  unfold Builtin.List.listExtendWith
  have ho' : (s.heap.push (seqObj "list" #[] 0)).get? l = some o := Heap.get?_push_of_some _ ho
  refine wpAny_bind (wpAny_typeOf (T := "tuple") ⟨o, ho', hc⟩ ?_)
  have ht : (Value.type "tuple" == Value.type "tuple") = true := by rfl
  rw [if_pos (by rw [ht]; simp)]
  refine wpAny_bind (listItems_at ho' hd ?_)
  refine wpAny_bind (listItems_at (xs := #[]) (n := 0) (Heap.get?_push_size _ rfl) rfl ?_)
  rw [if_neg (by simp)]
  refine wpAny_bind (listUpdate_at (xs := #[]) (n := 0) (Heap.get?_push_size _ rfl) rfl ?_ (Nat.zero_le _) (by show (#[] ++ vs.toArray).size ≤ sizeLine + 1; simp only [Array.size_append, List.size_toArray, List.length_nil]; omega))
  refine wpAny_pure ?_
  show wpAny (model prog w) A (do
      let o ← load s.heap.objs.size
      match o.data with
      | .seq xs _ => pure xs.toList
      | _ => unsupported "internal:collect") Q E { s with heap := (s.heap.push (seqObj "list" #[] 0)).update s.heap.objs.size (Obj.mapSeq (· ++ vs.toArray)) }
  refine wpAny_bind (wpAny_load (get?_update_seq (Heap.get?_push_size _ rfl) _) ?_)
  show wpAny _ _ (pure ((#[] : Array Value) ++ vs.toArray).toList) Q E _
  rw [show ((#[] : Array Value) ++ vs.toArray).toList = vs by simp]
  exact wpAny_pure h
end

section
variable {prog : Program} {w : World} {A : Around} {E : Value → Shared → Prop} {s : Shared}
open SrtO in
/-- sorted of a tuple: the new list stands at size + 1 -/
theorem sorted_tup {l : Addr} {vs : List Value} {ltv : Value → Value → Bool} {Q : Value → Shared → Prop} (O : Swo ltv) (hl : s.heap.IsTuple l vs.toArray) (hz : vs.length ≤ sizeLine)
    (hS : 2 ≤ vs.length → ∀ (g : Heap) (a : Addr), g.get? a = some (seqObj "list" vs.toArray 0) → (∀ b o, s.heap.get? b = some o → b ≠ a ∧ g.get? b = some o) → SortableO prog w A.in1.in1 { s with heap := g } a vs ltv)
    (h : ∀ out : List Value, Srtd ltv out → Stb ltv out vs → Q (.ref (s.heap.objs.size + 1)) { s with heap := sortedAll s.heap vs out.toArray }) : wpAny (model prog w) A (call (.builtin "sorted") [.ref l]) Q E s := by
  refine Calls.call_function_entry kind_sorted plain_sorted entry_sorted (args_sorted1 _) ?_
  unfold Builtin.«sorted»
  refine wpAny_bind (m := checkCount "sorted" 1 1 _) (wpAny_pure ?_)
  refine wpAny_bind (collect_tup hl hz ?_)
  refine wpAny_bind (wpAny_newList ?_ hz)
  have e1 : ((s.heap.push (seqObj "list" #[] 0)).update s.heap.objs.size (Obj.mapSeq (· ++ vs.toArray))).objs.size = s.heap.objs.size + 1 := by rw [Heap.size_update, size_push']
  have e2 : (((s.heap.push (seqObj "list" #[] 0)).update s.heap.objs.size (Obj.mapSeq (· ++ vs.toArray))).push (seqObj "list" vs.toArray 0)).get? (s.heap.objs.size + 1) = some (seqObj "list" vs.toArray 0) := by
    rw [← e1]
    exact Heap.get?_push_size _ rfl
  have e3 : ∀ b o, s.heap.get? b = some o → b ≠ s.heap.objs.size + 1 ∧ (((s.heap.push (seqObj "list" #[] 0)).update s.heap.objs.size (Obj.mapSeq (· ++ vs.toArray))).push (seqObj "list" vs.toArray 0)).get? b = some o := fun b o q => by
    have lt : b < s.heap.objs.size := Heap.lt_size q
    refine ⟨Nat.ne_of_lt (Nat.lt_succ_of_lt lt), Heap.get?_push_of_some _ ?_⟩
    rw [Heap.get?_update_ne _ _ _ _ (Nat.ne_of_lt lt)]
    exact Heap.get?_push_of_some _ q
  show wpAny _ _ _ _ _ { s with heap := ((s.heap.push (seqObj "list" #[] 0)).update s.heap.objs.size (Obj.mapSeq (· ++ vs.toArray))).push (seqObj "list" vs.toArray 0) }
  rw [e1]
  refine wpAny_bind (wpAny_holding (wpAny_call_entry slot_list_sort ⟨_, e2, rfl⟩ entry_list_sort (list_sort_ord O e2 hz (fun h2 => hS h2 _ _ e2 e3) fun out hs hb => ⟨_, rfl, ?_⟩) (args_list_sort _)))
  exact wpAny_pure ⟨_, rfl, h out hs hb⟩
end
end Ru
namespace Ru
open PySem PySem.Spec PyProof.Rows L2
/-- one of two ways to walk -/
theorem pi_or {X : Cx} {tg e : Expr} {t u : TI} (a : PI X tg e t) (b : PI X tg e u) : PI X tg e (fun σ H R => t σ H R ∨ u σ H R) := ⟨fun pins s σ H R I h => h.elim (a.run pins s σ H R I) (b.run pins s σ H R I)⟩
theorem callR_or {X : Cx} {f : Value} {r r' : List V → Hp → VK → Prop} (a : CallR X f r) (b : CallR X f r') : CallR X f (fun vs H Q => r vs H Q ∨ r' vs H Q) := fun pins s σ H vs us Q I rv h => h.elim (a pins s σ H vs us Q I rv) (b pins s σ H vs us Q I rv)
/-- sorted(t), t a tuple of ints -/
def rSortedTup (K : PySem.W.Frag) : List V → Hp → VK → Prop := fun vs H Q => ∃ (a : Addr) (ns : List Int), vs = [V.ref a] ∧ SqT K H a (ns.map V.int) ∧
  ∀ (ms : List Int) (p : Addr), ms.Perm ns → ms.Pairwise (· ≤ ·) → H p = none → Q (.ref p) (upd H p (.lst (ms.map V.int)))
theorem cr_sortedTup {X : Cx} : CallR X (.builtin "sorted") (rSortedTup X.K) := by
  intro pins s σ H vs us Q I r h
  obtain ⟨a, ns, rfl, hs, q⟩ := h
  obtain ⟨its, rv, hl, hz⟩ := I.tuple hs
  rw [Vals.ref1 r]
  have hi := rv.ints
  refine sorted_tup SrtO.swo_int (show s.heap.IsTuple a its.toArray from hl) (by rw [← rv.length]; exact hz) (fun h2 g b _ _ => SrtO.ints_sortable hi h2) fun out h1 h2 => ?_
  obtain ⟨k1, k2, k3⟩ := SrtO.ints_out hi h1 h2
  obtain ⟨ep, he⟩ := PyProof.Rows.sortedAll_at s.heap its out.toArray
  have ln : ((out.map SrtO.iv).map V.int).length ≤ sizeLine := by
    rw [List.length_map, k2.length_eq]
    rw [List.length_map] at hz
    exact hz
  exact ⟨.ref _, upd H (s.heap.objs.size + 1) (.lst ((out.map SrtO.iv).map V.int)), I.laid (t' := s.toks) (fun _ _ => PyProof.Rows.sortedAll_old) (Nat.le_succ _) ⟨ln, out, ep, vals_of_ints k1, he⟩, rfl, q _ _ k2 k3 (I.hok.fresh (Nat.le_succ _))⟩
/-- enumerate of a tuple: each item in a new pair -/
def IteT (K : PySem.W.Frag) (a : Addr) : It :=
  ⟨fun i H => ∃ (xs : List V) (x : V), SqT K H a xs ∧ xs[i]? = some x, fun i H v H' => ∃ T x, v = .ref T ∧ H T = none ∧ H' = upd H T (.tup [.int (i : Nat), x]) ∧ ∀ xs, SqT K H a xs → xs[i]? = some x, fun i H => ∃ xs : List V, SqT K H a xs ∧ xs.length = i⟩
theorem turn_enumT {P : Program} {w : World} {K : PySem.W.Frag} {elts : List Expr} {kk : Nat} {tpos : Pos} (a e it : Addr) :
    Turn P w K (.Tuple elts kk tpos) (IteT K a) [e, it] e (fun i h => (∃ old, IsEnum h e it ((i : Nat) : Int) old) ∧ h.IsTupleIter it a i ∧ e ≠ it) where
  mem := by simp
  obj := fun i h st b hb => by
    obtain ⟨⟨old, he⟩, ⟨o, ho, hc, hd⟩, _⟩ := st
    have z : b = e ∨ b = it := by simpa using hb
    rcases z with z | z
    · rw [z]; exact ⟨_, he, fun v q => nomatch q⟩
    · rw [z]; exact ⟨o, ho, fun v q => by rw [hd] at q; cases q⟩
  keep := fun i h h' st k => let ⟨⟨old, he⟩, ⟨o, ho, r⟩, hne⟩ := st; ⟨⟨old, k e (by simp) _ he⟩, ⟨o, k it (by simp) o ho, r⟩, hne⟩
  item := by
    intro X hP hw hK hc i pins s σ H E I hf st hg
    subst hP hw hK
    obtain ⟨⟨old, he⟩, hit, hne⟩ := st
    obtain ⟨xs, x, hq, hx⟩ := hg
    obtain ⟨its, rv, p, hz⟩ := I.tuple hq
    obtain ⟨u, hu, ru⟩ := rv.get hx
    have hel : e < s.heap.objs.size := Heap.lt_size he
    have hil : it < s.heap.objs.size := by obtain ⟨_, q, _⟩ := hit; exact Heap.lt_size q
    have hat : a ≠ it := fun z => by
      obtain ⟨o, q1, q2, _⟩ := hit
      obtain ⟨o', q3, q4, _⟩ := (show s.heap.IsTuple a its.toArray from p)
      rw [← z, q3] at q1
      cases q1
      rw [q4] at q2
      exact absurd (Value.type.inj q2) (by decide)
    have hea : e ≠ a := fun z => by
      obtain ⟨o', q3, q4, _⟩ := (show s.heap.IsTuple a its.toArray from p)
      rw [← z, he] at q3
      cases q3
      exact absurd (Value.type.inj q4) (by decide)
    have hlt : i < its.toArray.size := by
      have := (List.getElem?_eq_some_iff.mp hu).1
      simpa using this
    refine wpAny_pyNext_enum_itemD (draws_tup (prog := X.prog) (w := X.w) (A := X.A.in1) (I.ok.hd hc) it a hat its.toArray) he ⟨hit, p⟩ hlt hne (by simp [hne, hea]) fun y h' tk hy ho st' hT hsz hk => ?_
    have hy' : y = u := by
      have z : its.toArray[i]? = some u := by simpa using hu
      rw [z] at hy
      exact (Option.some.inj hy).symm
    subst hy'
    refine ⟨_, rfl, wpAny_letOwnedTupleGo_enum (s := { s with heap := h', toks := tk + 1 }) ho fun h'' he' sb => ?_⟩
    have hT2 : h''.get? s.heap.objs.size = some { cls := .type "tuple", data := .seq #[.int i tk, y] } := (sb.2 _ (Nat.ne_of_gt hel)).trans hT
    have new : ObjOk X.prog X.w (upd H s.heap.objs.size (.tup [.int (i : Nat), x])) h'' s.heap.objs.size (.tup [.int (i : Nat), x]) :=
      ⟨by show 2 ≤ sizeLine; decide, [.int i tk, y], .cons ⟨_, rfl⟩ (.cons ru .nil), ⟨_, hT2, rfl, _, rfl⟩⟩
    have I1 : Inv X pins σ (upd H s.heap.objs.size (.tup [.int (i : Nat), x])) { s with heap := h'', toks := tk + 1 } :=
      I.turnedNew (ch := [e, it]) (fun b ob hb q => (sb.2 b (fun z => hb (by simp [z]))).trans (hk b ob (fun z => hb (by simp [z])) (fun z => hb (by simp [z])) q)) hf (Nat.le_refl _) new
    refine ⟨.ref s.heap.objs.size, _, I1, rfl, ⟨_, x, rfl, I.hok.fresh (Nat.le_refl _), rfl, fun ys hy => by rw [I.tuple_inj hy hq]; exact hx⟩, ⟨⟨y, ?_⟩, ?_, hne⟩, fun b hb => ?_⟩
    · have e1 : ((i + 1 : Nat) : Int) = (i : Int) + 1 := by omega
      rw [e1]; exact he'
    · obtain ⟨o, q, r⟩ := st'.1
      exact ⟨o, (sb.2 it (Ne.symm hne)).trans q, r⟩
    · have hb' : b < s.heap.objs.size := by
        have z : b = e ∨ b = it := by simpa using hb
        rcases z with z | z
        · rw [z]; exact hel
        · rw [z]; exact hil
      rw [upd_ne (Nat.ne_of_lt hb')]
      exact (hf b hb).1
  done := by
    intro X hP hw hK hc i pins s σ H E I hf st hg
    subst hP hw hK
    obtain ⟨⟨old, he⟩, hit, hne⟩ := st
    obtain ⟨xs, hq, hx⟩ := hg
    obtain ⟨its, rv, p, hz⟩ := I.tuple hq
    obtain ⟨f0, f1, f2, f3, f4, f5⟩ := hf it (by simp)
    have hl := rv.length
    have hat : a ≠ it := fun z => by
      obtain ⟨o, q1, q2, _⟩ := hit
      obtain ⟨o', q3, q4, _⟩ := (show s.heap.IsTuple a its.toArray from p)
      rw [← z, q3] at q1
      cases q1
      rw [q4] at q2
      exact absurd (Value.type.inj q2) (by decide)
    have hn : i = its.toArray.size := by simp; omega
    refine wpAny_pyNext_enum_endD (draws_tup (prog := X.prog) (w := X.w) (A := X.A.in1) (I.ok.hd hc) it a hat its.toArray) he (by rw [hn] at hit; exact ⟨hit, p⟩) fun h' eb => ⟨rfl, ?_⟩
    obtain ⟨g0, g1, g2, g3, g4, g5⟩ := hf e (by simp)
    obtain ⟨f0, f1, f2, f3, f4, f5⟩ := hf it (by simp)
    exact I.turned (t' := s.toks) (fun b o hb q => eb b o hb q) f0 f1 f3 f4 f5
  self := fun A i s Q E st h => let ⟨⟨_, he⟩, _⟩ := st; wpAny_pyIter_enum he h
def iEnumT (K : PySem.W.Frag) (ta : TA) : TI := fun σ H R => ta σ H fun vs H1 => ∃ a xs, vs = [.ref a] ∧ SqT K H1 a xs ∧ R (IteT K a) H1
theorem pi_enumT {X : Cx} {e : Expr} {ta : TA} {p pos tpos : Pos} {elts : List Expr} {kk : Nat} (hg : Gl X "enumerate") (hm : X.mg "enumerate" = none) (ha : PA X [e] ta) (hs : starEach [e] X.env = [(false, eval e X.env)] := by rfl) :
    PI X (.Tuple elts kk tpos) (.Call (.Name "enumerate" p) [e] [] pos) (iEnumT X.K ta) := by
  refine ⟨fun pins s σ H R I h => ?_⟩
  refine Call_ (ld_blt I hg hm boot_enumerate (PyProof.Rows.callWith_type1 (thn (ha.run pos pins s σ H _ I h) fun us s1 ⟨vs, H1, I1, r1, q1⟩ => ?_) hs rfl))
  obtain ⟨a, xs, ex, hq, q⟩ := q1
  subst ex
  cases r1 with
  | cons r rr =>
    cases rr
    cases r
    obtain ⟨its, rv, p', hz⟩ := I1.tuple hq
    refine call_enum_tup (show s1.heap.IsTuple a its.toArray from p') fun h' he hit hsz hk => wpAny_pyIter_enum he ?_
    have I2 : Inv X pins σ H1 { s1 with heap := h' } := I1.kept (t' := s1.toks) hk
    refine ⟨s1.heap.objs.size + 1, [s1.heap.objs.size + 1, s1.heap.objs.size], _, _, H1, rfl, I2, turn_enumT a (s1.heap.objs.size + 1) s1.heap.objs.size, ⟨⟨.none, he⟩, hit, Nat.succ_ne_self _⟩, fun b hb => ?_, q⟩
    have z : b = s1.heap.objs.size + 1 ∨ b = s1.heap.objs.size := by simpa using hb
    have hle : s1.heap.objs.size ≤ b := by
      rcases z with z | z
      · rw [z]; exact Nat.le_add_right _ _
      · rw [z]; exact Nat.le_refl _
    exact I1.fpOk hle (I1.hok.fresh hle)
/-- a loop over enumerate of a list that stands still -/
theorem for_enum {K : PySem.W.Frag} {a : Addr} {xs : List V} {g : TG} {tb : TS} {D : Ends} {σ : L2.St} {H : Hp} (Pv : Nat → L2.St → Hp → Prop) (h0 : Pv 0 σ H) (hl : ∀ i σ H, i ≤ xs.length → Pv i σ H → SqL K H a xs)
    (hs : ∀ i x σ H (T : Addr), xs[i]? = some x → Pv i σ H → H T = none → g (.ref T) σ (upd H T (.tup [.int (i : Nat), x])) fun σ2 H2 => tb { D with nx := Pv (i + 1), ct := Pv (i + 1), bk := D.nx } σ2 H2) (hd : ∀ σ H, Pv xs.length σ H → D.nx σ H) :
    ∃ W : Nat → Nat → L2.St → Hp → Prop, (∃ m, W 0 m σ H) ∧ ∀ i m σ H, W i m σ H →
      ((Ite K a).stop i H ∧ D.nx σ H) ∨ ((Ite K a).go i H ∧ ∃ N : L2.St → Hp → Prop, (∀ σ' H', N σ' H' → ∃ m', m' < m ∧ W (i + 1) m' σ' H') ∧ ∀ x H', (Ite K a).yld i H x H' → g x σ H' fun σ2 H2 => tb { D with nx := N, ct := N, bk := D.nx } σ2 H2) := by
  refine ⟨fun i m σ H => m = xs.length - i ∧ i ≤ xs.length ∧ Pv i σ H, ⟨xs.length, by simp, Nat.zero_le _, h0⟩, ?_⟩
  rintro i m σ H ⟨rfl, hi, p⟩
  have q := hl i σ H hi p
  by_cases lt : i < xs.length
  · refine .inr ⟨⟨xs, xs[i], q, by simp [lt]⟩, Pv (i + 1), fun σ' H' p' => ⟨xs.length - (i + 1), by omega, rfl, lt, p'⟩, fun x H' y => ?_⟩
    obtain ⟨T, z, rfl, hT, rfl, y⟩ := y
    exact hs i z σ H T (y xs q) p hT
  · have e : i = xs.length := by omega
    subst e
    exact .inl ⟨⟨xs, q, Nat.le_refl _⟩, hd σ H p⟩
theorem for_enumT {K : PySem.W.Frag} {a : Addr} {xs : List V} {g : TG} {tb : TS} {D : Ends} {σ : L2.St} {H : Hp} (Pv : Nat → L2.St → Hp → Prop) (h0 : Pv 0 σ H) (hl : ∀ i σ H, i ≤ xs.length → Pv i σ H → SqT K H a xs)
    (hs : ∀ i x σ H (T : Addr), xs[i]? = some x → Pv i σ H → H T = none → g (.ref T) σ (upd H T (.tup [.int (i : Nat), x])) fun σ2 H2 => tb { D with nx := Pv (i + 1), ct := Pv (i + 1), bk := D.nx } σ2 H2) (hd : ∀ σ H, Pv xs.length σ H → D.nx σ H) :
    ∃ W : Nat → Nat → L2.St → Hp → Prop, (∃ m, W 0 m σ H) ∧ ∀ i m σ H, W i m σ H →
      ((IteT K a).stop i H ∧ D.nx σ H) ∨ ((IteT K a).go i H ∧ ∃ N : L2.St → Hp → Prop, (∀ σ' H', N σ' H' → ∃ m', m' < m ∧ W (i + 1) m' σ' H') ∧ ∀ x H', (IteT K a).yld i H x H' → g x σ H' fun σ2 H2 => tb { D with nx := N, ct := N, bk := D.nx } σ2 H2) := by
  refine ⟨fun i m σ H => m = xs.length - i ∧ i ≤ xs.length ∧ Pv i σ H, ⟨xs.length, by simp, Nat.zero_le _, h0⟩, ?_⟩
  rintro i m σ H ⟨rfl, hi, p⟩
  have q := hl i σ H hi p
  by_cases lt : i < xs.length
  · refine .inr ⟨⟨xs, xs[i], q, by simp [lt]⟩, Pv (i + 1), fun σ' H' p' => ⟨xs.length - (i + 1), by omega, rfl, lt, p'⟩, fun x H' y => ?_⟩
    obtain ⟨T, z, rfl, hT, rfl, y⟩ := y
    exact hs i z σ H T (y xs q) p hT
  · have e : i = xs.length := by omega
    subst e
    exact .inl ⟨⟨xs, q, rfl⟩, hd σ H p⟩
/-! ### a row: a list or a tuple -/
def SqR (K : PySem.W.Frag) (H : Hp) (a : Addr) (xs : List V) : Prop := SqL K H a xs ∨ SqT K H a xs
theorem same_tup {K : PySem.W.Frag} {H H' : Hp} {a : Addr} {xs : List V} (e : Same H H') (h : SqT K H a xs) : SqT K H' a xs := by
  rcases h with (h | ⟨o, h⟩) | h
  · exact .inl (.inl (e _ _ h))
  · exact .inl (.inr ⟨o, e _ _ h⟩)
  · exact .inr h
theorem SqR.same {K : PySem.W.Frag} {H H' : Hp} {a : Addr} {xs : List V} (e : Same H H') (h : SqR K H a xs) : SqR K H' a xs := h.imp e.seq (same_tup e)
/-- a loop over a row that stands still -/
theorem for_row {K : PySem.W.Frag} {a : Addr} {xs : List V} {g : TG} {tb : TS} {D : Ends} {σ : L2.St} {H : Hp} {ta : TE} (ea : ∀ Q, Q (.ref a) H → ta σ H Q) (Pv : Nat → L2.St → Hp → Prop) {Hb : Hp} (hr : SqR K Hb a xs) (h0 : Pv 0 σ H) (hl : ∀ i σ H', i ≤ xs.length → Pv i σ H' → Same Hb H')
    (hs : ∀ i x σ H, xs[i]? = some x → Pv i σ H → g x σ H fun σ2 H2 => tb { D with nx := Pv (i + 1), ct := Pv (i + 1), bk := D.nx } σ2 H2) (hd : ∀ σ H, Pv xs.length σ H → D.nx σ H) :
    tFor (fun σ H R => iList K ta σ H R ∨ iTup K ta σ H R) g tb D σ H := by
  rcases hr with hr | hr
  · exact .inl (ea _ ⟨a, rfl, ⟨_, (hl 0 σ H (Nat.zero_le _) h0).seq hr⟩, for_list (K := K) (a := a) (xs := xs) Pv h0 (fun i σ H' hi p => (hl i σ H' hi p).seq hr) hs hd⟩)
  · exact .inr (ea _ ⟨a, rfl, ⟨_, same_tup (hl 0 σ H (Nat.zero_le _) h0) hr⟩, for_tup (K := K) (a := a) (xs := xs) Pv h0 (fun i σ H' hi p => same_tup (hl i σ H' hi p) hr) hs hd⟩)
/-- .. over enumerate of a row -/
theorem for_enumR {K : PySem.W.Frag} {a : Addr} {xs : List V} {g : TG} {tb : TS} {D : Ends} {σ : L2.St} {H : Hp} {ta : TA} (ea : ∀ Q, Q [.ref a] H → ta σ H Q) (Pv : Nat → L2.St → Hp → Prop) {Hb : Hp} (hr : SqR K Hb a xs) (h0 : Pv 0 σ H) (hl : ∀ i σ H', i ≤ xs.length → Pv i σ H' → Same Hb H')
    (hs : ∀ i x σ H (T : Addr), xs[i]? = some x → Pv i σ H → H T = none → g (.ref T) σ (upd H T (.tup [.int (i : Nat), x])) fun σ2 H2 => tb { D with nx := Pv (i + 1), ct := Pv (i + 1), bk := D.nx } σ2 H2) (hd : ∀ σ H, Pv xs.length σ H → D.nx σ H) :
    tFor (fun σ H R => iEnum K ta σ H R ∨ iEnumT K ta σ H R) g tb D σ H := by
  rcases hr with hr | hr
  · exact .inl (ea _ ⟨a, _, rfl, (hl 0 σ H (Nat.zero_le _) h0).seq hr, for_enum (K := K) (a := a) (xs := xs) Pv h0 (fun i σ H' hi p => (hl i σ H' hi p).seq hr) hs hd⟩)
  · exact .inr (ea _ ⟨a, _, rfl, same_tup (hl 0 σ H (Nat.zero_le _) h0) hr, for_enumT (K := K) (a := a) (xs := xs) Pv h0 (fun i σ H' hi p => same_tup (hl i σ H' hi p) hr) hs hd⟩)
theorem ty_L {K : PySem.W.Frag} {H : Hp} {a : Addr} {xs : List V} (h : SqL K H a xs) : TyX K H (.ref a) (.type "list") := by
  rcases h with (h | ⟨o, h⟩) | ⟨o, its, n, h1, h2, _⟩
  · exact .base (.lst h)
  · exact .base (.frz h)
  · exact .kList h1 h2
theorem ty_T {K : PySem.W.Frag} {H : Hp} {a : Addr} {xs : List V} (h : SqT K H a xs) : TyX K H (.ref a) (.type "tuple") := by
  rcases h with (h | ⟨o, h⟩) | ⟨o, its, n, h1, h2, _⟩
  · exact .base (.tup h)
  · exact .fTuple h
  · exact .kTuple h1 h2
/-- isinstance(row, (list, tuple)) -/
theorem isRow {K : PySem.W.Frag} {H : Hp} {a tp : Addr} {xs : List V} {Q : VK} (h : SqR K H a xs) (ht : H tp = some (.tup [.ty "list", .ty "tuple"])) (q : Q (.bl true) H) : rIsiT K [.ref a, .ref tp] H Q := by
  have pc : Paired ClsV [.ty "list", .ty "tuple"] [.type "list", .type "tuple"] := .cons (.ty _) (.cons (.ty _) .nil)
  rcases h with h | h
  · exact ⟨_, tp, _, _, _, true, rfl, ht, pc, ty_L h, kitAny_cons (kit_ty (r := true) (by decide +kernel)) (fun z => nomatch z) (fun _ => rfl), q⟩
  · exact ⟨_, tp, _, _, _, true, rfl, ht, pc, ty_T h, kitAny_cons (kit_ty (r := false) (by decide +kernel)) (fun _ => kitAny_cons (kit_ty (r := true) (by decide +kernel)) (fun z => nomatch z) (fun _ => rfl)) (fun z => nomatch z), q⟩
theorem sortedR {K : PySem.W.Frag} {H : Hp} {a : Addr} {ns : List Int} {Q : VK} (hp : SqR K H a (ns.map V.int)) (h : ∀ (ms : List Int) (p : Addr) (G : Hp), ms.Perm ns → ms.Pairwise (· ≤ ·) → G p = some (.lst (ms.map V.int)) → Same H G → H p = none → Q (.ref p) G) : rSortedI K [.ref a] H Q ∨ rSortedTup K [.ref a] H Q :=
  hp.imp (fun q => Rd.sortedI q h) fun q => ⟨a, ns, rfl, q, fun ms p h1 h2 h3 => h ms p _ h1 h2 upd_same (fun b u e => by rw [upd_ne (ne_of_none e h3)]; exact e) h3⟩
end Ru

namespace W
open PySem PySem.Spec PyProof.Rows L2
def top (i : Nat) : Stmt := PySem.Challenge.pw_watchedways_k85_lone_lengths_told.main.body.getD i (.Pass ⟨0, 0, 0, 0⟩)
abbrev s_is_integer : Stmt := top 5
abbrev s_common : Stmt := top 7
abbrev s_check_lengths : Stmt := top 12
abbrev s_divisor_of : Stmt := top 13
abbrev s_far_from : Stmt := top 14
abbrev s_steps_reach : Stmt := top 15
abbrev s_is_reached : Stmt := top 16
abbrev s_lone_told : Stmt := top 17
abbrev s_l_flag : Stmt := top 19
abbrev s_l_tape : Stmt := top 20
abbrev s_l_pick : Stmt := top 21
abbrev s_l_common : Stmt := top 22
abbrev s_l_divisor : Stmt := top 23
abbrev s_l_reach : Stmt := top 24
abbrev s_l_lengths : Stmt := top 25
abbrev s_law : Stmt := top 26
theorem sc_is_integer : FnScope ["value"] ["value"] (defScope s_is_integer) := ⟨rfl, rfl, rfl, by decide +kernel, rfl, by decide +kernel, by decide +kernel⟩
theorem sc_common : FnScope ["one", "other"] ["one", "other"] (defScope s_common) := ⟨rfl, rfl, rfl, by decide +kernel, rfl, by decide +kernel, by decide +kernel⟩
theorem sc_check_lengths : FnScope ["lengths", "at", "length"] ["lengths"] (defScope s_check_lengths) := ⟨rfl, rfl, rfl, by decide +kernel, rfl, by decide +kernel, by decide +kernel⟩
theorem sc_divisor_of : FnScope ["lengths", "found", "length"] ["lengths"] (defScope s_divisor_of) := ⟨rfl, rfl, rfl, by decide +kernel, rfl, by decide +kernel, by decide +kernel⟩
theorem sc_far_from : FnScope ["lengths"] ["lengths"] (defScope s_far_from) := ⟨rfl, rfl, rfl, by decide +kernel, rfl, by decide +kernel, by decide +kernel⟩
theorem sc_steps_reach : FnScope ["lengths", "last", "met", "found", "at", "length", "spot"] ["lengths", "last"] (defScope s_steps_reach) := ⟨rfl, rfl, rfl, by decide +kernel, rfl, by decide +kernel, by decide +kernel⟩
theorem sc_is_reached : FnScope ["lengths", "last"] ["lengths", "last"] (defScope s_is_reached) := ⟨rfl, rfl, rfl, by decide +kernel, rfl, by decide +kernel, by decide +kernel⟩
theorem sc_lone_told : FnScope ["lengths", "last"] ["lengths", "last"] (defScope s_lone_told) := ⟨rfl, rfl, rfl, by decide +kernel, rfl, by decide +kernel, by decide +kernel⟩
theorem sc_l_flag : FnScope ["_law_told", "_law_due"] ["_law_told", "_law_due"] (defScope s_l_flag) := ⟨rfl, rfl, rfl, by decide +kernel, rfl, by decide +kernel, by decide +kernel⟩
theorem sc_l_tape : FnScope ["_law_script"] ["_law_script"] (defScope s_l_tape) := ⟨rfl, rfl, rfl, by decide +kernel, rfl, by decide +kernel, by decide +kernel⟩
theorem sc_l_pick : FnScope ["_law_tape_here", "_law_size", "_law_digit", "_law_cell", "_law_mixed"] ["_law_tape_here", "_law_size"] (defScope s_l_pick) := ⟨rfl, rfl, rfl, by decide +kernel, rfl, by decide +kernel, by decide +kernel⟩
theorem sc_l_common : FnScope ["_law_one", "_law_other", "_law_turn", "_law_rest"] ["_law_one", "_law_other"] (defScope s_l_common) := ⟨rfl, rfl, rfl, by decide +kernel, rfl, by decide +kernel, by decide +kernel⟩
theorem sc_l_divisor : FnScope ["_law_lengths_here", "_law_part", "_law_length"] ["_law_lengths_here"] (defScope s_l_divisor) := ⟨rfl, rfl, rfl, by decide +kernel, rfl, by decide +kernel, by decide +kernel⟩
theorem sc_l_reach : FnScope ["_law_lengths_here", "_law_last", "_law_reached", "_law_met", "_law_at", "_law_length", "_law_other"] ["_law_lengths_here", "_law_last"] (defScope s_l_reach) := ⟨rfl, rfl, rfl, by decide +kernel, rfl, by decide +kernel, by decide +kernel⟩
theorem sc_l_lengths : FnScope ["_law_tape_here", "_law_kind", "_law_most", "_law_part", "_law_lengths_here", "_law_k"] ["_law_tape_here"] (defScope s_l_lengths) := ⟨rfl, rfl, rfl, by decide +kernel, rfl, by decide +kernel, by decide +kernel⟩
theorem sc_law : FnScope ["_law_script", "_law_tape_here", "_law_lengths_here", "_law_handed", "_law_turned", "_law_part", "_law_lasts", "_law_k", "_law_last", "_law_due", "_law_great", "_law_greats"] ["_law_script"] (defScope s_law) := ⟨rfl, rfl, rfl, by decide +kernel, rfl, by decide +kernel, by decide +kernel⟩
structure Txt (K : PySem.W.Frag) (mg : Str → Option Value) where
  f_is_integer : Addr
  fd_is_integer : FuncData
  F_is_integer : Fun K "is_integer" "is_integer" s_is_integer f_is_integer fd_is_integer
  g_is_integer : mg "is_integer" = some (.ref f_is_integer)
  b_is_integer : Binds K fd_is_integer ["value"] []
  f_common : Addr
  fd_common : FuncData
  F_common : Fun K "common" "common" s_common f_common fd_common
  g_common : mg "common" = some (.ref f_common)
  b_common : Binds K fd_common ["one", "other"] []
  f_check_lengths : Addr
  fd_check_lengths : FuncData
  F_check_lengths : Fun K "check_lengths" "check_lengths" s_check_lengths f_check_lengths fd_check_lengths
  g_check_lengths : mg "check_lengths" = some (.ref f_check_lengths)
  b_check_lengths : Binds K fd_check_lengths ["lengths"] []
  f_divisor_of : Addr
  fd_divisor_of : FuncData
  F_divisor_of : Fun K "divisor_of" "divisor_of" s_divisor_of f_divisor_of fd_divisor_of
  g_divisor_of : mg "divisor_of" = some (.ref f_divisor_of)
  b_divisor_of : Binds K fd_divisor_of ["lengths"] []
  f_far_from : Addr
  fd_far_from : FuncData
  F_far_from : Fun K "far_from" "far_from" s_far_from f_far_from fd_far_from
  g_far_from : mg "far_from" = some (.ref f_far_from)
  b_far_from : Binds K fd_far_from ["lengths"] []
  f_steps_reach : Addr
  fd_steps_reach : FuncData
  F_steps_reach : Fun K "steps_reach" "steps_reach" s_steps_reach f_steps_reach fd_steps_reach
  g_steps_reach : mg "steps_reach" = some (.ref f_steps_reach)
  b_steps_reach : Binds K fd_steps_reach ["lengths", "last"] []
  f_is_reached : Addr
  fd_is_reached : FuncData
  F_is_reached : Fun K "is_reached" "is_reached" s_is_reached f_is_reached fd_is_reached
  g_is_reached : mg "is_reached" = some (.ref f_is_reached)
  b_is_reached : Binds K fd_is_reached ["lengths", "last"] []
  f_lone_told : Addr
  fd_lone_told : FuncData
  F_lone_told : Fun K "lone_told" "lone_told" s_lone_told f_lone_told fd_lone_told
  g_lone_told : mg "lone_told" = some (.ref f_lone_told)
  b_lone_told : Binds K fd_lone_told ["lengths", "last"] []
  f_l_flag : Addr
  fd_l_flag : FuncData
  F_l_flag : Fun K "_law_flag" "_law_flag" s_l_flag f_l_flag fd_l_flag
  g_l_flag : mg "_law_flag" = some (.ref f_l_flag)
  b_l_flag : Binds K fd_l_flag ["_law_told", "_law_due"] []
  f_l_tape : Addr
  fd_l_tape : FuncData
  F_l_tape : Fun K "_law_tape" "_law_tape" s_l_tape f_l_tape fd_l_tape
  g_l_tape : mg "_law_tape" = some (.ref f_l_tape)
  b_l_tape : Binds K fd_l_tape ["_law_script"] []
  f_l_pick : Addr
  fd_l_pick : FuncData
  F_l_pick : Fun K "_law_pick" "_law_pick" s_l_pick f_l_pick fd_l_pick
  g_l_pick : mg "_law_pick" = some (.ref f_l_pick)
  b_l_pick : Binds K fd_l_pick ["_law_tape_here", "_law_size"] []
  f_l_common : Addr
  fd_l_common : FuncData
  F_l_common : Fun K "_law_common" "_law_common" s_l_common f_l_common fd_l_common
  g_l_common : mg "_law_common" = some (.ref f_l_common)
  b_l_common : Binds K fd_l_common ["_law_one", "_law_other"] []
  f_l_divisor : Addr
  fd_l_divisor : FuncData
  F_l_divisor : Fun K "_law_divisor" "_law_divisor" s_l_divisor f_l_divisor fd_l_divisor
  g_l_divisor : mg "_law_divisor" = some (.ref f_l_divisor)
  b_l_divisor : Binds K fd_l_divisor ["_law_lengths_here"] []
  f_l_reach : Addr
  fd_l_reach : FuncData
  F_l_reach : Fun K "_law_reach" "_law_reach" s_l_reach f_l_reach fd_l_reach
  g_l_reach : mg "_law_reach" = some (.ref f_l_reach)
  b_l_reach : Binds K fd_l_reach ["_law_lengths_here", "_law_last"] []
  f_l_lengths : Addr
  fd_l_lengths : FuncData
  F_l_lengths : Fun K "_law_lengths" "_law_lengths" s_l_lengths f_l_lengths fd_l_lengths
  g_l_lengths : mg "_law_lengths" = some (.ref f_l_lengths)
  b_l_lengths : Binds K fd_l_lengths ["_law_tape_here"] []
  f_law : Addr
  fd_law : FuncData
  F_law : Fun K "law" "law" s_law f_law fd_law
  g_law : mg "law" = some (.ref f_law)
  b_law : Binds K fd_law ["_law_script"] []
  n_isinstance : mg "isinstance" = none
  n_int : mg "int" = none
  n_bool : mg "bool" = none
  n_abs : mg "abs" = none
  n_len : mg "len" = none
  n_list : mg "list" = none
  n_tuple : mg "tuple" = none
  n_sum : mg "sum" = none
  n_sorted : mg "sorted" = none
  n_enumerate : mg "enumerate" = none
  n_range : mg "range" = none
  t_MOST_LENGTHS : Tok
  m_MOST_LENGTHS : mg "MOST_LENGTHS" = some (.int 8 t_MOST_LENGTHS)
  t_MOST_LENGTH : Tok
  m_MOST_LENGTH : mg "MOST_LENGTH" = some (.int 60 t_MOST_LENGTH)
  t_MOST_LAST : Tok
  m_MOST_LAST : mg "MOST_LAST" = some (.int (10 ^ 30) t_MOST_LAST)
end W

local macro_rules | `(tactic| walk_at "rd") => `(tactic| repeat (first
  | with_reducible refine Rd.seq ?_ | with_reducible refine Rd.asg ?_ | with_reducible refine Rd.name ?_ | with_reducible refine Rd.var rfl ?_ | with_reducible refine Rd.con ?_ | with_reducible refine Rd.op ?_
  | with_reducible refine Rd.ret ?_ | with_reducible refine Rd.ifS ?_ | with_reducible refine Rd.test ?_ | with_reducible refine Rd.tstB ?_ | with_reducible refine Rd.bl ?_ | with_reducible refine Rd.blE ?_
  | with_reducible refine Rd.nil ?_ | with_reducible refine Rd.cons ?_ | with_reducible refine Rd.cb ?_ | with_reducible refine Rd.call ?_ | with_reducible refine Rd.un ?_
  | with_reducible refine Rd.i0 ?_ | with_reducible refine Rd.u1 ?_ | with_reducible refine Rd.eqI ?_ | with_reducible refine Rd.neI ?_ | with_reducible refine Rd.eqB ?_ | with_reducible refine Rd.neB ?_ | with_reducible refine Rd.eqS ?_ | with_reducible refine Rd.neS ?_
  | with_reducible refine Rd.and ?_ | with_reducible refine Rd.or ?_ | with_reducible refine Rd.not ?_ | with_reducible refine Rd.andV ?_ | with_reducible refine Rd.orV ?_ | with_reducible refine Rd.notV ?_ | with_reducible refine Rd.ifE ?_ | with_reducible refine Rd.chain ?_
  | with_reducible refine Rd.tup ?_ | with_reducible refine Rd.lst ?_ | with_reducible refine Rd.nxt ?_ | with_reducible refine Rd.retN ?_ | with_reducible refine Rd.drop ?_ | with_reducible refine Rd.brk ?_ | with_reducible refine Rd.cont ?_
  | with_reducible refine Rd.a1 ?_ | with_reducible refine Rd.a2 ?_ | with_reducible refine Rd.v2 ?_ | with_reducible refine Rd.int ?_ | with_reducible refine Rd.abs ?_ | with_reducible refine Rd.max2 ?_ | with_reducible refine Rd.min2 ?_ | with_reducible refine Rd.bm ?_ | with_reducible refine Rd.bm0 ?_ | with_reducible refine Rd.sl ?_ | with_reducible refine Rd.part ?_ | with_reducible refine Rd.noPart ?_ | with_reducible refine Rd.intE ?_ | with_reducible refine Rd.revL ?_ | with_reducible refine Rd.enx ?_ | with_reducible refine Rd.ebk ?_ | with_reducible refine Rd.ect ?_ | with_reducible refine Rd.ert ?_ | with_reducible refine Rd.gcons ?_ | with_reducible refine Rd.gnil ?_ | with_reducible refine Rd.par ?_ | with_reducible refine Rd.sub ?_ | with_reducible refine Rd.iter ?_ | with_reducible refine Rd.iterT ?_ | with_reducible refine Rd.rng1 ?_ | with_reducible refine Rd.refE ?_ | with_reducible refine Rd.aug rfl ?_ | with_reducible refine Rd.ipi ?_
  | with_reducible refine L2.iteT ?_ | with_reducible refine L2.iteF ?_
  | with_reducible refine Rd.iteb ?_ | with_reducible refine Rd.iten ?_ | with_reducible refine Rd.itbn ?_))

local macro_rules | `(tactic| walk_at "yes") => `(tactic| (refine (if_pos (by first | assumption | omega)).mpr ?_))
local macro_rules | `(tactic| walk_at "no") => `(tactic| (refine (if_neg (by first | assumption | omega)).mpr ?_))

namespace W
open PySem PySem.Spec PyProof.Rows L2
/-! ### promises -/
/-- an int: it is an integer -/
def sp_is_integer (K : PySem.W.Frag) : Sp := fun vs H Q _ => ∃ i, vs = [.int i] ∧ Q (.bl true) H
def sp_common (K : PySem.W.Frag) : Sp := fun vs H Q _ => ∃ a b : Int, vs = [.int a, .int b] ∧ Q (.int (Nat.gcd a.natAbs b.natAbs : Nat)) H
def sp_l_flag (K : PySem.W.Frag) : Sp := fun vs H Q _ => ∃ a b : Bool, vs = [.bl a, .bl b] ∧ Q (.bl (a == b)) H
section
variable {P : Program} {w : World} {K : PySem.W.Frag} {mg : Str → Option Value} {base : Heap}
theorem ok_is_integer (T : Txt K mg) : FnOk P w K mg base CX0 1 T.f_is_integer T.fd_is_integer ["value"] (sp_is_integer K) := by
  refine T.F_is_integer.ok sc_is_integer (fun vs H Q E h => ?_) (fun cdv A outer s H vs Q E hr h => ?_)
  · obtain ⟨i, rfl, _⟩ := h
    rfl
  · obtain ⟨i, rfl, k⟩ := h
    refine ⟨_, (pss_one (ps_ret (pe_and (pe_callB call_isi (by rfl) T.n_isinstance (by decide +kernel) (pa_cons (pv 0) (pa_cons (pe_bltn (v := .ty "int") (u := .type "int") (by rfl) T.n_int (by decide +kernel) rfl) pa_nil))) (pe_one (pe_not (pe_callB call_isi (by rfl) T.n_isinstance (by decide +kernel) (pa_cons (pv 0) (pa_cons (pe_bltn (v := .ty "bool") (u := .type "bool") (by rfl) T.n_bool (by decide +kernel) rfl) pa_nil)))))))), ?_⟩
    walk_at "rd"
    refine ⟨_, _, _, _, true, rfl, .ty "int", .base (.int i), kit_ty (by decide +kernel), ?_⟩
    walk_at "rd"
    refine ⟨_, _, _, _, false, rfl, .ty "bool", .base (.int i), kit_ty (by decide +kernel), ?_⟩
    walk_at "rd"
    exact k
theorem ok_l_flag (T : Txt K mg) : FnOk P w K mg base CX0 1 T.f_l_flag T.fd_l_flag ["_law_told", "_law_due"] (sp_l_flag K) := by
  refine T.F_l_flag.ok sc_l_flag (fun vs H Q E h => ?_) (fun cdv A outer s H vs Q E hr h => ?_)
  · obtain ⟨a, b, rfl, _⟩ := h
    rfl
  · obtain ⟨a, b, rfl, k⟩ := h
    refine ⟨_, (pss_one (ps_ret (pe_and (pe_callB call_isi (by rfl) T.n_isinstance (by decide +kernel) (pa_cons (pv 0) (pa_cons (pe_bltn (v := .ty "bool") (u := .type "bool") (by rfl) T.n_bool (by decide +kernel) rfl) pa_nil))) (pe_one (pe_cmpR op_eq (pv 0) (pv 1) (nomark _)))))), ?_⟩
    walk_at "rd"
    refine ⟨_, _, _, _, true, rfl, .ty "bool", .base (.bl a), kit_ty (by decide +kernel), ?_⟩
    walk_at "rd"
    exact k
theorem ok_common (T : Txt K mg) : FnOk P w K mg base CX0 1 T.f_common T.fd_common ["one", "other"] (sp_common K) := by
  refine T.F_common.ok sc_common (fun vs H Q E h => ?_) (fun cdv A outer s H vs Q E hr h => ?_)
  · obtain ⟨a, b, rfl, _⟩ := h
    rfl
  · obtain ⟨a, b, rfl, k⟩ := h
    refine ⟨_, (pss_cons (ps_set (i := 0) sc_common.nd rfl (.inl rfl) (pe_callB Rd.c_abs (by rfl) T.n_abs (by decide +kernel) (pa_cons (pv 0) pa_nil)))
  (pss_cons (ps_set (i := 1) sc_common.nd rfl (.inl rfl) (pe_callB Rd.c_abs (by rfl) T.n_abs (by decide +kernel) (pa_cons (pv 1) pa_nil)))
  (pss_cons (ps_while PassesOwn.never (pt_cmpR op_gt (pv 1) pe_int (nomark _))
  (pss_one (ps_par (i := 0) (j := 1) rfl sc_common.nd rfl rfl (by decide) rfl rfl (pa_cons (pv 1) (pa_cons (pe_op op_mod (pv 0) (pv 1)) pa_nil)) (by rfl))))
  (pss_one (ps_ret (pv 0)))))), ?_⟩
    walk_at "rd"
    refine Rd.whl (fun m σ H' => ∃ x : Nat, σ = [some (.int x), some (.int m)] ∧ Nat.gcd x m = Nat.gcd a.natAbs b.natAbs ∧ H' = H) ⟨b.natAbs, a.natAbs, rfl, rfl, rfl⟩ ?_
    rintro m _ _ ⟨x, rfl, e, rfl⟩
    walk_at "rd"
    refine ite2 (fun c => ?_) (fun c => ?_)
    · refine Rd.whN ?_
      walk_at "rd"
      refine Rd.iC c ?_
      walk_at "rd"
      have hm : 0 < m := by omega
      refine ⟨x % m, Nat.mod_lt _ hm, m, ?_, ?_, rfl⟩
      · rw [Int.natCast_emod]
        rfl
      · rw [← e, Nat.gcd_comm x m, Nat.gcd_rec m x, Nat.gcd_comm]
    · have hm : m = 0 := by omega
      subst hm
      walk_at "rd"
      rw [Nat.gcd_zero_right] at e
      rw [e]
      exact k
/-! ### the tape: a list of the cells (never written) and four ints; what is drawn lies below the size -/
/-- a tape stands at t, its cells at c -/
def Tape (H : Hp) (t c : Addr) : Prop := ∃ (ns : List Int) (x y z u : Int), t ≠ c ∧ H t = some (.lst [.ref c, .int x, .int y, .int z, .int u]) ∧ H c = some (.lst (ns.map V.int)) ∧ 0 ≤ x ∧ x ≤ ns.length ∧ 0 ≤ z ∧ z < 2147483647
theorem Tape.same {H H' : Hp} {t c : Addr} (h : Tape H t c) (s : Same H H') : Tape H' t c := by
  obtain ⟨ns, x, y, z, u, n, h1, h2, r⟩ := h
  exact ⟨ns, x, y, z, u, n, s _ _ h1, s _ _ h2, r⟩
theorem Tape.off {H H' : Hp} {t c l : Addr} (h : Tape H t c) (h1 : l ≠ t) (h2 : l ≠ c) (e : ∀ b, b ≠ l → H' b = H b) : Tape H' t c := by
  obtain ⟨ns, x, y, z, u, n, g1, g2, r⟩ := h
  exact ⟨ns, x, y, z, u, n, by rw [e t h1.symm]; exact g1, by rw [e c h2.symm]; exact g2, r⟩
theorem Tape.new {H : Hp} {t c l : Addr} (h : Tape H t c) (n : H l = none) : l ≠ t ∧ l ≠ c := by
  obtain ⟨ns, x, y, z, u, _, g1, g2, r⟩ := h
  exact ⟨(ne_of_none g1 n).symm, (ne_of_none g2 n).symm⟩
def sp_l_tape (K : PySem.W.Frag) : Sp := fun vs H Q _ => ∃ (a : Addr) (ns : List Int), vs = [.ref a] ∧ SqL K H a (ns.map V.int) ∧ ∀ t c H', Tape H' t c → Same H H' → H t = none → H c = none → Q (.ref t) H'
def sp_l_pick (K : PySem.W.Frag) : Sp := fun vs H Q _ => ∃ (t c : Addr) (n : Int), vs = [.ref t, .int n] ∧ Tape H t c ∧ 0 < n ∧ n < 1073741824 ∧ ∀ r H', 0 ≤ r → r < n → Tape H' t c → Rd.But t H H' → Q (.int r) H'
theorem ok_l_tape (T : Txt K mg) : FnOk P w K mg base CX0 1 T.f_l_tape T.fd_l_tape ["_law_script"] (sp_l_tape K) := by
  refine T.F_l_tape.ok sc_l_tape (fun vs H Q E h => ?_) (fun cdv A outer s H vs Q E hr h => ?_)
  · obtain ⟨a, ns, rfl, _⟩ := h
    rfl
  · obtain ⟨a, ns, rfl, hS, k⟩ := h
    refine ⟨_, (pss_one (ps_ret (pe_lst (pa_cons (pe_callTy Rd.c_listOf (by rfl) T.n_list (by decide +kernel) (pa_cons (pv 0) pa_nil)) (pa_cons pe_int (pa_cons pe_int (pa_cons pe_int (pa_cons pe_int pa_nil)))))))), ?_⟩
    walk_at "rd"
    refine Rd.listOf (.inl hS) (Rd.new fun c G hc gc s1 => ?_)
    walk_at "rd"
    refine ⟨Nat.le_of_ble_eq_true rfl, Rd.new fun t G2 ht gt s2 => ?_⟩
    have tc : c ≠ t := ne_of_none gc ht
    exact k t c _ ⟨ns, 0, 0, 1, 0, tc.symm, gt, s2 _ _ gc, by decide, by omega, by decide, by decide⟩ (s1.trans s2) (s1.free ht) hc
theorem ok_l_pick (T : Txt K mg) : FnOk P w K mg base CX0 1 T.f_l_pick T.fd_l_pick ["_law_tape_here", "_law_size"] (sp_l_pick K) := by
  refine T.F_l_pick.ok sc_l_pick (fun vs H Q E h => ?_) (fun cdv A outer s H vs Q E hr h => ?_)
  · obtain ⟨t, c, n, rfl, _⟩ := h
    rfl
  · obtain ⟨t, c, n, rfl, ⟨ns, x, y, z, u, tc, h1, h2, x0, x1, z0, z1⟩, n0, n1, k⟩ := h
    refine ⟨_, (pss_cons (ps_if (pt_cmpR op_gt (pe_ix ix_list (pv 0) pe_int (fun _ _ => rfl)) pe_int (nomark _))
  (pss_cons (ps_set (i := 2) sc_l_pick.nd rfl (.inl rfl) (pe_op op_mod (pe_callTy Rd.c_int (by rfl) T.n_int (by decide +kernel) (pa_cons (pe_ix ix_list (pv 0) pe_int (fun _ _ => rfl)) pa_nil)) (pv 1)))
  (pss_cons (ps_asg (pe_op op_fdiv (pe_ix ix_list (pv 0) pe_int (fun _ _ => rfl)) (pv 1)) (pg_sub (pv 0) pe_int set_list))
  (pss_one (ps_ret (pv 2)))))
  pss_nil)
  (pss_cons (ps_asg (pe_op op_add (pe_ix ix_list (pv 0) pe_int (fun _ _ => rfl)) pe_int) (pg_sub (pv 0) pe_int set_list))
  (pss_cons (ps_set (i := 3) sc_l_pick.nd rfl (.inl rfl) pe_int)
  (C8.pss_cut (ps_if (pt_cmpR op_lt (pe_ix ix_list (pv 0) pe_int (fun _ _ => rfl)) (pe_callB Rd.c_len (by rfl) T.n_len (by decide +kernel) (pa_cons (pe_ix ix_list (pv 0) pe_int (fun _ _ => rfl)) pa_nil)) (nomark _))
  (pss_cons (ps_set (i := 3) sc_l_pick.nd rfl (.inl rfl) (pe_ix ix_list (pe_ix ix_list (pv 0) pe_int (fun _ _ => rfl)) (pe_ix ix_list (pv 0) pe_int (fun _ _ => rfl)) (fun _ _ => rfl)))
  (pss_one (ps_asg (pe_op op_add (pe_ix ix_list (pv 0) pe_int (fun _ _ => rfl)) pe_int) (pg_sub (pv 0) pe_int set_list))))
  pss_nil)
  (pss_cons (ps_if (pt_cmpR op_ge (pv 3) (pe_op op_pow pe_int pe_int) (nomark _))
  (pss_cons (ps_asg (pe_op op_fdiv (pv 3) (pv 1)) (pg_sub (pv 0) pe_int set_list))
  (pss_one (ps_ret (pe_op op_mod (pe_callTy Rd.c_int (by rfl) T.n_int (by decide +kernel) (pa_cons (pv 3) pa_nil)) (pv 1)))))
  pss_nil)
  (pss_cons (ps_set (i := 4) sc_l_pick.nd rfl (.inl rfl) (pe_op op_mod (pe_callTy Rd.c_int (by rfl) T.n_int (by decide +kernel) (pa_cons (pe_op op_add (pe_op op_add (pe_op op_mul (pe_ix ix_list (pv 0) pe_int (fun _ _ => rfl)) pe_int) (pe_op op_mod (pe_callTy Rd.c_int (by rfl) T.n_int (by decide +kernel) (pa_cons (pv 3) pa_nil)) pe_int)) (pe_op op_mul (pe_ix ix_list (pv 0) pe_int (fun _ _ => rfl)) pe_int)) pa_nil)) pe_int))
  (pss_cons (ps_set (i := 4) sc_l_pick.nd rfl (.inl rfl) (pe_op op_mod (pe_callTy Rd.c_int (by rfl) T.n_int (by decide +kernel) (pa_cons (pe_op op_mul (pv 4) (pe_op op_add (pe_op op_fdiv (pv 4) pe_int) pe_int)) pa_nil)) pe_int))
  (pss_cons (ps_asg (pv 4) (pg_sub (pv 0) pe_int set_list))
  (pss_one (ps_ret (pe_op op_mod (pe_callTy Rd.c_int (by rfl) T.n_int (by decide +kernel) (pa_cons (pe_op op_fdiv (pv 4) pe_int) pa_nil)) (pv 1)))))))))))), ?_⟩
    walk_at "rd"
    refine Rd.ixL (.of h1) (atI_nat (j := 2) rfl) ?_
    walk_at "rd"
    refine ite2 (fun q => ?_) (fun q => ?_)
    · walk_at "rd"
      refine Rd.ixL (.of h1) (atI_nat (j := 2) rfl) ?_
      walk_at "rd"
      refine Rd.iC n0 ?_
      walk_at "rd"
      refine Rd.ixL (.of h1) (atI_nat (j := 2) rfl) ?_
      walk_at "rd"
      refine Rd.iC ⟨n0, n1⟩ ?_
      walk_at "rd"
      refine Rd.setG h1 (show ixN 5 2 = some 2 by decide) rfl fun G g1 gb => ?_
      walk_at "rd"
      exact k _ _ (Int.emod_nonneg _ (by omega)) (Int.emod_lt_of_pos _ n0) ⟨ns, x, _, z, u, tc, g1, by rw [gb _ tc.symm]; exact h2, x0, x1, z0, z1⟩ (fun b o hb e => by rw [gb b hb]; exact e)
    · walk_at "rd"
      refine Rd.ixL (.of h1) (atI_nat (j := 4) rfl) ?_
      walk_at "rd"
      refine Rd.setG h1 (show ixN 5 4 = some 4 by decide) rfl fun G g1 gb => ?_
      have g2 : G c = some (.lst (ns.map V.int)) := by rw [gb _ tc.symm]; exact h2
      walk_at "rd"
      -- the cell m is read (or 0)
      refine Rd.cut (fun σ G' => ∃ x' m : Int, σ = [some (.ref t), some (.int n), none, some (.int m), none] ∧ 0 ≤ x' ∧ x' ≤ ns.length ∧ G' t = some (.lst [.ref c, .int x', .int y, .int z, .int (u + 1)]) ∧ (∀ b, b ≠ t → G' b = H b)) ?_ ?_
      · walk_at "rd"
        refine Rd.ixL (.of g1) (atI_nat (j := 1) rfl) ?_
        walk_at "rd"
        refine Rd.ixL (.of g1) (atI_nat (j := 0) rfl) ?_
        walk_at "rd"
        refine Rd.len (.inl (.of g2)) ?_
        rw [List.length_map]
        walk_at "rd"
        refine ite2 (fun q2 => ?_) (fun q2 => ?_)
        · walk_at "rd"
          refine Rd.ixL (.of g1) (atI_nat (j := 0) rfl) ?_
          walk_at "rd"
          refine Rd.ixL (.of g1) (atI_nat (j := 1) rfl) ?_
          have hx : x.toNat < ns.length := by omega
          refine Rd.ixL (.of g2) (Rd.atI_of x0 (Rd.map_int hx)) ?_
          walk_at "rd"
          refine Rd.ixL (.of g1) (atI_nat (j := 1) rfl) ?_
          walk_at "rd"
          refine Rd.setG g1 (show ixN 5 1 = some 1 by decide) rfl fun G2 k1 kb => ?_
          walk_at "rd"
          exact ⟨x + 1, _, rfl, by omega, by omega, k1, fun b hb => (kb b hb).trans (gb b hb)⟩
        · walk_at "rd"
          exact ⟨x, 0, rfl, x0, x1, g1, gb⟩
      · rintro _ G' ⟨x', m, rfl, x'0, x'1, e1, eb⟩
        have e2 : G' c = some (.lst (ns.map V.int)) := by rw [eb _ tc.symm]; exact h2
        walk_at "rd"
        refine Rd.iC ⟨by decide, by decide, by decide⟩ ?_
        walk_at "rd"
        refine ite2 (fun q2 => ?_) (fun q2 => ?_)
        · walk_at "rd"
          refine Rd.iC ⟨n0, n1⟩ ?_
          walk_at "rd"
          refine Rd.setG e1 (show ixN 5 2 = some 2 by decide) rfl fun G2 k1 kb => ?_
          walk_at "rd"
          refine Rd.iC n0 ?_
          walk_at "rd"
          exact k _ _ (Int.emod_nonneg _ (by omega)) (Int.emod_lt_of_pos _ n0) ⟨ns, x', _, z, u + 1, tc, k1, by rw [kb _ tc.symm]; exact e2, x'0, x'1, z0, z1⟩ (fun b o hb e => by rw [kb b hb, eb b hb]; exact e)
        · walk_at "rd"
          refine Rd.ixL (.of e1) (atI_nat (j := 3) rfl) ?_
          walk_at "rd"
          refine Rd.iC (.inr (by decide)) ?_
          walk_at "rd"
          refine Rd.iC (by decide) ?_
          walk_at "rd"
          refine Rd.ixL (.of e1) (atI_nat (j := 4) rfl) ?_
          walk_at "rd"
          refine Rd.iC (.inr (by decide)) ?_
          walk_at "rd"
          refine Rd.iC (by decide) ?_
          generalize hM : (z * 48271 + m % 2147483629 + (u + 1) * 69621) % 2147483647 = M
          have M0 : 0 ≤ M := by rw [← hM]; exact Int.emod_nonneg _ (by decide)
          have M1 : M < 2147483647 := by rw [← hM]; exact Int.emod_lt_of_pos _ (by decide)
          walk_at "rd"
          refine Rd.iC ⟨by decide, by decide⟩ ?_
          walk_at "rd"
          refine Rd.iC (.inl ⟨by omega, by omega⟩) ?_
          walk_at "rd"
          refine Rd.iC (by decide) ?_
          generalize hN : M * (M / 1009 + 40692) % 2147483399 = N
          have N0 : 0 ≤ N := by rw [← hN]; exact Int.emod_nonneg _ (by decide)
          have N1 : N < 2147483399 := by rw [← hN]; exact Int.emod_lt_of_pos _ (by decide)
          walk_at "rd"
          refine Rd.setG e1 (show ixN 5 3 = some 3 by decide) rfl fun G2 k1 kb => ?_
          walk_at "rd"
          refine Rd.iC ⟨by decide, by decide⟩ ?_
          walk_at "rd"
          refine Rd.iC n0 ?_
          walk_at "rd"
          exact k _ _ (Int.emod_nonneg _ (by omega)) (Int.emod_lt_of_pos _ n0) ⟨ns, x', y, N, u + 1, tc, k1, by rw [kb _ tc.symm]; exact e2, x'0, x'1, N0, by omega⟩ (fun b o hb e => by rw [kb b hb, eb b hb]; exact e)
end
end W



namespace W
open PySem PySem.Spec PyProof.Rows L2
/-- some lengths: one to eight, each from 1 to 60 -/
structure Lens (ns : List Int) : Prop where
  l0 : 1 ≤ ns.length
  l1 : ns.length ≤ 8
  all : ∀ n ∈ ns, 1 ≤ n ∧ n ≤ 60
def sp_check_lengths (K : PySem.W.Frag) : Sp := fun vs H Q _ => ∃ (a : Addr) (ns : List Int), vs = [.ref a] ∧ Ru.SqR K H a (ns.map V.int) ∧ Lens ns ∧ ∀ H', Same H H' → Q .non H'
def sp_divisor_of (K : PySem.W.Frag) : Sp := fun vs H Q _ => ∃ (a : Addr) (ns : List Int), vs = [.ref a] ∧ Ru.SqR K H a (ns.map V.int) ∧ ∀ H', Same H H' → Q (.int (M85.gcdL ns : Nat)) H'
section
variable {P : Program} {w : World} {K : PySem.W.Frag} {mg : Str → Option Value} {base : Heap}
theorem ok_check_lengths (T : Txt K mg) : FnOk P w K mg base CX0 2 T.f_check_lengths T.fd_check_lengths ["lengths"] (sp_check_lengths K) := by
  refine T.F_check_lengths.ok sc_check_lengths (fun vs H Q E h => ?_) (fun cdv A outer s H vs Q E hr h => ?_)
  · obtain ⟨a, ns, rfl, _⟩ := h
    rfl
  · obtain ⟨a, ns, rfl, hS, L, k⟩ := h
    refine ⟨_, (pss_cons (ps_if (PW.pt (pw_or (pt_not (pt_val (pe_callB call_isiT (by rfl) T.n_isinstance (by decide +kernel) (pa_cons (pv 0) (pa_cons (pe_tup (pa_cons (pe_bltn (v := .ty "list") (u := .type "list") (by rfl) T.n_list (by decide +kernel) rfl) (pa_cons (pe_bltn (v := .ty "tuple") (u := .type "tuple") (by rfl) T.n_tuple (by decide +kernel) rfl) pa_nil))) pa_nil))))) (pw_or1 (pt_not (pt_chain op_le op_le pe_int (pe_callB Rd.c_len (by rfl) T.n_len (by decide +kernel) (pa_cons (pv 0) pa_nil)) (pe_glob (v := .int 8) rfl T.m_MOST_LENGTHS ⟨_, rfl⟩))))))
  (pss_one ps_never)
  pss_nil)
  (pss_one (ps_for PassesOwn.never rfl (Ru.pi_or (pi_enum (by rfl) T.n_enumerate (pa_cons (pv 0) pa_nil)) (Ru.pi_enumT (by rfl) T.n_enumerate (pa_cons (pv 0) pa_nil))) (pg_tup rfl (pgs_cons (pg_name (i := 1) sc_check_lengths.nd rfl (.inl rfl)) (pgs_cons (pg_name (i := 2) sc_check_lengths.nd rfl (.inl rfl)) pgs_nil)))
  (pss_one (ps_if (PW.pt (pw_or (pt_not (pt_val (pe_call (ok_is_integer T) (hr.mono (by decide)) rfl T.g_is_integer T.F_is_integer.kp T.b_is_integer .nil pass0 (pa_cons (pv 2) pa_nil)))) (pw_or1 (pt_not (pt_chain op_le op_le pe_int (pv 2) (pe_glob (v := .int 60) rfl T.m_MOST_LENGTH ⟨_, rfl⟩))))))
  (pss_one ps_never)
  pss_nil))))), ?_⟩
    walk_at "rd"
    refine ⟨Nat.le_of_ble_eq_true rfl, Rd.new fun p G hp gp sG => ?_⟩
    walk_at "rd"
    refine Ru.isRow (hS.same sG) gp ?_
    walk_at "rd"
    refine Rd.len (hS.same sG) ?_
    rw [List.length_map]
    have l0 := L.l0
    have l1 := L.l1
    walk_at "rd"
    walk_at "yes"
    walk_at "rd"
    walk_at "yes"
    walk_at "rd"
    refine Ru.for_enumR (a := a) (xs := ns.map V.int) (fun Q q => ?_) (fun i σ H' => ∃ x y, σ = [some (.ref a), x, y] ∧ Same G H') (hS.same sG) ⟨_, _, rfl, Same.refl _⟩ (fun i σ H' _ ⟨_, _, _, z⟩ => z) ?_ ?_
    · walk_at "rd"
      exact q
    · rintro i x _ H' t hx ⟨_, _, rfl, sm⟩ hT
      obtain ⟨n, hn, rfl⟩ := Rd.map_get hx
      have r := L.all n (List.mem_of_getElem? hn)
      refine Rd.tupT (.of upd_same) rfl ?_
      walk_at "rd"
      refine ⟨_, rfl, ?_⟩
      walk_at "rd"
      walk_at "yes"
      walk_at "rd"
      walk_at "yes"
      walk_at "rd"
      exact ⟨_, _, rfl, sm.trans (Rd.same_upd hT)⟩
    · rintro _ H' ⟨_, _, rfl, sm⟩
      walk_at "rd"
      exact k _ (Same.trans sG sm)
theorem ok_divisor_of (T : Txt K mg) : FnOk P w K mg base CX0 2 T.f_divisor_of T.fd_divisor_of ["lengths"] (sp_divisor_of K) := by
  refine T.F_divisor_of.ok sc_divisor_of (fun vs H Q E h => ?_) (fun cdv A outer s H vs Q E hr h => ?_)
  · obtain ⟨a, ns, rfl, _⟩ := h
    rfl
  · obtain ⟨a, ns, rfl, hS, k⟩ := h
    refine ⟨_, (pss_cons (ps_set (i := 1) sc_divisor_of.nd rfl (.inl rfl) pe_int)
  (pss_cons (ps_for PassesOwn.never rfl (Ru.pi_or (pi_list (pv 0)) (pi_tup (pv 0))) (pg_name (i := 2) sc_divisor_of.nd rfl (.inl rfl))
  (pss_one (ps_set (i := 1) sc_divisor_of.nd rfl (.inl rfl) (pe_call (ok_common T) (hr.mono (by decide)) rfl T.g_common T.F_common.kp T.b_common .nil pass0 (pa_cons (pv 2) (pa_cons (pv 1) pa_nil))))))
  (pss_one (ps_ret (pv 1))))), ?_⟩
    walk_at "rd"
    refine Ru.for_row (a := a) (xs := ns.map V.int) (fun Q q => ?_) (fun i σ H' => ∃ x, σ = [some (.ref a), some (.int ((ns.take i).foldl (fun g l => Nat.gcd l.natAbs g) 0 : Nat)), x] ∧ Same H H') hS ⟨_, rfl, Same.refl _⟩ (fun i σ H' _ ⟨_, _, z⟩ => z) ?_ ?_
    · walk_at "rd"
      exact q
    · rintro i x _ H' hx ⟨_, rfl, sm⟩
      obtain ⟨n, hn, rfl⟩ := Rd.map_get hx
      walk_at "rd"
      refine ⟨_, _, rfl, ?_⟩
      walk_at "rd"
      refine ⟨some (.int n), ?_, sm⟩
      rw [Rd.take_snoc hn, List.foldl_append]
      rfl
    · rintro _ H' ⟨_, rfl, sm⟩
      rw [List.length_map, List.take_length]
      walk_at "rd"
      exact k _ sm
end
end W



namespace W
open PySem PySem.Spec PyProof.Rows L2
def sp_far_from (K : PySem.W.Frag) : Sp := fun vs H Q _ => ∃ (a : Addr) (ns : List Int), vs = [.ref a] ∧ Ru.SqR K H a (ns.map V.int) ∧ Lens ns ∧
  ∀ H' r, Same H H' → 0 ≤ r → r ≤ 120 → (∀ n, r ≤ n → ns.Pairwise fun x y => x + y ≤ n) → Q (.int r) H'
def sp_steps_reach (K : PySem.W.Frag) : Sp := fun vs H Q _ => ∃ (a : Addr) (ns : List Int) (last : Int), vs = [.ref a, .int last] ∧ Ru.SqR K H a (ns.map V.int) ∧ 0 ≤ last ∧ last ≤ 1000000 ∧
  ∀ H' b, Same H H' → (b = true ↔ M85.Reach ns last last) → Q (.bl b) H'
section
variable {P : Program} {w : World} {K : PySem.W.Frag} {mg : Str → Option Value} {base : Heap}
theorem ok_far_from (T : Txt K mg) : FnOk P w K mg base CX0 1 T.f_far_from T.fd_far_from ["lengths"] (sp_far_from K) := by
  refine T.F_far_from.ok sc_far_from (fun vs H Q E h => ?_) (fun cdv A outer s H vs Q E hr h => ?_)
  · obtain ⟨a, ns, rfl, _⟩ := h
    rfl
  · obtain ⟨a, ns, rfl, hS, L, k⟩ := h
    refine ⟨_, (pss_one (ps_ret (pe_ifExp (pt_cmpR op_gt (pe_callB Rd.c_len (by rfl) T.n_len (by decide +kernel) (pa_cons (pv 0) pa_nil)) pe_int (nomark _)) (pe_callB (cr_sum rfl) (by rfl) T.n_sum (by decide +kernel) (pa_cons (pe_slice sl_list (pe_callB (Ru.callR_or cr_sortedI Ru.cr_sortedTup) (by rfl) T.n_sorted (by decide +kernel) (pa_cons (pv 0) pa_nil)) (po_some (pe_un un_neg pe_int)) po_none) pa_nil)) pe_int))), ?_⟩
    walk_at "rd"
    refine Rd.len hS ?_
    rw [List.length_map]
    walk_at "rd"
    refine ite2 (fun c => ?_) (fun c => ?_)
    · walk_at "rd"
      refine Ru.sortedR hS fun ms p G hp hs gp sG np => ?_
      walk_at "rd"
      have hl : 2 ≤ ms.length := by rw [hp.length_eq]; omega
      obtain ⟨st, b, x, rfl⟩ := Rd.last2 hl
      refine Rd.slL (.of gp) (Rd.new fun p2 G2 np2 gp2 sG2 => ?_)
      rw [Rd.cut_last2] at gp2
      walk_at "rd"
      refine Rd.sum (.of gp2) ?_
      have hb : b ∈ ns := hp.mem_iff.mp (by simp)
      have hx : x ∈ ns := hp.mem_iff.mp (by simp)
      have b1 := L.all b hb
      have x1 := L.all x hx
      have e : [b, x].sum = b + x := by simp
      rw [e]
      exact k _ _ (sG.trans sG2) (by omega) (by omega) fun n hn => M85.pairs_of_sorted hp hs hn
    · walk_at "rd"
      refine k _ _ (Same.refl H) (by omega) (by omega) fun n hn => ?_
      match ns, c, L.l0 with
      | [z], _, _ => exact List.pairwise_singleton _ _
      | [], _, q => exact absurd q (by decide)
      | _ :: _ :: _, c, _ => exact absurd c (by simp; omega)
theorem ok_steps_reach (T : Txt K mg) : FnOk P w K mg base CX0 1 T.f_steps_reach T.fd_steps_reach ["lengths", "last"] (sp_steps_reach K) := by
  refine T.F_steps_reach.ok sc_steps_reach (fun vs H Q E h => ?_) (fun cdv A outer s H vs Q E hr h => ?_)
  · obtain ⟨a, ns, last, rfl, _⟩ := h
    rfl
  · obtain ⟨a, ns, last, rfl, hS, l0, l1, k⟩ := h
    refine ⟨_, (pss_cons (ps_set (i := 2) sc_steps_reach.nd rfl (.inl rfl) (pe_op op_rep (pe_lst (pa_cons pe_bl pa_nil)) (pe_op op_add (pv 1) pe_int)))
  (pss_cons (ps_asg pe_bl (pg_sub (pv 2) pe_int set_list))
  (pss_cons (ps_set (i := 3) sc_steps_reach.nd rfl (.inl rfl) (pe_lst (pa_cons pe_int pa_nil)))
  (pss_cons (ps_set (i := 4) sc_steps_reach.nd rfl (.inl rfl) pe_int)
  (pss_cons (ps_while PassesOwn.never (pt_cmpR op_lt (pv 4) (pe_callB Rd.c_len (by rfl) T.n_len (by decide +kernel) (pa_cons (pv 3) pa_nil)) (nomark _))
  (pss_cons (ps_for PassesOwn.never rfl (Ru.pi_or (pi_list (pv 0)) (pi_tup (pv 0))) (pg_name (i := 5) sc_steps_reach.nd rfl (.inl rfl))
  (pss_one (ps_for PassesOwn.never rfl (pi_tup (pe_tup (pa_cons (pe_op op_sub (pe_ix ix_list (pv 3) (pv 4) (fun _ _ => rfl)) (pv 5)) (pa_cons (pe_op op_add (pe_ix ix_list (pv 3) (pv 4) (fun _ _ => rfl)) (pv 5)) pa_nil)))) (pg_name (i := 6) sc_steps_reach.nd rfl (.inl rfl))
  (pss_one (ps_if (PW.pt (pw_and (pt_chain op_le op_le pe_int (pv 6) (pv 1)) (pw_and1 (pt_not (pt_val (pe_ix ix_list (pv 2) (pv 6) (fun _ _ => rfl)))))))
  (pss_cons (ps_asg pe_bl (pg_sub (pv 2) (pv 6) set_list))
  (pss_one (ps_expr (pe_bm PySem.F.plainAttrs_list PySem.F.slot_list_append PySem.F.type_list_append mt_append (pv 3) (pa_cons (pv 6) pa_nil)))))
  pss_nil)))))
  (pss_one (ps_aug (i := 4) sc_steps_reach.nd rfl (.inl rfl) pe_int ip_add))))
  (pss_one (ps_ret (pe_ix ix_list (pv 2) (pv 1) (fun _ _ => rfl))))))))), ?_⟩
    walk_at "rd"
    refine ⟨Nat.le_of_ble_eq_true rfl, Rd.new fun p0 G0 np0 gp0 sG0 => ?_⟩
    walk_at "rd"
    have et : (last + 1).toNat = last.toNat + 1 := by omega
    refine Rd.rep gp0 (by omega) (by omega) (by rw [et, sizeLine_eq]; show 1 * _ ≤ _; omega) (Rd.new fun m G1 npm gpm sG1 => ?_)
    rw [Rd.rep_map, et] at gpm
    walk_at "rd"
    refine Rd.setG gpm (show ixN ((List.replicate (last.toNat + 1) false).map V.bl).length 0 = some 0 from Rd.ixN_of (by decide) (by simp; omega)) (Rd.map_set V.bl _ _ _) fun G2 g2 gb2 => ?_
    walk_at "rd"
    refine ⟨Nat.le_of_ble_eq_true rfl, Rd.new fun f G3 npf gpf sG3 => ?_⟩
    walk_at "rd"
    have nm : H m = none := (sG0.free npm)
    have s2 : Same H G2 := fun b o e => by rw [gb2 b (ne_of_none e nm)]; exact sG1 _ _ (sG0 _ _ e)
    have nf : H f = none := s2.free npf
    have mf : m ≠ f := ne_of_none g2 npf
    have s3 : Same H G3 := s2.trans sG3
    have gm3 := sG3 _ _ g2
    have gf3 : G3 f = some (.lst (([0] : List Int).map V.int)) := gpf
    refine Rd.whl (fun mu σ H' => ∃ (n : Nat) (met : List Bool) (found : List Int) (o1 o2 : Option V), σ = [some (.ref a), some (.int last), some (.ref m), some (.ref f), some (.int n), o1, o2] ∧ Same H H' ∧ H' m = some (.lst (met.map V.bl)) ∧ H' f = some (.lst (found.map V.int)) ∧
      M85.Good ns last met found ∧ M85.Closed ns last found n ∧ n ≤ found.length ∧ mu = last.toNat + 1 - n)
      ⟨_, 0, _, [0], none, none, rfl, s3, gm3, gf3, M85.Good.start l0, M85.Closed.zero, Nat.zero_le _, rfl⟩ ?_
    rintro mu _ H' ⟨n, met, found, o1, o2, rfl, sm, hm, hf, good, cl, nl, rfl⟩
    walk_at "rd"
    refine Rd.len (.inl (.of hf)) ?_
    rw [List.length_map]
    walk_at "rd"
    refine ite2 (fun c => ?_) (fun c => ?_)
    · -- a turn
      have c' : n < found.length := by omega
      have fl := good.le
      refine Rd.whN ?_
      walk_at "rd"
      obtain ⟨x, hx⟩ : ∃ x, found[n]? = some x := ⟨_, List.getElem?_eq_getElem c'⟩
      have xr := good.reach x (List.mem_of_getElem? hx)
      refine Ru.for_row (a := a) (xs := ns.map V.int) (fun Q q => ?_) (fun i σ H' => ∃ (met : List Bool) (found : List Int) (o1 o2 : Option V), σ = [some (.ref a), some (.int last), some (.ref m), some (.ref f), some (.int n), o1, o2] ∧ Same H H' ∧ H' m = some (.lst (met.map V.bl)) ∧ H' f = some (.lst (found.map V.int)) ∧
        M85.Good ns last met found ∧ M85.Closed ns last found n ∧ n < found.length ∧ found[n]? = some x ∧ M85.Near (ns.take i) last found x) hS
        ⟨met, found, o1, o2, rfl, sm, hm, hf, good, cl, c', hx, M85.Near.nil⟩ (fun i σ H' _ ⟨_, _, _, _, _, z, _⟩ => z) ?_ ?_
      · walk_at "rd"
        exact q
      · -- a length
        rintro i y _ H' hy ⟨met, found, o1, o2, rfl, sm, hm, hf, good, cl, c', hx, near⟩
        obtain ⟨l, hl, rfl⟩ := Rd.map_get hy
        have lm := List.mem_of_getElem? hl
        walk_at "rd"
        refine Rd.forS ?_
        walk_at "rd"
        have hx' : (found.map V.int)[n]? = some (.int x) := by rw [List.getElem?_map, hx]; rfl
        refine Rd.ixL (.of hf) (atI_nat hx') ?_
        walk_at "rd"
        refine Rd.ixL (.of hf) (atI_nat hx') ?_
        walk_at "rd"
        refine ⟨Nat.le_of_ble_eq_true rfl, Rd.new fun tp G4 np4 gp4 sG4 => ?_⟩
        walk_at "rd"
        have tm : tp ≠ m := (ne_of_none hm np4).symm
        have tf : tp ≠ f := (ne_of_none hf np4).symm
        refine ⟨⟨_, .of gp4⟩, for_tup (K := K) (a := tp) (xs := [.int (x - l), .int (x + l)]) (fun j σ H' => ∃ (met : List Bool) (found : List Int) (o2 : Option V), σ = [some (.ref a), some (.int last), some (.ref m), some (.ref f), some (.int n), some (.int l), o2] ∧ Same H H' ∧ H' tp = some (.tup [.int (x - l), .int (x + l)]) ∧ H' m = some (.lst (met.map V.bl)) ∧ H' f = some (.lst (found.map V.int)) ∧
          M85.Good ns last met found ∧ M85.Closed ns last found n ∧ n < found.length ∧ found[n]? = some x ∧ M85.Near (ns.take i) last found x ∧ (1 ≤ j → 0 ≤ x - l → x - l ≤ last → x - l ∈ found) ∧ (2 ≤ j → 0 ≤ x + l → x + l ≤ last → x + l ∈ found))
          ⟨met, found, o2, rfl, sm.trans sG4, gp4, sG4 _ _ hm, sG4 _ _ hf, good, cl, c', hx, near, fun z => absurd z (by decide), fun z => absurd z (by decide)⟩ (fun j σ H' _ ⟨_, _, _, _, _, z, _⟩ => .of z) ?_ ?_⟩
        · -- a spot
          rintro j z _ H' hz ⟨met, found, o2, rfl, sm, ht, hm, hf, good, cl, c', hx, near, n1, n2⟩
          obtain ⟨t, rfl, et, ej⟩ : ∃ t, z = V.int t ∧ (t = x + l ∨ t = x - l) ∧ ((j = 0 ∧ t = x - l) ∨ (j = 1 ∧ t = x + l)) := by
            match j, hz with
            | 0, hz => cases hz; exact ⟨_, rfl, .inr rfl, .inl ⟨rfl, rfl⟩⟩
            | 1, hz => cases hz; exact ⟨_, rfl, .inl rfl, .inr ⟨rfl, rfl⟩⟩
            | j + 2, hz => simp at hz
          -- what is found when the spot is passed over or put in
          have fin : ∀ (met' : List Bool) (found' : List Int) (H2 : Hp), Same H H2 → H2 tp = some (.tup [.int (x - l), .int (x + l)]) → H2 m = some (.lst (met'.map V.bl)) → H2 f = some (.lst (found'.map V.int)) → M85.Good ns last met' found' → (found' = found ∨ found' = found ++ [t]) → (0 ≤ t → t ≤ last → t ∈ found') →
              ∃ (met : List Bool) (found : List Int) (o2 : Option V), [some (V.ref a), some (.int last), some (.ref m), some (.ref f), some (.int n), some (.int l), some (.int t)] = [some (.ref a), some (.int last), some (.ref m), some (.ref f), some (.int n), some (.int l), o2] ∧ Same H H2 ∧ H2 tp = some (.tup [.int (x - l), .int (x + l)]) ∧ H2 m = some (.lst (met.map V.bl)) ∧ H2 f = some (.lst (found.map V.int)) ∧
                M85.Good ns last met found ∧ M85.Closed ns last found n ∧ n < found.length ∧ found[n]? = some x ∧ M85.Near (ns.take i) last found x ∧ (1 ≤ j + 1 → 0 ≤ x - l → x - l ≤ last → x - l ∈ found) ∧ (2 ≤ j + 1 → 0 ≤ x + l → x + l ≤ last → x + l ∈ found) := by
            intro met' found' H2 sm2 ht2 hm2 hf2 g2 ef hin
            refine ⟨met', found', _, rfl, sm2, ht2, hm2, hf2, g2, ?_⟩
            rcases ef with rfl | rfl
            · refine ⟨cl, c', hx, near, fun _ => ?_, fun q => ?_⟩
              · rcases ej with ⟨rfl, rfl⟩ | ⟨rfl, rfl⟩
                · exact hin
                · exact n1 (by omega)
              · rcases ej with ⟨rfl, rfl⟩ | ⟨rfl, rfl⟩
                · omega
                · exact hin
            · refine ⟨cl.more (by omega) _, by rw [List.length_append]; omega, by rw [List.getElem?_append_left c']; exact hx, near.more _, fun _ => ?_, fun q => ?_⟩
              · rcases ej with ⟨rfl, rfl⟩ | ⟨rfl, rfl⟩
                · exact hin
                · exact fun p0 p1 => List.mem_append_left _ (n1 (by omega) p0 p1)
              · rcases ej with ⟨rfl, rfl⟩ | ⟨rfl, rfl⟩
                · omega
                · exact hin
          walk_at "rd"
          refine ite2 (fun p0 => ?_) (fun p0 => ?_)
          · walk_at "rd"
            refine ite2 (fun p1 => ?_) (fun p1 => ?_)
            · obtain ⟨b, hb, hbi⟩ := good.at p0 p1
              walk_at "rd"
              refine Rd.ixL (.of hm) (Rd.atI_of p0 (show (met.map V.bl)[t.toNat]? = some (.bl b) by rw [List.getElem?_map, hb]; rfl)) ?_
              walk_at "rd"
              cases b with
              | true =>
                walk_at "rd"
                exact fin met found H' sm ht hm hf good (.inl rfl) fun _ _ => hbi.mp rfl
              | false =>
                walk_at "rd"
                have ml := good.len
                refine Rd.setG hm (Rd.ixN_of p0 (by rw [List.length_map]; omega)) (Rd.map_set V.bl _ _ _) fun G5 g5 gb5 => ?_
                walk_at "rd"
                have hf5 : G5 f = some (.lst (found.map V.int)) := by rw [gb5 f mf.symm]; exact hf
                have fl := good.le
                refine Rd.tyL (.of hf5) ?_
                walk_at "rd"
                refine Rd.app hf5 (by rw [List.length_map, sizeLine_eq]; omega) fun G6 g6 gb6 => ?_
                walk_at "rd"
                have nw : M85.Reach ns last t := .step xr lm et p0 p1
                refine fin (met.set t.toNat true) (found ++ [t]) G6 (fun b o e => ?_) ?_ ?_ ?_ (good.visit p0 p1 hb nw) (.inr rfl) fun _ _ => List.mem_append_right _ List.mem_cons_self
                · rw [gb6 b (ne_of_none e nf), gb5 b (ne_of_none e nm)]
                  exact sm _ _ e
                · rw [gb6 tp tf, gb5 tp tm]
                  exact ht
                · rw [gb6 m mf]
                  exact g5
                · rw [List.map_append]
                  exact g6
            · walk_at "rd"
              exact fin met found H' sm ht hm hf good (.inl rfl) fun _ q => absurd q p1
          · walk_at "rd"
            exact fin met found H' sm ht hm hf good (.inl rfl) fun q _ => absurd q p0
        · -- both spots are met
          rintro _ H' ⟨met, found, o2, rfl, sm, ht, hm, hf, good, cl, c', hx, near, n1, n2⟩
          refine ⟨met, found, _, _, rfl, sm, hm, hf, good, cl, c', hx, ?_⟩
          rw [Rd.take_snoc hl]
          exact near.snoc (n2 (Nat.le_refl _)) (n1 (by simp))
      · -- all lengths
        rintro _ H' ⟨met, found, o1, o2, rfl, sm, hm, hf, good, cl, c', hx, near⟩
        rw [List.length_map, List.take_length] at near
        walk_at "rd"
        exact ⟨last.toNat + 1 - (n + 1), by omega, n + 1, met, found, o1, o2, rfl, sm, hm, hf, good, cl.succ hx near, c', rfl⟩
    · -- the end
      have c' : found.length ≤ n := by omega
      walk_at "rd"
      obtain ⟨b, hb, hbi⟩ := good.end cl c'
      refine Rd.ixL (.of hm) (Rd.atI_of l0 (show (met.map V.bl)[last.toNat]? = some (.bl b) by rw [List.getElem?_map, hb]; rfl)) ?_
      walk_at "rd"
      exact k _ _ sm hbi
end
end W



namespace W
open PySem PySem.Spec PyProof.Rows L2
theorem ints_all (ns : List Int) : True := trivial
theorem gcdL_pos {ns : List Int} (L : Lens ns) : 0 < M85.gcdL ns ∧ (M85.gcdL ns : Int) ≤ 60 := by
  obtain ⟨n, hn⟩ : ∃ n, n ∈ ns := by
    match ns, L.l0 with
    | n :: _, _ => exact ⟨n, List.mem_cons_self⟩
  have r := L.all n hn
  have d := M85.gcdL_dvd hn
  have h1 : (M85.gcdL ns : Int) ≤ n := Int.le_of_dvd (by omega) d
  refine ⟨Nat.pos_of_ne_zero fun z => ?_, by omega⟩
  rw [z] at d
  have := Int.zero_dvd.mp d
  omega
def sp_is_reached (K : PySem.W.Frag) : Sp := fun vs H Q _ => ∃ (a : Addr) (ns : List Int) (last : Int), vs = [.ref a, .int last] ∧ Ru.SqR K H a (ns.map V.int) ∧ Lens ns ∧ 0 ≤ last ∧
  ∀ H' b, Same H H' → (b = true ↔ M85.Reach ns last last) → Q (.bl b) H'
def sp_lone_told (K : PySem.W.Frag) : Sp := fun vs H Q _ => ∃ (a : Addr) (ns : List Int) (last : Int), vs = [.ref a, .int last] ∧ Ru.SqR K H a (ns.map V.int) ∧ Lens ns ∧ 1 ≤ last ∧ last ≤ 10 ^ 30 ∧
  ∀ H' b, Same H H' → (b = true ↔ M85.Reach ns last last) → Q (.bl b) H'
def sp_l_common (K : PySem.W.Frag) : Sp := fun vs H Q _ => ∃ a b : Int, vs = [.int a, .int b] ∧ 0 ≤ a ∧ 0 ≤ b ∧ b ≤ 90 ∧ Q (.int (Nat.gcd a.natAbs b.natAbs : Nat)) H
def sp_l_divisor (K : PySem.W.Frag) : Sp := fun vs H Q _ => ∃ (a : Addr) (ns : List Int), vs = [.ref a] ∧ SqL K H a (ns.map V.int) ∧ (∀ n ∈ ns, 1 ≤ n ∧ n ≤ 60) ∧ ∀ H', Same H H' → Q (.int (M85.gcdL ns : Nat)) H'
section
variable {P : Program} {w : World} {K : PySem.W.Frag} {mg : Str → Option Value} {base : Heap}
theorem ok_is_reached (T : Txt K mg) : FnOk P w K mg base CX0 3 T.f_is_reached T.fd_is_reached ["lengths", "last"] (sp_is_reached K) := by
  refine T.F_is_reached.ok sc_is_reached (fun vs H Q E h => ?_) (fun cdv A outer s H vs Q E hr h => ?_)
  · obtain ⟨a, ns, last, rfl, _⟩ := h
    rfl
  · obtain ⟨a, ns, last, rfl, hS, L, l0, k⟩ := h
    refine ⟨_, (pss_cons (ps_if (pt_cmpR op_lt (pv 1) (pe_call (ok_far_from T) (hr.mono (by decide)) rfl T.g_far_from T.F_far_from.kp T.b_far_from .nil pass0 (pa_cons (pv 0) pa_nil)) (nomark _))
  (pss_one (ps_ret (pe_call (ok_steps_reach T) (hr.mono (by decide)) rfl T.g_steps_reach T.F_steps_reach.kp T.b_steps_reach .nil pass0 (pa_cons (pv 0) (pa_cons (pv 1) pa_nil)))))
  pss_nil)
  (pss_one (ps_ret (pe_cmpR op_eq (pe_op op_mod (pv 1) (pe_call (ok_divisor_of T) (hr.mono (by decide)) rfl T.g_divisor_of T.F_divisor_of.kp T.b_divisor_of .nil pass0 (pa_cons (pv 0) pa_nil))) pe_int (nomark _))))), ?_⟩
    walk_at "rd"
    refine ⟨a, ns, rfl, hS, L, fun H1 r s1 r0 r1 hp => ?_⟩
    walk_at "rd"
    refine ite2 (fun c => ?_) (fun c => ?_)
    · walk_at "rd"
      exact ⟨a, ns, last, rfl, hS.same s1, l0, by omega, fun H2 b s2 hb => k _ b (s1.trans s2) hb⟩
    · walk_at "rd"
      refine ⟨a, ns, rfl, hS.same s1, fun H2 s2 => ?_⟩
      walk_at "rd"
      have g0 := gcdL_pos L
      refine Rd.iC (by omega) ?_
      walk_at "rd"
      refine k _ _ (s1.trans s2) ?_
      rw [decide_eq_true_iff, M85.reach_iff l0 (fun l hl => by have := L.all l hl; omega) (hp last (by omega))]
      exact ⟨fun h => Int.dvd_of_emod_eq_zero h, fun h => Int.emod_eq_zero_of_dvd h⟩
theorem ok_lone_told (T : Txt K mg) : FnOk P w K mg base CX0 4 T.f_lone_told T.fd_lone_told ["lengths", "last"] (sp_lone_told K) := by
  refine T.F_lone_told.ok sc_lone_told (fun vs H Q E h => ?_) (fun cdv A outer s H vs Q E hr h => ?_)
  · obtain ⟨a, ns, last, rfl, _⟩ := h
    rfl
  · obtain ⟨a, ns, last, rfl, hS, L, l0, l1, k⟩ := h
    refine ⟨_, (pss_cons (ps_expr (pe_call (ok_check_lengths T) (hr.mono (by decide)) rfl T.g_check_lengths T.F_check_lengths.kp T.b_check_lengths .nil pass0 (pa_cons (pv 0) pa_nil)))
  (pss_cons (ps_if (PW.pt (pw_or (pt_not (pt_val (pe_call (ok_is_integer T) (hr.mono (by decide)) rfl T.g_is_integer T.F_is_integer.kp T.b_is_integer .nil pass0 (pa_cons (pv 1) pa_nil)))) (pw_or1 (pt_not (pt_chain op_le op_le pe_int (pv 1) (pe_glob (v := .int (10 ^ 30)) rfl T.m_MOST_LAST ⟨_, rfl⟩))))))
  (pss_one ps_never)
  pss_nil)
  (pss_one (ps_ret (pe_call (ok_is_reached T) (hr.mono (by decide)) rfl T.g_is_reached T.F_is_reached.kp T.b_is_reached .nil pass0 (pa_cons (pv 0) (pa_cons (pv 1) pa_nil))))))), ?_⟩
    walk_at "rd"
    refine ⟨a, ns, rfl, hS, L, fun H1 s1 => ?_⟩
    walk_at "rd"
    refine ⟨_, rfl, ?_⟩
    walk_at "rd"
    walk_at "yes"
    walk_at "rd"
    walk_at "yes"
    walk_at "rd"
    exact ⟨a, ns, last, rfl, hS.same s1, L, by omega, fun H2 b s2 hb => k _ b (s1.trans s2) hb⟩
theorem ok_l_common (T : Txt K mg) : FnOk P w K mg base CX0 1 T.f_l_common T.fd_l_common ["_law_one", "_law_other"] (sp_l_common K) := by
  refine T.F_l_common.ok sc_l_common (fun vs H Q E h => ?_) (fun cdv A outer s H vs Q E hr h => ?_)
  · obtain ⟨a, b, rfl, _⟩ := h
    rfl
  · obtain ⟨a, b, rfl, a0, b0, b1, k⟩ := h
    refine ⟨_, (pss_cons (ps_for PassesOwn.never rfl (pi_range1 rfl T.n_range (pa_cons pe_int pa_nil)) (pg_name (i := 2) sc_l_common.nd rfl (.inl rfl))
  (pss_cons (ps_if (pt_cmpR op_eq (pv 1) pe_int (nomark _))
  (pss_one (ps_ret (pv 0)))
  pss_nil)
  (pss_cons (ps_set (i := 3) sc_l_common.nd rfl (.inl rfl) (pe_op op_mod (pe_callTy Rd.c_int (by rfl) T.n_int (by decide +kernel) (pa_cons (pv 0) pa_nil)) (pv 1)))
  (pss_cons (ps_set (i := 0) sc_l_common.nd rfl (.inl rfl) (pv 1))
  (pss_one (ps_set (i := 1) sc_l_common.nd rfl (.inl rfl) (pv 3)))))))
  (pss_one (ps_ret (pv 0)))), ?_⟩
    walk_at "rd"
    refine Rd.forS ?_
    walk_at "rd"
    refine ⟨by decide, by decide, ?_⟩
    refine for_range (lo := 0) (n := 100) (fun i σ H' => ∃ (x y : Nat) (o1 o2 : Option V), σ = [some (.int x), some (.int y), o1, o2] ∧ Nat.gcd x y = Nat.gcd a.natAbs b.natAbs ∧ y ≤ 90 - i ∧ H' = H)
      ⟨a.natAbs, b.natAbs, none, none, ?_, rfl, by omega, rfl⟩ ?_ ?_
    · rw [show ((a.natAbs : Nat) : Int) = a by omega, show ((b.natAbs : Nat) : Int) = b by omega]
      rfl
    · rintro i _ _ hi ⟨x, y, o1, o2, rfl, e, hy, rfl⟩
      walk_at "rd"
      refine ite2 (fun c => ?_) (fun c => ?_)
      · have y0 : y = 0 := by omega
        subst y0
        walk_at "rd"
        rw [Nat.gcd_zero_right] at e
        rw [e]
        exact k
      · walk_at "rd"
        refine Rd.iC (by omega) ?_
        walk_at "rd"
        have y1 : 0 < y := by omega
        have lt := Nat.mod_lt x y1
        refine ⟨y, x % y, some (.int (0 + i)), some (.int ((x : Int) % (y : Int))), ?_, ?_, by omega, rfl⟩
        · rw [Int.natCast_emod]
          rfl
        · rw [← e, Nat.gcd_comm x y, Nat.gcd_rec y x, Nat.gcd_comm]
    · rintro _ _ ⟨x, y, o1, o2, rfl, e, hy, rfl⟩
      walk_at "rd"
      have y0 : y = 0 := by omega
      subst y0
      rw [Nat.gcd_zero_right] at e
      rw [e]
      exact k
theorem ok_l_divisor (T : Txt K mg) : FnOk P w K mg base CX0 2 T.f_l_divisor T.fd_l_divisor ["_law_lengths_here"] (sp_l_divisor K) := by
  refine T.F_l_divisor.ok sc_l_divisor (fun vs H Q E h => ?_) (fun cdv A outer s H vs Q E hr h => ?_)
  · obtain ⟨a, ns, rfl, _⟩ := h
    rfl
  · obtain ⟨a, ns, rfl, hS, hn, k⟩ := h
    refine ⟨_, (pss_cons (ps_set (i := 1) sc_l_divisor.nd rfl (.inl rfl) pe_int)
  (pss_cons (ps_for PassesOwn.never rfl (pi_list (pv 0)) (pg_name (i := 2) sc_l_divisor.nd rfl (.inl rfl))
  (pss_one (ps_set (i := 1) sc_l_divisor.nd rfl (.inl rfl) (pe_call (ok_l_common T) (hr.mono (by decide)) rfl T.g_l_common T.F_l_common.kp T.b_l_common .nil pass0 (pa_cons (pv 2) (pa_cons (pv 1) pa_nil))))))
  (pss_one (ps_ret (pv 1))))), ?_⟩
    walk_at "rd"
    refine Rd.forS ?_
    walk_at "rd"
    refine ⟨⟨_, hS⟩, for_list (K := K) (a := a) (xs := ns.map V.int) (fun i σ H' => ∃ (g : Nat) (o : Option V), σ = [some (.ref a), some (.int g), o] ∧ g = (ns.take i).foldl (fun g l => Nat.gcd l.natAbs g) 0 ∧ g ≤ 60 ∧ Same H H')
      ⟨0, none, rfl, rfl, by decide, Same.refl H⟩ (fun i σ H' _ ⟨_, _, _, _, _, z⟩ => z.seq hS) ?_ ?_⟩
    · rintro i y _ H' hy ⟨g, o, rfl, eg, g1, sm⟩
      obtain ⟨l, hl, rfl⟩ := Rd.map_get hy
      have lr := hn l (List.mem_of_getElem? hl)
      walk_at "rd"
      refine ⟨l, g, rfl, by omega, by omega, by omega, ?_⟩
      walk_at "rd"
      refine ⟨Nat.gcd l.natAbs g, some (.int l), rfl, ?_, ?_, sm⟩
      · rw [Rd.take_snoc hl, List.foldl_append, ← eg]
        rfl
      · have := Nat.le_of_dvd (by omega) (Nat.gcd_dvd_left l.natAbs g)
        omega
    · rintro _ H' ⟨g, o, rfl, eg, g1, sm⟩
      rw [List.length_map, List.take_length] at eg
      walk_at "rd"
      rw [eg]
      exact k _ sm
end
end W



namespace W
open PySem PySem.Spec PyProof.Rows L2
def sp_l_reach (K : PySem.W.Frag) : Sp := fun vs H Q _ => ∃ (a : Addr) (ns : List Int) (last : Int), vs = [.ref a, .int last] ∧ SqL K H a (ns.map V.int) ∧ 0 ≤ last ∧ last ≤ 1000000 ∧
  ∀ H' b, Same H H' → (b = true ↔ M85.Reach ns last last) → Q (.bl b) H'
def sp_l_lengths (K : PySem.W.Frag) : Sp := fun vs H Q _ => ∃ (t c : Addr), vs = [.ref t] ∧ Tape H t c ∧ ∀ (l : Addr) (ns : List Int) H', Tape H' t c → Rd.But t H H' → H l = none → H' l = some (.lst (ns.map V.int)) → Lens ns → Q (.ref l) H'
section
variable {P : Program} {w : World} {K : PySem.W.Frag} {mg : Str → Option Value} {base : Heap}
theorem ok_l_reach (T : Txt K mg) : FnOk P w K mg base CX0 1 T.f_l_reach T.fd_l_reach ["_law_lengths_here", "_law_last"] (sp_l_reach K) := by
  refine T.F_l_reach.ok sc_l_reach (fun vs H Q E h => ?_) (fun cdv A outer s H vs Q E hr h => ?_)
  · obtain ⟨a, ns, last, rfl, _⟩ := h
    rfl
  · obtain ⟨a, ns, last, rfl, hS, l0, l1, k⟩ := h
    refine ⟨_, (pss_cons (ps_set (i := 2) sc_l_reach.nd rfl (.inl rfl) (pe_lst (pa_cons pe_int pa_nil)))
  (pss_cons (ps_set (i := 3) sc_l_reach.nd rfl (.inl rfl) (pe_op op_rep (pe_lst (pa_cons pe_bl pa_nil)) (pe_op op_add (pv 1) pe_int)))
  (pss_cons (ps_asg pe_bl (pg_sub (pv 3) pe_int set_list))
  (pss_cons (ps_for PassesOwn.never rfl (pi_range1 rfl T.n_range (pa_cons (pe_op op_add (pv 1) pe_int) pa_nil)) (pg_name (i := 4) sc_l_reach.nd rfl (.inl rfl))
  (pss_cons (ps_if (pt_cmpR op_ge (pv 4) (pe_callB Rd.c_len (by rfl) T.n_len (by decide +kernel) (pa_cons (pv 2) pa_nil)) (nomark _))
  (pss_one ps_break)
  pss_nil)
  (pss_one (ps_for PassesOwn.never rfl (pi_list (pv 0)) (pg_name (i := 5) sc_l_reach.nd rfl (.inl rfl))
  (pss_one (ps_for PassesOwn.never rfl (pi_list (pe_lst (pa_cons (pe_op op_add (pe_ix ix_list (pv 2) (pv 4) (fun _ _ => rfl)) (pv 5)) (pa_cons (pe_op op_sub (pe_ix ix_list (pv 2) (pv 4) (fun _ _ => rfl)) (pv 5)) pa_nil)))) (pg_name (i := 6) sc_l_reach.nd rfl (.inl rfl))
  (pss_one (ps_if (PW.pt (pw_and (pt_cmpR op_ge (pv 6) pe_int (nomark _)) (pw_and (pt_cmpR op_le (pv 6) (pv 1) (nomark _)) (pw_and1 (pt_not (pt_val (pe_ix ix_list (pv 3) (pv 6) (fun _ _ => rfl))))))))
  (pss_cons (ps_asg pe_bl (pg_sub (pv 3) (pv 6) set_list))
  (pss_one (ps_expr (pe_bm PySem.F.plainAttrs_list PySem.F.slot_list_append PySem.F.type_list_append mt_append (pv 2) (pa_cons (pv 6) pa_nil)))))
  pss_nil))))))))
  (pss_one (ps_ret (pe_ix ix_list (pv 3) (pv 1) (fun _ _ => rfl)))))))), ?_⟩
    walk_at "rd"
    refine ⟨Nat.le_of_ble_eq_true rfl, Rd.new fun f G1 npf gpf sG1 => ?_⟩
    walk_at "rd"
    refine ⟨Nat.le_of_ble_eq_true rfl, Rd.new fun p0 G2 np0 gp0 sG2 => ?_⟩
    walk_at "rd"
    have et : (last + 1).toNat = last.toNat + 1 := by omega
    refine Rd.rep gp0 (by omega) (by omega) (by rw [et, sizeLine_eq]; show 1 * _ ≤ _; omega) (Rd.new fun m G3 npm gpm sG3 => ?_)
    rw [Rd.rep_map, et] at gpm
    walk_at "rd"
    refine Rd.setG gpm (show ixN ((List.replicate (last.toNat + 1) false).map V.bl).length 0 = some 0 from Rd.ixN_of (by decide) (by simp; omega)) (Rd.map_set V.bl _ _ _) fun G4 g4 gb4 => ?_
    have s23 : Same H G2 := sG1.trans sG2
    have nm : H m = none := s23.free npm
    have nf : H f = none := npf
    have mf : m ≠ f := (ne_of_none (sG2 _ _ gpf) npm).symm
    have s4 : Same H G4 := fun b o e => by rw [gb4 b (ne_of_none e nm)]; exact sG3 _ _ (s23 _ _ e)
    have gf4 : G4 f = some (.lst (([0] : List Int).map V.int)) := by rw [gb4 f mf.symm]; exact sG3 _ _ (sG2 _ _ gpf)
    walk_at "rd"
    refine Rd.forS ?_
    walk_at "rd"
    refine ⟨by omega, by omega, ?_⟩
    rw [et]
    -- what holds between two turns
    refine for_range (lo := 0) (n := last.toNat + 1) (fun n σ H' => ∃ (met : List Bool) (found : List Int) (o0 o1 o2 : Option V), σ = [some (.ref a), some (.int last), some (.ref f), some (.ref m), o0, o1, o2] ∧ Same H H' ∧ H' m = some (.lst (met.map V.bl)) ∧ H' f = some (.lst (found.map V.int)) ∧
      M85.Good ns last met found ∧ M85.Closed ns last found n ∧ n ≤ found.length)
      ⟨_, [0], none, none, none, rfl, s4, g4, gf4, M85.Good.start l0, M85.Closed.zero, Nat.zero_le _⟩ ?_ ?_
    · rintro n _ H' hn ⟨met, found, o0, o1, o2, rfl, sm, hm, hf, good, cl, nl⟩
      rw [show (0 : Int) + (n : Int) = (n : Int) by omega]
      walk_at "rd"
      refine Rd.len (.inl (.of hf)) ?_
      rw [List.length_map]
      walk_at "rd"
      refine ite2 (fun c => ?_) (fun c => ?_)
      · -- all are gone through
        have c' : found.length ≤ n := by omega
        walk_at "rd"
        obtain ⟨b, hb, hbi⟩ := good.end cl c'
        refine Rd.ixL (.of hm) (Rd.atI_of l0 (show (met.map V.bl)[last.toNat]? = some (.bl b) by rw [List.getElem?_map, hb]; rfl)) ?_
        walk_at "rd"
        exact k _ _ sm hbi
      · have c' : n < found.length := by omega
        walk_at "rd"
        obtain ⟨x, hx⟩ : ∃ x, found[n]? = some x := ⟨_, List.getElem?_eq_getElem c'⟩
        have xr := good.reach x (List.mem_of_getElem? hx)
        refine Rd.forS ?_
        walk_at "rd"
        refine ⟨⟨_, sm.seq hS⟩, for_list (K := K) (a := a) (xs := ns.map V.int) (fun i σ H' => ∃ (met : List Bool) (found : List Int) (o1 o2 : Option V), σ = [some (.ref a), some (.int last), some (.ref f), some (.ref m), some (.int n), o1, o2] ∧ Same H H' ∧ H' m = some (.lst (met.map V.bl)) ∧ H' f = some (.lst (found.map V.int)) ∧
          M85.Good ns last met found ∧ M85.Closed ns last found n ∧ n < found.length ∧ found[n]? = some x ∧ M85.Near (ns.take i) last found x)
          ⟨met, found, o1, o2, rfl, sm, hm, hf, good, cl, c', hx, M85.Near.nil⟩ (fun i σ H' _ ⟨_, _, _, _, _, z, _⟩ => z.seq hS) ?_ ?_⟩
        · -- a length
          rintro i y _ H' hy ⟨met, found, o1, o2, rfl, sm, hm, hf, good, cl, c', hx, near⟩
          obtain ⟨l, hl, rfl⟩ := Rd.map_get hy
          have lm := List.mem_of_getElem? hl
          walk_at "rd"
          refine Rd.forS ?_
          walk_at "rd"
          have hx' : (found.map V.int)[n]? = some (.int x) := by rw [List.getElem?_map, hx]; rfl
          refine Rd.ixL (.of hf) (atI_nat hx') ?_
          walk_at "rd"
          refine Rd.ixL (.of hf) (atI_nat hx') ?_
          walk_at "rd"
          refine ⟨Nat.le_of_ble_eq_true rfl, Rd.new fun tp G4 np4 gp4 sG4 => ?_⟩
          walk_at "rd"
          have tm : tp ≠ m := (ne_of_none hm np4).symm
          have tf : tp ≠ f := (ne_of_none hf np4).symm
          refine ⟨⟨_, .of gp4⟩, for_list (K := K) (a := tp) (xs := [.int (x + l), .int (x - l)]) (fun j σ H' => ∃ (met : List Bool) (found : List Int) (o2 : Option V), σ = [some (.ref a), some (.int last), some (.ref f), some (.ref m), some (.int n), some (.int l), o2] ∧ Same H H' ∧ H' tp = some (.lst [.int (x + l), .int (x - l)]) ∧ H' m = some (.lst (met.map V.bl)) ∧ H' f = some (.lst (found.map V.int)) ∧
            M85.Good ns last met found ∧ M85.Closed ns last found n ∧ n < found.length ∧ found[n]? = some x ∧ M85.Near (ns.take i) last found x ∧ (1 ≤ j → 0 ≤ x + l → x + l ≤ last → x + l ∈ found) ∧ (2 ≤ j → 0 ≤ x - l → x - l ≤ last → x - l ∈ found))
            ⟨met, found, o2, rfl, sm.trans sG4, gp4, sG4 _ _ hm, sG4 _ _ hf, good, cl, c', hx, near, fun z => absurd z (by decide), fun z => absurd z (by decide)⟩ (fun j σ H' _ ⟨_, _, _, _, _, z, _⟩ => .of z) ?_ ?_⟩
          · -- a spot
            rintro j z _ H' hz ⟨met, found, o2, rfl, sm, ht, hm, hf, good, cl, c', hx, near, n1, n2⟩
            obtain ⟨t, rfl, et, ej⟩ : ∃ t, z = V.int t ∧ (t = x + l ∨ t = x - l) ∧ ((j = 0 ∧ t = x + l) ∨ (j = 1 ∧ t = x - l)) := by
              match j, hz with
              | 0, hz => cases hz; exact ⟨_, rfl, .inl rfl, .inl ⟨rfl, rfl⟩⟩
              | 1, hz => cases hz; exact ⟨_, rfl, .inr rfl, .inr ⟨rfl, rfl⟩⟩
              | j + 2, hz => simp at hz
            have fin : ∀ (met' : List Bool) (found' : List Int) (H2 : Hp), Same H H2 → H2 tp = some (.lst [.int (x + l), .int (x - l)]) → H2 m = some (.lst (met'.map V.bl)) → H2 f = some (.lst (found'.map V.int)) → M85.Good ns last met' found' → (found' = found ∨ found' = found ++ [t]) → (0 ≤ t → t ≤ last → t ∈ found') →
                ∃ (met : List Bool) (found : List Int) (o2 : Option V), [some (V.ref a), some (.int last), some (.ref f), some (.ref m), some (.int n), some (.int l), some (.int t)] = [some (.ref a), some (.int last), some (.ref f), some (.ref m), some (.int n), some (.int l), o2] ∧ Same H H2 ∧ H2 tp = some (.lst [.int (x + l), .int (x - l)]) ∧ H2 m = some (.lst (met.map V.bl)) ∧ H2 f = some (.lst (found.map V.int)) ∧
                  M85.Good ns last met found ∧ M85.Closed ns last found n ∧ n < found.length ∧ found[n]? = some x ∧ M85.Near (ns.take i) last found x ∧ (1 ≤ j + 1 → 0 ≤ x + l → x + l ≤ last → x + l ∈ found) ∧ (2 ≤ j + 1 → 0 ≤ x - l → x - l ≤ last → x - l ∈ found) := by
              intro met' found' H2 sm2 ht2 hm2 hf2 g2 ef hin
              refine ⟨met', found', _, rfl, sm2, ht2, hm2, hf2, g2, ?_⟩
              rcases ef with rfl | rfl
              · refine ⟨cl, c', hx, near, fun _ => ?_, fun q => ?_⟩
                · rcases ej with ⟨rfl, rfl⟩ | ⟨rfl, rfl⟩
                  · exact hin
                  · exact n1 (by omega)
                · rcases ej with ⟨rfl, rfl⟩ | ⟨rfl, rfl⟩
                  · omega
                  · exact hin
              · refine ⟨cl.more (by omega) _, by rw [List.length_append]; omega, by rw [List.getElem?_append_left c']; exact hx, near.more _, fun _ => ?_, fun q => ?_⟩
                · rcases ej with ⟨rfl, rfl⟩ | ⟨rfl, rfl⟩
                  · exact hin
                  · exact fun p0 p1 => List.mem_append_left _ (n1 (by omega) p0 p1)
                · rcases ej with ⟨rfl, rfl⟩ | ⟨rfl, rfl⟩
                  · omega
                  · exact hin
            walk_at "rd"
            refine ite2 (fun p0 => ?_) (fun p0 => ?_)
            · walk_at "rd"
              refine ite2 (fun p1 => ?_) (fun p1 => ?_)
              · obtain ⟨b, hb, hbi⟩ := good.at p0 p1
                walk_at "rd"
                refine Rd.ixL (.of hm) (Rd.atI_of p0 (show (met.map V.bl)[t.toNat]? = some (.bl b) by rw [List.getElem?_map, hb]; rfl)) ?_
                walk_at "rd"
                cases b with
                | true =>
                  walk_at "rd"
                  exact fin met found H' sm ht hm hf good (.inl rfl) fun _ _ => hbi.mp rfl
                | false =>
                  walk_at "rd"
                  have ml := good.len
                  refine Rd.setG hm (Rd.ixN_of p0 (by rw [List.length_map]; omega)) (Rd.map_set V.bl _ _ _) fun G5 g5 gb5 => ?_
                  walk_at "rd"
                  have hf5 : G5 f = some (.lst (found.map V.int)) := by rw [gb5 f mf.symm]; exact hf
                  have fl := good.le
                  refine Rd.tyL (.of hf5) ?_
                  walk_at "rd"
                  refine Rd.app hf5 (by rw [List.length_map, sizeLine_eq]; omega) fun G6 g6 gb6 => ?_
                  walk_at "rd"
                  have nw : M85.Reach ns last t := .step xr lm et p0 p1
                  refine fin (met.set t.toNat true) (found ++ [t]) G6 (fun b o e => ?_) ?_ ?_ ?_ (good.visit p0 p1 hb nw) (.inr rfl) fun _ _ => List.mem_append_right _ List.mem_cons_self
                  · rw [gb6 b (ne_of_none e nf), gb5 b (ne_of_none e nm)]
                    exact sm _ _ e
                  · rw [gb6 tp tf, gb5 tp tm]
                    exact ht
                  · rw [gb6 m mf]
                    exact g5
                  · rw [List.map_append]
                    exact g6
              · walk_at "rd"
                exact fin met found H' sm ht hm hf good (.inl rfl) fun _ q => absurd q p1
            · walk_at "rd"
              exact fin met found H' sm ht hm hf good (.inl rfl) fun q _ => absurd q p0
          · rintro _ H' ⟨met, found, o2, rfl, sm, ht, hm, hf, good, cl, c', hx, near, n1, n2⟩
            refine ⟨met, found, _, _, rfl, sm, hm, hf, good, cl, c', hx, ?_⟩
            rw [Rd.take_snoc hl]
            exact near.snoc (n1 (by simp)) (n2 (Nat.le_refl _))
        · rintro _ H' ⟨met, found, o1, o2, rfl, sm, hm, hf, good, cl, c', hx, near⟩
          rw [List.length_map, List.take_length] at near
          exact ⟨met, found, _, o1, o2, rfl, sm, hm, hf, good, cl.succ hx near, c'⟩
    · rintro _ H' ⟨met, found, o0, o1, o2, rfl, sm, hm, hf, good, cl, nl⟩
      walk_at "rd"
      obtain ⟨b, hb, hbi⟩ := good.end cl good.le
      refine Rd.ixL (.of hm) (Rd.atI_of l0 (show (met.map V.bl)[last.toNat]? = some (.bl b) by rw [List.getElem?_map, hb]; rfl)) ?_
      walk_at "rd"
      exact k _ _ sm hbi
end
end W



namespace W
open PySem PySem.Spec PyProof.Rows L2
theorem pickR {K : PySem.W.Frag} {H : Hp} {t c : Addr} {n : Int} {Q : VK} {E : XK} (T : Tape H t c) (h0 : 0 < n) (h1 : n < 1073741824) (k : ∀ r H', 0 ≤ r → r < n → Tape H' t c → Rd.But t H H' → Q (.int r) H') : sp_l_pick K [.ref t, .int n] H Q E := ⟨t, c, n, rfl, T, h0, h1, k⟩
section
variable {P : Program} {w : World} {K : PySem.W.Frag} {mg : Str → Option Value} {base : Heap}
theorem ok_l_lengths (T : Txt K mg) : FnOk P w K mg base CX0 2 T.f_l_lengths T.fd_l_lengths ["_law_tape_here"] (sp_l_lengths K) := by
  refine T.F_l_lengths.ok sc_l_lengths (fun vs H Q E h => ?_) (fun cdv A outer s H vs Q E hr h => ?_)
  · obtain ⟨t, _, rfl, _⟩ := h
    rfl
  · obtain ⟨t, c, rfl, tp, k⟩ := h
    refine ⟨_, (pss_cons (ps_set (i := 1) sc_l_lengths.nd rfl (.inl rfl) (pe_call (ok_l_pick T) (hr.mono (by decide)) rfl T.g_l_pick T.F_l_pick.kp T.b_l_pick .nil pass0 (pa_cons (pv 0) (pa_cons pe_int pa_nil))))
  (pss_cons (ps_set (i := 2) sc_l_lengths.nd rfl (.inl rfl) (pe_ix ix_list (pe_lst (pa_cons pe_int (pa_cons pe_int (pa_cons pe_int (pa_cons pe_int pa_nil))))) (pv 1) (fun _ _ => rfl)))
  (pss_cons (ps_set (i := 3) sc_l_lengths.nd rfl (.inl rfl) pe_int)
  (C8.pss_cut (ps_if (pt_cmpR op_eq (pv 1) pe_int (nomark _))
  (pss_one (ps_set (i := 3) sc_l_lengths.nd rfl (.inl rfl) (pe_op op_add pe_int (pe_call (ok_l_pick T) (hr.mono (by decide)) rfl T.g_l_pick T.F_l_pick.kp T.b_l_pick .nil pass0 (pa_cons (pv 0) (pa_cons pe_int pa_nil))))))
  pss_nil)
  (pss_cons (ps_set (i := 4) sc_l_lengths.nd rfl (.inl rfl) (pe_lst pa_nil))
  (pss_cons (ps_for PassesOwn.never rfl (pi_range1 rfl T.n_range (pa_cons (pe_op op_add pe_int (pe_call (ok_l_pick T) (hr.mono (by decide)) rfl T.g_l_pick T.F_l_pick.kp T.b_l_pick .nil pass0 (pa_cons (pv 0) (pa_cons (pe_ix ix_list (pe_lst (pa_cons pe_int (pa_cons pe_int (pa_cons pe_int (pa_cons pe_int pa_nil))))) (pv 1) (fun _ _ => rfl)) pa_nil)))) pa_nil)) (pg_name (i := 5) sc_l_lengths.nd rfl (.inl rfl))
  (pss_one (ps_if (PW.pt (pw_and (pt_cmpR op_gt (pe_callB Rd.c_len (by rfl) T.n_len (by decide +kernel) (pa_cons (pv 4) pa_nil)) pe_int (nomark _)) (pw_and1 (pt_cmpR op_eq (pe_call (ok_l_pick T) (hr.mono (by decide)) rfl T.g_l_pick T.F_l_pick.kp T.b_l_pick .nil pass0 (pa_cons (pv 0) (pa_cons pe_int pa_nil))) pe_int (nomark _)))))
  (pss_one (ps_expr (pe_bm PySem.F.plainAttrs_list PySem.F.slot_list_append PySem.F.type_list_append mt_append (pv 4) (pa_cons (pe_ix ix_list (pv 4) (pe_call (ok_l_pick T) (hr.mono (by decide)) rfl T.g_l_pick T.F_l_pick.kp T.b_l_pick .nil pass0 (pa_cons (pv 0) (pa_cons (pe_callB Rd.c_len (by rfl) T.n_len (by decide +kernel) (pa_cons (pv 4) pa_nil)) pa_nil))) (fun _ _ => rfl)) pa_nil))))
  (pss_one (ps_expr (pe_bm PySem.F.plainAttrs_list PySem.F.slot_list_append PySem.F.type_list_append mt_append (pv 4) (pa_cons (pe_op op_mul (pv 3) (pe_op op_add pe_int (pe_call (ok_l_pick T) (hr.mono (by decide)) rfl T.g_l_pick T.F_l_pick.kp T.b_l_pick .nil pass0 (pa_cons (pv 0) (pa_cons (pe_op op_fdiv (pv 2) (pv 3)) pa_nil))))) pa_nil)))))))
  (pss_one (ps_ret (pv 4))))))))), ?_⟩
    walk_at "rd"
    refine pickR tp (by decide) (by decide) fun kind H1 k0 k1 tp1 b1 => ?_
    walk_at "rd"
    refine ⟨Nat.le_of_ble_eq_true rfl, Rd.new fun p G2 np gp s2 => ?_⟩
    walk_at "rd"
    obtain ⟨most, hm, m0, m1⟩ : ∃ m, [V.int 12, .int 60, .int 60, .int 20][kind.toNat]? = some (.int m) ∧ 12 ≤ m ∧ m ≤ 60 := by
      have : kind.toNat = 0 ∨ kind.toNat = 1 ∨ kind.toNat = 2 ∨ kind.toNat = 3 := by omega
      rcases this with e | e | e | e <;> rw [e] <;> exact ⟨_, rfl, by decide, by decide⟩
    refine Rd.ixL (.of gp) (Rd.atI_of k0 hm) ?_
    walk_at "rd"
    refine Rd.cut (fun σ H' => ∃ part : Int, σ = [some (.ref t), some (.int kind), some (.int most), some (.int part), none, none] ∧ 1 ≤ part ∧ part ≤ 10 ∧ Tape H' t c ∧ Rd.But t H H') ?_ ?_
    · walk_at "rd"
      refine ite2 (fun q => ?_) (fun q => ?_)
      · walk_at "rd"
        refine pickR (tp1.same s2) (by decide) (by decide) fun r H3 r0 r1 tp3 b3 => ?_
        walk_at "rd"
        exact ⟨_, rfl, by omega, by omega, tp3, (b1.same s2).trans b3⟩
      · walk_at "rd"
        exact ⟨1, rfl, by decide, by decide, tp1.same s2, b1.same s2⟩
    · rintro _ H3 ⟨part, rfl, p0, p1, tp3, b3⟩
      walk_at "rd"
      refine ⟨Nat.le_of_ble_eq_true rfl, Rd.new fun l G4 nl gl s4 => ?_⟩
      have ⟨lt, lc⟩ := tp3.new nl
      have nlH : H l = none := b3.free lt nl
      walk_at "rd"
      refine Rd.forS ?_
      walk_at "rd"
      refine ⟨Nat.le_of_ble_eq_true rfl, Rd.new fun p5 G5 np5 gp5 s5 => ?_⟩
      walk_at "rd"
      obtain ⟨cnt, hcnt, c0, c1⟩ : ∃ m, [V.int 8, .int 3, .int 4, .int 3][kind.toNat]? = some (.int m) ∧ 3 ≤ m ∧ m ≤ 8 := by
        have : kind.toNat = 0 ∨ kind.toNat = 1 ∨ kind.toNat = 2 ∨ kind.toNat = 3 := by omega
        rcases this with e | e | e | e <;> rw [e] <;> exact ⟨_, rfl, by decide, by decide⟩
      refine Rd.ixL (.of gp5) (Rd.atI_of k0 hcnt) ?_
      walk_at "rd"
      refine pickR ((tp3.same s4).same s5) (by omega) (by omega) fun r6 H6 r0 r1 tp6 b6 => ?_
      walk_at "rd"
      refine ⟨by omega, by omega, ?_⟩
      have gl6 : H6 l = some (.lst (([] : List Int).map V.int)) := b6 l _ lt (s5 _ _ gl)
      have b36 : Rd.But t H H6 := ((b3.same s4).same s5).trans b6
      refine for_range (lo := 0) (n := (1 + r6).toNat) (fun i σ H' => ∃ (ns : List Int) (o : Option V), σ = [some (.ref t), some (.int kind), some (.int most), some (.int part), some (.ref l), o] ∧ H' l = some (.lst (ns.map V.int)) ∧ ns.length = i ∧ (∀ n ∈ ns, 1 ≤ n ∧ n ≤ 60) ∧ Tape H' t c ∧ Rd.But t H H')
        ⟨[], none, rfl, gl6, rfl, fun n h => by simp at h, tp6, b36⟩ ?_ ?_
      · rintro i _ H' hi ⟨ns, o, rfl, hl, ln, hn, tp', b'⟩
        walk_at "rd"
        refine Rd.len (.inl (.of hl)) ?_
        rw [List.length_map]
        walk_at "rd"
        -- a length more
        have more : ∀ (H2 H3 : Hp) (n : Int), H2 l = some (.lst (ns.map V.int)) → Tape H2 t c → Rd.But t H H2 → H3 l = some (.lst (ns.map V.int ++ [.int n])) → (∀ b, b ≠ l → H3 b = H2 b) → 1 ≤ n → n ≤ 60 →
            ∃ (ns : List Int) (o : Option V), [some (.ref t), some (.int kind), some (.int most), some (.int part), some (.ref l), some (.int (0 + (i : Int)))] = [some (.ref t), some (.int kind), some (.int most), some (.int part), some (.ref l), o] ∧ H3 l = some (.lst (ns.map V.int)) ∧ ns.length = i + 1 ∧ (∀ n ∈ ns, 1 ≤ n ∧ n ≤ 60) ∧ Tape H3 t c ∧ Rd.But t H H3 := by
          intro H2 H3 n e2 t2 bb2 e3 off n0 n1
          refine ⟨ns ++ [n], _, rfl, by rw [List.map_append]; exact e3, by rw [List.length_append, ln]; rfl, fun m hm => ?_, t2.off lt lc off, fun b o hb e => ?_⟩
          · rcases List.mem_append.mp hm with h | h
            · exact hn m h
            · simp at h; subst h; exact ⟨n0, n1⟩
          · rw [off b (ne_of_none e nlH)]
            exact bb2 b o hb e
        have lim : (ns.map V.int).length < sizeLine := by rw [List.length_map, sizeLine_eq]; omega
        have body2 : ∀ r : Int, 0 ≤ r → r < most / part → 1 ≤ part * (1 + r) ∧ part * (1 + r) ≤ 60 := by
          intro r q0 q1
          have h1 : part * (1 + r) ≤ part * (most / part) := Int.mul_le_mul_of_nonneg_left (by omega) (by omega)
          have h2 : part * (most / part) ≤ most := Int.mul_ediv_self_le (by omega)
          have h3 : part * 1 ≤ part * (1 + r) := Int.mul_le_mul_of_nonneg_left (by omega) (by omega)
          omega
        have quot : 1 ≤ most / part := Int.le_ediv_of_mul_le (by omega) (by omega)
        have quot2 : most / part ≤ most := Int.ediv_le_self _ (by omega)
        refine ite2 (fun q => ?_) (fun q => ?_)
        · walk_at "rd"
          refine pickR tp' (by decide) (by decide) fun r7 H7 z0 z1 tp7 b7 => ?_
          have hl7 := b7 l _ lt hl
          walk_at "rd"
          refine ite2 (fun q2 => ?_) (fun q2 => ?_)
          · walk_at "rd"
            refine Rd.tyL (.of hl7) ?_
            walk_at "rd"
            refine Rd.len (.inl (.of hl7)) ?_
            rw [List.length_map]
            walk_at "rd"
            refine pickR tp7 (by omega) (by omega) fun r8 H8 y0 y1 tp8 b8 => ?_
            have hl8 := b8 l _ lt hl7
            walk_at "rd"
            have r8l : r8.toNat < ns.length := by omega
            refine Rd.ixL (.of hl8) (Rd.atI_of y0 (Rd.map_int r8l)) ?_
            walk_at "rd"
            refine Rd.app hl8 lim fun G9 g9 gb9 => ?_
            walk_at "rd"
            have rr := hn _ (List.getElem_mem r8l)
            exact more H8 G9 _ hl8 tp8 ((b'.trans b7).trans b8) g9 gb9 rr.1 rr.2
          · walk_at "rd"
            refine Rd.tyL (.of hl7) ?_
            walk_at "rd"
            refine Rd.iC ⟨by omega, by omega⟩ ?_
            walk_at "rd"
            refine pickR tp7 (by omega) (by omega) fun r8 H8 y0 y1 tp8 b8 => ?_
            have hl8 := b8 l _ lt hl7
            walk_at "rd"
            refine Rd.iC (.inl ⟨by omega, by omega⟩) ?_
            walk_at "rd"
            refine Rd.app hl8 lim fun G9 g9 gb9 => ?_
            walk_at "rd"
            have rr := body2 _ y0 y1
            exact more H8 G9 _ hl8 tp8 ((b'.trans b7).trans b8) g9 gb9 rr.1 rr.2
        · walk_at "rd"
          refine Rd.tyL (.of hl) ?_
          walk_at "rd"
          refine Rd.iC ⟨by omega, by omega⟩ ?_
          walk_at "rd"
          refine pickR tp' (by omega) (by omega) fun r8 H8 y0 y1 tp8 b8 => ?_
          have hl8 := b8 l _ lt hl
          walk_at "rd"
          refine Rd.iC (.inl ⟨by omega, by omega⟩) ?_
          walk_at "rd"
          refine Rd.app hl8 lim fun G9 g9 gb9 => ?_
          walk_at "rd"
          have rr := body2 _ y0 y1
          exact more H8 G9 _ hl8 tp8 (b'.trans b8) g9 gb9 rr.1 rr.2
      · rintro _ H' ⟨ns, o, rfl, hl, ln, hn, tp', b'⟩
        walk_at "rd"
        exact k l ns H' tp' b' nlH hl ⟨by omega, by omega, hn⟩
end
end W



namespace W
open PySem PySem.Spec PyProof.Rows L2
/-! ### data: lists of ints -/
theorem dpAll_ints {K : PySem.W.Frag} {H : Hp} : ∀ ns : List Int, DpAll K H (ns.map V.int) (ns.map PyData.int)
  | [] => .nil
  | n :: ns => .cons (.int n) (dpAll_ints ns)
theorem canLay_ints : ∀ ns : List Int, PyData.canLayAll0 (ns.map PyData.int) = true
  | [] => rfl
  | n :: ns => by
    show (PyData.canLay0 (.int n) && PyData.canLayAll0 (ns.map PyData.int)) = true
    rw [canLay_ints ns]
    rfl
theorem depth_ints : ∀ ns : List Int, PyData.depthAll (ns.map PyData.int) = 0
  | [] => rfl
  | n :: ns => by
    show max (PyData.depth (.int n)) (PyData.depthAll (ns.map PyData.int)) = 0
    rw [depth_ints ns]
    rfl
theorem shaped_ints (ns : List Int) : SeqAt.shaped (.list (ns.map PyData.int)) = true := by
  have h1 : PyData.canLay0 (.list (ns.map PyData.int)) = true := canLay_ints ns
  have h2 : PyData.depth (.list (ns.map PyData.int)) = 1 := by
    show PyData.depthAll (ns.map PyData.int) + 1 = 1
    rw [depth_ints]
  unfold SeqAt.shaped
  rw [h1, h2]
  rfl
theorem eqInts {K : PySem.W.Frag} {H : Hp} {a b : Addr} {ns : List Int} {Q : VK} (h1 : SqL K H a (ns.map V.int)) (h2 : SqL K H b (ns.map V.int)) (q : Q (.bl true) H) : rEqD K (.ref a) (.ref b) H Q := by
  refine ⟨_, _, .lst h1 (dpAll_ints ns), .lst h2 (dpAll_ints ns), shaped_ints ns, shaped_ints ns, ?_⟩
  rw [SeqAt.eqv_refl _ (SeqAt.canLay_of_shaped (shaped_ints ns))]
  exact q
/-! ### what stays when only the tape is written -/
theorem but_L {K : PySem.W.Frag} {H H' : Hp} {t a : Addr} {xs : List V} (e : Rd.But t H H') (n : a ≠ t) (h : SqL K H a xs) : SqL K H' a xs := by
  rcases h with (h | ⟨o, h⟩) | h
  · exact .inl (.inl (e _ _ n h))
  · exact .inl (.inr ⟨o, e _ _ n h⟩)
  · exact .inr h
theorem but_T {K : PySem.W.Frag} {H H' : Hp} {t a : Addr} {xs : List V} (e : Rd.But t H H') (n : a ≠ t) (h : SqT K H a xs) : SqT K H' a xs := by
  rcases h with (h | ⟨o, h⟩) | h
  · exact .inl (.inl (e _ _ n h))
  · exact .inl (.inr ⟨o, e _ _ n h⟩)
  · exact .inr h
theorem but_R {K : PySem.W.Frag} {H H' : Hp} {t a : Addr} {xs : List V} (e : Rd.But t H H') (n : a ≠ t) (h : Ru.SqR K H a xs) : Ru.SqR K H' a xs := h.imp (but_L e n) (but_T e n)
theorem lens_rev {ns : List Int} (L : Lens ns) : Lens ns.reverse := ⟨by rw [List.length_reverse]; exact L.l0, by rw [List.length_reverse]; exact L.l1, fun n h => L.all n (List.mem_reverse.mp h)⟩
def sp_law (K : PySem.W.Frag) : Sp := fun vs H Q _ => ∃ (a : Addr) (ns : List Int), vs = [.ref a] ∧ SqL K H a (ns.map V.int) ∧ ns.length ≤ 63 ∧ ∀ H', Q (.bl true) H'
section
variable {P : Program} {w : World} {K : PySem.W.Frag} {mg : Str → Option Value} {base : Heap}
theorem ok_law (T : Txt K mg) : FnOk P w K mg base CX0 5 T.f_law T.fd_law ["_law_script"] (sp_law K) := by
  refine T.F_law.ok sc_law (fun vs H Q E h => ?_) (fun cdv A outer s H vs Q E hr h => ?_)
  · obtain ⟨a, ns, rfl, _⟩ := h
    rfl
  · obtain ⟨a, ns, rfl, hS, hlen, k⟩ := h
    refine ⟨_, (pss_cons (ps_set (i := 1) sc_law.nd rfl (.inl rfl) (pe_call (ok_l_tape T) (hr.mono (by decide)) rfl T.g_l_tape T.F_l_tape.kp T.b_l_tape .nil pass0 (pa_cons (pv 0) pa_nil)))
  (pss_cons (ps_set (i := 2) sc_law.nd rfl (.inl rfl) (pe_call (ok_l_lengths T) (hr.mono (by decide)) rfl T.g_l_lengths T.F_l_lengths.kp T.b_l_lengths .nil pass0 (pa_cons (pv 1) pa_nil)))
  (pss_cons (ps_set (i := 3) sc_law.nd rfl (.inl rfl) (pe_callTy Rd.c_listOf (by rfl) T.n_list (by decide +kernel) (pa_cons (pv 2) pa_nil)))
  (C8.pss_cut (ps_if (pt_cmpR op_eq (pe_call (ok_l_pick T) (hr.mono (by decide)) rfl T.g_l_pick T.F_l_pick.kp T.b_l_pick .nil pass0 (pa_cons (pv 1) (pa_cons pe_int pa_nil))) pe_int (nomark _))
  (pss_one (ps_set (i := 3) sc_law.nd rfl (.inl rfl) (pe_callTy Rd.c_tupOf (by rfl) T.n_tuple (by decide +kernel) (pa_cons (pv 2) pa_nil))))
  pss_nil)
  (pss_cons (ps_set (i := 4) sc_law.nd rfl (.inl rfl) (pe_revL (pv 2)))
  (C8.pss_cut (ps_if (pt_cmpR op_lt (pe_callB Rd.c_len (by rfl) T.n_len (by decide +kernel) (pa_cons (pv 4) pa_nil)) pe_int (nomark _))
  (pss_one (ps_set (i := 4) sc_law.nd rfl (.inl rfl) (pe_op op_cat (pv 4) (pe_lst (pa_cons (pe_ix ix_list (pv 2) (pe_call (ok_l_pick T) (hr.mono (by decide)) rfl T.g_l_pick T.F_l_pick.kp T.b_l_pick .nil pass0 (pa_cons (pv 1) (pa_cons (pe_callB Rd.c_len (by rfl) T.n_len (by decide +kernel) (pa_cons (pv 2) pa_nil)) pa_nil))) (fun _ _ => rfl)) pa_nil)))))
  pss_nil)
  (pss_cons (ps_set (i := 5) sc_law.nd rfl (.inl rfl) (pe_call (ok_l_divisor T) (hr.mono (by decide)) rfl T.g_l_divisor T.F_l_divisor.kp T.b_l_divisor .nil pass0 (pa_cons (pv 2) pa_nil)))
  (pss_cons (ps_set (i := 6) sc_law.nd rfl (.inl rfl) (pe_lst pa_nil))
  (pss_cons (ps_for PassesOwn.never rfl (pi_range1 rfl T.n_range (pa_cons pe_int pa_nil)) (pg_name (i := 7) sc_law.nd rfl (.inl rfl))
  (pss_cons (ps_expr (pe_bm PySem.F.plainAttrs_list PySem.F.slot_list_append PySem.F.type_list_append mt_append (pv 6) (pa_cons (pe_op op_add pe_int (pe_call (ok_l_pick T) (hr.mono (by decide)) rfl T.g_l_pick T.F_l_pick.kp T.b_l_pick .nil pass0 (pa_cons (pv 1) (pa_cons pe_int pa_nil)))) pa_nil)))
  (pss_one (ps_expr (pe_bm PySem.F.plainAttrs_list PySem.F.slot_list_append PySem.F.type_list_append mt_append (pv 6) (pa_cons (pe_op op_mul (pv 5) (pe_op op_add pe_int (pe_call (ok_l_pick T) (hr.mono (by decide)) rfl T.g_l_pick T.F_l_pick.kp T.b_l_pick .nil pass0 (pa_cons (pv 1) (pa_cons (pe_op op_fdiv pe_int (pv 5)) pa_nil))))) pa_nil))))))
  (pss_cons (ps_for PassesOwn.never rfl (pi_list (pv 6)) (pg_name (i := 8) sc_law.nd rfl (.inl rfl))
  (pss_cons (ps_set (i := 9) sc_law.nd rfl (.inl rfl) (pe_call (ok_l_reach T) (hr.mono (by decide)) rfl T.g_l_reach T.F_l_reach.kp T.b_l_reach .nil pass0 (pa_cons (pv 2) (pa_cons (pv 8) pa_nil))))
  (pss_one (ps_if (PW.pt (pw_or (pt_not (pt_val (pe_call (ok_l_flag T) (hr.mono (by decide)) rfl T.g_l_flag T.F_l_flag.kp T.b_l_flag .nil pass0 (pa_cons (pe_call (ok_lone_told T) (hr.mono (by decide)) rfl T.g_lone_told T.F_lone_told.kp T.b_lone_told .nil pass0 (pa_cons (pv 3) (pa_cons (pv 8) pa_nil))) (pa_cons (pv 9) pa_nil))))) (pw_or1 (pt_not (pt_val (pe_call (ok_l_flag T) (hr.mono (by decide)) rfl T.g_l_flag T.F_l_flag.kp T.b_l_flag .nil pass0 (pa_cons (pe_call (ok_lone_told T) (hr.mono (by decide)) rfl T.g_lone_told T.F_lone_told.kp T.b_lone_told .nil pass0 (pa_cons (pv 4) (pa_cons (pv 8) pa_nil))) (pa_cons (pv 9) pa_nil))))))))
  (pss_one (ps_ret pe_bl))
  pss_nil))))
  (pss_cons (ps_set (i := 10) sc_law.nd rfl (.inl rfl) (pe_op op_mul (pv 5) (pe_op op_add (pe_op op_add pe_int (pe_op op_mul (pe_call (ok_l_pick T) (hr.mono (by decide)) rfl T.g_l_pick T.F_l_pick.kp T.b_l_pick .nil pass0 (pa_cons (pv 1) (pa_cons (pe_op op_pow pe_int pe_int) pa_nil))) (pe_op op_pow pe_int pe_int))) pe_int)))
  (pss_cons (ps_set (i := 11) sc_law.nd rfl (.inl rfl) (pe_lst (pa_cons (pv 10) (pa_cons (pe_op op_add (pv 10) pe_int) (pa_cons (pe_op op_add (pv 10) (pv 5)) (pa_cons (pe_op op_pow pe_int pe_int) (pa_cons (pe_op op_sub (pe_op op_pow pe_int pe_int) (pe_call (ok_l_pick T) (hr.mono (by decide)) rfl T.g_l_pick T.F_l_pick.kp T.b_l_pick .nil pass0 (pa_cons (pv 1) (pa_cons pe_int pa_nil)))) (pa_cons (pe_op op_add pe_int (pe_call (ok_l_pick T) (hr.mono (by decide)) rfl T.g_l_pick T.F_l_pick.kp T.b_l_pick .nil pass0 (pa_cons (pv 1) (pa_cons (pe_op op_pow pe_int pe_int) pa_nil)))) pa_nil))))))))
  (pss_cons (ps_for PassesOwn.never rfl (pi_list (pv 11)) (pg_name (i := 8) sc_law.nd rfl (.inl rfl))
  (pss_one (ps_if (pt_not (pt_val (pe_call (ok_l_flag T) (hr.mono (by decide)) rfl T.g_l_flag T.F_l_flag.kp T.b_l_flag .nil pass0 (pa_cons (pe_call (ok_lone_told T) (hr.mono (by decide)) rfl T.g_lone_told T.F_lone_told.kp T.b_lone_told .nil pass0 (pa_cons (pv 3) (pa_cons (pv 8) pa_nil))) (pa_cons (pe_cmpR op_eq (pe_op op_mod (pe_callTy Rd.c_int (by rfl) T.n_int (by decide +kernel) (pa_cons (pv 8) pa_nil)) (pv 5)) pe_int (nomark _)) pa_nil)))))
  (pss_one (ps_ret pe_bl))
  pss_nil)))
  (pss_one (ps_ret (pe_cmpR (op_eqD hr.units) (pe_callTy Rd.c_listOf (by rfl) T.n_list (by decide +kernel) (pa_cons (pv 3) pa_nil)) (pv 2) (nomark _))))))))))))))))), ?_⟩
    walk_at "rd"
    refine ⟨a, ns, rfl, hS, fun t c H1 tp1 s1 _ _ => ?_⟩
    walk_at "rd"
    refine ⟨t, c, rfl, tp1, fun l ls H2 tp2 b2 nl2 gl2 L => ?_⟩
    have lt : l ≠ t := (tp1.new nl2).1
    have lc : l ≠ c := (tp1.new nl2).2
    walk_at "rd"
    refine Rd.listOf (.inl (.of gl2)) (Rd.new fun h0 H3 nh0 gh0 s3 => ?_)
    have h0t := (tp2.new nh0).1
    walk_at "rd"
    -- handed: a list or a tuple
    refine Rd.cut (fun σ H' => ∃ hd : Addr, σ = [some (.ref a), some (.ref t), some (.ref l), some (.ref hd), none, none, none, none, none, none, none, none] ∧ Tape H' t c ∧ H' l = some (.lst (ls.map V.int)) ∧ hd ≠ t ∧ Ru.SqR K H' hd (ls.map V.int)) ?_ ?_
    · walk_at "rd"
      refine pickR (tp2.same s3) (by decide) (by decide) fun r H4 r0 r1 tp4 b4 => ?_
      walk_at "rd"
      have gl4 := b4 l _ lt (s3 _ _ gl2)
      refine ite2 (fun q => ?_) (fun q => ?_)
      · walk_at "rd"
        refine Rd.tupOf (.of gl4) (Rd.new fun h1 H5 nh1 gh1 s5 => ?_)
        walk_at "rd"
        exact ⟨h1, rfl, tp4.same s5, s5 _ _ gl4, (tp4.new nh1).1, .inr (.of gh1)⟩
      · walk_at "rd"
        exact ⟨h0, rfl, tp4, gl4, h0t, .inl (.of (b4 h0 _ h0t gh0))⟩
    · rintro _ H4 ⟨hd, rfl, tp4, gl4, hdt, hh4⟩
      walk_at "rd"
      refine Rd.refX (.of gl4) (Rd.new fun u0 H5 nu0 gu0 s5 => ?_)
      rw [← List.map_reverse] at gu0
      walk_at "rd"
      refine Rd.cut (fun σ H' => ∃ (u : Addr) (us : List Int), σ = [some (.ref a), some (.ref t), some (.ref l), some (.ref hd), some (.ref u), none, none, none, none, none, none, none] ∧ Tape H' t c ∧ H' l = some (.lst (ls.map V.int)) ∧ Ru.SqR K H' hd (ls.map V.int) ∧ u ≠ t ∧ H' u = some (.lst (us.map V.int)) ∧ Lens us ∧ ∀ x, x ∈ us ↔ x ∈ ls) ?_ ?_
      · walk_at "rd"
        refine Rd.len (.inl (.of gu0)) ?_
        rw [List.length_map, List.length_reverse]
        walk_at "rd"
        have u0t := (tp4.new nu0).1
        have lr := lens_rev L
        refine ite2 (fun q => ?_) (fun q => ?_)
        · walk_at "rd"
          refine Rd.len (.inl (.of (s5 _ _ gl4))) ?_
          rw [List.length_map]
          walk_at "rd"
          have l0 := L.l0
          refine pickR (tp4.same s5) (by omega) (by omega) fun r H6 r0 r1 tp6 b6 => ?_
          have gl6 := b6 l _ lt (s5 _ _ gl4)
          have gu6 := b6 u0 _ u0t gu0
          have hh6 := but_R b6 hdt (hh4.same s5)
          walk_at "rd"
          have rl : r.toNat < ls.length := by omega
          refine Rd.ixL (.of gl6) (Rd.atI_of r0 (Rd.map_int rl)) ?_
          walk_at "rd"
          refine ⟨Nat.le_of_ble_eq_true rfl, Rd.new fun v1 H7 nv1 gv1 s7 => ?_⟩
          refine Rd.cat (s7 _ _ gu6) gv1 (by rw [List.length_map, List.length_reverse, sizeLine_eq]; show _ + 1 ≤ _; omega) (Rd.new fun u1 H8 nu1 gu1 s8 => ?_)
          walk_at "rd"
          have tp8 := (tp6.same s7).same s8
          have mem := List.getElem_mem rl
          refine ⟨u1, ls.reverse ++ [ls[r.toNat]], rfl, tp8, s8 _ _ (s7 _ _ gl6), (hh6.same s7).same s8, ((tp6.same s7).new nu1).1, by rw [List.map_append]; exact gu1, ⟨by rw [List.length_append]; show 1 ≤ _ + 1; omega, by rw [List.length_append, List.length_reverse]; show _ + 1 ≤ _; omega, fun n hn => ?_⟩, fun x => ?_⟩
          · rcases List.mem_append.mp hn with z | z
            · exact lr.all n z
            · simp at z
              rw [z]
              exact L.all _ mem
          · rw [List.mem_append, List.mem_reverse]
            refine ⟨fun z => z.elim id fun z => ?_, .inl⟩
            simp at z
            rw [z]
            exact mem
        · walk_at "rd"
          exact ⟨u0, ls.reverse, rfl, tp4.same s5, s5 _ _ gl4, hh4.same s5, u0t, gu0, lr, fun x => List.mem_reverse⟩
      · rintro _ H6 ⟨u, us, rfl, tp6, gl6, hh6, ut, gu6, Lu, mem⟩
        walk_at "rd"
        refine ⟨l, ls, rfl, .of gl6, L.all, fun H7 s7 => ?_⟩
        have tp7 := tp6.same s7
        have gl7 := s7 _ _ gl6
        have hh7 := hh6.same s7
        have gu7 := s7 _ _ gu6
        obtain ⟨g0, g1⟩ := gcdL_pos L
        generalize hg : M85.gcdL ls = g at g0 g1
        walk_at "rd"
        refine ⟨Nat.le_of_ble_eq_true rfl, Rd.new fun z H8 nz gz s8 => ?_⟩
        walk_at "rd"
        have zt := (tp7.new nz).1
        have zc := (tp7.new nz).2
        have q1 : (1 : Int) ≤ 130 / (g : Int) := Int.le_ediv_of_mul_le (by omega) (by omega)
        have q2 : 130 / (g : Int) ≤ 130 := Int.ediv_le_self _ (by omega)
        have q3 : (g : Int) * (130 / (g : Int)) ≤ 130 := Int.mul_ediv_self_le (by omega)
        refine Rd.forS ?_
        walk_at "rd"
        refine ⟨by decide, by decide, ?_⟩
        refine for_range (lo := 0) (n := 5) (fun i σ H' => ∃ (zs : List Int) (o : Option V), σ = [some (.ref a), some (.ref t), some (.ref l), some (.ref hd), some (.ref u), some (.int g), some (.ref z), o, none, none, none, none] ∧ Tape H' t c ∧ Rd.But t H7 H' ∧ H' z = some (.lst (zs.map V.int)) ∧ zs.length = 2 * i ∧ ∀ x ∈ zs, 1 ≤ x ∧ x ≤ 130)
          ⟨[], none, rfl, tp7.same s8, Rd.But.of s8, gz, rfl, fun x h => by simp at h⟩ ?_ ?_
        · rintro i _ H' hi ⟨zs, o, rfl, tp', b', gz', ln, hz⟩
          walk_at "rd"
          refine Rd.tyL (.of gz') ?_
          walk_at "rd"
          refine pickR tp' (by decide) (by decide) fun r1 G1 r10 r11 tq1 bq1 => ?_
          have gz1 := bq1 z _ zt gz'
          walk_at "rd"
          refine Rd.app gz1 (by rw [List.length_map, sizeLine_eq]; omega) fun G2 gz2 off2 => ?_
          walk_at "rd"
          refine Rd.tyL (.of gz2) ?_
          walk_at "rd"
          refine Rd.iC ⟨by omega, by omega⟩ ?_
          walk_at "rd"
          refine pickR (tq1.off zt zc off2) (by omega) (by omega) fun r2 G3 r20 r21 tq3 bq3 => ?_
          have gz3 := bq3 z _ zt gz2
          walk_at "rd"
          refine Rd.iC (.inl ⟨by omega, by omega⟩) ?_
          walk_at "rd"
          refine Rd.app gz3 (by rw [List.length_append, List.length_map, sizeLine_eq]; show _ + 1 < _; omega) fun G4 gz4 off4 => ?_
          walk_at "rd"
          have m1 : (g : Int) * (1 + r2) ≤ (g : Int) * (130 / (g : Int)) := Int.mul_le_mul_of_nonneg_left (by omega) (by omega)
          have m2 : (g : Int) * 1 ≤ (g : Int) * (1 + r2) := Int.mul_le_mul_of_nonneg_left (by omega) (by omega)
          refine ⟨zs ++ [1 + r1] ++ [(g : Int) * (1 + r2)], _, rfl, tq3.off zt zc off4, fun b o hb e => ?_, by rw [List.map_append, List.map_append]; exact gz4, by rw [List.length_append, List.length_append]; show _ + 1 + 1 = _; omega, fun x hx => ?_⟩
          · have bz : b ≠ z := ne_of_none e nz
            rw [off4 b bz]
            refine bq3 b o hb ?_
            rw [off2 b bz]
            exact bq1 b o hb (b' b o hb e)
          · rcases List.mem_append.mp hx with h | h
            · rcases List.mem_append.mp h with h | h
              · exact hz x h
              · simp at h
                omega
            · simp at h
              rw [h]
              omega
        · rintro _ H9 ⟨zs, o7, rfl, tp9, b9, gz9, ln, hz⟩
          walk_at "rd"
          have gl9 : SqL K H9 l (ls.map V.int) := but_L b9 lt (.of gl7)
          have gu9 : SqL K H9 u (us.map V.int) := but_L b9 ut (.of gu7)
          have hh9 := but_R b9 hdt hh7
          have sameR : ∀ last, M85.Reach us last last ↔ M85.Reach ls last last := fun last => ⟨fun h => h.mono fun x hx => (mem x).mp hx, fun h => h.mono fun x hx => (mem x).mpr hx⟩
          refine Rd.forS ?_
          walk_at "rd"
          refine ⟨⟨_, .of gz9⟩, for_list (K := K) (a := z) (xs := zs.map V.int) (fun i σ H' => ∃ o8 o9 : Option V, σ = [some (.ref a), some (.ref t), some (.ref l), some (.ref hd), some (.ref u), some (.int g), some (.ref z), o7, o8, o9, none, none] ∧ Same H9 H')
            ⟨none, none, rfl, Same.refl _⟩ (fun i σ H' _ ⟨_, _, _, sm⟩ => sm.seq (.of gz9)) ?_ ?_⟩
          · rintro i y _ H' hy ⟨o8, o9, rfl, sm⟩
            obtain ⟨last, hl, rfl⟩ := Rd.map_get hy
            have lr := hz last (List.mem_of_getElem? hl)
            walk_at "rd"
            refine ⟨l, ls, last, rfl, sm.seq gl9, by omega, by omega, fun G1 b1 sg1 hb1 => ?_⟩
            walk_at "rd"
            refine ⟨hd, ls, last, rfl, hh9.same (sm.trans sg1), L, by omega, by omega, fun G2 b2 sg2 hb2 => ?_⟩
            walk_at "rd"
            refine ⟨_, _, rfl, ?_⟩
            have e12 : b2 = b1 := by
              rw [Bool.eq_iff_iff]
              exact hb2.trans hb1.symm
            subst e12
            rw [beq_self_eq_true]
            walk_at "rd"
            refine ⟨u, us, last, rfl, .inl (((sm.trans sg1).trans sg2).seq gu9), Lu, by omega, by omega, fun G3 b3 sg3 hb3 => ?_⟩
            walk_at "rd"
            refine ⟨_, _, rfl, ?_⟩
            have e13 : b3 = b2 := by
              rw [Bool.eq_iff_iff]
              exact (hb3.trans (sameR last)).trans hb1.symm
            subst e13
            rw [beq_self_eq_true]
            walk_at "rd"
            exact ⟨_, _, rfl, ((sm.trans sg1).trans sg2).trans sg3⟩
          · rintro _ G ⟨o8, o9, rfl, sm⟩
            have tpG := tp9.same sm
            walk_at "rd"
            have e6 : (10 : Int) ^ (6 : Int).toNat = 1000000 := by decide
            have e10 : (10 : Int) ^ (10 : Int).toNat = 10000000000 := by decide
            have e30 : (10 : Int) ^ (30 : Int).toNat = 10 ^ 30 := by decide
            refine Rd.iC ⟨by decide, by decide, by decide⟩ ?_
            rw [e6]
            walk_at "rd"
            refine pickR tpG (by decide) (by decide) fun r G1 r0 r1 tq1 bq1 => ?_
            walk_at "rd"
            refine Rd.iC ⟨by decide, by decide, by decide⟩ ?_
            rw [e10]
            refine Rd.iC (.inl ⟨by omega, by omega⟩) ?_
            walk_at "rd"
            refine Rd.iC (.inl ⟨by omega, by omega⟩) ?_
            have big1 : (g : Int) * 1 ≤ (g : Int) * (1 + r * 10000000000 + 200) := Int.mul_le_mul_of_nonneg_left (by omega) (by omega)
            have big2 : 1 * (1 + r * 10000000000 + 200) ≤ (g : Int) * (1 + r * 10000000000 + 200) := Int.mul_le_mul_of_nonneg_right (by omega) (by omega)
            have big3 : (g : Int) * (1 + r * 10000000000 + 200) ≤ 60 * (1 + r * 10000000000 + 200) := Int.mul_le_mul_of_nonneg_right (by omega) (by omega)
            generalize (g : Int) * (1 + r * 10000000000 + 200) = great at big1 big2 big3
            walk_at "rd"
            refine Rd.iC ⟨by decide, by decide, by decide⟩ ?_
            rw [e30]
            walk_at "rd"
            refine Rd.iC ⟨by decide, by decide, by decide⟩ ?_
            rw [e30]
            walk_at "rd"
            refine pickR tq1 (by decide) (by decide) fun r2 G2 r20 r21 tq2 bq2 => ?_
            walk_at "rd"
            refine Rd.iC ⟨by decide, by decide, by decide⟩ ?_
            rw [e6]
            walk_at "rd"
            refine pickR tq2 (by decide) (by decide) fun r3 G3 r30 r31 tq3 bq3 => ?_
            walk_at "rd"
            refine ⟨Nat.le_of_ble_eq_true rfl, Rd.new fun v G4 nv gv s4 => ?_⟩
            walk_at "rd"
            have hhE : Ru.SqR K G4 hd (ls.map V.int) := (but_R bq3 hdt (but_R bq2 hdt (but_R bq1 hdt (hh9.same sm)))).same s4
            have glE : SqL K G4 l (ls.map V.int) := s4.seq (but_L bq3 lt (but_L bq2 lt (but_L bq1 lt (sm.seq gl9))))
            have gvE : SqL K G4 v (([great, great + 1, great + g, 10 ^ 30, 10 ^ 30 - r2, 120 + r3] : List Int).map V.int) := .of gv
            have rng : ∀ x ∈ ([great, great + 1, great + g, 10 ^ 30, 10 ^ 30 - r2, 120 + r3] : List Int), 120 ≤ x ∧ x ≤ 10 ^ 30 := by
              intro x hx
              simp only [List.mem_cons, List.not_mem_nil, or_false] at hx
              rcases hx with rfl | rfl | rfl | rfl | rfl | rfl <;> constructor <;> omega
            refine Rd.forS ?_
            walk_at "rd"
            refine ⟨⟨_, gvE⟩, for_list (K := K) (a := v) (xs := ([great, great + 1, great + g, 10 ^ 30, 10 ^ 30 - r2, 120 + r3] : List Int).map V.int) (fun i σ H' => ∃ o8 : Option V, σ = [some (.ref a), some (.ref t), some (.ref l), some (.ref hd), some (.ref u), some (.int g), some (.ref z), o7, o8, o9, some (.int great), some (.ref v)] ∧ Same G4 H')
              ⟨o8, rfl, Same.refl _⟩ (fun i σ H' _ ⟨_, _, sm⟩ => sm.seq gvE) ?_ ?_⟩
            · rintro i y _ H' hy ⟨o8, rfl, sm2⟩
              obtain ⟨last, hl, rfl⟩ := Rd.map_get hy
              have lr := rng last (List.mem_of_getElem? hl)
              walk_at "rd"
              refine ⟨hd, ls, last, rfl, hhE.same sm2, L, by omega, by omega, fun G5 b5 sg5 hb5 => ?_⟩
              walk_at "rd"
              refine Rd.iC (by omega) ?_
              walk_at "rd"
              refine ⟨_, _, rfl, ?_⟩
              have e : b5 = decide (last % (g : Int) = 0) := by
                rw [Bool.eq_iff_iff, hb5, decide_eq_true_iff, M85.reach_iff (by omega) (fun x hx => by have := L.all x hx; omega) ?_, hg]
                · exact ⟨fun h => Int.emod_eq_zero_of_dvd h, fun h => Int.dvd_of_emod_eq_zero h⟩
                · refine List.pairwise_iff_forall_sublist.mpr fun {x y} hxy => ?_
                  have a1 := L.all x (hxy.subset (by simp))
                  have a2 := L.all y (hxy.subset (by simp))
                  omega
              subst e
              rw [beq_self_eq_true]
              walk_at "rd"
              exact ⟨_, rfl, sm2.trans sg5⟩
            · rintro _ H' ⟨o8, rfl, sm2⟩
              walk_at "rd"
              refine Rd.listOf (hhE.same sm2) (Rd.new fun e1 G6 ne1 ge1 s6 => ?_)
              walk_at "rd"
              refine eqInts (.of ge1) ((sm2.trans s6).seq glE) ?_
              exact k _
end
end W


namespace W
open PySem PySem.Spec PyProof.Rows L2
theorem all_mk {l : PySem.W.OpenLaw} {w : World} {K : PySem.W.Frag} {h : Heap} {mg : Str → Option Value} {fa : Addr} (X : K.In h) (G : h.Ns mainGlobals mg) (hfa : mg "law" = some (.ref fa))
    {f1 f2 f3 f4 f5 f6 f7 f8 f9 f10 f11 f12 f13 f14 f15 f16 : Addr} {od1 an1 od2 an2 od3 an3 od4 an4 od5 an5 od6 an6 od7 an7 od8 an8 od9 an9 od10 an10 od11 an11 od12 an12 od13 an13 od14 an14 od15 an15 od16 an16 : Option Addr} {sl1 sl2 sl3 sl4 sl5 sl6 sl7 sl8 sl9 sl10 sl11 sl12 sl13 sl14 sl15 sl16 : Array (Option Value)} {oc1 kV1 dc1 pm1 cd1 ct1 oc2 kV2 dc2 pm2 cd2 ct2 oc3 kV3 dc3 pm3 cd3 ct3 oc4 kV4 dc4 pm4 cd4 ct4 oc5 kV5 dc5 pm5 cd5 ct5 oc6 kV6 dc6 pm6 cd6 ct6 oc7 kV7 dc7 pm7 cd7 ct7 oc8 kV8 dc8 pm8 cd8 ct8 oc9 kV9 dc9 pm9 cd9 ct9 oc10 kV10 dc10 pm10 cd10 ct10 oc11 kV11 dc11 pm11 cd11 ct11 oc12 kV12 dc12 pm12 cd12 ct12 oc13 kV13 dc13 pm13 cd13 ct13 oc14 kV14 dc14 pm14 cd14 ct14 oc15 kV15 dc15 pm15 cd15 ct15 oc16 kV16 dc16 pm16 cd16 ct16 : Value}
    (a1 : PySem.W.nsIn K mainGlobals "is_integer" = some (some (.ref f1))) (l1 : K.lookup f1 = some ⟨oc1, od1, .func (PySem.W.fnOf "is_integer" "is_integer" (defArgs s_is_integer) (defBody s_is_integer) (defScope s_is_integer) .none kV1 dc1 pm1 an1 cd1 ct1), sl1⟩) (c1 : PySem.W.codeIn K cd1 "is_integer" = true) (k1 : PySem.W.keepIn K (.ref f1) = true)
    (a2 : PySem.W.nsIn K mainGlobals "common" = some (some (.ref f2))) (l2 : K.lookup f2 = some ⟨oc2, od2, .func (PySem.W.fnOf "common" "common" (defArgs s_common) (defBody s_common) (defScope s_common) .none kV2 dc2 pm2 an2 cd2 ct2), sl2⟩) (c2 : PySem.W.codeIn K cd2 "common" = true) (k2 : PySem.W.keepIn K (.ref f2) = true)
    (a3 : PySem.W.nsIn K mainGlobals "check_lengths" = some (some (.ref f3))) (l3 : K.lookup f3 = some ⟨oc3, od3, .func (PySem.W.fnOf "check_lengths" "check_lengths" (defArgs s_check_lengths) (defBody s_check_lengths) (defScope s_check_lengths) .none kV3 dc3 pm3 an3 cd3 ct3), sl3⟩) (c3 : PySem.W.codeIn K cd3 "check_lengths" = true) (k3 : PySem.W.keepIn K (.ref f3) = true)
    (a4 : PySem.W.nsIn K mainGlobals "divisor_of" = some (some (.ref f4))) (l4 : K.lookup f4 = some ⟨oc4, od4, .func (PySem.W.fnOf "divisor_of" "divisor_of" (defArgs s_divisor_of) (defBody s_divisor_of) (defScope s_divisor_of) .none kV4 dc4 pm4 an4 cd4 ct4), sl4⟩) (c4 : PySem.W.codeIn K cd4 "divisor_of" = true) (k4 : PySem.W.keepIn K (.ref f4) = true)
    (a5 : PySem.W.nsIn K mainGlobals "far_from" = some (some (.ref f5))) (l5 : K.lookup f5 = some ⟨oc5, od5, .func (PySem.W.fnOf "far_from" "far_from" (defArgs s_far_from) (defBody s_far_from) (defScope s_far_from) .none kV5 dc5 pm5 an5 cd5 ct5), sl5⟩) (c5 : PySem.W.codeIn K cd5 "far_from" = true) (k5 : PySem.W.keepIn K (.ref f5) = true)
    (a6 : PySem.W.nsIn K mainGlobals "steps_reach" = some (some (.ref f6))) (l6 : K.lookup f6 = some ⟨oc6, od6, .func (PySem.W.fnOf "steps_reach" "steps_reach" (defArgs s_steps_reach) (defBody s_steps_reach) (defScope s_steps_reach) .none kV6 dc6 pm6 an6 cd6 ct6), sl6⟩) (c6 : PySem.W.codeIn K cd6 "steps_reach" = true) (k6 : PySem.W.keepIn K (.ref f6) = true)
    (a7 : PySem.W.nsIn K mainGlobals "is_reached" = some (some (.ref f7))) (l7 : K.lookup f7 = some ⟨oc7, od7, .func (PySem.W.fnOf "is_reached" "is_reached" (defArgs s_is_reached) (defBody s_is_reached) (defScope s_is_reached) .none kV7 dc7 pm7 an7 cd7 ct7), sl7⟩) (c7 : PySem.W.codeIn K cd7 "is_reached" = true) (k7 : PySem.W.keepIn K (.ref f7) = true)
    (a8 : PySem.W.nsIn K mainGlobals "lone_told" = some (some (.ref f8))) (l8 : K.lookup f8 = some ⟨oc8, od8, .func (PySem.W.fnOf "lone_told" "lone_told" (defArgs s_lone_told) (defBody s_lone_told) (defScope s_lone_told) .none kV8 dc8 pm8 an8 cd8 ct8), sl8⟩) (c8 : PySem.W.codeIn K cd8 "lone_told" = true) (k8 : PySem.W.keepIn K (.ref f8) = true)
    (a9 : PySem.W.nsIn K mainGlobals "_law_flag" = some (some (.ref f9))) (l9 : K.lookup f9 = some ⟨oc9, od9, .func (PySem.W.fnOf "_law_flag" "_law_flag" (defArgs s_l_flag) (defBody s_l_flag) (defScope s_l_flag) .none kV9 dc9 pm9 an9 cd9 ct9), sl9⟩) (c9 : PySem.W.codeIn K cd9 "_law_flag" = true) (k9 : PySem.W.keepIn K (.ref f9) = true)
    (a10 : PySem.W.nsIn K mainGlobals "_law_tape" = some (some (.ref f10))) (l10 : K.lookup f10 = some ⟨oc10, od10, .func (PySem.W.fnOf "_law_tape" "_law_tape" (defArgs s_l_tape) (defBody s_l_tape) (defScope s_l_tape) .none kV10 dc10 pm10 an10 cd10 ct10), sl10⟩) (c10 : PySem.W.codeIn K cd10 "_law_tape" = true) (k10 : PySem.W.keepIn K (.ref f10) = true)
    (a11 : PySem.W.nsIn K mainGlobals "_law_pick" = some (some (.ref f11))) (l11 : K.lookup f11 = some ⟨oc11, od11, .func (PySem.W.fnOf "_law_pick" "_law_pick" (defArgs s_l_pick) (defBody s_l_pick) (defScope s_l_pick) .none kV11 dc11 pm11 an11 cd11 ct11), sl11⟩) (c11 : PySem.W.codeIn K cd11 "_law_pick" = true) (k11 : PySem.W.keepIn K (.ref f11) = true)
    (a12 : PySem.W.nsIn K mainGlobals "_law_common" = some (some (.ref f12))) (l12 : K.lookup f12 = some ⟨oc12, od12, .func (PySem.W.fnOf "_law_common" "_law_common" (defArgs s_l_common) (defBody s_l_common) (defScope s_l_common) .none kV12 dc12 pm12 an12 cd12 ct12), sl12⟩) (c12 : PySem.W.codeIn K cd12 "_law_common" = true) (k12 : PySem.W.keepIn K (.ref f12) = true)
    (a13 : PySem.W.nsIn K mainGlobals "_law_divisor" = some (some (.ref f13))) (l13 : K.lookup f13 = some ⟨oc13, od13, .func (PySem.W.fnOf "_law_divisor" "_law_divisor" (defArgs s_l_divisor) (defBody s_l_divisor) (defScope s_l_divisor) .none kV13 dc13 pm13 an13 cd13 ct13), sl13⟩) (c13 : PySem.W.codeIn K cd13 "_law_divisor" = true) (k13 : PySem.W.keepIn K (.ref f13) = true)
    (a14 : PySem.W.nsIn K mainGlobals "_law_reach" = some (some (.ref f14))) (l14 : K.lookup f14 = some ⟨oc14, od14, .func (PySem.W.fnOf "_law_reach" "_law_reach" (defArgs s_l_reach) (defBody s_l_reach) (defScope s_l_reach) .none kV14 dc14 pm14 an14 cd14 ct14), sl14⟩) (c14 : PySem.W.codeIn K cd14 "_law_reach" = true) (k14 : PySem.W.keepIn K (.ref f14) = true)
    (a15 : PySem.W.nsIn K mainGlobals "_law_lengths" = some (some (.ref f15))) (l15 : K.lookup f15 = some ⟨oc15, od15, .func (PySem.W.fnOf "_law_lengths" "_law_lengths" (defArgs s_l_lengths) (defBody s_l_lengths) (defScope s_l_lengths) .none kV15 dc15 pm15 an15 cd15 ct15), sl15⟩) (c15 : PySem.W.codeIn K cd15 "_law_lengths" = true) (k15 : PySem.W.keepIn K (.ref f15) = true)
    (a16 : PySem.W.nsIn K mainGlobals "law" = some (some (.ref f16))) (l16 : K.lookup f16 = some ⟨oc16, od16, .func (PySem.W.fnOf "law" "law" (defArgs s_law) (defBody s_law) (defScope s_law) .none kV16 dc16 pm16 an16 cd16 ct16), sl16⟩) (c16 : PySem.W.codeIn K cd16 "law" = true) (k16 : PySem.W.keepIn K (.ref f16) = true)
    (z0 : PySem.W.nsIn K mainGlobals "isinstance" = some none)
    (z1 : PySem.W.nsIn K mainGlobals "int" = some none)
    (z2 : PySem.W.nsIn K mainGlobals "bool" = some none)
    (z3 : PySem.W.nsIn K mainGlobals "abs" = some none)
    (z4 : PySem.W.nsIn K mainGlobals "len" = some none)
    (z5 : PySem.W.nsIn K mainGlobals "list" = some none)
    (z6 : PySem.W.nsIn K mainGlobals "tuple" = some none)
    (z7 : PySem.W.nsIn K mainGlobals "sum" = some none)
    (z8 : PySem.W.nsIn K mainGlobals "sorted" = some none)
    (z9 : PySem.W.nsIn K mainGlobals "enumerate" = some none)
    (z10 : PySem.W.nsIn K mainGlobals "range" = some none)
    {t0 : Tok} (y0 : PySem.W.nsIn K mainGlobals "MOST_LENGTHS" = some (some (.int 8 t0)))
    {t1 : Tok} (y1 : PySem.W.nsIn K mainGlobals "MOST_LENGTH" = some (some (.int 60 t1)))
    {t2 : Tok} (y2 : PySem.W.nsIn K mainGlobals "MOST_LAST" = some (some (.int (10 ^ 30) t2)))
    : ∃ fd : FuncData, (∀ (s : Shared) (v : Value), BindsTo s fd ⟨[v], []⟩ [("_law_script", v)]) ∧ ∀ base : Heap, K.In base → base.Ns mainGlobals mg → FnOk l.prog w K mg base CX0 5 fa fd ["_law_script"] (sp_law K) := by
  have e := hfa.symm.trans (PySem.W.mg_of X G a16)
  cases e
  have F1 := fun_mk (st := s_is_integer) l1 c1 k1
  have F2 := fun_mk (st := s_common) l2 c2 k2
  have F3 := fun_mk (st := s_check_lengths) l3 c3 k3
  have F4 := fun_mk (st := s_divisor_of) l4 c4 k4
  have F5 := fun_mk (st := s_far_from) l5 c5 k5
  have F6 := fun_mk (st := s_steps_reach) l6 c6 k6
  have F7 := fun_mk (st := s_is_reached) l7 c7 k7
  have F8 := fun_mk (st := s_lone_told) l8 c8 k8
  have F9 := fun_mk (st := s_l_flag) l9 c9 k9
  have F10 := fun_mk (st := s_l_tape) l10 c10 k10
  have F11 := fun_mk (st := s_l_pick) l11 c11 k11
  have F12 := fun_mk (st := s_l_common) l12 c12 k12
  have F13 := fun_mk (st := s_l_divisor) l13 c13 k13
  have F14 := fun_mk (st := s_l_reach) l14 c14 k14
  have F15 := fun_mk (st := s_l_lengths) l15 c15 k15
  have F16 := fun_mk (st := s_law) l16 c16 k16
  let T : Txt K mg := {
    f_is_integer := f1, fd_is_integer := _, F_is_integer := F1, g_is_integer := PySem.W.mg_of X G a1, b_is_integer := F1.binds (ps := ["value"]) fun _ _ _ _ _ _ us hl => match us, hl with | [_], _ => rfl,
    f_common := f2, fd_common := _, F_common := F2, g_common := PySem.W.mg_of X G a2, b_common := F2.binds (ps := ["one", "other"]) fun _ _ _ _ _ _ us hl => match us, hl with | [_, _], _ => rfl,
    f_check_lengths := f3, fd_check_lengths := _, F_check_lengths := F3, g_check_lengths := PySem.W.mg_of X G a3, b_check_lengths := F3.binds (ps := ["lengths"]) fun _ _ _ _ _ _ us hl => match us, hl with | [_], _ => rfl,
    f_divisor_of := f4, fd_divisor_of := _, F_divisor_of := F4, g_divisor_of := PySem.W.mg_of X G a4, b_divisor_of := F4.binds (ps := ["lengths"]) fun _ _ _ _ _ _ us hl => match us, hl with | [_], _ => rfl,
    f_far_from := f5, fd_far_from := _, F_far_from := F5, g_far_from := PySem.W.mg_of X G a5, b_far_from := F5.binds (ps := ["lengths"]) fun _ _ _ _ _ _ us hl => match us, hl with | [_], _ => rfl,
    f_steps_reach := f6, fd_steps_reach := _, F_steps_reach := F6, g_steps_reach := PySem.W.mg_of X G a6, b_steps_reach := F6.binds (ps := ["lengths", "last"]) fun _ _ _ _ _ _ us hl => match us, hl with | [_, _], _ => rfl,
    f_is_reached := f7, fd_is_reached := _, F_is_reached := F7, g_is_reached := PySem.W.mg_of X G a7, b_is_reached := F7.binds (ps := ["lengths", "last"]) fun _ _ _ _ _ _ us hl => match us, hl with | [_, _], _ => rfl,
    f_lone_told := f8, fd_lone_told := _, F_lone_told := F8, g_lone_told := PySem.W.mg_of X G a8, b_lone_told := F8.binds (ps := ["lengths", "last"]) fun _ _ _ _ _ _ us hl => match us, hl with | [_, _], _ => rfl,
    f_l_flag := f9, fd_l_flag := _, F_l_flag := F9, g_l_flag := PySem.W.mg_of X G a9, b_l_flag := F9.binds (ps := ["_law_told", "_law_due"]) fun _ _ _ _ _ _ us hl => match us, hl with | [_, _], _ => rfl,
    f_l_tape := f10, fd_l_tape := _, F_l_tape := F10, g_l_tape := PySem.W.mg_of X G a10, b_l_tape := F10.binds (ps := ["_law_script"]) fun _ _ _ _ _ _ us hl => match us, hl with | [_], _ => rfl,
    f_l_pick := f11, fd_l_pick := _, F_l_pick := F11, g_l_pick := PySem.W.mg_of X G a11, b_l_pick := F11.binds (ps := ["_law_tape_here", "_law_size"]) fun _ _ _ _ _ _ us hl => match us, hl with | [_, _], _ => rfl,
    f_l_common := f12, fd_l_common := _, F_l_common := F12, g_l_common := PySem.W.mg_of X G a12, b_l_common := F12.binds (ps := ["_law_one", "_law_other"]) fun _ _ _ _ _ _ us hl => match us, hl with | [_, _], _ => rfl,
    f_l_divisor := f13, fd_l_divisor := _, F_l_divisor := F13, g_l_divisor := PySem.W.mg_of X G a13, b_l_divisor := F13.binds (ps := ["_law_lengths_here"]) fun _ _ _ _ _ _ us hl => match us, hl with | [_], _ => rfl,
    f_l_reach := f14, fd_l_reach := _, F_l_reach := F14, g_l_reach := PySem.W.mg_of X G a14, b_l_reach := F14.binds (ps := ["_law_lengths_here", "_law_last"]) fun _ _ _ _ _ _ us hl => match us, hl with | [_, _], _ => rfl,
    f_l_lengths := f15, fd_l_lengths := _, F_l_lengths := F15, g_l_lengths := PySem.W.mg_of X G a15, b_l_lengths := F15.binds (ps := ["_law_tape_here"]) fun _ _ _ _ _ _ us hl => match us, hl with | [_], _ => rfl,
    f_law := fa, fd_law := _, F_law := F16, g_law := PySem.W.mg_of X G a16, b_law := F16.binds (ps := ["_law_script"]) fun _ _ _ _ _ _ us hl => match us, hl with | [_], _ => rfl,
    n_isinstance := PySem.W.mg_none_of X G z0,
    n_int := PySem.W.mg_none_of X G z1,
    n_bool := PySem.W.mg_none_of X G z2,
    n_abs := PySem.W.mg_none_of X G z3,
    n_len := PySem.W.mg_none_of X G z4,
    n_list := PySem.W.mg_none_of X G z5,
    n_tuple := PySem.W.mg_none_of X G z6,
    n_sum := PySem.W.mg_none_of X G z7,
    n_sorted := PySem.W.mg_none_of X G z8,
    n_enumerate := PySem.W.mg_none_of X G z9,
    n_range := PySem.W.mg_none_of X G z10,
    t_MOST_LENGTHS := t0, m_MOST_LENGTHS := PySem.W.mg_of X G y0,
    t_MOST_LENGTH := t1, m_MOST_LENGTH := PySem.W.mg_of X G y1,
    t_MOST_LAST := t2, m_MOST_LAST := PySem.W.mg_of X G y2 }
  exact ⟨_, fun s v => .of_eq rfl, fun base _ _ => ok_law T⟩
theorem walk {l : PySem.W.OpenLaw} {q : Program} {loose : List Str} {XP : (Str → Option Value) → Heap → Prop} {YP : World → Heap → Prop} {d : DefRec} {K : Params → PySem.W.Frag} (hn : l.most = some 63) (hdf : d.params.defaults = [])
    (hY : ∀ (w : World) (h : Heap), YP w h → (K w.params).In h)
    (F : ∀ (w : World) (mg : Str → Option Value) (fa : Addr) (h : Heap), (K w.params).In h → h.Ns mainGlobals mg → mg d.name = some (.ref fa) →
      ∃ fd : FuncData, (∀ (s : Shared) (u : Value), BindsTo s fd ⟨[u], []⟩ [("_law_script", u)]) ∧ ∀ base : Heap, (K w.params).In base → base.Ns mainGlobals mg → FnOk l.prog w (K w.params) mg base CX0 5 fa fd ["_law_script"] (sp_law (K w.params))) :
    PySem.W.WalkO q loose XP YP l.row.toRowW d [] (fun f vs => PySem.call f vs) :=
  L2.walk_of (n := 63) (k := 5) (x := "_law_script") (CX := fun _ => CX0) (sp := fun w => sp_law (K w.params)) hn (by decide) hdf ⟨rfl, by decide, by decide⟩ hY F (fun _ _ a ns hl _ hS => ⟨a, ns, rfl, hS, hl, fun _ => rfl⟩) fun _ _ _ _ _ z => z
end W
open PySem PySem.W PyProof.Rows
set_option maxRecDepth 100000 in
set_option maxHeartbeats 0 in
theorem PySem.Challenge.cw_watchedways_k85_lone_lengths_told_holds : PySem.Challenge.rw_watchedways_k85_lone_lengths_told.Holds := by
  w_on; o_law; k_head; (case hw => w_witness2)
  k_fill
  refine W.walk (l := PySem.Challenge.rw_watchedways_k85_lone_lengths_told) rfl rfl (fun w h Y => PySem.W.kIn_of Y) ?F
  case F =>
    intro w mg fa h KX G hmg
    refine' W.all_mk KX G hmg ?a1 ?l1 ?c1 ?k1 ?a2 ?l2 ?c2 ?k2 ?a3 ?l3 ?c3 ?k3 ?a4 ?l4 ?c4 ?k4 ?a5 ?l5 ?c5 ?k5 ?a6 ?l6 ?c6 ?k6 ?a7 ?l7 ?c7 ?k7 ?a8 ?l8 ?c8 ?k8 ?a9 ?l9 ?c9 ?k9 ?a10 ?l10 ?c10 ?k10 ?a11 ?l11 ?c11 ?k11 ?a12 ?l12 ?c12 ?k12 ?a13 ?l13 ?c13 ?k13 ?a14 ?l14 ?c14 ?k14 ?a15 ?l15 ?c15 ?k15 ?a16 ?l16 ?c16 ?k16 ?z0 ?z1 ?z2 ?z3 ?z4 ?z5 ?z6 ?z7 ?z8 ?z9 ?z10 ?y0 ?y1 ?y2
    (case a1 => k_is); (case l1 => k_is); (case c1 => k_is); (case k1 => k_is); (case a2 => k_is); (case l2 => k_is); (case c2 => k_is); (case k2 => k_is); (case a3 => k_is); (case l3 => k_is); (case c3 => k_is); (case k3 => k_is); (case a4 => k_is); (case l4 => k_is); (case c4 => k_is); (case k4 => k_is); (case a5 => k_is); (case l5 => k_is); (case c5 => k_is); (case k5 => k_is); (case a6 => k_is); (case l6 => k_is); (case c6 => k_is); (case k6 => k_is); (case a7 => k_is); (case l7 => k_is); (case c7 => k_is); (case k7 => k_is); (case a8 => k_is); (case l8 => k_is); (case c8 => k_is); (case k8 => k_is); (case a9 => k_is); (case l9 => k_is); (case c9 => k_is); (case k9 => k_is); (case a10 => k_is); (case l10 => k_is); (case c10 => k_is); (case k10 => k_is); (case a11 => k_is); (case l11 => k_is); (case c11 => k_is); (case k11 => k_is); (case a12 => k_is); (case l12 => k_is); (case c12 => k_is); (case k12 => k_is); (case a13 => k_is); (case l13 => k_is); (case c13 => k_is); (case k13 => k_is); (case a14 => k_is); (case l14 => k_is); (case c14 => k_is); (case k14 => k_is); (case a15 => k_is); (case l15 => k_is); (case c15 => k_is); (case k15 => k_is); (case a16 => k_is); (case l16 => k_is); (case c16 => k_is); (case k16 => k_is); (case z0 => k_is); (case z1 => k_is); (case z2 => k_is); (case z3 => k_is); (case z4 => k_is); (case z5 => k_is); (case z6 => k_is); (case z7 => k_is); (case z8 => k_is); (case z9 => k_is); (case z10 => k_is); (case y0 => k_is); (case y1 => k_is); (case y2 => k_is)

