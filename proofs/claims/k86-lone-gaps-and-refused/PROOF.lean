import PyProof.Rows.All
import Wide.All
import OpenK.AllK
import Wide.FinOn
import HandS.ForMost
import HandS.SortInts
import HandS.Style
import HandS.IsInst
import HandS.Flow
import HandS.Conv
import HandS.Codes
import PyProof.Draws
import PyProof.EnumMake
import HandS.Walk
import HandS.Strs
import HandS.More
import HandS.Text
import HandS.Small
import HandS.SortKw
import KE.SortKeyed
import HandS.DictComp
import HandS.Zip
import HandS.Finally
import HandS.Exc
import HandS.ExcOwn
import HandS.ExcInit
import HandS.ExcIs
import HandS.TryOnly
import HandS.TryMany
import HandS.WordsExc
import HandS.Defaults
import HandS.CallSlots
import HandS.DeepEq
import PySem.Challenge.RW_watchedways_k86_lone_gaps_and_refused
set_option Elab.async false
set_option linter.all false
set_option maxRecDepth 100000
set_option maxHeartbeats 4000000
/-! Readings by their heads: one lemma a combinator, so that a reading is walked by its own shape. -/
namespace Rd
open PySem PySem.Spec PyProof.Rows L2
variable {X : Cx} {D : Ends} {σ : L2.St} {H : Hp} {K : PySem.W.Frag}
/-- a new object is laid -/
def NewQ (o : HO) (Q : VK) (H : Hp) : Prop := ∀ p, H p = none → Q (.ref p) (upd H p o)
theorem new {o : HO} {Q : VK} (h : ∀ (p : Addr) (G : Hp), H p = none → G p = some o → Same H G → Q (.ref p) G) : NewQ o Q H :=
  fun p hp => h p _ hp upd_same fun b u e => by rw [upd_ne (ne_of_none e hp)]; exact e
theorem seq {t u : TS} (h : t { D with nx := u D } σ H) : tSeq t u D σ H := h
theorem cut {t u : TS} (Mid : L2.St → Hp → Prop) (h : t { D with nx := Mid } σ H) (h2 : ∀ σ' H', Mid σ' H' → u D σ' H') : C8.tCut t u D σ H := ⟨Mid, h, h2⟩
theorem nxt (h : D.nx σ H) : tNext D σ H := h
theorem asg {te : TE} {g : TG} (h : te σ H fun x H1 => g x σ H1 D.nx) : tAsg te g D σ H := h
theorem name {i : Nat} {v : V} {Q : L2.St → Hp → Prop} (h : Q (σ.set i (some v)) H) : gName i v σ H Q := h
theorem ret {te : TE} (h : te σ H D.rt) : tRet te D σ H := h
theorem retN (h : D.rt .non H) : tRetN D σ H := h
theorem drop {te : TE} (h : te σ H fun _ H1 => D.nx σ H1) : tDrop te D σ H := h
theorem ifS {c : TT} {t u : TS} (h : c σ H fun b H1 => if b = true then t D σ H1 else u D σ H1) : tIfS c t u D σ H := h
theorem brk (h : D.bk σ H) : tBreak D σ H := h
theorem cont (h : D.ct σ H) : tCont D σ H := h
theorem var {i : Nat} {v : V} {Q : VK} (e : σ[i]? = some (some v)) (h : Q v H) : tVar i σ H Q := ⟨v, e, h⟩
theorem con {v : V} {Q : VK} (h : Q v H) : tC v σ H Q := h
theorem op {r : R2} {ta tb : TE} {Q : VK} (h : ta σ H fun x H1 => tb σ H1 fun y H2 => r x y H2 Q) : tOp r ta tb σ H Q := h
theorem un {r : V → Hp → VK → Prop} {ta : TE} {Q : VK} (h : ta σ H fun x H1 => r x H1 Q) : tUn r ta σ H Q := h
theorem test {t : TE} {Q : Bool → Hp → Prop} (h : t σ H fun x H' => ∃ k, x = .bl k ∧ Q k H') : tTest t σ H Q := h
theorem tstB {t : TE} {Q : Bool → Hp → Prop} (h : t σ H fun x H' => ∃ k, x = .bl k ∧ Q k H') : tB t σ H Q := h
theorem bl {k : Bool} {Q : Bool → Hp → Prop} (h : Q k H) : ∃ k', V.bl k = .bl k' ∧ Q k' H := ⟨k, rfl, h⟩
theorem and {t u : TT} {Q : Bool → Hp → Prop} (h : t σ H fun c H1 => if c = true then u σ H1 Q else Q false H1) : tAnd t u σ H Q := h
theorem or {t u : TT} {Q : Bool → Hp → Prop} (h : t σ H fun c H1 => if c = true then Q true H1 else u σ H1 Q) : tOr t u σ H Q := h
theorem not {t : TT} {Q : Bool → Hp → Prop} (h : t σ H fun c H1 => Q (!c) H1) : tNot t σ H Q := h
theorem andV {ta tb : TE} {Q : VK} (h : ta σ H fun x H1 => ∃ c, x = .bl c ∧ if c = true then tb σ H1 Q else Q (.bl false) H1) : tAndV ta tb σ H Q := h
theorem orV {ta tb : TE} {Q : VK} (h : ta σ H fun x H1 => ∃ c, x = .bl c ∧ if c = true then Q (.bl true) H1 else tb σ H1 Q) : tOrV ta tb σ H Q := h
theorem notV {ta : TE} {Q : VK} (h : ta σ H fun x H1 => ∃ c, x = .bl c ∧ Q (.bl (!c)) H1) : tNotV ta σ H Q := h
theorem ifE {t : TT} {ta tb : TE} {Q : VK} (h : t σ H fun c H1 => if c = true then ta σ H1 Q else tb σ H1 Q) : tIf t ta tb σ H Q := h
theorem nil {Q : List V → Hp → Prop} (h : Q [] H) : tNil σ H Q := h
theorem cons {ta : TE} {tr : TA} {Q : List V → Hp → Prop} (h : ta σ H fun x H1 => tr σ H1 fun xs H2 => Q (x :: xs) H2) : tCons ta tr σ H Q := h
theorem tup {t : TA} {Q : VK} (h : t σ H fun xs H1 => xs.length ≤ sizeLine ∧ NewQ (.tup xs) Q H1) : tTup t σ H Q := h
theorem lst {t : TA} {Q : VK} (h : t σ H fun xs H1 => xs.length ≤ sizeLine ∧ NewQ (.lst xs) Q H1) : tLst t σ H Q := h
theorem cb {r : List V → Hp → VK → Prop} {t : TA} {Q : VK} (h : t σ H fun vs H1 => r vs H1 Q) : tCB r t σ H Q := h
theorem call {sp : Sp} {dvs : List V} {E : XK} {t : TA} {Q : VK} (h : t σ H fun vs H1 => sp (vs ++ dvs) H1 Q E) : tCall sp dvs E t σ H Q := h
theorem chain {r r' : R2} {ta tb tc : TE} {Q : VK} (h : ta σ H fun x H1 => tb σ H1 fun y H2 => r x y H2 fun z H3 => ∃ k, z = .bl k ∧ (if k = true then tc σ H3 fun w' H4 => r' y w' H4 Q else Q (.bl false) H3)) : tChain r r' ta tb tc σ H Q := h
theorem blE {k : Bool} {P : Bool → Prop} (h : P k) : ∃ k', V.bl k = .bl k' ∧ P k' := ⟨k, rfl, h⟩
theorem i0 {g : Int → Int → V} {i j : Int} {Q : VK} (h : Q (g i j) H) : rI0 g (.int i) (.int j) H Q := ⟨i, j, rfl, rfl, h⟩
theorem iC {C : Int → Int → Prop} {g : Int → Int → V} {i j : Int} {Q : VK} (c : C i j) (h : Q (g i j) H) : rI C g (.int i) (.int j) H Q := ⟨i, j, rfl, rfl, c, h⟩
theorem u1 {g : Int → V} {i : Int} {Q : VK} (h : Q (g i) H) : rU g (.int i) H Q := ⟨i, rfl, h⟩
theorem eqI {i j : Int} {Q : VK} (h : Q (.bl (decide (i = j))) H) : rEq (.int i) (.int j) H Q := ⟨rfl, by rw [show decide (V.int i = V.int j) = decide (i = j) by simp]; exact h⟩
theorem neI {i j : Int} {Q : VK} (h : Q (.bl (!decide (i = j))) H) : rNe (.int i) (.int j) H Q := ⟨rfl, by rw [show decide (V.int i = V.int j) = decide (i = j) by simp]; exact h⟩
theorem eqB {i j : Bool} {Q : VK} (h : Q (.bl (i == j)) H) : rEq (.bl i) (.bl j) H Q := ⟨rfl, by rw [dec_bl]; exact h⟩
theorem neB {i j : Bool} {Q : VK} (h : Q (.bl (i != j)) H) : rNe (.bl i) (.bl j) H Q := ⟨rfl, by rw [dec_bl]; exact h⟩
theorem eqS {i j : Str} {Q : VK} (h : Q (.bl (decide (i = j))) H) : rEq (.str i) (.str j) H Q := ⟨rfl, by rw [show decide (V.str i = V.str j) = decide (i = j) by simp]; exact h⟩
theorem neS {i j : Str} {Q : VK} (h : Q (.bl (!decide (i = j))) H) : rNe (.str i) (.str j) H Q := ⟨rfl, by rw [show decide (V.str i = V.str j) = decide (i = j) by simp]; exact h⟩
theorem iteb {c A B : Prop} [Decidable c] (h : if c then A else B) : if decide c = true then A else B := by
  by_cases q : c
  · rw [if_pos q] at h; rw [if_pos (decide_eq_true q)]; exact h
  · rw [if_neg q] at h; rw [if_neg (by simpa using q)]; exact h
theorem iten {c A B : Prop} [Decidable c] (h : if c then B else A) : if (!decide c) = true then A else B := by
  by_cases q : c
  · rw [if_pos q] at h; rw [if_neg (by simpa using q)]; exact h
  · rw [if_neg q] at h; rw [if_pos (by simpa using q)]; exact h
theorem itbn {b : Bool} {A B : Prop} (h : if b = true then B else A) : if (!b) = true then A else B := by
  cases b with
  | true => rw [if_neg (by decide)]; rw [if_pos rfl] at h; exact h
  | false => rw [if_pos (by rfl : (!false) = true)]; rw [if_neg (by decide)] at h; exact h
theorem a1 {a : Int} {P : Int → Prop} (h : P a) : ∃ i, [V.int a] = [V.int i] ∧ P i := ⟨a, rfl, h⟩
theorem a2 {a b : Int} {P : Int → Int → Prop} (h : P a b) : ∃ i j, [V.int a, V.int b] = [V.int i, V.int j] ∧ P i j := ⟨a, b, rfl, h⟩
theorem v2 {a b : V} {P : V → V → Prop} (h : P a b) : ∃ i j, [a, b] = [i, j] ∧ P i j := ⟨a, b, rfl, h⟩
theorem int1 {a : Int} {P : Int → Prop} {R : Prop} (h : P a) : (∃ i, [V.int a] = [V.int i] ∧ P i) ∨ R := .inl ⟨a, rfl, h⟩
theorem par {i j : Nat} {ta : TA} (h : ta σ H fun vs H1 => ∃ v w, vs = [v, w] ∧ D.nx ((σ.set i (some v)).set j (some w)) H1) : tPar i j ta D σ H := h
theorem sub {to ti : TE} {t : TSet} {v : V} {Q : L2.St → Hp → Prop} (h : to σ H fun o H1 => ti σ H1 fun i H2 => t o i v H2 fun H3 => Q σ H3) : gSub to ti t v σ H Q := h
theorem forS {wi : TI} {g : TG} {tb : TS} (h : wi σ H fun J H1 => ∃ W : Nat → Nat → L2.St → Hp → Prop, (∃ m, W 0 m σ H1) ∧ ∀ i m σ H, W i m σ H →
  (J.stop i H ∧ D.nx σ H) ∨ (J.go i H ∧ ∃ N : L2.St → Hp → Prop, (∀ σ' H', N σ' H' → ∃ m', m' < m ∧ W (i + 1) m' σ' H') ∧ ∀ x H', J.yld i H x H' → g x σ H' fun σ2 H2 => tb { D with nx := N, ct := N, bk := D.nx } σ2 H2)) : tFor wi g tb D σ H := h
theorem iter {tl : TE} {R : It → Hp → Prop} (h : tl σ H fun x H1 => ∃ a, x = .ref a ∧ (∃ xs, SqL K H1 a xs) ∧ R (Itl K a) H1) : iList K tl σ H R := h
theorem iterT {tl : TE} {R : It → Hp → Prop} (h : tl σ H fun x H1 => ∃ a, x = .ref a ∧ (∃ xs, SqT K H1 a xs) ∧ R (Itt K a) H1) : iTup K tl σ H R := h
theorem rng1 {ta : TA} {R : It → Hp → Prop} (h : ta σ H fun vs H1 => ∃ j : Int, vs = [.int j] ∧ -(2 ^ 62) ≤ j ∧ j < 2 ^ 62 ∧ R (Itr 0 j.toNat) H1) : iRng1 ta σ H R := h
theorem refE {a : Addr} {P : Addr → Prop} (h : P a) : ∃ b, V.ref a = .ref b ∧ P b := ⟨a, rfl, h⟩
theorem aug {i : Nat} {te : TE} {ti : TIp} {x : V} (e : σ[i]? = some (some x)) (h : te σ H fun y H1 => ti x y H1 fun z H2 => D.nx (σ.set i (some z)) H2) : tAug i te ti D σ H := ⟨x, e, h⟩
theorem ipi {f : Int → Int → Int} {i j : Int} {Q : VK} (h : Q (.int (f i j)) H) : ipI f (.int i) (.int j) H Q := ⟨i, j, rfl, rfl, h⟩
theorem whl {c : TT} {tb : TS} (W : Nat → L2.St → Hp → Prop) (h0 : ∃ m, W m σ H) (hs : ∀ m σ H, W m σ H → c σ H fun b H1 => if b = true then ∃ N : L2.St → Hp → Prop, (∀ σ' H', N σ' H' → ∃ m', m' < m ∧ W m' σ' H') ∧ tb { D with nx := N, ct := N, bk := D.nx } σ H1 else D.nx σ H1) : tWhile c tb D σ H := ⟨W, h0, hs⟩
theorem whN {m : Nat} {W : Nat → L2.St → Hp → Prop} {P : (L2.St → Hp → Prop) → Prop} (h : P (fun σ' H' => ∃ m', m' < m ∧ W m' σ' H')) : ∃ N, (∀ σ' H', N σ' H' → ∃ m', m' < m ∧ W m' σ' H') ∧ P N := ⟨_, fun _ _ h => h, h⟩
/-- an item of a list at a place -/
theorem ixL {p : Addr} {xs : List V} {i : Int} {v : V} {Q : VK} (hp : SqL K H p xs) (e : atI xs i = some v) (h : Q v H) : rIxL K (.ref p) (.int i) H Q := ⟨p, xs, i, v, rfl, rfl, hp, e, h⟩
theorem ixT {p : Addr} {xs : List V} {i : Int} {v : V} {Q : VK} (hp : SqT K H p xs) (e : atI xs i = some v) (h : Q v H) : rIxT K (.ref p) (.int i) H Q := ⟨p, xs, i, v, rfl, rfl, hp, e, h⟩
theorem setL {p : Addr} {xs : List V} {k : Int} {j : Nat} {v : V} {Q : Hp → Prop} (hp : H p = some (.lst xs)) (e : ixN xs.length k = some j) (h : Q (upd H p (.lst (xs.set j v)))) : rSetL (.ref p) (.int k) v H Q := ⟨p, xs, k, j, rfl, rfl, hp, e, h⟩
/-- a store into a list: behind it a heap G of which this is known -/
theorem setG {p : Addr} {xs ys : List V} {k : Int} {j : Nat} {v : V} {Q : Hp → Prop} (hp : H p = some (.lst xs)) (e : ixN xs.length k = some j) (hy : xs.set j v = ys) (h : ∀ G : Hp, G p = some (.lst ys) → (∀ b, b ≠ p → G b = H b) → Q G) : rSetL (.ref p) (.int k) v H Q :=
  ⟨p, xs, k, j, rfl, rfl, hp, e, hy ▸ h _ upd_same fun b hb => upd_ne hb⟩
/-! ### calls of built-ins and methods, by name -/
def nLen (K : PySem.W.Frag) : List V → Hp → VK → Prop := fun xs H Q => ∃ p ys, xs = [.ref p] ∧ (SqL K H p ys ∨ SqT K H p ys) ∧ Q (.int ys.length) H
theorem c_len : CallR X (.builtin "len") (nLen X.K) := call_len_seq
theorem len {p : Addr} {ys : List V} {Q : VK} (hp : SqL K H p ys ∨ SqT K H p ys) (h : Q (.int ys.length) H) : nLen K [.ref p] H Q := ⟨p, ys, rfl, hp, h⟩
def nLenS : List V → Hp → VK → Prop := fun xs H Q => ∃ z : Str, xs = [.str z] ∧ z.length ≤ sizeLine ∧ Q (.int z.length) H
theorem c_lenS : CallR X (.builtin "len") nLenS := call_len_str
theorem lenStr {z : Str} {Q : VK} (hz : z.length ≤ sizeLine) (h : Q (.int z.length) H) : nLenS [.str z] H Q := ⟨z, rfl, hz, h⟩
def nListOf (K : PySem.W.Frag) : List V → Hp → VK → Prop := fun xs H Q => ∃ p ys, xs = [.ref p] ∧ (SqL K H p ys ∨ SqT K H p ys) ∧ NewQ (.lst ys) Q H
theorem c_listOf : CallR X (.type "list") (nListOf X.K) := call_list_of
theorem listOf {p : Addr} {ys : List V} {Q : VK} (hp : SqL K H p ys ∨ SqT K H p ys) (h : NewQ (.lst ys) Q H) : nListOf K [.ref p] H Q := ⟨p, ys, rfl, hp, h⟩
def nTupOf (K : PySem.W.Frag) : List V → Hp → VK → Prop := fun xs H Q => ∃ p ys, xs = [.ref p] ∧ ((SqL K H p ys ∧ NewQ (.tup ys) Q H) ∨ (SqT K H p ys ∧ Q (.ref p) H))
theorem c_tupOf : CallR X (.type "tuple") (nTupOf X.K) := call_tuple_of
theorem tupOf {p : Addr} {ys : List V} {Q : VK} (hp : SqL K H p ys) (h : NewQ (.tup ys) Q H) : nTupOf K [.ref p] H Q := ⟨p, ys, rfl, .inl ⟨hp, h⟩⟩
def nInt : List V → Hp → VK → Prop := fun xs H Q => (∃ i, xs = [.int i] ∧ Q (.int i) H) ∨ ∃ k, xs = [.bl k] ∧ Q (.int (if k then 1 else 0)) H
theorem c_int : CallR X (.type "int") nInt := call_int1
theorem int {i : Int} {Q : VK} (h : Q (.int i) H) : nInt [.int i] H Q := .inl ⟨i, rfl, h⟩
theorem intB {k : Bool} {Q : VK} (h : Q (.int (if k then 1 else 0)) H) : nInt [.bl k] H Q := .inr ⟨k, rfl, h⟩
def nAbs : List V → Hp → VK → Prop := fun xs H Q => ∃ i, xs = [.int i] ∧ Q (.int (if i < 0 then -i else i)) H
theorem c_abs : CallR X (.builtin "abs") nAbs := call_abs
theorem abs {i : Int} {Q : VK} (h : Q (.int (i.natAbs : Int)) H) : nAbs [.int i] H Q := ⟨i, rfl, by rw [show (if i < 0 then -i else i) = (i.natAbs : Int) by split <;> omega]; exact h⟩
def nMax2 : List V → Hp → VK → Prop := fun xs H Q => ∃ i j, xs = [.int i, .int j] ∧ Q (.int (if j > i then j else i)) H
theorem c_max2 (hc : X.calm = true) : CallR X (.builtin "max") nMax2 := call_max2 hc
theorem max2 {i j : Int} {Q : VK} (h : Q (.int (max i j)) H) : nMax2 [.int i, .int j] H Q := ⟨i, j, rfl, by rw [show (if j > i then j else i) = max i j by rw [Int.max_def]; split <;> split <;> omega]; exact h⟩
def nMin2 : List V → Hp → VK → Prop := fun xs H Q => ∃ i j, xs = [.int i, .int j] ∧ Q (.int (if j < i then j else i)) H
theorem c_min2 (hc : X.calm = true) : CallR X (.builtin "min") nMin2 := call_min2 hc
theorem min2 {i j : Int} {Q : VK} (h : Q (.int (min i j)) H) : nMin2 [.int i, .int j] H Q := ⟨i, j, rfl, by rw [show (if j < i then j else i) = min i j by rw [Int.min_def]; split <;> split <;> omega]; exact h⟩
theorem bm {T : String} {r : V → List V → Hp → VK → Prop} {to : TE} {t : TA} {Q : VK} (h : to σ H fun x H1 => tyV K T x H1 ∧ t σ H1 fun xs H2 => r x xs H2 Q) : tBM K T r to t σ H Q := h
theorem bm0 {T : String} {r : V → List V → Hp → VK → Prop} {to : TE} {Q : VK} (h : to σ H fun x H1 => tyV K T x H1 ∧ r x [] H1 Q) : tBM0 K T r to σ H Q := h
theorem tyL {a : Addr} {xs : List V} {R : Prop} (h : SqL K H a xs) (r : R) : tyV K "list" (.ref a) H ∧ R := ⟨.inl ⟨rfl, _, h⟩, r⟩
theorem app {l : Addr} {xs : List V} {y : V} {Q : VK} (hp : H l = some (.lst xs)) (hz : xs.length < sizeLine) (h : ∀ G : Hp, G l = some (.lst (xs ++ [y])) → (∀ b, b ≠ l → G b = H b) → Q .non G) : rAppend (.ref l) [y] H Q :=
  ⟨l, xs, y, rfl, rfl, hp, hz, h _ upd_same fun b hb => upd_ne hb⟩
theorem popAt {l : Addr} {xs : List V} {i : Int} {y : V} {Q : VK} (hp : H l = some (.lst xs)) (h0 : 0 ≤ i) (h1 : i < xs.length) (hz : xs.length < 2 ^ 63) (hy : xs[i.toNat]? = some y) (h : ∀ G : Hp, G l = some (.lst (xs.eraseIdx i.toNat)) → (∀ b, b ≠ l → G b = H b) → Q y G) : rPopAt (.ref l) [.int i] H Q :=
  ⟨l, xs, i, i.toNat, y, rfl, rfl, hp, by omega, by omega, by unfold seqIndex?; rw [if_pos (by simp; omega)] <;> simp <;> omega, hy, h _ upd_same fun b hb => upd_ne hb⟩
theorem sl {r : V → Option Int → Option Int → Hp → VK → Prop} {te : TE} {tl th : TO} {Q : VK} (h : te σ H fun x H1 => tl σ H1 fun l H2 => th σ H2 fun u H3 => r x l u H3 Q) : tSl r te tl th σ H Q := h
theorem slL {a : Addr} {xs : List V} {lo hi : Option Int} {Q : VK} (hp : SqL K H a xs) (h : NewQ (.lst (cutV xs lo hi)) Q H) : rSlL K (.ref a) lo hi H Q := ⟨a, xs, rfl, hp, h⟩
theorem slS {z : Str} {lo hi : Option Int} {Q : VK} (hz : z.length ≤ sizeLine) (h : Q (.str (cutS z lo hi)) H) : rSlS (.str z) lo hi H Q := ⟨z, rfl, hz, h⟩
theorem cat {l b : Addr} {xs zs : List V} {Q : VK} (h1 : H l = some (.lst xs)) (h2 : H b = some (.lst zs)) (hz : xs.length + zs.length ≤ sizeLine) (h : NewQ (.lst (xs ++ zs)) Q H) : rCat (.ref l) (.ref b) H Q := ⟨l, b, xs, zs, rfl, rfl, h1, h2, hz, h⟩
theorem rep {l : Addr} {xs : List V} {k : Int} {Q : VK} (h1 : H l = some (.lst xs)) (h0 : -(2 ^ 63) ≤ k) (hk : k < 2 ^ 63) (hz : xs.length * k.toNat ≤ sizeLine) (h : NewQ (.lst (List.replicate k.toNat xs).flatten) Q H) : rRep (.ref l) (.int k) H Q := ⟨l, k, xs, rfl, rfl, h1, h0, hk, hz, h⟩
theorem revL {te : TE} {Q : VK} (h : te σ H fun x H1 => ∃ a xs, x = .ref a ∧ SqL K H1 a xs ∧ NewQ (.lst xs.reverse) Q H1) : tRevL K te σ H Q := h
theorem refX {a : Addr} {xs : List V} {P : List V → Prop} (h : SqL K H a xs) (q : P xs) : ∃ b ys, V.ref a = .ref b ∧ SqL K H b ys ∧ P ys := ⟨a, xs, rfl, h, q⟩
theorem sum {a : Addr} {ns : List Int} {Q : VK} (hp : SqL K H a (ns.map V.int)) (h : Q (.int ns.sum) H) : rSum K [.ref a] H Q := ⟨a, ns, rfl, hp, h⟩
theorem all {a : Addr} {bs : List Bool} {Q : VK} (hp : SqL K H a (bs.map V.bl)) (h : Q (.bl (bs.all id)) H) : rAll K [.ref a] H Q := ⟨a, bs, rfl, hp, h⟩
theorem any {a : Addr} {bs : List Bool} {Q : VK} (hp : SqL K H a (bs.map V.bl)) (h : Q (.bl (bs.any id)) H) : rAny K [.ref a] H Q := ⟨a, bs, rfl, hp, h⟩
theorem sortedI {a : Addr} {ns : List Int} {Q : VK} (hp : SqL K H a (ns.map V.int)) (h : ∀ (ms : List Int) (p : Addr) (G : Hp), ms.Perm ns → ms.Pairwise (· ≤ ·) → G p = some (.lst (ms.map V.int)) → Same H G → H p = none → Q (.ref p) G) : rSortedI K [.ref a] H Q :=
  ⟨a, ns, rfl, hp, fun ms p h1 h2 h3 => h ms p _ h1 h2 upd_same (fun b u e => by rw [upd_ne (ne_of_none e h3)]; exact e) h3⟩
theorem inS {neg : Bool} {x : V} {p : Addr} {xs : List V} {Q : VK} (hp : SqL K H p xs ∨ SqT K H p xs) (h1 : flatV x = true) (h2 : xs.all flatV = true) (h : Q (.bl (if neg then !inV x xs else inV x xs)) H) : rIn K neg x (.ref p) H Q := ⟨p, xs, rfl, hp, h1, h2, h⟩
theorem part {te : TE} {Q : Option Int → Hp → Prop} (h : te σ H fun x H1 => ∃ i, x = .int i ∧ Q (some i) H1) : tPart te σ H Q := h
theorem noPart {Q : Option Int → Hp → Prop} (h : Q none H) : tNoPart σ H Q := h
theorem poS {te : TE} {Q : Option Int → Hp → Prop} {i : Int} (h : te σ H fun x H1 => ∃ i, x = .int i ∧ Q (some i) H1) : te σ H fun x H1 => ∃ i, x = .int i ∧ Q (some i) H1 := h
theorem tupT {a : Addr} {xs : List V} {n : Nat} {t : TGs} {Q : L2.St → Hp → Prop} (hp : SqT K H a xs) (hn : xs.length = n) (h : t xs σ H Q) : gTup K n t (.ref a) σ H Q := ⟨a, xs, rfl, hp, hn, h⟩
theorem gcons {t : TG} {u : TGs} {v : V} {r : List V} {Q : L2.St → Hp → Prop} (h : t v σ H fun σ' H' => u r σ' H' Q) : gCons t u (v :: r) σ H Q := ⟨v, r, rfl, h⟩
theorem gnil {Q : L2.St → Hp → Prop} (h : Q σ H) : gNil [] σ H Q := ⟨rfl, h⟩
theorem last2 {ms : List Int} (h : 2 ≤ ms.length) : ∃ s b a, ms = s ++ [b, a] := by
  rcases List.eq_nil_or_concat ms with e | ⟨t, a, e⟩
  · subst e; simp at h
  · rcases List.eq_nil_or_concat t with e2 | ⟨s, b, e2⟩
    · subst e2; subst e; simp at h
    · exact ⟨s, b, a, by rw [e, e2]; simp⟩
theorem cut_last2 (s : List Int) (b a : Int) : cutV ((s ++ [b, a]).map V.int) (some (-2)) none = [b, a].map V.int := by
  have e : HT.sIx ((s ++ [b, a]).map V.int).length 0 (some (-2)) = (s.map V.int).length := by
    unfold HT.sIx
    simp
    omega
  have e2 : HT.sIx ((s ++ [b, a]).map V.int).length ((s ++ [b, a]).map V.int).length none = ((s ++ [b, a]).map V.int).length := rfl
  unfold cutV
  rw [e, e2, List.map_append, List.drop_left, List.length_append]
  exact List.take_of_length_le (by simp)
theorem rep_map (k : Nat) (b : Bool) : (List.replicate k [V.bl b]).flatten = (List.replicate k b).map V.bl := by
  induction k with
  | zero => rfl
  | succ k ih => rw [List.replicate_succ, List.flatten_cons, ih, List.replicate_succ]; rfl
theorem map_set {α β : Type} (f : α → β) (l : List α) (i : Nat) (x : α) : (l.map f).set i (f x) = (l.set i x).map f := by rw [List.map_set]
theorem enx {a b c : L2.St → Hp → Prop} {r : VK} (h : a σ H) : (Ends.mk a r b c).nx σ H := h
theorem ebk {a b c : L2.St → Hp → Prop} {r : VK} (h : b σ H) : (Ends.mk a r b c).bk σ H := h
theorem ect {a b c : L2.St → Hp → Prop} {r : VK} (h : c σ H) : (Ends.mk a r b c).ct σ H := h
theorem ert {a b c : L2.St → Hp → Prop} {r : VK} {v : V} (h : r v H) : (Ends.mk a r b c).rt v H := h
theorem intE {i : Int} {P : Int → Prop} (h : P i) : ∃ j, V.int i = .int j ∧ P j := ⟨i, rfl, h⟩
theorem atI_of {α : Type} {xs : List α} {i : Int} {v : α} (h0 : 0 ≤ i) (e : xs[i.toNat]? = some v) : atI xs i = some v := by
  have h := atI_nat e
  rw [show ((i.toNat : Nat) : Int) = i by omega] at h
  exact h
theorem ixN_of {n : Nat} {i : Int} (h0 : 0 ≤ i) (h1 : i < n) : ixN n i = some i.toNat := by
  unfold ixN
  rw [if_pos h0, if_pos h1]
theorem map_int {ns : List Int} {i : Nat} (h : i < ns.length) : (ns.map V.int)[i]? = some (.int ns[i]) := by simp [h]
theorem map_get {ns : List Int} {i : Nat} {x : V} (h : (ns.map V.int)[i]? = some x) : ∃ n, ns[i]? = some n ∧ x = .int n := by
  rw [List.getElem?_map] at h
  cases e : ns[i]? with
  | none => rw [e] at h; cases h
  | some z => rw [e] at h; exact ⟨z, rfl, (Option.some.inj h).symm⟩
theorem take_snoc {α : Type} {l : List α} {i : Nat} {x : α} (h : l[i]? = some x) : l.take (i + 1) = l.take i ++ [x] := by
  rw [List.take_succ, h]
  rfl
theorem upd_at {a : Addr} {o : HO} {b : Addr} (h : b = a) : upd H a o b = some o := by subst h; exact upd_same
/-- all but what stands at a is kept -/
def But (a : Addr) (H H' : Hp) : Prop := ∀ b o, b ≠ a → H b = some o → H' b = some o
theorem But.refl (a : Addr) (H : Hp) : But a H H := fun _ _ _ e => e
theorem But.trans {a : Addr} {H H1 H2 : Hp} (x : But a H H1) (y : But a H1 H2) : But a H H2 := fun b o n e => y b o n (x b o n e)
theorem But.same {a : Addr} {H H1 H2 : Hp} (x : But a H H1) (y : Same H1 H2) : But a H H2 := fun b o n e => y b o (x b o n e)
theorem But.of {a : Addr} {H H1 : Hp} (y : Same H H1) : But a H H1 := fun b o _ e => y b o e
theorem But.free {a : Addr} {H H1 : Hp} (x : But a H H1) {l : Addr} (n : l ≠ a) (h : H1 l = none) : H l = none := by
  cases q : H l with
  | none => rfl
  | some o =>
    have := x l o n q
    rw [h] at this
    cases this
theorem But.upd {a : Addr} {H H1 : Hp} {o : HO} (x : But a H H1) : But a H (upd H1 a o) := fun b u n e => by rw [upd_ne n]; exact x b u n e
theorem same_upd {H : Hp} {p : Addr} {o : HO} (h : H p = none) : Same H (upd H p o) := fun b u e => by rw [upd_ne (ne_of_none e h)]; exact e
end Rd

/-! Further rules: enumerate and sorted of a tuple; one of two ways to walk. -/
namespace Ru
open PySem PyProof.Rows
open PySem.AutoSeq1 (wpAny_loadPart')
section
variable {prog : Program} {w : World} {A : Around} {E : Value → Shared → Prop} {s : Shared}
theorem nextOf_tup {it t : Addr} {i : Nat} {items : Array Value} {x : Value} {Q : Value → Shared → Prop} (hit : s.heap.IsTupleIter it t i) (ht : s.heap.IsTuple t items) (hx : items[i]? = some x)
    (hQ : ∀ h', h'.IsTupleIter it t (i + 1) → Heap.SameBut it s.heap h' → Q x { s with heap := h' }) : wpAny (model prog w) A (Builtin.SmallTypes.nextOf (.ref it)) Q E s := by
  obtain ⟨oi, hoi, hci, hdi⟩ := id hit
  obtain ⟨ot, hot, _, nt, hdt⟩ := ht
  unfold Builtin.SmallTypes.nextOf
  refine wpAny_bind (wpAny_callSpecial?_slot (name := Str.ofString "__next__") hit.typeIs F.slot_tuple_iterator_next (wpAny_call_entry F.slot_tuple_iterator_next hit.typeIs F.entry_tuple_iterator_next ?_ (F.args_tuple_iterator_next_1 _)))
  show wpAny _ _ (field (.ref it) 0 >>= _) _ _ s
  refine wpAny_bind (wpAny_field hoi hdi (x := .ref t) rfl ?_)
  show wpAny _ _ (if (Value.ref t == Value.none) = true then _ else _) _ _ s
  rw [if_neg (show ¬ ((Value.ref t == Value.none) = true) from Bool.false_ne_true)]
  show wpAny _ _ (field (.ref it) 1 >>= _) _ _ s
  refine wpAny_bind (wpAny_field hoi hdi (x := .int i 0) rfl ?_)
  show wpAny _ _ (seqItems? (.ref t) >>= _) _ _ s
  refine wpAny_bind (wpAny_seqItems hot hdt ?_)
  simp only [Int.toNat_natCast, hx]
  refine wpAny_bind (wpAny_setField hoi hdi (by simp) (wpAny_pure ⟨x, rfl, wpAny_pure (hQ _ ?_ (Heap.SameBut.update ..))⟩))
  exact ⟨_, Heap.get?_update_self _ hoi (Obj.isFreed_of_fields (Obj.data_mapFields hdi _)), (Obj.cls_mapFields ..).trans hci, by rw [Obj.data_mapFields hdi]; simp [rawInt]⟩
theorem nextOf_tup_end {it t : Addr} {i : Nat} {items : Array Value} {Q : Value → Shared → Prop} (hh : A.handled = none) (hit : s.heap.IsTupleIter it t i) (ht : s.heap.IsTuple t items) (hx : items[i]? = none)
    (hE : ∀ h' e, Heap.ExtBut it s.heap h' → (∃ o, h'.get? e = some o ∧ o.cls = .type "StopIteration") → E (.ref e) { s with heap := h' }) : wpAny (model prog w) A (Builtin.SmallTypes.nextOf (.ref it)) Q E s := by
  obtain ⟨oi, hoi, hci, hdi⟩ := id hit
  obtain ⟨ot, hot, _, nt, hdt⟩ := ht
  unfold Builtin.SmallTypes.nextOf
  refine wpAny_bind (wpAny_callSpecial?_slot (name := Str.ofString "__next__") hit.typeIs F.slot_tuple_iterator_next (wpAny_call_entry F.slot_tuple_iterator_next hit.typeIs F.entry_tuple_iterator_next ?_ (F.args_tuple_iterator_next_1 _)))
  show wpAny _ _ (field (.ref it) 0 >>= _) _ _ s
  refine wpAny_bind (wpAny_field hoi hdi (x := .ref t) rfl ?_)
  show wpAny _ _ (if (Value.ref t == Value.none) = true then _ else _) _ _ s
  rw [if_neg (show ¬ ((Value.ref t == Value.none) = true) from Bool.false_ne_true)]
  show wpAny _ _ (field (.ref it) 1 >>= _) _ _ s
  refine wpAny_bind (wpAny_field hoi hdi (x := .int i 0) rfl ?_)
  show wpAny _ _ (seqItems? (.ref t) >>= _) _ _ s
  refine wpAny_bind (wpAny_seqItems hot hdt ?_)
  simp only [Int.toNat_natCast, hx]
  refine wpAny_bind (wpAny_rule (wpAny_bind (wpAny_setField hoi hdi (by simp) ?_)))
  show wpAny _ _ (newExc (.type "StopIteration") [] >>= _) _ _ _
  refine wpAny_bind ?_
  simp only [newExc, newTuple]
  refine wpAny_bind (wpAny_newObj_type ?_ (by size_fits))
  refine wpAny_bind (m := firstArgMember _ _) (wpAny_of_eq (a := Value.none) (by first | rfl | (simp only [firstArgMember]; rfl)) ?_)
  refine wpAny_newObj_type ?_ (by size_fits)
  simp only [raiseNew]
  refine wpAny_bind (wpAny_handled ?_)
  first | rw [show A.in1.handled = none from hh] | rw [hh]
  refine wpAny_bind (wpAny_pure (wpAny_throw ?_))
  exact hE _ _ (((Heap.SameBut.update ..).extBut.push _).push _) ⟨_, Heap.get?_push_size _ rfl, rfl⟩
end
theorem draws_tup {prog : Program} {w : World} {A : Around} (hh : A.handled = none) (it t : Addr) (hne : t ≠ it) (items : Array Value) :
    Draws prog w A it [it, t] items.size (fun i v => items[i]? = some v) (fun i h => h.IsTupleIter it t i ∧ h.IsTuple t items) where
  live := fun _ _ st => let ⟨o, ho, _⟩ := st.1; ⟨o, ho⟩
  frame := fun _ _ _ st hk => ⟨let ⟨o, ho, r⟩ := st.1; ⟨o, hk it (by simp) o ho, r⟩, let ⟨o, ho, r⟩ := st.2; ⟨o, hk t (by simp) o ho, r⟩⟩
  item := fun i s Q E hi st hQ => by
    refine nextOf_tup st.1 st.2 (x := items[i]) (by simp [hi]) fun h' k1 k2 => ?_
    exact hQ _ h' s.toks (by simp [hi]) ⟨k1, st.2.extBut k2.extBut hne⟩ k2
  done := fun s Q E st hE => nextOf_tup_end hh st.1 st.2 (by simp) hE
theorem meets_enum_tup (l : Addr) (items : Array Value) (n : Nat) (dct : Option Addr) (sl : Array (Option Value)) :
    Meets (Builtin.«enumerate.__new__» ⟨[.type "enumerate", .ref l], []⟩) (fun _ R s => s.heap.get? l = some { cls := .type "tuple", dict := dct, data := .seq items n, slots := sl } ∧
      R (.ok (.ret (.ref (s.heap.push { cls := .type "tuple_iterator", data := .fields #[.ref l, .int 0 0] }).objs.size)))
        { s with heap := (s.heap.push { cls := .type "tuple_iterator", data := .fields #[.ref l, .int 0 0] }).push { cls := .type "enumerate", data := .fields #[.none, .bool false, .ref s.heap.objs.size, rawInt 0, .none, .none] } }) :=
  .of_wp fun prog w A R s h => by
    obtain ⟨hp, g, d, tk, os⟩ := s
    obtain ⟨hl, h⟩ := h
    have hsub := sub_enumerate
    have hL : Heap.IsTuple (Shared.heap ⟨hp, g, d, tk, os⟩) l items := ⟨_, hl, rfl, n, rfl⟩
    wp_walk using wpAny_loadPart' hl
    refine wpAny_stack_any fun st => wpAny_pure ?_
    split
    · rename_i c _ _ _ _ _
      cases (c == Value.type "enumerate")
      · wp_walk using wpAny_loadPart' hl, wpAny_pyIter_tuple hL
        exact ⟨_, rfl, h⟩
      · wp_walk using wpAny_loadPart' hl, wpAny_pyIter_tuple hL
        exact ⟨_, rfl, h⟩
    · wp_walk using wpAny_loadPart' hl, wpAny_pyIter_tuple hL
      exact ⟨_, rfl, h⟩
section
variable {prog : Program} {w : World} {A : Around} {E : Value → Shared → Prop} {s : Shared}
theorem call_enum_tup {l : Addr} {items : Array Value} {Q : Value → Shared → Prop} (hL : s.heap.IsTuple l items)
    (h : ∀ h', IsEnum h' (s.heap.objs.size + 1) s.heap.objs.size 0 .none → h'.IsTupleIter s.heap.objs.size l 0 → h'.objs.size = s.heap.objs.size + 2 → (∀ b o, s.heap.get? b = some o → h'.get? b = some o) → Q (.ref (s.heap.objs.size + 1)) { s with heap := h' }) :
    wpAny (model prog w) A (call (.type "enumerate") [.ref l]) Q E s := by
  obtain ⟨⟨c, dct, dt, sl⟩, hl, hc, n, hd⟩ := hL
  replace hc : c = .type "tuple" := hc
  replace hd : dt = .seq items n := hd
  subst hc hd
  refine callType_new F.called_enumerate (by decide) (F.typeCall_enumerate_1 _) (F.newCall_enumerate_1 _) (fun obj => F.args_object_init_2 obj _) F.entry_enumerate_new (meets_enum_tup l items n dct sl) ⟨hl, ?_⟩
  have hz : (s.heap.push { cls := .type "tuple_iterator", data := .fields #[.ref l, .int 0 0] }).objs.size = s.heap.objs.size + 1 := Heap.size_push ..
  show _ ∧ _
  rw [hz]
  have he : IsEnum ((s.heap.push { cls := .type "tuple_iterator", data := .fields #[.ref l, .int 0 0] }).push { cls := .type "enumerate", data := .fields #[.none, .bool false, .ref s.heap.objs.size, rawInt 0, .none, .none] }) (s.heap.objs.size + 1) s.heap.objs.size 0 .none := by
    have q := Heap.get?_push_size (s.heap.push { cls := .type "tuple_iterator", data := .fields #[.ref l, .int 0 0] }) (o := { cls := .type "enumerate", data := .fields #[.none, .bool false, .ref s.heap.objs.size, rawInt 0, .none, .none] }) rfl
    rw [hz] at q
    exact q
  exact ⟨⟨_, he, rfl⟩, h _ he ⟨_, Heap.get?_push_of_some _ (Heap.get?_push_size _ rfl), rfl, rfl⟩ (by rw [Heap.size_push, hz]) fun b o x => Heap.get?_push_of_some _ (Heap.get?_push_of_some _ x)⟩
/-- a tuple is collected into a new list -/
theorem collect_tup {l : Addr} {vs : List Value} {Q : List Value → Shared → Prop} (hl : s.heap.IsTuple l vs.toArray) (hsz : vs.length ≤ sizeLine)
    (h : Q vs { s with heap := (s.heap.push (seqObj "list" #[] 0)).update s.heap.objs.size (Obj.mapSeq (· ++ vs.toArray)) }) : wpAny (model prog w) A (collect (.ref l)) Q E s := by
  obtain ⟨o, ho, hc, n, hd⟩ := id hl
  unfold collect
  refine wpAny_bind (wpAny_runValue (codeAny_builtin entry_proto_collect' ?_))
  show wpAny _ _ (do again (.builtin "list.__iadd__" ⟨[← newList [], .ref l], []⟩)) _ _ s
  refine wpAny_bind (wpAny_newList (wpAny_pure ⟨Code.quiet_builtin _ (by decide +kernel), codeAny_builtin entry_list_iadd' ?_⟩))
  show wpAny _ _ (Builtin.List.listExtendWith (.ref s.heap.objs.size) (.ref l) (.ref s.heap.objs.size)) _ _ { s with heap := s.heap.push (seqObj "list" #[] 0) }
  unfold Builtin.List.listExtendWith
  have ho' : (s.heap.push (seqObj "list" #[] 0)).get? l = some o := Heap.get?_push_of_some _ ho
  refine wpAny_bind (wpAny_typeOf (T := "tuple") ⟨o, ho', hc⟩ ?_)
  have ht : (Value.type "tuple" == Value.type "tuple") = true := by rfl
  rw [if_pos (by rw [ht]; simp)]
  refine wpAny_bind (listItems_at ho' hd ?_)
  refine wpAny_bind (listItems_at (xs := #[]) (n := 0) (Heap.get?_push_size _ rfl) rfl ?_)
  rw [if_neg (by simp)]
  refine wpAny_bind (listUpdate_at (xs := #[]) (n := 0) (Heap.get?_push_size _ rfl) rfl ?_ (Nat.zero_le _) (by show (#[] ++ vs.toArray).size ≤ sizeLine + 1; simp only [Array.size_append, List.size_toArray, List.length_nil]; omega))
  refine wpAny_pure ?_
  show wpAny (model prog w) A (do
      let o ← load s.heap.objs.size
      match o.data with
      | .seq xs _ => pure xs.toList
      | _ => unsupported "internal:collect") Q E { s with heap := (s.heap.push (seqObj "list" #[] 0)).update s.heap.objs.size (Obj.mapSeq (· ++ vs.toArray)) }
  refine wpAny_bind (wpAny_load (get?_update_seq (Heap.get?_push_size _ rfl) _) ?_)
  show wpAny _ _ (pure ((#[] : Array Value) ++ vs.toArray).toList) Q E _
  rw [show ((#[] : Array Value) ++ vs.toArray).toList = vs by simp]
  exact wpAny_pure h
end

section
variable {prog : Program} {w : World} {A : Around} {E : Value → Shared → Prop} {s : Shared}
open SrtO in
/-- sorted of a tuple: the new list stands at size + 1 -/
theorem sorted_tup {l : Addr} {vs : List Value} {ltv : Value → Value → Bool} {Q : Value → Shared → Prop} (O : Swo ltv) (hl : s.heap.IsTuple l vs.toArray) (hz : vs.length ≤ sizeLine)
    (hS : 2 ≤ vs.length → ∀ (g : Heap) (a : Addr), g.get? a = some (seqObj "list" vs.toArray 0) → (∀ b o, s.heap.get? b = some o → b ≠ a ∧ g.get? b = some o) → SortableO prog w A.in1.in1 { s with heap := g } a vs ltv)
    (h : ∀ out : List Value, Srtd ltv out → Stb ltv out vs → Q (.ref (s.heap.objs.size + 1)) { s with heap := sortedAll s.heap vs out.toArray }) : wpAny (model prog w) A (call (.builtin "sorted") [.ref l]) Q E s := by
  refine Calls.call_function_entry kind_sorted plain_sorted entry_sorted (args_sorted1 _) ?_
  unfold Builtin.«sorted»
  refine wpAny_bind (m := checkCount "sorted" 1 1 _) (wpAny_pure ?_)
  refine wpAny_bind (collect_tup hl hz ?_)
  refine wpAny_bind (wpAny_newList ?_ hz)
  have e1 : ((s.heap.push (seqObj "list" #[] 0)).update s.heap.objs.size (Obj.mapSeq (· ++ vs.toArray))).objs.size = s.heap.objs.size + 1 := by rw [Heap.size_update, size_push']
  have e2 : (((s.heap.push (seqObj "list" #[] 0)).update s.heap.objs.size (Obj.mapSeq (· ++ vs.toArray))).push (seqObj "list" vs.toArray 0)).get? (s.heap.objs.size + 1) = some (seqObj "list" vs.toArray 0) := by
    rw [← e1]
    exact Heap.get?_push_size _ rfl
  have e3 : ∀ b o, s.heap.get? b = some o → b ≠ s.heap.objs.size + 1 ∧ (((s.heap.push (seqObj "list" #[] 0)).update s.heap.objs.size (Obj.mapSeq (· ++ vs.toArray))).push (seqObj "list" vs.toArray 0)).get? b = some o := fun b o q => by
    have lt : b < s.heap.objs.size := Heap.lt_size q
    refine ⟨Nat.ne_of_lt (Nat.lt_succ_of_lt lt), Heap.get?_push_of_some _ ?_⟩
    rw [Heap.get?_update_ne _ _ _ _ (Nat.ne_of_lt lt)]
    exact Heap.get?_push_of_some _ q
  show wpAny _ _ _ _ _ { s with heap := ((s.heap.push (seqObj "list" #[] 0)).update s.heap.objs.size (Obj.mapSeq (· ++ vs.toArray))).push (seqObj "list" vs.toArray 0) }
  rw [e1]
  refine wpAny_bind (wpAny_holding (wpAny_call_entry slot_list_sort ⟨_, e2, rfl⟩ entry_list_sort (list_sort_ord O e2 hz (fun h2 => hS h2 _ _ e2 e3) fun out hs hb => ⟨_, rfl, ?_⟩) (args_list_sort _)))
  exact wpAny_pure ⟨_, rfl, h out hs hb⟩
end
end Ru
namespace Ru
open PySem PySem.Spec PyProof.Rows L2
/-- one of two ways to walk -/
theorem pi_or {X : Cx} {tg e : Expr} {t u : TI} (a : PI X tg e t) (b : PI X tg e u) : PI X tg e (fun σ H R => t σ H R ∨ u σ H R) := ⟨fun pins s σ H R I h => h.elim (a.run pins s σ H R I) (b.run pins s σ H R I)⟩
theorem callR_or {X : Cx} {f : Value} {r r' : List V → Hp → VK → Prop} (a : CallR X f r) (b : CallR X f r') : CallR X f (fun vs H Q => r vs H Q ∨ r' vs H Q) := fun pins s σ H vs us Q I rv h => h.elim (a pins s σ H vs us Q I rv) (b pins s σ H vs us Q I rv)
/-- sorted(t), t a tuple of ints -/
def rSortedTup (K : PySem.W.Frag) : List V → Hp → VK → Prop := fun vs H Q => ∃ (a : Addr) (ns : List Int), vs = [V.ref a] ∧ SqT K H a (ns.map V.int) ∧
  ∀ (ms : List Int) (p : Addr), ms.Perm ns → ms.Pairwise (· ≤ ·) → H p = none → Q (.ref p) (upd H p (.lst (ms.map V.int)))
theorem cr_sortedTup {X : Cx} : CallR X (.builtin "sorted") (rSortedTup X.K) := by
  intro pins s σ H vs us Q I r h
  obtain ⟨a, ns, rfl, hs, q⟩ := h
  obtain ⟨its, rv, hl, hz⟩ := I.tuple hs
  rw [Vals.ref1 r]
  have hi := rv.ints
  refine sorted_tup SrtO.swo_int (show s.heap.IsTuple a its.toArray from hl) (by rw [← rv.length]; exact hz) (fun h2 g b _ _ => SrtO.ints_sortable hi h2) fun out h1 h2 => ?_
  obtain ⟨k1, k2, k3⟩ := SrtO.ints_out hi h1 h2
  obtain ⟨ep, he⟩ := PyProof.Rows.sortedAll_at s.heap its out.toArray
  have ln : ((out.map SrtO.iv).map V.int).length ≤ sizeLine := by
    rw [List.length_map, k2.length_eq]
    rw [List.length_map] at hz
    exact hz
  exact ⟨.ref _, upd H (s.heap.objs.size + 1) (.lst ((out.map SrtO.iv).map V.int)), I.laid (t' := s.toks) (fun _ _ => PyProof.Rows.sortedAll_old) (Nat.le_succ _) ⟨ln, out, ep, vals_of_ints k1, he⟩, rfl, q _ _ k2 k3 (I.hok.fresh (Nat.le_succ _))⟩
/-- enumerate of a tuple: each item in a new pair -/
def IteT (K : PySem.W.Frag) (a : Addr) : It :=
  ⟨fun i H => ∃ (xs : List V) (x : V), SqT K H a xs ∧ xs[i]? = some x, fun i H v H' => ∃ T x, v = .ref T ∧ H T = none ∧ H' = upd H T (.tup [.int (i : Nat), x]) ∧ ∀ xs, SqT K H a xs → xs[i]? = some x, fun i H => ∃ xs : List V, SqT K H a xs ∧ xs.length = i⟩
theorem turn_enumT {P : Program} {w : World} {K : PySem.W.Frag} {elts : List Expr} {kk : Nat} {tpos : Pos} (a e it : Addr) :
    Turn P w K (.Tuple elts kk tpos) (IteT K a) [e, it] e (fun i h => (∃ old, IsEnum h e it ((i : Nat) : Int) old) ∧ h.IsTupleIter it a i ∧ e ≠ it) where
  mem := by simp
  obj := fun i h st b hb => by
    obtain ⟨⟨old, he⟩, ⟨o, ho, hc, hd⟩, _⟩ := st
    have z : b = e ∨ b = it := by simpa using hb
    rcases z with z | z
    · rw [z]; exact ⟨_, he, fun v q => nomatch q⟩
    · rw [z]; exact ⟨o, ho, fun v q => by rw [hd] at q; cases q⟩
  keep := fun i h h' st k => let ⟨⟨old, he⟩, ⟨o, ho, r⟩, hne⟩ := st; ⟨⟨old, k e (by simp) _ he⟩, ⟨o, k it (by simp) o ho, r⟩, hne⟩
  item := by
    intro X hP hw hK hc i pins s σ H E I hf st hg
    subst hP hw hK
    obtain ⟨⟨old, he⟩, hit, hne⟩ := st
    obtain ⟨xs, x, hq, hx⟩ := hg
    obtain ⟨its, rv, p, hz⟩ := I.tuple hq
    obtain ⟨u, hu, ru⟩ := rv.get hx
    have hel : e < s.heap.objs.size := Heap.lt_size he
    have hil : it < s.heap.objs.size := by obtain ⟨_, q, _⟩ := hit; exact Heap.lt_size q
    have hat : a ≠ it := fun z => by
      obtain ⟨o, q1, q2, _⟩ := hit
      obtain ⟨o', q3, q4, _⟩ := (show s.heap.IsTuple a its.toArray from p)
      rw [← z, q3] at q1
      cases q1
      rw [q4] at q2
      exact absurd (Value.type.inj q2) (by decide)
    have hea : e ≠ a := fun z => by
      obtain ⟨o', q3, q4, _⟩ := (show s.heap.IsTuple a its.toArray from p)
      rw [← z, he] at q3
      cases q3
      exact absurd (Value.type.inj q4) (by decide)
    have hlt : i < its.toArray.size := by
      have := (List.getElem?_eq_some_iff.mp hu).1
      simpa using this
    refine wpAny_pyNext_enum_itemD (draws_tup (prog := X.prog) (w := X.w) (A := X.A.in1) (I.ok.hd hc) it a hat its.toArray) he ⟨hit, p⟩ hlt hne (by simp [hne, hea]) fun y h' tk hy ho st' hT hsz hk => ?_
    have hy' : y = u := by
      have z : its.toArray[i]? = some u := by simpa using hu
      rw [z] at hy
      exact (Option.some.inj hy).symm
    subst hy'
    refine ⟨_, rfl, wpAny_letOwnedTupleGo_enum (s := { s with heap := h', toks := tk + 1 }) ho fun h'' he' sb => ?_⟩
    have hT2 : h''.get? s.heap.objs.size = some { cls := .type "tuple", data := .seq #[.int i tk, y] } := (sb.2 _ (Nat.ne_of_gt hel)).trans hT
    have new : ObjOk X.prog X.w (upd H s.heap.objs.size (.tup [.int (i : Nat), x])) h'' s.heap.objs.size (.tup [.int (i : Nat), x]) :=
      ⟨by show 2 ≤ sizeLine; decide, [.int i tk, y], .cons ⟨_, rfl⟩ (.cons ru .nil), ⟨_, hT2, rfl, _, rfl⟩⟩
    have I1 : Inv X pins σ (upd H s.heap.objs.size (.tup [.int (i : Nat), x])) { s with heap := h'', toks := tk + 1 } :=
      I.turnedNew (ch := [e, it]) (fun b ob hb q => (sb.2 b (fun z => hb (by simp [z]))).trans (hk b ob (fun z => hb (by simp [z])) (fun z => hb (by simp [z])) q)) hf (Nat.le_refl _) new
    refine ⟨.ref s.heap.objs.size, _, I1, rfl, ⟨_, x, rfl, I.hok.fresh (Nat.le_refl _), rfl, fun ys hy => by rw [I.tuple_inj hy hq]; exact hx⟩, ⟨⟨y, ?_⟩, ?_, hne⟩, fun b hb => ?_⟩
    · have e1 : ((i + 1 : Nat) : Int) = (i : Int) + 1 := by omega
      rw [e1]; exact he'
    · obtain ⟨o, q, r⟩ := st'.1
      exact ⟨o, (sb.2 it (Ne.symm hne)).trans q, r⟩
    · have hb' : b < s.heap.objs.size := by
        have z : b = e ∨ b = it := by simpa using hb
        rcases z with z | z
        · rw [z]; exact hel
        · rw [z]; exact hil
      rw [upd_ne (Nat.ne_of_lt hb')]
      exact (hf b hb).1
  done := by
    intro X hP hw hK hc i pins s σ H E I hf st hg
    subst hP hw hK
    obtain ⟨⟨old, he⟩, hit, hne⟩ := st
    obtain ⟨xs, hq, hx⟩ := hg
    obtain ⟨its, rv, p, hz⟩ := I.tuple hq
    obtain ⟨f0, f1, f2, f3, f4, f5⟩ := hf it (by simp)
    have hl := rv.length
    have hat : a ≠ it := fun z => by
      obtain ⟨o, q1, q2, _⟩ := hit
      obtain ⟨o', q3, q4, _⟩ := (show s.heap.IsTuple a its.toArray from p)
      rw [← z, q3] at q1
      cases q1
      rw [q4] at q2
      exact absurd (Value.type.inj q2) (by decide)
    have hn : i = its.toArray.size := by simp; omega
    refine wpAny_pyNext_enum_endD (draws_tup (prog := X.prog) (w := X.w) (A := X.A.in1) (I.ok.hd hc) it a hat its.toArray) he (by rw [hn] at hit; exact ⟨hit, p⟩) fun h' eb => ⟨rfl, ?_⟩
    obtain ⟨g0, g1, g2, g3, g4, g5⟩ := hf e (by simp)
    obtain ⟨f0, f1, f2, f3, f4, f5⟩ := hf it (by simp)
    exact I.turned (t' := s.toks) (fun b o hb q => eb b o hb q) f0 f1 f3 f4 f5
  self := fun A i s Q E st h => let ⟨⟨_, he⟩, _⟩ := st; wpAny_pyIter_enum he h
def iEnumT (K : PySem.W.Frag) (ta : TA) : TI := fun σ H R => ta σ H fun vs H1 => ∃ a xs, vs = [.ref a] ∧ SqT K H1 a xs ∧ R (IteT K a) H1
theorem pi_enumT {X : Cx} {e : Expr} {ta : TA} {p pos tpos : Pos} {elts : List Expr} {kk : Nat} (hg : Gl X "enumerate") (hm : X.mg "enumerate" = none) (ha : PA X [e] ta) (hs : starEach [e] X.env = [(false, eval e X.env)] := by rfl) :
    PI X (.Tuple elts kk tpos) (.Call (.Name "enumerate" p) [e] [] pos) (iEnumT X.K ta) := by
  refine ⟨fun pins s σ H R I h => ?_⟩
  refine Call_ (ld_blt I hg hm boot_enumerate (PyProof.Rows.callWith_type1 (thn (ha.run pos pins s σ H _ I h) fun us s1 ⟨vs, H1, I1, r1, q1⟩ => ?_) hs rfl))
  obtain ⟨a, xs, ex, hq, q⟩ := q1
  subst ex
  cases r1 with
  | cons r rr =>
    cases rr
    cases r
    obtain ⟨its, rv, p', hz⟩ := I1.tuple hq
    refine call_enum_tup (show s1.heap.IsTuple a its.toArray from p') fun h' he hit hsz hk => wpAny_pyIter_enum he ?_
    have I2 : Inv X pins σ H1 { s1 with heap := h' } := I1.kept (t' := s1.toks) hk
    refine ⟨s1.heap.objs.size + 1, [s1.heap.objs.size + 1, s1.heap.objs.size], _, _, H1, rfl, I2, turn_enumT a (s1.heap.objs.size + 1) s1.heap.objs.size, ⟨⟨.none, he⟩, hit, Nat.succ_ne_self _⟩, fun b hb => ?_, q⟩
    have z : b = s1.heap.objs.size + 1 ∨ b = s1.heap.objs.size := by simpa using hb
    have hle : s1.heap.objs.size ≤ b := by
      rcases z with z | z
      · rw [z]; exact Nat.le_add_right _ _
      · rw [z]; exact Nat.le_refl _
    exact I1.fpOk hle (I1.hok.fresh hle)
/-- a loop over enumerate of a list that stands still -/
theorem for_enum {K : PySem.W.Frag} {a : Addr} {xs : List V} {g : TG} {tb : TS} {D : Ends} {σ : L2.St} {H : Hp} (Pv : Nat → L2.St → Hp → Prop) (h0 : Pv 0 σ H) (hl : ∀ i σ H, i ≤ xs.length → Pv i σ H → SqL K H a xs)
    (hs : ∀ i x σ H (T : Addr), xs[i]? = some x → Pv i σ H → H T = none → g (.ref T) σ (upd H T (.tup [.int (i : Nat), x])) fun σ2 H2 => tb { D with nx := Pv (i + 1), ct := Pv (i + 1), bk := D.nx } σ2 H2) (hd : ∀ σ H, Pv xs.length σ H → D.nx σ H) :
    ∃ W : Nat → Nat → L2.St → Hp → Prop, (∃ m, W 0 m σ H) ∧ ∀ i m σ H, W i m σ H →
      ((Ite K a).stop i H ∧ D.nx σ H) ∨ ((Ite K a).go i H ∧ ∃ N : L2.St → Hp → Prop, (∀ σ' H', N σ' H' → ∃ m', m' < m ∧ W (i + 1) m' σ' H') ∧ ∀ x H', (Ite K a).yld i H x H' → g x σ H' fun σ2 H2 => tb { D with nx := N, ct := N, bk := D.nx } σ2 H2) := by
  refine ⟨fun i m σ H => m = xs.length - i ∧ i ≤ xs.length ∧ Pv i σ H, ⟨xs.length, by simp, Nat.zero_le _, h0⟩, ?_⟩
  rintro i m σ H ⟨rfl, hi, p⟩
  have q := hl i σ H hi p
  by_cases lt : i < xs.length
  · refine .inr ⟨⟨xs, xs[i], q, by simp [lt]⟩, Pv (i + 1), fun σ' H' p' => ⟨xs.length - (i + 1), by omega, rfl, lt, p'⟩, fun x H' y => ?_⟩
    obtain ⟨T, z, rfl, hT, rfl, y⟩ := y
    exact hs i z σ H T (y xs q) p hT
  · have e : i = xs.length := by omega
    subst e
    exact .inl ⟨⟨xs, q, Nat.le_refl _⟩, hd σ H p⟩
theorem for_enumT {K : PySem.W.Frag} {a : Addr} {xs : List V} {g : TG} {tb : TS} {D : Ends} {σ : L2.St} {H : Hp} (Pv : Nat → L2.St → Hp → Prop) (h0 : Pv 0 σ H) (hl : ∀ i σ H, i ≤ xs.length → Pv i σ H → SqT K H a xs)
    (hs : ∀ i x σ H (T : Addr), xs[i]? = some x → Pv i σ H → H T = none → g (.ref T) σ (upd H T (.tup [.int (i : Nat), x])) fun σ2 H2 => tb { D with nx := Pv (i + 1), ct := Pv (i + 1), bk := D.nx } σ2 H2) (hd : ∀ σ H, Pv xs.length σ H → D.nx σ H) :
    ∃ W : Nat → Nat → L2.St → Hp → Prop, (∃ m, W 0 m σ H) ∧ ∀ i m σ H, W i m σ H →
      ((IteT K a).stop i H ∧ D.nx σ H) ∨ ((IteT K a).go i H ∧ ∃ N : L2.St → Hp → Prop, (∀ σ' H', N σ' H' → ∃ m', m' < m ∧ W (i + 1) m' σ' H') ∧ ∀ x H', (IteT K a).yld i H x H' → g x σ H' fun σ2 H2 => tb { D with nx := N, ct := N, bk := D.nx } σ2 H2) := by
  refine ⟨fun i m σ H => m = xs.length - i ∧ i ≤ xs.length ∧ Pv i σ H, ⟨xs.length, by simp, Nat.zero_le _, h0⟩, ?_⟩
  rintro i m σ H ⟨rfl, hi, p⟩
  have q := hl i σ H hi p
  by_cases lt : i < xs.length
  · refine .inr ⟨⟨xs, xs[i], q, by simp [lt]⟩, Pv (i + 1), fun σ' H' p' => ⟨xs.length - (i + 1), by omega, rfl, lt, p'⟩, fun x H' y => ?_⟩
    obtain ⟨T, z, rfl, hT, rfl, y⟩ := y
    exact hs i z σ H T (y xs q) p hT
  · have e : i = xs.length := by omega
    subst e
    exact .inl ⟨⟨xs, q, rfl⟩, hd σ H p⟩
/-! ### a row: a list or a tuple -/
def SqR (K : PySem.W.Frag) (H : Hp) (a : Addr) (xs : List V) : Prop := SqL K H a xs ∨ SqT K H a xs
theorem same_tup {K : PySem.W.Frag} {H H' : Hp} {a : Addr} {xs : List V} (e : Same H H') (h : SqT K H a xs) : SqT K H' a xs := by
  rcases h with (h | ⟨o, h⟩) | h
  · exact .inl (.inl (e _ _ h))
  · exact .inl (.inr ⟨o, e _ _ h⟩)
  · exact .inr h
theorem SqR.same {K : PySem.W.Frag} {H H' : Hp} {a : Addr} {xs : List V} (e : Same H H') (h : SqR K H a xs) : SqR K H' a xs := h.imp e.seq (same_tup e)
/-- a loop over a row that stands still -/
theorem for_row {K : PySem.W.Frag} {a : Addr} {xs : List V} {g : TG} {tb : TS} {D : Ends} {σ : L2.St} {H : Hp} {ta : TE} (ea : ∀ Q, Q (.ref a) H → ta σ H Q) (Pv : Nat → L2.St → Hp → Prop) {Hb : Hp} (hr : SqR K Hb a xs) (h0 : Pv 0 σ H) (hl : ∀ i σ H', i ≤ xs.length → Pv i σ H' → Same Hb H')
    (hs : ∀ i x σ H, xs[i]? = some x → Pv i σ H → g x σ H fun σ2 H2 => tb { D with nx := Pv (i + 1), ct := Pv (i + 1), bk := D.nx } σ2 H2) (hd : ∀ σ H, Pv xs.length σ H → D.nx σ H) :
    tFor (fun σ H R => iList K ta σ H R ∨ iTup K ta σ H R) g tb D σ H := by
  rcases hr with hr | hr
  · exact .inl (ea _ ⟨a, rfl, ⟨_, (hl 0 σ H (Nat.zero_le _) h0).seq hr⟩, for_list (K := K) (a := a) (xs := xs) Pv h0 (fun i σ H' hi p => (hl i σ H' hi p).seq hr) hs hd⟩)
  · exact .inr (ea _ ⟨a, rfl, ⟨_, same_tup (hl 0 σ H (Nat.zero_le _) h0) hr⟩, for_tup (K := K) (a := a) (xs := xs) Pv h0 (fun i σ H' hi p => same_tup (hl i σ H' hi p) hr) hs hd⟩)
/-- .. over enumerate of a row -/
theorem for_enumR {K : PySem.W.Frag} {a : Addr} {xs : List V} {g : TG} {tb : TS} {D : Ends} {σ : L2.St} {H : Hp} {ta : TA} (ea : ∀ Q, Q [.ref a] H → ta σ H Q) (Pv : Nat → L2.St → Hp → Prop) {Hb : Hp} (hr : SqR K Hb a xs) (h0 : Pv 0 σ H) (hl : ∀ i σ H', i ≤ xs.length → Pv i σ H' → Same Hb H')
    (hs : ∀ i x σ H (T : Addr), xs[i]? = some x → Pv i σ H → H T = none → g (.ref T) σ (upd H T (.tup [.int (i : Nat), x])) fun σ2 H2 => tb { D with nx := Pv (i + 1), ct := Pv (i + 1), bk := D.nx } σ2 H2) (hd : ∀ σ H, Pv xs.length σ H → D.nx σ H) :
    tFor (fun σ H R => iEnum K ta σ H R ∨ iEnumT K ta σ H R) g tb D σ H := by
  rcases hr with hr | hr
  · exact .inl (ea _ ⟨a, _, rfl, (hl 0 σ H (Nat.zero_le _) h0).seq hr, for_enum (K := K) (a := a) (xs := xs) Pv h0 (fun i σ H' hi p => (hl i σ H' hi p).seq hr) hs hd⟩)
  · exact .inr (ea _ ⟨a, _, rfl, same_tup (hl 0 σ H (Nat.zero_le _) h0) hr, for_enumT (K := K) (a := a) (xs := xs) Pv h0 (fun i σ H' hi p => same_tup (hl i σ H' hi p) hr) hs hd⟩)
theorem ty_L {K : PySem.W.Frag} {H : Hp} {a : Addr} {xs : List V} (h : SqL K H a xs) : TyX K H (.ref a) (.type "list") := by
  rcases h with (h | ⟨o, h⟩) | ⟨o, its, n, h1, h2, _⟩
  · exact .base (.lst h)
  · exact .base (.frz h)
  · exact .kList h1 h2
theorem ty_T {K : PySem.W.Frag} {H : Hp} {a : Addr} {xs : List V} (h : SqT K H a xs) : TyX K H (.ref a) (.type "tuple") := by
  rcases h with (h | ⟨o, h⟩) | ⟨o, its, n, h1, h2, _⟩
  · exact .base (.tup h)
  · exact .fTuple h
  · exact .kTuple h1 h2
/-- isinstance(row, (list, tuple)) -/
theorem isRow {K : PySem.W.Frag} {H : Hp} {a tp : Addr} {xs : List V} {Q : VK} (h : SqR K H a xs) (ht : H tp = some (.tup [.ty "list", .ty "tuple"])) (q : Q (.bl true) H) : rIsiT K [.ref a, .ref tp] H Q := by
  have pc : Paired ClsV [.ty "list", .ty "tuple"] [.type "list", .type "tuple"] := .cons (.ty _) (.cons (.ty _) .nil)
  rcases h with h | h
  · exact ⟨_, tp, _, _, _, true, rfl, ht, pc, ty_L h, kitAny_cons (kit_ty (r := true) (by decide +kernel)) (fun z => nomatch z) (fun _ => rfl), q⟩
  · exact ⟨_, tp, _, _, _, true, rfl, ht, pc, ty_T h, kitAny_cons (kit_ty (r := false) (by decide +kernel)) (fun _ => kitAny_cons (kit_ty (r := true) (by decide +kernel)) (fun z => nomatch z) (fun _ => rfl)) (fun z => nomatch z), q⟩
theorem sortedR {K : PySem.W.Frag} {H : Hp} {a : Addr} {ns : List Int} {Q : VK} (hp : SqR K H a (ns.map V.int)) (h : ∀ (ms : List Int) (p : Addr) (G : Hp), ms.Perm ns → ms.Pairwise (· ≤ ·) → G p = some (.lst (ms.map V.int)) → Same H G → H p = none → Q (.ref p) G) : rSortedI K [.ref a] H Q ∨ rSortedTup K [.ref a] H Q :=
  hp.imp (fun q => Rd.sortedI q h) fun q => ⟨a, ns, rfl, q, fun ms p h1 h2 h3 => h ms p _ h1 h2 upd_same (fun b u e => by rw [upd_ne (ne_of_none e h3)]; exact e) h3⟩
end Ru

/-! Readings of texts, comprehensions and own objects by their heads; letters. -/
namespace Rd
open PySem PySem.Spec PyProof.Rows L2
variable {X : Cx} {D : Ends} {σ : L2.St} {H : Hp} {K : PySem.W.Frag}
/-! ### texts -/
def nAddS : R2 := fun x y H Q => ∃ i j, x = .str i ∧ y = .str j ∧ i.length + j.length ≤ sizeLine ∧ Q (.str (i ++ j)) H
theorem o_addS : OpR X (binaryOp .Add) nAddS := op_add_str
theorem addS {i j : Str} {Q : VK} (hz : i.length + j.length ≤ sizeLine) (h : Q (.str (i ++ j)) H) : nAddS (.str i) (.str j) H Q := ⟨i, j, rfl, rfl, hz, h⟩
def nInC : R2 := fun x y H Q => ∃ (c : Nat) (z : Str), x = .str ⟨#[c]⟩ ∧ y = .str z ∧ Q (.bl (decide (c ∈ z.cps.toList))) H
theorem o_inC : OpR X (compareOp .In) nInC := op_in_sign
theorem inC {c : Nat} {z : Str} {Q : VK} (h : Q (.bl (decide (c ∈ z.cps.toList))) H) : nInC (.str ⟨#[c]⟩) (.str z) H Q := ⟨c, z, rfl, rfl, h⟩
theorem inCT {c : Nat} {z : Str} {Q : VK} (e : c ∈ z.cps.toList) (h : Q (.bl true) H) : nInC (.str ⟨#[c]⟩) (.str z) H Q := inC (by rw [decide_eq_true e]; exact h)
theorem nodup_take {α : Type} {l : List α} {i : Nat} {x : α} (nd : l.Nodup) (h : l[i]? = some x) : x ∉ l.take i := by
  intro m
  obtain ⟨j, hj, e⟩ := List.getElem_of_mem m
  rw [List.length_take] at hj
  have e2 : l[j]? = some x := by rw [← e, List.getElem_take]; exact List.getElem?_eq_getElem (by omega)
  have := (List.getElem?_inj (by omega) nd).mp (e2.trans h.symm)
  omega
theorem ixS {z : Str} {i : Int} {c : Nat} {Q : VK} (hz : z.length ≤ sizeLine) (e : atI z.cps.toList i = some c) (h : Q (.str ⟨#[c]⟩) H) : rIxS (.str z) (.int i) H Q := ⟨z, i, c, rfl, rfl, hz, e, h⟩
theorem inStrs {neg : Bool} {z : Str} {p : Addr} {ws : List Str} {Q : VK} (hp : SqL K H p (ws.map V.str) ∨ SqT K H p (ws.map V.str)) (h : Q (.bl (if neg then !decide (z ∈ ws) else decide (z ∈ ws))) H) : rIn K neg (.str z) (.ref p) H Q := by
  have e : inV (.str z) (ws.map V.str) = decide (z ∈ ws) := by
    unfold inV
    rw [List.any_map, Bool.eq_iff_iff, List.any_eq_true, decide_eq_true_iff]
    constructor
    · rintro ⟨y, hy, q⟩
      have : y = z := by simpa [eqV] using q
      exact this ▸ hy
    · intro hz
      exact ⟨z, hz, by simp [eqV]⟩
  exact Rd.inS hp rfl (flat_strs ws) (by rw [e]; exact h)
theorem inStrsY {z : Str} {p : Addr} {ws : List Str} {Q : VK} (hp : SqL K H p (ws.map V.str) ∨ SqT K H p (ws.map V.str)) (h : Q (.bl (decide (z ∈ ws))) H) : rIn K false (.str z) (.ref p) H Q := inStrs hp h
theorem inStrsN {z : Str} {p : Addr} {ws : List Str} {Q : VK} (hp : SqL K H p (ws.map V.str) ∨ SqT K H p (ws.map V.str)) (h : Q (.bl (!decide (z ∈ ws))) H) : rIn K true (.str z) (.ref p) H Q := inStrs hp h
theorem inInts {neg : Bool} {z : Int} {p : Addr} {ws : List Int} {Q : VK} (hp : SqL K H p (ws.map V.int) ∨ SqT K H p (ws.map V.int)) (h : Q (.bl (if neg then !decide (z ∈ ws) else decide (z ∈ ws))) H) : rIn K neg (.int z) (.ref p) H Q := by
  have e : inV (.int z) (ws.map V.int) = decide (z ∈ ws) := by
    unfold inV
    rw [List.any_map, Bool.eq_iff_iff, List.any_eq_true, decide_eq_true_iff]
    constructor
    · rintro ⟨y, hy, q⟩
      have : y = z := by simpa [eqV] using q
      exact this ▸ hy
    · intro hz
      exact ⟨z, hz, by simp [eqV]⟩
  exact Rd.inS hp rfl (by rw [List.all_map]; exact List.all_eq_true.mpr fun _ _ => rfl) (by rw [e]; exact h)
theorem inIntsY {z : Int} {p : Addr} {ws : List Int} {Q : VK} (hp : SqL K H p (ws.map V.int) ∨ SqT K H p (ws.map V.int)) (h : Q (.bl (decide (z ∈ ws))) H) : rIn K false (.int z) (.ref p) H Q := inInts hp h
theorem inIntsN {z : Int} {p : Addr} {ws : List Int} {Q : VK} (hp : SqL K H p (ws.map V.int) ∨ SqT K H p (ws.map V.int)) (h : Q (.bl (!decide (z ∈ ws))) H) : rIn K true (.int z) (.ref p) H Q := inInts hp h
theorem map_str {ns : List Str} {i : Nat} (h : i < ns.length) : (ns.map V.str)[i]? = some (.str ns[i]) := by simp [h]
theorem map_strG {ns : List Str} {i : Nat} {x : V} (h : (ns.map V.str)[i]? = some x) : ∃ n, ns[i]? = some n ∧ x = .str n := by
  rw [List.getElem?_map] at h
  cases e : ns[i]? with
  | none => rw [e] at h; cases h
  | some z => rw [e] at h; exact ⟨z, rfl, (Option.some.inj h).symm⟩
theorem map_refG {ns : List Addr} {i : Nat} {x : V} (h : (ns.map V.ref)[i]? = some x) : ∃ n, ns[i]? = some n ∧ x = .ref n := by
  rw [List.getElem?_map] at h
  cases e : ns[i]? with
  | none => rw [e] at h; cases h
  | some z => rw [e] at h; exact ⟨z, rfl, (Option.some.inj h).symm⟩
theorem map_ref {ns : List Addr} {i : Nat} (h : i < ns.length) : (ns.map V.ref)[i]? = some (.ref ns[i]) := by simp [h]
theorem ins {l : Addr} {xs : List V} {i : Int} {y : V} {Q : VK} (hp : H l = some (.lst xs)) (hz : xs.length < sizeLine) (h0 : 0 ≤ i) (h1 : i < 2 ^ 63) (h : ∀ G : Hp, G l = some (.lst (xs.take i.toNat ++ [y] ++ xs.drop i.toNat)) → (∀ b, b ≠ l → G b = H b) → Q .non G) :
    ∃ (l' : Addr) (xs' : List V) (i' : Int) (y' : V), V.ref l = .ref l' ∧ [V.int i, y] = [.int i', y'] ∧ H l' = some (.lst xs') ∧ xs'.length < sizeLine ∧ 0 ≤ i' ∧ i' < 2 ^ 63 ∧ Q .non (upd H l' (.lst (xs'.take i'.toNat ++ [y'] ++ xs'.drop i'.toNat))) :=
  ⟨l, xs, i, y, rfl, rfl, hp, hz, h0, h1, h _ upd_same fun b hb => upd_ne hb⟩
def nInsert : V → List V → Hp → VK → Prop := fun x vs H Q => ∃ (l : Addr) (xs : List V) (i : Int) (y : V), x = .ref l ∧ vs = [.int i, y] ∧ H l = some (.lst xs) ∧ xs.length < sizeLine ∧ 0 ≤ i ∧ i < 2 ^ 63 ∧
    Q .non (upd H l (.lst (xs.take i.toNat ++ [y] ++ xs.drop i.toNat)))
theorem m_insert : MtR X "list.insert" nInsert := mt_insert
theorem insert {l : Addr} {xs : List V} {i : Int} {y : V} {Q : VK} (hp : H l = some (.lst xs)) (hz : xs.length < sizeLine) (h0 : 0 ≤ i) (h1 : i < 2 ^ 63) (h : ∀ G : Hp, G l = some (.lst (xs.take i.toNat ++ [y] ++ xs.drop i.toNat)) → (∀ b, b ≠ l → G b = H b) → Q .non G) : nInsert (.ref l) [.int i, y] H Q :=
  ins hp hz h0 h1 h
/-! ### equal lists of texts -/
theorem dpAll_strs : ∀ ns : List Str, DpAll K H (ns.map V.str) (ns.map PyData.str)
  | [] => .nil
  | n :: ns => .cons (.str n) (dpAll_strs ns)
theorem canLay_strs : ∀ ns : List Str, (∀ z ∈ ns, PyData.strOk z = true) → PyData.canLayAll0 (ns.map PyData.str) = true
  | [], _ => rfl
  | n :: ns, h => by
    show (PyData.canLay0 (.str n) && PyData.canLayAll0 (ns.map PyData.str)) = true
    rw [canLay_strs ns fun z hz => h z (List.mem_cons_of_mem _ hz)]
    show (PyData.strOk n && true) = true
    rw [h n List.mem_cons_self]
    rfl
theorem depth_strs : ∀ ns : List Str, PyData.depthAll (ns.map PyData.str) = 0
  | [] => rfl
  | n :: ns => by
    show max (PyData.depth (.str n)) (PyData.depthAll (ns.map PyData.str)) = 0
    rw [depth_strs ns]
    rfl
theorem shaped_strs {ns : List Str} (h : ∀ z ∈ ns, PyData.strOk z = true) : SeqAt.shaped (.list (ns.map PyData.str)) = true := by
  have h1 : PyData.canLay0 (.list (ns.map PyData.str)) = true := canLay_strs ns h
  have h2 : PyData.depth (.list (ns.map PyData.str)) = 1 := by
    show PyData.depthAll (ns.map PyData.str) + 1 = 1
    rw [depth_strs]
  unfold SeqAt.shaped
  rw [h1, h2]
  rfl
theorem eqStrs {a b : Addr} {ns : List Str} {Q : VK} (h1 : SqL K H a (ns.map V.str)) (h2 : SqL K H b (ns.map V.str)) (h : ∀ z ∈ ns, PyData.strOk z = true) (q : Q (.bl true) H) : rEqD K (.ref a) (.ref b) H Q := by
  refine ⟨_, _, .lst h1 (dpAll_strs ns), .lst h2 (dpAll_strs ns), shaped_strs h, shaped_strs h, ?_⟩
  rw [SeqAt.eqv_refl _ (SeqAt.canLay_of_shaped (shaped_strs h))]
  exact q
theorem neStrs {a b : Addr} {ns : List Str} {Q : VK} (h1 : SqL K H a (ns.map V.str)) (h2 : SqL K H b (ns.map V.str)) (h : ∀ z ∈ ns, PyData.strOk z = true) (q : Q (.bl false) H) : rNeD K (.ref a) (.ref b) H Q := by
  refine ⟨_, _, .lst h1 (dpAll_strs ns), .lst h2 (dpAll_strs ns), shaped_strs h, shaped_strs h, ?_⟩
  rw [SeqAt.eqv_refl _ (SeqAt.canLay_of_shaped (shaped_strs h))]
  exact q
/-! ### equal lists of ints -/
theorem dpAll_ints : ∀ ns : List Int, DpAll K H (ns.map V.int) (ns.map PyData.int)
  | [] => .nil
  | n :: ns => .cons (.int n) (dpAll_ints ns)
theorem canLay_ints : ∀ ns : List Int, PyData.canLayAll0 (ns.map PyData.int) = true
  | [] => rfl
  | n :: ns => by
    show (PyData.canLay0 (.int n) && PyData.canLayAll0 (ns.map PyData.int)) = true
    rw [canLay_ints ns]
    rfl
theorem depth_ints : ∀ ns : List Int, PyData.depthAll (ns.map PyData.int) = 0
  | [] => rfl
  | n :: ns => by
    show max (PyData.depth (.int n)) (PyData.depthAll (ns.map PyData.int)) = 0
    rw [depth_ints ns]
    rfl
theorem shaped_ints (ns : List Int) : SeqAt.shaped (.list (ns.map PyData.int)) = true := by
  have h1 : PyData.canLay0 (.list (ns.map PyData.int)) = true := canLay_ints ns
  have h2 : PyData.depth (.list (ns.map PyData.int)) = 1 := by
    show PyData.depthAll (ns.map PyData.int) + 1 = 1
    rw [depth_ints]
  unfold SeqAt.shaped
  rw [h1, h2]
  rfl
theorem eqv_ints : ∀ (xs ys : List Int), PyData.eqvAll (xs.map PyData.int) (ys.map PyData.int) = decide (xs = ys)
  | [], [] => rfl
  | [], _ :: _ => rfl
  | _ :: _, [] => rfl
  | x :: xs, y :: ys => by
    show (PyData.eqv (.int x) (.int y) && PyData.eqvAll (xs.map PyData.int) (ys.map PyData.int)) = _
    rw [eqv_ints xs ys, Bool.eq_iff_iff]
    show ((x == y) && decide (xs = ys)) = true ↔ _
    simp
theorem eqInts {a b : Addr} {ns ms : List Int} {Q : VK} (h1 : SqL K H a (ns.map V.int)) (h2 : SqL K H b (ms.map V.int)) (q : Q (.bl (decide (ns = ms))) H) : rEqD K (.ref a) (.ref b) H Q := by
  refine ⟨_, _, .lst h1 (dpAll_ints ns), .lst h2 (dpAll_ints ms), shaped_ints ns, shaped_ints ms, ?_⟩
  show Q (.bl (PyData.eqvAll (ns.map PyData.int) (ms.map PyData.int))) H
  rw [eqv_ints]
  exact q
theorem neInts {a b : Addr} {ns ms : List Int} {Q : VK} (h1 : SqL K H a (ns.map V.int)) (h2 : SqL K H b (ms.map V.int)) (q : Q (.bl (!decide (ns = ms))) H) : rNeD K (.ref a) (.ref b) H Q := by
  refine ⟨_, _, .lst h1 (dpAll_ints ns), .lst h2 (dpAll_ints ms), shaped_ints ns, shaped_ints ms, ?_⟩
  show Q (.bl (!PyData.eqvAll (ns.map PyData.int) (ms.map PyData.int))) H
  rw [eqv_ints]
  exact q
/-! ### comprehensions -/
def Lc (J : It) (g : TG) (tt : TT) (te : TE) (vs : List Nat) (σ : L2.St) (H1 : Hp) (Q : VK) : Prop := ∀ D, H1 D = none → ∃ W : Nat → Nat → Hp → Prop, (∃ m, W 0 m (upd H1 D (.lst []))) ∧ ∀ i m H, W i m H →
  (J.stop i H ∧ Q (.ref D) H) ∨ (J.go i H ∧ ∃ Nx : Hp → Prop, (∀ H', Nx H' → ∃ m', m' < m ∧ W (i + 1) m' H') ∧ ∀ x H', J.yld i H x H' → g x (wipe σ vs) H' fun σ2 H2 => wipe σ2 vs = wipe σ vs ∧ tt σ2 H2 fun b H3 =>
    if b = true then te σ2 H3 fun y H4 => ∃ acc, H4 D = some (.lst acc) ∧ acc.length < sizeLine ∧ Nx (upd H4 D (.lst (acc ++ [y]))) else Nx H3)
theorem lc {wi : TI} {g : TG} {tt : TT} {te : TE} {vs : List Nat} {Q : VK} (h : wi σ H fun J H1 => Lc J g tt te vs σ H1 Q) : tLc wi g tt te vs σ H Q := h
theorem istr {te : TE} {R : It → Hp → Prop} (h : te σ H fun v H1 => ∃ x, v = .str x ∧ R (Its x) H1) : iStr te σ H R := h
theorem strE {z : Str} {P : Str → Prop} (h : P z) : ∃ x, V.str z = .str x ∧ P x := ⟨z, rfl, h⟩
theorem tyes {Q : Bool → Hp → Prop} (h : Q true H) : tYes σ H Q := h
/-- the state of a comprehension: the list at D holds acc, all ahead of it stands -/
def LcP (D : Addr) (H1 : Hp) (R : Nat → List V → Hp → Prop) : Nat → Hp → Prop := fun i H => ∃ acc, H D = some (.lst acc) ∧ Same H1 H ∧ R i acc H
def LcPush (D : Addr) (H1 : Hp) (R : Nat → List V → Hp → Prop) (i : Nat) (y : V) (H4 : Hp) : Prop := ∃ acc, H4 D = some (.lst acc) ∧ acc.length < sizeLine ∧ LcP D H1 R (i + 1) (upd H4 D (.lst (acc ++ [y])))
theorem lcPush {D : Addr} {H1 H4 : Hp} {R : Nat → List V → Hp → Prop} {i : Nat} {y : V} {acc : List V} (hD : H4 D = some (.lst acc)) (nD : H1 D = none) (s1 : Same H1 H4) (hz : acc.length < sizeLine) (r : ∀ G : Hp, G D = some (.lst (acc ++ [y])) → (∀ b, b ≠ D → G b = H4 b) → R (i + 1) (acc ++ [y]) G) : LcPush D H1 R i y H4 :=
  ⟨acc, hD, hz, acc ++ [y], upd_same, fun b o e => by rw [upd_ne (ne_of_none e nD)]; exact s1 b o e, r _ upd_same fun b hb => upd_ne hb⟩
theorem lcS {J : It} {n : Nat} {G : Hp → Prop} {Y : Nat → Hp → V → Hp → Prop} (w : Walk J n G Y) {g : TG} {tt : TT} {te : TE} {vs : List Nat} {H1 : Hp} {Q : VK} (hG : ∀ H, Same H1 H → G H) (R : Addr → Nat → List V → Hp → Prop)
    (r0 : ∀ (D : Addr) (G : Hp), H1 D = none → G D = some (.lst []) → Same H1 G → R D 0 [] G)
    (hs : ∀ (D : Addr) i x H H' acc, H1 D = none → i < n → H D = some (.lst acc) → Same H1 H → R D i acc H → Y i H x H' → g x (wipe σ vs) H' fun σ2 H2 => wipe σ2 vs = wipe σ vs ∧ tt σ2 H2 fun b H3 =>
      if b = true then te σ2 H3 fun y H4 => LcPush D H1 (R D) i y H4 else LcP D H1 (R D) (i + 1) H3)
    (hd : ∀ (D : Addr) acc H, H1 D = none → H D = some (.lst acc) → Same H1 H → R D n acc H → Q (.ref D) H) : Lc J g tt te vs σ H1 Q := fun D nD =>
  lc_it w (LcP D H1 (R D)) ⟨[], upd_same, same_upd nD, r0 D _ nD upd_same (same_upd nD)⟩ (fun i H hi ⟨acc, h1, h2, h3⟩ => hG H h2)
    (fun i x H H' hi ⟨acc, h1, h2, h3⟩ y => hs D i x H H' acc nD hi h1 h2 h3 y) (fun H ⟨acc, h1, h2, h3⟩ => hd D acc H nD h1 h2 h3)
/-- .. over a row: a list or a tuple -/
theorem lcRow {a : Addr} {xs : List V} {ta : TE} {g : TG} {tt : TT} {te : TE} {vs : List Nat} {H1 : Hp} {Q : VK} (ea : ∀ Q : VK, Q (.ref a) H1 → ta σ H1 Q) (hr : Ru.SqR K H1 a xs) (R : Addr → Nat → List V → Hp → Prop)
    (r0 : ∀ (D : Addr) (G : Hp), H1 D = none → G D = some (.lst []) → Same H1 G → R D 0 [] G)
    (hs : ∀ (D : Addr) i x H acc, H1 D = none → i < xs.length → H D = some (.lst acc) → Same H1 H → R D i acc H → xs[i]? = some x → g x (wipe σ vs) H fun σ2 H2 => wipe σ2 vs = wipe σ vs ∧ tt σ2 H2 fun b H3 =>
      if b = true then te σ2 H3 fun y H4 => LcPush D H1 (R D) i y H4 else LcP D H1 (R D) (i + 1) H3)
    (hd : ∀ (D : Addr) acc H, H1 D = none → H D = some (.lst acc) → Same H1 H → R D xs.length acc H → Q (.ref D) H) : (fun σ H R => iList K ta σ H R ∨ iTup K ta σ H R) σ H1 fun J H1 => Lc J g tt te vs σ H1 Q := by
  rcases hr with hr | hr
  · exact .inl (ea _ ⟨a, rfl, ⟨_, hr⟩, lcS walk_list (fun _ s => s.seq hr) R r0 (fun D i x H H' acc nD hi hD sm r ⟨e, hx⟩ => by cases e; exact hs D i x H acc nD hi hD sm r hx) hd⟩)
  · exact .inr (ea _ ⟨a, rfl, ⟨_, hr⟩, lcS walk_tup (fun _ s => Ru.same_tup s hr) R r0 (fun D i x H H' acc nD hi hD sm r ⟨e, hx⟩ => by cases e; exact hs D i x H acc nD hi hD sm r hx) hd⟩)
theorem wipeE {A B : L2.St} {P : Prop} (e : A = B) (h : P) : A = B ∧ P := ⟨e, h⟩
/-! ### list(range(..)) -/
theorem lstRg {te : L2.St → Hp → (Int → Int → Hp → Prop) → Prop} {Q : VK} (h : te σ H fun a b H1 => RgOk a b ∧ NewQ (.lst (rgV a b)) Q H1) : tLstRg te σ H Q := h
theorem tupRg {te : L2.St → Hp → (Int → Int → Hp → Prop) → Prop} {Q : VK} (h : te σ H fun a b H1 => RgOk a b ∧ NewQ (.tup (rgV a b)) Q H1) : tTupRg te σ H Q := h
theorem rg1 {ta : TE} {Q : Int → Int → Hp → Prop} (h : ta σ H fun x H1 => ∃ n, x = .int n ∧ Q 0 n H1) : tRg1 ta σ H Q := h
theorem rg2 {ta tb : TE} {Q : Int → Int → Hp → Prop} (h : ta σ H fun x H1 => tb σ H1 fun y H2 => ∃ i j, x = .int i ∧ y = .int j ∧ Q i j H2) : tRg2 ta tb σ H Q := h
theorem intE2 {i j : Int} {P : Int → Int → Prop} (h : P i j) : ∃ a b, V.int i = .int a ∧ V.int j = .int b ∧ P a b := ⟨i, j, rfl, rfl, h⟩
theorem rgV0 (n : Nat) : rgV 0 (n : Int) = ((List.range n).map fun i : Nat => (i : Int)).map V.int := by
  unfold rgV
  rw [List.map_map, show ((n : Int) - 0).toNat = n by omega]
  refine List.map_congr_left fun i _ => ?_
  show V.int (0 + (i : Nat)) = V.int (i : Int)
  rw [Int.zero_add]
/-! ### dicts with ints as keys -/
theorem dnew {Q : VK} (h : ∀ (p : Addr) (G : Hp), H p = none → G p = some (.dK []) → Same H G → Q (.ref p) G) : tDNewK σ H Q :=
  fun p hp => h p _ hp upd_same fun b u e => by rw [upd_ne (ne_of_none e hp)]; exact e
theorem dgetH {td ty : TE} {Q : VK} (h : td σ H fun x H1 => ty σ H1 fun y H2 => ∃ a v, x = .ref a ∧ DGet H2 a y (some v) ∧ Q v H2) : tDGet td ty σ H Q := h
theorem dget {a : Addr} {kvs : List (Key × V)} {k : Int} {v : V} {P : V → Prop} (e : H a = some (.dK kvs)) (hv : valV kvs (.inl k) = some v) (q : P v) : ∃ a' v', V.ref a = .ref a' ∧ DGet H a' (.int k) (some v') ∧ P v' :=
  ⟨a, v, rfl, hv ▸ DGet.k (k := .inl k) e, q⟩
theorem dgetF {a : Addr} {o : Obj} {kvs : List (Key × V)} {k : Int} {v : V} {P : V → Prop} (e : H a = some (.frz o (.dK kvs))) (hv : valV kvs (.inl k) = some v) (q : P v) : ∃ a' v', V.ref a = .ref a' ∧ DGet H a' (.int k) (some v') ∧ P v' :=
  ⟨a, v, rfl, .inl ⟨kvs, .inl k, .inr ⟨o, e⟩, rfl, hv.symm⟩, q⟩
theorem dinH {ty td : TE} {Q : VK} (h : ty σ H fun y H1 => td σ H1 fun x H2 => ∃ a o, x = .ref a ∧ DGet H2 a y o ∧ Q (.bl o.isSome) H2) : tDIn ty td σ H Q := h
theorem dninH {ty td : TE} {Q : VK} (h : ty σ H fun y H1 => td σ H1 fun x H2 => ∃ a o, x = .ref a ∧ DGet H2 a y o ∧ Q (.bl (!o.isSome)) H2) : tDNotIn ty td σ H Q := h
theorem dany {a : Addr} {kvs : List (Key × V)} {k : Int} {P : Option V → Prop} (e : H a = some (.dK kvs)) (q : P (valV kvs (.inl k))) : ∃ a' o, V.ref a = .ref a' ∧ DGet H a' (.int k) o ∧ P o :=
  ⟨a, _, rfl, DGet.k (k := .inl k) e, q⟩
theorem dput {a : Addr} {kvs : List (Key × V)} {k : Int} {v : V} {Q : Hp → Prop} (e : H a = some (.dK kvs)) (hl : kvs.length < sizeLine) (h : ∀ G : Hp, G a = some (.dK (putK kvs (.inl k) v)) → (∀ b, b ≠ a → G b = H b) → Q G) : rSetD (.ref a) (.int k) v H Q :=
  ⟨a, _, rfl, DPut.k (k := .inl k) e hl, h _ upd_same fun b hb => upd_ne hb⟩
theorem dget1H {td ty : TE} {Q : VK} (h : td σ H fun x H1 => ∃ a, x = .ref a ∧ IsD H1 a ∧ ty σ H1 fun y H2 => ∃ o, DGet H2 a y o ∧ Q (o.getD .non) H2) : tDGet1 td ty σ H Q := h
theorem isD {a : Addr} {kvs : List (Key × V)} {P : Addr → Prop} (e : H a = some (.dK kvs)) (q : P a) : ∃ a', V.ref a = .ref a' ∧ IsD H a' ∧ P a' := ⟨a, rfl, .inl ⟨kvs, .inl e⟩, q⟩
theorem dgetO {a : Addr} {kvs : List (Key × V)} {k : Int} {P : Option V → Prop} (e : H a = some (.dK kvs)) (q : P (valV kvs (.inl k))) : ∃ o, DGet H a (.int k) o ∧ P o := ⟨_, DGet.k (k := .inl k) e, q⟩
/-- a for over the keys of a dict that is written nowhere in it -/
theorem forD {td : TE} {g : TG} {tb : TS} {a : Addr} {kvs : List (Key × V)} (hd : H a = some (.dK kvs)) (et : ∀ (H1 : Hp) (Q : VK), Q (.ref a) H1 → td σ H1 Q) (Pv : Nat → L2.St → Hp → Prop)
    (h0 : ∀ od, Pv 0 σ (upd H a (.frz od (.dK kvs)))) (hs : ∀ od i k v σ H, kvs[i]? = some (k, v) → H a = some (.frz od (.dK kvs)) → Pv i σ H → g (kV k) σ H fun σ2 H2 => tb { nx := fun σ' H' => H' a = some (.frz od (.dK kvs)) ∧ Pv (i + 1) σ' H', rt := fun v H' => H' a = some (.frz od (.dK kvs)) ∧ D.rt v (upd H' a (.dK kvs)), bk := fun σ' H' => H' a = some (.frz od (.dK kvs)) ∧ D.nx σ' (upd H' a (.dK kvs)), ct := fun σ' H' => H' a = some (.frz od (.dK kvs)) ∧ Pv (i + 1) σ' H' } σ2 H2)
    (hn : ∀ od σ H, H a = some (.frz od (.dK kvs)) → Pv kvs.length σ H → D.nx σ (upd H a (.dK kvs))) : tLock (tFor (iKeys td) g tb) D σ H := by
  refine ⟨a, .dK kvs, hd, trivial, fun od => ?_⟩
  refine et _ _ ⟨a, od, rfl, .inl ⟨kvs, upd_same, ?_⟩⟩
  exact for_it walk_keys (fun i σ H => H a = some (.frz od (.dK kvs)) ∧ Pv i σ H) ⟨upd_same, h0 od⟩ (fun i σ H _ h => h.1)
    (fun i x σ H H' hi ⟨h1, h2⟩ ⟨e, k, v, hk, hx⟩ => by cases e; cases hx; exact hs od i k v σ H hk h1 h2) (fun σ H ⟨h1, h2⟩ => ⟨h1, hn od σ H h1 h2⟩)
def nListD : List V → Hp → VK → Prop := fun xs H Q => ∃ p kvs, xs = [.ref p] ∧ H p = some (.dK kvs) ∧ ∀ q, H q = none → Q (.ref q) (upd H q (.lst (kvs.map fun kv => kV kv.1)))
theorem listD {a : Addr} {kvs : List (Key × V)} {Q : VK} (e : H a = some (.dK kvs)) (h : NewQ (.lst (kvs.map fun kv => kV kv.1)) Q H) : rListD [.ref a] H Q := ⟨a, kvs, rfl, e, h⟩
/-! ### joins -/
theorem m1 {r : V → List V → Hp → VK → Prop} {to te : TE} {Q : VK} (h : to σ H fun x H1 => (∃ a, x = .str a) ∧ te σ H1 fun y H2 => r x [y] H2 Q) : tM1 r to te σ H Q := h
theorem strX {a : Str} {R : Prop} (h : R) : (∃ b, V.str a = .str b) ∧ R := ⟨⟨a, rfl⟩, h⟩
theorem join {a : Str} {p : Addr} {ys : List Str} {Q : VK} (hp : SqL K H p (ys.map V.str) ∨ SqT K H p (ys.map V.str)) (hz : (ys.map (·.length)).sum + ys.length * a.length ≤ 16777216) (h : Q (.str (Txt.join a ys)) H) :
    ∃ a' p', ∃ ys' : List Str, V.str a = .str a' ∧ [V.ref p] = [.ref p'] ∧ (SqL K H p' (ys'.map V.str) ∨ SqT K H p' (ys'.map V.str)) ∧ (ys'.map (·.length)).sum + ys'.length * a'.length ≤ 16777216 ∧ Q (.str (Txt.join a' ys')) H := ⟨a, p, ys, rfl, rfl, hp, hz, h⟩
/-! ### own objects -/
def FldG (K : PySem.W.Frag) (f : Str) : V → Hp → VK → Prop := fun x H1 Q => ∃ a C dx fs v, x = .ref a ∧ H1 a = some (.ins C dx fs) ∧ Cls K C ∧ NoAttr K C f ∧ fs.lookup f = some v ∧ Q v H1
theorem fldH {ta : TE} {f : Str} {Q : VK} (h : ta σ H fun x H1 => FldG K f x H1 Q) : tFld K ta f σ H Q := h
theorem fld {f : Str} {a C dx : Addr} {fs : List (Str × V)} {v : V} {Q : VK} (e : H a = some (.ins C dx fs)) (c : Cls K C) (n : NoAttr K C f) (l : fs.lookup f = some v) (q : Q v H) : FldG K f (.ref a) H Q := ⟨a, C, dx, fs, v, rfl, e, c, n, l, q⟩
def FldS (K : PySem.W.Frag) (f : Str) (y : V) : V → Hp → (Hp → Prop) → Prop := fun x H2 Q => ∃ a C dx fs, x = .ref a ∧ H2 a = some (.ins C dx fs) ∧ Cls K C ∧ NoAttr K C f ∧ fs.length < 1000 ∧ Q (upd H2 a (.ins C dx (putF f y fs)))
theorem sfldH {ta tv : TE} {f : Str} (h : tv σ H fun y H1 => ta σ H1 fun x H2 => FldS K f y x H2 (D.nx σ)) : sFld K ta tv f D σ H := h
theorem sfld {f : Str} {a C dx : Addr} {fs fs' : List (Str × V)} {y : V} {Q : Hp → Prop} (e : H a = some (.ins C dx fs)) (c : Cls K C) (n : NoAttr K C f) (l : fs.length < 1000) (hf : putF f y fs = fs') (q : ∀ G : Hp, G a = some (.ins C dx fs') → (∀ b, b ≠ a → G b = H b) → Q G) : FldS K f y (.ref a) H Q :=
  ⟨a, C, dx, fs, rfl, e, c, n, l, hf ▸ q _ upd_same fun b hb => upd_ne hb⟩
def MkG (C : Addr) (sp : Sp) (dvs : List V) (E : XK) (vs : List V) (H1 : Hp) (Q : VK) : Prop := ∀ x dx, H1 x = none → H1 dx = none → dx ≠ x → sp (.ref x :: (vs ++ dvs)) (upd (upd H1 dx (.own x)) x (.ins C dx [])) (fun v H2 => v = .non ∧ Q (.ref x) H2) E
theorem mkH {C : Addr} {sp : Sp} {dvs : List V} {E : XK} {t : TA} {Q : VK} (h : t σ H fun vs H1 => MkG C sp dvs E vs H1 Q) : tMake C sp dvs E t σ H Q := h
theorem mk {C : Addr} {sp : Sp} {dvs : List V} {E : XK} {vs : List V} {Q : VK} (h : ∀ (x dx : Addr) (G : Hp), H x = none → H dx = none → dx ≠ x → G x = some (.ins C dx []) → Same H G → (∀ b, b ≠ x → b ≠ dx → G b = H b) → sp (.ref x :: (vs ++ dvs)) G (fun v H2 => v = .non ∧ Q (.ref x) H2) E) : MkG C sp dvs E vs H Q := fun x dx hx hd hne =>
  h x dx _ hx hd hne upd_same (fun b o e => by rw [upd_ne (ne_of_none e hx), upd_ne (ne_of_none e hd)]; exact e) fun b h1 h2 => by rw [upd_ne h1, upd_ne h2]
def MethG (C : Addr) (m : Str) (x : V) (H : Hp) (Q : Prop) : Prop := ∃ a dx fs, x = .ref a ∧ H a = some (.ins C dx fs) ∧ fs.lookup m = none ∧ Q
theorem methH {C : Addr} {m : Str} {sp : Sp} {dvs : List V} {E : XK} {ta : TE} {t : TA} {Q : VK} (h : ta σ H fun x H1 => MethG C m x H1 (t σ H1 fun vs H2 => sp (x :: (vs ++ dvs)) H2 Q E)) : tMeth C m sp dvs E ta t σ H Q := h
theorem meth {C : Addr} {m : Str} {a dx : Addr} {fs : List (Str × V)} {Q : Prop} (e : H a = some (.ins C dx fs)) (l : fs.lookup m = none) (q : Q) : MethG C m (.ref a) H Q := ⟨a, dx, fs, rfl, e, l, q⟩
/-! ### isinstance -/
theorem isi {x : V} {a b : String} {r : Bool} {Q : VK} (ht : TyX K H x (.type a)) (h : kitB a b = some r) (q : Q (.bl r) H) : rIsi K [x, .ty b] H Q := ⟨_, _, _, _, r, rfl, .ty b, ht, kit_ty h, q⟩
theorem isiStr {z : Str} {Q : VK} (q : Q (.bl true) H) : rIsi K [.str z, .ty "str"] H Q := isi (.base (.str z)) (by decide +kernel) q
theorem isiB {z : Bool} {Q : VK} (q : Q (.bl true) H) : rIsi K [.bl z, .ty "bool"] H Q := isi (.base (.bl z)) (by decide +kernel) q
theorem isiI {z : Int} {Q : VK} (q : Q (.bl true) H) : rIsi K [.int z, .ty "int"] H Q := isi (.base (.int z)) (by decide +kernel) q
theorem isiIB {z : Int} {Q : VK} (q : Q (.bl false) H) : rIsi K [.int z, .ty "bool"] H Q := isi (.base (.int z)) (by decide +kernel) q
end Rd
namespace W
open PySem PySem.Spec PyProof.Rows L2
theorem kit_self {K : PySem.W.Frag} {C : Addr} : PySem.W.kitOne K (.ref C) (.ref C) = some true := by
  unfold PySem.W.kitOne
  simp
/-- what isinstance asks of an own class -/
structure OwnTy (K : PySem.W.Frag) (C : Addr) : Prop where
  ha : PySem.W.findIn K (.ref C) "__class__" = some (some (.builtin "object.__class__"))
  hn : PySem.W.specialIn K (.builtin "object.__class__") "__get__" = some (some (.builtin "getset_descriptor.__get__"))
  htk : PySem.W.takesIn K (.builtin "object.__class__") = some true
  hm : PySem.W.mroIn K C (.type "object") = some true
  me : PySem.W.kitOne K (.ref C) (.ref C) = some true
theorem isiOwn {K : PySem.W.Frag} {H : Hp} {a C dx : Addr} {fs : List (Str × V)} {Q : VK} (c : Cls K C) (o : OwnTy K C) (e : H a = some (.ins C dx fs)) (q : Q (.bl true) H) : rIsi K [.ref a, .ref C] H Q :=
  ⟨_, _, _, _, true, rfl, .own C, .base (.ins e c o.ha o.hn o.htk o.hm), o.me, q⟩
end W
/-! ### letters -/
namespace Lt
open PySem PySem.Spec PyProof.Rows L2
def Abc : Str := "abcdefghijklmnopqrstuvwxyz"
def Let (z : Str) : Prop := ∀ c ∈ z.cps.toList, c ∈ Abc.cps.toList
theorem Let.app {a b : Str} (x : Let a) (y : Let b) : Let (a ++ b) := fun c h => by
  have : c ∈ a.cps.toList ++ b.cps.toList := by
    rw [← Array.toList_append]
    exact h
  exact (List.mem_append.mp this).elim (x c) (y c)
theorem len_app (a b : Str) : (a ++ b).length = a.length + b.length := Array.size_append
theorem Let.cut {z : Str} (x : Let z) (lo hi : Option Int) : Let (cutS z lo hi) := fun c h => x c (List.mem_of_mem_drop (List.mem_of_mem_take (show c ∈ (z.cps.toList.drop _).take _ from by simpa [cutS] using h)))
theorem Let.one {c : Nat} (h : c ∈ Abc.cps.toList) : Let ⟨#[c]⟩ := fun d hd => by
  have : d = c := by simpa using hd
  exact this ▸ h
theorem Let.empty : Let "" := fun c h => by exact absurd h (by decide +revert)
theorem Let.ok {z : Str} (x : Let z) : PyData.strOk z = true := by
  unfold PyData.strOk
  rw [Array.all_eq_true']
  intro c hc
  have h := x c (by simpa using hc)
  have : ∀ c ∈ Abc.cps.toList, decide (c < 0x110000) = true := by decide +kernel
  exact this c h
theorem Let.char {z : Str} (x : Let z) {c : Nat} {i : Nat} (h : z.cps.toList[i]? = some c) : c ∈ Abc.cps.toList := x c (List.mem_of_getElem? h)
theorem cut_len {z : Str} {a b : Nat} (h : a ≤ b) (hb : b ≤ z.length) : (cutS z (some (a : Int)) (some (b : Int))).length = b - a := by
  show (((z.cps.toList.drop (HT.sIx z.length 0 (some (a : Int)))).take (HT.sIx z.length z.length (some (b : Int)) - HT.sIx z.length 0 (some (a : Int)))).toArray).size = b - a
  rw [List.size_toArray, List.length_take, List.length_drop, Array.length_toList, HT.sIx_nat, HT.sIx_nat]
  unfold Str.length at hb ⊢
  omega
theorem cut_lenI {z : Str} {a b : Int} (h0 : 0 ≤ a) (h : a ≤ b) (hb : b ≤ z.length) : ((cutS z (some a) (some b)).length : Int) = b - a := by
  have := cut_len (z := z) (a := a.toNat) (b := b.toNat) (by omega) (by omega)
  rw [show ((a.toNat : Nat) : Int) = a by omega, show ((b.toNat : Nat) : Int) = b by omega] at this
  omega
theorem cut_from {z : Str} {a : Int} (h0 : 0 ≤ a) (h : a ≤ z.length) : ((cutS z (some a) none).length : Int) = z.length - a := by
  have e : (cutS z (some a) none).length = z.length - a.toNat := by
    show (((z.cps.toList.drop (HT.sIx z.length 0 (some a))).take (HT.sIx z.length z.length none - HT.sIx z.length 0 (some a))).toArray).size = _
    have e1 : HT.sIx z.length 0 (some a) = a.toNat := by
      have := HT.sIx_nat z.length 0 a.toNat
      rw [show ((a.toNat : Nat) : Int) = a by omega] at this
      rw [this]
      omega
    rw [List.size_toArray, List.length_take, List.length_drop, Array.length_toList, e1]
    show min (z.length - a.toNat) (z.cps.size - a.toNat) = _
    unfold Str.length
    omega
  omega
theorem cut_to {z : Str} {b : Int} (h0 : 0 ≤ b) : ((cutS z none (some b)).length : Int) = min b z.length := by
  have e : (cutS z none (some b)).length = min b.toNat z.length := by
    show (((z.cps.toList.drop (HT.sIx z.length 0 none)).take (HT.sIx z.length z.length (some b) - HT.sIx z.length 0 none)).toArray).size = _
    have e1 : HT.sIx z.length z.length (some b) = min b.toNat z.length := by
      have := HT.sIx_nat z.length z.length b.toNat
      rw [show ((b.toNat : Nat) : Int) = b by omega] at this
      exact this
    have e2 : HT.sIx z.length 0 none = 0 := rfl
    rw [List.size_toArray, List.length_take, List.length_drop, Array.length_toList, e1, e2]
    unfold Str.length
    omega
  omega
theorem join_let : ∀ ys : List Str, (∀ y ∈ ys, Let y) → Let (Str.join "" ys) ∧ (Str.join "" ys).length = (ys.map (·.length)).sum
  | [], _ => ⟨fun c h => by exact absurd h (by decide +revert), by decide +kernel⟩
  | [y], h => ⟨h y (by simp), by simp [Str.join]⟩
  | y :: z :: r, h => by
    have ih := join_let (z :: r) fun x hx => h x (List.mem_cons_of_mem _ hx)
    have e : Str.join "" (y :: z :: r) = y ++ "" ++ Str.join "" (z :: r) := rfl
    rw [e]
    refine ⟨((h y List.mem_cons_self).app Let.empty).app ih.1, ?_⟩
    rw [len_app, len_app, ih.2, show (Str.ofString "").length = 0 by decide +kernel]
    show y.length + 0 + _ = (y.length :: (z :: r).map (·.length)).sum
    rw [List.sum_cons]
    rfl
theorem join_one {ys : List Str} {n : Nat} (hl : ys.length = n) (h : ∀ y ∈ ys, Let y ∧ y.length = 1) : Let (Txt.join "" ys) ∧ (Txt.join "" ys).length = n ∧ (ys.map (·.length)).sum = n := by
  have j := join_let ys fun y hy => (h y hy).1
  have e : (ys.map (·.length)).sum = ys.length := by
    clear j hl
    induction ys with
    | nil => rfl
    | cons y r ih => rw [List.map_cons, List.sum_cons, ih fun x hx => h x (List.mem_cons_of_mem _ hx), (h y List.mem_cons_self).2, List.length_cons]; omega
  rw [TL.join_eq]
  exact ⟨j.1, by rw [j.2, e, hl], by rw [e, hl]⟩
theorem ne_of_len {z : Str} (h : 0 < z.length) : ¬ z = "" := fun e => by
  subst e
  exact absurd h (by decide +revert)
theorem len_of_ne {z : Str} (h : ¬ z = "") : 0 < z.length := by
  rcases Nat.eq_zero_or_pos z.length with e | e
  · exfalso
    refine h ?_
    have : z.cps = #[] := Array.eq_empty_of_size_eq_zero e
    cases z
    simp only at this
    subst this
    decide +kernel
  · exact e
/-- a word: some letters, at least one, at most n -/
structure Wd (n : Int) (z : Str) : Prop where
  ok : Let z
  l0 : 1 ≤ z.length
  l1 : (z.length : Int) ≤ n
theorem Wd.mono {n m : Int} {z : Str} (h : Wd n z) (k : n ≤ m) : Wd m z := ⟨h.ok, h.l0, Int.le_trans h.l1 k⟩
theorem Wd.line {n : Int} {z : Str} (h : Wd n z) (k : n ≤ 1000000) : z.length ≤ sizeLine := by
  have := h.l1
  rw [sizeLine_eq]
  omega
end Lt
namespace W
open PySem PySem.Spec PyProof.Rows L2
/-! ### the tape, books -/
def Tape (H : Hp) (t c : Addr) : Prop := ∃ (ns : List Int) (x y z u : Int), t ≠ c ∧ H t = some (.lst [.ref c, .int x, .int y, .int z, .int u]) ∧ H c = some (.lst (ns.map V.int)) ∧ 0 ≤ x ∧ x ≤ ns.length ∧ 0 ≤ z ∧ z < 2147483647
theorem Tape.same {H H' : Hp} {t c : Addr} (h : Tape H t c) (s : Same H H') : Tape H' t c := by
  obtain ⟨ns, x, y, z, u, n, h1, h2, r⟩ := h
  exact ⟨ns, x, y, z, u, n, s _ _ h1, s _ _ h2, r⟩
theorem Tape.off {H H' : Hp} {t c l : Addr} (h : Tape H t c) (h1 : l ≠ t) (h2 : l ≠ c) (e : ∀ b, b ≠ l → H' b = H b) : Tape H' t c := by
  obtain ⟨ns, x, y, z, u, n, g1, g2, r⟩ := h
  exact ⟨ns, x, y, z, u, n, by rw [e t h1.symm]; exact g1, by rw [e c h2.symm]; exact g2, r⟩
theorem Tape.new {H : Hp} {t c l : Addr} (h : Tape H t c) (n : H l = none) : l ≠ t ∧ l ≠ c := by
  obtain ⟨ns, x, y, z, u, _, g1, g2, r⟩ := h
  exact ⟨(ne_of_none g1 n).symm, (ne_of_none g2 n).symm⟩
theorem _root_.Rd.tape_same {H H' : Hp} {t c : Addr} (s : Same H H') (h : Tape H t c) : Tape H' t c := h.same s
theorem _root_.Rd.ntT {H : Hp} {t c l : Addr} (n : H l = none) (h : Tape H t c) : l ≠ t := (h.new n).1
theorem _root_.Rd.ntT' {H : Hp} {t c l : Addr} (n : H l = none) (h : Tape H t c) : l ≠ c := (h.new n).2
/-- some watches: no two alike, at most twelve, each of some letters -/
structure Watches (ws : List Str) : Prop where
  nd : ws.Nodup
  l1 : ws.length ≤ 12
  ok : ∀ z ∈ ws, Lt.Wd 12 z
/-- a book of the watches ws stands at b -/
def BookAt (C : Addr) (H : Hp) (b : Addr) (ws : List Str) : Prop := ∃ dx t, H b = some (.ins C dx [("watches", .ref t)]) ∧ H t = some (.tup (ws.map V.str))
theorem BookAt.same {C : Addr} {H H' : Hp} {b : Addr} {ws : List Str} (h : BookAt C H b ws) (s : Same H H') : BookAt C H' b ws := let ⟨dx, t, h1, h2⟩ := h; ⟨dx, t, s _ _ h1, s _ _ h2⟩
theorem BookAt.but {C t c : Addr} {H H' : Hp} {b : Addr} {ws : List Str} (h : BookAt C H b ws) (tp : Tape H t c) (s : Rd.But t H H') : BookAt C H' b ws := by
  obtain ⟨dx, q, h1, h2⟩ := h
  obtain ⟨ns, x, y, z, u, _, g1, g2, r⟩ := tp
  exact ⟨dx, q, s _ _ (ne_of h1 g1 (fun e => nomatch e)) h1, s _ _ (ne_of h2 g1 (fun e => nomatch e)) h2⟩
theorem snoc_nodup {α : Type} {ws : List α} {y : α} (nd : ws.Nodup) (q : ¬ y ∈ ws) : (ws ++ [y]).Nodup := by
  rw [List.nodup_append]
  exact ⟨nd, by simp, fun x hx z hz e => q (by simp at hz; rw [← hz, ← e]; exact hx)⟩
theorem _root_.Rd.book_same {C : Addr} {H H' : Hp} {b : Addr} {ws : List Str} (s : Same H H') (h : BookAt C H b ws) : BookAt C H' b ws := h.same s
theorem _root_.Rd.book_but {C t c : Addr} {H H' : Hp} {b : Addr} {ws : List Str} (s : Rd.But t H H') (tp : Tape H t c) (h : BookAt C H b ws) : BookAt C H' b ws := h.but tp s
end W
/-! ### what is kept, for the search by hypotheses -/
namespace Rd
open PySem PySem.Spec PyProof.Rows L2
variable {H H' : Hp} {K : PySem.W.Frag}
theorem neN {H : Hp} {a b : Addr} {o : HO} (h' : H b = none) (h : H a = some o) : a ≠ b := ne_of_none h h'
theorem neN' {H : Hp} {a b : Addr} {o : HO} (h' : H b = none) (h : H a = some o) : b ≠ a := (ne_of_none h h').symm
theorem same_tr {H H1 H2 : Hp} (b : Same H1 H2) (a : Same H H1) : Same H H2 := a.trans b
theorem but_tr {t : Addr} {H H1 H2 : Hp} (b : But t H1 H2) (a : But t H H1) : But t H H2 := a.trans b
theorem but_sm {t : Addr} {H H1 H2 : Hp} (b : Same H1 H2) (a : But t H H1) : But t H H2 := a.same b
theorem same_of2 {l : Addr} {H0 H H' : Hp} (off : ∀ b, b ≠ l → H' b = H b) (n : H0 l = none) (s : Same H0 H) : Same H0 H' := fun b o e => by rw [off b (ne_of_none e n)]; exact s b o e
theorem but_of2 {t l : Addr} {H0 H H' : Hp} (off : ∀ b, b ≠ l → H' b = H b) (n : H0 l = none) (s : But t H0 H) : But t H0 H' := fun b o h e => by rw [off b (ne_of_none e n)]; exact s b o h e
theorem at_same {a : Addr} {o : HO} (s : Same H H') (e : H a = some o) : H' a = some o := s a o e
theorem at_but {t a : Addr} {o : HO} (b : But t H H') (n : a ≠ t) (e : H a = some o) : H' a = some o := b a o n e
theorem at_off {l a : Addr} {o : HO} (off : ∀ b, b ≠ l → H' b = H b) (n : a ≠ l) (e : H a = some o) : H' a = some o := by rw [off a n]; exact e
theorem same_off {l : Addr} {H0 : Hp} (s : Same H0 H) (n : H0 l = none) (off : ∀ b, b ≠ l → H' b = H b) : Same H0 H' := fun b o e => by rw [off b (ne_of_none e n)]; exact s b o e
theorem but_off' {t l : Addr} {H0 : Hp} (s : But t H0 H) (n : H0 l = none) (off : ∀ b, b ≠ l → H' b = H b) : But t H0 H' := fun b o h e => by rw [off b (ne_of_none e n)]; exact s b o h e
theorem lenS {p : Addr} {ys : List Str} {H : Hp} {Q : VK} (hp : SqL K H p (ys.map V.str) ∨ SqT K H p (ys.map V.str)) (h : Q (.int (ys.length : Nat)) H) : nLen K [.ref p] H Q := ⟨p, _, rfl, hp, by rw [List.length_map]; exact h⟩
theorem lenI {p : Addr} {ys : List Int} {H : Hp} {Q : VK} (hp : SqL K H p (ys.map V.int) ∨ SqT K H p (ys.map V.int)) (h : Q (.int (ys.length : Nat)) H) : nLen K [.ref p] H Q := ⟨p, _, rfl, hp, by rw [List.length_map]; exact h⟩
theorem lenR {p : Addr} {ys : List Addr} {H : Hp} {Q : VK} (hp : SqL K H p (ys.map V.ref) ∨ SqT K H p (ys.map V.ref)) (h : Q (.int (ys.length : Nat)) H) : nLen K [.ref p] H Q := ⟨p, _, rfl, hp, by rw [List.length_map]; exact h⟩
end Rd

/-! Plain law: steps up and down by some lengths between 0 and a last spot. -/
namespace M85

/-- the spots that steps lead to from 0 -/
inductive Reach (ls : List Int) (last : Int) : Int → Prop where
  | zero : Reach ls last 0
  | step {x y l : Int} (h : Reach ls last x) (hl : l ∈ ls) (e : y = x + l ∨ y = x - l) (h0 : 0 ≤ y) (h1 : y ≤ last) : Reach ls last y

/-- led to one another, in the range -/
inductive Conn (ls : List Int) (last : Int) : Int → Int → Prop where
  | refl (x : Int) : Conn ls last x x
  | step {x y z l : Int} (h : Conn ls last x y) (hl : l ∈ ls) (e : z = y + l ∨ z = y - l) (h0 : 0 ≤ z) (h1 : z ≤ last) : Conn ls last x z

theorem Conn.trans {ls : List Int} {last x y z : Int} (a : Conn ls last x y) (b : Conn ls last y z) : Conn ls last x z := by
  induction b with
  | refl => exact a
  | step _ hl e h0 h1 ih => exact .step ih hl e h0 h1

theorem Reach.conn {ls : List Int} {last x y : Int} (a : Reach ls last x) (b : Conn ls last x y) : Reach ls last y := by
  induction b with
  | refl => exact a
  | step _ hl e h0 h1 ih => exact .step ih hl e h0 h1

/-- any two spots of the range that are s apart are led to one another -/
def Dist (ls : List Int) (last s : Int) : Prop := ∀ x, 0 ≤ x → x + s ≤ last → 0 ≤ x + s → x ≤ last → Conn ls last x (x + s) ∧ Conn ls last (x + s) x

theorem Dist.of_mem {ls : List Int} {last l : Int} (hl : l ∈ ls) : Dist ls last l := fun x h0 h1 h2 h3 =>
  ⟨.step (.refl x) hl (.inl rfl) h2 h1, .step (.refl _) hl (.inr (by omega)) h0 h3⟩

theorem Dist.zero {ls : List Int} {last : Int} : Dist ls last 0 := fun x _ _ _ _ => by
  rw [Int.add_zero]
  exact ⟨.refl x, .refl x⟩

theorem Dist.sub {ls : List Int} {last s t : Int} (hs : Dist ls last s) (ht : Dist ls last t) (h0 : 0 ≤ t) (hts : t ≤ s) (h : s + t ≤ last) : Dist ls last (s - t) := by
  intro x x0 x1 x2 x3
  by_cases c : x + s ≤ last
  · have a := hs x x0 c (by omega) x3
    have b := ht (x + (s - t)) x2 (by omega) (by omega) x1
    have e : x + (s - t) + t = x + s := by omega
    rw [e] at b
    exact ⟨a.1.trans b.2, b.1.trans a.2⟩
  · have a := ht (x - t) (by omega) (by omega) (by omega) (by omega)
    have b := hs (x - t) (by omega) (by omega) (by omega) (by omega)
    have e1 : x - t + t = x := by omega
    have e2 : x - t + s = x + (s - t) := by omega
    rw [e1] at a
    rw [e2] at b
    exact ⟨a.2.trans b.1, b.2.trans a.1⟩

theorem Dist.mod {ls : List Int} {last : Int} {t : Nat} (ht : Dist ls last t) (t0 : 0 < t) : ∀ s : Nat, Dist ls last s → (s : Int) + t ≤ last → Dist ls last ((s % t : Nat) : Int) := by
  intro s
  induction s using Nat.strongRecOn with
  | _ s ih =>
    intro hs h
    by_cases c : t ≤ s
    · have q := Dist.sub hs ht (by omega) (by omega) h
      have e : (s : Int) - (t : Int) = ((s - t : Nat) : Int) := by omega
      rw [e] at q
      have r := ih (s - t) (by omega) q (by omega)
      rw [Nat.mod_eq_sub_mod c]
      exact r
    · rw [Nat.mod_eq_of_lt (by omega)]
      exact hs

theorem Dist.gcd {ls : List Int} {last : Int} : ∀ (t s : Nat), Dist ls last t → Dist ls last s → (s : Int) + t ≤ last → Dist ls last ((Nat.gcd t s : Nat) : Int) := by
  intro t
  induction t using Nat.strongRecOn with
  | _ t ih =>
    intro s ht hs h
    by_cases c : t = 0
    · subst c
      rw [Nat.gcd_zero_left]
      exact hs
    · have hp : 0 < t := by omega
      rw [Nat.gcd_rec]
      have hm := Nat.mod_lt s hp
      have q := ih (s % t) hm t (Dist.mod ht hp s hs h) ht (by
        have : s % t ≤ s := Nat.mod_le s t
        omega)
      exact q

theorem Dist.mul {ls : List Int} {last : Int} {g : Nat} (hg : Dist ls last g) : ∀ k : Nat, ((k * g : Nat) : Int) ≤ last → Conn ls last 0 ((k * g : Nat) : Int) := by
  intro k
  induction k with
  | zero =>
    intro _
    rw [Nat.zero_mul]
    exact .refl _
  | succ k ih =>
    intro h
    have e : (((k + 1) * g : Nat) : Int) = ((k * g : Nat) : Int) + (g : Int) := by
      rw [Nat.succ_mul]
      omega
    rw [e] at h ⊢
    exact (ih (by omega)).trans (hg _ (by omega) h (by omega) (by omega)).1

/-- the common divisor, as both programs fold it -/
def gcdL (ls : List Int) : Nat := ls.foldl (fun g l => Nat.gcd l.natAbs g) 0

theorem foldl_gcd_dvd (ls : List Int) : ∀ g : Nat, (ls.foldl (fun g l => Nat.gcd l.natAbs g) g) ∣ g ∧ ∀ l ∈ ls, ((ls.foldl (fun g l => Nat.gcd l.natAbs g) g : Nat) : Int) ∣ l := by
  induction ls with
  | nil => exact fun g => ⟨Nat.dvd_refl g, fun l h => by simp at h⟩
  | cons a r ih =>
    intro g
    have q := ih (Nat.gcd a.natAbs g)
    refine ⟨Nat.dvd_trans q.1 (Nat.gcd_dvd_right _ _), fun l h => ?_⟩
    rcases List.mem_cons.mp h with rfl | h
    · exact Int.dvd_natAbs.mp (Int.natCast_dvd_natCast.mpr (Nat.dvd_trans q.1 (Nat.gcd_dvd_left _ _)))
    · exact q.2 l h

theorem gcdL_dvd {ls : List Int} {l : Int} (h : l ∈ ls) : ((gcdL ls : Nat) : Int) ∣ l := (foldl_gcd_dvd ls 0).2 l h

theorem Reach.dvd {ls : List Int} {last x : Int} (h : Reach ls last x) : ((gcdL ls : Nat) : Int) ∣ x := by
  induction h with
  | zero => exact Int.dvd_zero _
  | step _ hl e _ _ ih =>
    rcases e with rfl | rfl
    · exact Int.dvd_add ih (gcdL_dvd hl)
    · exact Int.dvd_sub ih (gcdL_dvd hl)

theorem Reach.range {ls : List Int} {last x : Int} (hl : 0 ≤ last) (h : Reach ls last x) : 0 ≤ x ∧ x ≤ last := by
  cases h with
  | zero => exact ⟨Int.le_refl _, hl⟩
  | step _ _ _ h0 h1 => exact ⟨h0, h1⟩

/-- the sum of any two of some lengths, at two places, is at most n -/
def Pairs (ls : List Int) (n : Int) : Prop := ls.Pairwise fun a b => a + b ≤ n

theorem fold_dist {all : List Int} {last : Int} : ∀ (ls : List Int) (g : Nat), (∀ l ∈ ls, l ∈ all ∧ 0 < l) → Dist all last g → ls.Pairwise (fun a b => a + b ≤ last) → (g = 0 ∨ ∃ d : Int, (g : Int) ≤ d ∧ ∀ l ∈ ls, d + l ≤ last) →
    Dist all last ((ls.foldl (fun g l => Nat.gcd l.natAbs g) g : Nat) : Int) := by
  intro ls
  induction ls with
  | nil => exact fun g _ h _ _ => h
  | cons a r ih =>
    intro g hm hg hp hd
    have ha := hm a List.mem_cons_self
    have ea : ((a.natAbs : Nat) : Int) = a := by omega
    have da : Dist all last ((a.natAbs : Nat) : Int) := by rw [ea]; exact Dist.of_mem ha.1
    obtain ⟨hp1, hp2⟩ := List.pairwise_cons.mp hp
    have hle : ((Nat.gcd a.natAbs g : Nat) : Int) ≤ a := by
      have : Nat.gcd a.natAbs g ≤ a.natAbs := Nat.le_of_dvd (by omega) (Nat.gcd_dvd_left _ _)
      omega
    refine ih _ (fun l h => hm l (List.mem_cons_of_mem _ h)) ?_ hp2 (.inr ⟨a, hle, hp1⟩)
    rcases hd with rfl | ⟨d, h1, h2⟩
    · show Dist all last ((Nat.gcd a.natAbs 0 : Nat) : Int)
      rw [Nat.gcd_zero_right]
      exact da
    · have := h2 a List.mem_cons_self
      exact Dist.gcd _ _ da hg (by omega)

/-- THE LAW: from where any two lengths have room, the common divisor alone counts -/
theorem reach_iff {ls : List Int} {last : Int} (hl : 0 ≤ last) (hpos : ∀ l ∈ ls, 0 < l) (hp : ls.Pairwise (fun a b => a + b ≤ last)) : Reach ls last last ↔ ((gcdL ls : Nat) : Int) ∣ last := by
  refine ⟨fun h => h.dvd, fun h => ?_⟩
  have D : Dist ls last ((gcdL ls : Nat) : Int) := fold_dist ls 0 (fun l h => ⟨h, hpos l h⟩) (by simpa using Dist.zero) hp (.inl rfl)
  obtain ⟨k, hk⟩ := h
  have e : last = ((k.toNat * gcdL ls : Nat) : Int) := by
    by_cases c : 0 ≤ k
    · have : ((k.toNat : Nat) : Int) = k := by omega
      rw [Int.natCast_mul, this, Int.mul_comm]
      exact hk
    · have h1 : ((gcdL ls : Nat) : Int) * k ≤ 0 := Int.mul_nonpos_of_nonneg_of_nonpos (by omega) (by omega)
      have h0 : last = 0 := by omega
      have k0 : k.toNat = 0 := by omega
      rw [k0, Nat.zero_mul, h0]
      rfl
  have c := Dist.mul D k.toNat (by omega)
  rw [← e] at c
  exact Reach.zero.conn c

theorem Reach.mono {ls ms : List Int} {last x : Int} (h : Reach ls last x) (hs : ∀ l ∈ ls, l ∈ ms) : Reach ms last x := by
  induction h with
  | zero => exact .zero
  | step _ hl e h0 h1 ih => exact .step ih (hs _ hl) e h0 h1

/-! ### the greatest two of a sorted row -/
theorem pair_le {x y a b : Int} {s rest : List Int} (hp : (x :: y :: rest).Perm (s ++ [b, a])) (hs : (s ++ [b, a]).Pairwise (· ≤ ·)) : x + y ≤ b + a := by
  have hsp := List.pairwise_append.mp hs
  have hba : b ≤ a := by
    have := hsp.2.1
    simp at this
    exact this
  have hsb : ∀ z ∈ s, z ≤ b := fun z hz => hsp.2.2 z hz b (by simp)
  have hx : x ∈ s ++ [b, a] := hp.mem_iff.mp List.mem_cons_self
  have hy : y ∈ s ++ [b, a] := hp.mem_iff.mp (List.mem_cons_of_mem _ List.mem_cons_self)
  have top : ∀ z ∈ s ++ [b, a], z ≤ a := fun z hz => by
    rcases List.mem_append.mp hz with h | h
    · have := hsb z h; omega
    · simp at h
      rcases h with rfl | rfl <;> omega
  have xa := top x hx
  have ya := top y hy
  by_cases c1 : x ≤ b
  · omega
  · by_cases c2 : y ≤ b
    · omega
    · -- both above b: both are a, at two places
      exfalso
      have ex : ∀ z ∈ s ++ [b, a], b < z → z = a := fun z hz hb => by
        rcases List.mem_append.mp hz with h | h
        · have := hsb z h; omega
        · simp at h
          rcases h with rfl | rfl
          · omega
          · rfl
      have e1 := ex x hx (by omega)
      have e2 := ex y hy (by omega)
      rw [e1, e2] at hp
      have q := hp.count_eq a
      have hs0 : s.count a = 0 := List.count_eq_zero.mpr fun h => by have := hsb a h; omega
      have hb : ¬ b = a := by omega
      simp [List.count_append, List.count_cons, hs0, hb] at q

theorem pairs_of_sorted {ls s : List Int} {a b : Int} (hp : (s ++ [b, a]).Perm ls) (hs : (s ++ [b, a]).Pairwise (· ≤ ·)) {n : Int} (hn : b + a ≤ n) : ls.Pairwise fun x y => x + y ≤ n := by
  rw [List.pairwise_iff_forall_sublist]
  intro x y hxy
  obtain ⟨rest, hr⟩ := hxy.exists_perm_append
  have := pair_le ((hp.trans hr).symm) hs
  omega

end M85

namespace M85
/-- what a flood knows: the marks and the spots found -/
structure Good (ls : List Int) (last : Int) (met : List Bool) (found : List Int) : Prop where
  l0 : 0 ≤ last
  len : met.length = last.toNat + 1
  mem : ∀ s : Nat, met[s]? = some true ↔ (s : Int) ∈ found
  rng : ∀ s ∈ found, 0 ≤ s ∧ s ≤ last
  reach : ∀ s ∈ found, Reach ls last s
  zero : (0 : Int) ∈ found
  cnt : found.length = met.count true

theorem count_set_true {l : List Bool} {n : Nat} (h : l[n]? = some false) : (l.set n true).count true = l.count true + 1 := by
  induction l generalizing n with
  | nil => simp at h
  | cons a r ih =>
    cases n with
    | zero =>
      simp at h
      subst h
      simp
    | succ n =>
      simp at h
      simp [List.count_cons, ih h]
      omega

theorem Good.start {ls : List Int} {last : Int} (h : 0 ≤ last) : Good ls last ((List.replicate (last.toNat + 1) false).set 0 true) [0] := by
  refine ⟨h, by simp, fun s => ?_, fun s hs => ?_, fun s hs => ?_, by simp, ?_⟩
  · cases s with
    | zero => simp [List.replicate_succ]
    | succ n =>
      simp [List.replicate_succ, List.getElem?_replicate]
      omega
  · simp at hs; subst hs; exact ⟨Int.le_refl _, h⟩
  · simp at hs; subst hs; exact .zero
  · rw [List.replicate_succ]
    simp [List.count_replicate]

theorem Good.le {ls : List Int} {last : Int} {met : List Bool} {found : List Int} (g : Good ls last met found) : found.length ≤ last.toNat + 1 := by
  rw [g.cnt, ← g.len]
  exact List.count_le_length

theorem Good.at {ls : List Int} {last : Int} {met : List Bool} {found : List Int} (g : Good ls last met found) {t : Int} (h0 : 0 ≤ t) (h1 : t ≤ last) : ∃ b, met[t.toNat]? = some b ∧ (b = true ↔ t ∈ found) := by
  have hl := g.len
  have hlt : t.toNat < met.length := by omega
  refine ⟨met[t.toNat], List.getElem?_eq_getElem hlt, ?_⟩
  have q := g.mem t.toNat
  rw [List.getElem?_eq_getElem hlt] at q
  have e : ((t.toNat : Nat) : Int) = t := by omega
  rw [e] at q
  rw [← q]
  simp

theorem Good.visit {ls : List Int} {last : Int} {met : List Bool} {found : List Int} (g : Good ls last met found) {t : Int} (h0 : 0 ≤ t) (h1 : t ≤ last) (hm : met[t.toNat]? = some false) (hr : Reach ls last t) :
    Good ls last (met.set t.toNat true) (found ++ [t]) := by
  have hl := g.len
  refine ⟨g.l0, by simp [hl], fun s => ?_, fun s hs => ?_, fun s hs => ?_, List.mem_append_left _ g.zero, ?_⟩
  · have q := g.mem s
    rw [List.getElem?_set]
    by_cases c : t.toNat = s
    · rw [if_pos c, if_pos (by omega)]
      simp
      right; omega
    · rw [if_neg c, q]
      simp
      intro e; omega
  · rcases List.mem_append.mp hs with h | h
    · exact g.rng s h
    · simp at h; subst h; exact ⟨h0, h1⟩
  · rcases List.mem_append.mp hs with h | h
    · exact g.reach s h
    · simp at h; subst h; exact hr
  · rw [count_set_true hm, List.length_append, g.cnt]
    rfl

/-- all neighbours by the lengths of ms of the spot x are found -/
def Near (ms : List Int) (last : Int) (found : List Int) (x : Int) : Prop := ∀ l ∈ ms, ∀ y, (y = x + l ∨ y = x - l) → 0 ≤ y → y ≤ last → y ∈ found
/-- .. of the first n spots -/
def Closed (ls : List Int) (last : Int) (found : List Int) (n : Nat) : Prop := ∀ k x, k < n → found[k]? = some x → Near ls last found x

theorem Near.more {ms : List Int} {last : Int} {found : List Int} {x : Int} (h : Near ms last found x) (more : List Int) : Near ms last (found ++ more) x := fun l hl y e h0 h1 => List.mem_append_left _ (h l hl y e h0 h1)
theorem Closed.more {ls : List Int} {last : Int} {found : List Int} {n : Nat} (h : Closed ls last found n) (hn : n ≤ found.length) (more : List Int) : Closed ls last (found ++ more) n := fun k x hk e => by
  rw [List.getElem?_append_left (by omega)] at e
  exact (h k x hk e).more more
theorem Closed.zero {ls : List Int} {last : Int} {found : List Int} : Closed ls last found 0 := fun k x hk _ => absurd hk (by omega)
theorem Closed.succ {ls : List Int} {last : Int} {found : List Int} {n : Nat} {x : Int} (h : Closed ls last found n) (hx : found[n]? = some x) (hn : Near ls last found x) : Closed ls last found (n + 1) := fun k y hk e => by
  by_cases c : k = n
  · subst c
    rw [hx] at e
    cases e
    exact hn
  · exact h k y (by omega) e
theorem Near.nil {last : Int} {found : List Int} {x : Int} : Near [] last found x := fun l hl => by simp at hl
theorem Near.snoc {ms : List Int} {last : Int} {found : List Int} {x l : Int} (h : Near ms last found x) (hp : 0 ≤ x + l → x + l ≤ last → x + l ∈ found) (hm : 0 ≤ x - l → x - l ≤ last → x - l ∈ found) : Near (ms ++ [l]) last found x := fun m hm' y e h0 h1 => by
  rcases List.mem_append.mp hm' with q | q
  · exact h m q y e h0 h1
  · simp at q
    subst q
    rcases e with rfl | rfl
    · exact hp h0 h1
    · exact hm h0 h1

theorem Good.all {ls : List Int} {last : Int} {met : List Bool} {found : List Int} {n : Nat} (g : Good ls last met found) (c : Closed ls last found n) (hn : found.length ≤ n) {x : Int} (h : Reach ls last x) : x ∈ found := by
  induction h with
  | zero => exact g.zero
  | step _ hl e h0 h1 ih =>
    obtain ⟨k, hk⟩ := List.mem_iff_getElem?.mp ih
    have hlt : k < found.length := (List.getElem?_eq_some_iff.mp hk).1
    exact c k _ (by omega) hk _ hl _ e h0 h1
/-- at the end the mark of the last spot tells -/
theorem Good.end {ls : List Int} {last : Int} {met : List Bool} {found : List Int} {n : Nat} (g : Good ls last met found) (c : Closed ls last found n) (hn : found.length ≤ n) : ∃ b, met[last.toNat]? = some b ∧ (b = true ↔ Reach ls last last) := by
  obtain ⟨b, e, q⟩ := g.at g.l0 (Int.le_refl _)
  refine ⟨b, e, q.trans ⟨fun h => g.reach _ h, fun h => g.all c hn h⟩⟩
end M85

/-! Plain law: the multiples of the common divisor that are not reached. -/
namespace M85
open Classical
/-- the i-th multiple -/
def mul (ns : List Int) (i : Nat) : Int := (gcdL ns : Int) + (i : Int) * (gcdL ns : Int)
noncomputable def gap (ns : List Int) (i : Nat) : Bool := decide (¬ Reach ns (mul ns i) (mul ns i))
/-- the gaps among the first so many multiples -/
noncomputable def gapsTo (ns : List Int) (c : Nat) : List Int := ((List.range c).filter (gap ns)).map (mul ns)
noncomputable def gaps (ns : List Int) : List Int := gapsTo ns 121
theorem mul_dvd (ns : List Int) (i : Nat) : (gcdL ns : Int) ∣ mul ns i := ⟨1 + i, by unfold mul; rw [Int.mul_add, Int.mul_one, Int.mul_comm]⟩
theorem reach_mul {ns : List Int} {i : Nat} (hpos : ∀ l ∈ ns, 0 < l) (hp : ns.Pairwise fun a b => a + b ≤ mul ns i) : Reach ns (mul ns i) (mul ns i) := by
  have h0 : 0 ≤ mul ns i := by
    unfold mul
    have : 0 ≤ (i : Int) * (gcdL ns : Int) := Int.mul_nonneg (by omega) (by omega)
    omega
  exact (reach_iff h0 hpos hp).mpr (mul_dvd ns i)
theorem gapsTo_succ (ns : List Int) (c : Nat) : gapsTo ns (c + 1) = gapsTo ns c ++ if Reach ns (mul ns c) (mul ns c) then [] else [mul ns c] := by
  unfold gapsTo
  rw [List.range_succ, List.filter_append, List.map_append]
  congr 1
  by_cases h : Reach ns (mul ns c) (mul ns c)
  · rw [if_pos h]
    simp [gap, h]
  · rw [if_neg h]
    simp [gap, h]
theorem gapsTo_more {ns : List Int} {c : Nat} : ∀ {d : Nat}, c ≤ d → (∀ i, c ≤ i → Reach ns (mul ns i) (mul ns i)) → gapsTo ns d = gapsTo ns c
  | 0, h, _ => by rw [Nat.le_zero.mp h]
  | d + 1, h, r => by
    rcases Nat.lt_or_ge d c with q | q
    · rw [show d + 1 = c by omega]
    · rw [gapsTo_succ, if_pos (r d q), List.append_nil]
      exact gapsTo_more q r
theorem gaps_of {ns : List Int} {c : Nat} (h : c ≤ 121) (r : ∀ i, c ≤ i → Reach ns (mul ns i) (mul ns i)) : gapsTo ns c = gaps ns := (gapsTo_more h r).symm
theorem gaps_mem {ns : List Int} {x : Int} (h : x ∈ gaps ns) : ∃ i, x = mul ns i ∧ ¬ Reach ns (mul ns i) (mul ns i) := by
  obtain ⟨i, hi, rfl⟩ := List.mem_map.mp h
  exact ⟨i, rfl, by simpa [gap] using (List.mem_filter.mp hi).2⟩
theorem dvd_fold {d : Nat} : ∀ (ls : List Int) (g : Nat), d ∣ g → (∀ l ∈ ls, (d : Int) ∣ l) → d ∣ ls.foldl (fun g l => Nat.gcd l.natAbs g) g
  | [], _, h, _ => h
  | l :: ls, g, h, k => dvd_fold ls _ (Nat.dvd_gcd (Int.ofNat_dvd_left.mp (k l (List.mem_cons_self ..))) h) fun z m => k z (List.mem_cons_of_mem _ m)
theorem gcdL_same {ns ms : List Int} (h : ∀ x, x ∈ ns ↔ x ∈ ms) : gcdL ns = gcdL ms :=
  Nat.dvd_antisymm (dvd_fold ms 0 (Nat.dvd_zero _) fun l m => gcdL_dvd ((h l).mpr m)) (dvd_fold ns 0 (Nat.dvd_zero _) fun l m => gcdL_dvd ((h l).mp m))
theorem gaps_same {ns ms : List Int} (h : ∀ x, x ∈ ns ↔ x ∈ ms) : gaps ns = gaps ms := by
  have e1 : mul ns = mul ms := by
    funext i
    unfold mul
    rw [gcdL_same h]
  have e2 : gap ns = gap ms := by
    funext i
    unfold gap
    rw [e1]
    have : Reach ns (mul ms i) (mul ms i) ↔ Reach ms (mul ms i) (mul ms i) := ⟨fun r => r.mono fun x m => (h x).mp m, fun r => r.mono fun x m => (h x).mpr m⟩
    simp [this]
  unfold gaps gapsTo
  rw [e1, e2]
end M85

/-! Sorting of data of any depth, and by an own key function. -/
namespace Rs
open PySem PySem.W PyProof.Rows
theorem nsOne {h : Heap} {L : Addr} {m m' : Str → Option Value} : h.Ns L m → h.Ns L m' → m = m' := by
  rintro ⟨o, es, ep, e, d, _, r⟩ ⟨o', es', ep', e', d', _, r'⟩
  have : o = o' := Option.some.inj (e.symm.trans e')
  subst this
  rw [d] at d'
  injection d' with d1 d2
  subst d1
  funext x
  exact (r x).symm.trans (r' x)
theorem each_split {α β γ : Type} {R : α → γ → Prop} {S : γ → β → Prop} : ∀ {as : List α} {bs : List β}, EachIs (fun a b => ∃ c, R a c ∧ S c b) as bs → ∃ cs : List γ, EachIs R as cs ∧ EachIs S cs bs
  | _, _, .nil => ⟨[], .nil, .nil⟩
  | _, _, .cons ⟨c, h1, h2⟩ t => let ⟨cs, q1, q2⟩ := each_split t; ⟨c :: cs, .cons h1 q1, .cons h2 q2⟩
theorem each_get {α β : Type} {R : α → β → Prop} : ∀ {as : List α} {bs : List β}, EachIs R as bs → ∀ {i : Nat} {a : α}, as[i]? = some a → ∃ b, bs[i]? = some b ∧ R a b
  | _, _, .nil, _, _, h => by simp at h
  | _, _, .cons h t, 0, _, e => by
    simp at e
    subst e
    exact ⟨_, rfl, h⟩
  | _, _, .cons h t, i + 1, _, e => each_get t (i := i) (by simpa using e)
end Rs
namespace Rs
open PySem PySem.Spec PyProof.Rows L2 PySem.W
theorem each_vals {R : V → β → Prop} : ∀ {xs : List V} {us : List Value} {bs : List β}, Vals xs us → EachIs R xs bs → EachIs (fun u b => ∃ x, RelV x u ∧ R x b) us bs
  | _, _, _, .nil, .nil => .nil
  | _, _, _, .cons r rr, .cons h t => .cons ⟨_, r, h⟩ (each_vals rr t)
theorem vals_each {R : V → β → Prop} : ∀ {us : List Value} {bs : List β}, EachIs (fun u b => ∃ x, RelV x u ∧ R x b) us bs → ∃ xs : List V, Vals xs us ∧ EachIs R xs bs
  | _, _, .nil => ⟨[], .nil, .nil⟩
  | _, _, .cons ⟨x, r, h⟩ t => let ⟨xs, q1, q2⟩ := vals_each t; ⟨x :: xs, .cons r q1, .cons h q2⟩
/-- what is asked of the keys: alike, all tuples with an item or none a tuple, not deep -/
structure Keys (ds : List PyData) : Prop where
  al : AllAlike ds
  so : Sortable ds
  dp : ∀ d ∈ ds, d.depth ≤ 50
section
variable {X : Cx}
/-- sorted(xs), data of any depth -/
def rSortD (K : PySem.W.Frag) : List V → Hp → VK → Prop := fun vs H Q => ∃ (a : Addr) (xs : List V) (β : Type) (bs : List β) (k : β → PyData) (R : V → β → Prop), vs = [V.ref a] ∧ SqL K H a xs ∧ EachIs (fun x b => Dp K H x (k b) ∧ R x b) xs bs ∧ Keys (bs.map k) ∧
  ∀ (out : List V) (p : Addr) (G : Hp), EachIs (fun x b => Dp K H x (k b) ∧ R x b) out (bs.mergeSort (dataLe false k)) → H p = none → G p = some (.lst out) → Same H G → Q (.ref p) G
theorem cr_sortD (hu : X.A.units + 64 < cLine) : CallR X (.builtin "sorted") (rSortD X.K) := by
  intro pins s σ H vs us Q I r h
  obtain ⟨a, xs, β, bs, k, R, rfl, hs, he, hk, q⟩ := h
  obtain ⟨its, rv, hl, hz⟩ := I.list hs
  obtain rfl := Vals.ref1 r
  have hz' : its.length ≤ sizeLine := by rw [← rv.length]; exact hz
  have h1 : EachIs (fun u b => ∃ x, RelV x u ∧ (Dp X.K H x (k b) ∧ R x b)) its bs := each_vals rv he
  have h2 : EachIs (fun u b => ∃ as, Reads s.heap u (k b) as) its bs := h1.mono fun u b ⟨x, rx, hx, _⟩ => Dp.reads I (k b) x u hx rx
  have h3 : EachIs (fun u d => ∃ as, Reads (sortingHeap (copyHeap s.heap its) (s.heap.objs.size + 1) its) u d as) its (bs.map k) := by
    have : ∀ {as : List Value} {bs : List β}, EachIs (fun u b => ∃ as, Reads s.heap u (k b) as) as bs → EachIs (fun u d => ∃ as, Reads (sortingHeap (copyHeap s.heap its) (s.heap.objs.size + 1) its) u d as) as (bs.map k) := by
      intro as bs h
      induction h with
      | nil => exact .nil
      | cons h _ ih =>
        obtain ⟨as, r⟩ := h
        exact .cons ⟨as, PyProof.Rows.Reads.keeps (fun b o e => sorting_copy_old e) r⟩ ih
    exact this h2
  have SA : SortsAt X.prog X.w X.A.in1.in1 { s with heap := sortingHeap (copyHeap s.heap its) (s.heap.objs.size + 1) its } (dataKind (sortingHeap (copyHeap s.heap its) (s.heap.objs.size + 1) its) (bs.map k)) its := SortsAt.data (s := { s with heap := sortingHeap (copyHeap s.heap its) (s.heap.objs.size + 1) its }) h3 hk.al hk.so fun d hd => by
    have := hk.dp d hd
    simp only [units_in1]
    omega
  refine sorted_vals hl.isList SA hz' ?_
  have out := sortVals_each (κ := dataKind (sortingHeap (copyHeap s.heap its) (s.heap.objs.size + 1) its) (bs.map k)) (rev := false) (fun b => keyToks (k b)) h1 (each_of_map k (each_keys hk.al h3))
  obtain ⟨ys, ry, hy⟩ := vals_each out
  obtain ⟨ep, he'⟩ := PyProof.Rows.sortedAll_at s.heap its (sortVals (dataKind (sortingHeap (copyHeap s.heap its) (s.heap.objs.size + 1) its) (bs.map k)) false its its).toArray
  have hlen : ys.length ≤ sizeLine := by
    rw [ry.length, sortVals_length false rfl]
    exact hz'
  have hf := I.hok.fresh (Nat.le_succ s.heap.objs.size)
  exact ⟨.ref _, upd H (s.heap.objs.size + 1) (.lst ys), I.laid (t' := s.toks) (fun _ _ => PyProof.Rows.sortedAll_old) (Nat.le_succ _) ⟨hlen, _, ep, ry, he'⟩, rfl, q ys _ _ hy hf upd_same (Rd.same_upd hf)⟩
end
end Rs
namespace Rs
open PySem PySem.Spec PyProof.Rows L2 PySem.W
theorem room2 {k : Nat} {A : Around} (r : Room (k + 1) A) : Room k A.in1.in1 :=
  ⟨r.hd, by have := r.dp; show A.depth + 3 * k + 5 < _; omega, by have := r.un; show A.units + 1 + 1 + 16 * k + 200 < _; omega⟩
theorem each_imp {α β : Type} {R S : α → β → Prop} (h : ∀ a b, R a b → S a b) : ∀ {as : List α} {bs : List β}, EachIs R as bs → EachIs S as bs
  | _, _, .nil => .nil
  | _, _, .cons q t => .cons (h _ _ q) (each_imp h t)
theorem each_reads {X : Cx} {pins : List (Addr × Obj)} {σ : L2.St} {H : Hp} {s : Shared} (I : Inv X pins σ H s) {β : Type} {k : β → PyData} : ∀ {us : List Value} {vs : List V} {bs : List β}, Vals vs us → EachIs (fun x b => Dp X.K H x (k b)) vs bs → EachIs (fun u d => ∃ as, Reads s.heap u d as) us (bs.map k)
  | _, _, _, .nil, .nil => .nil
  | _, _, _, .cons r rr, .cons h t => .cons (Dp.reads I _ _ _ h r) (each_reads I rr t)
mutual
theorem Dp.same {K : PySem.W.Frag} {H H' : Hp} (s : Same H H') : ∀ (d : PyData) (v : V), Dp K H v d → Dp K H' v d
  | .none, _, h => by cases h; exact .non
  | .bool b, _, h => by cases h; exact .bl b
  | .int i, _, h => by cases h; exact .int i
  | .str x, _, h => by cases h; exact .str x
  | .list ds, _, h => by
    cases h with
    | lst hs ha => exact .lst (s.seq hs) (Dp.sameAll s ds _ ha)
  | .tuple ds, _, h => by
    cases h with
    | tup hs ha => exact .tup (Ru.same_tup s hs) (Dp.sameAll s ds _ ha)
  | .dict _, _, h => by cases h
theorem Dp.sameAll {K : PySem.W.Frag} {H H' : Hp} (s : Same H H') : ∀ (ds : List PyData) (vs : List V), DpAll K H vs ds → DpAll K H' vs ds
  | [], _, h => by cases h; exact .nil
  | d :: ds, _, h => by
    cases h with
    | cons h1 h2 => exact .cons (Dp.same s d _ h1) (Dp.sameAll s ds _ h2)
end
theorem each_snocK {β : Type} {R : V → β → Prop} {x : V} {y : β} (hxy : R x y) : ∀ {as : List V} {bs : List β}, EachIs R as bs → EachIs R (as ++ [x]) (bs ++ [y])
  | _, _, .nil => .cons hxy .nil
  | _, _, .cons h t => .cons h (each_snocK hxy t)
def rSortK (f : Addr) (sp : Sp) (K : PySem.W.Frag) : List V → List V → Hp → VK → Prop := fun vs zs H Q => ∃ (a : Addr) (xs : List V) (β : Type) (bs : List β) (k : β → PyData) (R : V → β → Prop), vs = [V.ref a] ∧ zs = [V.ref f] ∧ SqL K H a xs ∧ EachIs R xs bs ∧ Keys (bs.map k) ∧
  (∀ x b H1, Same H H1 → b ∈ bs → R x b → sp [x] H1 (fun v H2 => Same H1 H2 ∧ Dp K H2 v (k b)) (fun _ _ _ => False)) ∧
  ∀ (out : List V) (p : Addr) (G : Hp), EachIs R out (bs.mergeSort (dataLe false k)) → H p = none → G p = some (.lst out) → Same H G → Q (.ref p) G
section
variable {X : Cx} {f : Addr} {fd : FuncData} {ps : List Str} {sp : Sp} {k : Nat}
theorem cr_sortK (F : FnOk X.prog X.w X.K X.mg X.base CX0 k f fd ps sp) (hr : Room (k + 1) X.A) (hb : Binds X.K fd ps []) : CallRK X (.builtin "sorted") [Str.ofString "key"] (rSortK f sp X.K) := by
  intro pins s σ H vs zs us ws Q I r rz h
  obtain ⟨a, xs, β, bs, key, R, rfl, rfl, hs, he, hk, hkey, q⟩ := h
  obtain ⟨its, rv, hl, hz⟩ := I.list hs
  obtain rfl := Vals.ref1 r
  obtain rfl := Vals.ref1 rz
  have hz' : its.length ≤ sizeLine := by rw [← rv.length]; exact hz
  have hbl : its.length = bs.length := by rw [← rv.length, he.length]
  refine sorted_of_sort hl.isList hz' (ksk_s1 _ _) (fun _ => ksk_l1 _ _) fun E' => ?_
  show wpAny _ _ (Builtin.«list.sort» ⟨[.ref (s.heap.objs.size + 1)], [(Str.ofString "key", .ref f)]⟩) _ E' { s with heap := copyHeap s.heap its }
  rw [ksk_t1]
  unfold ksk_tree
  have hcs : (copyHeap s.heap its).objs.size = s.heap.objs.size + 2 := by
    unfold copyHeap
    rw [size_push', Heap.size_update, size_push']
  have ho := copyHeap_at s.heap its
  refine wpAny_bind (listItems_at ho rfl ?_)
  refine wpAny_bind (listUpdate_at ho rfl ?_ (by rw [List.size_toArray]; exact hz') (Nat.zero_le _))
  obtain ⟨e1, ho1⟩ : ∃ e1, ((copyHeap s.heap its).update (s.heap.objs.size + 1) (Obj.mapSeq fun _ => #[])).get? (s.heap.objs.size + 1) = some (seqObj "list" #[] e1) := ⟨_, get?_update_seq ho fun _ => #[]⟩
  refine wpAny_bind (seqEpoch_at ho1 rfl ?_)
  refine wpAny_bind (wpAny_newTuple ?_ (by show its.length ≤ _; exact hz'))
  refine wpAny_bind (wpAny_newList ?_ (Nat.zero_le _))
  refine wpAny_holding ?_
  have hks : (((copyHeap s.heap its).update (s.heap.objs.size + 1) (Obj.mapSeq fun _ => #[])).push (seqObj "tuple" its.toArray 0)).objs.size = s.heap.objs.size + 3 := by
    rw [size_push', Heap.size_update, hcs]
  have hoa : (sortingHeap (copyHeap s.heap its) (s.heap.objs.size + 1) its).get? (s.heap.objs.size + 1) = some (seqObj "list" #[] e1) :=
    Heap.get?_push_of_some _ (Heap.get?_push_of_some _ ho1)
  have hok : (sortingHeap (copyHeap s.heap its) (s.heap.objs.size + 1) its).get? (s.heap.objs.size + 3) = some (seqObj "list" #[] 0) := by
    rw [← hks]
    exact Heap.get?_push_size _ rfl
  show wpAny _ _ (ksk_rest (s.heap.objs.size + 1) (.ref f) false its.toArray e1 (.ref (((copyHeap s.heap its).update (s.heap.objs.size + 1) (Obj.mapSeq fun _ => #[])).push (seqObj "tuple" its.toArray 0)).objs.size)) _ E' { s with heap := sortingHeap (copyHeap s.heap its) (s.heap.objs.size + 1) its }
  rw [hks]
  have hk0 : ∀ b o, s.heap.get? b = some o → (sortingHeap (copyHeap s.heap its) (s.heap.objs.size + 1) its).get? b = some o := fun b o q => sorting_copy_old q
  generalize sortingHeap (copyHeap s.heap its) (s.heap.objs.size + 1) its = g0 at hoa hok hk0
  have old : ∀ b o, s.heap.get? b = some o → b < s.heap.objs.size := fun b o e => Heap.lt_size e
  have nL : @LT.lt Nat _ X.env.locals s.heap.objs.size := I.lt
  have up : ∀ c i : Nat, c < s.heap.objs.size → c ≠ s.heap.objs.size + i := fun c i h => by omega
  have pu : ∀ c i : Nat, c < s.heap.objs.size → s.heap.objs.size + i ≠ c := fun c i h => by omega
  have le0 : ∀ i : Nat, X.s_0.heap.objs.size ≤ s.heap.objs.size + i := fun i => Nat.le_trans I.sz (Nat.le_add_right _ _)
  have n13 : ¬ s.heap.objs.size + 1 = s.heap.objs.size + 3 := by omega
  have n31 : ¬ s.heap.objs.size + 3 = s.heap.objs.size + 1 := by omega
  have nC : ∀ x c, X.env.cells.lookup x = some c → c < s.heap.objs.size := fun x c e => by
    obtain ⟨v, o, ho, _⟩ := I.cell x c e
    exact Heap.lt_size ho
  have nP : ∀ p ∈ X.pn ++ pins, p.1 < s.heap.objs.size := fun p hp => Heap.lt_size (I.pin p hp).1
  have sz := I.sz
  unfold ksk_rest
  refine wpAny_bind (wpAny_rule ?_)
  first
    | rw [List.forIn_toArray]
    | (rw [← Array.forIn_toList]; simp only [List.toList_toArray])
    | rw [← Array.forIn_toList]
  refine wpAny_bind (ksk_fold (fun i s' => ∃ (Hc : Hp) (ks : List V) (kA : Array Value) (e : Nat), Inv X (pins ++ [(s.heap.objs.size + 3, seqObj "list" kA e), (s.heap.objs.size + 1, seqObj "list" #[] e1)]) σ Hc s' ∧ Same H Hc ∧ Vals ks kA.toList ∧
      EachIs (fun x b => Dp X.K Hc x (key b)) ks (bs.take i)) its 0 { s with heap := g0 } ?start ?step ?done)
  case start =>
    have I1 : Inv X pins σ H { s with heap := g0 } := I.kept (t' := s.toks) hk0
    have hf1 := I.hok.fresh (a := s.heap.objs.size + 1) (by omega)
    have hf3 := I.hok.fresh (a := s.heap.objs.size + 3) (by omega)
    refine ⟨H, [], #[], 0, I1.pins_of fun p hp => ?_, Same.refl _, .nil, by rw [List.take_zero]; exact .nil⟩
    rcases List.mem_append.mp hp with hp | hp
    · exact I1.pin p (List.mem_append_right _ hp)
    · rcases List.mem_cons.mp hp with rfl | hp
      · exact ⟨hok, hf3, pu _ 3 nL, I.nofs (by show _ ≤ s.heap.objs.size + 3; omega), fun v => by simp [seqObj]⟩
      · rw [List.mem_singleton.mp hp]
        exact ⟨hoa, hf1, pu _ 1 nL, I.nofs (by show _ ≤ s.heap.objs.size + 1; omega), fun v => by simp [seqObj]⟩
  case step =>
    rintro j u s' hu ⟨Hc, ks, kA, e, I', sm, rk, hke⟩
    simp only [Nat.zero_add] at hke ⊢
    have hj : j < its.length := (List.getElem?_eq_some_iff.mp hu).1
    obtain ⟨b, hbj⟩ : ∃ b, bs[j]? = some b := ⟨_, List.getElem?_eq_getElem (by omega)⟩
    obtain ⟨b', hbj', x, rx, hR⟩ := each_get (each_vals rv he) hu
    obtain rfl : b' = b := by rw [hbj] at hbj'; exact (Option.some.inj hbj').symm
    have hkl : kA.size ≤ its.length := by
      have h1 : ks.length = kA.size := rk.length.trans (by simp)
      have h2 := hke.length
      rw [List.length_take] at h2
      rw [← h1, h2]
      exact Nat.le_trans (Nat.min_le_right _ _) (Nat.le_of_eq hbl.symm)
    have hsp := hkey x b' Hc sm (List.mem_of_getElem? hbj) hR
    have run := F.run X.A.in1.in1 X.stack s' Hc ⟨[u], []⟩ [u] [x] _ _ (room2 hr) I'.env0.in1.in1 (by
      have := hb s' [u] I'.kIn (by have := F.len _ _ _ _ hsp; simpa using this)
      simpa using this) (.cons rx .nil) hsp
    refine wpAny_bind (wpAny_attempt (wpAny_mono (Q := fun v s2 => EP X (pins ++ [(s.heap.objs.size + 3, seqObj "list" kA e), (s.heap.objs.size + 1, seqObj "list" #[] e1)]) σ (fun v H2 => Same Hc H2 ∧ Dp X.K H2 v (key b')) v s2) (E := fun _ _ => False) (wpAny_call (codeAny_mono run fun r s2 hq => ?_)) (fun v s2 he => ?_) fun _ _ hF => hF.elim))
    · cases r with
      | error e => exact hq
      | ok fl =>
        cases fl with
        | ret u => exact I'.after hq
        | next => exact False.elim hq
        | brk => exact False.elim hq
        | cont => exact False.elim hq
    · obtain ⟨kv, H2, I2, rkv, sm2, hd⟩ := he
      have pk := I2.pin (s.heap.objs.size + 3, seqObj "list" kA e) (List.mem_append_right _ (List.mem_append_right _ (.head _)))
      have pa := I2.pin (s.heap.objs.size + 1, seqObj "list" #[] e1) (List.mem_append_right _ (List.mem_append_right _ (.tail _ (.head _))))
      have s1 := Heap.SameBut.update s2.heap (s.heap.objs.size + 3) (Obj.mapSeq (·.push v))
      obtain ⟨c2, hc2⟩ : ∃ c2, (s2.heap.update (s.heap.objs.size + 3) (Obj.mapSeq (·.push v))).get? (s.heap.objs.size + 3) = some (seqObj "list" (kA.push v) c2) := ⟨_, get?_update_seq pk.1 (·.push v)⟩
      have I3 : Inv X pins σ H2 s2 := I2.pins_of fun p hp => I2.pin p (List.mem_append_right _ (List.mem_append_left _ hp))
      have I4 : Inv X pins σ H2 { s2 with heap := s2.heap.update (s.heap.objs.size + 3) (Obj.mapSeq (·.push v)), toks := s2.toks } := I3.turned (it := s.heap.objs.size + 3) (fun b o n q => (s1.2 b n).trans q) pk.2.1 pk.2.2.1 (.inr (le0 3)) (fun x c q => up _ 3 (nC x c q)) fun p hp => up _ 3 (nP p hp)
      try dsimp only
      refine wpAny_bind (listUpdate_at pk.1 rfl ?_ (Nat.le_trans hkl hz') (Nat.le_trans (Nat.le_of_eq (Array.size_push ..)) (Nat.succ_le_succ (Nat.le_trans hkl hz'))))
      refine wpAny_pure ⟨rfl, H2, ks ++ [kv], kA.push v, c2, I4.pins_of fun p hp => ?_, sm.trans sm2, ?_, ?_⟩
      · rcases List.mem_append.mp hp with hp | hp
        · exact I4.pin p (List.mem_append_right _ hp)
        · rcases List.mem_cons.mp hp with rfl | hp
          · exact ⟨hc2, pk.2.1, pk.2.2.1, pk.2.2.2.1, fun v => by simp [seqObj]⟩
          · rw [List.mem_singleton.mp hp]
            exact ⟨(s1.2 _ n13).trans pa.1, pa.2⟩
      · rw [Array.toList_push]
        exact rk.append (.cons rkv .nil)
      · have ek : bs.take (j + 1) = bs.take j ++ [b'] := by rw [List.take_add_one, hbj]; simp
        rw [ek]
        exact each_snocK (R := fun x b => Dp X.K H2 x (key b)) hd (each_imp (R := fun x b => Dp X.K Hc x (key b)) (fun x b q => Dp.same sm2 _ _ q) hke)
  case done =>
    rintro s' ⟨Hc, ks, kA, e, I', sm, rk, hke⟩
    have hke' : EachIs (fun x b => Dp X.K Hc x (key b)) ks bs := by
      have e3 : bs.take (0 + its.length) = bs := List.take_of_length_le (by omega)
      rw [e3] at hke
      exact hke
    have pk := I'.pin (s.heap.objs.size + 3, seqObj "list" kA e) (List.mem_append_right _ (List.mem_append_right _ (.head _)))
    have pa := I'.pin (s.heap.objs.size + 1, seqObj "list" #[] e1) (List.mem_append_right _ (List.mem_append_right _ (.tail _ (.head _))))
    have hsz : kA.size = its.length := by
      have h1 : ks.length = kA.size := rk.length.trans (by simp)
      have h2 := hke'.length
      exact h1.symm.trans (h2.trans hbl.symm)
    have rd := each_reads I' rk hke'
    try dsimp only
    refine wpAny_bind (listItems_at pk.1 rfl ?_)
    have SA : SortsAt X.prog X.w X.A.in1.in1 s' (dataKind s'.heap (bs.map key)) kA.toList := SortsAt.data rd hk.al hk.so fun d hd => by
      have h1 := hk.dp d hd
      have h2 := hr.un
      simp only [units_in1]
      omega
    obtain ⟨m, Fr0⟩ := I'.fr
    have hiB : ∀ i : Nat, X.base.get? (s.heap.objs.size + i) = none := fun i => by
      cases q : X.base.get? (s.heap.objs.size + i) with
      | none => rfl
      | some o =>
        exact absurd (Nat.lt_of_le_of_lt (Nat.le_add_right _ _) (Heap.lt_size (I.bk _ o q))) (Nat.lt_irrefl _)
    let rs := (allNews X.base s'.heap X.env.locals).filter fun p => decide (p.1 ≠ s.heap.objs.size + 3 ∧ p.1 ≠ s.heap.objs.size + 1)
    have hrs : ∀ p ∈ rs, p.1 ≠ s.heap.objs.size + 3 ∧ p.1 ≠ s.heap.objs.size + 1 := fun p hp => of_decide_eq_true (List.mem_filter.mp hp).2
    have N0 : News X.base X.env.locals s'.heap (rs ++ [(s.heap.objs.size + 3, seqObj "list" kA e), (s.heap.objs.size + 1, seqObj "list" #[] e1)]) := fun p hp => by
      rcases List.mem_append.mp hp with hp | hp
      · exact news_all p (List.mem_filter.mp hp).1
      · rcases List.mem_cons.mp hp with rfl | hp
        · exact ⟨pk.1, pk.2.2.1, hiB 3⟩
        · rw [List.mem_singleton.mp hp]
          exact ⟨pa.1, pa.2.2.1, hiB 1⟩
    refine key_end (κ := dataKind s'.heap (bs.map key)) Fr0 N0 n31 (fun p hp => (hrs p hp).1) (fun p hp => (hrs p hp).2) SA hsz hz' fun h' tk ep F' N' => ⟨rfl, ?_⟩
    have kp : ∀ c o, c ≠ X.env.locals → c ≠ s.heap.objs.size + 3 → c ≠ s.heap.objs.size + 1 → s'.heap.get? c = some o → h'.get? c = some o := fun c o n0 n1 n2 q => by
      cases z : X.base.get? c with
      | some u =>
        have := I'.bk c u z
        rw [q] at this
        cases this
        exact F'.keep c _ z
      | none => exact (N' (c, o) (List.mem_cons_of_mem _ (List.mem_filter.mpr ⟨mem_allNews n0 z q, decide_eq_true ⟨n1, n2⟩⟩))).1
    have ha' := (N' _ List.mem_cons_self).1
    have out := sortVals_each (κ := dataKind s'.heap (bs.map key)) (rev := false) (fun b => keyToks (key b)) (each_vals rv he) (each_of_map key (each_keys hk.al rd))
    obtain ⟨ys, ry, hy⟩ := vals_each out
    have hlen : ys.length ≤ sizeLine := by
      rw [ry.length, sortVals_length false (by rw [Array.length_toList]; exact hsz)]
      exact hz'
    have I3 : Inv X pins σ Hc s' := I'.pins_of fun p hp => I'.pin p (List.mem_append_right _ (List.mem_append_left _ hp))
    have fin : Inv X pins σ (upd Hc (s.heap.objs.size + 1) (.lst ys)) { s' with heap := h', gens := s'.gens, drawn := s'.drawn, toks := tk } := by
      have hna : Hc (s.heap.objs.size + 1) = none := pa.2.1
      have hnk : Hc (s.heap.objs.size + 3) = none := pk.2.1
      refine I3.step (ch := [s.heap.objs.size + 3, s.heap.objs.size + 1]) (fun b hb => ?_) (fun b o nl _ hc q _ => kp b o nl (fun z => hc (by simp [z])) (fun z => hc (by simp [z])) q) (fun b o nl _ hc q _ => ⟨o.slots, kp b o nl (fun z => hc (by simp [z])) (fun z => hc (by simp [z])) q⟩)
        (fun b o hc q n => ?_) (fun b o hc q => ?_) (fun b xs q => by rw [upd_ne (ne_of_none q hna)]; exact q) (fun b o u q => by rw [upd_ne (ne_of_none q hna)]; exact q) (fun b ps q => ⟨#[], by rw [upd_ne (ne_of_none q hna), q]; simp⟩) (fun m hm => ?_) (fun b u q => ?_) I3.bare
      · have : b = s.heap.objs.size + 3 ∨ b = s.heap.objs.size + 1 := by simpa using hb
        rcases this with rfl | rfl
        · exact ⟨.inr (le0 3), pu _ 3 nL, fun x c q => up _ 3 (nC x c q), fun p hp => up _ 3 (nP p hp)⟩
        · exact ⟨.inr (le0 1), pu _ 1 nL, fun x c q => up _ 1 (nC x c q), fun p hp => up _ 1 (nP p hp)⟩
      · rw [upd_ne (fun z => hc (by simp [z]))]
        exact n
      · by_cases hbl : b = X.env.locals
        · obtain ⟨o', _, _, ho', _⟩ := F'.ns
          exact ⟨o', by rw [hbl]; exact ho'⟩
        · exact ⟨o, kp b o hbl (fun z => hc (by simp [z])) (fun z => hc (by simp [z])) q⟩
      · rw [nsOne hm Fr0.ns]
        exact F'.ns
      · by_cases hba : b = s.heap.objs.size + 1
        · subst hba
          rw [upd_same] at q
          cases q
          exact ⟨hlen, _, ep, ry, ha'⟩
        · rw [upd_ne hba] at q
          refine (I3.hok b u q).stay (fun c v hc r => kp c v ?_ ?_ ?_ r) (fun c r => by rw [upd_ne (ne_of_none r hna)]; exact r) fun c xs r => by rw [upd_ne (ne_of_none r hna)]; exact r
          · rcases hc with z | z
            · rw [z]; exact ne_of_none q I3.free
            · exact ne_of_none z I3.free
          · rcases hc with z | z
            · rw [z]; exact ne_of_none q hnk
            · exact ne_of_none z hnk
          · rcases hc with z | z
            · rw [z]; exact hba
            · exact ne_of_none z hna
    exact ⟨.ref _, _, fin, rfl, q ys _ _ hy (I.hok.fresh (by omega)) upd_same fun b o z => by rw [upd_ne (ne_of_none (sm b o z) pa.2.1)]; exact sm b o z⟩
end
end Rs

/-! Further readings: zip of tuples, comprehensions that make dicts, locks, sorting. -/
namespace Rw
open PySem PySem.Spec PyProof.Rows L2 Rd
variable {X : Cx} {D : Ends} {σ : L2.St} {H : Hp} {K : PySem.W.Frag}
theorem walk_zipT {a b : Addr} {xs ys : List V} {n : Nat} (hn : n = min xs.length ys.length) : Walk (RZ.ItzT K a b) n (fun H => SqT K H a xs ∧ SqT K H b ys) (YPair (fun i => xs[i]?) (fun i => ys[i]?)) := by
  subst hn
  refine ⟨fun i H hi q => ⟨xs, ys, xs[i]'(by omega), ys[i]'(by omega), q.1, q.2, List.getElem?_eq_getElem _, List.getElem?_eq_getElem _⟩, fun H q => ⟨xs, ys, q.1, q.2, by omega⟩, ?_⟩
  rintro i H v H' _ q ⟨T, x, y, h1, h2, h3, h4, h5⟩
  exact ⟨T, x, y, h1, h2, h3, h4 xs q.1, h5 ys q.2⟩
theorem zipH {ta : TA} {R : It → Hp → Prop} (h : ta σ H fun vs H1 => ∃ a b xs ys, vs = [.ref a, .ref b] ∧ ((SqL K H1 a xs ∧ SqL K H1 b ys ∧ R (Itz K a b) H1) ∨ (SqT K H1 a xs ∧ SqT K H1 b ys ∧ R (RZ.ItzT K a b) H1))) : RZ.iZipA K ta σ H R := h
theorem zipT {a b : Addr} {xs ys : List V} {P Q : Addr → Addr → Prop} (h1 : SqT K H a xs) (h2 : SqT K H b ys) (h : Q a b) : ∃ a' b' xs ys, [V.ref a, V.ref b] = [.ref a', .ref b'] ∧ ((SqL K H a' xs ∧ SqL K H b' ys ∧ P a' b') ∨ (SqT K H a' xs ∧ SqT K H b' ys ∧ Q a' b')) :=
  ⟨a, b, xs, ys, rfl, .inr ⟨h1, h2, h⟩⟩
theorem slT {a : Addr} {xs : List V} {lo hi : Option Int} {Q : VK} (hp : SqT K H a xs) (hw : ¬ (HT.sIx xs.length 0 lo = 0 ∧ HT.sIx xs.length xs.length hi = xs.length)) (h : NewQ (.tup (cutV xs lo hi)) Q H) : rSlT K (.ref a) lo hi H Q := ⟨a, xs, rfl, hp, hw, h⟩
theorem sl1 {a : Addr} {xs : List V} {Q : VK} (hp : SqT K H a xs) (n0 : xs ≠ []) (h : NewQ (.tup xs.tail) Q H) : rSlT K (.ref a) (some 1) none H Q := by
  have l : 1 ≤ xs.length := Nat.one_le_iff_ne_zero.mpr fun e => n0 (List.eq_nil_of_length_eq_zero e)
  have e1 : HT.sIx xs.length 0 (some ((1 : Nat) : Int)) = 1 := by rw [HT.sIx_nat]; omega
  refine slT hp (fun ⟨e, _⟩ => ?_) ?_
  · have e' : HT.sIx xs.length 0 (some ((1 : Nat) : Int)) = 0 := e
    omega
  · have e : cutV xs (some 1) none = xs.tail := by
      show (xs.drop (HT.sIx xs.length 0 (some ((1 : Nat) : Int)))).take (xs.length - HT.sIx xs.length 0 (some ((1 : Nat) : Int))) = xs.tail
      rw [e1, List.drop_one]
      exact List.take_of_length_le (by rw [List.length_tail]; exact Nat.le_refl _)
    rw [e]
    exact h
/-! ### locks -/
def LkE (t : TE) (d : Addr) (u : HO) (σ : L2.St) (H : Hp) (Q : VK) : Prop := ∀ od, t σ (upd H d (.frz od u)) fun v H' => H' d = some (.frz od u) ∧ Q v (upd H' d u)
theorem lockE {t : TE} {d : Addr} {u : HO} {Q : VK} (e : H d = some u) (m : Mut (some u)) (h : ∀ (od : Obj) (G : Hp), G d = some (.frz od u) → (∀ b, b ≠ d → G b = H b) → t σ G fun v H' => H' d = some (.frz od u) ∧ Q v (upd H' d u)) : tLockE t σ H Q :=
  ⟨d, u, e, m, fun od => h od _ upd_same fun b hb => upd_ne hb⟩
theorem itemsH {td : TE} {R : It → Hp → Prop} (h : td σ H fun x H1 => ∃ d o kvs, x = .ref d ∧ H1 d = some (.frz o (.dK kvs)) ∧ R (Iti d o kvs) H1) : iItems td σ H R := h
theorem itemsX {d : Addr} {od : Obj} {kvs : List (Key × V)} {P : Addr → Obj → List (Key × V) → Prop} (e : H d = some (.frz od (.dK kvs))) (h : P d od kvs) : ∃ d' o kvs, V.ref d = .ref d' ∧ H d' = some (.frz o (.dK kvs)) ∧ P d' o kvs := ⟨d, od, kvs, rfl, e, h⟩
theorem keysH {td : TE} {R : It → Hp → Prop} (h : td σ H fun x H1 => ∃ d o, x = .ref d ∧ ((∃ kvs, H1 d = some (.frz o (.dK kvs)) ∧ R (Itk d o kvs) H1) ∨ ∃ kvs, H1 d = some (.frz o (.dT kvs)) ∧ R (Itkt d o kvs) H1)) : iKeys td σ H R := h
theorem keysX {d : Addr} {od : Obj} {kvs : List (Key × V)} {P : Addr → Obj → List (Key × V) → Prop} {P' : Addr → Obj → List (List Key × V) → Prop} (e : H d = some (.frz od (.dK kvs))) (h : P d od kvs) : ∃ d' o, V.ref d = .ref d' ∧ ((∃ kvs, H d' = some (.frz o (.dK kvs)) ∧ P d' o kvs) ∨ ∃ kvs, H d' = some (.frz o (.dT kvs)) ∧ P' d' o kvs) := ⟨d, od, rfl, .inl ⟨kvs, e, h⟩⟩
/-! ### dict comprehensions -/
section
variable {X : Cx}
theorem ps_setDc {i : Nat} {y : Str} {py : Pos} {kx vx tg iter : Expr} {ifs : List Expr} {scope : Scope} {own : List (Str × Nat)} {pos spos : Pos} {wi : TI} {g : TG} {tt : TT} {tk tv : TE} (hc : X.calm = true) (hN : X.N.Nodup) (hy : X.N[i]? = some y) (hyl : X.env.scope.names.lookup y = some .local)
    (hsw : swapsWith (.DictComp kx vx [⟨tg, iter, ifs, 0⟩] scope pos) (some (.Name y py)) spos.line X.env = pure true) (hi : PI X tg iter wi) (ok : BlkOk X.N X.env.scope scope own)
    (hg : ∀ (s : Shared) (H : Hp) (C : Addr) (cl : List (Str × Addr)) (fp : List Addr), PG (X.blk s H scope (compEnvC scope cl C X.env) fp) tg g)
    (ht : ∀ (s : Shared) (H : Hp) (C : Addr) (cl : List (Str × Addr)) (fp : List Addr), PTs (X.blk s H scope (compEnvC scope cl C X.env) fp) ifs tt)
    (hk : ∀ (s : Shared) (H : Hp) (C : Addr) (cl : List (Str × Addr)) (fp : List Addr), PE (X.blk s H scope (compEnvC scope cl C X.env) fp) kx tk)
    (he : ∀ (s : Shared) (H : Hp) (C : Addr) (cl : List (Str × Addr)) (fp : List Addr), PE (X.blk s H scope (compEnvC scope cl C X.env) fp) vx tv) (hs : ∀ x, foldedSetIterable iter X.env x = pure x := by intro _; rfl) :
    PS X (.Assign [.Name y py] (.DictComp kx vx [⟨tg, iter, ifs, 0⟩] scope pos) spos) (tAsg (tDc wi g tt tk tv (own.map (·.2))) (gName i)) := by
  refine ⟨fun pins s σ H D I h => ?_⟩
  have h' : tDc wi g tt tk tv (own.map (·.2)) σ H (fun x H1 => gName i x σ H1 D.nx) := h
  rw [exec_Assign_Name_used _ _ _ _ hsw]
  refine wpAny_bind (wpAny_standAt (wpAny_bind ?_))
  show wpAny _ _ (comprehension (.DictComp kx vx [⟨tg, iter, ifs, 0⟩] scope pos) scope X.env (firstIterPos [⟨tg, iter, ifs, 0⟩] pos) newDict false (eval iter X.env) (some (assign (.Name y py) X.env)) >>= fun _ => pure ()) _ _ s
  refine wpAny_bind (thn (dc_core (use := some (assign (.Name y py) X.env)) (Qf := fun _ s' => SP X pins D .next s') hc hN I hi ok hg ht hk he hs h' fun L C s1 m H1 I1 q hn f => ?_) fun _ s2 hq => wpAny_pure (wpAny_pure hq))
  refine (wpAny_assign_Name (store_ok2 (v := V.ref L) I1 hN hy (.inl hyl) rfl (fun s2 I2 w => ?_) (.inr hyl)) : wpAny _ _ (assign (.Name y py) X.env (.ref L)) _ _ _)
  obtain ⟨b, sb, hb⟩ := w
  obtain ⟨f0, f1, f2, f3, f4, f5⟩ := f
  have ne : C ≠ b := hb.elim (fun z => z ▸ f1) fun z e => f4 y b z e.symm
  exact ⟨m, hn.sameBut sb ne, fun h3 sb3 => ⟨_, H1, I2.turned (t' := s2.toks) (fun c o n e => (sb3.2 c n).trans e) f0 f1 f3 f4 f5, q⟩⟩
theorem sw_dc {kx vx : Expr} {gs : List Comprehension} {scope : Scope} {pos py : Pos} {y : Str} {l : Nat} {env : Env} (hk : env.scope.kind = .function) (hy : env.scope.names.lookup y = some .local) (hl : (py.line == pos.line) = true)
    (ha : (scope.names.any fun (n, k) => n == y && (k == .local || k == .cell)) = false) : swapsWith (.DictComp kx vx gs scope pos) (some (.Name y py)) l env = pure true := by
  have k1 : env.kindOf y = some .local := hy
  have k2 : env.blockKind = .function := by unfold Env.blockKind; rw [hk]; rfl
  unfold swapsWith
  simp only [k2, k1, ha, Expr.pos, hl]
  rfl
end
def Dc (J : It) (g : TG) (tt : TT) (tk tv : TE) (vs : List Nat) (σ : L2.St) (H1 : Hp) (Q : VK) : Prop := ∀ D, H1 D = none → ∃ W : Nat → Nat → Hp → Prop, (∃ m, W 0 m (upd H1 D (.dK []))) ∧ ∀ i m H, W i m H →
  (J.stop i H ∧ Q (.ref D) H) ∨ (J.go i H ∧ ∃ Nx : Hp → Prop, (∀ H', Nx H' → ∃ m', m' < m ∧ W (i + 1) m' H') ∧ ∀ x H', J.yld i H x H' → g x (wipe σ vs) H' fun σ2 H2 => wipe σ2 vs = wipe σ vs ∧ tt σ2 H2 fun b H3 =>
    if b = true then tk σ2 H3 fun y H4 => tv σ2 H4 fun z H5 => ∃ kvs k, y = kV k ∧ H5 D = some (.dK kvs) ∧ kvs.length < sizeLine ∧ Nx (upd H5 D (.dK (putK kvs k z))) else Nx H3)
theorem dc {wi : TI} {g : TG} {tt : TT} {tk tv : TE} {vs : List Nat} {Q : VK} (h : wi σ H fun J H1 => Dc J g tt tk tv vs σ H1 Q) : tDc wi g tt tk tv vs σ H Q := h
def DcPut (D : Addr) (H1 : Hp) (R : Nat → List (Key × V) → Hp → Prop) (i : Nat) (y z : V) (H5 : Hp) : Prop := ∃ kvs k, y = kV k ∧ H5 D = some (.dK kvs) ∧ kvs.length < sizeLine ∧ ∃ kvs', upd H5 D (.dK (putK kvs k z)) D = some (.dK kvs') ∧ Same H1 (upd H5 D (.dK (putK kvs k z))) ∧ R (i + 1) kvs' (upd H5 D (.dK (putK kvs k z)))
def DcNo (D : Addr) (H1 : Hp) (R : Nat → List (Key × V) → Hp → Prop) (i : Nat) (H3 : Hp) : Prop := ∃ kvs', H3 D = some (.dK kvs') ∧ Same H1 H3 ∧ R (i + 1) kvs' H3
theorem dcPut {D : Addr} {H1 H5 : Hp} {R : Nat → List (Key × V) → Hp → Prop} {i : Nat} {k : Key} {z : V} {kvs : List (Key × V)} (hD : H5 D = some (.dK kvs)) (nD : H1 D = none) (s : Same H1 H5) (hz : kvs.length < sizeLine) (r : ∀ G : Hp, G D = some (.dK (putK kvs k z)) → (∀ b, b ≠ D → G b = H5 b) → R (i + 1) (putK kvs k z) G) : DcPut D H1 R i (kV k) z H5 :=
  ⟨kvs, k, rfl, hD, hz, _, upd_same, fun b o e => by rw [upd_ne (ne_of_none e nD)]; exact s b o e, r _ upd_same fun b hb => upd_ne hb⟩
theorem dcS {J : It} {n : Nat} {G : Hp → Prop} {Y : Nat → Hp → V → Hp → Prop} (w : Walk J n G Y) {g : TG} {tt : TT} {tk tv : TE} {vs : List Nat} {H1 : Hp} {Q : VK} (hG : ∀ H, Same H1 H → G H) (R : Addr → Nat → List (Key × V) → Hp → Prop)
    (r0 : ∀ (D : Addr) (G : Hp), H1 D = none → G D = some (.dK []) → Same H1 G → R D 0 [] G)
    (hs : ∀ (D : Addr) i x H H' kvs, H1 D = none → i < n → H D = some (.dK kvs) → Same H1 H → R D i kvs H → Y i H x H' → g x (wipe σ vs) H' fun σ2 H2 => wipe σ2 vs = wipe σ vs ∧ tt σ2 H2 fun b H3 =>
      if b = true then tk σ2 H3 fun y H4 => tv σ2 H4 fun z H5 => DcPut D H1 (R D) i y z H5 else DcNo D H1 (R D) i H3)
    (hd : ∀ (D : Addr) kvs H, H1 D = none → H D = some (.dK kvs) → Same H1 H → R D n kvs H → Q (.ref D) H) : Dc J g tt tk tv vs σ H1 Q := fun D nD => by
  refine ⟨fun i m H => m = n - i ∧ i ≤ n ∧ ∃ kvs, H D = some (.dK kvs) ∧ Same H1 H ∧ R D i kvs H, ⟨n, by simp, Nat.zero_le _, [], upd_same, same_upd nD, r0 D _ nD upd_same (same_upd nD)⟩, ?_⟩
  rintro i m H ⟨rfl, hi, kvs, h1, h2, h3⟩
  have q := hG H h2
  by_cases hlt : i < n
  · refine .inr ⟨w.goes i H hlt q, fun H => ∃ kvs, H D = some (.dK kvs) ∧ Same H1 H ∧ R D (i + 1) kvs H, fun H' p' => ⟨n - (i + 1), by omega, rfl, hlt, p'⟩, fun x H' y => ?_⟩
    exact hs D i x H H' kvs nD hlt h1 h2 h3 (w.yields i H x H' hlt q y)
  · have e : i = n := by omega
    subst e
    exact .inl ⟨w.stops H q, hd D kvs H nD h1 h2 h3⟩
/-! ### sorted -/
theorem sortD {β : Type} {a : Addr} {xs : List V} {bs : List β} {Q : VK} (k : β → PyData) (R : V → β → Prop) (hs : SqL K H a xs) (he : PySem.W.EachIs (fun x b => Dp K H x (k b) ∧ R x b) xs bs) (hk : Rs.Keys (bs.map k))
    (h : ∀ (out : List V) (p : Addr) (G : Hp), PySem.W.EachIs (fun x b => Dp K H x (k b) ∧ R x b) out (bs.mergeSort (PySem.W.dataLe false k)) → H p = none → G p = some (.lst out) → Same H G → Q (.ref p) G) : Rs.rSortD K [.ref a] H Q :=
  ⟨a, xs, β, bs, k, R, rfl, hs, he, hk, h⟩
def SortK (f : Addr) (sp : Sp) (K : PySem.W.Frag) (vs zs : List V) (H : Hp) (Q : VK) : Prop := Rs.rSortK f sp K vs zs H Q
theorem ckw {r : List V → List V → Hp → VK → Prop} {t tk : TA} {Q : VK} (h : t σ H fun vs H1 => tk σ H1 fun zs H2 => r vs zs H2 Q) : tCKw r t tk σ H Q := h
theorem sortK {β : Type} {f : Addr} {sp : Sp} {a : Addr} {xs : List V} {bs : List β} {Q : VK} (k : β → PyData) (R : V → β → Prop) (hs : SqL K H a xs) (he : PySem.W.EachIs R xs bs) (hk : Rs.Keys (bs.map k))
    (hf : ∀ x b H1, Same H H1 → b ∈ bs → R x b → sp [x] H1 (fun v H2 => Same H1 H2 ∧ Dp K H2 v (k b)) (fun _ _ _ => False))
    (h : ∀ (out : List V) (p : Addr) (G : Hp), PySem.W.EachIs R out (bs.mergeSort (PySem.W.dataLe false k)) → H p = none → G p = some (.lst out) → Same H G → Q (.ref p) G) : Rs.rSortK f sp K [.ref a] [.ref f] H Q :=
  ⟨a, xs, β, bs, k, R, rfl, rfl, hs, he, hk, hf, h⟩
def DClr : V → List V → Hp → VK → Prop := rDClear
theorem clr {a : Addr} {kvs : List (Key × V)} {Q : VK} (e : H a = some (.dK kvs)) (h : ∀ G : Hp, G a = some (.dK []) → (∀ b, b ≠ a → G b = H b) → Q .non G) : rDClear (.ref a) [] H Q := ⟨a, kvs, rfl, rfl, e, h _ upd_same fun b hb => upd_ne hb⟩
end Rw
namespace Rd
open PySem PySem.Spec PyProof.Rows L2
variable {σ : L2.St} {H : Hp} {K : PySem.W.Frag}
theorem notT {ta : TE} {Q : VK} (h : ta σ H fun x H1 => ∃ k, TruV K x H1 k ∧ Q (.bl (!k)) H1) : tNotT K ta σ H Q := h
theorem yes {c A B : Prop} {i : Decidable c} (h : c) (a : A) : @ite Prop c i A B := by rw [if_pos h]; exact a
theorem no {c A B : Prop} {i : Decidable c} (h : ¬ c) (a : B) : @ite Prop c i A B := by rw [if_neg h]; exact a
theorem ifX {x : V} {i : Decidable (x = V.non)} {A B : Prop} (n : x ≠ .non) (h : B) : @ite Prop (x = V.non) i A B := by rw [if_neg n]; exact h
theorem ifR {a : Addr} {i : Decidable (V.ref a = V.non)} {A B : Prop} (h : B) : @ite Prop (V.ref a = V.non) i A B := ifX (by intro e; cases e) h
theorem ifI {a : Int} {i : Decidable (V.int a = V.non)} {A B : Prop} (h : B) : @ite Prop (V.int a = V.non) i A B := ifX (by intro e; cases e) h
theorem ifT {a : Str} {i : Decidable (V.str a = V.non)} {A B : Prop} (h : B) : @ite Prop (V.str a = V.non) i A B := ifX (by intro e; cases e) h
theorem ifN {i : Decidable (V.non = V.non)} {A B : Prop} (h : A) : @ite Prop (V.non = V.non) i A B := by rw [if_pos rfl]; exact h
theorem orTH {ta tb : TE} {Q : VK} (h : ta σ H fun x H1 => ∃ k, TruV K x H1 k ∧ if k = true then Q x H1 else tb σ H1 Q) : tOrT K ta tb σ H Q := h
end Rd

/-! Things of any kind, one level deep; exceptions of the program: made, raised, caught, asked. -/
namespace Rx
open PySem PySem.Spec PyProof.Rows L2 Rd
variable {X : Cx} {D : Ends} {σ : L2.St} {H H' : Hp} {K : PySem.W.Frag}
/-! ### kinds -/
inductive Kd where
  | non | bl (b : Bool) | int (i : Int) | str (z : Str) | lst (xs : List V) | tup (xs : List V) | dct
def Kd.ty : Kd → String
  | .non => "NoneType" | .bl _ => "bool" | .int _ => "int" | .str _ => "str" | .lst _ => "list" | .tup _ => "tuple" | .dct => "dict"
/-- what stands at a value -/
inductive Is (H : Hp) : V → Kd → Prop where
  | non : Is H .non .non
  | bl (b : Bool) : Is H (.bl b) (.bl b)
  | int (i : Int) : Is H (.int i) (.int i)
  | str {z : Str} (l : z.length ≤ 1000000) : Is H (.str z) (.str z)
  | lst {a : Addr} {xs : List V} (h : H a = some (.lst xs)) (l : xs.length ≤ 1000000) : Is H (.ref a) (.lst xs)
  | tup {a : Addr} {xs : List V} (h : H a = some (.tup xs)) (l : xs.length ≤ 1000000) : Is H (.ref a) (.tup xs)
  | dct {a : Addr} {kvs : List (Key × V)} (h : H a = some (.dK kvs)) : Is H (.ref a) .dct
theorem Is.same {x : V} {k : Kd} (s : Same H H') (h : Is H x k) : Is H' x k := by
  cases h with
  | non => exact .non
  | bl b => exact .bl b
  | int i => exact .int i
  | str l => exact .str l
  | lst h l => exact .lst (s _ _ h) l
  | tup h l => exact .tup (s _ _ h) l
  | dct h => exact .dct (s _ _ h)
theorem Is.inj {x : V} {k k' : Kd} (h : Is H x k) (h' : Is H x k') : k = k' := by
  cases h <;> cases h' <;> first | rfl | (rename_i a b c d; first | (rw [a] at c; cases c; rfl) | (rw [a] at c; cases c) | (rw [a] at d; cases d) | skip) <;> simp_all
theorem Is.ty {x : V} {k : Kd} (h : Is H x k) : TyX K H x (.type k.ty) := by
  cases h with
  | non => exact .base .non
  | bl b => exact .base (.bl b)
  | int i => exact .base (.int i)
  | str l => exact .base (.str _)
  | lst h l => exact .base (.lst h)
  | tup h l => exact .base (.tup h)
  | dct h => exact .base (.dK h)
def Kd.isInt : Kd → Bool | .int _ => true | .bl _ => true | _ => false
def Kd.isBl : Kd → Bool | .bl _ => true | _ => false
def Kd.isStr : Kd → Bool | .str _ => true | _ => false
def Kd.isLst : Kd → Bool | .lst _ => true | _ => false
def Kd.isTup : Kd → Bool | .tup _ => true | _ => false
def Kd.isDct : Kd → Bool | .dct => true | _ => false
def Kd.isSeq : Kd → Bool | .lst _ => true | .tup _ => true | _ => false
/-- an integer and no flag -/
def Kd.isNum : Kd → Bool | .int _ => true | _ => false
theorem kdInt : ∀ k : Kd, kitB k.ty "int" = some k.isInt
  | .non => (by decide +kernel : kitB "NoneType" "int" = some false)
  | .bl _ => (by decide +kernel : kitB "bool" "int" = some true)
  | .int _ => (by decide +kernel : kitB "int" "int" = some true)
  | .str _ => (by decide +kernel : kitB "str" "int" = some false)
  | .lst _ => (by decide +kernel : kitB "list" "int" = some false)
  | .tup _ => (by decide +kernel : kitB "tuple" "int" = some false)
  | .dct => (by decide +kernel : kitB "dict" "int" = some false)
theorem kdBl : ∀ k : Kd, kitB k.ty "bool" = some k.isBl
  | .non => (by decide +kernel : kitB "NoneType" "bool" = some false)
  | .bl _ => (by decide +kernel : kitB "bool" "bool" = some true)
  | .int _ => (by decide +kernel : kitB "int" "bool" = some false)
  | .str _ => (by decide +kernel : kitB "str" "bool" = some false)
  | .lst _ => (by decide +kernel : kitB "list" "bool" = some false)
  | .tup _ => (by decide +kernel : kitB "tuple" "bool" = some false)
  | .dct => (by decide +kernel : kitB "dict" "bool" = some false)
theorem kdStr : ∀ k : Kd, kitB k.ty "str" = some k.isStr
  | .non => (by decide +kernel : kitB "NoneType" "str" = some false)
  | .bl _ => (by decide +kernel : kitB "bool" "str" = some false)
  | .int _ => (by decide +kernel : kitB "int" "str" = some false)
  | .str _ => (by decide +kernel : kitB "str" "str" = some true)
  | .lst _ => (by decide +kernel : kitB "list" "str" = some false)
  | .tup _ => (by decide +kernel : kitB "tuple" "str" = some false)
  | .dct => (by decide +kernel : kitB "dict" "str" = some false)
theorem kdLst : ∀ k : Kd, kitB k.ty "list" = some k.isLst
  | .non => (by decide +kernel : kitB "NoneType" "list" = some false)
  | .bl _ => (by decide +kernel : kitB "bool" "list" = some false)
  | .int _ => (by decide +kernel : kitB "int" "list" = some false)
  | .str _ => (by decide +kernel : kitB "str" "list" = some false)
  | .lst _ => (by decide +kernel : kitB "list" "list" = some true)
  | .tup _ => (by decide +kernel : kitB "tuple" "list" = some false)
  | .dct => (by decide +kernel : kitB "dict" "list" = some false)
theorem kdTup : ∀ k : Kd, kitB k.ty "tuple" = some k.isTup
  | .non => (by decide +kernel : kitB "NoneType" "tuple" = some false)
  | .bl _ => (by decide +kernel : kitB "bool" "tuple" = some false)
  | .int _ => (by decide +kernel : kitB "int" "tuple" = some false)
  | .str _ => (by decide +kernel : kitB "str" "tuple" = some false)
  | .lst _ => (by decide +kernel : kitB "list" "tuple" = some false)
  | .tup _ => (by decide +kernel : kitB "tuple" "tuple" = some true)
  | .dct => (by decide +kernel : kitB "dict" "tuple" = some false)
theorem kdDct : ∀ k : Kd, kitB k.ty "dict" = some k.isDct
  | .non => (by decide +kernel : kitB "NoneType" "dict" = some false)
  | .bl _ => (by decide +kernel : kitB "bool" "dict" = some false)
  | .int _ => (by decide +kernel : kitB "int" "dict" = some false)
  | .str _ => (by decide +kernel : kitB "str" "dict" = some false)
  | .lst _ => (by decide +kernel : kitB "list" "dict" = some false)
  | .tup _ => (by decide +kernel : kitB "tuple" "dict" = some false)
  | .dct => (by decide +kernel : kitB "dict" "dict" = some true)
theorem askInt {x : V} {k : Kd} {Q : VK} (h : Is H x k) (q : Q (.bl k.isInt) H) : rIsi K [x, .ty "int"] H Q := Rd.isi h.ty (kdInt k) q
theorem askBl {x : V} {k : Kd} {Q : VK} (h : Is H x k) (q : Q (.bl k.isBl) H) : rIsi K [x, .ty "bool"] H Q := Rd.isi h.ty (kdBl k) q
theorem askStr {x : V} {k : Kd} {Q : VK} (h : Is H x k) (q : Q (.bl k.isStr) H) : rIsi K [x, .ty "str"] H Q := Rd.isi h.ty (kdStr k) q
theorem askLst {x : V} {k : Kd} {Q : VK} (h : Is H x k) (q : Q (.bl k.isLst) H) : rIsi K [x, .ty "list"] H Q := Rd.isi h.ty (kdLst k) q
theorem askTup {x : V} {k : Kd} {Q : VK} (h : Is H x k) (q : Q (.bl k.isTup) H) : rIsi K [x, .ty "tuple"] H Q := Rd.isi h.ty (kdTup k) q
theorem askDct {x : V} {k : Kd} {Q : VK} (h : Is H x k) (q : Q (.bl k.isDct) H) : rIsi K [x, .ty "dict"] H Q := Rd.isi h.ty (kdDct k) q
/-- (list, tuple) was just laid at tp -/
theorem askSeq {x : V} {k : Kd} {tp : Addr} {Q : VK} (ht : H tp = some (.tup [.ty "list", .ty "tuple"])) (h : Is H x k) (q : Q (.bl k.isSeq) H) : rIsiT K [x, .ref tp] H Q := by
  refine ⟨_, tp, _, _, [.type "list", .type "tuple"], k.isSeq, rfl, ht, .cons (.ty _) (.cons (.ty _) .nil), h.ty, ?_, q⟩
  have e1 := kdLst k
  have e2 := kdTup k
  refine kitAny_cons (kit_ty e1) (fun z1 => kitAny_cons (kit_ty e2) (fun z2 => ?_) fun z => ?_) fun z => ?_
  · rw [kitAny_nil]
    cases k <;> first | rfl | (cases z1; done) | (cases z2; done)
  · cases k <;> first | rfl | cases z
  · cases k <;> first | rfl | cases z
/-! ### equal without a look inside -/
/-- the one is the other, or both are equal data -/
def EqI (K : PySem.W.Frag) (H : Hp) (x y : V) : Prop := (x = y ∧ flatB x = true) ∨ (∃ a, x = .ref a ∧ y = .ref a) ∨ ∃ d e, Dp K H x d ∧ Dp K H y e ∧ SeqAt.shaped d = true ∧ SeqAt.shaped e = true ∧ PyData.eqv d e = true
theorem eqI_run {pins : List (Addr × Obj)} {s : Shared} (I : Inv X pins σ H s) {A : Around} (hu : A.units + 64 < cLine) {x y : V} {v u : Value} (h : EqI X.K H x y) (rx : RelV x v) (ry : RelV y u) : SeqAt.EqAt A s v u true := by
  rcases h with ⟨rfl, f⟩ | ⟨a, rfl, rfl⟩ | ⟨d, e, hd, he, sd, se, q⟩
  · exact eqAt_same rx ry f
  · cases (show v = Value.ref a from rx)
    cases (show u = Value.ref a from ry)
    exact SeqAt.EqAt.same _
  · obtain ⟨as, r1⟩ := Dp.reads I d x v hd rx
    obtain ⟨bs, r2⟩ := Dp.reads I e y u he ry
    have z := SeqAt.eqAt_reads d e A s v u as bs r1 r2 (SeqAt.canLay_of_shaped sd) (SeqAt.canLay_of_shaped se) (SeqAt.room_of_shaped sd hu)
    rw [q] at z
    exact z
theorem eqIs_run {pins : List (Addr × Obj)} {s : Shared} (I : Inv X pins σ H s) {A : Around} (hu : A.units + 64 < cLine) {xs ys : List V} (hp : Paired (EqI X.K H) xs ys) :
    ∀ {us ws : List Value}, Vals xs us → Vals ys ws → ∀ j (h1 : j < us.length) (h2 : j < ws.length), SeqAt.EqAt A s us[j] ws[j] true := by
  induction hp with
  | nil =>
    intro us ws r1 r2 j h1 h2
    cases r1
    exact absurd h1 (Nat.not_lt_zero j)
  | cons h _ k =>
    intro us ws r1 r2 j h1 h2
    cases r1 with
    | cons a1 b1 =>
      cases r2 with
      | cons a2 b2 =>
        cases j with
        | zero => exact eqI_run I hu h a1 a2
        | succ j => exact k b1 b2 j (Nat.lt_of_succ_lt_succ h1) (Nat.lt_of_succ_lt_succ h2)
/-- two tuples whose items are equal -/
def TupEq (K : PySem.W.Frag) (H : Hp) (x y : V) : Prop := ∃ a b xs ys, x = .ref a ∧ y = .ref b ∧ SqT K H a xs ∧ SqT K H b ys ∧ Paired (EqI K H) xs ys
def rEqX (K : PySem.W.Frag) : R2 := fun x y H Q => TupEq K H x y ∧ Q (.bl true) H
def rNeX (K : PySem.W.Frag) : R2 := fun x y H Q => TupEq K H x y ∧ Q (.bl false) H
theorem op_neX (hu : X.A.units + 66 < cLine) : OpR X (compareOp .NotEq) (rNeX X.K) := by
  intro pins s σ H x y v u Q I rx ry h
  obtain ⟨⟨a, b, xs, ys, rfl, rfl, ha, hb, hp⟩, q⟩ := h
  cases (show v = Value.ref a from rx)
  cases (show u = Value.ref b from ry)
  obtain ⟨us, r1, p1⟩ := I.tuple ha
  obtain ⟨ws, r2, p2⟩ := I.tuple hb
  have hsz : us.toArray.size = ws.toArray.size := by
    rw [List.size_toArray, List.size_toArray, ← r1.length, ← r2.length]
    exact Paired.length hp
  refine SeqAt.RcNeAt.tuples (e := fun _ => true) p1.1 p2.1 (by omega) (fun j h1 h2 => ?_) X.prog X.w _ _ ?_
  · have k := eqIs_run I (A := X.A.in1) (by show X.A.units + 1 + 64 < cLine; omega) hp r1 r2 j (by simpa using h1) (by simpa using h2)
    simpa using k
  · rw [show ((List.range (min us.toArray.size ws.toArray.size)).all fun _ => true) = true from List.all_eq_true.mpr fun _ _ => rfl, hsz]
    exact ⟨.bl false, H, I, by simp [L2.RelV], q⟩
theorem op_eqX (hu : X.A.units + 66 < cLine) : OpR X (compareOp .Eq) (rEqX X.K) := by
  intro pins s σ H x y v u Q I rx ry h
  obtain ⟨⟨a, b, xs, ys, rfl, rfl, ha, hb, hp⟩, q⟩ := h
  cases (show v = Value.ref a from rx)
  cases (show u = Value.ref b from ry)
  obtain ⟨us, r1, p1⟩ := I.tuple ha
  obtain ⟨ws, r2, p2⟩ := I.tuple hb
  have hsz : us.toArray.size = ws.toArray.size := by
    rw [List.size_toArray, List.size_toArray, ← r1.length, ← r2.length]
    exact Paired.length hp
  refine SeqAt.RcAt.tuples (e := fun _ => true) p1.1 p2.1 (by omega) (fun j h1 h2 => ?_) X.prog X.w _ _ ?_
  · have k := eqIs_run I (A := X.A.in1) (by show X.A.units + 1 + 64 < cLine; omega) hp r1 r2 j (by simpa using h1) (by simpa using h2)
    simpa using k
  · rw [show ((List.range (min us.toArray.size ws.toArray.size)).all fun _ => true) = true from List.all_eq_true.mpr fun _ _ => rfl, hsz]
    exact ⟨.bl true, H, I, by simp [L2.RelV], q⟩
end Rx
namespace Rx
open PySem PySem.Spec PyProof.Rows L2 Rd
/-! ### classes of exceptions, their __init__(self, value) at fI -/
structure ExcF (K : PySem.W.Frag) (fI C : Addr) : Prop where
  ox : OexC K C
  is : ExcC K C
  iC : PySem.W.findIn K (.ref C) "__init__" = some (some (.ref fI))
  nv : PySem.W.findIn K (.ref C) "value" = some none
  cl : PySem.W.isClsIn K C = true
  self : PySem.W.subIn K (.ref C) (.ref C) = some true
section
variable {K : PySem.W.Frag} {fI C E : Addr} {b : Bool}
theorem kitC (FE : ExcF K fI E) (h : PySem.W.subIn K (.ref C) (.ref E) = some b) : PySem.W.kitCls K (.ref C) (.ref E) = some b := by
  have h2 : (PySem.W.clsIn K E).isSome = true := FE.cl
  have e2 : ((PySem.W.clsIn K E).isSome && PySem.W.typeIn K (.ref E) == some (.type "type")) = true := by
    rw [h2, FE.ox.tyC] <;> rfl
  show (if ((PySem.W.clsIn K E).isSome && PySem.W.typeIn K (.ref E) == some (.type "type")) = true then PySem.W.subIn K (.ref C) (.ref E) else none) = some b
  rw [if_pos e2]
  exact h
theorem kit (FC : ExcF K fI C) (FE : ExcF K fI E) (h : PySem.W.subIn K (.ref C) (.ref E) = some b) : PySem.W.kitOne K (.ref C) (.ref E) = some b := by
  unfold PySem.W.kitOne
  by_cases c : C = E
  · subst c
    rw [FC.self] at h
    cases h
    rw [if_pos (beq_self_eq_true _)]
  · rw [if_neg (fun z => c (by simpa using z))]
    exact kitC FE h
theorem exm (FE : ExcF K fI E) (h : PySem.W.subIn K (.ref C) (.ref E) = some b) : PySem.W.exmOne K (.ref C) (.ref E) = some b := by
  have e1 : (PySem.W.subIn K (.ref E) (.type "BaseException") == some true) = true := by rw [FE.is.hs] <;> rfl
  show (if (PySem.W.subIn K (.ref E) (.type "BaseException") == some true) = true then PySem.W.kitCls K (.ref C) (.ref E) else none) = some b
  rw [if_pos e1]
  exact kitC FE h
end
/-! ### monotone readings -/
def tMono (te : TE) : TE := fun σ H Q => ∃ Q0 : VK, te σ H Q0 ∧ ∀ v H1, Q0 v H1 → Q v H1
theorem pe_mono {X : Cx} {e : Expr} {te : TE} (he : PE X e te) : PE X e (tMono te) := ⟨fun pins s σ H Q I h => by
  obtain ⟨Q0, h, imp⟩ := h
  exact thn (he.run pins s σ H Q0 I h) fun u s1 ⟨v, H1, I1, r1, q⟩ => ⟨v, H1, I1, r1, imp v H1 q⟩⟩
/-! ### raise C(e) -/
/-- self.value = value -/
def spWe (K : PySem.W.Frag) : Sp := fun vs H Q _ => ∃ (a C : Addr) (v : V), vs = [.ref a, v] ∧ OexC K C ∧ PySem.W.findIn K (.ref C) "value" = some none ∧ H a = some (exo a C none) ∧
  ∀ dx, H dx = none → dx ≠ a → Q .non (upd (upd H dx (exd dx [("value", v)])) a (exo a C (some dx)))
/-- behind: the exception's dict d is new and holds v -/
def RaiseQ (C : Addr) (v : V) (H1 : Hp) (Q : XK) : Prop := ∀ (d : Addr) (H2 : Hp), H1 d = none → H2 d = some (.xd [("value", v)]) → (∀ b, b ≠ d → H2 b = H1 b) → Q (.ref C) (some d) H2
def tRaise (C : Addr) (W : WX) (te : TE) : TS := fun _ σ H => te σ H fun v H1 => RaiseQ C v H1 fun cls d H2 => W cls d σ H2
theorem raiseH {C : Addr} {W : WX} {te : TE} {D : Ends} {σ : L2.St} {H : Hp} (h : te σ H fun v H1 => RaiseQ C v H1 fun cls d H2 => W cls d σ H2) : tRaise C W te D σ H := h
/-- what a raised exception leaves: all as it was, and its value in its dict -/
def Raised (C : Addr) (v : V) (H : Hp) (E : XK) : Prop := ∀ (d : Addr) (H2 : Hp), H d = none → H2 d = some (.xd [("value", v)]) → Same H H2 → E (.ref C) (some d) H2
theorem Raised.now {C : Addr} {v : V} {H H1 : Hp} {E : XK} (r : Raised C v H E) (s : Same H H1) : RaiseQ C v H1 E := fun d H2 n e k =>
  r d H2 (s.free n) e fun b o q => (k b (ne_of_none (s _ _ q) n)).trans (s _ _ q)
theorem mk_reads {K : PySem.W.Frag} {fI C : Addr} {te : TE} {σ : L2.St} {H : Hp} {Q : XK} (F : ExcF K fI C) (h : te σ H fun v H1 => RaiseQ C v H1 Q) : tMkO C (spWe K) [] (tCons (tMono te) tNil) σ H Q := by
  refine ⟨_, h, fun v H1 hv => ?_⟩
  refine ⟨(by decide : 1 ≤ 1000), fun a na => ⟨a, C, v, rfl, F.ox, F.nv, upd_same, fun dx ndx ne => ⟨rfl, dx, [("value", v)], upd_same, ?_, ?_, ?_⟩⟩⟩
  · rw [upd_ne ne, upd_same]
  · rw [upd_ne ne] at ndx
    exact ndx
  · rw [upd_ne ne] at ndx
    refine hv dx _ ndx upd_same fun b hb => ?_
    rw [upd_ne hb]
    by_cases c : b = a
    · rw [c, del_same, na]
    · rw [del_ne c, upd_ne c, upd_ne hb, upd_ne c]
section
variable {X : Cx} {x : Str} {e : Expr} {te : TE} {p pos pos2 : Pos} {C fI : Addr} {k : Nat} {fd : FuncData} {W : WX}
theorem ps_raise1 (hc : X.calm = true) (F : ExcF X.K fI C) (tI : PySem.W.typeIn X.K (.ref fI) = some (.type "function")) (F1 : FnOk X.prog X.w X.K X.mg X.base CX0 k fI fd ["self", "value"] (spWe X.K)) (hr : Room (k + 1) X.A) (hb : Binds X.K fd ["self", "value"] [])
    (hg : Gl X x) (hm : X.mg x = some (.ref C)) (tk : Takes X W) (he : PE X e te) (hdb : (x == ("__debug__" : Str)) = false := by decide) (hs : starEach (e :: []) X.env = (false, eval e X.env) :: starEach [] X.env := by rfl) (hpl : (backTo pos (starEach [] X.env)).any (·.1) = false := by rfl) :
    PS X (.Raise (some (.Call (.Name x p) [e] [] pos)) none pos2) (tRaise C W te) :=
  have z := ps_raise (pos := pos2) hc tk (pmk_oex (p := p) (pos := pos) F.ox F.iC tI F1 hr hb .nil (CX := CX0) (fun _ _ _ _ _ _ _ h => h.elim) hg hm (pa_cons (pe_mono he) pa_nil hs) hdb hs hpl)
  ⟨fun pins s σ H D I h => z.run pins s σ H D I (mk_reads F h)⟩
end
/-! ### what is asked of a caught exception -/
def rIsX (K : PySem.W.Frag) (a : Addr) (cls : Value) (d : Option Addr) : List V → Hp → VK → Prop := fun xs H Q => ∃ (D dd : Addr) (fs : List (Str × V)) (c : V) (cv : Value) (b : Bool), cls = .ref D ∧ d = some dd ∧ ExcC K D ∧ H dd = some (.xd fs) ∧ xs = [.ref a, c] ∧
  ClsV c cv ∧ PySem.W.kitOne K (.ref D) cv = some b ∧ Q (.bl b) H
end Rx
namespace PySem.W
open PySem PySem.Spec PySem.Calls PyProof.Rows
section
variable {prog : Program} {w : World} {A : Around} {E : Value → Shared → Prop} {s : Shared} {K : Frag} {x D : Addr} {ox : Obj} {od : Option Obj}
theorem findObj_dataX {C : Addr} {name : Str} {a g : Value} (hc : (clsIn K C).isSome = true) (ha : findIn K (.ref C) name = some (some a)) (hg : specialIn K a "__get__" = some (some g)) (ht : takesIn K a = some true) : findObj K C od name = some (.bind g a) := by
  obtain ⟨cd, hc⟩ := Option.isSome_iff_exists.mp hc
  unfold findObj
  rw [hc, Option.bind_some, ha, Option.bind_some]
  simp [hg, ht]
theorem kin_classX {Q : Option Value → Shared → Prop} (hga : findIn K (.ref D) "__getattribute__" = some (some (.builtin "BaseException.__getattribute__"))) (hgt : findIn K (.ref D) "__getattr__" = some none) (hsub : subIn K (.ref D) (.type "BaseException") = some true)
    (hdct : hasDictIn K D = true) (ha : findIn K (.ref D) "__class__" = some (some (.builtin "object.__class__")))
    (hn : specialIn K (.builtin "object.__class__") "__get__" = some (some (.builtin "getset_descriptor.__get__"))) (htk : takesIn K (.builtin "object.__class__") = some true) (hm : mroIn K D (.type "object") = some true)
    (X : K.In s.heap) (I : InstAt s.heap x ox D od) (h : Q (some (.ref D)) { s with toks := s.toks + 1 }) : wpAny (model prog w) A (getAttr? (.ref x) "__class__") Q E s := by
  have hf : findObj K D od "__class__" = some (.bind (.builtin "getset_descriptor.__get__") (.builtin "object.__class__")) := findObj_dataX (by obtain ⟨cd, hc, _⟩ := any_some hdct; rw [hc]; rfl) ha hn htk
  obtain ⟨hp, g, d, t, os⟩ := s
  have L0 := I.type (M := model prog w)
  have L1 := looks_findIn (M := model prog w) X hga
  have L2 := looks_findIn (M := model prog w) X hgt
  have L3 := looks_find (M := model prog w) X I hf
  have sub : Looks (model prog w) hp (isInstance (.ref x) (.type "BaseException")) true := L0.andThen (looks_subIn X hsub)
  have hx0 : (false && onTheHeap (Value.builtin "BaseException.__getattribute__")) = false := rfl
  have hx2 : (Value.builtin "BaseException.__getattribute__" == Value.builtin "object.__getattribute__") = false := by decide +kernel
  have hx1 : (onTheHeap (Value.ref D) && Value.builtin "BaseException.__getattribute__" == Value.builtin "object.__getattribute__") = false := by rw [hx2]; rfl
  unfold getAttr? getAttrBy? getAttrBy
  refine wpAny_bind (wpAny_mkText (wpAny_bind (wpAny_attempt (wpAny_holding (wpAny_bind (L0.at (wpAny_bind (L1.at ?_))))))))
  show wpAny _ _ (if (onTheHeap (Value.ref D) && Value.builtin "BaseException.__getattribute__" == Value.builtin "object.__getattribute__") = true then _ else _) _ _ _
  rw [hx1, if_neg Bool.false_ne_true]
  unfold getAttrByItsOwn hookBefore
  refine wpAny_bind ?_
  rw [if_pos (show onTheHeap (Value.ref D) = true from rfl)]
  refine L2.at ?_
  refine wpAny_bind (wpAny_attempt (wpAny_holding ?_))
  unfold callGetattribute
  rw [hx0, if_neg Bool.false_ne_true]
  unfold boundAndCalled
  rw [PySem.F.excAttr_ValueError.ga.bind (.ref x)]
  refine wpAny_bind (wpAny_pure ?_)
  show wpAny _ _ (call (.builtin "BaseException.__getattribute__") [.ref x, .str "__class__" t]) _ _ _
  refine wpAny_call (codeAny_call_builtin PySem.F.excAttr_ValueError.ga.plain PySem.F.entry_bexc_ga ?_)
  refine @check_slot (model prog w) _ _ ⟨hp, g, d, t + 1, os⟩ "BaseException.__getattribute__" "BaseException" "__getattribute__" (.ref x) [.str "__class__" t] [] _ (by decide +kernel) (by decide +kernel) sub (PySem.F.args_bexc_ga (.ref x) (.str "__class__" t)) ?_
  unfold Builtin.«object.__getattribute__»
  refine wpAny_bind (wpAny_of_eq (a := ((Value.ref x : Value), [Value.str "__class__" t])) (by first | rfl | (simp only [slotArgs]; rfl)) ?_)
  refine wpAny_bind (wpAny_pure (wpAny_bind (L0.at (wpAny_bind (L3.at ?_)))))
  show wpAny _ _ (holding [Value.builtin "object.__class__"] (call (.builtin "getset_descriptor.__get__") [.builtin "object.__class__", .ref x, .ref D]) >>= ret) _ _ _
  refine wpAny_bind (wpAny_holding (wpAny_call (class_get (s := ⟨hp, g, d, t + 1, os⟩) (ox := ox) (od := od) X I hm ?_)))
  refine wpAny_pure ?_
  show wpAny _ _ (handedOut (.ref D)) _ _ _
  rw [handedOut_of (v := .ref D) rfl]
  first
    | exact wpAny_pure (wpAny_pure h)
    | exact wpAny_pure h
    | exact wpAny_pure (wpAny_bind (wpAny_pure (wpAny_pure h)))
theorem kitx_excX (hga : findIn K (.ref D) "__getattribute__" = some (some (.builtin "BaseException.__getattribute__"))) (hgt : findIn K (.ref D) "__getattr__" = some none) (hsub : subIn K (.ref D) (.type "BaseException") = some true) (hdct : hasDictIn K D = true) (ha : findIn K (.ref D) "__class__" = some (some (.builtin "object.__class__")))
    (hn : specialIn K (.builtin "object.__class__") "__get__" = some (some (.builtin "getset_descriptor.__get__"))) (htk : takesIn K (.builtin "object.__class__") = some true) (hm : mroIn K D (.type "object") = some true) :
    KitX K (.ref x) (.ref D) (fun h => InstAt h x ox D od) where
  ty := fun _ _ _ I => I.type
  it := fun _ _ X _ => by
    obtain ⟨cdD, hcD, _⟩ := any_some hdct
    unfold clsIn at hcD
    split at hcD
    · rename_i c' d' cd' sl' ho
      intro A' Q' E' s' k q
      unfold isType loadHead
      exact wpAny_bind (wpAny_loadPart (k _ _ (X _ _ ho)) (wpAny_pure q))
    · cases hcD
  ne := fun h tp dd its n sl X htp => by
    obtain ⟨cdD, hcD, _⟩ := any_some hdct
    refine Bool.eq_false_iff.mpr fun q => ?_
    have e : D = tp := Value.ref.inj (beq_iff_eq.mp q)
    subst e
    unfold clsIn at hcD
    split at hcD
    · rename_i c' d' cd' sl' ho
      have z := (X _ _ ho).symm.trans htp
      cases z
    · cases hcD
  ca := fun X I k => kin_classX hga hgt hsub hdct ha hn htk hm X I k
end
end PySem.W
namespace Rx
open PySem PySem.Spec PyProof.Rows L2 Rd
theorem call_isX {X : Cx} {a : Addr} {oe : Obj} {cls : Value} {d : Option Addr} {pn : List (Addr × Obj)} (hz : Zc cls d oe) (hf : ∃ vs, oe.data = .fields vs) : CallR (X.suite a ((a, oe) :: pn)) (.builtin "isinstance") (rIsX X.K a cls d) := by
  intro pins s σ H xs us Q I r h
  obtain ⟨D, dd, fs, c, cv, b, rfl, rfl, C, hd, rfl, hcv, e, q⟩ := h
  obtain ⟨u1, u2, rfl, r1, r2⟩ := vals2 r
  cases (show u1 = Value.ref a from r1)
  have ec := hcv.eq r2
  subst ec
  obtain ⟨hget, _⟩ := I.pin (a, oe) (List.mem_append.mpr (.inl List.mem_cons_self))
  obtain ⟨vs, hv⟩ := hf
  have hx : ObjOk X.prog X.w H s.heap dd (.xd fs) := I.hok dd _ hd
  obtain ⟨mA, hns, hr⟩ := hx
  obtain ⟨od, ho, hl⟩ := lookIn_ns hns
  have J : PySem.W.InstAt s.heap a oe D (some od) := ⟨hget, hz.1, by unfold PySem.W.notCls; rw [hv] <;> rfl, by rw [hz.2]; exact ho⟩
  exact PySem.W.kia_one (PySem.W.kitx_excX C.hg C.hk C.hs C.hd C.ha C.hn C.ht C.hm) I.kIn J e (fun z => nomatch z) fun tk => ⟨.bl b, H, I.kept (t' := tk) fun _ _ z => z, rfl, q⟩
theorem isX {K : PySem.W.Frag} {a fI C E dd : Addr} {b : Bool} {fs : List (Str × V)} {H : Hp} {Q : VK} (FC : ExcF K fI C) (FE : ExcF K fI E) (h : PySem.W.subIn K (.ref C) (.ref E) = some b) (hd : H dd = some (.xd fs)) (q : Q (.bl b) H) : rIsX K a (.ref C) (some dd) [.ref a, .ref E] H Q :=
  ⟨C, dd, fs, _, _, b, rfl, rfl, FC.is, hd, rfl, .own E, kit FC FE h, q⟩
/-- e.value -/
def XvG (K : PySem.W.Frag) (a : Addr) (cls : Value) (d : Option Addr) (n : Str) : V → Hp → VK → Prop := fun x H1 Q => x = .ref a ∧ ∃ (C dd : Addr) (fs : List (Str × V)) (v : V), cls = .ref C ∧ d = some dd ∧ ExcC K C ∧ PySem.W.findIn K (.ref C) n = some none ∧ H1 dd = some (.xd fs) ∧ fs.lookup n = some v ∧ Q v H1
def tXv (K : PySem.W.Frag) (a : Addr) (cls : Value) (d : Option Addr) (n : Str) (te : TE) : TE := fun σ H Q => te σ H fun x H1 => XvG K a cls d n x H1 Q
theorem pe_xv {X : Cx} {a : Addr} {oe : Obj} {cls : Value} {d : Option Addr} {pn : List (Addr × Obj)} {e : Expr} {te : TE} {pos : Pos} {n : Str} (hz : Zc cls d oe) (hf : ∃ vs, oe.data = .fields vs) (he : PE (X.suite a ((a, oe) :: pn)) e te)
    (hb : attributeBase e n X.env (eval e X.env) = eval e X.env := by rfl) : PE (X.suite a ((a, oe) :: pn)) (.Attribute e n pos) (tXv X.K a cls d n te) := by
  refine ⟨fun pins s σ H Q I h => ?_⟩
  refine attr_of hb (thn (he.run pins s σ H _ I h) fun u s1 hh => ?_)
  obtain ⟨x, H1, I1, rx, ex, C, dd, fs, v, ec, ed, T, hno, ea, l, q⟩ := hh
  subst ex
  obtain rfl : u = Value.ref a := rx
  subst ec
  subst ed
  obtain ⟨ha, _⟩ := I1.pin (a, oe) (List.mem_append_left _ List.mem_cons_self)
  obtain ⟨vs, hd⟩ := hf
  have hx : ObjOk X.prog X.w H1 s1.heap dd (.xd fs) := I1.hok dd _ ea
  obtain ⟨mA, hns, hr⟩ := hx
  obtain ⟨od, ho, hl⟩ := lookIn_ns hns
  obtain ⟨u, hu, ru⟩ := RelO.some_of (v := v) (o := mA n) (by rw [← l]; exact hr n)
  have J : PySem.W.InstAt s1.heap a oe C (some od) := ⟨ha, hz.1, by unfold PySem.W.notCls; rw [hd] <;> rfl, by rw [hz.2]; exact ho⟩
  exact HandSPX.exc_get I1.kIn J T.hg T.hk T.hs (PySem.W.findObj_own T.hd hno rfl (by rw [hl, hu])) (handed_of ru) ⟨v, H1, I1.tok _, ru, q⟩
theorem xvH {K : PySem.W.Frag} {a : Addr} {cls : Value} {d : Option Addr} {n : Str} {te : TE} {σ : L2.St} {H : Hp} {Q : VK} (h : te σ H fun x H1 => XvG K a cls d n x H1 Q) : tXv K a cls d n te σ H Q := h
theorem xv {K : PySem.W.Frag} {a fI C dd : Addr} {v : V} {H : Hp} {Q : VK} (F : ExcF K fI C) (hd : H dd = some (.xd [("value", v)])) (q : Q v H) : XvG K a (.ref C) (some dd) "value" (.ref a) H Q :=
  ⟨rfl, C, dd, _, v, rfl, rfl, F.is, F.nv, hd, by simp [List.lookup], q⟩
/-- the clause names the class that it is -/
theorem caught {K : PySem.W.Frag} {fI C E : Addr} {i : Nat} {ts : Addr → Value → Option Addr → TS} {Wout : WX} {D : Ends} {d : Option Addr} {σ : L2.St} {H : Hp} (FE : ExcF K fI E) (h : PySem.W.subIn K (.ref C) (.ref E) = some true)
    (q : ∀ a, H a = none → ts a (.ref C) d { nx := fun σ' H' => D.nx (σ'.set i none) H', rt := D.rt, bk := fun σ' H' => D.bk (σ'.set i none) H', ct := fun σ' H' => D.ct (σ'.set i none) H' } (σ.set i (some (.ref a))) H) : wAs K (.ref E) i ts Wout D (.ref C) d σ H :=
  ⟨true, exm FE h, fun _ a na => q a na, fun z => nomatch z⟩
theorem callS {sp : Sp} {E : L2.St → XK} {t : TA} {σ : L2.St} {H : Hp} {Q : VK} (h : t σ H fun vs H1 => sp vs H1 Q (E σ)) : tCallS sp E t σ H Q := h
end Rx
namespace Rx
open PySem PySem.Spec PyProof.Rows L2 Rd
/-- an __init__(self, value=None) called with both -/
theorem binds2 {K : PySem.W.Frag} {x qual : Str} {params : Arguments} {body : List Stmt} {scope : Scope} {f : Addr} {fd : FuncData} (F : FunD K x qual params body scope [.non] [] f fd)
    (h : ∀ (T : Addr) (kV doc pm : Value) (an : Option Addr) (cdv ct : Value) (us its : List Value), us.length = 2 → its.length = 1 →
      ∃ k, bindArgs (PySem.W.fnOf x qual params body scope (.ref T) kV doc pm an cdv ct) ⟨us, []⟩ = seqItems? (.ref T) >>= k ∧ k (some its.toArray) = pure ((["self", "value"] : List Str).zip (us ++ its.drop 1))) : Binds K fd ["self", "value"] [] := by
  obtain ⟨ds, r, b⟩ := F.binds1 (ps := ["self", "value"]) 2 1 (by simp) rfl h
  cases r
  exact b
end Rx
namespace Rx
open PySem PySem.Spec PyProof.Rows L2 Rd
theorem u66 {k : Nat} {A : Around} (h : Room k A) : A.units + 66 < cLine := by have := h.un; omega
/-! ### text * int -/
def nRepS : R2 := fun x y H Q => ∃ (z : Str) (n : Int), x = .str z ∧ y = .int n ∧ MulOk z n ∧ Q (.str (Txt.mul z n)) H
theorem o_repS {X : Cx} : OpR X (binaryOp .Mult) nRepS := by
  intro pins s σ H x y v u Q I rx ry h
  obtain ⟨z, n, rfl, rfl, hok, q⟩ := h
  obtain ⟨t, rfl⟩ := rx
  obtain ⟨t', rfl⟩ := ry
  exact SB.mul hok fun t' k => ⟨.str (Txt.mul z n), H, I.tok _, ⟨_, rfl⟩, q⟩
theorem repS {z : Str} {n : Int} {H : Hp} {Q : VK} (hok : MulOk z n) (q : Q (.str (Txt.mul z n)) H) : nRepS (.str z) (.int n) H Q := ⟨z, n, rfl, rfl, hok, q⟩
/-! ### things with their items -/
/-- what stands at a value, and at its items -/
def Rowed (H : Hp) (x : V) (k : Kd) (ks : List Kd) : Prop := Is H x k ∧ ∀ xs, k = .lst xs ∨ k = .tup xs → Paired (Is H) xs ks
theorem paired_same {H H' : Hp} (s : Same H H') {xs : List V} {ks : List Kd} (h : Paired (Is H) xs ks) : Paired (Is H') xs ks := by
  induction h with
  | nil => exact .nil
  | cons a _ ih => exact .cons (a.same s) ih
theorem Rowed.same {H H' : Hp} {x : V} {k : Kd} {ks : List Kd} (s : Same H H') (h : Rowed H x k ks) : Rowed H' x k ks := ⟨h.1.same s, fun xs e => paired_same s (h.2 xs e)⟩
/-- an address that is not t's -/
def Off (t : Addr) (x : V) : Prop := x ≠ .ref t
theorem off_ref {t a : Addr} (h : a ≠ t) : Off t (.ref a) := fun e => h (V.ref.inj e)
theorem Is.but {t : Addr} {H H' : Hp} {x : V} {k : Kd} (b : Rd.But t H H') (o : Off t x) (h : Is H x k) : Is H' x k := by
  cases h with
  | non => exact .non
  | bl b => exact .bl b
  | int i => exact .int i
  | str l => exact .str l
  | lst h l => exact .lst (b _ _ (fun e => o (by rw [e])) h) l
  | tup h l => exact .tup (b _ _ (fun e => o (by rw [e])) h) l
  | dct h => exact .dct (b _ _ (fun e => o (by rw [e])) h)
theorem paired_but {t : Addr} {H H' : Hp} (b : Rd.But t H H') {xs : List V} {ks : List Kd} (h : Paired (Is H) xs ks) : (∀ y ∈ xs, Off t y) → Paired (Is H') xs ks := by
  induction h with
  | nil => exact fun _ => .nil
  | cons a _ ih => exact fun o => .cons (a.but b (o _ (List.mem_cons_self ..))) (ih fun y m => o y (List.mem_cons_of_mem _ m))
/-- a thing of some kind, its items too; none of them is the object at t (the tape) -/
def Thing (t : Addr) (H : Hp) (x : V) : Prop := ∃ k ks, Rowed H x k ks ∧ Off t x ∧ ∀ xs, k = .lst xs ∨ k = .tup xs → ∀ y ∈ xs, Off t y
theorem Thing.same {t : Addr} {H H' : Hp} {x : V} (s : Same H H') (h : Thing t H x) : Thing t H' x := let ⟨k, ks, r, o⟩ := h; ⟨k, ks, r.same s, o⟩
theorem Thing.but {t : Addr} {H H' : Hp} {x : V} (b : Rd.But t H H') (h : Thing t H x) : Thing t H' x := let ⟨k, ks, r, o, p⟩ := h; ⟨k, ks, ⟨r.1.but b o, fun xs e => paired_but b (r.2 xs e) (p xs e)⟩, o, p⟩
theorem flat {t : Addr} {H : Hp} {x : V} {k : Kd} (h : Is H x k) (n : k.isSeq = false) (o : Off t x := by intro e; cases e) : Thing t H x := ⟨k, [], ⟨h, fun xs e => by rcases e with rfl | rfl <;> cases n⟩, o, fun xs e => by rcases e with rfl | rfl <;> cases n⟩
/-- an item -/
def Item (t : Addr) (H : Hp) (x : V) : Prop := (∃ k, Is H x k) ∧ Off t x
theorem item {t : Addr} {H : Hp} {x : V} {k : Kd} (h : Is H x k) (o : Off t x := by intro e; cases e) : Item t H x := ⟨⟨k, h⟩, o⟩
theorem Item.same {t : Addr} {H H' : Hp} {x : V} (s : Same H H') (h : Item t H x) : Item t H' x := let ⟨⟨k, i⟩, o⟩ := h; ⟨⟨k, i.same s⟩, o⟩
theorem Item.but {t : Addr} {H H' : Hp} {x : V} (b : Rd.But t H H') (h : Item t H x) : Item t H' x := let ⟨⟨k, i⟩, o⟩ := h; ⟨⟨k, i.but b o⟩, o⟩
theorem kinds {t : Addr} {H : Hp} : ∀ {xs : List V}, (∀ x ∈ xs, Item t H x) → ∃ ks, Paired (Is H) xs ks
  | [], _ => ⟨[], .nil⟩
  | x :: xs, h => let ⟨⟨k, i⟩, _⟩ := h x (List.mem_cons_self ..); let ⟨ks, r⟩ := kinds fun y m => h y (List.mem_cons_of_mem _ m); ⟨k :: ks, .cons i r⟩
theorem seqL {t : Addr} {H : Hp} {a : Addr} {xs : List V} (h : H a = some (.lst xs)) (o : a ≠ t) (l : xs.length ≤ 1000000) (i : ∀ x ∈ xs, Item t H x) : Thing t H (.ref a) :=
  let ⟨ks, r⟩ := kinds i; ⟨_, ks, ⟨.lst h l, fun ys e => by rcases e with e | e <;> cases e; exact r⟩, off_ref o, fun ys e => by rcases e with e | e <;> cases e; exact fun y m => (i y m).2⟩
theorem seqT {t : Addr} {H : Hp} {a : Addr} {xs : List V} (h : H a = some (.tup xs)) (o : a ≠ t) (l : xs.length ≤ 1000000) (i : ∀ x ∈ xs, Item t H x) : Thing t H (.ref a) :=
  let ⟨ks, r⟩ := kinds i; ⟨_, ks, ⟨.tup h l, fun ys e => by rcases e with e | e <;> cases e; exact r⟩, off_ref o, fun ys e => by rcases e with e | e <;> cases e; exact fun y m => (i y m).2⟩
theorem all_nil {P : V → Prop} : ∀ x ∈ ([] : List V), P x := fun _ h => nomatch h
theorem all_cons {P : V → Prop} {x : V} {xs : List V} (h : P x) (t : ∀ y ∈ xs, P y) : ∀ y ∈ x :: xs, P y := fun y m => by
  rcases List.mem_cons.mp m with rfl | m
  · exact h
  · exact t y m
theorem paired_get {R : V → Kd → Prop} {xs : List V} {ks : List Kd} (h : Paired R xs ks) : ∀ {i : Nat} {x : V}, xs[i]? = some x → ∃ k, ks[i]? = some k ∧ R x k := by
  induction h with
  | nil => intro i x e; simp at e
  | cons a _ ih =>
    intro i x e
    cases i with
    | zero => cases e; exact ⟨_, rfl, a⟩
    | succ i => exact ih e
/-! ### range(i, j, c) upwards -/
/-- how many -/
def cnt (i j c : Int) : Nat := if i < j then ((j - i - 1) / c + 1).toNat else 0
theorem rg_pos {i j c : Int} (c0 : 0 < c) (c1 : c < 1073741824) (hi : 0 ≤ i) (hi' : i < 2 ^ 62) (hj : 0 ≤ j) (hj' : j < 2 ^ 62) : RgC i j c (cnt i j c) := by
  have e : Builtin.Range.rangeSize i j c = (cnt i j c : Nat) := by
    unfold Builtin.Range.rangeSize cnt
    rw [if_pos c0]
    split
    · have : 0 ≤ (j - i - 1) / c := Int.ediv_nonneg (by omega) (by omega)
      omega
    · rfl
  have hb : (cnt i j c : Int) ≤ 2 ^ 62 + 1 := by
    unfold cnt
    split
    · have h1 : 0 ≤ (j - i - 1) / c := Int.ediv_nonneg (by omega) (by omega)
      have h2 : (j - i - 1) / c ≤ j - i - 1 := Int.ediv_le_self _ (by omega)
      omega
    · decide
  refine ⟨by omega, by omega, ?_, e⟩
  unfold Builtin.Range.small
  rw [e]
  simp only [Builtin.Range.rangeFitsLong, Bool.and_eq_true, Bool.or_eq_true, decide_eq_true_eq, beq_iff_eq]
  rw [if_pos c0]
  simp only [Bool.and_eq_true, decide_eq_true_eq]
  omega
theorem cnt_lt {i j c : Int} (c0 : 0 < c) (k : Nat) : k < cnt i j c ↔ i + (k : Int) * c < j := by
  unfold cnt
  split
  · rename_i h
    have h1 : 0 ≤ (j - i - 1) / c := Int.ediv_nonneg (by omega) (by omega)
    have e : k < ((j - i - 1) / c + 1).toNat ↔ (k : Int) ≤ (j - i - 1) / c := by omega
    rw [e, Int.le_ediv_iff_mul_le c0]
    omega
  · have : 0 ≤ (k : Int) * c := Int.mul_nonneg (by omega) (by omega)
    omega
theorem rng3 {ta : TA} {σ : L2.St} {H : Hp} {R : It → Hp → Prop} (h : ta σ H fun vs H1 => ∃ (i j c : Int) (n : Nat), vs = [.int i, .int j, .int c] ∧ RgC i j c n ∧ R (Itc i c n) H1) : iRng3 ta σ H R := h
end Rx
namespace Rx
open PySem PySem.Spec PyProof.Rows L2 Rd
/-! ### {k: v} written out -/
theorem disp {trs : List (TE × TE)} {σ : L2.St} {H : Hp} {Q : VK} (h : ∀ (p : Addr) (G : Hp), H p = none → G p = some (.dK []) → Same H G → tPairs trs σ G fun ps H2 => H2 p = some (.dK []) ∧ ∃ kvs : List (Key × V), ps = kvs.map (fun kv => (kV kv.1, kv.2)) ∧ kvs.length ≤ 15 ∧
    ∀ G2 : Hp, G2 p = some (.dK (mergeK [] kvs)) → (∀ b, b ≠ p → G2 b = H2 b) → Q (.ref p) G2) : tDisp trs σ H Q := fun p hp => by
  have key := h p _ hp upd_same (same_upd hp)
  have mono : ∀ {trs : List (TE × TE)} {σ : L2.St} {H : Hp} {A B : List (V × V) → Hp → Prop}, A = B → tPairs trs σ H A → tPairs trs σ H B := fun e h => e ▸ h
  refine mono ?_ key
  funext ps H2
  refine propext ⟨fun ⟨a, kvs, b, c, d⟩ => ⟨a, kvs, b, c, d _ upd_same fun b hb => upd_ne hb⟩, fun ⟨a, kvs, b, c, d⟩ => ⟨a, kvs, b, c, fun G2 g off => ?_⟩⟩
  have e : G2 = upd H2 p (.dK (mergeK [] kvs)) := by
    funext x
    by_cases q : x = p
    · rw [q, g, upd_same]
    · rw [off x q, upd_ne q]
  rw [e]
  exact d
theorem pair {tk tv : TE} {r : List (TE × TE)} {σ : L2.St} {H : Hp} {Q : List (V × V) → Hp → Prop} (h : tk σ H fun x H1 => tv σ H1 fun y H2 => tPairs r σ H2 fun ps H3 => Q ((x, y) :: ps) H3) : tPairs ((tk, tv) :: r) σ H Q := h
theorem pair0 {σ : L2.St} {H : Hp} {Q : List (V × V) → Hp → Prop} (h : Q [] H) : tPairs [] σ H Q := h
theorem same_off2 {H G G2 : Hp} {p : Addr} (s : Same H G) (np : H p = none) (off : ∀ b, b ≠ p → G2 b = G b) : Same H G2 := fun b o e => by rw [off b (ne_of_none e np)]; exact s b o e
end Rx

namespace W
open PySem PySem.Spec PyProof.Rows L2
def top (i : Nat) : Stmt := PySem.Challenge.pw_watchedways_k86_lone_gaps_and_refused.main.body.getD i (.Pass ⟨0, 0, 0, 0⟩)
abbrev s_WayError_init : Stmt := inClass (top 1) 0
abbrev s_is_integer : Stmt := top 5
abbrev s_common : Stmt := top 7
abbrev s_check_lengths : Stmt := top 12
abbrev s_divisor_of : Stmt := top 13
abbrev s_far_from : Stmt := top 14
abbrev s_steps_reach : Stmt := top 15
abbrev s_is_reached : Stmt := top 16
abbrev s_lone_told : Stmt := top 17
abbrev s_lone_gaps : Stmt := top 18
abbrev s_l_tape : Stmt := top 20
abbrev s_l_pick : Stmt := top 21
abbrev s_l_odd : Stmt := top 22
abbrev s_l_common : Stmt := top 24
abbrev s_l_divisor : Stmt := top 25
abbrev s_l_reach : Stmt := top 26
abbrev s_l_lengths : Stmt := top 27
abbrev s_l_asked : Stmt := top 28
abbrev s_l_is_number : Stmt := top 29
abbrev s_l_due : Stmt := top 30
abbrev s_l_bent : Stmt := top 31
abbrev s_law : Stmt := top 32
theorem sc_WayError_init : FnScope ["self", "value"] ["self", "value"] (defScope s_WayError_init) := ⟨rfl, rfl, rfl, by decide +kernel, rfl, by decide +kernel, by decide +kernel⟩
theorem sc_is_integer : FnScope ["value"] ["value"] (defScope s_is_integer) := ⟨rfl, rfl, rfl, by decide +kernel, rfl, by decide +kernel, by decide +kernel⟩
theorem sc_common : FnScope ["one", "other"] ["one", "other"] (defScope s_common) := ⟨rfl, rfl, rfl, by decide +kernel, rfl, by decide +kernel, by decide +kernel⟩
theorem sc_check_lengths : FnScope ["lengths", "at", "length"] ["lengths"] (defScope s_check_lengths) := ⟨rfl, rfl, rfl, by decide +kernel, rfl, by decide +kernel, by decide +kernel⟩
theorem sc_divisor_of : FnScope ["lengths", "found", "length"] ["lengths"] (defScope s_divisor_of) := ⟨rfl, rfl, rfl, by decide +kernel, rfl, by decide +kernel, by decide +kernel⟩
theorem sc_far_from : FnScope ["lengths"] ["lengths"] (defScope s_far_from) := ⟨rfl, rfl, rfl, by decide +kernel, rfl, by decide +kernel, by decide +kernel⟩
theorem sc_steps_reach : FnScope ["lengths", "last", "met", "found", "at", "length", "spot"] ["lengths", "last"] (defScope s_steps_reach) := ⟨rfl, rfl, rfl, by decide +kernel, rfl, by decide +kernel, by decide +kernel⟩
theorem sc_is_reached : FnScope ["lengths", "last"] ["lengths", "last"] (defScope s_is_reached) := ⟨rfl, rfl, rfl, by decide +kernel, rfl, by decide +kernel, by decide +kernel⟩
theorem sc_lone_told : FnScope ["lengths", "last"] ["lengths", "last"] (defScope s_lone_told) := ⟨rfl, rfl, rfl, by decide +kernel, rfl, by decide +kernel, by decide +kernel⟩
theorem sc_lone_gaps : FnScope ["lengths", "part", "last"] ["lengths"] (defScope s_lone_gaps) := ⟨rfl, rfl, rfl, by decide +kernel, rfl, by decide +kernel, by decide +kernel⟩
theorem sc_l_tape : FnScope ["_law_script"] ["_law_script"] (defScope s_l_tape) := ⟨rfl, rfl, rfl, by decide +kernel, rfl, by decide +kernel, by decide +kernel⟩
theorem sc_l_pick : FnScope ["_law_tape_here", "_law_size", "_law_digit", "_law_cell", "_law_mixed"] ["_law_tape_here", "_law_size"] (defScope s_l_pick) := ⟨rfl, rfl, rfl, by decide +kernel, rfl, by decide +kernel, by decide +kernel⟩
theorem sc_l_odd : FnScope ["_law_tape_here", "_law_things"] ["_law_tape_here"] (defScope s_l_odd) := ⟨rfl, rfl, rfl, by decide +kernel, rfl, by decide +kernel, by decide +kernel⟩
theorem sc_l_common : FnScope ["_law_one", "_law_other", "_law_turn", "_law_rest"] ["_law_one", "_law_other"] (defScope s_l_common) := ⟨rfl, rfl, rfl, by decide +kernel, rfl, by decide +kernel, by decide +kernel⟩
theorem sc_l_divisor : FnScope ["_law_lengths_here", "_law_part", "_law_length"] ["_law_lengths_here"] (defScope s_l_divisor) := ⟨rfl, rfl, rfl, by decide +kernel, rfl, by decide +kernel, by decide +kernel⟩
theorem sc_l_reach : FnScope ["_law_lengths_here", "_law_last", "_law_reached", "_law_met", "_law_at", "_law_length", "_law_other"] ["_law_lengths_here", "_law_last"] (defScope s_l_reach) := ⟨rfl, rfl, rfl, by decide +kernel, rfl, by decide +kernel, by decide +kernel⟩
theorem sc_l_lengths : FnScope ["_law_tape_here", "_law_kind", "_law_most", "_law_part", "_law_lengths_here", "_law_k"] ["_law_tape_here"] (defScope s_l_lengths) := ⟨rfl, rfl, rfl, by decide +kernel, rfl, by decide +kernel, by decide +kernel⟩
theorem sc_l_asked : FnScope ["_law_kind", "_law_lengths_here", "_law_last", "_law_found", "e"] ["_law_kind", "_law_lengths_here", "_law_last"] (defScope s_l_asked) := ⟨rfl, rfl, rfl, by decide +kernel, rfl, by decide +kernel, by decide +kernel⟩
theorem sc_l_is_number : FnScope ["_law_thing", "_law_most"] ["_law_thing", "_law_most"] (defScope s_l_is_number) := ⟨rfl, rfl, rfl, by decide +kernel, rfl, by decide +kernel, by decide +kernel⟩
theorem sc_l_due : FnScope ["_law_kind", "_law_lengths_here", "_law_last", "_law_at"] ["_law_kind", "_law_lengths_here", "_law_last"] (defScope s_l_due) := ⟨rfl, rfl, rfl, by decide +kernel, rfl, by decide +kernel, by decide +kernel⟩
theorem sc_l_bent : FnScope ["_law_tape_here", "_law_lengths_here", "_law_kind", "_law_at", "_law_wrong"] ["_law_tape_here", "_law_lengths_here"] (defScope s_l_bent) := ⟨rfl, rfl, rfl, by decide +kernel, rfl, by decide +kernel, by decide +kernel⟩
theorem sc_law : FnScope ["_law_script", "_law_tape_here", "_law_lengths_here", "_law_part", "_law_due_here", "_law_two", "_law_last", "_law_told", "_law_turn", "_law_bent_here", "_law_kind", "_law_wanted", "_law_found"] ["_law_script"] (defScope s_law) := ⟨rfl, rfl, rfl, by decide +kernel, rfl, by decide +kernel, by decide +kernel⟩
structure Txt (K : PySem.W.Frag) (mg : Str → Option Value) where
  f_WayError_init : Addr
  fd_WayError_init : FuncData
  D_WayError_init : FunD K "__init__" "WayError.__init__" (defArgs s_WayError_init) (defBody s_WayError_init) (defScope s_WayError_init) [.non] [] f_WayError_init fd_WayError_init
  b_WayError_init : Binds K fd_WayError_init ["self", "value"] []
  tI_WayError_init : PySem.W.typeIn K (.ref f_WayError_init) = some (.type "function")
  f_is_integer : Addr
  fd_is_integer : FuncData
  F_is_integer : Fun K "is_integer" "is_integer" s_is_integer f_is_integer fd_is_integer
  g_is_integer : mg "is_integer" = some (.ref f_is_integer)
  b_is_integer : Binds K fd_is_integer ["value"] []
  f_common : Addr
  fd_common : FuncData
  F_common : Fun K "common" "common" s_common f_common fd_common
  g_common : mg "common" = some (.ref f_common)
  b_common : Binds K fd_common ["one", "other"] []
  f_check_lengths : Addr
  fd_check_lengths : FuncData
  F_check_lengths : Fun K "check_lengths" "check_lengths" s_check_lengths f_check_lengths fd_check_lengths
  g_check_lengths : mg "check_lengths" = some (.ref f_check_lengths)
  b_check_lengths : Binds K fd_check_lengths ["lengths"] []
  f_divisor_of : Addr
  fd_divisor_of : FuncData
  F_divisor_of : Fun K "divisor_of" "divisor_of" s_divisor_of f_divisor_of fd_divisor_of
  g_divisor_of : mg "divisor_of" = some (.ref f_divisor_of)
  b_divisor_of : Binds K fd_divisor_of ["lengths"] []
  f_far_from : Addr
  fd_far_from : FuncData
  F_far_from : Fun K "far_from" "far_from" s_far_from f_far_from fd_far_from
  g_far_from : mg "far_from" = some (.ref f_far_from)
  b_far_from : Binds K fd_far_from ["lengths"] []
  f_steps_reach : Addr
  fd_steps_reach : FuncData
  F_steps_reach : Fun K "steps_reach" "steps_reach" s_steps_reach f_steps_reach fd_steps_reach
  g_steps_reach : mg "steps_reach" = some (.ref f_steps_reach)
  b_steps_reach : Binds K fd_steps_reach ["lengths", "last"] []
  f_is_reached : Addr
  fd_is_reached : FuncData
  F_is_reached : Fun K "is_reached" "is_reached" s_is_reached f_is_reached fd_is_reached
  g_is_reached : mg "is_reached" = some (.ref f_is_reached)
  b_is_reached : Binds K fd_is_reached ["lengths", "last"] []
  f_lone_told : Addr
  fd_lone_told : FuncData
  F_lone_told : Fun K "lone_told" "lone_told" s_lone_told f_lone_told fd_lone_told
  g_lone_told : mg "lone_told" = some (.ref f_lone_told)
  b_lone_told : Binds K fd_lone_told ["lengths", "last"] []
  f_lone_gaps : Addr
  fd_lone_gaps : FuncData
  F_lone_gaps : Fun K "lone_gaps" "lone_gaps" s_lone_gaps f_lone_gaps fd_lone_gaps
  g_lone_gaps : mg "lone_gaps" = some (.ref f_lone_gaps)
  b_lone_gaps : Binds K fd_lone_gaps ["lengths"] []
  f_l_tape : Addr
  fd_l_tape : FuncData
  F_l_tape : Fun K "_law_tape" "_law_tape" s_l_tape f_l_tape fd_l_tape
  g_l_tape : mg "_law_tape" = some (.ref f_l_tape)
  b_l_tape : Binds K fd_l_tape ["_law_script"] []
  f_l_pick : Addr
  fd_l_pick : FuncData
  F_l_pick : Fun K "_law_pick" "_law_pick" s_l_pick f_l_pick fd_l_pick
  g_l_pick : mg "_law_pick" = some (.ref f_l_pick)
  b_l_pick : Binds K fd_l_pick ["_law_tape_here", "_law_size"] []
  f_l_odd : Addr
  fd_l_odd : FuncData
  F_l_odd : Fun K "_law_odd" "_law_odd" s_l_odd f_l_odd fd_l_odd
  g_l_odd : mg "_law_odd" = some (.ref f_l_odd)
  b_l_odd : Binds K fd_l_odd ["_law_tape_here"] []
  f_l_common : Addr
  fd_l_common : FuncData
  F_l_common : Fun K "_law_common" "_law_common" s_l_common f_l_common fd_l_common
  g_l_common : mg "_law_common" = some (.ref f_l_common)
  b_l_common : Binds K fd_l_common ["_law_one", "_law_other"] []
  f_l_divisor : Addr
  fd_l_divisor : FuncData
  F_l_divisor : Fun K "_law_divisor" "_law_divisor" s_l_divisor f_l_divisor fd_l_divisor
  g_l_divisor : mg "_law_divisor" = some (.ref f_l_divisor)
  b_l_divisor : Binds K fd_l_divisor ["_law_lengths_here"] []
  f_l_reach : Addr
  fd_l_reach : FuncData
  F_l_reach : Fun K "_law_reach" "_law_reach" s_l_reach f_l_reach fd_l_reach
  g_l_reach : mg "_law_reach" = some (.ref f_l_reach)
  b_l_reach : Binds K fd_l_reach ["_law_lengths_here", "_law_last"] []
  f_l_lengths : Addr
  fd_l_lengths : FuncData
  F_l_lengths : Fun K "_law_lengths" "_law_lengths" s_l_lengths f_l_lengths fd_l_lengths
  g_l_lengths : mg "_law_lengths" = some (.ref f_l_lengths)
  b_l_lengths : Binds K fd_l_lengths ["_law_tape_here"] []
  f_l_asked : Addr
  fd_l_asked : FuncData
  F_l_asked : Fun K "_law_asked" "_law_asked" s_l_asked f_l_asked fd_l_asked
  g_l_asked : mg "_law_asked" = some (.ref f_l_asked)
  b_l_asked : Binds K fd_l_asked ["_law_kind", "_law_lengths_here", "_law_last"] []
  f_l_is_number : Addr
  fd_l_is_number : FuncData
  F_l_is_number : Fun K "_law_is_number" "_law_is_number" s_l_is_number f_l_is_number fd_l_is_number
  g_l_is_number : mg "_law_is_number" = some (.ref f_l_is_number)
  b_l_is_number : Binds K fd_l_is_number ["_law_thing", "_law_most"] []
  f_l_due : Addr
  fd_l_due : FuncData
  F_l_due : Fun K "_law_due" "_law_due" s_l_due f_l_due fd_l_due
  g_l_due : mg "_law_due" = some (.ref f_l_due)
  b_l_due : Binds K fd_l_due ["_law_kind", "_law_lengths_here", "_law_last"] []
  f_l_bent : Addr
  fd_l_bent : FuncData
  F_l_bent : Fun K "_law_bent" "_law_bent" s_l_bent f_l_bent fd_l_bent
  g_l_bent : mg "_law_bent" = some (.ref f_l_bent)
  b_l_bent : Binds K fd_l_bent ["_law_tape_here", "_law_lengths_here"] []
  f_law : Addr
  fd_law : FuncData
  F_law : Fun K "law" "law" s_law f_law fd_law
  g_law : mg "law" = some (.ref f_law)
  b_law : Binds K fd_law ["_law_script"] []
  C_BadLengths : Addr
  c_BadLengths : mg "BadLengths" = some (.ref C_BadLengths)
  X_BadLengths : Rx.ExcF K f_WayError_init C_BadLengths
  C_BadTimes : Addr
  c_BadTimes : mg "BadTimes" = some (.ref C_BadTimes)
  X_BadTimes : Rx.ExcF K f_WayError_init C_BadTimes
  C_WayError : Addr
  c_WayError : mg "WayError" = some (.ref C_WayError)
  X_WayError : Rx.ExcF K f_WayError_init C_WayError
  s_BadLengths_WayError : PySem.W.subIn K (.ref C_BadLengths) (.ref C_WayError) = some true
  s_BadLengths_BadLengths : PySem.W.subIn K (.ref C_BadLengths) (.ref C_BadLengths) = some true
  s_BadLengths_BadTimes : PySem.W.subIn K (.ref C_BadLengths) (.ref C_BadTimes) = some false
  s_BadTimes_WayError : PySem.W.subIn K (.ref C_BadTimes) (.ref C_WayError) = some true
  s_BadTimes_BadLengths : PySem.W.subIn K (.ref C_BadTimes) (.ref C_BadLengths) = some false
  s_BadTimes_BadTimes : PySem.W.subIn K (.ref C_BadTimes) (.ref C_BadTimes) = some true
  n_isinstance : mg "isinstance" = none
  n_int : mg "int" = none
  n_bool : mg "bool" = none
  n_abs : mg "abs" = none
  n_enumerate : mg "enumerate" = none
  n_list : mg "list" = none
  n_tuple : mg "tuple" = none
  n_len : mg "len" = none
  n_sum : mg "sum" = none
  n_sorted : mg "sorted" = none
  n_range : mg "range" = none
  t_MOST_LENGTHS : Tok
  m_MOST_LENGTHS : mg "MOST_LENGTHS" = some (.int 8 t_MOST_LENGTHS)
  t_MOST_LENGTH : Tok
  m_MOST_LENGTH : mg "MOST_LENGTH" = some (.int 60 t_MOST_LENGTH)
  t_MOST_LAST : Tok
  m_MOST_LAST : mg "MOST_LAST" = some (.int (10 ^ 30) t_MOST_LAST)
end W

local macro_rules | `(tactic| walk_at "rd") => `(tactic| repeat (first
  | with_reducible refine Rd.seq ?_ | with_reducible refine Rd.asg ?_ | with_reducible refine Rd.name ?_ | with_reducible refine Rd.var rfl ?_ | with_reducible refine Rd.con ?_ | with_reducible refine Rd.op ?_
  | with_reducible refine Rd.ret ?_ | with_reducible refine Rd.ifS ?_ | with_reducible refine Rd.test ?_ | with_reducible refine Rd.tstB ?_ | with_reducible refine Rd.bl ?_ | with_reducible refine Rd.blE ?_
  | with_reducible refine Rd.nil ?_ | with_reducible refine Rd.cons ?_ | with_reducible refine Rd.cb ?_ | with_reducible refine Rd.call ?_ | with_reducible refine Rd.un ?_
  | with_reducible refine Rd.i0 ?_ | with_reducible refine Rd.u1 ?_ | with_reducible refine Rd.eqI ?_ | with_reducible refine Rd.neI ?_ | with_reducible refine Rd.eqB ?_ | with_reducible refine Rd.neB ?_ | with_reducible refine Rd.eqS ?_ | with_reducible refine Rd.neS ?_
  | with_reducible refine Rd.and ?_ | with_reducible refine Rd.or ?_ | with_reducible refine Rd.not ?_ | with_reducible refine Rd.andV ?_ | with_reducible refine Rd.orV ?_ | with_reducible refine Rd.notV ?_ | with_reducible refine Rd.ifE ?_ | with_reducible refine Rd.chain ?_
  | with_reducible refine Rd.tup ?_ | with_reducible refine Rd.lst ?_ | with_reducible refine Rd.nxt ?_ | with_reducible refine Rd.retN ?_ | with_reducible refine Rd.drop ?_ | with_reducible refine Rd.brk ?_ | with_reducible refine Rd.cont ?_
  | with_reducible refine Rd.a1 ?_ | with_reducible refine Rd.a2 ?_ | with_reducible refine Rd.v2 ?_ | with_reducible refine Rd.int ?_ | with_reducible refine Rd.abs ?_ | with_reducible refine Rd.max2 ?_ | with_reducible refine Rd.min2 ?_ | with_reducible refine Rd.bm ?_ | with_reducible refine Rd.bm0 ?_ | with_reducible refine Rd.sl ?_ | with_reducible refine Rd.part ?_ | with_reducible refine Rd.noPart ?_ | with_reducible refine Rd.intE ?_ | with_reducible refine Rd.revL ?_ | with_reducible refine Rd.enx ?_ | with_reducible refine Rd.ebk ?_ | with_reducible refine Rd.ect ?_ | with_reducible refine Rd.ert ?_ | with_reducible refine Rd.gcons ?_ | with_reducible refine Rd.gnil ?_ | with_reducible refine Rd.par ?_ | with_reducible refine Rd.sub ?_ | with_reducible refine Rd.iter ?_ | with_reducible refine Rd.iterT ?_ | with_reducible refine Rd.rng1 ?_ | with_reducible refine Rd.refE ?_ | with_reducible refine Rd.aug rfl ?_ | with_reducible refine Rd.ipi ?_ | with_reducible refine Rd.lc ?_ | with_reducible refine Rd.tyes ?_ | with_reducible refine Rd.fldH ?_ | with_reducible refine Rd.sfldH ?_ | with_reducible refine Rd.mkH ?_ | with_reducible refine Rd.methH ?_ | with_reducible refine Rd.istr ?_ | with_reducible refine Rd.strE ?_ | with_reducible refine Rd.lstRg ?_ | with_reducible refine Rd.m1 ?_ | with_reducible refine Rd.dgetH ?_ | with_reducible refine Rd.dinH ?_ | with_reducible refine Rd.dninH ?_ | with_reducible refine Rd.dget1H ?_ | with_reducible refine Rd.strX ?_ | with_reducible refine Rd.tupRg ?_ | with_reducible refine Rd.rg1 ?_ | with_reducible refine Rd.rg2 ?_ | with_reducible refine Rd.intE2 ?_ | with_reducible refine Rw.zipH ?_ | with_reducible refine Rw.itemsH ?_ | with_reducible refine Rw.keysH ?_ | with_reducible refine Rw.dc ?_ | with_reducible refine Rw.ckw ?_ | with_reducible refine Rd.notT ?_ | with_reducible refine Rx.raiseH ?_ | with_reducible refine Rx.callS ?_ | with_reducible refine Rx.xvH ?_ | with_reducible refine Rx.rng3 ?_
  | with_reducible refine L2.iteT ?_ | with_reducible refine L2.iteF ?_
  | with_reducible refine Rd.iteb ?_ | with_reducible refine Rd.iten ?_ | with_reducible refine Rd.itbn ?_))

local macro_rules | `(tactic| walk_at "yes") => `(tactic| (refine (if_pos (by first | assumption | omega)).mpr ?_))
local macro_rules | `(tactic| walk_at "no") => `(tactic| (refine (if_neg (by first | assumption | omega)).mpr ?_))

local macro_rules | `(tactic| k_extra "ne") => `(tactic| first
  | with_reducible assumption | with_reducible exact Ne.symm (by with_reducible assumption) | with_reducible exact Rd.ntT (by with_reducible assumption) (by k_extra "tape")
  | with_reducible exact Rd.neN (by with_reducible assumption) (by k_extra "at") | with_reducible exact Rd.neN' (by with_reducible assumption) (by k_extra "at"))
local macro_rules | `(tactic| k_extra "tape") => `(tactic| first
  | with_reducible assumption | with_reducible exact Rd.tape_same (by with_reducible assumption) (by k_extra "tape"))
local macro_rules | `(tactic| k_extra "at") => `(tactic| first
  | with_reducible assumption
  | with_reducible exact Rd.at_same (by with_reducible assumption) (by k_extra "at")
  | with_reducible exact Rd.at_off (by with_reducible assumption) (by k_extra "ne") (by k_extra "at")
  | with_reducible exact Rd.at_but (by with_reducible assumption) (by k_extra "ne") (by k_extra "at"))
local macro_rules | `(tactic| k_extra "bk") => `(tactic| first
  | with_reducible assumption
  | with_reducible exact Rd.book_same (by with_reducible assumption) (by k_extra "bk")
  | with_reducible exact Rd.book_but (by with_reducible assumption) (by k_extra "tape") (by k_extra "bk"))
local macro_rules | `(tactic| k_extra "sqL") => `(tactic| first
  | with_reducible assumption | with_reducible exact L2.Same.seq (by with_reducible assumption) (by k_extra "sqL"))
local macro_rules | `(tactic| k_extra "sqT") => `(tactic| first
  | with_reducible assumption | with_reducible exact Ru.same_tup (by with_reducible assumption) (by k_extra "sqT"))
local macro_rules | `(tactic| k_extra "sq") => `(tactic| first
  | with_reducible assumption | (with_reducible show L2.SqL _ _ _ _; first | exact L2.SqL.of (by k_extra "at") | k_extra "sqL") | (with_reducible show L2.SqT _ _ _ _; first | exact L2.SqT.of (by k_extra "at") | k_extra "sqT"))
local macro_rules | `(tactic| k_extra "row") => `(tactic| first
  | with_reducible assumption | exact Or.inl (L2.SqL.of (by k_extra "at")) | exact Or.inr (L2.SqT.of (by k_extra "at")) | exact Or.inl (by k_extra "sqL") | exact Or.inr (by k_extra "sqT"))
local macro_rules | `(tactic| k_extra "same") => `(tactic| first
  | with_reducible exact L2.Same.refl _ | with_reducible assumption
  | with_reducible exact Rd.same_tr (by with_reducible assumption) (by k_extra "same")
  | with_reducible exact Rd.same_of2 (by with_reducible assumption) (by with_reducible assumption) (by k_extra "same"))
local macro_rules | `(tactic| k_extra "but") => `(tactic| first
  | with_reducible exact Rd.But.refl _ _ | with_reducible assumption
  | with_reducible exact Rd.but_tr (by with_reducible assumption) (by k_extra "but")
  | with_reducible exact Rd.but_sm (by with_reducible assumption) (by k_extra "but")
  | with_reducible exact Rd.but_of2 (by with_reducible assumption) (by with_reducible assumption) (by k_extra "but"))
local macro_rules | `(tactic| k_extra "sz") => `(tactic| first
  | with_reducible assumption | with_reducible exact Lt.Wd.line (by with_reducible assumption) (by decide) | (rw [PySem.sizeLine_eq]; omega)
  | (simp only [List.length_map, List.length_append, List.length_cons, List.length_nil, List.length_take] <;> rw [PySem.sizeLine_eq] <;> omega) | exact Nat.le_of_ble_eq_true rfl)
local macro_rules | `(tactic| k_extra "go1") => `(tactic| first
  | (with_reducible show Rd.nLenS _ _ _; refine Rd.lenStr (by k_extra "sz") ?_)
  | (with_reducible show Rd.nLen _ _ _ _; first | refine Rd.lenS (by k_extra "row") ?_ | refine Rd.lenI (by k_extra "row") ?_ | refine Rd.lenR (by k_extra "row") ?_)
  | (with_reducible show L2.rSlS _ _ _ _ _; refine Rd.slS (by k_extra "sz") ?_)
  | (with_reducible show L2.tyV _ "list" _ _ ∧ _; refine Rd.tyL (by k_extra "sq") ?_)
  | (with_reducible show Rd.nAddS _ _ _ _; refine Rd.addS (by k_extra "sz") ?_)
  | (with_reducible show L2.rIsi _ _ _ _; first | with_reducible refine Rd.isiStr ?_ | with_reducible refine Rd.isiB ?_ | with_reducible refine Rd.isiI ?_ | with_reducible refine Rd.isiIB ?_ | (first | with_reducible refine Rx.askInt (by with_reducible assumption) ?_ | with_reducible refine Rx.askBl (by with_reducible assumption) ?_ | with_reducible refine Rx.askStr (by with_reducible assumption) ?_ | with_reducible refine Rx.askLst (by with_reducible assumption) ?_ | with_reducible refine Rx.askTup (by with_reducible assumption) ?_ | with_reducible refine Rx.askDct (by with_reducible assumption) ?_))
  | (with_reducible show L2.rIn _ _ _ _ _ _; first | refine Rd.inStrsY (by k_extra "row") ?_ | refine Rd.inStrsN (by k_extra "row") ?_ | refine Rd.inIntsY (by k_extra "row") ?_ | refine Rd.inIntsN (by k_extra "row") ?_)
  | with_reducible refine And.intro (Eq.refl L2.V.non) ?_ | with_reducible refine Rd.ifN ?_ | with_reducible refine Rd.ifR ?_ | with_reducible refine Rd.ifI ?_ | with_reducible refine Rd.ifT ?_)
local macro_rules | `(tactic| walk_at "go") => `(tactic| (walk_at "rd"; repeat (k_extra "go1"; walk_at "rd")))

namespace W
open PySem PySem.Spec PyProof.Rows L2
section
variable {P : Program} {w : World} {K : PySem.W.Frag} {mg : Str → Option Value} {base : Heap}
/-! ### WayError.__init__ -/
abbrev sp_WayError_init (K : PySem.W.Frag) : Sp := Rx.spWe K
theorem ok_WayError_init (T : Txt K mg) : FnOk P w K mg base CX0 1 T.f_WayError_init T.fd_WayError_init ["self", "value"] (sp_WayError_init K) := by
  refine T.D_WayError_init.ok (CX := CX0) sc_WayError_init (fun vs H Q E h => ?_) (fun cdv A outer s H vs Q E hr h => ?_)
  · obtain ⟨a, C, v, rfl, _⟩ := h
    rfl
  · obtain ⟨a, C, v, rfl, oc, nv, ha, k⟩ := h
    refine ⟨_, (pss_one (ps_ost (pv 0) (pv 1))), ?_⟩
    exact ⟨_, rfl, _, rfl, a, C, rfl, oc, nv, .inl ⟨ha, fun dx n ne => k dx n ne⟩⟩

end
end W

namespace W
open PySem PySem.Spec PyProof.Rows L2
section
variable {P : Program} {w : World} {K : PySem.W.Frag} {mg : Str → Option Value} {base : Heap}
/-! ### the tape: a list of the cells (never written) and four ints; what is drawn lies below the size -/
/-- a tape stands at t, its cells at c -/
def sp_l_tape (K : PySem.W.Frag) : Sp := fun vs H Q _ => ∃ (a : Addr) (ns : List Int), vs = [.ref a] ∧ SqL K H a (ns.map V.int) ∧ ∀ t c H', Tape H' t c → Same H H' → H t = none → H c = none → Q (.ref t) H'
def sp_l_pick (K : PySem.W.Frag) : Sp := fun vs H Q _ => ∃ (t c : Addr) (n : Int), vs = [.ref t, .int n] ∧ Tape H t c ∧ 0 < n ∧ n < 1073741824 ∧ ∀ r H', 0 ≤ r → r < n → Tape H' t c → Rd.But t H H' → Q (.int r) H'
theorem ok_l_tape (T : Txt K mg) : FnOk P w K mg base CX0 1 T.f_l_tape T.fd_l_tape ["_law_script"] (sp_l_tape K) := by
  refine T.F_l_tape.ok sc_l_tape (fun vs H Q E h => ?_) (fun cdv A outer s H vs Q E hr h => ?_)
  · obtain ⟨a, ns, rfl, _⟩ := h
    rfl
  · obtain ⟨a, ns, rfl, hS, k⟩ := h
    refine ⟨_, (pss_one (ps_ret (pe_lst (pa_cons (pe_callTy (T := "list") (r := Rd.nListOf K) Rd.c_listOf (by rfl) T.n_list (by decide +kernel) (pa_cons (pv 0) pa_nil)) (pa_cons pe_int (pa_cons pe_int (pa_cons pe_int (pa_cons pe_int pa_nil)))))))), ?_⟩
    walk_at "rd"
    refine Rd.listOf (.inl hS) (Rd.new fun c G hc gc s1 => ?_)
    walk_at "rd"
    refine ⟨Nat.le_of_ble_eq_true rfl, Rd.new fun t G2 ht gt s2 => ?_⟩
    have tc : c ≠ t := ne_of_none gc ht
    exact k t c _ ⟨ns, 0, 0, 1, 0, tc.symm, gt, s2 _ _ gc, by decide, by omega, by decide, by decide⟩ (s1.trans s2) (s1.free ht) hc
theorem ok_l_pick (T : Txt K mg) : FnOk P w K mg base CX0 1 T.f_l_pick T.fd_l_pick ["_law_tape_here", "_law_size"] (sp_l_pick K) := by
  refine T.F_l_pick.ok sc_l_pick (fun vs H Q E h => ?_) (fun cdv A outer s H vs Q E hr h => ?_)
  · obtain ⟨t, c, n, rfl, _⟩ := h
    rfl
  · obtain ⟨t, c, n, rfl, ⟨ns, x, y, z, u, tc, h1, h2, x0, x1, z0, z1⟩, n0, n1, k⟩ := h
    refine ⟨_, (pss_cons (ps_if (pt_cmpR op_gt (pe_ix (r := rIxL K) ix_list (pv 0) pe_int (fun _ _ => rfl)) pe_int (nomark _))
  (pss_cons (ps_set (i := 2) sc_l_pick.nd rfl (.inl rfl) (pe_op op_mod (pe_callTy (T := "int") (r := _) Rd.c_int (by rfl) T.n_int (by decide +kernel) (pa_cons (pe_ix (r := rIxL K) ix_list (pv 0) pe_int (fun _ _ => rfl)) pa_nil)) (pv 1)))
  (pss_cons (ps_asg (pe_op op_fdiv (pe_ix (r := rIxL K) ix_list (pv 0) pe_int (fun _ _ => rfl)) (pv 1)) (pg_sub (pv 0) pe_int set_list))
  (pss_one (ps_ret (pv 2)))))
  pss_nil)
  (pss_cons (ps_asg (pe_op op_add (pe_ix (r := rIxL K) ix_list (pv 0) pe_int (fun _ _ => rfl)) pe_int) (pg_sub (pv 0) pe_int set_list))
  (pss_cons (ps_set (i := 3) sc_l_pick.nd rfl (.inl rfl) pe_int)
  (C8.pss_cut (ps_if (pt_cmpR op_lt (pe_ix (r := rIxL K) ix_list (pv 0) pe_int (fun _ _ => rfl)) (pe_callB (id := "len") (r := Rd.nLen K) Rd.c_len (by rfl) T.n_len (by decide +kernel) (pa_cons (pe_ix ix_list (pv 0) pe_int (fun _ _ => rfl)) pa_nil)) (nomark _))
  (pss_cons (ps_set (i := 3) sc_l_pick.nd rfl (.inl rfl) (pe_ix (r := rIxL K) ix_list (pe_ix ix_list (pv 0) pe_int (fun _ _ => rfl)) (pe_ix (r := rIxL K) ix_list (pv 0) pe_int (fun _ _ => rfl)) (fun _ _ => rfl)))
  (pss_one (ps_asg (pe_op op_add (pe_ix (r := rIxL K) ix_list (pv 0) pe_int (fun _ _ => rfl)) pe_int) (pg_sub (pv 0) pe_int set_list))))
  pss_nil)
  (pss_cons (ps_if (pt_cmpR op_ge (pv 3) (pe_op op_pow pe_int pe_int) (nomark _))
  (pss_cons (ps_asg (pe_op op_fdiv (pv 3) (pv 1)) (pg_sub (pv 0) pe_int set_list))
  (pss_one (ps_ret (pe_op op_mod (pe_callTy (T := "int") (r := _) Rd.c_int (by rfl) T.n_int (by decide +kernel) (pa_cons (pv 3) pa_nil)) (pv 1)))))
  pss_nil)
  (pss_cons (ps_set (i := 4) sc_l_pick.nd rfl (.inl rfl) (pe_op op_mod (pe_callTy (T := "int") (r := _) Rd.c_int (by rfl) T.n_int (by decide +kernel) (pa_cons (pe_op op_add (pe_op op_add (pe_op op_mul (pe_ix (r := rIxL K) ix_list (pv 0) pe_int (fun _ _ => rfl)) pe_int) (pe_op op_mod (pe_callTy (T := "int") (r := _) Rd.c_int (by rfl) T.n_int (by decide +kernel) (pa_cons (pv 3) pa_nil)) pe_int)) (pe_op op_mul (pe_ix (r := rIxL K) ix_list (pv 0) pe_int (fun _ _ => rfl)) pe_int)) pa_nil)) pe_int))
  (pss_cons (ps_set (i := 4) sc_l_pick.nd rfl (.inl rfl) (pe_op op_mod (pe_callTy (T := "int") (r := _) Rd.c_int (by rfl) T.n_int (by decide +kernel) (pa_cons (pe_op op_mul (pv 4) (pe_op op_add (pe_op op_fdiv (pv 4) pe_int) pe_int)) pa_nil)) pe_int))
  (pss_cons (ps_asg (pv 4) (pg_sub (pv 0) pe_int set_list))
  (pss_one (ps_ret (pe_op op_mod (pe_callTy (T := "int") (r := _) Rd.c_int (by rfl) T.n_int (by decide +kernel) (pa_cons (pe_op op_fdiv (pv 4) pe_int) pa_nil)) (pv 1)))))))))))), ?_⟩
    walk_at "rd"
    refine Rd.ixL (.of h1) (atI_nat (j := 2) rfl) ?_
    walk_at "rd"
    refine ite2 (fun q => ?_) (fun q => ?_)
    · walk_at "rd"
      refine Rd.ixL (.of h1) (atI_nat (j := 2) rfl) ?_
      walk_at "rd"
      refine Rd.iC n0 ?_
      walk_at "rd"
      refine Rd.ixL (.of h1) (atI_nat (j := 2) rfl) ?_
      walk_at "rd"
      refine Rd.iC ⟨n0, n1⟩ ?_
      walk_at "rd"
      refine Rd.setG h1 (show ixN 5 2 = some 2 by decide) rfl fun G g1 gb => ?_
      walk_at "rd"
      exact k _ _ (Int.emod_nonneg _ (by omega)) (Int.emod_lt_of_pos _ n0) ⟨ns, x, _, z, u, tc, g1, by rw [gb _ tc.symm]; exact h2, x0, x1, z0, z1⟩ (fun b o hb e => by rw [gb b hb]; exact e)
    · walk_at "rd"
      refine Rd.ixL (.of h1) (atI_nat (j := 4) rfl) ?_
      walk_at "rd"
      refine Rd.setG h1 (show ixN 5 4 = some 4 by decide) rfl fun G g1 gb => ?_
      have g2 : G c = some (.lst (ns.map V.int)) := by rw [gb _ tc.symm]; exact h2
      walk_at "rd"
      -- the cell m is read (or 0)
      refine Rd.cut (fun σ G' => ∃ x' m : Int, σ = [some (.ref t), some (.int n), none, some (.int m), none] ∧ 0 ≤ x' ∧ x' ≤ ns.length ∧ G' t = some (.lst [.ref c, .int x', .int y, .int z, .int (u + 1)]) ∧ (∀ b, b ≠ t → G' b = H b)) ?_ ?_
      · walk_at "rd"
        refine Rd.ixL (.of g1) (atI_nat (j := 1) rfl) ?_
        walk_at "rd"
        refine Rd.ixL (.of g1) (atI_nat (j := 0) rfl) ?_
        walk_at "rd"
        refine Rd.len (.inl (.of g2)) ?_
        rw [List.length_map]
        walk_at "rd"
        refine ite2 (fun q2 => ?_) (fun q2 => ?_)
        · walk_at "rd"
          refine Rd.ixL (.of g1) (atI_nat (j := 0) rfl) ?_
          walk_at "rd"
          refine Rd.ixL (.of g1) (atI_nat (j := 1) rfl) ?_
          have hx : x.toNat < ns.length := by omega
          refine Rd.ixL (.of g2) (Rd.atI_of x0 (Rd.map_int hx)) ?_
          walk_at "rd"
          refine Rd.ixL (.of g1) (atI_nat (j := 1) rfl) ?_
          walk_at "rd"
          refine Rd.setG g1 (show ixN 5 1 = some 1 by decide) rfl fun G2 k1 kb => ?_
          walk_at "rd"
          exact ⟨x + 1, _, rfl, by omega, by omega, k1, fun b hb => (kb b hb).trans (gb b hb)⟩
        · walk_at "rd"
          exact ⟨x, 0, rfl, x0, x1, g1, gb⟩
      · rintro _ G' ⟨x', m, rfl, x'0, x'1, e1, eb⟩
        have e2 : G' c = some (.lst (ns.map V.int)) := by rw [eb _ tc.symm]; exact h2
        walk_at "rd"
        refine Rd.iC ⟨by decide, by decide, by decide⟩ ?_
        walk_at "rd"
        refine ite2 (fun q2 => ?_) (fun q2 => ?_)
        · walk_at "rd"
          refine Rd.iC ⟨n0, n1⟩ ?_
          walk_at "rd"
          refine Rd.setG e1 (show ixN 5 2 = some 2 by decide) rfl fun G2 k1 kb => ?_
          walk_at "rd"
          refine Rd.iC n0 ?_
          walk_at "rd"
          exact k _ _ (Int.emod_nonneg _ (by omega)) (Int.emod_lt_of_pos _ n0) ⟨ns, x', _, z, u + 1, tc, k1, by rw [kb _ tc.symm]; exact e2, x'0, x'1, z0, z1⟩ (fun b o hb e => by rw [kb b hb, eb b hb]; exact e)
        · walk_at "rd"
          refine Rd.ixL (.of e1) (atI_nat (j := 3) rfl) ?_
          walk_at "rd"
          refine Rd.iC (.inr (by decide)) ?_
          walk_at "rd"
          refine Rd.iC (by decide) ?_
          walk_at "rd"
          refine Rd.ixL (.of e1) (atI_nat (j := 4) rfl) ?_
          walk_at "rd"
          refine Rd.iC (.inr (by decide)) ?_
          walk_at "rd"
          refine Rd.iC (by decide) ?_
          generalize hM : (z * 48271 + m % 2147483629 + (u + 1) * 69621) % 2147483647 = M
          have M0 : 0 ≤ M := by rw [← hM]; exact Int.emod_nonneg _ (by decide)
          have M1 : M < 2147483647 := by rw [← hM]; exact Int.emod_lt_of_pos _ (by decide)
          walk_at "rd"
          refine Rd.iC ⟨by decide, by decide⟩ ?_
          walk_at "rd"
          refine Rd.iC (.inl ⟨by omega, by omega⟩) ?_
          walk_at "rd"
          refine Rd.iC (by decide) ?_
          generalize hN : M * (M / 1009 + 40692) % 2147483399 = N
          have N0 : 0 ≤ N := by rw [← hN]; exact Int.emod_nonneg _ (by decide)
          have N1 : N < 2147483399 := by rw [← hN]; exact Int.emod_lt_of_pos _ (by decide)
          walk_at "rd"
          refine Rd.setG e1 (show ixN 5 3 = some 3 by decide) rfl fun G2 k1 kb => ?_
          walk_at "rd"
          refine Rd.iC ⟨by decide, by decide⟩ ?_
          walk_at "rd"
          refine Rd.iC n0 ?_
          walk_at "rd"
          exact k _ _ (Int.emod_nonneg _ (by omega)) (Int.emod_lt_of_pos _ n0) ⟨ns, x', y, N, u + 1, tc, k1, by rw [kb _ tc.symm]; exact e2, x'0, x'1, N0, by omega⟩ (fun b o hb e => by rw [kb b hb, eb b hb]; exact e)
theorem pickR {K : PySem.W.Frag} {H : Hp} {t c : Addr} {n : Int} {Q : VK} {E : XK} (T : Tape H t c) (h0 : 0 < n) (h1 : n < 1073741824) (k : ∀ r H', 0 ≤ r → r < n → Tape H' t c → Rd.But t H H' → Q (.int r) H') : sp_l_pick K [.ref t, .int n] H Q E := ⟨t, c, n, rfl, T, h0, h1, k⟩
/-! ### what stays when only the tape is written -/
theorem but_L {K : PySem.W.Frag} {H H' : Hp} {t a : Addr} {xs : List V} (e : Rd.But t H H') (n : a ≠ t) (h : SqL K H a xs) : SqL K H' a xs := by
  rcases h with (h | ⟨o, h⟩) | h
  · exact .inl (.inl (e _ _ n h))
  · exact .inl (.inr ⟨o, e _ _ n h⟩)
  · exact .inr h
theorem but_T {K : PySem.W.Frag} {H H' : Hp} {t a : Addr} {xs : List V} (e : Rd.But t H H') (n : a ≠ t) (h : SqT K H a xs) : SqT K H' a xs := by
  rcases h with (h | ⟨o, h⟩) | h
  · exact .inl (.inl (e _ _ n h))
  · exact .inl (.inr ⟨o, e _ _ n h⟩)
  · exact .inr h
theorem but_R {K : PySem.W.Frag} {H H' : Hp} {t a : Addr} {xs : List V} (e : Rd.But t H H') (n : a ≠ t) (h : Ru.SqR K H a xs) : Ru.SqR K H' a xs := h.imp (but_L e n) (but_T e n)

end
end W

namespace W
open PySem PySem.Spec PyProof.Rows L2
section
variable {P : Program} {w : World} {K : PySem.W.Frag} {mg : Str → Option Value} {base : Heap}
/-! ### is_integer of anything -/
def sp_is_integer (K : PySem.W.Frag) : Sp := fun vs H Q _ => ∃ (x : V) (k : Rx.Kd), vs = [x] ∧ Rx.Is H x k ∧ Q (.bl k.isNum) H
theorem ok_is_integer (T : Txt K mg) : FnOk P w K mg base CX0 1 T.f_is_integer T.fd_is_integer ["value"] (sp_is_integer K) := by
  refine T.F_is_integer.ok sc_is_integer (fun vs H Q E h => ?_) (fun cdv A outer s H vs Q E hr h => ?_)
  · obtain ⟨x, kd, rfl, _⟩ := h
    rfl
  · obtain ⟨x, kd, rfl, hx, k⟩ := h
    refine ⟨_, (pss_one (ps_ret (pe_and (pe_callB (id := "isinstance") (r := rIsi K) call_isi (by rfl) T.n_isinstance (by decide +kernel) (pa_cons (pv 0) (pa_cons (pe_bltn (v := .ty "int") (u := .type "int") (by rfl) T.n_int (by decide +kernel) rfl) pa_nil))) (pe_one (pe_not (pe_callB (id := "isinstance") (r := rIsi K) call_isi (by rfl) T.n_isinstance (by decide +kernel) (pa_cons (pv 0) (pa_cons (pe_bltn (v := .ty "bool") (u := .type "bool") (by rfl) T.n_bool (by decide +kernel) rfl) pa_nil)))))))), ?_⟩
    walk_at "go"
    cases hx <;> first | (refine Rd.no Bool.false_ne_true ?_; exact k) | (refine Rd.yes rfl ?_; walk_at "go"; exact k)

end
end W

namespace W
open PySem PySem.Spec PyProof.Rows L2
section
variable {P : Program} {w : World} {K : PySem.W.Frag} {mg : Str → Option Value} {base : Heap}
/-! ### lengths, their common divisor, what they reach -/
def sp_common (K : PySem.W.Frag) : Sp := fun vs H Q _ => ∃ a b : Int, vs = [.int a, .int b] ∧ Q (.int (Nat.gcd a.natAbs b.natAbs : Nat)) H
theorem ok_common (T : Txt K mg) : FnOk P w K mg base CX0 1 T.f_common T.fd_common ["one", "other"] (sp_common K) := by
  refine T.F_common.ok sc_common (fun vs H Q E h => ?_) (fun cdv A outer s H vs Q E hr h => ?_)
  · obtain ⟨a, b, rfl, _⟩ := h
    rfl
  · obtain ⟨a, b, rfl, k⟩ := h
    refine ⟨_, (pss_cons (ps_set (i := 0) sc_common.nd rfl (.inl rfl) (pe_callB (id := "abs") (r := _) Rd.c_abs (by rfl) T.n_abs (by decide +kernel) (pa_cons (pv 0) pa_nil)))
  (pss_cons (ps_set (i := 1) sc_common.nd rfl (.inl rfl) (pe_callB (id := "abs") (r := _) Rd.c_abs (by rfl) T.n_abs (by decide +kernel) (pa_cons (pv 1) pa_nil)))
  (pss_cons (ps_while PassesOwn.never (pt_cmpR op_gt (pv 1) pe_int (nomark _))
  (pss_one (ps_par (i := 0) (j := 1) rfl sc_common.nd rfl rfl (by decide) rfl rfl (pa_cons (pv 1) (pa_cons (pe_op op_mod (pv 0) (pv 1)) pa_nil)) (by rfl))))
  (pss_one (ps_ret (pv 0)))))), ?_⟩
    walk_at "rd"
    refine Rd.whl (fun m σ H' => ∃ x : Nat, σ = [some (.int x), some (.int m)] ∧ Nat.gcd x m = Nat.gcd a.natAbs b.natAbs ∧ H' = H) ⟨b.natAbs, a.natAbs, rfl, rfl, rfl⟩ ?_
    rintro m _ _ ⟨x, rfl, e, rfl⟩
    walk_at "rd"
    refine ite2 (fun c => ?_) (fun c => ?_)
    · refine Rd.whN ?_
      walk_at "rd"
      refine Rd.iC c ?_
      walk_at "rd"
      have hm : 0 < m := by omega
      refine ⟨x % m, Nat.mod_lt _ hm, m, ?_, ?_, rfl⟩
      · rw [Int.natCast_emod]
        rfl
      · rw [← e, Nat.gcd_comm x m, Nat.gcd_rec m x, Nat.gcd_comm]
    · have hm : m = 0 := by omega
      subst hm
      walk_at "rd"
      rw [Nat.gcd_zero_right] at e
      rw [e]
      exact k
structure Lens (ns : List Int) : Prop where
  l0 : 1 ≤ ns.length
  l1 : ns.length ≤ 8
  all : ∀ n ∈ ns, 1 ≤ n ∧ n ≤ 60
def sp_divisor_of (K : PySem.W.Frag) : Sp := fun vs H Q _ => ∃ (a : Addr) (ns : List Int), vs = [.ref a] ∧ Ru.SqR K H a (ns.map V.int) ∧ ∀ H', Same H H' → Q (.int (M85.gcdL ns : Nat)) H'
theorem ok_divisor_of (T : Txt K mg) : FnOk P w K mg base CX0 2 T.f_divisor_of T.fd_divisor_of ["lengths"] (sp_divisor_of K) := by
  refine T.F_divisor_of.ok sc_divisor_of (fun vs H Q E h => ?_) (fun cdv A outer s H vs Q E hr h => ?_)
  · obtain ⟨a, ns, rfl, _⟩ := h
    rfl
  · obtain ⟨a, ns, rfl, hS, k⟩ := h
    refine ⟨_, (pss_cons (ps_set (i := 1) sc_divisor_of.nd rfl (.inl rfl) pe_int)
  (pss_cons (ps_for PassesOwn.never rfl (Ru.pi_or (pi_list (pv 0)) (pi_tup (pv 0))) (pg_name (i := 2) sc_divisor_of.nd rfl (.inl rfl))
  (pss_one (ps_set (i := 1) sc_divisor_of.nd rfl (.inl rfl) (pe_call (ok_common T) (hr.mono (by decide)) rfl T.g_common T.F_common.kp T.b_common .nil pass0 (pa_cons (pv 2) (pa_cons (pv 1) pa_nil))))))
  (pss_one (ps_ret (pv 1))))), ?_⟩
    walk_at "rd"
    refine Ru.for_row (a := a) (xs := ns.map V.int) (fun Q q => ?_) (fun i σ H' => ∃ x, σ = [some (.ref a), some (.int ((ns.take i).foldl (fun g l => Nat.gcd l.natAbs g) 0 : Nat)), x] ∧ Same H H') hS ⟨_, rfl, Same.refl _⟩ (fun i σ H' _ ⟨_, _, z⟩ => z) ?_ ?_
    · walk_at "rd"
      exact q
    · rintro i x _ H' hx ⟨_, rfl, sm⟩
      obtain ⟨n, hn, rfl⟩ := Rd.map_get hx
      walk_at "rd"
      refine ⟨_, _, rfl, ?_⟩
      walk_at "rd"
      refine ⟨some (.int n), ?_, sm⟩
      rw [Rd.take_snoc hn, List.foldl_append]
      rfl
    · rintro _ H' ⟨_, rfl, sm⟩
      rw [List.length_map, List.take_length]
      walk_at "rd"
      exact k _ sm
def sp_far_from (K : PySem.W.Frag) : Sp := fun vs H Q _ => ∃ (a : Addr) (ns : List Int), vs = [.ref a] ∧ Ru.SqR K H a (ns.map V.int) ∧ Lens ns ∧
  ∀ H' r, Same H H' → 0 ≤ r → r ≤ 120 → (∀ n, r ≤ n → ns.Pairwise fun x y => x + y ≤ n) → Q (.int r) H'
def sp_steps_reach (K : PySem.W.Frag) : Sp := fun vs H Q _ => ∃ (a : Addr) (ns : List Int) (last : Int), vs = [.ref a, .int last] ∧ Ru.SqR K H a (ns.map V.int) ∧ 0 ≤ last ∧ last ≤ 1000000 ∧
  ∀ H' b, Same H H' → (b = true ↔ M85.Reach ns last last) → Q (.bl b) H'
theorem ok_far_from (T : Txt K mg) : FnOk P w K mg base CX0 1 T.f_far_from T.fd_far_from ["lengths"] (sp_far_from K) := by
  refine T.F_far_from.ok sc_far_from (fun vs H Q E h => ?_) (fun cdv A outer s H vs Q E hr h => ?_)
  · obtain ⟨a, ns, rfl, _⟩ := h
    rfl
  · obtain ⟨a, ns, rfl, hS, L, k⟩ := h
    refine ⟨_, (pss_one (ps_ret (pe_ifExp (pt_cmpR op_gt (pe_callB (id := "len") (r := Rd.nLen K) Rd.c_len (by rfl) T.n_len (by decide +kernel) (pa_cons (pv 0) pa_nil)) pe_int (nomark _)) (pe_callB (id := "sum") (r := rSum K) (cr_sum rfl) (by rfl) T.n_sum (by decide +kernel) (pa_cons (pe_slice (r := rSlL K) sl_list (pe_callB (id := "sorted") (r := _) (Ru.callR_or cr_sortedI Ru.cr_sortedTup) (by rfl) T.n_sorted (by decide +kernel) (pa_cons (pv 0) pa_nil)) (po_some (pe_un un_neg pe_int)) po_none) pa_nil)) pe_int))), ?_⟩
    walk_at "rd"
    refine Rd.len hS ?_
    rw [List.length_map]
    walk_at "rd"
    refine ite2 (fun c => ?_) (fun c => ?_)
    · walk_at "rd"
      refine Ru.sortedR hS fun ms p G hp hs gp sG np => ?_
      walk_at "rd"
      have hl : 2 ≤ ms.length := by rw [hp.length_eq]; omega
      obtain ⟨st, b, x, rfl⟩ := Rd.last2 hl
      refine Rd.slL (.of gp) (Rd.new fun p2 G2 np2 gp2 sG2 => ?_)
      rw [Rd.cut_last2] at gp2
      walk_at "rd"
      refine Rd.sum (.of gp2) ?_
      have hb : b ∈ ns := hp.mem_iff.mp (by simp)
      have hx : x ∈ ns := hp.mem_iff.mp (by simp)
      have b1 := L.all b hb
      have x1 := L.all x hx
      have e : [b, x].sum = b + x := by simp
      rw [e]
      exact k _ _ (sG.trans sG2) (by omega) (by omega) fun n hn => M85.pairs_of_sorted hp hs hn
    · walk_at "rd"
      refine k _ _ (Same.refl H) (by omega) (by omega) fun n hn => ?_
      match ns, c, L.l0 with
      | [z], _, _ => exact List.pairwise_singleton _ _
      | [], _, q => exact absurd q (by decide)
      | _ :: _ :: _, c, _ => exact absurd c (by simp; omega)
theorem ok_steps_reach (T : Txt K mg) : FnOk P w K mg base CX0 1 T.f_steps_reach T.fd_steps_reach ["lengths", "last"] (sp_steps_reach K) := by
  refine T.F_steps_reach.ok sc_steps_reach (fun vs H Q E h => ?_) (fun cdv A outer s H vs Q E hr h => ?_)
  · obtain ⟨a, ns, last, rfl, _⟩ := h
    rfl
  · obtain ⟨a, ns, last, rfl, hS, l0, l1, k⟩ := h
    refine ⟨_, (pss_cons (ps_set (i := 2) sc_steps_reach.nd rfl (.inl rfl) (pe_op op_rep (pe_lst (pa_cons pe_bl pa_nil)) (pe_op op_add (pv 1) pe_int)))
  (pss_cons (ps_asg pe_bl (pg_sub (pv 2) pe_int set_list))
  (pss_cons (ps_set (i := 3) sc_steps_reach.nd rfl (.inl rfl) (pe_lst (pa_cons pe_int pa_nil)))
  (pss_cons (ps_set (i := 4) sc_steps_reach.nd rfl (.inl rfl) pe_int)
  (pss_cons (ps_while PassesOwn.never (pt_cmpR op_lt (pv 4) (pe_callB (id := "len") (r := Rd.nLen K) Rd.c_len (by rfl) T.n_len (by decide +kernel) (pa_cons (pv 3) pa_nil)) (nomark _))
  (pss_cons (ps_for PassesOwn.never rfl (Ru.pi_or (pi_list (pv 0)) (pi_tup (pv 0))) (pg_name (i := 5) sc_steps_reach.nd rfl (.inl rfl))
  (pss_one (ps_for PassesOwn.never rfl (pi_tup (pe_tup (pa_cons (pe_op op_sub (pe_ix (r := rIxL K) ix_list (pv 3) (pv 4) (fun _ _ => rfl)) (pv 5)) (pa_cons (pe_op op_add (pe_ix (r := rIxL K) ix_list (pv 3) (pv 4) (fun _ _ => rfl)) (pv 5)) pa_nil)))) (pg_name (i := 6) sc_steps_reach.nd rfl (.inl rfl))
  (pss_one (ps_if (PW.pt (pw_and (pt_chain op_le op_le pe_int (pv 6) (pv 1)) (pw_and1 (pt_not (pt_val (pe_ix (r := rIxL K) ix_list (pv 2) (pv 6) (fun _ _ => rfl)))))))
  (pss_cons (ps_asg pe_bl (pg_sub (pv 2) (pv 6) set_list))
  (pss_one (ps_expr (pe_bm PySem.F.plainAttrs_list PySem.F.slot_list_append PySem.F.type_list_append mt_append (pv 3) (pa_cons (pv 6) pa_nil)))))
  pss_nil)))))
  (pss_one (ps_aug (i := 4) sc_steps_reach.nd rfl (.inl rfl) pe_int ip_add))))
  (pss_one (ps_ret (pe_ix (r := rIxL K) ix_list (pv 2) (pv 1) (fun _ _ => rfl))))))))), ?_⟩
    walk_at "rd"
    refine ⟨Nat.le_of_ble_eq_true rfl, Rd.new fun p0 G0 np0 gp0 sG0 => ?_⟩
    walk_at "rd"
    have et : (last + 1).toNat = last.toNat + 1 := by omega
    refine Rd.rep gp0 (by omega) (by omega) (by rw [et, sizeLine_eq]; show 1 * _ ≤ _; omega) (Rd.new fun m G1 npm gpm sG1 => ?_)
    rw [Rd.rep_map, et] at gpm
    walk_at "rd"
    refine Rd.setG gpm (show ixN ((List.replicate (last.toNat + 1) false).map V.bl).length 0 = some 0 from Rd.ixN_of (by decide) (by simp; omega)) (Rd.map_set V.bl _ _ _) fun G2 g2 gb2 => ?_
    walk_at "rd"
    refine ⟨Nat.le_of_ble_eq_true rfl, Rd.new fun f G3 npf gpf sG3 => ?_⟩
    walk_at "rd"
    have nm : H m = none := (sG0.free npm)
    have s2 : Same H G2 := fun b o e => by rw [gb2 b (ne_of_none e nm)]; exact sG1 _ _ (sG0 _ _ e)
    have nf : H f = none := s2.free npf
    have mf : m ≠ f := ne_of_none g2 npf
    have s3 : Same H G3 := s2.trans sG3
    have gm3 := sG3 _ _ g2
    have gf3 : G3 f = some (.lst (([0] : List Int).map V.int)) := gpf
    refine Rd.whl (fun mu σ H' => ∃ (n : Nat) (met : List Bool) (found : List Int) (o1 o2 : Option V), σ = [some (.ref a), some (.int last), some (.ref m), some (.ref f), some (.int n), o1, o2] ∧ Same H H' ∧ H' m = some (.lst (met.map V.bl)) ∧ H' f = some (.lst (found.map V.int)) ∧
      M85.Good ns last met found ∧ M85.Closed ns last found n ∧ n ≤ found.length ∧ mu = last.toNat + 1 - n)
      ⟨_, 0, _, [0], none, none, rfl, s3, gm3, gf3, M85.Good.start l0, M85.Closed.zero, Nat.zero_le _, rfl⟩ ?_
    rintro mu _ H' ⟨n, met, found, o1, o2, rfl, sm, hm, hf, good, cl, nl, rfl⟩
    walk_at "rd"
    refine Rd.len (.inl (.of hf)) ?_
    rw [List.length_map]
    walk_at "rd"
    refine ite2 (fun c => ?_) (fun c => ?_)
    · -- a turn
      have c' : n < found.length := by omega
      have fl := good.le
      refine Rd.whN ?_
      walk_at "rd"
      obtain ⟨x, hx⟩ : ∃ x, found[n]? = some x := ⟨_, List.getElem?_eq_getElem c'⟩
      have xr := good.reach x (List.mem_of_getElem? hx)
      refine Ru.for_row (a := a) (xs := ns.map V.int) (fun Q q => ?_) (fun i σ H' => ∃ (met : List Bool) (found : List Int) (o1 o2 : Option V), σ = [some (.ref a), some (.int last), some (.ref m), some (.ref f), some (.int n), o1, o2] ∧ Same H H' ∧ H' m = some (.lst (met.map V.bl)) ∧ H' f = some (.lst (found.map V.int)) ∧
        M85.Good ns last met found ∧ M85.Closed ns last found n ∧ n < found.length ∧ found[n]? = some x ∧ M85.Near (ns.take i) last found x) hS
        ⟨met, found, o1, o2, rfl, sm, hm, hf, good, cl, c', hx, M85.Near.nil⟩ (fun i σ H' _ ⟨_, _, _, _, _, z, _⟩ => z) ?_ ?_
      · walk_at "rd"
        exact q
      · -- a length
        rintro i y _ H' hy ⟨met, found, o1, o2, rfl, sm, hm, hf, good, cl, c', hx, near⟩
        obtain ⟨l, hl, rfl⟩ := Rd.map_get hy
        have lm := List.mem_of_getElem? hl
        walk_at "rd"
        refine Rd.forS ?_
        walk_at "rd"
        have hx' : (found.map V.int)[n]? = some (.int x) := by rw [List.getElem?_map, hx]; rfl
        refine Rd.ixL (.of hf) (atI_nat hx') ?_
        walk_at "rd"
        refine Rd.ixL (.of hf) (atI_nat hx') ?_
        walk_at "rd"
        refine ⟨Nat.le_of_ble_eq_true rfl, Rd.new fun tp G4 np4 gp4 sG4 => ?_⟩
        walk_at "rd"
        have tm : tp ≠ m := (ne_of_none hm np4).symm
        have tf : tp ≠ f := (ne_of_none hf np4).symm
        refine ⟨⟨_, .of gp4⟩, for_tup (K := K) (a := tp) (xs := [.int (x - l), .int (x + l)]) (fun j σ H' => ∃ (met : List Bool) (found : List Int) (o2 : Option V), σ = [some (.ref a), some (.int last), some (.ref m), some (.ref f), some (.int n), some (.int l), o2] ∧ Same H H' ∧ H' tp = some (.tup [.int (x - l), .int (x + l)]) ∧ H' m = some (.lst (met.map V.bl)) ∧ H' f = some (.lst (found.map V.int)) ∧
          M85.Good ns last met found ∧ M85.Closed ns last found n ∧ n < found.length ∧ found[n]? = some x ∧ M85.Near (ns.take i) last found x ∧ (1 ≤ j → 0 ≤ x - l → x - l ≤ last → x - l ∈ found) ∧ (2 ≤ j → 0 ≤ x + l → x + l ≤ last → x + l ∈ found))
          ⟨met, found, o2, rfl, sm.trans sG4, gp4, sG4 _ _ hm, sG4 _ _ hf, good, cl, c', hx, near, fun z => absurd z (by decide), fun z => absurd z (by decide)⟩ (fun j σ H' _ ⟨_, _, _, _, _, z, _⟩ => .of z) ?_ ?_⟩
        · -- a spot
          rintro j z _ H' hz ⟨met, found, o2, rfl, sm, ht, hm, hf, good, cl, c', hx, near, n1, n2⟩
          obtain ⟨t, rfl, et, ej⟩ : ∃ t, z = V.int t ∧ (t = x + l ∨ t = x - l) ∧ ((j = 0 ∧ t = x - l) ∨ (j = 1 ∧ t = x + l)) := by
            match j, hz with
            | 0, hz => cases hz; exact ⟨_, rfl, .inr rfl, .inl ⟨rfl, rfl⟩⟩
            | 1, hz => cases hz; exact ⟨_, rfl, .inl rfl, .inr ⟨rfl, rfl⟩⟩
            | j + 2, hz => simp at hz
          -- what is found when the spot is passed over or put in
          have fin : ∀ (met' : List Bool) (found' : List Int) (H2 : Hp), Same H H2 → H2 tp = some (.tup [.int (x - l), .int (x + l)]) → H2 m = some (.lst (met'.map V.bl)) → H2 f = some (.lst (found'.map V.int)) → M85.Good ns last met' found' → (found' = found ∨ found' = found ++ [t]) → (0 ≤ t → t ≤ last → t ∈ found') →
              ∃ (met : List Bool) (found : List Int) (o2 : Option V), [some (V.ref a), some (.int last), some (.ref m), some (.ref f), some (.int n), some (.int l), some (.int t)] = [some (.ref a), some (.int last), some (.ref m), some (.ref f), some (.int n), some (.int l), o2] ∧ Same H H2 ∧ H2 tp = some (.tup [.int (x - l), .int (x + l)]) ∧ H2 m = some (.lst (met.map V.bl)) ∧ H2 f = some (.lst (found.map V.int)) ∧
                M85.Good ns last met found ∧ M85.Closed ns last found n ∧ n < found.length ∧ found[n]? = some x ∧ M85.Near (ns.take i) last found x ∧ (1 ≤ j + 1 → 0 ≤ x - l → x - l ≤ last → x - l ∈ found) ∧ (2 ≤ j + 1 → 0 ≤ x + l → x + l ≤ last → x + l ∈ found) := by
            intro met' found' H2 sm2 ht2 hm2 hf2 g2 ef hin
            refine ⟨met', found', _, rfl, sm2, ht2, hm2, hf2, g2, ?_⟩
            rcases ef with rfl | rfl
            · refine ⟨cl, c', hx, near, fun _ => ?_, fun q => ?_⟩
              · rcases ej with ⟨rfl, rfl⟩ | ⟨rfl, rfl⟩
                · exact hin
                · exact n1 (by omega)
              · rcases ej with ⟨rfl, rfl⟩ | ⟨rfl, rfl⟩
                · omega
                · exact hin
            · refine ⟨cl.more (by omega) _, by rw [List.length_append]; omega, by rw [List.getElem?_append_left c']; exact hx, near.more _, fun _ => ?_, fun q => ?_⟩
              · rcases ej with ⟨rfl, rfl⟩ | ⟨rfl, rfl⟩
                · exact hin
                · exact fun p0 p1 => List.mem_append_left _ (n1 (by omega) p0 p1)
              · rcases ej with ⟨rfl, rfl⟩ | ⟨rfl, rfl⟩
                · omega
                · exact hin
          walk_at "rd"
          refine ite2 (fun p0 => ?_) (fun p0 => ?_)
          · walk_at "rd"
            refine ite2 (fun p1 => ?_) (fun p1 => ?_)
            · obtain ⟨b, hb, hbi⟩ := good.at p0 p1
              walk_at "rd"
              refine Rd.ixL (.of hm) (Rd.atI_of p0 (show (met.map V.bl)[t.toNat]? = some (.bl b) by rw [List.getElem?_map, hb]; rfl)) ?_
              walk_at "rd"
              cases b with
              | true =>
                walk_at "rd"
                exact fin met found H' sm ht hm hf good (.inl rfl) fun _ _ => hbi.mp rfl
              | false =>
                walk_at "rd"
                have ml := good.len
                refine Rd.setG hm (Rd.ixN_of p0 (by rw [List.length_map]; omega)) (Rd.map_set V.bl _ _ _) fun G5 g5 gb5 => ?_
                walk_at "rd"
                have hf5 : G5 f = some (.lst (found.map V.int)) := by rw [gb5 f mf.symm]; exact hf
                have fl := good.le
                refine Rd.tyL (.of hf5) ?_
                walk_at "rd"
                refine Rd.app hf5 (by rw [List.length_map, sizeLine_eq]; omega) fun G6 g6 gb6 => ?_
                walk_at "rd"
                have nw : M85.Reach ns last t := .step xr lm et p0 p1
                refine fin (met.set t.toNat true) (found ++ [t]) G6 (fun b o e => ?_) ?_ ?_ ?_ (good.visit p0 p1 hb nw) (.inr rfl) fun _ _ => List.mem_append_right _ List.mem_cons_self
                · rw [gb6 b (ne_of_none e nf), gb5 b (ne_of_none e nm)]
                  exact sm _ _ e
                · rw [gb6 tp tf, gb5 tp tm]
                  exact ht
                · rw [gb6 m mf]
                  exact g5
                · rw [List.map_append]
                  exact g6
            · walk_at "rd"
              exact fin met found H' sm ht hm hf good (.inl rfl) fun _ q => absurd q p1
          · walk_at "rd"
            exact fin met found H' sm ht hm hf good (.inl rfl) fun q _ => absurd q p0
        · -- both spots are met
          rintro _ H' ⟨met, found, o2, rfl, sm, ht, hm, hf, good, cl, c', hx, near, n1, n2⟩
          refine ⟨met, found, _, _, rfl, sm, hm, hf, good, cl, c', hx, ?_⟩
          rw [Rd.take_snoc hl]
          exact near.snoc (n2 (Nat.le_refl _)) (n1 (by simp))
      · -- all lengths
        rintro _ H' ⟨met, found, o1, o2, rfl, sm, hm, hf, good, cl, c', hx, near⟩
        rw [List.length_map, List.take_length] at near
        walk_at "rd"
        exact ⟨last.toNat + 1 - (n + 1), by omega, n + 1, met, found, o1, o2, rfl, sm, hm, hf, good, cl.succ hx near, c', rfl⟩
    · -- the end
      have c' : found.length ≤ n := by omega
      walk_at "rd"
      obtain ⟨b, hb, hbi⟩ := good.end cl c'
      refine Rd.ixL (.of hm) (Rd.atI_of l0 (show (met.map V.bl)[last.toNat]? = some (.bl b) by rw [List.getElem?_map, hb]; rfl)) ?_
      walk_at "rd"
      exact k _ _ sm hbi
theorem gcdL_pos {ns : List Int} (L : Lens ns) : 0 < M85.gcdL ns ∧ (M85.gcdL ns : Int) ≤ 60 := by
  obtain ⟨n, hn⟩ : ∃ n, n ∈ ns := by
    match ns, L.l0 with
    | n :: _, _ => exact ⟨n, List.mem_cons_self⟩
  have r := L.all n hn
  have d := M85.gcdL_dvd hn
  have h1 : (M85.gcdL ns : Int) ≤ n := Int.le_of_dvd (by omega) d
  refine ⟨Nat.pos_of_ne_zero fun z => ?_, by omega⟩
  rw [z] at d
  have := Int.zero_dvd.mp d
  omega
def sp_is_reached (K : PySem.W.Frag) : Sp := fun vs H Q _ => ∃ (a : Addr) (ns : List Int) (last : Int), vs = [.ref a, .int last] ∧ Ru.SqR K H a (ns.map V.int) ∧ Lens ns ∧ 0 ≤ last ∧
  ∀ H' b, Same H H' → (b = true ↔ M85.Reach ns last last) → Q (.bl b) H'
def sp_l_common (K : PySem.W.Frag) : Sp := fun vs H Q _ => ∃ a b : Int, vs = [.int a, .int b] ∧ 0 ≤ a ∧ 0 ≤ b ∧ b ≤ 90 ∧ Q (.int (Nat.gcd a.natAbs b.natAbs : Nat)) H
def sp_l_divisor (K : PySem.W.Frag) : Sp := fun vs H Q _ => ∃ (a : Addr) (ns : List Int), vs = [.ref a] ∧ SqL K H a (ns.map V.int) ∧ (∀ n ∈ ns, 1 ≤ n ∧ n ≤ 60) ∧ ∀ H', Same H H' → Q (.int (M85.gcdL ns : Nat)) H'
theorem ok_is_reached (T : Txt K mg) : FnOk P w K mg base CX0 3 T.f_is_reached T.fd_is_reached ["lengths", "last"] (sp_is_reached K) := by
  refine T.F_is_reached.ok sc_is_reached (fun vs H Q E h => ?_) (fun cdv A outer s H vs Q E hr h => ?_)
  · obtain ⟨a, ns, last, rfl, _⟩ := h
    rfl
  · obtain ⟨a, ns, last, rfl, hS, L, l0, k⟩ := h
    refine ⟨_, (pss_cons (ps_if (pt_cmpR op_lt (pv 1) (pe_call (ok_far_from T) (hr.mono (by decide)) rfl T.g_far_from T.F_far_from.kp T.b_far_from .nil pass0 (pa_cons (pv 0) pa_nil)) (nomark _))
  (pss_one (ps_ret (pe_call (ok_steps_reach T) (hr.mono (by decide)) rfl T.g_steps_reach T.F_steps_reach.kp T.b_steps_reach .nil pass0 (pa_cons (pv 0) (pa_cons (pv 1) pa_nil)))))
  pss_nil)
  (pss_one (ps_ret (pe_cmpR op_eq (pe_op op_mod (pv 1) (pe_call (ok_divisor_of T) (hr.mono (by decide)) rfl T.g_divisor_of T.F_divisor_of.kp T.b_divisor_of .nil pass0 (pa_cons (pv 0) pa_nil))) pe_int (nomark _))))), ?_⟩
    walk_at "rd"
    refine ⟨a, ns, rfl, hS, L, fun H1 r s1 r0 r1 hp => ?_⟩
    walk_at "rd"
    refine ite2 (fun c => ?_) (fun c => ?_)
    · walk_at "rd"
      exact ⟨a, ns, last, rfl, hS.same s1, l0, by omega, fun H2 b s2 hb => k _ b (s1.trans s2) hb⟩
    · walk_at "rd"
      refine ⟨a, ns, rfl, hS.same s1, fun H2 s2 => ?_⟩
      walk_at "rd"
      have g0 := gcdL_pos L
      refine Rd.iC (by omega) ?_
      walk_at "rd"
      refine k _ _ (s1.trans s2) ?_
      rw [decide_eq_true_iff, M85.reach_iff l0 (fun l hl => by have := L.all l hl; omega) (hp last (by omega))]
      exact ⟨fun h => Int.dvd_of_emod_eq_zero h, fun h => Int.emod_eq_zero_of_dvd h⟩
theorem ok_l_common (T : Txt K mg) : FnOk P w K mg base CX0 1 T.f_l_common T.fd_l_common ["_law_one", "_law_other"] (sp_l_common K) := by
  refine T.F_l_common.ok sc_l_common (fun vs H Q E h => ?_) (fun cdv A outer s H vs Q E hr h => ?_)
  · obtain ⟨a, b, rfl, _⟩ := h
    rfl
  · obtain ⟨a, b, rfl, a0, b0, b1, k⟩ := h
    refine ⟨_, (pss_cons (ps_for PassesOwn.never rfl (pi_range1 rfl T.n_range (pa_cons pe_int pa_nil)) (pg_name (i := 2) sc_l_common.nd rfl (.inl rfl))
  (pss_cons (ps_if (pt_cmpR op_eq (pv 1) pe_int (nomark _))
  (pss_one (ps_ret (pv 0)))
  pss_nil)
  (pss_cons (ps_set (i := 3) sc_l_common.nd rfl (.inl rfl) (pe_op op_mod (pe_callTy (T := "int") (r := _) Rd.c_int (by rfl) T.n_int (by decide +kernel) (pa_cons (pv 0) pa_nil)) (pv 1)))
  (pss_cons (ps_set (i := 0) sc_l_common.nd rfl (.inl rfl) (pv 1))
  (pss_one (ps_set (i := 1) sc_l_common.nd rfl (.inl rfl) (pv 3)))))))
  (pss_one (ps_ret (pv 0)))), ?_⟩
    walk_at "rd"
    refine Rd.forS ?_
    walk_at "rd"
    refine ⟨by decide, by decide, ?_⟩
    refine for_range (lo := 0) (n := 100) (fun i σ H' => ∃ (x y : Nat) (o1 o2 : Option V), σ = [some (.int x), some (.int y), o1, o2] ∧ Nat.gcd x y = Nat.gcd a.natAbs b.natAbs ∧ y ≤ 90 - i ∧ H' = H)
      ⟨a.natAbs, b.natAbs, none, none, ?_, rfl, by omega, rfl⟩ ?_ ?_
    · rw [show ((a.natAbs : Nat) : Int) = a by omega, show ((b.natAbs : Nat) : Int) = b by omega]
      rfl
    · rintro i _ _ hi ⟨x, y, o1, o2, rfl, e, hy, rfl⟩
      walk_at "rd"
      refine ite2 (fun c => ?_) (fun c => ?_)
      · have y0 : y = 0 := by omega
        subst y0
        walk_at "rd"
        rw [Nat.gcd_zero_right] at e
        rw [e]
        exact k
      · walk_at "rd"
        refine Rd.iC (by omega) ?_
        walk_at "rd"
        have y1 : 0 < y := by omega
        have lt := Nat.mod_lt x y1
        refine ⟨y, x % y, some (.int (0 + i)), some (.int ((x : Int) % (y : Int))), ?_, ?_, by omega, rfl⟩
        · rw [Int.natCast_emod]
          rfl
        · rw [← e, Nat.gcd_comm x y, Nat.gcd_rec y x, Nat.gcd_comm]
    · rintro _ _ ⟨x, y, o1, o2, rfl, e, hy, rfl⟩
      walk_at "rd"
      have y0 : y = 0 := by omega
      subst y0
      rw [Nat.gcd_zero_right] at e
      rw [e]
      exact k
theorem ok_l_divisor (T : Txt K mg) : FnOk P w K mg base CX0 2 T.f_l_divisor T.fd_l_divisor ["_law_lengths_here"] (sp_l_divisor K) := by
  refine T.F_l_divisor.ok sc_l_divisor (fun vs H Q E h => ?_) (fun cdv A outer s H vs Q E hr h => ?_)
  · obtain ⟨a, ns, rfl, _⟩ := h
    rfl
  · obtain ⟨a, ns, rfl, hS, hn, k⟩ := h
    refine ⟨_, (pss_cons (ps_set (i := 1) sc_l_divisor.nd rfl (.inl rfl) pe_int)
  (pss_cons (ps_for PassesOwn.never rfl (pi_list (pv 0)) (pg_name (i := 2) sc_l_divisor.nd rfl (.inl rfl))
  (pss_one (ps_set (i := 1) sc_l_divisor.nd rfl (.inl rfl) (pe_call (ok_l_common T) (hr.mono (by decide)) rfl T.g_l_common T.F_l_common.kp T.b_l_common .nil pass0 (pa_cons (pv 2) (pa_cons (pv 1) pa_nil))))))
  (pss_one (ps_ret (pv 1))))), ?_⟩
    walk_at "rd"
    refine Rd.forS ?_
    walk_at "rd"
    refine ⟨⟨_, hS⟩, for_list (K := K) (a := a) (xs := ns.map V.int) (fun i σ H' => ∃ (g : Nat) (o : Option V), σ = [some (.ref a), some (.int g), o] ∧ g = (ns.take i).foldl (fun g l => Nat.gcd l.natAbs g) 0 ∧ g ≤ 60 ∧ Same H H')
      ⟨0, none, rfl, rfl, by decide, Same.refl H⟩ (fun i σ H' _ ⟨_, _, _, _, _, z⟩ => z.seq hS) ?_ ?_⟩
    · rintro i y _ H' hy ⟨g, o, rfl, eg, g1, sm⟩
      obtain ⟨l, hl, rfl⟩ := Rd.map_get hy
      have lr := hn l (List.mem_of_getElem? hl)
      walk_at "rd"
      refine ⟨l, g, rfl, by omega, by omega, by omega, ?_⟩
      walk_at "rd"
      refine ⟨Nat.gcd l.natAbs g, some (.int l), rfl, ?_, ?_, sm⟩
      · rw [Rd.take_snoc hl, List.foldl_append, ← eg]
        rfl
      · have := Nat.le_of_dvd (by omega) (Nat.gcd_dvd_left l.natAbs g)
        omega
    · rintro _ H' ⟨g, o, rfl, eg, g1, sm⟩
      rw [List.length_map, List.take_length] at eg
      walk_at "rd"
      rw [eg]
      exact k _ sm
def sp_l_reach (K : PySem.W.Frag) : Sp := fun vs H Q _ => ∃ (a : Addr) (ns : List Int) (last : Int), vs = [.ref a, .int last] ∧ SqL K H a (ns.map V.int) ∧ 0 ≤ last ∧ last ≤ 1000000 ∧
  ∀ H' b, Same H H' → (b = true ↔ M85.Reach ns last last) → Q (.bl b) H'
def sp_l_lengths (K : PySem.W.Frag) : Sp := fun vs H Q _ => ∃ (t c : Addr), vs = [.ref t] ∧ Tape H t c ∧ ∀ (l : Addr) (ns : List Int) H', Tape H' t c → Rd.But t H H' → H l = none → H' l = some (.lst (ns.map V.int)) → Lens ns → Q (.ref l) H'
theorem ok_l_reach (T : Txt K mg) : FnOk P w K mg base CX0 1 T.f_l_reach T.fd_l_reach ["_law_lengths_here", "_law_last"] (sp_l_reach K) := by
  refine T.F_l_reach.ok sc_l_reach (fun vs H Q E h => ?_) (fun cdv A outer s H vs Q E hr h => ?_)
  · obtain ⟨a, ns, last, rfl, _⟩ := h
    rfl
  · obtain ⟨a, ns, last, rfl, hS, l0, l1, k⟩ := h
    refine ⟨_, (pss_cons (ps_set (i := 2) sc_l_reach.nd rfl (.inl rfl) (pe_lst (pa_cons pe_int pa_nil)))
  (pss_cons (ps_set (i := 3) sc_l_reach.nd rfl (.inl rfl) (pe_op op_rep (pe_lst (pa_cons pe_bl pa_nil)) (pe_op op_add (pv 1) pe_int)))
  (pss_cons (ps_asg pe_bl (pg_sub (pv 3) pe_int set_list))
  (pss_cons (ps_for PassesOwn.never rfl (pi_range1 rfl T.n_range (pa_cons (pe_op op_add (pv 1) pe_int) pa_nil)) (pg_name (i := 4) sc_l_reach.nd rfl (.inl rfl))
  (pss_cons (ps_if (pt_cmpR op_ge (pv 4) (pe_callB (id := "len") (r := Rd.nLen K) Rd.c_len (by rfl) T.n_len (by decide +kernel) (pa_cons (pv 2) pa_nil)) (nomark _))
  (pss_one ps_break)
  pss_nil)
  (pss_one (ps_for PassesOwn.never rfl (pi_list (pv 0)) (pg_name (i := 5) sc_l_reach.nd rfl (.inl rfl))
  (pss_one (ps_for PassesOwn.never rfl (pi_list (pe_lst (pa_cons (pe_op op_add (pe_ix (r := rIxL K) ix_list (pv 2) (pv 4) (fun _ _ => rfl)) (pv 5)) (pa_cons (pe_op op_sub (pe_ix (r := rIxL K) ix_list (pv 2) (pv 4) (fun _ _ => rfl)) (pv 5)) pa_nil)))) (pg_name (i := 6) sc_l_reach.nd rfl (.inl rfl))
  (pss_one (ps_if (PW.pt (pw_and (pt_cmpR op_ge (pv 6) pe_int (nomark _)) (pw_and (pt_cmpR op_le (pv 6) (pv 1) (nomark _)) (pw_and1 (pt_not (pt_val (pe_ix (r := rIxL K) ix_list (pv 3) (pv 6) (fun _ _ => rfl))))))))
  (pss_cons (ps_asg pe_bl (pg_sub (pv 3) (pv 6) set_list))
  (pss_one (ps_expr (pe_bm PySem.F.plainAttrs_list PySem.F.slot_list_append PySem.F.type_list_append mt_append (pv 2) (pa_cons (pv 6) pa_nil)))))
  pss_nil))))))))
  (pss_one (ps_ret (pe_ix (r := rIxL K) ix_list (pv 3) (pv 1) (fun _ _ => rfl)))))))), ?_⟩
    walk_at "rd"
    refine ⟨Nat.le_of_ble_eq_true rfl, Rd.new fun f G1 npf gpf sG1 => ?_⟩
    walk_at "rd"
    refine ⟨Nat.le_of_ble_eq_true rfl, Rd.new fun p0 G2 np0 gp0 sG2 => ?_⟩
    walk_at "rd"
    have et : (last + 1).toNat = last.toNat + 1 := by omega
    refine Rd.rep gp0 (by omega) (by omega) (by rw [et, sizeLine_eq]; show 1 * _ ≤ _; omega) (Rd.new fun m G3 npm gpm sG3 => ?_)
    rw [Rd.rep_map, et] at gpm
    walk_at "rd"
    refine Rd.setG gpm (show ixN ((List.replicate (last.toNat + 1) false).map V.bl).length 0 = some 0 from Rd.ixN_of (by decide) (by simp; omega)) (Rd.map_set V.bl _ _ _) fun G4 g4 gb4 => ?_
    have s23 : Same H G2 := sG1.trans sG2
    have nm : H m = none := s23.free npm
    have nf : H f = none := npf
    have mf : m ≠ f := (ne_of_none (sG2 _ _ gpf) npm).symm
    have s4 : Same H G4 := fun b o e => by rw [gb4 b (ne_of_none e nm)]; exact sG3 _ _ (s23 _ _ e)
    have gf4 : G4 f = some (.lst (([0] : List Int).map V.int)) := by rw [gb4 f mf.symm]; exact sG3 _ _ (sG2 _ _ gpf)
    walk_at "rd"
    refine Rd.forS ?_
    walk_at "rd"
    refine ⟨by omega, by omega, ?_⟩
    rw [et]
    -- what holds between two turns
    refine for_range (lo := 0) (n := last.toNat + 1) (fun n σ H' => ∃ (met : List Bool) (found : List Int) (o0 o1 o2 : Option V), σ = [some (.ref a), some (.int last), some (.ref f), some (.ref m), o0, o1, o2] ∧ Same H H' ∧ H' m = some (.lst (met.map V.bl)) ∧ H' f = some (.lst (found.map V.int)) ∧
      M85.Good ns last met found ∧ M85.Closed ns last found n ∧ n ≤ found.length)
      ⟨_, [0], none, none, none, rfl, s4, g4, gf4, M85.Good.start l0, M85.Closed.zero, Nat.zero_le _⟩ ?_ ?_
    · rintro n _ H' hn ⟨met, found, o0, o1, o2, rfl, sm, hm, hf, good, cl, nl⟩
      rw [show (0 : Int) + (n : Int) = (n : Int) by omega]
      walk_at "rd"
      refine Rd.len (.inl (.of hf)) ?_
      rw [List.length_map]
      walk_at "rd"
      refine ite2 (fun c => ?_) (fun c => ?_)
      · -- all are gone through
        have c' : found.length ≤ n := by omega
        walk_at "rd"
        obtain ⟨b, hb, hbi⟩ := good.end cl c'
        refine Rd.ixL (.of hm) (Rd.atI_of l0 (show (met.map V.bl)[last.toNat]? = some (.bl b) by rw [List.getElem?_map, hb]; rfl)) ?_
        walk_at "rd"
        exact k _ _ sm hbi
      · have c' : n < found.length := by omega
        walk_at "rd"
        obtain ⟨x, hx⟩ : ∃ x, found[n]? = some x := ⟨_, List.getElem?_eq_getElem c'⟩
        have xr := good.reach x (List.mem_of_getElem? hx)
        refine Rd.forS ?_
        walk_at "rd"
        refine ⟨⟨_, sm.seq hS⟩, for_list (K := K) (a := a) (xs := ns.map V.int) (fun i σ H' => ∃ (met : List Bool) (found : List Int) (o1 o2 : Option V), σ = [some (.ref a), some (.int last), some (.ref f), some (.ref m), some (.int n), o1, o2] ∧ Same H H' ∧ H' m = some (.lst (met.map V.bl)) ∧ H' f = some (.lst (found.map V.int)) ∧
          M85.Good ns last met found ∧ M85.Closed ns last found n ∧ n < found.length ∧ found[n]? = some x ∧ M85.Near (ns.take i) last found x)
          ⟨met, found, o1, o2, rfl, sm, hm, hf, good, cl, c', hx, M85.Near.nil⟩ (fun i σ H' _ ⟨_, _, _, _, _, z, _⟩ => z.seq hS) ?_ ?_⟩
        · -- a length
          rintro i y _ H' hy ⟨met, found, o1, o2, rfl, sm, hm, hf, good, cl, c', hx, near⟩
          obtain ⟨l, hl, rfl⟩ := Rd.map_get hy
          have lm := List.mem_of_getElem? hl
          walk_at "rd"
          refine Rd.forS ?_
          walk_at "rd"
          have hx' : (found.map V.int)[n]? = some (.int x) := by rw [List.getElem?_map, hx]; rfl
          refine Rd.ixL (.of hf) (atI_nat hx') ?_
          walk_at "rd"
          refine Rd.ixL (.of hf) (atI_nat hx') ?_
          walk_at "rd"
          refine ⟨Nat.le_of_ble_eq_true rfl, Rd.new fun tp G4 np4 gp4 sG4 => ?_⟩
          walk_at "rd"
          have tm : tp ≠ m := (ne_of_none hm np4).symm
          have tf : tp ≠ f := (ne_of_none hf np4).symm
          refine ⟨⟨_, .of gp4⟩, for_list (K := K) (a := tp) (xs := [.int (x + l), .int (x - l)]) (fun j σ H' => ∃ (met : List Bool) (found : List Int) (o2 : Option V), σ = [some (.ref a), some (.int last), some (.ref f), some (.ref m), some (.int n), some (.int l), o2] ∧ Same H H' ∧ H' tp = some (.lst [.int (x + l), .int (x - l)]) ∧ H' m = some (.lst (met.map V.bl)) ∧ H' f = some (.lst (found.map V.int)) ∧
            M85.Good ns last met found ∧ M85.Closed ns last found n ∧ n < found.length ∧ found[n]? = some x ∧ M85.Near (ns.take i) last found x ∧ (1 ≤ j → 0 ≤ x + l → x + l ≤ last → x + l ∈ found) ∧ (2 ≤ j → 0 ≤ x - l → x - l ≤ last → x - l ∈ found))
            ⟨met, found, o2, rfl, sm.trans sG4, gp4, sG4 _ _ hm, sG4 _ _ hf, good, cl, c', hx, near, fun z => absurd z (by decide), fun z => absurd z (by decide)⟩ (fun j σ H' _ ⟨_, _, _, _, _, z, _⟩ => .of z) ?_ ?_⟩
          · -- a spot
            rintro j z _ H' hz ⟨met, found, o2, rfl, sm, ht, hm, hf, good, cl, c', hx, near, n1, n2⟩
            obtain ⟨t, rfl, et, ej⟩ : ∃ t, z = V.int t ∧ (t = x + l ∨ t = x - l) ∧ ((j = 0 ∧ t = x + l) ∨ (j = 1 ∧ t = x - l)) := by
              match j, hz with
              | 0, hz => cases hz; exact ⟨_, rfl, .inl rfl, .inl ⟨rfl, rfl⟩⟩
              | 1, hz => cases hz; exact ⟨_, rfl, .inr rfl, .inr ⟨rfl, rfl⟩⟩
              | j + 2, hz => simp at hz
            have fin : ∀ (met' : List Bool) (found' : List Int) (H2 : Hp), Same H H2 → H2 tp = some (.lst [.int (x + l), .int (x - l)]) → H2 m = some (.lst (met'.map V.bl)) → H2 f = some (.lst (found'.map V.int)) → M85.Good ns last met' found' → (found' = found ∨ found' = found ++ [t]) → (0 ≤ t → t ≤ last → t ∈ found') →
                ∃ (met : List Bool) (found : List Int) (o2 : Option V), [some (V.ref a), some (.int last), some (.ref f), some (.ref m), some (.int n), some (.int l), some (.int t)] = [some (.ref a), some (.int last), some (.ref f), some (.ref m), some (.int n), some (.int l), o2] ∧ Same H H2 ∧ H2 tp = some (.lst [.int (x + l), .int (x - l)]) ∧ H2 m = some (.lst (met.map V.bl)) ∧ H2 f = some (.lst (found.map V.int)) ∧
                  M85.Good ns last met found ∧ M85.Closed ns last found n ∧ n < found.length ∧ found[n]? = some x ∧ M85.Near (ns.take i) last found x ∧ (1 ≤ j + 1 → 0 ≤ x + l → x + l ≤ last → x + l ∈ found) ∧ (2 ≤ j + 1 → 0 ≤ x - l → x - l ≤ last → x - l ∈ found) := by
              intro met' found' H2 sm2 ht2 hm2 hf2 g2 ef hin
              refine ⟨met', found', _, rfl, sm2, ht2, hm2, hf2, g2, ?_⟩
              rcases ef with rfl | rfl
              · refine ⟨cl, c', hx, near, fun _ => ?_, fun q => ?_⟩
                · rcases ej with ⟨rfl, rfl⟩ | ⟨rfl, rfl⟩
                  · exact hin
                  · exact n1 (by omega)
                · rcases ej with ⟨rfl, rfl⟩ | ⟨rfl, rfl⟩
                  · omega
                  · exact hin
              · refine ⟨cl.more (by omega) _, by rw [List.length_append]; omega, by rw [List.getElem?_append_left c']; exact hx, near.more _, fun _ => ?_, fun q => ?_⟩
                · rcases ej with ⟨rfl, rfl⟩ | ⟨rfl, rfl⟩
                  · exact hin
                  · exact fun p0 p1 => List.mem_append_left _ (n1 (by omega) p0 p1)
                · rcases ej with ⟨rfl, rfl⟩ | ⟨rfl, rfl⟩
                  · omega
                  · exact hin
            walk_at "rd"
            refine ite2 (fun p0 => ?_) (fun p0 => ?_)
            · walk_at "rd"
              refine ite2 (fun p1 => ?_) (fun p1 => ?_)
              · obtain ⟨b, hb, hbi⟩ := good.at p0 p1
                walk_at "rd"
                refine Rd.ixL (.of hm) (Rd.atI_of p0 (show (met.map V.bl)[t.toNat]? = some (.bl b) by rw [List.getElem?_map, hb]; rfl)) ?_
                walk_at "rd"
                cases b with
                | true =>
                  walk_at "rd"
                  exact fin met found H' sm ht hm hf good (.inl rfl) fun _ _ => hbi.mp rfl
                | false =>
                  walk_at "rd"
                  have ml := good.len
                  refine Rd.setG hm (Rd.ixN_of p0 (by rw [List.length_map]; omega)) (Rd.map_set V.bl _ _ _) fun G5 g5 gb5 => ?_
                  walk_at "rd"
                  have hf5 : G5 f = some (.lst (found.map V.int)) := by rw [gb5 f mf.symm]; exact hf
                  have fl := good.le
                  refine Rd.tyL (.of hf5) ?_
                  walk_at "rd"
                  refine Rd.app hf5 (by rw [List.length_map, sizeLine_eq]; omega) fun G6 g6 gb6 => ?_
                  walk_at "rd"
                  have nw : M85.Reach ns last t := .step xr lm et p0 p1
                  refine fin (met.set t.toNat true) (found ++ [t]) G6 (fun b o e => ?_) ?_ ?_ ?_ (good.visit p0 p1 hb nw) (.inr rfl) fun _ _ => List.mem_append_right _ List.mem_cons_self
                  · rw [gb6 b (ne_of_none e nf), gb5 b (ne_of_none e nm)]
                    exact sm _ _ e
                  · rw [gb6 tp tf, gb5 tp tm]
                    exact ht
                  · rw [gb6 m mf]
                    exact g5
                  · rw [List.map_append]
                    exact g6
              · walk_at "rd"
                exact fin met found H' sm ht hm hf good (.inl rfl) fun _ q => absurd q p1
            · walk_at "rd"
              exact fin met found H' sm ht hm hf good (.inl rfl) fun q _ => absurd q p0
          · rintro _ H' ⟨met, found, o2, rfl, sm, ht, hm, hf, good, cl, c', hx, near, n1, n2⟩
            refine ⟨met, found, _, _, rfl, sm, hm, hf, good, cl, c', hx, ?_⟩
            rw [Rd.take_snoc hl]
            exact near.snoc (n1 (by simp)) (n2 (Nat.le_refl _))
        · rintro _ H' ⟨met, found, o1, o2, rfl, sm, hm, hf, good, cl, c', hx, near⟩
          rw [List.length_map, List.take_length] at near
          exact ⟨met, found, _, o1, o2, rfl, sm, hm, hf, good, cl.succ hx near, c'⟩
    · rintro _ H' ⟨met, found, o0, o1, o2, rfl, sm, hm, hf, good, cl, nl⟩
      walk_at "rd"
      obtain ⟨b, hb, hbi⟩ := good.end cl good.le
      refine Rd.ixL (.of hm) (Rd.atI_of l0 (show (met.map V.bl)[last.toNat]? = some (.bl b) by rw [List.getElem?_map, hb]; rfl)) ?_
      walk_at "rd"
      exact k _ _ sm hbi
theorem ok_l_lengths (T : Txt K mg) : FnOk P w K mg base CX0 2 T.f_l_lengths T.fd_l_lengths ["_law_tape_here"] (sp_l_lengths K) := by
  refine T.F_l_lengths.ok sc_l_lengths (fun vs H Q E h => ?_) (fun cdv A outer s H vs Q E hr h => ?_)
  · obtain ⟨t, _, rfl, _⟩ := h
    rfl
  · obtain ⟨t, c, rfl, tp, k⟩ := h
    refine ⟨_, (pss_cons (ps_set (i := 1) sc_l_lengths.nd rfl (.inl rfl) (pe_call (ok_l_pick T) (hr.mono (by decide)) rfl T.g_l_pick T.F_l_pick.kp T.b_l_pick .nil pass0 (pa_cons (pv 0) (pa_cons pe_int pa_nil))))
  (pss_cons (ps_set (i := 2) sc_l_lengths.nd rfl (.inl rfl) (pe_ix (r := rIxL K) ix_list (pe_lst (pa_cons pe_int (pa_cons pe_int (pa_cons pe_int (pa_cons pe_int pa_nil))))) (pv 1) (fun _ _ => rfl)))
  (pss_cons (ps_set (i := 3) sc_l_lengths.nd rfl (.inl rfl) pe_int)
  (C8.pss_cut (ps_if (pt_cmpR op_eq (pv 1) pe_int (nomark _))
  (pss_one (ps_set (i := 3) sc_l_lengths.nd rfl (.inl rfl) (pe_op op_add pe_int (pe_call (ok_l_pick T) (hr.mono (by decide)) rfl T.g_l_pick T.F_l_pick.kp T.b_l_pick .nil pass0 (pa_cons (pv 0) (pa_cons pe_int pa_nil))))))
  pss_nil)
  (pss_cons (ps_set (i := 4) sc_l_lengths.nd rfl (.inl rfl) (pe_lst pa_nil))
  (pss_cons (ps_for PassesOwn.never rfl (pi_range1 rfl T.n_range (pa_cons (pe_op op_add pe_int (pe_call (ok_l_pick T) (hr.mono (by decide)) rfl T.g_l_pick T.F_l_pick.kp T.b_l_pick .nil pass0 (pa_cons (pv 0) (pa_cons (pe_ix (r := rIxL K) ix_list (pe_lst (pa_cons pe_int (pa_cons pe_int (pa_cons pe_int (pa_cons pe_int pa_nil))))) (pv 1) (fun _ _ => rfl)) pa_nil)))) pa_nil)) (pg_name (i := 5) sc_l_lengths.nd rfl (.inl rfl))
  (pss_one (ps_if (PW.pt (pw_and (pt_cmpR op_gt (pe_callB (id := "len") (r := Rd.nLen K) Rd.c_len (by rfl) T.n_len (by decide +kernel) (pa_cons (pv 4) pa_nil)) pe_int (nomark _)) (pw_and1 (pt_cmpR op_eq (pe_call (ok_l_pick T) (hr.mono (by decide)) rfl T.g_l_pick T.F_l_pick.kp T.b_l_pick .nil pass0 (pa_cons (pv 0) (pa_cons pe_int pa_nil))) pe_int (nomark _)))))
  (pss_one (ps_expr (pe_bm PySem.F.plainAttrs_list PySem.F.slot_list_append PySem.F.type_list_append mt_append (pv 4) (pa_cons (pe_ix (r := rIxL K) ix_list (pv 4) (pe_call (ok_l_pick T) (hr.mono (by decide)) rfl T.g_l_pick T.F_l_pick.kp T.b_l_pick .nil pass0 (pa_cons (pv 0) (pa_cons (pe_callB (id := "len") (r := Rd.nLen K) Rd.c_len (by rfl) T.n_len (by decide +kernel) (pa_cons (pv 4) pa_nil)) pa_nil))) (fun _ _ => rfl)) pa_nil))))
  (pss_one (ps_expr (pe_bm PySem.F.plainAttrs_list PySem.F.slot_list_append PySem.F.type_list_append mt_append (pv 4) (pa_cons (pe_op op_mul (pv 3) (pe_op op_add pe_int (pe_call (ok_l_pick T) (hr.mono (by decide)) rfl T.g_l_pick T.F_l_pick.kp T.b_l_pick .nil pass0 (pa_cons (pv 0) (pa_cons (pe_op op_fdiv (pv 2) (pv 3)) pa_nil))))) pa_nil)))))))
  (pss_one (ps_ret (pv 4))))))))), ?_⟩
    walk_at "rd"
    refine pickR tp (by decide) (by decide) fun kind H1 k0 k1 tp1 b1 => ?_
    walk_at "rd"
    refine ⟨Nat.le_of_ble_eq_true rfl, Rd.new fun p G2 np gp s2 => ?_⟩
    walk_at "rd"
    obtain ⟨most, hm, m0, m1⟩ : ∃ m, [V.int 12, .int 60, .int 60, .int 20][kind.toNat]? = some (.int m) ∧ 12 ≤ m ∧ m ≤ 60 := by
      have : kind.toNat = 0 ∨ kind.toNat = 1 ∨ kind.toNat = 2 ∨ kind.toNat = 3 := by omega
      rcases this with e | e | e | e <;> rw [e] <;> exact ⟨_, rfl, by decide, by decide⟩
    refine Rd.ixL (.of gp) (Rd.atI_of k0 hm) ?_
    walk_at "rd"
    refine Rd.cut (fun σ H' => ∃ part : Int, σ = [some (.ref t), some (.int kind), some (.int most), some (.int part), none, none] ∧ 1 ≤ part ∧ part ≤ 10 ∧ Tape H' t c ∧ Rd.But t H H') ?_ ?_
    · walk_at "rd"
      refine ite2 (fun q => ?_) (fun q => ?_)
      · walk_at "rd"
        refine pickR (tp1.same s2) (by decide) (by decide) fun r H3 r0 r1 tp3 b3 => ?_
        walk_at "rd"
        exact ⟨_, rfl, by omega, by omega, tp3, (b1.same s2).trans b3⟩
      · walk_at "rd"
        exact ⟨1, rfl, by decide, by decide, tp1.same s2, b1.same s2⟩
    · rintro _ H3 ⟨part, rfl, p0, p1, tp3, b3⟩
      walk_at "rd"
      refine ⟨Nat.le_of_ble_eq_true rfl, Rd.new fun l G4 nl gl s4 => ?_⟩
      have ⟨lt, lc⟩ := tp3.new nl
      have nlH : H l = none := b3.free lt nl
      walk_at "rd"
      refine Rd.forS ?_
      walk_at "rd"
      refine ⟨Nat.le_of_ble_eq_true rfl, Rd.new fun p5 G5 np5 gp5 s5 => ?_⟩
      walk_at "rd"
      obtain ⟨cnt, hcnt, c0, c1⟩ : ∃ m, [V.int 8, .int 3, .int 4, .int 3][kind.toNat]? = some (.int m) ∧ 3 ≤ m ∧ m ≤ 8 := by
        have : kind.toNat = 0 ∨ kind.toNat = 1 ∨ kind.toNat = 2 ∨ kind.toNat = 3 := by omega
        rcases this with e | e | e | e <;> rw [e] <;> exact ⟨_, rfl, by decide, by decide⟩
      refine Rd.ixL (.of gp5) (Rd.atI_of k0 hcnt) ?_
      walk_at "rd"
      refine pickR ((tp3.same s4).same s5) (by omega) (by omega) fun r6 H6 r0 r1 tp6 b6 => ?_
      walk_at "rd"
      refine ⟨by omega, by omega, ?_⟩
      have gl6 : H6 l = some (.lst (([] : List Int).map V.int)) := b6 l _ lt (s5 _ _ gl)
      have b36 : Rd.But t H H6 := ((b3.same s4).same s5).trans b6
      refine for_range (lo := 0) (n := (1 + r6).toNat) (fun i σ H' => ∃ (ns : List Int) (o : Option V), σ = [some (.ref t), some (.int kind), some (.int most), some (.int part), some (.ref l), o] ∧ H' l = some (.lst (ns.map V.int)) ∧ ns.length = i ∧ (∀ n ∈ ns, 1 ≤ n ∧ n ≤ 60) ∧ Tape H' t c ∧ Rd.But t H H')
        ⟨[], none, rfl, gl6, rfl, fun n h => by simp at h, tp6, b36⟩ ?_ ?_
      · rintro i _ H' hi ⟨ns, o, rfl, hl, ln, hn, tp', b'⟩
        walk_at "rd"
        refine Rd.len (.inl (.of hl)) ?_
        rw [List.length_map]
        walk_at "rd"
        -- a length more
        have more : ∀ (H2 H3 : Hp) (n : Int), H2 l = some (.lst (ns.map V.int)) → Tape H2 t c → Rd.But t H H2 → H3 l = some (.lst (ns.map V.int ++ [.int n])) → (∀ b, b ≠ l → H3 b = H2 b) → 1 ≤ n → n ≤ 60 →
            ∃ (ns : List Int) (o : Option V), [some (.ref t), some (.int kind), some (.int most), some (.int part), some (.ref l), some (.int (0 + (i : Int)))] = [some (.ref t), some (.int kind), some (.int most), some (.int part), some (.ref l), o] ∧ H3 l = some (.lst (ns.map V.int)) ∧ ns.length = i + 1 ∧ (∀ n ∈ ns, 1 ≤ n ∧ n ≤ 60) ∧ Tape H3 t c ∧ Rd.But t H H3 := by
          intro H2 H3 n e2 t2 bb2 e3 off n0 n1
          refine ⟨ns ++ [n], _, rfl, by rw [List.map_append]; exact e3, by rw [List.length_append, ln]; rfl, fun m hm => ?_, t2.off lt lc off, fun b o hb e => ?_⟩
          · rcases List.mem_append.mp hm with h | h
            · exact hn m h
            · simp at h; subst h; exact ⟨n0, n1⟩
          · rw [off b (ne_of_none e nlH)]
            exact bb2 b o hb e
        have lim : (ns.map V.int).length < sizeLine := by rw [List.length_map, sizeLine_eq]; omega
        have body2 : ∀ r : Int, 0 ≤ r → r < most / part → 1 ≤ part * (1 + r) ∧ part * (1 + r) ≤ 60 := by
          intro r q0 q1
          have h1 : part * (1 + r) ≤ part * (most / part) := Int.mul_le_mul_of_nonneg_left (by omega) (by omega)
          have h2 : part * (most / part) ≤ most := Int.mul_ediv_self_le (by omega)
          have h3 : part * 1 ≤ part * (1 + r) := Int.mul_le_mul_of_nonneg_left (by omega) (by omega)
          omega
        have quot : 1 ≤ most / part := Int.le_ediv_of_mul_le (by omega) (by omega)
        have quot2 : most / part ≤ most := Int.ediv_le_self _ (by omega)
        refine ite2 (fun q => ?_) (fun q => ?_)
        · walk_at "rd"
          refine pickR tp' (by decide) (by decide) fun r7 H7 z0 z1 tp7 b7 => ?_
          have hl7 := b7 l _ lt hl
          walk_at "rd"
          refine ite2 (fun q2 => ?_) (fun q2 => ?_)
          · walk_at "rd"
            refine Rd.tyL (.of hl7) ?_
            walk_at "rd"
            refine Rd.len (.inl (.of hl7)) ?_
            rw [List.length_map]
            walk_at "rd"
            refine pickR tp7 (by omega) (by omega) fun r8 H8 y0 y1 tp8 b8 => ?_
            have hl8 := b8 l _ lt hl7
            walk_at "rd"
            have r8l : r8.toNat < ns.length := by omega
            refine Rd.ixL (.of hl8) (Rd.atI_of y0 (Rd.map_int r8l)) ?_
            walk_at "rd"
            refine Rd.app hl8 lim fun G9 g9 gb9 => ?_
            walk_at "rd"
            have rr := hn _ (List.getElem_mem r8l)
            exact more H8 G9 _ hl8 tp8 ((b'.trans b7).trans b8) g9 gb9 rr.1 rr.2
          · walk_at "rd"
            refine Rd.tyL (.of hl7) ?_
            walk_at "rd"
            refine Rd.iC ⟨by omega, by omega⟩ ?_
            walk_at "rd"
            refine pickR tp7 (by omega) (by omega) fun r8 H8 y0 y1 tp8 b8 => ?_
            have hl8 := b8 l _ lt hl7
            walk_at "rd"
            refine Rd.iC (.inl ⟨by omega, by omega⟩) ?_
            walk_at "rd"
            refine Rd.app hl8 lim fun G9 g9 gb9 => ?_
            walk_at "rd"
            have rr := body2 _ y0 y1
            exact more H8 G9 _ hl8 tp8 ((b'.trans b7).trans b8) g9 gb9 rr.1 rr.2
        · walk_at "rd"
          refine Rd.tyL (.of hl) ?_
          walk_at "rd"
          refine Rd.iC ⟨by omega, by omega⟩ ?_
          walk_at "rd"
          refine pickR tp' (by omega) (by omega) fun r8 H8 y0 y1 tp8 b8 => ?_
          have hl8 := b8 l _ lt hl
          walk_at "rd"
          refine Rd.iC (.inl ⟨by omega, by omega⟩) ?_
          walk_at "rd"
          refine Rd.app hl8 lim fun G9 g9 gb9 => ?_
          walk_at "rd"
          have rr := body2 _ y0 y1
          exact more H8 G9 _ hl8 tp8 (b'.trans b8) g9 gb9 rr.1 rr.2
      · rintro _ H' ⟨ns, o, rfl, hl, ln, hn, tp', b'⟩
        walk_at "rd"
        exact k l ns H' tp' b' nlH hl ⟨by omega, by omega, hn⟩

end
end W

namespace W
open PySem PySem.Spec PyProof.Rows L2
section
variable {P : Program} {w : World} {K : PySem.W.Frag} {mg : Str → Option Value} {base : Heap}
/-! ### what is wrong with lengths -/
def okNum (most : Int) : Rx.Kd → Bool
  | .int i => decide (1 ≤ i ∧ i ≤ most)
  | _ => false
def ixI : Option Nat → Option Int
  | some n => some (n : Int)
  | none => none
theorem ixI_none {o : Option Nat} : ixI o = none ↔ o = none := by cases o <;> simp [ixI]
def faultL (k : Rx.Kd) (ks : List Rx.Kd) : Option Int := if k.isSeq = true ∧ 1 ≤ ks.length ∧ ks.length ≤ 8 then ixI (ks.findIdx? fun k => !okNum 60 k) else some (-1)
theorem okNum_int {m : Int} {k : Rx.Kd} (h : okNum m k = true) : ∃ i, k = .int i ∧ 1 ≤ i ∧ i ≤ m := by
  cases k <;> simp [okNum] at h
  exact ⟨_, rfl, h⟩
theorem good_row {H : Hp} {x : V} {k : Rx.Kd} {ks : List Rx.Kd} (r : Rx.Rowed H x k ks) (f : faultL k ks = none) : ∃ (a : Addr) (ns : List Int), x = .ref a ∧ Lens ns ∧ ks = ns.map Rx.Kd.int ∧ (∀ K : PySem.W.Frag, Ru.SqR K H a (ns.map V.int)) := by
  unfold faultL at f
  by_cases c : k.isSeq = true ∧ 1 ≤ ks.length ∧ ks.length ≤ 8
  · rw [if_pos c] at f
    rw [ixI_none, List.findIdx?_eq_none_iff] at f
    have all : ∀ k ∈ ks, okNum 60 k = true := fun k m => by simpa using f k m
    have go : ∀ {xs : List V} {ks : List Rx.Kd}, Paired (Rx.Is H) xs ks → (∀ k ∈ ks, okNum 60 k = true) → ∃ ns : List Int, xs = ns.map V.int ∧ ks = ns.map Rx.Kd.int ∧ ∀ n ∈ ns, 1 ≤ n ∧ n ≤ 60 := by
      intro xs ks p
      induction p with
      | nil => exact fun _ => ⟨[], rfl, rfl, fun n h => by cases h⟩
      | cons a _ ih =>
        intro h
        obtain ⟨ns, e1, e2, e3⟩ := ih fun k m => h k (List.mem_cons_of_mem _ m)
        obtain ⟨i, e, i0, i1⟩ := okNum_int (h _ (List.mem_cons_self ..))
        subst e
        cases a
        exact ⟨i :: ns, by rw [e1]; rfl, by rw [e2]; rfl, fun n m => by
          rcases List.mem_cons.mp m with rfl | m
          · exact ⟨i0, i1⟩
          · exact e3 n m⟩
    obtain ⟨hk, hx⟩ := r
    have fin : ∀ {xs : List V}, Paired (Rx.Is H) xs ks → ∃ ns : List Int, xs = ns.map V.int ∧ Lens ns ∧ ks = ns.map Rx.Kd.int := fun p => by
      obtain ⟨ns, e1, e2, e3⟩ := go p all
      refine ⟨ns, e1, ⟨?_, ?_, e3⟩, e2⟩
      · have := c.2.1; rw [e2, List.length_map] at this; exact this
      · have := c.2.2; rw [e2, List.length_map] at this; exact this
    cases hk with
    | lst h l =>
      obtain ⟨ns, e1, L, e2⟩ := fin (hx _ (.inl rfl))
      subst e1
      exact ⟨_, ns, rfl, L, e2, fun K => .inl (.of h)⟩
    | tup h l =>
      obtain ⟨ns, e1, L, e2⟩ := fin (hx _ (.inr rfl))
      subst e1
      exact ⟨_, ns, rfl, L, e2, fun K => .inr (.of h)⟩
    | _ => cases c.1
  · rw [if_neg c] at f
    cases f
def sp_check_lengths (K : PySem.W.Frag) (CL : Addr) : Sp := fun vs H Q E => ∃ (x : V) (k : Rx.Kd) (ks : List Rx.Kd), vs = [x] ∧ Rx.Rowed H x k ks ∧ (∀ i, faultL k ks = some i → Rx.Raised CL (.int i) H E) ∧ (faultL k ks = none → ∀ H', Same H H' → Q .non H')
def sp_lone_told (K : PySem.W.Frag) (CL CT : Addr) : Sp := fun vs H Q E => ∃ (x : V) (k : Rx.Kd) (ks : List Rx.Kd) (y : V) (ky : Rx.Kd), vs = [x, y] ∧ Rx.Rowed H x k ks ∧ Rx.Is H y ky ∧ (∀ i, faultL k ks = some i → Rx.Raised CL (.int i) H E) ∧
  (faultL k ks = none → okNum (10 ^ 30) ky = false → Rx.Raised CT y H E) ∧ (faultL k ks = none → okNum (10 ^ 30) ky = true → ∀ H' b, Same H H' → (∀ ns last, ks = ns.map Rx.Kd.int → ky = .int last → (b = true ↔ M85.Reach ns last last)) → Q (.bl b) H')
theorem seq_len {H : Hp} {x : V} {k : Rx.Kd} {ks : List Rx.Kd} (r : Rx.Rowed H x k ks) (s : k.isSeq = true) : ∃ (a : Addr) (xs : List V), x = .ref a ∧ xs.length = ks.length ∧ Paired (Rx.Is H) xs ks ∧ (∀ K : PySem.W.Frag, Ru.SqR K H a xs) := by
  obtain ⟨hk, hx⟩ := r
  cases hk with
  | lst h l => exact ⟨_, _, rfl, Paired.length (hx _ (.inl rfl)), hx _ (.inl rfl), fun K => .inl (.of h)⟩
  | tup h l => exact ⟨_, _, rfl, Paired.length (hx _ (.inr rfl)), hx _ (.inr rfl), fun K => .inr (.of h)⟩
  | _ => cases s
theorem fault_first {k : Rx.Kd} {ks : List Rx.Kd} {i : Nat} {c : Rx.Kd} (s : k.isSeq = true) (h1 : 1 ≤ ks.length) (h2 : ks.length ≤ 8) (hi : ks[i]? = some c) (bad : okNum 60 c = false) (ok : ∀ d ∈ ks.take i, okNum 60 d = true) : faultL k ks = some (i : Int) := by
  unfold faultL
  rw [if_pos ⟨s, h1, h2⟩]
  have : ks.findIdx? (fun k => !okNum 60 k) = some i := by
    obtain ⟨hl, e⟩ := List.getElem?_eq_some_iff.mp hi
    rw [List.findIdx?_eq_some_iff_getElem]
    refine ⟨hl, by rw [e, bad]; rfl, fun j hj => ?_⟩
    have : ks[j] ∈ ks.take i := by
      rw [List.mem_take_iff_getElem]
      exact ⟨j, by omega, rfl⟩
    rw [ok _ this]
    decide
  rw [this]
  rfl
theorem fault_none {k : Rx.Kd} {ks : List Rx.Kd} (s : k.isSeq = true) (h1 : 1 ≤ ks.length) (h2 : ks.length ≤ 8) (ok : ∀ d ∈ ks, okNum 60 d = true) : faultL k ks = none := by
  unfold faultL
  rw [if_pos ⟨s, h1, h2⟩, ixI_none, List.findIdx?_eq_none_iff]
  exact fun d m => by rw [ok d m]; rfl
theorem okNum_num {m : Int} {k : Rx.Kd} (h : k.isNum = false) : okNum m k = false := by cases k <;> first | rfl | cases h
theorem ok_check_lengths (T : Txt K mg) : FnOk P w K mg base (L2.CX P w) 4 T.f_check_lengths T.fd_check_lengths ["lengths"] (sp_check_lengths K T.C_BadLengths) := by
  refine T.F_check_lengths.okX sc_check_lengths (fun vs H Q E h => ?_) (fun cdv A outer s H vs Q E hr h => ?_)
  · obtain ⟨x, kd, ks, rfl, _⟩ := h
    rfl
  · obtain ⟨x, kd, ks, rfl, r, kF, kN⟩ := h
    refine ⟨_, (pss_cons (ps_if (PW.pt (pw_or (pt_not (pt_val (pe_callB (id := "isinstance") (r := rIsiT K) call_isiT (by rfl) T.n_isinstance (by decide +kernel) (pa_cons (pv 0) (pa_cons (pe_tup (pa_cons (pe_bltn (v := .ty "list") (u := .type "list") (by rfl) T.n_list (by decide +kernel) rfl) (pa_cons (pe_bltn (v := .ty "tuple") (u := .type "tuple") (by rfl) T.n_tuple (by decide +kernel) rfl) pa_nil))) pa_nil))))) (pw_or1 (pt_not (pt_chain op_le op_le pe_int (pe_callB (id := "len") (r := Rd.nLen K) Rd.c_len (by rfl) T.n_len (by decide +kernel) (pa_cons (pv 0) pa_nil)) (pe_glob (v := .int 8) rfl T.m_MOST_LENGTHS ⟨_, rfl⟩))))))
  (pss_one (Rx.ps_raise1 rfl T.X_BadLengths T.tI_WayError_init (ok_WayError_init T) (hr.mono (by decide)) T.b_WayError_init rfl T.c_BadLengths (takes_of rfl rfl rfl rfl) (pe_un un_neg pe_int)))
  pss_nil)
  (pss_one (ps_for (passes_of rfl) rfl (Ru.pi_or (pi_enum (by rfl) T.n_enumerate (pa_cons (pv 0) pa_nil)) (Ru.pi_enumT (by rfl) T.n_enumerate (pa_cons (pv 0) pa_nil))) (pg_tup rfl (pgs_cons (pg_name (i := 1) sc_check_lengths.nd rfl (.inl rfl)) (pgs_cons (pg_name (i := 2) sc_check_lengths.nd rfl (.inl rfl)) pgs_nil)))
  (pss_one (ps_if (PW.pt (pw_or (pt_not (pt_val (pe_call (ok_is_integer T) (hr.mono (by decide)) rfl T.g_is_integer T.F_is_integer.kp T.b_is_integer .nil pass0 (pa_cons (pv 2) pa_nil)))) (pw_or1 (pt_not (pt_chain op_le op_le pe_int (pv 2) (pe_glob (v := .int 60) rfl T.m_MOST_LENGTH ⟨_, rfl⟩))))))
  (pss_one (Rx.ps_raise1 rfl T.X_BadLengths T.tI_WayError_init (ok_WayError_init T) (hr.mono (by decide)) T.b_WayError_init rfl T.c_BadLengths (takes_of rfl rfl rfl rfl) (pv 1)))
  pss_nil))))), ?_⟩
    walk_at "rd"
    refine ⟨Nat.le_of_ble_eq_true rfl, Rd.new fun p G hp gp sG => ?_⟩
    walk_at "rd"
    have rG := r.same sG
    refine Rx.askSeq gp rG.1 ?_
    have bad : (¬ (kd.isSeq = true ∧ 1 ≤ ks.length ∧ ks.length ≤ 8)) → faultL kd ks = some (-1) := fun h => if_neg h
    have raise1 : faultL kd ks = some (-1) → Rx.RaiseQ T.C_BadLengths (.int (-1)) G E := fun f => (kF _ f).now sG
    walk_at "rd"
    by_cases s : kd.isSeq = true
    · rw [s]
      walk_at "rd"
      obtain ⟨a, xs, rfl, xl, pr, sq⟩ := seq_len rG s
      refine Rd.len (sq K) ?_
      rw [xl]
      walk_at "rd"
      refine ite2 (fun c1 => ?_) (fun c1 => ?_)
      · walk_at "rd"
        refine ite2 (fun c2 => ?_) (fun c2 => ?_)
        · walk_at "rd"
          have l1 : 1 ≤ ks.length := by omega
          have l2 : ks.length ≤ 8 := by omega
          refine Ru.for_enumR (a := a) (xs := xs) (fun Q q => ?_) (fun i σ H' => ∃ o1 o2, σ = [some (.ref a), o1, o2] ∧ Same G H' ∧ ∀ d ∈ ks.take i, okNum 60 d = true) (sq K) ⟨_, _, rfl, Same.refl _, fun d h => by simp at h⟩ (fun i σ H' _ ⟨_, _, _, z, _⟩ => z) ?_ ?_
          · walk_at "rd"
            exact q
          · rintro i y _ H' t hy ⟨_, _, rfl, sm, oks⟩ hT
            obtain ⟨c, hc, ic⟩ := Rx.paired_get pr hy
            refine Rd.tupT (.of upd_same) rfl ?_
            have sm2 := sm.trans (Rd.same_upd (o := .tup [.int (i : Nat), y]) hT)
            have bad2 : okNum 60 c = false → Rx.RaiseQ T.C_BadLengths (.int (i : Nat)) (upd H' t (.tup [.int (i : Nat), y])) E := fun b => (kF _ (fault_first s l1 l2 hc b oks)).now (sG.trans sm2)
            walk_at "rd"
            refine ⟨y, c, rfl, ic.same sm2, ?_⟩
            walk_at "rd"
            by_cases n : c.isNum = true
            · rw [n]
              walk_at "rd"
              walk_at "rd"
              obtain ⟨z, rfl⟩ : ∃ z, c = .int z := by cases c <;> first | exact ⟨_, rfl⟩ | cases n
              cases ic
              walk_at "rd"
              have more : (1 ≤ z ∧ z ≤ 60) → ∀ d ∈ ks.take (i + 1), okNum 60 d = true := fun h d m => by
                rw [Rd.take_snoc hc] at m
                rcases List.mem_append.mp m with m | m
                · exact oks d m
                · rw [List.mem_singleton.mp m]
                  exact decide_eq_true h
              refine ite2 (fun d1 => ?_) (fun d1 => ?_)
              · walk_at "rd"
                refine ite2 (fun d2 => ?_) (fun d2 => ?_)
                · walk_at "rd"
                  exact ⟨_, _, rfl, sm2, more ⟨by omega, by omega⟩⟩
                · walk_at "rd"
                  exact bad2 (decide_eq_false fun h => by omega)
              · walk_at "rd"
                exact bad2 (decide_eq_false fun h => by omega)
            · rw [Bool.not_eq_true] at n
              rw [n]
              walk_at "rd"
              walk_at "rd"
              exact bad2 (okNum_num n)
          · rintro _ H' ⟨_, _, rfl, sm, oks⟩
            walk_at "rd"
            rw [List.take_of_length_le (by rw [xl]; exact Nat.le_refl _)] at oks
            exact kN (fault_none s l1 l2 oks) _ (sG.trans sm)
        · walk_at "rd"
          exact raise1 (bad fun h => by omega)
      · walk_at "rd"
        exact raise1 (bad fun h => by omega)
    · have s' : kd.isSeq = false := by simpa using s
      rw [s']
      walk_at "rd"
      walk_at "rd"
      exact raise1 (bad fun h => s h.1)
theorem ok_lone_told (T : Txt K mg) : FnOk P w K mg base (L2.CX P w) 5 T.f_lone_told T.fd_lone_told ["lengths", "last"] (sp_lone_told K T.C_BadLengths T.C_BadTimes) := by
  refine T.F_lone_told.okX sc_lone_told (fun vs H Q E h => ?_) (fun cdv A outer s H vs Q E hr h => ?_)
  · obtain ⟨x, kd, ks, y, ky, rfl, _⟩ := h
    rfl
  · obtain ⟨x, kd, ks, y, ky, rfl, r, iy, kF, kT, kN⟩ := h
    refine ⟨_, (pss_cons (ps_expr (pe_callS (ok_check_lengths T) (hr.mono (by decide)) rfl T.g_check_lengths T.F_check_lengths.kp T.b_check_lengths (fun σ => passAt (takes_of rfl rfl rfl rfl) σ) (pa_cons (pv 0) pa_nil)))
  (pss_cons (ps_if (PW.pt (pw_or (pt_not (pt_val (pe_call (ok_is_integer T) (hr.mono (by decide)) rfl T.g_is_integer T.F_is_integer.kp T.b_is_integer .nil pass0 (pa_cons (pv 1) pa_nil)))) (pw_or1 (pt_not (pt_chain op_le op_le pe_int (pv 1) (pe_glob (v := .int (10 ^ 30)) rfl T.m_MOST_LAST ⟨_, rfl⟩))))))
  (pss_one (Rx.ps_raise1 rfl T.X_BadTimes T.tI_WayError_init (ok_WayError_init T) (hr.mono (by decide)) T.b_WayError_init rfl T.c_BadTimes (takes_of rfl rfl rfl rfl) (pv 1)))
  pss_nil)
  (pss_one (ps_ret (pe_call (ok_is_reached T) (hr.mono (by decide)) rfl T.g_is_reached T.F_is_reached.kp T.b_is_reached .nil pass0 (pa_cons (pv 0) (pa_cons (pv 1) pa_nil))))))), ?_⟩
    walk_at "rd"
    refine ⟨x, kd, ks, rfl, r, kF, fun f H1 s1 => ?_⟩
    obtain ⟨a, ns, rfl, L, rfl, sq⟩ := good_row (r.same s1) f
    have badT : okNum (10 ^ 30) ky = false → Rx.RaiseQ T.C_BadTimes y H1 E := fun b => (kT f b).now s1
    walk_at "rd"
    refine ⟨y, ky, rfl, iy.same s1, ?_⟩
    walk_at "rd"
    by_cases n : ky.isNum = true
    · rw [n]
      walk_at "rd"
      obtain ⟨z, rfl⟩ : ∃ z, ky = .int z := by cases ky <;> first | exact ⟨_, rfl⟩ | cases n
      cases iy
      walk_at "rd"
      refine ite2 (fun d1 => ?_) (fun d1 => ?_)
      · walk_at "rd"
        refine ite2 (fun d2 => ?_) (fun d2 => ?_)
        · walk_at "rd"
          refine ⟨a, ns, z, rfl, sq K, L, by omega, fun H2 b s2 hb => kN f (decide_eq_true ⟨by omega, by omega⟩) _ b (s1.trans s2) fun ms last e1 e2 => ?_⟩
          have e3 : ns = ms := (List.map_inj_right (fun i j h => by cases h; rfl)).mp e1
          cases e2
          rw [← e3]
          exact hb
        · walk_at "rd"
          exact badT (decide_eq_false fun h => by omega)
      · walk_at "rd"
        exact badT (decide_eq_false fun h => by omega)
    · rw [Bool.not_eq_true] at n
      rw [n]
      walk_at "rd"
      walk_at "rd"
      exact badT (okNum_num n)

end
end W

namespace W
open PySem PySem.Spec PyProof.Rows L2
section
variable {P : Program} {w : World} {K : PySem.W.Frag} {mg : Str → Option Value} {base : Heap}
/-! ### the gaps -/
def sp_lone_gaps (K : PySem.W.Frag) (CL : Addr) : Sp := fun vs H Q E => ∃ (x : V) (k : Rx.Kd) (ks : List Rx.Kd), vs = [x] ∧ Rx.Rowed H x k ks ∧ (∀ i, faultL k ks = some i → Rx.Raised CL (.int i) H E) ∧
  (faultL k ks = none → ∀ (l : Addr) H', Same H H' → H l = none → (∀ ns, ks = ns.map Rx.Kd.int → H' l = some (.lst ((M85.gaps ns).map V.int))) → Q (.ref l) H')
theorem pos_of {ns : List Int} (L : Lens ns) : ∀ l ∈ ns, 0 < l := fun l m => by have := L.all l m; omega
theorem cnt_few {r : Int} {ns : List Int} (L : Lens ns) (r1 : r ≤ 241) (g : (M85.gcdL ns : Int) = 1 → r ≤ 121) : True := trivial
theorem mul_ge {ns : List Int} (L : Lens ns) (i : Nat) : (i : Int) + 1 ≤ M85.mul ns i := by
  have ⟨g0, _⟩ := gcdL_pos L
  unfold M85.mul
  have : (i : Int) * 1 ≤ (i : Int) * (M85.gcdL ns : Int) := Int.mul_le_mul_of_nonneg_left (by omega) (by omega)
  omega
theorem ok_lone_gaps (T : Txt K mg) : FnOk P w K mg base (L2.CX P w) 5 T.f_lone_gaps T.fd_lone_gaps ["lengths"] (sp_lone_gaps K T.C_BadLengths) := by
  refine T.F_lone_gaps.okX sc_lone_gaps (fun vs H Q E h => ?_) (fun cdv A outer s H vs Q E hr h => ?_)
  · obtain ⟨x, kd, ks, rfl, _⟩ := h
    rfl
  · obtain ⟨x, kd, ks, rfl, r, kF, kN⟩ := h
    refine ⟨_, (pss_cons (ps_expr (pe_callS (ok_check_lengths T) (hr.mono (by decide)) rfl T.g_check_lengths T.F_check_lengths.kp T.b_check_lengths (fun σ => passAt (takes_of rfl rfl rfl rfl) σ) (pa_cons (pv 0) pa_nil)))
  (pss_cons (ps_set (i := 1) sc_lone_gaps.nd rfl (.inl rfl) (pe_call (ok_divisor_of T) (hr.mono (by decide)) rfl T.g_divisor_of T.F_divisor_of.kp T.b_divisor_of .nil pass0 (pa_cons (pv 0) pa_nil)))
  (pss_one (ps_ret (pe_lc (own := [("last", 2)]) (g := gName 2)  rfl sc_lone_gaps.nd (pi_range3 rfl T.n_range (pa_cons (pv 1) (pa_cons (pe_call (ok_far_from T) (hr.mono (by decide)) rfl T.g_far_from T.F_far_from.kp T.b_far_from .nil pass0 (pa_cons (pv 0) pa_nil)) (pa_cons (pv 1) pa_nil)))) (blkOk_by (own := [("last", 2)]) (N := ["lengths", "part", "last"]) (sc := defScope s_lone_gaps) (by decide +kernel)) (fun _ _ _ _ _ => (pg_name (i := 2) sc_lone_gaps.nd rfl (.inl rfl))) (fun _ _ _ _ _ => pts_one (pt_not (pt_val (pe_call (ok_steps_reach T) (hr.mono (by decide)) rfl T.g_steps_reach T.F_steps_reach.kp T.b_steps_reach .nil pass0 (pa_cons (pv 0) (pa_cons (pv 2) pa_nil)))))) (fun _ _ _ _ _ => (pv 2))))))), ?_⟩
    walk_at "rd"
    refine ⟨x, kd, ks, rfl, r, kF, fun f H1 s1 => ?_⟩
    obtain ⟨a, ns, rfl, L, rfl, sq⟩ := good_row (r.same s1) f
    have ⟨g0, g1⟩ := gcdL_pos L
    walk_at "rd"
    refine ⟨a, ns, rfl, sq K, fun H2 s2 => ?_⟩
    walk_at "rd"
    refine ⟨a, ns, rfl, (sq K).same s2, L, fun H3 r s3 r0 r1 hp => ?_⟩
    walk_at "rd"
    have sq3 := ((sq K).same s2).same s3
    refine ⟨_, _, _, _, rfl, Rx.rg_pos (by omega) (by omega) (by omega) (by omega) (by omega) (by omega), ?_⟩
    have far : ∀ i, Rx.cnt (M85.gcdL ns) r (M85.gcdL ns) ≤ i → M85.Reach ns (M85.mul ns i) (M85.mul ns i) := fun i h => by
      have := Rx.cnt_lt (i := (M85.gcdL ns : Int)) (j := r) (c := (M85.gcdL ns : Int)) (by omega) i
      exact M85.reach_mul (pos_of L) (hp _ (by unfold M85.mul; omega))
    have few : Rx.cnt (M85.gcdL ns) r (M85.gcdL ns) ≤ 121 := by
      rcases Nat.lt_or_ge 121 (Rx.cnt (M85.gcdL ns) r (M85.gcdL ns)) with h | h
      · have := (Rx.cnt_lt (i := (M85.gcdL ns : Int)) (j := r) (c := (M85.gcdL ns : Int)) (by omega) 121).mp h
        have := mul_ge L 121
        unfold M85.mul at this
        omega
      · exact h
    walk_at "rd"
    refine Rd.lcS walk_rangeC (fun _ _ => trivial) (fun D i acc Hc => acc = (M85.gapsTo ns i).map V.int) (fun _ _ _ _ _ => rfl) ?_ ?_
    · rintro D i x G1 _ acc nD hi hD sm rfl ⟨rfl, rfl⟩
      walk_at "rd"
      refine ⟨rfl, ?_⟩
      have m0 := mul_ge L i
      have m1 : M85.mul ns i < r := (Rx.cnt_lt (i := (M85.gcdL ns : Int)) (j := r) (c := (M85.gcdL ns : Int)) (by omega) i).mp hi
      have ln : (M85.gapsTo ns i).length ≤ i := by
        unfold M85.gapsTo
        rw [List.length_map]
        have := List.length_filter_le (M85.gap ns) (List.range i)
        rwa [List.length_range] at this
      walk_at "rd"
      refine ⟨a, ns, M85.mul ns i, rfl, sq3.same sm, by omega, by omega, fun G2 b s4 hb => ?_⟩
      walk_at "rd"
      cases b with
      | true =>
        walk_at "rd"
        refine ⟨_, s4 _ _ hD, sm.trans s4, ?_⟩
        dsimp only
        rw [M85.gapsTo_succ, if_pos (hb.mp rfl), List.append_nil]
      | false =>
        walk_at "rd"
        refine Rd.lcPush (s4 _ _ hD) nD (sm.trans s4) (by rw [List.length_map, sizeLine_eq]; omega) fun G3 g3 off3 => ?_
        rw [M85.gapsTo_succ, if_neg (fun q => by simpa using hb.mpr q), List.map_append]
        rfl
    · rintro D acc G1 nD hD sm rfl
      walk_at "rd"
      refine kN f D _ (((s1.trans s2).trans s3).trans sm) (((s1.trans s2).trans s3).free nD) fun ms e => ?_
      have e3 : ns = ms := (List.map_inj_right (fun i j h => by cases h; rfl)).mp e
      rw [← e3, ← M85.gaps_of few far]
      exact hD

end
end W

namespace W
open PySem PySem.Spec PyProof.Rows L2
section
variable {P : Program} {w : World} {K : PySem.W.Frag} {mg : Str → Option Value} {base : Heap}
/-! ### odd things -/
def sp_l_odd (K : PySem.W.Frag) : Sp := fun vs H Q _ => ∃ (t c : Addr), vs = [.ref t] ∧ Tape H t c ∧ ∀ (x : V) H', Rx.Thing t H' x → Tape H' t c → Rd.But t H H' → Q x H'
theorem ok_l_odd (T : Txt K mg) : FnOk P w K mg base CX0 2 T.f_l_odd T.fd_l_odd ["_law_tape_here"] (sp_l_odd K) := by
  refine T.F_l_odd.ok sc_l_odd (fun vs H Q E h => ?_) (fun cdv A outer s H vs Q E hr h => ?_)
  · obtain ⟨t, c, rfl, _⟩ := h
    rfl
  · obtain ⟨t, c, rfl, tp, k⟩ := h
    refine ⟨_, (pss_cons (ps_set (i := 1) sc_l_odd.nd rfl (.inl rfl) (pe_lst (pa_cons pe_non (pa_cons pe_bl (pa_cons pe_bl (pa_cons pe_int (pa_cons pe_int (pa_cons (pe_un un_neg pe_int) (pa_cons (pe_op op_pow pe_int pe_int) (pa_cons pe_str (pa_cons pe_str (pa_cons pe_str (pa_cons (pe_op Rd.o_addS (pe_op Rx.o_repS pe_str pe_int) pe_str) (pa_cons (pe_lst pa_nil) (pa_cons pe_dnewK (pa_cons (pe_tup pa_nil) pa_nil))))))))))))))))
  (pss_cons (ps_set (i := 1) sc_l_odd.nd rfl (.inl rfl) (pe_op op_cat (pv 1) (pe_lst (pa_cons (pe_lst (pa_cons pe_str pa_nil)) (pa_cons (pe_tup (pa_cons pe_str (pa_cons pe_str pa_nil))) (pa_cons (pe_disp (pps_cons pe_str pe_int pps_nil) rfl rfl (by simp) (by decide)) (pa_cons (pe_lst (pa_cons (pe_lst (pa_cons pe_str pa_nil)) (pa_cons (pe_disp (pps_cons pe_str pe_non pps_nil) rfl rfl (by simp) (by decide)) pa_nil))) (pa_cons pe_str (pa_cons (pe_tup (pa_cons pe_str pa_nil)) pa_nil)))))))))
  (pss_one (ps_ret (pe_ix (r := rIxL K) ix_list (pv 1) (pe_call (ok_l_pick T) (hr.mono (by decide)) rfl T.g_l_pick T.F_l_pick.kp T.b_l_pick .nil pass0 (pa_cons (pv 0) (pa_cons (pe_callB (id := "len") (r := Rd.nLen K) Rd.c_len (by rfl) T.n_len (by decide +kernel) (pa_cons (pv 1) pa_nil)) pa_nil))) (fun _ _ => rfl)))))), ?_⟩
    walk_at "rd"
    refine Rd.iC ⟨by decide, by decide, by decide⟩ ?_
    walk_at "rd"
    refine Rx.repS ⟨by decide +kernel, fun _ _ => by decide +kernel, fun _ _ => by decide +kernel⟩ ?_
    walk_at "rd"
    refine Rd.addS (by rw [show (Txt.mul "abcdefgh" 5).length = 40 by decide +kernel, show ("abc" : Str).length = 3 by decide +kernel, sizeLine_eq]; decide) ?_
    have lz : (Txt.mul "abcdefgh" 5 ++ ("abc" : Str)).length ≤ 1000000 := by decide +kernel
    generalize Txt.mul "abcdefgh" 5 ++ ("abc" : Str) = z at lz
    walk_at "rd"
    refine ⟨Nat.le_of_ble_eq_true rfl, Rd.new fun p1 G1 n1 g1 s1 => ?_⟩
    walk_at "rd"
    refine Rd.dnew fun p2 G2 n2 g2 s2 => ?_
    walk_at "rd"
    refine ⟨Nat.le_of_ble_eq_true rfl, Rd.new fun p3 G3 n3 g3 s3 => ?_⟩
    walk_at "rd"
    refine ⟨Nat.le_of_ble_eq_true rfl, Rd.new fun p4 G4 n4 g4 s4 => ?_⟩
    walk_at "rd"
    refine ⟨Nat.le_of_ble_eq_true rfl, Rd.new fun p5 G5 n5 g5 s5 => ?_⟩
    walk_at "rd"
    refine ⟨Nat.le_of_ble_eq_true rfl, Rd.new fun p6 G6 n6 g6 s6 => ?_⟩
    walk_at "rd"
    refine Rx.disp fun p7 G7 n7 g7 s7 => Rx.pair ?_
    walk_at "rd"
    refine Rx.pair0 ⟨g7, [(.inr "a", .int 1)], rfl, by decide, fun G8 g8 off8 => ?_⟩
    have s8 := Rx.same_off2 s7 n7 off8
    walk_at "rd"
    refine ⟨Nat.le_of_ble_eq_true rfl, Rd.new fun p9 G9 n9 g9 s9 => ?_⟩
    walk_at "rd"
    refine Rx.disp fun p10 G10 n10 g10 s10 => Rx.pair ?_
    walk_at "rd"
    refine Rx.pair0 ⟨g10, [(.inr "b", .non)], rfl, by decide, fun G11 g11 off11 => ?_⟩
    have s11 := Rx.same_off2 s10 n10 off11
    walk_at "rd"
    refine ⟨Nat.le_of_ble_eq_true rfl, Rd.new fun p12 G12 n12 g12 s12 => ?_⟩
    walk_at "rd"
    refine ⟨Nat.le_of_ble_eq_true rfl, Rd.new fun p13 G13 n13 g13 s13 => ?_⟩
    walk_at "rd"
    refine ⟨Nat.le_of_ble_eq_true rfl, Rd.new fun p14 G14 n14 g14 s14 => ?_⟩
    walk_at "rd"
    have u1 : Same H G1 := s1
    have u2 := u1.trans s2
    have u3 := u2.trans s3
    have u4 := u3.trans s4
    have u5 := u4.trans s5
    have u6 := u5.trans s6
    have u8 := u6.trans s8
    have u9 := u8.trans s9
    have u11 := u9.trans s11
    have u12 := u11.trans s12
    have u13 := u12.trans s13
    have u14 := u13.trans s14
    obtain ⟨to, ht⟩ : ∃ o, H t = some o := by
      obtain ⟨_, _, _, _, _, _, g, _⟩ := tp
      exact ⟨_, g⟩
    have off : ∀ {p : Addr}, H p = none → p ≠ t := fun n => (ne_of_none ht n).symm
    have o1 := off n1
    have o2 := off (u1.free n2)
    have o3 := off (u2.free n3)
    have o5 := off (u4.free n5)
    have o6 := off (u5.free n6)
    have o7 := off (u6.free n7)
    have o9 := off (u8.free n9)
    have o10 := off (u9.free n10)
    have o12 := off (u11.free n12)
    have o13 := off (u12.free n13)
    have t12 := (s12.trans s13).trans s14
    have t9 := (s9.trans s11).trans t12
    have t6 := s6.trans (s8.trans t9)
    have t4 := s4.trans (s5.trans t6)
    have t2 := s2.trans (s3.trans t4)
    have h4 := (s5.trans t6) _ _ g4
    refine Rd.cat h4 g14 (by rw [sizeLine_eq]; exact Nat.le_of_ble_eq_true rfl) (Rd.new fun q G15 nq gq s15 => ?_)
    have qt := off (u14.free nq)
    have f1 := (t2.trans s15) _ _ g1
    have f2 := ((s3.trans t4).trans s15) _ _ g2
    have f3 := (t4.trans s15) _ _ g3
    have f5 := (t6.trans s15) _ _ g5
    have f6 := ((s8.trans t9).trans s15) _ _ g6
    have f8 := (t9.trans s15) _ _ g8
    have f9 := ((s11.trans t12).trans s15) _ _ g9
    have f11 := (t12.trans s15) _ _ g11
    have f12 := ((s13.trans s14).trans s15) _ _ g12
    have f13 := (s14.trans s15) _ _ g13
    have sH : Same H G15 := u14.trans s15
    have tp15 : Tape G15 t c := tp.same sH
    clear s1 s2 s3 s4 s5 s6 s7 s8 s9 s10 s11 s12 s13 s14 s15 t2 t4 t6 t9 t12 g1 g2 g3 g4 g5 g6 g7 g8 g9 g10 g11 g12 g13 g14 off8 off11 h4 u1 u2 u3 u4 u5 u6 u8 u9 u11 u12 u13 u14 n1 n2 n3 n4 n5 n6 n7 n9 n10 n12 n13 n14 nq
    have all := Rx.all_cons (P := Rx.Thing t G15) (Rx.flat .non rfl) <| Rx.all_cons (Rx.flat (.bl true) rfl) <| Rx.all_cons (Rx.flat (.bl false) rfl) <| Rx.all_cons (Rx.flat (.int 0) rfl) <| Rx.all_cons (Rx.flat (.int 7) rfl) <| Rx.all_cons (Rx.flat (.int (-1)) rfl) <|
      Rx.all_cons (Rx.flat (.int (10 ^ (20 : Int).toNat)) rfl) <| Rx.all_cons (Rx.flat (.str (z := "") (by decide +kernel)) rfl) <| Rx.all_cons (Rx.flat (.str (z := "A") (by decide +kernel)) rfl) <| Rx.all_cons (Rx.flat (.str (z := "a b") (by decide +kernel)) rfl) <| Rx.all_cons (Rx.flat (.str lz) rfl) <|
      Rx.all_cons (Rx.seqL f1 o1 (by decide) Rx.all_nil) <| Rx.all_cons (Rx.flat (.dct f2) rfl (Rx.off_ref o2)) <| Rx.all_cons (Rx.seqT f3 o3 (by decide) Rx.all_nil) <|
      Rx.all_cons (Rx.seqL f5 o5 (by decide) (Rx.all_cons (Rx.item (.str (by decide +kernel))) Rx.all_nil)) <| Rx.all_cons (Rx.seqT f6 o6 (by decide) (Rx.all_cons (Rx.item (.str (by decide +kernel))) (Rx.all_cons (Rx.item (.str (by decide +kernel))) Rx.all_nil))) <|
      Rx.all_cons (Rx.flat (.dct f8) rfl (Rx.off_ref o7)) <| Rx.all_cons (Rx.seqL f12 o12 (Nat.le_of_ble_eq_true rfl) (Rx.all_cons (Rx.item (.lst f9 (by decide)) (Rx.off_ref o9)) (Rx.all_cons (Rx.item (.dct f11) (Rx.off_ref o10)) Rx.all_nil))) <|
      Rx.all_cons (Rx.flat (.str (z := "a1") (by decide +kernel)) rfl) <| Rx.all_cons (Rx.seqT f13 o13 (by decide) (Rx.all_cons (Rx.item (.str (by decide +kernel))) Rx.all_nil)) Rx.all_nil
    clear f1 f2 f3 f5 f6 f8 f9 f11 f12 f13
    walk_at "rd"
    refine Rd.len (.inl (.of gq)) ?_
    walk_at "rd"
    refine pickR tp15 (show (0 : Int) < 20 by decide) (show (20 : Int) < 1073741824 by decide) fun r H5 r0 r1 tp5 b5 => ?_
    have r1' : r < 20 := r1
    refine Rd.ixL (.of (b5 _ _ qt gq)) (Rd.atI_of r0 (List.getElem?_eq_getElem (show r.toNat < 20 by omega))) ?_
    exact k _ _ ((all _ (List.getElem_mem (show r.toNat < 20 by omega))).but b5) tp5 fun b o hb e => b5 b o hb (sH _ _ e)

end
end W

namespace W
open PySem PySem.Spec PyProof.Rows L2
section
variable {P : Program} {w : World} {K : PySem.W.Frag} {mg : Str → Option Value} {base : Heap}
/-! ### odd things, what is wrong, what is told -/
inductive Vd where
  | told | lens (i : Int) | times
def Vd.isTold : Vd → Bool
  | .told => true
  | _ => false
def verdict (kind : Int) (k : Rx.Kd) (ks : List Rx.Kd) (ky : Rx.Kd) : Vd := match faultL k ks with
  | some i => .lens i
  | none => if kind = 1 ∧ okNum (10 ^ 30) ky = false then .times else .told
def vdSnd (y : V) : Vd → V
  | .told => .non
  | .lens i => .int i
  | .times => y
def VdFst (H : Hp) (a : V) : Vd → Prop
  | .told => a = .str "told"
  | .lens _ => ∃ l, a = .ref l ∧ H l = some (.lst [.bl true, .bl false])
  | .times => ∃ l, a = .ref l ∧ H l = some (.lst [.bl false, .bl true])
def VdAt (H : Hp) (p : Addr) (y : V) (v : Vd) : Prop := ∃ a, H p = some (.tup [a, vdSnd y v]) ∧ VdFst H a v
theorem VdFst.same {H H' : Hp} {a : V} {v : Vd} (s : Same H H') (h : VdFst H a v) : VdFst H' a v := by
  cases v with
  | told => exact h
  | lens i => obtain ⟨l, e, g⟩ := h; exact ⟨l, e, s _ _ g⟩
  | times => obtain ⟨l, e, g⟩ := h; exact ⟨l, e, s _ _ g⟩
theorem VdAt.same {H H' : Hp} {p : Addr} {y : V} {v : Vd} (s : Same H H') (h : VdAt H p y v) : VdAt H' p y v := by
  obtain ⟨a, g, f⟩ := h
  exact ⟨a, s _ _ g, f.same s⟩
theorem eqI_refl {K : PySem.W.Frag} {H : Hp} {y : V} {k : Rx.Kd} (h : Rx.Is H y k) : Rx.EqI K H y y := by
  cases h with
  | non => exact .inl ⟨rfl, rfl⟩
  | bl b => exact .inl ⟨rfl, rfl⟩
  | int i => exact .inl ⟨rfl, rfl⟩
  | str l => exact .inl ⟨rfl, rfl⟩
  | lst h l => exact .inr (.inl ⟨_, rfl, rfl⟩)
  | tup h l => exact .inr (.inl ⟨_, rfl, rfl⟩)
  | dct h => exact .inr (.inl ⟨_, rfl, rfl⟩)
theorem vdSnd_is {H : Hp} {y : V} {ky : Rx.Kd} (h : Rx.Is H y ky) (v : Vd) : ∃ k, Rx.Is H (vdSnd y v) k := by
  cases v with
  | told => exact ⟨_, .non⟩
  | lens i => exact ⟨_, .int i⟩
  | times => exact ⟨_, h⟩
theorem vdFst_eq {K : PySem.W.Frag} {H : Hp} {a b : V} {v : Vd} (h : VdFst H a v) (h' : VdFst H b v) : Rx.EqI K H a b := by
  cases v with
  | told => rw [show a = _ from h, show b = _ from h']; exact .inl ⟨rfl, rfl⟩
  | lens i =>
    obtain ⟨l, rfl, g⟩ := h
    obtain ⟨l', rfl, g'⟩ := h'
    exact .inr (.inr ⟨.list [.bool true, .bool false], .list [.bool true, .bool false], .lst (.of g) (.cons (.bl _) (.cons (.bl _) .nil)), .lst (.of g') (.cons (.bl _) (.cons (.bl _) .nil)), by decide +kernel, by decide +kernel, by decide +kernel⟩)
  | times =>
    obtain ⟨l, rfl, g⟩ := h
    obtain ⟨l', rfl, g'⟩ := h'
    exact .inr (.inr ⟨.list [.bool false, .bool true], .list [.bool false, .bool true], .lst (.of g) (.cons (.bl _) (.cons (.bl _) .nil)), .lst (.of g') (.cons (.bl _) (.cons (.bl _) .nil)), by decide +kernel, by decide +kernel, by decide +kernel⟩)
theorem vd_eq {K : PySem.W.Frag} {H : Hp} {p q : Addr} {y : V} {ky : Rx.Kd} {v : Vd} (hy : Rx.Is H y ky) (h : VdAt H p y v) (h' : VdAt H q y v) : Rx.TupEq K H (.ref p) (.ref q) := by
  obtain ⟨a, g, f⟩ := h
  obtain ⟨b, g', f'⟩ := h'
  obtain ⟨k, i⟩ := vdSnd_is hy v
  exact ⟨p, q, _, _, rfl, rfl, .of g, .of g', .cons (vdFst_eq f f') (.cons (eqI_refl i) .nil)⟩
/-- is the first "told"? -/
theorem vd_told {K : PySem.W.Frag} {H : Hp} {a : V} {v : Vd} {Q : VK} (h : VdFst H a v) (q : Q (.bl v.isTold) H) : rEqD K a (.str "told") H Q := by
  cases v with
  | told => rw [show a = _ from h]; exact ⟨.str "told", .str "told", .str _, .str _, by decide +kernel, by decide +kernel, by rw [show PyData.eqv (.str "told") (.str "told") = true by decide +kernel]; exact q⟩
  | lens i =>
    obtain ⟨l, rfl, g⟩ := h
    exact ⟨.list [.bool true, .bool false], .str "told", .lst (.of g) (.cons (.bl _) (.cons (.bl _) .nil)), .str _, by decide +kernel, by decide +kernel, by rw [show PyData.eqv (.list [.bool true, .bool false]) (.str "told") = false by decide +kernel]; exact q⟩
  | times =>
    obtain ⟨l, rfl, g⟩ := h
    exact ⟨.list [.bool false, .bool true], .str "told", .lst (.of g) (.cons (.bl _) (.cons (.bl _) .nil)), .str _, by decide +kernel, by decide +kernel, by rw [show PyData.eqv (.list [.bool false, .bool true]) (.str "told") = false by decide +kernel]; exact q⟩
def sp_l_asked (K : PySem.W.Frag) : Sp := fun vs H Q _ => ∃ (kind : Int) (x : V) (k : Rx.Kd) (ks : List Rx.Kd) (y : V) (ky : Rx.Kd), vs = [.int kind, x, y] ∧ (kind = 0 ∨ kind = 1) ∧ Rx.Rowed H x k ks ∧ Rx.Is H y ky ∧ ∀ (p : Addr) H', Same H H' → VdAt H' p y (verdict kind k ks ky) → Q (.ref p) H'
def sp_l_due (K : PySem.W.Frag) : Sp := fun vs H Q _ => ∃ (kind : Int) (x : V) (k : Rx.Kd) (ks : List Rx.Kd) (y : V) (ky : Rx.Kd), vs = [.int kind, x, y] ∧ (kind = 0 ∨ kind = 1) ∧ Rx.Rowed H x k ks ∧ Rx.Is H y ky ∧ ∀ (p : Addr) H', Same H H' → VdAt H' p y (verdict kind k ks ky) → Q (.ref p) H'
def sp_l_is_number (K : PySem.W.Frag) : Sp := fun vs H Q _ => ∃ (x : V) (k : Rx.Kd) (m : Int), vs = [x, .int m] ∧ Rx.Is H x k ∧ Q (.bl (okNum m k)) H
def sp_l_bent (K : PySem.W.Frag) : Sp := fun vs H Q _ => ∃ (t c l : Addr) (ns : List Int), vs = [.ref t, .ref l] ∧ Tape H t c ∧ l ≠ t ∧ l ≠ c ∧ H l = some (.lst (ns.map V.int)) ∧ Lens ns ∧ ∀ (x : V) H', Rx.Thing t H' x → Tape H' t c → Rd.But t H H' → Q x H'
theorem cut_upto {xs : List V} {b : Int} (h : 0 ≤ b) : cutV xs none (some b) = xs.take b.toNat := by
  unfold cutV
  rw [show b = ((b.toNat : Nat) : Int) by omega, HT.sIx_nat]
  show (xs.drop 0).take (min _ _ - 0) = _
  rw [List.drop_zero, Nat.sub_zero, Int.toNat_natCast]
  rcases Nat.le_total b.toNat xs.length with q | q
  · rw [Nat.min_eq_left q]
  · rw [Nat.min_eq_right q, List.take_of_length_le (Nat.le_refl _), List.take_of_length_le q]
theorem ok_l_is_number (T : Txt K mg) : FnOk P w K mg base CX0 1 T.f_l_is_number T.fd_l_is_number ["_law_thing", "_law_most"] (sp_l_is_number K) := by
  refine T.F_l_is_number.ok sc_l_is_number (fun vs H Q E h => ?_) (fun cdv A outer s H vs Q E hr h => ?_)
  · obtain ⟨x, kd, m, rfl, _⟩ := h
    rfl
  · obtain ⟨x, kd, m, rfl, ix, k⟩ := h
    refine ⟨_, (pss_one (ps_ret (pe_and (pe_callB (id := "isinstance") (r := rIsi K) call_isi (by rfl) T.n_isinstance (by decide +kernel) (pa_cons (pv 0) (pa_cons (pe_bltn (v := .ty "int") (u := .type "int") (by rfl) T.n_int (by decide +kernel) rfl) pa_nil))) (pe_and (pe_not (pe_callB (id := "isinstance") (r := rIsi K) call_isi (by rfl) T.n_isinstance (by decide +kernel) (pa_cons (pv 0) (pa_cons (pe_bltn (v := .ty "bool") (u := .type "bool") (by rfl) T.n_bool (by decide +kernel) rfl) pa_nil)))) (pe_and (pe_cmpR op_ge (pv 0) pe_int (nomark _)) (pe_one (pe_cmpR op_le (pv 0) (pv 1) (nomark _)))))))), ?_⟩
    walk_at "go"
    cases ix with
    | int i =>
      refine Rd.yes rfl ?_
      walk_at "go"
      refine ite2 (fun c => ?_) (fun c => ?_)
      · walk_at "go"
        rw [show okNum m (.int i) = decide (i ≤ m) from decide_eq_decide.mpr ⟨fun h => h.2, fun h => ⟨by omega, h⟩⟩] at k
        exact k
      · rw [show okNum m (.int i) = false from decide_eq_false fun h => by omega] at k
        walk_at "go"
        exact k
    | bl b =>
      refine Rd.yes rfl ?_
      walk_at "go"
      exact k
    | _ =>
      refine Rd.no Bool.false_ne_true ?_
      exact k
theorem ok_l_asked (T : Txt K mg) : FnOk P w K mg base CX0 6 T.f_l_asked T.fd_l_asked ["_law_kind", "_law_lengths_here", "_law_last"] (sp_l_asked K) := by
  refine T.F_l_asked.ok sc_l_asked (fun vs H Q E h => ?_) (fun cdv A outer s H vs Q E hr h => ?_)
  · obtain ⟨kind, x, kd, ks, y, ky, rfl, _⟩ := h
    rfl
  · obtain ⟨kind, x, kd, ks, y, ky, rfl, k01, r, iy, k⟩ := h
    refine ⟨_, (pss_cons (ps_set (i := 3) sc_l_asked.nd rfl (.inl rfl) (pe_tup (pa_cons pe_str (pa_cons pe_non pa_nil))))
  (pss_cons (ps_try_as (i := 4) (Wout := (fun _ _ _ _ => False)) rfl rfl sc_l_asked.nd rfl rfl ⟨rfl, by decide, Or.inl T.c_WayError⟩ takes0
   (fun W pn xe tk _ => (pss_one (ps_if (pt_cmpR op_eq (pv 0) pe_int (nomark _))
  (pss_one (ps_expr (pe_callS (ok_lone_gaps T) (hr.mono (by decide)) rfl T.g_lone_gaps T.F_lone_gaps.kp T.b_lone_gaps (fun σ => passAt tk σ) (pa_cons (pv 1) pa_nil))))
  (pss_one (ps_expr (pe_callS (ok_lone_told T) (hr.mono (by decide)) rfl T.g_lone_told T.F_lone_told.kp T.b_lone_told (fun σ => passAt tk σ) (pa_cons (pv 1) (pa_cons (pv 2) pa_nil))))))))
   (fun a oe cls d pn hz hf => (pss_one (ps_set (i := 3) sc_l_asked.nd rfl (.inl rfl) (pe_tup (pa_cons (pe_lst (pa_cons (pe_callB (id := "isinstance") (r := Rx.rIsX K a cls d) (Rx.call_isX hz hf) (by rfl) T.n_isinstance (by decide +kernel) (pa_cons (pv 4) (pa_cons (pe_glob (v := .ref T.C_BadLengths) rfl T.c_BadLengths rfl) pa_nil))) (pa_cons (pe_callB (id := "isinstance") (r := Rx.rIsX K a cls d) (Rx.call_isX hz hf) (by rfl) T.n_isinstance (by decide +kernel) (pa_cons (pv 4) (pa_cons (pe_glob (v := .ref T.C_BadTimes) rfl T.c_BadTimes rfl) pa_nil))) pa_nil))) (pa_cons (Rx.pe_xv hz hf (pv 4) : PE _ _ (Rx.tXv K a cls d _ _)) pa_nil)))))))
  (pss_one (ps_ret (pv 3))))), ?_⟩
    walk_at "rd"
    refine ⟨Nat.le_of_ble_eq_true rfl, Rd.new fun p0 G0 n0 g0 s0 => ?_⟩
    walk_at "rd"
    walk_at "rd"
    refine ite2 (fun c => ?_) (fun c => ?_)
    · walk_at "rd"
      refine ⟨x, kd, ks, rfl, r.same s0, fun i f d H2 nd hd s2 => ?_, fun f l H2 s2 nl _ => ?_⟩
      · refine Rx.caught T.X_WayError T.s_BadLengths_WayError fun ea na => ?_
        walk_at "rd"
        refine Rx.isX T.X_BadLengths T.X_BadLengths T.s_BadLengths_BadLengths hd ?_
        walk_at "rd"
        refine Rx.isX T.X_BadLengths T.X_BadTimes T.s_BadLengths_BadTimes hd ?_
        walk_at "rd"
        refine ⟨Nat.le_of_ble_eq_true rfl, Rd.new fun p1 G1 n1 g1 s1 => ?_⟩
        walk_at "rd"
        refine Rx.xv T.X_BadLengths (s1 _ _ hd) ?_
        walk_at "rd"
        refine ⟨Nat.le_of_ble_eq_true rfl, Rd.new fun p2 G2 n2 g2 s3 => ?_⟩
        walk_at "rd"
        refine k _ _ (((s0.trans s2).trans s1).trans s3) ?_
        unfold verdict
        rw [f]
        exact ⟨_, g2, p1, rfl, s3 _ _ g1⟩
      · walk_at "rd"
        refine k _ _ (s0.trans s2) ?_
        unfold verdict
        rw [f]
        dsimp only
        rw [if_neg (fun h => by omega)]
        exact ⟨_, s2 _ _ g0, rfl⟩
    · walk_at "rd"
      refine ⟨x, kd, ks, y, ky, rfl, r.same s0, iy.same s0, fun i f d H2 nd hd s2 => ?_, fun f b d H2 nd hd s2 => ?_, fun f b H2 bb s2 _ => ?_⟩
      · refine Rx.caught T.X_WayError T.s_BadLengths_WayError fun ea na => ?_
        walk_at "rd"
        refine Rx.isX T.X_BadLengths T.X_BadLengths T.s_BadLengths_BadLengths hd ?_
        walk_at "rd"
        refine Rx.isX T.X_BadLengths T.X_BadTimes T.s_BadLengths_BadTimes hd ?_
        walk_at "rd"
        refine ⟨Nat.le_of_ble_eq_true rfl, Rd.new fun p1 G1 n1 g1 s1 => ?_⟩
        walk_at "rd"
        refine Rx.xv T.X_BadLengths (s1 _ _ hd) ?_
        walk_at "rd"
        refine ⟨Nat.le_of_ble_eq_true rfl, Rd.new fun p2 G2 n2 g2 s3 => ?_⟩
        walk_at "rd"
        refine k _ _ (((s0.trans s2).trans s1).trans s3) ?_
        unfold verdict
        rw [f]
        exact ⟨_, g2, p1, rfl, s3 _ _ g1⟩
      · refine Rx.caught T.X_WayError T.s_BadTimes_WayError fun ea na => ?_
        walk_at "rd"
        refine Rx.isX T.X_BadTimes T.X_BadLengths T.s_BadTimes_BadLengths hd ?_
        walk_at "rd"
        refine Rx.isX T.X_BadTimes T.X_BadTimes T.s_BadTimes_BadTimes hd ?_
        walk_at "rd"
        refine ⟨Nat.le_of_ble_eq_true rfl, Rd.new fun p1 G1 n1 g1 s1 => ?_⟩
        walk_at "rd"
        refine Rx.xv T.X_BadTimes (s1 _ _ hd) ?_
        walk_at "rd"
        refine ⟨Nat.le_of_ble_eq_true rfl, Rd.new fun p2 G2 n2 g2 s3 => ?_⟩
        walk_at "rd"
        refine k _ _ (((s0.trans s2).trans s1).trans s3) ?_
        unfold verdict
        rw [f]
        dsimp only
        rw [if_pos ⟨by omega, b⟩]
        exact ⟨_, g2, p1, rfl, s3 _ _ g1⟩
      · walk_at "rd"
        refine k _ _ (s0.trans s2) ?_
        unfold verdict
        rw [f]
        dsimp only
        rw [if_neg (fun h => by rw [b] at h; cases h.2)]
        exact ⟨_, s2 _ _ g0, rfl⟩
theorem ok_l_due (T : Txt K mg) : FnOk P w K mg base CX0 2 T.f_l_due T.fd_l_due ["_law_kind", "_law_lengths_here", "_law_last"] (sp_l_due K) := by
  refine T.F_l_due.ok sc_l_due (fun vs H Q E h => ?_) (fun cdv A outer s H vs Q E hr h => ?_)
  · obtain ⟨kind, x, kd, ks, y, ky, rfl, _⟩ := h
    rfl
  · obtain ⟨kind, x, kd, ks, y, ky, rfl, k01, r, iy, k⟩ := h
    refine ⟨_, (pss_cons (ps_if (PW.pt (pw_or (pt_not (pt_val (pe_callB (id := "isinstance") (r := rIsiT K) call_isiT (by rfl) T.n_isinstance (by decide +kernel) (pa_cons (pv 1) (pa_cons (pe_tup (pa_cons (pe_bltn (v := .ty "list") (u := .type "list") (by rfl) T.n_list (by decide +kernel) rfl) (pa_cons (pe_bltn (v := .ty "tuple") (u := .type "tuple") (by rfl) T.n_tuple (by decide +kernel) rfl) pa_nil))) pa_nil))))) (pw_or (pt_cmpR op_lt (pe_callB (id := "len") (r := Rd.nLen K) Rd.c_len (by rfl) T.n_len (by decide +kernel) (pa_cons (pv 1) pa_nil)) pe_int (nomark _)) (pw_or1 (pt_cmpR op_gt (pe_callB (id := "len") (r := Rd.nLen K) Rd.c_len (by rfl) T.n_len (by decide +kernel) (pa_cons (pv 1) pa_nil)) pe_int (nomark _))))))
  (pss_one (ps_ret (pe_tup (pa_cons (pe_lst (pa_cons pe_bl (pa_cons pe_bl pa_nil))) (pa_cons (pe_un un_neg pe_int) pa_nil)))))
  pss_nil)
  (pss_cons (ps_for PassesOwn.never rfl (pi_range1 rfl T.n_range (pa_cons (pe_callB (id := "len") (r := Rd.nLen K) Rd.c_len (by rfl) T.n_len (by decide +kernel) (pa_cons (pv 1) pa_nil)) pa_nil)) (pg_name (i := 3) sc_l_due.nd rfl (.inl rfl))
  (pss_one (ps_if (pt_not (pt_val (pe_call (ok_l_is_number T) (hr.mono (by decide)) rfl T.g_l_is_number T.F_l_is_number.kp T.b_l_is_number .nil pass0 (pa_cons (pe_ix (r := fun x y H Q => rIxL K x y H Q ∨ rIxT K x y H Q) (IxR.or ix_list ix_tup) (pv 1) (pv 3) (fun _ _ => rfl)) (pa_cons pe_int pa_nil)))))
  (pss_one (ps_ret (pe_tup (pa_cons (pe_lst (pa_cons pe_bl (pa_cons pe_bl pa_nil))) (pa_cons (pv 3) pa_nil)))))
  pss_nil)))
  (pss_cons (ps_if (PW.pt (pw_and (pt_cmpR op_eq (pv 0) pe_int (nomark _)) (pw_and1 (pt_not (pt_val (pe_call (ok_l_is_number T) (hr.mono (by decide)) rfl T.g_l_is_number T.F_l_is_number.kp T.b_l_is_number .nil pass0 (pa_cons (pv 2) (pa_cons (pe_op op_pow pe_int pe_int) pa_nil))))))))
  (pss_one (ps_ret (pe_tup (pa_cons (pe_lst (pa_cons pe_bl (pa_cons pe_bl pa_nil))) (pa_cons (pv 2) pa_nil)))))
  pss_nil)
  (pss_one (ps_ret (pe_tup (pa_cons pe_str (pa_cons pe_non pa_nil)))))))), ?_⟩
    walk_at "rd"
    refine ⟨Nat.le_of_ble_eq_true rfl, Rd.new fun p G hp gp sG => ?_⟩
    walk_at "rd"
    have rG := r.same sG
    refine Rx.askSeq gp rG.1 ?_
    have bad : (¬ (kd.isSeq = true ∧ 1 ≤ ks.length ∧ ks.length ≤ 8)) → verdict kind kd ks ky = .lens (-1) := fun h => by
      unfold verdict
      rw [show faultL kd ks = some (-1) from if_neg h]
    walk_at "rd"
    by_cases s : kd.isSeq = true
    · rw [s]
      obtain ⟨a, xs, rfl, xl, pr, sq⟩ := seq_len rG s
      walk_at "rd"
      refine Rd.len (sq K) ?_
      rw [xl]
      walk_at "rd"
      refine ite2 (fun c1 => ?_) (fun c1 => ?_)
      · walk_at "rd"
        refine ⟨Nat.le_of_ble_eq_true rfl, Rd.new fun p1 G1 n1 g1 s1 => ?_⟩
        walk_at "rd"
        refine ⟨Nat.le_of_ble_eq_true rfl, Rd.new fun p2 G2 n2 g2 s2 => ?_⟩
        refine k _ _ ((sG.trans s1).trans s2) ?_
        rw [bad fun h => by omega]
        exact ⟨_, g2, p1, rfl, s2 _ _ g1⟩
      · walk_at "rd"
        refine Rd.len (sq K) ?_
        rw [xl]
        walk_at "rd"
        refine ite2 (fun c2 => ?_) (fun c2 => ?_)
        · walk_at "rd"
          refine ⟨Nat.le_of_ble_eq_true rfl, Rd.new fun p1 G1 n1 g1 s1 => ?_⟩
          walk_at "rd"
          refine ⟨Nat.le_of_ble_eq_true rfl, Rd.new fun p2 G2 n2 g2 s2 => ?_⟩
          refine k _ _ ((sG.trans s1).trans s2) ?_
          rw [bad fun h => by omega]
          exact ⟨_, g2, p1, rfl, s2 _ _ g1⟩
        · have l1 : 1 ≤ ks.length := by omega
          have l2 : ks.length ≤ 8 := by omega
          walk_at "rd"
          refine Rd.forS ?_
          walk_at "rd"
          refine Rd.len (sq K) ?_
          rw [xl]
          walk_at "rd"
          refine ⟨by omega, by omega, ?_⟩
          refine for_range (lo := 0) (n := ks.length) (fun i σ H' => ∃ o3, σ = [some (.int kind), some (.ref a), some y, o3] ∧ H' = G ∧ ∀ d ∈ ks.take i, okNum 60 d = true) ⟨_, rfl, rfl, fun d h => by simp at h⟩ ?_ ?_
          · rintro i _ G' hi ⟨o3, rfl, rfl, oks⟩
            have hx : i < xs.length := by omega
            obtain ⟨cd, hc, ic⟩ := Rx.paired_get pr (List.getElem?_eq_getElem hx)
            walk_at "rd"
            have rd : ∀ {Q : VK}, Q xs[i] G' → (rIxL K (.ref a) (.int (0 + (i : Nat))) G' Q ∨ rIxT K (.ref a) (.int (0 + (i : Nat))) G' Q) := fun {Q} q => by
              rw [show (0 : Int) + (i : Nat) = (i : Nat) by omega]
              rcases sq K with h | h
              · exact .inl ⟨a, xs, _, _, rfl, rfl, h, atI_nat (List.getElem?_eq_getElem hx), q⟩
              · exact .inr ⟨a, xs, _, _, rfl, rfl, h, atI_nat (List.getElem?_eq_getElem hx), q⟩
            refine rd ?_
            walk_at "rd"
            refine ⟨xs[i], cd, 60, rfl, ic, ?_⟩
            walk_at "rd"
            cases e : okNum 60 cd with
            | true =>
              walk_at "rd"
              refine ⟨_, rfl, rfl, fun d m => ?_⟩
              rw [Rd.take_snoc hc] at m
              rcases List.mem_append.mp m with m | m
              · exact oks d m
              · rw [List.mem_singleton.mp m]
                exact e
            | false =>
              walk_at "rd"
              refine ⟨Nat.le_of_ble_eq_true rfl, Rd.new fun p1 G1 n1 g1 s1 => ?_⟩
              walk_at "rd"
              refine ⟨Nat.le_of_ble_eq_true rfl, Rd.new fun p2 G2 n2 g2 s2 => ?_⟩
              refine k _ _ ((sG.trans s1).trans s2) ?_
              have v : verdict kind kd ks ky = .lens (0 + (i : Nat)) := by
                unfold verdict
                rw [fault_first s l1 l2 hc e oks, show (0 : Int) + (i : Nat) = (i : Nat) by omega]
              rw [v]
              exact ⟨_, g2, p1, rfl, s2 _ _ g1⟩
          · rintro _ G' ⟨o3, rfl, rfl, oks⟩
            rw [List.take_length] at oks
            have fn := fault_none s l1 l2 oks
            walk_at "rd"
            have told : ¬ (kind = 1 ∧ okNum (10 ^ 30) ky = false) → verdict kind kd ks ky = .told := fun h => by
              unfold verdict
              rw [fn]
              exact if_neg h
            refine ite2 (fun q => ?_) (fun q => ?_)
            · walk_at "rd"
              refine Rd.iC ⟨by decide, by decide, by decide⟩ ?_
              walk_at "rd"
              refine ⟨y, ky, 10 ^ 30, rfl, iy.same sG, ?_⟩
              walk_at "rd"
              cases e : okNum (10 ^ 30) ky with
              | false =>
                walk_at "rd"
                refine ⟨Nat.le_of_ble_eq_true rfl, Rd.new fun p1 G1 n1 g1 s1 => ?_⟩
                walk_at "rd"
                refine ⟨Nat.le_of_ble_eq_true rfl, Rd.new fun p2 G2 n2 g2 s2 => ?_⟩
                refine k _ _ ((sG.trans s1).trans s2) ?_
                have v : verdict kind kd ks ky = .times := by
                  unfold verdict
                  rw [fn]
                  exact if_pos ⟨by omega, e⟩
                rw [v]
                exact ⟨_, g2, p1, rfl, s2 _ _ g1⟩
              | true =>
                walk_at "rd"
                refine ⟨Nat.le_of_ble_eq_true rfl, Rd.new fun p2 G2 n2 g2 s2 => ?_⟩
                refine k _ _ (sG.trans s2) ?_
                rw [told fun h => by rw [e] at h; cases h.2]
                exact ⟨_, g2, rfl⟩
            · walk_at "rd"
              refine ⟨Nat.le_of_ble_eq_true rfl, Rd.new fun p2 G2 n2 g2 s2 => ?_⟩
              refine k _ _ (sG.trans s2) ?_
              rw [told fun h => by omega]
              exact ⟨_, g2, rfl⟩
    · have s' : kd.isSeq = false := by simpa using s
      rw [s']
      walk_at "rd"
      refine ⟨Nat.le_of_ble_eq_true rfl, Rd.new fun p1 G1 n1 g1 s1 => ?_⟩
      walk_at "rd"
      refine ⟨Nat.le_of_ble_eq_true rfl, Rd.new fun p2 G2 n2 g2 s2 => ?_⟩
      refine k _ _ ((sG.trans s1).trans s2) ?_
      rw [bad fun h => s h.1]
      exact ⟨_, g2, p1, rfl, s2 _ _ g1⟩
theorem ok_l_bent (T : Txt K mg) : FnOk P w K mg base CX0 3 T.f_l_bent T.fd_l_bent ["_law_tape_here", "_law_lengths_here"] (sp_l_bent K) := by
  refine T.F_l_bent.ok sc_l_bent (fun vs H Q E h => ?_) (fun cdv A outer s H vs Q E hr h => ?_)
  · obtain ⟨t, c, l, ns, rfl, _⟩ := h
    rfl
  · obtain ⟨t, c, l, ns, rfl, tp, lt, lc, gl, L, k⟩ := h
    refine ⟨_, (pss_cons (ps_set (i := 2) sc_l_bent.nd rfl (.inl rfl) (pe_call (ok_l_pick T) (hr.mono (by decide)) rfl T.g_l_pick T.F_l_pick.kp T.b_l_pick .nil pass0 (pa_cons (pv 0) (pa_cons pe_int pa_nil))))
  (pss_cons (ps_set (i := 3) sc_l_bent.nd rfl (.inl rfl) (pe_call (ok_l_pick T) (hr.mono (by decide)) rfl T.g_l_pick T.F_l_pick.kp T.b_l_pick .nil pass0 (pa_cons (pv 0) (pa_cons (pe_op op_add (pe_callB (id := "len") (r := Rd.nLen K) Rd.c_len (by rfl) T.n_len (by decide +kernel) (pa_cons (pv 1) pa_nil)) pe_int) pa_nil))))
  (pss_cons (ps_if (pt_cmpR op_eq (pv 2) pe_int (nomark _))
  (pss_one (ps_ret (pe_call (ok_l_odd T) (hr.mono (by decide)) rfl T.g_l_odd T.F_l_odd.kp T.b_l_odd .nil pass0 (pa_cons (pv 0) pa_nil))))
  pss_nil)
  (pss_cons (ps_if (pt_cmpR op_eq (pv 2) pe_int (nomark _))
  (pss_one (ps_ret (pe_slice (r := rSlL K) sl_list (pe_op op_rep (pv 1) pe_int) po_none (po_some (pe_op op_add pe_int (pe_call (ok_l_pick T) (hr.mono (by decide)) rfl T.g_l_pick T.F_l_pick.kp T.b_l_pick .nil pass0 (pa_cons (pv 0) (pa_cons pe_int pa_nil))))))))
  pss_nil)
  (pss_cons (ps_set (i := 4) sc_l_bent.nd rfl (.inl rfl) (pe_ix (r := rIxL K) ix_list (pe_lst (pa_cons pe_int (pa_cons pe_int (pa_cons pe_bl (pa_cons pe_str (pa_cons pe_non (pa_cons (pe_lst (pa_cons pe_int pa_nil)) (pa_cons pe_int (pa_cons (pe_un un_neg pe_int) pa_nil))))))))) (pe_call (ok_l_pick T) (hr.mono (by decide)) rfl T.g_l_pick T.F_l_pick.kp T.b_l_pick .nil pass0 (pa_cons (pv 0) (pa_cons pe_int pa_nil))) (fun _ _ => rfl)))
  (pss_cons (ps_if (pt_cmpR op_eq (pv 2) pe_int (nomark _))
  (pss_one (ps_ret (pe_callTy (T := "tuple") (r := Rd.nTupOf K) Rd.c_tupOf (by rfl) T.n_tuple (by decide +kernel) (pa_cons (pe_op op_cat (pe_op op_cat (pe_slice (r := rSlL K) sl_list (pv 1) po_none (po_some (pv 3))) (pe_lst (pa_cons (pv 4) pa_nil))) (pe_slice (r := rSlL K) sl_list (pv 1) (po_some (pe_op op_add (pv 3) pe_int)) po_none)) pa_nil))))
  pss_nil)
  (pss_one (ps_ret (pe_op op_cat (pe_op op_cat (pe_slice (r := rSlL K) sl_list (pv 1) po_none (po_some (pv 3))) (pe_lst (pa_cons (pv 4) pa_nil))) (pe_slice (r := rSlL K) sl_list (pv 1) (po_some (pv 3)) po_none)))))))))), ?_⟩
    have l0 := L.l0
    have l1 := L.l1
    walk_at "rd"
    refine pickR tp (by decide) (by decide) fun kind H1 k0 k1 tp1 b1 => ?_
    have gl1 := b1 _ _ lt gl
    walk_at "rd"
    refine Rd.len (.inl (.of gl1)) ?_
    rw [List.length_map]
    walk_at "rd"
    refine pickR tp1 (by omega) (by omega) fun at_ H2 a0 a1 tp2 b2 => ?_
    have gl2 := b2 _ _ lt gl1
    have b12 := b1.trans b2
    have off : ∀ {p : Addr}, H2 p = none → p ≠ t := fun n => by
      obtain ⟨_, _, _, _, _, _, g, _⟩ := tp2
      exact (ne_of_none g n).symm
    have intsI : ∀ {G : Hp} (ms : List Int), ∀ x ∈ ms.map V.int, Rx.Item t G x := fun ms x m => by
      obtain ⟨i, _, rfl⟩ := List.mem_map.mp m
      exact Rx.item (.int i)
    walk_at "rd"
    refine ite2 (fun q => ?_) (fun q => ?_)
    · walk_at "rd"
      refine ⟨t, c, rfl, tp2, fun x H3 th tp3 b3 => ?_⟩
      exact k x H3 th tp3 (b12.trans b3)
    · walk_at "rd"
      refine ite2 (fun q2 => ?_) (fun q2 => ?_)
      · walk_at "rd"
        refine Rd.rep gl2 (by decide) (by decide) (by rw [List.length_map, sizeLine_eq]; show _ * 9 ≤ _; omega) (Rd.new fun p G1 n1 g1 s1 => ?_)
        have e : (List.replicate (9 : Int).toNat (ns.map V.int)).flatten = ((List.replicate 9 ns).flatten).map V.int := by
          rw [List.map_flatten, List.map_replicate]
          rfl
        rw [e] at g1
        walk_at "rd"
        refine pickR (tp2.same s1) (by decide) (by decide) fun r H3 r0 r1 tp3 b3 => ?_
        walk_at "rd"
        refine Rd.slL (.of (b3 _ _ (off n1) g1)) (Rd.new fun p2 G2 n2 g2 s2 => ?_)
        have e2 : cutV (((List.replicate 9 ns).flatten).map V.int) none (some (8 + r)) = (((List.replicate 9 ns).flatten).take (8 + r).toNat).map V.int := by
          rw [cut_upto (by omega), List.map_take]
        rw [e2] at g2
        have n2' : p2 ≠ t := by
          obtain ⟨_, _, _, _, _, _, g, _⟩ := tp3
          exact (ne_of_none g n2).symm
        refine k _ _ (Rx.seqL g2 n2' ?_ (intsI _)) (tp3.same s2) ?_
        · rw [List.length_map, List.length_take]
          omega
        · exact fun b o hb e => s2 _ _ (b3 _ _ hb (s1 _ _ (b12 b o hb e)))
      · walk_at "rd"
        refine ⟨Nat.le_of_ble_eq_true rfl, Rd.new fun p4 G4 n4 g4 s4 => ?_⟩
        walk_at "rd"
        refine ⟨Nat.le_of_ble_eq_true rfl, Rd.new fun p5 G5 n5 g5 s5 => ?_⟩
        walk_at "rd"
        have s45 := s4.trans s5
        refine pickR (tp2.same s45) (by decide) (by decide) fun r H3 r0 r1 tp3 b3 => ?_
        have p4t := off n4
        have p5t := off (s4.free n5)
        have all : ∀ x ∈ [V.int 0, .int 61, .bl true, .str "3", .non, .ref p4, .int 60, .int (-5)], Rx.Item t H3 x :=
          Rx.all_cons (Rx.item (.int _)) <| Rx.all_cons (Rx.item (.int _)) <| Rx.all_cons (Rx.item (.bl _)) <| Rx.all_cons (Rx.item (.str (by decide +kernel))) <| Rx.all_cons (Rx.item .non) <|
          Rx.all_cons (Rx.item (.lst (b3 _ _ p4t (s5 _ _ g4)) (by decide)) (Rx.off_ref p4t)) <| Rx.all_cons (Rx.item (.int _)) <| Rx.all_cons (Rx.item (.int _)) Rx.all_nil
        have r8 : r.toNat < 8 := by omega
        refine Rd.ixL (.of (b3 _ _ p5t g5)) (Rd.atI_of r0 (List.getElem?_eq_getElem (show r.toNat < [V.int 0, .int 61, .bl true, .str "3", .non, .ref p4, .int 60, .int (-5)].length from r8))) ?_
        have it := all _ (List.getElem_mem (show r.toNat < [V.int 0, .int 61, .bl true, .str "3", .non, .ref p4, .int 60, .int (-5)].length from r8))
        generalize [V.int 0, .int 61, .bl true, .str "3", .non, .ref p4, .int 60, .int (-5)][r.toNat]'r8 = w at it
        have gl3 := b3 _ _ lt (s45 _ _ gl2)
        have bH : Rd.But t H H3 := fun b o hb e => b3 _ _ hb (s45 _ _ (b12 b o hb e))
        clear all b3 g5 g4 n4 n5 s4 s5 s45 p4t p5t
        have offs : ∀ {p : Addr}, H3 p = none → p ≠ t := fun n => by
          obtain ⟨_, _, _, _, _, _, g, _⟩ := tp3
          exact (ne_of_none g n).symm
        have cutI : ∀ lo hi, ∃ ms : List Int, cutV (ns.map V.int) lo hi = ms.map V.int ∧ ms.length ≤ 8 := fun lo hi => by
          refine ⟨(ns.drop (HT.sIx ns.length 0 lo)).take (HT.sIx ns.length ns.length hi - HT.sIx ns.length 0 lo), ?_, ?_⟩
          · unfold cutV
            rw [List.length_map, ← List.map_drop, ← List.map_take]
          · rw [List.length_take, List.length_drop]
            omega
        have items : ∀ {G : Hp} (ms us : List Int), Same H3 G → ∀ x ∈ ms.map V.int ++ [w] ++ us.map V.int, Rx.Item t G x := fun ms us s x m => by
          rcases List.mem_append.mp m with m | m
          · rcases List.mem_append.mp m with m | m
            · exact intsI ms x m
            · rw [List.mem_singleton.mp m]
              exact it.same s
          · exact intsI us x m
        walk_at "rd"
        have fin : ∀ (lo : Int) {Q : VK}, (∀ (q : Addr) (ms us : List Int) (G : Hp), ms.length ≤ 8 → us.length ≤ 8 → Same H3 G → H3 q = none → G q = some (.lst (ms.map V.int ++ [w] ++ us.map V.int)) → Q (.ref q) G) → True := fun _ _ _ => trivial
        refine ite2 (fun q3 => ?_) (fun q3 => ?_)
        · walk_at "rd"
          obtain ⟨ms, e1, m1⟩ := cutI none (some at_)
          refine Rd.slL (.of gl3) (Rd.new fun p6 G6 n6 g6 s6 => ?_)
          rw [e1] at g6
          walk_at "rd"
          refine ⟨Nat.le_of_ble_eq_true rfl, Rd.new fun p7 G7 n7 g7 s7 => ?_⟩
          refine Rd.cat (s7 _ _ g6) g7 (by rw [List.length_map, sizeLine_eq]; show _ + 1 ≤ _; omega) (Rd.new fun p8 G8 n8 g8 s8 => ?_)
          walk_at "rd"
          obtain ⟨us, e2, m2⟩ := cutI (some (at_ + 1)) none
          have s68 := (s6.trans s7).trans s8
          refine Rd.slL (.of (s68 _ _ gl3)) (Rd.new fun p9 G9 n9 g9 s9 => ?_)
          rw [e2] at g9
          refine Rd.cat (s9 _ _ g8) g9 (by rw [List.length_append, List.length_map, List.length_map, sizeLine_eq]; show _ + 1 + _ ≤ _; omega) (Rd.new fun p10 G10 n10 g10 s10 => ?_)
          walk_at "rd"
          have s610 := (s68.trans s9).trans s10
          refine Rd.tupOf (.of g10) (Rd.new fun p11 G11 n11 g11 s11 => ?_)
          have sAll := s610.trans s11
          refine k _ _ (Rx.seqT g11 (offs (s610.free n11)) ?_ (items ms us sAll)) (tp3.same sAll) (bH.same sAll)
          rw [List.length_append, List.length_append, List.length_map, List.length_map]
          show _ + 1 + _ ≤ _
          omega
        · walk_at "rd"
          obtain ⟨ms, e1, m1⟩ := cutI none (some at_)
          refine Rd.slL (.of gl3) (Rd.new fun p6 G6 n6 g6 s6 => ?_)
          rw [e1] at g6
          walk_at "rd"
          refine ⟨Nat.le_of_ble_eq_true rfl, Rd.new fun p7 G7 n7 g7 s7 => ?_⟩
          refine Rd.cat (s7 _ _ g6) g7 (by rw [List.length_map, sizeLine_eq]; show _ + 1 ≤ _; omega) (Rd.new fun p8 G8 n8 g8 s8 => ?_)
          walk_at "rd"
          obtain ⟨us, e2, m2⟩ := cutI (some at_) none
          have s68 := (s6.trans s7).trans s8
          refine Rd.slL (.of (s68 _ _ gl3)) (Rd.new fun p9 G9 n9 g9 s9 => ?_)
          rw [e2] at g9
          refine Rd.cat (s9 _ _ g8) g9 (by rw [List.length_append, List.length_map, List.length_map, sizeLine_eq]; show _ + 1 + _ ≤ _; omega) (Rd.new fun p10 G10 n10 g10 s10 => ?_)
          have s610 := (s68.trans s9).trans s10
          refine k _ _ (Rx.seqL g10 (offs (((s68.trans s9)).free n10)) ?_ (items ms us s610)) (tp3.same s610) (bH.same s610)
          rw [List.length_append, List.length_append, List.length_map, List.length_map]
          show _ + 1 + _ ≤ _
          omega

end
end W

namespace W
open PySem PySem.Spec PyProof.Rows L2
section
variable {P : Program} {w : World} {K : PySem.W.Frag} {mg : Str → Option Value} {base : Heap}
/-! ### the law -/
def sp_law (K : PySem.W.Frag) : Sp := fun vs H Q _ => ∃ (a : Addr) (ns : List Int), vs = [.ref a] ∧ SqL K H a (ns.map V.int) ∧ ns.length ≤ 63 ∧ ∀ H', Q (.bl true) H'
theorem good_fault {H : Hp} {a : Addr} {ns : List Int} (L : Lens ns) (h : H a = some (.lst (ns.map V.int)) ∨ H a = some (.tup (ns.map V.int))) : ∃ k, Rx.Rowed H (.ref a) k (ns.map Rx.Kd.int) ∧ faultL k (ns.map Rx.Kd.int) = none := by
  have l0 := L.l0
  have l1 := L.l1
  have p : Paired (Rx.Is H) (ns.map V.int) (ns.map Rx.Kd.int) := by
    clear L h l0 l1
    induction ns with
    | nil => exact .nil
    | cons n ns ih => exact .cons (.int n) ih
  have ok : ∀ d ∈ ns.map Rx.Kd.int, okNum 60 d = true := fun d m => by
    obtain ⟨n, hn, rfl⟩ := List.mem_map.mp m
    exact decide_eq_true (L.all n hn)
  rcases h with h | h
  · exact ⟨_, ⟨.lst h (by rw [List.length_map]; omega), fun xs e => by rcases e with e | e <;> cases e; exact p⟩, fault_none rfl (by rw [List.length_map]; exact l0) (by rw [List.length_map]; exact l1) ok⟩
  · exact ⟨_, ⟨.tup h (by rw [List.length_map]; omega), fun xs e => by rcases e with e | e <;> cases e; exact p⟩, fault_none rfl (by rw [List.length_map]; exact l0) (by rw [List.length_map]; exact l1) ok⟩
theorem intK_inj {ns ms : List Int} (h : ns.map Rx.Kd.int = ms.map Rx.Kd.int) : ns = ms := (List.map_inj_right (fun i j h => by cases h; rfl)).mp h
theorem lens_same {ns ms : List Int} (L : Lens ns) (p : ms.Perm ns) : Lens ms := ⟨by rw [p.length_eq]; exact L.l0, by rw [p.length_eq]; exact L.l1, fun n m => L.all n (p.mem_iff.mp m)⟩
/-- the two greatest of sorted ones, their sum -/
theorem top_two {ns ms : List Int} (L : Lens ns) (hp : ms.Perm ns) (hs : ms.Pairwise (· ≤ ·)) : ∃ us : List Int, cutV (ms.map V.int) (some (-2)) none = us.map V.int ∧ 1 ≤ us.sum ∧ us.sum ≤ 120 ∧ ∀ n, us.sum ≤ n → ns.Pairwise fun x y => x + y ≤ n := by
  match ms, hp, hs with
  | [], hp, _ => exact absurd L.l0 (by rw [← hp.length_eq]; decide)
  | [z], hp, _ =>
    have e : ns = [z] := List.perm_singleton.mp hp.symm
    subst e
    have := L.all z (List.mem_singleton_self z)
    exact ⟨[z], rfl, by simp; omega, by simp; omega, fun n _ => List.pairwise_singleton _ _⟩
  | x :: y :: r, hp, hs =>
    obtain ⟨st, b, a, e⟩ := Rd.last2 (ms := x :: y :: r) (by simp)
    rw [e] at hp hs ⊢
    have hb : b ∈ ns := hp.mem_iff.mp (by simp)
    have ha : a ∈ ns := hp.mem_iff.mp (by simp)
    have b1 := L.all b hb
    have a1 := L.all a ha
    exact ⟨[b, a], Rd.cut_last2 _ _ _, by simp; omega, by simp; omega, fun n hn => M85.pairs_of_sorted hp hs (by simpa using hn)⟩
theorem ok_law (T : Txt K mg) : FnOk P w K mg base CX0 7 T.f_law T.fd_law ["_law_script"] (sp_law K) := by
  refine T.F_law.ok sc_law (fun vs H Q E h => ?_) (fun cdv A outer s H vs Q E hr h => ?_)
  · obtain ⟨a, ns, rfl, _⟩ := h
    rfl
  · obtain ⟨a, ns0, rfl, hS, hlen, k⟩ := h
    refine ⟨_, (pss_cons (ps_set (i := 1) sc_law.nd rfl (.inl rfl) (pe_call (ok_l_tape T) (hr.mono (by decide)) rfl T.g_l_tape T.F_l_tape.kp T.b_l_tape .nil pass0 (pa_cons (pv 0) pa_nil)))
  (pss_cons (ps_set (i := 2) sc_law.nd rfl (.inl rfl) (pe_call (ok_l_lengths T) (hr.mono (by decide)) rfl T.g_l_lengths T.F_l_lengths.kp T.b_l_lengths .nil pass0 (pa_cons (pv 1) pa_nil)))
  (pss_cons (ps_set (i := 3) sc_law.nd rfl (.inl rfl) (pe_call (ok_l_divisor T) (hr.mono (by decide)) rfl T.g_l_divisor T.F_l_divisor.kp T.b_l_divisor .nil pass0 (pa_cons (pv 2) pa_nil)))
  (pss_cons (ps_set (i := 4) sc_law.nd rfl (.inl rfl) (pe_lst pa_nil))
  (pss_cons (ps_set (i := 5) sc_law.nd rfl (.inl rfl) (pe_slice (r := rSlL K) sl_list (pe_callB (id := "sorted") (r := rSortedI K) cr_sortedI (by rfl) T.n_sorted (by decide +kernel) (pa_cons (pv 2) pa_nil)) (po_some (pe_un un_neg pe_int)) po_none))
  (pss_cons (ps_for PassesOwn.never rfl (pi_range3 rfl T.n_range (pa_cons (pv 3) (pa_cons (pe_op op_add (pe_op op_add (pe_callB (id := "sum") (r := rSum K) (cr_sum rfl) (by rfl) T.n_sum (by decide +kernel) (pa_cons (pv 5) pa_nil)) (pv 3)) pe_int) (pa_cons (pv 3) pa_nil)))) (pg_name (i := 6) sc_law.nd rfl (.inl rfl))
  (pss_one (ps_if (pt_not (pt_val (pe_call (ok_l_reach T) (hr.mono (by decide)) rfl T.g_l_reach T.F_l_reach.kp T.b_l_reach .nil pass0 (pa_cons (pv 2) (pa_cons (pv 6) pa_nil)))))
  (pss_one (ps_expr (pe_bm PySem.F.plainAttrs_list PySem.F.slot_list_append PySem.F.type_list_append mt_append (pv 4) (pa_cons (pv 6) pa_nil))))
  pss_nil)))
  (pss_cons (ps_set (i := 7) sc_law.nd rfl (.inl rfl) (pe_call (ok_lone_gaps T) (hr.mono (by decide)) rfl T.g_lone_gaps T.F_lone_gaps.kp T.b_lone_gaps .nil passL (pa_cons (pv 2) pa_nil)))
  (pss_cons (ps_if (PW.pt (pw_or (pt_cmpR (r := rNeD K) (op_neD hr.units) (pv 7) (pv 4) (nomark _)) (pw_or1 (pt_not (pt_val (pe_callB (id := "isinstance") (r := rIsi K) call_isi (by rfl) T.n_isinstance (by decide +kernel) (pa_cons (pv 7) (pa_cons (pe_bltn (v := .ty "list") (u := .type "list") (by rfl) T.n_list (by decide +kernel) rfl) pa_nil))))))))
  (pss_one (ps_ret pe_bl))
  pss_nil)
  (pss_cons (ps_expr (pe_bm PySem.F.plainAttrs_list PySem.F.slot_list_append PySem.F.type_list_append mt_append (pv 7) (pa_cons pe_int pa_nil)))
  (pss_cons (ps_if (pt_cmpR (r := rNeD K) (op_neD hr.units) (pe_call (ok_lone_gaps T) (hr.mono (by decide)) rfl T.g_lone_gaps T.F_lone_gaps.kp T.b_lone_gaps .nil passL (pa_cons (pe_callTy (T := "tuple") (r := Rd.nTupOf K) Rd.c_tupOf (by rfl) T.n_tuple (by decide +kernel) (pa_cons (pe_revL (pv 2)) pa_nil)) pa_nil)) (pv 4) (nomark _))
  (pss_one (ps_ret pe_bl))
  pss_nil)
  (C8.pss_cut (ps_if (PW.pt (pw_and (pt_cmpR op_gt (pe_callB (id := "len") (r := Rd.nLen K) Rd.c_len (by rfl) T.n_len (by decide +kernel) (pa_cons (pv 4) pa_nil)) pe_int (nomark _)) (pw_and1 (pt_cmpR op_ge (pe_ix (r := rIxL K) ix_list (pv 4) (pe_un un_neg pe_int) (fun _ _ => rfl)) (pe_callB (id := "sum") (r := rSum K) (cr_sum rfl) (by rfl) T.n_sum (by decide +kernel) (pa_cons (pv 5) pa_nil)) (nomark _)))))
  (pss_one (ps_ret pe_bl))
  pss_nil)
  (pss_cons (ps_for PassesOwn.never rfl (pi_range1 rfl T.n_range (pa_cons pe_int pa_nil)) (pg_name (i := 8) sc_law.nd rfl (.inl rfl))
  (pss_cons (ps_set (i := 9) sc_law.nd rfl (.inl rfl) (pe_call (ok_l_bent T) (hr.mono (by decide)) rfl T.g_l_bent T.F_l_bent.kp T.b_l_bent .nil pass0 (pa_cons (pv 1) (pa_cons (pv 2) pa_nil))))
  (pss_cons (ps_set (i := 6) sc_law.nd rfl (.inl rfl) (pe_ix (r := rIxL K) ix_list (pe_lst (pa_cons pe_int (pa_cons (pe_op op_pow pe_int pe_int) (pa_cons (pe_op op_add (pe_op op_pow pe_int pe_int) pe_int) (pa_cons pe_int (pa_cons pe_bl (pa_cons (pe_call (ok_l_odd T) (hr.mono (by decide)) rfl T.g_l_odd T.F_l_odd.kp T.b_l_odd .nil pass0 (pa_cons (pv 1) pa_nil)) pa_nil))))))) (pe_call (ok_l_pick T) (hr.mono (by decide)) rfl T.g_l_pick T.F_l_pick.kp T.b_l_pick .nil pass0 (pa_cons (pv 1) (pa_cons pe_int pa_nil))) (fun _ _ => rfl)))
  (pss_one (ps_for PassesOwn.never rfl (pi_range1 rfl T.n_range (pa_cons pe_int pa_nil)) (pg_name (i := 10) sc_law.nd rfl (.inl rfl))
  (pss_cons (ps_set (i := 11) sc_law.nd rfl (.inl rfl) (pe_call (ok_l_due T) (hr.mono (by decide)) rfl T.g_l_due T.F_l_due.kp T.b_l_due .nil pass0 (pa_cons (pv 10) (pa_cons (pv 9) (pa_cons (pv 6) pa_nil)))))
  (C8.pss_cut (ps_if (PW.pt (pw_and (pt_cmpR op_eq (pv 10) pe_int (nomark _)) (pw_and (pt_cmpR (r := rEqD K) (op_eqD hr.units) (pe_ix (r := rIxT K) ix_tup (pv 11) pe_int (fun _ _ => rfl)) pe_str (nomark _)) (pw_and1 (pt_cmpR op_gt (pv 8) pe_int (nomark _))))))
  (pss_one ps_continue)
  pss_nil)
  (pss_cons (ps_set (i := 12) sc_law.nd rfl (.inl rfl) (pe_call (ok_l_asked T) (hr.mono (by decide)) rfl T.g_l_asked T.F_l_asked.kp T.b_l_asked .nil pass0 (pa_cons (pv 10) (pa_cons (pv 9) (pa_cons (pv 6) pa_nil)))))
  (pss_one (ps_if (PW.pt (pw_or (pt_cmpR (r := Rx.rNeX K) (Rx.op_neX (Rx.u66 hr)) (pv 12) (pv 11) (nomark _)) (pw_or1 (pt_cmpR op_ne (pe_callB (id := "isinstance") (r := rIsi K) call_isi (by rfl) T.n_isinstance (by decide +kernel) (pa_cons (pe_ix (r := rIxT K) ix_tup (pv 12) pe_int (fun _ _ => rfl)) (pa_cons (pe_bltn (v := .ty "bool") (u := .type "bool") (by rfl) T.n_bool (by decide +kernel) rfl) pa_nil))) (pe_callB (id := "isinstance") (r := rIsi K) call_isi (by rfl) T.n_isinstance (by decide +kernel) (pa_cons (pe_ix (r := rIxT K) ix_tup (pv 11) pe_int (fun _ _ => rfl)) (pa_cons (pe_bltn (v := .ty "bool") (u := .type "bool") (by rfl) T.n_bool (by decide +kernel) rfl) pa_nil))) (nomark _)))))
  (pss_one (ps_ret pe_bl))
  pss_nil))))))))))
  (pss_one (ps_ret pe_bl)))))))))))))), ?_⟩
    walk_at "rd"
    refine ⟨a, ns0, rfl, hS, fun t c H1 tp1 s1 _ _ => ?_⟩
    walk_at "rd"
    refine ⟨t, c, rfl, tp1, fun l ns H2 tp2 b2 nl2 gl2 L => ?_⟩
    have ⟨lt, lc⟩ := tp1.new nl2
    clear b2 nl2 tp1 s1 hS
    have ⟨g0, g1⟩ := gcdL_pos L
    walk_at "rd"
    refine ⟨l, ns, rfl, .of gl2, L.all, fun H3 s3 => ?_⟩
    walk_at "rd"
    refine ⟨Nat.le_of_ble_eq_true rfl, Rd.new fun d H4 nd gd s4 => ?_⟩
    have gl4 := (s3.trans s4) _ _ gl2
    have tp4 := tp2.same (s3.trans s4)
    have dt : d ≠ t := ((tp2.same s3).new nd).1
    have dl : d ≠ l := (ne_of_none (s3 _ _ gl2) nd).symm
    have dc : d ≠ c := ((tp2.same s3).new nd).2
    clear s3 s4 nd tp2 gl2
    walk_at "rd"
    refine Rd.sortedI (.of gl4) fun ms p G hp hs gp sG np => ?_
    walk_at "rd"
    obtain ⟨us, e1, S0, S1, hS⟩ := top_two L hp hs
    refine Rd.slL (.of gp) (Rd.new fun u H5 nu gu s5 => ?_)
    rw [e1] at gu
    have s45 := sG.trans s5
    have gl5 := s45 _ _ gl4
    have gd5 := s45 _ _ gd
    have tp5 := tp4.same s45
    have ud : u ≠ d := (ne_of_none (sG _ _ gd) nu).symm
    have ut : u ≠ t := ((tp4.same sG).new nu).1
    clear s5 nu sG np gp s45 gl4 gd tp4
    walk_at "rd"
    refine Rd.forS ?_
    walk_at "rd"
    refine Rd.sum (.of gu) ?_
    walk_at "rd"
    refine ⟨_, _, _, _, rfl, Rx.rg_pos (by omega) (by omega) (by omega) (by omega) (by omega) (by omega), ?_⟩
    have cl := fun i => Rx.cnt_lt (i := (M85.gcdL ns : Int)) (j := us.sum + (M85.gcdL ns : Int) + 1) (c := (M85.gcdL ns : Int)) (by omega) i
    have far : ∀ i, Rx.cnt (M85.gcdL ns) (us.sum + (M85.gcdL ns : Int) + 1) (M85.gcdL ns) ≤ i → M85.Reach ns (M85.mul ns i) (M85.mul ns i) := fun i h => by
      have := cl i
      exact M85.reach_mul (pos_of L) (hS _ (by unfold M85.mul; omega))
    have few : Rx.cnt (M85.gcdL ns) (us.sum + (M85.gcdL ns : Int) + 1) (M85.gcdL ns) ≤ 121 := by
      rcases Nat.lt_or_ge 121 (Rx.cnt (M85.gcdL ns) (us.sum + (M85.gcdL ns : Int) + 1) (M85.gcdL ns)) with h | h
      · have h1 := (cl 121).mp h
        have h2 : (121 : Int) * 1 ≤ ((121 : Nat) : Int) * (M85.gcdL ns : Int) := Int.mul_le_mul_of_nonneg_left (by omega) (by omega)
        omega
      · exact h
    refine for_it walk_rangeC (fun i σ H' => ∃ o6 : Option V, σ = [some (.ref a), some (.ref t), some (.ref l), some (.int (M85.gcdL ns : Nat)), some (.ref d), some (.ref u), o6, none, none, none, none, none, none] ∧ Rd.But d H5 H' ∧ H' d = some (.lst ((M85.gapsTo ns i).map V.int)))
      ⟨none, rfl, Rd.But.refl _ _, gd5⟩ (fun _ _ _ _ _ => trivial) ?_ ?_
    · rintro i x _ G1 _ hi ⟨o6, rfl, bd, gd1⟩ ⟨rfl, rfl⟩
      walk_at "rd"
      have m0 := mul_ge L i
      have m1 : M85.mul ns i < us.sum + (M85.gcdL ns : Int) + 1 := (cl i).mp hi
      have ln : (M85.gapsTo ns i).length ≤ i := by
        unfold M85.gapsTo
        rw [List.length_map]
        have := List.length_filter_le (M85.gap ns) (List.range i)
        rwa [List.length_range] at this
      refine ⟨l, ns, M85.mul ns i, rfl, .of (bd _ _ dl.symm gl5), by omega, by omega, fun G2 b s6 hb => ?_⟩
      walk_at "rd"
      have gd2 := s6 _ _ gd1
      cases b with
      | true =>
        walk_at "rd"
        refine ⟨_, rfl, bd.same s6, ?_⟩
        rw [M85.gapsTo_succ, if_pos (hb.mp rfl), List.append_nil]
        exact gd2
      | false =>
        walk_at "rd"
        refine Rd.tyL (.of gd2) ?_
        walk_at "rd"
        refine Rd.app gd2 (by rw [List.length_map, sizeLine_eq]; omega) fun G3 g3 off3 => ?_
        walk_at "rd"
        refine ⟨_, rfl, fun b o hb e => ?_, ?_⟩
        · rw [off3 b hb]
          exact s6 _ _ (bd b o hb e)
        · rw [g3, M85.gapsTo_succ, if_neg (fun q => by simpa using hb.mpr q), List.map_append]
          rfl
    · rintro _ H6 ⟨o6, rfl, bd, gd6⟩
      rw [M85.gaps_of few far] at gd6
      have gl6 := bd _ _ dl.symm gl5
      have gu6 := bd _ _ ud gu
      have tp6 : Tape H6 t c := by
        obtain ⟨xs, z1, z2, z3, z4, z5, z6, z7, z8⟩ := tp5
        exact ⟨xs, z1, z2, z3, z4, z5, bd _ _ dt.symm z6, bd _ _ dc.symm z7, z8⟩
      clear gl5 gu tp5 bd gd5
      walk_at "rd"
      obtain ⟨kd, rw1, fn⟩ := good_fault L (.inl gl6)
      refine ⟨.ref l, kd, _, rfl, rw1, fun i f => (by rw [fn] at f; cases f), fun _ r H7 s7 nr gr => ?_⟩
      replace gr := gr ns rfl
      walk_at "rd"
      refine Rd.neInts (.of gr) (.of (s7 _ _ gd6)) ?_
      rw [decide_eq_true rfl]
      walk_at "rd"
      refine Rd.isi (Ru.ty_L (.of gr)) (by decide +kernel : kitB "list" "list" = some true) ?_
      walk_at "rd"
      refine Rd.tyL (.of gr) ?_
      walk_at "rd"
      refine Rd.app gr (by
        rw [List.length_map, sizeLine_eq]
        unfold M85.gaps M85.gapsTo
        rw [List.length_map]
        have := List.length_filter_le (M85.gap ns) (List.range 121)
        rw [List.length_range] at this
        omega) fun H8 gr8 off8 => ?_
      have s8 : Same H6 H8 := fun b o e => by rw [off8 b (ne_of_none e nr)]; exact s7 _ _ e
      have gl8 := s8 _ _ gl6
      have gd8 := s8 _ _ gd6
      have gu8 := s8 _ _ gu6
      have tp8 := tp6.same s8
      clear gr gr8 off8 s7 s8 nr gl6 gd6 gu6 tp6 rw1
      walk_at "rd"
      refine Rd.refX (.of gl8) (Rd.new fun v H9 nv gv s9 => ?_)
      rw [← List.map_reverse] at gv
      walk_at "rd"
      refine Rd.tupOf (.of gv) (Rd.new fun v2 H10 nv2 gv2 s10 => ?_)
      have Lr := lens_same L (List.reverse_perm ns)
      obtain ⟨kd2, rw2, fn2⟩ := good_fault Lr (.inr gv2)
      refine ⟨.ref v2, kd2, _, rfl, rw2, fun i f => (by rw [fn2] at f; cases f), fun _ r H11 s11 nr gr => ?_⟩
      replace gr := gr _ rfl
      rw [M85.gaps_same (ms := ns) (fun x => List.mem_reverse)] at gr
      have s811 := (s9.trans s10).trans s11
      have gd11 := s811 _ _ gd8
      have gu11 := s811 _ _ gu8
      have gl11 := s811 _ _ gl8
      have tp11 := tp8.same s811
      walk_at "rd"
      refine Rd.neInts (.of gr) (.of gd11) ?_
      rw [decide_eq_true rfl]
      clear gr nr s811 s11 s10 s9 gv gv2 nv nv2 rw2 gl8 gd8 gu8 tp8
      walk_at "rd"
      have less : ∀ x ∈ M85.gaps ns, x < us.sum := fun x m => by
        obtain ⟨i, rfl, nr⟩ := M85.gaps_mem m
        rcases Int.lt_or_le (M85.mul ns i) us.sum with h | h
        · exact h
        · exact absurd (M85.reach_mul (pos_of L) (hS _ h)) nr
      refine Rd.cut (fun σ H' => ∃ o7 o8 o9 o10 o11 o12 : Option V, σ = [some (.ref a), some (.ref t), some (.ref l), some (.int (M85.gcdL ns : Nat)), some (.ref d), some (.ref u), o6, o7, o8, o9, o10, o11, o12] ∧ Tape H' t c ∧ H' l = some (.lst (ns.map V.int))) ?_ ?_
      · walk_at "rd"
        refine Rd.len (.inl (.of gd11)) ?_
        rw [List.length_map]
        walk_at "rd"
        refine ite2 (fun q => ?_) (fun q => ?_)
        · obtain ⟨ys, y, ey⟩ : ∃ ys y, M85.gaps ns = ys ++ [y] := by
            rcases List.eq_nil_or_concat (M85.gaps ns) with e | ⟨ys, y, e⟩
            · rw [e] at q; exact absurd q (by decide)
            · exact ⟨ys, y, by rw [e, List.concat_eq_append]⟩
          have ly := less y (by rw [ey]; simp)
          walk_at "rd"
          refine Rd.ixL (.of gd11) (show atI ((M85.gaps ns).map V.int) (-1) = some (.int y) by rw [ey, List.map_append]; exact atI_last _ _) ?_
          walk_at "rd"
          refine Rd.sum (.of gu11) ?_
          walk_at "rd"
          refine Rd.no (by omega) ?_
          walk_at "rd"
          exact ⟨_, _, _, _, _, _, rfl, tp11, gl11⟩
        · walk_at "rd"
          exact ⟨_, _, _, _, _, _, rfl, tp11, gl11⟩
      · clear less gd11 gu11 gl11 tp11 far few cl
        rintro _ H12 ⟨o7, o8, o9, o10, o11, o12, rfl, tp12, gl12⟩
        walk_at "rd"
        refine Rd.forS ?_
        walk_at "rd"
        refine ⟨by decide, by decide, ?_⟩
        refine for_range (lo := 0) (n := 4) (fun i σ H' => ∃ o6 o8 o9 o10 o11 o12 : Option V, σ = [some (.ref a), some (.ref t), some (.ref l), some (.int (M85.gcdL ns : Nat)), some (.ref d), some (.ref u), o6, o7, o8, o9, o10, o11, o12] ∧ Tape H' t c ∧ H' l = some (.lst (ns.map V.int)))
          ⟨_, _, _, _, _, _, rfl, tp12, gl12⟩ ?_ ?_
        · rintro turn _ J1 hturn ⟨o6, o8, o9, o10, o11, o12, rfl, tq1, gj1⟩
          walk_at "rd"
          refine ⟨t, c, l, ns, rfl, tq1, lt, lc, gj1, L, fun x J2 thx tq2 b2 => ?_⟩
          have gj2 := b2 _ _ lt gj1
          walk_at "rd"
          refine Rd.iC ⟨by decide, by decide, by decide⟩ ?_
          walk_at "rd"
          refine Rd.iC ⟨by decide, by decide, by decide⟩ ?_
          walk_at "rd"
          refine ⟨t, c, rfl, tq2, fun y J3 thy tq3 b3 => ?_⟩
          walk_at "rd"
          refine ⟨Nat.le_of_ble_eq_true rfl, Rd.new fun q4 J4 nq4 gq4 s4 => ?_⟩
          walk_at "rd"
          refine pickR (tq3.same s4) (by decide) (by decide) fun r J5 r0 r1 tq5 b5 => ?_
          have q4t := (tq3.new nq4).1
          have all : ∀ z ∈ [V.int 1, .int (10 ^ (30 : Int).toNat), .int (10 ^ (30 : Int).toNat + 1), .int 0, .bl true, y], Rx.Thing t J5 z :=
            Rx.all_cons (Rx.flat (.int _) rfl) <| Rx.all_cons (Rx.flat (.int _) rfl) <| Rx.all_cons (Rx.flat (.int _) rfl) <| Rx.all_cons (Rx.flat (.int _) rfl) <| Rx.all_cons (Rx.flat (.bl _) rfl) <| Rx.all_cons ((thy.same s4).but b5) Rx.all_nil
          have r6 : r.toNat < 6 := by omega
          refine Rd.ixL (.of (b5 _ _ q4t gq4)) (Rd.atI_of r0 (List.getElem?_eq_getElem (show r.toNat < [V.int 1, .int (10 ^ (30 : Int).toNat), .int (10 ^ (30 : Int).toNat + 1), .int 0, .bl true, y].length from r6))) ?_
          have thw := all _ (List.getElem_mem (show r.toNat < [V.int 1, .int (10 ^ (30 : Int).toNat), .int (10 ^ (30 : Int).toNat + 1), .int 0, .bl true, y].length from r6))
          generalize [V.int 1, .int (10 ^ (30 : Int).toNat), .int (10 ^ (30 : Int).toNat + 1), .int 0, .bl true, y][r.toNat]'r6 = w at thw
          have thx5 := ((thx.but b3).same s4).but b5
          have gj5 := b5 _ _ lt (s4 _ _ (b3 _ _ lt gj2))
          clear all b5 gq4 nq4 s4 thy b3 thx tq2 tq3 b2 gj1 gj2 tq1 q4t
          obtain ⟨kx, ks, rx, _⟩ := thx5
          obtain ⟨kw, _, ⟨iw, _⟩, _⟩ := thw
          walk_at "rd"
          refine Rd.forS ?_
          walk_at "rd"
          refine ⟨by decide, by decide, ?_⟩
          refine for_range (lo := 0) (n := 2) (fun i σ H' => ∃ o10 o11 o12 : Option V, σ = [some (.ref a), some (.ref t), some (.ref l), some (.int (M85.gcdL ns : Nat)), some (.ref d), some (.ref u), some w, o7, some (.int (0 + (turn : Int))), some x, o10, o11, o12] ∧ Same J5 H')
            ⟨_, _, _, rfl, Same.refl _⟩ ?_ ?_
          · rintro kind _ K1 hkind ⟨o10, o11, o12, rfl, sk⟩
            walk_at "rd"
            refine ⟨_, x, kx, ks, w, kw, rfl, by omega, rx.same sk, iw.same sk, fun p K2 s2 v2 => ?_⟩
            walk_at "rd"
            have sk2 := sk.trans s2
            refine Rd.cut (fun σ H' => H' = K2 ∧ σ = [some (.ref a), some (.ref t), some (.ref l), some (.int (M85.gcdL ns : Nat)), some (.ref d), some (.ref u), some w, o7, some (.int (0 + (turn : Int))), some x, some (.int (0 + (kind : Int))), some (.ref p), o12]) ?_ ?_
            · walk_at "rd"
              refine ite2 (fun q => ?_) (fun q => ?_)
              · walk_at "rd"
                obtain ⟨fa, gp, fst⟩ := id v2
                refine ⟨p, _, 0, fa, rfl, rfl, .of gp, rfl, ?_⟩
                walk_at "rd"
                refine vd_told fst ?_
                walk_at "rd"
                cases (verdict (0 + (kind : Int)) kx ks kw).isTold with
                | true =>
                  walk_at "rd"
                  refine ite2 (fun q2 => ?_) (fun q2 => ?_)
                  · walk_at "rd"
                    exact ⟨_, _, _, rfl, sk2⟩
                  · walk_at "rd"
                    exact ⟨rfl, rfl⟩
                | false =>
                  walk_at "rd"
                  exact ⟨rfl, rfl⟩
              · walk_at "rd"
                exact ⟨rfl, rfl⟩
            · rintro _ _ ⟨rfl, rfl⟩
              walk_at "rd"
              refine ⟨_, x, kx, ks, w, kw, rfl, by omega, rx.same sk2, iw.same sk2, fun p3 K3 s3 v3 => ?_⟩
              walk_at "rd"
              have iw3 := iw.same (sk2.trans s3)
              refine ⟨vd_eq iw3 v3 (v2.same s3), ?_⟩
              walk_at "rd"
              obtain ⟨fa, gp, _⟩ := v2.same s3
              obtain ⟨fb, gp3, _⟩ := v3
              obtain ⟨kb, ib⟩ := vdSnd_is iw3 (verdict (0 + (kind : Int)) kx ks kw)
              refine ⟨p3, _, 1, _, rfl, rfl, .of gp3, rfl, ?_⟩
              walk_at "rd"
              refine Rx.askBl ib ?_
              walk_at "rd"
              refine ⟨p, _, 1, _, rfl, rfl, .of gp, rfl, ?_⟩
              walk_at "rd"
              refine Rx.askBl ib ?_
              walk_at "rd"
              rw [bne_self_eq_false]
              walk_at "rd"
              exact ⟨_, _, _, rfl, sk2.trans s3⟩
          · rintro _ K1 ⟨o10, o11, o12, rfl, sk⟩
            walk_at "rd"
            exact ⟨_, _, _, _, _, _, rfl, tq5.same sk, sk _ _ gj5⟩
        · rintro _ J1 ⟨o6, o8, o9, o10, o11, o12, rfl, tq1, gj1⟩
          walk_at "rd"
          exact k _

end
end W

namespace W
open PySem PySem.Spec PyProof.Rows L2
theorem all_mk {l : PySem.W.OpenLaw} {w : World} {K : PySem.W.Frag} {h : Heap} {mg : Str → Option Value} {fa : Addr} (X : K.In h) (G : h.Ns mainGlobals mg) (hfa : mg "law" = some (.ref fa))
    {f1 f2 f3 f4 f5 f6 f7 f8 f9 f10 f11 f12 f13 f14 f15 f16 f17 f18 f19 f20 f21 f22 : Addr} {od1 an1 od2 an2 od3 an3 od4 an4 od5 an5 od6 an6 od7 an7 od8 an8 od9 an9 od10 an10 od11 an11 od12 an12 od13 an13 od14 an14 od15 an15 od16 an16 od17 an17 od18 an18 od19 an19 od20 an20 od21 an21 od22 an22 : Option Addr} {sl1 sl2 sl3 sl4 sl5 sl6 sl7 sl8 sl9 sl10 sl11 sl12 sl13 sl14 sl15 sl16 sl17 sl18 sl19 sl20 sl21 sl22 : Array (Option Value)} {oc1 kV1 dc1 pm1 cd1 ct1 oc2 kV2 dc2 pm2 cd2 ct2 oc3 kV3 dc3 pm3 cd3 ct3 oc4 kV4 dc4 pm4 cd4 ct4 oc5 kV5 dc5 pm5 cd5 ct5 oc6 kV6 dc6 pm6 cd6 ct6 oc7 kV7 dc7 pm7 cd7 ct7 oc8 kV8 dc8 pm8 cd8 ct8 oc9 kV9 dc9 pm9 cd9 ct9 oc10 kV10 dc10 pm10 cd10 ct10 oc11 kV11 dc11 pm11 cd11 ct11 oc12 kV12 dc12 pm12 cd12 ct12 oc13 kV13 dc13 pm13 cd13 ct13 oc14 kV14 dc14 pm14 cd14 ct14 oc15 kV15 dc15 pm15 cd15 ct15 oc16 kV16 dc16 pm16 cd16 ct16 oc17 kV17 dc17 pm17 cd17 ct17 oc18 kV18 dc18 pm18 cd18 ct18 oc19 kV19 dc19 pm19 cd19 ct19 oc20 kV20 dc20 pm20 cd20 ct20 oc21 kV21 dc21 pm21 cd21 ct21 oc22 kV22 dc22 pm22 cd22 ct22 : Value}
    {dT tN : Nat} {tC : Value} {tD : Option Addr} {tS : Array (Option Value)} (lT : K.lookup dT = some ⟨tC, tD, .seq [Value.none].toArray tN, tS⟩) (tI : PySem.W.typeIn K (.ref f1) = some (.type "function"))
    (xn : PySem.W.specialIn K (.builtin "object.__class__") "__get__" = some (some (.builtin "getset_descriptor.__get__"))) (xo : PySem.W.takesIn K (.builtin "object.__class__") = some true)
    {E0 : Addr} {xnm0 xq0 : Str} {xN0 : Addr} {xbs0 xbm0 xsub0 : List Value} {xsn0 : List Str} {xab0 : Bool} {xcol0 : Option Bool} {xdd0 : Option Addr} {xk0_0 xk1_0 xk2_0 xk3_0 xk5_0 : Option Value}
    (ue0 : PySem.W.nsIn K mainGlobals "BadLengths" = some (some (.ref E0)))
    (xl0 : K.lookup E0 = some (excClassObj xnm0 xq0 E0 xN0 xbs0 xbm0 true xsn0 xsub0 xab0 xcol0 xdd0 xk0_0 xk1_0 xk2_0 xk3_0 xk5_0 "ValueError.__new__"))
    (rb0 : PySem.HandSPX.refsVE xbm0 = true)
    (xa0 : PySem.W.findIn K (.ref E0) "__setattr__" = some (some (.builtin "object.__setattr__")))
    (xb0 : PySem.W.subIn K (.ref E0) (.type "BaseException") = some true)
    (xc0 : PySem.W.typeIn K (.ref E0) = some (.type "type"))
    (xd0 : PySem.W.keepIn K (.ref E0) = true)
    (xe0 : PySem.W.findIn K (.ref E0) "__init__" = some (some (.ref f1)))
    (xf0 : PySem.W.findIn K (.ref E0) "value" = some none)
    (xg0 : PySem.W.findIn K (.ref E0) "__getattribute__" = some (some (.builtin "BaseException.__getattribute__")))
    (xh0 : PySem.W.findIn K (.ref E0) "__getattr__" = some none)
    (xi0 : PySem.W.hasDictIn K E0 = true)
    (xj0 : PySem.W.findIn K (.ref E0) "__class__" = some (some (.builtin "object.__class__")))
    (xm0 : PySem.W.mroIn K E0 (.type "object") = some true)
    (xp0 : PySem.W.isClsIn K E0 = true)
    (xs0 : PySem.W.subIn K (.ref E0) (.ref E0) = some true)
    {E1 : Addr} {xnm1 xq1 : Str} {xN1 : Addr} {xbs1 xbm1 xsub1 : List Value} {xsn1 : List Str} {xab1 : Bool} {xcol1 : Option Bool} {xdd1 : Option Addr} {xk0_1 xk1_1 xk2_1 xk3_1 xk5_1 : Option Value}
    (ue1 : PySem.W.nsIn K mainGlobals "BadTimes" = some (some (.ref E1)))
    (xl1 : K.lookup E1 = some (excClassObj xnm1 xq1 E1 xN1 xbs1 xbm1 true xsn1 xsub1 xab1 xcol1 xdd1 xk0_1 xk1_1 xk2_1 xk3_1 xk5_1 "ValueError.__new__"))
    (rb1 : PySem.HandSPX.refsVE xbm1 = true)
    (xa1 : PySem.W.findIn K (.ref E1) "__setattr__" = some (some (.builtin "object.__setattr__")))
    (xb1 : PySem.W.subIn K (.ref E1) (.type "BaseException") = some true)
    (xc1 : PySem.W.typeIn K (.ref E1) = some (.type "type"))
    (xd1 : PySem.W.keepIn K (.ref E1) = true)
    (xe1 : PySem.W.findIn K (.ref E1) "__init__" = some (some (.ref f1)))
    (xf1 : PySem.W.findIn K (.ref E1) "value" = some none)
    (xg1 : PySem.W.findIn K (.ref E1) "__getattribute__" = some (some (.builtin "BaseException.__getattribute__")))
    (xh1 : PySem.W.findIn K (.ref E1) "__getattr__" = some none)
    (xi1 : PySem.W.hasDictIn K E1 = true)
    (xj1 : PySem.W.findIn K (.ref E1) "__class__" = some (some (.builtin "object.__class__")))
    (xm1 : PySem.W.mroIn K E1 (.type "object") = some true)
    (xp1 : PySem.W.isClsIn K E1 = true)
    (xs1 : PySem.W.subIn K (.ref E1) (.ref E1) = some true)
    {E2 : Addr} {xnm2 xq2 : Str} {xN2 : Addr} {xbs2 xbm2 xsub2 : List Value} {xsn2 : List Str} {xab2 : Bool} {xcol2 : Option Bool} {xdd2 : Option Addr} {xk0_2 xk1_2 xk2_2 xk3_2 xk5_2 : Option Value}
    (ue2 : PySem.W.nsIn K mainGlobals "WayError" = some (some (.ref E2)))
    (xl2 : K.lookup E2 = some (excClassObj xnm2 xq2 E2 xN2 xbs2 xbm2 true xsn2 xsub2 xab2 xcol2 xdd2 xk0_2 xk1_2 xk2_2 xk3_2 xk5_2 "ValueError.__new__"))
    (rb2 : PySem.HandSPX.refsVE xbm2 = true)
    (xa2 : PySem.W.findIn K (.ref E2) "__setattr__" = some (some (.builtin "object.__setattr__")))
    (xb2 : PySem.W.subIn K (.ref E2) (.type "BaseException") = some true)
    (xc2 : PySem.W.typeIn K (.ref E2) = some (.type "type"))
    (xd2 : PySem.W.keepIn K (.ref E2) = true)
    (xe2 : PySem.W.findIn K (.ref E2) "__init__" = some (some (.ref f1)))
    (xf2 : PySem.W.findIn K (.ref E2) "value" = some none)
    (xg2 : PySem.W.findIn K (.ref E2) "__getattribute__" = some (some (.builtin "BaseException.__getattribute__")))
    (xh2 : PySem.W.findIn K (.ref E2) "__getattr__" = some none)
    (xi2 : PySem.W.hasDictIn K E2 = true)
    (xj2 : PySem.W.findIn K (.ref E2) "__class__" = some (some (.builtin "object.__class__")))
    (xm2 : PySem.W.mroIn K E2 (.type "object") = some true)
    (xp2 : PySem.W.isClsIn K E2 = true)
    (xs2 : PySem.W.subIn K (.ref E2) (.ref E2) = some true)
    (sp0 : PySem.W.subIn K (.ref E0) (.ref E2) = some true)
    (sp1 : PySem.W.subIn K (.ref E0) (.ref E0) = some true)
    (sp2 : PySem.W.subIn K (.ref E0) (.ref E1) = some false)
    (sp3 : PySem.W.subIn K (.ref E1) (.ref E2) = some true)
    (sp4 : PySem.W.subIn K (.ref E1) (.ref E0) = some false)
    (sp5 : PySem.W.subIn K (.ref E1) (.ref E1) = some true)
    (l1 : K.lookup f1 = some ⟨oc1, od1, .func (PySem.W.fnOf "__init__" "WayError.__init__" (defArgs s_WayError_init) (defBody s_WayError_init) (defScope s_WayError_init) (.ref dT) kV1 dc1 pm1 an1 cd1 ct1), sl1⟩) (c1 : PySem.W.codeIn K cd1 "WayError.__init__" = true) (k1 : PySem.W.keepIn K (.ref f1) = true)
    (a2 : PySem.W.nsIn K mainGlobals "is_integer" = some (some (.ref f2)))
    (l2 : K.lookup f2 = some ⟨oc2, od2, .func (PySem.W.fnOf "is_integer" "is_integer" (defArgs s_is_integer) (defBody s_is_integer) (defScope s_is_integer) .none kV2 dc2 pm2 an2 cd2 ct2), sl2⟩) (c2 : PySem.W.codeIn K cd2 "is_integer" = true) (k2 : PySem.W.keepIn K (.ref f2) = true)
    (a3 : PySem.W.nsIn K mainGlobals "common" = some (some (.ref f3)))
    (l3 : K.lookup f3 = some ⟨oc3, od3, .func (PySem.W.fnOf "common" "common" (defArgs s_common) (defBody s_common) (defScope s_common) .none kV3 dc3 pm3 an3 cd3 ct3), sl3⟩) (c3 : PySem.W.codeIn K cd3 "common" = true) (k3 : PySem.W.keepIn K (.ref f3) = true)
    (a4 : PySem.W.nsIn K mainGlobals "check_lengths" = some (some (.ref f4)))
    (l4 : K.lookup f4 = some ⟨oc4, od4, .func (PySem.W.fnOf "check_lengths" "check_lengths" (defArgs s_check_lengths) (defBody s_check_lengths) (defScope s_check_lengths) .none kV4 dc4 pm4 an4 cd4 ct4), sl4⟩) (c4 : PySem.W.codeIn K cd4 "check_lengths" = true) (k4 : PySem.W.keepIn K (.ref f4) = true)
    (a5 : PySem.W.nsIn K mainGlobals "divisor_of" = some (some (.ref f5)))
    (l5 : K.lookup f5 = some ⟨oc5, od5, .func (PySem.W.fnOf "divisor_of" "divisor_of" (defArgs s_divisor_of) (defBody s_divisor_of) (defScope s_divisor_of) .none kV5 dc5 pm5 an5 cd5 ct5), sl5⟩) (c5 : PySem.W.codeIn K cd5 "divisor_of" = true) (k5 : PySem.W.keepIn K (.ref f5) = true)
    (a6 : PySem.W.nsIn K mainGlobals "far_from" = some (some (.ref f6)))
    (l6 : K.lookup f6 = some ⟨oc6, od6, .func (PySem.W.fnOf "far_from" "far_from" (defArgs s_far_from) (defBody s_far_from) (defScope s_far_from) .none kV6 dc6 pm6 an6 cd6 ct6), sl6⟩) (c6 : PySem.W.codeIn K cd6 "far_from" = true) (k6 : PySem.W.keepIn K (.ref f6) = true)
    (a7 : PySem.W.nsIn K mainGlobals "steps_reach" = some (some (.ref f7)))
    (l7 : K.lookup f7 = some ⟨oc7, od7, .func (PySem.W.fnOf "steps_reach" "steps_reach" (defArgs s_steps_reach) (defBody s_steps_reach) (defScope s_steps_reach) .none kV7 dc7 pm7 an7 cd7 ct7), sl7⟩) (c7 : PySem.W.codeIn K cd7 "steps_reach" = true) (k7 : PySem.W.keepIn K (.ref f7) = true)
    (a8 : PySem.W.nsIn K mainGlobals "is_reached" = some (some (.ref f8)))
    (l8 : K.lookup f8 = some ⟨oc8, od8, .func (PySem.W.fnOf "is_reached" "is_reached" (defArgs s_is_reached) (defBody s_is_reached) (defScope s_is_reached) .none kV8 dc8 pm8 an8 cd8 ct8), sl8⟩) (c8 : PySem.W.codeIn K cd8 "is_reached" = true) (k8 : PySem.W.keepIn K (.ref f8) = true)
    (a9 : PySem.W.nsIn K mainGlobals "lone_told" = some (some (.ref f9)))
    (l9 : K.lookup f9 = some ⟨oc9, od9, .func (PySem.W.fnOf "lone_told" "lone_told" (defArgs s_lone_told) (defBody s_lone_told) (defScope s_lone_told) .none kV9 dc9 pm9 an9 cd9 ct9), sl9⟩) (c9 : PySem.W.codeIn K cd9 "lone_told" = true) (k9 : PySem.W.keepIn K (.ref f9) = true)
    (a10 : PySem.W.nsIn K mainGlobals "lone_gaps" = some (some (.ref f10)))
    (l10 : K.lookup f10 = some ⟨oc10, od10, .func (PySem.W.fnOf "lone_gaps" "lone_gaps" (defArgs s_lone_gaps) (defBody s_lone_gaps) (defScope s_lone_gaps) .none kV10 dc10 pm10 an10 cd10 ct10), sl10⟩) (c10 : PySem.W.codeIn K cd10 "lone_gaps" = true) (k10 : PySem.W.keepIn K (.ref f10) = true)
    (a11 : PySem.W.nsIn K mainGlobals "_law_tape" = some (some (.ref f11)))
    (l11 : K.lookup f11 = some ⟨oc11, od11, .func (PySem.W.fnOf "_law_tape" "_law_tape" (defArgs s_l_tape) (defBody s_l_tape) (defScope s_l_tape) .none kV11 dc11 pm11 an11 cd11 ct11), sl11⟩) (c11 : PySem.W.codeIn K cd11 "_law_tape" = true) (k11 : PySem.W.keepIn K (.ref f11) = true)
    (a12 : PySem.W.nsIn K mainGlobals "_law_pick" = some (some (.ref f12)))
    (l12 : K.lookup f12 = some ⟨oc12, od12, .func (PySem.W.fnOf "_law_pick" "_law_pick" (defArgs s_l_pick) (defBody s_l_pick) (defScope s_l_pick) .none kV12 dc12 pm12 an12 cd12 ct12), sl12⟩) (c12 : PySem.W.codeIn K cd12 "_law_pick" = true) (k12 : PySem.W.keepIn K (.ref f12) = true)
    (a13 : PySem.W.nsIn K mainGlobals "_law_odd" = some (some (.ref f13)))
    (l13 : K.lookup f13 = some ⟨oc13, od13, .func (PySem.W.fnOf "_law_odd" "_law_odd" (defArgs s_l_odd) (defBody s_l_odd) (defScope s_l_odd) .none kV13 dc13 pm13 an13 cd13 ct13), sl13⟩) (c13 : PySem.W.codeIn K cd13 "_law_odd" = true) (k13 : PySem.W.keepIn K (.ref f13) = true)
    (a14 : PySem.W.nsIn K mainGlobals "_law_common" = some (some (.ref f14)))
    (l14 : K.lookup f14 = some ⟨oc14, od14, .func (PySem.W.fnOf "_law_common" "_law_common" (defArgs s_l_common) (defBody s_l_common) (defScope s_l_common) .none kV14 dc14 pm14 an14 cd14 ct14), sl14⟩) (c14 : PySem.W.codeIn K cd14 "_law_common" = true) (k14 : PySem.W.keepIn K (.ref f14) = true)
    (a15 : PySem.W.nsIn K mainGlobals "_law_divisor" = some (some (.ref f15)))
    (l15 : K.lookup f15 = some ⟨oc15, od15, .func (PySem.W.fnOf "_law_divisor" "_law_divisor" (defArgs s_l_divisor) (defBody s_l_divisor) (defScope s_l_divisor) .none kV15 dc15 pm15 an15 cd15 ct15), sl15⟩) (c15 : PySem.W.codeIn K cd15 "_law_divisor" = true) (k15 : PySem.W.keepIn K (.ref f15) = true)
    (a16 : PySem.W.nsIn K mainGlobals "_law_reach" = some (some (.ref f16)))
    (l16 : K.lookup f16 = some ⟨oc16, od16, .func (PySem.W.fnOf "_law_reach" "_law_reach" (defArgs s_l_reach) (defBody s_l_reach) (defScope s_l_reach) .none kV16 dc16 pm16 an16 cd16 ct16), sl16⟩) (c16 : PySem.W.codeIn K cd16 "_law_reach" = true) (k16 : PySem.W.keepIn K (.ref f16) = true)
    (a17 : PySem.W.nsIn K mainGlobals "_law_lengths" = some (some (.ref f17)))
    (l17 : K.lookup f17 = some ⟨oc17, od17, .func (PySem.W.fnOf "_law_lengths" "_law_lengths" (defArgs s_l_lengths) (defBody s_l_lengths) (defScope s_l_lengths) .none kV17 dc17 pm17 an17 cd17 ct17), sl17⟩) (c17 : PySem.W.codeIn K cd17 "_law_lengths" = true) (k17 : PySem.W.keepIn K (.ref f17) = true)
    (a18 : PySem.W.nsIn K mainGlobals "_law_asked" = some (some (.ref f18)))
    (l18 : K.lookup f18 = some ⟨oc18, od18, .func (PySem.W.fnOf "_law_asked" "_law_asked" (defArgs s_l_asked) (defBody s_l_asked) (defScope s_l_asked) .none kV18 dc18 pm18 an18 cd18 ct18), sl18⟩) (c18 : PySem.W.codeIn K cd18 "_law_asked" = true) (k18 : PySem.W.keepIn K (.ref f18) = true)
    (a19 : PySem.W.nsIn K mainGlobals "_law_is_number" = some (some (.ref f19)))
    (l19 : K.lookup f19 = some ⟨oc19, od19, .func (PySem.W.fnOf "_law_is_number" "_law_is_number" (defArgs s_l_is_number) (defBody s_l_is_number) (defScope s_l_is_number) .none kV19 dc19 pm19 an19 cd19 ct19), sl19⟩) (c19 : PySem.W.codeIn K cd19 "_law_is_number" = true) (k19 : PySem.W.keepIn K (.ref f19) = true)
    (a20 : PySem.W.nsIn K mainGlobals "_law_due" = some (some (.ref f20)))
    (l20 : K.lookup f20 = some ⟨oc20, od20, .func (PySem.W.fnOf "_law_due" "_law_due" (defArgs s_l_due) (defBody s_l_due) (defScope s_l_due) .none kV20 dc20 pm20 an20 cd20 ct20), sl20⟩) (c20 : PySem.W.codeIn K cd20 "_law_due" = true) (k20 : PySem.W.keepIn K (.ref f20) = true)
    (a21 : PySem.W.nsIn K mainGlobals "_law_bent" = some (some (.ref f21)))
    (l21 : K.lookup f21 = some ⟨oc21, od21, .func (PySem.W.fnOf "_law_bent" "_law_bent" (defArgs s_l_bent) (defBody s_l_bent) (defScope s_l_bent) .none kV21 dc21 pm21 an21 cd21 ct21), sl21⟩) (c21 : PySem.W.codeIn K cd21 "_law_bent" = true) (k21 : PySem.W.keepIn K (.ref f21) = true)
    (a22 : PySem.W.nsIn K mainGlobals "law" = some (some (.ref f22)))
    (l22 : K.lookup f22 = some ⟨oc22, od22, .func (PySem.W.fnOf "law" "law" (defArgs s_law) (defBody s_law) (defScope s_law) .none kV22 dc22 pm22 an22 cd22 ct22), sl22⟩) (c22 : PySem.W.codeIn K cd22 "law" = true) (k22 : PySem.W.keepIn K (.ref f22) = true)
    (z0 : PySem.W.nsIn K mainGlobals "isinstance" = some none)
    (z1 : PySem.W.nsIn K mainGlobals "int" = some none)
    (z2 : PySem.W.nsIn K mainGlobals "bool" = some none)
    (z3 : PySem.W.nsIn K mainGlobals "abs" = some none)
    (z4 : PySem.W.nsIn K mainGlobals "enumerate" = some none)
    (z5 : PySem.W.nsIn K mainGlobals "list" = some none)
    (z6 : PySem.W.nsIn K mainGlobals "tuple" = some none)
    (z7 : PySem.W.nsIn K mainGlobals "len" = some none)
    (z8 : PySem.W.nsIn K mainGlobals "sum" = some none)
    (z9 : PySem.W.nsIn K mainGlobals "sorted" = some none)
    (z10 : PySem.W.nsIn K mainGlobals "range" = some none)
    {t0 : Tok} (y0 : PySem.W.nsIn K mainGlobals "MOST_LENGTHS" = some (some (.int 8 t0)))
    {t1 : Tok} (y1 : PySem.W.nsIn K mainGlobals "MOST_LENGTH" = some (some (.int 60 t1)))
    {t2 : Tok} (y2 : PySem.W.nsIn K mainGlobals "MOST_LAST" = some (some (.int (10 ^ 30) t2)))
    : ∃ fd : FuncData, (∀ (s : Shared) (v : Value), BindsTo s fd ⟨[v], []⟩ [("_law_script", v)]) ∧ ∀ base : Heap, K.In base → base.Ns mainGlobals mg → FnOk l.prog w K mg base CX0 7 fa fd ["_law_script"] (sp_law K) := by
  have e := hfa.symm.trans (PySem.W.mg_of X G a22)
  cases e
  have D1 : FunD K "__init__" "WayError.__init__" (defArgs s_WayError_init) (defBody s_WayError_init) (defScope s_WayError_init) [.non] [] f1 _ := ⟨⟨oc1, od1, .ref dT, kV1, dc1, pm1, an1, cd1, ct1, sl1, rfl, l1, c1, .inr ⟨by simp, dT, _, [.none], tN, rfl, lT, rfl, .cons rfl .nil⟩, .inl rfl⟩, k1⟩
  have F2 := fun_mk (st := s_is_integer) l2 c2 k2
  have F3 := fun_mk (st := s_common) l3 c3 k3
  have F4 := fun_mk (st := s_check_lengths) l4 c4 k4
  have F5 := fun_mk (st := s_divisor_of) l5 c5 k5
  have F6 := fun_mk (st := s_far_from) l6 c6 k6
  have F7 := fun_mk (st := s_steps_reach) l7 c7 k7
  have F8 := fun_mk (st := s_is_reached) l8 c8 k8
  have F9 := fun_mk (st := s_lone_told) l9 c9 k9
  have F10 := fun_mk (st := s_lone_gaps) l10 c10 k10
  have F11 := fun_mk (st := s_l_tape) l11 c11 k11
  have F12 := fun_mk (st := s_l_pick) l12 c12 k12
  have F13 := fun_mk (st := s_l_odd) l13 c13 k13
  have F14 := fun_mk (st := s_l_common) l14 c14 k14
  have F15 := fun_mk (st := s_l_divisor) l15 c15 k15
  have F16 := fun_mk (st := s_l_reach) l16 c16 k16
  have F17 := fun_mk (st := s_l_lengths) l17 c17 k17
  have F18 := fun_mk (st := s_l_asked) l18 c18 k18
  have F19 := fun_mk (st := s_l_is_number) l19 c19 k19
  have F20 := fun_mk (st := s_l_due) l20 c20 k20
  have F21 := fun_mk (st := s_l_bent) l21 c21 k21
  have F22 := fun_mk (st := s_law) l22 c22 k22
  let T : Txt K mg := {
    C_BadLengths := E0, c_BadLengths := PySem.W.mg_of X G ue0, X_BadLengths := ⟨⟨⟨_, _, _, _, _, _, _, _, _, _, _, _, _, _, _, xl0, rb0⟩, xa0, xb0, xc0, xd0⟩, ⟨xg0, xh0, xb0, xi0, xj0, xn, xo, xm0⟩, xe0, xf0, xp0, xs0⟩,
    C_BadTimes := E1, c_BadTimes := PySem.W.mg_of X G ue1, X_BadTimes := ⟨⟨⟨_, _, _, _, _, _, _, _, _, _, _, _, _, _, _, xl1, rb1⟩, xa1, xb1, xc1, xd1⟩, ⟨xg1, xh1, xb1, xi1, xj1, xn, xo, xm1⟩, xe1, xf1, xp1, xs1⟩,
    C_WayError := E2, c_WayError := PySem.W.mg_of X G ue2, X_WayError := ⟨⟨⟨_, _, _, _, _, _, _, _, _, _, _, _, _, _, _, xl2, rb2⟩, xa2, xb2, xc2, xd2⟩, ⟨xg2, xh2, xb2, xi2, xj2, xn, xo, xm2⟩, xe2, xf2, xp2, xs2⟩,
    s_BadLengths_WayError := sp0,
    s_BadLengths_BadLengths := sp1,
    s_BadLengths_BadTimes := sp2,
    s_BadTimes_WayError := sp3,
    s_BadTimes_BadLengths := sp4,
    s_BadTimes_BadTimes := sp5,
    f_WayError_init := f1, fd_WayError_init := _, D_WayError_init := D1, b_WayError_init := Rx.binds2 D1 (fun _ _ _ _ _ _ _ us its h1 h2 => match us, its, h1, h2 with | [_, _], [_], _, _ => ⟨_, rfl, rfl⟩), tI_WayError_init := tI,
    f_is_integer := f2, fd_is_integer := _, F_is_integer := F2, g_is_integer := PySem.W.mg_of X G a2, b_is_integer := F2.binds (ps := ["value"]) fun _ _ _ _ _ _ us hl => match us, hl with | [_], _ => rfl,
    f_common := f3, fd_common := _, F_common := F3, g_common := PySem.W.mg_of X G a3, b_common := F3.binds (ps := ["one", "other"]) fun _ _ _ _ _ _ us hl => match us, hl with | [_, _], _ => rfl,
    f_check_lengths := f4, fd_check_lengths := _, F_check_lengths := F4, g_check_lengths := PySem.W.mg_of X G a4, b_check_lengths := F4.binds (ps := ["lengths"]) fun _ _ _ _ _ _ us hl => match us, hl with | [_], _ => rfl,
    f_divisor_of := f5, fd_divisor_of := _, F_divisor_of := F5, g_divisor_of := PySem.W.mg_of X G a5, b_divisor_of := F5.binds (ps := ["lengths"]) fun _ _ _ _ _ _ us hl => match us, hl with | [_], _ => rfl,
    f_far_from := f6, fd_far_from := _, F_far_from := F6, g_far_from := PySem.W.mg_of X G a6, b_far_from := F6.binds (ps := ["lengths"]) fun _ _ _ _ _ _ us hl => match us, hl with | [_], _ => rfl,
    f_steps_reach := f7, fd_steps_reach := _, F_steps_reach := F7, g_steps_reach := PySem.W.mg_of X G a7, b_steps_reach := F7.binds (ps := ["lengths", "last"]) fun _ _ _ _ _ _ us hl => match us, hl with | [_, _], _ => rfl,
    f_is_reached := f8, fd_is_reached := _, F_is_reached := F8, g_is_reached := PySem.W.mg_of X G a8, b_is_reached := F8.binds (ps := ["lengths", "last"]) fun _ _ _ _ _ _ us hl => match us, hl with | [_, _], _ => rfl,
    f_lone_told := f9, fd_lone_told := _, F_lone_told := F9, g_lone_told := PySem.W.mg_of X G a9, b_lone_told := F9.binds (ps := ["lengths", "last"]) fun _ _ _ _ _ _ us hl => match us, hl with | [_, _], _ => rfl,
    f_lone_gaps := f10, fd_lone_gaps := _, F_lone_gaps := F10, g_lone_gaps := PySem.W.mg_of X G a10, b_lone_gaps := F10.binds (ps := ["lengths"]) fun _ _ _ _ _ _ us hl => match us, hl with | [_], _ => rfl,
    f_l_tape := f11, fd_l_tape := _, F_l_tape := F11, g_l_tape := PySem.W.mg_of X G a11, b_l_tape := F11.binds (ps := ["_law_script"]) fun _ _ _ _ _ _ us hl => match us, hl with | [_], _ => rfl,
    f_l_pick := f12, fd_l_pick := _, F_l_pick := F12, g_l_pick := PySem.W.mg_of X G a12, b_l_pick := F12.binds (ps := ["_law_tape_here", "_law_size"]) fun _ _ _ _ _ _ us hl => match us, hl with | [_, _], _ => rfl,
    f_l_odd := f13, fd_l_odd := _, F_l_odd := F13, g_l_odd := PySem.W.mg_of X G a13, b_l_odd := F13.binds (ps := ["_law_tape_here"]) fun _ _ _ _ _ _ us hl => match us, hl with | [_], _ => rfl,
    f_l_common := f14, fd_l_common := _, F_l_common := F14, g_l_common := PySem.W.mg_of X G a14, b_l_common := F14.binds (ps := ["_law_one", "_law_other"]) fun _ _ _ _ _ _ us hl => match us, hl with | [_, _], _ => rfl,
    f_l_divisor := f15, fd_l_divisor := _, F_l_divisor := F15, g_l_divisor := PySem.W.mg_of X G a15, b_l_divisor := F15.binds (ps := ["_law_lengths_here"]) fun _ _ _ _ _ _ us hl => match us, hl with | [_], _ => rfl,
    f_l_reach := f16, fd_l_reach := _, F_l_reach := F16, g_l_reach := PySem.W.mg_of X G a16, b_l_reach := F16.binds (ps := ["_law_lengths_here", "_law_last"]) fun _ _ _ _ _ _ us hl => match us, hl with | [_, _], _ => rfl,
    f_l_lengths := f17, fd_l_lengths := _, F_l_lengths := F17, g_l_lengths := PySem.W.mg_of X G a17, b_l_lengths := F17.binds (ps := ["_law_tape_here"]) fun _ _ _ _ _ _ us hl => match us, hl with | [_], _ => rfl,
    f_l_asked := f18, fd_l_asked := _, F_l_asked := F18, g_l_asked := PySem.W.mg_of X G a18, b_l_asked := F18.binds (ps := ["_law_kind", "_law_lengths_here", "_law_last"]) fun _ _ _ _ _ _ us hl => match us, hl with | [_, _, _], _ => rfl,
    f_l_is_number := f19, fd_l_is_number := _, F_l_is_number := F19, g_l_is_number := PySem.W.mg_of X G a19, b_l_is_number := F19.binds (ps := ["_law_thing", "_law_most"]) fun _ _ _ _ _ _ us hl => match us, hl with | [_, _], _ => rfl,
    f_l_due := f20, fd_l_due := _, F_l_due := F20, g_l_due := PySem.W.mg_of X G a20, b_l_due := F20.binds (ps := ["_law_kind", "_law_lengths_here", "_law_last"]) fun _ _ _ _ _ _ us hl => match us, hl with | [_, _, _], _ => rfl,
    f_l_bent := f21, fd_l_bent := _, F_l_bent := F21, g_l_bent := PySem.W.mg_of X G a21, b_l_bent := F21.binds (ps := ["_law_tape_here", "_law_lengths_here"]) fun _ _ _ _ _ _ us hl => match us, hl with | [_, _], _ => rfl,
    f_law := fa, fd_law := _, F_law := F22, g_law := PySem.W.mg_of X G a22, b_law := F22.binds (ps := ["_law_script"]) fun _ _ _ _ _ _ us hl => match us, hl with | [_], _ => rfl,
    n_isinstance := PySem.W.mg_none_of X G z0,
    n_int := PySem.W.mg_none_of X G z1,
    n_bool := PySem.W.mg_none_of X G z2,
    n_abs := PySem.W.mg_none_of X G z3,
    n_enumerate := PySem.W.mg_none_of X G z4,
    n_list := PySem.W.mg_none_of X G z5,
    n_tuple := PySem.W.mg_none_of X G z6,
    n_len := PySem.W.mg_none_of X G z7,
    n_sum := PySem.W.mg_none_of X G z8,
    n_sorted := PySem.W.mg_none_of X G z9,
    n_range := PySem.W.mg_none_of X G z10,
    t_MOST_LENGTHS := t0, m_MOST_LENGTHS := PySem.W.mg_of X G y0,
    t_MOST_LENGTH := t1, m_MOST_LENGTH := PySem.W.mg_of X G y1,
    t_MOST_LAST := t2, m_MOST_LAST := PySem.W.mg_of X G y2 }
  exact ⟨_, fun s v => .of_eq rfl, fun base _ _ => ok_law T⟩
theorem walk {l : PySem.W.OpenLaw} {q : Program} {loose : List Str} {XP : (Str → Option Value) → Heap → Prop} {YP : World → Heap → Prop} {d : DefRec} {K : Params → PySem.W.Frag} (hn : l.most = some 63) (hdf : d.params.defaults = [])
    (hY : ∀ (w : World) (h : Heap), YP w h → (K w.params).In h)
    (F : ∀ (w : World) (mg : Str → Option Value) (fa : Addr) (h : Heap), (K w.params).In h → h.Ns mainGlobals mg → mg d.name = some (.ref fa) →
      ∃ fd : FuncData, (∀ (s : Shared) (u : Value), BindsTo s fd ⟨[u], []⟩ [("_law_script", u)]) ∧ ∀ base : Heap, (K w.params).In base → base.Ns mainGlobals mg → FnOk l.prog w (K w.params) mg base CX0 7 fa fd ["_law_script"] (sp_law (K w.params))) :
    PySem.W.WalkO q loose XP YP l.row.toRowW d [] (fun f vs => PySem.call f vs) :=
  L2.walk_of (n := 63) (k := 7) (x := "_law_script") (CX := fun _ => CX0) (sp := fun w => sp_law (K w.params)) hn (by decide) hdf ⟨rfl, by decide, by decide⟩ hY F (fun _ _ a ns hl _ hS => ⟨a, ns, rfl, hS, hl, fun _ => rfl⟩) fun _ _ _ _ _ z => z
end W
open PySem PySem.W PyProof.Rows
set_option maxRecDepth 100000 in
set_option maxHeartbeats 0 in
theorem PySem.Challenge.cw_watchedways_k86_lone_gaps_and_refused_holds : PySem.Challenge.rw_watchedways_k86_lone_gaps_and_refused.Holds := by
  w_on; o_law; k_head; (case hw => w_witness2)
  k_fill
  refine W.walk (l := PySem.Challenge.rw_watchedways_k86_lone_gaps_and_refused) rfl rfl (fun w h Y => PySem.W.kIn_of Y) ?F
  case F =>
    intro w mg fa h KX G hmg
    refine' W.all_mk KX G hmg ?lT ?tI ?xn ?xo ?ue0 ?xl0 ?rb0 ?xa0 ?xb0 ?xc0 ?xd0 ?xe0 ?xf0 ?xg0 ?xh0 ?xi0 ?xj0 ?xm0 ?xp0 ?xs0 ?ue1 ?xl1 ?rb1 ?xa1 ?xb1 ?xc1 ?xd1 ?xe1 ?xf1 ?xg1 ?xh1 ?xi1 ?xj1 ?xm1 ?xp1 ?xs1 ?ue2 ?xl2 ?rb2 ?xa2 ?xb2 ?xc2 ?xd2 ?xe2 ?xf2 ?xg2 ?xh2 ?xi2 ?xj2 ?xm2 ?xp2 ?xs2 ?sp0 ?sp1 ?sp2 ?sp3 ?sp4 ?sp5 ?l1 ?c1 ?k1 ?a2 ?l2 ?c2 ?k2 ?a3 ?l3 ?c3 ?k3 ?a4 ?l4 ?c4 ?k4 ?a5 ?l5 ?c5 ?k5 ?a6 ?l6 ?c6 ?k6 ?a7 ?l7 ?c7 ?k7 ?a8 ?l8 ?c8 ?k8 ?a9 ?l9 ?c9 ?k9 ?a10 ?l10 ?c10 ?k10 ?a11 ?l11 ?c11 ?k11 ?a12 ?l12 ?c12 ?k12 ?a13 ?l13 ?c13 ?k13 ?a14 ?l14 ?c14 ?k14 ?a15 ?l15 ?c15 ?k15 ?a16 ?l16 ?c16 ?k16 ?a17 ?l17 ?c17 ?k17 ?a18 ?l18 ?c18 ?k18 ?a19 ?l19 ?c19 ?k19 ?a20 ?l20 ?c20 ?k20 ?a21 ?l21 ?c21 ?k21 ?a22 ?l22 ?c22 ?k22 ?z0 ?z1 ?z2 ?z3 ?z4 ?z5 ?z6 ?z7 ?z8 ?z9 ?z10 ?y0 ?y1 ?y2
    (case ue0 => k_is); (case xe0 => k_is); (case l1 => k_is); (case lT => k_is); (case tI => k_is); (case xn => k_is); (case xo => k_is); (case xl0 => k_is); (case rb0 => rfl); (case xa0 => k_is); (case xb0 => k_is); (case xc0 => k_is); (case xd0 => k_is); (case xf0 => k_is); (case xg0 => k_is); (case xh0 => k_is); (case xi0 => k_is); (case xj0 => k_is); (case xm0 => k_is); (case xp0 => k_is); (case xs0 => k_is); (case ue1 => k_is); (case xl1 => k_is); (case rb1 => rfl); (case xa1 => k_is); (case xb1 => k_is); (case xc1 => k_is); (case xd1 => k_is); (case xe1 => k_is); (case xf1 => k_is); (case xg1 => k_is); (case xh1 => k_is); (case xi1 => k_is); (case xj1 => k_is); (case xm1 => k_is); (case xp1 => k_is); (case xs1 => k_is); (case ue2 => k_is); (case xl2 => k_is); (case rb2 => rfl); (case xa2 => k_is); (case xb2 => k_is); (case xc2 => k_is); (case xd2 => k_is); (case xe2 => k_is); (case xf2 => k_is); (case xg2 => k_is); (case xh2 => k_is); (case xi2 => k_is); (case xj2 => k_is); (case xm2 => k_is); (case xp2 => k_is); (case xs2 => k_is); (case sp0 => k_is); (case sp1 => k_is); (case sp2 => k_is); (case sp3 => k_is); (case sp4 => k_is); (case sp5 => k_is); (case c1 => k_is); (case k1 => k_is); (case a2 => k_is); (case l2 => k_is); (case c2 => k_is); (case k2 => k_is); (case a3 => k_is); (case l3 => k_is); (case c3 => k_is); (case k3 => k_is); (case a4 => k_is); (case l4 => k_is); (case c4 => k_is); (case k4 => k_is); (case a5 => k_is); (case l5 => k_is); (case c5 => k_is); (case k5 => k_is); (case a6 => k_is); (case l6 => k_is); (case c6 => k_is); (case k6 => k_is); (case a7 => k_is); (case l7 => k_is); (case c7 => k_is); (case k7 => k_is); (case a8 => k_is); (case l8 => k_is); (case c8 => k_is); (case k8 => k_is); (case a9 => k_is); (case l9 => k_is); (case c9 => k_is); (case k9 => k_is); (case a10 => k_is); (case l10 => k_is); (case c10 => k_is); (case k10 => k_is); (case a11 => k_is); (case l11 => k_is); (case c11 => k_is); (case k11 => k_is); (case a12 => k_is); (case l12 => k_is); (case c12 => k_is); (case k12 => k_is); (case a13 => k_is); (case l13 => k_is); (case c13 => k_is); (case k13 => k_is); (case a14 => k_is); (case l14 => k_is); (case c14 => k_is); (case k14 => k_is); (case a15 => k_is); (case l15 => k_is); (case c15 => k_is); (case k15 => k_is); (case a16 => k_is); (case l16 => k_is); (case c16 => k_is); (case k16 => k_is); (case a17 => k_is); (case l17 => k_is); (case c17 => k_is); (case k17 => k_is); (case a18 => k_is); (case l18 => k_is); (case c18 => k_is); (case k18 => k_is); (case a19 => k_is); (case l19 => k_is); (case c19 => k_is); (case k19 => k_is); (case a20 => k_is); (case l20 => k_is); (case c20 => k_is); (case k20 => k_is); (case a21 => k_is); (case l21 => k_is); (case c21 => k_is); (case k21 => k_is); (case a22 => k_is); (case l22 => k_is); (case c22 => k_is); (case k22 => k_is); (case z0 => k_is); (case z1 => k_is); (case z2 => k_is); (case z3 => k_is); (case z4 => k_is); (case z5 => k_is); (case z6 => k_is); (case z7 => k_is); (case z8 => k_is); (case z9 => k_is); (case z10 => k_is); (case y0 => k_is); (case y1 => k_is); (case y2 => k_is)
