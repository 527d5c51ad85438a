import PyProof.Rows.All
import Wide.All
import OpenK.AllK
import Wide.FinOn
import HandS.ForMost
import HandS.SortInts
import HandS.Style
import HandS.IsInst
import HandS.Flow
import HandS.Conv
import HandS.Codes
import PyProof.Draws
import PyProof.EnumMake
import HandS.Walk
import HandS.Strs
import HandS.More
import HandS.Text
import HandS.Small
import HandS.SortKw
import KE.SortKeyed
import HandS.DictComp
import HandS.Zip
import HandS.Finally
import HandS.Exc
import HandS.ExcOwn
import HandS.ExcInit
import HandS.ExcIs
import HandS.TryOnly
import HandS.TryMany
import HandS.WordsExc
import HandS.Defaults
import HandS.CallSlots
import HandS.DeepEq
import PyProof.ReprRoads
import HandS.Ends
import HandS.Base
import HandS.Call
import HandS.Words
import HandS.FStr
import PySem.Challenge.RW_watchedways_k18_whole_rules_as_rows
set_option Elab.async false
set_option linter.all false
set_option maxRecDepth 100000
set_option maxHeartbeats 4000000
/-! Readings by their heads: one lemma a combinator, so that a reading is walked by its own shape. -/
namespace Rd
open PySem PySem.Spec PyProof.Rows L2
variable {X : Cx} {D : Ends} {σ : L2.St} {H : Hp} {K : PySem.W.Frag}
/-- a new object is laid -/
def NewQ (o : HO) (Q : VK) (H : Hp) : Prop := ∀ p, H p = none → Q (.ref p) (upd H p o)
theorem new {o : HO} {Q : VK} (h : ∀ (p : Addr) (G : Hp), H p = none → G p = some o → Same H G → Q (.ref p) G) : NewQ o Q H :=
  fun p hp => h p _ hp upd_same fun b u e => by rw [upd_ne (ne_of_none e hp)]; exact e
theorem seq {t u : TS} (h : t { D with nx := u D } σ H) : tSeq t u D σ H := h
theorem cut {t u : TS} (Mid : L2.St → Hp → Prop) (h : t { D with nx := Mid } σ H) (h2 : ∀ σ' H', Mid σ' H' → u D σ' H') : C8.tCut t u D σ H := ⟨Mid, h, h2⟩
theorem nxt (h : D.nx σ H) : tNext D σ H := h
theorem asg {te : TE} {g : TG} (h : te σ H fun x H1 => g x σ H1 D.nx) : tAsg te g D σ H := h
theorem name {i : Nat} {v : V} {Q : L2.St → Hp → Prop} (h : Q (σ.set i (some v)) H) : gName i v σ H Q := h
theorem ret {te : TE} (h : te σ H D.rt) : tRet te D σ H := h
theorem retN (h : D.rt .non H) : tRetN D σ H := h
theorem drop {te : TE} (h : te σ H fun _ H1 => D.nx σ H1) : tDrop te D σ H := h
theorem ifS {c : TT} {t u : TS} (h : c σ H fun b H1 => if b = true then t D σ H1 else u D σ H1) : tIfS c t u D σ H := h
theorem brk (h : D.bk σ H) : tBreak D σ H := h
theorem cont (h : D.ct σ H) : tCont D σ H := h
theorem var {i : Nat} {v : V} {Q : VK} (e : σ[i]? = some (some v)) (h : Q v H) : tVar i σ H Q := ⟨v, e, h⟩
theorem con {v : V} {Q : VK} (h : Q v H) : tC v σ H Q := h
theorem op {r : R2} {ta tb : TE} {Q : VK} (h : ta σ H fun x H1 => tb σ H1 fun y H2 => r x y H2 Q) : tOp r ta tb σ H Q := h
theorem un {r : V → Hp → VK → Prop} {ta : TE} {Q : VK} (h : ta σ H fun x H1 => r x H1 Q) : tUn r ta σ H Q := h
theorem test {t : TE} {Q : Bool → Hp → Prop} (h : t σ H fun x H' => ∃ k, x = .bl k ∧ Q k H') : tTest t σ H Q := h
theorem tstB {t : TE} {Q : Bool → Hp → Prop} (h : t σ H fun x H' => ∃ k, x = .bl k ∧ Q k H') : tB t σ H Q := h
theorem bl {k : Bool} {Q : Bool → Hp → Prop} (h : Q k H) : ∃ k', V.bl k = .bl k' ∧ Q k' H := ⟨k, rfl, h⟩
theorem and {t u : TT} {Q : Bool → Hp → Prop} (h : t σ H fun c H1 => if c = true then u σ H1 Q else Q false H1) : tAnd t u σ H Q := h
theorem or {t u : TT} {Q : Bool → Hp → Prop} (h : t σ H fun c H1 => if c = true then Q true H1 else u σ H1 Q) : tOr t u σ H Q := h
theorem not {t : TT} {Q : Bool → Hp → Prop} (h : t σ H fun c H1 => Q (!c) H1) : tNot t σ H Q := h
theorem andV {ta tb : TE} {Q : VK} (h : ta σ H fun x H1 => ∃ c, x = .bl c ∧ if c = true then tb σ H1 Q else Q (.bl false) H1) : tAndV ta tb σ H Q := h
theorem orV {ta tb : TE} {Q : VK} (h : ta σ H fun x H1 => ∃ c, x = .bl c ∧ if c = true then Q (.bl true) H1 else tb σ H1 Q) : tOrV ta tb σ H Q := h
theorem notV {ta : TE} {Q : VK} (h : ta σ H fun x H1 => ∃ c, x = .bl c ∧ Q (.bl (!c)) H1) : tNotV ta σ H Q := h
theorem ifE {t : TT} {ta tb : TE} {Q : VK} (h : t σ H fun c H1 => if c = true then ta σ H1 Q else tb σ H1 Q) : tIf t ta tb σ H Q := h
theorem nil {Q : List V → Hp → Prop} (h : Q [] H) : tNil σ H Q := h
theorem cons {ta : TE} {tr : TA} {Q : List V → Hp → Prop} (h : ta σ H fun x H1 => tr σ H1 fun xs H2 => Q (x :: xs) H2) : tCons ta tr σ H Q := h
theorem tup {t : TA} {Q : VK} (h : t σ H fun xs H1 => xs.length ≤ sizeLine ∧ NewQ (.tup xs) Q H1) : tTup t σ H Q := h
theorem lst {t : TA} {Q : VK} (h : t σ H fun xs H1 => xs.length ≤ sizeLine ∧ NewQ (.lst xs) Q H1) : tLst t σ H Q := h
theorem cb {r : List V → Hp → VK → Prop} {t : TA} {Q : VK} (h : t σ H fun vs H1 => r vs H1 Q) : tCB r t σ H Q := h
theorem call {sp : Sp} {dvs : List V} {E : XK} {t : TA} {Q : VK} (h : t σ H fun vs H1 => sp (vs ++ dvs) H1 Q E) : tCall sp dvs E t σ H Q := h
theorem chain {r r' : R2} {ta tb tc : TE} {Q : VK} (h : ta σ H fun x H1 => tb σ H1 fun y H2 => r x y H2 fun z H3 => ∃ k, z = .bl k ∧ (if k = true then tc σ H3 fun w' H4 => r' y w' H4 Q else Q (.bl false) H3)) : tChain r r' ta tb tc σ H Q := h
theorem blE {k : Bool} {P : Bool → Prop} (h : P k) : ∃ k', V.bl k = .bl k' ∧ P k' := ⟨k, rfl, h⟩
theorem i0 {g : Int → Int → V} {i j : Int} {Q : VK} (h : Q (g i j) H) : rI0 g (.int i) (.int j) H Q := ⟨i, j, rfl, rfl, h⟩
theorem iC {C : Int → Int → Prop} {g : Int → Int → V} {i j : Int} {Q : VK} (c : C i j) (h : Q (g i j) H) : rI C g (.int i) (.int j) H Q := ⟨i, j, rfl, rfl, c, h⟩
theorem u1 {g : Int → V} {i : Int} {Q : VK} (h : Q (g i) H) : rU g (.int i) H Q := ⟨i, rfl, h⟩
theorem eqI {i j : Int} {Q : VK} (h : Q (.bl (decide (i = j))) H) : rEq (.int i) (.int j) H Q := ⟨rfl, by rw [show decide (V.int i = V.int j) = decide (i = j) by simp]; exact h⟩
theorem neI {i j : Int} {Q : VK} (h : Q (.bl (!decide (i = j))) H) : rNe (.int i) (.int j) H Q := ⟨rfl, by rw [show decide (V.int i = V.int j) = decide (i = j) by simp]; exact h⟩
theorem eqB {i j : Bool} {Q : VK} (h : Q (.bl (i == j)) H) : rEq (.bl i) (.bl j) H Q := ⟨rfl, by rw [dec_bl]; exact h⟩
theorem neB {i j : Bool} {Q : VK} (h : Q (.bl (i != j)) H) : rNe (.bl i) (.bl j) H Q := ⟨rfl, by rw [dec_bl]; exact h⟩
theorem eqS {i j : Str} {Q : VK} (h : Q (.bl (decide (i = j))) H) : rEq (.str i) (.str j) H Q := ⟨rfl, by rw [show decide (V.str i = V.str j) = decide (i = j) by simp]; exact h⟩
theorem neS {i j : Str} {Q : VK} (h : Q (.bl (!decide (i = j))) H) : rNe (.str i) (.str j) H Q := ⟨rfl, by rw [show decide (V.str i = V.str j) = decide (i = j) by simp]; exact h⟩
theorem iteb {c A B : Prop} [Decidable c] (h : if c then A else B) : if decide c = true then A else B := by
  by_cases q : c
  · rw [if_pos q] at h; rw [if_pos (decide_eq_true q)]; exact h
  · rw [if_neg q] at h; rw [if_neg (by simpa using q)]; exact h
theorem iten {c A B : Prop} [Decidable c] (h : if c then B else A) : if (!decide c) = true then A else B := by
  by_cases q : c
  · rw [if_pos q] at h; rw [if_neg (by simpa using q)]; exact h
  · rw [if_neg q] at h; rw [if_pos (by simpa using q)]; exact h
theorem itbn {b : Bool} {A B : Prop} (h : if b = true then B else A) : if (!b) = true then A else B := by
  cases b with
  | true => rw [if_neg (by decide)]; rw [if_pos rfl] at h; exact h
  | false => rw [if_pos (by rfl : (!false) = true)]; rw [if_neg (by decide)] at h; exact h
theorem a1 {a : Int} {P : Int → Prop} (h : P a) : ∃ i, [V.int a] = [V.int i] ∧ P i := ⟨a, rfl, h⟩
theorem a2 {a b : Int} {P : Int → Int → Prop} (h : P a b) : ∃ i j, [V.int a, V.int b] = [V.int i, V.int j] ∧ P i j := ⟨a, b, rfl, h⟩
theorem v2 {a b : V} {P : V → V → Prop} (h : P a b) : ∃ i j, [a, b] = [i, j] ∧ P i j := ⟨a, b, rfl, h⟩
theorem int1 {a : Int} {P : Int → Prop} {R : Prop} (h : P a) : (∃ i, [V.int a] = [V.int i] ∧ P i) ∨ R := .inl ⟨a, rfl, h⟩
theorem par {i j : Nat} {ta : TA} (h : ta σ H fun vs H1 => ∃ v w, vs = [v, w] ∧ D.nx ((σ.set i (some v)).set j (some w)) H1) : tPar i j ta D σ H := h
theorem sub {to ti : TE} {t : TSet} {v : V} {Q : L2.St → Hp → Prop} (h : to σ H fun o H1 => ti σ H1 fun i H2 => t o i v H2 fun H3 => Q σ H3) : gSub to ti t v σ H Q := h
theorem forS {wi : TI} {g : TG} {tb : TS} (h : wi σ H fun J H1 => ∃ W : Nat → Nat → L2.St → Hp → Prop, (∃ m, W 0 m σ H1) ∧ ∀ i m σ H, W i m σ H →
  (J.stop i H ∧ D.nx σ H) ∨ (J.go i H ∧ ∃ N : L2.St → Hp → Prop, (∀ σ' H', N σ' H' → ∃ m', m' < m ∧ W (i + 1) m' σ' H') ∧ ∀ x H', J.yld i H x H' → g x σ H' fun σ2 H2 => tb { D with nx := N, ct := N, bk := D.nx } σ2 H2)) : tFor wi g tb D σ H := h
theorem iter {tl : TE} {R : It → Hp → Prop} (h : tl σ H fun x H1 => ∃ a, x = .ref a ∧ (∃ xs, SqL K H1 a xs) ∧ R (Itl K a) H1) : iList K tl σ H R := h
theorem iterT {tl : TE} {R : It → Hp → Prop} (h : tl σ H fun x H1 => ∃ a, x = .ref a ∧ (∃ xs, SqT K H1 a xs) ∧ R (Itt K a) H1) : iTup K tl σ H R := h
theorem rng1 {ta : TA} {R : It → Hp → Prop} (h : ta σ H fun vs H1 => ∃ j : Int, vs = [.int j] ∧ -(2 ^ 62) ≤ j ∧ j < 2 ^ 62 ∧ R (Itr 0 j.toNat) H1) : iRng1 ta σ H R := h
theorem refE {a : Addr} {P : Addr → Prop} (h : P a) : ∃ b, V.ref a = .ref b ∧ P b := ⟨a, rfl, h⟩
theorem aug {i : Nat} {te : TE} {ti : TIp} {x : V} (e : σ[i]? = some (some x)) (h : te σ H fun y H1 => ti x y H1 fun z H2 => D.nx (σ.set i (some z)) H2) : tAug i te ti D σ H := ⟨x, e, h⟩
theorem ipi {f : Int → Int → Int} {i j : Int} {Q : VK} (h : Q (.int (f i j)) H) : ipI f (.int i) (.int j) H Q := ⟨i, j, rfl, rfl, h⟩
theorem whl {c : TT} {tb : TS} (W : Nat → L2.St → Hp → Prop) (h0 : ∃ m, W m σ H) (hs : ∀ m σ H, W m σ H → c σ H fun b H1 => if b = true then ∃ N : L2.St → Hp → Prop, (∀ σ' H', N σ' H' → ∃ m', m' < m ∧ W m' σ' H') ∧ tb { D with nx := N, ct := N, bk := D.nx } σ H1 else D.nx σ H1) : tWhile c tb D σ H := ⟨W, h0, hs⟩
theorem whN {m : Nat} {W : Nat → L2.St → Hp → Prop} {P : (L2.St → Hp → Prop) → Prop} (h : P (fun σ' H' => ∃ m', m' < m ∧ W m' σ' H')) : ∃ N, (∀ σ' H', N σ' H' → ∃ m', m' < m ∧ W m' σ' H') ∧ P N := ⟨_, fun _ _ h => h, h⟩
/-- an item of a list at a place -/
theorem ixL {p : Addr} {xs : List V} {i : Int} {v : V} {Q : VK} (hp : SqL K H p xs) (e : atI xs i = some v) (h : Q v H) : rIxL K (.ref p) (.int i) H Q := ⟨p, xs, i, v, rfl, rfl, hp, e, h⟩
theorem ixT {p : Addr} {xs : List V} {i : Int} {v : V} {Q : VK} (hp : SqT K H p xs) (e : atI xs i = some v) (h : Q v H) : rIxT K (.ref p) (.int i) H Q := ⟨p, xs, i, v, rfl, rfl, hp, e, h⟩
theorem setL {p : Addr} {xs : List V} {k : Int} {j : Nat} {v : V} {Q : Hp → Prop} (hp : H p = some (.lst xs)) (e : ixN xs.length k = some j) (h : Q (upd H p (.lst (xs.set j v)))) : rSetL (.ref p) (.int k) v H Q := ⟨p, xs, k, j, rfl, rfl, hp, e, h⟩
/-- a store into a list: behind it a heap G of which this is known -/
theorem setG {p : Addr} {xs ys : List V} {k : Int} {j : Nat} {v : V} {Q : Hp → Prop} (hp : H p = some (.lst xs)) (e : ixN xs.length k = some j) (hy : xs.set j v = ys) (h : ∀ G : Hp, G p = some (.lst ys) → (∀ b, b ≠ p → G b = H b) → Q G) : rSetL (.ref p) (.int k) v H Q :=
  ⟨p, xs, k, j, rfl, rfl, hp, e, hy ▸ h _ upd_same fun b hb => upd_ne hb⟩
/-! ### calls of built-ins and methods, by name -/
def nLen (K : PySem.W.Frag) : List V → Hp → VK → Prop := fun xs H Q => ∃ p ys, xs = [.ref p] ∧ (SqL K H p ys ∨ SqT K H p ys) ∧ Q (.int ys.length) H
theorem c_len : CallR X (.builtin "len") (nLen X.K) := call_len_seq
theorem len {p : Addr} {ys : List V} {Q : VK} (hp : SqL K H p ys ∨ SqT K H p ys) (h : Q (.int ys.length) H) : nLen K [.ref p] H Q := ⟨p, ys, rfl, hp, h⟩
def nLenS : List V → Hp → VK → Prop := fun xs H Q => ∃ z : Str, xs = [.str z] ∧ z.length ≤ sizeLine ∧ Q (.int z.length) H
theorem c_lenS : CallR X (.builtin "len") nLenS := call_len_str
theorem lenStr {z : Str} {Q : VK} (hz : z.length ≤ sizeLine) (h : Q (.int z.length) H) : nLenS [.str z] H Q := ⟨z, rfl, hz, h⟩
def nListOf (K : PySem.W.Frag) : List V → Hp → VK → Prop := fun xs H Q => ∃ p ys, xs = [.ref p] ∧ (SqL K H p ys ∨ SqT K H p ys) ∧ NewQ (.lst ys) Q H
theorem c_listOf : CallR X (.type "list") (nListOf X.K) := call_list_of
theorem listOf {p : Addr} {ys : List V} {Q : VK} (hp : SqL K H p ys ∨ SqT K H p ys) (h : NewQ (.lst ys) Q H) : nListOf K [.ref p] H Q := ⟨p, ys, rfl, hp, h⟩
def nTupOf (K : PySem.W.Frag) : List V → Hp → VK → Prop := fun xs H Q => ∃ p ys, xs = [.ref p] ∧ ((SqL K H p ys ∧ NewQ (.tup ys) Q H) ∨ (SqT K H p ys ∧ Q (.ref p) H))
theorem c_tupOf : CallR X (.type "tuple") (nTupOf X.K) := call_tuple_of
theorem tupOf {p : Addr} {ys : List V} {Q : VK} (hp : SqL K H p ys) (h : NewQ (.tup ys) Q H) : nTupOf K [.ref p] H Q := ⟨p, ys, rfl, .inl ⟨hp, h⟩⟩
def nInt : List V → Hp → VK → Prop := fun xs H Q => (∃ i, xs = [.int i] ∧ Q (.int i) H) ∨ ∃ k, xs = [.bl k] ∧ Q (.int (if k then 1 else 0)) H
theorem c_int : CallR X (.type "int") nInt := call_int1
theorem int {i : Int} {Q : VK} (h : Q (.int i) H) : nInt [.int i] H Q := .inl ⟨i, rfl, h⟩
theorem intB {k : Bool} {Q : VK} (h : Q (.int (if k then 1 else 0)) H) : nInt [.bl k] H Q := .inr ⟨k, rfl, h⟩
def nAbs : List V → Hp → VK → Prop := fun xs H Q => ∃ i, xs = [.int i] ∧ Q (.int (if i < 0 then -i else i)) H
theorem c_abs : CallR X (.builtin "abs") nAbs := call_abs
theorem abs {i : Int} {Q : VK} (h : Q (.int (i.natAbs : Int)) H) : nAbs [.int i] H Q := ⟨i, rfl, by rw [show (if i < 0 then -i else i) = (i.natAbs : Int) by split <;> omega]; exact h⟩
def nMax2 : List V → Hp → VK → Prop := fun xs H Q => ∃ i j, xs = [.int i, .int j] ∧ Q (.int (if j > i then j else i)) H
theorem c_max2 (hc : X.calm = true) : CallR X (.builtin "max") nMax2 := call_max2 hc
theorem max2 {i j : Int} {Q : VK} (h : Q (.int (max i j)) H) : nMax2 [.int i, .int j] H Q := ⟨i, j, rfl, by rw [show (if j > i then j else i) = max i j by rw [Int.max_def]; split <;> split <;> omega]; exact h⟩
def nMin2 : List V → Hp → VK → Prop := fun xs H Q => ∃ i j, xs = [.int i, .int j] ∧ Q (.int (if j < i then j else i)) H
theorem c_min2 (hc : X.calm = true) : CallR X (.builtin "min") nMin2 := call_min2 hc
theorem min2 {i j : Int} {Q : VK} (h : Q (.int (min i j)) H) : nMin2 [.int i, .int j] H Q := ⟨i, j, rfl, by rw [show (if j < i then j else i) = min i j by rw [Int.min_def]; split <;> split <;> omega]; exact h⟩
theorem bm {T : String} {r : V → List V → Hp → VK → Prop} {to : TE} {t : TA} {Q : VK} (h : to σ H fun x H1 => tyV K T x H1 ∧ t σ H1 fun xs H2 => r x xs H2 Q) : tBM K T r to t σ H Q := h
theorem bm0 {T : String} {r : V → List V → Hp → VK → Prop} {to : TE} {Q : VK} (h : to σ H fun x H1 => tyV K T x H1 ∧ r x [] H1 Q) : tBM0 K T r to σ H Q := h
theorem tyL {a : Addr} {xs : List V} {R : Prop} (h : SqL K H a xs) (r : R) : tyV K "list" (.ref a) H ∧ R := ⟨.inl ⟨rfl, _, h⟩, r⟩
theorem app {l : Addr} {xs : List V} {y : V} {Q : VK} (hp : H l = some (.lst xs)) (hz : xs.length < sizeLine) (h : ∀ G : Hp, G l = some (.lst (xs ++ [y])) → (∀ b, b ≠ l → G b = H b) → Q .non G) : rAppend (.ref l) [y] H Q :=
  ⟨l, xs, y, rfl, rfl, hp, hz, h _ upd_same fun b hb => upd_ne hb⟩
theorem popAt {l : Addr} {xs : List V} {i : Int} {y : V} {Q : VK} (hp : H l = some (.lst xs)) (h0 : 0 ≤ i) (h1 : i < xs.length) (hz : xs.length < 2 ^ 63) (hy : xs[i.toNat]? = some y) (h : ∀ G : Hp, G l = some (.lst (xs.eraseIdx i.toNat)) → (∀ b, b ≠ l → G b = H b) → Q y G) : rPopAt (.ref l) [.int i] H Q :=
  ⟨l, xs, i, i.toNat, y, rfl, rfl, hp, by omega, by omega, by unfold seqIndex?; rw [if_pos (by simp; omega)] <;> simp <;> omega, hy, h _ upd_same fun b hb => upd_ne hb⟩
theorem sl {r : V → Option Int → Option Int → Hp → VK → Prop} {te : TE} {tl th : TO} {Q : VK} (h : te σ H fun x H1 => tl σ H1 fun l H2 => th σ H2 fun u H3 => r x l u H3 Q) : tSl r te tl th σ H Q := h
theorem slL {a : Addr} {xs : List V} {lo hi : Option Int} {Q : VK} (hp : SqL K H a xs) (h : NewQ (.lst (cutV xs lo hi)) Q H) : rSlL K (.ref a) lo hi H Q := ⟨a, xs, rfl, hp, h⟩
theorem slS {z : Str} {lo hi : Option Int} {Q : VK} (hz : z.length ≤ sizeLine) (h : Q (.str (cutS z lo hi)) H) : rSlS (.str z) lo hi H Q := ⟨z, rfl, hz, h⟩
theorem cat {l b : Addr} {xs zs : List V} {Q : VK} (h1 : H l = some (.lst xs)) (h2 : H b = some (.lst zs)) (hz : xs.length + zs.length ≤ sizeLine) (h : NewQ (.lst (xs ++ zs)) Q H) : rCat (.ref l) (.ref b) H Q := ⟨l, b, xs, zs, rfl, rfl, h1, h2, hz, h⟩
theorem rep {l : Addr} {xs : List V} {k : Int} {Q : VK} (h1 : H l = some (.lst xs)) (h0 : -(2 ^ 63) ≤ k) (hk : k < 2 ^ 63) (hz : xs.length * k.toNat ≤ sizeLine) (h : NewQ (.lst (List.replicate k.toNat xs).flatten) Q H) : rRep (.ref l) (.int k) H Q := ⟨l, k, xs, rfl, rfl, h1, h0, hk, hz, h⟩
theorem revL {te : TE} {Q : VK} (h : te σ H fun x H1 => ∃ a xs, x = .ref a ∧ SqL K H1 a xs ∧ NewQ (.lst xs.reverse) Q H1) : tRevL K te σ H Q := h
theorem refX {a : Addr} {xs : List V} {P : List V → Prop} (h : SqL K H a xs) (q : P xs) : ∃ b ys, V.ref a = .ref b ∧ SqL K H b ys ∧ P ys := ⟨a, xs, rfl, h, q⟩
theorem sum {a : Addr} {ns : List Int} {Q : VK} (hp : SqL K H a (ns.map V.int)) (h : Q (.int ns.sum) H) : rSum K [.ref a] H Q := ⟨a, ns, rfl, hp, h⟩
theorem all {a : Addr} {bs : List Bool} {Q : VK} (hp : SqL K H a (bs.map V.bl)) (h : Q (.bl (bs.all id)) H) : rAll K [.ref a] H Q := ⟨a, bs, rfl, hp, h⟩
theorem any {a : Addr} {bs : List Bool} {Q : VK} (hp : SqL K H a (bs.map V.bl)) (h : Q (.bl (bs.any id)) H) : rAny K [.ref a] H Q := ⟨a, bs, rfl, hp, h⟩
theorem sortedI {a : Addr} {ns : List Int} {Q : VK} (hp : SqL K H a (ns.map V.int)) (h : ∀ (ms : List Int) (p : Addr) (G : Hp), ms.Perm ns → ms.Pairwise (· ≤ ·) → G p = some (.lst (ms.map V.int)) → Same H G → H p = none → Q (.ref p) G) : rSortedI K [.ref a] H Q :=
  ⟨a, ns, rfl, hp, fun ms p h1 h2 h3 => h ms p _ h1 h2 upd_same (fun b u e => by rw [upd_ne (ne_of_none e h3)]; exact e) h3⟩
theorem inS {neg : Bool} {x : V} {p : Addr} {xs : List V} {Q : VK} (hp : SqL K H p xs ∨ SqT K H p xs) (h1 : flatV x = true) (h2 : xs.all flatV = true) (h : Q (.bl (if neg then !inV x xs else inV x xs)) H) : rIn K neg x (.ref p) H Q := ⟨p, xs, rfl, hp, h1, h2, h⟩
theorem part {te : TE} {Q : Option Int → Hp → Prop} (h : te σ H fun x H1 => ∃ i, x = .int i ∧ Q (some i) H1) : tPart te σ H Q := h
theorem noPart {Q : Option Int → Hp → Prop} (h : Q none H) : tNoPart σ H Q := h
theorem poS {te : TE} {Q : Option Int → Hp → Prop} {i : Int} (h : te σ H fun x H1 => ∃ i, x = .int i ∧ Q (some i) H1) : te σ H fun x H1 => ∃ i, x = .int i ∧ Q (some i) H1 := h
theorem tupT {a : Addr} {xs : List V} {n : Nat} {t : TGs} {Q : L2.St → Hp → Prop} (hp : SqT K H a xs) (hn : xs.length = n) (h : t xs σ H Q) : gTup K n t (.ref a) σ H Q := ⟨a, xs, rfl, hp, hn, h⟩
theorem gcons {t : TG} {u : TGs} {v : V} {r : List V} {Q : L2.St → Hp → Prop} (h : t v σ H fun σ' H' => u r σ' H' Q) : gCons t u (v :: r) σ H Q := ⟨v, r, rfl, h⟩
theorem gnil {Q : L2.St → Hp → Prop} (h : Q σ H) : gNil [] σ H Q := ⟨rfl, h⟩
theorem last2 {ms : List Int} (h : 2 ≤ ms.length) : ∃ s b a, ms = s ++ [b, a] := by
  rcases List.eq_nil_or_concat ms with e | ⟨t, a, e⟩
  · subst e; simp at h
  · rcases List.eq_nil_or_concat t with e2 | ⟨s, b, e2⟩
    · subst e2; subst e; simp at h
    · exact ⟨s, b, a, by rw [e, e2]; simp⟩
theorem cut_last2 (s : List Int) (b a : Int) : cutV ((s ++ [b, a]).map V.int) (some (-2)) none = [b, a].map V.int := by
  have e : HT.sIx ((s ++ [b, a]).map V.int).length 0 (some (-2)) = (s.map V.int).length := by
    unfold HT.sIx
    simp
    omega
  have e2 : HT.sIx ((s ++ [b, a]).map V.int).length ((s ++ [b, a]).map V.int).length none = ((s ++ [b, a]).map V.int).length := rfl
  unfold cutV
  rw [e, e2, List.map_append, List.drop_left, List.length_append]
  exact List.take_of_length_le (by simp)
theorem rep_map (k : Nat) (b : Bool) : (List.replicate k [V.bl b]).flatten = (List.replicate k b).map V.bl := by
  induction k with
  | zero => rfl
  | succ k ih => rw [List.replicate_succ, List.flatten_cons, ih, List.replicate_succ]; rfl
theorem map_set {α β : Type} (f : α → β) (l : List α) (i : Nat) (x : α) : (l.map f).set i (f x) = (l.set i x).map f := by rw [List.map_set]
theorem enx {a b c : L2.St → Hp → Prop} {r : VK} (h : a σ H) : (Ends.mk a r b c).nx σ H := h
theorem ebk {a b c : L2.St → Hp → Prop} {r : VK} (h : b σ H) : (Ends.mk a r b c).bk σ H := h
theorem ect {a b c : L2.St → Hp → Prop} {r : VK} (h : c σ H) : (Ends.mk a r b c).ct σ H := h
theorem ert {a b c : L2.St → Hp → Prop} {r : VK} {v : V} (h : r v H) : (Ends.mk a r b c).rt v H := h
theorem intE {i : Int} {P : Int → Prop} (h : P i) : ∃ j, V.int i = .int j ∧ P j := ⟨i, rfl, h⟩
theorem atI_of {α : Type} {xs : List α} {i : Int} {v : α} (h0 : 0 ≤ i) (e : xs[i.toNat]? = some v) : atI xs i = some v := by
  have h := atI_nat e
  rw [show ((i.toNat : Nat) : Int) = i by omega] at h
  exact h
theorem ixN_of {n : Nat} {i : Int} (h0 : 0 ≤ i) (h1 : i < n) : ixN n i = some i.toNat := by
  unfold ixN
  rw [if_pos h0, if_pos h1]
theorem map_int {ns : List Int} {i : Nat} (h : i < ns.length) : (ns.map V.int)[i]? = some (.int ns[i]) := by simp [h]
theorem map_get {ns : List Int} {i : Nat} {x : V} (h : (ns.map V.int)[i]? = some x) : ∃ n, ns[i]? = some n ∧ x = .int n := by
  rw [List.getElem?_map] at h
  cases e : ns[i]? with
  | none => rw [e] at h; cases h
  | some z => rw [e] at h; exact ⟨z, rfl, (Option.some.inj h).symm⟩
theorem take_snoc {α : Type} {l : List α} {i : Nat} {x : α} (h : l[i]? = some x) : l.take (i + 1) = l.take i ++ [x] := by
  rw [List.take_succ, h]
  rfl
theorem upd_at {a : Addr} {o : HO} {b : Addr} (h : b = a) : upd H a o b = some o := by subst h; exact upd_same
/-- all but what stands at a is kept -/
def But (a : Addr) (H H' : Hp) : Prop := ∀ b o, b ≠ a → H b = some o → H' b = some o
theorem But.refl (a : Addr) (H : Hp) : But a H H := fun _ _ _ e => e
theorem But.trans {a : Addr} {H H1 H2 : Hp} (x : But a H H1) (y : But a H1 H2) : But a H H2 := fun b o n e => y b o n (x b o n e)
theorem But.same {a : Addr} {H H1 H2 : Hp} (x : But a H H1) (y : Same H1 H2) : But a H H2 := fun b o n e => y b o (x b o n e)
theorem But.of {a : Addr} {H H1 : Hp} (y : Same H H1) : But a H H1 := fun b o _ e => y b o e
theorem But.free {a : Addr} {H H1 : Hp} (x : But a H H1) {l : Addr} (n : l ≠ a) (h : H1 l = none) : H l = none := by
  cases q : H l with
  | none => rfl
  | some o =>
    have := x l o n q
    rw [h] at this
    cases this
theorem But.upd {a : Addr} {H H1 : Hp} {o : HO} (x : But a H H1) : But a H (upd H1 a o) := fun b u n e => by rw [upd_ne n]; exact x b u n e
theorem same_upd {H : Hp} {p : Addr} {o : HO} (h : H p = none) : Same H (upd H p o) := fun b u e => by rw [upd_ne (ne_of_none e h)]; exact e
end Rd

/-! Further rules: enumerate and sorted of a tuple; one of two ways to walk. -/
namespace Ru
open PySem PyProof.Rows
open PySem.AutoSeq1 (wpAny_loadPart')
section
variable {prog : Program} {w : World} {A : Around} {E : Value → Shared → Prop} {s : Shared}
theorem nextOf_tup {it t : Addr} {i : Nat} {items : Array Value} {x : Value} {Q : Value → Shared → Prop} (hit : s.heap.IsTupleIter it t i) (ht : s.heap.IsTuple t items) (hx : items[i]? = some x)
    (hQ : ∀ h', h'.IsTupleIter it t (i + 1) → Heap.SameBut it s.heap h' → Q x { s with heap := h' }) : wpAny (model prog w) A (Builtin.SmallTypes.nextOf (.ref it)) Q E s := by
  obtain ⟨oi, hoi, hci, hdi⟩ := id hit
  obtain ⟨ot, hot, _, nt, hdt⟩ := ht
  unfold Builtin.SmallTypes.nextOf
  refine wpAny_bind (wpAny_callSpecial?_slot (name := Str.ofString "__next__") hit.typeIs F.slot_tuple_iterator_next (wpAny_call_entry F.slot_tuple_iterator_next hit.typeIs F.entry_tuple_iterator_next ?_ (F.args_tuple_iterator_next_1 _)))
  show wpAny _ _ (field (.ref it) 0 >>= _) _ _ s
  refine wpAny_bind (wpAny_field hoi hdi (x := .ref t) rfl ?_)
  show wpAny _ _ (if (Value.ref t == Value.none) = true then _ else _) _ _ s
  rw [if_neg (show ¬ ((Value.ref t == Value.none) = true) from Bool.false_ne_true)]
  show wpAny _ _ (field (.ref it) 1 >>= _) _ _ s
  refine wpAny_bind (wpAny_field hoi hdi (x := .int i 0) rfl ?_)
  show wpAny _ _ (seqItems? (.ref t) >>= _) _ _ s
  refine wpAny_bind (wpAny_seqItems hot hdt ?_)
  simp only [Int.toNat_natCast, hx]
  refine wpAny_bind (wpAny_setField hoi hdi (by simp) (wpAny_pure ⟨x, rfl, wpAny_pure (hQ _ ?_ (Heap.SameBut.update ..))⟩))
  exact ⟨_, Heap.get?_update_self _ hoi (Obj.isFreed_of_fields (Obj.data_mapFields hdi _)), (Obj.cls_mapFields ..).trans hci, by rw [Obj.data_mapFields hdi]; simp [rawInt]⟩
theorem nextOf_tup_end {it t : Addr} {i : Nat} {items : Array Value} {Q : Value → Shared → Prop} (hh : A.handled = none) (hit : s.heap.IsTupleIter it t i) (ht : s.heap.IsTuple t items) (hx : items[i]? = none)
    (hE : ∀ h' e, Heap.ExtBut it s.heap h' → (∃ o, h'.get? e = some o ∧ o.cls = .type "StopIteration") → E (.ref e) { s with heap := h' }) : wpAny (model prog w) A (Builtin.SmallTypes.nextOf (.ref it)) Q E s := by
  obtain ⟨oi, hoi, hci, hdi⟩ := id hit
  obtain ⟨ot, hot, _, nt, hdt⟩ := ht
  unfold Builtin.SmallTypes.nextOf
  refine wpAny_bind (wpAny_callSpecial?_slot (name := Str.ofString "__next__") hit.typeIs F.slot_tuple_iterator_next (wpAny_call_entry F.slot_tuple_iterator_next hit.typeIs F.entry_tuple_iterator_next ?_ (F.args_tuple_iterator_next_1 _)))
  show wpAny _ _ (field (.ref it) 0 >>= _) _ _ s
  refine wpAny_bind (wpAny_field hoi hdi (x := .ref t) rfl ?_)
  show wpAny _ _ (if (Value.ref t == Value.none) = true then _ else _) _ _ s
  rw [if_neg (show ¬ ((Value.ref t == Value.none) = true) from Bool.false_ne_true)]
  show wpAny _ _ (field (.ref it) 1 >>= _) _ _ s
  refine wpAny_bind (wpAny_field hoi hdi (x := .int i 0) rfl ?_)
  show wpAny _ _ (seqItems? (.ref t) >>= _) _ _ s
  refine wpAny_bind (wpAny_seqItems hot hdt ?_)
  simp only [Int.toNat_natCast, hx]
  refine wpAny_bind (wpAny_rule (wpAny_bind (wpAny_setField hoi hdi (by simp) ?_)))
  show wpAny _ _ (newExc (.type "StopIteration") [] >>= _) _ _ _
  refine wpAny_bind ?_
  simp only [newExc, newTuple]
  refine wpAny_bind (wpAny_newObj_type ?_ (by size_fits))
  refine wpAny_bind (m := firstArgMember _ _) (wpAny_of_eq (a := Value.none) (by first | rfl | (simp only [firstArgMember]; rfl)) ?_)
  refine wpAny_newObj_type ?_ (by size_fits)
  simp only [raiseNew]
  refine wpAny_bind (wpAny_handled ?_)
  first | rw [show A.in1.handled = none from hh] | rw [hh]
  refine wpAny_bind (wpAny_pure (wpAny_throw ?_))
  exact hE _ _ (((Heap.SameBut.update ..).extBut.push _).push _) ⟨_, Heap.get?_push_size _ rfl, rfl⟩
end
theorem draws_tup {prog : Program} {w : World} {A : Around} (hh : A.handled = none) (it t : Addr) (hne : t ≠ it) (items : Array Value) :
    Draws prog w A it [it, t] items.size (fun i v => items[i]? = some v) (fun i h => h.IsTupleIter it t i ∧ h.IsTuple t items) where
  live := fun _ _ st => let ⟨o, ho, _⟩ := st.1; ⟨o, ho⟩
  frame := fun _ _ _ st hk => ⟨let ⟨o, ho, r⟩ := st.1; ⟨o, hk it (by simp) o ho, r⟩, let ⟨o, ho, r⟩ := st.2; ⟨o, hk t (by simp) o ho, r⟩⟩
  item := fun i s Q E hi st hQ => by
    refine nextOf_tup st.1 st.2 (x := items[i]) (by simp [hi]) fun h' k1 k2 => ?_
    exact hQ _ h' s.toks (by simp [hi]) ⟨k1, st.2.extBut k2.extBut hne⟩ k2
  done := fun s Q E st hE => nextOf_tup_end hh st.1 st.2 (by simp) hE
theorem meets_enum_tup (l : Addr) (items : Array Value) (n : Nat) (dct : Option Addr) (sl : Array (Option Value)) :
    Meets (Builtin.«enumerate.__new__» ⟨[.type "enumerate", .ref l], []⟩) (fun _ R s => s.heap.get? l = some { cls := .type "tuple", dict := dct, data := .seq items n, slots := sl } ∧
      R (.ok (.ret (.ref (s.heap.push { cls := .type "tuple_iterator", data := .fields #[.ref l, .int 0 0] }).objs.size)))
        { s with heap := (s.heap.push { cls := .type "tuple_iterator", data := .fields #[.ref l, .int 0 0] }).push { cls := .type "enumerate", data := .fields #[.none, .bool false, .ref s.heap.objs.size, rawInt 0, .none, .none] } }) :=
  .of_wp fun prog w A R s h => by
    obtain ⟨hp, g, d, tk, os⟩ := s
    obtain ⟨hl, h⟩ := h
    have hsub := sub_enumerate
    have hL : Heap.IsTuple (Shared.heap ⟨hp, g, d, tk, os⟩) l items := ⟨_, hl, rfl, n, rfl⟩
    wp_walk using wpAny_loadPart' hl
    refine wpAny_stack_any fun st => wpAny_pure ?_
    split
    · rename_i c _ _ _ _ _
      cases (c == Value.type "enumerate")
      · wp_walk using wpAny_loadPart' hl, wpAny_pyIter_tuple hL
        exact ⟨_, rfl, h⟩
      · wp_walk using wpAny_loadPart' hl, wpAny_pyIter_tuple hL
        exact ⟨_, rfl, h⟩
    · wp_walk using wpAny_loadPart' hl, wpAny_pyIter_tuple hL
      exact ⟨_, rfl, h⟩
section
variable {prog : Program} {w : World} {A : Around} {E : Value → Shared → Prop} {s : Shared}
theorem call_enum_tup {l : Addr} {items : Array Value} {Q : Value → Shared → Prop} (hL : s.heap.IsTuple l items)
    (h : ∀ h', IsEnum h' (s.heap.objs.size + 1) s.heap.objs.size 0 .none → h'.IsTupleIter s.heap.objs.size l 0 → h'.objs.size = s.heap.objs.size + 2 → (∀ b o, s.heap.get? b = some o → h'.get? b = some o) → Q (.ref (s.heap.objs.size + 1)) { s with heap := h' }) :
    wpAny (model prog w) A (call (.type "enumerate") [.ref l]) Q E s := by
  obtain ⟨⟨c, dct, dt, sl⟩, hl, hc, n, hd⟩ := hL
  replace hc : c = .type "tuple" := hc
  replace hd : dt = .seq items n := hd
  subst hc hd
  refine callType_new F.called_enumerate (by decide) (F.typeCall_enumerate_1 _) (F.newCall_enumerate_1 _) (fun obj => F.args_object_init_2 obj _) F.entry_enumerate_new (meets_enum_tup l items n dct sl) ⟨hl, ?_⟩
  have hz : (s.heap.push { cls := .type "tuple_iterator", data := .fields #[.ref l, .int 0 0] }).objs.size = s.heap.objs.size + 1 := Heap.size_push ..
  show _ ∧ _
  rw [hz]
  have he : IsEnum ((s.heap.push { cls := .type "tuple_iterator", data := .fields #[.ref l, .int 0 0] }).push { cls := .type "enumerate", data := .fields #[.none, .bool false, .ref s.heap.objs.size, rawInt 0, .none, .none] }) (s.heap.objs.size + 1) s.heap.objs.size 0 .none := by
    have q := Heap.get?_push_size (s.heap.push { cls := .type "tuple_iterator", data := .fields #[.ref l, .int 0 0] }) (o := { cls := .type "enumerate", data := .fields #[.none, .bool false, .ref s.heap.objs.size, rawInt 0, .none, .none] }) rfl
    rw [hz] at q
    exact q
  exact ⟨⟨_, he, rfl⟩, h _ he ⟨_, Heap.get?_push_of_some _ (Heap.get?_push_size _ rfl), rfl, rfl⟩ (by rw [Heap.size_push, hz]) fun b o x => Heap.get?_push_of_some _ (Heap.get?_push_of_some _ x)⟩
/-- a tuple is collected into a new list -/
theorem collect_tup {l : Addr} {vs : List Value} {Q : List Value → Shared → Prop} (hl : s.heap.IsTuple l vs.toArray) (hsz : vs.length ≤ sizeLine)
    (h : Q vs { s with heap := (s.heap.push (seqObj "list" #[] 0)).update s.heap.objs.size (Obj.mapSeq (· ++ vs.toArray)) }) : wpAny (model prog w) A (collect (.ref l)) Q E s := by
  obtain ⟨o, ho, hc, n, hd⟩ := id hl
  unfold collect
  refine wpAny_bind (wpAny_runValue (codeAny_builtin entry_proto_collect' ?_))
  show wpAny _ _ (do again (.builtin "list.__iadd__" ⟨[← newList [], .ref l], []⟩)) _ _ s
  refine wpAny_bind (wpAny_newList (wpAny_pure ⟨Code.quiet_builtin _ (by decide +kernel), codeAny_builtin entry_list_iadd' ?_⟩))
  show wpAny _ _ (Builtin.List.listExtendWith (.ref s.heap.objs.size) (.ref l) (.ref s.heap.objs.size)) _ _ { s with heap := s.heap.push (seqObj "list" #[] 0) }
  unfold Builtin.List.listExtendWith
  have ho' : (s.heap.push (seqObj "list" #[] 0)).get? l = some o := Heap.get?_push_of_some _ ho
  refine wpAny_bind (wpAny_typeOf (T := "tuple") ⟨o, ho', hc⟩ ?_)
  have ht : (Value.type "tuple" == Value.type "tuple") = true := by rfl
  rw [if_pos (by rw [ht]; simp)]
  refine wpAny_bind (listItems_at ho' hd ?_)
  refine wpAny_bind (listItems_at (xs := #[]) (n := 0) (Heap.get?_push_size _ rfl) rfl ?_)
  rw [if_neg (by simp)]
  refine wpAny_bind (listUpdate_at (xs := #[]) (n := 0) (Heap.get?_push_size _ rfl) rfl ?_ (Nat.zero_le _) (by show (#[] ++ vs.toArray).size ≤ sizeLine + 1; simp only [Array.size_append, List.size_toArray, List.length_nil]; omega))
  refine wpAny_pure ?_
  show wpAny (model prog w) A (do
      let o ← load s.heap.objs.size
      match o.data with
      | .seq xs _ => pure xs.toList
      | _ => unsupported "internal:collect") Q E { s with heap := (s.heap.push (seqObj "list" #[] 0)).update s.heap.objs.size (Obj.mapSeq (· ++ vs.toArray)) }
  refine wpAny_bind (wpAny_load (get?_update_seq (Heap.get?_push_size _ rfl) _) ?_)
  show wpAny _ _ (pure ((#[] : Array Value) ++ vs.toArray).toList) Q E _
  rw [show ((#[] : Array Value) ++ vs.toArray).toList = vs by simp]
  exact wpAny_pure h
end

section
variable {prog : Program} {w : World} {A : Around} {E : Value → Shared → Prop} {s : Shared}
open SrtO in
/-- sorted of a tuple: the new list stands at size + 1 -/
theorem sorted_tup {l : Addr} {vs : List Value} {ltv : Value → Value → Bool} {Q : Value → Shared → Prop} (O : Swo ltv) (hl : s.heap.IsTuple l vs.toArray) (hz : vs.length ≤ sizeLine)
    (hS : 2 ≤ vs.length → ∀ (g : Heap) (a : Addr), g.get? a = some (seqObj "list" vs.toArray 0) → (∀ b o, s.heap.get? b = some o → b ≠ a ∧ g.get? b = some o) → SortableO prog w A.in1.in1 { s with heap := g } a vs ltv)
    (h : ∀ out : List Value, Srtd ltv out → Stb ltv out vs → Q (.ref (s.heap.objs.size + 1)) { s with heap := sortedAll s.heap vs out.toArray }) : wpAny (model prog w) A (call (.builtin "sorted") [.ref l]) Q E s := by
  refine Calls.call_function_entry kind_sorted plain_sorted entry_sorted (args_sorted1 _) ?_
  unfold Builtin.«sorted»
  refine wpAny_bind (m := checkCount "sorted" 1 1 _) (wpAny_pure ?_)
  refine wpAny_bind (collect_tup hl hz ?_)
  refine wpAny_bind (wpAny_newList ?_ hz)
  have e1 : ((s.heap.push (seqObj "list" #[] 0)).update s.heap.objs.size (Obj.mapSeq (· ++ vs.toArray))).objs.size = s.heap.objs.size + 1 := by rw [Heap.size_update, size_push']
  have e2 : (((s.heap.push (seqObj "list" #[] 0)).update s.heap.objs.size (Obj.mapSeq (· ++ vs.toArray))).push (seqObj "list" vs.toArray 0)).get? (s.heap.objs.size + 1) = some (seqObj "list" vs.toArray 0) := by
    rw [← e1]
    exact Heap.get?_push_size _ rfl
  have e3 : ∀ b o, s.heap.get? b = some o → b ≠ s.heap.objs.size + 1 ∧ (((s.heap.push (seqObj "list" #[] 0)).update s.heap.objs.size (Obj.mapSeq (· ++ vs.toArray))).push (seqObj "list" vs.toArray 0)).get? b = some o := fun b o q => by
    have lt : b < s.heap.objs.size := Heap.lt_size q
    refine ⟨Nat.ne_of_lt (Nat.lt_succ_of_lt lt), Heap.get?_push_of_some _ ?_⟩
    rw [Heap.get?_update_ne _ _ _ _ (Nat.ne_of_lt lt)]
    exact Heap.get?_push_of_some _ q
  show wpAny _ _ _ _ _ { s with heap := ((s.heap.push (seqObj "list" #[] 0)).update s.heap.objs.size (Obj.mapSeq (· ++ vs.toArray))).push (seqObj "list" vs.toArray 0) }
  rw [e1]
  refine wpAny_bind (wpAny_holding (wpAny_call_entry slot_list_sort ⟨_, e2, rfl⟩ entry_list_sort (list_sort_ord O e2 hz (fun h2 => hS h2 _ _ e2 e3) fun out hs hb => ⟨_, rfl, ?_⟩) (args_list_sort _)))
  exact wpAny_pure ⟨_, rfl, h out hs hb⟩
end
end Ru
namespace Ru
open PySem PySem.Spec PyProof.Rows L2
/-- one of two ways to walk -/
theorem pi_or {X : Cx} {tg e : Expr} {t u : TI} (a : PI X tg e t) (b : PI X tg e u) : PI X tg e (fun σ H R => t σ H R ∨ u σ H R) := ⟨fun pins s σ H R I h => h.elim (a.run pins s σ H R I) (b.run pins s σ H R I)⟩
theorem callR_or {X : Cx} {f : Value} {r r' : List V → Hp → VK → Prop} (a : CallR X f r) (b : CallR X f r') : CallR X f (fun vs H Q => r vs H Q ∨ r' vs H Q) := fun pins s σ H vs us Q I rv h => h.elim (a pins s σ H vs us Q I rv) (b pins s σ H vs us Q I rv)
/-- sorted(t), t a tuple of ints -/
def rSortedTup (K : PySem.W.Frag) : List V → Hp → VK → Prop := fun vs H Q => ∃ (a : Addr) (ns : List Int), vs = [V.ref a] ∧ SqT K H a (ns.map V.int) ∧
  ∀ (ms : List Int) (p : Addr), ms.Perm ns → ms.Pairwise (· ≤ ·) → H p = none → Q (.ref p) (upd H p (.lst (ms.map V.int)))
theorem cr_sortedTup {X : Cx} : CallR X (.builtin "sorted") (rSortedTup X.K) := by
  intro pins s σ H vs us Q I r h
  obtain ⟨a, ns, rfl, hs, q⟩ := h
  obtain ⟨its, rv, hl, hz⟩ := I.tuple hs
  rw [Vals.ref1 r]
  have hi := rv.ints
  refine sorted_tup SrtO.swo_int (show s.heap.IsTuple a its.toArray from hl) (by rw [← rv.length]; exact hz) (fun h2 g b _ _ => SrtO.ints_sortable hi h2) fun out h1 h2 => ?_
  obtain ⟨k1, k2, k3⟩ := SrtO.ints_out hi h1 h2
  obtain ⟨ep, he⟩ := PyProof.Rows.sortedAll_at s.heap its out.toArray
  have ln : ((out.map SrtO.iv).map V.int).length ≤ sizeLine := by
    rw [List.length_map, k2.length_eq]
    rw [List.length_map] at hz
    exact hz
  exact ⟨.ref _, upd H (s.heap.objs.size + 1) (.lst ((out.map SrtO.iv).map V.int)), I.laid (t' := s.toks) (fun _ _ => PyProof.Rows.sortedAll_old) (Nat.le_succ _) ⟨ln, out, ep, vals_of_ints k1, he⟩, rfl, q _ _ k2 k3 (I.hok.fresh (Nat.le_succ _))⟩
/-- enumerate of a tuple: each item in a new pair -/
def IteT (K : PySem.W.Frag) (a : Addr) : It :=
  ⟨fun i H => ∃ (xs : List V) (x : V), SqT K H a xs ∧ xs[i]? = some x, fun i H v H' => ∃ T x, v = .ref T ∧ H T = none ∧ H' = upd H T (.tup [.int (i : Nat), x]) ∧ ∀ xs, SqT K H a xs → xs[i]? = some x, fun i H => ∃ xs : List V, SqT K H a xs ∧ xs.length = i⟩
theorem turn_enumT {P : Program} {w : World} {K : PySem.W.Frag} {elts : List Expr} {kk : Nat} {tpos : Pos} (a e it : Addr) :
    Turn P w K (.Tuple elts kk tpos) (IteT K a) [e, it] e (fun i h => (∃ old, IsEnum h e it ((i : Nat) : Int) old) ∧ h.IsTupleIter it a i ∧ e ≠ it) where
  mem := by simp
  obj := fun i h st b hb => by
    obtain ⟨⟨old, he⟩, ⟨o, ho, hc, hd⟩, _⟩ := st
    have z : b = e ∨ b = it := by simpa using hb
    rcases z with z | z
    · rw [z]; exact ⟨_, he, fun v q => nomatch q⟩
    · rw [z]; exact ⟨o, ho, fun v q => by rw [hd] at q; cases q⟩
  keep := fun i h h' st k => let ⟨⟨old, he⟩, ⟨o, ho, r⟩, hne⟩ := st; ⟨⟨old, k e (by simp) _ he⟩, ⟨o, k it (by simp) o ho, r⟩, hne⟩
  item := by
    intro X hP hw hK hc i pins s σ H E I hf st hg
    subst hP hw hK
    obtain ⟨⟨old, he⟩, hit, hne⟩ := st
    obtain ⟨xs, x, hq, hx⟩ := hg
    obtain ⟨its, rv, p, hz⟩ := I.tuple hq
    obtain ⟨u, hu, ru⟩ := rv.get hx
    have hel : e < s.heap.objs.size := Heap.lt_size he
    have hil : it < s.heap.objs.size := by obtain ⟨_, q, _⟩ := hit; exact Heap.lt_size q
    have hat : a ≠ it := fun z => by
      obtain ⟨o, q1, q2, _⟩ := hit
      obtain ⟨o', q3, q4, _⟩ := (show s.heap.IsTuple a its.toArray from p)
      rw [← z, q3] at q1
      cases q1
      rw [q4] at q2
      exact absurd (Value.type.inj q2) (by decide)
    have hea : e ≠ a := fun z => by
      obtain ⟨o', q3, q4, _⟩ := (show s.heap.IsTuple a its.toArray from p)
      rw [← z, he] at q3
      cases q3
      exact absurd (Value.type.inj q4) (by decide)
    have hlt : i < its.toArray.size := by
      have := (List.getElem?_eq_some_iff.mp hu).1
      simpa using this
    refine wpAny_pyNext_enum_itemD (draws_tup (prog := X.prog) (w := X.w) (A := X.A.in1) (I.ok.hd hc) it a hat its.toArray) he ⟨hit, p⟩ hlt hne (by simp [hne, hea]) fun y h' tk hy ho st' hT hsz hk => ?_
    have hy' : y = u := by
      have z : its.toArray[i]? = some u := by simpa using hu
      rw [z] at hy
      exact (Option.some.inj hy).symm
    subst hy'
    refine ⟨_, rfl, wpAny_letOwnedTupleGo_enum (s := { s with heap := h', toks := tk + 1 }) ho fun h'' he' sb => ?_⟩
    have hT2 : h''.get? s.heap.objs.size = some { cls := .type "tuple", data := .seq #[.int i tk, y] } := (sb.2 _ (Nat.ne_of_gt hel)).trans hT
    have new : ObjOk X.prog X.w (upd H s.heap.objs.size (.tup [.int (i : Nat), x])) h'' s.heap.objs.size (.tup [.int (i : Nat), x]) :=
      ⟨by show 2 ≤ sizeLine; decide, [.int i tk, y], .cons ⟨_, rfl⟩ (.cons ru .nil), ⟨_, hT2, rfl, _, rfl⟩⟩
    have I1 : Inv X pins σ (upd H s.heap.objs.size (.tup [.int (i : Nat), x])) { s with heap := h'', toks := tk + 1 } :=
      I.turnedNew (ch := [e, it]) (fun b ob hb q => (sb.2 b (fun z => hb (by simp [z]))).trans (hk b ob (fun z => hb (by simp [z])) (fun z => hb (by simp [z])) q)) hf (Nat.le_refl _) new
    refine ⟨.ref s.heap.objs.size, _, I1, rfl, ⟨_, x, rfl, I.hok.fresh (Nat.le_refl _), rfl, fun ys hy => by rw [I.tuple_inj hy hq]; exact hx⟩, ⟨⟨y, ?_⟩, ?_, hne⟩, fun b hb => ?_⟩
    · have e1 : ((i + 1 : Nat) : Int) = (i : Int) + 1 := by omega
      rw [e1]; exact he'
    · obtain ⟨o, q, r⟩ := st'.1
      exact ⟨o, (sb.2 it (Ne.symm hne)).trans q, r⟩
    · have hb' : b < s.heap.objs.size := by
        have z : b = e ∨ b = it := by simpa using hb
        rcases z with z | z
        · rw [z]; exact hel
        · rw [z]; exact hil
      rw [upd_ne (Nat.ne_of_lt hb')]
      exact (hf b hb).1
  done := by
    intro X hP hw hK hc i pins s σ H E I hf st hg
    subst hP hw hK
    obtain ⟨⟨old, he⟩, hit, hne⟩ := st
    obtain ⟨xs, hq, hx⟩ := hg
    obtain ⟨its, rv, p, hz⟩ := I.tuple hq
    obtain ⟨f0, f1, f2, f3, f4, f5⟩ := hf it (by simp)
    have hl := rv.length
    have hat : a ≠ it := fun z => by
      obtain ⟨o, q1, q2, _⟩ := hit
      obtain ⟨o', q3, q4, _⟩ := (show s.heap.IsTuple a its.toArray from p)
      rw [← z, q3] at q1
      cases q1
      rw [q4] at q2
      exact absurd (Value.type.inj q2) (by decide)
    have hn : i = its.toArray.size := by simp; omega
    refine wpAny_pyNext_enum_endD (draws_tup (prog := X.prog) (w := X.w) (A := X.A.in1) (I.ok.hd hc) it a hat its.toArray) he (by rw [hn] at hit; exact ⟨hit, p⟩) fun h' eb => ⟨rfl, ?_⟩
    obtain ⟨g0, g1, g2, g3, g4, g5⟩ := hf e (by simp)
    obtain ⟨f0, f1, f2, f3, f4, f5⟩ := hf it (by simp)
    exact I.turned (t' := s.toks) (fun b o hb q => eb b o hb q) f0 f1 f3 f4 f5
  self := fun A i s Q E st h => let ⟨⟨_, he⟩, _⟩ := st; wpAny_pyIter_enum he h
def iEnumT (K : PySem.W.Frag) (ta : TA) : TI := fun σ H R => ta σ H fun vs H1 => ∃ a xs, vs = [.ref a] ∧ SqT K H1 a xs ∧ R (IteT K a) H1
theorem pi_enumT {X : Cx} {e : Expr} {ta : TA} {p pos tpos : Pos} {elts : List Expr} {kk : Nat} (hg : Gl X "enumerate") (hm : X.mg "enumerate" = none) (ha : PA X [e] ta) (hs : starEach [e] X.env = [(false, eval e X.env)] := by rfl) :
    PI X (.Tuple elts kk tpos) (.Call (.Name "enumerate" p) [e] [] pos) (iEnumT X.K ta) := by
  refine ⟨fun pins s σ H R I h => ?_⟩
  refine Call_ (ld_blt I hg hm boot_enumerate (PyProof.Rows.callWith_type1 (thn (ha.run pos pins s σ H _ I h) fun us s1 ⟨vs, H1, I1, r1, q1⟩ => ?_) hs rfl))
  obtain ⟨a, xs, ex, hq, q⟩ := q1
  subst ex
  cases r1 with
  | cons r rr =>
    cases rr
    cases r
    obtain ⟨its, rv, p', hz⟩ := I1.tuple hq
    refine call_enum_tup (show s1.heap.IsTuple a its.toArray from p') fun h' he hit hsz hk => wpAny_pyIter_enum he ?_
    have I2 : Inv X pins σ H1 { s1 with heap := h' } := I1.kept (t' := s1.toks) hk
    refine ⟨s1.heap.objs.size + 1, [s1.heap.objs.size + 1, s1.heap.objs.size], _, _, H1, rfl, I2, turn_enumT a (s1.heap.objs.size + 1) s1.heap.objs.size, ⟨⟨.none, he⟩, hit, Nat.succ_ne_self _⟩, fun b hb => ?_, q⟩
    have z : b = s1.heap.objs.size + 1 ∨ b = s1.heap.objs.size := by simpa using hb
    have hle : s1.heap.objs.size ≤ b := by
      rcases z with z | z
      · rw [z]; exact Nat.le_add_right _ _
      · rw [z]; exact Nat.le_refl _
    exact I1.fpOk hle (I1.hok.fresh hle)
/-- a loop over enumerate of a list that stands still -/
theorem for_enum {K : PySem.W.Frag} {a : Addr} {xs : List V} {g : TG} {tb : TS} {D : Ends} {σ : L2.St} {H : Hp} (Pv : Nat → L2.St → Hp → Prop) (h0 : Pv 0 σ H) (hl : ∀ i σ H, i ≤ xs.length → Pv i σ H → SqL K H a xs)
    (hs : ∀ i x σ H (T : Addr), xs[i]? = some x → Pv i σ H → H T = none → g (.ref T) σ (upd H T (.tup [.int (i : Nat), x])) fun σ2 H2 => tb { D with nx := Pv (i + 1), ct := Pv (i + 1), bk := D.nx } σ2 H2) (hd : ∀ σ H, Pv xs.length σ H → D.nx σ H) :
    ∃ W : Nat → Nat → L2.St → Hp → Prop, (∃ m, W 0 m σ H) ∧ ∀ i m σ H, W i m σ H →
      ((Ite K a).stop i H ∧ D.nx σ H) ∨ ((Ite K a).go i H ∧ ∃ N : L2.St → Hp → Prop, (∀ σ' H', N σ' H' → ∃ m', m' < m ∧ W (i + 1) m' σ' H') ∧ ∀ x H', (Ite K a).yld i H x H' → g x σ H' fun σ2 H2 => tb { D with nx := N, ct := N, bk := D.nx } σ2 H2) := by
  refine ⟨fun i m σ H => m = xs.length - i ∧ i ≤ xs.length ∧ Pv i σ H, ⟨xs.length, by simp, Nat.zero_le _, h0⟩, ?_⟩
  rintro i m σ H ⟨rfl, hi, p⟩
  have q := hl i σ H hi p
  by_cases lt : i < xs.length
  · refine .inr ⟨⟨xs, xs[i], q, by simp [lt]⟩, Pv (i + 1), fun σ' H' p' => ⟨xs.length - (i + 1), by omega, rfl, lt, p'⟩, fun x H' y => ?_⟩
    obtain ⟨T, z, rfl, hT, rfl, y⟩ := y
    exact hs i z σ H T (y xs q) p hT
  · have e : i = xs.length := by omega
    subst e
    exact .inl ⟨⟨xs, q, Nat.le_refl _⟩, hd σ H p⟩
theorem for_enumT {K : PySem.W.Frag} {a : Addr} {xs : List V} {g : TG} {tb : TS} {D : Ends} {σ : L2.St} {H : Hp} (Pv : Nat → L2.St → Hp → Prop) (h0 : Pv 0 σ H) (hl : ∀ i σ H, i ≤ xs.length → Pv i σ H → SqT K H a xs)
    (hs : ∀ i x σ H (T : Addr), xs[i]? = some x → Pv i σ H → H T = none → g (.ref T) σ (upd H T (.tup [.int (i : Nat), x])) fun σ2 H2 => tb { D with nx := Pv (i + 1), ct := Pv (i + 1), bk := D.nx } σ2 H2) (hd : ∀ σ H, Pv xs.length σ H → D.nx σ H) :
    ∃ W : Nat → Nat → L2.St → Hp → Prop, (∃ m, W 0 m σ H) ∧ ∀ i m σ H, W i m σ H →
      ((IteT K a).stop i H ∧ D.nx σ H) ∨ ((IteT K a).go i H ∧ ∃ N : L2.St → Hp → Prop, (∀ σ' H', N σ' H' → ∃ m', m' < m ∧ W (i + 1) m' σ' H') ∧ ∀ x H', (IteT K a).yld i H x H' → g x σ H' fun σ2 H2 => tb { D with nx := N, ct := N, bk := D.nx } σ2 H2) := by
  refine ⟨fun i m σ H => m = xs.length - i ∧ i ≤ xs.length ∧ Pv i σ H, ⟨xs.length, by simp, Nat.zero_le _, h0⟩, ?_⟩
  rintro i m σ H ⟨rfl, hi, p⟩
  have q := hl i σ H hi p
  by_cases lt : i < xs.length
  · refine .inr ⟨⟨xs, xs[i], q, by simp [lt]⟩, Pv (i + 1), fun σ' H' p' => ⟨xs.length - (i + 1), by omega, rfl, lt, p'⟩, fun x H' y => ?_⟩
    obtain ⟨T, z, rfl, hT, rfl, y⟩ := y
    exact hs i z σ H T (y xs q) p hT
  · have e : i = xs.length := by omega
    subst e
    exact .inl ⟨⟨xs, q, rfl⟩, hd σ H p⟩
/-! ### a row: a list or a tuple -/
def SqR (K : PySem.W.Frag) (H : Hp) (a : Addr) (xs : List V) : Prop := SqL K H a xs ∨ SqT K H a xs
theorem same_tup {K : PySem.W.Frag} {H H' : Hp} {a : Addr} {xs : List V} (e : Same H H') (h : SqT K H a xs) : SqT K H' a xs := by
  rcases h with (h | ⟨o, h⟩) | h
  · exact .inl (.inl (e _ _ h))
  · exact .inl (.inr ⟨o, e _ _ h⟩)
  · exact .inr h
theorem SqR.same {K : PySem.W.Frag} {H H' : Hp} {a : Addr} {xs : List V} (e : Same H H') (h : SqR K H a xs) : SqR K H' a xs := h.imp e.seq (same_tup e)
/-- a loop over a row that stands still -/
theorem for_row {K : PySem.W.Frag} {a : Addr} {xs : List V} {g : TG} {tb : TS} {D : Ends} {σ : L2.St} {H : Hp} {ta : TE} (ea : ∀ Q, Q (.ref a) H → ta σ H Q) (Pv : Nat → L2.St → Hp → Prop) {Hb : Hp} (hr : SqR K Hb a xs) (h0 : Pv 0 σ H) (hl : ∀ i σ H', i ≤ xs.length → Pv i σ H' → Same Hb H')
    (hs : ∀ i x σ H, xs[i]? = some x → Pv i σ H → g x σ H fun σ2 H2 => tb { D with nx := Pv (i + 1), ct := Pv (i + 1), bk := D.nx } σ2 H2) (hd : ∀ σ H, Pv xs.length σ H → D.nx σ H) :
    tFor (fun σ H R => iList K ta σ H R ∨ iTup K ta σ H R) g tb D σ H := by
  rcases hr with hr | hr
  · exact .inl (ea _ ⟨a, rfl, ⟨_, (hl 0 σ H (Nat.zero_le _) h0).seq hr⟩, for_list (K := K) (a := a) (xs := xs) Pv h0 (fun i σ H' hi p => (hl i σ H' hi p).seq hr) hs hd⟩)
  · exact .inr (ea _ ⟨a, rfl, ⟨_, same_tup (hl 0 σ H (Nat.zero_le _) h0) hr⟩, for_tup (K := K) (a := a) (xs := xs) Pv h0 (fun i σ H' hi p => same_tup (hl i σ H' hi p) hr) hs hd⟩)
/-- .. over enumerate of a row -/
theorem for_enumR {K : PySem.W.Frag} {a : Addr} {xs : List V} {g : TG} {tb : TS} {D : Ends} {σ : L2.St} {H : Hp} {ta : TA} (ea : ∀ Q, Q [.ref a] H → ta σ H Q) (Pv : Nat → L2.St → Hp → Prop) {Hb : Hp} (hr : SqR K Hb a xs) (h0 : Pv 0 σ H) (hl : ∀ i σ H', i ≤ xs.length → Pv i σ H' → Same Hb H')
    (hs : ∀ i x σ H (T : Addr), xs[i]? = some x → Pv i σ H → H T = none → g (.ref T) σ (upd H T (.tup [.int (i : Nat), x])) fun σ2 H2 => tb { D with nx := Pv (i + 1), ct := Pv (i + 1), bk := D.nx } σ2 H2) (hd : ∀ σ H, Pv xs.length σ H → D.nx σ H) :
    tFor (fun σ H R => iEnum K ta σ H R ∨ iEnumT K ta σ H R) g tb D σ H := by
  rcases hr with hr | hr
  · exact .inl (ea _ ⟨a, _, rfl, (hl 0 σ H (Nat.zero_le _) h0).seq hr, for_enum (K := K) (a := a) (xs := xs) Pv h0 (fun i σ H' hi p => (hl i σ H' hi p).seq hr) hs hd⟩)
  · exact .inr (ea _ ⟨a, _, rfl, same_tup (hl 0 σ H (Nat.zero_le _) h0) hr, for_enumT (K := K) (a := a) (xs := xs) Pv h0 (fun i σ H' hi p => same_tup (hl i σ H' hi p) hr) hs hd⟩)
theorem ty_L {K : PySem.W.Frag} {H : Hp} {a : Addr} {xs : List V} (h : SqL K H a xs) : TyX K H (.ref a) (.type "list") := by
  rcases h with (h | ⟨o, h⟩) | ⟨o, its, n, h1, h2, _⟩
  · exact .base (.lst h)
  · exact .base (.frz h)
  · exact .kList h1 h2
theorem ty_T {K : PySem.W.Frag} {H : Hp} {a : Addr} {xs : List V} (h : SqT K H a xs) : TyX K H (.ref a) (.type "tuple") := by
  rcases h with (h | ⟨o, h⟩) | ⟨o, its, n, h1, h2, _⟩
  · exact .base (.tup h)
  · exact .fTuple h
  · exact .kTuple h1 h2
/-- isinstance(row, (list, tuple)) -/
theorem isRow {K : PySem.W.Frag} {H : Hp} {a tp : Addr} {xs : List V} {Q : VK} (h : SqR K H a xs) (ht : H tp = some (.tup [.ty "list", .ty "tuple"])) (q : Q (.bl true) H) : rIsiT K [.ref a, .ref tp] H Q := by
  have pc : Paired ClsV [.ty "list", .ty "tuple"] [.type "list", .type "tuple"] := .cons (.ty _) (.cons (.ty _) .nil)
  rcases h with h | h
  · exact ⟨_, tp, _, _, _, true, rfl, ht, pc, ty_L h, kitAny_cons (kit_ty (r := true) (by decide +kernel)) (fun z => nomatch z) (fun _ => rfl), q⟩
  · exact ⟨_, tp, _, _, _, true, rfl, ht, pc, ty_T h, kitAny_cons (kit_ty (r := false) (by decide +kernel)) (fun _ => kitAny_cons (kit_ty (r := true) (by decide +kernel)) (fun z => nomatch z) (fun _ => rfl)) (fun z => nomatch z), q⟩
theorem sortedR {K : PySem.W.Frag} {H : Hp} {a : Addr} {ns : List Int} {Q : VK} (hp : SqR K H a (ns.map V.int)) (h : ∀ (ms : List Int) (p : Addr) (G : Hp), ms.Perm ns → ms.Pairwise (· ≤ ·) → G p = some (.lst (ms.map V.int)) → Same H G → H p = none → Q (.ref p) G) : rSortedI K [.ref a] H Q ∨ rSortedTup K [.ref a] H Q :=
  hp.imp (fun q => Rd.sortedI q h) fun q => ⟨a, ns, rfl, q, fun ms p h1 h2 h3 => h ms p _ h1 h2 upd_same (fun b u e => by rw [upd_ne (ne_of_none e h3)]; exact e) h3⟩
end Ru

/-! Readings of texts, comprehensions and own objects by their heads; letters. -/
namespace Rd
open PySem PySem.Spec PyProof.Rows L2
variable {X : Cx} {D : Ends} {σ : L2.St} {H : Hp} {K : PySem.W.Frag}
/-! ### texts -/
def nAddS : R2 := fun x y H Q => ∃ i j, x = .str i ∧ y = .str j ∧ i.length + j.length ≤ sizeLine ∧ Q (.str (i ++ j)) H
theorem o_addS : OpR X (binaryOp .Add) nAddS := op_add_str
theorem addS {i j : Str} {Q : VK} (hz : i.length + j.length ≤ sizeLine) (h : Q (.str (i ++ j)) H) : nAddS (.str i) (.str j) H Q := ⟨i, j, rfl, rfl, hz, h⟩
def nInC : R2 := fun x y H Q => ∃ (c : Nat) (z : Str), x = .str ⟨#[c]⟩ ∧ y = .str z ∧ Q (.bl (decide (c ∈ z.cps.toList))) H
theorem o_inC : OpR X (compareOp .In) nInC := op_in_sign
theorem inC {c : Nat} {z : Str} {Q : VK} (h : Q (.bl (decide (c ∈ z.cps.toList))) H) : nInC (.str ⟨#[c]⟩) (.str z) H Q := ⟨c, z, rfl, rfl, h⟩
theorem inCT {c : Nat} {z : Str} {Q : VK} (e : c ∈ z.cps.toList) (h : Q (.bl true) H) : nInC (.str ⟨#[c]⟩) (.str z) H Q := inC (by rw [decide_eq_true e]; exact h)
theorem nodup_take {α : Type} {l : List α} {i : Nat} {x : α} (nd : l.Nodup) (h : l[i]? = some x) : x ∉ l.take i := by
  intro m
  obtain ⟨j, hj, e⟩ := List.getElem_of_mem m
  rw [List.length_take] at hj
  have e2 : l[j]? = some x := by rw [← e, List.getElem_take]; exact List.getElem?_eq_getElem (by omega)
  have := (List.getElem?_inj (by omega) nd).mp (e2.trans h.symm)
  omega
theorem ixS {z : Str} {i : Int} {c : Nat} {Q : VK} (hz : z.length ≤ sizeLine) (e : atI z.cps.toList i = some c) (h : Q (.str ⟨#[c]⟩) H) : rIxS (.str z) (.int i) H Q := ⟨z, i, c, rfl, rfl, hz, e, h⟩
theorem inStrs {neg : Bool} {z : Str} {p : Addr} {ws : List Str} {Q : VK} (hp : SqL K H p (ws.map V.str) ∨ SqT K H p (ws.map V.str)) (h : Q (.bl (if neg then !decide (z ∈ ws) else decide (z ∈ ws))) H) : rIn K neg (.str z) (.ref p) H Q := by
  have e : inV (.str z) (ws.map V.str) = decide (z ∈ ws) := by
    unfold inV
    rw [List.any_map, Bool.eq_iff_iff, List.any_eq_true, decide_eq_true_iff]
    constructor
    · rintro ⟨y, hy, q⟩
      have : y = z := by simpa [eqV] using q
      exact this ▸ hy
    · intro hz
      exact ⟨z, hz, by simp [eqV]⟩
  exact Rd.inS hp rfl (flat_strs ws) (by rw [e]; exact h)
theorem inStrsY {z : Str} {p : Addr} {ws : List Str} {Q : VK} (hp : SqL K H p (ws.map V.str) ∨ SqT K H p (ws.map V.str)) (h : Q (.bl (decide (z ∈ ws))) H) : rIn K false (.str z) (.ref p) H Q := inStrs hp h
theorem inStrsN {z : Str} {p : Addr} {ws : List Str} {Q : VK} (hp : SqL K H p (ws.map V.str) ∨ SqT K H p (ws.map V.str)) (h : Q (.bl (!decide (z ∈ ws))) H) : rIn K true (.str z) (.ref p) H Q := inStrs hp h
theorem inInts {neg : Bool} {z : Int} {p : Addr} {ws : List Int} {Q : VK} (hp : SqL K H p (ws.map V.int) ∨ SqT K H p (ws.map V.int)) (h : Q (.bl (if neg then !decide (z ∈ ws) else decide (z ∈ ws))) H) : rIn K neg (.int z) (.ref p) H Q := by
  have e : inV (.int z) (ws.map V.int) = decide (z ∈ ws) := by
    unfold inV
    rw [List.any_map, Bool.eq_iff_iff, List.any_eq_true, decide_eq_true_iff]
    constructor
    · rintro ⟨y, hy, q⟩
      have : y = z := by simpa [eqV] using q
      exact this ▸ hy
    · intro hz
      exact ⟨z, hz, by simp [eqV]⟩
  exact Rd.inS hp rfl (by rw [List.all_map]; exact List.all_eq_true.mpr fun _ _ => rfl) (by rw [e]; exact h)
theorem inIntsY {z : Int} {p : Addr} {ws : List Int} {Q : VK} (hp : SqL K H p (ws.map V.int) ∨ SqT K H p (ws.map V.int)) (h : Q (.bl (decide (z ∈ ws))) H) : rIn K false (.int z) (.ref p) H Q := inInts hp h
theorem inIntsN {z : Int} {p : Addr} {ws : List Int} {Q : VK} (hp : SqL K H p (ws.map V.int) ∨ SqT K H p (ws.map V.int)) (h : Q (.bl (!decide (z ∈ ws))) H) : rIn K true (.int z) (.ref p) H Q := inInts hp h
theorem map_str {ns : List Str} {i : Nat} (h : i < ns.length) : (ns.map V.str)[i]? = some (.str ns[i]) := by simp [h]
theorem map_strG {ns : List Str} {i : Nat} {x : V} (h : (ns.map V.str)[i]? = some x) : ∃ n, ns[i]? = some n ∧ x = .str n := by
  rw [List.getElem?_map] at h
  cases e : ns[i]? with
  | none => rw [e] at h; cases h
  | some z => rw [e] at h; exact ⟨z, rfl, (Option.some.inj h).symm⟩
theorem map_refG {ns : List Addr} {i : Nat} {x : V} (h : (ns.map V.ref)[i]? = some x) : ∃ n, ns[i]? = some n ∧ x = .ref n := by
  rw [List.getElem?_map] at h
  cases e : ns[i]? with
  | none => rw [e] at h; cases h
  | some z => rw [e] at h; exact ⟨z, rfl, (Option.some.inj h).symm⟩
theorem map_ref {ns : List Addr} {i : Nat} (h : i < ns.length) : (ns.map V.ref)[i]? = some (.ref ns[i]) := by simp [h]
theorem ins {l : Addr} {xs : List V} {i : Int} {y : V} {Q : VK} (hp : H l = some (.lst xs)) (hz : xs.length < sizeLine) (h0 : 0 ≤ i) (h1 : i < 2 ^ 63) (h : ∀ G : Hp, G l = some (.lst (xs.take i.toNat ++ [y] ++ xs.drop i.toNat)) → (∀ b, b ≠ l → G b = H b) → Q .non G) :
    ∃ (l' : Addr) (xs' : List V) (i' : Int) (y' : V), V.ref l = .ref l' ∧ [V.int i, y] = [.int i', y'] ∧ H l' = some (.lst xs') ∧ xs'.length < sizeLine ∧ 0 ≤ i' ∧ i' < 2 ^ 63 ∧ Q .non (upd H l' (.lst (xs'.take i'.toNat ++ [y'] ++ xs'.drop i'.toNat))) :=
  ⟨l, xs, i, y, rfl, rfl, hp, hz, h0, h1, h _ upd_same fun b hb => upd_ne hb⟩
def nInsert : V → List V → Hp → VK → Prop := fun x vs H Q => ∃ (l : Addr) (xs : List V) (i : Int) (y : V), x = .ref l ∧ vs = [.int i, y] ∧ H l = some (.lst xs) ∧ xs.length < sizeLine ∧ 0 ≤ i ∧ i < 2 ^ 63 ∧
    Q .non (upd H l (.lst (xs.take i.toNat ++ [y] ++ xs.drop i.toNat)))
theorem m_insert : MtR X "list.insert" nInsert := mt_insert
theorem insert {l : Addr} {xs : List V} {i : Int} {y : V} {Q : VK} (hp : H l = some (.lst xs)) (hz : xs.length < sizeLine) (h0 : 0 ≤ i) (h1 : i < 2 ^ 63) (h : ∀ G : Hp, G l = some (.lst (xs.take i.toNat ++ [y] ++ xs.drop i.toNat)) → (∀ b, b ≠ l → G b = H b) → Q .non G) : nInsert (.ref l) [.int i, y] H Q :=
  ins hp hz h0 h1 h
/-! ### equal lists of texts -/
theorem dpAll_strs : ∀ ns : List Str, DpAll K H (ns.map V.str) (ns.map PyData.str)
  | [] => .nil
  | n :: ns => .cons (.str n) (dpAll_strs ns)
theorem canLay_strs : ∀ ns : List Str, (∀ z ∈ ns, PyData.strOk z = true) → PyData.canLayAll0 (ns.map PyData.str) = true
  | [], _ => rfl
  | n :: ns, h => by
    show (PyData.canLay0 (.str n) && PyData.canLayAll0 (ns.map PyData.str)) = true
    rw [canLay_strs ns fun z hz => h z (List.mem_cons_of_mem _ hz)]
    show (PyData.strOk n && true) = true
    rw [h n List.mem_cons_self]
    rfl
theorem depth_strs : ∀ ns : List Str, PyData.depthAll (ns.map PyData.str) = 0
  | [] => rfl
  | n :: ns => by
    show max (PyData.depth (.str n)) (PyData.depthAll (ns.map PyData.str)) = 0
    rw [depth_strs ns]
    rfl
theorem shaped_strs {ns : List Str} (h : ∀ z ∈ ns, PyData.strOk z = true) : SeqAt.shaped (.list (ns.map PyData.str)) = true := by
  have h1 : PyData.canLay0 (.list (ns.map PyData.str)) = true := canLay_strs ns h
  have h2 : PyData.depth (.list (ns.map PyData.str)) = 1 := by
    show PyData.depthAll (ns.map PyData.str) + 1 = 1
    rw [depth_strs]
  unfold SeqAt.shaped
  rw [h1, h2]
  rfl
theorem eqStrs {a b : Addr} {ns : List Str} {Q : VK} (h1 : SqL K H a (ns.map V.str)) (h2 : SqL K H b (ns.map V.str)) (h : ∀ z ∈ ns, PyData.strOk z = true) (q : Q (.bl true) H) : rEqD K (.ref a) (.ref b) H Q := by
  refine ⟨_, _, .lst h1 (dpAll_strs ns), .lst h2 (dpAll_strs ns), shaped_strs h, shaped_strs h, ?_⟩
  rw [SeqAt.eqv_refl _ (SeqAt.canLay_of_shaped (shaped_strs h))]
  exact q
theorem neStrs {a b : Addr} {ns : List Str} {Q : VK} (h1 : SqL K H a (ns.map V.str)) (h2 : SqL K H b (ns.map V.str)) (h : ∀ z ∈ ns, PyData.strOk z = true) (q : Q (.bl false) H) : rNeD K (.ref a) (.ref b) H Q := by
  refine ⟨_, _, .lst h1 (dpAll_strs ns), .lst h2 (dpAll_strs ns), shaped_strs h, shaped_strs h, ?_⟩
  rw [SeqAt.eqv_refl _ (SeqAt.canLay_of_shaped (shaped_strs h))]
  exact q
/-! ### equal lists of ints -/
theorem dpAll_ints : ∀ ns : List Int, DpAll K H (ns.map V.int) (ns.map PyData.int)
  | [] => .nil
  | n :: ns => .cons (.int n) (dpAll_ints ns)
theorem canLay_ints : ∀ ns : List Int, PyData.canLayAll0 (ns.map PyData.int) = true
  | [] => rfl
  | n :: ns => by
    show (PyData.canLay0 (.int n) && PyData.canLayAll0 (ns.map PyData.int)) = true
    rw [canLay_ints ns]
    rfl
theorem depth_ints : ∀ ns : List Int, PyData.depthAll (ns.map PyData.int) = 0
  | [] => rfl
  | n :: ns => by
    show max (PyData.depth (.int n)) (PyData.depthAll (ns.map PyData.int)) = 0
    rw [depth_ints ns]
    rfl
theorem shaped_ints (ns : List Int) : SeqAt.shaped (.list (ns.map PyData.int)) = true := by
  have h1 : PyData.canLay0 (.list (ns.map PyData.int)) = true := canLay_ints ns
  have h2 : PyData.depth (.list (ns.map PyData.int)) = 1 := by
    show PyData.depthAll (ns.map PyData.int) + 1 = 1
    rw [depth_ints]
  unfold SeqAt.shaped
  rw [h1, h2]
  rfl
theorem eqv_ints : ∀ (xs ys : List Int), PyData.eqvAll (xs.map PyData.int) (ys.map PyData.int) = decide (xs = ys)
  | [], [] => rfl
  | [], _ :: _ => rfl
  | _ :: _, [] => rfl
  | x :: xs, y :: ys => by
    show (PyData.eqv (.int x) (.int y) && PyData.eqvAll (xs.map PyData.int) (ys.map PyData.int)) = _
    rw [eqv_ints xs ys, Bool.eq_iff_iff]
    show ((x == y) && decide (xs = ys)) = true ↔ _
    simp
theorem eqInts {a b : Addr} {ns ms : List Int} {Q : VK} (h1 : SqL K H a (ns.map V.int)) (h2 : SqL K H b (ms.map V.int)) (q : Q (.bl (decide (ns = ms))) H) : rEqD K (.ref a) (.ref b) H Q := by
  refine ⟨_, _, .lst h1 (dpAll_ints ns), .lst h2 (dpAll_ints ms), shaped_ints ns, shaped_ints ms, ?_⟩
  show Q (.bl (PyData.eqvAll (ns.map PyData.int) (ms.map PyData.int))) H
  rw [eqv_ints]
  exact q
theorem neInts {a b : Addr} {ns ms : List Int} {Q : VK} (h1 : SqL K H a (ns.map V.int)) (h2 : SqL K H b (ms.map V.int)) (q : Q (.bl (!decide (ns = ms))) H) : rNeD K (.ref a) (.ref b) H Q := by
  refine ⟨_, _, .lst h1 (dpAll_ints ns), .lst h2 (dpAll_ints ms), shaped_ints ns, shaped_ints ms, ?_⟩
  show Q (.bl (!PyData.eqvAll (ns.map PyData.int) (ms.map PyData.int))) H
  rw [eqv_ints]
  exact q
/-! ### comprehensions -/
def Lc (J : It) (g : TG) (tt : TT) (te : TE) (vs : List Nat) (σ : L2.St) (H1 : Hp) (Q : VK) : Prop := ∀ D, H1 D = none → ∃ W : Nat → Nat → Hp → Prop, (∃ m, W 0 m (upd H1 D (.lst []))) ∧ ∀ i m H, W i m H →
  (J.stop i H ∧ Q (.ref D) H) ∨ (J.go i H ∧ ∃ Nx : Hp → Prop, (∀ H', Nx H' → ∃ m', m' < m ∧ W (i + 1) m' H') ∧ ∀ x H', J.yld i H x H' → g x (wipe σ vs) H' fun σ2 H2 => wipe σ2 vs = wipe σ vs ∧ tt σ2 H2 fun b H3 =>
    if b = true then te σ2 H3 fun y H4 => ∃ acc, H4 D = some (.lst acc) ∧ acc.length < sizeLine ∧ Nx (upd H4 D (.lst (acc ++ [y]))) else Nx H3)
theorem lc {wi : TI} {g : TG} {tt : TT} {te : TE} {vs : List Nat} {Q : VK} (h : wi σ H fun J H1 => Lc J g tt te vs σ H1 Q) : tLc wi g tt te vs σ H Q := h
theorem istr {te : TE} {R : It → Hp → Prop} (h : te σ H fun v H1 => ∃ x, v = .str x ∧ R (Its x) H1) : iStr te σ H R := h
theorem strE {z : Str} {P : Str → Prop} (h : P z) : ∃ x, V.str z = .str x ∧ P x := ⟨z, rfl, h⟩
theorem tyes {Q : Bool → Hp → Prop} (h : Q true H) : tYes σ H Q := h
/-- the state of a comprehension: the list at D holds acc, all ahead of it stands -/
def LcP (D : Addr) (H1 : Hp) (R : Nat → List V → Hp → Prop) : Nat → Hp → Prop := fun i H => ∃ acc, H D = some (.lst acc) ∧ Same H1 H ∧ R i acc H
def LcPush (D : Addr) (H1 : Hp) (R : Nat → List V → Hp → Prop) (i : Nat) (y : V) (H4 : Hp) : Prop := ∃ acc, H4 D = some (.lst acc) ∧ acc.length < sizeLine ∧ LcP D H1 R (i + 1) (upd H4 D (.lst (acc ++ [y])))
theorem lcPush {D : Addr} {H1 H4 : Hp} {R : Nat → List V → Hp → Prop} {i : Nat} {y : V} {acc : List V} (hD : H4 D = some (.lst acc)) (nD : H1 D = none) (s1 : Same H1 H4) (hz : acc.length < sizeLine) (r : ∀ G : Hp, G D = some (.lst (acc ++ [y])) → (∀ b, b ≠ D → G b = H4 b) → R (i + 1) (acc ++ [y]) G) : LcPush D H1 R i y H4 :=
  ⟨acc, hD, hz, acc ++ [y], upd_same, fun b o e => by rw [upd_ne (ne_of_none e nD)]; exact s1 b o e, r _ upd_same fun b hb => upd_ne hb⟩
theorem lcS {J : It} {n : Nat} {G : Hp → Prop} {Y : Nat → Hp → V → Hp → Prop} (w : Walk J n G Y) {g : TG} {tt : TT} {te : TE} {vs : List Nat} {H1 : Hp} {Q : VK} (hG : ∀ H, Same H1 H → G H) (R : Addr → Nat → List V → Hp → Prop)
    (r0 : ∀ (D : Addr) (G : Hp), H1 D = none → G D = some (.lst []) → Same H1 G → R D 0 [] G)
    (hs : ∀ (D : Addr) i x H H' acc, H1 D = none → i < n → H D = some (.lst acc) → Same H1 H → R D i acc H → Y i H x H' → g x (wipe σ vs) H' fun σ2 H2 => wipe σ2 vs = wipe σ vs ∧ tt σ2 H2 fun b H3 =>
      if b = true then te σ2 H3 fun y H4 => LcPush D H1 (R D) i y H4 else LcP D H1 (R D) (i + 1) H3)
    (hd : ∀ (D : Addr) acc H, H1 D = none → H D = some (.lst acc) → Same H1 H → R D n acc H → Q (.ref D) H) : Lc J g tt te vs σ H1 Q := fun D nD =>
  lc_it w (LcP D H1 (R D)) ⟨[], upd_same, same_upd nD, r0 D _ nD upd_same (same_upd nD)⟩ (fun i H hi ⟨acc, h1, h2, h3⟩ => hG H h2)
    (fun i x H H' hi ⟨acc, h1, h2, h3⟩ y => hs D i x H H' acc nD hi h1 h2 h3 y) (fun H ⟨acc, h1, h2, h3⟩ => hd D acc H nD h1 h2 h3)
/-- .. over a row: a list or a tuple -/
theorem lcRow {a : Addr} {xs : List V} {ta : TE} {g : TG} {tt : TT} {te : TE} {vs : List Nat} {H1 : Hp} {Q : VK} (ea : ∀ Q : VK, Q (.ref a) H1 → ta σ H1 Q) (hr : Ru.SqR K H1 a xs) (R : Addr → Nat → List V → Hp → Prop)
    (r0 : ∀ (D : Addr) (G : Hp), H1 D = none → G D = some (.lst []) → Same H1 G → R D 0 [] G)
    (hs : ∀ (D : Addr) i x H acc, H1 D = none → i < xs.length → H D = some (.lst acc) → Same H1 H → R D i acc H → xs[i]? = some x → g x (wipe σ vs) H fun σ2 H2 => wipe σ2 vs = wipe σ vs ∧ tt σ2 H2 fun b H3 =>
      if b = true then te σ2 H3 fun y H4 => LcPush D H1 (R D) i y H4 else LcP D H1 (R D) (i + 1) H3)
    (hd : ∀ (D : Addr) acc H, H1 D = none → H D = some (.lst acc) → Same H1 H → R D xs.length acc H → Q (.ref D) H) : (fun σ H R => iList K ta σ H R ∨ iTup K ta σ H R) σ H1 fun J H1 => Lc J g tt te vs σ H1 Q := by
  rcases hr with hr | hr
  · exact .inl (ea _ ⟨a, rfl, ⟨_, hr⟩, lcS walk_list (fun _ s => s.seq hr) R r0 (fun D i x H H' acc nD hi hD sm r ⟨e, hx⟩ => by cases e; exact hs D i x H acc nD hi hD sm r hx) hd⟩)
  · exact .inr (ea _ ⟨a, rfl, ⟨_, hr⟩, lcS walk_tup (fun _ s => Ru.same_tup s hr) R r0 (fun D i x H H' acc nD hi hD sm r ⟨e, hx⟩ => by cases e; exact hs D i x H acc nD hi hD sm r hx) hd⟩)
theorem wipeE {A B : L2.St} {P : Prop} (e : A = B) (h : P) : A = B ∧ P := ⟨e, h⟩
/-! ### list(range(..)) -/
theorem lstRg {te : L2.St → Hp → (Int → Int → Hp → Prop) → Prop} {Q : VK} (h : te σ H fun a b H1 => RgOk a b ∧ NewQ (.lst (rgV a b)) Q H1) : tLstRg te σ H Q := h
theorem tupRg {te : L2.St → Hp → (Int → Int → Hp → Prop) → Prop} {Q : VK} (h : te σ H fun a b H1 => RgOk a b ∧ NewQ (.tup (rgV a b)) Q H1) : tTupRg te σ H Q := h
theorem rg1 {ta : TE} {Q : Int → Int → Hp → Prop} (h : ta σ H fun x H1 => ∃ n, x = .int n ∧ Q 0 n H1) : tRg1 ta σ H Q := h
theorem rg2 {ta tb : TE} {Q : Int → Int → Hp → Prop} (h : ta σ H fun x H1 => tb σ H1 fun y H2 => ∃ i j, x = .int i ∧ y = .int j ∧ Q i j H2) : tRg2 ta tb σ H Q := h
theorem intE2 {i j : Int} {P : Int → Int → Prop} (h : P i j) : ∃ a b, V.int i = .int a ∧ V.int j = .int b ∧ P a b := ⟨i, j, rfl, rfl, h⟩
theorem rgV0 (n : Nat) : rgV 0 (n : Int) = ((List.range n).map fun i : Nat => (i : Int)).map V.int := by
  unfold rgV
  rw [List.map_map, show ((n : Int) - 0).toNat = n by omega]
  refine List.map_congr_left fun i _ => ?_
  show V.int (0 + (i : Nat)) = V.int (i : Int)
  rw [Int.zero_add]
/-! ### dicts with ints as keys -/
theorem dnew {Q : VK} (h : ∀ (p : Addr) (G : Hp), H p = none → G p = some (.dK []) → Same H G → Q (.ref p) G) : tDNewK σ H Q :=
  fun p hp => h p _ hp upd_same fun b u e => by rw [upd_ne (ne_of_none e hp)]; exact e
theorem dgetH {td ty : TE} {Q : VK} (h : td σ H fun x H1 => ty σ H1 fun y H2 => ∃ a v, x = .ref a ∧ DGet H2 a y (some v) ∧ Q v H2) : tDGet td ty σ H Q := h
theorem dget {a : Addr} {kvs : List (Key × V)} {k : Int} {v : V} {P : V → Prop} (e : H a = some (.dK kvs)) (hv : valV kvs (.inl k) = some v) (q : P v) : ∃ a' v', V.ref a = .ref a' ∧ DGet H a' (.int k) (some v') ∧ P v' :=
  ⟨a, v, rfl, hv ▸ DGet.k (k := .inl k) e, q⟩
theorem dgetF {a : Addr} {o : Obj} {kvs : List (Key × V)} {k : Int} {v : V} {P : V → Prop} (e : H a = some (.frz o (.dK kvs))) (hv : valV kvs (.inl k) = some v) (q : P v) : ∃ a' v', V.ref a = .ref a' ∧ DGet H a' (.int k) (some v') ∧ P v' :=
  ⟨a, v, rfl, .inl ⟨kvs, .inl k, .inr ⟨o, e⟩, rfl, hv.symm⟩, q⟩
theorem dinH {ty td : TE} {Q : VK} (h : ty σ H fun y H1 => td σ H1 fun x H2 => ∃ a o, x = .ref a ∧ DGet H2 a y o ∧ Q (.bl o.isSome) H2) : tDIn ty td σ H Q := h
theorem dninH {ty td : TE} {Q : VK} (h : ty σ H fun y H1 => td σ H1 fun x H2 => ∃ a o, x = .ref a ∧ DGet H2 a y o ∧ Q (.bl (!o.isSome)) H2) : tDNotIn ty td σ H Q := h
theorem dany {a : Addr} {kvs : List (Key × V)} {k : Int} {P : Option V → Prop} (e : H a = some (.dK kvs)) (q : P (valV kvs (.inl k))) : ∃ a' o, V.ref a = .ref a' ∧ DGet H a' (.int k) o ∧ P o :=
  ⟨a, _, rfl, DGet.k (k := .inl k) e, q⟩
theorem dput {a : Addr} {kvs : List (Key × V)} {k : Int} {v : V} {Q : Hp → Prop} (e : H a = some (.dK kvs)) (hl : kvs.length < sizeLine) (h : ∀ G : Hp, G a = some (.dK (putK kvs (.inl k) v)) → (∀ b, b ≠ a → G b = H b) → Q G) : rSetD (.ref a) (.int k) v H Q :=
  ⟨a, _, rfl, DPut.k (k := .inl k) e hl, h _ upd_same fun b hb => upd_ne hb⟩
theorem dget1H {td ty : TE} {Q : VK} (h : td σ H fun x H1 => ∃ a, x = .ref a ∧ IsD H1 a ∧ ty σ H1 fun y H2 => ∃ o, DGet H2 a y o ∧ Q (o.getD .non) H2) : tDGet1 td ty σ H Q := h
theorem isD {a : Addr} {kvs : List (Key × V)} {P : Addr → Prop} (e : H a = some (.dK kvs)) (q : P a) : ∃ a', V.ref a = .ref a' ∧ IsD H a' ∧ P a' := ⟨a, rfl, .inl ⟨kvs, .inl e⟩, q⟩
theorem dgetO {a : Addr} {kvs : List (Key × V)} {k : Int} {P : Option V → Prop} (e : H a = some (.dK kvs)) (q : P (valV kvs (.inl k))) : ∃ o, DGet H a (.int k) o ∧ P o := ⟨_, DGet.k (k := .inl k) e, q⟩
/-- a for over the keys of a dict that is written nowhere in it -/
theorem forD {td : TE} {g : TG} {tb : TS} {a : Addr} {kvs : List (Key × V)} (hd : H a = some (.dK kvs)) (et : ∀ (H1 : Hp) (Q : VK), Q (.ref a) H1 → td σ H1 Q) (Pv : Nat → L2.St → Hp → Prop)
    (h0 : ∀ od, Pv 0 σ (upd H a (.frz od (.dK kvs)))) (hs : ∀ od i k v σ H, kvs[i]? = some (k, v) → H a = some (.frz od (.dK kvs)) → Pv i σ H → g (kV k) σ H fun σ2 H2 => tb { nx := fun σ' H' => H' a = some (.frz od (.dK kvs)) ∧ Pv (i + 1) σ' H', rt := fun v H' => H' a = some (.frz od (.dK kvs)) ∧ D.rt v (upd H' a (.dK kvs)), bk := fun σ' H' => H' a = some (.frz od (.dK kvs)) ∧ D.nx σ' (upd H' a (.dK kvs)), ct := fun σ' H' => H' a = some (.frz od (.dK kvs)) ∧ Pv (i + 1) σ' H' } σ2 H2)
    (hn : ∀ od σ H, H a = some (.frz od (.dK kvs)) → Pv kvs.length σ H → D.nx σ (upd H a (.dK kvs))) : tLock (tFor (iKeys td) g tb) D σ H := by
  refine ⟨a, .dK kvs, hd, trivial, fun od => ?_⟩
  refine et _ _ ⟨a, od, rfl, .inl ⟨kvs, upd_same, ?_⟩⟩
  exact for_it walk_keys (fun i σ H => H a = some (.frz od (.dK kvs)) ∧ Pv i σ H) ⟨upd_same, h0 od⟩ (fun i σ H _ h => h.1)
    (fun i x σ H H' hi ⟨h1, h2⟩ ⟨e, k, v, hk, hx⟩ => by cases e; cases hx; exact hs od i k v σ H hk h1 h2) (fun σ H ⟨h1, h2⟩ => ⟨h1, hn od σ H h1 h2⟩)
def nListD : List V → Hp → VK → Prop := fun xs H Q => ∃ p kvs, xs = [.ref p] ∧ H p = some (.dK kvs) ∧ ∀ q, H q = none → Q (.ref q) (upd H q (.lst (kvs.map fun kv => kV kv.1)))
theorem listD {a : Addr} {kvs : List (Key × V)} {Q : VK} (e : H a = some (.dK kvs)) (h : NewQ (.lst (kvs.map fun kv => kV kv.1)) Q H) : rListD [.ref a] H Q := ⟨a, kvs, rfl, e, h⟩
/-! ### joins -/
theorem m1 {r : V → List V → Hp → VK → Prop} {to te : TE} {Q : VK} (h : to σ H fun x H1 => (∃ a, x = .str a) ∧ te σ H1 fun y H2 => r x [y] H2 Q) : tM1 r to te σ H Q := h
theorem strX {a : Str} {R : Prop} (h : R) : (∃ b, V.str a = .str b) ∧ R := ⟨⟨a, rfl⟩, h⟩
theorem join {a : Str} {p : Addr} {ys : List Str} {Q : VK} (hp : SqL K H p (ys.map V.str) ∨ SqT K H p (ys.map V.str)) (hz : (ys.map (·.length)).sum + ys.length * a.length ≤ 16777216) (h : Q (.str (Txt.join a ys)) H) :
    ∃ a' p', ∃ ys' : List Str, V.str a = .str a' ∧ [V.ref p] = [.ref p'] ∧ (SqL K H p' (ys'.map V.str) ∨ SqT K H p' (ys'.map V.str)) ∧ (ys'.map (·.length)).sum + ys'.length * a'.length ≤ 16777216 ∧ Q (.str (Txt.join a' ys')) H := ⟨a, p, ys, rfl, rfl, hp, hz, h⟩
/-! ### own objects -/
def FldG (K : PySem.W.Frag) (f : Str) : V → Hp → VK → Prop := fun x H1 Q => ∃ a C dx fs v, x = .ref a ∧ H1 a = some (.ins C dx fs) ∧ Cls K C ∧ NoAttr K C f ∧ fs.lookup f = some v ∧ Q v H1
theorem fldH {ta : TE} {f : Str} {Q : VK} (h : ta σ H fun x H1 => FldG K f x H1 Q) : tFld K ta f σ H Q := h
theorem fld {f : Str} {a C dx : Addr} {fs : List (Str × V)} {v : V} {Q : VK} (e : H a = some (.ins C dx fs)) (c : Cls K C) (n : NoAttr K C f) (l : fs.lookup f = some v) (q : Q v H) : FldG K f (.ref a) H Q := ⟨a, C, dx, fs, v, rfl, e, c, n, l, q⟩
def FldS (K : PySem.W.Frag) (f : Str) (y : V) : V → Hp → (Hp → Prop) → Prop := fun x H2 Q => ∃ a C dx fs, x = .ref a ∧ H2 a = some (.ins C dx fs) ∧ Cls K C ∧ NoAttr K C f ∧ fs.length < 1000 ∧ Q (upd H2 a (.ins C dx (putF f y fs)))
theorem sfldH {ta tv : TE} {f : Str} (h : tv σ H fun y H1 => ta σ H1 fun x H2 => FldS K f y x H2 (D.nx σ)) : sFld K ta tv f D σ H := h
theorem sfld {f : Str} {a C dx : Addr} {fs fs' : List (Str × V)} {y : V} {Q : Hp → Prop} (e : H a = some (.ins C dx fs)) (c : Cls K C) (n : NoAttr K C f) (l : fs.length < 1000) (hf : putF f y fs = fs') (q : ∀ G : Hp, G a = some (.ins C dx fs') → (∀ b, b ≠ a → G b = H b) → Q G) : FldS K f y (.ref a) H Q :=
  ⟨a, C, dx, fs, rfl, e, c, n, l, hf ▸ q _ upd_same fun b hb => upd_ne hb⟩
def MkG (C : Addr) (sp : Sp) (dvs : List V) (E : XK) (vs : List V) (H1 : Hp) (Q : VK) : Prop := ∀ x dx, H1 x = none → H1 dx = none → dx ≠ x → sp (.ref x :: (vs ++ dvs)) (upd (upd H1 dx (.own x)) x (.ins C dx [])) (fun v H2 => v = .non ∧ Q (.ref x) H2) E
theorem mkH {C : Addr} {sp : Sp} {dvs : List V} {E : XK} {t : TA} {Q : VK} (h : t σ H fun vs H1 => MkG C sp dvs E vs H1 Q) : tMake C sp dvs E t σ H Q := h
theorem mk {C : Addr} {sp : Sp} {dvs : List V} {E : XK} {vs : List V} {Q : VK} (h : ∀ (x dx : Addr) (G : Hp), H x = none → H dx = none → dx ≠ x → G x = some (.ins C dx []) → Same H G → (∀ b, b ≠ x → b ≠ dx → G b = H b) → sp (.ref x :: (vs ++ dvs)) G (fun v H2 => v = .non ∧ Q (.ref x) H2) E) : MkG C sp dvs E vs H Q := fun x dx hx hd hne =>
  h x dx _ hx hd hne upd_same (fun b o e => by rw [upd_ne (ne_of_none e hx), upd_ne (ne_of_none e hd)]; exact e) fun b h1 h2 => by rw [upd_ne h1, upd_ne h2]
def MethG (C : Addr) (m : Str) (x : V) (H : Hp) (Q : Prop) : Prop := ∃ a dx fs, x = .ref a ∧ H a = some (.ins C dx fs) ∧ fs.lookup m = none ∧ Q
theorem methH {C : Addr} {m : Str} {sp : Sp} {dvs : List V} {E : XK} {ta : TE} {t : TA} {Q : VK} (h : ta σ H fun x H1 => MethG C m x H1 (t σ H1 fun vs H2 => sp (x :: (vs ++ dvs)) H2 Q E)) : tMeth C m sp dvs E ta t σ H Q := h
theorem meth {C : Addr} {m : Str} {a dx : Addr} {fs : List (Str × V)} {Q : Prop} (e : H a = some (.ins C dx fs)) (l : fs.lookup m = none) (q : Q) : MethG C m (.ref a) H Q := ⟨a, dx, fs, rfl, e, l, q⟩
/-! ### isinstance -/
theorem isi {x : V} {a b : String} {r : Bool} {Q : VK} (ht : TyX K H x (.type a)) (h : kitB a b = some r) (q : Q (.bl r) H) : rIsi K [x, .ty b] H Q := ⟨_, _, _, _, r, rfl, .ty b, ht, kit_ty h, q⟩
theorem isiStr {z : Str} {Q : VK} (q : Q (.bl true) H) : rIsi K [.str z, .ty "str"] H Q := isi (.base (.str z)) (by decide +kernel) q
theorem isiB {z : Bool} {Q : VK} (q : Q (.bl true) H) : rIsi K [.bl z, .ty "bool"] H Q := isi (.base (.bl z)) (by decide +kernel) q
theorem isiI {z : Int} {Q : VK} (q : Q (.bl true) H) : rIsi K [.int z, .ty "int"] H Q := isi (.base (.int z)) (by decide +kernel) q
theorem isiIB {z : Int} {Q : VK} (q : Q (.bl false) H) : rIsi K [.int z, .ty "bool"] H Q := isi (.base (.int z)) (by decide +kernel) q
end Rd
namespace W
open PySem PySem.Spec PyProof.Rows L2
theorem kit_self {K : PySem.W.Frag} {C : Addr} : PySem.W.kitOne K (.ref C) (.ref C) = some true := by
  unfold PySem.W.kitOne
  simp
/-- what isinstance asks of an own class -/
structure OwnTy (K : PySem.W.Frag) (C : Addr) : Prop where
  ha : PySem.W.findIn K (.ref C) "__class__" = some (some (.builtin "object.__class__"))
  hn : PySem.W.specialIn K (.builtin "object.__class__") "__get__" = some (some (.builtin "getset_descriptor.__get__"))
  htk : PySem.W.takesIn K (.builtin "object.__class__") = some true
  hm : PySem.W.mroIn K C (.type "object") = some true
  me : PySem.W.kitOne K (.ref C) (.ref C) = some true
theorem isiOwn {K : PySem.W.Frag} {H : Hp} {a C dx : Addr} {fs : List (Str × V)} {Q : VK} (c : Cls K C) (o : OwnTy K C) (e : H a = some (.ins C dx fs)) (q : Q (.bl true) H) : rIsi K [.ref a, .ref C] H Q :=
  ⟨_, _, _, _, true, rfl, .own C, .base (.ins e c o.ha o.hn o.htk o.hm), o.me, q⟩
end W
/-! ### letters -/
namespace Lt
open PySem PySem.Spec PyProof.Rows L2
def Abc : Str := "abcdefghijklmnopqrstuvwxyz"
def Let (z : Str) : Prop := ∀ c ∈ z.cps.toList, c ∈ Abc.cps.toList
theorem Let.app {a b : Str} (x : Let a) (y : Let b) : Let (a ++ b) := fun c h => by
  have : c ∈ a.cps.toList ++ b.cps.toList := by
    rw [← Array.toList_append]
    exact h
  exact (List.mem_append.mp this).elim (x c) (y c)
theorem len_app (a b : Str) : (a ++ b).length = a.length + b.length := Array.size_append
theorem Let.cut {z : Str} (x : Let z) (lo hi : Option Int) : Let (cutS z lo hi) := fun c h => x c (List.mem_of_mem_drop (List.mem_of_mem_take (show c ∈ (z.cps.toList.drop _).take _ from by simpa [cutS] using h)))
theorem Let.one {c : Nat} (h : c ∈ Abc.cps.toList) : Let ⟨#[c]⟩ := fun d hd => by
  have : d = c := by simpa using hd
  exact this ▸ h
theorem Let.empty : Let "" := fun c h => by exact absurd h (by decide +revert)
theorem Let.ok {z : Str} (x : Let z) : PyData.strOk z = true := by
  unfold PyData.strOk
  rw [Array.all_eq_true']
  intro c hc
  have h := x c (by simpa using hc)
  have : ∀ c ∈ Abc.cps.toList, decide (c < 0x110000) = true := by decide +kernel
  exact this c h
theorem Let.char {z : Str} (x : Let z) {c : Nat} {i : Nat} (h : z.cps.toList[i]? = some c) : c ∈ Abc.cps.toList := x c (List.mem_of_getElem? h)
theorem cut_len {z : Str} {a b : Nat} (h : a ≤ b) (hb : b ≤ z.length) : (cutS z (some (a : Int)) (some (b : Int))).length = b - a := by
  show (((z.cps.toList.drop (HT.sIx z.length 0 (some (a : Int)))).take (HT.sIx z.length z.length (some (b : Int)) - HT.sIx z.length 0 (some (a : Int)))).toArray).size = b - a
  rw [List.size_toArray, List.length_take, List.length_drop, Array.length_toList, HT.sIx_nat, HT.sIx_nat]
  unfold Str.length at hb ⊢
  omega
theorem cut_lenI {z : Str} {a b : Int} (h0 : 0 ≤ a) (h : a ≤ b) (hb : b ≤ z.length) : ((cutS z (some a) (some b)).length : Int) = b - a := by
  have := cut_len (z := z) (a := a.toNat) (b := b.toNat) (by omega) (by omega)
  rw [show ((a.toNat : Nat) : Int) = a by omega, show ((b.toNat : Nat) : Int) = b by omega] at this
  omega
theorem cut_from {z : Str} {a : Int} (h0 : 0 ≤ a) (h : a ≤ z.length) : ((cutS z (some a) none).length : Int) = z.length - a := by
  have e : (cutS z (some a) none).length = z.length - a.toNat := by
    show (((z.cps.toList.drop (HT.sIx z.length 0 (some a))).take (HT.sIx z.length z.length none - HT.sIx z.length 0 (some a))).toArray).size = _
    have e1 : HT.sIx z.length 0 (some a) = a.toNat := by
      have := HT.sIx_nat z.length 0 a.toNat
      rw [show ((a.toNat : Nat) : Int) = a by omega] at this
      rw [this]
      omega
    rw [List.size_toArray, List.length_take, List.length_drop, Array.length_toList, e1]
    show min (z.length - a.toNat) (z.cps.size - a.toNat) = _
    unfold Str.length
    omega
  omega
theorem cut_to {z : Str} {b : Int} (h0 : 0 ≤ b) : ((cutS z none (some b)).length : Int) = min b z.length := by
  have e : (cutS z none (some b)).length = min b.toNat z.length := by
    show (((z.cps.toList.drop (HT.sIx z.length 0 none)).take (HT.sIx z.length z.length (some b) - HT.sIx z.length 0 none)).toArray).size = _
    have e1 : HT.sIx z.length z.length (some b) = min b.toNat z.length := by
      have := HT.sIx_nat z.length z.length b.toNat
      rw [show ((b.toNat : Nat) : Int) = b by omega] at this
      exact this
    have e2 : HT.sIx z.length 0 none = 0 := rfl
    rw [List.size_toArray, List.length_take, List.length_drop, Array.length_toList, e1, e2]
    unfold Str.length
    omega
  omega
theorem join_let : ∀ ys : List Str, (∀ y ∈ ys, Let y) → Let (Str.join "" ys) ∧ (Str.join "" ys).length = (ys.map (·.length)).sum
  | [], _ => ⟨fun c h => by exact absurd h (by decide +revert), by decide +kernel⟩
  | [y], h => ⟨h y (by simp), by simp [Str.join]⟩
  | y :: z :: r, h => by
    have ih := join_let (z :: r) fun x hx => h x (List.mem_cons_of_mem _ hx)
    have e : Str.join "" (y :: z :: r) = y ++ "" ++ Str.join "" (z :: r) := rfl
    rw [e]
    refine ⟨((h y List.mem_cons_self).app Let.empty).app ih.1, ?_⟩
    rw [len_app, len_app, ih.2, show (Str.ofString "").length = 0 by decide +kernel]
    show y.length + 0 + _ = (y.length :: (z :: r).map (·.length)).sum
    rw [List.sum_cons]
    rfl
theorem join_one {ys : List Str} {n : Nat} (hl : ys.length = n) (h : ∀ y ∈ ys, Let y ∧ y.length = 1) : Let (Txt.join "" ys) ∧ (Txt.join "" ys).length = n ∧ (ys.map (·.length)).sum = n := by
  have j := join_let ys fun y hy => (h y hy).1
  have e : (ys.map (·.length)).sum = ys.length := by
    clear j hl
    induction ys with
    | nil => rfl
    | cons y r ih => rw [List.map_cons, List.sum_cons, ih fun x hx => h x (List.mem_cons_of_mem _ hx), (h y List.mem_cons_self).2, List.length_cons]; omega
  rw [TL.join_eq]
  exact ⟨j.1, by rw [j.2, e, hl], by rw [e, hl]⟩
theorem ne_of_len {z : Str} (h : 0 < z.length) : ¬ z = "" := fun e => by
  subst e
  exact absurd h (by decide +revert)
theorem len_of_ne {z : Str} (h : ¬ z = "") : 0 < z.length := by
  rcases Nat.eq_zero_or_pos z.length with e | e
  · exfalso
    refine h ?_
    have : z.cps = #[] := Array.eq_empty_of_size_eq_zero e
    cases z
    simp only at this
    subst this
    decide +kernel
  · exact e
/-- a word: some letters, at least one, at most n -/
structure Wd (n : Int) (z : Str) : Prop where
  ok : Let z
  l0 : 1 ≤ z.length
  l1 : (z.length : Int) ≤ n
theorem Wd.mono {n m : Int} {z : Str} (h : Wd n z) (k : n ≤ m) : Wd m z := ⟨h.ok, h.l0, Int.le_trans h.l1 k⟩
theorem Wd.line {n : Int} {z : Str} (h : Wd n z) (k : n ≤ 1000000) : z.length ≤ sizeLine := by
  have := h.l1
  rw [sizeLine_eq]
  omega
end Lt
namespace W
open PySem PySem.Spec PyProof.Rows L2
/-! ### the tape, books -/
def Tape (H : Hp) (t c : Addr) : Prop := ∃ (ns : List Int) (x y z u : Int), t ≠ c ∧ H t = some (.lst [.ref c, .int x, .int y, .int z, .int u]) ∧ H c = some (.lst (ns.map V.int)) ∧ 0 ≤ x ∧ x ≤ ns.length ∧ 0 ≤ z ∧ z < 2147483647
theorem Tape.same {H H' : Hp} {t c : Addr} (h : Tape H t c) (s : Same H H') : Tape H' t c := by
  obtain ⟨ns, x, y, z, u, n, h1, h2, r⟩ := h
  exact ⟨ns, x, y, z, u, n, s _ _ h1, s _ _ h2, r⟩
theorem Tape.off {H H' : Hp} {t c l : Addr} (h : Tape H t c) (h1 : l ≠ t) (h2 : l ≠ c) (e : ∀ b, b ≠ l → H' b = H b) : Tape H' t c := by
  obtain ⟨ns, x, y, z, u, n, g1, g2, r⟩ := h
  exact ⟨ns, x, y, z, u, n, by rw [e t h1.symm]; exact g1, by rw [e c h2.symm]; exact g2, r⟩
theorem Tape.new {H : Hp} {t c l : Addr} (h : Tape H t c) (n : H l = none) : l ≠ t ∧ l ≠ c := by
  obtain ⟨ns, x, y, z, u, _, g1, g2, r⟩ := h
  exact ⟨(ne_of_none g1 n).symm, (ne_of_none g2 n).symm⟩
theorem _root_.Rd.tape_same {H H' : Hp} {t c : Addr} (s : Same H H') (h : Tape H t c) : Tape H' t c := h.same s
theorem _root_.Rd.ntT {H : Hp} {t c l : Addr} (n : H l = none) (h : Tape H t c) : l ≠ t := (h.new n).1
theorem _root_.Rd.ntT' {H : Hp} {t c l : Addr} (n : H l = none) (h : Tape H t c) : l ≠ c := (h.new n).2
/-- some watches: no two alike, at most twelve, each of some letters -/
structure Watches (ws : List Str) : Prop where
  nd : ws.Nodup
  l1 : ws.length ≤ 12
  ok : ∀ z ∈ ws, Lt.Wd 12 z
/-- a book of the watches ws stands at b -/
def BookAt (C : Addr) (H : Hp) (b : Addr) (ws : List Str) : Prop := ∃ dx t, H b = some (.ins C dx [("watches", .ref t)]) ∧ H t = some (.tup (ws.map V.str))
theorem BookAt.same {C : Addr} {H H' : Hp} {b : Addr} {ws : List Str} (h : BookAt C H b ws) (s : Same H H') : BookAt C H' b ws := let ⟨dx, t, h1, h2⟩ := h; ⟨dx, t, s _ _ h1, s _ _ h2⟩
theorem BookAt.but {C t c : Addr} {H H' : Hp} {b : Addr} {ws : List Str} (h : BookAt C H b ws) (tp : Tape H t c) (s : Rd.But t H H') : BookAt C H' b ws := by
  obtain ⟨dx, q, h1, h2⟩ := h
  obtain ⟨ns, x, y, z, u, _, g1, g2, r⟩ := tp
  exact ⟨dx, q, s _ _ (ne_of h1 g1 (fun e => nomatch e)) h1, s _ _ (ne_of h2 g1 (fun e => nomatch e)) h2⟩
theorem snoc_nodup {α : Type} {ws : List α} {y : α} (nd : ws.Nodup) (q : ¬ y ∈ ws) : (ws ++ [y]).Nodup := by
  rw [List.nodup_append]
  exact ⟨nd, by simp, fun x hx z hz e => q (by simp at hz; rw [← hz, ← e]; exact hx)⟩
theorem _root_.Rd.book_same {C : Addr} {H H' : Hp} {b : Addr} {ws : List Str} (s : Same H H') (h : BookAt C H b ws) : BookAt C H' b ws := h.same s
theorem _root_.Rd.book_but {C t c : Addr} {H H' : Hp} {b : Addr} {ws : List Str} (s : Rd.But t H H') (tp : Tape H t c) (h : BookAt C H b ws) : BookAt C H' b ws := h.but tp s
end W
/-! ### what is kept, for the search by hypotheses -/
namespace Rd
open PySem PySem.Spec PyProof.Rows L2
variable {H H' : Hp} {K : PySem.W.Frag}
theorem neN {H : Hp} {a b : Addr} {o : HO} (h' : H b = none) (h : H a = some o) : a ≠ b := ne_of_none h h'
theorem neN' {H : Hp} {a b : Addr} {o : HO} (h' : H b = none) (h : H a = some o) : b ≠ a := (ne_of_none h h').symm
theorem same_tr {H H1 H2 : Hp} (b : Same H1 H2) (a : Same H H1) : Same H H2 := a.trans b
theorem but_tr {t : Addr} {H H1 H2 : Hp} (b : But t H1 H2) (a : But t H H1) : But t H H2 := a.trans b
theorem but_sm {t : Addr} {H H1 H2 : Hp} (b : Same H1 H2) (a : But t H H1) : But t H H2 := a.same b
theorem same_of2 {l : Addr} {H0 H H' : Hp} (off : ∀ b, b ≠ l → H' b = H b) (n : H0 l = none) (s : Same H0 H) : Same H0 H' := fun b o e => by rw [off b (ne_of_none e n)]; exact s b o e
theorem but_of2 {t l : Addr} {H0 H H' : Hp} (off : ∀ b, b ≠ l → H' b = H b) (n : H0 l = none) (s : But t H0 H) : But t H0 H' := fun b o h e => by rw [off b (ne_of_none e n)]; exact s b o h e
theorem at_same {a : Addr} {o : HO} (s : Same H H') (e : H a = some o) : H' a = some o := s a o e
theorem at_but {t a : Addr} {o : HO} (b : But t H H') (n : a ≠ t) (e : H a = some o) : H' a = some o := b a o n e
theorem at_off {l a : Addr} {o : HO} (off : ∀ b, b ≠ l → H' b = H b) (n : a ≠ l) (e : H a = some o) : H' a = some o := by rw [off a n]; exact e
theorem same_off {l : Addr} {H0 : Hp} (s : Same H0 H) (n : H0 l = none) (off : ∀ b, b ≠ l → H' b = H b) : Same H0 H' := fun b o e => by rw [off b (ne_of_none e n)]; exact s b o e
theorem but_off' {t l : Addr} {H0 : Hp} (s : But t H0 H) (n : H0 l = none) (off : ∀ b, b ≠ l → H' b = H b) : But t H0 H' := fun b o h e => by rw [off b (ne_of_none e n)]; exact s b o h e
theorem lenS {p : Addr} {ys : List Str} {H : Hp} {Q : VK} (hp : SqL K H p (ys.map V.str) ∨ SqT K H p (ys.map V.str)) (h : Q (.int (ys.length : Nat)) H) : nLen K [.ref p] H Q := ⟨p, _, rfl, hp, by rw [List.length_map]; exact h⟩
theorem lenI {p : Addr} {ys : List Int} {H : Hp} {Q : VK} (hp : SqL K H p (ys.map V.int) ∨ SqT K H p (ys.map V.int)) (h : Q (.int (ys.length : Nat)) H) : nLen K [.ref p] H Q := ⟨p, _, rfl, hp, by rw [List.length_map]; exact h⟩
theorem lenR {p : Addr} {ys : List Addr} {H : Hp} {Q : VK} (hp : SqL K H p (ys.map V.ref) ∨ SqT K H p (ys.map V.ref)) (h : Q (.int (ys.length : Nat)) H) : nLen K [.ref p] H Q := ⟨p, _, rfl, hp, by rw [List.length_map]; exact h⟩
end Rd

/-! Plain law: spots of a word, joined by watches that occur. -/
namespace Mw
open PySem PySem.Spec PyProof.Rows L2
/-- led on from x -/
inductive Star (R : Nat → Nat → Prop) (x : Nat) : Nat → Prop where
  | refl : Star R x x
  | step {y z : Nat} (h : Star R x y) (r : R y z) : Star R x z
theorem Star.one {R : Nat → Nat → Prop} {x y : Nat} (r : R x y) : Star R x y := .step .refl r
theorem Star.trans {R : Nat → Nat → Prop} {x y z : Nat} (a : Star R x y) (b : Star R y z) : Star R x z := by
  induction b with
  | refl => exact a
  | step _ r ih => exact .step ih r
theorem Star.symm {R : Nat → Nat → Prop} (s : ∀ x y, R x y → R y x) {x y : Nat} (a : Star R x y) : Star R y x := by
  induction a with
  | refl => exact .refl
  | step _ r ih => exact (Star.one (s _ _ r)).trans ih
theorem Star.mono {R S : Nat → Nat → Prop} (s : ∀ x y, R x y → S x y) {x y : Nat} (a : Star R x y) : Star S x y := by
  induction a with
  | refl => exact .refl
  | step _ r ih => exact .step ih (s _ _ r)
theorem Star.iff {R S : Nat → Nat → Prop} (s : ∀ x y, R x y ↔ S x y) {x y : Nat} : Star R x y ↔ Star S x y := ⟨Star.mono fun x y => (s x y).mp, Star.mono fun x y => (s x y).mpr⟩
/-- W occurs in z from s -/
def Occ (W z : Str) (s : Nat) : Prop := s + W.length ≤ z.length ∧ cutS z (some (s : Int)) (some ((s : Int) + (W.length : Int))) = W
/-- two spots joined by W, W from a spot below m -/
def EdgeB (W z : Str) (m : Nat) (i j : Nat) : Prop := (i < m ∧ Occ W z i ∧ j = i + W.length) ∨ (j < m ∧ Occ W z j ∧ i = j + W.length)
def Edge (W z : Str) (i j : Nat) : Prop := (Occ W z i ∧ j = i + W.length) ∨ (Occ W z j ∧ i = j + W.length)
def Adj (ws : List Str) (z : Str) (i j : Nat) : Prop := ∃ W ∈ ws, Edge W z i j
def AdjB (ws : List Str) (W z : Str) (m : Nat) (i j : Nat) : Prop := Adj ws z i j ∨ EdgeB W z m i j
/-- the watches tell the word -/
def Told (ws : List Str) (z : Str) : Prop := Star (Adj ws z) 0 z.length
theorem Edge.symm {W z : Str} {i j : Nat} (h : Edge W z i j) : Edge W z j i := h.elim .inr .inl
theorem Adj.symm {ws : List Str} {z : Str} (i j : Nat) (h : Adj ws z i j) : Adj ws z j i := let ⟨W, m, e⟩ := h; ⟨W, m, e.symm⟩
theorem EdgeB.symm {W z : Str} {m i j : Nat} (h : EdgeB W z m i j) : EdgeB W z m j i := h.elim .inr .inl
theorem AdjB.symm {ws : List Str} {W z : Str} {m : Nat} (i j : Nat) (h : AdjB ws W z m i j) : AdjB ws W z m j i := h.elim (fun h => .inl (Adj.symm _ _ h)) fun h => .inr h.symm
theorem Adj.le {ws : List Str} {z : Str} {i j : Nat} (h : Adj ws z i j) : i ≤ z.length ∧ j ≤ z.length := by
  obtain ⟨W, _, ⟨o, e⟩ | ⟨o, e⟩⟩ := h <;> have := o.1 <;> omega
theorem adj_nil {z : Str} {i j : Nat} : ¬ Adj [] z i j := fun ⟨_, h, _⟩ => by simp at h
theorem adjB_zero {ws : List Str} {W z : Str} {i j : Nat} : AdjB ws W z 0 i j ↔ Adj ws z i j := ⟨fun h => h.elim id fun h => by rcases h with ⟨h, _⟩ | ⟨h, _⟩ <;> omega, .inl⟩
theorem adjB_all {ws : List Str} {W z : Str} {i j : Nat} {n : Nat} (hn : (n : Int) = ((z.length : Int) - (W.length : Int) + 1).toNat) : AdjB ws W z n i j ↔ Adj (ws ++ [W]) z i j := by
  constructor
  · rintro (⟨V, h, e⟩ | ⟨_, o, e⟩ | ⟨_, o, e⟩)
    · exact ⟨V, List.mem_append.mpr (.inl h), e⟩
    · exact ⟨W, List.mem_append.mpr (.inr (by simp)), .inl ⟨o, e⟩⟩
    · exact ⟨W, List.mem_append.mpr (.inr (by simp)), .inr ⟨o, e⟩⟩
  · rintro ⟨V, h, e⟩
    rcases List.mem_append.mp h with h | h
    · exact .inl ⟨V, h, e⟩
    · simp at h
      subst h
      rcases e with ⟨o, e⟩ | ⟨o, e⟩
      · exact .inr (.inl ⟨by have := o.1; omega, o, e⟩)
      · exact .inr (.inr ⟨by have := o.1; omega, o, e⟩)
theorem adjB_no {ws : List Str} {W z : Str} {m : Nat} {i j : Nat} (h : ¬ Occ W z m) : AdjB ws W z (m + 1) i j ↔ AdjB ws W z m i j := by
  unfold AdjB EdgeB
  constructor
  · rintro (a | ⟨l, o, e⟩ | ⟨l, o, e⟩)
    · exact .inl a
    · rcases Nat.lt_succ_iff_lt_or_eq.mp l with l | l
      · exact .inr (.inl ⟨l, o, e⟩)
      · exact absurd (l ▸ o) h
    · rcases Nat.lt_succ_iff_lt_or_eq.mp l with l | l
      · exact .inr (.inr ⟨l, o, e⟩)
      · exact absurd (l ▸ o) h
  · rintro (a | ⟨l, o, e⟩ | ⟨l, o, e⟩)
    · exact .inl a
    · exact .inr (.inl ⟨by omega, o, e⟩)
    · exact .inr (.inr ⟨by omega, o, e⟩)
theorem adjB_yes {ws : List Str} {W z : Str} {m : Nat} {i j : Nat} (h : Occ W z m) : AdjB ws W z (m + 1) i j ↔ AdjB ws W z m i j ∨ (i = m ∧ j = m + W.length) ∨ (j = m ∧ i = m + W.length) := by
  unfold AdjB EdgeB
  constructor
  · rintro (a | ⟨l, o, e⟩ | ⟨l, o, e⟩)
    · exact .inl (.inl a)
    · rcases Nat.lt_succ_iff_lt_or_eq.mp l with l | l
      · exact .inl (.inr (.inl ⟨l, o, e⟩))
      · exact .inr (.inl ⟨l, by omega⟩)
    · rcases Nat.lt_succ_iff_lt_or_eq.mp l with l | l
      · exact .inl (.inr (.inr ⟨l, o, e⟩))
      · exact .inr (.inr ⟨l, by omega⟩)
  · rintro ((a | ⟨l, o, e⟩ | ⟨l, o, e⟩) | ⟨l, e⟩ | ⟨l, e⟩)
    · exact .inl a
    · exact .inr (.inl ⟨by omega, o, e⟩)
    · exact .inr (.inr ⟨by omega, o, e⟩)
    · subst l; exact .inr (.inl ⟨by omega, h, e⟩)
    · subst l; exact .inr (.inr ⟨by omega, h, e⟩)
/-! ### no two alike among few -/
theorem nodup_le {α : Type} [DecidableEq α] : ∀ (l m : List α), l.Nodup → (∀ x ∈ l, x ∈ m) → l.length ≤ m.length
  | [], _, _, _ => Nat.zero_le _
  | a :: t, m, nd, h => by
    have ⟨h1, h2⟩ := List.nodup_cons.mp nd
    have ha := h a List.mem_cons_self
    have := nodup_le t (m.erase a) h2 fun x hx => (List.mem_erase_of_ne fun e : x = a => h1 (by rw [← e]; exact hx)).mpr (h x (List.mem_cons_of_mem _ hx))
    rw [List.length_erase_of_mem ha] at this
    have := List.length_pos_of_mem ha
    rw [List.length_cons]
    omega
theorem nodup_range {l : List Int} {n : Nat} (nd : l.Nodup) (h : ∀ x ∈ l, 0 ≤ x ∧ x ≤ n) : l.length ≤ n + 1 := by
  have := nodup_le l ((List.range (n + 1)).map fun i : Nat => (i : Int)) nd fun x hx => by
    have := h x hx
    exact List.mem_map.mpr ⟨x.toNat, List.mem_range.mpr (by omega), by omega⟩
  rw [List.length_map, List.length_range] at this
  exact this
/-! ### marks -/
/-- alike marks are led to one another, and the other way round -/
def Lab (R : Nat → Nat → Prop) (n : Nat) (ms : List Int) : Prop := ms.length = n + 1 ∧ ∀ i j (x y : Int), ms[i]? = some x → ms[j]? = some y → (x = y ↔ Star R i j)
theorem Lab.start {n : Nat} {R : Nat → Nat → Prop} (hR : ∀ i j, ¬ R i j) : Lab R n ((List.range (n + 1)).map fun i : Nat => (i : Int)) := by
  refine ⟨by simp, fun i j x y hx hy => ?_⟩
  have e1 : x = i := by
    rw [List.getElem?_map] at hx
    cases q : (List.range (n + 1))[i]? with
    | none => rw [q] at hx; cases hx
    | some k =>
      rw [q] at hx
      have : i = k := by
        have := List.getElem?_eq_some_iff.mp q
        obtain ⟨h, e⟩ := this
        simpa using e
      subst this
      exact (Option.some.inj hx).symm
  have e2 : y = j := by
    rw [List.getElem?_map] at hy
    cases q : (List.range (n + 1))[j]? with
    | none => rw [q] at hy; cases hy
    | some k =>
      rw [q] at hy
      have : j = k := by
        have := List.getElem?_eq_some_iff.mp q
        obtain ⟨h, e⟩ := this
        simpa using e
      subst this
      exact (Option.some.inj hy).symm
  subst e1 e2
  constructor
  · intro h
    have : i = j := by omega
    exact this ▸ .refl
  · intro h
    cases h with
    | refl => rfl
    | step _ r => exact absurd r (hR _ _)
theorem Lab.iff {R S : Nat → Nat → Prop} {n : Nat} {ms : List Int} (h : Lab R n ms) (s : ∀ x y, R x y ↔ S x y) : Lab S n ms := ⟨h.1, fun i j x y hx hy => (h.2 i j x y hx hy).trans (Star.iff s)⟩
/-- one more pair: alike already -/
theorem Lab.same {R S : Nat → Nat → Prop} {n : Nat} {ms : List Int} (h : Lab R n ms) {a b : Nat} {x : Int} (ha : ms[a]? = some x) (hb : ms[b]? = some x) (sy : ∀ x y, R x y → R y x) (s : ∀ i j, S i j ↔ R i j ∨ (i = a ∧ j = b) ∨ (j = a ∧ i = b)) : Lab S n ms := by
  refine ⟨h.1, fun i j u v hu hv => (h.2 i j u v hu hv).trans ⟨Star.mono fun i j r => (s i j).mpr (.inl r), fun q => ?_⟩⟩
  have ab : Star R a b := (h.2 a b x x ha hb).mp rfl
  clear hv
  induction q with
  | refl => exact .refl
  | step _ r ih =>
    rcases (s _ _).mp r with r | ⟨rfl, rfl⟩ | ⟨rfl, rfl⟩
    · exact .step ih r
    · exact ih.trans ab
    · exact ih.trans (ab.symm sy)
/-- .. not alike: the one mark gives way to the other -/
theorem Lab.join {R S : Nat → Nat → Prop} {n : Nat} {ms : List Int} (h : Lab R n ms) {a b : Nat} {x y : Int} (ha : ms[a]? = some x) (hb : ms[b]? = some y) (hR : ∀ i j, R i j → i ≤ n ∧ j ≤ n) (sy : ∀ x y, R x y → R y x) (s : ∀ i j, S i j ↔ R i j ∨ (i = a ∧ j = b) ∨ (j = a ∧ i = b)) :
    Lab S n (ms.map fun m => if m = y then x else m) := by
  refine ⟨by rw [List.length_map]; exact h.1, fun i j u v hu hv => ?_⟩
  have get : ∀ {i : Nat} {u : Int}, (ms.map fun m => if m = y then x else m)[i]? = some u → ∃ u0, ms[i]? = some u0 ∧ u = if u0 = y then x else u0 := fun {i u} hu => by
    rw [List.getElem?_map] at hu
    cases q : ms[i]? with
    | none => rw [q] at hu; cases hu
    | some k => rw [q] at hu; exact ⟨k, rfl, (Option.some.inj hu).symm⟩
  obtain ⟨u0, hu0, eu⟩ := get hu
  obtain ⟨v0, hv0, ev⟩ := get hv
  have up : ∀ {i j : Nat}, Star R i j → Star S i j := fun q => q.mono fun i j r => (s i j).mpr (.inl r)
  have ab : Star S a b := .one ((s a b).mpr (.inr (.inl ⟨rfl, rfl⟩)))
  have ba : Star S b a := .one ((s b a).mpr (.inr (.inr ⟨rfl, rfl⟩)))
  constructor
  · intro e
    by_cases c1 : u0 = y
    · have ib : Star S i b := up ((h.2 i b u0 y hu0 hb).mp c1)
      by_cases c2 : v0 = y
      · exact up ((h.2 i j u0 v0 hu0 hv0).mp (c1.trans c2.symm))
      · rw [if_pos c1] at eu
        rw [if_neg c2] at ev
        have aj : Star S a j := up ((h.2 a j x v0 ha hv0).mp (by omega))
        exact (ib.trans ba).trans aj
    · rw [if_neg c1] at eu
      by_cases c2 : v0 = y
      · rw [if_pos c2] at ev
        have bj : Star S b j := up ((h.2 b j y v0 hb hv0).mp c2.symm)
        have ia : Star S i a := up ((h.2 i a u0 x hu0 ha).mp (by omega))
        exact (ia.trans ab).trans bj
      · rw [if_neg c2] at ev
        exact up ((h.2 i j u0 v0 hu0 hv0).mp (by omega))
  · intro q
    have la : a ≤ n := by have := (List.getElem?_eq_some_iff.mp ha).1; have := h.1; omega
    have lb : b ≤ n := by have := (List.getElem?_eq_some_iff.mp hb).1; have := h.1; omega
    -- every spot on the way has its mark
    have key : ∀ {k : Nat}, Star S i k → ∀ w0 : Int, ms[k]? = some w0 → (if u0 = y then x else u0) = if w0 = y then x else w0 := by
      intro k q
      induction q with
      | refl =>
        intro w0 hw
        rw [hu0] at hw
        cases hw
        rfl
      | @step k l _ r ih =>
        intro w0 hw
        have inR : ∀ m : Nat, m ≤ n → ∃ m0, ms[m]? = some m0 := fun m hm => ⟨_, List.getElem?_eq_getElem (by have := h.1; omega)⟩
        rcases (s _ _).mp r with r | ⟨rfl, rfl⟩ | ⟨rfl, rfl⟩
        · obtain ⟨k0, hk⟩ := inR k (hR _ _ r).1
          rw [ih k0 hk, (h.2 k l k0 w0 hk hw).mpr (.one r)]
        · rw [ih x ha]
          rw [hb] at hw
          cases hw
          rw [if_pos rfl]
          split <;> rfl
        · rw [ih y hb]
          rw [ha] at hw
          cases hw
          rw [if_pos rfl]
          split <;> rfl
    rw [eu, ev]
    exact key q v0 hv0
end Mw

/-! Plain law: distances, the least of the shortest ways. -/
namespace Mz
open PySem PySem.Spec PyProof.Rows L2
/-- k steps from x to y -/
def Steps (A : Nat → Nat → Prop) : Nat → Nat → Nat → Prop
  | 0, x, y => x = y
  | k + 1, x, z => ∃ y, Steps A k x y ∧ A y z
/-- k steps and no fewer -/
def Dist (A : Nat → Nat → Prop) (x y k : Nat) : Prop := Steps A k x y ∧ ∀ j, j < k → ¬ Steps A j x y
variable {A : Nat → Nat → Prop}
theorem Steps.trans : ∀ {k j x y z : Nat}, Steps A j x y → Steps A k y z → Steps A (j + k) x z
  | 0, j, x, y, z, a, b => by cases b; exact a
  | k + 1, j, x, y, z, a, ⟨u, b, r⟩ => ⟨u, Steps.trans a b, r⟩
theorem Steps.one {x y : Nat} (r : A x y) : Steps A 1 x y := ⟨x, rfl, r⟩
theorem Steps.cons {k x y z : Nat} (r : A x y) (b : Steps A k y z) : Steps A (k + 1) x z := by
  have := Steps.trans (Steps.one r) b
  rwa [Nat.add_comm] at this
theorem Steps.uncons : ∀ {k x z : Nat}, Steps A (k + 1) x z → ∃ y, A x y ∧ Steps A k y z
  | 0, x, z, ⟨y, e, r⟩ => by cases e; exact ⟨z, r, rfl⟩
  | k + 1, x, z, ⟨y, s, r⟩ => let ⟨u, a, b⟩ := Steps.uncons s; ⟨u, a, y, b, r⟩
theorem Steps.symm (sy : ∀ x y, A x y → A y x) : ∀ {k x y : Nat}, Steps A k x y → Steps A k y x
  | 0, _, _, e => Eq.symm e
  | k + 1, x, z, ⟨y, s, r⟩ => Steps.cons (sy _ _ r) (Steps.symm sy s)
theorem Dist.inj {x y k j : Nat} (a : Dist A x y k) (b : Dist A x y j) : k = j := by
  rcases Nat.lt_trichotomy k j with h | h | h
  · exact absurd a.1 (b.2 k h)
  · exact h
  · exact absurd b.1 (a.2 j h)
theorem Steps.dist {x y : Nat} : ∀ {k : Nat}, Steps A k x y → ∃ d, d ≤ k ∧ Dist A x y d := by
  intro k
  induction k using Nat.strongRecOn with
  | _ k ih =>
    intro h
    by_cases c : ∃ j, j < k ∧ Steps A j x y
    · obtain ⟨j, hj, s⟩ := c
      obtain ⟨d, h1, h2⟩ := ih j hj s
      exact ⟨d, by omega, h2⟩
    · exact ⟨k, Nat.le_refl _, h, fun j hj s => c ⟨j, hj, s⟩⟩
theorem Dist.symm (sy : ∀ x y, A x y → A y x) {x y k : Nat} (h : Dist A x y k) : Dist A y x k := ⟨h.1.symm sy, fun j hj s => h.2 j hj (s.symm sy)⟩
theorem Dist.zero {x : Nat} : Dist A x x 0 := ⟨rfl, fun j h => by omega⟩
theorem Dist.zero_iff {x y : Nat} : Dist A x y 0 ↔ x = y := ⟨fun h => h.1, fun h => h ▸ Dist.zero⟩
/-- one step on from a spot k away, not nearer: k + 1 away -/
theorem Dist.next {x y z k : Nat} (h : Dist A x y k) (r : A y z) (no : ∀ j, j ≤ k → ¬ Dist A x z j) : Dist A x z (k + 1) :=
  ⟨⟨y, h.1, r⟩, fun j hj s => let ⟨d, h1, h2⟩ := s.dist; no d (by omega) h2⟩
/-- the spot ahead on a shortest way -/
theorem Dist.pred {x z k : Nat} (h : Dist A x z (k + 1)) : ∃ y, Dist A x y k ∧ A y z := by
  obtain ⟨y, s, r⟩ := h.1
  exact ⟨y, ⟨s, fun j hj s' => h.2 (j + 1) (by omega) ⟨y, s', r⟩⟩, r⟩
theorem Dist.all {x : Nat} : ∀ {k z : Nat}, Dist A x z k → ∀ j, j ≤ k → ∃ y, Dist A x y j
  | 0, z, h, j, hj => ⟨z, by rw [show j = 0 by omega]; exact h⟩
  | k + 1, z, h, j, hj => by
    by_cases c : j = k + 1
    · exact ⟨z, by rw [c]; exact h⟩
    · obtain ⟨y, hy, _⟩ := h.pred
      exact hy.all j (by omega)
theorem Steps.le {n : Nat} (hA : ∀ i j, A i j → j ≤ n) : ∀ {k x y : Nat}, x ≤ n → Steps A k x y → y ≤ n
  | 0, _, _, h, e => by cases e; exact h
  | _ + 1, _, _, _, ⟨_, _, r⟩ => hA _ _ r
/-- a shortest way within the spots 0 .. n has at most n steps -/
theorem Dist.le {n x z k : Nat} (hA : ∀ i j, A i j → j ≤ n) (hx : x ≤ n) (h : Dist A x z k) : k ≤ n := by
  have ex : ∀ m, m ≤ k + 1 → ∃ l : List Int, l.length = m ∧ l.Nodup ∧ ∀ v ∈ l, 0 ≤ v ∧ v ≤ n ∧ ∃ j, j < m ∧ Dist A x v.toNat j := by
    intro m
    induction m with
    | zero => exact fun _ => ⟨[], rfl, .nil, fun v h => by simp at h⟩
    | succ m ih =>
      intro hm
      obtain ⟨l, h1, h2, h3⟩ := ih (by omega)
      obtain ⟨y, hy⟩ := h.all m (by omega)
      have yl : y ≤ n := Steps.le hA hx hy.1
      refine ⟨(y : Int) :: l, by rw [List.length_cons, h1], List.nodup_cons.mpr ⟨fun q => ?_, h2⟩, fun v hv => ?_⟩
      · obtain ⟨_, _, j, hj, d⟩ := h3 _ q
        have := d.inj hy
        omega
      · rcases List.mem_cons.mp hv with rfl | hv
        · exact ⟨by omega, by omega, m, by omega, hy⟩
        · obtain ⟨a, b, j, hj, d⟩ := h3 v hv
          exact ⟨a, b, j, by omega, d⟩
  obtain ⟨l, h1, h2, h3⟩ := ex (k + 1) (Nat.le_refl _)
  have := Mw.nodup_range h2 fun v hv => ⟨(h3 v hv).1, (h3 v hv).2.1⟩
  omega
theorem star_steps {x y : Nat} : Mw.Star A x y ↔ ∃ k, Steps A k x y := by
  constructor
  · intro h
    induction h with
    | refl => exact ⟨0, rfl⟩
    | step _ r ih => let ⟨k, s⟩ := ih; exact ⟨k + 1, _, s, r⟩
  · rintro ⟨k, s⟩
    induction k generalizing y with
    | zero => cases s; exact .refl
    | succ k ih => let ⟨u, s, r⟩ := s; exact .step (ih s) r
theorem star_dist {x y : Nat} : Mw.Star A x y ↔ ∃ k, Dist A x y k := star_steps.trans ⟨fun ⟨_, s⟩ => let ⟨d, _, h⟩ := s.dist; ⟨d, h⟩, fun ⟨k, h⟩ => ⟨k, h.1⟩⟩
/-- the least of the shortest ways from x to n, step by step -/
inductive Gr (A : Nat → Nat → Prop) (n : Nat) : Nat → List Nat → Prop where
  | stop : Gr A n n [n]
  | step {x w d : Nat} {P : List Nat} (hx : Dist A x n (d + 1)) (r : A x w) (hw : Dist A w n d) (least : ∀ v, A x v → Dist A v n d → w ≤ v) (h : Gr A n w P) : Gr A n x (x :: P)
theorem Gr.inj {n : Nat} : ∀ {P P' : List Nat} {x : Nat}, Gr A n x P → Gr A n x P' → P = P' := by
  intro P P' x a
  induction a generalizing P' with
  | stop =>
    intro b
    cases b with
    | stop => rfl
    | step hx _ _ _ _ => have := hx.inj Dist.zero; omega
  | @step x w d P hx r hw least h ih =>
    intro b
    cases b with
    | stop => have := hx.inj Dist.zero; omega
    | @step _ w' d' P' hx' r' hw' least' h' =>
      have e : d = d' := by have := hx.inj hx'; omega
      subst e
      have : w = w' := by
        have := least w' r' hw'
        have := least' w r hw
        omega
      subst this
      rw [ih h']
/-- a least one is there -/
theorem least_of {P : Nat → Prop} {m : Nat} (h : P m) : ∃ w, P w ∧ ∀ v, P v → w ≤ v := by
  induction m using Nat.strongRecOn with
  | _ m ih =>
    by_cases c : ∃ v, v < m ∧ P v
    · obtain ⟨v, l, p⟩ := c
      exact ih v l p
    · exact ⟨m, h, fun v p => by
        rcases Nat.lt_or_ge v m with l | l
        · exact absurd ⟨v, l, p⟩ c
        · exact l⟩
/-! ### the order of ways -/
/-- not after, as tuples of one length are ordered -/
def lle : List Nat → List Nat → Prop
  | [], _ => True
  | _ :: _, [] => False
  | a :: p, b :: q => a < b ∨ (a = b ∧ lle p q)
theorem lle.refl : ∀ p, lle p p
  | [] => trivial
  | a :: p => .inr ⟨rfl, lle.refl p⟩
theorem lle.trans : ∀ {p q r}, lle p q → lle q r → lle p r
  | [], _, _, _, _ => trivial
  | _ :: _, [], _, h, _ => h.elim
  | _ :: _, _ :: _, [], _, h => h.elim
  | a :: p, b :: q, c :: r, h, k => by
    rcases h with h | ⟨rfl, h⟩
    · rcases k with k | ⟨rfl, k⟩
      · exact .inl (by omega)
      · exact .inl h
    · rcases k with k | ⟨rfl, k⟩
      · exact .inl k
      · exact .inr ⟨rfl, lle.trans h k⟩
theorem lle.total : ∀ p q, lle p q ∨ lle q p
  | [], _ => .inl trivial
  | _ :: _, [] => .inr trivial
  | a :: p, b :: q => by
    rcases Nat.lt_trichotomy a b with h | h | h
    · exact .inl (.inl h)
    · rcases lle.total p q with k | k
      · exact .inl (.inr ⟨h, k⟩)
      · exact .inr (.inr ⟨h.symm, k⟩)
    · exact .inr (.inl h)
theorem lle.anti : ∀ {p q}, lle p q → lle q p → p = q
  | [], [], _, _ => rfl
  | [], _ :: _, _, h => h.elim
  | _ :: _, [], h, _ => h.elim
  | a :: p, b :: q, h, k => by
    rcases h with h | ⟨rfl, h⟩
    · rcases k with k | ⟨k, _⟩ <;> omega
    · rcases k with k | ⟨_, k⟩
      · omega
      · rw [lle.anti h k]
theorem lle.snoc {v : Nat} : ∀ {p q : List Nat}, p.length = q.length → lle p q → lle (p ++ [v]) (q ++ [v])
  | [], [], _, _ => .inr ⟨rfl, trivial⟩
  | [], _ :: _, h, _ => by simp at h
  | _ :: _, [], h, _ => by simp at h
  | a :: p, b :: q, h, k => k.elim .inl fun ⟨e, k⟩ => .inr ⟨e, lle.snoc (by simpa using h) k⟩
theorem lle.unpre {q r : List Nat} : ∀ {p : List Nat}, lle (p ++ q) (p ++ r) → lle q r
  | [], h => h
  | a :: p, h => h.elim (fun h => by omega) fun ⟨_, h⟩ => lle.unpre (p := p) h
/-- a way from x to y -/
inductive Way (A : Nat → Nat → Prop) : Nat → Nat → List Nat → Prop where
  | one (x : Nat) : Way A x x [x]
  | cons {x w y : Nat} {P : List Nat} (r : A x w) (h : Way A w y P) : Way A x y (x :: P)
theorem Way.head {x y : Nat} {P : List Nat} (h : Way A x y P) : ∃ t, P = x :: t := by cases h <;> exact ⟨_, rfl⟩
theorem Way.snoc {x y z : Nat} {P : List Nat} (h : Way A x y P) (r : A y z) : Way A x z (P ++ [z]) := by
  induction h with
  | one x => exact .cons r (.one z)
  | cons r' _ ih => exact .cons r' (ih r)
theorem Way.unsnoc {x z : Nat} {P : List Nat} (h : Way A x z P) : P = [x] ∧ x = z ∨ ∃ y P', P = P' ++ [z] ∧ Way A x y P' ∧ A y z := by
  induction h with
  | one x => exact .inl ⟨rfl, rfl⟩
  | @cons x w z P r h ih =>
    rcases ih with ⟨rfl, rfl⟩ | ⟨y, P', rfl, h', r'⟩
    · exact .inr ⟨x, [x], rfl, .one x, r⟩
    · exact .inr ⟨y, x :: P', rfl, .cons r h', r'⟩
theorem Way.steps {x y : Nat} {P : List Nat} (h : Way A x y P) : ∃ k, P.length = k + 1 ∧ Steps A k x y := by
  induction h with
  | one x => exact ⟨0, rfl, rfl⟩
  | cons r _ ih => obtain ⟨k, e, s⟩ := ih; exact ⟨k + 1, by rw [List.length_cons, e], Steps.cons r s⟩
theorem Steps.way : ∀ {k x y : Nat}, Steps A k x y → ∃ P, Way A x y P ∧ P.length = k + 1
  | 0, x, y, e => by cases e; exact ⟨[x], .one x, rfl⟩
  | k + 1, x, z, ⟨y, s, r⟩ => let ⟨P, w, l⟩ := Steps.way s; ⟨P ++ [z], w.snoc r, by rw [List.length_append, l]; rfl⟩
/-- the least of the shortest ways -/
structure Best (A : Nat → Nat → Prop) (x y d : Nat) (P : List Nat) : Prop where
  way : Way A x y P
  ln : P.length = d + 1
  least : ∀ P', Way A x y P' → P'.length = d + 1 → lle P P'
theorem Best.tail {n x w d : Nat} {P : List Nat} (h : Best A x n (d + 1) (x :: P)) (r : A x w) (hw : Way A w n P) : Best A w n d P :=
  ⟨hw, by simpa using h.ln, fun P' h1 h2 => (h.least (x :: P') (.cons r h1) (by rw [List.length_cons, h2])).elim (fun q => by omega) fun q => q.2⟩
/-- .. is found step by step -/
theorem Best.gr {n : Nat} : ∀ {P : List Nat} {x d : Nat}, Dist A x n d → Best A x n d P → Gr A n x P
  | [], x, d, _, h => by have := h.ln; simp at this
  | [a], x, d, hd, h => by
    have l := h.ln
    have hw := h.way
    cases hw with
    | one => exact .stop
    | cons _ q => cases q
  | a :: b :: P, x, d, hd, h => by
    have l := h.ln
    have hw := h.way
    cases hw with
    | @cons _ w _ _ r q =>
      obtain ⟨t, e⟩ := q.head
      cases e
      obtain ⟨k, e1, s⟩ := q.steps
      cases d with
      | zero => simp at l
      | succ d =>
        have ek : k = d := by
          simp only [List.length_cons] at l e1
          omega
        subst ek
        have dw : Dist A b n k := ⟨s, fun j hj s' => hd.2 (j + 1) (by omega) (Steps.cons r s')⟩
        refine .step hd r dw (fun v rv dv => ?_) (Best.gr dw (h.tail r q))
        obtain ⟨P', w', l'⟩ := dv.1.way
        obtain ⟨t', e'⟩ := w'.head
        subst e'
        rcases h.least (a :: v :: t') (.cons rv w') (by rw [List.length_cons, l']) with z | ⟨_, z⟩
        · omega
        · rcases z with z | ⟨z, _⟩ <;> omega
/-- one step on: the least over the spots ahead -/
theorem Best.next {x z d : Nat} {P : List Nat} {y : Nat} (hP : Best A x y d P) (r : A y z)
    (least : ∀ y' P', Best A x y' d P' → A y' z → lle (P ++ [z]) (P' ++ [z])) (ex : ∀ y', Steps A d x y' → A y' z → ∃ P', Best A x y' d P') : Best A x z (d + 1) (P ++ [z]) := by
  refine ⟨hP.way.snoc r, by rw [List.length_append, hP.ln]; rfl, fun P' h1 h2 => ?_⟩
  rcases h1.unsnoc with ⟨rfl, rfl⟩ | ⟨y', Q, rfl, hq, r'⟩
  · simp at h2
  · obtain ⟨k, e, s⟩ := hq.steps
    rw [List.length_append, e] at h2
    have ek : k = d := by simp at h2; omega
    subst ek
    obtain ⟨P2, b2⟩ := ex y' s r'
    exact (least y' P2 b2 r').trans (lle.snoc (by rw [b2.ln, e]) (b2.least Q hq e))
end Mz

/-! Sorting of data of any depth, and by an own key function. -/
namespace Rs
open PySem PySem.W PyProof.Rows
theorem nsOne {h : Heap} {L : Addr} {m m' : Str → Option Value} : h.Ns L m → h.Ns L m' → m = m' := by
  rintro ⟨o, es, ep, e, d, _, r⟩ ⟨o', es', ep', e', d', _, r'⟩
  have : o = o' := Option.some.inj (e.symm.trans e')
  subst this
  rw [d] at d'
  injection d' with d1 d2
  subst d1
  funext x
  exact (r x).symm.trans (r' x)
theorem each_split {α β γ : Type} {R : α → γ → Prop} {S : γ → β → Prop} : ∀ {as : List α} {bs : List β}, EachIs (fun a b => ∃ c, R a c ∧ S c b) as bs → ∃ cs : List γ, EachIs R as cs ∧ EachIs S cs bs
  | _, _, .nil => ⟨[], .nil, .nil⟩
  | _, _, .cons ⟨c, h1, h2⟩ t => let ⟨cs, q1, q2⟩ := each_split t; ⟨c :: cs, .cons h1 q1, .cons h2 q2⟩
theorem each_get {α β : Type} {R : α → β → Prop} : ∀ {as : List α} {bs : List β}, EachIs R as bs → ∀ {i : Nat} {a : α}, as[i]? = some a → ∃ b, bs[i]? = some b ∧ R a b
  | _, _, .nil, _, _, h => by simp at h
  | _, _, .cons h t, 0, _, e => by
    simp at e
    subst e
    exact ⟨_, rfl, h⟩
  | _, _, .cons h t, i + 1, _, e => each_get t (i := i) (by simpa using e)
end Rs
namespace Rs
open PySem PySem.Spec PyProof.Rows L2 PySem.W
theorem each_vals {R : V → β → Prop} : ∀ {xs : List V} {us : List Value} {bs : List β}, Vals xs us → EachIs R xs bs → EachIs (fun u b => ∃ x, RelV x u ∧ R x b) us bs
  | _, _, _, .nil, .nil => .nil
  | _, _, _, .cons r rr, .cons h t => .cons ⟨_, r, h⟩ (each_vals rr t)
theorem vals_each {R : V → β → Prop} : ∀ {us : List Value} {bs : List β}, EachIs (fun u b => ∃ x, RelV x u ∧ R x b) us bs → ∃ xs : List V, Vals xs us ∧ EachIs R xs bs
  | _, _, .nil => ⟨[], .nil, .nil⟩
  | _, _, .cons ⟨x, r, h⟩ t => let ⟨xs, q1, q2⟩ := vals_each t; ⟨x :: xs, .cons r q1, .cons h q2⟩
/-- what is asked of the keys: alike, all tuples with an item or none a tuple, not deep -/
structure Keys (ds : List PyData) : Prop where
  al : AllAlike ds
  so : Sortable ds
  dp : ∀ d ∈ ds, d.depth ≤ 50
section
variable {X : Cx}
/-- sorted(xs), data of any depth -/
def rSortD (K : PySem.W.Frag) : List V → Hp → VK → Prop := fun vs H Q => ∃ (a : Addr) (xs : List V) (β : Type) (bs : List β) (k : β → PyData) (R : V → β → Prop), vs = [V.ref a] ∧ SqL K H a xs ∧ EachIs (fun x b => Dp K H x (k b) ∧ R x b) xs bs ∧ Keys (bs.map k) ∧
  ∀ (out : List V) (p : Addr) (G : Hp), EachIs (fun x b => Dp K H x (k b) ∧ R x b) out (bs.mergeSort (dataLe false k)) → H p = none → G p = some (.lst out) → Same H G → Q (.ref p) G
theorem cr_sortD (hu : X.A.units + 64 < cLine) : CallR X (.builtin "sorted") (rSortD X.K) := by
  intro pins s σ H vs us Q I r h
  obtain ⟨a, xs, β, bs, k, R, rfl, hs, he, hk, q⟩ := h
  obtain ⟨its, rv, hl, hz⟩ := I.list hs
  obtain rfl := Vals.ref1 r
  have hz' : its.length ≤ sizeLine := by rw [← rv.length]; exact hz
  have h1 : EachIs (fun u b => ∃ x, RelV x u ∧ (Dp X.K H x (k b) ∧ R x b)) its bs := each_vals rv he
  have h2 : EachIs (fun u b => ∃ as, Reads s.heap u (k b) as) its bs := h1.mono fun u b ⟨x, rx, hx, _⟩ => Dp.reads I (k b) x u hx rx
  have h3 : EachIs (fun u d => ∃ as, Reads (sortingHeap (copyHeap s.heap its) (s.heap.objs.size + 1) its) u d as) its (bs.map k) := by
    have : ∀ {as : List Value} {bs : List β}, EachIs (fun u b => ∃ as, Reads s.heap u (k b) as) as bs → EachIs (fun u d => ∃ as, Reads (sortingHeap (copyHeap s.heap its) (s.heap.objs.size + 1) its) u d as) as (bs.map k) := by
      intro as bs h
      induction h with
      | nil => exact .nil
      | cons h _ ih =>
        obtain ⟨as, r⟩ := h
        exact .cons ⟨as, PyProof.Rows.Reads.keeps (fun b o e => sorting_copy_old e) r⟩ ih
    exact this h2
  have SA : SortsAt X.prog X.w X.A.in1.in1 { s with heap := sortingHeap (copyHeap s.heap its) (s.heap.objs.size + 1) its } (dataKind (sortingHeap (copyHeap s.heap its) (s.heap.objs.size + 1) its) (bs.map k)) its := SortsAt.data (s := { s with heap := sortingHeap (copyHeap s.heap its) (s.heap.objs.size + 1) its }) h3 hk.al hk.so fun d hd => by
    have := hk.dp d hd
    simp only [units_in1]
    omega
  refine sorted_vals hl.isList SA hz' ?_
  have out := sortVals_each (κ := dataKind (sortingHeap (copyHeap s.heap its) (s.heap.objs.size + 1) its) (bs.map k)) (rev := false) (fun b => keyToks (k b)) h1 (each_of_map k (each_keys hk.al h3))
  obtain ⟨ys, ry, hy⟩ := vals_each out
  obtain ⟨ep, he'⟩ := PyProof.Rows.sortedAll_at s.heap its (sortVals (dataKind (sortingHeap (copyHeap s.heap its) (s.heap.objs.size + 1) its) (bs.map k)) false its its).toArray
  have hlen : ys.length ≤ sizeLine := by
    rw [ry.length, sortVals_length false rfl]
    exact hz'
  have hf := I.hok.fresh (Nat.le_succ s.heap.objs.size)
  exact ⟨.ref _, upd H (s.heap.objs.size + 1) (.lst ys), I.laid (t' := s.toks) (fun _ _ => PyProof.Rows.sortedAll_old) (Nat.le_succ _) ⟨hlen, _, ep, ry, he'⟩, rfl, q ys _ _ hy hf upd_same (Rd.same_upd hf)⟩
end
end Rs
namespace Rs
open PySem PySem.Spec PyProof.Rows L2 PySem.W
theorem room2 {k : Nat} {A : Around} (r : Room (k + 1) A) : Room k A.in1.in1 :=
  ⟨r.hd, by have := r.dp; show A.depth + 3 * k + 5 < _; omega, by have := r.un; show A.units + 1 + 1 + 16 * k + 200 < _; omega⟩
theorem each_imp {α β : Type} {R S : α → β → Prop} (h : ∀ a b, R a b → S a b) : ∀ {as : List α} {bs : List β}, EachIs R as bs → EachIs S as bs
  | _, _, .nil => .nil
  | _, _, .cons q t => .cons (h _ _ q) (each_imp h t)
theorem each_reads {X : Cx} {pins : List (Addr × Obj)} {σ : L2.St} {H : Hp} {s : Shared} (I : Inv X pins σ H s) {β : Type} {k : β → PyData} : ∀ {us : List Value} {vs : List V} {bs : List β}, Vals vs us → EachIs (fun x b => Dp X.K H x (k b)) vs bs → EachIs (fun u d => ∃ as, Reads s.heap u d as) us (bs.map k)
  | _, _, _, .nil, .nil => .nil
  | _, _, _, .cons r rr, .cons h t => .cons (Dp.reads I _ _ _ h r) (each_reads I rr t)
mutual
theorem Dp.same {K : PySem.W.Frag} {H H' : Hp} (s : Same H H') : ∀ (d : PyData) (v : V), Dp K H v d → Dp K H' v d
  | .none, _, h => by cases h; exact .non
  | .bool b, _, h => by cases h; exact .bl b
  | .int i, _, h => by cases h; exact .int i
  | .str x, _, h => by cases h; exact .str x
  | .list ds, _, h => by
    cases h with
    | lst hs ha => exact .lst (s.seq hs) (Dp.sameAll s ds _ ha)
  | .tuple ds, _, h => by
    cases h with
    | tup hs ha => exact .tup (Ru.same_tup s hs) (Dp.sameAll s ds _ ha)
  | .dict _, _, h => by cases h
theorem Dp.sameAll {K : PySem.W.Frag} {H H' : Hp} (s : Same H H') : ∀ (ds : List PyData) (vs : List V), DpAll K H vs ds → DpAll K H' vs ds
  | [], _, h => by cases h; exact .nil
  | d :: ds, _, h => by
    cases h with
    | cons h1 h2 => exact .cons (Dp.same s d _ h1) (Dp.sameAll s ds _ h2)
end
theorem each_snocK {β : Type} {R : V → β → Prop} {x : V} {y : β} (hxy : R x y) : ∀ {as : List V} {bs : List β}, EachIs R as bs → EachIs R (as ++ [x]) (bs ++ [y])
  | _, _, .nil => .cons hxy .nil
  | _, _, .cons h t => .cons h (each_snocK hxy t)
def rSortK (f : Addr) (sp : Sp) (K : PySem.W.Frag) : List V → List V → Hp → VK → Prop := fun vs zs H Q => ∃ (a : Addr) (xs : List V) (β : Type) (bs : List β) (k : β → PyData) (R : V → β → Prop), vs = [V.ref a] ∧ zs = [V.ref f] ∧ SqL K H a xs ∧ EachIs R xs bs ∧ Keys (bs.map k) ∧
  (∀ x b H1, Same H H1 → b ∈ bs → R x b → sp [x] H1 (fun v H2 => Same H1 H2 ∧ Dp K H2 v (k b)) (fun _ _ _ => False)) ∧
  ∀ (out : List V) (p : Addr) (G : Hp), EachIs R out (bs.mergeSort (dataLe false k)) → H p = none → G p = some (.lst out) → Same H G → Q (.ref p) G
section
variable {X : Cx} {f : Addr} {fd : FuncData} {ps : List Str} {sp : Sp} {k : Nat}
theorem cr_sortK (F : FnOk X.prog X.w X.K X.mg X.base CX0 k f fd ps sp) (hr : Room (k + 1) X.A) (hb : Binds X.K fd ps []) : CallRK X (.builtin "sorted") [Str.ofString "key"] (rSortK f sp X.K) := by
  intro pins s σ H vs zs us ws Q I r rz h
  obtain ⟨a, xs, β, bs, key, R, rfl, rfl, hs, he, hk, hkey, q⟩ := h
  obtain ⟨its, rv, hl, hz⟩ := I.list hs
  obtain rfl := Vals.ref1 r
  obtain rfl := Vals.ref1 rz
  have hz' : its.length ≤ sizeLine := by rw [← rv.length]; exact hz
  have hbl : its.length = bs.length := by rw [← rv.length, he.length]
  refine sorted_of_sort hl.isList hz' (ksk_s1 _ _) (fun _ => ksk_l1 _ _) fun E' => ?_
  show wpAny _ _ (Builtin.«list.sort» ⟨[.ref (s.heap.objs.size + 1)], [(Str.ofString "key", .ref f)]⟩) _ E' { s with heap := copyHeap s.heap its }
  rw [ksk_t1]
  unfold ksk_tree
  have hcs : (copyHeap s.heap its).objs.size = s.heap.objs.size + 2 := by
    unfold copyHeap
    rw [size_push', Heap.size_update, size_push']
  have ho := copyHeap_at s.heap its
  refine wpAny_bind (listItems_at ho rfl ?_)
  refine wpAny_bind (listUpdate_at ho rfl ?_ (by rw [List.size_toArray]; exact hz') (Nat.zero_le _))
  obtain ⟨e1, ho1⟩ : ∃ e1, ((copyHeap s.heap its).update (s.heap.objs.size + 1) (Obj.mapSeq fun _ => #[])).get? (s.heap.objs.size + 1) = some (seqObj "list" #[] e1) := ⟨_, get?_update_seq ho fun _ => #[]⟩
  refine wpAny_bind (seqEpoch_at ho1 rfl ?_)
  refine wpAny_bind (wpAny_newTuple ?_ (by show its.length ≤ _; exact hz'))
  refine wpAny_bind (wpAny_newList ?_ (Nat.zero_le _))
  refine wpAny_holding ?_
  have hks : (((copyHeap s.heap its).update (s.heap.objs.size + 1) (Obj.mapSeq fun _ => #[])).push (seqObj "tuple" its.toArray 0)).objs.size = s.heap.objs.size + 3 := by
    rw [size_push', Heap.size_update, hcs]
  have hoa : (sortingHeap (copyHeap s.heap its) (s.heap.objs.size + 1) its).get? (s.heap.objs.size + 1) = some (seqObj "list" #[] e1) :=
    Heap.get?_push_of_some _ (Heap.get?_push_of_some _ ho1)
  have hok : (sortingHeap (copyHeap s.heap its) (s.heap.objs.size + 1) its).get? (s.heap.objs.size + 3) = some (seqObj "list" #[] 0) := by
    rw [← hks]
    exact Heap.get?_push_size _ rfl
  show wpAny _ _ (ksk_rest (s.heap.objs.size + 1) (.ref f) false its.toArray e1 (.ref (((copyHeap s.heap its).update (s.heap.objs.size + 1) (Obj.mapSeq fun _ => #[])).push (seqObj "tuple" its.toArray 0)).objs.size)) _ E' { s with heap := sortingHeap (copyHeap s.heap its) (s.heap.objs.size + 1) its }
  rw [hks]
  have hk0 : ∀ b o, s.heap.get? b = some o → (sortingHeap (copyHeap s.heap its) (s.heap.objs.size + 1) its).get? b = some o := fun b o q => sorting_copy_old q
  generalize sortingHeap (copyHeap s.heap its) (s.heap.objs.size + 1) its = g0 at hoa hok hk0
  have old : ∀ b o, s.heap.get? b = some o → b < s.heap.objs.size := fun b o e => Heap.lt_size e
  have nL : @LT.lt Nat _ X.env.locals s.heap.objs.size := I.lt
  have up : ∀ c i : Nat, c < s.heap.objs.size → c ≠ s.heap.objs.size + i := fun c i h => by omega
  have pu : ∀ c i : Nat, c < s.heap.objs.size → s.heap.objs.size + i ≠ c := fun c i h => by omega
  have le0 : ∀ i : Nat, X.s_0.heap.objs.size ≤ s.heap.objs.size + i := fun i => Nat.le_trans I.sz (Nat.le_add_right _ _)
  have n13 : ¬ s.heap.objs.size + 1 = s.heap.objs.size + 3 := by omega
  have n31 : ¬ s.heap.objs.size + 3 = s.heap.objs.size + 1 := by omega
  have nC : ∀ x c, X.env.cells.lookup x = some c → c < s.heap.objs.size := fun x c e => by
    obtain ⟨v, o, ho, _⟩ := I.cell x c e
    exact Heap.lt_size ho
  have nP : ∀ p ∈ X.pn ++ pins, p.1 < s.heap.objs.size := fun p hp => Heap.lt_size (I.pin p hp).1
  have sz := I.sz
  unfold ksk_rest
  refine wpAny_bind (wpAny_rule ?_)
  first
    | rw [List.forIn_toArray]
    | (rw [← Array.forIn_toList]; simp only [List.toList_toArray])
    | rw [← Array.forIn_toList]
  refine wpAny_bind (ksk_fold (fun i s' => ∃ (Hc : Hp) (ks : List V) (kA : Array Value) (e : Nat), Inv X (pins ++ [(s.heap.objs.size + 3, seqObj "list" kA e), (s.heap.objs.size + 1, seqObj "list" #[] e1)]) σ Hc s' ∧ Same H Hc ∧ Vals ks kA.toList ∧
      EachIs (fun x b => Dp X.K Hc x (key b)) ks (bs.take i)) its 0 { s with heap := g0 } ?start ?step ?done)
  case start =>
    have I1 : Inv X pins σ H { s with heap := g0 } := I.kept (t' := s.toks) hk0
    have hf1 := I.hok.fresh (a := s.heap.objs.size + 1) (by omega)
    have hf3 := I.hok.fresh (a := s.heap.objs.size + 3) (by omega)
    refine ⟨H, [], #[], 0, I1.pins_of fun p hp => ?_, Same.refl _, .nil, by rw [List.take_zero]; exact .nil⟩
    rcases List.mem_append.mp hp with hp | hp
    · exact I1.pin p (List.mem_append_right _ hp)
    · rcases List.mem_cons.mp hp with rfl | hp
      · exact ⟨hok, hf3, pu _ 3 nL, I.nofs (by show _ ≤ s.heap.objs.size + 3; omega), fun v => by simp [seqObj]⟩
      · rw [List.mem_singleton.mp hp]
        exact ⟨hoa, hf1, pu _ 1 nL, I.nofs (by show _ ≤ s.heap.objs.size + 1; omega), fun v => by simp [seqObj]⟩
  case step =>
    rintro j u s' hu ⟨Hc, ks, kA, e, I', sm, rk, hke⟩
    simp only [Nat.zero_add] at hke ⊢
    have hj : j < its.length := (List.getElem?_eq_some_iff.mp hu).1
    obtain ⟨b, hbj⟩ : ∃ b, bs[j]? = some b := ⟨_, List.getElem?_eq_getElem (by omega)⟩
    obtain ⟨b', hbj', x, rx, hR⟩ := each_get (each_vals rv he) hu
    obtain rfl : b' = b := by rw [hbj] at hbj'; exact (Option.some.inj hbj').symm
    have hkl : kA.size ≤ its.length := by
      have h1 : ks.length = kA.size := rk.length.trans (by simp)
      have h2 := hke.length
      rw [List.length_take] at h2
      rw [← h1, h2]
      exact Nat.le_trans (Nat.min_le_right _ _) (Nat.le_of_eq hbl.symm)
    have hsp := hkey x b' Hc sm (List.mem_of_getElem? hbj) hR
    have run := F.run X.A.in1.in1 X.stack s' Hc ⟨[u], []⟩ [u] [x] _ _ (room2 hr) I'.env0.in1.in1 (by
      have := hb s' [u] I'.kIn (by have := F.len _ _ _ _ hsp; simpa using this)
      simpa using this) (.cons rx .nil) hsp
    refine wpAny_bind (wpAny_attempt (wpAny_mono (Q := fun v s2 => EP X (pins ++ [(s.heap.objs.size + 3, seqObj "list" kA e), (s.heap.objs.size + 1, seqObj "list" #[] e1)]) σ (fun v H2 => Same Hc H2 ∧ Dp X.K H2 v (key b')) v s2) (E := fun _ _ => False) (wpAny_call (codeAny_mono run fun r s2 hq => ?_)) (fun v s2 he => ?_) fun _ _ hF => hF.elim))
    · cases r with
      | error e => exact hq
      | ok fl =>
        cases fl with
        | ret u => exact I'.after hq
        | next => exact False.elim hq
        | brk => exact False.elim hq
        | cont => exact False.elim hq
    · obtain ⟨kv, H2, I2, rkv, sm2, hd⟩ := he
      have pk := I2.pin (s.heap.objs.size + 3, seqObj "list" kA e) (List.mem_append_right _ (List.mem_append_right _ (.head _)))
      have pa := I2.pin (s.heap.objs.size + 1, seqObj "list" #[] e1) (List.mem_append_right _ (List.mem_append_right _ (.tail _ (.head _))))
      have s1 := Heap.SameBut.update s2.heap (s.heap.objs.size + 3) (Obj.mapSeq (·.push v))
      obtain ⟨c2, hc2⟩ : ∃ c2, (s2.heap.update (s.heap.objs.size + 3) (Obj.mapSeq (·.push v))).get? (s.heap.objs.size + 3) = some (seqObj "list" (kA.push v) c2) := ⟨_, get?_update_seq pk.1 (·.push v)⟩
      have I3 : Inv X pins σ H2 s2 := I2.pins_of fun p hp => I2.pin p (List.mem_append_right _ (List.mem_append_left _ hp))
      have I4 : Inv X pins σ H2 { s2 with heap := s2.heap.update (s.heap.objs.size + 3) (Obj.mapSeq (·.push v)), toks := s2.toks } := I3.turned (it := s.heap.objs.size + 3) (fun b o n q => (s1.2 b n).trans q) pk.2.1 pk.2.2.1 (.inr (le0 3)) (fun x c q => up _ 3 (nC x c q)) fun p hp => up _ 3 (nP p hp)
      try dsimp only
      refine wpAny_bind (listUpdate_at pk.1 rfl ?_ (Nat.le_trans hkl hz') (Nat.le_trans (Nat.le_of_eq (Array.size_push ..)) (Nat.succ_le_succ (Nat.le_trans hkl hz'))))
      refine wpAny_pure ⟨rfl, H2, ks ++ [kv], kA.push v, c2, I4.pins_of fun p hp => ?_, sm.trans sm2, ?_, ?_⟩
      · rcases List.mem_append.mp hp with hp | hp
        · exact I4.pin p (List.mem_append_right _ hp)
        · rcases List.mem_cons.mp hp with rfl | hp
          · exact ⟨hc2, pk.2.1, pk.2.2.1, pk.2.2.2.1, fun v => by simp [seqObj]⟩
          · rw [List.mem_singleton.mp hp]
            exact ⟨(s1.2 _ n13).trans pa.1, pa.2⟩
      · rw [Array.toList_push]
        exact rk.append (.cons rkv .nil)
      · have ek : bs.take (j + 1) = bs.take j ++ [b'] := by rw [List.take_add_one, hbj]; simp
        rw [ek]
        exact each_snocK (R := fun x b => Dp X.K H2 x (key b)) hd (each_imp (R := fun x b => Dp X.K Hc x (key b)) (fun x b q => Dp.same sm2 _ _ q) hke)
  case done =>
    rintro s' ⟨Hc, ks, kA, e, I', sm, rk, hke⟩
    have hke' : EachIs (fun x b => Dp X.K Hc x (key b)) ks bs := by
      have e3 : bs.take (0 + its.length) = bs := List.take_of_length_le (by omega)
      rw [e3] at hke
      exact hke
    have pk := I'.pin (s.heap.objs.size + 3, seqObj "list" kA e) (List.mem_append_right _ (List.mem_append_right _ (.head _)))
    have pa := I'.pin (s.heap.objs.size + 1, seqObj "list" #[] e1) (List.mem_append_right _ (List.mem_append_right _ (.tail _ (.head _))))
    have hsz : kA.size = its.length := by
      have h1 : ks.length = kA.size := rk.length.trans (by simp)
      have h2 := hke'.length
      exact h1.symm.trans (h2.trans hbl.symm)
    have rd := each_reads I' rk hke'
    try dsimp only
    refine wpAny_bind (listItems_at pk.1 rfl ?_)
    have SA : SortsAt X.prog X.w X.A.in1.in1 s' (dataKind s'.heap (bs.map key)) kA.toList := SortsAt.data rd hk.al hk.so fun d hd => by
      have h1 := hk.dp d hd
      have h2 := hr.un
      simp only [units_in1]
      omega
    obtain ⟨m, Fr0⟩ := I'.fr
    have hiB : ∀ i : Nat, X.base.get? (s.heap.objs.size + i) = none := fun i => by
      cases q : X.base.get? (s.heap.objs.size + i) with
      | none => rfl
      | some o =>
        exact absurd (Nat.lt_of_le_of_lt (Nat.le_add_right _ _) (Heap.lt_size (I.bk _ o q))) (Nat.lt_irrefl _)
    let rs := (allNews X.base s'.heap X.env.locals).filter fun p => decide (p.1 ≠ s.heap.objs.size + 3 ∧ p.1 ≠ s.heap.objs.size + 1)
    have hrs : ∀ p ∈ rs, p.1 ≠ s.heap.objs.size + 3 ∧ p.1 ≠ s.heap.objs.size + 1 := fun p hp => of_decide_eq_true (List.mem_filter.mp hp).2
    have N0 : News X.base X.env.locals s'.heap (rs ++ [(s.heap.objs.size + 3, seqObj "list" kA e), (s.heap.objs.size + 1, seqObj "list" #[] e1)]) := fun p hp => by
      rcases List.mem_append.mp hp with hp | hp
      · exact news_all p (List.mem_filter.mp hp).1
      · rcases List.mem_cons.mp hp with rfl | hp
        · exact ⟨pk.1, pk.2.2.1, hiB 3⟩
        · rw [List.mem_singleton.mp hp]
          exact ⟨pa.1, pa.2.2.1, hiB 1⟩
    refine key_end (κ := dataKind s'.heap (bs.map key)) Fr0 N0 n31 (fun p hp => (hrs p hp).1) (fun p hp => (hrs p hp).2) SA hsz hz' fun h' tk ep F' N' => ⟨rfl, ?_⟩
    have kp : ∀ c o, c ≠ X.env.locals → c ≠ s.heap.objs.size + 3 → c ≠ s.heap.objs.size + 1 → s'.heap.get? c = some o → h'.get? c = some o := fun c o n0 n1 n2 q => by
      cases z : X.base.get? c with
      | some u =>
        have := I'.bk c u z
        rw [q] at this
        cases this
        exact F'.keep c _ z
      | none => exact (N' (c, o) (List.mem_cons_of_mem _ (List.mem_filter.mpr ⟨mem_allNews n0 z q, decide_eq_true ⟨n1, n2⟩⟩))).1
    have ha' := (N' _ List.mem_cons_self).1
    have out := sortVals_each (κ := dataKind s'.heap (bs.map key)) (rev := false) (fun b => keyToks (key b)) (each_vals rv he) (each_of_map key (each_keys hk.al rd))
    obtain ⟨ys, ry, hy⟩ := vals_each out
    have hlen : ys.length ≤ sizeLine := by
      rw [ry.length, sortVals_length false (by rw [Array.length_toList]; exact hsz)]
      exact hz'
    have I3 : Inv X pins σ Hc s' := I'.pins_of fun p hp => I'.pin p (List.mem_append_right _ (List.mem_append_left _ hp))
    have fin : Inv X pins σ (upd Hc (s.heap.objs.size + 1) (.lst ys)) { s' with heap := h', gens := s'.gens, drawn := s'.drawn, toks := tk } := by
      have hna : Hc (s.heap.objs.size + 1) = none := pa.2.1
      have hnk : Hc (s.heap.objs.size + 3) = none := pk.2.1
      refine I3.step (ch := [s.heap.objs.size + 3, s.heap.objs.size + 1]) (fun b hb => ?_) (fun b o nl _ hc q _ => kp b o nl (fun z => hc (by simp [z])) (fun z => hc (by simp [z])) q) (fun b o nl _ hc q _ => ⟨o.slots, kp b o nl (fun z => hc (by simp [z])) (fun z => hc (by simp [z])) q⟩)
        (fun b o hc q n => ?_) (fun b o hc q => ?_) (fun b xs q => by rw [upd_ne (ne_of_none q hna)]; exact q) (fun b o u q => by rw [upd_ne (ne_of_none q hna)]; exact q) (fun b ps q => ⟨#[], by rw [upd_ne (ne_of_none q hna), q]; simp⟩) (fun m hm => ?_) (fun b u q => ?_) I3.bare
      · have : b = s.heap.objs.size + 3 ∨ b = s.heap.objs.size + 1 := by simpa using hb
        rcases this with rfl | rfl
        · exact ⟨.inr (le0 3), pu _ 3 nL, fun x c q => up _ 3 (nC x c q), fun p hp => up _ 3 (nP p hp)⟩
        · exact ⟨.inr (le0 1), pu _ 1 nL, fun x c q => up _ 1 (nC x c q), fun p hp => up _ 1 (nP p hp)⟩
      · rw [upd_ne (fun z => hc (by simp [z]))]
        exact n
      · by_cases hbl : b = X.env.locals
        · obtain ⟨o', _, _, ho', _⟩ := F'.ns
          exact ⟨o', by rw [hbl]; exact ho'⟩
        · exact ⟨o, kp b o hbl (fun z => hc (by simp [z])) (fun z => hc (by simp [z])) q⟩
      · rw [nsOne hm Fr0.ns]
        exact F'.ns
      · by_cases hba : b = s.heap.objs.size + 1
        · subst hba
          rw [upd_same] at q
          cases q
          exact ⟨hlen, _, ep, ry, ha'⟩
        · rw [upd_ne hba] at q
          refine (I3.hok b u q).stay (fun c v hc r => kp c v ?_ ?_ ?_ r) (fun c r => by rw [upd_ne (ne_of_none r hna)]; exact r) fun c xs r => by rw [upd_ne (ne_of_none r hna)]; exact r
          · rcases hc with z | z
            · rw [z]; exact ne_of_none q I3.free
            · exact ne_of_none z I3.free
          · rcases hc with z | z
            · rw [z]; exact ne_of_none q hnk
            · exact ne_of_none z hnk
          · rcases hc with z | z
            · rw [z]; exact hba
            · exact ne_of_none z hna
    exact ⟨.ref _, _, fin, rfl, q ys _ _ hy (I.hok.fresh (by omega)) upd_same fun b o z => by rw [upd_ne (ne_of_none (sm b o z) pa.2.1)]; exact sm b o z⟩
end
end Rs

/-! Further readings: zip of tuples, comprehensions that make dicts, locks, sorting. -/
namespace Rw
open PySem PySem.Spec PyProof.Rows L2 Rd
variable {X : Cx} {D : Ends} {σ : L2.St} {H : Hp} {K : PySem.W.Frag}
theorem walk_zipT {a b : Addr} {xs ys : List V} {n : Nat} (hn : n = min xs.length ys.length) : Walk (RZ.ItzT K a b) n (fun H => SqT K H a xs ∧ SqT K H b ys) (YPair (fun i => xs[i]?) (fun i => ys[i]?)) := by
  subst hn
  refine ⟨fun i H hi q => ⟨xs, ys, xs[i]'(by omega), ys[i]'(by omega), q.1, q.2, List.getElem?_eq_getElem _, List.getElem?_eq_getElem _⟩, fun H q => ⟨xs, ys, q.1, q.2, by omega⟩, ?_⟩
  rintro i H v H' _ q ⟨T, x, y, h1, h2, h3, h4, h5⟩
  exact ⟨T, x, y, h1, h2, h3, h4 xs q.1, h5 ys q.2⟩
theorem zipH {ta : TA} {R : It → Hp → Prop} (h : ta σ H fun vs H1 => ∃ a b xs ys, vs = [.ref a, .ref b] ∧ ((SqL K H1 a xs ∧ SqL K H1 b ys ∧ R (Itz K a b) H1) ∨ (SqT K H1 a xs ∧ SqT K H1 b ys ∧ R (RZ.ItzT K a b) H1))) : RZ.iZipA K ta σ H R := h
theorem zipT {a b : Addr} {xs ys : List V} {P Q : Addr → Addr → Prop} (h1 : SqT K H a xs) (h2 : SqT K H b ys) (h : Q a b) : ∃ a' b' xs ys, [V.ref a, V.ref b] = [.ref a', .ref b'] ∧ ((SqL K H a' xs ∧ SqL K H b' ys ∧ P a' b') ∨ (SqT K H a' xs ∧ SqT K H b' ys ∧ Q a' b')) :=
  ⟨a, b, xs, ys, rfl, .inr ⟨h1, h2, h⟩⟩
theorem slT {a : Addr} {xs : List V} {lo hi : Option Int} {Q : VK} (hp : SqT K H a xs) (hw : ¬ (HT.sIx xs.length 0 lo = 0 ∧ HT.sIx xs.length xs.length hi = xs.length)) (h : NewQ (.tup (cutV xs lo hi)) Q H) : rSlT K (.ref a) lo hi H Q := ⟨a, xs, rfl, hp, hw, h⟩
theorem sl1 {a : Addr} {xs : List V} {Q : VK} (hp : SqT K H a xs) (n0 : xs ≠ []) (h : NewQ (.tup xs.tail) Q H) : rSlT K (.ref a) (some 1) none H Q := by
  have l : 1 ≤ xs.length := Nat.one_le_iff_ne_zero.mpr fun e => n0 (List.eq_nil_of_length_eq_zero e)
  have e1 : HT.sIx xs.length 0 (some ((1 : Nat) : Int)) = 1 := by rw [HT.sIx_nat]; omega
  refine slT hp (fun ⟨e, _⟩ => ?_) ?_
  · have e' : HT.sIx xs.length 0 (some ((1 : Nat) : Int)) = 0 := e
    omega
  · have e : cutV xs (some 1) none = xs.tail := by
      show (xs.drop (HT.sIx xs.length 0 (some ((1 : Nat) : Int)))).take (xs.length - HT.sIx xs.length 0 (some ((1 : Nat) : Int))) = xs.tail
      rw [e1, List.drop_one]
      exact List.take_of_length_le (by rw [List.length_tail]; exact Nat.le_refl _)
    rw [e]
    exact h
/-! ### locks -/
def LkE (t : TE) (d : Addr) (u : HO) (σ : L2.St) (H : Hp) (Q : VK) : Prop := ∀ od, t σ (upd H d (.frz od u)) fun v H' => H' d = some (.frz od u) ∧ Q v (upd H' d u)
theorem lockE {t : TE} {d : Addr} {u : HO} {Q : VK} (e : H d = some u) (m : Mut (some u)) (h : ∀ (od : Obj) (G : Hp), G d = some (.frz od u) → (∀ b, b ≠ d → G b = H b) → t σ G fun v H' => H' d = some (.frz od u) ∧ Q v (upd H' d u)) : tLockE t σ H Q :=
  ⟨d, u, e, m, fun od => h od _ upd_same fun b hb => upd_ne hb⟩
theorem itemsH {td : TE} {R : It → Hp → Prop} (h : td σ H fun x H1 => ∃ d o kvs, x = .ref d ∧ H1 d = some (.frz o (.dK kvs)) ∧ R (Iti d o kvs) H1) : iItems td σ H R := h
theorem itemsX {d : Addr} {od : Obj} {kvs : List (Key × V)} {P : Addr → Obj → List (Key × V) → Prop} (e : H d = some (.frz od (.dK kvs))) (h : P d od kvs) : ∃ d' o kvs, V.ref d = .ref d' ∧ H d' = some (.frz o (.dK kvs)) ∧ P d' o kvs := ⟨d, od, kvs, rfl, e, h⟩
theorem keysH {td : TE} {R : It → Hp → Prop} (h : td σ H fun x H1 => ∃ d o, x = .ref d ∧ ((∃ kvs, H1 d = some (.frz o (.dK kvs)) ∧ R (Itk d o kvs) H1) ∨ ∃ kvs, H1 d = some (.frz o (.dT kvs)) ∧ R (Itkt d o kvs) H1)) : iKeys td σ H R := h
theorem keysX {d : Addr} {od : Obj} {kvs : List (Key × V)} {P : Addr → Obj → List (Key × V) → Prop} {P' : Addr → Obj → List (List Key × V) → Prop} (e : H d = some (.frz od (.dK kvs))) (h : P d od kvs) : ∃ d' o, V.ref d = .ref d' ∧ ((∃ kvs, H d' = some (.frz o (.dK kvs)) ∧ P d' o kvs) ∨ ∃ kvs, H d' = some (.frz o (.dT kvs)) ∧ P' d' o kvs) := ⟨d, od, rfl, .inl ⟨kvs, e, h⟩⟩
/-! ### dict comprehensions -/
section
variable {X : Cx}
theorem ps_setDc {i : Nat} {y : Str} {py : Pos} {kx vx tg iter : Expr} {ifs : List Expr} {scope : Scope} {own : List (Str × Nat)} {pos spos : Pos} {wi : TI} {g : TG} {tt : TT} {tk tv : TE} (hc : X.calm = true) (hN : X.N.Nodup) (hy : X.N[i]? = some y) (hyl : X.env.scope.names.lookup y = some .local)
    (hsw : swapsWith (.DictComp kx vx [⟨tg, iter, ifs, 0⟩] scope pos) (some (.Name y py)) spos.line X.env = pure true) (hi : PI X tg iter wi) (ok : BlkOk X.N X.env.scope scope own)
    (hg : ∀ (s : Shared) (H : Hp) (C : Addr) (cl : List (Str × Addr)) (fp : List Addr), PG (X.blk s H scope (compEnvC scope cl C X.env) fp) tg g)
    (ht : ∀ (s : Shared) (H : Hp) (C : Addr) (cl : List (Str × Addr)) (fp : List Addr), PTs (X.blk s H scope (compEnvC scope cl C X.env) fp) ifs tt)
    (hk : ∀ (s : Shared) (H : Hp) (C : Addr) (cl : List (Str × Addr)) (fp : List Addr), PE (X.blk s H scope (compEnvC scope cl C X.env) fp) kx tk)
    (he : ∀ (s : Shared) (H : Hp) (C : Addr) (cl : List (Str × Addr)) (fp : List Addr), PE (X.blk s H scope (compEnvC scope cl C X.env) fp) vx tv) (hs : ∀ x, foldedSetIterable iter X.env x = pure x := by intro _; rfl) :
    PS X (.Assign [.Name y py] (.DictComp kx vx [⟨tg, iter, ifs, 0⟩] scope pos) spos) (tAsg (tDc wi g tt tk tv (own.map (·.2))) (gName i)) := by
  refine ⟨fun pins s σ H D I h => ?_⟩
  have h' : tDc wi g tt tk tv (own.map (·.2)) σ H (fun x H1 => gName i x σ H1 D.nx) := h
  rw [exec_Assign_Name_used _ _ _ _ hsw]
  refine wpAny_bind (wpAny_standAt (wpAny_bind ?_))
  show wpAny _ _ (comprehension (.DictComp kx vx [⟨tg, iter, ifs, 0⟩] scope pos) scope X.env (firstIterPos [⟨tg, iter, ifs, 0⟩] pos) newDict false (eval iter X.env) (some (assign (.Name y py) X.env)) >>= fun _ => pure ()) _ _ s
  refine wpAny_bind (thn (dc_core (use := some (assign (.Name y py) X.env)) (Qf := fun _ s' => SP X pins D .next s') hc hN I hi ok hg ht hk he hs h' fun L C s1 m H1 I1 q hn f => ?_) fun _ s2 hq => wpAny_pure (wpAny_pure hq))
  refine (wpAny_assign_Name (store_ok2 (v := V.ref L) I1 hN hy (.inl hyl) rfl (fun s2 I2 w => ?_) (.inr hyl)) : wpAny _ _ (assign (.Name y py) X.env (.ref L)) _ _ _)
  obtain ⟨b, sb, hb⟩ := w
  obtain ⟨f0, f1, f2, f3, f4, f5⟩ := f
  have ne : C ≠ b := hb.elim (fun z => z ▸ f1) fun z e => f4 y b z e.symm
  exact ⟨m, hn.sameBut sb ne, fun h3 sb3 => ⟨_, H1, I2.turned (t' := s2.toks) (fun c o n e => (sb3.2 c n).trans e) f0 f1 f3 f4 f5, q⟩⟩
theorem sw_dc {kx vx : Expr} {gs : List Comprehension} {scope : Scope} {pos py : Pos} {y : Str} {l : Nat} {env : Env} (hk : env.scope.kind = .function) (hy : env.scope.names.lookup y = some .local) (hl : (py.line == pos.line) = true)
    (ha : (scope.names.any fun (n, k) => n == y && (k == .local || k == .cell)) = false) : swapsWith (.DictComp kx vx gs scope pos) (some (.Name y py)) l env = pure true := by
  have k1 : env.kindOf y = some .local := hy
  have k2 : env.blockKind = .function := by unfold Env.blockKind; rw [hk]; rfl
  unfold swapsWith
  simp only [k2, k1, ha, Expr.pos, hl]
  rfl
end
def Dc (J : It) (g : TG) (tt : TT) (tk tv : TE) (vs : List Nat) (σ : L2.St) (H1 : Hp) (Q : VK) : Prop := ∀ D, H1 D = none → ∃ W : Nat → Nat → Hp → Prop, (∃ m, W 0 m (upd H1 D (.dK []))) ∧ ∀ i m H, W i m H →
  (J.stop i H ∧ Q (.ref D) H) ∨ (J.go i H ∧ ∃ Nx : Hp → Prop, (∀ H', Nx H' → ∃ m', m' < m ∧ W (i + 1) m' H') ∧ ∀ x H', J.yld i H x H' → g x (wipe σ vs) H' fun σ2 H2 => wipe σ2 vs = wipe σ vs ∧ tt σ2 H2 fun b H3 =>
    if b = true then tk σ2 H3 fun y H4 => tv σ2 H4 fun z H5 => ∃ kvs k, y = kV k ∧ H5 D = some (.dK kvs) ∧ kvs.length < sizeLine ∧ Nx (upd H5 D (.dK (putK kvs k z))) else Nx H3)
theorem dc {wi : TI} {g : TG} {tt : TT} {tk tv : TE} {vs : List Nat} {Q : VK} (h : wi σ H fun J H1 => Dc J g tt tk tv vs σ H1 Q) : tDc wi g tt tk tv vs σ H Q := h
def DcPut (D : Addr) (H1 : Hp) (R : Nat → List (Key × V) → Hp → Prop) (i : Nat) (y z : V) (H5 : Hp) : Prop := ∃ kvs k, y = kV k ∧ H5 D = some (.dK kvs) ∧ kvs.length < sizeLine ∧ ∃ kvs', upd H5 D (.dK (putK kvs k z)) D = some (.dK kvs') ∧ Same H1 (upd H5 D (.dK (putK kvs k z))) ∧ R (i + 1) kvs' (upd H5 D (.dK (putK kvs k z)))
def DcNo (D : Addr) (H1 : Hp) (R : Nat → List (Key × V) → Hp → Prop) (i : Nat) (H3 : Hp) : Prop := ∃ kvs', H3 D = some (.dK kvs') ∧ Same H1 H3 ∧ R (i + 1) kvs' H3
theorem dcPut {D : Addr} {H1 H5 : Hp} {R : Nat → List (Key × V) → Hp → Prop} {i : Nat} {k : Key} {z : V} {kvs : List (Key × V)} (hD : H5 D = some (.dK kvs)) (nD : H1 D = none) (s : Same H1 H5) (hz : kvs.length < sizeLine) (r : ∀ G : Hp, G D = some (.dK (putK kvs k z)) → (∀ b, b ≠ D → G b = H5 b) → R (i + 1) (putK kvs k z) G) : DcPut D H1 R i (kV k) z H5 :=
  ⟨kvs, k, rfl, hD, hz, _, upd_same, fun b o e => by rw [upd_ne (ne_of_none e nD)]; exact s b o e, r _ upd_same fun b hb => upd_ne hb⟩
theorem dcS {J : It} {n : Nat} {G : Hp → Prop} {Y : Nat → Hp → V → Hp → Prop} (w : Walk J n G Y) {g : TG} {tt : TT} {tk tv : TE} {vs : List Nat} {H1 : Hp} {Q : VK} (hG : ∀ H, Same H1 H → G H) (R : Addr → Nat → List (Key × V) → Hp → Prop)
    (r0 : ∀ (D : Addr) (G : Hp), H1 D = none → G D = some (.dK []) → Same H1 G → R D 0 [] G)
    (hs : ∀ (D : Addr) i x H H' kvs, H1 D = none → i < n → H D = some (.dK kvs) → Same H1 H → R D i kvs H → Y i H x H' → g x (wipe σ vs) H' fun σ2 H2 => wipe σ2 vs = wipe σ vs ∧ tt σ2 H2 fun b H3 =>
      if b = true then tk σ2 H3 fun y H4 => tv σ2 H4 fun z H5 => DcPut D H1 (R D) i y z H5 else DcNo D H1 (R D) i H3)
    (hd : ∀ (D : Addr) kvs H, H1 D = none → H D = some (.dK kvs) → Same H1 H → R D n kvs H → Q (.ref D) H) : Dc J g tt tk tv vs σ H1 Q := fun D nD => by
  refine ⟨fun i m H => m = n - i ∧ i ≤ n ∧ ∃ kvs, H D = some (.dK kvs) ∧ Same H1 H ∧ R D i kvs H, ⟨n, by simp, Nat.zero_le _, [], upd_same, same_upd nD, r0 D _ nD upd_same (same_upd nD)⟩, ?_⟩
  rintro i m H ⟨rfl, hi, kvs, h1, h2, h3⟩
  have q := hG H h2
  by_cases hlt : i < n
  · refine .inr ⟨w.goes i H hlt q, fun H => ∃ kvs, H D = some (.dK kvs) ∧ Same H1 H ∧ R D (i + 1) kvs H, fun H' p' => ⟨n - (i + 1), by omega, rfl, hlt, p'⟩, fun x H' y => ?_⟩
    exact hs D i x H H' kvs nD hlt h1 h2 h3 (w.yields i H x H' hlt q y)
  · have e : i = n := by omega
    subst e
    exact .inl ⟨w.stops H q, hd D kvs H nD h1 h2 h3⟩
/-! ### sorted -/
theorem sortD {β : Type} {a : Addr} {xs : List V} {bs : List β} {Q : VK} (k : β → PyData) (R : V → β → Prop) (hs : SqL K H a xs) (he : PySem.W.EachIs (fun x b => Dp K H x (k b) ∧ R x b) xs bs) (hk : Rs.Keys (bs.map k))
    (h : ∀ (out : List V) (p : Addr) (G : Hp), PySem.W.EachIs (fun x b => Dp K H x (k b) ∧ R x b) out (bs.mergeSort (PySem.W.dataLe false k)) → H p = none → G p = some (.lst out) → Same H G → Q (.ref p) G) : Rs.rSortD K [.ref a] H Q :=
  ⟨a, xs, β, bs, k, R, rfl, hs, he, hk, h⟩
def SortK (f : Addr) (sp : Sp) (K : PySem.W.Frag) (vs zs : List V) (H : Hp) (Q : VK) : Prop := Rs.rSortK f sp K vs zs H Q
theorem ckw {r : List V → List V → Hp → VK → Prop} {t tk : TA} {Q : VK} (h : t σ H fun vs H1 => tk σ H1 fun zs H2 => r vs zs H2 Q) : tCKw r t tk σ H Q := h
theorem sortK {β : Type} {f : Addr} {sp : Sp} {a : Addr} {xs : List V} {bs : List β} {Q : VK} (k : β → PyData) (R : V → β → Prop) (hs : SqL K H a xs) (he : PySem.W.EachIs R xs bs) (hk : Rs.Keys (bs.map k))
    (hf : ∀ x b H1, Same H H1 → b ∈ bs → R x b → sp [x] H1 (fun v H2 => Same H1 H2 ∧ Dp K H2 v (k b)) (fun _ _ _ => False))
    (h : ∀ (out : List V) (p : Addr) (G : Hp), PySem.W.EachIs R out (bs.mergeSort (PySem.W.dataLe false k)) → H p = none → G p = some (.lst out) → Same H G → Q (.ref p) G) : Rs.rSortK f sp K [.ref a] [.ref f] H Q :=
  ⟨a, xs, β, bs, k, R, rfl, rfl, hs, he, hk, hf, h⟩
def DClr : V → List V → Hp → VK → Prop := rDClear
theorem clr {a : Addr} {kvs : List (Key × V)} {Q : VK} (e : H a = some (.dK kvs)) (h : ∀ G : Hp, G a = some (.dK []) → (∀ b, b ≠ a → G b = H b) → Q .non G) : rDClear (.ref a) [] H Q := ⟨a, kvs, rfl, rfl, e, h _ upd_same fun b hb => upd_ne hb⟩
end Rw
namespace Rd
open PySem PySem.Spec PyProof.Rows L2
variable {σ : L2.St} {H : Hp} {K : PySem.W.Frag}
theorem notT {ta : TE} {Q : VK} (h : ta σ H fun x H1 => ∃ k, TruV K x H1 k ∧ Q (.bl (!k)) H1) : tNotT K ta σ H Q := h
theorem yes {c A B : Prop} {i : Decidable c} (h : c) (a : A) : @ite Prop c i A B := by rw [if_pos h]; exact a
theorem no {c A B : Prop} {i : Decidable c} (h : ¬ c) (a : B) : @ite Prop c i A B := by rw [if_neg h]; exact a
theorem ifX {x : V} {i : Decidable (x = V.non)} {A B : Prop} (n : x ≠ .non) (h : B) : @ite Prop (x = V.non) i A B := by rw [if_neg n]; exact h
theorem ifR {a : Addr} {i : Decidable (V.ref a = V.non)} {A B : Prop} (h : B) : @ite Prop (V.ref a = V.non) i A B := ifX (by intro e; cases e) h
theorem ifI {a : Int} {i : Decidable (V.int a = V.non)} {A B : Prop} (h : B) : @ite Prop (V.int a = V.non) i A B := ifX (by intro e; cases e) h
theorem ifT {a : Str} {i : Decidable (V.str a = V.non)} {A B : Prop} (h : B) : @ite Prop (V.str a = V.non) i A B := ifX (by intro e; cases e) h
theorem ifN {i : Decidable (V.non = V.non)} {A B : Prop} (h : A) : @ite Prop (V.non = V.non) i A B := by rw [if_pos rfl]; exact h
theorem orTH {ta tb : TE} {Q : VK} (h : ta σ H fun x H1 => ∃ k, TruV K x H1 k ∧ if k = true then Q x H1 else tb σ H1 Q) : tOrT K ta tb σ H Q := h
end Rd

/-! Things of any kind, one level deep; exceptions of the program: made, raised, caught, asked. -/
namespace Rx
open PySem PySem.Spec PyProof.Rows L2 Rd
variable {X : Cx} {D : Ends} {σ : L2.St} {H H' : Hp} {K : PySem.W.Frag}
/-! ### kinds -/
inductive Kd where
  | non | bl (b : Bool) | int (i : Int) | str (z : Str) | lst (xs : List V) | tup (xs : List V) | dct
def Kd.ty : Kd → String
  | .non => "NoneType" | .bl _ => "bool" | .int _ => "int" | .str _ => "str" | .lst _ => "list" | .tup _ => "tuple" | .dct => "dict"
/-- what stands at a value -/
inductive Is (H : Hp) : V → Kd → Prop where
  | non : Is H .non .non
  | bl (b : Bool) : Is H (.bl b) (.bl b)
  | int (i : Int) : Is H (.int i) (.int i)
  | str {z : Str} (l : z.length ≤ 1000000) : Is H (.str z) (.str z)
  | lst {a : Addr} {xs : List V} (h : H a = some (.lst xs)) (l : xs.length ≤ 1000000) : Is H (.ref a) (.lst xs)
  | tup {a : Addr} {xs : List V} (h : H a = some (.tup xs)) (l : xs.length ≤ 1000000) : Is H (.ref a) (.tup xs)
  | dct {a : Addr} {kvs : List (Key × V)} (h : H a = some (.dK kvs)) : Is H (.ref a) .dct
theorem Is.same {x : V} {k : Kd} (s : Same H H') (h : Is H x k) : Is H' x k := by
  cases h with
  | non => exact .non
  | bl b => exact .bl b
  | int i => exact .int i
  | str l => exact .str l
  | lst h l => exact .lst (s _ _ h) l
  | tup h l => exact .tup (s _ _ h) l
  | dct h => exact .dct (s _ _ h)
theorem Is.inj {x : V} {k k' : Kd} (h : Is H x k) (h' : Is H x k') : k = k' := by
  cases h <;> cases h' <;> first | rfl | (rename_i a b c d; first | (rw [a] at c; cases c; rfl) | (rw [a] at c; cases c) | (rw [a] at d; cases d) | skip) <;> simp_all
theorem Is.ty {x : V} {k : Kd} (h : Is H x k) : TyX K H x (.type k.ty) := by
  cases h with
  | non => exact .base .non
  | bl b => exact .base (.bl b)
  | int i => exact .base (.int i)
  | str l => exact .base (.str _)
  | lst h l => exact .base (.lst h)
  | tup h l => exact .base (.tup h)
  | dct h => exact .base (.dK h)
def Kd.isInt : Kd → Bool | .int _ => true | .bl _ => true | _ => false
def Kd.isBl : Kd → Bool | .bl _ => true | _ => false
def Kd.isStr : Kd → Bool | .str _ => true | _ => false
def Kd.isLst : Kd → Bool | .lst _ => true | _ => false
def Kd.isTup : Kd → Bool | .tup _ => true | _ => false
def Kd.isDct : Kd → Bool | .dct => true | _ => false
def Kd.isSeq : Kd → Bool | .lst _ => true | .tup _ => true | _ => false
/-- an integer and no flag -/
def Kd.isNum : Kd → Bool | .int _ => true | _ => false
theorem kdInt : ∀ k : Kd, kitB k.ty "int" = some k.isInt
  | .non => (by decide +kernel : kitB "NoneType" "int" = some false)
  | .bl _ => (by decide +kernel : kitB "bool" "int" = some true)
  | .int _ => (by decide +kernel : kitB "int" "int" = some true)
  | .str _ => (by decide +kernel : kitB "str" "int" = some false)
  | .lst _ => (by decide +kernel : kitB "list" "int" = some false)
  | .tup _ => (by decide +kernel : kitB "tuple" "int" = some false)
  | .dct => (by decide +kernel : kitB "dict" "int" = some false)
theorem kdBl : ∀ k : Kd, kitB k.ty "bool" = some k.isBl
  | .non => (by decide +kernel : kitB "NoneType" "bool" = some false)
  | .bl _ => (by decide +kernel : kitB "bool" "bool" = some true)
  | .int _ => (by decide +kernel : kitB "int" "bool" = some false)
  | .str _ => (by decide +kernel : kitB "str" "bool" = some false)
  | .lst _ => (by decide +kernel : kitB "list" "bool" = some false)
  | .tup _ => (by decide +kernel : kitB "tuple" "bool" = some false)
  | .dct => (by decide +kernel : kitB "dict" "bool" = some false)
theorem kdStr : ∀ k : Kd, kitB k.ty "str" = some k.isStr
  | .non => (by decide +kernel : kitB "NoneType" "str" = some false)
  | .bl _ => (by decide +kernel : kitB "bool" "str" = some false)
  | .int _ => (by decide +kernel : kitB "int" "str" = some false)
  | .str _ => (by decide +kernel : kitB "str" "str" = some true)
  | .lst _ => (by decide +kernel : kitB "list" "str" = some false)
  | .tup _ => (by decide +kernel : kitB "tuple" "str" = some false)
  | .dct => (by decide +kernel : kitB "dict" "str" = some false)
theorem kdLst : ∀ k : Kd, kitB k.ty "list" = some k.isLst
  | .non => (by decide +kernel : kitB "NoneType" "list" = some false)
  | .bl _ => (by decide +kernel : kitB "bool" "list" = some false)
  | .int _ => (by decide +kernel : kitB "int" "list" = some false)
  | .str _ => (by decide +kernel : kitB "str" "list" = some false)
  | .lst _ => (by decide +kernel : kitB "list" "list" = some true)
  | .tup _ => (by decide +kernel : kitB "tuple" "list" = some false)
  | .dct => (by decide +kernel : kitB "dict" "list" = some false)
theorem kdTup : ∀ k : Kd, kitB k.ty "tuple" = some k.isTup
  | .non => (by decide +kernel : kitB "NoneType" "tuple" = some false)
  | .bl _ => (by decide +kernel : kitB "bool" "tuple" = some false)
  | .int _ => (by decide +kernel : kitB "int" "tuple" = some false)
  | .str _ => (by decide +kernel : kitB "str" "tuple" = some false)
  | .lst _ => (by decide +kernel : kitB "list" "tuple" = some false)
  | .tup _ => (by decide +kernel : kitB "tuple" "tuple" = some true)
  | .dct => (by decide +kernel : kitB "dict" "tuple" = some false)
theorem kdDct : ∀ k : Kd, kitB k.ty "dict" = some k.isDct
  | .non => (by decide +kernel : kitB "NoneType" "dict" = some false)
  | .bl _ => (by decide +kernel : kitB "bool" "dict" = some false)
  | .int _ => (by decide +kernel : kitB "int" "dict" = some false)
  | .str _ => (by decide +kernel : kitB "str" "dict" = some false)
  | .lst _ => (by decide +kernel : kitB "list" "dict" = some false)
  | .tup _ => (by decide +kernel : kitB "tuple" "dict" = some false)
  | .dct => (by decide +kernel : kitB "dict" "dict" = some true)
theorem askInt {x : V} {k : Kd} {Q : VK} (h : Is H x k) (q : Q (.bl k.isInt) H) : rIsi K [x, .ty "int"] H Q := Rd.isi h.ty (kdInt k) q
theorem askBl {x : V} {k : Kd} {Q : VK} (h : Is H x k) (q : Q (.bl k.isBl) H) : rIsi K [x, .ty "bool"] H Q := Rd.isi h.ty (kdBl k) q
theorem askStr {x : V} {k : Kd} {Q : VK} (h : Is H x k) (q : Q (.bl k.isStr) H) : rIsi K [x, .ty "str"] H Q := Rd.isi h.ty (kdStr k) q
theorem askLst {x : V} {k : Kd} {Q : VK} (h : Is H x k) (q : Q (.bl k.isLst) H) : rIsi K [x, .ty "list"] H Q := Rd.isi h.ty (kdLst k) q
theorem askTup {x : V} {k : Kd} {Q : VK} (h : Is H x k) (q : Q (.bl k.isTup) H) : rIsi K [x, .ty "tuple"] H Q := Rd.isi h.ty (kdTup k) q
theorem askDct {x : V} {k : Kd} {Q : VK} (h : Is H x k) (q : Q (.bl k.isDct) H) : rIsi K [x, .ty "dict"] H Q := Rd.isi h.ty (kdDct k) q
/-- (list, tuple) was just laid at tp -/
theorem askSeq {x : V} {k : Kd} {tp : Addr} {Q : VK} (ht : H tp = some (.tup [.ty "list", .ty "tuple"])) (h : Is H x k) (q : Q (.bl k.isSeq) H) : rIsiT K [x, .ref tp] H Q := by
  refine ⟨_, tp, _, _, [.type "list", .type "tuple"], k.isSeq, rfl, ht, .cons (.ty _) (.cons (.ty _) .nil), h.ty, ?_, q⟩
  have e1 := kdLst k
  have e2 := kdTup k
  refine kitAny_cons (kit_ty e1) (fun z1 => kitAny_cons (kit_ty e2) (fun z2 => ?_) fun z => ?_) fun z => ?_
  · rw [kitAny_nil]
    cases k <;> first | rfl | (cases z1; done) | (cases z2; done)
  · cases k <;> first | rfl | cases z
  · cases k <;> first | rfl | cases z
/-! ### equal without a look inside -/
/-- the one is the other, or both are equal data -/
def EqI (K : PySem.W.Frag) (H : Hp) (x y : V) : Prop := (x = y ∧ flatB x = true) ∨ (∃ a, x = .ref a ∧ y = .ref a) ∨ ∃ d e, Dp K H x d ∧ Dp K H y e ∧ SeqAt.shaped d = true ∧ SeqAt.shaped e = true ∧ PyData.eqv d e = true
theorem eqI_run {pins : List (Addr × Obj)} {s : Shared} (I : Inv X pins σ H s) {A : Around} (hu : A.units + 64 < cLine) {x y : V} {v u : Value} (h : EqI X.K H x y) (rx : RelV x v) (ry : RelV y u) : SeqAt.EqAt A s v u true := by
  rcases h with ⟨rfl, f⟩ | ⟨a, rfl, rfl⟩ | ⟨d, e, hd, he, sd, se, q⟩
  · exact eqAt_same rx ry f
  · cases (show v = Value.ref a from rx)
    cases (show u = Value.ref a from ry)
    exact SeqAt.EqAt.same _
  · obtain ⟨as, r1⟩ := Dp.reads I d x v hd rx
    obtain ⟨bs, r2⟩ := Dp.reads I e y u he ry
    have z := SeqAt.eqAt_reads d e A s v u as bs r1 r2 (SeqAt.canLay_of_shaped sd) (SeqAt.canLay_of_shaped se) (SeqAt.room_of_shaped sd hu)
    rw [q] at z
    exact z
theorem eqIs_run {pins : List (Addr × Obj)} {s : Shared} (I : Inv X pins σ H s) {A : Around} (hu : A.units + 64 < cLine) {xs ys : List V} (hp : Paired (EqI X.K H) xs ys) :
    ∀ {us ws : List Value}, Vals xs us → Vals ys ws → ∀ j (h1 : j < us.length) (h2 : j < ws.length), SeqAt.EqAt A s us[j] ws[j] true := by
  induction hp with
  | nil =>
    intro us ws r1 r2 j h1 h2
    cases r1
    exact absurd h1 (Nat.not_lt_zero j)
  | cons h _ k =>
    intro us ws r1 r2 j h1 h2
    cases r1 with
    | cons a1 b1 =>
      cases r2 with
      | cons a2 b2 =>
        cases j with
        | zero => exact eqI_run I hu h a1 a2
        | succ j => exact k b1 b2 j (Nat.lt_of_succ_lt_succ h1) (Nat.lt_of_succ_lt_succ h2)
/-- two tuples whose items are equal -/
def TupEq (K : PySem.W.Frag) (H : Hp) (x y : V) : Prop := ∃ a b xs ys, x = .ref a ∧ y = .ref b ∧ SqT K H a xs ∧ SqT K H b ys ∧ Paired (EqI K H) xs ys
def rEqX (K : PySem.W.Frag) : R2 := fun x y H Q => TupEq K H x y ∧ Q (.bl true) H
def rNeX (K : PySem.W.Frag) : R2 := fun x y H Q => TupEq K H x y ∧ Q (.bl false) H
theorem op_neX (hu : X.A.units + 66 < cLine) : OpR X (compareOp .NotEq) (rNeX X.K) := by
  intro pins s σ H x y v u Q I rx ry h
  obtain ⟨⟨a, b, xs, ys, rfl, rfl, ha, hb, hp⟩, q⟩ := h
  cases (show v = Value.ref a from rx)
  cases (show u = Value.ref b from ry)
  obtain ⟨us, r1, p1⟩ := I.tuple ha
  obtain ⟨ws, r2, p2⟩ := I.tuple hb
  have hsz : us.toArray.size = ws.toArray.size := by
    rw [List.size_toArray, List.size_toArray, ← r1.length, ← r2.length]
    exact Paired.length hp
  refine SeqAt.RcNeAt.tuples (e := fun _ => true) p1.1 p2.1 (by omega) (fun j h1 h2 => ?_) X.prog X.w _ _ ?_
  · have k := eqIs_run I (A := X.A.in1) (by show X.A.units + 1 + 64 < cLine; omega) hp r1 r2 j (by simpa using h1) (by simpa using h2)
    simpa using k
  · rw [show ((List.range (min us.toArray.size ws.toArray.size)).all fun _ => true) = true from List.all_eq_true.mpr fun _ _ => rfl, hsz]
    exact ⟨.bl false, H, I, by simp [L2.RelV], q⟩
theorem op_eqX (hu : X.A.units + 66 < cLine) : OpR X (compareOp .Eq) (rEqX X.K) := by
  intro pins s σ H x y v u Q I rx ry h
  obtain ⟨⟨a, b, xs, ys, rfl, rfl, ha, hb, hp⟩, q⟩ := h
  cases (show v = Value.ref a from rx)
  cases (show u = Value.ref b from ry)
  obtain ⟨us, r1, p1⟩ := I.tuple ha
  obtain ⟨ws, r2, p2⟩ := I.tuple hb
  have hsz : us.toArray.size = ws.toArray.size := by
    rw [List.size_toArray, List.size_toArray, ← r1.length, ← r2.length]
    exact Paired.length hp
  refine SeqAt.RcAt.tuples (e := fun _ => true) p1.1 p2.1 (by omega) (fun j h1 h2 => ?_) X.prog X.w _ _ ?_
  · have k := eqIs_run I (A := X.A.in1) (by show X.A.units + 1 + 64 < cLine; omega) hp r1 r2 j (by simpa using h1) (by simpa using h2)
    simpa using k
  · rw [show ((List.range (min us.toArray.size ws.toArray.size)).all fun _ => true) = true from List.all_eq_true.mpr fun _ _ => rfl, hsz]
    exact ⟨.bl true, H, I, by simp [L2.RelV], q⟩
end Rx
namespace Rx
open PySem PySem.Spec PyProof.Rows L2 Rd
/-! ### classes of exceptions, their __init__(self, value) at fI -/
structure ExcF (K : PySem.W.Frag) (fI C : Addr) : Prop where
  ox : OexC K C
  is : ExcC K C
  iC : PySem.W.findIn K (.ref C) "__init__" = some (some (.ref fI))
  nv : PySem.W.findIn K (.ref C) "value" = some none
  cl : PySem.W.isClsIn K C = true
  self : PySem.W.subIn K (.ref C) (.ref C) = some true
section
variable {K : PySem.W.Frag} {fI C E : Addr} {b : Bool}
theorem kitC (FE : ExcF K fI E) (h : PySem.W.subIn K (.ref C) (.ref E) = some b) : PySem.W.kitCls K (.ref C) (.ref E) = some b := by
  have h2 : (PySem.W.clsIn K E).isSome = true := FE.cl
  have e2 : ((PySem.W.clsIn K E).isSome && PySem.W.typeIn K (.ref E) == some (.type "type")) = true := by
    rw [h2, FE.ox.tyC] <;> rfl
  show (if ((PySem.W.clsIn K E).isSome && PySem.W.typeIn K (.ref E) == some (.type "type")) = true then PySem.W.subIn K (.ref C) (.ref E) else none) = some b
  rw [if_pos e2]
  exact h
theorem kit (FC : ExcF K fI C) (FE : ExcF K fI E) (h : PySem.W.subIn K (.ref C) (.ref E) = some b) : PySem.W.kitOne K (.ref C) (.ref E) = some b := by
  unfold PySem.W.kitOne
  by_cases c : C = E
  · subst c
    rw [FC.self] at h
    cases h
    rw [if_pos (beq_self_eq_true _)]
  · rw [if_neg (fun z => c (by simpa using z))]
    exact kitC FE h
theorem exm (FE : ExcF K fI E) (h : PySem.W.subIn K (.ref C) (.ref E) = some b) : PySem.W.exmOne K (.ref C) (.ref E) = some b := by
  have e1 : (PySem.W.subIn K (.ref E) (.type "BaseException") == some true) = true := by rw [FE.is.hs] <;> rfl
  show (if (PySem.W.subIn K (.ref E) (.type "BaseException") == some true) = true then PySem.W.kitCls K (.ref C) (.ref E) else none) = some b
  rw [if_pos e1]
  exact kitC FE h
end
/-! ### monotone readings -/
def tMono (te : TE) : TE := fun σ H Q => ∃ Q0 : VK, te σ H Q0 ∧ ∀ v H1, Q0 v H1 → Q v H1
theorem pe_mono {X : Cx} {e : Expr} {te : TE} (he : PE X e te) : PE X e (tMono te) := ⟨fun pins s σ H Q I h => by
  obtain ⟨Q0, h, imp⟩ := h
  exact thn (he.run pins s σ H Q0 I h) fun u s1 ⟨v, H1, I1, r1, q⟩ => ⟨v, H1, I1, r1, imp v H1 q⟩⟩
/-! ### raise C(e) -/
/-- self.value = value -/
def spWe (K : PySem.W.Frag) : Sp := fun vs H Q _ => ∃ (a C : Addr) (v : V), vs = [.ref a, v] ∧ OexC K C ∧ PySem.W.findIn K (.ref C) "value" = some none ∧ H a = some (exo a C none) ∧
  ∀ dx, H dx = none → dx ≠ a → Q .non (upd (upd H dx (exd dx [("value", v)])) a (exo a C (some dx)))
/-- behind: the exception's dict d is new and holds v -/
def RaiseQ (C : Addr) (v : V) (H1 : Hp) (Q : XK) : Prop := ∀ (d : Addr) (H2 : Hp), H1 d = none → H2 d = some (.xd [("value", v)]) → (∀ b, b ≠ d → H2 b = H1 b) → Q (.ref C) (some d) H2
def tRaise (C : Addr) (W : WX) (te : TE) : TS := fun _ σ H => te σ H fun v H1 => RaiseQ C v H1 fun cls d H2 => W cls d σ H2
theorem raiseH {C : Addr} {W : WX} {te : TE} {D : Ends} {σ : L2.St} {H : Hp} (h : te σ H fun v H1 => RaiseQ C v H1 fun cls d H2 => W cls d σ H2) : tRaise C W te D σ H := h
/-- what a raised exception leaves: all as it was, and its value in its dict -/
def Raised (C : Addr) (v : V) (H : Hp) (E : XK) : Prop := ∀ (d : Addr) (H2 : Hp), H d = none → H2 d = some (.xd [("value", v)]) → Same H H2 → E (.ref C) (some d) H2
theorem Raised.now {C : Addr} {v : V} {H H1 : Hp} {E : XK} (r : Raised C v H E) (s : Same H H1) : RaiseQ C v H1 E := fun d H2 n e k =>
  r d H2 (s.free n) e fun b o q => (k b (ne_of_none (s _ _ q) n)).trans (s _ _ q)
theorem mk_reads {K : PySem.W.Frag} {fI C : Addr} {te : TE} {σ : L2.St} {H : Hp} {Q : XK} (F : ExcF K fI C) (h : te σ H fun v H1 => RaiseQ C v H1 Q) : tMkO C (spWe K) [] (tCons (tMono te) tNil) σ H Q := by
  refine ⟨_, h, fun v H1 hv => ?_⟩
  refine ⟨(by decide : 1 ≤ 1000), fun a na => ⟨a, C, v, rfl, F.ox, F.nv, upd_same, fun dx ndx ne => ⟨rfl, dx, [("value", v)], upd_same, ?_, ?_, ?_⟩⟩⟩
  · rw [upd_ne ne, upd_same]
  · rw [upd_ne ne] at ndx
    exact ndx
  · rw [upd_ne ne] at ndx
    refine hv dx _ ndx upd_same fun b hb => ?_
    rw [upd_ne hb]
    by_cases c : b = a
    · rw [c, del_same, na]
    · rw [del_ne c, upd_ne c, upd_ne hb, upd_ne c]
section
variable {X : Cx} {x : Str} {e : Expr} {te : TE} {p pos pos2 : Pos} {C fI : Addr} {k : Nat} {fd : FuncData} {W : WX}
theorem ps_raise1 (hc : X.calm = true) (F : ExcF X.K fI C) (tI : PySem.W.typeIn X.K (.ref fI) = some (.type "function")) (F1 : FnOk X.prog X.w X.K X.mg X.base CX0 k fI fd ["self", "value"] (spWe X.K)) (hr : Room (k + 1) X.A) (hb : Binds X.K fd ["self", "value"] [])
    (hg : Gl X x) (hm : X.mg x = some (.ref C)) (tk : Takes X W) (he : PE X e te) (hdb : (x == ("__debug__" : Str)) = false := by decide) (hs : starEach (e :: []) X.env = (false, eval e X.env) :: starEach [] X.env := by rfl) (hpl : (backTo pos (starEach [] X.env)).any (·.1) = false := by rfl) :
    PS X (.Raise (some (.Call (.Name x p) [e] [] pos)) none pos2) (tRaise C W te) :=
  have z := ps_raise (pos := pos2) hc tk (pmk_oex (p := p) (pos := pos) F.ox F.iC tI F1 hr hb .nil (CX := CX0) (fun _ _ _ _ _ _ _ h => h.elim) hg hm (pa_cons (pe_mono he) pa_nil hs) hdb hs hpl)
  ⟨fun pins s σ H D I h => z.run pins s σ H D I (mk_reads F h)⟩
end
/-! ### what is asked of a caught exception -/
def rIsX (K : PySem.W.Frag) (a : Addr) (cls : Value) (d : Option Addr) : List V → Hp → VK → Prop := fun xs H Q => ∃ (D dd : Addr) (fs : List (Str × V)) (c : V) (cv : Value) (b : Bool), cls = .ref D ∧ d = some dd ∧ ExcC K D ∧ H dd = some (.xd fs) ∧ xs = [.ref a, c] ∧
  ClsV c cv ∧ PySem.W.kitOne K (.ref D) cv = some b ∧ Q (.bl b) H
end Rx
namespace PySem.W
open PySem PySem.Spec PySem.Calls PyProof.Rows
section
variable {prog : Program} {w : World} {A : Around} {E : Value → Shared → Prop} {s : Shared} {K : Frag} {x D : Addr} {ox : Obj} {od : Option Obj}
theorem findObj_dataX {C : Addr} {name : Str} {a g : Value} (hc : (clsIn K C).isSome = true) (ha : findIn K (.ref C) name = some (some a)) (hg : specialIn K a "__get__" = some (some g)) (ht : takesIn K a = some true) : findObj K C od name = some (.bind g a) := by
  obtain ⟨cd, hc⟩ := Option.isSome_iff_exists.mp hc
  unfold findObj
  rw [hc, Option.bind_some, ha, Option.bind_some]
  simp [hg, ht]
theorem kin_classX {Q : Option Value → Shared → Prop} (hga : findIn K (.ref D) "__getattribute__" = some (some (.builtin "BaseException.__getattribute__"))) (hgt : findIn K (.ref D) "__getattr__" = some none) (hsub : subIn K (.ref D) (.type "BaseException") = some true)
    (hdct : hasDictIn K D = true) (ha : findIn K (.ref D) "__class__" = some (some (.builtin "object.__class__")))
    (hn : specialIn K (.builtin "object.__class__") "__get__" = some (some (.builtin "getset_descriptor.__get__"))) (htk : takesIn K (.builtin "object.__class__") = some true) (hm : mroIn K D (.type "object") = some true)
    (X : K.In s.heap) (I : InstAt s.heap x ox D od) (h : Q (some (.ref D)) { s with toks := s.toks + 1 }) : wpAny (model prog w) A (getAttr? (.ref x) "__class__") Q E s := by
  have hf : findObj K D od "__class__" = some (.bind (.builtin "getset_descriptor.__get__") (.builtin "object.__class__")) := findObj_dataX (by obtain ⟨cd, hc, _⟩ := any_some hdct; rw [hc]; rfl) ha hn htk
  obtain ⟨hp, g, d, t, os⟩ := s
  have L0 := I.type (M := model prog w)
  have L1 := looks_findIn (M := model prog w) X hga
  have L2 := looks_findIn (M := model prog w) X hgt
  have L3 := looks_find (M := model prog w) X I hf
  have sub : Looks (model prog w) hp (isInstance (.ref x) (.type "BaseException")) true := L0.andThen (looks_subIn X hsub)
  have hx0 : (false && onTheHeap (Value.builtin "BaseException.__getattribute__")) = false := rfl
  have hx2 : (Value.builtin "BaseException.__getattribute__" == Value.builtin "object.__getattribute__") = false := by decide +kernel
  have hx1 : (onTheHeap (Value.ref D) && Value.builtin "BaseException.__getattribute__" == Value.builtin "object.__getattribute__") = false := by rw [hx2]; rfl
  unfold getAttr? getAttrBy? getAttrBy
  refine wpAny_bind (wpAny_mkText (wpAny_bind (wpAny_attempt (wpAny_holding (wpAny_bind (L0.at (wpAny_bind (L1.at ?_))))))))
  show wpAny _ _ (if (onTheHeap (Value.ref D) && Value.builtin "BaseException.__getattribute__" == Value.builtin "object.__getattribute__") = true then _ else _) _ _ _
  rw [hx1, if_neg Bool.false_ne_true]
  unfold getAttrByItsOwn hookBefore
  refine wpAny_bind ?_
  rw [if_pos (show onTheHeap (Value.ref D) = true from rfl)]
  refine L2.at ?_
  refine wpAny_bind (wpAny_attempt (wpAny_holding ?_))
  unfold callGetattribute
  rw [hx0, if_neg Bool.false_ne_true]
  unfold boundAndCalled
  rw [PySem.F.excAttr_ValueError.ga.bind (.ref x)]
  refine wpAny_bind (wpAny_pure ?_)
  show wpAny _ _ (call (.builtin "BaseException.__getattribute__") [.ref x, .str "__class__" t]) _ _ _
  refine wpAny_call (codeAny_call_builtin PySem.F.excAttr_ValueError.ga.plain PySem.F.entry_bexc_ga ?_)
  refine @check_slot (model prog w) _ _ ⟨hp, g, d, t + 1, os⟩ "BaseException.__getattribute__" "BaseException" "__getattribute__" (.ref x) [.str "__class__" t] [] _ (by decide +kernel) (by decide +kernel) sub (PySem.F.args_bexc_ga (.ref x) (.str "__class__" t)) ?_
  unfold Builtin.«object.__getattribute__»
  refine wpAny_bind (wpAny_of_eq (a := ((Value.ref x : Value), [Value.str "__class__" t])) (by first | rfl | (simp only [slotArgs]; rfl)) ?_)
  refine wpAny_bind (wpAny_pure (wpAny_bind (L0.at (wpAny_bind (L3.at ?_)))))
  show wpAny _ _ (holding [Value.builtin "object.__class__"] (call (.builtin "getset_descriptor.__get__") [.builtin "object.__class__", .ref x, .ref D]) >>= ret) _ _ _
  refine wpAny_bind (wpAny_holding (wpAny_call (class_get (s := ⟨hp, g, d, t + 1, os⟩) (ox := ox) (od := od) X I hm ?_)))
  refine wpAny_pure ?_
  show wpAny _ _ (handedOut (.ref D)) _ _ _
  rw [handedOut_of (v := .ref D) rfl]
  first
    | exact wpAny_pure (wpAny_pure h)
    | exact wpAny_pure h
    | exact wpAny_pure (wpAny_bind (wpAny_pure (wpAny_pure h)))
theorem kitx_excX (hga : findIn K (.ref D) "__getattribute__" = some (some (.builtin "BaseException.__getattribute__"))) (hgt : findIn K (.ref D) "__getattr__" = some none) (hsub : subIn K (.ref D) (.type "BaseException") = some true) (hdct : hasDictIn K D = true) (ha : findIn K (.ref D) "__class__" = some (some (.builtin "object.__class__")))
    (hn : specialIn K (.builtin "object.__class__") "__get__" = some (some (.builtin "getset_descriptor.__get__"))) (htk : takesIn K (.builtin "object.__class__") = some true) (hm : mroIn K D (.type "object") = some true) :
    KitX K (.ref x) (.ref D) (fun h => InstAt h x ox D od) where
  ty := fun _ _ _ I => I.type
  it := fun _ _ X _ => by
    obtain ⟨cdD, hcD, _⟩ := any_some hdct
    unfold clsIn at hcD
    split at hcD
    · rename_i c' d' cd' sl' ho
      intro A' Q' E' s' k q
      unfold isType loadHead
      exact wpAny_bind (wpAny_loadPart (k _ _ (X _ _ ho)) (wpAny_pure q))
    · cases hcD
  ne := fun h tp dd its n sl X htp => by
    obtain ⟨cdD, hcD, _⟩ := any_some hdct
    refine Bool.eq_false_iff.mpr fun q => ?_
    have e : D = tp := Value.ref.inj (beq_iff_eq.mp q)
    subst e
    unfold clsIn at hcD
    split at hcD
    · rename_i c' d' cd' sl' ho
      have z := (X _ _ ho).symm.trans htp
      cases z
    · cases hcD
  ca := fun X I k => kin_classX hga hgt hsub hdct ha hn htk hm X I k
end
end PySem.W
namespace Rx
open PySem PySem.Spec PyProof.Rows L2 Rd
theorem call_isX {X : Cx} {a : Addr} {oe : Obj} {cls : Value} {d : Option Addr} {pn : List (Addr × Obj)} (hz : Zc cls d oe) (hf : ∃ vs, oe.data = .fields vs) : CallR (X.suite a ((a, oe) :: pn)) (.builtin "isinstance") (rIsX X.K a cls d) := by
  intro pins s σ H xs us Q I r h
  obtain ⟨D, dd, fs, c, cv, b, rfl, rfl, C, hd, rfl, hcv, e, q⟩ := h
  obtain ⟨u1, u2, rfl, r1, r2⟩ := vals2 r
  cases (show u1 = Value.ref a from r1)
  have ec := hcv.eq r2
  subst ec
  obtain ⟨hget, _⟩ := I.pin (a, oe) (List.mem_append.mpr (.inl List.mem_cons_self))
  obtain ⟨vs, hv⟩ := hf
  have hx : ObjOk X.prog X.w H s.heap dd (.xd fs) := I.hok dd _ hd
  obtain ⟨mA, hns, hr⟩ := hx
  obtain ⟨od, ho, hl⟩ := lookIn_ns hns
  have J : PySem.W.InstAt s.heap a oe D (some od) := ⟨hget, hz.1, by unfold PySem.W.notCls; rw [hv] <;> rfl, by rw [hz.2]; exact ho⟩
  exact PySem.W.kia_one (PySem.W.kitx_excX C.hg C.hk C.hs C.hd C.ha C.hn C.ht C.hm) I.kIn J e (fun z => nomatch z) fun tk => ⟨.bl b, H, I.kept (t' := tk) fun _ _ z => z, rfl, q⟩
theorem isX {K : PySem.W.Frag} {a fI C E dd : Addr} {b : Bool} {fs : List (Str × V)} {H : Hp} {Q : VK} (FC : ExcF K fI C) (FE : ExcF K fI E) (h : PySem.W.subIn K (.ref C) (.ref E) = some b) (hd : H dd = some (.xd fs)) (q : Q (.bl b) H) : rIsX K a (.ref C) (some dd) [.ref a, .ref E] H Q :=
  ⟨C, dd, fs, _, _, b, rfl, rfl, FC.is, hd, rfl, .own E, kit FC FE h, q⟩
/-- e.value -/
def XvG (K : PySem.W.Frag) (a : Addr) (cls : Value) (d : Option Addr) (n : Str) : V → Hp → VK → Prop := fun x H1 Q => x = .ref a ∧ ∃ (C dd : Addr) (fs : List (Str × V)) (v : V), cls = .ref C ∧ d = some dd ∧ ExcC K C ∧ PySem.W.findIn K (.ref C) n = some none ∧ H1 dd = some (.xd fs) ∧ fs.lookup n = some v ∧ Q v H1
def tXv (K : PySem.W.Frag) (a : Addr) (cls : Value) (d : Option Addr) (n : Str) (te : TE) : TE := fun σ H Q => te σ H fun x H1 => XvG K a cls d n x H1 Q
theorem pe_xv {X : Cx} {a : Addr} {oe : Obj} {cls : Value} {d : Option Addr} {pn : List (Addr × Obj)} {e : Expr} {te : TE} {pos : Pos} {n : Str} (hz : Zc cls d oe) (hf : ∃ vs, oe.data = .fields vs) (he : PE (X.suite a ((a, oe) :: pn)) e te)
    (hb : attributeBase e n X.env (eval e X.env) = eval e X.env := by rfl) : PE (X.suite a ((a, oe) :: pn)) (.Attribute e n pos) (tXv X.K a cls d n te) := by
  refine ⟨fun pins s σ H Q I h => ?_⟩
  refine attr_of hb (thn (he.run pins s σ H _ I h) fun u s1 hh => ?_)
  obtain ⟨x, H1, I1, rx, ex, C, dd, fs, v, ec, ed, T, hno, ea, l, q⟩ := hh
  subst ex
  obtain rfl : u = Value.ref a := rx
  subst ec
  subst ed
  obtain ⟨ha, _⟩ := I1.pin (a, oe) (List.mem_append_left _ List.mem_cons_self)
  obtain ⟨vs, hd⟩ := hf
  have hx : ObjOk X.prog X.w H1 s1.heap dd (.xd fs) := I1.hok dd _ ea
  obtain ⟨mA, hns, hr⟩ := hx
  obtain ⟨od, ho, hl⟩ := lookIn_ns hns
  obtain ⟨u, hu, ru⟩ := RelO.some_of (v := v) (o := mA n) (by rw [← l]; exact hr n)
  have J : PySem.W.InstAt s1.heap a oe C (some od) := ⟨ha, hz.1, by unfold PySem.W.notCls; rw [hd] <;> rfl, by rw [hz.2]; exact ho⟩
  exact HandSPX.exc_get I1.kIn J T.hg T.hk T.hs (PySem.W.findObj_own T.hd hno rfl (by rw [hl, hu])) (handed_of ru) ⟨v, H1, I1.tok _, ru, q⟩
theorem xvH {K : PySem.W.Frag} {a : Addr} {cls : Value} {d : Option Addr} {n : Str} {te : TE} {σ : L2.St} {H : Hp} {Q : VK} (h : te σ H fun x H1 => XvG K a cls d n x H1 Q) : tXv K a cls d n te σ H Q := h
theorem xv {K : PySem.W.Frag} {a fI C dd : Addr} {v : V} {H : Hp} {Q : VK} (F : ExcF K fI C) (hd : H dd = some (.xd [("value", v)])) (q : Q v H) : XvG K a (.ref C) (some dd) "value" (.ref a) H Q :=
  ⟨rfl, C, dd, _, v, rfl, rfl, F.is, F.nv, hd, by simp [List.lookup], q⟩
/-- the clause names the class that it is -/
theorem caught {K : PySem.W.Frag} {fI C E : Addr} {i : Nat} {ts : Addr → Value → Option Addr → TS} {Wout : WX} {D : Ends} {d : Option Addr} {σ : L2.St} {H : Hp} (FE : ExcF K fI E) (h : PySem.W.subIn K (.ref C) (.ref E) = some true)
    (q : ∀ a, H a = none → ts a (.ref C) d { nx := fun σ' H' => D.nx (σ'.set i none) H', rt := D.rt, bk := fun σ' H' => D.bk (σ'.set i none) H', ct := fun σ' H' => D.ct (σ'.set i none) H' } (σ.set i (some (.ref a))) H) : wAs K (.ref E) i ts Wout D (.ref C) d σ H :=
  ⟨true, exm FE h, fun _ a na => q a na, fun z => nomatch z⟩
theorem callS {sp : Sp} {E : L2.St → XK} {t : TA} {σ : L2.St} {H : Hp} {Q : VK} (h : t σ H fun vs H1 => sp vs H1 Q (E σ)) : tCallS sp E t σ H Q := h
end Rx
namespace Rx
open PySem PySem.Spec PyProof.Rows L2 Rd
/-- an __init__(self, value=None) called with both -/
theorem binds2 {K : PySem.W.Frag} {x qual : Str} {params : Arguments} {body : List Stmt} {scope : Scope} {f : Addr} {fd : FuncData} (F : FunD K x qual params body scope [.non] [] f fd)
    (h : ∀ (T : Addr) (kV doc pm : Value) (an : Option Addr) (cdv ct : Value) (us its : List Value), us.length = 2 → its.length = 1 →
      ∃ k, bindArgs (PySem.W.fnOf x qual params body scope (.ref T) kV doc pm an cdv ct) ⟨us, []⟩ = seqItems? (.ref T) >>= k ∧ k (some its.toArray) = pure ((["self", "value"] : List Str).zip (us ++ its.drop 1))) : Binds K fd ["self", "value"] [] := by
  obtain ⟨ds, r, b⟩ := F.binds1 (ps := ["self", "value"]) 2 1 (by simp) rfl h
  cases r
  exact b
end Rx
namespace Rx
open PySem PySem.Spec PyProof.Rows L2 Rd
theorem u66 {k : Nat} {A : Around} (h : Room k A) : A.units + 66 < cLine := by have := h.un; omega
/-! ### text * int -/
def nRepS : R2 := fun x y H Q => ∃ (z : Str) (n : Int), x = .str z ∧ y = .int n ∧ MulOk z n ∧ Q (.str (Txt.mul z n)) H
theorem o_repS {X : Cx} : OpR X (binaryOp .Mult) nRepS := by
  intro pins s σ H x y v u Q I rx ry h
  obtain ⟨z, n, rfl, rfl, hok, q⟩ := h
  obtain ⟨t, rfl⟩ := rx
  obtain ⟨t', rfl⟩ := ry
  exact SB.mul hok fun t' k => ⟨.str (Txt.mul z n), H, I.tok _, ⟨_, rfl⟩, q⟩
theorem repS {z : Str} {n : Int} {H : Hp} {Q : VK} (hok : MulOk z n) (q : Q (.str (Txt.mul z n)) H) : nRepS (.str z) (.int n) H Q := ⟨z, n, rfl, rfl, hok, q⟩
/-! ### things with their items -/
/-- what stands at a value, and at its items -/
def Rowed (H : Hp) (x : V) (k : Kd) (ks : List Kd) : Prop := Is H x k ∧ ∀ xs, k = .lst xs ∨ k = .tup xs → Paired (Is H) xs ks
theorem paired_same {H H' : Hp} (s : Same H H') {xs : List V} {ks : List Kd} (h : Paired (Is H) xs ks) : Paired (Is H') xs ks := by
  induction h with
  | nil => exact .nil
  | cons a _ ih => exact .cons (a.same s) ih
theorem Rowed.same {H H' : Hp} {x : V} {k : Kd} {ks : List Kd} (s : Same H H') (h : Rowed H x k ks) : Rowed H' x k ks := ⟨h.1.same s, fun xs e => paired_same s (h.2 xs e)⟩
/-- an address that is not t's -/
def Off (t : Addr) (x : V) : Prop := x ≠ .ref t
theorem off_ref {t a : Addr} (h : a ≠ t) : Off t (.ref a) := fun e => h (V.ref.inj e)
theorem Is.but {t : Addr} {H H' : Hp} {x : V} {k : Kd} (b : Rd.But t H H') (o : Off t x) (h : Is H x k) : Is H' x k := by
  cases h with
  | non => exact .non
  | bl b => exact .bl b
  | int i => exact .int i
  | str l => exact .str l
  | lst h l => exact .lst (b _ _ (fun e => o (by rw [e])) h) l
  | tup h l => exact .tup (b _ _ (fun e => o (by rw [e])) h) l
  | dct h => exact .dct (b _ _ (fun e => o (by rw [e])) h)
theorem paired_but {t : Addr} {H H' : Hp} (b : Rd.But t H H') {xs : List V} {ks : List Kd} (h : Paired (Is H) xs ks) : (∀ y ∈ xs, Off t y) → Paired (Is H') xs ks := by
  induction h with
  | nil => exact fun _ => .nil
  | cons a _ ih => exact fun o => .cons (a.but b (o _ (List.mem_cons_self ..))) (ih fun y m => o y (List.mem_cons_of_mem _ m))
/-- a thing of some kind, its items too; none of them is the object at t (the tape) -/
def Thing (t : Addr) (H : Hp) (x : V) : Prop := ∃ k ks, Rowed H x k ks ∧ Off t x ∧ ∀ xs, k = .lst xs ∨ k = .tup xs → ∀ y ∈ xs, Off t y
theorem Thing.same {t : Addr} {H H' : Hp} {x : V} (s : Same H H') (h : Thing t H x) : Thing t H' x := let ⟨k, ks, r, o⟩ := h; ⟨k, ks, r.same s, o⟩
theorem Thing.but {t : Addr} {H H' : Hp} {x : V} (b : Rd.But t H H') (h : Thing t H x) : Thing t H' x := let ⟨k, ks, r, o, p⟩ := h; ⟨k, ks, ⟨r.1.but b o, fun xs e => paired_but b (r.2 xs e) (p xs e)⟩, o, p⟩
theorem flat {t : Addr} {H : Hp} {x : V} {k : Kd} (h : Is H x k) (n : k.isSeq = false) (o : Off t x := by intro e; cases e) : Thing t H x := ⟨k, [], ⟨h, fun xs e => by rcases e with rfl | rfl <;> cases n⟩, o, fun xs e => by rcases e with rfl | rfl <;> cases n⟩
/-- an item -/
def Item (t : Addr) (H : Hp) (x : V) : Prop := (∃ k, Is H x k) ∧ Off t x
theorem item {t : Addr} {H : Hp} {x : V} {k : Kd} (h : Is H x k) (o : Off t x := by intro e; cases e) : Item t H x := ⟨⟨k, h⟩, o⟩
theorem Item.same {t : Addr} {H H' : Hp} {x : V} (s : Same H H') (h : Item t H x) : Item t H' x := let ⟨⟨k, i⟩, o⟩ := h; ⟨⟨k, i.same s⟩, o⟩
theorem Item.but {t : Addr} {H H' : Hp} {x : V} (b : Rd.But t H H') (h : Item t H x) : Item t H' x := let ⟨⟨k, i⟩, o⟩ := h; ⟨⟨k, i.but b o⟩, o⟩
theorem kinds {t : Addr} {H : Hp} : ∀ {xs : List V}, (∀ x ∈ xs, Item t H x) → ∃ ks, Paired (Is H) xs ks
  | [], _ => ⟨[], .nil⟩
  | x :: xs, h => let ⟨⟨k, i⟩, _⟩ := h x (List.mem_cons_self ..); let ⟨ks, r⟩ := kinds fun y m => h y (List.mem_cons_of_mem _ m); ⟨k :: ks, .cons i r⟩
theorem seqL {t : Addr} {H : Hp} {a : Addr} {xs : List V} (h : H a = some (.lst xs)) (o : a ≠ t) (l : xs.length ≤ 1000000) (i : ∀ x ∈ xs, Item t H x) : Thing t H (.ref a) :=
  let ⟨ks, r⟩ := kinds i; ⟨_, ks, ⟨.lst h l, fun ys e => by rcases e with e | e <;> cases e; exact r⟩, off_ref o, fun ys e => by rcases e with e | e <;> cases e; exact fun y m => (i y m).2⟩
theorem seqT {t : Addr} {H : Hp} {a : Addr} {xs : List V} (h : H a = some (.tup xs)) (o : a ≠ t) (l : xs.length ≤ 1000000) (i : ∀ x ∈ xs, Item t H x) : Thing t H (.ref a) :=
  let ⟨ks, r⟩ := kinds i; ⟨_, ks, ⟨.tup h l, fun ys e => by rcases e with e | e <;> cases e; exact r⟩, off_ref o, fun ys e => by rcases e with e | e <;> cases e; exact fun y m => (i y m).2⟩
theorem all_nil {P : V → Prop} : ∀ x ∈ ([] : List V), P x := fun _ h => nomatch h
theorem all_cons {P : V → Prop} {x : V} {xs : List V} (h : P x) (t : ∀ y ∈ xs, P y) : ∀ y ∈ x :: xs, P y := fun y m => by
  rcases List.mem_cons.mp m with rfl | m
  · exact h
  · exact t y m
theorem paired_get {R : V → Kd → Prop} {xs : List V} {ks : List Kd} (h : Paired R xs ks) : ∀ {i : Nat} {x : V}, xs[i]? = some x → ∃ k, ks[i]? = some k ∧ R x k := by
  induction h with
  | nil => intro i x e; simp at e
  | cons a _ ih =>
    intro i x e
    cases i with
    | zero => cases e; exact ⟨_, rfl, a⟩
    | succ i => exact ih e
/-! ### range(i, j, c) upwards -/
/-- how many -/
def cnt (i j c : Int) : Nat := if i < j then ((j - i - 1) / c + 1).toNat else 0
theorem rg_pos {i j c : Int} (c0 : 0 < c) (c1 : c < 1073741824) (hi : 0 ≤ i) (hi' : i < 2 ^ 62) (hj : 0 ≤ j) (hj' : j < 2 ^ 62) : RgC i j c (cnt i j c) := by
  have e : Builtin.Range.rangeSize i j c = (cnt i j c : Nat) := by
    unfold Builtin.Range.rangeSize cnt
    rw [if_pos c0]
    split
    · have : 0 ≤ (j - i - 1) / c := Int.ediv_nonneg (by omega) (by omega)
      omega
    · rfl
  have hb : (cnt i j c : Int) ≤ 2 ^ 62 + 1 := by
    unfold cnt
    split
    · have h1 : 0 ≤ (j - i - 1) / c := Int.ediv_nonneg (by omega) (by omega)
      have h2 : (j - i - 1) / c ≤ j - i - 1 := Int.ediv_le_self _ (by omega)
      omega
    · decide
  refine ⟨by omega, by omega, ?_, e⟩
  unfold Builtin.Range.small
  rw [e]
  simp only [Builtin.Range.rangeFitsLong, Bool.and_eq_true, Bool.or_eq_true, decide_eq_true_eq, beq_iff_eq]
  rw [if_pos c0]
  simp only [Bool.and_eq_true, decide_eq_true_eq]
  omega
theorem cnt_lt {i j c : Int} (c0 : 0 < c) (k : Nat) : k < cnt i j c ↔ i + (k : Int) * c < j := by
  unfold cnt
  split
  · rename_i h
    have h1 : 0 ≤ (j - i - 1) / c := Int.ediv_nonneg (by omega) (by omega)
    have e : k < ((j - i - 1) / c + 1).toNat ↔ (k : Int) ≤ (j - i - 1) / c := by omega
    rw [e, Int.le_ediv_iff_mul_le c0]
    omega
  · have : 0 ≤ (k : Int) * c := Int.mul_nonneg (by omega) (by omega)
    omega
theorem rng3 {ta : TA} {σ : L2.St} {H : Hp} {R : It → Hp → Prop} (h : ta σ H fun vs H1 => ∃ (i j c : Int) (n : Nat), vs = [.int i, .int j, .int c] ∧ RgC i j c n ∧ R (Itc i c n) H1) : iRng3 ta σ H R := h
end Rx
namespace Rx
open PySem PySem.Spec PyProof.Rows L2 Rd
/-! ### {k: v} written out -/
theorem disp {trs : List (TE × TE)} {σ : L2.St} {H : Hp} {Q : VK} (h : ∀ (p : Addr) (G : Hp), H p = none → G p = some (.dK []) → Same H G → tPairs trs σ G fun ps H2 => H2 p = some (.dK []) ∧ ∃ kvs : List (Key × V), ps = kvs.map (fun kv => (kV kv.1, kv.2)) ∧ kvs.length ≤ 15 ∧
    ∀ G2 : Hp, G2 p = some (.dK (mergeK [] kvs)) → (∀ b, b ≠ p → G2 b = H2 b) → Q (.ref p) G2) : tDisp trs σ H Q := fun p hp => by
  have key := h p _ hp upd_same (same_upd hp)
  have mono : ∀ {trs : List (TE × TE)} {σ : L2.St} {H : Hp} {A B : List (V × V) → Hp → Prop}, A = B → tPairs trs σ H A → tPairs trs σ H B := fun e h => e ▸ h
  refine mono ?_ key
  funext ps H2
  refine propext ⟨fun ⟨a, kvs, b, c, d⟩ => ⟨a, kvs, b, c, d _ upd_same fun b hb => upd_ne hb⟩, fun ⟨a, kvs, b, c, d⟩ => ⟨a, kvs, b, c, fun G2 g off => ?_⟩⟩
  have e : G2 = upd H2 p (.dK (mergeK [] kvs)) := by
    funext x
    by_cases q : x = p
    · rw [q, g, upd_same]
    · rw [off x q, upd_ne q]
  rw [e]
  exact d
theorem pair {tk tv : TE} {r : List (TE × TE)} {σ : L2.St} {H : Hp} {Q : List (V × V) → Hp → Prop} (h : tk σ H fun x H1 => tv σ H1 fun y H2 => tPairs r σ H2 fun ps H3 => Q ((x, y) :: ps) H3) : tPairs ((tk, tv) :: r) σ H Q := h
theorem pair0 {σ : L2.St} {H : Hp} {Q : List (V × V) → Hp → Prop} (h : Q [] H) : tPairs [] σ H Q := h
theorem same_off2 {H G G2 : Hp} {p : Addr} (s : Same H G) (np : H p = none) (off : ∀ b, b ≠ p → G2 b = G b) : Same H G2 := fun b o e => by rw [off b (ne_of_none e np)]; exact s b o e
end Rx
namespace Rx
open PySem PySem.Spec PyProof.Rows L2 Rd
theorem eqI_refl {K : PySem.W.Frag} {H : Hp} {y : V} {k : Kd} (h : Is H y k) : EqI K H y y := by
  cases h with
  | non => exact .inl ⟨rfl, rfl⟩
  | bl b => exact .inl ⟨rfl, rfl⟩
  | int i => exact .inl ⟨rfl, rfl⟩
  | str l => exact .inl ⟨rfl, rfl⟩
  | lst h l => exact .inr (.inl ⟨_, rfl, rfl⟩)
  | tup h l => exact .inr (.inl ⟨_, rfl, rfl⟩)
  | dct h => exact .inr (.inl ⟨_, rfl, rfl⟩)
end Rx

/-! An instance made within a try: what its __init__ raises is caught here. -/
namespace Rm
open PySem PySem.Spec PyProof.Rows L2
variable {X : Cx} {CX : CXT} {k : Nat} {f C : Addr} {fd : FuncData} {ps : List Str} {sp : Sp} {E : L2.St → XK} {σ : L2.St} {H : Hp} {s : Shared} {Q : VK} {pins : List (Addr × Obj)}
theorem go {vs : List V} {us : List Value} (mk : Mk X.K C f) (ok : FnOk X.prog X.w X.K X.mg X.base CX k f fd ps sp) (room : Room (k + 1) X.A) (bd : Binds X.K fd ps []) (pa : PassesAt CX X σ (E σ)) (inv : Inv X pins σ H s) (va : Vals vs us)
    (h : Rd.MkG C sp [] (E σ) vs H Q) : wpAny (model X.prog X.w) X.A (call (.ref C) us) (EP X pins σ Q) X.xe s := by
  have free : ∀ m, s.heap.objs.size ≤ m → H m = none := fun m l => inv.hok.fresh l
  have q := h _ _ (free (s.heap.objs.size + 1) (by omega)) (free s.heap.objs.size (by omega)) (fun e => Nat.lt_irrefl _ (Nat.lt_of_lt_of_eq (Nat.lt_succ_self s.heap.objs.size) e.symm))
  rw [List.append_nil] at q
  have inv' := inv.made (C := C)
  have va' : Vals (V.ref (s.heap.objs.size + 1) :: vs) (Value.ref (s.heap.objs.size + 1) :: us) := .cons rfl va
  have bd' := bd _ (Value.ref (s.heap.objs.size + 1) :: us) inv'.kIn (by rw [List.append_nil, ← va'.length]; exact ok.len _ _ _ _ q)
  rw [List.append_nil] at bd'
  have run := ok.run _ X.stack _ _ ⟨Value.ref (s.heap.objs.size + 1) :: us, []⟩ _ _ _ (E σ) (room.make C us []) (inv'.env0.make C us []) bd' va' q
  refine wpAny_call (make_map (f := f) inv.kIn mk.makes mk.init (beq_iff_eq.mp mk.fn) (codeAny_mono run fun end_ s' fin => ?_))
  match end_, fin with
  | .error e, fin => exact pa pins _ _ e s' inv' fin
  | .ok (.ret u), fin =>
    obtain ⟨v, H', inv2, rv, ev, last⟩ := inv'.after fin
    subst ev
    exact ⟨rv, ⟨V.ref (s.heap.objs.size + 1), H', inv2, rfl, last⟩⟩
  | .ok .next, fin => exact fin.elim
  | .ok .brk, fin => exact fin.elim
  | .ok .cont, fin => exact fin.elim
/-- C(e, ..), the ends of __init__ as E tells them of the state -/
def tMakeS (C : Addr) (sp : Sp) (E : L2.St → XK) (t : TA) : TE := fun σ H Q => t σ H fun vs H1 => Rd.MkG C sp [] (E σ) vs H1 Q
theorem mkH {t : TA} (h : t σ H fun vs H1 => Rd.MkG C sp [] (E σ) vs H1 Q) : tMakeS C sp E t σ H Q := h
theorem pe_makeS {x : Str} {p pos : Pos} {e : Expr} {es : List Expr} {t : TA} (mk : Mk X.K C f) (ok : FnOk X.prog X.w X.K X.mg X.base CX k f fd ps sp) (room : Room (k + 1) X.A) (gl : Gl X x) (at_ : X.mg x = some (.ref C)) (bd : Binds X.K fd ps []) (pa : ∀ σ, PassesAt CX X σ (E σ))
    (args : PA X (e :: es) t) (d1 : (x == ("__debug__" : Str)) = false := by decide) (d2 : starEach (e :: es) X.env = (false, eval e X.env) :: starEach es X.env := by rfl) (d3 : (backTo pos (starEach es X.env)).any (·.1) = false := by rfl) :
    PE X (.Call (.Name x p) (e :: es) [] pos) (tMakeS C sp E t) :=
  ⟨fun pins s σ H Q inv h => wpAny_Call_Name_kw (ld_glob inv gl at_ (PySem.W.callWith_K (h₀ := X.base) inv.ok.mod.kin mk.kp (thn (args.run pos pins s σ H _ inv h) fun us s1 ⟨vs, H1, inv1, va, q⟩ => ⟨inv1.kIn, go mk ok room bd (pa σ) inv1 va q⟩) d2 d3) d1)⟩
end Rm

/-! The number of unlike texts: len(set(xs)) where no text stands twice. -/
namespace Re
open PySem PySem.Spec PyProof.Rows L2
section
variable {prog : Program} {w : World} {A : Around} {R : Result → Shared → Prop} {I : Addr} {fp wr : List Addr} {G : Array GenState → Array GenState → Prop} {P : Nat → Value → Prop} {St : Nat → Shared → Prop}
def Upto (xs : List Str) (i : Nat) : Str → Bool := fun y => (xs.take i).any (· == y)
theorem upto_step {xs : List Str} {i : Nat} {x : Str} (h : xs[i]? = some x) (y : Str) : (Upto xs i y || decide (y = x)) = Upto xs (i + 1) y := by
  unfold Upto
  rw [Rd.take_snoc h, List.any_append, Bool.eq_iff_iff]
  simp only [Bool.or_eq_true, decide_eq_true_eq, List.any_cons, List.any_nil, Bool.or_false, beq_iff_eq]
  exact or_congr_right eq_comm
theorem upto_new {xs : List Str} {i : Nat} {x : Str} (nd : xs.Nodup) (h : xs[i]? = some x) : Upto xs i x = false := by
  refine Bool.eq_false_iff.mpr fun q => ?_
  obtain ⟨y, m, e⟩ := List.any_eq_true.mp q
  rw [beq_iff_eq] at e
  subst e
  exact Rd.nodup_take nd h m
/-- the loop that fills a set with unlike texts -/
theorem fill {xs : List Str} (W : WalksS prog w A.in1 I fp wr G xs.length P St) (D : Addr) (out : D ∉ fp) (nd : xs.Nodup) (room : xs.length + 1 < scanBound)
    (val : ∀ i v, P i v → ∃ x t, xs[i]? = some x ∧ v = .str x t) (left : Nat) : ∀ (i : Nat) (s : Shared), xs.length - i = left → i ≤ xs.length → St i s → s.heap.SetOf (strKind prog w) D (Upto xs i) i →
      (∀ s', Moved (D :: wr) G s s' → s'.heap.SetOf (strKind prog w) D (Upto xs xs.length) xs.length → R (.ok (.ret .none)) s') → codeAny (model prog w) A (.builtin "set.update.loop" ⟨[.ref D, .ref I], []⟩) R s := by
  have more : ∀ b ∈ wr, b ∈ D :: wr := fun b h => .tail _ h
  have stay : ∀ {s s' : Shared} {i : Nat}, Moved wr G s s' → s.heap.SetOf (strKind prog w) D (Upto xs i) i → s'.heap.SetOf (strKind prog w) D (Upto xs i) i :=
    fun m ⟨o, es, ep, t, h, r⟩ => ⟨o, es, ep, t, m.heap D _ (fun z => out (W.sub _ z)) h, r⟩
  induction left with
  | zero =>
    intro i s e le st hD k
    obtain rfl : i = xs.length := by omega
    refine codeAny_builtin F.entry_set_update_loop ?_
    rw [Around.under_plainId F.plain_set_update_loop _]
    show wpAny _ A.in1 (pyNext (.ref I) >>= _) _ _ s
    exact wpAny_bind (W.done s _ _ st fun s' m => wpAny_pure (k s' (m.mono more) (stay m hD)))
  | succ left ih =>
    intro i s e le st hD k
    have lt : i < xs.length := by omega
    refine codeAny_builtin F.entry_set_update_loop ?_
    rw [Around.under_plainId F.plain_set_update_loop _]
    show wpAny _ A.in1 (pyNext (.ref I) >>= _) _ _ s
    refine wpAny_bind (W.item i s _ _ lt st fun v s' hv st' m => ?_)
    obtain ⟨x, t, hx, rfl⟩ := val i v hv
    have hD' := stay m hD
    show wpAny _ A.in1 (holding [Value.str x t] (setAdd D (.str x t)) >>= _) _ _ s'
    refine wpAny_bind (wpAny_holding ?_)
    unfold setAdd
    refine wpAny_holding (wpAny_bind ((strKind prog w).pyHash (k := x) (strKind_is _ _ _ _) ?_))
    refine wpAny_setAddHashed_of (knd := strKind prog w) (s := { s' with toks := s'.toks + 1 }) (strKind_is _ _ _ _) rfl hD' (by omega) fun h' but hN => ?_
    rw [upto_new nd hx] at hN
    refine wpAny_pure ⟨plainId_quiet F.plain_set_update_loop _, ih (i + 1) _ (by omega) lt (W.frame _ s' _ _ st' (Nat.le_succ _) fun b hb o e => ?_) (SetOf_congr hN (upto_step hx) rfl) fun s2 m2 hS2 => ?_⟩
    · rw [but.2 b fun q => out (q ▸ hb)]
      exact e
    · refine k s2 (Moved.trans W.gtrans ((m.mono more).then_heap (Nat.le_succ _) fun b o hb e => ?_) m2) hS2
      rw [but.2 b fun q => hb (q ▸ .head _)]
      exact e
end
section
variable {prog : Program} {w : World} {A : Around} {E : Value → Shared → Prop} {s : Shared}
def bareSet (led : Bool) : Obj := { cls := .type "set", dict := none, data := .set #[] 0 (.fresh 0 0 led) }
/-- what set(..) leaves -/
def Left (prog : Program) (w : World) (s : Shared) (xs : List Str) (s' : Shared) : Prop := ∃ (h' : Heap) (tk : Nat), s' = { s with heap := h', toks := tk } ∧ h'.SetOf (strKind prog w) s.heap.objs.size (Upto xs xs.length) xs.length ∧ ∀ b o, b < s.heap.objs.size → s.heap.get? b = some o → h'.get? b = some o
theorem bare_of {h : Heap} {a : Addr} {led : Bool} (e : h.get? a = some (bareSet led)) (xs : List Str) : h.SetOf (strKind prog w) a (Upto xs 0) 0 :=
  SetOf_congr ((setObjOf_fresh (knd := strKind prog w) led).setOf e (by unfold scanBound; omega)) (fun _ => rfl) rfl
/-- set.__init__ over a list of unlike texts -/
theorem fill_list {led : Bool} {l : Addr} {items : Array Value} {xs : List Str} (hh : A.handled = none) (hl : s.heap.IsList l items) (hi : StrsAre items.toList xs) (nd : xs.Nodup) (room : xs.length + 1 < scanBound) {Q : PySem.Fin → Shared → Prop}
    (h : ∀ s', Left prog w s xs s' → wpAny (model prog w) A (ret Value.none) Q E s') :
    wpAny (model prog w) A (Builtin.«set.__init__» ⟨[.ref s.heap.objs.size, .ref l], []⟩) Q E { s with heap := s.heap.push (bareSet led) } := by
  have hD : (s.heap.push (bareSet led)).get? s.heap.objs.size = some (bareSet led) := Heap.get?_push_size _ rfl
  have hT : Shared.TypeIs { s with heap := s.heap.push (bareSet led) } (.ref s.heap.objs.size) "set" := ⟨_, hD, rfl⟩
  have big : l < s.heap.objs.size := let ⟨_, e, _⟩ := hl; Heap.lt_size e
  have hl1 : (s.heap.push (bareSet led)).IsList l items := hl.push _
  obtain ⟨ol, hol, hcl, nl, hdl⟩ := hl1
  obtain ⟨ocls, odict, odata, oslots⟩ := ol
  simp only at hcl hdl
  subst hcl
  subst hdl
  have hsls := PySem.F.sub_list_set
  have hslf := PySem.F.sub_list_frozenset
  have hne : (Value.type "list" == Value.type "dict") = false := by decide
  have hl1 : (s.heap.push (bareSet led)).IsList l items := hl.push _
  unfold Builtin.«set.__init__» noKeywords Builtin.Frozenset.updateFrom
  generalize hPI : pyIter = PI
  wp_walk
  subst hPI
  have hz : (s.heap.push (bareSet led)).objs.size = s.heap.objs.size + 1 := Heap.size_push ..
  have n1 : l ≠ (s.heap.push (bareSet led)).objs.size := by rw [hz]; exact Nat.ne_of_lt (Nat.lt_succ_of_lt big)
  have sz : xs.length = items.size := by rw [← StrsAre.len_eq hi, Array.length_toList]
  have val : ∀ (i : Nat) (v : Value), items[i]? = some v → ∃ x t, xs[i]? = some x ∧ v = .str x t := fun i v hv => by
    obtain ⟨t, e⟩ := SS.strs_at hi i v (by rw [Array.getElem?_toList]; exact hv)
    have lt : i < xs.length := by rw [sz]; exact (Array.getElem?_eq_some_iff.mp hv).1
    refine ⟨xs[i], t, List.getElem?_eq_getElem lt, ?_⟩
    rw [e, List.getD_eq_getElem?_getD, List.getElem?_eq_getElem lt]
    rfl
  refine wpAny_pyIter_list hl1 (wpAny_bind (wpAny_runValue ?_))
  have hh1 : A.in1.handled = none := by simp [hh]
  have W := (Walks.list (prog := prog) (w := w) hh1 _ l n1 items).toS
  rw [← sz] at W
  refine fill W s.heap.objs.size (by rw [hz, List.mem_cons, List.mem_singleton, not_or]; exact ⟨Nat.ne_of_lt (Nat.lt_succ_self _), Nat.ne_of_gt big⟩) nd room val (xs.length - 0) 0 _ rfl (Nat.zero_le _) ⟨⟨_, Heap.get?_push_size _ rfl, rfl, rfl⟩, hl1.push _⟩ (bare_of (led := led) (Heap.get?_push_of_some _ hD) xs) ?_
  intro s' m hS'
  refine wpAny_pure (h s' ⟨s'.heap, s'.toks, ?_, hS', fun b o lt e => m.heap b o ?_ (Heap.get?_push_of_some _ (Heap.get?_push_of_some _ e))⟩)
  · obtain ⟨h', g', d', tk', os'⟩ := s'
    have e1 : g' = s.gens := m.gens
    have e2 : d' = s.drawn := m.drawn
    have e3 : os' = s.os := m.os
    rw [e1, e2, e3]
  · rw [hz, List.mem_cons, List.mem_singleton, not_or]
    exact ⟨Nat.ne_of_lt lt, Nat.ne_of_lt (Nat.lt_succ_of_lt lt)⟩
/-- set(xs) -/
theorem call_set {l : Addr} {items : Array Value} {xs : List Str} {Q : Value → Shared → Prop} (hh : A.handled = none) (hl : s.heap.IsList l items) (hi : StrsAre items.toList xs) (nd : xs.Nodup) (room : xs.length + 1 < scanBound)
    (h : ∀ s', Left prog w s xs s' → Q (.ref s.heap.objs.size) s') : wpAny (model prog w) A (call (.type "set") [.ref l]) Q E s := by
  obtain ⟨c, tl, hmro⟩ := PySem.F.called_set.mro
  have hmade := PySem.F.called_set.made
  have hsub := PySem.F.called_set.sub
  refine wpAny_call (codeAny_of_tree ?_)
  show wpAny _ _ (callAny (.type "set") _) _ _ _
  refine wpAny_pure ⟨Code.quiet_builtin _ (by decide +kernel), codeAny_builtin PySem.F.entry_type_call ?_⟩
  rw [Around.under_plain (weight_type_call_type "set" [.ref l] []) rfl]
  have h1 := PySem.F.called_set.notType
  have h2 := PySem.F.called_set.canCreate
  have hct := PySem.F.typeCall_set_1 (.ref l)
  repeat (any_goals (first | assumption | wp_step))
  refine codeAny_mono (code_set_new_1 (.ref l) (E := E) (Q₁ := fun y s1 => ∃ led : Bool, y = .ref s.heap.objs.size ∧ s1 = { s with heap := s.heap.push (bareSet led) }) fun led => ⟨led, rfl, rfl⟩) fun r s1 hr => ?_
  match r, hr with
  | .ok (.ret y), ⟨led, hy, hs⟩ =>
    subst hy
    subst hs
    have hD : (s.heap.push (bareSet led)).get? s.heap.objs.size = some (bareSet led) := Heap.get?_push_size _ rfl
    have hT : Shared.TypeIs { s with heap := s.heap.push (bareSet led) } (.ref s.heap.objs.size) "set" := ⟨_, hD, rfl⟩
    have hli := PySem.F.called_set.init.lookup
    have hbi := PySem.F.called_set.init.bind (.ref s.heap.objs.size)
    repeat (any_goals (first | assumption | wp_step))
    refine codeAny_mono (codeAny_call_builtin (R := wants (fun r s2 => r = .none ∧ Left prog w s xs s2) E) PySem.F.called_set.init.plain PySem.F.entry_set_init (check_set_init_1 hT ?_)) fun r2 s2 hr2 => ?_
    · refine fill_list (by simp [hh]) hl hi nd room fun s' hL => ?_
      exact wpAny_pure ⟨rfl, hL⟩
    · match r2, hr2 with
      | .ok (.ret v), ⟨hv, hL⟩ =>
        subst hv
        repeat (any_goals (first | assumption | wp_step))
        exact h _ hL
      | .error e, q => exact q
  | .error e, q => exact q
/-- len(set(xs)), no text of xs twice -/
def tLenSet (K : PySem.W.Frag) (ta : TE) : TE := fun σ H Q => ta σ H fun x H1 => ∃ (l : Addr) (xs : List Str), x = .ref l ∧ SqL K H1 l (xs.map V.str) ∧ xs.Nodup ∧ xs.length ≤ 1000 ∧ Q (.int xs.length) H1
theorem lenSet {K : PySem.W.Frag} {σ : L2.St} {H : Hp} {ta : TE} {Q : VK} (h : ta σ H fun x H1 => ∃ (l : Addr) (xs : List Str), x = .ref l ∧ SqL K H1 l (xs.map V.str) ∧ xs.Nodup ∧ xs.length ≤ 1000 ∧ Q (.int xs.length) H1) : tLenSet K ta σ H Q := h
end
section
variable {X : Cx}
theorem pe_lenSet {a : Expr} {ta : TE} {p p2 q pos : Pos} (hc : X.calm = true) (hg : Gl X "len") (hm : X.mg "len" = none) (hg2 : Gl X "set") (hm2 : X.mg "set" = none) (ha : PE X a ta)
    (na : starEach [a] X.env = (false, eval a X.env) :: starEach [] X.env := by rfl) : PE X (.Call (.Name "len" p) [.Call (.Name "set" p2) [a] [] q] [] pos) (tLenSet X.K ta) := by
  refine ⟨fun pins s σ H Q I h => Call_ (ld_blt I hg hm boot_len (callWith_builtin1 (args_cons (Call_ (ld_blt I hg2 hm2 boot_set (callWith_type1 (args_cons (thn (ha.run pins s σ H _ I h) fun v s1 ⟨x, H1, I1, r1, q1⟩ => args_nil ?_) na) na rfl))) rfl) rfl rfl))⟩
  obtain ⟨l, xs, rfl, hq, nd, few, q1⟩ := q1
  cases r1
  obtain ⟨its, r, pl, hz⟩ := I1.list hq
  refine call_set (I1.ok.hd hc) pl.isList (by simpa using strsAre_of r) nd (by unfold scanBound; omega) ?_
  rintro _ ⟨h', tk, rfl, hS, keep⟩
  refine args_nil ?_
  obtain ⟨o, es, ep, t, ho, hex, hd, _, _, _, hf, hn⟩ := hS
  have I2 : Inv X pins σ H1 { s1 with heap := h', toks := tk } := I1.kept fun b o e => keep b o (Heap.lt_size e) e
  exact call_len_set ho hex hd hf (by rw [hn]; omega) ⟨.int xs.length, H1, I2.tok _, ⟨_, by rw [hn]⟩, q1⟩
end
/-! ### list(text) -/
theorem vals_get : ∀ {xs : List V} {us : List Value}, xs.length = us.length → (∀ (i : Nat) (x : V) (u : Value), xs[i]? = some x → us[i]? = some u → RelV x u) → Vals xs us
  | [], [], _, _ => .nil
  | x :: xs, u :: us, l, h => .cons (h 0 x u rfl rfl) (vals_get (by simpa using l) fun i y v a b => h (i + 1) y v (by simpa using a) (by simpa using b))
def Signs (z : Str) : List Str := z.cps.toList.map fun c => (⟨#[c]⟩ : Str)
def rListStr : List V → Hp → VK → Prop := fun xs H Q => ∃ z : Str, xs = [.str z] ∧ z.length ≤ sizeLine ∧ Rd.NewQ (.lst ((Signs z).map V.str)) Q H
theorem listStr {z : Str} {H : Hp} {Q : VK} (l : z.length ≤ sizeLine) (h : Rd.NewQ (.lst ((Signs z).map V.str)) Q H) : rListStr [.str z] H Q := ⟨z, rfl, l, h⟩
section
variable {X : Cx}
theorem cr_listStr (hc : X.calm = true) : CallR X (.type "list") rListStr := by
  intro pins s σ H xs us Q I r h
  obtain ⟨z, rfl, l, q⟩ := h
  cases r with
  | cons ry rt =>
    cases rt
    obtain ⟨t, rfl⟩ := ry
    refine call_list_str (I.ok.hd hc) z t (fun h' tk acc c keep e its => ?_) l
    have sz : ((Signs z).map V.str).length = acc.toList.length := by
      unfold Signs
      rw [List.length_map, List.length_map, Array.length_toList, Array.length_toList, its.1]
    have v : Vals ((Signs z).map V.str) acc.toList := vals_get sz fun i x u hx hu => by
      obtain ⟨d, k, hd, rfl⟩ := its.2 i u (by rw [← Array.getElem?_toList]; exact hu)
      unfold Signs at hx
      rw [List.getElem?_map, List.getElem?_map, Array.getElem?_toList, hd] at hx
      cases hx
      exact ⟨k, rfl⟩
    have few : ((Signs z).map V.str).length ≤ sizeLine := by
      unfold Signs
      rw [List.length_map, List.length_map]
      exact l
    exact ⟨.ref s.heap.objs.size, _, I.laid (t' := tk) keep (Nat.le_refl _) (show ObjOk X.prog X.w _ h' _ (.lst ((Signs z).map V.str)) from ⟨few, acc.toList, c, v, e⟩), rfl, q _ (I.hok.fresh (Nat.le_refl _))⟩
end
/-! ### comprehensions with two fors -/
section
variable {σ : L2.St}
def Inner (D : Addr) (H1 : Hp) (R : Nat → List V → Hp → Prop) (i : Nat) (g1 : TG) (tt1 : TT) (te : TE) (vs1 : List Nat) (σ2 : L2.St) (J1 : It) (H4 : Hp) : Prop := ∃ W1 : Nat → Nat → Hp → Prop, (∃ m, W1 0 m H4) ∧ ∀ j k H, W1 j k H →
  (J1.stop j H ∧ Rd.LcP D H1 R (i + 1) H) ∨ (J1.go j H ∧ ∃ Nx1 : Hp → Prop, (∀ H', Nx1 H' → ∃ k', k' < k ∧ W1 (j + 1) k' H') ∧ ∀ x H', J1.yld j H x H' → g1 x (wipe σ2 vs1) H' fun σ3 H5 => wipe σ3 vs1 = wipe σ2 vs1 ∧ tt1 σ3 H5 fun b H6 =>
    if b = true then te σ3 H6 fun y H7 => ∃ acc, H7 D = some (.lst acc) ∧ acc.length < sizeLine ∧ Nx1 (upd H7 D (.lst (acc ++ [y]))) else Nx1 H6)
def Lc2 (J : It) (g : TG) (tt : TT) (wi1 : TI) (g1 : TG) (tt1 : TT) (te : TE) (vs vs1 : List Nat) (σ : L2.St) (H1 : Hp) (Q : VK) : Prop := ∀ D, H1 D = none → ∃ W : Nat → Nat → Hp → Prop, (∃ m, W 0 m (upd H1 D (.lst []))) ∧ ∀ i m H, W i m H →
      (J.stop i H ∧ Q (.ref D) H) ∨ (J.go i H ∧ ∃ Nx : Hp → Prop, (∀ H', Nx H' → ∃ m', m' < m ∧ W (i + 1) m' H') ∧ ∀ x H', J.yld i H x H' → g x (wipe σ vs) H' fun σ2 H2 => wipe σ2 vs = wipe σ vs ∧ tt σ2 H2 fun b H3 =>
        if b = true then wi1 σ2 H3 fun J1 H4 => ∃ W1 : Nat → Nat → Hp → Prop, (∃ m, W1 0 m H4) ∧ ∀ j k H, W1 j k H →
          (J1.stop j H ∧ Nx H) ∨ (J1.go j H ∧ ∃ Nx1 : Hp → Prop, (∀ H', Nx1 H' → ∃ k', k' < k ∧ W1 (j + 1) k' H') ∧ ∀ x H', J1.yld j H x H' → g1 x (wipe σ2 vs1) H' fun σ3 H5 => wipe σ3 vs1 = wipe σ2 vs1 ∧ tt1 σ3 H5 fun b H6 =>
            if b = true then te σ3 H6 fun y H7 => ∃ acc, H7 D = some (.lst acc) ∧ acc.length < sizeLine ∧ Nx1 (upd H7 D (.lst (acc ++ [y]))) else Nx1 H6)
        else Nx H3)
theorem lc2S {J : It} {n : Nat} {G : Hp → Prop} {Y : Nat → Hp → V → Hp → Prop} (w : Walk J n G Y) {g : TG} {tt : TT} {wi1 : TI} {g1 : TG} {tt1 : TT} {te : TE} {vs vs1 : List Nat} {H1 : Hp} {Q : VK} (hG : ∀ H, Same H1 H → G H) (R : Addr → Nat → List V → Hp → Prop)
    (r0 : ∀ (D : Addr) (G : Hp), H1 D = none → G D = some (.lst []) → Same H1 G → R D 0 [] G)
    (hs : ∀ (D : Addr) i x H H' acc, H1 D = none → i < n → H D = some (.lst acc) → Same H1 H → R D i acc H → Y i H x H' → g x (wipe σ vs) H' fun σ2 H2 => wipe σ2 vs = wipe σ vs ∧ tt σ2 H2 fun b H3 =>
      if b = true then wi1 σ2 H3 fun J1 H4 => Inner D H1 (R D) i g1 tt1 te vs1 σ2 J1 H4 else Rd.LcP D H1 (R D) (i + 1) H3)
    (hd : ∀ (D : Addr) acc H, H1 D = none → H D = some (.lst acc) → Same H1 H → R D n acc H → Q (.ref D) H) :
    Lc2 J g tt wi1 g1 tt1 te vs vs1 σ H1 Q := by
  intro D nD
  refine ⟨fun i m H => m = n - i ∧ i ≤ n ∧ Rd.LcP D H1 (R D) i H, ⟨n, by simp, Nat.zero_le _, [], upd_same, Rd.same_upd nD, r0 D _ nD upd_same (Rd.same_upd nD)⟩, ?_⟩
  rintro i m H ⟨rfl, hi, acc, h1, h2, h3⟩
  by_cases lt : i < n
  · exact .inr ⟨w.goes i H lt (hG H h2), Rd.LcP D H1 (R D) (i + 1), fun H' p => ⟨n - (i + 1), by omega, rfl, lt, p⟩, fun x H' y => hs D i x H H' acc nD lt h1 h2 h3 (w.yields i H x H' lt (hG H h2) y)⟩
  · obtain rfl : i = n := by omega
    exact .inl ⟨w.stops H (hG H h2), hd D acc H nD h1 h2 h3⟩
theorem innerS {D : Addr} {H1 H4 : Hp} {R : Nat → List V → Hp → Prop} {i : Nat} {g1 : TG} {tt1 : TT} {te : TE} {vs1 : List Nat} {σ2 : L2.St} {J1 : It} {n : Nat} {G : Hp → Prop} {Y : Nat → Hp → V → Hp → Prop} (w : Walk J1 n G Y) (R1 : Nat → List V → Hp → Prop) (h0 : Rd.LcP D H1 R1 0 H4) (hG : ∀ H, Same H1 H → G H)
    (hs : ∀ j x H H' acc, j < n → H D = some (.lst acc) → Same H1 H → R1 j acc H → Y j H x H' → g1 x (wipe σ2 vs1) H' fun σ3 H5 => wipe σ3 vs1 = wipe σ2 vs1 ∧ tt1 σ3 H5 fun b H6 =>
      if b = true then te σ3 H6 fun y H7 => Rd.LcPush D H1 R1 j y H7 else Rd.LcP D H1 R1 (j + 1) H6)
    (hd : ∀ acc H, H D = some (.lst acc) → Same H1 H → R1 n acc H → R (i + 1) acc H) : Inner D H1 R i g1 tt1 te vs1 σ2 J1 H4 := by
  refine ⟨fun j k H => k = n - j ∧ j ≤ n ∧ Rd.LcP D H1 R1 j H, ⟨n, by simp, Nat.zero_le _, h0⟩, ?_⟩
  rintro j k H ⟨rfl, hj, acc, h1, h2, h3⟩
  by_cases lt : j < n
  · exact .inr ⟨w.goes j H lt (hG H h2), Rd.LcP D H1 R1 (j + 1), fun H' p => ⟨n - (j + 1), by omega, rfl, lt, p⟩, fun x H' y => hs j x H H' acc lt h1 h2 h3 (w.yields j H x H' lt (hG H h2) y)⟩
  · obtain rfl : j = n := by omega
    exact .inl ⟨w.stops H (hG H h2), acc, h1, h2, hd acc H h1 h2 h3⟩
theorem lc2 {wi : TI} {g : TG} {tt : TT} {wi1 : TI} {g1 : TG} {tt1 : TT} {te : TE} {vs vs1 : List Nat} {H : Hp} {Q : VK} (h : wi σ H fun J H1 => Lc2 J g tt wi1 g1 tt1 te vs vs1 σ H1 Q) : tLc2 wi g tt wi1 g1 tt1 te vs vs1 σ H Q := h
end
/-! ### text[::-1] -/
def revS (z : Str) : Str := ⟨z.cps.reverse⟩
theorem revS_list (z : Str) : (revS z).cps.toList = z.cps.toList.reverse := by
  unfold revS
  simp
theorem rev_by (z : Str) (u : Tok) : Txt.sliceBy z none none (-1, u) = revS z := by
  refine PySem.W.str_of_cps ?_
  rw [step_rev_list, revS_list]
  refine List.ext_getElem? fun i => ?_
  rw [List.getElem?_map]
  rcases Nat.lt_or_ge i z.length with h | h
  · have l : z.cps.toList.length = z.length := Array.length_toList
    rw [List.getElem?_range h, List.getElem?_reverse (by omega), l, Array.getElem?_toList]
    have h2 : z.length - 1 - i < z.cps.size := by
      show _ < z.length
      omega
    simp [Array.getD, h2]
  · have l : z.cps.toList.length = z.length := Array.length_toList
    rw [List.getElem?_eq_none (by rw [List.length_range]; exact h), List.getElem?_eq_none (by rw [List.length_reverse]; omega)]
    rfl
def tRevS (te : TE) : TE := fun σ H Q => te σ H fun x H1 => ∃ z, x = .str z ∧ z.length ≤ sizeLine ∧ Q (.str (revS z)) H1
theorem revT {σ : L2.St} {te : TE} {H : Hp} {Q : VK} (h : te σ H fun x H1 => ∃ z, x = .str z ∧ z.length ≤ sizeLine ∧ Q (.str (revS z)) H1) : tRevS te σ H Q := h
section
variable {X : Cx}
theorem pe_revS {e : Expr} {te : TE} {k : Nat} {p1 p2 p3 pos : Pos} (he : PE X e te) : PE X (.Subscript e (.Slice none none (some (.UnaryOp .USub (.Constant (.int 1) k p1) p2)) p3) pos) (tRevS te) := by
  refine ⟨fun pins s σ H Q I h => Subscript_ (thn (he.run pins s σ H _ I h) fun v s1 ⟨x, H1, I1, r1, z, ex, few, q⟩ => ?_)⟩
  subst ex
  obtain ⟨t, rfl⟩ := r1
  have minus : PO X (some (.UnaryOp .USub (.Constant (.int 1) k p1) p2)) (tPart (tUn (rU fun i => .int (-i)) (tC (.int 1)))) := po_some (pe_un un_neg pe_int)
  refine wpAny_Slice (thn (po_none.run pins s1 σ H1 (fun o H2 => o = none ∧ H2 = H1) I1 ⟨rfl, rfl⟩) fun vl s2 ⟨l, H2, I2, pl, el, e2⟩ => ?_)
  subst el e2
  refine thn (po_none.run pins s2 σ H2 (fun o H3 => o = none ∧ H3 = H2) I2 ⟨rfl, rfl⟩) fun vu s3 ⟨u, H3, I3, pu, eu, e3⟩ => ?_
  subst eu e3
  refine thn (minus.run pins s3 σ H3 (fun o H4 => o = some (-1) ∧ H4 = H3) I3 ⟨1, rfl, -1, rfl, rfl, rfl⟩) fun vs s4 ⟨o, H4, I4, ps, eo, e4⟩ => ?_
  subst eo e4
  have I5 : Inv X pins σ H4 { s4 with heap := s4.heap.push { cls := .type "slice", data := .fields #[vl, vu, vs] } } := I4.kept (t' := s4.toks) fun b ob q => Heap.get?_push_of_some _ q
  obtain ⟨a1, rfl, h1⟩ := IsPart.raw pl
  obtain ⟨a2, rfl, h2⟩ := IsPart.raw pu
  obtain ⟨a3, rfl, h3⟩ := IsPart.raw ps
  obtain rfl : a1 = none := Option.map_eq_none_iff.mp h1
  obtain rfl : a2 = none := Option.map_eq_none_iff.mp h2
  obtain ⟨⟨m, uk⟩, rfl, rfl⟩ := Option.map_eq_some_iff.mp h3
  refine tail_any (ops := [.ref s4.heap.objs.size, .str z t]) (typeIs_str _ _ _) PySem.F.slot_str_getitem.lookup (wpAny_getItem_str_slice (l := none) (u := none) (st := some (-1, uk)) ⟨_, Heap.get?_push_size _ rfl, rfl, rfl⟩ rfl (post_val_or_str ⟨?_, fun t' c => ?_⟩)) (by with_unfolding_all rfl)
  · show (Txt.sliceBy z none none (-1, uk)).length ≤ _
    rw [step_rev_len]
    exact few
  · show EP X pins σ Q (.str (Txt.sliceBy z none none (-1, uk)) t') _
    rw [rev_by]
    exact ⟨.str (revS z), H4, I5.tok _, ⟨_, rfl⟩, q⟩
end
end Re

/-! {(a, b): v, ..}: a dict written out whose keys are tuples. -/
namespace Ry
open PySem PySem.Spec PyProof.Rows L2 Rd
section
variable {X : Cx} {pins : List (Addr × Obj)} {σ : L2.St} {H : Hp} {s : Shared} {a : Addr} {A : Around} {E : Value → Shared → Prop}
/-- d[y] = v by the dict's own store, y a tuple -/
theorem dset {kvs : List (List Key × V)} {k : List Key} {b : Addr} {v : V} {r : Value} {Q : Unit → Shared → Prop} (hu : A.units + 1 < cLine) (I : Inv X pins σ H s) (e : H a = some (.dT kvs)) (eb : H b = some (.tup (k.map kV))) (l : kvs.length < sizeLine) (rv : L2.RelV v r)
    (h : ∀ s', Inv X pins σ (upd H a (.dT (putK kvs k v))) s' → Q () s') : wpAny (model X.prog X.w) A (dictSet a (.ref b) r) Q E s := by
  obtain ⟨z, hd, xs, rel, dd⟩ := dt_of I.hok e
  have hz : xs.length ≤ sizeLine := by rw [← Paired.length rel]; exact z
  have hl : (putK kvs k v).length ≤ sizeLine := by have := length_putK kvs k v; omega
  refine wpAny_dictSet_heap (hsz := hz) (show A.units < cLine by omega) (key_of I.hok eb) dd fun h' dd' hs => h _ ?_
  obtain ⟨q, es, ep, hq, h2, h3, h4, _, h5⟩ := dd'
  refine d_write I (by rw [e]; exact True.intro) hs ⟨q, hq⟩ ⟨hl, hd, _, (rel.put k eb rv).keeps fun c ys ec => ?_, q, es, ep, hq, h2, h3, h4, h5⟩
  rw [upd_ne (ne_of ec e (fun z => nomatch z))]
  exact ec
/-- what a display puts down, pair by pair -/
def putAll (kvs more : List (List Key × V)) : List (List Key × V) := more.foldl (fun acc kv => putK acc kv.1 kv.2) kvs
theorem putAll_len : ∀ (more kvs : List (List Key × V)), (putAll kvs more).length ≤ kvs.length + more.length
  | [], kvs => by show kvs.length ≤ kvs.length + 0; omega
  | p :: r, kvs => by
    have h1 := putAll_len r (putK kvs p.1 p.2)
    have h2 := length_putK kvs p.1 p.2
    show (putAll (putK kvs p.1 p.2) r).length ≤ _
    rw [List.length_cons]; omega
/-- the pairs (a tuple's address, a value) with the tuples' keys -/
def KeyAt (H : Hp) (p : V × V) (kv : List Key × V) : Prop := ∃ b, p.1 = .ref b ∧ H b = some (.tup (kv.1.map kV)) ∧ p.2 = kv.2
theorem dsets {a : Addr} : ∀ (more : List (List Key × V)) {ps : List (V × V)} {vs : List (Value × Value)} {kvs : List (List Key × V)} {H : Hp} {s : Shared} {Q : PUnit → Shared → Prop}, A.units + 1 < cLine → Inv X pins σ H s → H a = some (.dT kvs) → VV ps vs → Paired (KeyAt H) ps more →
    kvs.length + more.length ≤ 1000 → (∀ s', Inv X pins σ (upd H a (.dT (putAll kvs more))) s' → Q PUnit.unit s') →
    wpAny (model X.prog X.w) A (forIn vs PUnit.unit fun (x : Value × Value) (_ : PUnit) => (do dictSet a x.1 x.2; pure (ForInStep.yield PUnit.unit) : Sem (ForInStep PUnit))) Q E s
  | [], ps, vs, kvs, H, s, Q, hu, I, e, r, p, hl, h => by
    cases p
    cases r
    rw [List.forIn_nil]
    refine wpAny_pure (h s ?_)
    have : upd H a (.dT (putAll kvs [])) = H := by
      funext b
      by_cases c : b = a
      · rw [c, upd_same, e]; rfl
      · rw [upd_ne c]
    rw [this]
    exact I
  | kv :: more, ps, vs, kvs, H, s, Q, hu, I, e, r, p, hl, h => by
    cases p with
    | @cons q _ ps' _ k p' =>
      cases r with
      | @cons _ u _ us ru r' =>
        obtain ⟨b, e1, e2, e3⟩ := k
        obtain ⟨ku, vu⟩ := u
        have ra : L2.RelV (.ref b) ku := by rw [← e1]; exact ru.1
        cases (show ku = Value.ref b from ra)
        have rv : L2.RelV kv.2 vu := by rw [← e3]; exact ru.2
        rw [List.length_cons] at hl
        rw [List.forIn_cons]
        refine wpAny_bind (wpAny_bind (dset hu I e e2 (by rw [sizeLine_eq]; omega) rv fun s1 I1 => wpAny_pure ?_))
        have keep : ∀ {ps : List (V × V)} {more : List (List Key × V)}, Paired (KeyAt H) ps more → Paired (KeyAt (upd H a (.dT (putK kvs kv.1 kv.2)))) ps more := fun x => by
          induction x with
          | nil => exact .nil
          | cons z _ ih =>
            obtain ⟨b, e1, e2, e3⟩ := z
            exact .cons ⟨b, e1, by rw [upd_ne (ne_of e2 e (fun z => nomatch z))]; exact e2, e3⟩ ih
        refine dsets more hu I1 upd_same r' (keep p') (by have := length_putK kvs kv.1 kv.2; omega) fun s2 I2 => h s2 ?_
        rw [upd_upd] at I2
        exact I2
end
/-- {k: v, ..}, the keys tuples of ints and texts; the new dict stands empty while the pairs are made -/
def tDispT (trs : List (TE × TE)) : TE := fun σ H Q => ∀ p, H p = none → tPairs trs σ (upd H p (.dT [])) fun ps H2 => H2 p = some (.dT []) ∧ ∃ kvs : List (List Key × V), Paired (KeyAt H2) ps kvs ∧ kvs.length ≤ 15 ∧ Q (.ref p) (upd H2 p (.dT (putAll [] kvs)))
theorem pe_dispT {X : Cx} {pos : Pos} {keys : List (Option Expr)} {values : List Expr} {trs : List (TE × TE)} (hu : X.A.units + 1 < cLine) (h : PPs X pos keys values trs) (hall : keys.all (·.isSome) = true) (hl : keys.length = values.length) (h0 : keys ≠ [])
    (h15 : keys.length ≤ 15) : PE X (.Dict keys values pos) (tDispT trs) := by
  refine ⟨fun pins s σ H Q I q => ?_⟩
  have hn := I.hok.fresh (Nat.le_refl s.heap.objs.size)
  have I1 := I.laid (a := s.heap.objs.size) (o := .dT []) (h' := s.heap.push { cls := .type "dict", data := .dict #[] }) (t' := s.toks) (fun _ _ q => Heap.get?_push_of_some _ q) (Nat.le_refl _) (dt_empty s.heap I.big)
  have hp := pairTrees_length keys values X.env pos hall hl
  have hne : pairTrees keys values X.env pos ≠ [] := fun c => by
    rw [c] at hp
    exact h0 (List.length_eq_zero_iff.mp hp.symm)
  rw [arm_eval_Dict, zip_pairTrees keys values X.env pos hall hl, dictDisplay_pairs _ hne (by omega)]
  refine wpAny_bind (wpAny_standAt (wpAny_bind ?_))
  unfold subDict
  refine wpAny_bind (wpAny_alloc ?_)
  refine wpAny_bind (wpAny_holding ?_)
  rw [if_pos (by omega)]
  refine wpAny_bind (thn (h.run pins _ σ _ _ I1 (q _ hn)) fun ws s2 ⟨ps, H2, I2, rel, e, kvs, pr, lk, q2⟩ => ?_)
  refine wpAny_holding (wpAny_bind (dsets kvs hu I2 e rel pr (by rw [List.length_nil]; omega) fun s3 I3 => wpAny_pure (wpAny_pure (wpAny_pure ⟨.ref s.heap.objs.size, _, I3, rfl, q2⟩))))
theorem dispT {trs : List (TE × TE)} {σ : L2.St} {H : Hp} {Q : VK} (h : ∀ (p : Addr) (G : Hp), H p = none → G p = some (.dT []) → Same H G → tPairs trs σ G fun ps H2 => H2 p = some (.dT []) ∧ ∃ kvs : List (List Key × V), Paired (KeyAt H2) ps kvs ∧ kvs.length ≤ 15 ∧
    ∀ G2 : Hp, G2 p = some (.dT (putAll [] kvs)) → (∀ b, b ≠ p → G2 b = H2 b) → Q (.ref p) G2) : tDispT trs σ H Q := fun p hp => by
  have key := h p _ hp upd_same (same_upd hp)
  have mono : ∀ {trs : List (TE × TE)} {σ : L2.St} {H : Hp} {A B : List (V × V) → Hp → Prop}, A = B → tPairs trs σ H A → tPairs trs σ H B := fun e h => e ▸ h
  refine mono ?_ key
  funext ps H2
  refine propext ⟨fun ⟨a, kvs, b, c, d⟩ => ⟨a, kvs, b, c, d _ upd_same fun b hb => upd_ne hb⟩, fun ⟨a, kvs, b, c, d⟩ => ⟨a, kvs, b, c, fun G2 g off => ?_⟩⟩
  have e : G2 = upd H2 p (.dT (putAll [] kvs)) := by
    funext x
    by_cases q : x = p
    · rw [q, g, upd_same]
    · rw [off x q, upd_ne q]
  rw [e]
  exact d
/-- what a comprehension within a comprehension walks -/
theorem pi_listK {X : Cx} {K : PySem.W.Frag} {tg l : Expr} {tl : TE} (e : X.K = K) (hl : PE X l tl) : PI X tg l (iList K tl) := e ▸ pi_list hl
theorem pi_tupK {X : Cx} {K : PySem.W.Frag} {tg l : Expr} {tl : TE} (e : X.K = K) (hl : PE X l tl) : PI X tg l (iTup K tl) := e ▸ pi_tup hl
/-- a join within a comprehension -/
def joinR (K : PySem.W.Frag) : V → List V → Hp → VK → Prop := fun x xs H Q => ∃ a p, ∃ ys : List Str, x = .str a ∧ xs = [.ref p] ∧ (SqL K H p (ys.map V.str) ∨ SqT K H p (ys.map V.str)) ∧
      (ys.map (·.length)).sum + ys.length * a.length ≤ 16777216 ∧ Q (.str (Txt.join a ys)) H
theorem pe_joinK {X : Cx} {o e : Expr} {to te : TE} {apos pos : Pos} (ho : PE X o to) (he : PE X e te) (hs : starEach [e] X.env = [(false, eval e X.env)] := by rfl) (hbase : attributeBase o "join" X.env (eval o X.env) = eval o X.env := by rfl) (hline : (apos.endLine == pos.line) = true := by rfl) :
    PE X (.Call (.Attribute o "join" apos) [e] [] pos) (tM1 (joinR X.K) to te) := pe_join ho he hs hbase hline
theorem joinS {K : PySem.W.Frag} {H : Hp} {a : Str} {p : Addr} {ys : List Str} {Q : VK} (hp : SqL K H p (ys.map V.str) ∨ SqT K H p (ys.map V.str)) (hz : (ys.map (·.length)).sum + ys.length * a.length ≤ 16777216) (h : Q (.str (Txt.join a ys)) H) : joinR K (.str a) [.ref p] H Q := ⟨a, p, ys, rfl, rfl, hp, hz, h⟩
/-- dict(xs) of a list of pairs -/
def rDictP (K : PySem.W.Frag) : List V → Hp → VK → Prop := fun xs H Q => ∃ (a : Addr) (ps : List Addr) (kvs : List (Key × V)), xs = [.ref a] ∧ SqL K H a (ps.map V.ref) ∧ Paired (fun p kv => SqT K H p [kV kv.1, kv.2]) ps kvs ∧ ∀ p, H p = none → Q (.ref p) (upd H p (.dK (mergeK [] kvs)))
theorem c_dictP {X : Cx} (h : X.calm = true) : CallR X (.type "dict") (rDictP X.K) := call_dictP h
theorem dictP {K : PySem.W.Frag} {H : Hp} {a : Addr} {ps : List Addr} {kvs : List (Key × V)} {Q : VK} (h : SqL K H a (ps.map V.ref)) (hp : Paired (fun p kv => SqT K H p [kV kv.1, kv.2]) ps kvs) (q : ∀ (p : Addr) (G : Hp), H p = none → G p = some (.dK (mergeK [] kvs)) → Same H G → Q (.ref p) G) : rDictP K [.ref a] H Q :=
  ⟨a, ps, kvs, rfl, h, hp, fun p hp => q p _ hp upd_same (same_upd hp)⟩
end Ry

/-! Defs of which it is known that no repr is under way; repr of data. -/
namespace Rg
open PySem PySem.Spec PyProof.Rows L2
/-- the promise of a def, for the frames that stand in no repr -/
structure FnG (P : Program) (w : World) (K : PySem.W.Frag) (mg : Str → Option Value) (base : Heap) (CX : CXT) (k : Nat) (f : Addr) (fd : FuncData) (ps : List Str) (sp : Sp) : Prop where
  len : ∀ vs H Q E, sp vs H Q E → vs.length = ps.length
  run : ∀ (A : Around) (st : List Env) (s : Shared) (H : Hp) (ag : Args) (us : List Value) (vs : List V) (Q : VK) (E : XK), A.guards = some [] → Room k A → Env0 P w K mg base A st s H → BindsTo s fd ag (ps.zip us) → Vals vs us → sp vs H Q E →
    codeAny (model P w) A (.call (.ref f) ag) (CR CX st P w H s Q E) s
section
variable {P : Program} {w : World} {K : PySem.W.Frag} {mg : Str → Option Value} {base : Heap} {CX : CXT}
theorem FnG.mono {j k : Nat} {f : Addr} {fd : FuncData} {ps : List Str} {sp : Sp} (F : FnG P w K mg base CX j f fd ps sp) (h : j ≤ k) : FnG P w K mg base CX k f fd ps sp := ⟨F.len, fun A st s H ag us vs Q E g hr => F.run A st s H ag us vs Q E g (hr.mono h)⟩
theorem fnG_of {k : Nat} {f : Addr} {nm qual : Str} {pa : Arguments} {body : List Stmt} {sc : Scope} {dV kV doc pm cdv ct oc : Value} {an od : Option Addr} {osl : Array (Option Value)} {N ps : List Str} {sp : Sp}
    (lk : K.lookup f = some ⟨oc, od, .func (PySem.W.fnOf nm qual pa body sc dV kV doc pm an cdv ct), osl⟩) (hcd : PySem.W.codeIn K cdv qual = true) (S : FnScope N ps sc) (len : ∀ vs H Q E, sp vs H Q E → vs.length = ps.length)
    (hb : ∀ (A : Around) (st : List Env) (s : Shared) (H : Hp) (vs : List V) (Q : VK) (E : XK), A.guards = some [] → Room k (A.deeper (envOfC qual sc s.heap.objs.size f cdv)) → sp vs H Q E → ∃ t, PSs (cxOf CX P w K mg base N qual sc f cdv A st s H E) body t ∧ t { nx := fun _ H' => Q .non H', rt := Q } (start N vs) H) :
    FnG P w K mg base CX (k + 1) f (PySem.W.fnOf nm qual pa body sc dV kV doc pm an cdv ct) ps sp := by
  refine ⟨len, fun A st s H ag us vs Q E g hr e0 hbd r hsp => ?_⟩
  have KX : K.In s.heap := e0.mod.kin.keeps fun x o e => (e0.bs x o e).1
  have kinds : ∀ y ∈ ps.zip us, sc.names.lookup y.1 = some .local ∨ (sc.names.lookup y.1 = some .cell ∧ ((cellsFrom (s.heap.objs.size + 1) sc.names []).lookup y.1).isSome = true) := fun y hy =>
    (S.par y.1 (List.of_mem_zip hy).1).imp id fun q => ⟨q, PySem.W.cellsFrom_some _ _ _ (.inl q)⟩
  refine codeAny_call_function hr.depth (KX _ _ lk) rfl S.co S.gen rfl (PySem.W.codeRec_of KX hcd) (hbd _ _ _ _ (wpAny_newFunctionEnv_cells S.kind kinds fun env he s1 x => ?_))
  subst he
  refine ⟨(e0.mod.nolimit.keeps fun y o e => (e0.bs y o e).1).keeps x.toInCall.keep, codeAny_func ?_⟩
  obtain ⟨t, ht, hq⟩ := hb A st s H vs Q E g (hr.deeper _) hsp
  refine wpAny_mono (ht.run [] s1 (start N vs) H _ (inv_start S hr.hd e0 (len _ _ _ _ hsp) r x) hq) (fun fl s' hs => ?_) fun _ _ z => z
  cases fl with
  | ret u => exact let ⟨v, _, H', J, rv, q⟩ := hs; ⟨v, H', J.os, J.bare, J.base, J.hok, rv, q⟩
  | next => exact let ⟨_, H', J, q⟩ := hs; ⟨V.non, H', J.os, J.bare, J.base, J.hok, rfl, q⟩
  | brk => exact let ⟨_, _, _, q⟩ := hs; q.elim
  | cont => exact let ⟨_, _, _, q⟩ := hs; q.elim
end
section
variable {P : Program} {w : World} {K : PySem.W.Frag} {mg : Str → Option Value} {base : Heap}
/-- a def by its body, no repr under way -/
theorem okG {x qual : Str} {st : Stmt} {f : Addr} {fd : FuncData} {N ps : List Str} {k : Nat} {sp : Sp} (F : Fun K x qual st f fd) (S : FnScope N ps (defScope st)) (len : ∀ vs H Q E, sp vs H Q E → vs.length = ps.length)
    (hb : ∀ (cdv : Value) (A : Around) (out : List Env) (s : Shared) (H : Hp) (vs : List V) (Q : VK) (E : XK), A.guards = some [] → Room k (A.deeper (envOfC qual (defScope st) s.heap.objs.size f cdv)) → sp vs H Q E →
      ∃ t, PSs (cxOf CX0 P w K mg base N qual (defScope st) f cdv A out s H E).nox (defBody st) t ∧ t { nx := fun _ H' => Q .non H', rt := Q } (start N vs) H) : FnG P w K mg base CX0 (k + 1) f fd ps sp := by
  obtain ⟨_, _, _, _, _, _, cdv, _, _, rfl, lk, hcd⟩ := F.ex
  exact fnG_of lk hcd S len fun A out s H vs Q E g hr h => let ⟨t, p, q⟩ := hb cdv A out s H vs Q E g hr h; ⟨t, p.nox, q⟩
end
section
variable {X : Cx} {CX : CXT} {k : Nat} {f : Addr} {fd : FuncData} {ps : List Str} {sp : Sp} {E : XK} {x : Str} {p pos : Pos} {e : Expr} {es : List Expr} {t : TA}
/-- such a def called by its name -/
theorem pe_callG (g : X.A.guards = some []) (F : FnG X.prog X.w X.K X.mg X.base CX k f fd ps sp) (hr : Room k X.A) (hg : Gl X x) (hm : X.mg x = some (.ref f)) (hk : PySem.W.keepIn X.K (.ref f) = true) (hb : Binds X.K fd ps []) (hx : Passes CX X E) (ha : PA X (e :: es) t)
    (hdb : (x == ("__debug__" : Str)) = false := by decide) (he : starEach (e :: es) X.env = (false, eval e X.env) :: starEach es X.env := by rfl) (hpl : (backTo pos (starEach es X.env)).any (·.1) = false := by rfl) :
    PE X (.Call (.Name x p) (e :: es) [] pos) (tCall sp [] E t) := ⟨fun pins s σ H Q I h => by
  refine wpAny_Call_Name_kw (ld_glob I hg hm (PySem.W.callWith_K (h₀ := X.base) I.ok.mod.kin hk (thn (ha.run pos pins s σ H _ I h) fun us s1 hq => ?_) he hpl) hdb)
  obtain ⟨vs, H1, I1, r, q⟩ := hq
  rw [List.append_nil] at q
  have hl : (us ++ []).length = ps.length := by rw [List.append_nil, ← r.length]; exact F.len _ _ _ _ q
  have b := hb s1 us I1.kIn hl
  rw [List.append_nil] at b
  refine ⟨I1.kIn, wpAny_call (codeAny_mono (F.run X.A X.stack s1 H1 ⟨us, []⟩ us vs Q E g hr I1.env0 b r q) fun res s' z => ?_)⟩
  match res, z with
  | .error v, z => exact hx pins σ H1 s1 v s' I1 z
  | .ok (.ret u), z => exact I1.after z
  | .ok .next, z => exact z.elim
  | .ok .brk, z => exact z.elim
  | .ok .cont, z => exact z.elim⟩
end
/-! ### repr -/
def rRepr (K : PySem.W.Frag) : List V → Hp → VK → Prop := fun vs H Q => ∃ (a : Addr) (d : PyData), vs = [.ref a] ∧ Dp K H (.ref a) d ∧ d.showable = true ∧ d.hasDict = false ∧ d.depth ≤ 100 ∧ d.shown.length ≤ sizeLine ∧ Q (.str d.shown) H
theorem cr_repr {X : Cx} (g : X.A.guards = some []) (hu : X.A.units + 101 < cLine) : CallR X (.builtin "repr") (rRepr X.K) := by
  intro pins s σ H vs us Q I r h
  obtain ⟨a, d, rfl, dp, sh, nd, dd, hz, q⟩ := h
  rw [Vals.ref1 r]
  obtain ⟨as, rd⟩ := Dp.reads I d (.ref a) (.ref a) dp rfl
  refine repr_of_reads' rd sh (PyData.noDict_hsm nd) g (by omega) (fun _ _ z => z) (fun h' u tk kp => ?_) hz
  exact ⟨.str d.shown, H, I.kept (t' := tk) kp, ⟨_, rfl⟩, q⟩
/-! ### the law's own def -/
/-- the abstract heap behind the top: the script alone, unless it is one of the module's own objects -/
def scriptH (K : PySem.W.Frag) (a : Addr) (vs : List Value) (ns : List Int) : Hp := fun b => if b = a ∧ K.lookup a = none then some (.frz { cls := .type "list", data := .seq vs.toArray } (.lst (ns.map V.int))) else none
theorem scriptH_some {K : PySem.W.Frag} {a b : Addr} {vs : List Value} {ns : List Int} {u : HO} (h : scriptH K a vs ns b = some u) : b = a ∧ K.lookup a = none ∧ u = .frz { cls := .type "list", data := .seq vs.toArray } (.lst (ns.map V.int)) := by
  unfold scriptH at h
  by_cases c : b = a ∧ K.lookup a = none
  · rw [if_pos c] at h
    exact ⟨c.1, c.2, (Option.some.inj h).symm⟩
  · rw [if_neg c] at h
    cases h
theorem walk_ofG {l : PySem.W.OpenLaw} {n k : Nat} {q : Program} {loose : List Str} {XP : (Str → Option Value) → Heap → Prop} {YP : World → Heap → Prop} {d : DefRec} {K : Params → PySem.W.Frag} {CX : World → CXT} {sp : World → Sp} {x : Str}
    (hn : l.most = some n) (hn2 : n ≤ sizeLine) (hdf : d.params.defaults = []) (hr : Room k callerA) (hY : ∀ (w : World) (h : Heap), YP w h → (K w.params).In h)
    (F : ∀ (w : World) (mg : Str → Option Value) (fa : Addr) (h : Heap), (K w.params).In h → h.Ns mainGlobals mg → mg d.name = some (.ref fa) →
      ∃ fd : FuncData, (∀ (s : Shared) (u : Value), BindsTo s fd ⟨[u], []⟩ [(x, u)]) ∧ ∀ base : Heap, (K w.params).In base → base.Ns mainGlobals mg → FnG l.prog w (K w.params) mg base (CX w) k fa fd [x] (sp w))
    (hsp : ∀ (w : World) (H : Hp) (a : Addr) (ns : List Int), ns.length ≤ n → SqL (K w.params) H a (ns.map V.int) → sp w [.ref a] H (fun v _ => v = .bl true) fun _ _ _ => False)
    (hCX : ∀ (w : World) (H : Hp) (s : Shared) (e : Value) (s' : Shared), CX w [] H s (fun _ _ _ => False) e s' → False) :
    PySem.W.WalkO q loose XP YP l.row.toRowW d [] (fun f vs => PySem.call f vs) := by
  refine Att.attach_call hn hdf fun w s₀ s1 mg mb fa o pm cd doc a vs ns G Y _ _ _ hmg hobj hints hlen hgen => ?_
  have KX := hY w _ Y
  obtain ⟨fd, hbind, hF⟩ := F w mg fa _ KX G.T.g hmg
  have len : vs.length = ns.length := hints.length
  have rv := vals_ints hints
  let H := scriptH (K w.params) a vs ns
  have hS : SqL (K w.params) H a (ns.map V.int) := by
    cases hk : (K w.params).lookup a with
    | none => exact .inl (.inr ⟨_, if_pos ⟨rfl, hk⟩⟩)
    | some ob =>
      have e := KX a ob hk
      rw [hobj] at e
      cases e
      exact .inr ⟨_, vs.toArray, _, hk, rfl, rfl, rfl, by rw [List.size_toArray, len]; omega, by simpa using rv⟩
  have hok : HOk l.prog w H s1.heap := fun b u z => by
    obtain ⟨rfl, _, rfl⟩ := scriptH_some z
    exact ⟨hobj, by rw [List.length_map]; omega, vs, _, rv, hobj⟩
  have keepK : ∀ {b : Addr} {ob : Obj}, s1.heap.get? b = some ob → H b = none → (hidT s1.heap H).get? b = some ob := fun e z => hidT_get e z
  have noDict : ∀ {b : Addr} {ob : Obj} {es : Array DictEntry} {ep : Nat}, s1.heap.get? b = some ob → ob.data = .dict es ep → H b = none := fun {b ob es ep} e z => by
    cases c : H b with
    | none => rfl
    | some u =>
      obtain ⟨rfl, _, _⟩ := scriptH_some c
      rw [hobj] at e
      cases e
      exact absurd z (fun y => Data.noConfusion y)
  have hns : ∀ {b : Addr} {m : Str → Option Value}, s1.heap.Ns b m → (hidT s1.heap H).Ns b m := fun {b m} ⟨ob, es, ep, e, z, r⟩ => ⟨ob, es, ep, keepK e (noDict e z), z, r⟩
  have hKb : (K w.params).In (hidT s1.heap H) := fun b ob e => keepK (KX b ob e) (by
    cases c : H b with
    | none => rfl
    | some u =>
      obtain ⟨rfl, z, _⟩ := scriptH_some c
      rw [z] at e
      cases e)
  have hM : Mod (K w.params) mg (hidT s1.heap H) := ⟨hKb, hns G.T.g, ⟨mb, hns G.T.b, G.T.builtins⟩, let ⟨mc, h1, h2⟩ := G.T.nolimit; ⟨mc, hns h1, h2⟩⟩
  have e0 : Env0 l.prog w (K w.params) mg (hidT s1.heap H) callerA [] s1 H := ⟨rfl, hM, fun b ob e => of_hidT e, Nat.le_of_eq (hidT_size _ _), trivial, fun b z => absurd z List.not_mem_nil, hok, .of_eq hgen⟩
  refine codeAny_mono ((hF _ hKb (hns G.T.g)).run callerA [] s1 H ⟨[.ref a], []⟩ [.ref a] [.ref a] _ _ rfl hr e0 (hbind s1 (.ref a)) (.cons rfl .nil) (hsp w H a ns hlen hS)) fun r s' z => ?_
  match r, z with
  | .error v, z => exact (hCX w H s1 v s' z).elim
  | .ok .next, z => exact z.elim
  | .ok .brk, z => exact z.elim
  | .ok .cont, z => exact z.elim
  | .ok (.ret u), z =>
    obtain ⟨v, H', os, bare, un, hok', rel, rfl⟩ := z
    obtain rfl : u = Value.bool true := rel
    refine ⟨rfl, OldK.of_keep fun b ob e => ?_, os, bare⟩
    cases c : H b with
    | none => exact un.keep b ob e c (fun y => absurd y List.not_mem_nil) (fun y => absurd y List.not_mem_nil)
    | some u =>
      obtain ⟨rfl, _, rfl⟩ := scriptH_some c
      obtain ⟨e2, _⟩ := hok' _ _ (un.frzs _ _ _ c)
      rw [hobj] at e
      cases e
      exact e2
end Rg
namespace Rg
theorem u101 {k : Nat} {A : PySem.Around} (h : L2.Room k A) : A.units + 101 < PySem.cLine := by have := h.un; omega
end Rg

/-! A try with several clauses, each with a name or without. -/
namespace Rh
open PySem PySem.Spec PyProof.Rows L2
/-- a clause: its class, the slot of its name (if it has one), what its suite does -/
structure Cl where
  cls : Value
  slot : Option Nat
  does : Addr → Value → Option Addr → TS
/-- how a suite ends where its name is gone -/
def gone (o : Option Nat) (D : Ends) : Ends := match o with
  | none => D
  | some i => { nx := fun σ G => D.nx (σ.set i none) G, rt := D.rt, bk := fun σ G => D.bk (σ.set i none) G, ct := fun σ G => D.ct (σ.set i none) G }
/-- how it begins -/
def named (o : Option Nat) (a : Addr) (σ : L2.St) : L2.St := match o with
  | none => σ
  | some i => σ.set i (some (.ref a))
/-- what the clauses wish of an exception of the body -/
def wish (K : PySem.W.Frag) (W0 : WX) (D : Ends) : List Cl → WX
  | [] => W0
  | q :: r => fun kl d σ G => ∃ y, PySem.W.exmOne K kl q.cls = some y ∧ (y = true → ∀ a, G a = none → q.does a kl d (gone q.slot D) (named q.slot a σ) G) ∧ (y = false → wish K W0 D r kl d σ G)
/-- a clause of the text and what is known of it -/
inductive Fits (X : Cx) : List ExceptHandler → List Cl → Prop
  | nil : Fits X [] []
  | bare {x : Str} {v : Value} {ts : Addr → Value → Option Addr → TS} {s0 : Stmt} {more : List Stmt} {p1 p2 : Pos} {es : List ExceptHandler} {qs : List Cl} (nm : Names X x v)
      (run : ∀ (a : Addr) (ob : Obj) (kl : Value) (d : Option Addr) (pn : List (Addr × Obj)), Zc kl d ob → (∃ vs, ob.data = .fields vs) → PSs (X.suite a ((a, ob) :: pn)) (s0 :: more) (ts a kl d)) (t : Fits X es qs) :
      Fits X (.ExceptHandler (some (.Name x p1)) none (s0 :: more) p2 :: es) (⟨v, none, ts⟩ :: qs)
  | kept {x n : Str} {i : Nat} {v : Value} {ts : Addr → Value → Option Addr → TS} {s0 : Stmt} {more : List Stmt} {p1 p2 : Pos} {es : List ExceptHandler} {qs : List Cl} (nm : Names X x v) (ni : X.N[i]? = some n) (nl : X.env.kindOf n = some .local)
      (run : ∀ (a : Addr) (ob : Obj) (kl : Value) (d : Option Addr) (pn : List (Addr × Obj)), Zc kl d ob → (∃ vs, ob.data = .fields vs) → PSs (X.suite a ((a, ob) :: pn)) (s0 :: more) (ts a kl d)) (t : Fits X es qs) :
      Fits X (.ExceptHandler (some (.Name x p1)) (some n) (s0 :: more) p2 :: es) (⟨v, some i, ts⟩ :: qs)
section
variable {X : Cx} {pins : List (Addr × Obj)} {W0 : WX} {D : Ends}
/-- an exception's object is no frame -/
theorem no_frame {B g : Heap} {l : List Env} {a : Addr} {ob : Obj} {vs : Array Value} (F : g.FunFrames B l) (ga : g.get? a = some ob) (gd : ob.data = .fields vs) : a ∉ frs l := fun hm => by
  obtain ⟨_, ob2, g2, no⟩ := F.mem hm
  rw [ga] at g2
  cases g2
  exact no _ gd
/-- the suite's ends, its name gone, are the try's -/
theorem after {o : Option Nat} {n : Option Str} {p : Pos} {pn : List (Addr × Obj)} {a : Addr} {q : Addr × Obj} {s1 : Shared} {f : Flow} {P : Flow → Shared → Prop} (ok : X.Ok) (nod : X.N.Nodup)
    (hn : (o = none ∧ n = none) ∨ ∃ i w, o = some i ∧ n = some w ∧ X.N[i]? = some w ∧ X.env.kindOf w = some .local)
    (hP : ∀ f s2, SP X pins D f s2 → P f s2)
    (z : SP (X.suite a (q :: (X.pn ++ pins))) [] (gone o D) f s1) : (n = none → P f s1) ∧ ∀ w, n = some w → wpAny (model X.prog X.w) X.A (do bindName X.env w .none; unbindBehindTheSuite X.env w p) (fun _ s2 => P f s2) X.xe s1 := by
  refine ⟨fun e => hP _ _ ?_, fun w e => ?_⟩
  · rcases hn with ⟨rfl, _⟩ | ⟨i, w, _, e2, _⟩
    · cases f with
      | next => obtain ⟨σ6, G6, J6, r6⟩ := z; exact ⟨σ6, G6, J6.unsuite ok, r6⟩
      | brk => obtain ⟨σ6, G6, J6, r6⟩ := z; exact ⟨σ6, G6, J6.unsuite ok, r6⟩
      | cont => obtain ⟨σ6, G6, J6, r6⟩ := z; exact ⟨σ6, G6, J6.unsuite ok, r6⟩
      | ret u => obtain ⟨v6, σ6, G6, J6, rv, r6⟩ := z; exact ⟨v6, σ6, G6, J6.unsuite ok, rv, r6⟩
    · rw [e] at e2
      cases e2
  · rcases hn with ⟨_, e2⟩ | ⟨i, w2, rfl, e2, ni, nl⟩
    · rw [e] at e2
      cases e2
    · rw [e] at e2
      cases e2
      cases f with
      | next => obtain ⟨σ6, G6, J6, r6⟩ := z; exact gone_ok (J6.unsuite ok) nod ni nl fun s7 J7 => hP _ _ ⟨_, _, J7, r6⟩
      | brk => obtain ⟨σ6, G6, J6, r6⟩ := z; exact gone_ok (J6.unsuite ok) nod ni nl fun s7 J7 => hP _ _ ⟨_, _, J7, r6⟩
      | cont => obtain ⟨σ6, G6, J6, r6⟩ := z; exact gone_ok (J6.unsuite ok) nod ni nl fun s7 J7 => hP _ _ ⟨_, _, J7, r6⟩
      | ret u => obtain ⟨v6, σ6, G6, J6, rv, r6⟩ := z; exact gone_ok (J6.unsuite ok) nod ni nl fun s7 J7 => hP _ _ ⟨_, _, _, J7, rv, r6⟩
/-- the clauses, one after the other -/
theorem clauses {B : Heap} {a : Addr} {kl : Value} {d : Option Addr} {sI s1 : Shared} {σ : L2.St} {G : Hp} {g : Heap} (stk : X.stack = X.env :: X.outer) (frm : X.env.frame = some X.env.locals) (nod : X.N.Nodup) (tk : Takes X W0)
    (J : Inv X pins σ G sI) (nb : ∀ b o, sI.heap.get? b = some o → b ∉ frs X.stack → B.get? b = some o) (na : G a = none) (os : s1.os = sI.os) (ag : AllBare s1.gens)
    (up : sI.heap.UpToSlots g) (fl : HandSPX.FlyingZ B (X.env :: X.outer) a (Zc kl d) g) {es : List ExceptHandler} {qs : List Cl} (F : Fits X es qs) :
    wish X.K W0 D qs kl d σ G → wpAny (model X.prog X.w) X.A (handleBy (.ref a) X.env es) (SP X pins D) X.xe { s1 with heap := g } := by
  have land : ∀ {k : Heap}, sI.heap.UpToSlots k → HandSPX.FlyingZ B (X.env :: X.outer) a (Zc kl d) k → Inv X pins σ G { s1 with heap := k } := fun u f => J.landed nb f.1 u os ag
  have J3 := land up fl
  obtain ⟨ob, vs, ga, gz, gd⟩ := fl.there
  have nf := no_frame fl.2.2.1 ga gd
  have nL : a ≠ X.env.locals := fun e => nf (List.mem_filterMap.mpr ⟨X.env, List.mem_cons_self, by rw [frm, e]⟩)
  have nF : a ∉ X.fs := fun m => let ⟨e, he, q⟩ := List.mem_filterMap.mp m; nf (List.mem_filterMap.mpr ⟨e, List.mem_cons_of_mem _ he, q⟩)
  have J3s := J3.suite ga gd na nL nF
  have LT : PySem.W.Looks (model X.prog X.w) g (typeOf (.ref a)) kl := fun A Q E s k q => wpAny_typeOf_ref (k _ _ ga) (by rw [gz.1]; exact q)
  have ask : ∀ {x : Str} {c : Value} {np : Pos}, Names X x c → ∀ {Q E : Value → Shared → Prop}, Q c { s1 with heap := g } → wpAny (model X.prog X.w) (X.A.mark (some (.ref a))) (eval (.Name x np) X.env) Q E { s1 with heap := g } := by
    rintro x c np ⟨gl, db, m | ⟨m, bt, nn⟩⟩ Q E q
    · exact ld_glob (X := X.suite a ((a, ob) :: (X.pn ++ pins))) J3s gl m q db
    · exact ld_blt (X := X.suite a ((a, ob) :: (X.pn ++ pins))) J3s gl m bt q nn db
  induction F with
  | nil =>
    intro wsh
    refine wpAny_handleBy_nil ?_
    obtain ⟨_, _, _, ob2, vs2, tr, _, _, g2, _, d2, f1, _⟩ := id fl
    unfold PySem.passOn
    refine wpAny_bind (wpAny_field g2 d2 f1 ?_)
    rw [if_neg (show ¬ ((Value.ref tr == Value.none) = true) from by simp)]
    have out : wpAny (model X.prog X.w) X.A (setFlight (.ref a) X.env.frame) (fun _ s4 => wpAny (model X.prog X.w) X.A (throw (.ref a) : Sem Flow) (SP X pins D) X.xe s4) X.xe { s1 with heap := g } := by
      rw [frm]
      exact HandSPX.setFlight_upZ fl fun k held u => wpAny_throw (tk _ _ ⟨a, B, sI, pins, σ, G, kl, d, rfl, J, nb, up.trans u, .inr (.inr (by rw [stk]; exact held)), na, os, ag, wsh⟩)
    first
      | exact wpAny_bind (wpAny_pure (wpAny_bind out))
      | exact wpAny_bind out
  | @bare x v ts s0 more p1 p2 es2 qs2 nm run t ih =>
    rintro ⟨y, y1, yes, no⟩
    refine wpAny_handleBy_cons (codeAny_handlers_test (ask nm ((PySem.W.exm_one (M := model X.prog X.w) J3.kIn LT y1).here ?_))) (by intro q; cases q)
    cases y with
    | false => exact ih (no rfl)
    | true =>
      refine codeAny_handlers_suite (HandSPX.lands_againZ fl fun k fk uk => ?_)
      have J4 := land (up.trans uk) fk
      obtain ⟨ob4, vs4, g4, z4, d4⟩ := fk.there
      exact wpAny_mono ((run a ob4 kl d (X.pn ++ pins) z4 ⟨_, d4⟩).run [] _ _ G _ (J4.suite g4 d4 na nL nF) (yes rfl a na)) (fun f s6 z => (after (o := none) (n := none) (p := p2) (pn := []) J.ok nod (.inl ⟨rfl, rfl⟩) (fun _ _ q => q) z).1 rfl) fun _ _ z => False.elim z
  | @kept x n i v ts s0 more p1 p2 es2 qs2 nm ni nl run t ih =>
    rintro ⟨y, y1, yes, no⟩
    refine wpAny_handleBy_cons (codeAny_handlers_test (ask nm ((PySem.W.exm_one (M := model X.prog X.w) J3.kIn LT y1).here ?_))) (by intro q; cases q)
    cases y with
    | false => exact ih (no rfl)
    | true =>
      refine codeAny_handlers_suite_as (HandSPX.lands_againZ fl fun k fk uk => ?_)
      have J4 := land (up.trans uk) fk
      obtain ⟨ob4, vs4, g4, z4, d4⟩ := fk.there
      refine store_ok (X := X.suite a ((a, ob4) :: (X.pn ++ pins))) (v := .ref a) (J4.suite g4 d4 na nL nF) nod ni (.inl nl) rfl (fun s5 J5 => ?_) (.inr nl)
      exact wpAny_mono ((run a ob4 kl d (X.pn ++ pins) z4 ⟨_, d4⟩).run [] s5 _ G _ J5 (yes rfl a na)) (fun f s6 z => (after (o := some i) (n := some n) (p := p2) (pn := []) J.ok nod (.inr ⟨i, n, rfl, rfl, ni, nl⟩) (fun _ _ q => q) z).2 n rfl) fun _ _ z => False.elim z
/-- THE RULE for a try with any clauses -/
theorem ps_tryC {body : List Stmt} {e0 : ExceptHandler} {es : List ExceptHandler} {qs : List Cl} {p : Pos} {tb : WX → TS} (stk : X.stack = X.env :: X.outer) (frm : X.env.frame = some X.env.locals) (nod : X.N.Nodup) (tk : Takes X W0) (F : Fits X (e0 :: es) qs)
    (hb : ∀ (W : WX) (pn : List (Addr × Obj)) (xe : Value → Shared → Prop), Takes (X.tr pn xe) W → PassesOwn (model X.prog X.w) X.A X.env xe → PSs (X.tr pn xe) body (tb W)) :
    PS X (.Try body (e0 :: es) [] [] p) (fun D σ H => tb (wish X.K W0 D qs) D σ H) := by
  refine ⟨fun pins s σ H D I h => ?_⟩
  have fr2 : X.A.frames = some (X.env :: X.outer) := by rw [I.ok.frames, stk]
  refine wpAny_Try_except ?_
  refine wpAny_mono ((hb (wish X.K W0 D qs) (X.pn ++ pins) (fun u s₁ => wpAny (model X.prog X.w) X.A (noteFrame u X.env) (fun _ s₂ => wpAny (model X.prog X.w) X.A (setFlight u none) (fun _ s₃ =>
    wpAny (model X.prog X.w) X.A (handleBy u X.env (e0 :: es)) (SP X pins D) X.xe s₃) X.xe s₂) X.xe s₁) (fun u s' out => ?_) PassesOwn.looking).run [] s σ H D (I.toTry _) h) (fun f s1 z => ?_) fun _ _ z => z
  · obtain ⟨a, B, sI, pn2, σ2, G, kl, d, rfl, K2, nb, up, sky, na, os, ag, wsh⟩ := out
    rw [show (X.tr (X.pn ++ pins) _).stack = X.env :: X.outer from stk] at sky
    exact Sky.land Zc.steady fr2 frm sky fun g fl ug => clauses stk frm nod tk (K2.ofTry I.ok) nb na os ag (up.trans ug) fl F wsh
  · cases f with
    | next => obtain ⟨σ2, G, K2, q⟩ := z; exact wpAny_execs_nil ⟨σ2, G, K2.ofTry I.ok, q⟩
    | brk => obtain ⟨σ2, G, K2, q⟩ := z; exact ⟨σ2, G, K2.ofTry I.ok, q⟩
    | cont => obtain ⟨σ2, G, K2, q⟩ := z; exact ⟨σ2, G, K2.ofTry I.ok, q⟩
    | ret u => obtain ⟨v, σ2, G, K2, rv, q⟩ := z; exact ⟨v, σ2, G, K2.ofTry I.ok, rv, q⟩
/-! ### which clause takes it -/
theorem wish_hit0 {K : PySem.W.Frag} {fI C E : Addr} {does : Addr → Value → Option Addr → TS} {qs : List Cl} {d : Option Addr} {σ : L2.St} {G : Hp} (FE : Rx.ExcF K fI E) (h : PySem.W.subIn K (.ref C) (.ref E) = some true) (k : ∀ a, G a = none → does a (.ref C) d D σ G) :
    wish K W0 D (⟨.ref E, none, does⟩ :: qs) (.ref C) d σ G := ⟨true, Rx.exm FE h, fun _ => k, fun e => (nomatch e)⟩
theorem wish_hit {K : PySem.W.Frag} {fI C E : Addr} {i : Nat} {does : Addr → Value → Option Addr → TS} {qs : List Cl} {d : Option Addr} {σ : L2.St} {G : Hp} (FE : Rx.ExcF K fI E) (h : PySem.W.subIn K (.ref C) (.ref E) = some true)
    (k : ∀ a, G a = none → does a (.ref C) d { nx := fun σ G => D.nx (σ.set i none) G, rt := D.rt, bk := fun σ G => D.bk (σ.set i none) G, ct := fun σ G => D.ct (σ.set i none) G } (σ.set i (some (.ref a))) G) :
    wish K W0 D (⟨.ref E, some i, does⟩ :: qs) (.ref C) d σ G := ⟨true, Rx.exm FE h, fun _ => k, fun e => (nomatch e)⟩
theorem wish_miss {K : PySem.W.Frag} {fI C E : Addr} {slot : Option Nat} {does : Addr → Value → Option Addr → TS} {qs : List Cl} {d : Option Addr} {σ : L2.St} {G : Hp} (FE : Rx.ExcF K fI E) (h : PySem.W.subIn K (.ref C) (.ref E) = some false) (k : wish K W0 D qs (.ref C) d σ G) :
    wish K W0 D (⟨.ref E, slot, does⟩ :: qs) (.ref C) d σ G := ⟨false, Rx.exm FE h, fun e => (nomatch e), fun _ => k⟩
/-! ### raise C() with a default None -/
theorem pmk_oex0 {CX : CXT} {x : Str} {C fI : Addr} {k : Nat} {fd : FuncData} {ps : List Str} {sp : Sp} {ds : List Value} {dvs : List V} {p pos : Pos} (T : OexC X.K C) (iC : PySem.W.findIn X.K (.ref C) "__init__" = some (some (.ref fI))) (tI : PySem.W.typeIn X.K (.ref fI) = some (.type "function"))
    (F1 : FnOk X.prog X.w X.K X.mg X.base CX k fI fd ps sp) (hr : Room (k + 1) X.A) (hb : Binds X.K fd ps ds) (hd : Vals dvs ds) (hx : Passes CX X (fun _ _ _ => False)) (hg : Gl X x) (hm : X.mg x = some (.ref C)) (hdb : (x == ("__debug__" : Str)) = false := by decide) :
    PMk X (.Call (.Name x p) [] [] pos) (tMkO C sp dvs tNil) := by
  intro pins s σ H Q I q1
  obtain ⟨nm, q, N, bs, bm, sn, sub, ab, col, dd, k0, k1, k2, k3, k5, hC, hbm⟩ := T.cls
  refine wpAny_Call_Name_kw (ld_glob I hg hm ?_ hdb)
  refine PySem.W.callWith_K0 I.kIn T.kC ?_
  show wpAny _ _ (call (.ref C) []) _ _ _
  obtain ⟨hp, g, dr, tk, os⟩ := s
  have hsz := Nat.le_succ hp.objs.size
  have hq := q1.2 (hp.objs.size + 1) (I.hok.fresh hsz)
  have kk : ∀ b o, hp.get? b = some o → ((hp.push (PySem.W.kdv_tup [])).push (PySem.HandSPX.excO C hp.objs.size)).get? b = some o := fun b o e => Heap.get?_push_of_some _ (Heap.get?_push_of_some _ e)
  have hget : ((hp.push (PySem.W.kdv_tup [])).push (PySem.HandSPX.excO C hp.objs.size)).get? (hp.objs.size + 1) = some (PySem.HandSPX.excO C hp.objs.size) := by heap_get
  have I2 : Inv X pins σ (upd H (hp.objs.size + 1) (exo (hp.objs.size + 1) C none)) ⟨(hp.push (PySem.W.kdv_tup [])).push (PySem.HandSPX.excO C hp.objs.size), g, dr, tk, os⟩ :=
    I.laid (t' := tk) kk hsz (exo_ok hget)
  have r2 : Vals (V.ref (hp.objs.size + 1) :: dvs) (Value.ref (hp.objs.size + 1) :: ds) := .cons rfl hd
  have hl : (Value.ref (hp.objs.size + 1) :: ds).length = ps.length := by
    have e := r2.length
    have e2 := F1.len _ _ _ _ hq
    rw [List.nil_append] at e2
    exact e.symm.trans e2
  refine wpAny_call (PySem.HandSPX.call_own F.excBase_ValueError (fun Y => PySem.HandSPX.refsVE_contains Y bm hbm) (I.kIn _ _ hC) (PySem.W.looks_findIn I.kIn iC) (fun self => PySem.W.bind_fn I.kIn self tI) (Nat.zero_le _)
    (codeAny_mono (F1.run _ X.stack _ _ ⟨[Value.ref (hp.objs.size + 1)], []⟩ (Value.ref (hp.objs.size + 1) :: ds) _ _ (fun _ _ _ => False) (hr.make C [] []) (I2.env0.make C [] []) (hb _ [Value.ref (hp.objs.size + 1)] I2.kIn hl) r2 hq) fun r s' hq' => ?_))
  cases r with
  | error er => exact hx pins σ _ _ er s' I2 hq'
  | ok fl =>
    cases fl with
    | ret u =>
      obtain ⟨v, H2, os2, bare2, un2, hok2, rv, ev, d, fs, ea, ed, hd1, q2⟩ := hq'
      subst ev
      obtain ⟨h2, g2, d2, t2, os'⟩ := s'
      exact ⟨rv, mk_end (raises_own T.exC T.tyC) I hsz kk un2 hok2 os2 bare2 ea ed hd1 q2⟩
    | next => exact False.elim hq'
    | brk => exact False.elim hq'
    | cont => exact False.elim hq'
open Rx in
theorem mk_reads0 {K : PySem.W.Frag} {fI C : Addr} {σ : L2.St} {H : Hp} {Q : XK} (F : ExcF K fI C) (hv : RaiseQ C .non H Q) : tMkO C (spWe K) [.non] tNil σ H Q := by
  refine ⟨(by decide : 0 ≤ 1000), fun a na => ⟨a, C, .non, rfl, F.ox, F.nv, upd_same, fun dx ndx ne => ⟨rfl, dx, [("value", .non)], upd_same, ?_, ?_, ?_⟩⟩⟩
  · rw [upd_ne ne, upd_same]
  · rw [upd_ne ne] at ndx
    exact ndx
  · rw [upd_ne ne] at ndx
    refine hv dx _ ndx upd_same fun b hb => ?_
    rw [upd_ne hb]
    by_cases c : b = a
    · rw [c, del_same, na]
    · rw [del_ne c, upd_ne c, upd_ne hb, upd_ne c]
open Rx in
/-- raise C() -/
def tRaise0 (C : Addr) (W : WX) : TS := fun _ σ H => RaiseQ C .non H fun cls d H2 => W cls d σ H2
open Rx in
theorem ps_raise0 {x : Str} {p pos pos2 : Pos} {C fI : Addr} {k : Nat} {fd : FuncData} {W : WX} (hc : X.calm = true) (F : ExcF X.K fI C) (tI : PySem.W.typeIn X.K (.ref fI) = some (.type "function")) (F1 : FnOk X.prog X.w X.K X.mg X.base CX0 k fI fd ["self", "value"] (spWe X.K)) (hr : Room (k + 1) X.A) {ds : List Value} (hb : Binds X.K fd ["self", "value"] ds) (hd : Vals [.non] ds)
    (hg : Gl X x) (hm : X.mg x = some (.ref C)) (tk : Takes X W) (hdb : (x == ("__debug__" : Str)) = false := by decide) :
    PS X (.Raise (some (.Call (.Name x p) [] [] pos)) none pos2) (tRaise0 C W) :=
  have z := ps_raise (pos := pos2) hc tk (pmk_oex0 (p := p) (pos := pos) F.ox F.iC tI F1 hr hb hd (CX := CX0) (fun _ _ _ _ _ _ _ h => h.elim) hg hm hdb)
  ⟨fun pins s σ H D I h => z.run pins s σ H D I (mk_reads0 F h)⟩
end
end Rh

/-! f-strings; texts cut at a blank, split at the ends of rows and joined again. -/
namespace Rf
open PySem PySem.Spec PyProof.Rows L2 Rd
variable {D : Ends} {σ : L2.St} {H H' : Hp} {K : PySem.W.Frag}
theorem empty_app (a : Str) : Str.empty ++ a = a := TL.ext_tl (by rw [TL.tl_append]; rfl)
/-- f"{a}c{b}" of two texts that stand in variables -/
theorem row3 {i j : Nat} {a b c : Str} {R : Str → Hp → Prop} (ha : σ[i]? = some (some (.str a))) (hb : σ[j]? = some (some (.str b))) (l : a.length + b.length + c.length ≤ 100000) (q : R (a ++ c ++ b) H) : tJs [tFmt (tVar i), tC (.str c), tFmt (tVar j)] Str.empty σ H R := by
  have s := sizeLine_eq
  have e1 : (a ++ c).length = a.length + c.length := Array.size_append
  have e2 : (a ++ c ++ b).length = (a ++ c).length + b.length := Array.size_append
  refine ⟨_, ha, .inl ⟨a, rfl, by omega, a, rfl, by rw [empty_app]; omega, _, rfl, ?_, ?_⟩⟩
  · rw [empty_app]
    omega
  · rw [empty_app]
    exact ⟨_, hb, .inl ⟨b, rfl, by omega, b, rfl, by omega, q⟩⟩
theorem tyS {z : Str} {R : Prop} (r : R) : tyV K "str" (.str z) H ∧ R := ⟨rfl, r⟩
def PartQ : V → List V → Hp → VK → Prop := fun x xs H Q => ∃ a b, x = .str a ∧ xs = [.str b] ∧ (b.length == 0) = false ∧ a.length ≤ sizeLine ∧ NewQ (.tup [.str (Txt.partition a b).1, .str (Txt.partition a b).2.1, .str (Txt.partition a b).2.2]) Q H
theorem mt_part {X : Cx} : MtR X "str.partition" PartQ := mt_partition
theorem partS {z : Str} {Q : VK} (l : z.length ≤ 1000000) (k : ∀ (p : Addr) (G : Hp), H p = none → G p = some (.tup [.str (Txt.partition z " ").1, .str (Txt.partition z " ").2.1, .str (Txt.partition z " ").2.2]) → Same H G → Q (.ref p) G) : PartQ (.str z) [.str " "] H Q :=
  ⟨z, " ", rfl, rfl, by decide +kernel, by rw [sizeLine_eq]; omega, Rd.new k⟩
def SwQ : V → List V → Hp → VK → Prop := fun x xs H Q => ∃ a b, x = .str a ∧ xs = [.str b] ∧ Q (.bl (Txt.startswith a b)) H
theorem mt_sw {X : Cx} : MtR X "str.startswith" SwQ := mt_startswith
theorem splitS {z c : Str} {Q : VK} (n : (c.length == 0) = false) (l : z.length ≤ 1000000) (k : ∀ (D : Addr) (G : Hp), H D = none → G D = some (.lst ((Txt.split z c).map V.str)) → Same H G → Q (.ref D) G) :
    ∃ a b : Str, V.str z = .str a ∧ [V.str c] = [V.str b] ∧ (b.length == 0) = false ∧ a.length + 2 ≤ sizeLine ∧ rNewStrs (Txt.split a b) H Q :=
  ⟨z, c, rfl, rfl, n, by rw [sizeLine_eq]; omega, fun p n => k p _ n upd_same (Rd.same_upd n)⟩
theorem swS {z y : Str} {Q : VK} (q : Q (.bl (Txt.startswith z y)) H) : SwQ (.str z) [.str y] H Q := ⟨z, y, rfl, rfl, q⟩
theorem for_enumL {a : Addr} {xs : List V} {g : TG} {tb : TS} {ta : TA} (ea : ∀ Q, Q [.ref a] H → ta σ H Q) (Pv : Nat → L2.St → Hp → Prop) (h0 : Pv 0 σ H) (hl : ∀ i σ H, i ≤ xs.length → Pv i σ H → SqL K H a xs)
    (hs : ∀ i x σ H (T : Addr), xs[i]? = some x → Pv i σ H → H T = none → g (.ref T) σ (upd H T (.tup [.int (i : Nat), x])) fun σ2 H2 => tb { D with nx := Pv (i + 1), ct := Pv (i + 1), bk := D.nx } σ2 H2) (hd : ∀ σ H, Pv xs.length σ H → D.nx σ H) :
    tFor (iEnum K ta) g tb D σ H := ea _ ⟨a, _, rfl, hl 0 σ H (Nat.zero_le _) h0, Ru.for_enum (K := K) (a := a) (xs := xs) Pv h0 hl hs hd⟩
/-! ### a row cut at its first blank -/
theorem tl_blank : TL.tl (" " : Str) = [32] := by decide +kernel
theorem tl_nl : TL.tl ("\n" : Str) = [10] := by decide +kernel
theorem tl_on : TL.tl ("on" : Str) = [111, 110] := by decide +kernel
theorem tl_back : TL.tl ("back" : Str) = [98, 97, 99, 107] := by decide +kernel
theorem tl_onb : TL.tl ("on " : Str) = [111, 110, 32] := by decide +kernel
theorem tl_backb : TL.tl ("back " : Str) = [98, 97, 99, 107, 32] := by decide +kernel
theorem blank_cases (r : Str) : (32 ∉ TL.tl r ∧ Txt.partition r " " = (r, Str.empty, Str.empty)) ∨ ∃ a b : Str, r = a ++ " " ++ b ∧ 32 ∉ TL.tl a ∧ Txt.partition r " " = (a, (" " : Str), b) := by
  by_cases m : 32 ∈ TL.tl r
  · obtain ⟨p, q, e, n⟩ := List.eq_append_cons_of_mem m
    have er : r = (⟨p.toArray⟩ : Str) ++ " " ++ (⟨q.toArray⟩ : Str) := TL.ext_tl (by
      rw [TL.tl_append, TL.tl_append, tl_blank]
      show TL.tl r = p ++ [32] ++ q
      rw [e, List.append_assoc]
      rfl)
    refine .inr ⟨⟨p.toArray⟩, ⟨q.toArray⟩, er, n, ?_⟩
    rw [er]
    exact TL.partition_app tl_blank n
  · exact .inl ⟨m, TL.partition_none tl_blank m⟩
theorem sw_iff (x y : Str) : Txt.startswith x y = true ↔ (TL.tl x).take (TL.tl y).length = TL.tl y := by
  unfold PySem.Txt.startswith
  rw [Bool.and_eq_true, decide_eq_true_iff, PySem.StrLaws.subAt_eq, List.drop_zero, beq_iff_eq, TL.len_tl y, TL.len_tl x, Nat.zero_add]
  constructor
  · exact fun h => h.2
  · intro h
    refine ⟨?_, h⟩
    have := congrArg List.length h
    rw [List.length_take] at this
    omega
/-- a row a, a blank, b begins with y and a blank if a is y -/
theorem sw_app {a b : Str} (m : 32 ∉ TL.tl a) {y z : Str} (ez : TL.tl z = TL.tl y ++ [32]) (hy : 32 ∉ TL.tl y) : Txt.startswith (a ++ " " ++ b) z = true ↔ a = y := by
  have tl : TL.tl (a ++ " " ++ b) = TL.tl a ++ 32 :: TL.tl b := by
    rw [TL.tl_append, TL.tl_append, tl_blank]
    simp
  have key : ∀ (y : List Nat), 32 ∉ y → ∀ (A B : List Nat), 32 ∉ A → ((A ++ 32 :: B).take (y ++ [32]).length = y ++ [32] ↔ A = y) := by
    intro y
    induction y with
    | nil =>
      intro _ A B hA
      cases A with
      | nil => simp
      | cons c A =>
        simp only [List.mem_cons, not_or] at hA
        simp
        exact fun h => hA.1 h.symm
    | cons d y ih =>
      intro hy A B hA
      simp only [List.mem_cons, not_or] at hy
      cases A with
      | nil =>
        simp
        exact fun h => absurd h hy.1
      | cons c A =>
        simp only [List.mem_cons, not_or] at hA
        have := ih hy.2 A B hA.2
        simp only [List.cons_append, List.length_cons, List.take_succ_cons, List.cons.injEq, this]
  rw [sw_iff, tl, ez, key _ hy _ _ m]
  exact ⟨TL.ext_tl, fun h => by rw [h]⟩
theorem back_on : ¬ ("back" : Str) = ("on" : Str) := by decide +kernel
theorem sw_on (w : Str) : Txt.startswith ("on" ++ " " ++ w) "on " = true ∧ Txt.startswith ("on" ++ " " ++ w) "back " = false := by
  have m : 32 ∉ TL.tl ("on" : Str) := by rw [tl_on]; decide
  refine ⟨(sw_app m (y := "on") (by rw [tl_onb, tl_on]; rfl) m).mpr rfl, ?_⟩
  cases h : Txt.startswith ("on" ++ " " ++ w) "back " with
  | false => rfl
  | true => exact absurd ((sw_app m (y := "back") (by rw [tl_backb, tl_back]; rfl) (by rw [tl_back]; decide)).mp h).symm back_on
theorem sw_back (w : Str) : Txt.startswith ("back" ++ " " ++ w) "on " = false ∧ Txt.startswith ("back" ++ " " ++ w) "back " = true := by
  have m : 32 ∉ TL.tl ("back" : Str) := by rw [tl_back]; decide
  refine ⟨?_, (sw_app m (y := "back") (by rw [tl_backb, tl_back]; rfl) m).mpr rfl⟩
  cases h : Txt.startswith ("back" ++ " " ++ w) "on " with
  | false => rfl
  | true => exact absurd ((sw_app m (y := "on") (by rw [tl_onb, tl_on]; rfl) (by rw [tl_on]; decide)).mp h) back_on
/-- a row that begins with on or back and a blank, or neither -/
theorem row_cases (r : Str) : (∃ w, r = "on" ++ " " ++ w ∧ Txt.partition r " " = (("on" : Str), (" " : Str), w) ∧ Txt.startswith r "on " = true) ∨
    (∃ w, r = "back" ++ " " ++ w ∧ Txt.partition r " " = (("back" : Str), (" " : Str), w) ∧ Txt.startswith r "on " = false ∧ Txt.startswith r "back " = true) ∨
    (Txt.startswith r "on " = false ∧ Txt.startswith r "back " = false ∧ ∃ a b c, Txt.partition r " " = (a, b, c) ∧ a.length ≤ r.length ∧ c.length ≤ r.length ∧ ((a ≠ ("on" : Str) ∧ a ≠ ("back" : Str)) ∨ c.length = 0)) := by
  rcases blank_cases r with ⟨m, e⟩ | ⟨a, b, rfl, m, e⟩
  · have no : ∀ y : Str, 32 ∈ TL.tl y → Txt.startswith r y = false := fun y hy => by
      cases h : Txt.startswith r y with
      | false => rfl
      | true =>
        have := (sw_iff r y).mp h
        rw [← this] at hy
        exact absurd (List.mem_of_mem_take hy) m
    exact .inr (.inr ⟨no _ (by rw [tl_onb]; decide), no _ (by rw [tl_backb]; decide), r, _, _, e, Nat.le_refl _, Nat.zero_le _, .inr rfl⟩)
  · have tl : TL.tl (a ++ " " ++ b) = TL.tl a ++ 32 :: TL.tl b := by
      rw [TL.tl_append, TL.tl_append, tl_blank]
      simp
    have la : a.length ≤ (a ++ " " ++ b).length := by
      rw [TL.len_tl, TL.len_tl, tl, List.length_append]
      omega
    have lb : b.length ≤ (a ++ " " ++ b).length := by
      rw [TL.len_tl, TL.len_tl, tl, List.length_append, List.length_cons]
      omega
    have sw : ∀ (y z : Str), TL.tl z = TL.tl y ++ [32] → 32 ∉ TL.tl y → (Txt.startswith (a ++ " " ++ b) z = true ↔ a = y) := fun y z ez hy => sw_app m ez hy
    have s1 := sw "on" "on " (by rw [tl_onb, tl_on]; rfl) (by rw [tl_on]; decide)
    have s2 := sw "back" "back " (by rw [tl_backb, tl_back]; rfl) (by rw [tl_back]; decide)
    have ne : ¬ ("back" : Str) = ("on" : Str) := by decide +kernel
    by_cases c1 : a = ("on" : Str)
    · subst c1
      exact .inl ⟨b, rfl, e, s1.mpr rfl⟩
    · have f1 : Txt.startswith (a ++ " " ++ b) "on " = false := by
        cases h : Txt.startswith (a ++ " " ++ b) "on " with
        | false => rfl
        | true => exact absurd (s1.mp h) c1
      by_cases c2 : a = ("back" : Str)
      · subst c2
        exact .inr (.inl ⟨b, rfl, e, f1, s2.mpr rfl⟩)
      · have f2 : Txt.startswith (a ++ " " ++ b) "back " = false := by
          cases h : Txt.startswith (a ++ " " ++ b) "back " with
          | false => rfl
          | true => exact absurd (s2.mp h) c2
        exact .inr (.inr ⟨f1, f2, a, _, b, e, la, lb, .inl ⟨c1, c2⟩⟩)
theorem cut_app (a b : Str) : cutS (a ++ b) (some (a.length : Int)) none = b := by
  refine TL.ext_tl ?_
  show (((a ++ b).cps.toList.drop (HT.sIx (a ++ b).length 0 (some (a.length : Int)))).take _) = _
  have e : TL.tl (a ++ b) = TL.tl a ++ TL.tl b := TL.tl_append a b
  have l : (a ++ b).length = a.length + b.length := Array.size_append
  rw [HT.sIx_nat, l, show min a.length (a.length + b.length) = a.length by omega]
  show ((TL.tl (a ++ b)).drop a.length).take (a.length + b.length - a.length) = TL.tl b
  rw [e, TL.len_tl a, List.drop_left, ← TL.len_tl a, show a.length + b.length - a.length = b.length by omega, TL.len_tl b, List.take_length]
theorem cut_on (w : Str) : cutS ("on" ++ " " ++ w) (some 3) none = w := cut_app ("on" ++ " ") w
theorem cut_back (w : Str) : cutS ("back" ++ " " ++ w) (some 5) none = w := cut_app ("back" ++ " ") w
/-- rows joined, and one more -/
theorem joinL_snoc (S : List Nat) (p : List Nat) : ∀ ps : List (List Nat), TL.joinL S (ps ++ [p]) = if ps = [] then p else TL.joinL S ps ++ (S ++ p)
  | [] => rfl
  | [q] => rfl
  | q :: q2 :: ps => by
    have h := joinL_snoc S p (q2 :: ps)
    rw [if_neg (by simp)] at h
    rw [if_neg (by simp)]
    show q ++ (S ++ TL.joinL S (q2 :: ps ++ [p])) = q ++ (S ++ TL.joinL S (q2 :: ps)) ++ (S ++ p)
    rw [h]
    simp only [List.append_assoc]
theorem join_snoc (ys : List Str) (y : Str) (n : ys ≠ []) : Txt.join "\n" (ys ++ [y]) = Txt.join "\n" ys ++ "\n" ++ y := by
  refine TL.ext_tl ?_
  rw [TL.join_eq, TL.join_eq, TL.tl_append, TL.tl_append, TL.tl_join, TL.tl_join, List.map_append]
  show TL.joinL _ (ys.map TL.tl ++ [TL.tl y]) = _
  rw [joinL_snoc, if_neg (fun e => n (List.map_eq_nil_iff.mp e)), List.append_assoc]
theorem join_one (y : Str) : Txt.join "\n" [y] = y := rfl
theorem app_assoc (a b c : Str) : a ++ b ++ c = a ++ (b ++ c) := TL.ext_tl (by rw [TL.tl_append, TL.tl_append, TL.tl_append, TL.tl_append, List.append_assoc])
/-! ### split and joined -/
theorem join_split (z : Str) : Txt.join "\n" (Txt.split z "\n") = z := by
  unfold PySem.Txt.split
  split
  · rfl
  · split
    · rfl
    · exact PySem.StrLaws.glued_between_self z "\n" (z.length + 1)
theorem nl_len : (("\n" : Str)).length = 1 := by decide +kernel
theorem split_ne (z c : Str) : Txt.split z c ≠ [] := by
  unfold PySem.Txt.split
  split
  · simp
  · split
    · simp
    · intro e
      have := congrArg List.length e
      rw [PySem.length_partsBetween] at this
      simp at this
theorem split_wt (z : Str) : ((Txt.split z "\n").map (·.length)).sum + (Txt.split z "\n").length = z.length + 1 := by
  have e := congrArg Str.length (join_split z)
  have e2 : (Txt.join "\n" (Txt.split z "\n")).length = ((Txt.split z "\n").map (·.length)).sum + ((Txt.split z "\n").length - 1) * (("\n" : Str)).length := PySem.size_glued _ _
  rw [nl_len, Nat.mul_one] at e2
  have := List.length_pos_iff.mpr (split_ne z "\n")
  omega
theorem join_len (ys : List Str) : (Txt.join "\n" ys).length ≤ (ys.map (·.length)).sum + ys.length := by
  have e : (Txt.join "\n" ys).length = (ys.map (·.length)).sum + (ys.length - 1) * (("\n" : Str)).length := PySem.size_glued _ _
  rw [nl_len, Nat.mul_one] at e
  omega
theorem sum_mem {y : Str} : ∀ {ys : List Str}, y ∈ ys → y.length ≤ (ys.map (·.length)).sum
  | x :: ys, m => by
    rw [List.map_cons, List.sum_cons]
    rcases List.mem_cons.mp m with rfl | m
    · omega
    · have := sum_mem m
      omega
theorem split_mem {z r : Str} (m : r ∈ Txt.split z "\n") : r.length ≤ z.length := by
  have := sum_mem m
  have := split_wt z
  have := List.length_pos_iff.mpr (split_ne z "\n")
  omega
theorem split_len (z : Str) : (Txt.split z "\n").length ≤ z.length + 1 := by
  have := split_wt z
  omega
theorem split_rows {ys : List Str} (n : ys ≠ []) (h : ∀ y ∈ ys, 10 ∉ TL.tl y) : Txt.split (Txt.join "\n" ys) "\n" = ys := TL.split_join tl_nl (by decide +kernel) n h
end Rf

namespace W
open PySem PySem.Spec PyProof.Rows L2
def top (i : Nat) : Stmt := PySem.Challenge.pw_watchedways_k18_whole_rules_as_rows.main.body.getD i (.Pass ⟨0, 0, 0, 0⟩)
abbrev s_WayError_init : Stmt := inClass (top 1) 0
abbrev s_is_letters : Stmt := top 9
abbrev s_is_word : Stmt := top 10
abbrev s_is_watch : Stmt := top 11
abbrev s_check_word : Stmt := top 12
abbrev s_is_step : Stmt := top 16
abbrev s_are_steps : Stmt := top 17
abbrev s_check_steps : Stmt := top 18
abbrev s_spots_of : Stmt := top 19
abbrev s_followed : Stmt := top 20
abbrev s_write_rule : Stmt := top 22
abbrev s_read_rule : Stmt := top 23
abbrev s_l_tape : Stmt := top 25
abbrev s_l_pick : Stmt := top 26
abbrev s_l_letters : Stmt := top 27
abbrev s_l_word : Stmt := top 28
abbrev s_l_watch : Stmt := top 29
abbrev s_l_rule : Stmt := top 30
abbrev s_l_text : Stmt := top 31
abbrev s_l_first : Stmt := top 32
abbrev s_l_is_watch : Stmt := top 33
abbrev s_l_due : Stmt := top 34
abbrev s_l_asked : Stmt := top 35
abbrev s_l_rows : Stmt := top 36
abbrev s_l_bent : Stmt := top 37
abbrev s_l_second : Stmt := top 38
abbrev s_law : Stmt := top 39
theorem sc_WayError_init : FnScope ["self", "value"] ["self", "value"] (defScope s_WayError_init) := ⟨rfl, rfl, rfl, by decide +kernel, rfl, by decide +kernel, by decide +kernel⟩
theorem sc_is_letters : FnScope ["value", "letter"] ["value"] (defScope s_is_letters) := ⟨rfl, rfl, rfl, by decide +kernel, rfl, by decide +kernel, by decide +kernel⟩
theorem sc_is_word : FnScope ["thing"] ["thing"] (defScope s_is_word) := ⟨rfl, rfl, rfl, by decide +kernel, rfl, by decide +kernel, by decide +kernel⟩
theorem sc_is_watch : FnScope ["thing"] ["thing"] (defScope s_is_watch) := ⟨rfl, rfl, rfl, by decide +kernel, rfl, by decide +kernel, by decide +kernel⟩
theorem sc_check_word : FnScope ["word"] ["word"] (defScope s_check_word) := ⟨rfl, rfl, rfl, by decide +kernel, rfl, by decide +kernel, by decide +kernel⟩
theorem sc_is_step : FnScope ["thing"] ["thing"] (defScope s_is_step) := ⟨rfl, rfl, rfl, by decide +kernel, rfl, by decide +kernel, by decide +kernel⟩
theorem sc_are_steps : FnScope ["thing", "step"] ["thing"] (defScope s_are_steps) := ⟨rfl, rfl, rfl, by decide +kernel, rfl, by decide +kernel, by decide +kernel⟩
theorem sc_check_steps : FnScope ["rule"] ["rule"] (defScope s_check_steps) := ⟨rfl, rfl, rfl, by decide +kernel, rfl, by decide +kernel, by decide +kernel⟩
theorem sc_spots_of : FnScope ["word", "steps", "found", "way", "watch", "spot", "other"] ["word", "steps"] (defScope s_spots_of) := ⟨rfl, rfl, rfl, by decide +kernel, rfl, by decide +kernel, by decide +kernel⟩
theorem sc_followed : FnScope ["word", "rule"] ["word", "rule"] (defScope s_followed) := ⟨rfl, rfl, rfl, by decide +kernel, rfl, by decide +kernel, by decide +kernel⟩
theorem sc_write_rule : FnScope ["rule", "way", "watch"] ["rule"] (defScope s_write_rule) := ⟨rfl, rfl, rfl, by decide +kernel, rfl, by decide +kernel, by decide +kernel⟩
theorem sc_read_rule : FnScope ["text", "steps", "rows", "at", "row", "way", "blank", "watch"] ["text"] (defScope s_read_rule) := ⟨rfl, rfl, rfl, by decide +kernel, rfl, by decide +kernel, by decide +kernel⟩
theorem sc_l_tape : FnScope ["_law_script"] ["_law_script"] (defScope s_l_tape) := ⟨rfl, rfl, rfl, by decide +kernel, rfl, by decide +kernel, by decide +kernel⟩
theorem sc_l_pick : FnScope ["_law_tape_here", "_law_size", "_law_digit", "_law_cell", "_law_mixed"] ["_law_tape_here", "_law_size"] (defScope s_l_pick) := ⟨rfl, rfl, rfl, by decide +kernel, rfl, by decide +kernel, by decide +kernel⟩
theorem sc_l_letters : FnScope ["_law_tape_here", "_law_many", "_law_start", "_law_step", "_law_k"] ["_law_tape_here", "_law_many"] (defScope s_l_letters) := ⟨rfl, rfl, rfl, by decide +kernel, rfl, by decide +kernel, by decide +kernel⟩
theorem sc_l_word : FnScope ["_law_tape_here", "_law_most", "_law_size", "_law_kind", "_law_letters_here", "_law_part", "_law_k"] ["_law_tape_here", "_law_most"] (defScope s_l_word) := ⟨rfl, rfl, rfl, by decide +kernel, rfl, by decide +kernel, by decide +kernel⟩
theorem sc_l_watch : FnScope ["_law_tape_here", "_law_word_here", "_law_most", "_law_size", "_law_at", "_law_k"] ["_law_tape_here", "_law_word_here", "_law_most"] (defScope s_l_watch) := ⟨rfl, rfl, rfl, by decide +kernel, rfl, by decide +kernel, by decide +kernel⟩
theorem sc_l_rule : FnScope ["_law_tape_here", "_law_word_here", "_law_steps", "_law_k", "_law_ends"] ["_law_tape_here"] (defScope s_l_rule) := ⟨rfl, rfl, rfl, by decide +kernel, rfl, by decide +kernel, by decide +kernel⟩
theorem sc_l_text : FnScope ["_law_steps", "_law_text_here", "_law_k"] ["_law_steps"] (defScope s_l_text) := ⟨rfl, rfl, rfl, by decide +kernel, rfl, by decide +kernel, by decide +kernel⟩
theorem sc_l_first : FnScope ["_law_script", "_law_tape_here", "_law_steps", "_law_other", "_law_due_here", "_law_text_here", "_law_told", "_law_word_here", "_law_way", "_law_watch_here"] ["_law_script"] (defScope s_l_first) := ⟨rfl, rfl, rfl, by decide +kernel, rfl, by decide +kernel, by decide +kernel⟩
theorem sc_l_is_watch : FnScope ["_law_thing", "_law_sign"] ["_law_thing"] (defScope s_l_is_watch) := ⟨rfl, rfl, rfl, by decide +kernel, rfl, by decide +kernel, by decide +kernel⟩
theorem sc_l_due : FnScope ["_law_text_here", "_law_rows_here", "_law_steps", "_law_at", "_law_row"] ["_law_text_here"] (defScope s_l_due) := ⟨rfl, rfl, rfl, by decide +kernel, rfl, by decide +kernel, by decide +kernel⟩
theorem sc_l_asked : FnScope ["_law_text_here", "_law_told", "e"] ["_law_text_here"] (defScope s_l_asked) := ⟨rfl, rfl, rfl, by decide +kernel, rfl, by decide +kernel, by decide +kernel⟩
theorem sc_l_rows : FnScope ["_law_tape_here", "_law_word_here", "_law_rows_here", "_law_k"] ["_law_tape_here"] (defScope s_l_rows) := ⟨rfl, rfl, rfl, by decide +kernel, rfl, by decide +kernel, by decide +kernel⟩
theorem sc_l_bent : FnScope ["_law_tape_here", "_law_rows_here", "_law_at", "_law_row", "_law_watch_here", "_law_kind", "_law_strange"] ["_law_tape_here", "_law_rows_here"] (defScope s_l_bent) := ⟨rfl, rfl, rfl, by decide +kernel, rfl, by decide +kernel, by decide +kernel⟩
theorem sc_l_second : FnScope ["_law_script", "_law_tape_here", "_law_rows_here", "_law_turn", "_law_tried", "_law_text_here", "_law_due_here", "_law_thing"] ["_law_script"] (defScope s_l_second) := ⟨rfl, rfl, rfl, by decide +kernel, rfl, by decide +kernel, by decide +kernel⟩
theorem sc_law : FnScope ["_law_script"] ["_law_script"] (defScope s_law) := ⟨rfl, rfl, rfl, by decide +kernel, rfl, by decide +kernel, by decide +kernel⟩
structure Txt (w : World) (K : PySem.W.Frag) (mg : Str → Option Value) where
  q_OTHER : Addr
  es_OTHER : Array DictEntry
  sz_OTHER : Nat
  m_OTHER : mg "OTHER" = some (.ref q_OTHER)
  D_OTHER : KDict K w q_OTHER es_OTHER sz_OTHER
  kt_OTHER_0 : Tok
  kv_OTHER_0 : PySem.W.nsIn K q_OTHER "on" = some (some (.str "back" kt_OTHER_0))
  kt_OTHER_1 : Tok
  kv_OTHER_1 : PySem.W.nsIn K q_OTHER "back" = some (some (.str "on" kt_OTHER_1))
  nk_OTHER_0 : PySem.W.nsIn K q_OTHER "On" = some none
  f_WayError_init : Addr
  fd_WayError_init : FuncData
  D_WayError_init : FunD K "__init__" "WayError.__init__" (defArgs s_WayError_init) (defBody s_WayError_init) (defScope s_WayError_init) [.non] [] f_WayError_init fd_WayError_init
  b_WayError_init : Binds K fd_WayError_init ["self", "value"] []
  tI_WayError_init : PySem.W.typeIn K (.ref f_WayError_init) = some (.type "function")
  f_is_letters : Addr
  fd_is_letters : FuncData
  F_is_letters : Fun K "is_letters" "is_letters" s_is_letters f_is_letters fd_is_letters
  g_is_letters : mg "is_letters" = some (.ref f_is_letters)
  b_is_letters : Binds K fd_is_letters ["value"] []
  f_is_word : Addr
  fd_is_word : FuncData
  F_is_word : Fun K "is_word" "is_word" s_is_word f_is_word fd_is_word
  g_is_word : mg "is_word" = some (.ref f_is_word)
  b_is_word : Binds K fd_is_word ["thing"] []
  f_is_watch : Addr
  fd_is_watch : FuncData
  F_is_watch : Fun K "is_watch" "is_watch" s_is_watch f_is_watch fd_is_watch
  g_is_watch : mg "is_watch" = some (.ref f_is_watch)
  b_is_watch : Binds K fd_is_watch ["thing"] []
  f_check_word : Addr
  fd_check_word : FuncData
  F_check_word : Fun K "check_word" "check_word" s_check_word f_check_word fd_check_word
  g_check_word : mg "check_word" = some (.ref f_check_word)
  b_check_word : Binds K fd_check_word ["word"] []
  f_is_step : Addr
  fd_is_step : FuncData
  F_is_step : Fun K "is_step" "is_step" s_is_step f_is_step fd_is_step
  g_is_step : mg "is_step" = some (.ref f_is_step)
  b_is_step : Binds K fd_is_step ["thing"] []
  f_are_steps : Addr
  fd_are_steps : FuncData
  F_are_steps : Fun K "are_steps" "are_steps" s_are_steps f_are_steps fd_are_steps
  g_are_steps : mg "are_steps" = some (.ref f_are_steps)
  b_are_steps : Binds K fd_are_steps ["thing"] []
  f_check_steps : Addr
  fd_check_steps : FuncData
  F_check_steps : Fun K "check_steps" "check_steps" s_check_steps f_check_steps fd_check_steps
  g_check_steps : mg "check_steps" = some (.ref f_check_steps)
  b_check_steps : Binds K fd_check_steps ["rule"] []
  f_spots_of : Addr
  fd_spots_of : FuncData
  F_spots_of : Fun K "spots_of" "spots_of" s_spots_of f_spots_of fd_spots_of
  g_spots_of : mg "spots_of" = some (.ref f_spots_of)
  b_spots_of : Binds K fd_spots_of ["word", "steps"] []
  f_followed : Addr
  fd_followed : FuncData
  F_followed : Fun K "followed" "followed" s_followed f_followed fd_followed
  g_followed : mg "followed" = some (.ref f_followed)
  b_followed : Binds K fd_followed ["word", "rule"] []
  f_write_rule : Addr
  fd_write_rule : FuncData
  F_write_rule : Fun K "write_rule" "write_rule" s_write_rule f_write_rule fd_write_rule
  g_write_rule : mg "write_rule" = some (.ref f_write_rule)
  b_write_rule : Binds K fd_write_rule ["rule"] []
  f_read_rule : Addr
  fd_read_rule : FuncData
  F_read_rule : Fun K "read_rule" "read_rule" s_read_rule f_read_rule fd_read_rule
  g_read_rule : mg "read_rule" = some (.ref f_read_rule)
  b_read_rule : Binds K fd_read_rule ["text"] []
  f_l_tape : Addr
  fd_l_tape : FuncData
  F_l_tape : Fun K "_law_tape" "_law_tape" s_l_tape f_l_tape fd_l_tape
  g_l_tape : mg "_law_tape" = some (.ref f_l_tape)
  b_l_tape : Binds K fd_l_tape ["_law_script"] []
  f_l_pick : Addr
  fd_l_pick : FuncData
  F_l_pick : Fun K "_law_pick" "_law_pick" s_l_pick f_l_pick fd_l_pick
  g_l_pick : mg "_law_pick" = some (.ref f_l_pick)
  b_l_pick : Binds K fd_l_pick ["_law_tape_here", "_law_size"] []
  f_l_letters : Addr
  fd_l_letters : FuncData
  F_l_letters : Fun K "_law_letters" "_law_letters" s_l_letters f_l_letters fd_l_letters
  g_l_letters : mg "_law_letters" = some (.ref f_l_letters)
  b_l_letters : Binds K fd_l_letters ["_law_tape_here", "_law_many"] []
  f_l_word : Addr
  fd_l_word : FuncData
  F_l_word : Fun K "_law_word" "_law_word" s_l_word f_l_word fd_l_word
  g_l_word : mg "_law_word" = some (.ref f_l_word)
  b_l_word : Binds K fd_l_word ["_law_tape_here", "_law_most"] []
  f_l_watch : Addr
  fd_l_watch : FuncData
  F_l_watch : Fun K "_law_watch" "_law_watch" s_l_watch f_l_watch fd_l_watch
  g_l_watch : mg "_law_watch" = some (.ref f_l_watch)
  b_l_watch : Binds K fd_l_watch ["_law_tape_here", "_law_word_here", "_law_most"] []
  f_l_rule : Addr
  fd_l_rule : FuncData
  F_l_rule : Fun K "_law_rule" "_law_rule" s_l_rule f_l_rule fd_l_rule
  g_l_rule : mg "_law_rule" = some (.ref f_l_rule)
  b_l_rule : Binds K fd_l_rule ["_law_tape_here"] []
  f_l_text : Addr
  fd_l_text : FuncData
  F_l_text : Fun K "_law_text" "_law_text" s_l_text f_l_text fd_l_text
  g_l_text : mg "_law_text" = some (.ref f_l_text)
  b_l_text : Binds K fd_l_text ["_law_steps"] []
  f_l_first : Addr
  fd_l_first : FuncData
  F_l_first : Fun K "_law_first" "_law_first" s_l_first f_l_first fd_l_first
  g_l_first : mg "_law_first" = some (.ref f_l_first)
  b_l_first : Binds K fd_l_first ["_law_script"] []
  f_l_is_watch : Addr
  fd_l_is_watch : FuncData
  F_l_is_watch : Fun K "_law_is_watch" "_law_is_watch" s_l_is_watch f_l_is_watch fd_l_is_watch
  g_l_is_watch : mg "_law_is_watch" = some (.ref f_l_is_watch)
  b_l_is_watch : Binds K fd_l_is_watch ["_law_thing"] []
  f_l_due : Addr
  fd_l_due : FuncData
  F_l_due : Fun K "_law_due" "_law_due" s_l_due f_l_due fd_l_due
  g_l_due : mg "_law_due" = some (.ref f_l_due)
  b_l_due : Binds K fd_l_due ["_law_text_here"] []
  f_l_asked : Addr
  fd_l_asked : FuncData
  F_l_asked : Fun K "_law_asked" "_law_asked" s_l_asked f_l_asked fd_l_asked
  g_l_asked : mg "_law_asked" = some (.ref f_l_asked)
  b_l_asked : Binds K fd_l_asked ["_law_text_here"] []
  f_l_rows : Addr
  fd_l_rows : FuncData
  F_l_rows : Fun K "_law_rows" "_law_rows" s_l_rows f_l_rows fd_l_rows
  g_l_rows : mg "_law_rows" = some (.ref f_l_rows)
  b_l_rows : Binds K fd_l_rows ["_law_tape_here"] []
  f_l_bent : Addr
  fd_l_bent : FuncData
  F_l_bent : Fun K "_law_bent" "_law_bent" s_l_bent f_l_bent fd_l_bent
  g_l_bent : mg "_law_bent" = some (.ref f_l_bent)
  b_l_bent : Binds K fd_l_bent ["_law_tape_here", "_law_rows_here"] []
  f_l_second : Addr
  fd_l_second : FuncData
  F_l_second : Fun K "_law_second" "_law_second" s_l_second f_l_second fd_l_second
  g_l_second : mg "_law_second" = some (.ref f_l_second)
  b_l_second : Binds K fd_l_second ["_law_script"] []
  f_law : Addr
  fd_law : FuncData
  F_law : Fun K "law" "law" s_law f_law fd_law
  g_law : mg "law" = some (.ref f_law)
  b_law : Binds K fd_law ["_law_script"] []
  C_BadWord : Addr
  c_BadWord : mg "BadWord" = some (.ref C_BadWord)
  X_BadWord : Rx.ExcF K f_WayError_init C_BadWord
  C_BadRule : Addr
  c_BadRule : mg "BadRule" = some (.ref C_BadRule)
  X_BadRule : Rx.ExcF K f_WayError_init C_BadRule
  C_BadText : Addr
  c_BadText : mg "BadText" = some (.ref C_BadText)
  X_BadText : Rx.ExcF K f_WayError_init C_BadText
  C_WayError : Addr
  c_WayError : mg "WayError" = some (.ref C_WayError)
  X_WayError : Rx.ExcF K f_WayError_init C_WayError
  s_BadWord_BadText : PySem.W.subIn K (.ref C_BadWord) (.ref C_BadText) = some false
  s_BadWord_WayError : PySem.W.subIn K (.ref C_BadWord) (.ref C_WayError) = some true
  s_BadWord_BadRule : PySem.W.subIn K (.ref C_BadWord) (.ref C_BadRule) = some false
  s_BadWord_BadWord : PySem.W.subIn K (.ref C_BadWord) (.ref C_BadWord) = some true
  s_BadRule_BadText : PySem.W.subIn K (.ref C_BadRule) (.ref C_BadText) = some false
  s_BadRule_WayError : PySem.W.subIn K (.ref C_BadRule) (.ref C_WayError) = some true
  s_BadRule_BadRule : PySem.W.subIn K (.ref C_BadRule) (.ref C_BadRule) = some true
  s_BadRule_BadWord : PySem.W.subIn K (.ref C_BadRule) (.ref C_BadWord) = some false
  s_BadText_BadText : PySem.W.subIn K (.ref C_BadText) (.ref C_BadText) = some true
  s_BadText_WayError : PySem.W.subIn K (.ref C_BadText) (.ref C_WayError) = some true
  s_BadText_BadRule : PySem.W.subIn K (.ref C_BadText) (.ref C_BadRule) = some false
  s_BadText_BadWord : PySem.W.subIn K (.ref C_BadText) (.ref C_BadWord) = some false
  n_isinstance : mg "isinstance" = none
  n_str : mg "str" = none
  n_all : mg "all" = none
  n_len : mg "len" = none
  n_tuple : mg "tuple" = none
  n_min : mg "min" = none
  n_max : mg "max" = none
  n_enumerate : mg "enumerate" = none
  n_list : mg "list" = none
  n_int : mg "int" = none
  n_range : mg "range" = none
  n_repr : mg "repr" = none
  t_LETTERS : Tok
  m_LETTERS : mg "LETTERS" = some (.str "abcdefghijklmnopqrstuvwxyz" t_LETTERS)
  t_MOST_WORD : Tok
  m_MOST_WORD : mg "MOST_WORD" = some (.int 40 t_MOST_WORD)
  t_MOST_WATCH : Tok
  m_MOST_WATCH : mg "MOST_WATCH" = some (.int 12 t_MOST_WATCH)
  t_MOST_STEPS : Tok
  m_MOST_STEPS : mg "MOST_STEPS" = some (.int 80 t_MOST_STEPS)
end W

local macro_rules | `(tactic| walk_at "rd") => `(tactic| repeat (first
  | with_reducible refine Rd.seq ?_ | with_reducible refine Rd.asg ?_ | with_reducible refine Rd.name ?_ | with_reducible refine Rd.var rfl ?_ | with_reducible refine Rd.con ?_ | with_reducible refine Rd.op ?_
  | with_reducible refine Rd.ret ?_ | with_reducible refine Rd.ifS ?_ | with_reducible refine Rd.test ?_ | with_reducible refine Rd.tstB ?_ | with_reducible refine Rd.bl ?_ | with_reducible refine Rd.blE ?_
  | with_reducible refine Rd.nil ?_ | with_reducible refine Rd.cons ?_ | with_reducible refine Rd.cb ?_ | with_reducible refine Rd.call ?_ | with_reducible refine Rd.un ?_
  | with_reducible refine Rd.i0 ?_ | with_reducible refine Rd.u1 ?_ | with_reducible refine Rd.eqI ?_ | with_reducible refine Rd.neI ?_ | with_reducible refine Rd.eqB ?_ | with_reducible refine Rd.neB ?_ | with_reducible refine Rd.eqS ?_ | with_reducible refine Rd.neS ?_
  | with_reducible refine Rd.and ?_ | with_reducible refine Rd.or ?_ | with_reducible refine Rd.not ?_ | with_reducible refine Rd.andV ?_ | with_reducible refine Rd.orV ?_ | with_reducible refine Rd.notV ?_ | with_reducible refine Rd.ifE ?_ | with_reducible refine Rd.chain ?_
  | with_reducible refine Rd.tup ?_ | with_reducible refine Rd.lst ?_ | with_reducible refine Rd.nxt ?_ | with_reducible refine Rd.retN ?_ | with_reducible refine Rd.drop ?_ | with_reducible refine Rd.brk ?_ | with_reducible refine Rd.cont ?_
  | with_reducible refine Rd.a1 ?_ | with_reducible refine Rd.a2 ?_ | with_reducible refine Rd.v2 ?_ | with_reducible refine Rd.int ?_ | with_reducible refine Rd.abs ?_ | with_reducible refine Rd.max2 ?_ | with_reducible refine Rd.min2 ?_ | with_reducible refine Rd.bm ?_ | with_reducible refine Rd.bm0 ?_ | with_reducible refine Rd.sl ?_ | with_reducible refine Rd.part ?_ | with_reducible refine Rd.noPart ?_ | with_reducible refine Rd.intE ?_ | with_reducible refine Rd.revL ?_ | with_reducible refine Rd.enx ?_ | with_reducible refine Rd.ebk ?_ | with_reducible refine Rd.ect ?_ | with_reducible refine Rd.ert ?_ | with_reducible refine Rd.gcons ?_ | with_reducible refine Rd.gnil ?_ | with_reducible refine Rd.par ?_ | with_reducible refine Rd.sub ?_ | with_reducible refine Rd.iter ?_ | with_reducible refine Rd.iterT ?_ | with_reducible refine Rd.rng1 ?_ | with_reducible refine Rd.refE ?_ | with_reducible refine Rd.aug rfl ?_ | with_reducible refine Rd.ipi ?_ | with_reducible refine Rd.lc ?_ | with_reducible refine Rd.tyes ?_ | with_reducible refine Rd.fldH ?_ | with_reducible refine Rd.sfldH ?_ | with_reducible refine Rd.mkH ?_ | with_reducible refine Rd.methH ?_ | with_reducible refine Rd.istr ?_ | with_reducible refine Rd.strE ?_ | with_reducible refine Rd.lstRg ?_ | with_reducible refine Rd.m1 ?_ | with_reducible refine Rd.dgetH ?_ | with_reducible refine Rd.dinH ?_ | with_reducible refine Rd.dninH ?_ | with_reducible refine Rd.dget1H ?_ | with_reducible refine Rd.strX ?_ | with_reducible refine Rd.tupRg ?_ | with_reducible refine Rd.rg1 ?_ | with_reducible refine Rd.rg2 ?_ | with_reducible refine Rd.intE2 ?_ | with_reducible refine Rw.zipH ?_ | with_reducible refine Rw.itemsH ?_ | with_reducible refine Rw.keysH ?_ | with_reducible refine Rw.dc ?_ | with_reducible refine Rw.ckw ?_ | with_reducible refine Rd.notT ?_ | with_reducible refine Rx.raiseH ?_ | with_reducible refine Rx.callS ?_ | with_reducible refine Rx.xvH ?_ | with_reducible refine Rx.rng3 ?_
  | with_reducible refine L2.iteT ?_ | with_reducible refine L2.iteF ?_
  | with_reducible refine Rd.iteb ?_ | with_reducible refine Rd.iten ?_ | with_reducible refine Rd.itbn ?_))

local macro_rules | `(tactic| walk_at "yes") => `(tactic| (refine (if_pos (by first | assumption | omega)).mpr ?_))
local macro_rules | `(tactic| walk_at "no") => `(tactic| (refine (if_neg (by first | assumption | omega)).mpr ?_))

local macro_rules | `(tactic| k_extra "ne") => `(tactic| first
  | with_reducible assumption | with_reducible exact Ne.symm (by with_reducible assumption) | with_reducible exact Rd.ntT (by with_reducible assumption) (by k_extra "tape")
  | with_reducible exact Rd.neN (by with_reducible assumption) (by k_extra "at") | with_reducible exact Rd.neN' (by with_reducible assumption) (by k_extra "at"))
local macro_rules | `(tactic| k_extra "tape") => `(tactic| first
  | with_reducible assumption | with_reducible exact Rd.tape_same (by with_reducible assumption) (by k_extra "tape"))
local macro_rules | `(tactic| k_extra "at") => `(tactic| first
  | with_reducible assumption
  | with_reducible exact Rd.at_same (by with_reducible assumption) (by k_extra "at")
  | with_reducible exact Rd.at_off (by with_reducible assumption) (by k_extra "ne") (by k_extra "at")
  | with_reducible exact Rd.at_but (by with_reducible assumption) (by k_extra "ne") (by k_extra "at"))
local macro_rules | `(tactic| k_extra "bk") => `(tactic| first
  | with_reducible assumption
  | with_reducible exact Rd.book_same (by with_reducible assumption) (by k_extra "bk")
  | with_reducible exact Rd.book_but (by with_reducible assumption) (by k_extra "tape") (by k_extra "bk"))
local macro_rules | `(tactic| k_extra "sqL") => `(tactic| first
  | with_reducible assumption | with_reducible exact L2.Same.seq (by with_reducible assumption) (by k_extra "sqL"))
local macro_rules | `(tactic| k_extra "sqT") => `(tactic| first
  | with_reducible assumption | with_reducible exact Ru.same_tup (by with_reducible assumption) (by k_extra "sqT"))
local macro_rules | `(tactic| k_extra "sq") => `(tactic| first
  | with_reducible assumption | (with_reducible show L2.SqL _ _ _ _; first | exact L2.SqL.of (by k_extra "at") | k_extra "sqL") | (with_reducible show L2.SqT _ _ _ _; first | exact L2.SqT.of (by k_extra "at") | k_extra "sqT"))
local macro_rules | `(tactic| k_extra "row") => `(tactic| first
  | with_reducible assumption | exact Or.inl (L2.SqL.of (by k_extra "at")) | exact Or.inr (L2.SqT.of (by k_extra "at")) | exact Or.inl (by k_extra "sqL") | exact Or.inr (by k_extra "sqT"))
local macro_rules | `(tactic| k_extra "same") => `(tactic| first
  | with_reducible exact L2.Same.refl _ | with_reducible assumption
  | with_reducible exact Rd.same_tr (by with_reducible assumption) (by k_extra "same")
  | with_reducible exact Rd.same_of2 (by with_reducible assumption) (by with_reducible assumption) (by k_extra "same"))
local macro_rules | `(tactic| k_extra "but") => `(tactic| first
  | with_reducible exact Rd.But.refl _ _ | with_reducible assumption
  | with_reducible exact Rd.but_tr (by with_reducible assumption) (by k_extra "but")
  | with_reducible exact Rd.but_sm (by with_reducible assumption) (by k_extra "but")
  | with_reducible exact Rd.but_of2 (by with_reducible assumption) (by with_reducible assumption) (by k_extra "but"))
local macro_rules | `(tactic| k_extra "sz") => `(tactic| first
  | with_reducible assumption | with_reducible exact Lt.Wd.line (by with_reducible assumption) (by decide) | (rw [PySem.sizeLine_eq]; omega)
  | (simp only [List.length_map, List.length_append, List.length_cons, List.length_nil, List.length_take] <;> rw [PySem.sizeLine_eq] <;> omega) | exact Nat.le_of_ble_eq_true rfl)
local macro_rules | `(tactic| k_extra "go1") => `(tactic| first
  | (with_reducible show Rd.nLenS _ _ _; refine Rd.lenStr (by k_extra "sz") ?_)
  | (with_reducible show Rd.nLen _ _ _ _; first | refine Rd.lenS (by k_extra "row") ?_ | refine Rd.lenI (by k_extra "row") ?_ | refine Rd.lenR (by k_extra "row") ?_)
  | (with_reducible show L2.rSlS _ _ _ _ _; refine Rd.slS (by k_extra "sz") ?_)
  | (with_reducible show L2.tyV _ "list" _ _ ∧ _; refine Rd.tyL (by k_extra "sq") ?_)
  | (with_reducible show Rd.nAddS _ _ _ _; refine Rd.addS (by k_extra "sz") ?_)
  | (with_reducible show L2.rIsi _ _ _ _; first | with_reducible refine Rd.isiStr ?_ | with_reducible refine Rd.isiB ?_ | with_reducible refine Rd.isiI ?_ | with_reducible refine Rd.isiIB ?_ | (first | with_reducible refine Rx.askInt (by with_reducible assumption) ?_ | with_reducible refine Rx.askBl (by with_reducible assumption) ?_ | with_reducible refine Rx.askStr (by with_reducible assumption) ?_ | with_reducible refine Rx.askLst (by with_reducible assumption) ?_ | with_reducible refine Rx.askTup (by with_reducible assumption) ?_ | with_reducible refine Rx.askDct (by with_reducible assumption) ?_))
  | (with_reducible show L2.rIn _ _ _ _ _ _; first | refine Rd.inStrsY (by k_extra "row") ?_ | refine Rd.inStrsN (by k_extra "row") ?_ | refine Rd.inIntsY (by k_extra "row") ?_ | refine Rd.inIntsN (by k_extra "row") ?_)
  | with_reducible refine And.intro (Eq.refl L2.V.non) ?_ | with_reducible refine Rd.ifN ?_ | with_reducible refine Rd.ifR ?_ | with_reducible refine Rd.ifI ?_ | with_reducible refine Rd.ifT ?_)
local macro_rules | `(tactic| walk_at "go") => `(tactic| (walk_at "rd"; repeat (k_extra "go1"; walk_at "rd")))
local macro_rules | `(tactic| walk_at "ifs") => `(tactic| (walk_at "go"; repeat (first | (refine Rd.no (by decide) ?_; walk_at "go") | (refine Rd.yes (by decide) ?_; walk_at "go"))))

namespace W
open PySem PySem.Spec PyProof.Rows L2
section
variable {P : Program} {w : World} {K : PySem.W.Frag} {mg : Str → Option Value} {base : Heap}
/-! ### WayError.__init__ -/
abbrev sp_WayError_init (K : PySem.W.Frag) : Sp := Rx.spWe K
theorem ok_WayError_init (T : Txt w K mg) : FnOk P w K mg base CX0 1 T.f_WayError_init T.fd_WayError_init ["self", "value"] (sp_WayError_init K) := by
  refine T.D_WayError_init.ok (CX := CX0) sc_WayError_init (fun vs H Q E h => ?_) (fun cdv A outer s H vs Q E hr h => ?_)
  · obtain ⟨a, C, v, rfl, _⟩ := h
    rfl
  · obtain ⟨a, C, v, rfl, oc, nv, ha, k⟩ := h
    refine ⟨_, (pss_one (ps_ost (pv 0) (pv 1))), ?_⟩
    exact ⟨_, rfl, _, rfl, a, C, rfl, oc, nv, .inl ⟨ha, fun dx n ne => k dx n ne⟩⟩

end
end W

namespace W
open PySem PySem.Spec PyProof.Rows L2
section
variable {P : Program} {w : World} {K : PySem.W.Frag} {mg : Str → Option Value} {base : Heap}
/-! ### the tape: a list of the cells (never written) and four ints; what is drawn lies below the size -/
/-- a tape stands at t, its cells at c -/
def sp_l_tape (K : PySem.W.Frag) : Sp := fun vs H Q _ => ∃ (a : Addr) (ns : List Int), vs = [.ref a] ∧ SqL K H a (ns.map V.int) ∧ ∀ t c H', Tape H' t c → Same H H' → H t = none → H c = none → Q (.ref t) H'
def sp_l_pick (K : PySem.W.Frag) : Sp := fun vs H Q _ => ∃ (t c : Addr) (n : Int), vs = [.ref t, .int n] ∧ Tape H t c ∧ 0 < n ∧ n < 1073741824 ∧ ∀ r H', 0 ≤ r → r < n → Tape H' t c → Rd.But t H H' → Q (.int r) H'
theorem ok_l_tape (T : Txt w K mg) : FnOk P w K mg base CX0 1 T.f_l_tape T.fd_l_tape ["_law_script"] (sp_l_tape K) := by
  refine T.F_l_tape.ok sc_l_tape (fun vs H Q E h => ?_) (fun cdv A outer s H vs Q E hr h => ?_)
  · obtain ⟨a, ns, rfl, _⟩ := h
    rfl
  · obtain ⟨a, ns, rfl, hS, k⟩ := h
    refine ⟨_, (pss_one (ps_ret (pe_lst (pa_cons (pe_callTy (T := "list") (r := Rd.nListOf K) Rd.c_listOf (by rfl) T.n_list (by decide +kernel) (pa_cons (pv 0) pa_nil)) (pa_cons pe_int (pa_cons pe_int (pa_cons pe_int (pa_cons pe_int pa_nil)))))))), ?_⟩
    walk_at "rd"
    refine Rd.listOf (.inl hS) (Rd.new fun c G hc gc s1 => ?_)
    walk_at "rd"
    refine ⟨Nat.le_of_ble_eq_true rfl, Rd.new fun t G2 ht gt s2 => ?_⟩
    have tc : c ≠ t := ne_of_none gc ht
    exact k t c _ ⟨ns, 0, 0, 1, 0, tc.symm, gt, s2 _ _ gc, by decide, by omega, by decide, by decide⟩ (s1.trans s2) (s1.free ht) hc
theorem ok_l_pick (T : Txt w K mg) : FnOk P w K mg base CX0 1 T.f_l_pick T.fd_l_pick ["_law_tape_here", "_law_size"] (sp_l_pick K) := by
  refine T.F_l_pick.ok sc_l_pick (fun vs H Q E h => ?_) (fun cdv A outer s H vs Q E hr h => ?_)
  · obtain ⟨t, c, n, rfl, _⟩ := h
    rfl
  · obtain ⟨t, c, n, rfl, ⟨ns, x, y, z, u, tc, h1, h2, x0, x1, z0, z1⟩, n0, n1, k⟩ := h
    refine ⟨_, (pss_cons (ps_if (pt_cmpR op_gt (pe_ix (r := rIxL K) ix_list (pv 0) pe_int (fun _ _ => rfl)) pe_int (nomark _))
  (pss_cons (ps_set (i := 2) sc_l_pick.nd rfl (.inl rfl) (pe_op op_mod (pe_callTy (T := "int") (r := _) Rd.c_int (by rfl) T.n_int (by decide +kernel) (pa_cons (pe_ix (r := rIxL K) ix_list (pv 0) pe_int (fun _ _ => rfl)) pa_nil)) (pv 1)))
  (pss_cons (ps_asg (pe_op op_fdiv (pe_ix (r := rIxL K) ix_list (pv 0) pe_int (fun _ _ => rfl)) (pv 1)) (pg_sub (pv 0) pe_int set_list))
  (pss_one (ps_ret (pv 2)))))
  pss_nil)
  (pss_cons (ps_asg (pe_op op_add (pe_ix (r := rIxL K) ix_list (pv 0) pe_int (fun _ _ => rfl)) pe_int) (pg_sub (pv 0) pe_int set_list))
  (pss_cons (ps_set (i := 3) sc_l_pick.nd rfl (.inl rfl) pe_int)
  (C8.pss_cut (ps_if (pt_cmpR op_lt (pe_ix (r := rIxL K) ix_list (pv 0) pe_int (fun _ _ => rfl)) (pe_callB (id := "len") (r := Rd.nLen K) Rd.c_len (by rfl) T.n_len (by decide +kernel) (pa_cons (pe_ix ix_list (pv 0) pe_int (fun _ _ => rfl)) pa_nil)) (nomark _))
  (pss_cons (ps_set (i := 3) sc_l_pick.nd rfl (.inl rfl) (pe_ix (r := rIxL K) ix_list (pe_ix ix_list (pv 0) pe_int (fun _ _ => rfl)) (pe_ix (r := rIxL K) ix_list (pv 0) pe_int (fun _ _ => rfl)) (fun _ _ => rfl)))
  (pss_one (ps_asg (pe_op op_add (pe_ix (r := rIxL K) ix_list (pv 0) pe_int (fun _ _ => rfl)) pe_int) (pg_sub (pv 0) pe_int set_list))))
  pss_nil)
  (pss_cons (ps_if (pt_cmpR op_ge (pv 3) (pe_op op_pow pe_int pe_int) (nomark _))
  (pss_cons (ps_asg (pe_op op_fdiv (pv 3) (pv 1)) (pg_sub (pv 0) pe_int set_list))
  (pss_one (ps_ret (pe_op op_mod (pe_callTy (T := "int") (r := _) Rd.c_int (by rfl) T.n_int (by decide +kernel) (pa_cons (pv 3) pa_nil)) (pv 1)))))
  pss_nil)
  (pss_cons (ps_set (i := 4) sc_l_pick.nd rfl (.inl rfl) (pe_op op_mod (pe_callTy (T := "int") (r := _) Rd.c_int (by rfl) T.n_int (by decide +kernel) (pa_cons (pe_op op_add (pe_op op_add (pe_op op_mul (pe_ix (r := rIxL K) ix_list (pv 0) pe_int (fun _ _ => rfl)) pe_int) (pe_op op_mod (pe_callTy (T := "int") (r := _) Rd.c_int (by rfl) T.n_int (by decide +kernel) (pa_cons (pv 3) pa_nil)) pe_int)) (pe_op op_mul (pe_ix (r := rIxL K) ix_list (pv 0) pe_int (fun _ _ => rfl)) pe_int)) pa_nil)) pe_int))
  (pss_cons (ps_set (i := 4) sc_l_pick.nd rfl (.inl rfl) (pe_op op_mod (pe_callTy (T := "int") (r := _) Rd.c_int (by rfl) T.n_int (by decide +kernel) (pa_cons (pe_op op_mul (pv 4) (pe_op op_add (pe_op op_fdiv (pv 4) pe_int) pe_int)) pa_nil)) pe_int))
  (pss_cons (ps_asg (pv 4) (pg_sub (pv 0) pe_int set_list))
  (pss_one (ps_ret (pe_op op_mod (pe_callTy (T := "int") (r := _) Rd.c_int (by rfl) T.n_int (by decide +kernel) (pa_cons (pe_op op_fdiv (pv 4) pe_int) pa_nil)) (pv 1)))))))))))), ?_⟩
    walk_at "rd"
    refine Rd.ixL (.of h1) (atI_nat (j := 2) rfl) ?_
    walk_at "rd"
    refine ite2 (fun q => ?_) (fun q => ?_)
    · walk_at "rd"
      refine Rd.ixL (.of h1) (atI_nat (j := 2) rfl) ?_
      walk_at "rd"
      refine Rd.iC n0 ?_
      walk_at "rd"
      refine Rd.ixL (.of h1) (atI_nat (j := 2) rfl) ?_
      walk_at "rd"
      refine Rd.iC ⟨n0, n1⟩ ?_
      walk_at "rd"
      refine Rd.setG h1 (show ixN 5 2 = some 2 by decide) rfl fun G g1 gb => ?_
      walk_at "rd"
      exact k _ _ (Int.emod_nonneg _ (by omega)) (Int.emod_lt_of_pos _ n0) ⟨ns, x, _, z, u, tc, g1, by rw [gb _ tc.symm]; exact h2, x0, x1, z0, z1⟩ (fun b o hb e => by rw [gb b hb]; exact e)
    · walk_at "rd"
      refine Rd.ixL (.of h1) (atI_nat (j := 4) rfl) ?_
      walk_at "rd"
      refine Rd.setG h1 (show ixN 5 4 = some 4 by decide) rfl fun G g1 gb => ?_
      have g2 : G c = some (.lst (ns.map V.int)) := by rw [gb _ tc.symm]; exact h2
      walk_at "rd"
      -- the cell m is read (or 0)
      refine Rd.cut (fun σ G' => ∃ x' m : Int, σ = [some (.ref t), some (.int n), none, some (.int m), none] ∧ 0 ≤ x' ∧ x' ≤ ns.length ∧ G' t = some (.lst [.ref c, .int x', .int y, .int z, .int (u + 1)]) ∧ (∀ b, b ≠ t → G' b = H b)) ?_ ?_
      · walk_at "rd"
        refine Rd.ixL (.of g1) (atI_nat (j := 1) rfl) ?_
        walk_at "rd"
        refine Rd.ixL (.of g1) (atI_nat (j := 0) rfl) ?_
        walk_at "rd"
        refine Rd.len (.inl (.of g2)) ?_
        rw [List.length_map]
        walk_at "rd"
        refine ite2 (fun q2 => ?_) (fun q2 => ?_)
        · walk_at "rd"
          refine Rd.ixL (.of g1) (atI_nat (j := 0) rfl) ?_
          walk_at "rd"
          refine Rd.ixL (.of g1) (atI_nat (j := 1) rfl) ?_
          have hx : x.toNat < ns.length := by omega
          refine Rd.ixL (.of g2) (Rd.atI_of x0 (Rd.map_int hx)) ?_
          walk_at "rd"
          refine Rd.ixL (.of g1) (atI_nat (j := 1) rfl) ?_
          walk_at "rd"
          refine Rd.setG g1 (show ixN 5 1 = some 1 by decide) rfl fun G2 k1 kb => ?_
          walk_at "rd"
          exact ⟨x + 1, _, rfl, by omega, by omega, k1, fun b hb => (kb b hb).trans (gb b hb)⟩
        · walk_at "rd"
          exact ⟨x, 0, rfl, x0, x1, g1, gb⟩
      · rintro _ G' ⟨x', m, rfl, x'0, x'1, e1, eb⟩
        have e2 : G' c = some (.lst (ns.map V.int)) := by rw [eb _ tc.symm]; exact h2
        walk_at "rd"
        refine Rd.iC ⟨by decide, by decide, by decide⟩ ?_
        walk_at "rd"
        refine ite2 (fun q2 => ?_) (fun q2 => ?_)
        · walk_at "rd"
          refine Rd.iC ⟨n0, n1⟩ ?_
          walk_at "rd"
          refine Rd.setG e1 (show ixN 5 2 = some 2 by decide) rfl fun G2 k1 kb => ?_
          walk_at "rd"
          refine Rd.iC n0 ?_
          walk_at "rd"
          exact k _ _ (Int.emod_nonneg _ (by omega)) (Int.emod_lt_of_pos _ n0) ⟨ns, x', _, z, u + 1, tc, k1, by rw [kb _ tc.symm]; exact e2, x'0, x'1, z0, z1⟩ (fun b o hb e => by rw [kb b hb, eb b hb]; exact e)
        · walk_at "rd"
          refine Rd.ixL (.of e1) (atI_nat (j := 3) rfl) ?_
          walk_at "rd"
          refine Rd.iC (.inr (by decide)) ?_
          walk_at "rd"
          refine Rd.iC (by decide) ?_
          walk_at "rd"
          refine Rd.ixL (.of e1) (atI_nat (j := 4) rfl) ?_
          walk_at "rd"
          refine Rd.iC (.inr (by decide)) ?_
          walk_at "rd"
          refine Rd.iC (by decide) ?_
          generalize hM : (z * 48271 + m % 2147483629 + (u + 1) * 69621) % 2147483647 = M
          have M0 : 0 ≤ M := by rw [← hM]; exact Int.emod_nonneg _ (by decide)
          have M1 : M < 2147483647 := by rw [← hM]; exact Int.emod_lt_of_pos _ (by decide)
          walk_at "rd"
          refine Rd.iC ⟨by decide, by decide⟩ ?_
          walk_at "rd"
          refine Rd.iC (.inl ⟨by omega, by omega⟩) ?_
          walk_at "rd"
          refine Rd.iC (by decide) ?_
          generalize hN : M * (M / 1009 + 40692) % 2147483399 = N
          have N0 : 0 ≤ N := by rw [← hN]; exact Int.emod_nonneg _ (by decide)
          have N1 : N < 2147483399 := by rw [← hN]; exact Int.emod_lt_of_pos _ (by decide)
          walk_at "rd"
          refine Rd.setG e1 (show ixN 5 3 = some 3 by decide) rfl fun G2 k1 kb => ?_
          walk_at "rd"
          refine Rd.iC ⟨by decide, by decide⟩ ?_
          walk_at "rd"
          refine Rd.iC n0 ?_
          walk_at "rd"
          exact k _ _ (Int.emod_nonneg _ (by omega)) (Int.emod_lt_of_pos _ n0) ⟨ns, x', y, N, u + 1, tc, k1, by rw [kb _ tc.symm]; exact e2, x'0, x'1, N0, by omega⟩ (fun b o hb e => by rw [kb b hb, eb b hb]; exact e)
theorem pickR {K : PySem.W.Frag} {H : Hp} {t c : Addr} {n : Int} {Q : VK} {E : XK} (T : Tape H t c) (h0 : 0 < n) (h1 : n < 1073741824) (k : ∀ r H', 0 ≤ r → r < n → Tape H' t c → Rd.But t H H' → Q (.int r) H') : sp_l_pick K [.ref t, .int n] H Q E := ⟨t, c, n, rfl, T, h0, h1, k⟩
/-! ### what stays when only the tape is written -/
theorem but_L {K : PySem.W.Frag} {H H' : Hp} {t a : Addr} {xs : List V} (e : Rd.But t H H') (n : a ≠ t) (h : SqL K H a xs) : SqL K H' a xs := by
  rcases h with (h | ⟨o, h⟩) | h
  · exact .inl (.inl (e _ _ n h))
  · exact .inl (.inr ⟨o, e _ _ n h⟩)
  · exact .inr h
theorem but_T {K : PySem.W.Frag} {H H' : Hp} {t a : Addr} {xs : List V} (e : Rd.But t H H') (n : a ≠ t) (h : SqT K H a xs) : SqT K H' a xs := by
  rcases h with (h | ⟨o, h⟩) | h
  · exact .inl (.inl (e _ _ n h))
  · exact .inl (.inr ⟨o, e _ _ n h⟩)
  · exact .inr h
theorem but_R {K : PySem.W.Frag} {H H' : Hp} {t a : Addr} {xs : List V} (e : Rd.But t H H') (n : a ≠ t) (h : Ru.SqR K H a xs) : Ru.SqR K H' a xs := h.imp (but_L e n) (but_T e n)

end
end W

namespace W
open PySem PySem.Spec PyProof.Rows L2
section
variable {P : Program} {w : World} {K : PySem.W.Frag} {mg : Str → Option Value} {base : Heap}
/-! ### naturals as values -/
def natV (P : List Nat) : List V := (P.map fun i : Nat => (i : Int)).map V.int
theorem natV_len (P : List Nat) : (natV P).length = P.length := by
  unfold natV
  rw [List.length_map, List.length_map]
theorem natV_get {P : List Nat} {i : Nat} {x : V} (h : (natV P)[i]? = some x) : ∃ j, P[i]? = some j ∧ x = .int (j : Nat) := by
  unfold natV at h
  rw [List.map_map, List.getElem?_map] at h
  cases e : P[i]? with
  | none => rw [e] at h; cases h
  | some j => rw [e] at h; exact ⟨j, rfl, (Option.some.inj h).symm⟩
theorem mem_nat {P : List Nat} {i : Nat} : ((i : Int) ∈ P.map fun j : Nat => (j : Int)) ↔ i ∈ P := by
  rw [List.mem_map]
  constructor
  · rintro ⟨j, m, e⟩
    rw [show i = j by omega]
    exact m
  · exact fun m => ⟨i, m, rfl⟩
theorem paired_mono {α β : Type} {R S : α → β → Prop} {xs : List α} {ys : List β} (h : Paired R xs ys) (f : ∀ x y, R x y → S x y) : Paired S xs ys := by
  induction h with
  | nil => exact .nil
  | cons a _ ih => exact .cons (f _ _ a) ih
theorem paired_app {α β : Type} {R : α → β → Prop} {xs us : List α} {ys ws : List β} (h : Paired R xs ys) (k : Paired R us ws) : Paired R (xs ++ us) (ys ++ ws) := by
  induction h with
  | nil => exact k
  | cons a _ ih => exact .cons a ih
theorem paired_at {α β : Type} {R : α → β → Prop} {xs : List α} {ys : List β} (h : Paired R xs ys) : ∀ {i : Nat} {x : α}, xs[i]? = some x → ∃ y, ys[i]? = some y ∧ R x y := by
  induction h with
  | nil => intro i x e; simp at e
  | cons a _ ih =>
    intro i x e
    cases i with
    | zero => cases e; exact ⟨_, rfl, a⟩
    | succ i => exact ih e

end
end W

namespace W
open PySem PySem.Spec PyProof.Rows L2
section
variable {P : Program} {w : World} {K : PySem.W.Frag} {mg : Str → Option Value} {base : Heap}
/-! ### letters and watches: texts of any signs -/
/-- no text -/
def NoTxt (K : PySem.W.Frag) (H : Hp) (x : V) : Prop := (∃ k, Rx.Is H x k ∧ k.isStr = false) ∨ ∃ (a C dx : Addr) (fs : List (Str × V)), x = .ref a ∧ H a = some (.ins C dx fs) ∧ Cls K C ∧ OwnTy K C ∧ PySem.W.mroIn K C (.type "str") = some false
theorem NoTxt.same {H H' : Hp} {x : V} (s : Same H H') (h : NoTxt K H x) : NoTxt K H' x := h.imp (fun ⟨k, i, e⟩ => ⟨k, i.same s, e⟩) fun ⟨a, C, dx, fs, e, g, r⟩ => ⟨a, C, dx, fs, e, s _ _ g, r⟩
theorem NoTxt.ask {H : Hp} {x : V} {Q : VK} (h : NoTxt K H x) (q : Q (.bl false) H) : rIsi K [x, .ty "str"] H Q := by
  rcases h with ⟨k, i, e⟩ | ⟨a, C, dx, fs, rfl, g, c, o, m⟩
  · refine Rx.askStr i ?_
    rw [e]
    exact q
  · refine ⟨_, _, _, _, false, rfl, .ty "str", .base (.ins g c o.ha o.hn o.htk o.hm), ?_, q⟩
    show (if (Value.ref C == Value.type "str") = true then some true else if PySem.W.kitMeta "str" = true then PySem.W.subIn K (.ref C) (.type "str") else none) = some false
    rw [if_neg (by simp), if_pos (by decide +kernel)]
    exact m
def sp_is_letters (K : PySem.W.Frag) : Sp := fun vs H Q _ => (∃ z : Str, vs = [.str z] ∧ z.length ≤ 1000000 ∧ ∀ (b : Bool) H', (b = true ↔ Lt.Let z) → Same H H' → Q (.bl b) H') ∨ (∃ x, vs = [x] ∧ NoTxt K H x ∧ ∀ H', Same H H' → Q (.bl false) H')
def sp_is_word (K : PySem.W.Frag) : Sp := fun vs H Q _ => ∃ z : Str, vs = [.str z] ∧ Lt.Wd 40 z ∧ ∀ H', Same H H' → Q (.bl true) H'
def sp_is_watch (K : PySem.W.Frag) : Sp := fun vs H Q _ => (∃ z : Str, vs = [.str z] ∧ z.length ≤ 1000000 ∧ ∀ (b : Bool) H', (b = true ↔ Lt.Wd 12 z) → Same H H' → Q (.bl b) H') ∨ (∃ x, vs = [x] ∧ NoTxt K H x ∧ ∀ H', Same H H' → Q (.bl false) H')
theorem let_all (z : Str) : (z.cps.toList.map fun c => decide (c ∈ Lt.Abc.cps.toList)).all id = true ↔ Lt.Let z := by
  rw [List.all_eq_true]
  constructor
  · intro h c hc
    have := h _ (List.mem_map.mpr ⟨c, hc, rfl⟩)
    simpa using this
  · intro h b hb
    obtain ⟨c, hc, rfl⟩ := List.mem_map.mp hb
    simpa using h c hc
theorem ok_is_letters (T : Txt w K mg) : FnOk P w K mg base CX0 1 T.f_is_letters T.fd_is_letters ["value"] (sp_is_letters K) := by
  refine T.F_is_letters.ok sc_is_letters (fun vs H Q E h => ?_) (fun cdv A outer s H vs Q E hr h => ?_)
  · rcases h with ⟨z, rfl, _⟩ | ⟨z, rfl, _⟩ <;> rfl
  · refine ⟨_, (pss_one (ps_ret (pe_and (pe_callB (id := "isinstance") (r := rIsi K) call_isi (by rfl) T.n_isinstance (by decide +kernel) (pa_cons (pv 0) (pa_cons (pe_bltn (v := .ty "str") (u := .type "str") (by rfl) T.n_str (by decide +kernel) rfl) pa_nil))) (pe_one (pe_callB (id := "all") (r := rAll K) (cr_all rfl) (by rfl) T.n_all (by decide +kernel) (pa_cons (pe_lc (own := [("letter", 1)]) (g := gName 1) (tt := tYes) rfl sc_is_letters.nd (pi_str (pv 0)) (blkOk_by (own := [("letter", 1)]) (N := ["value", "letter"]) (sc := defScope s_is_letters) (by decide +kernel)) (fun _ _ _ _ _ => (pg_name (i := 1) sc_is_letters.nd rfl (.inl rfl))) (fun _ _ _ _ _ => pts_nil) (fun _ _ _ _ _ => (pe_cmpR Rd.o_inC (pv 1) (pe_glob (v := .str "abcdefghijklmnopqrstuvwxyz") rfl T.m_LETTERS ⟨_, rfl⟩) rfl))) pa_nil)))))), ?_⟩
    rcases h with ⟨z, rfl, hl, k⟩ | ⟨x, rfl, od, k⟩
    rotate_left
    · walk_at "rd"
      refine od.ask ?_
      walk_at "rd"
      exact k _ (Same.refl _)
    walk_at "rd"
    refine Rd.isiStr ?_
    walk_at "rd"
    refine Rd.lcS walk_str (fun _ _ => trivial) (fun _ i acc _ => acc = ((z.cps.toList.take i).map fun c => decide (c ∈ Lt.Abc.cps.toList)).map V.bl) (fun _ _ _ _ _ => rfl) ?_ ?_
    · rintro D i x G _ acc nD hi hD sm rfl ⟨rfl, c, hc, rfl⟩
      walk_at "rd"
      refine ⟨rfl, Rd.tyes ?_⟩
      walk_at "rd"
      refine Rd.inC ?_
      have hi2 : i < z.length := hi
      have hc2 : z.cps.toList[i]? = some c := by simpa using hc
      refine Rd.lcPush hD nD sm (by rw [List.length_map, List.length_map, List.length_take, sizeLine_eq]; omega) fun G _ _ => ?_
      rw [Rd.take_snoc hc2, List.map_append, List.map_append]
      rfl
    · rintro D acc G nD hD sm rfl
      refine Rd.all (.of hD) ?_
      rw [show (z.cps.toList.take z.cps.size) = z.cps.toList from by rw [← Array.length_toList, List.take_length]]
      exact k _ _ (let_all z) sm
theorem ok_is_word (T : Txt w K mg) : FnOk P w K mg base CX0 2 T.f_is_word T.fd_is_word ["thing"] (sp_is_word K) := by
  refine T.F_is_word.ok sc_is_word (fun vs H Q E h => ?_) (fun cdv A outer s H vs Q E hr h => ?_)
  · obtain ⟨z, rfl, _⟩ := h
    rfl
  · obtain ⟨z, rfl, hz, k⟩ := h
    refine ⟨_, (pss_one (ps_ret (pe_and (pe_call (ok_is_letters T) (hr.mono (by decide)) rfl T.g_is_letters T.F_is_letters.kp T.b_is_letters .nil pass0 (pa_cons (pv 0) pa_nil)) (pe_one (pe_chain op_le op_le pe_int (pe_callB (id := "len") (r := _) Rd.c_lenS (by rfl) T.n_len (by decide +kernel) (pa_cons (pv 0) pa_nil)) (pe_glob (v := .int 40) rfl T.m_MOST_WORD ⟨_, rfl⟩)))))), ?_⟩
    have h0 := hz.l0
    have h1 := hz.l1
    walk_at "rd"
    refine .inl ⟨z, rfl, by omega, fun b H1 hb s1 => ?_⟩
    rw [hb.mpr hz.ok]
    walk_at "rd"
    refine Rd.lenStr (hz.line (by decide)) ?_
    walk_at "rd"
    walk_at "yes"
    walk_at "rd"
    rw [decide_eq_true (by omega)]
    exact k _ s1
theorem ok_is_watch (T : Txt w K mg) : FnOk P w K mg base CX0 2 T.f_is_watch T.fd_is_watch ["thing"] (sp_is_watch K) := by
  refine T.F_is_watch.ok sc_is_watch (fun vs H Q E h => ?_) (fun cdv A outer s H vs Q E hr h => ?_)
  · rcases h with ⟨z, rfl, _⟩ | ⟨z, rfl, _⟩ <;> rfl
  · refine ⟨_, (pss_one (ps_ret (pe_and (pe_call (ok_is_letters T) (hr.mono (by decide)) rfl T.g_is_letters T.F_is_letters.kp T.b_is_letters .nil pass0 (pa_cons (pv 0) pa_nil)) (pe_one (pe_chain op_le op_le pe_int (pe_callB (id := "len") (r := _) Rd.c_lenS (by rfl) T.n_len (by decide +kernel) (pa_cons (pv 0) pa_nil)) (pe_glob (v := .int 12) rfl T.m_MOST_WATCH ⟨_, rfl⟩)))))), ?_⟩
    rcases h with ⟨z, rfl, hl, k⟩ | ⟨x, rfl, od, k⟩
    rotate_left
    · walk_at "rd"
      refine .inr ⟨x, rfl, od, fun H1 s1 => ?_⟩
      walk_at "rd"
      exact k _ s1
    walk_at "rd"
    refine .inl ⟨z, rfl, hl, fun b H1 hb s1 => ?_⟩
    walk_at "rd"
    cases b with
    | false =>
      refine Rd.no (fun e => nomatch e) ?_
      walk_at "rd"
      exact k _ _ ⟨fun e => (nomatch e), fun e => absurd (hb.mpr e.ok) Bool.false_ne_true⟩ s1
    | true =>
      have L := hb.mp rfl
      refine Rd.yes rfl ?_
      walk_at "rd"
      refine Rd.lenStr (by rw [sizeLine_eq]; omega) ?_
      walk_at "rd"
      by_cases c : (1 : Int) ≤ (z.length : Nat)
      · refine Rd.yes c ?_
        walk_at "rd"
        exact k _ _ ⟨fun e => ⟨L, by omega, by have := of_decide_eq_true e; omega⟩, fun e => decide_eq_true e.l1⟩ s1
      · refine Rd.no c ?_
        walk_at "rd"
        exact k _ _ ⟨fun e => (nomatch e), fun e => absurd (by have := e.l0; omega) c⟩ s1

end
end W

namespace W
open PySem PySem.Spec PyProof.Rows L2
section
variable {P : Program} {w : World} {K : PySem.W.Frag} {mg : Str → Option Value} {base : Heap}
def sp_check_word (K : PySem.W.Frag) : Sp := fun vs H Q _ => ∃ z : Str, vs = [.str z] ∧ Lt.Wd 40 z ∧ ∀ H', Same H H' → Q (.str z) H'
theorem ok_check_word (T : Txt w K mg) : FnOk P w K mg base CX0 4 T.f_check_word T.fd_check_word ["word"] (sp_check_word K) := by
  refine T.F_check_word.ok sc_check_word (fun vs H Q E h => ?_) (fun cdv A outer s H vs Q E hr h => ?_)
  · obtain ⟨z, rfl, _⟩ := h
    rfl
  · obtain ⟨z, rfl, hz, k⟩ := h
    refine ⟨_, (pss_cons (ps_if (pt_not (pt_val (pe_call (ok_is_word T) (hr.mono (by decide)) rfl T.g_is_word T.F_is_word.kp T.b_is_word .nil pass0 (pa_cons (pv 0) pa_nil))))
  (pss_one ps_never)
  pss_nil)
  (pss_one (ps_ret (pv 0)))), ?_⟩
    walk_at "rd"
    refine ⟨z, rfl, hz, fun H1 s1 => ?_⟩
    walk_at "rd"
    exact k _ s1

end
end W

namespace W
open PySem PySem.Spec PyProof.Rows L2
section
variable {P : Program} {w : World} {K : PySem.W.Frag} {mg : Str → Option Value} {base : Heap}
/-! ### rules: steps between spots -/
def stepOf (z : Str) (i j : Nat) : Str × Str := if i < j then (("on" : Str), cutS z (some (i : Int)) (some (j : Int))) else (("back" : Str), cutS z (some (j : Int)) (some (i : Int)))
def stepsOf (z : Str) : List Nat → List (Str × Str)
  | i :: j :: P => stepOf z i j :: stepsOf z (j :: P)
  | _ => []
theorem stepsOf_len (z : Str) : ∀ P : List Nat, (stepsOf z P).length = P.length - 1
  | [] => rfl
  | [_] => rfl
  | i :: j :: P => by
    show (stepsOf z (j :: P)).length + 1 = _
    rw [stepsOf_len z (j :: P)]
    simp
theorem stepsOf_get {z : Str} : ∀ {P : List Nat} {k i j : Nat}, P[k]? = some i → P.tail[k]? = some j → (stepsOf z P)[k]? = some (stepOf z i j)
  | i :: j :: P, 0, _, _, h1, h2 => by
    simp at h1 h2
    subst h1 h2
    rfl
  | i :: j :: P, k + 1, _, _, h1, h2 => by
    show (stepsOf z (j :: P))[k]? = _
    exact stepsOf_get (P := j :: P) (by simpa using h1) (by simpa using h2)
  | [i], k, _, _, h1, h2 => by simp at h2
  | [], k, _, _, h1, h2 => by simp at h1
/-- the steps ss stand as a tuple at q -/
def StepsAt (H : Hp) (q : Addr) (ss : List (Str × Str)) : Prop := ∃ rs : List Addr, H q = some (.tup (rs.map V.ref)) ∧ rs.length = ss.length ∧ ∀ (i : Nat) (r : Addr) (s : Str × Str), rs[i]? = some r → ss[i]? = some s → H r = some (.tup [.str s.1, .str s.2])
theorem StepsAt.keep {H H' : Hp} {q : Addr} {ss : List (Str × Str)} (h : StepsAt H q ss) (s : ∀ b xs, H b = some (.tup xs) → H' b = some (.tup xs)) : StepsAt H' q ss := let ⟨rs, h1, h2, h3⟩ := h; ⟨rs, s _ _ h1, h2, fun i r x e1 e2 => s _ _ (h3 i r x e1 e2)⟩
theorem StepsAt.same {H H' : Hp} {q : Addr} {ss : List (Str × Str)} (h : StepsAt H q ss) (s : Same H H') : StepsAt H' q ss := h.keep fun b xs => s b _
def stepD (s : Str × Str) : PyData := .tuple [.str s.1, .str s.2]
theorem steps_dp {K : PySem.W.Frag} {H : Hp} : ∀ {ss : List (Str × Str)} {rs : List Addr}, rs.length = ss.length → (∀ (i : Nat) (r : Addr) (s : Str × Str), rs[i]? = some r → ss[i]? = some s → H r = some (.tup [.str s.1, .str s.2])) → DpAll K H (rs.map V.ref) (ss.map stepD)
  | [], [], _, _ => .nil
  | s :: ss, r :: rs, l, h => .cons (.tup (.of (h 0 r s rfl rfl)) (.cons (.str _) (.cons (.str _) .nil))) (steps_dp (by simpa using l) fun i r' s' e1 e2 => h (i + 1) r' s' (by simpa using e1) (by simpa using e2))
theorem StepsAt.dp {K : PySem.W.Frag} {H : Hp} {q : Addr} {ss : List (Str × Str)} (h : StepsAt H q ss) : Dp K H (.ref q) (.tuple (ss.map stepD)) := let ⟨_, h1, h2, h3⟩ := h; .tup (.of h1) (steps_dp h2 h3)
theorem StepsAt.row {H : Hp} {q : Addr} {ss : List (Str × Str)} (h : StepsAt H q ss) : ∃ rs : List Addr, H q = some (.tup (rs.map V.ref)) ∧ rs.length = ss.length ∧ ∀ (i : Nat) (r : Addr), rs[i]? = some r → ∃ s, ss[i]? = some s ∧ H r = some (.tup [.str s.1, .str s.2]) := by
  obtain ⟨rs, h1, h2, h3⟩ := h
  refine ⟨rs, h1, h2, fun i r e => ?_⟩
  have l : i < ss.length := by rw [← h2]; exact (List.getElem?_eq_some_iff.mp e).1
  exact ⟨ss[i], List.getElem?_eq_getElem l, h3 i r _ e (List.getElem?_eq_getElem l)⟩
def sp_steps_between (K : PySem.W.Frag) : Sp := fun vs H Q _ => ∃ (q : Addr) (z : Str) (P : List Nat), vs = [.str z, .ref q] ∧ H q = some (.tup (natV P)) ∧ P ≠ [] ∧ P.length ≤ 1000 ∧ z.length ≤ 1000 ∧ ∀ (p : Addr) H', StepsAt H' p (stepsOf z P) → Same H H' → H p = none → Q (.ref p) H'
end
end W

namespace W
open PySem PySem.Spec PyProof.Rows L2
section
variable {P : Program} {w : World} {K : PySem.W.Frag} {mg : Str → Option Value} {base : Heap}
/-! ### steps and rules: of anything -/
def StepOk (s : Str × Str) : Prop := (s.1 = "on" ∨ s.1 = "back") ∧ Lt.Wd 12 s.2
inductive WayB (K : PySem.W.Frag) (H : Hp) : V → Bool → Prop where
  | yes (z : Str) (h : z = "on" ∨ z = "back") : WayB K H (.str z) true
  | cap : WayB K H (.str "On") false
  | no {x : V} (h : NoTxt K H x) : WayB K H x false
inductive WatB (K : PySem.W.Frag) (H : Hp) : V → Bool → Prop where
  | str {z : Str} (l : z.length ≤ 1000000) (b : Bool) (h : b = true ↔ Lt.Wd 12 z) : WatB K H (.str z) b
  | no {x : V} (h : NoTxt K H x) : WatB K H x false
inductive StepB (K : PySem.W.Frag) (H : Hp) : V → Bool → Prop where
  | odd {x : V} {k : Rx.Kd} (h : Rx.Is H x k) (s : k.isTup = false) : StepB K H x false
  | len {a : Addr} {xs : List V} (h : SqT K H a xs) (l : xs.length ≠ 2) : StepB K H (.ref a) false
  | pair {a : Addr} {x y : V} {b c : Bool} (h : SqT K H a [x, y]) (hx : WayB K H x b) (hy : WatB K H y c) : StepB K H (.ref a) (b && c)
theorem WayB.same {H H' : Hp} {x : V} {b : Bool} (s : Same H H') (h : WayB K H x b) : WayB K H' x b := by
  cases h with
  | yes z h => exact .yes z h
  | cap => exact .cap
  | no h => exact .no (h.same s)
theorem WatB.same {H H' : Hp} {x : V} {b : Bool} (s : Same H H') (h : WatB K H x b) : WatB K H' x b := by
  cases h with
  | str l b h => exact .str l b h
  | no h => exact .no (h.same s)
theorem StepB.same {H H' : Hp} {x : V} {b : Bool} (s : Same H H') (h : StepB K H x b) : StepB K H' x b := by
  cases h with
  | odd h k => exact .odd (h.same s) k
  | len h l => exact .len (Ru.same_tup s h) l
  | pair h hx hy => exact .pair (Ru.same_tup s h) (hx.same s) (hy.same s)
def sp_is_step (K : PySem.W.Frag) : Sp := fun vs H Q _ => ∃ (x : V) (b : Bool), vs = [x] ∧ StepB K H x b ∧ ∀ H', Same H H' → Q (.bl b) H'
theorem ok_is_step (T : Txt w K mg) : FnOk P w K mg base CX0 3 T.f_is_step T.fd_is_step ["thing"] (sp_is_step K) := by
  refine T.F_is_step.ok sc_is_step (fun vs H Q E h => ?_) (fun cdv A outer s H vs Q E hr h => ?_)
  · obtain ⟨x, b, rfl, _⟩ := h
    rfl
  · obtain ⟨x, b, rfl, hx, k⟩ := h
    refine ⟨_, (pss_cons (ps_if (PW.pt (pw_or (pt_not (pt_val (pe_callB (id := "isinstance") (r := rIsi K) call_isi (by rfl) T.n_isinstance (by decide +kernel) (pa_cons (pv 0) (pa_cons (pe_bltn (v := .ty "tuple") (u := .type "tuple") (by rfl) T.n_tuple (by decide +kernel) rfl) pa_nil))))) (pw_or1 (pt_cmpR op_ne (pe_callB (id := "len") (r := Rd.nLen K) Rd.c_len (by rfl) T.n_len (by decide +kernel) (pa_cons (pv 0) pa_nil)) pe_int (nomark _)))))
  (pss_one (ps_ret pe_bl))
  pss_nil)
  (pss_one (ps_ret (pe_and (pe_callB (id := "isinstance") (r := rIsi K) call_isi (by rfl) T.n_isinstance (by decide +kernel) (pa_cons (pe_ix (r := rIxT K) ix_tup (pv 0) pe_int (fun _ _ => rfl)) (pa_cons (pe_bltn (v := .ty "str") (u := .type "str") (by rfl) T.n_str (by decide +kernel) rfl) pa_nil))) (pe_and (pe_cmpR (op_in_kd T.D_OTHER) (pe_ix (r := rIxT K) ix_tup (pv 0) pe_int (fun _ _ => rfl)) (pe_glob (v := .ref T.q_OTHER) rfl T.m_OTHER rfl) (by rfl)) (pe_one (pe_call (ok_is_watch T) (hr.mono (by decide)) rfl T.g_is_watch T.F_is_watch.kp T.b_is_watch .nil pass0 (pa_cons (pe_ix (r := rIxT K) ix_tup (pv 0) pe_int (fun _ _ => rfl)) pa_nil)))))))), ?_⟩
    cases hx with
    | odd h s =>
      walk_at "rd"
      refine Rx.askTup h ?_
      rw [s]
      walk_at "rd"
      exact k _ (Same.refl _)
    | len h l =>
      walk_at "rd"
      refine Rd.isi (Ru.ty_T h) (by decide +kernel : kitB "tuple" "tuple" = some true) ?_
      walk_at "rd"
      refine Rd.len (.inr h) ?_
      walk_at "rd"
      refine Rd.no (by omega) ?_
      walk_at "rd"
      exact k _ (Same.refl _)
    | @pair a x y b c h hx hy =>
      walk_at "rd"
      refine Rd.isi (Ru.ty_T h) (by decide +kernel : kitB "tuple" "tuple" = some true) ?_
      walk_at "rd"
      refine Rd.len (.inr h) ?_
      walk_at "rd"
      refine Rd.yes rfl ?_
      walk_at "rd"
      refine Rd.ixT h (atI_nat (j := 0) rfl) ?_
      walk_at "rd"
      cases hx with
      | no od =>
        refine od.ask ?_
        walk_at "rd"
        exact k _ (Same.refl _)
      | cap =>
        refine Rd.isiStr ?_
        walk_at "rd"
        refine Rd.ixT h (atI_nat (j := 0) rfl) ?_
        walk_at "rd"
        refine ⟨_, _, rfl, rfl, T.nk_OTHER_0, ?_⟩
        walk_at "rd"
        refine Rd.no (fun e => nomatch e) ?_
        walk_at "rd"
        exact k _ (Same.refl _)
      | yes z e =>
        refine Rd.isiStr ?_
        walk_at "rd"
        refine Rd.ixT h (atI_nat (j := 0) rfl) ?_
        walk_at "rd"
        have kin : ∃ r, PySem.W.nsIn K T.q_OTHER z = some (some r) := by
          rcases e with e | e
          · exact ⟨_, by rw [e]; exact T.kv_OTHER_0⟩
          · exact ⟨_, by rw [e]; exact T.kv_OTHER_1⟩
        obtain ⟨u, ku⟩ := kin
        refine ⟨_, _, rfl, rfl, ku, ?_⟩
        walk_at "rd"
        refine Rd.yes rfl ?_
        walk_at "rd"
        refine Rd.ixT h (atI_nat (j := 1) rfl) ?_
        walk_at "rd"
        cases hy with
        | no od => exact .inr ⟨_, rfl, od, fun H1 s1 => k _ s1⟩
        | str l b e =>
          refine .inl ⟨_, rfl, l, fun b2 H1 hb s1 => ?_⟩
          cases (Bool.eq_iff_iff.mpr (hb.trans e.symm))
          exact k _ s1
/-! ### rules of anything -/
/-- a thing, and the step that it is -/
inductive Elt (K : PySem.W.Frag) (H : Hp) : V → Option (Str × Str) → Prop where
  | step {r : Addr} {s : Str × Str} (h : H r = some (.tup [.str s.1, .str s.2])) (ok : StepOk s) : Elt K H (.ref r) (some s)
  | no {x : V} (h : StepB K H x false) : Elt K H x none
theorem Elt.same {H H' : Hp} {x : V} {o : Option (Str × Str)} (s : Same H H') (h : Elt K H x o) : Elt K H' x o := by
  cases h with
  | step h ok => exact .step (s _ _ h) ok
  | no h => exact .no (h.same s)
theorem step_ok {K : PySem.W.Frag} {H : Hp} {r : Addr} {s : Str × Str} (h : H r = some (.tup [.str s.1, .str s.2])) (ok : StepOk s) : StepB K H (.ref r) true := by
  have := StepB.pair (K := K) (b := true) (c := true) (.of h) (WayB.yes s.1 ok.1) (WatB.str (by have := ok.2.l1; omega) true ⟨fun _ => ok.2, fun _ => rfl⟩)
  exact this
theorem Elt.b {H : Hp} {x : V} {o : Option (Str × Str)} (h : Elt K H x o) : StepB K H x o.isSome := by
  cases h with
  | step h ok => exact step_ok h ok
  | no h => exact h
def Elts (K : PySem.W.Frag) (H : Hp) (xs : List V) (os : List (Option (Str × Str))) : Prop := os.length = xs.length ∧ ∀ (i : Nat) (x : V) (o : Option (Str × Str)), xs[i]? = some x → os[i]? = some o → Elt K H x o
theorem Elts.same {H H' : Hp} {xs : List V} {os : List (Option (Str × Str))} (s : Same H H') (h : Elts K H xs os) : Elts K H' xs os := ⟨h.1, fun i x o e1 e2 => (h.2 i x o e1 e2).same s⟩
theorem Elts.get {H : Hp} {xs : List V} {os : List (Option (Str × Str))} (h : Elts K H xs os) {i : Nat} {x : V} (e : xs[i]? = some x) : ∃ o, os[i]? = some o ∧ Elt K H x o := by
  have l : i < os.length := by rw [h.1]; exact (List.getElem?_eq_some_iff.mp e).1
  exact ⟨_, List.getElem?_eq_getElem l, h.2 i x _ e (List.getElem?_eq_getElem l)⟩
/-- a thing, and what stands in it if it is a tuple -/
inductive RT (K : PySem.W.Frag) (H : Hp) : V → Option (List (Option (Str × Str))) → Prop where
  | odd {x : V} {k : Rx.Kd} (h : Rx.Is H x k) (s : k.isTup = false) : RT K H x none
  | own {a C dx : Addr} {fs : List (Str × V)} (g : H a = some (.ins C dx fs)) (c : Cls K C) (o : OwnTy K C) (m : PySem.W.mroIn K C (.type "tuple") = some false) : RT K H (.ref a) none
  | tup {a : Addr} {xs : List V} {os : List (Option (Str × Str))} (h : H a = some (.tup xs)) (l : xs.length ≤ 100000) (e : Elts K H xs os) : RT K H (.ref a) (some os)
theorem RT.same {H H' : Hp} {x : V} {o : Option (List (Option (Str × Str)))} (s : Same H H') (h : RT K H x o) : RT K H' x o := by
  cases h with
  | odd h k => exact .odd (h.same s) k
  | own g c o m => exact .own (s _ _ g) c o m
  | tup h l e => exact .tup (s _ _ h) l (e.same s)
/-- a step on stands there -/
def onAt (os : List (Option (Str × Str))) (i : Nat) : Prop := ∃ w, os[i]? = some (some (("on" : Str), w))
structure AreS (os : List (Option (Str × Str))) : Prop where
  l1 : 1 ≤ os.length
  l80 : os.length ≤ 80
  all : ∀ o ∈ os, o.isSome = true
  first : onAt os 0
  last : onAt os (os.length - 1)
def AreO (o : Option (List (Option (Str × Str)))) : Prop := ∃ os, o = some os ∧ AreS os
theorem areO_some {os : List (Option (Str × Str))} : AreO (some os) ↔ AreS os := ⟨fun ⟨_, e, h⟩ => by cases e; exact h, fun h => ⟨_, rfl, h⟩⟩
theorem areO_none : ¬ AreO none := fun ⟨_, e, _⟩ => nomatch e
theorem last_at {xs : List V} {v : V} (h : xs[xs.length - 1]? = some v) : atI xs (-1) = some v := by
  obtain ⟨r, rfl⟩ := List.getLast?_eq_some_iff.mp (by rw [List.getLast?_eq_getElem?]; exact h)
  exact atI_last _ _
theorem ask_own {H : Hp} {a C dx : Addr} {fs : List (Str × V)} {Q : VK} (g : H a = some (.ins C dx fs)) (c : Cls K C) (o : OwnTy K C) (m : PySem.W.mroIn K C (.type "tuple") = some false) (q : Q (.bl false) H) : rIsi K [.ref a, .ty "tuple"] H Q := by
  refine ⟨_, _, _, _, false, rfl, .ty "tuple", .base (.ins g c o.ha o.hn o.htk o.hm), ?_, q⟩
  show (if (Value.ref C == Value.type "tuple") = true then some true else if PySem.W.kitMeta "tuple" = true then PySem.W.subIn K (.ref C) (.type "tuple") else none) = some false
  rw [if_neg (by simp), if_pos (by decide +kernel)]
  exact m
theorem all_isSome {os : List (Option (Str × Str))} : (os.map Option.isSome).all id = true ↔ ∀ o ∈ os, o.isSome = true := by
  rw [List.all_map, List.all_eq_true]
  exact Iff.rfl
def sp_are_steps (K : PySem.W.Frag) : Sp := fun vs H Q _ => ∃ (x : V) (o : Option (List (Option (Str × Str)))), vs = [x] ∧ RT K H x o ∧ ∀ (b : Bool) H', (b = true ↔ AreO o) → Same H H' → Q (.bl b) H'
theorem ok_are_steps (T : Txt w K mg) : FnOk P w K mg base CX0 4 T.f_are_steps T.fd_are_steps ["thing"] (sp_are_steps K) := by
  refine T.F_are_steps.ok sc_are_steps (fun vs H Q E h => ?_) (fun cdv A outer s H vs Q E hr h => ?_)
  · obtain ⟨x, b, rfl, _⟩ := h
    rfl
  · obtain ⟨x, o, rfl, hx, k⟩ := h
    refine ⟨_, (pss_cons (ps_if (PW.pt (pw_or (pt_not (pt_val (pe_callB (id := "isinstance") (r := rIsi K) call_isi (by rfl) T.n_isinstance (by decide +kernel) (pa_cons (pv 0) (pa_cons (pe_bltn (v := .ty "tuple") (u := .type "tuple") (by rfl) T.n_tuple (by decide +kernel) rfl) pa_nil))))) (pw_or1 (pt_not (pt_chain op_le op_le pe_int (pe_callB (id := "len") (r := Rd.nLen K) Rd.c_len (by rfl) T.n_len (by decide +kernel) (pa_cons (pv 0) pa_nil)) (pe_glob (v := .int 80) rfl T.m_MOST_STEPS ⟨_, rfl⟩))))))
  (pss_one (ps_ret pe_bl))
  pss_nil)
  (pss_cons (ps_if (pt_not (pt_val (pe_callB (id := "all") (r := rAll K) (cr_all rfl) (by rfl) T.n_all (by decide +kernel) (pa_cons (pe_lc (own := [("step", 1)]) (g := gName 1) (tt := tYes) rfl sc_are_steps.nd (pi_tup (pv 0)) (blkOk_by (own := [("step", 1)]) (N := ["thing", "step"]) (sc := defScope s_are_steps) (by decide +kernel)) (fun _ _ _ _ _ => (pg_name (i := 1) sc_are_steps.nd rfl (.inl rfl))) (fun _ _ _ _ _ => pts_nil) (fun _ _ _ _ _ => (pe_call (ok_is_step T) (hr.mono (by decide)) rfl T.g_is_step T.F_is_step.kp T.b_is_step .nil pass0 (pa_cons (pv 1) pa_nil)))) pa_nil))))
  (pss_one (ps_ret pe_bl))
  pss_nil)
  (pss_one (ps_ret (pe_and (pe_cmpR op_eq (pe_ix (r := rIxT K) ix_tup (pe_ix (r := rIxT K) ix_tup (pv 0) pe_int (fun _ _ => rfl)) pe_int (fun _ _ => rfl)) pe_str (nomark _)) (pe_one (pe_cmpR op_eq (pe_ix (r := rIxT K) ix_tup (pe_ix (r := rIxT K) ix_tup (pv 0) (pe_un un_neg pe_int) (fun _ _ => rfl)) pe_int (fun _ _ => rfl)) pe_str (nomark _)))))))), ?_⟩
    cases hx with
    | odd h s =>
      walk_at "rd"
      refine Rx.askTup h ?_
      rw [s]
      walk_at "rd"
      exact k _ _ ⟨fun e => (nomatch e), fun e => absurd e areO_none⟩ (Same.refl _)
    | own g c o m =>
      walk_at "rd"
      refine ask_own g c o m ?_
      walk_at "rd"
      exact k _ _ ⟨fun e => (nomatch e), fun e => absurd e areO_none⟩ (Same.refl _)
    | @tup a xs os ht l e =>
      have h : SqT K H a xs := .of ht
      rw [areO_some] at k
      have el := e.1
      walk_at "rd"
      refine Rd.isi (Ru.ty_T h) (by decide +kernel : kitB "tuple" "tuple" = some true) ?_
      walk_at "rd"
      refine Rd.len (.inr h) ?_
      walk_at "rd"
      by_cases c1 : (1 : Int) ≤ (xs.length : Nat)
      rotate_left
      · refine Rd.no c1 ?_
        walk_at "rd"
        exact k _ _ ⟨fun e => (nomatch e), fun e => absurd e.l1 (by omega)⟩ (Same.refl _)
      refine Rd.yes c1 ?_
      walk_at "rd"
      by_cases c2 : ((xs.length : Nat) : Int) ≤ 80
      rotate_left
      · refine Rd.no c2 ?_
        walk_at "rd"
        exact k _ _ ⟨fun e => (nomatch e), fun e => absurd e.l80 (by omega)⟩ (Same.refl _)
      refine Rd.yes c2 ?_
      walk_at "rd"
      refine ⟨⟨_, h⟩, Rd.lcS walk_tup (fun _ s => Ru.same_tup s h) (fun D i acc _ => acc = ((os.take i).map Option.isSome).map V.bl) (fun _ _ _ _ _ => rfl) ?_ ?_⟩
      · rintro D i x G _ acc nD hi hD sm rfl ⟨rfl, hx⟩
        obtain ⟨o, ho, he⟩ := e.get hx
        walk_at "rd"
        refine ⟨rfl, ?_⟩
        walk_at "rd"
        refine ⟨x, _, rfl, (he.same sm).b, fun G2 s2 => ?_⟩
        refine Rd.lcPush (s2 _ _ hD) nD (sm.trans s2) (by rw [List.length_map, List.length_map, List.length_take, sizeLine_eq]; omega) fun G _ _ => ?_
        rw [Rd.take_snoc ho, List.map_append, List.map_append]
        rfl
      · rintro D acc G1 nD hD s1 rfl
        walk_at "rd"
        rw [← el, List.take_length] at hD
        refine Rd.all (.of hD) ?_
        cases ca : (os.map Option.isSome).all id with
        | false =>
          walk_at "rd"
          exact k _ _ ⟨fun e => (nomatch e), fun e => by
            have := all_isSome.mpr e.all
            rw [ca] at this
            cases this⟩ s1
        | true =>
          have sa := all_isSome.mp ca
          have stepAt : ∀ i, i < xs.length → ∃ (r : Addr) (s : Str × Str), xs[i]? = some (.ref r) ∧ os[i]? = some (some s) ∧ H r = some (.tup [.str s.1, .str s.2]) := fun i hi => by
            have e1 : xs[i]? = some xs[i] := List.getElem?_eq_getElem hi
            obtain ⟨o, ho, he⟩ := e.get e1
            have so := sa o (List.mem_of_getElem? ho)
            generalize xs[i] = v at e1 he
            cases he with
            | step h ok => exact ⟨_, _, e1, ho, h⟩
            | no _ => cases so
          clear hD nD
          obtain ⟨r0, s0, e0, o0, g0⟩ := stepAt 0 (by omega)
          obtain ⟨r1, s1', e1, o1, g1⟩ := stepAt (xs.length - 1) (by omega)
          have h1 := Ru.same_tup s1 h
          walk_at "rd"
          refine Rd.ixT h1 (atI_nat (j := 0) e0) ?_
          walk_at "rd"
          refine Rd.ixT (.of (s1 _ _ g0)) (atI_nat (j := 0) rfl) ?_
          walk_at "rd"
          by_cases c3 : s0.1 = ("on" : Str)
          · refine Rd.yes c3 ?_
            walk_at "rd"
            refine Rd.ixT h1 (last_at e1) ?_
            walk_at "rd"
            refine Rd.ixT (.of (s1 _ _ g1)) (atI_nat (j := 0) rfl) ?_
            walk_at "rd"
            refine k _ _ ?_ s1
            rw [decide_eq_true_iff]
            constructor
            · intro c4
              exact ⟨by omega, by omega, sa, ⟨s0.2, by rw [o0, ← c3]⟩, ⟨s1'.2, by rw [el, o1, ← c4]⟩⟩
            · intro S
              obtain ⟨w, ew⟩ := S.last
              rw [el, o1] at ew
              cases ew
              rfl
          · refine Rd.no c3 ?_
            walk_at "rd"
            refine k _ _ ⟨fun e => (nomatch e), fun S => ?_⟩ s1
            obtain ⟨w, ew⟩ := S.first
            rw [o0] at ew
            cases ew
            exact absurd rfl c3

end
end W

namespace W
open PySem PySem.Spec PyProof.Rows L2
section
variable {P : Program} {w : World} {K : PySem.W.Frag} {mg : Str → Option Value} {base : Heap}
/-! ### going along a word -/
def goAt (z : Str) (p : Int) (s : Str × Str) : Option Int :=
  if s.1 = ("on" : Str) then (if p + (s.2.length : Nat) < 0 ∨ cutS z (some (min p (p + (s.2.length : Nat)))) (some (max p (p + (s.2.length : Nat)))) ≠ s.2 then none else some (p + (s.2.length : Nat)))
  else (if p - (s.2.length : Nat) < 0 ∨ cutS z (some (min p (p - (s.2.length : Nat)))) (some (max p (p - (s.2.length : Nat)))) ≠ s.2 then none else some (p - (s.2.length : Nat)))
def goTo (z : Str) (ss : List (Str × Str)) : Option Int := ss.foldl (fun o s => o.bind fun p => goAt z p s) (some 0)
theorem goTo_snoc {z : Str} {ss : List (Str × Str)} {i : Nat} {s : Str × Str} (h : ss[i]? = some s) : goTo z (ss.take (i + 1)) = (goTo z (ss.take i)).bind fun p => goAt z p s := by
  rw [Rd.take_snoc h]
  unfold goTo
  rw [List.foldl_append]
  rfl
theorem go_none {z : Str} : ∀ ss : List (Str × Str), ss.foldl (fun o s => o.bind fun p => goAt z p s) none = none
  | [] => rfl
  | _ :: ss => go_none ss
theorem goTo_none {z : Str} {ss : List (Str × Str)} {i : Nat} (h : goTo z (ss.take i) = none) : goTo z ss = none := by
  rw [← List.take_append_drop i ss]
  unfold goTo at h ⊢
  rw [List.foldl_append, h]
  exact go_none _
/-- the spots of the first i steps -/
def Along (z : Str) (ss : List (Str × Str)) (i : Nat) (P : List Int) : Prop := P.length = i + 1 ∧ ∀ j, j ≤ i → goTo z (ss.take j) = P[j]?
theorem Along.zero (z : Str) (ss : List (Str × Str)) : Along z ss 0 [0] := ⟨rfl, fun j h => by
  cases Nat.le_zero.mp h
  rfl⟩
theorem Along.last {z : Str} {ss : List (Str × Str)} {i : Nat} {P : List Int} (h : Along z ss i P) : ∃ p, P[i]? = some p ∧ goTo z (ss.take i) = some p := by
  have e : P[i]? = some (P[i]'(by have := h.1; omega)) := List.getElem?_eq_getElem _
  exact ⟨_, e, by rw [h.2 i (Nat.le_refl _), e]⟩
theorem Along.snoc {z : Str} {ss : List (Str × Str)} {i : Nat} {P : List Int} {s : Str × Str} {p o : Int} (h : Along z ss i P) (hs : ss[i]? = some s) (hp : goTo z (ss.take i) = some p) (g : goAt z p s = some o) : Along z ss (i + 1) (P ++ [o]) := by
  refine ⟨by rw [List.length_append, h.1]; rfl, fun j hj => ?_⟩
  rcases Nat.lt_or_ge i j with c | c
  · have : j = i + 1 := by omega
    subst this
    rw [goTo_snoc hs, hp, List.getElem?_append_right (by rw [h.1]; omega), h.1, Nat.sub_self]
    exact g
  · rw [List.getElem?_append_left (by rw [h.1]; omega)]
    exact h.2 j c
theorem Along.inj {z : Str} {ss : List (Str × Str)} {i : Nat} {P R : List Int} (h : Along z ss i P) (k : Along z ss i R) : P = R := by
  refine List.ext_getElem? fun j => ?_
  rcases Nat.lt_or_ge i j with c | c
  · rw [List.getElem?_eq_none (by rw [h.1]; omega), List.getElem?_eq_none (by rw [k.1]; omega)]
  · rw [← h.2 j c, k.2 j c]
theorem go_stop {z : Str} {ss : List (Str × Str)} {i : Nat} {s : Str × Str} {p : Int} (hs : ss[i]? = some s) (hp : goTo z (ss.take i) = some p) (g : goAt z p s = none) : goTo z ss = none := by
  refine goTo_none (i := i + 1) ?_
  rw [goTo_snoc hs, hp]
  exact g
/-- what going answers -/
def SpotsR (H H' : Hp) (z : Str) (ss : List (Str × Str)) (r : V) : Prop := (r = .non ∧ goTo z ss ≠ some ((z.length : Nat) : Int)) ∨ ∃ (p : Addr) (P : List Int), r = .ref p ∧ H p = none ∧ H' p = some (.tup (P.map V.int)) ∧ Along z ss ss.length P ∧ goTo z ss = some ((z.length : Nat) : Int)
structure RightS (ss : List (Str × Str)) : Prop where
  l1 : 1 ≤ ss.length
  l80 : ss.length ≤ 80
  ok : ∀ s ∈ ss, StepOk s
  first : ∃ y, ss[0]? = some (("on" : Str), y)
  last : ∃ y, ss[ss.length - 1]? = some (("on" : Str), y)
theorem StepsAt.elts {H : Hp} {q : Addr} {ss : List (Str × Str)} (h : StepsAt H q ss) (l : ss.length ≤ 100000) (ok : ∀ s ∈ ss, StepOk s) : RT K H (.ref q) (some (ss.map some)) := by
  obtain ⟨rs, h1, h2, h3⟩ := h
  refine .tup h1 (by rw [List.length_map]; omega) ⟨by rw [List.length_map, List.length_map, h2], fun i x o e1 e2 => ?_⟩
  obtain ⟨r, hr, rfl⟩ := Rd.map_refG e1
  rw [List.getElem?_map] at e2
  cases es : ss[i]? with
  | none => rw [es] at e2; cases e2
  | some s =>
    rw [es] at e2
    cases e2
    exact .step (h3 i r s hr es) (ok s (List.mem_of_getElem? es))
theorem RightS.are {ss : List (Str × Str)} (h : RightS ss) : AreO (some (ss.map some)) := by
  rw [areO_some]
  refine ⟨by rw [List.length_map]; exact h.l1, by rw [List.length_map]; exact h.l80, fun o m => ?_, ?_, ?_⟩
  · obtain ⟨s, _, rfl⟩ := List.mem_map.mp m
    rfl
  · obtain ⟨y, e⟩ := h.first
    exact ⟨y, by rw [List.getElem?_map, e]; rfl⟩
  · obtain ⟨y, e⟩ := h.last
    exact ⟨y, by rw [List.length_map, List.getElem?_map, e]; rfl⟩
def sp_check_steps (K : PySem.W.Frag) : Sp := fun vs H Q _ => ∃ (q : Addr) (ss : List (Str × Str)), vs = [.ref q] ∧ StepsAt H q ss ∧ RightS ss ∧ ∀ H', Same H H' → Q (.ref q) H'
def sp_spots_of (K : PySem.W.Frag) : Sp := fun vs H Q _ => ∃ (q : Addr) (ss : List (Str × Str)) (z : Str), vs = [.str z, .ref q] ∧ StepsAt H q ss ∧ (∀ s ∈ ss, StepOk s) ∧ ss.length ≤ 80 ∧ z.length ≤ 1000 ∧ ∀ (r : V) H', Same H H' → SpotsR H H' z ss r → Q r H'
def sp_followed (K : PySem.W.Frag) : Sp := fun vs H Q _ => ∃ (q : Addr) (ss : List (Str × Str)) (z : Str), vs = [.str z, .ref q] ∧ StepsAt H q ss ∧ RightS ss ∧ Lt.Wd 40 z ∧ ∀ (r : V) H', Same H H' → SpotsR H H' z ss r → Q r H'
/-- what a rule for a book and a word is -/
def RuleO (ws : List Str) (z : Str) (o : Option (List (Option (Str × Str)))) : Prop := ∃ ss : List (Str × Str), o = some (ss.map some) ∧ RightS ss ∧ (∀ s ∈ ss, s.2 ∈ ws) ∧ goTo z ss = some ((z.length : Nat) : Int)
def sp_is_rule (K : PySem.W.Frag) (C : Addr) : Sp := fun vs H Q _ => ∃ (b : Addr) (x : V) (ws : List Str) (z : Str) (o : Option (List (Option (Str × Str)))), vs = [.ref b, .str z, x] ∧ BookAt C H b ws ∧ Watches ws ∧ Lt.Wd 40 z ∧ RT K H x o ∧ ∀ (c : Bool) H', (c = true ↔ RuleO ws z o) → Same H H' → Q (.bl c) H'
theorem elts_steps {H : Hp} {xs : List V} {os : List (Option (Str × Str))} (h : Elts K H xs os) (a : ∀ o ∈ os, o.isSome = true) : ∃ (ss : List (Str × Str)) (rs : List Addr), os = ss.map some ∧ xs = rs.map V.ref ∧ rs.length = ss.length ∧ (∀ (i : Nat) (r : Addr) (s : Str × Str), rs[i]? = some r → ss[i]? = some s → H r = some (.tup [.str s.1, .str s.2])) ∧ ∀ s ∈ ss, StepOk s := by
  obtain ⟨l, h⟩ := h
  induction os generalizing xs with
  | nil =>
    cases xs with
    | nil => exact ⟨[], [], rfl, rfl, rfl, fun i r s e => by simp at e, fun s m => nomatch m⟩
    | cons x xs => simp at l
  | cons o os ih =>
    cases xs with
    | nil => simp at l
    | cons x xs =>
      obtain ⟨ss, rs, e1, e2, e3, e4, e5⟩ := ih (fun o m => a o (List.mem_cons_of_mem _ m)) (by simpa using l) fun i x o e1 e2 => h (i + 1) x o (by simpa using e1) (by simpa using e2)
      have he := h 0 x o rfl rfl
      have so := a o (List.mem_cons_self ..)
      cases he with
      | no _ => cases so
      | @step r s g ok =>
        refine ⟨s :: ss, r :: rs, by rw [e1]; rfl, by rw [e2]; rfl, by simp [e3], fun i r' s' q1 q2 => ?_, fun s' m => ?_⟩
        · cases i with
          | zero => cases q1; cases q2; exact g
          | succ i => exact e4 i r' s' (by simpa using q1) (by simpa using q2)
        · rcases List.mem_cons.mp m with rfl | m
          · exact ok
          · exact e5 _ m
theorem RT.steps {H : Hp} {x : V} {o : Option (List (Option (Str × Str)))} (h : RT K H x o) (a : AreO o) : ∃ (q : Addr) (ss : List (Str × Str)), x = .ref q ∧ o = some (ss.map some) ∧ StepsAt H q ss ∧ RightS ss := by
  obtain ⟨os, rfl, S⟩ := a
  cases h with
  | @tup a xs os h l e =>
    obtain ⟨ss, rs, rfl, rfl, e3, e4, e5⟩ := elts_steps e S.all
    have hl := S.l1
    have h80 := S.l80
    obtain ⟨y0, f0⟩ := S.first
    obtain ⟨y1, f1⟩ := S.last
    rw [List.length_map] at hl h80
    rw [List.getElem?_map] at f0
    rw [List.length_map, List.getElem?_map] at f1
    refine ⟨a, ss, rfl, rfl, ⟨rs, h, e3, e4⟩, hl, h80, e5, ⟨y0, ?_⟩, ⟨y1, ?_⟩⟩
    · cases e : ss[0]? with
      | none => rw [e] at f0; cases f0
      | some s => rw [e] at f0; exact Option.some.inj f0
    · cases e : ss[ss.length - 1]? with
      | none => rw [e] at f1; cases f1
      | some s => rw [e] at f1; exact Option.some.inj f1
theorem ok_check_steps (T : Txt w K mg) : FnOk P w K mg base CX0 5 T.f_check_steps T.fd_check_steps ["rule"] (sp_check_steps K) := by
  refine T.F_check_steps.ok sc_check_steps (fun vs H Q E h => ?_) (fun cdv A outer s H vs Q E hr h => ?_)
  · obtain ⟨q, ss, rfl, _⟩ := h
    rfl
  · obtain ⟨q, ss, rfl, hs, ro, k⟩ := h
    refine ⟨_, (pss_cons (ps_if (pt_not (pt_val (pe_call (ok_are_steps T) (hr.mono (by decide)) rfl T.g_are_steps T.F_are_steps.kp T.b_are_steps .nil pass0 (pa_cons (pv 0) pa_nil))))
  (pss_one ps_never)
  pss_nil)
  (pss_one (ps_ret (pv 0)))), ?_⟩
    walk_at "rd"
    have l80 := ro.l80
    refine ⟨_, _, rfl, hs.elts (by omega) ro.ok, fun b H1 hb s1 => ?_⟩
    rw [hb.mpr ro.are]
    walk_at "rd"
    exact k _ s1
theorem ok_spots_of (T : Txt w K mg) : FnOk P w K mg base CX0 1 T.f_spots_of T.fd_spots_of ["word", "steps"] (sp_spots_of K) := by
  refine T.F_spots_of.ok sc_spots_of (fun vs H Q E h => ?_) (fun cdv A outer s H vs Q E hr h => ?_)
  · obtain ⟨q, ss, z, rfl, _⟩ := h
    rfl
  · obtain ⟨q, ss, z, rfl, hs, ok, l80, hz, k⟩ := h
    refine ⟨_, (pss_cons (ps_set (i := 2) sc_spots_of.nd rfl (.inl rfl) (pe_lst (pa_cons pe_int pa_nil)))
  (pss_cons (ps_for PassesOwn.never rfl (pi_tup (pv 1)) (pg_tup rfl (pgs_cons (pg_name (i := 3) sc_spots_of.nd rfl (.inl rfl)) (pgs_cons (pg_name (i := 4) sc_spots_of.nd rfl (.inl rfl)) pgs_nil)))
  (pss_cons (ps_set (i := 5) sc_spots_of.nd rfl (.inl rfl) (pe_ix (r := rIxL K) ix_list (pv 2) (pe_un un_neg pe_int) (fun _ _ => rfl)))
  (pss_cons (ps_set (i := 6) sc_spots_of.nd rfl (.inl rfl) (pe_ifExp (pt_cmpR op_eq (pv 3) pe_str (nomark _)) (pe_op op_add (pv 5) (pe_callB (id := "len") (r := _) Rd.c_lenS (by rfl) T.n_len (by decide +kernel) (pa_cons (pv 4) pa_nil))) (pe_op op_sub (pv 5) (pe_callB (id := "len") (r := _) Rd.c_lenS (by rfl) T.n_len (by decide +kernel) (pa_cons (pv 4) pa_nil)))))
  (pss_cons (ps_if (PW.pt (pw_or (pt_cmpR op_lt (pv 6) pe_int (nomark _)) (pw_or1 (pt_cmpR op_ne (pe_slice sl_str (pv 0) (po_some (pe_callB (id := "min") (r := _) (Rd.c_min2 rfl) (by rfl) T.n_min (by decide +kernel) (pa_cons (pv 5) (pa_cons (pv 6) pa_nil)))) (po_some (pe_callB (id := "max") (r := _) (Rd.c_max2 rfl) (by rfl) T.n_max (by decide +kernel) (pa_cons (pv 5) (pa_cons (pv 6) pa_nil))))) (pv 4) (nomark _)))))
  (pss_one (ps_ret pe_non))
  pss_nil)
  (pss_one (ps_expr (pe_bm PySem.F.plainAttrs_list PySem.F.slot_list_append PySem.F.type_list_append mt_append (pv 2) (pa_cons (pv 6) pa_nil))))))))
  (pss_one (ps_ret (pe_ifExp (pt_cmpR op_eq (pe_ix (r := rIxL K) ix_list (pv 2) (pe_un un_neg pe_int) (fun _ _ => rfl)) (pe_callB (id := "len") (r := _) Rd.c_lenS (by rfl) T.n_len (by decide +kernel) (pa_cons (pv 0) pa_nil)) (nomark _)) (pe_callTy (T := "tuple") (r := Rd.nTupOf K) Rd.c_tupOf (by rfl) T.n_tuple (by decide +kernel) (pa_cons (pv 2) pa_nil)) pe_non))))), ?_⟩
    have zl : z.length ≤ sizeLine := by rw [sizeLine_eq]; omega
    obtain ⟨rs, hrs, rl, hR⟩ := hs.row
    walk_at "rd"
    refine ⟨Nat.le_of_ble_eq_true rfl, Rd.new fun l G nl gl sG => ?_⟩
    walk_at "rd"
    refine Rd.forS ?_
    walk_at "rd"
    refine ⟨⟨_, .of (sG _ _ hrs)⟩, for_tup (K := K) (a := q) (xs := rs.map V.ref) (fun i σ H' => ∃ (o3 o4 o5 o6 : Option V) (P : List Int), σ = [some (.str z), some (.ref q), some (.ref l), o3, o4, o5, o6] ∧ Same H H' ∧ H' l = some (.lst (P.map V.int)) ∧ Along z ss i P)
      ⟨_, _, _, _, [0], rfl, sG, gl, Along.zero z ss⟩ (fun i σ H' _ ⟨_, _, _, _, _, _, s, _⟩ => .of (s _ _ hrs)) ?_ ?_⟩
    · rintro i x _ H1 hx ⟨o3, o4, o5, o6, P, rfl, s1, gl1, al⟩
      obtain ⟨r, hri, rfl⟩ := Rd.map_refG hx
      have ri := (List.getElem?_eq_some_iff.mp hri).1
      obtain ⟨st, hst, gr⟩ := hR i r hri
      have so := ok st (List.mem_of_getElem? hst)
      have gr1 := s1 _ _ gr
      obtain ⟨p, hp, gp⟩ := al.last
      have wl : st.2.length ≤ sizeLine := so.2.line (by decide)
      have hL : atI (P.map V.int) (-1) = some (.int p) := last_at (by rw [List.length_map, al.1, Nat.add_sub_cancel, List.getElem?_map, hp]; rfl)
      have ll : (P.map V.int).length < sizeLine := by rw [List.length_map, al.1, sizeLine_eq]; omega
      have done : ∀ (o : Int) (w1 w2 : Option V) (H' : Hp), goAt z p st = some o → H' l = some (.lst (P.map V.int ++ [.int o])) → (∀ c, c ≠ l → H' c = H1 c) → ∃ (o3 o4 o5 o6 : Option V) (P : List Int), [some (V.str z), some (V.ref q), some (V.ref l), w1, w2, some (V.int p), some (V.int o)] = [some (.str z), some (.ref q), some (.ref l), o3, o4, o5, o6] ∧ Same H H' ∧ H' l = some (.lst (P.map V.int)) ∧ Along z ss (i + 1) P := fun o w1 w2 H' ho g off => by
        refine ⟨_, _, _, _, P ++ [o], rfl, Rd.same_off s1 nl off, ?_, al.snoc hst gp ho⟩
        rw [List.map_append]
        exact g
      have stop : goAt z p st = none → goTo z ss ≠ some ((z.length : Nat) : Int) := fun h => by
        rw [go_stop hst gp h]
        exact fun e => nomatch e
      refine Rd.tupT (.of gr1) rfl ?_
      walk_at "rd"
      refine Rd.ixL (.of gl1) hL ?_
      walk_at "rd"
      unfold goAt at done stop
      by_cases c : st.1 = ("on" : Str)
      · rw [if_pos c] at done stop
        refine Rd.yes c ?_
        walk_at "rd"
        refine Rd.lenStr wl ?_
        walk_at "rd"
        by_cases c2 : p + ((st.2.length : Nat) : Int) < 0
        · refine Rd.yes c2 ?_
          walk_at "rd"
          exact k _ _ s1 (.inl ⟨rfl, stop (if_pos (.inl c2))⟩)
        · refine Rd.no c2 ?_
          walk_at "rd"
          refine Rd.slS zl ?_
          walk_at "rd"
          by_cases c3 : cutS z (some (min p (p + ((st.2.length : Nat) : Int)))) (some (max p (p + ((st.2.length : Nat) : Int)))) = st.2
          · refine Rd.yes c3 ?_
            walk_at "rd"
            refine Rd.tyL (.of gl1) ?_
            walk_at "rd"
            exact Rd.app gl1 ll fun G4 g4 off4 => done _ _ _ _ (if_neg (by rintro (h | h); exact c2 h; exact h c3)) g4 off4
          · refine Rd.no c3 ?_
            walk_at "rd"
            exact k _ _ s1 (.inl ⟨rfl, stop (if_pos (.inr c3))⟩)
      · rw [if_neg c] at done stop
        refine Rd.no c ?_
        walk_at "rd"
        refine Rd.lenStr wl ?_
        walk_at "rd"
        by_cases c2 : p - ((st.2.length : Nat) : Int) < 0
        · refine Rd.yes c2 ?_
          walk_at "rd"
          exact k _ _ s1 (.inl ⟨rfl, stop (if_pos (.inl c2))⟩)
        · refine Rd.no c2 ?_
          walk_at "rd"
          refine Rd.slS zl ?_
          walk_at "rd"
          by_cases c3 : cutS z (some (min p (p - ((st.2.length : Nat) : Int)))) (some (max p (p - ((st.2.length : Nat) : Int)))) = st.2
          · refine Rd.yes c3 ?_
            walk_at "rd"
            refine Rd.tyL (.of gl1) ?_
            walk_at "rd"
            exact Rd.app gl1 ll fun G4 g4 off4 => done _ _ _ _ (if_neg (by rintro (h | h); exact c2 h; exact h c3)) g4 off4
          · refine Rd.no c3 ?_
            walk_at "rd"
            exact k _ _ s1 (.inl ⟨rfl, stop (if_pos (.inr c3))⟩)
    · rintro _ H1 ⟨o3, o4, o5, o6, P, rfl, s1, gl1, al⟩
      rw [List.length_map, rl] at al
      obtain ⟨p, hp, gp⟩ := al.last
      rw [List.take_length] at gp
      walk_at "rd"
      refine Rd.ixL (.of gl1) (last_at (by rw [List.length_map, al.1, Nat.add_sub_cancel, List.getElem?_map, hp]; rfl)) ?_
      walk_at "rd"
      refine Rd.lenStr zl ?_
      walk_at "rd"
      by_cases c : p = ((z.length : Nat) : Int)
      · refine Rd.yes c ?_
        walk_at "rd"
        refine Rd.tupOf (.of gl1) (Rd.new fun t G2 np gt s2 => ?_)
        exact k _ _ (s1.trans s2) (.inr ⟨t, P, rfl, s1.free np, gt, al, by rw [gp, c]⟩)
      · refine Rd.no c ?_
        walk_at "rd"
        exact k _ _ s1 (.inl ⟨rfl, fun e => c (by rw [gp] at e; exact Option.some.inj e)⟩)
theorem ok_followed (T : Txt w K mg) : FnOk P w K mg base CX0 6 T.f_followed T.fd_followed ["word", "rule"] (sp_followed K) := by
  refine T.F_followed.ok sc_followed (fun vs H Q E h => ?_) (fun cdv A outer s H vs Q E hr h => ?_)
  · obtain ⟨q, ss, z, rfl, _⟩ := h
    rfl
  · obtain ⟨q, ss, z, rfl, hs, ro, hz, k⟩ := h
    refine ⟨_, (pss_cons (ps_expr (pe_call (ok_check_word T) (hr.mono (by decide)) rfl T.g_check_word T.F_check_word.kp T.b_check_word .nil pass0 (pa_cons (pv 0) pa_nil)))
  (pss_cons (ps_expr (pe_call (ok_check_steps T) (hr.mono (by decide)) rfl T.g_check_steps T.F_check_steps.kp T.b_check_steps .nil pass0 (pa_cons (pv 1) pa_nil)))
  (pss_one (ps_ret (pe_call (ok_spots_of T) (hr.mono (by decide)) rfl T.g_spots_of T.F_spots_of.kp T.b_spots_of .nil pass0 (pa_cons (pv 0) (pa_cons (pv 1) pa_nil))))))), ?_⟩
    have z1 := hz.l1
    walk_at "rd"
    refine ⟨z, rfl, hz, fun H1 s1 => ?_⟩
    walk_at "rd"
    refine ⟨q, _, rfl, hs.same s1, ro, fun H2 s2 => ?_⟩
    walk_at "rd"
    have s12 := s1.trans s2
    refine ⟨q, ss, z, rfl, hs.same s12, ro.ok, ro.l80, by omega, fun r H3 s3 sr => k _ _ (s12.trans s3) ?_⟩
    exact sr.imp id fun ⟨p, P, e, np, r⟩ => ⟨p, P, e, s12.free np, r⟩
end
end W

namespace W
open PySem PySem.Spec PyProof.Rows L2
section
variable {P : Program} {w : World} {K : PySem.W.Frag} {mg : Str → Option Value} {base : Heap}
/-! ### words and watches drawn, the second way -/
theorem but_off {t l : Addr} {H H1 G : Hp} (b : Rd.But t H H1) (n : H l = none) (off : ∀ q, q ≠ l → G q = H1 q) : Rd.But t H G := fun q o h e => by rw [off q (ne_of_none e n)]; exact b q o h e
/-- a comprehension that draws -/
def LcStT (t c D : Addr) (H1 : Hp) (R : Nat → List V → Hp → Prop) : Nat → Hp → Prop := fun i H => ∃ acc, H D = some (.lst acc) ∧ Tape H t c ∧ Rd.But t H1 H ∧ R i acc H
def LcPuT (t c D : Addr) (H1 : Hp) (R : Nat → List V → Hp → Prop) (i : Nat) (y : V) (H4 : Hp) : Prop := ∃ acc, H4 D = some (.lst acc) ∧ acc.length < sizeLine ∧ LcStT t c D H1 R (i + 1) (upd H4 D (.lst (acc ++ [y])))
theorem lcPuT {t c D : Addr} {H1 H4 : Hp} {R : Nat → List V → Hp → Prop} {i : Nat} {y : V} {acc : List V} (hD : H4 D = some (.lst acc)) (nD : H1 D = none) (tp1 : Tape H1 t c) (tp : Tape H4 t c) (b : Rd.But t H1 H4) (hz : acc.length < sizeLine) (r : ∀ G : Hp, G D = some (.lst (acc ++ [y])) → (∀ b, b ≠ D → G b = H4 b) → R (i + 1) (acc ++ [y]) G) : LcPuT t c D H1 R i y H4 :=
  have ⟨dt, dc⟩ := tp1.new nD
  ⟨acc, hD, hz, acc ++ [y], upd_same, tp.off dt dc fun q h => upd_ne h, but_off b nD fun q h => upd_ne h, r _ upd_same fun b hb => upd_ne hb⟩
theorem lcT {J : It} {n : Nat} {G : Hp → Prop} {Y : Nat → Hp → V → Hp → Prop} (w : Walk J n G Y) {g : TG} {tt : TT} {te : TE} {vs : List Nat} {σ : L2.St} {H1 : Hp} {Q : VK} {t c : Addr} (tp : Tape H1 t c) (hG : ∀ H, Rd.But t H1 H → G H) (R : Addr → Nat → List V → Hp → Prop)
    (r0 : ∀ (D : Addr) (G : Hp), H1 D = none → G D = some (.lst []) → Same H1 G → R D 0 [] G)
    (hs : ∀ (D : Addr) i x H H' acc, H1 D = none → i < n → H D = some (.lst acc) → Tape H t c → Rd.But t H1 H → R D i acc H → Y i H x H' → g x (wipe σ vs) H' fun σ2 H2 => wipe σ2 vs = wipe σ vs ∧ tt σ2 H2 fun b H3 =>
      if b = true then te σ2 H3 fun y H4 => LcPuT t c D H1 (R D) i y H4 else LcStT t c D H1 (R D) (i + 1) H3)
    (hd : ∀ (D : Addr) acc H, H1 D = none → H D = some (.lst acc) → Tape H t c → Rd.But t H1 H → R D n acc H → Q (.ref D) H) : Rd.Lc J g tt te vs σ H1 Q := fun D nD =>
  lc_it w (LcStT t c D H1 (R D)) ⟨[], upd_same, tp.same (Rd.same_upd nD), Rd.But.of (Rd.same_upd nD), r0 D _ nD upd_same (Rd.same_upd nD)⟩ (fun i H hi ⟨acc, h1, h2, h3, h4⟩ => hG H h3)
    (fun i x H H' hi ⟨acc, h1, h2, h3, h4⟩ y => hs D i x H H' acc nD hi h1 h2 h3 h4 y) (fun H ⟨acc, h1, h2, h3, h4⟩ => hd D acc H nD h1 h2 h3 h4)
/-- single letters -/
def Ones (ys : List Str) : Prop := ∀ y ∈ ys, Lt.Let y ∧ y.length = 1
theorem Ones.nil : Ones [] := fun _ h => by simp at h
theorem Ones.snoc {ys : List Str} {c : Nat} (h : Ones ys) (hc : c ∈ Lt.Abc.cps.toList) : Ones (ys ++ [⟨#[c]⟩]) := fun y hy => by
  rcases List.mem_append.mp hy with q | q
  · exact h y q
  · simp at q
    subst q
    exact ⟨Lt.Let.one hc, rfl⟩
theorem Ones.snoc' {ys : List Str} {z : Str} (h : Ones ys) (hz : Lt.Let z ∧ z.length = 1) : Ones (ys ++ [z]) := fun y hy => by
  rcases List.mem_append.mp hy with q | q
  · exact h y q
  · simp at q
    subst q
    exact hz
theorem abc_get {i : Int} (h0 : 0 ≤ i) (h1 : i < 26) : ∃ c, atI Lt.Abc.cps.toList i = some c ∧ c ∈ Lt.Abc.cps.toList := by
  have l : Lt.Abc.cps.toList.length = 26 := by decide +kernel
  have hi : i.toNat < Lt.Abc.cps.toList.length := by omega
  exact ⟨_, Rd.atI_of h0 (List.getElem?_eq_getElem hi), List.getElem_mem hi⟩
theorem abc_nd2 : Lt.Abc.cps.toList.Nodup := by decide +kernel
theorem abc_at2 {i : Int} (h0 : 0 ≤ i) (h1 : i < 26) : ∃ c, Lt.Abc.cps.toList[i.toNat]? = some c ∧ c ∈ Lt.Abc.cps.toList := by
  have l : Lt.Abc.cps.toList.length = 26 := by decide +kernel
  have hi : i.toNat < Lt.Abc.cps.toList.length := by omega
  exact ⟨_, List.getElem?_eq_getElem hi, List.getElem_mem hi⟩
theorem abc_inj2 {a b : Int} {c : Nat} (a0 : 0 ≤ a) (b0 : 0 ≤ b) (ha : Lt.Abc.cps.toList[a.toNat]? = some c) (hb : Lt.Abc.cps.toList[b.toNat]? = some c) : a = b := by
  have go : ∀ {m n : Nat}, Lt.Abc.cps.toList[m]? = some c → Lt.Abc.cps.toList[n]? = some c → ¬ m < n := fun {m n} h1 h2 lt => Rd.nodup_take abc_nd2 h2 (List.mem_of_getElem? (by rw [List.getElem?_take, if_pos lt]; exact h1))
  have h1 := go ha hb
  have h2 := go hb ha
  omega
theorem let_get {z : Str} (h : Lt.Let z) {i : Int} (h0 : 0 ≤ i) (h1 : i < z.length) : ∃ c, atI z.cps.toList i = some c ∧ c ∈ Lt.Abc.cps.toList := by
  have hi : i.toNat < z.cps.toList.length := by rw [Array.length_toList]; unfold Str.length at h1; omega
  exact ⟨_, Rd.atI_of h0 (List.getElem?_eq_getElem hi), h _ (List.getElem_mem hi)⟩
def sp_l_letters (K : PySem.W.Frag) : Sp := fun vs H Q _ => ∃ (t c : Addr) (m : Int), vs = [.ref t, .int m] ∧ Tape H t c ∧ 0 ≤ m ∧ m ≤ 1000 ∧ ∀ (l : Addr) (ys : List Str) H', Tape H' t c → Rd.But t H H' → H l = none → H' l = some (.lst (ys.map V.str)) → (ys.length : Int) = m → Ones ys → (m ≤ 26 → ys.Nodup) → Q (.ref l) H'
def sp_l_word (K : PySem.W.Frag) : Sp := fun vs H Q _ => ∃ (t c : Addr) (m : Int), vs = [.ref t, .int m] ∧ Tape H t c ∧ 1 ≤ m ∧ m ≤ 1000 ∧ ∀ (z : Str) H', Lt.Wd m z → Tape H' t c → Rd.But t H H' → Q (.str z) H'
def sp_l_watch (K : PySem.W.Frag) : Sp := fun vs H Q _ => ∃ (t c : Addr) (z : Str) (m : Int), vs = [.ref t, .str z, .int m] ∧ Tape H t c ∧ Lt.Wd 1000 z ∧ 1 ≤ m ∧ m ≤ 1000 ∧ ∀ (y : Str) H', Lt.Wd m y → Tape H' t c → Rd.But t H H' → Q (.str y) H'
def sp_l_watches (K : PySem.W.Frag) : Sp := fun vs H Q _ => ∃ (t c : Addr) (z : Str) (many most : Int), vs = [.ref t, .str z, .int many, .int most] ∧ Tape H t c ∧ Lt.Wd 1000 z ∧ 0 ≤ many ∧ many ≤ 12 ∧ 1 ≤ most ∧ most ≤ 12 ∧ ∀ (l : Addr) (ws : List Str) H', Tape H' t c → Rd.But t H H' → H l = none → H' l = some (.lst (ws.map V.str)) → ws.Nodup → (ws.length : Int) ≤ many → (∀ y ∈ ws, Lt.Wd most y) → (1 ≤ many → ws ≠ []) → Q (.ref l) H'
def sp_l_mixed (K : PySem.W.Frag) : Sp := fun vs H Q _ => ∃ (t c a : Addr) (ws : List Str), vs = [.ref t, .ref a] ∧ Tape H t c ∧ a ≠ t ∧ SqL K H a (ws.map V.str) ∧ ws.length ≤ 1000 ∧ ∀ (l : Addr) (us : List Str) H', Tape H' t c → Rd.But t H H' → H l = none → H' l = some (.lst (us.map V.str)) → us.Perm ws → Q (.ref l) H'
theorem ok_l_letters (T : Txt w K mg) : FnOk P w K mg base CX0 2 T.f_l_letters T.fd_l_letters ["_law_tape_here", "_law_many"] (sp_l_letters K) := by
  refine T.F_l_letters.ok sc_l_letters (fun vs H Q E h => ?_) (fun cdv A outer s H vs Q E hr h => ?_)
  · obtain ⟨t, c, m, rfl, _⟩ := h
    rfl
  · obtain ⟨t, c, m, rfl, tp, m0, m1, k⟩ := h
    refine ⟨_, (pss_cons (ps_set (i := 2) sc_l_letters.nd rfl (.inr rfl) (pe_call (ok_l_pick T) (hr.mono (by decide)) rfl T.g_l_pick T.F_l_pick.kp T.b_l_pick .nil pass0 (pa_cons (pv 0) (pa_cons pe_int pa_nil))))
  (pss_cons (ps_set (i := 3) sc_l_letters.nd rfl (.inr rfl) (pe_ix (r := rIxL K) ix_list (pe_lst (pa_cons pe_int (pa_cons pe_int (pa_cons pe_int (pa_cons pe_int (pa_cons pe_int (pa_cons pe_int pa_nil))))))) (pe_call (ok_l_pick T) (hr.mono (by decide)) rfl T.g_l_pick T.F_l_pick.kp T.b_l_pick .nil pass0 (pa_cons (pv 0) (pa_cons pe_int pa_nil))) (fun _ _ => rfl)))
  (pss_one (ps_ret (pe_lc (own := [("_law_k", 4)]) (g := gName 4) (tt := tYes) rfl sc_l_letters.nd (pi_range1 rfl T.n_range (pa_cons (pv 1) pa_nil)) (blkOk_by (own := [("_law_k", 4)]) (N := ["_law_tape_here", "_law_many", "_law_start", "_law_step", "_law_k"]) (sc := defScope s_l_letters) (by decide +kernel)) (fun _ _ _ _ _ => (pg_name (i := 4) sc_l_letters.nd rfl (.inl rfl))) (fun _ _ _ _ _ => pts_nil) (fun _ _ _ _ _ => (pe_ix ix_str pe_str (pe_op op_mod (pe_callTy (T := "int") (r := _) Rd.c_int (by rfl) T.n_int (by decide +kernel) (pa_cons (pe_op op_add (pv 2) (pe_op op_mul (pv 3) (pv 4))) pa_nil)) pe_int) (fun _ _ => rfl)))))))), ?_⟩
    walk_at "rd"
    refine pickR tp (by decide) (by decide) fun st H1 st0 st1 tp1 b1 => ?_
    walk_at "rd"
    refine ⟨Nat.le_of_ble_eq_true rfl, Rd.new fun p G2 np gp s2 => ?_⟩
    walk_at "rd"
    refine pickR (tp1.same s2) (by decide) (by decide) fun sp H3 sp0 sp1 tp3 b3 => ?_
    have pt : p ≠ t := (tp1.new np).1
    obtain ⟨step, hm, q0⟩ : ∃ m, [V.int 1, .int 3, .int 5, .int 7, .int 9, .int 11][sp.toNat]? = some (.int m) ∧ (m = 1 ∨ m = 3 ∨ m = 5 ∨ m = 7 ∨ m = 9 ∨ m = 11) := by
      have : sp.toNat = 0 ∨ sp.toNat = 1 ∨ sp.toNat = 2 ∨ sp.toNat = 3 ∨ sp.toNat = 4 ∨ sp.toNat = 5 := by omega
      rcases this with e | e | e | e | e | e <;> rw [e] <;> exact ⟨_, rfl, by decide⟩
    refine Rd.ixL (.of (b3 p _ pt gp)) (Rd.atI_of sp0 hm) ?_
    walk_at "rd"
    refine ⟨by omega, by omega, ?_⟩
    refine Rd.lcS walk_range (fun _ _ => trivial) (fun D i acc _ => ∃ ys : List Str, acc = ys.map V.str ∧ ys.length = i ∧ Ones ys ∧ ∀ (j : Nat) (y : Str), ys[j]? = some y → ∃ c, y = (⟨#[c]⟩ : Str) ∧ Lt.Abc.cps.toList[((st + step * (0 + (j : Int))) % 26).toNat]? = some c) (fun _ _ _ _ _ => ⟨[], rfl, rfl, Ones.nil, fun j y h => by simp at h⟩) ?_ ?_
    · rintro D i x G _ acc nD hi hD sm ⟨ys, rfl, yl, hy, ya⟩ ⟨rfl, rfl⟩
      walk_at "rd"
      refine ⟨rfl, ?_⟩
      walk_at "rd"
      refine Rd.iC (.inl ⟨by omega, by omega⟩) ?_
      walk_at "rd"
      refine Rd.iC (by decide) ?_
      have e0 : 0 ≤ (st + step * (0 + (i : Int))) % 26 := Int.emod_nonneg _ (by decide)
      have e1 : (st + step * (0 + (i : Int))) % 26 < 26 := Int.emod_lt_of_pos _ (by decide)
      obtain ⟨ch, e, hc⟩ := abc_at2 e0 e1
      refine Rd.ixS (by decide +kernel) (Rd.atI_of e0 e) ?_
      refine Rd.lcPush hD nD sm (by rw [List.length_map, yl, sizeLine_eq]; omega) fun G2 g2 off2 => ?_
      refine ⟨ys ++ [⟨#[ch]⟩], by rw [List.map_append]; rfl, by rw [List.length_append, yl]; rfl, hy.snoc hc, fun j y h => ?_⟩
      rcases Nat.lt_or_ge j ys.length with c | c
      · rw [List.getElem?_append_left c] at h
        exact ya j y h
      · rw [List.getElem?_append_right c] at h
        have : j = i := by
          have := (List.getElem?_eq_some_iff.mp h).1
          rw [List.length_singleton] at this
          omega
        subst this
        rw [yl, Nat.sub_self] at h
        exact ⟨ch, (Option.some.inj h).symm, e⟩
    · rintro D acc G nD hD sm ⟨ys, rfl, yl, hy, ya⟩
      have nD0 := b3.free (tp3.new nD).1 nD
      have nD1 := s2.free nD0
      refine k D ys G (tp3.same sm) (((b1.same s2).trans b3).same sm) (b1.free (tp1.new nD1).1 nD1) hD (by omega) hy fun few => ?_
      rw [List.nodup_iff_pairwise_ne, List.pairwise_iff_getElem]
      intro i j hi hj lt e
      obtain ⟨c, ec, ac⟩ := ya i _ (List.getElem?_eq_getElem hi)
      obtain ⟨d, ed, ad⟩ := ya j _ (List.getElem?_eq_getElem hj)
      have cd : c = d := by
        have := (ec.symm.trans e).trans ed
        have := congrArg (fun z : Str => z.cps.toList) this
        exact (List.cons.inj this).1
      subst cd
      have f0 := Int.emod_nonneg (st + step * (0 + (i : Int))) (show (26 : Int) ≠ 0 by decide)
      have g0 := Int.emod_nonneg (st + step * (0 + (j : Int))) (show (26 : Int) ≠ 0 by decide)
      have same := abc_inj2 f0 g0 ac ad
      rcases q0 with rfl | rfl | rfl | rfl | rfl | rfl <;> omega
theorem ok_l_word (T : Txt w K mg) : FnOk P w K mg base CX0 3 T.f_l_word T.fd_l_word ["_law_tape_here", "_law_most"] (sp_l_word K) := by
  refine T.F_l_word.ok sc_l_word (fun vs H Q E h => ?_) (fun cdv A outer s H vs Q E hr h => ?_)
  · obtain ⟨t, c, m, rfl, _⟩ := h
    rfl
  · obtain ⟨t, c, m, rfl, tp, m0, m1, k⟩ := h
    refine ⟨_, (pss_cons (ps_set (i := 2) sc_l_word.nd rfl (.inl rfl) (pe_op op_add pe_int (pe_call (ok_l_pick T) (hr.mono (by decide)) rfl T.g_l_pick T.F_l_pick.kp T.b_l_pick .nil pass0 (pa_cons (pv 0) (pa_cons (pv 1) pa_nil)))))
  (pss_cons (ps_set (i := 3) sc_l_word.nd rfl (.inl rfl) (pe_call (ok_l_pick T) (hr.mono (by decide)) rfl T.g_l_pick T.F_l_pick.kp T.b_l_pick .nil pass0 (pa_cons (pv 0) (pa_cons pe_int pa_nil))))
  (pss_cons (ps_set (i := 4) sc_l_word.nd rfl (.inr rfl) (pe_call (ok_l_letters T) (hr.mono (by decide)) rfl T.g_l_letters T.F_l_letters.kp T.b_l_letters .nil pass0 (pa_cons (pv 0) (pa_cons (pe_op op_add pe_int (pe_callB (id := "min") (r := _) (Rd.c_min2 rfl) (by rfl) T.n_min (by decide +kernel) (pa_cons (pv 3) (pa_cons pe_int pa_nil)))) pa_nil))))
  (pss_cons (ps_if (pt_cmpR op_eq (pv 3) pe_int (nomark _))
  (pss_cons (ps_set (i := 5) sc_l_word.nd rfl (.inr rfl) (pe_lc (own := [("_law_k", 6)]) (g := gName 6) (tt := tYes) rfl sc_l_word.nd (pi_range1 rfl T.n_range (pa_cons (pe_op op_add pe_int (pe_call (ok_l_pick T) (hr.mono (by decide)) rfl T.g_l_pick T.F_l_pick.kp T.b_l_pick .nil pass0 (pa_cons (pv 0) (pa_cons pe_int pa_nil)))) pa_nil)) (blkOk_by (own := [("_law_k", 6)]) (N := ["_law_tape_here", "_law_most", "_law_size", "_law_kind", "_law_letters_here", "_law_part", "_law_k"]) (sc := defScope s_l_word) (by decide +kernel)) (fun _ _ _ _ _ => (pg_name (i := 6) sc_l_word.nd rfl (.inl rfl))) (fun _ _ _ _ _ => pts_nil) (fun _ _ _ _ _ => (pe_ix (r := rIxL K) ix_list (pv 4) (pe_call (ok_l_pick T) (hr.mono (by decide)) rfl T.g_l_pick T.F_l_pick.kp T.b_l_pick .nil pass0 (pa_cons (pv 0) (pa_cons pe_int pa_nil))) (fun _ _ => rfl)))))
  (pss_one (ps_ret (pe_join pe_str (pe_lc (own := [("_law_k", 6)]) (g := gName 6) (tt := tYes) rfl sc_l_word.nd (pi_range1 rfl T.n_range (pa_cons (pv 2) pa_nil)) (blkOk_by (own := [("_law_k", 6)]) (N := ["_law_tape_here", "_law_most", "_law_size", "_law_kind", "_law_letters_here", "_law_part", "_law_k"]) (sc := defScope s_l_word) (by decide +kernel)) (fun _ _ _ _ _ => (pg_name (i := 6) sc_l_word.nd rfl (.inl rfl))) (fun _ _ _ _ _ => pts_nil) (fun _ _ _ _ _ => (pe_ix (r := rIxL K) ix_list (pv 5) (pe_op op_mod (pe_callTy (T := "int") (r := _) Rd.c_int (by rfl) T.n_int (by decide +kernel) (pa_cons (pv 6) pa_nil)) (pe_callB (id := "len") (r := Rd.nLen K) Rd.c_len (by rfl) T.n_len (by decide +kernel) (pa_cons (pv 5) pa_nil))) (fun _ _ => rfl))))))))
  pss_nil)
  (pss_one (ps_ret (pe_join pe_str (pe_lc (own := [("_law_k", 6)]) (g := gName 6) (tt := tYes) rfl sc_l_word.nd (pi_range1 rfl T.n_range (pa_cons (pv 2) pa_nil)) (blkOk_by (own := [("_law_k", 6)]) (N := ["_law_tape_here", "_law_most", "_law_size", "_law_kind", "_law_letters_here", "_law_part", "_law_k"]) (sc := defScope s_l_word) (by decide +kernel)) (fun _ _ _ _ _ => (pg_name (i := 6) sc_l_word.nd rfl (.inl rfl))) (fun _ _ _ _ _ => pts_nil) (fun _ _ _ _ _ => (pe_ix (r := rIxL K) ix_list (pv 4) (pe_call (ok_l_pick T) (hr.mono (by decide)) rfl T.g_l_pick T.F_l_pick.kp T.b_l_pick .nil pass0 (pa_cons (pv 0) (pa_cons (pe_callB (id := "len") (r := Rd.nLen K) Rd.c_len (by rfl) T.n_len (by decide +kernel) (pa_cons (pv 4) pa_nil)) pa_nil))) (fun _ _ => rfl))))))))))), ?_⟩
    walk_at "rd"
    refine pickR tp (by omega) (by omega) fun sz H1 sz0 sz1 tp1 b1 => ?_
    walk_at "rd"
    refine pickR tp1 (by decide) (by decide) fun kd H2 k0 k1 tp2 b2 => ?_
    walk_at "rd"
    refine ⟨t, c, 1 + min kd 2, rfl, tp2, by omega, by omega, fun l ys H3 tp3 b3 nl gl yl hy _ => ?_⟩
    have ⟨lt, lc⟩ := tp2.new nl
    have b03 := (b1.trans b2).trans b3
    walk_at "rd"
    refine ite2 (fun q => ?_) (fun q => ?_)
    · walk_at "rd"
      refine pickR tp3 (by decide) (by decide) fun r H4 r0 r1 tp4 b4 => ?_
      have gl4 := b4 l _ lt gl
      walk_at "rd"
      refine ⟨by omega, by omega, ?_⟩
      refine lcT walk_range tp4 (fun _ _ => trivial) (fun D i acc _ => ∃ us : List Str, acc = us.map V.str ∧ us.length = i ∧ Ones us) (fun _ _ _ _ _ => ⟨[], rfl, rfl, Ones.nil⟩) ?_ ?_
      · rintro D i x G _ acc nD hi hD tpG bG ⟨us, rfl, ul, hu⟩ ⟨rfl, rfl⟩
        walk_at "rd"
        refine ⟨rfl, ?_⟩
        walk_at "rd"
        refine pickR tpG (by decide) (by decide) fun r5 H5 r50 r51 tp5 b5 => ?_
        have gl5 := b5 l _ lt (bG l _ lt gl4)
        have dt := (tp4.new nD).1
        have i5 : r5.toNat < ys.length := by omega
        refine Rd.ixL (.of gl5) (Rd.atI_of r50 (Rd.map_str i5)) ?_
        refine lcPuT (b5 D _ dt hD) nD tp4 tp5 (bG.trans b5) (by rw [List.length_map, ul, sizeLine_eq]; omega) fun G2 g2 off2 => ?_
        exact ⟨us ++ [ys[r5.toNat]], by rw [List.map_append]; rfl, by rw [List.length_append, ul]; rfl, hu.snoc' (hy _ (List.getElem_mem i5))⟩
      · rintro D acc G nD hD tpG bG ⟨us, rfl, ul, hu⟩
        walk_at "rd"
        refine ⟨by omega, by omega, ?_⟩
        refine Rd.lcS walk_range (fun _ _ => trivial) (fun D2 i acc _ => ∃ vs : List Str, acc = vs.map V.str ∧ vs.length = i ∧ Ones vs) (fun _ _ _ _ _ => ⟨[], rfl, rfl, Ones.nil⟩) ?_ ?_
        · rintro D2 i x G1 _ acc nD2 hi hD2 sm ⟨vs, rfl, vl, hv⟩ ⟨rfl, rfl⟩
          walk_at "rd"
          refine ⟨rfl, ?_⟩
          walk_at "rd"
          have hD1 := sm _ _ hD
          refine Rd.len (.inl (.of hD1)) ?_
          rw [List.length_map]
          walk_at "rd"
          refine Rd.iC (by omega) ?_
          have e0 : 0 ≤ (0 + (i : Int)) % (us.length : Int) := Int.emod_nonneg _ (by omega)
          have e1 : (0 + (i : Int)) % (us.length : Int) < us.length := Int.emod_lt_of_pos _ (by omega)
          generalize (0 + (i : Int)) % (us.length : Int) = j at e0 e1
          have j1 : j.toNat < us.length := by omega
          refine Rd.ixL (.of hD1) (Rd.atI_of e0 (Rd.map_str j1)) ?_
          refine Rd.lcPush hD2 nD2 sm (by rw [List.length_map, vl, sizeLine_eq]; omega) fun G2 g2 off2 => ?_
          exact ⟨vs ++ [us[j.toNat]], by rw [List.map_append]; rfl, by rw [List.length_append, vl]; rfl, hv.snoc' (hu _ (List.getElem_mem j1))⟩
        · rintro D2 acc G1 nD2 hD2 sm ⟨vs, rfl, vl, hv⟩
          have j := Lt.join_one (ys := vs) rfl hv
          refine Rd.join (.inl (.of hD2)) (by rw [j.2.2, show (Str.ofString "").length = 0 by decide +kernel]; omega) ?_
          exact k _ _ ⟨j.1, by rw [j.2.1]; omega, by rw [j.2.1]; omega⟩ (tpG.same sm) (((b03.trans b4).trans bG).same sm)
    · walk_at "rd"
      refine ⟨by omega, by omega, ?_⟩
      refine lcT walk_range tp3 (fun _ _ => trivial) (fun D i acc _ => ∃ us : List Str, acc = us.map V.str ∧ us.length = i ∧ Ones us) (fun _ _ _ _ _ => ⟨[], rfl, rfl, Ones.nil⟩) ?_ ?_
      · rintro D i x G _ acc nD hi hD tpG bG ⟨us, rfl, ul, hu⟩ ⟨rfl, rfl⟩
        walk_at "rd"
        refine ⟨rfl, ?_⟩
        walk_at "rd"
        have glG := bG l _ lt gl
        refine Rd.len (.inl (.of glG)) ?_
        rw [List.length_map]
        walk_at "rd"
        refine pickR tpG (by omega) (by omega) fun r5 H5 r50 r51 tp5 b5 => ?_
        have gl5 := b5 l _ lt glG
        have dt := (tp3.new nD).1
        have i5 : r5.toNat < ys.length := by omega
        refine Rd.ixL (.of gl5) (Rd.atI_of r50 (Rd.map_str i5)) ?_
        refine lcPuT (b5 D _ dt hD) nD tp3 tp5 (bG.trans b5) (by rw [List.length_map, ul, sizeLine_eq]; omega) fun G2 g2 off2 => ?_
        exact ⟨us ++ [ys[r5.toNat]], by rw [List.map_append]; rfl, by rw [List.length_append, ul]; rfl, hu.snoc' (hy _ (List.getElem_mem i5))⟩
      · rintro D acc G nD hD tpG bG ⟨us, rfl, ul, hu⟩
        have j := Lt.join_one (ys := us) rfl hu
        refine Rd.join (.inl (.of hD)) (by rw [j.2.2, show (Str.ofString "").length = 0 by decide +kernel]; omega) ?_
        exact k _ _ ⟨j.1, by rw [j.2.1]; omega, by rw [j.2.1]; omega⟩ tpG (b03.trans bG)
theorem ok_l_watch (T : Txt w K mg) : FnOk P w K mg base CX0 2 T.f_l_watch T.fd_l_watch ["_law_tape_here", "_law_word_here", "_law_most"] (sp_l_watch K) := by
  refine T.F_l_watch.ok sc_l_watch (fun vs H Q E h => ?_) (fun cdv A outer s H vs Q E hr h => ?_)
  · obtain ⟨t, c, z, m, rfl, _⟩ := h
    rfl
  · obtain ⟨t, c, z, m, rfl, tp, hz, m0, m1, k⟩ := h
    refine ⟨_, (pss_cons (ps_set (i := 3) sc_l_watch.nd rfl (.inl rfl) (pe_op op_add pe_int (pe_call (ok_l_pick T) (hr.mono (by decide)) rfl T.g_l_pick T.F_l_pick.kp T.b_l_pick .nil pass0 (pa_cons (pv 0) (pa_cons (pe_callB (id := "min") (r := _) (Rd.c_min2 rfl) (by rfl) T.n_min (by decide +kernel) (pa_cons (pv 2) (pa_cons (pe_callB (id := "len") (r := _) Rd.c_lenS (by rfl) T.n_len (by decide +kernel) (pa_cons (pv 1) pa_nil)) pa_nil))) pa_nil)))))
  (pss_cons (ps_set (i := 4) sc_l_watch.nd rfl (.inl rfl) (pe_call (ok_l_pick T) (hr.mono (by decide)) rfl T.g_l_pick T.F_l_pick.kp T.b_l_pick .nil pass0 (pa_cons (pv 0) (pa_cons (pe_op op_add (pe_op op_sub (pe_callB (id := "len") (r := _) Rd.c_lenS (by rfl) T.n_len (by decide +kernel) (pa_cons (pv 1) pa_nil)) (pv 3)) pe_int) pa_nil))))
  (pss_cons (ps_if (pt_cmpR op_gt (pe_call (ok_l_pick T) (hr.mono (by decide)) rfl T.g_l_pick T.F_l_pick.kp T.b_l_pick .nil pass0 (pa_cons (pv 0) (pa_cons pe_int pa_nil))) pe_int (nomark _))
  (pss_one (ps_ret (pe_slice sl_str (pv 1) (po_some (pv 4)) (po_some (pe_op op_add (pv 4) (pv 3))))))
  pss_nil)
  (pss_one (ps_ret (pe_join pe_str (pe_lc (own := [("_law_k", 5)]) (g := gName 5) (tt := tYes) rfl sc_l_watch.nd (pi_range1 rfl T.n_range (pa_cons (pv 3) pa_nil)) (blkOk_by (own := [("_law_k", 5)]) (N := ["_law_tape_here", "_law_word_here", "_law_most", "_law_size", "_law_at", "_law_k"]) (sc := defScope s_l_watch) (by decide +kernel)) (fun _ _ _ _ _ => (pg_name (i := 5) sc_l_watch.nd rfl (.inl rfl))) (fun _ _ _ _ _ => pts_nil) (fun _ _ _ _ _ => (pe_ix ix_str (pv 1) (pe_call (ok_l_pick T) (hr.mono (by decide)) rfl T.g_l_pick T.F_l_pick.kp T.b_l_pick .nil pass0 (pa_cons (pv 0) (pa_cons (pe_callB (id := "len") (r := _) Rd.c_lenS (by rfl) T.n_len (by decide +kernel) (pa_cons (pv 1) pa_nil)) pa_nil))) (fun _ _ => rfl)))))))))), ?_⟩
    have zl : z.length ≤ sizeLine := hz.line (by decide)
    have z0 := hz.l0
    have z1 := hz.l1
    walk_at "rd"
    refine Rd.lenStr zl ?_
    walk_at "rd"
    refine pickR tp (by omega) (by omega) fun sz H1 sz0 sz1 tp1 b1 => ?_
    walk_at "rd"
    refine Rd.lenStr zl ?_
    walk_at "rd"
    refine pickR tp1 (by omega) (by omega) fun st H2 st0 st1 tp2 b2 => ?_
    walk_at "rd"
    refine pickR tp2 (by decide) (by decide) fun r H3 r0 r1 tp3 b3 => ?_
    have b03 := (b1.trans b2).trans b3
    walk_at "rd"
    refine ite2 (fun q => ?_) (fun q => ?_)
    · walk_at "rd"
      refine Rd.slS zl ?_
      have e := Lt.cut_lenI (z := z) (a := st) (b := st + (1 + sz)) st0 (by omega) (by omega)
      exact k _ _ ⟨hz.ok.cut _ _, by omega, by omega⟩ tp3 b03
    · walk_at "rd"
      refine ⟨by omega, by omega, ?_⟩
      refine lcT walk_range tp3 (fun _ _ => trivial) (fun D i acc _ => ∃ us : List Str, acc = us.map V.str ∧ us.length = i ∧ Ones us) (fun _ _ _ _ _ => ⟨[], rfl, rfl, Ones.nil⟩) ?_ ?_
      · rintro D i x G _ acc nD hi hD tpG bG ⟨us, rfl, ul, hu⟩ ⟨rfl, rfl⟩
        walk_at "rd"
        refine ⟨rfl, ?_⟩
        walk_at "rd"
        refine Rd.lenStr zl ?_
        walk_at "rd"
        refine pickR tpG (by omega) (by omega) fun r5 H5 r50 r51 tp5 b5 => ?_
        have dt := (tp3.new nD).1
        obtain ⟨ch, e, hc⟩ := let_get hz.ok r50 r51
        refine Rd.ixS zl e ?_
        refine lcPuT (b5 D _ dt hD) nD tp3 tp5 (bG.trans b5) (by rw [List.length_map, ul, sizeLine_eq]; omega) fun G2 g2 off2 => ?_
        exact ⟨us ++ [⟨#[ch]⟩], by rw [List.map_append]; rfl, by rw [List.length_append, ul]; rfl, hu.snoc hc⟩
      · rintro D acc G nD hD tpG bG ⟨us, rfl, ul, hu⟩
        have j := Lt.join_one (ys := us) rfl hu
        refine Rd.join (.inl (.of hD)) (by rw [j.2.2, show (Str.ofString "").length = 0 by decide +kernel]; omega) ?_
        exact k _ _ ⟨j.1, by rw [j.2.1]; omega, by rw [j.2.1]; omega⟩ tpG (b03.trans bG)

end
end W

namespace W
open PySem PySem.Spec PyProof.Rows L2
section
variable {P : Program} {w : World} {K : PySem.W.Frag} {mg : Str → Option Value} {base : Heap}
/-! ### what stands through draws and writes -/
theorem map_some_inj {ss ts : List (Str × Str)} (e : ss.map some = ts.map some) : ss = ts := by
  have := congrArg (List.filterMap id) e
  simpa using this
theorem tup_but {t c : Addr} {H H' : Hp} (tp : Tape H t c) (b : Rd.But t H H') : ∀ a xs, H a = some (.tup xs) → H' a = some (.tup xs) := fun a xs e => by
  obtain ⟨_, _, _, _, _, _, h, _⟩ := id tp
  exact b a _ (ne_of e h (fun q => by cases q)) e
theorem tup_off {l : Addr} {ys : List V} {H H' : Hp} (h : H l = some (.lst ys)) (off : ∀ b, b ≠ l → H' b = H b) : ∀ a xs, H a = some (.tup xs) → H' a = some (.tup xs) := fun a xs e => by
  rw [off a (ne_of e h (fun e => nomatch e))]
  exact e

end
end W

namespace W
open PySem PySem.Spec PyProof.Rows L2
section
variable {P : Program} {w : World} {K : PySem.W.Frag} {mg : Str → Option Value} {base : Heap}
/-! ### small data, shown -/
structure Sm (m b : Nat) (d : PyData) : Prop where
  sh : d.showable = true
  nd : d.hasDict = false
  dd : d.depth ≤ m
  ls : d.leavesShort 13 = true
  bk : d.bulk ≤ b
structure SmAll (m b : Nat) (ds : List PyData) : Prop where
  sh : PyData.showableAll ds = true
  nd : PyData.hasDictAll ds = false
  dd : PyData.depthAll ds ≤ m
  ls : PyData.leavesShortAll 13 ds = true
  bk : PyData.bulkAll ds ≤ b
theorem SmAll.nil (m b : Nat) : SmAll m b [] := ⟨rfl, rfl, Nat.zero_le _, rfl, Nat.zero_le _⟩
theorem SmAll.cons {m b b' : Nat} {d : PyData} {ds : List PyData} (h : Sm m b d) (t : SmAll m b' ds) : SmAll m (b + 1 + b') (d :: ds) :=
  ⟨by show (d.showable && PyData.showableAll ds) = true; rw [h.sh, t.sh]; rfl, by show (d.hasDict || PyData.hasDictAll ds) = false; rw [h.nd, t.nd]; rfl, Nat.max_le.mpr ⟨h.dd, t.dd⟩, by show (PyData.leavesShort 13 d && PyData.leavesShortAll 13 ds) = true; rw [h.ls, t.ls]; rfl, by show d.bulk + 1 + PyData.bulkAll ds ≤ _; have := h.bk; have := t.bk; omega⟩
theorem SmAll.up {m b m' b' : Nat} {ds : List PyData} (h : SmAll m b ds) (l : m ≤ m') (k : b ≤ b') : SmAll m' b' ds := ⟨h.sh, h.nd, Nat.le_trans h.dd l, h.ls, Nat.le_trans h.bk k⟩
theorem Sm.up {m b m' b' : Nat} {d : PyData} (h : Sm m b d) (l : m ≤ m') (k : b ≤ b') : Sm m' b' d := ⟨h.sh, h.nd, Nat.le_trans h.dd l, h.ls, Nat.le_trans h.bk k⟩
theorem SmAll.tup {m b : Nat} {ds : List PyData} (h : SmAll m b ds) : Sm (m + 1) b (.tuple ds) := ⟨h.sh, h.nd, Nat.succ_le_succ h.dd, h.ls, h.bk⟩
theorem SmAll.lst {m b : Nat} {ds : List PyData} (h : SmAll m b ds) : Sm (m + 1) b (.list ds) := ⟨h.sh, h.nd, Nat.succ_le_succ h.dd, h.ls, h.bk⟩
theorem smAll_of {m b : Nat} : ∀ {ds : List PyData}, (∀ d ∈ ds, Sm m b d) → SmAll m ((b + 1) * ds.length) ds
  | [], _ => .nil _ _
  | d :: ds, h => (SmAll.cons (h d (List.mem_cons_self ..)) (smAll_of fun x m => h x (List.mem_cons_of_mem _ m))).up (Nat.le_refl _) (by rw [List.length_cons, Nat.mul_succ]; omega)
theorem sm_non : Sm 0 0 .none := ⟨rfl, rfl, Nat.le_refl _, rfl, Nat.le_refl _⟩
theorem sm_let {n : Nat} {z : Str} (h : Lt.Let z) (l : z.length ≤ n) : Sm 0 n (.str z) := ⟨rfl, rfl, Nat.le_refl _, by
  show (z.cps.toList.all fun c => decide (c < 16 ^ 8)) = true
  rw [List.all_eq_true]
  intro c hc
  have hl := h c hc
  have : ∀ c ∈ Lt.Abc.cps.toList, decide (c < 16 ^ 8) = true := by decide +kernel
  exact this c hl, l⟩
theorem reprR {H : Hp} {a : Addr} {d : PyData} {Q : VK} (dp : Dp K H (.ref a) d) (s : Sm 50 (2 ^ 20) d) (q : Q (.str d.shown) H) : Rg.rRepr K [.ref a] H Q :=
  ⟨a, d, rfl, dp, s.sh, s.nd, Nat.le_trans s.dd (by decide), PyData.shown_fits_bulk (by decide) (by decide) s.ls s.bk, q⟩

end
end W

namespace W
open PySem PySem.Spec PyProof.Rows L2
section
variable {P : Program} {w : World} {K : PySem.W.Frag} {mg : Str → Option Value} {base : Heap}
/-! ### rules as rows -/
def rowS (s : Str × Str) : Str := s.1 ++ " " ++ s.2
/-- a row, and the step that it is -/
inductive RowO : Str → Option (Str × Str) → Prop where
  | step (s : Str × Str) (ok : StepOk s) : RowO (rowS s) (some s)
  | on (w : Str) (n : ¬ Lt.Wd 12 w) : RowO ("on" ++ " " ++ w) none
  | back (w : Str) (n : ¬ Lt.Wd 12 w) : RowO ("back" ++ " " ++ w) none
  | no {r a b c : Str} (f1 : Txt.startswith r "on " = false) (f2 : Txt.startswith r "back " = false) (e : Txt.partition r " " = (a, b, c)) (la : a.length ≤ r.length) (lc : c.length ≤ r.length) (h : (a ≠ ("on" : Str) ∧ a ≠ ("back" : Str)) ∨ c.length = 0) : RowO r none
theorem rowO (r : Str) : ∃ o, RowO r o := by
  rcases Rf.row_cases r with ⟨w, rfl, _⟩ | ⟨w, rfl, _⟩ | ⟨f1, f2, a, b, c, e, la, lc, h⟩
  · by_cases c : Lt.Wd 12 w
    · exact ⟨_, .step ("on", w) ⟨.inl rfl, c⟩⟩
    · exact ⟨_, .on w c⟩
  · by_cases c : Lt.Wd 12 w
    · exact ⟨_, .step ("back", w) ⟨.inr rfl, c⟩⟩
    · exact ⟨_, .back w c⟩
  · exact ⟨_, .no f1 f2 e la lc h⟩
def RowsO (rs : List Str) (os : List (Option (Str × Str))) : Prop := os.length = rs.length ∧ ∀ (i : Nat) (r : Str) (o : Option (Str × Str)), rs[i]? = some r → os[i]? = some o → RowO r o
theorem rowsO : ∀ rs : List Str, ∃ os, RowsO rs os
  | [] => ⟨[], rfl, fun i r o e => by simp at e⟩
  | r :: rs => by
    obtain ⟨os, l, h⟩ := rowsO rs
    obtain ⟨o, ho⟩ := rowO r
    refine ⟨o :: os, by simp [l], fun i r' o' e1 e2 => ?_⟩
    cases i with
    | zero => cases e1; cases e2; exact ho
    | succ i => exact h i r' o' (by simpa using e1) (by simpa using e2)
structure FirstNone (os : List (Option (Str × Str))) (i : Nat) : Prop where
  at_ : os[i]? = some none
  lt : ∀ j, j < i → ∃ s, os[j]? = some (some s)
theorem first_none : ∀ os : List (Option (Str × Str)), (∃ i, FirstNone os i) ∨ ∃ ss : List (Str × Str), os = ss.map some
  | [] => .inr ⟨[], rfl⟩
  | none :: os => .inl ⟨0, rfl, fun j h => absurd h (Nat.not_lt_zero j)⟩
  | some s :: os => by
    rcases first_none os with ⟨i, h⟩ | ⟨ss, rfl⟩
    · refine .inl ⟨i + 1, by simpa using h.at_, fun j hj => ?_⟩
      cases j with
      | zero => exact ⟨s, rfl⟩
      | succ j =>
        obtain ⟨t, e⟩ := h.lt j (by omega)
        exact ⟨t, by simpa using e⟩
    · exact .inr ⟨s :: ss, rfl⟩
theorem rowsO_ok : ∀ {ss : List (Str × Str)} {rs : List Str}, RowsO rs (ss.map some) → (∀ s ∈ ss, StepOk s) ∧ rs = ss.map rowS
  | [], rs, ⟨l, _⟩ => ⟨fun s m => (nomatch m), by
    have : rs.length = 0 := by rw [← l]; rfl
    rw [List.eq_nil_of_length_eq_zero this]
    rfl⟩
  | s :: ss, rs, ⟨l, h⟩ => by
    cases rs with
    | nil => simp at l
    | cons r rs =>
      obtain ⟨h1, h2⟩ := rowsO_ok (ss := ss) (rs := rs) ⟨by simpa using l, fun i r o e1 e2 => h (i + 1) r o (by simpa using e1) (by simpa using e2)⟩
      have h0 := h 0 r (some s) rfl rfl
      cases h0 with
      | step s ok =>
        refine ⟨fun t m => ?_, by rw [h2]; rfl⟩
        rcases List.mem_cons.mp m with rfl | m
        · exact ok
        · exact h1 t m
theorem areO_right {ss : List (Str × Str)} (ok : ∀ s ∈ ss, StepOk s) : AreO (some (ss.map some)) ↔ RightS ss := by
  refine ⟨fun h => ?_, fun h => h.are⟩
  rw [areO_some] at h
  obtain ⟨l1, l80, _, ⟨y0, f0⟩, ⟨y1, f1⟩⟩ := h
  rw [List.length_map] at l1 l80
  rw [List.getElem?_map] at f0
  rw [List.length_map, List.getElem?_map] at f1
  refine ⟨l1, l80, ok, ⟨y0, ?_⟩, ⟨y1, ?_⟩⟩
  · cases e : ss[0]? with
    | none => rw [e] at f0; cases f0
    | some s => rw [e] at f0; exact Option.some.inj f0
  · cases e : ss[ss.length - 1]? with
    | none => rw [e] at f1; cases f1
    | some s => rw [e] at f1; exact Option.some.inj f1
/-- what is read out of rows -/
def ReadIn (CT : Addr) (os : List (Option (Str × Str))) (H : Hp) (E : XK) (ok : List (Str × Str) → Prop) : Prop :=
  (∃ i : Nat, FirstNone os i ∧ Rx.Raised CT (.int i) H E) ∨ (∃ ss : List (Str × Str), os = ss.map some ∧ ¬ RightS ss ∧ Rx.Raised CT (.int (ss.length : Nat)) H E) ∨ ∃ ss : List (Str × Str), os = ss.map some ∧ RightS ss ∧ ok ss
def textS (ss : List (Str × Str)) : Str := Txt.join "\n" (ss.map rowS)
theorem row_len {s : Str × Str} (ok : StepOk s) : (rowS s).length ≤ 17 := by
  have l := ok.2.l1
  have e : (rowS s).length = s.1.length + 1 + s.2.length := by
    have e1 : (s.1 ++ " ").length = s.1.length + ((" " : Str)).length := Array.size_append
    have e2 : (rowS s).length = (s.1 ++ " ").length + s.2.length := Array.size_append
    rw [e2, e1, show ((" " : Str)).length = 1 by decide +kernel]
  rcases ok.1 with q | q
  · rw [q, show (("on" : Str)).length = 2 by decide +kernel] at e
    omega
  · rw [q, show (("back" : Str)).length = 4 by decide +kernel] at e
    omega
theorem rows_sum : ∀ {ss : List (Str × Str)}, (∀ s ∈ ss, StepOk s) → ((ss.map rowS).map (·.length)).sum ≤ 17 * ss.length
  | [], _ => Nat.le_refl _
  | s :: ss, h => by
    have h1 := row_len (h s (List.mem_cons_self ..))
    have h2 := rows_sum fun t m => h t (List.mem_cons_of_mem _ m)
    rw [List.map_cons, List.map_cons, List.sum_cons, List.length_cons]
    omega
theorem text_len {ss : List (Str × Str)} (R : RightS ss) : (textS ss).length ≤ 1440 := by
  have h1 := Rf.join_len (ss.map rowS)
  have h2 := rows_sum R.ok
  have h3 := R.l80
  rw [List.length_map] at h1
  unfold textS
  omega
theorem row_nl {s : Str × Str} (ok : StepOk s) : 10 ∉ TL.tl (rowS s) := by
  intro m
  unfold rowS at m
  rw [TL.tl_append, TL.tl_append, Rf.tl_blank] at m
  rcases List.mem_append.mp m with m | m
  · rcases List.mem_append.mp m with m | m
    · rcases ok.1 with q | q
      · rw [q, Rf.tl_on] at m
        revert m
        decide
      · rw [q, Rf.tl_back] at m
        revert m
        decide
    · revert m
      decide
  · have := ok.2.ok 10 m
    revert this
    decide +kernel
/-- what was written is read again -/
theorem read_text {ss : List (Str × Str)} (R : RightS ss) : RowsO (Txt.split (textS ss) "\n") (ss.map some) := by
  have l1 := R.l1
  have e : Txt.split (textS ss) "\n" = ss.map rowS := Rf.split_rows (fun e => by
    have := congrArg List.length e
    rw [List.length_map] at this
    simp at this
    rw [this] at l1
    simp at l1) fun y m => by
      obtain ⟨s, ms, rfl⟩ := List.mem_map.mp m
      exact row_nl (R.ok s ms)
  rw [e]
  refine ⟨by rw [List.length_map, List.length_map], fun i r o e1 e2 => ?_⟩
  rw [List.getElem?_map] at e1 e2
  cases es : ss[i]? with
  | none => rw [es] at e1; cases e1
  | some s =>
    rw [es] at e1 e2
    cases e1
    cases e2
    exact .step s (R.ok s (List.mem_of_getElem? es))
/-- rows that are steps are written so -/
theorem text_read {z : Str} {ss : List (Str × Str)} (h : RowsO (Txt.split z "\n") (ss.map some)) : textS ss = z := by
  have := (rowsO_ok h).2
  unfold textS
  rw [← this]
  exact Rf.join_split z
theorem textS_inj {ss ts : List (Str × Str)} (R : RightS ss) (R2 : RightS ts) (e : textS ss = textS ts) : ss = ts := by
  have h1 := read_text R
  have h2 := read_text R2
  rw [e] at h1
  have e1 := (rowsO_ok h1).2
  have e2 := (rowsO_ok h2).2
  rw [e1] at h2
  have : ∀ {as bs : List (Str × Str)}, RowsO (as.map rowS) (bs.map some) → (∀ s ∈ as, StepOk s) → as = bs := by
    intro as
    induction as with
    | nil =>
      intro bs ⟨l, _⟩ _
      cases bs with
      | nil => rfl
      | cons b bs => simp at l
    | cons a as ih =>
      intro bs ⟨l, h⟩ ok
      cases bs with
      | nil => simp at l
      | cons b bs =>
        have t := ih (bs := bs) ⟨by simpa using l, fun i r o e1 e2 => h (i + 1) r o (by simpa using e1) (by simpa using e2)⟩ fun s m => ok s (List.mem_cons_of_mem _ m)
        have h0 := h 0 (rowS a) (some b) rfl rfl
        have oa := ok a (List.mem_cons_self ..)
        generalize er : rowS a = r at h0
        cases h0 with
        | step s okb =>
          have n1 : ∀ {s : Str × Str}, StepOk s → 32 ∉ TL.tl s.1 := fun o => by
            rcases o.1 with q | q
            · rw [q, Rf.tl_on]; decide
            · rw [q, Rf.tl_back]; decide
          have p1 := TL.partition_app Rf.tl_blank (a := a.1) (b := a.2) (n1 oa)
          have p2 := TL.partition_app Rf.tl_blank (a := b.1) (b := b.2) (n1 okb)
          have er : a.1 ++ " " ++ a.2 = b.1 ++ " " ++ b.2 := er
          rw [er, p2] at p1
          have q1 := congrArg Prod.fst p1
          have q2 := congrArg (fun x => x.2.2) p1
          rw [t]
          congr 1
          exact Prod.ext q1.symm q2.symm
  exact this h2 R.ok
def sp_write_rule (K : PySem.W.Frag) : Sp := fun vs H Q _ => ∃ (q : Addr) (ss : List (Str × Str)), vs = [.ref q] ∧ StepsAt H q ss ∧ RightS ss ∧ ∀ H', Same H H' → Q (.str (textS ss)) H'
def sp_read_rule (K : PySem.W.Frag) (CT : Addr) : Sp := fun vs H Q E => ∃ x, vs = [x] ∧ ((∃ (z : Str) (os : List (Option (Str × Str))), x = .str z ∧ z.length ≤ 90000 ∧ RowsO (Txt.split z "\n") os ∧ ReadIn CT os H E fun ss => ∀ (q : Addr) H', StepsAt H' q ss → Same H H' → Q (.ref q) H') ∨ (NoTxt K H x ∧ Rx.Raised CT (.int (-1)) H E))
theorem ok_write_rule (T : Txt w K mg) : FnOk P w K mg base CX0 6 T.f_write_rule T.fd_write_rule ["rule"] (sp_write_rule K) := by
  refine T.F_write_rule.ok sc_write_rule (fun vs H Q E h => ?_) (fun cdv A outer s H vs Q E hr h => ?_)
  · obtain ⟨q, ss, rfl, _⟩ := h
    rfl
  · obtain ⟨q, ss, rfl, hs, R, k⟩ := h
    refine ⟨_, (pss_cons (ps_expr (pe_call (ok_check_steps T) (hr.mono (by decide)) rfl T.g_check_steps T.F_check_steps.kp T.b_check_steps .nil pass0 (pa_cons (pv 0) pa_nil)))
  (pss_one (ps_ret (pe_join pe_str (pe_lc (own := [("way", 1), ("watch", 2)]) (g := gTup K 2 (gCons (gName 1) (gCons (gName 2) gNil))) (tt := tYes) rfl sc_write_rule.nd (pi_tup (pv 0)) (blkOk_by (own := [("way", 1), ("watch", 2)]) (N := ["rule", "way", "watch"]) (sc := defScope s_write_rule) (by decide +kernel)) (fun _ _ _ _ _ => (pg_tup rfl (pgs_cons (pg_name (i := 1) sc_write_rule.nd rfl (.inl rfl)) (pgs_cons (pg_name (i := 2) sc_write_rule.nd rfl (.inl rfl)) pgs_nil)))) (fun _ _ _ _ _ => pts_nil) (fun _ _ _ _ _ => (pe_joined (.cons (pe_fmt (pv 1)) (.cons pe_str (.cons (pe_fmt (pv 2)) .nil)))))))))), ?_⟩
    have l80 := R.l80
    walk_at "rd"
    refine ⟨q, ss, rfl, hs, R, fun H1 s1 => ?_⟩
    obtain ⟨rs, hrs, rl, hR⟩ := (hs.same s1).row
    walk_at "rd"
    refine ⟨⟨_, .of hrs⟩, Rd.lcS walk_tup (fun _ s => .of (s _ _ hrs)) (fun D i acc _ => acc = ((ss.take i).map rowS).map V.str) (fun _ _ _ _ _ => rfl) ?_ ?_⟩
    · rintro D i x G _ acc nD hi hD sm rfl ⟨rfl, hx⟩
      obtain ⟨r, hri, rfl⟩ := Rd.map_refG hx
      obtain ⟨s, es, gr⟩ := hR i r hri
      have ok := R.ok s (List.mem_of_getElem? es)
      have w12 := ok.2.l1
      have s4 : s.1.length ≤ 4 := by
        rcases ok.1 with e | e <;> rw [e] <;> decide +kernel
      refine Rd.tupT (.of (sm _ _ gr)) rfl ?_
      walk_at "rd"
      refine ⟨rfl, ?_⟩
      walk_at "rd"
      refine Rf.row3 rfl rfl (by rw [show ((" " : Str)).length = 1 by decide +kernel]; omega) ?_
      refine Rd.lcPush hD nD sm (by rw [List.length_map, List.length_map, List.length_take, sizeLine_eq]; omega) fun G _ _ => ?_
      rw [Rd.take_snoc es, List.map_append, List.map_append]
      rfl
    · rintro D acc G1 nD hD s2 rfl
      rw [List.length_map, rl, List.take_length] at hD
      have sum := rows_sum R.ok
      refine Rd.join (.inl (.of hD)) (by rw [show (("\n" : Str)).length = 1 by decide +kernel, List.length_map]; omega) ?_
      exact k _ (s1.trans s2)

end
end W

namespace W
open PySem PySem.Spec PyProof.Rows L2
section
variable {P : Program} {w : World} {K : PySem.W.Frag} {mg : Str → Option Value} {base : Heap}
/-! ### reading -/
theorem rowO_part {r : Str} {o : Option (Str × Str)} (h : RowO r o) (l : r.length ≤ 90000) : ∃ a b c : Str, Txt.partition r " " = (a, b, c) ∧ c.length ≤ 90000 ∧ ((o = none ∧ ¬ ((a = ("on" : Str) ∨ a = ("back" : Str)) ∧ Lt.Wd 12 c)) ∨ (o = some (a, c) ∧ StepOk (a, c))) := by
  have ln : ∀ a w : Str, (a ++ " " ++ w).length = a.length + 1 + w.length := fun a w => by
    have e1 : (a ++ " ").length = a.length + ((" " : Str)).length := Array.size_append
    have e2 : (a ++ " " ++ w).length = (a ++ " ").length + w.length := Array.size_append
    rw [e2, e1, show ((" " : Str)).length = 1 by decide +kernel]
  cases h with
  | step s ok =>
    have n1 : 32 ∉ TL.tl s.1 := by
      rcases ok.1 with q | q
      · rw [q, Rf.tl_on]; decide
      · rw [q, Rf.tl_back]; decide
    refine ⟨s.1, " ", s.2, TL.partition_app Rf.tl_blank n1, ?_, .inr ⟨rfl, ok⟩⟩
    have := ok.2.l1
    omega
  | on w n =>
    rw [ln] at l
    exact ⟨_, _, w, TL.partition_app Rf.tl_blank (by rw [Rf.tl_on]; decide), by omega, .inl ⟨rfl, fun h => n h.2⟩⟩
  | back w n =>
    rw [ln] at l
    exact ⟨_, _, w, TL.partition_app Rf.tl_blank (by rw [Rf.tl_back]; decide), by omega, .inl ⟨rfl, fun h => n h.2⟩⟩
  | no f1 f2 e la lc h =>
    refine ⟨_, _, _, e, by omega, .inl ⟨rfl, fun ⟨h1, h2⟩ => ?_⟩⟩
    rcases h with ⟨n1, n2⟩ | h0
    · exact h1.elim n1 n2
    · have := h2.l0
      omega
/-- the steps ss stand in a list's row rs -/
def StepRow (H : Hp) (rs : List Addr) (ss : List (Str × Str)) : Prop := rs.length = ss.length ∧ ∀ (i : Nat) (r : Addr) (s : Str × Str), rs[i]? = some r → ss[i]? = some s → H r = some (.tup [.str s.1, .str s.2])
theorem StepRow.keep {H H' : Hp} {rs : List Addr} {ss : List (Str × Str)} (s : ∀ b xs, H b = some (.tup xs) → H' b = some (.tup xs)) (h : StepRow H rs ss) : StepRow H' rs ss := ⟨h.1, fun i r t e1 e2 => s _ _ (h.2 i r t e1 e2)⟩
theorem StepRow.same {H H' : Hp} {rs : List Addr} {ss : List (Str × Str)} (s : Same H H') (h : StepRow H rs ss) : StepRow H' rs ss := h.keep fun b xs e => s _ _ e
theorem StepRow.nil (H : Hp) : StepRow H [] [] := ⟨rfl, fun i r s e => by simp at e⟩
theorem StepRow.app {H : Hp} {rs rs' : List Addr} {ss ss' : List (Str × Str)} (h : StepRow H rs ss) (k : StepRow H rs' ss') : StepRow H (rs ++ rs') (ss ++ ss') := by
  refine ⟨by rw [List.length_append, List.length_append, h.1, k.1], fun i r s e1 e2 => ?_⟩
  rcases Nat.lt_or_ge i rs.length with c | c
  · rw [List.getElem?_append_left c] at e1
    rw [List.getElem?_append_left (by rw [← h.1]; exact c)] at e2
    exact h.2 i r s e1 e2
  · rw [List.getElem?_append_right c] at e1
    rw [List.getElem?_append_right (by rw [← h.1]; exact c), ← h.1] at e2
    exact k.2 _ r s e1 e2
theorem StepRow.one {H : Hp} {r : Addr} {a b : Str} (h : H r = some (.tup [.str a, .str b])) : StepRow H [r] [(a, b)] := ⟨rfl, fun i r' s e1 e2 => by
  cases i with
  | zero => cases e1; cases e2; exact h
  | succ i => simp at e1⟩
theorem StepRow.tup {H : Hp} {q : Addr} {rs : List Addr} {ss : List (Str × Str)} (h : StepRow H rs ss) (g : H q = some (.tup (rs.map V.ref))) : StepsAt H q ss := ⟨rs, g, h.1, h.2⟩
theorem ok_read_rule (T : Txt w K mg) : FnOk P w K mg base (L2.CX P w) 5 T.f_read_rule T.fd_read_rule ["text"] (sp_read_rule K T.C_BadText) := by
  refine T.F_read_rule.okX sc_read_rule (fun vs H Q E h => ?_) (fun cdv A outer s H vs Q E hr h => ?_)
  · obtain ⟨x, rfl, _⟩ := h
    rfl
  · obtain ⟨x, rfl, h⟩ := h
    refine ⟨_, (pss_cons (ps_if (pt_not (pt_val (pe_callB (id := "isinstance") (r := rIsi K) call_isi (by rfl) T.n_isinstance (by decide +kernel) (pa_cons (pv 0) (pa_cons (pe_bltn (v := .ty "str") (u := .type "str") (by rfl) T.n_str (by decide +kernel) rfl) pa_nil)))))
  (pss_one (Rx.ps_raise1 rfl T.X_BadText T.tI_WayError_init (ok_WayError_init T) (hr.mono (by decide)) T.b_WayError_init rfl T.c_BadText (takes_of rfl rfl rfl rfl) (pe_un un_neg pe_int)))
  pss_nil)
  (pss_cons (ps_set (i := 1) sc_read_rule.nd rfl (.inl rfl) (pe_lst pa_nil))
  (pss_cons (ps_set (i := 2) sc_read_rule.nd rfl (.inl rfl) (pe_bm PySem.F.plainAttrs_str PySem.F.slot_str_split PySem.F.type_str_split mt_split (pv 0) (pa_cons pe_str pa_nil)))
  (pss_cons (ps_for (passes_of rfl) rfl (pi_enum (by rfl) T.n_enumerate (pa_cons (pv 2) pa_nil)) (pg_tup rfl (pgs_cons (pg_name (i := 3) sc_read_rule.nd rfl (.inl rfl)) (pgs_cons (pg_name (i := 4) sc_read_rule.nd rfl (.inl rfl)) pgs_nil)))
  (pss_cons (ps_asg (pe_bm PySem.F.plainAttrs_str PySem.F.slot_str_partition PySem.F.type_str_partition Rf.mt_part (pv 4) (pa_cons pe_str pa_nil)) (pg_tup rfl (pgs_cons (pg_name (i := 5) sc_read_rule.nd rfl (.inl rfl)) (pgs_cons (pg_name (i := 6) sc_read_rule.nd rfl (.inl rfl)) (pgs_cons (pg_name (i := 7) sc_read_rule.nd rfl (.inl rfl)) pgs_nil)))))
  (pss_cons (ps_if (PW.pt (pw_or (pt_cmpR (r := rIn K true) op_notIn_seq (pv 5) (pe_tup (pa_cons pe_str (pa_cons pe_str pa_nil))) (by rfl)) (pw_or1 (pt_not (pt_val (pe_call (ok_is_watch T) (hr.mono (by decide)) rfl T.g_is_watch T.F_is_watch.kp T.b_is_watch .nil pass0 (pa_cons (pv 7) pa_nil)))))))
  (pss_one (Rx.ps_raise1 rfl T.X_BadText T.tI_WayError_init (ok_WayError_init T) (hr.mono (by decide)) T.b_WayError_init rfl T.c_BadText (takes_of rfl rfl rfl rfl) (pv 3)))
  pss_nil)
  (pss_one (ps_expr (pe_bm PySem.F.plainAttrs_list PySem.F.slot_list_append PySem.F.type_list_append mt_append (pv 1) (pa_cons (pe_tup (pa_cons (pv 5) (pa_cons (pv 7) pa_nil))) pa_nil)))))))
  (pss_cons (ps_if (pt_not (pt_val (pe_call (ok_are_steps T) (hr.mono (by decide)) rfl T.g_are_steps T.F_are_steps.kp T.b_are_steps .nil pass0 (pa_cons (pe_callTy (T := "tuple") (r := Rd.nTupOf K) Rd.c_tupOf (by rfl) T.n_tuple (by decide +kernel) (pa_cons (pv 1) pa_nil)) pa_nil))))
  (pss_one (Rx.ps_raise1 rfl T.X_BadText T.tI_WayError_init (ok_WayError_init T) (hr.mono (by decide)) T.b_WayError_init rfl T.c_BadText (takes_of rfl rfl rfl rfl) (pe_callB (id := "len") (r := Rd.nLen K) Rd.c_len (by rfl) T.n_len (by decide +kernel) (pa_cons (pv 2) pa_nil))))
  pss_nil)
  (pss_one (ps_ret (pe_callTy (T := "tuple") (r := Rd.nTupOf K) Rd.c_tupOf (by rfl) T.n_tuple (by decide +kernel) (pa_cons (pv 1) pa_nil))))))))), ?_⟩
    rcases h with ⟨z, os, rfl, zl, ho, h⟩ | ⟨od, rs⟩
    rotate_left
    · walk_at "rd"
      refine od.ask ?_
      walk_at "rd"
      exact rs.now (Same.refl _)
    have ol := ho.1
    have sl := Rf.split_len z
    walk_at "rd"
    refine Rd.isiStr ?_
    walk_at "rd"
    refine ⟨Nat.zero_le _, Rd.new fun l G nl gl sG => ?_⟩
    walk_at "rd"
    refine Rf.tyS ?_
    walk_at "rd"
    refine Rf.splitS (by decide +kernel) (by omega) fun w G2 nw gw s2 => ?_
    have gl2 := s2 _ _ gl
    have s02 := sG.trans s2
    have wl : w ≠ l := (ne_of_none gl nw).symm
    have gw' : SqL K G2 w ((Txt.split z "\n").map V.str) := .of gw
    walk_at "rd"
    refine Rf.for_enumL (a := w) (xs := (Txt.split z "\n").map V.str) (fun Q q => ?_) (fun i σ H' => ∃ (x1 x2 x3 x4 x5 : Option V) (rs : List Addr) (ss : List (Str × Str)), σ = [some (.str z), some (.ref l), some (.ref w), x1, x2, x3, x4, x5] ∧ H' l = some (.lst (rs.map V.ref)) ∧ H' w = some (.lst ((Txt.split z "\n").map V.str)) ∧ StepRow H' rs ss ∧ os.take i = ss.map some ∧ ss.length = i ∧ Same H H') ⟨_, _, _, _, _, [], [], rfl, gl2, gw, StepRow.nil _, rfl, rfl, s02⟩ (fun i σ H' _ ⟨_, _, _, _, _, _, _, _, _, g, _⟩ => .of g) ?_ ?_
    · walk_at "rd"
      exact q
    · rintro i x _ H1 t hx ⟨x1, x2, x3, x4, x5, rs, ss, rfl, gl1, gw1, sr, ts, sn, sm⟩ hT
      obtain ⟨r, hr, rfl⟩ := Rd.map_strG hx
      have il : i < (Txt.split z "\n").length := (List.getElem?_eq_some_iff.mp hr).1
      have rl := Rf.split_mem (List.mem_of_getElem? hr)
      obtain ⟨o, eo⟩ : ∃ o, os[i]? = some o := ⟨_, List.getElem?_eq_getElem (by omega)⟩
      obtain ⟨a, b, c, ep, lc, hc⟩ := rowO_part (ho.2 i r o hr eo) (by omega)
      have sT := Rd.same_upd (o := .tup [.int (i : Nat), .str r]) hT
      refine Rd.tupT (.of upd_same) rfl ?_
      generalize upd H1 t (.tup [.int (i : Nat), .str r]) = H2 at sT
      walk_at "rd"
      refine Rf.tyS ?_
      walk_at "rd"
      refine Rf.partS (z := r) (by omega) fun p G3 np gp s3 => ?_
      rw [ep] at gp
      walk_at "rd"
      refine Rd.tupT (.of gp) rfl ?_
      walk_at "rd"
      refine ⟨Nat.le_of_ble_eq_true rfl, Rd.new fun p2 G4 np2 gp2 s4 => ?_⟩
      have s14 := (sT.trans s3).trans s4
      walk_at "rd"
      refine Rd.inStrsN (ws := ["on", "back"]) (.inr (.of gp2)) ?_
      have bad : o = none → ∀ H5, Same H1 H5 → Rx.RaiseQ T.C_BadText (.int (i : Nat)) H5 E := fun e H5 s => by
        subst e
        have fn : FirstNone os i := ⟨eo, fun j hj => by
          have e1 : (os.take i)[j]? = os[j]? := by rw [List.getElem?_take, if_pos hj]
          rw [ts, List.getElem?_map] at e1
          rw [← e1]
          have : ss[j]? = some (ss[j]'(by omega)) := List.getElem?_eq_getElem _
          rw [this]
          exact ⟨_, rfl⟩⟩
        rcases h with ⟨k, fk, rs⟩ | ⟨ts', e, _⟩ | ⟨ts', e, _⟩
        · have : k = i := by
            rcases Nat.lt_trichotomy k i with q | q | q
            · obtain ⟨s, e⟩ := fn.lt k q
              rw [fk.at_] at e
              cases e
            · exact q
            · obtain ⟨s, e⟩ := fk.lt i q
              rw [eo] at e
              cases e
          subst this
          exact rs.now (sm.trans s)
        · rw [e, List.getElem?_map] at eo
          cases q : ts'[i]? with
          | none => rw [q] at eo; cases eo
          | some s => rw [q] at eo; cases eo
        · rw [e, List.getElem?_map] at eo
          cases q : ts'[i]? with
          | none => rw [q] at eo; cases eo
          | some s => rw [q] at eo; cases eo
      by_cases ca : a ∈ [("on" : Str), "back"]
      rotate_left
      · rw [decide_eq_false ca]
        walk_at "rd"
        refine bad ?_ _ s14
        rcases hc with ⟨e, _⟩ | ⟨e, ok⟩
        · exact e
        · exact absurd (by rcases ok.1 with q | q <;> simp_all) ca
      rw [decide_eq_true ca]
      have ca' : a = ("on" : Str) ∨ a = ("back" : Str) := by simpa using ca
      walk_at "rd"
      refine .inl ⟨c, rfl, by omega, fun v H5 hv s5 => ?_⟩
      have s15 := s14.trans s5
      cases v with
      | false =>
        walk_at "rd"
        refine bad ?_ _ s15
        rcases hc with ⟨e, _⟩ | ⟨e, ok⟩
        · exact e
        · exact absurd (hv.mpr ok.2) Bool.false_ne_true
      | true =>
        have W := hv.mp rfl
        have oe : o = some (a, c) := by
          rcases hc with ⟨e, n⟩ | ⟨e, ok⟩
          · exact absurd ⟨ca', W⟩ n
          · exact e
        walk_at "rd"
        have gl5 := s15 _ _ gl1
        refine Rd.tyL (.of gl5) ?_
        walk_at "rd"
        refine ⟨Nat.le_of_ble_eq_true rfl, Rd.new fun e G6 ne ge s6 => ?_⟩
        walk_at "rd"
        have gl6 := s6 _ _ gl5
        refine Rd.app gl6 (by rw [List.length_map, sr.1, sizeLine_eq]; omega) fun G7 g7 off7 => ?_
        have kp := tup_off gl6 off7
        walk_at "rd"
        refine ⟨_, _, _, _, _, rs ++ [e], ss ++ [(a, c)], rfl, by rw [List.map_append]; exact g7, ?_, ((sr.same (s15.trans s6)).keep kp).app (.one (kp _ _ ge)), ?_, by rw [List.length_append, sn]; rfl, ?_⟩
        · rw [off7 w wl]
          exact s6 _ _ (s15 _ _ gw1)
        · rw [Rd.take_snoc eo, ts, oe, List.map_append]
          rfl
        · exact Rd.same_off ((sm.trans s15).trans s6) nl off7
    · rintro _ H1 ⟨x1, x2, x3, x4, x5, rs, ss, rfl, gl1, gw1, sr, ts, sn, sm⟩
      rw [List.length_map, ← ol, List.take_length] at ts
      subst ts
      have okr := rowsO_ok ho
      have len : ss.length ≤ 100000 := by
        rw [List.length_map] at ol
        omega
      walk_at "rd"
      refine Rd.tupOf (.of gl1) (Rd.new fun p G2 np gp s2 => ?_)
      have st := (sr.same s2).tup gp
      walk_at "rd"
      refine ⟨_, _, rfl, st.elts len okr.1, fun v H3 hv s3 => ?_⟩
      rw [areO_right okr.1] at hv
      have s13 := s2.trans s3
      cases v with
      | false =>
        walk_at "rd"
        refine Rd.len (.inl (.of (s13 _ _ gw1))) ?_
        rw [List.length_map]
        walk_at "rd"
        rcases h with ⟨k, fk, _⟩ | ⟨ts, e, n, rs⟩ | ⟨ts, e, R, _⟩
        · have := fk.at_
          rw [List.getElem?_map] at this
          cases q : ss[k]? with
          | none => rw [q] at this; cases this
          | some s => rw [q] at this; cases this
        · cases map_some_inj e
          rw [List.length_map] at ol
          rw [← ol]
          exact rs.now (sm.trans s13)
        · cases map_some_inj e
          exact absurd (hv.mpr R) Bool.false_ne_true
      | true =>
        have R := hv.mp rfl
        walk_at "rd"
        refine Rd.tupOf (.of (s13 _ _ gl1)) (Rd.new fun p2 G4 np2 gp2 s4 => ?_)
        rcases h with ⟨k, fk, _⟩ | ⟨ts, e, n, _⟩ | ⟨ts, e, _, k⟩
        · have := fk.at_
          rw [List.getElem?_map] at this
          cases q : ss[k]? with
          | none => rw [q] at this; cases this
          | some s => rw [q] at this; cases this
        · cases map_some_inj e
          exact absurd R n
        · cases map_some_inj e
          exact k p2 _ ((sr.same (s13.trans s4)).tup gp2) ((sm.trans s13).trans s4)

end
end W

namespace W
open PySem PySem.Spec PyProof.Rows L2
section
variable {P : Program} {w : World} {K : PySem.W.Frag} {mg : Str → Option Value} {base : Heap}
/-! ### the law's own reader and writer -/
theorem rowO_sw {r : Str} {o : Option (Str × Str)} (h : RowO r o) : (∃ w, r = "on" ++ " " ++ w ∧ ((o = some (("on" : Str), w) ∧ Lt.Wd 12 w) ∨ (o = none ∧ ¬ Lt.Wd 12 w))) ∨ (∃ w, r = "back" ++ " " ++ w ∧ ((o = some (("back" : Str), w) ∧ Lt.Wd 12 w) ∨ (o = none ∧ ¬ Lt.Wd 12 w))) ∨ (Txt.startswith r "on " = false ∧ Txt.startswith r "back " = false ∧ o = none) := by
  cases h with
  | step s ok =>
    obtain ⟨s1, s2⟩ := s
    rcases ok.1 with e | e
    · have e : s1 = ("on" : Str) := e
      subst e
      exact .inl ⟨s2, rfl, .inl ⟨rfl, ok.2⟩⟩
    · have e : s1 = ("back" : Str) := e
      subst e
      exact .inr (.inl ⟨s2, rfl, .inl ⟨rfl, ok.2⟩⟩)
  | on w n => exact .inl ⟨w, rfl, .inr ⟨rfl, n⟩⟩
  | back w n => exact .inr (.inl ⟨w, rfl, .inr ⟨rfl, n⟩⟩)
  | no f1 f2 _ _ _ _ => exact .inr (.inr ⟨f1, f2, rfl⟩)
/-- what was told of rows -/
def OutR (H : Hp) (os : List (Option (Str × Str))) (p : Addr) : Prop := (∃ i : Nat, FirstNone os i ∧ H p = some (.tup [.str "text", .int (i : Int)])) ∨ (∃ ss : List (Str × Str), os = ss.map some ∧ ¬ RightS ss ∧ H p = some (.tup [.str "text", .int ((ss.length : Nat) : Int)])) ∨ ∃ (ss : List (Str × Str)) (t : Addr), os = ss.map some ∧ RightS ss ∧ H p = some (.tup [.str "told", .ref t]) ∧ StepsAt H t ss
theorem OutR.same {H H' : Hp} {os : List (Option (Str × Str))} {p : Addr} (s : Same H H') (h : OutR H os p) : OutR H' os p := by
  rcases h with ⟨i, f, g⟩ | ⟨ss, e, n, g⟩ | ⟨ss, t, e, R, g, st⟩
  · exact .inl ⟨i, f, s _ _ g⟩
  · exact .inr (.inl ⟨ss, e, n, s _ _ g⟩)
  · exact .inr (.inr ⟨ss, t, e, R, s _ _ g, st.same s⟩)
def sp_l_text (K : PySem.W.Frag) : Sp := fun vs H Q _ => ∃ (q : Addr) (ss : List (Str × Str)), vs = [.ref q] ∧ StepsAt H q ss ∧ RightS ss ∧ Q (.str (textS ss)) H
def sp_l_is_watch (K : PySem.W.Frag) : Sp := fun vs H Q _ => ∃ z : Str, vs = [.str z] ∧ z.length ≤ 1000000 ∧ ∀ (b : Bool) H', (b = true ↔ Lt.Wd 12 z) → Same H H' → Q (.bl b) H'
def sp_l_due (K : PySem.W.Frag) : Sp := fun vs H Q _ => ∃ (z : Str) (os : List (Option (Str × Str))), vs = [.str z] ∧ z.length ≤ 90000 ∧ RowsO (Txt.split z "\n") os ∧ ∀ (p : Addr) H', Same H H' → OutR H' os p → Q (.ref p) H'
def sp_l_asked (K : PySem.W.Frag) (CT : Addr) : Sp := fun vs H Q _ => ∃ x, vs = [x] ∧ ((∃ (z : Str) (os : List (Option (Str × Str))), x = .str z ∧ z.length ≤ 90000 ∧ RowsO (Txt.split z "\n") os ∧ ∀ (p : Addr) H', Same H H' → OutR H' os p → Q (.ref p) H') ∨ (NoTxt K H x ∧ ∀ (p : Addr) H', Same H H' → H' p = some (.tup [.str "text", .int (-1)]) → Q (.ref p) H'))
theorem text_snoc {ss : List (Str × Str)} {i : Nat} {s : Str × Str} (h : ss[i]? = some s) : textS (ss.take (i + 1)) = if i = 0 then rowS s else textS (ss.take i) ++ "\n" ++ rowS s := by
  unfold textS
  rw [Rd.take_snoc h, List.map_append]
  have il := (List.getElem?_eq_some_iff.mp h).1
  by_cases c : i = 0
  · subst c
    rw [if_pos rfl]
    rfl
  · rw [if_neg c]
    refine Rf.join_snoc _ _ fun e => ?_
    have := congrArg List.length e
    rw [List.length_map, List.length_take, List.length_nil] at this
    omega
theorem take_len {ss : List (Str × Str)} (ok : ∀ s ∈ ss, StepOk s) (i : Nat) : (textS (ss.take i)).length ≤ 18 * ss.length := by
  have h1 := Rf.join_len ((ss.take i).map rowS)
  have h2 := rows_sum (ss := ss.take i) fun s m => ok s (List.mem_of_mem_take m)
  rw [List.length_map, List.length_take] at h1
  rw [List.length_take] at h2
  unfold textS
  omega
theorem ok_l_text (T : Txt w K mg) : FnOk P w K mg base CX0 1 T.f_l_text T.fd_l_text ["_law_steps"] (sp_l_text K) := by
  refine T.F_l_text.ok sc_l_text (fun vs H Q E h => ?_) (fun cdv A outer s H vs Q E hr h => ?_)
  · obtain ⟨q, ss, rfl, _⟩ := h
    rfl
  · obtain ⟨q, ss, rfl, hs, R, k⟩ := h
    refine ⟨_, (pss_cons (ps_set (i := 1) sc_l_text.nd rfl (.inl rfl) pe_str)
  (pss_cons (ps_for PassesOwn.never rfl (pi_range1 rfl T.n_range (pa_cons (pe_callB (id := "len") (r := Rd.nLen K) Rd.c_len (by rfl) T.n_len (by decide +kernel) (pa_cons (pv 0) pa_nil)) pa_nil)) (pg_name (i := 2) sc_l_text.nd rfl (.inl rfl))
  (C8.pss_cut (ps_if (pt_cmpR op_gt (pv 2) pe_int (nomark _))
  (pss_one (ps_set (i := 1) sc_l_text.nd rfl (.inl rfl) (pe_op Rd.o_addS (pv 1) pe_str)))
  pss_nil)
  (pss_one (ps_set (i := 1) sc_l_text.nd rfl (.inl rfl) (pe_op Rd.o_addS (pe_op Rd.o_addS (pe_op Rd.o_addS (pv 1) (pe_ix (r := rIxT K) ix_tup (pe_ix (r := rIxT K) ix_tup (pv 0) (pv 2) (fun _ _ => rfl)) pe_int (fun _ _ => rfl))) pe_str) (pe_ix (r := rIxT K) ix_tup (pe_ix (r := rIxT K) ix_tup (pv 0) (pv 2) (fun _ _ => rfl)) pe_int (fun _ _ => rfl)))))))
  (pss_one (ps_ret (pv 1))))), ?_⟩
    have l80 := R.l80
    obtain ⟨rs, hrs, rl, hR⟩ := hs.row
    walk_at "rd"
    refine Rd.forS ?_
    walk_at "rd"
    refine Rd.len (.inr (.of hrs)) ?_
    rw [List.length_map, rl]
    walk_at "rd"
    refine ⟨by omega, by omega, ?_⟩
    refine for_range (lo := 0) (n := ss.length) (fun i σ H' => ∃ (o2 : Option V), σ = [some (.ref q), some (.str (textS (ss.take i))), o2] ∧ H' = H)
      ⟨_, rfl, rfl⟩ ?_ ?_
    · rintro i _ H1 hi ⟨o2, rfl, rfl⟩
      obtain ⟨r, hr⟩ : ∃ r, rs[i]? = some r := ⟨_, List.getElem?_eq_getElem (by omega)⟩
      obtain ⟨s, es, gr⟩ := hR i r hr
      have ok := R.ok s (List.mem_of_getElem? es)
      have tl := take_len R.ok i
      have w12 := ok.2.l1
      have s4 : s.1.length ≤ 4 := by
        rcases ok.1 with e | e <;> rw [e] <;> decide +kernel
      have hat : atI (rs.map V.ref) (0 + (i : Int)) = some (.ref r) := by
        rw [Int.zero_add]
        exact atI_nat (by rw [List.getElem?_map, hr]; rfl)
      walk_at "rd"
      refine Rd.cut (fun σ H' => ∃ z : Str, σ = [some (.ref q), some (.str z), some (.int (0 + (i : Int)))] ∧ H' = H1 ∧ textS (ss.take (i + 1)) = z ++ rowS s ∧ z.length ≤ 1500) ?_ ?_
      · walk_at "rd"
        by_cases c : (0 : Int) + (i : Int) > 0
        · refine Rd.yes c ?_
          walk_at "rd"
          have n1 : (("\n" : Str)).length = 1 := by decide +kernel
          refine Rd.addS (by rw [sizeLine_eq]; omega) ?_
          walk_at "rd"
          have al : (textS (ss.take i) ++ "\n").length = (textS (ss.take i)).length + (("\n" : Str)).length := Array.size_append
          exact ⟨_, rfl, rfl, by rw [text_snoc es, if_neg (by omega)], by omega⟩
        · refine Rd.no c ?_
          walk_at "rd"
          have i0 : i = 0 := by omega
          subst i0
          exact ⟨_, rfl, rfl, by
            rw [text_snoc es, if_pos rfl]
            exact (Rf.empty_app _).symm, by omega⟩
      · rintro _ _ ⟨z, rfl, rfl, ez, zl⟩
        have b1 : ((" " : Str)).length = 1 := by decide +kernel
        have e1 : (z ++ s.1).length = z.length + s.1.length := Array.size_append
        have e2 : (z ++ s.1 ++ " ").length = (z ++ s.1).length + ((" " : Str)).length := Array.size_append
        walk_at "rd"
        refine Rd.ixT (.of hrs) hat ?_
        walk_at "rd"
        refine Rd.ixT (.of gr) (atI_nat (j := 0) rfl) ?_
        walk_at "rd"
        refine Rd.addS (by rw [sizeLine_eq]; omega) ?_
        walk_at "rd"
        refine Rd.addS (by rw [sizeLine_eq]; omega) ?_
        walk_at "rd"
        refine Rd.ixT (.of hrs) hat ?_
        walk_at "rd"
        refine Rd.ixT (.of gr) (atI_nat (j := 1) rfl) ?_
        walk_at "rd"
        refine Rd.addS (by rw [sizeLine_eq]; omega) ?_
        walk_at "rd"
        refine ⟨some (.int (0 + (i : Int))), ?_, rfl⟩
        rw [ez]
        unfold rowS
        rw [Rf.app_assoc z s.1 " ", Rf.app_assoc z (s.1 ++ " ") s.2]
        rfl
    · rintro _ _ ⟨o2, rfl, rfl⟩
      rw [List.take_length]
      walk_at "rd"
      exact k
theorem ok_l_is_watch (T : Txt w K mg) : FnOk P w K mg base CX0 1 T.f_l_is_watch T.fd_l_is_watch ["_law_thing"] (sp_l_is_watch K) := by
  refine T.F_l_is_watch.ok sc_l_is_watch (fun vs H Q E h => ?_) (fun cdv A outer s H vs Q E hr h => ?_)
  · obtain ⟨z, rfl, _⟩ := h
    rfl
  · obtain ⟨z, rfl, l, k⟩ := h
    refine ⟨_, (pss_one (ps_ret (pe_and (pe_chain op_le op_le pe_int (pe_callB (id := "len") (r := _) Rd.c_lenS (by rfl) T.n_len (by decide +kernel) (pa_cons (pv 0) pa_nil)) pe_int) (pe_one (pe_cmpR op_eq (pe_callB (id := "len") (r := Rd.nLen K) Rd.c_len (by rfl) T.n_len (by decide +kernel) (pa_cons (pe_lc (own := [("_law_sign", 1)]) (g := gName 1)  rfl sc_l_is_watch.nd (pi_str (pv 0)) (blkOk_by (own := [("_law_sign", 1)]) (N := ["_law_thing", "_law_sign"]) (sc := defScope s_l_is_watch) (by decide +kernel)) (fun _ _ _ _ _ => (pg_name (i := 1) sc_l_is_watch.nd rfl (.inl rfl))) (fun _ _ _ _ _ => pts_one (pt_cmpR op_notIn_sign (pv 1) pe_str rfl)) (fun _ _ _ _ _ => (pv 1))) pa_nil)) pe_int (nomark _)))))), ?_⟩
    walk_at "rd"
    refine Rd.lenStr (by rw [sizeLine_eq]; omega) ?_
    walk_at "rd"
    by_cases c1 : (1 : Int) ≤ (z.length : Nat)
    rotate_left
    · refine Rd.no c1 ?_
      walk_at "rd"
      exact k _ _ ⟨fun e => (nomatch e), fun e => absurd e.l0 (by omega)⟩ (Same.refl _)
    refine Rd.yes c1 ?_
    walk_at "rd"
    by_cases c2 : ((z.length : Nat) : Int) ≤ 12
    rotate_left
    · refine Rd.no c2 ?_
      walk_at "rd"
      exact k _ _ ⟨fun e => (nomatch e), fun e => absurd e.l1 c2⟩ (Same.refl _)
    refine Rd.yes c2 ?_
    walk_at "rd"
    refine Rd.lcS walk_str (fun _ _ => trivial) (fun _ i acc _ => acc.length ≤ i ∧ (acc = [] ↔ ∀ c ∈ z.cps.toList.take i, c ∈ Lt.Abc.cps.toList)) (fun _ _ _ _ _ => ⟨Nat.le_refl _, ⟨fun _ c m => by simp at m, fun _ => rfl⟩⟩) ?_ ?_
    · rintro D i x G _ acc nD hi hD sm ⟨al, ha⟩ ⟨rfl, c, hc, rfl⟩
      have hi2 : i < z.length := hi
      have hc2 : z.cps.toList[i]? = some c := by simpa using hc
      walk_at "rd"
      refine ⟨rfl, ?_⟩
      walk_at "rd"
      refine ⟨_, _, rfl, rfl, ?_⟩
      by_cases m : c ∈ Lt.Abc.cps.toList
      · rw [decide_eq_true (show c ∈ ("abcdefghijklmnopqrstuvwxyz" : Str).cps.toList from m)]
        walk_at "rd"
        refine ⟨acc, hD, sm, by omega, ?_⟩
        rw [Rd.take_snoc hc2, ha]
        exact ⟨fun h d md => by
          rcases List.mem_append.mp md with md | md
          · exact h d md
          · cases List.mem_singleton.mp md
            exact m, fun h d md => h d (List.mem_append_left _ md)⟩
      · rw [decide_eq_false (show ¬ c ∈ ("abcdefghijklmnopqrstuvwxyz" : Str).cps.toList from m)]
        walk_at "rd"
        refine Rd.lcPush hD nD sm (by rw [sizeLine_eq]; omega) fun G _ _ => ⟨by rw [List.length_append]; exact Nat.succ_le_succ al, ⟨fun e => by simp at e, fun h => ?_⟩⟩
        rw [Rd.take_snoc hc2] at h
        exact absurd (h c (by simp)) m
    · rintro D acc G nD hD sm ⟨al, ha⟩
      rw [show (z.cps.toList.take z.cps.size) = z.cps.toList from by rw [← Array.length_toList, List.take_length]] at ha
      walk_at "rd"
      refine Rd.len (.inl (.of hD)) ?_
      walk_at "rd"
      refine k _ _ ?_ sm
      rw [decide_eq_true_iff]
      constructor
      · intro e
        exact ⟨ha.mp (List.eq_nil_of_length_eq_zero (by omega)), by omega, c2⟩
      · intro w
        rw [ha.mpr w.ok]
        rfl
theorem ok_l_due (T : Txt w K mg) : FnOk P w K mg base CX0 2 T.f_l_due T.fd_l_due ["_law_text_here"] (sp_l_due K) := by
  refine T.F_l_due.ok sc_l_due (fun vs H Q E h => ?_) (fun cdv A outer s H vs Q E hr h => ?_)
  · obtain ⟨z, os, rfl, _⟩ := h
    rfl
  · obtain ⟨z, os, rfl, zl, ho, k⟩ := h
    refine ⟨_, (pss_cons (ps_set (i := 1) sc_l_due.nd rfl (.inl rfl) (pe_bm PySem.F.plainAttrs_str PySem.F.slot_str_split PySem.F.type_str_split mt_split (pv 0) (pa_cons pe_str pa_nil)))
  (pss_cons (ps_set (i := 2) sc_l_due.nd rfl (.inl rfl) (pe_lst pa_nil))
  (pss_cons (ps_for PassesOwn.never rfl (pi_range1 rfl T.n_range (pa_cons (pe_callB (id := "len") (r := Rd.nLen K) Rd.c_len (by rfl) T.n_len (by decide +kernel) (pa_cons (pv 1) pa_nil)) pa_nil)) (pg_name (i := 3) sc_l_due.nd rfl (.inl rfl))
  (pss_cons (ps_set (i := 4) sc_l_due.nd rfl (.inl rfl) (pe_ix (r := rIxL K) ix_list (pv 1) (pv 3) (fun _ _ => rfl)))
  (pss_one (ps_if (PW.pt (pw_and (pt_val (pe_bm PySem.F.plainAttrs_str PySem.F.slot_str_startswith PySem.F.type_str_startswith Rf.mt_sw (pv 4) (pa_cons pe_str pa_nil))) (pw_and1 (pt_val (pe_call (ok_l_is_watch T) (hr.mono (by decide)) rfl T.g_l_is_watch T.F_l_is_watch.kp T.b_l_is_watch .nil pass0 (pa_cons (pe_slice sl_str (pv 4) (po_some pe_int) po_none) pa_nil))))))
  (pss_one (ps_expr (pe_bm PySem.F.plainAttrs_list PySem.F.slot_list_append PySem.F.type_list_append mt_append (pv 2) (pa_cons (pe_tup (pa_cons pe_str (pa_cons (pe_slice sl_str (pv 4) (po_some pe_int) po_none) pa_nil))) pa_nil))))
  (pss_one (ps_if (PW.pt (pw_and (pt_val (pe_bm PySem.F.plainAttrs_str PySem.F.slot_str_startswith PySem.F.type_str_startswith Rf.mt_sw (pv 4) (pa_cons pe_str pa_nil))) (pw_and1 (pt_val (pe_call (ok_l_is_watch T) (hr.mono (by decide)) rfl T.g_l_is_watch T.F_l_is_watch.kp T.b_l_is_watch .nil pass0 (pa_cons (pe_slice sl_str (pv 4) (po_some pe_int) po_none) pa_nil))))))
  (pss_one (ps_expr (pe_bm PySem.F.plainAttrs_list PySem.F.slot_list_append PySem.F.type_list_append mt_append (pv 2) (pa_cons (pe_tup (pa_cons pe_str (pa_cons (pe_slice sl_str (pv 4) (po_some pe_int) po_none) pa_nil))) pa_nil))))
  (pss_one (ps_ret (pe_tup (pa_cons pe_str (pa_cons (pv 3) pa_nil)))))))))))
  (pss_cons (ps_if (PW.pt (pw_or (pt_cmpR op_gt (pe_callB (id := "len") (r := Rd.nLen K) Rd.c_len (by rfl) T.n_len (by decide +kernel) (pa_cons (pv 2) pa_nil)) pe_int (nomark _)) (pw_or (pt_cmpR op_ne (pe_ix (r := rIxT K) ix_tup (pe_ix (r := rIxL K) ix_list (pv 2) pe_int (fun _ _ => rfl)) pe_int (fun _ _ => rfl)) pe_str (nomark _)) (pw_or1 (pt_cmpR op_ne (pe_ix (r := rIxT K) ix_tup (pe_ix (r := rIxL K) ix_list (pv 2) (pe_un un_neg pe_int) (fun _ _ => rfl)) pe_int (fun _ _ => rfl)) pe_str (nomark _))))))
  (pss_one (ps_ret (pe_tup (pa_cons pe_str (pa_cons (pe_callB (id := "len") (r := Rd.nLen K) Rd.c_len (by rfl) T.n_len (by decide +kernel) (pa_cons (pv 1) pa_nil)) pa_nil)))))
  pss_nil)
  (pss_one (ps_ret (pe_tup (pa_cons pe_str (pa_cons (pe_callTy (T := "tuple") (r := Rd.nTupOf K) Rd.c_tupOf (by rfl) T.n_tuple (by decide +kernel) (pa_cons (pv 2) pa_nil)) pa_nil))))))))), ?_⟩
    have ol := ho.1
    have sl := Rf.split_len z
    walk_at "rd"
    refine Rf.tyS ?_
    walk_at "rd"
    refine Rf.splitS (by decide +kernel) (by omega) fun w G nw gw sG => ?_
    walk_at "rd"
    refine ⟨Nat.zero_le _, Rd.new fun l G2 nl gl s2 => ?_⟩
    have gw2 := s2 _ _ gw
    have s02 := sG.trans s2
    have wl : w ≠ l := ne_of_none gw nl
    walk_at "rd"
    refine Rd.forS ?_
    walk_at "rd"
    refine Rd.len (.inl (.of gw2)) ?_
    rw [List.length_map]
    walk_at "rd"
    refine ⟨by omega, by omega, ?_⟩
    refine for_range (lo := 0) (n := (Txt.split z "\n").length) (fun i σ H' => ∃ (o3 o4 : Option V) (rs : List Addr) (ss : List (Str × Str)), σ = [some (.str z), some (.ref w), some (.ref l), o3, o4] ∧ H' l = some (.lst (rs.map V.ref)) ∧ H' w = some (.lst ((Txt.split z "\n").map V.str)) ∧ StepRow H' rs ss ∧ os.take i = ss.map some ∧ ss.length = i ∧ Same H H')
      ⟨_, _, [], [], rfl, gl, gw2, StepRow.nil _, rfl, rfl, s02⟩ ?_ ?_
    · rintro i _ H1 hi ⟨o3, o4, rs, ss, rfl, gl1, gw1, sr, ts, sn, sm⟩
      obtain ⟨r, hr⟩ : ∃ r, (Txt.split z "\n")[i]? = some r := ⟨_, List.getElem?_eq_getElem hi⟩
      have rl := Rf.split_mem (List.mem_of_getElem? hr)
      have rz : r.length ≤ sizeLine := by rw [sizeLine_eq]; omega
      obtain ⟨o, eo⟩ : ∃ o, os[i]? = some o := ⟨_, List.getElem?_eq_getElem (by omega)⟩
      have hc := rowO_sw (ho.2 i r o hr eo)
      have bad : o = none → ∀ (p : Addr) (H5 : Hp), Same H1 H5 → H5 p = some (.tup [.str "text", .int (0 + (i : Int))]) → Q (.ref p) H5 := fun e p H5 s gp => by
        subst e
        refine k p H5 (sm.trans s) (.inl ⟨i, ⟨eo, fun j hj => ?_⟩, by rw [Int.zero_add] at gp; exact gp⟩)
        have e1 : (os.take i)[j]? = os[j]? := by rw [List.getElem?_take, if_pos hj]
        rw [ts, List.getElem?_map] at e1
        rw [← e1]
        have : ss[j]? = some (ss[j]'(by omega)) := List.getElem?_eq_getElem _
        rw [this]
        exact ⟨_, rfl⟩
      have good : ∀ (s : Str × Str) (x3 x4 : Option V) (e : Addr) (H5 H6 : Hp), o = some s → Same H1 H5 → H5 e = some (.tup [.str s.1, .str s.2]) → H6 l = some (.lst (rs.map V.ref ++ [.ref e])) → (∀ b, b ≠ l → H6 b = H5 b) → ∃ (o3 o4 : Option V) (rs : List Addr) (ss : List (Str × Str)), [some (V.str z), some (.ref w), some (.ref l), x3, x4] = [some (.str z), some (.ref w), some (.ref l), o3, o4] ∧ H6 l = some (.lst (rs.map V.ref)) ∧ H6 w = some (.lst ((Txt.split z "\n").map V.str)) ∧ StepRow H6 rs ss ∧ os.take (i + 1) = ss.map some ∧ ss.length = i + 1 ∧ Same H H6 := fun s x3 x4 e H5 H6 eo2 s5 ge g6 off => by
        have kp := tup_off (s5 _ _ gl1) off
        refine ⟨_, _, rs ++ [e], ss ++ [s], rfl, by rw [List.map_append]; exact g6, by rw [off w wl]; exact s5 _ _ gw1, ((sr.same s5).keep kp).app (.one (kp _ _ ge)), ?_, by rw [List.length_append, sn]; rfl, Rd.same_off (sm.trans s5) (sG.free nl) off⟩
        rw [Rd.take_snoc eo, ts, eo2, List.map_append]
        rfl
      have ll : (rs.map V.ref).length < sizeLine := by rw [List.length_map, sr.1, sizeLine_eq]; omega
      walk_at "rd"
      refine Rd.ixL (.of gw1) (by rw [Int.zero_add]; exact atI_nat (j := i) (by rw [List.getElem?_map, hr]; rfl)) ?_
      walk_at "rd"
      refine Rf.tyS ?_
      walk_at "rd"
      refine Rf.swS ?_
      rcases hc with ⟨v, rfl, hv⟩ | ⟨v, rfl, hv⟩ | ⟨f1, f2, hv⟩
      · have ve := Rf.cut_on v
        have vl : v.length ≤ 1000000 := by
          have := cutS_length ("on" ++ " " ++ v) (some 3) none
          rw [ve] at this
          rw [sizeLine_eq] at rz
          omega
        rw [(Rf.sw_on v).1]
        walk_at "rd"
        refine Rd.slS rz ?_
        rw [ve]
        walk_at "rd"
        refine ⟨v, rfl, vl, fun b H2 hb s12 => ?_⟩
        rcases hv with ⟨eo2, W⟩ | ⟨eo2, nW⟩
        · rw [hb.mpr W]
          walk_at "rd"
          refine Rd.tyL (.of (s12 _ _ gl1)) ?_
          walk_at "rd"
          refine Rd.slS rz ?_
          rw [ve]
          walk_at "rd"
          refine ⟨Nat.le_of_ble_eq_true rfl, Rd.new fun e H3 ne ge s23 => ?_⟩
          walk_at "rd"
          refine Rd.app (s23 _ _ (s12 _ _ gl1)) ll fun H4 g4 off4 => ?_
          walk_at "rd"
          exact good _ _ _ e H3 H4 eo2 (s12.trans s23) ge g4 off4
        · cases b with
          | true => exact absurd (hb.mp rfl) nW
          | false =>
            walk_at "rd"
            refine Rf.tyS ?_
            walk_at "rd"
            refine Rf.swS ?_
            rw [(Rf.sw_on v).2]
            walk_at "rd"
            refine ⟨Nat.le_of_ble_eq_true rfl, Rd.new fun p H3 np gp s23 => ?_⟩
            exact bad eo2 p H3 (s12.trans s23) gp
      · have ve := Rf.cut_back v
        have vl : v.length ≤ 1000000 := by
          have := cutS_length ("back" ++ " " ++ v) (some 5) none
          rw [ve] at this
          rw [sizeLine_eq] at rz
          omega
        rw [(Rf.sw_back v).1]
        walk_at "rd"
        refine Rf.tyS ?_
        walk_at "rd"
        refine Rf.swS ?_
        rw [(Rf.sw_back v).2]
        walk_at "rd"
        refine Rd.slS rz ?_
        rw [ve]
        walk_at "rd"
        refine ⟨v, rfl, vl, fun b H2 hb s12 => ?_⟩
        rcases hv with ⟨eo2, W⟩ | ⟨eo2, nW⟩
        · rw [hb.mpr W]
          walk_at "rd"
          refine Rd.tyL (.of (s12 _ _ gl1)) ?_
          walk_at "rd"
          refine Rd.slS rz ?_
          rw [ve]
          walk_at "rd"
          refine ⟨Nat.le_of_ble_eq_true rfl, Rd.new fun e H3 ne ge s23 => ?_⟩
          walk_at "rd"
          refine Rd.app (s23 _ _ (s12 _ _ gl1)) ll fun H4 g4 off4 => ?_
          walk_at "rd"
          exact good _ _ _ e H3 H4 eo2 (s12.trans s23) ge g4 off4
        · cases b with
          | true => exact absurd (hb.mp rfl) nW
          | false =>
            walk_at "rd"
            refine ⟨Nat.le_of_ble_eq_true rfl, Rd.new fun p H3 np gp s23 => ?_⟩
            exact bad eo2 p H3 (s12.trans s23) gp
      · rw [f1]
        walk_at "rd"
        refine Rf.tyS ?_
        walk_at "rd"
        refine Rf.swS ?_
        rw [f2]
        walk_at "rd"
        refine ⟨Nat.le_of_ble_eq_true rfl, Rd.new fun p H3 np gp s23 => ?_⟩
        exact bad hv p H3 s23 gp
    · rintro _ H1 ⟨o3, o4, rs, ss, rfl, gl1, gw1, sr, ts, sn, sm⟩
      rw [← ol, List.take_length] at ts
      subst ts
      have okr := (rowsO_ok ho).1
      have s1 : 1 ≤ ss.length := by
        have := List.length_pos_iff.mpr (Rf.split_ne z "\n")
        omega
      have wrong : ¬ RightS ss → ∀ (p : Addr) (H5 : Hp), Same H1 H5 → H5 p = some (.tup [.str "text", .int ((ss.length : Nat) : Int)]) → Q (.ref p) H5 := fun n p H5 s gp => k p H5 (sm.trans s) (.inr (.inl ⟨ss, rfl, n, gp⟩))
      have stepAt : ∀ i, i < ss.length → ∃ (r : Addr) (s : Str × Str), (rs.map V.ref)[i]? = some (.ref r) ∧ ss[i]? = some s ∧ H1 r = some (.tup [.str s.1, .str s.2]) := fun i hi => by
        have er : rs[i]? = some (rs[i]'(by rw [sr.1]; exact hi)) := List.getElem?_eq_getElem _
        have es : ss[i]? = some ss[i] := List.getElem?_eq_getElem _
        exact ⟨_, _, by rw [List.getElem?_map, er]; rfl, es, sr.2 i _ _ er es⟩
      obtain ⟨r0, s0, x0, t0, g0⟩ := stepAt 0 (by omega)
      obtain ⟨r1, s1', x1, t1, g1⟩ := stepAt (ss.length - 1) (by omega)
      walk_at "rd"
      refine Rd.len (.inl (.of gl1)) ?_
      rw [List.length_map, sr.1]
      walk_at "rd"
      have out : ¬ RightS ss → True := fun _ => trivial
      clear out
      by_cases c1 : ((ss.length : Nat) : Int) > 80
      · refine Rd.yes c1 ?_
        walk_at "rd"
        refine Rd.len (.inl (.of gw1)) ?_
        rw [List.length_map, ← ol, List.length_map]
        walk_at "rd"
        refine ⟨Nat.le_of_ble_eq_true rfl, Rd.new fun p H3 np gp s3 => ?_⟩
        exact wrong (fun R => absurd R.l80 (by omega)) p H3 s3 gp
      refine Rd.no c1 ?_
      walk_at "rd"
      refine Rd.ixL (.of gl1) (atI_nat (j := 0) x0) ?_
      walk_at "rd"
      refine Rd.ixT (.of g0) (atI_nat (j := 0) rfl) ?_
      walk_at "rd"
      by_cases c2 : s0.1 = ("on" : Str)
      rotate_left
      · refine Rd.no c2 ?_
        walk_at "rd"
        refine Rd.len (.inl (.of gw1)) ?_
        rw [List.length_map, ← ol, List.length_map]
        walk_at "rd"
        refine ⟨Nat.le_of_ble_eq_true rfl, Rd.new fun p H3 np gp s3 => ?_⟩
        refine wrong (fun R => ?_) p H3 s3 gp
        obtain ⟨y, e⟩ := R.first
        rw [t0] at e
        cases e
        exact c2 rfl
      refine Rd.yes c2 ?_
      walk_at "rd"
      refine Rd.ixL (.of gl1) (last_at (by rw [List.length_map, sr.1]; exact x1)) ?_
      walk_at "rd"
      refine Rd.ixT (.of g1) (atI_nat (j := 0) rfl) ?_
      walk_at "rd"
      by_cases c3 : s1'.1 = ("on" : Str)
      rotate_left
      · refine Rd.no c3 ?_
        walk_at "rd"
        refine Rd.len (.inl (.of gw1)) ?_
        rw [List.length_map, ← ol, List.length_map]
        walk_at "rd"
        refine ⟨Nat.le_of_ble_eq_true rfl, Rd.new fun p H3 np gp s3 => ?_⟩
        refine wrong (fun R => ?_) p H3 s3 gp
        obtain ⟨y, e⟩ := R.last
        rw [t1] at e
        cases e
        exact c3 rfl
      refine Rd.yes c3 ?_
      walk_at "rd"
      refine Rd.tupOf (.of gl1) (Rd.new fun t H3 nt gt s3 => ?_)
      walk_at "rd"
      refine ⟨Nat.le_of_ble_eq_true rfl, Rd.new fun p H4 np gp s4 => ?_⟩
      refine k p H4 (sm.trans (s3.trans s4)) (.inr (.inr ⟨ss, t, rfl, ⟨s1, by omega, okr, ⟨s0.2, by rw [t0, ← c2]⟩, ⟨s1'.2, by rw [t1, ← c3]⟩⟩, gp, (sr.same (s3.trans s4)).tup (s4 _ _ gt)⟩))
theorem ok_l_asked (T : Txt w K mg) : FnOk P w K mg base CX0 6 T.f_l_asked T.fd_l_asked ["_law_text_here"] (sp_l_asked K T.C_BadText) := by
  refine T.F_l_asked.ok sc_l_asked (fun vs H Q E h => ?_) (fun cdv A outer s H vs Q E hr h => ?_)
  · obtain ⟨x, rfl, _⟩ := h
    rfl
  · obtain ⟨x, rfl, h⟩ := h
    refine ⟨_, (pss_cons (ps_set (i := 1) sc_l_asked.nd rfl (.inl rfl) (pe_tup (pa_cons pe_str (pa_cons pe_non pa_nil))))
  (pss_cons (Rh.ps_tryC (W0 := (fun _ _ _ _ => False)) rfl rfl sc_l_asked.nd takes0 (Rh.Fits.kept (i := 2) ⟨rfl, by decide, Or.inl T.c_BadText⟩ rfl rfl (fun a oe cls d pn hz hf => (pss_one (ps_set (i := 1) sc_l_asked.nd rfl (.inl rfl) (pe_tup (pa_cons (pe_ix (r := rIxL K) ix_list (pe_lst (pa_cons pe_str (pa_cons pe_str pa_nil))) (pe_callTy (T := "int") (r := _) Rd.c_int (by rfl) T.n_int (by decide +kernel) (pa_cons (pe_or (pe_callB (id := "isinstance") (r := Rx.rIsX K a cls d) (Rx.call_isX hz hf) (by rfl) T.n_isinstance (by decide +kernel) (pa_cons (pv 2) (pa_cons (pe_glob (v := .ref T.C_BadRule) rfl T.c_BadRule rfl) pa_nil))) (pe_one (pe_callB (id := "isinstance") (r := Rx.rIsX K a cls d) (Rx.call_isX hz hf) (by rfl) T.n_isinstance (by decide +kernel) (pa_cons (pv 2) (pa_cons (pe_glob (v := .ref T.C_BadWord) rfl T.c_BadWord rfl) pa_nil))))) pa_nil)) (fun _ _ => rfl)) (pa_cons (Rx.pe_xv hz hf (pv 2) : PE _ _ (Rx.tXv K a cls d _ _)) pa_nil)))))) (Rh.Fits.bare ⟨rfl, by decide, Or.inl T.c_WayError⟩ (fun a oe cls d pn hz hf => (pss_one (ps_set (i := 1) sc_l_asked.nd rfl (.inl rfl) (pe_tup (pa_cons pe_str (pa_cons pe_non pa_nil)))))) Rh.Fits.nil))
   (fun W pn xe tk _ => (pss_one (ps_set (i := 1) sc_l_asked.nd rfl (.inl rfl) (pe_tup (pa_cons pe_str (pa_cons (pe_callS (ok_read_rule T) (hr.mono (by decide)) rfl T.g_read_rule T.F_read_rule.kp T.b_read_rule (fun σ => passAt tk σ) (pa_cons (pv 0) pa_nil)) pa_nil)))))))
  (pss_one (ps_ret (pv 1))))), ?_⟩
    walk_at "rd"
    refine ⟨Nat.le_of_ble_eq_true rfl, Rd.new fun p0 G0 n0 g0 s0 => ?_⟩
    walk_at "rd"
    rcases h with ⟨z, os, rfl, zl, ho, k⟩ | ⟨od, k⟩
    · refine ⟨_, rfl, .inl ⟨z, os, rfl, zl, ho, ?_⟩⟩
      rcases first_none os with ⟨i, fi⟩ | ⟨ss, e⟩
      · refine .inl ⟨i, fi, fun d H2 nd hd s2 => ?_⟩
        refine Rh.wish_hit T.X_BadText T.s_BadText_BadText fun ea na => ?_
        walk_at "rd"
        refine ⟨Nat.le_of_ble_eq_true rfl, Rd.new fun L G2 nL gL sL => ?_⟩
        walk_at "rd"
        refine Rx.isX T.X_BadText T.X_BadRule T.s_BadText_BadRule (sL _ _ hd) ?_
        walk_at "rd"
        refine Rx.isX T.X_BadText T.X_BadWord T.s_BadText_BadWord (sL _ _ hd) ?_
        walk_at "rd"
        refine Rd.intB ?_
        refine Rd.ixL (.of gL) (atI_nat (j := 0) rfl) ?_
        walk_at "rd"
        refine Rx.xv T.X_BadText (sL _ _ hd) ?_
        walk_at "rd"
        refine ⟨Nat.le_of_ble_eq_true rfl, Rd.new fun p H3 np gp s3 => ?_⟩
        walk_at "rd"
        exact k p H3 ((s0.trans s2).trans (sL.trans s3)) (.inl ⟨i, fi, gp⟩)
      · by_cases R : RightS ss
        · refine .inr (.inr ⟨ss, e, R, fun q H1 st s1 => ?_⟩)
          walk_at "rd"
          refine ⟨Nat.le_of_ble_eq_true rfl, Rd.new fun p H3 np gp s3 => ?_⟩
          walk_at "rd"
          exact k p H3 ((s0.trans s1).trans s3) (.inr (.inr ⟨ss, q, e, R, gp, st.same s3⟩))
        · refine .inr (.inl ⟨ss, e, R, fun d H2 nd hd s2 => ?_⟩)
          refine Rh.wish_hit T.X_BadText T.s_BadText_BadText fun ea na => ?_
          walk_at "rd"
          refine ⟨Nat.le_of_ble_eq_true rfl, Rd.new fun L G2 nL gL sL => ?_⟩
          walk_at "rd"
          refine Rx.isX T.X_BadText T.X_BadRule T.s_BadText_BadRule (sL _ _ hd) ?_
          walk_at "rd"
          refine Rx.isX T.X_BadText T.X_BadWord T.s_BadText_BadWord (sL _ _ hd) ?_
          walk_at "rd"
          refine Rd.intB ?_
          refine Rd.ixL (.of gL) (atI_nat (j := 0) rfl) ?_
          walk_at "rd"
          refine Rx.xv T.X_BadText (sL _ _ hd) ?_
          walk_at "rd"
          refine ⟨Nat.le_of_ble_eq_true rfl, Rd.new fun p H3 np gp s3 => ?_⟩
          walk_at "rd"
          exact k p H3 ((s0.trans s2).trans (sL.trans s3)) (.inr (.inl ⟨ss, e, R, gp⟩))
    · refine ⟨_, rfl, .inr ⟨od.same s0, fun d H2 nd hd s2 => ?_⟩⟩
      refine Rh.wish_hit T.X_BadText T.s_BadText_BadText fun ea na => ?_
      walk_at "rd"
      refine ⟨Nat.le_of_ble_eq_true rfl, Rd.new fun L G2 nL gL sL => ?_⟩
      walk_at "rd"
      refine Rx.isX T.X_BadText T.X_BadRule T.s_BadText_BadRule (sL _ _ hd) ?_
      walk_at "rd"
      refine Rx.isX T.X_BadText T.X_BadWord T.s_BadText_BadWord (sL _ _ hd) ?_
      walk_at "rd"
      refine Rd.intB ?_
      refine Rd.ixL (.of gL) (atI_nat (j := 0) rfl) ?_
      walk_at "rd"
      refine Rx.xv T.X_BadText (sL _ _ hd) ?_
      walk_at "rd"
      refine ⟨Nat.le_of_ble_eq_true rfl, Rd.new fun p H3 np gp s3 => ?_⟩
      walk_at "rd"
      exact k p H3 ((s0.trans s2).trans (sL.trans s3)) gp

end
end W

namespace W
open PySem PySem.Spec PyProof.Rows L2
section
variable {P : Program} {w : World} {K : PySem.W.Frag} {mg : Str → Option Value} {base : Heap}
/-! ### rules and rows drawn -/
theorem snoc_all {α : Type} {P : α → Prop} {ws : List α} {y : α} (h : ∀ x ∈ ws, P x) (q : P y) : ∀ x ∈ ws ++ [y], P x := fun x m => (List.mem_append.mp m).elim (h x) fun e => (List.mem_singleton.mp e) ▸ q
theorem cut_toI {xs : List V} {m : Int} (h : 0 ≤ m) : cutV xs none (some m) = xs.take m.toNat := by
  obtain ⟨n, rfl⟩ : ∃ n : Nat, m = n := ⟨m.toNat, by omega⟩
  unfold cutV
  rw [show HT.sIx xs.length 0 none = 0 from rfl, HT.sIx_nat, List.drop_zero, Nat.sub_zero]
  rw [← List.take_eq_take_min]
  rfl
def sp_l_rule (K : PySem.W.Frag) : Sp := fun vs H Q _ => ∃ (t c : Addr), vs = [.ref t] ∧ Tape H t c ∧ ∀ (q : Addr) (ss : List (Str × Str)) H', Tape H' t c → Rd.But t H H' → StepsAt H' q ss → RightS ss → Q (.ref q) H'
theorem way_at {r : Int} (h0 : 0 ≤ r) (h1 : r < 2) {a b : Str} : ∃ w, [V.str a, .str b][r.toNat]? = some (.str w) ∧ (w = a ∨ w = b) := by
  have : r.toNat = 0 ∨ r.toNat = 1 := by omega
  rcases this with e | e <;> rw [e]
  · exact ⟨_, rfl, .inl rfl⟩
  · exact ⟨_, rfl, .inr rfl⟩
theorem wd12_of {z : Str} (hz : Lt.Wd 40 z) : Lt.Wd 12 (cutS z none (some 12)) := by
  have cl := Lt.cut_to (z := z) (b := 12) (by omega)
  have z0 := hz.l0
  exact ⟨hz.ok.cut _ _, by omega, by omega⟩
theorem ok_l_rule (T : Txt w K mg) : FnOk P w K mg base CX0 4 T.f_l_rule T.fd_l_rule ["_law_tape_here"] (sp_l_rule K) := by
  refine T.F_l_rule.ok sc_l_rule (fun vs H Q E h => ?_) (fun cdv A outer s H vs Q E hr h => ?_)
  · obtain ⟨t, c, rfl, _⟩ := h
    rfl
  · obtain ⟨t, c, rfl, tp, k⟩ := h
    refine ⟨_, (pss_cons (ps_set (i := 1) sc_l_rule.nd rfl (.inr rfl) (pe_call (ok_l_word T) (hr.mono (by decide)) rfl T.g_l_word T.F_l_word.kp T.b_l_word .nil pass0 (pa_cons (pv 0) (pa_cons pe_int pa_nil))))
  (pss_cons (ps_set (i := 2) sc_l_rule.nd rfl (.inl rfl) (pe_lst pa_nil))
  (pss_cons (ps_for PassesOwn.never rfl (pi_range1 rfl T.n_range (pa_cons (pe_ix (r := rIxL K) ix_list (pe_lst (pa_cons (pe_call (ok_l_pick T) (hr.mono (by decide)) rfl T.g_l_pick T.F_l_pick.kp T.b_l_pick .nil pass0 (pa_cons (pv 0) (pa_cons pe_int pa_nil))) (pa_cons (pe_call (ok_l_pick T) (hr.mono (by decide)) rfl T.g_l_pick T.F_l_pick.kp T.b_l_pick .nil pass0 (pa_cons (pv 0) (pa_cons pe_int pa_nil))) (pa_cons pe_int pa_nil)))) (pe_call (ok_l_pick T) (hr.mono (by decide)) rfl T.g_l_pick T.F_l_pick.kp T.b_l_pick .nil pass0 (pa_cons (pv 0) (pa_cons pe_int pa_nil))) (fun _ _ => rfl)) pa_nil)) (pg_name (i := 3) sc_l_rule.nd rfl (.inl rfl))
  (pss_one (ps_expr (pe_bm PySem.F.plainAttrs_list PySem.F.slot_list_append PySem.F.type_list_append mt_append (pv 2) (pa_cons (pe_tup (pa_cons (pe_ix (r := rIxL K) ix_list (pe_lst (pa_cons pe_str (pa_cons pe_str pa_nil))) (pe_call (ok_l_pick T) (hr.mono (by decide)) rfl T.g_l_pick T.F_l_pick.kp T.b_l_pick .nil pass0 (pa_cons (pv 0) (pa_cons pe_int pa_nil))) (fun _ _ => rfl)) (pa_cons (pe_call (ok_l_watch T) (hr.mono (by decide)) rfl T.g_l_watch T.F_l_watch.kp T.b_l_watch .nil pass0 (pa_cons (pv 0) (pa_cons (pv 1) (pa_cons pe_int pa_nil)))) pa_nil))) pa_nil)))))
  (pss_cons (ps_setLc (i := 4) (own := [("_law_k", 3)]) (g := gName 3) (tt := tYes) rfl sc_l_rule.nd rfl rfl (sw_true rfl rfl rfl (by decide +kernel)) (pi_range1 rfl T.n_range (pa_cons (pe_op op_add pe_int (pe_call (ok_l_pick T) (hr.mono (by decide)) rfl T.g_l_pick T.F_l_pick.kp T.b_l_pick .nil pass0 (pa_cons (pv 0) (pa_cons pe_int pa_nil)))) pa_nil)) (blkOk_by (own := [("_law_k", 3)]) (N := ["_law_tape_here", "_law_word_here", "_law_steps", "_law_k", "_law_ends"]) (sc := defScope s_l_rule) (by decide +kernel)) (fun _ _ _ _ _ => (pg_name (i := 3) sc_l_rule.nd rfl (.inl rfl))) (fun _ _ _ _ _ => pts_nil) (fun _ _ _ _ _ => (pe_tup (pa_cons pe_str (pa_cons (pe_call (ok_l_watch T) (hr.mono (by decide)) rfl T.g_l_watch T.F_l_watch.kp T.b_l_watch .nil pass0 (pa_cons (pv 0) (pa_cons (pv 1) (pa_cons pe_int pa_nil)))) pa_nil)))))
  (pss_cons (ps_if (pt_cmpR op_gt (pe_callB (id := "len") (r := Rd.nLen K) Rd.c_len (by rfl) T.n_len (by decide +kernel) (pa_cons (pv 2) pa_nil)) pe_int (nomark _))
  (pss_one (ps_ret (pe_callTy (T := "tuple") (r := Rd.nTupOf K) Rd.c_tupOf (by rfl) T.n_tuple (by decide +kernel) (pa_cons (pe_op op_cat (pe_op op_cat (pe_lst (pa_cons (pe_tup (pa_cons pe_str (pa_cons (pe_slice sl_str (pv 1) po_none (po_some pe_int)) pa_nil))) pa_nil)) (pv 2)) (pe_slice (r := rSlL K) sl_list (pv 4) po_none (po_some pe_int))) pa_nil))))
  pss_nil)
  (pss_one (ps_ret (pe_callTy (T := "tuple") (r := Rd.nTupOf K) Rd.c_tupOf (by rfl) T.n_tuple (by decide +kernel) (pa_cons (pv 4) pa_nil))))))))), ?_⟩
    walk_at "rd"
    refine ⟨t, c, 40, rfl, tp, by decide, by decide, fun z H1 hz tp1 b1 => ?_⟩
    have zk : Lt.Wd 1000 z := ⟨hz.ok, hz.l0, by have := hz.l1; omega⟩
    walk_at "rd"
    refine ⟨Nat.zero_le _, Rd.new fun l G nl gl sG => ?_⟩
    have ⟨lt, lc⟩ := tp1.new nl
    have nl0 := b1.free lt nl
    walk_at "rd"
    refine Rd.forS ?_
    walk_at "rd"
    refine pickR (tp1.same sG) (by decide) (by decide) fun r1 H2 p0 p1 tp2 b2 => ?_
    walk_at "rd"
    refine pickR tp2 (by decide) (by decide) fun r2 H3 q0 q1 tp3 b3 => ?_
    walk_at "rd"
    refine ⟨Nat.le_of_ble_eq_true rfl, Rd.new fun L G4 nL gL s4 => ?_⟩
    walk_at "rd"
    refine pickR (tp3.same s4) (by decide) (by decide) fun r3 H5 u0 u1 tp5 b5 => ?_
    obtain ⟨n, hn, n0, n1⟩ : ∃ n : Int, [V.int r1, .int r2, .int 78][r3.toNat]? = some (.int n) ∧ 0 ≤ n ∧ n ≤ 78 := by
      have : r3.toNat = 0 ∨ r3.toNat = 1 ∨ r3.toNat = 2 := by omega
      rcases this with e | e | e <;> rw [e]
      · exact ⟨_, rfl, p0, by omega⟩
      · exact ⟨_, rfl, q0, by omega⟩
      · exact ⟨_, rfl, by decide, by decide⟩
    refine Rd.ixL (.of (b5 _ _ (tp3.new nL).1 gL)) (Rd.atI_of u0 hn) ?_
    walk_at "rd"
    refine ⟨by omega, by omega, ?_⟩
    have gl5 := b5 _ _ lt (s4 _ _ (b3 _ _ lt (b2 _ _ lt gl)))
    have b05 : Rd.But t H H5 := ((((b1.same sG).trans b2).trans b3).same s4).trans b5
    refine for_range (lo := 0) (n := n.toNat) (fun i σ H' => ∃ (o3 : Option V) (rs : List Addr) (ss : List (Str × Str)), σ = [some (.ref t), some (.str z), some (.ref l), o3, none] ∧ Tape H' t c ∧ Rd.But t H H' ∧ H' l = some (.lst (rs.map V.ref)) ∧ StepRow H' rs ss ∧ (∀ s ∈ ss, StepOk s) ∧ ss.length = i)
      ⟨_, [], [], rfl, tp5, b05, gl5, StepRow.nil _, fun _ m => (nomatch m), rfl⟩ ?_ ?_
    · rintro i _ H6 hi ⟨o3, rs, ss, rfl, tp6, b6, gl6, sr, ok, sl⟩
      walk_at "rd"
      refine Rd.tyL (.of gl6) ?_
      walk_at "rd"
      refine ⟨Nat.le_of_ble_eq_true rfl, Rd.new fun L2 G7 nL2 gL2 s7 => ?_⟩
      walk_at "rd"
      have tp7 := tp6.same s7
      refine pickR tp7 (by decide) (by decide) fun w H8 w0 w1 tp8 b8 => ?_
      obtain ⟨wy, hw, hwy⟩ := way_at w0 w1 (a := "on") (b := "back")
      refine Rd.ixL (.of (b8 _ _ (tp6.new nL2).1 gL2)) (Rd.atI_of w0 hw) ?_
      walk_at "rd"
      refine ⟨t, c, z, 12, rfl, tp8, zk, by decide, by decide, fun y H9 hy tp9 b9 => ?_⟩
      walk_at "rd"
      refine ⟨Nat.le_of_ble_eq_true rfl, Rd.new fun e HA ne ge sA => ?_⟩
      have gl9 := b9 _ _ lt (b8 _ _ lt (s7 _ _ gl6))
      have glA := sA _ _ gl9
      walk_at "rd"
      refine Rd.app glA (by rw [List.length_map, sr.1, sizeLine_eq]; omega) fun HB gB offB => ?_
      have tpA := tp9.same sA
      have kp := tup_off glA offB
      walk_at "rd"
      refine ⟨_, rs ++ [e], ss ++ [(wy, y)], rfl, tpA.off lt lc offB, but_off ((((b6.same s7).trans b8).trans b9).same sA) nl0 offB, by rw [List.map_append]; exact gB, ?_, snoc_all ok ⟨hwy, hy⟩, by rw [List.length_append, sl]; rfl⟩
      refine StepRow.app ((sr.same s7).keep fun b xs g => kp _ _ (sA _ _ (tup_but tp8 b9 _ _ (tup_but tp7 b8 _ _ g)))) (.one (kp _ _ ge))
    · rintro _ H6 ⟨o3, rs, ss, rfl, tp6, b6, gl6, sr, ok, sl⟩
      walk_at "rd"
      refine pickR tp6 (by decide) (by decide) fun m H7 m0 m1 tp7 b7 => ?_
      walk_at "rd"
      refine ⟨by omega, by omega, ?_⟩
      have gl7 := b7 _ _ lt gl6
      have sr7 := sr.keep (tup_but tp6 b7)
      refine lcT walk_range tp7 (fun _ _ => trivial) (fun D i acc H' => ∃ (rs : List Addr) (ss : List (Str × Str)), acc = rs.map V.ref ∧ StepRow H' rs ss ∧ (∀ s ∈ ss, StepOk s ∧ s.1 = ("on" : Str)) ∧ ss.length = i) (fun D G nD _ _ => ⟨[], [], rfl, StepRow.nil _, fun _ m => (nomatch m), rfl⟩) ?_ ?_
      · rintro D i x G _ acc nD hi hD tpG bG ⟨es, ts, rfl, er, oe, el⟩ ⟨rfl, rfl⟩
        walk_at "rd"
        refine ⟨rfl, ?_⟩
        walk_at "rd"
        refine ⟨t, c, z, 12, rfl, tpG, zk, by decide, by decide, fun y H8 hy tp8 b8 => ?_⟩
        walk_at "rd"
        refine ⟨Nat.le_of_ble_eq_true rfl, Rd.new fun e H9 ne ge s9 => ?_⟩
        have ⟨Dt, Dc⟩ := tp7.new nD
        have hD9 := s9 _ _ (b8 _ _ Dt hD)
        refine lcPuT hD9 nD tp7 (tp8.same s9) ((bG.trans b8).same s9) (by rw [List.length_map, er.1, sizeLine_eq]; omega) fun HA gA offA => ?_
        have kp := tup_off hD9 offA
        refine ⟨es ++ [e], ts ++ [(("on" : Str), y)], by rw [List.map_append]; rfl, ?_, snoc_all oe ⟨⟨.inl rfl, hy⟩, rfl⟩, by rw [List.length_append, el]; rfl⟩
        exact StepRow.app (er.keep fun b xs g => kp _ _ (s9 _ _ (tup_but tpG b8 _ _ g))) (.one (kp _ _ ge))
      · rintro D acc G nD hD tpG bG ⟨es, ts, rfl, er, oe, el⟩
        have ⟨Dt, Dc⟩ := tp7.new nD
        have glG := bG _ _ lt gl7
        have srG := sr7.keep (tup_but tp7 bG)
        have bHG := (b6.trans b7).trans bG
        walk_at "rd"
        refine Rd.len (.inl (.of glG)) ?_
        rw [List.length_map, sr.1]
        walk_at "rd"
        obtain ⟨te, te0⟩ : ∃ s, ts[0]? = some s := ⟨_, List.getElem?_eq_getElem (by omega)⟩
        by_cases c1 : ((ss.length : Nat) : Int) > 0
        · refine Rd.yes c1 ?_
          walk_at "rd"
          refine Rd.slS (by rw [sizeLine_eq]; have := hz.l1; omega) ?_
          walk_at "rd"
          refine ⟨Nat.le_of_ble_eq_true rfl, Rd.new fun e HA ne ge sA => ?_⟩
          walk_at "rd"
          refine ⟨Nat.le_of_ble_eq_true rfl, Rd.new fun L1 HB nL1 gL1 sB => ?_⟩
          walk_at "rd"
          have glB := sB _ _ (sA _ _ glG)
          refine Rd.cat gL1 glB (by rw [List.length_map, sr.1, sizeLine_eq, List.length_singleton]; omega) (Rd.new fun L2 HC nL2 gL2 sC => ?_)
          walk_at "rd"
          have hDC := sC _ _ (sB _ _ (sA _ _ hD))
          refine Rd.slL (.of hDC) ?_
          rw [cut_toI (by decide)]
          refine Rd.new fun L3 HD nL3 gL3 sD => ?_
          walk_at "rd"
          have e1 : (es.map V.ref).take (1 : Int).toNat = (es.take 1).map V.ref := by rw [← List.map_take]; rfl
          rw [e1] at gL3
          have gL2' := sD _ _ gL2
          refine Rd.cat gL2' gL3 (by rw [List.length_append, List.length_map, List.length_map, List.length_take, sr.1, sizeLine_eq, List.length_singleton]; omega) (Rd.new fun L4 HE nL4 gL4 sE => ?_)
          walk_at "rd"
          refine Rd.tupOf (.of gL4) (Rd.new fun q HF nq gq sF => ?_)
          have sGF := ((((sA.trans sB).trans sC).trans sD).trans sE).trans sF
          have eq : [V.ref e] ++ rs.map V.ref ++ (es.take 1).map V.ref = ([e] ++ rs ++ es.take 1).map V.ref := by simp
          rw [eq] at gq
          have one : StepRow HF [e] [(("on" : Str), cutS z none (some 12))] := .one (((((sB.trans sC).trans sD).trans sE).trans sF) _ _ ge)
          have last : StepRow HF (es.take 1) (ts.take 1) := ⟨by rw [List.length_take, List.length_take, er.1], fun i r s h1 h2 => by
            rw [List.getElem?_take] at h1 h2
            split at h1
            · rw [if_pos (by assumption)] at h2
              exact sGF _ _ (er.2 i r s h1 h2)
            · cases h1⟩
          have t1 : ts.take 1 = [te] := by
            cases ts with
            | nil => cases te0
            | cons a ts => cases te0; rfl
          have row := ((one.app (srG.same sGF)).app last).tup gq
          rw [t1] at row
          have ok1 : StepOk (("on" : Str), cutS z none (some 12)) := ⟨.inl rfl, wd12_of hz⟩
          have okt := oe te (List.mem_of_getElem? te0)
          refine k q _ HF (tpG.same sGF) (bHG.same sGF) row ⟨by simp, by simp; omega, fun s m => ?_, ⟨_, rfl⟩, ⟨te.2, ?_⟩⟩
          · simp only [List.mem_append, List.mem_singleton] at m
            rcases m with (rfl | m) | rfl
            · exact ok1
            · exact ok s m
            · exact okt.1
          · rw [List.getElem?_append_right (by simp)]
            simp
            exact Prod.ext okt.2 rfl
        · refine Rd.no c1 ?_
          walk_at "rd"
          refine Rd.tupOf (.of hD) (Rd.new fun q HF nq gq sF => ?_)
          obtain ⟨tl, tl0⟩ : ∃ s, ts[ts.length - 1]? = some s := ⟨_, List.getElem?_eq_getElem (by omega)⟩
          refine k q ts HF (tpG.same sF) (bHG.same sF) ((er.same sF).tup gq) ⟨by omega, by omega, fun s m => (oe s m).1, ⟨te.2, by rw [te0, ← (oe te (List.mem_of_getElem? te0)).2]⟩, ⟨tl.2, by rw [tl0, ← (oe tl (List.mem_of_getElem? tl0)).2]⟩⟩
/-- rows of bounded lengths -/
def RowsB (n : Nat) (ws : List Str) : Prop := ∀ y ∈ ws, y.length ≤ n
def sp_l_rows (K : PySem.W.Frag) : Sp := fun vs H Q _ => ∃ (t c : Addr), vs = [.ref t] ∧ Tape H t c ∧ ∀ (l : Addr) (ws : List Str) H', Tape H' t c → Rd.But t H H' → H l = none → H' l = some (.lst (ws.map V.str)) → 1 ≤ ws.length → ws.length ≤ 82 → RowsB 60 ws → Q (.ref l) H'
def sp_l_bent (K : PySem.W.Frag) : Sp := fun vs H Q _ => ∃ (t c a : Addr) (ws : List Str) (n : Nat), vs = [.ref t, .ref a] ∧ Tape H t c ∧ H a = some (.lst (ws.map V.str)) ∧ a ≠ t ∧ 1 ≤ ws.length ∧ ws.length ≤ 90 ∧ RowsB n ws ∧ n ≤ 200 ∧ ∀ (l : Addr) (us : List Str) H', Tape H' t c → Rd.But t H H' → H l = none → H' l = some (.lst (us.map V.str)) → 1 ≤ us.length → us.length ≤ ws.length + 1 → RowsB (n + 20) us → Q (.ref l) H'
theorem RowsB.set {n : Nat} {ws : List Str} {y : Str} (h : RowsB n ws) (q : y.length ≤ n) (i : Nat) : RowsB n (ws.set i y) := fun x m => by
  rcases List.mem_or_eq_of_mem_set m with m | rfl
  · exact h x m
  · exact q
theorem RowsB.up {n m : Nat} {ws : List Str} (h : RowsB n ws) (l : n ≤ m) : RowsB m ws := fun y q => Nat.le_trans (h y q) l
theorem app_len (a b : Str) : (a ++ b).length = a.length + b.length := Array.size_append
theorem cut_le (z : Str) (a b : Option Int) : (cutS z a b).length ≤ z.length := cutS_length z a b

end
end W

namespace W
open PySem PySem.Spec PyProof.Rows L2
section
variable {P : Program} {w : World} {K : PySem.W.Frag} {mg : Str → Option Value} {base : Heap}
/-! ### rows drawn and bent -/
theorem ixN_nat {n j : Nat} (hj : j < n) : ixN n (j : Int) = some j := by
  unfold ixN
  rw [if_pos (by omega), if_pos (by omega)]
  rfl
theorem ixN_last {n : Nat} (h : 1 ≤ n) : ixN n (-1) = some (n - 1) := by
  unfold ixN
  rw [if_neg (by decide), if_pos (by omega)]
  congr 1
  omega
theorem eraseIdx_mapS {α β : Type} (f : α → β) : ∀ (xs : List α) (k : Nat), (xs.eraseIdx k).map f = (xs.map f).eraseIdx k
  | [], _ => rfl
  | _ :: _, 0 => rfl
  | x :: xs, k + 1 => congrArg (f x :: ·) (eraseIdx_mapS f xs k)
theorem bl_len : ((" " : Str)).length = 1 := by decide +kernel
theorem join_splitB (z : Str) : Txt.join " " (Txt.split z " ") = z := by
  unfold PySem.Txt.split
  split
  · rfl
  · split
    · rfl
    · exact PySem.StrLaws.glued_between_self z " " (z.length + 1)
theorem split_memB {z r : Str} (m : r ∈ Txt.split z " ") : r.length ≤ z.length := by
  have h1 := Rf.sum_mem m
  have e := congrArg Str.length (join_splitB z)
  have e2 : (Txt.join " " (Txt.split z " ")).length = ((Txt.split z " ").map (·.length)).sum + ((Txt.split z " ").length - 1) * ((" " : Str)).length := PySem.size_glued _ _
  omega
theorem ok_l_rows (T : Txt w K mg) : FnOk P w K mg base CX0 4 T.f_l_rows T.fd_l_rows ["_law_tape_here"] (sp_l_rows K) := by
  refine T.F_l_rows.ok sc_l_rows (fun vs H Q E h => ?_) (fun cdv A outer s H vs Q E hr h => ?_)
  · obtain ⟨t, c, rfl, _⟩ := h
    rfl
  · obtain ⟨t, c, rfl, tp, k⟩ := h
    refine ⟨_, (pss_cons (ps_set (i := 1) sc_l_rows.nd rfl (.inl rfl) (pe_call (ok_l_word T) (hr.mono (by decide)) rfl T.g_l_word T.F_l_word.kp T.b_l_word .nil pass0 (pa_cons (pv 0) (pa_cons pe_int pa_nil))))
  (pss_cons (ps_set (i := 2) sc_l_rows.nd rfl (.inl rfl) (pe_lst pa_nil))
  (pss_cons (ps_for PassesOwn.never rfl (pi_range1 rfl T.n_range (pa_cons (pe_ix (r := rIxL K) ix_list (pe_lst (pa_cons pe_int (pa_cons pe_int (pa_cons (pe_op op_add (pe_call (ok_l_pick T) (hr.mono (by decide)) rfl T.g_l_pick T.F_l_pick.kp T.b_l_pick .nil pass0 (pa_cons (pv 0) (pa_cons pe_int pa_nil))) pe_int) (pa_cons pe_int (pa_cons pe_int (pa_cons pe_int pa_nil))))))) (pe_call (ok_l_pick T) (hr.mono (by decide)) rfl T.g_l_pick T.F_l_pick.kp T.b_l_pick .nil pass0 (pa_cons (pv 0) (pa_cons pe_int pa_nil))) (fun _ _ => rfl)) pa_nil)) (pg_name (i := 3) sc_l_rows.nd rfl (.inl rfl))
  (pss_one (ps_expr (pe_bm PySem.F.plainAttrs_list PySem.F.slot_list_append PySem.F.type_list_append mt_append (pv 2) (pa_cons (pe_op Rd.o_addS (pe_ix (r := rIxL K) ix_list (pe_lst (pa_cons pe_str (pa_cons pe_str pa_nil))) (pe_call (ok_l_pick T) (hr.mono (by decide)) rfl T.g_l_pick T.F_l_pick.kp T.b_l_pick .nil pass0 (pa_cons (pv 0) (pa_cons pe_int pa_nil))) (fun _ _ => rfl)) (pe_call (ok_l_watch T) (hr.mono (by decide)) rfl T.g_l_watch T.F_l_watch.kp T.b_l_watch .nil pass0 (pa_cons (pv 0) (pa_cons (pv 1) (pa_cons pe_int pa_nil))))) pa_nil)))))
  (pss_cons (ps_if (pt_cmpR op_gt (pe_call (ok_l_pick T) (hr.mono (by decide)) rfl T.g_l_pick T.F_l_pick.kp T.b_l_pick .nil pass0 (pa_cons (pv 0) (pa_cons pe_int pa_nil))) pe_int (nomark _))
  (pss_cons (ps_asg (pe_op Rd.o_addS pe_str (pe_slice sl_str (pv 1) po_none (po_some pe_int))) (pg_sub (pv 2) pe_int set_list))
  (pss_one (ps_asg (pe_op Rd.o_addS pe_str (pe_slice sl_str (pv 1) (po_some (pe_un un_neg pe_int)) po_none)) (pg_sub (pv 2) (pe_un un_neg pe_int) set_list))))
  pss_nil)
  (pss_one (ps_ret (pv 2))))))), ?_⟩
    walk_at "rd"
    refine ⟨t, c, 40, rfl, tp, by decide, by decide, fun z H1 hz tp1 b1 => ?_⟩
    have zk : Lt.Wd 1000 z := ⟨hz.ok, hz.l0, by have := hz.l1; omega⟩
    have z1 := hz.l1
    have zl : z.length ≤ sizeLine := hz.line (by decide)
    walk_at "rd"
    refine ⟨Nat.zero_le _, Rd.new fun l G nl gl sG => ?_⟩
    have ⟨lt, lc⟩ := tp1.new nl
    have nl0 := b1.free lt nl
    walk_at "rd"
    refine Rd.forS ?_
    walk_at "rd"
    refine pickR (tp1.same sG) (by decide) (by decide) fun r1 H2 p0 p1 tp2 b2 => ?_
    walk_at "rd"
    refine ⟨Nat.le_of_ble_eq_true rfl, Rd.new fun L G4 nL gL s4 => ?_⟩
    walk_at "rd"
    refine pickR (tp2.same s4) (by decide) (by decide) fun r3 H5 u0 u1 tp5 b5 => ?_
    obtain ⟨n, hn, n0, n1⟩ : ∃ n : Int, [V.int 1, .int 2, .int (r1 + 1), .int 80, .int 81, .int 82][r3.toNat]? = some (.int n) ∧ 1 ≤ n ∧ n ≤ 82 := by
      have : r3.toNat = 0 ∨ r3.toNat = 1 ∨ r3.toNat = 2 ∨ r3.toNat = 3 ∨ r3.toNat = 4 ∨ r3.toNat = 5 := by omega
      rcases this with e | e | e | e | e | e <;> rw [e]
      · exact ⟨_, rfl, by decide, by decide⟩
      · exact ⟨_, rfl, by decide, by decide⟩
      · exact ⟨_, rfl, by omega, by omega⟩
      · exact ⟨_, rfl, by decide, by decide⟩
      · exact ⟨_, rfl, by decide, by decide⟩
      · exact ⟨_, rfl, by decide, by decide⟩
    refine Rd.ixL (.of (b5 _ _ (tp2.new nL).1 gL)) (Rd.atI_of u0 hn) ?_
    walk_at "rd"
    refine ⟨by omega, by omega, ?_⟩
    have gl5 := b5 _ _ lt (s4 _ _ (b2 _ _ lt gl))
    have b05 : Rd.But t H H5 := (((b1.same sG).trans b2).same s4).trans b5
    refine for_range (lo := 0) (n := n.toNat) (fun i σ H' => ∃ (o3 : Option V) (ws : List Str), σ = [some (.ref t), some (.str z), some (.ref l), o3] ∧ Tape H' t c ∧ Rd.But t H H' ∧ H' l = some (.lst (ws.map V.str)) ∧ RowsB 60 ws ∧ ws.length = i)
      ⟨_, [], rfl, tp5, b05, gl5, fun _ m => (nomatch m), rfl⟩ ?_ ?_
    · rintro i _ H6 hi ⟨o3, ws, rfl, tp6, b6, gl6, wb, wl⟩
      walk_at "rd"
      refine Rd.tyL (.of gl6) ?_
      walk_at "rd"
      refine ⟨Nat.le_of_ble_eq_true rfl, Rd.new fun L2 G7 nL2 gL2 s7 => ?_⟩
      walk_at "rd"
      refine pickR (tp6.same s7) (by decide) (by decide) fun w H8 w0 w1 tp8 b8 => ?_
      obtain ⟨wy, hw, hwy⟩ := way_at w0 w1 (a := "on ") (b := "back ")
      refine Rd.ixL (.of (b8 _ _ (tp6.new nL2).1 gL2)) (Rd.atI_of w0 hw) ?_
      have l5 : wy.length ≤ 5 := by
        rcases hwy with e | e <;> rw [e] <;> decide +kernel
      walk_at "rd"
      refine ⟨t, c, z, 12, rfl, tp8, zk, by decide, by decide, fun y H9 hy tp9 b9 => ?_⟩
      have y1 := hy.l1
      walk_at "rd"
      refine Rd.addS (by rw [sizeLine_eq]; omega) ?_
      have al := app_len wy y
      walk_at "rd"
      have gl9 := b9 _ _ lt (b8 _ _ lt (s7 _ _ gl6))
      refine Rd.app gl9 (by rw [List.length_map, wl, sizeLine_eq]; omega) fun HB gB offB => ?_
      walk_at "rd"
      exact ⟨_, ws ++ [wy ++ y], rfl, tp9.off lt lc offB, but_off (((b6.same s7).trans b8).trans b9) nl0 offB, by rw [List.map_append]; exact gB, snoc_all wb (by omega), by rw [List.length_append, wl]; rfl⟩
    · rintro _ H6 ⟨o3, ws, rfl, tp6, b6, gl6, wb, wl⟩
      walk_at "rd"
      refine pickR tp6 (by decide) (by decide) fun m H7 m0 m1 tp7 b7 => ?_
      have gl7 := b7 _ _ lt gl6
      have b07 := b6.trans b7
      walk_at "rd"
      by_cases c1 : m > 0
      · refine Rd.yes c1 ?_
        walk_at "rd"
        refine Rd.slS zl ?_
        have k1 := cut_le z none (some 12)
        have o3l : (("on " : Str)).length = 3 := by decide +kernel
        walk_at "rd"
        refine Rd.addS (by rw [sizeLine_eq]; omega) ?_
        have al := app_len "on " (cutS z none (some 12))
        walk_at "rd"
        refine Rd.setG gl7 (ixN_nat (j := 0) (by rw [List.length_map]; omega)) (by rw [Rd.map_set]) fun G8 g8 off8 => ?_
        walk_at "rd"
        refine Rd.slS zl ?_
        have k2 := cut_le z (some (-12)) none
        walk_at "rd"
        refine Rd.addS (by rw [sizeLine_eq]; omega) ?_
        have al2 := app_len "on " (cutS z (some (-12)) none)
        walk_at "rd"
        refine Rd.setG g8 (ixN_last (by rw [List.length_map, List.length_set]; omega)) (by rw [Rd.map_set]) fun G9 g9 off9 => ?_
        walk_at "rd"
        exact k l _ G9 ((tp7.off lt lc off8).off lt lc off9) (but_off (but_off b07 nl0 off8) nl0 off9) nl0 g9 (by rw [List.length_set, List.length_set]; omega) (by rw [List.length_set, List.length_set]; omega) ((wb.set (by omega) _).set (by omega) _)
      · refine Rd.no c1 ?_
        walk_at "rd"
        exact k l ws H7 tp7 b07 nl0 gl7 (by omega) (by omega) wb
theorem ok_l_bent (T : Txt w K mg) : FnOk P w K mg base CX0 2 T.f_l_bent T.fd_l_bent ["_law_tape_here", "_law_rows_here"] (sp_l_bent K) := by
  refine T.F_l_bent.ok sc_l_bent (fun vs H Q E h => ?_) (fun cdv A outer s H vs Q E hr h => ?_)
  · obtain ⟨t, c, a, ws, n, rfl, _⟩ := h
    rfl
  · obtain ⟨t, c, a, ws, n, rfl, tp, ga, at_, w1, w90, wb, n2, k⟩ := h
    refine ⟨_, (pss_cons (ps_set (i := 1) sc_l_bent.nd rfl (.inl rfl) (pe_callTy (T := "list") (r := Rd.nListOf K) Rd.c_listOf (by rfl) T.n_list (by decide +kernel) (pa_cons (pv 1) pa_nil)))
  (pss_cons (ps_set (i := 2) sc_l_bent.nd rfl (.inl rfl) (pe_call (ok_l_pick T) (hr.mono (by decide)) rfl T.g_l_pick T.F_l_pick.kp T.b_l_pick .nil pass0 (pa_cons (pv 0) (pa_cons (pe_callB (id := "len") (r := Rd.nLen K) Rd.c_len (by rfl) T.n_len (by decide +kernel) (pa_cons (pv 1) pa_nil)) pa_nil))))
  (pss_cons (ps_set (i := 3) sc_l_bent.nd rfl (.inl rfl) (pe_ix (r := rIxL K) ix_list (pv 1) (pv 2) (fun _ _ => rfl)))
  (pss_cons (ps_set (i := 4) sc_l_bent.nd rfl (.inl rfl) (pe_ix (r := rIxL K) ix_list (pe_bm PySem.F.plainAttrs_str PySem.F.slot_str_split PySem.F.type_str_split mt_split (pv 3) (pa_cons pe_str pa_nil)) (pe_un un_neg pe_int) (fun _ _ => rfl)))
  (pss_cons (ps_set (i := 5) sc_l_bent.nd rfl (.inl rfl) (pe_call (ok_l_pick T) (hr.mono (by decide)) rfl T.g_l_pick T.F_l_pick.kp T.b_l_pick .nil pass0 (pa_cons (pv 0) (pa_cons pe_int pa_nil))))
  (pss_cons (ps_if (pt_cmpR op_lt (pv 5) pe_int (nomark _))
  (pss_cons (ps_set (i := 6) sc_l_bent.nd rfl (.inl rfl) (pe_lst (pa_cons (pe_op Rd.o_addS pe_str (pv 4)) (pa_cons (pe_op Rd.o_addS pe_str (pv 4)) (pa_cons (pe_op Rd.o_addS pe_str (pv 4)) (pa_cons (pe_op Rd.o_addS (pv 3) pe_str) (pa_cons (pe_op Rd.o_addS pe_str (pv 3)) (pa_cons (pe_op Rd.o_addS pe_str (pv 4)) (pa_cons pe_str (pa_cons pe_str (pa_cons pe_str (pa_cons (pe_op Rd.o_addS (pe_op Rd.o_addS pe_str (pv 4)) pe_str) pa_nil))))))))))))
  (pss_cons (ps_set (i := 6) sc_l_bent.nd rfl (.inl rfl) (pe_op op_cat (pv 6) (pe_lst (pa_cons (pe_op Rd.o_addS pe_str (pe_op Rx.o_repS pe_str pe_int)) (pa_cons pe_str (pa_cons pe_str (pa_cons (pe_op Rd.o_addS pe_str (pv 4)) (pa_cons (pe_op Rd.o_addS pe_str (pv 4)) pa_nil))))))))
  (pss_one (ps_asg (pe_ix (r := rIxL K) ix_list (pv 6) (pe_call (ok_l_pick T) (hr.mono (by decide)) rfl T.g_l_pick T.F_l_pick.kp T.b_l_pick .nil pass0 (pa_cons (pv 0) (pa_cons pe_int pa_nil))) (fun _ _ => rfl)) (pg_sub (pv 1) (pv 2) set_list)))))
  pss_nil)
  (pss_cons (ps_if (PW.pt (pw_and (pt_cmpR op_eq (pv 5) pe_int (nomark _)) (pw_and1 (pt_cmpR op_gt (pe_callB (id := "len") (r := Rd.nLen K) Rd.c_len (by rfl) T.n_len (by decide +kernel) (pa_cons (pv 1) pa_nil)) pe_int (nomark _)))))
  (pss_one (ps_expr (pe_bm PySem.F.plainAttrs_list PySem.F.slot_list_pop PySem.F.type_list_pop mt_popAt (pv 1) (pa_cons (pv 2) pa_nil))))
  pss_nil)
  (pss_cons (ps_if (pt_cmpR op_eq (pv 5) pe_int (nomark _))
  (pss_one (ps_asg (pe_op Rd.o_addS pe_str (pv 4)) (pg_sub (pv 1) (pv 2) set_list)))
  pss_nil)
  (pss_cons (ps_if (pt_cmpR op_eq (pv 5) pe_int (nomark _))
  (pss_one (ps_set (i := 1) sc_l_bent.nd rfl (.inl rfl) (pe_op op_cat (pv 1) (pe_lst (pa_cons pe_str pa_nil)))))
  pss_nil)
  (pss_one (ps_ret (pv 1)))))))))))), ?_⟩
    walk_at "rd"
    refine Rd.listOf (.inl (.of ga)) (Rd.new fun l G nl gl sG => ?_)
    have ⟨lt, lc⟩ := tp.new nl
    walk_at "rd"
    refine Rd.len (.inl (.of gl)) ?_
    rw [List.length_map]
    walk_at "rd"
    refine pickR (tp.same sG) (by omega) (by omega) fun r H1 r0 r1 tp1 b1 => ?_
    have gl1 := b1 _ _ lt gl
    have hb1 : Rd.But t H H1 := (Rd.But.of sG).trans b1
    obtain ⟨y, hy⟩ : ∃ y, ws[r.toNat]? = some y := ⟨_, List.getElem?_eq_getElem (by omega)⟩
    have yl := wb y (List.mem_of_getElem? hy)
    walk_at "rd"
    refine Rd.ixL (.of gl1) (Rd.atI_of r0 (by rw [List.getElem?_map, hy]; rfl)) ?_
    walk_at "rd"
    refine Rf.tyS ?_
    walk_at "rd"
    refine Rf.splitS (by decide +kernel) (by omega) fun D G2 nD gD s2 => ?_
    have sp0 := List.length_pos_iff.mpr (Rf.split_ne y " ")
    obtain ⟨w, hw⟩ : ∃ w, (Txt.split y " ")[(Txt.split y " ").length - 1]? = some w := ⟨_, List.getElem?_eq_getElem (by omega)⟩
    have wl := split_memB (List.mem_of_getElem? hw)
    walk_at "rd"
    refine Rd.ixL (.of gD) (last_at (by rw [List.length_map, List.getElem?_map, hw]; rfl)) ?_
    walk_at "rd"
    have tp2 := tp1.same s2
    refine pickR tp2 (by decide) (by decide) fun kd H3 k0 k1 tp3 b3 => ?_
    have gl3 := b3 _ _ lt (s2 _ _ gl1)
    have b03 : Rd.But t H H3 := (hb1.same s2).trans b3
    have up := wb.up (show n ≤ n + 20 by omega)
    have wz : ∀ m, m ≤ 1000 → w.length + m ≤ sizeLine := fun m h => by rw [sizeLine_eq]; omega
    walk_at "rd"
    by_cases c3 : kd < 3
    · refine Rd.yes c3 ?_
      walk_at "rd"
      have q1 : (("up " : Str)).length = 3 := by decide +kernel
      have q2 : (("on" : Str)).length = 2 := by decide +kernel
      have q3 : (("on  " : Str)).length = 4 := by decide +kernel
      have q4 : (("On " : Str)).length = 3 := by decide +kernel
      have q5 : (("on " : Str)).length = 3 := by decide +kernel
      have q6 : (("1" : Str)).length = 1 := by decide +kernel
      have q7 : (("back-" : Str)).length = 5 := by decide +kernel
      have q8 : (("on back " : Str)).length = 8 := by decide +kernel
      have qb := bl_len
      have sl := sizeLine_eq
      refine Rd.addS (by omega) ?_
      walk_at "rd"
      refine Rd.addS (by omega) ?_
      walk_at "rd"
      refine Rd.addS (by omega) ?_
      walk_at "rd"
      refine Rd.addS (by omega) ?_
      walk_at "rd"
      refine Rd.addS (by omega) ?_
      walk_at "rd"
      refine Rd.addS (by omega) ?_
      walk_at "rd"
      refine Rd.addS (by omega) ?_
      have a1 := app_len "on " w
      walk_at "rd"
      refine Rd.addS (by omega) ?_
      walk_at "rd"
      refine ⟨Nat.le_of_ble_eq_true rfl, Rd.new fun L1 G4 nL1 gL1 s4 => ?_⟩
      walk_at "rd"
      refine Rx.repS (by unfold MulOk; decide +kernel) ?_
      have m13 : (Txt.mul ("a" : Str) 13).length = 13 := by decide +kernel
      generalize Txt.mul ("a" : Str) 13 = a13 at m13
      walk_at "rd"
      refine Rd.addS (by omega) ?_
      walk_at "rd"
      refine Rd.addS (by omega) ?_
      walk_at "rd"
      refine Rd.addS (by omega) ?_
      walk_at "rd"
      refine ⟨Nat.le_of_ble_eq_true rfl, Rd.new fun L2 G5 nL2 gL2 s5 => ?_⟩
      walk_at "rd"
      refine Rd.cat (s5 _ _ gL1) gL2 (Nat.le_of_ble_eq_true rfl) (Rd.new fun L3 G6 nL3 gL3 s6 => ?_)
      walk_at "rd"
      have s36 := (s4.trans s5).trans s6
      refine pickR (tp3.same s36) (by decide) (by decide) fun q H7 u0 u1 tp7 b7 => ?_
      have L3t : L3 ≠ t := (((tp3.same s4).same s5).new nL3).1
      have small : ∀ v ∈ ([.str ("up " ++ w), .str ("on" ++ w), .str ("on  " ++ w), .str (y ++ " "), .str (" " ++ y), .str ("On " ++ w), .str "on ", .str "back", .str "", .str ("on " ++ w ++ "1")] ++ [.str ("on " ++ a13), .str "on A", .str "on a b", .str ("back-" ++ w), .str ("on back " ++ w)] : List V), ∃ s : Str, v = .str s ∧ s.length ≤ n + 20 := by
        have m : ∀ s : Str, s.length ≤ n + 20 → ∃ s' : Str, V.str s = .str s' ∧ s'.length ≤ n + 20 := fun s l => ⟨s, rfl, l⟩
        have d1 : (("on " : Str)).length ≤ 20 := by decide +kernel
        have d2 : (("back" : Str)).length ≤ 20 := by decide +kernel
        have d3 : (("" : Str)).length ≤ 20 := by decide +kernel
        have d4 : (("on A" : Str)).length ≤ 20 := by decide +kernel
        have d5 : (("on a b" : Str)).length ≤ 20 := by decide +kernel
        have e1 := app_len "up " w
        have e2 := app_len "on" w
        have e3 := app_len "on  " w
        have e4 := app_len y " "
        have e5 := app_len " " y
        have e6 := app_len "On " w
        have e7 := app_len ("on " ++ w) "1"
        have e8 := app_len "on " a13
        have e9 := app_len "back-" w
        have e10 := app_len "on back " w
        refine Rx.all_cons (m _ (by omega)) <| Rx.all_cons (m _ (by omega)) <| Rx.all_cons (m _ (by omega)) <| Rx.all_cons (m _ (by omega)) <| Rx.all_cons (m _ (by omega)) <| Rx.all_cons (m _ (by omega)) <| Rx.all_cons (m _ (by omega)) <| Rx.all_cons (m _ (by omega)) <| Rx.all_cons (m _ (by omega)) <| Rx.all_cons (m _ (by omega)) <| Rx.all_cons (m _ (by omega)) <| Rx.all_cons (m _ (by omega)) <| Rx.all_cons (m _ (by omega)) <| Rx.all_cons (m _ (by omega)) <| Rx.all_cons (m _ (by omega)) Rx.all_nil
      obtain ⟨v, hv⟩ : ∃ v, ([.str ("up " ++ w), .str ("on" ++ w), .str ("on  " ++ w), .str (y ++ " "), .str (" " ++ y), .str ("On " ++ w), .str "on ", .str "back", .str "", .str ("on " ++ w ++ "1")] ++ [.str ("on " ++ a13), .str "on A", .str "on a b", .str ("back-" ++ w), .str ("on back " ++ w)] : List V)[q.toNat]? = some v := ⟨_, List.getElem?_eq_getElem (show q.toNat < 15 by omega)⟩
      obtain ⟨s, rfl, sn⟩ := small v (List.mem_of_getElem? hv)
      refine Rd.ixL (.of (b7 _ _ L3t gL3)) (Rd.atI_of u0 hv) ?_
      clear small hv gL1 gL2 gL3
      have gl7 := b7 _ _ lt (s36 _ _ gl3)
      walk_at "rd"
      refine Rd.setG gl7 (Rd.ixN_of r0 (by rw [List.length_map]; omega)) (by rw [Rd.map_set]) fun G8 g8 off8 => ?_
      have tp8 := tp7.off lt lc off8
      have b8 : Rd.But t H G8 := but_off ((b03.same s36).trans b7) nl off8
      walk_at "rd"
      refine Rd.no (by omega) ?_
      walk_at "rd"
      refine Rd.no (by omega) ?_
      walk_at "rd"
      refine Rd.no (by omega) ?_
      walk_at "rd"
      exact k l _ G8 tp8 b8 nl g8 (by rw [List.length_set]; omega) (by rw [List.length_set]; omega) (up.set sn _)
    refine Rd.no c3 ?_
    walk_at "rd"
    by_cases e3 : kd = 3
    · refine Rd.yes e3 ?_
      walk_at "rd"
      refine Rd.len (.inl (.of gl3)) ?_
      rw [List.length_map]
      walk_at "rd"
      by_cases c1 : ((ws.length : Nat) : Int) > 1
      · refine Rd.yes c1 ?_
        walk_at "rd"
        refine Rd.tyL (.of gl3) ?_
        walk_at "rd"
        refine Rd.popAt gl3 r0 (by rw [List.length_map]; omega) (by rw [List.length_map]; omega) (by rw [List.getElem?_map, hy]; rfl) fun G8 g8 off8 => ?_
        rw [← eraseIdx_mapS] at g8
        walk_at "rd"
        refine Rd.no (by omega) ?_
        walk_at "rd"
        refine Rd.no (by omega) ?_
        walk_at "rd"
        have el := List.length_eraseIdx_of_lt (l := ws) (i := r.toNat) (by omega)
        exact k l _ G8 (tp3.off lt lc off8) (but_off b03 nl off8) nl g8 (by omega) (by omega) fun x m => up x (List.mem_of_mem_eraseIdx m)
      · refine Rd.no c1 ?_
        walk_at "rd"
        refine Rd.no (by omega) ?_
        walk_at "rd"
        refine Rd.no (by omega) ?_
        walk_at "rd"
        exact k l ws H3 tp3 b03 nl gl3 w1 (by omega) up
    refine Rd.no e3 ?_
    walk_at "rd"
    by_cases e4 : kd = 4
    · refine Rd.yes e4 ?_
      walk_at "rd"
      have q5 : (("back " : Str)).length = 5 := by decide +kernel
      have sl := sizeLine_eq
      refine Rd.addS (by omega) ?_
      have al := app_len "back " w
      walk_at "rd"
      refine Rd.setG gl3 (Rd.ixN_of r0 (by rw [List.length_map]; omega)) (by rw [Rd.map_set]) fun G8 g8 off8 => ?_
      walk_at "rd"
      refine Rd.no (by omega) ?_
      walk_at "rd"
      exact k l _ G8 (tp3.off lt lc off8) (but_off b03 nl off8) nl g8 (by rw [List.length_set]; omega) (by rw [List.length_set]; omega) (up.set (by omega) _)
    refine Rd.no e4 ?_
    walk_at "rd"
    have e5 : kd = 5 := by omega
    refine Rd.yes e5 ?_
    walk_at "rd"
    refine ⟨Nat.le_of_ble_eq_true rfl, Rd.new fun L1 G4 nL1 gL1 s4 => ?_⟩
    walk_at "rd"
    refine Rd.cat (s4 _ _ gl3) gL1 (by rw [List.length_map, sizeLine_eq, List.length_singleton]; omega) (Rd.new fun L2 G5 nL2 gL2 s5 => ?_)
    walk_at "rd"
    have nL20 : H L2 = none := b03.free (tp3.new (s4.free nL2)).1 (s4.free nL2)
    refine k L2 (ws ++ [("" : Str)]) G5 (tp3.same (s4.trans s5)) (b03.same (s4.trans s5)) nL20 (by rw [List.map_append]; exact gL2) (by rw [List.length_append]; omega) (by rw [List.length_append]; exact Nat.le_refl _) (snoc_all up ?_)
    have d3 : (("" : Str)).length ≤ 20 := by decide +kernel
    omega

end
end W

namespace W
open PySem PySem.Spec PyProof.Rows L2
section
variable {P : Program} {w : World} {K : PySem.W.Frag} {mg : Str → Option Value} {base : Heap}
/-! ### what was told, as data -/
theorem depth_stepsK : ∀ ss : List (Str × Str), PyData.depthAll (ss.map stepD) ≤ 1
  | [] => by decide
  | s :: ss => Nat.max_le.mpr ⟨Nat.le_refl 1, depth_stepsK ss⟩
theorem lay_stepsK : ∀ {ss : List (Str × Str)}, (∀ s ∈ ss, StepOk s) → PyData.canLayAll0 (ss.map stepD) = true
  | [], _ => rfl
  | s :: ss, h => by
    have o := h s (List.mem_cons_self ..)
    have e1 : PyData.strOk s.1 = true := by
      rcases o.1 with q | q <;> rw [q] <;> decide +kernel
    show ((PyData.strOk s.1 && (PyData.strOk s.2 && true)) && PyData.canLayAll0 (ss.map stepD)) = true
    rw [e1, o.2.ok.ok, lay_stepsK fun t m => h t (List.mem_cons_of_mem _ m)]
    rfl
theorem shaped_le {d : PyData} (h1 : PyData.canLay0 d = true) (h2 : PyData.depth d ≤ 4) : SeqAt.shaped d = true := by
  unfold SeqAt.shaped
  rw [h1, decide_eq_true (by omega)]
  rfl
theorem shaped_stepsK {ss : List (Str × Str)} (h : ∀ s ∈ ss, StepOk s) : SeqAt.shaped (.tuple (ss.map stepD)) = true :=
  shaped_le (lay_stepsK h) (Nat.le_trans (Nat.succ_le_succ (depth_stepsK ss)) (by decide))
theorem eqv_stepsK : ∀ xs ys : List (Str × Str), PyData.eqvAll (xs.map stepD) (ys.map stepD) = decide (xs = ys)
  | [], [] => rfl
  | [], _ :: _ => rfl
  | _ :: _, [] => rfl
  | x :: xs, y :: ys => by
    show ((PyData.eqv (.str x.1) (.str y.1) && (PyData.eqv (.str x.2) (.str y.2) && true)) && PyData.eqvAll (xs.map stepD) (ys.map stepD)) = _
    rw [eqv_stepsK xs ys, Bool.eq_iff_iff]
    show ((x.1 == y.1) && ((x.2 == y.2) && true) && decide (xs = ys)) = true ↔ _
    simp [Prod.ext_iff]
theorem eqSteps {H : Hp} {p q : Addr} {ss ts : List (Str × Str)} {Q : VK} (h1 : StepsAt H p ss) (h2 : StepsAt H q ts) (o1 : ∀ s ∈ ss, StepOk s) (o2 : ∀ s ∈ ts, StepOk s) (k : Q (.bl (decide (ss = ts))) H) : rEqD K (.ref p) (.ref q) H Q := by
  refine ⟨_, _, h1.dp, h2.dp, shaped_stepsK o1, shaped_stepsK o2, ?_⟩
  show Q (.bl (PyData.eqvAll (ss.map stepD) (ts.map stepD))) H
  rw [eqv_stepsK]
  exact k
theorem neSteps {H : Hp} {p q : Addr} {ss ts : List (Str × Str)} {Q : VK} (h1 : StepsAt H p ss) (h2 : StepsAt H q ts) (o1 : ∀ s ∈ ss, StepOk s) (o2 : ∀ s ∈ ts, StepOk s) (k : Q (.bl (!decide (ss = ts))) H) : rNeD K (.ref p) (.ref q) H Q := by
  refine ⟨_, _, h1.dp, h2.dp, shaped_stepsK o1, shaped_stepsK o2, ?_⟩
  show Q (.bl (!PyData.eqvAll (ss.map stepD) (ts.map stepD))) H
  rw [eqv_stepsK]
  exact k
def txtD (i : Int) : PyData := .tuple [.str "text", .int i]
def tldD (ss : List (Str × Str)) : PyData := .tuple [.str "told", .tuple (ss.map stepD)]
theorem txtD_shaped (i : Int) : SeqAt.shaped (txtD i) = true := shaped_le (by
  show (PyData.strOk "text" && (true && true)) = true
  decide +kernel) (by show max 0 (max 0 0) + 1 ≤ 4; decide)
theorem tldD_shaped {ss : List (Str × Str)} (h : ∀ s ∈ ss, StepOk s) : SeqAt.shaped (tldD ss) = true := shaped_le (by
  show (PyData.strOk "told" && (PyData.canLayAll0 (ss.map stepD) && true)) = true
  rw [lay_stepsK h]
  decide +kernel) (by
  have := depth_stepsK ss
  show max 0 (max (PyData.depthAll (ss.map stepD) + 1) 0) + 1 ≤ 4
  omega)
theorem first_one {os : List (Option (Str × Str))} {i k : Nat} (f : FirstNone os i) (g : FirstNone os k) : i = k := by
  rcases Nat.lt_trichotomy i k with q | q | q
  · obtain ⟨s, e⟩ := g.lt i q
    have := f.at_
    rw [e] at this
    cases this
  · exact q
  · obtain ⟨s, e⟩ := f.lt k q
    have := g.at_
    rw [e] at this
    cases this
theorem first_not {ss : List (Str × Str)} {i : Nat} (f : FirstNone (ss.map some) i) : False := by
  have := f.at_
  rw [List.getElem?_map] at this
  cases q : ss[i]? with
  | none => rw [q] at this; cases this
  | some s => rw [q] at this; cases this
theorem outR_eq {H : Hp} {os : List (Option (Str × Str))} {p q : Addr} (h1 : OutR H os p) (h2 : OutR H os q) : ∃ d, Dp K H (.ref p) d ∧ Dp K H (.ref q) d ∧ SeqAt.shaped d = true := by
  have dt : ∀ {p : Addr} {i : Int}, H p = some (.tup [.str "text", .int i]) → Dp K H (.ref p) (txtD i) := fun g => .tup (.of g) (.cons (.str _) (.cons (.int _) .nil))
  rcases h1 with ⟨i, f, g⟩ | ⟨ss, e, n, g⟩ | ⟨ss, t, e, R, g, st⟩
  · rcases h2 with ⟨k, f2, g2⟩ | ⟨ts, e, n, g2⟩ | ⟨ts, t, e, R, g2, st⟩
    · cases first_one f f2
      exact ⟨_, dt g, dt g2, txtD_shaped _⟩
    · subst e
      exact (first_not f).elim
    · subst e
      exact (first_not f).elim
  · subst e
    rcases h2 with ⟨k, f2, g2⟩ | ⟨ts, e, n2, g2⟩ | ⟨ts, t, e, R, g2, st⟩
    · exact (first_not f2).elim
    · cases map_some_inj e
      exact ⟨_, dt g, dt g2, txtD_shaped _⟩
    · cases map_some_inj e
      exact absurd R n
  · subst e
    rcases h2 with ⟨k, f2, g2⟩ | ⟨ts, e, n2, g2⟩ | ⟨ts, t2, e, R2, g2, st2⟩
    · exact (first_not f2).elim
    · cases map_some_inj e
      exact absurd R n2
    · cases map_some_inj e
      exact ⟨tldD ss, .tup (.of g) (.cons (.str _) (.cons st.dp .nil)), .tup (.of g2) (.cons (.str _) (.cons st2.dp .nil)), tldD_shaped R.ok⟩
theorem neShaped {H : Hp} {x y : V} {Q : VK} (h : ∃ d, Dp K H x d ∧ Dp K H y d ∧ SeqAt.shaped d = true) (q : Q (.bl false) H) : rNeD K x y H Q := by
  obtain ⟨d, h1, h2, s⟩ := h
  refine ⟨_, _, h1, h2, s, s, ?_⟩
  rw [SeqAt.eqv_refl _ (SeqAt.canLay_of_shaped s)]
  exact q
theorem eqShaped {H : Hp} {x y : V} {Q : VK} (h : ∃ d, Dp K H x d ∧ Dp K H y d ∧ SeqAt.shaped d = true) (q : Q (.bl true) H) : rEqD K x y H Q := by
  obtain ⟨d, h1, h2, s⟩ := h
  refine ⟨_, _, h1, h2, s, s, ?_⟩
  rw [SeqAt.eqv_refl _ (SeqAt.canLay_of_shaped s)]
  exact q
theorem on_let : Lt.Let ("on" : Str) := by
  intro c hc
  have : ∀ c ∈ ("on" : Str).cps.toList, c ∈ Lt.Abc.cps.toList := by decide +kernel
  exact this c hc
theorem back_let : Lt.Let ("back" : Str) := by
  intro c hc
  have : ∀ c ∈ ("back" : Str).cps.toList, c ∈ Lt.Abc.cps.toList := by decide +kernel
  exact this c hc
theorem sm_step {s : Str × Str} (h : s.1 = ("on" : Str) ∨ s.1 = ("back" : Str)) (hl : Lt.Let s.2) (l : s.2.length ≤ 80) : Sm 1 100 (stepD s) := by
  have h1 : Sm 0 4 (.str s.1) := by
    rcases h with e | e
    · rw [e]; exact sm_let on_let (by decide +kernel)
    · rw [e]; exact sm_let back_let (by decide +kernel)
  exact ((SmAll.cons h1 (SmAll.cons (sm_let hl l) (SmAll.nil 0 0))).up (Nat.le_refl _) (by decide)).tup
theorem sm_steps {ss : List (Str × Str)} (ok : ∀ s ∈ ss, StepOk s) (l : ss.length ≤ 200) : Sm 50 (2 ^ 20) (.tuple (ss.map stepD)) := by
  have : ∀ d ∈ ss.map stepD, Sm 1 100 d := fun d m => by
    obtain ⟨s, ms, rfl⟩ := List.mem_map.mp m
    have o := ok s ms
    exact sm_step o.1 o.2.ok (by have := o.2.l1; omega)
  refine ((smAll_of this).up (m' := 49) (b' := 2 ^ 20) (by decide) ?_).tup
  rw [List.length_map]
  exact Nat.le_trans (Nat.mul_le_mul_left _ l) (by decide)
theorem spots_same {H H' G : Hp} {z : Str} {ss : List (Str × Str)} {r1 r2 : V} (h1 : SpotsR H H' z ss r1) (h2 : SpotsR G H' z ss r2) : ∃ d, Dp K H' r1 d ∧ Dp K H' r2 d ∧ SeqAt.shaped d = true := by
  have dp : ∀ {H H' : Hp} {r : V}, SpotsR H H' z ss r → ∃ d, Dp K H' r d ∧ SeqAt.shaped d = true ∧ ((d = .none ∧ goTo z ss ≠ some ((z.length : Nat) : Int)) ∨ ∃ P : List Int, d = .tuple (P.map .int) ∧ Along z ss ss.length P ∧ goTo z ss = some ((z.length : Nat) : Int)) := fun h => by
    rcases h with ⟨rfl, n⟩ | ⟨p, P, rfl, _, g, al, e⟩
    · exact ⟨.none, .non, by decide, .inl ⟨rfl, n⟩⟩
    · refine ⟨_, .tup (.of g) (Rd.dpAll_ints P), shaped_le (Rd.canLay_ints P) ?_, .inr ⟨P, rfl, al, e⟩⟩
      show PyData.depthAll (P.map PyData.int) + 1 ≤ 4
      rw [Rd.depth_ints]
      decide
  obtain ⟨d1, p1, s1, c1⟩ := dp h1
  obtain ⟨d2, p2, s2, c2⟩ := dp h2
  have : d1 = d2 := by
    rcases c1 with ⟨rfl, n⟩ | ⟨P, rfl, al, e⟩
    · rcases c2 with ⟨rfl, _⟩ | ⟨_, _, _, e⟩
      · rfl
      · exact absurd e n
    · rcases c2 with ⟨_, n⟩ | ⟨R, rfl, al2, _⟩
      · exact absurd e n
      · rw [al.inj al2]
  subst this
  exact ⟨d1, p1, p2, s1⟩
theorem spotsR_same {H H' H2 : Hp} {z : Str} {ss : List (Str × Str)} {r : V} (h : SpotsR H H' z ss r) (s : Same H' H2) : SpotsR H H2 z ss r := h.imp id fun ⟨p, P, e, n, g, r⟩ => ⟨p, P, e, n, s _ _ g, r⟩
def sp_l_first (K : PySem.W.Frag) : Sp := fun vs H Q _ => ∃ (a : Addr) (ns : List Int), vs = [.ref a] ∧ SqL K H a (ns.map V.int) ∧ ∀ H', Same H H' → Q (.bl true) H'
def sp_l_second (K : PySem.W.Frag) : Sp := fun vs H Q _ => ∃ (a : Addr) (ns : List Int), vs = [.ref a] ∧ SqL K H a (ns.map V.int) ∧ ∀ H', Q (.bl true) H'
def sp_law (K : PySem.W.Frag) : Sp := fun vs H Q _ => ∃ (a : Addr) (ns : List Int), vs = [.ref a] ∧ SqL K H a (ns.map V.int) ∧ ns.length ≤ 63 ∧ ∀ H', Q (.bl true) H'
theorem readT {CT : Addr} {H : Hp} {ss : List (Str × Str)} {Q : VK} {E : XK} (R : RightS ss) (k : ∀ (q : Addr) H', StepsAt H' q ss → Same H H' → Q (.ref q) H') : sp_read_rule K CT [.str (textS ss)] H Q E :=
  ⟨_, rfl, .inl ⟨_, _, rfl, by have := text_len R; omega, read_text R, .inr (.inr ⟨ss, rfl, R, k⟩)⟩⟩
theorem on_sum : ∀ {ss : List (Str × Str)}, (∀ s ∈ ss, StepOk s) → (∀ y ∈ (ss.filter fun s => decide (s.1 = ("on" : Str))).map (·.2), Lt.Let y) ∧ (((ss.filter fun s => decide (s.1 = ("on" : Str))).map (·.2)).map (·.length)).sum ≤ 12 * ss.length
  | [], _ => ⟨fun y m => (nomatch m), Nat.le_refl _⟩
  | s :: ss, h => by
    obtain ⟨h1, h2⟩ := on_sum fun t m => h t (List.mem_cons_of_mem _ m)
    have o := h s (List.mem_cons_self ..)
    have l := o.2.l1
    by_cases c : s.1 = ("on" : Str)
    · rw [List.filter_cons_of_pos (by simpa using c)]
      refine ⟨fun y m => ?_, ?_⟩
      · rcases List.mem_cons.mp m with rfl | m
        · exact o.2.ok
        · exact h1 y m
      · rw [List.map_cons, List.map_cons, List.sum_cons, List.length_cons]
        omega
    · rw [List.filter_cons_of_neg (by simpa using c)]
      exact ⟨h1, by rw [List.length_cons]; omega⟩
theorem on_pos {ss : List (Str × Str)} (R : RightS ss) : 1 ≤ (((ss.filter fun s => decide (s.1 = ("on" : Str))).map (·.2)).map (·.length)).sum := by
  obtain ⟨y, e⟩ := R.first
  have m := List.mem_of_getElem? e
  have l := (R.ok _ m).2.l0
  have m2 : y ∈ (ss.filter fun s => decide (s.1 = ("on" : Str))).map (·.2) := List.mem_map.mpr ⟨_, List.mem_filter.mpr ⟨m, by simp⟩, rfl⟩
  have := Rf.sum_mem m2
  have l : 1 ≤ y.length := l
  omega
theorem ok_l_first (T : Txt w K mg) : Rg.FnG P w K mg base CX0 7 T.f_l_first T.fd_l_first ["_law_script"] (sp_l_first K) := by
  refine Rg.okG T.F_l_first sc_l_first (fun vs H Q E h => ?_) (fun cdv A outer s H vs Q E gd hr h => ?_)
  · obtain ⟨a, ns, rfl, _⟩ := h
    rfl
  · obtain ⟨a, ns, rfl, hS, k⟩ := h
    refine ⟨_, (pss_cons (ps_set (i := 1) sc_l_first.nd rfl (.inl rfl) (pe_call (ok_l_tape T) (hr.mono (by decide)) rfl T.g_l_tape T.F_l_tape.kp T.b_l_tape .nil pass0 (pa_cons (pv 0) pa_nil)))
  (pss_cons (ps_set (i := 2) sc_l_first.nd rfl (.inl rfl) (pe_call (ok_l_rule T) (hr.mono (by decide)) rfl T.g_l_rule T.F_l_rule.kp T.b_l_rule .nil pass0 (pa_cons (pv 1) pa_nil)))
  (pss_cons (ps_set (i := 3) sc_l_first.nd rfl (.inl rfl) (pe_call (ok_l_rule T) (hr.mono (by decide)) rfl T.g_l_rule T.F_l_rule.kp T.b_l_rule .nil pass0 (pa_cons (pv 1) pa_nil)))
  (pss_cons (ps_set (i := 4) sc_l_first.nd rfl (.inl rfl) (pe_call (ok_l_text T) (hr.mono (by decide)) rfl T.g_l_text T.F_l_text.kp T.b_l_text .nil pass0 (pa_cons (pv 2) pa_nil)))
  (pss_cons (ps_set (i := 5) sc_l_first.nd rfl (.inl rfl) (pe_call (ok_write_rule T) (hr.mono (by decide)) rfl T.g_write_rule T.F_write_rule.kp T.b_write_rule .nil pass0 (pa_cons (pv 2) pa_nil)))
  (pss_cons (ps_if (PW.pt (pw_or (pt_not (pt_val (pe_callB (id := "isinstance") (r := rIsi K) call_isi (by rfl) T.n_isinstance (by decide +kernel) (pa_cons (pv 5) (pa_cons (pe_bltn (v := .ty "str") (u := .type "str") (by rfl) T.n_str (by decide +kernel) rfl) pa_nil))))) (pw_or (pt_cmpR op_ne (pv 5) (pv 4) (nomark _)) (pw_or1 (pt_cmpR op_ne (pe_call (ok_write_rule T) (hr.mono (by decide)) rfl T.g_write_rule T.F_write_rule.kp T.b_write_rule .nil pass0 (pa_cons (pv 2) pa_nil)) (pv 4) (nomark _))))))
  (pss_one (ps_ret pe_bl))
  pss_nil)
  (pss_cons (ps_set (i := 6) sc_l_first.nd rfl (.inl rfl) (pe_call (ok_read_rule T) (hr.mono (by decide)) rfl T.g_read_rule T.F_read_rule.kp T.b_read_rule .nil passL (pa_cons (pv 5) pa_nil)))
  (pss_cons (ps_if (PW.pt (pw_or (pt_not (pt_val (pe_callB (id := "isinstance") (r := rIsi K) call_isi (by rfl) T.n_isinstance (by decide +kernel) (pa_cons (pv 6) (pa_cons (pe_bltn (v := .ty "tuple") (u := .type "tuple") (by rfl) T.n_tuple (by decide +kernel) rfl) pa_nil))))) (pw_or (pt_cmpR (r := rNeD K) (op_neD hr.units) (pv 6) (pv 2) (nomark _)) (pw_or1 (pt_cmpR op_ne (pe_callB (id := "repr") (r := Rg.rRepr K) (Rg.cr_repr gd (Rg.u101 hr)) (by rfl) T.n_repr (by decide +kernel) (pa_cons (pv 6) pa_nil)) (pe_callB (id := "repr") (r := Rg.rRepr K) (Rg.cr_repr gd (Rg.u101 hr)) (by rfl) T.n_repr (by decide +kernel) (pa_cons (pv 2) pa_nil)) (nomark _))))))
  (pss_one (ps_ret pe_bl))
  pss_nil)
  (pss_cons (ps_if (PW.pt (pw_or (pt_cmpR (r := rNeD K) (op_neD hr.units) (pe_call (ok_read_rule T) (hr.mono (by decide)) rfl T.g_read_rule T.F_read_rule.kp T.b_read_rule .nil passL (pa_cons (pe_call (ok_l_text T) (hr.mono (by decide)) rfl T.g_l_text T.F_l_text.kp T.b_l_text .nil pass0 (pa_cons (pv 3) pa_nil)) pa_nil)) (pv 3) (nomark _)) (pw_or1 (pt_cmpR op_ne (pe_cmpR op_eq (pe_call (ok_write_rule T) (hr.mono (by decide)) rfl T.g_write_rule T.F_write_rule.kp T.b_write_rule .nil pass0 (pa_cons (pv 3) pa_nil)) (pv 5) (nomark _)) (pe_cmpR (r := rEqD K) (op_eqD hr.units) (pv 3) (pv 2) (nomark _)) (nomark _)))))
  (pss_one (ps_ret pe_bl))
  pss_nil)
  (pss_cons (ps_set (i := 7) sc_l_first.nd rfl (.inl rfl) (pe_join pe_str (pe_lc (own := [("_law_way", 8), ("_law_watch_here", 9)]) (g := gTup K 2 (gCons (gName 8) (gCons (gName 9) gNil)))  rfl sc_l_first.nd (pi_tup (pv 2)) (blkOk_by (own := [("_law_way", 8), ("_law_watch_here", 9)]) (N := ["_law_script", "_law_tape_here", "_law_steps", "_law_other", "_law_due_here", "_law_text_here", "_law_told", "_law_word_here", "_law_way", "_law_watch_here"]) (sc := defScope s_l_first) (by decide +kernel)) (fun _ _ _ _ _ => (pg_tup rfl (pgs_cons (pg_name (i := 8) sc_l_first.nd rfl (.inl rfl)) (pgs_cons (pg_name (i := 9) sc_l_first.nd rfl (.inl rfl)) pgs_nil)))) (fun _ _ _ _ _ => pts_one (pt_cmpR op_eq (pv 8) pe_str (nomark _))) (fun _ _ _ _ _ => (pv 9)))))
  (pss_cons (ps_if (PW.pt (pw_and (pt_cmpR op_le (pe_callB (id := "len") (r := _) Rd.c_lenS (by rfl) T.n_len (by decide +kernel) (pa_cons (pv 7) pa_nil)) pe_int (nomark _)) (pw_and1 (pt_cmpR (r := rNeD K) (op_neD hr.units) (pe_call (ok_followed T) (hr.mono (by decide)) rfl T.g_followed T.F_followed.kp T.b_followed .nil pass0 (pa_cons (pv 7) (pa_cons (pv 2) pa_nil))) (pe_call (ok_followed T) (hr.mono (by decide)) rfl T.g_followed T.F_followed.kp T.b_followed .nil pass0 (pa_cons (pv 7) (pa_cons (pe_call (ok_read_rule T) (hr.mono (by decide)) rfl T.g_read_rule T.F_read_rule.kp T.b_read_rule .nil passL (pa_cons (pv 5) pa_nil)) pa_nil))) (nomark _)))))
  (pss_one (ps_ret pe_bl))
  pss_nil)
  (pss_one (ps_ret (pe_cmpR (r := rEqD K) (op_eqD hr.units) (pe_call (ok_read_rule T) (hr.mono (by decide)) rfl T.g_read_rule T.F_read_rule.kp T.b_read_rule .nil passL (pa_cons (pv 4) pa_nil)) (pv 2) (nomark _))))))))))))))), ?_⟩
    walk_at "rd"
    refine ⟨a, ns, rfl, hS, fun t c H1 tp1 s01 nt nc => ?_⟩
    walk_at "rd"
    refine ⟨t, c, rfl, tp1, fun p ss H2 tp2 b2 hp R => ?_⟩
    walk_at "rd"
    refine ⟨t, c, rfl, tp2, fun q ts H3 tp3 b3 hq R2 => ?_⟩
    have hp3 := hp.keep (tup_but tp2 b3)
    have l80 := R.l80
    walk_at "rd"
    refine ⟨p, ss, rfl, hp3, R, ?_⟩
    walk_at "rd"
    refine ⟨p, ss, rfl, hp3, R, fun H4 s4 => ?_⟩
    walk_at "rd"
    refine Rd.isiStr ?_
    walk_at "rd"
    refine Rd.yes rfl ?_
    walk_at "rd"
    refine ⟨p, ss, rfl, hp3.same s4, R, fun H5 s5 => ?_⟩
    walk_at "rd"
    refine Rd.yes rfl ?_
    walk_at "rd"
    refine readT R fun r H6 hr s6 => ?_
    have s36 := (s4.trans s5).trans s6
    have hp6 := hp3.same s36
    walk_at "rd"
    obtain ⟨rs, hrs, _⟩ := id hr
    refine Rd.isi (Ru.ty_T (.of hrs)) (by decide +kernel : kitB "tuple" "tuple" = some true) ?_
    walk_at "rd"
    refine neSteps hr hp6 R.ok R.ok ?_
    rw [decide_eq_true rfl]
    walk_at "rd"
    refine reprR hr.dp (sm_steps R.ok (by omega)) ?_
    walk_at "rd"
    refine reprR hp6.dp (sm_steps R.ok (by omega)) ?_
    walk_at "rd"
    refine Rd.yes rfl ?_
    walk_at "rd"
    have hq6 := hq.same s36
    refine ⟨q, ts, rfl, hq6, R2, ?_⟩
    walk_at "rd"
    refine readT R2 fun r2 H7 hr2 s7 => ?_
    walk_at "rd"
    refine neSteps hr2 (hq6.same s7) R2.ok R2.ok ?_
    rw [decide_eq_true rfl]
    walk_at "rd"
    refine ⟨q, ts, rfl, hq6.same s7, R2, fun H8 s8 => ?_⟩
    walk_at "rd"
    have s68 := s7.trans s8
    have hp8 := hp6.same s68
    refine eqSteps (hq6.same s68) hp8 R2.ok R.ok ?_
    walk_at "rd"
    have dd : decide (textS ts = textS ss) = decide (ts = ss) := by
      rw [Bool.eq_iff_iff, decide_eq_true_iff, decide_eq_true_iff]
      exact ⟨textS_inj R2 R, fun e => by rw [e]⟩
    rw [dd]
    rw [show (decide (ts = ss) != decide (ts = ss)) = false by cases decide (ts = ss) <;> rfl]
    walk_at "rd"
    obtain ⟨rp, hrp, rpl, hRp⟩ := hp8.row
    refine ⟨⟨_, .of hrp⟩, Rd.lcS walk_tup (fun _ s => .of (s _ _ hrp)) (fun D i acc _ => acc = (((ss.take i).filter fun s => decide (s.1 = ("on" : Str))).map (·.2)).map V.str) (fun _ _ _ _ _ => rfl) ?_ ?_⟩
    · rintro D i x G _ acc nD hi hD sm rfl ⟨rfl, hx⟩
      obtain ⟨r, hri, rfl⟩ := Rd.map_refG hx
      obtain ⟨s, es, gr⟩ := hRp i r hri
      refine Rd.tupT (.of (sm _ _ gr)) rfl ?_
      walk_at "rd"
      refine ⟨rfl, ?_⟩
      walk_at "rd"
      have fl : ((ss.take i).filter fun s => decide (s.1 = ("on" : Str))).length ≤ 80 := Nat.le_trans (List.length_filter_le _ _) (by rw [List.length_take]; omega)
      by_cases c1 : s.1 = ("on" : Str)
      · refine Rd.yes c1 ?_
        walk_at "rd"
        refine Rd.lcPush hD nD sm (by rw [List.length_map, List.length_map, sizeLine_eq]; omega) fun G _ _ => ?_
        rw [Rd.take_snoc es, List.filter_append, List.filter_cons_of_pos (by simpa using c1), List.map_append, List.map_append]
        rfl
      · refine Rd.no c1 ?_
        refine ⟨_, hD, sm, ?_⟩
        show _ = List.map V.str (List.map (fun x => x.2) (List.filter (fun s => decide (s.1 = ("on" : Str))) (ss.take (i + 1))))
        rw [Rd.take_snoc es, List.filter_append, List.filter_cons_of_neg (by simpa using c1), List.filter_nil, List.append_nil]
    · rintro D acc G nD hD sm rfl
      rw [List.length_map, rpl, List.take_length] at hD
      have os := on_sum R.ok
      have op := on_pos R
      have jl := Lt.join_let _ os.1
      walk_at "rd"
      refine ⟨_, _, _, rfl, rfl, .inl (.of hD), by rw [show (("" : Str)).length = 0 by decide +kernel]; omega, ?_⟩
      rw [TL.join_eq]
      generalize Str.join "" ((ss.filter fun s => decide (s.1 = ("on" : Str))).map (·.2)) = z at jl
      have jl2 := jl.2
      walk_at "rd"
      refine Rd.lenStr (by rw [sizeLine_eq]; omega) ?_
      walk_at "rd"
      have hp9 := hp8.same sm
      have s19 := (s36.trans s68).trans sm
      have last : ∀ (r3 : Addr) (H9 : Hp), Same G H9 → StepsAt H9 r3 ss → rEqD K (.ref r3) (.ref p) H9 Q := fun r3 H9 s9 h3 => eqSteps h3 (hp9.same s9) R.ok R.ok (by
        rw [decide_eq_true rfl]
        exact k _ fun b o e => s9 _ _ (s19 _ _ (b3 b o (ne_of_none e nt) (b2 b o (ne_of_none e nt) (s01 _ _ e)))))
      by_cases c40 : ((z.length : Nat) : Int) ≤ 40
      · refine Rd.yes c40 ?_
        walk_at "rd"
        have hz : Lt.Wd 40 z := ⟨jl.1, by omega, by omega⟩
        refine ⟨p, ss, z, rfl, hp9, R, hz, fun v1 HA sA sp1 => ?_⟩
        walk_at "rd"
        refine readT R fun r3 HB h3 sB => ?_
        walk_at "rd"
        refine ⟨r3, ss, z, rfl, h3, R, hz, fun v2 HC sC sp2 => ?_⟩
        walk_at "rd"
        refine neShaped (spots_same (spotsR_same (spotsR_same sp1 sB) sC) sp2) ?_
        walk_at "rd"
        refine readT R fun r4 H9 h4 s9 => ?_
        walk_at "rd"
        exact last r4 H9 (((sA.trans sB).trans sC).trans s9) h4
      · refine Rd.no c40 ?_
        walk_at "rd"
        refine readT R fun r4 H9 h4 s9 => ?_
        walk_at "rd"
        exact last r4 H9 s9 h4
theorem rowsB_sum {n : Nat} : ∀ {ws : List Str}, RowsB n ws → (ws.map (·.length)).sum ≤ n * ws.length
  | [], _ => Nat.zero_le _
  | w :: ws, h => by
    have h1 := h w (List.mem_cons_self ..)
    have h2 := rowsB_sum fun y m => h y (List.mem_cons_of_mem _ m)
    rw [List.map_cons, List.sum_cons, List.length_cons, Nat.mul_succ]
    omega
theorem rows_join {ws : List Str} (h : RowsB 100 ws) (l : ws.length ≤ 100) : (ws.map (·.length)).sum + ws.length * (("\n" : Str)).length ≤ 16777216 ∧ (Txt.join "\n" ws).length ≤ 90000 := by
  have h1 := rowsB_sum h
  have h2 := Rf.join_len ws
  rw [Rf.nl_len]
  exact ⟨by omega, by omega⟩
theorem split_ona : Txt.split ("on a" : Str) "\n" = [("on a" : Str)] := by decide +kernel
theorem split_emp : Txt.split ("" : Str) "\n" = [("" : Str)] := by decide +kernel
theorem rowsO_ona : RowsO (Txt.split ("on a" : Str) "\n") [some (("on" : Str), ("a" : Str))] := by
  rw [split_ona]
  refine ⟨rfl, fun i r o e1 e2 => ?_⟩
  cases i with
  | succ i => simp at e1
  | zero =>
    cases e1
    cases e2
    have w : Lt.Wd 12 ("a" : Str) := ⟨fun c hc => by
      have : ∀ c ∈ ("a" : Str).cps.toList, c ∈ Lt.Abc.cps.toList := by decide +kernel
      exact this c hc, by decide +kernel, by decide +kernel⟩
    have := RowO.step (("on" : Str), ("a" : Str)) ⟨.inl rfl, w⟩
    have e : rowS (("on" : Str), ("a" : Str)) = ("on a" : Str) := by decide +kernel
    rw [e] at this
    exact this
theorem rowsO_emp : RowsO (Txt.split ("" : Str) "\n") [none] := by
  rw [split_emp]
  refine ⟨rfl, fun i r o e1 e2 => ?_⟩
  cases i with
  | succ i => simp at e1
  | zero =>
    cases e1
    cases e2
    exact .no (a := "") (b := "") (c := "") (by decide +kernel) (by decide +kernel) (by decide +kernel) (by decide +kernel) (by decide +kernel) (.inr (by decide +kernel))
theorem ok_l_second (T : Txt w K mg) : FnOk P w K mg base CX0 7 T.f_l_second T.fd_l_second ["_law_script"] (sp_l_second K) := by
  refine T.F_l_second.ok sc_l_second (fun vs H Q E h => ?_) (fun cdv A outer s H vs Q E hr h => ?_)
  · obtain ⟨a, ns, rfl, _⟩ := h
    rfl
  · obtain ⟨a, ns, rfl, hS, k⟩ := h
    refine ⟨_, (pss_cons (ps_set (i := 1) sc_l_second.nd rfl (.inl rfl) (pe_call (ok_l_tape T) (hr.mono (by decide)) rfl T.g_l_tape T.F_l_tape.kp T.b_l_tape .nil pass0 (pa_cons (pv 0) pa_nil)))
  (pss_cons (ps_set (i := 2) sc_l_second.nd rfl (.inl rfl) (pe_call (ok_l_rows T) (hr.mono (by decide)) rfl T.g_l_rows T.F_l_rows.kp T.b_l_rows .nil pass0 (pa_cons (pv 1) pa_nil)))
  (pss_cons (ps_for PassesOwn.never rfl (pi_range1 rfl T.n_range (pa_cons pe_int pa_nil)) (pg_name (i := 3) sc_l_second.nd rfl (.inl rfl))
  (pss_cons (ps_set (i := 4) sc_l_second.nd rfl (.inl rfl) (pv 2))
  (C8.pss_cut (ps_if (pt_cmpR op_gt (pv 3) pe_int (nomark _))
  (pss_one (ps_set (i := 4) sc_l_second.nd rfl (.inl rfl) (pe_call (ok_l_bent T) (hr.mono (by decide)) rfl T.g_l_bent T.F_l_bent.kp T.b_l_bent .nil pass0 (pa_cons (pv 1) (pa_cons (pv 2) pa_nil)))))
  pss_nil)
  (C8.pss_cut (ps_if (pt_cmpR op_gt (pv 3) pe_int (nomark _))
  (pss_one (ps_set (i := 4) sc_l_second.nd rfl (.inl rfl) (pe_call (ok_l_bent T) (hr.mono (by decide)) rfl T.g_l_bent T.F_l_bent.kp T.b_l_bent .nil pass0 (pa_cons (pv 1) (pa_cons (pv 4) pa_nil)))))
  pss_nil)
  (pss_cons (ps_set (i := 5) sc_l_second.nd rfl (.inl rfl) (pe_join pe_str (pv 4)))
  (pss_cons (ps_set (i := 6) sc_l_second.nd rfl (.inl rfl) (pe_call (ok_l_due T) (hr.mono (by decide)) rfl T.g_l_due T.F_l_due.kp T.b_l_due .nil pass0 (pa_cons (pv 5) pa_nil)))
  (pss_cons (ps_if (pt_cmpR (r := rNeD K) (op_neD hr.units) (pe_call (ok_l_asked T) (hr.mono (by decide)) rfl T.g_l_asked T.F_l_asked.kp T.b_l_asked .nil pass0 (pa_cons (pv 5) pa_nil)) (pv 6) (nomark _))
  (pss_one (ps_ret pe_bl))
  pss_nil)
  (pss_one (ps_if (PW.pt (pw_and (pt_cmpR op_eq (pe_ix (r := rIxT K) ix_tup (pv 6) pe_int (fun _ _ => rfl)) pe_str (nomark _)) (pw_and1 (pt_cmpR op_ne (pe_call (ok_write_rule T) (hr.mono (by decide)) rfl T.g_write_rule T.F_write_rule.kp T.b_write_rule .nil pass0 (pa_cons (pe_ix (r := rIxT K) ix_tup (pv 6) pe_int (fun _ _ => rfl)) pa_nil)) (pv 5) (nomark _)))))
  (pss_one (ps_ret pe_bl))
  pss_nil)))))))))
  (pss_cons (ps_for PassesOwn.never rfl (pi_list (pe_lst (pa_cons pe_non (pa_cons pe_bl (pa_cons pe_int (pa_cons (pe_lst pa_nil) (pa_cons (pe_tup pa_nil) (pa_cons pe_dnewK (pa_cons (pe_lst (pa_cons pe_str pa_nil)) (pa_cons (pe_tup (pa_cons (pe_tup (pa_cons pe_str (pa_cons pe_str pa_nil))) pa_nil)) pa_nil)))))))))) (pg_name (i := 7) sc_l_second.nd rfl (.inl rfl))
  (pss_one (ps_if (pt_cmpR (r := rNeD K) (op_neD hr.units) (pe_call (ok_l_asked T) (hr.mono (by decide)) rfl T.g_l_asked T.F_l_asked.kp T.b_l_asked .nil pass0 (pa_cons (pv 7) pa_nil)) (pe_tup (pa_cons pe_str (pa_cons (pe_un un_neg pe_int) pa_nil))) (nomark _))
  (pss_one (ps_ret pe_bl))
  pss_nil)))
  (pss_one (ps_ret (pe_and (pe_cmpR (r := rEqD K) (op_eqD hr.units) (pe_call (ok_l_asked T) (hr.mono (by decide)) rfl T.g_l_asked T.F_l_asked.kp T.b_l_asked .nil pass0 (pa_cons pe_str pa_nil)) (pe_tup (pa_cons pe_str (pa_cons (pe_tup (pa_cons (pe_tup (pa_cons pe_str (pa_cons pe_str pa_nil))) pa_nil)) pa_nil))) (nomark _)) (pe_one (pe_cmpR (r := rEqD K) (op_eqD hr.units) (pe_call (ok_l_asked T) (hr.mono (by decide)) rfl T.g_l_asked T.F_l_asked.kp T.b_l_asked .nil pass0 (pa_cons pe_str pa_nil)) (pe_tup (pa_cons pe_str (pa_cons pe_int pa_nil))) (nomark _)))))))))), ?_⟩
    walk_at "rd"
    refine ⟨a, ns, rfl, hS, fun t c H1 tp1 s01 nt nc => ?_⟩
    walk_at "rd"
    refine ⟨t, c, rfl, tp1, fun l ws H2 tp2 b2 nl gl w1 w82 wb => ?_⟩
    have ⟨lt, lc⟩ := tp1.new nl
    walk_at "rd"
    refine Rd.forS ?_
    walk_at "rd"
    refine ⟨by decide, by decide, ?_⟩
    refine for_range (lo := 0) (n := (6 : Int).toNat) (fun i σ H' => ∃ (o3 o4 o5 o6 : Option V), σ = [some (.ref a), some (.ref t), some (.ref l), o3, o4, o5, o6, none] ∧ Tape H' t c ∧ Rd.But t H2 H')
      ⟨_, _, _, _, rfl, tp2, Rd.But.refl _ _⟩ ?_ ?_
    · rintro i _ H3 hi ⟨o3, o4, o5, o6, rfl, tp3, b3⟩
      have gl3 := b3 _ _ lt gl
      walk_at "rd"
      refine Rd.cut (fun σ H' => ∃ (m : Addr) (us : List Str), σ = [some (.ref a), some (.ref t), some (.ref l), some (.int (0 + (i : Int))), some (.ref m), o5, o6, none] ∧ Tape H' t c ∧ Rd.But t H2 H' ∧ m ≠ t ∧ H' m = some (.lst (us.map V.str)) ∧ 1 ≤ us.length ∧ us.length ≤ 83 ∧ RowsB 80 us) ?_ ?_
      · walk_at "rd"
        by_cases c1 : (0 : Int) + (i : Int) > 0
        · refine Rd.yes c1 ?_
          walk_at "rd"
          refine ⟨t, c, l, ws, 60, rfl, tp3, gl3, lt, w1, by omega, wb, by decide, fun m us H4 tp4 b4 nm gm u1 ul ub => ?_⟩
          walk_at "rd"
          exact ⟨m, us, rfl, tp4, b3.trans b4, (tp3.new nm).1, gm, u1, by omega, ub⟩
        · refine Rd.no c1 ?_
          walk_at "rd"
          exact ⟨l, ws, rfl, tp3, b3, lt, gl3, w1, by omega, wb.up (by decide)⟩
      · rintro _ H4 ⟨m, us, rfl, tp4, b4, mt, gm, u1, ul, ub⟩
        walk_at "rd"
        refine Rd.cut (fun σ H' => ∃ (m : Addr) (us : List Str), σ = [some (.ref a), some (.ref t), some (.ref l), some (.int (0 + (i : Int))), some (.ref m), o5, o6, none] ∧ Tape H' t c ∧ Rd.But t H2 H' ∧ H' m = some (.lst (us.map V.str)) ∧ us.length ≤ 84 ∧ RowsB 100 us) ?_ ?_
        · walk_at "rd"
          by_cases c1 : (0 : Int) + (i : Int) > 3
          · refine Rd.yes c1 ?_
            walk_at "rd"
            refine ⟨t, c, m, us, 80, rfl, tp4, gm, mt, u1, by omega, ub, by decide, fun m2 vs H5 tp5 b5 nm2 gm2 v1 vl vb => ?_⟩
            walk_at "rd"
            exact ⟨m2, vs, rfl, tp5, b4.trans b5, gm2, by omega, vb⟩
          · refine Rd.no c1 ?_
            walk_at "rd"
            exact ⟨m, us, rfl, tp4, b4, gm, by omega, ub.up (by decide)⟩
        · rintro _ H5 ⟨m, us, rfl, tp5, b5, gm, ul, ub⟩
          obtain ⟨j1, j2⟩ := rows_join ub (by omega)
          walk_at "rd"
          refine ⟨_, _, _, rfl, rfl, .inl (.of gm), j1, ?_⟩
          generalize Txt.join "\n" us = z at j2
          obtain ⟨os, ho⟩ := rowsO (Txt.split z "\n")
          walk_at "rd"
          refine ⟨z, os, rfl, j2, ho, fun p H6 s6 op => ?_⟩
          walk_at "rd"
          refine ⟨_, rfl, .inl ⟨z, os, rfl, j2, ho, fun q H7 s7 oq => ?_⟩⟩
          have op7 := op.same s7
          walk_at "rd"
          refine neShaped (outR_eq oq op7) ?_
          walk_at "rd"
          have s57 := s6.trans s7
          have done : ∀ H', Same H7 H' → ∃ (o3 o4 o5 o6 : Option V), [some (.ref a), some (.ref t), some (.ref l), some (.int (0 + (i : Int))), some (.ref m), some (.str z), some (.ref p), none] = [some (.ref a), some (.ref t), some (.ref l), o3, o4, o5, o6, (none : Option V)] ∧ Tape H' t c ∧ Rd.But t H2 H' := fun H' s => ⟨_, _, _, _, rfl, tp5.same (s57.trans s), b5.same (s57.trans s)⟩
          rcases op7 with ⟨i, f, g⟩ | ⟨ss, e, n, g⟩ | ⟨ss, u, e, R, g, st⟩
          · refine Rd.ixT (.of g) (atI_nat (j := 0) rfl) ?_
            walk_at "rd"
            refine Rd.no (by decide +kernel) ?_
            walk_at "rd"
            exact done _ (Same.refl _)
          · refine Rd.ixT (.of g) (atI_nat (j := 0) rfl) ?_
            walk_at "rd"
            refine Rd.no (by decide +kernel) ?_
            walk_at "rd"
            exact done _ (Same.refl _)
          · refine Rd.ixT (.of g) (atI_nat (j := 0) rfl) ?_
            walk_at "rd"
            refine Rd.yes rfl ?_
            walk_at "rd"
            refine Rd.ixT (.of g) (atI_nat (j := 1) rfl) ?_
            walk_at "rd"
            refine ⟨u, ss, rfl, st, R, fun H8 s8 => ?_⟩
            walk_at "rd"
            rw [e] at ho
            refine Rd.yes (text_read ho) ?_
            walk_at "rd"
            exact done _ s8
    · rintro _ H3 ⟨o3, o4, o5, o6, rfl, tp3, b3⟩
      clear b3 gl nl b2 s01 tp1 tp2 tp3
      walk_at "rd"
      refine Rd.forS ?_
      walk_at "rd"
      refine ⟨Nat.zero_le _, Rd.new fun l1 G1 n1 g1 s1 => ?_⟩
      walk_at "rd"
      refine ⟨Nat.zero_le _, Rd.new fun l2 G2 n2 g2 s2 => ?_⟩
      walk_at "rd"
      refine Rd.dnew fun l3 G3 n3 g3 s3 => ?_
      walk_at "rd"
      refine ⟨Nat.le_of_ble_eq_true rfl, Rd.new fun l4 G4 n4 g4 s4 => ?_⟩
      walk_at "rd"
      refine ⟨Nat.le_of_ble_eq_true rfl, Rd.new fun l5 G5 n5 g5 s5 => ?_⟩
      walk_at "rd"
      refine ⟨Nat.le_of_ble_eq_true rfl, Rd.new fun l6 G6 n6 g6 s6 => ?_⟩
      walk_at "rd"
      refine ⟨Nat.le_of_ble_eq_true rfl, Rd.new fun L G7 nL gL s7 => ?_⟩
      walk_at "rd"
      have v6 := s7
      have v4 := (s5.trans s6).trans v6
      have v3 := s4.trans v4
      have v2 := s3.trans v3
      have v1 := s2.trans v2
      have all := Rx.all_cons (P := fun v => NoTxt K G7 v) (.inl ⟨_, .non, rfl⟩) <| Rx.all_cons (.inl ⟨_, .bl true, rfl⟩) <| Rx.all_cons (.inl ⟨_, .int 5, rfl⟩) <| Rx.all_cons (.inl ⟨_, .lst (v1 _ _ g1) (by decide), rfl⟩) <| Rx.all_cons (.inl ⟨_, .tup (v2 _ _ g2) (by decide), rfl⟩) <| Rx.all_cons (.inl ⟨_, .dct (v3 _ _ g3), rfl⟩) <|
        Rx.all_cons (.inl ⟨_, .lst (v4 _ _ g4) (by decide), rfl⟩) <| Rx.all_cons (.inl ⟨_, .tup (v6 _ _ g6) (Nat.le_of_ble_eq_true rfl), rfl⟩) Rx.all_nil
      refine ⟨⟨_, .of gL⟩, for_list (xs := [.non, .bl true, .int 5, .ref l1, .ref l2, .ref l3, .ref l4, .ref l6]) (fun i σ H' => ∃ o7 : Option V, σ = [some (.ref a), some (.ref t), some (.ref l), o3, o4, o5, o6, o7] ∧ Same G7 H') ⟨_, rfl, Same.refl _⟩ (fun i σ H' _ ⟨_, _, s⟩ => .of (s _ _ gL)) ?_ ?_⟩
      · rintro i x _ H8 hx ⟨o7, rfl, s8⟩
        have od := (all x (List.mem_of_getElem? hx)).same s8
        walk_at "rd"
        refine ⟨_, rfl, .inr ⟨od, fun p H9 s9 gp => ?_⟩⟩
        walk_at "rd"
        refine ⟨Nat.le_of_ble_eq_true rfl, Rd.new fun q HA nq gq sA => ?_⟩
        walk_at "rd"
        refine neShaped ⟨txtD (-1), .tup (.of (sA _ _ gp)) (.cons (.str _) (.cons (.int _) .nil)), .tup (.of gq) (.cons (.str _) (.cons (.int _) .nil)), txtD_shaped _⟩ ?_
        walk_at "rd"
        exact ⟨_, rfl, (s8.trans s9).trans sA⟩
      · rintro _ H8 ⟨o7, rfl, s8⟩
        walk_at "rd"
        refine ⟨_, rfl, .inl ⟨_, _, rfl, by decide +kernel, rowsO_ona, fun p H9 s9 op => ?_⟩⟩
        walk_at "rd"
        refine ⟨Nat.le_of_ble_eq_true rfl, Rd.new fun q1 HA nq1 gq1 sA => ?_⟩
        walk_at "rd"
        refine ⟨Nat.le_of_ble_eq_true rfl, Rd.new fun q2 HB nq2 gq2 sB => ?_⟩
        walk_at "rd"
        refine ⟨Nat.le_of_ble_eq_true rfl, Rd.new fun q3 HC nq3 gq3 sC => ?_⟩
        walk_at "rd"
        have w : Lt.Wd 12 ("a" : Str) := ⟨fun c hc => by
          have : ∀ c ∈ ("a" : Str).cps.toList, c ∈ Lt.Abc.cps.toList := by decide +kernel
          exact this c hc, by decide +kernel, by decide +kernel⟩
        have R1 : RightS [(("on" : Str), ("a" : Str))] := ⟨by decide, by decide, fun s m => by
          cases List.mem_singleton.mp m
          exact ⟨.inl rfl, w⟩, ⟨_, rfl⟩, ⟨_, rfl⟩⟩
        have st : StepsAt HC q2 [(("on" : Str), ("a" : Str))] := (StepRow.one ((sB.trans sC) _ _ gq1)).tup (sC _ _ gq2)
        have os2 : OutR HC [some (("on" : Str), ("a" : Str))] q3 := .inr (.inr ⟨_, q2, rfl, R1, gq3, st⟩)
        refine eqShaped (outR_eq (op.same ((sA.trans sB).trans sC)) os2) ?_
        walk_at "rd"
        refine ⟨_, rfl, .inl ⟨_, _, rfl, by decide +kernel, rowsO_emp, fun p2 HD sD op2 => ?_⟩⟩
        walk_at "rd"
        refine ⟨Nat.le_of_ble_eq_true rfl, Rd.new fun q4 HE nq4 gq4 sE => ?_⟩
        walk_at "rd"
        have os3 : OutR HE [none] q4 := .inl ⟨0, ⟨rfl, fun j h => absurd h (Nat.not_lt_zero j)⟩, gq4⟩
        refine eqShaped (outR_eq (op2.same sE) os3) ?_
        exact k _
theorem ok_law (T : Txt w K mg) : Rg.FnG P w K mg base CX0 8 T.f_law T.fd_law ["_law_script"] (sp_law K) := by
  refine Rg.okG T.F_law sc_law (fun vs H Q E h => ?_) (fun cdv A outer s H vs Q E gd hr h => ?_)
  · obtain ⟨a, ns, rfl, _⟩ := h
    rfl
  · obtain ⟨a, ns, rfl, hS, hlen, k⟩ := h
    refine ⟨_, (pss_one (ps_ret (pe_and (Rg.pe_callG gd (ok_l_first T) (hr.mono (by decide)) rfl T.g_l_first T.F_l_first.kp T.b_l_first pass0 (pa_cons (pv 0) pa_nil)) (pe_one (pe_call (ok_l_second T) (hr.mono (by decide)) rfl T.g_l_second T.F_l_second.kp T.b_l_second .nil pass0 (pa_cons (pv 0) pa_nil)))))), ?_⟩
    walk_at "rd"
    refine ⟨a, ns, rfl, hS, fun H1 s1 => ?_⟩
    walk_at "rd"
    exact ⟨a, ns, rfl, Same.seq s1 hS, fun H2 => k _⟩

end
end W

namespace W
open PySem PySem.Spec PyProof.Rows L2
theorem all_mk {l : PySem.W.OpenLaw} {w : World} {K : PySem.W.Frag} {h : Heap} {mg : Str → Option Value} {fa : Addr} (X : K.In h) (G : h.Ns mainGlobals mg) (hfa : mg "law" = some (.ref fa))
    {f1 f2 f3 f4 f5 f6 f7 f8 f9 f10 f11 f12 f13 f14 f15 f16 f17 f18 f19 f20 f21 f22 f23 f24 f25 f26 f27 : Addr} {od1 an1 od2 an2 od3 an3 od4 an4 od5 an5 od6 an6 od7 an7 od8 an8 od9 an9 od10 an10 od11 an11 od12 an12 od13 an13 od14 an14 od15 an15 od16 an16 od17 an17 od18 an18 od19 an19 od20 an20 od21 an21 od22 an22 od23 an23 od24 an24 od25 an25 od26 an26 od27 an27 : Option Addr} {sl1 sl2 sl3 sl4 sl5 sl6 sl7 sl8 sl9 sl10 sl11 sl12 sl13 sl14 sl15 sl16 sl17 sl18 sl19 sl20 sl21 sl22 sl23 sl24 sl25 sl26 sl27 : Array (Option Value)} {oc1 kV1 dc1 pm1 cd1 ct1 oc2 kV2 dc2 pm2 cd2 ct2 oc3 kV3 dc3 pm3 cd3 ct3 oc4 kV4 dc4 pm4 cd4 ct4 oc5 kV5 dc5 pm5 cd5 ct5 oc6 kV6 dc6 pm6 cd6 ct6 oc7 kV7 dc7 pm7 cd7 ct7 oc8 kV8 dc8 pm8 cd8 ct8 oc9 kV9 dc9 pm9 cd9 ct9 oc10 kV10 dc10 pm10 cd10 ct10 oc11 kV11 dc11 pm11 cd11 ct11 oc12 kV12 dc12 pm12 cd12 ct12 oc13 kV13 dc13 pm13 cd13 ct13 oc14 kV14 dc14 pm14 cd14 ct14 oc15 kV15 dc15 pm15 cd15 ct15 oc16 kV16 dc16 pm16 cd16 ct16 oc17 kV17 dc17 pm17 cd17 ct17 oc18 kV18 dc18 pm18 cd18 ct18 oc19 kV19 dc19 pm19 cd19 ct19 oc20 kV20 dc20 pm20 cd20 ct20 oc21 kV21 dc21 pm21 cd21 ct21 oc22 kV22 dc22 pm22 cd22 ct22 oc23 kV23 dc23 pm23 cd23 ct23 oc24 kV24 dc24 pm24 cd24 ct24 oc25 kV25 dc25 pm25 cd25 ct25 oc26 kV26 dc26 pm26 cd26 ct26 oc27 kV27 dc27 pm27 cd27 ct27 : Value}
    {kqOTHER : Addr} {keOTHER : Array DictEntry} {knOTHER : Nat} (kuOTHER : PySem.W.nsIn K mainGlobals "OTHER" = some (some (.ref kqOTHER)))
    (klOTHER : K.lookup kqOTHER = some ⟨.type "dict", none, .dict keOTHER knOTHER, #[]⟩) (kkOTHER : PySem.W.KeysLit w.params keOTHER.toList) (kwOTHER : (kqOTHER == sysModules) = false)
    {ktOTHER_0 : Tok} (kvOTHER_0 : PySem.W.nsIn K kqOTHER "on" = some (some (.str "back" ktOTHER_0)))
    {ktOTHER_1 : Tok} (kvOTHER_1 : PySem.W.nsIn K kqOTHER "back" = some (some (.str "on" ktOTHER_1)))
    (nkOTHER_0 : PySem.W.nsIn K kqOTHER "On" = some none)
    {dT tN : Nat} {tC : Value} {tD : Option Addr} {tS : Array (Option Value)} (lT : K.lookup dT = some ⟨tC, tD, .seq [Value.none].toArray tN, tS⟩) (tI : PySem.W.typeIn K (.ref f1) = some (.type "function"))
    (xn : PySem.W.specialIn K (.builtin "object.__class__") "__get__" = some (some (.builtin "getset_descriptor.__get__"))) (xo : PySem.W.takesIn K (.builtin "object.__class__") = some true)
    {E0 : Addr} {xnm0 xq0 : Str} {xN0 : Addr} {xbs0 xbm0 xsub0 : List Value} {xsn0 : List Str} {xab0 : Bool} {xcol0 : Option Bool} {xdd0 : Option Addr} {xk0_0 xk1_0 xk2_0 xk3_0 xk5_0 : Option Value}
    (ue0 : PySem.W.nsIn K mainGlobals "BadWord" = some (some (.ref E0)))
    (xl0 : K.lookup E0 = some (excClassObj xnm0 xq0 E0 xN0 xbs0 xbm0 true xsn0 xsub0 xab0 xcol0 xdd0 xk0_0 xk1_0 xk2_0 xk3_0 xk5_0 "ValueError.__new__"))
    (rb0 : PySem.HandSPX.refsVE xbm0 = true)
    (xa0 : PySem.W.findIn K (.ref E0) "__setattr__" = some (some (.builtin "object.__setattr__")))
    (xb0 : PySem.W.subIn K (.ref E0) (.type "BaseException") = some true)
    (xc0 : PySem.W.typeIn K (.ref E0) = some (.type "type"))
    (xd0 : PySem.W.keepIn K (.ref E0) = true)
    (xe0 : PySem.W.findIn K (.ref E0) "__init__" = some (some (.ref f1)))
    (xf0 : PySem.W.findIn K (.ref E0) "value" = some none)
    (xg0 : PySem.W.findIn K (.ref E0) "__getattribute__" = some (some (.builtin "BaseException.__getattribute__")))
    (xh0 : PySem.W.findIn K (.ref E0) "__getattr__" = some none)
    (xi0 : PySem.W.hasDictIn K E0 = true)
    (xj0 : PySem.W.findIn K (.ref E0) "__class__" = some (some (.builtin "object.__class__")))
    (xm0 : PySem.W.mroIn K E0 (.type "object") = some true)
    (xp0 : PySem.W.isClsIn K E0 = true)
    (xs0 : PySem.W.subIn K (.ref E0) (.ref E0) = some true)
    {E1 : Addr} {xnm1 xq1 : Str} {xN1 : Addr} {xbs1 xbm1 xsub1 : List Value} {xsn1 : List Str} {xab1 : Bool} {xcol1 : Option Bool} {xdd1 : Option Addr} {xk0_1 xk1_1 xk2_1 xk3_1 xk5_1 : Option Value}
    (ue1 : PySem.W.nsIn K mainGlobals "BadRule" = some (some (.ref E1)))
    (xl1 : K.lookup E1 = some (excClassObj xnm1 xq1 E1 xN1 xbs1 xbm1 true xsn1 xsub1 xab1 xcol1 xdd1 xk0_1 xk1_1 xk2_1 xk3_1 xk5_1 "ValueError.__new__"))
    (rb1 : PySem.HandSPX.refsVE xbm1 = true)
    (xa1 : PySem.W.findIn K (.ref E1) "__setattr__" = some (some (.builtin "object.__setattr__")))
    (xb1 : PySem.W.subIn K (.ref E1) (.type "BaseException") = some true)
    (xc1 : PySem.W.typeIn K (.ref E1) = some (.type "type"))
    (xd1 : PySem.W.keepIn K (.ref E1) = true)
    (xe1 : PySem.W.findIn K (.ref E1) "__init__" = some (some (.ref f1)))
    (xf1 : PySem.W.findIn K (.ref E1) "value" = some none)
    (xg1 : PySem.W.findIn K (.ref E1) "__getattribute__" = some (some (.builtin "BaseException.__getattribute__")))
    (xh1 : PySem.W.findIn K (.ref E1) "__getattr__" = some none)
    (xi1 : PySem.W.hasDictIn K E1 = true)
    (xj1 : PySem.W.findIn K (.ref E1) "__class__" = some (some (.builtin "object.__class__")))
    (xm1 : PySem.W.mroIn K E1 (.type "object") = some true)
    (xp1 : PySem.W.isClsIn K E1 = true)
    (xs1 : PySem.W.subIn K (.ref E1) (.ref E1) = some true)
    {E2 : Addr} {xnm2 xq2 : Str} {xN2 : Addr} {xbs2 xbm2 xsub2 : List Value} {xsn2 : List Str} {xab2 : Bool} {xcol2 : Option Bool} {xdd2 : Option Addr} {xk0_2 xk1_2 xk2_2 xk3_2 xk5_2 : Option Value}
    (ue2 : PySem.W.nsIn K mainGlobals "BadText" = some (some (.ref E2)))
    (xl2 : K.lookup E2 = some (excClassObj xnm2 xq2 E2 xN2 xbs2 xbm2 true xsn2 xsub2 xab2 xcol2 xdd2 xk0_2 xk1_2 xk2_2 xk3_2 xk5_2 "ValueError.__new__"))
    (rb2 : PySem.HandSPX.refsVE xbm2 = true)
    (xa2 : PySem.W.findIn K (.ref E2) "__setattr__" = some (some (.builtin "object.__setattr__")))
    (xb2 : PySem.W.subIn K (.ref E2) (.type "BaseException") = some true)
    (xc2 : PySem.W.typeIn K (.ref E2) = some (.type "type"))
    (xd2 : PySem.W.keepIn K (.ref E2) = true)
    (xe2 : PySem.W.findIn K (.ref E2) "__init__" = some (some (.ref f1)))
    (xf2 : PySem.W.findIn K (.ref E2) "value" = some none)
    (xg2 : PySem.W.findIn K (.ref E2) "__getattribute__" = some (some (.builtin "BaseException.__getattribute__")))
    (xh2 : PySem.W.findIn K (.ref E2) "__getattr__" = some none)
    (xi2 : PySem.W.hasDictIn K E2 = true)
    (xj2 : PySem.W.findIn K (.ref E2) "__class__" = some (some (.builtin "object.__class__")))
    (xm2 : PySem.W.mroIn K E2 (.type "object") = some true)
    (xp2 : PySem.W.isClsIn K E2 = true)
    (xs2 : PySem.W.subIn K (.ref E2) (.ref E2) = some true)
    {E3 : Addr} {xnm3 xq3 : Str} {xN3 : Addr} {xbs3 xbm3 xsub3 : List Value} {xsn3 : List Str} {xab3 : Bool} {xcol3 : Option Bool} {xdd3 : Option Addr} {xk0_3 xk1_3 xk2_3 xk3_3 xk5_3 : Option Value}
    (ue3 : PySem.W.nsIn K mainGlobals "WayError" = some (some (.ref E3)))
    (xl3 : K.lookup E3 = some (excClassObj xnm3 xq3 E3 xN3 xbs3 xbm3 true xsn3 xsub3 xab3 xcol3 xdd3 xk0_3 xk1_3 xk2_3 xk3_3 xk5_3 "ValueError.__new__"))
    (rb3 : PySem.HandSPX.refsVE xbm3 = true)
    (xa3 : PySem.W.findIn K (.ref E3) "__setattr__" = some (some (.builtin "object.__setattr__")))
    (xb3 : PySem.W.subIn K (.ref E3) (.type "BaseException") = some true)
    (xc3 : PySem.W.typeIn K (.ref E3) = some (.type "type"))
    (xd3 : PySem.W.keepIn K (.ref E3) = true)
    (xe3 : PySem.W.findIn K (.ref E3) "__init__" = some (some (.ref f1)))
    (xf3 : PySem.W.findIn K (.ref E3) "value" = some none)
    (xg3 : PySem.W.findIn K (.ref E3) "__getattribute__" = some (some (.builtin "BaseException.__getattribute__")))
    (xh3 : PySem.W.findIn K (.ref E3) "__getattr__" = some none)
    (xi3 : PySem.W.hasDictIn K E3 = true)
    (xj3 : PySem.W.findIn K (.ref E3) "__class__" = some (some (.builtin "object.__class__")))
    (xm3 : PySem.W.mroIn K E3 (.type "object") = some true)
    (xp3 : PySem.W.isClsIn K E3 = true)
    (xs3 : PySem.W.subIn K (.ref E3) (.ref E3) = some true)
    (sp0 : PySem.W.subIn K (.ref E0) (.ref E2) = some false)
    (sp1 : PySem.W.subIn K (.ref E0) (.ref E3) = some true)
    (sp2 : PySem.W.subIn K (.ref E0) (.ref E1) = some false)
    (sp3 : PySem.W.subIn K (.ref E0) (.ref E0) = some true)
    (sp4 : PySem.W.subIn K (.ref E1) (.ref E2) = some false)
    (sp5 : PySem.W.subIn K (.ref E1) (.ref E3) = some true)
    (sp6 : PySem.W.subIn K (.ref E1) (.ref E1) = some true)
    (sp7 : PySem.W.subIn K (.ref E1) (.ref E0) = some false)
    (sp8 : PySem.W.subIn K (.ref E2) (.ref E2) = some true)
    (sp9 : PySem.W.subIn K (.ref E2) (.ref E3) = some true)
    (sp10 : PySem.W.subIn K (.ref E2) (.ref E1) = some false)
    (sp11 : PySem.W.subIn K (.ref E2) (.ref E0) = some false)
    (l1 : K.lookup f1 = some ⟨oc1, od1, .func (PySem.W.fnOf "__init__" "WayError.__init__" (defArgs s_WayError_init) (defBody s_WayError_init) (defScope s_WayError_init) (.ref dT) kV1 dc1 pm1 an1 cd1 ct1), sl1⟩) (c1 : PySem.W.codeIn K cd1 "WayError.__init__" = true) (k1 : PySem.W.keepIn K (.ref f1) = true)
    (a2 : PySem.W.nsIn K mainGlobals "is_letters" = some (some (.ref f2)))
    (l2 : K.lookup f2 = some ⟨oc2, od2, .func (PySem.W.fnOf "is_letters" "is_letters" (defArgs s_is_letters) (defBody s_is_letters) (defScope s_is_letters) .none kV2 dc2 pm2 an2 cd2 ct2), sl2⟩) (c2 : PySem.W.codeIn K cd2 "is_letters" = true) (k2 : PySem.W.keepIn K (.ref f2) = true)
    (a3 : PySem.W.nsIn K mainGlobals "is_word" = some (some (.ref f3)))
    (l3 : K.lookup f3 = some ⟨oc3, od3, .func (PySem.W.fnOf "is_word" "is_word" (defArgs s_is_word) (defBody s_is_word) (defScope s_is_word) .none kV3 dc3 pm3 an3 cd3 ct3), sl3⟩) (c3 : PySem.W.codeIn K cd3 "is_word" = true) (k3 : PySem.W.keepIn K (.ref f3) = true)
    (a4 : PySem.W.nsIn K mainGlobals "is_watch" = some (some (.ref f4)))
    (l4 : K.lookup f4 = some ⟨oc4, od4, .func (PySem.W.fnOf "is_watch" "is_watch" (defArgs s_is_watch) (defBody s_is_watch) (defScope s_is_watch) .none kV4 dc4 pm4 an4 cd4 ct4), sl4⟩) (c4 : PySem.W.codeIn K cd4 "is_watch" = true) (k4 : PySem.W.keepIn K (.ref f4) = true)
    (a5 : PySem.W.nsIn K mainGlobals "check_word" = some (some (.ref f5)))
    (l5 : K.lookup f5 = some ⟨oc5, od5, .func (PySem.W.fnOf "check_word" "check_word" (defArgs s_check_word) (defBody s_check_word) (defScope s_check_word) .none kV5 dc5 pm5 an5 cd5 ct5), sl5⟩) (c5 : PySem.W.codeIn K cd5 "check_word" = true) (k5 : PySem.W.keepIn K (.ref f5) = true)
    (a6 : PySem.W.nsIn K mainGlobals "is_step" = some (some (.ref f6)))
    (l6 : K.lookup f6 = some ⟨oc6, od6, .func (PySem.W.fnOf "is_step" "is_step" (defArgs s_is_step) (defBody s_is_step) (defScope s_is_step) .none kV6 dc6 pm6 an6 cd6 ct6), sl6⟩) (c6 : PySem.W.codeIn K cd6 "is_step" = true) (k6 : PySem.W.keepIn K (.ref f6) = true)
    (a7 : PySem.W.nsIn K mainGlobals "are_steps" = some (some (.ref f7)))
    (l7 : K.lookup f7 = some ⟨oc7, od7, .func (PySem.W.fnOf "are_steps" "are_steps" (defArgs s_are_steps) (defBody s_are_steps) (defScope s_are_steps) .none kV7 dc7 pm7 an7 cd7 ct7), sl7⟩) (c7 : PySem.W.codeIn K cd7 "are_steps" = true) (k7 : PySem.W.keepIn K (.ref f7) = true)
    (a8 : PySem.W.nsIn K mainGlobals "check_steps" = some (some (.ref f8)))
    (l8 : K.lookup f8 = some ⟨oc8, od8, .func (PySem.W.fnOf "check_steps" "check_steps" (defArgs s_check_steps) (defBody s_check_steps) (defScope s_check_steps) .none kV8 dc8 pm8 an8 cd8 ct8), sl8⟩) (c8 : PySem.W.codeIn K cd8 "check_steps" = true) (k8 : PySem.W.keepIn K (.ref f8) = true)
    (a9 : PySem.W.nsIn K mainGlobals "spots_of" = some (some (.ref f9)))
    (l9 : K.lookup f9 = some ⟨oc9, od9, .func (PySem.W.fnOf "spots_of" "spots_of" (defArgs s_spots_of) (defBody s_spots_of) (defScope s_spots_of) .none kV9 dc9 pm9 an9 cd9 ct9), sl9⟩) (c9 : PySem.W.codeIn K cd9 "spots_of" = true) (k9 : PySem.W.keepIn K (.ref f9) = true)
    (a10 : PySem.W.nsIn K mainGlobals "followed" = some (some (.ref f10)))
    (l10 : K.lookup f10 = some ⟨oc10, od10, .func (PySem.W.fnOf "followed" "followed" (defArgs s_followed) (defBody s_followed) (defScope s_followed) .none kV10 dc10 pm10 an10 cd10 ct10), sl10⟩) (c10 : PySem.W.codeIn K cd10 "followed" = true) (k10 : PySem.W.keepIn K (.ref f10) = true)
    (a11 : PySem.W.nsIn K mainGlobals "write_rule" = some (some (.ref f11)))
    (l11 : K.lookup f11 = some ⟨oc11, od11, .func (PySem.W.fnOf "write_rule" "write_rule" (defArgs s_write_rule) (defBody s_write_rule) (defScope s_write_rule) .none kV11 dc11 pm11 an11 cd11 ct11), sl11⟩) (c11 : PySem.W.codeIn K cd11 "write_rule" = true) (k11 : PySem.W.keepIn K (.ref f11) = true)
    (a12 : PySem.W.nsIn K mainGlobals "read_rule" = some (some (.ref f12)))
    (l12 : K.lookup f12 = some ⟨oc12, od12, .func (PySem.W.fnOf "read_rule" "read_rule" (defArgs s_read_rule) (defBody s_read_rule) (defScope s_read_rule) .none kV12 dc12 pm12 an12 cd12 ct12), sl12⟩) (c12 : PySem.W.codeIn K cd12 "read_rule" = true) (k12 : PySem.W.keepIn K (.ref f12) = true)
    (a13 : PySem.W.nsIn K mainGlobals "_law_tape" = some (some (.ref f13)))
    (l13 : K.lookup f13 = some ⟨oc13, od13, .func (PySem.W.fnOf "_law_tape" "_law_tape" (defArgs s_l_tape) (defBody s_l_tape) (defScope s_l_tape) .none kV13 dc13 pm13 an13 cd13 ct13), sl13⟩) (c13 : PySem.W.codeIn K cd13 "_law_tape" = true) (k13 : PySem.W.keepIn K (.ref f13) = true)
    (a14 : PySem.W.nsIn K mainGlobals "_law_pick" = some (some (.ref f14)))
    (l14 : K.lookup f14 = some ⟨oc14, od14, .func (PySem.W.fnOf "_law_pick" "_law_pick" (defArgs s_l_pick) (defBody s_l_pick) (defScope s_l_pick) .none kV14 dc14 pm14 an14 cd14 ct14), sl14⟩) (c14 : PySem.W.codeIn K cd14 "_law_pick" = true) (k14 : PySem.W.keepIn K (.ref f14) = true)
    (a15 : PySem.W.nsIn K mainGlobals "_law_letters" = some (some (.ref f15)))
    (l15 : K.lookup f15 = some ⟨oc15, od15, .func (PySem.W.fnOf "_law_letters" "_law_letters" (defArgs s_l_letters) (defBody s_l_letters) (defScope s_l_letters) .none kV15 dc15 pm15 an15 cd15 ct15), sl15⟩) (c15 : PySem.W.codeIn K cd15 "_law_letters" = true) (k15 : PySem.W.keepIn K (.ref f15) = true)
    (a16 : PySem.W.nsIn K mainGlobals "_law_word" = some (some (.ref f16)))
    (l16 : K.lookup f16 = some ⟨oc16, od16, .func (PySem.W.fnOf "_law_word" "_law_word" (defArgs s_l_word) (defBody s_l_word) (defScope s_l_word) .none kV16 dc16 pm16 an16 cd16 ct16), sl16⟩) (c16 : PySem.W.codeIn K cd16 "_law_word" = true) (k16 : PySem.W.keepIn K (.ref f16) = true)
    (a17 : PySem.W.nsIn K mainGlobals "_law_watch" = some (some (.ref f17)))
    (l17 : K.lookup f17 = some ⟨oc17, od17, .func (PySem.W.fnOf "_law_watch" "_law_watch" (defArgs s_l_watch) (defBody s_l_watch) (defScope s_l_watch) .none kV17 dc17 pm17 an17 cd17 ct17), sl17⟩) (c17 : PySem.W.codeIn K cd17 "_law_watch" = true) (k17 : PySem.W.keepIn K (.ref f17) = true)
    (a18 : PySem.W.nsIn K mainGlobals "_law_rule" = some (some (.ref f18)))
    (l18 : K.lookup f18 = some ⟨oc18, od18, .func (PySem.W.fnOf "_law_rule" "_law_rule" (defArgs s_l_rule) (defBody s_l_rule) (defScope s_l_rule) .none kV18 dc18 pm18 an18 cd18 ct18), sl18⟩) (c18 : PySem.W.codeIn K cd18 "_law_rule" = true) (k18 : PySem.W.keepIn K (.ref f18) = true)
    (a19 : PySem.W.nsIn K mainGlobals "_law_text" = some (some (.ref f19)))
    (l19 : K.lookup f19 = some ⟨oc19, od19, .func (PySem.W.fnOf "_law_text" "_law_text" (defArgs s_l_text) (defBody s_l_text) (defScope s_l_text) .none kV19 dc19 pm19 an19 cd19 ct19), sl19⟩) (c19 : PySem.W.codeIn K cd19 "_law_text" = true) (k19 : PySem.W.keepIn K (.ref f19) = true)
    (a20 : PySem.W.nsIn K mainGlobals "_law_first" = some (some (.ref f20)))
    (l20 : K.lookup f20 = some ⟨oc20, od20, .func (PySem.W.fnOf "_law_first" "_law_first" (defArgs s_l_first) (defBody s_l_first) (defScope s_l_first) .none kV20 dc20 pm20 an20 cd20 ct20), sl20⟩) (c20 : PySem.W.codeIn K cd20 "_law_first" = true) (k20 : PySem.W.keepIn K (.ref f20) = true)
    (a21 : PySem.W.nsIn K mainGlobals "_law_is_watch" = some (some (.ref f21)))
    (l21 : K.lookup f21 = some ⟨oc21, od21, .func (PySem.W.fnOf "_law_is_watch" "_law_is_watch" (defArgs s_l_is_watch) (defBody s_l_is_watch) (defScope s_l_is_watch) .none kV21 dc21 pm21 an21 cd21 ct21), sl21⟩) (c21 : PySem.W.codeIn K cd21 "_law_is_watch" = true) (k21 : PySem.W.keepIn K (.ref f21) = true)
    (a22 : PySem.W.nsIn K mainGlobals "_law_due" = some (some (.ref f22)))
    (l22 : K.lookup f22 = some ⟨oc22, od22, .func (PySem.W.fnOf "_law_due" "_law_due" (defArgs s_l_due) (defBody s_l_due) (defScope s_l_due) .none kV22 dc22 pm22 an22 cd22 ct22), sl22⟩) (c22 : PySem.W.codeIn K cd22 "_law_due" = true) (k22 : PySem.W.keepIn K (.ref f22) = true)
    (a23 : PySem.W.nsIn K mainGlobals "_law_asked" = some (some (.ref f23)))
    (l23 : K.lookup f23 = some ⟨oc23, od23, .func (PySem.W.fnOf "_law_asked" "_law_asked" (defArgs s_l_asked) (defBody s_l_asked) (defScope s_l_asked) .none kV23 dc23 pm23 an23 cd23 ct23), sl23⟩) (c23 : PySem.W.codeIn K cd23 "_law_asked" = true) (k23 : PySem.W.keepIn K (.ref f23) = true)
    (a24 : PySem.W.nsIn K mainGlobals "_law_rows" = some (some (.ref f24)))
    (l24 : K.lookup f24 = some ⟨oc24, od24, .func (PySem.W.fnOf "_law_rows" "_law_rows" (defArgs s_l_rows) (defBody s_l_rows) (defScope s_l_rows) .none kV24 dc24 pm24 an24 cd24 ct24), sl24⟩) (c24 : PySem.W.codeIn K cd24 "_law_rows" = true) (k24 : PySem.W.keepIn K (.ref f24) = true)
    (a25 : PySem.W.nsIn K mainGlobals "_law_bent" = some (some (.ref f25)))
    (l25 : K.lookup f25 = some ⟨oc25, od25, .func (PySem.W.fnOf "_law_bent" "_law_bent" (defArgs s_l_bent) (defBody s_l_bent) (defScope s_l_bent) .none kV25 dc25 pm25 an25 cd25 ct25), sl25⟩) (c25 : PySem.W.codeIn K cd25 "_law_bent" = true) (k25 : PySem.W.keepIn K (.ref f25) = true)
    (a26 : PySem.W.nsIn K mainGlobals "_law_second" = some (some (.ref f26)))
    (l26 : K.lookup f26 = some ⟨oc26, od26, .func (PySem.W.fnOf "_law_second" "_law_second" (defArgs s_l_second) (defBody s_l_second) (defScope s_l_second) .none kV26 dc26 pm26 an26 cd26 ct26), sl26⟩) (c26 : PySem.W.codeIn K cd26 "_law_second" = true) (k26 : PySem.W.keepIn K (.ref f26) = true)
    (a27 : PySem.W.nsIn K mainGlobals "law" = some (some (.ref f27)))
    (l27 : K.lookup f27 = some ⟨oc27, od27, .func (PySem.W.fnOf "law" "law" (defArgs s_law) (defBody s_law) (defScope s_law) .none kV27 dc27 pm27 an27 cd27 ct27), sl27⟩) (c27 : PySem.W.codeIn K cd27 "law" = true) (k27 : PySem.W.keepIn K (.ref f27) = true)
    (z0 : PySem.W.nsIn K mainGlobals "isinstance" = some none)
    (z1 : PySem.W.nsIn K mainGlobals "str" = some none)
    (z2 : PySem.W.nsIn K mainGlobals "all" = some none)
    (z3 : PySem.W.nsIn K mainGlobals "len" = some none)
    (z4 : PySem.W.nsIn K mainGlobals "tuple" = some none)
    (z5 : PySem.W.nsIn K mainGlobals "min" = some none)
    (z6 : PySem.W.nsIn K mainGlobals "max" = some none)
    (z7 : PySem.W.nsIn K mainGlobals "enumerate" = some none)
    (z8 : PySem.W.nsIn K mainGlobals "list" = some none)
    (z9 : PySem.W.nsIn K mainGlobals "int" = some none)
    (z10 : PySem.W.nsIn K mainGlobals "range" = some none)
    (z11 : PySem.W.nsIn K mainGlobals "repr" = some none)
    {t0 : Tok} (y0 : PySem.W.nsIn K mainGlobals "LETTERS" = some (some (.str "abcdefghijklmnopqrstuvwxyz" t0)))
    {t1 : Tok} (y1 : PySem.W.nsIn K mainGlobals "MOST_WORD" = some (some (.int 40 t1)))
    {t2 : Tok} (y2 : PySem.W.nsIn K mainGlobals "MOST_WATCH" = some (some (.int 12 t2)))
    {t3 : Tok} (y3 : PySem.W.nsIn K mainGlobals "MOST_STEPS" = some (some (.int 80 t3)))
    : ∃ fd : FuncData, (∀ (s : Shared) (v : Value), BindsTo s fd ⟨[v], []⟩ [("_law_script", v)]) ∧ ∀ base : Heap, K.In base → base.Ns mainGlobals mg → Rg.FnG l.prog w K mg base CX0 8 fa fd ["_law_script"] (sp_law K) := by
  have e := hfa.symm.trans (PySem.W.mg_of X G a27)
  cases e
  have D1 : FunD K "__init__" "WayError.__init__" (defArgs s_WayError_init) (defBody s_WayError_init) (defScope s_WayError_init) [.non] [] f1 _ := ⟨⟨oc1, od1, .ref dT, kV1, dc1, pm1, an1, cd1, ct1, sl1, rfl, l1, c1, .inr ⟨by simp, dT, _, [.none], tN, rfl, lT, rfl, .cons rfl .nil⟩, .inl rfl⟩, k1⟩
  have F2 := fun_mk (st := s_is_letters) l2 c2 k2
  have F3 := fun_mk (st := s_is_word) l3 c3 k3
  have F4 := fun_mk (st := s_is_watch) l4 c4 k4
  have F5 := fun_mk (st := s_check_word) l5 c5 k5
  have F6 := fun_mk (st := s_is_step) l6 c6 k6
  have F7 := fun_mk (st := s_are_steps) l7 c7 k7
  have F8 := fun_mk (st := s_check_steps) l8 c8 k8
  have F9 := fun_mk (st := s_spots_of) l9 c9 k9
  have F10 := fun_mk (st := s_followed) l10 c10 k10
  have F11 := fun_mk (st := s_write_rule) l11 c11 k11
  have F12 := fun_mk (st := s_read_rule) l12 c12 k12
  have F13 := fun_mk (st := s_l_tape) l13 c13 k13
  have F14 := fun_mk (st := s_l_pick) l14 c14 k14
  have F15 := fun_mk (st := s_l_letters) l15 c15 k15
  have F16 := fun_mk (st := s_l_word) l16 c16 k16
  have F17 := fun_mk (st := s_l_watch) l17 c17 k17
  have F18 := fun_mk (st := s_l_rule) l18 c18 k18
  have F19 := fun_mk (st := s_l_text) l19 c19 k19
  have F20 := fun_mk (st := s_l_first) l20 c20 k20
  have F21 := fun_mk (st := s_l_is_watch) l21 c21 k21
  have F22 := fun_mk (st := s_l_due) l22 c22 k22
  have F23 := fun_mk (st := s_l_asked) l23 c23 k23
  have F24 := fun_mk (st := s_l_rows) l24 c24 k24
  have F25 := fun_mk (st := s_l_bent) l25 c25 k25
  have F26 := fun_mk (st := s_l_second) l26 c26 k26
  have F27 := fun_mk (st := s_law) l27 c27 k27
  let T : Txt w K mg := {
    q_OTHER := kqOTHER, es_OTHER := keOTHER, sz_OTHER := knOTHER, m_OTHER := PySem.W.mg_of X G kuOTHER, D_OTHER := ⟨klOTHER, kkOTHER, kwOTHER⟩, kt_OTHER_0 := ktOTHER_0, kv_OTHER_0 := kvOTHER_0, kt_OTHER_1 := ktOTHER_1, kv_OTHER_1 := kvOTHER_1, nk_OTHER_0 := nkOTHER_0,
    C_BadWord := E0, c_BadWord := PySem.W.mg_of X G ue0, X_BadWord := ⟨⟨⟨_, _, _, _, _, _, _, _, _, _, _, _, _, _, _, xl0, rb0⟩, xa0, xb0, xc0, xd0⟩, ⟨xg0, xh0, xb0, xi0, xj0, xn, xo, xm0⟩, xe0, xf0, xp0, xs0⟩,
    C_BadRule := E1, c_BadRule := PySem.W.mg_of X G ue1, X_BadRule := ⟨⟨⟨_, _, _, _, _, _, _, _, _, _, _, _, _, _, _, xl1, rb1⟩, xa1, xb1, xc1, xd1⟩, ⟨xg1, xh1, xb1, xi1, xj1, xn, xo, xm1⟩, xe1, xf1, xp1, xs1⟩,
    C_BadText := E2, c_BadText := PySem.W.mg_of X G ue2, X_BadText := ⟨⟨⟨_, _, _, _, _, _, _, _, _, _, _, _, _, _, _, xl2, rb2⟩, xa2, xb2, xc2, xd2⟩, ⟨xg2, xh2, xb2, xi2, xj2, xn, xo, xm2⟩, xe2, xf2, xp2, xs2⟩,
    C_WayError := E3, c_WayError := PySem.W.mg_of X G ue3, X_WayError := ⟨⟨⟨_, _, _, _, _, _, _, _, _, _, _, _, _, _, _, xl3, rb3⟩, xa3, xb3, xc3, xd3⟩, ⟨xg3, xh3, xb3, xi3, xj3, xn, xo, xm3⟩, xe3, xf3, xp3, xs3⟩,
    s_BadWord_BadText := sp0,
    s_BadWord_WayError := sp1,
    s_BadWord_BadRule := sp2,
    s_BadWord_BadWord := sp3,
    s_BadRule_BadText := sp4,
    s_BadRule_WayError := sp5,
    s_BadRule_BadRule := sp6,
    s_BadRule_BadWord := sp7,
    s_BadText_BadText := sp8,
    s_BadText_WayError := sp9,
    s_BadText_BadRule := sp10,
    s_BadText_BadWord := sp11,
    f_WayError_init := f1, fd_WayError_init := _, D_WayError_init := D1, b_WayError_init := Rx.binds2 D1 (fun _ _ _ _ _ _ _ us its h1 h2 => match us, its, h1, h2 with | [_, _], [_], _, _ => ⟨_, rfl, rfl⟩), tI_WayError_init := tI,
    f_is_letters := f2, fd_is_letters := _, F_is_letters := F2, g_is_letters := PySem.W.mg_of X G a2, b_is_letters := F2.binds (ps := ["value"]) fun _ _ _ _ _ _ us hl => match us, hl with | [_], _ => rfl,
    f_is_word := f3, fd_is_word := _, F_is_word := F3, g_is_word := PySem.W.mg_of X G a3, b_is_word := F3.binds (ps := ["thing"]) fun _ _ _ _ _ _ us hl => match us, hl with | [_], _ => rfl,
    f_is_watch := f4, fd_is_watch := _, F_is_watch := F4, g_is_watch := PySem.W.mg_of X G a4, b_is_watch := F4.binds (ps := ["thing"]) fun _ _ _ _ _ _ us hl => match us, hl with | [_], _ => rfl,
    f_check_word := f5, fd_check_word := _, F_check_word := F5, g_check_word := PySem.W.mg_of X G a5, b_check_word := F5.binds (ps := ["word"]) fun _ _ _ _ _ _ us hl => match us, hl with | [_], _ => rfl,
    f_is_step := f6, fd_is_step := _, F_is_step := F6, g_is_step := PySem.W.mg_of X G a6, b_is_step := F6.binds (ps := ["thing"]) fun _ _ _ _ _ _ us hl => match us, hl with | [_], _ => rfl,
    f_are_steps := f7, fd_are_steps := _, F_are_steps := F7, g_are_steps := PySem.W.mg_of X G a7, b_are_steps := F7.binds (ps := ["thing"]) fun _ _ _ _ _ _ us hl => match us, hl with | [_], _ => rfl,
    f_check_steps := f8, fd_check_steps := _, F_check_steps := F8, g_check_steps := PySem.W.mg_of X G a8, b_check_steps := F8.binds (ps := ["rule"]) fun _ _ _ _ _ _ us hl => match us, hl with | [_], _ => rfl,
    f_spots_of := f9, fd_spots_of := _, F_spots_of := F9, g_spots_of := PySem.W.mg_of X G a9, b_spots_of := F9.binds (ps := ["word", "steps"]) fun _ _ _ _ _ _ us hl => match us, hl with | [_, _], _ => rfl,
    f_followed := f10, fd_followed := _, F_followed := F10, g_followed := PySem.W.mg_of X G a10, b_followed := F10.binds (ps := ["word", "rule"]) fun _ _ _ _ _ _ us hl => match us, hl with | [_, _], _ => rfl,
    f_write_rule := f11, fd_write_rule := _, F_write_rule := F11, g_write_rule := PySem.W.mg_of X G a11, b_write_rule := F11.binds (ps := ["rule"]) fun _ _ _ _ _ _ us hl => match us, hl with | [_], _ => rfl,
    f_read_rule := f12, fd_read_rule := _, F_read_rule := F12, g_read_rule := PySem.W.mg_of X G a12, b_read_rule := F12.binds (ps := ["text"]) fun _ _ _ _ _ _ us hl => match us, hl with | [_], _ => rfl,
    f_l_tape := f13, fd_l_tape := _, F_l_tape := F13, g_l_tape := PySem.W.mg_of X G a13, b_l_tape := F13.binds (ps := ["_law_script"]) fun _ _ _ _ _ _ us hl => match us, hl with | [_], _ => rfl,
    f_l_pick := f14, fd_l_pick := _, F_l_pick := F14, g_l_pick := PySem.W.mg_of X G a14, b_l_pick := F14.binds (ps := ["_law_tape_here", "_law_size"]) fun _ _ _ _ _ _ us hl => match us, hl with | [_, _], _ => rfl,
    f_l_letters := f15, fd_l_letters := _, F_l_letters := F15, g_l_letters := PySem.W.mg_of X G a15, b_l_letters := F15.binds (ps := ["_law_tape_here", "_law_many"]) fun _ _ _ _ _ _ us hl => match us, hl with | [_, _], _ => rfl,
    f_l_word := f16, fd_l_word := _, F_l_word := F16, g_l_word := PySem.W.mg_of X G a16, b_l_word := F16.binds (ps := ["_law_tape_here", "_law_most"]) fun _ _ _ _ _ _ us hl => match us, hl with | [_, _], _ => rfl,
    f_l_watch := f17, fd_l_watch := _, F_l_watch := F17, g_l_watch := PySem.W.mg_of X G a17, b_l_watch := F17.binds (ps := ["_law_tape_here", "_law_word_here", "_law_most"]) fun _ _ _ _ _ _ us hl => match us, hl with | [_, _, _], _ => rfl,
    f_l_rule := f18, fd_l_rule := _, F_l_rule := F18, g_l_rule := PySem.W.mg_of X G a18, b_l_rule := F18.binds (ps := ["_law_tape_here"]) fun _ _ _ _ _ _ us hl => match us, hl with | [_], _ => rfl,
    f_l_text := f19, fd_l_text := _, F_l_text := F19, g_l_text := PySem.W.mg_of X G a19, b_l_text := F19.binds (ps := ["_law_steps"]) fun _ _ _ _ _ _ us hl => match us, hl with | [_], _ => rfl,
    f_l_first := f20, fd_l_first := _, F_l_first := F20, g_l_first := PySem.W.mg_of X G a20, b_l_first := F20.binds (ps := ["_law_script"]) fun _ _ _ _ _ _ us hl => match us, hl with | [_], _ => rfl,
    f_l_is_watch := f21, fd_l_is_watch := _, F_l_is_watch := F21, g_l_is_watch := PySem.W.mg_of X G a21, b_l_is_watch := F21.binds (ps := ["_law_thing"]) fun _ _ _ _ _ _ us hl => match us, hl with | [_], _ => rfl,
    f_l_due := f22, fd_l_due := _, F_l_due := F22, g_l_due := PySem.W.mg_of X G a22, b_l_due := F22.binds (ps := ["_law_text_here"]) fun _ _ _ _ _ _ us hl => match us, hl with | [_], _ => rfl,
    f_l_asked := f23, fd_l_asked := _, F_l_asked := F23, g_l_asked := PySem.W.mg_of X G a23, b_l_asked := F23.binds (ps := ["_law_text_here"]) fun _ _ _ _ _ _ us hl => match us, hl with | [_], _ => rfl,
    f_l_rows := f24, fd_l_rows := _, F_l_rows := F24, g_l_rows := PySem.W.mg_of X G a24, b_l_rows := F24.binds (ps := ["_law_tape_here"]) fun _ _ _ _ _ _ us hl => match us, hl with | [_], _ => rfl,
    f_l_bent := f25, fd_l_bent := _, F_l_bent := F25, g_l_bent := PySem.W.mg_of X G a25, b_l_bent := F25.binds (ps := ["_law_tape_here", "_law_rows_here"]) fun _ _ _ _ _ _ us hl => match us, hl with | [_, _], _ => rfl,
    f_l_second := f26, fd_l_second := _, F_l_second := F26, g_l_second := PySem.W.mg_of X G a26, b_l_second := F26.binds (ps := ["_law_script"]) fun _ _ _ _ _ _ us hl => match us, hl with | [_], _ => rfl,
    f_law := fa, fd_law := _, F_law := F27, g_law := PySem.W.mg_of X G a27, b_law := F27.binds (ps := ["_law_script"]) fun _ _ _ _ _ _ us hl => match us, hl with | [_], _ => rfl,
    n_isinstance := PySem.W.mg_none_of X G z0,
    n_str := PySem.W.mg_none_of X G z1,
    n_all := PySem.W.mg_none_of X G z2,
    n_len := PySem.W.mg_none_of X G z3,
    n_tuple := PySem.W.mg_none_of X G z4,
    n_min := PySem.W.mg_none_of X G z5,
    n_max := PySem.W.mg_none_of X G z6,
    n_enumerate := PySem.W.mg_none_of X G z7,
    n_list := PySem.W.mg_none_of X G z8,
    n_int := PySem.W.mg_none_of X G z9,
    n_range := PySem.W.mg_none_of X G z10,
    n_repr := PySem.W.mg_none_of X G z11,
    t_LETTERS := t0, m_LETTERS := PySem.W.mg_of X G y0,
    t_MOST_WORD := t1, m_MOST_WORD := PySem.W.mg_of X G y1,
    t_MOST_WATCH := t2, m_MOST_WATCH := PySem.W.mg_of X G y2,
    t_MOST_STEPS := t3, m_MOST_STEPS := PySem.W.mg_of X G y3 }
  exact ⟨_, fun s v => .of_eq rfl, fun base _ _ => ok_law T⟩
theorem walk {l : PySem.W.OpenLaw} {q : Program} {loose : List Str} {XP : (Str → Option Value) → Heap → Prop} {YP : World → Heap → Prop} {d : DefRec} {K : Params → PySem.W.Frag} (hn : l.most = some 63) (hdf : d.params.defaults = [])
    (hY : ∀ (w : World) (h : Heap), YP w h → (K w.params).In h)
    (F : ∀ (w : World) (mg : Str → Option Value) (fa : Addr) (h : Heap), (K w.params).In h → h.Ns mainGlobals mg → mg d.name = some (.ref fa) →
      ∃ fd : FuncData, (∀ (s : Shared) (u : Value), BindsTo s fd ⟨[u], []⟩ [("_law_script", u)]) ∧ ∀ base : Heap, (K w.params).In base → base.Ns mainGlobals mg → Rg.FnG l.prog w (K w.params) mg base CX0 8 fa fd ["_law_script"] (sp_law (K w.params))) :
    PySem.W.WalkO q loose XP YP l.row.toRowW d [] (fun f vs => PySem.call f vs) :=
  Rg.walk_ofG (n := 63) (k := 8) (x := "_law_script") (CX := fun _ => CX0) (sp := fun w => sp_law (K w.params)) hn (by decide) hdf ⟨rfl, by decide, by decide⟩ hY F (fun _ _ a ns hl hS => ⟨a, ns, rfl, hS, hl, fun _ => rfl⟩) fun _ _ _ _ _ z => z
end W
open PySem PySem.W PyProof.Rows
set_option maxRecDepth 100000 in
set_option maxHeartbeats 0 in
theorem PySem.Challenge.cw_watchedways_k18_whole_rules_as_rows_holds : PySem.Challenge.rw_watchedways_k18_whole_rules_as_rows.Holds := by
  w_on; o_law; k_head; (case hw => w_witness2)
  k_fill
  refine W.walk (l := PySem.Challenge.rw_watchedways_k18_whole_rules_as_rows) rfl rfl (fun w h Y => PySem.W.kIn_of Y) ?F
  case F =>
    intro w mg fa h KX G hmg
    refine' W.all_mk KX G hmg ?kuOTHER ?klOTHER ?kkOTHER ?kwOTHER ?kvOTHER_0 ?kvOTHER_1 ?nkOTHER_0 ?lT ?tI ?xn ?xo ?ue0 ?xl0 ?rb0 ?xa0 ?xb0 ?xc0 ?xd0 ?xe0 ?xf0 ?xg0 ?xh0 ?xi0 ?xj0 ?xm0 ?xp0 ?xs0 ?ue1 ?xl1 ?rb1 ?xa1 ?xb1 ?xc1 ?xd1 ?xe1 ?xf1 ?xg1 ?xh1 ?xi1 ?xj1 ?xm1 ?xp1 ?xs1 ?ue2 ?xl2 ?rb2 ?xa2 ?xb2 ?xc2 ?xd2 ?xe2 ?xf2 ?xg2 ?xh2 ?xi2 ?xj2 ?xm2 ?xp2 ?xs2 ?ue3 ?xl3 ?rb3 ?xa3 ?xb3 ?xc3 ?xd3 ?xe3 ?xf3 ?xg3 ?xh3 ?xi3 ?xj3 ?xm3 ?xp3 ?xs3 ?sp0 ?sp1 ?sp2 ?sp3 ?sp4 ?sp5 ?sp6 ?sp7 ?sp8 ?sp9 ?sp10 ?sp11 ?l1 ?c1 ?k1 ?a2 ?l2 ?c2 ?k2 ?a3 ?l3 ?c3 ?k3 ?a4 ?l4 ?c4 ?k4 ?a5 ?l5 ?c5 ?k5 ?a6 ?l6 ?c6 ?k6 ?a7 ?l7 ?c7 ?k7 ?a8 ?l8 ?c8 ?k8 ?a9 ?l9 ?c9 ?k9 ?a10 ?l10 ?c10 ?k10 ?a11 ?l11 ?c11 ?k11 ?a12 ?l12 ?c12 ?k12 ?a13 ?l13 ?c13 ?k13 ?a14 ?l14 ?c14 ?k14 ?a15 ?l15 ?c15 ?k15 ?a16 ?l16 ?c16 ?k16 ?a17 ?l17 ?c17 ?k17 ?a18 ?l18 ?c18 ?k18 ?a19 ?l19 ?c19 ?k19 ?a20 ?l20 ?c20 ?k20 ?a21 ?l21 ?c21 ?k21 ?a22 ?l22 ?c22 ?k22 ?a23 ?l23 ?c23 ?k23 ?a24 ?l24 ?c24 ?k24 ?a25 ?l25 ?c25 ?k25 ?a26 ?l26 ?c26 ?k26 ?a27 ?l27 ?c27 ?k27 ?z0 ?z1 ?z2 ?z3 ?z4 ?z5 ?z6 ?z7 ?z8 ?z9 ?z10 ?z11 ?y0 ?y1 ?y2 ?y3
    (case ue0 => k_is); (case xe0 => k_is); (case l1 => k_is); (case kuOTHER => k_is); (case klOTHER => k_is); (case kkOTHER => exact ⟨⟨_, _, rfl, rfl⟩, ⟨_, _, rfl, rfl⟩, trivial⟩); (case kwOTHER => rfl); (case kvOTHER_0 => k_is); (case kvOTHER_1 => k_is); (case nkOTHER_0 => k_is); (case lT => k_is); (case tI => k_is); (case xn => k_is); (case xo => k_is); (case xl0 => k_is); (case rb0 => rfl); (case xa0 => k_is); (case xb0 => k_is); (case xc0 => k_is); (case xd0 => k_is); (case xf0 => k_is); (case xg0 => k_is); (case xh0 => k_is); (case xi0 => k_is); (case xj0 => k_is); (case xm0 => k_is); (case xp0 => k_is); (case xs0 => k_is); (case ue1 => k_is); (case xl1 => k_is); (case rb1 => rfl); (case xa1 => k_is); (case xb1 => k_is); (case xc1 => k_is); (case xd1 => k_is); (case xe1 => k_is); (case xf1 => k_is); (case xg1 => k_is); (case xh1 => k_is); (case xi1 => k_is); (case xj1 => k_is); (case xm1 => k_is); (case xp1 => k_is); (case xs1 => k_is); (case ue2 => k_is); (case xl2 => k_is); (case rb2 => rfl); (case xa2 => k_is); (case xb2 => k_is); (case xc2 => k_is); (case xd2 => k_is); (case xe2 => k_is); (case xf2 => k_is); (case xg2 => k_is); (case xh2 => k_is); (case xi2 => k_is); (case xj2 => k_is); (case xm2 => k_is); (case xp2 => k_is); (case xs2 => k_is); (case ue3 => k_is); (case xl3 => k_is); (case rb3 => rfl); (case xa3 => k_is); (case xb3 => k_is); (case xc3 => k_is); (case xd3 => k_is); (case xe3 => k_is); (case xf3 => k_is); (case xg3 => k_is); (case xh3 => k_is); (case xi3 => k_is); (case xj3 => k_is); (case xm3 => k_is); (case xp3 => k_is); (case xs3 => k_is); (case sp0 => k_is); (case sp1 => k_is); (case sp2 => k_is); (case sp3 => k_is); (case sp4 => k_is); (case sp5 => k_is); (case sp6 => k_is); (case sp7 => k_is); (case sp8 => k_is); (case sp9 => k_is); (case sp10 => k_is); (case sp11 => k_is); (case c1 => k_is); (case k1 => k_is); (case a2 => k_is); (case l2 => k_is); (case c2 => k_is); (case k2 => k_is); (case a3 => k_is); (case l3 => k_is); (case c3 => k_is); (case k3 => k_is); (case a4 => k_is); (case l4 => k_is); (case c4 => k_is); (case k4 => k_is); (case a5 => k_is); (case l5 => k_is); (case c5 => k_is); (case k5 => k_is); (case a6 => k_is); (case l6 => k_is); (case c6 => k_is); (case k6 => k_is); (case a7 => k_is); (case l7 => k_is); (case c7 => k_is); (case k7 => k_is); (case a8 => k_is); (case l8 => k_is); (case c8 => k_is); (case k8 => k_is); (case a9 => k_is); (case l9 => k_is); (case c9 => k_is); (case k9 => k_is); (case a10 => k_is); (case l10 => k_is); (case c10 => k_is); (case k10 => k_is); (case a11 => k_is); (case l11 => k_is); (case c11 => k_is); (case k11 => k_is); (case a12 => k_is); (case l12 => k_is); (case c12 => k_is); (case k12 => k_is); (case a13 => k_is); (case l13 => k_is); (case c13 => k_is); (case k13 => k_is); (case a14 => k_is); (case l14 => k_is); (case c14 => k_is); (case k14 => k_is); (case a15 => k_is); (case l15 => k_is); (case c15 => k_is); (case k15 => k_is); (case a16 => k_is); (case l16 => k_is); (case c16 => k_is); (case k16 => k_is); (case a17 => k_is); (case l17 => k_is); (case c17 => k_is); (case k17 => k_is); (case a18 => k_is); (case l18 => k_is); (case c18 => k_is); (case k18 => k_is); (case a19 => k_is); (case l19 => k_is); (case c19 => k_is); (case k19 => k_is); (case a20 => k_is); (case l20 => k_is); (case c20 => k_is); (case k20 => k_is); (case a21 => k_is); (case l21 => k_is); (case c21 => k_is); (case k21 => k_is); (case a22 => k_is); (case l22 => k_is); (case c22 => k_is); (case k22 => k_is); (case a23 => k_is); (case l23 => k_is); (case c23 => k_is); (case k23 => k_is); (case a24 => k_is); (case l24 => k_is); (case c24 => k_is); (case k24 => k_is); (case a25 => k_is); (case l25 => k_is); (case c25 => k_is); (case k25 => k_is); (case a26 => k_is); (case l26 => k_is); (case c26 => k_is); (case k26 => k_is); (case a27 => k_is); (case l27 => k_is); (case c27 => k_is); (case k27 => k_is); (case z0 => k_is); (case z1 => k_is); (case z2 => k_is); (case z3 => k_is); (case z4 => k_is); (case z5 => k_is); (case z6 => k_is); (case z7 => k_is); (case z8 => k_is); (case z9 => k_is); (case z10 => k_is); (case z11 => k_is); (case y0 => k_is); (case y1 => k_is); (case y2 => k_is); (case y3 => k_is)
